import PyProof.Rows.All
import Wide.All
import OpenK.AllK
import Wide.FinOn
import KE.KPop
import Lean
import PySem.Challenge.RW_sa0416_01
set_option Elab.async false
set_option bootstrap.genMatcherCode false
set_option maxRecDepth 100000
set_option genSizeOf false
set_option genInjectivity false
set_option linter.all false
noncomputable section
namespace Mine
open PySem PySem.W PyProof.Rows PySem.SeqAt PySem.Calls
abbrev aa:=@decide_eq_true
abbrev ah:=@Option.bind_some
abbrev ai:=@of_decide_eq_true
abbrev aj:=@List.length_map
abbrev ak:=@Bool.and_eq_true_iff
abbrev ao:=@decide_eq_false
abbrev aq:=@if_pos
abbrev au:=@if_neg
abbrev av:=@wpAny_bind
abbrev ay:=@List.length_append
abbrev az:=@Nat.le_refl
abbrev aA:=@List.mem_singleton
abbrev aC:=@List.mem_cons
abbrev aE:=@List.mem_cons_self
abbrev aF:=@Nat.lt_of_le_of_lt
abbrev aG:=@List.all_eq_true
abbrev aH:=@wpAny_pure
abbrev aI:=@Bool.and_eq_true
abbrev aJ:=@List.forall_mem_cons
abbrev aK:=@decide_eq_true_eq
abbrev aL:=@Array.length_toList
abbrev aN:=@List.mem_map
abbrev aO:=@List.mem_cons_of_mem
abbrev aQ:=@Heap.get?_push_of_some
abbrev aR:=@List.length_cons
abbrev aT:=@PySem.W.Fast.te10110043849684766642
abbrev aV:=@PySem.W.Fast.te14364793385576792824
abbrev aW:=@Nat.le_trans
abbrev aX:=@List.not_mem_nil
abbrev aY:=@Option.some.inj
abbrev aZ:=@Nat.lt_trans
abbrev bf:=@congrArg
abbrev bk:=@List.pairwise_cons
abbrev bu:=@Or.elim
abbrev bw:=@Heap.get?_push_size
abbrev bx:=@List.nodup_cons
abbrev bB:=@List.map_append
abbrev bF:=@List.getElem?_eq_some_iff
abbrev bG:=@Nat.le_succ
abbrev bH:=@Option.isSome_iff_exists
abbrev bI:=@List.map_map
abbrev bJ:=@List.map_inj_left
abbrev bK:=@beq_iff_eq
abbrev bP:=@List.map_cons
abbrev bS:=@List.all_cons
abbrev bT:=@sizeLine_eq
abbrev bV:=@Array.getElem?_toList
abbrev bX:=@List.mem_append
abbrev b5:=@Bool.or_eq_true_iff
abbrev b6:=@wpAny_mono
abbrev b9:=@Nat.le_of_lt
abbrev cy:=@List.getElem?_append_right
abbrev cz:=@List.isEmpty_iff
abbrev cA:=@Nat.le_add_right
abbrev cB:=@List.getElem?_eq_getElem
abbrev cC:=@Nat.lt_of_lt_of_le
abbrev cD:=@List.length_eq_zero_iff
abbrev cE:=@List.any_eq_true
abbrev cG:=@List.pairwise_singleton
abbrev cH:=@List.append_assoc
abbrev cJ:=@Heap.lt_size
abbrev cK:=@List.length_reverse
abbrev cM:=@List.getElem?_append_left
abbrev cR:=@Nat.succ_le_succ
abbrev cS:=@Nat.zero_le
abbrev cT:=@Int.eq_ofNat_of_zero_le
abbrev cV:=@List.length_filter_le
abbrev cW:=@List.mem_of_find?_eq_some
abbrev dc:=@Nat.succ.inj
abbrev di:=@Nat.ne_of_lt
abbrev dw:=@List.getElem?_map
abbrev dD:=@Nat.lt_irrefl
abbrev dF:=@List.any_cons
abbrev dK:=@Bool.false_or
abbrev dN:=@List.mem_range
abbrev dU:=@List.lookup_cons
abbrev dW:=@Nat.lt_succ_self
abbrev dY:=@List.filter_cons_of_pos
abbrev dZ:=@List.filter_cons_of_neg
abbrev eo:=@List.append_nil
abbrev er:=@Bool.or_eq_true
abbrev eu:=@List.mem_filter
abbrev eB:=@wpAny_holding
abbrev eF:=@Int.le_refl
abbrev aaa:=@List.casesOn
abbrev aab:=@Option.casesOn
abbrev aac:=@Expr.casesOn
abbrev aad:=@Bool.casesOn
abbrev aae:=@Nat.casesOn
abbrev aaf:=@Value.casesOn
end Mine
section
open PySem PySem.W PyProof.Rows
set_option maxHeartbeats 0
namespace Mine
section
section
noncomputable abbrev pw:Program:=PySem.Challenge.pw_sa0416_01
noncomputable def S(x:String):Str:=Str.ofString x
noncomputable def R(a:Nat):Value:=.ref a
noncomputable def N(i:Int)(t:Nat):Value:=.int i t
noncomputable def T(x:String)(t:Nat):Value:=.str (Str.ofString x) t
noncomputable def B(i:String):Value:=.builtin i
noncomputable def Y(i:String):Value:=.type i
noncomputable def en(P:Params)(x:String)(t:Nat)(v:Value):DictEntry:=⟨PyData.keyHash P (Str.ofString x),.str (Str.ofString x) t,v⟩
noncomputable def tP(xs:Array Value)(n:Nat):Obj:=⟨.type "tuple",none,.seq xs n,#[]⟩
noncomputable def cO(xs:Array Value):Obj:=⟨.type "code",none,.fields xs,#[]⟩
noncomputable def sM(i:Nat):Stmt:=(pw.main.body[i]?).getD default
noncomputable def mM(i j:Nat):Stmt:=match sM i with
 | .ClassDef _ _ _ b _ _ _ _ _ _ _=>(b[j]?).getD default
 | _=>default
noncomputable def DJ:Stmt->Arguments
 | .FunctionDef _ a _ _ _ _ _ _ _ _=>a
 | _=>default
noncomputable def DK:Stmt->List Stmt
 | .FunctionDef _ _ b _ _ _ _ _ _ _=>b
 | _=>[]
noncomputable def DM:Stmt->Scope
 | .FunctionDef _ _ _ _ _ _ s _ _ _=>s
 | _=>default
noncomputable def fD(nm ql:String)(st:Stmt)(g:Nat)(d pm code:Value)(bt:Nat):Data:=.func {name:=S nm,qualname:=S ql,params:=DJ st,body:=.stmts (DK st),scope:=DM st,globals:=g,closure:=[],defaults:=d,kwdefaults:=.none,pyModule:=pm,code:=code,builtins:=bt}
noncomputable def sp:List Obj->List Obj×List Obj
 | []=>([],[])
 | x::r=>(x::(sp r).2,(sp r).1)
noncomputable def mk:Nat->List Obj->BT
 | 0,_=>.nil
 | _,[]=>.nil
 | n+1,x::r=>.node x (mk n (sp r).1) (mk n (sp r).2)
namespace H
noncomputable def z:Obj:=tP #[] 0
noncomputable def u:Obj:=⟨.none,none,.fields #[],#[]⟩
noncomputable def n(i:Int):Value:=.int i 0
noncomputable def ns(t:Nat):List String->List Value
 | []=>[]
 | x::r=>T x t::ns (t+1) r
noncomputable def t(k:Nat)(l:List String):Obj:=tP ⟨ns k l⟩ 0
noncomputable def r(l:List Nat):Obj:=tP ⟨l.map R⟩ 0
noncomputable def cc(nm ql:String)(t l g f a:Nat)(b:Bool)(r:List Value)(m:Nat):Obj:=cO ⟨[T nm t,T ql (t+1),T "/claim/cut.py" (t+2),n l,n g,n 0,n 0,n f,R a,.bool b,n 181,R (a+1),.none]++r++[n m,n l,T "/claim/cut.py" (m+1)]⟩
noncomputable def fn(q nm:String)(s:Stmt)(m d:Value)(c:Nat):List Obj:=[⟨Y "function",none,fD nm q s 3 d m (R c) 0,#[]⟩]
noncomputable def F(a t l g:Nat)(q nm:String)(s:Stmt)(v:List String)(m d:Value):List Obj:=
 [z,u,H.t (t+3) v,z,⟨.none,none,fD nm q s 0 .none .none .none 0,#[]⟩,cc nm q t l g 3 a true [R (a+2),R (a+3),R (a+4)] (t+3+v.length)]++fn q nm s m d (a+5)
noncomputable def G(a t l g:Nat)(q nm:String)(s:Stmt)(m d:Value):List Obj:=
 [z,u,⟨.none,none,fD nm q s 0 .none .none .none 0,#[]⟩,cc nm q t l g 3 a true [.none,.none,R (a+2)] (t+3)]++fn q nm s m d (a+3)
noncomputable def c(i t l:Nat)(q:String):Obj:=cc q q t l 0 0 (i-2) false [.none,.none,.none] (t+3)
noncomputable def J3(k:Nat):List (Nat×Nat)->List Value
 | []=>[]
 | (a,d)::r=>n a::n k::R d::J3 k r
noncomputable def v(k:Nat)(l:List (Nat×Nat)):Obj:=⟨.none,none,.fields ⟨J3 k l⟩,#[]⟩
noncomputable def d(k:Nat)(l:List DictEntry):Obj:=⟨Y "dict",none,.dict ⟨l⟩ k,#[]⟩
noncomputable def eb(P:Params)(t:Nat):List String->List DictEntry
 | []=>[]
 | x::r=>en P x t (B x)::eb P (t+1) r
noncomputable def ei(k t:Nat)(x:String):DictEntry:=⟨k,.int k t,T x (t+1)⟩
noncomputable def ej(h k:Int)(t:Nat)(v:Value):DictEntry:=⟨h,.int k t,v⟩
noncomputable def f(a b:Nat)(m:Value):Obj:=⟨Y "frame",none,.plain,#[some (R a),some (R 3),some (R b),none,some m,none,some (R 0)]⟩
noncomputable def i(k:Nat):Obj:=⟨Y "builtin_function_or_method",none,.fields #[B "object.__init_subclass__",R k],#[]⟩
noncomputable def p:Obj:=⟨Y "builtin_function_or_method",none,.fields #[B "type.__prepare__",Y "type"],#[]⟩
noncomputable def k(t a:Nat):Obj:=⟨Y "getset_descriptor",none,.fields #[T "__weakref__" t,R a,B "ExceptionGroup.__weakref__",.none],#[]⟩
noncomputable def g(t a:Nat):Obj:=⟨Y "getset_descriptor",none,.fields #[T "__dict__" t,R a,B "function.__dict__",B "function.__dict__#set"],#[]⟩
noncomputable def s(k:Nat):Obj:=⟨Y "super",none,.fields #[R k,R k,R k],#[]⟩
noncomputable abbrev O:Value:=Y "object"
noncomputable def a(i k:Nat)(nm:String)(b m u:List Value)(s:Array (Option Value)):Obj:=⟨Y "type",none,.cls {name:=S nm,bases:=b,mro:=R i::m,ns:=k,qualname:=S nm,hasDict:=true,slotNames:=[],subclasses:=u,abstract:=false,collection:=none,hasDel:=false},s⟩
noncomputable def zx:Value:=T "__main__" 164
noncomputable def qZ:Value:=T "kindkeep.nodes" 194
noncomputable def g6:Value:=T "kindkeep.diags" 543
noncomputable def iw:Value:=T "kindkeep.types" 779
noncomputable def jo:Value:=T "kindkeep.typeops" 1145
noncomputable def uC:Value:=T "kindkeep.csolid" 1369
noncomputable def i8:Value:=T "kindkeep.hosts" 1421
noncomputable def wo:Value:=T "kindkeep.rawhost" 1623
noncomputable def dz:Value:=T "kindkeep.ccore" 1657
noncomputable def yW:Value:=T "kindkeep.cexpr" 2398
noncomputable def kM:Value:=T "law_sa0416_01" 2428
noncomputable def e3(P:Params):List DictEntry:=[en P "__doc__" 166 .none,en P "__package__" 167 .none,en P "__loader__" 168 (B "__main__.__loader__#opaque"),en P "__spec__" 169 .none,en P "__annotations__" 170 (R 6),en P "__builtins__" 171 (R 4),en P "__file__" 173 (T "/claim/cut.py" 172),en P "__cached__" 174 .none,en P "_wall" 193 (R 21),en P "K_STR" 197 (N 2 196),en P "K_NULL" 199 (N 6 198),en P "K_UNDEF" 201 (N 7 200),en P "K_NAME" 203 (N 8 202),en P "K_MEMBER" 205 (N 16 204),en P "K_INDEX" 207 (N 17 206),en P "K_CALL" 209 (N 18 208),en P "K_CHAIN" 211 (N 20 210),en P "K_NONNULL" 213 (N 32 212),en P "K_PAREN" 215 (N 33 214),en P "F_OPTCHAIN" 217 (N 1 216),en P "NODE_WORDS" 485 (R 22),en P "Node" 523 (R 44),en P "flagged" 534 (R 55),en P "has" 542 (R 62),en P "U_BANG" 546 (N 7 545),en P "U_VOID" 548 (N 18 547),en P "KeepError" 579 (R 80),en P "TooDeep" 608 (R 101),en P "HostFault" 635 (R 121),en P "Diag" 677 (R 147),en P "Diags" 724 (R 181),en P "Notes" 778 (R 223),en P "Y_KEY" 782 (N 1 781),en P "Y_BOOL" 784 (N 2 783),en P "Y_STR" 786 (N 3 785),en P "Y_NUM" 788 (N 4 787),en P "Y_ENUM" 790 (N 5 789),en P "Y_UNION" 792 (N 6 791),en P "Y_INTER" 794 (N 7 793),en P "Y_OBJ" 796 (N 8 795),en P "Y_REF" 798 (N 9 797),en P "Y_PARAM" 800 (N 10 799),en P "Y_ARRAY" 802 (N 11 801),en P "Y_TUPLE" 804 (N 12 803),en P "Y_SIG" 806 (N 13 805),en P "Y_KEYOF" 808 (N 14 807),en P "Y_INDEX" 810 (N 15 809),en P "Y_COND" 812 (N 16 811),en P "Y_MAPPED" 814 (N 17 813),en P "Y_TPL" 816 (N 18 815),en P "Y_ALIAS" 818 (N 19 817),en P "ANY" 820 (N 0 819),en P "UNKNOWN" 822 (N 1 821),en P "NEVER" 824 (N 2 823),en P "VOID" 826 (N 3 825),en P "UNDEF" 828 (N 4 827),en P "NULLT" 830 (N 5 829),en P "STRING" 832 (N 6 831),en P "NUMBER" 834 (N 7 833),en P "FALSE_T" 836 (N 8 835),en P "TRUE_T" 838 (N 9 837),en P "OBJECTT" 840 (N 10 839),en P "EMPTY" 842 (N 11 841),en P "ERR" 844 (N 13 843),en P "FRESH_F" 846 (N 14 845),en P "FRESH_T" 848 (N 15 847),en P "P_OPT" 850 (N 1 849),en P "P_READONLY" 852 (N 2 851),en P "D_OBJALIAS" 854 (N 3 853),en P "FAM_OTHER" 856 (N 0 855),en P "FAM_STR" 858 (N 1 857),en P "FAM_NUM" 860 (N 2 859),en P "FAM_BOOL" 862 (N 3 861),en P "FAM_NULL" 864 (N 4 863),en P "FAM_UNDEF" 866 (N 5 865),en P "FAM_VOID" 868 (N 6 867),en P "FAM_OBJ" 870 (N 7 869),en P "MAX_UNION" 872 (N 400 871),en P "FIRST_ROWS" 894 (R 250),en P "LITERAL_ROWS" 895 (R 251),en P "MARKED_ROWS" 896 (R 252),en P "OBJECT_ROWS" 897 (R 253),en P "KEY_FAMILIES" 904 (R 254),en P "TypeTable" 959 (R 285),en P "kind_of" 967 (R 296),en P "array_type" 977 (R 304),en P "sorted_props" 983 (R 309),en P "obj_type" 997 (R 321),en P "new_param" 1012 (R 329),en P "parts_of" 1021 (R 336),en P "whole_of_row" 1029 (R 343),en P "regular_twin" 1038 (R 350),en P "join_bools" 1045 (R 357),en P "stays_beside" 1054 (R 364),en P "top_of" 1062 (R 371),en P "union" 1068 (R 376),en P "add_undef" 1076 (R 383),en P "is_literal" 1084 (R 390),en P "is_unit" 1092 (R 397),en P "is_fresh" 1101 (R 404),en P "regular_one" 1109 (R 411),en P "common_family" 1115 (R 416),en P "meet_family" 1126 (R 423),en P "family" 1137 (R 430),en P "is_nullish_family" 1144 (R 437),en P "MAX_DRAWN" 1148 (N 200 1147),en P "MEET_NEVER" 1150 (N 0 1149),en P "MEET_LEFT" 1152 (N 1 1151),en P "MEET_RIGHT" 1154 (N 2 1153),en P "MEET_BOTH" 1156 (N 3 1155),en P "all_units" 1162 (R 442),en P "value_literal" 1171 (R 449),en P "kinds_apart" 1180 (R 456),en P "units_clash" 1186 (R 461),en P "known_decl" 1194 (R 468),en P "body_props" 1203 (R 475),en P "flat_props" 1220 (R 482),en P "shapes_clash" 1226 (R 487),en P "meet_nullish" 1236 (R 494),en P "meet_values" 1247 (R 501),en P "meet_objects" 1258 (R 508),en P "meet_case" 1269 (R 515),en P "lay_on" 1282 (R 522),en P "members_of_meet" 1292 (R 529),en P "meet_parts" 1298 (R 534),en P "meet_two" 1314 (R 541),en P "inter" 1325 (R 548),en P "may_be_nullish" 1338 (R 556),en P "mapped_may_be_nullish" 1348 (R 563),en P "meet_may_be_nullish" 1354 (R 568),en P "not_nullish" 1362 (R 575),en P "remove_nullish" 1368 (R 580),en P "MOST_BOUNDS" 1372 (N 12 1371),en P "OPEN_PARTS" 1373 (R 581),en P "path_text" 1381 (R 588),en P "nullish_fault" 1390 (R 595),en P "seen_parts" 1396 (R 600),en P "tell_nullish" 1408 (R 607),en P "solid_kind" 1414 (R 612),en P "short_kind" 1420 (R 617),en P "MOST_ROUNDS" 1424 (N 200 1423),en P "MOST_SHAPES" 1426 (N 40 1425),en P "Thin" 1612 (R 760),en P "bound_of" 1622 (R 771),en P "BoundHost" 1656 (R 795),en P "MOST_DEEP" 1660 (N 50 1659),en P "ExprRule" 1690 (R 814),en P "Guard" 1742 (R 849),en P "Roads" 1781 (R 877),en P "Judge" 1900 (R 961),en P "Patterns" 1951 (R 996),en P "Giver" 1981 (R 1017),en P "Places" 2019 (R 1045),en P "FuncRule" 2049 (R 1066),en P "Sheet" 2349 (R 1248),en P "expr_kind" 2359 (R 1259),en P "stays_told" 2365 (R 1264),en P "take_back" 2371 (R 1269),en P "given_kind" 2382 (R 1276),en P "want_fit" 2397 (R 1283),en P "BangRule" 2427 (R 1300),en P "_LAW_ATOMS" 2509 (R 1325),en P "_law_take" 2519 (R 1332),en P "_law_world" 2536 (R 1339),en P "_law_sorted" 2545 (R 1346),en P "_law_kind" 2551 (R 1351),en P "_law_id" 2557 (R 1356),en P "_law_off" 2563 (R 1361),en P "_law_values" 2569 (R 1366),en P "_law_node" 2581 (R 1373),en P "_law_read" 2593 (R 1380),en P "_law_go" 2606 (R 1387),en P "_law_use" 2612 (R 1392),en P "_law_bang" 2624 (R 1399),en P "_law_end" 2635 (R 1406),en P "_law_head" 2643 (R 1413),en P "_law_chain" 2649 (R 1418),en P "law" 2655 (R 1423)]
noncomputable def rC:List (Nat×Nat):=[(1,20),(17,33),(26,54),(28,61),(33,68),(38,89),(43,109),(48,129),(58,157),(69,191),(137,260),(163,295),(165,303),(167,308),(172,320),(174,328),(180,335),(187,342),(196,349),(201,356),(205,363),(209,370),(214,375),(231,382),(233,389),(235,396),(237,403),(240,410),(244,415),(248,422),(257,429),(274,436),(282,441),(285,448),(290,455),(294,460),(303,467),(305,474),(310,481),(329,486),(333,493),(339,500),(349,507),(357,514),(371,521),(385,528),(396,533),(405,540),(421,547),(430,555),(446,562),(449,567),(454,574),(462,579),(467,587),(477,594),(483,599),(496,606),(504,611),(522,616),(539,623),(601,770),(608,777),(617,803),(621,824),(631,859),(638,887),(669,971),(682,1006),(686,1027),(693,1055),(697,1076),(833,1258),(848,1263),(852,1268),(871,1275),(884,1282),(895,1289),(909,1331),(914,1338),(927,1345),(933,1350),(938,1355),(940,1360),(942,1365),(944,1372),(949,1379),(966,1386),(977,1391),(995,1398),(1005,1405),(1014,1412),(1022,1417),(1065,1422)]
noncomputable def o2(P:Params):Obj:=⟨.none,none,(.dict #[en P "type.__subclasses__.Exception.0" 576 (N (80) 0),en P "type.__subclasses__.Exception.n" 577 (N (1) 0)] 2),#[]⟩
noncomputable def C0(P:Params)(x2 x3 V1:Obj):List Obj:=List.flatten [
 ([d 159 ([en P "__name__" 1 (T "builtins" 160),en P "__doc__" 2 (B "builtins.__doc__:str#opaque"),en P "__package__" 3 (B "builtins.__package__:str#opaque"),en P "__loader__" 4 (B "builtins.__loader__:shared#opaque"),en P "__spec__" 5 (B "builtins.__spec__#opaque")]++eb P 6 ["__build_class__","__import__","abs","all","any","ascii","bin","breakpoint","callable","chr","compile","delattr","dir","divmod","eval","exec","format","getattr","globals","hasattr","hash","hex","id","input","isinstance","issubclass","iter","aiter","len","locals","max","min","next","anext","oct","ord","pow","print","repr","round","setattr","sorted","sum","vars"]++[en P "None" 50 .none,en P "Ellipsis" 51 .ellipsis,en P "NotImplemented" 52 .notImplemented,en P "False" 53 (.bool false),en P "True" 54 (.bool true),en P "bool" 55 (Y "bool"),en P "memoryview" 56 (Y "memoryview"),en P "bytearray" 57 (Y "bytearray"),en P "bytes" 58 (Y "bytes"),en P "classmethod" 59 (Y "classmethod"),en P "complex" 60 (Y "complex"),en P "dict" 61 (Y "dict"),en P "enumerate" 62 (Y "enumerate"),en P "filter" 63 (Y "filter"),en P "float" 64 (Y "float"),en P "frozenset" 65 (Y "frozenset"),en P "property" 66 (Y "property"),en P "int" 67 (Y "int"),en P "list" 68 (Y "list"),en P "map" 69 (Y "map"),en P "object" 70 (Y "object"),en P "range" 71 (Y "range"),en P "reversed" 72 (Y "reversed"),en P "set" 73 (Y "set"),en P "slice" 74 (Y "slice"),en P "staticmethod" 75 (Y "staticmethod"),en P "str" 76 (Y "str"),en P "super" 77 (Y "super"),en P "tuple" 78 (Y "tuple"),en P "type" 79 (Y "type"),en P "zip" 80 (Y "zip"),en P "__debug__" 81 (.bool true),en P "BaseException" 82 (Y "BaseException"),en P "BaseExceptionGroup" 83 (Y "BaseExceptionGroup"),en P "Exception" 84 (Y "Exception"),en P "GeneratorExit" 85 (Y "GeneratorExit"),en P "KeyboardInterrupt" 86 (Y "KeyboardInterrupt"),en P "SystemExit" 87 (Y "SystemExit"),en P "ArithmeticError" 88 (Y "ArithmeticError"),en P "AssertionError" 89 (Y "AssertionError"),en P "AttributeError" 90 (Y "AttributeError"),en P "BufferError" 91 (Y "BufferError"),en P "EOFError" 92 (Y "EOFError"),en P "ImportError" 93 (Y "ImportError"),en P "LookupError" 94 (Y "LookupError"),en P "MemoryError" 95 (Y "MemoryError"),en P "NameError" 96 (Y "NameError"),en P "OSError" 97 (Y "OSError"),en P "ReferenceError" 98 (Y "ReferenceError"),en P "RuntimeError" 99 (Y "RuntimeError"),en P "StopAsyncIteration" 100 (Y "StopAsyncIteration"),en P "StopIteration" 101 (Y "StopIteration"),en P "SyntaxError" 102 (Y "SyntaxError"),en P "SystemError" 103 (Y "SystemError"),en P "TypeError" 104 (Y "TypeError"),en P "ValueError" 105 (Y "ValueError"),en P "Warning" 106 (Y "Warning"),en P "FloatingPointError" 107 (Y "FloatingPointError"),en P "OverflowError" 108 (Y "OverflowError"),en P "ZeroDivisionError" 109 (Y "ZeroDivisionError"),en P "BytesWarning" 110 (Y "BytesWarning"),en P "DeprecationWarning" 111 (Y "DeprecationWarning"),en P "EncodingWarning" 112 (Y "EncodingWarning"),en P "FutureWarning" 113 (Y "FutureWarning"),en P "ImportWarning" 114 (Y "ImportWarning"),en P "PendingDeprecationWarning" 115 (Y "PendingDeprecationWarning"),en P "ResourceWarning" 116 (Y "ResourceWarning"),en P "RuntimeWarning" 117 (Y "RuntimeWarning"),en P "SyntaxWarning" 118 (Y "SyntaxWarning"),en P "UnicodeWarning" 119 (Y "UnicodeWarning"),en P "UserWarning" 120 (Y "UserWarning"),en P "BlockingIOError" 121 (Y "BlockingIOError"),en P "ChildProcessError" 122 (Y "ChildProcessError"),en P "ConnectionError" 123 (Y "ConnectionError"),en P "FileExistsError" 124 (Y "FileExistsError"),en P "FileNotFoundError" 125 (Y "FileNotFoundError"),en P "InterruptedError" 126 (Y "InterruptedError"),en P "IsADirectoryError" 127 (Y "IsADirectoryError"),en P "NotADirectoryError" 128 (Y "NotADirectoryError"),en P "PermissionError" 129 (Y "PermissionError"),en P "ProcessLookupError" 130 (Y "ProcessLookupError"),en P "TimeoutError" 131 (Y "TimeoutError"),en P "IndentationError" 132 (Y "IndentationError"),en P "_IncompleteInputError" 133 (Y "_IncompleteInputError"),en P "IndexError" 134 (Y "IndexError"),en P "KeyError" 135 (Y "KeyError"),en P "ModuleNotFoundError" 136 (Y "ModuleNotFoundError"),en P "NotImplementedError" 137 (Y "NotImplementedError"),en P "PythonFinalizationError" 138 (Y "PythonFinalizationError"),en P "RecursionError" 139 (Y "RecursionError"),en P "UnboundLocalError" 140 (Y "UnboundLocalError"),en P "UnicodeError" 141 (Y "UnicodeError"),en P "BrokenPipeError" 142 (Y "BrokenPipeError"),en P "ConnectionAbortedError" 143 (Y "ConnectionAbortedError"),en P "ConnectionRefusedError" 144 (Y "ConnectionRefusedError"),en P "ConnectionResetError" 145 (Y "ConnectionResetError"),en P "TabError" 146 (Y "TabError"),en P "UnicodeDecodeError" 147 (Y "UnicodeDecodeError"),en P "UnicodeEncodeError" 148 (Y "UnicodeEncodeError"),en P "UnicodeTranslateError" 149 (Y "UnicodeTranslateError"),en P "ExceptionGroup" 150 (Y "ExceptionGroup"),en P "EnvironmentError" 151 (Y "OSError"),en P "IOError" 152 (Y "OSError"),en P "open" 153 (B "open"),en P "quit" 154 (B "builtins.quit#opaque"),en P "exit" 155 (B "builtins.exit#opaque"),en P "copyright" 156 (B "builtins.copyright#opaque"),en P "credits" 157 (B "builtins.credits#opaque"),en P "license" 158 (B "builtins.license#opaque"),en P "help" 159 (B "builtins.help#opaque")]),d 2 ([en P "builtins" 162 (R 4),en P "__main__" 163 (R 5)]),x2,x3,⟨(Y "module"),(some 0),.plain,#[]⟩,⟨(Y "module"),(some 3),.plain,#[]⟩,d 0 ([]),z,u,cO #[(T "<module>" 176),(T "<module>" 177),(T "/claim/cut.py" 178),(N (1) 0),(N (0) 0),(N (0) 0),(N (0) 0),(N (0) 0),(R 7),(.bool false),(N (175) 0),(R 8),.none,.none,.none,.none,(N (179) 0),(N (1) 0),(T "/claim/cut.py" 180)],f 9 3 zx,z,V1,c 13 182 1 "<module>",f 13 3 zx])]
noncomputable def C1(P:Params):List Obj:=List.flatten [
 F 15 187 1 1 "_wall" "_wall" (sM 0) ["k"] zx .none]
noncomputable def C2(P:Params):List Obj:=List.flatten [
 ([d 89 ([ei 1 218 "number",ei 2 221 "text",ei 3 224 "template",ei 4 227 "true",ei 5 230 "false",ei 6 233 "null",ei 7 236 "undefined",ei 8 239 "name",ei 9 242 "this",ei 10 245 "super",ei 11 248 "array literal",ei 12 251 "object literal",ei 13 254 "property",ei 14 257 "short property",ei 15 260 "spread",ei 16 263 "member",ei 17 266 "index",ei 18 269 "call",ei 19 272 "new",ei 20 275 "optional chain",ei 21 278 "unary operator",ei 22 281 "update",ei 23 284 "binary operator",ei 24 287 "logical operator",ei 25 290 "assignment",ei 26 293 "choice",ei 27 296 "function",ei 28 299 "parameter",ei 29 302 "as",ei 30 305 "as const",ei 31 308 "satisfies",ei 32 311 "non-null mark",ei 33 314 "parentheses",ei 34 317 "object pattern",ei 35 320 "array pattern",ei 36 323 "binding",ei 40 326 "file",ei 41 329 "variable statement",ei 42 332 "declarator",ei 43 335 "expression statement",ei 44 338 "if",ei 45 341 "while",ei 46 344 "do",ei 47 347 "for",ei 48 350 "for of",ei 49 353 "for in",ei 50 356 "switch",ei 51 359 "case",ei 52 362 "return",ei 53 365 "break",ei 54 368 "continue",ei 55 371 "label",ei 56 374 "throw",ei 57 377 "try",ei 58 380 "catch",ei 59 383 "block",ei 60 386 "empty statement",ei 61 389 "class",ei 62 392 "field",ei 63 395 "index signature",ei 64 398 "interface",ei 65 401 "type alias",ei 66 404 "enum",ei 67 407 "enum member",ei 68 410 "\x69mport",ei 69 413 "imported name",ei 70 416 "export",ei 71 419 "row of nodes",ei 80 422 "keyword type",ei 81 425 "type name",ei 82 428 "literal type",ei 83 431 "union type",ei 84 434 "intersection type",ei 85 437 "array type",ei 86 440 "tuple type",ei 87 443 "tuple element",ei 88 446 "object type",ei 89 449 "keyof",ei 90 452 "indexed type",ei 91 455 "mapped type",ei 92 458 "conditional type",ei 93 461 "infer",ei 94 464 "template type",ei 95 467 "typeof type",ei 96 470 "predicate",ei 97 473 "readonly type",ei 98 475 "type parentheses",ei 99 477 "property signature",ei 100 479 "type parameter"]),d 17 ([ei 18 269 "call",ei 19 272 "new",ei 20 275 "optional chain",ei 21 278 "unary operator",ei 22 281 "update",ei 23 284 "binary operator",ei 24 287 "logical operator",ei 25 290 "assignment",ei 26 293 "choice",ei 27 296 "function",ei 28 299 "parameter",ei 29 302 "as",ei 30 305 "as const",ei 31 308 "satisfies",ei 32 311 "non-null mark",ei 33 314 "parentheses",ei 34 317 "object pattern"]),d 17 ([ei 35 320 "array pattern",ei 36 323 "binding",ei 40 326 "file",ei 41 329 "variable statement",ei 42 332 "declarator",ei 43 335 "expression statement",ei 44 338 "if",ei 45 341 "while",ei 46 344 "do",ei 47 347 "for",ei 48 350 "for of",ei 49 353 "for in",ei 50 356 "switch",ei 51 359 "case",ei 52 362 "return",ei 53 365 "break",ei 54 368 "continue"]),d 17 ([ei 55 371 "label",ei 56 374 "throw",ei 57 377 "try",ei 58 380 "catch",ei 59 383 "block",ei 60 386 "empty statement",ei 61 389 "class",ei 62 392 "field",ei 63 395 "index signature",ei 64 398 "interface",ei 65 401 "type alias",ei 66 404 "enum",ei 67 407 "enum member",ei 68 410 "\x69mport",ei 69 413 "imported name",ei 70 416 "export",ei 71 419 "row of nodes"]),d 17 ([ei 80 422 "keyword type",ei 81 425 "type name",ei 82 428 "literal type",ei 83 431 "union type",ei 84 434 "intersection type",ei 85 437 "array type",ei 86 440 "tuple type",ei 87 443 "tuple element",ei 88 446 "object type",ei 89 449 "keyof",ei 90 452 "indexed type",ei 91 455 "mapped type",ei 92 458 "conditional type",ei 93 461 "infer",ei 94 464 "template type",ei 95 467 "typeof type",ei 96 470 "predicate"]),d 4 ([ei 97 473 "readonly type",ei 98 475 "type parentheses",ei 99 477 "property signature",ei 100 479 "type parameter"])])]
noncomputable def C3(P:Params):List Obj:=List.flatten [
 ([z,p,d 5 ([en P "__module__" 493 qZ,en P "__qualname__" 495 (T "Node" 494),en P "__firstlineno__" 497 (N 17 496),en P "__init__" 509 (R 41),en P "__static_attributes__" 516 (R 42)]),z,v 4 [(19,40)],c 33 488 17 "Node",f 33 30 qZ]),
 F 35 498 19 6 "Node.__init__" "__init__" (mM 14 0) ["self","kind","a","kids","flags","at"] qZ .none,
 ([t 510 ["a","at","flags","kids","kind","nid"],d 4 ([en P "__module__" 493 qZ,en P "__firstlineno__" 497 (N 17 496),en P "__init__" 509 (R 41),en P "__static_attributes__" 516 (R 42),en P "__dict__" 518 (R 45),en P "__weakref__" 520 (R 46),en P "__doc__" 521 .none]),a 44 43 "Node" [O] [O] [] #[none,none,(some (T "Node" 486)),(some (T "Node" 494)),(some (B "object.__new__")),(some (.bool true))],g 517 44,k 519 44,s 44,i 44]),
 F 49 524 26 5 "flagged" "flagged" (sM 15) ["kind","a","kids","flags","at"] qZ .none,
 F 56 535 28 2 "has" "has" (sM 16) ["node","flag"] qZ .none,
 ([tP #[(Y "Exception")] 0,p,d 5 ([en P "__module__" 556 g6,en P "__qualname__" 558 (T "KeepError" 557),en P "__firstlineno__" 560 (N 33 559),en P "__init__" 569 (R 77),en P "__static_attributes__" 572 (R 78)]),z,v 4 [(35,76)],c 68 551 33 "KeepError",f 68 65 g6,t 561 [""]]),
 F 71 562 35 2 "KeepError.__init__" "__init__" (mM 20 0) ["self","text"] g6 (R 70),
 ([t 570 ["number","text"],d 3 ([en P "__module__" 556 g6,en P "__firstlineno__" 560 (N 33 559),en P "__init__" 569 (R 77),en P "__static_attributes__" 572 (R 78),en P "__weakref__" 574 (R 81),en P "__doc__" 575 .none]),a 80 79 "KeepError" [(Y "Exception")] [(Y "Exception"),(Y "BaseException"),O] [(R 101),(R 121)] #[(some (R 63)),none,(some (T "KeepError" 549)),(some (T "KeepError" 557)),(some (B "Exception.__new__")),(some (.bool true))],k 573 80,s 80,i 80,r [80],p,d 5 ([en P "__module__" 587 g6,en P "__qualname__" 589 (T "TooDeep" 588),en P "__firstlineno__" 591 (N 38 590),en P "__init__" 602 (R 98),en P "__static_attributes__" 605 (R 99)]),z,v 4 [(40,97)],c 89 582 38 "TooDeep",f 89 86 g6,tP #[(N 2589 592),(T "" 593)] 0]),
 F 92 594 40 3 "TooDeep.__init__" "__init__" (mM 21 0) ["self","number","text"] g6 (R 91),
 ([t 603 ["number","text"],d 2 ([en P "__module__" 587 g6,en P "__firstlineno__" 591 (N 38 590),en P "__init__" 602 (R 98),en P "__static_attributes__" 605 (R 99),en P "__doc__" 606 .none]),a 101 100 "TooDeep" [(R 80)] [(R 80),(Y "Exception"),(Y "BaseException"),O] [] #[(some (R 84)),none,(some (T "TooDeep" 580)),(some (T "TooDeep" 588)),(some (B "Exception.__new__")),(some (.bool true))],s 101,i 101,r [80],p,d 5 ([en P "__module__" 616 g6,en P "__qualname__" 618 (T "HostFault" 617),en P "__firstlineno__" 620 (N 43 619),en P "__init__" 629 (R 118),en P "__static_attributes__" 632 (R 119)]),z,v 4 [(45,117)],c 109 611 43 "HostFault",f 109 106 g6,t 621 [""]]),
 F 112 622 45 2 "HostFault.__init__" "__init__" (mM 22 0) ["self","text"] g6 (R 111),
 ([t 630 ["number","text"],d 2 ([en P "__module__" 616 g6,en P "__firstlineno__" 620 (N 43 619),en P "__init__" 629 (R 118),en P "__static_attributes__" 632 (R 119),en P "__doc__" 633 .none]),a 121 120 "HostFault" [(R 80)] [(R 80),(Y "Exception"),(Y "BaseException"),O] [] #[(some (R 104)),none,(some (T "HostFault" 609)),(some (T "HostFault" 617)),(some (B "Exception.__new__")),(some (.bool true))],s 121,i 121,z,p,d 6 ([en P "__module__" 643 g6,en P "__qualname__" 645 (T "Diag" 644),en P "__firstlineno__" 647 (N 48 646),en P "__init__" 658 (R 137),en P "row" 665 (R 144),en P "__static_attributes__" 670 (R 145)]),z,v 4 [(50,136),(56,143)],c 129 638 48 "Diag",f 129 126 g6]),
 F 131 648 50 5 "Diag.__init__" "__init__" (mM 23 0) ["self","number","at","args","file"] g6 .none,
 F 138 659 56 1 "Diag.row" "row" (mM 23 1) ["self"] g6 .none,
 ([t 666 ["args","at","file","number"],d 4 ([en P "__module__" 643 g6,en P "__firstlineno__" 647 (N 48 646),en P "__init__" 658 (R 137),en P "row" 665 (R 144),en P "__static_attributes__" 670 (R 145),en P "__dict__" 672 (R 148),en P "__weakref__" 674 (R 149),en P "__doc__" 675 .none]),a 147 146 "Diag" [O] [O] [] #[none,none,(some (T "Diag" 636)),(some (T "Diag" 644)),(some (B "object.__new__")),(some (.bool true))],g 671 147,k 673 147,s 147,i 147,z,p,d 7 ([en P "__module__" 685 g6,en P "__qualname__" 687 (T "Diags" 686),en P "__firstlineno__" 689 (N 58 688),en P "__init__" 698 (R 166),en P "put" 708 (R 173),en P "numbers" 714 (R 178),en P "__static_attributes__" 717 (R 179)]),z,v 4 [(60,165),(64,172),(67,177)],c 157 680 58 "Diags",f 157 154 g6,t 690 [""]]),
 F 160 691 60 2 "Diags.__init__" "__init__" (mM 24 0) ["self","file"] g6 (R 159),
 F 167 699 64 4 "Diags.put" "put" (mM 24 1) ["self","number","at","args"] g6 .none,
 G 174 709 67 1 "Diags.numbers" "numbers" (mM 24 2) g6 .none,
 ([t 715 ["file","rows"],d 4 ([en P "__module__" 685 g6,en P "__firstlineno__" 689 (N 58 688),en P "__init__" 698 (R 166),en P "put" 708 (R 173),en P "numbers" 714 (R 178),en P "__static_attributes__" 717 (R 179),en P "__dict__" 719 (R 182),en P "__weakref__" 721 (R 183),en P "__doc__" 722 .none]),a 181 180 "Diags" [O] [O] [] #[none,none,(some (T "Diags" 678)),(some (T "Diags" 686)),(some (B "object.__new__")),(some (.bool true))],g 718 181,k 720 181,s 181,i 181,z,p,d 8 ([en P "__module__" 732 g6,en P "__qualname__" 734 (T "Notes" 733),en P "__firstlineno__" 736 (N 69 735),en P "__init__" 743 (R 199),en P "put" 752 (R 206),en P "codes" 762 (R 213),en P "clean" 769 (R 220),en P "__static_attributes__" 771 (R 221)]),z,v 4 [(71,198),(74,205),(77,212),(83,219)],c 191 727 69 "Notes",f 191 188 g6]),
 F 193 737 71 1 "Notes.__init__" "__init__" (mM 25 0) ["self"] g6 .none,
 F 200 744 74 3 "Notes.put" "put" (mM 25 1) ["self","code","at"] g6 .none,
 F 207 753 77 1 "Notes.codes" "codes" (mM 25 2) ["self","found","code","at"] g6 .none,
 F 214 763 83 1 "Notes.clean" "clean" (mM 25 3) ["self"] g6 .none,
 ([t 770 ["rows"],d 4 ([en P "__module__" 732 g6,en P "__firstlineno__" 736 (N 69 735),en P "__init__" 743 (R 199),en P "put" 752 (R 206),en P "codes" 762 (R 213),en P "clean" 769 (R 220),en P "__static_attributes__" 771 (R 221),en P "__dict__" 773 (R 224),en P "__weakref__" 775 (R 225),en P "__doc__" 776 .none]),a 223 222 "Notes" [O] [O] [] #[none,none,(some (T "Notes" 725)),(some (T "Notes" 733)),(some (B "object.__new__")),(some (.bool true))],g 772 223,k 774 223,s 223,i 223,tP #[(N 1 781),(T "any" 873)] 0,tP #[(N 1 781),(T "unknown" 874)] 0,tP #[(N 1 781),(T "never" 875)] 0,tP #[(N 1 781),(T "void" 876)] 0,tP #[(N 1 781),(T "undefined" 877)] 0,tP #[(N 1 781),(T "null" 878)] 0,tP #[(N 1 781),(T "string" 879)] 0,tP #[(N 1 781),(T "number" 880)] 0,tP #[(N 2 783),(N 0 881),(N 0 882)] 0,tP #[(N 2 783),(N 1 883),(N 0 884)] 0,tP #[(N 1 781),(T "object" 885)] 0,z,z,z,z,z,tP #[(N 8 795),(R 239),(R 240),(R 241),(R 242),(R 243),(N 0 886)] 0,tP #[(N 8 887),(N 9 888)] 0,tP #[(N 6 791),(R 245)] 0,tP #[(N 1 781),(T "error" 889)] 0,tP #[(N 2 783),(N 0 890),(N 1 891)] 0,tP #[(N 2 783),(N 1 892),(N 1 893)] 0,r [228,229,230,231,232,233,234,235,236,237,238,244,246,247,248,249],tP #[(N 2 783),(N 3 785),(N 4 787),(N 5 789)] 0,tP #[(N 2 783),(N 3 785),(N 4 787),(N 5 789),(N 8 795)] 0,tP #[(N 8 795),(N 9 797),(N 11 801),(N 12 803),(N 13 805)] 0])]
noncomputable def C4(P:Params):List Obj:=List.flatten [
 ([d 6 ([ej 3 3 825 (N 6 867),ej 4 4 827 (N 5 865),ej 5 5 829 (N 4 863),ej 6 6 831 (N 1 857),ej 7 7 833 (N 2 859),ej 10 10 839 (N 7 869)])])]
noncomputable def C5(P:Params)(Uq:Obj):List Obj:=List.flatten [
 ([z,p,d 7 ([en P "__module__" 912 iw,en P "__qualname__" 914 (T "TypeTable" 913),en P "__firstlineno__" 916 (N 137 915),en P "__init__" 924 (R 268),en P "row" 932 (R 275),en P "put" 941 (R 282),en P "__static_attributes__" 952 (R 283)]),z,v 4 [(139,267),(153,274),(156,281)],c 260 907 137 "TypeTable",f 260 257 iw]),
 F 262 917 139 1 "TypeTable.__init__" "__init__" (mM 78 0) ["self","row"] iw .none,
 F 269 925 153 2 "TypeTable.row" "row" (mM 78 1) ["self","t"] iw .none,
 F 276 933 156 2 "TypeTable.put" "put" (mM 78 2) ["self","row","t"] iw .none,
 ([t 942 ["bounds","decls","defaults","index","names","origins","putting","renamed","rows","shaping"],d 4 ([en P "__module__" 912 iw,en P "__firstlineno__" 916 (N 137 915),en P "__init__" 924 (R 268),en P "row" 932 (R 275),en P "put" 941 (R 282),en P "__static_attributes__" 952 (R 283),en P "__dict__" 954 (R 286),en P "__weakref__" 956 (R 287),en P "__doc__" 957 .none]),a 285 284 "TypeTable" [O] [O] [] #[none,none,(some (T "TypeTable" 905)),(some (T "TypeTable" 913)),(some (B "object.__new__")),(some (.bool true))],g 953 285,k 955 285,s 285,i 285]),
 F 290 960 163 2 "kind_of" "kind_of" (sM 79) ["tab","t"] iw .none,
 ([tP #[(N 0 968)] 0]),
 F 298 969 165 3 "array_type" "array_type" (sM 80) ["tab","elem","ro"] iw (R 297),
 G 305 978 167 1 "sorted_props" "sorted_props" (sM 81) iw .none,
 ([z,z,z,z,tP #[(R 310),(R 311),(R 312),(R 313),(N 0 984)] 0]),
 F 315 985 172 7 "obj_type" "obj_type" (sM 82) ["tab","props","calls","ctors","sindex","nindex","fresh"] iw (R 314),
 ([tP #[(N (-1) 999),(N (-1) 1001)] 0]),
 F 323 1002 174 4 "new_param" "new_param" (sM 83) ["tab","name","bound","default","pid"] iw (R 322),
 F 330 1013 180 2 "parts_of" "parts_of" (sM 84) ["tab","t","row"] iw .none,
 F 337 1022 187 1 "whole_of_row" "whole_of_row" (sM 85) ["row","kind"] iw .none,
 F 344 1030 196 2 "regular_twin" "regular_twin" (sM 86) ["tab","t","row"] iw .none,
 F 351 1039 201 1 "join_bools" "join_bools" (sM 87) ["got"] iw .none,
 F 358 1046 205 3 "stays_beside" "stays_beside" (sM 88) ["tab","got","t"] iw .none,
 F 365 1055 209 1 "top_of" "top_of" (sM 89) ["got","t"] iw .none,
 G 372 1063 214 2 "union" "union" (sM 90) iw .none,
 F 377 1069 231 2 "add_undef" "add_undef" (sM 91) ["tab","t"] iw .none,
 F 384 1077 233 2 "is_literal" "is_literal" (sM 92) ["tab","t"] iw .none,
 F 391 1085 235 2 "is_unit" "is_unit" (sM 93) ["tab","t"] iw .none,
 F 398 1093 237 2 "is_fresh" "is_fresh" (sM 94) ["tab","t","row"] iw .none,
 F 405 1102 240 2 "regular_one" "regular_one" (sM 95) ["tab","t"] iw .none,
 G 412 1110 244 2 "common_family" "common_family" (sM 96) iw .none,
 F 417 1116 248 2 "meet_family" "meet_family" (sM 97) ["tab","parts","found","part","fam"] iw .none,
 F 424 1127 257 2 "family" "family" (sM 98) ["tab","t","row","kind","whole"] iw .none,
 F 431 1138 274 1 "is_nullish_family" "is_nullish_family" (sM 99) ["fam"] iw .none,
 G 438 1157 282 2 "all_units" "all_units" (sM 106) jo .none,
 F 443 1163 285 2 "value_literal" "value_literal" (sM 107) ["tab","t","row"] jo .none,
 F 450 1172 290 3 "kinds_apart" "kinds_apart" (sM 108) ["tab","s","t"] jo .none,
 G 457 1181 294 3 "units_clash" "units_clash" (sM 109) jo .none,
 F 462 1187 303 2 "known_decl" "known_decl" (sM 110) ["tab","row"] jo .none,
 F 469 1195 305 2 "body_props" "body_props" (sM 111) ["tab","row","decl"] jo .none,
 F 476 1204 310 2 "flat_props" "flat_props" (sM 112) ["tab","t","out","seen","waiting","at","row","props","bases","prop","base"] jo .none,
 G 483 1221 329 3 "shapes_clash" "shapes_clash" (sM 113) jo .none,
 F 488 1227 333 4 "meet_nullish" "meet_nullish" (sM 114) ["s","t","fs","ft"] jo .none,
 F 495 1237 339 5 "meet_values" "meet_values" (sM 115) ["tab","s","t","fs","ft"] jo .none,
 F 502 1248 349 5 "meet_objects" "meet_objects" (sM 116) ["tab","s","t","fs","ft"] jo .none,
 F 509 1259 357 3 "meet_case" "meet_case" (sM 117) ["tab","s","t","fs","ft"] jo .none,
 F 516 1270 371 3 "lay_on" "lay_on" (sM 118) ["tab","kept","t","out","held","one","case"] jo .none,
 F 523 1283 385 2 "members_of_meet" "members_of_meet" (sM 119) ["tab","t","row","decl"] jo .none,
 G 530 1293 396 3 "meet_parts" "meet_parts" (sM 120) jo .none,
 F 535 1299 405 3 "meet_two" "meet_two" (sM 121) ["tab","s","t","found","left","right","crossed","one","other","met"] jo .none,
 F 542 1315 421 2 "inter" "inter" (sM 122) ["tab","parts","t","out","place"] jo .none,
 ([tP #[(N 0 1326)] 0]),
 F 550 1327 430 3 "may_be_nullish" "may_be_nullish" (sM 123) ["tab","t","deep","part","row","bound"] jo (R 549),
 F 557 1339 446 3 "mapped_may_be_nullish" "mapped_may_be_nullish" (sM 124) ["tab","row","deep","keys"] jo .none,
 G 564 1349 449 3 "meet_may_be_nullish" "meet_may_be_nullish" (sM 125) jo .none,
 F 569 1355 454 2 "not_nullish" "not_nullish" (sM 126) ["tab","t"] jo .none,
 G 576 1363 462 2 "remove_nullish" "remove_nullish" (sM 127) jo .none,
 ([tP #[(N 10 799),(N 15 809),(N 16 811),(N 19 817),(N 7 793)] 0]),
 F 582 1374 467 1 "path_text" "path_text" (sM 131) ["node","head"] uC .none,
 F 589 1382 477 3 "nullish_fault" "nullish_fault" (sM 132) ["null","undef","named"] uC .none,
 G 596 1391 483 2 "seen_parts" "seen_parts" (sM 133) uC .none,
 F 601 1397 496 5 "tell_nullish" "tell_nullish" (sM 134) ["cx","node","t","null","undef","path"] uC .none,
 G 608 1409 504 3 "solid_kind" "solid_kind" (sM 135) uC .none,
 G 613 1415 522 3 "short_kind" "short_kind" (sM 136) uC .none,
 ([z,p,d 23 ([en P "__module__" 1434 i8,en P "__qualname__" 1436 (T "Thin" 1435),en P "__firstlineno__" 1438 (N 539 1437),en P "__init__" 1446 (R 631),en P "force" 1454 (R 638),en P "put_deferred" 1462 (R 645),en P "put_cond" 1471 (R 652),en P "lay_row" 1480 (R 659),en P "bound" 1488 (R 666),en P "shape" 1496 (R 673),en P "fits" 1505 (R 680),en P "lies" 1514 (R 687),en P "infers" 1524 (R 694),en P "tpl_fits" 1533 (R 701),en P "shape_fits" 1542 (R 708),en P "put_in" 1551 (R 715),en P "own_sig" 1560 (R 722),en P "forget" 1567 (R 729),en P "list_prop" 1576 (R 736),en P "list_index" 1584 (R 743),en P "elem_met" 1592 (R 750),en P "error_class" 1599 (R 757),en P "__static_attributes__" 1605 (R 758)]),z,v 4 [(541,630),(548,637),(551,644),(554,651),(557,658),(560,665),(563,672),(566,679),(569,686),(572,693),(575,700),(578,707),(581,714),(584,721),(587,728),(590,735),(593,742),(596,749),(599,756)],c 623 1429 539 "Thin",f 623 620 i8]),
 F 625 1439 541 2 "Thin.__init__" "__init__" (mM 140 0) ["self","tab"] i8 .none,
 F 632 1447 548 2 "Thin.force" "force" (mM 140 1) ["self","t"] i8 .none,
 F 639 1455 551 2 "Thin.put_deferred" "put_deferred" (mM 140 2) ["self","row"] i8 .none,
 F 646 1463 554 3 "Thin.put_cond" "put_cond" (mM 140 3) ["self","row","mapping"] i8 .none,
 F 653 1472 557 3 "Thin.lay_row" "lay_row" (mM 140 4) ["self","row","mapping"] i8 .none,
 F 660 1481 560 2 "Thin.bound" "bound" (mM 140 5) ["self","t"] i8 .none,
 F 667 1489 563 2 "Thin.shape" "shape" (mM 140 6) ["self","t"] i8 .none,
 F 674 1497 566 3 "Thin.fits" "fits" (mM 140 7) ["self","s","t"] i8 .none,
 F 681 1506 569 3 "Thin.lies" "lies" (mM 140 8) ["self","s","t"] i8 .none,
 F 688 1515 572 4 "Thin.infers" "infers" (mM 140 9) ["self","pids","check","ext"] i8 .none,
 F 695 1525 575 3 "Thin.tpl_fits" "tpl_fits" (mM 140 10) ["self","s","t"] i8 .none,
 F 702 1534 578 3 "Thin.shape_fits" "shape_fits" (mM 140 11) ["self","s","t"] i8 .none,
 F 709 1543 581 3 "Thin.put_in" "put_in" (mM 140 12) ["self","t","mapping"] i8 .none,
 F 716 1552 584 3 "Thin.own_sig" "own_sig" (mM 140 13) ["self","s","erased"] i8 .none,
 F 723 1561 587 1 "Thin.forget" "forget" (mM 140 14) ["self"] i8 .none,
 F 730 1568 590 3 "Thin.list_prop" "list_prop" (mM 140 15) ["self","t","name"] i8 .none,
 F 737 1577 593 2 "Thin.list_index" "list_index" (mM 140 16) ["self","t"] i8 .none,
 F 744 1585 596 2 "Thin.elem_met" "elem_met" (mM 140 17) ["self","kinds"] i8 .none,
 F 751 1593 599 1 "Thin.error_class" "error_class" (mM 140 18) ["self"] i8 .none,
 ([t 1600 ["deep","lib","most_deep","most_rounds","tab"],d 4 ([en P "__module__" 1434 i8,en P "__firstlineno__" 1438 (N 539 1437),en P "__init__" 1446 (R 631),en P "force" 1454 (R 638),en P "put_deferred" 1462 (R 645),en P "put_cond" 1471 (R 652),en P "lay_row" 1480 (R 659),en P "bound" 1488 (R 666),en P "shape" 1496 (R 673),en P "fits" 1505 (R 680),en P "lies" 1514 (R 687),en P "infers" 1524 (R 694),en P "tpl_fits" 1533 (R 701),en P "shape_fits" 1542 (R 708),en P "put_in" 1551 (R 715),en P "own_sig" 1560 (R 722),en P "forget" 1567 (R 729),en P "list_prop" 1576 (R 736),en P "list_index" 1584 (R 743),en P "elem_met" 1592 (R 750),en P "error_class" 1599 (R 757),en P "__static_attributes__" 1605 (R 758),en P "__dict__" 1607 (R 761),en P "__weakref__" 1609 (R 762),en P "__doc__" 1610 .none]),Uq,g 1606 760,k 1608 760,s 760,i 760])]
noncomputable def C6(P:Params)(Ur:Obj):List Obj:=List.flatten [
 F 765 1613 601 2 "bound_of" "bound_of" (sM 141) ["tab","t","row","bound"] i8 .none,
 ([r [760],p,d 6 ([en P "__module__" 1632 wo,en P "__qualname__" 1634 (T "BoundHost" 1633),en P "__firstlineno__" 1636 (N 608 1635),en P "bound" 1644 (R 785),en P "shape" 1652 (R 792),en P "__static_attributes__" 1653 (R 793)]),z,v 4 [(610,784),(613,791)],c 777 1627 608 "BoundHost",f 777 774 wo]),
 F 779 1637 610 2 "BoundHost.bound" "bound" (mM 143 0) ["self","t"] wo .none,
 F 786 1645 613 2 "BoundHost.shape" "shape" (mM 143 1) ["self","t"] wo .none,
 ([z,d 2 ([en P "__module__" 1632 wo,en P "__firstlineno__" 1636 (N 608 1635),en P "bound" 1644 (R 785),en P "shape" 1652 (R 792),en P "__static_attributes__" 1653 (R 793),en P "__doc__" 1654 .none]),a 795 794 "BoundHost" [(R 760)] [(R 760),O] [] #[(some (R 772)),none,(some (T "BoundHost" 1625)),(some (T "BoundHost" 1633)),(some (B "object.__new__")),(some (.bool true))],s 795,i 795,z,p,d 5 ([en P "__module__" 1668 dz,en P "__qualname__" 1670 (T "ExprRule" 1669),en P "__firstlineno__" 1672 (N 617 1671),en P "kind_of" 1682 (R 811),en P "__static_attributes__" 1683 (R 812)]),z,v 4 [(619,810)],c 803 1663 617 "ExprRule",f 803 800 dz]),
 F 805 1673 619 4 "ExprRule.kind_of" "kind_of" (mM 146 0) ["self","cx","node","want"] dz .none,
 ([z,d 4 ([en P "__module__" 1668 dz,en P "__firstlineno__" 1672 (N 617 1671),en P "kind_of" 1682 (R 811),en P "__static_attributes__" 1683 (R 812),en P "__dict__" 1685 (R 815),en P "__weakref__" 1687 (R 816),en P "__doc__" 1688 .none]),Ur,g 1684 814,k 1686 814,s 814,i 814,z,p,d 7 ([en P "__module__" 1698 dz,en P "__qualname__" 1700 (T "Guard" 1699),en P "__firstlineno__" 1702 (N 621 1701),en P "access" 1713 (R 832),en P "readonly" 1723 (R 839),en P "reckons" 1734 (R 846),en P "__static_attributes__" 1735 (R 847)]),z,v 4 [(623,831),(626,838),(629,845)],c 824 1693 621 "Guard",f 824 821 dz]),
 F 826 1703 623 5 "Guard.access" "access" (mM 147 0) ["self","cx","node","row","obj"] dz .none,
 F 833 1714 626 4 "Guard.readonly" "readonly" (mM 147 1) ["self","cx","target","row"] dz .none,
 F 840 1724 629 5 "Guard.reckons" "reckons" (mM 147 2) ["self","cx","node","row","obj"] dz .none,
 ([z,d 4 ([en P "__module__" 1698 dz,en P "__firstlineno__" 1702 (N 621 1701),en P "access" 1713 (R 832),en P "readonly" 1723 (R 839),en P "reckons" 1734 (R 846),en P "__static_attributes__" 1735 (R 847),en P "__dict__" 1737 (R 850),en P "__weakref__" 1739 (R 851),en P "__doc__" 1740 .none]),a 849 848 "Guard" [O] [O] [] #[none,none,(some (T "Guard" 1691)),(some (T "Guard" 1699)),(some (B "object.__new__")),(some (.bool true))],g 1736 849,k 1738 849,s 849,i 849,z,p,d 6 ([en P "__module__" 1750 dz,en P "__qualname__" 1752 (T "Roads" 1751),en P "__firstlineno__" 1754 (N 631 1753),en P "__init__" 1761 (R 867),en P "unset" 1772 (R 874),en P "__static_attributes__" 1774 (R 875)]),z,v 4 [(633,866),(636,873)],c 859 1745 631 "Roads",f 859 856 dz]),
 F 861 1755 633 1 "Roads.__init__" "__init__" (mM 148 0) ["self"] dz .none,
 F 868 1762 636 5 "Roads.unset" "unset" (mM 148 1) ["self","cx","flow","name","declared"] dz .none,
 ([t 1773 ["given"],d 4 ([en P "__module__" 1750 dz,en P "__firstlineno__" 1754 (N 631 1753),en P "__init__" 1761 (R 867),en P "unset" 1772 (R 874),en P "__static_attributes__" 1774 (R 875),en P "__dict__" 1776 (R 878),en P "__weakref__" 1778 (R 879),en P "__doc__" 1779 .none]),a 877 876 "Roads" [O] [O] [] #[none,none,(some (T "Roads" 1743)),(some (T "Roads" 1751)),(some (B "object.__new__")),(some (.bool true))],g 1775 877,k 1777 877,s 877,i 877,z,p,d 14 ([en P "__module__" 1789 dz,en P "__qualname__" 1791 (T "Judge" 1790),en P "__firstlineno__" 1793 (N 638 1792),en P "__init__" 1800 (R 895),en P "fits" 1810 (R 902),en P "lies" 1820 (R 909),en P "excess" 1830 (R 916),en P "meets" 1840 (R 923),en P "same" 1850 (R 930),en P "reduced" 1860 (R 937),en P "met" 1869 (R 944),en P "words" 1878 (R 951),en P "explain" 1891 (R 958),en P "__static_attributes__" 1893 (R 959)]),z,v 4 [(640,894),(643,901),(646,908),(649,915),(652,922),(655,929),(658,936),(661,943),(664,950),(667,957)],c 887 1784 638 "Judge",f 887 884 dz]),
 F 889 1794 640 1 "Judge.__init__" "__init__" (mM 149 0) ["self"] dz .none,
 F 896 1801 643 4 "Judge.fits" "fits" (mM 149 1) ["self","cx","s","t"] dz .none,
 F 903 1811 646 4 "Judge.lies" "lies" (mM 149 2) ["self","cx","s","t"] dz .none,
 F 910 1821 649 4 "Judge.excess" "excess" (mM 149 3) ["self","cx","s","t"] dz .none,
 F 917 1831 652 4 "Judge.meets" "meets" (mM 149 4) ["self","cx","s","t"] dz .none,
 F 924 1841 655 4 "Judge.same" "same" (mM 149 5) ["self","cx","s","t"] dz .none,
 F 931 1851 658 4 "Judge.reduced" "reduced" (mM 149 6) ["self","cx","node","parts"] dz .none,
 F 938 1861 661 3 "Judge.met" "met" (mM 149 7) ["self","cx","parts"] dz .none,
 F 945 1870 664 3 "Judge.words" "words" (mM 149 8) ["self","cx","t"] dz .none,
 F 952 1879 667 7 "Judge.explain" "explain" (mM 149 9) ["self","cx","node","s","t","at","number"] dz .none,
 ([t 1892 ["given"],d 4 ([en P "__module__" 1789 dz,en P "__firstlineno__" 1793 (N 638 1792),en P "__init__" 1800 (R 895),en P "fits" 1810 (R 902),en P "lies" 1820 (R 909),en P "excess" 1830 (R 916),en P "meets" 1840 (R 923),en P "same" 1850 (R 930),en P "reduced" 1860 (R 937),en P "met" 1869 (R 944),en P "words" 1878 (R 951),en P "explain" 1891 (R 958),en P "__static_attributes__" 1893 (R 959),en P "__dict__" 1895 (R 962),en P "__weakref__" 1897 (R 963),en P "__doc__" 1898 .none]),a 961 960 "Judge" [O] [O] [] #[none,none,(some (T "Judge" 1782)),(some (T "Judge" 1790)),(some (B "object.__new__")),(some (.bool true))],g 1894 961,k 1896 961,s 961,i 961,z,p,d 7 ([en P "__module__" 1908 dz,en P "__qualname__" 1910 (T "Patterns" 1909),en P "__firstlineno__" 1912 (N 669 1911),en P "spread" 1923 (R 979),en P "element" 1933 (R 986),en P "names" 1943 (R 993),en P "__static_attributes__" 1944 (R 994)]),z,v 4 [(671,978),(677,985),(680,992)],c 971 1903 669 "Patterns",f 971 968 dz]),
 F 973 1913 671 5 "Patterns.spread" "spread" (mM 150 0) ["self","cx","pattern","t","sink"] dz .none,
 F 980 1924 677 4 "Patterns.element" "element" (mM 150 1) ["self","cx","node","t"] dz .none,
 F 987 1934 680 4 "Patterns.names" "names" (mM 150 2) ["self","cx","node","t"] dz .none,
 ([z,d 4 ([en P "__module__" 1908 dz,en P "__firstlineno__" 1912 (N 669 1911),en P "spread" 1923 (R 979),en P "element" 1933 (R 986),en P "names" 1943 (R 993),en P "__static_attributes__" 1944 (R 994),en P "__dict__" 1946 (R 997),en P "__weakref__" 1948 (R 998),en P "__doc__" 1949 .none]),a 996 995 "Patterns" [O] [O] [] #[none,none,(some (T "Patterns" 1901)),(some (T "Patterns" 1909)),(some (B "object.__new__")),(some (.bool true))],g 1945 996,k 1947 996,s 996,i 996,z,p,d 5 ([en P "__module__" 1959 dz,en P "__qualname__" 1961 (T "Giver" 1960),en P "__firstlineno__" 1963 (N 682 1962),en P "given" 1973 (R 1014),en P "__static_attributes__" 1974 (R 1015)]),z,v 4 [(684,1013)],c 1006 1954 682 "Giver",f 1006 1003 dz]),
 F 1008 1964 684 4 "Giver.given" "given" (mM 151 0) ["self","cx","node","key"] dz .none,
 ([z,d 4 ([en P "__module__" 1959 dz,en P "__firstlineno__" 1963 (N 682 1962),en P "given" 1973 (R 1014),en P "__static_attributes__" 1974 (R 1015),en P "__dict__" 1976 (R 1018),en P "__weakref__" 1978 (R 1019),en P "__doc__" 1979 .none]),a 1017 1016 "Giver" [O] [O] [] #[none,none,(some (T "Giver" 1952)),(some (T "Giver" 1960)),(some (B "object.__new__")),(some (.bool true))],g 1975 1017,k 1977 1017,s 1017,i 1017,z,p,d 6 ([en P "__module__" 1989 dz,en P "__qualname__" 1991 (T "Places" 1990),en P "__firstlineno__" 1993 (N 686 1992),en P "self_kind" 2002 (R 1035),en P "base_kind" 2011 (R 1042),en P "__static_attributes__" 2012 (R 1043)]),z,v 4 [(688,1034),(691,1041)],c 1027 1984 686 "Places",f 1027 1024 dz]),
 F 1029 1994 688 3 "Places.self_kind" "self_kind" (mM 152 0) ["self","cx","node"] dz .none,
 F 1036 2003 691 3 "Places.base_kind" "base_kind" (mM 152 1) ["self","cx","node"] dz .none,
 ([z,d 4 ([en P "__module__" 1989 dz,en P "__firstlineno__" 1993 (N 686 1992),en P "self_kind" 2002 (R 1035),en P "base_kind" 2011 (R 1042),en P "__static_attributes__" 2012 (R 1043),en P "__dict__" 2014 (R 1046),en P "__weakref__" 2016 (R 1047),en P "__doc__" 2017 .none]),a 1045 1044 "Places" [O] [O] [] #[none,none,(some (T "Places" 1982)),(some (T "Places" 1990)),(some (B "object.__new__")),(some (.bool true))],g 2013 1045,k 2015 1045,s 1045,i 1045,z,p,d 5 ([en P "__module__" 2027 dz,en P "__qualname__" 2029 (T "FuncRule" 2028),en P "__firstlineno__" 2031 (N 693 2030),en P "check" 2041 (R 1063),en P "__static_attributes__" 2042 (R 1064)]),z,v 4 [(695,1062)],c 1055 2022 693 "FuncRule",f 1055 1052 dz]),
 F 1057 2032 695 4 "FuncRule.check" "check" (mM 153 0) ["self","cx","node","want"] dz .none,
 ([z,d 4 ([en P "__module__" 2027 dz,en P "__firstlineno__" 2031 (N 693 2030),en P "check" 2041 (R 1063),en P "__static_attributes__" 2042 (R 1064),en P "__dict__" 2044 (R 1067),en P "__weakref__" 2046 (R 1068),en P "__doc__" 2047 .none]),a 1066 1065 "FuncRule" [O] [O] [] #[none,none,(some (T "FuncRule" 2020)),(some (T "FuncRule" 2028)),(some (B "object.__new__")),(some (.bool true))],g 2043 1066,k 2045 1066,s 1066,i 1066])]
noncomputable def C7(P:Params):List Obj:=List.flatten [
 ([z,p,d 28 ([en P "__module__" 2057 dz,en P "__qualname__" 2059 (T "Sheet" 2058),en P "__firstlineno__" 2061 (N 697 2060),en P "__init__" 2075 (R 1084),en P "expr" 2084 (R 1091),en P "stmt" 2092 (R 1098),en P "typed" 2100 (R 1105),en P "read" 2110 (R 1112),en P "wants" 2121 (R 1119),en P "fits" 2133 (R 1126),en P "func" 2142 (R 1133),en P "declared_of" 2150 (R 1140),en P "fault" 2160 (R 1147),en P "tell" 2171 (R 1154),en P "words" 2179 (R 1161),en P "note" 2188 (R 1168),en P "keep" 2197 (R 1175),en P "declare" 2206 (R 1182),en P "mark" 2214 (R 1189),en P "back" 2222 (R 1196),en P "tried" 2231 (R 1203),en P "given" 2240 (R 1210),en P "self_kind" 2248 (R 1217),en P "base_kind" 2256 (R 1224),en P "solid" 2265 (R 1231),en P "short" 2274 (R 1238),en P "road" 2283 (R 1245),en P "__static_attributes__" 2342 (R 1246)]),z,v 4 [(699,1083),(759,1090),(762,1097),(765,1104),(768,1111),(771,1118),(774,1125),(777,1132),(780,1139),(783,1146),(786,1153),(792,1160),(795,1167),(798,1174),(803,1181),(806,1188),(810,1195),(813,1202),(816,1209),(819,1216),(822,1223),(825,1230),(828,1237),(831,1244)],c 1076 2052 697 "Sheet",f 1076 1073 dz]),
 F 1078 2062 699 8 "Sheet.__init__" "__init__" (mM 154 0) ["self","tab","host","bound","graph","namer","diags","notes"] dz .none,
 F 1085 2076 759 3 "Sheet.expr" "expr" (mM 154 1) ["self","node","want"] dz .none,
 F 1092 2085 762 2 "Sheet.stmt" "stmt" (mM 154 2) ["self","node"] dz .none,
 F 1099 2093 765 2 "Sheet.typed" "typed" (mM 154 3) ["self","node"] dz .none,
 F 1106 2101 768 4 "Sheet.read" "read" (mM 154 4) ["self","node","key","declared"] dz .none,
 F 1113 2111 771 5 "Sheet.wants" "wants" (mM 154 5) ["self","s","t","at","number"] dz .none,
 F 1120 2122 774 6 "Sheet.fits" "fits" (mM 154 6) ["self","node","s","t","at","number"] dz .none,
 F 1127 2134 777 3 "Sheet.func" "func" (mM 154 7) ["self","node","want"] dz .none,
 F 1134 2143 780 2 "Sheet.declared_of" "declared_of" (mM 154 8) ["self","sid"] dz .none,
 F 1141 2151 783 4 "Sheet.fault" "fault" (mM 154 9) ["self","number","node","args"] dz .none,
 F 1148 2161 786 4 "Sheet.tell" "tell" (mM 154 10) ["self","number","at","args","diag"] dz .none,
 F 1155 2172 792 2 "Sheet.words" "words" (mM 154 11) ["self","t"] dz .none,
 F 1162 2180 795 3 "Sheet.note" "note" (mM 154 12) ["self","code","node"] dz .none,
 F 1169 2189 798 3 "Sheet.keep" "keep" (mM 154 13) ["self","node","t"] dz .none,
 F 1176 2198 803 3 "Sheet.declare" "declare" (mM 154 14) ["self","sid","t"] dz .none,
 F 1183 2207 806 1 "Sheet.mark" "mark" (mM 154 15) ["self","told"] dz .none,
 F 1190 2215 810 2 "Sheet.back" "back" (mM 154 16) ["self","mark"] dz .none,
 F 1197 2223 813 3 "Sheet.tried" "tried" (mM 154 17) ["self","node","want"] dz .none,
 F 1204 2232 816 3 "Sheet.given" "given" (mM 154 18) ["self","node","key"] dz .none,
 F 1211 2241 819 2 "Sheet.self_kind" "self_kind" (mM 154 19) ["self","node"] dz .none,
 F 1218 2249 822 2 "Sheet.base_kind" "base_kind" (mM 154 20) ["self","node"] dz .none,
 F 1225 2257 825 3 "Sheet.solid" "solid" (mM 154 21) ["self","node","t"] dz .none,
 F 1232 2266 828 3 "Sheet.short" "short" (mM 154 22) ["self","node","t"] dz .none,
 F 1239 2275 831 3 "Sheet.road" "road" (mM 154 23) ["self","node","t"] dz .none,
 ([t 2284 ["asker","banged","bound","bound_decls","busy","called","callees","chains","const_enums","consts","declared","deep","diags","drawn","dropped","exprs","func_at","funcs","giver","globals","got_by","graph","guard","guesses","heads","host","inits","inside","judge","late","later","lent","loops","marks","namer","notes","owners","paired","patterns","places","preset","ready","rets","roads","roots","rounds","selves_of","sigs","sorts","stmts","stops","tab","targets","this_of","told_names","trail","types","under"],d 4 ([en P "__module__" 2057 dz,en P "__firstlineno__" 2061 (N 697 2060),en P "__init__" 2075 (R 1084),en P "expr" 2084 (R 1091),en P "stmt" 2092 (R 1098),en P "typed" 2100 (R 1105),en P "read" 2110 (R 1112),en P "wants" 2121 (R 1119),en P "fits" 2133 (R 1126),en P "func" 2142 (R 1133),en P "declared_of" 2150 (R 1140),en P "fault" 2160 (R 1147),en P "tell" 2171 (R 1154),en P "words" 2179 (R 1161),en P "note" 2188 (R 1168),en P "keep" 2197 (R 1175),en P "declare" 2206 (R 1182),en P "mark" 2214 (R 1189),en P "back" 2222 (R 1196),en P "tried" 2231 (R 1203),en P "given" 2240 (R 1210),en P "self_kind" 2248 (R 1217),en P "base_kind" 2256 (R 1224),en P "solid" 2265 (R 1231),en P "short" 2274 (R 1238),en P "road" 2283 (R 1245),en P "__static_attributes__" 2342 (R 1246),en P "__dict__" 2344 (R 1249),en P "__weakref__" 2346 (R 1250),en P "__doc__" 2347 .none]),a 1248 1247 "Sheet" [O] [O] [] #[none,none,(some (T "Sheet" 2050)),(some (T "Sheet" 2058)),(some (B "object.__new__")),(some (.bool true))],g 2343 1248,k 2345 1248,s 1248,i 1248]),
 F 1253 2350 833 3 "expr_kind" "expr_kind" (sM 155) ["cx","node","want","t"] dz .none,
 G 1260 2360 848 2 "stays_told" "stays_told" (sM 156) dz .none,
 G 1265 2366 852 2 "take_back" "take_back" (sM 157) dz .none,
 F 1270 2372 871 3 "given_kind" "given_kind" (sM 158) ["cx","node","key","mark","chains"] dz .none,
 F 1277 2383 884 6 "want_fit" "want_fit" (sM 159) ["cx","node","s","t","at","number","fits","codes","code"] dz .none,
 ([r [814],p,d 5 ([en P "__module__" 2407 yW,en P "__qualname__" 2409 (T "BangRule" 2408),en P "__firstlineno__" 2411 (N 895 2410),en P "kind_of" 2423 (R 1297),en P "__static_attributes__" 2424 (R 1298)]),z,v 4 [(897,1296)],c 1289 2402 895 "BangRule",f 1289 1286 yW]),
 F 1291 2412 897 4 "BangRule.kind_of" "kind_of" (mM 161 0) ["self","cx","node","want","t","solid"] yW .none,
 ([z,d 2 ([en P "__module__" 2407 yW,en P "__firstlineno__" 2411 (N 895 2410),en P "kind_of" 2423 (R 1297),en P "__static_attributes__" 2424 (R 1298),en P "__doc__" 2425 .none]),a 1300 1299 "BangRule" [(R 814)] [(R 814),O] [] #[(some (R 1284)),none,(some (T "BangRule" 2400)),(some (T "BangRule" 2408)),(some (B "object.__new__")),(some (.bool true))],s 1300,i 1300,tP #[(N (-1) 2431),(T "U" 2432),(N (-1) 2434)] 0,tP #[(N (-1) 2436),(T "N" 2437),(N (-1) 2439)] 0,tP #[(N (-1) 2441),(T "V" 2442),(N (-1) 2444)] 0,tP #[(N 3 2445),(T "A" 2446),(N 3 2447)] 0,tP #[(N 4 2448),(T "B" 2449),(N 4 2450)] 0,tP #[(N 5 2451),(T "S" 2452),(N 5 2453)] 0,tP #[(N 6 2454),(T "L" 2455),(N 6 2456)] 0,tP #[(N 13 2457),(T "AU" 2458),(N 3 2459)] 0,tP #[(N 8 2460),(T "A" 2461),(N 3 2462)] 0,tP #[(N 14 2463),(T "NU" 2464),(N (-1) 2466)] 0,tP #[(N 15 2467),(T "AU" 2468),(N 3 2469)] 0,tP #[(N 16 2470),(T "AV" 2471),(N (-1) 2473)] 0,tP #[(N 17 2474),(T "AU" 2475),(N 3 2476)] 0,tP #[(N 13 2477),(T "A" 2478),(N 3 2479)] 0,tP #[(N 14 2480),(T "" 2481),(N (-1) 2483)] 0,tP #[(N 15 2484),(T "A" 2485),(N 3 2486)] 0,tP #[(N 16 2487),(T "A" 2488),(N 3 2489)] 0,tP #[(N 17 2490),(T "A" 2491),(N 3 2492)] 0,tP #[(N 18 2493),(T "E" 2494),(N (-1) 2496)] 0,tP #[(N 18 2497),(T "NUE" 2498),(N (-1) 2500)] 0,tP #[(N 20 2501),(T "" 2502),(N (-1) 2504)] 0,tP #[(N 21 2505),(T "" 2506),(N (-1) 2508)] 0,r [1303,1304,1305,1306,1307,1308,1309,1310,1311,1312,1313,1314,1315,1316,1317,1318,1319,1320,1321,1322,1323,1324]]),
 F 1326 2510 909 2 "_law_take" "_law_take" (sM 164) ["g","n","at","x"] kM .none,
 F 1333 2520 914 1 "_law_world" "_law_world" (sM 165) ["tab","a","b","held","sure","void","far","idle","last","out","one"] kM .none,
 F 1340 2537 927 1 "_law_sorted" "_law_sorted" (sM 166) ["atoms","out","one"] kM .none,
 G 1347 2546 933 1 "_law_kind" "_law_kind" (sM 167) kM .none,
 G 1352 2552 938 2 "_law_id" "_law_id" (sM 168) kM .none,
 G 1357 2558 940 1 "_law_off" "_law_off" (sM 169) kM .none,
 G 1362 2564 942 1 "_law_values" "_law_values" (sM 170) kM .none,
 F 1367 2570 944 5 "_law_node" "_law_node" (sM 171) ["w","kind","a","kids","flags","node"] kM .none,
 F 1374 2582 949 3 "_law_read" "_law_read" (sM 172) ["w","kind","name","found","one","home"] kM .none,
 F 1381 2594 966 4 "_law_go" "_law_go" (sM 173) ["w","node","opt","kind","held","due","got"] kM .none,
 G 1388 2607 977 4 "_law_use" "_law_use" (sM 174) kM .none,
 F 1393 2613 995 3 "_law_bang" "_law_bang" (sM 175) ["w","node","kind","cx","due","bang"] kM .none,
 F 1400 2625 1005 3 "_law_end" "_law_end" (sM 176) ["w","node","kind","bang","cut"] kM .none,
 F 1407 2636 1014 2 "_law_head" "_law_head" (sM 177) ["w","form"] kM .none,
 G 1414 2644 1022 1 "_law_chain" "_law_chain" (sM 178) kM .none,
 G 1419 2650 1065 1 "law" "law" (sM 179) kM .none]
end H
section
open H
noncomputable def V2(P:Params):BT:=mk 12 (C0 P ⟨.none,none,.dict #[] 0,#[]⟩ (d 9 (en P "__name__" 165 zx::(e3 P).take 8)) (v 0 (rC.take 0)))
noncomputable def V3(P:Params):BT:=mk 12 (C0 P ⟨.none,none,.dict #[] 0,#[]⟩ (d 21 (en P "__name__" 165 qZ::(e3 P).take 20)) (v 0 (rC.take 1))++C1 P)
noncomputable def V4(P:Params):BT:=mk 12 (C0 P ⟨.none,none,.dict #[] 0,#[]⟩ (d 22 (en P "__name__" 165 qZ::(e3 P).take 21)) (v 0 (rC.take 1))++C1 P++C2 P)
noncomputable def V5(P:Params):BT:=mk 12 (C0 P (o2 P) (d 83 (en P "__name__" 165 iw::(e3 P).take 82)) (v 0 (rC.take 10))++C1 P++C2 P++C3 P)
noncomputable def V6(P:Params):BT:=mk 12 (C0 P (o2 P) (d 84 (en P "__name__" 165 iw::(e3 P).take 83)) (v 0 (rC.take 10))++C1 P++C2 P++C3 P++C4 P)
noncomputable def V7(P:Params):BT:=mk 12 (C0 P (o2 P) (d 144 (en P "__name__" 165 i8::(e3 P).take 143)) (v 0 (rC.take 61))++C1 P++C2 P++C3 P++C4 P++C5 P (a 760 759 "Thin" [O] [O] [] #[none,none,(some (T "Thin" 1427)),(some (T "Thin" 1435)),(some (B "object.__new__")),(some (.bool true))]))
noncomputable def V8(P:Params):BT:=mk 12 (C0 P (o2 P) (d 155 (en P "__name__" 165 dz::(e3 P).take 154)) (v 0 (rC.take 71))++C1 P++C2 P++C3 P++C4 P++C5 P (a 760 759 "Thin" [O] [O] [(R 795)] #[none,none,(some (T "Thin" 1427)),(some (T "Thin" 1435)),(some (B "object.__new__")),(some (.bool true))])++C6 P (a 814 813 "ExprRule" [O] [O] [] #[none,none,(some (T "ExprRule" 1661)),(some (T "ExprRule" 1669)),(some (B "object.__new__")),(some (.bool true))]))
noncomputable def xx(P:Params):BT:=mk 12 (C0 P (o2 P) (d 179 (en P "__name__" 165 kM::(e3 P).take 178)) (v 0 (rC.take 94))++C1 P++C2 P++C3 P++C4 P++C5 P (a 760 759 "Thin" [O] [O] [(R 795)] #[none,none,(some (T "Thin" 1427)),(some (T "Thin" 1435)),(some (B "object.__new__")),(some (.bool true))])++C6 P (a 814 813 "ExprRule" [O] [O] [(R 1300)] #[none,none,(some (T "ExprRule" 1661)),(some (T "ExprRule" 1669)),(some (B "object.__new__")),(some (.bool true))])++C7 P)
end
noncomputable def eL:Env:={scope:=pw.main.scope,locals:=mainNs,globals:=mainNs,cells:=[],code:=.ref 13,frame:=some 14}
noncomputable def TP:Pos:=⟨0,0,0,0⟩
noncomputable abbrev iQ:Option Value:=some (.ref 6)
noncomputable def gS(i n:Nat):List Stmt:=(pw.main.body.drop i).take n
noncomputable def jZ:List Stmt:=behindTheImports pw
noncomputable def U0(w:World)(os:OsState):SharedT:=⟨V2 w.params,15,{},#[],{},187,os⟩
noncomputable def P0:Pos:=⟨0,0,0,0⟩
noncomputable def U1(w:World)(os:OsState):SharedT:=⟨V3 w.params,22,{},#[],{},218,os⟩
noncomputable def P1:Pos:=⟨15,0,15,10⟩
noncomputable def U2(w:World)(os:OsState):SharedT:=⟨V4 w.params,28,{},#[],{},486,os⟩
noncomputable def P2:Pos:=⟨16,0,16,10⟩
noncomputable def U3(w:World)(os:OsState):SharedT:=⟨V5 w.params,254,{},#[],{},898,os⟩
noncomputable def P3:Pos:=⟨135,0,135,11⟩
noncomputable def U4(w:World)(os:OsState):SharedT:=⟨V6 w.params,255,{},#[],{},905,os⟩
noncomputable def P4:Pos:=⟨136,0,136,12⟩
noncomputable def U5(w:World)(os:OsState):SharedT:=⟨V7 w.params,765,{},#[],{},1613,os⟩
noncomputable def P5:Pos:=⟨539,0,600,17⟩
noncomputable def U6(w:World)(os:OsState):SharedT:=⟨V8 w.params,1071,{},#[],{},2050,os⟩
noncomputable def P6:Pos:=⟨693,0,696,17⟩
noncomputable def U7(w:World)(os:OsState):SharedT:=⟨xx w.params,1424,{},#[],{},2656,os⟩
noncomputable def P7:Pos:=⟨1065,0,1076,35⟩
end
theorem V9(p:Program)(b:List Stmt)(os:OsState)(w:World):segRunT treeTable p w 11 iQ 1 138 (U0 w os) (piecesOf (gS 0 13) eL (.body b eL) P0 [topFrame TP])=some (.next,U1 w os,.body b eL,P1):=by rw[aT,aV];kernel_rfl
theorem Us(p:Program)(b:List Stmt)(os:OsState)(w:World):(λw=>segRunT treeTable p w 11 iQ 1 1635 (U1 w os) (piecesOf (gS 13 1) eL (.body b eL) P1 [topFrame TP])=some (.next,U2 w os,.body b eL,P2)) (w.withFollow "special-get-raises" false):=by show segRunT treeTable p (w.withFollow "special-get-raises" false) 11 iQ 1 1635 (U1 (w.withFollow "special-get-raises" false) os) (piecesOf (gS 13 1) eL (.body b eL) P1 [topFrame TP])=_;rw[aT,aV];kernel_rfl
theorem Ut(p:Program)(b:List Stmt)(os:OsState)(w:World):(λw=>segRunT treeTable p w 11 iQ 1 1635 (U1 w os) (piecesOf (gS 13 1) eL (.body b eL) P1 [topFrame TP])=some (.next,U2 w os,.body b eL,P2)) (w.withFollow "special-get-raises" true):=by show segRunT treeTable p (w.withFollow "special-get-raises" true) 11 iQ 1 1635 (U1 (w.withFollow "special-get-raises" true) os) (piecesOf (gS 13 1) eL (.body b eL) P1 [topFrame TP])=_;rw[aT,aV];kernel_rfl
theorem Wa(p:Program)(b:List Stmt)(os:OsState)(w:World):segRunT treeTable p w 11 iQ 1 1635 (U1 w os) (piecesOf (gS 13 1) eL (.body b eL) P1 [topFrame TP])=some (.next,U2 w os,.body b eL,P2):=
 byRow2 "special-get-raises" (P:=λw=>segRunT treeTable p w 11 iQ 1 1635 (U1 w os) (piecesOf (gS 13 1) eL (.body b eL) P1 [topFrame TP])=some (.next,U2 w os,.body b eL,P2)) (Us p b os) (Ut p b os) w
theorem Wb(p:Program)(b:List Stmt)(os:OsState)(w:World):segRunT treeTable p w 11 iQ 1 2504 (U2 w os) (piecesOf (gS 14 63) eL (.body b eL) P2 [topFrame TP])=some (.next,U3 w os,.body b eL,P3):=by rw[aT,aV];kernel_rfl
theorem Uu(p:Program)(b:List Stmt)(os:OsState)(w:World):(λw=>segRunT treeTable p w 11 iQ 1 101 (U3 w os) (piecesOf (gS 77 1) eL (.body b eL) P3 [topFrame TP])=some (.next,U4 w os,.body b eL,P4)) (w.withFollow "special-get-raises" false):=by show segRunT treeTable p (w.withFollow "special-get-raises" false) 11 iQ 1 101 (U3 (w.withFollow "special-get-raises" false) os) (piecesOf (gS 77 1) eL (.body b eL) P3 [topFrame TP])=_;rw[aT,aV];kernel_rfl
theorem Uv(p:Program)(b:List Stmt)(os:OsState)(w:World):(λw=>segRunT treeTable p w 11 iQ 1 101 (U3 w os) (piecesOf (gS 77 1) eL (.body b eL) P3 [topFrame TP])=some (.next,U4 w os,.body b eL,P4)) (w.withFollow "special-get-raises" true):=by show segRunT treeTable p (w.withFollow "special-get-raises" true) 11 iQ 1 101 (U3 (w.withFollow "special-get-raises" true) os) (piecesOf (gS 77 1) eL (.body b eL) P3 [topFrame TP])=_;rw[aT,aV];kernel_rfl
theorem Wc(p:Program)(b:List Stmt)(os:OsState)(w:World):segRunT treeTable p w 11 iQ 1 101 (U3 w os) (piecesOf (gS 77 1) eL (.body b eL) P3 [topFrame TP])=some (.next,U4 w os,.body b eL,P4):=
 byRow2 "special-get-raises" (P:=λw=>segRunT treeTable p w 11 iQ 1 101 (U3 w os) (piecesOf (gS 77 1) eL (.body b eL) P3 [topFrame TP])=some (.next,U4 w os,.body b eL,P4)) (Uu p b os) (Uv p b os) w
theorem Wd(p:Program)(b:List Stmt)(os:OsState)(w:World):segRunT treeTable p w 11 iQ 1 2745 (U4 w os) (piecesOf (gS 78 63) eL (.body b eL) P4 [topFrame TP])=some (.next,U5 w os,.body b eL,P5):=by rw[aT,aV];kernel_rfl
theorem We(p:Program)(b:List Stmt)(os:OsState)(w:World):segRunT treeTable p w 11 iQ 1 2629 (U5 w os) (piecesOf (gS 141 13) eL (.body b eL) P5 [topFrame TP])=some (.next,U6 w os,.body b eL,P6):=by rw[aT,aV];kernel_rfl
theorem Wf(p:Program)(b:List Stmt)(os:OsState)(w:World):segRunT treeTable p w 11 iQ 1 2135 (U6 w os) (piecesOf (gS 154 26) eL (.body b eL) P6 [topFrame TP])=some (.next,U7 w os,.body b eL,P7):=by rw[aT,aV];kernel_rfl
end
end Mine
end
section
open PySem PySem.W PyProof.Rows PySem.Calls
namespace Mine
noncomputable def TLo(P:Params)(a:Nat):Option Obj:=bif Nat.blt a 1424 then (xx P).get a else none
noncomputable def KAl(P:Params)(h:Heap):Prop:=∀a o,TLo P a=some o->h.get? a=some o
noncomputable def frl(L:Nat->Option Obj)(l:List Nat):Frag:=l.filterMap λa=>(L a).map λo=>(a,o)
theorem Mc:Nonempty World:=⟨⟨λ_ _=>0,{strHash:=default,shareClass:=default,mergeTok:=default,idOf:=default,idOfShared:=default,followText:=default,idOfImm:=default}⟩⟩
noncomputable abbrev CC:=World×Shared×(Str->Option Value)×(Str->Option Value)
theorem GL:Nonempty CC:=Mc.elim λw=>⟨(w,⟨{},#[],{},1,{}⟩,λ_=>none,λ_=>none)⟩
structure Here(x:CC):Prop where
 X:KAl x.1.params x.2.1.heap
 g:x.2.1.heap.Ns mainGlobals x.2.2.1
 b:x.2.1.heap.Ns builtinsNs x.2.2.2
 n:x.2.1.heap.NoLimit
 e:x.2.1.gens=#[]
noncomputable def RH(c:ClaimW)(cl:Str->Option Addr)(args:List WData)(v:Value)(is:List Int)(s:Shared):Prop:=
 is.length<=63/\(∃a o vs n as,v=.ref a/\s.heap.get? a=some o/\o.cls=.type "list"/\o.data=.seq vs n/\ReadsAllW c.records cl s.heap vs.toList (is.map .int) as)/\(∀k,c.raises args k=false)/\c.post args (.bool true) args=true
noncomputable def Goes(x:CC):Prop:=∀(c:ClaimW) (cl:Str->Option Addr) (wQ:ExcName->Option Value) (args:List WData) (v:Value) (is:List Int),RH c cl args v is x.2.1->
 codeAny (model PySem.Challenge.pw_sa0416_01 x.1) callerA (.call (.ref 1423) ⟨[v],[]⟩) (GoodWG c cl wQ args x.2.1) x.2.1
noncomputable def cc:CC:=@Classical.epsilon CC GL λx=>Here x/\¬Goes x
noncomputable def w:World:=cc.1
noncomputable def h₀:Heap:=cc.2.1.heap
noncomputable def mg:Str->Option Value:=cc.2.2.1
noncomputable def mb:Str->Option Value:=cc.2.2.2
@[irreducible] noncomputable def prog:Program:=PySem.Challenge.pw_sa0416_01
theorem PZ:prog=PySem.Challenge.pw_sa0416_01:=by unfold prog;rfl
theorem RI(k:Here cc->Goes cc)(x:CC)(h:Here x):Goes x:=Classical.byContradiction λn=>
 have q:=@Classical.epsilon_spec_aux CC GL (λx=>Here x/\¬Goes x) ⟨x,h,n⟩
 q.2 (k q.1)
end Mine
end
section
set_option hygiene false
set_option tactic.hygienic false
local macro_rules
  | `(tactic| exists $x:ident, $y:ident) => `(tactic| first | (refine Mine.pairK $x fun zq1 zq2 => ?_; clear $x; subst zq1; subst zq2) | (refine Mine.someK $x fun zq1 => ?_; clear $x; subst zq1) | (refine Mine.prK $x fun zq1 zq2 => ?_; clear $x; subst zq1; subst zq2))
  | `(tactic| exists $x:ident) => `(tactic| first | (refine Mine.pairQ $x ?_; clear $x) | (refine Mine.someQ $x ?_; clear $x) | (refine Mine.prQ $x ?_; clear $x))
namespace Mine
open PySem PySem.W PyProof.Rows PySem.SeqAt PySem.Calls
inductive MV where
 | none
 | bool (b:Bool)
 | int (i:Int)
 | str (s:Str)
 | tup (xs:List MV)
 | lst (xs:List MV)
 | bO (es:List (MV×MV))
 | inst (c:Addr) (fs:List (Str×MV))
 | obj (n:Nat)
 | glob (a:Addr)
 | blt (id:String)
 | typ (nm:String)
inductive Loc where
 | slot (n:Nat) (k:Str)
 | var (x:Str)
inductive EV where
 | val (v:MV)
 | fresh (v:MV)
 | cont (l:Loc)
 | bor (v:MV)
inductive eO where
 | v (x:MV)
 | c (x:MV)
structure kR where
 cls:Option Addr
 fs:List (Str×eO)
inductive LV where
 | v (x:MV)
 | own (x:MV)
 | bor (x:MV)
noncomputable abbrev eN:=List kR
structure St where
 loc:List (Str×LV)
 aD:eN
structure Fn where
 params:List Str
 nL:List MV
 body:List Stmt
 scope:Scope
structure Cl where
 init:Option Addr
 meths:List (Str×Addr)
 uO:Bool
structure Prog where
 fn:Addr->Option Fn
 cls:Addr->Option Cl
 oH:Str->Option MV
structure Ctx where
 scope:Scope
 ro:Bool
 rb:Bool
 comp:Bool
inductive Fl where
 | bN
 | ret (v:EV)
noncomputable def bE:Nat:=1048576
noncomputable def qy:Int:=4611686018427387904
noncomputable def ownNames:List Str:=["out","got","found","waiting","chained","node"]
mutual
noncomputable def MV.beq:MV->MV->Bool
 | .none,.none=>true
 | .int a,.int b=>decide (a=b)
 | .str a,.str b=>decide (a=b)
 | .tup a,.tup b=>MV.g7 a b
 | .lst a,.lst b=>MV.g7 a b
 | _,_=>false
noncomputable def MV.g7:List MV->List MV->Bool
 | [],[]=>true
 | a::r,b::t=>MV.beq a b&&MV.g7 r t
 | _,_=>false
end
noncomputable def MV.data:Nat->MV->Bool
 | _,.none=>true
 | _,.int _=>true
 | _,.str _=>true
 | n+1,.tup xs=>xs.all (MV.data n)
 | n+1,.lst xs=>xs.all (MV.data n)
 | _,_=>false
def gm(a b:MV):Option Bool:=if MV.data 6 a&&MV.data 6 b then some (MV.beq a b) else none
noncomputable def keyKind:MV->Nat
 | .int _=>1
 | .str _=>2
 | .tup _=>3
 | _=>0
noncomputable def MV.key:Nat->MV->Bool
 | _,.int _=>true
 | _,.str _=>true
 | n+1,.tup xs=>xs.all (MV.key n)
 | _,_=>false
def yX(k:MV):Bool:=MV.key 6 k
def gE(es:List (MV×MV))(k:MV):Bool:=yX k&&(match es with
 | []=>true
 | e::_=>Nat.beq (keyKind e.1) (keyKind k))
noncomputable def eK:List (MV×MV)->MV->Option MV
 | [],_=>none
 | (k,v)::r,x=>if MV.beq k x then some v else eK r x
noncomputable def iy:List (MV×MV)->MV->MV->List (MV×MV)
 | [],x,y=>[(x,y)]
 | (k,v)::r,x,y=>if MV.beq k x then (k,y)::r else (k,v)::iy r x y
def truth:MV->Option Bool
 | .bool b=>some b
 | .none=>some false
 | .int i=>some (decide (i≠0))
 | .lst xs=>if xs.length<bE then some (!xs.isEmpty) else none
 | _=>none
noncomputable def look{α:Type}:List (Str×α)->Str->Option α
 | [],_=>none
 | (k,v)::r,x=>if decide (k=x) then some v else look r x
theorem jX{α:Type}{k x:Str}{v:α}{r:List (Str×α)}:look ((k,v)::r) x=if decide (k=x) then some v else look r x:=rfl
noncomputable def put{α:Type}:List (Str×α)->Str->α->List (Str×α)
 | [],x,y=>[(x,y)]
 | (k,v)::r,x,y=>if decide (k=x) then (k,y)::r else (k,v)::put r x y
noncomputable def yN:List (Nat×List Str):=[
 (285,[Str.ofString "rows",Str.ofString "index",Str.ofString "decls",Str.ofString "bounds",Str.ofString "defaults",Str.ofString "names",Str.ofString "origins",Str.ofString "renamed",Str.ofString "shaping",Str.ofString "putting"]),
 (961,[Str.ofString "given"]),
 (877,[Str.ofString "given"]),
 (795,[Str.ofString "tab",Str.ofString "deep",Str.ofString "most_rounds",Str.ofString "most_deep",Str.ofString "lib"]),
 (223,[Str.ofString "rows"]),
 (181,[Str.ofString "rows",Str.ofString "file"]),
 (147,[Str.ofString "number",Str.ofString "at",Str.ofString "args",Str.ofString "file"]),
 (44,[Str.ofString "kind",Str.ofString "a",Str.ofString "kids",Str.ofString "flags",Str.ofString "at",Str.ofString "nid"]),
 (1248,[Str.ofString "tab",Str.ofString "host",Str.ofString "bound",Str.ofString "graph",Str.ofString "namer",Str.ofString "diags",Str.ofString "notes",Str.ofString "exprs",Str.ofString "stmts",Str.ofString "sorts",Str.ofString "types",Str.ofString "declared",Str.ofString "busy",Str.ofString "called",Str.ofString "consts",Str.ofString "sigs",Str.ofString "bound_decls",Str.ofString "inside",Str.ofString "rets",Str.ofString "chains",Str.ofString "trail",Str.ofString "later",Str.ofString "late",Str.ofString "targets",Str.ofString "globals",Str.ofString "loops",Str.ofString "roots",Str.ofString "inits",Str.ofString "paired",Str.ofString "got_by",Str.ofString "under",Str.ofString "drawn",Str.ofString "lent",Str.ofString "dropped",Str.ofString "marks",Str.ofString "owners",Str.ofString "this_of",Str.ofString "func_at",Str.ofString "selves_of",Str.ofString "rounds",Str.ofString "callees",Str.ofString "heads",Str.ofString "banged",Str.ofString "told_names",Str.ofString "guesses",Str.ofString "ready",Str.ofString "const_enums",Str.ofString "preset",Str.ofString "asker",Str.ofString "stops",Str.ofString "judge",Str.ofString "guard",Str.ofString "roads",Str.ofString "patterns",Str.ofString "giver",Str.ofString "funcs",Str.ofString "places",Str.ofString "deep"])]
noncomputable def qi{α:Type}:List (Nat×α)->Nat->Option α
 | [],_=>none
 | (k,v)::r,x=>if Nat.beq k x then some v else qi r x
def iV(c:Nat)(k:Str):Bool:=match qi yN c with
 | some ks=>ks.any λx=>decide (x=k)
 | none=>false
def getSlot(σ:eN)(n:Nat)(k:Str):Option eO:=(σ[n]?).bind λo=>look o.fs k
def setSlot(σ:eN)(n:Nat)(k:Str)(x:eO):Option eN:=(σ[n]?).map λo=>σ.set n {o with fs:=put o.fs k x}
def fZ(st:St):Loc->Option MV
 | .slot n k=>match getSlot st.aD n k with
  | some (.c x)=>some x
  | _=>none
 | .var x=>match look st.loc x with
  | some (.own y)=>some y
  | _=>none
def gf(st:St):EV->Option MV
 | .val v=>some v
 | .fresh v=>some v
 | .bor v=>some v
 | .cont l=>fZ st l
def oU:MV->Bool
 | .bO es=>es.all λe=>Nat.beq (keyKind e.1) 1
 | _=>true
def jB:EV->Option MV
 | .val v=>some v
 | .fresh v=>if oU v then some v else none
 | _=>none
noncomputable def gX:EV->Bool
 | .cont (.slot ..)=>true
 | _=>false
def jI(cx:Ctx)(simple:Bool)(bs:List EV):Bool:=simple||!cx.rb||!bs.any gX
def nN(st:St):EV->Option LV
 | .val v=>some (.v v)
 | .fresh v=>if oU v then some (.v v) else none
 | .bor v=>some (.bor v)
 | .cont l=>(fZ st l).map .bor
def iZ(cx:Ctx)(st:St)(l:Loc)(x:MV):Option St:=match l with
 | .slot n k=>if cx.ro then none else match getSlot st.aD n k with
  | some (.c _)=>(setSlot st.aD n k (.c x)).map λσ=>{st with aD:=σ}
  | _=>none
 | .var y=>if cx.comp then none else match look st.loc y with
  | some (.own _)=>some {st with loc:=put st.loc y (.own x)}
  | _=>none
def vX(σ:eN)(n:Nat)(k:Str):Bool:=match σ[n]? with
 | some o=>(match look o.fs k,o.cls with
  | some _,_=>true
  | none,some c=>iV c k
  | none,none=>false)
 | none=>false
def lO(cx:Ctx)(st:St)(n:Nat)(k:Str)(e:EV):Option St:=
 if cx.ro||!vX st.aD n k then none else
 match e,getSlot st.aD n k with
 | .val v,some (.v _)=>(setSlot st.aD n k (.v v)).map λσ=>{st with aD:=σ}
 | .val v,_=>if cx.rb then (setSlot st.aD n k (.v v)).map λσ=>{st with aD:=σ} else none
 | .fresh v,_=>if cx.rb then (setSlot st.aD n k (match v with | .lst _=>.c v | .bO _=>.c v | _=>.v v)).map λσ=>{st with aD:=σ} else none
 | _,_=>none
def small(i:Int):Bool:=decide (-qy<=i)&&decide (i<=qy)
noncomputable def zy:MV->Option Int
 | .int i=>some i
 | _=>none
noncomputable def I9:MV->Option (List MV)
 | .tup i=>some i
 | _=>none
noncomputable def sP:MV->Option (List MV)
 | .lst i=>some i
 | _=>none
noncomputable def CT:MV->Option Str
 | .str i=>some i
 | _=>none
noncomputable def Ja:MV->Option (List (MV×MV))
 | .bO i=>some i
 | _=>none
def Uw(a b:MV):Option EV:=match a with
 | .int x=>(zy b).bind λy=>if small x&&small y then some (.val (.int (x+y))) else none
 | .tup x=>(I9 b).bind λy=>if x.length<=bE&&y.length<=bE then some (.val (.tup (x++y))) else none
 | .lst x=>(sP b).bind λy=>if x.length<=bE&&y.length<=bE then some (.fresh (.lst (x++y))) else none
 | .str x=>(CT b).bind λy=>if x.length<=bE&&y.length<=bE then some (.val (.str (x++y))) else none
 | _=>none
def ints2(a b:MV)(f:Int->Int->Option EV):Option EV:=(zy a).bind λx=>(zy b).bind λy=>f x y
def binop(op:Operator)(a b:MV):Option EV:=match op with
 | .Add=>Uw a b
 | .Mult=>ints2 a b λx y=>if small x&&decide (0<=y)&&decide (y<=1000)&&decide (-1000000000<=x)&&decide (x<=1000000000) then some (.val (.int (x*y))) else none
 | .Mod=>ints2 a b λx y=>if decide (0<y)&&decide (y<=qy) then some (.val (.int (Int.fmod x y))) else none
 | .BitAnd=>ints2 a b λx y=>if decide (0<=x)&&decide (x<=255)&&decide (0<=y)&&decide (y<=255) then some (.val (.int (Int.ofNat (x.toNat&&& y.toNat)))) else none
 | _=>none
def SV(x:MV):List MV->Option Bool
 | []=>some false
 | y::r=>match gm y x with
  | some true=>some true
  | some false=>SV x r
  | none=>none
noncomputable def subAt(x y:List Nat):Bool:=match y with
 | []=>x.isEmpty
 | _::r=>x.isPrefixOf y||subAt x r
def isIn(x c:MV):Option Bool:=match c with
 | .lst ys=>if MV.data 6 x&&ys.all (MV.data 5) then some (ys.any λy=>MV.beq y x) else none
 | .tup ys=>if MV.data 6 x&&ys.all (MV.data 5) then some (ys.any λy=>MV.beq y x) else none
 | .bO es=>if gE es x then some (eK es x).isSome else none
 | .str s=>match x with
  | .str t=>if decide (t.length=1) then some (s.cps.toList.any λc=>decide (some c=t.cps.toList.head?)) else none
  | _=>none
 | _=>none
noncomputable def nC:MV->Bool
 | .int _=>true
 | _=>false
def uD(a b:List (MV×MV)):Option Bool:=
 if a.all (λe=>nC e.1&&nC e.2)&&b.all (λe=>nC e.1&&nC e.2)&&MV.g7 (a.map (·.1)) (b.map (·.1))&&MV.g7 (a.map (·.2)) (b.map (·.2)) then some true else none
noncomputable def isNone:MV->Option Bool
 | .none=>some true
 | .blt _=>none
 | _=>some false
def qj(op:CmpOp)(a b:MV):Option Bool:=match op with
 | .Eq=>(match a,b with
  | .bO x,.bO y=>uD x y
  | _,_=>gm a b)
 | .NotEq=>(gm a b).map (!·)
 | .Lt=>(match a,b with | .int x,.int y=>some (decide (x<y)) | _,_=>none)
 | .LtE=>(match a,b with | .int x,.int y=>some (decide (x<=y)) | _,_=>none)
 | .Gt=>(match a,b with | .int x,.int y=>some (decide (x>y)) | _,_=>none)
 | .GtE=>(match a,b with | .int x,.int y=>some (decide (x≥y)) | _,_=>none)
 | .In=>isIn a b
 | .NotIn=>(isIn a b).map (!·)
 | .Is=>(match b with | .none=>isNone a | _=>none)
 | .IsNot=>(match b with | .none=>(isNone a).map (!·) | _=>none)
noncomputable def idx(xs:List MV)(i:Int):Option MV:=if decide (0<=i) then xs[i.toNat]? else if decide (i=-1) then xs[xs.length-1]? else none
def wu(xs:List MV)(i:Int):Option (List MV):=if decide (0<=i)&&decide (i<=bE) then some (xs.take i.toNat) else if decide (i=-1) then some (xs.take (xs.length-1)) else none
noncomputable def mj(x:Int):List Int->List Int
 | []=>[x]
 | y::r=>if decide (x<=y) then x::y::r else y::mj x r
def i0:List Int->List Int
 | []=>[]
 | x::r=>mj x (i0 r)
noncomputable def nD:List MV->Option (List Int)
 | []=>some []
 | .int i::r=>(nD r).map (i::·)
 | _=>none
def sorted(xs:List MV):Option MV:=match xs with
 | [.str s]=>some (.lst [.str s])
 | _=>(nD xs).map λis=>.lst ((i0 is).map .int)
noncomputable def items:MV->Option (List MV)
 | .lst xs=>some xs
 | .tup xs=>some xs
 | .bO es=>some (es.map (·.1))
 | _=>none
noncomputable def nE:List MV->Option (List Str)
 | []=>some []
 | .str s::r=>(nE r).map (s::·)
 | _=>none
noncomputable def gP(sep:Str):List Str->Str
 | []=>Str.empty
 | [x]=>x
 | x::r=>x++sep++gP sep r
noncomputable def allB:List MV->Option Bool
 | []=>some true
 | .bool b::r=>if b then allB r else (allB r).map λZ=>false
 | _=>none
def nO:MV->Option Int
 | .lst xs=>if xs.length<=bE then some xs.length else none
 | .tup xs=>if xs.length<=bE then some xs.length else none
 | _=>none
def p8(v:MV):Option MV:=match v with
 | .lst xs=>if xs.length<64 then (nD xs).map λis=>.lst ((i0 is).map .int) else none
 | .bO es=>if es.length<64 then sorted (es.map (·.1)) else none
 | _=>none
def Jb:MV->Option Bool
 | .lst xs=>if xs.length<=bE then allB xs else none
 | _=>none
def su(nm:String)(st:St)(as:List EV):Option EV:=match as with
 | [a]=>(gf st a).bind λv=>
  if nm=="len" then (nO v).map λi=>.val (.int i)
  else if nm=="sorted" then (p8 v).map .fresh
  else if nm=="all" then (Jb v).map λb=>.val (.bool b)
  else none
 | _=>none
def Hy:MV->Option MV
 | .lst xs=>if xs.length<=bE then some (.tup xs) else none
 | .tup xs=>some (.tup xs)
 | _=>none
noncomputable def uP:MV->Option MV
 | .int i=>if decide (0<=i)&&decide (i<=1000000) then some (.str (Str.ofString (toString i))) else none
 | _=>none
def wz(nm:String)(st:St)(as:List EV):Option EV:=match as with
 | [a]=>(gf st a).bind λv=>
  if nm=="tuple" then (Hy v).map .val
  else if nm=="str" then (uP v).map .val
  else none
 | _=>none
noncomputable def Bind(f:Fn)(as:List LV):Option (List (Str×LV)):=
 let miss:=f.params.length-as.length
 if as.length<=f.params.length&&miss<=f.nL.length then
  some (f.params.zip (as++(f.nL.drop (f.nL.length-miss)).map .v))
 else none
abbrev j0:=Ctx->Addr->List LV->eN->Option (EV×St)
structure Ev where
 e:Ctx->Expr->St->Option (EV×St)
 t:Ctx->Expr->St->Option (Bool×St)
 s:Ctx->Stmt->St->Option (Fl×St)
 ss:Ctx->List Stmt->St->Option (Fl×St)
def uq:EV->Bool
 | .fresh v=>oU v
 | _=>true
def fC(f:Expr->St->Option (EV×St)):List Expr->St->Option (List EV×St)
 | [],st=>some ([],st)
 | e::r,st=>(f e st).bind λ(a,st)=>if uq a then (fC f r st).bind λ(as,st)=>some (a::as,st) else none
noncomputable def ki{α β:Type}(f:α->Option β):List α->Option (List β)
 | []=>some []
 | a::r=>(f a).bind λb=>(ki f r).bind λbs=>some (b::bs)
noncomputable def jH(n:Nat)(e:Expr):Bool:=match e with
 | .Constant ..=>true
 | .Name ..=>true
 | .Attribute o _ _=>match n with
  | 0=>false
  | n+1=>jH n o
 | .Subscript o i _=>match n with
  | 0=>false
  | n+1=>jH n o&&jH n i
 | .UnaryOp _ e _=>match n with
  | 0=>false
  | n+1=>jH n e
 | .BinOp a _ b _=>match n with
  | 0=>false
  | n+1=>jH n a&&jH n b
 | .List es _=>match n with
  | 0=>false
  | n+1=>es.all (jH n)
 | .Tuple es _ _=>match n with
  | 0=>false
  | n+1=>es.all (jH n)
 | _=>false
termination_by structural n
def isSimple(e:Expr):Bool:=jH 6 e
noncomputable def r9(t:St->Option (Bool×St))(f:St->Option (Fl×St)):Nat->St->Option (Fl×St)
 | 0,_=>none
 | n+1,st=>(t st).bind λ(b,st)=>if b then (f st).bind λ(fl,st)=>(match fl with
   | .bN=>r9 t f n st
   | fl=>some (fl,st)) else some (.bN,st)
noncomputable def jM(t:Expr->St->Option (Bool×St)):List Expr->St->Option (Bool×St)
 | [],st=>some (true,st)
 | e::r,st=>(t e st).bind λ(b,st)=>if b then jM t r st else some (false,st)
noncomputable abbrev j4(sc:Scope)(cx:Ctx)(b:Bool):Ctx:=⟨sc,cx.ro||b,cx.rb,true⟩
def mQ(ev:Ev)(cx:Ctx)(ifs:List Expr)(elt:Expr)(x:Str)(outer:List (Str×LV)):List MV->eN->Option (List MV×eN)
 | [],σ=>some ([],σ)
 | v::r,σ=>
  (jM (ev.t cx) ifs ⟨(x,.v v)::outer,σ⟩).bind λ(ok,st)=>
   if ok then (ev.e cx elt st).bind λ(a,st)=>(jB a).bind λy=>(mQ ev cx ifs elt x outer r st.aD).bind λ(ys,σ)=>some (y::ys,σ)
   else mQ ev cx ifs elt x outer r st.aD
noncomputable def pC(t:Expr->St->Option (Bool×St)):List Expr->St->Option (Bool×St)
 | [],st=>some (false,st)
 | e::r,st=>(t e st).bind λ(b,st)=>if b then some (true,st) else pC t r st
noncomputable def uE:List (Str×LV)->Str->List (Str×LV)
 | [],_=>[]
 | (k,v)::r,x=>if decide (k=x) then uE r x else (k,v)::uE r x
noncomputable def eY:Str×LV->Str×LV
 | (x,.own v)=>(x,.bor v)
 | y=>y
noncomputable def ly:MV->Bool
 | .lst _=>true
 | .bO _=>true
 | .inst _ _=>true
 | _=>false
noncomputable def jG(cx:Ctx)(x:Str):Option NameKind:=cx.scope.names.lookup x
noncomputable def CU:Option NameKind->Bool
 | some .globalImplicit=>true
 | _=>false
noncomputable def vY(x:Str):Bool:=!(x==Str.ofString "__debug__")&&!(x==Str.ofString "__classdict__")
def getName(P:Prog)(cx:Ctx)(st:St)(x:Str):Option EV:=if !vY x then none else match jG cx x with
 | some .globalImplicit=>(P.oH x).map .val
 | some .globalExplicit=>none
 | none=>none
 | some _=>match look st.loc x with
  | some (.v v)=>some (.val v)
  | some (.own _)=>some (.cont (.var x))
  | some (.bor v)=>some (.bor v)
  | none=>none
def setName(cx:Ctx)(st:St)(x:Str)(a:EV):Option St:=
 if cx.comp then none else match jG cx x with
 | some .globalImplicit=>none
 | some .globalExplicit=>none
 | some .free=>none
 | none=>none
 | some _=>match a with
  | .val v=>some {st with loc:=put st.loc x (.v v)}
  | .fresh v=>if ownNames.contains x&&ly v then some {st with loc:=put st.loc x (.own v)} else if oU v then some {st with loc:=put st.loc x (.v v)} else none
  | _=>none
def sd(st:St)(a:EV)(k:Str):Option EV:=match a with
 | .val (.obj n)=>(match (st.aD[n]?).map (·.cls),getSlot st.aD n k with
  | some (some _),some (.v x)=>some (.val x)
  | some (some _),some (.c _)=>some (.cont (.slot n k))
  | _,_=>none)
 | .val (.inst _ fs)=>(look fs k).map .val
 | .bor (.inst _ fs)=>(look fs k).map .val
 | .cont l=>match fZ st l with
  | some (.inst _ fs)=>(look fs k).map .val
  | _=>none
 | _=>none
def mR(v i:MV):Option MV:=match v,i with
 | .lst xs,.int i=>if (decide (0<=i)||decide (xs.length<=bE))&&decide (i<=bE) then idx xs i else none
 | .tup xs,.int i=>if xs.length<=bE&&decide (i<=bE) then idx xs i else none
 | .str s,.int i=>if decide (0<=i)&&decide (i<bE)&&decide (i<s.length) then some (.str ⟨#[s.cps.getD i.toNat 0]⟩) else none
 | .bO es,k=>if gE es k then eK es k else none
 | _,_=>none
def itemOf(st:St)(o i:EV):Option EV:=
 match o,i with
 | .val (.obj n),.val (.str k)=>(match (st.aD[n]?).map (·.cls),getSlot st.aD n k with
  | some none,some (.v x)=>some (.val x)
  | some none,some (.c _)=>some (.cont (.slot n k))
  | _,_=>none)
 | _,.val i=>(gf st o).bind λv=>(mR v i).map .val
 | _,_=>none
def Jc(v:MV)(i:Int):Option EV:=match v with
 | .lst xs=>if xs.length<=bE then (wu xs i).map λys=>.fresh (.lst ys) else none
 | .tup xs=>if xs.length<=bE then (wu xs i).map λys=>.val (.tup ys) else none
 | _=>none
def Cg(st:St)(o i:EV):Option EV:=match i with
 | .val (.int i)=>(gf st o).bind λv=>Jc v i
 | _=>none
noncomputable def yY:EV->Option Loc
 | .cont l=>some l
 | _=>none
noncomputable def zz{α:Type}:List α->Option α
 | [a]=>some a
 | _=>none
def J4:EV->Option (List MV)
 | .fresh v=>sP v
 | _=>none
noncomputable def zA:EV->Option MV
 | .val v=>some v
 | _=>none
def Jd:List EV->Option (MV×MV)
 | [a,b]=>(zA a).bind λx=>(zA b).map λy=>(x,y)
 | _=>none
def Je(cx:Ctx)(st:St)(o:EV)(as:List EV):Option (EV×St):=(yY o).bind λl=>(zz as).bind λa=>(fZ st l).bind λc=>(jB a).bind λv=>(sP c).bind λxs=>
 if xs.length<bE then (iZ cx st l (.lst (xs++[v]))).map λst=>(.val .none,st) else none
def Jf(cx:Ctx)(st:St)(o:EV)(as:List EV):Option (EV×St):=if !as.isEmpty then none else (yY o).bind λl=>(fZ st l).bind λc=>(sP c).bind λxs=>xs.getLast?.bind λv=>
 if xs.length<bE then (iZ cx st l (.lst xs.dropLast)).map λst=>(.val v,st) else none
def Jg(cx:Ctx)(st:St)(o:EV)(as:List EV):Option (EV×St):=(yY o).bind λl=>(zz as).bind λa=>(J4 a).bind λys=>(fZ st l).bind λc=>(sP c).bind λxs=>
 if xs.length<bE&&ys.length<bE then (iZ cx st l (.lst (xs++ys))).map λst=>(.val .none,st) else none
def Jh(st:St)(o:EV)(as:List EV):Option (EV×St):=(Jd as).bind λ(k,d)=>(gf st o).bind λc=>(Ja c).bind λes=>if gE es k then some (.val ((eK es k).getD d),st) else none
def Ij(st:St)(o:EV)(as:List EV):Option (EV×St):=(zA o).bind λz=>(CT z).bind λs=>(zz as).bind λa=>(gf st a).bind λc=>(sP c).bind λxs=>
 if xs.length<=4096&&s.length<=16 then (nE xs).bind λss=>if ss.all (λs=>decide (s.length<=16)) then some (.val (.str (gP s ss)),st) else none else none
def qQ(cx:Ctx)(st:St)(o:EV)(m:Str)(as:List EV):Option (EV×St):=
 if decide (m=Str.ofString "append") then Je cx st o as
 else if decide (m=Str.ofString "pop") then Jf cx st o as
 else if decide (m=Str.ofString "extend") then Jg cx st o as
 else if decide (m=Str.ofString "get") then Jh st o as
 else if decide (m=Str.ofString "join") then Ij st o as
 else none
def qU(as:List EV):Option (List MV):=ki jB as
noncomputable def ofConst:Const->Option MV
 | .none=>some .none
 | .bool b=>some (.bool b)
 | .int i=>some (.int i)
 | .str s=>if s.cps.toList.all (λc=>Nat.blt c 1114112) then some (.str s) else none
 | _=>none
structure Ep where
 t:Nat:=0
 a:Expr:=default
 b:Expr:=default
 c:Expr:=default
 l:List Expr:=[]
 d:List (Option Expr):=[]
 n:Str:=default
 k:Nat:=0
 o:CmpOp:=.Eq
 p:Operator:=.Add
 s:Scope:=default
 q:Option Expr:=none
 v:Option Const:=none
noncomputable def ep:Expr->Ep
 | .Compare l ops rs _=>{a:=l,b:=rs.headD default,o:=ops.headD .Eq}
 | .BinOp l o r _=>{a:=l,b:=r,p:=o}
 | .Attribute o k _=>{a:=o,n:=k}
 | .Subscript o i _=>{a:=o,b:=i}
 | .IfExp t a b _=>{a:=t,b:=a,c:=b}
 | .Call f as _ _=>{t:=5,a:=f,l:=as}
 | .UnaryOp _ x _=>{a:=x}
 | .ListComp x gs sc _=>{t:=1,a:=x,b:=(gs.map (·.iter)).headD default,c:=(gs.map (·.target)).headD default,l:=(gs.map (·.ifs)).headD [],s:=sc}
 | .SetComp ..=>{t:=1}
 | .DictComp ..=>{t:=1}
 | .Starred ..=>{t:=3}
 | .Set ..=>{t:=4}
 | .Tuple es k _=>{t:=6,l:=es,k:=k}
 | .List es _=>{l:=es}
 | .BoolOp _ es _=>{l:=es}
 | .Name x _=>{t:=7,n:=x}
 | .Constant c k _=>{k:=k,v:=some c}
 | .Dict ks es _=>{d:=ks,l:=es}
 | .Slice a i b _=>{t:=2,b:=i.getD default,q:=if a.isNone&&b.isNone then i else none}
 | _=>{}
noncomputable def Ux(k:Option Expr):Option Str:=k.bind λe=>match (ep e).v with
 | some (.str i)=>some i
 | _=>none
noncomputable def strKeys:List (Option Expr)->Option (List Str)
 | []=>some []
 | k::r=>(Ux k).bind λs=>(strKeys r).map (s::·)
noncomputable def newSlot:EV->Option eO
 | .val v=>some (.v v)
 | .fresh (.lst xs)=>some (.c (.lst xs))
 | .fresh (.bO xs)=>some (.c (.bO xs))
 | _=>none
noncomputable def noStar(e:Expr):Bool:=!Nat.beq (ep e).t 3
def ia(ev:Ev)(cx:Ctx)(e:Expr)(st:St):Option (List MV×Bool×St):=match e with
 | .Call (.Name f _) [n] [] _=>if decide (f=Str.ofString "range")&&CU (jG cx f)&&noStar n then
   (ev.e cx n st).bind λ(a,st)=>(match a with
    | .val (.int n)=>if decide (0<=n)&&decide (n<=4096) then some ((List.range n.toNat).map (λi=>MV.int (Int.ofNat i)),false,st) else none
    | _=>none)
  else (ev.e cx e st).bind λ(a,st)=>n9 a st
 | _=>(ev.e cx e st).bind λ(a,st)=>n9 a st
where
 n9 (a:EV) (st:St):Option (List MV×Bool×St):=match a with
  | .val (.lst xs)=>some (xs,false,st)
  | .val (.tup xs)=>some (xs,false,st)
  | .fresh (.lst xs)=>some (xs,false,st)
  | .bor (.lst xs)=>some (xs,false,st)
  | .bor (.tup xs)=>some (xs,false,st)
  | .val (.str s)=>some (s.cps.toList.map λc=>.str ⟨#[c]⟩,false,st)
  | .cont (.slot n k)=>(match fZ st (.slot n k) with
   | some (.lst xs)=>some (xs,true,st)
   | _=>none)
  | .cont (.var x)=>(match fZ st (.var x) with
   | some (.lst xs)=>if cx.comp then none else some (xs,false,{st with loc:=put st.loc x (.v (.lst xs))})
   | _=>none)
  | _=>none
noncomputable def YA(e:Expr):Bool:=match e with
 | .Call (.Name f _) [_] [] _=>decide (f=Str.ofString "range")
 | _=>false
def blocks(a:EV)(r:Expr):Bool:=match a with
 | .cont _=>!isSimple r
 | _=>false
noncomputable def jJ(e:Expr):Bool:=Nat.beq (ep e).t 4
noncomputable def uc(e:Expr):Bool:=Nat.beq (ep e).t 2
noncomputable def n6:Expr->Bool
 | .Call (.Name ..) [] [] _=>false
 | _=>true
noncomputable def o5(m:Str):MV->Bool
 | .lst _=>decide (m=Str.ofString "append")||decide (m=Str.ofString "pop")||decide (m=Str.ofString "extend")
 | .bO _=>decide (m=Str.ofString "get")
 | .str _=>decide (m=Str.ofString "join")
 | _=>false
def rV(P:Prog)(st:St)(o:EV)(m:Str):Option (Option Addr):=match o with
 | .val (.obj n)=>(st.aD[n]?).bind λob=>ob.cls.bind λc=>(P.cls c).bind λC=>if (look ob.fs m).isNone then (look C.meths m).map some else none
 | .val (.inst c fs)=>(P.cls c).bind λC=>if (look fs m).isNone then (look C.meths m).map some else none
 | _=>(gf st o).bind λv=>if o5 m v then some none else none
noncomputable def sA:EV->Option MV
 | .val v=>some v
 | _=>none
def J5(cx:Ctx)(x:Str)(lk:Str->Option NameKind)(y:Str):NameKind->Bool
 | .local=>(decide (y=x)||decide (y=Str.ofString ".0"))&&decide (lk y=some .local)
 | .cell=>false
 | .free=>decide (jG cx y=some .cell)
 | _=>true
def rW(cx:Ctx)(x:Str)(lk:Str->Option NameKind)(l:List (Str×NameKind)):Bool:=l.all λp=>J5 cx x lk p.1 p.2
def ur(cx:Ctx)(sc:Scope)(x:Str)(iter:Expr)(st:St):Bool:=
 !cx.comp&&!jJ iter&&decide (sc.kind=.function)&&decide (sc.names.lookup x=some .local)&&
  rW cx x (λy=>sc.names.lookup y) sc.names&&(look st.loc (Str.ofString ".0")).isNone&&!(decide (x=Str.ofString ".0"))
noncomputable def nB(e:Expr):Bool:=Nat.beq (ep e).t 1
noncomputable def BR:EV->Bool
 | .val .none=>true
 | .val (.int _)=>true
 | .val (.bool _)=>true
 | _=>false
def fV.yZ(ev:Ev)(cx:Ctx)(op:BoolOp):List Expr->St->Option (EV×St)
 | [],_=>none
 | [e],st=>ev.e cx e st
 | e::r,st=>(ev.e cx e st).bind λ(a,st)=>(match a with
  | .val v=>(truth v).bind λb=>(match op,b with
   | .And,false=>some (.val v,st)
   | .Or,true=>some (.val v,st)
   | _,_=>fV.yZ ev cx op r st)
  | _=>none)
def fV.pD(ev:Ev)(cx:Ctx)(l:Expr)(op:CmpOp)(r:Expr)(st:St):Option (Bool×St):=
 if jJ r then none else (ev.e cx l st).bind λ(a,st)=>if blocks a r then none else (ev.e cx r st).bind λ(b,st)=>(gf st a).bind λx=>(gf st b).bind λy=>(qj op x y).map λc=>(c,st)
noncomputable def fV.sC(C:j0)(cx:Ctx)(lk:Bool)(a:Addr)(ls:List LV)(st:St):Option (EV×St):=
 (C {cx with ro:=cx.ro||lk} a ls st.aD).bind λ(v,st')=>match v with
  | .val _=>some (v,{st with aD:=st'.aD})
  | .fresh _=>some (v,{st with aD:=st'.aD})
  | _=>none
noncomputable def fV.SW(C:j0)(cx:Ctx)(a:Addr)(c:Cl)(ls:List LV)(st:St):Option (EV×St):=
 if cx.rb&&!cx.ro then
  let n:=st.aD.length;let st:={st with aD:=st.aD++[⟨some a,[]⟩]}
  match c.init with
  | none=>if ls.isEmpty then some (.val (.obj n),st) else none
  | some f=>(C cx f (.v (.obj n)::ls) st.aD).bind λ(v,st')=>match v with
   | .val .none=>some (.val (.obj n),{st with aD:=st'.aD})
   | _=>none
 else none
def fV.Ik(C:j0)(cx:Ctx)(a:Addr)(c:Cl)(ls:List LV)(st:St):Option (EV×St):=match c.init with
 | none=>none
 | some f=>(C cx f (.own (.inst a [])::ls) st.aD).bind λ(v,st')=>match v,look st'.loc (Str.ofString "self") with
  | .val .none,some (.own (.inst a fs))=>some (.fresh (.inst a fs),{st with aD:=st'.aD})
  | _,_=>none
def fV.uF(C:j0)(cx:Ctx)(a:Addr)(c:Cl)(ls:List LV)(st:St):Option (EV×St):=
 if c.uO then fV.SW C cx a c ls st else fV.Ik C cx a c ls st
def fV.y9(C:j0)(cx:Ctx)(o:EV)(mf:Option Addr)(m:Str)(bs:List EV)(simple:Bool)(st:St):Option (EV×St):=match mf with
 | some f=>(sA o).bind λsv=>(ki (nN st) bs).bind λls=>fV.sC C cx (bs.any gX) f (.v sv::ls) st
 | none=>if gX o&&!simple&&cx.rb then none else qQ cx st o m bs
noncomputable def za:UnaryOp->Bool
 | .Not=>true
 | _=>false
noncomputable def Il:UnaryOp->Bool
 | .USub=>true
 | _=>false
noncomputable def CV(e:Expr):Option Int:=match (ep e).v with
 | some (.int i)=>some i
 | _=>none
def Wg(ev:Ev)(cx:Ctx)(op:UnaryOp)(x:Expr)(st:St):Option (EV×St):=
 if za op then (ev.e cx x st).bind λ(a,st)=>(gf st a).bind λv=>(truth v).map λb=>(.val (.bool (!b)),st)
 else if Il op then (CV x).bind λi=>if small i then some (.val (.int (-i)),st) else none
 else none
def Ji(ev:Ev)(cx:Ctx)(l:Expr)(ops:List CmpOp)(rs:List Expr)(st:St):Option (EV×St):=match ops,rs with
 | [op],[r]=>fV.pD ev cx l op r st |>.map λ(b,st)=>(.val (.bool b),st)
 | _,_=>none
def Jj(ev:Ev)(cx:Ctx)(ks:List (Option Expr))(vs:List Expr)(st:St):Option (EV×St):=
 if ks.isEmpty&&vs.isEmpty then some (.fresh (.bO []),st) else
 if cx.rb&&!cx.ro&&ks.length<=15 then (strKeys ks).bind λks=>if decide ks.Nodup then (fC (ev.e cx) vs st).bind λ(as,st)=>(ki newSlot as).bind λss=>
   if ks.length=ss.length then some (.val (.obj st.aD.length),{st with aD:=st.aD++[⟨none,ks.zip ss⟩]}) else none else none else none
noncomputable def zb(e:Expr):Option Expr:=(ep e).q
def uQ(ev:Ev)(cx:Ctx)(o i:Expr)(st:St):Option (EV×St):=match zb i with
 | some i=>(ev.e cx o st).bind λ(a,st)=>if isSimple i then (ev.e cx i st).bind λ(b,st)=>(Cg st a b).map λv=>(v,st) else none
 | none=>if uc i then none else (ev.e cx o st).bind λ(a,st)=>if blocks a i then none else (ev.e cx i st).bind λ(b,st)=>(itemOf st a b).map λv=>(v,st)
noncomputable def nameOf:Expr->Option Str
 | .Name x _=>some x
 | _=>none
def CW:List Comprehension->Option (Str×Expr×List Expr)
 | [⟨t,iter,ifs,a⟩]=>if decide (a=0) then (nameOf t).map λx=>(x,iter,ifs) else none
 | _=>none
def Ci(ev:Ev)(cx:Ctx)(elt:Expr)(gs:List Comprehension)(sc:Scope)(st:St):Option (EV×St):=match CW gs with
 | some (x,iter,ifs)=>(ia ev cx iter st).bind λ(xs,cL,st)=>if !ur cx sc x iter st then none else
   (mQ ev (j4 sc cx cL) ifs elt x (st.loc.map eY) xs st.aD).bind λ(ys,σ)=>if xs.length<bE then some (.fresh (.lst ys),{st with aD:=σ}) else none
 | none=>none
def Hz(P:Prog)(C:j0)(ev:Ev)(cx:Ctx)(o:Expr)(m:Str)(apos:Pos)(as:List Expr)(pos:Pos)(st:St):Option (EV×St):=
 if n6 o&&as.all noStar&&as.length<29&&Nat.beq apos.endLine pos.line then (ev.e cx o st).bind λ(a,st)=>(rV P st a m).bind λmf=>(fC (ev.e cx) as st).bind λ(bs,st)=>
   if jI cx (as.all isSimple) bs then fV.y9 C cx a mf m bs (as.all isSimple) st else none else none
def wA(P:Prog)(C:j0)(cx:Ctx)(bs:List EV)(st:St)(a:Addr):Option (EV×St):=match P.fn a with
 | some _=>(ki (nN st) bs).bind λls=>fV.sC C cx (bs.any gX) a ls st
 | none=>(P.cls a).bind λc=>if bs.any gX then none else (ki (nN st) bs).bind λls=>fV.uF C cx a c ls st
def SX(P:Prog)(C:j0)(cx:Ctx)(bs:List EV)(st:St):MV->Option (EV×St)
 | .glob a=>wA P C cx bs st a
 | .blt nm=>(su nm st bs).map λv=>(v,st)
 | .typ nm=>(wz nm st bs).map λv=>(v,st)
 | _=>none
def HA(P:Prog)(C:j0)(ev:Ev)(cx:Ctx)(f:Str)(fp:Pos)(as:List Expr)(st:St):Option (EV×St):=
 if !as.all noStar then none else (ev.e cx (.Name f fp) st).bind λ(g,st)=>(fC (ev.e cx) as st).bind λ(bs,st)=>if jI cx (as.all isSimple) bs then (sA g).bind λv=>SX P C cx bs st v else none
def SY(P:Prog)(C:j0)(ev:Ev)(cx:Ctx)(f:Expr)(as:List Expr)(pos:Pos)(st:St):Option (EV×St):=match f with
 | .Attribute o m apos=>Hz P C ev cx o m apos as pos st
 | .Name f fp=>HA P C ev cx f fp as st
 | _=>none
def fV(P:Prog)(C:j0)(ev:Ev)(cx:Ctx)(e:Expr)(st:St):Option (EV×St):=match e with
 | .Constant c _ _=>(ofConst c).map λv=>(.val v,st)
 | .Name x _=>(getName P cx st x).map λa=>(a,st)
 | .UnaryOp op x _=>Wg ev cx op x st
 | .BoolOp op es _=>fV.yZ ev cx op es st
 | .IfExp t a b _=>(ev.t cx t st).bind λ(c,st)=>if c then ev.e cx a st else ev.e cx b st
 | .BinOp l op r _=>(ev.e cx l st).bind λ(a,st)=>if blocks a r then none else (ev.e cx r st).bind λ(b,st)=>(gf st a).bind λx=>(gf st b).bind λy=>(binop op x y).map λv=>(v,st)
 | .Compare l ops rs _=>Ji ev cx l ops rs st
 | .Tuple es _ _=>if es.all noStar&&es.length<=bE then (fC (ev.e cx) es st).bind λ(as,st)=>(qU as).map λvs=>(.val (.tup vs),st) else none
 | .List es _=>if es.all noStar&&es.length<=bE then (fC (ev.e cx) es st).bind λ(as,st)=>(qU as).map λvs=>(.fresh (.lst vs),st) else none
 | .Dict ks vs _=>Jj ev cx ks vs st
 | .Attribute o k _=>if n6 o then (ev.e cx o st).bind λ(a,st)=>(sd st a k).map λv=>(v,st) else none
 | .Subscript o i _=>uQ ev cx o i st
 | .ListComp elt gs sc _=>Ci ev cx elt gs sc st
 | .Call f as kw pos=>(match kw with
  | []=>SY P C ev cx f as pos st
  | _=>none)
 | _=>none
def CX(ev:Ev)(cx:Ctx)(e:Expr)(st:St):Option (Bool×St):=(ev.e cx e st).bind λ(a,st)=>(gf st a).bind λv=>(truth v).map λb=>(b,st)
def Jk(ev:Ev)(cx:Ctx)(l:Expr)(ops:List CmpOp)(rs:List Expr)(st:St):Option (Bool×St):=match ops,rs with
 | [op],[r]=>fV.pD ev cx l op r st
 | _,_=>none
def stepT(P:Prog)(C:j0)(ev:Ev)(cx:Ctx)(e:Expr)(st:St):Option (Bool×St):=match e with
 | .UnaryOp op x p=>if za op then (ev.t cx x st).map λ(b,st)=>(!b,st) else CX ev cx (.UnaryOp op x p) st
 | .BoolOp op es _=>(match op with
  | .And=>jM (ev.t cx) es st
  | .Or=>pC (ev.t cx) es st)
 | .IfExp ..=>none
 | .Compare l ops rs _=>Jk ev cx l ops rs st
 | e=>CX ev cx e st
def Uy(cx:Ctx)(y k:Str)(v:MV)(st:St):MV->Option St
 | .inst c fs=>if iV c k then iZ cx st (.var y) (.inst c (put fs k v)) else none
 | _=>none
def Uz(cx:Ctx)(k:Str)(a:EV)(st:St):EV->Option St
 | .val (.obj n)=>((st.aD[n]?).bind (·.cls)).bind λ_=>lO cx st n k a
 | .cont (.var y)=>(fZ st (.var y)).bind λx=>(jB a).bind λv=>Uy cx y k v st x
 | _=>none
def GN(ev:Ev)(cx:Ctx)(o:Expr)(k:Str)(a:EV)(st:St):Option St:=(ev.e cx o st).bind λ(b,st)=>Uz cx k a st b
def setC(cx:Ctx)(st:St)(l:Loc)(j v:MV)(c:MV):Option St:=match c with
 | .bO es=>if gE es j&&es.length<bE then iZ cx st l (.bO (iy es j v)) else none
 | .lst xs=>(match j with
  | .int i=>if decide (i=-1)&&!xs.isEmpty&&xs.length<bE then iZ cx st l (.lst (xs.set (xs.length-1) v)) else none
  | _=>none)
 | _=>none
def setAt(cx:Ctx)(a:EV)(st:St)(b j:EV):Option St:=match b,j with
  | .val (.obj n),.val (.str k)=>(match (st.aD[n]?).map (·.cls) with
   | some none=>lO cx st n k a
   | _=>none)
  | .cont l,.val j=>(fZ st l).bind λc=>(jB a).bind λv=>setC cx st l j v c
  | _,_=>none
def HB(ev:Ev)(cx:Ctx)(o i:Expr)(a:EV)(st:St):Option St:=(ev.e cx o st).bind λ(b,st)=>if isSimple i then (ev.e cx i st).bind λ(j,st)=>setAt cx a st b j else none
def rX(ev:Ev)(cx:Ctx)(t:Expr)(a:EV)(st:St):Option St:=match t with
 | .Name x _=>setName cx st x a
 | .Attribute o k _=>GN ev cx o k a st
 | .Subscript o i _=>HB ev cx o i a st
 | _=>none
def vQ(ev:Ev)(cx:Ctx):List Expr->List MV->St->Option St
 | [],[],st=>some st
 | .Name x p::ts,v::vs,st=>(rX ev cx (.Name x p) (.val v) st).bind λst=>vQ ev cx ts vs st
 | _,_,_=>none
noncomputable def namesOf:List Expr->Option (List Str)
 | []=>some []
 | .Name x _::r=>(namesOf r).map (x::·)
 | _=>none
noncomputable def vZ:Str×LV->Bool
 | (_,.bor _)=>true
 | _=>false
noncomputable def By(e:Expr):Bool:=Nat.beq (ep e).t 5
noncomputable def yO(e:Expr):Bool:=if Nat.beq (ep e).t 6 then (ep e).l.any By else true
def Jl(st:St)(a:EV):Option (Fl×St):=match a with
 | .val v=>some (.ret (.val v),st)
 | .fresh v=>some (.ret (.fresh v),st)
 | .cont (.var x)=>(fZ st (.var x)).bind λv=>if oU v then some (.ret (.val v),{st with loc:=uE st.loc x}) else none
 | _=>none
noncomputable def zc:Expr->Option (List Expr)
 | .Tuple ts _ _=>some ts
 | _=>none
def S6(ev:Ev)(cx:Ctx)(ts:List Expr)(e:Expr)(st:St):Option (Fl×St):=if !yO e||nB e then none else (ev.e cx e st).bind λ(a,st)=>(match a with
  | .val (.tup vs)=>(namesOf ts).bind λxs=>if decide xs.Nodup&&xs.length=vs.length then (vQ ev cx ts vs st).map λst=>(.bN,st) else none
  | _=>none)
def S7(ev:Ev)(cx:Ctx)(t e:Expr)(st:St):Option (Fl×St):=(ev.e cx e st).bind λ(a,st)=>(rX ev cx t a st).map λst=>(.bN,st)
def Im(ev:Ev)(cx:Ctx)(t e:Expr)(st:St):Option (List Expr)->Option (Fl×St)
 | some ts=>S6 ev cx ts e st
 | none=>S7 ev cx t e st
def Jm(ev:Ev)(cx:Ctx)(ts:List Expr)(e:Expr)(st:St):Option (Fl×St):=match ts with
 | [t]=>Im ev cx t e st (zc t)
 | _=>none
noncomputable def wR:EV->Option Int
 | .val (.int i)=>some i
 | _=>none
noncomputable def HC:Operator->Int->Int->Option Int
 | .Add,x,y=>some (x+y)
 | .Sub,x,y=>some (x-y)
 | _,_,_=>none
def Io(ev:Ev)(cx:Ctx)(o:Expr)(k:Str)(op:Operator)(e:Expr)(st:St):Option (Fl×St):=(ev.e cx o st).bind λ(b,st)=>(match b with
  | .val (.obj n)=>(sd st b k).bind λold=>(ev.e cx e st).bind λ(v,st)=>(wR old).bind λx=>(wR v).bind λy=>if isSimple e then (match (st.aD[n]?).map (·.cls) with
    | some (some _)=>(HC op x y).bind λz=>if small x&&small y then (lO cx st n k (.val (.int z))).map λst=>(.bN,st) else none
    | _=>none) else none
  | _=>none)
noncomputable def isAdd:Operator->Bool
 | .Add=>true
 | _=>false
def Ip(ev:Ev)(cx:Ctx)(o i:Expr)(op:Operator)(e:Expr)(st:St):Option (Fl×St):=(ev.e cx o st).bind λ(b,st)=>if isSimple i&&isSimple e then (ev.e cx i st).bind λ(j,st)=>(match b,j with
  | .val (.obj n),.val (.str k)=>(itemOf st b j).bind λold=>(ev.e cx e st).bind λ(v,st)=>(wR old).bind λx=>(wR v).bind λy=>if isAdd op then (match (st.aD[n]?).map (·.cls) with
    | some none=>if small x&&small y then (lO cx st n k (.val (.int (x+y)))).map λst=>(.bN,st) else none
    | _=>none) else none
  | _,_=>none) else none
def Iq(P:Prog)(cx:Ctx)(x:Str)(op:Operator)(e:Expr)(st:St):Option (Fl×St):=if isAdd op then (CV e).bind λy=>(match getName P cx st x with
  | some (.val (.int v))=>if small v&&small y then (setName cx st x (.val (.int (v+y)))).map λst=>(.bN,st) else none
  | _=>none) else none
def UA(P:Prog)(ev:Ev)(cx:Ctx)(t:Expr)(op:Operator)(e:Expr)(st:St):Option (Fl×St):=match t with
 | .Attribute o k _=>Io ev cx o k op e st
 | .Subscript o i _=>Ip ev cx o i op e st
 | .Name x _=>Iq P cx x op e st
 | _=>none
noncomputable abbrev nS(cx:Ctx)(b:Bool):Ctx:={cx with ro:=b}
def forL(ev:Ev)(cx:Ctx)(x:Str)(b:List Stmt):List MV->St->Option (Fl×St)
 | [],st=>some (.bN,st)
 | v::r,st=>((setName cx st x (.val v)).bind λst=>ev.ss cx b st).bind λ(fl,st)=>match fl with
  | .bN=>forL ev cx x b r st
  | fl=>some (fl,st)
def UB(ev:Ev)(cx:Ctx)(x:Str)(it:Expr)(a:List Stmt)(st:St):Option (Fl×St):=if jJ it then none else (ia ev cx it st).bind λ(xs,cL,st)=>
   if xs.length<bE then (forL ev (nS cx (cx.ro||cL)) x a xs st).bind λ(fl,st)=>if cL&&st.loc.any vZ then none else some (fl,st) else none
noncomputable def UC(ev:Ev)(cx:Ctx)(a f:List Stmt)(st:St):Option (Fl×St):=(ev.ss cx a st).bind λ(fl,st)=>(ev.ss cx f st).bind λ(nT,st)=>(match nT with
  | .bN=>some (fl,st)
  | _=>none)
def Ir(P:Prog)(C:j0)(ev:Ev)(cx:Ctx)(s:Stmt)(st:St):Option (Fl×St):=match s with
 | .Return v _=>(match v with
  | some e=>(ev.e cx e st).bind λ(a,st)=>Jl st a
  | none=>some (.ret (.val .none),st))
 | .Pass _=>some (.bN,st)
 | .Expr e _=>if nB e then none else (ev.e cx e st).bind λ(a,st)=>if BR a then some (.bN,st) else none
 | .Assign ts e _=>Jm ev cx ts e st
 | .AugAssign t op e _=>UA P ev cx t op e st
 | .If t a b _=>(ev.t cx t st).bind λ(c,st)=>if c then ev.ss cx a st else ev.ss cx b st
 | .While t a rD _=>if rD.isEmpty then r9 (ev.t cx t) (ev.ss cx a) 4096 st else none
 | .For t it a rD _=>if rD.isEmpty then (nameOf t).bind λx=>UB ev cx x it a st else none
 | .Try a hs rD f _=>if hs.isEmpty&&rD.isEmpty&&!f.isEmpty then UC ev cx a f st else none
 | _=>none
noncomputable def j8(ev:Ev)(cx:Ctx):List Stmt->St->Option (Fl×St)
 | [],st=>some (.bN,st)
 | s::r,st=>(ev.s cx s st).bind λ(fl,st)=>match fl with
  | .bN=>j8 ev cx r st
  | fl=>some (fl,st)
def run(P:Prog)(C:j0):Nat->Ev
 | 0=>⟨λZ Z Z=>none,λZ Z Z=>none,λZ Z Z=>none,λZ Z Z=>none⟩
 | d+1=>⟨fV P C (run P C d),stepT P C (run P C d),Ir P C (run P C d),j8 (run P C d)⟩
noncomputable def nP:Nat:=16
noncomputable abbrev rQ:=Addr->Bool
def jq(P:Prog)(R:rQ):Nat->j0
 | 0=>λZ Z Z Z=>none
 | n+1=>λcx a as σ=>(P.fn a).bind λf=>if !R a||cx.rb then (Bind f as).bind λloc=>
   ((run P (jq P R n) nP).ss ⟨f.scope,cx.ro,R a,false⟩ f.body ⟨loc,σ⟩).bind λ(fl,st)=>(match fl with
    | .bN=>some (.val .none,st)
    | .ret v=>some (v,st)) else none
theorem Fx(k v x y:MV)(r:List (MV×MV)):iy ((k,v)::r) x y=if MV.beq k x then (k,y)::r else (k,v)::iy r x y:=rfl
theorem Fy(k v x:MV)(r:List (MV×MV)):eK ((k,v)::r) x=if MV.beq k x then some v else eK r x:=rfl
theorem aM{α:Type _}{a:α}{G:Prop}(e:none=some a):G:=nomatch e
theorem b7{G:Prop}(e:false=true):G:=nomatch e
@[elab_as_elim] theorem pairQ {α β:Type _}{a c:α}{b d:β}{M:α->β->Prop}(e:some (a,b)=some (c,d))(k:M a b):M c d:=by cases e;exact k
@[elab_as_elim] theorem prQ {α β:Type _}{a c:α}{b d:β}{M:α->β->Prop}(e:(a,b)=(c,d))(k:M a b):M c d:=by cases e;exact k
@[elab_as_elim] theorem someQ {α:Type _}{a b:α}{M:α->Prop}(e:some a=some b)(k:M a):M b:=by cases e;exact k
theorem pairK{α β:Type _}{a c:α}{b d:β}{G:Prop}(e:some (a,b)=some (c,d))(k:c=a->d=b->G):G:=by cases e;exact k rfl rfl
theorem prK{α β:Type _}{a c:α}{b d:β}{G:Prop}(e:(a,b)=(c,d))(k:c=a->d=b->G):G:=by cases e;exact k rfl rfl
theorem someE{α:Type _}{a b:α}(e:some a=some b):b=a:=(aY e).symm
theorem someK{α:Type _}{a b:α}{G:Prop}(e:some a=some b)(k:b=a->G):G:=by cases e;exact k rfl
variable {α β γ δ:Type} {Gq:Prop} {b:β}
theorem cN{o:Option α}{f:α->Option β}(k:∀a,o=some a->f a=some b->Gq)(e:o.bind f=some b):Gq:=by
 cases o with
 | none=>cases e
 | some a=>exact k a rfl e
theorem eG{o:Option (α×γ)}{f:α×γ->Option β}(k:∀a c,o=some (a,c)->f (a,c)=some b->Gq)(e:o.bind f=some b):Gq:=cN (λa=>k a.1 a.2) e
theorem HD{o:Option (α×γ×δ)}{f:α×γ×δ->Option β}(k:∀a c d,o=some (a,c,d)->f (a,c,d)=some b->Gq)(e:o.bind f=some b):Gq:=cN (λa=>k a.1 a.2.1 a.2.2) e
theorem eZ{o:Option α}{f:α->β}(k:∀a,o=some a->f a=b->Gq)(e:o.map f=some b):Gq:=by
 cases o with
 | none=>cases e
 | some a=>exact k a rfl (aY e)
theorem Iu{o:Option (α×γ)}{f:α×γ->β}(k:∀a c,o=some (a,c)->f (a,c)=b->Gq)(e:o.map f=some b):Gq:=eZ (λa=>k a.1 a.2) e
theorem dG{c:Prop}[Decidable c]{o:Option β}(k:c->o=some b->Gq)(e:(if c then o else none)=some b):Gq:=by
 by_cases h:c
 ·rw[aq h]at e;exact k h e
 ·rw[au h]at e;exact aM e
theorem mD{c:Prop}[Decidable c]{o q:Option β}(k:c->o=some b->Gq)(k':¬c->q=some b->Gq)(e:(if c then o else q)=some b):Gq:=by
 by_cases h:c
 ·rw[aq h]at e;exact k h e
 ·rw[au h]at e;exact k' h e
theorem jv{c:Prop}[Decidable c]{o:Option β}(k:¬c->o=some b->Gq)(e:(if c then none else o)=some b):Gq:=by
 by_cases h:c
 ·rw[aq h]at e;exact aM e
 ·rw[au h]at e;exact k h e
universe u1 u2 u3 u4 u5
theorem eS{a b:Prop}(k:a->Gq)(l:b->Gq)(h:a\/b):Gq:=h.elim k l
theorem cu{a0 a1:Prop}(h:a0/\a1)(k:a0->a1->Gq):Gq:=k h.1 h.2
theorem gj{a0 a1:Prop}(k:a0->a1->Gq)(h:a0/\a1):Gq:=cu h k
theorem eg{a0 a1 a2:Prop}(h:a0/\a1/\a2)(k:a0->a1->a2->Gq):Gq:=k h.1 h.2.1 h.2.2
theorem mu{a0 a1 a2:Prop}(k:a0->a1->a2->Gq)(h:a0/\a1/\a2):Gq:=eg h k
theorem wU{a0 a1 a2 a3:Prop}(h:a0/\a1/\a2/\a3)(k:a0->a1->a2->a3->Gq):Gq:=k h.1 h.2.1 h.2.2.1 h.2.2.2
theorem UD{a0 a1 a2 a3:Prop}(k:a0->a1->a2->a3->Gq)(h:a0/\a1/\a2/\a3):Gq:=wU h k
theorem q9{a0 a1 a2 a3 a4:Prop}(h:a0/\a1/\a2/\a3/\a4)(k:a0->a1->a2->a3->a4->Gq):Gq:=k h.1 h.2.1 h.2.2.1 h.2.2.2.1 h.2.2.2.2
theorem YN{a0 a1 a2 a3 a4:Prop}(k:a0->a1->a2->a3->a4->Gq)(h:a0/\a1/\a2/\a3/\a4):Gq:=q9 h k
theorem wV{a0 a1 a2 a3 a4 a5:Prop}(h:a0/\a1/\a2/\a3/\a4/\a5)(k:a0->a1->a2->a3->a4->a5->Gq):Gq:=k h.1 h.2.1 h.2.2.1 h.2.2.2.1 h.2.2.2.2.1 h.2.2.2.2.2
theorem UE{a0 a1 a2 a3 a4 a5:Prop}(k:a0->a1->a2->a3->a4->a5->Gq)(h:a0/\a1/\a2/\a3/\a4/\a5):Gq:=wV h k
theorem uR{a0 a1 a2 a3 a4 a5 a6:Prop}(h:a0/\a1/\a2/\a3/\a4/\a5/\a6)(k:a0->a1->a2->a3->a4->a5->a6->Gq):Gq:=k h.1 h.2.1 h.2.2.1 h.2.2.2.1 h.2.2.2.2.1 h.2.2.2.2.2.1 h.2.2.2.2.2.2
theorem YO{a0 a1 a2 a3 a4 a5 a6:Prop}(k:a0->a1->a2->a3->a4->a5->a6->Gq)(h:a0/\a1/\a2/\a3/\a4/\a5/\a6):Gq:=uR h k
theorem UG{a0 a1 a2 a3 a4 a5 a6 a7:Prop}(h:a0/\a1/\a2/\a3/\a4/\a5/\a6/\a7)(k:a0->a1->a2->a3->a4->a5->a6->a7->Gq):Gq:=k h.1 h.2.1 h.2.2.1 h.2.2.2.1 h.2.2.2.2.1 h.2.2.2.2.2.1 h.2.2.2.2.2.2.1 h.2.2.2.2.2.2.2
theorem YQ{a0 a1 a2 a3 a4 a5 a6 a7:Prop}(k:a0->a1->a2->a3->a4->a5->a6->a7->Gq)(h:a0/\a1/\a2/\a3/\a4/\a5/\a6/\a7):Gq:=UG h k
theorem UH{a0 a1 a2 a3 a4 a5 a6 a7 a8:Prop}(h:a0/\a1/\a2/\a3/\a4/\a5/\a6/\a7/\a8)(k:a0->a1->a2->a3->a4->a5->a6->a7->a8->Gq):Gq:=k h.1 h.2.1 h.2.2.1 h.2.2.2.1 h.2.2.2.2.1 h.2.2.2.2.2.1 h.2.2.2.2.2.2.1 h.2.2.2.2.2.2.2.1 h.2.2.2.2.2.2.2.2
theorem Jo{a0 a1 a2 a3 a4 a5 a6 a7 a8:Prop}(k:a0->a1->a2->a3->a4->a5->a6->a7->a8->Gq)(h:a0/\a1/\a2/\a3/\a4/\a5/\a6/\a7/\a8):Gq:=UH h k
theorem cg{dh:Sort u1}{p:dh->Prop}(h:∃a0,p a0)(k:∀a0,p a0->Gq):Gq:=h.elim k
theorem gh{dh:Sort u1}{p:dh->Prop}(k:∀a0,p a0->Gq)(h:∃a0,p a0):Gq:=cg h k
theorem iU{dh:Sort u1}{fu:Sort u2}{p:dh->fu->Prop}(h:∃a0 a1,p a0 a1)(k:∀a0 a1,p a0 a1->Gq):Gq:=h.elim λa0 q=>cg q (k a0)
theorem UJ{dh:Sort u1}{fu:Sort u2}{p:dh->fu->Prop}(k:∀a0 a1,p a0 a1->Gq)(h:∃a0 a1,p a0 a1):Gq:=iU h k
theorem jN{dh:Sort u1}{fu:Sort u2}{gv:Sort u3}{p:dh->fu->gv->Prop}(h:∃a0 a1 a2,p a0 a1 a2)(k:∀a0 a1 a2,p a0 a1 a2->Gq):Gq:=h.elim λa0 q=>iU q (k a0)
theorem YR{dh:Sort u1}{fu:Sort u2}{gv:Sort u3}{p:dh->fu->gv->Prop}(k:∀a0 a1 a2,p a0 a1 a2->Gq)(h:∃a0 a1 a2,p a0 a1 a2):Gq:=jN h k
theorem uS{dh:Sort u1}{fu:Sort u2}{gv:Sort u3}{l0:Sort u4}{p:dh->fu->gv->l0->Prop}(h:∃a0 a1 a2 a3,p a0 a1 a2 a3)(k:∀a0 a1 a2 a3,p a0 a1 a2 a3->Gq):Gq:=h.elim λa0 q=>jN q (k a0)
theorem UK{dh:Sort u1}{fu:Sort u2}{gv:Sort u3}{l0:Sort u4}{p:dh->fu->gv->l0->Prop}(k:∀a0 a1 a2 a3,p a0 a1 a2 a3->Gq)(h:∃a0 a1 a2 a3,p a0 a1 a2 a3):Gq:=uS h k
theorem Jp{dh fu gv:Type}{p0 p1 p2 p3 p4 p5 p6:dh->fu->gv->Prop}(k:∀a0 a1 a2,p0 a0 a1 a2->p1 a0 a1 a2->p2 a0 a1 a2->p3 a0 a1 a2->p4 a0 a1 a2->p5 a0 a1 a2->p6 a0 a1 a2->Gq)(h:∃a0 a1 a2,p0 a0 a1 a2/\p1 a0 a1 a2/\p2 a0 a1 a2/\p3 a0 a1 a2/\p4 a0 a1 a2/\p5 a0 a1 a2/\p6 a0 a1 a2):Gq:=jN h λa0 a1 a2 q=>uR q (k a0 a1 a2)
theorem qp{dh fu:Type}{p0 p1 p2 p3 p4:dh->fu->Prop}(h:∃a0 a1,p0 a0 a1/\p1 a0 a1/\p2 a0 a1/\p3 a0 a1/\p4 a0 a1)(k:∀a0 a1,p0 a0 a1->p1 a0 a1->p2 a0 a1->p3 a0 a1->p4 a0 a1->Gq):Gq:=iU h λa0 a1 q=>q9 q (k a0 a1)
theorem qt{dh fu:Type}{p0 p1 p2 p3 p4 p5:dh->fu->Prop}(h:∃a0 a1,p0 a0 a1/\p1 a0 a1/\p2 a0 a1/\p3 a0 a1/\p4 a0 a1/\p5 a0 a1)(k:∀a0 a1,p0 a0 a1->p1 a0 a1->p2 a0 a1->p3 a0 a1->p4 a0 a1->p5 a0 a1->Gq):Gq:=iU h λa0 a1 q=>wV q (k a0 a1)
theorem UL{dh fu gv:Type}{p0 p1 p2 p3 p4 p5:dh->fu->gv->Prop}(h:∃a0 a1 a2,p0 a0 a1 a2/\p1 a0 a1 a2/\p2 a0 a1 a2/\p3 a0 a1 a2/\p4 a0 a1 a2/\p5 a0 a1 a2)(k:∀a0 a1 a2,p0 a0 a1 a2->p1 a0 a1 a2->p2 a0 a1 a2->p3 a0 a1 a2->p4 a0 a1 a2->p5 a0 a1 a2->Gq):Gq:=jN h λa0 a1 a2 q=>wV q (k a0 a1 a2)
theorem gp{dh:Type}{p0 p1:dh->Prop}(k:∀a0,p0 a0->p1 a0->Gq)(h:∃a0,p0 a0/\p1 a0):Gq:=cg h λa0 q=>cu q (k a0)
theorem gz{dh:Type}{p0 p1 p2:dh->Prop}(k:∀a0,p0 a0->p1 a0->p2 a0->Gq)(h:∃a0,p0 a0/\p1 a0/\p2 a0):Gq:=cg h λa0 q=>eg q (k a0)
theorem ow{dh:Type}{p0 p1 p2 p3:dh->Prop}(k:∀a0,p0 a0->p1 a0->p2 a0->p3 a0->Gq)(h:∃a0,p0 a0/\p1 a0/\p2 a0/\p3 a0):Gq:=cg h λa0 q=>wU q (k a0)
theorem UM{dh:Type}{p0 p1 p2 p3 p4:dh->Prop}(k:∀a0,p0 a0->p1 a0->p2 a0->p3 a0->p4 a0->Gq)(h:∃a0,p0 a0/\p1 a0/\p2 a0/\p3 a0/\p4 a0):Gq:=cg h λa0 q=>q9 q (k a0)
theorem UN{dh:Type}{p0 p1 p2 p3 p4 p5 p6:dh->Prop}(k:∀a0,p0 a0->p1 a0->p2 a0->p3 a0->p4 a0->p5 a0->p6 a0->Gq)(h:∃a0,p0 a0/\p1 a0/\p2 a0/\p3 a0/\p4 a0/\p5 a0/\p6 a0):Gq:=cg h λa0 q=>uR q (k a0)
theorem sQ{dh fu:Type}{p0 p1:dh->fu->Prop}(k:∀a0 a1,p0 a0 a1->p1 a0 a1->Gq)(h:∃a0 a1,p0 a0 a1/\p1 a0 a1):Gq:=iU h λa0 a1 q=>cu q (k a0 a1)
theorem Jq{dh fu:Type}{p0 p1 p2:dh->fu->Prop}(k:∀a0 a1,p0 a0 a1->p1 a0 a1->p2 a0 a1->Gq)(h:∃a0 a1,p0 a0 a1/\p1 a0 a1/\p2 a0 a1):Gq:=iU h λa0 a1 q=>eg q (k a0 a1)
theorem UO{dh fu gv:Type}{p0 p1:dh->fu->gv->Prop}(k:∀a0 a1 a2,p0 a0 a1 a2->p1 a0 a1 a2->Gq)(h:∃a0 a1 a2,p0 a0 a1 a2/\p1 a0 a1 a2):Gq:=jN h λa0 a1 a2 q=>cu q (k a0 a1 a2)
theorem zB{dh fu gv:Type}{p0 p1 p2:dh->fu->gv->Prop}(k:∀a0 a1 a2,p0 a0 a1 a2->p1 a0 a1 a2->p2 a0 a1 a2->Gq)(h:∃a0 a1 a2,p0 a0 a1 a2/\p1 a0 a1 a2/\p2 a0 a1 a2):Gq:=jN h λa0 a1 a2 q=>eg q (k a0 a1 a2)
theorem UP{dh fu gv:Type}{p0 p1 p2 p3:dh->fu->gv->Prop}(k:∀a0 a1 a2,p0 a0 a1 a2->p1 a0 a1 a2->p2 a0 a1 a2->p3 a0 a1 a2->Gq)(h:∃a0 a1 a2,p0 a0 a1 a2/\p1 a0 a1 a2/\p2 a0 a1 a2/\p3 a0 a1 a2):Gq:=jN h λa0 a1 a2 q=>wU q (k a0 a1 a2)
theorem zC{dh fu gv:Type}{p0 p1 p2 p3 p4:dh->fu->gv->Prop}(k:∀a0 a1 a2,p0 a0 a1 a2->p1 a0 a1 a2->p2 a0 a1 a2->p3 a0 a1 a2->p4 a0 a1 a2->Gq)(h:∃a0 a1 a2,p0 a0 a1 a2/\p1 a0 a1 a2/\p2 a0 a1 a2/\p3 a0 a1 a2/\p4 a0 a1 a2):Gq:=jN h λa0 a1 a2 q=>q9 q (k a0 a1 a2)
theorem uT{dh fu gv:Type}{p0 p1 p2 p3 p4 p5:dh->fu->gv->Prop}(k:∀a0 a1 a2,p0 a0 a1 a2->p1 a0 a1 a2->p2 a0 a1 a2->p3 a0 a1 a2->p4 a0 a1 a2->p5 a0 a1 a2->Gq)(h:∃a0 a1 a2,p0 a0 a1 a2/\p1 a0 a1 a2/\p2 a0 a1 a2/\p3 a0 a1 a2/\p4 a0 a1 a2/\p5 a0 a1 a2):Gq:=jN h λa0 a1 a2 q=>wV q (k a0 a1 a2)
theorem Jr{dh fu gv l0:Type}{p0 p1 p2 p3 p4 p5 p6:dh->fu->gv->l0->Prop}(k:∀a0 a1 a2 a3,p0 a0 a1 a2 a3->p1 a0 a1 a2 a3->p2 a0 a1 a2 a3->p3 a0 a1 a2 a3->p4 a0 a1 a2 a3->p5 a0 a1 a2 a3->p6 a0 a1 a2 a3->Gq)(h:∃a0 a1 a2 a3,p0 a0 a1 a2 a3/\p1 a0 a1 a2 a3/\p2 a0 a1 a2 a3/\p3 a0 a1 a2 a3/\p4 a0 a1 a2 a3/\p5 a0 a1 a2 a3/\p6 a0 a1 a2 a3):Gq:=uS h λa0 a1 a2 a3 q=>uR q (k a0 a1 a2 a3)
theorem bz{dh:Type}{p0 p1:dh->Prop}(h:∃a0,p0 a0/\p1 a0)(k:∀a0,p0 a0->p1 a0->Gq):Gq:=cg h λa0 q=>cu q (k a0)
theorem ja{dh:Type}{p0 p1 p2:dh->Prop}(h:∃a0,p0 a0/\p1 a0/\p2 a0)(k:∀a0,p0 a0->p1 a0->p2 a0->Gq):Gq:=cg h λa0 q=>eg q (k a0)
theorem ji{dh:Type}{p0 p1 p2 p3:dh->Prop}(h:∃a0,p0 a0/\p1 a0/\p2 a0/\p3 a0)(k:∀a0,p0 a0->p1 a0->p2 a0->p3 a0->Gq):Gq:=cg h λa0 q=>wU q (k a0)
theorem qu{dh:Type}{p0 p1 p2 p3 p4:dh->Prop}(h:∃a0,p0 a0/\p1 a0/\p2 a0/\p3 a0/\p4 a0)(k:∀a0,p0 a0->p1 a0->p2 a0->p3 a0->p4 a0->Gq):Gq:=cg h λa0 q=>q9 q (k a0)
theorem Js{dh:Type}{p0 p1 p2 p3 p4 p5:dh->Prop}(h:∃a0,p0 a0/\p1 a0/\p2 a0/\p3 a0/\p4 a0/\p5 a0)(k:∀a0,p0 a0->p1 a0->p2 a0->p3 a0->p4 a0->p5 a0->Gq):Gq:=cg h λa0 q=>wV q (k a0)
theorem UQ{dh:Type}{p0 p1 p2 p3 p4 p5 p6:dh->Prop}(h:∃a0,p0 a0/\p1 a0/\p2 a0/\p3 a0/\p4 a0/\p5 a0/\p6 a0)(k:∀a0,p0 a0->p1 a0->p2 a0->p3 a0->p4 a0->p5 a0->p6 a0->Gq):Gq:=cg h λa0 q=>uR q (k a0)
theorem kj{dh fu:Type}{p0 p1:dh->fu->Prop}(h:∃a0 a1,p0 a0 a1/\p1 a0 a1)(k:∀a0 a1,p0 a0 a1->p1 a0 a1->Gq):Gq:=iU h λa0 a1 q=>cu q (k a0 a1)
theorem rj{dh fu:Type}{p0 p1 p2:dh->fu->Prop}(h:∃a0 a1,p0 a0 a1/\p1 a0 a1/\p2 a0 a1)(k:∀a0 a1,p0 a0 a1->p1 a0 a1->p2 a0 a1->Gq):Gq:=iU h λa0 a1 q=>eg q (k a0 a1)
theorem uU{dh fu:Type}{p0 p1 p2 p3:dh->fu->Prop}(h:∃a0 a1,p0 a0 a1/\p1 a0 a1/\p2 a0 a1/\p3 a0 a1)(k:∀a0 a1,p0 a0 a1->p1 a0 a1->p2 a0 a1->p3 a0 a1->Gq):Gq:=iU h λa0 a1 q=>wU q (k a0 a1)
theorem UR{dh fu gv:Type}{p0 p1:dh->fu->gv->Prop}(h:∃a0 a1 a2,p0 a0 a1 a2/\p1 a0 a1 a2)(k:∀a0 a1 a2,p0 a0 a1 a2->p1 a0 a1 a2->Gq):Gq:=jN h λa0 a1 a2 q=>cu q (k a0 a1 a2)
theorem CY{dh fu gv:Type}{p0 p1 p2:dh->fu->gv->Prop}(h:∃a0 a1 a2,p0 a0 a1 a2/\p1 a0 a1 a2/\p2 a0 a1 a2)(k:∀a0 a1 a2,p0 a0 a1 a2->p1 a0 a1 a2->p2 a0 a1 a2->Gq):Gq:=jN h λa0 a1 a2 q=>eg q (k a0 a1 a2)
theorem qv{dh fu gv:Type}{p0 p1 p2 p3 p4:dh->fu->gv->Prop}(h:∃a0 a1 a2,p0 a0 a1 a2/\p1 a0 a1 a2/\p2 a0 a1 a2/\p3 a0 a1 a2/\p4 a0 a1 a2)(k:∀a0 a1 a2,p0 a0 a1 a2->p1 a0 a1 a2->p2 a0 a1 a2->p3 a0 a1 a2->p4 a0 a1 a2->Gq):Gq:=jN h λa0 a1 a2 q=>q9 q (k a0 a1 a2)
theorem US{dh fu gv l0:Type}{p0 p1 p2:dh->fu->gv->l0->Prop}(h:∃a0 a1 a2 a3,p0 a0 a1 a2 a3/\p1 a0 a1 a2 a3/\p2 a0 a1 a2 a3)(k:∀a0 a1 a2 a3,p0 a0 a1 a2 a3->p1 a0 a1 a2 a3->p2 a0 a1 a2 a3->Gq):Gq:=uS h λa0 a1 a2 a3 q=>eg q (k a0 a1 a2 a3)
theorem UT{dh fu gv l0:Type}{p0 p1 p2 p3 p4 p5 p6:dh->fu->gv->l0->Prop}(h:∃a0 a1 a2 a3,p0 a0 a1 a2 a3/\p1 a0 a1 a2 a3/\p2 a0 a1 a2 a3/\p3 a0 a1 a2 a3/\p4 a0 a1 a2 a3/\p5 a0 a1 a2 a3/\p6 a0 a1 a2 a3)(k:∀a0 a1 a2 a3,p0 a0 a1 a2 a3->p1 a0 a1 a2 a3->p2 a0 a1 a2 a3->p3 a0 a1 a2 a3->p4 a0 a1 a2 a3->p5 a0 a1 a2 a3->p6 a0 a1 a2 a3->Gq):Gq:=uS h λa0 a1 a2 a3 q=>uR q (k a0 a1 a2 a3)
theorem CZ{dh:Sort u1}{fu:Sort u2}{gv:Sort u3}{l0:Sort u4}{xy:Sort u5}{p:dh->fu->gv->l0->xy->Prop}(h:∃a0 a1 a2 a3 a4,p a0 a1 a2 a3 a4)(k:∀a0 a1 a2 a3 a4,p a0 a1 a2 a3 a4->Gq):Gq:=h.elim λa0 q=>uS q (k a0)
theorem UU{dh:Sort u1}{fu:Sort u2}{gv:Sort u3}{l0:Sort u4}{xy:Sort u5}{p:dh->fu->gv->l0->xy->Prop}(k:∀a0 a1 a2 a3 a4,p a0 a1 a2 a3 a4->Gq)(h:∃a0 a1 a2 a3 a4,p a0 a1 a2 a3 a4):Gq:=CZ h k
theorem UW{dh fu gv l0 xy:Type}{p0 p1:dh->fu->gv->l0->xy->Prop}(k:∀a0 a1 a2 a3 a4,p0 a0 a1 a2 a3 a4->p1 a0 a1 a2 a3 a4->Gq)(h:∃a0 a1 a2 a3 a4,p0 a0 a1 a2 a3 a4/\p1 a0 a1 a2 a3 a4):Gq:=CZ h λa0 a1 a2 a3 a4 q=>cu q (k a0 a1 a2 a3 a4)
noncomputable def defAt(i:Nat)(ds:List MV):Fn:=match PySem.Challenge.pw_sa0416_01.main.body[i]? with
 | some (.FunctionDef _ a b _ _ _ sc _ _ _)=>⟨a.args.map (·.arg),ds,b,sc⟩
 | _=>⟨[],[],[],default⟩
noncomputable def cX(i j:Nat)(ds:List MV):Fn:=match PySem.Challenge.pw_sa0416_01.main.body[i]? with
 | some (.ClassDef _ _ _ cb _ _ _ _ _ _ _)=>(match cb[j]? with
  | some (.FunctionDef _ a b _ _ _ sc _ _ _)=>⟨a.args.map (·.arg),ds,b,sc⟩
  | _=>⟨[],[],[],default⟩)
 | _=>⟨[],[],[],default⟩
noncomputable def g(s:String)(v:MV):Str×MV:=(Str.ofString s,v)
noncomputable def m(s:String)(v:Nat):Str×Nat:=(Str.ofString s,v)
def wB:List (Nat×Fn):=[
 (21,defAt 0 []),
 (41,cX 14 0 []),
 (55,defAt 15 []),
 (62,defAt 16 []),
 (77,cX 20 0 [.str ""]),
 (98,cX 21 0 [.int (2589),.str ""]),
 (118,cX 22 0 [.str ""]),
 (137,cX 23 0 []),
 (144,cX 23 1 []),
 (166,cX 24 0 [.str ""]),
 (173,cX 24 1 []),
 (178,cX 24 2 []),
 (199,cX 25 0 []),
 (206,cX 25 1 []),
 (213,cX 25 2 []),
 (220,cX 25 3 []),
 (268,cX 78 0 []),
 (275,cX 78 1 []),
 (282,cX 78 2 []),
 (296,defAt 79 []),
 (304,defAt 80 [.int (0)]),
 (309,defAt 81 []),
 (321,defAt 82 [.tup [],.tup [],.tup [],.tup [],.int (0)]),
 (329,defAt 83 [.int (-1),.int (-1)]),
 (336,defAt 84 []),
 (343,defAt 85 []),
 (350,defAt 86 []),
 (357,defAt 87 []),
 (364,defAt 88 []),
 (371,defAt 89 []),
 (376,defAt 90 []),
 (383,defAt 91 []),
 (390,defAt 92 []),
 (397,defAt 93 []),
 (404,defAt 94 []),
 (411,defAt 95 []),
 (416,defAt 96 []),
 (423,defAt 97 []),
 (430,defAt 98 []),
 (437,defAt 99 []),
 (442,defAt 106 []),
 (449,defAt 107 []),
 (456,defAt 108 []),
 (461,defAt 109 []),
 (468,defAt 110 []),
 (475,defAt 111 []),
 (482,defAt 112 []),
 (487,defAt 113 []),
 (494,defAt 114 []),
 (501,defAt 115 []),
 (508,defAt 116 []),
 (515,defAt 117 []),
 (522,defAt 118 []),
 (529,defAt 119 []),
 (534,defAt 120 []),
 (541,defAt 121 []),
 (548,defAt 122 []),
 (556,defAt 123 [.int (0)]),
 (563,defAt 124 []),
 (568,defAt 125 []),
 (575,defAt 126 []),
 (580,defAt 127 []),
 (588,defAt 131 []),
 (595,defAt 132 []),
 (600,defAt 133 []),
 (607,defAt 134 []),
 (612,defAt 135 []),
 (617,defAt 136 []),
 (631,cX 140 0 []),
 (638,cX 140 1 []),
 (645,cX 140 2 []),
 (652,cX 140 3 []),
 (659,cX 140 4 []),
 (666,cX 140 5 []),
 (673,cX 140 6 []),
 (680,cX 140 7 []),
 (687,cX 140 8 []),
 (694,cX 140 9 []),
 (701,cX 140 10 []),
 (708,cX 140 11 []),
 (715,cX 140 12 []),
 (722,cX 140 13 []),
 (729,cX 140 14 []),
 (736,cX 140 15 []),
 (743,cX 140 16 []),
 (750,cX 140 17 []),
 (757,cX 140 18 []),
 (771,defAt 141 []),
 (785,cX 143 0 []),
 (792,cX 143 1 []),
 (811,cX 146 0 []),
 (832,cX 147 0 []),
 (839,cX 147 1 []),
 (846,cX 147 2 []),
 (867,cX 148 0 []),
 (874,cX 148 1 []),
 (895,cX 149 0 []),
 (902,cX 149 1 []),
 (909,cX 149 2 []),
 (916,cX 149 3 []),
 (923,cX 149 4 []),
 (930,cX 149 5 []),
 (937,cX 149 6 []),
 (944,cX 149 7 []),
 (951,cX 149 8 []),
 (958,cX 149 9 []),
 (979,cX 150 0 []),
 (986,cX 150 1 []),
 (993,cX 150 2 []),
 (1014,cX 151 0 []),
 (1035,cX 152 0 []),
 (1042,cX 152 1 []),
 (1063,cX 153 0 []),
 (1084,cX 154 0 []),
 (1091,cX 154 1 []),
 (1098,cX 154 2 []),
 (1105,cX 154 3 []),
 (1112,cX 154 4 []),
 (1119,cX 154 5 []),
 (1126,cX 154 6 []),
 (1133,cX 154 7 []),
 (1140,cX 154 8 []),
 (1147,cX 154 9 []),
 (1154,cX 154 10 []),
 (1161,cX 154 11 []),
 (1168,cX 154 12 []),
 (1175,cX 154 13 []),
 (1182,cX 154 14 []),
 (1189,cX 154 15 []),
 (1196,cX 154 16 []),
 (1203,cX 154 17 []),
 (1210,cX 154 18 []),
 (1217,cX 154 19 []),
 (1224,cX 154 20 []),
 (1231,cX 154 21 []),
 (1238,cX 154 22 []),
 (1245,cX 154 23 []),
 (1259,defAt 155 []),
 (1264,defAt 156 []),
 (1269,defAt 157 []),
 (1276,defAt 158 []),
 (1283,defAt 159 []),
 (1297,cX 161 0 []),
 (1332,defAt 164 []),
 (1339,defAt 165 []),
 (1346,defAt 166 []),
 (1351,defAt 167 []),
 (1356,defAt 168 []),
 (1361,defAt 169 []),
 (1366,defAt 170 []),
 (1373,defAt 171 []),
 (1380,defAt 172 []),
 (1387,defAt 173 []),
 (1392,defAt 174 []),
 (1399,defAt 175 []),
 (1406,defAt 176 []),
 (1413,defAt 177 []),
 (1418,defAt 178 []),
 (1423,defAt 179 [])]
def HE:List (Nat×Cl):=[
 (44,⟨(some 41),[],false⟩),
 (147,⟨(some 137),[m "row" 144],false⟩),
 (181,⟨(some 166),[m "put" 173,m "numbers" 178],true⟩),
 (223,⟨(some 199),[m "put" 206,m "codes" 213,m "clean" 220],true⟩),
 (285,⟨(some 268),[m "row" 275,m "put" 282],true⟩),
 (760,⟨(some 631),[m "force" 638,m "put_deferred" 645,m "put_cond" 652,m "lay_row" 659,m "bound" 666,m "shape" 673,m "fits" 680,m "lies" 687,m "infers" 694,m "tpl_fits" 701,m "shape_fits" 708,m "put_in" 715,m "own_sig" 722,m "forget" 729,m "list_prop" 736,m "list_index" 743,m "elem_met" 750,m "error_class" 757],true⟩),
 (795,⟨(some 631),[m "bound" 785,m "shape" 792,m "force" 638,m "put_deferred" 645,m "put_cond" 652,m "lay_row" 659,m "fits" 680,m "lies" 687,m "infers" 694,m "tpl_fits" 701,m "shape_fits" 708,m "put_in" 715,m "own_sig" 722,m "forget" 729,m "list_prop" 736,m "list_index" 743,m "elem_met" 750,m "error_class" 757],true⟩),
 (814,⟨none,[m "kind_of" 811],true⟩),
 (849,⟨none,[m "access" 832,m "readonly" 839,m "reckons" 846],true⟩),
 (877,⟨(some 867),[m "unset" 874],true⟩),
 (961,⟨(some 895),[m "fits" 902,m "lies" 909,m "excess" 916,m "meets" 923,m "same" 930,m "reduced" 937,m "met" 944,m "words" 951,m "explain" 958],true⟩),
 (996,⟨none,[m "spread" 979,m "element" 986,m "names" 993],true⟩),
 (1017,⟨none,[m "given" 1014],true⟩),
 (1045,⟨none,[m "self_kind" 1035,m "base_kind" 1042],true⟩),
 (1066,⟨none,[m "check" 1063],true⟩),
 (1248,⟨(some 1084),[m "expr" 1091,m "stmt" 1098,m "typed" 1105,m "read" 1112,m "wants" 1119,m "fits" 1126,m "func" 1133,m "declared_of" 1140,m "fault" 1147,m "tell" 1154,m "words" 1161,m "note" 1168,m "keep" 1175,m "declare" 1182,m "mark" 1189,m "back" 1196,m "tried" 1203,m "given" 1210,m "self_kind" 1217,m "base_kind" 1224,m "solid" 1231,m "short" 1238,m "road" 1245],true⟩),
 (1300,⟨none,[m "kind_of" 1297],true⟩)]
def HF:List (Str×MV):=[
 g "_wall" (.glob 21),
 g "K_STR" (.int (2)),
 g "K_NULL" (.int (6)),
 g "K_UNDEF" (.int (7)),
 g "K_NAME" (.int (8)),
 g "K_MEMBER" (.int (16)),
 g "K_INDEX" (.int (17)),
 g "K_CALL" (.int (18)),
 g "K_CHAIN" (.int (20)),
 g "K_NONNULL" (.int (32)),
 g "K_PAREN" (.int (33)),
 g "F_OPTCHAIN" (.int (1)),
 g "Node" (.glob 44),
 g "flagged" (.glob 55),
 g "has" (.glob 62),
 g "U_BANG" (.int (7)),
 g "U_VOID" (.int (18)),
 g "KeepError" (.glob 80),
 g "TooDeep" (.glob 101),
 g "HostFault" (.glob 121),
 g "Diag" (.glob 147),
 g "Diags" (.glob 181),
 g "Notes" (.glob 223),
 g "Y_KEY" (.int (1)),
 g "Y_BOOL" (.int (2)),
 g "Y_STR" (.int (3)),
 g "Y_NUM" (.int (4)),
 g "Y_ENUM" (.int (5)),
 g "Y_UNION" (.int (6)),
 g "Y_INTER" (.int (7)),
 g "Y_OBJ" (.int (8)),
 g "Y_REF" (.int (9)),
 g "Y_PARAM" (.int (10)),
 g "Y_ARRAY" (.int (11)),
 g "Y_TUPLE" (.int (12)),
 g "Y_SIG" (.int (13)),
 g "Y_KEYOF" (.int (14)),
 g "Y_INDEX" (.int (15)),
 g "Y_COND" (.int (16)),
 g "Y_MAPPED" (.int (17)),
 g "Y_TPL" (.int (18)),
 g "Y_ALIAS" (.int (19)),
 g "ANY" (.int (0)),
 g "UNKNOWN" (.int (1)),
 g "NEVER" (.int (2)),
 g "VOID" (.int (3)),
 g "UNDEF" (.int (4)),
 g "NULLT" (.int (5)),
 g "STRING" (.int (6)),
 g "NUMBER" (.int (7)),
 g "FALSE_T" (.int (8)),
 g "TRUE_T" (.int (9)),
 g "OBJECTT" (.int (10)),
 g "EMPTY" (.int (11)),
 g "ERR" (.int (13)),
 g "FRESH_F" (.int (14)),
 g "FRESH_T" (.int (15)),
 g "P_OPT" (.int (1)),
 g "P_READONLY" (.int (2)),
 g "D_OBJALIAS" (.int (3)),
 g "FAM_OTHER" (.int (0)),
 g "FAM_STR" (.int (1)),
 g "FAM_NUM" (.int (2)),
 g "FAM_BOOL" (.int (3)),
 g "FAM_NULL" (.int (4)),
 g "FAM_UNDEF" (.int (5)),
 g "FAM_VOID" (.int (6)),
 g "FAM_OBJ" (.int (7)),
 g "MAX_UNION" (.int (400)),
 g "FIRST_ROWS" (.tup [.tup [.int (1),.str "any"],.tup [.int (1),.str "unknown"],.tup [.int (1),.str "never"],.tup [.int (1),.str "void"],.tup [.int (1),.str "undefined"],.tup [.int (1),.str "null"],.tup [.int (1),.str "string"],.tup [.int (1),.str "number"],.tup [.int (2),.int (0),.int (0)],.tup [.int (2),.int (1),.int (0)],.tup [.int (1),.str "object"],.tup [.int (8),.tup [],.tup [],.tup [],.tup [],.tup [],.int (0)],.tup [.int (6),.tup [.int (8),.int (9)]],.tup [.int (1),.str "error"],.tup [.int (2),.int (0),.int (1)],.tup [.int (2),.int (1),.int (1)]]),
 g "LITERAL_ROWS" (.tup [.int (2),.int (3),.int (4),.int (5)]),
 g "MARKED_ROWS" (.tup [.int (2),.int (3),.int (4),.int (5),.int (8)]),
 g "OBJECT_ROWS" (.tup [.int (8),.int (9),.int (11),.int (12),.int (13)]),
 g "KEY_FAMILIES" (.bO [(.int (3),.int (6)),(.int (4),.int (5)),(.int (5),.int (4)),(.int (6),.int (1)),(.int (7),.int (2)),(.int (10),.int (7))]),
 g "TypeTable" (.glob 285),
 g "kind_of" (.glob 296),
 g "array_type" (.glob 304),
 g "sorted_props" (.glob 309),
 g "obj_type" (.glob 321),
 g "new_param" (.glob 329),
 g "parts_of" (.glob 336),
 g "whole_of_row" (.glob 343),
 g "regular_twin" (.glob 350),
 g "join_bools" (.glob 357),
 g "stays_beside" (.glob 364),
 g "top_of" (.glob 371),
 g "union" (.glob 376),
 g "add_undef" (.glob 383),
 g "is_literal" (.glob 390),
 g "is_unit" (.glob 397),
 g "is_fresh" (.glob 404),
 g "regular_one" (.glob 411),
 g "common_family" (.glob 416),
 g "meet_family" (.glob 423),
 g "family" (.glob 430),
 g "is_nullish_family" (.glob 437),
 g "MAX_DRAWN" (.int (200)),
 g "MEET_NEVER" (.int (0)),
 g "MEET_LEFT" (.int (1)),
 g "MEET_RIGHT" (.int (2)),
 g "MEET_BOTH" (.int (3)),
 g "all_units" (.glob 442),
 g "value_literal" (.glob 449),
 g "kinds_apart" (.glob 456),
 g "units_clash" (.glob 461),
 g "known_decl" (.glob 468),
 g "body_props" (.glob 475),
 g "flat_props" (.glob 482),
 g "shapes_clash" (.glob 487),
 g "meet_nullish" (.glob 494),
 g "meet_values" (.glob 501),
 g "meet_objects" (.glob 508),
 g "meet_case" (.glob 515),
 g "lay_on" (.glob 522),
 g "members_of_meet" (.glob 529),
 g "meet_parts" (.glob 534),
 g "meet_two" (.glob 541),
 g "inter" (.glob 548),
 g "may_be_nullish" (.glob 556),
 g "mapped_may_be_nullish" (.glob 563),
 g "meet_may_be_nullish" (.glob 568),
 g "not_nullish" (.glob 575),
 g "remove_nullish" (.glob 580),
 g "MOST_BOUNDS" (.int (12)),
 g "OPEN_PARTS" (.tup [.int (10),.int (15),.int (16),.int (19),.int (7)]),
 g "path_text" (.glob 588),
 g "nullish_fault" (.glob 595),
 g "seen_parts" (.glob 600),
 g "tell_nullish" (.glob 607),
 g "solid_kind" (.glob 612),
 g "short_kind" (.glob 617),
 g "MOST_ROUNDS" (.int (200)),
 g "MOST_SHAPES" (.int (40)),
 g "Thin" (.glob 760),
 g "bound_of" (.glob 771),
 g "BoundHost" (.glob 795),
 g "MOST_DEEP" (.int (50)),
 g "ExprRule" (.glob 814),
 g "Guard" (.glob 849),
 g "Roads" (.glob 877),
 g "Judge" (.glob 961),
 g "Patterns" (.glob 996),
 g "Giver" (.glob 1017),
 g "Places" (.glob 1045),
 g "FuncRule" (.glob 1066),
 g "Sheet" (.glob 1248),
 g "expr_kind" (.glob 1259),
 g "stays_told" (.glob 1264),
 g "take_back" (.glob 1269),
 g "given_kind" (.glob 1276),
 g "want_fit" (.glob 1283),
 g "BangRule" (.glob 1300),
 g "_LAW_ATOMS" (.tup [.tup [.int (-1),.str "U",.int (-1)],.tup [.int (-1),.str "N",.int (-1)],.tup [.int (-1),.str "V",.int (-1)],.tup [.int (3),.str "A",.int (3)],.tup [.int (4),.str "B",.int (4)],.tup [.int (5),.str "S",.int (5)],.tup [.int (6),.str "L",.int (6)],.tup [.int (13),.str "AU",.int (3)],.tup [.int (8),.str "A",.int (3)],.tup [.int (14),.str "NU",.int (-1)],.tup [.int (15),.str "AU",.int (3)],.tup [.int (16),.str "AV",.int (-1)],.tup [.int (17),.str "AU",.int (3)],.tup [.int (13),.str "A",.int (3)],.tup [.int (14),.str "",.int (-1)],.tup [.int (15),.str "A",.int (3)],.tup [.int (16),.str "A",.int (3)],.tup [.int (17),.str "A",.int (3)],.tup [.int (18),.str "E",.int (-1)],.tup [.int (18),.str "NUE",.int (-1)],.tup [.int (20),.str "",.int (-1)],.tup [.int (21),.str "",.int (-1)]]),
 g "_law_take" (.glob 1332),
 g "_law_world" (.glob 1339),
 g "_law_sorted" (.glob 1346),
 g "_law_kind" (.glob 1351),
 g "_law_id" (.glob 1356),
 g "_law_off" (.glob 1361),
 g "_law_values" (.glob 1366),
 g "_law_node" (.glob 1373),
 g "_law_read" (.glob 1380),
 g "_law_go" (.glob 1387),
 g "_law_use" (.glob 1392),
 g "_law_bang" (.glob 1399),
 g "_law_end" (.glob 1406),
 g "_law_head" (.glob 1413),
 g "_law_chain" (.glob 1418),
 g "law" (.glob 1423),
 g "len" (.blt "len"),
 g "sorted" (.blt "sorted"),
 g "all" (.blt "all"),
 g "tuple" (.typ "tuple"),
 g "str" (.typ "str"),
 g "range" (.typ "range")]
def PG:Prog:=⟨qi wB,qi HE,look HF⟩
noncomputable def KSm(P:PySem.Params):PySem.W.Frag:=frl (TLo P) ((HE.flatMap λc=>[c.1,c.1-1])++wB.map (·.1))
noncomputable def K:PySem.W.Frag:=KSm w.params
def P:Prog:=PG
noncomputable abbrev Tk(s s':Shared):Prop:=∃tk,s'={s with toks:=tk}
structure OA where
 a:Addr
 d:Addr
noncomputable abbrev Lay:=List OA
mutual
inductive bh(I:Addr->Prop)(h:Heap)(ι:Lay):Value->MV->Prop
 | none:bh I h ι .none .none
 | bool (b:Bool):bh I h ι (.bool b) (.bool b)
 | int (i:Int) (t:Tok):bh I h ι (.int i t) (.int i)
 | str {x:Str} (t:Tok):PyData.strOk x=true->bh I h ι (.str x t) (.str x)
 | tup {a:Addr} {o:Obj} {vs:Array Value} {n:Nat} {xs:List MV}:I a->h.get? a=some o->o.cls=.type "tuple"->o.data=.seq vs n->dR I h ι vs.toList xs->bh I h ι (.ref a) (.tup xs)
 | lst {a:Addr} {o:Obj} {vs:Array Value} {n:Nat} {xs:List MV}:I a->h.get? a=some o->o.cls=.type "list"->o.data=.seq vs n->dR I h ι vs.toList xs->bh I h ι (.ref a) (.lst xs)
 | bO {a:Addr} {kvs:List (Int×Value)} {es:List (MV×MV)}:I a->(a==sysModules)=false->h.DictOf (intKind prog w) a kvs->lJ I h ι kvs es->bh I h ι (.ref a) (.bO es)
 | inst {a d c:Addr} {o:Obj} {m:Str->Option Value} {vf:Str->Value} {fs:List (Str×MV)}:I a->I d->a=d+1->h.get? a=some o->o.cls=.ref c->o.dict=some d->notCls o=true->h.Ns1 d m->(∀k,iV c k=false->look fs k=Option.none)->
   (∀k,look fs k=Option.none->m k=Option.none)->(∀k V,look fs k=some V->m k=some (vf k))->(∀k V,look fs k=some V->bh I h ι (vf k) V)->bh I h ι (.ref a) (.inst c fs)
 | obj {n:Nat} {e:OA}:ι[n]?=some e->bh I h ι (.ref e.a) (.obj n)
 | glob (a:Addr):bh I h ι (.ref a) (.glob a)
 | blt (id:String):handedIn (.builtin id)=true->bh I h ι (.builtin id) (.blt id)
 | typ (nm:String):bh I h ι (.type nm) (.typ nm)
inductive dR(I:Addr->Prop)(h:Heap)(ι:Lay):List Value->List MV->Prop
 | nil:dR I h ι [] []
 | cons {v:Value} {V:MV} {vs:List Value} {Vs:List MV}:bh I h ι v V->dR I h ι vs Vs->dR I h ι (v::vs) (V::Vs)
inductive lJ(I:Addr->Prop)(h:Heap)(ι:Lay):List (Int×Value)->List (MV×MV)->Prop
 | nil:lJ I h ι [] []
 | cons {k:Int} {v:Value} {V:MV} {vs:List (Int×Value)} {Vs:List (MV×MV)}:bh I h ι v V->lJ I h ι vs Vs->lJ I h ι ((k,v)::vs) ((.int k,V)::Vs)
end
variable {I I':Addr->Prop} {h h':Heap} {ι l5:Lay}
theorem oW{K:Type}[DecidableEq K]{knd:KeyKind prog w K}{a:Addr}{kvs:List (K×Value)}(d:h.DictOf knd a kvs)(e:∀o,h.get? a=some o->h'.get? a=some o):h'.DictOf knd a kvs:=
 let ⟨o,es,ep,ho,r⟩:=d;⟨o,es,ep,e o ho,r⟩
theorem qV{a:Addr}{m:Str->Option Value}(d:h.Ns a m)(e:∀o,h.get? a=some o->h'.get? a=some o):h'.Ns a m:=
 let ⟨o,es,ep,ho,r⟩:=d;⟨o,es,ep,e o ho,r⟩
theorem qM{K:Type}[DecidableEq K]{knd:KeyKind prog w K}{a:Addr}{kvs:List (K×Value)}(d:h.DictOf knd a kvs):∃o,h.get? a=some o:=let ⟨o,_,_,ho,_⟩:=d;⟨o,ho⟩
theorem nF{a:Addr}{m:Str->Option Value}(d:h.Ns a m):∃o,h.get? a=some o:=let ⟨o,_,_,ho,_⟩:=d;⟨o,ho⟩
theorem bh.mono(hh:∀a o,I a->h.get? a=some o->I' a/\h'.get? a=some o)(j5:∀(n:Nat) (e:OA),ι[n]?=some e->l5[n]?=some e){v:Value}{V:MV}(x:bh I h ι v V):bh I' h' l5 v V:=
 bh.rec (motive_1:=λv V Z=>bh I' h' l5 v V) (motive_2:=λv V Z=>dR I' h' l5 v V) (motive_3:=λv V Z=>lJ I' h' l5 v V) (.none) (.bool) (.int) (λt k=>.str t k) (λi e c d Z r=>.tup (hh _ _ i e).1 (hh _ _ i e).2 c d r) (λi e c d Z r=>.lst (hh _ _ i e).1 (hh _ _ i e).2 c d r)
  (λi sy d Z r=>.bO (let ⟨o,q⟩:=qM d;(hh _ o i q).1) sy (oW d λo e=>(hh _ _ i e).2) r)
  (λi j e1 e c d n k nf n1 n2 Z r=>.inst (hh _ _ i e).1 (let ⟨o,q⟩:=nF k.ns;(hh _ o j q).1) e1 (hh _ _ i e).2 c d n (k.at λo e=>(hh _ _ j e).2) nf n1 n2 r)
  (λe=>.obj (j5 _ _ e)) (.glob) (λi k=>.blt i k) (.typ) (.nil) (λZ Z x r=>.cons x r) (.nil) (λZ Z x r=>.cons x r) x
theorem dR.mono(hh:∀a o,I a->h.get? a=some o->I' a/\h'.get? a=some o)(j5:∀(n:Nat) (e:OA),ι[n]?=some e->l5[n]?=some e){v:List Value}{V:List MV}(x:dR I h ι v V):dR I' h' l5 v V:=
 dR.rec (motive_1:=λv V Z=>bh I' h' l5 v V) (motive_2:=λv V Z=>dR I' h' l5 v V) (motive_3:=λv V Z=>lJ I' h' l5 v V) (.none) (.bool) (.int) (λt k=>.str t k) (λi e c d Z r=>.tup (hh _ _ i e).1 (hh _ _ i e).2 c d r) (λi e c d Z r=>.lst (hh _ _ i e).1 (hh _ _ i e).2 c d r)
  (λi sy d Z r=>.bO (let ⟨o,q⟩:=qM d;(hh _ o i q).1) sy (oW d λo e=>(hh _ _ i e).2) r)
  (λi j e1 e c d n k nf n1 n2 Z r=>.inst (hh _ _ i e).1 (let ⟨o,q⟩:=nF k.ns;(hh _ o j q).1) e1 (hh _ _ i e).2 c d n (k.at λo e=>(hh _ _ j e).2) nf n1 n2 r)
  (λe=>.obj (j5 _ _ e)) (.glob) (λi k=>.blt i k) (.typ) (.nil) (λZ Z x r=>.cons x r) (.nil) (λZ Z x r=>.cons x r) x
theorem lJ.mono(hh:∀a o,I a->h.get? a=some o->I' a/\h'.get? a=some o)(j5:∀(n:Nat) (e:OA),ι[n]?=some e->l5[n]?=some e){v:List (Int×Value)}{V:List (MV×MV)}(x:lJ I h ι v V):lJ I' h' l5 v V:=
 lJ.rec (motive_1:=λv V Z=>bh I' h' l5 v V) (motive_2:=λv V Z=>dR I' h' l5 v V) (motive_3:=λv V Z=>lJ I' h' l5 v V) (.none) (.bool) (.int) (λt k=>.str t k) (λi e c d Z r=>.tup (hh _ _ i e).1 (hh _ _ i e).2 c d r) (λi e c d Z r=>.lst (hh _ _ i e).1 (hh _ _ i e).2 c d r)
  (λi sy d Z r=>.bO (let ⟨o,q⟩:=qM d;(hh _ o i q).1) sy (oW d λo e=>(hh _ _ i e).2) r)
  (λi j e1 e c d n k nf n1 n2 Z r=>.inst (hh _ _ i e).1 (let ⟨o,q⟩:=nF k.ns;(hh _ o j q).1) e1 (hh _ _ i e).2 c d n (k.at λo e=>(hh _ _ j e).2) nf n1 n2 r)
  (λe=>.obj (j5 _ _ e)) (.glob) (λi k=>.blt i k) (.typ) (.nil) (λZ Z x r=>.cons x r) (.nil) (λZ Z x r=>.cons x r) x
inductive o8:Value->Prop
 | none:o8 .none
inductive wC(b:Bool):Value->Prop
 | bool:wC b (.bool b)
inductive gR(i:Int):Value->Prop
 | int (t:Tok):gR i (.int i t)
inductive iR(x:Str):Value->Prop
 | str (t:Tok):PyData.strOk x=true->iR x (.str x t)
inductive wD(a:Addr):Value->Prop
 | glob:wD a (.ref a)
inductive zD(i:String):Value->Prop
 | blt:handedIn (.builtin i)=true->zD i (.builtin i)
inductive wW(i:String):Value->Prop
 | typ:wW i (.type i)
inductive qw(ι:Lay)(n:Nat):Value->Prop
 | obj {e:OA}:ι[n]?=some e->qw ι n (.ref e.a)
variable (I:Addr->Prop) (h:Heap) (ι:Lay)
inductive jj(xs:List MV):Value->Prop
 | tup {a:Addr} {o:Obj} {vs:Array Value} {n:Nat}:I a->h.get? a=some o->o.cls=.type "tuple"->o.data=.seq vs n->dR I h ι vs.toList xs->jj xs (.ref a)
inductive uV(xs:List MV):Value->Prop
 | lst {a:Addr} {o:Obj} {vs:Array Value} {n:Nat}:I a->h.get? a=some o->o.cls=.type "list"->o.data=.seq vs n->dR I h ι vs.toList xs->uV xs (.ref a)
inductive C8(es:List (MV×MV)):Value->Prop
 | bO {a:Addr} {kvs:List (Int×Value)}:I a->(a==sysModules)=false->h.DictOf (intKind prog w) a kvs->lJ I h ι kvs es->C8 es (.ref a)
inductive Cj(c:Addr)(fs:List (Str×MV)):Value->Prop
 | inst {a d:Addr} {o:Obj} {m:Str->Option Value} {vf:Str->Value}:I a->I d->a=d+1->h.get? a=some o->o.cls=.ref c->o.dict=some d->notCls o=true->h.Ns1 d m->(∀k,iV c k=false->look fs k=Option.none)->
   (∀k,look fs k=Option.none->m k=Option.none)->(∀k V,look fs k=some V->m k=some (vf k))->(∀k V,look fs k=some V->bh I h ι (vf k) V)->Cj c fs (.ref a)
noncomputable def Wh(V:MV)(v:Value):Prop:=match V with
 | .none=>o8 v
 | .bool b=>wC b v
 | .int i=>gR i v
 | .str x=>iR x v
 | .tup xs=>jj I h ι xs v
 | .lst xs=>uV I h ι xs v
 | .bO es=>C8 I h ι es v
 | .inst c fs=>Cj I h ι c fs v
 | .obj n=>qw ι n v
 | .glob a=>wD a v
 | .blt i=>zD i v
 | .typ i=>wW i v
theorem bh.inv{I:Addr->Prop}{h:Heap}{ι:Lay}{v:Value}{V:MV}(x:bh I h ι v V):Wh I h ι V v:=by
 cases x with
 | none=>exact .none
 | bool b=>exact .bool
 | int i t=>exact .int t
 | str t k=>exact .str t k
 | tup i e c d r=>exact .tup i e c d r
 | lst i e c d r=>exact .lst i e c d r
 | bO i y d r=>exact .bO i y d r
 | inst a b c d e f g h i j k l=>exact .inst a b c d e f g h i j k l
 | obj e=>exact .obj e
 | glob a=>exact .glob
 | blt i k=>exact .blt k
 | typ i=>exact .typ
theorem Ck{β:Type}{V:MV}{f g:List MV->Option β}{b:β}(k1:∀xs,V=.lst xs->f xs=some b->Gq)(k2:∀xs,V=.tup xs->g xs=some b->Gq)(e:(match (generalizing:=false) V with
   | .lst xs=>f xs
   | .tup xs=>g xs
   | _=>none)=some b):Gq:=by
 induction V using MV.casesOn with
 | lst xs=>exact k1 xs rfl e
 | tup xs=>exact k2 xs rfl e
 | _=>exact aM e
theorem RJ{β:Type}{V:MV}{f:List MV->Option β}{b:β}(k:∀xs,V=.lst xs->f xs=some b->Gq)(e:(match (generalizing:=false) V with
   | .lst xs=>f xs
   | _=>none)=some b):Gq:=by
 induction V using MV.casesOn with
 | lst xs=>exact k xs rfl e
 | _=>exact aM e
theorem RK{β:Type}{V:MV}{f:Int->Option β}{b:β}(k:∀x,V=.int x->f x=some b->Gq)(e:(match (generalizing:=false) V with
   | .int x=>f x
   | _=>none)=some b):Gq:=by
 induction V using MV.casesOn with
 | int x=>exact k x rfl e
 | _=>exact aM e
theorem P8{β:Type}{a:EV}{f:Int->Option β}{b:β}(k:∀x,a=.val (.int x)->f x=some b->Gq)(e:(match (generalizing:=false) a with
   | .val (.int x)=>f x
   | _=>none)=some b):Gq:=by
 induction a using EV.casesOn with
 | val V=>
  induction V using MV.casesOn with
  | int x=>exact k x rfl e
  | _=>exact aM e
 | _=>exact aM e
theorem HG{β:Type}{l:List EV}{f:EV->Option β}{b:β}(k:∀a,l=[a]->f a=some b->Gq)(e:(match (generalizing:=false) l with
   | [a]=>f a
   | _=>none)=some b):Gq:=by
 induction l using aaa with
 | nil=>exact aM e
 | cons a r=>
  induction r using aaa with
  | nil=>exact k a rfl e
  | cons=>exact aM e
theorem HH{β:Type}{l:Option LV}{f:MV->Option β}{b:β}(k:∀x,l=some (.own x)->f x=some b->Gq)(e:(match (generalizing:=false) l with
   | some (.own x)=>f x
   | _=>none)=some b):Gq:=by
 induction l using aab with
 | none=>exact aM e
 | some v=>
  induction v using LV.casesOn with
  | own x=>exact k x rfl e
  | _=>exact aM e
theorem N7{β:Type}{l:Option eO}{f:MV->Option β}{b:β}(k:∀x,l=some (.c x)->f x=some b->Gq)(e:(match (generalizing:=false) l with
   | some (.c x)=>f x
   | _=>none)=some b):Gq:=by
 induction l using aab with
 | none=>exact aM e
 | some v=>
  induction v using eO.casesOn with
  | c x=>exact k x rfl e
  | v=>exact aM e
theorem N8{β:Type}{v:EV}{o:Option β}{b:β}(k:v=.val .none->o=some b->Gq)(e:(match (generalizing:=false) v with
   | .val .none=>o
   | _=>none)=some b):Gq:=by
 induction v using EV.casesOn with
 | val V=>
  induction V using MV.casesOn with
  | none=>exact k rfl e
  | _=>exact aM e
 | _=>exact aM e
theorem Me{β:Type}{v:EV}{l:Option LV}{f:Addr->List (Str×MV)->Option β}{b:β}(k:∀a fs,v=.val .none->l=some (.own (.inst a fs))->f a fs=some b->Gq)(e:(match (generalizing:=false) v,l with
   | .val .none,some (.own (.inst a fs))=>f a fs
   | _,_=>none)=some b):Gq:=by
 induction v using EV.casesOn with
 | val V=>
  induction V using MV.casesOn with
  | none=>
   induction l using aab with
   | none=>exact aM e
   | some w=>
    induction w using LV.casesOn with
    | own W=>
     induction W using MV.casesOn with
     | inst a fs=>exact k a fs rfl rfl e
     | _=>exact aM e
    | _=>exact aM e
  | _=>exact aM e
 | _=>exact aM e
theorem BA{v:MV}{x:Int}(e:zy v=some x):v=.int x:=by
 induction v using MV.casesOn with
 | int y=>exact bf MV.int (someE e).symm
 | _=>exact aM e
theorem P9{v:MV}{x:List MV}(e:I9 v=some x):v=.tup x:=by
 induction v using MV.casesOn with
 | tup y=>exact bf MV.tup (someE e).symm
 | _=>exact aM e
theorem uf{v:MV}{x:List MV}(e:sP v=some x):v=.lst x:=by
 induction v using MV.casesOn with
 | lst y=>exact bf MV.lst (someE e).symm
 | _=>exact aM e
theorem GO{v:MV}{x:Str}(e:CT v=some x):v=.str x:=by
 induction v using MV.casesOn with
 | str y=>exact bf MV.str (someE e).symm
 | _=>exact aM e
theorem Qa{v:MV}{x:List (MV×MV)}(e:Ja v=some x):v=.bO x:=by
 induction v using MV.casesOn with
 | bO y=>exact bf MV.bO (someE e).symm
 | _=>exact aM e
theorem A7{a:EV}{l:Loc}(e:yY a=some l):a=.cont l:=by
 induction a using EV.casesOn with
 | cont y=>exact bf EV.cont (someE e).symm
 | _=>exact aM e
theorem BC{a:EV}{l:MV}(e:zA a=some l):a=.val l:=by
 induction a using EV.casesOn with
 | val y=>exact bf EV.val (someE e).symm
 | _=>exact aM e
theorem RM{a:EV}{l:List MV}(e:J4 a=some l):a=.fresh (.lst l):=by
 induction a using EV.casesOn with
 | fresh y=>exact bf EV.fresh (uf e)
 | _=>exact aM e
theorem BD{α:Type}{as:List α}{a:α}(e:zz as=some a):as=[a]:=by
 induction as using aaa with
 | nil=>exact aM e
 | cons x t=>
  induction t using aaa with
  | nil=>rw[someE e]
  | cons=>exact aM e
theorem Qc{as:List EV}{k d:MV}(e:Jd as=some (k,d)):as=[.val k,.val d]:=by
 induction as using aaa with
 | nil=>exact aM e
 | cons x t=>
  induction t using aaa with
  | nil=>exact aM e
  | cons y u=>
   induction u using aaa with
   | cons=>exact aM e
   | nil=>revert e;refine cN λa h1 e=>?_;revert e;refine eZ λb h2 e=>?_;exists e;rw[BC h1,BC h2]
theorem A8{X Y:MV}{f:Int->Int->Option EV}{a:EV}(k:∀x y,X=.int x->Y=.int y->f x y=some a->Gq)(e:ints2 X Y f=some a):Gq:=cN (λx hx e=>cN (λy hy e=>k x y (BA hx) (BA hy) e) e) e
theorem N9{op:Operator}{X Y:MV}{a:EV}
  (k1:∀x y,op=.Add->X=.int x->Y=.int y->a=.val (.int (x+y))->Gq)
  (k2:∀x y,op=.Mult->X=.int x->Y=.int y->(small x&&decide (0<=y)&&decide (y<=1000)&&decide (-1000000000<=x)&&decide (x<=1000000000))=true->a=.val (.int (x*y))->Gq)
  (k3:∀x y,op=.Mod->X=.int x->Y=.int y->(decide (0<y)&&decide (y<=qy))=true->a=.val (.int (Int.fmod x y))->Gq)
  (k4:∀x y,op=.BitAnd->X=.int x->Y=.int y->(decide (0<=x)&&decide (x<=255)&&decide (0<=y)&&decide (y<=255))=true->a=.val (.int (Int.ofNat (x.toNat&&& y.toNat)))->Gq)
  (k5:∀x y,op=.Add->X=.tup x->Y=.tup y->(decide (x.length<=bE)&&decide (y.length<=bE))=true->a=.val (.tup (x++y))->Gq)
  (k6:∀x y,op=.Add->X=.lst x->Y=.lst y->(decide (x.length<=bE)&&decide (y.length<=bE))=true->a=.fresh (.lst (x++y))->Gq)
  (k7:∀x y,op=.Add->X=.str x->Y=.str y->(decide (x.length<=bE)&&decide (y.length<=bE))=true->a=.val (.str (x++y))->Gq)
  (e:binop op X Y=some a):Gq:=by
 induction op using Operator.casesOn with
 | Add=>
  induction X using MV.casesOn with
  | int x=>exact cN (λy hy e=>dG (λZ e=>k1 x y rfl rfl (BA hy) (someE e)) e) e
  | tup x=>exact cN (λy hy e=>dG (λh e=>k5 x y rfl rfl (P9 hy) h (someE e)) e) e
  | lst x=>exact cN (λy hy e=>dG (λh e=>k6 x y rfl rfl (uf hy) h (someE e)) e) e
  | str x=>exact cN (λy hy e=>dG (λh e=>k7 x y rfl rfl (GO hy) h (someE e)) e) e
  | _=>exact aM e
 | Mult=>exact A8 (λx y hx hy e=>dG (λh e=>k2 x y rfl hx hy h (someE e)) e) e
 | Mod=>exact A8 (λx y hx hy e=>dG (λh e=>k3 x y rfl hx hy h (someE e)) e) e
 | BitAnd=>exact A8 (λx y hx hy e=>dG (λh e=>k4 x y rfl hx hy h (someE e)) e) e
 | _=>exact aM e
theorem F6{O I V:MV}
  (k1:∀xs i,O=.lst xs->I=.int i->((decide (0<=i)||decide (xs.length<=bE))&&decide (i<=bE))=true->idx xs i=some V->Gq)
  (k2:∀xs i,O=.tup xs->I=.int i->(decide (xs.length<=bE)&&decide (i<=bE))=true->idx xs i=some V->Gq)
  (k3:∀z i,O=.str z->I=.int i->(decide (0<=i)&&decide (i<bE)&&decide (i<z.length))=true->V=.str ⟨#[z.cps.getD i.toNat 0]⟩->Gq)
  (k4:∀es,O=.bO es->gE es I=true->eK es I=some V->Gq) (e:mR O I=some V):Gq:=by
 induction O using MV.casesOn with
 | lst xs=>
  induction I using MV.casesOn with
  | int i=>exact dG (λh e=>k1 xs i rfl rfl h e) e
  | _=>exact aM e
 | tup xs=>
  induction I using MV.casesOn with
  | int i=>exact dG (λh e=>k2 xs i rfl rfl h e) e
  | _=>exact aM e
 | str z=>
  induction I using MV.casesOn with
  | int i=>exact dG (λh e=>k3 z i rfl rfl h (someE e)) e
  | _=>exact aM e
 | bO es=>exact dG (λh e=>k4 es rfl h e) e
 | _=>exact aM e
theorem Qd{X C:MV}{b:Bool}
  (k1:∀ys,(C=.lst ys\/C=.tup ys)->MV.data 6 X=true->ys.all (MV.data 5)=true->b=(ys.any λy=>MV.beq y X)->Gq)
  (k2:∀es,C=.bO es->gE es X=true->b=(eK es X).isSome->Gq)
  (k3:∀s t,C=.str s->X=.str t->t.length=1->b=(s.cps.toList.any λc=>decide (some c=t.cps.toList.head?))->Gq) (e:isIn X C=some b):Gq:=by
 induction C using MV.casesOn with
 | lst ys=>exact dG (λh e=>k1 ys (.inl rfl) (ak.mp h).1 (ak.mp h).2 (someE e)) e
 | tup ys=>exact dG (λh e=>k1 ys (.inr rfl) (ak.mp h).1 (ak.mp h).2 (someE e)) e
 | bO es=>exact dG (λh e=>k2 es rfl h (someE e)) e
 | str s=>
  induction X using MV.casesOn with
  | str t=>exact dG (λh e=>k3 s t rfl rfl (ai h) (someE e)) e
  | _=>exact aM e
 | _=>exact aM e
theorem Oa{cx:Ctx}{a:EV}{st st':St}{xs:List MV}{b:Bool}
  (k1:a=.val (.lst xs)->b=false->st'=st->Gq) (k2:a=.val (.tup xs)->b=false->st'=st->Gq) (k3:a=.fresh (.lst xs)->b=false->st'=st->Gq) (k4:a=.bor (.lst xs)->b=false->st'=st->Gq) (k5:a=.bor (.tup xs)->b=false->st'=st->Gq)
  (k6:∀s,a=.val (.str s)->(s.cps.toList.map λc=>.str ⟨#[c]⟩)=xs->b=false->st'=st->Gq) (k7:∀n k,a=.cont (.slot n k)->fZ st (.slot n k)=some (.lst xs)->b=true->st'=st->Gq)
  (k8:∀x,a=.cont (.var x)->fZ st (.var x)=some (.lst xs)->cx.comp=false->b=false->st'={st with loc:=put st.loc x (.v (.lst xs))}->Gq) (e:ia.n9 cx a st=some (xs,b,st')):Gq:=by
 have t:∀{ys:List MV} {c:Bool} {s:St},some (ys,c,s)=some (xs,b,st')->ys=xs/\b=c/\st'=s:=λe=>by cases (e);exact ⟨rfl,rfl,rfl⟩
 induction a using EV.casesOn with
 | val v=>
  induction v using MV.casesOn with
  | lst ys=>(refine eg (t e) λq q2 q3=>?_);exact k1 (q▸rfl) q2 q3
  | tup ys=>(refine eg (t e) λq q2 q3=>?_);exact k2 (q▸rfl) q2 q3
  | str s=>(refine eg (t e) λq q2 q3=>?_);exact k6 s rfl q q2 q3
  | _=>exact aM e
 | fresh v=>
  induction v using MV.casesOn with
  | lst ys=>(refine eg (t e) λq q2 q3=>?_);exact k3 (q▸rfl) q2 q3
  | _=>exact aM e
 | bor v=>
  induction v using MV.casesOn with
  | lst ys=>(refine eg (t e) λq q2 q3=>?_);exact k4 (q▸rfl) q2 q3
  | tup ys=>(refine eg (t e) λq q2 q3=>?_);exact k5 (q▸rfl) q2 q3
  | _=>exact aM e
 | cont l=>
  induction l using Loc.casesOn with
  | slot n k=>
   have e:(match fZ st (.slot n k) with
    | some (.lst xs)=>some (xs,true,st)
    | _=>none)=some (xs,b,st'):=e
   cases hd:fZ st (.slot n k) with
   | none=>rw[hd]at e;exact aM e
   | some v=>
    rw[hd]at e;induction v using MV.casesOn with
    | lst ys=>(refine eg (t e) λq q2 q3=>?_);exact k7 n k rfl (q▸hd) q2 q3
    | _=>exact aM e
  | var x=>
   have e:(match fZ st (.var x) with
    | some (.lst xs)=>if cx.comp then none else some (xs,false,{st with loc:=put st.loc x (.v (.lst xs))})
    | _=>none)=some (xs,b,st'):=e
   cases hd:fZ st (.var x) with
   | none=>rw[hd]at e;exact aM e
   | some v=>
    rw[hd]at e;induction v using MV.casesOn with
    | lst ys=>refine jv (λh e=>?_) e;refine eg (t e) λq q2 q3=>?_;subst q;exact k8 x rfl hd (Bool.eq_false_iff.mpr h) q2 q3
    | _=>exact aM e
theorem Mf{st:St}{n:Nat}{k:Str}{V:MV}(e:fZ st (.slot n k)=some V):getSlot st.aD n k=some (.c V):=by
 have e:(match getSlot st.aD n k with
  | some (.c y)=>some y
  | _=>none)=some V:=e
 generalize getSlot st.aD n k=o at e;induction o using aab with
 | none=>exact aM e
 | some s=>
  induction s using eO.casesOn with
  | c y=>exact bf (λz=>some (eO.c z)) (aY e)
  | v=>exact aM e
theorem AW{st:St}{x:Str}{V:MV}(e:fZ st (.var x)=some V):look st.loc x=some (.own V):=by
 have e:(match look st.loc x with
  | some (.own y)=>some y
  | _=>none)=some V:=e
 cases h:look st.loc x with
 | none=>rw[h]at e;exact aM e
 | some l=>
  rw[h]at e;induction l using LV.casesOn with
  | own y=>exact bf (λz=>some (LV.own z)) (someE e).symm
  | _=>exact aM e
theorem C9{o:Option St}{a r:EV}{st':St}(k:o=some st'->r=a->Gq)(e:(o.map λst=>(a,st))=some (r,st')):Gq:=eZ (λst h e=>by exists e,e;exact k h rfl) e
theorem MR{cx:Ctx}{st st':St}{o r:EV}{m:Str}{as:List EV}
  (kA:∀l x v xs,m=Str.ofString "append"->o=.cont l->as=[x]->fZ st l=some (.lst xs)->jB x=some v->xs.length<bE->iZ cx st l (.lst (xs++[v]))=some st'->r=.val .none->Gq)
  (kP:∀l v xs,m=Str.ofString "pop"->o=.cont l->as=[]->fZ st l=some (.lst xs)->xs.getLast?=some v->xs.length<bE->iZ cx st l (.lst xs.dropLast)=some st'->r=.val v->Gq)
  (kE:∀l ys xs,m=Str.ofString "extend"->o=.cont l->as=[.fresh (.lst ys)]->fZ st l=some (.lst xs)->xs.length<bE->ys.length<bE->iZ cx st l (.lst (xs++ys))=some st'->r=.val .none->Gq)
  (kG:∀k d es,m=Str.ofString "get"->as=[.val k,.val d]->gf st o=some (.bO es)->gE es k=true->r=.val ((eK es k).getD d)->st'=st->Gq)
  (kJ:∀z a xs ss,m=Str.ofString "join"->o=.val (.str z)->as=[a]->gf st a=some (.lst xs)->xs.length<=4096->z.length<=16->nE xs=some ss->ss.all (λs=>decide (s.length<=16))=true->r=.val (.str (gP z ss))->st'=st->Gq)
  (e:qQ cx st o m as=some (r,st')):Gq:=by
 have a1:Je cx st o as=some (r,st')->m=Str.ofString "append"->Gq:=λe h=>cN (λl hl e=>cN (λx hx e=>cN (λc hc e=>cN (λv hv e=>cN (λxs qz e=>dG (λh1 e=>C9 (λhs q=>kA l x v xs h (A7 hl) (BD hx) (uf qz▸hc) hv h1 hs q) e) e) e) e) e) e) e;have a2:Jf cx st o as=some (r,st')->m=Str.ofString "pop"->Gq:=λe h=>jv (λh0 e=>cN (λl hl e=>cN (λc hc e=>cN (λxs qz e=>cN (λv hv e=>dG (λh1 e=>C9 (λhs q=>kP l v xs h (A7 hl) (cz.mp (by simpa using h0)) (uf qz▸hc) hv h1 hs q) e) e) e) e) e) e) e;have a3:Jg cx st o as=some (r,st')->m=Str.ofString "extend"->Gq:=λe h=>cN (λl hl e=>cN (λx hx e=>cN (λys hy e=>cN (λc hc e=>cN (λxs qz e=>dG (λh1 e=>C9 (λhs q=>kE l ys xs h (A7 hl) (RM hy▸BD hx) (uf qz▸hc) (ai (ak.mp h1).1) (ai (ak.mp h1).2) hs q) e) e) e) e) e) e) e;have a4:Jh st o as=some (r,st')->m=Str.ofString "get"->Gq:=λe h=>eG (λk d hk e=>cN (λc hc e=>cN (λes Wi e=>dG (λh1 e=>pairK e λq1 q2=>kG k d es h (Qc hk) (Qa Wi▸hc) h1 q1 q2) e) e) e) e;have a5:Ij st o as=some (r,st')->m=Str.ofString "join"->Gq:=λe h=>cN (λz hz e=>cN (λs hs e=>cN (λa ha e=>cN (λc hc e=>cN (λxs qz e=>dG (λh1 e=>cN (λss pL e=>dG (λh2 e=>pairK e λq1 q2=>kJ s a xs ss h (GO hs▸BC hz) (BD ha) (uf qz▸hc) (ai (ak.mp h1).1) (ai (ak.mp h1).2) pL h2 q1 q2) e) e) e) e) e) e) e) e;clear kA kP kE kG kJ;exact mD (λh e=>a1 e (ai h)) (λZ e=>mD (λh e=>a2 e (ai h)) (λZ e=>mD (λh e=>a3 e (ai h)) (λZ e=>mD (λh e=>a4 e (ai h)) (λZ e=>dG (λh e=>a5 e (ai h)) e) e) e) e) e
theorem Ob{ev:Ev}{cx:Ctx}{e:Expr}{st st':St}{xs:List MV}{b:Bool}
  (k1:∀n fp pos k,e=.Call (.Name (Str.ofString "range") fp) [n] [] pos->CU (jG cx (Str.ofString "range"))=true->noStar n=true->ev.e cx n st=some (.val (.int k),st')->0<=k->k<=4096->xs=(List.range k.toNat).map (λi=>MV.int (Int.ofNat i))->b=false->Gq)
  (k2:((ev.e cx e st).bind λp=>ia.n9 cx p.1 p.2)=some (xs,b,st')->Gq) (e0:ia ev cx e st=some (xs,b,st')):Gq:=by
 induction e using aac with
 | Call f as kw pos=>
  induction f using aac with
  | Name x fp=>
   induction as using aaa with
   | nil=>exact k2 e0
   | cons n t=>
    induction t using aaa with
    | cons=>exact k2 e0
    | nil=>
     induction kw using aaa with
     | cons=>exact k2 e0
     | nil=>
      refine mD (λh e=>?_) (λZ e=>k2 e) e0;rw[aI,aI,aK]at h;revert h;refine gj λbA h3=>?_;revert bA;refine gj λiW h2=>?_;obtain rfl:=iW;revert e;refine eG λa aP e1 e=>?_;induction a using EV.casesOn with
      | val V=>
       induction V using MV.casesOn with
       | int k=>refine dG (λh e=>?_) e;rw[aI,aK,aK]at h;cases (e);exact k1 n fp pos k rfl h2 h3 e1 h.1 h.2 rfl rfl
       | _=>exact aM e
      | _=>exact aM e
  | _=>exact k2 e0
 | _=>exact k2 e0
noncomputable def yP(n:Nat)(k:Str):eO->EV
 | .v x=>.val x
 | .c _=>.cont (.slot n k)
theorem MS{st:St}{a b:EV}{k:Str}(k1:∀n c sl,a=.val (.obj n)->(st.aD[n]?).map (·.cls)=some (some c)->getSlot st.aD n k=some sl->b=yP n k sl->Gq)
  (k2:∀c fs V,a=.val (.inst c fs)->look fs k=some V->b=.val V->Gq) (k3:∀c fs V,a=.bor (.inst c fs)->look fs k=some V->b=.val V->Gq) (k4:∀l c fs V,a=.cont l->fZ st l=some (.inst c fs)->look fs k=some V->b=.val V->Gq) (e:sd st a k=some b):Gq:=by
 induction a using EV.casesOn with
 | val v=>
  induction v using MV.casesOn with
  | obj n=>
   have e:(match (st.aD[n]?).map (·.cls),getSlot st.aD n k with
    | some (some _),some (.v x)=>some (.val x)
    | some (some _),some (.c _)=>some (.cont (.slot n k))
    | _,_=>none)=some b:=e
   cases hc:(st.aD[n]?).map (·.cls) with
   | none=>rw[hc]at e;exact aM e
   | some o=>
    rw[hc]at e;induction o using aab with
    | none=>exact aM e
    | some c=>
     cases hs:getSlot st.aD n k with
     | none=>rw[hs]at e;exact aM e
     | some sl=>
      rw[hs]at e;induction sl using eO.casesOn with
      | v x=>exact k1 n c _ rfl hc hs (someE e)
      | c x=>exact k1 n c _ rfl hc hs (someE e)
  | inst c fs=>exact eZ (λV h q=>k2 c fs V rfl h q.symm) e
  | _=>exact aM e
 | bor v=>
  induction v using MV.casesOn with
  | inst c fs=>exact eZ (λV h q=>k3 c fs V rfl h q.symm) e
  | _=>exact aM e
 | cont l=>
  have e:(match fZ st l with
   | some (.inst _ fs)=>(look fs k).map .val
   | _=>none)=some b:=e
  cases hd:fZ st l with
  | none=>rw[hd]at e;exact aM e
  | some v=>
   rw[hd]at e;induction v using MV.casesOn with
   | inst c fs=>exact eZ (λV h q=>k4 l c fs V rfl hd h q.symm) e
   | _=>exact aM e
 | _=>exact aM e
theorem Fz{st:St}{a b c:EV}(k1:∀n k sl,a=.val (.obj n)->b=.val (.str k)->(st.aD[n]?).map (·.cls)=some none->getSlot st.aD n k=some sl->c=yP n k sl->Gq)
  (k2:∀I O V,b=.val I->gf st a=some O->mR O I=some V->c=.val V->Gq) (e:itemOf st a b=some c):Gq:=by
 induction b using EV.casesOn with
 | val I=>
  have gen:((gf st a).bind λv=>(mR v I).map .val)=some c->Gq:=λe=>cN (λO h e=>eZ (λV h2 q=>k2 I O V rfl h h2 q.symm) e) e;induction a using EV.casesOn with
  | val v=>
   induction v using MV.casesOn with
   | obj n=>
    induction I using MV.casesOn with
    | str k=>
     have e:(match (st.aD[n]?).map (·.cls),getSlot st.aD n k with
      | some none,some (.v x)=>some (.val x)
      | some none,some (.c _)=>some (.cont (.slot n k))
      | _,_=>none)=some c:=e
     cases hc:(st.aD[n]?).map (·.cls) with
     | none=>rw[hc]at e;exact aM e
     | some o=>
      rw[hc]at e;induction o using aab with
      | some c=>exact aM e
      | none=>
       cases hs:getSlot st.aD n k with
       | none=>rw[hs]at e;exact aM e
       | some sl=>
        rw[hs]at e;induction sl using eO.casesOn with
        | v x=>exact k1 n k _ rfl rfl hc hs (someE e)
        | c x=>exact k1 n k _ rfl rfl hc hs (someE e)
    | _=>exact gen e
   | _=>exact gen e
  | _=>exact gen e
 | _=>induction a using EV.casesOn with
  | val v=>induction v using MV.casesOn<;>exact aM e
  | _=>exact aM e
mutual
noncomputable def toPy:MV->PyData
 | .none=>.none
 | .bool b=>.bool b
 | .int i=>.int i
 | .str x=>.str x
 | .tup xs=>.tuple (jK xs)
 | .lst xs=>.list (jK xs)
 | _=>.none
noncomputable def jK:List MV->List PyData
 | []=>[]
 | x::r=>toPy x::jK r
end
theorem yu{P:Nat->MV->Prop}(h0:∀n,P n .none)(hi:∀n i,P n (.int i))(hs:∀n x,P n (.str x))(ht:∀n xs,(∀x∈xs,MV.data n x=true)->(∀x∈xs,P n x)->P (n+1) (.tup xs))
  (hl:∀n xs,(∀x∈xs,MV.data n x=true)->(∀x∈xs,P n x)->P (n+1) (.lst xs)) (n:Nat):∀V,MV.data n V=true->P n V:=by
 induction n with
 | zero=>
  intro V h;induction V using MV.casesOn with
  | none=>exact h0 _
  | int i=>exact hi _ i
  | str x=>exact hs _ x
  | _=>exact b7 h
 | succ n ih=>
  intro V h;induction V using MV.casesOn with
  | none=>exact h0 _
  | int i=>exact hi _ i
  | str x=>exact hs _ x
  | tup xs=>have h:=aG.mp (show xs.all (MV.data n)=true from h);exact ht n xs h λx hx=>ih x (h x hx)
  | lst xs=>have h:=aG.mp (show xs.all (MV.data n)=true from h);exact hl n xs h λx hx=>ih x (h x hx)
  | _=>exact b7 h
theorem ug{P:Nat->MV->Prop}(hi:∀n i,P n (.int i))(hs:∀n x,P n (.str x))(ht:∀n xs,(∀x∈xs,MV.key n x=true)->(∀x∈xs,P n x)->P (n+1) (.tup xs))(n:Nat):∀V,MV.key n V=true->P n V:=by
 induction n with
 | zero=>
  intro V h;induction V using MV.casesOn with
  | int i=>exact hi _ i
  | str x=>exact hs _ x
  | _=>exact b7 h
 | succ n ih=>
  intro V h;induction V using MV.casesOn with
  | int i=>exact hi _ i
  | str x=>exact hs _ x
  | tup xs=>have h:=aG.mp (show xs.all (MV.key n)=true from h);exact ht n xs h λx hx=>ih x (h x hx)
  | _=>exact b7 h
variable {I:Addr->Prop} {h:Heap} {ι:Lay}
theorem dR.each{P:Value->MV->Prop}{Q:List Value->List MV->Prop}(h0:Q [] [])(hc:∀v V vs Vs,P v V->Q vs Vs->Q (v::vs) (V::Vs)):∀{Vs:List MV} {vs:List Value},dR I h ι vs Vs->(∀V∈Vs,∀v,bh I h ι v V->P v V)->Q vs Vs:=by
 intro Vs;induction Vs with
 | nil=>intro vs r _;cases (r);exact h0
 | cons V Vs ih=>
  intro vs r k;cases (r) with
  | cons x r=>exact hc _ _ _ _ (k V (.head _) _ x) (ih r λW hW=>k W (.tail _ hW))
theorem dR.ind{P:List Value->List MV->Prop}(h0:P [] [])(hc:∀v V vs Vs,bh I h ι v V->dR I h ι vs Vs->P vs Vs->P (v::vs) (V::Vs)){Vs:List MV}:∀{vs:List Value},dR I h ι vs Vs->P vs Vs:=by
 induction Vs with
 | nil=>intro vs r;cases (r);exact h0
 | cons V Vs ih=>
  intro vs r;cases (r) with
  | cons x r=>exact hc _ _ _ _ x r (ih r)
theorem dR.A9{Vs:List MV}{vs:List Value}(r:dR I h ι vs Vs)(k:∀V∈Vs,∀v,bh I h ι v V->∃as,Reads h v (toPy V) as):∃as,ReadsAll h vs (jK Vs) as:=
 dR.each (P:=λv V=>∃as,Reads h v (toPy V) as) (Q:=λvs Vs=>∃as,ReadsAll h vs (jK Vs) as) ⟨_,.nil⟩ (λZ Z Z Z ⟨_,a⟩ ⟨_,b⟩=>⟨_,.cons a b⟩) r k
theorem bh.reads{v:Value}{V:MV}(n:Nat)(r:bh I h ι v V)(hd:MV.data n V=true):∃as,Reads h v (toPy V) as:=by
 refine yu (P:=λZ V=>∀v,bh I h ι v V->∃as,Reads h v (toPy V) as) (λZ v r=>?_) (λZ i v r=>?_) (λZ x v r=>?_) (λn xs Z ih v r=>?_) (λn xs Z ih v r=>?_) n V hd v r
 ·(induction (bh.inv r) using o8.casesOn;clear r);exact ⟨_,Reads.none⟩
 ·(induction (bh.inv r) using gR.casesOn;clear r);exact ⟨_,Reads.int _ _⟩
 ·(induction (bh.inv r) using iR.casesOn;clear r);exact ⟨_,Reads.str _ _⟩
 ·induction (bh.inv r) using jj.casesOn with
  | tup i e c d rl=>(refine cg (rl.A9 ih) λas q=>?_);exact ⟨_,Reads.tuple e c d q⟩
 ·induction (bh.inv r) using uV.casesOn with
  | lst i e c d rl=>(refine cg (rl.A9 ih) λas q=>?_);exact ⟨_,Reads.list e c d q⟩
theorem dR.reads{v:List Value}{V:List MV}(n:Nat)(r:dR I h ι v V)(k:∀x∈V,MV.data n x=true):∃as,ReadsAll h v (jK V) as:=r.A9 λx hx Z q=>q.reads n (k x hx)
theorem dR.lay_of{n:Nat}{Vs:List MV}{vs:List Value}(r:dR I h ι vs Vs)(k:∀V∈Vs,∀v,bh I h ι v V->(toPy V).canLay0=true/\(toPy V).depth<=n):PyData.canLayAll0 (jK Vs)=true/\PyData.depthAll (jK Vs)<=n:=
 dR.each (P:=λZ V=>(toPy V).canLay0=true/\(toPy V).depth<=n) (Q:=λZ Vs=>PyData.canLayAll0 (jK Vs)=true/\PyData.depthAll (jK Vs)<=n) ⟨rfl,cS _⟩
  (λZ Z Z Z a b=>⟨ak.mpr ⟨a.1,b.1⟩,Nat.max_le.mpr ⟨a.2,b.2⟩⟩) r k
theorem bh.lay{v:Value}{V:MV}(n:Nat)(r:bh I h ι v V)(hd:MV.data n V=true):(toPy V).canLay0=true/\(toPy V).depth<=n:=by
 refine yu (P:=λn V=>∀v,bh I h ι v V->(toPy V).canLay0=true/\(toPy V).depth<=n) (λZ v r=>⟨rfl,cS _⟩) (λZ i v r=>⟨rfl,cS _⟩) (λZ x v r=>?_) (λn xs Z ih v r=>?_) (λn xs Z ih v r=>?_) n V hd v r
 ·induction (bh.inv r) using iR.casesOn with
  | str t k=>exact ⟨k,cS _⟩
 ·induction (bh.inv r) using jj.casesOn with
  | tup i e c d rl=>(refine cu (rl.lay_of ih) λa b=>?_);exact ⟨a,by show _+1<=_;lia⟩
 ·induction (bh.inv r) using uV.casesOn with
  | lst i e c d rl=>(refine cu (rl.lay_of ih) λa b=>?_);exact ⟨a,by show _+1<=_;lia⟩
theorem dR.lay{v:List Value}{V:List MV}(n:Nat)(r:dR I h ι v V)(k:∀x∈V,MV.data n x=true):PyData.canLayAll0 (jK V)=true/\PyData.depthAll (jK V)<=n:=r.lay_of λx hx Z q=>q.lay n (k x hx)
theorem GP{m:Nat}(a:List MV)(ih:∀x∈a,∀m b,MV.data m b=true->PyData.eqv (toPy x) (toPy b)=MV.beq x b):∀b:List MV,(∀x∈b,MV.data m x=true)->PyData.eqvAll (jK a) (jK b)=MV.g7 a b:=by
 induction a with
 | nil=>intro b _;induction b using aaa<;>rfl
 | cons x a tn=>
  intro b h;induction b using aaa with
  | nil=>rfl
  | cons y b=>show (PyData.eqv (toPy x) (toPy y)&&PyData.eqvAll (jK a) (jK b))=(MV.beq x y&&MV.g7 a b);rw[ih x (.head _) m y (h y (.head _)),tn (λz hz=>ih z (.tail _ hz)) b λz hz=>h z (.tail _ hz)]
theorem BE(n m:Nat)(a b:MV)(h1:MV.data n a=true)(h2:MV.data m b=true):PyData.eqv (toPy a) (toPy b)=MV.beq a b:=by
 refine yu (P:=λZ a=>∀m b,MV.data m b=true->PyData.eqv (toPy a) (toPy b)=MV.beq a b) (λZ m b h=>?_) (λZ i m b h=>?_) (λZ x m b h=>?_) (λn xs Z ih m b h=>?_) (λn xs Z ih m b h=>?_) n a h1 m b h2
 ·induction b using MV.casesOn<;>first | rfl | (induction m using aae<;>exact b7 h)
 ·induction b using MV.casesOn<;>first | rfl | (induction m using aae<;>exact b7 h)
 ·induction b using MV.casesOn<;>first | rfl | (cases m<;>exact b7 h)
 ·induction b using MV.casesOn with
  | tup ys=>
   induction m using aae with
   | zero=>exact b7 h
   | succ m=>exact GP xs ih ys (aG.mp (show ys.all (MV.data m)=true from h))
  | _=>first | rfl | (cases m<;>exact b7 h)
 ·induction b using MV.casesOn with
  | lst ys=>
   induction m using aae with
   | zero=>exact b7 h
   | succ m=>exact GP xs ih ys (aG.mp (show ys.all (MV.data m)=true from h))
  | _=>first | rfl | (cases m<;>exact b7 h)
theorem GQ(a:List MV)(ih:∀x∈a,∀b,MV.beq x b=true->x=b):∀b:List MV,MV.g7 a b=true->a=b:=by
 induction a with
 | nil=>
  intro b h;induction b using aaa with
  | nil=>rfl
  | cons=>exact b7 h
 | cons x a tn=>
  intro b h;induction b using aaa with
  | nil=>exact b7 h
  | cons y b=>have h:=ak.mp (show (MV.beq x y&&MV.g7 a b)=true from h);rw[ih x (.head _) y h.1,tn (λz hz=>ih z (.tail _ hz)) b h.2]
theorem ET(a:List MV)(ih:∀x∈a,MV.beq x x=true):MV.g7 a a=true:=by
 induction a with
 | nil=>rfl
 | cons x a tn=>exact ak.mpr ⟨ih x (.head _),tn λz hz=>ih z (.tail _ hz)⟩
theorem beq_iff(n:Nat)(a b:MV)(h:MV.data n a=true):MV.beq a b=true↔a=b:=by
 have key:=yu (P:=λZ a=>MV.beq a a=true/\∀b,MV.beq a b=true->a=b) (λZ=>⟨rfl,λb h=>?_⟩) (λZ i=>⟨aa rfl,λb h=>?_⟩) (λZ x=>⟨aa rfl,λb h=>?_⟩)
  (λn xs Z ih=>⟨ET xs λx hx=>(ih x hx).1,λb h=>?_⟩) (λn xs Z ih=>⟨ET xs λx hx=>(ih x hx).1,λb h=>?_⟩) n a h
 ·exact ⟨key.2 b,λe=>e▸key.1⟩
 ·induction b using MV.casesOn with
  | none=>rfl
  | _=>exact b7 h
 ·induction b using MV.casesOn with
  | int j=>exact bf MV.int (ai h)
  | _=>exact b7 h
 ·induction b using MV.casesOn with
  | str j=>exact bf MV.str (ai h)
  | _=>exact b7 h
 ·induction b using MV.casesOn with
  | tup ys=>exact bf MV.tup (GQ xs (λx hx=>(ih x hx).2) ys h)
  | _=>exact b7 h
 ·induction b using MV.casesOn with
  | lst ys=>exact bf MV.lst (GQ xs (λx hx=>(ih x hx).2) ys h)
  | _=>exact b7 h
theorem ud(n:Nat)(a:MV)(h:MV.key n a=true):MV.data n a=true:=
 ug (P:=λn a=>MV.data n a=true) (λn Z=>by induction n using aae<;>rfl) (λn Z=>by induction n using aae<;>rfl) (λZ Z Z ih=>aG.mpr ih) n a h
variable {J:Addr->Prop} {κ:Lay}
theorem dR.HJ{m:Nat}{as:List MV}(ih:∀a∈as,∀m v b,bh I h ι v a->bh J h κ v b->MV.key m b=true->a=b):∀{vs:List Value} {bs:List MV},dR I h ι vs as->dR J h κ vs bs->(∀x∈bs,MV.key m x=true)->as=bs:=by
 induction as with
 | nil=>intro vs bs r y _;cases (r);cases (y);rfl
 | cons a as tn=>
  intro vs bs r y k;cases (r) with
  | cons x r=>
   cases (y) with
   | cons x' r'=>rw[ih a (.head _) m _ _ x x' (k _ (.head _)),tn (λz hz=>ih z (.tail _ hz)) r r' λz hz=>k z (.tail _ hz)]
theorem bh.inj(n m:Nat){v:Value}{a b:MV}(r:bh I h ι v a)(y:bh J h κ v b)(h1:MV.key n a=true)(h2:MV.key m b=true):a=b:=by
 refine ug (P:=λZ a=>∀m v b,bh I h ι v a->bh J h κ v b->MV.key m b=true->a=b) (λZ i m v b r y h=>?_) (λZ x m v b r y h=>?_) (λn xs Z ih m v b r y h=>?_) n a h1 m v b r y h2
 ·(induction (bh.inv r) using gR.casesOn;clear r);cases (y);rfl
 ·(induction (bh.inv r) using iR.casesOn;clear r);cases (y);rfl
 ·induction (bh.inv r) using jj.casesOn with
  | tup i e c d rl=>
   induction b using MV.casesOn with
   | tup ys=>
    cases (bh.inv y) with
    | tup i' e' c' d' Wj=>
     rw[e]at e';obtain rfl:=someE e';rw[d]at d';injection d' with d'
     subst d';induction m using aae with
     | zero=>exact b7 h
     | succ m=>exact bf MV.tup (dR.HJ ih rl Wj (aG.mp (show ys.all (MV.key m)=true from h)))
   | int=>cases (y)
   | str=>cases (y)
   | _=>induction m using aae<;>exact b7 h
theorem dR.inj(n m:Nat){v:List Value}{a b:List MV}(r:dR I h ι v a)(y:dR J h κ v b)(h1:∀x∈a,MV.key n x=true)(h2:∀x∈b,MV.key m x=true):a=b:=
 dR.HJ (λa ha m Z b x y k=>bh.inj n m x y (h1 a ha) k) r y h2
theorem dR.Jt{J:Addr->Prop}{h':Heap}{κ:Lay}{Vs:List MV}{vs:List Value}(r:dR I h ι vs Vs)(k:∀V∈Vs,∀v,bh I h ι v V->bh J h' κ v V):dR J h' κ vs Vs:=
 dR.each (P:=λv V=>bh J h' κ v V) (Q:=λvs Vs=>dR J h' κ vs Vs) .nil (λZ Z Z Z a b=>.cons a b) r k
mutual
noncomputable def oh(w:World):MV->Int
 | .int i=>hashInt i
 | .str x=>hashStr w x
 | .tup xs=>reduceHash (Builtin.Tuple.tupleHashOf (yQ w xs))
 | _=>0
noncomputable def yQ(w:World):List MV->List Int
 | []=>[]
 | x::r=>oh w x::yQ w r
end
mutual
noncomputable def qR:MV->Nat
 | .tup xs=>p9 xs+1
 | _=>1
noncomputable def p9:List MV->Nat
 | []=>0
 | x::r=>qR x+p9 r
end
theorem Mg(w:World)(xs:List MV):yQ w xs=xs.map (oh w):=by
 induction xs with
 | nil=>rfl
 | cons x r ih=>exact bf (oh w x::·) ih
theorem EU(l:List MV)(k:MV):p9 (l++[k])=p9 l+qR k:=by
 induction l with
 | nil=>exact (Nat.zero_add _).symm
 | cons y l ih=>show qR y+p9 (l++[k])=qR y+p9 l+qR k;rw[ih,Nat.add_assoc]
inductive Ju(I:Addr->Prop)(ι:Lay)(s:Shared)(ks:List MV)(rest:List Value)(b:Array Int)(s':Shared):Prop
 | mk (done left:List MV):ks=done++left->dR I s.heap ι rest left->b.toList=done.map (oh w)->s'={s with toks:=s.toks+p9 done}->Ju I ι s ks rest b s'
theorem Qe(n:Nat)(V:MV)(v:Value)(A:Around)(E:Value->Shared->Prop)(s:Shared)(Q:Int->Shared->Prop)(hk:MV.key n V=true)(r:bh I s.heap ι v V)(hu:A.units+n<cLine)(h:Q (oh w V) {s with toks:=s.toks+qR V}) :
  wpAny (model prog w) A (pyHash v) Q E s:=by
 refine ug (P:=λn V=>∀(v:Value) (A:Around) (E:Value->Shared->Prop) (s:Shared) (Q:Int->Shared->Prop),bh I s.heap ι v V->A.units+n<cLine->Q (oh w V) {s with toks:=s.toks+qR V}->wpAny (model prog w) A (pyHash v) Q E s)
  (λZ i v A E s Q r Z h=>?_) (λZ x v A E s Q r Z h=>?_) (λn ks hk ih v A E s Q r hu h=>?_) n V hk v A E s Q r hu h
 ·(induction (bh.inv r) using gR.casesOn;clear r);exact wpAny_pyHash_int h
 ·(induction (bh.inv r) using iR.casesOn;clear r);exact wpAny_pyHash_str h
 ·induction (bh.inv r) using jj.casesOn with
  | @tup a o items n' i ho hc hd hi=>
  have hT:s.TypeIs (.ref a) "tuple":=⟨o,ho,hc⟩;unfold pyHash
  first | unfold pyHashByItsType | skip
  first | refine av (wpAny_cRoomFor_or (.inr (by lia)) ?_) | skip
  refine av (wpAny_specialOf hT F.slot_tuple_hash.lookup ?_);show wpAny _ _ (if (some (Value.builtin "tuple.__hash__")==some Value.none)=true then _ else _) Q E s;rw[au (by rw[beq_builtin_none];exact Bool.false_ne_true)];refine av (wpAny_specialOf hT F.slot_tuple_hash.lookup ?_);show wpAny _ _ (callSpecialIfBoundUnlessNone? (.ref a) "__hash__" _ >>= _) Q E s;refine av (wpAny_callSpecialIfBoundUnlessNone?_slot hT F.slot_tuple_hash (wpAny_call_entry F.slot_tuple_hash hT F.entry_tuple_hash ?_ (F.args_tuple_hash_1 _)));show wpAny _ _ (Builtin.Tuple.tupleItemsOf (.ref a) >>= _) _ _ s;refine av (wpAny_tupleItemsOf ho hd ?_);refine av ?_;rw[<-Array.forIn_toList];refine wpAny_forIn_list _
   (Ju I ι s ks)
   _ ?_ ?_ _ _ ⟨[],ks,rfl,hi,rfl,rfl⟩
  ·intro x rest b s' c;rcases c with ⟨done,left,m9,hl,hb,rfl⟩
   cases (hl) with
   | @cons _ k _ pM h1 rE=>
    refine av (ih k (by rw[m9];simp) x _ _ {s with toks:=s.toks+p9 done} _ h1 (by show A.units+1+n<cLine;lia) ?_)
    first
     | exact aH ⟨done++[k],pM,by simp[m9],rE,by simp[hb],by simp[EU,Nat.add_assoc]⟩
     | exact av (aH (aH ⟨done++[k],pM,by simp[m9],rE,by simp[hb],by simp[EU,Nat.add_assoc]⟩))
  ·intro b s' c;rcases c with ⟨done,left,m9,hl,hb,rfl⟩
   cases (hl);rw[eo]at m9;subst m9;show wpAny _ _ (retInt (Builtin.Tuple.tupleHashOf b.toList)) _ _ _;rw[hb];refine wpAny_ret_mkInt ?_;have h:Q (reduceHash (Builtin.Tuple.tupleHashOf (yQ w ks))) {s with toks:=s.toks+(p9 ks+1)}:=h;rw[Mg]at h;show wpAny _ _ (if (decide (-(2:Int) ^ 63<=Builtin.Tuple.tupleHashOf (ks.map (oh w)))&&decide (Builtin.Tuple.tupleHashOf (ks.map (oh w))<2 ^ 63))=true then _ else _) Q E _;unfold reduceHash at h;by_cases hr:(decide (-(2:Int) ^ 63<=Builtin.Tuple.tupleHashOf (ks.map (oh w)))&&decide (Builtin.Tuple.tupleHashOf (ks.map (oh w))<2 ^ 63))=true
   ·rw[aq hr];rw[aq hr]at h;exact aH (by simpa[Nat.add_assoc] using h)
   ·rw[au hr];rw[au hr]at h;exact av (wpAny_rule (aH (by simpa[Nat.add_assoc] using h)))
theorem Qf{n m:Nat}{a b:MV}{u v:Value}{A:Around}{E:Value->Shared->Prop}{s:Shared}{Q:Bool->Shared->Prop}(ha:MV.data n a=true)(hb:MV.data m b=true)(ra:bh I s.heap ι u a)(rb:bh I s.heap ι v b)
  (hu:A.units+n<cLine) (h:Q (MV.beq a b) s):wpAny (model prog w) A (eqBool u v) Q E s:=by
 refine cg (ra.reads n ha) λas p=>?_;refine cg (rb.reads m hb) λbs q=>?_;refine cu (ra.lay n ha) λc1 d1=>?_;refine cu (rb.lay m hb) λc2 d2=>?_;refine eqAt_reads _ _ A s u v as bs p q c1 c2 (aF (Nat.add_le_add_left (aW (Nat.min_le_left _ _) d1) _) hu) prog w E Q ?_;rw[BE n m a b ha hb];exact h
theorem RN(n k:Nat)(V:MV)(v:Value)(A:Around)(E:Value->Shared->Prop)(s:Shared)(Q:Bool->Shared->Prop)(hk:MV.key n V=true)(hn:n<=k)(r:bh I s.heap ι v V)(h:Q true s):wpAny (model prog w) A (eqIsQuiet k v) Q E s:=by
 refine ug (P:=λn V=>∀(k:Nat) (v:Value) (A:Around) (E:Value->Shared->Prop) (s:Shared) (Q:Bool->Shared->Prop),n<=k->bh I s.heap ι v V->Q true s->wpAny (model prog w) A (eqIsQuiet k v) Q E s)
  (λZ i k v A E s Q Z r h=>?_) (λZ x k v A E s Q Z r h=>?_) (λn ks hk ih k v A E s Q hn r h=>?_) n V hk k v A E s Q hn r h
 ·(induction (bh.inv r) using gR.casesOn;clear r);rw[eqIsQuiet_byValue _ rfl];exact aH h
 ·(induction (bh.inv r) using iR.casesOn;clear r);rw[eqIsQuiet_byValue _ rfl];exact aH h
 induction k using aae with
 | zero=>exact absurd hn (Nat.not_succ_le_zero _)
 | succ k=>
 induction (bh.inv r) using jj.casesOn with
 | @tup a o items n' i ho hc hd hi=>
  have hT:s.TypeIs (.ref a) "tuple":=⟨o,ho,hc⟩;unfold eqIsQuiet;refine av (wpAny_specialOf hT F.slot_tuple_eq.lookup ?_);show wpAny _ _ (isInstance (.ref a) (.type "tuple") >>= _) _ _ s;refine av (wpAny_isInstance hT isSubtype_tuple_tuple ?_);simp only[Bool.not_true,Bool.false_eq_true,if_false];refine av (wpAny_seqItems ho hd ?_);refine av ?_;show wpAny _ _ (forIn items _ _) _ _ s;rw[<-Array.forIn_toList];refine wpAny_forIn_list _ (λrest r s'=>r.1=none/\s'=s/\∃left,(∀x∈left,x∈ks)/\dR I s.heap ι rest left) _ ?_ ?_ _ _ ⟨rfl,rfl,ks,λZ h=>h,hi⟩
  ·rintro v rest r s' ⟨hr,rfl,left,hl,hR⟩;cases (hR) with
   | @cons _ x _ S8 h1 h2=>refine av (ih x (hl x (.head _)) k v _ _ s' _ (by lia) h1 ?_);simp only[Bool.not_true,Bool.false_eq_true,if_false];exact aH ⟨rfl,rfl,S8,λy hy=>hl y (.tail _ hy),h2⟩
  ·rintro ⟨r1,r2⟩ s' ⟨hr,rfl,_⟩;simp only at hr;subst hr;exact aH h
open scoped Classical
def RO(h:Heap)(k:MV)(a:Addr):Prop:=MV.key 6 k=true/\(∃xs,k=.tup xs)/\bh (λZ=>True) h [] (.ref a) k
theorem bh.notDict{h h':Heap}{d:Addr}{o:Obj}{es ep}(ho:h.get? d=some o)(hd:o.data=.dict es ep)(hs:Heap.SameBut d h h')(n:Nat){v:Value}{V:MV}(k:MV.key n V=true)(r:bh (λZ=>True) h [] v V):bh (λZ=>True) h' [] v V:=by
 refine ug (P:=λZ V=>∀v,bh (λZ=>True) h [] v V->bh (λZ=>True) h' [] v V) (λZ i v r=>?_) (λZ x v r=>?_) (λn xs Z ih v r=>?_) n V k v r
 ·(induction (bh.inv r) using gR.casesOn;clear r);exact .int ..
 ·induction (bh.inv r) using iR.casesOn with
  | str t k=>exact .str t k
 ·induction (bh.inv r) using jj.casesOn with
  | @tup a o' vs n' i e c dd rl=>
   have jd:a≠d:=by rintro rfl;rw[e]at ho;obtain rfl:=someE ho;rw[dd]at hd;exact nomatch hd
   exact .tup i ((hs.2 a jd).trans e) c dd (rl.Jt ih)
def tupK:HeapKind prog w MV where
 is:=RO
 hash:=oh w
 draws:=qR
 room:=λA=>A.units+8<cLine
 inj:=λhx hy=>bh.inj 6 6 hx.2.2 hy.2.2 hx.1 hy.1
 keeps:=λx ho hd hs=>⟨x.1,x.2.1,bh.notDict ho hd hs 6 x.1 x.2.2⟩
 pyHash:=λ{A E s k a Q} hu hk h=>Qe 6 k (.ref a) A E s Q hk.1 hk.2.2 (by lia) h
 eqBool:=λ{A E s x y a b Q} hu hx hy h=>Qf (n:=6) (m:=6) (ud 6 _ hx.1) (ud 6 _ hy.1) hx.2.2 hy.2.2 (by lia) (by
  have e:MV.beq x y=decide (x=y):=by
   by_cases q:x=y
   ·rw[aa q];exact (beq_iff 6 x y (ud 6 _ hx.1)).mpr q
   ·rw[ao q];exact Bool.eq_false_iff.mpr λz=>q ((beq_iff 6 x y (ud 6 _ hx.1)).mp z)
  rw[e];exact h)
 quiet:=λ{A E s k a Q} hk h=>RN 6 8 k (.ref a) A E s Q hk.1 (by lia) hk.2.2 h
inductive Role where
 | free | fy | frozen
 | dict (n:Nat) | cont (n:Nat) (k:Str)
 | loc (f:Nat) | cell (f:Nat) (x:Str) | own (f:Nat) (x:Str)
noncomputable def Role.tg:Role->Nat
 | .free=>0
 | .fy=>1
 | .frozen=>2
 | .dict _=>3
 | .cont _ _=>4
 | .loc _=>5
 | .cell _ _=>6
 | .own _ _=>7
theorem dS{a b:Role}(h:Nat.beq a.tg b.tg=false):a≠b:=λe=>by
 rw[e,Nat.beq_refl]at h;exact b7 h.symm
structure G where
 ι:Lay
 ρ:Addr->Role
 cs:Nat->Str->Addr
noncomputable def gY(f:Nat)(ro:Bool):Role->Prop
 | .free=>False
 | .fy=>True
 | .frozen=>True
 | .dict _=>ro=true
 | .cont _ _=>ro=true
 | .loc f'=>f'<f
 | .cell f' _=>f'<f
 | .own f' _=>f'<f
theorem gY.up{f f':Nat}{ro fY:Bool}(hf:f<=f')(hr:ro=true->fY=true):∀{r:Role},gY f ro r->gY f' fY r
 | .free,h=>h
 | .fy,h=>h
 | .frozen,h=>h
 | .dict _,h=>hr h
 | .cont _ _,h=>hr h
 | .loc _,h=>cC h hf
 | .cell _ _,h=>cC h hf
 | .own _ _,h=>cC h hf
abbrev RV(g:G)(h:Heap):Value->MV->Prop:=bh (λa=>g.ρ a=.frozen) h g.ι
abbrev RL(g:G)(h:Heap):List Value->List MV->Prop:=dR (λa=>g.ρ a=.frozen) h g.ι
class inductive jO{K:Type}(g:G)(h:Heap)(iS:K->MV):List (K×Value)->List (MV×MV)->Prop
 | nil:jO g h iS [] []
 | cons {k:K} {v:Value} {V:MV} {kvs:List (K×Value)} {es:List (MV×MV)}:RV g h v V->jO g h iS kvs es->jO g h iS ((k,v)::kvs) ((iS k,V)::es)
class inductive nQ(g:G)(h:Heap):List (MV×Addr×Value)->List (MV×MV)->Prop
 | nil:nQ g h [] []
 | cons {k:MV} {a:Addr} {v:Value} {V:MV} {xs:List (MV×Addr×Value)} {es:List (MV×MV)}:MV.key 6 k=true->(∃ys,k=.tup ys)->RV g h (.ref a) k->RV g h v V->nQ g h xs es->nQ g h ((k,a,v)::xs) ((k,V)::es)
def Keyed(h:Heap)(d:Addr)(xs:List (MV×Addr×Value)):Prop:=
 ∃o es ep,h.get? d=some o/\o.ExactDict/\o.data=.dict es ep/\es.toList=xs.map (entryOfKey (tupK))/\(xs.map (·.1)).Nodup
inductive dM(g:G)(h:Heap)(b:Addr):MV->Prop
 | lst {vs:Array Value} {xs:List MV}:h.PlainList b vs->RL g h vs.toList xs->dM g h b (.lst xs)
 | lK {kvs:List (Int×Value)} {es:List (MV×MV)}:(b==sysModules)=false->h.DictOf (intKind prog w) b kvs->jO g h MV.int kvs es->dM g h b (.bO es)
 | mw {kvs:List (Str×Value)} {es:List (MV×MV)}:(b==sysModules)=false->(∀p∈kvs,PyData.strOk p.1=true)->h.DictOf (strKind prog w) b kvs->jO g h MV.str kvs es->dM g h b (.bO es)
 | mz {xs:List (MV×Addr×Value)} {es:List (MV×MV)}:(b==sysModules)=false->Keyed h b xs->nQ g h xs es->dM g h b (.bO es)
 | inst {d c:Addr} {o:Obj} {m:Str->Option Value} {vf:Str->Value} {fs:List (Str×MV)}:b=d+1->g.ρ d=g.ρ b->h.get? b=some o->o.cls=.ref c->o.dict=some d->notCls o=true->h.Ns1 d m->(∀k,iV c k=false->look fs k=Option.none)->
   (∀k,look fs k=Option.none->m k=Option.none)->(∀k V,look fs k=some V->m k=some (vf k))->(∀k V,look fs k=some V->RV g h (vf k) V)->dM g h b (.inst c fs)
def lB(g:G)(h:Heap)(n:Nat)(k:Str):eO->Value->Prop
 | .v V,v=>RV g h v V
 | .c V,v=>v=.ref (g.cs n k)/\g.ρ (g.cs n k)=.cont n k/\dM g h (g.cs n k) V
def Slots(g:G)(h:Heap)(n:Nat)(m:Str->Option Value)(fs:List (Str×eO)):Prop:=
 ∀k,match look fs k with
  | none=>m k=none
  | some s=>∃v,m k=some v/\lB g h n k s v
inductive oi(g:G)(h:Heap)(n:Nat)(e:OA):kR->Prop
 | inst {c:Addr} {o:Obj} {m:Str->Option Value} {fs:List (Str×eO)}:g.ρ e.a=.frozen->g.ρ e.d=.dict n->h.get? e.a=some o->o.cls=.ref c->o.dict=some e.d->notCls o=true->h.Ns1 e.d m->(∀k,iV c k=false->look fs k=none)->
   Slots g h n m fs->oi g h n e ⟨some c,fs⟩
 | dict {kvs:List (Str×Value)} {fs:List (Str×eO)}:e.a=e.d->g.ρ e.d=.dict n->h.DictOf (strKind prog w) e.d kvs->Slots g h n (valueAt kvs) fs->kvs.length<=15->oi g h n e ⟨none,fs⟩
structure lS(g:G)(σ:eN)(h:Heap):Prop where
 len:g.ι.length=σ.length
 at_:∀(n:Nat) (e:OA) (o:kR),g.ι[n]?=some e->σ[n]?=some o->oi g h n e o
def xA(f:Nat)(ro:Bool)(g:G)(h:Heap)(V:MV)(v:Value):Prop:=∃b,v=.ref b/\(gY f ro (g.ρ b)/\g.ρ b≠.fy)/\dM g h b V
def LVal(f:Nat)(ro:Bool)(cv:Str->Addr)(g:G)(h:Heap)(x:Str):LV->Value->Prop
 | .v V,v=>RV g h v V
 | .own V,v=>v=.ref (cv x)/\g.ρ (cv x)=.own f x/\dM g h (cv x) V
 | .bor V,v=>xA f ro g h V v
def lV(g:G)(env:Env)(m:Str->Option Value)(h:Heap)(x:Str)(v:Value):Prop:=match env.kindOf x with
 | some .local=>m x=some v
 | some .cell=>∃c,env.cells.lookup x=some c/\h.IsCell c (some v)
 | some .free=>∃c,env.cells.lookup x=some c/\h.IsCell c (some v)/\∃f' y,f'<env.locals/\g.ρ c=.cell f' y
 | _=>True
theorem lV.of{g:G}{env:Env}{m:Str->Option Value}{h:Heap}{x:Str}{v:Value}(l:env.kindOf x=some .local->m x=some v)(c:env.kindOf x=some .cell->∃c,env.cells.lookup x=some c/\h.IsCell c (some v))(f:env.kindOf x=some .free->∃c,env.cells.lookup x=some c/\h.IsCell c (some v)/\∃f' y,f'<env.locals/\g.ρ c=.cell f' y):lV g env m h x v:=by
 unfold lV;cases q:env.kindOf x with
 | none=>trivial
 | some k=>
  cases (k) with
  | «local»=>exact l q
  | cell=>exact c q
  | free=>exact f q
  | _=>trivial
theorem lV.map{g g':G}{env:Env}{m m':Str->Option Value}{h h':Heap}{x:Str}{v v':Value}(p:lV g env m h x v)(l:env.kindOf x=some .local->m x=some v->m' x=some v')(c:env.kindOf x=some .cell->∀c,env.cells.lookup x=some c->h.IsCell c (some v)->∃c,env.cells.lookup x=some c/\h'.IsCell c (some v'))
  (f:env.kindOf x=some .free->∀c,env.cells.lookup x=some c->h.IsCell c (some v)->(∃f' y,f'<env.locals/\g.ρ c=.cell f' y)->∃c,env.cells.lookup x=some c/\h'.IsCell c (some v')/\∃f' y,f'<env.locals/\g'.ρ c=.cell f' y):lV g' env m' h' x v':=by
 unfold lV at p;refine .of (λq=>l q ?_) (λq=>?_) λq=>?_
 ·rw[q]at p;exact p
 ·rw[q]at p;exact cg p λa p=>c q a p.1 p.2
 ·rw[q]at p;exact cg p λa p=>f q a p.1 p.2.1 p.2.2
def Jv(cx:Ctx)(env:Env)(cv:Str->Addr)(g:G)(loc:List (Str×LV))(h:Heap)(m:Str->Option Value):Prop:=
 ∀x lv,look loc x=some lv->env.kindOf x≠some .globalImplicit->env.kindOf x≠some .globalExplicit->env.kindOf x≠none->∃v,lV g env m h x v/\LVal env.locals cx.ro cv g h x lv v
structure nG(cx:Ctx)(env:Env)(cv:Str->Addr)(g:G)(loc:List (Str×LV))(h:Heap):Prop where
 kinds:∀x,env.kindOf x=jG cx x\/(cx.comp=true/\jG cx x=some .free/\env.kindOf x=some .cell)
 kind:env.scope.kind=.function
 glob:env.globals=mainGlobals
 blt:env.builtins=builtinsNs
 role:g.ρ env.locals=.loc env.locals
 vars:∃m,h.Ns env.locals m/\Jv cx env cv g loc h m
 cells:∀x,env.kindOf x=some .cell->∃c ov f',env.cells.lookup x=some c/\h.IsCell c ov/\g.ρ c=.cell f' x/\f'<=env.locals/\(cx.comp=false->f'=env.locals)
 comp:cx.comp=false->∀x,env.kindOf x≠some .free
 inner:cx.comp=true->∀x V,look loc x≠some (.own V)
def Ground(h₀:Heap)(g:G)(h:Heap):Prop:=∀b o,h₀.get? b=some o->g.ρ b=.frozen/\h.get? b=some o
structure Rel(cx:Ctx)(env:Env)(cv:Str->Addr)(g:G)(st:St)(s:Shared):Prop where
 ground:Ground h₀ g s.heap
 loc:nG cx env cv g st.loc s.heap
 aD:lS g st.aD s.heap
structure Step(f:Nat)(ro rb:Bool)(g:G)(σ:eN)(s:Shared)(g':G)(σ':eN)(s':Shared):Prop where
 same:∃h' tk,s'={s with heap:=h',toks:=tk}
 live:∀b o,s.heap.get? b=some o->∃o',s'.heap.get? b=some o'
 keep:∀b o,s.heap.get? b=some o->gY f ro (g.ρ b)->s'.heap.get? b=some o
 role:∀b o,s.heap.get? b=some o->g'.ρ b=g.ρ b\/∃f' x,f<=f'/\g.ρ b=.own f' x
 lay:∃ex,g'.ι=g.ι++ex
 cs:(ro=true\/rb=false)->∀n k,n<σ.length->g'.cs n k=g.cs n k
 aD:ro=true->σ'=σ
 len:σ.length<=σ'.length
namespace Step
variable {f f':Nat} {ro rb fY qA:Bool} {g bM bW:G} {σ gi Iv:eN} {s bq s₂:Shared}
theorem refl:Step f ro rb g σ s g σ s:=⟨⟨s.heap,s.toks,rfl⟩,λZ o e=>⟨o,e⟩,λZ Z e Z=>e,λZ Z Z=>.inl rfl,⟨[],by simp⟩,λZ Z Z Z=>rfl,λZ=>rfl,az _⟩
theorem fix(x:Step f ro rb g σ s bM gi bq){b:Addr}(hb:∃o,s.heap.get? b=some o)(hf:gY f ro (g.ρ b)):bM.ρ b=g.ρ b:=by
 revert hb;refine gh λo hb=>?_;refine bu (x.role b o hb) (λe=>?u1) λgk=>?v1;(case' v1=>(refine kj gk λf' y DN e=>?_));(case' u1=>(skip))
 ·exact e
 ·rw[e]at hf;exact absurd hf (by show ¬f'<f;lia)
theorem trans(x:Step f ro rb g σ s bM gi bq)(y:Step f ro rb bM gi bq bW Iv s₂):Step f ro rb g σ s bW Iv s₂ where
 same:=by (refine iU x.same λh t bA=>?_;obtain rfl:=bA);(refine iU y.same λh' t' bA=>?_;obtain rfl:=bA);exact ⟨h',t',rfl⟩
 live:=λb o e=>let ⟨o',e'⟩:=x.live b o e;y.live b o' e'
 keep:=λb o e hf=>y.keep b o (x.keep b o e hf) (by rw[x.fix ⟨_,e⟩ hf];exact hf)
 role:=λb o hb=>by
  refine bu (x.role b o hb) (λe=>?_) λh=>?_
  ·refine cg (x.live b o hb) λo' u9=>?_;refine bu (y.role b o' u9) (λe'=>?u2) λgk=>?v2;(case' v2=>(refine kj gk λf' z hf e'=>?_));(case' u2=>(skip))
   ·exact .inl (e'.trans e)
   ·exact .inr ⟨f',z,hf,e▸e'⟩
  ·exact .inr h
 lay:=by (refine cg x.lay λa ha=>?_);(refine cg y.lay λb hb=>?_);exact ⟨a++b,by rw[hb,ha,cH]⟩
 cs:=λh n k hn=>(y.cs h n k (cC hn x.len)).trans (x.cs h n k hn)
 aD:=λh=>(y.aD h).trans (x.aD h)
 len:=aW x.len y.len
theorem out(x:Step f' fY qA g σ s bM gi bq)(hf:f<=f')(hr:ro=true->fY=true)(hb:(ro=true\/rb=false)->fY=true\/qA=false):Step f ro rb g σ s bM gi bq where
 same:=x.same
 live:=x.live
 keep:=λb o e h=>x.keep b o e (h.up hf hr)
 role:=λb o hb=>(x.role b o hb).imp id λ⟨a,y,h,e⟩=>⟨a,y,aW hf h,e⟩
 lay:=x.lay
 cs:=λh=>x.cs (hb h)
 aD:=λh=>x.aD (hr h)
 len:=x.len
theorem tok(x:Step f ro rb g σ s bM gi bq)(t:Nat):Step f ro rb g σ s bM gi {bq with toks:=t}:=
 ⟨by (refine iU x.same λh t' bA=>?_;obtain rfl:=bA);exact ⟨h,t,rfl⟩,x.live,x.keep,x.role,x.lay,x.cs,x.aD,x.len⟩
end Step
variable {f:Nat} {ro rb:Bool} {g g':G} {σ σ':eN} {s s':Shared}
structure Up(g:G)(h:Heap)(g':G)(h':Heap):Prop where
 fr:∀a o,g.ρ a=.frozen->h.get? a=some o->g'.ρ a=.frozen/\h'.get? a=some o
 lay:∀(n:Nat) (e:OA),g.ι[n]?=some e->g'.ι[n]?=some e
theorem Up.refl:Up g h g h:=⟨λZ Z a b=>⟨a,b⟩,λZ Z e=>e⟩
theorem Step.up(x:Step f ro rb g σ s g' σ' s'):Up g s.heap g' s'.heap:=
 ⟨λa o r e=>⟨by rw[x.fix ⟨_,e⟩ (by rw[r];trivial),r],x.keep a o e (by rw[r];trivial)⟩,λn e q=>by
  refine cg x.lay λex hx=>?_;rw[hx,cM (bF.mp q).1];exact q⟩
theorem Up.v(x:Up g h g' h'){v:Value}{V:MV}(r:RV g h v V):RV g' h' v V:=bh.mono x.fr x.lay r
theorem Up.l(x:Up g h g' h'){v:List Value}{V:List MV}(r:RL g h v V):RL g' h' v V:=dR.mono x.fr x.lay r
theorem Up.p(x:Up g h g' h'){K:Type}{iS:K->MV}{a:List (K×Value)}{b:List (MV×MV)}(r:jO g h iS a b):jO g' h' iS a b:=by
 induction r with
 | nil=>exact .nil
 | cons v _ ih=>exact .cons (x.v v) ih
theorem Up.k(x:Up g h g' h'){a:List (MV×Addr×Value)}{b:List (MV×MV)}(r:nQ g h a b):nQ g' h' a b:=by
 induction r with
 | nil=>exact .nil
 | cons k t a v _ ih=>exact .cons k t (x.v a) (x.v v) ih
theorem Keyed.at{a:Addr}{xs:List (MV×Addr×Value)}(d:Keyed h a xs)(e:∀o,h.get? a=some o->h'.get? a=some o):Keyed h' a xs:=
 let ⟨o,es,ep,ho,r⟩:=d;⟨o,es,ep,e o ho,r⟩
theorem dM.get{b:Addr}{V:MV}(c:dM g h b V):∃o,h.get? b=some o:=by
 cases (c) with
 | lst i r=>(revert i;refine gh λn e=>?_);exact ⟨_,e⟩
 | lK y d r=>exact qM d
 | mw y k d r=>exact qM d
 | mz y d r=>(revert d;refine UO λo Z Z e Z=>?_);exact ⟨o,e⟩
 | inst _ _ e=>exact ⟨_,e⟩
theorem dM.lt{b:Addr}{V:MV}(c:dM g h b V):b<h.objs.size:=let ⟨_,e⟩:=c.get;cJ e
theorem dM.keep{b:Addr}{V:MV}(c:dM g h b V)(x:Up g h g' h')(k:∀d o,g.ρ d=g.ρ b->h.get? d=some o->g'.ρ d=g'.ρ b/\h'.get? d=some o):dM g' h' b V:=by
 cases (c) with
 | lst i r=>exact .lst (i.at λo e=>(k b o rfl e).2) (x.l r)
 | lK y d r=>exact .lK y (oW d λo e=>(k b o rfl e).2) (x.p r)
 | mw y q d r=>exact .mw y q (oW d λo e=>(k b o rfl e).2) (x.p r)
 | mz y d r=>exact .mz y (d.at λo e=>(k b o rfl e).2) (x.k r)
 | inst e1 e2 e3 e4 e5 e6 e7 ef e8 e9 qB=>exact .inst e1 (let ⟨o,q⟩:=nF e7.ns;(k _ o e2 q).1) (k b _ rfl e3).2 e4 e5 e6 (e7.at λo e=>(k _ o e2 e).2) ef e8 e9 λk V q=>x.v (qB k V q)
theorem Step.cont(x:Step f ro rb g σ s g' σ' s'){b:Addr}{V:MV}(hf:gY f ro (g.ρ b))(c:dM g s.heap b V):dM g' s'.heap b V:=
 c.keep x.up λd o e q=>⟨by rw[x.fix ⟨_,q⟩ (by rw[e];exact hf),x.fix c.get hf,e],x.keep d o q (by rw[e];exact hf)⟩
theorem Step.bor(x:Step f ro rb g σ s g' σ' s'){V:MV}{v:Value}(c:xA f ro g s.heap V v):xA f ro g' s'.heap V v:=by revert c;refine gz λb e hf c=>?_;exact ⟨b,e,by rw[x.fix c.get hf.1];exact hf,x.cont hf.1 c⟩
theorem Step.ground(x:Step f ro rb g σ s g' σ' s')(y:Ground h₀ g s.heap):Ground h₀ g' s'.heap:=λb o e=>x.up.fr b o (y b o e).1 (y b o e).2
theorem nG.under{cx:Ctx}{env:Env}{cv:Str->Addr}{loc:List (Str×LV)}{f':Nat}{fY qA:Bool}(y:nG cx env cv g loc s.heap)(x:Step f' fY qA g σ s g' σ' s')(hf:env.locals<f')(hr:cx.ro=true->fY=true) :
  nG cx env cv g' loc s'.heap where
 kinds:=y.kinds
 kind:=y.kind
 glob:=y.glob
 blt:=y.blt
 role:=by refine bz y.vars λm n Z=>?_;rw[x.fix (nF n) (by rw[y.role];exact hf),y.role]
 vars:=by
  refine bz y.vars λm n hv=>?_;refine ⟨m,qV n λo e=>x.keep _ o e (by rw[y.role];exact hf),λz lv hl a b c=>?_⟩;refine bz (hv z lv hl a b c) λv p q=>?_;refine ⟨v,?_,?_⟩
  ·refine p.map (λZ p=>p) (λk c₀ e ic=>?_) λk c₀ e wX Dc=>?_
   ·refine qv (y.cells z k) λc' ov lX e' pN je hle Z=>?_;obtain rfl:c'=c₀:=by rw[e]at e';exact (aY e').symm
    revert ic;refine gp λo ho hd=>?_;exact ⟨c',e,o,x.keep _ o ho (by rw[je];exact aF hle hf),hd⟩
   ·revert wX;refine gp λo ho hd=>?_;revert Dc;refine sQ λDO y' dH je=>?_;have hx:gY f' fY (g.ρ c₀):=by rw[je];exact aZ dH hf
    exact ⟨c₀,e,⟨o,x.keep _ o ho hx,hd⟩,DO,y',dH,by rw[x.fix ⟨_,ho⟩ hx,je]⟩
  ·induction lv using LV.casesOn with
   | v V=>exact x.up.v q
   | own V=>
    revert q;refine mu λe r c=>?_;have hx:gY f' fY (g.ρ (cv z)):=by rw[r];exact hf
    exact ⟨e,by rw[x.fix c.get hx,r],x.cont hx c⟩
   | bor V=>revert q;refine gz λb e hb c=>?_;have hx:gY f' fY (g.ρ b):=hb.1.up (b9 hf) hr;exact ⟨b,e,by rw[x.fix c.get hx];exact hb,x.cont hx c⟩
 cells:=λz k=>by
  refine qv (y.cells z k) λc' ov lX e' g8 je hle hc=>?_;revert g8;refine gp λo ho hd=>?_;have hx:gY f' fY (g.ρ c'):=by rw[je];exact aF hle hf
  exact ⟨c',ov,lX,e',⟨o,x.keep _ o ho hx,hd⟩,by rw[x.fix ⟨_,ho⟩ hx,je],hle,hc⟩
 comp:=y.comp
 inner:=y.inner
theorem nZ{α:Type}(fs:List (Str×α))(k x:Str)(v:α):look (put fs k v) x=if k=x then some v else look fs x:=by
 induction fs with
 | nil=>
  show (if decide (k=x)=true then some v else none)=if k=x then some v else none
  by_cases h:k=x
  ·rw[aq (aa h),aq h]
  ·rw[au λq=>h (ai q),au h]
 | cons p r ih=>
  show look (if decide (p.1=k)=true then (p.1,v)::r else p::put r k v) x=if k=x then some v else if decide (p.1=x)=true then some p.2 else look r x
  by_cases h:p.1=k
  ·rw[aq (aa h),h];show (if decide (k=x)=true then some v else look r x)=_;by_cases q:k=x
   ·rw[aq (aa q),aq q]
   ·rw[au λz=>q (ai z),au q,au λz=>q (ai z)]
  ·rw[au λq=>h (ai q)];show (if decide (p.1=x)=true then some p.2 else look (put r k v) x)=_;rw[ih];by_cases q:p.1=x
   ·rw[aq (aa q),aq (aa q),au λz=>h (q.trans z.symm)]
   ·rw[au λz=>q (ai z),au λz=>q (ai z)]
variable {cx:Ctx} {env:Env} {cv f7:Str->Addr} {st st':St}
theorem oi.keep{n:Nat}{e:OA}{o:kR}(q:oi g h n e o)(x:Up g h g' h')(hd:∀d o,g.ρ d=.dict n->h.get? d=some o->g'.ρ d=.dict n/\h'.get? d=some o)
  (hc:∀k,g'.cs n k=g.cs n k) (kc:∀d o k,g.ρ d=.cont n k->h.get? d=some o->g'.ρ d=.cont n k/\h'.get? d=some o):oi g' h' n e o:=by
 have sl:∀{m:Str->Option Value} {fs},Slots g h n m fs->Slots g' h' n m fs:=by
  intro m fs S k;have T:=S k;show match look fs k with | none=>m k=none | some s=>∃v,m k=some v/\lB g' h' n k s v
  cases hq:look fs k with
  | none=>rw[hq]at T;exact T
  | some s=>
   rw[hq]at T;revert T;refine gp λv a b=>?_;refine ⟨v,a,?_⟩;induction s using eO.casesOn with
   | v V=>exact x.v b
   | c V=>
    revert b;refine mu λb1 b2 b3=>?_;refine ⟨by rw[hc];exact b1,?_,?_⟩
    ·rw[hc];(refine cg b3.get λo ho=>?_);exact (kc _ o k b2 ho).1
    ·rw[hc];exact b3.keep x λd o e q=>by
      have h1:=kc d o k (e.trans b2) q;refine cg b3.get λo' gI=>?_;have h2:=kc _ o' k b2 gI;exact ⟨h1.1.trans h2.1.symm,h1.2⟩
 cases (q) with
 | inst a1 a2 a3 a4 a5 a6 a7 af a8=>exact .inst (x.fr _ _ a1 a3).1 (let ⟨o,z⟩:=nF a7.ns;(hd _ o a2 z).1) (x.fr _ _ a1 a3).2 a4 a5 a6 (a7.at λo e=>(hd _ o a2 e).2) af (sl a8)
 | dict a1 a2 a3 a4 a5=>exact .dict a1 (let ⟨o,z⟩:=qM a3;(hd _ o a2 z).1) (oW a3 λo e=>(hd _ o a2 e).2) (sl a4) a5
structure Exc(r:Role->Prop)(g:G)(h:Heap)(g':G)(h':Heap):Prop where
 keep:∀b o,¬r (g.ρ b)->h.get? b=some o->g'.ρ b=g.ρ b/\h'.get? b=some o
 lay:g'.ι=g.ι
theorem Exc.up{r:Role->Prop}(x:Exc r g h g' h')(hr:¬r .frozen):Up g h g' h':=
 ⟨λa o e q=>by (refine cu (x.keep a o (by rw[e];exact hr) q) λp z=>?_);exact ⟨p.trans e,z⟩,λn e q=>by rw[x.lay];exact q⟩
theorem Exc.cont{r:Role->Prop}(x:Exc r g h g' h')(hr:¬r .frozen){b:Addr}{V:MV}(hb:¬r (g.ρ b))(c:dM g h b V):dM g' h' b V:=
 c.keep (x.up hr) λd o e q=>by
  refine cg c.get λo' gI=>?_;refine cu (x.keep d o (by rw[e];exact hb) q) λp z=>?_;exact ⟨by rw[p,(x.keep b o' hb gI).1,e],z⟩
theorem Exc.ground{r:Role->Prop}(x:Exc r g h g' h')(hr:¬r .frozen)(y:Ground h₀ g h):Ground h₀ g' h':=λb o e=>(x.up hr).fr b o (y b o e).1 (y b o e).2
theorem nG.exc{r:Role->Prop}{loc:List (Str×LV)}(y:nG cx env cv g loc h)(x:Exc r g h g' h')(hr:¬r .frozen)(h1:¬r (.loc env.locals))(h2:∀f' z,¬r (.cell f' z))(h3:∀f' z,¬r (.own f' z))
  (h4:∀z,gY env.locals cx.ro z->z≠.fy->¬r z):nG cx env cv g' loc h' where
 kinds:=y.kinds
 kind:=y.kind
 glob:=y.glob
 blt:=y.blt
 role:=by refine bz y.vars λm n Z=>?_;refine cg (nF n) λo ho=>?_;rw[(x.keep _ o (by rw[y.role];exact h1) ho).1,y.role]
 vars:=by
  refine bz y.vars λm n hv=>?_;refine ⟨m,qV n λo e=>(x.keep _ o (by rw[y.role];exact h1) e).2,λz lv hl a b c=>?_⟩;refine bz (hv z lv hl a b c) λv p q=>?_;refine ⟨v,?_,?_⟩
  ·refine p.map (λZ p=>p) (λk c₀ e g8=>?_) λk c₀ e wX Dc=>?_
   ·revert g8;refine gp λo ho hd=>?_;refine qv (y.cells z k) λc' ov lX e' pN je hle Z=>?_;obtain rfl:c'=c₀:=by rw[e]at e';exact (aY e').symm
    exact ⟨c',e,o,(x.keep _ o (by rw[je];exact h2 _ _) ho).2,hd⟩
   ·revert wX;refine gp λo ho hd=>?_;revert Dc;refine sQ λDO y' dH je=>?_;have:=x.keep c₀ o (by rw[je];exact h2 _ _) ho;exact ⟨c₀,e,⟨o,this.2,hd⟩,DO,y',dH,by rw[this.1,je]⟩
  ·induction lv using LV.casesOn with
   | v V=>exact (x.up hr).v q
   | own V=>
    revert q;refine mu λe r' c=>?_;refine cg c.get λo ho=>?_;have hx:¬r (g.ρ (cv z)):=by rw[r'];exact h3 _ _
    exact ⟨e,by rw[(x.keep _ o hx ho).1,r'],x.cont hr hx c⟩
   | bor V=>revert q;refine gz λb e hb c=>?_;refine cg c.get λo ho=>?_;exact ⟨b,e,by rw[(x.keep _ o (h4 _ hb.1 hb.2) ho).1];exact hb,x.cont hr (h4 _ hb.1 hb.2) c⟩
 cells:=λz k=>by
  refine qv (y.cells z k) λc' ov lX e' g8 je hle hc=>?_;revert g8;refine gp λo ho hd=>?_;have:=x.keep c' o (by rw[je];exact h2 _ _) ho;exact ⟨c',ov,lX,e',⟨o,this.2,hd⟩,by rw[this.1,je],hle,hc⟩
 comp:=y.comp
 inner:=y.inner
theorem lS.exc{r:Role->Prop}(y:lS g σ h)(x:Exc r g h g' h')(hr:¬r .frozen)(h1:∀n,¬r (.dict n))(h2:∀n k,¬r (.cont n k))(hc:∀n k,n<σ.length->g'.cs n k=g.cs n k):lS g' σ h':=
 ⟨by rw[x.lay];exact y.len,λn e o a b=>(y.at_ n e o (by rw[<-x.lay];exact a) b).keep (x.up hr)
  (λd o p q=>by have:=x.keep d o (by rw[p];exact h1 _) q;exact ⟨this.1.trans p,this.2⟩)
  (λk=>hc n k (bF.mp b).1) (λd o k p q=>by have:=x.keep d o (by rw[p];exact h2 _ _) q;exact ⟨this.1.trans p,this.2⟩)⟩
noncomputable def G.role(g:G)(h:Heap)(ρ':Addr->Role):G:={g with ρ:=λb=>if (h.get? b).isSome then g.ρ b else ρ' b}
theorem G.mO{ρ':Addr->Role}{b:Addr}{o:Obj}(e:h.get? b=some o):(g.role h ρ').ρ b=g.ρ b:=aq (by rw[e];rfl)
theorem G.lq{ρ':Addr->Role}{b:Addr}(e:h.get? b=none):(g.role h ρ').ρ b=ρ' b:=au (by rw[e];decide)
theorem new_of_ge{b:Addr}(e:h.objs.size<=b):h.get? b=none:=by
 cases q:h.get? b with
 | none=>rfl
 | some o=>exact absurd (cJ q) (Nat.not_lt.mpr e)
theorem Exc.add(keep:∀b o,h.get? b=some o->h'.get? b=some o)(ρ':Addr->Role):Exc (λZ=>False) g h (g.role h ρ') h':=
 ⟨λb o Z e=>⟨G.mO e,keep b o e⟩,rfl⟩
theorem ext(R:Rel cx env cv g st s)(same:∃h' tk,s'={s with heap:=h',toks:=tk})(keep:∀b o,s.heap.get? b=some o->s'.heap.get? b=some o)(ρ':Addr->Role) :
  Step f ro rb g st.aD s (g.role s.heap ρ') st.aD s'/\Rel cx env cv (g.role s.heap ρ') st s':=
 have x:=Exc.add (g:=g) keep ρ'
 ⟨⟨same,λb o e=>⟨o,keep b o e⟩,λb o e Z=>keep b o e,λb o hb=>.inl (G.mO hb),⟨[],by simp[G.role]⟩,λZ Z Z Z=>rfl,λZ=>rfl,az _⟩,
  x.ground id R.ground,R.loc.exc x id id (λZ Z=>id) (λZ Z=>id) (λZ Z Z=>id),R.aD.exc x id (λZ=>id) (λZ Z=>id) (λZ Z Z=>rfl)⟩
theorem Rel.tok(R:Rel cx env cv g st s)(t:Nat):Rel cx env cv g st {s with toks:=t}:=⟨R.ground,R.loc,R.aD⟩
noncomputable def jg(V:MV)(b a:Addr):Bool:=a==b||(match V with | .inst _ _=>a+1==b | _=>false)
def G.tag(g:G)(V:MV)(b:Addr)(r:Role):G:={g with ρ:=λa=>if jg V b a then r else g.ρ a}
theorem n5(g:G)(V:MV)(b:Addr)(r:Role):(g.tag V b r).ρ b=r:=by simp[G.tag,jg]
theorem Oc(g:G)(c:Addr)(fs:List (Str×MV))(d:Addr)(r:Role):(g.tag (.inst c fs) (d+1) r).ρ d=r:=by simp[G.tag,jg]
theorem dM.other{b:Addr}{V:MV}(c:dM g h b V){a:Addr}(ha:jg V b a=true):g.ρ a=g.ρ b:=by
 skip;refine bu (b5.mp ha) (λe=>?_) λe=>?_
 ·rw[bK.mp e]
 ·cases (c) with
  | inst e1 e2=>have:a=_:=dc ((bK.mp e).trans e1);rw[this];exact e2
  | _=>exact b7 e
theorem BF{V:MV}{b a:Addr}{r:Role}(c:dM g h b V)(ha:g.ρ a≠g.ρ b):(g.tag V b r).ρ a=g.ρ a:=by
 unfold G.tag;dsimp only;cases e:jg V b a with
 | false=>rfl
 | true=>exact absurd (c.other e) ha
theorem dM.exc{b:Addr}{V:MV}(c:dM g h b V)(r:Role):Exc (λz=>z=g.ρ b) g h (g.tag V b r) h:=
 ⟨λa o ha e=>⟨BF c ha,e⟩,rfl⟩
theorem dM.tag{b:Addr}{V:MV}(c:dM g h b V)(r:Role)(hf:g.ρ b≠.frozen):dM (g.tag V b r) h b V:=by
 have x:=(c.exc r).up (λe=>hf e.symm);cases (c) with
 | lst i q=>exact .lst i (x.l q)
 | lK y d q=>exact .lK y d (x.p q)
 | mw y k d q=>exact .mw y k d (x.p q)
 | mz y d q=>exact .mz y d (x.k q)
 | inst e1 e2 e3 e4 e5 e6 e7 ef e8 e9 qB=>subst e1;exact .inst rfl (by rw[n5,Oc]) e3 e4 e5 e6 e7 ef e8 e9 λk V q=>x.v (qB k V q)
theorem jO.UX{kvs:List (Int×Value)}{es:List (MV×MV)}(r:jO g h MV.int kvs es):lJ (λa=>g.ρ a=.frozen) h g.ι kvs es:=by
 induction r with
 | nil=>exact .nil
 | cons v _ ih=>exact .cons v ih
theorem lJ.UY{kvs:List (Int×Value)}{es:List (MV×MV)}(r:lJ (λa=>g.ρ a=.frozen) h g.ι kvs es):jO g h MV.int kvs es:=by
 induction es generalizing kvs with
 | nil=>cases (r);exact .nil
 | cons e es ih=>
  cases (r) with
  | cons v r=>exact .cons v (ih r)
theorem AM{K K':Type}[DecidableEq K][DecidableEq K']{knd:KeyKind prog w K}{UZ:KeyKind prog w K'}{d:Addr}(x:h.DictOf knd d []):h.DictOf UZ d []:=by revert x;refine uT λo es ep a b c e p n=>?_;obtain ⟨l⟩:=es;cases (p);exact ⟨o,#[],ep,a,b,c,λZ he=>by simp at he,.nil,List.nodup_nil⟩
theorem AX{K:Type}[DecidableEq K]{knd:KeyKind prog w K}{d:Addr}(x:Keyed h d []):h.DictOf knd d []:=by revert x;refine zC λo es ep a b c e n=>?_;obtain ⟨l⟩:=es;have e:l=[]:=e;subst e;exact ⟨o,#[],ep,a,b,c,λZ he=>by simp at he,.nil,List.nodup_nil⟩
theorem FA{K:Type}[DecidableEq K]{knd:KeyKind prog w K}{d:Addr}(x:h.DictOf knd d []):Keyed h d []:=by revert x;refine uT λo es ep a b c e p n=>?_;obtain ⟨l⟩:=es;cases (p);exact ⟨o,#[],ep,a,b,c,rfl,List.nodup_nil⟩
theorem dM.frozen{b:Addr}{V:MV}(c:dM g h b V)(hf:g.ρ b=.frozen)(hc:oU V=true):RV g h (.ref b) V:=by
 cases (c) with
 | lst i q=>(revert i;refine gh λn e=>?_);exact .lst hf e rfl rfl q
 | lK y d q=>exact .bO hf y d q.UX
 | mw y k d q=>
  cases (q) with
  | nil=>exact .bO hf y (AM d) .nil
  | cons v r=>exact b7 (aG.mp hc _ (.head _))
 | mz y d q=>
  cases (q) with
  | nil=>exact .bO hf y (AX d) .nil
  | cons k t a v r=>(revert t;refine gh λys bA=>?_;obtain rfl:=bA);exact b7 (aG.mp hc _ (.head _))
 | inst e1 e2 e3 e4 e5 e6 e7 ef e8 e9 qB=>exact .inst hf (e2.trans hf) e1 e3 e4 e5 e6 e7 ef e8 e9 qB
theorem Rel.tag{b:Addr}{V:MV}(R:Rel cx env cv g st s)(c:dM g s.heap b V)(ht:g.ρ b=.fy)(r:Role):Rel cx env cv (g.tag V b r) st s:=
 have x:=c.exc r;have n:¬(Role.frozen=g.ρ b):=by rw[ht];exact dS rfl
 ⟨x.ground n R.ground,R.loc.exc x n (by rw[ht];exact dS rfl) (λZ Z=>by rw[ht];exact dS rfl) (λZ Z=>by rw[ht];exact dS rfl) (λz Z q=>by rw[ht];exact q),
  R.aD.exc x n (λZ=>by rw[ht];exact dS rfl) (λZ Z=>by rw[ht];exact dS rfl) (λZ Z Z=>rfl)⟩
def mS(H:Heap)(V:MV)(b:Addr):Prop:=∀a,jg V b a=true->H.get? a=none
theorem Step.tag{b:Addr}{V:MV}(x:Step f ro rb g σ s g' σ' s')(hb:mS s.heap V b)(r:Role):Step f ro rb g σ s (g'.tag V b r) σ' s':=
 ⟨x.same,x.live,x.keep,λa o ha=>by
  have:jg V b a=false:=by
   cases e:jg V b a with
   | false=>rfl
   | true=>rw[hb a e]at ha;exact aM ha
  show (if jg V b a then r else g'.ρ a)=_\/_;rw[this];exact x.role a o ha,x.lay,x.cs,x.aD,x.len⟩
theorem vA{n:Nat}{k:Str}{x:eO}(e:getSlot σ n k=some x):∃o,σ[n]?=some o/\look o.fs k=some x:=Option.bind_eq_some_iff.mp e
theorem EW{n:Nat}{k:Str}{x:eO}(e:setSlot σ n k x=some σ'):∃o,σ[n]?=some o/\σ'=σ.set n {o with fs:=put o.fs k x}:=by revert e;refine eZ λo a b=>?_;exact ⟨o,a,b.symm⟩
theorem lS.obj{n:Nat}{o:kR}(R:lS g σ h)(e:σ[n]?=some o):∃a,g.ι[n]?=some a/\oi g h n a o:=by have hn:=(bF.mp e).1;rw[<-R.len]at hn;exact ⟨g.ι[n],cB hn,R.at_ n _ o (cB hn) e⟩
theorem lB.keep{n:Nat}{k:Str}{x:eO}{v:Value}(b:lB g h n k x v)(u:Up g h g' h')(hc:g'.cs n k=g.cs n k)(kc:∀d o,g.ρ d=.cont n k->h.get? d=some o->g'.ρ d=.cont n k/\h'.get? d=some o):lB g' h' n k x v:=by
 induction x using eO.casesOn with
 | v V=>exact u.v b
 | c V=>
  revert b;refine mu λb1 b2 b3=>?_;refine cg b3.get λo' gI=>?_;have h2:=kc _ o' b2 gI;refine ⟨by rw[hc];exact b1,by rw[hc];exact h2.1,?_⟩;rw[hc];exact b3.keep u λd o e q=>by
   have h1:=kc d o (e.trans b2) q;exact ⟨h1.1.trans h2.1.symm,h1.2⟩
theorem Slots.get{n:Nat}{m:Str->Option Value}{fs:List (Str×eO)}(S:Slots g h n m fs){k:Str}{x:eO}(e:look fs k=some x):∃v,m k=some v/\lB g h n k x v:=by have T:=S k;rw[e]at T;exact T
theorem Slots.none{n:Nat}{m:Str->Option Value}{fs:List (Str×eO)}(S:Slots g h n m fs){k:Str}(e:look fs k=Option.none):m k=Option.none:=by have T:=S k;rw[e]at T;exact T
theorem Slots.put{n:Nat}{m m':Str->Option Value}{fs:List (Str×eO)}{k:Str}{x:eO}{v:Value}(S:Slots g h n m fs)(hk:∀k' y u,k'≠k->lB g h n k' y u->lB g' h' n k' y u)
  (hm:∀k',k'≠k->m' k'=m k') (hv:m' k=some v) (hs:lB g' h' n k x v):Slots g' h' n m' (Mine.put fs k x):=by
 intro k';show match look (Mine.put fs k x) k' with | .none=>m' k'=Option.none | some s=>∃v,m' k'=some v/\lB g' h' n k' s v
 rw[nZ];by_cases e:k=k'
 ·subst e;rw[aq rfl];exact ⟨v,hv,hs⟩
 ·rw[au e];have e':k'≠k:=λq=>e q.symm;have T:=S k';cases q:look fs k' with
  | none=>rw[q]at T;show m' k'=_;rw[hm _ e'];exact T
  | some y=>rw[q]at T;(revert T;refine gp λu a b=>?_);exact ⟨u,by rw[hm _ e'];exact a,hk _ _ _ e' b⟩
theorem yg{b:Addr}{r:Role}(hs:Heap.SameBut b h h')(hb:g.ρ b=r):Exc (·=r) g h g h':=
 ⟨λd o hd e=>⟨rfl,by rw[hs.2 d (λq=>hd (by rw[q];exact hb))];exact e⟩,rfl⟩
theorem yv{b:Addr}(hs:Heap.SameBut b h h')(hb:∃o,h'.get? b=some o):∀d o,h.get? d=some o->∃o',h'.get? d=some o':=λd o e=>by
 by_cases q:d=b
 ·rw[q];exact hb
 ·exact ⟨o,(hs.2 d q).trans e⟩
theorem set_slot{n:Nat}{k:Str}{X V:MV}{tk:Nat}(R:Rel cx env cv g st s)(gg:cx.ro=false)(hx:getSlot st.aD n k=some (.c X))(hs:Heap.SameBut (g.cs n k) s.heap h')(hc:dM g h' (g.cs n k) V)
  (ng:setSlot st.aD n k (.c V)=some σ') :
  Step env.locals cx.ro rb g st.aD s g σ' {s with heap:=h',toks:=tk}/\Rel cx env cv g {st with aD:=σ'} {s with heap:=h',toks:=tk}:=by
 refine bz (vA hx) λo ho hk=>?_;refine bz (EW ng) λo' gI bZ=>?_;obtain rfl:=bZ;obtain rfl:o=o':=by rw[ho]at gI;exact aY gI
 refine bz (R.aD.obj ho) λe he ob=>?_;have hr:g.ρ (g.cs n k)=.cont n k:=by
  cases (ob) with
  | inst a1 a2 a3 a4 a5 a6 a7 af S=>(refine bz (S.get hk) λv Z q=>?_);exact q.2.1
  | dict a1 a2 a3 S=>(refine bz (S.get hk) λv Z q=>?_);exact q.2.1
 have x:=yg (g:=g) hs hr;have nf:¬(Role.frozen=.cont n k):=dS rfl;have u:=x.up nf;refine ⟨⟨⟨h',tk,rfl⟩,yv hs hc.get,λb o e hb=>?_,λZ Z Z=>.inl rfl,⟨[],by simp⟩,λZ Z Z Z=>rfl,λq=>(by rw[gg]at q;exact b7 q),by simp⟩,x.ground nf R.ground,
  R.loc.exc x nf (dS rfl) (λZ Z=>dS rfl) (λZ Z=>dS rfl) (λz hz Z q=>by subst q;rw[gg]at hz;exact b7 hz),?_⟩
 ·exact (x.keep b o (λq=>by rw[q,gg]at hb;exact b7 hb) e).2
 ·refine ⟨by rw[List.length_set];exact R.aD.len,λn' e' o' h1 h2=>?_⟩;by_cases hn:n'=n
  ·subst hn;have dH:=(bF.mp ho).1;simp only[List.getElem?_set_self dH,Option.some.injEq]at h2;subst h2;obtain rfl:e=e':=by rw[he]at h1;exact aY h1
   have kc:∀k',k'≠k->∀d o,g.ρ d=.cont n' k'->s.heap.get? d=some o->g.ρ d=.cont n' k'/\h'.get? d=some o:=λk' iX d o q z=>
    ⟨q,(x.keep d o (λq'=>by rw[q]at q';injection q' with _ q';exact iX q') z).2⟩
   have kd:∀d o,g.ρ d=.dict n'->s.heap.get? d=some o->h'.get? d=some o:=λd o q z=>(x.keep d o (λq'=>by rw[q]at q';injection q') z).2;cases (ob) with
   | inst a1 a2 a3 a4 a5 a6 a7 af S=>refine bz (S.get hk) λv hm q=>?_;exact .inst a1 a2 (u.fr _ _ a1 a3).2 a4 a5 a6 (a7.at λo=>kd _ o a2) (λk' q=>by rw[nZ,au (λe=>by subst e;rw[af _ q]at hk;exact aM hk)];exact af k' q) (S.put (λk' y v' iX z=>z.keep u rfl (kc k' iX)) (λZ Z=>rfl) hm ⟨q.1,hr,hc⟩)
   | dict a1 a2 a3 S a5=>refine bz (S.get hk) λv hm q=>?_;exact .dict a1 a2 (oW a3 λo=>kd _ o a2) (S.put (λk' y v' iX z=>z.keep u rfl (kc k' iX)) (λZ Z=>rfl) hm ⟨q.1,hr,hc⟩) a5
  ·rw[List.getElem?_set_ne (λq=>hn q.symm)]at h2;exact (R.aD.at_ n' e' o' h1 h2).keep u (λd o q z=>⟨q,(x.keep d o (λq'=>by rw[q]at q';injection q') z).2⟩) (λZ=>rfl)
    (λd o k' q z=>⟨q,(x.keep d o (λq'=>by rw[q]at q';injection q' with q' _;exact hn q') z).2⟩)
noncomputable def G.oj(g:G)(n:Nat)(k:Str)(b:Addr):G:={g with cs:=λn' k'=>if n'=n/\k'=k then b else g.cs n' k'}
theorem G.yh(g:G)(n:Nat)(k:Str)(b:Addr):(g.oj n k b).cs n k=b:=aq ⟨rfl,rfl⟩
theorem G.Ba(g:G){n n':Nat}{k k':Str}(b:Addr)(h:¬(n'=n/\k'=k)):(g.oj n k b).cs n' k'=g.cs n' k':=au h
theorem YC{n:Nat}{k:Str}{b:Addr}{v:Value}{V:MV}:RV (g.oj n k b) h v V↔RV g h v V:=Iff.rfl
theorem Od{n:Nat}{k:Str}{b:Addr}:Up g h (g.oj n k b) h:=⟨λZ Z a b=>⟨a,b⟩,λZ Z e=>e⟩
theorem Up.trans{bM bW jk:G}{h₁ iz Jw:Heap}(x:Up bM h₁ bW iz)(y:Up bW iz jk Jw):Up bM h₁ jk Jw:=⟨λa o e q=>y.fr a o (x.fr a o e q).1 (x.fr a o e q).2,λn e q=>y.lay n e (x.lay n e q)⟩
theorem F7{n:Nat}{k:Str}{x:eO}{v:Value}{b:Addr}{tk:Nat}{o:kR}{e:OA}(R:Rel cx env cv g st s)(gg:cx.ro=false)(ho:st.aD[n]?=some o)(he:g.ι[n]?=some e)
  (hs:Heap.SameBut e.d s.heap h') (wF:∃o,h'.get? e.d=some o) (gF:rb=true\/b=g.cs n k) (ng:setSlot st.aD n k x=some σ') (hd:g.ρ e.d=.dict n)
  (jr:(∀k' y u,k'≠k->lB g s.heap n k' y u->lB (g.oj n k b) h' n k' y u)->(g.ρ e.a=.frozen->∀o,s.heap.get? e.a=some o->h'.get? e.a=some o)->oi (g.oj n k b) h' n e {o with fs:=put o.fs k x}) :
  Step env.locals cx.ro rb g st.aD s (g.oj n k b) σ' {s with heap:=h',toks:=tk}/\Rel cx env cv (g.oj n k b) {st with aD:=σ'} {s with heap:=h',toks:=tk}:=by
 refine bz (EW ng) λo' gI bZ=>?_;obtain rfl:=bZ;obtain rfl:o=o':=by rw[ho]at gI;exact aY gI
 have nf:¬(Role.frozen=.dict n):=dS rfl;have jb:=yg (g:=g) hs hd;have rq:Exc (·=.dict n) g s.heap (g.oj n k b) h':=⟨λd o q z=>⟨rfl,(jb.keep d o q z).2⟩,rfl⟩;have u:=rq.up nf;refine ⟨⟨⟨h',tk,rfl⟩,yv hs wF,λb o e hb=>?_,λZ Z Z=>.inl rfl,⟨[],by simp[G.oj]⟩,λq n' k' Z=>?_,λq=>(by rw[gg]at q;exact b7 q),by simp⟩,rq.ground nf R.ground,
  R.loc.exc rq nf (dS rfl) (λZ Z=>dS rfl) (λZ Z=>dS rfl) (λz hz Z q=>by subst q;rw[gg]at hz;exact b7 hz),?_⟩
 ·exact (jb.keep b o (λq=>by rw[q,gg]at hb;exact b7 hb) e).2
 ·(revert gF;refine eS (λcF=>?_) (λcF=>?_)<;>obtain rfl:=cF)
  ·(revert q;refine eS (λq=>?_) λq=>?_)
   ·rw[gg]at q;exact b7 q
   ·injection q
  ·by_cases z:n'=n/\k'=k
   ·(revert z;refine gj λbA iW=>?_;obtain rfl:=bA;obtain rfl:=iW);exact G.yh ..
   ·exact G.Ba _ _ z
 ·refine ⟨by rw[List.length_set];exact R.aD.len,λn' e' o' h1 h2=>?_⟩;by_cases hn:n'=n
  ·subst hn;have dH:=(bF.mp ho).1;simp only[List.getElem?_set_self dH,Option.some.injEq]at h2;subst h2;obtain rfl:e=e':=by have h1:g.ι[n']?=some e':=h1;rw[he]at h1;exact aY h1
   refine jr (λk' y u' iX z=>z.keep u (G.Ba _ _ λq=>iX q.2) λd o q z=>⟨q,(jb.keep d o (λq'=>by rw[q]at q';injection q') z).2⟩) λq o z=>(jb.keep _ o (λq'=>by rw[q]at q';injection q') z).2
  ·rw[List.getElem?_set_ne (λq=>hn q.symm)]at h2;exact (R.aD.at_ n' e' o' h1 h2).keep u (λd o q z=>⟨q,(jb.keep d o (λq'=>by rw[q]at q';injection q' with q';exact hn q') z).2⟩) (λZ=>G.Ba _ _ λq=>hn q.1)
    (λd o k' q z=>⟨q,(jb.keep d o (λq'=>by rw[q]at q';injection q') z).2⟩)
theorem nG.one{r:Role}{loc:List (Str×LV)}{x:Str}{lv:LV}{v:Value}{m m':Str->Option Value}(y:nG cx env cv g loc h)(e:Exc (·=r) g h g' h')(nf:r≠.frozen)
  (hn:h.Ns env.locals m) (hv:Jv cx env cv g loc h m)
  (pO:h'.Ns env.locals m') (hl:g'.ρ env.locals=.loc env.locals) (hm:∀z,z≠x->m' z=m z) (DP:∀z,z≠x->f7 z=cv z) (dJ:cx.comp=false)
  (sD:∀z c ov,env.kindOf z=some .cell->env.cells.lookup z=some c->h.IsCell c ov->g.ρ c=.cell env.locals z->(z≠x->h'.IsCell c ov/\g'.ρ c=.cell env.locals z)/\(z=x->∃vc,h'.IsCell c vc/\g'.ρ c=.cell env.locals z))
  (wY:∀z,z≠x->r≠.own env.locals z) (zE:∀z,gY env.locals cx.ro z->z≠.fy->z≠r)
  (jr:env.kindOf x≠some .globalImplicit->env.kindOf x≠some .globalExplicit->env.kindOf x≠none->lV g' env m' h' x v/\LVal env.locals cx.ro f7 g' h' x lv v):nG cx env f7 g' (put loc x lv) h' where
 kinds:=y.kinds
 kind:=y.kind
 glob:=y.glob
 blt:=y.blt
 role:=hl
 vars:=by
  refine ⟨m',pO,λz lz hz a b c=>?_⟩;rw[nZ]at hz;by_cases q:x=z
  ·subst q;rw[aq rfl]at hz;exists hz;exact ⟨v,jr a b c⟩
  ·rw[au q]at hz;have q':z≠x:=λe=>q e.symm;refine bz (hv z lz hz a b c) λu p l=>?_;refine ⟨u,?_,?_⟩
   ·refine p.map (λk p=>(hm z q').trans p) (λk c₀ sR ic=>?_) λk=>absurd k (y.comp dJ z);refine qv (y.cells z k) λc' ov lX e' pN je Z tw=>?_;obtain rfl:=tw dJ;obtain rfl:c'=c₀:=by rw[sR]at e';exact (aY e').symm
    exact ⟨c',sR,((sD z c' _ k sR ic je).1 q').1⟩
   ·have DQ:¬(Role.frozen=r):=λe=>nf e.symm;induction lz using LV.casesOn with
    | v V=>exact (e.up DQ).v l
    | own V=>
     revert l;refine mu λe1 e2 e3=>?_;have hx:¬(g.ρ (cv z)=r):=by rw[e2];exact λq=>wY z q' q.symm
     refine cg e3.get λo ho=>?_;show u=.ref (f7 z)/\g'.ρ (f7 z)=_/\_;rw[DP z q'];exact ⟨e1,by rw[(e.keep _ o hx ho).1,e2],e.cont DQ hx e3⟩
    | bor V=>revert l;refine gz λb e1 e2 e3=>?_;have hx:=zE _ e2.1 e2.2;refine cg e3.get λo ho=>?_;exact ⟨b,e1,by rw[(e.keep b o hx ho).1];exact e2,e.cont DQ hx e3⟩
 cells:=λz k=>by
  refine qv (y.cells z k) λc' ov lX e' pN je Z tw=>?_;obtain rfl:=tw dJ;by_cases q:z=x
  ·(refine bz ((sD z c' ov k e' pN je).2 q) λvc a b=>?_);exact ⟨c',vc,_,e',a,b,az _,λZ=>rfl⟩
  ·(refine cu ((sD z c' ov k e' pN je).1 q) λa b=>?_);exact ⟨c',ov,_,e',a,b,az _,λZ=>rfl⟩
 comp:=y.comp
 inner:=λq=>by rw[dJ]at q;exact b7 q
theorem set_own{x:Str}{X V:MV}{tk:Nat}{b:Addr}(R:Rel cx env cv g st s)(dJ:cx.comp=false)(hx:look st.loc x=some (.own X))(vd:env.kindOf x≠some .globalImplicit)(xB:env.kindOf x≠some .globalExplicit)(nU:env.kindOf x≠none)
  (hs:Heap.SameBut b s.heap h') (hb:g.ρ b=.own env.locals x) (wF:∃o,h'.get? b=some o) (hc:dM g h' (cv x) V) :
  Step env.locals cx.ro rb g st.aD s g st.aD {s with heap:=h',toks:=tk}/\Rel cx env cv g {st with loc:=put st.loc x (.own V)} {s with heap:=h',toks:=tk}:=by
 refine bz R.loc.vars λm hn hv=>?_;refine ji (hv x _ hx vd xB nU) λv va e1 e2 e3=>?_;have jb:=yg (g:=g) hs hb;have nf:¬(Role.frozen=.own env.locals x):=dS rfl;have ho:=R.loc.role;refine ⟨⟨⟨h',tk,rfl⟩,yv hs wF,λb o e hb=>?_,λZ Z Z=>.inl rfl,⟨[],by simp⟩,λZ Z Z Z=>rfl,λZ=>rfl,az _⟩,jb.ground nf R.ground,?_,
  R.aD.exc jb nf (λZ=>dS rfl) (λZ Z=>dS rfl) (λZ Z Z=>rfl)⟩
 ·exact (jb.keep b o (λq=>by rw[q]at hb;exact dD _ hb) e).2
 ·have cl:∀z c ov,env.kindOf z=some .cell->env.cells.lookup z=some c->s.heap.IsCell c ov->g.ρ c=.cell env.locals z->h'.IsCell c ov:=by intro z c ov _ _ ⟨o,ho,hd⟩ hr;exact ⟨o,(jb.keep c o (by rw[hr];exact dS rfl) ho).2,hd⟩
  refine R.loc.one jb (dS rfl) hn hv (qV hn λo e=>(jb.keep _ o (by rw[ho];exact dS rfl) e).2) ho (λZ Z=>rfl) (λZ Z=>rfl) dJ
   (λz c ov a b i r=>⟨λZ=>⟨cl z c ov a b i r,r⟩,λZ=>⟨ov,cl z c ov a b i r,r⟩⟩) (λz q e=>by injection e with _ e;exact q e.symm)
   (λz hz Z e=>by subst e;exact dD _ hz) (λZ Z Z=>⟨?_,e1,e2,hc⟩)
  refine va.map (λZ p=>p) (λk c₀ sR ic=>?_) λk=>absurd k (R.loc.comp dJ x);refine qv (R.loc.cells x k) λc' ov lX e' pN je Z tw=>?_;obtain rfl:=tw dJ;obtain rfl:c'=c₀:=by rw[sR]at e';exact (aY e').symm
  exact ⟨c',sR,cl x c' _ k sR ic je⟩
theorem AN{A:Around}{x:Str}{lv:LV}{v:Value}{b:Addr}(R:Rel cx env cv g st s)(dJ:cx.comp=false)(hk:env.kindOf x=some .local\/env.kindOf x=some .cell)
  (hl:∀h' f7,(∀z,f7 z=if z=x then b else cv z)->(∀d o,g.ρ d≠.loc env.locals->(∀y,g.ρ d≠.cell env.locals y)->s.heap.get? d=some o->h'.get? d=some o)->LVal env.locals cx.ro f7 g h' x lv v) :
  wpAny (model prog w) A (storeName env x v) (λZ s'=>Step env.locals cx.ro rb g st.aD s g st.aD s'/\Rel cx env (λz=>if z=x then b else cv z) g {st with loc:=put st.loc x lv} s') (λZ Z=>False) s:=by
 refine bz R.loc.vars λm hn hv=>?_;have ho:=R.loc.role;have Iw:∀r h' tk m',(∃d,Heap.SameBut d s.heap h'/\g.ρ d=r/\∃o,h'.get? d=some o)->(r=.loc env.locals\/r=.cell env.locals x)->h'.Ns env.locals m'->(∀z,z≠x->m' z=m z)->
   (∀z c ov,env.kindOf z=some .cell->env.cells.lookup z=some c->s.heap.IsCell c ov->g.ρ c=.cell env.locals z->(z≠x->h'.IsCell c ov/\g.ρ c=.cell env.locals z)/\(z=x->∃vc,h'.IsCell c vc/\g.ρ c=.cell env.locals z))->
   lV g env m' h' x v->
   Step env.locals cx.ro rb g st.aD s g st.aD {s with heap:=h',toks:=tk}/\Rel cx env (λz=>if z=x then b else cv z) g {st with loc:=put st.loc x lv} {s with heap:=h',toks:=tk}:=by
  intro r h' tk m' hd hr hm Wk sD Wl;revert hd;refine gz λd hs hd wF=>?_;have jb:=yg (g:=g) hs hd;have nf:¬(Role.frozen=r):=by (revert hr;refine eS (λcF=>?_) (λcF=>?_)<;>obtain rfl:=cF)<;>exact dS rfl
  have nt:∀n,¬(Role.dict n=r):=λn=>by (revert hr;refine eS (λcF=>?_) (λcF=>?_)<;>obtain rfl:=cF)<;>exact dS rfl
  have nc:∀n k,¬(Role.cont n k=r):=λn k=>by (revert hr;refine eS (λcF=>?_) (λcF=>?_)<;>obtain rfl:=cF)<;>exact dS rfl
  have Jx:∀z,gY env.locals cx.ro z->z≠r:=λz hz e=>by subst e;(revert hr;refine eS (λcF=>?_) (λcF=>?_)<;>obtain rfl:=cF)<;>exact dD _ hz
  refine ⟨⟨⟨h',tk,rfl⟩,yv hs wF,λb o e hb=>(jb.keep b o (Jx _ hb) e).2,λZ Z Z=>.inl rfl,⟨[],by simp⟩,λZ Z Z Z=>rfl,λZ=>rfl,az _⟩,jb.ground nf R.ground,?_,
   R.aD.exc jb nf nt nc (λZ Z Z=>rfl)⟩
  exact R.loc.one jb (λe=>nf e.symm) hn hv hm ho Wk (λz q=>au q) dJ sD (λz q e=>by (revert hr;refine eS (λcF=>?_) (λcF=>?_)<;>obtain rfl:=cF)<;>injection e) (λz hz Z=>Jx z hz)
   (λZ Z Z=>⟨Wl,hl h' _ (λZ=>rfl) λd o h1 h2 e=>(jb.keep d o (by (revert hr;refine eS (λcF=>?_) (λcF=>?_)<;>obtain rfl:=cF);exact h1;exact h2 x) e).2⟩)
 revert hk;refine eS (λhk=>?_) λhk=>?_
 ·refine wpAny_storeName_local hk hn (λh' hm hs=>Iw (.loc env.locals) h' _ _ ⟨_,hs,ho,nF hm⟩ (.inl rfl) hm (λz q=>au q) (λz c ov a b ⟨o,i,j⟩ r=>?_) ?_) (by rw[R.loc.kind];rfl)
  ·have:h'.IsCell c ov:=⟨o,(hs.2 c (λq=>by rw[q,ho]at r;injection r)).trans i,j⟩;exact ⟨λZ=>⟨this,r⟩,λZ=>⟨ov,this,r⟩⟩
  ·unfold lV;rw[hk];exact aq rfl
 ·refine qv (R.loc.cells x hk) λc ov lX hc ic hr Z tw=>?_;obtain rfl:=tw dJ;refine wpAny_storeName_cell R.loc.kind hk hc ic λh' pN hs=>Iw (.cell env.locals x) h' _ m ⟨c,hs,hr,let ⟨o,i,_⟩:=pN;⟨o,i⟩⟩ (.inr rfl) (hn.sameBut hs (λq=>by rw[<-q,ho]at hr;injection hr)) (λZ Z=>rfl) (λz c' vc a b ⟨o,i,j⟩ r=>?_) ?_
  ·refine ⟨λq=>⟨⟨o,(hs.2 c' (λq'=>?_)).trans i,j⟩,r⟩,λq=>?_⟩
   ·rw[q',hr]at r;injection r with _ r;exact q r.symm
   ·subst q;obtain rfl:c=c':=by rw[hc]at b;exact aY b
    exact ⟨_,pN,r⟩
  ·unfold lV;rw[hk];exact ⟨c,hc,pN⟩
theorem MT{loc:List (Str×LV)}{x z:Str}{lv:LV}(e:look (uE loc x) z=some lv):z≠x/\look loc z=some lv:=by
 induction loc with
 | nil=>exact aM e
 | cons p r ih=>
  rcases p with ⟨y,u⟩
  simp only[uE]at e;by_cases h:y=x
  ·simp only[h,decide_true,if_true]at e;refine cu (ih e) λa b=>?_;refine ⟨a,?_⟩;simp only[jX,h,show ¬x=z from λq=>a q.symm,decide_false,Bool.false_eq_true,if_false];exact b
  ·simp only[h,decide_false,Bool.false_eq_true,if_false,jX]at e;by_cases h2:y=z
   ·subst h2;simp only[decide_true,if_true]at e;exact ⟨h,by simp only[jX,decide_true,if_true];exact e⟩
   ·simp only[h2,decide_false,Bool.false_eq_true,if_false]at e;refine cu (ih e) λa b=>?_;exact ⟨a,by simp only[jX,h2,decide_false,Bool.false_eq_true,if_false];exact b⟩
theorem qa{x:Str}(h:env.kindOf x=some .local\/env.kindOf x=some .cell):env.kindOf x≠some .globalImplicit/\env.kindOf x≠some .globalExplicit/\env.kindOf x≠none:=by (revert h;refine eS (λh=>?_) λh=>?_)<;>rw[h]<;>exact ⟨λe=>(nomatch e),λe=>(nomatch e),λe=>nomatch e⟩
theorem Rel.Iz{loc:List (Str×LV)}(R:Rel cx env cv g st s)(e:∀z lv,look loc z=some lv->look st.loc z=some lv):Rel cx env cv g {st with loc:=loc} s:=
 ⟨R.ground,⟨R.loc.kinds,R.loc.kind,R.loc.glob,R.loc.blt,R.loc.role,(let ⟨m,n,hv⟩:=R.loc.vars;⟨m,n,λx lv q=>hv x lv (e x lv q)⟩),R.loc.cells,R.loc.comp,λc x V q=>R.loc.inner c x V (e x _ q)⟩,R.aD⟩
theorem Fb{x:Str}{V:MV}(R:Rel cx env cv g st s)(dJ:cx.comp=false)(hx:look st.loc x=some (.own V))(vd:env.kindOf x≠some .globalImplicit)(xB:env.kindOf x≠some .globalExplicit)(nU:env.kindOf x≠none)(hc:oU V=true) :
  Step env.locals ro rb g st.aD s (g.tag V (cv x) .frozen) st.aD s/\Rel cx env cv (g.tag V (cv x) .frozen) {st with loc:=put st.loc x (.v V)} s/\RV (g.tag V (cv x) .frozen) s.heap (.ref (cv x)) V:=by
 refine bz R.loc.vars λm hn hv=>?_;refine ji (hv x _ hx vd xB nU) λv va e1 e2 e3=>?_;have jb:=e3.exc .frozen;rw[e2]at jb;have nf:¬(Role.frozen=.own env.locals x):=dS rfl;have cf:=e3.tag .frozen (by rw[e2];exact dS rfl);have rv:=cf.frozen (n5 ..) hc;have oJ:∀b,g.ρ b≠.own env.locals x->(g.tag V (cv x) .frozen).ρ b=g.ρ b:=λb q=>BF e3 (by rw[e2];exact q);have ho:=R.loc.role;refine ⟨⟨⟨_,_,rfl⟩,λZ o e=>⟨o,e⟩,λZ Z e Z=>e,λb Z Z=>?_,⟨[],by simp[G.tag]⟩,λZ Z Z Z=>rfl,λZ=>rfl,az _⟩,⟨jb.ground nf R.ground,?_,R.aD.exc jb nf (λZ=>dS rfl) (λZ Z=>dS rfl) (λZ Z Z=>rfl)⟩,rv⟩
 ·cases t:jg V (cv x) b with
  | false=>exact .inl (by show (if jg V (cv x) b then _ else _)=_;rw[t];rfl)
  | true=>exact .inr ⟨_,x,az _,(e3.other t).trans e2⟩
 ·refine R.loc.one (v:=v) jb (dS rfl) hn hv hn (by rw[oJ _ (by rw[ho];exact dS rfl)];exact ho) (λZ Z=>rfl) (λZ Z=>rfl) dJ (λz c ov a b i r=>?_) (λz q e=>by injection e with _ e;exact q e.symm)
   (λz hz Z e=>by subst e;exact dD _ hz) (λZ Z Z=>⟨?_,by rw[e1];exact rv⟩)
  ·have:(g.tag V (cv x) .frozen).ρ c=.cell env.locals z:=by rw[oJ _ (by rw[r];exact dS rfl)];exact r
   exact ⟨λZ=>⟨i,this⟩,λZ=>⟨ov,i,this⟩⟩
  ·exact va.map (λZ p=>p) (λZ c e i=>⟨c,e,i⟩) λk=>absurd k (R.loc.comp dJ x)
def fW(lo:Heap)(g:G)(h:Heap)(V:MV)(v:Value):Prop:=
 if ly V then ∃b,v=.ref b/\mS lo V b/\g.ρ b=.fy/\dM g h b V else RV g h v V
theorem fW.cont{lo:Heap}{V:MV}{v:Value}(t:fW lo g h V v)(e:ly V=true):∃b,v=.ref b/\mS lo V b/\g.ρ b=.fy/\dM g h b V:=by unfold fW at t;rw[aq e]at t;exact t
theorem fW.plain{lo:Heap}{V:MV}{v:Value}(t:fW lo g h V v)(e:ly V=false):RV g h v V:=by unfold fW at t;rw[au (by rw[e];decide)]at t;exact t
theorem fW.of{lo:Heap}{V:MV}{b:Addr}(h1:mS lo V b)(h2:g.ρ b=.fy)(c:dM g h b V):fW lo g h V (.ref b):=by unfold fW;rw[aq (by cases (c)<;>rfl)];exact ⟨b,rfl,h1,h2,c⟩
def fc(env:Env)(ro:Bool)(cv:Str->Addr)(lo:Heap)(g:G)(h:Heap):EV->Value->Prop
 | .val V,v=>RV g h v V
 | .fresh V,v=>fW lo g h V v
 | .cont (.slot n k),v=>v=.ref (g.cs n k)/\n<g.ι.length
 | .cont (.var x),v=>v=.ref (cv x)/\(env.kindOf x=some .local\/env.kindOf x=some .cell)
 | .bor V,v=>xA env.locals ro g h V v
noncomputable def rY:EV->Bool
 | .cont (.slot ..)=>true
 | _=>false
theorem mS.old{H H':Heap}{V:MV}{b:Addr}(x:mS H V b)(e:∀b o,H'.get? b=some o->∃o',H.get? b=some o'):mS H' V b:=λa q=>by
 cases z:H'.get? a with
 | none=>rfl
 | some o=>(refine cg (e a o z) λo' z'=>?_);rw[x a q]at z';exact aM z'
theorem fW.lo{lo lo':Heap}{V:MV}{v:Value}(t:fW lo g h V v)(e:∀b o,lo'.get? b=some o->∃o',lo.get? b=some o'):fW lo' g h V v:=by
 unfold fW at t |-;split
 ·rename_i q;rw[aq q]at t;(revert t;refine gz λb h1 h2 h3=>?_);exact ⟨b,h1,h2.old e,h3⟩
 ·rename_i q;rw[au q]at t;exact t
theorem fc.lo{lo lo':Heap}{a:EV}{v:Value}(t:fc env ro cv lo g h a v)(e:∀b o,lo'.get? b=some o->∃o',lo.get? b=some o'):fc env ro cv lo' g h a v:=by
 induction a using EV.casesOn with
 | fresh V=>exact fW.lo t e
 | cont l=>induction l using Loc.casesOn<;>exact t
 | _=>exact t
theorem Step.fy{lo:Heap}{V:MV}{v:Value}(x:Step f ro rb g σ s g' σ' s')(t:fW lo g s.heap V v):fW lo g' s'.heap V v:=by
 unfold fW at t |-;split
 ·rename_i q;rw[aq q]at t;revert t;refine ow λb h1 h2 h3 h4=>?_;have hf:gY f ro (g.ρ b):=by rw[h3];trivial
  exact ⟨b,h1,h2,by rw[x.fix h4.get hf,h3],x.cont hf h4⟩
 ·rename_i q;rw[au q]at t;exact x.up.v t
theorem fc.step{lo:Heap}{a:EV}{v:Value}(t:fc env ro cv lo g s.heap a v)(x:Step env.locals ro rb g σ s g' σ' s')(hl:g.ι.length=σ.length)(hs:rY a=false\/(ro=true\/rb=false)):fc env ro cv lo g' s'.heap a v:=by
 induction a using EV.casesOn with
 | val V=>exact x.up.v t
 | fresh V=>exact x.fy t
 | bor V=>exact x.bor t
 | cont l=>
  induction l using Loc.casesOn with
  | var y=>exact t
  | slot n k=>
   revert hs;refine eS (λe=>?_) λe=>?_
   ·injection e
   ·refine cg x.lay λex hx=>?_;exact ⟨by rw[x.cs e n k (hl▸t.2)];exact t.1,by rw[hx,ay];exact cC t.2 (cA _ _)⟩
inductive o6(g:G)(h:Heap)(b:Addr):MV->Prop
 | lst {vs:Array Value} {xs:List MV}:h.IsList b vs->RL g h vs.toList xs->o6 g h b (.lst xs)
 | of {V:MV}:dM g h b V->o6 g h b V
theorem o6.list{b:Addr}{xs:List MV}(c:o6 g h b (.lst xs)):∃vs:Array Value,h.IsList b vs/\RL g h vs.toList xs:=by
 cases (c) with
 | lst i r=>exact ⟨_,i,r⟩
 | of c=>cases (c) with | lst i r=>exact ⟨_,i.isList,r⟩
theorem o6.bO{b:Addr}{es:List (MV×MV)}(c:o6 g h b (.bO es)):dM g h b (.bO es):=by cases (c) with | of c=>exact c
theorem o6.inst{b k:Addr}{es:List (Str×MV)}(c:o6 g h b (.inst k es)):dM g h b (.inst k es):=by cases (c) with | of c=>exact c
def RT(g:G)(h:Heap)(V:MV)(v:Value):Prop:=
 if ly V then ∃b,v=.ref b/\o6 g h b V else RV g h v V
theorem RT.wG{V:MV}{v:Value}(r:RV g h v V):RT g h V v:=by
 skip;cases (r) with
 | lst i e c d r=>exact ⟨_,rfl,.lst ⟨_,e,c,_,d⟩ r⟩
 | bO i y d r=>exact ⟨_,rfl,.of (.lK y d r.UY)⟩
 | inst i j e1 e c d n k nf n1 n2 r=>exact ⟨_,rfl,.of (.inst e1 (j.trans i.symm) e c d n k nf n1 n2 r)⟩
 | tup i e c d r=>exact .tup i e c d r
 | none=>exact .none
 | bool b=>exact .bool b
 | int i t=>exact .int i t
 | str t k=>exact .str t k
 | obj e=>exact .obj e
 | glob a=>exact .glob a
 | blt a k=>exact .blt a k
 | typ a=>exact .typ a
theorem RT.BG{V:MV}{b:Addr}(c:dM g h b V):RT g h V (.ref b):=by unfold RT;rw[aq (by cases (c)<;>rfl)];exact ⟨b,rfl,.of c⟩
theorem RT.plain{V:MV}{v:Value}(t:RT g h V v)(e:ly V=false):RV g h v V:=by unfold RT at t;rw[au (by rw[e];decide)]at t;exact t
theorem RT.cont{V:MV}{v:Value}(t:RT g h V v)(e:ly V=true):∃b,v=.ref b/\o6 g h b V:=by unfold RT at t;rw[aq e]at t;exact t
theorem MU{n:Nat}{k:Str}{V:MV}(R:lS g σ h)(e:getSlot σ n k=some (.c V)):g.ρ (g.cs n k)=.cont n k/\dM g h (g.cs n k) V:=by
 refine bz (vA e) λo ho hk=>?_;refine bz (R.obj ho) λa he ob=>?_;cases (ob) with
 | inst a1 a2 a3 a4 a5 a6 a7 af S=>(refine bz (S.get hk) λv Z q=>?_);exact q.2
 | dict a1 a2 a3 S=>(refine bz (S.get hk) λv Z q=>?_);exact q.2
def U8(env:Env)(cv:Str->Addr)(g:G)(b:Addr):Loc->Prop
 | .slot n k=>b=g.cs n k/\g.ρ b=.cont n k
 | .var x=>b=cv x/\g.ρ b=.own env.locals x
theorem pY{l:Loc}{V:MV}{v:Value}{lo:Heap}(R:Rel cx env cv g st s)(t:fc env cx.ro cv lo g s.heap (.cont l) v)
  (e:fZ st l=some V):∃b,v=.ref b/\dM g s.heap b V/\U8 env cv g b l:=by
 induction l using Loc.casesOn with
 | slot n k=>refine cu (MU R.aD (Mf e)) λa b=>?_;exact ⟨_,t.1,b,rfl,a⟩
 | var x=>
  have q:=AW e
  ·refine bz R.loc.vars λm hn hv=>?_;refine eg (qa t.2) λk1 k2 k3=>?_;refine ji (hv x _ q k1 k2 k3) λu Z e1 e2 e3=>?_;exact ⟨_,t.1,e3,rfl,e2⟩
noncomputable abbrev br:Value->Shared->Prop:=λZ Z=>False
theorem wm{α:Type}{M:Model}{A:Around}{c:Sem α}{Q R:α->Shared->Prop}{E:Value->Shared->Prop}{s:Shared}(h:wpAny M A c Q E s)(k:∀v s,Q v s->R v s):wpAny M A c R E s:=b6 h k λ_ _ q=>q
structure dm(A:Around)(n d:Nat):Prop where
 depth:A.depth+n*20+d+4<recursionLimit
 units:A.units+n*200+d*4+100<cLine
theorem dm.u{A:Around}{n d:Nat}(r:dm A n d):A.units+99<cLine:=by have:=r.units;lia
theorem dm.d{A:Around}{n d:Nat}(r:dm A n d):A.depth<recursionLimit:=by have:=r.depth;lia
theorem dm.less{A:Around}{n d d':Nat}(r:dm A n d)(h:d'<=d):dm A n d':=⟨by have:=r.depth;lia,by have:=r.units;lia⟩
variable {A:Around}
theorem vB{vs ws:List Value}{xs ys:List MV}(r:RL g h vs xs)(r':RL g h ws ys):RL g h (vs++ws) (xs++ys):=
 dR.ind (P:=λvs xs=>RL g h (vs++ws) (xs++ys)) r' (λZ Z Z Z x Z ih=>.cons x ih) r
theorem jf{vs:List Value}{xs:List MV}(r:RL g h vs xs):vs.length=xs.length:=
 dR.ind (P:=λvs xs=>vs.length=xs.length) rfl (λZ Z Z Z Z Z ih=>bf (·+1) ih) r
theorem yw{vs:List Value}{xs:List MV}{i:Nat}{V:MV}(r:RL g h vs xs)(e:xs[i]?=some V):∃v,vs[i]?=some v/\RV g h v V:=
 dR.ind (P:=λvs xs=>∀i,xs[i]?=some V->∃v,vs[i]?=some v/\RV g h v V) (λZ e=>aM e) (λv Z Z Z x Z ih i e=>by
  induction i using aae with
  | zero=>obtain rfl:=someE e;exact ⟨v,rfl,x⟩
  | succ i=>exact ih i e) r i e
theorem FE{vs:List Value}{xs:List MV}(n:Nat)(r:RL g h vs xs):RL g h (vs.take n) (xs.take n):=
 dR.ind (P:=λvs xs=>∀n,RL g h (vs.take n) (xs.take n)) (λn=>by induction n using aae<;>exact .nil) (λZ Z Z Z x Z ih n=>by
  induction n using aae with
  | zero=>exact .nil
  | succ n=>exact .cons x (ih n)) r n
theorem RT.reads{V:MV}{v:Value}(t:RT g h V v)(n:Nat)(hd:MV.data n V=true):(∃as,Reads h v (toPy V) as)/\(toPy V).canLay0=true/\(toPy V).depth<=n:=by
 cases hc:ly V with
 | false=>exact ⟨bh.reads n (t.plain hc) hd,bh.lay n (t.plain hc) hd⟩
 | true=>
  refine bz (t.cont hc) λb bZ c=>?_;obtain rfl:=bZ;induction V using MV.casesOn with
  | lst xs=>
   refine bz c.list λvs i r=>?_;revert i;refine gz λo e ec DR=>?_;revert DR;refine gh λk ed=>?_;induction n using aae with
   | zero=>exact b7 hd
   | succ n=>have hx:∀x∈xs,MV.data n x=true:=aG.mp hd;refine cg (dR.reads n r hx) λas q=>?_;refine cu (dR.lay n r hx) λa b=>?_;exact ⟨⟨_,Reads.list e ec ed q⟩,a,cR b⟩
  | bO es=>induction n using aae<;>exact b7 hd
  | inst c fs=>induction n using aae<;>exact b7 hd
  | _=>exact b7 hc
theorem Bb{V:MV}{v:Value}{b:Bool}(t:RT g s.heap V v)(e:truth V=some b):wpAny (model prog w) A (truthy v) (λc s'=>c=b/\Tk s s') br s:=by
 induction V using MV.casesOn with
 | bool x=>induction (bh.inv (t.plain rfl)) using wC.casesOn;exists e;exact wpAny_truthy_bool ⟨rfl,s.toks,rfl⟩
 | none=>induction (bh.inv (t.plain rfl)) using o8.casesOn;exists e;exact truthy_none ⟨rfl,s.toks,rfl⟩
 | int i=>
  induction (bh.inv (t.plain rfl)) using gR.casesOn;exists e;refine PySem.P.truthy_int ⟨?_,s.toks,rfl⟩;by_cases q:i=0
  ·subst q;rfl
  ·rw[aa q];exact bne_iff_ne.mpr q
 | lst xs=>
  refine bz (t.cont rfl) λb' bZ c=>?_;obtain rfl:=bZ;refine bz c.list λvs i r=>?_
  ·revert e;refine dG λhl e=>?_
   ·exists e;have hn:=jf r;have pO:vs.size=xs.length:=by rw[<-hn,aL]
    refine wpAny_truthy_list i (by rw[pO];have:bE=1048576:=rfl;lia) ⟨?_,_,rfl⟩;induction xs using aaa with
    | nil=>simp[Array.isEmpty,pO]
    | cons x r'=>simp[Array.isEmpty,pO]
 | _=>exact aM e
def U9(lo:Heap)(g:G)(h:Heap)(v:Value):EV->Prop
 | .val V=>RV g h v V
 | .fresh V=>fW lo g h V v
 | _=>False
inductive Gives(g:G)(s:Shared)(a:EV)(v:Value)(s':Shared):Prop
 | mk (h':Heap) (tk:Nat) (ρ':Addr->Role):s'={s with heap:=h',toks:=tk}->(∀b o,s.heap.get? b=some o->h'.get? b=some o)->U9 s.heap (g.role s.heap ρ') h' v a->Gives g s a v s'
theorem rZ(g:G)(ρ':Addr->Role)(keep:∀b o,h.get? b=some o->h'.get? b=some o):Up g h (g.role h ρ') h':=
 ⟨λa o r e=>⟨by rw[G.mO e];exact r,keep a o e⟩,λZ Z e=>e⟩
noncomputable def uu:MV->Bool
 | .inst _ _=>true
 | _=>false
theorem GR{H:Heap}{V:MV}{b:Addr}(hi:uu V=false)(hb:H.objs.size<=b):mS H V b:=λa e=>by
 skip;refine bu (b5.mp e) (λq=>?_) λq=>?_
 ·rw[bK.mp q];exact new_of_ge hb
 ·induction V using MV.casesOn<;>first | exact b7 q | injection hi
theorem Gives.tok{V:MV}{v:Value}(r:RV g s.heap v V)(tk:Nat):Gives g s (.val V) v {s with toks:=tk}:=
 ⟨s.heap,tk,λZ=>.free,rfl,λZ Z e=>e,(rZ g _ λZ Z e=>e).v r⟩
theorem Gives.push{V:MV}{o:Obj}(tk:Nat)(hf:o.isFreed=false)(hc:ly V=true)(hl:uu V=false)
  (c:∀g',Up g s.heap g' (s.heap.push o)->(s.heap.push o).get? s.heap.objs.size=some o->dM g' (s.heap.push o) s.heap.objs.size V):Gives g s (.fresh V) (.ref s.heap.objs.size) {s with heap:=s.heap.push o,toks:=tk}:=by
 have keep:∀b o',s.heap.get? b=some o'->(s.heap.push o).get? b=some o':=λb o' e=>aQ _ e;refine ⟨_,tk,λZ=>.fy,rfl,keep,fW.of (GR hl (az _)) (G.lq (new_of_ge (az _))) (c _ (rZ g _ keep) (bw _ hf))⟩
theorem Gives.Cm{V:MV}{o:Obj}(tk:Nat)(hf:o.isFreed=false)
  (c:∀g',Up g s.heap g' (s.heap.push o)->g'.ρ s.heap.objs.size=.frozen->(s.heap.push o).get? s.heap.objs.size=some o->RV g' (s.heap.push o) (.ref s.heap.objs.size) V):Gives g s (.val V) (.ref s.heap.objs.size) {s with heap:=s.heap.push o,toks:=tk}:=by
 have keep:∀b o',s.heap.get? b=some o'->(s.heap.push o).get? b=some o':=λb o' e=>aQ _ e;exact ⟨_,tk,λZ=>.frozen,rfl,keep,c _ (rZ g _ keep) (G.lq (new_of_ge (az _))) (bw _ hf)⟩
theorem AY{a b n m:Nat}(h:(decide (a<=bE)&&decide (b<=bE))=true)(ha:n=a)(hb:m=b):n+m<=sizeLine:=by subst ha hb;rw[aI,aK,aK]at h;rw[bT];exact aW (Nat.add_le_add h.1 h.2) (by decide)
theorem Qg{X Y:List MV}{x y:Value}(rx:RV g s.heap x (.tup X))(ry:RV g s.heap y (.tup Y))(hc:(decide (X.length<=bE)&&decide (Y.length<=bE))=true):wpAny (model prog w) A (binaryOp .Add x y) (Gives g s (.val (.tup (X++Y)))) br s:=by
 induction (bh.inv rx) using jj.casesOn with
 | @tup a o vs n i ho qC hd r=>
 induction (bh.inv ry) using jj.casesOn with
 | @tup a' o' ws n' i' gI wZ fG r'=>
 rcases o with ⟨cls,dd,data,sl⟩
 rcases o' with ⟨Va,xC,data2,tB⟩
 simp only at qC hd wZ fG;subst qC hd wZ fG;have l1:=jf r;have l2:=jf r';rw[aL]at l1 l2;by_cases hv:vs.isEmpty=true
 ·refine concat_meets ⟨_,ho,rfl⟩ ⟨_,gI,rfl⟩ noFill_tuple_add seq_tuple_add PySem.F.slot_tuple_add PySem.F.entry_tuple_add (PySem.F.args_tuple_add_2 _ _) (tuple_addW0 a a' vs ws n n' dd xC sl tB hv) ⟨ho,gI,?_⟩;have:X=[]:=by rw[Array.isEmpty_iff_size_eq_zero]at hv;exact cD.mp (l1.symm.trans hv)
  subst this;exact Gives.tok (.tup i' gI rfl rfl r') _
 ·by_cases hw:ws.isEmpty=true
  ·refine concat_meets ⟨_,ho,rfl⟩ ⟨_,gI,rfl⟩ noFill_tuple_add seq_tuple_add PySem.F.slot_tuple_add PySem.F.entry_tuple_add (PySem.F.args_tuple_add_2 _ _) (tuple_addW1 a a' vs ws n n' dd xC sl tB hv hw) ⟨ho,gI,?_⟩;have:Y=[]:=by rw[Array.isEmpty_iff_size_eq_zero]at hw;exact cD.mp (l2.symm.trans hw)
   subst this;rw[eo];exact Gives.tok (.tup i ho rfl rfl r) _
  ·refine concat_meets ⟨_,ho,rfl⟩ ⟨_,gI,rfl⟩ noFill_tuple_add seq_tuple_add PySem.F.slot_tuple_add PySem.F.entry_tuple_add (PySem.F.args_tuple_add_2 _ _) (tuple_addW2 a a' vs ws n n' dd xC sl tB hv hw (AY hc l1 l2)) ⟨ho,gI,?_⟩;exact Gives.Cm _ rfl λg' u hf hg=>.tup hf hg rfl rfl (by rw[Array.toList_append];exact vB (u.l r) (u.l r'))
theorem Qh{X Y:List MV}{x y:Value}(rx:RT g s.heap (.lst X) x)(ry:RT g s.heap (.lst Y) y)(hc:(decide (X.length<=bE)&&decide (Y.length<=bE))=true):wpAny (model prog w) A (binaryOp .Add x y) (Gives g s (.fresh (.lst (X++Y)))) br s:=by
 refine bz (rx.cont rfl) λb bZ c=>?_;obtain rfl:=bZ;refine bz (ry.cont rfl) λb' bZ c'=>?_;obtain rfl:=bZ;refine bz c.list λvs i r=>?_;refine bz c'.list λws i' r'=>?_;revert i;refine gh λbA cY=>?_;rcases bA with ⟨cls,dd,data,sl⟩
 revert cY;refine mu λho qC De=>?_;revert De;refine gh λn hd=>?_;revert i';refine gh λbA cY=>?_;rcases bA with ⟨Va,xC,data2,tB⟩
 revert cY;refine mu λgI wZ De=>?_;revert De;refine gh λn' fG=>?_;simp only at qC hd wZ fG;subst qC hd wZ fG;have l1:=jf r;have l2:=jf r';rw[aL]at l1 l2;refine concat_meets ⟨_,ho,rfl⟩ ⟨_,gI,rfl⟩ noFill_list_add seq_list_add PySem.F.slot_list_add PySem.F.entry_list_add (PySem.F.args_list_add_2 _ _) (list_addW b b' vs ws n n' dd xC sl tB (AY hc l1 l2)) ⟨ho,gI,?_⟩;exact Gives.push _ rfl rfl rfl λg' u hg=>.lst ⟨_,hg⟩ (by rw[Array.toList_append];exact vB (u.l r) (u.l r'))
theorem HK{x y:Int}(h:(small x&&decide (0<=y)&&decide (y<=1000)&&decide (-1000000000<=x)&&decide (x<=1000000000))=true):-18446744073709551616<y/\y<18446744073709551616:=by simp only[Bool.and_eq_true,decide_eq_true_eq]at h;lia
theorem RP{x y:Int}(h:(decide (0<y)&&decide (y<=qy))=true):0<y:=ai (ak.mp h).1
theorem Oe{op:Operator}{X Y:MV}{x y:Value}{a:EV}(rx:RT g s.heap X x)(ry:RT g s.heap Y y)(e:binop op X Y=some a):wpAny (model prog w) A (binaryOp op x y) (Gives g s a) br s:=by
 have ii:∀{m k:Int},X=.int m->Y=.int k->∃t u,x=.int m t/\y=.int k u:=λq1 q2=>by
  subst q1 q2;induction (bh.inv (rx.plain rfl)) using gR.casesOn with
  | int t=>induction (bh.inv (ry.plain rfl)) using gR.casesOn with | int u=>exact ⟨t,u,rfl,rfl⟩
 refine N9 (λm k q q1 q2 q3=>?_) (λm k q q1 q2 hc q3=>?_) (λm k q q1 q2 hc q3=>?_) (λm k q q1 q2 hc q3=>?_) (λxs ys q q1 q2 hc q3=>?_) (λxs ys q q1 q2 hc q3=>?_) (λz y' q q1 q2 hc q3=>?_) e
 ·refine kj (ii q1 q2) λt u cY dP=>?_;obtain rfl:=cY;obtain rfl:=dP;subst q q3;exact wpAny_add_int (Gives.tok (.int _ _) _)
 ·refine kj (ii q1 q2) λt u cY dP=>?_;obtain rfl:=cY;obtain rfl:=dP;subst q q3;exact PySem.P.mul_int (Gives.tok (.int _ _) _) (IntMulOk.of_right (intBits_le_64 (HK hc).1 (HK hc).2))
 ·refine kj (ii q1 q2) λt u cY dP=>?_;obtain rfl:=cY;obtain rfl:=dP;subst q q3;have h:=RP (x:=m) hc;exact AutoIntOps.mod_1 (by simp;lia) (Gives.tok (.int _ _) _)
 ·refine kj (ii q1 q2) λt u cY dP=>?_;obtain rfl:=cY;obtain rfl:=dP;subst q q3;simp only[Bool.and_eq_true,decide_eq_true_eq]at hc;refine and_int (Gives.tok ?_ _);have:Builtin.bitAnd m k=Int.ofNat (m.toNat&&& k.toNat):=by unfold Builtin.bitAnd;simp[hc.1.1.1,hc.1.2]
  rw[this];exact .int _ _
 ·subst q q1 q2 q3;exact Qg (rx.plain rfl) (ry.plain rfl) hc
 ·subst q q1 q2 q3;exact Qh rx ry hc
 ·subst q q1 q2 q3;induction (bh.inv (rx.plain rfl)) using iR.casesOn with
  | str t1 k1=>
  induction (bh.inv (ry.plain rfl)) using iR.casesOn with
  | str t2 k2=>
  refine PyProof.Rows.add_str (λt' tk=>Gives.tok (.str t' ?_) tk) (AY hc rfl rfl);unfold PyData.strOk at k1 k2 |-;show (z.cps++y'.cps).all _=true;rw[Array.all_append,k1,k2];rfl
theorem vH{K:Type}[DecidableEq K]{iS:K->MV}(w6:∀a b,MV.beq (iS a) (iS b)=decide (a=b)){kvs:List (K×Value)}{es:List (MV×MV)}(k:K)(r:jO g h iS kvs es) :
  match eK es (iS k) with
  | some V=>∃v,valueAt kvs k=some v/\RV g h v V
  | none=>valueAt kvs k=none:=by
 induction r with
 | nil=>exact rfl
 | @cons k' v _ kvs _ x r ih=>
  rw[Fy,w6,show valueAt ((k',v)::kvs) k=if k'=k then some v else valueAt kvs k by by_cases q:k'=k<;>simp[valueAt,q]];by_cases q:k'=k
  ·rw[aq (aa q),aq q];exact ⟨_,rfl,x⟩
  ·rw[au λz=>q (ai z),au q];exact ih
theorem yD(a b:Int):MV.beq (.int a) (.int b)=decide (a=b):=rfl
theorem yE(a b:Str):MV.beq (.str a) (.str b)=decide (a=b):=rfl
theorem Bc{xs:List (MV×Addr×Value)}{es:List (MV×MV)}(k:MV)(r:nQ g h xs es) :
  match eK es k with
  | some V=>∃a v,atKey xs k=some (a,v)/\RV g h v V
  | none=>atKey xs k=none:=by
 induction r with
 | nil=>exact rfl
 | @cons k' a v _ xs _ hk ht ra rv r ih=>
  have e:=beq_iff 6 k' k (ud 6 _ hk);rw[Fy,show atKey ((k',a,v)::xs) k=if k'=k then some (a,v) else atKey xs k by by_cases q:k'=k<;>simp[atKey,q]];by_cases q:k'=k
  ·rw[aq (e.mpr q),aq q];exact ⟨a,v,rfl,rv⟩
  ·rw[au λz=>q (e.mp z),au q];exact ih
theorem HL{v:Value}{V:MV}(n:Nat)(hk:MV.key n V=true)(r:RV g h v V):bh (λZ=>True) h [] v V:=by
 refine ug (P:=λZ V=>∀v,RV g h v V->bh (λZ=>True) h [] v V) (λZ i v r=>?_) (λZ x v r=>?_) (λn xs Z ih v r=>?_) n V hk v r
 ·(induction (bh.inv r) using gR.casesOn;clear r);exact .int ..
 ·induction (bh.inv r) using iR.casesOn with
  | str t k=>exact .str t k
 ·induction (bh.inv r) using jj.casesOn with
  | tup i e c d rl=>exact .tup trivial e c d (rl.Jt ih)
theorem vI{d:Addr}{xs:List (MV×Addr×Value)}{es:List (MV×MV)}(K:Keyed h d xs)(r:nQ g h xs es):h.DictOfH (tupK) d xs:=by
 revert K;refine zC λo en ep a b c e n=>?_;refine ⟨o,en,ep,a,b,c,e,?_,n⟩;clear e n;induction r with
 | nil=>intro x hx;simp at hx
 | cons hk ht ra rv r ih=>
  intro x hx;refine bu (aC.mp hx) (λcF=>?Wm) λhx=>?v10;(case' Wm=>(obtain rfl:=cF))
  ·exact ⟨hk,ht,(HL 6 hk ra)⟩
  ·exact ih x hx
theorem yF{a:Addr}{ys:List MV}(hk:MV.key 6 (.tup ys)=true)(r:RV g h (.ref a) (.tup ys)):(tupK).is h (.tup ys) a:=⟨hk,⟨ys,rfl⟩,HL 6 hk r⟩
theorem r5{b:Addr}{es:List (MV×MV)}{i:Int}(c:dM g h b (.bO es))(hk:gE es (.int i)=true):(b==sysModules)=false/\∃kvs,h.DictOf (intKind prog w) b kvs/\jO g h MV.int kvs es:=by
 cases (c) with
 | lK y d r=>exact ⟨y,_,d,r⟩
 | mw y k d r=>
  cases (r) with
  | nil=>exact ⟨y,[],AM d,.nil⟩
  | cons v r=>exact b7 (ak.mp hk).2
 | mz y d r=>
  cases (r) with
  | nil=>exact ⟨y,[],AX d,.nil⟩
  | cons k t a v r=>(revert t;refine gh λys bA=>?_;obtain rfl:=bA);exact b7 (ak.mp hk).2
theorem vR{b:Addr}{es:List (MV×MV)}{x:Str}(c:dM g h b (.bO es))(hk:gE es (.str x)=true):(b==sysModules)=false/\∃kvs,(∀p∈kvs,PyData.strOk p.1=true)/\h.DictOf (PySem.strKind prog w) b kvs/\jO g h MV.str kvs es:=by
 cases (c) with
 | lK y d r=>
  cases (r) with
  | nil=>exact ⟨y,[],(λZ h=>nomatch h),AM d,.nil⟩
  | cons v r=>exact b7 (ak.mp hk).2
 | mw y k d r=>exact ⟨y,_,k,d,r⟩
 | mz y d r=>
  cases (r) with
  | nil=>exact ⟨y,[],(λZ h=>nomatch h),AX d,.nil⟩
  | cons k t a v r=>(revert t;refine gh λys bA=>?_;obtain rfl:=bA);exact b7 (ak.mp hk).2
theorem yG{b:Addr}{es:List (MV×MV)}{ys:List MV}(c:dM g h b (.bO es))(hk:gE es (.tup ys)=true):(b==sysModules)=false/\∃xs,Keyed h b xs/\nQ g h xs es:=by
 cases (c) with
 | lK y d r=>
  cases (r) with
  | nil=>exact ⟨y,[],FA d,.nil⟩
  | cons v r=>exact b7 (ak.mp hk).2
 | mw y k d r=>
  cases (r) with
  | nil=>exact ⟨y,[],FA d,.nil⟩
  | cons v r=>exact b7 (ak.mp hk).2
 | mz y d r=>exact ⟨y,_,d,r⟩
theorem pZ{es:List (MV×MV)}{k:MV}(e:gE es k=true):MV.key 6 k=true:=(ak.mp e).1
theorem yk{k:MV}(e:MV.key 6 k=true):(∃i,k=.int i)\/(∃x,k=.str x)\/∃ys,k=.tup ys:=by
 induction k using MV.casesOn with
 | int i=>exact .inl ⟨i,rfl⟩
 | str x=>exact .inr (.inl ⟨x,rfl⟩)
 | tup ys=>exact .inr (.inr ⟨ys,rfl⟩)
 | _=>exact b7 e
def mC(s:Shared)(b:Bool)(v:Value)(s':Shared):Prop:=v=.bool b/\Tk s s'
theorem Qi(X:MV)(hX:MV.data 6 X=true)(ys:List MV):(∀y∈ys,MV.data 5 y=true)->((jK ys).any λy=>PyData.eqv y (toPy X))=ys.any λy=>MV.beq y X:=by
 induction ys with
 | nil=>exact λZ=>rfl
 | cons y r ih=>intro k;show (PyData.eqv (toPy y) (toPy X)||(jK r).any λy=>PyData.eqv y (toPy X))=(MV.beq y X||r.any λy=>MV.beq y X);rw[BE 5 6 y X (k _ (.head _)) hX,ih λz hz=>k z (.tail _ hz)]
theorem Of{X:MV}{es:List (MV×MV)}{x c:Value}(hu:A.units+99<cLine)(rx:RT g s.heap X x)(rc:RT g s.heap (.bO es) c)(hc:gE es X=true) :
  wpAny (model prog w) A (compareOp .In x c) (mC s (eK es X).isSome) br s/\wpAny (model prog w) A (compareOp .NotIn x c) (mC s (!(eK es X).isSome)) br s:=by
 refine bz (rc.cont rfl) λd bZ cc=>?_;obtain rfl:=bZ;rcases yk (pZ hc) with ⟨i,rfl⟩ | ⟨y,rfl⟩ | ⟨ys,rfl⟩
 ·induction (bh.inv (rx.plain rfl)) using gR.casesOn with
  | int t=>
  refine cu (r5 cc.bO hc) λhs bZ=>?_;revert bZ;refine gp λkvs D P=>?_;have G:=vH yD i P;have e1:(valueAt kvs i).isSome=(eK es (.int i)).isSome:=by
   cases q:eK es (.int i) with
   | none=>rw[q]at G;rw[G];rfl
   | some V=>rw[q]at G;(revert G;refine gp λv z Z=>?_);rw[z];rfl
  rw[<-e1];exact ⟨wpAny_in_of (intKind_is prog w i t) hs D.mapOf ⟨rfl,_,rfl⟩,wpAny_notIn_of (intKind_is prog w i t) hs D.mapOf ⟨rfl,_,rfl⟩⟩
 ·induction (bh.inv (rx.plain rfl)) using iR.casesOn with
  | str t _=>
  refine cu (vR cc.bO hc) λhs cY=>?_;revert cY;refine gz λkvs Z D P=>?_;have G:=vH yE y P;have e1:(valueAt kvs y).isSome=(eK es (.str y)).isSome:=by
   cases q:eK es (.str y) with
   | none=>rw[q]at G;rw[G];rfl
   | some V=>rw[q]at G;(revert G;refine gp λv z Z=>?_);rw[z];rfl
  rw[<-e1];exact ⟨wpAny_in_of (strKind_is prog w y t) hs D.mapOf ⟨rfl,_,rfl⟩,wpAny_notIn_of (strKind_is prog w y t) hs D.mapOf ⟨rfl,_,rfl⟩⟩
 ·induction (bh.inv (rx.plain rfl)) using jj.casesOn with
  | tup i1 i2 i3 i4 i5=>
  refine cu (yG cc.bO hc) λhs bZ=>?_;revert bZ;refine gp λxs D P=>?_;have G:=Bc (.tup ys) P;have e1:(atKey xs (.tup ys)).isSome=(eK es (.tup ys)).isSome:=by
   cases q:eK es (.tup ys) with
   | none=>rw[q]at G;rw[G];rfl
   | some V=>rw[q]at G;(revert G;refine sQ λa v z Z=>?_);rw[z];rfl
  rw[<-e1];have room:(tupK).room A.in1:=aF (by show A.units+1+8<=A.units+99;lia) hu;have I:=yF (pZ hc) (.tup i1 i2 i3 i4 i5);exact ⟨wpAny_in_heap room I hs (vI D P) ⟨rfl,_,rfl⟩,wpAny_notIn_heap room I hs (vI D P) ⟨rfl,_,rfl⟩⟩
theorem Og{z t:Str}{x c:Value}(rx:RV g s.heap x (.str t))(rc:RV g s.heap c (.str z))(hl:t.length=1) :
  wpAny (model prog w) A (compareOp .In x c) (mC s (z.cps.toList.any λc=>decide (some c=t.cps.toList.head?))) br s/\wpAny (model prog w) A (compareOp .NotIn x c) (mC s (!z.cps.toList.any λc=>decide (some c=t.cps.toList.head?))) br s:=by
 induction (bh.inv rx) using iR.casesOn with
 | str t1 _=>
 induction (bh.inv rc) using iR.casesOn with
 | str t2 _=>
 obtain ⟨c,rfl⟩:∃c,t=⟨#[c]⟩:=by
  obtain ⟨⟨l⟩⟩:=t;have hl:l.length=1:=hl;induction l using aaa with
  | nil=>exact nomatch hl
  | cons c r=>exact ⟨c,by rw[cD.mp (dc hl)]⟩
 have e1:(z.cps.toList.any λc'=>decide (some c'=(⟨#[c]⟩:Str).cps.toList.head?))=decide (c∈z.cps.toList):=by rw[Bool.eq_iff_iff,cE,decide_eq_true_iff];exact ⟨λ⟨y,hy,q⟩=>aY (ai q)▸hy,λhc=>⟨c,hc,aa rfl⟩⟩
 rw[e1];have e2:=PySem.StrLaws.found_one z c;exact ⟨PyProof.Rows.in_str ⟨bf _ e2,s.toks,rfl⟩,PyProof.Rows.notIn_str ⟨bf (λq=>Value.bool (!q)) e2,s.toks,rfl⟩⟩
theorem GS{X C:MV}{x c:Value}{b:Bool}(hu:A.units+99<cLine)(rx:RT g s.heap X x)(rc:RT g s.heap C c)(e:isIn X C=some b) :
  wpAny (model prog w) A (compareOp .In x c) (mC s b) br s/\wpAny (model prog w) A (compareOp .NotIn x c) (mC s (!b)) br s:=by
 refine Qd (λys q h1 h2 q2=>?_) (λes q hc q2=>?_) (λz t q q1 hl q2=>?_) e
 ·refine eg (rx.reads 6 h1) λbA l2 d2=>?_;revert bA;refine gh λbs r2=>?_;have hy:∀y∈ys,MV.data 5 y=true:=aG.mp h2;have zZ:A.units+1+min (PyData.depthAll (jK ys)) (toPy X).depth<cLine:=aF (Nat.add_le_add_left (Nat.min_le_right ..) _) (by lia);have e1:b=(jK ys).any λy=>PyData.eqv y (toPy X):=q2.trans (Qi X h1 ys hy).symm;subst e1;revert q;refine eS (λcF=>?_) (λcF=>?_)<;>obtain rfl:=cF
  ·refine eg (rc.reads 6 h2) λbA l1 d1=>?_;revert bA;refine gh λas r1=>?_;exact ⟨PySem.SeqAt.in_list_reads r1 r2 l1 l2 zZ ⟨rfl,s.toks,rfl⟩,PySem.SeqAt.notIn_list_reads r1 r2 l1 l2 zZ ⟨rfl,s.toks,rfl⟩⟩
  ·refine eg (rc.reads 6 h2) λbA l1 d1=>?_;revert bA;refine gh λas r1=>?_;exact ⟨PySem.SeqAt.in_tuple_reads r1 r2 l1 l2 zZ ⟨rfl,s.toks,rfl⟩,PySem.SeqAt.notIn_tuple_reads r1 r2 l1 l2 zZ ⟨rfl,s.toks,rfl⟩⟩
 ·subst q q2;exact Of hu rx rc hc
 ·subst q q1 q2;exact Og (rx.plain rfl) (rc.plain rfl) hl
theorem Ls{K:Type}[DecidableEq K]{kvs:List (K×Value)}{k:K}{v:Value}:(kvs.map (·.1)).Nodup->(k,v)∈kvs->valueAt kvs k=some v:=by
 induction kvs with
 | nil=>exact λ_ h=>nomatch h
 | cons p r ih=>
  intro hn h;have hn:=bx.mp hn;simp only[valueAt,List.find?_cons];refine bu (aC.mp h) (λe=>?_) λh=>?_
  ·subst e;simp
  ·rw[ao λe=>hn.1 (aN.mpr ⟨_,h,e.symm⟩)];exact ih hn.2 h
theorem FF{V:MV}(e:nC V=true):∃i,V=.int i:=by
 induction V using MV.casesOn with
 | int i=>exact ⟨i,rfl⟩
 | _=>exact b7 e
theorem Oh{kb:List (Int×Value)}(hn:(kb.map (·.1)).Nodup){ka:List (Int×Value)}{x:List (MV×MV)}(r1:jO g s.heap MV.int ka x):∀{xD:List (Int×Value)} {y:List (MV×MV)},(∀p∈xD,p∈kb)->jO g s.heap MV.int xD y->
  (∀e∈x,nC e.2=true)->(∀e∈y,nC e.2=true)->MV.g7 (x.map (·.1)) (y.map (·.1))=true->MV.g7 (x.map (·.2)) (y.map (·.2))=true->KeqHits A s kb ka true/\ka.length=xD.length:=by
 induction r1 with
 | nil=>
  intro xD y hm r2 _ _ e _;cases (r2) with
  | nil=>exact ⟨.nil,rfl⟩
  | cons _ _=>exact b7 e
 | @cons k v V kvs es rv r ih=>
  intro xD y hm r2 hx hy e1 e2;cases (r2) with
  | nil=>exact b7 e1
  | @cons k' v' V' Vb DS ve r'=>
   have f1:=ak.mp (show (MV.beq (.int k) (.int k')&&MV.g7 (es.map (·.1)) (DS.map (·.1)))=true from e1);have f2:=ak.mp (show (MV.beq V V'&&MV.g7 (es.map (·.2)) (DS.map (·.2)))=true from e2);refine cu (ih (λp hp=>hm p (.tail _ hp)) r' (λe he=>hx e (.tail _ he)) (λe he=>hy e (.tail _ he)) f1.2 f2.2) λa b=>?_;have ek:k=k':=ai f1.1;refine cg (FF (hx _ (.head _))) λi hi=>?_;refine cg (FF (hy _ (.head _))) λj hj=>?_;have hi:V=.int i:=hi;have hj:V'=.int j:=hj;subst ek hi hj;have ei:i=j:=ai f2.1;subst ei;induction (bh.inv rv) using gR.casesOn with
   | int t=>
   induction (bh.inv ve) using gR.casesOn with
   | int t'=>
   refine ⟨?_,bf (·+1) b⟩;have:=(MeetsSeq.EqGives.int i i t t').at A s;rw[beq_self_eq_true]at this;exact KeqHits.hit (e:=true) (b:=true) (Ls hn (hm _ (.head _))) this a
theorem Oi{a b:Addr}{x y:List (MV×MV)}{r:Bool}(hu:A.units+99<cLine)(ca:dM g s.heap a (.bO x))(cb:dM g s.heap b (.bO y))(e:uD x y=some r) :
  wpAny (model prog w) A (compareOp .Eq (.ref a) (.ref b)) (mC s r) br s:=by
 unfold uD at e;split at e
 ·rename_i hc;exists e;simp only[Bool.and_eq_true,List.all_eq_true]at hc;revert hc;refine gj λbA h4=>?_;revert bA;refine gj λiW h3=>?_;revert iW;refine gj λh1 h2=>?_;have ok:∀{x:List (MV×MV)},(∀e∈x,nC e.1=true/\nC e.2=true)->gE x (.int 0)=true:=by
   intro x hx;induction x using aaa with
   | nil=>rfl
   | cons p r=>
    have:=(hx _ (.head _)).1;rcases p with ⟨k,v⟩
    induction k using MV.casesOn<;>simp only[nC]at this<;>first | rfl | exact b7 this
  refine cu (r5 ca (ok h1)) λy1 bZ=>?_;revert bZ;refine gp λk1 d1 p1=>?_;refine cu (r5 cb (ok h2)) λy2 bZ=>?_;revert bZ;refine gp λk2 d2 p2=>?_;have hn:(k2.map (·.1)).Nodup:=by (revert d2;refine uT λZ Z Z Z Z Z Z Z n=>?_);exact n
  refine cu (Oh (A:=A.in1) hn p1 (λZ h=>h) p2 (λe he=>(h1 e he).2) (λe he=>(h2 e he).2) h3 h4) λH hl=>?_;refine keq_eq y1 y2 d1 d2 (by lia) (λZ=>H) ⟨?_,s.toks,rfl⟩;rw[hl];simp
 ·exact aM e
theorem FG{X:MV}{x:Value}{b:Bool}(rx:RT g s.heap X x)(e:isNone X=some b):wpAny (model prog w) A (compareOp .Is x .none) (mC s b) br s/\wpAny (model prog w) A (compareOp .IsNot x .none) (mC s (!b)) br s:=by
 have oJ:plainIs x .none=true->x≠.none->b=false->wpAny (model prog w) A (compareOp .Is x .none) (mC s b) br s/\wpAny (model prog w) A (compareOp .IsNot x .none) (mC s (!b)) br s:=λh1 h2 hb=>by
  subst hb;exact ⟨wpAny_is_other h1 h2 ⟨rfl,s.toks,rfl⟩,wpAny_isNot_other h1 h2 ⟨rfl,s.toks,rfl⟩⟩
 by_cases hn:X=.none
 ·subst hn;obtain rfl:=someE e;induction (bh.inv (rx.plain rfl)) using o8.casesOn;exact ⟨wpAny_is_self rfl ⟨rfl,s.toks,rfl⟩,wpAny_isNot_self rfl ⟨rfl,s.toks,rfl⟩⟩
 ·have hb:(∀i,X≠.blt i)/\b=false:=by
   induction X using MV.casesOn with
   | none=>exact absurd rfl hn
   | blt i=>exact aM e
   | _=>exact ⟨λi q=>(nomatch q),someE e⟩
  refine oJ ?_ ?_ hb.2
  ·cases hc:ly X with
   | false=>
    have r:=rx.plain hc;cases (r) with
    | none=>exact absurd rfl hn
    | blt i=>exact absurd rfl (hb.1 i)
    | _=>rfl
   | true=>(refine bz (rx.cont hc) λb bZ Z=>?_;obtain rfl:=bZ);rfl
  ·cases hc:ly X with
   | false=>intro q;subst q;have r:=rx.plain hc;cases (r);exact hn rfl
   | true=>(refine bz (rx.cont hc) λb bZ Z=>?_;obtain rfl:=bZ);exact λe=>nomatch e
theorem GU{X Y:MV}{x y:Value}{b:Bool}(hu:A.units+99<cLine)(rx:RT g s.heap X x)(ry:RT g s.heap Y y)(e:gm X Y=some b):wpAny (model prog w) A (compareOp .Eq x y) (mC s b) br s/\wpAny (model prog w) A (compareOp .NotEq x y) (mC s (!b)) br s:=by
 revert e;refine dG λhc e=>?_;obtain rfl:=someE e;rw[aI]at hc;refine eg (rx.reads 6 hc.1) λbA l1 d1=>?_;revert bA;refine gh λas q1=>?_;refine eg (ry.reads 6 hc.2) λbA l2 d2=>?_;revert bA;refine gh λbs q2=>?_;have sh:∀{n:Nat},n<=6->n<=64:=λh=>aW h (by decide);have s1:PySem.SeqAt.shaped (toPy X)=true:=by unfold PySem.SeqAt.shaped;rw[l1,Bool.true_and];exact aa (by lia)
 have s2:PySem.SeqAt.shaped (toPy Y)=true:=by unfold PySem.SeqAt.shaped;rw[l2,Bool.true_and];exact aa (by lia)
 rw[<-BE 6 6 X Y hc.1 hc.2];exact ⟨eq_dataH q1 q2 s1 s2 (by lia) ⟨rfl,s.toks,rfl⟩,ne_dataH q1 q2 s1 s2 (by lia) ⟨rfl,s.toks,rfl⟩⟩
theorem yH{X Y:MV}{f:Int->Int->Bool}{b:Bool}{G:Prop}(k:∀x y,X=.int x->Y=.int y->b=f x y->G)(e:(match (generalizing:=false) X,Y with | .int x,.int y=>some (f x y) | _,_=>none)=some b):G:=by
 induction X using MV.casesOn with
 | int x=>
  induction Y using MV.casesOn with
  | int y=>exact k x y rfl rfl (someE e)
  | _=>exact aM e
 | _=>exact aM e
theorem GV{X Y:MV}{o:Option Bool}{b:Bool}{G:Prop}(k:Y=.none->o=some b->G)(e:(match (generalizing:=false) Y with | .none=>o | _=>none)=some b):G:=by
 induction Y using MV.casesOn with
 | none=>exact k rfl e
 | _=>exact aM e
theorem S9{X Y:MV}{b:Bool}{G:Prop}(k1:∀x y,X=.bO x->Y=.bO y->uD x y=some b->G)(k2:gm X Y=some b->G)(e:qj .Eq X Y=some b):G:=by
 induction X using MV.casesOn with
 | bO x=>
  induction Y using MV.casesOn with
  | bO y=>exact k1 x y rfl rfl e
  | _=>exact k2 e
 | _=>exact k2 e
theorem Oj{op:CmpOp}{X Y:MV}{x y:Value}{b:Bool}(hu:A.units+99<cLine)(rx:RT g s.heap X x)(ry:RT g s.heap Y y)(e:qj op X Y=some b) :
  wpAny (model prog w) A (compareOp op x y) (mC s b) br s:=by
 have ii:∀{m k:Int},X=.int m->Y=.int k->∃t u,x=.int m t/\y=.int k u:=λq1 q2=>by
  subst q1 q2;induction (bh.inv (rx.plain rfl)) using gR.casesOn with
  | int t=>induction (bh.inv (ry.plain rfl)) using gR.casesOn with | int u=>exact ⟨t,u,rfl,rfl⟩
 induction op using CmpOp.casesOn with
 | Eq=>refine S9 (λu v q1 q2 e=>?_) (λe=>(GU hu rx ry e).1) e;subst q1 q2;refine bz (rx.cont rfl) λa bZ ca=>?_;obtain rfl:=bZ;refine bz (ry.cont rfl) λb' bZ cb=>?_;obtain rfl:=bZ;exact Oi hu ca.bO cb.bO e
 | NotEq=>revert e;refine eZ λc hc q=>?_;subst q;exact (GU hu rx ry hc).2
 | Lt=>refine yH (f:=λx y=>decide (x<y)) (λm k q1 q2 q=>?_) e;(refine kj (ii q1 q2) λt u cY dP=>?_;obtain rfl:=cY;obtain rfl:=dP);subst q;exact PySem.P.lt_int ⟨rfl,s.toks,rfl⟩
 | LtE=>refine yH (f:=λx y=>decide (x<=y)) (λm k q1 q2 q=>?_) e;(refine kj (ii q1 q2) λt u cY dP=>?_;obtain rfl:=cY;obtain rfl:=dP);subst q;exact PySem.P.le_int ⟨rfl,s.toks,rfl⟩
 | Gt=>refine yH (f:=λx y=>decide (x>y)) (λm k q1 q2 q=>?_) e;(refine kj (ii q1 q2) λt u cY dP=>?_;obtain rfl:=cY;obtain rfl:=dP);subst q;exact PySem.P.gt_int ⟨rfl,s.toks,rfl⟩
 | GtE=>refine yH (f:=λx y=>decide (x≥y)) (λm k q1 q2 q=>?_) e;(refine kj (ii q1 q2) λt u cY dP=>?_;obtain rfl:=cY;obtain rfl:=dP);subst q;exact PySem.P.ge_int ⟨rfl,s.toks,rfl⟩
 | In=>exact (GS hu rx ry e).1
 | NotIn=>revert e;refine eZ λc hc q=>?_;subst q;exact (GS hu rx ry hc).2
 | Is=>refine GV (X:=X) (λq e=>?_) e;subst q;induction (bh.inv (ry.plain rfl)) using o8.casesOn;exact (FG rx e).1
 | IsNot=>refine GV (X:=X) (λq e=>?_) e;subst q;induction (bh.inv (ry.plain rfl)) using o8.casesOn;revert e;refine eZ λc hc q=>?_;subst q;exact (FG rx hc).2
noncomputable def endAt(i:Int)(n:Nat):Nat:=if i<0 then n-1 else min i.toNat n
theorem F8{xs ys:List MV}{i:Int}(e:wu xs i=some ys):(0<=i\/i=-1)/\i<=bE/\ys=xs.take (endAt i xs.length):=by
 have hL:bE=1048576:=rfl;unfold wu at e;split at e
 ·rename_i h;simp only[Bool.and_eq_true,decide_eq_true_eq]at h;exists e;refine ⟨.inl h.1,h.2,?_⟩;unfold endAt;rw[au (by lia)];refine bu (Nat.le_total i.toNat xs.length) (λq=>?_) λq=>?_
  ·rw[Nat.min_eq_left q]
  ·rw[Nat.min_eq_right q,List.take_of_length_le q,List.take_of_length_le (az _)]
 ·split at e
  ·rename_i h;have h:i=-1:=ai h;exists e;refine ⟨.inr h,by lia,?_⟩;unfold endAt;rw[aq (by lia)]
  ·exact aM e
theorem Jy(m n:Nat):((min m n:Nat):Int)=min (m:Int) n:=by
 refine bu (Nat.le_total m n) (λh=>?_) λh=>?_
 ·rw[Nat.min_eq_left h,Int.min_eq_left (Int.ofNat_le.mpr h)]
 ·rw[Nat.min_eq_right h,Int.min_eq_right (Int.ofNat_le.mpr h)]
theorem IA(k:Nat):-1+((k+1:Nat):Int)=k:=by lia
theorem Wn(m n:Nat):max 0 (min (m:Int) n)=max 0 (min ((min m n:Nat):Int) n):=by rw[Jy,Int.min_assoc,Int.min_self]
theorem tB(n:Nat):max 0 (min (-1+(n:Int)) n)=max 0 (min ((n-1:Nat):Int) n):=by
 induction n using aae with
 | zero=>rfl
 | succ k=>rw[IA];rfl
theorem Wo(n:Nat){i:Int}(hi:0<=i\/i=-1):Builtin.Slice.sliceAdjust none (some i) 1 (n:Int)=(0,((endAt i n:Nat):Int)):=by
 show ((0:Int),if i<0 then max (i+(n:Int)) 0 else min i n)=_;unfold endAt;revert hi;refine eS (λh=>?Wq) λgk=>?Wr;(case' Wr=>(obtain rfl:=gk));(case' Wq=>(skip))
 ·refine cg (cT h) λm bA=>?_;obtain rfl:=bA;rw[au (Int.not_lt.mpr h),au (Int.not_lt.mpr h),Int.toNat_natCast,Jy]
 ·rw[aq (by decide),aq (by decide)];induction n using aae with
  | zero=>rfl
  | succ k=>rw[IA,Int.max_eq_left (Int.natCast_nonneg k)];rfl
theorem places(e:Nat):Builtin.Slice.slicePlaces 0 (e:Int) 1=e:=by
 induction e using aae with
 | zero=>rfl
 | succ k=>unfold Builtin.Slice.slicePlaces;rw[aq (by decide),aq (Int.natCast_pos.mpr (Nat.succ_pos k)),Int.ediv_one];lia
theorem Vc(n:Nat){i:Int}(hi:0<=i\/i=-1):sliceBounds none (some i) none n=sliceBounds none (some ((endAt i n:Nat):Int)) none n:=by
 unfold sliceBounds endAt;simp only[Option.getD_none];congr 1;congr 1;revert hi;refine eS (λh=>?Ws) λgk=>?Wt;(case' Wt=>(obtain rfl:=gk));(case' Ws=>(skip))
 ·refine cg (cT h) λm bA=>?_;obtain rfl:=bA;simp only[if_neg (Int.not_lt.mpr (Int.natCast_nonneg _)),show (1:Int)>0 by decide,if_true,Int.toNat_natCast];exact Wn m n
 ·simp only[show (-1:Int)<0 by decide,if_true,show (1:Int)>0 by decide,if_neg (Int.not_lt.mpr (Int.natCast_nonneg _))];exact tB n
theorem F9(i:Int)(n:Nat):endAt i n<=n:=by
 unfold endAt;by_cases h:i<0
 ·rw[aq h];exact Nat.sub_le n 1
 ·rw[au h];exact Nat.min_le_right _ _
theorem MW(items:Array Value){i:Int}(hi:0<=i\/i=-1):slicePick items none (some i) none=(items.toList.take (endAt i items.size)).toArray:=by
 have:slicePick items none (some i) none=slicePick items none (some ((endAt i items.size:Nat):Int)) none:=by unfold slicePick;rw[Vc _ hi]
 rw[this,slicePick_upto items _ (F9 ..)]
theorem Lu{sl:Addr}{n:Nat}{i:Int}{u:Tok}{Q:Int×Int×Nat->Shared->Prop}{E:Value->Shared->Prop}(hs:s.heap.IsSliceOf sl .none (.int i u) .none)(hi:0<=i\/i=-1)(q:Q (0,1,endAt i n) s) :
  wpAny (model prog w) A (Builtin.Slice.sliceApplied (.ref sl) (pure (n:Int))) Q E s:=by
 refine ja (id hs) λos tC kB tD=>?_;skip;refine av (av (wpAny_field tC tD (x:=.none) rfl (av (wpAny_field tC tD (x:=.int i u) rfl (av (wpAny_field tC tD (x:=.none) rfl (aH ?_)))))));refine av (slicePart_none ?_);show wpAny _ _ (if ((1:Int)==0)=true then _ else _) _ _ s;rw[au (by decide)];refine av (slicePart_none (av (slicePart_int (av (aH ?_)))));have e:(match Builtin.Slice.sliceAdjust none (some i) 1 (n:Int) with | (lo,hi)=>(lo,(1:Int),Builtin.Slice.slicePlaces lo hi 1))=(0,1,endAt i n):=by rw[Wo n hi];show (0,(1:Int),Builtin.Slice.slicePlaces 0 _ 1)=_;rw[places]
 exact wpAny_of_eq (bf pure e) q
theorem MX{t sl:Addr}{items:Array Value}{i:Int}{u:Tok}{Q:Value->Shared->Prop}{E:Value->Shared->Prop}(ht:IsTup s.heap t items)(hs:s.heap.IsSliceOf sl .none (.int i u) .none)(hi:0<=i\/i=-1)(hsz:items.size<=sizeLine)
  (q1:endAt i items.size=items.size->Q (.ref t) s) (q2:Q (.ref s.heap.objs.size) {s with heap:=s.heap.push {cls:=.type "tuple",data:=.seq (items.toList.take (endAt i items.size)).toArray}}) :
  wpAny (model prog w) A (getItem (.ref t) (.ref sl)) Q E s:=by
 have gn:sizeOk (.seq (items.toList.take (endAt i items.size)).toArray):=by show (items.toList.take _).toArray.size<=sizeLine;rw[List.size_toArray,List.length_take,aL];exact aW (Nat.min_le_right _ _) hsz
 refine ja (id hs) λos tC kB tD=>?_;have Wu:s.TypeIs (.ref sl) "slice":=⟨os,tC,kB⟩;unfold getItem
 try with_reducible refine eB ?_
 first | refine av (aH ?_) | skip
 refine av (wpAny_sequenceKey ht.typeIs (by decide) ?_);refine av (wpAny_callSpecial?_slot (name:=Str.ofString "__getitem__") ht.typeIs slot_tuple_getitem
  (wpAny_call_entry slot_tuple_getitem ht.typeIs entry_tuple_getitem ?_ (args_tuple_getitem _ _)))
 show wpAny _ _ (Builtin.Tuple.tupleItemsOf (.ref t) >>= _) _ _ s;refine av (tupleItemsOf_ ht ?_);refine av (wpAny_typeOf Wu ?_);rw[aq (by decide)];refine av (Lu hs hi ?_);have pick:((List.range (endAt i items.size)).filterMap λ(k:Nat)=>items[((0:Int)+(k:Int)*1).toNat]?)=items.toList.take (endAt i items.size):=by
  have e:(λ(k:Nat)=>items[((0:Int)+(k:Int)*1).toNat]?)=λk=>items[k]?:=by
   funext k
   have:((0:Int)+(k:Int)*1).toNat=k:=by lia
   rw[this]
  rw[e];have hle:endAt i items.size<=items.size:=F9 ..;generalize endAt i items.size=n at hle;induction n with
  | zero=>simp
  | succ n ih=>have dH:n<items.size:=hle;rw[List.range_succ,List.filterMap_append,ih (b9 dH)];rw[List.take_succ];simp[Array.getElem?_eq_getElem dH]
 by_cases ko:endAt i items.size=items.size
 ·show wpAny _ _ (if ((0:Int)==0&&(1:Int)==1&&(endAt i items.size)==items.size)=true then _ else _) _ _ s;rw[aq (by rw[ko];simp)];refine av (m:=Builtin.Tuple.tupleIsExact _) ?_;unfold Builtin.Tuple.tupleIsExact;refine av (wpAny_typeOf ht.typeIs (aH ?_));rw[aq (by decide)]
  first
   | exact av (wpAny_rule (aH ⟨_,rfl,aH (q1 ko)⟩))
   | exact av (av (wpAny_rule (aH ⟨_,rfl,aH (q1 ko)⟩)))
   | exact av (wpAny_rule (av (aH (aH ⟨_,rfl,aH (q1 ko)⟩))))
 ·show wpAny _ _ (if ((0:Int)==0&&(1:Int)==1&&(endAt i items.size)==items.size)=true then _ else _) _ _ s;rw[au (by simpa using ko),pick]
  first
   | exact av (m:=Builtin.Tuple.tupleExact _) (wpAny_newObj_type (aH ⟨_,rfl,aH q2⟩) gn)
   | exact av (m:=Builtin.Tuple.tupleExact _) (wpAny_newObj_type (av (aH (aH ⟨_,rfl,aH q2⟩))) gn)
   | exact av (av (m:=Builtin.Tuple.tupleExact _) (wpAny_newObj_type (aH (aH ⟨_,rfl,aH q2⟩)) gn))
theorem idx_eq{xs:List MV}{i:Int}{V:MV}(e:idx xs i=some V):(0<=i/\xs[i.toNat]?=some V)\/(i=-1/\xs[xs.length-1]?=some V):=by
 unfold idx at e;split at e
 ·rename_i h;exact .inl ⟨ai h,e⟩
 ·split at e
  ·rename_i h;exact .inr ⟨ai h,e⟩
  ·exact aM e
theorem Ol{n:Nat}(h:n<=bE):n<=sizeLine:=by rw[bT];exact aW h (by decide)
theorem Om{xs:List MV}{k:Int}{t:Tok}{V:MV}{o:Value}(ro:RT g s.heap (.lst xs) o)(hc:((decide (0<=k)||decide (xs.length<=bE))&&decide (k<=bE))=true)(e:idx xs k=some V) :
  wpAny (model prog w) A (getItem o (.int k t)) (λv s'=>(Tk s s')/\RV g s.heap v V) br s:=by
 have hL:bE=1048576:=rfl;simp only[Bool.and_eq_true,Bool.or_eq_true,decide_eq_true_eq]at hc;refine bz (ro.cont rfl) λb bZ c=>?_;obtain rfl:=bZ;refine bz c.list λvs hl r=>?_;have hn:=jf r;rw[aL]at hn;rcases idx_eq e with ⟨h0,q⟩ | ⟨rfl,q⟩
 ·refine bz (yw r q) λv q' rv=>?_;rw[bV]at q';exact wpAny_getItem_list hl h0 (by lia) q' ⟨⟨s.toks,rfl⟩,rv⟩
 ·refine bz (yw r q) λv q' rv=>?_;have w7:xs.length-1<xs.length:=(bF.mp q).1;rw[bV]at q';refine wpAny_getItem_list_neg hl (by lia) (by lia) (by lia) (x:=v) ?_ ⟨⟨s.toks,rfl⟩,rv⟩;have:((-1:Int)+(vs.size:Nat)).toNat=xs.length-1:=by lia
  rw[this];exact q'
theorem HM{n:Nat}{k:Int}(h:0<=k)(hk:k.toNat<n):seqIndex? k n=some k.toNat:=by unfold seqIndex?;simp only[show ¬k<0 by lia,if_false];exact aq (by simp;lia)
theorem Qj{n:Nat}(h:0<n):seqIndex? (-1) n=some (n-1):=by unfold seqIndex?;simp only[show (-1:Int)<0 by lia,if_true];rw[aq (by simp;lia)];congr 1;lia
theorem item_tup{xs:List MV}{k:Int}{t:Tok}{V:MV}{o:Value}(ro:RV g s.heap o (.tup xs))(hc:(decide (xs.length<=bE)&&decide (k<=bE))=true)(e:idx xs k=some V) :
  wpAny (model prog w) A (getItem o (.int k t)) (λv s'=>(Tk s s')/\RV g s.heap v V) br s:=by
 rw[aI,aK,aK]at hc;induction (bh.inv ro) using jj.casesOn with
 | @tup a ob vs n f1 f2 f3 f4 r=>
 have hn:=jf r;rw[aL]at hn;have ht:IsTup s.heap a vs:=⟨ob,f2,f3,n,f4⟩;have hk:∀{i:Int},i<=bE->i<=4611686018427387903:=λh=>Int.le_trans h (by decide);have hsz:vs.size<=sizeLine:=hn▸Ol hc.1;rcases idx_eq e with ⟨h0,q⟩ | ⟨rfl,q⟩
 ·refine bz (yw r q) λv q' rv=>?_;rw[bV]at q';exact getItem_tuple ht (by have:bE=1048576:=rfl;lia) (by have:bE=1048576:=rfl;lia) (HM h0 (Array.getElem?_eq_some_iff.mp q').1) q' ⟨⟨s.toks,rfl⟩,rv⟩
 ·refine bz (yw r q) λv q' rv=>?_;rw[bV,<-hn]at q';exact getItem_tuple ht (by have:bE=1048576:=rfl;lia) (by have:bE=1048576:=rfl;lia) (Qj (aF (cS _) (Array.getElem?_eq_some_iff.mp q').1)) q' ⟨⟨s.toks,rfl⟩,rv⟩
theorem item_str{z:Str}{k:Int}{t:Tok}{o:Value}(ro:RV g s.heap o (.str z))(hc:(decide (0<=k)&&decide (k<bE)&&decide (k<z.length))=true) :
  wpAny (model prog w) A (getItem o (.int k t)) (λv s'=>(Tk s s')/\RV g s.heap v (.str ⟨#[z.cps.getD k.toNat 0]⟩)) br s:=by
 have hL:bE=1048576:=rfl;simp only[Bool.and_eq_true,decide_eq_true_eq]at hc;induction (bh.inv ro) using iR.casesOn with
 | str t2 hz=>
 have dH:k.toNat<z.cps.size:=by have:z.length=z.cps.size:=rfl;lia
 refine PyProof.Rows.getItem_str (c:=z.cps.getD k.toNat 0) (by simp;lia) ?_ ⟨⟨_,rfl⟩,?_⟩
 ·show ((seqIndex? k z.cps.size).bind _)=_;rw[HM hc.1.1 dH];simp[Array.getD,dH]
 ·refine .str _ ?_;unfold PyData.strOk at hz |-;have:=Array.all_eq_true.mp hz k.toNat dH;simp[Array.getD,dH]at this |-;exact this
theorem Oo{es:List (MV×MV)}{I V:MV}{o i:Value}(hu:A.units+99<cLine)(ro:RT g s.heap (.bO es) o)(ri:RV g s.heap i I)(hc:gE es I=true)(e:eK es I=some V) :
  wpAny (model prog w) A (getItem o i) (λv s'=>(Tk s s')/\RV g s.heap v V) br s:=by
 refine bz (ro.cont rfl) λd bZ cc=>?_;obtain rfl:=bZ;rcases yk (pZ hc) with ⟨i,rfl⟩ | ⟨y,rfl⟩ | ⟨ys,rfl⟩
 ·induction (bh.inv ri) using gR.casesOn with
  | int t=>
  refine cu (r5 cc.bO hc) λZ bZ=>?_;revert bZ;refine gp λkvs D P=>?_;have G:=vH yD i P;rw[e]at G;revert G;refine gp λv z rv=>?_;exact wpAny_getItem_of (intKind_is prog w i t) D.mapOf z ⟨⟨_,rfl⟩,rv⟩
 ·induction (bh.inv ri) using iR.casesOn with
  | str t _=>
  refine cu (vR cc.bO hc) λZ cY=>?_;revert cY;refine gz λkvs Z D P=>?_;have G:=vH yE y P;rw[e]at G;revert G;refine gp λv z rv=>?_;exact wpAny_getItem_of (strKind_is prog w y t) D.mapOf z ⟨⟨_,rfl⟩,rv⟩
 ·induction (bh.inv ri) using jj.casesOn with
  | tup i1 i2 i3 i4 i5=>
  refine cu (yG cc.bO hc) λZ bZ=>?_;revert bZ;refine gp λxs D P=>?_;have G:=Bc (.tup ys) P;rw[e]at G;revert G;refine sQ λa v z rv=>?_;exact wpAny_getItem_heap (aF (by show A.units+1+8<=A.units+99;lia) hu) (yF (pZ hc) (.tup i1 i2 i3 i4 i5)) (vI D P) z ⟨⟨_,rfl⟩,rv⟩
theorem Qk{O I V:MV}{o i:Value}(hu:A.units+99<cLine)(ro:RT g s.heap O o)(ri:RV g s.heap i I)(e:mR O I=some V) :
  wpAny (model prog w) A (getItem o i) (λv s'=>(Tk s s')/\RV g s.heap v V) br s:=by
 revert e;refine F6 (λxs k q1 q2 hc e=>?_) (λxs k q1 q2 hc e=>?_) (λz k q1 q2 hc q=>?_) (λes q hc e=>?_)
 ·subst q1 q2;(induction (bh.inv ri) using gR.casesOn;clear ri);exact Om ro hc e
 ·subst q1 q2;(induction (bh.inv ri) using gR.casesOn;clear ri);exact item_tup (ro.plain rfl) hc e
 ·subst q1 q2 q;(induction (bh.inv ri) using gR.casesOn;clear ri);exact item_str (ro.plain rfl) hc
 ·subst q;exact Oo hu ro ri hc e
structure g9(P:Prog)(K:Frag)(h₀:Heap)(mg mb:Str->Option Value):Prop where
 X:K.In h₀
 z0:h₀.Ns mainGlobals mg
 DT:h₀.Ns builtinsNs mb
 nolimit:h₀.NoLimit
 oH:∀x V,P.oH x=some V->∃v,(mg x=some v\/(mg x=none/\mb x=some v))/\bh (λa=>∃o,h₀.get? a=some o) h₀ [] v V
 fld:∀c k,iV c k=true->plainGet K c k=true/\hasDictIn K c=true/\findIn K (.ref c) k=some none/\plainOver K c=true/\findIn K (.ref c) "__setattr__"=some (some (.builtin "object.__setattr__"))
inductive ez(cx:Ctx)(env:Env)(cv:Str->Addr)(g:G)(st:St)(s:Shared)(a:EV)(st':St)(v:Value)(s':Shared):Prop
 | mk (g':G):Step env.locals cx.ro cx.rb g st.aD s g' st'.aD s'->Rel cx env cv g' st' s'->fc env cx.ro cv s.heap g' s'.heap a v->ez cx env cv g st s a st' v s'
inductive mT(cx:Ctx)(env:Env)(cv:Str->Addr)(g:G)(st:St)(s:Shared)(b:Bool)(st':St)(c:Bool)(s':Shared):Prop
 | mk:c=b->(g':G)->Step env.locals cx.ro cx.rb g st.aD s g' st'.aD s'->Rel cx env cv g' st' s'->mT cx env cv g st s b st' c s'
theorem ez.el{cx:Ctx}{env:Env}{cv:Str->Addr}{g:G}{st:St}{s:Shared}{a:EV}{st':St}{v:Value}{s':Shared}{G:Prop}(p:ez cx env cv g st s a st' v s')
  (k:∀g',Step env.locals cx.ro cx.rb g st.aD s g' st'.aD s'->Rel cx env cv g' st' s'->fc env cx.ro cv s.heap g' s'.heap a v->G):G:=p.casesOn k
theorem mT.el{cx:Ctx}{env:Env}{cv:Str->Addr}{g:G}{st:St}{s:Shared}{b:Bool}{st':St}{c:Bool}{s':Shared}{G:Prop}(p:mT cx env cv g st s b st' c s')
  (k:c=b->∀g',Step env.locals cx.ro cx.rb g st.aD s g' st'.aD s'->Rel cx env cv g' st' s'->G):G:=p.casesOn k
def fT(ev:Ev)(n d:Nat):Prop:=∀⦃cx:Ctx⦄ ⦃env:Env⦄ ⦃cv:Str->Addr⦄ ⦃g:G⦄ ⦃st:St⦄ ⦃s:Shared⦄ ⦃A:Around⦄ ⦃e:Expr⦄ ⦃a:EV⦄ ⦃st':St⦄,
 dm A n d->A.handled=none->ev.e cx e st=some (a,st')->Rel cx env cv g st s->wpAny (model prog w) A (eval e env) (ez cx env cv g st s a st') br s
def kK(ev:Ev)(n d:Nat):Prop:=∀⦃cx:Ctx⦄ ⦃env:Env⦄ ⦃cv:Str->Addr⦄ ⦃g:G⦄ ⦃st:St⦄ ⦃s:Shared⦄ ⦃A:Around⦄ ⦃e:Expr⦄ ⦃b:Bool⦄ ⦃st':St⦄,
 dm A n d->A.handled=none->ev.t cx e st=some (b,st')->Rel cx env cv g st s->wpAny (model prog w) A (isTrue e env (eval e env)) (mT cx env cv g st s b st') br s
def gW(ev:Ev):Prop:=∀(k:Nat) (cx:Ctx) (e:Expr) (st:St) (b:Bool),jH k e=true->ev.e {cx with rb:=b} e st=ev.e cx e st
variable {ev:Ev} {n d:Nat}
theorem Rel.qA(R:Rel cx env cv g st s)(b:Bool):Rel {cx with rb:=b} env cv g st s:=
 ⟨R.ground,⟨R.loc.kinds,R.loc.kind,R.loc.glob,R.loc.blt,R.loc.role,R.loc.vars,R.loc.cells,R.loc.comp,R.loc.inner⟩,R.aD⟩
theorem Rel.zF{b:Bool}(R:Rel {cx with rb:=b} env cv g st s):Rel cx env cv g st s:=
 ⟨R.ground,⟨R.loc.kinds,R.loc.kind,R.loc.glob,R.loc.blt,R.loc.role,R.loc.vars,R.loc.cells,R.loc.comp,R.loc.inner⟩,R.aD⟩
theorem ez.after{bM:G}{aP:St}{bq:Shared}{a:EV}{v:Value}(S:Step env.locals cx.ro cx.rb g st.aD s bM aP.aD bq)(p:ez cx env cv bM aP bq a st' v s'):ez cx env cv g st s a st' v s':=by refine p.el λg' S' R E=>?_;clear p;exact ⟨g',S.trans S',R,E.lo S.live⟩
theorem mT.after{bM:G}{aP:St}{bq:Shared}{a:Bool}{v:Bool}(S:Step env.locals cx.ro cx.rb g st.aD s bM aP.aD bq)(p:mT cx env cv bM aP bq a st' v s'):mT cx env cv g st s a st' v s':=by refine p.el λe g' S' R=>?_;clear p;exact ⟨e,g',S.trans S',R⟩
theorem ez.tok{a:EV}{v:Value}(R:Rel cx env cv g st s)(t:Nat)(E:fc env cx.ro cv s.heap g s.heap a v):ez cx env cv g st s a st v {s with toks:=t}:=
 ⟨g,Step.refl.tok t,R.tok t,E⟩
theorem ez.same{a:EV}{v:Value}(R:Rel cx env cv g st s)(E:fc env cx.ro cv s.heap g s.heap a v):ez cx env cv g st s a st v s:=⟨g,Step.refl,R,E⟩
theorem ez.gives{a:EV}{v:Value}(R:Rel cx env cv g st s)(G:Gives g s a v s'):ez cx env cv g st s a st v s':=by
 rcases G with ⟨h',tk,ρ',e,keep,q⟩
 refine cu (ext (f:=env.locals) (ro:=cx.ro) (rb:=cx.rb) R (s':=s') ⟨h',tk,e⟩ (by rw[e];exact keep) ρ') λS R'=>?_;refine ⟨_,S,R',?_⟩;subst e;induction a using EV.casesOn with
 | val V=>exact q
 | fresh V=>exact q
 | _=>exact q.elim
theorem lP{a:EV}{V:MV}{v:Value}{lo:Heap}(R:Rel cx env cv g st s)(E:fc env cx.ro cv lo g s.heap a v)(e:gf st a=some V):RT g s.heap V v:=by
 induction a using EV.casesOn with
 | val X=>exists e,e;exact RT.wG E
 | fresh X=>
  exists e,e;cases hc:ly V with
  | true=>(refine ji (fW.cont E hc) λb dP Z Z c=>?_;obtain rfl:=dP);exact RT.BG c
  | false=>exact RT.wG (fW.plain E hc)
 | bor X=>exists e,e;(revert E;refine gz λb cY Z c=>?_;obtain rfl:=cY);exact RT.BG c
 | cont l=>(refine ja (pY R E e) λb cY c Z=>?_;obtain rfl:=cY);exact RT.BG c
theorem two{l r:Expr}{a b:EV}{aP eH:St}(SE:fT ev n d)(SI:gW ev)(ro:dm A n d)(hh:A.handled=none)(R:Rel cx env cv g st s)
  (e1:ev.e cx l st=some (a,aP)) (hb:blocks a r=false) (e2:ev.e cx r aP=some (b,eH)) :
  wpAny (model prog w) A (eval l env) (λx bq=>wpAny (model prog w) A (eval r env) (λy s₂=>∃bW,Step env.locals cx.ro cx.rb g st.aD s bW eH.aD s₂/\Rel cx env cv bW eH s₂/\
   fc env cx.ro cv s.heap bW s₂.heap a x/\fc env cx.ro cv s.heap bW s₂.heap b y) br bq) br s:=by
 refine wm (SE ro hh e1 R) (λx bq pq=>?_);refine pq.el λbM bR bL cj=>?_;clear pq;cases hs:rY a with
 | false=>refine wm (SE ro hh e2 bL) (λy s₂ pq=>?_);refine pq.el λbW bY b8 gD=>?_;clear pq;exact ⟨bW,bR.trans bY,b8,cj.step bY bL.aD.len (.inl hs),gD.lo bR.live⟩
 | true=>
  have simple:isSimple r=true:=by
   induction a using EV.casesOn with
   | cont l=>simpa[blocks] using hb
   | _=>exact b7 hs
  have z3:ev.e {cx with rb:=false} r aP=some (b,eH):=(SI 6 cx r aP false simple).trans e2;refine wm (SE ro hh z3 (bL.qA false)) (λy s₂ pq=>?_);refine pq.el λbW bY b8 gD=>?_;clear pq;refine ⟨bW,bR.trans (bY.out (az _) id λq=>.inr rfl),b8.zF,cj.step bY bL.aD.len (.inr (.inr rfl)),gD.lo bR.live⟩
theorem Mh{c:Const}{k:Nat}{pos:Pos}{V:MV}(R:Rel cx env cv g st s)(e:ofConst c=some V):wpAny (model prog w) A (eval (.Constant c k pos) env) (ez cx env cv g st s (.val V) st) br s:=by
 induction c using Const.casesOn with
 | none=>exists e;exact wpAny_Constant_none (.same R .none)
 | bool=>exists e;exact wpAny_Constant_bool (.same R (.bool _))
 | int=>exists e;exact wpAny_Constant_int (.tok R _ (.int _ _))
 | str=>revert e;refine dG λhs e=>?_;exists e;refine wpAny_Constant_str (.tok R _ (.str _ ?_));unfold PyData.strOk;rw[<-Array.all_toList];simpa[Nat.blt_eq] using hs
 | _=>exact aM e
theorem MY{v:Value}{V:MV}(iD:Ground h₀ g h)(r:bh (λa=>∃o,h₀.get? a=some o) h₀ [] v V):RV g h v V:=
 bh.mono (λa o Z e=>iD a o e) (λn e q=>by simp at q) r
theorem FH{a:Addr}{m:Str->Option Value}(iD:Ground h₀ g h)(x:h₀.Ns a m):h.Ns a m:=qV x λo e=>(iD a o e).2
theorem qN(iD:Ground h₀ g h)(X:K.In h₀):K.In h:=λa o e=>(iD a o (X a o e)).2
set_option tactic.hygienic true in
theorem Fc{x:Str}{a:EV}(cP:g9 P K h₀ mg mb)(R:Rel cx env cv g st s)(e:getName P cx st x=some a):wpAny (model prog w) A (loadName env x) (ez cx env cv g st s a st) br s:=by
 skip;revert e;refine jv λgn e=>?_;have gn:vY x=true:=by simpa using gn
 unfold vY at gn;simp only[Bool.and_eq_true,Bool.not_eq_true']at gn;have hk:=R.loc.kinds x;have Tc:∀k,jG cx x=some k->k≠.globalImplicit->k≠.globalExplicit->(match look st.loc x with | some (.v v)=>some (.val v) | some (.own _)=>some (.cont (.var x)) | some (.bor v)=>some (.bor v) | none=>none)=some a->
   wpAny (model prog w) A (loadName env x) (ez cx env cv g st s a st) br s:=by
  intro k vg h1 h2 e;refine bz R.loc.vars λm hn hv=>?_;have kk:env.kindOf x=some k\/(env.kindOf x=some .cell):=by
   revert hk;refine eS (λq=>?Wv) λgk=>?Ww;(case' Ww=>(refine eg gk λZ Z q=>?_));(case' Wv=>(skip))
   ·exact .inl (q.trans vg)
   ·exact .inr q
  have n1:env.kindOf x≠some .globalImplicit:=by (revert kk;refine eS (λq=>?_) λq=>?_)<;>rw[q]<;>intro z<;>first | (exists z,z;exact h1 rfl) | cases (z)
  have n2:env.kindOf x≠some .globalExplicit:=by (revert kk;refine eS (λq=>?_) λq=>?_)<;>rw[q]<;>intro z<;>first | (exists z,z;exact h2 rfl) | cases (z)
  have n3:env.kindOf x≠none:=by (revert kk;refine eS (λq=>?_) λq=>?_)<;>rw[q]<;>intro z<;>injection z
  cases hl:look st.loc x with
  | none=>rw[hl]at e;exact aM e
  | some lv=>
   rw[hl]at e;refine bz (hv x lv hl n1 n2 n3) λv va lvl=>?_;have fin:ez cx env cv g st s a st v s:=by
    induction lv using LV.casesOn with
    | v V=>exists e,e;exact .same R lvl
    | bor V=>exists e,e;exact .same R lvl
    | own V=>
     exists e,e;refine .same R ⟨lvl.1,?_⟩;have hc:cx.comp=false:=by cases Wx:cx.comp with | false=>rfl | true=>exact absurd hl (R.loc.inner Wx x V)
     have Td:=R.loc.comp hc x;cases q:env.kindOf x with
     | none=>exact absurd q n3
     | some k'=>cases (k')<;>first | exact .inl rfl | exact .inr rfl | exact absurd q n1 | exact absurd q n2 | exact absurd q Td
   unfold lV at va;cases q:env.kindOf x with
   | none=>exact absurd q n3
   | some k'=>
    rw[q]at va;cases (k') with
    | «local»=>exact wpAny_loadName_local R.loc.kind q hn va fin
    | cell=>(revert va;refine gp λc hc ic=>?_);exact wpAny_loadName_cell R.loc.kind q hc ic fin
    | free=>(revert va;refine gz λc hc ic Z=>?_);exact wpAny_loadName_free R.loc.kind q hc ic fin (by simpa using gn.2)
    | globalImplicit=>exact absurd q n1
    | globalExplicit=>exact absurd q n2
 split at e
 ·rename_i vg;revert e;refine eZ λV hV gw=>?_;subst gw;refine bz (cP.oH x V hV) λv hv rv=>?_;have kk:env.kindOf x=some .globalImplicit:=by
   revert hk;refine eS (λq=>?Wy) λgk=>?Wz;(case' Wz=>(refine eg gk λZ q Z=>?_));(case' Wy=>(skip))
   ·exact q.trans vg
   ·rw[vg]at q;cases (q)
  rw[loadName_read R.loc.kind kk];unfold loadGlobal;have r:=MY R.ground rv;have z0:=FH R.ground cP.z0;have DT:=FH R.ground cP.DT;rw[R.loc.glob,R.loc.blt];refine av (wpAny_nsGet z0 ?_);revert hv;refine eS (λq=>?WA) λgk=>?WB;(case' WB=>(refine cu gk λq q'=>?_));(case' WA=>(skip))
  ·rw[q];exact aH (.same R r)
  ·rw[q];refine av (wpAny_nsGet DT ?_);rw[q'];exact aH (.same R r)
 ·exact aM e
 ·exact aM e
 ·rename_i k n1 n2 vg;exact Tc k vg n1 n2 e
theorem HN{x:Str}{pos:Pos}{a:EV}(cP:g9 P K h₀ mg mb)(R:Rel cx env cv g st s)(e:getName P cx st x=some a):wpAny (model prog w) A (eval (.Name x pos) env) (ez cx env cv g st s a st) br s:=by
 refine wpAny_Name (Fc cP R e) ?_;skip;revert e;refine jv λgn e=>?_;have gn:vY x=true:=by simpa using gn
 unfold vY at gn;simp only[Bool.and_eq_true,Bool.not_eq_true']at gn;simpa using gn.1
theorem yl{d:Addr}{m:Str->Option Value}(x:h.Ns d m):∃o,h.get? d=some o/\∀k,lookIn k o=some (m k):=by
 revert x;refine UP λo es ep ho hd hk hf=>?_;refine ⟨o,ho,λk=>?_⟩;unfold lookIn;rw[hd];dsimp only;rw[<-hf k];unfold nsFind findBy;rw[<-Array.find?_toList];cases q:es.toList.find? (·.key.isStr k) with
 | some e=>rfl
 | none=>
  have:es.toList.any (·.refKey)=false:=by rw[List.any_eq_false];intro e he;refine iU (hk e (Array.mem_toList_iff.mp he)) λn t z=>?_;simp[DictEntry.refKey,z]
  rw[this];rfl
theorem IB{α:Type}{c:Nat}{fs:List (Str×α)}{k:Str}{x:α}(af:∀k,iV c k=false->look fs k=none)(hl:look fs k=some x):iV c k=true:=by
 cases q:iV c k with
 | true=>rfl
 | false=>rw[af k q]at hl;exact aM hl
theorem FI{v:Value}{V:MV}(r:RV g h v V):handedIn v=true:=by cases (r)<;>first | rfl | assumption
theorem Ga{a d c:Addr}{o:Obj}{m:Str->Option Value}{k:Str}{v:Value}{x:Bool}(cP:g9 P K h₀ mg mb)(iD:Ground h₀ g s.heap)(ha:s.heap.get? a=some o)(hc:o.cls=.ref c)(hd:o.dict=some d)(hn:notCls o=true)
  (hm:s.heap.Ns1 d m) (hf:iV c k=true) (hv:m k=some v) (hh:handedIn v=true):wpAny (model prog w) A (getAttr (.ref a) k x) (λr s'=>r=v/\Tk s s') br s:=by
 refine bz (yl hm.ns) λod tF look=>?_;refine q9 (cP.fld c k hf) λp1 p2 p3 Z Z=>?_;have I:InstAt s.heap a o c (some od):=⟨ha,hc,hn,by rw[hd];exact tF⟩;exact get_value (qN iD cP.X) I (plainGet_of p1).1 (findObj_own p2 p3 rfl (by rw[look,hv])) hh ⟨rfl,_,rfl⟩
theorem Lv{n:Nat}{k:Str}{sl:eO}{v:Value}(sv:lB g h n k sl v):handedIn v=true:=by
 induction sl using eO.casesOn with
 | v V=>exact FI sv
 | c V=>rw[sv.1];rfl
theorem Gb{n:Nat}{k:Str}{sl:eO}{v:Value}{lo:Heap}(hn:n<g.ι.length)(sv:lB g h n k sl v):fc env cx.ro cv lo g h (yP n k sl) v:=by
 induction sl using eO.casesOn with
 | v V=>exact sv
 | c V=>exact ⟨sv.1,hn⟩
theorem GW{a:EV}{o:Value}{k:Str}{b:EV}{x:Bool}{lo:Heap}(cP:g9 P K h₀ mg mb)(R:Rel cx env cv g st s)(E:fc env cx.ro cv lo g s.heap a o)(e:sd st a k=some b) :
  wpAny (model prog w) A (getAttr o k x) (λv s'=>(Tk s s')/\fc env cx.ro cv s.heap g s.heap b v) br s:=by
 have inst:∀{c:Addr} {fs:List (Str×MV)} {bb:Addr} {V:MV},dM g s.heap bb (.inst c fs)->look fs k=some V->
   wpAny (model prog w) A (getAttr (.ref bb) k x) (λv s'=>(Tk s s')/\fc env cx.ro cv s.heap g s.heap (.val V) v) br s:=by
  intro c fs bb V C hl;cases (C) with
  | inst e1 e2 e3 e4 e5 e6 e7 ef e8 e9 qB=>
   have fl:iV c k=true:=by cases q:iV c k with | true=>rfl | false=>rw[ef k q]at hl;exact aM hl
   have rv:=qB k V hl;refine wm (Ga cP R.ground e3 e4 e5 e6 e7 fl (e9 k V hl) (FI rv)) (λv s' ⟨q,t⟩=>?_);subst q;exact ⟨t,rv⟩
 have slot:∀{n:Nat} {c:Addr} {sl:eO},RV g s.heap o (.obj n)->(st.aD[n]?).map (·.cls)=some (some c)->getSlot st.aD n k=some sl->
   wpAny (model prog w) A (getAttr o k x) (λv s'=>(Tk s s')/\fc env cx.ro cv s.heap g s.heap (yP n k sl) v) br s:=by
  intro n c sl E hc hs;induction (bh.inv E) using qw.casesOn with
  | obj j5=>
  refine bz (vA hs) λpo kC hl=>?_;have ob:=R.aD.at_ n _ po j5 kC;cases (ob) with
  | inst a1 a2 a3 a4 a5 a6 a7 af S=>refine bz (S.get hl) λv hv sv=>?_;refine wm (Ga cP R.ground a3 a4 a5 a6 a7 (IB af hl) hv (Lv sv)) (λv s' p=>?_);revert p;refine gj λbA t=>?_;obtain rfl:=bA;exact ⟨t,Gb (bF.mp j5).1 sv⟩
  | dict a1 a2 a3 S=>rw[kC]at hc;exact nomatch hc
 revert e;refine MS (λn c sl q hc hs hb=>?_) (λc fs V q hl hb=>?_) (λc fs V q hl hb=>?_) (λl c fs V q hd hl hb=>?_)<;>subst q hb
 ·exact slot E hc hs
 ·refine bz ((RT.wG E).cont rfl) λb' bZ c=>?_;obtain rfl:=bZ;exact inst c.inst hl
 ·revert E;refine gz λb' cY Z c=>?_;obtain rfl:=cY;exact inst c hl
 ·refine ja (pY R E hd) λb' cY c Z=>?_;obtain rfl:=cY;exact inst c hl
set_option tactic.hygienic true in
theorem Fd{o:Expr}{k:Str}{t:Sem Value}(e:n6 o=true):attributeBase o k env t=t:=by
 induction o using aac with
 | Call f as kw p=>
  induction f using aac with
  | Name=>
   induction as using aaa with
   | nil=>induction kw using aaa with
    | nil=>exact b7 e
    | cons=>rfl
   | cons=>rfl
  | _=>rfl
 | _=>rfl
theorem Lw{o:Expr}{k:Str}{pos:Pos}{a b:EV}{aP:St}(cP:g9 P K h₀ mg mb)(SE:fT ev n d)(r:dm A n d)(hh:A.handled=none)(R:Rel cx env cv g st s)(hs:n6 o=true)
  (e1:ev.e cx o st=some (a,aP)) (e2:sd aP a k=some b):wpAny (model prog w) A (eval (.Attribute o k pos) env) (ez cx env cv g st s b aP) br s:=by
 rw[arm_eval_Attribute,Fd hs];refine av (wm (SE r hh e1 R) (λx bq ⟨bM,bR,bL,cj⟩=>av (wpAny_standAt (av (eB (wm (GW cP bL cj e2) (λv s₂ z=>?_)))))));revert z;refine gj λbA gD=>?_;revert bA;refine gh λtk iW=>?_;obtain rfl:=iW;exact av (wpAny_letTemporaryGo (aH (ez.after bR (.tok bL _ gD))))
theorem GX{a b c:EV}{o i:Value}{lo:Heap}(hu:A.units+99<cLine)(R:Rel cx env cv g st s)(Eo:fc env cx.ro cv lo g s.heap a o)(Ei:fc env cx.ro cv lo g s.heap b i)(e:itemOf st a b=some c) :
  wpAny (model prog w) A (getItem o i) (λv s'=>(Tk s s')/\fc env cx.ro cv s.heap g s.heap c v) br s:=by
 revert e;refine Fz (λn k sl q1 q2 hc hs q=>?_) (λI O V q1 ho hV q=>?_)
 ·subst q1 q2 q;induction (bh.inv Eo) using qw.casesOn with
  | obj j5=>
  induction (bh.inv Ei) using iR.casesOn with
  | str t hk=>
  refine bz (vA hs) λpo kC hl=>?_;have ob:=R.aD.at_ n _ po j5 kC;cases (ob) with
  | inst a1 a2 a3 a4 a5 a6 a7 af S=>rw[kC]at hc;exact nomatch hc
  | dict a1 a2 a3 S=>refine bz (S.get hl) λv hv sv=>?_;rw[a1];exact wpAny_getItem_of (strKind_is prog w k t) a3.mapOf hv ⟨⟨_,rfl⟩,Gb (bF.mp j5).1 sv⟩
 ·subst q1 q;exact Qk hu (lP R Eo ho) Ei hV
theorem AI{V:MV}{v:Value}{lo:Heap}{bM:G}{bq:Shared}{gi:eN}(R:Rel cx env cv g st s)(t:fW lo g s.heap V v)(hc:oU V=true)(S:Step f ro rb bM gi bq g st.aD s)(hl:∀b o,bq.heap.get? b=some o->∃o',lo.get? b=some o') :
  ∃g',Step f ro rb bM gi bq g' st.aD s/\Rel cx env cv g' st s/\RV g' s.heap v V/\Up g s.heap g' s.heap/\g'.cs=g.cs/\g'.ι=g.ι/\(∀b,g.ρ b≠.fy->g'.ρ b=g.ρ b):=by
 cases hk:ly V with
 | false=>exact ⟨g,S,R,t.plain hk,.refl,rfl,rfl,λZ Z=>rfl⟩
 | true=>
  refine ji (t.cont hk) λb dP h1 h2 c=>?_;obtain rfl:=dP;have nf:¬(Role.frozen=g.ρ b):=by rw[h2];exact dS rfl
  exact ⟨g.tag V b .frozen,S.tag (h1.old hl) _,R.tag c h2 _,(c.tag .frozen (λe=>nf e.symm)).frozen (n5 ..) hc,(c.exc .frozen).up nf,rfl,rfl,λa q=>BF c (by rw[h2];exact q)⟩
def mZ(env:Env)(ro:Bool)(cv:Str->Addr)(g:G)(h:Heap)(a:EV)(v:Value):Prop:=match a with
 | .fresh V=>RV g h v V/\oU V=true
 | a=>fc env ro cv h g h a v
class inductive mU(env:Env)(ro:Bool)(cv:Str->Addr)(g:G)(h:Heap):List EV->List Value->Prop
 | nil:mU env ro cv g h [] []
 | cons {a:EV} {v:Value} {as:List EV} {vs:List Value}:mZ env ro cv g h a v->mU env ro cv g h as vs->mU env ro cv g h (a::as) (v::vs)
theorem mZ.step{a:EV}{v:Value}(t:mZ env ro cv g s.heap a v)(x:Step env.locals ro rb g σ s g' σ' s')(hl:g.ι.length=σ.length)(hs:gX a=false\/(ro=true\/rb=false)):mZ env ro cv g' s'.heap a v:=by
 induction a using EV.casesOn with
 | fresh V=>exact ⟨x.up.v t.1,t.2⟩
 | cont l=>
  induction l using Loc.casesOn with
  | slot n k=>exact fc.step (a:=.cont (.slot n k)) (lo:=s.heap) (cv:=cv) t x hl hs
  | var y=>exact fc.step (a:=.cont (.var y)) (lo:=s.heap) (cv:=cv) t x hl (.inl rfl)
 | val V=>exact fc.step (a:=.val V) (lo:=s.heap) (cv:=cv) t x hl (.inl rfl)
 | bor V=>exact fc.step (a:=.bor V) (lo:=s.heap) (cv:=cv) t x hl (.inl rfl)
theorem mZ.of{a:EV}{v:Value}{lo:Heap}{bM:G}{bq:Shared}{gi:eN}(R:Rel cx env cv g st s)(E:fc env cx.ro cv lo g s.heap a v)(hk:uq a=true)(S:Step env.locals ro rb bM gi bq g st.aD s)(hl:∀b o,bq.heap.get? b=some o->∃o',lo.get? b=some o') :
  ∃g',Step env.locals ro rb bM gi bq g' st.aD s/\Rel cx env cv g' st s/\mZ env cx.ro cv g' s.heap a v:=by
 induction a using EV.casesOn with
 | fresh V=>refine ji (AI R E hk S hl) λg' S' R' r Z=>?_;exact ⟨g',S',R',r,hk⟩
 | val V=>exact ⟨g,S,R,E⟩
 | bor V=>exact ⟨g,S,R,E⟩
 | cont l=>induction l using Loc.casesOn<;>exact ⟨g,S,R,E⟩
theorem oX{e:Expr}{r:List Expr}(h:noStar e=true):starEach (e::r) env=(false,eval e env)::starEach r env:=by induction e using aac<;>first | rfl | exact b7 h
theorem uv{pos:Pos}(SE:fT ev n d)(r:dm A n d)(hh:A.handled=none){es:List Expr}:∀{as:List EV} {g:G} {st st':St} {s:Shared},es.all noStar=true->fC (ev.e cx) es st=some (as,st')->(as.any gX=false\/(cx.ro=true\/cx.rb=false))->Rel cx env cv g st s->
  wpAny (model prog w) A (spliced (backTo pos (starEach es env))) (λvs s'=>vs.length=es.length/\∃g',Step env.locals cx.ro cx.rb g st.aD s g' st'.aD s'/\Rel cx env cv g' st' s'/\mU env cx.ro cv g' s'.heap as vs) br s:=by
 induction es with
 | nil=>intro as g st st' s dj e hs R;exists e,e;exact wpAny_items_nil ⟨rfl,g,Step.refl,R,.nil⟩
 | cons e es ih=>intro as g st st' s dj he hs R;have dj:=ak.mp dj;revert he;refine eG λa aP e1 he=>dG (λgn he=>eG (λbs eH e2 he=>?_) he) he;exists he,he;have gJ:=hs.imp (λq=>Bool.or_eq_false_iff.mp q) id;refine wpAny_items_cons (wm (SE r hh e1 R) (λv bq pq=>?_)) (oX dj.1);refine pq.el λbM bR bL cj=>cg (mZ.of bL cj gn bR λ_ o e=>⟨o,e⟩) λbW q=>eg q λbY b8 jt=>?_;refine wm (ih dj.2 e2 (gJ.imp (·.2) id) b8) (λvs gq pq=>cu pq λhlen q=>cg q λjk q=>eg q λgu gA Vd=>?_);exact ⟨bf (·+1) hlen,jk,bY.trans gu,gA,.cons (jt.step gu b8.aD.len (gJ.imp (·.1) id)) Vd⟩
theorem AZ{f f':Expr->St->Option (EV×St)}{es:List Expr}:∀{st:St},(∀e∈es,∀st,f e st=f' e st)->fC f es st=fC f' es st:=by
 induction es with
 | nil=>exact λ_=>rfl
 | cons e r ih=>intro st h;show (f e st).bind _=(f' e st).bind _;rw[h e (.head _) st];refine bf _ (funext λp=>?_);dsimp only;rw[ih λx hx=>h x (.tail _ hx)]
theorem Fe(SI:gW ev){es:List Expr}{st:St}(h:es.all isSimple=true):fC (ev.e {cx with rb:=false}) es st=fC (ev.e cx) es st:=
 AZ λe he st=>SI 6 cx e st false (aG.mp h e he)
theorem args{pos:Pos}{es:List Expr}{as:List EV}(SE:fT ev n d)(SI:gW ev)(r:dm A n d)(hh:A.handled=none)(dj:es.all noStar=true)(e:fC (ev.e cx) es st=some (as,st'))(ho:jI cx (es.all isSimple) as=true)(R:Rel cx env cv g st s) :
  wpAny (model prog w) A (spliced (backTo pos (starEach es env))) (λvs s'=>vs.length=es.length/\∃g',Step env.locals cx.ro cx.rb g st.aD s g' st'.aD s'/\Rel cx env cv g' st' s'/\mU env cx.ro cv g' s'.heap as vs) br s:=by
 unfold jI at ho;rw[er,er]at ho;rcases ho with (ho | ho) | ho
 ·refine wm (uv (cx:={cx with rb:=false}) SE r hh dj ((Fe SI ho).trans e) (.inr (.inr rfl)) (R.qA false)) (λvs s' pq=>?_);revert pq;refine gj λhl cY=>?_;revert cY;refine gz λg' S' R' K'=>?_;exact ⟨hl,g',S'.out (az _) id λZ=>.inr rfl,R'.zF,K'⟩
 ·exact uv SE r hh dj e (.inr (.inr (by simpa using ho))) R
 ·exact uv SE r hh dj e (.inl (by simpa using ho)) R
theorem Bd{as:List EV}{vs:List Value}{Vs:List MV}(k:mU env ro cv g h as vs)(e:qU as=some Vs):RL g h vs Vs/\Vs.length=as.length:=by
 induction k generalizing Vs with
 | nil=>obtain rfl:=someE e;exact ⟨.nil,rfl⟩
 | @cons a _ _ _ k r ih=>
  revert e;refine cN λV e1 e=>?_;revert e;refine cN λVs e2 e=>?_;obtain rfl:=someE e;refine cu (ih e2) λr1 r2=>?_;refine ⟨.cons ?_ r1,by simp[r2]⟩;induction a using EV.casesOn with
  | val V'=>exists e1;exact k
  | fresh V'=>
   simp only[jB]at e1;split at e1
   ·exists e1;exact k.1
   ·exact aM e1
  | _=>exact aM e1
theorem EX{as:List EV}:∀{Vs:List MV},qU as=some Vs->as.any gX=false:=by
 induction as with
 | nil=>exact λZ=>rfl
 | cons a as ih=>intro Vs e;revert e;refine cN λV e1 e=>?_;revert e;refine cN λVs e2 e=>?_;rw[dF,ih e2];induction a using EV.casesOn<;>first | rfl | exact aM e1
theorem yi{fe:Expr->St->Option (EV×St)}{es:List Expr}:∀{as:List EV} {st st':St},fC fe es st=some (as,st')->as.length=es.length:=by
 induction es with
 | nil=>intro as st st' e;exists e;rfl
 | cons e es ih=>intro as st st' he;refine eG (λa aP e1 he=>dG (λ_ he=>eG (λbs eH e2 he=>?_) he) he) he;exists he;exact bf (·+1) (ih e2)
theorem Ql{es:List Expr}{k:Nat}{pos:Pos}{as:List EV}{Vs:List MV}(SE:fT ev n d)(r:dm A n d)(hh:A.handled=none)(R:Rel cx env cv g st s)(dj:es.all noStar=true)(hl:es.length<=bE)
  (e:fC (ev.e cx) es st=some (as,st')) (ek:qU as=some Vs):wpAny (model prog w) A (eval (.Tuple es k pos) env) (ez cx env cv g st s (.val (.tup Vs)) st') br s:=by
 refine wpAny_Tuple (wm (uv SE r hh dj e (.inl (EX ek)) R) (λvs bq pq=>?_));revert pq;refine gj λhlen cY=>?_;revert cY;refine gz λbM bR bL Dg=>?_;refine ⟨by rw[hlen,bT];have:bE=1048576:=rfl;lia,ez.after bR (.gives bL (Gives.Cm bq.toks rfl λg' u hf hg=>?_))⟩;exact .tup hf hg rfl rfl (u.l (Bd Dg ek).1)
theorem RQ{es:List Expr}{pos:Pos}{as:List EV}{Vs:List MV}(SE:fT ev n d)(r:dm A n d)(hh:A.handled=none)(R:Rel cx env cv g st s)(dj:es.all noStar=true)(hl:es.length<=bE)
  (e:fC (ev.e cx) es st=some (as,st')) (ek:qU as=some Vs):wpAny (model prog w) A (eval (.List es pos) env) (ez cx env cv g st s (.fresh (.lst Vs)) st') br s:=by
 refine wpAny_List (wm (uv SE r hh dj e (.inl (EX ek)) R) (λvs bq pq=>?_));revert pq;refine gj λhlen cY=>?_;revert cY;refine gz λbM bR bL Dg=>?_;refine ⟨by rw[hlen,bT];have:bE=1048576:=rfl;lia,ez.after bR (.gives bL (Gives.push bq.toks rfl rfl rfl λg' u hg=>?_))⟩;exact .lst ⟨_,hg⟩ (u.l (Bd Dg ek).1)
variable {C:j0}
theorem Qm{l r:Expr}{op:Operator}{pos:Pos}{a:EV}(SE:fT ev n d)(SI:gW ev)(ro:dm A n d)(hh:A.handled=none)(R:Rel cx env cv g st s)
  (e:fV P C ev cx (.BinOp l op r pos) st=some (a,st')):wpAny (model prog w) A (eval (.BinOp l op r pos) env) (ez cx env cv g st s a st') br s:=by
 revert e;refine eG λzG aP e1 e=>?_;revert e;refine jv λhb e=>?_;revert e;refine eG λVe eH e2 e=>?_;revert e;refine cN λX ex e=>?_;revert e;refine cN λY ey e=>?_;revert e;refine eZ λV eV e=>?_;exists e;refine wpAny_BinOp (wm (two SE SI ro hh R e1 (by simpa using hb) e2) (λx bq h1=>wm h1 (λy s₂ pq=>?_)));revert pq;refine ow λbW bY b8 cj gD=>?_;exact wm (Oe (lP b8 cj ex) (lP b8 gD ey) eV) (λv gq G=>ez.after bY (.gives b8 G))
theorem GY{x:Expr}{i:Int}(e:CV x=some i):∃k p,x=.Constant (.int i) k p:=by
 induction x using aac with
 | Constant c k p=>
  induction c using Const.casesOn with
  | int j=>exists e;exact ⟨k,p,rfl⟩
  | _=>exact aM e
 | _=>exact aM e
theorem Gd{op:UnaryOp}(e:za op=true):op=.Not:=by
 induction op using UnaryOp.casesOn with
 | Not=>rfl
 | _=>exact b7 e
theorem Oq{op:UnaryOp}(e:Il op=true):op=.USub:=by
 induction op using UnaryOp.casesOn with
 | USub=>rfl
 | _=>exact b7 e
theorem MZ{op:CmpOp}{r:Expr}(e:jJ r=false):behindInMarks op r=false:=by induction r using aac<;>first | rfl | injection e
theorem IC{l r:Expr}{op:CmpOp}{b:Bool}{Q:Value->Shared->Prop}(SE:fT ev n d)(SI:gW ev)(ro:dm A n d)(hh:A.handled=none)(R:Rel cx env cv g st s)
  (e:fV.pD ev cx l op r st=some (b,st')):behindInMarks op r=false/\wpAny (model prog w) A (eval l env) (λx bq=>wpAny (model prog w) A (eval r env) (λy s₂=>wpAny (model prog w) A (compareOp op x y)
   (λv gq=>v=.bool b/\∃jk,Step env.locals cx.ro cx.rb g st.aD s jk st'.aD gq/\Rel cx env cv jk st' gq) br s₂) br bq) br s:=by
 revert e;refine jv λg4 e=>?_;revert e;refine eG λzG aP e1 e=>?_;dsimp only at e;revert e;refine jv λhb e=>?_;revert e;refine eG λVe eH e2 e=>?_;revert e;refine cN λX ex e=>?_;revert e;refine cN λY ey e=>?_;revert e;refine eZ λV eV e=>?_;exists e;refine ⟨MZ (by simpa using g4),wm (two SE SI ro hh R e1 (by simpa using hb) e2) (λx bq h1=>wm h1 (λy s₂ pq=>?_))⟩;revert pq;refine ow λbW bY b8 cj gD=>?_;refine wm (Oj ro.u (lP b8 cj ex) (lP b8 gD ey) eV) (λv gq ⟨q,tk,q2⟩=>?_);subst q2;exact ⟨q,bW,bY.tok tk,b8.tok tk⟩
theorem M0{l r:Expr}{op:CmpOp}{pos:Pos}{a:EV}(SE:fT ev n d)(SI:gW ev)(ro:dm A n d)(hh:A.handled=none)(R:Rel cx env cv g st s)
  (e:(fV.pD ev cx l op r st |>.map λ(b,st)=>(EV.val (.bool b),st))=some (a,st')):wpAny (model prog w) A (eval (.Compare l [op] [r] pos) env) (ez cx env cv g st s a st') br s:=by
 revert e;refine Iu λb aP e1 e=>?_;exists e;refine cu (IC (Q:=λZ Z=>True) SE SI ro hh R e1) λhm H=>?_;refine wpAny_Compare1 (wm H (λx bq h1=>wm h1 (λy s₂ h2=>wm h2 (λv gq ⟨q,jk,gu,gA⟩=>?_)))) hm;subst q;exact ⟨jk,gu,gA,.bool b⟩
theorem M1{op:UnaryOp}{x:Expr}{pos:Pos}{a:EV}(SE:fT ev n d)(ro:dm A n d)(hh:A.handled=none)(R:Rel cx env cv g st s)
  (e:fV P C ev cx (.UnaryOp op x pos) st=some (a,st')):wpAny (model prog w) A (eval (.UnaryOp op x pos) env) (ez cx env cv g st s a st') br s:=by
 revert e;refine mD (λho e=>?_) λZ e=>?_
 ·obtain rfl:=Gd ho;revert e;refine eG λzG aP e1 e=>?_;revert e;refine cN λX ex e=>?_;revert e;refine eZ λb eb e=>?_;exists e;refine wpAny_UnaryOp (wm (SE ro hh e1 R) (λv bq p=>?_));refine p.el λbM bR bL cj=>?_;clear p;refine not_value (wm (Bb (lP bL cj ex) eb) (λc s₂ p=>?_));revert p;refine gj λbA dP=>?_;obtain rfl:=bA;revert dP;refine gh λtk g8=>?_;obtain rfl:=g8;exact ⟨bM,bR.tok tk,bL.tok tk,.bool _⟩
 ·revert e;refine dG λho e=>?_;revert e;refine cN λi ei e=>?_;revert e;refine dG λZ e=>?_;exists e;refine iU (GY ei) λk p bA=>?_;obtain rfl:=bA;obtain rfl:=Oq ho;refine wpAny_UnaryOp (wpAny_Constant_int (PySem.P.neg_int ?_));exact .tok R _ (.int _ _)
theorem Qn{t b o:Expr}{pos:Pos}{a:EV}(SE:fT ev n d)(ST:kK ev n d)(ro:dm A n d)(hh:A.handled=none)(R:Rel cx env cv g st s)
  (e:fV P C ev cx (.IfExp t b o pos) st=some (a,st')):wpAny (model prog w) A (eval (.IfExp t b o pos) env) (ez cx env cv g st s a st') br s:=by
 revert e;refine eG λc aP e1 e=>?_;refine wpAny_IfExp (wm (ST ro hh e1 R) (λc' bq p=>?_));refine p.el λbA bM bR bL=>?_;clear p;obtain rfl:=bA;induction c' using aad with
 | true=>exact wm (SE ro hh e bL) (λv s₂ p=>p.after bR)
 | false=>exact wm (SE ro hh e bL) (λv s₂ p=>p.after bR)
set_option tactic.hygienic true in
theorem Qo{op:BoolOp}{pos:Pos}(SE:fT ev n d)(ro:dm A n d)(hh:A.handled=none){es:List Expr}{a:EV}:∀{g:G} {st st':St} {s:Shared},Rel cx env cv g st s->
  fV.yZ ev cx op es st=some (a,st')->wpAny (model prog w) A (boolOp pos op (evalEach es env)) (ez cx env cv g st s a st') br s:=by
 induction es with
 | nil=>exact λR e=>aM e
 | cons x r ih=>
  intro g st st' s R e;induction r using aaa with
  | nil=>exact SE ro hh e R
  | cons y r=>
  revert e;refine eG λzG aP e1 e=>?_;dsimp only at e;show wpAny (model prog w) A (eval x env >>= λv=>standAt pos >>= λZ=>holding [v] (truthy v) >>= λt=>match op,t with | .And,false=>pure v | .Or,true=>pure v | _,_=>boolOp pos op (evalEach (y::r) env)) _ _ _;refine av (wm (SE ro hh e1 R) (λv bq pq=>av (wpAny_standAt (av (eB ?_)))));refine pq.el λbM bR bL cj=>?_;clear pq;induction zG using EV.casesOn with
  | val V=>
   revert e;refine cN λb eb e=>?_;refine wm (Bb (RT.wG cj) eb) (λt s₂ p=>?_);refine cu p λq p=>cg p λtk q2=>?_;subst q q2;have b8:=bL.tok tk;have bY:=bR.tok tk;induction op using BoolOp.casesOn<;>induction t using aad
   ·exists e;exact aH ⟨bM,bY,b8,cj⟩
   ·exact wm (ih b8 e) (λv gq p=>p.after bY)
   ·exact wm (ih b8 e) (λv gq p=>p.after bY)
   ·exists e;exact aH ⟨bM,bY,b8,cj⟩
  | _=>exact aM e
theorem M3{o i:Value}{slice:Expr}(e:uc slice=false):subscripted slice false o i=operate [o,i] (getItem o i):=by
 induction slice using aac with
 | Slice=>exact b7 e.symm
 | _=>rfl
theorem Mi{O I V:MV}{o:Value}(rt:RT g s.heap O o)(hV:mR O I=some V):∃T id,s.TypeIs o T/\typeLookup (.type T) "__getitem__"=pure (some (.builtin id)):=by
 refine F6 (λxs i q Z Z Z=>?_) (λxs i q Z Z Z=>?_) (λz i q Z Z Z=>?_) (λes q Z Z=>?_) hV<;>subst q
 ·refine bz (rt.cont rfl) λb' bZ c=>?_;obtain rfl:=bZ;refine bz c.list λvs i Z=>?_;exact ⟨"list",_,i.typeIs,PySem.F.slot_list_getitem.lookup⟩
 ·induction (bh.inv (rt.plain rfl)) using jj.casesOn with
  | tup i1 i2 i3 i4 i5=>exact ⟨"tuple",_,⟨_,i2,i3⟩,PySem.F.slot_tuple_getitem.lookup⟩
 ·induction (bh.inv (rt.plain rfl)) using iR.casesOn with
  | str t k=>exact ⟨"str",_,typeIs_str s _ _,PySem.F.slot_str_getitem.lookup⟩
 ·refine bz (rt.cont rfl) λb' bZ c=>?_;obtain rfl:=bZ;refine ⟨"dict",_,?_,PySem.F.slot_dict_getitem.lookup⟩;cases (c).bO with
  | lK y D r=>exact D.typeIs
  | mw y k D r=>exact D.typeIs
  | mz y D r=>(revert D;refine zB λo es ep q x Z=>?_);exact ⟨o,q,x.1⟩
theorem M4{a b c:EV}{o i:Value}{lo:Heap}(R:Rel cx env cv g st s)(Eo:fc env cx.ro cv lo g s.heap a o)(e:itemOf st a b=some c):∃T id,s.TypeIs o T/\typeLookup (.type T) "__getitem__"=pure (some (.builtin id)):=by
 revert e;refine Fz (λn k sl q1 q2 hc hs Z=>?_) (λI O V Z ho hV Z=>Mi (lP R Eo ho) hV);subst q1 q2;induction (bh.inv Eo) using qw.casesOn with
 | obj j5=>
 refine bz (vA hs) λpo kC Z=>?_;have ob:=R.aD.at_ n _ po j5 kC;cases (ob) with
 | inst a1 a2 a3 a4 a5 a6 a7 af S=>rw[kC]at hc;exact nomatch hc
 | dict a1 a2 a3 S=>exact ⟨"dict",_,a1▸a3.typeIs,PySem.F.slot_dict_getitem.lookup⟩
theorem Lx{o i:Expr}{pos:Pos}{a b c:EV}{aP:St}(SE:fT ev n d)(SI:gW ev)(ro:dm A n d)(hh:A.handled=none)(R:Rel cx env cv g st s)(hs:uc i=false)
  (e1:ev.e cx o st=some (a,aP)) (hb:blocks a i=false) (e2:ev.e cx i aP=some (b,st')) (e3:itemOf st' a b=some c):wpAny (model prog w) A (eval (.Subscript o i pos) env) (ez cx env cv g st s c st') br s:=by
 refine Subscript_ (wm (two SE SI ro hh R e1 hb e2) (λx bq h1=>wm h1 (λy s₂ pq=>?_)));revert pq;refine ow λbW bY b8 cj gD=>?_;refine kj (M4 (i:=y) b8 cj e3) λT id hT hl=>?_;refine tail_any hT hl (wm (GX ro.u b8 cj gD e3) (λv gq ⟨⟨tk,q⟩,m5⟩=>?_)) (M3 hs);subst q;exact ez.after bY (.tok b8 tk m5)
set_option tactic.hygienic true in
theorem RS{V:MV}{o:Value}{i:Int}{u:Tok}{sl:Addr}{a:EV}(rt:RT g s.heap V o)(hs:s.heap.IsSliceOf sl .none (.int i u) .none)(e:Jc V i=some a) :
  (∃T id,s.TypeIs o T/\typeLookup (.type T) "__getitem__"=pure (some (.builtin id)))/\wpAny (model prog w) A (getItem o (.ref sl)) (λv s'=>Gives g s a v s') br s:=by
 have hL:bE=1048576:=rfl;refine Ck (λxs hV e=>?_) (λxs hV e=>?_) e
 ·subst hV;refine dG (λhc e=>?_) e
  ·revert e;refine eZ λys ey gw=>?_;subst gw;refine eg (F8 ey) λhi WC bA=>?_;obtain rfl:=bA;refine bz (rt.cont rfl) λb bZ c=>?_;obtain rfl:=bZ;refine bz c.list λvs hl r=>?_;have hn:=jf r;rw[aL]at hn;refine ⟨⟨"list",_,hl.typeIs,PySem.F.slot_list_getitem.lookup⟩,?_⟩;refine wpAny_getItem_list_slice hl hs .none (.int i u) .none (λq=>nomatch q) ?_ (by rw[bT];lia);rw[MW vs hi];exact Gives.push _ rfl rfl rfl λg' up hg=>.lst ⟨_,hg⟩ (by rw[<-hn];exact up.l (FE _ r))
 ·subst hV;refine dG (λhc e=>?_) e
  ·revert e;refine eZ λys ey gw=>?_;subst gw;refine eg (F8 ey) λhi WC bA=>?_;obtain rfl:=bA;induction (bh.inv (rt.plain rfl)) using jj.casesOn with
   | @tup a ob vs n f1 f2 f3 f4 r=>
   have hn:=jf r;rw[aL]at hn;have ht:IsTup s.heap a vs:=⟨ob,f2,f3,n,f4⟩;refine ⟨⟨"tuple",_,ht.typeIs,PySem.F.slot_tuple_getitem.lookup⟩,?_⟩;refine MX ht hs hi (by rw[bT];lia) (λq=>?_) ?_
   ·rw[<-hn,q,List.take_of_length_le (by rw[hn];exact az _)];exact Gives.tok (.tup f1 f2 f3 f4 r) _
   ·exact Gives.Cm _ rfl λg' up hf hg=>.tup hf hg rfl rfl (by rw[<-hn];exact up.l (FE _ r))
set_option tactic.hygienic true in
theorem Qp{o i:Expr}{p pos:Pos}{a b c:EV}{aP:St}(SE:fT ev n d)(SI:gW ev)(ro:dm A n d)(hh:A.handled=none)(R:Rel cx env cv g st s)(hs:isSimple i=true)
  (e1:ev.e cx o st=some (a,aP)) (e2:ev.e cx i aP=some (b,st')) (e3:Cg st' a b=some c):wpAny (model prog w) A (eval (.Subscript o (.Slice none (some i) none p) pos) env) (ez cx env cv g st s c st') br s:=by
 have hb:blocks a i=false:=by induction a using EV.casesOn<;>first | rfl | (simp[blocks,hs])
 refine Subscript_ (wm (two SE SI ro hh R e1 hb e2) (λx bq h1=>?_));refine wpAny_Slice ?_;rw[evalPart_none,evalPart_some];refine aH (wm h1 (λy s₂ h2=>aH ?_));revert h2;refine ow λbW bY b8 cj gD=>?_;refine P8 (λk hk e3=>?_) e3
 ·subst hk;revert e3;refine cN λV hV e3=>?_;induction (bh.inv gD) using gR.casesOn with
  | int t=>
  have keep:∀b o',s₂.heap.get? b=some o'->(s₂.heap.push {cls:=.type "slice",data:=.fields #[.none,.int k t,.none]}).get? b=some o':=λb o' e=>aQ _ e;refine cu (ext (f:=env.locals) (ro:=cx.ro) (rb:=cx.rb) (s':={s₂ with heap:=s₂.heap.push {cls:=.type "slice",data:=.fields #[.none,.int k t,.none]}}) b8 ⟨_,_,rfl⟩ keep (λZ=>.free)) λgu gA=>?_;have m5:fc env cx.ro cv s.heap (bW.role s₂.heap λZ=>.free) (s₂.heap.push {cls:=.type "slice",data:=.fields #[.none,.int k t,.none]}) a x:=by
   cases iM:rY a with
   | false=>exact cj.step gu b8.aD.len (.inl iM)
   | true=>
    induction a using EV.casesOn<;>try first | exact b7 iM | cases (iM)
    rename_i l;induction l using Loc.casesOn<;>try first | exact b7 iM | cases (iM)
    exact cj
  have rt:=lP gA m5 hV;refine cu (RS (A:=A) rt (Heap.IsSliceOf.new s₂.heap .none (.int k t) .none) e3) λbA hw=>?_;revert bA;refine sQ λT id hT hl=>?_;refine tail_any (ops:=[.ref s₂.heap.objs.size,x]) hT hl (wm hw (λv pF G=>ez.after (bY.trans gu) (.gives gA G))) rfl
theorem RU(cP:g9 P K h₀ mg mb)(iD:Ground h₀ g s.heap):(s.heap.objs.size==sysModules)=false:=by refine cg (nF cP.z0) λo ho=>?_;have h1:=cJ (iD _ o ho).2;rw[beq_eq_false_iff_ne];intro q;rw[q]at h1;exact absurd h1 (by decide)
theorem Qq{pos:Pos}(cP:g9 P K h₀ mg mb)(R:Rel cx env cv g st s):wpAny (model prog w) A (eval (.Dict [] [] pos) env) (ez cx env cv g st s (.fresh (.bO [])) st) br s:=by refine wpAny_Dict_empty (.gives R (Gives.push (V:=.bO []) s.toks rfl rfl rfl λg' u hg=>?_));exact .lK (RU cP R.ground) (Heap.DictOf.new s.heap) .nil
theorem Te(ST:kK ev n d)(ro:dm A n d)(hh:A.handled=none){es:List Expr}{b:Bool}:∀{g:G} {st st':St} {s:Shared},Rel cx env cv g st s->jM (ev.t cx) es st=some (b,st')->
  wpAny (model prog w) A (allTrue .And es env) (mT cx env cv g st s b st') br s:=by
 induction es with
 | nil=>intro g st st' s R e;exists e;exact wpAny_allTrue_And_nil ⟨rfl,g,Step.refl,R⟩
 | cons x r ih=>
  intro g st st' s R e;revert e;refine eG λc aP e1 e=>?_;refine wpAny_allTrue_And_cons (wm (ST ro hh e1 R) (λc' bq p=>?_));refine p.el λq bM bR bL=>?_;clear p;subst q;induction c' using aad with
  | true=>exact wm (ih bL e) (λv s₂ p=>p.after bR)
  | false=>exists e;exact ⟨rfl,bM,bR,bL⟩
theorem Tf(ST:kK ev n d)(ro:dm A n d)(hh:A.handled=none){es:List Expr}{b:Bool}:∀{g:G} {st st':St} {s:Shared},Rel cx env cv g st s->pC (ev.t cx) es st=some (b,st')->
  wpAny (model prog w) A (allTrue .Or es env) (mT cx env cv g st s b st') br s:=by
 induction es with
 | nil=>intro g st st' s R e;exists e;exact wpAny_allTrue_Or_nil ⟨rfl,g,Step.refl,R⟩
 | cons x r ih=>
  intro g st st' s R e;revert e;refine eG λc aP e1 e=>?_;refine wpAny_allTrue_Or_cons (wm (ST ro hh e1 R) (λc' bq p=>?_));refine p.el λq bM bR bL=>?_;clear p;subst q;induction c' using aad with
  | false=>exact wm (ih bL e) (λv s₂ p=>p.after bR)
  | true=>exists e;exact ⟨rfl,bM,bR,bL⟩
theorem Qs{x:Expr}{a:EV}{V:MV}{b:Bool}(he:isTrue x env (eval x env)=(do let v <-eval x env;standAt x.pos;holding [v] (truthy v)))(SE:fT ev n d)(ro:dm A n d)(hh:A.handled=none)(R:Rel cx env cv g st s)
  (e1:ev.e cx x st=some (a,st')) (e2:gf st' a=some V) (e3:truth V=some b):wpAny (model prog w) A (isTrue x env (eval x env)) (mT cx env cv g st s b st') br s:=by
 refine wpAny_isTrue_value (wm (SE ro hh e1 R) (λv bq pq=>?_)) he;refine pq.el λbM bR bL cj=>?_;clear pq;refine wm (Bb (lP bL cj e2) e3) (λc s₂ ⟨q,tk,q2⟩=>?_);subst q2;exact ⟨q,bM,bR.tok tk,bL.tok tk⟩
theorem Qt{l:Expr}{ops:List CmpOp}{rs:List Expr}{x:Bool×St}(e:Jk ev cx l ops rs st=some x):∃op r,ops=[op]/\rs=[r]/\fV.pD ev cx l op r st=some x:=by
 induction ops using aaa with
 | nil=>exact aM e
 | cons a r=>
  induction r using aaa with
  | cons b r=>exact aM e
  | nil=>
   induction rs using aaa with
   | nil=>exact aM e
   | cons b t=>
    induction t using aaa with
    | nil=>exact ⟨a,b,rfl,rfl,e⟩
    | cons c t=>exact aM e
theorem Qu{l:Expr}{ops:List CmpOp}{rs:List Expr}{x:EV×St}(e:Ji ev cx l ops rs st=some x):∃op r,ops=[op]/\rs=[r]/\(fV.pD ev cx l op r st |>.map λ(b,st)=>(.val (.bool b),st))=some x:=by
 induction ops using aaa with
 | nil=>exact aM e
 | cons a r=>
  induction r using aaa with
  | cons b r=>exact aM e
  | nil=>
   induction rs using aaa with
   | nil=>exact aM e
   | cons b t=>
    induction t using aaa with
    | nil=>exact ⟨a,b,rfl,rfl,e⟩
    | cons c t=>exact aM e
theorem Ot{x:Expr}{b:Bool}(SE:fT ev n d)(SI:gW ev)(ST:kK ev n d)(ro:dm A n d)(hh:A.handled=none)(R:Rel cx env cv g st s)
  (e:stepT P C ev cx x st=some (b,st')):wpAny (model prog w) A (isTrue x env (eval x env)) (mT cx env cv g st s b st') br s:=by
 have val:(isTrue x env (eval x env)=(do let v <-eval x env;standAt x.pos;holding [v] (truthy v)))->CX ev cx x st=some (b,st')->wpAny (model prog w) A (isTrue x env (eval x env)) (mT cx env cv g st s b st') br s:=by intro he e;revert e;refine eG λa aP e1 e=>?_;revert e;refine cN λV e2 e=>?_;revert e;refine eZ λb' e3 e=>?_;exists e;exact Qs he SE ro hh R e1 e2 e3
 induction x using aac with
 | UnaryOp op y p=>
  revert e;refine mD (λho e=>?_) λho e=>?_
  ·obtain rfl:=Gd ho;revert e;refine Iu λb' aP e1 e=>?_;exists e;refine wpAny_isTrue_Not (wm (ST ro hh e1 R) (λc bq p=>?_));refine p.el λbA bM bR bL=>?_;clear p;obtain rfl:=bA;exact ⟨rfl,bM,bR,bL⟩
  ·exact val (by induction op using UnaryOp.casesOn<;>first | rfl | exact absurd rfl ho) e
 | BoolOp op es p=>
  induction op using BoolOp.casesOn with
  | And=>exact wpAny_isTrue_BoolOp (Te ST ro hh R e)
  | Or=>exact wpAny_isTrue_BoolOp (Tf ST ro hh R e)
 | IfExp=>exact aM e
 | Compare l ops rs p=>refine rj (Qt e) λop r g8 nh e=>?_;obtain rfl:=g8;obtain rfl:=nh;refine cu (IC (Q:=λZ Z=>True) SE SI ro hh R e) λhm H=>?_;refine wpAny_isTrue_Compare1 (wm H (λx bq h1=>wm h1 (λy s₂ h2=>wm h2 (λv gq p=>?_)))) hm;revert p;refine gj λbA cY=>?_;obtain rfl:=bA;revert cY;refine gp λjk gu gA=>?_;exact wpAny_truthy_bool ⟨rfl,jk,gu,gA⟩
 | _=>exact val rfl e
theorem E5(x:Int)(l:List Int):(mj x l).Perm (x::l):=by
 induction l with
 | nil=>exact .refl _
 | cons y r ih=>
  show (if decide (x<=y)=true then x::y::r else y::mj x r).Perm (x::y::r);by_cases q:decide (x<=y)=true
  ·rw[aq q]
  ·rw[au q];exact (ih.cons y).trans (.swap x y r)
theorem AB:∀l,(i0 l).Perm l
 | []=>.refl _
 | x::r=>(E5 x _).trans ((AB r).cons x)
theorem K7(x:Int){l:List Int}:l.Pairwise (·<=·)->(mj x l).Pairwise (·<=·):=by
 induction l with
 | nil=>exact λ_=>cG _ _
 | cons y r ih=>
  intro h;have h':=bk.mp h;show (if decide (x<=y)=true then x::y::r else y::mj x r).Pairwise _;by_cases q:x<=y
  ·rw[aq (aa q)];exact bk.mpr ⟨λz hz=>(aC.mp hz).elim (λe=>e▸q) λhz=>Int.le_trans q (h'.1 z hz),h⟩
  ·rw[au λe=>q (ai e)];exact bk.mpr ⟨λz hz=>(aC.mp ((E5 x r).mem_iff.mp hz)).elim (λe=>e▸Int.le_of_lt (Int.not_le.mp q)) (h'.1 z),ih h'.2⟩
theorem AA:∀l,(i0 l).Pairwise (·<=·)
 | []=>.nil
 | x::r=>K7 x (AA r)
theorem M5{vs:List Value}{xs:List MV}{is:List Int}(r:RL g h vs xs)(e:nD xs=some is):IntsAre vs is:=
 dR.ind (P:=λvs xs=>∀is,nD xs=some is->IntsAre vs is) (λZ e=>by obtain rfl:=someE e;exact .nil) (λv V vs xs x r ih is e=>by
  induction V using MV.casesOn with
  | int i=>
   revert e;refine eZ λis e1 gw=>?_;subst gw;induction (bh.inv x) using gR.casesOn with
   | int t=>exact .cons i t (ih _ e1)
  | _=>exact aM e) r is e
theorem FJ{vs:List Value}{is:List Int}(r:IntsAre vs is):RL g h vs (is.map .int):=by
 induction r with
 | nil=>exact .nil
 | cons n t r ih=>exact .cons (.int n t) ih
theorem se{V:MV}{v:Value}{i:Int}(rt:RT g s.heap V v)(e:nO V=some i):wpAny (model prog w) A (call (.builtin "len") [v]) (λr s'=>Gives g s (.val (.int i)) r s') br s:=by
 have hL:bE=1048576:=rfl;refine Ck (λxs hV e=>?_) (λxs hV e=>?_) e
 ·subst hV;refine dG (λhc e=>?_) e
  ·exists e;refine bz (rt.cont rfl) λb bZ c=>?_;obtain rfl:=bZ;refine bz c.list λvs hl r=>?_;have hn:=jf r;rw[aL]at hn;refine PySem.Calls.call_len_list hl (by lia) ?_;rw[<-hn];exact Gives.tok (.int _ _) _
 ·subst hV;refine dG (λhc e=>?_) e
  ·exists e;induction (bh.inv (rt.plain rfl)) using jj.casesOn with
   | @tup a ob vs n f1 f2 f3 f4 r=>
   have hn:=jf r;rw[aL]at hn;refine len_tuple ⟨ob,f2,f3,n,f4⟩ (by lia) ?_;rw[<-hn];exact Gives.tok (.int _ _) _
theorem K0{xs:List MV}{v:Value}{X:MV}(rt:RT g s.heap (.lst xs) v)(e:p8 (.lst xs)=some X):wpAny (model prog w) A (call (.builtin "sorted") [v]) (λr s'=>Gives g s (.fresh X) r s') br s:=by
 unfold p8 at e;dsimp only at e;split at e
 ·rename_i vh;revert e;refine eZ λis e1 gw=>?_;subst gw;refine bz (rt.cont rfl) λb bZ c=>?_;obtain rfl:=bZ;obtain ⟨⟨vs⟩,hl,r⟩:=c.list;have hn:=jf r;refine sorted_ints hl (M5 r e1) (by rw[show vs.length=_ from hn];exact vh) λout DU a1 a2 a3=>?_;have e2:DU=i0 is:=ksm_same (a2.trans (AB is).symm) a3 (AA is);subst e2;refine cg (sortedAll_at s.heap vs out) λep he=>?_;exact ⟨_,s.toks,λZ=>.fy,rfl,λb o q=>sortedAll_old q,fW.of (V:=.lst _) (GR rfl (bG _)) (G.lq (new_of_ge (bG _))) (.lst ⟨ep,he⟩ (FJ a1))⟩
 ·exact aM e
theorem Ge(keep:∀b o,h.get? b=some o->h'.get? b=some o):h.get? h'.objs.size=none:=by
 cases q:h.get? h'.objs.size with
 | none=>rfl
 | some o=>exact absurd (cJ (keep _ _ q)) (dD _)
theorem Ou{V X:MV}{v:Value}(rt:RT g s.heap V v)(e:Hy V=some X):wpAny (model prog w) A (call (.type "tuple") [v]) (λr s'=>Gives g s (.val X) r s') br s:=by
 have hL:bE=1048576:=rfl;refine Ck (λxs hV e=>?_) (λxs hV e=>?_) e
 ·subst hV;refine dG (λhc e=>?_) e
  ·exists e;refine bz (rt.cont rfl) λb bZ c=>?_;obtain rfl:=bZ;refine bz c.list λvs hl r=>?_;have hn:=jf r;rw[aL]at hn;refine call_tuple_list hl (λh' keep=>?_) (by rw[bT];lia);have IE:∀b o,s.heap.get? b=some o->(h'.push {cls:=.type "tuple",data:=.seq vs}).get? b=some o:=λb o q=>aQ _ (keep b o q);refine ⟨_,s.toks,λZ=>.frozen,rfl,IE,?_⟩;exact .tup (G.lq (Ge keep)) (bw _ rfl) rfl rfl ((rZ g _ IE).l r)
 ·subst hV;exists e;induction (bh.inv (rt.plain rfl)) using jj.casesOn with
  | tup f1 f2 f3 f4 r=>exact call_tuple_tup ⟨_,f2,f3,_,f4⟩ (Gives.tok (.tup f1 f2 f3 f4 r) _)
theorem Ly(x:String):PyData.strOk (Str.ofString x)=true:=by
 unfold PyData.strOk;rw[Str.ofString_eq_toList,<-Array.all_toList];simp only[List.all_map,List.all_eq_true,Function.comp];intro ch _;rw[decide_eq_true_iff];refine bu ch.valid (λh=>?_) λh=>?_
 ·exact aZ h (by decide)
 ·exact h.2
set_option tactic.hygienic true in
theorem RW{V X:MV}{v:Value}(rt:RT g s.heap V v)(e:uP V=some X):wpAny (model prog w) A (call (.type "str") [v]) (λr s'=>Gives g s (.val X) r s') br s:=by
 refine RK (λi hV e=>?_) e
 ·subst hV;refine dG (λhc e=>?_) e
  ·exists e;simp only[Bool.and_eq_true,decide_eq_true_eq]at hc;induction (bh.inv (rt.plain rfl)) using gR.casesOn;refine PySem.P.str_of_int ?_ (Gives.tok (.str _ (Ly _)) _);refine bu (Nat.eq_zero_or_pos i.natAbs) (λh0=>?_) λhp=>?_
   ·rw[h0];decide
   ·exact (Nat.log2_lt (Nat.ne_of_gt hp)).mpr (cC (show i.natAbs<2 ^ 20 by lia) (Nat.pow_le_pow_right (by decide) (by decide)))
theorem Mj{vs:List Value}{xs:List MV}{b:Bool}(r:RL g h vs xs):allB xs=some b->∃bs:List Bool,vs=bs.map .bool/\b=bs.all id:=
 dR.ind (P:=λvs xs=>∀b,allB xs=some b->∃bs:List Bool,vs=bs.map .bool/\b=bs.all id) (λb e=>by exists e;exact ⟨[],rfl,rfl⟩) (λv V vs xs x Z ih b e=>by
  induction V using MV.casesOn with
  | bool c=>
   induction (bh.inv x) using wC.casesOn;induction c using aad with
   | true=>exact cg (ih b e) λbs p=>⟨true::bs,bf (Value.bool true::·) p.1,p.2⟩
   | false=>exact eZ (λb' e' q=>cg (ih b' e') λbs p=>⟨false::bs,bf (Value.bool false::·) p.1,q.symm⟩) e
  | _=>exact aM e) r b
theorem RX{V:MV}{v:Value}{b:Bool}(hh:A.handled=none)(rt:RT g s.heap V v)(e:Jb V=some b):wpAny (model prog w) A (call (.builtin "all") [v]) (λr s'=>Gives g s (.val (.bool b)) r s') br s:=by
 refine RJ (λxs hV e=>?_) e
 ·subst hV;refine dG (λhc e=>?_) e
  ·refine bz (rt.cont rfl) λl bZ c=>?_;obtain rfl:=bZ;refine bz c.list λvs hl r=>?_;refine bz (Mj r e) λbs h1 bZ=>?_;obtain rfl:=bZ;have dH:l<s.heap.objs.size:=by (revert hl;refine gp λZ q Z=>?_);exact cJ q
   have hsz:vs.size=bs.length:=by rw[<-aL,h1,aj]
   refine call_all_walk (wpAny_pyIter_list hl ?_);refine ⟨s.heap.objs.size,[s.heap.objs.size,l],[s.heap.objs.size],vs.size,_,_,λi=>(bs[i]?).getD true,rfl,Walks.list (A:=A.in1) hh _ l (di dH) vs,
    ⟨⟨_,bw _ rfl,rfl,rfl⟩,hl.push _⟩,λi v s' Q' E' hP hQ=>?_,λh' tk hk=>?_⟩
   ·have hP:vs[i]?=some v:=hP;rw[<-bV,h1,dw]at hP;revert hP;refine eZ λc' z4 gw=>?_;subst gw;simp only[z4,Option.getD_some]at hQ;exact wpAny_truthy_bool hQ
   ·have e2:((List.range vs.size).all λi=>(bs[i]?).getD true)=bs.all id:=by
     rw[hsz,Bool.eq_iff_iff,aG,aG];constructor
     ·intro q x hx;refine cg (List.mem_iff_getElem.mp hx) λi iW=>?_;revert iW;refine gh λhi bZ=>?_;obtain rfl:=bZ;have:=q i (dN.mpr hi);simpa[List.getElem?_eq_getElem hi] using this
     ·intro q i hi;have hi:=dN.mp hi;simpa[List.getElem?_eq_getElem hi] using q bs[i] (List.getElem_mem hi)
    have keep:∀b o,s.heap.get? b=some o->h'.get? b=some o:=λb o q=>hk b o (λhm=>absurd (cJ q) (by rw[aA.mp hm];exact dD _)) (aQ _ q);rw[e2];exact ⟨h',tk,λZ=>.free,rfl,keep,.bool _⟩
theorem E6{K:Type}[DecidableEq K]{knd:KeyKind prog w K}{b:Addr}{kvs:List (K×Value)}{Q:Value->Shared->Prop}(hh:A.handled=none)(hb:(b==sysModules)=false)(D:s.heap.DictOf knd b kvs)(hn:kvs.length<64)
  (hq:∀(h':Heap) (tk:Nat) (vs:List Value),(∀b o,s.heap.get? b=some o->h'.get? b=some o)->vs.length=kvs.length->(∀(j:Nat) (v:Value),vs[j]?=some v->∃k x,kvs[j]?=some (k,x)/\knd.is k v=true)->
   h'.get? (h'.objs.size-1)=some (seqObj "list" vs.toArray 0)->s.heap.get? (h'.objs.size-1)=none->0<h'.objs.size->
   wpAny (model prog w) A.in1 (call (.builtin "list.sort") [.ref (h'.objs.size-1)]) (λZ s'=>Q (.ref (h'.objs.size-1)) s') br {s with heap:=h',toks:=tk}) :
  wpAny (model prog w) A (call (.builtin "sorted") [.ref b]) Q br s:=by
 refine cg D.dictAt λep z5=>?_;have K:=kdl_dict (knd:=knd) (kvs:=kvs) (ep:=ep) hb;refine Calls.call_function_entry kind_sorted plain_sorted entry_sorted (args_sorted1 _) ?_;unfold Builtin.«sorted»;refine av (m:=checkCount "sorted" 1 1 _) (aH ?_);refine av (kdu_collect (A:=A.in1) K hh z5 (by rw[bT];lia) λh' tk acc hk zH=>?_);have hl:acc.toList.length=kvs.length:=by rw[aL];exact zH.1
 refine av (wpAny_newList ?_ (by rw[hl,bT];lia));have hsz:(h'.push (seqObj "list" acc.toList.toArray 0)).objs.size-1=h'.objs.size:=by rw[Heap.size_push];rfl
 have key:=hq (h'.push (seqObj "list" acc.toList.toArray 0)) tk acc.toList (λb o q=>aQ _ (hk b o q)) hl (λj v q=>zH.2 j v (by rw[<-bV];exact q))
  (by rw[hsz];exact bw _ rfl) (by rw[hsz];exact Ge hk) (by rw[Heap.size_push];exact Nat.succ_pos _)
 rw[hsz]at key;refine av (eB (b6 key (λZ s' x=>?_) λZ Z e=>e));exact aH ⟨_,rfl,x⟩
theorem KY{a:Addr}{vs:List Value}{out:Array Value}(keep:∀b o,h.get? b=some o->h'.get? b=some o)(ha:h.get? a=none):∀b o,h.get? b=some o->(sortedHeap h' a vs out).get? b=some o:=λb o q=>by
 rw[sortedHeap_old (λe=>by rw[e,ha]at q;exact aM q) (cJ (keep b o q))];exact keep b o q
theorem AJ{K:Type}{iS:K->MV}{es:List (MV×MV)}{kvs:List (K×Value)}(r:jO g h iS kvs es):kvs.length=es.length:=by
 induction r with
 | nil=>rfl
 | cons _ _ ih=>simp[ih]
theorem Ov{l:List Value}{x:Str}(hk:PyData.strOk x=true)(r:StrsAre l [x]):RL g h l [.str x]:=by
 match l,r with
 | _,.cons _ t r=>cases (r);exact .cons (.str t hk) .nil
theorem M6{es:List (MV×MV)}{is:List Int}{kvs:List (Int×Value)}(r:jO g h MV.int kvs es)(e:nD (es.map (·.1))=some is):kvs.map (·.1)=is:=by
 induction r generalizing is with
 | nil=>exact (someE e).symm
 | cons v r ih=>revert e;refine eZ λis e1 gw=>?_;subst gw;rw[bP,ih e1]
theorem intsAre_of{vs:List Value}:∀{is:List Int},vs.length=is.length->(∀(j:Nat) (v:Value),vs[j]?=some v->∃i,is[j]?=some i/\∃t,v=.int i t)->IntsAre vs is:=by
 induction vs with
 | nil=>intro is hl Z;obtain rfl:=List.eq_nil_of_length_eq_zero hl.symm;exact .nil
 | cons v vs ih=>
  intro is hl h;induction is using aaa with
  | nil=>exact nomatch hl
  | cons i is=>refine cg (h 0 v rfl) λi' cY=>cu cY λe DR=>cg DR λt WD=>?_;subst WD;obtain rfl:=someE e;exact .cons i' t (ih (dc hl) λj u hu=>h (j+1) u hu)
theorem M7{xs:List MV}{X:MV}{G:Prop}(k1:∀x,xs=[.str x]->X=.lst [.str x]->G)(k2:∀is,nD xs=some is->X=.lst ((i0 is).map .int)->G)(e:sorted xs=some X):G:=by
 have gen:((nD xs).map λis=>MV.lst ((i0 is).map .int))=some X->G:=λe=>eZ (λis h q=>k2 is h q.symm) e;induction xs using aaa with
 | nil=>exact gen e
 | cons v r=>
  induction v using MV.casesOn with
  | str x=>
   induction r using aaa with
   | nil=>exact k1 x rfl (someE e)
   | cons=>exact gen e
  | _=>exact gen e
theorem EY{h':Heap}{tk a:Nat}{vs:List Value}{out:Array Value}{xs:List MV}(keep:∀b o,s.heap.get? b=some o->h'.get? b=some o)(ho:h'.get? a=some (seqObj "list" vs.toArray 0))(jr:s.heap.get? a=none)(r:∀g:G,RL g (sortedHeap h' a vs out) out.toList xs) :
  Gives g s (.fresh (.lst xs)) (.ref a) {s with heap:=sortedHeap h' a vs out,toks:=tk}:=by
 refine cg (sortedHeap_at (out:=out) ho) λep he=>?_;refine ⟨_,tk,λZ=>.fy,rfl,KY keep jr,fW.of (V:=.lst xs) (λb q=>?_) (G.lq jr) (.lst ⟨ep,he⟩ (r _))⟩;have:b=a:=by simpa[jg] using q
 rw[this];exact jr
theorem Lz{b:Addr}{x:Str}{V:MV}(hh:A.handled=none)(c:dM g s.heap b (.bO [(.str x,V)])):wpAny (model prog w) A (call (.builtin "sorted") [.ref b]) (Gives g s (.fresh (.lst [.str x]))) br s:=by
 refine cu (vR c (x:=x) (show (yX (.str x)&&true)=true from rfl)) λhb cY=>?_;revert cY;refine gz λkvs hk D r=>?_;cases (r) with
 | @cons k _ _ Vb _ rv r=>
 cases (r);have DW:PyData.strOk x=true:=hk (x,_) (.head _);refine E6 hh hb D (show (1:Nat)<64 by decide) λh' tk vs keep hl hP ho jr w7=>?_;refine cg (List.length_eq_one_iff.mp hl) λv bA=>?_;obtain rfl:=bA;refine kj (hP 0 v rfl) λk' Z e1 e2=>?_;cases (e1);refine cg (Value.isStrOf_shape e2) λt bA=>?_;obtain rfl:=bA;have hS:StrsAre [Value.str x t] [x]:=.cons x t .nil;refine wpAny_call_entry slot_list_sort ⟨_,ho,rfl⟩ entry_list_sort (list_sort_treeK strKind_oneLt ho hS.keysOf (λDh Jz rest e=>by cases (e)) (by simp) λst' hp hs=>⟨_,rfl,?_⟩) (args_list_sort _);refine ja (sorted_out_str hS hp hs) λJ6 a1 a2 a3=>?_;obtain rfl:=List.perm_singleton.mp a2;exact EY keep ho jr λg=>Ov DW a1
theorem sorted_ints{b:Addr}{es:List (MV×MV)}{is:List Int}(hh:A.handled=none)(vh:es.length<64)(c:dM g s.heap b (.bO es))(e1:nD (es.map (·.1))=some is):wpAny (model prog w) A (call (.builtin "sorted") [.ref b]) (Gives g s (.fresh (.lst ((i0 is).map .int)))) br s:=by
 have ok:gE es (.int 0)=true:=by
  induction es using aaa with
  | nil=>rfl
  | cons p r=>
   rcases p with ⟨k,V⟩
   induction k using MV.casesOn with
   | int=>rfl
   | _=>exact aM e1
 refine cu (r5 c ok) λhb bZ=>?_;revert bZ;refine gp λkvs D r=>?_;have hk:=M6 r e1;have hlen:=AJ r;refine E6 hh hb D (by rw[hlen];exact vh) λh' tk vs keep hl hP ho jr w7=>?_;have hI:IntsAre vs is:=intsAre_of (by rw[hl,<-hk,aj]) λj v q=>by
  refine kj (hP j v q) λk x e2 e3=>?_;refine cg (Value.isInt_shape e3) λt bA=>?_;obtain rfl:=bA;exact ⟨k,by rw[<-hk,dw,e2];rfl,t,rfl⟩
 refine wpAny_call_entry slot_list_sort ⟨_,ho,rfl⟩ entry_list_sort (list_sort_tree ho hI (by rw[hl,hlen];exact vh) λout DU a1 a2 a3=>⟨_,rfl,?_⟩) (args_list_sort _);obtain rfl:DU=i0 is:=ksm_same (a2.trans (AB is).symm) a3 (AA is);exact EY keep ho jr λg=>FJ a1
theorem K1{es:List (MV×MV)}{v:Value}{X:MV}(hh:A.handled=none)(rt:RT g s.heap (.bO es) v)(e:p8 (.bO es)=some X):wpAny (model prog w) A (call (.builtin "sorted") [v]) (Gives g s (.fresh X)) br s:=by
 refine bz (rt.cont rfl) λb bZ c=>?_;obtain rfl:=bZ;revert e;refine dG λvh e=>?_;revert e;refine M7 (λx hx hX=>?_) λis e1 hX=>?_
 ·subst hX;induction es using aaa with
  | nil=>exact nomatch hx
  | cons p r=>
   rcases p with ⟨k,V⟩
   induction r using aaa with
   | cons=>exact nomatch hx
   | nil=>obtain rfl:k=.str x:=List.head_eq_of_cons_eq hx;exact Lz hh c.bO
 ·subst hX;exact sorted_ints hh vh c.bO e1
theorem mZ.rt{a:EV}{V:MV}{v:Value}(R:Rel cx env cv g st s)(k:mZ env cx.ro cv g s.heap a v)(e:gf st a=some V):RT g s.heap V v:=by
 induction a using EV.casesOn with
 | fresh X=>exists e;exact RT.wG k.1
 | val X=>exact lP (a:=.val X) R (lo:=s.heap) k e
 | bor X=>exact lP (a:=.bor X) R (lo:=s.heap) k e
 | cont l=>
  induction l using Loc.casesOn with
  | slot n k'=>exact lP (a:=.cont (.slot n k')) R (lo:=s.heap) k e
  | var x=>exact lP (a:=.cont (.var x)) R (lo:=s.heap) k e
theorem Ow{nm:String}{a c:EV}{v:Value}(hh:A.handled=none)(R:Rel cx env cv g st s)(k:mZ env cx.ro cv g s.heap a v)(e:su nm st [a]=some c) :
  wpAny (model prog w) A (call (.builtin nm) [v]) (ez cx env cv g st s c st) br s:=by
 skip;revert e;refine cN λV eV e=>?_;have rt:=k.rt R eV;split at e
 ·rename_i q;revert e;refine eZ λi ei gw=>?_;subst gw;rw[bK.mp q];exact wm (se rt ei) (λr s' G=>.gives R G)
 ·split at e
  ·rename_i q;revert e;refine eZ λX ei gw=>?_;subst gw;rw[bK.mp q];induction V using MV.casesOn with
   | lst xs=>exact wm (K0 rt ei) (λr s' G=>.gives R G)
   | bO es=>exact wm (K1 hh rt ei) (λr s' G=>.gives R G)
   | _=>exact aM ei
  ·split at e
   ·rename_i q;revert e;refine eZ λX ei gw=>?_;subst gw;rw[bK.mp q];exact wm (RX hh rt ei) (λr s' G=>.gives R G)
   ·exact aM e
theorem Ox{nm:String}{a c:EV}{v:Value}(R:Rel cx env cv g st s)(k:mZ env cx.ro cv g s.heap a v)(e:wz nm st [a]=some c) :
  wpAny (model prog w) A (call (.type nm) [v]) (ez cx env cv g st s c st) br s:=by
 skip;revert e;refine cN λV eV e=>?_;have rt:=k.rt R eV;split at e
 ·rename_i q;revert e;refine eZ λi ei gw=>?_;subst gw;rw[bK.mp q];exact wm (Ou rt ei) (λr s' G=>.gives R G)
 ·split at e
  ·rename_i q;revert e;refine eZ λX ei gw=>?_;subst gw;rw[bK.mp q];exact wm (RW rt ei) (λr s' G=>.gives R G)
  ·exact aM e
theorem yj{pos:Pos}{es:List Expr}:es.all noStar=true->(backTo pos (starEach es env)).any (·.1)=false:=by
 induction es with
 | nil=>exact λZ=>rfl
 | cons e r ih=>intro h;rw[bS,aI]at h;rw[oX h.1];show (false||(backTo pos (starEach r env)).any (·.1))=false;rw[ih h.2];rfl
theorem BH{as:List Expr}{bs:List EV}{fe:Expr->St->Option (EV×St)}{a:EV}(e:fC fe as st=some (bs,st'))(hb:bs=[a]):∃x,as=[x]:=by
 have:=yi e;rw[hb]at this
 match as,this with
 | [x],_=>exact ⟨x,rfl⟩
theorem Qv{fn:Str}{fp pos:Pos}{as:List Expr}{bs:List EV}{nm:String}{c:EV}{aP:St}(SE:fT ev n d)(SI:gW ev)(ro:dm A n d)(hh:A.handled=none)(R:Rel cx env cv g st s)(dj:as.all noStar=true)
  (e1:ev.e cx (.Name fn fp) st=some (.val (.blt nm),aP)) (e2:fC (ev.e cx) as aP=some (bs,st')) (ho:jI cx (as.all isSimple) bs=true) (e3:su nm st' bs=some c) :
  wpAny (model prog w) A (eval (.Call (.Name fn fp) as [] pos) env) (ez cx env cv g st s c st') br s:=by
 refine HG (λa hb e=>?_) e3;subst hb;refine cg (BH e2 rfl) λx bA=>?_;obtain rfl:=bA;refine wpAny_Call_NameR (wm (SE ro hh e1 R) (λv bq pq=>?_));refine pq.el λbM bR bL cj=>?_;clear pq;(induction (bh.inv cj) using zD.casesOn;clear cj);refine callWith_builtin (yj dj) ?_;have hx:noStar x=true:=by simpa using dj
 have hA:=args (pos:=pos) (env:=env) SE SI ro hh dj e2 ho bL;rw[oX hx]at hA |-;refine evalArgs_plain (wm hA (λvs s₂ pq=>?_));revert pq;refine gj λZ cY=>?_;revert cY;refine gz λbW bY b8 jt=>?_;cases (jt) with
 | cons k r=>cases (r);exact wm (Ow hh b8 k e3) (λr gq p=>p.after (bR.trans bY))
theorem Qw{fn:Str}{fp pos:Pos}{as:List Expr}{bs:List EV}{nm:String}{c:EV}{aP:St}(SE:fT ev n d)(SI:gW ev)(ro:dm A n d)(hh:A.handled=none)(R:Rel cx env cv g st s)(dj:as.all noStar=true)
  (e1:ev.e cx (.Name fn fp) st=some (.val (.typ nm),aP)) (e2:fC (ev.e cx) as aP=some (bs,st')) (ho:jI cx (as.all isSimple) bs=true) (e3:wz nm st' bs=some c) :
  wpAny (model prog w) A (eval (.Call (.Name fn fp) as [] pos) env) (ez cx env cv g st s c st') br s:=by
 refine HG (λa hb e=>?_) e3;subst hb;refine cg (BH e2 rfl) λx bA=>?_;obtain rfl:=bA;refine wpAny_Call_NameR (wm (SE ro hh e1 R) (λv bq pq=>?_));refine pq.el λbM bR bL cj=>?_;clear pq;(induction (bh.inv cj) using wW.casesOn;clear cj);have hx:noStar x=true:=by simpa using dj
 refine callWith_type1 (wm (args (pos:=pos) SE SI ro hh dj e2 ho bL) (λvs s₂ pq=>?_)) (oX hx) rfl;revert pq;refine gj λZ cY=>?_;revert cY;refine gz λbW bY b8 jt=>?_;cases (jt) with
 | cons k r=>cases (r);exact wm (Ox b8 k e3) (λr gq p=>p.after (bR.trans bY))
def w9(f:Nat)(ro:Bool)(g:G)(h:Heap):LV->Value->Prop
 | .v V,v=>RV g h v V
 | .bor V,v=>xA f ro g h V v
 | .own _,_=>True
class inductive jL(f:Nat)(ro:Bool)(g:G)(h:Heap):List LV->List Value->Prop
 | nil:jL f ro g h [] []
 | cons {l:LV} {v:Value} {ls:List LV} {vs:List Value}:w9 f ro g h l v->jL f ro g h ls vs->jL f ro g h (l::ls) (v::vs)
def xd(H:Heap)(g:G)(h:Heap):EV->Value->Prop
 | .val V,v=>RV g h v V
 | .fresh V,v=>fW H g h V v
 | _,_=>True
inductive uG(ro rb:Bool)(g:G)(σ:eN)(s:Shared)(r:EV)(σ':eN)(res:Result)(s':Shared):Prop
 | mk (v:Value):res=.ok (.ret v)->(g':G)->Step s.heap.objs.size ro rb g σ s g' σ' s'->Ground h₀ g' s'.heap->lS g' σ' s'.heap->xd s.heap g' s'.heap r v->uG ro rb g σ s r σ' res s'
noncomputable def zd:EV->Bool
 | .val _=>true
 | .fresh _=>true
 | _=>false
noncomputable def nH:LV->Bool
 | .own _=>false
 | _=>true
def oY(C:j0)(n:Nat):Prop:=∀⦃cx:Ctx⦄ ⦃a:Addr⦄ ⦃ls:List LV⦄ ⦃σ:eN⦄ ⦃r:EV⦄ ⦃st':St⦄ ⦃g:G⦄ ⦃s:Shared⦄ ⦃A:Around⦄ ⦃vs:List Value⦄,
 dm A n 0->A.handled=none->C cx a ls σ=some (r,st')->Ground h₀ g s.heap->lS g σ s.heap->ls.all nH=true->jL s.heap.objs.size cx.ro g s.heap ls vs->
  codeAny (model prog w) A (.call (.ref a) ⟨vs,[]⟩) (uG cx.ro cx.rb g σ s r st'.aD) s
theorem nG.lt{loc:List (Str×LV)}(y:nG cx env cv g loc h):env.locals<h.objs.size:=let ⟨_,n,_⟩:=y.vars;n.lt
theorem Qx{a:EV}{v:Value}{l:LV}{fY:Bool}(R:Rel cx env cv g st s)(k:mZ env cx.ro cv g s.heap a v)(e:nN st a=some l)(hr:cx.ro=true->fY=true)(hs:gX a=true->fY=true) :
  w9 s.heap.objs.size fY g s.heap l v/\nH l=true:=by
 have dH:=R.loc.lt;induction a using EV.casesOn with
 | val V=>exists e;exact ⟨k,rfl⟩
 | fresh V=>
  simp only[nN]at e;split at e
  ·exists e;exact ⟨k.1,rfl⟩
  ·exact aM e
 | bor V=>exists e;revert k;refine gz λb hb hf c=>?_;exact ⟨⟨b,hb,⟨hf.1.up (b9 dH) hr,hf.2⟩,c⟩,rfl⟩
 | cont l=>
  revert e;refine eZ λV hV gw=>?_;subst gw;refine ⟨?_,rfl⟩;induction l using Loc.casesOn with
  | slot n k'=>refine ji (pY (l:=.slot n k') (v:=v) (lo:=s.heap) R k hV) λb hb c h1 h2=>?_;exact ⟨b,hb,⟨by rw[h2];exact hs rfl,by rw[h2];exact dS rfl⟩,c⟩
  | var x=>refine ji (pY (l:=.var x) (v:=v) (lo:=s.heap) R k hV) λb hb c h1 h2=>?_;exact ⟨b,hb,⟨by rw[h2];exact dH,by rw[h2];exact dS rfl⟩,c⟩
theorem Be{fY:Bool}(R:Rel cx env cv g st s)(hr:cx.ro=true->fY=true){as:List EV}{vs:List Value}{ls:List LV}(k:mU env cx.ro cv g s.heap as vs)(e:ki (nN st) as=some ls)(hs:as.any gX=true->fY=true) :
  jL s.heap.objs.size fY g s.heap ls vs/\ls.all nH=true:=by
 induction k generalizing ls with
 | nil=>obtain rfl:=someE e;exact ⟨.nil,rfl⟩
 | cons k r ih=>revert e;refine cN λl e1 e=>?_;revert e;refine cN λls e2 e=>?_;obtain rfl:=someE e;refine cu (Qx R k e1 hr λq=>hs (by rw[dF,q];rfl)) λa1 a2=>?_;refine cu (ih e2 λq=>hs (by rw[dF,q,Bool.or_true])) λb1 b2=>?_;exact ⟨.cons a1 b1,by rw[bS,a2,b2];rfl⟩
theorem uG.back{lk:Bool}{r:EV}{res:Result}(R:Rel cx env cv g st s)(p:uG (cx.ro||lk) cx.rb g st.aD s r st'.aD res s')(hr:zd r=true) :
  ∃v,res=.ok (.ret v)/\ez cx env cv g st s r {st with aD:=st'.aD} v s':=by
 rcases p with ⟨v,e,g',S,G',T,q⟩
 have dH:=R.loc.lt;have gg:cx.ro=true->(cx.ro||lk)=true:=λq=>by rw[q];rfl
 refine ⟨v,e,g',S.out (b9 dH) gg λq=>q.imp gg id,⟨G',R.loc.under S dH gg,T⟩,?_⟩;induction r using EV.casesOn with
 | val V=>exact q
 | fresh V=>exact q
 | _=>exact b7 hr
theorem Gf{lk:Bool}{a:Addr}{ls:List LV}{vs:List Value}{r:EV}(CS:oY C n)(ro:dm A n 0)(hh:A.handled=none)(R:Rel cx env cv g st s)(e:fV.sC C cx lk a ls st=some (r,st'))
  (hl:jL s.heap.objs.size (cx.ro||lk) g s.heap ls vs) (hn:ls.all nH=true):wpAny (model prog w) A (call (.ref a) vs) (ez cx env cv g st s r st') br s:=by
 skip;revert e;refine eG λv eH e1 e=>?_;have key:=CS (cx:={cx with ro:=cx.ro||lk}) ro hh e1 R.ground R.aD hn hl;have hr:zd v=true/\r=v/\st'={st with aD:=eH.aD}:=by
  dsimp only at e;split at e
  ·exists e;exact ⟨rfl,rfl,rfl⟩
  ·exists e;exact ⟨rfl,rfl,rfl⟩
  ·exact aM e
 revert hr;refine mu λhr bA iW=>?_;obtain rfl:=bA;obtain rfl:=iW;refine wpAny_call (codeAny_mono key λres s' p=>?_);refine bz (uG.back R p hr) λu bZ q=>?_;obtain rfl:=bZ;exact q
theorem AD(x:Str)(names:List (Str×NameKind)):∀(n:Nat) (acc:List (Str×Addr)),(x,NameKind.cell)∈names\/(acc.lookup x).isSome=true->((cellsFrom n names acc).lookup x).isSome=true:=by
 induction names with
 | nil=>exact λn acc h=>h.elim (λh=>absurd h aX) id
 | cons p r ih=>
  intro n acc h;unfold cellsFrom;split
  ·refine ih _ _ ?_;by_cases e:x=p.1
   ·refine .inr ?_;rw[dU,e,beq_self_eq_true];rfl
   ·refine h.imp (λh=>?_) λh=>?_
    ·exact (aC.mp h).elim (λq=>absurd (bf Prod.fst q) e) id
    ·rw[dU,show (x==p.1)=false from beq_eq_false_iff_ne.mpr e];exact h
  ·rename_i hk;refine ih _ _ (h.imp_left λh=>?_);exact (aC.mp h).elim (λq=>absurd (show (p.2==NameKind.cell)=true by rw[<-q];rfl) hk) id
theorem LA(jT:Str->Option NameKind)(l:List (Str×Value)):∀(m:Str->Option Value) (x:Str),(∀p∈l,p.1≠x)->bindL jT l m x=m x:=by
 induction l with
 | nil=>exact λ_ _ _=>rfl
 | cons p r ih=>
  intro m x h;refine (ih _ x λp hp=>h p (.tail _ hp)).trans ?_;by_cases q:jT p.1=some .local
  ·exact (congrFun (aq q) x).trans (au λe=>h _ (.head _) e.symm)
  ·exact congrFun (au q) x
theorem LB(jT:Str->Option NameKind)(l:List (Str×Value)):∀(m:Str->Option Value) (x:Str),(∀p∈l,p.1≠x)->bindC jT l m x=m x:=by
 induction l with
 | nil=>exact λ_ _ _=>rfl
 | cons p r ih=>
  intro m x h;refine (ih _ x λp hp=>h p (.tail _ hp)).trans ?_;by_cases q:jT p.1=some .local
  ·exact congrFun (aq q) x
  ·exact (congrFun (au q) x).trans (au λe=>h _ (.head _) e.symm)
theorem M8(jT:Str->Option NameKind){l:List (Str×Value)}{x:Str}{v:Value}:∀{m:Str->Option Value},(l.map (·.1)).Nodup->(x,v)∈l->jT x=some .local->bindL jT l m x=some v:=by
 induction l with
 | nil=>exact λ_ h=>nomatch h
 | cons p r ih=>intro m hn h hk;have hn:=bx.mp hn;refine bu (aC.mp h) (λe=>?_) λh=>ih hn.2 h hk;subst e;exact (LA jT r _ x λp hp e=>hn.1 (aN.mpr ⟨p,hp,e⟩)).trans ((congrFun (aq hk) x).trans (aq rfl))
theorem M9(jT:Str->Option NameKind){l:List (Str×Value)}{x:Str}{v:Value}:∀{m:Str->Option Value},(l.map (·.1)).Nodup->(x,v)∈l->jT x=some .cell->bindC jT l m x=some v:=by
 induction l with
 | nil=>exact λ_ h=>nomatch h
 | cons p r ih=>intro m hn h hk;have hn:=bx.mp hn;refine bu (aC.mp h) (λe=>?_) λh=>ih hn.2 h hk;subst e;exact (LB jT r _ x λp hp e=>hn.1 (aN.mpr ⟨p,hp,e⟩)).trans ((congrFun (au (c:=jT x=some .local) λq=>nomatch hk.symm.trans q) x).trans (aq rfl))
theorem Oz{ps:List Str}{x:Str}{lv:LV}:∀{ls:List LV} {vs:List Value},jL f ro g h ls vs->ps.length=ls.length->look (ps.zip ls) x=some lv->∃v,(x,v)∈ps.zip vs/\w9 f ro g h lv v:=by
 induction ps with
 | nil=>exact λ_ _ e=>aM e
 | cons p ps ih=>
  intro ls vs r hl e;cases r with
  | nil=>exact aM e
  | cons a r=>exact mD (λq e=>⟨_,ai q▸.head _,someE e▸a⟩) (λ_ e=>cg (ih r (dc hl) e) λu p=>⟨u,.tail _ p.1,p.2⟩) e
theorem EZ{ls:List LV}{vs:List Value}(r:jL f ro g h ls vs):ls.length=vs.length:=by
 induction r with
 | nil=>rfl
 | cons _ _ ih=>exact bf (·+1) ih
noncomputable def vC(L:Addr)(cells:List (Str×Addr))(b:Addr):Role:=
 if b=L then .loc L else match cells.find? (λp=>p.2==b) with
  | some p=>.cell L p.1
  | none=>.free
theorem K2{L c:Addr}{cells:List (Str×Addr)}{x:Str}(hp:cells.Pairwise λx y=>x.2≠y.2)(hm:(x,c)∈cells)(hL:L<c):vC L cells c=.cell L x:=by
 unfold vC;rw[au (Nat.ne_of_gt hL)];cases q:cells.find? (λp=>p.2==c) with
 | none=>exact absurd (beq_self_eq_true c) (by simpa using List.find?_eq_none.mp q (x,c) hm)
 | some p=>
  have h1:=cW q;have h2:p.2=c:=bK.mp (List.find?_some (p:=λ(p:Str×Addr)=>p.2==c) q);rcases p with ⟨y,c'⟩
  cases (h2);have:y=x:=name_of_addr hp h1 hm;rw[this]
theorem HO{ps:List Str}{ls:List LV}{y:Str}{V:MV}(tG:ls.all nH=true)(q:look (ps.zip ls) y=some (.own V)):False:=by
 induction ps generalizing ls with
 | nil=>exact aM q
 | cons p ps ih=>
  induction ls using aaa with
  | nil=>exact aM q
  | cons l ls=>
   rw[bS,aI]at tG;simp only[List.zip_cons_cons,jX]at q;split at q
   ·exists q,q;exact b7 tG.1
   ·exact ih tG.2 q
theorem enter{scope:Scope}{ps:List Str}{ls:List LV}{vs:List Value}(iD:Ground h₀ g s.heap)(T:lS g σ s.heap)(oK:jL s.heap.objs.size ro g s.heap ls vs)
  (wY:∀y V v,look (ps.zip ls) y=some (.own V)->(y,v)∈ps.zip vs->v=.ref (cv y)/\g.ρ (cv y)=.own env.locals y/\dM g s.heap (cv y) V) (hlen:ps.length=ls.length) (l6:ps.Nodup)
  (mV:env.scope.kind=.function) (lN:env.scope=scope) (hL:env.locals=s.heap.objs.size) (Tg:env.globals=mainGlobals) (Vf:env.builtins=builtinsNs) (HP:env.cells=cellsFrom (s.heap.objs.size+1) scope.names [])
  (IF:∀x,scope.names.lookup x≠some .free) (x:InCallC s env.locals (bindL env.kindOf (ps.zip vs) λZ=>none) env.cells (bindC env.kindOf (ps.zip vs) λZ=>none) s') :
  ∃g',Step s.heap.objs.size ro rb g σ s g' σ s'/\Rel ⟨scope,ro,rb,false⟩ env cv g' ⟨ps.zip ls,σ⟩ s':=by
 have keep:=x.toInCall.keep;have jr:∀b,s.heap.objs.size<=b->s.heap.get? b=none:=λb q=>new_of_ge q;let g':=g.role s.heap (vC env.locals env.cells);have ex:Exc (λZ=>False) g s.heap g' s'.heap:=Exc.add keep _;have up:=ex.up (λq=>q);have tH:g'.ρ env.locals=.loc env.locals:=by rw[show g'.ρ env.locals=vC env.locals env.cells env.locals from G.lq (jr _ (Nat.le_of_eq hL.symm))];exact aq rfl
 have WE:∀y c,env.cells.lookup y=some c->g'.ρ c=.cell env.locals y:=λy c q=>by
  have hm:=mem_of_lookup q;have dH:=x.above y c hm;rw[show g'.ρ c=vC env.locals env.cells c from G.lq (jr _ (by rw[<-hL];exact b9 dH))];exact K2 x.apart hm dH
 have HQ:((ps.zip vs).map (·.1)).Nodup:=by have:(ps.zip vs).map (·.1)=ps:=List.map_fst_zip (by rw[hlen,EZ oK];exact az _);rw[this];exact l6
 refine ⟨g',⟨x.toInCall.same,λb o q=>⟨o,keep b o q⟩,λb o q Z=>keep b o q,λb o q=>.inl (G.mO q),⟨[],by simp[g',G.role]⟩,λZ Z Z Z=>rfl,λZ=>rfl,az _⟩,ex.ground (λq=>q) iD,?_,
  T.exc ex (λq=>q) (λZ q=>q) (λZ Z q=>q) (λZ Z Z=>rfl)⟩
 refine ⟨λy=>.inl (by rw[show jG ⟨scope,ro,rb,false⟩ y=scope.names.lookup y from rfl,<-lN];rfl),mV,Tg,Vf,tH,⟨_,x.toInCall.ns,λy lv hl k1 k2 k3=>?_⟩,λy hk=>?_,λZ y hk=>IF y (by rw[<-lN];exact hk),λq=>by exact b7 q⟩
 ·refine bz (Oz oK hlen hl) λv hm ha=>?_;refine ⟨v,?_,?_⟩
  ·refine .of (λhk=>M8 _ HQ hm hk) (λhk=>?_) λhk=>absurd (by rw[<-lN];exact hk) (IF y)
   ·have pG:(y,NameKind.cell)∈scope.names:=mem_of_lookup (by rw[<-lN];exact hk);refine cg (bH.mp (AD y scope.names (s.heap.objs.size+1) [] (.inl pG))) λc hc=>?_;rw[<-HP]at hc;have:=x.cell y c hc;rw[M9 _ HQ hm hk]at this;exact ⟨c,hc,this⟩
  ·induction lv using LV.casesOn with
   | v V=>exact up.v ha
   | bor V=>revert ha;refine gz λb e hf c=>?_;refine cg c.get λo ho=>?_;have hr:=(ex.keep b o (λq=>q) ho).1;exact ⟨b,e,by rw[hr,hL];exact hf,ex.cont (λq=>q) (λq=>q) c⟩
   | own V=>refine eg (wY y V v hl hm) λe hr c=>?_;refine cg c.get λo ho=>?_;exact ⟨e,by rw[(ex.keep _ o (λq=>q) ho).1,hr],ex.cont (λq=>q) (λq=>q) c⟩
 ·have pG:(y,NameKind.cell)∈scope.names:=mem_of_lookup (by rw[<-lN];exact hk);refine cg (bH.mp (AD y scope.names (s.heap.objs.size+1) [] (.inl pG))) λc hc=>?_;rw[<-HP]at hc;exact ⟨c,_,_,hc,x.cell y c hc,WE y c hc,az _,λZ=>rfl⟩
def J7(H:Heap)(g:G)(h:Heap):Fl->Flow->Prop
 | .bN,f=>f=.next
 | .ret a,f=>∃v,f=.ret v/\zd a=true/\xd H g h a v
def n7(cv f7:Str->Addr):Prop:=∀x,ownNames.contains x=false->f7 x=cv x
inductive iT(cx:Ctx)(env:Env)(cv:Str->Addr)(g:G)(st:St)(s:Shared)(fl:Fl)(st':St)(fw:Flow)(s':Shared):Prop
 | mk (g':G) (f7:Str->Addr):Step env.locals cx.ro cx.rb g st.aD s g' st'.aD s'->Rel cx env f7 g' st' s'->J7 s.heap g' s'.heap fl fw->n7 cv f7->iT cx env cv g st s fl st' fw s'
theorem iT.el{cx:Ctx}{env:Env}{cv:Str->Addr}{g:G}{st:St}{s:Shared}{fl:Fl}{st':St}{fw:Flow}{s':Shared}{G:Prop}(p:iT cx env cv g st s fl st' fw s')
  (k:∀g' f7,Step env.locals cx.ro cx.rb g st.aD s g' st'.aD s'->Rel cx env f7 g' st' s'->J7 s.heap g' s'.heap fl fw->n7 cv f7->G):G:=p.casesOn k
inductive Kept(cx:Ctx)(env:Env)(cv:Str->Addr)(g:G)(σ:eN)(s:Shared)(st':St)(s':Shared):Prop
 | mk (g':G) (f7:Str->Addr):Step env.locals cx.ro cx.rb g σ s g' st'.aD s'->Rel cx env f7 g' st' s'->n7 cv f7->Kept cx env cv g σ s st' s'
def HR(ev:Ev)(n d:Nat):Prop:=∀⦃cx:Ctx⦄ ⦃env:Env⦄ ⦃cv:Str->Addr⦄ ⦃g:G⦄ ⦃st:St⦄ ⦃s:Shared⦄ ⦃A:Around⦄ ⦃b:Stmt⦄ ⦃fl:Fl⦄ ⦃st':St⦄,
 dm A n d->A.handled=none->cx.comp=false->ev.s cx b st=some (fl,st')->Rel cx env cv g st s->wpAny (model prog w) A (exec b env) (iT cx env cv g st s fl st') br s
def n8(ev:Ev)(n d:Nat):Prop:=∀⦃cx:Ctx⦄ ⦃env:Env⦄ ⦃cv:Str->Addr⦄ ⦃g:G⦄ ⦃st:St⦄ ⦃s:Shared⦄ ⦃A:Around⦄ ⦃b:List Stmt⦄ ⦃fl:Fl⦄ ⦃st':St⦄,
 dm A n d->A.handled=none->cx.comp=false->ev.ss cx b st=some (fl,st')->Rel cx env cv g st s->wpAny (model prog w) A (execs b env) (iT cx env cv g st s fl st') br s
structure qx(K:Frag)(a:Addr)(F:Fn)(o:Obj)(fd:FuncData):Prop where
 at_:K.lookup a=some o
 data:o.data=.func fd
 body:fd.body=.stmts F.body
 scope:fd.scope=F.scope
 closure:fd.closure=[]
 globals:fd.globals=mainGlobals
 builtins:fd.builtins=builtinsNs
 co:F.scope.isCoroutine=false
 gen:F.scope.isGenerator=false
 kind:F.scope.kind=.function
 code:h₀.CodeRec fd.code fd.qualname
 nodup:F.params.Nodup
 kinds:∀x∈F.params,F.scope.names.lookup x=some .local\/F.scope.names.lookup x=some .cell
 free:∀x,F.scope.names.lookup x≠some .free
 bind:∀vals:List Value,vals.length<=F.params.length->F.params.length-vals.length<=F.nL.length->∃qD,(∀s:Shared,(∀b o,h₀.get? b=some o->s.heap.get? b=some o)->BindsTo s fd ⟨vals,[]⟩ (F.params.zip (vals++qD)))/\
  dR (λa=>∃o,h₀.get? a=some o) h₀ [] qD (F.nL.drop (F.nL.length-(F.params.length-vals.length)))
theorem KX{R:Result->Shared->Prop}{a:Addr}{o:Obj}{fd:FuncData}{body:List Stmt}{vals:List Value}{binds:List (Str×Value)}
  (Th:A.depth<recursionLimit) (ho:s.heap.get? a=some o) (Ti:o.data=.func fd) (jl:s.heap.NoLimit) (z6:s.heap.CodeRec fd.code fd.qualname)
  (Tj:fd.body=.stmts body) (Cn:BindsTo s fd ⟨vals,[]⟩ binds) (Vg:fd.closure=[])
  (mV:∀x∈binds,fd.scope.names.lookup x.1=some .local\/(fd.scope.names.lookup x.1=some .cell/\((cellsFrom (s.heap.objs.size+1) fd.scope.names []).lookup x.1).isSome=true))
  (h:∀bq,InCallC s (callEnvC fd s.heap.objs.size a).locals (bindL (callEnvC fd s.heap.objs.size a).kindOf binds λZ=>none) (callEnvC fd s.heap.objs.size a).cells
    (bindC (callEnvC fd s.heap.objs.size a).kindOf binds λZ=>none) bq->
   wpAny (model prog w) (A.deeper (callEnvC fd s.heap.objs.size a)) (execs body (callEnvC fd s.heap.objs.size a)) (λf s'=>R (.ok (.ret (match f with | .ret v=>v | _=>.none))) s')
    (λe s'=>wpAny (model prog w) (A.deeper (callEnvC fd s.heap.objs.size a)) (leaving (callEnvC fd s.heap.objs.size a) e) (λZ DX=>R (.error e) DX) (λe' DX=>R (.error e') DX) s') bq)
  (WG:fd.scope.isCoroutine=false) (Vh:fd.scope.isGenerator=false) (hk:fd.scope.kind=.function) :
  codeAny (model prog w) A (.call (.ref a) ⟨vals,[]⟩) R s:=by
 refine codeAny_call_function Th ho Ti WG Vh Tj z6 (Cn _ _ _ _ ?_);rw[Vg];refine wpAny_newFunctionEnv_cells hk mV λenv he s' x=>?_;subst he;exact ⟨jl.keeps x.toInCall.keep,codeAny_func (h s' x)⟩
theorem Na(iD:Ground h₀ g h){vs:List Value}{xs:List MV}(r:dR (λa=>∃o,h₀.get? a=some o) h₀ [] vs xs):RL g h vs xs:=
 dR.mono (λa o Z e=>iD a o e) (λn e q=>by simp at q) r
theorem Lh{ls ks:List LV}{vs us:List Value}(r:jL f ro g h ls vs)(r':jL f ro g h ks us):jL f ro g h (ls++ks) (vs++us):=by
 induction r with
 | nil=>exact r'
 | cons a _ ih=>exact .cons a ih
theorem Mk{vs:List Value}{xs:List MV}(r:RL g h vs xs):jL f ro g h (xs.map .v) vs:=
 dR.ind (P:=λvs xs=>jL f ro g h (xs.map .v) vs) .nil (λZ Z Z Z x Z ih=>.cons x ih) r
def Bf(cv:Str->Addr)(f:Nat)(g:G)(h:Heap)(ps:List Str)(ls:List LV)(vs:List Value):Prop:=
 ls.all nH=true\/∃p J8 V DY v J9,ps=p::J8/\ls=.own V::DY/\vs=v::J9/\v=.ref (cv p)/\g.ρ (cv p)=.own f p/\dM g h (cv p) V/\DY.all nH=true
theorem Bf.at{ps:List Str}{ls:List LV}{vs:List Value}(hf:Bf cv f g h ps ls vs)(l6:ps.Nodup){ds:List MV}{qD:List Value}{y:Str}{V:MV}{v:Value}(hl:look (ps.zip (ls++ds.map LV.v)) y=some (.own V))(hm:(y,v)∈ps.zip (vs++qD)) :
  v=.ref (cv y)/\g.ρ (cv y)=.own f y/\dM g h (cv y) V:=by
 have tD:∀{ls:List LV},ls.all nH=true->(ls++ds.map LV.v).all nH=true:=λh=>by
  rw[List.all_append,h,Bool.true_and,List.all_map,aG];intro _ _;rfl
 revert hf;refine eS (λhf=>?WH) λgk=>?WI;(case' WI=>(refine CZ gk λp J8 W DY u dP=>?_;revert dP;refine UN λJ9 Vi Vj Vk xe h1 h2 h3=>?_;obtain rfl:=Vi;obtain rfl:=Vj;obtain rfl:=Vk;obtain rfl:=xe));(case' WH=>(skip))
 ·exact (HO (tD hf) hl).elim
 ·rw[bx]at l6;simp only[List.cons_append,List.zip_cons_cons,jX]at hl hm;by_cases q:p=y
  ·subst q;simp only[decide_true,if_true]at hl;cases (hl);refine bu (aC.mp hm) (λe=>?_) λe=>?_
   ·cases (e);exact ⟨rfl,h1,h2⟩
   ·exact absurd (List.of_mem_zip e).1 l6.1
  ·simp only[q,decide_false,Bool.false_eq_true,if_false]at hl;exact (HO (tD h3) hl).elim
inductive IG(cx:Ctx)(g:G)(σ:eN)(s:Shared)(r:EV)(st':St)(F:Fn)(cv:Str->Addr)(res:Result)(s':Shared):Prop
 | mk (v:Value):res=.ok (.ret v)->(g':G)->Step s.heap.objs.size cx.ro cx.rb g σ s g' st'.aD s'->Ground h₀ g' s'.heap->lS g' st'.aD s'.heap->xd s.heap g' s'.heap r v->
   (∀y V,y∈F.params->ownNames.contains y=false->look st'.loc y=some (.own V)->g'.ρ (cv y)=.own s.heap.objs.size y/\dM g' s'.heap (cv y) V)->IG cx g σ s r st' F cv res s'
theorem Qy{F:Fn}{ls:List LV}{loc:List (Str×LV)}{G:Prop}(k:ls.length<=F.params.length->F.params.length-ls.length<=F.nL.length->loc=F.params.zip (ls++(F.nL.drop (F.nL.length-(F.params.length-ls.length))).map .v)->G)(e:Bind F ls=some loc):G:=
 dG (λh e=>k (ai (ak.mp h).1) (ai (ak.mp h).2) (someE e)) e
theorem LC{fe:Env}{m:Nat}(ro:dm A (m+1) 0):dm (A.deeper fe) m nP:=⟨by
 have:=ro.depth;show A.depth+1+m*20+16+4<recursionLimit;lia,by
 have:=ro.units;show A.units+3+m*200+16*4+100<cLine;lia⟩
theorem OB{p l d:Nat}(h1:l<=p)(h2:p-l<=d):p=l+(d-(d-(p-l))):=by lia
theorem Ff{RB:rQ}{m:Nat}{a:Addr}{F:Fn}{o:Obj}{fd:FuncData}{ls:List LV}{vs:List Value}{r:EV}(SS:n8 (run P (jq P RB m) nP) m nP)(cP:g9 P K h₀ mg mb)(hF:P.fn a=some F)(fo:qx K a F o fd)
  (ro:dm A (m+1) 0) (hh:A.handled=none) (e:jq P RB (m+1) cx a ls σ=some (r,st')) (iD:Ground h₀ g s.heap) (T:lS g σ s.heap) (oK:jL s.heap.objs.size cx.ro g s.heap ls vs) (WJ:Bf cv s.heap.objs.size g s.heap F.params ls vs) :
  codeAny (model prog w) A (.call (.ref a) ⟨vs,[]⟩) (λres s'=>IG cx g σ s r st' F cv res s') s:=by
 revert e;refine cN λF' pP e=>?_;rw[hF]at pP;obtain rfl:=(someE pP).symm;revert e;refine dG λgF e=>?_;revert e;refine cN λloc sS e=>?_;revert e;refine eG λfl aP e1 e=>?_;revert sS;refine Qy λDZ D0 sS=>?_;subst sS;have vj:=EZ oK;rw[vj]at DZ D0 e1;refine bz (fo.bind vs DZ D0) λqD Cn hd=>?_;have fG:=Na iD hd;have Vl:=Lh oK (Mk (f:=s.heap.objs.size) (ro:=cx.ro) fG);have z7:=jf fG;have Co:F.params.length=(ls++(F.nL.drop (F.nL.length-(F.params.length-vs.length))).map LV.v).length:=by rw[ay,aj,List.length_drop,vj];exact OB DZ D0
 have uh:∀b o,h₀.get? b=some o->s.heap.get? b=some o:=λb o q=>(iD b o q).2;refine KX ro.d (qN iD cP.X a o fo.at_) fo.data (cP.nolimit.keeps uh) (fo.code.keeps uh) fo.body (Cn s uh) fo.closure (λx hx=>?_) (λbq x=>?_) (by rw[fo.scope];exact fo.co) (by rw[fo.scope];exact fo.gen) (by rw[fo.scope];exact fo.kind)
 ·have pG:x.1∈F.params:=by
   rcases x with ⟨y,v⟩
   exact (List.of_mem_zip hx).1
  rw[fo.scope];refine bu (fo.kinds _ pG) (λq=>?_) λq=>?_
  ·exact .inl q
  ·exact .inr ⟨q,AD x.1 _ _ _ (.inl (mem_of_lookup q))⟩
 ·have room:dm (A.deeper (callEnvC fd s.heap.objs.size a)) m nP:=LC ro;refine cg (enter (env:=callEnvC fd s.heap.objs.size a) (scope:=F.scope) (cv:=cv) (ro:=cx.ro) (rb:=RB a) iD T Vl (λy V v hl hm=>WJ.at fo.nodup hl hm) Co fo.nodup (by show fd.scope.kind=_;rw[fo.scope];exact fo.kind) fo.scope rfl fo.globals fo.builtins
   (by show cellsFrom _ fd.scope.names []=_;rw[fo.scope]) fo.free x) λbM bA=>?_
  revert bA;refine gj λbR bL=>?_;refine b6 (SS room (by show A.handled=none;exact hh) rfl e1 bL) (λfw s₂ p=>?_) λZ Z q=>q.elim;refine p.el λbW qW bY b8 fv ok=>?_;clear p;have hL:(callEnvC fd s.heap.objs.size a).locals=s.heap.objs.size:=rfl;rw[hL]at bY;have S:=bR.trans bY;have up:(cx.ro=true\/cx.rb=false)->cx.ro=true\/RB a=false:=λq=>by
   revert q;refine eS (λq=>?_) λq=>?_
   ·exact .inl q
   ·refine .inr ?_;rw[q,Bool.or_false]at gF;simpa using gF
  have JA:∀y V,y∈F.params->ownNames.contains y=false->look aP.loc y=some (.own V)->bW.ρ (cv y)=.own s.heap.objs.size y/\dM bW s₂.heap (cv y) V:=λy V hy hn hl=>by
   have e1:=ok y hn;have hk:(callEnvC fd s.heap.objs.size a).kindOf y=some .local\/(callEnvC fd s.heap.objs.size a).kindOf y=some .cell:=by show fd.scope.names.lookup y=_\/fd.scope.names.lookup y=_;rw[fo.scope];exact fo.kinds y hy
   refine eg (qa hk) λk1 k2 k3=>?_;refine bz b8.loc.vars λm' Z hv=>?_;refine ji (hv y _ hl k1 k2 k3) λv Z Z e3 e4=>?_;rw[e1]at e3 e4;exact ⟨e3,e4⟩
  induction fl using Fl.casesOn with
  | bN=>exists e,e;cases (fv);exact ⟨.none,rfl,bW,S.out (az _) id up,b8.ground,b8.aD,.none,JA⟩
  | ret b=>
   exists e,e;revert fv;refine gz λv cY hr rv=>?_;obtain rfl:=cY;refine ⟨v,rfl,bW,S.out (az _) id up,b8.ground,b8.aD,?_,JA⟩;induction r using EV.casesOn with
   | val V=>exact rv
   | fresh V=>exact fW.lo rv bR.live
   | _=>exact b7 hr
theorem LD{RB:rQ}{m:Nat}(SS:n8 (run P (jq P RB m) nP) m nP)(cP:g9 P K h₀ mg mb)(fk:∀a F,P.fn a=some F->∃o fd,qx K a F o fd) :
  oY (jq P RB (m+1)) (m+1):=by
 intro cx a ls σ r st' g s A vs ro hh e iD T tG oK;have e':=e;revert e';refine cN λF hF Z=>?_;refine iU (fk a F hF) λo fd fo=>?_;refine codeAny_mono (Ff (cv:=λZ=>0) SS cP hF fo ro hh e iD T oK (.inl tG)) λres s' p=>?_;rcases p with ⟨v,e1,g',x1,x2,x3,x4,_⟩
 exact ⟨v,e1,g',x1,x2,x3,x4⟩
theorem qx.keep{a:Addr}{F:Fn}{o:Obj}{fd:FuncData}(x:qx K a F o fd):keepIn K (.ref a)=true:=by
 unfold keepIn;dsimp only;rw[x.at_];rcases o with ⟨c,dd,da,sl⟩
 have:=x.data;dsimp only at this;subst this;rfl
theorem A0{pos:Pos}{as:List Expr}{bs:List EV}{fv:Value}{first:List Value}{Q:Value->Shared->Prop}(SE:fT ev n d)(SI:gW ev)(ro:dm A n d)(hh:A.handled=none)(cP:g9 P K h₀ mg mb)(hk:keepIn K fv=true)
  (R:Rel cx env cv g st s) (dj:as.all noStar=true) (e2:fC (ev.e cx) as st=some (bs,st')) (ho:jI cx (as.all isSimple) bs=true)
  (h:∀vs bW s₂,Step env.locals cx.ro cx.rb g st.aD s bW st'.aD s₂->Rel cx env cv bW st' s₂->mU env cx.ro cv bW s₂.heap bs vs->wpAny (model prog w) A (call fv (first++vs)) Q br s₂) :
  wpAny (model prog w) A (callWith pos fv first (backTo pos (starEach as env)) []) Q br s:=by
 have hA:=args (pos:=pos) (env:=env) SE SI ro hh dj e2 ho R;induction as using aaa with
 | nil=>exists e2,e2;refine callWith_of (P:=K.In) rfl (keeps_K hk) (evalArgs_nil3 ⟨qN R.ground cP.X,h [] g s Step.refl R .nil⟩)
 | cons x r=>refine callWith_of (P:=K.In) (by rw[yj dj];rfl) (keeps_K hk) ?_;rw[bS,aI]at dj;rw[oX dj.1]at hA |-;refine evalArgs_plain (wm hA (λvs s₂ pq=>?_));revert pq;refine gj λZ cY=>?_;revert cY;refine gz λbW bY b8 jt=>?_;exact ⟨qN b8.ground cP.X,h vs bW s₂ bY b8 jt⟩
theorem OC{fn:Str}{fp pos:Pos}{as:List Expr}{bs:List EV}{a:Addr}{F:Fn}{r:EV}{aP eH:St}{ls:List LV}(SE:fT ev n d)(SI:gW ev)(CS:oY C n)(ro:dm A n d)(hh:A.handled=none)
  (cP:g9 P K h₀ mg mb) (fk:∀a F,P.fn a=some F->∃o fd,qx K a F o fd) (R:Rel cx env cv g st s) (dj:as.all noStar=true)
  (e1:ev.e cx (.Name fn fp) st=some (.val (.glob a),aP)) (hF:P.fn a=some F) (e2:fC (ev.e cx) as aP=some (bs,eH)) (ho:jI cx (as.all isSimple) bs=true) (e3:ki (nN eH) bs=some ls)
  (e4:fV.sC C cx (bs.any gX) a ls eH=some (r,st')):wpAny (model prog w) A (eval (.Call (.Name fn fp) as [] pos) env) (ez cx env cv g st s r st') br s:=by
 refine wpAny_Call_NameR (wm (SE ro hh e1 R) (λv bq pq=>?_));refine pq.el λbM bR bL cj=>?_;clear pq;(induction (bh.inv cj) using wD.casesOn;clear cj);refine iU (fk a F hF) λo fd fo=>?_;refine A0 SE SI ro hh cP fo.keep bL dj e2 ho λvs bW s₂ bY b8 jt=>?_;refine cu (Be (fY:=cx.ro||bs.any gX) b8 (λq=>by rw[q];rfl) jt e3 λq=>by rw[q,Bool.or_true]) λl1 l2=>?_;exact wm (Gf CS (ro.less (cS _)) hh b8 e4 l1 l2) (λv gq p=>p.after (bR.trans bY))
structure yR(K:Frag)(c:Addr)(m:Str)(f:Addr):Prop where
 get:plainGet K c m=true
 find:findIn K (.ref c) m=some (some (.ref f))
 fn:typeIn K (.ref f)=some (.type "function")
theorem FL{o:Expr}{k:Str}{apos pos:Pos}{as:List Expr}{a:EV}{aP:St}{Q:Value->Shared->Prop}(SE:fT ev n d)(ro:dm A n d)(hh:A.handled=none)(R:Rel cx env cv g st s)(hs:n6 o=true)(dj:as.all noStar=true)(hlen:as.length<29)
  (wH:Nat.beq apos.endLine pos.line=true) (e1:ev.e cx o st=some (a,aP))
  (h:∀ov bM bq,Step env.locals cx.ro cx.rb g st.aD s bM aP.aD bq->Rel cx env cv bM aP bq->fc env cx.ro cv s.heap bM bq.heap a ov->
   ∀pl,wpAny (model prog w) A (getMethod ov k pl) (λr s₂=>wpAny (model prog w) A (callWith pos r.1 r.2 (backTo pos (starEach as env)) []) Q br s₂) br bq) :
  wpAny (model prog w) A (eval (.Call (.Attribute o k apos) as [] pos) env) Q br s:=by
 rw[arm_eval_Call,Fd hs];refine av (wm (SE ro hh e1 R) (λov bq pq=>av (wpAny_standAt ?_)));refine pq.el λbM bR bL cj=>?_;clear pq;have ko:(backTo pos (starEach as env)).all (λx=>!x.1)=true:=by have:=yj (pos:=pos) (env:=env) dj;rw[List.any_eq_false]at this;rw[aG];intro x hx;simpa using this x hx
 have Cp:methodCallForm (as.length+([]:List Keyword).length) (backTo pos (starEach as env)) (backToKw pos (keywordEach [] env))=true:=by unfold methodCallForm;rw[ko];show (true&&true&&decide (as.length+0+0<30))=true;rw[aa (by lia)];rfl
 have w7:methodCallPos true o env apos pos=pure pos:=by
  unfold methodCallPos;have:(apos.endLine==pos.line)=true:=by rw[bK];exact Nat.eq_of_beq_eq_true wH
  rw[this];rfl
 unfold methodCall;rw[Cp];refine av (eB ?_);show wpAny _ _ (getMethod ov k _) _ _ _;refine wm (h ov bM bq bR bL cj _) (λr s₂ iz=>?_);rcases r with ⟨fv,first⟩
 exact av (wpAny_of_eq w7 iz)
theorem Gg{a dd c fa:Addr}{o:Obj}{m:Str->Option Value}{k:Str}{pl:Sem Bool}{Q:Value×List Value->Shared->Prop}(cP:g9 P K h₀ mg mb)(mo:yR K c k fa)(iD:Ground h₀ g s.heap)(ha:s.heap.get? a=some o)(hc:o.cls=.ref c)(hd:o.dict=some dd)(hn:notCls o=true)
  (hm:s.heap.Ns1 dd m) (hv:m k=none) (q:Q (.ref fa,[.ref a]) s):wpAny (model prog w) A (getMethod (.ref a) k pl) Q br s:=by
 refine bz (yl hm.ns) λod tF look=>?_;have I:InstAt s.heap a o c (some od):=⟨ha,hc,hn,by rw[hd];exact tF⟩;exact method_fn (qN iD cP.X) I (plainGet_of mo.get).1 (plainGet_of mo.get).2 mo.find mo.fn (by show (lookIn k od).map _=_;rw[look,hv];rfl) q
set_option tactic.hygienic true in
theorem Fg{G:Prop}{P:Prog}{st:St}{a:EV}{k:Str}{r:Option Addr}(k1:∀n ob c C f,a=.val (.obj n)->st.aD[n]?=some ob->ob.cls=some c->P.cls c=some C->(look ob.fs k).isNone=true->look C.meths k=some f->some f=r->G)
  (k2:∀c fs C f,a=.val (.inst c fs)->P.cls c=some C->(look fs k).isNone=true->look C.meths k=some f->some f=r->G) (k3:∀v,gf st a=some v->o5 k v=true->none=r->G) (e:rV P st a k=some r):G:=by
 have oJ:(gf st a).bind (λv=>if o5 k v then some none else none)=some r->G:=cN λv h=>dG λq e=>k3 v h q (aY e);induction a using EV.casesOn with
 | val V=>
  induction V using MV.casesOn with
  | obj n=>exact cN (λob h1=>cN λc h2=>cN λC h3=>dG λh4=>eZ λf h5=>k1 n ob c C f rfl h1 h2 h3 h4 h5) e
  | inst c fs=>exact cN (λC h3=>dG λh4=>eZ λf h5=>k2 c fs C f rfl h3 h4 h5) e
  | _=>exact oJ e
 | _=>exact oJ e
theorem Qz{a:EV}{k:Str}{fa:Addr}{ov:Value}{lo:Heap}{pl:Sem Bool}{Q:Value×List Value->Shared->Prop}(cP:g9 P K h₀ mg mb)(mk:∀c Cc m f,P.cls c=some Cc->look Cc.meths m=some f->yR K c m f)(R:Rel cx env cv g st s)
  (E:fc env cx.ro cv lo g s.heap a ov) (e:rV P st a k=some (some fa)) (q:Q (.ref fa,[ov]) s):(∃V,sA a=some V/\RV g s.heap ov V)/\wpAny (model prog w) A (getMethod ov k pl) Q br s:=by
 revert e;refine Fg (λn po c Cc f' h kC hc hC hl hf e=>?_) (λc fs Cc f' h hC hl hf e=>?_) λZ Z Z e=>by injection e
 ·subst h;injection e with e;subst e
  refine ⟨⟨_,rfl,E⟩,?_⟩;induction (bh.inv E) using qw.casesOn with
  | obj j5=>
  have:=R.aD.at_ n _ po j5 kC;cases (this) with
  | inst a1 a2 a3 a4 a5 a6 a7 af S=>exists hc,hc;exact Gg cP (mk c Cc k f' hC hf) R.ground a3 a4 a5 a6 a7 (S.none (by simpa using hl)) q
  | dict a1 a2 a3 S=>exact aM hc
 ·subst h;injection e with e;subst e
  refine ⟨⟨_,rfl,E⟩,?_⟩;cases (E) with
  | inst i j e1 e2 e3 e4 e5 k1 nf n1 n2 r=>exact Gg cP (mk c Cc k f' hC hf) R.ground e2 e3 e4 e5 k1 (n1 k (by simpa using hl)) q
theorem Ml{o:Expr}{k:Str}{apos pos:Pos}{as:List Expr}{bs:List EV}{a r:EV}{fa:Addr}{V:MV}{aP eH:St}{ls:List LV}{F:Fn}(SE:fT ev n d)(SI:gW ev)(CS:oY C n)(ro:dm A n d)(hh:A.handled=none)
  (cP:g9 P K h₀ mg mb) (mk:∀c Cc m f,P.cls c=some Cc->look Cc.meths m=some f->yR K c m f) (fk:∀a F,P.fn a=some F->∃o fd,qx K a F o fd) (hF:P.fn fa=some F) (R:Rel cx env cv g st s) (hs:n6 o=true) (dj:as.all noStar=true) (hlen:as.length<29)
  (wH:Nat.beq apos.endLine pos.line=true) (e1:ev.e cx o st=some (a,aP)) (em:rV P aP a k=some (some fa)) (e2:fC (ev.e cx) as aP=some (bs,eH)) (ho:jI cx (as.all isSimple) bs=true) (Ka:sA a=some V) (e3:ki (nN eH) bs=some ls)
  (e4:fV.sC C cx (bs.any gX) fa (.v V::ls) eH=some (r,st')):wpAny (model prog w) A (eval (.Call (.Attribute o k apos) as [] pos) env) (ez cx env cv g st s r st') br s:=by
 refine FL SE ro hh R hs dj hlen wH e1 λov bM bq bR bL cj pl=>?_;refine iU (fk fa F hF) λoo fd fo=>?_;have key:=Qz (A:=A) (pl:=pl) (Q:=λp s₂=>wpAny (model prog w) A (callWith pos p.1 p.2 (backTo pos (starEach as env)) []) (ez cx env cv g st s r st') br s₂) cP mk bL cj em ?_
 ·exact key.2
 ·have rv:RV bM bq.heap ov V:=by
   induction a using EV.casesOn<;>try first | exact aM Ka | exists Ka
   exact cj
  refine A0 SE SI ro hh cP fo.keep bL dj e2 ho λvs bW s₂ bY b8 jt=>?_;refine cu (Be (fY:=cx.ro||bs.any gX) b8 (λq=>by rw[q];rfl) jt e3 λq=>by rw[q,Bool.or_true]) λl1 l2=>?_;exact wm (Gf CS (ro.less (cS _)) hh b8 e4 (.cons (bY.up.v rv) l1) (by rw[bS,l2];rfl)) (λv gq p=>p.after (bR.trans bY))
theorem vJ{l:Loc}{X V:MV}{v:Value}{b:Addr}{lo:Heap}{tk:Nat}(R:Rel cx env cv g st s)(E:fc env cx.ro cv lo g s.heap (.cont l) v)(hv:v=.ref b)(hd:fZ st l=some X)(e:iZ cx st l V=some st')
  (hs:Heap.SameBut b s.heap h') (hc:dM g h' b V):Step env.locals cx.ro cx.rb g st.aD s g st'.aD {s with heap:=h',toks:=tk}/\Rel cx env cv g st' {s with heap:=h',toks:=tk}:=by
 refine ja (pY R E hd) λb' u9 Z hl=>?_;obtain rfl:b'=b:=by rw[hv]at u9;exact (Value.ref.inj u9).symm
 induction l using Loc.casesOn with
 | slot n k=>revert hl;refine gj λbA hr=>?_;obtain rfl:=bA;refine jv (λgg e=>N7 (λY hY e=>?_) e) e;revert e;refine eZ λσ' ng gw=>?_;subst gw;exact set_slot R (by simpa using gg) hY hs hc ng
 | var x=>revert hl;refine gj λbA hr=>?_;obtain rfl:=bA;refine jv (λdJ e=>HH (λY hY e=>?_) e) e;exists e;refine eg (qa E.2) λk1 k2 k3=>?_;exact set_own R (by simpa using dJ) hY k1 k2 k3 hs hr hc.get hc
theorem GZ{vs:Array Value}{xs:List MV}{v:Value}{V:MV}(r:RL g h vs.toList xs)(rv:RV g h v V):RL g h (vs.push v).toList (xs++[V]):=by rw[Array.toList_push];exact vB r (.cons rv .nil)
theorem oZ{b:Addr}(hs:Heap.SameBut b h h')(hf:g.ρ b≠.frozen):Up g h g h':=
 ⟨λa o r e=>⟨r,(hs.2 a (λq=>hf (by rw[<-q];exact r))).trans e⟩,λZ Z e=>e⟩
theorem ym{l:Loc}{X:MV}{v:Value}{lo:Heap}(R:Rel cx env cv g st s)(E:fc env cx.ro cv lo g s.heap (.cont l) v)(hd:fZ st l=some X):∃b,v=.ref b/\dM g s.heap b X/\g.ρ b≠.frozen:=by
 refine ja (pY R E hd) λb hb c hl=>?_;refine ⟨b,hb,c,?_⟩;induction l using Loc.casesOn with
 | slot n k=>rw[hl.2];exact dS rfl
 | var x=>rw[hl.2];exact dS rfl
theorem Nb{l:Loc}{xs:List MV}{v u:Value}{V:MV}{lo:Heap}(R:Rel cx env cv g st s)(E:fc env cx.ro cv lo g s.heap (.cont l) v)(hd:fZ st l=some (.lst xs))(hl:xs.length<bE)(ru:RV g s.heap u V)
  (e:iZ cx st l (.lst (xs++[V]))=some st'):wpAny (model prog w) A (call (.builtin "list.append") [v,u]) (ez cx env cv g st s (.val .none) st') br s:=by
 refine ja (ym R E hd) λb cY c hf=>?_;obtain rfl:=cY;cases (c) with
 | @lst vs _ i r=>have hn:=jf r;rw[aL]at hn;refine wpAny_list_append_plain i (λh' hp hs=>?_) (by rw[hn,bT];have:bE=1048576:=rfl;lia);have up:=oZ (g:=g) hs hf;refine cu (vJ (tk:=s.toks) R E rfl hd e hs (.lst hp (GZ (up.l r) (up.v ru)))) λS R'=>?_;exact ⟨g,S,R',.none⟩
theorem QA{vs:List Value}{xs:List MV}{V:MV}(r:RL g h vs xs):xs.getLast?=some V->∃p y,vs=p++[y]/\RL g h p xs.dropLast/\RV g h y V:=
 dR.ind (P:=λvs xs=>xs.getLast?=some V->∃p y,vs=p++[y]/\RL g h p xs.dropLast/\RV g h y V) (λe=>aM e) (λv W vs Vs x r ih e=>by
  cases r with
  | nil=>obtain rfl:=someE e;exact ⟨[],v,rfl,.nil,x⟩
  | cons x' r=>refine iU (ih (List.getLast?_cons_cons▸e)) λp y q=>eg q λe1 e2 e3=>⟨v::p,y,by rw[e1];rfl,.cons x e2,e3⟩) r
theorem v7{l:Loc}{xs:List MV}{v:Value}{V:MV}{lo:Heap}(R:Rel cx env cv g st s)(E:fc env cx.ro cv lo g s.heap (.cont l) v)(hd:fZ st l=some (.lst xs))(hl:xs.length<bE)(hV:xs.getLast?=some V)
  (e:iZ cx st l (.lst xs.dropLast)=some st'):wpAny (model prog w) A (call (.builtin "list.pop") [v]) (ez cx env cv g st s (.val V) st') br s:=by
 refine ja (ym R E hd) λb cY c hf=>?_;obtain rfl:=cY;cases (c) with
 | @lst vs _ i r=>
  have hn:=jf r;refine rj (QA r hV) λp y e1 e2 e3=>?_;have ei:vs=(p++[y]).toArray:=by rw[<-e1,Array.toArray_toList]
  subst ei;revert i;refine gh λk ho=>?_;have hlen:(p++[y]).length=xs.length:=hn;have D3:(p++[y]).toArray.size<=sizeLine:=by rw[List.size_toArray,hlen,bT];have:bE=1048576:=rfl;lia
  have hk:(p++[y]).toArray.size-1=p.length:=by rw[List.size_toArray,ay];rfl
  have hy:(p++[y]).toArray[(p++[y]).toArray.size-1]?=some y:=by rw[hk];simp
  refine call_meets PySem.F.slot_list_pop ⟨_,ho,rfl⟩ PySem.F.entry_list_pop (PySem.F.args_list_pop_1 _) (PySem.MeetsSeq.list_pop_last b _ k y hy D3) ⟨ho,?_⟩;have hs:Heap.SameBut b s.heap (s.heap.update b (Obj.mapSeq λxs=>xs.eraseIdxIfInBounds ((p++[y]).toArray.size-1))):=Heap.SameBut.update ..;have up:=oZ (g:=g) hs hf;have q:=PySem.IsL.update ho (λxs=>xs.eraseIdxIfInBounds ((p++[y]).toArray.size-1));have ee:(p++[y]).toArray.eraseIdxIfInBounds ((p++[y]).toArray.size-1)=p.toArray:=by rw[hk,kl_erase,eo]
  rw[ee]at q;refine cu (vJ (tk:=s.toks) R E rfl hd e hs (.lst ⟨_,q⟩ (by simpa using up.l e2))) λS R'=>?_;exact ⟨g,S,R',up.v e3⟩
theorem Nc{l:Loc}{xs ys:List MV}{v u:Value}{lo lo':Heap}(R:Rel cx env cv g st s)(E:fc env cx.ro cv lo g s.heap (.cont l) v)(hd:fZ st l=some (.lst xs))(hl:xs.length<bE)(oM:ys.length<bE)(tu:fW lo' g s.heap (.lst ys) u)
  (e:iZ cx st l (.lst (xs++ys))=some st'):wpAny (model prog w) A (call (.builtin "list.extend") [v,u]) (ez cx env cv g st s (.val .none) st') br s:=by
 have hL:bE=1048576:=rfl;refine ja (ym R E hd) λb cY c hf=>?_;obtain rfl:=cY;refine ji (tu.cont rfl) λb' dP Z ht c'=>?_;obtain rfl:=dP;cases (c) with
 | @lst vs _ i r=>
 cases (c') with
 | @lst us _ i' r'=>
  have hn:=jf r;have pO:=jf r';rw[aL]at hn pO;revert i;refine gh λk ho=>?_;revert i';refine gh λk' gI=>?_;have Vm:¬(!vs.isEmpty&&Builtin.List.listTooLong (vs.size+us.size))=true:=by unfold Builtin.List.listTooLong;rw[aI];intro q;have q2:=q.2;simp only[decide_eq_true_eq,sizeLine_eq]at q2;lia
  refine call_meets PySem.F.slot_list_extend ⟨_,ho,rfl⟩ PySem.F.entry_list_extend (PySem.F.args_list_extend_2 _ _) (PySem.AutoSeq1.list_extend_list_list_0 b vs k b' us k' Vm (by rw[hn,bT];lia) (by rw[hn,pO,bT];lia)) ⟨ho,gI,?_⟩;have hs:Heap.SameBut b s.heap (s.heap.update b (Obj.mapSeq λx=>x++us)):=Heap.SameBut.update ..;have up:=oZ (g:=g) hs hf;have q:=PySem.IsL.update ho (λx=>x++us);refine cu (vJ (tk:=s.toks) R E rfl hd e hs (.lst ⟨_,q⟩ (by rw[Array.toList_append];exact vB (up.l r) (up.l r')))) λS R'=>?_;exact ⟨g,S,R',.none⟩
theorem Mm(P:Prog)(C:j0)(d:Nat):gW (run P C d):=by
 induction d with
 | zero=>exact λZ Z Z Z Z Z=>rfl
 | succ d ih=>
  intro k cx e st b hs;have two:∀{β:Type} {o i:Expr} {k:Nat} {q:EV->Bool} {F:EV->EV->St->Option β},jH k o=true->jH k i=true->
    (((run P C d).e {cx with rb:=b} o st).bind λ(a,st)=>if q a then none else ((run P C d).e {cx with rb:=b} i st).bind λ(b,st)=>F a b st) =
    (((run P C d).e cx o st).bind λ(a,st)=>if q a then none else ((run P C d).e cx i st).bind λ(b,st)=>F a b st):=by
   intro β o i k q F h1 h2;rw[ih k cx o st b h1];congr 1
   funext ⟨a,aP⟩
   dsimp only;rw[ih k cx i aP b h2]
  show fV P C (run P C d) {cx with rb:=b} e st=fV P C (run P C d) cx e st;induction k using aae with
  | zero=>induction e using aac<;>first | rfl | exact b7 hs
  | succ k=>
   induction e using aac with
   | Constant c k' p=>rfl
   | Name x p=>rfl
   | Attribute o a p=>have hs:jH k o=true:=hs;show (if n6 o=true then ((run P C d).e {cx with rb:=b} o st).bind _ else none)=_;rw[ih k cx o st b hs];rfl
   | UnaryOp op x p=>have hs:jH k x=true:=hs;show (if za op=true then ((run P C d).e {cx with rb:=b} x st).bind _ else _)=_;rw[ih k cx x st b hs];rfl
   | BinOp l op r p=>have hs:=ak.mp (show (jH k l&&jH k r)=true from hs);exact two (q:=λa=>blocks a r) (F:=λa b st=>(gf st a).bind λx=>(gf st b).bind λy=>(binop op x y).map λv=>(v,st)) hs.1 hs.2
   | List es p=>have hs:=aG.mp (show es.all (jH k)=true from hs);show (if _ then (fC ((run P C d).e {cx with rb:=b}) es st).bind _ else none)=_;rw[AZ λx hx st=>ih k cx x st b (hs x hx)];rfl
   | Tuple es p q=>have hs:=aG.mp (show es.all (jH k)=true from hs);show (if _ then (fC ((run P C d).e {cx with rb:=b}) es st).bind _ else none)=_;rw[AZ λx hx st=>ih k cx x st b (hs x hx)];rfl
   | Subscript o i p=>
    have hs:=ak.mp (show (jH k o&&jH k i)=true from hs);show uQ (run P C d) {cx with rb:=b} o i st=uQ (run P C d) cx o i st;have ni:zb i=none/\uc i=false:=by induction i using aac<;>first | exact ⟨rfl,rfl⟩ | (induction k using aae<;>exact b7 hs.2)
    unfold uQ;rw[ni.1];show (if uc i=true then none else _)=(if uc i=true then none else _);rw[ni.2];exact two (q:=λa=>blocks a i) (F:=λa b st=>(itemOf st a b).map λv=>(v,st)) hs.1 hs.2
   | _=>exact b7 hs
theorem G0{K:Type}[DecidableEq K]{iS:K->MV}(w6:∀a b,MV.beq (iS a) (iS b)=decide (a=b)){kvs:List (K×Value)}{es:List (MV×MV)}{k:K}{D:MV}{v:Value}(r:jO g h iS kvs es)(rd:RV g h v D):RV g h ((valueAt kvs k).getD v) ((eK es (iS k)).getD D):=by
 have G:=vH w6 k r;cases q:eK es (iS k) with
 | none=>rw[q]at G;rw[G];exact rd
 | some V=>rw[q]at G;(revert G;refine gp λu z ru=>?_);rw[z];exact ru
theorem RY{x y:Sem Value}{pos:Pos}{b:Addr}{es:List (MV×MV)}{kk D:MV}{Q:Value->Shared->Prop}(hu:A.units+99<cLine)(hb:(b==sysModules)=false)(hk:gE es kk=true)
  (h:wpAny (model prog w) A x (λkv bq=>wpAny (model prog w) A y (λdv s₂=>∃bW,dM bW s₂.heap b (.bO es)/\RV bW s₂.heap kv kk/\RV bW s₂.heap dv D/\∀r tk,RV bW s₂.heap r ((eK es kk).getD D)->Q r {s₂ with toks:=tk}) br bq) br s) :
  wpAny (model prog w) A (callWith pos (.builtin "dict.get") [.ref b] [(false,x),(false,y)] []) Q br s:=by
 rcases yk (pZ hk) with ⟨i,rfl⟩ | ⟨z,rfl⟩ | ⟨ys,rfl⟩
 ·refine wpAny_dict_get2 (knd:=intKind prog w) hb (b6 h (λkv bq h1=>b6 h1 (λdv s₂ pq=>?_) λZ Z e=>e) λZ Z e=>e);revert pq;refine ow λbW c rk rd q=>?_;induction (bh.inv rk) using gR.casesOn with
  | int t=>
  refine cu (r5 c hk) λZ bZ=>?_;revert bZ;refine gp λkvs Dd P=>?_;exact ⟨i,_,intKind_is prog w i t,Dd.mapOf,q _ _ (G0 yD P rd)⟩
 ·refine wpAny_dict_get2 (knd:=PySem.strKind prog w) hb (b6 h (λkv bq h1=>b6 h1 (λdv s₂ pq=>?_) λZ Z e=>e) λZ Z e=>e);revert pq;refine ow λbW c rk rd q=>?_;induction (bh.inv rk) using iR.casesOn with
  | str t _=>
  refine cu (vR c hk) λZ cY=>?_;revert cY;refine gz λkvs Z Dd P=>?_;exact ⟨z,_,strKind_is prog w z t,Dd.mapOf,q _ _ (G0 yE P rd)⟩
 ·refine wpAny_dict_get2_heap (knd:=tupK) (show A.in1.units+8<cLine by show A.units+1+8<cLine;lia) hb (b6 h (λkv bq h1=>b6 h1 (λdv s₂ pq=>?_) λZ Z e=>e) λZ Z e=>e);revert pq;refine ow λbW c rk rd q=>?_;induction (bh.inv rk) using jj.casesOn with
  | tup i1 i2 i3 i4 i5=>
  refine cu (yG c hk) λZ bZ=>?_;revert bZ;refine gp λxs Dd P=>?_;refine ⟨_,.tup ys,xs,rfl,yF (pZ hk) (.tup i1 i2 i3 i4 i5),vI Dd P,q _ _ ?_⟩;have G:=Bc (.tup ys) P;cases qq:eK es (.tup ys) with
  | none=>rw[qq]at G;rw[G];exact rd
  | some V=>rw[qq]at G;(revert G;refine sQ λa u z ru=>?_);rw[z];exact ru
theorem OD(sep:Str)(l:List Str):gP sep l=Str.join sep l:=by
 induction l with
 | nil=>rfl
 | cons x l ih=>
  induction l using aaa with
  | nil=>rfl
  | cons y r=>show x++sep++gP sep (y::r)=x++sep++Str.join sep (y::r);rw[ih]
theorem E0{x y:Str}(hx:PyData.strOk x=true)(hy:PyData.strOk y=true):PyData.strOk (x++y)=true:=by unfold PyData.strOk at *;show (x.cps++y.cps).all _=true;rw[Array.all_append,hx,hy];rfl
theorem OE{sep:Str}(hs:PyData.strOk sep=true){l:List Str}:(∀x∈l,PyData.strOk x=true)->PyData.strOk (gP sep l)=true:=by
 induction l with
 | nil=>intro Z;show PyData.strOk Str.empty=true;simp[PyData.strOk,Str.empty]
 | cons x l ih=>
  intro h;induction l using aaa with
  | nil=>exact h x (.head _)
  | cons y r=>exact E0 (E0 (h x (.head _)) hs) (ih λz hz=>h z (.tail _ hz))
theorem Nd{vs:List Value}{xs:List MV}{ss:List Str}(r:RL g h vs xs):nE xs=some ss->StrsAre vs ss/\∀x∈ss,PyData.strOk x=true:=
 dR.ind (P:=λvs xs=>∀ss,nE xs=some ss->StrsAre vs ss/\∀x∈ss,PyData.strOk x=true) (λss e=>by exists e;exact ⟨.nil,λZ h=>nomatch h⟩) (λv V vs xs x Z ih ss e=>by
  induction V using MV.casesOn with
  | str z=>
   revert e;refine eZ λss e1 gw=>?_;subst gw;induction (bh.inv x) using iR.casesOn with
   | str t k=>exact ⟨.cons z t (ih _ e1).1,λy hy=>(aC.mp hy).elim (λq=>q▸k) ((ih _ e1).2 y)⟩
  | _=>exact aM e) r ss
theorem RZ{ss:List Str}(hk:ss.all (λs=>decide (s.length<=16))=true):(ss.map (·.length)).sum<=ss.length*16:=by
 induction ss with
 | nil=>simp
 | cons x r ih=>rw[bS,aI,aK]at hk;have:=ih hk.2;simp only[List.map_cons,List.sum_cons,List.length_cons];lia
theorem BI{sep:Str}{t:Tok}{xs:List MV}{ss:List Str}{u:Value}(hs:PyData.strOk sep=true)(rt:RT g s.heap (.lst xs) u)(hl:xs.length<=4096)(oM:sep.length<=16)(e:nE xs=some ss)(hk:ss.all (λs=>decide (s.length<=16))=true) :
  wpAny (model prog w) A (call (.builtin "str.join") [.str sep t,u]) (λr s'=>Gives g s (.val (.str (gP sep ss))) r s') br s:=by
 refine bz (rt.cont rfl) λb bZ c=>?_;obtain rfl:=bZ;refine bz c.list λvs hv r=>?_;refine cu (Nd r e) λh1 h2=>?_;have hlen:ss.length=xs.length:=by
  have:∀{xs:List MV} {ss:List Str},nE xs=some ss->ss.length=xs.length:=by
   intro xs;induction xs with
   | nil=>intro ss e;exists e;rfl
   | cons V r ih=>
    intro ss e;induction V using MV.casesOn with
    | str z=>revert e;refine eZ λJ6 e1 gw=>?_;subst gw;simp[ih e1]
    | _=>exact aM e
  exact this e
 have YS:=RZ hk;have hmul:ss.length*sep.length<=4096*16:=Nat.mul_le_mul (by lia) oM;refine PyProof.Rows.join_list hv h1 (by lia) λt' k=>?_;have:Txt.join sep ss=gP sep ss:=by rw[OD];exact bK.mp (join_plain_closes sep ss)
 rw[this];exact Gives.tok (.str t' (OE hs h2)) k
theorem LF{b:Addr}{es:List (MV×MV)}(c:dM g h b (.bO es)):(∃o,h.get? b=some o/\o.cls=.type "dict")/\(∃o,h.get? b=some o/\o.dict=none)/\(b==sysModules)=false:=by
 cases (c) with
 | lK y D r=>(revert D;refine zB λo es ep q x Z=>?_);exact ⟨⟨o,q,x.1⟩,⟨o,q,x.2.1⟩,y⟩
 | mw y k D r=>(revert D;refine zB λo es ep q x Z=>?_);exact ⟨⟨o,q,x.1⟩,⟨o,q,x.2.1⟩,y⟩
 | mz y D r=>(revert D;refine zB λo es ep q x Z=>?_);exact ⟨⟨o,q,x.1⟩,⟨o,q,x.2.1⟩,y⟩
theorem Li{a:EV}{k:Str}(e:rV P st a k=some none):∃V,gf st a=some V/\o5 k V=true:=Fg (λZ Z Z Z Z Z Z Z Z Z Z e=>by injection e) (λZ Z Z Z Z Z Z Z e=>by injection e) (λV h1 q Z=>⟨V,h1,q⟩) e
inductive HS(cx:Ctx)(env:Env)(cv:Str->Addr)(g:G)(st:St)(s:Shared)(as:List EV)(a:EV)(v:Value)(lo:Heap)(st':St)(vs:List Value)(s':Shared):Prop
 | mk (g':G):Step env.locals cx.ro cx.rb g st.aD s g' st'.aD s'->Rel cx env cv g' st' s'->mU env cx.ro cv g' s'.heap as vs->fc env cx.ro cv lo g' s'.heap a v->HS cx env cv g st s as a v lo st' vs s'
theorem AK{pos:Pos}{es:List Expr}{as:List EV}{a:EV}{v:Value}{lo:Heap}(SE:fT ev n d)(SI:gW ev)(r:dm A n d)(hh:A.handled=none)(dj:es.all noStar=true)(e:fC (ev.e cx) es st=some (as,st'))(ho:jI cx (es.all isSimple) as=true)
  (hs:(gX a&&!es.all isSimple&&cx.rb)=false) (R:Rel cx env cv g st s) (Ea:fc env cx.ro cv lo g s.heap a v) :
  wpAny (model prog w) A (spliced (backTo pos (starEach es env))) (λvs s'=>HS cx env cv g st s as a v lo st' vs s') br s:=by
 have sl:rY a=gX a:=by induction a using EV.casesOn<;>first | rfl | (rename_i l;cases l<;>rfl)
 by_cases vS:es.all isSimple=true
 ·refine wm (uv (cx:={cx with rb:=false}) SE r hh dj ((Fe SI vS).trans e) (.inr (.inr rfl)) (R.qA false)) (λvs s' pq=>?_);revert pq;refine gj λhl cY=>?_;revert cY;refine gz λg' S' R' K'=>?_;exact ⟨g',S'.out (az _) id λZ=>.inr rfl,R'.zF,K',Ea.step S' R.aD.len (.inr (.inr rfl))⟩
 ·refine wm (args SE SI r hh dj e ho R) (λvs s' pq=>?_);revert pq;refine gj λhl cY=>?_;revert cY;refine gz λg' S' R' K'=>?_;refine ⟨g',S',R',K',Ea.step S' R.aD.len ?_⟩;rw[sl];cases hq:gX a with
  | false=>exact .inl rfl
  | true=>
   rw[hq]at hs;have:cx.rb=false:=by simpa[vS] using hs
   exact .inr (.inr this)
theorem AE{l:Loc}{v:Value}{xs:List MV}{lo:Heap}(R:Rel cx env cv g st s)(E:fc env cx.ro cv lo g s.heap (.cont l) v)(hd:fZ st l=some (.lst xs)):∃b o,v=.ref b/\s.heap.get? b=some o/\o.cls=.type "list"/\o.dict=none:=by
 refine ja (pY R E hd) λb cY c Z=>?_;obtain rfl:=cY;cases (c) with
 | lst i r=>(revert i;refine gh λn e=>?_);exact ⟨b,_,rfl,e,rfl,rfl⟩
theorem Bg{m:Str}{id:String}{b:Addr}{o:Obj}{pl:Sem Bool}{Q:Value×List Value->Shared->Prop}(ho:s.heap.get? b=some o)(hc:o.cls=.type "list")(hd:o.dict=none)(sl:Slot "list" m id)(ty:typeOf (.builtin id)=pure (.type "method_descriptor"))
  (q:Q (.builtin id,[.ref b]) s):wpAny (model prog w) A (getMethod (.ref b) m pl) Q br s:=
 getMethod_builtin ⟨o,ho,hc⟩ PySem.F.plainAttrs_list sl ty (λa e=>by cases (e);exact ⟨o,ho,hd⟩) q
theorem yI{pos:Pos}{es:List Expr}{id:String}{first:List Value}{Q:Value->Shared->Prop}(dj:es.all noStar=true)
  (h:wpAny (model prog w) A (spliced (backTo pos (starEach es env))) (λvs bq=>wpAny (model prog w) A (call (.builtin id) (first++vs)) Q br bq) br s) :
  wpAny (model prog w) A (callWith pos (.builtin id) first (backTo pos (starEach es env)) []) Q br s:=by
 refine callWith_builtin (yj dj) ?_;induction es using aaa with
 | nil=>refine evalArgs_nil3 ?_;intro Γ p Kc;exact (show wpAny (model prog w) A (call (.builtin id) (first++[])) Q br s from h Γ p Kc) Γ p Kc
 | cons x r=>rw[bS,aI]at dj;rw[oX dj.1]at h |-;exact evalArgs_plain h
theorem AO{m:Str}{V:MV}(e:o5 m V=true)(hm:m=Str.ofString "append"\/m=Str.ofString "pop"\/m=Str.ofString "extend"):∃xs,V=.lst xs:=by
 induction V using MV.casesOn with
 | lst xs=>exact ⟨xs,rfl⟩
 | bO es=>exfalso;have e:=ai e;rcases hm with q | q | q<;>rw[q]at e<;>exact absurd e (by decide)
 | str x=>exfalso;have e:=ai e;rcases hm with q | q | q<;>rw[q]at e<;>exact absurd e (by decide)
 | _=>exact b7 e
theorem Mn{m:Str}{V:MV}(e:o5 m V=true)(hm:m=Str.ofString "get"):∃xs,V=.bO xs:=by
 induction V using MV.casesOn with
 | bO xs=>exact ⟨xs,rfl⟩
 | lst es=>exfalso;have e:=b5.mp e;rw[hm]at e;exact absurd e (by decide)
 | str x=>exfalso;have e:=ai e;rw[hm]at e;exact absurd e (by decide)
 | _=>exact b7 e
theorem G2{as:List Expr}{fe:Expr->St->Option (EV×St)}{a:EV}(e:fC fe as st=some ([a],st')):∃x,as=[x]/\fe x st=some (a,st')/\uq a=true:=by
 refine cg (BH e rfl) λx bA=>?_;obtain rfl:=bA;refine ⟨x,rfl,?_⟩;skip;revert e;refine eG λb aP e1 e=>?_;dsimp only at e;split at e
 ·rename_i q;cases (e);exact ⟨e1,q⟩
 ·exact aM e
theorem QB{as:List Expr}{fe:Expr->St->Option (EV×St)}{a b:EV}(e:fC fe as st=some ([a,b],st')):∃x y aP,as=[x,y]/\fe x st=some (a,aP)/\fe y aP=some (b,st'):=by
 have hl:=yi e
 match as,hl with
 | [x,y],_=>
  skip;revert e;refine eG λa' aP e1 e=>?_;dsimp only at e;split at e
  ·revert e;refine eG λbs eH e2 e=>?_;cases (e);refine ja (G2 e2) λy' hy e3 Z=>?_;cases (hy);exact ⟨x,y,aP,rfl,e1,e3⟩
  ·exact aM e
theorem mU.one{x:EV}{vs:List Value}(k:mU env cx.ro cv g h [x] vs):∃v,vs=[v]/\mZ env cx.ro cv g h x v:=by
 cases (k) with
 | cons kx kr=>cases (kr);exact ⟨_,rfl,kx⟩
theorem mU.zero{vs:List Value}(k:mU env cx.ro cv g h [] vs):vs=[]:=by cases (k);rfl
inductive JB(cx:Ctx)(env:Env)(cv:Str->Addr)(g:G)(σ:eN)(s:Shared)(b:EV)(a:EV)(u:Value)(lo:Heap)(st':St)(v:Value)(s':Shared):Prop
 | mk (g':G):Step env.locals cx.ro cx.rb g σ s g' st'.aD s'->Rel cx env cv g' st' s'->fc env cx.ro cv s.heap g' s'.heap b v->fc env cx.ro cv lo g' s'.heap a u->JB cx env cv g σ s b a u lo st' v s'
theorem Mp(a:EV):rY a=gX a:=by
 induction a using EV.casesOn with
 | cont l=>induction l using Loc.casesOn<;>rfl
 | _=>rfl
theorem held{x:Expr}{b a:EV}{u:Value}{lo:Heap}(SE:fT ev n d)(SI:gW ev)(ro:dm A n d)(hh:A.handled=none)(R:Rel cx env cv g st s)(E:fc env cx.ro cv lo g s.heap a u)(e:ev.e cx x st=some (b,st'))(hs:isSimple x=true\/gX a=false\/cx.rb=false) :
  wpAny (model prog w) A (eval x env) (JB cx env cv g st.aD s b a u lo st') br s:=by
 by_cases q:isSimple x=true
 ·refine wm (SE ro hh ((SI 6 cx x st false q).trans e) (R.qA false)) (λv s₂ pq=>?_);refine pq.el λbW bY b8 gD=>?_;clear pq;exact ⟨bW,bY.out (az _) id λZ=>.inr rfl,b8.zF,gD,E.step bY R.aD.len (.inr (.inr rfl))⟩
 ·refine wm (SE ro hh e R) (λv s₂ pq=>?_);refine pq.el λbW bY b8 gD=>?_;clear pq;exact ⟨bW,bY,b8,gD,E.step bY R.aD.len (by rw[Mp];exact (hs.resolve_left q).imp id .inr)⟩
section
variable {pos:Pos} {as:List Expr} {bs:List EV} {a r:EV} {aP eH:St} {bM:G} {bq:Shared} {ov:Value} {V:MV} {l:Loc} {x:EV} {xs:List MV} {pl:Sem Bool}
variable (SE:fT ev n d) (SI:gW ev) (rm:dm A n d) (hh:A.handled=none) (bR:Step env.locals cx.ro cx.rb g st.aD s bM aP.aD bq) (bL:Rel cx env cv bM aP bq) (cj:fc env cx.ro cv s.heap bM bq.heap a ov) (hV:gf aP a=some V)
 (dj:as.all noStar=true) (e2:fC (ev.e cx) as aP=some (bs,eH)) (ho:jI cx (as.all isSimple) bs=true) (iM:(gX a&&!as.all isSimple&&cx.rb)=false)
include SE SI rm hh bR bL cj hV dj e2 ho iM
theorem Nf{v:MV}(hk:o5 (Str.ofString "append") V=true)(ha:a=.cont l)(hb:bs=[x])(hc:fZ eH l=some (.lst xs))(hv:jB x=some v)(dH:xs.length<bE)(g4:iZ cx eH l (.lst (xs++[v]))=some st') :
  wpAny (model prog w) A (getMethod ov (Str.ofString "append") pl) (λr s₂=>wpAny (model prog w) A (callWith pos r.1 r.2 (backTo pos (starEach as env)) []) (ez cx env cv g st s (.val .none) st') br s₂) br bq:=by
 subst ha hb;refine cg (AO hk (.inl rfl)) λys bA=>?_;obtain rfl:=bA;refine uU (AE bL cj hV) λb ob dP h1 h2 h3=>?_;obtain rfl:=dP;refine Bg h1 h2 h3 PySem.F.slot_list_append PySem.F.type_list_append (yI dj (wm (AK (pos:=pos) SE SI rm hh dj e2 ho iM bL cj) (λvs s₂ pq=>?_)));rcases pq with ⟨bW,bY,b8,jt,gD⟩
 have rv:=(Bd jt (show (jB x).bind _=some [v] by rw[hv];rfl)).1;refine bz jt.one λu bZ Z=>?_;obtain rfl:=bZ;cases (rv) with
 | cons rv _=>exact wm (Nb b8 gD hc dH rv g4) (λZ Z p=>p.after (bR.trans bY))
theorem R2{v:MV}(hk:o5 (Str.ofString "pop") V=true)(ha:a=.cont l)(hb:bs=[])(hc:fZ eH l=some (.lst xs))(hv:xs.getLast?=some v)(dH:xs.length<bE)(g4:iZ cx eH l (.lst xs.dropLast)=some st') :
  wpAny (model prog w) A (getMethod ov (Str.ofString "pop") pl) (λr s₂=>wpAny (model prog w) A (callWith pos r.1 r.2 (backTo pos (starEach as env)) []) (ez cx env cv g st s (.val v) st') br s₂) br bq:=by
 subst ha hb;refine cg (AO hk (.inr (.inl rfl))) λys bA=>?_;obtain rfl:=bA;refine uU (AE bL cj hV) λb ob dP h1 h2 h3=>?_;obtain rfl:=dP;refine Bg h1 h2 h3 PySem.F.slot_list_pop PySem.F.type_list_pop (yI dj (wm (AK (pos:=pos) SE SI rm hh dj e2 ho iM bL cj) (λvs s₂ pq=>?_)));rcases pq with ⟨bW,bY,b8,jt,gD⟩
 obtain rfl:=jt.zero;exact wm (v7 b8 gD hc dH hv g4) (λZ Z p=>p.after (bR.trans bY))
omit ho in
theorem Ng{ys:List MV}(hk:o5 (Str.ofString "extend") V=true)(ha:a=.cont l)(hb:bs=[.fresh (.lst ys)])(hc:fZ eH l=some (.lst xs))(dH:xs.length<bE)(uW:ys.length<bE)(g4:iZ cx eH l (.lst (xs++ys))=some st') :
  wpAny (model prog w) A (getMethod ov (Str.ofString "extend") pl) (λr s₂=>wpAny (model prog w) A (callWith pos r.1 r.2 (backTo pos (starEach as env)) []) (ez cx env cv g st s (.val .none) st') br s₂) br bq:=by
 subst ha hb;refine cg (AO hk (.inr (.inr rfl))) λzs bA=>?_;obtain rfl:=bA;refine uU (AE bL cj hV) λb ob dP h1 h2 h3=>?_;obtain rfl:=dP;refine ja (G2 e2) λx cY e4 gn=>?_;obtain rfl:=cY;have hx:noStar x=true:=(ak.mp dj).1;refine Bg h1 h2 h3 PySem.F.slot_list_extend PySem.F.type_list_extend (yI dj (wpAny_items_cons (wm (held SE SI rm hh bL cj e4 ?_) (λv s₂ pq=>wpAny_items_nil ?_)) (oX hx)))
 ·cases q2:isSimple x with
  | true=>exact .inl rfl
  | false=>refine .inr ?_;cases q1:gX (.cont l) with
   | false=>exact .inl rfl
   | true=>refine .inr ?_;rw[q1]at iM;simpa[q2] using iM
 rcases pq with ⟨bW,bY,b8,Di,gD⟩
 exact wm (Nc b8 gD hc dH uW Di g4) (λZ Z p=>p.after (bR.trans bY))
omit ho in
theorem sm_get{k dd:MV}{es:List (MV×MV)}(hk:o5 (Str.ofString "get") V=true)(hb:bs=[.val k,.val dd])(hc:gf eH a=some (.bO es))(rF:gE es k=true) :
  wpAny (model prog w) A (getMethod ov (Str.ofString "get") pl) (λr s₂=>wpAny (model prog w) A (callWith pos r.1 r.2 (backTo pos (starEach as env)) []) (ez cx env cv g st s (.val ((eK es k).getD dd)) eH) br s₂) br bq:=by
 subst hb;refine cg (Mn hk rfl) λzs bA=>?_;obtain rfl:=bA;refine bz ((lP bL cj hV).cont rfl) λb bZ cc=>?_;obtain rfl:=bZ;refine eg (LF cc.bO) λbA iW sV=>?_;revert bA;refine gp λob D4 WK=>?_;revert iW;refine gp λWL WM WN=>?_;obtain rfl:ob=WL:=aY (D4.symm.trans WM);refine getMethod_builtin ⟨ob,D4,WK⟩ PySem.F.plainAttrs_dict PySem.F.slot_dict_get PySem.F.type_dict_get (λa e=>by cases (e);exact ⟨ob,D4,WN⟩) ?_;refine CY (QB e2) λx y Tn cY e4 e5=>?_;obtain rfl:=cY;have qE:noStar x=true/\noStar y=true:=by simpa using dj
 show wpAny (model prog w) A (callWith pos (.builtin "dict.get") [.ref b] (backTo pos (starEach [x,y] env)) []) _ _ _;have Cp:backTo pos (starEach [x,y] env)=[(false,eval x env),(false,eval y env)]:=by rw[oX qE.1,oX qE.2];rfl
 rw[Cp];have side:∀z,z=x\/z=y->isSimple z=true\/gX a=false\/cx.rb=false:=λz hz=>by
  by_cases vS:[x,y].all isSimple=true
  ·have pL:isSimple x=true/\isSimple y=true:=by simpa using vS
   revert hz;refine eS (λcF=>?_) (λcF=>?_)<;>obtain rfl:=cF
   ·exact .inl pL.1
   ·exact .inl pL.2
  ·refine .inr ?_;cases q1:gX a with
   | false=>exact .inl rfl
   | true=>rw[q1]at iM;exact .inr (by simpa[vS] using iM)
 refine RY (D:=dd) rm.u sV rF (wm (held SE SI rm hh bL cj e4 (side x (.inl rfl))) (λkv s₂ pq=>?_));rcases pq with ⟨bW,bY,b8,gD,Ea⟩
 refine wm (held SE SI rm hh b8 Ea e5 (side y (.inr rfl))) (λdv gq pq=>?_);rcases pq with ⟨jk,gu,gA,m5,Ea⟩
 refine bz ((lP gA Ea hc).cont rfl) λb' u9 D5=>?_;cases (u9);exact ⟨jk,D5.bO,gu.up.v gD,m5,λr tk rv=>ez.after (bR.trans (bY.trans gu)) (.tok gA tk rv)⟩
omit hV in
theorem QC{z:Str}{ss:List Str}(ha:a=.val (.str z))(hb:bs=[x])(hc:gf eH x=some (.lst xs))(h1:xs.length<=4096)(h2:z.length<=16)(pL:nE xs=some ss)(ko:ss.all (λs=>decide (s.length<=16))=true) :
  wpAny (model prog w) A (getMethod ov (Str.ofString "join") pl) (λr s₂=>wpAny (model prog w) A (callWith pos r.1 r.2 (backTo pos (starEach as env)) []) (ez cx env cv g st s (.val (.str (gP z ss))) eH) br s₂) br bq:=by
 subst ha hb;induction (bh.inv cj) using iR.casesOn with
 | str t gn=>
 refine PySem.GM.join (yI dj (wm (AK (pos:=pos) SE SI rm hh dj e2 ho iM bL cj) (λvs s₂ pq=>?_)));rcases pq with ⟨bW,bY,b8,jt,gD⟩
 refine bz jt.one λu bZ kx=>?_;obtain rfl:=bZ;exact wm (BI gn (kx.rt b8 hc) h1 h2 pL ko) (λZ Z G=>ez.after (bR.trans bY) (.gives b8 G))
end
theorem LG{o:Expr}{k:Str}{apos pos:Pos}{as:List Expr}{bs:List EV}{a r:EV}{aP eH:St}(SE:fT ev n d)(SI:gW ev)(ro:dm A n d)(hh:A.handled=none)
  (R:Rel cx env cv g st s) (hs:n6 o=true) (dj:as.all noStar=true) (hlen:as.length<29)
  (wH:Nat.beq apos.endLine pos.line=true) (e1:ev.e cx o st=some (a,aP)) (em:rV P aP a k=some none) (e2:fC (ev.e cx) as aP=some (bs,eH)) (ho:jI cx (as.all isSimple) bs=true)
  (iM:(gX a&&!as.all isSimple&&cx.rb)=false) (e3:qQ cx eH a k bs=some (r,st')):wpAny (model prog w) A (eval (.Call (.Attribute o k apos) as [] pos) env) (ez cx env cv g st s r st') br s:=by
 refine FL SE ro hh R hs dj hlen wH e1 λov bM bq bR bL cj pl=>?_;refine bz (Li em) λV hV hk=>?_;refine MR (λl x v xs q ha hb hc hv dH g4 hr=>?_) (λl v xs q ha hb hc hv dH g4 hr=>?_) (λl ys xs q ha hb hc dH uW g4 hr=>?_) (λkk dd es q hb hc rF hr m6=>?_) (λz x xs ss q ha hb hc h1 h2 pL ko hr m6=>?_) e3<;>subst q hr
 ·exact Nf SE SI ro hh bR bL cj hV dj e2 ho iM hk ha hb hc hv dH g4
 ·exact R2 SE SI ro hh bR bL cj hV dj e2 ho iM hk ha hb hc hv dH g4
 ·exact Ng SE SI ro hh bR bL cj hV dj e2 iM hk ha hb hc dH uW g4
 ·subst m6;exact sm_get SE SI ro hh bR bL cj hV dj e2 iM hk hb hc rF
 ·subst m6;exact QC SE SI ro hh bR bL cj dj e2 ho iM ha hb hc h1 h2 pL ko
noncomputable def G.more(g:G)(h:Heap)(N:Nat)(e:OA)(ρ':Addr->Role)(c:Str->Addr):G:=⟨g.ι++[e],(g.role h ρ').ρ,λn k=>if n=N then c k else g.cs n k⟩
theorem G3{N:Nat}{e:OA}{ρ':Addr->Role}{c:Str->Addr}(keep:∀b o,h.get? b=some o->h'.get? b=some o):Up g h (g.more h N e ρ' c) h':=
 ⟨λa o r q=>⟨(G.mO q).trans r,keep a o q⟩,λn x q=>by
  show (g.ι++[e])[n]?=some x;rw[cM (bF.mp q).1];exact q⟩
theorem Bh{e:OA}{po:kR}{ρ':Addr->Role}{c:Str->Addr}{tk:Nat}(gg:ro=false)(keep:∀b o,s.heap.get? b=some o->h'.get? b=some o) :
  Step f ro rb g σ s (g.more s.heap σ.length e ρ' c) (σ++[po]) {s with heap:=h',toks:=tk}:=
 ⟨⟨h',tk,rfl⟩,λb o q=>⟨o,keep b o q⟩,λb o q Z=>keep b o q,λb o q=>.inl (G.mO q),⟨[e],rfl⟩,λZ n k hn=>au (di hn),λq=>(by rw[gg]at q;exact b7 q),(by rw[ay];exact cA _ _)⟩
theorem G4{e:OA}{po:kR}{ρ':Addr->Role}{c:Str->Addr}{tk:Nat}(R:Rel cx env cv g st s)(gg:cx.ro=false)(keep:∀b o,s.heap.get? b=some o->h'.get? b=some o)
  (ob:oi (g.more s.heap st.aD.length e ρ' c) h' st.aD.length e po) :
  Rel cx env cv (g.more s.heap st.aD.length e ρ' c) {st with aD:=st.aD++[po]} {s with heap:=h',toks:=tk}:=by
 have S:Step (env.locals+1) cx.ro cx.rb g st.aD s (g.more s.heap st.aD.length e ρ' c) (st.aD++[po]) {s with heap:=h',toks:=tk}:=Bh gg keep;have up:Up g s.heap (g.more s.heap st.aD.length e ρ' c) h':=G3 keep;have hlen:=R.aD.len;refine ⟨S.ground R.ground,R.loc.under S (dW _) id,⟨by show (g.ι++[e]).length=(st.aD++[po]).length;rw[ay,ay,hlen];rfl,λn x o h1 h2=>?_⟩⟩;have h1:(g.ι++[e])[n]?=some x:=h1;have h2:(st.aD++[po])[n]?=some o:=h2;by_cases hn:n<st.aD.length
 ·rw[cM (by rw[hlen];exact hn)]at h1;rw[cM hn]at h2;exact (R.aD.at_ n x o h1 h2).keep up (λd o r q=>⟨(G.mO q).trans r,keep d o q⟩) (λk=>au (di hn)) λd o k r q=>⟨(G.mO q).trans r,keep d o q⟩
 ·have pO:n=st.aD.length:=by have:=(bF.mp h2).1;rw[ay]at this;have h3:([po]:List kR).length=1:=rfl;lia
  subst pO;rw[cy (az _),Nat.sub_self]at h2;rw[cy (by rw[hlen];exact az _),hlen,Nat.sub_self]at h1;exists h1;exists h2;exact ob
theorem Nh{lX:Nat}{wI:Bool}{l:LV}{v:Value}{lo:Nat}(S:Step lX wI rb g σ s g' σ' s')(x:w9 lo ro g s.heap l v)(h1:lo<=lX)(h2:ro=true->wI=true){lo':Nat}(h3:lo<=lo'):w9 lo' ro g' s'.heap l v:=by
 induction l using LV.casesOn with
 | v V=>exact S.up.v x
 | bor V=>revert x;refine gz λb e hf c=>?_;have DN:=hf.1.up h1 h2;refine ⟨b,e,?_,S.cont DN c⟩;rw[S.fix c.get DN];exact ⟨hf.1.up h3 id,hf.2⟩
 | own V=>trivial
theorem Fi{lX:Nat}{wI:Bool}{lo:Nat}(S:Step lX wI rb g σ s g' σ' s')(h1:lo<=lX)(h2:ro=true->wI=true){lo':Nat}(h3:lo<=lo'){ls:List LV}{vs:List Value}(r:jL lo ro g s.heap ls vs):jL lo' ro g' s'.heap ls vs:=by
 induction r with
 | nil=>exact .nil
 | cons x r ih=>exact .cons (Nh S x h1 h2 h3) ih
structure Cq(K:Frag)(c:Addr)(Cc:Cl):Prop where
 makes:makesIn K c=true
 keep:keepIn K (.ref c)=true
 init:match Cc.init with
  | some fI=>findIn K (.ref c) "__init__"=some (some (.ref fI))/\typeIn K (.ref fI)=some (.type "function")
  | none=>findIn K (.ref c) "__init__"=some (some (.builtin "object.__init__"))
theorem FN(hh:Heap)(c:Addr):∀b o,hh.get? b=some o->((hh.push emptyDict).push (instObj c hh.objs.size)).get? b=some o:=λb o e=>aQ _ (aQ _ e)
theorem BJ(hh:Heap)(c:Addr):((hh.push emptyDict).push (instObj c hh.objs.size)).get? (hh.objs.size+1)=some (instObj c hh.objs.size):=by heap_get
theorem G5(hh:Heap)(c:Addr):((hh.push emptyDict).push (instObj c hh.objs.size)).Ns1 hh.objs.size (λZ=>none):=by refine ⟨emptyDict,#[],0,?_,rfl,λe he=>by simp at he,.nil,λZ=>rfl⟩;exact aQ _ (bw _ rfl)
theorem FO(hh:Heap)(c:Addr):((hh.push emptyDict).push (instObj c hh.objs.size)).objs.size=hh.objs.size+2:=by rw[Heap.size_push,Heap.size_push]
theorem ES{c:Code}(r:dm A n (d+1))(hc:c.weight=1)(hu:c.cUnits<=4):dm (A.under c) n 0:=
 ⟨by have:=r.depth;show A.depth+c.weight+n*20+0+4<_;lia,by have:=r.units;show A.units+c.cUnits+n*200+0*4+100<_;lia⟩
theorem EO(c:Addr)(vs:List Value)(kw:List (Str×Value)):(Code.builtin "type.__call__" ⟨.ref c::vs,kw⟩).weight=1:=rfl
theorem EP(c:Addr)(vs:List Value)(kw:List (Str×Value)):(Code.builtin "type.__call__" ⟨.ref c::vs,kw⟩).cUnits<=4:=Nat.le_of_ble_eq_true rfl
noncomputable def Bj(D:Addr)(N:Nat)(b:Addr):Role:=if b=D then .dict N else .frozen
theorem QD{c:Addr}(e:OA)(he:e=⟨s.heap.objs.size+1,s.heap.objs.size⟩):oi (g.more s.heap σ.length e (Bj s.heap.objs.size σ.length) λZ=>0) ((s.heap.push emptyDict).push (instObj c s.heap.objs.size)) σ.length e ⟨some c,[]⟩:=by
 subst he;refine .inst ?_ ?_ (BJ _ c) rfl rfl rfl (G5 _ c) (λZ Z=>rfl) (λZ=>rfl)
 ·exact (G.lq (new_of_ge (bG _))).trans (au (Nat.succ_ne_self _))
 ·exact (G.lq (new_of_ge (az _))).trans (aq rfl)
set_option tactic.hygienic true in
theorem Mq{a:Addr}{Cc:Cl}{ls:List LV}{vs:List Value}{r:EV}(CS:oY C n)(ro:dm A n (d+1))(hh:A.handled=none)(cP:g9 P K h₀ mg mb)(co:Cq K a Cc)(hp:Cc.uO=true)(R:Rel cx env cv g st s)
  (e:fV.uF C cx a Cc ls st=some (r,st')) (hl:jL s.heap.objs.size cx.ro g s.heap ls vs) (hn:ls.all nH=true):wpAny (model prog w) A (call (.ref a) vs) (ez cx env cv g st s r st') br s:=by
 unfold fV.uF at e;rw[aq hp]at e;revert e;refine dG λgF e=>?_;simp only[Bool.and_eq_true,Bool.not_eq_true']at gF;dsimp only at e;have X:=qN R.ground cP.X;have Y:=makes_of (M:=model prog w) X co.makes;have hi:=co.init;rcases s with ⟨fh,gs,dr,tk,os⟩
 have keep:=FN fh a;have ob:=QD (g:=g) (σ:=st.aD) (s:=⟨fh,gs,dr,tk,os⟩) (c:=a) ⟨fh.objs.size+1,fh.objs.size⟩ rfl;have bR:∀{f},Step f cx.ro cx.rb g st.aD ⟨fh,gs,dr,tk,os⟩ _ (st.aD++[⟨some a,[]⟩]) ⟨(fh.push emptyDict).push (instObj a fh.objs.size),gs,dr,tk,os⟩:=λ{f}=>Bh (s:=⟨fh,gs,dr,tk,os⟩) (po:=⟨some a,[]⟩) (e:=⟨fh.objs.size+1,fh.objs.size⟩) (ρ':=Bj fh.objs.size st.aD.length) (c:=λZ=>0) (tk:=tk) gF.2 keep;have bL:=G4 (s:=⟨fh,gs,dr,tk,os⟩) (tk:=tk) R gF.2 keep ob;have Dj:RV (g.more fh st.aD.length ⟨fh.objs.size+1,fh.objs.size⟩ (Bj fh.objs.size st.aD.length) λZ=>0) ((fh.push emptyDict).push (instObj a fh.objs.size)) (.ref (fh.objs.size+1)) (.obj st.aD.length):=by refine bh.obj (e:=⟨fh.objs.size+1,fh.objs.size⟩) ?_;show (g.ι++[_])[st.aD.length]?=_;rw[cy (by rw[R.aD.len];exact az _),R.aD.len,Nat.sub_self];rfl
 refine wpAny_call ?_;cases uH:Cc.init with
 | none=>rw[uH]at hi e;revert e;refine dG λoK e=>?_;exists e;have:ls=[]:=cz.mp oK;subst this;cases (hl);refine make_core Y (looks_findIn X hi) (λself=>Looks.of_pure (oi_bind self)) (.inr ⟨rfl,rfl⟩) ?_;have t1:Looks (model prog w) ((fh.push emptyDict).push (instObj a fh.objs.size)) (typeOf (.ref (fh.objs.size+1))) (.ref a):=(Looks.ld (BJ fh a)).andThen .now;have t2:Looks (model prog w) ((fh.push emptyDict).push (instObj a fh.objs.size)) (isInstance (.ref (fh.objs.size+1)) (.type "object")) true:=t1.andThen (Y.top.keeps keep);refine codeAny_call_builtin oi_plain entry_oi (@check_slot (model prog w) _ _ _ "object.__init__" "object" "__init__" (.ref (fh.objs.size+1)) [] [] _ oi_kind oi_split t2 (oi_args (.ref (fh.objs.size+1))) ?_);rw[oi_run];exact aH (And.intro rfl ⟨_,bR,bL,Dj⟩)
 | some fI=>rw[uH]at hi e;revert e;refine eG λv eH e1 e=>?_;dsimp only at e;revert e;refine N8 λhv e=>?_;subst hv;exists e;refine make_core Y (looks_findIn X hi.1) (λself=>bind_fn X self hi.2) (.inl rfl) ?_;have dH:=R.loc.lt;have rE:=Fi (lo':=((fh.push emptyDict).push (instObj a fh.objs.size)).objs.size) (bR (f:=fh.objs.size)) (az _) id (by rw[FO];exact cA _ 2) hl;have key:=CS (A:=A.under (.builtin "type.__call__" ⟨.ref a::vs,[]⟩)) (s:=⟨(fh.push emptyDict).push (instObj a fh.objs.size),gs,dr,tk,os⟩) (vs:=.ref (fh.objs.size+1)::vs) (ES ro (EO a vs []) (EP a vs [])) hh e1 bL.ground bL.aD (by rw[bS,hn];rfl) (.cons Dj rE);refine codeAny_mono key λres s' p=>?_;have p':=uG.back (lk:=false) bL (r:=.val .none) (st':=eH) (res:=res) (s':=s') (by rw[Bool.or_false];exact p) rfl;revert p';refine gp λu g8 zI=>?_;obtain rfl:=g8;refine zI.el λbW bY b8 gD=>?_;clear zI;(induction (bh.inv gD) using o8.casesOn;clear gD);refine ⟨rfl,bW,bR.trans bY,b8,bY.up.v Dj⟩
noncomputable abbrev nM:Str:=Str.ofString "self"
def BS(P:Prog)(a:Addr):Prop:=∃F ps,P.fn a=some F/\F.params=nM::ps
inductive HT(cx:Ctx)(g:G)(σ:eN)(s:Shared)(r:EV)(st':St)(b:Addr)(res:Result)(s':Shared):Prop
 | mk (v:Value):res=.ok (.ret v)->(g':G)->Step s.heap.objs.size cx.ro cx.rb g σ s g' st'.aD s'->Ground h₀ g' s'.heap->lS g' st'.aD s'.heap->xd s.heap g' s'.heap r v->
   (∀V',look st'.loc nM=some (.own V')->g'.ρ b=.own s.heap.objs.size nM/\dM g' s'.heap b V')->HT cx g σ s r st' b res s'
def rT(P:Prog)(C:j0)(n:Nat):Prop:=∀⦃cx:Ctx⦄ ⦃a:Addr⦄ ⦃V:MV⦄ ⦃ls:List LV⦄ ⦃σ:eN⦄ ⦃r:EV⦄ ⦃st':St⦄ ⦃g:G⦄ ⦃s:Shared⦄ ⦃A:Around⦄ ⦃b:Addr⦄ ⦃vs:List Value⦄,
 dm A n 0->A.handled=none->BS P a->C cx a (.own V::ls) σ=some (r,st')->Ground h₀ g s.heap->lS g σ s.heap->ls.all nH=true->jL s.heap.objs.size cx.ro g s.heap ls vs->
  g.ρ b=.own s.heap.objs.size nM->dM g s.heap b V->
  codeAny (model prog w) A (.call (.ref a) ⟨.ref b::vs,[]⟩) (HT cx g σ s r st' b) s
theorem Ni{RB:rQ}{m:Nat}(SS:n8 (run P (jq P RB m) nP) m nP)(cP:g9 P K h₀ mg mb)(fk:∀a F,P.fn a=some F->∃o fd,qx K a F o fd) :
  rT P (jq P RB (m+1)) (m+1):=by
 intro cx a V ls σ r st' g s A b vs ro hh hi e iD T tG oK hr c;revert hi;refine sQ λF ps hF z8=>?_;refine iU (fk a F hF) λo fd fo=>?_;refine codeAny_mono (Ff (cv:=λZ=>b) (vs:=.ref b::vs) SS cP hF fo ro hh e iD T (.cons trivial oK) (.inr ⟨nM,ps,V,ls,.ref b,vs,z8,rfl,rfl,rfl,hr,c,tG⟩)) λres s' p=>?_;rcases p with ⟨v,e1,g',x1,x2,x3,x4,x5⟩
 refine ⟨v,e1,g',x1,x2,x3,x4,λV' hl=>?_⟩;exact x5 nM V' (by rw[z8];exact .head _) (by decide) hl
theorem OG:rT P (jq P RB 0) 0:=by intro cx a V ls σ r st' g s A b vs ro hh hi e;exact aM e
set_option tactic.hygienic true in
theorem Nj{a:Addr}{Cc:Cl}{ls:List LV}{vs:List Value}{r:EV}(OS:rT P C n)(ro:dm A n (d+1))(hh:A.handled=none)(cP:g9 P K h₀ mg mb)(co:Cq K a Cc)(To:∀fI,Cc.init=some fI->BS P fI)(hp:Cc.uO=false)(R:Rel cx env cv g st s)
  (e:fV.uF C cx a Cc ls st=some (r,st')) (hl:jL s.heap.objs.size cx.ro g s.heap ls vs) (hn:ls.all nH=true):wpAny (model prog w) A (call (.ref a) vs) (ez cx env cv g st s r st') br s:=by
 unfold fV.uF at e;rw[au (by rw[hp];decide)]at e;unfold fV.Ik at e;have hi:=co.init;cases uH:Cc.init with
 | none=>rw[uH]at e;exact aM e
 | some fI=>
 rw[uH]at hi e;have hs:=To fI uH;revert e;refine eG λv eH e1 e=>?_;dsimp only at e;revert e;refine Me λa' fs hv wY e=>?_;subst hv;exists e;have X:=qN R.ground cP.X;have Y:=makes_of (M:=model prog w) X co.makes;have dH:=R.loc.lt;rcases s with ⟨fh,gs,dr,tk,os⟩
 have dH:env.locals<fh.objs.size:=dH;have keep:=FN fh a;have hsz:=FO fh a;generalize D6:(fh.push emptyDict).push (instObj a fh.objs.size)=h₁ at keep hsz;let ρ':Addr->Role:=λb=>if b=fh.objs.size\/b=fh.objs.size+1 then .own h₁.objs.size nM else .free
 refine cu (ext (f:=env.locals) (ro:=cx.ro) (rb:=cx.rb) (s':=⟨h₁,gs,dr,tk,os⟩) R ⟨h₁,tk,rfl⟩ keep ρ') λbR bL=>?_;have Tp:=(ext (f:=fh.objs.size) (ro:=cx.ro) (rb:=cx.rb) (s':=⟨h₁,gs,dr,tk,os⟩) R ⟨h₁,tk,rfl⟩ keep ρ').1;have xE:(g.role fh ρ').ρ (fh.objs.size+1)=.own h₁.objs.size nM:=(G.lq (new_of_ge (bG _))).trans (aq (.inr rfl));have Ke:(g.role fh ρ').ρ fh.objs.size=.own h₁.objs.size nM:=(G.lq (new_of_ge (az _))).trans (aq (.inl rfl));have c₁:dM (g.role fh ρ') h₁ (fh.objs.size+1) (.inst a []):=by refine .inst (m:=λZ=>none) (vf:=λZ=>.none) rfl (Ke.trans xE.symm) (by rw[<-D6];exact BJ _ a) rfl rfl rfl (by rw[<-D6];exact G5 _ a) (λZ Z=>rfl) (λZ Z=>rfl) (λk V q=>by exact aM q) (λk V q=>by exact aM q)
 refine wpAny_call (make_core Y (looks_findIn X hi.1) (λself=>bind_fn X self hi.2) (.inl rfl) ?_);rw[D6];have rE:=Fi (lo':=h₁.objs.size) Tp (az _) id (by rw[hsz];exact cA _ 2) hl;have key:=OS (A:=A.under (.builtin "type.__call__" ⟨.ref a::vs,[]⟩)) (s:=⟨h₁,gs,dr,tk,os⟩) (b:=fh.objs.size+1) (vs:=vs) (ES ro (EO a vs []) (EP a vs [])) hh hs e1 bL.ground bL.aD hn rE xE c₁;refine codeAny_mono key λres s₂ pq=>?_;rcases pq with ⟨u,q,bW,bY,YT,Di,JC,own⟩
 subst q;(induction (bh.inv JC) using o8.casesOn;clear JC);refine cu (own _ wY) λo1 c₂=>?_;refine ⟨rfl,?_⟩;have hL:(⟨h₁,gs,dr,tk,os⟩:Shared).heap.objs.size=h₁.objs.size:=rfl;rw[hL]at bY o1;have gu:Step h₁.objs.size cx.ro cx.rb (g.role fh ρ') st.aD ⟨h₁,gs,dr,tk,os⟩ (bW.tag (.inst a' fs) (fh.objs.size+1) .fy) eH.aD s₂:=by
  refine ⟨bY.same,bY.live,bY.keep,λb o hb=>?_,bY.lay,bY.cs,bY.aD,bY.len⟩;cases q:jg (.inst a' fs) (fh.objs.size+1) b with
  | false=>show (if jg _ _ b then _ else bW.ρ b)=_\/_;rw[q];exact bY.role b o hb
  | true=>
   refine .inr ⟨h₁.objs.size,nM,az _,?_⟩;unfold jg at q;refine bu (b5.mp q) (λz=>?_) λz=>?_
   ·rw[bK.mp z];exact xE
   ·rw[dc (bK.mp z)];exact Ke
 have nf:¬(Role.frozen=bW.ρ (fh.objs.size+1)):=by rw[o1];exact dS rfl
 have uW:env.locals<h₁.objs.size:=cC dH (by rw[hsz];exact cA _ 2);refine ⟨_,bR.trans (gu.out (b9 uW) id id),⟨gu.ground bL.ground,bL.loc.under gu uW id,Di.exc (c₂.exc .fy) nf (λZ=>by rw[o1];exact dS rfl) (λZ Z=>by rw[o1];exact dS rfl) (λZ Z Z=>rfl)⟩,?_⟩;refine fW.of (λb q=>new_of_ge ?_) (n5 ..) (c₂.tag .fy (λe=>nf e.symm));unfold jg at q;refine bu (b5.mp q) (λz=>?_) λz=>?_
 ·rw[bK.mp z];exact bG _
 ·rw[dc (bK.mp z)];exact az _
theorem dM.re{b:Addr}{V:MV}(c:dM g h b V)(hi:uu V=false)(u:Up g h g' h')(k:∀o,h.get? b=some o->h'.get? b=some o):dM g' h' b V:=by
 cases (c) with
 | lst i q=>exact .lst (i.at k) (u.l q)
 | lK y d q=>exact .lK y (oW d k) (u.p q)
 | mw y z d q=>exact .mw y z (oW d k) (u.p q)
 | mz y d q=>exact .mz y (d.at k) (u.k q)
 | inst=>injection hi
class inductive jw(lo:Heap)(g:G)(h:Heap):List eO->List Value->Prop
 | nil:jw lo g h [] []
 | val {V:MV} {v:Value} {ss:List eO} {vs:List Value}:RV g h v V->jw lo g h ss vs->jw lo g h (.v V::ss) (v::vs)
 | con {V:MV} {b:Addr} {ss:List eO} {vs:List Value}:uu V=false->lo.get? b=none->g.ρ b=.fy->dM g h b V->jw lo g h ss vs->jw lo g h (.c V::ss) (.ref b::vs)
noncomputable def mW:List (Str×eO)->List Value->List (Str×Addr)
 | (k,.c _)::ss,.ref b::vs=>(k,b)::mW ss vs
 | _::ss,_::vs=>mW ss vs
 | _,_=>[]
theorem jw.step{lo:Heap}{ss:List eO}{vs:List Value}(x:Step f ro rb g σ s g' σ' s')(r:jw lo g s.heap ss vs):jw lo g' s'.heap ss vs:=by
 induction r with
 | nil=>exact .nil
 | val r _ ih=>exact .val (x.up.v r) ih
 | @con V b ss vs i n t c _ ih=>
  have hf:gY f ro (g.ρ b):=by rw[t];trivial
  exact .con i n ((x.fix c.get hf).trans t) (x.cont hf c) ih
set_option tactic.hygienic true in
theorem jw.lo{lo lo':Heap}{ss:List eO}{vs:List Value}(r:jw lo g h ss vs)(e:∀b o,lo'.get? b=some o->∃o',lo.get? b=some o'):jw lo' g h ss vs:=by
 induction r with
 | nil=>exact .nil
 | val r _ ih=>exact .val r ih
 | con i n t c _ ih=>
  refine .con i ?_ t c ih;rename_i V b ss vs _;cases q:lo'.get? b with
  | none=>rfl
  | some o=>(refine cg (e b o q) λo' q'=>?_);rw[n]at q';exact aM q'
theorem jw.len{lo:Heap}{ss:List eO}{vs:List Value}(r:jw lo g h ss vs):ss.length=vs.length:=by
 induction r with
 | nil=>rfl
 | val _ _ ih=>simp[ih]
 | con _ _ _ _ _ ih=>simp[ih]
theorem jw.FP{lo:Heap}{ss:List eO}{vs:List Value}(r:jw lo g h ss vs):∀(ks:List Str) (p:Str×Addr),p∈mW (ks.zip ss) vs->lo.get? p.2=none/\g.ρ p.2=.fy/\p.1∈ks:=by
 induction r with
 | nil=>intro ks p hp;induction ks using aaa<;>cases (hp)
 | val _ _ ih=>
  intro ks p hp;induction ks using aaa with
  | nil=>cases (hp)
  | cons k ks=>(refine eg (ih ks p hp) λa b c=>?_);exact ⟨a,b,.tail _ c⟩
 | con _ n t _ _ ih=>
  intro ks p hp;induction ks using aaa with
  | nil=>cases (hp)
  | cons k ks=>
   refine bu (aC.mp hp) (λcF=>?WO) λhp=>?Y4;(case' WO=>(obtain rfl:=cF))
   ·exact ⟨n,t,.head _⟩
   ·(refine eg (ih ks p hp) λa b c=>?_);exact ⟨a,b,.tail _ c⟩
theorem Mr{a:EV}{x:eO}{v:Value}{lo:Heap}(e:newSlot a=some x)(E:fc env ro cv lo g h a v){ss:List eO}{vs:List Value}(r:jw lo g h ss vs):jw lo g h (x::ss) (v::vs):=by
 induction a using EV.casesOn with
 | val V=>exists e;exact .val E r
 | fresh V=>
  induction V using MV.casesOn with
  | lst=>exists e;refine ji (fW.cont E rfl) λb dP n t c=>?_;obtain rfl:=dP;exact .con rfl (n b (by simp[jg])) t c r
  | bO=>exists e;refine ji (fW.cont E rfl) λb dP n t c=>?_;obtain rfl:=dP;exact .con rfl (n b (by simp[jg])) t c r
  | _=>exact aM e
 | _=>exact aM e
theorem K3{lo:Heap}{a:EV}{x:eO}{v:Value}{k:Str}{ks:List Str}{ss:List eO}{vs:List Value}(e:newSlot a=some x)(E:fc env ro cv lo g h a v)(r:jw h' g' s'.heap ss vs)(hl:∀b o,h.get? b=some o->∃o',h'.get? b=some o')
  (hn:((mW (ks.zip ss) vs).map (·.2)).Nodup):((mW ((k::ks).zip (x::ss)) (v::vs)).map (·.2)).Nodup:=by
 have key:∀{V:MV} {b:Addr},dM g h b V->((mW ((k::ks).zip (.c V::ss)) (.ref b::vs)).map (·.2)).Nodup:=by intro V b c;show (b::(mW (ks.zip ss) vs).map (·.2)).Nodup;refine bx.mpr ⟨λhm=>?_,hn⟩;refine bz (aN.mp hm) λp hp bZ=>?_;obtain rfl:=bZ;refine cg c.get λo ho=>?_;refine cg (hl _ o ho) λo' gI=>?_;rw[(r.FP ks p hp).1]at gI;exact aM gI
 induction a using EV.casesOn with
 | val V=>exists e;show ((mW (ks.zip ss) vs).map (·.2)).Nodup;exact hn
 | fresh V=>
  induction V using MV.casesOn with
  | lst=>exists e;(refine ji (fW.cont E rfl) λb dP Z Z c=>?_;obtain rfl:=dP);exact key c
  | bO=>exists e;(refine ji (fW.cont E rfl) λb dP Z Z c=>?_;obtain rfl:=dP);exact key c
  | _=>exact aM e
 | _=>exact aM e
theorem E1{k:Option Expr}{keys:List (Option Expr)}{ks:List Str}(e:strKeys (k::keys)=some ks):∃x kk pp pM,k=some (.Constant (.str x) kk pp)/\strKeys keys=some pM/\ks=x::pM:=by
 induction k using aab with
 | none=>exact aM e
 | some x=>
  induction x using aac with
  | Constant c kk pp=>
   induction c using Const.casesOn with
   | str x=>exact eZ (λpM e1 q=>⟨x,kk,pp,pM,rfl,e1,q.symm⟩) e
   | _=>exact aM e
  | _=>exact aM e
theorem LH{keys:List (Option Expr)}:∀{ks:List Str},strKeys keys=some ks->keys.all (·.isSome)=true/\keys.length=ks.length:=by
 induction keys with
 | nil=>intro ks e;exists e;exact ⟨rfl,rfl⟩
 | cons k r ih=>intro ks e;refine uS (E1 e) λx kk pp pM dP=>eg dP λg8 e1 nh=>?_;subst g8 nh;exact ⟨(ih e1).1,bf (·+1) (ih e1).2⟩
inductive II(cx:Ctx)(env:Env)(cv:Str->Addr)(g:G)(st:St)(s:Shared)(ks:List Str)(ss:List eO)(st':St)(kvs:List (Value×Value))(s':Shared):Prop
 | mk (vs:List Value):Carries (strKind prog w) kvs (ks.zip vs)->vs.length=ks.length->(g':G)->Step env.locals cx.ro cx.rb g st.aD s g' st'.aD s'->Rel cx env cv g' st' s'->jw s.heap g' s'.heap ss vs->((mW (ks.zip ss) vs).map (·.2)).Nodup->II cx env cv g st s ks ss st' kvs s'
theorem OH{pos:Pos}(SE:fT ev n d)(r:dm A n d)(hh:A.handled=none):∀{keys:List (Option Expr)} {es:List Expr} {ks:List Str} {as:List EV} {ss:List eO} {g:G} {st st':St} {s:Shared},strKeys keys=some ks->fC (ev.e cx) es st=some (as,st')->ki newSlot as=some ss->keys.length=es.length->
  Rel cx env cv g st s->
  wpAny (model prog w) A (evalPairs (pairTrees keys es env pos)) (II cx env cv g st s ks ss st') br s:=by
 intro keys;induction keys with
 | nil=>
  intro es ks as ss g st st' s e1 e2 e3 hl R;induction es using aaa with
  | cons=>exact nomatch hl
  | nil=>obtain rfl:=someE e1;refine pairK e2 λq1 q2=>?_;subst q1 q2;obtain rfl:=someE e3;exact evalPairs_nil ⟨[],trivial,rfl,g,Step.refl,R,.nil,.nil⟩
 | cons k keys ih=>
  intro es ks as ss g st st' s e1 e2 e3 hl R;induction es using aaa with
  | nil=>exact nomatch hl
  | cons e es=>
  refine US (E1 e1) λx kk pp pM g8 WQ nh=>?_;obtain rfl:=g8;obtain rfl:=nh;revert e2;refine eG λa aP e4 e2=>?_;revert e2;refine dG λZ e2=>?_;revert e2;refine eG λY5 eH e5 e2=>?_;refine pairK e2 λq1 q2=>?_;subst q1 q2;revert e3;refine cN λy e6 e3=>?_;revert e3;refine cN λJ6 e7 e3=>?_;obtain rfl:=someE e3;refine pairTrees_cons_walk (wpAny_Constant_str (wm (SE r hh e4 (R.tok (s.toks+1))) (λv bq pq=>?_)));refine pq.el λbM bR bL cj=>?_;clear pq;refine wm (ih WQ e5 e7 (dc hl) bL) (λkvs s₂ pq=>?_);rcases pq with ⟨vs,c,hlen,bW,bY,b8,JD,nd⟩
  refine ⟨v::vs,⟨strKind_is prog w x _,rfl,c⟩,bf (·+1) hlen,bW,(Step.refl.tok _).trans (bR.trans bY),b8,?_,?_⟩
  ·have Vn:=Mr (x:=y) e6 cj (jw.nil);have Vo:=jw.step bY Vn;have IJ:=JD.lo bR.live;cases (Vo) with
   | val r _=>exact .val r IJ
   | con i n t c _=>exact .con i n t c IJ
  ·exact K3 e6 cj JD (λb o q=>⟨o,q⟩) nd
theorem E2(k k':Str)(v:Value)(r:List (Str×Value)):valueAt ((k,v)::r) k'=if k=k' then some v else valueAt r k':=by
 unfold valueAt;rw[List.find?_cons];by_cases q:k=k'
 ·simp[q]
 ·simp[q]
def ze(g:G)(h:Heap)(cl:List (Str×Addr))(k:Str):eO->Value->Prop
 | .v V,v=>RV g h v V
 | .c V,v=>∃b,v=.ref b/\(k,b)∈cl/\look cl k=some b/\dM g h b V/\uu V=false
theorem ze.more{cl D7:List (Str×Addr)}{k:Str}{x:eO}{v:Value}(r:ze g h cl k x v)(h1:∀p∈cl,p∈D7)(h2:look D7 k=look cl k):ze g h D7 k x v:=by
 induction x using eO.casesOn with
 | v V=>exact r
 | c V=>(revert r;refine ow λb e m l c=>?_);exact ⟨b,e,h1 _ m,h2.trans l,c⟩
theorem OI{lo:Heap}{ss:List eO}{vs:List Value}(r:jw lo g h ss vs):∀{ks:List Str},ks.Nodup->ks.length=ss.length->∀k,match look (ks.zip ss) k with
  | none=>valueAt (ks.zip vs) k=none
  | some x=>∃v,valueAt (ks.zip vs) k=some v/\ze g h (mW (ks.zip ss) vs) k x v:=by
 induction r with
 | nil=>intro ks _ hl k;have:ks=[]:=cD.mp hl;subst this;rfl
 | @val V v ss vs rv _ ih=>
  intro ks hn hl k;induction ks using aaa with
  | nil=>injection hl
  | cons k₀ ks=>
   rw[bx]at hn;have T:=ih hn.2 (by simpa using hl) k;simp only[List.zip_cons_cons,jX,E2];by_cases q:k₀=k
   ·simp only[q,decide_true,if_true];exact ⟨v,rfl,rv⟩
   ·simp only[q,decide_false,Bool.false_eq_true,if_false];exact T
 | @con V b ss vs i nn t c _ ih=>
  intro ks hn hl k;induction ks using aaa with
  | nil=>injection hl
  | cons k₀ ks=>
   rw[bx]at hn;have T:=ih hn.2 (by simpa using hl) k;simp only[List.zip_cons_cons,jX,E2];have hc:mW ((k₀,eO.c V)::ks.zip ss) (.ref b::vs)=(k₀,b)::mW (ks.zip ss) vs:=rfl;by_cases q:k₀=k
   ·simp only[q,decide_true,if_true];refine ⟨.ref b,rfl,b,rfl,by rw[<-q];exact .head _,?_,c,i⟩;show look ((k,b)::_) k=some b;simp[jX]
   ·simp only[q,decide_false,Bool.false_eq_true,if_false];cases z:look (ks.zip ss) k with
    | none=>rw[z]at T;exact T
    | some x=>rw[z]at T;revert T;refine gp λv a sw=>?_;refine ⟨v,a,sw.more (λp hp=>.tail _ hp) ?_⟩;rw[hc];simp[jX,q]
theorem R5{keys:List (Option Expr)}{es:List Expr}{pos:Pos}{ks:List Str}{as:List EV}{ss:List eO}{aP:St}(SE:fT ev n d)(r:dm A n d)(hh:A.handled=none)(R:Rel cx env cv g st s)(gg:cx.ro=false)
  (h0:keys≠[]) (WR:keys.length<=15) (e1:strKeys keys=some ks) (l6:ks.Nodup) (e2:fC (ev.e cx) es st=some (as,aP)) (e3:ki newSlot as=some ss) (hl:ks.length=ss.length) :
  wpAny (model prog w) A (eval (.Dict keys es pos) env) (ez cx env cv g st s (.val (.obj aP.aD.length)) {aP with aD:=aP.aD++[⟨none,ks.zip ss⟩]}) br s:=by
 refine cu (LH e1) λka kl=>?_;have Vp:∀{as:List EV} {ss:List eO},ki newSlot as=some ss->as.length=ss.length:=by
  intro as;induction as with
  | nil=>intro ss e;exists e;rfl
  | cons a r ih=>intro ss e;skip;revert e;refine cN λb Z e=>?_;revert e;refine cN λbs e' e=>?_;exists e;simp[ih e']
 have hle:keys.length=es.length:=by rw[kl,hl,<-Vp e3,yi e2]
 let s₀:Shared:={s with heap:=s.heap.push {cls:=.type "dict",data:=.dict #[]}};have uh:∀b o,s.heap.get? b=some o->s₀.heap.get? b=some o:=λb o q=>aQ _ q;refine cu (ext (f:=env.locals) (ro:=cx.ro) (rb:=cx.rb) (s':=s₀) R ⟨_,s.toks,rfl⟩ uh (λZ=>.fy)) λVq R₀=>?_;have IK:s.heap.get? s.heap.objs.size=none:=new_of_ge (az _);have Cr:s₀.heap.get? s.heap.objs.size=some {cls:=.type "dict",data:=.dict #[]}:=bw _ rfl;have IM:(g.role s.heap λZ=>.fy).ρ s.heap.objs.size=.fy:=G.lq IK;refine wpAny_Dict_walk (knd:=PySem.strKind prog w) ka hle h0 WR (wm (OH SE r hh e1 e2 e3 hle R₀) (λkvs bq pq=>?_));rcases pq with ⟨vs,c,hlen,bM,bR,bL,DV,nd⟩
 have D8:gY env.locals cx.ro ((g.role s.heap λZ=>.fy).ρ s.heap.objs.size):=by rw[IM];trivial
 have IP:bM.ρ s.heap.objs.size=.fy:=(bR.fix ⟨_,Cr⟩ D8).trans IM;have YI:=bR.keep _ _ Cr D8;refine ⟨ks.zip vs,c,?_,λh' D9 gJ=>?_⟩
 ·have:=Heap.DictOf.new (knd:=PySem.strKind prog w) s.heap;exact oW this λo q=>bR.keep _ o q D8
 have WS:(ks.zip vs).map (·.1)=ks:=List.map_fst_zip (by rw[hlen];exact az _);rw[merged_nil_of_nodup _ (by rw[WS];exact l6)]at D9;generalize iN:mW (ks.zip ss) vs=cl at nd;have jr:∀p∈cl,s₀.heap.get? p.2=none/\bM.ρ p.2=.fy:=λp hp=>by
  rw[<-iN]at hp;refine eg (DV.FP ks p hp) λa b Z=>?_;exact ⟨a,b⟩
 have JE:∀p∈cl,p.2≠s.heap.objs.size:=λp hp q=>by have:=(jr p hp).1;rw[q,Cr]at this;injection this
 let uI:Addr->Role:=λb=>if b=s.heap.objs.size then .dict aP.aD.length else match cl.find? (λp=>p.2==b) with
  | some p=>.cont aP.aD.length p.1
  | none=>bM.ρ b
 have HU:∀b,b≠s.heap.objs.size->(∀p∈cl,p.2≠b)->uI b=bM.ρ b:=λb h1 h2=>by
  show (if b=_ then _ else _)=_;rw[au h1];cases q:cl.find? (λp=>p.2==b) with
  | none=>rfl
  | some p=>exact absurd (bK.mp (List.find?_some (p:=λ(p:Str×Addr)=>p.2==b) q)) (h2 p (cW q))
 have QE:∀p∈cl,uI p.2=.cont aP.aD.length p.1:=λp hp=>by
  show (if p.2=_ then _ else _)=_;rw[au (JE p hp)];cases q:cl.find? (λq=>q.2==p.2) with
  | none=>exact absurd (beq_self_eq_true p.2) (by simpa using List.find?_eq_none.mp q p hp)
  | some p'=>
   have m:=cW q;have e:p'.2=p.2:=bK.mp (List.find?_some (p:=λ(q:Str×Addr)=>q.2==p.2) q);have:p'=p:=by
    have inj:∀{l:List (Str×Addr)},(l.map (·.2)).Nodup->p'∈l->p∈l->p'=p:=by
     intro l;induction l with
     | nil=>intro _ h;cases (h)
     | cons x r ih=>
      intro hn h1 h2;rw[bP,bx]at hn;refine bu (aC.mp h1) (λh1=>?_) λh1=>?_
      ·(refine bu (aC.mp h2) (λh2=>?_) λh2=>?_)
       ·rw[h1,h2]
       ·exact absurd (aN.mpr ⟨p,h2,by rw[<-h1,e]⟩) hn.1
      ·(refine bu (aC.mp h2) (λh2=>?_) λh2=>?_)
       ·exact absurd (aN.mpr ⟨p',h1,by rw[<-h2,e]⟩) hn.1
       ·exact ih hn.2 h1 h2
    exact inj nd m hp
   rw[this]
 let m7:G:={bM with ρ:=uI};have R8:∀b,bM.ρ b≠.fy->uI b=bM.ρ b:=λb hb=>HU b (λq=>hb (by rw[q];exact IP)) λp hp q=>hb (by rw[<-q];exact (jr p hp).2);have rq:Exc (·=.fy) bM bq.heap m7 h':=⟨λb o hb q=>⟨R8 b hb,by rw[gJ.2 b (λe=>hb (by rw[e];exact IP))];exact q⟩,rfl⟩;have nf:¬(Role.frozen=.fy):=dS rfl;let s₂:Shared:={bq with heap:=h',toks:=bq.toks+kvs.length};have b8:Rel cx env cv m7 aP s₂:=⟨rq.ground nf bL.ground,bL.loc.exc rq nf (dS rfl) (λZ Z=>dS rfl) (λZ Z=>dS rfl) (λz Z q=>q),bL.aD.exc rq nf (λZ=>dS rfl) (λZ Z=>dS rfl) (λZ Z Z=>rfl)⟩;have S:=Vq.trans bR;have Eb:∀{b o},s.heap.get? b=some o->b≠s.heap.objs.size:=λq e=>by rw[e,IK]at q;exact aM q
 have bY:Step env.locals cx.ro cx.rb g st.aD s m7 aP.aD s₂:=by
  refine iU S.same λWT WU Cs=>?_;have live:∀b o,s.heap.get? b=some o->∃o',s₂.heap.get? b=some o':=λb o q=>by
   refine cg (S.live b o q) λo' q'=>?_;exact ⟨o',(gJ.2 b (Eb q)).trans q'⟩
  refine ⟨⟨h',bq.toks+kvs.length,by show {bq with heap:=h',toks:=_}=_;rw[Cs]⟩,live,λb o q hf=>(gJ.2 b (Eb q)).trans (S.keep b o q hf),λb o q=>?_,S.lay,S.cs,S.aD,S.len⟩;have:uI b=bM.ρ b:=HU b (Eb q) λp hp e=>by have:=(jr p hp).1;rw[e,uh b o q]at this;injection this
  show uI b=_\/_;rw[this];exact S.role b o q
 have WV:(m7.role s₂.heap m7.ρ).ρ s.heap.objs.size=.dict aP.aD.length:=by refine cg (qM D9) λo ho=>?_;rw[G.mO ho];exact aq rfl
 have zJ:Up bM bq.heap (m7.more s₂.heap aP.aD.length ⟨s.heap.objs.size,s.heap.objs.size⟩ m7.ρ λk=>(look cl k).getD 0) h':=(rq.up nf).trans (G3 λZ Z q=>q);have ob:oi (m7.more s₂.heap aP.aD.length ⟨s.heap.objs.size,s.heap.objs.size⟩ m7.ρ λk=>(look cl k).getD 0) h' aP.aD.length ⟨s.heap.objs.size,s.heap.objs.size⟩ ⟨none,ks.zip ss⟩:=by
  refine .dict rfl WV D9 (λk=>?_) ?_
  ·have T:=OI DV l6 hl k;show match look (ks.zip ss) k with | none=>valueAt (ks.zip vs) k=none | some x=>∃v,valueAt (ks.zip vs) k=some v/\lB _ h' aP.aD.length k x v
   cases z:look (ks.zip ss) k with
   | none=>rw[z]at T;exact T
   | some x=>
    rw[z]at T;revert T;refine gp λv a sw=>?_;refine ⟨v,a,?_⟩;rw[iN]at sw;induction x using eO.casesOn with
    | v V=>exact zJ.v sw
    | c V=>
     revert sw;refine UM λb e m lk cc ii=>?_;have kB:(m7.more s₂.heap aP.aD.length ⟨s.heap.objs.size,s.heap.objs.size⟩ m7.ρ λk=>(look cl k).getD 0).cs aP.aD.length k=b:=by show (if aP.aD.length=aP.aD.length then (look cl k).getD 0 else _)=b;rw[aq rfl,lk];rfl
     have WW:b≠s.heap.objs.size:=JE (k,b) m;have om:∀o,bq.heap.get? b=some o->h'.get? b=some o:=λo q=>(gJ.2 b WW).trans q;refine ⟨by rw[kB];exact e,?_,?_⟩
     ·rw[kB];refine cg cc.get λo ho=>?_;show (m7.role s₂.heap m7.ρ).ρ b=_;rw[G.mO (h:=s₂.heap) (om o ho)];exact QE (k,b) m
     ·rw[kB];exact cc.re ii zJ om
  ·rw[List.length_zip,<-kl];lia
 have gA:=G4 (s:=s₂) (tk:=s₂.toks) b8 gg (λZ Z q=>q) ob;refine ⟨_,bY.trans (Bh (s:=s₂) (tk:=s₂.toks) gg λZ Z q=>q),gA,?_⟩;refine bh.obj (e:=⟨s.heap.objs.size,s.heap.objs.size⟩) ?_;show (bM.ι++[_])[aP.aD.length]?=_;rw[cy (by rw[bL.aD.len];exact az _),bL.aD.len,Nat.sub_self];rfl
inductive kI(cx:Ctx)(env:Env)(cv:Str->Addr)(g:G)(st:St)(s:Shared)(xs:List MV)(cL:Bool)(st':St)(it:Value)(s':Shared):Prop
 | mk (I:Addr) (fp:List Addr) (Pi:Nat->Value->Prop) (St:Nat->Heap->Prop) (g':G):it=.ref I->(∀A':Around,A'.handled=none->Walks prog w A' I fp [I] xs.length Pi St)->St 0 s'.heap->Step env.locals cx.ro cx.rb g st.aD s g' st'.aD s'->Rel cx env cv g' st' s'->I∈fp->g'.ρ I=.fy->s.heap.get? I=none->
  (∀b∈fp,(∃o,s'.heap.get? b=some o)/\gY env.locals (cx.ro||cL) (g'.ρ b))->(∀i h,St i h->∃o,h.get? I=some o)->(∀i v,Pi i v->∀iF gV,Up g' s'.heap iF gV->∃V,xs[i]?=some V/\RV iF gV v V)->kI cx env cv g st s xs cL st' it s'
theorem G6{vs:List Value}{xs:List MV}{i:Nat}{v:Value}(r:RL g h vs xs)(e:vs[i]?=some v):∃V,xs[i]?=some V/\RV g h v V:=
 dR.ind (P:=λvs xs=>∀i,vs[i]?=some v->∃V,xs[i]?=some V/\RV g h v V) (λZ e=>aM e) (λZ V Z Z x Z ih i e=>by
  induction i using aae with
  | zero=>obtain rfl:=someE e;exact ⟨V,rfl,x⟩
  | succ i=>exact ih i e) r i e
theorem kI.after{bM:G}{aP:St}{bq:Shared}{xs:List MV}{cL:Bool}{it:Value}(S:Step env.locals cx.ro cx.rb g st.aD s bM aP.aD bq)(p:kI cx env cv bM aP bq xs cL st' it s'):kI cx env cv g st s xs cL st' it s':=by
 rcases p with ⟨I,fp,Pi,St,g',a1,a2,a3,a4,a5,a6,a7,a8,a9,Ec,Ed⟩
 refine ⟨I,fp,Pi,St,g',a1,a2,a3,S.trans a4,a5,a6,a7,?_,a9,Ec,Ed⟩;cases q:s.heap.get? I with
 | none=>rfl
 | some o=>(refine cg (S.live I o q) λo' q'=>?_);rw[a8]at q';exact aM q'
theorem G7{b:Addr}{xs:List MV}{cL:Bool}{o:Obj}{Pi:Nat->Value->Prop}{St:Nat->Heap->Prop}(R:Rel cx env cv g st s)(hb:∃o,s.heap.get? b=some o)(hf:gY env.locals (cx.ro||cL) (g.ρ b))(ho:o.isFreed=false)
  (W:∀A':Around,A'.handled=none->Walks prog w A' s.heap.objs.size [s.heap.objs.size,b] [s.heap.objs.size] xs.length Pi St) (h0:St 0 (s.heap.push o)) (l8:∀i h,St i h->∃o,h.get? s.heap.objs.size=some o) (hP:∀i v,Pi i v->∀iF gV,Up g s.heap iF gV->∃V,xs[i]?=some V/\RV iF gV v V) :
  kI cx env cv g st s xs cL st (.ref s.heap.objs.size) {s with heap:=s.heap.push o}:=by
 have keep:∀b o',s.heap.get? b=some o'->(s.heap.push o).get? b=some o':=λb o' e=>aQ _ e;refine cu (ext (f:=env.locals) (ro:=cx.ro) (rb:=cx.rb) (s':={s with heap:=s.heap.push o}) R ⟨_,s.toks,rfl⟩ keep (λZ=>.fy)) λS R'=>?_;have hI:s.heap.get? s.heap.objs.size=none:=new_of_ge (az _);have jD:(g.role s.heap λZ=>.fy).ρ s.heap.objs.size=.fy:=G.lq hI;refine ⟨_,_,Pi,St,_,rfl,W,h0,S,R',.head _,jD,hI,λc hc=>?_,l8,λi v hv iF gV u=>hP i v hv iF gV ((rZ g _ keep).trans u)⟩;refine bu (aC.mp hc) (λcF=>?WX) λhc=>?Y6;(case' WX=>(obtain rfl:=cF))
 ·exact ⟨⟨_,bw _ ho⟩,by rw[jD];trivial⟩
 ·obtain rfl:=aA.mp hc;revert hb;refine gh λo' gI=>?_;exact ⟨⟨_,keep _ _ gI⟩,by rw[G.mO gI];exact hf⟩
theorem A1{xs:List MV}{cL:Bool}{o:Obj}{Pi:Nat->Value->Prop}{St:Nat->Heap->Prop}(R:Rel cx env cv g st s)(ho:o.isFreed=false)
  (W:∀A':Around,A'.handled=none->Walks prog w A' s.heap.objs.size [s.heap.objs.size] [s.heap.objs.size] xs.length Pi St) (h0:St 0 (s.heap.push o)) (l8:∀i h,St i h->∃o,h.get? s.heap.objs.size=some o) (hP:∀i v,Pi i v->∀iF gV,Up g s.heap iF gV->∃V,xs[i]?=some V/\RV iF gV v V) :
  kI cx env cv g st s xs cL st (.ref s.heap.objs.size) {s with heap:=s.heap.push o}:=by
 have keep:∀b o',s.heap.get? b=some o'->(s.heap.push o).get? b=some o':=λb o' e=>aQ _ e;refine cu (ext (f:=env.locals) (ro:=cx.ro) (rb:=cx.rb) (s':={s with heap:=s.heap.push o}) R ⟨_,s.toks,rfl⟩ keep (λZ=>.fy)) λS R'=>?_;have hI:s.heap.get? s.heap.objs.size=none:=new_of_ge (az _);have jD:(g.role s.heap λZ=>.fy).ρ s.heap.objs.size=.fy:=G.lq hI;refine ⟨_,_,Pi,St,_,rfl,W,h0,S,R',.head _,jD,hI,λc hc=>?_,l8,λi v hv iF gV u=>hP i v hv iF gV ((rZ g _ keep).trans u)⟩;obtain rfl:=aA.mp hc;exact ⟨⟨_,bw _ ho⟩,by rw[jD];trivial⟩
theorem vD{b:Addr}{vs:Array Value}{xs:List MV}{cL:Bool}(R:Rel cx env cv g st s)(hl:s.heap.IsList b vs)(r:RL g s.heap vs.toList xs)(hf:gY env.locals (cx.ro||cL) (g.ρ b)) :
  wpAny (model prog w) A (pyIter (.ref b)) (kI cx env cv g st s xs cL st) br s:=by
 have hn:=jf r;rw[aL]at hn;have dH:b<s.heap.objs.size:=by (revert hl;refine gp λZ e Z=>?_);exact cJ e
 refine wpAny_pyIter_list hl (G7 (Pi:=λi v=>vs[i]?=some v) (St:=λi h=>h.IsListIter s.heap.objs.size b i/\h.IsList b vs) R (let ⟨o,e,_⟩:=hl;⟨o,e⟩) hf rfl (λA' hA=>?_) ⟨⟨_,bw _ rfl,rfl,rfl⟩,hl.push _⟩ (λi h z=>let ⟨o,e,_⟩:=z.1;⟨o,e⟩) λi v hv iF gV u=>?_)
 ·rw[<-hn];exact Walks.list hA _ b (di dH) vs
 ·exact G6 (u.l r) (by rw[bV];exact hv)
theorem Ms{b:Addr}{vs:Array Value}{xs:List MV}{cL:Bool}(R:Rel cx env cv g st s)(hl:s.heap.IsTuple b vs)(r:RL g s.heap vs.toList xs)(hf:gY env.locals (cx.ro||cL) (g.ρ b)) :
  wpAny (model prog w) A (pyIter (.ref b)) (kI cx env cv g st s xs cL st) br s:=by
 have hn:=jf r;rw[aL]at hn;have dH:b<s.heap.objs.size:=by (revert hl;refine gp λZ e Z=>?_);exact cJ e
 refine wpAny_pyIter_tuple hl (G7 (Pi:=λi v=>vs[i]?=some v) (St:=λi h=>h.IsTupleIter s.heap.objs.size b i/\h.IsTuple b vs) R (let ⟨o,e,_⟩:=hl;⟨o,e⟩) hf rfl (λA' hA=>?_) ⟨⟨_,bw _ rfl,rfl,rfl⟩,hl.at λo e=>aQ _ e⟩ (λi h z=>let ⟨o,e,_⟩:=z.1;⟨o,e⟩) λi v hv iF gV u=>?_)
 ·rw[<-hn];exact Walks.tuple hA _ b (di dH) vs
 ·exact G6 (u.l r) (by rw[bV];exact hv)
theorem OJ{z:Str}{v:Value}{cL:Bool}(R:Rel cx env cv g st s)(rv:RV g s.heap v (.str z)):wpAny (model prog w) A (pyIter v) (kI cx env cv g st s (z.cps.toList.map λc=>MV.str ⟨#[c]⟩) cL st) br s:=by
 induction (bh.inv rv) using iR.casesOn with
 | str t hz=>
 have hlen:z.cps.size=(z.cps.toList.map λc=>MV.str ⟨#[c]⟩).length:=by rw[aj];rfl
 have hP:∀i v,SignAt z i v->∀iF gV,Up g s.heap iF gV->∃V,(z.cps.toList.map λc=>MV.str ⟨#[c]⟩)[i]?=some V/\RV iF gV v V:=by rintro i v ⟨c,u,hc,rfl⟩ iF gV _;refine ⟨.str ⟨#[c]⟩,by rw[dw,bV,hc];rfl,.str u ?_⟩;unfold PyData.strOk at hz |-;refine cg (Array.getElem?_eq_some_iff.mp hc) λhi z4=>?_;have:=Array.all_eq_true.mp hz i hi;rw[z4]at this;simpa using this
 cases ha:z.cps.all (·<128)
 ·exact wpAny_pyIter_wide ha (A1 (Pi:=SignAt z) (St:=λi h=>h.IsStrIter s.heap.objs.size "str_iterator" z t i) R rfl (λA' hA=>by rw[<-hlen];exact Walks.strWide hA _ z t) ⟨_,bw _ rfl,rfl,rfl⟩ (λi h z=>let ⟨o,e,_⟩:=z;⟨o,e⟩) hP)
 ·exact wpAny_pyIter_ascii ha (A1 (Pi:=SignAt z) (St:=λi h=>h.IsStrIter s.heap.objs.size "str_ascii_iterator" z t i) R rfl (λA' hA=>by rw[<-hlen];exact Walks.strAscii hA _ z t) ⟨_,bw _ rfl,rfl,rfl⟩ (λi h z=>let ⟨o,e,_⟩:=z;⟨o,e⟩) hP)
theorem dM.zK{xs:List MV}{b:Addr}(c:dM g h b (.lst xs)):∃vs,h.PlainList b vs/\RL g h vs.toList xs:=by
 cases (c) with
 | lst i r=>exact ⟨_,i,r⟩
theorem OL{a:EV}{v:Value}{lo:Heap}{xs:List MV}{cL:Bool}(R:Rel cx env cv g st s)(E:fc env cx.ro cv lo g s.heap a v)(e:ia.n9 cx a st=some (xs,cL,st')) :
  wpAny (model prog w) A (pyIter v) (kI cx env cv g st s xs cL st') br s:=by
 have WY:∀{xs:List MV} {v:Value},RV g s.heap v (.lst xs)->wpAny (model prog w) A (pyIter v) (kI cx env cv g st s xs cL st) br s:=λE=>by
  induction (bh.inv E) using uV.casesOn with
  | lst i ho c hd r=>exact vD R ⟨_,ho,c,_,hd⟩ r (by rw[show g.ρ _=.frozen from i];trivial)
 revert e;refine Oa (λq1 q2 q3=>?_) (λq1 q2 q3=>?_) (λq1 q2 q3=>?_) (λq1 q2 q3=>?_) (λq1 q2 q3=>?_) (λz q1 q0 q2 q3=>?_) (λn k q1 hd q2 q3=>?_) (λx q1 hd dJ q2 q3=>?_)<;>subst q1 q2 q3
 ·exact WY E
 ·induction (bh.inv E) using jj.casesOn with
  | tup i ho c hd r=>exact Ms R ⟨_,ho,c,_,hd⟩ r (by rw[show g.ρ _=.frozen from i];trivial)
 ·refine ji (fW.cont E rfl) λb dP Z ht c=>?_;obtain rfl:=dP;refine bz c.zK λvs i r=>?_;exact vD R i.isList r (by rw[ht];trivial)
 ·revert E;refine gz λb cY hf c=>?_;obtain rfl:=cY;refine bz c.zK λvs i r=>?_;exact vD R i.isList r (hf.1.up (az _) λq=>by rw[q];rfl)
 ·revert E;refine gz λb cY hf c=>?_;obtain rfl:=cY;cases (c)
 ·subst q0;exact OJ R E
 ·refine ji (pY (l:=.slot n k) R E hd) λb dP c h1 h2=>?_;obtain rfl:=dP;refine bz c.zK λvs i r=>?_;exact vD R i.isList r (by rw[h2];exact Bool.or_true _)
 ·refine eg (qa E.2) λk1 k2 k3=>?_;refine eg (Fb (ro:=cx.ro) (rb:=cx.rb) R dJ (AW hd) k1 k2 k3 rfl) λS R' rv=>?_;rw[E.1];refine b6 ?_ (λit s' p=>kI.after (aP:={st with loc:=put st.loc x (.v (.lst xs))}) S p) λZ Z q=>q;cases (bh.inv rv) with
  | lst i ho c hd r=>exact vD R' ⟨_,ho,c,_,hd⟩ r (by rw[n5];trivial)
theorem Mt{k:Int}{t:Tok}{bM:G}{bq:Shared}(S:Step env.locals cx.ro cx.rb g st.aD s bM st'.aD bq)(R:Rel cx env cv bM st' bq)(z9:0<=k)(vd:k<=4096) :
  wpAny (model prog w) A (pyIter (.ref bq.heap.objs.size)) (kI cx env cv g st s ((List.range k.toNat).map λi=>MV.int (Int.ofNat i)) false st') br
   {bq with heap:=bq.heap.push {cls:=.type "range",data:=.fields #[.int 0 bq.toks,.int k t,.int 1 (bq.toks+1)]},toks:=bq.toks+1+1}:=by
 generalize WZ:({cls:=.type "range",data:=.fields #[.int 0 bq.toks,.int k t,.int 1 (bq.toks+1)]}:Obj)=ob;refine cu (ext (f:=env.locals) (ro:=cx.ro) (rb:=cx.rb) (s':={bq with heap:=bq.heap.push ob,toks:=bq.toks+1+1}) R ⟨_,_,rfl⟩ (λb o e=>aQ _ e) (λZ=>.free)) λgu gA=>?_;have hsz:Builtin.Range.rangeSize 0 k 1=((k.toNat:Nat):Int):=by rw[rangeSize_nat];congr 1;lia
 refine wpAny_pyIter_range (WZ▸IsRange.new ..) (small_one (by decide) (by decide) (by lia) (by lia)) (kI.after (S.trans gu) (A1 (Pi:=λi v=>i<k.toNat/\∃t,v=.int (0+(i:Int)*1) t) (St:=λi h=>IsRangeIter h (bq.heap.push ob).objs.size (0+(i:Nat)*1) ((k.toNat:Int)-(i:Nat)) 1) gA rfl (λA' hA=>?_) ?_ (λi h z=>⟨_,z⟩) λi v hv iF gV Z=>?_))
 ·have:=(Walks.range (prog:=prog) (w:=w) hA (bq.heap.push ob).objs.size 0 1 k.toNat).bound;rw[aj,List.length_range];exact this
 ·have hg:=bw (bq.heap.push ob) (o:={cls:=.type "range_iterator",data:=.fields #[rawInt 0,rawInt (Builtin.Range.rangeSize 0 k 1),rawInt 1]}) rfl;rw[hsz]at hg;show IsRangeIter _ _ _ _ _;rw[hsz];simpa using hg
 ·revert hv;refine gj λhi cY=>?_;revert cY;refine gh λt' dP=>?_;obtain rfl:=dP;refine ⟨.int (Int.ofNat i),by rw[dw,List.getElem?_range hi];rfl,?_⟩;have:(0:Int)+(i:Int)*1=Int.ofNat i:=by simp
  rw[this];exact .int _ t'
theorem Gh{e:Expr}{xs:List MV}{cL:Bool}(cP:g9 P K h₀ mg mb)(mP:P.oH (Str.ofString "range")=some (.typ "range"))(SE:fT ev n d)(SI:gW ev)(ro:dm A n d)(hh:A.handled=none)(R:Rel cx env cv g st s)(he:ia ev cx e st=some (xs,cL,st')) :
  wpAny (model prog w) A (eval e env) (λxv bq=>wpAny (model prog w) A (pyIter xv) (kI cx env cv g st s xs cL st') br bq) br s:=by
 have gen:((ev.e cx e st).bind λp=>ia.n9 cx p.1 p.2)=some (xs,cL,st')->wpAny (model prog w) A (eval e env) (λv bq=>wpAny (model prog w) A (pyIter v) (kI cx env cv g st s xs cL st') br bq) br s:=λhe=>by
  revert he;refine eG λa aP e1 e2=>?_;refine wm (SE ro hh e1 R) (λv bq pq=>?_);refine pq.el λbM bR bL cj=>?_;clear pq;exact wm (OL bL cj e2) (λit s₂ p=>kI.after bR p)
 revert he;refine Ob (λx fp pos k he hk dj e1 z9 vd qz hb=>?_) gen;subst he qz hb;have Tq:getName P cx st (Str.ofString "range")=some (.val (.typ "range")):=by
  unfold getName;rw[au (by decide)];have q:jG cx (Str.ofString "range")=some .globalImplicit:=by
   cases z:jG cx (Str.ofString "range") with
   | none=>rw[z]at hk;exact b7 hk
   | some k'=>
    rw[z]at hk;cases (k') with
    | globalImplicit=>rfl
    | _=>exact b7 hk
  rw[q];dsimp only;rw[mP];rfl
 refine wpAny_Call_NameR (wm (HN cP R Tq) (λv bq pq=>?_));refine pq.el λbM bR bL cj=>?_;clear pq;(induction (bh.inv cj) using wW.casesOn;clear cj);have m6:[x].all noStar=true:=by rw[bS,dj];rfl
 have e2:fC (ev.e cx) [x] st=some ([.val (.int k)],st'):=by unfold fC;rw[e1];rfl
 refine callWith_type1 (wm (args (pos:=pos) SE SI ro hh m6 e2 (by simp[jI,gX]) bL) (λvs s₂ pq=>?_)) (oX dj) rfl;revert pq;refine gj λZ cY=>?_;revert cY;refine gz λbW bY b8 jt=>?_;cases (jt) with
 | cons kk kr=>
  cases (kr);induction (bh.inv kk) using gR.casesOn with
  | int t=>exact call_range_1 (Mt (bR.trans bY) b8 z9 vd)
theorem K4{env:Env}{names:List (Str×NameKind)}(x:Str):(names.map λ(n,k)=>if (k==NameKind.free&&env.scope.kind==.function&&env.kindOf n==some .cell) then (n,NameKind.cell) else (n,k)).lookup x =
  (names.lookup x).map λk=>if (k==NameKind.free&&env.scope.kind==.function&&env.kindOf x==some .cell) then NameKind.cell else k:=by
 induction names with
 | nil=>exact rfl
 | cons p r ih=>
  show List.lookup x ((if (p.2==NameKind.free&&env.scope.kind==.function&&env.kindOf p.1==some .cell)=true then (p.1,NameKind.cell) else (p.1,p.2))::_)=_;rw[show (if (p.2==NameKind.free&&env.scope.kind==.function&&env.kindOf p.1==some .cell)=true then (p.1,NameKind.cell) else (p.1,p.2))=(p.1,if (p.2==NameKind.free&&env.scope.kind==.function&&env.kindOf p.1==some .cell)=true then NameKind.cell else p.2) by split<;>rfl,dU,dU];cases hx:x==p.1 with
  | true=>rw[bK.mp hx];rfl
  | false=>exact ih
theorem rP{cx:Ctx}{x:Str}{lk:Str->Option NameKind}{names:List (Str×NameKind)}(e:rW cx x lk names=true)(y:Str)(k:NameKind)(h:(y,k)∈names):(k=.local->(y=x\/y=Str.ofString ".0")/\lk y=some .local)/\k≠.cell/\(k=.free->jG cx y=some .cell):=by
 have e1:J5 cx x lk y k=true:=aG.mp e (y,k) h;refine ⟨λq=>?_,λq=>?_,λq=>?_⟩<;>subst q
 ·have e1:=ak.mp e1;exact ⟨(b5.mp e1.1).imp ai ai,ai e1.2⟩
 ·exact b7 e1
 ·exact ai e1
theorem LI{env:Env}(f:Str×NameKind->List (Str×Addr)->Sem (ForInStep (List (Str×Addr))))(h1:∀n c cs,env.cells.lookup n=some c->f (n,.free) cs=pure (.yield ((n,c)::cs)))(h2:∀n k cs,k≠.free->f (n,k) cs=pure (.yield cs))(names:List (Str×NameKind)) :
  ∀(acc:List (Str×Addr)),(∀y,(y,NameKind.free)∈names->∃c,env.cells.lookup y=some c)->(∀y,(acc.lookup y).isSome=true->acc.lookup y=env.cells.lookup y)->
   ∃cl,forIn names acc f=pure cl/\(∀y,((y,NameKind.free)∈names\/(acc.lookup y).isSome=true)->(cl.lookup y).isSome=true)/\∀y,(cl.lookup y).isSome=true->cl.lookup y=env.cells.lookup y:=by
 induction names with
 | nil=>exact λacc _ ha=>⟨acc,rfl,λy q=>q.elim (λq=>nomatch q) id,ha⟩
 | cons p r ih=>
  intro acc hf ha;obtain ⟨n,k⟩:=p;rw[List.forIn_cons];by_cases hk:k=.free
  ·subst hk;refine cg (hf n (.head _)) λc hc=>?_;have hl:∀y,((n,c)::acc).lookup y=if y==n then some c else acc.lookup y:=λy=>by rw[dU];cases y==n<;>rfl
   refine cg (ih ((n,c)::acc) (λy hy=>hf y (.tail _ hy)) λy hy=>by
    rw[hl]at hy |-;cases q:y==n with
    | true=>rw[bK.mp q,hc];rfl
    | false=>rw[q]at hy;exact ha y hy) λcl iW=>?_
   revert iW;refine mu λe1 e2 e3=>?_;refine ⟨cl,by rw[h1 n c acc hc];exact e1,λy hy=>e2 y ?_,e3⟩;by_cases q:y=n
   ·refine .inr ?_;rw[hl,q];simp
   ·(revert hy;refine eS (λhy=>?_) λhy=>?_)
    ·(refine bu (aC.mp hy) (λz=>?_) λz=>?_)
     ·exact absurd (Prod.mk.inj z).1 q
     ·exact .inl z
    ·refine .inr ?_;rw[hl,show (y==n)=false from beq_eq_false_iff_ne.mpr q];exact hy
  ·refine ja (ih acc (λy hy=>hf y (.tail _ hy)) ha) λcl e1 e2 e3=>?_;refine ⟨cl,by rw[h2 n k acc hk];exact e1,λy hy=>e2 y ?_,e3⟩;revert hy;refine eS (λhy=>?_) λhy=>?_
   ·(refine bu (aC.mp hy) (λz=>?_) λz=>?_)
    ·exact absurd (Prod.mk.inj z).2.symm hk
    ·exact .inl z
   ·exact .inr hy
theorem Mu{scope:Scope}{env:Env}(h:∀y,(y,NameKind.free)∈scope.names->∃c,env.cells.lookup y=some c):∃cl,closureFor scope env=pure cl/\∀y,(y,NameKind.free)∈scope.names->cl.lookup y=env.cells.lookup y:=by
 refine cg (LI (env:=env) (λx cs=>do
   if x.2==NameKind.free then
    let a <-cellOf env x.1
    pure (ForInStep.yield ((x.1,a)::cs))
   else pure (ForInStep.yield cs)) (λn c cs hc=>by
    have:cellOf env n=pure c:=by unfold cellOf;rw[hc]
    show (do let a <-cellOf env n;pure (ForInStep.yield ((n,a)::cs)))=_;rw[this];rfl) (λn k cs hk=>by
    show (if (k==NameKind.free)=true then _ else pure (ForInStep.yield cs))=_;rw[au];intro q;exact hk (by cases (k)<;>first | rfl | exact b7 q)) scope.names [] h λy q=>by exact b7 q) λcl iW=>?_
 revert iW;refine mu λe1 e2 e3=>?_;refine ⟨cl,?_,λy hy=>e3 y (e2 y (.inl hy))⟩;skip;exact (bf (· >>= λr=>pure r) e1).trans rfl
theorem Fj{loc:List (Str×LV)}{y:Str}{lv:LV}(e:look (loc.map eY) y=some lv):∃l,look loc y=some l/\(match l with | .own V=>lv=.bor V | l=>lv=l):=by
 induction loc with
 | nil=>exact aM e
 | cons p r ih=>
  rcases p with ⟨k,l⟩
  by_cases q:k=y
  ·subst q;refine ⟨l,by simp[jX],?_⟩;induction l using LV.casesOn<;>simp[eY,jX]at e |-<;>exact e.symm
  ·have e':look (r.map eY) y=some lv:=by induction l using LV.casesOn<;>simpa[eY,jX,q] using e
   refine bz (ih e') λl' h1 h2=>?_;exact ⟨l',by simp[jX,q,h1],h2⟩
theorem Nk{sc:Scope}{x:Str}{L:Addr}{cl:List (Str×Addr)}{v:Value}{V:MV}{m:Str->Option Value}{fY:Bool}(R:Rel cx env cv g st s)(dJ:cx.comp=false)(mV:sc.kind=.function)(hx:sc.names.lookup x=some .local)
  (lN:rW cx x (λy=>sc.names.lookup y) sc.names=true) (h0:look st.loc (Str.ofString ".0")=none) (gg:cx.ro=true->fY=true) (iN:∀y,(y,NameKind.free)∈sc.names->cl.lookup y=env.cells.lookup y)
  (hL:g.ρ L=.loc L) (dH:env.locals<L) (hn:s.heap.Ns L m) (hm:m x=some v) (rv:RV g s.heap v V):Rel ⟨sc,fY,cx.rb,true⟩ (compEnvC sc cl L env) cv g ⟨(x,.v V)::st.loc.map eY,st.aD⟩ s:=by
 have jT:∀y,(compEnvC sc cl L env).kindOf y=(sc.names.lookup y).map λk=>if (k==NameKind.free&&env.scope.kind==.function&&env.kindOf y==some .cell) then NameKind.cell else k:=λy=>K4 y
 have BU:∀y,env.kindOf y=jG cx y:=λy=>by
  refine bu (R.loc.kinds y) (λq=>?W0) λgk=>?W2;(case' W2=>(refine cu gk λq Z=>?_));(case' W0=>(skip))
  ·exact q
  ·rw[dJ]at q;exact b7 q
 have Ct:∀y,sc.names.lookup y=some .free->(compEnvC sc cl L env).kindOf y=some .cell/\env.kindOf y=some .cell/\cl.lookup y=env.cells.lookup y:=λy q=>by
  have pG:(y,NameKind.free)∈sc.names:=mem_of_lookup q;have hk:env.kindOf y=some .cell:=(BU y).trans ((rP lN y .free pG).2.2 rfl);refine ⟨?_,hk,iN y pG⟩;rw[jT,q,hk,R.loc.kind];rfl
 have v8:∀y k,sc.names.lookup y=some k->k≠.free->(compEnvC sc cl L env).kindOf y=some k:=λy k q hk=>by
  rw[jT,q];have:(k==NameKind.free)=false:=by cases (k)<;>first | rfl | exact absurd rfl hk
  show some (if (k==NameKind.free&&env.scope.kind==.function&&env.kindOf y==some .cell)=true then NameKind.cell else k)=some k;rw[this,Bool.false_and,Bool.false_and,au (by decide)]
 refine ⟨R.ground,⟨λy=>?_,mV,R.loc.glob,R.loc.blt,hL,⟨m,hn,λy lv hl k1 k2 k3=>?_⟩,λy hk=>?_,λq=>(by injection q),λZ y V' q=>?_⟩,R.aD⟩
 ·cases q:sc.names.lookup y with
  | none=>left;rw[jT,q];exact q.symm
  | some k=>
   by_cases hk:k=.free
   ·subst hk;exact .inr ⟨rfl,q,(Ct y q).1⟩
   ·exact .inl ((v8 y k q hk).trans q.symm)
 ·by_cases qE:x=y
  ·subst qE;have:look ((x,LV.v V)::st.loc.map eY) x=some (.v V):=by simp[jX]
   rw[this]at hl;exists hl,hl;refine ⟨v,?_,rv⟩;unfold lV;rw[v8 x .local hx (λe=>nomatch e)];exact hm
  ·have rE:look (st.loc.map eY) y=some lv:=by simpa[jX,qE] using hl
   refine bz (Fj rE) λl rG oM=>?_;cases q:sc.names.lookup y with
   | none=>exact absurd (by rw[jT,q];rfl) k3
   | some k=>
    have pG:=mem_of_lookup q;refine eg (rP lN y k pG) λo1 o2 o3=>?_;cases (k) with
    | «local»=>
     refine bu ((o1 rfl).1) (λz=>?_) λz=>?_
     ·exact absurd z.symm qE
     ·rw[z,h0]at rG;exact aM rG
    | cell=>exact absurd rfl o2
    | globalImplicit=>exact absurd (v8 y _ q (λe=>nomatch e)) k1
    | globalExplicit=>exact absurd (v8 y _ q (λe=>nomatch e)) k2
    | free=>
     refine eg (Ct y q) λf1 f2 f3=>?_;refine bz R.loc.vars λm₀ Z hv=>?_;refine bz (hv y l rG (by rw[f2];exact λe=>nomatch e) (by rw[f2];exact λe=>nomatch e) (by rw[f2];exact λe=>nomatch e)) λu va Ef=>?_;refine ⟨u,?_,?_⟩
     ·unfold lV at va |-;rw[f2]at va;rw[f1];revert va;refine gp λc hc ic=>?_;exact ⟨c,f3.trans hc,ic⟩
     ·induction l using LV.casesOn with
      | v W=>subst oM;exact Ef
      | own W=>subst oM;revert Ef;refine mu λe1 e2 e3=>?_;exact ⟨cv y,e1,⟨by rw[e2];exact dH,by rw[e2];exact λe=>nomatch e⟩,e3⟩
      | bor W=>subst oM;revert Ef;refine gz λb e1 e2 e3=>?_;exact ⟨b,e1,⟨e2.1.up (b9 dH) gg,e2.2⟩,e3⟩
 ·cases q:sc.names.lookup y with
  | none=>rw[jT,q]at hk;exact aM hk
  | some k=>
   by_cases hf:k=.free
   ·subst hf;refine eg (Ct y q) λf1 f2 f3=>?_;refine qv (R.loc.cells y f2) λc ov f' e1 e2 e3 e4 Z=>?_;exact ⟨c,ov,f',f3.trans e1,e2,e3,aW e4 (b9 dH),λz=>by injection z⟩
   ·rw[v8 y k q hf]at hk;exists hk,hk;exact absurd rfl (rP lN y .cell (mem_of_lookup q)).2.1
 ·by_cases qE:x=y
  ·subst qE;simp[jX]at q
  ·have q':look (st.loc.map eY) y=some (.own V'):=by simpa[jX,qE] using q
   refine bz (Fj q') λl Z h2=>?_;induction l using LV.casesOn<;>injection h2
variable {g₀:G} {σ₀:eN} {s₀:Shared}
theorem chg{b:Addr}{tk:Nat}(R:Rel cx env cv g st s)(S:Step env.locals ro rb g₀ σ₀ s₀ g st.aD s)(jr:s₀.heap.get? b=none)(hr:g.ρ b=.fy\/(g.ρ b=.loc b/\env.locals<b))(keep:∀d o,d≠b->s.heap.get? d=some o->h'.get? d=some o) :
  Step env.locals ro rb g₀ σ₀ s₀ g st.aD {s with heap:=h',toks:=tk}/\Rel cx env cv g st {s with heap:=h',toks:=tk}/\Up g s.heap g h':=by
 have x:Exc (·=g.ρ b) g s.heap g h':=⟨λd o hd e=>⟨rfl,keep d o (λq=>hd (by rw[q])) e⟩,rfl⟩;have nf:¬(Role.frozen=g.ρ b):=by (revert hr;refine eS (λe=>?W3) λgk=>?W4;(case' W4=>(refine cu gk λe Z=>?_));(case' W3=>(skip)))<;>rw[e]<;>exact dS rfl
 have ne:∀{d o},s₀.heap.get? d=some o->d≠b:=λe q=>by rw[q,jr]at e;exact aM e
 refine iU S.same λWT WU Cs=>?_;refine ⟨⟨⟨h',tk,by rw[Cs]⟩,λd o e=>?_,λd o e hf=>keep d o (ne e) (S.keep d o e hf),S.role,S.lay,S.cs,S.aD,S.len⟩,⟨x.ground nf R.ground,R.loc.exc x nf ?_ ?_ ?_ ?_,R.aD.exc x nf ?_ ?_ (λZ Z Z=>rfl)⟩,x.up nf⟩
 ·(refine cg (S.live d o e) λo' e'=>?_);exact ⟨o',keep d o' (ne e) e'⟩
 ·(revert hr;refine eS (λe=>?W5) λgk=>?W6;(case' W6=>(refine cu gk λe hl=>?_));(case' W5=>(skip)))<;>rw[e]
  ·exact dS rfl
  ·intro q;injection q with q;exact dD _ (q▸hl)
 ·intro _ _;(revert hr;refine eS (λe=>?W7) λgk=>?W8;(case' W8=>(refine cu gk λe Z=>?_));(case' W7=>(skip)))<;>rw[e]<;>exact dS rfl
 ·intro _ _;(revert hr;refine eS (λe=>?W9) λgk=>?Xa;(case' Xa=>(refine cu gk λe Z=>?_));(case' W9=>(skip)))<;>rw[e]<;>exact dS rfl
 ·intro z hz Xb q;(revert hr;refine eS (λe=>?Xc) λgk=>?Xd;(case' Xd=>(refine cu gk λe hl=>?_));(case' Xc=>(skip)))<;>rw[e]at q<;>subst q
  ·exact Xb rfl
  ·exact Nat.lt_asymm hl hz
 ·intro _;(revert hr;refine eS (λe=>?Xe) λgk=>?v30;(case' v30=>(refine cu gk λe Z=>?_));(case' Xe=>(skip)))<;>rw[e]<;>exact dS rfl
 ·intro _ _;(revert hr;refine eS (λe=>?Xf) λgk=>?Xg;(case' Xg=>(refine cu gk λe Z=>?_));(case' Xf=>(skip)))<;>rw[e]<;>exact dS rfl
theorem LJ{env:Env}(ifs:List Expr):(forIn ifs false λc r=>if r=true then do let ok <-isTrue c env (eval c env);pure (ForInStep.yield ok) else pure (ForInStep.yield r):Sem Bool)=pure false:=by
 induction ifs with
 | nil=>rfl
 | cons c r ih=>rw[List.forIn_cons,au (by decide)];exact ih
theorem OM(ST:kK ev n d)(ro:dm A n d)(hh:A.handled=none){ifs:List Expr}{b:Bool}:∀{g:G} {st st':St} {s:Shared},Rel cx env cv g st s->jM (ev.t cx) ifs st=some (b,st')->
  wpAny (model prog w) A (forIn ifs true λc r=>if r=true then do let ok <-isTrue c env (eval c env);pure (ForInStep.yield ok) else pure (ForInStep.yield r)) (mT cx env cv g st s b st') br s:=by
 induction ifs with
 | nil=>intro g st st' s R e;exists e;exact wpAny_tests_nil ⟨rfl,g,Step.refl,R⟩
 | cons c r ih=>
  intro g st st' s R e;revert e;refine eG λuX aP e1 e=>?_;rw[List.forIn_cons,aq rfl];refine av (av (wm (ST ro hh e1 R) (λok bq p=>aH ?_)));refine p.el λq bM bR bL=>?_;clear p;subst q;induction ok using aad with
  | true=>exact wm (ih bL e) (λv s₂ p=>p.after bR)
  | false=>exists e;exact wpAny_of_eq (LJ r) ⟨rfl,bM,bR,bL⟩
theorem Nl{a:EV}{Y:MV}{y:Value}{bM:G}{bq:Shared}{gi:eN}(R:Rel cx env cv g st s)(E:fc env cx.ro cv bq.heap g s.heap a y)(e:jB a=some Y)(S:Step f ro rb bM gi bq g st.aD s) :
  ∃g',Step f ro rb bM gi bq g' st.aD s/\Rel cx env cv g' st s/\RV g' s.heap y Y:=by
 induction a using EV.casesOn with
 | val V=>exists e;exact ⟨g,S,R,E⟩
 | fresh V=>
  simp only[jB]at e;split at e
  ·rename_i hc;exists e;refine ji (AI R E hc S λZ o q=>⟨o,q⟩) λg' S' R' rv Z=>?_;exact ⟨g',S',R',rv⟩
  ·exact aM e
 | _=>exact aM e
theorem Tr{b:Addr}(R:Rel cx env cv g st s)(S:Step env.locals cx.ro cx.rb g₀ σ₀ s₀ g st.aD s)(jr:s₀.heap.get? b=none)(hr:g.ρ b=.loc b)(dH:env.locals<b) :
  ∃g',Step env.locals cx.ro cx.rb g₀ σ₀ s₀ g' st.aD s/\Rel cx env cv g' st s/\Up g s.heap g' s.heap/\g'.ρ b=.fy/\∀d,d≠b->g'.ρ d=g.ρ d:=by
 let g':G:={g with ρ:=λd=>if d=b then .fy else g.ρ d};have oJ:∀d,d≠b->g'.ρ d=g.ρ d:=λd q=>au q;have x:Exc (·=.loc b) g s.heap g' s.heap:=⟨λd o hd e=>⟨oJ d (λq=>hd (by rw[q];exact hr)),e⟩,rfl⟩;have nf:¬(Role.frozen=.loc b):=dS rfl;refine ⟨g',⟨S.same,S.live,S.keep,λd o e=>?_,S.lay,S.cs,S.aD,S.len⟩,⟨x.ground nf R.ground,R.loc.exc x nf (λq=>by injection q with q;exact dD _ (q▸dH)) (λZ Z=>dS rfl) (λZ Z=>dS rfl) (λz hz Z q=>by subst q;exact Nat.lt_asymm dH hz),R.aD.exc x nf (λZ=>dS rfl) (λZ Z=>dS rfl) (λZ Z Z=>rfl)⟩,x.up nf,aq rfl,oJ⟩;rw[oJ d (λq=>by rw[q,jr]at e;exact aM e)];exact S.role d o e
theorem ON{H:Heap}{xs:List MV}{b:Addr}(e:H.get? b=none):mS H (.lst xs) b:=λa q=>by
 skip;refine bu (b5.mp q) (λz=>?_) λz=>?_
 ·rw[bK.mp z];exact e
 ·exact b7 z
structure uY(env:Env)(s:Shared)(fp:List Addr)(I D L:Addr):Prop where
 hI:s.heap.get? I=none
 hD:s.heap.get? D=none
 hL:s.heap.get? L=none
 lt:env.locals<L
 IL:I≠L
 ID:I≠D
 DL:D≠L
 Lf:L∉fp
 Df:D∉fp
 If:I∈fp
inductive mE(cx:Ctx)(env:Env)(cv:Str->Addr)(cL:Bool)(aP:St)(g:G)(σ:eN)(s:Shared)(bW:G)(iz:Heap)(fp:List Addr)(gx:Nat->Heap->Prop)(I D L:Addr)(vs:Array Value)(iK:List MV)(i:Nat)(g':G)(gi:eN)(s':Shared):Prop
 | mk:Step env.locals cx.ro cx.rb g σ s g' gi s'->Rel cx env cv g' {aP with aD:=gi} s'->Up bW iz g' s'.heap->gx i s'.heap->(∀b∈fp,(∃o,s'.heap.get? b=some o)/\gY env.locals (cx.ro||cL) (g'.ρ b))->
   s'.heap.PlainList D vs->g'.ρ D=.fy->g'.ρ L=.loc L->(∃m,s'.heap.Ns L m)->g'.ρ I=.fy->RL g' s'.heap vs.toList iK->mE cx env cv cL aP g σ s bW iz fp gx I D L vs iK i g' gi s'
variable {cL:Bool} {aP wJ:St} {bW m8:G} {iz jm oz:Heap} {fp:List Addr} {gx:Nat->Heap->Prop} {I D L:Addr} {vs:Array Value} {i tk:Nat} {gi:eN} {oA ju:Shared} {xs iK:List MV} {Pi:Nat->Value->Prop}
theorem mE.drawn(F:uY env s fp I D L)(W:Walks prog w A I fp [I] xs.length Pi gx)(l8:∀i h,gx i h->∃o,h.get? I=some o)(c:mE cx env cv cL aP g σ s bW iz fp gx I D L vs iK i g' gi s')(qS:gx (i+1) jm)
  (zL:∀b o,b∉[I]->s'.heap.get? b=some o->jm.get? b=some o) (zM:Heap.SameBut L jm oz) (nW:∃m,oz.Ns L m):mE cx env cv cL aP g σ s bW iz fp gx I D L vs iK (i+1) g' gi {s' with heap:=oz,toks:=tk}:=by
 rcases c with ⟨S',R',u',m6,tK,jU,tL,tH,_,jD,tM⟩
 have sF:∀b o,b≠I->s'.heap.get? b=some o->jm.get? b=some o:=λb o hb e=>zL b o (λm=>hb (aA.mp m)) e;refine eg (chg (tk:=tk) (h':=jm) R' S' F.hI (.inl jD) sF) λkT lY rz=>?_;refine eg (chg (tk:=tk) (h':=oz) lY kT F.hL (.inr ⟨tH,F.lt⟩) λb o hb e=>(zM.2 b hb).trans e) λsW oB pH=>?_;have yS:gx (i+1) oz:=W.frame _ _ _ qS λb hb o e=>(zM.2 b (λq=>F.Lf (q▸hb))).trans e;refine ⟨sW,oB,u'.trans (rz.trans pH),yS,λb hb=>?_,jU.at λo e=>(zM.2 D F.DL).trans (sF D o (Ne.symm F.ID) e),tL,tH,nW,jD,(rz.trans pH).l tM⟩;refine cu (tK b hb) λbA hf=>?_;revert bA;refine gh λo q=>?_;by_cases xF:b=I
 ·subst xF;exact ⟨l8 _ _ yS,hf⟩
 ·exact ⟨⟨o,(zM.2 b (λq=>F.Lf (q▸hb))).trans (sF b o xF q)⟩,hf⟩
theorem mE.behind{Xh:Ctx}{zN:Env}(F:uY env s fp I D L)(W:Walks prog w A I fp [I] xs.length Pi gx)(gg:cx.ro=true->(cx.ro||cL)=true)(gF:(cx.ro=true\/cx.rb=false)->(cx.ro||cL)=true\/cx.rb=false)(hL:zN.locals=L)
  (c:mE cx env cv cL aP g σ s bW iz fp gx I D L vs iK i g' gi oA) (lM:Step L (cx.ro||cL) cx.rb g' gi oA m8 wJ.aD ju) (oE:Rel Xh zN cv m8 wJ ju):mE cx env cv cL aP g σ s bW iz fp gx I D L vs iK i m8 wJ.aD ju:=by
 subst hL;rcases c with ⟨sW,oB,pH,yS,Cu,jU,tL,tH,_,jD,tM⟩
 have fx:∀{b:Addr},gY env.locals (cx.ro||cL) (g'.ρ b)->gY zN.locals (cx.ro||cL) (g'.ρ b):=λq=>q.up (b9 F.lt) id;have fD:gY zN.locals (cx.ro||cL) (g'.ρ D):=by rw[tL];trivial
 revert jU;refine gh λep Kf=>?_;refine bz oE.loc.vars λVr Tt Z=>?_;refine ⟨sW.trans (lM.out (b9 F.lt) gg gF),⟨oE.ground,oB.loc.under lM F.lt gg,oE.aD⟩,pH.trans lM.up,W.frame _ _ _ yS λb hb o e=>lM.keep b o e (fx (Cu b hb).2),λb hb=>?_,⟨ep,lM.keep _ _ Kf fD⟩,(lM.fix ⟨_,Kf⟩ fD).trans tL,oE.loc.role,⟨Vr,Tt⟩,?_,lM.up.l tM⟩
 ·refine cu (Cu b hb) λbA hf=>?_;revert bA;refine gh λo q=>?_;exact ⟨⟨o,lM.keep b o q (fx hf)⟩,by rw[lM.fix ⟨o,q⟩ (fx hf)];exact hf⟩
 ·refine cu (Cu I F.If) λq hf=>?_;exact (lM.fix q (fx hf)).trans jD
theorem mE.push{y:Value}{Y:MV}(F:uY env s fp I D L)(W:Walks prog w A I fp [I] xs.length Pi gx)(c:mE cx env cv cL aP g σ s bW iz fp gx I D L vs iK i g' gi ju)(ry:RV g' ju.heap y Y)(hl:oz.PlainList D (vs.push y))(hs:Heap.SameBut D ju.heap oz) :
  mE cx env cv cL aP g σ s bW iz fp gx I D L (vs.push y) (iK++[Y]) i g' gi {ju with heap:=oz}:=by
 rcases c with ⟨S',R',u',dj,tK,_,tL,tH,⟨m,nW⟩,jD,tM⟩
 refine eg (chg (tk:=ju.toks) (h':=oz) R' S' F.hD (.inl tL) λb o hb e=>(hs.2 b hb).trans e) λVt Vu Dk=>?_;have ne:∀{b},b∈fp->b≠D:=λhb q=>F.Df (q▸hb);refine ⟨Vt,Vu,u'.trans Dk,W.frame _ _ _ dj λb hb o e=>(hs.2 b (ne hb)).trans e,λb hb=>?_,hl,tL,tH,⟨m,qV nW λo e=>(hs.2 L (Ne.symm F.DL)).trans e⟩,jD,GZ (Dk.l tM) (Dk.v ry)⟩;refine cu (tK b hb) λbA hf=>?_;revert bA;refine gh λo q=>?_;exact ⟨⟨o,(hs.2 b (ne hb)).trans q⟩,hf⟩
inductive Dl(cx:Ctx)(env:Env)(cv:Str->Addr)(ev:Ev)(wK:Ctx)(ifs:List Expr)(elt:Expr)(x:Str)(cL:Bool)(xs ys:List MV)(aP:St)(σ':eN)(g:G)(σ:eN)(s:Shared)(bW:G)(iz:Heap)(fp:List Addr)(gx:Nat->Heap->Prop)(I D L:Addr)(k:Nat)(s':Shared):Prop
 | mk (i:Nat) (g':G) (gi:eN) (zs iK:List MV) (vs:Array Value):i<=xs.length->k=xs.length+1-i->mQ ev wK ifs elt x (aP.loc.map eY) (xs.drop i) gi=some (zs,σ')->ys=iK++zs->iK.length<=i->
   mE cx env cv cL aP g σ s bW iz fp gx I D L vs iK i g' gi s'->Dl cx env cv ev wK ifs elt x cL xs ys aP σ' g σ s bW iz fp gx I D L k s'
variable {elt iter:Expr} {x:Str} {px pos:Pos} {ifs:List Expr} {sc:Scope} {cl:List (Str×Addr)} {ys:List MV} {RR:Value->Addr->Result->Shared->Prop}
theorem Nm{zs iK:List MV}{vs:Array Value}{i:Nat}{gi:eN}{oA:Shared}(SE:fT ev n d)(ST:kK ev n d)(ro:dm A n d)(hh:A.handled=none)(jl:xs.length<bE)
  (F:uY env s fp I D L) (W:Walks prog w A I fp [I] xs.length Pi gx) (gg:cx.ro=true->(cx.ro||cL)=true) (gF:(cx.ro=true\/cx.rb=false)->(cx.ro||cL)=true\/cx.rb=false) (dH:i<xs.length)
  (iN:mQ ev (j4 sc cx cL) ifs elt x (aP.loc.map eY) (xs.drop i) gi=some (zs,σ')) (xG:ys=iK++zs) (hlen:iK.length<=i)
  (c:mE cx env cv cL aP g σ s bW iz fp gx I D L vs iK (i+1) g' gi oA)
  (hR:Rel cx env cv g' {aP with aD:=gi} oA->Up bW iz g' oA.heap->Rel (j4 sc cx cL) (compEnvC sc cl L env) cv g' ⟨(x,.v xs[i])::aP.loc.map eY,gi⟩ oA) {J:Shared->Prop} {E:Value->Shared->Prop}
  (hJ:∀xg zf zs iK vs Dm,mQ ev (j4 sc cx cL) ifs elt x (aP.loc.map eY) (xs.drop (i+1)) zf=some (zs,σ')->ys=iK++zs->iK.length<=i+1->
   mE cx env cv cL aP g σ s bW iz fp gx I D L vs iK (i+1) xg zf Dm->J Dm) :
  wpAny (model prog w) A (forIn ifs true λc r=>if r=true then do let ok <-isTrue c (compEnvC sc cl L env) (eval c (compEnvC sc cl L env));pure (ForInStep.yield ok) else pure (ForInStep.yield r))
   (λok gq=>if ok=true then wpAny (model prog w) A (eval elt (compEnvC sc cl L env)) (λy pF=>wpAny (model prog w) A (call (.builtin "list.append") [.ref D,y]) (λZ oA=>J oA) E pF) E gq else J gq) E oA:=by
 rw[List.drop_eq_getElem_cons dH]at iN;revert iN;refine eG λok IQ e3 iN=>?_;have c':=c;rcases c' with ⟨_,oB,pH,_,_,_,_,_,_,_,_⟩
 refine b6 (OM ST ro hh (hR oB pH) e3) (λXi zO p=>?_) λZ Z q=>q.elim;refine p.el λbA JF xh zP=>?_;clear p;obtain rfl:=bA;induction Xi using aad with
 | false=>exact hJ JF IQ.aD zs iK vs zO iN xG (Nat.le_succ_of_le hlen) (c.behind F W gg gF rfl xh zP)
 | true=>
  revert iN;refine eG λa wJ e4 iN=>?_;revert iN;refine cN λY e5 iN=>?_;revert iN;refine eG λXj JG e6 iN=>?_;refine pairK iN λq1 q2=>?_;subst q1 q2;refine b6 (SE ro hh e4 zP) (λy ju p=>?_) λZ Z q=>q.elim;refine p.el λm8 lM oE Vv=>?_;clear p;refine ja (Nl oE Vv e5 lM) λxg zQ Vw ry=>?_;have JH:=c.behind F W gg gF rfl (xh.trans zQ) Vw;have c':=JH;rcases c' with ⟨_,_,_,_,_,B6,_,_,_,_,R9⟩
  have tO:vs.size<=sizeLine:=by have:=jf R9;rw[aL]at this;rw[bT];exact this▸aW hlen (b9 (aZ dH (cC jl (by decide))))
  refine wpAny_list_append_plain (hsz:=tO) B6 λYU Tu Tv=>?_;exact hJ xg wJ.aD Xj (iK++[Y]) (vs.push y) _ e6 (by rw[xG,cH];rfl) (by rw[ay];exact cR hlen) (JH.push F W ry Tu Tv)
theorem Nn(SE:fT ev n d)(ST:kK ev n d)(ro:dm A n d)(hh:A.handled=none)
  (dJ:cx.comp=false) (mV:sc.kind=.function) (hx:sc.names.lookup x=some .local) (lN:rW cx x (λy=>sc.names.lookup y) sc.names=true) (h0:look aP.loc (Str.ofString ".0")=none) (iN:∀y,(y,NameKind.free)∈sc.names->cl.lookup y=env.cells.lookup y) (jl:xs.length<bE)
  (F:uY env s fp I D L) (W:Walks prog w A I fp [I] xs.length Pi gx) (l8:∀i h,gx i h->∃o,h.get? I=some o) (hP:∀i v,Pi i v->∀iF gV,Up bW iz iF gV->∃V,xs[i]?=some V/\RV iF gV v V)
  (xH:∀s' g' m',Step env.locals cx.ro cx.rb g σ s g' σ' s'->Rel cx env cv g' {aP with aD:=σ'} s'->fW s.heap g' s'.heap (.lst ys) (.ref D)->g'.ρ L=.fy->s'.heap.Ns L m'->RR (.ref D) L (.ok .next) s')
  (c:Dl cx env cv ev (j4 sc cx cL) ifs elt x cL xs ys aP σ' g σ s bW iz fp gx I D L (xs.length+1) s') :
  codeAny (model prog w) A (.compLoop (.ListComp elt [⟨.Name x px,iter,ifs,0⟩] sc pos) 0 (.ref I) (.ref D) (compEnvC sc cl L env)) (RR (.ref D) L) s':=by
 have gg:cx.ro=true->(cx.ro||cL)=true:=λq=>by rw[q];rfl
 have gF:(cx.ro=true\/cx.rb=false)->(cx.ro||cL)=true\/cx.rb=false:=λq=>q.imp gg id;have DW:(compEnvC sc cl L env).kindOf x=some .local:=lookup_relabel_local hx;refine codeAny_compLoop_tests (Dl cx env cv ev (j4 sc cx cL) ifs elt x cL xs ys aP σ' g σ s bW iz fp gx I D L) ?_ (xs.length+1) c;clear c;intro k s' c;rcases c with ⟨i,g',gi,zs,iK,vs,hi,rfl,zR,xG,hlen,c⟩
 by_cases dH:i<xs.length
 ·have c':=c;rcases c' with ⟨_,_,_,m6,_,_,_,Dn,⟨m',Dp⟩,_,_⟩
  refine W.item i s' _ _ dH m6 λv jm uJ xJ qS o9=>?_;have Sa:jm.Ns L m':=qV Dp λo e=>o9 _ o (λm=>F.IL (aA.mp m).symm) e;refine wpAny_assign_Name (wpAny_storeName_local DW Sa (λoz HV Sb=>?_) (by simp[compEnvC,relabel,mV]));refine Nm SE ST ro hh jl F W gg gF dH zR xG hlen (c.drawn (tk:=uJ+1) F W l8 qS o9 Sb ⟨_,HV⟩) (λoB pH=>?_) λxg zf zs iK vs Dm e6 q1 q2 c=>⟨_,Nat.sub_lt_sub_left (Nat.lt_succ_of_lt dH) (dW i),i+1,xg,zf,zs,iK,vs,dH,rfl,e6,q1,q2,c⟩;refine bz (hP i v xJ g' oz pH) λV hV rv=>?_;have Eg:V=xs[i]:=by rw[cB dH]at hV;exact (aY hV).symm
  subst Eg;exact Nk (cl:=cl) (fY:=cx.ro||cL) oB dJ mV hx lN h0 gg iN Dn F.lt HV (by simp) rv
 ·obtain rfl:i=xs.length:=Nat.le_antisymm hi (Nat.not_lt.mp dH);rw[List.drop_length]at zR;exists zR,zR;rcases c with ⟨S',R',_,m6,_,jU,Vx,Dn,⟨m',Dp⟩,zS,tM⟩
  refine W.done s' _ _ m6 λjm uJ o9=>?_;have sF:∀b o,b≠I->s'.heap.get? b=some o->jm.get? b=some o:=λb o hb e=>o9 b o (λm=>hb (aA.mp m)) e;refine eg (chg (tk:=uJ) (h':=jm) R' S' F.hI (.inl zS) sF) λkT lY rz=>?_;have Vy:iK=ys:=by rw[xG,eo]
  subst Vy;refine qu (Tr lY kT F.hL Dn F.lt) λDq sW oB pH Vz Tw=>?_;exact xH _ Dq m' sW oB (fW.of (ON F.hD) ((Tw D F.DL).trans Vx) (.lst (jU.at λo e=>sF D o (Ne.symm F.ID) e) (pH.l (rz.l tM)))) Vz (qV Dp λo e=>sF _ o (Ne.symm F.IL) e)
theorem Mv{s₂:Shared}{h₁:Heap}{tk:Nat}(W:Walks prog w A I fp [I] xs.length Pi gx)(SE:fT ev n d)(ST:kK ev n d)(ro:dm A n d)(hh:A.handled=none)
  (dJ:cx.comp=false) (mV:sc.kind=.function) (hx:sc.names.lookup x=some .local) (lN:rW cx x (λy=>sc.names.lookup y) sc.names=true) (h0:look aP.loc (Str.ofString ".0")=none) (iN:∀y,(y,NameKind.free)∈sc.names->cl.lookup y=env.cells.lookup y) (jl:xs.length<bE)
  (e2:mQ ev (j4 sc cx cL) ifs elt x (aP.loc.map eY) xs aP.aD=some (ys,σ'))
  (xH:∀D C s' g' m',Step env.locals cx.ro cx.rb g σ s g' σ' s'->Rel cx env cv g' {aP with aD:=σ'} s'->fW s.heap g' s'.heap (.lst ys) (.ref D)->g'.ρ C=.fy->env.locals<C->s.heap.get? C=none->D≠C->s'.heap.Ns C m'->RR (.ref D) C (.ok .next) s')
  (vm:gx 0 s₂.heap) (bY:Step env.locals cx.ro cx.rb g σ s bW aP.aD s₂) (b8:Rel cx env cv bW aP s₂) (pQ:I∈fp) (jD:bW.ρ I=.fy) (hIn:s.heap.get? I=none) (tQ:∀b∈fp,(∃o,s₂.heap.get? b=some o)/\gY env.locals (cx.ro||cL) (bW.ρ b))
  (l8:∀i h,gx i h->∃o,h.get? I=some o) (hP:∀i v,Pi i v->∀iF gV,Up bW s₂.heap iF gV->∃V,xs[i]?=some V/\RV iF gV v V)
  (hD:D=s₂.heap.objs.size) (hL:L=s₂.heap.objs.size+1) (old:∀b o,s₂.heap.get? b=some o->h₁.get? b=some o) (zH:h₁.PlainList D #[]) (nW:∃m,h₁.Ns L m) :
  codeAny (model prog w) A (.compStart (.ListComp elt [⟨.Name x px,iter,ifs,0⟩] sc pos) 0 (.ref I) (.ref D) (compEnvC sc cl L env)) (RR (.ref D) L) {s₂ with heap:=h₁,toks:=tk}:=by
 have Aa:s₂.heap.get? D=none:=new_of_ge (hD▸az _);have rH:s₂.heap.get? L=none:=new_of_ge (hL▸bG _);have JI:∀{b},s₂.heap.get? b=none->s.heap.get? b=none:=λ{b} q=>by
  cases z:s.heap.get? b with
  | none=>rfl
  | some o=>(refine cg (bY.live b o z) λo' z'=>?_);rw[q]at z';exact aM z'
 have Ab:∀{b},s₂.heap.get? b=none->b∉fp:=λq hm=>by (refine cu (tQ _ hm) λbA Z=>?_;revert bA;refine gh λo z=>?_);rw[q]at z;exact aM z
 have tR:D≠L:=by rw[hD,hL];exact di (dW _)
 have F:uY env s fp I D L:=⟨hIn,JI Aa,JI rH,hL▸Nat.lt_succ_of_lt b8.loc.lt,λq=>Ab rH (q▸pQ),λq=>Ab Aa (q▸pQ),tR,Ab rH,Ab Aa,pQ⟩;refine cu (ext (f:=env.locals) (ro:=cx.ro) (rb:=cx.rb) (s':={s₂ with heap:=h₁,toks:=tk}) b8 ⟨h₁,_,rfl⟩ old (λb=>if b=L then .loc L else .fy)) λgu gA=>?_;have st:mE cx env cv cL aP g σ s bW s₂.heap fp gx I D L #[] [] 0 (bW.role s₂.heap λb=>if b=L then .loc L else .fy) aP.aD {s₂ with heap:=h₁,toks:=tk}:=by
  refine ⟨bY.trans gu,gA,rZ bW _ old,W.frame _ _ _ vm λb Z o e=>old b o e,λb hb=>?_,zH,(G.lq Aa).trans (au tR),(G.lq rH).trans (aq rfl),nW,?_,.nil⟩
  ·refine cu (tQ b hb) λbA hf=>?_;revert bA;refine gh λo q=>?_;exact ⟨⟨o,old b o q⟩,by rw[G.mO q];exact hf⟩
  ·refine cu (tQ I pQ) λbA Z=>?_;revert bA;refine gh λo q=>?_;rw[G.mO q];exact jD
 have loop:=Nn (iter:=iter) (px:=px) (pos:=pos) (RR:=RR) SE ST ro hh dJ mV hx lN h0 iN jl F W l8 hP (λs' g' m' a b c d e=>xH D L s' g' m' a b c d F.lt F.hL tR e)
  ⟨0,_,aP.aD,ys,[],#[],cS _,rfl,by rw[List.drop_zero];exact e2,rfl,az _,st⟩
 exact codeAny_compStart_list loop (W.self 0 _ _ _ (W.frame _ _ _ vm λb Z o e=>old b o e) loop)
theorem FQ{elt iter:Expr}{x:Str}{px pos:Pos}{ifs:List Expr}{sc:Scope}{cl:List (Str×Addr)}{xs ys:List MV}{cL:Bool}{aP:St}{σ':eN}{RR:Value->Addr->Result->Shared->Prop}
  (cP:g9 P K h₀ mg mb) (mP:P.oH (Str.ofString "range")=some (.typ "range")) (SE:fT ev n d) (ST:kK ev n d) (SI:gW ev) (ro:dm A n d) (hh:A.handled=none) (R:Rel cx env cv g st s)
  (dJ:cx.comp=false) (mV:sc.kind=.function) (hx:sc.names.lookup x=some .local) (lN:rW cx x (λy=>sc.names.lookup y) sc.names=true) (h0:look aP.loc (Str.ofString ".0")=none) (iN:∀y,(y,NameKind.free)∈sc.names->cl.lookup y=env.cells.lookup y)
  (e1:ia ev cx iter st=some (xs,cL,aP)) (e2:mQ ev (j4 sc cx cL) ifs elt x (aP.loc.map eY) xs aP.aD=some (ys,σ')) (jl:xs.length<bE)
  (xH:∀D C s' g' m',Step env.locals cx.ro cx.rb g st.aD s g' σ' s'->Rel cx env cv g' {aP with aD:=σ'} s'->fW s.heap g' s'.heap (.lst ys) (.ref D)->g'.ρ C=.fy->env.locals<C->s.heap.get? C=none->D≠C->s'.heap.Ns C m'->RR (.ref D) C (.ok .next) s') :
  wpAny (model prog w) A (eval iter env) (λxv bq=>wpAny (model prog w) A (pyIter xv) (λit s₂=>wpAny (model prog w) A (newList []) (λacc gq=>wpAny (model prog w) A (newFunctionEnv sc env.globals cl [] env.qual none .none (some env)) (λJJ pF=>
   codeAny (model prog w) A (.compStart (.ListComp elt [⟨.Name x px,iter,ifs,0⟩] sc pos) 0 it acc {JJ with scope:=relabel sc env}) (RR acc JJ.locals) pF) br gq) br s₂) br bq) br s:=by
 refine wm (Gh cP mP SE SI ro hh R e1) (λxv bq p=>wm p (λit s₂ p=>?_));rcases p with ⟨I,fp,Pi,gx,bW,rfl,W',vm,bY,b8,pQ,jD,hIn,tQ,l8,hP⟩
 have sD:∀y∈sc.names,y.2≠.cell:=λy hy=>(rP lN y.1 y.2 hy).2.1;refine wpAny_newObj_type (wpAny_newFunctionEnv sD (by intro y hy;simp at hy) (λh₁ BV BW=>?_) mV);have hsz:(s₂.heap.push {cls:=.type "list",dict:=none,data:=.seq ([]:List Value).toArray}).objs.size=s₂.heap.objs.size+1:=Heap.size_push ..;have BV:Heap.Ns h₁ (s₂.heap.push {cls:=.type "list",dict:=none,data:=.seq ([]:List Value).toArray}).objs.size _:=BV;have BW:Heap.SameBut (s₂.heap.push {cls:=.type "list",dict:=none,data:=.seq ([]:List Value).toArray}).objs.size _ h₁:=BW;have old:∀b o,b≠s₂.heap.objs.size+1->(s₂.heap.push {cls:=.type "list",dict:=none,data:=.seq ([]:List Value).toArray}).get? b=some o->h₁.get? b=some o:=λb o hb e=>BW.extBut b o (by rw[hsz];exact hb) (aQ _ e);exact Mv (s₂:=s₂) (h₁:=h₁) (L:=(s₂.heap.push {cls:=.type "list",dict:=none,data:=.seq ([]:List Value).toArray}).objs.size) (W' A hh) SE ST ro hh dJ mV hx lN h0 iN jl e2 xH vm bY b8 pQ jD hIn tQ l8 hP rfl hsz
  (λb o e=>old b o (di (Nat.lt_succ_of_lt (cJ e))) (aQ _ e)) ⟨_,old _ _ (di (dW _)) (bw _ rfl)⟩ ⟨_,BV⟩
def HW(st:St)(y:Str)(a:EV):Option St:=match a with
 | .val v=>some {st with loc:=put st.loc y (.v v)}
 | .fresh v=>if ownNames.contains y&&ly v then some {st with loc:=put st.loc y (.own v)} else if oU v then some {st with loc:=put st.loc y (.v v)} else none
 | _=>none
theorem E7{y:Str}{a:EV}(e:setName cx st y a=some st'):cx.comp=false/\(jG cx y=some .local\/jG cx y=some .cell)/\HW st y a=some st':=by
 skip;revert e;refine jv λdJ e=>?_;refine ⟨by simpa using dJ,?_⟩;cases hk:jG cx y with
 | none=>rw[hk]at e;exact aM e
 | some k=>
  rw[hk]at e;cases (k) with
  | «local»=>exact ⟨.inl rfl,by induction a using EV.casesOn<;>exact e⟩
  | cell=>exact ⟨.inr rfl,by induction a using EV.casesOn<;>exact e⟩
  | _=>exact aM e
inductive Named(cx:Ctx)(env:Env)(cv:Str->Addr)(g₀:G)(σ₀:eN)(s₀:Shared)(g:G)(s:Shared)(a:EV)(v:Value)(st':St)(s':Shared):Prop
 | mk (g':G) (f7:Str->Addr):Step env.locals cx.ro cx.rb g₀ σ₀ s₀ g' st'.aD s'->Rel cx env f7 g' st' s'->n7 cv f7->
   (∀b o,g.ρ b=.fy->(∀V D,a=.fresh V->v=.ref D->jg V D b=false)->s.heap.get? b=some o->s'.heap.get? b=some o/\g'.ρ b=.fy)->Named cx env cv g₀ σ₀ s₀ g s a v st' s'
theorem vK{y:Str}{a:EV}{v:Value}{lo:Heap}(R:Rel cx env cv g st s)(E:fc env cx.ro cv lo g s.heap a v)(S:Step env.locals cx.ro cx.rb g₀ σ₀ s₀ g st.aD s)(hl:∀b o,s₀.heap.get? b=some o->∃o',lo.get? b=some o')(e:setName cx st y a=some st') :
  wpAny (model prog w) A (storeName env y v) (λZ s'=>Named cx env cv g₀ σ₀ s₀ g s a v st' s') br s:=by
 refine eg (E7 e) λdJ z9 e=>?_;have BU:env.kindOf y=jG cx y:=by
  refine bu (R.loc.kinds y) (λq=>?Xk) λgk=>?Xl;(case' Xl=>(refine cu gk λq Z=>?_));(case' Xk=>(skip))
  ·exact q
  ·rw[dJ]at q;exact b7 q
 have val:∀{V:MV} {bM:G},Step env.locals cx.ro cx.rb g₀ σ₀ s₀ bM st.aD s->Rel cx env cv bM st s->RV bM s.heap v V->(env.kindOf y=some .local\/env.kindOf y=some .cell)->
   (∀b o,g.ρ b=.fy->(∀V D,a=.fresh V->v=.ref D->jg V D b=false)->s.heap.get? b=some o->bM.ρ b=.fy)->st'={st with loc:=put st.loc y (.v V)}->
   wpAny (model prog w) A (storeName env y v) (λZ s'=>Named cx env cv g₀ σ₀ s₀ g s a v st' s') br s:=by
  intro V bM bR bL rv hk ht dj;subst dj;refine wm (AN (rb:=cx.rb) (lv:=.v V) (b:=cv y) bL dJ hk λh' f7 Z keep=>?_) (λZ s' pq=>?_)
  ·exact (Up.v ⟨λb o r q=>⟨r,keep b o (by rw[r];exact dS rfl) (λZ=>by rw[r];exact dS rfl) q⟩,λZ Z q=>q⟩ rv)
  ·revert pq;refine gj λbY b8=>?_;refine ⟨bM,_,bR.trans bY,b8,λz Z=>?_,λb o r hn q=>⟨bY.keep b o q (by rw[ht b o r hn q];trivial),ht b o r hn q⟩⟩;by_cases q:z=y
   ·rw[q];exact aq rfl
   ·exact au q
 have hk:env.kindOf y=some .local\/env.kindOf y=some .cell:=by rw[BU];exact z9
 unfold HW at e;induction a using EV.casesOn with
  | val V=>exists e,e;exact val S R E hk (λZ Z r Z Z=>r) rfl
  | fresh V=>
   dsimp only at e;split at e
   ·rename_i hc;exists e,e;rw[aI]at hc;refine ji (fW.cont E hc.2) λb dP h1 h2 c=>?_;obtain rfl:=dP;have tS:mS s₀.heap V b:=h1.old hl;have bL:=R.tag c h2 (.own env.locals y);have bR:=S.tag tS (.own env.locals y);have c₁:=c.tag (.own env.locals y) (by rw[h2];exact dS rfl);refine wm (AN (rb:=cx.rb) (lv:=.own V) (b:=b) bL dJ hk λh' f7 DP keep=>?_) (λZ s' pq=>?_)
    ·have hb:f7 y=b:=by rw[DP,aq rfl]
     refine ⟨by rw[hb],by rw[hb];exact n5 ..,?_⟩;rw[hb];have ku:∀d o,(∀f',(g.tag V b (.own env.locals y)).ρ d≠.loc f')->(∀f' z,(g.tag V b (.own env.locals y)).ρ d≠.cell f' z)->s.heap.get? d=some o->h'.get? d=some o:=λd o k1 k2 q=>keep d o (k1 _) (λz=>k2 _ z) q;refine c₁.keep ⟨λd o r q=>⟨r,ku d o (λZ=>by rw[r];exact dS rfl) (λZ Z=>by rw[r];exact dS rfl) q⟩,λZ Z q=>q⟩ λd o JK q=>⟨JK,?_⟩;have r:=JK;rw[n5]at r;exact ku d o (λZ=>by rw[r];exact dS rfl) (λZ Z=>by rw[r];exact dS rfl) q
    ·revert pq;refine gj λbY b8=>?_;refine ⟨_,_,bR.trans bY,b8,λz hz=>?_,λd o r hn q=>?_⟩
     ·by_cases q:z=y
      ·subst q;rw[hc.1]at hz;injection hz
      ·exact au q
     ·have ht:(g.tag V b (.own env.locals y)).ρ d=.fy:=by show (if jg V b d then _ else g.ρ d)=_;rw[hn V b rfl rfl];exact r
      exact ⟨bY.keep d o q (by rw[ht];trivial),ht⟩
   ·split at e
    ·rename_i hc;exists e,e;cases IS:ly V with
     | false=>exact val S R (fW.plain E IS) hk (λZ Z r Z Z=>r) rfl
     | true=>
      refine ji (fW.cont E IS) λb dP h1 h2 c=>?_;obtain rfl:=dP;have tS:mS s₀.heap V b:=h1.old hl;have bL:=R.tag c h2 .frozen;have bR:=S.tag tS .frozen;have nf:g.ρ b≠.frozen:=by rw[h2];exact dS rfl
      refine val bR bL ((c.tag .frozen nf).frozen (n5 ..) hc) hk (λd o r hn q=>?_) rfl;show (if jg V b d then _ else g.ρ d)=_;rw[hn V b rfl rfl];exact r
    ·exact aM e
  | _=>exact aM e
theorem A2{iter:Expr}(e:jJ iter=false)(x:Value):foldedSetIterable iter env x=pure x:=by induction iter using aac<;>first | rfl | injection e
structure HX(cx:Ctx)(sc:Scope)(x:Str)(iter:Expr)(st:St):Prop where
 comp:cx.comp=false
 set:jJ iter=false
 kind:sc.kind=.function
 hx:sc.names.lookup x=some .local
 sc:rW cx x (λy=>sc.names.lookup y) sc.names=true
 h0:look st.loc (Str.ofString ".0")=none
theorem Fo{sc:Scope}{x:Str}{iter:Expr}(e:ur cx sc x iter st=true):HX cx sc x iter st:=by have e:=ak.mp e;have a:=ak.mp e.1;have b:=ak.mp a.1;have c:=ak.mp b.1;have d:=ak.mp c.1;have f:=ak.mp d.1;exact ⟨by simpa using f.1,by simpa using f.2,ai d.2,ai c.2,b.2,by simpa using a.2⟩
theorem E3{sc:Scope}{x:Str}{iter:Expr}{aP:St}(R:Rel cx env cv g st s)(ok:HX cx sc x iter aP):∃cl,closureFor sc env=pure cl/\∀y,(y,NameKind.free)∈sc.names->cl.lookup y=env.cells.lookup y:=by
 refine Mu λy hy=>?_;have hk:env.kindOf y=some .cell:=by
  have:=(rP ok.sc y .free hy).2.2 rfl;refine bu (R.loc.kinds y) (λq=>?Xm) λgk=>?Xn;(case' Xn=>(refine cu gk λq Z=>?_));(case' Xm=>(skip))
  ·exact q.trans this
  ·rw[ok.comp]at q;exact b7 q
 refine UR (R.loc.cells y hk) λc ov f' e1 Z=>?_;exact ⟨c,e1⟩
theorem Fp{elt iter:Expr}{x:Str}{px pos:Pos}{ifs:List Expr}{sc:Scope}{xs ys:List MV}{cL:Bool}{aP:St}{σ':eN}
  (cP:g9 P K h₀ mg mb) (mP:P.oH (Str.ofString "range")=some (.typ "range")) (SE:fT ev n d) (ST:kK ev n d) (SI:gW ev) (ro:dm A n d) (hh:A.handled=none) (R:Rel cx env cv g st s)
  (e1:ia ev cx iter st=some (xs,cL,aP)) (ok:ur cx sc x iter aP=true) (e2:mQ ev (j4 sc cx cL) ifs elt x (aP.loc.map eY) xs aP.aD=some (ys,σ')) (jl:xs.length<bE) :
  wpAny (model prog w) A (eval (.ListComp elt [⟨.Name x px,iter,ifs,0⟩] sc pos) env) (ez cx env cv g st s (.fresh (.lst ys)) {aP with aD:=σ'}) br s:=by
 have ok:=Fo ok;refine bz (E3 R ok) λcl Cv iN=>?_;rw[eval_ListComp];refine wpAny_comprehension_free (use:=none) rfl (A2 ok.set) Cv ok.kind (λy hy hl=>((rP ok.sc y.1 y.2 hy).1 hl).2) ?_;refine FQ (RR:=λacc C=>compPost (model prog w) A br none (ez cx env cv g st s (.fresh (.lst ys)) {aP with aD:=σ'}) acc C) cP mP SE ST SI ro hh R ok.comp ok.kind ok.hx ok.sc ok.h0 iN e1 e2 jl ?_;intro D L s' g' m' S' R' T' rL dH rH tR hn;refine ⟨m',hn,λgV zT=>?_⟩;refine eg (chg (tk:=s'.toks) (h':=gV) R' S' rH (.inl rL) λb o hb e=>(zT.2 b hb).trans e) λbY b8 zJ=>?_;refine ⟨g',bY,b8,?_⟩;refine ji (T'.cont rfl) λb hb h1 h2 c=>?_;cases (hb);cases (c) with
 | lst i r=>exact fW.of h1 h2 (.lst (i.at λo e=>(zT.2 D tR).trans e) (zJ.l r))
theorem Lj{elt iter:Expr}{x y:Str}{px py pos uZ:Pos}{ifs:List Expr}{sc:Scope}{xs ys:List MV}{cL:Bool}{aP:St}{σ':eN}
  (cP:g9 P K h₀ mg mb) (mP:P.oH (Str.ofString "range")=some (.typ "range")) (SE:fT ev n d) (ST:kK ev n d) (SI:gW ev) (ro:dm A n d) (hh:A.handled=none) (R:Rel cx env cv g st s)
  (e1:ia ev cx iter st=some (xs,cL,aP)) (ok:ur cx sc x iter aP=true) (e2:mQ ev (j4 sc cx cL) ifs elt x (aP.loc.map eY) xs aP.aD=some (ys,σ')) (jl:xs.length<bE)
  (e3:setName cx {aP with aD:=σ'} y (.fresh (.lst ys))=some st') :
  wpAny (model prog w) A (exec (.Assign [.Name y py] (.ListComp elt [⟨.Name x px,iter,ifs,0⟩] sc pos) uZ) env)
   (λfw s'=>fw=.next/\Kept cx env cv g st.aD s st' s') br s:=by
 have vn:∃b,swapsWith (.ListComp elt [⟨.Name x px,iter,ifs,0⟩] sc pos) (some (.Name y py)) uZ.line env=pure b:=⟨_,rfl⟩;revert vn;refine gh λb vn=>?_;induction b using aad with
 | false=>
  refine PySem.wpAny_Assign_Name (wm (Fp cP mP SE ST SI ro hh R e1 ok e2 jl) (λv bq pq=>?_)) vn;refine pq.el λbM bR bL cj=>?_;clear pq;refine wm (vK bL cj bR (λZ o q=>⟨o,q⟩) e3) (λZ s₂ pq=>?_);rcases pq with ⟨bW,qW,bY,b8,Cw,_⟩
  exact ⟨rfl,bW,qW,bY,b8,Cw⟩
 | true=>
  have ok:=Fo ok;refine bz (E3 R ok) λcl Cv iN=>?_;rw[exec_Assign_Name_used _ _ _ _ vn];refine av (wpAny_standAt (av ?_));show wpAny _ A (do let _ <-comprehension (.ListComp elt [⟨.Name x px,iter,ifs,0⟩] sc pos) sc env _ (newList []) false (eval iter env) (some (assign (.Name y py) env))) _ _ s;refine av (b6 (wpAny_comprehension_free (use:=some (assign (.Name y py) env)) (Q:=λZ s'=>Kept cx env cv g st.aD s st' s') rfl (A2 ok.set) Cv ok.kind (λy hy hl=>((rP ok.sc y.1 y.2 hy).1 hl).2) ?_)
   (λZ s' hq=>aH (aH ⟨rfl,hq⟩)) λZ Z q=>q)
  refine FQ (RR:=λacc C=>compPost (model prog w) A br (some (assign (.Name y py) env)) (λZ s'=>Kept cx env cv g st.aD s st' s') acc C)
   cP mP SE ST SI ro hh R ok.comp ok.kind ok.hx ok.sc ok.h0 iN e1 e2 jl ?_
  intro D L s' g' m' S' R' T' rL dH rH tR hn;show wpAny _ A (assign (.Name y py) env (.ref D)) _ _ _;refine cg (nF hn) λoL Kg=>?_;refine wpAny_assign_Name (wm (vK (a:=.fresh (.lst ys)) (lo:=s.heap) R' T' S' (λZ o q=>⟨o,q⟩) e3) (λZ s₂ pq=>?_));rcases pq with ⟨bW,qW,bY,b8,Cw,ht⟩
  refine cu (ht L oL rL (λV D' q1 q2=>by
   cases (q1);cases (q2);unfold jg;rw[show (L==D)=false from beq_eq_false_iff_ne.mpr (Ne.symm tR)];rfl) Kg) λk1 k2=>?_
  refine ⟨m',qV hn λo q=>by rw[Kg]at q;exists q;exact k1,λgV zT=>?_⟩;refine eg (chg (tk:=s₂.toks) (h':=gV) b8 bY rH (.inl k2) λb o hb e=>(zT.2 b hb).trans e) λgu gA Z=>?_;exact ⟨bW,qW,gu,gA,Cw⟩
theorem OO{α:Type}[DecidableEq α]{l:List α}:∀{ks:List α},l.Nodup->(∀x∈l,x∈ks)->l.length<=ks.length:=by
 induction l with
 | nil=>exact λ_ _=>cS _
 | cons a r ih=>intro ks hn h;have hn:=bx.mp hn;have ha:a∈ks:=h a (.head _);have:=ih (ks:=ks.erase a) hn.2 λx hx=>(List.mem_erase_of_ne (λe:x=a=>hn.1 (e▸hx))).mpr (h x (.tail _ hx));rw[List.length_erase_of_mem ha]at this;exact aW (cR this) (Nat.le_of_eq (Nat.succ_pred_eq_of_pos (List.length_pos_of_mem ha)))
theorem OP{h:Heap}{a:Addr}{m:Str->Option Value}{ks:List Str}(x:h.Ns1 a m)(hk:∀k,k∉ks->m k=none):∃o es ep,h.get? a=some o/\o.data=.dict es ep/\es.size<=ks.length:=by
 revert x;refine zC λo es ep ho hd hs hu hf=>?_;refine ⟨o,es,ep,ho,hd,?_⟩;have names:∀l:List DictEntry,(∀e∈l,e∈es.toList)->l.Pairwise (λa b=>∀n,a.key.isStr n=true->b.key.isStr n=true->False)->∃ns:List Str,ns.length=l.length/\ns.Nodup/\(∀n∈ns,∃e∈l,e.key.isStr n=true):=by
  intro l;induction l with
  | nil=>intro _ _;exact ⟨[],rfl,.nil,λZ h=>nomatch h⟩
  | cons e r ih=>
   intro hm hp;rw[bk]at hp;refine ja (ih (λe' he=>hm e' (.tail _ he)) hp.2) λns h1 h2 h3=>?_;refine iU (hs e (Array.mem_toList_iff.mp (hm e (.head _)))) λn t q=>?_;have hn:e.key.isStr n=true:=by rw[q];simp[Value.isStr]
   refine ⟨n::ns,by simp[h1],bx.mpr ⟨λhx=>?_,h2⟩,λk iX=>?_⟩
   ·refine bz (h3 n hx) λe' Eh iX=>?_;exact hp.1 e' Eh n hn iX
   ·(refine bu (aC.mp iX) (λcF=>?a) λiX=>?b;case' a=>obtain rfl:=cF)
    ·exact ⟨e,.head _,hn⟩
    ·(refine bz (h3 k iX) λe' Eh q'=>?_);exact ⟨e',.tail _ Eh,q'⟩
 refine ja (names es.toList (λZ h=>h) hu) λns h1 h2 h3=>?_;rw[<-aL,<-h1];refine OO h2 λn hn=>?_;refine bz (h3 n hn) λe he iX=>?_;by_cases q:n∈ks
 ·exact q
 ·exfalso;have hm:=hf n;rw[hk n q]at hm;unfold nsFind findBy at hm;rw[Option.map_eq_none_iff]at hm;rw[<-Array.find?_toList,List.find?_eq_none]at hm;exact hm e he iX
theorem Np:yN.all (λp=>Nat.ble p.2.length 100)=true:=by decide +kernel
theorem OQ(c:Nat):∃ks:List Str,ks.length<=100/\∀k,iV c k=true->k∈ks:=by
 have key:∀{t:List (Nat×List Str)},t.all (λp=>Nat.ble p.2.length 100)=true->∀{ks},qi t c=some ks->ks.length<=100:=by
  intro t;induction t with
  | nil=>intro _ ks e;exact aM e
  | cons p r ih=>
   intro h ks e;rw[bS,aI]at h;rcases p with ⟨k,v⟩
   refine mD (λZ e=>?_) (λZ e=>ih h.2 e) e;exists e;exact Nat.le_of_ble_eq_true h.1
 unfold iV;cases q:qi yN c with
 | none=>exact ⟨[],by simp,λk e=>by exact b7 e⟩
 | some ks=>exact ⟨ks,key Np q,λk e=>by simpa using e⟩
theorem Sd{a dd c:Addr}{o:Obj}{m:Str->Option Value}{k:Str}{v:Value}{tk:Tok}{RR:Result->Shared->Prop}(X:K.In s.heap)(ha:s.heap.get? a=some o)(hc:o.cls=.ref c)(hd:o.dict=some dd)(hn:notCls o=true)
  (hm:s.heap.Ns1 dd m) (p4:plainOver K c=true) (ht:takerIn K c k=some none) (p2:hasDictIn K c=true) (hf:iV c k=true) (hz:∀k,iV c k=false->m k=none)
  (q:∀h' tk,h'.Ns1 dd (λx=>if x=k then some v else m x)->Heap.SameBut dd s.heap h'->RR (.ok (.ret .none)) {s with heap:=h',toks:=tk}) :
  codeAny (model prog w) A (.call (.builtin "object.__setattr__") ⟨[.ref a,.str k tk,v],[]⟩) RR s:=by
 refine bz (yl hm.ns) λod tF Z=>?_;have I:InstAt s.heap a o c (some od):=⟨ha,hc,hn,by rw[hd];exact tF⟩;refine bz (any_some p2) λcd z6 Tz=>?_;refine osa_open X I p4 ht λb=>?_;rcases o with ⟨oc,Y7,Y8,Y9⟩
 dsimp only at hc hd;subst hc hd;refine av (aH (av (av (wpAny_loadPart ha (av ((looks_clsIn X z6).here ?_))))));rw[Tz];refine aH (a:=some dd) (av (aH (av (wpAny_nsSet1 hm λh' jx gJ=>?_))));refine bz (OQ c) λks m9 Ac=>?_;refine jN (OP (ks:=ks) jx λk' iX=>by
  have Ej:iV c k'=false:=by
   cases z:iV c k' with
   | false=>rfl
   | true=>exact absurd (Ac k' z) iX
  by_cases e:k'=k
  ·rw[e,hf]at Ej;injection Ej
  ·rw[au e];exact hz k' Ej) λo' es ep iW=>?_
 revert iW;refine mu λgI fG hsz=>?_;refine av (wpAny_lookBehind gI (by rw[fG];exact pastItsLine_dict (by rw[bT];lia)) ?_);exact aH (q h' _ jx gJ)
theorem Gi{a dd c:Addr}{o:Obj}{m:Str->Option Value}{k:Str}{v:Value}{Q:Unit->Shared->Prop}(cP:g9 P K h₀ mg mb)(iD:Ground h₀ g s.heap)(ha:s.heap.get? a=some o)(hc:o.cls=.ref c)(hd:o.dict=some dd)(hn:notCls o=true)
  (hm:s.heap.Ns1 dd m) (hf:iV c k=true) (hz:∀k,iV c k=false->m k=none)
  (q:∀h' tk,h'.Ns1 dd (λx=>if x=k then some v else m x)->Heap.SameBut dd s.heap h'->Q () {s with heap:=h',toks:=tk}):wpAny (model prog w) A (setAttr (.ref a) k v) Q br s:=by
 refine q9 (cP.fld c k hf) λp1 p2 p3 p4 p5=>?_;refine bz (yl hm.ns) λod tF Z=>?_;have X:=qN iD cP.X;have I:InstAt s.heap a o c (some od):=⟨ha,hc,hn,by rw[hd];exact tF⟩;have ht:takerIn K c k=some none:=by unfold takerIn;rw[p3];rfl
 exact set_plain X I p5 (Sd (s:={s with toks:=s.toks+1}) X ha hc hd hn hm p4 ht p2 hf hz λh' tk h1 h2=>q h' tk h1 h2)
theorem rO{K:Type}[DecidableEq K](k k':K)(v:Value)(r:List (K×Value)):valueAt ((k,v)::r) k'=if k=k' then some v else valueAt r k':=by
 unfold valueAt;rw[List.find?_cons];by_cases q:k=k'
 ·simp[q]
 ·simp[q]
theorem LK{K:Type}[DecidableEq K](k k':K)(v:Value)(kvs:List (K×Value)):valueAt (kvs.map λkv=>if kv.1=k then (kv.1,v) else kv) k'=if k'=k then (if kvs.any (λkv=>kv.1=k) then some v else none) else valueAt kvs k':=by
 induction kvs with
 | nil=>by_cases q:k'=k<;>simp[valueAt,q]
 | cons p r ih=>
  rw[bP,dF];by_cases hz:p.1=k
  ·rw[aq hz,aa hz,Bool.true_or,aq rfl,rO,rO,ih,hz];by_cases q:k=k'
   ·rw[aq q,aq q.symm]
   ·rw[au q,au λe=>q e.symm,au λe=>q e.symm,au q]
  ·rw[au hz,ao hz,dK,rO,rO,ih];by_cases q:p.1=k'
   ·rw[aq q,au λe=>hz (q.trans e),aq q]
   ·rw[au q,au q]
theorem Lk{K:Type}[DecidableEq K](k k':K)(v:Value)(kvs:List (K×Value)):kvs.any (λkv=>kv.1=k)=false->valueAt (kvs++[(k,v)]) k'=if k'=k then some v else valueAt kvs k':=by
 induction kvs with
 | nil=>
  intro Z;rw[List.nil_append,rO];by_cases q:k=k'
  ·rw[aq q,aq q.symm]
  ·rw[au q,au λe=>q e.symm]
 | cons p r ih=>
  intro h;have h:=Bool.or_eq_false_iff.mp h;rw[List.cons_append,rO,ih h.2,rO];by_cases q:p.1=k'
  ·rw[aq q,aq q,au λe=>of_decide_eq_false h.1 (q.trans e)]
  ·rw[au q,au q]
theorem K5{K:Type}[DecidableEq K](kvs:List (K×Value))(k k':K)(v:Value):valueAt (stored kvs k v) k'=if k'=k then some v else valueAt kvs k':=by
 unfold stored;by_cases h:kvs.any (λkv=>kv.1=k)=true
 ·rw[aq h,LK,aq h]
 ·rw[au h,Lk _ _ _ _ (Bool.eq_false_iff.mpr h)]
inductive pR(cx:Ctx)(env:Env)(cv:Str->Addr)(g₀:G)(σ₀:eN)(s₀:Shared)(st':St)(s':Shared):Prop
 | mk (g':G):Step env.locals cx.ro cx.rb g₀ σ₀ s₀ g' st'.aD s'->Rel cx env cv g' st' s'->pR cx env cv g₀ σ₀ s₀ st' s'
theorem pR.el{cx:Ctx}{env:Env}{cv:Str->Addr}{g₀:G}{σ₀:eN}{s₀:Shared}{st':St}{s':Shared}{G:Prop}(p:pR cx env cv g₀ σ₀ s₀ st' s')
  (k:∀g',Step env.locals cx.ro cx.rb g₀ σ₀ s₀ g' st'.aD s'->Rel cx env cv g' st' s'->G):G:=p.casesOn k
def Ready(cx:Ctx)(env:Env)(cv:Str->Addr)(g₀:G)(σ₀:eN)(s₀:Shared)(g:G)(st st':St)(s:Shared)(n:Nat)(k:Str)(v:Value):Prop:=
 ∃x σ' bM b,setSlot st.aD n k x=some σ'/\st'={st with aD:=σ'}/\bM.ι=g.ι/\Step env.locals cx.ro cx.rb g₀ σ₀ s₀ bM st.aD s/\Rel cx env cv bM st s/\(cx.rb=true\/b=bM.cs n k)/\
  ∀h' d,bM.ρ d=.dict n->Heap.SameBut d s.heap h'->lB (bM.oj n k b) h' n k x v
theorem vE{k:Str}{v:Value}{V:MV}{σ':eN}{b:Addr}(R:Rel cx env cv g st s)(rv:RV g s.heap v V)(S:Step env.locals cx.ro cx.rb g₀ σ₀ s₀ g st.aD s)(ng:setSlot st.aD n k (.v V)=some σ')(hb:cx.rb=true\/b=g.cs n k) :
  Ready cx env cv g₀ σ₀ s₀ g st {st with aD:=σ'} s n k v:=by
 refine ⟨.v V,σ',g,b,ng,rfl,rfl,S,R,hb,λh' d hd hs=>?_⟩;exact (oZ (g:=g) hs (by rw[hd];exact dS rfl)).v rv
theorem Gj{k:Str}{a:EV}{v:Value}{lo:Heap}(R:Rel cx env cv g st s)(E:fc env cx.ro cv lo g s.heap a v)(S:Step env.locals cx.ro cx.rb g₀ σ₀ s₀ g st.aD s)(hl:∀b o,s₀.heap.get? b=some o->∃o',lo.get? b=some o')(e:lO cx st n k a=some st') :
  cx.ro=false/\vX st.aD n k=true/\Ready cx env cv g₀ σ₀ s₀ g st st' s n k v:=by
 skip;revert e;refine jv λhc e=>?_;simp only[Bool.or_eq_true,not_or,Bool.not_eq_true,Bool.not_eq_true']at hc;revert hc;refine gj λgg gn=>?_;refine ⟨gg,by simpa using gn,?_⟩;induction a using EV.casesOn with
 | val V=>
  have E:RV g s.heap v V:=E;cases q:getSlot st.aD n k with
  | none=>
   rw[q]at e;dsimp only at e;split at e
   ·rename_i gF;revert e;refine eZ λσ' h1 gw=>?_;subst gw;exact vE (b:=0) R E S h1 (.inl gF)
   ·exact aM e
  | some y=>
   rw[q]at e;induction y using eO.casesOn with
   | v W=>revert e;refine eZ λσ' h1 gw=>?_;subst gw;exact vE (b:=g.cs n k) R E S h1 (.inr rfl)
   | c W=>
    dsimp only at e;split at e
    ·rename_i gF;revert e;refine eZ λσ' h1 gw=>?_;subst gw;exact vE (b:=0) R E S h1 (.inl gF)
    ·exact aM e
 | fresh V=>
  have E:fW lo g s.heap V v:=E;dsimp only at e;revert e;refine dG λgF e=>?_;revert e;refine eZ λσ' h1 gw=>?_;subst gw;have cont:∀{W:MV},ly W=true->uu W=false->fW lo g s.heap W v->setSlot st.aD n k (.c W)=some σ'->Ready cx env cv g₀ σ₀ s₀ g st {st with aD:=σ'} s n k v:=by
   intro W hc hi T ng;refine ji (T.cont hc) λb dP h1 h2 c=>?_;obtain rfl:=dP;have tS:mS s₀.heap W b:=h1.old hl;have c₁:=c.tag (.cont n k) (by rw[h2];exact dS rfl);refine ⟨.c W,σ',g.tag W b (.cont n k),b,ng,rfl,rfl,S.tag tS _,R.tag c h2 _,.inl gF,λh' d hd hs=>⟨by rw[G.yh],by rw[G.yh];exact n5 ..,?_⟩⟩;rw[G.yh];have Ek:b≠d:=λq=>by rw[<-q,n5]at hd;injection hd
   exact c₁.re hi ((oZ (g:=g.tag W b (.cont n k)) hs (by rw[hd];exact dS rfl)).trans Od) λo q=>(hs.2 b Ek).trans q
  induction V using MV.casesOn with
  | lst xs=>exact cont rfl rfl E h1
  | bO xs=>exact cont rfl rfl E h1
  | inst ci fs=>
   refine ji (fW.cont E rfl) λb dP h2 h3 c=>?_;obtain rfl:=dP;have tS:mS s₀.heap (.inst ci fs) b:=h2.old hl;have nf:g.ρ b≠.frozen:=by rw[h3];exact dS rfl
   refine UT (vE (b:=0) (R.tag c h3 .frozen) ((c.tag .frozen nf).frozen (n5 ..) rfl) (S.tag tS .frozen) h1 (.inl gF)) λx JG bM uX y1 y2 y3 y4 y5 y6 y7=>?_;exact ⟨x,JG,bM,uX,y1,y2,y3,y4,y5,y6,y7⟩
  | _=>exact vE (b:=0) R (fW.plain E rfl) S h1 (.inl gF)
 | _=>exact aM e
theorem Mw{k:Str}{o:kR}{c:Addr}(h:vX σ n k=true)(ho:σ[n]?=some o)(hc:o.cls=some c)(af:∀k,iV c k=false->look o.fs k=none):iV c k=true:=by
 unfold vX at h;rw[ho]at h;dsimp only at h;rw[hc]at h;cases q:look o.fs k with
 | none=>rw[q]at h;exact h
 | some x=>exact IB af q
theorem Gk{k:Str}{a:EV}{v:Value}{lo:Heap}{x:Value}{c:Addr}(cP:g9 P K h₀ mg mb)(R:Rel cx env cv g st s)(E:fc env cx.ro cv lo g s.heap a v)(S:Step env.locals cx.ro cx.rb g₀ σ₀ s₀ g st.aD s)(hl:∀b o,s₀.heap.get? b=some o->∃o',lo.get? b=some o')
  (hx:RV g s.heap x (.obj n)) (hc:(st.aD[n]?).map (·.cls)=some (some c)) (e:lO cx st n k a=some st') :
  wpAny (model prog w) A (setAttr x k v) (λZ s'=>pR cx env cv g₀ σ₀ s₀ st' s') br s:=by
 refine eg (Gj R E S hl e) λgg gn xe=>?_;revert xe;refine Jr λy σ' bM b ng Dr Ds bR bL gF Cx=>?_;obtain rfl:=Dr;induction (bh.inv hx) using qw.casesOn with
 | @obj oa j5=>
 revert hc;refine eZ λpo kC Dt=>?_;refine bz (bL.aD.obj kC) λCy sf ob=>?_;have El:Cy=oa:=by rw[Ds,j5]at sf;exact (aY sf).symm
 subst El;cases (ob) with
 | @inst c' o m fs a1 a2 a3 a4 a5 a6 a7 af SL=>
  have hf:iV c' k=true:=Mw gn kC rfl af;refine Gi cP bL.ground a3 a4 a5 a6 a7 hf (λk' q=>SL.none (af k' q)) λh' tk jx gJ=>?_;refine cu (F7 (rb:=cx.rb) (v:=v) (tk:=tk) bL gg kC sf gJ (nF jx.ns) gF ng a2 λhk xK=>
   .inst a1 a2 (xK a1 _ a3) a4 a5 a6 jx (λk' q=>by
    rw[nZ,au (λe=>by rw[e,q]at hf;exact b7 hf)];exact af k' q)
    (SL.put hk (λk' jd=>au jd) (aq rfl) (Cx h' _ a2 gJ))) λbY b8=>?_
  exact ⟨_,bR.trans bY,b8⟩
 | dict a1 a2 a3 SL=>exact aM Dt
theorem Gl{k:Str}{t:Tok}{a:EV}{v:Value}{lo:Heap}{x:Value}(R:Rel cx env cv g st s)(E:fc env cx.ro cv lo g s.heap a v)(S:Step env.locals cx.ro cx.rb g₀ σ₀ s₀ g st.aD s)(hl:∀b o,s₀.heap.get? b=some o->∃o',lo.get? b=some o')
  (hx:RV g s.heap x (.obj n)) (hc:(st.aD[n]?).map (·.cls)=some none) (e:lO cx st n k a=some st') :
  wpAny (model prog w) A (setItem x (.str k t) v) (λZ s'=>pR cx env cv g₀ σ₀ s₀ st' s') br s:=by
 refine eg (Gj R E S hl e) λgg gn xe=>?_;revert xe;refine Jr λy σ' bM b ng Dr Ds bR bL gF Cx=>?_;obtain rfl:=Dr;induction (bh.inv hx) using qw.casesOn with
 | @obj oa j5=>
 revert hc;refine eZ λpo kC Dt=>?_;refine bz (bL.aD.obj kC) λCy sf ob=>?_;have El:Cy=oa:=by rw[Ds,j5]at sf;exact (aY sf).symm
 subst El;cases (ob) with
 | inst a1 a2 a3 a4 a5 a6 a7 af SL=>injection Dt
 | @dict kvs fs a1 a2 a3 SL a5=>
  have hk:∃z,look fs k=some z:=by
   unfold vX at gn;rw[kC]at gn;dsimp only at gn;cases q:look fs k with
   | none=>rw[q]at gn;exact b7 gn
   | some z=>exact ⟨z,rfl⟩
  revert hk;refine gh λz hz=>?_;refine bz (SL.get hz) λu hu Z=>?_;rw[a1];refine wpAny_setItem_pairs (knd:=PySem.strKind prog w) (strKind_is prog w k t) a3 (λh' jx gJ=>?_) (by rw[bT];lia);have Du:kvs.any (λkv=>kv.1=k)=true:=by skip;revert hu;refine eZ λp hp Z=>?_;rw[cE];exact ⟨p,cW hp,List.find?_some (p:=λ(kv:Str×Value)=>decide (kv.1=k)) hp⟩
  have dj:∀k',valueAt (stored kvs k v) k'=if k'=k then some v else valueAt kvs k':=λk'=>K5 kvs k k' v
  have hlen:(stored kvs k v).length=kvs.length:=by unfold stored;rw[aq Du,aj]
  refine cu (F7 (rb:=cx.rb) (v:=v) (tk:=s.toks+1) bL gg kC sf gJ (qM jx) gF ng a2 λhk xK=>
   .dict a1 a2 jx (SL.put hk (λk' jd=>by rw[dj,au jd]) (by rw[dj,aq rfl]) (Cx h' _ a2 gJ)) (by rw[hlen];exact a5)) λbY b8=>?_
  exact ⟨_,bR.trans bY,b8⟩
theorem LL{K:Type}[DecidableEq K](k':K)(v':Value)(r:List (K×Value))(k:K)(v:Value):stored ((k',v')::r) k v=if k'=k then (k',v)::r.map (λkv=>if kv.1=k then (kv.1,v) else kv) else (k',v')::stored r k v:=by
 unfold stored;by_cases q:k'=k
 ·subst q;simp
 ·simp only[List.any_cons,q,decide_false,Bool.false_or,if_false,List.map_cons,List.cons_append];split<;>rfl
theorem OR{K:Type}[DecidableEq K](k:K)(v:Value)(r:List (K×Value)):k∉r.map (·.1)->r.map (λkv=>if kv.1=k then (kv.1,v) else kv)=r:=by
 induction r with
 | nil=>exact λ_=>rfl
 | cons p r ih=>intro h;have h:=not_or.mp λq=>h (aC.mpr q);rw[bP,au (λe=>h.1 e.symm),ih h.2]
theorem Gm{K:Type}[DecidableEq K]{iS:K->MV}(w6:∀a b,MV.beq (iS a) (iS b)=decide (a=b)){k:K}{v:Value}{V:MV}(rv:RV g h v V){kvs:List (K×Value)}{es:List (MV×MV)}(r:jO g h iS kvs es):(kvs.map (·.1)).Nodup->
  jO g h iS (stored kvs k v) (iy es (iS k) V):=by
 induction r with
 | nil=>exact λ_=>.cons rv .nil
 | @cons k' _ _ kvs _ x r ih=>
  intro hn;have hn:=bx.mp hn;rw[LL,Fx,w6];by_cases q:k'=k
  ·subst q;rw[aq rfl,aq (aa rfl),OR k' v kvs hn.1];exact .cons rv r
  ·rw[au q,au (λz=>q (ai z))];exact .cons x (ih hn.2)
theorem LM{K:Type}[DecidableEq K]{k:K}{v:Value}{kvs:List (K×Value)}{p:K×Value}(hp:p∈stored kvs k v):p.1=k\/∃q∈kvs,q.1=p.1:=by
 unfold stored at hp;split at hp
 ·refine bz (aN.mp hp) λq hq e=>?_;refine .inr ⟨q,hq,?_⟩;subst e;split<;>rfl
 ·(refine bu (bX.mp hp) (λhp=>?_) λhp=>?_)
  ·exact .inr ⟨p,hp,rfl⟩
  ·rw[aA.mp hp];exact .inl rfl
theorem OT{l:Addr}{items:Array Value}{e:Nat}{t:Tok}{v:Value}{Q:Unit->Shared->Prop}(ho:s.heap.get? l=some {cls:=.type "list",data:=.seq items e})(w7:0<items.size)
  (q:∀h',h'.PlainList l (items.setIfInBounds (items.size-1) v)->Heap.SameBut l s.heap h'->Q () {s with heap:=h'}):wpAny (model prog w) A (setItem (.ref l) (.int (-1) t) v) Q br s:=by
 have hl:s.heap.IsList l items:=⟨_,ho,rfl,e,rfl⟩;unfold setItem
 try with_reducible refine eB ?_
 first | refine av (aH ?_) | skip
 refine av (wpAny_sequenceKey hl.typeIs (by decide) ?_);refine av (wpAny_callSpecial?_slot (name:=Str.ofString "__setitem__") hl.typeIs slot_list_setitem
  (wpAny_call_entry slot_list_setitem hl.typeIs entry_list_setitem ?_ (args_list_setitem _ _ _)))
 show wpAny _ _ (Builtin.List.listSubscript? (.int (-1) t) >>= _) _ _ s;refine av (wpAny_listSubscript_int (fitsIndex_neg (by decide) (by decide)) ?_);have JL:=seqIndex_neg (k:=-1) (n:=items.size) (by decide) (by lia);have hj:((-1:Int)+(items.size:Int)).toNat=items.size-1:=by lia
 rw[hj]at JL;have hx:items[items.size-1]?=some items[items.size-1]:=Array.getElem?_eq_getElem (by lia);show wpAny _ _ ((Builtin.List.listItems (.ref l) >>= λxs=>pure ((seqIndex? (Int.negSucc 0) xs.size).bind λi=>xs[i]?.map (i,·))) >>= _) _ _ s;refine av (av ?_);show wpAny _ _ (seqItems? (.ref l) >>= _) _ _ s;refine av (wpAny_seqItems ho rfl (aH (aH ?_)));have TA:seqIndex? (Int.negSucc 0) items.size=some (items.size-1):=JL;rw[TA];simp only[Option.bind_some,hx,Option.map_some];show wpAny _ _ (setSeqItemAt l (items.size-1) v >>= _) _ _ s;have hq:=PySem.IsL.update ho (λx=>x.setIfInBounds (items.size-1) v);refine av (wpAny_setSeqItemAt ho rfl ?_)
 first
  | exact av (aH (aH ⟨.none,rfl,aH (q _ ⟨_,hq⟩ (Heap.SameBut.update ..))⟩))
  | exact aH ⟨.none,rfl,aH (q _ ⟨_,hq⟩ (Heap.SameBut.update ..))⟩
theorem Ll{k':MV}{a':Addr}{v':Value}{r:List (MV×Addr×Value)}{k:MV}{a:Addr}{v:Value}(hn:k'∉r.map (·.1)):storedH ((k',a',v')::r) k a v=if k'=k then (k',a',v)::r else (k',a',v')::storedH r k a v:=by
 have z5:atKey ((k',a',v')::r) k=if k'=k then some (a',v') else atKey r k:=by
  unfold atKey;rw[List.find?_cons];by_cases q:k'=k
  ·simp[q]
  ·simp[q]
 unfold storedH;rw[z5];by_cases q:k'=k
 ·subst q;have same:∀(l:List (MV×Addr×Value)),k'∉l.map (·.1)->l.map (putAt k' v)=l:=by
   intro l;induction l with
   | nil=>intro _;rfl
   | cons x t ih=>intro h;rw[bP,aC,not_or]at h;rw[bP,ih h.2];unfold putAt;rw[au (λe=>h.1 e.symm)]
  rw[aq rfl,aq rfl];show (if (some (a',v')).isSome=true then _ else _)=_;rw[aq (show (some (a',v')).isSome=true from rfl),bP,same r hn];unfold putAt;rw[aq rfl]
 ·rw[au q,au q];split
  ·rw[bP];unfold putAt;rw[au q]
  ·rfl
theorem OU{k:MV}{a:Addr}{v:Value}{V:MV}(hk:MV.key 6 k=true)(ht:∃ys,k=.tup ys)(ra:RV g h (.ref a) k)(rv:RV g h v V){xs:List (MV×Addr×Value)}{es:List (MV×MV)}(r:nQ g h xs es):(xs.map (·.1)).Nodup->
  nQ g h (storedH xs k a v) (iy es k V):=by
 induction r with
 | nil=>exact λ_=>.cons hk ht ra rv .nil
 | @cons k' _ _ _ _ _ iX Ad Kh ve r ih=>
  intro hn;have hn:=bx.mp hn;rw[Ll hn.1,Fx];have e:=beq_iff 6 k' k (ud 6 _ iX);by_cases q:k'=k
  ·subst q;rw[aq rfl,aq (e.mpr rfl)];exact .cons iX Ad Kh rv r
  ·rw[au q,au (λz=>q (e.mp z))];exact .cons iX Ad Kh ve (ih hn.2)
theorem LN{xs:List (MV×Addr×Value)}{es:List (MV×MV)}(r:nQ g h xs es):xs.length=es.length:=by
 induction r with
 | nil=>rfl
 | cons _ _ _ _ _ ih=>exact bf (·+1) ih
theorem qb{b:Addr}{es:List (MV×MV)}{kk V:MV}{kv v:Value}(hu:A.units+99<cLine)(c:dM g s.heap b (.bO es))(hf:g.ρ b≠.frozen)(hk:gE es kk=true)(hlen:es.length<bE)(rk:RV g s.heap kv kk)(rv:RV g s.heap v V) :
  wpAny (model prog w) A (setItem (.ref b) kv v) (λZ s'=>∃h' tk,s'={s with heap:=h',toks:=tk}/\Heap.SameBut b s.heap h'/\dM g h' b (.bO (iy es kk V))) br s:=by
 have hL:bE=1048576:=rfl;rcases yk (pZ hk) with ⟨i,rfl⟩ | ⟨z,rfl⟩ | ⟨ys,rfl⟩
 ·induction (bh.inv rk) using gR.casesOn with
  | int t=>
  refine cu (r5 c hk) λsV bZ=>?_;revert bZ;refine gp λkvs D r=>?_;have hl:=AJ r;refine wpAny_setItem_pairs (intKind_is prog w i t) D (λh' jx gJ=>⟨h',_,rfl,gJ,?_⟩) (by rw[bT];lia);have up:=oZ (g:=g) gJ hf;revert D;refine uT λZ Z Z Z Z Z Z Z nd=>?_;exact .lK sV jx (Gm yD (up.v rv) (up.p r) nd)
 ·induction (bh.inv rk) using iR.casesOn with
  | str t gn=>
  refine cu (vR c hk) λsV cY=>?_;revert cY;refine gz λkvs m9 D r=>?_;have hl:=AJ r;refine wpAny_setItem_pairs (strKind_is prog w z t) D (λh' jx gJ=>⟨h',_,rfl,gJ,?_⟩) (by rw[bT];lia);have up:=oZ (g:=g) gJ hf;revert D;refine uT λZ Z Z Z Z Z Z Z nd=>?_;refine .mw sV (λp hp=>?_) jx (Gm yE (up.v rv) (up.p r) nd);refine bu (LM hp) (λe=>?Xo) λgk=>?Xp;(case' Xp=>(refine bz gk λq hq e=>?_));(case' Xo=>(skip))
  ·rw[e];exact gn
  ·rw[<-e];exact m9 q hq
 ·refine cu (yG c hk) λsV bZ=>?_;revert bZ;refine gp λxs D r=>?_;have Xq:=rk;induction (bh.inv rk) using jj.casesOn with
  | @tup a o vs n i1 i2 i3 i4 i5=>
  have hl:=LN r;refine wpAny_setItem_heap (knd:=tupK) (show A.in1.units+8<cLine by show A.units+1+8<cLine;lia) (yF (pZ hk) (.tup i1 i2 i3 i4 i5)) (vI D r) (λh' jx gJ=>⟨h',_,rfl,gJ,?_⟩) (by rw[bT];lia);have up:=oZ (g:=g) gJ hf;revert D;refine zC λZ Z Z Z Z Z Z nd=>?_;revert jx;refine uT λo' en ep q1 q2 q3 q4 q5 q6=>?_;exact .mz sV ⟨o',en,ep,q1,q2,q3,q4,q6⟩ (OU (pZ hk) ⟨ys,rfl⟩ (up.v Xq) (up.v rv) (up.k r) nd)
variable {uK:St}
theorem Fq{a:EV}{Y:MV}{y:Value}{lo:Heap}(R:Rel cx env cv g st s)(E:fc env cx.ro cv lo g s.heap a y)(hl:∀b o,s₀.heap.get? b=some o->∃o',lo.get? b=some o')(e:jB a=some Y)(S:Step f ro rb g₀ σ₀ s₀ g st.aD s) :
  ∃g',Step f ro rb g₀ σ₀ s₀ g' st.aD s/\Rel cx env cv g' st s/\RV g' s.heap y Y/\Up g s.heap g' s.heap/\g'.cs=g.cs/\g'.ι=g.ι:=by
 induction a using EV.casesOn with
 | val V=>exists e;exact ⟨g,S,R,E,.refl,rfl,rfl⟩
 | fresh V=>
  simp only[jB]at e;split at e
  ·rename_i hc;exists e;refine UQ (AI R E hc S hl) λg' S' R' rv u c1 c2 Z=>?_;exact ⟨g',S',R',rv,u,c1,c2⟩
  ·exact aM e
 | _=>exact aM e
theorem ER{k:Str}{a:EV}(e:lO cx st n k a=some st'):rY a=false:=by
 induction a using EV.casesOn with
 | cont l=>
  unfold lO at e;split at e
  ·exact aM e
  ·exact aM e
 | _=>rfl
theorem E4{a:EV}{V:MV}(e:jB a=some V):rY a=false:=by
 induction a using EV.casesOn with
 | cont l=>exact aM e
 | _=>rfl
theorem Nq{l:Loc}{v:Value}{lo:Heap}(E:fc env ro cv lo g h (.cont l) v)(h1:g'.cs=g.cs)(h2:g'.ι=g.ι):fc env ro cv lo g' h' (.cont l) v:=by
 induction l using Loc.casesOn with
 | var x=>exact E
 | slot n k=>exact ⟨by rw[h1];exact E.1,by rw[h2];exact E.2⟩
theorem OV{vs:List Value}{xs:List MV}{i:Nat}{v:Value}{V:MV}(r:RL g h vs xs)(rv:RV g h v V):RL g h (vs.set i v) (xs.set i V):=
 dR.ind (P:=λvs xs=>∀i,RL g h (vs.set i v) (xs.set i V)) (λZ=>.nil) (λZ Z Z Z x r ih i=>by
  induction i using aae with
  | zero=>exact .cons rv r
  | succ i=>exact .cons x (ih i)) r i
set_option tactic.hygienic true in
theorem LO{o:Expr}{k:Str}{a:EV}{v:Value}{lo:Heap}(cP:g9 P K h₀ mg mb)(SE:fT ev n d)(r:dm A n d)(hh:A.handled=none)(R:Rel cx env cv g st s)(E:fc env cx.ro cv lo g s.heap a v)
  (S:Step env.locals cx.ro cx.rb g₀ uK.aD s₀ g st.aD s) (hl:∀b o,s₀.heap.get? b=some o->∃o',lo.get? b=some o') (e:GN ev cx o k a st=some st') :
  wpAny (model prog w) A (eval o env) (λov bq=>wpAny (model prog w) A (setAttr ov k v) (λZ s₂=>pR cx env cv g₀ uK.aD s₀ st' s₂) br bq) br s:=by
 revert e;refine eG λb aP e1 e=>?_;induction b using EV.casesOn with
 | val W=>
  induction W using MV.casesOn with
  | obj n'=>
   revert e;refine cN λc hc e=>?_;have hc:(aP.aD[n']?).map (·.cls)=some (some c):=by revert hc;refine cN λo ho hc=>?_;rw[ho,<-hc];rfl
   refine wm (SE r hh e1 R) (λov bq pq=>?_);refine pq.el λbM bR bL cj=>?_;clear pq;exact Gk cP bL (E.step bR R.aD.len (.inl (ER e))) (S.trans bR) hl cj hc e
  | _=>exact aM e
 | cont l=>
  induction l using Loc.casesOn with
  | slot=>exact aM e
  | var y=>
   revert e;refine cN λW hd e=>?_;revert e;refine cN λV om e=>?_;induction W using MV.casesOn<;>try exact aM e
   rename_i c fs;revert e;refine dG λhf e=>?_;refine wm (SE r hh e1 R) (λov bq pq=>?_);refine pq.el λbM bR bL cj=>?_;clear pq;refine Js (Fq bL (E.step bR R.aD.len (.inl (E4 om))) hl om (S.trans bR)) λbW bY b8 rv u c1 c2=>?_;have gD:fc env cx.ro cv lo bW bq.heap (.cont (.var y)) ov:=cj;refine ji (pY b8 gD hd) λbb dP cc hb hr=>?_;obtain rfl:=dP;revert e;refine jv λdJ e=>?_;have hx:=AW hd;rw[hx]at e;exists e;refine eg (qa gD.2) λk1 k2 k3=>?_;cases (cc) with
   | @inst dd _ oo m vf _ i1 i2 i3 i4 i5 i6 i7 ef n1 n2 rr=>
    refine Gi cP b8.ground i3 i4 i5 i6 i7 hf (λk' q=>n1 k' (ef k' q)) λh' tk jx gJ=>?_;have Ek:bb≠dd:=by rw[i1];exact Nat.succ_ne_self _
    have up:=oZ (g:=bW) gJ (by rw[i2,hr];exact dS rfl);have VA:dM bW h' bb (.inst c (put fs k V)):=by
     refine .inst (vf:=λz=>if z=k then v else vf z) i1 i2 ((gJ.2 bb Ek).trans i3) i4 i5 i6 jx (λk' q=>?_) (λk' q=>?_) (λk' W q=>?_) (λk' W q=>?_)
     ·rw[nZ,au (λz=>by rw[z,q]at hf;exact b7 hf)];exact ef k' q
     ·rw[nZ]at q;by_cases z:k=k'
      ·rw[aq z]at q;injection q
      ·rw[au z]at q;rw[au (λw=>z w.symm)];exact n1 k' q
     ·rw[nZ]at q;by_cases z:k=k'
      ·rw[aq z.symm,aq z.symm]
      ·rw[au z]at q;rw[au (λw=>z w.symm),au (λw=>z w.symm)];exact n2 k' W q
     ·rw[nZ]at q;by_cases z:k=k'
      ·rw[aq z]at q;exists q;rw[aq z.symm];exact up.v rv
      ·rw[au z]at q;rw[au (λw=>z w.symm)];exact up.v (rr k' W q)
    refine cu (set_own (rb:=cx.rb) (tk:=tk) (V:=.inst c (put fs k V)) b8 (by simpa using dJ) hx k1 k2 k3 gJ (i2.trans hr) (nF jx.ns) (by rw[<-hb];exact VA)) λgu gA=>?_;exact ⟨bW,bY.trans gu,gA⟩
 | _=>exact aM e
theorem OW{cx:Ctx}{a b j:EV}{G:Prop}(k1:∀n k,b=.val (.obj n)->j=.val (.str k)->(st.aD[n]?).map (·.cls)=some none->lO cx st n k a=some st'->G)
  (k2:∀l J c V,b=.cont l->j=.val J->fZ st l=some c->jB a=some V->setC cx st l J V c=some st'->G) (e:setAt cx a st b j=some st'):G:=by
 induction b using EV.casesOn with
 | val B=>
  induction B using MV.casesOn with
  | obj n=>
   induction j using EV.casesOn with
   | val J=>
    induction J using MV.casesOn with
    | str k=>
     have e:(match (st.aD[n]?).map (·.cls) with
      | some none=>lO cx st n k a
      | _=>none)=some st':=e
     cases hc:(st.aD[n]?).map (·.cls) with
     | none=>rw[hc]at e;exact aM e
     | some oc=>
      rw[hc]at e;induction oc using aab with
      | some c=>exact aM e
      | none=>exact k1 n k rfl rfl hc e
    | _=>exact aM e
   | _=>exact aM e
  | _=>exact aM e
 | cont l=>
  induction j using EV.casesOn with
  | val J=>exact cN (λc hc e=>cN (λV hV e=>k2 l J c V rfl rfl hc hV e) e) e
  | _=>exact aM e
 | _=>exact aM e
theorem QF{cx:Ctx}{l:Loc}{J V c:MV}{G:Prop}(k1:∀es,c=.bO es->gE es J=true->es.length<bE->iZ cx st l (.bO (iy es J V))=some st'->G)
  (k2:∀xs,c=.lst xs->J=.int (-1)->xs.isEmpty=false->xs.length<bE->iZ cx st l (.lst (xs.set (xs.length-1) V))=some st'->G) (e:setC cx st l J V c=some st'):G:=by
 induction c using MV.casesOn with
 | bO es=>refine dG (λh e=>?_) e;rw[aI,aK]at h;exact k1 es rfl h.1 h.2 e
 | lst xs=>
  induction J using MV.casesOn with
  | int i=>refine dG (λh e=>?_) e;rw[aI,aI,aK,aK,Bool.not_eq_true']at h;exact k2 xs rfl (bf MV.int h.1.1) h.1.2 h.2 e
  | _=>exact aM e
 | _=>exact aM e
theorem Sf{lo:Heap}{l:Loc}{J V c:MV}{ov iv v:Value}{A:Around}(hu:A.units+99<cLine)(R:Rel cx env cv g st s)(Eo:fc env cx.ro cv lo g s.heap (.cont l) ov)(Ei:RV g s.heap iv J)(rv:RV g s.heap v V)(S:Step env.locals cx.ro cx.rb g₀ σ₀ s₀ g st.aD s)
  (hc:fZ st l=some c) (e:setC cx st l J V c=some st'):wpAny (model prog w) A (setItem ov iv v) (λZ s'=>pR cx env cv g₀ σ₀ s₀ st' s') br s:=by
 refine ja (ym R Eo hc) λbb cY cc Kl=>?_;obtain rfl:=cY;revert e;refine QF (λes q h1 h2 e4=>?_) (λxs q h1 h2 h3 e4=>?_)
 ·subst q;refine wm (qb hu cc Kl h1 h2 Ei rv) (λZ gq h3=>?_);revert h3;refine Jq λh' tk cY gJ D5=>?_;obtain rfl:=cY;refine cu (vJ (tk:=tk) R Eo rfl hc e4 gJ D5) λkT lY=>?_;exact ⟨g,S.trans kT,lY⟩
 ·subst q h1;refine bz cc.zK λvs bZ rl=>?_;revert bZ;refine gh λep ho=>?_;have hn:=jf rl;rw[aL]at hn;(induction (bh.inv Ei) using gR.casesOn;clear Ei);refine OT ho (by rw[hn];exact List.length_pos_iff.mpr (λz=>by rw[z]at h2;exact nomatch h2)) λh' fh gJ=>?_;have up:=oZ (g:=g) gJ Kl;refine cu (vJ (tk:=s.toks) R Eo rfl hc e4 gJ (.lst fh (by rw[Array.toList_setIfInBounds,hn];exact OV (up.l rl) (up.v rv)))) λkT lY=>?_;exact ⟨g,S.trans kT,lY⟩
theorem Mx{o i:Expr}{a:EV}{v:Value}{lo:Heap}(SE:fT ev n d)(SI:gW ev)(r:dm A n d)(hh:A.handled=none)(R:Rel cx env cv g st s)(E:fc env cx.ro cv lo g s.heap a v)
  (S:Step env.locals cx.ro cx.rb g₀ uK.aD s₀ g st.aD s) (hl:∀b o,s₀.heap.get? b=some o->∃o',lo.get? b=some o') (e:HB ev cx o i a st=some st') :
  wpAny (model prog w) A (eval o env) (λov bq=>wpAny (model prog w) A (eval i env) (λiv s₂=>wpAny (model prog w) A (setItem ov iv v) (λZ gq=>pR cx env cv g₀ uK.aD s₀ st' gq) br s₂) br bq) br s:=by
 revert e;refine eG λb aP e1 e=>?_;revert e;refine dG λAe e=>?_;revert e;refine eG λj eH e2 e=>?_;have hb:blocks b i=false:=by induction b using EV.casesOn<;>first | rfl | exact bf not Ae
 refine wm (two SE SI r hh R e1 hb e2) (λov bq h1=>wm h1 (λiv s₂ h2=>?_));revert h2;refine ow λbW bY b8 Eo Ei=>?_;revert e;refine OW (λn' k q1 q2 hc e=>?_) (λl J c V q1 q2 hc om e=>?_)
 ·subst q1 q2;have Ei:RV bW s₂.heap iv (.str k):=Ei;(induction (bh.inv Ei) using iR.casesOn;clear Ei);exact Gl b8 (E.step bY R.aD.len (.inl (ER e))) (S.trans bY) hl Eo hc e
 ·subst q1 q2;refine Js (Fq b8 (E.step bY R.aD.len (.inl (E4 om))) hl om (S.trans bY)) λjk gu gA rv u c1 c2=>?_;exact Sf r.u gA (Nq Eo c1 c2) (u.v Ei) rv gu hc e
def putAll(loc:List (Str×LV))(ps:List (Str×MV)):List (Str×LV):=ps.foldl (λl p=>put l p.1 (.v p.2)) loc
theorem AF{z:Str}{ps:List (Str×MV)}:∀{loc:List (Str×LV)},z∉ps.map (·.1)->look (putAll loc ps) z=look loc z:=by
 induction ps with
 | nil=>exact λ_=>rfl
 | cons p r ih=>intro loc h;have h:=not_or.mp λq=>h (aC.mpr q);show look (putAll (put loc p.1 (.v p.2)) r) z=_;rw[ih h.2,nZ,au (λe=>h.1 e.symm)]
theorem FT{z:Str}{V:MV}{ps:List (Str×MV)}:∀{loc:List (Str×LV)},(ps.map (·.1)).Nodup->(z,V)∈ps->look (putAll loc ps) z=some (.v V):=by
 induction ps with
 | nil=>exact λ_ h=>absurd h aX
 | cons p r ih=>intro loc hn h;have hn:=bx.mp hn;show look (putAll (put loc p.1 (.v p.2)) r) z=_;refine bu (aC.mp h) (λe=>?_) λh=>ih hn.2 h;subst e;rw[AF hn.1,nZ,aq rfl]
theorem My{loc:List (Str×LV)}{ps qs:List (Str×MV)}(hn:(ps.map (·.1)).Nodup)(hp:∀p,p∈ps↔p∈qs)(hq:(qs.map (·.1)).Nodup)(z:Str)(lv:LV)(e:look (putAll loc ps) z=some lv):look (putAll loc qs) z=some lv:=by
 by_cases h:z∈ps.map (·.1)
 ·refine bz (aN.mp h) λp hm bZ=>?_;obtain rfl:=bZ;rw[FT hn (show (p.1,p.2)∈ps from hm)]at e;rw[FT hq (show (p.1,p.2)∈qs from (hp p).mp hm)];exact e
 ·have h':z∉qs.map (·.1):=λhm=>by (refine bz (aN.mp hm) λp Em En=>?_);exact h (aN.mpr ⟨p,(hp p).mpr Em,En⟩)
  rw[AF h]at e;rw[AF h'];exact e
class inductive Binds(M:Model)(env:Env):List Str->List (Value->Sem Unit)->Prop
 | nil:Binds M env [] []
 | cons {x:Str} {t:Value->Sem Unit} {xs:List Str} {ts:List (Value->Sem Unit)}:(∀{A:Around} {v:Value} {Q:Unit->Shared->Prop} {s:Shared},wpAny M A (storeName env x v) Q br s->wpAny M A (t v) Q br s)->Binds M env xs ts->Binds M env (x::xs) (t::ts)
theorem LP(env:Env)(M:Model)(xs:List Str):Binds M env xs (xs.map λx=>bindName env x):=by
 induction xs with
 | nil=>exact .nil
 | cons x r ih=>exact .cons (λh=>wpAny_bindName h) ih
theorem FU(dJ:cx.comp=false){xs:List Str}{ts:List (Value->Sem Unit)}(B:Binds (model prog w) env xs ts):∀{vs:List Value} {Vs:List MV} {cv:Str->Addr} {st:St} {s:Shared},RL g s.heap vs Vs->xs.length=Vs.length->(∀x∈xs,env.kindOf x=some .local\/env.kindOf x=some .cell)->Rel cx env cv g st s->
  wpAny (model prog w) A (assignInOrder ts vs) (λ_ s'=>∃f7,Step env.locals cx.ro cx.rb g st.aD s g st.aD s'/\Rel cx env f7 g {st with loc:=putAll st.loc (xs.zip Vs)} s'/\n7 cv f7) br s:=by
 induction B with
 | nil=>
  intro vs Vs cv st s r hl hk R;cases r with
  | nil=>exact PyProof.Rows.assignInOrder_nil ⟨cv,Step.refl,R,λ_ _=>rfl⟩
  | cons=>exact nomatch hl
 | @cons x t xs ts ht Za ih=>
  intro vs Vs cv st s r hl hk R;cases r with
  | nil=>exact nomatch hl
  | cons rv Xr=>
  refine PyProof.Rows.assignInOrder_cons (ht (wm (AN (rb:=cx.rb) (lv:=.v V) (b:=cv x) R dJ (hk x (.head _)) λh' f7 _ keep=>?_) (λ_ bq pq=>?_)))
  ·exact (Up.v ⟨λb o r q=>⟨r,keep b o (by rw[r];exact dS rfl) (λ_=>by rw[r];exact dS rfl) q⟩,λZ Z q=>q⟩ rv)
  ·refine cu pq λbR bL=>wm (ih (bR.up.l Xr) (dc hl) (λy hy=>hk y (.tail _ hy)) bL) (λ_ s₂ p=>cg p λqW p=>eg p λbY b8 ok=>⟨qW,bR.trans bY,b8,λz hz=>?_⟩);rw[ok z hz];by_cases q:z=x
   ·rw[q];exact aq rfl
   ·exact au q
theorem AG{t:Expr}{ts:List Expr}{xs:List Str}(e:namesOf (t::ts)=some xs):∃x p ys,t=.Name x p/\namesOf ts=some ys/\xs=x::ys:=by
 induction t using aac with
 | Name x p=>exact eZ (λys h1 q=>⟨x,p,ys,rfl,h1,q.symm⟩) e
 | _=>exact aM e
theorem Mz{ts:List Expr}:∀{vs:List MV} {st st':St} {xs:List Str},namesOf ts=some xs->vQ ev cx ts vs st=some st'->st'={st with loc:=putAll st.loc (xs.zip vs)}/\xs.length=vs.length/\(∀x∈xs,cx.comp=false/\(jG cx x=some .local\/jG cx x=some .cell)):=by
 induction ts with
 | nil=>
  intro vs st st' xs h e;exists h,h;induction vs using aaa with
  | nil=>exists e,e;exact ⟨rfl,rfl,λZ h=>nomatch h⟩
  | cons=>exact aM e
 | cons t ts ih=>
  intro vs st st' xs h e;refine jN (AG h) λx p ys dP=>eg dP λg8 h1 nh=>?_;subst g8 nh;induction vs using aaa with
  | nil=>exact aM e
  | cons v vs=>revert e;refine cN λaP e1 e2=>?_;have e1:setName cx st x (.val v)=some aP:=e1;refine eg (E7 e1) λk1 k2 k3=>?_;exists k3,k3;refine eg (ih h1 e2) λq1 q2 q3=>⟨q1,bf (·+1) q2,λy hy=>(aC.mp hy).elim (λq=>q▸⟨k1,k2⟩) (q3 y)⟩
theorem Lm{vs:List Value}{xs:List MV}(r:RL g h vs xs):RL g h vs.reverse xs.reverse:=
 dR.ind (P:=λvs xs=>RL g h vs.reverse xs.reverse) .nil (λv V vs Vs x Z ih=>by
  rw[List.reverse_cons,List.reverse_cons];exact vB ih (.cons x .nil)) r
theorem MA{ts:List Expr}:∀{xs:List Str},namesOf ts=some xs->Binds (model prog w) env xs ((assignEach ts env).map (·.2))/\(assignEach ts env).length=xs.length/\(assignEach ts env).findIdx? (·.1)=none:=by
 induction ts with
 | nil=>intro xs e;exists e;exact ⟨.nil,rfl,rfl⟩
 | cons t ts ih=>intro xs e;refine jN (AG e) λx p ys dP=>eg dP λg8 e1 nh=>?_;subst g8 nh;refine eg (ih e1) λa b c=>?_;refine ⟨.cons (λh=>PySem.wpAny_assign_Name h) a,bf (·+1) b,?_⟩;show ((false,assign (.Name x p) env)::assignEach ts env).findIdx? (·.1)=none;rw[List.findIdx?_cons,c];rfl
theorem Ln(env:Env)(line:Nat){ts:List Expr}:∀{xs:List Str},namesOf ts=some xs->(ts.filterMap λt=>match t with | .Name id pos=>if env.kindOf id==some .local&&pos.line==line then some id else none | _=>none).length<=ts.length/\
  ((ts.filterMap λt=>match t with | .Name id pos=>if env.kindOf id==some .local&&pos.line==line then some id else none | _=>none).length=ts.length->(ts.filterMap λt=>match t with | .Name id pos=>if env.kindOf id==some .local&&pos.line==line then some id else none | _=>none)=xs):=by
 generalize hf:(λt:Expr=>match t with | .Name id pos=>if env.kindOf id==some NameKind.local&&pos.line==line then some id else none | _=>none)=f;induction ts with
 | nil=>intro xs e;exists e;exact ⟨az _,λZ=>rfl⟩
 | cons t ts ih=>
  intro xs e;refine jN (AG e) λx p ys dP=>eg dP λg8 e1 nh=>?_;subst g8 nh;refine cu (ih e1) λa b=>?_;rw[List.filterMap_cons];have hx:f (.Name x p)=none\/f (.Name x p)=some x:=by
   subst hf;by_cases hc:(env.kindOf x==some .local&&p.line==line)=true
   ·exact .inr (aq hc)
   ·exact .inl (au hc)
  refine hx.elim (λq=>?_) λq=>?_<;>rw[q]
  ·exact ⟨Nat.le_succ_of_le a,λhl=>absurd (hl▸a) (Nat.not_succ_le_self _)⟩
  ·exact ⟨cR a,λhl=>bf (x::·) (b (dc hl))⟩
theorem MB{ts:List Expr}{xs:List Str}{k:Nat}{p:Pos}{value:Expr}(hn:namesOf ts=some xs)(ho:yO value=true):swappedStores [.Tuple ts k p] value env=pure none\/swappedStores [.Tuple ts k p] value env=pure (some xs):=by
 induction value using aac with
 | Tuple vs k' p'=>
  have ko:∀(F:Expr->Bool),(∀e,By e=true->F e=false)->vs.all F=false:=by intro F hF;have ho:vs.any By=true:=ho;refine bz (cE.mp ho) λe he hc=>?_;rw[List.all_eq_false];exact ⟨e,he,by rw[hF e hc];decide⟩
  have h1:vs.all (foldedForSure 8)=false:=ko _ λe he=>by induction e using aac<;>first | rfl | exact b7 he
  have h2:vs.all (constantsAlone 8)=false:=ko _ λe he=>by induction e using aac<;>first | rfl | exact b7 he
  unfold swappedStores;dsimp only;split
  ·exact .inl rfl
  ·split
   ·exact .inl rfl
   ·generalize nW:List.filterMap _ ts=names;split
    ·exact .inl rfl
    ·rename_i c3;right;rw[h1,h2];have hl:names.length=ts.length:=by rw[er,not_or]at c3;simpa using c3.1
     have key:=Ln env ((ts.head?.map (·.pos.line)).getD 0) hn;have e:names=xs:=nW.symm.trans (key.2 (by rw[<-hl];exact bf List.length nW));rw[e];rfl
 | _=>left;rfl
theorem K8{ts:List Expr}{k:Nat}{p pos:Pos}{e:Expr}{vs:List MV}{xs:List Str}{aP:St}(SE:fT ev n d)(r:dm A n d)(hh:A.handled=none)(dJ:cx.comp=false)(R:Rel cx env cv g st s)(vn:yO e=true)
  (e1:ev.e cx e st=some (.val (.tup vs),aP)) (hn:namesOf ts=some xs) (l6:xs.Nodup) (hl:xs.length=vs.length) (e2:vQ ev cx ts vs aP=some st') :
  wpAny (model prog w) A (exec (.Assign [.Tuple ts k p] e pos) env) (λfw s'=>fw=.next/\Kept cx env cv g st.aD s st' s') br s:=by
 refine eg (Mz hn e2) λq1 Z q3=>?_;have kinds:∀x∈xs,env.kindOf x=some .local\/env.kindOf x=some .cell:=λx hx=>by
  have:=(q3 x hx).2;refine bu (R.loc.kinds x) (λq=>?Xs) λgk=>?Xu;(case' Xu=>(refine cu gk λq Z=>?_));(case' Xs=>(skip))
  ·rw[q];exact this
  ·rw[dJ]at q;exact b7 q
 have hs:swapsWithSole [.Tuple ts k p] e pos.line env=pure false:=by induction e using aac<;>rfl
 have draw:∀{v:Value} {bM:G} {bq:Shared} {Q:List Value->Shared->Prop},Rel cx env cv bM aP bq->RV bM bq.heap v (.tup vs)->
   (∀us bW s₂,Step env.locals cx.ro cx.rb bM aP.aD bq bW aP.aD s₂->Rel cx env cv bW aP s₂->RL bW s₂.heap us vs->Q us s₂)->wpAny (model prog w) A (unpackItems v xs.length none) Q br bq:=by
  intro v bM bq Q bL rv hQ;induction (bh.inv rv) using jj.casesOn with
  | @tup a o us _ i1 i2 i3 i4 i5=>
   have hsz:us.size=xs.length:=by rw[hl,<-jf i5,aL]
   rw[<-hsz];refine unpackItems_tuple hh ⟨o,i2,i3,_,i4⟩ λh' he=>?_;have keep:∀b o,bq.heap.get? b=some o->h'.get? b=some o:=λb o q=>he b o (di (cJ q)) q;refine cu (ext (f:=env.locals) (ro:=cx.ro) (rb:=cx.rb) (s':={bq with heap:=h'}) bL ⟨h',bq.toks,rfl⟩ keep (λZ=>.free)) λbY b8=>?_;exact hQ _ _ _ bY b8 (bY.up.l i5)
 refine bu (MB (env:=env) (k:=k) (p:=p) hn vn) (λhw=>?_) λhw=>?_
 ·refine Assign_Tuple (wm (SE r hh e1 R) (λv bq h1=>?_)) hs hw;refine h1.el λbM bR bL cj=>?_;clear h1;refine eg (MA (env:=env) hn) λb1 b2 b3=>?_;show wpAny _ A (do standAt p;unpack v (assignEach ts env)) _ _ _;refine av (wpAny_standAt ?_);unfold unpack;rw[b2,b3];refine av (eB (draw bL cj λus bW s₂ bY b8 rl=>?_));refine wm (FU dJ b1 rl hl kinds b8) (λZ gq h3=>?_);revert h3;refine gz λqk gu gA ok=>?_;rw[q1];exact ⟨rfl,bW,qk,bR.trans (bY.trans gu),gA,ok⟩
 ·refine Assign_Tuple_swapped (wm (SE r hh e1 R) (λv bq h1=>?_)) hs hw;refine h1.el λbM bR bL cj=>?_;clear h1;refine draw bL cj λus bW s₂ bY b8 rl=>?_;have Km:xs.reverse.length=vs.reverse.length:=by rw[cK,cK,hl]
  refine wm (FU dJ (LP env _ xs.reverse) (Lm rl) Km (λx hx=>kinds x (List.mem_reverse.mp hx)) b8) (λZ gq h3=>?_);revert h3;refine gz λqk gu gA ok=>?_;have Er:(xs.zip vs).map (·.1)=xs:=List.map_fst_zip (by rw[hl];exact az _);have Em:(xs.reverse.zip vs.reverse).map (·.1)=xs.reverse:=List.map_fst_zip (by rw[Km];exact az _);have hz:xs.reverse.zip vs.reverse=(xs.zip vs).reverse:=by rw[List.zip_eq_zipWith,List.zip_eq_zipWith,List.reverse_zipWith hl]
  refine ⟨rfl,bW,qk,bR.trans (bY.trans ?_),?_,ok⟩
  ·rw[q1];exact gu
  ·rw[q1];refine gA.Iz λz lv e=>?_;exact My (by rw[Er];exact l6) (λp=>by rw[hz,List.mem_reverse]) (by rw[Em];exact (by unfold List.Nodup at l6 |-;rw[List.pairwise_reverse];exact l6.imp λh e=>h e.symm)) z lv e
abbrev kh(cx:Ctx)(env:Env)(cv:Str->Addr)(g:G)(st:St)(s:Shared)(st':St)(fw:Flow)(s':Shared):Prop:=
 fw=.next/\Kept cx env cv g st.aD s st' s'
theorem pR.kept(p:pR cx env cv g st.aD s st' s'):kh cx env cv g st s st' .next s':=by refine p.el λg' S R=>?_;clear p;exact ⟨rfl,g',cv,S,R,λZ Z=>rfl⟩
theorem Named.kept{bM:G}{bq:Shared}{a:EV}{v:Value}(p:Named cx env cv g st.aD s bM bq a v st' s'):kh cx env cv g st s st' .next s':=by
 rcases p with ⟨g',f7,S,R,o,_⟩
 exact ⟨rfl,g',f7,S,R,o⟩
theorem kh.toS{fw:Flow}(p:kh cx env cv g st s st' fw s'):iT cx env cv g st s .bN st' fw s':=by
 revert p;refine gj λbA g8=>?_;obtain rfl:=bA;rcases g8 with ⟨g',f7,S,R,o⟩
 exact ⟨g',f7,S,R,rfl,o⟩
theorem iT.after{bM:G}{aP:St}{bq:Shared}{pe:Str->Addr}{fl:Fl}{fw:Flow}(S:Step env.locals cx.ro cx.rb g st.aD s bM aP.aD bq)(o:n7 cv pe)(p:iT cx env pe bM aP bq fl st' fw s'):iT cx env cv g st s fl st' fw s':=by
 refine p.el λg' f7 S' R' v o'=>?_;clear p;refine ⟨g',f7,S.trans S',R',?_,λx hx=>(o' x hx).trans (o x hx)⟩;induction fl using Fl.casesOn with
 | bN=>exact v
 | ret a=>
  revert v;refine gz λu e hr rv=>?_;refine ⟨u,e,hr,?_⟩;induction a using EV.casesOn with
  | val V=>exact rv
  | fresh V=>exact fW.lo rv S.live
  | _=>exact b7 hr
set_option tactic.hygienic true in
theorem OX{e:Expr}{pos:Pos}{a:EV}{fl:Fl}{aP:St}(SE:fT ev n d)(r:dm A n d)(hh:A.handled=none)(dJ:cx.comp=false)(R:Rel cx env cv g st s)(e1:ev.e cx e st=some (a,aP))
  (e2:Jl aP a=some (fl,st')):wpAny (model prog w) A (exec (.Return (some e) pos) env) (iT cx env cv g st s fl st') br s:=by
 refine wpAny_Return_some (wm (SE r hh e1 R) (λv bq pq=>?_));refine pq.el λbM bR bL cj=>?_;clear pq;induction a using EV.casesOn with
 | val V=>exists e2;exact ⟨bM,cv,bR,bL,⟨v,rfl,rfl,cj⟩,λZ Z=>rfl⟩
 | fresh V=>exists e2;exact ⟨bM,cv,bR,bL,⟨v,rfl,rfl,cj⟩,λZ Z=>rfl⟩
 | bor V=>exact aM e2
 | cont l=>
  induction l using Loc.casesOn with
  | slot n k=>exact aM e2
  | var x=>
   revert e2;refine cN λV hd e2=>?_;revert e2;refine dG (λhc e2=>?_)
   ·exists e2;have hx:look aP.loc x=some (.own V):=by refine HH (λy q hd=>?_) hd;exists hd;exact q
    refine eg (qa cj.2) λk1 k2 k3=>?_;refine eg (Fb (ro:=cx.ro) (rb:=cx.rb) bL dJ hx k1 k2 k3 hc) λbY b8 rv=>?_;have gA:=b8.Iz (loc:=uE aP.loc x) λz lv q=>by
     refine cu (MT q) λq1 q2=>?_;show look (put aP.loc x (.v V)) z=_;rw[nZ,au (λe=>q1 e.symm)];exact q2
    exact ⟨_,cv,bR.trans bY,gA,⟨v,rfl,rfl,by rw[cj.1];exact rv⟩,λZ Z=>rfl⟩
theorem Sg{e:Expr}{pos:Pos}{a:EV}(SE:fT ev n d)(r:dm A n d)(hh:A.handled=none)(R:Rel cx env cv g st s)(hc:nB e=false)(e1:ev.e cx e st=some (a,st'))(hd:BR a=true) :
  wpAny (model prog w) A (exec (.Expr e pos) env) (iT cx env cv g st s .bN st') br s:=by
 have hi:interactive env=false:=by unfold interactive;rw[R.loc.kind];rfl
 refine wpAny_Expr (wm (SE r hh e1 R) (λv bq pq=>?_)) hi (by induction e using aac<;>first | rfl | injection hc);refine pq.el λbM bR bL cj=>?_;clear pq;have fin:iT cx env cv g st s .bN st' .next bq:=⟨bM,cv,bR,bL,rfl,λZ Z=>rfl⟩
 induction a using EV.casesOn with
 | val V=>have cj:RV bM bq.heap v V:=cj;induction V using MV.casesOn<;>first | ((first | induction (bh.inv cj) using gR.casesOn | induction (bh.inv cj) using iR.casesOn | induction (bh.inv cj) using o8.casesOn | induction (bh.inv cj) using wC.casesOn | induction (bh.inv cj) using jj.casesOn | induction (bh.inv cj) using uV.casesOn | induction (bh.inv cj) using C8.casesOn | induction (bh.inv cj) using Cj.casesOn | induction (bh.inv cj) using qw.casesOn | induction (bh.inv cj) using wD.casesOn | induction (bh.inv cj) using zD.casesOn | induction (bh.inv cj) using wW.casesOn);exact fin) | exact b7 hd
 | _=>exact b7 hd
theorem Gn{t e:Expr}{pos:Pos}{a:EV}{aP:St}(cP:g9 P K h₀ mg mb)(SE:fT ev n d)(SI:gW ev)(r:dm A n d)(hh:A.handled=none)(R:Rel cx env cv g st s)(vo:nB e=false\/∀x p,t≠.Name x p)
  (e1:ev.e cx e st=some (a,aP)) (e2:rX ev cx t a aP=some st'):wpAny (model prog w) A (exec (.Assign [t] e pos) env) (kh cx env cv g st s st') br s:=by
 induction t using aac with
 | Name x p=>have hc:nB e=false:=vo.elim id λh=>absurd rfl (h x p);refine PySem.wpAny_Assign_Name (wm (SE r hh e1 R) (λv bq pq=>?_)) (by induction e using aac<;>first | rfl | injection hc);refine pq.el λbM bR bL cj=>?_;clear pq;refine wm (vK bL cj bR (λZ o q=>⟨o,q⟩) e2) (λZ s₂ p=>p.kept)
 | Attribute o k p=>refine plainObj_wpAny_Assign_Attribute (wm (SE r hh e1 R) (λv bq pq=>?_)) (by induction e using aac<;>rfl);refine pq.el λbM bR bL cj=>?_;clear pq;exact wm (LO (uK:=st) cP SE r hh bL cj bR (λZ o q=>⟨o,q⟩) e2) (λZ Z h1=>wm h1 (λZ gq p=>p.kept))
 | Subscript o i p=>refine PySem.wpAny_Assign_Subscript (wm (SE r hh e1 R) (λv bq pq=>?_)) (by induction e using aac<;>rfl);refine pq.el λbM bR bL cj=>?_;clear pq;exact wm (Mx (uK:=st) SE SI r hh bL cj bR (λZ o q=>⟨o,q⟩) e2) (λZ Z h1=>wm h1 (λZ Z h2=>wm h2 (λZ gq p=>p.kept)))
 | _=>exact aM e2
theorem VB{t:Expr}{a b:List Stmt}{pos:Pos}{fl:Fl}{c:Bool}{aP:St}(ST:kK ev n d)(SS:n8 ev n d)(r:dm A n d)(hh:A.handled=none)(dJ:cx.comp=false)(R:Rel cx env cv g st s)
  (e1:ev.t cx t st=some (c,aP)) (e2:(if c then ev.ss cx a aP else ev.ss cx b aP)=some (fl,st')):wpAny (model prog w) A (exec (.If t a b pos) env) (iT cx env cv g st s fl st') br s:=by
 refine wpAny_If (wm (ST r hh e1 R) (λc' bq p=>?_));refine p.el λbA bM bR bL=>?_;clear p;obtain rfl:=bA;induction c' using aad with
 | true=>exact wm (SS r hh dJ e2 bL) (λZ Z p=>p.after bR λZ Z=>rfl)
 | false=>exact wm (SS r hh dJ e2 bL) (λZ Z p=>p.after bR λZ Z=>rfl)
inductive JM(ev:Ev)(cx:Ctx)(env:Env)(cv:Str->Addr)(g:G)(σ:eN)(s:Shared)(t:Expr)(a:List Stmt)(fl:Fl)(st':St)(m:Nat)(bq:Shared):Prop
 | mk (bM:G) (pe:Str->Addr) (aP:St):r9 (ev.t cx t) (ev.ss cx a) m aP=some (fl,st')->Step env.locals cx.ro cx.rb g σ s bM aP.aD bq->Rel cx env pe bM aP bq->n7 cv pe->JM ev cx env cv g σ s t a fl st' m bq
theorem QG{t:Expr}{a:List Stmt}{pos:Pos}{fl:Fl}{k:Nat}(ST:kK ev n d)(SS:n8 ev n d)(r:dm A n d)(hh:A.handled=none)(dJ:cx.comp=false)(R:Rel cx env cv g st s)
  (e:r9 (ev.t cx t) (ev.ss cx a) k st=some (fl,st')):wpAny (model prog w) A (exec (.While t a [] pos) env) (iT cx env cv g st s fl st') br s:=by
 refine wpAny_While (codeAny_whileLoop (JM ev cx env cv g st.aD s t a fl st') (λm bq pq=>?_) k ⟨g,cv,st,e,Step.refl,R,λZ Z=>rfl⟩);rcases pq with ⟨bM,pe,aP,e,bR,bL,sX⟩
 induction m using aae with
 | zero=>exact aM e
 | succ m=>
  revert e;refine eG λb eH e1 e=>?_;refine b6 (ST r hh e1 bL) (λb' s₂ p=>?_) λZ Z q=>q.elim;refine p.el λbA bW bY b8=>?_;clear p;obtain rfl:=bA;induction b' using aad with
  | true=>
   revert e;refine eG λzg sG e2 e=>?_;refine b6 (SS r hh dJ e2 b8) (λfw gq p=>?_) λZ Z q=>q.elim;have p:=iT.after (bR.trans bY) sX p;induction zg using Fl.casesOn with
   | bN=>refine p.el λjk qk gu gA bA xj=>?_;clear p;obtain rfl:=bA;exact ⟨m,dW _,jk,qk,sG,e,gu,gA,xj⟩
   | ret v=>exists e;refine p.el λjk qk gu gA bA xj=>?_;clear p;revert bA;refine gz λu VC hr rv=>?_;obtain rfl:=VC;exact ⟨jk,qk,gu,gA,⟨u,rfl,hr,rv⟩,xj⟩
  | false=>exists e;exact wpAny_execs_nil ⟨bW,pe,bR.trans bY,b8,rfl,sX⟩
theorem TF{a fs:List Stmt}{zU:Stmt}{pos:Pos}{fl:Fl}{aP:St}(SS:n8 ev n d)(r:dm A n d)(hh:A.handled=none)(dJ:cx.comp=false)(R:Rel cx env cv g st s)
  (e1:ev.ss cx a st=some (fl,aP)) (e2:ev.ss cx (zU::fs) aP=some (.bN,st')):wpAny (model prog w) A (exec (.Try a [] [] (zU::fs) pos) env) (iT cx env cv g st s fl st') br s:=by
 refine wpAny_Try_finally (b6 (SS r hh dJ e1 R) (λfw bq p=>?_) λZ Z q=>q.elim);refine p.el λbM pe bR bL Dh sX=>?_;clear p;have fin:wpAny (model prog w) A (execs (zU::fs) env) (λq s'=>match q with | .next=>iT cx env cv g st s fl st' fw s' | q=>iT cx env cv g st s fl st' q s') (notedBy (model prog w) A env (cameBackBy (model prog w) A env br)) bq:=by
  refine b6 (SS r hh dJ e2 bL) (λYJ s₂ pq=>?_) λZ Z q=>q.elim;refine pq.el λbW qW bY b8 Jz VD=>?_;clear pq;cases (Jz);refine ⟨bW,qW,bR.trans bY,b8,?_,λx hx=>(VD x hx).trans (sX x hx)⟩;induction fl using Fl.casesOn with
  | bN=>exact Dh
  | ret b=>
   revert Dh;refine gz λu e hr rv=>?_;refine ⟨u,e,hr,?_⟩;induction b using EV.casesOn with
   | val V=>exact bY.up.v rv
   | fresh V=>exact bY.fy rv
   | _=>exact b7 hr
 cases (fw) with
 | next=>exact wpAny_execs_nil fin
 | _=>exact fin
theorem Rel.JN{fY:Bool}(R:Rel cx env cv g st s)(hb:∀x V b,look st.loc x=some (.bor V)->(gY env.locals cx.ro (g.ρ b))->gY env.locals fY (g.ρ b)):Rel (nS cx fY) env cv g st s:=
 ⟨R.ground,⟨R.loc.kinds,R.loc.kind,R.loc.glob,R.loc.blt,R.loc.role,(let ⟨m,n,hv⟩:=R.loc.vars;⟨m,n,λx lv hl k1 k2 k3=>by
  refine bz (hv x lv hl k1 k2 k3) λv p q=>?_;refine ⟨v,p,?_⟩;induction lv using LV.casesOn with
  | v V=>exact q
  | own V=>exact q
  | bor V=>(revert q;refine gz λb e h1 c=>?_);exact ⟨b,e,⟨hb x V b hl h1.1,h1.2⟩,c⟩⟩),R.loc.cells,R.loc.comp,R.loc.inner⟩,R.aD⟩
theorem QH{loc:List (Str×LV)}{x:Str}{V:MV}(e:look loc x=some (.bor V)):loc.any vZ=true:=by
 induction loc with
 | nil=>exact aM e
 | cons p r ih=>
  rcases p with ⟨k,l⟩
  rw[dF];simp only[jX]at e;split at e
  ·exists e,e;rfl
  ·rw[ih e,Bool.or_true]
inductive Dv(cx:Ctx)(fY:Bool)(env:Env)(cv:Str->Addr)(ev:Ev)(wK:Ctx)(x:Str)(a:List Stmt)(xs:List MV)(fl:Fl)(st':St)(g:G)(σ:eN)(s:Shared)(bW:G)(iz:Heap)(fp:List Addr)(gx:Nat->Heap->Prop)(I:Addr)(k:Nat)(s':Shared):Prop
 | mk (i:Nat) (g':G) (f7:Str->Addr) (qm:St):i<=xs.length->k=xs.length+1-i->forL ev wK x a (xs.drop i) qm=some (fl,st')->Step env.locals cx.ro cx.rb g σ s g' qm.aD s'->Rel (nS cx fY) env f7 g' qm s'->n7 cv f7->Up bW iz g' s'.heap->gx i s'.heap->
   (∀b∈fp,(∃o,s'.heap.get? b=some o)/\gY env.locals fY (g'.ρ b))->g'.ρ I=.fy->Dv cx fY env cv ev wK x a xs fl st' g σ s bW iz fp gx I k s'
variable {fY:Bool} {p:Pos} {it:Expr} {a:List Stmt} {fl:Fl} {E:Value->Shared->Prop}
theorem OY{i tk:Nat}{f7:Str->Addr}{qm:St}{v:Value}{jm:Heap}{Q:Flow->Shared->Prop}(SS:n8 ev n d)(r:dm A n d)(hh:A.handled=none)(dJ:cx.comp=false)(gg:cx.ro=true->fY=true)(gF:(cx.ro=true\/cx.rb=false)->fY=true\/cx.rb=false)
  (W:Walks prog w A I fp [I] xs.length Pi gx) (l8:∀i h,gx i h->∃o,h.get? I=some o) (pQ:I∈fp) (hIn:s.heap.get? I=none) (hP:∀i v,Pi i v->∀iF gV,Up bW iz iF gV->∃V,xs[i]?=some V/\RV iF gV v V)
  (dH:i<xs.length) (he:forL ev (nS cx fY) x a (xs.drop i) qm=some (fl,st')) (S':Step env.locals cx.ro cx.rb g st.aD s g' qm.aD s') (R':Rel (nS cx fY) env f7 g' qm s') (o':n7 cv f7) (u':Up bW iz g' s'.heap)
  (tK:∀b∈fp,(∃o,s'.heap.get? b=some o)/\gY env.locals fY (g'.ρ b)) (jD:g'.ρ I=.fy) (xJ:Pi i v) (qS:gx (i+1) jm) (o9:∀b o,b∉[I]->s'.heap.get? b=some o->jm.get? b=some o)
  (hN:∀ju,Dv cx fY env cv ev (nS cx fY) x a xs fl st' g st.aD s bW iz fp gx I (xs.length+1-(i+1)) ju->Q .next ju)
  (hR:∀b m8 qX u ju,fl=.ret b->Step env.locals cx.ro cx.rb g st.aD s m8 st'.aD ju->Rel (nS cx fY) env qX m8 st' ju->zd b=true->xd s.heap m8 ju.heap b u->n7 cv qX->Q (.ret u) ju) :
  wpAny (model prog w) A (storeName env x v) (λZ zO=>wpAny (model prog w) A (execs a env) Q E zO) E {s' with heap:=jm,toks:=tk}:=by
 rw[List.drop_eq_getElem_cons dH]at he;revert he;refine eG λTG TH e3 he=>?_;revert e3;refine cN λIQ e4 e5=>?_;have zL:∀b o,b≠I->s'.heap.get? b=some o->jm.get? b=some o:=λb o hb e=>o9 b o (λm=>hb (aA.mp m)) e;refine eg (chg (tk:=tk) (h':=jm) R' S' hIn (.inl jD) zL) λkT lY rz=>?_;refine bz (hP i v xJ g' jm (u'.trans rz)) λV hV rv=>?_;have Eg:V=xs[i]:=by rw[cB dH]at hV;exact (aY hV).symm
 subst Eg;have Cz:∀b∈fp,(∃o,jm.get? b=some o)/\gY env.locals fY (g'.ρ b):=λb hb=>by
  refine cu (tK b hb) λbA hf=>?_;revert bA;refine gh λo q=>?_;by_cases xF:b=I
  ·subst xF;exact ⟨l8 _ _ qS,hf⟩
  ·exact ⟨⟨o,zL b o xF q⟩,hf⟩
 refine b6 (vK (cx:=(nS cx fY)) (a:=.val xs[i]) (lo:=jm) (g₀:=g') (σ₀:=qm.aD) (s₀:={s' with heap:=jm,toks:=tk}) lY rv Step.refl (λZ o q=>⟨o,q⟩) e4) (λZ zO h6=>?_) λZ Z q=>q.elim;rcases h6 with ⟨JF,YK,xh,zP,VE,_⟩
 refine b6 (SS (cx:=(nS cx fY)) r hh dJ e5 zP) (λfw ju p7=>?_) λZ Z q=>q.elim;refine p7.el λm8 qX lM oE JO Dw=>?_;clear p7;have um:=xh.trans lM;have zQ:=kT.trans (um.out (az _) gg gF);have JP:n7 cv qX:=λz hz=>(Dw z hz).trans ((VE z hz).trans (o' z hz));induction TG using Fl.casesOn with
 | bN=>
  cases (JO);refine hN ju ⟨i+1,m8,qX,TH,dH,rfl,he,zQ,oE,JP,u'.trans (rz.trans um.up),W.frame _ _ _ qS λb hb o e=>um.keep b o e (Cz b hb).2,λb hb=>?_,?_⟩
  ·refine cu (Cz b hb) λbA hf=>?_;revert bA;refine gh λo q=>?_;exact ⟨⟨o,um.keep b o q hf⟩,by rw[um.fix ⟨o,q⟩ hf];exact hf⟩
  ·refine cu (Cz I pQ) λq hf=>?_;exact (um.fix q hf).trans jD
 | ret b=>
  refine pairK he λq1 q2=>?_;subst q1 q2;revert JO;refine gz λu cY hr ve=>?_;obtain rfl:=cY;refine hR b m8 qX u ju rfl zQ oE hr ?_ JP;induction b using EV.casesOn with
  | val V=>exact ve
  | fresh V=>exact fW.lo (fW.lo ve xh.live) kT.live
  | _=>exact b7 hr
theorem TJ{x:Str}{p pos:Pos}{it:Expr}{a:List Stmt}{xs:List MV}{cL:Bool}{fl:Fl}{aP:St}(cP:g9 P K h₀ mg mb)(mP:P.oH (Str.ofString "range")=some (.typ "range"))(SE:fT ev n d)(SI:gW ev)(SS:n8 ev n d)(r:dm A n d)(hh:A.handled=none)(dJ:cx.comp=false)(R:Rel cx env cv g st s)
  (g4:jJ it=false) (e1:ia ev cx it st=some (xs,cL,aP)) (jl:xs.length<bE)
  (e2:forL ev (nS cx (cx.ro||cL)) x a xs aP=some (fl,st')) (zE:(cL&&st'.loc.any vZ)=false) :
  wpAny (model prog w) A (exec (.For (.Name x p) it a [] pos) env) (iT cx env cv g st s fl st') br s:=by
 refine wpAny_For (wm (Gh cP mP SE SI r hh R e1) (λxv bq q=>wm q (λZb s₂ q=>?_))) (A2 g4);rcases q with ⟨I,fp,Pi,gx,bW,rfl,W',vm,bY,b8,pQ,jD,hIn,tQ,l8,hP⟩
 have W:=W' A hh;have gg:cx.ro=true->(cx.ro||cL)=true:=λq=>by rw[q];rfl
 have gF:(cx.ro=true\/cx.rb=false)->(cx.ro||cL)=true\/cx.rb=false:=λq=>q.imp gg id;have down:∀{g':G} {f7:Str->Addr} {s':Shared},Rel (nS cx (cx.ro||cL)) env f7 g' st' s'->Rel cx env f7 g' st' s':=by
  intro g' f7 s' R';have:=R'.JN (fY:=cx.ro) λy V b hl hf=>by
   cases hi:cL with
   | false=>rw[hi,Bool.or_false]at hf;exact hf
   | true=>rw[hi,QH hl]at zE;exact b7 zE.symm
  exact this
 refine codeAny_forLoop_any (Dv cx (cx.ro||cL) env cv ev (nS cx (cx.ro||cL)) x a xs fl st' g st.aD s bW s₂.heap fp gx I) ?_ (xs.length+1)
  ⟨0,bW,cv,aP,cS _,rfl,by rw[List.drop_zero];exact e2,bY,b8.JN λZ Z b Z q=>q.up (az _) gg,λZ Z=>rfl,.refl,vm,tQ,jD⟩
 intro k s' c;rcases c with ⟨i,g',f7,qm,hi,rfl,he,S',R',o',u',m6,tK,zS⟩
 by_cases dH:i<xs.length
 ·refine W.item i s' _ _ dH m6 λv jm uJ xJ qS o9=>?_;exact aH (PySem.wpAny_assign_Name (OY SS r hh dJ gg gF W l8 pQ hIn hP dH he S' R' o' u' tK zS xJ qS o9 (λju c=>⟨_,Nat.sub_lt_sub_left (Nat.lt_succ_of_lt dH) (dW i),c⟩)
   λb m8 qX u ju q lM oE hr rv Dw=>⟨m8,qX,lM,down oE,q▸⟨u,rfl,hr,rv⟩,Dw⟩))
 ·obtain rfl:i=xs.length:=Nat.le_antisymm hi (Nat.not_lt.mp dH);rw[List.drop_length]at he;refine pairK he λq1 q2=>?_;subst q1 q2;refine W.done s' _ _ m6 λjm uJ o9=>?_;refine eg (chg (tk:=uJ) (h':=jm) R' S' hIn (.inl zS) λb o hb e=>o9 b o (λm=>hb (aA.mp m)) e) λkT lY rz=>?_;exact wpAny_execs_nil ⟨g',f7,kT,down lY,rfl,o'⟩
theorem Nr{x:Str}{p p2 pos:Pos}{y v:Int}{k:Nat}(cP:g9 P K h₀ mg mb)(R:Rel cx env cv g st s)(e1:getName P cx st x=some (.val (.int v)))(e2:setName cx st x (.val (.int (v+y)))=some st') :
  wpAny (model prog w) A (exec (.AugAssign (.Name x p) .Add (.Constant (.int y) k p2) pos) env) (kh cx env cv g st s st') br s:=by
 refine wpAny_AugAssign_Name (wm (Fc cP R e1) (λu bq h1=>?_));refine h1.el λbM bR bL cj=>?_;clear h1;have cj:RV bM bq.heap u (.int v):=cj;induction (bh.inv cj) using gR.casesOn with
 | int t=>
 refine wpAny_Constant_int (AutoIntOps.iadd_0 ?_);have b8:=(bL.tok (bq.toks+1)).tok (bq.toks+1+1);have bY:=(bR.tok (bq.toks+1)).tok (bq.toks+1+1);refine wm (vK (a:=.val (.int (v+y))) (lo:=bq.heap) b8 (show RV bM bq.heap _ _ from .int _ _) bY (λb o q=>by (refine cg (bR.live b o q) λo' q'=>?_);exact ⟨o',q'⟩) e2) (λZ gq h3=>?_);rcases h3 with ⟨jk,qk,gu,gA,xj,_⟩
 exact ⟨rfl,jk,qk,gu,gA,xj⟩
theorem Nt{o e:Expr}{k:Str}{op:Operator}{tp pos:Pos}{m:Nat}{x y z:Int}{aP eH:St}{c:Addr}(cP:g9 P K h₀ mg mb)(SE:fT ev n d)(r:dm A n d)(hh:A.handled=none)(R:Rel cx env cv g st s)
  (e1:ev.e cx o st=some (.val (.obj m),aP)) (e2:sd aP (.val (.obj m)) k=some (.val (.int x))) (e3:ev.e cx e aP=some (.val (.int y),eH)) (hc:(eH.aD[m]?).map (·.cls)=some (some c)) (Es:(op=.Add/\z=x+y)\/(op=.Sub/\z=x-y)) (e4:lO cx eH m k (.val (.int z))=some st') :
  wpAny (model prog w) A (exec (.AugAssign (.Attribute o k tp) op e pos) env) (kh cx env cv g st s st') br s:=by
 refine wpAny_AugAssign_AttributeAny (wm (SE r hh e1 R) (λov bq h1=>?_));refine h1.el λbM bR bL cj=>?_;clear h1;refine wm (GW cP bL cj e2) (λu s₂ h2=>?_);revert h2;refine gj λbA gD=>?_;revert bA;refine gh λtk q=>?_;subst q;have gD:RV bM bq.heap u (.int x):=gD;refine wm (SE r hh e3 (bL.tok tk)) (λv gq h3=>?_);refine h3.el λjk gu gA m5=>?_;clear h3;have m5:RV jk gq.heap v (.int y):=m5;induction (bh.inv gD) using gR.casesOn with
 | int t=>
 induction (bh.inv m5) using gR.casesOn with
 | int t2=>
 have go:wpAny (model prog w) A (setAttr ov k (.int z gq.toks)) (λZ s'=>kh cx env cv g st s st' .next s') br {gq with toks:=gq.toks+1}:=by refine wm (Gk (a:=.val (.int z)) (lo:=s.heap) cP (gA.tok (gq.toks+1)) (show RV jk gq.heap _ _ from .int _ _) (((bR.tok tk).trans gu).tok (gq.toks+1)) (λZ o q=>⟨o,q⟩) ((gu.up).v cj) hc e4) (λZ pF h4=>?_);refine h4.el λzV kT lY=>?_;clear h4;exact ⟨rfl,zV,cv,kT,lY,λZ Z=>rfl⟩
 rcases Es with ⟨rfl,rfl⟩ | ⟨rfl,rfl⟩
 ·exact AutoIntOps.iadd_0 go
 ·exact AutoIntOps.isub_0 go
theorem OZ{o i e:Expr}{k:Str}{tp pos:Pos}{m:Nat}{x y:Int}{aP eH sG:St}(SE:fT ev n d)(SI:gW ev)(r:dm A n d)(hh:A.handled=none)(R:Rel cx env cv g st s)(hi:isSimple i=true)
  (e1:ev.e cx o st=some (.val (.obj m),aP)) (e2:ev.e cx i aP=some (.val (.str k),eH)) (e3:itemOf eH (.val (.obj m)) (.val (.str k))=some (.val (.int x))) (e4:ev.e cx e eH=some (.val (.int y),sG)) (hc:(sG.aD[m]?).map (·.cls)=some none) (e5:lO cx sG m k (.val (.int (x+y)))=some st') :
  wpAny (model prog w) A (exec (.AugAssign (.Subscript o i tp) .Add e pos) env) (kh cx env cv g st s st') br s:=by
 have dj:∀ov iv new,augStore i ov iv new=(do holding [new,ov,iv] (setItem ov iv new);release [new,ov,iv] [];pure .next):=by intro ov iv new;induction i using aac<;>first | rfl | exact b7 hi
 refine wpAny_AugAssign_SubscriptAny (wm (two (a:=.val (.obj m)) SE SI r hh R e1 rfl e2) (λov bq h1=>wm h1 (λiv s₂ h2=>?_))) dj;revert h2;refine ow λbW bY b8 Eo Ei=>?_;refine wm (GX r.u b8 Eo Ei e3) (λu gq h3=>?_);revert h3;refine gj λbA m5=>?_;revert bA;refine gh λtk q=>?_;subst q;have m5:RV bW s₂.heap u (.int x):=m5;refine wm (SE r hh e4 (b8.tok tk)) (λv pF h4=>?_);refine h4.el λzV kT lY Dy=>?_;clear h4;have Dy:RV zV pF.heap v (.int y):=Dy;have Xv:RV bW s₂.heap ov (.obj m):=Eo;have Xw:RV bW s₂.heap iv (.str k):=Ei;induction (bh.inv m5) using gR.casesOn with
 | int t=>
 induction (bh.inv Dy) using gR.casesOn with
 | int t2=>
 induction (bh.inv Xw) using iR.casesOn with
 | str t3 hk=>
 refine AutoIntOps.iadd_0 ?_;refine wm (Gl (a:=.val (.int (x+y))) (lo:=s.heap) (lY.tok (pF.toks+1)) (show RV zV pF.heap _ _ from .int _ _) (((bY.tok tk).trans kT).tok (pF.toks+1)) (λZ o q=>⟨o,q⟩) ((kT.up).v Xv) hc e5) (λZ oA h5=>?_);refine h5.el λDq sW oB=>?_;clear h5;exact ⟨rfl,Dq,cv,sW,oB,λZ Z=>rfl⟩
def HY(ev:Ev)(n d:Nat):Prop:=∀⦃cx:Ctx⦄ ⦃env:Env⦄ ⦃cv:Str->Addr⦄ ⦃g:G⦄ ⦃st aP st':St⦄ ⦃s:Shared⦄ ⦃A:Around⦄ ⦃e:Expr⦄ ⦃a:EV⦄ ⦃y:Str⦄ ⦃py uZ:Pos⦄,
 dm A n d->A.handled=none->nB e=true->ev.e cx e st=some (a,aP)->setName cx aP y a=some st'->Rel cx env cv g st s->wpAny (model prog w) A (exec (.Assign [.Name y py] e uZ) env) (kh cx env cv g st s st') br s
theorem O0{t:Expr}{ts:List Expr}(e:zc t=some ts):∃k p,t=.Tuple ts k p:=by
 induction t using aac with
 | Tuple us k p=>exists e;exact ⟨k,p,rfl⟩
 | _=>exact aM e
theorem FW{t:Expr}{x:Str}(e:nameOf t=some x):∃p,t=.Name x p:=by
 induction t using aac with
 | Name y p=>exists e;exact ⟨p,rfl⟩
 | _=>exact aM e
theorem yJ{a:EV}{i:Int}(e:wR a=some i):a=.val (.int i):=by
 induction a using EV.casesOn with
 | val v=>
  induction v using MV.casesOn with
  | int j=>exists e;rfl
  | _=>exact aM e
 | _=>exact aM e
theorem Gp{op:Operator}(e:isAdd op=true):op=.Add:=by
 induction op using Operator.casesOn with
 | Add=>rfl
 | _=>exact b7 e
theorem Nu{op:Operator}{x y z:Int}(e:HC op x y=some z):(op=.Add/\z=x+y)\/(op=.Sub/\z=x-y):=by
 induction op using Operator.casesOn with
 | Add=>exists e;exact .inl ⟨rfl,rfl⟩
 | Sub=>exists e;exact .inr ⟨rfl,rfl⟩
 | _=>exact aM e
theorem VF{o:Option (Option Addr)}{α:Type}{f:Option α}{x:α}{G:Prop}(k:∀c,o=some (some c)->f=some x->G)(e:(match (generalizing:=false) o with
  | some (some _)=>f
  | _=>none)=some x):G:=by
 induction o using aab with
 | none=>exact aM e
 | some o=>
  induction o using aab with
  | none=>exact aM e
  | some c=>exact k c rfl e
theorem VG{o:Option (Option Addr)}{α:Type}{f:Option α}{x:α}{G:Prop}(k:o=some none->f=some x->G)(e:(match (generalizing:=false) o with
  | some none=>f
  | _=>none)=some x):G:=by
 induction o using aab with
 | none=>exact aM e
 | some o=>
  induction o using aab with
  | none=>exact k rfl e
  | some c=>exact aM e
section
variable {fl:Fl} {pos:Pos} (cP:g9 P K h₀ mg mb) (mP:P.oH (Str.ofString "range")=some (.typ "range")) (SE:fT ev n d) (ST:kK ev n d) (SI:gW ev) (SA:HY ev n d) (SS:n8 ev n d)
  (r:dm A n d) (hh:A.handled=none) (dJ:cx.comp=false) (R:Rel cx env cv g st s)
include cP SE SI SA r hh dJ R in
theorem QI{ts:List Expr}{e:Expr}(e0:Jm ev cx ts e st=some (fl,st')):wpAny (model prog w) A (exec (.Assign ts e pos) env) (iT cx env cv g st s fl st') br s:=by
 induction ts using aaa with
 | nil=>exact aM e0
 | cons t u=>
 induction u using aaa with
 | cons a b=>exact aM e0
 | nil=>
 have e0:Im ev cx t e st (zc t)=some (fl,st'):=e0;cases ht:zc t with
 | some ts=>
  rw[ht]at e0;refine iU (O0 ht) λk p bA=>?_;obtain rfl:=bA;revert e0;refine jv λhc e=>?_;rw[er,not_or]at hc;revert e;refine eG λa aP e1 e=>?_;induction a using EV.casesOn with
  | val V=>
   induction V using MV.casesOn with
   | tup vs=>revert e;refine cN λxs hn e=>?_;revert e;refine dG λhx e=>?_;rw[aI,aK,aK]at hx;revert e;refine eZ λeH e2 e=>?_;exists e;exact wm (K8 SE r hh dJ R (by simpa using hc.1) e1 hn hx.1 hx.2 e2) (λZ Z p=>kh.toS p)
   | _=>exact aM e
  | _=>exact aM e
 | none=>
  rw[ht]at e0;revert e0;refine eG λa aP e1 e=>?_;revert e;refine eZ λeH e2 e=>?_;exists e;cases vo:nB e with
  | false=>exact wm (Gn cP SE SI r hh R (.inl vo) e1 e2) (λZ Z p=>kh.toS p)
  | true=>
   induction t using aac with
   | Name y py=>exact wm (SA r hh vo e1 e2 R) (λZ Z p=>kh.toS p)
   | _=>exact wm (Gn cP SE SI r hh R (.inr λx p q=>nomatch q) e1 e2) (λZ Z p=>kh.toS p)
include cP SE r hh R in
theorem O1{o e:Expr}{k:Str}{tp:Pos}{op:Operator}(e0:Io ev cx o k op e st=some (fl,st')):wpAny (model prog w) A (exec (.AugAssign (.Attribute o k tp) op e pos) env) (iT cx env cv g st s fl st') br s:=by
 revert e0;refine eG λuX aP e1 e=>?_;induction uX using EV.casesOn with
 | val B=>
  induction B using MV.casesOn with
  | obj m=>revert e;refine cN λold e2 e=>?_;revert e;refine eG λv eH e3 e=>?_;revert e;refine cN λx hx e=>?_;revert e;refine cN λy hy e=>?_;obtain rfl:=yJ hx;obtain rfl:=yJ hy;revert e;refine dG λZ e=>?_;revert e;refine VF λc hc e=>?_;revert e;refine cN λz hz e=>?_;revert e;refine dG λZ e=>?_;revert e;refine eZ λsG e4 e=>?_;exists e;exact wm (Nt cP SE r hh R e1 e2 e3 hc (Nu hz) e4) (λZ Z p=>kh.toS p)
  | _=>exact aM e
 | _=>exact aM e
include SE SI r hh R in
theorem O2{o i e:Expr}{tp:Pos}{op:Operator}(e0:Ip ev cx o i op e st=some (fl,st')):wpAny (model prog w) A (exec (.AugAssign (.Subscript o i tp) op e pos) env) (iT cx env cv g st s fl st') br s:=by
 revert e0;refine eG λuX aP e1 e=>?_;revert e;refine dG λAe e=>?_;rw[aI]at Ae;revert e;refine eG λj eH e2 e=>?_;induction uX using EV.casesOn with
 | val B=>
  induction B using MV.casesOn with
  | obj m=>
   induction j using EV.casesOn with
   | val J=>
    induction J using MV.casesOn with
    | str k=>revert e;refine cN λold e3 e=>?_;revert e;refine eG λv sG e4 e=>?_;revert e;refine cN λx hx e=>?_;revert e;refine cN λy hy e=>?_;obtain rfl:=yJ hx;obtain rfl:=yJ hy;revert e;refine dG λho e=>?_;obtain rfl:=Gp ho;revert e;refine VG λhc e=>?_;revert e;refine dG λZ e=>?_;revert e;refine eZ λTn e5 e=>?_;exists e;exact wm (OZ SE SI r hh R Ae.1 e1 e2 e3 e4 hc e5) (λZ Z p=>kh.toS p)
    | _=>exact aM e
   | _=>exact aM e
  | _=>exact aM e
 | _=>exact aM e
include cP R in
theorem O3{x:Str}{tp:Pos}{op:Operator}{e:Expr}(e0:Iq P cx x op e st=some (fl,st')):wpAny (model prog w) A (exec (.AugAssign (.Name x tp) op e pos) env) (iT cx env cv g st s fl st') br s:=by
 revert e0;refine dG λho e=>?_;obtain rfl:=Gp ho;revert e;refine cN λy hy e=>?_;refine iU (GY hy) λk p bA=>?_;obtain rfl:=bA;cases hg:getName P cx st x with
 | none=>rw[hg]at e;exact aM e
 | some a=>
  rw[hg]at e;induction a using EV.casesOn with
  | val V=>
   induction V using MV.casesOn with
   | int v=>revert e;refine dG λZ e=>?_;revert e;refine eZ λaP e1 e=>?_;exists e;exact wm (Nr cP R hg e1) (λZ Z p=>kh.toS p)
   | _=>exact aM e
  | _=>exact aM e
include cP mP SE ST SI SA SS r hh dJ R in
theorem O4{b:Stmt}(e:Ir P C ev cx b st=some (fl,st')):wpAny (model prog w) A (exec b env) (iT cx env cv g st s fl st') br s:=by
 induction b using Stmt.casesOn with
 | Return v p=>
  induction v using aab with
  | some e0=>revert e;refine eG λa aP e1 e=>?_;exact OX SE r hh dJ R e1 e
  | none=>exists e;exact wpAny_Return_none ⟨g,cv,Step.refl,R,⟨.none,rfl,rfl,.none⟩,λZ Z=>rfl⟩
 | Pass p=>exists e;exact wpAny_Pass ⟨g,cv,Step.refl,R,rfl,λZ Z=>rfl⟩
 | Expr e0 p=>revert e;refine jv λhc e=>?_;revert e;refine eG λa aP e1 e=>?_;revert e;refine dG λhd e=>?_;exists e;exact Sg SE r hh R (by simpa using hc) e1 hd
 | Assign ts e0 p=>exact QI cP SE SI SA r hh dJ R e
 | AugAssign t op e0 p=>
  induction t using aac with
  | Attribute o k q=>exact O1 cP SE r hh R e
  | Subscript o i q=>exact O2 SE SI r hh R e
  | Name x q=>exact O3 cP R e
  | _=>exact aM e
 | If t a b p=>revert e;refine eG λc aP e1 e=>?_;exact VB ST SS r hh dJ R e1 e
 | While t a rD p=>revert e;refine dG λhe e=>?_;obtain rfl:=cz.mp he;exact QG ST SS r hh dJ R e
 | For t it a rD p=>revert e;refine dG λhe e=>?_;obtain rfl:=cz.mp he;revert e;refine cN λx hx e=>?_;refine cg (FW hx) λq bA=>?_;obtain rfl:=bA;revert e;refine jv λg4 e=>?_;revert e;refine HD λxs cL aP e1 e=>?_;revert e;refine dG λjl e=>?_;revert e;refine eG λzg eH e2 e=>?_;revert e;refine jv λhb e=>?_;exists e;exact TJ cP mP SE SI SS r hh dJ R (by simpa using g4) e1 jl e2 (by simpa using hb)
 | Try a hs rD f p=>
  revert e;refine dG λhe e=>?_;rw[aI,aI,cz,cz,Bool.not_eq_true']at he;revert he;refine gj λbA hf=>?_;revert bA;refine gj λiW bZ=>?_;obtain rfl:=iW;obtain rfl:=bZ;induction f using aaa with
  | nil=>exact b7 hf.symm
  | cons zU f=>
   revert e;refine eG λIT aP e1 e=>?_;revert e;refine eG λzg eH e2 e=>?_;induction zg using Fl.casesOn with
   | bN=>exists e;exact TF SS r hh dJ R e1 e2
   | ret _=>exact aM e
 | _=>exact aM e
end
theorem Nv(SO:HR ev n d)(r:dm A n d)(hh:A.handled=none)(dJ:cx.comp=false){b:List Stmt}{fl:Fl}:∀{cv:Str->Addr} {g:G} {st st':St} {s:Shared},j8 ev cx b st=some (fl,st')->Rel cx env cv g st s->
  wpAny (model prog w) A (execs b env) (iT cx env cv g st s fl st') br s:=by
 induction b with
 | nil=>intro cv g st st' s e R;exists e;exact wpAny_execs_nil ⟨g,cv,Step.refl,R,rfl,λZ Z=>rfl⟩
 | cons b bs ih=>
  intro cv g st st' s e R;revert e;refine eG λIT aP e1 e=>?_;refine wpAny_execs_cons (wm (SO r hh dJ e1 R) (λfw bq p=>?_));induction IT using Fl.casesOn with
  | bN=>refine p.el λbM pe bR bL bA sX=>?_;clear p;obtain rfl:=bA;exact wm (ih e bL) (λZ Z p=>p.after bR sX)
  | ret v=>exists e;refine p.el λbM pe bR bL bA sX=>cg bA λu wX=>?_;obtain rfl:=wX.1;exact p
structure Facts(P:Prog)(K:Frag)(h₀:Heap)(mg mb:Str->Option Value):Prop where
 cP:g9 P K h₀ mg mb
 range:P.oH (Str.ofString "range")=some (.typ "range")
 fk:∀a F,P.fn a=some F->∃o fd,qx K a F o fd
 Xx:∀c Cc m f,P.cls c=some Cc->look Cc.meths m=some f->yR K c m f
 ck:∀c Cc,P.cls c=some Cc->Cq K c Cc
 self:∀c Cc fI,P.cls c=some Cc->Cc.uO=false->Cc.init=some fI->BS P fI
theorem MC{fn:Str}{fp pos:Pos}{as:List Expr}{bs:List EV}{a:Addr}{Cc:Cl}{r:EV}{aP eH:St}{ls:List LV}(F:Facts P K h₀ mg mb)(SE:fT ev n d)(SI:gW ev)(CS:oY C n)(OS:rT P C n)(ro:dm A n (d+1))(hh:A.handled=none)
  (R:Rel cx env cv g st s) (dj:as.all noStar=true) (e1:ev.e cx (.Name fn fp) st=some (.val (.glob a),aP)) (hC:P.cls a=some Cc) (e2:fC (ev.e cx) as aP=some (bs,eH)) (ho:jI cx (as.all isSimple) bs=true) (nW:bs.any gX=false) (e3:ki (nN eH) bs=some ls)
  (e4:fV.uF C cx a Cc ls eH=some (r,st')):wpAny (model prog w) A (eval (.Call (.Name fn fp) as [] pos) env) (ez cx env cv g st s r st') br s:=by
 refine wpAny_Call_NameR (wm (SE (ro.less (bG _)) hh e1 R) (λv bq pq=>?_));refine pq.el λbM bR bL cj=>?_;clear pq;(induction (bh.inv cj) using wD.casesOn;clear cj);have co:=F.ck a Cc hC;refine A0 SE SI (ro.less (bG _)) hh F.cP co.keep bL dj e2 ho λvs bW s₂ bY b8 jt=>?_;refine cu (Be (fY:=cx.ro) b8 id jt e3 λq=>by rw[nW]at q;exact b7 q) λl1 l2=>?_;cases hp:Cc.uO with
 | true=>exact wm (Mq CS ro hh F.cP co hp b8 e4 l1 l2) (λv gq p=>p.after (bR.trans bY))
 | false=>exact wm (Nj OS ro hh F.cP co (λfI hi=>F.self a Cc fI hC hp hi) hp b8 e4 l1 l2) (λv gq p=>p.after (bR.trans bY))
theorem O5{a:EV}{v:MV}(e:sA a=some v):a=.val v:=by
 induction a using EV.casesOn with
 | val u=>exists e;rfl
 | _=>exact aM e
theorem O6{i j:Expr}(e:zb i=some j):∃p,i=.Slice none (some j) none p:=by
 induction i using aac with
 | Slice a b c p=>
  induction a using aab with
  | some=>exact aM e
  | none=>
   induction b using aab with
   | none=>induction c using aab<;>exact aM e
   | some i=>
    induction c using aab with
    | some=>exact aM e
    | none=>exists e;exact ⟨p,rfl⟩
 | _=>exact aM e
theorem QJ{gs:List Comprehension}{x:Str}{iter:Expr}{ifs:List Expr}(e:CW gs=some (x,iter,ifs)):∃p,gs=[⟨.Name x p,iter,ifs,0⟩]:=by
 induction gs using aaa with
 | nil=>exact aM e
 | cons c r=>
  rcases c with ⟨t,it,is,a⟩
  induction r using aaa with
  | cons a b=>exact aM e
  | nil=>revert e;refine dG λha e=>?_;obtain rfl:=ai ha;revert e;refine eZ λy hy e=>?_;refine cg (FW hy) λp bA=>?_;obtain rfl:=bA;cases (e);exact ⟨p,rfl⟩
section
variable {a:EV} {pos:Pos} (F:Facts P K h₀ mg mb) (SE:fT ev n d) (ST:kK ev n d) (SI:gW ev) (CS:oY C n) (OS:rT P C n) (hC:∀cx a ls σ r,C cx a ls σ=some r->∃F,P.fn a=some F)
  (xm:dm A n (d+1)) (r:dm A n d) (hh:A.handled=none) (R:Rel cx env cv g st s)
include F SE r hh R in
theorem QK{ks:List (Option Expr)}{vs:List Expr}(e:Jj ev cx ks vs st=some (a,st')):wpAny (model prog w) A (eval (.Dict ks vs pos) env) (ez cx env cv g st s a st') br s:=by
 revert e;refine mD (λh0 e=>?_) λh0 e=>?_
 ·rw[aI,cz,cz]at h0;revert h0;refine gj λbA iW=>?_;obtain rfl:=bA;obtain rfl:=iW;exists e,e;exact Qq F.cP R
 revert e;refine dG λhc e=>?_;rw[aI,aI,aK,Bool.not_eq_true']at hc;revert e;refine cN λpM e1 e=>?_;revert e;refine dG λl6 e=>?_;revert e;refine eG λas aP e2 e=>?_;revert e;refine cN λss e3 e=>?_;revert e;refine dG λhl e=>?_;exists e,e;refine R5 SE r hh R hc.1.2 ?_ hc.2 e1 (ai l6) e2 e3 hl;rintro rfl;exists e1,e1;have pL:ss=[]:=cD.mp (by rw[<-hl];rfl);subst pL;have has:as=[]:=by
  induction as using aaa with
  | nil=>rfl
  | cons a r=>have e3:((newSlot a).bind λb=>(ki newSlot r).bind λbs=>some (b::bs))=some []:=e3;exact cN (λZ Z e=>cN (λZ Z e=>by cases (e)) e) e3
 subst has;have tO:vs=[]:=cD.mp (yi e2).symm;subst tO;exact h0 rfl
include SE SI r hh R in
theorem QL{o i:Expr}(e:uQ ev cx o i st=some (a,st')):wpAny (model prog w) A (eval (.Subscript o i pos) env) (ez cx env cv g st s a st') br s:=by
 unfold uQ at e;cases hi:zb i with
 | some j=>rw[hi]at e;refine cg (O6 hi) λp bA=>?_;obtain rfl:=bA;revert e;refine eG λb aP e1 e=>?_;revert e;refine dG λhs e=>?_;revert e;refine eG λc eH e2 e=>?_;revert e;refine eZ λv e3 e=>?_;exists e;exact Qp SE SI r hh R hs e1 e2 e3
 | none=>rw[hi]at e;revert e;refine jv λhs e=>?_;revert e;refine eG λb aP e1 e=>?_;revert e;refine jv λhb e=>?_;revert e;refine eG λc eH e2 e=>?_;revert e;refine eZ λv e3 e=>?_;exists e;exact Lx SE SI r hh R (by simpa using hs) e1 (by simpa using hb) e2 e3
theorem Gr{elt:Expr}{gs:List Comprehension}{sc:Scope}{G:Prop}(k:∀x p iter ifs xs cL aP ys gi,gs=[⟨.Name x p,iter,ifs,0⟩]->ia ev cx iter st=some (xs,cL,aP)->ur cx sc x iter aP=true->
  mQ ev (j4 sc cx cL) ifs elt x (aP.loc.map eY) xs aP.aD=some (ys,gi)->xs.length<bE->a=.fresh (.lst ys)->st'={aP with aD:=gi}->G)
  (e:Ci ev cx elt gs sc st=some (a,st')):G:=by
 unfold Ci at e;cases hg:CW gs with
 | none=>rw[hg]at e;exact aM e
 | some q=>
  rw[hg]at e;rcases q with ⟨x,iter,ifs⟩
  refine cg (QJ hg) λp hp=>?_;revert e;refine HD λxs cL aP e1 e=>?_;revert e;refine jv λgn e=>?_;revert e;refine eG λys gi e2 e=>?_;revert e;refine dG λjl e=>?_;refine pairK e λq1 q2=>?_;exact k x p iter ifs xs cL aP ys gi hp e1 (by simpa using gn) e2 jl q1 q2
include F SE SI CS hC r hh R in
theorem Nx{o:Expr}{m:Str}{apos:Pos}{as:List Expr}(e:Hz P C ev cx o m apos as pos st=some (a,st')):wpAny (model prog w) A (eval (.Call (.Attribute o m apos) as [] pos) env) (ez cx env cv g st s a st') br s:=by
 revert e;refine dG λhc e=>?_;rw[aI,aI,aI,aK]at hc;revert hc;refine gj λbA Kn=>?_;revert bA;refine gj λiW Ko=>?_;revert iW;refine gj λqC Et=>?_;revert e;refine eG λb aP e1 e=>?_;revert e;refine cN λmf em e=>?_;revert e;refine eG λbs eH e2 e=>?_;revert e;refine dG λho e=>?_;induction mf using aab with
 | some fa=>revert e;refine cN λsv e3 e=>?_;revert e;refine cN λls e4 e=>?_;obtain ⟨Fn,hF⟩:∃Fn,P.fn fa=some Fn:=cN (λZ e5 Z=>hC _ _ _ _ _ e5) e;exact Ml SE SI CS r hh F.cP F.Xx F.fk hF R qC Et Ko Kn e1 em e2 ho e3 e4 e
 | none=>revert e;refine jv λiM e=>?_;exact LG SE SI r hh R qC Et Ko Kn e1 em e2 ho (by simpa using iM) e
include F SE SI CS OS xm r hh R in
theorem Ny{f:Str}{fp:Pos}{as:List Expr}(e:HA P C ev cx f fp as st=some (a,st')):wpAny (model prog w) A (eval (.Call (.Name f fp) as [] pos) env) (ez cx env cv g st s a st') br s:=by
 revert e;refine jv λdj e=>?_;have dj:as.all noStar=true:=by simpa using dj
 revert e;refine eG λb aP e1 e=>?_;revert e;refine eG λbs eH e2 e=>?_;revert e;refine dG λho e=>?_;revert e;refine cN λv hv e=>?_;obtain rfl:=O5 hv;induction v using MV.casesOn with
 | glob ga=>
  have e:wA P C cx bs eH ga=some (a,st'):=e;unfold wA at e;cases hF:P.fn ga with
  | some Fn=>rw[hF]at e;revert e;refine cN λls e3 e=>?_;exact OC SE SI CS r hh F.cP F.fk R dj e1 hF e2 ho e3 e
  | none=>rw[hF]at e;revert e;refine cN λCc Xy e=>?_;revert e;refine jv λnW e=>?_;revert e;refine cN λls e3 e=>?_;exact MC F SE SI CS OS xm hh R dj e1 Xy e2 ho (by simpa using nW) e3 e
 | blt i=>revert e;refine eZ λv e3 e=>?_;exists e;exact Qv SE SI r hh R dj e1 e2 ho e3
 | typ i=>revert e;refine eZ λv e3 e=>?_;exists e;exact Qw SE SI r hh R dj e1 e2 ho e3
 | _=>exact aM e
include F SE ST SI CS OS hC xm hh R in
theorem O7{x:Expr}(e:fV P C ev cx x st=some (a,st')):wpAny (model prog w) A (eval x env) (ez cx env cv g st s a st') br s:=by
 have r:dm A n d:=xm.less (bG _);induction x using aac with
 | Constant c k p=>revert e;refine eZ λv hv e=>?_;exists e;exact Mh R hv
 | Name x p=>revert e;refine eZ λv hv e=>?_;exists e;exact HN F.cP R hv
 | UnaryOp=>exact M1 (C:=C) SE r hh R e
 | BoolOp op es p=>exact Qo SE r hh R e
 | IfExp=>exact Qn (C:=C) SE ST r hh R e
 | BinOp=>exact Qm (C:=C) SE SI r hh R e
 | Compare l ops rs p=>refine rj (Qu e) λop q g8 nh e=>?_;obtain rfl:=g8;obtain rfl:=nh;exact M0 SE SI r hh R e
 | Tuple es k p=>revert e;refine dG λhc e=>?_;rw[aI,aK]at hc;revert e;refine eG λas aP e1 e=>?_;revert e;refine eZ λvs e2 e=>?_;exists e;exact Ql SE r hh R hc.1 hc.2 e1 e2
 | List es p=>revert e;refine dG λhc e=>?_;rw[aI,aK]at hc;revert e;refine eG λas aP e1 e=>?_;revert e;refine eZ λvs e2 e=>?_;exists e;exact RQ SE r hh R hc.1 hc.2 e1 e2
 | Dict ks vs p=>exact QK F SE r hh R e
 | Attribute o k p=>revert e;refine dG λhs e=>?_;revert e;refine eG λb aP e1 e=>?_;revert e;refine eZ λv e2 e=>?_;exists e;exact Lw F.cP SE r hh R hs e1 e2
 | Subscript o i p=>exact QL SE SI r hh R e
 | ListComp elt gs sc p=>refine Gr (λx q iter ifs xs cL aP ys gi hg e1 gn e2 jl q1 q2=>?_) e;subst hg q1 q2;exact Fp F.cP F.range SE ST SI r hh R e1 gn e2 jl
 | Call f as kw p=>
  induction kw using aaa with
  | cons=>exact aM e
  | nil=>
   induction f using aac with
   | Attribute o m q=>exact Nx F SE SI CS hC r hh R e
   | Name x q=>exact Ny F SE SI CS OS xm r hh R e
   | _=>exact aM e
 | _=>exact aM e
end
theorem O8{e:Expr}{a:EV}{aP:St}{y:Str}{py uZ:Pos}(F:Facts P K h₀ mg mb)(SE:fT ev n d)(ST:kK ev n d)(SI:gW ev)
  (r:dm A n d) (hh:A.handled=none) (vo:nB e=true) (e1:fV P C ev cx e st=some (a,aP)) (e3:setName cx aP y a=some st') (R:Rel cx env cv g st s) :
  wpAny (model prog w) A (exec (.Assign [.Name y py] e uZ) env) (kh cx env cv g st s st') br s:=by
 induction e using aac with
 | ListComp elt gs sc p=>refine Gr (λx q iter ifs xs cL aP ys gi hg e4 gn e2 jl q1 q2=>?_) e1;subst hg q1 q2;exact Lj F.cP F.range SE ST SI r hh R e4 gn e2 jl e3
 | SetComp=>exact aM e1
 | DictComp=>exact aM e1
 | _=>exact b7 vo
structure O9(ev:Ev)(n d:Nat):Prop where
 e:fT ev n d
 t:kK ev n d
 a:HY ev n d
 s:HR ev n d
 ss:n8 ev n d
theorem Sh(F:Facts P K h₀ mg mb)(CS:oY C n)(OS:rT P C n)(hC:∀cx a ls σ r,C cx a ls σ=some r->∃F,P.fn a=some F)(d:Nat):O9 (run P C d) n d:=by
 induction d with
 | zero=>exact ⟨λZ Z Z Z Z Z Z Z Z Z Z Z e Z=>aM e,λZ Z Z Z Z Z Z Z Z Z Z Z e Z=>aM e,λZ Z Z Z Z Z Z Z Z Z Z Z Z Z Z Z Z e Z Z=>aM e,λZ Z Z Z Z Z Z Z Z Z Z Z Z e Z=>aM e,λZ Z Z Z Z Z Z Z Z Z Z Z Z e Z=>aM e⟩
 | succ d I=>
  have SI:=Mm P C d;exact ⟨λZ Z Z Z Z Z Z Z Z Z r hh e R=>O7 (C:=C) F I.e I.t SI CS OS hC r hh R e,λZ Z Z Z Z Z Z Z Z Z r hh e R=>Ot (C:=C) I.e SI I.t (r.less (bG _)) hh R e,λZ Z Z Z Z Z Z Z Z Z Z Z Z Z r hh hc e e2 R=>O8 (C:=C) F I.e I.t SI (r.less (bG _)) hh hc e e2 R,
   λZ Z Z Z Z Z Z Z Z Z r hh dJ e R=>O4 (C:=C) F.cP F.range I.e I.t SI I.a I.ss (r.less (bG _)) hh dJ R e,λZ Z Z Z Z Z Z Z Z Z r hh dJ e R=>Nv I.s (r.less (bG _)) hh dJ e R⟩
theorem Pa{RB:rQ}:∀{n:Nat} {cx:Ctx} {a:Addr} {ls:List LV} {σ:eN} {r:EV×St},jq P RB n cx a ls σ=some r->∃F,P.fn a=some F
 | 0,_,_,_,_,_,e=>by exact aM e
 | n+1,_,_,_,_,_,e=>by
  skip;revert e;refine cN λF hF Z=>?_;exact ⟨F,hF⟩
theorem Pb{RB:rQ}(F:Facts P K h₀ mg mb)(n:Nat):oY (jq P RB n) n/\rT P (jq P RB n) n:=by
 induction n with
 | zero=>exact ⟨λZ Z Z Z Z Z Z Z Z Z Z Z e Z Z Z Z=>aM e,OG⟩
 | succ n ih=>have SS:n8 (run P (jq P RB n) nP) n nP:=(Sh (C:=jq P RB n) F ih.1 ih.2 (λZ Z Z Z Z e=>Pa e) nP).ss;exact ⟨LD SS F.cP F.fk,Ni SS F.cP F.fk⟩
end Mine
set_option maxHeartbeats 4000000
local macro_rules
  | `(tactic| done) => `(tactic| kernel_rfl)
open PySem Mine
namespace Mine.B
theorem jP{α β:Type}{o:Option α}{f:α->Option β}{a:α}{r:Option β}(h:o=some a)(k:f a=r):o.bind f=r:=by rw[h];exact k
noncomputable def RB:rQ:=λa=>a==1423||a==1418||[166,199,268,631,867,895,1084].contains a
noncomputable def sI(n:Int):MV:=.int n
noncomputable def sK(s:String):MV:=.tup [.int 1,.str (Str.ofString s)]
noncomputable def nums(t:List Int):MV:=.tup (t.map .int)
def j9:List MV:=[sK "any",sK "unknown",sK "never",sK "void",sK "undefined",sK "null",sK "string",sK "number",nums [2,0,0],nums [2,1,0],sK "object",
 .tup [.int 8,.tup [],.tup [],.tup [],.tup [],.tup [],.int 0],.tup [.int 6,nums [8,9]],sK "error",nums [2,0,1],nums [2,1,1],
 .tup [.int 8,.tup [.tup [.str (Str.ofString "p"),.int 7,.int 0,.int 0]],.tup [],.tup [],.tup [],.tup [],.int 0],
 .tup [.int 8,.tup [.tup [.str (Str.ofString "q"),.int 6,.int 0,.int 0]],.tup [],.tup [],.tup [],.tup [],.int 0],
 .tup [.int 6,nums [4,16]],nums [10,0],nums [10,1],.tup [.int 6,nums [4,5]],nums [10,2],nums [10,3],.tup [.int 6,nums [3,16]],nums [10,4],nums [10,5],nums [11,7,0],
 .tup [.int 7,nums [19,11]],.tup [.int 7,nums [22,11]],.tup [.int 7,nums [23,11]],.tup [.int 7,nums [25,11]],.tup [.int 7,nums [26,11]]]
noncomputable def numbered:Nat->List MV->List (MV×MV)
 | _,[]=>[]
 | n,x::r=>(x,.int n)::numbered (n+1) r
noncomputable def fS(s:String)(v:eO):Str×eO:=(Str.ofString s,v)
def cQ(R:List MV)(I:List (MV×MV)):kR:=⟨some 285,[fS "rows" (.c (.lst (j9++R))),fS "index" (.c (.bO (numbered 0 j9++I))),fS "decls" (.c (.lst [.none])),fS "bounds" (.c (.lst ([18,16,21,19,24,23].map .int))),fS "defaults" (.c (.lst (List.replicate 6 (.int (-1))))),
 fS "names" (.c (.lst (["T","S","V","W","I","X"].map λs=>.str (Str.ofString s)))),fS "origins" (.c (.bO [])),fS "renamed" (.c (.bO [])),fS "shaping" (.v (.int 0)),fS "putting" (.v (.int 0))]⟩
noncomputable def fnOf(a:Addr):Fn:=(PG.fn a).getD ⟨[],[],[],default⟩
abbrev rn(n d:Nat):Ev:=run PG (jq PG RB n) d
noncomputable def hd(b:List Stmt):Stmt:=b.headD (.Pass default)
noncomputable def x1(e:Expr):Expr:=(ep e).a
noncomputable def x2(e:Expr):Expr:=(ep e).b
noncomputable def x3(e:Expr):Expr:=(ep e).c
noncomputable def xl(e:Expr):List Expr:=(ep e).l
noncomputable def xn(e:Expr):Str:=(ep e).n
noncomputable def xk(e:Expr):Nat:=(ep e).k
def xc(e:Expr):CmpOp:=(ep e).o
noncomputable def xo(e:Expr):Operator:=(ep e).p
noncomputable def iO(e:Expr):Scope:=(ep e).s
structure Sp where
 e:Expr:=default
 t:Expr:=default
 b:List Stmt:=[]
 l:List Stmt:=[]
noncomputable def sp:Stmt->Sp
 | .If e b o _=>{e:=e,b:=b,l:=o}
 | .For t e b _ _=>{e:=e,t:=t,b:=b}
 | .While e b _ _=>{e:=e,b:=b}
 | .Try b _ _ o _=>{b:=b,l:=o}
 | .Assign ts e _=>{e:=e,t:=ts.headD default}
 | .Return v _=>{e:=v.getD default}
 | .Expr e _=>{e:=e}
 | .AugAssign t _ e _=>{e:=e,t:=t}
 | _=>{}
noncomputable def sv(s:Stmt):Expr:=(sp s).e
noncomputable def xt(s:Stmt):Expr:=(sp s).t
noncomputable def bo(s:Stmt):List Stmt:=(sp s).b
noncomputable def el(s:Stmt):List Stmt:=(sp s).l
def iG(s:Stmt):Str:=xn (xt s)
noncomputable def Dz:EV->Bool
 | .val _=>true
 | .fresh _=>true
 | _=>false
def Runs(n:Nat)(cx:Ctx)(a:Addr)(ls:List LV)(σ:eN)(r:EV)(σ':eN):Prop:=∃loc,jq PG RB n cx a ls σ=some (r,⟨loc,σ'⟩)
def Go(n d:Nat)(cx:Ctx)(b:List Stmt)(st:St)(fl:Fl)(st':St):Prop:=j8 (rn n d) cx b st=some (fl,st')
variable {n d:Nat} {cx:Ctx} {a:Addr} {ls:List LV} {σ σ':eN} {r:EV} {b:List Stmt} {st st1 st2:St} {fl:Fl} {s:Stmt} {e:Expr}
theorem bQ(h:b.isEmpty=true):Go n d cx b st .bN st:=by
 induction b using aaa with
 | nil=>rfl
 | cons=>exact b7 h
theorem aU(st1:St)(hb:b.isEmpty=false)(h:(rn n d).s cx (hd b) st=some (.bN,st1))(k:Go n d cx b.tail st1 fl st2):Go n d cx b st fl st2:=by
 induction b using aaa with
 | nil=>cases (hb)
 | cons s r=>show ((rn n d).s cx s st).bind _=_;rw[show (rn n d).s cx s st=_ from h];exact k
theorem gc(hb:b.isEmpty=false){v:EV}(h:(rn n d).s cx (hd b) st=some (.ret v,st1)):Go n d cx b st (.ret v) st1:=by
 induction b using aaa with
 | nil=>cases (hb)
 | cons s r=>show ((rn n d).s cx s st).bind _=_;rw[show (rn n d).s cx s st=_ from h];rfl
theorem eX(hF:(PG.fn a).isSome=true)(gF:(!RB a||cx.rb)=true){loc loc':List (Str×LV)}(hB:Bind (fnOf a) ls=some loc)(h:Go n 15 ⟨(fnOf a).scope,cx.ro,RB a,false⟩ (fnOf a).body ⟨loc,σ⟩ (.ret r) ⟨loc',σ'⟩):Runs (n+1) cx a ls σ r σ':=by
 refine cg (bH.mp hF) λF pP=>?_;have e:fnOf a=F:=by unfold fnOf;rw[pP];rfl
 rw[e]at hB h;refine ⟨loc',?_⟩;exact jP pP ((aq gF).trans (jP hB (jP h rfl)))
theorem qO(hF:(PG.fn a).isSome=true)(gF:(!RB a||cx.rb)=true){loc loc':List (Str×LV)}(hB:Bind (fnOf a) ls=some loc)(h:Go n 15 ⟨(fnOf a).scope,cx.ro,RB a,false⟩ (fnOf a).body ⟨loc,σ⟩ .bN ⟨loc',σ'⟩):Runs (n+1) cx a ls σ (.val .none) σ':=by
 refine cg (bH.mp hF) λF pP=>?_;have e:fnOf a=F:=by unfold fnOf;rw[pP];rfl
 rw[e]at hB h;refine ⟨loc',?_⟩;exact jP pP ((aq gF).trans (jP hB (jP h rfl)))
theorem eE{e':Expr}(he:e=e')(h:(rn n d).e cx e' st=some (r,st1)):(rn n d).e cx e st=some (r,st1):=he▸h
theorem tE{c:Bool}{e':Expr}(he:e=e')(h:(rn n d).t cx e' st=some (c,st1)):(rn n d).t cx e st=some (c,st1):=he▸h
theorem sE{s':Stmt}(he:s=s')(h:(rn n d).s cx s' st=some (fl,st1)):(rn n d).s cx s st=some (fl,st1):=he▸h
theorem CA(hs:s=.Assign [.Name (iG s) (xt s).pos] (sv s) s.pos){v:EV}(he:(rn n d).e cx (sv s) st=some (v,st1))(h:setName cx st1 (iG s) v=some st2):(rn n (d+1)).s cx s st=some (.bN,st2):=
 sE hs (show ((rn n d).e cx (sv s) st).bind _=_ by
  rw[show (rn n d).e cx (sv s) st=_ from he,ah];show (setName cx st1 (iG s) v).map _=_;rw[h];rfl)
theorem iC(hs:s=.Return (some (sv s)) s.pos){v:MV}(he:(rn n d).e cx (sv s) st=some (.val v,st1)):(rn n (d+1)).s cx s st=some (.ret (.val v),st1):=
 sE hs (show ((rn n d).e cx (sv s) st).bind _=_ by rw[show (rn n d).e cx (sv s) st=_ from he];rfl)
theorem YD(hs:s=.Return (some (sv s)) s.pos){v:MV}(he:(rn n d).e cx (sv s) st=some (.fresh v,st1)):(rn n (d+1)).s cx s st=some (.ret (.fresh v),st1):=
 sE hs (show ((rn n d).e cx (sv s) st).bind _=_ by rw[show (rn n d).e cx (sv s) st=_ from he];rfl)
theorem iE(c:Bool)(hs:s=.If (sv s) (bo s) (el s) s.pos)(he:(rn n (d+1)).t cx (sv s) st=some (c,st1))(h:Go n d cx (if c then bo s else el s) st1 fl st2):(rn n (d+2)).s cx s st=some (fl,st2):=
 sE hs (show ((rn n (d+1)).t cx (sv s) st).bind _=_ by
  rw[show (rn n (d+1)).t cx (sv s) st=_ from he,ah];induction c using aad<;>exact h)
def lD(n d:Nat)(cx:Ctx)(x:Str)(b:List Stmt)(xs:List MV)(st:St)(fl:Fl)(st':St):Prop:=forL (rn n (d+1)) cx x b xs st=some (fl,st')
theorem mJ{x:Str}:lD n d cx x b [] st .bN st:=rfl
theorem jn{x:Str}{v:MV}{xs:List MV}{oN:St}(h:setName cx st x (.val v)=some st1)(k:Go n d cx b st1 .bN st2)(r:lD n d cx x b xs st2 fl oN):lD n d cx x b (v::xs) st fl oN:=jP (jP h k) r
theorem vF{x:Str}{v:MV}{xs:List MV}{w:EV}(h:setName cx st x (.val v)=some st1)(k:Go n d cx b st1 (.ret w) st2):lD n d cx x b (v::xs) st (.ret w) st2:=jP (jP h k) rfl
theorem uL{xs:List MV}{ins:Bool}(hs:s=.For (.Name (iG s) (xt s).pos) (sv s) (bo s) [] s.pos)(ho:ia (rn n (d+1)) cx (sv s) st=some (xs,ins,st1))(hx:xs.length<bE)(hl:lD n d {cx with ro:=cx.ro||ins} (iG s) (bo s) xs st1 fl st2)(hb:(ins&&st2.loc.any vZ)=false)(hq:jJ (sv s)=false:=by rfl):(rn n (d+2)).s cx s st=some (fl,st2):=
 sE hs (show (if jJ (sv s)=true then none else _)=_ by
  rw[hq,au (by decide),ho,ah];dsimp only;rw[aq hx,show forL _ _ _ _ xs st1=_ from hl,ah];dsimp only;rw[hb];rfl)
theorem dO{v:EV}{as:List EV}(ad:Addr)(he:e=.Call (.Name (xn (x1 e)) (x1 e).pos) (xl e) [] e.pos)(hn:(xl e).all noStar=true)(hF:(PG.fn ad).isSome=true)(hf:(rn n d).e cx (.Name (xn (x1 e)) (x1 e).pos) st=some ((.val (.glob ad)),st))(hl:fC ((rn n d).e cx) (xl e) st=some (as,st1))(hk:jI cx ((xl e).all isSimple) as=true)
  (hm:ki (nN st1) as=some ls) (hc:Runs n {cx with ro:=cx.ro||as.any gX} ad ls st1.aD v σ') (hv:Dz v=true):(rn n (d+1)).e cx e st=some (v,⟨st1.loc,σ'⟩):=
 eE he (show (if _ then _ else _)=_ by
  refine cg (bH.mp hF) λF pP=>?_;revert hc;refine gh λloc hc=>?_;rw[hn,au (by decide),show (rn n d).e cx (.Name _ _) st=_ from hf,ah];dsimp only;rw[show fC _ (xl e) st=_ from hl,ah];dsimp only;rw[aq hk];show wA _ _ _ _ _ ad=_;unfold wA;rw[pP];dsimp only;rw[hm,ah];dsimp only[fV.sC];rw[hc,ah];induction v using EV.casesOn with
  | val=>rfl
  | fresh=>rfl
  | _=>exact b7 hv)
theorem uw(he:e=.Call (.Name (xn (x1 e)) (x1 e).pos) (xl e) [] e.pos)(a:Addr)(hF:(PG.fn a).isSome=true)(hf:(rn n d).e cx (.Name (xn (x1 e)) (x1 e).pos) st=some (.val (.glob a),st)){bs:List EV}(hl:fC ((rn n d).e cx) (xl e) st=some (bs,st1))(hk:jI cx ((xl e).all isSimple) bs=true)
  (hm:ki (nN st1) bs=some ls) (hc:Runs n {cx with ro:=cx.ro||bs.any gX} a ls st1.aD r σ') (hv:Dz r=true) (hn:(xl e).all noStar=true:=by rfl):(rn n (d+1)).e cx e st=some (r,⟨st1.loc,σ'⟩):=dO a he hn hF hf hl hk hm hc hv
theorem VH{c:Bool}(he:e=.BoolOp .Or (xl e) e.pos)(h:pC ((rn n d).t cx) (xl e) st=some (c,st1)):(rn n (d+1)).t cx e st=some (c,st1):=tE he h
theorem kL{es:List Expr}{c:Bool}(he:es.isEmpty=false)(h:(rn n d).t cx (es.headD default) st=some (false,st1))(k:pC ((rn n d).t cx) es.tail st1=some (c,st2)):pC ((rn n d).t cx) es st=some (c,st2):=by
 induction es using aaa with
 | nil=>cases (he)
 | cons e es=>exact jP h k
theorem uo{es:List Expr}(he:es.isEmpty=false)(h:(rn n d).t cx (es.headD default) st=some (true,st1)):pC ((rn n d).t cx) es st=some (true,st1):=by
 induction es using aaa with
 | nil=>cases (he)
 | cons e es=>exact jP h rfl
theorem BX{v:MV}{c:Bool}(he:e=.Call (.Name (xn (x1 e)) (x1 e).pos) (xl e) [] e.pos)(h:(rn n d).e cx e st=some (.val v,st1))(ht:truth v=some c):(rn n (d+1)).t cx e st=some (c,st1):=
 tE he (show ((rn n d).e cx (.Call (.Name (xn (x1 e)) (x1 e).pos) (xl e) [] e.pos) st).bind _=_ by
  rw[<-he,show (rn n d).e cx e st=_ from h];show (truth v).map _=_;rw[ht];rfl)
noncomputable def V(x:String)(v:MV):Str×LV:=(Str.ofString x,.v v)
noncomputable def W(x:String)(v:MV):Str×LV:=(Str.ofString x,.own v)
inductive oO:Int->Int->Prop
 | a:oO 19 28
 | b:oO 22 29
 | c:oO 23 30
 | d:oO 25 31
 | e:oO 26 32
variable {R:List MV} {I:List (MV×MV)} {t m:Int}
def L1(t:Int):List (Str×LV):=[V "tab" (.obj 0),V "s" (.int t),V "t" (.int 11)]
theorem K9(h:oO t m):Runs (n+8) cx 534 [.v (.obj 0),.v (.int t),.v (.int 11)] (cQ R I::σ) (.val (.int m)) (cQ R I::σ):=
 eX rfl rfl rfl (aU ⟨L1 t++[V "kept" (.lst [.int t])],cQ R I::σ⟩ rfl (by cases (h)<;>rfl) (aU ⟨L1 t++[V "kept" (.lst [.int t,.int 11]),V "one" (.int 11)],cQ R I::σ⟩ rfl (by cases (h)<;>rfl)
  (aU ⟨L1 t++[V "kept" (.lst [.int t,.int 11]),V "one" (.int 11)],cQ R I::σ⟩ rfl (by rfl) (gc (st1:=⟨L1 t++[V "kept" (.lst [.int t,.int 11]),V "one" (.int 11)],cQ R I::σ⟩) rfl (by cases (h)<;>rfl)))))
def L2(t:Int)(f:List (MV×MV)):List (Str×LV):=L1 t++[W "found" (.bO f),V "left" (.tup [.int t]),V "right" (.tup [.int 11]),V "crossed" (.bool false)]
theorem LQ(h:oO t m):Runs (n+9) cx 541 [.v (.obj 0),.v (.int t),.v (.int 11)] (cQ R I::σ) (.val (.int m)) (cQ R I::σ):=by
 refine eX rfl rfl rfl (aU ⟨L1 t,cQ R I::σ⟩ rfl (by cases (h)<;>rfl) (aU ⟨L1 t,cQ R I::σ⟩ rfl (by cases (h)<;>rfl) (aU ⟨L1 t++[W "found" (.bO [])],cQ R I::σ⟩ rfl (by rfl) (aU ⟨L1 t++[W "found" (.bO []),V "left" (.tup [.int t]),V "right" (.tup [.int 11])],cQ R I::σ⟩ rfl (by cases (h)<;>rfl)
  (aU ⟨L2 t [],cQ R I::σ⟩ rfl (by rfl) (aU ⟨L2 t [(.int m,.int 1)]++[V "one" (.int t),V "other" (.int 11),V "met" (.int m)],cQ R I::σ⟩ rfl ?_ (gc (st1:=⟨L2 t [(.int m,.int 1)]++[V "one" (.int t),V "other" (.int 11),V "met" (.int m)],cQ R I::σ⟩) rfl (by cases (h)<;>rfl))))))))
 refine uL (d:=13) (xs:=[.int t]) (ins:=false) (st1:=⟨L2 t [],cQ R I::σ⟩) rfl (by rfl) (ai rfl) (jn (st1:=⟨L2 t []++[V "one" (.int t)],cQ R I::σ⟩) (by rfl) (aU ⟨L2 t [(.int m,.int 1)]++[V "one" (.int t),V "other" (.int 11),V "met" (.int m)],cQ R I::σ⟩ rfl ?_ (bQ rfl)) mJ) rfl;refine uL (d:=11) (xs:=[.int 11]) (ins:=false) (st1:=⟨L2 t []++[V "one" (.int t)],cQ R I::σ⟩) rfl (by rfl) (ai rfl) (jn (st1:=⟨L2 t []++[V "one" (.int t),V "other" (.int 11)],cQ R I::σ⟩) (by rfl)
  (aU ⟨L2 t []++[V "one" (.int t),V "other" (.int 11),V "met" (.int m)],cQ R I::σ⟩ rfl (CA (d:=10) rfl (uw (d:=9) (bs:=[.val (.obj 0),.val (.int t),.val (.int 11)]) (st1:=⟨L2 t []++[V "one" (.int t),V "other" (.int 11)],cQ R I::σ⟩) rfl 534 rfl rfl (by rfl) rfl rfl (K9 h) rfl) (by rfl)) (aU ⟨L2 t [(.int m,.int 1)]++[V "one" (.int t),V "other" (.int 11),V "met" (.int m)],cQ R I::σ⟩ rfl (by cases (h)<;>rfl) (aU ⟨L2 t [(.int m,.int 1)]++[V "one" (.int t),V "other" (.int 11),V "met" (.int m)],cQ R I::σ⟩ rfl (by rfl) (bQ rfl)))) mJ) rfl
def L3(t u:Int):List (Str×LV):=[V "tab" (.obj 0),V "parts" (.tup [.int t,.int 11]),V "t" (.int 13),V "out" (.int u)]
theorem Pc(h:oO t m):Runs (n+10) cx 548 [.v (.obj 0),.v (.tup [.int t,.int 11])] (cQ R I::σ) (.val (.int m)) (cQ R I::σ):=by
 refine eX rfl rfl rfl (aU ⟨[V "tab" (.obj 0),V "parts" (.tup [.int t,.int 11]),V "t" (.int 13)],cQ R I::σ⟩ rfl (by cases (h)<;>rfl) (aU ⟨L3 t 1,cQ R I::σ⟩ rfl (by rfl) (aU ⟨L3 t m++[V "place" (.int 1)],cQ R I::σ⟩ rfl ?_ (gc (st1:=⟨L3 t m++[V "place" (.int 1)],cQ R I::σ⟩) rfl (by rfl)))));refine uL (d:=13) (xs:=[.int 0,.int 1]) (ins:=false) (st1:=⟨L3 t 1,cQ R I::σ⟩) rfl (by rfl) (ai rfl) (jn (st1:=⟨L3 t 1++[V "place" (.int 0)],cQ R I::σ⟩) (by rfl) (aU ⟨L3 t t++[V "place" (.int 0)],cQ R I::σ⟩ rfl (by cases (h)<;>rfl) (bQ rfl))
  (jn (st1:=⟨L3 t t++[V "place" (.int 1)],cQ R I::σ⟩) (by rfl) (aU ⟨L3 t m++[V "place" (.int 1)],cQ R I::σ⟩ rfl ?_ (bQ rfl)) mJ)) rfl
 refine iE (d:=11) (st1:=⟨L3 t t++[V "place" (.int 1)],cQ R I::σ⟩) true rfl (by cases (h)<;>rfl) (aU ⟨L3 t m++[V "place" (.int 1)],cQ R I::σ⟩ rfl (CA (d:=10) rfl (uw (d:=9) (bs:=[.val (.obj 0),.val (.int t),.val (.int 11)]) (st1:=⟨L3 t t++[V "place" (.int 1)],cQ R I::σ⟩) rfl 541 rfl rfl (by cases (h)<;>rfl) rfl rfl (LQ h) rfl) (by rfl)) (bQ rfl))
inductive NN:Int->Int->Prop
 | p {a b:Int}:oO a b->NN a b
 | v3:NN 3 2
 | v4:NN 4 2
 | v5:NN 5 2
 | u:NN 1 11
 | a:NN 16 16
 | b:NN 17 17
 | s:NN 6 6
 | l:NN 27 27
 | k:NN 20 20
 | e:NN 11 11
 | Kp:NN 28 28
 | Kq:NN 29 29
 | Kr:NN 30 30
 | Ks:NN 31 31
 | Ku:NN 32 32
def L4(t:Int):List (Str×LV):=[V "tab" (.obj 0),V "t" (.int t)]
inductive Af:Int->Int->Int->Int->Int->Prop
 | a:Af 23 3 19 0 1
 | b:Af 23 3 19 1 2
 | c:Af 26 5 23 0 1
def L5(t dp:Int):List (Str×LV):=[V "tab" (.obj 0),V "t" (.int t),V "deep" (.int dp)]
def L6(t p b dp:Int):List (Str×LV):=L5 t dp++[V "part" (.int t),V "row" (nums [10,p]),V "bound" (.int b)]
theorem Bk{p b dp dq:Int}{ls:List LV}(hB:Bind (fnOf 556) ls=some (L5 t dp))(h:Af t p b dp dq)(hb:∀cx,Runs (n+6) cx 556 [.v (.obj 0),.v (.int b),.v (.int dq)] (cQ R I::σ) (.val (.bool true)) (cQ R I::σ)):Runs (n+7) cx 556 ls (cQ R I::σ) (.val (.bool true)) (cQ R I::σ):=by refine eX (loc:=L5 t dp) (loc':=L6 t p b dp) rfl rfl hB ?_;refine gc rfl ?_;refine uL (d:=13) (xs:=[.int t]) (ins:=false) (st1:=⟨L5 t dp,cQ R I::σ⟩) rfl (by cases (h)<;>rfl) (ai rfl) ?_ rfl;refine vF (st1:=⟨L5 t dp++[V "part" (.int t)],cQ R I::σ⟩) (by rfl) ?_;refine aU ⟨L5 t dp++[V "part" (.int t),V "row" (nums [10,p])],cQ R I::σ⟩ rfl (by cases (h)<;>rfl) ?_;refine aU ⟨L5 t dp++[V "part" (.int t),V "row" (nums [10,p])],cQ R I::σ⟩ rfl (by cases (h)<;>rfl) ?_;refine gc rfl ?_;refine iE (d:=11) (st1:=⟨L5 t dp++[V "part" (.int t),V "row" (nums [10,p])],cQ R I::σ⟩) true rfl (by cases (h)<;>rfl) ?_;refine aU ⟨L6 t p b dp,cQ R I::σ⟩ rfl (by cases (h)<;>rfl) ?_;refine gc rfl ?_;refine iE (d:=9) (st1:=⟨L6 t p b dp,cQ R I::σ⟩) true rfl ?_ (gc rfl (by rfl));refine VH rfl (kL (st1:=⟨L6 t p b dp,cQ R I::σ⟩) rfl (by cases (h)<;>rfl) (kL (st1:=⟨L6 t p b dp,cQ R I::σ⟩) rfl (by cases (h)<;>rfl) (uo rfl (BX rfl (uw (d:=7) (bs:=[.val (.obj 0),.val (.int b),.val (.int dq)]) (st1:=⟨L6 t p b dp,cQ R I::σ⟩) rfl 556 rfl rfl (by cases (h)<;>rfl) rfl rfl (hb _) rfl) rfl))))
theorem lu{a:Addr}{ls:List LV}{r:EV}{σ σ':eN}(h:(jq PG RB n cx a ls σ).map (λp=>(p.1,p.2.aD))=some (r,σ')):Runs n cx a ls σ r σ':=by
 cases e:jq PG RB n cx a ls σ with
 | none=>rw[e]at h;exact aM h
 | some p=>rw[e]at h;exists h;exact ⟨p.2.loc,e⟩
theorem QM:Runs (n+6) cx 556 [.v (.obj 0),.v (.int 19),.v (.int 1)] (cQ R I::σ) (.val (.bool true)) (cQ R I::σ):=lu (by rfl)
theorem QN:Runs (n+6) cx 556 [.v (.obj 0),.v (.int 19),.v (.int 2)] (cQ R I::σ) (.val (.bool true)) (cQ R I::σ):=lu (by rfl)
theorem Si(h:oO t m):Runs (n+8) cx 556 [.v (.obj 0),.v (.int t)] (cQ R I::σ) (.val (.bool true)) (cQ R I::σ):=by
 cases (h)
 case c=>exact Bk rfl .a λZ=>QM
 case e=>exact Bk rfl .c λZ=>Bk rfl .b λZ=>QN
 all_goals exact lu (by rfl)
theorem KZ(h:oO t m):Runs (n+11) cx 575 [.v (.obj 0),.v (.int t)] (cQ R I::σ) (.val (.int m)) (cQ R I::σ):=by refine eX (loc:=L4 t) (loc':=L4 t) rfl rfl rfl ?_;refine aU ⟨L4 t,cQ R I::σ⟩ rfl (by cases (h)<;>rfl) ?_;refine aU ⟨L4 t,cQ R I::σ⟩ rfl (by cases (h)<;>rfl) ?_;refine gc rfl ?_;refine iE (d:=13) (st1:=⟨L4 t,cQ R I::σ⟩) true rfl (BX (d:=13) rfl (uw (d:=12) (bs:=[.val (.obj 0),.val (.int t)]) (st1:=⟨L4 t,cQ R I::σ⟩) rfl 556 rfl rfl (by rfl) rfl rfl (Si (n:=n+2) h) rfl) rfl) ?_;refine gc rfl ?_;refine iC (d:=12) rfl ?_;exact uw (d:=11) (bs:=[.val (.obj 0),.val (.tup [.int t,.int 11])]) (st1:=⟨L4 t,cQ R I::σ⟩) rfl 548 rfl rfl (by rfl) rfl rfl (Pc h) rfl
variable {p:Int}
inductive Met:Int->Int->Prop
 | a:Met 28 19
 | b:Met 29 22
 | c:Met 30 23
 | d:Met 31 25
 | e:Met 32 26
def L7(t p:Int):List (Str×LV):=L5 t 0++[V "part" (.int t),V "row" (.tup [.int 7,nums [p,11]])]
theorem vU(h:Met t p):Runs (n+8) cx 556 [.v (.obj 0),.v (.int t)] (cQ R I::σ) (.val (.bool false)) (cQ R I::σ):=by refine eX (loc:=L5 t 0) (loc':=L7 t p) rfl rfl rfl ?_;refine aU ⟨L7 t p,cQ R I::σ⟩ rfl ?_ (gc rfl (by rfl));refine uL (d:=13) (xs:=[.int t]) (ins:=false) (st1:=⟨L5 t 0,cQ R I::σ⟩) rfl (by cases (h)<;>rfl) (ai rfl) ?_ rfl;refine jn (st1:=⟨L5 t 0++[V "part" (.int t)],cQ R I::σ⟩) (st2:=⟨L7 t p,cQ R I::σ⟩) (by rfl) ?_ mJ;refine aU ⟨L7 t p,cQ R I::σ⟩ rfl (by cases (h)<;>rfl) ?_;refine aU ⟨L7 t p,cQ R I::σ⟩ rfl (by cases (h)<;>rfl) ?_;exact aU ⟨L7 t p,cQ R I::σ⟩ rfl (by cases (h)<;>rfl) (bQ rfl)
theorem t9(hN:∀cx,Runs (n+10) cx 556 [.v (.obj 0),.v (.int t)] (cQ R I::σ) (.val (.bool false)) (cQ R I::σ))
  (h0:(rn (n+10) 15).s ⟨(fnOf 575).scope,cx.ro,RB 575,false⟩ (hd (fnOf 575).body) ⟨L4 t,cQ R I::σ⟩=some (.bN,⟨L4 t,cQ R I::σ⟩))
  (h1:(rn (n+10) 15).s ⟨(fnOf 575).scope,cx.ro,RB 575,false⟩ (hd (fnOf 575).body.tail) ⟨L4 t,cQ R I::σ⟩=some (.bN,⟨L4 t,cQ R I::σ⟩)):Runs (n+11) cx 575 [.v (.obj 0),.v (.int t)] (cQ R I::σ) (.val (.int t)) (cQ R I::σ):=by
 refine eX (loc:=L4 t) (loc':=L4 t) rfl rfl rfl ?_;refine aU ⟨L4 t,cQ R I::σ⟩ rfl h0 (aU ⟨L4 t,cQ R I::σ⟩ rfl h1 (aU ⟨L4 t,cQ R I::σ⟩ rfl ?_ (gc rfl (by rfl))));exact iE (d:=13) (st1:=⟨L4 t,cQ R I::σ⟩) false rfl (BX (d:=13) rfl (uw (d:=12) (bs:=[.val (.obj 0),.val (.int t)]) (st1:=⟨L4 t,cQ R I::σ⟩) rfl 556 rfl rfl (by rfl) rfl rfl (hN _) rfl) rfl) (bQ rfl)
set_option tactic.hygienic true in
theorem K6(h:NN t m):Runs (n+11) cx 575 [.v (.obj 0),.v (.int t)] (cQ R I::σ) (.val (.int m)) (cQ R I::σ):=by
 cases (h)
 case p h=>exact KZ h
 case Kp=>exact t9 (λZ=>vU (n:=n+2) .a) (by rfl) (by rfl)
 case Kq=>exact t9 (λZ=>vU (n:=n+2) .b) (by rfl) (by rfl)
 case Kr=>exact t9 (λZ=>vU (n:=n+2) .c) (by rfl) (by rfl)
 case Ks=>exact t9 (λZ=>vU (n:=n+2) .d) (by rfl) (by rfl)
 case Ku=>exact t9 (λZ=>vU (n:=n+2) .e) (by rfl) (by rfl)
 case k=>exact t9 (λZ=>lu (by rfl)) (by rfl) (by rfl)
 all_goals exact lu (by rfl)
variable {v a b:EV} {as:List EV} {ad:Addr} {oN:St} {es:List Expr} {c:Bool} {x y:MV}
theorem TL(h:es.isEmpty=true):fC ((rn n d).e cx) es st=some ([],st):=by
 induction es using aaa with
 | nil=>rfl
 | cons=>exact b7 h
theorem gM(a:EV)(hb:es.isEmpty=false)(h:(rn n d).e cx (es.headD default) st=some (a,st1))(ho:uq a=true)(k:fC ((rn n d).e cx) es.tail st1=some (as,st2)):fC ((rn n d).e cx) es st=some ((a::as),st2):=by
 induction es using aaa with
 | nil=>cases (hb)
 | cons e r=>show ((rn n d).e cx e st).bind _=_;rw[show (rn n d).e cx e st=_ from h,ah];show (if uq a=true then _ else _)=_;rw[aq ho,show fC _ r st1=_ from k];rfl
theorem ie(a:EV)(hb:es.isEmpty=false)(ht:es.tail.isEmpty=true)(h:(rn n d).e cx (es.headD default) st=some (a,st1))(ho:uq a=true):fC ((rn n d).e cx) es st=some ([a],st1):=gM a hb h ho (TL ht)
theorem HZ{l r:Expr}{op:CmpOp}(hs:jJ r=false)(h1:(rn n d).e cx l st=some (a,st1))(hb:blocks a r=false)(h2:(rn n d).e cx r st1=some (b,st2))(hx:gf st2 a=some x)(hy:gf st2 b=some y)(hc:qj op x y=some c):fV.pD (rn n d) cx l op r st=some (c,st2):=by unfold fV.pD;rw[hs,au (by decide),show (rn n d).e cx l st=_ from h1,ah];dsimp only;rw[hb,au (by decide),show (rn n d).e cx r st1=_ from h2,ah];dsimp only;rw[hx,ah,hy,ah,hc];rfl
theorem CB(a b:EV)(he:e=.Compare (x1 e) [xc e] [x2 e] e.pos)(hs:jJ (x2 e)=false)(h1:(rn n d).e cx (x1 e) st=some (a,st1))(hb:blocks a (x2 e)=false)(h2:(rn n d).e cx (x2 e) st1=some (b,st2))(hx:gf st2 a=some x)(hy:gf st2 b=some y)(hc:qj (xc e) x y=some c):(rn n (d+1)).e cx e st=some ((.val (.bool c)),st2):=
 eE he (show (fV.pD (rn n d) cx (x1 e) (xc e) (x2 e) st |>.map _)=_ by rw[HZ hs h1 hb h2 hx hy hc];rfl)
theorem zh(a b:EV)(he:e=.Compare (x1 e) [xc e] [x2 e] e.pos)(hs:jJ (x2 e)=false)(h1:(rn n d).e cx (x1 e) st=some (a,st1))(hb:blocks a (x2 e)=false)(h2:(rn n d).e cx (x2 e) st1=some (b,st2))(hx:gf st2 a=some x)(hy:gf st2 b=some y)(hc:qj (xc e) x y=some c):(rn n (d+1)).t cx e st=some (c,st2):=
 tE he (show fV.pD (rn n d) cx (x1 e) (xc e) (x2 e) st=_ from HZ hs h1 hb h2 hx hy hc)
theorem CD(a b:EV)(he:e=.BinOp (x1 e) (xo e) (x2 e) e.pos)(h1:(rn n d).e cx (x1 e) st=some (a,st1))(hb:blocks a (x2 e)=false)(h2:(rn n d).e cx (x2 e) st1=some (b,st2))(hx:gf st2 a=some x)(hy:gf st2 b=some y)(hc:binop (xo e) x y=some v):(rn n (d+1)).e cx e st=some (v,st2):=
 eE he (show ((rn n d).e cx (x1 e) st).bind _=_ by
  rw[show (rn n d).e cx (x1 e) st=_ from h1,ah];dsimp only;rw[hb,au (by decide),show (rn n d).e cx (x2 e) st1=_ from h2,ah];dsimp only;rw[hx,ah,hy,ah,hc];rfl)
theorem Sj(a b:EV)(he:e=.Subscript (x1 e) (.Name (xn (x2 e)) (x2 e).pos) e.pos)(h1:(rn n d).e cx (x1 e) st=some (a,st1))(hb:blocks a (.Name (xn (x2 e)) (x2 e).pos)=false)(h2:(rn n d).e cx (.Name (xn (x2 e)) (x2 e).pos) st1=some (b,st2))(hc:itemOf st2 a b=some v):(rn n (d+1)).e cx e st=some (v,st2):=
 eE he (show ((rn n d).e cx (x1 e) st).bind _=_ by
  rw[show (rn n d).e cx (x1 e) st=_ from h1,ah];dsimp only;rw[hb,au (by decide),show (rn n d).e cx _ st1=_ from h2,ah];dsimp only;rw[hc];rfl)
theorem Sk(a b:EV)(he:e=.Subscript (x1 e) (.Tuple (xl (x2 e)) (xk (x2 e)) (x2 e).pos) e.pos)(h1:(rn n d).e cx (x1 e) st=some (a,st1))(hb:blocks a (.Tuple (xl (x2 e)) (xk (x2 e)) (x2 e).pos)=false)(h2:(rn n d).e cx (.Tuple (xl (x2 e)) (xk (x2 e)) (x2 e).pos) st1=some (b,st2))(hc:itemOf st2 a b=some v):(rn n (d+1)).e cx e st=some (v,st2):=
 eE he (show ((rn n d).e cx (x1 e) st).bind _=_ by
  rw[show (rn n d).e cx (x1 e) st=_ from h1,ah];dsimp only;rw[hb,au (by decide),show (rn n d).e cx _ st1=_ from h2,ah];dsimp only;rw[hc];rfl)
theorem Sl(a b:EV)(he:e=.Subscript (x1 e) (.Attribute (x1 (x2 e)) (xn (x2 e)) (x2 e).pos) e.pos)(h1:(rn n d).e cx (x1 e) st=some (a,st1))(hb:blocks a (.Attribute (x1 (x2 e)) (xn (x2 e)) (x2 e).pos)=false)(h2:(rn n d).e cx (.Attribute (x1 (x2 e)) (xn (x2 e)) (x2 e).pos) st1=some (b,st2))(hc:itemOf st2 a b=some v):(rn n (d+1)).e cx e st=some (v,st2):=
 eE he (show ((rn n d).e cx (x1 e) st).bind _=_ by
  rw[show (rn n d).e cx (x1 e) st=_ from h1,ah];dsimp only;rw[hb,au (by decide),show (rn n d).e cx _ st1=_ from h2,ah];dsimp only;rw[hc];rfl)
theorem oq(he:e=.Tuple (xl e) (xk e) e.pos)(hn:((xl e).all noStar&&(xl e).length<=bE)=true)(h:fC ((rn n d).e cx) (xl e) st=some (as,st1)){vs:List MV}(hk:qU as=some vs):(rn n (d+1)).e cx e st=some ((.val (.tup vs)),st1):=
 eE he (show (if _ then _ else _)=_ by
  rw[aq hn,show fC _ (xl e) st=_ from h,ah];dsimp only;rw[hk];rfl)
theorem Sm(he:e=.List (xl e) e.pos)(hn:((xl e).all noStar&&(xl e).length<=bE)=true)(h:fC ((rn n d).e cx) (xl e) st=some (as,st1)){vs:List MV}(hk:qU as=some vs):(rn n (d+1)).e cx e st=some ((.fresh (.lst vs)),st1):=
 eE he (show (if _ then _ else _)=_ by
  rw[aq hn,show fC _ (xl e) st=_ from h,ah];dsimp only;rw[hk];rfl)
theorem xq(he:e=.IfExp (x1 e) (x2 e) (x3 e) e.pos)(h1:(rn n d).t cx (x1 e) st=some (c,st1))(h2:(rn n d).e cx (if c then x2 e else x3 e) st1=some (v,st2)):(rn n (d+1)).e cx e st=some (v,st2):=
 eE he (show ((rn n d).t cx (x1 e) st).bind _=_ by
  rw[show (rn n d).t cx (x1 e) st=_ from h1,ah];induction c using aad<;>exact h2)
theorem YE(a:EV)(he:e=.Attribute (x1 e) (xn e) e.pos)(hn:n6 (x1 e)=true)(h1:(rn n d).e cx (x1 e) st=some (a,st1))(hc:sd st1 a (xn e)=some v):(rn n (d+1)).e cx e st=some (v,st1):=
 eE he (show (if _ then _ else _)=_ by
  rw[aq hn,show (rn n d).e cx (x1 e) st=_ from h1,ah];dsimp only;rw[hc];rfl)
theorem zj(he:e=.UnaryOp .Not (x1 e) e.pos)(h:(rn n d).t cx (x1 e) st=some (c,st1)):(rn n (d+1)).t cx e st=some ((!c),st1):=
 tE he (show ((rn n d).t cx (x1 e) st).map _=_ by rw[show (rn n d).t cx (x1 e) st=_ from h];rfl)
theorem uM(he:e=.BoolOp .And (xl e) e.pos)(h:jM ((rn n d).t cx) (xl e) st=some (c,st1)):(rn n (d+1)).t cx e st=some (c,st1):=tE he h
theorem sH(he:e=.BoolOp .Or (xl e) e.pos)(h:pC ((rn n d).t cx) (xl e) st=some (c,st1)):(rn n (d+1)).t cx e st=some (c,st1):=tE he h
theorem all_nil(he:es.isEmpty=true):jM ((rn n d).t cx) es st=some (true,st):=by
 induction es using aaa with
 | nil=>rfl
 | cons=>exact b7 he
theorem lQ(he:es.isEmpty=false)(h:(rn n d).t cx (es.headD default) st=some (true,st1))(k:jM ((rn n d).t cx) es.tail st1=some (c,st2)):jM ((rn n d).t cx) es st=some (c,st2):=by
 induction es using aaa with
 | nil=>cases (he)
 | cons e es=>exact jP h k
theorem nI(he:es.isEmpty=false)(h:(rn n d).t cx (es.headD default) st=some (false,st1)):jM ((rn n d).t cx) es st=some (false,st1):=by
 induction es using aaa with
 | nil=>cases (he)
 | cons e es=>exact jP h rfl
theorem v9(a:EV)(he:e=.Name (xn e) e.pos)(h:(rn n d).e cx e st=some (a,st1))(hp:gf st1 a=some x)(ht:truth x=some c):(rn n (d+1)).t cx e st=some (c,st1):=
 tE he (show ((rn n d).e cx (.Name (xn e) e.pos) st).bind _=_ by
  rw[<-he,show (rn n d).e cx e st=_ from h,ah];dsimp only;rw[hp,ah,ht];rfl)
theorem Sn(a:EV)(he:e=.Attribute (x1 e) (xn e) e.pos)(h:(rn n d).e cx e st=some (a,st1))(hp:gf st1 a=some x)(ht:truth x=some c):(rn n (d+1)).t cx e st=some (c,st1):=
 tE he (show ((rn n d).e cx (.Attribute (x1 e) (xn e) e.pos) st).bind _=_ by
  rw[<-he,show (rn n d).e cx e st=_ from h,ah];dsimp only;rw[hp,ah,ht];rfl)
theorem G8(a:EV)(he:e=.Call (x1 e) (xl e) [] e.pos)(h:(rn n d).e cx e st=some (a,st1))(hp:gf st1 a=some x)(ht:truth x=some c):(rn n (d+1)).t cx e st=some (c,st1):=
 tE he (show ((rn n d).e cx (.Call (x1 e) (xl e) [] e.pos) st).bind _=_ by
  rw[<-he,show (rn n d).e cx e st=_ from h,ah];dsimp only;rw[hp,ah,ht];rfl)
theorem pg{nm:String}(he:e=.Call (.Name (xn (x1 e)) (x1 e).pos) (xl e) [] e.pos)(hn:(xl e).all noStar=true)(hf:(rn n d).e cx (.Name (xn (x1 e)) (x1 e).pos) st=some ((.val (.blt nm)),st))(hl:fC ((rn n d).e cx) (xl e) st=some (as,st1))(hk:jI cx ((xl e).all isSimple) as=true)
  (hm:su nm st1 as=some v):(rn n (d+1)).e cx e st=some (v,st1):=
 eE he (show (if _ then _ else _)=_ by
  rw[hn,au (by decide),show (rn n d).e cx (.Name _ _) st=_ from hf,ah];dsimp only;rw[show fC _ (xl e) st=_ from hl,ah];dsimp only;rw[aq hk];show (su nm st1 as).map _=_;rw[hm];rfl)
theorem CE{nm:String}(he:e=.Call (.Name (xn (x1 e)) (x1 e).pos) (xl e) [] e.pos)(hn:(xl e).all noStar=true)(hf:(rn n d).e cx (.Name (xn (x1 e)) (x1 e).pos) st=some ((.val (.typ nm)),st))(hl:fC ((rn n d).e cx) (xl e) st=some (as,st1))(hk:jI cx ((xl e).all isSimple) as=true)
  (hm:wz nm st1 as=some v):(rn n (d+1)).e cx e st=some (v,st1):=
 eE he (show (if _ then _ else _)=_ by
  rw[hn,au (by decide),show (rn n d).e cx (.Name _ _) st=_ from hf,ah];dsimp only;rw[show fC _ (xl e) st=_ from hl,ah];dsimp only;rw[aq hk];show (wz nm st1 as).map _=_;rw[hm];rfl)
theorem gQ(a:EV){mf:Option Addr}(he:e=.Call (.Attribute (x1 (x1 e)) (xn (x1 e)) (x1 e).pos) (xl e) [] e.pos)(hn:(n6 (x1 (x1 e))&&(xl e).all noStar&&(xl e).length<29&&Nat.beq (x1 e).pos.endLine e.pos.line)=true)(h1:(rn n d).e cx (x1 (x1 e)) st=some (a,st1))(hf:rV PG st1 a (xn (x1 e))=some mf)
  (hl:fC ((rn n d).e cx) (xl e) st1=some (as,st2)) (hk:jI cx ((xl e).all isSimple) as=true) (hm:fV.y9 (jq PG RB n) cx a mf (xn (x1 e)) as ((xl e).all isSimple) st2=some (v,oN)):(rn n (d+1)).e cx e st=some (v,oN):=
 eE he (show (if _ then _ else _)=_ by
  rw[aq hn,show (rn n d).e cx (x1 (x1 e)) st=_ from h1,ah];dsimp only;rw[hf,ah,show fC _ (xl e) st1=_ from hl,ah];dsimp only;rw[aq hk,hm])
theorem kN(ad:Addr){m:Str}{x:MV}{simple:Bool}(hx:sA a=some x)(hm:ki (nN st) as=some ls)(hc:Runs n {cx with ro:=cx.ro||as.any gX} ad (.v x::ls) st.aD v σ')(hv:Dz v=true):fV.y9 (jq PG RB n) cx a (some ad) m as simple st=some (v,⟨st.loc,σ'⟩):=by
 revert hc;refine gh λloc hc=>?_;show (sA a).bind _=_;rw[hx,ah,hm,ah];dsimp only[fV.sC];rw[hc,ah];induction v using EV.casesOn with
 | val=>rfl
 | fresh=>rfl
 | _=>exact b7 hv
theorem lE{m:Str}{simple:Bool}(h0:(gX a&&!simple&&cx.rb)=false)(h:qQ cx st a m as=some (v,st1)):fV.y9 (jq PG RB n) cx a none m as simple st=some (v,st1):=by show (if _ then _ else _)=_;rw[h0,au (by decide),h]
def Comp(n d:Nat)(cx:Ctx)(ifs:List Expr)(elt:Expr)(x:Str)(outer:List (Str×LV))(vs:List MV)(σ:eN)(ys:List MV)(σ':eN):Prop:=
 mQ (rn n d) cx ifs elt x outer vs σ=some (ys,σ')
theorem Bl{ifs:List Expr}{elt:Expr}{x:Str}{outer:List (Str×LV)}:Comp n d cx ifs elt x outer [] σ [] σ:=rfl
theorem Bm{ifs:List Expr}{elt:Expr}{x:Str}{outer:List (Str×LV)}{w y:MV}{vs ys:List MV}{xM:eN}(h1:jM ((rn n d).t cx) ifs ⟨(x,.v w)::outer,σ⟩=some (true,st1))(h2:(rn n d).e cx elt st1=some (a,st2))(hk:jB a=some y)(r:Comp n d cx ifs elt x outer vs st2.aD ys xM) :
  Comp n d cx ifs elt x outer (w::vs) σ (y::ys) xM:=jP h1 (jP h2 (jP hk (jP r rfl)))
theorem QO{ifs:List Expr}{elt:Expr}{x:Str}{outer:List (Str×LV)}{w:MV}{vs ys:List MV}{xM:eN}(h1:jM ((rn n d).t cx) ifs ⟨(x,.v w)::outer,σ⟩=some (false,st1))(r:Comp n d cx ifs elt x outer vs st1.aD ys xM) :
  Comp n d cx ifs elt x outer (w::vs) σ ys xM:=jP h1 r
theorem lT{vs ys:List MV}{ins:Bool}(he:e=.ListComp (x1 e) [⟨.Name (xn (x3 e)) (x3 e).pos,x2 e,xl e,0⟩] (iO e) e.pos)(ho:ia (rn n d) cx (x2 e) st=some (vs,ins,st1))(hk:ur cx (iO e) (xn (x3 e)) (x2 e) st1=true)
  (h:Comp n d ⟨iO e,cx.ro||ins,cx.rb,true⟩ (xl e) (x1 e) (xn (x3 e)) (st1.loc.map eY) vs st1.aD ys σ') (hl:vs.length<bE):(rn n (d+1)).e cx e st=some ((.fresh (.lst ys)),⟨st1.loc,σ'⟩):=
 eE he (show (ia (rn n d) cx (x2 e) st).bind _=_ by
  rw[ho,ah];dsimp only;rw[hk];simp only[Bool.not_true,Bool.false_eq_true,if_false];rw[show mQ _ _ _ _ (xn (x3 e)) (st1.loc.map eY) vs st1.aD=_ from h,ah];dsimp only;rw[aq hl])
theorem nJ(a:EV)(he:s=.Assign [.Subscript (x1 (xt s)) (x2 (xt s)) (xt s).pos] (sv s) s.pos)(h1:(rn n d).e cx (sv s) st=some (a,st1))(h2:rX (rn n d) cx (.Subscript (x1 (xt s)) (x2 (xt s)) (xt s).pos) a st1=some st2):(rn n (d+1)).s cx s st=some (.bN,st2):=
 sE he (show ((rn n d).e cx (sv s) st).bind _=_ by
  rw[show (rn n d).e cx (sv s) st=_ from h1,ah];dsimp only;rw[h2];rfl)
theorem So(a:EV)(he:s=.Assign [.Attribute (x1 (xt s)) (xn (xt s)) (xt s).pos] (sv s) s.pos)(h1:(rn n d).e cx (sv s) st=some (a,st1))(h2:rX (rn n d) cx (.Attribute (x1 (xt s)) (xn (xt s)) (xt s).pos) a st1=some st2):(rn n (d+1)).s cx s st=some (.bN,st2):=
 sE he (show ((rn n d).e cx (sv s) st).bind _=_ by
  rw[show (rn n d).e cx (sv s) st=_ from h1,ah];dsimp only;rw[h2];rfl)
theorem i9(a:EV)(he:s=.Expr (sv s) s.pos)(hc:nB (sv s)=false)(h:(rn n d).e cx (sv s) st=some (a,st1))(hd:BR a=true):(rn n (d+1)).s cx s st=some (.bN,st1):=
 sE he (show (if nB (sv s)=true then _ else _)=_ by
  rw[hc,au (by decide),show (rn n d).e cx (sv s) st=_ from h,ah];dsimp only;rw[aq hd])
theorem wL{vs:List MV}{ns:List Str}(he:s=.Assign [.Tuple (xl (xt s)) (xk (xt s)) (xt s).pos] (sv s) s.pos)(hk:(!yO (sv s)||nB (sv s))=false)(h1:(rn n d).e cx (sv s) st=some ((.val (.tup vs)),st1))(hn:namesOf (xl (xt s))=some ns)(hd:(decide ns.Nodup&&ns.length=vs.length)=true)
  (h2:vQ (rn n d) cx (xl (xt s)) vs st1=some st2):(rn n (d+1)).s cx s st=some (.bN,st2):=
 sE he (show (if _ then _ else _)=_ by
  rw[hk,au (by decide),show (rn n d).e cx (sv s) st=_ from h1,ah];dsimp only;rw[hn,ah,aq hd,h2];rfl)
theorem QS(he:s=.While (sv s) (bo s) [] s.pos)(h:r9 ((rn n d).t cx (sv s)) ((rn n d).ss cx (bo s)) 4096 st=some (fl,st1)):(rn n (d+1)).s cx s st=some (fl,st1):=sE he h
theorem oF{xs:List MV}{ins:Bool}(hs:s=.For (.Name (iG s) (xt s).pos) (sv s) (bo s) [] s.pos)(ho:ia (rn n (d+1)) cx (sv s) st=some (xs,ins,st1))(hx:xs.length<bE)(hl:lD n d {cx with ro:=cx.ro||ins} (iG s) (bo s) xs st1 fl st2)(hb:(ins&&st2.loc.any vZ)=false)(hq:jJ (sv s)=false:=by rfl):(rn n (d+2)).s cx s st=some (fl,st2):=uL hs ho hx hl hb hq
theorem g5{b:List Stmt}(h:j8 (rn n d) cx b st=some (fl,st2)):Go n d cx b st fl st2:=h
theorem lR{b:List Stmt}(k:Nat)(h:Go n d cx (b.take k) st .bN st1)(r:Go n d cx (b.drop k) st1 fl st2):Go n d cx b st fl st2:=by
 induction k generalizing b st with
 | zero=>cases (h);exact r
 | succ k ih=>
  induction b using aaa with
  | nil=>cases (h);exact r
  | cons s b=>
   revert h;refine eG λf st' hs h=>?_;refine jP hs ?_;induction f using Fl.casesOn with
   | bN=>exact ih h r
   | ret v=>cases (h)
theorem dX{b:List Stmt}(c:Bool)(hb:b.isEmpty=false)(hs:hd b=.If (sv (hd b)) (bo (hd b)) (el (hd b)) (hd b).pos)(ht:(rn n (d+1)).t cx (sv (hd b)) st=some (c,st1))(h:Go n d cx (if c then bo (hd b) else el (hd b)) st1 .bN st2)(r:Go n (d+2) cx b.tail st2 fl oN):Go n (d+2) cx b st fl oN:=aU st2 hb (iE c hs ht h) r
theorem nA{b:List Stmt}(c:Bool)(hb:b.isEmpty=false)(hs:hd b=.If (sv (hd b)) (bo (hd b)) (el (hd b)) (hd b).pos)(ht:(rn n (d+1)).t cx (sv (hd b)) st=some (c,st1))(h:Go n d cx (if c then bo (hd b) else el (hd b)) st1 (.ret v) st2):Go n (d+2) cx b st (.ret v) st2:=gc hb (iE c hs ht h)
theorem nK(a b:EV)(he:e=.BinOp (x1 e) (xo e) (x2 e) e.pos)(h1:(rn n d).e cx (x1 e) st=some (a,st))(hb:blocks a (x2 e)=false)(h2:(rn n d).e cx (x2 e) st=some (b,st))(hx:gf st a=some x)(hy:gf st b=some y)(hc:binop (xo e) x y=some v):(rn n (d+1)).e cx e st=some (v,st):=CD a b he h1 hb h2 hx hy hc
theorem sj(a b:EV)(he:e=.Compare (x1 e) [xc e] [x2 e] e.pos)(hs:jJ (x2 e)=false)(h1:(rn n d).e cx (x1 e) st=some (a,st))(hb:blocks a (x2 e)=false)(h2:(rn n d).e cx (x2 e) st=some (b,st))(hx:gf st a=some x)(hy:gf st b=some y)(hc:qj (xc e) x y=some c):(rn n (d+1)).e cx e st=some (.val (.bool c),st):=CB a b he hs h1 hb h2 hx hy hc
theorem dI(a b:EV)(he:e=.Compare (x1 e) [xc e] [x2 e] e.pos)(hs:jJ (x2 e)=false)(h1:(rn n d).e cx (x1 e) st=some (a,st))(hb:blocks a (x2 e)=false)(h2:(rn n d).e cx (x2 e) st=some (b,st))(hx:gf st a=some x)(hy:gf st b=some y)(hc:qj (xc e) x y=some c):(rn n (d+1)).t cx e st=some (c,st):=zh a b he hs h1 hb h2 hx hy hc
theorem wc(a b:EV)(he:e=.Subscript (x1 e) (.Name (xn (x2 e)) (x2 e).pos) e.pos)(h1:(rn n d).e cx (x1 e) st=some (a,st))(hb:blocks a (.Name (xn (x2 e)) (x2 e).pos)=false)(h2:(rn n d).e cx (.Name (xn (x2 e)) (x2 e).pos) st=some (b,st))(hc:itemOf st a b=some v):(rn n (d+1)).e cx e st=some (v,st):=Sj a b he h1 hb h2 hc
theorem mX(c:Bool)(he:e=.IfExp (x1 e) (x2 e) (x3 e) e.pos)(h1:(rn n d).t cx (x1 e) st=some (c,st))(h2:(rn n d).e cx (if c then x2 e else x3 e) st=some (v,st)):(rn n (d+1)).e cx e st=some (v,st):=xq he h1 h2
theorem fU(hs:s=.Assign [.Name (iG s) (xt s).pos] (sv s) s.pos)(v:EV)(he:(rn n d).e cx (sv s) st=some (v,st1))(h:setName cx st1 (iG s) v=some st2):(rn n (d+1)).s cx s st=some (.bN,st2):=CA hs he h
theorem o7(x:MV)(l:Loc)(xs:List MV)(hd:fZ st l=some (.lst xs))(hl:xs.length<bE)(hk:jB a=some x)(hs:iZ cx st l (.lst (xs++[x]))=some st1):qQ cx st (.cont l) (Str.ofString "append") [a]=some (.val .none,st1):=by show (fZ st l).bind _=_;rw[hd,ah,hk,ah];show (if _ then _ else _)=_;rw[aq hl,hs];rfl
theorem Sq(l:Loc)(xs ys:List MV)(hd:fZ st l=some (.lst xs))(hl:xs.length<bE)(hy:ys.length<bE)(hs:iZ cx st l (.lst (xs++ys))=some st1):qQ cx st (.cont l) (Str.ofString "extend") [.fresh (.lst ys)]=some (.val .none,st1):=by show (fZ st l).bind _=_;rw[hd,ah];show (if _ then _ else _)=_;rw[aa hl,aa hy,hs];rfl
theorem v7(x:MV)(l:Loc)(xs:List MV)(hd:fZ st l=some (.lst (xs++[x])))(hl:xs.length+1<bE)(hs:iZ cx st l (.lst xs)=some st1):qQ cx st (.cont l) (Str.ofString "pop") []=some (.val x,st1):=by show (fZ st l).bind _=_;rw[hd,ah];show ((xs++[x]).getLast?).bind _=_;rw[List.getLast?_append,List.getLast?_singleton];show (if _ then _ else _)=_;rw[aq (by rw[ay];exact hl),List.dropLast_concat,hs];rfl
theorem qb(l:Loc)(j:MV)(es:List (MV×MV)){o i:Expr}{p:Pos}(h1:(rn n d).e cx o st=some (.cont l,st1))(hi:isSimple i=true)(h2:(rn n d).e cx i st1=some (.val j,st2))(hd:fZ st2 l=some (.bO es))(ho:gE es j=true)(hl:es.length<bE)(hk:jB a=some x)
  (hs:iZ cx st2 l (.bO (iy es j x))=some oN):rX (rn n d) cx (.Subscript o i p) a st=some oN:=by
 show ((rn n d).e cx o st).bind _=_;rw[h1,ah];dsimp only;rw[aq hi,h2,ah];dsimp only;show (fZ st2 l).bind _=_;rw[hd,ah,hk,ah];show (if _ then _ else _)=_;rw[ho,aa hl];exact hs
theorem vL(a:EV){vs:List MV}{ins:Bool}(he:e=.Call (.Name (xn (x1 e)) (x1 e).pos) [(xl e).headD default,(xl e).tail.headD default] [] e.pos)(h:(rn n d).e cx e st=some (a,st1))(ho:ia.n9 cx a st1=some (vs,ins,st2)):ia (rn n d) cx e st=some (vs,ins,st2):=by
 have:ia (rn n d) cx e st=((rn n d).e cx e st).bind λ(a,st)=>ia.n9 cx a st:=by rw[he];rfl
 rw[this,h];exact ho
theorem Gs(a:EV){vs:List MV}{ins:Bool}(he:e=.Call (.Name (xn (x1 e)) (x1 e).pos) [(xl e).headD default] [] e.pos)(hr:decide (xn (x1 e)=Str.ofString "range")=false)(h:(rn n d).e cx e st=some (a,st1))(ho:ia.n9 cx a st1=some (vs,ins,st2)):ia (rn n d) cx e st=some (vs,ins,st2):=by
 have:ia (rn n d) cx e st=((rn n d).e cx e st).bind λ(a,st)=>ia.n9 cx a st:=by rw[he];show (if (decide (xn (x1 e)=Str.ofString "range")&&_&&_)=true then _ else _)=_;rw[hr];rfl
 rw[this,h];exact ho
theorem turns_inv{x:Str}{b:List Stmt}{I:List MV->St->Prop}(step:∀v r st,I (v::r) st->∃st1 st2,setName cx st x (.val v)=some st1/\Go n d cx b st1 .bN st2/\I r st2)(vs:List MV):∀(st:St),I vs st->∃st',lD n d cx x b vs st .bN st'/\I [] st':=by
 induction vs with
 | nil=>exact λst h=>⟨st,mJ,h⟩
 | cons v r ih=>intro st h;refine rj (step v r st h) λst1 st2 h1 h2 h3=>?_;refine bz (ih st2 h3) λst' h4 h5=>?_;exact ⟨st',jn h1 h2 h4,h5⟩
theorem rR{ifs:List Expr}{elt:Expr}{x:Str}{outer:List (Str×LV)}(p:MV->Bool)(F:MV->MV)(vs:List MV):(∀v,v∈vs->∃DA,jM ((rn n d).t cx) ifs ⟨(x,.v v)::outer,σ⟩=some (p v,⟨DA,σ⟩)/\(p v=true->∃a zW,(rn n d).e cx elt ⟨DA,σ⟩=some (a,⟨zW,σ⟩)/\jB a=some (F v)))->Comp n d cx ifs elt x outer vs σ ((vs.filter p).map F) σ:=by
 induction vs with
 | nil=>exact λZ=>Bl
 | cons v r ih=>
  intro h;refine bz (h v aE) λDA h1 h2=>?_;have ih:=ih λw hw=>h w (aO _ hw);cases q:p v with
  | true=>refine kj (h2 q) λa zW h3 h4=>?_;rw[q]at h1;rw[dY q];exact Bm h1 h3 h4 ih
  | false=>rw[q]at h1;rw[dZ (by rw[q];decide)];exact QO h1 ih
theorem rU{ifs:List Expr}{elt:Expr}{x:Str}{outer:List (Str×LV)}(F:MV->MV)(vs:List MV)(hi:ifs.isEmpty=true)(h:∀v,v∈vs->∃a zW,(rn n d).e cx elt ⟨(x,.v v)::outer,σ⟩=some (a,⟨zW,σ⟩)/\jB a=some (F v)):Comp n d cx ifs elt x outer vs σ (vs.map F) σ:=by have:=rR (n:=n) (d:=d) (cx:=cx) (σ:=σ) (ifs:=ifs) (elt:=elt) (x:=x) (outer:=outer) (λZ=>true) F vs λv hv=>⟨_,all_nil hi,λZ=>h v hv⟩;rw[List.filter_eq_self.mpr λZ Z=>rfl]at this;exact this
theorem Ss(m:Nat)(k:Str)(x y:Int)(he:s=.AugAssign (.Subscript (x1 (xt s)) (x2 (xt s)) (xt s).pos) .Add (sv s) s.pos)(hi:(isSimple (x2 (xt s))&&isSimple (sv s))=true)(h1:(rn n d).e cx (x1 (xt s)) st=some (.val (.obj m),st))(h2:(rn n d).e cx (x2 (xt s)) st=some (.val (.str k),st))
  (ho:itemOf st (.val (.obj m)) (.val (.str k))=some (.val (.int x))) (h3:(rn n d).e cx (sv s) st=some (.val (.int y),st)) (hc:(st.aD[m]?).map (·.cls)=some none) (hs:(small x&&small y)=true) (hp:lO cx st m k (.val (.int (x+y)))=some st1):(rn n (d+1)).s cx s st=some (.bN,st1):=
 sE he (show ((rn n d).e cx (x1 (xt s)) st).bind _=_ by
  rw[h1,ah];dsimp only;rw[aq hi,h2,ah];dsimp only;rw[ho,ah,h3,ah];show (match (st.aD[m]?).map (·.cls) with
   | some none=>if small x&&small y then (lO cx st m k (.val (.int (x+y)))).map λst=>(Fl.bN,st) else none
   | _=>none)=_
  rw[hc];dsimp only;rw[aq hs,hp];rfl)
theorem BK(l:Loc)(vs:List MV){o i:Expr}{p:Pos}(h1:(rn n d).e cx o st=some (.cont l,st1))(hi:isSimple i=true)(h2:(rn n d).e cx i st1=some (.val (.int (-1)),st2))(hd:fZ st2 l=some (.lst vs))(ho:vs.isEmpty=false)(hl:vs.length<bE)(hk:jB a=some x)
  (hs:iZ cx st2 l (.lst (vs.set (vs.length-1) x))=some oN):rX (rn n d) cx (.Subscript o i p) a st=some oN:=by
 show ((rn n d).e cx o st).bind _=_;rw[h1,ah];dsimp only;rw[aq hi,h2,ah];dsimp only;show (fZ st2 l).bind _=_;rw[hd,ah,hk,ah];show (if _ then _ else _)=_;rw[ho,aa hl];exact hs
theorem TM(he:s=.Try (bo s) [] [] (hd (el s)::(el s).tail) s.pos)(h1:Go n d cx (bo s) st fl st1)(h2:Go n d cx (hd (el s)::(el s).tail) st1 .bN st2):(rn n (d+2)).s cx s st=some (fl,st2):=
 sE he (show ((rn n (d+1)).ss cx (bo s) st).bind _=_ by
  rw[show (rn n (d+1)).ss cx (bo s) st=_ from h1,ah];dsimp only;rw[show (rn n (d+1)).ss cx (hd (el s)::(el s).tail) st1=_ from h2];rfl)
noncomputable def oV(n:Nat):eO:=.v (.obj n)
noncomputable def nV:eO:=.v .none
noncomputable def dC:eO:=.c (.bO [])
noncomputable def lC:eO:=.c (.lst [])
noncomputable def one(k:Int):MV×MV:=(.int k,.int 1)
def dB(l:List Int):MV:=.tup [.int 6,nums l]
def tabS(U:List (List Int)):kR:=cQ (U.map dB) (numbered 33 (U.map dB))
def IU:kR:=⟨some 795,[fS "tab" (oV 0),fS "deep" (.v (.int 0)),fS "most_rounds" (.v (.int 200)),fS "most_deep" (.v (.int 40)),fS "lib" nV]⟩
noncomputable def tN(s:String):MV:=.str (Str.ofString s)
noncomputable def kO(t:Int×Int×List MV):MV:=.inst 147 [(Str.ofString "number",.int t.1),(Str.ofString "at",.int t.2.1),(Str.ofString "args",.tup t.2.2),(Str.ofString "file",tN "m")]
noncomputable def gZ(t:Int×Int×List MV):MV:=.tup [.int t.1,.int t.2.1,.tup t.2.2]
noncomputable def gH(t:Int×Int):MV:=.tup [.int t.1,.int t.2]
def H6(ty:List (MV×MV))(ch:List Int)(tr:List MV)(bg:List Int)(dp:Int):kR:=⟨some 1248,[fS "tab" (oV 0),fS "host" (oV 1),fS "bound" nV,fS "graph" nV,fS "namer" nV,fS "diags" (oV 2),fS "notes" (oV 3),fS "exprs" (.c (.bO [(.int 32,.obj 12)])),fS "stmts" dC,fS "sorts" dC,fS "types" (.c (.bO ty)),fS "declared" dC,fS "busy" dC,fS "called" dC,fS "consts" dC,fS "sigs" dC,fS "bound_decls" dC,fS "inside" lC,fS "rets" lC,fS "chains" (.c (.lst (ch.map .int))),fS "trail" (.c (.lst tr)),fS "later" lC,fS "late" lC,fS "targets" dC,fS "globals" dC,fS "loops" dC,fS "roots" dC,fS "inits" dC,fS "paired" dC,fS "got_by" dC,fS "under" dC,fS "drawn" dC,fS "lent" dC,fS "dropped" dC,fS "marks" dC,fS "owners" dC,fS "this_of" dC,fS "func_at" dC,fS "selves_of" dC,fS "rounds" dC,fS "callees" dC,fS "heads" dC,fS "banged" (.c (.bO (bg.map one))),fS "told_names" dC,fS "guesses" dC,fS "ready" (.v (.int 0)),fS "const_enums" dC,fS "preset" dC,fS "asker" nV,fS "stops" nV,fS "judge" (oV 5),fS "guard" (oV 6),fS "roads" (oV 7),fS "patterns" (oV 8),fS "giver" (oV 9),fS "funcs" (oV 10),fS "places" (oV 11),fS "deep" (.v (.int dp))]⟩
structure LS where
 U:List (List Int)
 dg:List (Int×Int×List MV)
 nt:List (Int×Int)
 ty:List (MV×MV)
 ch:List Int
 tr:List MV
 bg:List Int
 dp:Int
 nums:List Int
 cI:Int
 bD:Int
 mem:List (MV×MV)
 told:List (Int×Int×List MV)
 gb:List (Int×Int)
 jV:List Int
 fl:List Int
noncomputable abbrev LS.sU(L:LS)(x:List (List Int)):LS:={L with U:=x}
noncomputable abbrev LS.Xz(L:LS)(x:List (Int×Int×List MV)):LS:={L with dg:=x}
noncomputable abbrev LS.XA(L:LS)(x:List (Int×Int)):LS:={L with nt:=x}
noncomputable abbrev LS.xN(L:LS)(x:List (MV×MV)):LS:={L with ty:=x}
noncomputable abbrev LS.rI(L:LS)(x:List Int):LS:={L with ch:=x}
noncomputable abbrev LS.str(L:LS)(x:List MV):LS:={L with tr:=x}
noncomputable abbrev LS.nj(L:LS)(x:List Int):LS:={L with bg:=x}
noncomputable abbrev LS.XC(L:LS)(x:Int):LS:={L with dp:=x}
noncomputable abbrev LS.YL(L:LS)(x:List Int):LS:={L with nums:=x}
noncomputable abbrev LS.nR(L:LS)(x:Int):LS:={L with cI:=x}
noncomputable abbrev LS.xr(L:LS)(x:Int):LS:={L with bD:=x}
noncomputable abbrev LS.JQ(L:LS)(x:List (MV×MV)):LS:={L with mem:=x}
noncomputable abbrev LS.CF(L:LS)(x:List (Int×Int×List MV)):LS:={L with told:=x}
noncomputable abbrev LS.qg(L:LS)(x:List (Int×Int)):LS:={L with gb:=x}
noncomputable abbrev LS.zX(L:LS)(x:List Int):LS:={L with jV:=x}
noncomputable abbrev LS.rJ(L:LS)(x:List Int):LS:={L with fl:=x}
def fx:eN:=[⟨some 961,[fS "given" dC]⟩,⟨some 849,[]⟩,⟨some 877,[fS "given" dC]⟩,⟨some 996,[]⟩,⟨some 1017,[]⟩,⟨some 1066,[]⟩,⟨some 1045,[]⟩,⟨some 1300,[]⟩]
noncomputable def JR:List Int:=[4,5,3,16,17,6,27,19,20,22,23,25,26,28,29,30,31,32,11,1,0,13]
def gO(nu:List Int)(at':Int):kR:=⟨none,[fS "nums" (.c (.lst (nu.map .int))),fS "at" (.v (.int at'))]⟩
def wO(at':Int)(mem:List (MV×MV))(told:List (Int×Int×List MV))(gb:List (Int×Int))(bg fl:List Int):kR:=⟨none,[fS "g" (oV 13),fS "cx" (oV 4),fS "ids" (.c (.lst (JR.map .int))),fS "at" (.v (.int at')),fS "members" (.c (.bO mem)),fS "told" (.c (.lst (told.map gZ))),fS "noted" (.c (.lst (gb.map gH))),fS "banged" (.c (.bO (bg.map one))),fS "flags" (.c (.lst (fl.map .int)))]⟩
def LS.o(L:LS):eN:=tabS L.U::IU::⟨some 181,[fS "rows" (.c (.lst (L.dg.map kO))),fS "file" (.v (tN "m"))]⟩::⟨some 223,[fS "rows" (.c (.lst (L.nt.map gH)))]⟩::H6 L.ty L.ch L.tr L.bg L.dp::(fx++[gO L.nums L.cI,wO L.bD L.mem L.told L.gb L.jV L.fl])
noncomputable def bU(k:Int)(a:MV)(kids:List MV)(fl at':Int):MV:=.inst 44 [(Str.ofString "kind",.int k),(Str.ofString "a",a),(Str.ofString "kids",.lst kids),(Str.ofString "flags",.int fl),(Str.ofString "at",.int at'),(Str.ofString "nid",.int at')]
abbrev gB(n:Nat)(a:Addr)(ls:List LV)(L:LS)(r:EV)(L':LS):Prop:=∀sc rb cp,Runs n ⟨sc,false,rb,cp⟩ a ls L.o r L'.o
abbrev rA(n:Nat)(a:Addr)(ls:List LV)(L:LS)(r:EV):Prop:=∀cx,Runs n cx a ls L.o r L.o
noncomputable def Small(i:Int):Prop:=0<=i/\i<=100000
theorem vM{i:Int}(h:Small i):small i=true:=by revert h;refine gj λa b=>?_;unfold small qy;simp only[Bool.and_eq_true,decide_eq_true_eq];lia
theorem ux{i j:Int}(h:Small i)(k:Small j):binop .Add (.int i) (.int j)=some (.val (.int (i+j))):=by show (if _ then _ else _)=_;rw[vM h,vM k];rfl
noncomputable def draw(L:LS)(m:Int):Int:=Int.fmod (if L.cI<L.nums.length then (L.nums[L.cI.toNat]?).getD 0 else L.cI*7+5) m
structure xO(L:LS):Prop where
 cI:Small L.cI
 len:L.nums.length<=40
variable {L:LS}
def Ag(m:Int):List (Str×LV):=[V "g" (.obj 13),V "n" (.int m)]
noncomputable def drawn(L:LS):Int:=if L.cI<L.nums.length then (L.nums[L.cI.toNat]?).getD 0 else L.cI*7+5
theorem item_at{xs:List Int}{i:Int}(h0:0<=i)(h1:i<xs.length)(h2:xs.length<=1000):mR (.lst (xs.map .int)) (.int i)=some (.int ((xs[i.toNat]?).getD 0)):=by
 have hl:i<=(bE:Nat):=by unfold bE;lia
 have hn:i.toNat<xs.length:=by lia
 show (if _ then _ else _)=_;rw[aa h0,aa hl];show idx _ _=_;unfold idx;rw[aa h0,aq rfl,dw,cB hn];rfl
theorem se{α:Type}(f:α->MV){xs:List α}(h:xs.length<=bE):nO (.lst (xs.map f))=some (xs.length:Int):=by show (if _ then _ else _)=_;rw[aj,aq h]
theorem BL(G:xO L){m:Int}(hm:0<m/\m<=100):gB (n+1) 1332 [.v (.obj 13),.v (.int m)] L (.val (.int (draw L m))) (LS.nR L (L.cI+1)):=by
 intro sc rb cp;have hlen:nO (.lst (L.nums.map .int))=some (L.nums.length:Int):=se _ (aW G.len (by decide));have g0:=G.cI;let L':LS:=(LS.nR L (L.cI+1));let s1:St:=⟨Ag m++[V "at" (.int L.cI)],L.o⟩;let s2:St:=⟨Ag m++[V "at" (.int L.cI)],L'.o⟩;let s3:St:=⟨Ag m++[V "at" (.int L.cI),V "x" (.int (drawn L))],L'.o⟩;refine eX (loc:=Ag m) (loc':=s3.loc) rfl rfl rfl ?_;refine aU s1 rfl (by done) ?_;refine aU s2 rfl (nJ (st1:=s1) (d:=14) (.val (.int (L.cI+1))) rfl (nK (d:=13) (.val (.int L.cI)) (.val (.int 1)) rfl (by done) rfl (by done) rfl rfl (ux G.cI ⟨by decide,by decide⟩)) (by done)) ?_;refine aU s3 rfl (fU (d:=14) (st1:=s2) rfl (.val (.int (drawn L))) (mX (d:=13) (decide (L.cI<L.nums.length)) rfl
  (dI (d:=12) (.val (.int L.cI)) (.val (.int L.nums.length)) rfl rfl (by done) rfl (pg (nm:="len") (d:=11) (as:=[.cont (.slot 13 (Str.ofString "nums"))]) rfl rfl (by done) (by done) rfl (show Option.map _ (nO (.lst (L.nums.map .int)))=_ by
   rw[hlen];rfl)) rfl rfl rfl) ?_) (by done)) (gc (st1:=s3) rfl (iC (d:=14) (st1:=s3) rfl (nK (d:=13) (.val (.int (drawn L))) (.val (.int m)) rfl (by done) rfl (by done) rfl rfl ?_)))
 ·unfold drawn;by_cases q:L.cI<L.nums.length
  ·rw[aa q,aq q];exact wc (d:=12) (st:=s2) (.cont (.slot 13 (Str.ofString "nums"))) (.val (.int L.cI)) rfl (by done) rfl (by done) (show Option.map _ (mR (.lst (L.nums.map .int)) (.int L.cI))=_ by
    rw[item_at g0.1 q (aW G.len (by decide))];rfl)
  ·rw[ao q,au q];refine nK (d:=12) (st:=s2) (.val (.int (L.cI*7))) (.val (.int 5)) rfl (nK (d:=11) (.val (.int L.cI)) (.val (.int 7)) rfl (by done) rfl (by done) rfl rfl ?_) rfl (by done) rfl rfl ?_
   ·show (if _ then _ else _)=_;revert g0;refine gj λg1 g2=>?_;rw[vM G.cI,aa (p:=(0:Int)<=7) (by decide),aa (p:=(7:Int)<=1000) (by decide),aa (p:=(-1000000000:Int)<=L.cI) (by lia),aa (p:=L.cI<=(1000000000:Int)) (by lia)];rfl
   ·show (if _ then _ else _)=_;revert g0;refine gj λg1 g2=>?_;have:small (L.cI*7)=true:=by unfold small qy;simp only[Bool.and_eq_true,decide_eq_true_eq];lia
    rw[this];rfl
 ·show (if _ then _ else _)=_;have:m<=qy:=by unfold qy;lia
  rw[aa hm.1,aa this];rfl
noncomputable def rB(x:Int):List Int->List Int
 | []=>[x]
 | y::r=>if x<y then x::y::r else if x=y then y::r else y::rB x r
def setOf:List Int->List Int
 | []=>[]
 | x::r=>rB x (setOf r)
noncomputable abbrev nX(l:List Int):Prop:=l.Pairwise (·<·)
theorem Gu{x z:Int}{l:List Int}:z∈rB x l↔z=x\/z∈l:=by
 induction l with
 | nil=>exact aC
 | cons y r ih=>
  show z∈(if x<y then x::y::r else if x=y then y::r else y::rB x r)↔_;by_cases h:x<y
  ·rw[aq h,aC]
  ·rw[au h];by_cases q:x=y
   ·rw[aq q,q,aC];exact ⟨Or.inr,λh=>h.elim Or.inl id⟩
   ·rw[au q,aC,aC,ih];exact or_left_comm
theorem mK{z:Int}{l:List Int}:z∈setOf l↔z∈l:=by
 induction l with
 | nil=>exact Iff.rfl
 | cons x r ih=>exact Gu.trans ((or_congr_right ih).trans aC.symm)
theorem Pd{x:Int}{l:List Int}:nX l->nX (rB x l):=by
 induction l with
 | nil=>exact λZ=>cG _ _
 | cons y r ih=>
  intro h;have h:=bk.mp h;show nX (if x<y then x::y::r else if x=y then y::r else y::rB x r);by_cases q:x<y
  ·rw[aq q];exact bk.mpr ⟨λz hz=>(aC.mp hz).elim (λe=>e▸q) λe=>Int.lt_trans q (h.1 z e),bk.mpr h⟩
  ·rw[au q];by_cases q':x=y
   ·rw[aq q'];exact bk.mpr h
   ·rw[au q'];exact bk.mpr ⟨λz hz=>(Gu.mp hz).elim (λe=>by lia) (h.1 z),ih h.2⟩
theorem mL:∀{l:List Int},nX (setOf l)
 | []=>List.Pairwise.nil
 | _::_=>Pd mL
theorem r6{l:List Int}:∀{m:List Int},nX l->nX m->(∀z,z∈l↔z∈m)->l=m:=by
 induction l with
 | nil=>
  intro m Z Z h;induction m using aaa with
  | nil=>rfl
  | cons y m=>exact absurd ((h y).mpr aE) aX
 | cons x l ih=>
  intro m hl hm h;induction m using aaa with
  | nil=>exact absurd ((h x).mp aE) aX
  | cons y m=>
   have hl:=bk.mp hl;have hm:=bk.mp hm;have e:x=y:=(aC.mp ((h x).mp aE)).elim id λe=>(aC.mp ((h y).mpr aE)).elim Eq.symm λe'=>absurd (Int.lt_trans (hl.1 y e') (hm.1 x e)) (Int.lt_irrefl x);subst e;refine bf _ (ih hl.2 hm.2 λz=>⟨λhz=>?_,λhz=>?_⟩)
   ·exact (aC.mp ((h z).mp (aO _ hz))).elim (λe=>absurd (hl.1 z hz) (e▸Int.lt_irrefl z)) id
   ·exact (aC.mp ((h z).mpr (aO _ hz))).elim (λe=>absurd (hm.1 z hz) (e▸Int.lt_irrefl z)) id
theorem YB{l:List Int}(h:nX l):setOf l=l:=r6 mL h λZ=>mK
theorem Nz{l m:List Int}(h:∀z,z∈l↔z∈m):setOf l=setOf m:=r6 mL mL λz=>by rw[mK,mK];exact h z
theorem AP{x z:Int}{l:List Int}:z∈mj x l↔z=x\/z∈l:=by
 induction l with
 | nil=>exact aC
 | cons y r ih=>
  show z∈(if decide (x<=y)=true then x::y::r else y::mj x r)↔_;by_cases h:decide (x<=y)=true
  ·rw[aq h,aC]
  ·rw[au h,aC,aC,ih];exact or_left_comm
theorem AL{z:Int}{l:List Int}:z∈i0 l↔z∈l:=by
 induction l with
 | nil=>exact Iff.rfl
 | cons x r ih=>exact AP.trans ((or_congr_right ih).trans aC.symm)
theorem NB{x:Int}{l:List Int}:l.Pairwise (·<=·)->(mj x l).Pairwise (·<=·):=by
 induction l with
 | nil=>exact λZ=>cG _ _
 | cons y r ih=>
  intro h;have h':=bk.mp h;show (if decide (x<=y)=true then x::y::r else y::mj x r).Pairwise (·<=·);by_cases q:decide (x<=y)=true
  ·rw[aq q];have q:=ai q;exact bk.mpr ⟨λz hz=>(aC.mp hz).elim (λe=>e▸q) λe=>Int.le_trans q (h'.1 z e),h⟩
  ·rw[au q];exact bk.mpr ⟨λz hz=>(AP.mp hz).elim (λe=>e▸Int.le_of_not_le λk=>q (aa k)) (h'.1 z),ih h'.2⟩
theorem AQ:∀{l:List Int},(i0 l).Pairwise (·<=·)
 | []=>List.Pairwise.nil
 | _::_=>NB AQ
theorem Lo{x:Int}{l:List Int}:x∉l->l.Nodup->(mj x l).Nodup:=by
 induction l with
 | nil=>exact λZ Z=>cG _ _
 | cons y r ih=>
  intro hx h;rw[aC,not_or]at hx;have h':=bx.mp h;show (if decide (x<=y)=true then x::y::r else y::mj x r).Nodup;by_cases q:decide (x<=y)=true
  ·rw[aq q];exact bx.mpr ⟨by rw[aC,not_or];exact hx,h⟩
  ·rw[au q];exact bx.mpr ⟨λq=>(AP.mp q).elim (λe=>hx.1 e.symm) h'.1,ih hx.2 h'.2⟩
theorem Lg{l:List Int}:l.Nodup->(i0 l).Nodup:=by
 induction l with
 | nil=>exact λZ=>List.Pairwise.nil
 | cons x r ih=>exact λh=>Lo (λq=>(bx.mp h).1 (AL.mp q)) (ih (bx.mp h).2)
theorem Su{l:List Int}(h:l.Pairwise (·<=·))(k:l.Nodup):nX l:=by refine (List.pairwise_and_iff.mpr ⟨h,k⟩).imp λ{a b} q=>?_;have:=q.1;have:=q.2;lia
theorem LR{l:List Int}(h:l.Nodup):i0 l=setOf l:=r6 (Su AQ (Lg h)) mL λz=>by rw[AL,mK]
theorem AR:∀(l:List Int),nD (l.map .int)=some l
 | []=>rfl
 | x::r=>by
  show (nD (r.map .int)).map _=_;rw[AR r];rfl
theorem qP(x y:Int):MV.beq (.int x) (.int y)=decide (x=y):=rfl
theorem yo(es:List Int)(x:Int):gE (es.map one) (.int x)=true:=by induction es using aaa<;>rfl
theorem Pe(x:Int)(es:List Int):eK (es.map one) (.int x)=if x∈es then some (.int 1) else none:=by
 induction es with
 | nil=>rfl
 | cons y r ih=>
  show (if MV.beq (.int y) (.int x)=true then _ else eK (r.map one) (.int x))=_;rw[qP,ih];by_cases h:y=x
  ·rw[aq (aa h),aq (by rw[h];exact aE)]
  ·rw[au (by simpa using h)];simp only[List.mem_cons];by_cases q:x∈r
   ·rw[aq q,aq (Or.inr q)]
   ·rw[au q,au (by rintro (e | e);exact h e.symm;exact q e)]
theorem wg(x:Int)(es:List Int):isIn (.int x) (.bO (es.map one))=some (decide (x∈es)):=by
 show (if _ then _ else _)=_;rw[yo,aq rfl,Pe];by_cases q:x∈es
 ·rw[aq q,aa q];rfl
 ·rw[au q,ao q];rfl
noncomputable def kW(es:List Int)(x:Int):List Int:=if x∈es then es else es++[x]
theorem Bo(x:Int)(es:List Int):iy (es.map one) (.int x) (.int 1)=(kW es x).map one:=by
 induction es with
 | nil=>rfl
 | cons y r ih=>
  show (if MV.beq (.int y) (.int x)=true then _ else _::iy (r.map one) (.int x) (.int 1))=_;rw[qP,ih];unfold kW;by_cases h:y=x
  ·rw[aq (aa h),aq (by rw[h];exact aE),h];rfl
  ·rw[au (by simpa using h)];simp only[List.mem_cons];by_cases q:x∈r
   ·rw[aq q,aq (Or.inr q)];rfl
   ·rw[au q,au (by rintro (e | e);exact h e.symm;exact q e)];rfl
theorem Bp(k:Nat)(x:Int):MV.data k (.int x)=true:=by induction k using aae<;>rfl
theorem vN(k:Nat)(l:List Int):(l.map MV.int).all (MV.data k)=true:=by
 induction l with
 | nil=>rfl
 | cons x r ih=>rw[bP,bS,Bp,ih];rfl
theorem G9(x:Int)(l:List Int):((l.map MV.int).any λy=>MV.beq y (.int x))=decide (x∈l):=by
 rw[Bool.eq_iff_iff,cE,decide_eq_true_iff];constructor
 ·rintro ⟨w,hw,e⟩;obtain ⟨y,hy,rfl⟩:=aN.mp hw;rw[qP]at e;exact ai e▸hy
 ·exact λh=>⟨_,aN.mpr ⟨x,h,rfl⟩,by rw[qP];exact aa rfl⟩
theorem BY(x:Int)(l:List Int):isIn (.int x) (.lst (l.map .int))=some (decide (x∈l)):=by show (if _ then _ else _)=_;rw[Bp,vN,G9];rfl
theorem qT(x:Int)(l:List Int):isIn (.int x) (.tup (l.map .int))=some (decide (x∈l)):=by show (if _ then _ else _)=_;rw[Bp,vN,G9];rfl
theorem rS(l:List Int):∀m:List Int,MV.g7 (l.map .int) (m.map .int)=decide (l=m):=by
 induction l with
 | nil=>intro m;induction m using aaa with
  | nil=>exact rfl
  | cons=>exact (ao λh=>nomatch h).symm
 | cons x l ih=>intro m;induction m using aaa with
  | nil=>exact (ao λh=>nomatch h).symm
  | cons y m=>show (decide (x=y)&&MV.g7 (l.map .int) (m.map .int))=_;rw[ih m,<-Bool.decide_and];exact decide_eq_decide.mpr (List.cons.injEq x l y m▸Iff.rfl)
theorem qc(l m:List Int):gm (.lst (l.map .int)) (.lst (m.map .int))=some (decide (l=m)):=by show (if ((l.map MV.int).all (MV.data 5)&&(m.map MV.int).all (MV.data 5))=true then some (MV.g7 (l.map .int) (m.map .int)) else none)=_;rw[vN,vN,rS];rfl
noncomputable def sJ:List (List Int×Int):=[([8,9],12),([4,16],18),([4,5],21),([3,16],24)]
noncomputable def pI:Nat->List (List Int)->List (List Int×Int)
 | _,[]=>[]
 | n,l::r=>(l,(n:Int))::pI (n+1) r
noncomputable def fO:List (List Int×Int)->List Int->Option Int
 | [],_=>none
 | (k,v)::r,l=>if k=l then some v else fO r l
def gK(U:List (List Int)):List (List Int×Int):=sJ++pI 33 U
theorem yK(l m:List Int):MV.beq (dB l) (dB m)=decide (l=m):=by show (decide ((6:Int)=6)&&(MV.g7 (l.map .int) (m.map .int)&&true))=_;rw[rS,Bool.and_true];rfl
theorem Pf(l:List Int)(U:List (List Int)):∀(n:Nat),eK (numbered n (U.map dB)) (dB l)=(fO (pI n U) l).map .int:=by
 induction U with
 | nil=>exact λn=>rfl
 | cons k r ih=>
  intro n;show (if MV.beq (dB k) (dB l)=true then some (.int n) else eK (numbered (n+1) (r.map dB)) (dB l))=Option.map _ (if k=l then some (n:Int) else fO (pI (n+1) r) l);rw[yK,ih (n+1)];by_cases h:k=l
  ·rw[aq (aa h),aq h];rfl
  ·rw[au (by simpa using h),au h]
theorem Gv(a b:List (MV×MV))(k:MV):eK (a++b) k=(eK a k).or (eK b k):=by
 induction a with
 | nil=>rfl
 | cons e r ih=>
  show (if MV.beq e.1 k=true then some e.2 else eK (r++b) k)=Option.or (if MV.beq e.1 k=true then some e.2 else eK r k) _;by_cases q:MV.beq e.1 k=true
  ·rw[aq q,aq q];rfl
  ·rw[au q,au q];exact ih
theorem vV(l:List Int)(a b:List (List Int×Int)):fO (a++b) l=(fO a l).or (fO b l):=by
 induction a with
 | nil=>rfl
 | cons e r ih=>
  show (if e.1=l then some e.2 else fO (r++b) l)=Option.or (if e.1=l then some e.2 else fO r l) _;by_cases q:e.1=l
  ·rw[aq q,aq q];rfl
  ·rw[au q,au q];exact ih
theorem NC(l:List Int):eK (numbered 0 j9) (dB l)=(fO sJ l).map .int:=by
 have h:eK (numbered 0 j9) (dB l)=if MV.beq (dB [8,9]) (dB l)=true then some (.int 12) else if MV.beq (dB [4,16]) (dB l)=true then some (.int 18) else if MV.beq (dB [4,5]) (dB l)=true then some (.int 21) else if MV.beq (dB [3,16]) (dB l)=true then some (.int 24) else none:=by done
 rw[h];simp only[yK,decide_eq_true_eq,sJ,fO];split
 ·rfl
 ·split
  ·rfl
  ·split
   ·rfl
   ·split<;>rfl
theorem Gw(U:List (List Int))(l:List Int):eK (numbered 0 j9++numbered 33 (U.map dB)) (dB l)=(fO (gK U) l).map .int:=by rw[Gv,NC,Pf,gK,vV];cases fO sJ l<;>rfl
def uid(U:List (List Int))(l:List Int):Int:=match l with
 | []=>2
 | [x]=>x
 | _=>(fO (gK U) l).getD (33+U.length)
def gr(U:List (List Int))(l:List Int):List (List Int):=match l with
 | []=>U
 | [_]=>U
 | _=>if (fO (gK U) l).isSome then U else U++[l]
theorem QT(k:Nat)(x:Int):MV.key k (.int x)=true:=by induction k using aae<;>rfl
theorem Pg(k:Nat)(l:List Int):(l.map MV.int).all (MV.key k)=true:=by
 induction l with
 | nil=>rfl
 | cons x r ih=>rw[bP,bS,QT,ih];rfl
theorem QU(l:List Int):yX (dB l)=true:=by show (true&&((l.map MV.int).all (MV.key 4)&&true))=true;rw[Pg];rfl
def k9(U:List (List Int)):List (MV×MV):=numbered 0 j9++numbered 33 (U.map dB)
theorem yp(U:List (List Int))(l:List Int):gE (k9 U) (dB l)=true:=by show (yX (dB l)&&true)=true;rw[QU];rfl
theorem AH:∀(n:Nat) (R:List MV),(numbered n R).length=R.length
 | _,[]=>rfl
 | n,_::r=>by show (numbered (n+1) r).length+1=_;rw[AH];rfl
theorem Lp(x:MV)(a:List MV):∀(n:Nat),numbered n (a++[x])=numbered n a++[(x,.int (n+a.length:Nat))]:=by
 induction a with
 | nil=>exact λn=>rfl
 | cons y r ih=>intro n;show (y,_)::numbered (n+1) (r++[x])=(y,_)::(numbered (n+1) r++_);rw[ih,show n+1+r.length=n+(y::r).length by rw[aR];lia]
theorem QV(U:List (List Int)):(k9 U).length=33+U.length:=by unfold k9;rw[ay,AH,AH,aj];rfl
theorem Gx(es:List (MV×MV))(k v:MV):eK es k=none->iy es k v=es++[(k,v)]:=by
 induction es with
 | nil=>exact λZ=>rfl
 | cons e r ih=>
  intro h;have h:(if MV.beq e.1 k=true then some e.2 else eK r k)=none:=h;show (if MV.beq e.1 k=true then _ else (e.1,e.2)::iy r k v)=_;by_cases q:MV.beq e.1 k=true
  ·rw[aq q]at h;injection h
  ·rw[au q]at h;rw[au q,ih h];rfl
theorem QW{U:List (List Int)}{l:List Int}:tabS (U++[l])=cQ (U.map dB++[dB l]) (numbered 33 (U.map dB)++[(dB l,.int (33+U.length))]):=by unfold tabS;rw[bB,List.map_singleton,Lp,aj];rfl
def xP(l:List Int):List (Str×LV):=[V "self" (.obj 0),V "row" (dB l)]
variable {U:List (List Int)} {l:List Int} {sc:Scope} {rb cp:Bool}
theorem QX{t:Int}(h:fO (gK U) l=some t):Runs (n+1) ⟨sc,false,rb,cp⟩ 282 [.v (.obj 0),.v (dB l)] (tabS U::σ) (.val (.int t)) (tabS U::σ):=by
 have hg:eK (k9 U) (dB l)=some (.int t):=by unfold k9;rw[Gw,h];rfl
 let s:St:=⟨xP l,tabS U::σ⟩;refine eX (loc:=s.loc) (loc':=s.loc) rfl rfl rfl ?_;refine gc rfl (iE (d:=13) (st1:=s) true rfl (dI (d:=13) (.val (dB l)) (.cont (.slot 0 (Str.ofString "index"))) rfl rfl (by done) rfl (by done) rfl (y:=.bO (k9 U)) rfl ?_) (gc rfl (iC (d:=12) rfl (wc (d:=11) (.cont (.slot 0 (Str.ofString "index"))) (.val (dB l)) rfl (by done) rfl (by done) ?_))))
 ·show (if gE (k9 U) (dB l)=true then some (eK (k9 U) (dB l)).isSome else none)=_;rw[yp,hg];rfl
 ·show Option.map _ (if gE (k9 U) (dB l)=true then eK (k9 U) (dB l) else none)=_;rw[yp,hg];rfl
theorem QY(h:fO (gK U) l=none)(hl:U.length<=100000):Runs (n+1) ⟨sc,false,rb,cp⟩ 282 [.v (.obj 0),.v (dB l)] (tabS U::σ) (.val (.int (33+U.length))) (tabS (U++[l])::σ):=by
 have hg:eK (k9 U) (dB l)=none:=by unfold k9;rw[Gw,h];rfl
 have hlen:(j9++U.map dB).length=33+U.length:=by rw[ay,aj];rfl
 let s:St:=⟨xP l,tabS U::σ⟩;let s1:St:=⟨xP l++[V "t" (.int (33+U.length))],tabS U::σ⟩;let s2:St:=⟨xP l++[V "t" (.int (33+U.length))],cQ (U.map dB++[dB l]) (numbered 33 (U.map dB))::σ⟩;let s3:St:=⟨xP l++[V "t" (.int (33+U.length))],cQ (U.map dB++[dB l]) (numbered 33 (U.map dB)++[(dB l,.int (33+U.length))])::σ⟩;rw[QW];refine eX (loc:=s.loc) (loc':=s3.loc) rfl rfl rfl ?_;refine dX (d:=13) (st1:=s) (st2:=s) false rfl rfl (dI (d:=13) (.val (dB l)) (.cont (.slot 0 (Str.ofString "index"))) rfl rfl (by done) rfl (by done) rfl (y:=.bO (k9 U)) rfl ?_) (bQ rfl) ?_
 ·show (if gE (k9 U) (dB l)=true then some (eK (k9 U) (dB l)).isSome else none)=_;rw[yp,hg];rfl
 refine aU s1 rfl (fU (d:=14) (st1:=s) rfl (.val (.int (33+U.length))) (pg (nm:="len") (d:=13) (as:=[.cont (.slot 0 (Str.ofString "rows"))]) rfl rfl (by done) (by done) rfl (show Option.map _ (if (j9++U.map dB).length<=bE then some ((j9++U.map dB).length:Int) else none)=_ by
   rw[hlen,aq (by unfold bE;lia)];rfl)) (by done)) ?_
 refine aU s2 rfl (i9 (d:=14) (.val .none) rfl rfl (gQ (d:=13) (st1:=s1) (st2:=s1) (as:=[.val (dB l)]) (mf:=none) (.cont (.slot 0 (Str.ofString "rows"))) rfl rfl (by done) rfl (by done) rfl (lE rfl (o7 (dB l) (.slot 0 (Str.ofString "rows")) (j9++U.map dB) (by done) (by rw[hlen];unfold bE;lia) rfl ?_))) rfl) ?_
 ·rw[cH]
  done
 refine aU s3 rfl (nJ (st1:=s2) (d:=14) (.val (.int (33+U.length))) rfl (by done) (qb (st1:=s2) (st2:=s2) (.slot 0 (Str.ofString "index")) (dB l) (k9 U) (by done) rfl (by done) (by done) (yp U l) (by rw[QV];unfold bE;lia) rfl ?_)) (gc rfl (by done));rw[Gx _ _ _ hg];unfold k9;rw[cH]
 done
inductive BB:Int->Prop
 | a:BB 3
 | b:BB 4
 | c:BB 5
 | d:BB 6
 | e:BB 11
 | f:BB 16
 | g:BB 17
 | h0:BB 19
 | i:BB 20
 | j:BB 22
 | k:BB 23
 | l:BB 25
 | m:BB 26
 | n:BB 27
 | o:BB 28
 | p:BB 29
 | q:BB 30
 | r:BB 31
 | s:BB 32
noncomputable def Kv:List Int:=[3,4,5,6,11,16,17,19,20,22,23,25,26,27,28,29,30,31,32]
theorem BZ{β:Type}{f g:Int->β}(h:Kv.map f=Kv.map g){a:Int}(ha:BB a):f a=g a:=bJ.mp h a (by cases (ha)<;>decide)
theorem Gy{l:List Int}{t:Int}(U:List (List Int)):∀n:Nat,fO (pI n U) l=some t->∃i:Nat,t=(n+i:Nat)/\U[i]?=some l:=by
 induction U with
 | nil=>exact λn h=>aM h
 | cons k r ih=>intro n h;have h:(if k=l then some (n:Int) else fO (pI (n+1) r) l)=some t:=h;refine mD (λe h=>⟨0,someE h,bf some e⟩) (λZ h=>?_) h;refine bz (ih (n+1) h) λi e q=>?_;exact ⟨i+1,by rw[e];congr 1;lia,by rw[List.getElem?_cons_succ];exact q⟩
theorem uy{U:List (List Int)}{l:List Int}{t:Int}(h:fO (gK U) l=some t):∃i:Nat,t=(i:Int)/\(j9++U.map dB)[i]?=some (dB l)/\i<33+U.length/\12<=i/\i≠13:=by
 unfold gK at h;rw[vV]at h;cases hb:fO sJ l with
 | some v=>
  rw[hb]at h;exists h,h;have hb:(if [8,9]=l then some (12:Int) else if [4,16]=l then some 18 else if [4,5]=l then some 21 else if [3,16]=l then some 24 else none)=some t:=hb;have go:∀(i:Nat) (m:List Int),m=l->j9[i]?=some (dB m)->i<33->12<=i->i≠13->(i:Int)=t->∃i:Nat,t=(i:Int)/\(j9++U.map dB)[i]?=some (dB l)/\i<33+U.length/\12<=i/\i≠13:=λi m e hr hi h2 h3 ht=>⟨i,ht.symm,by rw[<-e,cM hi];exact hr,by lia,h2,h3⟩;split at hb
  ·rename_i e;exists hb,hb;exact go 12 _ e rfl (by decide) (by decide) (by decide) rfl
  ·split at hb
   ·rename_i e;exists hb,hb;exact go 18 _ e rfl (by decide) (by decide) (by decide) rfl
   ·split at hb
    ·rename_i e;exists hb,hb;exact go 21 _ e rfl (by decide) (by decide) (by decide) rfl
    ·split at hb
     ·rename_i e;exists hb,hb;exact go 24 _ e rfl (by decide) (by decide) (by decide) rfl
     ·exact aM hb
 | none=>
  rw[hb]at h;refine bz (Gy U 33 h) λi e q=>?_;have hi:i<U.length:=by
   refine bu (Nat.lt_or_ge i U.length) (λc=>?_) λc=>?_
   ·exact c
   ·rw[List.getElem?_eq_none c]at q;exact aM q
  refine ⟨33+i,e,?_,by lia,by lia,by lia⟩;rw[cy (by show 33<=33+i;lia)];show (U.map dB)[33+i-33]?=_;rw[Nat.add_sub_cancel_left,dw,q];rfl
theorem Ft(h:BB t):Runs (n+1) cx 336 [.v (.obj 0),.v (.int t)] (tabS U::σ) (.val (nums [t])) (tabS U::σ):=lu (BZ (f:=λt=>(jq PG RB (n+1) cx 336 [.v (.obj 0),.v (.int t)] (tabS U::σ)).map λp=>(p.1,p.2.aD)) (g:=λt=>some (.val (nums [t]),tabS U::σ)) (by done) h)
theorem FY:Runs (n+1) cx 336 [.v (.obj 0),.v (.int 2)] (tabS U::σ) (.val (nums [])) (tabS U::σ):=lu (by done)
theorem Ph(h:fO (gK U) l=some t)(hl:U.length<=100000):Runs (n+1) cx 336 [.v (.obj 0),.v (.int t)] (tabS U::σ) (.val (nums l)) (tabS U::σ):=by
 refine qu (uy h) λi g8 hr hi h2 h3=>?_;obtain rfl:=g8;let s:St:=⟨[V "tab" (.obj 0),V "t" (.int i)],tabS U::σ⟩;let s1:St:=⟨[V "tab" (.obj 0),V "t" (.int i),V "row" (dB l)],tabS U::σ⟩;refine eX (loc:=s.loc) (loc':=s1.loc) rfl rfl rfl ?_;refine dX (d:=13) (st1:=s) (st2:=s) false rfl rfl (dI (d:=13) (.val (.int i)) (.val (.int 2)) rfl rfl (by done) rfl (by done) rfl rfl ?_) (bQ rfl) ?_
 ·show gm (.int i) (.int 2)=_;show some (MV.beq (.int i) (.int 2))=_;rw[qP,ao (by lia)]
 refine aU s1 rfl (fU (d:=14) (st1:=s) rfl (.val (dB l)) (wc (d:=13) (.cont (.slot 0 (Str.ofString "rows"))) (.val (.int i)) rfl (by done) rfl (by done) ?_) (by done)) (g5 (by done));show Option.map _ (if ((decide ((0:Int)<=i)||decide ((j9++U.map dB).length<=bE))&&decide ((i:Int)<=bE))=true then idx (j9++U.map dB) i else none)=_;rw[aa (p:=(0:Int)<=i) (by lia),aa (p:=(i:Int)<=bE) (by unfold bE;lia)];show Option.map _ (if decide ((0:Int)<=i)=true then (j9++U.map dB)[(i:Int).toNat]? else _)=_;rw[aa (p:=(0:Int)<=i) (by lia),aq rfl,Int.toNat_natCast,hr];rfl
theorem BB.ne{x:Int}(h:BB x):x≠0/\x≠1/\x≠2/\x≠13/\x≠-1/\x≠8/\x≠9/\x≠14/\x≠15/\0<=x/\x<=32:=by cases (h)<;>decide
theorem sorted_ints:∀(l:List Int),sorted (l.map .int)=some (.lst ((i0 l).map .int))
 | []=>rfl
 | [_]=>rfl
 | x::y::r=>by
  show (nD ((x::y::r).map .int)).map _=_;rw[AR];rfl
theorem LU{l:List Int}(h:l.length<64)(k:l.Nodup):p8 (.bO (l.map one))=some (.lst ((setOf l).map .int)):=by show (if _ then _ else _)=_;rw[aj,aq h,bI,show ((λe:MV×MV=>e.1) ∘ one)=MV.int from rfl,sorted_ints,LR k]
def xQ(es:List Int)(t:Int):List (Str×LV):=[V "tab" (.obj 0),(Str.ofString "got",.bor (.bO (es.map one))),V "t" (.int t)]
theorem Pj{es:List Int}(h:BB t)(hn:∀z∈es,BB z):Runs (n+2) cx 364 [.v (.obj 0),.bor (.bO (es.map one)),.v (.int t)] (tabS U::σ) (.val (.bool true)) (tabS U::σ):=by
 have hm:(-1:Int)∉es:=λq=>(hn _ q).ne.2.2.2.2.1 rfl;let s:St:=⟨xQ es t,tabS U::σ⟩;have h1:=BZ (f:=λt=>(rn (n+1) 13).e ⟨(fnOf 364).scope,cx.ro,RB 364,false⟩ (x1 (sv (hd (fnOf 364).body))) ⟨xQ es t,tabS U::σ⟩) (g:=λt=>some (.val (.int (-1)),⟨xQ es t,tabS U::σ⟩)) (by done) h;have h2:=BZ (f:=λt=>(rn (n+1) 13).e ⟨(fnOf 364).scope,cx.ro,RB 364,false⟩ (x1 (sv (hd (fnOf 364).body.tail))) ⟨xQ es t,tabS U::σ⟩) (g:=λt=>some (.val (.int (-1)),⟨xQ es t,tabS U::σ⟩)) (by done) h;refine eX (loc:=s.loc) (loc':=s.loc) rfl rfl rfl ?_;refine dX (d:=13) (st1:=s) (st2:=s) false rfl rfl (dI (d:=13) (.val (.int (-1))) (.bor (.bO (es.map one))) rfl rfl h1 rfl (by done) rfl rfl ?_) (bQ rfl) ?_
 ·show isIn (.int (-1)) (.bO (es.map one))=_;rw[wg,ao hm]
 refine gc rfl (iC (d:=14) (st1:=s) rfl (sj (d:=13) (.val (.int (-1))) (.bor (.bO (es.map one))) rfl rfl h2 rfl (by done) rfl rfl ?_));show (isIn (.int (-1)) (.bO (es.map one))).map _=_;rw[wg,ao hm];rfl
def vp(es:List Int):List (Str×LV):=[(Str.ofString "got",.bor (.bO (es.map one)))]
theorem Sv{es:List Int}(hn:∀z∈es,BB z):Runs (n+1) cx 371 [.bor (.bO (es.map one))] σ (.val (.int (-1))) σ:=by
 have h0:(0:Int)∉es:=λq=>(hn _ q).ne.1 rfl;have h1:(1:Int)∉es:=λq=>(hn _ q).ne.2.1 rfl;have Ah:(13:Int)∉es:=λq=>(hn _ q).ne.2.2.2.1 rfl;let s (t:Int):St:=⟨vp es++[V "t" (.int t)],σ⟩;have one:∀(sc:Scope) (t:Int),t∉es->Go n 13 ⟨(fnOf 371).scope,cx.ro||false,RB 371,false⟩ (bo (hd (fnOf 371).body)) (s t) .bN (s t):=by intro sc t ht;refine dX (d:=11) (st1:=s t) (st2:=s t) false rfl rfl (dI (d:=11) (.val (.int t)) (.bor (.bO (es.map Mine.B.one))) rfl rfl (by done) rfl (by done) rfl rfl ?_) (bQ rfl) (bQ rfl);show isIn (.int t) (.bO (es.map Mine.B.one))=_;rw[wg,ao ht]
 refine eX (loc:=vp es) (loc':=(s 1).loc) rfl rfl rfl ?_;refine aU (s 1) rfl (oF (d:=13) (xs:=[.int 0,.int 13,.int 1]) (ins:=false) (st1:=⟨vp es,σ⟩) rfl (by done) (by decide) (jn (st1:=s 0) (st2:=s 0) (by done) ?_ (jn (st1:=s 13) (st2:=s 13) (by done) ?_ (jn (st1:=s 1) (st2:=s 1) (by done) ?_ mJ))) rfl) (g5 (by done))
 ·exact one default 0 h0
 ·exact one default 13 Ah
 ·exact one default 1 h1
theorem MD{es:List Int}{x:Int}(h:es.Nodup):(kW es x).Nodup:=by
 unfold kW;split
 ·exact h
 ·rename_i q;rw[List.nodup_append];refine ⟨h,by simp,λa ha b hb=>?_⟩;rw[aA]at hb;rw[hb];rintro rfl;exact q ha
theorem Gz{es:List Int}{x z:Int}:z∈kW es x↔z∈es\/z=x:=by
 unfold kW;split
 ·rename_i q;constructor
  ·exact Or.inl
  ·rintro (h | h)
   ·exact h
   ·rw[h];exact q
 ·simp
theorem GA(es:List Int)(x:Int):(kW es x).length<=es.length+1:=by
 unfold kW;split
 ·lia
 ·rw[ay];exact az _
inductive R3
 | z
 | t (a:Int)
 | p (a b:Int)
def R3.lo:R3->List (Str×LV)
 | .z=>[]
 | .t a=>[V "t" (.int a)]
 | .p a b=>[V "t" (.int a),V "part" (.int b)]
theorem BI{es:List Int}(hn:∀z∈es,BB z):Runs (n+1) cx 357 [.bor (.bO (es.map one))] σ (.val .none) σ:=by
 have h8:(8:Int)∉es:=λq=>(hn _ q).ne.2.2.2.2.2.1 rfl;have XD:(14:Int)∉es:=λq=>(hn _ q).ne.2.2.2.2.2.2.2.1 rfl;let s:St:=⟨vp es,σ⟩;refine qO (loc:=vp es) (loc':=vp es) rfl rfl rfl ?_;refine dX (d:=13) (st1:=s) (st2:=s) false rfl rfl (uM (d:=13) rfl (nI rfl (sH (d:=12) rfl (kL (st1:=s) rfl (dI (d:=11) (.val (.int 8)) (.bor (.bO (es.map one))) rfl rfl (by done) rfl (by done) rfl rfl ?_)
  (kL (st1:=s) rfl (dI (d:=11) (.val (.int 14)) (.bor (.bO (es.map one))) rfl rfl (by done) rfl (by done) rfl rfl ?_) rfl))))) (bQ rfl) (bQ rfl)
 ·show isIn (.int 8) (.bO (es.map one))=_;rw[wg,ao h8]
 ·show isIn (.int 14) (.bO (es.map one))=_;rw[wg,ao XD]
def jE(ps es:List Int):List (Str×LV):=[V "tab" (.obj 0),V "parts" (.lst (ps.map .int)),W "got" (.bO (es.map one))]
theorem QZ{sc:Scope}{ps es:List Int}(ht:BB t\/t=2)(hl:es.length<1000)(r:R3):∃st1 r',setName ⟨(fnOf 376).scope,cx.ro||false,RB 376,false⟩ ⟨jE ps es++r.lo,tabS U::σ⟩ (iG (hd (fnOf 376).body.tail)) (.val (.int t))=some st1/\
  Go (n+1) 13 ⟨(fnOf 376).scope,cx.ro||false,RB 376,false⟩ (bo (hd (fnOf 376).body.tail)) st1 .bN ⟨jE ps (if t=2 then es else kW es t)++R3.lo r',tabS U::σ⟩:=by
 revert ht;refine eS (λht=>?CG) λgk=>?CH;(case' CH=>(obtain rfl:=gk));(case' CG=>(skip))
 ·have h2:t≠2:=ht.ne.2.2.1;rw[au h2];let s1 (r:R3):St:=⟨jE ps es++(match r with | .p _ b=>R3.p t b | _=>R3.t t).lo,tabS U::σ⟩;let s2:St:=⟨jE ps es++(R3.p t t).lo,tabS U::σ⟩;let s3:St:=⟨jE ps (kW es t)++(R3.p t t).lo,tabS U::σ⟩;refine ⟨s1 r,.p t t,by cases (r)<;>done,?_⟩;refine aU s3 rfl (oF (d:=11) (xs:=[.int t]) (ins:=false) (st1:=s1 r) rfl (vL (d:=12) (.val (nums [t])) rfl ?_ rfl) (show 1<bE by decide) (jn (st1:=s2) (st2:=s3) (by cases (r)<;>done) ?_ mJ) rfl) (bQ rfl)
  ·exact dO (d:=11) 336 (st1:=s1 r) (as:=[.val (.obj 0),.val (.int t)]) rfl rfl rfl (by done) (by cases (r)<;>done) rfl rfl (Ft (U:=U) (σ:=σ) ht) rfl
  ·refine aU s3 rfl (nJ (st1:=s2) (d:=10) (.val (.int 1)) rfl (by done) (qb (st1:=s2) (st2:=s2) (.var (Str.ofString "got")) (.int t) (es.map one) (by done) rfl (by done) rfl (yo es t) (by rw[aj];unfold bE;lia) rfl ?_)) (bQ rfl);rw[Bo]
   done
 ·rw[aq rfl];let r':R3:=match r with | .p _ b=>R3.p 2 b | _=>R3.t 2
  let s1:St:=⟨jE ps es++r'.lo,tabS U::σ⟩;refine ⟨s1,r',by cases (r)<;>done,?_⟩;refine aU s1 rfl (oF (d:=11) (xs:=[]) (ins:=false) (st1:=s1) rfl (vL (d:=12) (.val (nums [])) rfl ?_ rfl) (by decide) mJ rfl) (bQ rfl);exact dO (d:=11) 336 (st1:=s1) (as:=[.val (.obj 0),.val (.int 2)]) rfl rfl rfl (by done) (by cases (r)<;>done) rfl rfl (FY (U:=U) (σ:=σ)) rfl
noncomputable def pS(ps:List Int):List Int:=ps.filter λz=>decide (z≠2)
theorem Hf{ps:List Int}{z:Int}:z∈pS ps↔z∈ps/\z≠2:=by unfold pS;rw[eu,aK]
theorem Pk(x:Int)(m:List Int):(rB x m).length<=m.length+1:=by
 induction m with
 | nil=>exact az _
 | cons y m ih=>
  show (if x<y then x::y::m else if x=y then y::m else y::rB x m).length<=_;by_cases q:x<y
  ·rw[aq q];exact az _
  ·rw[au q];by_cases q:x=y
   ·rw[aq q];exact bG _
   ·rw[au q];exact cR ih
theorem yq(l:List Int):(setOf l).length<=l.length:=by
 induction l with
 | nil=>exact az _
 | cons x r ih=>exact aW (Pk x _) (cR ih)
def UI(U:List (List Int))(σ:eN)(ps:List Int)(vs:List MV)(st:St):Prop:=∃(qs es:List Int) (r:R3),vs=qs.map .int/\(∀q∈qs,BB q\/q=2)/\es.Nodup/\(∀z∈es,BB z)/\(∀z,(z∈es\/(z∈qs/\z≠2))↔z∈pS ps)/\es.length+qs.length<=ps.length/\st=⟨jE ps es++r.lo,tabS U::σ⟩
theorem Q0{ps:List Int}(hp:∀p∈ps,BB p\/p=2)(hlen:ps.length<60):∃(es:List Int) (r:R3),lD (n+1) 13 ⟨(fnOf 376).scope,cx.ro||false,RB 376,false⟩ (iG (hd (fnOf 376).body.tail)) (bo (hd (fnOf 376).body.tail)) (ps.map .int) ⟨jE ps [],tabS U::σ⟩ .bN ⟨jE ps es++r.lo,tabS U::σ⟩/\
  es.Nodup/\(∀z∈es,BB z)/\setOf es=setOf (pS ps)/\es.length<60:=by
 refine cg (turns_inv (n:=n+1) (d:=13) (cx:=⟨(fnOf 376).scope,cx.ro||false,RB 376,false⟩) (x:=iG (hd (fnOf 376).body.tail)) (b:=bo (hd (fnOf 376).body.tail)) (I:=UI U σ ps) (λv rr st=>by
  rintro ⟨qs,es,r,e,hq,hn,hb,hm,hl,rfl⟩;induction qs using aaa with
  | nil=>cases (e)
  | cons q qs=>
   cases (e);have hl:es.length+(qs.length+1)<=ps.length:=hl;refine kj (QZ (n:=n) (U:=U) (σ:=σ) (cx:=cx) (sc:=(fnOf 376).scope) (ps:=ps) (es:=es) (hq q aE) (by lia) r) λst1 r' h1 h2=>?_;refine ⟨st1,_,h1,h2,qs,_,r',rfl,λz hz=>hq z (aO _ hz),?_,?_,?_,?_,rfl⟩
   ·split
    ·exact hn
    ·exact MD hn
   ·split
    ·exact hb
    ·rename_i q2;intro z hz;refine bu (Gz.mp hz) (λh=>?_) λh=>?_
     ·exact hb z h
     ·rw[h];exact (hq q aE).resolve_right q2
   ·intro z;rw[<-hm z];split
    ·rename_i q2;rw[aC];constructor
     ·rintro (h | ⟨h,k⟩)
      ·exact Or.inl h
      ·exact Or.inr ⟨Or.inr h,k⟩
     ·rintro (h | ⟨h | h,k⟩)
      ·exact Or.inl h
      ·exact absurd (h.trans q2) k
      ·exact Or.inr ⟨h,k⟩
    ·rename_i q2;rw[aC,Gz];constructor
     ·rintro ((h | h) | ⟨h,k⟩)
      ·exact Or.inl h
      ·exact Or.inr ⟨Or.inl h,by rw[h];exact q2⟩
      ·exact Or.inr ⟨Or.inr h,k⟩
     ·rintro (h | ⟨h | h,k⟩)
      ·exact Or.inl (Or.inl h)
      ·exact Or.inl (Or.inr h)
      ·exact Or.inr ⟨h,k⟩
   ·split
    ·lia
    ·have:=GA es q;lia) (ps.map .int) ⟨jE ps [],tabS U::σ⟩ ⟨ps,[],.z,rfl,hp,List.nodup_nil,λZ h=>absurd h aX,λz=>by rw[Hf];simp,by simp,rfl⟩) λst' dP=>?_
 revert dP;refine gj λh1 DB=>?_;revert DB;refine Jp λqs es r e Z h2 h3 h4 h5 h6=>?_;have:qs=[]:=by
  induction qs using aaa with
  | nil=>rfl
  | cons=>cases (e)
 subst this;subst h6;refine ⟨es,r,h1,h2,h3,Nz λz=>?_,by simp at h5;lia⟩;rw[<-h4 z];simp
theorem iJ(x y:Int):gm (.int x) (.int y)=some (decide (x=y)):=by show some (MV.beq _ _)=_;rw[qP]
theorem ME(es:List Int)(r:R3)(hb:∀z∈es,BB z)(vs:List Int)(hv:∀z∈vs,BB z) :
  Comp (n+3) 13 ⟨iO (sv ((fnOf 376).body.getD 5 (.Pass default))),(cx.ro||false),RB 376,true⟩ (xl (sv ((fnOf 376).body.getD 5 (.Pass default)))) (x1 (sv ((fnOf 376).body.getD 5 (.Pass default)))) (Str.ofString "t") ((jE ps es++r.lo++[V "top" (.int (-1))]).map eY) (vs.map .int) (tabS U::σ) (vs.map .int) (tabS U::σ):=by
 have h:=rR (n:=n+3) (d:=13) (cx:=⟨iO (sv ((fnOf 376).body.getD 5 (.Pass default))),(cx.ro||false),RB 376,true⟩) (ifs:=xl (sv ((fnOf 376).body.getD 5 (.Pass default)))) (elt:=x1 (sv ((fnOf 376).body.getD 5 (.Pass default)))) (x:=Str.ofString "t") (outer:=(jE ps es++r.lo++[V "top" (.int (-1))]).map eY) (σ:=tabS U::σ)
  (λZ=>true) (λv=>v) (vs.map .int) (λv XE=>by
   refine bz (aN.mp XE) λz hz bZ=>?_;obtain rfl:=bZ;let s:St:=⟨V "t" (.int z)::(jE ps es++r.lo++[V "top" (.int (-1))]).map eY,tabS U::σ⟩;refine ⟨s.loc,lQ (st1:=s) rfl (G8 (d:=12) (.val (.bool true)) rfl (dO (d:=11) 364 (st1:=s) (as:=[.val (.obj 0),.bor (.bO (es.map one)),.val (.int z)]) rfl rfl rfl (by done) (by cases (r)<;>done) rfl rfl (Pj (n:=n+1) (U:=U) (σ:=σ) (hv z hz) hb) rfl) rfl rfl) (all_nil rfl),λZ=>⟨.val (.int z),s.loc,by done,rfl⟩⟩)
 rw[List.filter_eq_self.mpr (λZ Z=>rfl),List.map_id']at h;exact h
theorem Q2{ps es:List Int}(r:R3)(l:List Int)(hl:l.length<=60)(hU:U.length<=100000):∃loc',Go (n+3) 15 ⟨(fnOf 376).scope,false,RB 376,false⟩ ((fnOf 376).body.drop 6) ⟨jE ps es++r.lo++[V "top" (.int (-1)),V "kept" (.lst (l.map .int))],tabS U::σ⟩ (.ret (.val (.int (uid U l)))) ⟨loc',tabS (gr U l)::σ⟩:=by
 match l,hl with
 | [],_=>exact ⟨_,g5 (st2:=⟨jE ps es++r.lo++[V "top" (.int (-1)),V "kept" (.lst [])],tabS U::σ⟩) (by cases (r)<;>done)⟩
 | [x],_=>exact ⟨_,g5 (st2:=⟨jE ps es++r.lo++[V "top" (.int (-1)),V "kept" (.lst [.int x])],tabS U::σ⟩) (by cases (r)<;>done)⟩
 | x::y::q,hl=>
  let l:=x::y::q;have hlen:l.length<bE:=aF hl (by decide);let s:St:=⟨jE ps es++r.lo++[V "top" (.int (-1)),V "kept" (.lst (l.map .int))],tabS U::σ⟩;have gy:su "len" s [.val (.lst (l.map .int))]=some (.val (.int (l.length:Int))):=by show Option.map _ (nO (.lst (l.map .int)))=_;rw[se _ (b9 hlen)];rfl
  have e6:(rn (n+3) 15).s ⟨(fnOf 376).scope,false,RB 376,false⟩ (hd ((fnOf 376).body.drop 6)) s=some (.bN,s):=
   iE (d:=13) (st1:=s) false rfl (zj (d:=13) rfl (v9 (d:=12) (.val (.lst (l.map .int))) rfl (by cases (r)<;>done) rfl (show (if (l.map MV.int).length<bE then some (!(l.map MV.int).isEmpty) else none)=some true by rw[aj,aq hlen];rfl))) (bQ rfl)
  have e7:(rn (n+3) 15).s ⟨(fnOf 376).scope,false,RB 376,false⟩ (hd ((fnOf 376).body.drop 7)) s=some (.bN,s):=
   iE (d:=13) (st1:=s) false rfl (dI (d:=13) (.val (.int (l.length:Int))) (.val (.int 1)) rfl rfl (pg (d:=12) (nm:="len") (as:=[.val (.lst (l.map .int))]) rfl rfl (by cases (r)<;>done) (by cases (r)<;>done) rfl gy) rfl (by cases (r)<;>done) rfl rfl (show gm (.int (l.length:Int)) (.int 1)=_ by rw[iJ,ao (by show ¬((q.length+1+1:Nat):Int)=1;lia)])) (bQ rfl)
  have e8:(rn (n+3) 15).s ⟨(fnOf 376).scope,false,RB 376,false⟩ (hd ((fnOf 376).body.drop 8)) s=some (.bN,s):=
   iE (d:=13) (st1:=s) false rfl (dI (d:=13) (.val (.int (l.length:Int))) (.val (.int 400)) rfl rfl (pg (d:=12) (nm:="len") (as:=[.val (.lst (l.map .int))]) rfl rfl (by cases (r)<;>done) (by cases (r)<;>done) rfl gy) rfl (by cases (r)<;>done) rfl rfl (show some (decide ((l.length:Int)>400))=_ by rw[ao (by have oM:l.length<=60:=hl;lia)])) (bQ rfl)
  refine ⟨s.loc,aU s rfl e6 (aU s rfl e7 (aU s rfl e8 (gc rfl (iC (d:=14) rfl (gQ (d:=13) (st1:=s) (st2:=s) (as:=[.val (dB l)]) (mf:=some 282) (.val (.obj 0)) rfl rfl (by cases (r)<;>done) (by done) (ie (.val (dB l)) rfl rfl (oq (d:=12) (st1:=s) (as:=[.val (.int 6),.val (nums l)]) rfl rfl (gM (st1:=s) (.val (.int 6)) rfl (by cases (r)<;>done) rfl (ie (.val (nums l)) rfl rfl (CE (d:=11) (nm:="tuple") (as:=[.val (.lst (l.map .int))]) rfl rfl (by cases (r)<;>done) (by cases (r)<;>done) rfl ?_) rfl)) rfl) rfl) rfl (kN 282 (ls:=[.v (dB l)]) rfl rfl ?_ rfl))))))⟩
  ·show Option.map _ (if (l.map MV.int).length<=bE then some (MV.tup (l.map MV.int)) else none)=_;rw[aj,aq (b9 hlen)];rfl
  ·show Runs (n+3) ⟨(fnOf 376).scope,false,RB 376,false⟩ 282 [.v (.obj 0),.v (dB l)] (tabS U::σ) (.val (.int ((fO (gK U) l).getD (33+U.length)))) (tabS (if (fO (gK U) l).isSome then U else U++[l])::σ);cases hf:fO (gK U) l with
   | some t=>exact QX hf
   | none=>exact QY hf hU
theorem GB{ps:List Int}(hp:∀p∈ps,BB p\/p=2)(hlen:ps.length<60)(hU:U.length<=100000):Runs (n+4) ⟨sc,false,rb,cp⟩ 376 [.v (.obj 0),.v (.lst (ps.map .int))] (tabS U::σ) (.val (.int (uid U (setOf (pS ps))))) (tabS (gr U (setOf (pS ps)))::σ):=by refine qp (Q0 (n:=n+2) (U:=U) (σ:=σ) (cx:=⟨sc,false,rb,cp⟩) hp hlen) λes r h1 h2 h3 h4 h5=>?_;have tO:∀z∈setOf es,BB z:=λz hz=>h3 z (mK.mp hz);have Ai:=ME (n:=n) (U:=U) (σ:=σ) (cx:=⟨sc,false,rb,cp⟩) (ps:=ps) es r h3 (setOf es) tO;rw[<-h4];refine cg (Q2 (n:=n) (U:=U) (σ:=σ) (ps:=ps) (es:=es) r (setOf es) (aW (yq es) (b9 h5)) hU) λloc' h6=>?_;let s0:St:=⟨jE ps [],tabS U::σ⟩;let s1:St:=⟨jE ps es++r.lo,tabS U::σ⟩;let s2:St:=⟨jE ps es++r.lo++[V "top" (.int (-1))],tabS U::σ⟩;let s3:St:=⟨jE ps es++r.lo++[V "top" (.int (-1)),V "kept" (.lst ((setOf es).map .int))],tabS U::σ⟩;refine eX (loc:=[V "tab" (.obj 0),V "parts" (.lst (ps.map .int))]) (loc':=loc') rfl rfl rfl ?_;refine aU s0 rfl (by done) ?_;refine aU s1 rfl (oF (d:=13) (xs:=ps.map .int) (ins:=false) (st1:=s0) rfl (by done) (by rw[aj];exact aZ hlen (by decide)) h1 rfl) ?_;refine aU s2 rfl (fU (d:=14) (st1:=s1) rfl (.val (.int (-1))) (dO (d:=13) 371 (st1:=s1) (as:=[.cont (.var (Str.ofString "got"))]) (ls:=[.bor (.bO (es.map one))]) rfl rfl rfl (by done) (by done) rfl rfl (Sv (n:=n+2) h3) rfl) (by cases (r)<;>done)) ?_;refine aU s2 rfl (by cases (r)<;>done) ?_;refine aU s2 rfl (i9 (d:=14) (.val .none) rfl rfl (dO (d:=13) 357 (st1:=s2) (as:=[.cont (.var (Str.ofString "got"))]) (ls:=[.bor (.bO (es.map one))]) rfl rfl rfl (by done) (by done) rfl rfl (BI (n:=n+2) h3) rfl) rfl) ?_;refine aU s3 rfl (fU (d:=14) (st1:=s2) rfl (.fresh (.lst ((setOf es).map .int))) (lT (d:=13) (vs:=(setOf es).map .int) (ins:=false) (st1:=s2) rfl (Gs (.fresh (.lst ((setOf es).map .int))) rfl rfl (pg (d:=12) (nm:="sorted") (as:=[.cont (.var (Str.ofString "got"))]) rfl rfl (by cases (r)<;>done) (by cases (r)<;>done) rfl ?_) rfl) (by cases (r)<;>done) Ai (by rw[aj];exact aF (yq es) (aZ h5 (by decide)))) (by cases (r)<;>done)) h6;show Option.map _ (p8 (.bO (es.map one)))=_;rw[LU (by lia) h2];rfl
theorem A3(h:t=0\/t=1\/t=13):Runs (n+4) ⟨sc,false,rb,cp⟩ 376 [.v (.obj 0),.v (.lst [.int t])] (tabS U::σ) (.val (.int t)) (tabS U::σ):=by rcases h with rfl | rfl | rfl<;>exact lu (by done)
def nk(U:List (List Int))(l:List Int):Prop:=l.length<=1\/(fO (gK U) l).isSome=true
theorem LW(l m:List Int)(U:List (List Int)):∀(k:Nat),fO (pI k (U++[m])) l=(fO (pI k U) l).or (if m=l then some ((k+U.length:Nat):Int) else none)
 :=by
 induction U with
 | nil=>exact λk=>rfl
 | cons u r ih=>
  intro k;show (if u=l then some (k:Int) else fO (pI (k+1) (r++[m])) l)=Option.or (if u=l then some (k:Int) else fO (pI (k+1) r) l) _;by_cases q:u=l
  ·rw[aq q,aq q];rfl
  ·rw[au q,au q,ih (k+1),show k+1+r.length=k+(u::r).length by rw[aR];lia]
theorem E8(U:List (List Int))(l m:List Int):fO (gK (U++[m])) l=(fO (gK U) l).or (if m=l then some ((33+U.length:Nat):Int) else none):=by unfold gK;rw[vV,vV,LW];cases fO sJ l<;>rfl
def Ext(U U':List (List Int)):Prop:=∀l t,fO (gK U) l=some t->fO (gK U') l=some t
theorem Ext.refl(U:List (List Int)):Ext U U:=λZ Z h=>h
theorem Ext.trans{U V W:List (List Int)}(a:Ext U V)(b:Ext V W):Ext U W:=λl t h=>b l t (a l t h)
theorem Ext.put(U:List (List Int))(l:List Int):Ext U (gr U l):=by
 unfold gr;split
 ·exact .refl U
 ·exact .refl U
 ·split
  ·exact .refl U
  ·intro m t h;rw[E8,h];rfl
theorem nk.ext{U U':List (List Int)}{l:List Int}(e:Ext U U')(h:nk U l):nk U' l:=by
 revert h;refine eS (λh=>?_) λh=>?_
 ·exact Or.inl h
 ·refine cg (bH.mp h) λt ht=>?_;exact Or.inr (by rw[e l t ht];rfl)
theorem Q3{U U':List (List Int)}{l:List Int}(e:Ext U U')(h:nk U l):uid U' l=uid U l:=by
 match l,h with
 | [],_=>rfl
 | [_],_=>rfl
 | x::y::q,h=>have h:=h.resolve_left (by simp);refine cg (bH.mp h) λt ht=>?_;show (fO (gK U') _).getD _=(fO (gK U) _).getD _;rw[ht,e _ t ht];rfl
theorem qd(U:List (List Int))(l:List Int):nk (gr U l) l/\uid (gr U l) l=uid U l:=by
 match l with
 | []=>exact ⟨Or.inl (cS _),rfl⟩
 | [_]=>exact ⟨Or.inl (az _),rfl⟩
 | x::y::q=>
  cases hf:fO (gK U) (x::y::q) with
  | some t=>
   have e:gr U (x::y::q)=U:=by unfold gr;rw[hf];rfl
   rw[e];exact ⟨Or.inr (by rw[hf];rfl),rfl⟩
  | none=>
   have e:gr U (x::y::q)=U++[x::y::q]:=by unfold gr;rw[hf];rfl
   have g:fO (gK (gr U (x::y::q))) (x::y::q)=some ((33+U.length:Nat):Int):=by rw[e,E8,hf,aq rfl];rfl
   refine ⟨Or.inr (by rw[g];rfl),?_⟩;show (fO (gK (gr U (x::y::q))) _).getD _=(fO (gK U) _).getD _;rw[g,hf];show ((33+U.length:Nat):Int)=33+(U.length:Int);lia
theorem r7(U:List (List Int))(l:List Int):(gr U l).length<=U.length+1:=by
 unfold gr;split
 ·exact bG _
 ·exact bG _
 ·split
  ·exact bG _
  ·rw[ay];exact az _
theorem MF{U:List (List Int)}{l:List Int}(h:nk U l):gr U l=U:=by
 match l,h with
 | [],_=>rfl
 | [_],_=>rfl
 | x::y::q,h=>have h:=h.resolve_left (by simp);unfold gr;rw[aq h]
theorem ND(h:nk U l)(hb:∀z∈l,BB z)(hU:U.length<=100000):Runs (n+1) cx 336 [.v (.obj 0),.v (.int (uid U l))] (tabS U::σ) (.val (nums l)) (tabS U::σ):=by
 match l,h,hb with
 | [],_,_=>exact FY
 | [x],_,hb=>exact Ft (hb x aE)
 | x::y::q,h,hb=>
  have h:=h.resolve_left (by simp);refine cg (bH.mp h) λt ht=>?_;have:uid U (x::y::q)=t:=by show (fO (gK U) _).getD _=t;rw[ht];rfl
  rw[this];exact Ph ht hU
noncomputable def l9(t:Int):Int:=if t=3\/t=4\/t=5 then 2 else if t=19 then 28 else if t=22 then 29 else if t=23 then 30 else if t=25 then 31 else if t=26 then 32 else if t=1 then 11 else t
theorem CJ(h:BB t):NN t (l9 t)/\(BB (l9 t)\/l9 t=2):=by
 cases (h)
 ·exact ⟨.v3,Or.inr rfl⟩
 ·exact ⟨.v4,Or.inr rfl⟩
 ·exact ⟨.v5,Or.inr rfl⟩
 ·exact ⟨.s,Or.inl .d⟩
 ·exact ⟨.e,Or.inl .e⟩
 ·exact ⟨.a,Or.inl .f⟩
 ·exact ⟨.b,Or.inl .g⟩
 ·exact ⟨.p .a,Or.inl .o⟩
 ·exact ⟨.k,Or.inl .i⟩
 ·exact ⟨.p .b,Or.inl .p⟩
 ·exact ⟨.p .c,Or.inl .q⟩
 ·exact ⟨.p .d,Or.inl .r⟩
 ·exact ⟨.p .e,Or.inl .s⟩
 ·exact ⟨.l,Or.inl .n⟩
 ·exact ⟨.Kp,Or.inl .o⟩
 ·exact ⟨.Kq,Or.inl .p⟩
 ·exact ⟨.Kr,Or.inl .q⟩
 ·exact ⟨.Ks,Or.inl .r⟩
 ·exact ⟨.Ku,Or.inl .s⟩
def iH(l:List Int):List Int:=setOf (pS (l.map l9))
theorem yL(hN:∀z∈l,NN z (l9 z)/\(BB (l9 z)\/l9 z=2))(hp:∀n cx,Runs (n+1) cx 336 [.v (.obj 0),.v (.int t)] (tabS U::σ) (.val (nums l)) (tabS U::σ))(hl:l.length<60)(hU:U.length<=100000) :
  Runs (n+12) ⟨sc,false,rb,cp⟩ 580 [.v (.obj 0),.v (.int t)] (tabS U::σ) (.val (.int (uid U (iH l)))) (tabS (gr U (iH l))::σ):=by
 let s:St:=⟨L4 t,tabS U::σ⟩;refine eX (loc:=s.loc) (loc':=s.loc) rfl rfl rfl ?_;refine gc rfl (iC (d:=14) rfl (dO (d:=13) 376 (st1:=s) (as:=[.val (.obj 0),.fresh (.lst ((l.map l9).map .int))]) rfl rfl rfl (by done) (gM (.val (.obj 0)) (st1:=s) rfl (by done) rfl (ie (.fresh (.lst ((l.map l9).map .int))) rfl rfl
  (lT (d:=12) (vs:=l.map .int) (ins:=false) (st1:=s) rfl (vL (.val (nums l)) rfl (dO (d:=11) 336 (st1:=s) (as:=[.val (.obj 0),.val (.int t)]) rfl rfl rfl (by done) (by done) rfl rfl (hp (n+10) _) rfl) rfl) (by done) ?_ (by rw[aj];exact aZ hl (by decide))) rfl)) rfl rfl (GB (n:=n+7) (ps:=l.map l9) ?_ ?_ hU) rfl))
 ·have:=rU (n:=n+11) (d:=12) (cx:=⟨iO ((xl (sv (hd (fnOf 580).body))).tail.headD default),(false||false),RB 580,true⟩) (ifs:=xl ((xl (sv (hd (fnOf 580).body))).tail.headD default)) (elt:=x1 ((xl (sv (hd (fnOf 580).body))).tail.headD default)) (x:=Str.ofString "part") (outer:=s.loc.map eY) (σ:=tabS U::σ)
   (λv=>match v with | .int z=>.int (l9 z) | v=>v) (l.map .int) rfl (λv hv=>by
    refine bz (aN.mp hv) λz hz bZ=>?_;obtain rfl:=bZ;let s':St:=⟨V "part" (.int z)::s.loc.map eY,tabS U::σ⟩;exact ⟨.val (.int (l9 z)),s'.loc,dO (d:=11) 575 (st1:=s') (as:=[.val (.obj 0),.val (.int z)]) rfl rfl rfl (by done) (by done) rfl rfl (K6 (n:=n) (hN z hz).1) rfl,rfl⟩)
  rw[bI]at this;rw[bI];exact this
 ·intro p hp;refine bz (aN.mp hp) λz hz bZ=>?_;obtain rfl:=bZ;exact (hN z hz).2
 ·rw[aj];exact hl
noncomputable def iL(l:List Int):MV:=.lst (l.map .int)
noncomputable def JS:LV->EV
 | .bor x=>.bor x
 | .v x=>.val x
 | .own x=>.fresh x
def R1:Option Int->List (Str×LV)
 | none=>[]
 | some a=>[V "one" (.int a)]
def oQ(la:LV)(os:List Int):List (Str×LV):=[(Str.ofString "atoms",la),W "out" (iL os)]
def SI(σ:eN)(la:LV)(ps:List Int)(vs:List MV)(st:St):Prop:=∃(qs os:List Int) (r:Option Int),vs=qs.map .int/\qs.Pairwise (·<=·)/\nX os/\(∀x∈os,∀y∈qs,x<=y)/\(∀z,(z∈os\/z∈qs)↔z∈ps)/\os.length+qs.length<=64/\st=⟨oQ la os++R1 r,σ⟩
theorem Q4(la:LV)(os:List Int)(q:Int)(r:Option Int)(hl:os.length<64):∃st1,setName ⟨(fnOf 1346).scope,cx.ro||false,RB 1346,false⟩ ⟨oQ la os++R1 r,σ⟩ (iG (hd (fnOf 1346).body.tail)) (.val (.int q))=some st1/\
  Go n 13 ⟨(fnOf 1346).scope,cx.ro||false,RB 1346,false⟩ (bo (hd (fnOf 1346).body.tail)) st1 .bN ⟨oQ la (if q∈os then os else os++[q])++R1 (some q),σ⟩:=by
 let s (os:List Int):St:=⟨oQ la os++R1 (some q),σ⟩;have hc:∀c,decide (q∈os)=!c->qj .NotIn (.int q) (iL os)=some c:=λc h=>by
  show (isIn (.int q) (.lst (os.map .int))).map _=_;rw[BY,h];induction c using aad<;>rfl
 refine ⟨s os,by induction r using aab<;>done,?_⟩;by_cases h:q∈os
 ·rw[aq h];exact dX (d:=11) (st1:=s os) (st2:=s os) false rfl rfl (dI (d:=11) (.val (.int q)) (.cont (.var (Str.ofString "out"))) rfl rfl (by done) rfl (by done) rfl rfl (hc false (aa h))) (bQ rfl) (bQ rfl)
 ·rw[au h];refine dX (d:=11) (st1:=s os) (st2:=s (os++[q])) true rfl rfl (dI (d:=11) (.val (.int q)) (.cont (.var (Str.ofString "out"))) rfl rfl (by done) rfl (by done) rfl rfl (hc true (ao h))) ?_ (bQ rfl);refine aU (s (os++[q])) rfl (i9 (d:=10) (.val .none) rfl rfl (gQ (d:=9) (st1:=s os) (st2:=s os) (as:=[.val (.int q)]) (mf:=none) (.cont (.var (Str.ofString "out"))) rfl rfl (by done) rfl (by done) rfl (lE rfl (o7 (.int q) (.var (Str.ofString "out")) (os.map .int) (by done) (by rw[aj];exact aZ hl (by decide)) rfl ?_))) rfl) (bQ rfl);show iZ _ _ _ (.lst (os.map .int++[.int q]))=some ⟨oQ la (os++[q])++R1 (some q),σ⟩;have:iL (os++[q])=.lst (os.map .int++[.int q]):=by unfold iL;rw[bB];rfl
  unfold oQ;rw[this]
  done
theorem yr{la:LV}{ps:List Int}(Eu:la=.v (iL ps)\/la=.bor (iL ps))(hl:ps.length<64):Runs (n+1) cx 1346 [la] σ (.val (iL (setOf ps))) σ:=by
 have hlen:(i0 ps).length=ps.length:=by
  have h1:∀(x:Int) (l:List Int),(mj x l).length=l.length+1:=by
   intro x l;induction l with
   | nil=>rfl
   | cons y r ih=>
    unfold mj;split
    ·rfl
    ·rw[aR,ih];rfl
  have:∀(l:List Int),(i0 l).length=l.length:=by
   intro l;induction l with
   | nil=>rfl
   | cons x r ih=>unfold i0;rw[h1,ih];rfl
  exact this ps
 refine cg (turns_inv (n:=n) (d:=13) (cx:=⟨(fnOf 1346).scope,cx.ro||false,RB 1346,false⟩) (x:=iG (hd (fnOf 1346).body.tail)) (b:=bo (hd (fnOf 1346).body.tail)) (I:=SI σ la ps) (λv rr st=>by
  rintro ⟨qs,os,r,e,hq,hs,ho,hm,hl,rfl⟩;induction qs using aaa with
  | nil=>cases (e)
  | cons q qs=>
   cases (e);have hl:os.length+(qs.length+1)<=64:=hl;have Kw:=bk.mp hq;refine bz (Q4 (n:=n) (σ:=σ) (cx:=cx) la os q r (by lia)) λst1 h1 h2=>?_;refine ⟨st1,_,h1,h2,qs,_,some q,rfl,Kw.2,?_,?_,?_,?_,rfl⟩
   ·split
    ·exact hs
    ·rename_i hn;refine List.pairwise_append.mpr ⟨hs,cG _ _,λx hx y hy=>?_⟩;rw[aA]at hy;subst hy;have:=ho x hx y aE;have:x≠y:=λe=>hn (e▸hx);lia
   ·intro x hx y hy;split at hx
    ·exact ho x hx y (aO _ hy)
    ·(refine bu (bX.mp hx) (λhx=>?_) λhx=>?_)
     ·exact ho x hx y (aO _ hy)
     ·rw[aA]at hx;rw[hx];exact Kw.1 y hy
   ·intro z;rw[<-hm z,aC];split
    ·rename_i hn;constructor
     ·rintro (h | h)
      ·exact Or.inl h
      ·exact Or.inr (Or.inr h)
     ·rintro (h | h | h)
      ·exact Or.inl h
      ·exact Or.inl (h▸hn)
      ·exact Or.inr h
    ·rw[bX,aA];constructor
     ·rintro ((h | h) | h)
      ·exact Or.inl h
      ·exact Or.inr (Or.inl h)
      ·exact Or.inr (Or.inr h)
     ·rintro (h | h | h)
      ·exact Or.inl (Or.inl h)
      ·exact Or.inl (Or.inr h)
      ·exact Or.inr h
   ·split
    ·lia
    ·rw[ay];show os.length+1+qs.length<=64;lia) ((i0 ps).map .int) ⟨oQ la [],σ⟩ ⟨i0 ps,[],none,rfl,AQ,List.Pairwise.nil,λZ h=>absurd h aX,λz=>by rw[AL];simp,by simp[hlen];lia,rfl⟩) λst' dP=>?_
 revert dP;refine gj λh1 DB=>?_;revert DB;refine Jp λqs os r e Z h2 Z h4 Z h6=>?_;have:qs=[]:=by
  induction qs using aaa with
  | nil=>rfl
  | cons=>cases (e)
 subst this;subst h6;have tC:os=setOf ps:=r6 h2 mL λz=>by rw[mK,<-h4 z];simp
 subst tC;have hB:Bind (fnOf 1346) [la]=some [(Str.ofString "atoms",la)]:=rfl;refine eX (loc:=[(Str.ofString "atoms",la)]) (loc':=[(Str.ofString "atoms",la)]++R1 r) rfl rfl hB ?_;refine aU ⟨oQ la [],σ⟩ rfl (by done) (aU ⟨oQ la (setOf ps)++R1 r,σ⟩ rfl (oF (d:=13) (xs:=(i0 ps).map .int) (ins:=false) (st1:=⟨oQ la [],σ⟩) rfl (Gs (.fresh (iL (i0 ps))) rfl rfl ?_ rfl) (by rw[aj,hlen];exact aZ hl (by decide)) h1 rfl) (gc rfl (by induction r using aab<;>done)));have hk:su "sorted" ⟨oQ la [],σ⟩ [JS la]=some (.fresh (iL (i0 ps))):=by
  have:p8 (iL ps)=some (iL (i0 ps)):=by show (if _ then _ else _)=_;rw[aj,aq hl,AR];rfl
  revert Eu;refine eS (λcF=>?_) (λcF=>?_)<;>obtain rfl:=cF
  ·show Option.map _ (p8 (iL ps))=_;rw[this];rfl
  ·show Option.map _ (p8 (iL ps))=_;rw[this];rfl
 exact pg (d:=13) (nm:="sorted") (as:=[JS la]) rfl rfl (by done) (by (revert Eu;refine eS (λcF=>?_) (λcF=>?_)<;>obtain rfl:=cF)<;>done) (by (revert Eu;refine eS (λcF=>?_) (λcF=>?_)<;>obtain rfl:=cF)<;>rfl) hk
inductive At:Int->Prop
 | a0:At 0
 | a1:At 1
 | a2:At 2
 | a3:At 3
 | a4:At 4
 | a5:At 5
 | a6:At 6
 | a7:At 7
 | a8:At 8
 | a9:At 9
 | Ec:At 10
 | Ed:At 11
 | XF:At 12
 | XG:At 13
 | XH:At 14
 | XI:At 15
 | XJ:At 16
 | XK:At 17
 | XM:At 18
 | Ew:At 19
 | Ex:At 20
 | Ey:At 21
theorem at_of{a:Int}(h:0<=a)(k:a<=21):At a:=by have all:∀n∈List.range 22,At ((n:Nat):Int):=aJ.mpr ⟨.a0,aJ.mpr ⟨.a1,aJ.mpr ⟨.a2,aJ.mpr ⟨.a3,aJ.mpr ⟨.a4,aJ.mpr ⟨.a5,aJ.mpr ⟨.a6,aJ.mpr ⟨.a7,aJ.mpr ⟨.a8,aJ.mpr ⟨.a9,aJ.mpr ⟨.Ec,aJ.mpr ⟨.Ed,aJ.mpr ⟨.XF,aJ.mpr ⟨.XG,aJ.mpr ⟨.XH,aJ.mpr ⟨.XI,aJ.mpr ⟨.XJ,aJ.mpr ⟨.XK,aJ.mpr ⟨.XM,aJ.mpr ⟨.Ew,aJ.mpr ⟨.Ex,aJ.mpr ⟨.Ey,λZ h=>nomatch h⟩⟩⟩⟩⟩⟩⟩⟩⟩⟩⟩⟩⟩⟩⟩⟩⟩⟩⟩⟩⟩⟩;refine cg (cT h) λn bA=>?_;obtain rfl:=bA;exact all n (dN.mpr (by lia))
noncomputable def VI:List Int:=[-1,-1,-1,3,4,5,6,13,8,14,15,16,17,13,14,15,16,17,18,18,20,21]
noncomputable def TN:List Int:=[-1,-1,-1,3,4,5,6,3,3,-1,3,-1,3,3,-1,3,3,3,-1,-1,-1,-1]
noncomputable def VJ:List (List Nat):=[[85],[78],[86],[65],[66],[83],[76],[65,85],[65],[78,85],[65,85],[65,86],[65,85],[65],[],[65],[65],[65],[69],[78,85,69],[],[]]
def iA(a:Int):Int:=VI.getD a.toNat 0
def jh(a:Int):Int:=TN.getD a.toNat 0
def kq(a:Int):List Nat:=VJ.getD a.toNat []
def gT(a:Int):Int:=JR.getD a.toNat 0
theorem At.range{a:Int}(h:At a):0<=a/\a<=21:=by cases (h)<;>decide
theorem B0{a:Int}(h:0<=a)(k:a<=18):BB (gT a):=by
 cases at_of h (Int.le_trans k (by decide))
 ·exact .b
 ·exact .c
 ·exact .a
 ·exact .f
 ·exact .g
 ·exact .d
 ·exact .n
 ·exact .h0
 ·exact .i
 ·exact .j
 ·exact .k
 ·exact .l
 ·exact .m
 ·exact .o
 ·exact .p
 ·exact .q
 ·exact .r
 ·exact .s
 ·exact .e
 all_goals exact absurd k (by decide)
noncomputable def atoms:List Int:=[0,1,2,3,4,5,6,7,8,9,10,11,12,13,14,15,16,17,18,19,20,21]
theorem uz{β:Type}{f g:Int->β}(h:atoms.map f=atoms.map g){a:Int}(ha:At a):f a=g a:=bJ.mp h a (by cases (ha)<;>decide)
structure iP(k:List Int):Prop where
 Aj:nX k
 mF:∀a∈k,0<=a/\a<=18
theorem Q5(k:List Int):∀(m:Int),nX k->(∀a∈k,m<=a/\a<=18)->m<=19->(k.length:Int)<=19-m:=by
 induction k with
 | nil=>intro m Z Z hm;show (0:Int)<=19-m;lia
 | cons x r ih=>intro m hs hr Z;have hs:=bk.mp hs;have hx:=hr x aE;have:=ih (x+1) hs.2 (λa ha=>⟨by have:=hs.1 a ha;lia,(hr a (aO _ ha)).2⟩) (by lia);rw[aR];lia
theorem iP.len{k:List Int}(h:iP k):k.length<=19:=by have:=Q5 k 0 h.Aj h.mF (by decide);lia
noncomputable def Kd(k:List Int):Prop:=iP k\/k=[19]\/k=[20]\/k=[21]
theorem Kd.at{k:List Int}(h:Kd k):∀a∈k,At a:=by
 rcases h with h | rfl | rfl | rfl
 ·intro a ha;have:=h.mF a ha;exact at_of this.1 (by lia)
 ·intro a ha;rw[aA.mp ha];exact .Ew
 ·intro a ha;rw[aA.mp ha];exact .Ex
 ·intro a ha;rw[aA.mp ha];exact .Ey
theorem Kd.len{k:List Int}(h:Kd k):k.length<=19:=by
 rcases h with h | rfl | rfl | rfl
 ·exact h.len
 all_goals decide
def cZ(k:List Int):List Int:=setOf (k.map gT)
def eT(U:List (List Int))(k:List Int):Int:=if k=[19] then 1 else if k=[20] then 0 else if k=[21] then 13 else uid U (cZ k)
def kU(U:List (List Int))(k:List Int):List (List Int):=if k=[19]\/k=[20]\/k=[21] then U else gr U (cZ k)
theorem lU{k:List Int}(h:iP k):∀z∈cZ k,BB z:=by intro z hz;refine bz (aN.mp (mK.mp hz)) λa ha bZ=>?_;obtain rfl:=bZ;have:=h.mF a ha;exact B0 this.1 this.2
theorem uA{k:List Int}(h:iP k):k≠[19]/\k≠[20]/\k≠[21]:=by
 refine ⟨?_,?_,?_⟩
 all_goals
  rintro rfl;have:=h.mF _ aE;lia
variable {k:List Int}
def XN(k:List Int):List (Str×LV):=[V "w" (.obj 14),V "kind" (iL k)]
theorem sL(hk:Kd k)(hU:L.U.length<=100000):gB (n+5) 1356 [.v (.obj 14),.v (iL k)] L (.val (.int (eT L.U k))) (LS.sU L (kU L.U k)):=by
 intro sc rb cp;let s:St:=⟨XN k,L.o⟩;let ec:=(xl (sv (hd (fnOf 1356).body))).tail.headD default;have hc:(rn (n+4) 13).e ⟨(fnOf 1356).scope,false,RB 1356,false⟩ ((xl (sv (hd (fnOf 1356).body))).tail.headD default) s=some (.fresh (iL (k.map gT)),s):=by
  refine lT (d:=12) (vs:=k.map .int) (ins:=false) (st1:=s) rfl (by done) (by done) ?_ (by rw[aj];exact aF hk.len (by decide));have:=rU (n:=n+4) (d:=12) (cx:=⟨iO ((xl (sv (hd (fnOf 1356).body))).tail.headD default),(false||false),RB 1356,true⟩) (ifs:=xl ((xl (sv (hd (fnOf 1356).body))).tail.headD default)) (elt:=x1 ((xl (sv (hd (fnOf 1356).body))).tail.headD default)) (x:=Str.ofString "one") (outer:=s.loc.map eY) (σ:=L.o)
   (λv=>match v with | .int z=>.int (gT z) | v=>v) (k.map .int) rfl (λv hv=>by
    refine bz (aN.mp hv) λz hz bZ=>?_;obtain rfl:=bZ;have hz:=hk.at z hz;let s':St:=⟨V "one" (.int z)::s.loc.map eY,L.o⟩;exact ⟨.val (.int (gT z)),s'.loc,uz (f:=λz=>(rn (n+4) 12).e ⟨iO ec,(false||false),RB 1356,true⟩ (x1 ec) ⟨V "one" (.int z)::s.loc.map eY,L.o⟩) (g:=λz=>some (.val (.int (gT z)),⟨V "one" (.int z)::s.loc.map eY,L.o⟩)) (by done) hz,rfl⟩)
  rw[bI]at this;rw[bI];exact this
 refine eX (loc:=s.loc) (loc':=s.loc) rfl rfl rfl (gc rfl (iC (d:=14) rfl (dO (d:=13) 376 (st1:=s) (as:=[.val (.obj 0),.fresh (iL (k.map gT))]) rfl rfl rfl (by done) (gM (.val (.obj 0)) (st1:=s) rfl (by done) rfl (ie (.fresh (iL (k.map gT))) rfl rfl hc rfl)) rfl rfl ?_ rfl)));rcases hk with hr | rfl | rfl | rfl
 ·have hn:=uA hr;have e1:eT L.U k=uid L.U (setOf (pS (k.map gT)))/\kU L.U k=gr L.U (setOf (pS (k.map gT))):=by
   have:pS (k.map gT)=k.map gT:=List.filter_eq_self.mpr λz hz=>by
    refine bz (aN.mp hz) λa ha bZ=>?_;obtain rfl:=bZ;have:=hr.mF a ha;exact aa (B0 this.1 this.2).ne.2.2.1
   rw[this];unfold eT kU;rw[au hn.1,au hn.2.1,au hn.2.2,au (by rintro (h | h | h);exact hn.1 h;exact hn.2.1 h;exact hn.2.2 h)];exact ⟨rfl,rfl⟩
  show Runs _ _ _ _ _ _ (LS.o (LS.sU L (kU L.U k)));rw[e1.1,e1.2];refine GB (n:=n) (λp hp=>?_) (by rw[aj];exact aF hr.len (by decide)) hU;refine bz (aN.mp hp) λa ha bZ=>?_;obtain rfl:=bZ;have:=hr.mF a ha;exact Or.inl (B0 this.1 this.2)
 ·exact A3 (n:=n) (Or.inr (Or.inl rfl))
 ·exact A3 (n:=n) (Or.inl rfl)
 ·exact A3 (n:=n) (Or.inr (Or.inr rfl))
def f5(k:List Int):List Int:=setOf ((k.filter λa=>decide (0<=iA a)).map iA)
def bC(k:List Int):List Nat:=k.flatMap kq
def lF(k:List Int):MV:=.str ⟨(bC k).toArray⟩
theorem yf(p:Int->Bool)(q:MV->Bool)(h:∀a,q (.int a)=p a)(k:List Int):(k.map MV.int).filter q=(k.filter p).map MV.int:=by
 induction k with
 | nil=>rfl
 | cons a r ih=>
  rw[bP];cases e:p a with
  | true=>rw[dY (by rw[h];exact e),dY e,ih,bP]
  | false=>rw[dZ (by rw[h,e];decide),dZ (by rw[e];decide),ih]
theorem B3(hk:Kd k):Runs (n+2) cx 1361 [.v (iL k)] σ (.val (iL (f5 k))) σ:=by
 let s:St:=⟨[V "kind" (iL k)],σ⟩;let ec:=(xl (sv (hd (fnOf 1361).body))).headD default;have hlen:((k.filter λa=>decide (0<=iA a)).map iA).length<64:=by rw[aj];have:=cV (λa=>decide (0<=iA a)) k;have:=hk.len;lia
 have hc:(rn (n+1) 13).e ⟨(fnOf 1361).scope,cx.ro,RB 1361,false⟩ ec s=some (.fresh (iL ((k.filter λa=>decide (0<=iA a)).map iA)),s):=by
  refine lT (d:=12) (vs:=k.map .int) (ins:=false) (st1:=s) rfl (by done) (by done) ?_ (by rw[aj];exact aF hk.len (by decide));have:=rR (n:=n+1) (d:=12) (cx:=⟨iO ec,(cx.ro||false),RB 1361,true⟩) (ifs:=xl ec) (elt:=x1 ec) (x:=Str.ofString "one") (outer:=s.loc.map eY) (σ:=σ)
   (λv=>match v with | .int z=>decide (0<=iA z) | _=>true) (λv=>match v with | .int z=>.int (iA z) | v=>v) (k.map .int) (λv hv=>by
    refine bz (aN.mp hv) λz hz bZ=>?_;obtain rfl:=bZ;have hz:=hk.at z hz;let s':St:=⟨V "one" (.int z)::s.loc.map eY,σ⟩;exact ⟨s'.loc,uz (f:=λz=>jM ((rn (n+1) 12).t ⟨iO ec,(cx.ro||false),RB 1361,true⟩) (xl ec) ⟨V "one" (.int z)::s.loc.map eY,σ⟩) (g:=λz=>some (decide (0<=iA z),⟨V "one" (.int z)::s.loc.map eY,σ⟩)) (by done) hz,λZ=>⟨.val (.int (iA z)),s'.loc,
     uz (f:=λz=>(rn (n+1) 12).e ⟨iO ec,(cx.ro||false),RB 1361,true⟩ (x1 ec) ⟨V "one" (.int z)::s.loc.map eY,σ⟩) (g:=λz=>some (.val (.int (iA z)),⟨V "one" (.int z)::s.loc.map eY,σ⟩)) (by done) hz,rfl⟩⟩)
  rw[yf (λa=>decide (0<=iA a)) _ (λZ=>rfl),bI]at this;rw[bI];exact this
 exact eX (loc:=s.loc) (loc':=s.loc) rfl rfl rfl (gc rfl (iC (d:=14) rfl (dO (d:=13) 1346 (st1:=s) (as:=[.fresh (iL ((k.filter λa=>decide (0<=iA a)).map iA))]) rfl rfl rfl (by done) (ie (.fresh (iL ((k.filter λa=>decide (0<=iA a)).map iA))) rfl rfl hc rfl) rfl rfl (yr (n:=n) (Or.inl rfl) hlen) rfl)))
def kX(a:Int):Str:=⟨(kq a).toArray⟩
theorem AS:∀(ss:List Str),nE (ss.map .str)=some ss
 | []=>rfl
 | s::r=>by
  show (nE (r.map .str)).map _=_;rw[AS r];rfl
theorem NF(k:List Int):gP (Str.ofString "") (k.map kX)=⟨(bC k).toArray⟩:=by
 induction k with
 | nil=>rfl
 | cons a k ih=>
  induction k using aaa with
  | nil=>show kX a=_;unfold kX bC;rw[List.flatMap_cons,List.flatMap_nil,eo]
  | cons b r=>
  show kX a++Str.ofString ""++gP (Str.ofString "") ((b::r).map kX)=_;rw[ih];have e:Str.ofString ""=⟨#[]⟩:=by done
  rw[e];show Str.mk ((kq a).toArray++#[]++(bC (b::r)).toArray)=⟨(bC (a::b::r)).toArray⟩;rw[Array.append_empty,List.append_toArray];simp only[bC,List.flatMap_cons]
theorem F0(hk:Kd k):Runs (n+1) cx 1366 [.v (iL k)] σ (.val (lF k)) σ:=by
 let s:St:=⟨[V "kind" (iL k)],σ⟩;let ec:=(xl (sv (hd (fnOf 1366).body))).headD default;have hc:(rn n 13).e ⟨(fnOf 1366).scope,cx.ro,RB 1366,false⟩ ec s=some (.fresh (.lst ((k.map kX).map .str)),s):=by
  refine lT (d:=12) (vs:=k.map .int) (ins:=false) (st1:=s) rfl (by done) (by done) ?_ (by rw[aj];exact aF hk.len (by decide));have:=rU (n:=n) (d:=12) (cx:=⟨iO ec,(cx.ro||false),RB 1366,true⟩) (ifs:=xl ec) (elt:=x1 ec) (x:=Str.ofString "one") (outer:=s.loc.map eY) (σ:=σ)
   (λv=>match v with | .int z=>.str (kX z) | v=>v) (k.map .int) rfl (λv hv=>by
    refine bz (aN.mp hv) λz hz bZ=>?_;obtain rfl:=bZ;have hz:=hk.at z hz;let s':St:=⟨V "one" (.int z)::s.loc.map eY,σ⟩;exact ⟨.val (.str (kX z)),s'.loc,uz (f:=λz=>(rn n 12).e ⟨iO ec,(cx.ro||false),RB 1366,true⟩ (x1 ec) ⟨V "one" (.int z)::s.loc.map eY,σ⟩) (g:=λz=>some (.val (.str (kX z)),⟨V "one" (.int z)::s.loc.map eY,σ⟩)) (by done) hz,rfl⟩)
  rw[bI]at this;rw[bI];exact this
 refine eX (loc:=s.loc) (loc':=s.loc) rfl rfl rfl (gc rfl (iC (d:=14) rfl (gQ (d:=13) (st1:=s) (st2:=s) (as:=[.fresh (.lst ((k.map kX).map .str))]) (mf:=none) (.val (.str (Str.ofString ""))) rfl rfl (by done) rfl (ie (.fresh (.lst ((k.map kX).map .str))) rfl rfl hc rfl) rfl (lE rfl ?_))));show (if ((k.map kX).map MV.str).length<=4096&&(Str.ofString "").length<=16 then (nE ((k.map kX).map .str)).bind λss=>if ss.all (λs=>decide (s.length<=16)) then some (EV.val (.str (gP (Str.ofString "") ss)),s) else none else none)=_;have XO:((k.map kX).map MV.str).length<=4096:=by rw[aj,aj];have:=hk.len;lia
 have ko:((k.map kX).all λs=>decide (s.length<=16))=true:=by rw[aG];intro x hx;refine bz (aN.mp hx) λa ha bZ=>?_;obtain rfl:=bZ;cases hk.at a ha<;>rfl
 rw[aa XO,aa (p:=(Str.ofString "").length<=16) (by decide +kernel),AS];show (if ((k.map kX).all λs=>decide (s.length<=16))=true then some (EV.val (.str (gP (Str.ofString "") (k.map kX))),s) else none)=_;rw[ko,NF];rfl
theorem BN{kd fl:Int}{a:MV}{kids:List MV}(hw:Small L.bD):gB (n+3) 1373 [.v (.obj 14),.v (.int kd),.v a,.v (.lst kids),.v (.int fl)] L (.val (bU kd a kids fl (L.bD+1))) (LS.xr L (L.bD+1)):=by intro sc rb cp;let lc:List (Str×LV):=[V "w" (.obj 14),V "kind" (.int kd),V "a" a,V "kids" (.lst kids),V "flags" (.int fl)];let s1:St:=⟨lc,LS.o (LS.xr L (L.bD+1))⟩;exact eX (loc:=lc) (loc':=lc) rfl rfl rfl (aU s1 rfl (Ss (d:=14) 14 (Str.ofString "at") L.bD 1 rfl rfl (by done) (by done) (by done) (by done) (by done) (by rw[vM hw];rfl) (by done)) (g5 (by done)))
def j6(k:List Int):Prop:=nX k/\∀a∈k,0<=a/\a<=13
noncomputable def Spec(k:List Int):Prop:=k=[19]\/k=[20]\/k=[21]
def MK(k:List Int):Prop:=(j6 k/\k.length<=3)\/Spec k
theorem MK.at{k:List Int}(h:MK k):∀a∈k,At a:=by
 rcases h with ⟨h,_⟩ | rfl | rfl | rfl
 ·intro a ha;have:=h.2 a ha;exact at_of this.1 (by lia)
 ·intro a ha;rw[aA.mp ha];exact .Ew
 ·intro a ha;rw[aA.mp ha];exact .Ex
 ·intro a ha;rw[aA.mp ha];exact .Ey
theorem AU(L:LS){m:Int}(h:0<m):0<=draw L m/\draw L m<m:=⟨Int.fmod_nonneg_of_pos _ h,Int.fmod_lt_of_pos _ h⟩
def Ak:Expr:=(xl (sv (hd (fnOf 1351).body.tail.tail))).headD default
theorem MG(loc:List (Str×LV))(sS:∃h:Int,loc=[V "g" (.obj 13),V "how" (.int h)])(vs:List MV):∀(L:LS) (g':Int),xO L->g'=L.cI+vs.length->g'<=100000->∃ds:List Int,ds.length=vs.length/\(∀d∈ds,0<=d/\d<=13)/\
  Comp (n+1) 12 ⟨iO Ak,(false||false),RB 1351,true⟩ (xl Ak) (x1 Ak) (Str.ofString "go") (loc.map eY) vs L.o (ds.map .int) (LS.o (LS.nR L g')):=by
 induction vs with
 | nil=>
  intro L g' Z hg Z;have:g'=L.cI:=by rw[hg];exact Int.add_zero _
  subst this;exact ⟨[],rfl,λZ h=>absurd h aX,Bl⟩
 | cons v r ih=>
  intro L g' G hg hb;have XQ:g'=L.cI+((r.length:Int)+1):=by rw[hg,aR];rfl
  refine ja (ih (LS.nR L (L.cI+1)) g' ⟨⟨by have:=G.cI.1;show (0:Int)<=L.cI+1;lia,by show L.cI+1<=100000;lia⟩,G.len⟩ (by rw[XQ];show _=L.cI+1+_;lia) hb) λds h1 h2 h3=>?_;have hd:=AU L (m:=14) (by decide);refine ⟨draw L 14::ds,by rw[aR,aR,h1],λd fG=>?_,?_⟩
  ·(refine bu (aC.mp fG) (λe=>?_) λe=>?_)
   ·rw[e];lia
   ·exact h2 d e
  ·revert sS;refine gh λh bA=>?_;obtain rfl:=bA;let s:St:=⟨(Str.ofString "go",.v v)::[V "g" (.obj 13),V "how" (.int h)].map eY,L.o⟩;let s':St:=⟨s.loc,LS.o (LS.nR L (L.cI+1))⟩;exact Bm (st1:=s) (st2:=s') (all_nil rfl) (dO (d:=11) 1332 (st1:=s) (as:=[.val (.obj 13),.val (.int 14)]) rfl rfl rfl (by done) (by done) rfl rfl (BL (n:=n) G ⟨by decide,by decide⟩ _ _ _) rfl) rfl h3
theorem qa{L:LS}(G:xO L)(hg:L.cI+4<=100000):∃k j,MK k/\1<=j/\j<=4/\gB (n+2) 1351 [.v (.obj 13)] L (.val (iL k)) (LS.nR L (L.cI+j)):=by
 have hr:=AU L (m:=16) (by decide);generalize hh:draw L 16=how at hr;let L1:LS:=(LS.nR L (L.cI+1));have G1:xO L1:=⟨⟨by have:=G.cI.1;show (0:Int)<=L.cI+1;lia,by show L.cI+1<=100000;lia⟩,G.len⟩;have IV:∀sc rb cp,(rn (n+1) 15).s ⟨(fnOf 1351).scope,(Ctx.mk sc false rb cp).ro,RB 1351,false⟩ (hd (fnOf 1351).body) ⟨[V "g" (.obj 13)],L.o⟩=some (.bN,⟨[V "g" (.obj 13),V "how" (.int how)],L1.o⟩):=λsc rb cp=>by
  subst hh;exact fU (d:=14) (st1:=⟨[V "g" (.obj 13)],L1.o⟩) rfl (.val (.int (draw L 16))) (dO (d:=13) 1332 (st1:=⟨[V "g" (.obj 13)],L.o⟩) (as:=[.val (.obj 13),.val (.int 16)]) rfl rfl rfl (by done) (by done) rfl rfl (BL (n:=n) G ⟨by decide,by decide⟩ _ _ _) rfl) (by done)
 by_cases h4:how<4
 ·have:∃k,MK k/\j8 (rn (n+1) 15) ⟨(fnOf 1351).scope,false,RB 1351,false⟩ (fnOf 1351).body.tail ⟨[V "g" (.obj 13),V "how" (.int how)],L1.o⟩=some (.ret (.val (iL k)),⟨[V "g" (.obj 13),V "how" (.int how)],L1.o⟩):=by
   have:how=0\/how=1\/how=2\/how=3:=by refine cg (cT hr.1) λm bA=>?_;obtain rfl:=bA;exact (by decide:∀m∈List.range 4,((m:Nat):Int)=0\/(m:Int)=1\/(m:Int)=2\/(m:Int)=3) m (dN.mpr (by lia))
   rcases this with rfl | rfl | rfl | rfl
   ·exact ⟨[19],Or.inr (Or.inl rfl),by done⟩
   ·exact ⟨[20],Or.inr (Or.inr (Or.inl rfl)),by done⟩
   ·exact ⟨[],Or.inl ⟨⟨List.Pairwise.nil,λZ h=>absurd h aX⟩,by decide⟩,by done⟩
   ·exact ⟨[21],Or.inr (Or.inr (Or.inr rfl)),by done⟩
  revert this;refine gp λk hk h=>?_;exact ⟨k,1,hk,by decide,by decide,λsc rb cp=>eX (loc:=[V "g" (.obj 13)]) rfl rfl rfl (aU _ rfl (IV sc rb cp) (g5 h))⟩
 ·let s:St:=⟨[V "g" (.obj 13),V "how" (.int how)],L1.o⟩;let xu:List Int:=[4,5,6,7,8,9,10,11,12,13,14,15];have hm:how∈xu:=by refine cg (cT hr.1) λm bA=>?_;obtain rfl:=bA;exact (by decide:∀m∈List.range 16,4<=m->((m:Nat):Int)∈[4,5,6,7,8,9,10,11,12,13,14,15]) m (dN.mpr (by lia)) (by lia)
  have e1:=bJ.mp (show xu.map (λhow=>(rn (n+1) 15).s ⟨(fnOf 1351).scope,false,RB 1351,false⟩ (hd (fnOf 1351).body.tail) ⟨[V "g" (.obj 13),V "how" (.int how)],L1.o⟩)=xu.map λhow=>some (.bN,⟨[V "g" (.obj 13),V "how" (.int how)],L1.o⟩) by done) how hm;have e2:=bJ.mp (show xu.map (λhow=>ia (rn (n+1) 12) ⟨(fnOf 1351).scope,false,RB 1351,false⟩ (x2 Ak) ⟨[V "g" (.obj 13),V "how" (.int how)],L1.o⟩)=xu.map λhow=>some ((List.range (1+how.toNat % 3)).map (λi=>MV.int (Int.ofNat i)),false,⟨[V "g" (.obj 13),V "how" (.int how)],L1.o⟩) by done) how hm;generalize hv:(List.range (1+how.toNat % 3)).map (λi=>MV.int (Int.ofNat i))=vs at e2;have qF:vs.length=1+how.toNat % 3:=by rw[<-hv,aj,List.length_range]
  have XR:1<=vs.length/\vs.length<=3:=by rw[qF];lia
  refine ja (MG (n:=n) s.loc ⟨how,rfl⟩ vs L1 (L.cI+(1+vs.length)) G1 (by show _=L.cI+1+_;lia) (by lia)) λds d1 d2 d3=>?_;let L2:LS:=(LS.nR L (L.cI+(1+vs.length)));refine ⟨setOf ds,1+vs.length,Or.inl ⟨⟨mL,λa ha=>d2 a (mK.mp ha)⟩,?_⟩,by lia,by lia,λsc rb cp=>?_⟩
  ·have:=yq ds;lia
  ·refine eX (loc:=[V "g" (.obj 13)]) (loc':=s.loc) rfl rfl rfl (aU s rfl (IV sc rb cp) (aU s rfl e1 (gc rfl (iC (d:=14) rfl (dO (d:=13) 1346 (st1:=⟨s.loc,L2.o⟩) (as:=[.fresh (iL ds)]) rfl rfl rfl (by done) (ie (.fresh (iL ds)) rfl rfl (lT (d:=12) (vs:=vs) (ins:=false) (st1:=s) rfl e2 (by done) d3 (aF XR.2 (by decide))) rfl) rfl rfl (yr (n:=n) (Or.inl rfl) (by lia)) rfl)))))
noncomputable def pr(q d:Int):MV:=.tup [.int q,.int d]
def f9(t:Int)(out:List Int)(ws:List MV):List (Str×LV):=[V "cx" (.obj 4),V "t" (.int t),W "out" (iL out),W "waiting" (.lst ws)]
def R4:Option (Int×Int×Int)->List (Str×LV)
 | none=>[]
 | some (p,d,b)=>[V "part" (.int p),V "deep" (.int d),V "bound" (.int b)]
noncomputable def qG(q:Int):Int:=if q=20 then 16 else if q=19 then 18 else if q=22 then 21 else if q=23 then 19 else if q=25 then 24 else if q=26 then 23 else q
noncomputable def bN(q:Int):List Int:=if q=20 then [16] else if q=19 then [4,16] else if q=22 then [4,5] else if q=23 then [19] else if q=25 then [3,16] else if q=26 then [23] else []
noncomputable def opens:List Int:=[20,19,22,23,25,26]
noncomputable def qe:List Int:=[3,4,5,6,11,16,17,27,28,29,30,31,32]
noncomputable def ou:List Int:=[0,1,2,3]
def pairsOf(a:List Int):List (Int×Int):=a.flatMap λq=>ou.map λd=>(q,d)
def wS:Stmt:=hd (fnOf 600).body.tail.tail
abbrev iY(cx:Ctx):Ctx:=⟨(fnOf 600).scope,cx.ro,RB 600,false⟩
def lG(n:Nat)(cx:Ctx)(k:Nat)(st st1:St):Prop:=∀m,r9 ((rn n 14).t (iY cx) (sv wS)) ((rn n 14).ss (iY cx) (bo wS)) (m+k) st=r9 ((rn n 14).t (iY cx) (sv wS)) ((rn n 14).ss (iY cx) (bo wS)) m st1
theorem lG.trans{a b:Nat}{s1 s2 s3:St}(h:lG n cx a s1 s2)(k:lG n cx b s2 s3):lG n cx (a+b) s1 s3:=λm=>by
 rw[show m+(a+b)=(m+b)+a by lia,h,k]
theorem lG.one{s1 s2:St}(ht:(rn n 14).t (iY cx) (sv wS) s1=some (true,s1))(hb:Go n 13 (iY cx) (bo wS) s1 .bN s2):lG n cx 1 s1 s2:=λm=>by
 show ((rn n 14).t (iY cx) (sv wS) s1).bind _=_;rw[ht,ah];dsimp only;rw[aq rfl,show (rn n 14).ss (iY cx) (bo wS) s1=_ from hb];rfl
theorem B4(out:List Int)(ws:List MV)(r:Option (Int×Int×Int))(hl:ws.length<1000):(rn n 14).t (iY cx) (sv wS) ⟨f9 t out ws++R4 r,L.o⟩=some (!ws.isEmpty,⟨f9 t out ws++R4 r,L.o⟩):=
 v9 (d:=13) (.cont (.var (Str.ofString "waiting"))) rfl (by done) (x:=.lst ws) (by rfl) (show (if _ then _ else _)=_ by rw[aq (aZ hl (by decide))])
theorem zk(out:List Int)(ws:List MV)(r:Option (Int×Int×Int))(q d:Int)(b0:Int)(hr:∀x,r=some x->x.2.2=b0)(hl:ws.length<1000):(rn n 13).s (iY cx) (hd (bo wS)) ⟨f9 t out (ws++[pr q d])++R4 r,L.o⟩=some (.bN,⟨f9 t out ws++(match r with | none=>[V "part" (.int q),V "deep" (.int d)] | some _=>R4 (some (q,d,b0))),L.o⟩):=by
 refine wL (d:=12) (vs:=[.int q,.int d]) (ns:=[Str.ofString "part",Str.ofString "deep"]) (st1:=⟨f9 t out ws++R4 r,L.o⟩) rfl rfl (gQ (d:=11) (st1:=⟨f9 t out (ws++[pr q d])++R4 r,L.o⟩) (st2:=⟨f9 t out (ws++[pr q d])++R4 r,L.o⟩) (as:=[]) (mf:=none) (.cont (.var (Str.ofString "waiting"))) rfl rfl (by done) rfl (by done) rfl (lE rfl (v7 (pr q d) (.var (Str.ofString "waiting")) ws (by done) (aZ (Nat.succ_lt_succ hl) (by decide)) (by done)))) (by done) (by show (decide ([Str.ofString "part",Str.ofString "deep"].Nodup)&&decide ((2:Nat)=2))=true;decide +kernel) ?_;induction r using aab with
 | none=>done
 | some x=>
  rcases x with ⟨x1,x2,x3⟩
  have:x3=b0:=hr _ rfl;subst this
  done
theorem yx{q d:Int}(hq:q∈qe)(fG:d∈ou)(out:List Int)(ws:List MV)(r:Option (Int×Int×Int))(hl:ws.length<900)(ho:out.length<1000):lG (n+3) cx 1 ⟨f9 t out (ws++[pr q d])++R4 r,L.o⟩ ⟨f9 t (out++[q]) ws++R4 (some (q,d,q)),L.o⟩:=by
 have hm:(q,d)∈pairsOf qe:=List.mem_flatMap.mpr ⟨q,hq,aN.mpr ⟨d,fG,rfl⟩⟩;let s2:St:=⟨f9 t out ws++R4 (some (q,d,q)),L.o⟩;let s3:St:=⟨f9 t (out++[q]) ws++R4 (some (q,d,q)),L.o⟩;have eA:∀r':List (Str×LV),(r'=[V "part" (.int q),V "deep" (.int d)]\/∃b0,r'=R4 (some (q,d,b0)))->j8 (rn (n+3) 13) (iY cx) ((bo wS).tail.take 2) ⟨f9 t out ws++r',L.o⟩=some (.bN,s2):=by
  rintro r' (rfl | ⟨b0,rfl⟩)
  ·exact bJ.mp (show (pairsOf qe).map (λp=>j8 (rn (n+3) 13) (iY cx) ((bo wS).tail.take 2) ⟨f9 t out ws++[V "part" (.int p.1),V "deep" (.int p.2)],L.o⟩)=(pairsOf qe).map λp=>some (.bN,⟨f9 t out ws++R4 (some (p.1,p.2,p.1)),L.o⟩) by done) (q,d) hm
  ·exact bJ.mp (show (pairsOf qe).map (λp=>j8 (rn (n+3) 13) (iY cx) ((bo wS).tail.take 2) ⟨f9 t out ws++R4 (some (p.1,p.2,b0)),L.o⟩)=(pairsOf qe).map λp=>some (.bN,⟨f9 t out ws++R4 (some (p.1,p.2,p.1)),L.o⟩) by done) (q,d) hm
 have e3:(rn (n+3) 13).s (iY cx) (hd ((bo wS).tail.drop 2)) s2=some (.bN,s3):=by
  refine iE (d:=11) (st1:=s2) true rfl (dI (d:=11) (.val (.int q)) (.val (.int q)) rfl rfl (by done) rfl (by done) rfl rfl (show gm (.int q) (.int q)=_ by rw[iJ,aa rfl])) ?_;refine aU s3 rfl (i9 (d:=10) (.val .none) rfl rfl (gQ (d:=9) (st1:=s2) (st2:=s2) (as:=[.val (.int q)]) (mf:=none) (.cont (.var (Str.ofString "out"))) rfl rfl (by done) rfl (by done) rfl (lE rfl (o7 (.int q) (.var (Str.ofString "out")) (out.map .int) (by done) (by rw[aj];exact aZ ho (by decide)) rfl ?_))) rfl) (bQ rfl);have:iL (out++[q])=.lst (out.map .int++[.int q]):=by unfold iL;rw[bB];rfl
  show _=some (St.mk (f9 t (out++[q]) ws++_) _);unfold f9;rw[this]
  done
 have tail:∀r':List (Str×LV),(r'=[V "part" (.int q),V "deep" (.int d)]\/∃b0,r'=R4 (some (q,d,b0)))->Go (n+3) 13 (iY cx) (bo wS).tail ⟨f9 t out ws++r',L.o⟩ .bN s3:=λr' h=>lR 2 (eA r' h) (aU s3 rfl e3 (bQ rfl));refine lG.one (by rw[B4 _ _ _ (by rw[ay];show ws.length+1<1000;lia)];induction ws using aaa<;>rfl) ?_;induction r using aab with
 | none=>exact aU _ rfl (zk out ws none q d 0 (λZ h=>by exact aM h) (by lia)) (tail _ (Or.inl rfl))
 | some x=>exact aU _ rfl (zk out ws (some x) q d x.2.2 (λZ h=>by exists h;rfl) (by lia)) (tail _ (Or.inr ⟨_,rfl⟩))
theorem uB{q d:Int}(hq:q∈opens)(fG:d∈ou)(out:List Int)(ws:List MV)(r:Option (Int×Int×Int))(hl:ws.length<900):lG (n+3) cx 1 ⟨f9 t out (ws++[pr q d])++R4 r,L.o⟩ ⟨f9 t out (ws++(bN q).map λx=>pr x (d+1))++R4 (some (q,d,qG q)),L.o⟩:=by
 have hm:(q,d)∈pairsOf opens:=List.mem_flatMap.mpr ⟨q,hq,aN.mpr ⟨d,fG,rfl⟩⟩;let s2:St:=⟨f9 t out ws++R4 (some (q,d,qG q)),L.o⟩;let s3:St:=⟨f9 t out (ws++(bN q).map λx=>pr x (d+1))++R4 (some (q,d,qG q)),L.o⟩;have eA:∀r':List (Str×LV),(r'=[V "part" (.int q),V "deep" (.int d)]\/∃b0,r'=R4 (some (q,d,b0)))->j8 (rn (n+3) 13) (iY cx) ((bo wS).tail.take 2) ⟨f9 t out ws++r',L.o⟩=some (.bN,s2):=by
  rintro r' (rfl | ⟨b0,rfl⟩)
  ·exact bJ.mp (show (pairsOf opens).map (λp=>j8 (rn (n+3) 13) (iY cx) ((bo wS).tail.take 2) ⟨f9 t out ws++[V "part" (.int p.1),V "deep" (.int p.2)],L.o⟩)=(pairsOf opens).map λp=>some (.bN,⟨f9 t out ws++R4 (some (p.1,p.2,qG p.1)),L.o⟩) by done) (q,d) hm
  ·exact bJ.mp (show (pairsOf opens).map (λp=>j8 (rn (n+3) 13) (iY cx) ((bo wS).tail.take 2) ⟨f9 t out ws++R4 (some (p.1,p.2,b0)),L.o⟩)=(pairsOf opens).map λp=>some (.bN,⟨f9 t out ws++R4 (some (p.1,p.2,qG p.1)),L.o⟩) by done) (q,d) hm
 have et:(rn (n+3) 12).t (iY cx) (sv (hd ((bo wS).tail.drop 2))) s2=some (false,s2):=bJ.mp (show (pairsOf opens).map (λp=>(rn (n+3) 12).t (iY cx) (sv (hd ((bo wS).tail.drop 2))) ⟨f9 t out ws++R4 (some (p.1,p.2,qG p.1)),L.o⟩)=(pairsOf opens).map λp=>some (false,⟨f9 t out ws++R4 (some (p.1,p.2,qG p.1)),L.o⟩) by done) (q,d) hm;have ec:(rn (n+3) 9).e (iY cx) ((xl (sv (hd (el (hd ((bo wS).tail.drop 2)))))).headD default) s2=some (.fresh (.lst ((bN q).map λx=>pr x (d+1))),s2):=bJ.mp (show (pairsOf opens).map (λp=>(rn (n+3) 9).e (iY cx) ((xl (sv (hd (el (hd ((bo wS).tail.drop 2)))))).headD default) ⟨f9 t out ws++R4 (some (p.1,p.2,qG p.1)),L.o⟩)=(pairsOf opens).map λp=>some (.fresh (.lst ((bN p.1).map λx=>pr x (p.2+1))),⟨f9 t out ws++R4 (some (p.1,p.2,qG p.1)),L.o⟩) by done) (q,d) hm;have hn:((bN q).map λx=>pr x (d+1)).length<bE:=by
  rw[aj];have:(bN q).length<=2:=by
   unfold bN
   repeat' split
   all_goals decide
  exact aF this (by decide)
 have e3:(rn (n+3) 13).s (iY cx) (hd ((bo wS).tail.drop 2)) s2=some (.bN,s3):=by refine iE (d:=11) (st1:=s2) false rfl et ?_;refine aU s3 rfl (i9 (d:=10) (.val .none) rfl rfl (gQ (d:=9) (st1:=s2) (st2:=s2) (as:=[.fresh (.lst ((bN q).map λx=>pr x (d+1)))]) (mf:=none) (.cont (.var (Str.ofString "waiting"))) rfl rfl (by done) rfl (ie (.fresh (.lst ((bN q).map λx=>pr x (d+1)))) rfl rfl ec rfl) rfl (lE rfl (Sq (.var (Str.ofString "waiting")) ws ((bN q).map λx=>pr x (d+1)) (by done) (aZ hl (by decide)) hn (by done)))) rfl) (bQ rfl)
 have tail:∀r':List (Str×LV),(r'=[V "part" (.int q),V "deep" (.int d)]\/∃b0,r'=R4 (some (q,d,b0)))->Go (n+3) 13 (iY cx) (bo wS).tail ⟨f9 t out ws++r',L.o⟩ .bN s3:=λr' h=>lR 2 (eA r' h) (aU s3 rfl e3 (bQ rfl));refine lG.one (by rw[B4 _ _ _ (by rw[ay];show ws.length+1<1000;lia)];induction ws using aaa<;>rfl) ?_;induction r using aab with
 | none=>exact aU _ rfl (zk out ws none q d 0 (λZ h=>by exact aM h) (by lia)) (tail _ (Or.inl rfl))
 | some x=>exact aU _ rfl (zk out ws (some x) q d x.2.2 (λZ h=>by exists h;rfl) (by lia)) (tail _ (Or.inr ⟨_,rfl⟩))
noncomputable def lH(q:Int):List Int:=if q=20 then [16] else if q=19 then [16,4] else if q=22 then [5,4] else if q=23 then [16,4] else if q=25 then [16,3] else if q=26 then [16,4] else [q]
def fF(l:List Int):List Int:=l.reverse.flatMap lH
theorem CK{a b d:Int}(ha:a∈qe)(hb:b∈qe)(fG:d∈ou)(out:List Int)(ws:List MV)(r:Option (Int×Int×Int))(hl:ws.length<800)(ho:out.length<900):lG (n+3) cx 2 ⟨f9 t out (ws++[pr a d,pr b d])++R4 r,L.o⟩ ⟨f9 t (out++[b,a]) ws++R4 (some (a,d,a)),L.o⟩:=by have h1:=yx (n:=n) (L:=L) (cx:=cx) (t:=t) hb fG out (ws++[pr a d]) r (by rw[ay];show ws.length+1<900;lia) (by lia);have h2:=yx (n:=n) (L:=L) (cx:=cx) (t:=t) ha fG (out++[b]) ws (some (b,d,b)) (by lia) (by rw[ay];show out.length+1<1000;lia);rw[cH]at h1 h2;exact h1.trans h2
theorem JT{d d1:Int}(fG:d∈ou)(h1:d1∈ou)(e:d1=d+1)(out:List Int)(ws:List MV)(r:Option (Int×Int×Int))(hl:ws.length<800)(ho:out.length<900):lG (n+3) cx 3 ⟨f9 t out (ws++[pr 19 d])++R4 r,L.o⟩ ⟨f9 t (out++[16,4]) ws++R4 (some (4,d1,4)),L.o⟩:=by subst e;exact (uB (n:=n) (L:=L) (cx:=cx) (t:=t) (q:=19) (by decide) fG out ws r (by lia)).trans (CK (n:=n) (L:=L) (cx:=cx) (t:=t) (a:=4) (b:=16) (by decide) (by decide) h1 out ws _ hl ho)
theorem JU{d d1 d2:Int}(fG:d∈ou)(h1:d1∈ou)(h2:d2∈ou)(e:d1=d+1)(e2:d2=d1+1)(out:List Int)(ws:List MV)(r:Option (Int×Int×Int))(hl:ws.length<800)(ho:out.length<900):lG (n+3) cx 4 ⟨f9 t out (ws++[pr 23 d])++R4 r,L.o⟩ ⟨f9 t (out++[16,4]) ws++R4 (some (4,d2,4)),L.o⟩:=by subst e;exact (uB (n:=n) (L:=L) (cx:=cx) (t:=t) (q:=23) (by decide) fG out ws r (by lia)).trans (JT h1 h2 e2 out ws _ hl ho)
theorem TQ{q:Int}(h:BB q)(out:List Int)(ws:List MV)(r:Option (Int×Int×Int))(hl:ws.length<800)(ho:out.length<900):∃k r',k<=5/\lG (n+3) cx k ⟨f9 t out (ws++[pr q 0])++R4 r,L.o⟩ ⟨f9 t (out++lH q) ws++R4 r',L.o⟩:=by
 have hz:(0:Int)∈ou:=by decide
 have h1:(1:Int)∈ou:=by decide
 have cl:∀q,q∈qe->lH q=[q]->∃k r',k<=5/\lG (n+3) cx k ⟨f9 t out (ws++[pr q 0])++R4 r,L.o⟩ ⟨f9 t (out++lH q) ws++R4 r',L.o⟩:=λq hq e=>⟨1,_,by decide,by rw[e];exact yx hq hz out ws r (by lia) (by lia)⟩;cases (h)
 case h0=>exact ⟨3,_,by decide,JT hz h1 rfl out ws r hl ho⟩
 case i=>exact ⟨2,_,by decide,(uB (n:=n) (L:=L) (cx:=cx) (t:=t) (q:=20) (by decide) hz out ws r (by lia)).trans (yx (q:=16) (by decide) h1 out ws _ (by lia) (by lia))⟩
 case j=>exact ⟨3,_,by decide,(uB (n:=n) (L:=L) (cx:=cx) (t:=t) (q:=22) (by decide) hz out ws r (by lia)).trans (CK (a:=4) (b:=5) (by decide) (by decide) h1 out ws _ hl ho)⟩
 case k=>exact ⟨4,_,by decide,JU hz h1 (d2:=2) (by decide) rfl rfl out ws r hl ho⟩
 case l=>exact ⟨3,_,by decide,(uB (n:=n) (L:=L) (cx:=cx) (t:=t) (q:=25) (by decide) hz out ws r (by lia)).trans (CK (a:=3) (b:=16) (by decide) (by decide) h1 out ws _ hl ho)⟩
 case m=>exact ⟨5,_,by decide,(uB (n:=n) (L:=L) (cx:=cx) (t:=t) (q:=26) (by decide) hz out ws r (by lia)).trans (JU h1 (d1:=2) (d2:=3) (by decide) (by decide) rfl rfl out ws _ hl ho)⟩
 all_goals exact cl _ (by decide) rfl
theorem F1(q:Int):(lH q).length<=2:=by
 unfold lH
 repeat' split
 all_goals first | exact az _ | exact bG _
theorem TR(rs:List Int):∀(out:List Int) (r:Option (Int×Int×Int)),(∀q∈rs,BB q)->rs.length<60->out.length+2*rs.length<800->∃k r',k<=5*rs.length/\lG (n+3) cx k ⟨f9 t out (rs.reverse.map λx=>pr x 0)++R4 r,L.o⟩ ⟨f9 t (out++rs.flatMap lH) []++R4 r',L.o⟩:=by
 induction rs with
 | nil=>exact λout r Z Z Z=>⟨0,r,az _,λm=>by rw[List.flatMap_nil,eo];rfl⟩
 | cons q rs ih=>intro out r hb hl ho;rw[aR]at hl ho;refine kj (TQ (n:=n) (L:=L) (cx:=cx) (t:=t) (hb q aE) out (rs.reverse.map λx=>pr x 0) r (by rw[aj,cK];lia) (by lia)) λk r1 hk h1=>?_;have:=F1 q;refine kj (ih (out++lH q) r1 (λx hx=>hb x (aO _ hx)) (by lia) (by rw[ay];lia)) λk2 r2 xB h2=>?_;refine ⟨k+k2,r2,by rw[aR];lia,?_⟩;rw[cH,<-List.flatMap_cons]at h2;rw[List.reverse_cons,bB];exact h1.trans h2
theorem Hg{l:List Int}(hp:∀n cx,Runs (n+1) cx 336 [.v (.obj 0),.v (.int t)] L.o (.val (nums l)) L.o)(hb:∀z∈l,BB z)(hl:l.length<60):rA (n+4) 600 [.v (.obj 4),.v (.int t)] L (.val (iL (fF l))):=by
 intro cx;refine kj (TR (n:=n) (L:=L) (cx:=cx) (t:=t) l.reverse [] none (λq hq=>hb q (List.mem_reverse.mp hq)) (by rw[cK];exact hl) (by rw[cK];show 0+_<_;lia)) λk r hk h=>?_;rw[cK]at hk;rw[List.reverse_reverse,List.nil_append]at h;let s0:St:=⟨[V "cx" (.obj 4),V "t" (.int t),W "out" (iL [])],L.o⟩;let s1:St:=⟨f9 t [] (l.map λx=>pr x 0),L.o⟩;let s2:St:=⟨f9 t (fF l) []++R4 r,L.o⟩;refine eX (loc:=[V "cx" (.obj 4),V "t" (.int t)]) (loc':=[V "cx" (.obj 4),V "t" (.int t),W "waiting" (.lst [])]++R4 r) rfl rfl rfl ?_;refine aU s0 rfl (by done) (aU s1 rfl ?_ (aU s2 rfl ?_ (gc rfl (by induction r using aab<;>done))))
 ·let ec:=sv (hd (fnOf 600).body.tail);refine fU (d:=14) (st1:=s0) rfl (.fresh (.lst (l.map λx=>pr x 0))) (lT (d:=13) (vs:=l.map .int) (ins:=false) (st1:=s0) rfl (vL (.val (nums l)) rfl (dO (d:=12) 336 (st1:=s0) (as:=[.val (.obj 0),.val (.int t)]) rfl rfl rfl (by done) (by done) rfl rfl (hp (n+2) _) rfl) rfl) (by done) ?_ (by rw[aj];exact aZ hl (by decide))) (by done);have:=rU (n:=n+3) (d:=13) (cx:=⟨iO ec,(cx.ro||false),RB 600,true⟩) (ifs:=xl ec) (elt:=x1 ec) (x:=Str.ofString "part") (outer:=s0.loc.map eY) (σ:=L.o)
   (λv=>.tup [v,.int 0]) (l.map .int) rfl (λv hv=>⟨.val (.tup [v,.int 0]),V "part" v::s0.loc.map eY,by done,rfl⟩)
  rw[bI]at this;exact this
 ·refine QS (d:=14) rfl ?_;have:=h (4096-k);rw[show 4096-k+k=4096 by lia]at this;refine this.trans ?_;rw[show 4096-k=(4095-k)+1 by lia];show ((rn (n+3) 14).t (iY cx) (sv wS) s2).bind _=_;rw[B4 _ _ _ (by decide),ah];rfl
noncomputable def f6:Str:=Str.ofString "."
noncomputable def cU:Str:=Str.ofString ""
inductive PT:Nat->MV->Str->Prop
 | name {d:Nat} {a:Str} {kids:List MV} {fl at':Int}:PT d (bU 8 (.str a) kids fl at') a
 | mem {d:Nat} {a p:Str} {o:MV} {fl at':Int}:PT d o p->p≠cU->p.length<1000->a.length<1000->PT (d+1) (bU 16 (.str a) [o] fl at') (p++f6++a)
 | JV {d:Nat} {a:Str} {o:MV} {fl at':Int}:PT d o cU->PT (d+1) (bU 16 (.str a) [o] fl at') cU
 | other {d:Nat} {k:Int} {a:MV} {kids:List MV} {fl at':Int}:k≠8->k≠16->k≠20->PT d (bU k a kids fl at') cU
 | chain {d:Nat} {k:Int} {a:MV} {kids:List MV} {fl at':Int} {b:MV} {pT at2:Int} {p:Str}:PT d (bU k a kids fl at') p->k≠20->PT d (bU 20 b [bU k a kids fl at'] pT at2) p
theorem yy(x y:Str):gm (.str x) (.str y)=some (decide (x=y)):=by rfl
def np(v:MV):List (Str×LV):=[V "node" v]
abbrev nq(cx:Ctx):Ctx:=⟨(fnOf 588).scope,cx.ro,RB 588,false⟩
theorem B5(e:Expr){c k:Int}{v:MV}(hk:(rn n 13).e (nq cx) (x1 e) ⟨np v,σ⟩=some (.val (.int k),⟨np v,σ⟩))(h1:(rn n 13).e (nq cx) (x2 e) ⟨np v,σ⟩=some (.val (.int c),⟨np v,σ⟩))
  (he:e=.Compare (x1 e) [xc e] [x2 e] e.pos) (hs:jJ (x2 e)=false) (hx:xc e=.Eq):(rn n 14).t (nq cx) e ⟨np v,σ⟩=some (decide (k=c),⟨np v,σ⟩):=by
 refine dI (d:=13) (.val (.int k)) (.val (.int c)) he hs hk rfl h1 rfl rfl ?_;rw[hx];exact iJ k c
theorem xR{k:Int}{a:MV}{kids:List MV}{fl at':Int}:(rn n 14).t (nq cx) (sv (hd (fnOf 588).body)) ⟨np (bU k a kids fl at'),σ⟩=some (decide (k=20),⟨np (bU k a kids fl at'),σ⟩):=B5 _ (by done) (by done) rfl rfl rfl
theorem Al{k:Int}{a:MV}{kids:List MV}{fl at':Int}:(rn n 14).t (nq cx) (sv (hd (fnOf 588).body.tail)) ⟨np (bU k a kids fl at'),σ⟩=some (decide (k=8),⟨np (bU k a kids fl at'),σ⟩):=B5 _ (by done) (by done) rfl rfl rfl
theorem Ez{k:Int}{a:MV}{kids:List MV}{fl at':Int}:(rn n 14).t (nq cx) (sv (hd (fnOf 588).body.tail.tail)) ⟨np (bU k a kids fl at'),σ⟩=some (decide (k=16),⟨np (bU k a kids fl at'),σ⟩):=B5 _ (by done) (by done) rfl rfl rfl
def IW(n:Nat)(cx:Ctx)(σ:eN)(v:MV)(p:Str):Prop:=∃loc',Go n 15 (nq cx) (fnOf 588).body.tail ⟨np v,σ⟩ (.ret (.val (.str p))) ⟨loc',σ⟩
theorem IX{p a:Str}(h1:p.length<1000)(h2:a.length<1000):binop .Add (.str p) (.str f6)=some (.val (.str (p++f6)))/\binop .Add (.str (p++f6)) (.str a)=some (.val (.str (p++f6++a))):=by
 have h0:f6.length=1:=by decide +kernel
 have h3:(p++f6).length=p.length+1:=by show (p.cps++f6.cps).size=p.cps.size+1;rw[Array.size_append];have:f6.cps.size=1:=h0;lia
 constructor
 ·show (if _ then _ else _)=_;rw[aa (p:=p.length<=bE) (by unfold bE;lia),aa (p:=f6.length<=bE) (by rw[h0];unfold bE;lia)];rfl
 ·show (if _ then _ else _)=_;rw[aa (p:=(p++f6).length<=bE) (by rw[h3];unfold bE;lia),aa (p:=a.length<=bE) (by unfold bE;lia)];rfl
theorem Q6:∀{d:Nat} {v:MV} {p:Str},PT d v p->∀{n:Nat} {cx:Ctx} {σ:eN},(∃k a kids fl at',v=bU k a kids fl at'/\(k≠20->IW (n+d) cx σ v p))/\Runs (n+d+1) cx 588 [.v v] σ (.val (.str p)) σ:=by
 intro d v p h;induction h with
 | @name d a kids fl at'=>intro n cx σ;let v:=bU 8 (.str a) kids fl at';have T:IW (n+d) cx σ v a:=⟨_,nA (d:=13) (st1:=⟨np v,σ⟩) (st2:=⟨np v,σ⟩) true rfl rfl Al (g5 (by done))⟩;refine ⟨⟨8,_,_,_,_,rfl,λZ=>T⟩,?_⟩;revert T;refine gh λloc' T=>?_;exact eX (loc:=np v) rfl rfl rfl (dX (d:=13) (st1:=⟨np v,σ⟩) (st2:=⟨np v,σ⟩) false rfl rfl xR (bQ rfl) T)
 | @other d k a kids fl at' h8 XS XT=>
  intro n cx σ;let v:=bU k a kids fl at';have q8:(rn (n+d) 14).t (nq cx) (sv (hd (fnOf 588).body.tail)) ⟨np v,σ⟩=some (false,⟨np v,σ⟩):=by rw[Al,ao h8]
  have XU:(rn (n+d) 14).t (nq cx) (sv (hd (fnOf 588).body.tail.tail)) ⟨np v,σ⟩=some (false,⟨np v,σ⟩):=by rw[Ez,ao XS]
  have xS:(rn (n+d) 14).t (nq cx) (sv (hd (fnOf 588).body)) ⟨np v,σ⟩=some (false,⟨np v,σ⟩):=by rw[xR,ao XT]
  have T:Go (n+d) 15 (nq cx) (fnOf 588).body.tail ⟨np v,σ⟩ (.ret (.val (.str cU))) ⟨np v,σ⟩:=dX (d:=13) (st1:=⟨np v,σ⟩) (st2:=⟨np v,σ⟩) false rfl rfl q8 (bQ rfl) (dX (d:=13) (st1:=⟨np v,σ⟩) (st2:=⟨np v,σ⟩) false rfl rfl XU (bQ rfl) (g5 (by done)));exact ⟨⟨k,_,_,_,_,rfl,λZ=>⟨_,T⟩⟩,eX (loc:=np v) rfl rfl rfl (dX (d:=13) (st1:=⟨np v,σ⟩) (st2:=⟨np v,σ⟩) false rfl rfl xS (bQ rfl) T)⟩
 | @mem d a p o fl at' ho jd rG oM ih=>
  intro n cx σ;let v:=bU 16 (.str a) [o] fl at';let s1:St:=⟨np v++[V "head" (.str p)],σ⟩;have T:Go (n+(d+1)) 15 (nq cx) (fnOf 588).body.tail ⟨np v,σ⟩ (.ret (.val (.str (p++f6++a)))) s1:=by
   refine dX (d:=13) (st1:=⟨np v,σ⟩) (st2:=⟨np v,σ⟩) false rfl rfl Al (bQ rfl) (nA (d:=13) (st1:=⟨np v,σ⟩) true rfl rfl Ez ?_);refine aU s1 rfl (fU (d:=12) (st1:=⟨np v,σ⟩) rfl (.val (.str p)) (dO (d:=11) 588 (st1:=⟨np v,σ⟩) (as:=[.val o]) rfl rfl rfl (by done) (by done) rfl rfl ?_ rfl) (by done)) ?_
   ·exact (ih (n:=n) (σ:=σ)).2
   ·refine nA (d:=11) (st1:=s1) true rfl rfl (dI (d:=11) (.val (.str p)) (.val (.str cU)) rfl rfl (by done) rfl (by done) rfl rfl ?_) ?_
    ·show (gm (.str p) (.str cU)).map _=_;rw[yy,ao jd];rfl
    ·exact gc rfl (iC (d:=10) rfl (nK (d:=9) (.val (.str (p++f6))) (.val (.str a)) rfl (nK (d:=8) (.val (.str p)) (.val (.str f6)) rfl (by done) rfl (by done) rfl rfl (IX rG oM).1) rfl (by done) rfl rfl (IX rG oM).2))
  exact ⟨⟨16,_,_,_,_,rfl,λZ=>⟨_,T⟩⟩,eX (loc:=np v) rfl rfl rfl (dX (d:=13) (st1:=⟨np v,σ⟩) (st2:=⟨np v,σ⟩) false rfl rfl xR (bQ rfl) T)⟩
 | @JV d a o fl at' ho ih=>
  intro n cx σ;let v:=bU 16 (.str a) [o] fl at';let s1:St:=⟨np v++[V "head" (.str cU)],σ⟩;have T:Go (n+(d+1)) 15 (nq cx) (fnOf 588).body.tail ⟨np v,σ⟩ (.ret (.val (.str cU))) s1:=by refine dX (d:=13) (st1:=⟨np v,σ⟩) (st2:=⟨np v,σ⟩) false rfl rfl Al (bQ rfl) (dX (d:=13) (st1:=⟨np v,σ⟩) (st2:=s1) true rfl rfl Ez ?_ (g5 (by done)));refine aU s1 rfl (fU (d:=12) (st1:=⟨np v,σ⟩) rfl (.val (.str cU)) (dO (d:=11) 588 (st1:=⟨np v,σ⟩) (as:=[.val o]) rfl rfl rfl (by done) (by done) rfl rfl ?_ rfl) (by done)) (g5 (by done));exact (ih (n:=n) (σ:=σ)).2
  exact ⟨⟨16,_,_,_,_,rfl,λZ=>⟨_,T⟩⟩,eX (loc:=np v) rfl rfl rfl (dX (d:=13) (st1:=⟨np v,σ⟩) (st2:=⟨np v,σ⟩) false rfl rfl xR (bQ rfl) T)⟩
 | @chain d k a kids fl at' b pT at2 p ho hk ih=>
  intro n cx σ;refine cu (ih (n:=n) (cx:=cx) (σ:=σ)) λbA Z=>?_;revert bA;refine UW λk' a' YM nT YV e T=>?_;have:k=k':=by cases (e);rfl
  refine cg (T (this▸hk)) λloc' T=>?_;let v:=bU 20 b [bU k a kids fl at'] pT at2;refine ⟨⟨20,_,_,_,_,rfl,λh=>absurd rfl h⟩,?_⟩;exact eX (loc:=np v) rfl rfl rfl (dX (d:=13) (st1:=⟨np v,σ⟩) (st2:=⟨np (bU k a kids fl at'),σ⟩) true rfl rfl xR (g5 (by done)) T)
def tl(num at':Int)(args:List MV):List (Str×LV):=[V "self" (.obj 4),V "number" (.int num),V "at" (.int at'),V "args" (.tup args)]
def RD:Option (Int×Int×List MV)->List (Str×LV)
 | none=>[]
 | some d=>[V "diag" (kO d)]
abbrev LS.tell(L:LS)(num at':Int)(args:List MV):LS:=(LS.Xz L (L.dg++[(num,at',args)]))
theorem Q7{num at':Int}{args:List MV}(hl:L.dg.length<1000):gB (n+2) 173 [.v (.obj 2),.v (.int num),.v (.int at'),.v (.tup args)] L (.val .none) (L.tell num at' args):=by
 intro sc rb cp;let lc:List (Str×LV):=[V "self" (.obj 2),V "number" (.int num),V "at" (.int at'),V "args" (.tup args)];let s:St:=⟨lc,L.o⟩;refine qO (loc:=lc) (loc':=lc) rfl rfl rfl (aU ⟨lc,(L.tell num at' args).o⟩ rfl (i9 (d:=14) (.val .none) rfl rfl (gQ (d:=13) (st1:=s) (st2:=s) (as:=[.fresh (kO (num,at',args))]) (mf:=none) (.cont (.slot 2 (Str.ofString "rows"))) rfl rfl (by done) rfl (by done) rfl (lE rfl (o7 (kO (num,at',args)) (.slot 2 (Str.ofString "rows")) (L.dg.map kO) (by done) (by rw[aj];exact aZ hl (by decide)) rfl ?_))) rfl) (bQ rfl));have:(L.tell num at' args).dg.map kO=L.dg.map kO++[kO (num,at',args)]:=by show (L.dg++[_]).map kO=_;rw[bB];rfl
 unfold LS.o;rw[this]
 done
def TI(L:LS)(num at':Int)(args:List MV)(vs:List MV)(st:St):Prop:=∃(ds:List (Int×Int×List MV)) (r:Option (Int×Int×List MV)),vs=ds.map kO/\(∀d∈ds,d.2.1≠at')/\st=⟨tl num at' args++RD r,L.o⟩
theorem Q8{num at':Int}{args:List MV}(hl:L.dg.length<1000)(hn:∀d∈L.dg,d.2.1≠at'):gB (n+3) 1154 [.v (.obj 4),.v (.int num),.v (.int at'),.v (.tup args)] L (.val .none) (L.tell num at' args):=by
 intro sc rb cp;let c1:Ctx:=⟨(fnOf 1154).scope,false||true,RB 1154,false⟩;refine cg (turns_inv (n:=n+2) (d:=13) (cx:=c1) (x:=iG (hd (fnOf 1154).body)) (b:=bo (hd (fnOf 1154).body)) (I:=TI L num at' args) (λv rr st=>by
  rintro ⟨ds,r,e,fG,rfl⟩;induction ds using aaa with
  | nil=>cases (e)
  | cons d ds=>
   cases (e);let s:St:=⟨tl num at' args++RD (some d),L.o⟩;refine ⟨s,s,by induction r using aab<;>done,?_,ds,some d,rfl,λx hx=>fG x (aO _ hx),rfl⟩;have jd:=fG d aE;rcases d with ⟨d1,d2,d3⟩
   refine dX (d:=11) (st1:=s) (st2:=s) false rfl rfl (uM (d:=11) rfl ?_) (bQ rfl) (bQ rfl);have t2:(rn (n+2) 11).t c1 ((xl (sv (hd (bo (hd (fnOf 1154).body))))).tail.headD default) s=some (false,s):=dI (d:=10) (.val (.int d2)) (.val (.int at')) rfl rfl (by done) rfl (by done) rfl rfl (show gm (.int d2) (.int at')=_ by rw[iJ,ao jd]);have t1:(rn (n+2) 11).t c1 ((xl (sv (hd (bo (hd (fnOf 1154).body))))).headD default) s=some (decide (d1=num),s):=dI (d:=10) (.val (.int d1)) (.val (.int num)) rfl rfl (by done) rfl (by done) rfl rfl (iJ d1 num);by_cases q:d1=num
   ·rw[aa q]at t1;exact lQ rfl t1 (nI rfl t2)
   ·rw[ao q]at t1;exact nI rfl t1) (L.dg.map kO) ⟨tl num at' args,L.o⟩ ⟨L.dg,none,rfl,hn,rfl⟩) λst' zI=>?_
 revert zI;refine gj λh1 VK=>?_;revert VK;refine Jq λds r Z Z VL=>?_;obtain rfl:=VL;let s2:St:=⟨tl num at' args++RD r,L.o⟩;let s3:St:=⟨tl num at' args++RD r,(L.tell num at' args).o⟩;refine qO (loc:=tl num at' args) (loc':=s3.loc) rfl rfl rfl (aU s2 rfl (oF (d:=13) (xs:=L.dg.map kO) (ins:=true) (st1:=⟨tl num at' args,L.o⟩) rfl (by done) (by rw[aj];exact aZ hl (by decide)) h1 (by induction r using aab<;>rfl)) (aU s3 rfl ?_ (bQ rfl)));exact i9 (d:=14) (.val .none) rfl rfl (gQ (d:=13) (st1:=s2) (st2:=s2) (as:=[.val (.int num),.val (.int at'),.val (.tup args)]) (mf:=some 173) (.val (.obj 2)) rfl rfl (by induction r using aab<;>done) (by done) (by induction r using aab<;>done) rfl (kN 173 (ls:=[.v (.int num),.v (.int at'),.v (.tup args)]) rfl rfl (Q7 (n:=n) hl _ _ _) rfl)) rfl
theorem GC{num k fl at':Int}{a:MV}{kids args:List MV}(hl:L.dg.length<1000)(hn:∀d∈L.dg,d.2.1≠at'):gB (n+4) 1147 [.v (.obj 4),.v (.int num),.v (bU k a kids fl at'),.v (.tup args)] L (.val .none) (L.tell num at' args):=by intro sc rb cp;let lc:List (Str×LV):=[V "self" (.obj 4),V "number" (.int num),V "node" (bU k a kids fl at'),V "args" (.tup args)];let s:St:=⟨lc,L.o⟩;exact qO (loc:=lc) (loc':=lc) rfl rfl rfl (aU ⟨lc,(L.tell num at' args).o⟩ rfl (i9 (d:=14) (.val .none) rfl rfl (gQ (d:=13) (st1:=s) (st2:=s) (as:=[.val (.int num),.val (.int at'),.val (.tup args)]) (mf:=some 1154) (.val (.obj 4)) rfl rfl (by done) (by done) (by done) rfl (kN 1154 (ls:=[.v (.int num),.v (.int at'),.v (.tup args)]) rfl rfl (Q8 (n:=n) hl hn _ _ _) rfl)) rfl) (bQ rfl))
abbrev LS.note(L:LS)(code at':Int):LS:=(LS.XA L (L.nt++[(code,at')]))
theorem Q9{code at':Int}(hl:L.nt.length<1000):gB (n+1) 206 [.v (.obj 3),.v (.int code),.v (.int at')] L (.val .none) (L.note code at'):=by
 intro sc rb cp;let lc:List (Str×LV):=[V "self" (.obj 3),V "code" (.int code),V "at" (.int at')];let s:St:=⟨lc,L.o⟩;refine qO (loc:=lc) (loc':=lc) rfl rfl rfl (aU ⟨lc,(L.note code at').o⟩ rfl (i9 (d:=14) (.val .none) rfl rfl (gQ (d:=13) (st1:=s) (st2:=s) (as:=[.val (gH (code,at'))]) (mf:=none) (.cont (.slot 3 (Str.ofString "rows"))) rfl rfl (by done) rfl (by done) rfl (lE rfl (o7 (gH (code,at')) (.slot 3 (Str.ofString "rows")) (L.nt.map gH) (by done) (by rw[aj];exact aZ hl (by decide)) rfl ?_))) rfl) (bQ rfl));have:(L.note code at').nt.map gH=L.nt.map gH++[gH (code,at')]:=by show (L.nt++[_]).map gH=_;rw[bB];rfl
 unfold LS.o;rw[this]
 done
theorem Hh{code k fl at':Int}{a:MV}{kids:List MV}(hl:L.nt.length<1000):gB (n+2) 1168 [.v (.obj 4),.v (.int code),.v (bU k a kids fl at')] L (.val .none) (L.note code at'):=by intro sc rb cp;let lc:List (Str×LV):=[V "self" (.obj 4),V "code" (.int code),V "node" (bU k a kids fl at')];let s:St:=⟨lc,L.o⟩;exact qO (loc:=lc) (loc':=lc) rfl rfl rfl (aU ⟨lc,(L.note code at').o⟩ rfl (i9 (d:=14) (.val .none) rfl rfl (gQ (d:=13) (st1:=s) (st2:=s) (as:=[.val (.int code),.val (.int at')]) (mf:=some 206) (.val (.obj 3)) rfl rfl (by done) (by done) (by done) rfl (kN 206 (ls:=[.v (.int code),.v (.int at')]) rfl rfl (Q9 (n:=n) hl _ _ _) rfl)) rfl) (bQ rfl))
theorem Hj{d:Nat}{v:MV}{p:Str}(h:PT d v p)(fG:d<=10):Runs (n+11) cx 588 [.v v] σ (.val (.str p)) σ:=by have:=(Q6 h (n:=n+10-d) (cx:=cx) (σ:=σ)).2;rw[show n+10-d+d+1=n+11 by lia]at this;exact this
theorem Runs.up{a:Addr}{ls:List LV}{r:EV}{σ':eN}{m m':Nat}(h:Runs m cx a ls σ r σ')(e:m=m'):Runs m' cx a ls σ r σ':=e▸h
noncomputable def ig(nu un:Bool):Int:=(if nu then 1 else 0)+(if un then 2 else 0)
noncomputable def kY(t:Int):Str:=Str.ofString (toString t)
def lI(k:Int)(p:Str)(nu un:Bool):Int:=if k=6\/k=7 then 18050 else if p≠cU then 18046+ig nu un else 2530+ig nu un
def kg(k t:Int)(p:Str):List MV:=if k=6\/k=7 then [.str (kY t)] else if p≠cU then [.str p] else []
def EA(node:MV)(t:Int)(nu un:Bool):List (Str×LV):=[V "cx" (.obj 4),V "node" node,V "t" (.int t),V "null" (.bool nu),V "undef" (.bool un)]
theorem LX{d:Nat}{k fl at' t:Int}{a:MV}{kids:List MV}{p:Str}{nu un:Bool}(rK:(nu||un)=true)(hp:PT d (bU k a kids fl at') p)(fG:d<=10)(hl:L.dg.length<1000)(hn:∀x∈L.dg,x.2.1≠at')(ht:0<=t/\t<=1000000) :
  gB (n+12) 607 [.v (.obj 4),.v (bU k a kids fl at'),.v (.int t),.v (.bool nu),.v (.bool un)] L (.val .none) (L.tell (lI k p nu un) at' (kg k t p)):=by
 intro sc rb cp;let v:=bU k a kids fl at';let c1:Ctx:=⟨(fnOf 607).scope,false,RB 607,false⟩;let s:St:=⟨EA v t nu un,L.o⟩;let s1:St:=⟨EA v t nu un++[V "path" (.str p)],L.o⟩;have e0:(rn (n+11) 15).s c1 (hd (fnOf 607).body) s=some (.bN,s1):=fU (d:=14) (st1:=s) rfl (.val (.str p)) (dO (d:=13) 588 (st1:=s) (as:=[.val v]) rfl rfl rfl (by done) (by done) rfl rfl (Hj (n:=n) hp fG) rfl) (by done);have e1:(rn (n+11) 14).t c1 (sv (hd (fnOf 607).body.tail)) s1=some (decide (k∈[6,7]),s1):=dI (d:=13) (.val (.int k)) (.val (nums [6,7])) rfl rfl (by done) rfl (by done) rfl rfl (show isIn (.int k) (.tup ([6,7].map .int))=_ from qT k [6,7]);have fin:∀num args,num=lI k p nu un->args=kg k t p->(∃b,Go (n+11) 13 c1 (if decide (k∈[6,7]) then bo (hd (fnOf 607).body.tail) else el (hd (fnOf 607).body.tail)) s1 .bN ⟨s1.loc,(L.tell num at' args).o⟩/\b=true)->Runs (n+12) ⟨sc,false,rb,cp⟩ 607 [.v (.obj 4),.v v,.v (.int t),.v (.bool nu),.v (.bool un)] L.o (.val .none) (L.tell (lI k p nu un) at' (kg k t p)).o:=by rintro num args rfl rfl ⟨_,h,_⟩;exact qO (loc:=EA v t nu un) (loc':=s1.loc) rfl rfl rfl (aU s1 rfl e0 (dX (d:=13) (st1:=s1) (decide (k∈[6,7])) rfl rfl e1 h (bQ rfl)))
 have B7:∀num args,gB (n+11) 1147 [.v (.obj 4),.v (.int num),.v v,.v (.tup args)] L (.val .none) (L.tell num at' args):=λnum args=>GC (n:=n+7) hl hn;by_cases q:k=6\/k=7
 ·have hk:decide (k∈[6,7])=true:=aa (by (revert q;refine eS (λcF=>?_) (λcF=>?_)<;>obtain rfl:=cF)<;>decide);rw[hk]at fin;refine fin 18050 [.str (kY t)] (by unfold lI;rw[aq q]) (by unfold kg;rw[aq q]) ⟨true,?_,rfl⟩;have dj:uP (.int t)=some (.str (kY t)):=by show (if _ then _ else _)=_;rw[aa ht.1,aa ht.2];rfl
  refine aU ⟨s1.loc,(L.tell 18050 at' [.str (kY t)]).o⟩ rfl (i9 (d:=12) (.val .none) rfl rfl (gQ (d:=11) (st1:=s1) (st2:=s1) (as:=[.val (.int 18050),.val v,.val (.tup [.str (kY t)])]) (mf:=some 1147) (.val (.obj 4)) rfl rfl (by done) (by done) (gM (.val (.int 18050)) (st1:=s1) rfl (by done) rfl (gM (.val v) (st1:=s1) rfl (by done) rfl (ie (.val (.tup [.str (kY t)])) rfl rfl
   (oq (d:=10) (as:=[.val (.str (kY t))]) rfl rfl (ie (.val (.str (kY t))) rfl rfl (gQ (d:=9) (st1:=s1) (st2:=s1) (as:=[.val (.int t)]) (mf:=some 1161) (.val (.obj 4)) rfl rfl (by done) (by done) (by done) rfl (kN 1161 (ls:=[.v (.int t)]) (σ':=L.o) rfl rfl ?_ rfl)) rfl) rfl) rfl))) rfl (kN 1147 (ls:=[.v (.int 18050),.v v,.v (.tup [.str (kY t)])]) rfl rfl (B7 _ _ _ _ _) rfl)) rfl) (bQ rfl)
  refine eX (n:=n+10) (loc:=[V "self" (.obj 4),V "t" (.int t)]) (loc':=[V "self" (.obj 4),V "t" (.int t)]) rfl rfl rfl (gc rfl (iC (d:=14) rfl (gQ (d:=13) (st1:=⟨[V "self" (.obj 4),V "t" (.int t)],L.o⟩) (st2:=⟨[V "self" (.obj 4),V "t" (.int t)],L.o⟩) (as:=[.val (.obj 4),.val (.int t)]) (mf:=some 951) (.val (.obj 5)) rfl rfl (by done) (by done) (by done) rfl (kN 951 (ls:=[.v (.obj 4),.v (.int t)]) rfl rfl ?_ rfl))));let lc:List (Str×LV):=[V "self" (.obj 5),V "cx" (.obj 4),V "t" (.int t)];exact eX (n:=n+9) (loc:=lc) (loc':=lc) rfl rfl rfl (gc rfl (iC (d:=14) rfl (CE (d:=13) (nm:="str") (as:=[.val (.int t)]) rfl rfl (by done) (by done) rfl (show Option.map _ (uP (.int t))=_ by rw[dj];rfl))))
 ·have hk:decide (k∈[6,7])=false:=ao (by simpa using q);rw[hk]at fin;by_cases qH:p=cU
  ·refine fin (2530+ig nu un) [] (by unfold lI;rw[au q,au (λh=>h qH)]) (by unfold kg;rw[au q,au (λh=>h qH)]) ⟨true,?_,rfl⟩;refine dX (d:=11) (st1:=s1) false rfl rfl (dI (d:=11) (.val (.str p)) (.val (.str cU)) rfl rfl (by done) rfl (by done) rfl rfl (show (gm (.str p) (.str cU)).map _=_ by rw[yy,aa qH];rfl)) ?_ (bQ rfl);exact aU ⟨s1.loc,(L.tell (2530+ig nu un) at' []).o⟩ rfl (i9 (d:=10) (.val .none) rfl rfl (gQ (d:=9) (st1:=s1) (st2:=s1) (as:=[.val (.int (2530+ig nu un)),.val v,.val (.tup [])]) (mf:=some 1147) (.val (.obj 4)) rfl rfl (by done) (by done) (by induction nu using aad<;>induction un using aad<;>first | (injection rK;done) | done) rfl (kN 1147 (ls:=[.v (.int (2530+ig nu un)),.v v,.v (.tup [])]) rfl rfl (B7 _ _ _ _ _) rfl)) rfl) (bQ rfl)
  ·refine fin (18046+ig nu un) [.str p] (by unfold lI;rw[au q,aq qH]) (by unfold kg;rw[au q,aq qH]) ⟨true,?_,rfl⟩;refine dX (d:=11) (st1:=s1) true rfl rfl (dI (d:=11) (.val (.str p)) (.val (.str cU)) rfl rfl (by done) rfl (by done) rfl rfl (show (gm (.str p) (.str cU)).map _=_ by rw[yy,ao qH];rfl)) ?_ (bQ rfl);exact aU ⟨s1.loc,(L.tell (18046+ig nu un) at' [.str p]).o⟩ rfl (i9 (d:=10) (.val .none) rfl rfl (gQ (d:=9) (st1:=s1) (st2:=s1) (as:=[.val (.int (18046+ig nu un)),.val v,.val (.tup [.str p])]) (mf:=some 1147) (.val (.obj 4)) rfl rfl (by done) (by done) (by induction nu using aad<;>induction un using aad<;>first | (injection rK;done) | done) rfl (kN 1147 (ls:=[.v (.int (18046+ig nu un)),.v v,.v (.tup [.str p])]) rfl rfl (B7 _ _ _ _ _) rfl)) rfl) (bQ rfl)
theorem Pn{x:Int}(h:BB x):0<=x/\x<=1000000/\x≠0/\x≠1/\x≠13:=by have:=h.ne;lia
theorem ua{U:List (List Int)}{l:List Int}(h:nk U l)(hb:∀z∈l,BB z)(hU:U.length<=100000):0<=uid U l/\uid U l<=1000000/\uid U l≠0/\uid U l≠1/\uid U l≠13:=by
 induction l using aaa with
 | nil=>exact (by decide:0<=(2:Int)/\(2:Int)<=1000000/\(2:Int)≠0/\(2:Int)≠1/\(2:Int)≠13)
 | cons x l=>
  induction l using aaa with
  | nil=>exact Pn (hb x aE)
  | cons y q=>refine cg (bH.mp (h.resolve_left (by simp))) λt ht=>?_;rw[show uid U (x::y::q)=t by show (fO (gK U) _).getD _=t;rw[ht];rfl];exact qu (uy ht) λi g8 Z hi Ky Ah=>by clear h hb ht;lia
def kQ(l:List Int):List Int:=(fF l).filter λz=>decide (z∉[5,4,3])
def iu(l:List Int):List Int:=(fF l).filter λz=>decide (z∈[5,4,3])
theorem A4:∀(l:List Int),(fF l).length<=2*l.length:=by
 intro l;unfold fF;rw[<-cK (as:=l)];generalize l.reverse=r;induction r with
 | nil=>exact az _
 | cons x r ih=>rw[List.flatMap_cons,ay,aR];have:=F1 x;lia
def jF(v:MV)(t:Int):List (Str×LV):=[V "cx" (.obj 4),V "node" v,V "t" (.int t)]
theorem GD(t:Int)(c:List Int)(h:∀x∈c,t≠x):isIn (.int t) (.tup (c.map .int))=some false:=by rw[qT,ao λq=>h t q rfl]
theorem BO(x:Int)(ps:List Int):isIn (.int x) (iL ps)=some (decide (x∈ps)):=BY x ps
theorem F2{t:Int}{l:List Int}{v:MV}(hp:∀n cx,Runs (n+1) cx 336 [.v (.obj 0),.v (.int t)] L.o (.val (nums l)) L.o)(hb:∀z∈l,BB z)(hl:l.length<60)(ht:t≠0/\t≠1/\t≠13)(cx:Ctx) :
  j8 (rn (n+13) 15) ⟨(fnOf 612).scope,cx.ro,RB 612,false⟩ ((fnOf 612).body.take 7) ⟨jF v t,L.o⟩=some (.bN,⟨jF v t++[V "parts" (iL (fF l)),V "null" (.bool (decide (5∈fF l))),V "undef" (.bool (decide (4∈fF l)))],L.o⟩):=by
 let c1:Ctx:=⟨(fnOf 612).scope,cx.ro,RB 612,false⟩;let s:St:=⟨jF v t,L.o⟩;let s4:St:=⟨jF v t++[V "parts" (iL (fF l))],L.o⟩;let s5:St:=⟨jF v t++[V "parts" (iL (fF l)),V "null" (.bool (decide (5∈fF l)))],L.o⟩;let s6:St:=⟨jF v t++[V "parts" (iL (fF l)),V "null" (.bool (decide (5∈fF l))),V "undef" (.bool (decide (4∈fF l)))],L.o⟩;show Go (n+13) 15 c1 ((fnOf 612).body.take 7) s .bN s6;refine aU s rfl (by done) (dX (d:=13) (st1:=s) (st2:=s) false rfl rfl (dI (d:=13) (.val (.int t)) (.val (nums [0,13])) rfl rfl (by done) rfl (by done) rfl rfl (GD t [0,13] (by simp;lia))) (bQ rfl) ?_);refine aU s rfl (by done) (dX (d:=13) (st1:=s) (st2:=s) false rfl rfl (dI (d:=13) (.val (.int t)) (.val (.int 1)) rfl rfl (by done) rfl (by done) rfl rfl (show gm (.int t) (.int 1)=_ by rw[iJ,ao ht.2.1])) (bQ rfl) ?_);refine aU s4 rfl (fU (d:=14) (st1:=s) rfl (.val (iL (fF l))) (dO (d:=13) 600 (st1:=s) (as:=[.val (.obj 4),.val (.int t)]) rfl rfl rfl (by done) (by done) rfl rfl (Hg (n:=n+9) hp hb hl _) rfl) (by done)) ?_;refine aU s5 rfl (fU (d:=14) (st1:=s4) rfl (.val (.bool (decide (5∈fF l)))) (sj (d:=13) (.val (.int 5)) (.val (iL (fF l))) rfl rfl (by done) rfl (by done) rfl rfl (BO 5 (fF l))) (by done)) ?_;exact aU s6 rfl (fU (d:=14) (st1:=s5) rfl (.val (.bool (decide (4∈fF l)))) (sj (d:=13) (.val (.int 4)) (.val (iL (fF l))) rfl rfl (by done) rfl (by done) rfl rfl (BO 4 (fF l))) (by done)) (bQ rfl)
theorem Po{t:Int}{l:List Int}{v:MV}(hp:∀n cx,Runs (n+1) cx 336 [.v (.obj 0),.v (.int t)] L.o (.val (nums l)) L.o)(hb:∀z∈l,BB z)(hl:l.length<60)(ht:t≠0/\t≠1/\t≠13)(h5:5∉fF l)(h4:4∉fF l):rA (n+14) 612 [.v (.obj 4),.v v,.v (.int t)] L (.val (.int t)):=by intro cx;have h:=F2 (n:=n) (v:=v) hp hb hl ht cx;rw[ao h5,ao h4]at h;exact eX (loc:=jF v t) (loc':=jF v t++[V "parts" (iL (fF l)),V "null" (.bool false),V "undef" (.bool false)]) rfl rfl rfl (lR 7 h (g5 (by done)))
theorem NG{t:Int}{l:List Int}{d:Nat}{k fl at':Int}{a:MV}{kids:List MV}{p:Str}(hp:∀L':LS,L'.U=L.U->∀n cx,Runs (n+1) cx 336 [.v (.obj 0),.v (.int t)] L'.o (.val (nums l)) L'.o)(hb:∀z∈l,BB z)(hl:l.length<60)(ht:t≠0/\t≠1/\t≠13)(XW:0<=t/\t<=1000000)
  (Am:(decide (5∈fF l)||decide (4∈fF l))=true) (hP:PT d (bU k a kids fl at') p) (fG:d<=10) (hg:L.dg.length<1000) (hn:∀x∈L.dg,x.2.1≠at') (hU:L.U.length<=100000) :
  gB (n+14) 612 [.v (.obj 4),.v (bU k a kids fl at'),.v (.int t)] L (.val (.int (if kQ l≠[]/\uid L.U (iH l)≠2 then uid L.U (iH l) else 13))) {L.tell (lI k p (decide (5∈fF l)) (decide (4∈fF l))) at' (kg k t p) with U:=gr L.U (iH l)}:=by
 intro sc rb cp;let v:=bU k a kids fl at';let c1:Ctx:=⟨(fnOf 612).scope,false,RB 612,false⟩;have h:=F2 (n:=n) (v:=v) (hp L rfl) hb hl ht ⟨sc,false,rb,cp⟩;generalize rK:decide (5∈fF l)=nu at h Am |-;generalize Zc:decide (4∈fF l)=un at h Am |-;let lc:=jF v t++[V "parts" (iL (fF l)),V "null" (.bool nu),V "undef" (.bool un)];let L1:LS:=L.tell (lI k p nu un) at' (kg k t p);let L2:LS:=(LS.sU L1 (gr L.U (iH l)));let s6:St:=⟨lc,L.o⟩;let s8:St:=⟨lc,L1.o⟩;let s9:St:=⟨lc++[V "rest" (.int (uid L.U (iH l)))],L2.o⟩;let vq:St:=⟨lc++[V "rest" (.int (uid L.U (iH l))),V "left" (iL (kQ l))],L2.o⟩;refine eX (loc:=jF v t) (loc':=vq.loc) rfl rfl rfl (lR 7 h ?_);refine aU s6 rfl (by induction nu using aad<;>induction un using aad<;>first | (injection Am;done) | done) ?_;refine aU s8 rfl (i9 (d:=14) (.val .none) rfl rfl (dO (d:=13) 607 (st1:=s6) (as:=[.val (.obj 4),.val v,.val (.int t),.val (.bool nu),.val (.bool un)]) rfl rfl rfl (by done) (by done) rfl rfl (LX (n:=n+1) Am hP fG hg hn XW _ _ _) rfl) rfl) ?_;refine aU s9 rfl (fU (d:=14) (st1:=⟨lc,L2.o⟩) rfl (.val (.int (uid L.U (iH l)))) (dO (d:=13) 580 (st1:=s8) (as:=[.val (.obj 0),.val (.int t)]) rfl rfl rfl (by done) (by done) rfl rfl (yL (n:=n+1) (λz hz=>CJ (hb z hz)) (hp L1 rfl) hl hU) rfl) (by done)) ?_;have iM:(fF l).length<bE:=aF (A4 l) (by unfold bE;lia);have vj:(kQ l).length<bE:=aF (cV _ _) iM;refine aU vq rfl (fU (d:=14) (st1:=s9) rfl (.fresh (iL (kQ l))) (lT (d:=13) (vs:=(fF l).map .int) (ins:=false) (st1:=s9) rfl (by done) (by done) ?_ (by rw[aj];exact iM)) (by done)) ?_
 ·let ec:=sv (hd ((fnOf 612).body.drop 7).tail.tail.tail);have:=rR (n:=n+13) (d:=13) (cx:=⟨iO ec,(false||false),RB 612,true⟩) (ifs:=xl ec) (elt:=x1 ec) (x:=Str.ofString "part") (outer:=s9.loc.map eY) (σ:=L2.o)
   (λv=>match v with | .int z=>decide (z∉[5,4,3]) | _=>true) (λv=>v) ((fF l).map .int) (λw hw=>by
    refine bz (aN.mp hw) λz hz bZ=>?_;obtain rfl:=bZ;let s':St:=⟨V "part" (.int z)::s9.loc.map eY,L2.o⟩;refine ⟨s'.loc,?_,λZ=>⟨.val (.int z),s'.loc,by done,rfl⟩⟩;have:(rn (n+13) 13).t ⟨iO ec,(false||false),RB 612,true⟩ ((xl ec).headD default) s'=some (decide (z∉[5,4,3]),s'):=dI (d:=12) (.val (.int z)) (.val (nums [5,4,3])) rfl rfl (by done) rfl (by done) rfl rfl (show (isIn (.int z) (.tup ([5,4,3].map .int))).map _=_ by rw[qT];by_cases q:z∈[5,4,3]<;>simp[q]);show jM _ _ _=some (decide (z∉[5,4,3]),s');cases q:decide (z∉[5,4,3]) with
    | true=>rw[q]at this;exact lQ rfl this (all_nil rfl)
    | false=>rw[q]at this;exact nI rfl this)
  rw[yf (λz=>decide (z∉[5,4,3])) _ (λZ=>rfl),List.map_id']at this;exact this
 have hr:(rn (n+13) 12).t c1 ((xl (x1 (sv (hd ((fnOf 612).body.drop 7).tail.tail.tail.tail)))).tail.headD default) vq=some (decide (uid L.U (iH l)≠2),vq):=dI (d:=11) (.val (.int (uid L.U (iH l)))) (.val (.int 2)) rfl rfl (by done) rfl (by done) rfl rfl (show (gm (.int (uid L.U (iH l))) (.int 2)).map _=_ by rw[iJ];by_cases q:uid L.U (iH l)=2<;>simp[q]);have xT:(rn (n+13) 12).t c1 ((xl (x1 (sv (hd ((fnOf 612).body.drop 7).tail.tail.tail.tail)))).headD default) vq=some (decide (kQ l≠[]),vq):=v9 (d:=11) (.val (iL (kQ l))) rfl (by done) (x:=iL (kQ l)) rfl (show (if ((kQ l).map MV.int).length<bE then some (!((kQ l).map MV.int).isEmpty) else none)=_ by
  rw[aj,aq vj];cases kQ l<;>rfl)
 refine gc rfl (iC (d:=14) rfl (mX (d:=13) (decide (kQ l≠[]/\uid L.U (iH l)≠2)) rfl (uM (d:=12) rfl ?_) ?_))
 ·by_cases q1:kQ l≠[]
  ·rw[aa q1]at xT;by_cases q2:uid L.U (iH l)≠2
   ·rw[aa q2]at hr;rw[aa ⟨q1,q2⟩];exact lQ rfl xT (lQ rfl hr (all_nil rfl))
   ·rw[ao q2]at hr;rw[ao (λh=>q2 h.2)];exact lQ rfl xT (nI rfl hr)
  ·rw[ao q1]at xT;rw[ao (λh=>q1 h.1)];exact nI rfl xT
 ·by_cases q:kQ l≠[]/\uid L.U (iH l)≠2
  ·rw[aa q,aq q];done
  ·rw[ao q,au q];done
theorem GF{t:Int}{v:MV}(h:t=0\/t=13):rA (n+14) 612 [.v (.obj 4),.v v,.v (.int t)] L (.val (.int t)):=by
 intro cx;revert h;refine eS (λcF=>?_) (λcF=>?_)<;>obtain rfl:=cF
 ·exact lu (by done)
 ·exact lu (by done)
theorem NH{d:Nat}{k fl at':Int}{a:MV}{kids:List MV}{p:Str}(hP:PT d (bU k a kids fl at') p)(fG:d<=10)(hg:L.dg.length<1000)(hn:∀x∈L.dg,x.2.1≠at') :
  gB (n+14) 612 [.v (.obj 4),.v (bU k a kids fl at'),.v (.int 1)] L (.val (.int 13)) (L.tell (if p≠cU then 18046 else 2571) at' (if p≠cU then [.str p] else [])):=by
 intro sc rb cp;let v:=bU k a kids fl at';let c1:Ctx:=⟨(fnOf 612).scope,false,RB 612,false⟩;let s:St:=⟨jF v 1,L.o⟩;let s1:St:=⟨jF v 1++[V "path" (.str p)],L.o⟩;let s2:St:=⟨s1.loc,(L.tell (if p≠cU then 18046 else 2571) at' (if p≠cU then [.str p] else [])).o⟩;have tp:∀(b:Expr) (hb:b=.Compare (x1 b) [.NotEq] [x2 b] b.pos) (hs:jJ (x2 b)=false) (h1:(rn (n+13) 9).e c1 (x1 b) s1=some (.val (.str p),s1)) (h2:(rn (n+13) 9).e c1 (x2 b) s1=some (.val (.str cU),s1)),(rn (n+13) 10).t c1 b s1=some (decide (p≠cU),s1):=λb hb hs h1 h2=>by
  have hx:xc b=.NotEq:=by rw[hb];rfl
  refine dI (d:=9) (.val (.str p)) (.val (.str cU)) (by rw[hx];exact hb) hs h1 rfl h2 rfl rfl ?_;rw[hx];show (gm (.str p) (.str cU)).map _=_;rw[yy];by_cases q:p=cU<;>simp[q]
 refine eX (loc:=jF v 1) (loc':=s1.loc) rfl rfl rfl (lR 3 (st1:=s) (g5 (by done)) (nA (d:=13) (st1:=s) true rfl rfl (by done) ?_));refine aU s1 rfl (fU (d:=12) (st1:=s) rfl (.val (.str p)) (dO (d:=11) 588 (st1:=s) (as:=[.val v]) rfl rfl rfl (by done) (by done) rfl rfl (Hj (n:=n+2) hP fG) rfl) (by done)) ?_;refine aU s2 rfl (i9 (d:=12) (.val .none) rfl rfl (gQ (d:=11) (st1:=s1) (st2:=s1) (as:=[.val (.int (if p≠cU then 18046 else 2571)),.val v,.val (.tup (if p≠cU then [.str p] else []))]) (mf:=some 1147) (.val (.obj 4)) rfl rfl (by done) (by done)
  (gM (.val (.int (if p≠cU then 18046 else 2571))) (st1:=s1) rfl (mX (d:=10) (decide (p≠cU)) rfl (tp _ rfl rfl (by done) (by done)) ?_) rfl (gM (.val v) (st1:=s1) rfl (by done) rfl (ie (.val (.tup (if p≠cU then [.str p] else []))) rfl rfl (mX (d:=10) (decide (p≠cU)) rfl (tp _ rfl rfl (by done) (by done)) ?_) rfl)))
  rfl (kN 1147 (ls:=[.v (.int (if p≠cU then 18046 else 2571)),.v v,.v (.tup (if p≠cU then [.str p] else []))]) rfl rfl (GC (n:=n+9) hg hn _ _ _) rfl)) rfl) (g5 (by done))
 ·by_cases q:p≠cU
  ·rw[aa q,aq q];done
  ·rw[ao q,au q];done
 ·by_cases q:p≠cU
  ·rw[aa q,aq q];done
  ·rw[ao q,au q];done
theorem Ra{t k at':Int}{a:MV}{kids:List MV}:rA (n+14) 617 [.v (.obj 4),.v (bU k a kids 0 at'),.v (.int t)] L (.val (.int t)):=λcx=>lu (by done)
theorem Bq{t k at':Int}{a:MV}{kids:List MV}(h:t=0\/t=1\/t=13):rA (n+14) 617 [.v (.obj 4),.v (bU k a kids 1 at'),.v (.int t)] L (.val (.int t)):=by
 intro cx;rcases h with rfl | rfl | rfl
 ·exact lu (by done)
 ·exact lu (by done)
 ·exact lu (by done)
theorem F3{t k at':Int}{a:MV}{kids:List MV}{l:List Int}(hp:∀n cx,Runs (n+1) cx 336 [.v (.obj 0),.v (.int t)] L.o (.val (nums l)) L.o)(hb:∀z∈l,BB z)(hl:l.length<60)(ht:t≠0/\t≠1/\t≠13)(cx:Ctx) :
  j8 (rn (n+13) 15) ⟨(fnOf 617).scope,cx.ro,RB 617,false⟩ ((fnOf 617).body.take 4) ⟨jF (bU k a kids 1 at') t,L.o⟩=some (.bN,⟨jF (bU k a kids 1 at') t++[V "gone" (iL (iu l))],L.o⟩):=by
 let c1:Ctx:=⟨(fnOf 617).scope,cx.ro,RB 617,false⟩;let v:=bU k a kids 1 at';let s:St:=⟨jF v t,L.o⟩;let s3:St:=⟨jF v t++[V "gone" (iL (iu l))],L.o⟩;show Go (n+13) 15 c1 ((fnOf 617).body.take 4) s .bN s3;refine aU s rfl (by done) (aU s rfl (by done) (dX (d:=13) (st1:=s) (st2:=s) false rfl rfl (dI (d:=13) (.val (.int t)) (.val (nums [0,13,1])) rfl rfl (by done) rfl (by done) rfl rfl (GD t [0,13,1] (by simp;lia))) (bQ rfl) (aU s3 rfl ?_ (bQ rfl))));have iM:(fF l).length<bE:=aF (A4 l) (by unfold bE;lia);refine fU (d:=14) (st1:=s) rfl (.fresh (iL (iu l))) (lT (d:=13) (vs:=(fF l).map .int) (ins:=false) (st1:=s) rfl (vL (.val (iL (fF l))) rfl (dO (d:=12) 600 (st1:=s) (as:=[.val (.obj 4),.val (.int t)]) rfl rfl rfl (by done) (by done) rfl rfl (Hg (n:=n+9) hp hb hl _) rfl) rfl) (by done) ?_ (by rw[aj];exact iM)) (by done);let ec:=sv (hd ((fnOf 617).body.take 4).tail.tail.tail);have:=rR (n:=n+13) (d:=13) (cx:=⟨iO ec,(cx.ro||false),RB 617,true⟩) (ifs:=xl ec) (elt:=x1 ec) (x:=Str.ofString "part") (outer:=s.loc.map eY) (σ:=L.o)
  (λv=>match v with | .int z=>decide (z∈[5,4,3]) | _=>true) (λv=>v) ((fF l).map .int) (λw hw=>by
   refine bz (aN.mp hw) λz hz bZ=>?_;obtain rfl:=bZ;let s':St:=⟨V "part" (.int z)::s.loc.map eY,L.o⟩;refine ⟨s'.loc,?_,λZ=>⟨.val (.int z),s'.loc,by done,rfl⟩⟩;have:(rn (n+13) 13).t ⟨iO ec,(cx.ro||false),RB 617,true⟩ ((xl ec).headD default) s'=some (decide (z∈[5,4,3]),s'):=dI (d:=12) (.val (.int z)) (.val (nums [5,4,3])) rfl rfl (by done) rfl (by done) rfl rfl (qT z [5,4,3]);show jM _ _ _=some (decide (z∈[5,4,3]),s');cases q:decide (z∈[5,4,3]) with
   | true=>rw[q]at this;exact lQ rfl this (all_nil rfl)
   | false=>rw[q]at this;exact nI rfl this)
 rw[yf (λz=>decide (z∈[5,4,3])) _ (λZ=>rfl),List.map_id']at this;exact this
theorem Pp{t k at':Int}{a:MV}{kids:List MV}{l:List Int}(hp:∀n cx,Runs (n+1) cx 336 [.v (.obj 0),.v (.int t)] L.o (.val (nums l)) L.o)(hb:∀z∈l,BB z)(hl:l.length<60)(ht:t≠0/\t≠1/\t≠13)(hg:iu l=[]):rA (n+14) 617 [.v (.obj 4),.v (bU k a kids 1 at'),.v (.int t)] L (.val (.int t)):=by intro cx;have h:=F3 (n:=n) (k:=k) (at':=at') (a:=a) (kids:=kids) hp hb hl ht cx;rw[hg]at h;exact eX (loc:=jF (bU k a kids 1 at') t) (loc':=jF (bU k a kids 1 at') t++[V "gone" (iL [])]) rfl rfl rfl (lR 4 h (g5 (by done)))
noncomputable def jQ(ch:List Int):List Int:=ch.set (ch.length-1) 1
theorem NI{t k at':Int}{a:MV}{kids:List MV}{l:List Int}(hp:∀L':LS,L'.U=L.U->∀n cx,Runs (n+1) cx 336 [.v (.obj 0),.v (.int t)] L'.o (.val (nums l)) L'.o)(hb:∀z∈l,BB z)(hl:l.length<60)(ht:t≠0/\t≠1/\t≠13)(hg:iu l≠[])(EB:L.nt.length<1000)(xU:L.ch.length<1000)(hU:L.U.length<=100000) :
  gB (n+14) 617 [.v (.obj 4),.v (bU k a kids 1 at'),.v (.int t)] L (.val (.int (uid L.U (iH l)))) (LS.sU (LS.rI (if 3∈iu l then L.note 18 at' else L) (jQ L.ch)) (gr L.U (iH l))):=by
 intro sc rb cp;let v:=bU k a kids 1 at';let c1:Ctx:=⟨(fnOf 617).scope,false,RB 617,false⟩;have h:=F3 (n:=n) (k:=k) (at':=at') (a:=a) (kids:=kids) (hp L rfl) hb hl ht ⟨sc,false,rb,cp⟩;let lc:=jF v t++[V "gone" (iL (iu l))];let L1:LS:=if 3∈iu l then L.note 18 at' else L
 have nY:L1.U=L.U/\L1.ch=L.ch:=by show (if 3∈iu l then L.note 18 at' else L).U=_/\_;show _/\(if 3∈iu l then L.note 18 at' else L).ch=_;split<;>exact ⟨rfl,rfl⟩
 let L2:LS:=(LS.rI L1 (jQ L.ch));let s:St:=⟨lc,L.o⟩;let s1:St:=⟨lc,L1.o⟩;let s2:St:=⟨lc,L2.o⟩;have vj:(iu l).length<bE:=aF (cV _ _) (aF (A4 l) (by unfold bE;lia));refine eX (loc:=jF v t) (loc':=lc) rfl rfl rfl (lR 4 h ?_);refine dX (d:=13) (st1:=s) (st2:=s) false rfl rfl (zj (d:=13) rfl (v9 (d:=12) (.val (iL (iu l))) rfl (by done) (x:=iL (iu l)) rfl (show (if ((iu l).map MV.int).length<bE then some (!((iu l).map MV.int).isEmpty) else none)=some true by
  rw[aj,aq vj];cases hq:iu l with
  | nil=>exact absurd hq hg
  | cons=>rfl))) (bQ rfl) ?_
 refine dX (d:=13) (st1:=s) (st2:=s1) (decide (3∈iu l)) rfl rfl (dI (d:=13) (.val (.int 3)) (.val (iL (iu l))) rfl rfl (by done) rfl (by done) rfl rfl (BO 3 (iu l))) ?_ ?_
 ·by_cases q:3∈iu l
  ·rw[aa q];have e:s1=⟨lc,(L.note 18 at').o⟩:=by show St.mk lc (LS.o (if 3∈iu l then L.note 18 at' else L))=_;rw[aq q]
   rw[e];exact aU ⟨lc,(L.note 18 at').o⟩ rfl (i9 (d:=12) (.val .none) rfl rfl (gQ (d:=11) (st1:=s) (st2:=s) (as:=[.val (.int 18),.val v]) (mf:=some 1168) (.val (.obj 4)) rfl rfl (by done) (by done) (by done) rfl (kN 1168 (ls:=[.v (.int 18),.v v]) rfl rfl (Hh (n:=n+11) EB _ _ _) rfl)) rfl) (bQ rfl)
  ·rw[ao q];have e:s1=s:=by show St.mk lc (LS.o (if 3∈iu l then L.note 18 at' else L))=_;rw[au q]
   rw[e];exact bQ rfl
 have JW:L1.ch.length<bE:=by rw[nY.2];exact aZ xU (by decide)
 have XX:(rn (n+13) 14).t c1 (sv (hd ((fnOf 617).body.drop 4).tail.tail)) s1=some (!L.ch.isEmpty,s1):=Sn (d:=13) (.cont (.slot 4 (Str.ofString "chains"))) rfl (by done) (x:=iL L1.ch) (by done) (show (if (L1.ch.map MV.int).length<bE then some (!(L1.ch.map MV.int).isEmpty) else none)=_ by
  rw[aj,aq JW,nY.2];induction L.ch using aaa<;>rfl)
 refine dX (d:=13) (st1:=s1) (st2:=s2) (!L.ch.isEmpty) rfl rfl XX ?_ (gc rfl (iC (d:=14) rfl (dO (d:=13) 580 (st1:=s2) (as:=[.val (.obj 0),.val (.int t)]) rfl rfl rfl (by done) (by done) rfl rfl ?_ rfl)))
 ·cases hq:L.ch.isEmpty with
  | true=>
   have xw:L.ch=[]:=cz.mp hq;have e:s2=s1:=by
    show St.mk lc (LS.o (LS.rI L1 (jQ L.ch)))=St.mk lc L1.o;have:jQ L.ch=L1.ch:=by rw[nY.2,xw];rfl
    rw[this]
   rw[e];exact bQ rfl
  | false=>
   refine aU s2 rfl (nJ (st1:=s1) (d:=12) (.val (.int 1)) rfl (by done) (BK (st1:=s1) (st2:=s1) (.slot 4 (Str.ofString "chains")) (L1.ch.map .int) (by done) rfl (by done) (by done) (by rw[nY.2];cases hx:L.ch with | nil=>rw[hx]at hq;cases (hq) | cons=>rfl) (by rw[aj];exact JW) rfl ?_)) (bQ rfl);have:(L1.ch.map MV.int).set ((L1.ch.map MV.int).length-1) (.int 1)=(jQ L.ch).map .int:=by rw[nY.2,aj];unfold jQ;rw[List.map_set]
   rw[this]
   done
 ·have key:Runs (n+13) c1 580 [.v (.obj 0),.v (.int t)] L2.o (.val (.int (uid L2.U (iH l)))) (LS.o (LS.sU L2 (gr L2.U (iH l)))):=yL (n:=n+1) (λz hz=>CJ (hb z hz)) (hp L2 nY.1) hl (by show L1.U.length<=100000;rw[nY.1];exact hU);have e:L2.U=L.U:=nY.1;rw[e]at key;exact key
noncomputable def oG(ty:List (MV×MV))(m:Int):Prop:=∀e∈ty,∃k:Int,e.1=.int k/\k<=m
theorem H7{ty:List (MV×MV)}{m:Int}(h:oG ty m)(x:Int):gE ty (.int x)=true:=by
 induction ty using aaa with
 | nil=>rfl
 | cons e r=>refine bz (h e aE) λk hk Z=>?_;show (true&&Nat.beq (keyKind e.1) 1)=true;rw[hk];rfl
theorem Sw{ty:List (MV×MV)}{m x:Int}:oG ty m->m<x->eK ty (.int x)=none:=by
 induction ty with
 | nil=>exact λZ Z=>rfl
 | cons p r ih=>intro h hx;refine bz (h p aE) λk hk hm=>?_;show (if MV.beq p.1 (.int x)=true then some p.2 else eK r (.int x))=none;rw[hk,qP,ao (by lia),au (by decide)];exact ih (λe he=>h e (aO _ he)) hx
theorem NJ(x:Int)(v:MV)(ty:List (MV×MV)):eK (iy ty (.int x) v) (.int x)=some v:=by
 induction ty with
 | nil=>show (if MV.beq (.int x) (.int x)=true then some v else none)=_;rw[qP,aa rfl];rfl
 | cons p r ih=>
  show eK (if MV.beq p.1 (.int x)=true then (p.1,v)::r else (p.1,p.2)::iy r (.int x) v) (.int x)=_;by_cases q:MV.beq p.1 (.int x)=true
  ·rw[aq q];exact aq q
  ·rw[au q];exact (au q).trans ih
theorem ty_set{m m' x:Int}{v:MV}{ty:List (MV×MV)}:oG ty m->m<=m'->x<=m'->oG (iy ty (.int x) v) m':=by
 induction ty with
 | nil=>exact λZ Z hx e he=>by rw[aA.mp he];exact ⟨x,rfl,hx⟩
 | cons p r ih=>
  intro h hm hx;have up:∀(e:MV×MV),(∃k:Int,e.1=.int k/\k<=m)->∃k:Int,e.1=.int k/\k<=m':=λe q=>bz q λk a b=>⟨k,a,Int.le_trans b hm⟩;show oG (if MV.beq p.1 (.int x)=true then (p.1,v)::r else (p.1,p.2)::iy r (.int x) v) m';have h0:=up _ (h p aE);have hr:oG r m:=λe he=>h e (aO _ he);by_cases q:MV.beq p.1 (.int x)=true
  ·rw[aq q];exact λe he=>(aC.mp he).elim (λz=>z▸h0) λz=>up e (hr e z)
  ·rw[au q];exact λe he=>(aC.mp he).elim (λz=>z▸h0) (ih hr hm hx e)
theorem H8(x:Int)(v:MV)(ty:List (MV×MV)):(iy ty (.int x) v).length<=ty.length+1:=by
 induction ty with
 | nil=>exact az _
 | cons p r ih=>
  show (if MV.beq p.1 (.int x)=true then (p.1,v)::r else (p.1,p.2)::iy r (.int x) v).length<=_;by_cases q:MV.beq p.1 (.int x)=true
  ·rw[aq q];exact bG _
  ·rw[au q];exact cR ih
theorem Pq{k fl at' t w:Int}{a:MV}{kids:List MV}(hk:∀x,gE L.ty (.int x)=true)(hg:eK L.ty (.int at')=some (.int t)):rA (n+2) 1091 [.v (.obj 4),.v (bU k a kids fl at'),.v (.int w)] L (.val (.int t)):=by
 intro cx;let v:=bU k a kids fl at';let s:St:=⟨[V "self" (.obj 4),V "node" v,V "want" (.int w)],L.o⟩;let s1:St:=⟨[V "cx" (.obj 4),V "node" v,V "want" (.int w)],L.o⟩;have hi:isIn (.int at') (.bO L.ty)=some true:=by show (if gE L.ty (.int at')=true then some (eK L.ty (.int at')).isSome else none)=_;rw[hk,hg];rfl
 refine eX (loc:=s.loc) (loc':=s.loc) rfl rfl rfl (gc rfl (iC (d:=14) rfl (dO (d:=13) 1259 (st1:=s) (as:=[.val (.obj 4),.val v,.val (.int w)]) rfl rfl rfl (by done) (by done) rfl rfl ?_ rfl)));refine eX (n:=n) (loc:=s1.loc) (loc':=s1.loc) rfl rfl rfl (nA (d:=13) (st1:=s1) true rfl rfl (dI (d:=13) (.val (.int at')) (.cont (.slot 4 (Str.ofString "types"))) rfl rfl (by done) rfl (by done) rfl (y:=.bO L.ty) (by done) hi) ?_);exact gc rfl (iC (d:=12) rfl (Sl (d:=11) (st1:=s1) (.cont (.slot 4 (Str.ofString "types"))) (.val (.int at')) rfl (by done) rfl (by done) (show Option.map _ (if gE L.ty (.int at')=true then eK L.ty (.int at') else none)=_ by rw[hk,hg];rfl)))
structure CL(L:LS)(t s:Int)(U':List (List Int)):Prop where
 run:((t=0\/t=13)/\s=t/\U'=L.U)\/(t≠0/\t≠13/\∀L1:LS,L1.U=L.U->∀sc rb cp,Runs (n+13) ⟨sc,false,rb,cp⟩ 580 [.v (.obj 0),.v (.int t)] L1.o (.val (.int s)) (LS.o (LS.sU L1 U')))
def jR(k:Int)(bg:List Int)(x:Int):List Int:=if k=8 then kW bg x else bg
theorem NK{k fl iI at2 t s w:Int}{a a2:MV}{kids:List MV}{U':List (List Int)}(hk:∀x,gE L.ty (.int x)=true)(hg:eK L.ty (.int iI)=some (.int t))(hb:CL (n:=n) L t s U')(EC:L.bg.length<1000)(rM:L.nt.length<1000) :
  gB (n+14) 1297 [.v (.obj 12),.v (.obj 4),.v (bU 32 a2 [bU k a kids fl iI] 0 at2),.v (.int w)] L (.val (.int s)) (LS.sU (LS.nj (if s≠t then L.note 7 at2 else L) (jR k L.bg iI)) U'):=by
 intro sc rb cp;let v1:=bU k a kids fl iI;let v:=bU 32 a2 [v1] 0 at2;let c1:Ctx:=⟨(fnOf 1297).scope,false,RB 1297,false⟩;let lc:List (Str×LV):=[V "self" (.obj 12),V "cx" (.obj 4),V "node" v,V "want" (.int w)];let L1:LS:=(LS.nj L (jR k L.bg iI));let s0:St:=⟨lc,L.o⟩;let s1:St:=⟨lc,L1.o⟩;let s2:St:=⟨lc++[V "t" (.int t)],L1.o⟩;have e0:(rn (n+13) 15).s c1 (hd (fnOf 1297).body) s0=some (.bN,s1):=by
  refine iE (d:=13) (st1:=s0) (decide (k=8)) rfl (dI (d:=13) (.val (.int k)) (.val (.int 8)) rfl rfl (by done) rfl (by done) rfl rfl (iJ k 8)) ?_;by_cases q:k=8
  ·rw[aa q];have e:s1=⟨lc,LS.o (LS.nj L (kW L.bg iI))⟩:=by show St.mk lc (LS.o (LS.nj L (if k=8 then kW L.bg iI else L.bg)))=_;rw[aq q]
   rw[e];refine aU _ rfl (nJ (st1:=s0) (d:=12) (.val (.int 1)) rfl (by done) (qb (st1:=s0) (st2:=s0) (.slot 4 (Str.ofString "banged")) (.int iI) (L.bg.map one) (by done) rfl (by done) (by done) (yo _ _) (by rw[aj];exact aZ EC (by decide)) rfl ?_)) (bQ rfl);rw[Bo]
   done
  ·rw[ao q];have e:s1=s0:=by show St.mk lc (LS.o (LS.nj L (if k=8 then kW L.bg iI else L.bg)))=_;rw[au q]
   rw[e];exact bQ rfl
 have e1:(rn (n+13) 15).s c1 (hd (fnOf 1297).body.tail) s1=some (.bN,s2):=by refine fU (d:=14) (st1:=s1) rfl (.val (.int t)) (gQ (d:=13) (st1:=s1) (st2:=s1) (as:=[.val (.int t)]) (mf:=some 638) (.val (.obj 1)) rfl rfl (by done) (by done) (ie (.val (.int t)) rfl rfl (gQ (d:=12) (st1:=s1) (st2:=s1) (as:=[.val v1,.val (.int w)]) (mf:=some 1091) (.val (.obj 4)) rfl rfl (by done) (by done) (by done) rfl (kN 1091 (ls:=[.v v1,.v (.int w)]) rfl rfl (Pq (n:=n+11) (L:=L1) hk hg _) rfl)) rfl) rfl (kN 638 (ls:=[.v (.int t)]) (σ':=L1.o) rfl rfl (lu (by done)) rfl)) (by done)
 have e2:∀b,decide (t∈[0,13])=b->(rn (n+13) 14).t c1 (sv (hd (fnOf 1297).body.tail.tail)) s2=some (b,s2):=λb hb=>dI (d:=13) (.val (.int t)) (.val (nums [0,13])) rfl rfl (by done) rfl (by done) rfl rfl (show isIn (.int t) (.tup ([0,13].map .int))=_ by rw[qT,hb]);rcases hb.run with ⟨ht,rfl,rfl⟩ | ⟨h0,Ah,hr⟩
 ·rw[au (λh=>h rfl)];exact eX (loc:=lc) (loc':=s2.loc) rfl rfl rfl (aU s1 rfl e0 (aU s2 rfl e1 (nA (d:=13) (st1:=s2) true rfl rfl (e2 true (aa (by (revert ht;refine eS (λcF=>?_) (λcF=>?_)<;>obtain rfl:=cF)<;>decide))) (g5 (by done)))))
 ·let L2:LS:=(LS.sU L1 U');let s3:St:=⟨lc++[V "t" (.int t),V "solid" (.int s)],L2.o⟩;have z3:=e2 false (ao (by simp[h0,Ah]));have e3:(rn (n+13) 15).s c1 (hd (fnOf 1297).body.tail.tail.tail) s2=some (.bN,s3):=fU (d:=14) (st1:=⟨s2.loc,L2.o⟩) rfl (.val (.int s)) (dO (d:=13) 580 (st1:=s2) (as:=[.val (.obj 0),.val (.int t)]) rfl rfl rfl (by done) (by done) rfl rfl (hr L1 rfl _ _ _) rfl) (by done);have e4:(rn (n+13) 14).t c1 (sv (hd (fnOf 1297).body.tail.tail.tail.tail)) s3=some (decide (s≠t),s3):=dI (d:=13) (.val (.int s)) (.val (.int t)) rfl rfl (by done) rfl (by done) rfl rfl (show (gm (.int s) (.int t)).map _=_ by rw[iJ];by_cases q:s=t<;>simp[q]);by_cases q:s≠t
  ·rw[aq q];rw[aa q]at e4;let s4:St:=⟨s3.loc,(L2.note 7 at2).o⟩;refine eX (loc:=lc) (loc':=s4.loc) rfl rfl rfl (aU s1 rfl e0 (aU s2 rfl e1 (dX (d:=13) (st1:=s2) (st2:=s2) false rfl rfl z3 (bQ rfl) (aU s3 rfl e3 (dX (d:=13) (st1:=s3) (st2:=s4) true rfl rfl e4 ?_ (g5 (by done)))))));exact aU s4 rfl (i9 (d:=12) (.val .none) rfl rfl (gQ (d:=11) (st1:=s3) (st2:=s3) (as:=[.val (.int 7),.val v]) (mf:=some 1168) (.val (.obj 4)) rfl rfl (by done) (by done) (by done) rfl (kN 1168 (ls:=[.v (.int 7),.v v]) rfl rfl (Hh (n:=n+11) (L:=L2) rM _ _ _) rfl)) rfl) (bQ rfl)
  ·rw[au q];rw[ao q]at e4;exact eX (loc:=lc) (loc':=s3.loc) rfl rfl rfl (aU s1 rfl e0 (aU s2 rfl e1 (dX (d:=13) (st1:=s2) (st2:=s2) false rfl rfl z3 (bQ rfl) (aU s3 rfl e3 (dX (d:=13) (st1:=s3) (st2:=s3) false rfl rfl e4 (bQ rfl) (g5 (by done)))))))
theorem Rb{k fl at' t:Int}{a:MV}{kids:List MV}(hk:∀x,gE L.ty (.int x)=true)(h0:at'≠0)(hl:L.ty.length<1000)(ED:L.tr.length<1000):gB (n+1) 1175 [.v (.obj 4),.v (bU k a kids fl at'),.v (.int t)] L (.val .none) (LS.str (LS.xN L (iy L.ty (.int at') (.int t))) (L.tr++[.tup [.int 0,.int at']])):=by intro sc rb cp;let v:=bU k a kids fl at';let lc:List (Str×LV):=[V "self" (.obj 4),V "node" v,V "t" (.int t)];let L1:LS:=(LS.xN L (iy L.ty (.int at') (.int t)));let L2:LS:=(LS.str L1 (L.tr++[.tup [.int 0,.int at']]));let s:St:=⟨lc,L.o⟩;let s1:St:=⟨lc,L1.o⟩;let s2:St:=⟨lc,L2.o⟩;refine qO (loc:=lc) (loc':=lc) rfl rfl rfl (dX (d:=13) (st1:=s) (st2:=s2) true rfl rfl (dI (d:=13) (.val (.int at')) (.val (.int 0)) rfl rfl (by done) rfl (by done) rfl rfl (show (gm (.int at') (.int 0)).map _=_ by rw[iJ,ao h0];rfl)) ?_ (bQ rfl));refine aU s1 rfl (nJ (st1:=s) (d:=12) (.val (.int t)) rfl (by done) (qb (st1:=s) (st2:=s) (.slot 4 (Str.ofString "types")) (.int at') L.ty (by done) rfl (by done) (by done) (hk _) (aZ hl (by decide)) rfl (by done))) ?_;exact aU s2 rfl (i9 (d:=12) (.val .none) rfl rfl (gQ (d:=11) (st1:=s1) (st2:=s1) (as:=[.val (.tup [.int 0,.int at'])]) (mf:=none) (.cont (.slot 4 (Str.ofString "trail"))) rfl rfl (by done) rfl (by done) rfl (lE rfl (o7 (.tup [.int 0,.int at']) (.slot 4 (Str.ofString "trail")) L.tr (by done) (aZ ED (by decide)) rfl (by done)))) rfl) (bQ rfl)
def LS.B8(L:LS)(k iI at2 t s:Int)(U':List (List Int)):LS:=(LS.str (LS.xN (LS.sU (LS.nj (if s≠t then L.note 7 at2 else L) (jR k L.bg iI)) U') (iy L.ty (.int at2) (.int s))) (L.tr++[.tup [.int 0,.int at2]]))
theorem NL{k fl iI at2 t s w:Int}{a a2:MV}{kids:List MV}{U':List (List Int)}{m:Int}(hT:oG L.ty m)(hm:m<at2)(h2:at2≠0)(hg:eK L.ty (.int iI)=some (.int t))(hb:CL (n:=n) L t s U')(EC:L.bg.length<1000)(rM:L.nt.length<1000)(hl:L.ty.length<1000)(ED:L.tr.length<1000)(XY:L.dp=0) :
  gB (n+16) 1091 [.v (.obj 4),.v (bU 32 a2 [bU k a kids fl iI] 0 at2),.v (.int w)] L (.val (.int s)) (L.B8 k iI at2 t s U'):=by
 intro sc rb cp;rcases L with ⟨U,dg,nt,ty,ch,tr,bg,dp,nums,cI,bD,mem,told,gb,jV,nT⟩
 cases (XY);let L:LS:=⟨U,dg,nt,ty,ch,tr,bg,0,nums,cI,bD,mem,told,gb,jV,nT⟩;have hk:=H7 hT;let v1:=bU k a kids fl iI;let v:=bU 32 a2 [v1] 0 at2;let c0:Ctx:=⟨(fnOf 1091).scope,false,RB 1091,false⟩;let c1:Ctx:=⟨(fnOf 1259).scope,false,RB 1259,false⟩;let s0:St:=⟨[V "self" (.obj 4),V "node" v,V "want" (.int w)],L.o⟩;let lc:List (Str×LV):=[V "cx" (.obj 4),V "node" v,V "want" (.int w)];let La:LS:=(LS.XC L 1);let Lb:LS:=(LS.sU (LS.nj (if s≠t then La.note 7 at2 else La) (jR k L.bg iI)) U');let Lc:LS:=(LS.sU (LS.nj (if s≠t then L.note 7 at2 else L) (jR k L.bg iI)) U');let Ld:LS:=L.B8 k iI at2 t s U';let s1:St:=⟨lc,L.o⟩;let s3:St:=⟨lc,La.o⟩;let s4:St:=⟨lc++[V "t" (.int s)],Lb.o⟩;let s5:St:=⟨lc++[V "t" (.int s)],Lc.o⟩;let s6:St:=⟨lc++[V "t" (.int s)],Ld.o⟩;have xV:Lb.ty=L.ty/\Lb.tr=L.tr/\Lc.ty=L.ty/\Lc.tr=L.tr:=by
  by_cases q:s≠t
  ·have eb:Lb={La.note 7 at2 with bg:=jR k L.bg iI,U:=U'}:=by show LS.mk ..=_;rw[aq q]
   have ec:Lc={L.note 7 at2 with bg:=jR k L.bg iI,U:=U'}:=by show LS.mk ..=_;rw[aq q]
   rw[eb,ec];exact ⟨rfl,rfl,rfl,rfl⟩
  ·have eb:Lb=(LS.sU (LS.nj La (jR k L.bg iI)) U'):=by show LS.mk ..=_;rw[au q]
   have ec:Lc=(LS.sU (LS.nj L (jR k L.bg iI)) U'):=by show LS.mk ..=_;rw[au q]
   rw[eb,ec];exact ⟨rfl,rfl,rfl,rfl⟩
 refine eX (loc:=s0.loc) (loc':=s0.loc) rfl rfl rfl (gc rfl (iC (d:=14) rfl (dO (d:=13) 1259 (st1:=s0) (as:=[.val (.obj 4),.val v,.val (.int w)]) rfl rfl rfl (by done) (by done) rfl rfl ?_ rfl)));refine eX (n:=n+14) (loc:=lc) (loc':=s6.loc) rfl rfl rfl ?_;refine dX (d:=13) (st1:=s1) (st2:=s1) false rfl rfl (dI (d:=13) (.val (.int at2)) (.cont (.slot 4 (Str.ofString "types"))) rfl rfl (by done) rfl (by done) rfl (y:=.bO L.ty) (by done) ?_) (bQ rfl) ?_
 ·show (if gE L.ty (.int at2)=true then some (eK L.ty (.int at2)).isSome else none)=_;rw[hk,Sw hT hm];rfl
 refine lR 3 (st1:=s3) (g5 (by done)) ?_;refine aU s5 rfl (TM (d:=13) (st1:=s4) rfl (aU s4 rfl (fU (d:=12) (st1:=⟨lc,Lb.o⟩) rfl (.val (.int s)) (gQ (d:=11) (st1:=s3) (st2:=s3) (as:=[.val (.obj 4),.val v,.val (.int w)]) (mf:=some 1297) (.val (.obj 12)) rfl rfl (by done) (by done) (by done) rfl (kN 1297 (ls:=[.v (.obj 4),.v v,.v (.int w)]) rfl rfl (NK (n:=n) (L:=La) hk hg ⟨hb.run⟩ EC rM _ _ _) rfl)) (by done)) (bQ rfl)) ?_) ?_
 ·by_cases q:s≠t
  ·have eb:Lb={La.note 7 at2 with bg:=jR k L.bg iI,U:=U'}:=by show LS.mk ..=_;rw[aq q]
   have ec:Lc={L.note 7 at2 with bg:=jR k L.bg iI,U:=U'}:=by show LS.mk ..=_;rw[aq q]
   show Go _ _ _ _ ⟨_,Lb.o⟩ _ ⟨_,Lc.o⟩;rw[eb,ec];exact g5 (by done)
  ·have eb:Lb=(LS.sU (LS.nj La (jR k L.bg iI)) U'):=by show LS.mk ..=_;rw[au q]
   have ec:Lc=(LS.sU (LS.nj L (jR k L.bg iI)) U'):=by show LS.mk ..=_;rw[au q]
   show Go _ _ _ _ ⟨_,Lb.o⟩ _ ⟨_,Lc.o⟩;rw[eb,ec];exact g5 (by done)
 have om:=Rb (n:=n+13) (L:=Lc) (k:=32) (fl:=0) (at':=at2) (t:=s) (a:=a2) (kids:=[v1]) (by rw[xV.2.2.1];exact hk) h2 (by rw[xV.2.2.1];exact hl) (by rw[xV.2.2.2];exact ED);rw[xV.2.2.1,xV.2.2.2]at om;refine aU s6 rfl (i9 (d:=14) (.val .none) rfl rfl (gQ (d:=13) (st1:=s5) (st2:=s5) (as:=[.val v,.val (.int s)]) (mf:=some 1175) (.val (.obj 4)) rfl rfl (by done) (by done) (by done) rfl (kN 1175 (ls:=[.v v,.v (.int s)]) rfl rfl (om _ _ _) rfl)) rfl) (g5 (by done))
theorem yT(p:Int->Bool)(h:atoms.all p=true){a:Int}(ha:At a):p a=true:=aG.mp h a (by cases (ha)<;>decide)
theorem sq{k:List Int}(h:iP k){a:Int}(ha:a∈k):At a/\a<=18:=⟨at_of (h.mF a ha).1 (by have:=(h.mF a ha).2;lia),(h.mF a ha).2⟩
theorem o4{k:List Int}{z:Int}:z∈cZ k↔∃a∈k,gT a=z:=by unfold cZ;rw[mK,aN]
theorem Pr{l:List Int}{z:Int}:z∈fF l↔∃q∈l,z∈lH q:=by unfold fF;rw[List.mem_flatMap];simp only[List.mem_reverse]
theorem AV{k:List Int}{z:Int}:z∈fF (cZ k)↔∃a∈k,z∈lH (gT a):=by
 rw[Pr];constructor
 ·rintro ⟨q,hq,hz⟩;refine bz (o4.mp hq) λa ha bZ=>?_;obtain rfl:=bZ;exact ⟨a,ha,hz⟩
 ·rintro ⟨a,ha,hz⟩;exact ⟨_,o4.mpr ⟨a,ha,rfl⟩,hz⟩
theorem vO{k:List Int}{c:Nat}:c∈bC k↔∃a∈k,c∈kq a:=by unfold bC;rw[List.mem_flatMap]
theorem sees{k:List Int}(hk:iP k)(z:Int)(c:Nat)(h:atoms.all (λa=>decide (18<a)||(decide (z∈lH (gT a))==decide (c∈kq a)))=true):z∈fF (cZ k)↔c∈bC k:=by
 rw[AV,vO];have key:∀a∈k,(z∈lH (gT a)↔c∈kq a):=λa ha=>by
  refine cu (sq hk ha) λh1 h2=>?_;have:=yT _ h h1;rw[ao (by lia),dK,bK]at this;constructor
  ·intro q;rw[aa q]at this;exact ai this.symm
  ·intro q;rw[aa q]at this;exact ai this
 constructor
 ·rintro ⟨a,ha,q⟩;exact ⟨a,ha,(key a ha).mp q⟩
 ·rintro ⟨a,ha,q⟩;exact ⟨a,ha,(key a ha).mpr q⟩
theorem yU{k:List Int}(hk:iP k):4∈fF (cZ k)↔85∈bC k:=sees hk 4 85 (by decide +kernel)
theorem yV{k:List Int}(hk:iP k):5∈fF (cZ k)↔78∈bC k:=sees hk 5 78 (by decide +kernel)
theorem H9{k:List Int}(hk:iP k):3∈fF (cZ k)↔86∈bC k:=sees hk 3 86 (by decide +kernel)
theorem BP{k:List Int}(h:j6 k):iP k:=⟨h.1,λa ha=>⟨(h.2 a ha).1,by have:=(h.2 a ha).2;lia⟩⟩
noncomputable def Hi(k:List Int):Prop:=iP k/\∀a∈k,a∈[3,4,5,6,8,13,14,15,16,17,18]
theorem Pu{k:List Int}(hk:j6 k):kQ (cZ k)≠[]↔∃c∈bC k,c∉[78,85,86]:=by
 have hr:=BP hk;have key:∀a∈k,((∃z∈lH (gT a),z∉[5,4,3])↔∃c∈kq a,c∉[78,85,86]):=λa ha=>by
  have h1:=(sq hr ha).1;have h2:=(hk.2 a ha).2;have h:=yT (λa=>decide (13<a)||((lH (gT a)).any (λz=>decide (z∉[5,4,3]))==(kq a).any λc=>decide (c∉[78,85,86]))) (by decide +kernel) h1;rw[ao (by lia),dK,bK]at h;have e1:(∃z∈lH (gT a),z∉[5,4,3])↔(lH (gT a)).any (λz=>decide (z∉[5,4,3]))=true:=by rw[cE];simp only[decide_eq_true_eq]
  have e2:(∃c∈kq a,c∉[78,85,86])↔(kq a).any (λc=>decide (c∉[78,85,86]))=true:=by rw[cE];simp only[decide_eq_true_eq]
  rw[e1,e2,h]
 have hl:kQ (cZ k)≠[]↔∃z∈fF (cZ k),z∉[5,4,3]:=by
  unfold kQ;constructor
  ·intro h;refine cg (List.exists_mem_of_ne_nil _ h) λz hz=>?_;rw[eu,aK]at hz;exact ⟨z,hz⟩
  ·rintro ⟨z,h1,h2⟩ h;have:z∈(fF (cZ k)).filter λz=>decide (z∉[5,4,3]):=eu.mpr ⟨h1,aa h2⟩;rw[h]at this;exact absurd this aX
 rw[hl];constructor
 ·rintro ⟨z,hz,q⟩;refine bz (AV.mp hz) λa ha hz=>?_;refine bz ((key a ha).mp ⟨z,hz,q⟩) λc hc r=>?_;exact ⟨c,vO.mpr ⟨a,ha,hc⟩,r⟩
 ·rintro ⟨c,hc,q⟩;refine bz (vO.mp hc) λa ha hc=>?_;refine bz ((key a ha).mpr ⟨c,hc,q⟩) λz hz r=>?_;exact ⟨z,AV.mpr ⟨a,ha,hz⟩,r⟩
theorem Rc{k:List Int}(h:Hi k):85∉bC k/\78∉bC k/\86∉bC k:=by
 have key:∀a∈k,85∉kq a/\78∉kq a/\86∉kq a:=λa ha=>by
  have h1:=(sq h.1 ha).1;have h2:=h.2 a ha;have:=yT (λa=>decide (a∉[3,4,5,6,8,13,14,15,16,17,18])||decide (85∉kq a/\78∉kq a/\86∉kq a)) (by decide +kernel) h1;rw[ao (λq=>q h2),dK,aK]at this;exact this
 refine ⟨λq=>?_,λq=>?_,λq=>?_⟩
 all_goals (refine bz (vO.mp q) λa ha hc=>?_)
 ·exact (key a ha).1 hc
 ·exact (key a ha).2.1 hc
 ·exact (key a ha).2.2 hc
theorem Br{a:Int}(h:At a):a<=18->(0<=iA a->l9 (gT a)=gT (iA a)/\iA a∈[3,4,5,6,8,13,14,15,16,17,18]/\l9 (gT a)≠2)/\(¬0<=iA a->l9 (gT a)=2):=by cases (h)<;>decide
theorem vP{k:List Int}{b:Int}:b∈f5 k↔∃a∈k,0<=iA a/\iA a=b:=by
 unfold f5;rw[mK,aN];constructor
 ·rintro ⟨a,ha,e⟩;rw[eu,aK]at ha;exact ⟨a,ha.1,ha.2,e⟩
 ·rintro ⟨a,ha,h,e⟩;exact ⟨a,eu.mpr ⟨ha,aa h⟩,e⟩
theorem sr{k:List Int}(h:iP k):Hi (f5 k):=by
 have key:∀b∈f5 k,b∈[3,4,5,6,8,13,14,15,16,17,18]:=λb hb=>by
  refine ja (vP.mp hb) λa ha h0 dP=>?_;obtain rfl:=dP;refine cu (sq h ha) λh1 h2=>?_;exact ((Br h1 h2).1 h0).2.1
 refine ⟨⟨mL,λb hb=>?_⟩,key⟩;exact (by decide:∀b∈[3,4,5,6,8,13,14,15,16,17,18],(0:Int)<=b/\b<=18) b (key b hb)
theorem B9{k:List Int}(h:iP k):iH (cZ k)=cZ (f5 k):=by
 unfold iH;refine r6 mL mL λz=>?_;rw[mK,Hf,aN,o4];constructor
 ·rintro ⟨⟨q,hq,rfl⟩,h2⟩;refine bz (o4.mp hq) λa ha bZ=>?_;obtain rfl:=bZ;refine cu (sq h ha) λh1 h3=>?_;have o:=Br h1 h3;by_cases h0:0<=iA a
  ·exact ⟨iA a,vP.mpr ⟨a,ha,h0,rfl⟩,(o.1 h0).1.symm⟩
  ·exact absurd (o.2 h0) h2
 ·rintro ⟨b,hb,rfl⟩;refine ja (vP.mp hb) λa ha h0 dP=>?_;obtain rfl:=dP;refine cu (sq h ha) λh1 h3=>?_;have o:=(Br h1 h3).1 h0;exact ⟨⟨gT a,o4.mpr ⟨a,ha,rfl⟩,o.1⟩,by rw[<-o.1];exact o.2.2⟩
theorem YF{k:List Int}(h:Hi k):f5 k=k:=by
 refine r6 mL h.1.Aj λz=>?_;rw[vP];have key:∀a∈k,iA a=a:=λa ha=>by
  have:=h.2 a ha;simp only[List.mem_cons,List.not_mem_nil,or_false]at this;rcases this with rfl | rfl | rfl | rfl | rfl | rfl | rfl | rfl | rfl | rfl | rfl<;>rfl
 constructor
 ·rintro ⟨a,ha,_,rfl⟩;rw[key a ha];exact ha
 ·intro hz;have:=(h.1.mF z hz).1;exact ⟨z,hz,by rw[key z hz];exact this,key z hz⟩
theorem MH{U:List (List Int)}{l:List Int}{t:Int}(h:fO (gK U) l=some t):¬BB t:=by
 intro hb;unfold gK at h;rw[vV]at h;cases hq:fO sJ l with
 | some v=>
  rw[hq]at h;exists h,h;have hq:(if [8,9]=l then some (12:Int) else if [4,16]=l then some 18 else if [4,5]=l then some 21 else if [3,16]=l then some 24 else none)=some t:=hq;split at hq
  ·exists hq,hq;cases (hb)
  ·split at hq
   ·exists hq,hq;cases (hb)
   ·split at hq
    ·exists hq,hq;cases (hb)
    ·split at hq
     ·exists hq,hq;cases (hb)
     ·exact aM hq
 | none=>rw[hq]at h;refine bz (Gy U 33 h) λi e Z=>?_;have:=hb.ne;lia
theorem Pw{l m:List Int}(h:dB l=dB m):l=m:=by
 have:MV.beq (dB l) (dB m)=MV.beq (dB m) (dB m):=by rw[h]
 rw[yK,yK,aa (p:=m=m) rfl]at this;exact ai this
theorem Rf{U:List (List Int)}{l m:List Int}{t:Int}(h:fO (gK U) l=some t)(k:fO (gK U) m=some t):l=m:=by
 refine ja (uy h) λi e r Z=>?_;refine ja (uy k) λj e' r' Z=>?_;have:i=j:=by lia
 subst this;rw[r]at r';exact Pw (aY r')
theorem BQ{U:List (List Int)}{x y:Int}{q:List Int}(hq:nk U (x::y::q)):∃t,fO (gK U) (x::y::q)=some t/\uid U (x::y::q)=t:=
 cg (bH.mp (hq.resolve_left (by simp))) λt ht=>⟨t,ht,by show (fO (gK U) _).getD _=t;rw[ht];rfl⟩
theorem yt{U:List (List Int)}{m:List Int}{x y:Int}{q:List Int}(hq:nk U (x::y::q))(hm:m=[]\/∃z,m=[z]/\BB z):uid U m≠uid U (x::y::q):=by
 refine bz (BQ hq) λt ht e=>?_;rw[e];refine hm.elim (λh=>?_) λh=>bz h λz h b=>?_
 ·subst h;exact qu (uy ht) λi Z Z Z Ky Z (w:(2:Int)=t)=>by clear ht;lia
 ·subst h;exact λw:z=t=>MH ht (w▸b)
theorem Rg{U:List (List Int)}{l m:List Int}(hl:nk U l)(hm:nk U m)(bl:∀z∈l,BB z)(bm:∀z∈m,BB z)(h:uid U l=uid U m):l=m:=by
 induction l using aaa with
 | nil=>
  induction m using aaa with
  | nil=>rfl
  | cons x m=>
   induction m using aaa with
   | nil=>exact absurd h.symm (bm x aE).ne.2.2.1
   | cons y q=>exact absurd h (yt hm (.inl rfl))
 | cons x l=>
  induction l using aaa with
  | nil=>
   induction m using aaa with
   | nil=>exact absurd h (bl x aE).ne.2.2.1
   | cons y m=>
    induction m using aaa with
    | nil=>exact bf (λz=>[z]) (show x=y from h)
    | cons z q=>exact absurd h (yt hm (.inr ⟨x,rfl,bl x aE⟩))
  | cons x' q=>
   induction m using aaa with
   | nil=>exact absurd h.symm (yt hl (.inl rfl))
   | cons y m=>
    induction m using aaa with
    | nil=>exact absurd h.symm (yt hl (.inr ⟨y,rfl,bm y aE⟩))
    | cons z q'=>refine bz (BQ hl) λt ht e=>?_;refine bz (BQ hm) λt' Ad e'=>?_;obtain rfl:t=t':=e.symm.trans (h.trans e');exact Rf ht Ad
noncomputable def DC:List Int:=[0,1,2,3,4,5,6,7,8,9,10,11,12,13,14,15,16,17,18]
theorem Hl{a b:Int}(ha:0<=a/\a<=18)(hb:0<=b/\b<=18)(h:gT a=gT b):a=b:=by
 have key:DC.all (λa=>DC.all λb=>decide (gT a≠gT b)||decide (a=b))=true:=by decide +kernel
 have mem:∀{a:Int},0<=a/\a<=18->a∈DC:=λ{a} h=>by
  have h1:=at_of h.1 (show a<=21 by lia);have h2:=h.2;cases (h1)<;>first | decide | (exact absurd h2 (by decide))
 have:=aG.mp (aG.mp key a (mem ha)) b (mem hb);rw[ao (λq=>q h),dK,aK]at this;exact this
theorem Rh{k m:List Int}(hk:iP k)(hm:iP m)(h:cZ k=cZ m):k=m:=by
 refine r6 hk.Aj hm.Aj λz=>⟨λhz=>?_,λhz=>?_⟩
 ·have:gT z∈cZ m:=h▸o4.mpr ⟨z,hz,rfl⟩;refine bz (o4.mp this) λa ha e=>?_;rw[<-Hl (hm.mF a ha) (hk.mF z hz) e];exact ha
 ·have:gT z∈cZ k:=h.symm▸o4.mpr ⟨z,hz,rfl⟩;refine bz (o4.mp this) λa ha e=>?_;rw[<-Hl (hk.mF a ha) (hm.mF z hz) e];exact ha
structure Sz(L:LS)(s:Nat):Prop where
 U:L.U.length<=s
 dg:L.dg.length<=s
 nt:L.nt.length<=s
 ty:L.ty.length<=s
 tr:L.tr.length<=s
 bg:L.bg.length<=s
 mem:L.mem.length<=100*s
 cI:0<=L.cI/\L.cI<=100*s
 bD:0<=L.bD/\L.bD<=s
theorem Sz.mono{L:LS}{s s':Nat}(h:Sz L s)(k:s<=s'):Sz L s':=⟨aW h.U k,aW h.dg k,aW h.nt k,aW h.ty k,aW h.tr k,aW h.bg k,aW h.mem (Nat.mul_le_mul_left _ k),⟨h.cI.1,by have:=h.cI.2;lia⟩,⟨h.bD.1,by have:=h.bD.2;lia⟩⟩
def pn(mem:List (MV×MV)):Prop:=∀e∈mem,(∃(a:Int) (s:Str),e.1=.tup [.int a,.str s])/\∃k,e.2=iL k/\MK k
def uN(as:List MV):Prop:=∀a∈as,∃s:Str,a=.str s
structure Inv(L:LS)(m:Int):Prop where
 ch:L.ch=L.fl
 mG:L.fl.length<=100
 dg:L.dg=L.told
 nt:L.nt=L.gb
 bg:L.bg=L.jV
 dp:L.dp=0
 ty:oG L.ty L.bD
 told:∀x∈L.dg,x.2.1<m
 nums:L.nums.length<=40
 mem:pn L.mem
 ar:∀x∈L.dg,uN x.2.2
def KK(k:List Int):Prop:=j6 k\/Hi k\/Spec k
theorem KK.kd{k:List Int}(h:KK k):Kd k:=by
 rcases h with h | h | h | h | h
 ·exact Or.inl (BP h)
 ·exact Or.inl h.1
 ·exact Or.inr (Or.inl h)
 ·exact Or.inr (Or.inr (Or.inl h))
 ·exact Or.inr (Or.inr (Or.inr h))
theorem mq(U:List (List Int))(k:List Int):(kU U k).length<=U.length+1:=by
 unfold kU;split
 ·exact bG _
 ·exact r7 _ _
theorem YG(U:List (List Int))(k:List Int):Ext U (kU U k):=by
 unfold kU;split
 ·exact .refl U
 ·exact .put U _
theorem jY(U:List (List Int)){k:List Int}(h:iP k):eT U k=uid U (cZ k)/\kU U k=gr U (cZ k):=by have hn:=uA h;unfold eT kU;rw[au hn.1,au hn.2.1,au hn.2.2,au (by rintro (h | h | h);exact hn.1 h;exact hn.2.1 h;exact hn.2.2 h)];exact ⟨rfl,rfl⟩
theorem vG{U:List (List Int)}{k:List Int}(h:iP k)(hs:nk U (cZ k))(L':LS)(hL:L'.U=U)(hU:U.length<=100000):∀n cx,Runs (n+1) cx 336 [.v (.obj 0),.v (.int (uid U (cZ k)))] L'.o (.val (nums (cZ k))) L'.o:=by intro n cx;subst hL;exact ND hs (lU h) hU
theorem vW{k:List Int}(h:iP k):(cZ k).length<60:=by have:=yq (k.map gT);rw[aj]at this;have:=h.len;unfold cZ;lia
theorem yz(hk:Kd k):eT (kU U k) k=eT U k/\kU (kU U k) k=kU U k:=by
 rcases hk with h | rfl | rfl | rfl
 ·rw[(jY U h).1,(jY U h).2,(jY _ h).1,(jY _ h).2];refine cu (qd U (cZ k)) λh1 h2=>?_;exact ⟨h2,MF h1⟩
 ·exact ⟨rfl,rfl⟩
 ·exact ⟨rfl,rfl⟩
 ·exact ⟨rfl,rfl⟩
theorem Bs{l:List Int}{z:Int}:z∈iu l↔z∈fF l/\z∈[5,4,3]:=by unfold iu;rw[eu,aK]
theorem GG(h:iP k):iu (cZ k)=[]↔¬(85∈bC k\/78∈bC k\/86∈bC k):=by
 rw[<-yU h,<-yV h,<-H9 h];constructor
 ·intro e q;have key:∀z,z∈fF (cZ k)->z∈[5,4,3]->False:=λz h1 h2=>by
   have:z∈iu (cZ k):=Bs.mpr ⟨h1,h2⟩;rw[e]at this;exact absurd this aX
  rcases q with q | q | q
  ·exact key _ q (by decide)
  ·exact key _ q (by decide)
  ·exact key _ q (by decide)
 ·intro q;cases e:iu (cZ k) with
  | nil=>rfl
  | cons z r=>
   have:z∈iu (cZ k):=by rw[e];exact aE
   refine cu (Bs.mp this) λh1 h2=>?_;simp only[List.mem_cons,List.not_mem_nil,or_false]at h2;rcases h2 with rfl | rfl | rfl
   ·exact absurd (Or.inr (Or.inl h1)) q
   ·exact absurd (Or.inl h1) q
   ·exact absurd (Or.inr (Or.inr h1)) q
theorem Sx(h:iP k):3∈iu (cZ k)↔86∈bC k:=by rw[Bs,<-H9 h];exact ⟨λq=>q.1,λq=>⟨q,by decide⟩⟩
def sY(opt:Bool)(k:List Int):Prop:=opt=true/\k≠[19]/\(85∈bC k\/78∈bC k\/86∈bC k)
theorem GH{opt:Bool}(hk:KK k)(h:sY opt k):iP k:=by
 revert h;refine mu λZ h1 h2=>?_;rcases hk.kd with h | h | rfl | rfl
 ·exact h
 ·exact absurd h h1
 ·exact absurd h2 (by decide)
 ·exact absurd h2 (by decide)
noncomputable def qI(opt:Bool):Int:=if opt then 1 else 0
theorem NO{opt:Bool}{kd at':Int}{a:MV}{kids:List MV}(hk:KK k)(hf:¬sY opt k)(hU:L.U.length<=99999)(L1:LS)(h1:L1.U=kU L.U k):rA (n+14) 617 [.v (.obj 4),.v (bU kd a kids (qI opt) at'),.v (.int (eT L.U k))] L1 (.val (.int (eT L.U k))):=by
 induction opt using aad with
 | false=>exact Ra
 | true=>
  rcases hk.kd with h | h | h | h
  ·have hl:(kU L.U k).length<=100000:=by have:=mq L.U k;lia
   rw[(jY L.U h).1];have hh:=qd L.U (cZ k);rw[(jY L.U h).2]at h1 hl;rw[<-hh.2];have hr:=ua hh.1 (lU h) hl;have hp:=vG h hh.1 L1 h1 hl;refine Pp hp (lU h) (vW h) ⟨hr.2.2.1,hr.2.2.2.1,hr.2.2.2.2⟩ ((GG h).mpr λq=>hf ⟨rfl,(uA h).1,q⟩)
  ·subst h;exact Bq (Or.inr (Or.inl rfl))
  ·subst h;exact Bq (Or.inl rfl)
  ·subst h;exact Bq (Or.inr (Or.inr rfl))
theorem MI{opt:Bool}{kd at':Int}{a:MV}{kids:List MV}(hk:KK k)(hf:sY opt k)(hU:L.U.length<=99999)(L1:LS)(h1:L1.U=kU L.U k)(EB:L1.nt.length<1000)(xU:L1.ch.length<1000) :
  gB (n+14) 617 [.v (.obj 4),.v (bU kd a kids (qI opt) at'),.v (.int (eT L.U k))] L1 (.val (.int (eT L1.U (f5 k)))) (LS.sU (LS.rI (if 86∈bC k then L1.note 18 at' else L1) (jQ L1.ch)) (kU L1.U (f5 k))):=by
 have h:=GH hk hf;revert hf;refine mu λbA Zd hl=>?_;obtain rfl:=bA;have hlen:(kU L.U k).length<=100000:=by have:=mq L.U k;lia
 rw[(jY L.U h).1];have hh:=qd L.U (cZ k);rw[(jY L.U h).2]at h1 hlen;rw[<-hh.2];have hr:=ua hh.1 (lU h) hlen;have ho:=(sr h).1;have:=NI (n:=n) (L:=L1) (t:=uid (gr L.U (cZ k)) (cZ k)) (k:=kd) (at':=at') (a:=a) (kids:=kids) (l:=cZ k) (λL' h'=>vG h hh.1 L' (h'.trans h1) hlen) (lU h) (vW h) ⟨hr.2.2.1,hr.2.2.2.1,hr.2.2.2.2⟩ (λq=>(GG h).mp q hl) EB xU (by rw[h1];exact hlen);rw[B9 h,<-(jY L1.U ho).1,<-(jY L1.U ho).2]at this;simp only[Sx h]at this;exact this
variable {a b:Bool}
theorem all2(h0:es.isEmpty=false)(h1:es.tail.isEmpty=false)(h2:es.tail.tail.isEmpty=true)(ha:(rn n d).t cx (es.headD default) st=some (a,st))(hb:(rn n d).t cx (es.tail.headD default) st=some (b,st)):jM ((rn n d).t cx) es st=some (a&&b,st):=by
 induction a using aad with
 | false=>exact nI h0 ha
 | true=>induction b using aad with
  | false=>exact lQ h0 ha (nI h1 hb)
  | true=>exact lQ h0 ha (lQ h1 hb (all_nil h2))
theorem JX(h0:es.isEmpty=false)(h1:es.tail.isEmpty=false)(h2:es.tail.tail.isEmpty=false)(h3:es.tail.tail.tail.isEmpty=true)(ha:(rn n d).t cx (es.headD default) st=some (a,st))(hb:(rn n d).t cx (es.tail.headD default) st=some (b,st))(hc:(rn n d).t cx (es.tail.tail.headD default) st=some (c,st)):jM ((rn n d).t cx) es st=some (a&&(b&&c),st):=by
 induction a using aad with
 | false=>exact nI h0 ha
 | true=>exact lQ h0 ha (all2 (a:=b) (b:=c) h1 h2 h3 hb hc)
theorem any_nil(h0:es.isEmpty=true):pC ((rn n d).t cx) es st=some (false,st):=by
 induction es using aaa with
 | nil=>rfl
 | cons=>exact b7 h0
theorem VM(h0:es.isEmpty=false)(h1:es.tail.isEmpty=false)(h2:es.tail.tail.isEmpty=false)(h3:es.tail.tail.tail.isEmpty=true)(ha:(rn n d).t cx (es.headD default) st=some (a,st))(hb:(rn n d).t cx (es.tail.headD default) st=some (b,st))(hc:(rn n d).t cx (es.tail.tail.headD default) st=some (c,st)):pC ((rn n d).t cx) es st=some (a||(b||c),st):=by
 induction a using aad with
 | true=>exact uo h0 ha
 | false=>induction b using aad with
  | true=>exact kL h0 ha (uo h1 hb)
  | false=>induction c using aad with
   | true=>exact kL h0 ha (kL h1 hb (uo h2 hc))
   | false=>exact kL h0 ha (kL h1 hb (kL h2 hc (any_nil h3)))
theorem wh(c:Nat)(l:List Nat){s:Str}(hs:s=⟨#[c]⟩):isIn (.str s) (.str ⟨l.toArray⟩)=some (decide (c∈l)):=by
 subst hs;have:isIn (.str ⟨#[c]⟩) (.str ⟨l.toArray⟩)=some (l.any λx=>decide (some x=some c)):=rfl;rw[this];congr 1;induction l with
 | nil=>rfl
 | cons x r ih=>
  rw[dF,ih rfl];by_cases q:x=c
  ·subst q;simp
  ·simp[q,Ne.symm q]
variable {opt:Bool} {kd at':Int} {a:MV} {kids:List MV}
def lg(node:MV)(opt:Bool)(k:List Int):List (Str×LV):=[V "w" (.obj 14),V "node" node,V "opt" (.bool opt),V "kind" (iL k),V "held" (lF k)]
abbrev ny:Ctx:=⟨(fnOf 1387).scope,false,RB 1387,false⟩
open Classical in
theorem Ri(σ:eN)(node:MV):(rn n 14).t ny (sv (hd (fnOf 1387).body.tail.tail)) ⟨lg node opt k++[V "due" (iL k)],σ⟩=some (decide (sY opt k),⟨lg node opt k++[V "due" (iL k)],σ⟩):=by
 let s:St:=⟨lg node opt k++[V "due" (iL k)],σ⟩;let es:=xl (sv (hd (fnOf 1387).body.tail.tail));have hu:∀(e:Expr) (x:Str) (c:Nat) (hx:x=⟨#[c]⟩) (he:e=.Compare (x1 e) [.In] [x2 e] e.pos) (hs:jJ (x2 e)=false) (hb:blocks (.val (.str x)) (x2 e)=false) (h1:(rn n 11).e ny (x1 e) s=some (.val (.str x),s)) (h2:(rn n 11).e ny (x2 e) s=some (.val (lF k),s)),(rn n 12).t ny e s=some (decide (c∈bC k),s):=λe x c hx he hs hb h1 h2=>by
  have hc:xc e=.In:=by rw[he];rfl
  refine dI (d:=11) (.val (.str x)) (.val (lF k)) (by rw[hc];exact he) hs h1 hb h2 rfl rfl ?_;rw[hc];exact wh c (bC k) hx
 have t1:(rn n 13).t ny (es.headD default) s=some (opt,s):=by induction opt using aad<;>done
 have t2:(rn n 13).t ny (es.tail.headD default) s=some (decide (k≠[19]),s):=dI (d:=12) (.val (iL k)) (.fresh (iL [19])) rfl rfl (by done) rfl (by done) rfl rfl (show (gm (iL k) (iL [19])).map _=_ by
  have:gm (iL k) (iL [19])=some (decide (k=[19])):=qc k [19];rw[this];by_cases q:k=[19]<;>simp[q])
 have t3:(rn n 13).t ny (es.tail.tail.headD default) s=some (decide (85∈bC k)||(decide (78∈bC k)||decide (86∈bC k)),s):=
  sH (d:=12) rfl (VM rfl rfl rfl rfl (hu _ (Str.ofString "U") 85 (by decide +kernel) rfl rfl rfl (by done) (by done)) (hu _ (Str.ofString "N") 78 (by decide +kernel) rfl rfl rfl (by done) (by done)) (hu _ (Str.ofString "V") 86 (by decide +kernel) rfl rfl rfl (by done) (by done)))
 have h:=uM (d:=13) (e:=sv (hd (fnOf 1387).body.tail.tail)) rfl (JX rfl rfl rfl rfl t1 t2 t3);refine h.trans ?_;have:(opt&&(decide (k≠[19])&&(decide (85∈bC k)||(decide (78∈bC k)||decide (86∈bC k)))))=decide (sY opt k):=by unfold sY;simp only[Bool.decide_and,Bool.decide_or,Bool.decide_eq_true]
 rw[this]
theorem Ho{due:List Int}(L1:LS)(fG:Kd due)(hU:L1.U.length<=100000)(hc:L1.ch=L1.fl)(node:MV)(got:Int)(hg:got=eT L1.U due):∃loc',Go (n+16) 15 ny (fnOf 1387).body.tail.tail.tail.tail ⟨lg node opt k++[V "due" (iL due),V "got" (.int got)],L1.o⟩ (.ret (.val (iL due))) ⟨loc',LS.o (LS.sU L1 (kU L1.U due))⟩:=by
 subst hg;let s:St:=⟨lg node opt k++[V "due" (iL due),V "got" (.int (eT L1.U due))],L1.o⟩;let s':St:=⟨lg node opt k++[V "due" (iL due),V "got" (.int (eT L1.U due))],LS.o (LS.sU L1 (kU L1.U due))⟩;refine ⟨s'.loc,gc rfl (iC (d:=14) rfl (xq (d:=13) (c:=true) (st1:=s') rfl (uM (d:=12) rfl (lQ (st1:=s') rfl ?_ (lQ (st1:=s') rfl ?_ (all_nil rfl)))) (by done)))⟩
 ·refine zh (d:=11) (.val (.int (eT L1.U due))) (.val (.int (eT L1.U due))) (st1:=s) rfl rfl (by done) rfl (dO (d:=10) 1356 (st1:=s) (as:=[.val (.obj 14),.val (iL due)]) rfl rfl rfl (by done) (by done) rfl rfl (sL (n:=n+11) fG hU _ _ _) rfl) rfl rfl ?_;show gm (.int _) (.int _)=_;rw[iJ,aa rfl]
 ·refine dI (d:=11) (.cont (.slot 4 (Str.ofString "chains"))) (.cont (.slot 14 (Str.ofString "flags"))) rfl rfl (by done) rfl (by done) (x:=iL L1.ch) (y:=iL L1.fl) (by done) (by done) ?_;show gm (iL L1.ch) (iL L1.fl)=_;have:gm (iL L1.ch) (iL L1.fl)=some (decide (L1.ch=L1.fl)):=qc _ _;rw[this,aa hc]
theorem Px(l:List Int):(jQ l).length=l.length:=List.length_set
variable {s:Nat}
def LS.Ca(L:LS)(k:List Int)(at':Int):LS:=(LS.rJ (LS.qg L (if 86∈bC k then L.gb++[(18,at')] else L.gb)) (jQ L.fl))
theorem Lq(hk:KK k)(hr:iP k)(hn:L.gb.length<1000)(hf:L.fl.length<1000):Go (n+16) 13 ny (bo (hd (fnOf 1387).body.tail.tail)) ⟨lg (bU kd a kids (qI opt) at') opt k++[V "due" (iL k)],L.o⟩ .bN ⟨lg (bU kd a kids (qI opt) at') opt k++[V "due" (iL (f5 k))],(L.Ca k at').o⟩:=by
 let node:=bU kd a kids (qI opt) at';let s0:St:=⟨lg node opt k++[V "due" (iL k)],L.o⟩;let s1:St:=⟨lg node opt k++[V "due" (iL (f5 k))],L.o⟩;let La:LS:=(LS.qg L (if 86∈bC k then L.gb++[(18,at')] else L.gb));let s2:St:=⟨s1.loc,La.o⟩;let s3:St:=⟨s1.loc,(L.Ca k at').o⟩;refine aU s1 rfl (fU (d:=12) (st1:=s0) rfl (.val (iL (f5 k))) (dO (d:=11) 1361 (st1:=s0) (as:=[.val (iL k)]) rfl rfl rfl (by done) (by done) rfl rfl (B3 (n:=n+14) hk.kd) rfl) (by done)) ?_;refine dX (d:=11) (st1:=s1) (st2:=s2) (decide (86∈bC k)) rfl rfl (dI (d:=11) (.val (.str (Str.ofString "V"))) (.val (lF k)) rfl rfl (by done) rfl (by done) rfl rfl (show isIn (.str (Str.ofString "V")) (lF k)=_ from wh 86 (bC k) (by decide +kernel))) ?_ ?_
 ·by_cases q:86∈bC k
  ·rw[aa q];have e:s2=⟨s1.loc,LS.o (LS.qg L (L.gb++[(18,at')]))⟩:=by show St.mk _ (LS.o (LS.qg L (if 86∈bC k then L.gb++[(18,at')] else L.gb)))=_;rw[aq q]
   rw[e];refine aU _ rfl (i9 (d:=10) (.val .none) rfl rfl (gQ (d:=9) (st1:=s1) (st2:=s1) (as:=[.val (gH (18,at'))]) (mf:=none) (.cont (.slot 14 (Str.ofString "noted"))) rfl rfl (by done) rfl (by done) rfl (lE rfl (o7 (gH (18,at')) (.slot 14 (Str.ofString "noted")) (L.gb.map gH) (by done) (by rw[aj];exact aZ hn (by decide)) rfl ?_))) rfl) (bQ rfl);have:(L.gb++[(18,at')]).map gH=L.gb.map gH++[gH (18,at')]:=by rw[bB];rfl
   rw[<-this]
   done
  ·rw[ao q];have e:s2=s1:=by show St.mk _ (LS.o (LS.qg L (if 86∈bC k then L.gb++[(18,at')] else L.gb)))=_;rw[au q]
   rw[e];exact bQ rfl
 ·have hlen:nO (iL La.fl)=some (L.fl.length:Int):=se _ (aW (b9 hf) (by decide));have ht:(rn (n+16) 12).t ny (sv (hd (bo (hd (fnOf 1387).body.tail.tail)).tail.tail)) s2=some (!L.fl.isEmpty,s2):=dI (d:=11) (.val (.int (L.fl.length:Int))) (.val (.int 0)) rfl rfl (pg (d:=10) (nm:="len") (as:=[.cont (.slot 14 (Str.ofString "flags"))]) rfl rfl (by done) (by done) rfl (show Option.map _ (nO (iL La.fl))=_ by rw[hlen];rfl)) rfl (by done) rfl rfl (show some (decide ((L.fl.length:Int)>0))=_ by induction L.fl using aaa with | nil=>rfl | cons=>rw[aa (by rw[aR];lia)];rfl);refine dX (d:=11) (st1:=s2) (st2:=s3) (!L.fl.isEmpty) rfl rfl ht ?_ (bQ rfl);cases hq:L.fl.isEmpty with
  | true=>
   have xw:L.fl=[]:=cz.mp hq;have e:s3=s2:=by
    show St.mk _ (LS.o (LS.rJ La (jQ L.fl)))=St.mk _ La.o;have:jQ L.fl=La.fl:=by show jQ L.fl=L.fl;rw[xw];rfl
    rw[this]
   rw[e];exact bQ rfl
  | false=>
   refine aU s3 rfl (nJ (st1:=s2) (d:=10) (.val (.int 1)) rfl (by done) (BK (st1:=s2) (st2:=s2) (.slot 14 (Str.ofString "flags")) (La.fl.map .int) (by done) rfl (by done) (by done) (by show (L.fl.map MV.int).isEmpty=false;cases hx:L.fl with | nil=>rw[hx]at hq;cases (hq) | cons=>rfl) (by rw[aj];exact aZ hf (by decide)) rfl ?_)) (bQ rfl);have:(La.fl.map MV.int).set ((La.fl.map MV.int).length-1) (.int 1)=(jQ L.fl).map .int:=by show (L.fl.map MV.int).set ((L.fl.map MV.int).length-1) (.int 1)=_;rw[aj];unfold jQ;rw[List.map_set]
   rw[this]
   done
structure XZ(L:LS):Prop where
 p:L.U.length<=99990/\L.dg.length<1000/\L.nt.length<1000/\L.ty.length<1000/\L.tr.length<1000/\L.bg.length<1000/\Small L.bD/\L.cI+8<=100000/\Small L.cI
theorem Inv.pA(S:Sz L s)(hs:s<=900):XZ L:=
 ⟨⟨by have:=S.U;lia,by have:=S.dg;lia,by have:=S.nt;lia,by have:=S.ty;lia,by have:=S.tr;lia,by have:=S.bg;lia,⟨S.bD.1,by have:=S.bD.2;lia⟩,by have:=S.cI.2;lia,⟨S.cI.1,by have:=S.cI.2;lia⟩⟩⟩
open Classical in
theorem NP(I:Inv L m)(S:Sz L s)(hs:s<=900)(hk:KK k):∃L' due,gB (n+17) 1387 [.v (.obj 14),.v (bU kd a kids (qI opt) at'),.v (.bool opt),.v (iL k)] L (.val (iL due)) L'/\Inv L' m/\Sz L' (s+3)/\L'.bD=L.bD/\KK due:=by
 let node:=bU kd a kids (qI opt) at';have B:=Inv.pA S hs;let lc:List (Str×LV):=[V "w" (.obj 14),V "node" node,V "opt" (.bool opt),V "kind" (iL k)];let s0:St:=⟨lc,L.o⟩;let s1:St:=⟨lg node opt k,L.o⟩;let s2:St:=⟨lg node opt k++[V "due" (iL k)],L.o⟩;have e0:(rn (n+16) 15).s ny (hd (fnOf 1387).body) s0=some (.bN,s1):=fU (d:=14) (st1:=s0) rfl (.val (lF k)) (dO (d:=13) 1366 (st1:=s0) (as:=[.val (iL k)]) rfl rfl rfl (by done) (by done) rfl rfl (F0 (n:=n+15) hk.kd) rfl) (by done);have e1:(rn (n+16) 15).s ny (hd (fnOf 1387).body.tail) s1=some (.bN,s2):=by done
 have t2:=Ri (n:=n+16) (k:=k) (opt:=opt) L.o node;have e3:∀(due:List Int) (L1 L2:LS) (got:Int),L1.U.length<=100000->gB (n+16) 617 [.v (.obj 4),.v node,.v (.int (eT L1.U k))] (LS.sU L1 (kU L1.U k)) (.val (.int got)) L2->(rn (n+16) 15).s ny (hd (fnOf 1387).body.tail.tail.tail) ⟨lg node opt k++[V "due" (iL due)],L1.o⟩=some (.bN,⟨lg node opt k++[V "due" (iL due),V "got" (.int got)],L2.o⟩):=λdue L1 L2 got hU h=>by
  let t1:St:=⟨lg node opt k++[V "due" (iL due)],L1.o⟩;let t2:St:=⟨lg node opt k++[V "due" (iL due)],LS.o (LS.sU L1 (kU L1.U k))⟩;exact fU (d:=14) (st1:=⟨t1.loc,L2.o⟩) rfl (.val (.int got)) (dO (d:=13) 617 (st1:=t2) (as:=[.val (.obj 4),.val node,.val (.int (eT L1.U k))]) rfl rfl rfl (by done) (gM (.val (.obj 4)) (st1:=t1) rfl (by done) rfl (gM (.val node) (st1:=t1) rfl (by done) rfl (ie (.val (.int (eT L1.U k))) rfl rfl (dO (d:=12) 1356 (st1:=t1) (as:=[.val (.obj 14),.val (iL k)]) rfl rfl rfl (by done) (by done) rfl rfl (sL (n:=n+11) hk.kd hU _ _ _) rfl) rfl))) rfl rfl (h _ _ _) rfl) (by done)
 have pU:=mq L.U k;by_cases hf:sY opt k
 ·have hr:=GH hk hf;let Lb:LS:=L.Ca k at';let Lc:LS:=(LS.sU Lb (kU L.U k));let Ld:LS:=(LS.sU (LS.rI (if 86∈bC k then Lc.note 18 at' else Lc) (jQ L.ch)) (kU Lc.U (f5 k)));let Le:LS:=(LS.sU Ld (kU Ld.U (f5 k)));have ho:KK (f5 k):=Or.inr (Or.inl (sr hr));have xB:=mq Lc.U (f5 k);have nU:=mq Ld.U (f5 k);have VN:Lc.U.length<=L.U.length+1:=pU;have YW:Ld.U.length<=L.U.length+2:=by show (kU Lc.U (f5 k)).length<=_;lia
  have rM:L.gb.length<1000:=by rw[<-I.nt];exact B.p.2.2.1
  have mH:L.fl.length<1000:=by have:=I.mG;lia
  rw[aa hf]at t2;have X0:=MI (n:=n+2) (kd:=kd) (at':=at') (a:=a) (kids:=kids) (L:=Lb) hk hf (by show L.U.length<=_;have:=B.p.1;lia) Lc rfl (by show L.nt.length<1000;exact B.p.2.2.1) (by show L.ch.length<1000;rw[I.ch];exact mH);have X3:Ld.dg=L.dg/\Ld.ty=L.ty/\Ld.tr=L.tr/\Ld.bg=L.bg/\Ld.nt=(if 86∈bC k then L.nt++[(18,at')] else L.nt)/\Ld.dp=L.dp/\Ld.nums=L.nums/\Ld.cI=L.cI/\Ld.bD=L.bD/\Ld.mem=L.mem/\Ld.told=L.told/\Ld.jV=L.jV/\Ld.fl=jQ L.fl/\Ld.gb=(if 86∈bC k then L.gb++[(18,at')] else L.gb):=by
   by_cases q:86∈bC k
   ·have e:Ld={Lc.note 18 at' with ch:=jQ L.ch,U:=kU Lc.U (f5 k)}:=by show LS.mk ..=_;rw[aq q]
    rw[e,aq q,aq q];refine ⟨rfl,rfl,rfl,rfl,rfl,rfl,rfl,rfl,rfl,rfl,rfl,rfl,rfl,?_⟩;show (if 86∈bC k then L.gb++[(18,at')] else L.gb)=_;rw[aq q]
   ·have e:Ld=(LS.sU (LS.rI Lc (jQ L.ch)) (kU Lc.U (f5 k))):=by show LS.mk ..=_;rw[au q]
    rw[e,au q,au q];refine ⟨rfl,rfl,rfl,rfl,rfl,rfl,rfl,rfl,rfl,rfl,rfl,rfl,rfl,?_⟩;show (if 86∈bC k then L.gb++[(18,at')] else L.gb)=_;rw[au q]
  revert X3;refine UE λd1 d2 d3 d4 d5 VO=>?_;revert VO;refine Jo λd6 d7 d8 d9 xW EE EF EG X4=>?_;refine cg (Ho (n:=n) (k:=k) (opt:=opt) Ld ho.kd (by have:=B.p.1;lia) (by show jQ L.ch=Ld.fl;rw[EG,I.ch]) node (eT Lc.U (f5 k)) (yz ho.kd).1.symm) λloc' h4=>?_;refine ⟨Le,f5 k,λsc rb cp=>eX (loc:=lc) (loc':=loc') rfl rfl rfl (aU s1 rfl e0 (aU s2 rfl e1 (dX (d:=13) (st1:=s2) (st2:=⟨lg node opt k++[V "due" (iL (f5 k))],Lb.o⟩) true rfl rfl t2 (Lq hk hr rM mH) (aU _ rfl (e3 (f5 k) Lb Ld _ (by show L.U.length<=_;have:=B.p.1;lia) X0) h4)))),?_,?_,d9,ho⟩
  ·refine ⟨show jQ L.ch=Ld.fl by rw[EG,I.ch],by show Ld.fl.length<=_;rw[EG,Px];exact I.mG,by show Ld.dg=Ld.told;rw[d1,EE];exact I.dg,?_,by show Ld.bg=Ld.jV;rw[d4,EF];exact I.bg,by show Ld.dp=0;rw[d6];exact I.dp,by show oG Ld.ty Ld.bD;rw[d2,d9];exact I.ty,by show ∀x∈Ld.dg,_;rw[d1];exact I.told,by show Ld.nums.length<=40;rw[d7];exact I.nums,by show pn Ld.mem;rw[xW];exact I.mem,by show ∀x∈Ld.dg,_;rw[d1];exact I.ar⟩;show Ld.nt=Ld.gb;rw[d5,X4,I.nt]
  ·refine ⟨?_,by show Ld.dg.length<=_;rw[d1];have:=S.dg;lia,?_,by show Ld.ty.length<=_;rw[d2];have:=S.ty;lia,by show Ld.tr.length<=_;rw[d3];have:=S.tr;lia,by show Ld.bg.length<=_;rw[d4];have:=S.bg;lia,by show Ld.mem.length<=_;rw[xW];have:=S.mem;lia,by show 0<=Ld.cI/\Ld.cI<=_;rw[d8];have:=S.cI;lia,by show 0<=Ld.bD/\Ld.bD<=_;rw[d9];have:=S.bD;lia⟩
   ·show (kU Ld.U (f5 k)).length<=_;have:=S.U;lia
   ·show Ld.nt.length<=_;rw[d5];have:=S.nt;split
    ·rw[ay];show L.nt.length+1<=_;lia
    ·lia
 ·rw[ao hf]at t2;let Lc:LS:=(LS.sU L (kU L.U k));let Le:LS:=(LS.sU Lc (kU Lc.U k));have nU:=mq Lc.U k;have VN:Lc.U.length<=L.U.length+1:=pU;have X5:=NO (n:=n+2) (kd:=kd) (at':=at') (a:=a) (kids:=kids) (L:=L) hk hf (by have:=B.p.1;lia) Lc rfl;refine cg (Ho (n:=n) (k:=k) (opt:=opt) Lc hk.kd (by have:=B.p.1;lia) I.ch node (eT L.U k) (yz hk.kd).1.symm) λloc' h4=>?_;refine ⟨Le,k,λsc rb cp=>eX (loc:=lc) (loc':=loc') rfl rfl rfl (aU s1 rfl e0 (aU s2 rfl e1 (dX (d:=13) (st1:=s2) (st2:=s2) false rfl rfl t2 (bQ rfl) (aU _ rfl (e3 k L Lc _ (by have:=B.p.1;lia) (λZ Z Z=>X5 _)) h4)))),?_,?_,rfl,hk⟩
  ·exact ⟨I.ch,I.mG,I.dg,I.nt,I.bg,I.dp,I.ty,I.told,I.nums,I.mem,I.ar⟩
  ·have:=S.mono (cA s 3);refine ⟨?_,this.dg,this.nt,this.ty,this.tr,this.bg,this.mem,this.cI,this.bD⟩;show (kU Lc.U k).length<=_;have:=S.U;lia
def lA:Option (List Str)->MV
 | none=>.none
 | some ws=>.lst (ws.map .str)
def zl:Option (List Str)->MV
 | none=>.none
 | some ws=>.str (gP f6 ws)
structure WP(o:Option (List Str))(p:Str):Prop where
 ok:(o=none/\p=cU)\/∃ws,o=some ws/\p=gP f6 ws/\p≠cU/\ws.length<=1000/\∀s∈ws,s.length<=16
theorem Rj{U:List (List Int)}{l:List Int}(hb:∀z∈l,BB z)(h:uid U l=2):l=[]:=by
 match l,hb,h with
 | [],_,_=>rfl
 | [x],hb,h=>exact absurd h (hb x aE).ne.2.2.1
 | x::y::q,_,h=>
  have h:(fO (gK U) (x::y::q)).getD (33+U.length)=2:=h;cases hf:fO (gK U) (x::y::q) with
  | none=>rw[hf]at h;have:(33+U.length:Int)=2:=h;lia
  | some t=>rw[hf]at h;have:t=2:=h;refine qu (uy hf) λi e Z Z Ky Z=>?_;lia
theorem Py{k:List Int}(hk:j6 k)(h:∃c∈bC k,c∉[78,85,86])(U:List (List Int)):uid U (cZ (f5 k))≠2:=by
 intro e;have hr:=BP hk;have:=Rj (lU (sr hr).1) e;revert h;refine gp λc hc q=>?_;refine bz (vO.mp hc) λa ha hc=>?_;have h1:=(sq hr ha).1;have key:=yT (λa=>decide (13<a)||((kq a).all (λc=>decide (c∈[78,85,86]))||decide (0<=iA a))) (by decide +kernel) h1;have h2:=(hk.2 a ha).2;rw[ao (by lia),dK,er,aK]at key;revert key;refine eS (λkey=>?_) λkey=>?_
 ·exact q (ai (aG.mp key c hc))
 ·have:gT (iA a)∈cZ (f5 k):=o4.mpr ⟨iA a,vP.mpr ⟨a,ha,key,rfl⟩,rfl⟩;rw[‹cZ (f5 k)=[]›]at this;exact absurd this aX
variable {fl:Int} {o:Option (List Str)} {p:Str}
abbrev j7:Ctx:=⟨(fnOf 1392).scope,false,RB 1392,false⟩
def qJ(node:MV)(o:Option (List Str))(k:List Int):List (Str×LV):=[V "w" (.obj 14),V "node" node,V "words" (lA o),V "kind" (iL k)]
def gC(node:MV)(o:Option (List Str))(k:List Int)(due:List Int):List (Str×LV):=qJ node o k++[V "held" (lF k),V "path" (zl o),V "lacks" (.int (ig (decide (78∈bC k)) (decide (85∈bC k)))),V "due" (iL due)]
theorem Pz{ws:List Str}{st:St}{cx:Ctx}(h1:ws.length<=1000)(h2:∀s∈ws,s.length<=16):qQ cx st (.val (.str f6)) (Str.ofString "join") [.val (.lst (ws.map .str))]=some (.val (.str (gP f6 ws)),st):=by show (if (ws.map MV.str).length<=4096&&f6.length<=16 then (nE (ws.map .str)).bind λss=>if ss.all (λs=>decide (s.length<=16)) then some (EV.val (.str (gP f6 ss)),st) else none else none)=_;have ko:(ws.all λs=>decide (s.length<=16))=true:=aG.mpr λx hx=>aa (h2 x hx);rw[aa (p:=(ws.map MV.str).length<=4096) (by rw[aj];lia),aa (p:=f6.length<=16) (by decide +kernel),AS];show (if (ws.all λs=>decide (s.length<=16))=true then some (EV.val (.str (gP f6 ws)),st) else none)=_;rw[ko];rfl
theorem Bt(hk:KK k)(hw:WP o p)(node:MV)(σ:eN):j8 (rn (n+16) 15) j7 ((fnOf 1392).body.take 4) ⟨qJ node o k,σ⟩=some (.bN,⟨gC node o k k,σ⟩):=by
 let s0:St:=⟨qJ node o k,σ⟩;let s1:St:=⟨qJ node o k++[V "held" (lF k)],σ⟩;let s2:St:=⟨qJ node o k++[V "held" (lF k),V "path" (zl o)],σ⟩;let s3:St:=⟨qJ node o k++[V "held" (lF k),V "path" (zl o),V "lacks" (.int (ig (decide (78∈bC k)) (decide (85∈bC k))))],σ⟩;let s4:St:=⟨gC node o k k,σ⟩;show Go (n+16) 15 j7 ((fnOf 1392).body.take 4) s0 .bN s4;refine aU s1 rfl (fU (d:=14) (st1:=s0) rfl (.val (lF k)) (dO (d:=13) 1366 (st1:=s0) (as:=[.val (iL k)]) rfl rfl rfl (by done) (by done) rfl rfl (F0 (n:=n+15) hk.kd) rfl) (by done)) ?_;refine aU s2 rfl (fU (d:=14) (st1:=s1) rfl (.val (zl o)) ?_ (by done)) ?_
 ·rcases hw.ok with ⟨rfl,_⟩ | ⟨ws,rfl,_,_,h1,h2⟩
  ·done
  ·exact mX (d:=13) false rfl (by done) (gQ (d:=12) (st1:=s1) (st2:=s1) (as:=[.val (.lst (ws.map .str))]) (mf:=none) (.val (.str f6)) rfl rfl (by done) rfl (by done) rfl (lE rfl (Pz h1 h2)))
 refine aU s3 rfl (fU (d:=14) (st1:=s2) rfl (.val (.int (ig (decide (78∈bC k)) (decide (85∈bC k))))) (nK (d:=13) (.val (.int (if decide (78∈bC k) then 1 else 0))) (.val (.int (if decide (85∈bC k) then 2 else 0))) rfl
  (mX (d:=12) (decide (78∈bC k)) rfl (dI (d:=11) (.val (.str (Str.ofString "N"))) (.val (lF k)) rfl rfl (by done) rfl (by done) rfl rfl (show isIn (.str (Str.ofString "N")) (lF k)=_ from wh 78 (bC k) (by decide +kernel))) (by cases decide (78∈bC k)<;>done)) rfl
  (mX (d:=12) (decide (85∈bC k)) rfl (dI (d:=11) (.val (.str (Str.ofString "U"))) (.val (lF k)) rfl rfl (by done) rfl (by done) rfl rfl (show isIn (.str (Str.ofString "U")) (lF k)=_ from wh 85 (bC k) (by decide +kernel))) (by cases decide (85∈bC k)<;>done)) rfl rfl (ux ?_ ?_)) (by done)) (aU s4 rfl (by done) (bQ rfl))
 ·cases decide (78∈bC k)<;>exact ⟨by decide,by decide⟩
 ·cases decide (85∈bC k)<;>exact ⟨by decide,by decide⟩
theorem Bu{due:List Int}(L1 L2:LS)(got:Int)(node:MV)(hk:KK k)(fG:Kd due)(nY:L1.U.length<=99990)(h:gB (n+16) 612 [.v (.obj 4),.v node,.v (.int (eT L1.U k))] (LS.sU L1 (kU L1.U k)) (.val (.int got)) L2)(hU:L2.U.length<=100000)(hg:got=eT L2.U due):∃loc',Go (n+16) 15 j7 (fnOf 1392).body.tail.tail.tail.tail.tail ⟨gC node o k due,L1.o⟩ (.ret (.val (iL due))) ⟨loc',LS.o (LS.sU L2 (kU L2.U due))⟩:=by
 let t1:St:=⟨gC node o k due,L1.o⟩;let t2:St:=⟨gC node o k due,LS.o (LS.sU L1 (kU L1.U k))⟩;let t3:St:=⟨gC node o k due++[V "got" (.int got)],L2.o⟩;let t4:St:=⟨gC node o k due++[V "got" (.int got)],LS.o (LS.sU L2 (kU L2.U due))⟩;refine ⟨t4.loc,aU t3 rfl (fU (d:=14) (st1:=⟨t1.loc,L2.o⟩) rfl (.val (.int got)) (dO (d:=13) 612 (st1:=t2) (as:=[.val (.obj 4),.val node,.val (.int (eT L1.U k))]) rfl rfl rfl (by done) (gM (.val (.obj 4)) (st1:=t1) rfl (by done) rfl (gM (.val node) (st1:=t1) rfl (by done) rfl (ie (.val (.int (eT L1.U k))) rfl rfl (dO (d:=12) 1356 (st1:=t1) (as:=[.val (.obj 14),.val (iL k)]) rfl rfl rfl (by done) (by done) rfl rfl (sL (n:=n+11) hk.kd (by lia) _ _ _) rfl) rfl))) rfl rfl (h _ _ _) rfl) (by done))
  (gc rfl (iC (d:=14) rfl (xq (d:=13) (c:=true) (st1:=t4) rfl (zh (d:=12) (.val (.int got)) (.val (.int (eT L2.U due))) (st1:=t3) rfl rfl (by done) rfl (dO (d:=11) 1356 (st1:=t3) (as:=[.val (.obj 14),.val (iL due)]) rfl rfl rfl (by done) (by done) rfl rfl (sL (n:=n+11) fG hU _ _ _) rfl) rfl rfl ?_) (by done))))⟩
 show gm (.int _) (.int _)=_;rw[iJ,aa hg]
def An:Stmt:=hd (fnOf 1392).body.tail.tail.tail.tail
def wM:Stmt:=hd (el An)
def IY:Stmt:=hd (bo wM)
def JY:Stmt:=hd (bo wM).tail
abbrev LS.says(L:LS)(r:Int×Int×List MV):LS:=(LS.CF L (L.told++[r]))
theorem yM{d:Nat}{lc:List (Str×LV)}{r:Int×Int×List MV}{st:Stmt}{L1:LS}(he:st=.Expr (sv st) st.pos)(hc:nB (sv st)=false)(rN:sv st=.Call (.Attribute (x1 (x1 (sv st))) (xn (x1 (sv st))) (x1 (sv st)).pos) (xl (sv st)) [] (sv st).pos)
  (hn:(n6 (x1 (x1 (sv st)))&&(xl (sv st)).all noStar&&(xl (sv st)).length<29&&Nat.beq (x1 (sv st)).pos.endLine (sv st).pos.line)=true) (hx:xn (x1 (sv st))=Str.ofString "append")
  (h1:(rn n (d+1)).e j7 (x1 (x1 (sv st))) ⟨lc,L.o⟩=some (.cont (.slot 14 (Str.ofString "told")),⟨lc,L.o⟩)) (hl:fC ((rn n (d+1)).e j7) (xl (sv st)) ⟨lc,L.o⟩=some ([.val (gZ r)],⟨lc,L1.o⟩)) (hk:jI j7 ((xl (sv st)).all isSimple) [.val (gZ r)]=true) (ht:L1.told.length<1000):(rn n (d+3)).s j7 st ⟨lc,L.o⟩=some (.bN,⟨lc,(L1.says r).o⟩):=by
 have hb:(gX (.cont (.slot 14 (Str.ofString "told")))&&!(xl (sv st)).all isSimple&&j7.rb)=false:=by have:j7.rb=false:=rfl;rw[this,Bool.and_false]
 refine i9 (d:=d+2) (.val .none) he hc (gQ (d:=d+1) (st1:=⟨lc,L.o⟩) (st2:=⟨lc,L1.o⟩) (as:=[.val (gZ r)]) (mf:=none) (.cont (.slot 14 (Str.ofString "told"))) rN hn h1 (by rw[hx];done) hl hk (lE hb ?_)) rfl;rw[hx];refine o7 (gZ r) (.slot 14 (Str.ofString "told")) (L1.told.map gZ) (by done) (by rw[aj];exact aZ ht (by decide)) rfl ?_;have:L1.told.map gZ++[gZ r]=(L1.says r).told.map gZ:=by show _=(L1.told++[r]).map gZ;rw[bB];rfl
 rw[this]
 done
theorem PA(hk:KK k)(hr:iP k)(hw:WP o p)(hU:L.U.length<=99990)(ht:L.told.length<1000)(rK:(decide (78∈bC k)||decide (85∈bC k))=true) :
  ∃U1,(U1=L.U\/U1=kU L.U k)/\(rn (n+16) 11).s j7 IY ⟨gC (bU kd a kids fl at') o k k,L.o⟩=some (.bN,⟨gC (bU kd a kids fl at') o k k,LS.o (LS.CF (LS.sU L U1) (L.told++[(lI kd p (decide (78∈bC k)) (decide (85∈bC k)),at',kg kd (eT L.U k) p)]))⟩):=by
 let node:=bU kd a kids fl at';let s:St:=⟨gC node o k k,L.o⟩;have e1:(rn (n+16) 10).t j7 (sv IY) s=some (decide (kd∈[6,7]),s):=dI (d:=9) (.val (.int kd)) (.val (nums [6,7])) rfl rfl (by done) rfl (by done) rfl rfl (show isIn (.int kd) (.tup ([6,7].map .int))=_ from qT kd [6,7]);by_cases q:kd=6\/kd=7
 ·have hq:decide (kd∈[6,7])=true:=aa (by (revert q;refine eS (λcF=>?_) (λcF=>?_)<;>obtain rfl:=cF)<;>decide);rw[hq]at e1;have hlen:(kU L.U k).length<=100000:=by have:=mq L.U k;lia
  have mh:0<=eT L.U k/\eT L.U k<=1000000:=by have hh:=qd L.U (cZ k);rw[(jY L.U hr).2]at hlen;rw[(jY L.U hr).1,<-hh.2];have:=ua hh.1 (lU hr) hlen;exact ⟨this.1,this.2.1⟩
  have dj:uP (.int (eT L.U k))=some (.str (kY (eT L.U k))):=by show (if _ then _ else _)=_;rw[aa mh.1,aa mh.2];rfl
  refine ⟨kU L.U k,Or.inr rfl,?_⟩;have:(lI kd p (decide (78∈bC k)) (decide (85∈bC k)),at',kg kd (eT L.U k) p)=(18050,at',[.str (kY (eT L.U k))]):=by unfold lI kg;rw[aq q,aq q]
  rw[this];let L1:LS:=(LS.sU L (kU L.U k));let s':St:=⟨gC node o k k,L1.o⟩;refine iE (d:=9) (st1:=s) true rfl e1 (aU ⟨s.loc,(L1.says (18050,at',[.str (kY (eT L.U k))])).o⟩ rfl (yM (d:=6) (L1:=L1) rfl rfl rfl rfl (by rfl) (by done) (ie (.val (gZ (18050,at',[.str (kY (eT L.U k))]))) rfl rfl (oq (d:=6) (as:=[.val (.int 18050),.val (.int at'),.val (.tup [.str (kY (eT L.U k))])]) rfl rfl (gM (.val (.int 18050)) (st1:=s) rfl (by done) rfl (gM (.val (.int at')) (st1:=s) rfl (by done) rfl (ie (.val (.tup [.str (kY (eT L.U k))])) rfl rfl
   (oq (d:=5) (as:=[.val (.str (kY (eT L.U k)))]) rfl rfl (ie (.val (.str (kY (eT L.U k)))) rfl rfl (CE (d:=4) (nm:="str") (as:=[.val (.int (eT L.U k))]) rfl rfl (by done) (ie (.val (.int (eT L.U k))) rfl rfl (dO (d:=3) 1356 (st1:=s) (as:=[.val (.obj 14),.val (iL k)]) rfl rfl rfl (by done) (by done) rfl rfl (sL (n:=n+11) hk.kd (by lia) _ _ _) rfl) rfl) rfl ?_) rfl) rfl) rfl))) rfl) rfl) rfl ht) (bQ rfl))
  show Option.map _ (uP (.int (eT L.U k)))=_;rw[dj];rfl
 ·have hq:decide (kd∈[6,7])=false:=ao (by simpa using q);rw[hq]at e1;refine ⟨L.U,Or.inl rfl,?_⟩;have Kz:Small (ig (decide (78∈bC k)) (decide (85∈bC k))):=by cases decide (78∈bC k)<;>cases decide (85∈bC k)<;>exact ⟨by decide,by decide⟩
  rcases hw.ok with ⟨rfl,rfl⟩ | ⟨ws,rfl,rfl,jd,_,_⟩
  ·have:(lI kd cU (decide (78∈bC k)) (decide (85∈bC k)),at',kg kd (eT L.U k) cU)=(2530+ig (decide (78∈bC k)) (decide (85∈bC k)),at',[]):=by unfold lI kg;rw[au q,au q,au (λh=>h rfl),au (λh=>h rfl)]
   rw[this];refine iE (d:=9) (st1:=s) false rfl e1 (dX (d:=7) (st1:=s) (st2:=⟨s.loc,(L.says (2530+ig (decide (78∈bC k)) (decide (85∈bC k)),at',[])).o⟩) true rfl rfl (by done) (aU _ rfl (yM (d:=4) (L1:=L) rfl rfl rfl rfl (by rfl) (by done) (ie (.val (gZ (2530+ig (decide (78∈bC k)) (decide (85∈bC k)),at',[]))) rfl rfl
    (oq (d:=4) (as:=[.val (.int (2530+ig (decide (78∈bC k)) (decide (85∈bC k)))),.val (.int at'),.val (.tup [])]) rfl rfl (gM (.val (.int (2530+ig (decide (78∈bC k)) (decide (85∈bC k))))) (st1:=s) rfl (nK (d:=3) (.val (.int 2530)) (.val (.int (ig (decide (78∈bC k)) (decide (85∈bC k))))) rfl (by done) rfl (by done) rfl rfl (by exact ux ⟨by decide,by decide⟩ Kz)) rfl (by done)) rfl) rfl) rfl ht) (bQ rfl)) (bQ rfl))
  ·have:(lI kd (gP f6 ws) (decide (78∈bC k)) (decide (85∈bC k)),at',kg kd (eT L.U k) (gP f6 ws))=(18046+ig (decide (78∈bC k)) (decide (85∈bC k)),at',[.str (gP f6 ws)]):=by unfold lI kg;rw[au q,au q,aq jd,aq jd]
   rw[this];refine iE (d:=9) (st1:=s) false rfl e1 (dX (d:=7) (st1:=s) (st2:=⟨s.loc,(L.says (18046+ig (decide (78∈bC k)) (decide (85∈bC k)),at',[.str (gP f6 ws)])).o⟩) false rfl rfl (by done) (aU _ rfl (yM (d:=4) (L1:=L) rfl rfl rfl rfl (by rfl) (by done) (ie (.val (gZ (18046+ig (decide (78∈bC k)) (decide (85∈bC k)),at',[.str (gP f6 ws)]))) rfl rfl
    (oq (d:=4) (as:=[.val (.int (18046+ig (decide (78∈bC k)) (decide (85∈bC k)))),.val (.int at'),.val (.tup [.str (gP f6 ws)])]) rfl rfl (gM (.val (.int (18046+ig (decide (78∈bC k)) (decide (85∈bC k))))) (st1:=s) rfl (nK (d:=3) (.val (.int 18046)) (.val (.int (ig (decide (78∈bC k)) (decide (85∈bC k))))) rfl (by done) rfl (by done) rfl rfl (by exact ux ⟨by decide,by decide⟩ Kz)) rfl (by done)) rfl) rfl) rfl ht) (bQ rfl)) (bQ rfl))
def jy(c:Nat):MV:=.str ⟨#[c]⟩
def lZ(v:MV):Bool:=match v with
 | .str t=>!([78,85,86].any λx=>decide (some x=t.cps.toList.head?))
 | _=>true
theorem Hp(c:Nat):lZ (jy c)=decide (c∉[78,85,86]):=by
 show (!([78,85,86].any λx=>decide (some x=some c)))=_;have:∀l:List Nat,(!(l.any λx=>decide (some x=some c)))=decide (c∉l):=by
  intro l;induction l with
  | nil=>rfl
  | cons x r ih=>
   rw[dF,Bool.not_or,ih];by_cases q:x=c
   ·subst q;simp
   ·simp[q,Ne.symm q]
 exact this _
theorem PB(hk:Kd k):(bC k).length<=60:=by
 have h:∀(l:List Int),(∀a∈l,At a)->(bC l).length<=3*l.length:=by
  intro l;induction l with
  | nil=>intro _;exact az _
  | cons x r ih=>
   intro hx;have h1:=ih λa ha=>hx a (aO _ ha);have h2:(kq x).length<=3:=by cases hx x aE<;>decide
   unfold bC at h1 |-;rw[List.flatMap_cons,ay,aR];lia
 have:=h k hk.at;have:=hk.len;lia
def mY(k:List Int):List Int:=if (bC k).any (λc=>decide (c∉[78,85,86])) then f5 k else [21]
theorem Rk(hk:KK k)(node:MV)(σ:eN):(rn (n+16) 11).s j7 JY ⟨gC node o k k,σ⟩=some (.bN,⟨gC node o k (mY k),σ⟩):=by
 let s0:St:=⟨gC node o k k,σ⟩;let ec:=(xl (x1 (x1 (sv JY)))).headD default;have hl:=PB hk.kd;have mH:(((bC k).map jy).filter lZ).length<=60:=aW (cV _ _) (by rw[aj];exact hl);have hc:(rn (n+16) 7).e j7 ec s0=some (.fresh (.lst (((bC k).map jy).filter lZ)),s0):=by
  refine lT (d:=6) (vs:=(bC k).map jy) (ins:=false) (st1:=s0) rfl (by done) (by done) ?_ (by rw[aj];exact aF hl (by decide));have:=rR (n:=n+16) (d:=6) (cx:=⟨iO ec,(false||false),RB 1392,true⟩) (ifs:=xl ec) (elt:=x1 ec) (x:=Str.ofString "one") (outer:=s0.loc.map eY) (σ:=σ) lZ (λv=>v) ((bC k).map jy) (λv hv=>by
   refine bz (aN.mp hv) λc hc bZ=>?_;obtain rfl:=bZ;let s':St:=⟨V "one" (jy c)::s0.loc.map eY,σ⟩;refine ⟨s'.loc,?_,λZ=>⟨.val (jy c),s'.loc,by done,rfl⟩⟩;have:(rn (n+16) 6).t ⟨iO ec,(false||false),RB 1392,true⟩ ((xl ec).headD default) s'=some (lZ (jy c),s'):=dI (d:=5) (.val (jy c)) (.val (.str (Str.ofString "NUV"))) rfl rfl (by done) rfl (by done) rfl rfl (by
    have e:Str.ofString "NUV"=⟨[78,85,86].toArray⟩:=by done
    show (isIn (jy c) (.str (Str.ofString "NUV"))).map _=_;rw[e,jy,wh c [78,85,86] rfl,<-jy,Hp];show some (!decide (c∈[78,85,86]))=some (decide (c∉[78,85,86]));rw[decide_not])
   show jM _ _ _=some (lZ (jy c),s');cases q:lZ (jy c) with
   | true=>rw[q]at this;exact lQ rfl this (all_nil rfl)
   | false=>rw[q]at this;exact nI rfl this)
  rw[List.map_id']at this;exact this
 have Du:decide (((((bC k).map jy).filter lZ).length:Int)>0)=(bC k).any λc=>decide (c∉[78,85,86]):=by
  have:∀l:List Nat,decide ((((l.map jy).filter lZ).length:Int)>0)=l.any λc=>decide (c∉[78,85,86]):=by
   intro l;induction l with
   | nil=>rfl
   | cons c r ih=>
    rw[dF,<-ih,bP,<-Hp c];cases q:lZ (jy c) with
    | true=>rw[dY q,Bool.true_or];exact aa (by rw[aR];lia)
    | false=>rw[dZ (by rw[q];decide),dK]
  exact this _
 refine fU (d:=10) (st1:=s0) rfl (match (bC k).any (λc=>decide (c∉[78,85,86])) with | true=>.val (iL (f5 k)) | false=>.fresh (iL [21])) (mX (d:=9) ((bC k).any λc=>decide (c∉[78,85,86])) rfl (dI (d:=8) (.val (.int ((((bC k).map jy).filter lZ).length:Int))) (.val (.int 0)) rfl rfl
  (pg (d:=7) (nm:="len") (as:=[.fresh (.lst (((bC k).map jy).filter lZ))]) rfl rfl (by done) (ie (.fresh (.lst (((bC k).map jy).filter lZ))) rfl rfl hc rfl) rfl (show Option.map _ (if (((bC k).map jy).filter lZ).length<=bE then _ else none)=_ by rw[aq (aW mH (by decide))];rfl)) rfl (by done) rfl rfl (show some (decide (((((bC k).map jy).filter lZ).length:Int)>0))=_ by rw[Du])) ?_) ?_
 ·cases (bC k).any λc=>decide (c∉[78,85,86]) with
  | true=>exact dO (d:=8) 1361 (st1:=s0) (as:=[.val (iL k)]) rfl rfl rfl (by done) (by done) rfl rfl (B3 (n:=n+14) hk.kd) rfl
  | false=>done
 ·unfold mY;cases (bC k).any λc=>decide (c∉[78,85,86]) with
  | true=>rw[aq rfl];done
  | false=>rw[au (by decide)];done
theorem KK.Sy{k:List Int}(h:KK k)(hr:iP k)(hc:78∈bC k\/85∈bC k):j6 k:=by
 rcases h with h | h | h
 ·exact h
 ·have:=Rc h;revert hc;refine eS (λq=>?_) λq=>?_
  ·exact absurd q this.2.1
  ·exact absurd q this.1
 ·rcases h with rfl | rfl | rfl
  ·exact absurd rfl (uA hr).1
  ·exact absurd rfl (uA hr).2.1
  ·exact absurd rfl (uA hr).2.2
theorem Ia(hr:iP k):KK (mY k):=by
 unfold mY;split
 ·exact Or.inr (Or.inl (sr hr))
 ·exact Or.inr (Or.inr (Or.inr (Or.inr rfl)))
theorem TS{d:Nat}(I:Inv L m)(S:Sz L s)(hs:s<=900)(hk:KK k)(hw:WP o p)(hP:PT d (bU kd a kids fl at') p)(fG:d<=10)(hm:m<=at')(tT:k=[19]):∃L' due,gB (n+17) 1392 [.v (.obj 14),.v (bU kd a kids fl at'),.v (lA o),.v (iL k)] L (.val (iL due)) L'/\Inv L' (at'+1)/\Sz L' (s+4)/\L'.bD=L.bD/\KK due:=by
 let node:=bU kd a kids fl at';have B:=Inv.pA S hs;have h0:=λσ=>Bt (n:=n) hk hw node σ;have hn:∀x∈L.dg,x.2.1≠at':=λx hx=>by have:=I.told x hx;lia
 have pU:=mq L.U k;have oR:∀σ,(rn (n+16) 14).t j7 (sv An) ⟨gC node o k k,σ⟩=some (decide (k=[19]),⟨gC node o k k,σ⟩):=λσ=>dI (d:=13) (.val (iL k)) (.fresh (iL [19])) rfl rfl (by done) rfl (by done) rfl rfl (show gm (iL k) (iL [19])=_ from qc k [19]);have rN:∀σ,(rn (n+16) 12).t j7 (sv wM) ⟨gC node o k k,σ⟩=some (decide (78∈bC k)||decide (85∈bC k),⟨gC node o k k,σ⟩):=λσ=>dI (d:=11) (.val (.int (ig (decide (78∈bC k)) (decide (85∈bC k))))) (.val (.int 0)) rfl rfl (by done) rfl (by done) rfl rfl (by cases decide (78∈bC k)<;>cases decide (85∈bC k)<;>rfl);have zm:∀(r:Int×Int×List MV),r.2.1=at'->∀x∈L.dg++[r],x.2.1<at'+1:=λr hr x hx=>by
  refine bu (bX.mp hx) (λh=>?_) λh=>?_
  ·have:=I.told x h;lia
  ·rw[aA.mp h,hr];lia
 subst tT;let row:Int×Int×List MV:=(if p≠cU then 18046 else 2571,at',if p≠cU then [.str p] else []);let L1:LS:=L.says row;let L2:LS:=L1.tell row.1 at' row.2.2;have u0:=NH (n:=n+2) (L:=L1) (a:=a) (kids:=kids) (fl:=fl) (k:=kd) hP fG B.p.2.1 hn;refine cg (Bu (n:=n) (o:=o) (k:=[19]) (due:=[21]) L1 L2 13 node hk (Or.inr (Or.inr (Or.inr rfl))) B.p.1 u0 (by show L.U.length<=_;have:=B.p.1;lia) rfl) λloc' h5=>?_;refine ⟨L2,[21],λsc rb cp=>eX (loc:=qJ node o [19]) (loc':=loc') rfl rfl rfl (lR 4 (h0 L.o) (dX (d:=13) (st1:=⟨gC node o [19] [19],L.o⟩) (st2:=⟨gC node o [19] [21],L1.o⟩) true rfl rfl (oR L.o) ?_ h5)),?_,?_,rfl,Or.inr (Or.inr (Or.inr (Or.inr rfl)))⟩
 ·let s0:St:=⟨gC node o [19] [19],L.o⟩;refine aU ⟨s0.loc,L1.o⟩ rfl (yM (d:=10) (L1:=L) (r:=row) rfl rfl rfl rfl (by rfl) (by done) (ie (.val (gZ row)) rfl rfl (mX (d:=10) (decide (o=none)) rfl ?_ ?_) rfl) rfl (by rw[<-I.dg];exact B.p.2.1)) (g5 (by done))
  ·rcases hw.ok with ⟨rfl,rfl⟩ | ⟨ws,rfl,rfl,jd,_,_⟩<;>done
  ·rcases hw.ok with ⟨rfl,rfl⟩ | ⟨ws,rfl,rfl,jd,_,_⟩
   ·done
   ·have:row=(18046,at',[.str (gP f6 ws)]):=by show (_,_,_)=_;rw[aq jd,aq jd]
    rw[this];done
 ·exact ⟨I.ch,I.mG,by show L.dg++[_]=L.told++[_];rw[I.dg],I.nt,I.bg,I.dp,I.ty,zm _ rfl,I.nums,I.mem,λx hx=>by
   refine bu (bX.mp hx) (λh=>?_) λh=>?_
   ·exact I.ar x h
   ·rw[aA.mp h];show uN (if p≠cU then [.str p] else []);split
    ·exact λa ha=>⟨p,aA.mp ha⟩
    ·exact λa ha=>absurd ha aX⟩
 ·have:=S.mono (cA s 4);exact ⟨this.U,by show (L.dg++[_]).length<=_;rw[ay];show L.dg.length+1<=_;have:=S.dg;lia,this.nt,this.ty,this.tr,this.bg,this.mem,this.cI,this.bD⟩
theorem TU{d:Nat}(I:Inv L m)(S:Sz L s)(hs:s<=900)(hk:KK k)(hw:WP o p)(hP:PT d (bU kd a kids fl at') p)(fG:d<=10)(hm:m<=at')(tT:k≠[19])(qn:(decide (78∈bC k)||decide (85∈bC k))=true):∃L' due,gB (n+17) 1392 [.v (.obj 14),.v (bU kd a kids fl at'),.v (lA o),.v (iL k)] L (.val (iL due)) L'/\Inv L' (at'+1)/\Sz L' (s+4)/\L'.bD=L.bD/\KK due:=by
 let node:=bU kd a kids fl at';have B:=Inv.pA S hs;have h0:=λσ=>Bt (n:=n) hk hw node σ;have hn:∀x∈L.dg,x.2.1≠at':=λx hx=>by have:=I.told x hx;lia
 have pU:=mq L.U k;have oR:∀σ,(rn (n+16) 14).t j7 (sv An) ⟨gC node o k k,σ⟩=some (decide (k=[19]),⟨gC node o k k,σ⟩):=λσ=>dI (d:=13) (.val (iL k)) (.fresh (iL [19])) rfl rfl (by done) rfl (by done) rfl rfl (show gm (iL k) (iL [19])=_ from qc k [19]);have rN:∀σ,(rn (n+16) 12).t j7 (sv wM) ⟨gC node o k k,σ⟩=some (decide (78∈bC k)||decide (85∈bC k),⟨gC node o k k,σ⟩):=λσ=>dI (d:=11) (.val (.int (ig (decide (78∈bC k)) (decide (85∈bC k))))) (.val (.int 0)) rfl rfl (by done) rfl (by done) rfl rfl (by cases decide (78∈bC k)<;>cases decide (85∈bC k)<;>rfl);have zm:∀(r:Int×Int×List MV),r.2.1=at'->∀x∈L.dg++[r],x.2.1<at'+1:=λr hr x hx=>by
  refine bu (bX.mp hx) (λh=>?_) λh=>?_
  ·have:=I.told x h;lia
  ·rw[aA.mp h,hr];lia
 have oR:=oR L.o;rw[ao tT]at oR;have hc:78∈bC k\/85∈bC k:=by simpa using qn
 have hr:iP k:=by
  rcases hk.kd with h | h | rfl | rfl
  ·exact h
  ·exact absurd h tT
  ·exact absurd hc (by decide)
  ·exact absurd hc (by decide)
 have zY:=hk.Sy hr hc;refine bz (PA (n:=n) (L:=L) (k:=k) (kd:=kd) (a:=a) (kids:=kids) (fl:=fl) (at':=at') hk hr hw B.p.1 (by rw[<-I.dg];exact B.p.2.1) qn) λU1 nY et=>?_;let row:Int×Int×List MV:=(lI kd p (decide (78∈bC k)) (decide (85∈bC k)),at',kg kd (eT L.U k) p);let L1:LS:=(LS.CF (LS.sU L U1) (L.told++[row]));have DE:eT U1 k=eT L.U k/\kU U1 k=kU L.U k:=by
  revert nY;refine eS (λh=>?_) λh=>?_
  ·rw[h];exact ⟨rfl,rfl⟩
  ·rw[h];exact yz hk.kd
 have YX:U1.length<=L.U.length+1:=by
  revert nY;refine eS (λh=>?_) λh=>?_
  ·rw[h];lia
  ·rw[h];exact pU
 let L2:LS:=(LS.sU L1 (kU L1.U k));have DF:L2.U=gr L.U (cZ k):=by show kU U1 k=_;rw[DE.2,(jY L.U hr).2]
 have hh:=qd L.U (cZ k);have hlen:(gr L.U (cZ k)).length<=100000:=by have:=r7 L.U (cZ k);have:=B.p.1;lia
 have ht:eT L1.U k=uid (gr L.U (cZ k)) (cZ k):=by show eT U1 k=_;rw[DE.1,(jY L.U hr).1,hh.2]
 have mh:=ua hh.1 (lU hr) hlen;have u0:=NG (n:=n+2) (L:=L2) (t:=eT L1.U k) (l:=cZ k) (k:=kd) (a:=a) (kids:=kids) (fl:=fl) (at':=at') (λL' X6=>by rw[ht];exact vG hr hh.1 L' (X6.trans DF) hlen) (lU hr) (vW hr) (by rw[ht];exact ⟨mh.2.2.1,mh.2.2.2.1,mh.2.2.2.2⟩) (by rw[ht];exact ⟨mh.1,mh.2.1⟩)
  (by rw[er,aK,aK,yV hr,yU hr];exact hc) hP fG B.p.2.1 hn (by rw[DF];exact hlen)
 have e5:decide (5∈fF (cZ k))=decide (78∈bC k):=decide_eq_decide.mpr (yV hr);have e4:decide (4∈fF (cZ k))=decide (85∈bC k):=decide_eq_decide.mpr (yU hr);have rF:eT L1.U k=eT L.U k:=DE.1;rw[e5,e4,B9 hr,rF]at u0;let L3:LS:={L2.tell row.1 at' row.2.2 with U:=gr L2.U (cZ (f5 k))};have YY:L3.U.length<=L.U.length+2:=by
  have h1:=r7 L2.U (cZ (f5 k));have h2:=r7 L.U (cZ k);show (gr L2.U (cZ (f5 k))).length<=_;have:L2.U.length<=L.U.length+1:=by rw[DF];exact h2
  lia
 have ho:=(sr hr).1;have VP:(if kQ (cZ k)≠[]/\uid L2.U (cZ (f5 k))≠2 then uid L2.U (cZ (f5 k)) else 13)=eT L3.U (mY k):=by
  unfold mY;have hl:=Pu zY;by_cases q:∃c∈bC k,c∉[78,85,86]
  ·have ha:((bC k).any λc=>decide (c∉[78,85,86]))=true:=cE.mpr (by (revert q;refine gp λc h1 h2=>?_);exact ⟨c,h1,aa h2⟩);rw[aq ⟨hl.mpr q,Py zY q _⟩,ha,aq rfl,(jY L3.U ho).1];exact (qd L2.U (cZ (f5 k))).2.symm
  ·have ha:((bC k).any λc=>decide (c∉[78,85,86]))=false:=by
    cases hx:(bC k).any λc=>decide (c∉[78,85,86]) with
    | false=>rfl
    | true=>refine bz (cE.mp hx) λc h1 h2=>?_;exact absurd ⟨c,h1,ai h2⟩ q
   rw[au (λh=>q (hl.mp h.1)),ha,au (by decide)];rfl
 refine cg (Bu (n:=n) (o:=o) (k:=k) (due:=mY k) L1 L3 _ node hk (Ia hr).kd (by show U1.length<=99990;have:=S.U;lia) (rF▸u0) (by have:=B.p.1;lia) VP) λloc' h5=>?_;rw[qn]at rN;refine ⟨(LS.sU L3 (kU L3.U (mY k))),mY k,λsc rb cp=>eX (loc:=qJ node o k) (loc':=loc') rfl rfl rfl (lR 4 (h0 L.o) (dX (d:=13) (st1:=⟨gC node o k k,L.o⟩) (st2:=⟨gC node o k (mY k),L1.o⟩) false rfl rfl oR (dX (d:=11) (st1:=⟨gC node o k k,L.o⟩) (st2:=⟨gC node o k (mY k),L1.o⟩) true rfl rfl (rN L.o) (aU _ rfl et (aU _ rfl (Rk (n:=n) hk node L1.o) (bQ rfl))) (bQ rfl)) h5)),?_,?_,rfl,Ia hr⟩
 ·exact ⟨I.ch,I.mG,by show L.dg++[_]=L.told++[_];rw[I.dg],I.nt,I.bg,I.dp,I.ty,zm row rfl,I.nums,I.mem,λx hx=>by
   refine bu (bX.mp hx) (λh=>?_) λh=>?_
   ·exact I.ar x h
   ·rw[aA.mp h];show uN (kg kd (eT L.U k) p);unfold kg;split
    ·exact λa ha=>⟨_,aA.mp ha⟩
    ·split
     ·exact λa ha=>⟨p,aA.mp ha⟩
     ·exact λa ha=>absurd ha aX⟩
 ·have:=S.mono (cA s 4);refine ⟨?_,by show (L.dg++[_]).length<=_;rw[ay];show L.dg.length+1<=_;have:=S.dg;lia,this.nt,this.ty,this.tr,this.bg,this.mem,this.cI,this.bD⟩;show (kU L3.U (mY k)).length<=_;have h1:=mq L3.U (mY k);have h2:=S.U;lia
theorem TV{d:Nat}(I:Inv L m)(S:Sz L s)(hs:s<=900)(hk:KK k)(hw:WP o p)(hP:PT d (bU kd a kids fl at') p)(fG:d<=10)(hm:m<=at')(tT:k≠[19])(qn:¬(decide (78∈bC k)||decide (85∈bC k))=true):∃L' due,gB (n+17) 1392 [.v (.obj 14),.v (bU kd a kids fl at'),.v (lA o),.v (iL k)] L (.val (iL due)) L'/\Inv L' (at'+1)/\Sz L' (s+4)/\L'.bD=L.bD/\KK due:=by
 let node:=bU kd a kids fl at';have B:=Inv.pA S hs;have h0:=λσ=>Bt (n:=n) hk hw node σ;have hn:∀x∈L.dg,x.2.1≠at':=λx hx=>by have:=I.told x hx;lia
 have pU:=mq L.U k;have oR:∀σ,(rn (n+16) 14).t j7 (sv An) ⟨gC node o k k,σ⟩=some (decide (k=[19]),⟨gC node o k k,σ⟩):=λσ=>dI (d:=13) (.val (iL k)) (.fresh (iL [19])) rfl rfl (by done) rfl (by done) rfl rfl (show gm (iL k) (iL [19])=_ from qc k [19]);have rN:∀σ,(rn (n+16) 12).t j7 (sv wM) ⟨gC node o k k,σ⟩=some (decide (78∈bC k)||decide (85∈bC k),⟨gC node o k k,σ⟩):=λσ=>dI (d:=11) (.val (.int (ig (decide (78∈bC k)) (decide (85∈bC k))))) (.val (.int 0)) rfl rfl (by done) rfl (by done) rfl rfl (by cases decide (78∈bC k)<;>cases decide (85∈bC k)<;>rfl);have zm:∀(r:Int×Int×List MV),r.2.1=at'->∀x∈L.dg++[r],x.2.1<at'+1:=λr hr x hx=>by
  refine bu (bX.mp hx) (λh=>?_) λh=>?_
  ·have:=I.told x h;lia
  ·rw[aA.mp h,hr];lia
 have oR:=oR L.o;rw[ao tT]at oR;have qf:(decide (78∈bC k)||decide (85∈bC k))=false:=by cases hx:(decide (78∈bC k)||decide (85∈bC k)) with | false=>rfl | true=>exact absurd hx qn
 have hc:78∉bC k/\85∉bC k:=by simpa using qf
 rw[qf]at rN;let L2:LS:=(LS.sU L (kU L.U k));have u0:gB (n+16) 612 [.v (.obj 4),.v node,.v (.int (eT L.U k))] L2 (.val (.int (eT L.U k))) L2:=by
  intro sc rb cp;rcases hk.kd with hr | h | rfl | rfl
  ·have hh:=qd L.U (cZ k);have hlen:(gr L.U (cZ k)).length<=100000:=by have:=r7 L.U (cZ k);have:=B.p.1;lia
   have mh:=ua hh.1 (lU hr) hlen;rw[(jY L.U hr).1,<-hh.2];exact Po (n:=n+2) (L:=L2) (vG hr hh.1 L2 (jY L.U hr).2 hlen) (lU hr) (vW hr) ⟨mh.2.2.1,mh.2.2.2.1,mh.2.2.2.2⟩ (λq=>hc.1 ((yV hr).mp q)) (λq=>hc.2 ((yU hr).mp q)) _
  ·exact absurd h tT
  ·exact GF (n:=n+2) (L:=L2) (Or.inl rfl) _
  ·exact GF (n:=n+2) (L:=L2) (Or.inr rfl) _
 refine cg (Bu (n:=n) (o:=o) (k:=k) (due:=k) L L2 _ node hk hk.kd B.p.1 u0 (by show (kU L.U k).length<=_;have:=B.p.1;lia) (yz hk.kd).1.symm) λloc' h5=>?_;refine ⟨(LS.sU L2 (kU L2.U k)),k,λsc rb cp=>eX (loc:=qJ node o k) (loc':=loc') rfl rfl rfl (lR 4 (h0 L.o) (dX (d:=13) (st1:=⟨gC node o k k,L.o⟩) (st2:=⟨gC node o k k,L.o⟩) false rfl rfl oR (dX (d:=11) (st1:=⟨gC node o k k,L.o⟩) (st2:=⟨gC node o k k,L.o⟩) false rfl rfl (rN L.o) (bQ rfl) (bQ rfl)) h5)),?_,?_,rfl,hk⟩
 ·exact ⟨I.ch,I.mG,I.dg,I.nt,I.bg,I.dp,I.ty,λx hx=>by have:=I.told x hx;lia,I.nums,I.mem,I.ar⟩
 ·have:=S.mono (cA s 4);refine ⟨?_,this.dg,this.nt,this.ty,this.tr,this.bg,this.mem,this.cI,this.bD⟩;show (kU L2.U k).length<=_;have h1:=mq L2.U k;have h2:L2.U.length<=L.U.length+1:=pU;have h3:=S.U;lia
theorem Fv{d:Nat}(I:Inv L m)(S:Sz L s)(hs:s<=900)(hk:KK k)(hw:WP o p)(hP:PT d (bU kd a kids fl at') p)(fG:d<=10)(hm:m<=at'):∃L' due,gB (n+17) 1392 [.v (.obj 14),.v (bU kd a kids fl at'),.v (lA o),.v (iL k)] L (.val (iL due)) L'/\Inv L' (at'+1)/\Sz L' (s+4)/\L'.bD=L.bD/\KK due:=by
 by_cases h1:k=[19]
 ·exact TS I S hs hk hw hP fG hm h1
 ·by_cases h2:(decide (78∈bC k)||decide (85∈bC k))=true
  ·exact TU I S hs hk hw hP fG hm h1 h2
  ·exact TV I S hs hk hw hP fG hm h1 h2
theorem NQ(hk:KK k)(hU:L.U.length<=99990):∃sv U',CL (n:=n) (LS.sU L (kU L.U k)) (eT L.U k) sv U'/\sv=eT U' (f5 k)/\U'.length<=L.U.length+2/\(sv≠eT L.U k↔f5 k≠k)/\KK (f5 k):=by
 rcases hk.kd with hr | rfl | rfl | rfl
 ·have hh:=qd L.U (cZ k);have e1:=jY L.U hr;have rG:=r7 L.U (cZ k);have hlen:(gr L.U (cZ k)).length<=100000:=by lia
  have mh:=ua hh.1 (lU hr) hlen;have ho:=(sr hr).1;let U1:=gr L.U (cZ k);let U2:=gr U1 (cZ (f5 k));have oM:=r7 U1 (cZ (f5 k));have h2:=qd U1 (cZ (f5 k));refine ⟨uid U1 (cZ (f5 k)),U2,⟨Or.inr ⟨?_,?_,λL1 h1 sc rb cp=>?_⟩⟩,?_,?_,?_,Or.inr (Or.inl (sr hr))⟩
  ·rw[e1.1,<-hh.2];exact mh.2.2.1
  ·rw[e1.1,<-hh.2];exact mh.2.2.2.2
  ·have h1:L1.U=U1:=h1.trans e1.2;have key:=yL (n:=n+1) (sc:=sc) (rb:=rb) (cp:=cp) (σ:=L1.o.tail) (U:=L1.U) (t:=uid U1 (cZ k)) (l:=cZ k) (λz hz=>CJ (lU hr z hz)) (vG hr hh.1 L1 h1 hlen) (vW hr) (by rw[h1];exact hlen);have key:Runs (n+13) ⟨sc,false,rb,cp⟩ 580 [.v (.obj 0),.v (.int (uid U1 (cZ k)))] L1.o (.val (.int (uid L1.U (iH (cZ k))))) (LS.o (LS.sU L1 (gr L1.U (iH (cZ k))))):=key;rw[B9 hr,h1,hh.2]at key;rw[e1.1];exact key
  ·rw[(jY U2 ho).1];exact h2.2.symm
  ·show (gr U1 (cZ (f5 k))).length<=_;have:U1.length<=L.U.length+1:=rG;lia
  ·rw[e1.1,<-hh.2];have e2:Ext U1 U2:=.put U1 _;have ht:uid U2 (cZ k)=uid U1 (cZ k):=Q3 e2 hh.1;rw[show uid (gr L.U (cZ k)) (cZ k)=uid U2 (cZ k) from ht.symm,show uid U1 (cZ (f5 k))=uid U2 (cZ (f5 k)) from h2.2.symm];constructor
   ·intro q e;exact q (by rw[e])
   ·intro q e;exact q (Rh ho hr (Rg h2.1 (hh.1.ext e2) (lU ho) (lU hr) e))
 ·refine ⟨11,L.U,⟨Or.inr ⟨show (1:Int)≠0 by decide,show (1:Int)≠13 by decide,λL1 h1 sc rb cp=>?_⟩⟩,rfl,by lia,⟨λZ=>by decide,λZ=>show (11:Int)≠1 by decide⟩,Or.inr (Or.inl ⟨⟨by decide,by decide⟩,by decide⟩)⟩;have h1:L1.U=L.U:=h1;have key:Runs (n+13) ⟨sc,false,rb,cp⟩ 580 [.v (.obj 0),.v (.int 1)] L1.o (.val (.int (uid L1.U (iH [1])))) (LS.o (LS.sU L1 (gr L1.U (iH [1])))):=yL (n:=n+1) (sc:=sc) (rb:=rb) (cp:=cp) (σ:=L1.o.tail) (U:=L1.U) (t:=1) (l:=[1]) (λz hz=>by rw[aA.mp hz];exact ⟨.u,Or.inl .e⟩) (λn cx=>lu (by done)) (by decide) (by rw[h1];lia);have e:((LS.sU L1 (gr L1.U (iH [1]))):LS)=(LS.sU L1 L.U):=by
   have:gr L1.U (iH [1])=L.U:=by rw[<-h1];rfl
   rw[this]
  rw[e]at key;exact key
 ·exact ⟨0,L.U,⟨Or.inl ⟨Or.inl rfl,rfl,rfl⟩⟩,rfl,by lia,⟨λh=>absurd rfl h,λh=>absurd rfl h⟩,Or.inr (Or.inr (Or.inr (Or.inl rfl)))⟩
 ·exact ⟨13,L.U,⟨Or.inl ⟨Or.inr rfl,rfl,rfl⟩⟩,rfl,by lia,⟨λh=>absurd rfl h,λh=>absurd rfl h⟩,Or.inr (Or.inr (Or.inr (Or.inr rfl)))⟩
def Ao(node:MV)(k:List Int):List (Str×LV):=[V "w" (.obj 14),V "node" node,V "kind" (iL k)]
def tU(node:MV)(k due:List Int):List (Str×LV):=Ao node k++[V "cx" (.obj 4),V "due" (iL due)]
theorem LY(I:Inv L m)(S:Sz L s)(hs:s<=900)(hk:KK k)(h1:at'<=L.bD):∃L' due,gB (n+18) 1399 [.v (.obj 14),.v (bU kd a kids fl at'),.v (iL k)] L (.val (.tup [bU 32 (.str cU) [bU kd a kids fl at'] 0 (L.bD+1),iL due])) L'/\Inv L' m/\Sz L' (s+4)/\L'.bD=L.bD+1/\KK due:=by
 let node:=bU kd a kids fl at';have B:=Inv.pA S hs;refine qp (NQ (n:=n+1) (L:=L) hk B.p.1) λpV U' hB X7 Ze jd KA=>?_;have pU:=mq L.U k;let due:=f5 k;let at2:=L.bD+1;let t:=eT L.U k;let La:LS:=(LS.sU L (kU L.U k));let L1:LS:=(LS.xN La (iy L.ty (.int at') (.int t)));let L2:LS:=(LS.xr L1 (L.bD+1));let L3:LS:=(LS.qg L2 (if due≠k then L.gb++[(7,at2)] else L.gb));let L4:LS:=(LS.zX L3 (jR kd L.jV at'));let L5:LS:=L4.B8 kd at' at2 t pV U';let L6:LS:=(LS.sU L5 (kU L5.U due));let c1:Ctx:=⟨(fnOf 1399).scope,false,RB 1399,false⟩;let pJ:=bU 32 (.str cU) [node] 0 at2;let s0:St:=⟨Ao node k,L.o⟩;let s1:St:=⟨Ao node k++[V "cx" (.obj 4)],L.o⟩;let s2:St:=⟨tU node k due,L.o⟩;let s3:St:=⟨tU node k due,L1.o⟩;let s4:St:=⟨tU node k due++[V "bang" pJ],L2.o⟩;let s5:St:=⟨tU node k due++[V "bang" pJ],L3.o⟩;let s6:St:=⟨tU node k due++[V "bang" pJ],L4.o⟩;let s7:St:=⟨tU node k due++[V "bang" pJ],L5.o⟩;let s8:St:=⟨tU node k due++[V "bang" pJ],L6.o⟩;have e3:(rn (n+17) 15).s c1 (hd (fnOf 1399).body.tail.tail) s2=some (.bN,s3):=by refine nJ (d:=14) (st1:=⟨s2.loc,La.o⟩) (.val (.int t)) rfl (dO (d:=13) 1356 (st1:=s2) (as:=[.val (.obj 14),.val (iL k)]) rfl rfl rfl (by done) (by done) rfl rfl (sL (n:=n+12) hk.kd (by have:=B.p.1;lia) _ _ _) rfl) (qb (st1:=⟨s2.loc,La.o⟩) (st2:=⟨s2.loc,La.o⟩) (.slot 4 (Str.ofString "types")) (.int at') L.ty (by done) rfl (by done) (by done) (H7 I.ty _) (aZ B.p.2.2.2.1 (by decide)) rfl (by done))
 have e4:(rn (n+17) 15).s c1 (hd (fnOf 1399).body.tail.tail.tail) s3=some (.bN,s4):=fU (d:=14) (st1:=⟨s3.loc,L2.o⟩) rfl (.val pJ) (dO (d:=13) 1373 (st1:=s3) (as:=[.val (.obj 14),.val (.int 32),.val (.str cU),.fresh (.lst [node]),.val (.int 0)]) rfl rfl rfl (by done) (by done) rfl rfl (BN (n:=n+14) (L:=L1) B.p.2.2.2.2.2.2.1 _ _ _) rfl) (by done);have e5:(rn (n+17) 15).s c1 (hd (fnOf 1399).body.tail.tail.tail.tail) s4=some (.bN,s5):=by
  refine iE (d:=13) (st1:=s4) (decide (due≠k)) rfl (dI (d:=13) (.val (iL due)) (.val (iL k)) rfl rfl (by done) rfl (by done) rfl rfl (show (gm (iL due) (iL k)).map _=_ by
   have:gm (iL due) (iL k)=some (decide (due=k)):=qc _ _;rw[this];by_cases q:due=k<;>simp[q])) ?_
  by_cases q:due≠k
  ·rw[aa q];have e:s5=⟨s4.loc,LS.o (LS.qg L2 (L.gb++[(7,at2)]))⟩:=by show St.mk _ (LS.o (LS.qg L2 (if due≠k then L.gb++[(7,at2)] else L.gb)))=_;rw[aq q]
   rw[e];refine aU _ rfl (i9 (d:=12) (.val .none) rfl rfl (gQ (d:=11) (st1:=s4) (st2:=s4) (as:=[.val (gH (7,at2))]) (mf:=none) (.cont (.slot 14 (Str.ofString "noted"))) rfl rfl (by done) rfl (by done) rfl (lE rfl (o7 (gH (7,at2)) (.slot 14 (Str.ofString "noted")) (L.gb.map gH) (by done) (by rw[aj,<-I.nt];exact aZ B.p.2.2.1 (by decide)) rfl ?_))) rfl) (bQ rfl);have:(L.gb++[(7,at2)]).map gH=L.gb.map gH++[gH (7,at2)]:=by rw[bB];rfl
   rw[<-this]
   done
  ·rw[ao q];have e:s5=s4:=by show St.mk _ (LS.o (LS.qg L2 (if due≠k then L.gb++[(7,at2)] else L.gb)))=_;rw[au q]
   rw[e];exact bQ rfl
 have e6:(rn (n+17) 15).s c1 (hd (fnOf 1399).body.tail.tail.tail.tail.tail) s5=some (.bN,s6):=by
  refine iE (d:=13) (st1:=s5) (decide (kd=8)) rfl (dI (d:=13) (.val (.int kd)) (.val (.int 8)) rfl rfl (by done) rfl (by done) rfl rfl (iJ kd 8)) ?_;by_cases q:kd=8
  ·rw[aa q];have e:s6=⟨s5.loc,LS.o (LS.zX L3 (kW L.jV at'))⟩:=by show St.mk _ (LS.o (LS.zX L3 (if kd=8 then kW L.jV at' else L.jV)))=_;rw[aq q]
   rw[e];refine aU _ rfl (nJ (st1:=s5) (d:=12) (.val (.int 1)) rfl (by done) (qb (st1:=s5) (st2:=s5) (.slot 14 (Str.ofString "banged")) (.int at') (L.jV.map one) (by done) rfl (by done) (by done) (yo _ _) (by rw[aj,<-I.bg];exact aZ B.p.2.2.2.2.2.1 (by decide)) rfl ?_)) (bQ rfl);rw[Bo]
   done
  ·rw[ao q];have e:s6=s5:=by show St.mk _ (LS.o (LS.zX L3 (if kd=8 then kW L.jV at' else L.jV)))=_;rw[au q]
   rw[e];exact bQ rfl
 have KC:oG L4.ty L.bD:=ty_set I.ty (eF _) h1;have X8:=H8 at' (.int t) L.ty;have hex:=NL (n:=n+1) (L:=L4) (k:=kd) (fl:=fl) (iI:=at') (at2:=at2) (t:=t) (s:=pV) (w:=-1) (a:=a) (a2:=.str cU) (kids:=kids) (U':=U') (m:=L.bD) KC (by show L.bD<L.bD+1;lia) (by have:=S.bD.1;show L.bD+1≠0;lia) (NJ at' (.int t) L.ty) ⟨hB.run⟩ B.p.2.2.2.2.2.1 B.p.2.2.1 (by show (iy L.ty (.int at') (.int t)).length<1000;have:=S.ty;lia) B.p.2.2.2.2.1 I.dp;have Yb:L5.dg=L.dg/\L5.ch=L.ch/\L5.fl=L.fl/\L5.nt=(if pV≠t then L.nt++[(7,at2)] else L.nt)/\L5.gb=L3.gb/\L5.dp=L.dp/\L5.nums=L.nums/\L5.cI=L.cI/\L5.bD=at2/\L5.mem=L.mem/\L5.told=L.told/\L5.jV=jR kd L.jV at':=by
  by_cases q:pV≠t
  ·have e:L5={L4.note 7 at2 with bg:=jR kd L.bg at',U:=U',ty:=iy L4.ty (.int at2) (.int pV),tr:=L.tr++[.tup [.int 0,.int at2]]}:=by show LS.mk ..=_;rw[aq q]
   rw[e,aq q];exact ⟨rfl,rfl,rfl,rfl,rfl,rfl,rfl,rfl,rfl,rfl,rfl,rfl⟩
  ·have e:L5=(LS.str (LS.xN (LS.sU (LS.nj L4 (jR kd L.bg at')) U') (iy L4.ty (.int at2) (.int pV))) (L.tr++[.tup [.int 0,.int at2]])):=by show LS.mk ..=_;rw[au q]
   rw[e,au q];exact ⟨rfl,rfl,rfl,rfl,rfl,rfl,rfl,rfl,rfl,rfl,rfl,rfl⟩
 revert Yb;refine UD λd1 d2 d3 VQ=>?_;revert VQ;refine Jo λd4 d5 d6 d7 d8 d9 xW EE EF=>?_;refine ⟨L6,due,λsc rb cp=>eX (loc:=Ao node k) (loc':=s8.loc) rfl rfl rfl (aU s1 rfl (by done) (aU s2 rfl (fU (d:=14) (st1:=s1) rfl (.val (iL due)) (dO (d:=13) 1361 (st1:=s1) (as:=[.val (iL k)]) rfl rfl rfl (by done) (by done) rfl rfl (B3 (n:=n+15) hk.kd) rfl) (by done)) (aU s3 rfl e3 (aU s4 rfl e4 (aU s5 rfl e5 (aU s6 rfl e6 (gc rfl (iC (d:=14) rfl ?_)))))))),?_,?_,d9,KA⟩
 ·refine oq (d:=13) (as:=[.val pJ,.val (iL due)]) rfl rfl (gM (.val pJ) (st1:=s6) rfl (by done) rfl (ie (.val (iL due)) rfl rfl (xq (d:=12) (c:=true) (st1:=s8) rfl (zh (d:=11) (.val (.int pV)) (.val (.int (eT L5.U due))) (st1:=s7) rfl rfl
   (gQ (d:=10) (st1:=s6) (st2:=s6) (as:=[.val pJ,.val (.int (-1))]) (mf:=some 1091) (.val (.obj 4)) rfl rfl (by done) (by done) (by done) rfl (kN 1091 (ls:=[.v pJ,.v (.int (-1))]) rfl rfl (hex _ _ _) rfl)) rfl
   (dO (d:=10) 1356 (st1:=s7) (as:=[.val (.obj 14),.val (iL due)]) rfl rfl rfl (by done) (by done) rfl rfl (sL (n:=n+12) KA.kd (by show U'.length<=_;have:=B.p.1;lia) _ _ _) rfl) rfl rfl ?_) (by done)) rfl)) rfl
  show gm (.int _) (.int _)=_;rw[iJ];exact bf some (aa X7)
 ·refine ⟨by show L5.ch=L5.fl;rw[d2,d3];exact I.ch,by show L5.fl.length<=_;rw[d3];exact I.mG,by show L5.dg=L5.told;rw[d1,EE];exact I.dg,?_,by show jR kd L.bg at'=L5.jV;rw[EF,I.bg],by show L5.dp=0;rw[d6];exact I.dp,?_,by show ∀x∈L5.dg,_;rw[d1];exact I.told,by show L5.nums.length<=40;rw[d7];exact I.nums,by show pn L5.mem;rw[xW];exact I.mem,by show ∀x∈L5.dg,_;rw[d1];exact I.ar⟩
  ·show L5.nt=L5.gb;rw[d4,d5];show _=if due≠k then L.gb++[(7,at2)] else L.gb
   by_cases q:due≠k
   ·rw[aq q,aq (jd.mpr q),I.nt]
   ·rw[au q,au (λh=>q (jd.mp h)),I.nt]
  ·show oG (iy L4.ty (.int at2) (.int pV)) L5.bD;rw[d9];exact ty_set KC (by show L.bD<=L.bD+1;lia) (eF _)
 ·refine ⟨?_,by show L5.dg.length<=_;rw[d1];have:=S.dg;lia,?_,?_,?_,?_,by show L5.mem.length<=_;rw[xW];have:=S.mem;lia,by show 0<=L5.cI/\L5.cI<=_;rw[d8];have:=S.cI;lia,by show 0<=L5.bD/\L5.bD<=_;rw[d9];have:=S.bD;show 0<=L.bD+1/\L.bD+1<=_;lia⟩
  ·show (kU U' due).length<=_;have:=mq U' due;have:=S.U;lia
  ·show L5.nt.length<=_;rw[d4];have:=S.nt;split
   ·rw[ay];show L.nt.length+1<=_;lia
   ·lia
  ·show (iy L4.ty (.int at2) (.int pV)).length<=_;have h3:=H8 at2 (.int pV) L4.ty;have h4:L4.ty.length<=L.ty.length+1:=X8;have:=S.ty;lia
  ·show (L.tr++[_]).length<=_;rw[ay];show L.tr.length+1<=_;have:=S.tr;lia
  ·show (jR kd L.bg at').length<=_;have:=S.bg;unfold jR;split
   ·have:=GA L.bg at';lia
   ·lia
def j3(h:Int)(nm:Str):MV:=.tup [.int h,.str nm]
theorem PC(h:Int)(nm:Str):MV.beq (j3 h nm) (j3 h nm)=true:=by show (decide (h=h)&&(decide (nm=nm)&&true))=true;rw[aa rfl,aa rfl];rfl
theorem Hq{mem:List (MV×MV)}(hm:pn mem)(h:Int)(nm:Str):gE mem (j3 h nm)=true:=by
 induction mem using aaa with
 | nil=>rfl
 | cons e r=>refine cu (hm e aE) λbA Z=>?_;revert bA;refine UJ λa s he=>?_;show (true&&Nat.beq (keyKind e.1) 3)=true;rw[he];rfl
theorem Rl{mem:List (MV×MV)}{k v:MV}:pn mem->eK mem k=some v->∃j,v=iL j/\MK j:=by
 induction mem with
 | nil=>exact λZ h=>aM h
 | cons p r ih=>intro hm h;exact mD (λZ e=>by rw[<-aY e];exact (hm p aE).2) (λZ h=>ih (λe he=>hm e (aO _ he)) h) (show (if MV.beq p.1 k=true then some p.2 else eK r k)=some v from h)
theorem mem_set{mem:List (MV×MV)}{h:Int}{nm:Str}{j:List Int}(hm:pn mem)(hn:eK mem (j3 h nm)=none)(hj:MK j):iy mem (j3 h nm) (iL j)=mem++[(j3 h nm,iL j)]/\pn (mem++[(j3 h nm,iL j)]):=by
 refine ⟨Gx _ _ _ hn,λe he=>?_⟩;refine bu (bX.mp he) (λq=>?_) λq=>?_
 ·exact hm e q
 ·rw[aA.mp q];exact ⟨⟨h,nm,rfl⟩,j,rfl,hj⟩
theorem NR{mem:List (MV×MV)}{k v:MV}(hn:eK mem k=none)(hk:MV.beq k k=true):eK (mem++[(k,v)]) k=some v:=by rw[Gv,hn];show Option.or none (if MV.beq k k=true then some v else none)=_;rw[hk];rfl
variable {nm:Str}
abbrev jW:Ctx:=⟨(fnOf 1380).scope,false||false,RB 1380,false⟩
def kZ:Stmt:=hd (fnOf 1380).body.tail.tail
def kD(k:List Int)(nm:Str)(f:List Int):List (Str×LV):=[V "w" (.obj 14),V "kind" (iL k),V "name" (.str nm),W "found" (iL f)]
def R6:Option (Int×Int)->List (Str×LV)
 | none=>[]
 | some (a,h)=>[V "one" (.int a),V "home" (.int h)]
inductive Rd(L L':LS)(c:Nat):Prop
 | mk (g':Int) (m':List (MV×MV)):L'=(LS.JQ (LS.nR L g') m')->L.cI<=g'->g'<=L.cI+4*c->m'.length<=L.mem.length+c->pn m'->Rd L L' c
theorem Rd.le{L L':LS}{x y:Nat}(h:Rd L L' x)(q:x<=y):Rd L L' y:=h.casesOn λg m e a b c d=>⟨g,m,e,a,by lia,by lia,d⟩
theorem Rd.trans{L L1 L2:LS}{c:Nat}(a:Rd L L1 c)(b:Rd L1 L2 1):Rd L L2 (c+1):=by refine a.casesOn λg m e a1 a2 a3 a4=>?_;subst e;refine b.casesOn λg2 m2 e b1 b2 b3 b4=>?_;have b1:g<=g2:=b1;have b2:g2<=g+4*1:=b2;have b3:m2.length<=m.length+1:=b3;exact ⟨g2,m2,e,by lia,by lia,by lia,b4⟩
inductive zo(n:Nat)(L:LS)(k:List Int)(nm:Str)(f:List Int)(a:Int)(q:St):Prop
 | out (st1:St):setName jW q (iG kZ) (.val (.int a))=some st1->Go (n+2) 13 jW (bo kZ) st1 (.ret (.fresh (iL [21]))) ⟨kD k nm f++R6 (some (a,jh a)),L.o⟩->zo n L k nm f a q
 | on (st1:St) (j:List Int) (L':LS):setName jW q (iG kZ) (.val (.int a))=some st1->MK j->Rd L L' 1->Go (n+2) 13 jW (bo kZ) st1 .bN ⟨kD k nm (f++j)++R6 (some (a,jh a)),L'.o⟩->zo n L k nm f a q
noncomputable abbrev FZ(f:List Int):Prop:=∀z∈f,(0<=z/\z<=13)\/z=19\/z=20\/z=21
inductive CM(n:Nat)(L:LS)(k:List Int)(nm:Str)(c:Nat)(r:Option (Int×Int))(rs:List Int)(q:St):Prop
 | out (L':LS) (loc':List (Str×LV)):Rd L L' c->lD (n+2) 13 jW (iG kZ) (bo kZ) (rs.map .int) q (.ret (.fresh (iL [21]))) ⟨loc',L'.o⟩->CM n L k nm c r rs q
 | on (L':LS) (r':Option (Int×Int)) (f':List Int):Rd L L' c->f'.length<=60->FZ f'->(r'=none->rs=[]/\r=none)->lD (n+2) 13 jW (iG kZ) (bo kZ) (rs.map .int) q .bN ⟨kD k nm f'++R6 r',L'.o⟩->CM n L k nm c r rs q
theorem NS{a:Int}(ha:At a)(r:Option (Int×Int))(f:List Int)(hf:f.length<=100)(hm:pn L.mem)(Zf:L.mem.length<=200000)(hg:0<=L.cI)(Yc:L.cI+4<=100000)(rK:L.nums.length<=40) :
  zo n L k nm f a ⟨kD k nm f++R6 r,L.o⟩:=by
 let st1:St:=⟨kD k nm f++(match r with | none=>[V "one" (.int a)] | some x=>R6 (some (a,x.2))),L.o⟩;let s2:St:=⟨kD k nm f++R6 (some (a,jh a)),L.o⟩;have g4:setName jW ⟨kD k nm f++R6 r,L.o⟩ (iG kZ) (.val (.int a))=some st1:=by induction r using aab with | none=>done | some x=>cases (x);done
 have e0:(rn (n+2) 13).s jW (hd (bo kZ)) st1=some (.bN,s2):=by
  induction r using aab with
  | none=>exact uz (f:=λa=>(rn (n+2) 13).s jW (hd (bo kZ)) ⟨kD k nm f++[V "one" (.int a)],L.o⟩) (g:=λa=>some (.bN,⟨kD k nm f++R6 (some (a,jh a)),L.o⟩)) (by done) ha
  | some x=>exact uz (f:=λa=>(rn (n+2) 13).s jW (hd (bo kZ)) ⟨kD k nm f++R6 (some (a,x.2)),L.o⟩) (g:=λa=>some (.bN,⟨kD k nm f++R6 (some (a,jh a)),L.o⟩)) (by done) ha
 have e1:(rn (n+2) 12).t jW (sv (hd (bo kZ).tail)) s2=some (decide (jh a<0),s2):=dI (d:=11) (.val (.int (jh a))) (.val (.int 0)) rfl rfl (by done) rfl (by done) rfl rfl rfl;by_cases q:jh a<0
 ·rw[aa q]at e1;exact .out st1 g4 (aU s2 rfl e0 (nA (d:=11) (st1:=s2) true rfl rfl e1 (g5 (by done))))
 ·rw[ao q]at e1;have gn:=Hq hm (jh a) nm;have Ac:∀b,(eK L.mem (j3 (jh a) nm)).isSome=b->(rn (n+2) 12).t jW (sv (hd (bo kZ).tail.tail)) s2=some (!b,s2):=λb hb=>dI (d:=11) (.val (j3 (jh a) nm)) (.cont (.slot 14 (Str.ofString "members"))) rfl rfl (by done) rfl (by done) rfl (y:=.bO L.mem) (by done) (show (if gE L.mem (j3 (jh a) nm)=true then some (eK L.mem (j3 (jh a) nm)).isSome else none).map _=_ by rw[gn,hb];rfl);have e3:∀(L':LS) (j:List Int),pn L'.mem->eK L'.mem (j3 (jh a) nm)=some (iL j)->MK j->(rn (n+2) 13).s jW (hd (bo kZ).tail.tail.tail) ⟨s2.loc,L'.o⟩=some (.bN,⟨kD k nm (f++j)++R6 (some (a,jh a)),L'.o⟩):=λL' j jx hg hj=>by
   have Aq:j.length<=3:=by
    rcases hj with ⟨_,h⟩ | rfl | rfl | rfl
    ·exact h
    all_goals decide
   refine fU (d:=12) (st1:=⟨s2.loc,L'.o⟩) rfl (.fresh (iL (f++j))) (nK (d:=11) (.cont (.var (Str.ofString "found"))) (.val (iL j)) rfl (by done) rfl (Sk (d:=10) (st1:=⟨s2.loc,L'.o⟩) (.cont (.slot 14 (Str.ofString "members"))) (.val (j3 (jh a) nm)) rfl (by done) rfl (by done) (show Option.map _ (if gE L'.mem (j3 (jh a) nm)=true then eK L'.mem (j3 (jh a) nm) else none)=_ by rw[Hq jx,hg];rfl)) (x:=iL f) (by done) rfl ?_) (by done);show (if _ then _ else _)=_;rw[aa (p:=(f.map MV.int).length<=bE) (by rw[aj];unfold bE;lia),aa (p:=(j.map MV.int).length<=bE) (by rw[aj];unfold bE;lia)];show some (EV.fresh (.lst (f.map MV.int++j.map MV.int)))=_;rw[<-bB];rfl
  cases u6:eK L.mem (j3 (jh a) nm) with
  | some v=>refine bz (Rl hm u6) λj bZ hj=>?_;obtain rfl:=bZ;exact .on st1 j L g4 hj ⟨L.cI,L.mem,rfl,by lia,by lia,by lia,hm⟩ (aU s2 rfl e0 (dX (d:=11) (st1:=s2) (st2:=s2) false rfl rfl e1 (bQ rfl) (dX (d:=11) (st1:=s2) (st2:=s2) false rfl rfl (Ac true (by rw[u6];rfl)) (bQ rfl) (aU _ rfl (e3 L j hm u6 hj) (bQ rfl)))))
  | none=>
   refine uU (qa (n:=n) (L:=L) ⟨⟨hg,by lia⟩,rK⟩ Yc) λj c hj qC Et sZ=>?_;refine cu (mem_set (j:=j) hm u6 hj) λhs jx=>?_;let L1:LS:=(LS.nR L (L.cI+c));let L2:LS:=(LS.JQ L1 (L.mem++[(j3 (jh a) nm,iL j)]));refine .on st1 j L2 g4 hj ⟨L.cI+c,L.mem++[(j3 (jh a) nm,iL j)],rfl,by lia,by lia,by rw[ay];exact az _,jx⟩ (aU s2 rfl e0 (dX (d:=11) (st1:=s2) (st2:=s2) false rfl rfl e1 (bQ rfl) (dX (d:=11) (st1:=s2) (st2:=⟨s2.loc,L2.o⟩) true rfl rfl (Ac false (by rw[u6];rfl)) ?_ (aU _ rfl (e3 L2 j jx (NR u6 (PC _ _)) hj) (bQ rfl)))));refine aU ⟨s2.loc,L2.o⟩ rfl (nJ (d:=10) (st1:=⟨s2.loc,L1.o⟩) (.val (iL j)) rfl (dO (d:=9) 1351 (st1:=s2) (as:=[.val (.obj 13)]) rfl rfl rfl (by done) (by done) rfl rfl (sZ _ _ _) rfl) (qb (st1:=⟨s2.loc,L1.o⟩) (st2:=⟨s2.loc,L1.o⟩) (.slot 14 (Str.ofString "members")) (j3 (jh a) nm) L.mem (by done) rfl (by done) (by done) gn (by unfold bE;lia) rfl ?_)) (bQ rfl);rw[hs]
   done
theorem TX{j:List Int}(hj:MK j):j.length<=3/\FZ j:=by
 rcases hj with ⟨h,hl⟩ | rfl | rfl | rfl
 ·exact ⟨hl,λz hz=>Or.inl (h.2 z hz)⟩
 ·exact ⟨by decide,λz hz=>Or.inr (Or.inl (aA.mp hz))⟩
 ·exact ⟨by decide,λz hz=>Or.inr (Or.inr (Or.inl (aA.mp hz)))⟩
 ·exact ⟨by decide,λz hz=>Or.inr (Or.inr (Or.inr (aA.mp hz)))⟩
theorem NT(rK:L.nums.length<=40)(h1:0<=L.cI)(h2:L.cI+4*21<=100000)(h3:L.mem.length<=190000)(rs:List Int):∀(L1:LS) (r:Option (Int×Int)) (f:List Int) (c:Nat),(∀a∈rs,At a)->Rd L L1 c->f.length<=3*c->FZ f->c+rs.length<=20->CM n L k nm (c+rs.length) r rs ⟨kD k nm f++R6 r,L1.o⟩:=by
 induction rs with
 | nil=>exact λL1 r f c Z hR hf hz hc=>.on L1 r f hR (by lia) hz (λh=>⟨rfl,h⟩) mJ
 | cons a rs ih=>
  intro L1 r f c ha hR hf hz hc;have z4:c+(rs.length+1)<=20:=hc;have ht:zo n L1 k nm f a ⟨kD k nm f++R6 r,L1.o⟩:=hR.casesOn λg' m' e r1 r2 r3 r4=>by
   subst e;exact NS (ha a aE) r f (by lia) r4 (by show m'.length<=_;lia) (by show 0<=g';lia) (by show g'+4<=_;lia) rK
  cases (ht) with
  | out st1 q1 q2=>exact .out L1 _ (hR.le (cA _ _)) (vF q1 q2)
  | on st1 j L2 q1 hj Yd q2=>
   have Aq:=TX hj;have ih:=ih L2 (some (a,jh a)) (f++j) (c+1) (λx hx=>ha x (aO _ hx)) (hR.trans Yd) (by rw[ay];lia) (λz D3=>(bX.mp D3).elim (hz z) (Aq.2 z)) (by lia);rw[show c+1+rs.length=c+(a::rs).length by rw[aR];lia]at ih;cases (ih) with
   | out L' loc' i1 i2=>exact .out L' loc' i1 (jn q1 q2 i2)
   | on L' r' f' i1 i2 i3 i4 i5=>exact .on L' r' f' i1 i2 i3 (λh=>by injection (i4 h).2) (jn q1 q2 i5)
theorem NU{f:List Int}(hz:∀z∈f,(0<=z/\z<=13)\/z=19\/z=20\/z=21)(h:20∉f/\21∉f/\19∉f):j6 (setOf f):=by
 refine ⟨mL,λa ha=>?_⟩;have ha:=mK.mp ha;rcases hz a ha with q | rfl | rfl | rfl
 ·exact q
 ·exact absurd ha h.2.2
 ·exact absurd ha h.1
 ·exact absurd ha h.2.1
theorem LZ(I:Inv L m)(S:Sz L s)(hs:s<=900)(hk:KK k):∃L' k' r,gB (n+3) 1380 [.v (.obj 14),.v (iL k),.v (.str nm)] L r L'/\(r=.val (iL k')\/r=.fresh (iL k'))/\Inv L' m/\Sz L' (s+1)/\L'.bD=L.bD/\(j6 k'\/Spec k'):=by
 have B:=Inv.pA S hs;let c0:Ctx:=⟨(fnOf 1380).scope,false,RB 1380,false⟩;let lc:List (Str×LV):=[V "w" (.obj 14),V "kind" (iL k),V "name" (.str nm)];let s0:St:=⟨lc,L.o⟩;let s1:St:=⟨kD k nm [],L.o⟩;have fin:∀(L':LS),Rd L L' 20->Inv L' m/\Sz L' (s+1)/\L'.bD=L.bD:=λL' h=>by
  refine h.casesOn λg2 m2 g8 q1 q2 q3 q4=>?_;subst g8;have T:=S.mono (bG s);exact ⟨⟨I.ch,I.mG,I.dg,I.nt,I.bg,I.dp,I.ty,I.told,I.nums,q4,I.ar⟩,⟨T.U,T.dg,T.nt,T.ty,T.tr,T.bg,by have:=S.mem;show m2.length<=_;lia,⟨by have:=S.cI.1;show 0<=g2;lia,by have:=S.cI.2;show g2<=_;lia⟩,T.bD⟩,rfl⟩
 have R0:Rd L L 0:=⟨L.cI,L.mem,rfl,by lia,by lia,by lia,I.mem⟩;have t0:(rn (n+2) 14).t c0 (sv (hd (fnOf 1380).body)) s0=some (decide (k=[20]),s0):=dI (d:=13) (.val (iL k)) (.fresh (iL [20])) rfl rfl (by done) rfl (by done) rfl rfl (show gm (iL k) (iL [20])=_ from qc k [20]);by_cases xS:k=[20]
 ·rw[aa xS]at t0;refine eg (fin L (R0.le (by decide))) λf1 f2 f3=>?_;exact ⟨L,k,_,λsc rb cp=>eX (loc:=lc) (loc':=lc) rfl rfl rfl (nA (d:=13) (st1:=s0) true rfl rfl t0 (g5 (by done))),Or.inl rfl,f1,f2,f3,Or.inr (Or.inr (Or.inl xS))⟩
 ·rw[ao xS]at t0;have hlen:=hk.kd.len;have JZ:∀nT st',lD (n+2) 13 jW (iG kZ) (bo kZ) (k.map .int) ⟨kD k nm []++R6 none,L.o⟩ nT st'->(rn (n+2) 15).s c0 (hd (fnOf 1380).body.tail.tail) s1=some (nT,st'):=λnT st' h=>oF (d:=13) (xs:=k.map .int) (ins:=false) (st1:=s1) rfl (by done) (by rw[aj];exact aF hlen (by decide)) h rfl;cases (NT (n:=n) (k:=k) (nm:=nm) I.nums S.cI.1 (by have:=S.cI.2;lia) (by have:=S.mem;lia) k L none [] 0 hk.kd.at R0 (az _) (λZ h=>absurd h aX) (by lia)) with
  | out L' loc' i1 i2=>refine eg (fin L' (i1.le (by lia))) λf1 f2 f3=>?_;exact ⟨L',[21],_,λsc rb cp=>eX (loc:=lc) (loc':=loc') rfl rfl rfl (dX (d:=13) (st1:=s0) (st2:=s0) false rfl rfl t0 (bQ rfl) (aU s1 rfl (by done) (gc rfl (JZ _ _ i2)))),Or.inr rfl,f1,f2,f3,Or.inr (Or.inr (Or.inr rfl))⟩
  | on L' r' f' i1 i2 i3 i4 i5=>
   refine eg (fin L' (i1.le (by lia))) λf1 f2 f3=>?_;let s3:St:=⟨kD k nm f'++R6 r',L'.o⟩;have Cb:∀r loc',Go (n+2) 15 c0 ((fnOf 1380).body.drop 3) s3 (.ret r) ⟨loc',L'.o⟩->gB (n+3) 1380 [.v (.obj 14),.v (iL k),.v (.str nm)] L r L':=λr loc' h sc rb cp=>eX (loc:=lc) (loc':=loc') rfl rfl rfl (dX (d:=13) (st1:=s0) (st2:=s0) false rfl rfl t0 (bQ rfl) (aU s1 rfl (by done) (aU s3 rfl (JZ _ _ i5) h)));induction k using aaa with
   | nil=>have hr:∃loc',Go (n+2) 15 c0 ((fnOf 1380).body.drop 3) s3 (.ret (.fresh (iL [21]))) ⟨loc',L'.o⟩:=⟨s3.loc,g5 (by induction r' using aab with | none=>done | some x=>cases (x);done)⟩;revert hr;refine gh λloc' hr=>?_;exact ⟨L',[21],_,Cb _ _ hr,Or.inr rfl,f1,f2,f3,Or.inr (Or.inr (Or.inr rfl))⟩
   | cons x rest=>
    obtain ⟨⟨o1,h1⟩,rfl⟩:∃y,r'=some y:=by
     induction r' using aab with
     | none=>exact absurd (i4 rfl) (by simp)
     | some y=>exact ⟨y,rfl⟩
    have tl:(rn (n+2) 14).t c0 (sv (hd ((fnOf 1380).body.drop 3))) s3=some (false,s3):=dI (d:=13) (.val (.int ((x::rest).length:Int))) (.val (.int 0)) rfl rfl (pg (d:=12) (nm:="len") (as:=[.val (iL (x::rest))]) rfl rfl (by done) (by done) rfl (show Option.map _ (nO (iL (x::rest)))=_ by
     have:nO (iL (x::rest))=some ((x::rest).length:Int):=se _ (aW hlen (by decide));rw[this];rfl)) rfl (by done) rfl rfl (show gm (.int _) (.int 0)=_ by rw[iJ,ao (by rw[aR];lia)])
    let F:Stmt:=hd ((fnOf 1380).body.drop 3).tail;let sx (z:Int):St:=⟨kD (x::rest) nm f'++R6 (some (z,h1)),L'.o⟩;have g4:∀(z w:Int),setName jW (sx z) (iG F) (.val (.int w))=some (sx w):=λz w=>by done
    have KD:∀z:Int,(rn (n+2) 12).t jW (sv (hd (bo F))) (sx z)=some (decide (z∈f'),sx z):=λz=>dI (d:=11) (.val (.int z)) (.cont (.var (Str.ofString "found"))) rfl rfl (by done) rfl (by done) rfl (y:=iL f') (by done) (show isIn (.int z) (iL f')=_ from BY z f');have yes:∀z:Int,z∈f'->Go (n+2) 13 jW (bo F) (sx z) (.ret (.fresh (iL [z]))) (sx z):=λz hz=>nA (d:=11) (st1:=sx z) true rfl rfl (by have:=KD z;rw[aa hz]at this;exact this) (g5 (by done));have no:∀z:Int,z∉f'->Go (n+2) 13 jW (bo F) (sx z) .bN (sx z):=λz hz=>dX (d:=11) (st1:=sx z) (st2:=sx z) false rfl rfl (by have:=KD z;rw[ao hz]at this;exact this) (bQ rfl) (bQ rfl);have hF:∀nT st',lD (n+2) 13 jW (iG F) (bo F) [.int 20,.int 21,.int 19] (sx o1) nT st'->(rn (n+2) 15).s c0 F s3=some (nT,st'):=λnT st' h=>oF (d:=13) (xs:=[.int 20,.int 21,.int 19]) (ins:=false) (st1:=sx o1) rfl (by done) (by decide) h rfl;have DG:∀z,lD (n+2) 13 jW (iG F) (bo F) [.int 20,.int 21,.int 19] (sx o1) (.ret (.fresh (iL [z]))) (sx z)->Spec [z]->∃L' k' r,gB (n+3) 1380 [.v (.obj 14),.v (iL (x::rest)),.v (.str nm)] L r L'/\(r=.val (iL k')\/r=.fresh (iL k'))/\Inv L' m/\Sz L' (s+1)/\L'.bD=L.bD/\(j6 k'\/Spec k'):=λz h Ye=>⟨L',[z],_,Cb _ _ (dX (d:=13) (st1:=s3) (st2:=s3) false rfl rfl tl (bQ rfl) (gc rfl (hF _ _ h))),Or.inr rfl,f1,f2,f3,Or.inr Ye⟩;by_cases q1:20∈f'
    ·exact DG 20 (vF (g4 _ _) (yes 20 q1)) (Or.inr (Or.inl rfl))
    ·by_cases q2:21∈f'
     ·exact DG 21 (jn (g4 _ _) (no 20 q1) (vF (g4 _ _) (yes 21 q2))) (Or.inr (Or.inr rfl))
     ·by_cases q3:19∈f'
      ·exact DG 19 (jn (g4 _ _) (no 20 q1) (jn (g4 _ _) (no 21 q2) (vF (g4 _ _) (yes 19 q3)))) (Or.inl rfl)
      ·refine ⟨L',setOf f',_,Cb _ (sx 19).loc (dX (d:=13) (st1:=s3) (st2:=s3) false rfl rfl tl (bQ rfl) (aU (sx 19) rfl (hF _ _ (jn (g4 _ _) (no 20 q1) (jn (g4 _ _) (no 21 q2) (jn (g4 _ _) (no 19 q3) mJ)))) (gc rfl (iC (d:=14) rfl (dO (d:=13) 1346 (st1:=sx 19) (as:=[.cont (.var (Str.ofString "found"))]) (ls:=[.bor (iL f')]) rfl rfl rfl (by done) (by done) rfl (by done) (yr (n:=n+1) (Or.inr rfl) (by lia)) rfl))))),Or.inl rfl,f1,f2,f3,Or.inl (NU i3 ⟨q1,q2,q3⟩)⟩
theorem PD(k:List Int)(b:Bool)(hb:b=true↔Spec k):isIn (iL k) (.tup [iL [19],iL [20],iL [21]])=some b:=by
 have h:isIn (iL k) (.tup [iL [19],iL [20],iL [21]])=if ((k.map MV.int).all (MV.data 5)&&true)=true then some (MV.g7 ([19].map .int) (k.map .int)||(MV.g7 ([20].map .int) (k.map .int)||(MV.g7 ([21].map .int) (k.map .int)||false))) else none:=rfl
 rw[h,vN,rS,rS,rS];show some _=some b;congr 1;rw[Bool.eq_iff_iff,hb];unfold Spec;simp only[Bool.or_eq_true,decide_eq_true_eq,Bool.or_false];constructor
 ·rintro (h | h | h)
  ·exact Or.inl h.symm
  ·exact Or.inr (Or.inl h.symm)
  ·exact Or.inr (Or.inr h.symm)
 ·rintro (h | h | h)
  ·exact Or.inl h.symm
  ·exact Or.inr (Or.inl h.symm)
  ·exact Or.inr (Or.inr h.symm)
abbrev qK:Ctx:=⟨(fnOf 1406).scope,false,RB 1406,false⟩
def xX(node:MV)(k:List Int)(b:Bool):List (Str×LV):=[V "w" (.obj 14),V "node" node,V "kind" (iL k),V "bang" (.bool b)]
def xY(node:MV)(at':Int):MV:=bU 20 (.str cU) [node] 0 at'
open Classical in
theorem Fw(I:Inv L m)(S:Sz L s)(hs:s<=900)(hk:KK k)(tV:kd=32\/j6 k\/Spec k):∃L' k',gB (n+4) 1406 [.v (.obj 14),.v (bU kd a kids fl at'),.v (iL k)] L (.val (.tup [xY (bU kd a kids fl at') (L.bD+1),iL k'])) L'/\Inv L' m/\Sz L' (s+1)/\L'.bD=L.bD+1/\KK k':=by
 have B:=Inv.pA S hs;let node:=bU kd a kids fl at';let lc:List (Str×LV):=[V "w" (.obj 14),V "node" node,V "kind" (iL k)];let b:=decide (kd=32);let L1:LS:=(LS.xr L (L.bD+1));let ch:=xY node (L.bD+1);let s0:St:=⟨lc,L.o⟩;let s1:St:=⟨xX node k b,L.o⟩;let s2:St:=⟨xX ch k b,L1.o⟩;have T:=S.mono (bG s);have I1:Inv L1 m:=⟨I.ch,I.mG,I.dg,I.nt,I.bg,I.dp,λe he=>by (refine bz (I.ty e he) λx h1 h2=>?_);exact ⟨x,h1,by show x<=L.bD+1;lia⟩,I.told,I.nums,I.mem,I.ar⟩;have S1:Sz L1 (s+1):=⟨T.U,T.dg,T.nt,T.ty,T.tr,T.bg,T.mem,T.cI,⟨by have:=S.bD.1;show 0<=L.bD+1;lia,by have:=S.bD.2;show L.bD+1<=_;lia⟩⟩;have e0:(rn (n+3) 15).s qK (hd (fnOf 1406).body) s0=some (.bN,s1):=fU (d:=14) (st1:=s0) rfl (.val (.bool b)) (sj (d:=13) (.val (.int kd)) (.val (.int 32)) rfl rfl (by done) rfl (by done) rfl rfl (iJ kd 32)) (by done);have e1:(rn (n+3) 15).s qK (hd (fnOf 1406).body.tail) s1=some (.bN,s2):=fU (d:=14) (st1:=⟨s1.loc,L1.o⟩) rfl (.val ch) (dO (d:=13) 1373 (st1:=s1) (as:=[.val (.obj 14),.val (.int 20),.val (.str cU),.fresh (.lst [node]),.val (.int 0)]) rfl rfl rfl (by done) (by done) rfl rfl (BN (n:=n) (L:=L) B.p.2.2.2.2.2.2.1 _ _ _) rfl) (by done);have hlen:nO (iL L1.fl)=some (L.fl.length:Int):=se _ (aW I.mG (by decide));have t2:(rn (n+3) 14).t qK (sv (hd (fnOf 1406).body.tail.tail)) s2=some (decide ((L.fl.length:Int)>0),s2):=dI (d:=13) (.val (.int (L.fl.length:Int))) (.val (.int 0)) rfl rfl (pg (d:=12) (nm:="len") (as:=[.cont (.slot 14 (Str.ofString "flags"))]) rfl rfl (by done) (by done) rfl (show Option.map _ (nO (iL L1.fl))=_ by rw[hlen];rfl)) rfl (by done) rfl rfl rfl;refine bu (List.eq_nil_or_concat L.fl) (λxw=>?CG) λgk=>?CH;(case' CH=>(refine iU gk λfs c mH=>?_));(case' CG=>(skip))
 ·rw[xw]at t2;exact ⟨L1,k,λsc rb cp=>eX (loc:=lc) (loc':=s2.loc) rfl rfl rfl (aU s1 rfl e0 (aU s2 rfl e1 (dX (d:=13) (st1:=s2) (st2:=s2) false rfl rfl t2 (bQ rfl) (g5 (by done))))),I1,S1,rfl,hk⟩
 ·rw[List.concat_eq_append]at mH;have xU:L.ch=fs++[c]:=I.ch.trans mH;have tW:fs.length+1<=100:=by have:=I.mG;rw[mH,ay]at this;exact this
  have KG:(rn (n+3) 14).t qK (sv (hd (fnOf 1406).body.tail.tail)) s2=some (true,s2):=by rw[t2,aa (by rw[mH,ay];show ((fs.length+1:Nat):Int)>0;lia)]
  let L2:LS:=(LS.rI L1 fs);let L3:LS:=(LS.rJ L2 fs);let s3:St:=⟨xX ch k b,L2.o⟩;let s4:St:=⟨xX ch k b++[V "cut" (.int c)],L3.o⟩;have I3:Inv L3 m:=⟨rfl,by show fs.length<=100;lia,I1.dg,I1.nt,I1.bg,I1.dp,I1.ty,I1.told,I1.nums,I1.mem,I1.ar⟩;have S3:Sz L3 (s+1):=⟨S1.U,S1.dg,S1.nt,S1.ty,S1.tr,S1.bg,S1.mem,S1.cI,S1.bD⟩;have f0:(rn (n+3) 13).s qK (hd (bo (hd (fnOf 1406).body.tail.tail))) s2=some (.bN,s3):=by
   refine i9 (d:=12) (.val (.int c)) rfl rfl (gQ (d:=11) (st1:=s2) (st2:=s2) (as:=[]) (mf:=none) (.cont (.slot 4 (Str.ofString "chains"))) rfl rfl (by done) rfl (by done) rfl (lE rfl (v7 (.int c) (.slot 4 (Str.ofString "chains")) (fs.map .int) ?_ (by rw[aj];exact aF tW (by decide)) (by done)))) rfl;have:fs.map MV.int++[.int c]=L.ch.map .int:=by rw[xU,bB];rfl
   rw[this]
   done
  have f1:(rn (n+3) 13).s qK (hd (bo (hd (fnOf 1406).body.tail.tail)).tail) s3=some (.bN,s4):=by
   refine fU (d:=12) (st1:=⟨s3.loc,L3.o⟩) rfl (.val (.int c)) (gQ (d:=11) (st1:=s3) (st2:=s3) (as:=[]) (mf:=none) (.cont (.slot 14 (Str.ofString "flags"))) rfl rfl (by done) rfl (by done) rfl (lE rfl (v7 (.int c) (.slot 14 (Str.ofString "flags")) (fs.map .int) ?_ (by rw[aj];exact aF tW (by decide)) (by done)))) (by done);have:fs.map MV.int++[.int c]=L.fl.map .int:=by rw[mH,bB];rfl
   rw[this]
   done
  have g1:(rn (n+3) 11).t qK ((xl (sv (hd (bo (hd (fnOf 1406).body.tail.tail)).tail.tail))).headD default) s4=some (decide (c=1),s4):=dI (d:=10) (.val (.int c)) (.val (.int 1)) rfl rfl (by done) rfl (by done) rfl rfl (iJ c 1);have g2:(rn (n+3) 11).t qK ((xl (sv (hd (bo (hd (fnOf 1406).body.tail.tail)).tail.tail))).tail.headD default) s4=some (!b,s4):=zj (d:=10) rfl (v9 (d:=9) (.val (.bool b)) rfl (by done) rfl rfl);have g3:(rn (n+3) 11).t qK ((xl (sv (hd (bo (hd (fnOf 1406).body.tail.tail)).tail.tail))).tail.tail.headD default) s4=some (!decide (Spec k),s4):=dI (d:=10) (.val (iL k)) (.val (.tup [iL [19],iL [20],iL [21]])) rfl rfl (by done) rfl (by done) rfl rfl (show (isIn (iL k) (.tup [iL [19],iL [20],iL [21]])).map _=_ by rw[PD k (decide (Spec k)) (by simp)];rfl);have g:=uM (d:=11) (e:=sv (hd (bo (hd (fnOf 1406).body.tail.tail)).tail.tail)) rfl (JX (a:=decide (c=1)) (b:=!b) (c:=!decide (Spec k)) rfl rfl rfl rfl g1 g2 g3);cases hq:(decide (c=1)&&(!b&&!decide (Spec k))) with
  | false=>rw[hq]at g;exact ⟨L3,k,λsc rb cp=>eX (loc:=lc) (loc':=s4.loc) rfl rfl rfl (aU s1 rfl e0 (aU s2 rfl e1 (dX (d:=13) (st1:=s2) (st2:=s4) true rfl rfl KG (aU s3 rfl f0 (aU s4 rfl f1 (dX (d:=11) (st1:=s4) (st2:=s4) false rfl rfl g (bQ rfl) (bQ rfl)))) (g5 (by done))))),I3,S3,rfl,hk⟩
  | true=>
   rw[hq]at g;have hb:kd≠32/\¬Spec k:=by simp only[Bool.and_eq_true,Bool.not_eq_true',decide_eq_true_eq,decide_eq_false_iff_not,b]at hq;exact hq.2
   have zY:j6 k:=by
    rcases tV with h | h | h
    ·exact absurd h hb.1
    ·exact h
    ·exact absurd h hb.2
   have pU:=hk.kd.len;let k':=setOf (k++[0]);have iX:j6 k':=⟨mL,λz hz=>by
    refine bu (bX.mp (mK.mp hz)) (λh=>?_) λh=>?_
    ·exact zY.2 z h
    ·rw[aA.mp h];decide⟩
   let s5:St:=⟨xX ch k' b++[V "cut" (.int c)],L3.o⟩;have ek:iL (k++[0])=.lst (k.map .int++[.int 0]):=by unfold iL;rw[bB];rfl
   refine ⟨L3,k',λsc rb cp=>eX (loc:=lc) (loc':=s5.loc) rfl rfl rfl (aU s1 rfl e0 (aU s2 rfl e1 (dX (d:=13) (st1:=s2) (st2:=s5) true rfl rfl KG (aU s3 rfl f0 (aU s4 rfl f1 (dX (d:=11) (st1:=s4) (st2:=s5) true rfl rfl g (aU s5 rfl (fU (d:=10) (st1:=s4) rfl (.val (iL k')) (dO (d:=9) 1346 (st1:=s4) (as:=[.fresh (iL (k++[0]))]) rfl rfl rfl (by done) (ie (.fresh (iL (k++[0]))) rfl rfl (nK (d:=8) (.val (iL k)) (.fresh (iL [0])) rfl (by done) rfl (by done) rfl rfl ?_) rfl) rfl rfl (yr (n:=n+2) (Or.inl rfl) (by rw[ay];show k.length+1<64;lia)) rfl) (by done)) (bQ rfl)) (bQ rfl)))) (g5 (by done))))),I3,S3,rfl,Or.inl iX⟩;rw[ek];show (if _ then _ else _)=_;rw[aa (p:=(k.map MV.int).length<=bE) (by rw[aj];exact aW pU (by decide))];rfl
theorem Ib(I:Inv L m)(S:Sz L s)(hs:s<=900):xO L:=⟨(Inv.pA S hs).p.2.2.2.2.2.2.2.2,I.nums⟩
theorem ue(I:Inv L m)(S:Sz L s)(hs:s<=900){q:Int}(hq:0<q/\q<=100):∃L' x,(0<=x/\x<q)/\(∀n,gB (n+1) 1332 [.v (.obj 13),.v (.int q)] L (.val (.int x)) L')/\Inv L' m/\Sz L' (s+1)/\L'.bD=L.bD/\L'.fl=L.fl:=by have T:=S.mono (bG s);refine ⟨(LS.nR L (L.cI+1)),draw L q,AU L hq.1,λn=>BL (n:=n) (Ib I S hs) hq,⟨I.ch,I.mG,I.dg,I.nt,I.bg,I.dp,I.ty,I.told,I.nums,I.mem,I.ar⟩,⟨T.U,T.dg,T.nt,T.ty,T.tr,T.bg,T.mem,⟨by have:=S.cI.1;show 0<=L.cI+1;lia,by have:=S.cI.2;show L.cI+1<=_;lia⟩,T.bD⟩,rfl,rfl⟩
theorem PE(I:Inv L m)(S:Sz L s)(hs:s<=900):∃L' k,(j6 k\/Spec k)/\gB (n+2) 1351 [.v (.obj 13)] L (.val (iL k)) L'/\Inv L' m/\Sz L' (s+1)/\L'.bD=L.bD/\L'.fl=L.fl:=by have T:=S.mono (bG s);refine uU (qa (n:=n) (Ib I S hs) (by have:=(Inv.pA S hs).p.2.2.2.2.2.2.2.1;lia)) λk j hk h1 h2 h3=>?_;refine ⟨(LS.nR L (L.cI+j)),k,hk.imp (λh=>h.1) id,h3,⟨I.ch,I.mG,I.dg,I.nt,I.bg,I.dp,I.ty,I.told,I.nums,I.mem,I.ar⟩,⟨T.U,T.dg,T.nt,T.ty,T.tr,T.bg,T.mem,⟨by have:=S.cI.1;show 0<=L.cI+j;lia,by have:=S.cI.2;show L.cI+j<=_;lia⟩,T.bD⟩,rfl,rfl⟩
theorem yC(I:Inv L m)(S:Sz L s)(hs:s<=900):∃L',(∀(n:Nat) (kd fl:Int) (a:MV) (kids:List MV),gB (n+3) 1373 [.v (.obj 14),.v (.int kd),.v a,.v (.lst kids),.v (.int fl)] L (.val (bU kd a kids fl (L.bD+1))) L')/\Inv L' m/\Sz L' (s+1)/\L'.bD=L.bD+1/\L'.fl=L.fl:=by have T:=S.mono (bG s);have B:=Inv.pA S hs;exact ⟨(LS.xr L (L.bD+1)),λn kd fl a kids=>BN (n:=n) B.p.2.2.2.2.2.2.1,⟨I.ch,I.mG,I.dg,I.nt,I.bg,I.dp,λe he=>by (refine bz (I.ty e he) λx h1 h2=>?_);exact ⟨x,h1,by show x<=L.bD+1;lia⟩,I.told,I.nums,I.mem,I.ar⟩,⟨T.U,T.dg,T.nt,T.ty,T.tr,T.bg,T.mem,T.cI,⟨by have:=S.bD.1;show 0<=L.bD+1;lia,by have:=S.bD.2;show L.bD+1<=_;lia⟩⟩,rfl,rfl⟩
abbrev KH:Ctx:=⟨(fnOf 1413).scope,false,RB 1413,false⟩
noncomputable def aS:Str:=Str.ofString "a"
inductive CN(n:Nat)(L:LS)(m:Int)(s:Nat)(f:Int):Prop
 | mk (L':LS) (kd:Int) (a:MV) (o:Option (List Str)) (k:List Int) (p:Str):gB (n+4) 1413 [.v (.obj 14),.v (.int f)] L (.val (.tup [bU kd a [] 0 (L.bD+1),lA o,iL k])) L'->kd≠20->Inv L' m->Sz L' s->L'.bD=L.bD+1->L'.fl=L.fl->(j6 k\/Spec k)->WP o p->PT 0 (bU kd a [] 0 (L.bD+1)) p->p.length<=1->(∀ws,o=some ws->ws.length<=1)->CN n L m s f
theorem L8(I:Inv L m)(S:Sz L s)(hs:s<=890){f:Int}(hf:0<=f/\f<8):CN n L m (s+2) f:=by
 refine qu (yC I S (by lia)) λL1 hn I1 S1 w1 Ar=>?_;let lc:List (Str×LV):=[V "w" (.obj 14),V "form" (.int f)];let s0:St:=⟨lc,L.o⟩;let s1:St:=⟨lc,L1.o⟩;have fm:f∈[0,1,2,3,4,5,6,7]:=by
  have:f=0\/f=1\/f=2\/f=3\/f=4\/f=5\/f=6\/f=7:=by lia
  rcases this with rfl | rfl | rfl | rfl | rfl | rfl | rfl | rfl<;>decide
 have As:∀(i:Nat) (c:Int) (hi:i=0/\c=6\/i=1/\c=7\/i=2/\c=5),(rn (n+3) 14).t KH (sv (hd ((fnOf 1413).body.drop i))) s0=some (decide (f=c),s0):=λi c hi=>by
  rcases hi with ⟨rfl,rfl⟩ | ⟨rfl,rfl⟩ | ⟨rfl,rfl⟩
  ·exact dI (d:=13) (.val (.int f)) (.val (.int 6)) rfl rfl (by done) rfl (by done) rfl rfl (iJ f 6)
  ·exact dI (d:=13) (.val (.int f)) (.val (.int 7)) rfl rfl (by done) rfl (by done) rfl rfl (iJ f 7)
  ·exact dI (d:=13) (.val (.int f)) (.val (.int 5)) rfl rfl (by done) rfl (by done) rfl rfl (iJ f 5)
 have skip:∀(i:Nat) (c:Int) (hi:i=0/\c=6\/i=1/\c=7\/i=2/\c=5),f≠c->(rn (n+3) 15).s KH (hd ((fnOf 1413).body.drop i)) s0=some (.bN,s0):=λi c hi jd=>by
  have ht:=As i c hi;rw[ao jd]at ht;rcases hi with ⟨rfl,rfl⟩ | ⟨rfl,rfl⟩ | ⟨rfl,rfl⟩<;>exact iE (d:=13) (st1:=s0) false rfl ht (bQ rfl)
 have IZ:∀z:Int,z=0\/z=1->j6 [z]\/Spec [z]:=λz hz=>Or.inl ⟨cG _ _,λx hx=>by rw[aA.mp hx];(revert hz;refine eS (λcF=>?_) (λcF=>?_)<;>obtain rfl:=cF)<;>decide⟩;have wn:WP none cU:=⟨Or.inl ⟨rfl,rfl⟩⟩;by_cases h6:f=6
 ·have t:=As 0 6 (Or.inl ⟨rfl,rfl⟩);rw[aa h6]at t;refine ⟨L1,6,.str cU,none,[1],cU,λsc rb cp=>eX (loc:=lc) (loc':=lc) rfl rfl rfl (nA (d:=13) (st1:=s0) true rfl rfl t (gc rfl (iC (d:=12) rfl (oq (d:=11) (as:=[.val (bU 6 (.str cU) [] 0 (L.bD+1)),.val .none,.fresh (iL [1])]) rfl rfl (gM (.val (bU 6 (.str cU) [] 0 (L.bD+1))) (st1:=s1) rfl (dO (d:=10) 1373 (st1:=s0) (as:=[.val (.obj 14),.val (.int 6),.val (.str cU),.fresh (.lst []),.val (.int 0)]) rfl rfl rfl (by done) (by done) rfl rfl (hn n 6 0 (.str cU) [] _ _ _) rfl) rfl (by done)) rfl)))),by decide,I1,S1.mono (by lia),w1,Ar,IZ 1 (Or.inr rfl),wn,.other (by decide) (by decide) (by decide),by decide +kernel,λZ h=>(by exact aM h)⟩
 ·by_cases h7:f=7
  ·have t:=As 1 7 (Or.inr (Or.inl ⟨rfl,rfl⟩));rw[aa h7]at t;refine ⟨L1,7,.str cU,none,[0],cU,λsc rb cp=>eX (loc:=lc) (loc':=lc) rfl rfl rfl (aU s0 rfl (skip 0 6 (Or.inl ⟨rfl,rfl⟩) h6) (nA (d:=13) (st1:=s0) true rfl rfl t (gc rfl (iC (d:=12) rfl (oq (d:=11) (as:=[.val (bU 7 (.str cU) [] 0 (L.bD+1)),.val .none,.fresh (iL [0])]) rfl rfl (gM (.val (bU 7 (.str cU) [] 0 (L.bD+1))) (st1:=s1) rfl (dO (d:=10) 1373 (st1:=s0) (as:=[.val (.obj 14),.val (.int 7),.val (.str cU),.fresh (.lst []),.val (.int 0)]) rfl rfl rfl (by done) (by done) rfl rfl (hn n 7 0 (.str cU) [] _ _ _) rfl) rfl (by done)) rfl))))),by decide,I1,S1.mono (by lia),w1,Ar,IZ 0 (Or.inl rfl),wn,.other (by decide) (by decide) (by decide),by decide +kernel,λZ h=>(by exact aM h)⟩
  ·refine qt (PE (n:=n+1) I1 S1 (by lia)) λL2 k hk KI I2 S2 w2 pT=>?_;let s2:St:=⟨lc,L2.o⟩;by_cases h5:f=5
   ·have t:=As 2 5 (Or.inr (Or.inr ⟨rfl,rfl⟩));rw[aa h5]at t;refine ⟨L2,18,.str cU,none,k,cU,λsc rb cp=>eX (loc:=lc) (loc':=lc) rfl rfl rfl (aU s0 rfl (skip 0 6 (Or.inl ⟨rfl,rfl⟩) h6) (aU s0 rfl (skip 1 7 (Or.inr (Or.inl ⟨rfl,rfl⟩)) h7) (nA (d:=13) (st1:=s0) true rfl rfl t (gc rfl (iC (d:=12) rfl (oq (d:=11) (as:=[.val (bU 18 (.str cU) [] 0 (L.bD+1)),.val .none,.val (iL k)]) rfl rfl (gM (.val (bU 18 (.str cU) [] 0 (L.bD+1))) (st1:=s1) rfl (dO (d:=10) 1373 (st1:=s0) (as:=[.val (.obj 14),.val (.int 18),.val (.str cU),.fresh (.lst []),.val (.int 0)]) rfl rfl rfl (by done) (by done) rfl rfl (hn n 18 0 (.str cU) [] _ _ _) rfl) rfl (gM (.val .none) (st1:=s1) rfl (by done) rfl (ie (.val (iL k)) rfl rfl (dO (d:=10) 1351 (st1:=s1) (as:=[.val (.obj 13)]) rfl rfl rfl (by done) (by done) rfl rfl (KI _ _ _) rfl) rfl))) rfl)))))),by decide,I2,S2,w2.trans w1,pT.trans Ar,hk,wn,.other (by decide) (by decide) (by decide),by decide +kernel,λZ h=>(by exact aM h)⟩
   ·refine ⟨L2,8,.str aS,some [aS],k,aS,λsc rb cp=>eX (loc:=lc) (loc':=lc) rfl rfl rfl (aU s0 rfl (skip 0 6 (Or.inl ⟨rfl,rfl⟩) h6) (aU s0 rfl (skip 1 7 (Or.inr (Or.inl ⟨rfl,rfl⟩)) h7) (aU s0 rfl (skip 2 5 (Or.inr (Or.inr ⟨rfl,rfl⟩)) h5) (gc rfl (iC (d:=14) rfl (oq (d:=13) (as:=[.val (bU 8 (.str aS) [] 0 (L.bD+1)),.fresh (.lst [.str aS]),.val (iL k)]) rfl rfl (gM (.val (bU 8 (.str aS) [] 0 (L.bD+1))) (st1:=s1) rfl (dO (d:=12) 1373 (st1:=s0) (as:=[.val (.obj 14),.val (.int 8),.val (.str aS),.fresh (.lst []),.val (.int 0)]) rfl rfl rfl (by done) (by done) rfl rfl (hn n 8 0 (.str aS) [] _ _ _) rfl) rfl (gM (.fresh (.lst [.str aS])) (st1:=s1) rfl (by done) rfl (ie (.val (iL k)) rfl rfl (dO (d:=12) 1351 (st1:=s1) (as:=[.val (.obj 13)]) rfl rfl rfl (by done) (by done) rfl rfl (KI _ _ _) rfl) rfl))) rfl)))))),by decide,I2,S2,w2.trans w1,pT.trans Ar,hk,⟨Or.inr ⟨[aS],rfl,rfl,by decide +kernel,by decide,λx hx=>by rw[aA.mp hx];decide +kernel⟩⟩,.name,by decide +kernel,λws h=>(by exists h;decide)⟩
theorem SD(a b:EV)(he:e=.Subscript (x1 e) (.Call (x1 (x2 e)) (xl (x2 e)) [] (x2 e).pos) e.pos)(h1:(rn n d).e cx (x1 e) st=some (a,st1))(hb:blocks a (.Call (x1 (x2 e)) (xl (x2 e)) [] (x2 e).pos)=false)(h2:(rn n d).e cx (.Call (x1 (x2 e)) (xl (x2 e)) [] (x2 e).pos) st1=some (b,st2))(hc:itemOf st2 a b=some v):(rn n (d+1)).e cx e st=some (v,st2):=
 eE he (show ((rn n d).e cx (x1 e) st).bind _=_ by
  rw[h1,ah];dsimp only;rw[hb,au (by decide),h2,ah];dsimp only;rw[hc];rfl)
theorem GI{vs:Nat}(he:e=.Call (.Name (xn (x1 e)) (x1 e).pos) [(xl e).headD default] [] e.pos)(hr:(decide (xn (x1 e)=Str.ofString "range")&&CU (jG cx (xn (x1 e)))&&noStar ((xl e).headD default))=true)(h:(rn n d).e cx ((xl e).headD default) st=some (.val (.int vs),st1))(hv:vs<=4096):ia (rn n d) cx e st=some ((List.range vs).map λi=>MV.int (Int.ofNat i),false,st1):=by
 have key:ia (rn n d) cx e st=((rn n d).e cx ((xl e).headD default) st).bind λ(a,st)=>(match a with
    | .val (.int n)=>if decide (0<=n)&&decide (n<=4096) then some ((List.range n.toNat).map (λi=>MV.int (Int.ofNat i)),false,st) else none
    | _=>none):=by
  rw[he];show (if _ then _ else _)=_;rw[aq hr];rfl
 rw[key,h,ah];dsimp only;rw[aa (p:=(0:Int)<=vs) (by lia),aa (p:=(vs:Int)<=4096) (by lia)];rfl
noncomputable def jS(f:Int):Bool:=decide (f∈[2,3,5])
def jz:Int->List Int->List Int
 | c,[]=>[c]
 | c,f::r=>if f=7 then c::jz 0 r else jz (if jS f then 1 else c) r
theorem Bv(c f:Int)(r:List Int):jz c (f::r)=if f=7 then c::jz 0 r else jz (if jS f then 1 else c) r:=rfl
theorem YH(c:Int):∀r,jz c r≠[]:=by
 intro r;induction r generalizing c with
 | nil=>exact List.cons_ne_nil _ _
 | cons f r ih=>
  rw[Bv];by_cases q:f=7
  ·rw[aq q];exact List.cons_ne_nil _ _
  ·rw[au q];exact ih _
theorem Hr(r:List Int):∀c,(jz c r).length<=r.length+1:=by
 induction r with
 | nil=>intro c;exact az _
 | cons f r ih=>
  intro c;rw[Bv];by_cases q:f=7
  ·rw[aq q];exact cR (ih 0)
  ·rw[au q];exact Nat.le_succ_of_le (ih _)
abbrev j4:Ctx:=⟨(fnOf 1418).scope,false,RB 1418,false⟩
abbrev gU:Ctx:={j4 with ro:=j4.ro||false}
def kF(sh:Bool)(node:MV)(o:Option (List Str))(k:List Int)(fs:List Int):List (Str×LV):=[V "w" (.obj 14),V "g" (.obj 13),V "shut" (.bool sh),V "node" node,V "words" (lA o),V "kind" (iL k),V "forms" (iL fs)]
def u7:Stmt:=hd (fnOf 1418).body.tail.tail.tail.tail.tail
def RF:Option Int->List (Str×LV)
 | none=>[]
 | some f=>[V "form" (.int f)]
theorem Rm{lc:List (Str×LV)}(EH:∃sh node o k fs,lc=kF sh node o k fs)(pre:List Int)(c f:Int)(r:Option Int)(hp:pre.length<100):∃st1,setName gU ⟨lc++[W "chained" (iL (pre++[c]))]++RF r,σ⟩ (iG u7) (.val (.int f))=some st1/\
  Go (n+2) 13 gU (bo u7) st1 .bN ⟨lc++[W "chained" (iL (if f=7 then pre++[c]++[0] else pre++[if jS f then 1 else c]))]++RF (some f),σ⟩:=by
 revert EH;refine UU λsh node o k fs bA=>?_;obtain rfl:=bA;let s (cs:List Int):St:=⟨kF sh node o k fs++[W "chained" (iL cs)]++RF (some f),σ⟩;refine ⟨s (pre++[c]),by induction r using aab<;>done,?_⟩;have hl:(pre++[c]).length<bE:=by rw[ay];show pre.length+1<bE;unfold bE;lia
 have t1:(rn (n+2) 12).t gU (sv (hd (bo u7))) (s (pre++[c]))=some (decide (f=7),s (pre++[c])):=dI (d:=11) (.val (.int f)) (.val (.int 7)) rfl rfl (by done) rfl (by done) rfl rfl (iJ f 7);by_cases q:f=7
 ·rw[aa q]at t1;rw[aq q];refine dX (d:=11) (st1:=s (pre++[c])) (st2:=s (pre++[c]++[0])) true rfl rfl t1 ?_ (bQ rfl);refine aU (s (pre++[c]++[0])) rfl (i9 (d:=10) (.val .none) rfl rfl (gQ (d:=9) (st1:=s (pre++[c])) (st2:=s (pre++[c])) (as:=[.val (.int 0)]) (mf:=none) (.cont (.var (Str.ofString "chained"))) rfl rfl (by done) rfl (by done) rfl (lE rfl (o7 (.int 0) (.var (Str.ofString "chained")) ((pre++[c]).map .int) (by done) (by rw[aj];exact hl) rfl ?_))) rfl) (bQ rfl);have:iL (pre++[c]++[0])=.lst ((pre++[c]).map .int++[.int 0]):=by unfold iL;rw[bB (l₂:=[0])];rfl
  show _=some (St.mk (kF sh node o k fs++[W "chained" (iL (pre++[c]++[0]))]++_) _);rw[this]
  done
 ·rw[ao q]at t1;rw[au q];have t2:(rn (n+2) 10).t gU (sv (hd (el (hd (bo u7))))) (s (pre++[c]))=some (jS f,s (pre++[c])):=dI (d:=9) (.val (.int f)) (.val (nums [2,3,5])) rfl rfl (by done) rfl (by done) rfl rfl (show isIn (.int f) (.tup ([2,3,5].map .int))=_ from qT f [2,3,5]);refine dX (d:=11) (st1:=s (pre++[c])) (st2:=s (pre++[if jS f then 1 else c])) false rfl rfl t1 (dX (d:=9) (st1:=s (pre++[c])) (st2:=s (pre++[if jS f then 1 else c])) (jS f) rfl rfl t2 ?_ (bQ rfl)) (bQ rfl);cases jS f with
  | false=>exact bQ rfl
  | true=>
   refine aU (s (pre++[1])) rfl (nJ (st1:=s (pre++[c])) (d:=8) (.val (.int 1)) rfl (by done) (BK (st1:=s (pre++[c])) (st2:=s (pre++[c])) (.var (Str.ofString "chained")) ((pre++[c]).map .int) (by done) rfl (by done) (by done) (by rw[bB];induction pre using aaa<;>rfl) (by rw[aj];exact hl) rfl ?_)) (bQ rfl);have:((pre++[c]).map MV.int).set (((pre++[c]).map MV.int).length-1) (.int 1)=(pre++[1]).map .int:=by rw[bB,bB,ay,List.set_append_right _ _ (by show _<=(pre.map MV.int).length+1-1;lia)];congr 1;show [MV.int c].set ((pre.map MV.int).length+1-1-(pre.map MV.int).length) (.int 1)=[.int 1];rw[Nat.add_sub_cancel,Nat.sub_self];rfl
   rw[this]
   done
theorem Rn{lc:List (Str×LV)}(EH:∃sh node o k fs,lc=kF sh node o k fs)(rs:List Int):∀(pre:List Int) (c:Int) (r:Option Int),pre.length+rs.length<90->∃r',(r'=none->rs=[]/\r=none)/\lD (n+2) 13 gU (iG u7) (bo u7) (rs.map .int) ⟨lc++[W "chained" (iL (pre++[c]))]++RF r,σ⟩ .bN ⟨lc++[W "chained" (iL (pre++jz c rs))]++RF r',σ⟩:=by
 induction rs with
 | nil=>exact λpre c r Z=>⟨r,λh=>⟨rfl,h⟩,mJ⟩
 | cons f rs ih=>
  intro pre c r hl;rw[aR]at hl;refine bz (Rm (n:=n) (σ:=σ) EH pre c f r (by lia)) λst1 h1 h2=>?_;rw[Bv];by_cases q:f=7
  ·rw[aq q]at h2 |-;refine bz (ih (pre++[c]) 0 (some f) (by rw[ay];show pre.length+1+_<_;lia)) λr' h3 h4=>?_;rw[cH pre [c] (jz 0 rs)]at h4;exact ⟨r',λh=>by injection (h3 h).2,jn h1 h2 h4⟩
  ·rw[au q]at h2 |-;refine bz (ih pre (if jS f then 1 else c) (some f) (by lia)) λr' h3 h4=>?_;exact ⟨r',λh=>by injection (h3 h).2,jn h1 h2 h4⟩
def EI:Expr:=sv (hd (fnOf 1418).body.tail.tail.tail)
theorem MJ(loc:List (Str×LV))(sS:∃(sh:Bool) (node w k:MV),loc=[V "w" (.obj 14),V "g" (.obj 13),V "shut" (.bool sh),V "node" node,V "words" w,V "kind" k])(vs:List MV):∀(L:LS) (s:Nat),Inv L m->Sz L s->s+vs.length<=890->∃(ds:List Int) (L':LS),ds.length=vs.length/\(∀d∈ds,0<=d/\d<8)/\
  Comp (n+1) 13 ⟨iO EI,(false||false),RB 1418,true⟩ (xl EI) (x1 EI) (Str.ofString "go") (loc.map eY) vs L.o (ds.map .int) L'.o/\Inv L' m/\Sz L' (s+vs.length)/\L'.bD=L.bD:=by
 induction vs with
 | nil=>exact λL s I S Z=>⟨[],L,rfl,λZ h=>absurd h aX,Bl,I,S,rfl⟩
 | cons v r ih=>
  intro L s I S hs;rw[aR]at hs;refine qt (ue I S (by lia) (q:=8) ⟨by decide,by decide⟩) λL1 x hx sZ I1 S1 w1 Z=>?_;refine qt (ih L1 (s+1) I1 S1 (by lia)) λds L2 h1 h2 h3 I2 S2 w2=>?_;refine ⟨x::ds,L2,by rw[aR,aR,h1],λd fG=>?_,?_,I2,by rw[aR,show s+(r.length+1)=s+1+r.length by lia];exact S2,w2.trans w1⟩
  ·(refine bu (aC.mp fG) (λe=>?_) λe=>?_)
   ·rw[e];exact hx
   ·exact h2 d e
  ·revert sS;refine UK λsh node w k bA=>?_;obtain rfl:=bA;let s:St:=⟨(Str.ofString "go",.v v)::[V "w" (.obj 14),V "g" (.obj 13),V "shut" (.bool sh),V "node" node,V "words" w,V "kind" k].map eY,L.o⟩;exact Bm (st1:=s) (st2:=⟨s.loc,L1.o⟩) (all_nil rfl) (dO (d:=12) 1332 (st1:=s) (as:=[.val (.obj 13),.val (.int 8)]) rfl rfl rfl (by done) (by done) rfl rfl (sZ n _ _ _) rfl) rfl h3
noncomputable def zeros(cs:List Int):List Int:=(cs.filter λc=>decide (c=1)).map λZ=>0
theorem NV(cs:List Int):(zeros cs).map (λZ=>(0:Int))=zeros cs:=by unfold zeros;rw[bI];rfl
def vt(sh:Bool)(node:MV)(o:Option (List Str))(k fs:List Int)(lv:LV)(f pl:Int):List (Str×LV):=[V "w" (.obj 14),V "g" (.obj 13),V "shut" (.bool sh),V "node" node,V "words" (lA o),V "kind" (iL k),V "forms" (iL fs),(Str.ofString "chained",lv),V "form" (.int f),V "place" (.int pl)]
inductive DH(n:Nat)(m:Int)(s:Nat)(q:St):Prop
 | mk (L':LS) (sh:Bool) (kd:Int) (a:MV) (o:Option (List Str)) (k:List Int) (p:Str) (fs:List Int) (lv:LV) (f:Int):j8 (rn (n+19) 15) j4 ((fnOf 1418).body.take 9) q=some (.bN,⟨vt sh (bU kd a [] 0 L'.bD) o k fs lv f 0,L'.o⟩)->(lv=.own (iL (jz 0 fs))\/lv=.v (iL (jz 0 fs)))->kd≠20->fs.length<=5->(∀x∈fs,0<=x/\x<8)->(j6 k\/Spec k)->WP o p->PT 0 (bU kd a [] 0 L'.bD) p->p.length<=1->(∀ws,o=some ws->ws.length<=1)->Inv L' m->m<=L'.bD->Sz L' s->DH n m s q
theorem NW(I:Inv L m)(hm:m<=L.bD+1)(S:Sz L s)(hs:s<=800):DH n m (s+10) ⟨[V "w" (.obj 14)],L.o⟩:=by
 refine qt (ue I S (by lia) (q:=5) ⟨by decide,by decide⟩) λL1 EJ Zg r1 I1 S1 w1 Z=>?_;refine qt (ue I1 S1 (by lia) (q:=8) ⟨by decide,by decide⟩) λL2 KJ Yg r2 I2 S2 w2 Z=>?_;refine CN.casesOn (L8 (n:=n+15) I2 S2 (by lia) Yg) λL3 kd a o k p r3 tV I3 S3 w3 Z hk hw hP jU tX=>?_;refine qt (ue I3 S3 (by lia) (q:=5) ⟨by decide,by decide⟩) λL4 x4 Yh r4 I4 S4 w4 Z=>?_;let sh:=decide (EJ=0);rw[<-w3]at r3 hP;let node:=bU kd a [] 0 L3.bD;let c:Nat:=1+x4.toNat;have hc:(c:Int)=1+x4:=by show ((1+x4.toNat:Nat):Int)=_;lia
 let vs:List MV:=(List.range c).map λi=>MV.int (Int.ofNat i);have qF:vs.length=c:=by show ((List.range c).map _).length=c;rw[aj,List.length_range]
 let l3:List (Str×LV):=[V "w" (.obj 14),V "g" (.obj 13),V "shut" (.bool sh),V "node" node,V "words" (lA o),V "kind" (iL k)];refine qt (MJ (n:=n+18) l3 ⟨sh,node,lA o,iL k,rfl⟩ vs L4 _ I4 S4 (by rw[qF];lia)) λfs L5 mH xK dJ I5 S5 w5=>?_;have tW:1<=fs.length/\fs.length<=5:=by rw[mH,qF];lia
 let s0:St:=⟨[V "w" (.obj 14)],L.o⟩;let s1:St:=⟨[V "w" (.obj 14),V "g" (.obj 13)],L.o⟩;let KL:St:=⟨[V "w" (.obj 14),V "g" (.obj 13)],L1.o⟩;let s2:St:=⟨[V "w" (.obj 14),V "g" (.obj 13),V "shut" (.bool sh)],L1.o⟩;let Yi:St:=⟨[V "w" (.obj 14),V "g" (.obj 13),V "shut" (.bool sh)],L2.o⟩;let Yj:St:=⟨[V "w" (.obj 14),V "g" (.obj 13),V "shut" (.bool sh)],L3.o⟩;let s3:St:=⟨l3,L3.o⟩;let Yk:St:=⟨l3,L4.o⟩;let s4:St:=⟨kF sh node o k fs,L5.o⟩;let s5:St:=⟨kF sh node o k fs++[W "chained" (iL [0])],L5.o⟩;refine bz (Rn (n:=n+17) (σ:=L5.o) (lc:=kF sh node o k fs) ⟨sh,node,o,k,fs,rfl⟩ fs [] 0 none (by show 0+fs.length<90;lia)) λr' je TY=>?_;obtain ⟨f,rfl⟩:∃f,r'=some f:=by
  induction r' using aab with
  | none=>have:=(je rfl).1;rw[this]at tW;exact absurd tW.1 (by decide)
  | some f=>exact ⟨f,rfl⟩
 let cs:=jz 0 fs;have kB:cs.length<=6:=by have:=Hr fs 0;show (jz 0 fs).length<=6;lia
 let s6:St:=⟨kF sh node o k fs++[W "chained" (iL cs)]++RF (some f),L5.o⟩;let z:List Int:=if sh then [] else zeros cs
 have hz:z.length<=6:=by
  show (if sh then [] else zeros cs).length<=6;split
  ·decide
  ·unfold zeros;rw[aj];have:=cV (λc=>decide (c=1)) cs;lia
 let lv:LV:=if sh then .own (iL cs) else .v (iL cs)
 let L6:LS:=(LS.rJ L5 z);let L7:LS:=(LS.rI L6 z);let l7:List (Str×LV):=kF sh node o k fs++[(Str.ofString "chained",lv)]++RF (some f);let s7:St:=⟨l7,L6.o⟩;let s8:St:=⟨l7,L7.o⟩;let s9:St:=⟨vt sh node o k fs lv f 0,L7.o⟩;refine ⟨L7,sh,kd,a,o,k,p,fs,lv,f,?_,?_,tV,tW.2,xK,hk,hw,?_,?_,?_,?_,?_,?_⟩
 ·have xZ:L7.bD=L3.bD:=w5.trans w4;rw[xZ];show Go (n+19) 15 j4 ((fnOf 1418).body.take 9) s0 .bN s9;refine aU s1 rfl (by done) ?_;refine aU s2 rfl (fU (d:=14) (st1:=KL) rfl (.val (.bool sh)) (CB (d:=13) (.val (.int EJ)) (.val (.int 0)) (st1:=KL) rfl rfl (dO (d:=12) 1332 (st1:=s1) (as:=[.val (.obj 13),.val (.int 5)]) rfl rfl rfl (by done) (by done) rfl rfl (r1 (n+18) _ _ _) rfl) rfl (by done) rfl rfl (iJ EJ 0)) (by done)) ?_;refine aU s3 rfl (wL (d:=14) (vs:=[node,lA o,iL k]) (ns:=[Str.ofString "node",Str.ofString "words",Str.ofString "kind"]) (st1:=Yj) rfl rfl (dO (d:=13) 1413 (st1:=Yi) (as:=[.val (.obj 14),.val (.int KJ)]) rfl rfl rfl (by done) (gM (.val (.obj 14)) (st1:=s2) rfl (by done) rfl (ie (.val (.int KJ)) rfl rfl (dO (d:=12) 1332 (st1:=s2) (as:=[.val (.obj 13),.val (.int 8)]) rfl rfl rfl (by done) (by done) rfl rfl (r2 (n+18) _ _ _) rfl) rfl)) rfl rfl (r3 _ _ _) rfl) (by done) (by show (decide ([Str.ofString "node",Str.ofString "words",Str.ofString "kind"].Nodup)&&decide ((3:Nat)=3))=true;decide +kernel) (by done)) ?_;refine aU s4 rfl (fU (d:=14) (st1:=⟨l3,L5.o⟩) rfl (.fresh (iL fs)) (lT (d:=13) (vs:=vs) (ins:=false) (st1:=Yk) rfl (GI (vs:=c) rfl rfl (hc.symm▸CD (d:=12) (.val (.int 1)) (.val (.int x4)) (st1:=s3) rfl (by done) rfl (dO (d:=11) 1332 (st1:=s3) (as:=[.val (.obj 13),.val (.int 5)]) rfl rfl rfl (by done) (by done) rfl rfl (r4 (n+18) _ _ _) rfl) rfl rfl (by exact ux ⟨by decide,by decide⟩ ⟨Yh.1,by lia⟩)) (by lia)) (by done) dJ (by rw[qF];exact aF (show c<=5 by lia) (by decide))) (by done)) ?_;refine aU s5 rfl (by done) ?_;refine aU s6 rfl (oF (d:=13) (xs:=fs.map .int) (ins:=false) (st1:=s5) rfl (by done) (by rw[aj];exact aF tW.2 (by decide)) TY rfl) ?_;refine aU s7 rfl ?_ (aU s8 rfl ?_ (aU s9 rfl (by done) (bQ rfl)))
  ·cases x6:sh with
   | true=>
    have e1:s7=⟨kF sh node o k fs++[(Str.ofString "chained",.own (iL cs))]++RF (some f),LS.o (LS.rJ L5 ([]))⟩:=by show St.mk (kF sh node o k fs++[(Str.ofString "chained",if sh then .own (iL cs) else .v (iL cs))]++_) (LS.o (LS.rJ L5 (if sh then [] else zeros cs)))=_;rw[x6];rfl
    rw[e1,show s6=⟨kF true node o k fs++[W "chained" (iL cs)]++RF (some f),L5.o⟩ by show St.mk (kF sh _ _ _ _++_++_) _=_;rw[x6],x6]
    done
   | false=>
    have e1:s7=⟨kF false node o k fs++[(Str.ofString "chained",.v (iL cs))]++RF (some f),LS.o (LS.rJ L5 (zeros cs))⟩:=by show St.mk (kF sh node o k fs++[(Str.ofString "chained",if sh then .own (iL cs) else .v (iL cs))]++_) (LS.o (LS.rJ L5 (if sh then [] else zeros cs)))=_;rw[x6];rfl
    let t6:St:=⟨kF false node o k fs++[W "chained" (iL cs)]++RF (some f),L5.o⟩;let t7:St:=⟨kF false node o k fs++[V "chained" (iL cs)]++RF (some f),L5.o⟩;rw[e1,show s6=t6 by show St.mk (kF sh _ _ _ _++_++_) _=_;rw[x6]];let ec:=x3 (sv (hd ((fnOf 1418).body.drop 6)));refine nJ (d:=14) (st1:=t7) (.fresh (iL (zeros cs))) rfl (xq (d:=13) (c:=false) (st1:=t6) rfl (by done) (lT (d:=12) (vs:=cs.map .int) (ins:=false) (st1:=t7) rfl (by done) (by done) ?_ (by rw[aj];exact aF kB (by decide)))) (by done);have:=rR (n:=n+19) (d:=12) (cx:=⟨iO ec,(false||false),RB 1418,true⟩) (ifs:=xl ec) (elt:=x1 ec) (x:=Str.ofString "one") (outer:=t7.loc.map eY) (σ:=L5.o)
     (λv=>match v with | .int z=>decide (z=1) | _=>true) (λZ=>.int 0) (cs.map .int) (λw hw=>by
      refine bz (aN.mp hw) λz hz bZ=>?_;obtain rfl:=bZ;let s':St:=⟨V "one" (.int z)::t7.loc.map eY,L5.o⟩;refine ⟨s'.loc,?_,λZ=>⟨.val (.int 0),s'.loc,by done,rfl⟩⟩;have:(rn (n+19) 12).t ⟨iO ec,(false||false),RB 1418,true⟩ ((xl ec).headD default) s'=some (decide (z=1),s'):=dI (d:=11) (.val (.int z)) (.val (.int 1)) rfl rfl (by done) rfl (by done) rfl rfl (iJ z 1);show jM _ _ _=some (decide (z=1),s');cases q:decide (z=1) with
      | true=>rw[q]at this;exact lQ rfl this (all_nil rfl)
      | false=>rw[q]at this;exact nI rfl this)
    rw[yf (λz=>decide (z=1)) _ (λZ=>rfl),bI]at this;have e2:(zeros cs).map MV.int=(cs.filter λz=>decide (z=1)).map ((λZ=>MV.int 0) ∘ MV.int):=by unfold zeros;rw[bI];rfl
    rw[e2];exact this
  ·let ec:=sv (hd ((fnOf 1418).body.drop 7));have Yl:z.map (λZ=>(0:Int))=z:=by
    show (if sh then [] else zeros cs).map (λZ=>(0:Int))=if sh then [] else zeros cs
    induction sh using aad with
    | true=>rfl
    | false=>exact NV cs
   have Ai:=rU (n:=n+19) (d:=13) (cx:=⟨iO ec,(false||true),RB 1418,true⟩) (ifs:=xl ec) (elt:=x1 ec) (x:=Str.ofString "one") (outer:=l7.map eY) (σ:=L6.o) (λZ=>.int 0) (z.map .int) rfl (λw hw=>⟨.val (.int 0),(Str.ofString "one",.v w)::l7.map eY,by done,rfl⟩);rw[bI,show (z.map ((λZ=>MV.int 0) ∘ MV.int))=z.map MV.int by
    rw[show ((λZ=>MV.int 0) ∘ MV.int:Int->MV)=MV.int ∘ (λZ=>(0:Int)) from rfl,<-bI,Yl]]at Ai
   have gy:lv=.own (iL cs)\/lv=.v (iL cs):=by
    show (if sh then LV.own (iL cs) else .v (iL cs))=_\/_;by_cases q:sh=true
    ·exact Or.inl (aq q)
    ·exact Or.inr (au q)
   refine So (d:=14) (st1:=s7) (.fresh (iL z)) rfl (lT (d:=13) (vs:=z.map .int) (ins:=true) (st1:=s7) rfl (by done) (by done) Ai (by rw[aj];exact aF hz (by decide))) (by done)
 ·show (if sh then LV.own (iL cs) else .v (iL cs))=_\/_;by_cases q:sh=true
  ·exact Or.inl (aq q)
  ·exact Or.inr (au q)
 ·have xZ:L7.bD=L3.bD:=w5.trans w4;rw[xZ];exact hP
 ·exact jU
 ·exact tX
 ·exact ⟨rfl,by show z.length<=100;lia,I5.dg,I5.nt,I5.bg,I5.dp,I5.ty,I5.told,I5.nums,I5.mem,I5.ar⟩
 ·have xZ:L7.bD=L3.bD:=w5.trans w4;rw[xZ,w3,w2,w1];exact hm
 ·have T:=S5.mono (show _<=s+10 by rw[qF];lia);exact ⟨T.U,T.dg,T.nt,T.ty,T.tr,T.bg,T.mem,T.cI,T.bD⟩
def Zh(s:Stmt):Expr:=xt s
variable {s:Stmt}
theorem SG(x:Str)(v:Int)(q1 q2:Pos)(kk:Nat)(he:s=.AugAssign (.Name x q1) .Add (.Constant (.int 1) kk q2) s.pos)(h1:getName PG cx st x=some (.val (.int v)))(hs:small v=true)(h2:setName cx st x (.val (.int (v+1)))=some st1):(rn n (d+1)).s cx s st=some (.bN,st1):=
 sE he (show (match getName PG cx st x with
  | some (.val (.int v))=>if small v&&small 1 then (setName cx st x (.val (.int (v+1)))).map λst=>(Fl.bN,st) else none
  | _=>none)=_ by
  rw[h1];dsimp only;rw[hs,h2];rfl)
variable {s:Nat} {sh:Bool} {fs cs:List Int} {lv:LV} {pl c f:Int} {node:MV}
def jC:Stmt:=hd ((fnOf 1418).body.drop 9)
def R7:Option (MV×MV×MV)->List (Str×LV)
 | none=>[]
 | some (x,y,z)=>[V "name" x,V "below" y,V "flags" z]
def gG(sh:Bool)(node:MV)(o:Option (List Str))(k fs:List Int)(lv:LV)(f pl:Int)(r:Option (MV×MV×MV)):List (Str×LV):=vt sh node o k fs lv f pl++R7 r
theorem F4(hc:cs[pl.toNat]?=some c)(hp:0<=pl)(hl:cs.length<=1000):mR (iL cs) (.int pl)=some (.int c):=by
 have dH:pl.toNat<cs.length:=by
  refine bu (Nat.lt_or_ge pl.toNat cs.length) (λh=>?_) λh=>?_
  ·exact h
  ·rw[List.getElem?_eq_none h]at hc;exact aM hc
 have:=item_at (xs:=cs) hp (by lia) hl;rw[hc]at this;exact this
theorem Ro{cx:Ctx}{e:Expr}{st:St}{d:Nat}(he:e=.BoolOp .Or (xl e) e.pos)(h0:(xl e).isEmpty=false)(h1:(xl e).tail.isEmpty=false)(h2:(xl e).tail.tail.isEmpty=true)(ha:(rn n (d+1)).t cx ((xl e).headD default) st=some (false,st))(hb:(rn n (d+1)).t cx ((xl e).tail.headD default) st=some (false,st)):(rn n (d+2)).t cx e st=some (false,st):=
 sH he (kL h0 ha (kL h1 hb (any_nil h2)))
theorem ML{cx:Ctx}{e:Expr}{loc:List (Str×LV)}{d:Nat}(I:L.ch=L.fl)(he:e=.Compare (x1 e) [.NotEq] [x2 e] e.pos)(hs:jJ (x2 e)=false)(hb:blocks (.cont (.slot 4 (Str.ofString "chains"))) (x2 e)=false)(h1:(rn n d).e cx (x1 e) ⟨loc,L.o⟩=some (.cont (.slot 4 (Str.ofString "chains")),⟨loc,L.o⟩))(h2:(rn n d).e cx (x2 e) ⟨loc,L.o⟩=some (.cont (.slot 14 (Str.ofString "flags")),⟨loc,L.o⟩)):(rn n (d+1)).t cx e ⟨loc,L.o⟩=some (false,⟨loc,L.o⟩):=by
 have hx:xc e=.NotEq:=by rw[he];rfl
 refine dI (.cont (.slot 4 (Str.ofString "chains"))) (.cont (.slot 14 (Str.ofString "flags"))) (by rw[hx];exact he) hs h1 hb h2 (x:=iL L.ch) (y:=iL L.fl) (by done) (by done) ?_;rw[hx];show (gm (iL L.ch) (iL L.fl)).map _=_;have:gm (iL L.ch) (iL L.fl)=some (decide (L.ch=L.fl)):=qc _ _;rw[this,aa I];rfl
def YZ:Stmt:=hd (bo jC).tail
theorem Bw(I:L.ch=L.fl)(gy:lv=.own (iL cs)\/lv=.v (iL cs))(r:Option (MV×MV×MV)):Go (n+19) 13 gU (bo jC).tail ⟨gG sh node o k fs lv f pl r,L.o⟩ .bN ⟨gG sh node o k fs lv f pl r,L.o⟩:=by
 let st:St:=⟨gG sh node o k fs lv f pl r,L.o⟩;refine dX (d:=11) (st1:=st) (st2:=st) false rfl rfl (Ro (d:=10) rfl rfl rfl rfl ?_ ?_) (bQ rfl) (bQ rfl)
 ·(revert gy;refine eS (λcF=>?_) (λcF=>?_)<;>obtain rfl:=cF)<;>done
 ·exact ML (d:=10) I rfl rfl rfl (by done) (by done)
structure CI(L:LS)(m:Int)(s:Nat)(rs cs:List Int)(pl:Int)(kd:Int)(k:List Int)(node:MV)(o:Option (List Str))(p:Str):Prop where
 I:Inv L m
 S:Sz L s
 nd:∃a kids fl,node=bU kd a kids fl L.bD
 hm:m<=L.bD
 hk:KK k
 hw:WP o p
 hP:∃d,PT d node p/\d+rs.length<=6
 jU:p.length+2*rs.length<=14
 x7:∀ws,o=some ws->ws.length+rs.length<=7
 tV:kd≠20
 mark:∃pre c,cs=pre++jz c rs/\(pre.length:Int)=pl/\(c=1->kd=32\/j6 k\/Spec k)
 x8:cs.length<=50
noncomputable def KN:LV->EV
 | .own _=>.cont (.var (Str.ofString "chained"))
 | .v x=>.val x
 | .bor x=>.bor x
theorem Hs{pre:List Int}{c:Int}{rs:List Int}(hh:(jz c rs).head?=some c):(pre++jz c rs)[((pre.length:Nat):Int).toNat]?=some c:=by rw[Int.toNat_natCast,cy (az _),Nat.sub_self,<-List.head?_eq_getElem?];exact hh
inductive sN(n:Nat)(sh:Bool)(fs:List Int)(lv:LV)(f:Int)(s:Nat)(rs cs:List Int)(q:St):Prop
 | mk (L':LS) (m' tY x9:Int) (k':List Int) (lW:MV) (o':Option (List Str)) (p':Str) (r':Option (MV×MV×MV)):Go (n+19) 13 gU (bo jC) q .bN ⟨gG sh lW o' k' fs lv f tY r',L'.o⟩->CI L' m' s rs cs tY x9 k' lW o' p'->sN n sh fs lv f s rs cs q
theorem TZ{rs:List Int}{r:Option (MV×MV×MV)}(gy:lv=.own (iL cs)\/lv=.v (iL cs))(C:CI L m s (6::rs) cs pl kd k node o p)(hs:s<=880):sN n sh fs lv 6 (s+14) rs cs ⟨gG sh node o k fs lv 6 pl r,L.o⟩:=by
 refine jN C.nd λa kids fl bA=>?_;obtain rfl:=bA;refine rj C.mark λpre c kB jU ya=>?_;refine qp (LY (n:=n+1) (kd:=kd) (a:=a) (kids:=kids) (fl:=fl) C.I C.S (by lia) C.hk (eF L.bD)) λL' due sZ I' S' w' iX=>?_;let node:=bU kd a kids fl L.bD;let lW:=bU 32 (.str cU) [node] 0 (L.bD+1);let s0:St:=⟨gG sh node o k fs lv 6 pl r,L.o⟩;let s1:St:=⟨gG sh node none k fs lv 6 pl r,L.o⟩;let s2:St:=⟨gG sh lW none due fs lv 6 pl r,L'.o⟩;have e2:(rn (n+19) 9).s gU (hd (bo (hd (el (hd (bo jC))))).tail) s1=some (.bN,s2):=wL (d:=8) (vs:=[lW,iL due]) (ns:=[Str.ofString "node",Str.ofString "kind"]) (st1:=⟨s1.loc,L'.o⟩) rfl rfl (dO (d:=7) 1399 (st1:=s1) (as:=[.val (.obj 14),.val node,.val (iL k)]) rfl rfl rfl (by done) (by done) rfl rfl (sZ _ _ _) rfl) (by done) (by show (decide ([Str.ofString "node",Str.ofString "kind"].Nodup)&&decide ((2:Nat)=2))=true;decide +kernel) (by done);refine ⟨L',m,pl,32,due,lW,none,cU,r,dX (d:=11) (st1:=s0) (st2:=s2) false rfl rfl (by done) (dX (d:=9) (st1:=s0) (st2:=s2) true rfl rfl (by done) (aU s1 rfl (by done) (aU s2 rfl e2 (bQ rfl))) (bQ rfl)) (Bw I'.ch gy r),?_⟩;have hl:(6::rs).length=rs.length+1:=rfl;have Ym:=C.hP;refine ⟨I',S'.mono (by lia),⟨_,_,_,by rw[w']⟩,by have:=C.hm;lia,iX,⟨Or.inl ⟨rfl,rfl⟩⟩,⟨0,.other (by decide) (by decide) (by decide),by (revert Ym;refine gp λd Z h=>?_);rw[hl]at h;lia⟩,?_,λws h=>(by exact aM h),by decide,⟨pre,c,kB,jU,λZ=>Or.inl rfl⟩,C.x8⟩;have:=C.jU;have hn:cU.length=0:=by decide +kernel
 rw[hl]at this;lia
theorem T3{rs:List Int}{r:Option (MV×MV×MV)}(gy:lv=.own (iL cs)\/lv=.v (iL cs))(C:CI L m s (7::rs) cs pl kd k node o p)(hs:s<=880):sN n sh fs lv 7 (s+14) rs cs ⟨gG sh node o k fs lv 7 pl r,L.o⟩:=by
 refine jN C.nd λa kids fl bA=>?_;obtain rfl:=bA;refine rj C.mark λpre c kB jU ya=>?_;let node:=bU kd a kids fl L.bD;have yb:cs[pl.toNat]?=some c:=by rw[kB,<-jU];exact Hs rfl
 have qH:0<=pl:=by lia
 have hit:=F4 yb qH (by have:=C.x8;lia);have VR:small pl=true:=vM ⟨qH,by
  have h1:pre.length+(jz c (7::rs)).length<=50:=by have:=C.x8;rw[kB,ay]at this;exact this
  lia⟩
 let s0:St:=⟨gG sh node o k fs lv 7 pl r,L.o⟩;have t0:(rn (n+19) 12).t gU (sv (hd (bo jC))) s0=some (true,s0):=by done
 have t1:(rn (n+19) 10).t gU (sv (hd (bo (hd (bo jC))))) s0=some (decide (c=1),s0):=dI (d:=9) (.val (.int c)) (.val (.int 1)) rfl rfl (wc (d:=8) (KN lv) (.val (.int pl)) rfl (by (revert gy;refine eS (λcF=>?_) (λcF=>?_)<;>obtain rfl:=cF)<;>done) (by (revert gy;refine eS (λcF=>?_) (λcF=>?_)<;>obtain rfl:=cF)<;>rfl) (by done) (by
  revert gy;refine eS (λcF=>?_) (λcF=>?_)<;>obtain rfl:=cF
  ·show Option.map _ (mR (iL cs) (.int pl))=_;rw[hit];rfl
  ·show Option.map _ (mR (iL cs) (.int pl))=_;rw[hit];rfl)) rfl (by done) rfl rfl (iJ c 1)
 have fin:∀(Le:LS) (ke:List Int) (nv:MV) (s':Nat),(rn (n+19) 11).s gU (hd (bo (hd (bo jC)))) s0=some (.bN,⟨gG sh nv o ke fs lv 7 pl r,Le.o⟩)->Inv Le m->Sz Le s'->s'<=s+2->m<=Le.bD->KK ke->sN n sh fs lv 7 (s+14) rs cs ⟨gG sh node o k fs lv 7 pl r,L.o⟩:=by
  intro Le ke nv s' he Ie Se gJ Zi EK;refine qu (yC Ie Se (by lia)) λL3 hn I3 S3 w3 Z=>?_;let lW:=bU 33 (.str cU) [nv] 0 (Le.bD+1);let q0:St:=⟨gG sh nv o ke fs lv 7 pl r,Le.o⟩;let q1:St:=⟨gG sh nv o ke fs lv 7 (pl+1) r,Le.o⟩;let q2:St:=⟨gG sh nv none ke fs lv 7 (pl+1) r,Le.o⟩;let q3:St:=⟨gG sh lW none ke fs lv 7 (pl+1) r,L3.o⟩;have f1:(rn (n+19) 11).s gU (hd (bo (hd (bo jC))).tail) q0=some (.bN,q1):=SG (d:=10) (Str.ofString "place") pl (xt (hd (bo (hd (bo jC))).tail)).pos (sv (hd (bo (hd (bo jC))).tail)).pos (xk (sv (hd (bo (hd (bo jC))).tail))) rfl (by done) VR (by done);have f2:(rn (n+19) 11).s gU (hd (bo (hd (bo jC))).tail.tail) q1=some (.bN,q2):=by done
  have f3:(rn (n+19) 11).s gU (hd (bo (hd (bo jC))).tail.tail.tail) q2=some (.bN,q3):=fU (d:=10) (st1:=⟨q2.loc,L3.o⟩) rfl (.val lW) (dO (d:=9) 1373 (st1:=q2) (as:=[.val (.obj 14),.val (.int 33),.val (.str cU),.fresh (.lst [nv]),.val (.int 0)]) rfl rfl rfl (by done) (by done) rfl rfl (hn (n+16) 33 0 (.str cU) [nv] _ _ _) rfl) (by done);refine ⟨L3,m,pl+1,33,ke,lW,none,cU,r,dX (d:=11) (st1:=s0) (st2:=q3) true rfl rfl t0 (aU q0 rfl he (aU q1 rfl f1 (aU q2 rfl f2 (aU q3 rfl f3 (bQ rfl))))) (Bw I3.ch gy r),?_⟩;have hl:(7::rs).length=rs.length+1:=rfl;have hP:=C.hP;refine ⟨I3,S3.mono (by lia),⟨_,_,_,by rw[w3]⟩,by lia,EK,⟨Or.inl ⟨rfl,rfl⟩⟩,⟨0,.other (by decide) (by decide) (by decide),by (revert hP;refine gp λd Z h=>?_);rw[hl]at h;lia⟩,?_,λws h=>(by exact aM h),by decide,⟨pre++[c],0,?_,?_,λh=>absurd h (by decide)⟩,C.x8⟩
  ·have:=C.jU;have hn:cU.length=0:=by decide +kernel
   rw[hl]at this;lia
  ·rw[kB,cH];show pre++(if (7:Int)=7 then c::jz 0 rs else _)=_;rw[aq rfl];rfl
  ·rw[ay,<-jU];rfl
 by_cases q:c=1
 ·rw[aa q]at t1;refine qp (Fw (n:=n+15) (kd:=kd) (a:=a) (kids:=kids) (fl:=fl) (at':=L.bD) C.I C.S (by lia) C.hk (ya q)) λLe ke sZ Ie Se we EK=>?_;let nv:=xY node (L.bD+1);refine fin Le ke nv (s+1) ?_ Ie Se (by lia) (by have:=C.hm;lia) EK;refine iE (d:=9) (st1:=s0) true rfl t1 (aU _ rfl (wL (d:=8) (vs:=[nv,iL ke]) (ns:=[Str.ofString "node",Str.ofString "kind"]) (st1:=⟨s0.loc,Le.o⟩) rfl rfl (dO (d:=7) 1406 (st1:=s0) (as:=[.val (.obj 14),.val node,.val (iL k)]) rfl rfl rfl (by done) (by done) rfl rfl (sZ _ _ _) rfl) (by done) (by show (decide ([Str.ofString "node",Str.ofString "kind"].Nodup)&&decide ((2:Nat)=2))=true;decide +kernel) (by done)) (bQ rfl))
 ·rw[ao q]at t1;exact fin L k node s (iE (d:=9) (st1:=s0) false rfl t1 (bQ rfl)) C.I C.S (by lia) C.hm C.hk
noncomputable def iB(x:Int):Str:=if x=0 then ⟨#[112]⟩ else ⟨#[113]⟩
def SB:List Stmt:=el (hd (el (hd (bo jC))))
def T4(nm:MV):Option (MV×MV×MV)->List (Str×LV)
 | none=>[V "name" nm]
 | some (_,y,z)=>R7 (some (nm,y,z))
def T5(nm nd:MV):Option (MV×MV×MV)->List (Str×LV)
 | none=>[V "name" nm,V "below" nd]
 | some (_,_,z)=>R7 (some (nm,nd,z))
def jc(f:Int):Int:=if jS f then 1 else 0
theorem PF(f:Int):jc f=qI (jS f):=by unfold jc qI;cases jS f<;>rfl
theorem PI{r:Option (MV×MV×MV)}{L1:LS}{x:Int}(hx:0<=x/\x<2)(gy:lv=.own (iL cs)\/lv=.v (iL cs))(h1:∀n,gB (n+1) 1332 [.v (.obj 13),.v (.int 2)] L (.val (.int x)) L1) :
  j8 (rn (n+19) 9) gU (SB.take 3) ⟨gG sh node o k fs lv f pl r,L.o⟩=some (.bN,⟨gG sh node o k fs lv f pl (some (.str (iB x),node,.int (jc f))),L1.o⟩):=by
 let nm:=MV.str (iB x);let s0:St:=⟨gG sh node o k fs lv f pl r,L.o⟩;let Yn:St:=⟨gG sh node o k fs lv f pl r,L1.o⟩;let s1:St:=⟨vt sh node o k fs lv f pl++T4 nm r,L1.o⟩;let s2:St:=⟨vt sh node o k fs lv f pl++T5 nm node r,L1.o⟩;let s3:St:=⟨gG sh node o k fs lv f pl (some (nm,node,.int (jc f))),L1.o⟩;show Go (n+19) 9 gU (SB.take 3) s0 .bN s3;refine aU s1 rfl (fU (d:=8) (st1:=Yn) rfl (.val nm) (SD (d:=7) (.val (.str (Str.ofString "pq"))) (.val (.int x)) (st1:=s0) rfl (by done) rfl (dO (d:=6) 1332 (st1:=s0) (as:=[.val (.obj 13),.val (.int 2)]) rfl rfl rfl (by done) (by done) rfl rfl (h1 (n+18) _ _ _) rfl) ?_) ?_) ?_
 ·have:x=0\/x=1:=by lia
  (revert this;refine eS (λcF=>?_) (λcF=>?_)<;>obtain rfl:=cF)<;>done
 ·(revert gy;refine eS (λcF=>?_) (λcF=>?_)<;>obtain rfl:=cF)<;>(induction r using aab with | none=>done | some y=>(rcases y with ⟨y1,y2,y3⟩);done)
 refine aU s2 rfl ?_ (aU s3 rfl (fU (d:=8) (st1:=s2) rfl (.val (.int (jc f))) (mX (d:=7) (jS f) rfl (dI (d:=6) (.val (.int f)) (.val (nums [2,3,5])) rfl rfl ?_ rfl (by done) rfl rfl (show isIn (.int f) (.tup ([2,3,5].map .int))=_ from qT f [2,3,5])) ?_) ?_) (bQ rfl))
 ·(revert gy;refine eS (λcF=>?_) (λcF=>?_)<;>obtain rfl:=cF)<;>(induction r using aab with | none=>done | some y=>(rcases y with ⟨y1,y2,y3⟩);done)
 ·(revert gy;refine eS (λcF=>?_) (λcF=>?_)<;>obtain rfl:=cF)<;>(induction r using aab with | none=>done | some y=>(rcases y with ⟨y1,y2,y3⟩);done)
 ·unfold jc;cases jS f<;>done
 ·(revert gy;refine eS (λcF=>?_) (λcF=>?_)<;>obtain rfl:=cF)<;>(induction r using aab with | none=>done | some y=>(rcases y with ⟨y1,y2,y3⟩);done)
abbrev jA(sh:Bool)(node:MV)(o:Option (List Str))(k fs:List Int)(lv:LV)(f pl:Int)(x:Int)(below:MV):List (Str×LV):=gG sh node o k fs lv f pl (some (.str (iB x),below,.int (jc f)))
theorem Ht{d:Nat}{e:Expr}{x:Int}{below:MV}(gy:lv=.own (iL cs)\/lv=.v (iL cs))(he:e=.Compare (x1 e) [.Gt] [x2 e] e.pos)(hs:jJ (x2 e)=false)(h1:(rn (n+19) d).e gU (x1 e) ⟨jA sh node o k fs lv f pl x below,σ⟩=some (.val (.int f),⟨jA sh node o k fs lv f pl x below,σ⟩))(h2:(rn (n+19) d).e gU (x2 e) ⟨jA sh node o k fs lv f pl x below,σ⟩=some (.val (.int 3),⟨jA sh node o k fs lv f pl x below,σ⟩)) :
  (rn (n+19) (d+1)).t gU e ⟨jA sh node o k fs lv f pl x below,σ⟩=some (decide (f>3),⟨jA sh node o k fs lv f pl x below,σ⟩):=by
 have hx:xc e=.Gt:=by rw[he];rfl
 refine dI (.val (.int f)) (.val (.int 3)) (by rw[hx];exact he) hs h1 rfl h2 rfl rfl ?_;rw[hx];rfl
inductive CO(n:Nat)(L:LS)(m:Int)(s:Nat)(f x:Int)(node:MV)(q:St)(g:MV->List (Str×LV)):Prop
 | mk (L':LS) (kd:Int) (a:MV) (kids:List MV):(rn (n+19) 9).s gU (hd (SB.drop 3)) q=some (.bN,⟨g (bU kd a kids (jc f) L'.bD),L'.o⟩)->Inv L' m->Sz L' s->L.bD<L'.bD->((f>3/\kd=17)\/(¬f>3/\kd=16/\a=.str (iB x)/\kids=[node]))->CO n L m s f x node q g
theorem NX{x:Int}(gy:lv=.own (iL cs)\/lv=.v (iL cs))(I:Inv L m)(S:Sz L s)(hs:s<=890):CO n L m (s+2) f x node ⟨jA sh node o k fs lv f pl x node,L.o⟩ λnd=>jA sh nd o k fs lv f pl x node:=by
 let s0:St:=⟨jA sh node o k fs lv f pl x node,L.o⟩;have t0:(rn (n+19) 8).t gU (sv (hd (SB.drop 3))) s0=some (decide (f>3),s0):=Ht (d:=7) gy rfl rfl (by done) (by done);refine qu (yC I S (by lia)) λL1 h1 I1 S1 w1 Z=>?_;by_cases q:f>3
 ·rw[aa q]at t0;refine qu (yC I1 S1 (by lia)) λL2 h2 I2 S2 w2 Z=>?_;let strN:=bU 2 (.str (iB x)) [] 0 (L.bD+1);let nd:=bU 17 (.str cU) [node,strN] (jc f) (L1.bD+1);let sb:St:=⟨jA sh node o k fs lv f pl x node,L1.o⟩;refine ⟨L2,17,.str cU,[node,strN],?_,I2,S2,by lia,Or.inl ⟨q,rfl⟩⟩;rw[w2];refine iE (d:=7) (st1:=s0) true rfl t0 (aU ⟨jA sh nd o k fs lv f pl x node,L2.o⟩ rfl (fU (d:=6) (st1:=⟨s0.loc,L2.o⟩) rfl (.val nd) (dO (d:=5) 1373 (st1:=sb) (as:=[.val (.obj 14),.val (.int 17),.val (.str cU),.fresh (.lst [node,strN]),.val (.int (jc f))]) rfl rfl rfl (by done)
   (gM (.val (.obj 14)) (st1:=s0) rfl (by done) rfl (gM (.val (.int 17)) (st1:=s0) rfl (by done) rfl (gM (.val (.str cU)) (st1:=s0) rfl (by done) rfl (gM (.fresh (.lst [node,strN])) (st1:=sb) rfl
    (Sm (d:=4) (as:=[.val node,.val strN]) rfl rfl (gM (.val node) (st1:=s0) rfl (by done) rfl (ie (.val strN) rfl rfl (dO (d:=3) 1373 (st1:=s0) (as:=[.val (.obj 14),.val (.int 2),.val (.str (iB x)),.fresh (.lst []),.val (.int 0)]) rfl rfl rfl (by done) (by done) rfl rfl (h1 (n+16) 2 0 (.str (iB x)) [] _ _ _) rfl) rfl)) rfl) rfl (by done)))))
   rfl rfl (h2 (n+16) 17 (jc f) (.str cU) [node,strN] _ _ _) rfl) (by done)) (bQ rfl))
 ·rw[ao q]at t0;let nd:=bU 16 (.str (iB x)) [node] (jc f) (L.bD+1);refine ⟨L1,16,.str (iB x),[node],?_,I1,S1.mono (by lia),by lia,Or.inr ⟨q,rfl,rfl,rfl⟩⟩;rw[w1];exact iE (d:=7) (st1:=s0) false rfl t0 (aU ⟨jA sh nd o k fs lv f pl x node,L1.o⟩ rfl (fU (d:=6) (st1:=⟨s0.loc,L1.o⟩) rfl (.val nd) (dO (d:=5) 1373 (st1:=s0) (as:=[.val (.obj 14),.val (.int 16),.val (.str (iB x)),.fresh (.lst [node]),.val (.int (jc f))]) rfl rfl rfl (by done) (by done) rfl rfl (h1 (n+16) 16 (jc f) (.str (iB x)) [node] _ _ _) rfl) (by done)) (bQ rfl))
theorem MM(nm:Str)(ws:List Str):ws≠[]->gP f6 (ws++[nm])=gP f6 ws++f6++nm:=by
 induction ws with
 | nil=>exact λh=>absurd rfl h
 | cons a ws ih=>
  intro Z;induction ws using aaa with
  | nil=>rfl
  | cons b r=>
  show a++f6++gP f6 ((b::r)++[nm])=a++f6++gP f6 (b::r)++f6++nm;rw[ih (List.cons_ne_nil _ _)];have assoc:∀x y z:Str,x++y++z=x++(y++z):=λx y z=>by
   show Str.mk (x.cps++y.cps++z.cps)=⟨x.cps++(y.cps++z.cps)⟩;rw[Array.append_assoc]
  rw[assoc (a++f6),assoc (a++f6),assoc (gP f6 (b::r))]
theorem E9(x y:Str):(x++y).length=x.length+y.length:=by show (x.cps++y.cps).size=_;rw[Array.size_append];rfl
theorem Rp(x:Int):(iB x).length=1:=by unfold iB;split<;>rfl
def qh(o:Option (List Str))(f x:Int):Option (List Str):=match o with
 | none=>none
 | some ws=>if f>3 then none else some (ws++[iB x])
theorem MN{x:Int}{below:MV}(gy:lv=.own (iL cs)\/lv=.v (iL cs))(hw:∀ws,o=some ws->ws.length<=100):(rn (n+19) 9).s gU (hd (SB.drop 7)) ⟨jA sh node o k fs lv f pl x below,σ⟩=some (.bN,⟨jA sh node (qh o f x) k fs lv f pl x below,σ⟩):=by
 let s0:St:=⟨jA sh node o k fs lv f pl x below,σ⟩;induction o using aab with
 | none=>exact fU (d:=8) (st1:=s0) rfl (.val .none) (mX (d:=7) true rfl (sH (d:=6) rfl (uo rfl (by done))) (by done)) (by done)
 | some ws=>
  have tX:=hw ws rfl;have t1:(rn (n+19) 6).t gU ((xl (x1 (sv (hd (SB.drop 7))))).headD default) s0=some (false,s0):=by done
  have t2:(rn (n+19) 6).t gU ((xl (x1 (sv (hd (SB.drop 7))))).tail.headD default) s0=some (decide (f>3),s0):=Ht (d:=5) gy rfl rfl (by done) (by done);by_cases q:f>3
  ·rw[aa q]at t2;have:qh (some ws) f x=none:=aq q;rw[this];exact fU (d:=8) (st1:=s0) rfl (.val .none) (mX (d:=7) true rfl (sH (d:=6) rfl (kL rfl t1 (uo rfl t2))) (by done)) (by done)
  ·rw[ao q]at t2;have:qh (some ws) f x=some (ws++[iB x]):=au q;rw[this];have ew:lA (some (ws++[iB x]))=.lst (ws.map .str++[.str (iB x)]):=by show MV.lst ((ws++[iB x]).map .str)=_;rw[bB];rfl
   refine fU (d:=8) (st1:=s0) rfl (.fresh (lA (some (ws++[iB x])))) (mX (d:=7) false rfl (sH (d:=6) rfl (kL rfl t1 (kL rfl t2 (any_nil rfl)))) (nK (d:=6) (.val (lA (some ws))) (.fresh (.lst [.str (iB x)])) rfl (by done) rfl (by done) rfl rfl ?_)) (by done);rw[ew];show (if _ then _ else _)=_;rw[aa (p:=(ws.map MV.str).length<=bE) (by rw[aj];unfold bE;lia)];rfl
theorem NY{x:Int}{Au Av tZ:Int}{aB:MV}{zp:List MV}{d:Nat}(gy:lv=.own (iL cs)\/lv=.v (iL cs))(I:Inv L m)(S:Sz L s)(hs:s<=880)(hk:KK k)(hw:WP o p)(hP:PT d (bU Au aB zp Av tZ) p)(fG:d<=10)(hm:m<=tZ)(hb:tZ<L.bD) :
  ∃L' k',Go (n+19) 9 gU ((SB.drop 4).take 3) ⟨jA sh (bU kd a kids (jc f) L.bD) o k fs lv f pl x (bU Au aB zp Av tZ),L.o⟩ .bN ⟨jA sh (bU kd a kids (jc f) L.bD) o k' fs lv f pl x (bU Au aB zp Av tZ),L'.o⟩/\Inv L' (tZ+1)/\Sz L' (s+8)/\L'.bD=L.bD/\(j6 k'\/Spec k'):=by
 let node:=bU kd a kids (jc f) L.bD;let below:=bU Au aB zp Av tZ;refine qp (NP (n:=n+2) (opt:=jS f) (kd:=kd) (at':=L.bD) (a:=a) (kids:=kids) I S (by lia) hk) λL1 d1 r1 I1 S1 w1 k1=>?_;refine qp (Fv (n:=n+2) I1 S1 (by lia) k1 hw hP fG hm) λL2 d2 r2 I2 S2 w2 k2=>?_;refine UL (LZ (n:=n+16) (nm:=iB x) I2 S2 (by lia) k2) λL3 d3 rv r3 KO I3 S3 w3 k3=>?_;let q0:St:=⟨jA sh node o k fs lv f pl x below,L.o⟩;let q1:St:=⟨jA sh node o d1 fs lv f pl x below,L1.o⟩;let q2:St:=⟨jA sh node o d2 fs lv f pl x below,L2.o⟩;let q3:St:=⟨jA sh node o d3 fs lv f pl x below,L3.o⟩;refine ⟨L3,d3,aU q1 rfl ?_ (aU q2 rfl ?_ (aU q3 rfl ?_ (bQ rfl))),I3,S3.mono (by lia),w3.trans (w2.trans w1),k3⟩
 ·have r1:gB (n+19) 1387 [.v (.obj 14),.v node,.v (.bool (jS f)),.v (iL k)] L (.val (iL d1)) L1:=by have:=r1;rw[<-PF]at this;exact this
  refine fU (d:=8) (st1:=⟨q0.loc,L1.o⟩) rfl (.val (iL d1)) (dO (d:=7) 1387 (st1:=q0) (as:=[.val (.obj 14),.val node,.val (.bool (jS f)),.val (iL k)]) rfl rfl rfl (by done) ?_ rfl rfl (r1 _ _ _) rfl) (by done);refine gM (.val (.obj 14)) (st1:=q0) rfl (by done) rfl (gM (.val node) (st1:=q0) rfl (by done) rfl (gM (.val (.bool (jS f))) (st1:=q0) rfl (sj (d:=6) (.val (.int (jc f))) (.val (.int 0)) rfl rfl (by done) rfl (by done) rfl rfl (by unfold jc;cases jS f<;>rfl)) rfl (ie (.val (iL k)) rfl rfl (by done) rfl)))
 ·refine iE (d:=7) (st1:=q1) true rfl (by done) (aU q2 rfl (fU (d:=6) (st1:=⟨q1.loc,L2.o⟩) rfl (.val (iL d2)) (dO (d:=5) 1392 (st1:=q1) (as:=[.val (.obj 14),.val below,.val (lA o),.val (iL d1)]) rfl rfl rfl (by done) (by done) rfl rfl (r2 _ _ _) rfl) (by done)) (bQ rfl))
 ·refine iE (d:=7) (st1:=q2) true rfl (by done) (aU q3 rfl (fU (d:=6) (st1:=⟨q2.loc,L3.o⟩) rfl rv (dO (d:=5) 1380 (st1:=q2) (as:=[.val (.obj 14),.val (iL d2),.val (.str (iB x))]) rfl rfl rfl (by done) (by done) rfl rfl (r3 _ _ _) (by (revert KO;refine eS (λcF=>?_) (λcF=>?_)<;>obtain rfl:=cF)<;>rfl)) ?_) (bQ rfl));(revert KO;refine eS (λcF=>?_) (λcF=>?_)<;>obtain rfl:=cF)<;>(revert gy;refine eS (λcF=>?_) (λcF=>?_)<;>obtain rfl:=cF)<;>done
theorem NZ{rs:List Int}{r:Option (MV×MV×MV)}(hf:f≠6/\f≠7)(gy:lv=.own (iL cs)\/lv=.v (iL cs))(C:CI L m s (f::rs) cs pl kd k node o p)(hs:s<=850):sN n sh fs lv f (s+14) rs cs ⟨gG sh node o k fs lv f pl r,L.o⟩:=by
 refine jN C.nd λa kids fl bA=>?_;obtain rfl:=bA;refine rj C.mark λpre c kB jU ya=>?_;refine bz C.hP λd hP z7=>?_;refine qt (ue C.I C.S (by lia) (q:=2) ⟨by decide,by decide⟩) λL1 x hx r1 I1 S1 w1 Z=>?_;let node:=bU kd a kids fl L.bD;have hl:(f::rs).length=rs.length+1:=rfl;rw[hl]at z7;refine CO.casesOn (NX (n:=n) (k:=k) (fs:=fs) (cs:=cs) (lv:=lv) (pl:=pl) (f:=f) (sh:=sh) (o:=o) (node:=node) (x:=x) gy I1 S1 (by lia)) λL2 oS a2 qY e3 I2 S2 w2 KP=>?_;let node2:=bU oS a2 qY (jc f) L2.bD;refine qp (NY (n:=n) (fs:=fs) (cs:=cs) (lv:=lv) (pl:=pl) (f:=f) (sh:=sh) (x:=x) (kd:=oS) (a:=a2) (kids:=qY) gy I2 S2 (by lia) C.hk C.hw hP (by lia) C.hm (by lia)) λL3 k3 VS I3 S3 w3 nU=>?_;have tX:∀ws,o=some ws->ws.length<=100:=λws h=>by have:=C.x7 ws h;lia
 have e7:=MN (n:=n) (σ:=L3.o) (k:=k3) (fs:=fs) (pl:=pl) (f:=f) (sh:=sh) (node:=node2) (x:=x) (below:=node) gy tX;have VT:=PI (n:=n) (node:=node) (o:=o) (k:=k) (fs:=fs) (f:=f) (pl:=pl) (r:=r) (sh:=sh) hx gy r1;let s0:St:=⟨gG sh node o k fs lv f pl r,L.o⟩;let s9:St:=⟨jA sh node2 (qh o f x) k3 fs lv f pl x node,L3.o⟩;have Yo:Go (n+19) 9 gU SB s0 .bN s9:=lR 3 VT (aU _ rfl e3 (lR 3 VS (aU s9 rfl e7 (bQ rfl))));have t0:(rn (n+19) 12).t gU (sv (hd (bo jC))) s0=some (false,s0):=by have:(rn (n+19) 12).t gU (sv (hd (bo jC))) s0=some (decide (f=7),s0):=dI (d:=11) (.val (.int f)) (.val (.int 7)) rfl rfl (by done) rfl (by done) rfl rfl (iJ f 7);rw[this,ao hf.2]
 have t1:(rn (n+19) 10).t gU (sv (hd (el (hd (bo jC))))) s0=some (false,s0):=by have:(rn (n+19) 10).t gU (sv (hd (el (hd (bo jC))))) s0=some (decide (f=6),s0):=dI (d:=9) (.val (.int f)) (.val (.int 6)) rfl rfl (by done) rfl (by done) rfl rfl (iJ f 6);rw[this,ao hf.1]
 have Co:=C.jU;rw[hl]at Co;have rM:=Rp x;have VU:f6.length=1:=by decide +kernel
 have Zj:cU.length=0:=by decide +kernel
 have yb:∃pre c,cs=pre++jz c rs/\(pre.length:Int)=pl/\(c=1->oS=32\/j6 k3\/Spec k3):=by refine ⟨pre,if jS f then 1 else c,?_,jU,λZ=>Or.inr nU⟩;rw[kB];congr 1;show (if f=7 then _ else _)=_;rw[au hf.2]
 have Yp:=dX (d:=11) (n:=n+19) (cx:=gU) (b:=bo jC) (st1:=s0) (st2:=s9) false rfl rfl t0 (dX (d:=9) (st1:=s0) (st2:=s9) false rfl rfl t1 Yo (bQ rfl)) (Bw I3.ch gy _);have rF:KK k3:=nU.imp id Or.inr;have fin:∀p',WP (qh o f x) p'->(∃d,PT d node2 p'/\d+rs.length<=6)->p'.length+2*rs.length<=14->(∀ws,qh o f x=some ws->ws.length+rs.length<=7)->sN n sh fs lv f (s+14) rs cs ⟨gG sh node o k fs lv f pl r,L.o⟩:=λp' q1 q2 q3 q4=>
  ⟨L3,L.bD+1,pl,oS,k3,node2,qh o f x,p',_,Yp,⟨I3,S3.mono (by lia),⟨a2,qY,jc f,by rw[w3]⟩,by lia,rF,q1,q2,q3,q4,by rcases KP with ⟨_,h⟩ | ⟨_,h,_⟩<;>rw[h]<;>decide,yb,C.x8⟩⟩
 rcases KP with ⟨EL,VV⟩ | ⟨EL,J0,rfl,rfl⟩
 ·have yc:qh o f x=none:=by induction o using aab with | none=>rfl | some ws=>exact aq EL
  refine fin cU (by rw[yc];exact ⟨Or.inl ⟨rfl,rfl⟩⟩) ⟨0,?_,by lia⟩ (by lia) (λws h=>by rw[yc]at h;exact aM h);show PT 0 (bU oS a2 qY (jc f) L2.bD) cU;rw[VV];exact .other (by decide) (by decide) (by decide)
 ·rcases C.hw.ok with ⟨rfl,rfl⟩ | ⟨ws,rfl,rfl,jd,Y0,x7⟩
  ·refine fin cU ⟨Or.inl ⟨rfl,rfl⟩⟩ ⟨d+1,?_,by lia⟩ (by lia) (λws h=>by exact aM h);show PT (d+1) (bU oS (.str (iB x)) [node] (jc f) L2.bD) cU;rw[J0];exact .JV hP
  ·have yc:qh (some ws) f x=some (ws++[iB x]):=au EL;have VW:ws≠[]:=by rintro rfl;exact jd rfl
   have hj:=MM (iB x) ws VW;have Aq:(gP f6 ws++f6++iB x).length=(gP f6 ws).length+2:=by rw[E9,E9,rM,VU]
   refine fin (gP f6 ws++f6++iB x) ⟨Or.inr ⟨ws++[iB x],yc,hj.symm,?_,?_,?_⟩⟩ ⟨d+1,?_,by lia⟩ (by lia) ?_
   ·intro e;rw[e]at Aq;lia
   ·rw[ay];have:=C.x7 ws rfl;show ws.length+1<=1000;lia
   ·intro y hy;refine bu (bX.mp hy) (λh=>?_) λh=>?_
    ·exact x7 y h
    ·rw[aA.mp h,rM];decide
   ·show PT (d+1) (bU oS (.str (iB x)) [node] (jc f) L2.bD) _;rw[J0];exact .mem hP jd (by lia) (by lia)
   ·intro Zk h;rw[yc]at h;exists h;rw[ay];have:=C.x7 ws rfl;rw[hl]at this;show ws.length+1+rs.length<=7;lia
theorem SH(he:e=.BoolOp .And (xl e) e.pos)(h0:xl e=[(xl e).headD default,(xl e).tail.headD default])(h1:(rn n d).e cx ((xl e).headD default) st=some (.val x,st1))(ht:truth x=some true)(h2:(rn n d).e cx ((xl e).tail.headD default) st1=some (v,st2)):(rn n (d+1)).e cx e st=some (v,st2):=
 eE he (show fV.yZ (rn n d) cx .And (xl e) st=_ by
  rw[h0];show ((rn n d).e cx ((xl e).headD default) st).bind _=_;rw[h1,ah];dsimp only;rw[ht,ah];exact h2)
inductive wN(n:Nat)(sh:Bool)(fs:List Int)(lv:LV)(s:Nat)(cs:List Int)(vs:List MV)(q:St):Prop
 | mk (L':LS) (m' tY x9:Int) (k':List Int) (lW:MV) (o':Option (List Str)) (p':Str) (f':Int) (r':Option (MV×MV×MV)):lD (n+19) 13 gU (iG jC) (bo jC) vs q .bN ⟨gG sh lW o' k' fs lv f' tY r',L'.o⟩->CI L' m' s [] cs tY x9 k' lW o' p'->wN n sh fs lv s cs vs q
theorem MO(gy:lv=.own (iL cs)\/lv=.v (iL cs))(rs:List Int):∀(L:LS) (m:Int) (s:Nat) (pl kd:Int) (k:List Int) (node:MV) (o:Option (List Str)) (p:Str) (f:Int) (r:Option (MV×MV×MV)),CI L m s rs cs pl kd k node o p->s+14*rs.length<=860->wN n sh fs lv (s+14*rs.length) cs (rs.map .int) ⟨gG sh node o k fs lv f pl r,L.o⟩:=by
 induction rs with
 | nil=>exact λL m s pl kd k node o p f r C Z=>⟨L,m,pl,kd,k,node,o,p,f,r,mJ,C⟩
 | cons g rs ih=>
  intro L m s pl kd k node o p f r C hs;rw[aR]at hs |-;have next:sN n sh fs lv g (s+14) rs cs ⟨gG sh node o k fs lv g pl r,L.o⟩->wN n sh fs lv (s+14*(rs.length+1)) cs ((g::rs).map .int) ⟨gG sh node o k fs lv f pl r,L.o⟩:=by rintro ⟨L1,m1,Yq,Yr,k1,node1,o1,p1,r1,h1,C1⟩;refine wN.casesOn (ih L1 m1 (s+14) Yq Yr k1 node1 o1 p1 g r1 C1 (by lia)) λL' m' tY x9 k' lW o' p' f' r' h2 C2=>?_;exact ⟨L',m',tY,x9,k',lW,o',p',f',r',jn (by done) h1 h2,by rw[show s+14*(rs.length+1)=s+14+14*rs.length by lia];exact C2⟩
  by_cases q6:g=6
  ·subst q6;exact next (TZ gy C (by lia))
  ·by_cases q7:g=7
   ·subst q7;exact next (T3 gy C (by lia))
   ·exact next (NZ ⟨q6,q7⟩ gy C (by lia))
theorem Lr{sc:Scope}{cp:Bool}(I:Inv L m)(hm:m<=L.bD+1)(S:Sz L s)(hs:s<=700):∃L' m',Runs (n+20) ⟨sc,false,true,cp⟩ 1418 [.v (.obj 14)] L.o (.val (.bool true)) L'.o/\Inv L' m'/\m'<=L'.bD+1/\Sz L' (s+90):=by
 refine DH.casesOn (NW (n:=n) I hm S (by lia)) λL1 sh kd a o k p fs lv f h1 gy tV mH xK hk hw hP KQ tX I1 m1 S1=>?_;let cs:=jz 0 fs;have iN:cs.length<=6:=by have:=Hr fs 0;show (jz 0 fs).length<=6;lia
 have C:CI L1 m (s+10) fs cs 0 kd k (bU kd a [] 0 L1.bD) o p:=⟨I1,S1,⟨a,[],0,rfl⟩,m1,hk.imp id Or.inr,hw,⟨0,hP,by lia⟩,by lia,λws h=>by have:=tX ws h;lia,tV,⟨[],0,rfl,rfl,λh=>absurd h (by decide)⟩,by lia⟩;refine wN.casesOn (MO (n:=n) (sh:=sh) (fs:=fs) gy fs L1 m (s+10) 0 kd k _ o p f none C (by lia)) λL2 m2 pW oS k2 node2 o2 p2 f2 r2 h2 C2=>?_;refine jN C2.nd λa2 qY pT bA=>?_;obtain rfl:=bA;refine rj C2.mark λpre c kB jU ya=>?_;refine bz C2.hP λd2 KR hd2=>?_;have yb:cs[pW.toNat]?=some c:=by show (jz 0 fs)[pW.toNat]?=some c;rw[kB,<-jU];exact Hs rfl
 have hit:=F4 yb (by lia) (by lia);let node:=bU oS a2 qY pT L2.bD;let s2:St:=⟨gG sh node o2 k2 fs lv f2 pW r2,L2.o⟩;have Ys:s+10+14*fs.length<=s+80:=by lia
 have S2:=C2.S.mono Ys;let KS:Stmt:=hd ((fnOf 1418).body.drop 9).tail;have Aw:(rn (n+19) 14).t j4 (sv KS) s2=some (decide (c=1),s2):=dI (d:=13) (.val (.int c)) (.val (.int 1)) rfl rfl (wc (d:=12) (KN lv) (.val (.int pW)) rfl (by (revert gy;refine eS (λcF=>?_) (λcF=>?_)<;>obtain rfl:=cF)<;>done) (by (revert gy;refine eS (λcF=>?_) (λcF=>?_)<;>obtain rfl:=cF)<;>rfl) (by done) (by
  revert gy;refine eS (λcF=>?_) (λcF=>?_)<;>obtain rfl:=cF
  ·show Option.map _ (mR (iL cs) (.int pW))=_;rw[hit];rfl
  ·show Option.map _ (mR (iL cs) (.int pW))=_;rw[hit];rfl)) rfl (by done) rfl rfl (iJ c 1)
 have h9:(rn (n+19) 15).s j4 (hd ((fnOf 1418).body.drop 9)) ⟨vt sh (bU kd a [] 0 L1.bD) o k fs lv f 0,L1.o⟩=some (.bN,s2):=oF (d:=13) (xs:=fs.map .int) (ins:=false) (st1:=⟨gG sh (bU kd a [] 0 L1.bD) o k fs lv f 0 none,L1.o⟩) rfl (by done) (by rw[aj];exact aF mH (by decide)) h2 rfl;have fin:∀(L3:LS) (s3:Nat) (Ax:Int) (a3:MV) (zq:List MV) (Ay t8:Int) (k3:List Int),(rn (n+19) 15).s j4 KS s2=some (.bN,⟨gG sh (bU Ax a3 zq Ay t8) o2 k3 fs lv f2 pW r2,L3.o⟩)->Inv L3 m2->Sz L3 s3->s3<=s+81->m2<=t8->t8<=L3.bD->KK k3->PT d2 (bU Ax a3 zq Ay t8) p2->∃L' m',Runs (n+20) ⟨sc,false,true,cp⟩ 1418 [.v (.obj 14)] L.o (.val (.bool true)) L'.o/\Inv L' m'/\m'<=L'.bD+1/\Sz L' (s+90):=λL3 s3 Ax a3 zq Ay t8 k3 qB I3 S3 Zl En z5 nU Yt=>by
  refine qp (Fv (n:=n+2) I3 S3 (by lia) nU C2.hw Yt (by lia) En) λL4 due r4 I4 S4 w4 Z=>?_;let nd:=bU Ax a3 zq Ay t8;let q3:St:=⟨gG sh nd o2 k3 fs lv f2 pW r2,L3.o⟩;let q4:St:=⟨gG sh nd o2 k3 fs lv f2 pW r2,L4.o⟩;refine ⟨L4,t8+1,eX (loc:=[V "w" (.obj 14)]) (loc':=q4.loc) rfl rfl rfl (lR 9 h1 (aU s2 rfl h9 (aU q3 rfl qB (gc rfl (iC (d:=14) rfl (SH (d:=13) (x:=.bool true) (st1:=q4) rfl rfl ?_ rfl ?_)))))),I4,by lia,S4.mono (by lia)⟩
  ·exact CB (d:=12) (.val (iL due)) (.val .none) (st1:=q4) rfl rfl (dO (d:=11) 1392 (st1:=q3) (as:=[.val (.obj 14),.val nd,.val (lA o2),.val (iL k3)]) rfl rfl rfl (by done) (by done) rfl rfl (r4 _ _ _) rfl) rfl (by done) rfl rfl rfl
  ·refine sj (d:=12) (.cont (.slot 4 (Str.ofString "chains"))) (.cont (.slot 14 (Str.ofString "flags"))) rfl rfl (by done) rfl (by done) (x:=iL L4.ch) (y:=iL L4.fl) (by done) (by done) ?_;show gm (iL L4.ch) (iL L4.fl)=_;have:gm (iL L4.ch) (iL L4.fl)=some (decide (L4.ch=L4.fl)):=qc _ _;rw[this,aa I4.ch]
 by_cases q:c=1
 ·rw[aa q]at Aw;refine qp (Fw (n:=n+15) (kd:=oS) (a:=a2) (kids:=qY) (fl:=pT) (at':=L2.bD) C2.I S2 (by lia) C2.hk (ya q)) λL3 k3 r3 I3 S3 w3 nU=>?_;refine fin L3 _ 20 (.str cU) [node] 0 (L2.bD+1) k3 ?_ I3 S3 (by lia) (by have:=C2.hm;lia) (by lia) nU (.chain KR C2.tV);exact iE (d:=13) (st1:=s2) true rfl Aw (aU ⟨gG sh (xY node (L2.bD+1)) o2 k3 fs lv f2 pW r2,L3.o⟩ rfl (wL (d:=12) (vs:=[xY node (L2.bD+1),iL k3]) (ns:=[Str.ofString "node",Str.ofString "kind"]) (st1:=⟨s2.loc,L3.o⟩) rfl rfl (dO (d:=11) 1406 (st1:=s2) (as:=[.val (.obj 14),.val node,.val (iL k2)]) rfl rfl rfl (by done) (by done) rfl rfl (r3 _ _ _) rfl) (by done) (by show (decide ([Str.ofString "node",Str.ofString "kind"].Nodup)&&decide ((2:Nat)=2))=true;decide +kernel) (by done)) (bQ rfl))
 ·rw[ao q]at Aw;exact fin L2 _ oS a2 qY pT L2.bD k2 (iE (d:=13) (st1:=s2) false rfl Aw (bQ rfl)) C2.I S2 (by lia) C2.hm (eF _) C2.hk KR
noncomputable def vv(e:Expr):List (Option Expr):=(ep e).d
noncomputable def qD(e:Expr):List Expr:=(ep e).l
def EM(e:Expr):Expr:=x2 e
variable {a b:EV}
theorem SJ(ks:List Str)(ss:List eO)(he:e=.Dict ((vv e).headD none::(vv e).tail) (qD e) e.pos)(hg:(cx.rb&&!cx.ro&&((vv e).headD none::(vv e).tail).length<=15)=true)(m9:strKeys ((vv e).headD none::(vv e).tail)=some ks)(l6:decide ks.Nodup=true)(hv:fC ((rn n d).e cx) (qD e) st=some (as,st1))(hs:ki newSlot as=some ss)(hl:ks.length=ss.length):(rn n (d+1)).e cx e st=some (.val (.obj st1.aD.length),{st1 with aD:=st1.aD++[⟨none,ks.zip ss⟩]}):=
 eE he (show (if _ then _ else _)=_ by
  rw[aq hg,m9,ah,aq l6,hv,ah];dsimp only;rw[hs,ah,aq hl])
theorem Rq(a b:EV)(he:e=.Subscript (x1 e) (.Slice none (some (EM (x2 e))) none (x2 e).pos) e.pos)(h1:(rn n d).e cx (x1 e) st=some (a,st))(hi:isSimple (EM (x2 e))=true)(h2:(rn n d).e cx (EM (x2 e)) st=some (b,st))(hc:Cg st a b=some v):(rn n (d+1)).e cx e st=some (v,st):=
 eE he (show ((rn n d).e cx (x1 e) st).bind _=_ by
  rw[h1,ah];dsimp only;rw[aq hi,h2,ah];dsimp only;rw[hc];rfl)
abbrev qL:Ctx:=⟨(fnOf 1423).scope,false,RB 1423,false⟩
def T6:kR:=⟨some 285,[fS "rows" (.c (.lst (j9.take 16))),fS "index" (.c (.bO (numbered 0 (j9.take 16)))),fS "decls" (.c (.lst [.none])),fS "bounds" lC,fS "defaults" lC,fS "names" lC,fS "origins" dC,fS "renamed" dC,fS "shaping" (.v (.int 0)),fS "putting" (.v (.int 0))]⟩
def qo:eN:=T6::IU::⟨some 181,[fS "rows" lC,fS "file" (.v (tN "m"))]⟩::⟨some 223,[fS "rows" lC]⟩::H6 [] [] [] [] 0::fx
noncomputable def L0(nu:List Int):LS:=⟨[],[],[],[],[],[],[],0,nu,0,0,[],[],[],[],[]⟩
def pX(xs:List Int):List (Str×LV):=[V "script" (iL xs),V "tab" (.obj 0),V "cx" (.obj 4)]
theorem Rr(xs:List Int):j8 (rn (n+21) 15) qL ((fnOf 1423).body.take 3) ⟨[V "script" (iL xs)],[]⟩=some (.bN,⟨pX xs,qo⟩):=by done
theorem T7(xs nu:List Int):(rn (n+21) 15).s qL (hd ((fnOf 1423).body.drop 4)) ⟨pX xs++[V "g" (.obj 13)],qo++[gO nu 0]⟩=some (.bN,⟨pX xs++[V "g" (.obj 13),V "w" (.obj 14)],(L0 nu).o⟩):=by done
theorem T8(xs:List Int)(hl:xs.length<=63):(rn (n+21) 15).s qL (hd ((fnOf 1423).body.drop 3)) ⟨pX xs,qo⟩=some (.bN,⟨pX xs++[V "g" (.obj 13)],qo++[gO (xs.take 40) 0]⟩):=by
 let s0:St:=⟨pX xs,qo⟩;let ec:=(qD (sv (hd ((fnOf 1423).body.drop 3)))).headD default;have hc:(rn (n+21) 13).e qL ec s0=some (.fresh (iL (xs.take 40)),s0):=by
  refine lT (d:=12) (vs:=(xs.take 40).map .int) (ins:=false) (st1:=s0) rfl (show ((rn (n+21) 12).e qL (x2 ec) s0).bind (λ(a,st)=>ia.n9 qL a st)=_ by
   rw[Rq (d:=11) (v:=.fresh (iL (xs.take 40))) (.val (iL xs)) (.val (.int 40)) rfl (by done) rfl (by done) ?_]
   ·rfl
   ·show (if (xs.map MV.int).length<=bE then (wu (xs.map MV.int) 40).map λys=>EV.fresh (.lst ys) else none)=_;rw[aj,aq (aW hl (by decide))];show some (EV.fresh (.lst ((xs.map MV.int).take 40)))=_;rw[<-List.map_take];rfl) (by done) ?_ (by rw[aj];exact aF (List.length_take_le _ _) (by decide))
  have:=rU (n:=n+21) (d:=12) (cx:=⟨iO ec,(false||false),RB 1423,true⟩) (ifs:=xl ec) (elt:=x1 ec) (x:=Str.ofString "n") (outer:=s0.loc.map eY) (σ:=qo) (λv=>v) ((xs.take 40).map .int) rfl (λv hv=>⟨.val v,V "n" v::s0.loc.map eY,by done,rfl⟩);rw[List.map_id']at this;exact this
 refine fU (d:=14) (st1:=⟨pX xs,qo++[gO (xs.take 40) 0]⟩) rfl (.val (.obj 13)) (SJ (d:=13) (as:=[.fresh (iL (xs.take 40)),.val (.int 0)]) (st1:=s0) [Str.ofString "nums",Str.ofString "at"] [.c (iL (xs.take 40)),.v (.int 0)] rfl rfl rfl (by decide +kernel) (gM (.fresh (iL (xs.take 40))) (st1:=s0) rfl hc rfl (by done)) rfl rfl) (by done)
noncomputable def FD:MV->MV
 | .inst _ fs=>.tup [(look fs (Str.ofString "number")).getD .none,(look fs (Str.ofString "at")).getD .none,(look fs (Str.ofString "args")).getD .none]
 | v=>v
theorem Hu(t:Int×Int×List MV):FD (kO t)=gZ t:=by done
theorem N1(as:List MV):uN as->as.all (MV.data 3)=true/\MV.g7 as as=true:=by
 induction as with
 | nil=>exact λZ=>⟨rfl,rfl⟩
 | cons a r ih=>intro h;refine cg (h a aE) λs bA=>?_;obtain rfl:=bA;refine cu (ih λx hx=>h x (aO _ hx)) λh1 h2=>?_;exact ⟨by rw[bS,h1];rfl,show (decide (s=s)&&MV.g7 r r)=true by rw[h2,aa rfl];rfl⟩
theorem Rt:∀(l:List (Int×Int×List MV)),(∀x∈l,uN x.2.2)->gm (.lst (l.map gZ)) (.lst (l.map gZ))=some true:=by
 intro l hl;have key:∀(l:List (Int×Int×List MV)),(∀x∈l,uN x.2.2)->(l.map gZ).all (MV.data 5)=true/\MV.g7 (l.map gZ) (l.map gZ)=true:=by
  intro l;induction l with
  | nil=>intro _;exact ⟨rfl,rfl⟩
  | cons x r ih=>
   intro h;refine cu (ih λy hy=>h y (aO _ hy)) λh1 h2=>?_;refine cu (N1 x.2.2 (h x aE)) λa1 a2=>?_;refine ⟨?_,?_⟩
   ·rw[bP,bS,h1,Bool.and_true];show (true&&(true&&(x.2.2.all (MV.data 3)&&true)))=true;rw[a1];rfl
   ·show (((decide (x.1=x.1))&&(decide (x.2.1=x.2.1)&&(MV.g7 x.2.2 x.2.2&&true)))&&MV.g7 (r.map gZ) (r.map gZ))=true;rw[h2,a2,aa rfl,aa rfl];rfl
 refine cu (key l hl) λh1 h2=>?_;show (if ((l.map gZ).all (MV.data 5)&&(l.map gZ).all (MV.data 5))=true then some (MV.g7 _ _) else none)=_;rw[h1,h2];rfl
theorem PJ(l:List (Int×Int)):gm (.lst (l.map gH)) (.lst (l.map gH))=some true:=by
 have key:(l.map gH).all (MV.data 5)=true/\MV.g7 (l.map gH) (l.map gH)=true:=by
  induction l with
  | nil=>exact ⟨rfl,rfl⟩
  | cons x r ih=>revert ih;refine gj λh1 h2=>?_;refine ⟨by rw[bP,bS,h1];rfl,?_⟩;show ((decide (x.1=x.1)&&(decide (x.2=x.2)&&true))&&MV.g7 (r.map gH) (r.map gH))=true;rw[h2,aa rfl,aa rfl];rfl
 revert key;refine gj λh1 h2=>?_;show (if ((l.map gH).all (MV.data 5)&&(l.map gH).all (MV.data 5))=true then some (MV.g7 _ _) else none)=_;rw[h1,h2];rfl
theorem N2(l:List Int):uD (l.map one) (l.map one)=some true:=by
 have h1:(l.map one).all (λe=>nC e.1&&nC e.2)=true:=by
  induction l with
  | nil=>rfl
  | cons x r ih=>rw[bP,bS,ih];rfl
 have h2:(l.map one).map (·.1)=l.map .int:=by rw[bI];rfl
 have h3:(l.map one).map (·.2)=(l.map λZ=>(1:Int)).map .int:=by rw[bI,bI];rfl
 show (if _ then _ else _)=_;rw[h1,h2,h3,rS,rS,aa rfl,aa rfl];rfl
variable {xs':List Int}
def vz(xs:List Int):List (Str×LV):=pX xs++[V "g" (.obj 13),V "w" (.obj 14)]
def RG:Option MV->List (Str×LV)
 | none=>[]
 | some v=>[V "go" v]
def KU:Stmt:=hd ((fnOf 1423).body.drop 5)
abbrev DI:Ctx:={qL with ro:=qL.ro||false}
theorem Ma(vs:List MV):∀(L:LS) (m:Int) (s:Nat) (r:Option MV),Inv L m->m<=L.bD+1->Sz L s->s+90*vs.length<=790->∃L' m' r',lD (n+21) 13 DI (iG KU) (bo KU) vs ⟨vz xs'++RG r,L.o⟩ .bN ⟨vz xs'++RG r',L'.o⟩/\Inv L' m'/\Sz L' 790:=by
 induction vs with
 | nil=>exact λL m s r I Z S hs=>⟨L,m,r,mJ,I,S.mono hs⟩
 | cons v vs ih=>intro L m s r I hm S hs;rw[aR]at hs;let st:St:=⟨vz xs'++RG (some v),L.o⟩;refine uU (Lr (n:=n+1) (sc:=DI.scope) (cp:=DI.comp) I hm S (by lia)) λL1 m1 h1 I1 Er S1=>?_;refine CY (ih L1 m1 (s+90) (some v) I1 Er S1 (by lia)) λL2 m2 r2 h2 I2 S2=>?_;refine ⟨L2,m2,r2,jn (st1:=st) (st2:=⟨st.loc,L1.o⟩) (by induction r using aab<;>done) ?_ h2,I2,S2⟩;exact dX (d:=11) (st1:=⟨st.loc,L1.o⟩) (st2:=⟨st.loc,L1.o⟩) false rfl rfl (zj (d:=11) (c:=true) rfl (G8 (d:=10) (.val (.bool true)) rfl (dO (d:=9) 1418 (st1:=st) (as:=[.val (.obj 14)]) rfl rfl rfl (by done) (by done) rfl rfl h1 rfl) rfl rfl)) (bQ rfl) (bQ rfl)
theorem PK(xs:List Int)(hl:xs.length<=63)(sc:Scope)(cp:Bool):∃σ',Runs (n+22) ⟨sc,false,true,cp⟩ 1423 [.v (iL xs)] [] (.val (.bool true)) σ':=by
 let nu:=xs.take 40;have I0:Inv (L0 nu) 0:=⟨rfl,cS _,rfl,rfl,rfl,rfl,λZ h=>absurd h aX,λZ h=>absurd h aX,List.length_take_le _ _,λZ h=>absurd h aX,λZ h=>absurd h aX⟩;have S0:Sz (L0 nu) 0:=⟨az _,az _,az _,az _,az _,az _,az _,⟨eF _,eF _⟩,⟨eF _,eF _⟩⟩;refine qt (ue I0 S0 (by decide) (q:=3) ⟨by decide,by decide⟩) λL1 x hx r1 I1 S1 w1 Z=>?_;let c:Nat:=1+x.toNat;have hc:(c:Int)=1+x:=by show ((1+x.toNat:Nat):Int)=_;lia
 let vs:List MV:=(List.range c).map λi=>MV.int (Int.ofNat i);have qF:vs.length=c:=by show ((List.range c).map _).length=c;rw[aj,List.length_range]
 refine CY (Ma (n:=n) (xs':=xs) vs L1 0 _ none I1 (by rw[w1];show (0:Int)<=0+1;decide) S1 (by rw[qF];lia)) λL2 m2 r2 h5 I2 S2=>?_;have B:=S2;let s0:St:=⟨[V "script" (iL xs)],[]⟩;let s3:St:=⟨pX xs,qo⟩;let s4:St:=⟨pX xs++[V "g" (.obj 13)],qo++[gO nu 0]⟩;let s5:St:=⟨vz xs,(L0 nu).o⟩;let Yu:St:=⟨vz xs,L1.o⟩;let s6:St:=⟨vz xs++RG r2,L2.o⟩;refine ⟨L2.o,eX (loc:=[V "script" (iL xs)]) (loc':=s6.loc) rfl rfl rfl (lR 3 (Rr (n:=n) xs) (aU s4 rfl (T8 (n:=n) xs hl) (aU s5 rfl (T7 (n:=n) xs nu) (aU s6 rfl ?_ (dX (d:=13) (st1:=s6) (st2:=s6) false rfl rfl ?_ (bQ rfl) (gc rfl ?_))))))⟩
 ·refine oF (d:=13) (xs:=vs) (ins:=false) (st1:=Yu) rfl (GI (vs:=c) rfl rfl (hc.symm▸CD (d:=13) (.val (.int 1)) (.val (.int x)) (st1:=s5) rfl (by done) rfl (dO (d:=12) 1332 (st1:=s5) (as:=[.val (.obj 13),.val (.int 3)]) rfl rfl rfl (by done) (by done) rfl rfl (r1 (n+20) _ _ _) rfl) rfl rfl (by exact ux ⟨by decide,by decide⟩ ⟨hx.1,by lia⟩)) (by lia)) (by rw[qF];exact aF (show c<=3 by lia) (by decide)) h5 (by induction r2 using aab<;>rfl)
 ·let ec:=x1 ((xl (sv (hd ((fnOf 1423).body.drop 6)))).headD default);have z7:L2.dg.length<bE:=aF B.dg (by decide);have dJ:(rn (n+21) 12).e qL ec s6=some (.fresh (.lst (L2.dg.map gZ)),s6):=by
   refine lT (d:=11) (vs:=L2.dg.map kO) (ins:=true) (st1:=s6) rfl (by done) (by induction r2 using aab<;>done) ?_ (by rw[aj];exact z7);have:=rU (n:=n+21) (d:=11) (cx:=⟨iO ec,(false||true),RB 1423,true⟩) (ifs:=xl ec) (elt:=x1 ec) (x:=Str.ofString "diag") (outer:=s6.loc.map eY) (σ:=L2.o) FD (L2.dg.map kO) rfl (λv hv=>by
    refine bz (aN.mp hv) λt Z bZ=>?_;obtain rfl:=bZ;rw[Hu];exact ⟨.val (gZ t),(Str.ofString "diag",.v (kO t))::s6.loc.map eY,by done,rfl⟩)
   rw[bI,show (FD ∘ kO)=gZ from funext Hu]at this;exact this
  refine sH (d:=13) rfl (kL (st1:=s6) rfl ?_ (kL (st1:=s6) rfl ?_ (any_nil rfl)))
  ·refine dI (d:=12) (.fresh (.lst (L2.dg.map gZ))) (.cont (.slot 14 (Str.ofString "told"))) rfl rfl dJ rfl (by induction r2 using aab<;>done) rfl (y:=.lst (L2.told.map gZ)) (by done) ?_;show (gm (.lst (L2.dg.map gZ)) (.lst (L2.told.map gZ))).map _=_;rw[<-I2.dg,Rt _ I2.ar];rfl
  ·refine dI (d:=12) (.cont (.slot 3 (Str.ofString "rows"))) (.cont (.slot 14 (Str.ofString "noted"))) rfl rfl (by done) rfl (by done) (x:=.lst (L2.nt.map gH)) (y:=.lst (L2.gb.map gH)) (by done) (by done) ?_;show (gm (.lst (L2.nt.map gH)) (.lst (L2.gb.map gH))).map _=_;rw[<-I2.nt,PJ];rfl
 ·refine iC (d:=14) rfl (sj (d:=13) (.cont (.slot 4 (Str.ofString "banged"))) (.cont (.slot 14 (Str.ofString "banged"))) rfl rfl (by done) rfl (by done) (x:=.bO (L2.bg.map one)) (y:=.bO (L2.jV.map one)) (by done) (by done) ?_);show uD (L2.bg.map one) (L2.jV.map one)=_;rw[<-I2.bg,N2]
end Mine.B
end
section
open PySem PySem.W PyProof.Rows
set_option maxHeartbeats 0
namespace Mine
noncomputable section
noncomputable def H1(P:Params):Heap:=absHeap (xx P) 1424 {}
noncomputable def S0(w:World)(os:OsState):Shared:=⟨boot_heap w.params,Array.mk [],boot_drawn,boot_toks,os⟩
theorem T9(w:World)(os:OsState):topGo treeTable pw w 11 iQ 12 (S0 w os) (topStub pw)=some ((U0 w os).abs,⟨denote treeTable (.body jZ eL),.body jZ eL,P0,[topFrame TP]⟩):=by kernel_rfl
theorem Ru(w:World)(os:OsState):segRun treeTable pw w 11 iQ 1 1 (U0 w os).abs (blockOf jZ eL (.body jZ eL) P0 [topFrame TP])=some (.next,(U0 w os).abs,.body jZ eL,P0):=by kernel_rfl
theorem Ua(w:World)(os:OsState):topRun treeTable pw w 11 iQ 2 (U7 w os).abs ⟨doneF .next,.body jZ eL,P7,[topFrame TP]⟩=some (U7 w os).abs:=by kernel_rfl
theorem Es(a n:Nat):gS a n++pw.main.body.drop (a+n)=pw.main.body.drop a:=by unfold gS;rw[<-List.drop_drop];exact List.take_append_drop n _
theorem Ub:jZ=pw.main.body.drop 0:=by kernel_rfl
theorem Rv:pw.main.body.drop 180=[]:=by kernel_rfl
theorem r8{w:World}{s s':SharedT}{r:Shared}{a n k N:Nat}{p p':Pos}(h:segRunT treeTable pw w 11 iQ 1 k s (piecesOf (gS a n) eL (.body jZ eL) p [topFrame TP])=some (.next,s',.body jZ eL,p'))(q:topRun treeTable pw w 11 iQ N s'.abs (restOf (pw.main.body.drop (a+n)) eL (.body jZ eL) p' [topFrame TP])=some r) :
  topRun treeTable pw w 11 iQ (k+N) s.abs (restOf (pw.main.body.drop a) eL (.body jZ eL) p [topFrame TP])=some r:=by
 rw[<-Es a n];exact piece_app (segRun_of h) q
theorem Uc(w:World)(os:OsState):topRun treeTable pw w 11 iQ 11902 (S0 w os) (topStub pw)=some (U7 w os).abs:=by
 have h7:topRun treeTable pw w 11 iQ 2 (U7 w os).abs (restOf (pw.main.body.drop 180) eL (.body jZ eL) P7 [topFrame TP])=some (U7 w os).abs:=by rw[Rv];exact piece_nil (Ua w os)
 have h6:=r8 (a:=154) (n:=26) (Wf pw jZ os w) h7;have h5:=r8 (a:=141) (n:=13) (We pw jZ os w) h6;have h4:=r8 (a:=78) (n:=63) (Wd pw jZ os w) h5;have h3:=r8 (a:=77) (n:=1) (Wc pw jZ os w) h4;have h2:=r8 (a:=14) (n:=63) (Wb pw jZ os w) h3;have h1:=r8 (a:=13) (n:=1) (Wa pw jZ os w) h2;have h0:=r8 (a:=0) (n:=13) (V9 pw jZ os w) h1;rw[<-Ub]at h0;exact go_top (T9 w os) (piece_block (Ru w os) h0)
noncomputable def sO:Program:={pw with main:={pw.main with body:=[sM 179]}}
noncomputable def Cd:List Str:=pw.boundNames.filter λn=>!(n==Str.ofString "law")
theorem Ud:LeftO pw sO Cd (λ_=>true) (λs=>s.heap) (λw=>H1 w.params) 12000:=by
 refine LeftO.of_pieces (H₀:=boot_heap) (H₁:=H1) (gs₀:=Array.mk []) (gs₁:=#[]) (d₀:=boot_drawn) (d₁:={}) (k₀:=boot_toks) (k₁:=2656) (m₀:=11) (ann:=iQ) (M:=11902) (boot_open (by kernel_rfl) (by decide) λs=>by kernel_rfl) (λw=>by kernel_rfl) (λw os=>Uc w os) (by decide) (λw=>?_)
 kernel_rfl
end
end Mine
end
section
namespace Mine
open PySem PySem.W PyProof.Rows PySem.Calls
noncomputable def zu(f:Value->MV->Bool):List Value->List MV->Bool
 | [],[]=>true
 | v::vs,V::Vs=>f v V&&zu f vs Vs
 | _,_=>false
noncomputable def CP(f:Value->MV->Bool):List DictEntry->List (MV×MV)->Bool
 | [],[]=>true
 | e::es,(.int k,V)::r=>Value.isInt k e.key&&decide (e.hash=hashInt k)&&f e.val V&&CP f es r
 | _,_=>false
noncomputable def CQ:List (MV×MV)->List Int
 | (.int k,_)::r=>k::CQ r
 | _=>[]
noncomputable def J1(f:Value->MV->Bool)(xs:List MV):Option Obj->Bool
 | some ⟨.type t,_,.seq vs _,_⟩=>decide (t="tuple")&&zu f vs.toList xs
 | _=>false
noncomputable def J2(f:Value->MV->Bool)(a:Addr)(es:List (MV×MV)):Option Obj->Bool
 | some ⟨.type t,none,.dict ents _,sl⟩=>decide (t="dict")&&decide (sl.size=0)&&CP f ents.toList es&&decide (CQ es).Nodup&&!(a==sysModules)
 | _=>false
noncomputable def pB(L:Addr->Option Obj):Nat->Value->MV->Bool
 | 0,v,V=>(match v,V with
  | .none,.none=>true
  | .bool a,.bool b=>a==b
  | .int i _,.int j=>decide (i=j)
  | .str x _,.str y=>decide (x=y)&&PyData.strOk x
  | .ref a,.glob b=>Nat.beq a b
  | .builtin i,.blt j=>decide (i=j)&&handedIn (.builtin i)
  | .type i,.typ j=>decide (i=j)
  | _,_=>false)
 | n+1,v,V=>pB L n v V||(match v,V with
  | .ref a,.tup xs=>J1 (pB L n) xs (L a)
  | .ref a,.bO es=>J2 (pB L n) a es (L a)
  | _,_=>false)
section
variable {L:Addr->Option Obj} {h:Heap}
noncomputable abbrev Az(h:Heap):Value->MV->Prop:=bh (λa=>∃o,h.get? a=some o) h []
theorem GJ{f:Value->MV->Bool}(hf:∀v V,f v V=true->Az h v V){vs:List Value}:∀{Vs:List MV},zu f vs Vs=true->dR (λa=>∃o,h.get? a=some o) h [] vs Vs:=by
 induction vs with
 | nil=>intro Vs e;induction Vs using aaa with
  | nil=>exact .nil
  | cons=>exact b7 e
 | cons v vs ih=>intro Vs e;induction Vs using aaa with
  | nil=>exact b7 e
  | cons V Vs=>have e:=ak.mp e;exact .cons (hf _ _ e.1) (ih e.2)
theorem PL{f:Value->MV->Bool}(hf:∀v V,f v V=true->Az h v V){es:List DictEntry}:∀{Vs:List (MV×MV)},CP f es Vs=true->
  ∃kvs:List (Int×Value),kvs.map (·.1)=CQ Vs/\Pairs (intKind prog w) es kvs/\(∀e∈es,∃k,Value.isInt k e.key=true/\e.hash=hashInt k)/\lJ (λa=>∃o,h.get? a=some o) h [] kvs Vs:=by
 induction es with
 | nil=>intro Vs e;induction Vs using aaa with
  | nil=>exact ⟨[],rfl,.nil,(λ_ q=>nomatch q),.nil⟩
  | cons=>exact b7 e
 | cons x es ih=>intro Vs q;induction Vs using aaa with
  | nil=>exact b7 q
  | cons V r=>
   induction V using Prod.casesOn with
   | mk k V=>induction k using MV.casesOn with
    | int k=>have q:=ak.mp q;have p:=ak.mp q.1;have u:=ak.mp p.1;obtain ⟨kvs,h1,h2,h3,h4⟩:=ih q.2;exact ⟨(k,x.val)::kvs,bf (k::·) h1,.cons u.1 rfl h2,λy hy=>(aC.mp hy).elim (λhy=>⟨k,hy▸⟨u.1,ai u.2⟩⟩) (h3 y),.cons (hf _ _ p.2) h4⟩
    | _=>exact b7 q
theorem Ce(X:∀a o,L a=some o->h.get? a=some o)(n:Nat):∀(v:Value) (V:MV),pB L n v V=true->Az h v V:=by
 have z:∀v V,pB L 0 v V=true->Az h v V:=by
  intro v V e;induction v using aaf<;>induction V using MV.casesOn<;>first | exact b7 e | skip
  ·exact .none
  ·exact eq_of_beq e▸.bool _
  ·exact ai e▸.int _ _
  ·have e:=ak.mp e;exact ai e.1▸.str _ e.2
  ·exact ai e▸.typ _
  ·have e:=ak.mp e;exact ai e.1▸.blt _ e.2
  ·exact Nat.eq_of_beq_eq_true e▸.glob _
 induction n with
 | zero=>exact z
 | succ n ih=>
  intro v V e;refine bu (b5.mp e) (ih v V) λe=>?_;clear z;induction v using aaf<;>first | exact b7 e | skip
  rename_i a e;induction V using MV.casesOn<;>first | exact b7 e | skip
  ·rename_i xs e;have e:J1 (pB L n) xs (L a)=true:=e;generalize ho:L a=o at e;induction o using aab with
   | none=>exact b7 e
   | some o=>
    obtain ⟨c,dd,x,sl⟩:=o;induction c using aaf<;>first | exact b7 e | skip
    induction x using Data.casesOn<;>first | exact b7 e | skip
    rename_i e;have e:=ak.mp e;obtain rfl:=ai e.1;exact .tup ⟨_,X _ _ ho⟩ (X _ _ ho) rfl rfl (GJ ih e.2)
  ·rename_i es e;have e:J2 (pB L n) a es (L a)=true:=e;generalize ho:L a=o at e;induction o using aab with
   | none=>exact b7 e
   | some o=>
    obtain ⟨c,dd,x,sl⟩:=o;induction c using aaf<;>first | exact b7 e | skip
    induction dd using aab<;>induction x using Data.casesOn<;>first | exact b7 e | skip
    rename_i e;have e:=ak.mp e;have e3:=e.2;have e:=ak.mp e.1;have e2:=ai e.2;have e:=ak.mp e.1;have e1:=e.2;have e:=ak.mp e.1;have hs:=ai e.2;obtain rfl:=ai e.1;obtain ⟨kvs,h1,h2,h3,h4⟩:=PL (h:=h) ih e1;exact .bO ⟨_,X _ _ ho⟩ (Bool.not_eq_true' _▸e3) ⟨_,_,_,X _ _ ho,⟨rfl,rfl,Array.eq_empty_of_size_eq_zero hs⟩,rfl,λe he=>h3 e (Array.mem_toList_iff.mpr he),h2,by rw[h1];exact e2⟩ h4
end
end Mine
end
section
open PySem PySem.W PyProof.Rows
set_option maxHeartbeats 0
namespace Mine
noncomputable section
theorem frE{L:Nat->Option Obj}{l:List Nat}{a:Nat}{o:Obj}:(frl L l).lookup a=some o->L a=some o:=by
 unfold frl;induction l with
 | nil=>exact λe=>aM e
 | cons b l ih=>
  cases hb:L b with
  | none=>rw[List.filterMap_cons_none (by rw[hb];rfl)];exact ih
  | some x=>
   rw[List.filterMap_cons_some (b:=(b,x)) (by rw[hb];rfl),dU];cases q:a==b with
   | true=>exact λe=>(eq_of_beq q▸hb).trans e
   | false=>exact ih
theorem frI{L:Nat->Option Obj}{l:List Nat}{a:Nat}{o:Obj}(m:a∈l)(e:L a=some o):(frl L l).lookup a=some o:=by
 unfold frl;induction l with
 | nil=>exact (List.not_mem_nil m).elim
 | cons b l ih=>
  cases hb:L b with
  | none=>rw[List.filterMap_cons_none (by rw[hb];rfl)];exact ih ((List.mem_cons.mp m).resolve_left λq=>aM (hb.symm.trans (q▸e)))
  | some x=>
   rw[List.filterMap_cons_some (b:=(b,x)) (by rw[hb];rfl),dU];cases q:a==b with
   | true=>exact hb.symm.trans (eq_of_beq q▸e)
   | false=>exact ih ((List.mem_cons.mp m).resolve_left λz=>Bool.noConfusion ((beq_iff_eq.mpr z).symm.trans q))
noncomputable def Ic(o:Obj):Bool:=!o.isFreed
theorem N4(P:Params):((List.range 1424).all λa=>((xx P).get a).all Ic)=true:=by kernel_rfl
theorem Ue(P:Params):KAl P (H1 P):=by
 intro a o e;unfold TLo at e;cases q:Nat.blt a 1424 with
 | false=>rw[q]at e;exact aM e
 | true=>rw[q]at e;have h1:a<1424:=Nat.le_of_ble_eq_true q;have h3:=aG.mp (N4 P) a (List.mem_range.mpr h1);have e:(xx P).get a=some o:=e;rw[e]at h3;have h3:Ic o=true:=h3;refine (abs_get h1 e).trans ?_;obtain ⟨c,d,x,s⟩:=o;cases x<;>first | rfl | cases h3
noncomputable abbrev FS:=Nat×Stmt×List MV
noncomputable def wj:List FS:=[(21,sM 0,[]),(41,mM 14 0,[]),(55,sM 15,[]),(62,sM 16,[]),(77,mM 20 0,[.str ""]),(98,mM 21 0,[.int (2589),.str ""]),(118,mM 22 0,[.str ""]),(137,mM 23 0,[]),(144,mM 23 1,[]),(166,mM 24 0,[.str ""]),(173,mM 24 1,[]),(178,mM 24 2,[]),(199,mM 25 0,[]),(206,mM 25 1,[]),(213,mM 25 2,[]),(220,mM 25 3,[]),(268,mM 78 0,[]),(275,mM 78 1,[]),(282,mM 78 2,[]),(296,sM 79,[]),(304,sM 80,[.int (0)]),(309,sM 81,[]),(321,sM 82,[.tup [],.tup [],.tup [],.tup [],.int (0)]),(329,sM 83,[.int (-1),.int (-1)]),(336,sM 84,[]),(343,sM 85,[]),(350,sM 86,[]),(357,sM 87,[]),(364,sM 88,[]),(371,sM 89,[]),(376,sM 90,[]),(383,sM 91,[]),(390,sM 92,[]),(397,sM 93,[]),(404,sM 94,[]),(411,sM 95,[]),(416,sM 96,[]),(423,sM 97,[]),(430,sM 98,[]),(437,sM 99,[]),(442,sM 106,[]),(449,sM 107,[]),(456,sM 108,[]),(461,sM 109,[]),(468,sM 110,[]),(475,sM 111,[]),(482,sM 112,[]),(487,sM 113,[]),(494,sM 114,[]),(501,sM 115,[]),(508,sM 116,[]),(515,sM 117,[]),(522,sM 118,[]),(529,sM 119,[]),(534,sM 120,[]),(541,sM 121,[]),(548,sM 122,[]),(556,sM 123,[.int (0)]),(563,sM 124,[]),(568,sM 125,[]),(575,sM 126,[]),(580,sM 127,[]),(588,sM 131,[]),(595,sM 132,[]),(600,sM 133,[]),(607,sM 134,[]),(612,sM 135,[]),(617,sM 136,[]),(631,mM 140 0,[]),(638,mM 140 1,[]),(645,mM 140 2,[]),(652,mM 140 3,[]),(659,mM 140 4,[]),(666,mM 140 5,[]),(673,mM 140 6,[]),(680,mM 140 7,[]),(687,mM 140 8,[]),(694,mM 140 9,[]),(701,mM 140 10,[]),(708,mM 140 11,[]),(715,mM 140 12,[]),(722,mM 140 13,[]),(729,mM 140 14,[]),(736,mM 140 15,[]),(743,mM 140 16,[]),(750,mM 140 17,[]),(757,mM 140 18,[]),(771,sM 141,[]),(785,mM 143 0,[]),(792,mM 143 1,[]),(811,mM 146 0,[]),(832,mM 147 0,[]),(839,mM 147 1,[]),(846,mM 147 2,[]),(867,mM 148 0,[]),(874,mM 148 1,[]),(895,mM 149 0,[]),(902,mM 149 1,[]),(909,mM 149 2,[]),(916,mM 149 3,[]),(923,mM 149 4,[]),(930,mM 149 5,[]),(937,mM 149 6,[]),(944,mM 149 7,[]),(951,mM 149 8,[]),(958,mM 149 9,[]),(979,mM 150 0,[]),(986,mM 150 1,[]),(993,mM 150 2,[]),(1014,mM 151 0,[]),(1035,mM 152 0,[]),(1042,mM 152 1,[]),(1063,mM 153 0,[]),(1084,mM 154 0,[]),(1091,mM 154 1,[]),(1098,mM 154 2,[]),(1105,mM 154 3,[]),(1112,mM 154 4,[]),(1119,mM 154 5,[]),(1126,mM 154 6,[]),(1133,mM 154 7,[]),(1140,mM 154 8,[]),(1147,mM 154 9,[]),(1154,mM 154 10,[]),(1161,mM 154 11,[]),(1168,mM 154 12,[]),(1175,mM 154 13,[]),(1182,mM 154 14,[]),(1189,mM 154 15,[]),(1196,mM 154 16,[]),(1203,mM 154 17,[]),(1210,mM 154 18,[]),(1217,mM 154 19,[]),(1224,mM 154 20,[]),(1231,mM 154 21,[]),(1238,mM 154 22,[]),(1245,mM 154 23,[]),(1259,sM 155,[]),(1264,sM 156,[]),(1269,sM 157,[]),(1276,sM 158,[]),(1283,sM 159,[]),(1297,mM 161 0,[]),(1332,sM 164,[]),(1339,sM 165,[]),(1346,sM 166,[]),(1351,sM 167,[]),(1356,sM 168,[]),(1361,sM 169,[]),(1366,sM 170,[]),(1373,sM 171,[]),(1380,sM 172,[]),(1387,sM 173,[]),(1392,sM 174,[]),(1399,sM 175,[]),(1406,sM 176,[]),(1413,sM 177,[]),(1418,sM 178,[]),(1423,sM 179,[])]
noncomputable def pK(s:FS):Fn:=⟨(DJ s.2.1).args.map (·.arg),s.2.2,DK s.2.1,DM s.2.1⟩
theorem MP:wB=wj.map λs=>(s.1,pK s):=by kernel_rfl
noncomputable def KV(d:Data):FuncData:=match d with
 | .func fd=>fd
 | _=>{name:=default,qualname:=default,params:=default,body:=.stmts [],scope:=default,globals:=0,closure:=[],defaults:=.none,kwdefaults:=.none,pyModule:=.none,code:=.none,builtins:=0}
noncomputable def fdOf(L:Addr->Option Obj)(a:Addr):FuncData:=KV ((L a).elim .plain (·.data))
noncomputable def I6(v:Value)(f:Addr->Bool):Bool:=match v with
 | .ref a=>f a
 | _=>false
noncomputable def zv(o:Option Obj)(f:Obj->Bool):Bool:=match o with
 | some x=>f x
 | _=>false
noncomputable def GK(d:Data)(f:Array Value->Bool):Bool:=match d with
 | .fields x=>f x
 | _=>false
noncomputable def onStr(o:Option Value)(f:Str->Bool):Bool:=match o with
 | some (.str q _)=>f q
 | _=>false
noncomputable def Ig(d:Data):Bool:=match d with
 | .func _=>true
 | _=>false
noncomputable def isFn(L:Addr->Option Obj)(a:Addr):Bool:=zv (L a) λo=>Ig o.data
theorem PM(P:Params):wj.map (λs=>let fd:=fdOf (TLo P) s.1;(fd.params,fd.body,fd.scope,fd.closure,fd.globals,fd.builtins))=wj.map λs=>(DJ s.2.1,.stmts (DK s.2.1),DM s.2.1,[],mainGlobals,builtinsNs):=by kernel_rfl
noncomputable def CR(L:Addr->Option Obj)(fd:FuncData):List Value:=match fd.defaults with
 | .ref t=>(match L t with
  | some ⟨_,_,.seq vs _,_⟩=>vs.toList
  | _=>[])
 | _=>[]
noncomputable def codeOk(L:Addr->Option Obj)(fd:FuncData):Bool:=I6 fd.code λc=>zv (L c) λo=>GK o.data λvs=>onStr vs[1]? λq=>decide (q=fd.qualname)
noncomputable def SK(x:Option NameKind):Bool:=decide (x=some .local)||decide (x=some .cell)
noncomputable def I7(L:Addr->Option Obj)(s:FS):Bool:=
 let F:=pK s;let fd:=fdOf L s.1
 isFn L s.1&&!F.scope.isCoroutine&&!F.scope.isGenerator&&decide (F.scope.kind=.function)&&codeOk L fd&&decide F.params.Nodup&&F.params.all (λx=>SK (F.scope.names.lookup x))&&F.scope.names.all (λx=>decide (x.2≠.free))&&zu (pB L 3) (CR L fd) F.nL
theorem SM(P:Params):(wj.all (I7 (TLo P)))=true:=by kernel_rfl
noncomputable def refL(v:Value):List Nat:=match v with
 | .ref a=>[a]
 | _=>[]
noncomputable def Cf:List (FS×Nat):=wj.flatMap λs=>(List.range (s.2.2.length+1)).map λk=>(s,k)
theorem PN(P:Params)(S:Setting)(f:Nat->Value):Cf.map (λb=>peek (frl (TLo P) (refL (fdOf (TLo P) b.1.1).defaults)) S (bindArgs (fdOf (TLo P) b.1.1) ⟨(List.range ((pK b.1).params.length-b.2)).map f,[]⟩)) =
  Cf.map λb=>some ((pK b.1).params.zip ((List.range ((pK b.1).params.length-b.2)).map f++(CR (TLo P) (fdOf (TLo P) b.1.1)).drop (b.1.2.2.length-b.2))):=by kernel_rfl
end
end Mine
end
section
open PySem PySem.W PyProof.Rows PySem.Calls
set_option maxHeartbeats 0
namespace Mine
noncomputable section
noncomputable def Hv(K:Frag)(c:Addr)(m:Str×Nat):Bool:=plainGet K c m.1&&decide (findIn K (.ref c) m.1=some (some (.ref m.2)))&&decide (typeIn K (.ref m.2)=some (.type "function"))
noncomputable def Rw(K:Frag)(c:Addr)(i:Option Addr):Bool:=match i with
 | some fI=>decide (findIn K (.ref c) "__init__"=some (some (.ref fI)))&&decide (typeIn K (.ref fI)=some (.type "function"))
 | none=>decide (findIn K (.ref c) "__init__"=some (some (.builtin "object.__init__")))
noncomputable def Hw(C:Cl):Bool:=C.uO||match C.init with
 | some f=>(match qi wB f with
  | some F=>(match F.params with
   | p::_=>decide (p=nM)
   | []=>false)
  | none=>false)
 | none=>true
noncomputable def wk(K:Frag)(c:Nat×Cl):Bool:=makesIn K c.1&&keepIn K (.ref c.1)&&Rw K c.1 c.2.init&&c.2.meths.all (Hv K c.1)&&Hw c.2
theorem Rx(P:Params):(HE.all (wk (KSm P)))=true:=by kernel_rfl
noncomputable def Ih(K:Frag)(c:Addr)(k:Str):Bool:=plainGet K c k&&hasDictIn K c&&decide (findIn K (.ref c) k=some none)&&plainOver K c&&decide (findIn K (.ref c) "__setattr__"=some (some (.builtin "object.__setattr__")))
theorem Ry(P:Params):(yN.all λc=>c.2.all (Ih (KSm P) c.1))=true:=by kernel_rfl
noncomputable def I8(d:Data):Array DictEntry:=match d with
 | .dict es _=>es
 | _=>#[]
noncomputable def SN(d:Data):Bool:=match d with
 | .dict _ _=>true
 | _=>false
noncomputable def yd(L:Addr->Option Obj)(a:Addr)(x:Str):Option Value:=((I8 ((L a).elim .plain (·.data))).toList.find? λe=>Value.isStr e.key x).map (·.val)
noncomputable def EN(L:Addr->Option Obj)(a:Addr):Bool:=zv (L a) λo=>SN o.data
noncomputable def Ii(L:Addr->Option Obj)(e:Str×MV):Bool:=match yd L mainGlobals e.1 with
 | some v=>pB L 4 v e.2
 | none=>(match yd L builtinsNs e.1 with
  | some v=>pB L 4 v e.2
  | none=>false)
theorem Hx(P:Params):(EN (TLo P) mainGlobals&&EN (TLo P) builtinsNs&&HF.all (Ii (TLo P)))=true:=by kernel_rfl
theorem A5{α:Type}{x:Nat}{v:α}{l:List (Nat×α)}:qi l x=some v->(x,v)∈l:=by
 induction l with
 | nil=>exact λe=>aM e
 | cons p l ih=>exact mD (λq e=>Nat.eq_of_beq_eq_true q▸someE e▸aE) λ_ e=>.tail _ (ih e)
theorem F5{α:Type}{x:Str}{v:α}{l:List (Str×α)}:look l x=some v->(x,v)∈l:=by
 induction l with
 | nil=>exact λe=>aM e
 | cons p l ih=>exact mD (λq e=>ai q▸someE e▸aE) λ_ e=>.tail _ (ih e)
section
variable {h:Heap} {L:Addr->Option Obj}
theorem PO{v:Value}{f:Addr->Bool}(e:I6 v f=true):∃a,v=.ref a/\f a=true:=by
 induction v using aaf with
 | ref a=>exact ⟨a,rfl,e⟩
 | _=>exact b7 e
theorem Bx{o:Option Obj}{f:Obj->Bool}(e:zv o f=true):∃x,o=some x/\f x=true:=by
 induction o using aab with
 | some x=>exact ⟨x,rfl,e⟩
 | none=>exact b7 e
theorem Mb{d:Data}{f:Array Value->Bool}(e:GK d f=true):∃x,d=.fields x/\f x=true:=by
 induction d using Data.casesOn with
 | fields x=>exact ⟨x,rfl,e⟩
 | _=>exact b7 e
theorem PR{o:Option Value}{f:Str->Bool}(e:onStr o f=true):∃q,(∃t,o=some (.str q t))/\f q=true:=by
 induction o using aab with
 | none=>exact b7 e
 | some v=>
  induction v using aaf with
  | str q t=>exact ⟨q,⟨t,rfl⟩,e⟩
  | _=>exact b7 e
theorem N5{d:Data}(e:Ig d=true):d=.func (KV d):=by
 induction d using Data.casesOn with
 | func fd=>rfl
 | _=>exact b7 e
theorem zw{a:Addr}{m:Str->Option Value}(X:∀a o,L a=some o->h.get? a=some o)(hg:h.Ns a m)(hd:EN L a=true):∀x,m x=yd L a x:=by refine bz (Bx hd) λo ho Z x=>?_;obtain ⟨o',DS,Zm,gI,fG,_,hm⟩:=hg;obtain rfl:=(someE ((X _ _ ho).symm.trans gI)).symm;unfold yd;rw[ho];show m x=((I8 o.data).toList.find? _).map _;rw[fG,Array.find?_toList];exact (hm x).symm
theorem N6{I:Addr->Prop}{ι:Lay}{vs:List Value}{Vs:List MV}(k:Nat)(r:dR I h ι vs Vs):dR I h ι (vs.drop k) (Vs.drop k):=
 dR.ind (P:=λvs Vs=>∀k,dR I h ι vs Vs->dR I h ι (vs.drop k) (Vs.drop k)) (λk _=>by induction k using aae<;>exact .nil) (λv V vs Vs x r ih k q=>by
  induction k using aae with
  | zero=>exact q
  | succ k=>exact ih k r) r k r
theorem PS(vals:List Value):vals=(List.range vals.length).map λi=>vals.getD i .none:=by refine List.ext_getElem (by rw[aj,List.length_range]) λi h1 h2=>?_;rw[List.getElem_map,List.getElem_range,List.getD_eq_getElem?_getD,cB h1];rfl
theorem Ug(X:KAl w.params h₀){a:Addr}{F:Fn}(e:PG.fn a=some F):∃o fd,qx (KSm w.params) a F o fd:=by
 have e:(a,F)∈wB:=A5 e;have ia:=List.mem_append_right (HE.flatMap λc=>[c.1,c.1-1]) (List.mem_map_of_mem (f:=(·.1)) e);rw[MP]at e;obtain ⟨s,hs,q⟩:=aN.mp e;cases q;have c:=aG.mp (SM w.params) s hs;unfold I7 at c;simp only[Bool.and_eq_true,decide_eq_true_eq,Bool.not_eq_true']at c;obtain ⟨⟨⟨⟨⟨⟨⟨⟨c1,c2⟩,c3⟩,c4⟩,c5⟩,c6⟩,c7⟩,c8⟩,c9⟩:=c;have p:=bJ.mp (PM w.params) s hs;simp only[Prod.mk.injEq]at p;obtain ⟨p1,p2,p3,p4,p5,p6⟩:=p;refine bz (Bx c1) λo ho hf=>?_;have hd:o.data=.func (fdOf (TLo w.params) s.1):=by unfold fdOf;rw[ho];exact N5 hf
 refine cg (PO c5) λc c5=>?_;refine bz (Bx c5.2) λoc Yv ye=>?_;refine bz (Mb ye) λvs tO ye=>?_;refine bz (PR ye) λq hq ye=>?_;have Uh:h₀.CodeRec (fdOf (TLo w.params) s.1).code (fdOf (TLo w.params) s.1).qualname:=cg hq λt hq=>⟨c,oc,vs,t,c5.1,X _ _ Yv,tO,by rw[hq,ai ye]⟩;refine ⟨o,fdOf (TLo w.params) s.1,⟨frI ia ho,hd,p2,p3,p4,p5,p6,c2,c3,c4,Uh,c6,λx hx=>?_,λx hx=>?_,λvals h1 h2=>?_⟩⟩
 ·exact (b5.mp (aG.mp c7 x hx)).imp ai ai
 ·have:(x,NameKind.free)∈(pK s).scope.names:=mem_of_lookup hx;have:=aG.mp c8 _ this;exact ai this rfl
 ·let k:=(pK s).params.length-vals.length;have hk:k<=s.2.2.length:=h2;have hm:(s,k)∈Cf:=List.mem_flatMap.mpr ⟨s,hs,aN.mpr ⟨k,dN.mpr (Nat.lt_succ_of_le hk),rfl⟩⟩;have hlen:(pK s).params.length-k=vals.length:=by show (pK s).params.length-((pK s).params.length-vals.length)=_;omega
  refine ⟨(CR (TLo w.params) (fdOf (TLo w.params) s.1)).drop (s.2.2.length-k),λsh keep M A E Q q=>?_,N6 _ (GJ (Ce X 3) c9)⟩;have b:=bJ.mp (PN w.params ⟨M.prog,M.w.params⟩ λi=>vals.getD i .none) (s,k) hm;dsimp only at b;rw[hlen,<-PS vals]at b;exact (Looks.of_peek (M:=M) (λc x e=>keep _ _ (X c x (frE e))) b).here q
theorem facts(X:KAl w.params h₀)(hg:h₀.Ns mainGlobals mg)(hb:h₀.Ns builtinsNs mb)(hn:h₀.NoLimit):Facts PG (KSm w.params) h₀ mg mb:=by
 have g:=Hx w.params;simp only[Bool.and_eq_true]at g;obtain ⟨⟨g1,g2⟩,g3⟩:=g;have cls:∀c Cc,PG.cls c=some Cc->wk (KSm w.params) (c,Cc)=true:=λc Cc e=>aG.mp (Rx w.params) _ (A5 e);refine ⟨⟨λa o e=>X a o (frE e),hg,hb,hn,λx V e=>?_,λc k e=>?_⟩,by kernel_rfl,λa F e=>Ug X e,λc Cc m f e1 e2=>?_,λc Cc e=>?_,λc Cc fI e hp hi=>?_⟩
 ·have:=aG.mp g3 (x,V) (F5 e);unfold Ii at this;split at this
  ·rename_i v hv;exact ⟨v,Or.inl ((zw X hg g1 x).trans hv),Ce X 4 _ _ this⟩
  ·rename_i hv;split at this
   ·rename_i v Yw;exact ⟨v,Or.inr ⟨(zw X hg g1 x).trans hv,(zw X hb g2 x).trans Yw⟩,Ce X 4 _ _ this⟩
   ·cases this
 ·unfold iV at e;split at e
  ·rename_i ks m9;obtain ⟨y,hy,q⟩:=cE.mp e;have q:y=k:=ai q;subst q;have:=aG.mp (aG.mp (Ry w.params) _ (A5 m9)) y hy;unfold Ih at this;simp only[Bool.and_eq_true,decide_eq_true_eq]at this;exact ⟨this.1.1.1.1,this.1.1.1.2,this.1.1.2,this.1.2,this.2⟩
  ·cases e
 ·have:=cls c Cc e1;unfold wk at this;simp only[Bool.and_eq_true]at this;have m1:=aG.mp this.1.2 _ (F5 e2);unfold Hv at m1;simp only[Bool.and_eq_true,decide_eq_true_eq]at m1;exact ⟨m1.1.1,m1.1.2,m1.2⟩
 ·have:=cls c Cc e;unfold wk at this;simp only[Bool.and_eq_true]at this;refine ⟨this.1.1.1.1,this.1.1.1.2,?_⟩;have i:=this.1.1.2;cases hi:Cc.init with
  | none=>rw[hi]at i;exact ai i
  | some fI=>rw[hi]at i;have i:=ak.mp i;exact ⟨ai i.1,ai i.2⟩
 ·have:=cls c Cc e;unfold wk at this;simp only[Bool.and_eq_true]at this;have i:=this.2;unfold Hw at i;rw[hp,hi,dK]at i;have i:(match qi wB fI with | some F=>(match F.params with | p::_=>decide (p=nM) | []=>false) | none=>false)=true:=i;split at i
  ·rename_i F hF;split at i
   ·rename_i p ps z8;exact ⟨F,ps,hF,by rw[z8,ai i]⟩
   ·cases i
  ·cases i
end
end
end Mine
end
section
open PySem PySem.W PyProof.Rows PySem.Calls
set_option maxHeartbeats 4000000
namespace Mine
noncomputable section
noncomputable def g0(h:Heap):G:=⟨[],λb=>if b<h.objs.size then .frozen else .free,λ_ _=>0⟩
theorem A6{h:Heap}{b:Addr}{o:Obj}(e:h.get? b=some o):(g0 h).ρ b=.frozen:=aq (cJ e)
theorem PU{R:WRecords}{xs:List WData}:WShape.hasItems R xs .int=true->∃is:List Int,xs=is.map .int:=by
 induction xs with
 | nil=>exact λ_=>⟨[],rfl⟩
 | cons x r ih=>
  intro e;have e:=ak.mp e;obtain ⟨is,rfl⟩:=ih e.2;induction x using WData.casesOn with
  | int i=>exact ⟨i::is,rfl⟩
  | _=>exact b7 e.1
theorem MQ{R:WRecords}{cl:Str->Option Addr}{h:Heap}{I:Addr->Prop}{ι:Lay}{is:List Int}:∀{vs:List Value} {as:List Addr},ReadsAllW R cl h vs (is.map .int) as->dR I h ι vs (is.map .int):=by
 induction is with
 | nil=>intro vs as e;cases e;exact .nil
 | cons i is ih=>
  intro vs as e;cases e with
  | cons e1 e2=>obtain ⟨t,rfl,_⟩:=readsW_int_inv e1;exact .cons (.int _ _) (ih e2)
theorem Rz{ys:List WData}(e:(PySem.Challenge.rw_sa0416_01.row.pre).holds [] {args:=[.list ys]}=true):ys.length<=63:=by
 rcases Nat.lt_or_ge 63 ys.length with h | h
 ·exfalso;have l:WTm.value [] (.lt (.lit (.int ((63:Nat):Int))) (.len (.arg 0))) {args:=[.list ys]}=some (.bool true):=by show (less? (.int ((63:Nat):Int)) (.int (ys.length:Int))).map WData.bool=_;show some (WData.bool (decide (((63:Nat):Int)<(ys.length:Int))))=_;rw[aa (by omega)]
  have n:WTm.value [] (.not (.lt (.lit (.int ((63:Nat):Int))) (.len (.arg 0)))) {args:=[.list ys]}=some (.bool false):=by rw[WTm.value,l];rfl
  have q:WTm.value [] PySem.Challenge.rw_sa0416_01.row.pre {args:=[.list ys]}=some (.bool false):=by show WTm.value [] (.and (.not (.lt (.lit (.int ((63:Nat):Int))) (.len (.arg 0)))) (.lit (.bool true))) {args:=[.list ys]}=_;rw[WTm.value,n]
  unfold WTm.holds at e;rw[q]at e;cases e
 ·exact h
theorem PV(H:Here cc):Goes cc:=by intro c cl wQ args v is q;obtain ⟨hl,⟨a,o,vs,n,as,rfl,h1,h2,h3,h4⟩,hr,hp⟩:=q;have F:Facts P K h₀ mg mb:=facts H.X H.g H.b H.n;obtain ⟨σ',loc,run⟩:=B.PK (n:=0) is hl default false;have CS:oY (jq P B.RB 22) 22:=(Pb (RB:=B.RB) F 22).1;have iD:Ground h₀ (g0 h₀) h₀:=λb o e=>⟨A6 e,e⟩;have T:lS (g0 h₀) [] h₀:=⟨rfl,λn e o q=>by cases q⟩;rw[<-PZ];refine codeAny_mono (CS (s:=cc.2.1) (A:=callerA) ⟨by decide,by decide⟩ rfl run iD T rfl (.cons (show RV (g0 h₀) h₀ (.ref a) (B.iL is) from .lst (A6 h1) h1 h2 h3 (MQ h4)) .nil)) ?_;rintro res s' ⟨v,rfl,g',S,G',T',rv⟩;have rv:RV g' s'.heap v (.bool true):=rv;cases rv;have keep:∀b o,h₀.get? b=some o->s'.heap.get? b=some o:=λb o e=>S.keep b o e (by rw[A6 e];trivial);obtain ⟨h',tk,rfl⟩:=S.same;exact ⟨.inl ⟨_,.bool true,[],rfl,hr,.bool true,hp,λ_=>⟨List.nodup_nil,λ_ h=>absurd h aX⟩⟩,.of_keep keep,rfl,.of_eq H.e⟩
theorem PW(w:World)(s:Shared)(X:KAl w.params s.heap){mg mb:Str->Option Value}(hg:s.heap.Ns mainGlobals mg)(hb:s.heap.Ns builtinsNs mb)(hn:s.heap.NoLimit)(Ui:s.gens=#[]){c:ClaimW}{cl:Str->Option Addr}{wQ:ExcName->Option Value}{args:List WData}{v:Value}{is:List Int}(hl:is.length<=63)
  (hv:∃a o vs n as,v=.ref a/\s.heap.get? a=some o/\o.cls=.type "list"/\o.data=.seq vs n/\ReadsAllW c.records cl s.heap vs.toList (is.map .int) as) (hr:∀k,c.raises args k=false) (hp:c.post args (.bool true) args=true) :
  codeAny (model pw w) callerA (.call (.ref 1423) ⟨[v],[]⟩) (GoodWG c cl wQ args s) s:=
 RI PV (w,s,mg,mb) ⟨X,hg,hb,hn,Ui⟩ c cl wQ args v is ⟨hl,hv,hr,hp⟩
end
end Mine
end
section
open PySem PySem.W PyProof.Rows PySem.Calls
set_option maxHeartbeats 0
namespace Mine
noncomputable section
noncomputable abbrev kH:OpenLaw:=PySem.Challenge.rw_sa0416_01
noncomputable def dQ:DefRec:=match defOf sO (Str.ofString "law") with
 | some (d,_)=>d
 | none=>⟨Str.ofString "law",default,[],default,default⟩
theorem Uj:defOf sO kH.row.name=some (dQ,[]):=by kernel_rfl
theorem Uk:kH.row.prog.theDef kH.row.name=some (dQ.params,dQ.body,dQ.scope):=by kernel_rfl
theorem VX:kwWritten? dQ.params.kwonlyargs dQ.params.kw_defaults=some []:=by kernel_rfl
theorem RA(l:OpenLaw)(e:kH=l):l.wellSaid=true:=by
 unfold OpenLaw.wellSaid OpenRow.wellSaid OpenRow.partSaid looksOpen
 repeat' refine look_both ?_ ?_
 all_goals subst e
 all_goals decide +kernel
theorem RC(h:kH.row.wellSaid=true->kH.row.Holds):PySem.Challenge.rw_sa0416_01.Holds:=holds_law (RA _ rfl) h
theorem Ul:chainsOk sO=true:=by kernel_rfl
theorem Um:opensWell kH.row.prog=true:=by kernel_rfl
theorem Un:(frees kH.row.toRowW&&kH.row.toRowW.within.isEmpty)=true:=by kernel_rfl
theorem VY:(chainsOk sO&&opensWell kH.row.prog&&(frees kH.row.toRowW&&kH.row.toRowW.within.isEmpty))=true:=by rw[Ul,Um,Un];rfl
theorem SP:kH.row.prog.bare:=⟨rfl,rfl,rfl,rfl,rfl,by decide +kernel⟩
theorem Uo:kH.row.toRowW.promised:=⟨[.list [.int 3,.int 1]],by decide +kernel,by decide +kernel⟩
theorem SQ(P:Params):yd (TLo P) mainGlobals (Str.ofString "law")=some (.ref 1423):=by kernel_rfl
theorem RE:dQ.name=Str.ofString "law":=by kernel_rfl
theorem PX(args:List WData)(k:ExcName):kH.row.toRowW.claim.raises args k=false:=rfl
theorem SR(args:List WData):kH.row.toRowW.claim.post args (.bool true) args=true:=by kernel_rfl
end
end Mine
end
section
open PySem PySem.W PyProof.Rows PySem.Calls
set_option maxHeartbeats 4000000
namespace Mine
theorem PY:WalkO sO Cd (λ_ _=>True) (λw h=>KAl w.params h) kH.row.toRowW dQ [] λf vs=>PySem.call f vs:=by
 intro w s₀ bq mg mb G Y a o pm cd doc dV kV ho hd z6 hD KW hg args vals as VZ Y3 Yx tX Zn;obtain ⟨KQ,Yy⟩:=pre_splitW VZ;obtain ⟨d,r,rfl,h1,h2⟩:=hasAllW_cons KQ;obtain rfl:=hasAllW_nil h2;obtain ⟨ys,rfl,h3⟩:=hasW_list h1;obtain ⟨is,rfl⟩:=PU h3;have hlen:is.length<=63:=by have:=Rz Yy;rw[aj]at this;exact this
 have g:=Hx w.params;simp only[Bool.and_eq_true]at g;have ha:a=1423:=by rw[RE]at KW;have e:=(zw Y G.T.g g.1.1 (Str.ofString "law")).trans (SQ w.params);rw[KW]at e;cases e;rfl
 subst ha;cases Yx with
 | cons xE Yz=>
  cases Yz;refine enter_call (PW w bq Y G.T.g G.T.b G.T.nolimit hg hlen ?_ (PX _) (SR _));cases xE with
  | list e1 e2 e3 e4=>exact ⟨_,_,_,_,_,rfl,e1,e2,e3,e4⟩
theorem law_holds:PySem.Challenge.rw_sa0416_01.Holds:=
 RC λV0=>holds_open (r:=kH.row) (q:=sO) (loose:=Cd) (Xt:=λ_=>true) (XP:=λ_ _=>True) (Yf:=λs=>s.heap) (Ya:=λw=>H1 w.params) (YP:=λw h=>KAl w.params h) (d:=dQ) (kwd:=[]) (N:=12000) Ud
  (λw s e=>by have e:s.heap=H1 w.params:=e;rw[e];exact Ue _) (λw h h' x k c z e=>k _ _ (x c z e)) (λ_ _=>trivial) (λ_ _ _ _ _=>trivial) Uj Uk VX (λs _=>recFacts_of (by rfl)) (by rfl) V0 VY SP Uo PY
end Mine
end
end
theorem PySem.Challenge.cw_sa0416_01_holds : PySem.Challenge.rw_sa0416_01.Holds :=
 Mine.law_holds
