import PyProof.Rows.All
import PyProof.AttrMissHeap
import PyProof.CompMap
import PyProof.CompFree
import PyProof.EnumFor
import PyProof.EnumMake
import PyProof.ExcBaseAll.Exception
import PyProof.ExcAttrAll.Exception
import PyProof.ExcInit
import PyProof.StationsW
import PyProof.InstLoad
import PyProof.InstStoreFacts
import PyProof.LetGo
import PyProof.RulesAs
import PyProof.Rows.Chain
import ObjForm.Fk.InstStore
import OpenK.KMake
import KE.KUnpack
import KE.KNest
import KE.KLam
import KE.KDictSum
import KE.KDictOf
import KE.KItemsList
import KE.KSortKey
import KE.KPar
import KE.KStrOpen
import KE.KxSplit
import KE.KSuper
import KE.RegKLenAny
import Wide.FinOn
import OpenK.AllK
import Wide.Txt2
import Wide.All
import Lean
import PySem.Challenge.RW_pf0029_01
set_option Elab.async false
set_option linter.all false
set_option maxRecDepth 100000
set_option maxHeartbeats 8000000
set_option tactic.hygienic false
set_option bootstrap.genMatcherCode false
set_option genSizeOf false
set_option genInjectivity false
set_option backward.match.sparseCases false
open List renaming append_assoc→aZ, length_append→ae, append_nil→af, mem_cons→aj, length_map→ak, map_cons→an, all_eq_true→ao, getElem?_eq_some_iff→ap, map_map→az, mem_singleton→bA, mem_of_getElem?→bB, length_cons→bF, cons→bI, range'→bK, range→bM, getElem?_map→bN, replicate→bO, all_cons→bQ, getElem?_append_left→bS, mem_map→bT, mem_append→bV, length→bX, length_nil→bY, getElem?_append_right→bZ, map_append→bb, any_cons→bf, size_toArray→bg, map_id→bj, getElem?_eq_getElem→bk, mem_map_of_mem→bn, nodup_cons→bp, lookup_cons→bq, getElem?_toArray→bu, reverse_cons→bw, length_take→b0, getElem?_drop→b9, nodup_append→cB, map_congr_left→cD, mem_range→cE, length_reverse→cF, not_mem_nil→cL, cons_append→cN, mem_append_right→cO, any_eq_true→cQ, getElem?_eq_none→cR, mem_of_mem_take→cS, length_range→cT, mem_filterMap→cU, all_append→cX, filter_cons→cZ, length_filter_le→cf, foldl_cons→cg, length_eq_zero_iff→ch, forall_mem_cons→cm, isEmpty_iff→cr, length_pos_iff→cw, length_singleton→cy, mem_filter→cz, mem_of_mem_drop→c4, getElem?_eq_none_iff→c6, filterMap_cons→dA, filter_eq_self→dD, pairwise_append→dE
open Bool renaming and_eq_true→aw, and_eq_true_iff→bD, not_eq_true'→cV, or_eq_false_iff→ca, eq_iff_iff→ci
open Nat renaming le_trans→ag, lt_trans→ai, lt_of_le_of_lt→am, le_of_ble_eq_true→au, zero_le→bC, not_lt→bH, le_refl→bJ, le_add_right→bR, le_add_left→bU, add_le_add_left→bW, succ_le_succ→ba, zero_add→bc, blt_eq→be, ble_eq→bh, ne_of_lt→bo, eq_of_beq_eq_true→bt, lt_of_lt_of_le→bv, le_of_lt→bz, add_assoc→b8, add_sub_cancel_left→cA, ne_of_gt→cC, succ_pos→cG, le_of_lt_succ→cH, le_of_eq→cI, lt_irrefl→cP, le_of_succ_le_succ→cW, lt_of_succ_lt_succ→cY, add_le_add_right→ce, lt_succ_self→cj, add_right_comm→cu, lt_add_of_pos_right→dC
open Option renaming some→aq, map_eq_some_iff→bG, none→bL, bind_eq_some_iff→bP, map→br, isSome_iff_exists→cJ, isNone_iff_eq_none→cq
open Array renaming getElem?_eq_some_iff→ck, getElem?_modify→dB
open Exists renaming elim→aW
open False renaming elim→aY
open Int renaming ofNat_lt→av, ofNat→bE, natCast_nonneg→bx, ofNat_le→cM
open PySem renaming Value→dF, Shared→dG, wpAny→dH, wpAny_bind→dI, Around→dJ, wpAny_pure→dL, Params→dM, World→dN, Model→dO, Program→dP, Scope→dQ, mainGlobals→dR, OsState→dS, builtinsNs→dT, sizeLine_eq→dU, wpAny_holding→dW, NameKind→dX, sysModules→dY, wpAny_standAt→dZ, wpAny_mono→db, excClassObj→dc, callEnvC→de, GenResult→dg, wpAny_Call_NameR→dh, wpAny_loadPart_at→di, wpAt_of_wpAny→dj, wpAny_field→dm, ks_wpAt_execs_cons→dq, wpAny_truthy_bool→dr, wpAny_passesOwn→du, ks_wpAt_Assign_Attr→dy, am_miss_of_fast→dz, wpAny_isSubtype_exc→eA, wpAny_loadName_local→eC, wpAny_typeLookup_exc→eD
section
open PySem PySem.Calls PyProof.Rows PySem.Spec PySem.W
namespace Mine
noncomputable abbrev pw:dP:=PySem.Challenge.pw_pf0029_01
noncomputable def it (n:Nat):dF:=.int n 0
noncomputable def ent (P:dM) (k:Str) (t:Nat) (v:dF):DictEntry:=⟨PyData.keyHash P k,.str k t,v⟩
noncomputable def tup (l:List dF):Obj:={cls:=.type "tuple",data:=.seq ⟨l⟩}
noncomputable def fds (l:List dF):Obj:={cls:=.none,data:=.fields ⟨l⟩}
noncomputable def fdc (c:String) (l:List dF):Obj:={cls:=.type c,data:=.fields ⟨l⟩}
noncomputable def dic (n:Nat) (l:List DictEntry):Obj:={cls:=.type "dict",data:=.dict ⟨l⟩ n}
noncomputable def Vd:Nat→List Str→List dF:=fun t l=>List.rec (fun _=>[]) (fun x _ ih t=>.str x t::ih (t+1)) l t
noncomputable def Xv:Str:="/claim/cut.py"
noncomputable def cdO (nm qn:Str) (t r n ac fl:Nat) (b:Bool) (l1 l2 tm:dF) (f ln:Nat):Obj:=fdc "code" [.str nm t,.str qn (t+1),.str Xv (t+2),it ln,it ac,it 0,it 0,it fl,.ref r,.bool b,it 181,.ref n,.none,l1,l2,tm,it f,it ln,.str Xv (f+1)]
noncomputable def tmO (nm qn:Str) (ps:Arguments) (b:List Stmt) (sc:dQ):Obj:={cls:=.none,data:=.func {name:=nm,qualname:=qn,params:=ps,body:=.stmts b,scope:=sc,globals:=0,closure:=[],defaults:=.none,kwdefaults:=.none} }
noncomputable def fnO (nm qn:Str) (ps:Arguments) (b:List Stmt) (sc:dQ) (clo:List (Str×Addr)) (df mv cd ct:dF):Obj:={cls:=.type "function",data:=.func {name:=nm,qualname:=qn,params:=ps,body:=.stmts b,scope:=sc,globals:=3,closure:=clo,defaults:=df,kwdefaults:=.none,pyModule:=mv,code:=cd,closureTuple:=ct} }
noncomputable def VA:dX→Bool
 | .local=>true
 |_=>false
noncomputable def VB:dX→Bool
 | .cell=>true
 |_=>false
noncomputable def J5 (f:dX→Bool):List (Str×dX)→List Str:=List.rec [] fun x _ ih=>match f x.2 with
 |true=>x.1::ih
 |false=>ih
noncomputable def len {α:Type}:List α→Nat:=List.rec 0 fun _ _ n=>n+1
noncomputable def Xw (nm qn:Str) (ps:Arguments) (b:List Stmt) (sc:dQ) (ln n t:Nat) (mv:dF):Bool→List Obj
 |true=>let l:=J5 VA sc.names
  let c:=J5 VB sc.names
  let f:=t+3+(len l+len c)
  [tup [],fds [],tup (Vd (t+3) l),tup (Vd (t+3+len l) c),tmO nm qn ps b sc,cdO nm qn t n (n+1) (len ps.args) 3 true (.ref (n+2)) (.ref (n+3)) (.ref (n+4)) f ln,fnO nm qn ps b sc [] .none mv (.ref (n+5)) .none]
 |false=>[tup [],fds [],tmO nm qn ps b sc,cdO nm qn t n (n+1) (len ps.args) 3 true .none .none (.ref (n+2)) (t+3) ln,fnO nm qn ps b sc [] .none mv (.ref (n+3)) .none]
noncomputable def cv (t:Nat):Expr→dF
 | .Constant (.str s) _ _=>.str s t
 | .Constant (.int i) _ _=>.int i t
 |_=>.none
noncomputable def cvs (d t:Nat) (l:List Expr):List dF:=List.rec (fun _=>[]) (fun x _ ih t=>cv t x::ih (t+d)) l t
noncomputable def Ve (P:dM) (d:Nat) (vs:List Expr) (ks:List (Option Expr)) (t:Nat):List DictEntry:=List.rec (motive:=fun _=>List Expr→Nat→List DictEntry) (fun _ _=>[]) (fun k _ ih vs t=>match k,vs with
 |some (.Constant (.str s) _ _),v::vs=>ent P s t (cv (t+1) v)::ih vs (t+d)
 |_,_=>[]) ks vs t
noncomputable def Xx:List DictEntry→List DictEntry:=List.rec [] fun x l ih=>match l with
 | []=>[x]
 |_=>ih
noncomputable def mvs:List dF:=[.str "basicplus.values" 187,.str "basicplus.tokens" 234,.str "basicplus.lines" 416,.str "basicplus.exprread" 623,.str "basicplus.stmtparts" 899,.str "basicplus.declread" 994,.str "basicplus.fileread" 1115,.str "basicplus.matread" 1265,.str "basicplus.stmtread" 1344,.str "law_pf0029_01" 1635]
noncomputable def ecO (P:dM):List Stmt→List Obj
 | [.FunctionDef nm ps b _ _ _ sc _ _ _]=>let mv:dF:=.str "basicplus.values" 187
  let cn:Str:="BasicError"
  let qn:Str:="BasicError.__init__"
  [tup [.type "Exception"],fdc "builtin_function_or_method" [.builtin "type.__prepare__",.type "type"],
   dic 6 [ent P "__module__" 198 mv,ent P "__qualname__" 200 (.str cn 199),ent P "__firstlineno__" 202 (.int 3 201),ent P "__init__" 213 (.ref 31),ent P "__static_attributes__" 216 (.ref 32),ent P "__classcell__" 217 (.ref 18)],
   {cls:=.type "cell",data:=.cell (some (.ref 34))},tup [],fds [it 5,it 4,.ref 30],cdO cn cn 193 19 20 0 0 false .none .none .none 196 3,
   {cls:=.type "frame",slots:= #[some (.ref 21),some (.ref 3),some (.ref 17),none,some mv,none,some (.ref 0)]},
   tup [.str "" 203],tup [.ref 18],tup [.str "__class__" 207],fds [],tup [.str "self" 208,.str "code" 209,.str "told" 210],tup [],tmO nm qn ps b sc,
   cdO nm qn 204 25 26 3 3 true (.ref 27) (.ref 28) (.ref 29) 211 5,fnO nm qn ps b sc [("__class__",18)] (.ref 23) mv (.ref 30) (.ref 24),tup [.str "code" 214,.str "told" 215],
   dic 4 [ent P "__module__" 198 mv,ent P "__firstlineno__" 202 (.int 3 201),ent P "__init__" 213 (.ref 31),ent P "__static_attributes__" 216 (.ref 32),ent P "__weakref__" 219 (.ref 35),ent P "__doc__" 220 .none],
   {cls:=.type "type",data:=.cls {name:=cn,bases:=[.type "Exception"],mro:=[.ref 34,.type "Exception",.type "BaseException",.type "object"],ns:=33,qualname:=cn},slots:= #[some (.ref 15),none,some (.str cn 191),some (.str cn 199),some (.builtin "Exception.__new__"),some (.bool true)]},
   fdc "getset_descriptor" [.str "__weakref__" 218,.ref 34,.builtin "ExceptionGroup.__weakref__",.none],fdc "super" [.ref 34,.ref 34,.ref 34],fdc "builtin_function_or_method" [.builtin "object.__init_subclass__",.ref 34]]
 |_=>[]
noncomputable def lvO (P:dM):List Stmt→List Obj
 | [.FunctionDef nm ps b _ _ _ sc _ _ _]=>let mv:dF:=.str "basicplus.exprread" 623
  let cn:Str:="Level"
  let qn:Str:="Level.__init__"
  [tup [],fdc "builtin_function_or_method" [.builtin "type.__prepare__",.type "type"],
   dic 5 [ent P "__module__" 777 mv,ent P "__qualname__" 779 (.str cn 778),ent P "__firstlineno__" 781 (.int 315 780),ent P "__init__" 790 (.ref 364),ent P "__static_attributes__" 796 (.ref 365)],
   tup [],fds [it 317,it 4,.ref 363],cdO cn cn 772 354 355 0 0 false .none .none .none 775 315,
   {cls:=.type "frame",slots:= #[some (.ref 356),some (.ref 3),some (.ref 353),none,some mv,none,some (.ref 0)]},
   tup [],fds [],tup [.str "self" 785,.str "kind" 786,.str "word" 787],tup [],tmO nm qn ps b sc,cdO nm qn 782 358 359 3 3 true (.ref 360) (.ref 361) (.ref 362) 788 317,fnO nm qn ps b sc [] .none mv (.ref 363) .none,
   tup (Vd 791 ["args","kind","operands","operators","word"]),
   dic 4 [ent P "__module__" 777 mv,ent P "__firstlineno__" 781 (.int 315 780),ent P "__init__" 790 (.ref 364),ent P "__static_attributes__" 796 (.ref 365),ent P "__dict__" 798 (.ref 368),ent P "__weakref__" 800 (.ref 369),ent P "__doc__" 801 .none],
   {cls:=.type "type",data:=.cls {name:=cn,bases:=[.type "object"],mro:=[.ref 367,.type "object"],ns:=366,qualname:=cn},slots:= #[none,none,some (.str cn 770),some (.str cn 778),some (.builtin "object.__new__"),some (.bool true)]},
   fdc "getset_descriptor" [.str "__dict__" 797,.ref 367,.builtin "function.__dict__",.builtin "function.__dict__#set"],fdc "getset_descriptor" [.str "__weakref__" 799,.ref 367,.builtin "ExceptionGroup.__weakref__",.none],fdc "super" [.ref 367,.ref 367,.ref 367],fdc "builtin_function_or_method" [.builtin "object.__init_subclass__",.ref 367]]
 |_=>[]
noncomputable def one (P:dM) (k n t m:Nat):Stmt→List Obj×(Str×Nat×dF)×List dF
 | .FunctionDef nm ps b _ _ _ sc _ _ pos=>match Nat.beq k 2 with
  |true=>(Xw nm nm ps b sc pos.line n t (mvs.getD m .none) true,(nm,t+5+(len (J5 VA sc.names)+len (J5 VB sc.names)),.ref (n+6)),[it pos.line,it pos.col,.ref (n+5)])
  |false=>(Xw nm nm ps b sc pos.line n t (mvs.getD m .none) false,(nm,t+5,.ref (n+4)),[it pos.line,it pos.col,.ref (n+3)])
 | .ClassDef nm _ _ b _ _ _ _ _ _ pos=>match Nat.beq k 7||Nat.beq n 15 with
  |true=>(ecO P b,(nm,224,.ref 34),[it pos.line,it pos.col,.ref 21])
  |false=>(lvO P b,(nm,803,.ref 367),[it pos.line,it pos.col,.ref 356])
 | .Assign [.Name x _] v _=>match v with
  | .Name _ _=>([],(x,t,.ref n),[])
  | .Tuple es _ _=>([tup (cvs 1 t es)],(x,t+len es,.ref n),[])
  | .List es _=>([{cls:=.type "list",data:=.seq ⟨cvs 1 t es⟩}],(x,t+len es,.ref n),[])
  | .Dict ks vs _=>(match Nat.blt 16 (len ks) with
   |false=>([dic (len ks) (Ve P 2 vs ks t)],(x,t+3*len ks,.ref n),[])
   |true=>([dic (len ks) (Ve P 3 vs ks t),dic 1 (Xx (Ve P 3 vs ks t))],(x,t+3*len ks,.ref n),[]))
  |v=>([],(x,t+1,cv t v),[])
 |_=>([],("",0,.none),[])
noncomputable def Xy:Stmt→Pos
 | .Assign [.Name _ p] _ _=>p
 |s=>s.pos
noncomputable def items:List (Nat×Nat×Nat×Nat):=[(0,15,187,0),(0,15,189,0),(7,15,191,0),(2,38,225,0),(0,45,234,1),(0,45,236,1),(0,45,238,1),(0,45,240,1),(0,45,242,1),(5,45,244,1),(0,46,263,1),(0,46,265,1),(2,46,267,1),(2,53,273,1),(1,59,280,1),(2,60,281,1),(2,67,288,1),(3,74,295,1),(2,79,301,1),(1,85,309,1),(2,86,310,1),(2,93,318,1),(2,100,328,1),(2,107,340,1),(2,114,348,1),(2,121,357,1),(2,128,367,1),(1,134,376,1),(2,135,377,1),(2,142,384,1),(2,149,395,1),(2,156,406,1),(0,163,416,2),(0,163,418,2),(0,163,420,2),(4,163,422,2),(2,164,430,2),(1,170,438,2),(2,171,439,2),(2,178,447,2),(2,185,456,2),(1,191,463,2),(2,192,464,2),(2,199,474,2),(3,206,484,2),(2,211,490,2),(2,218,499,2),(2,225,506,2),(2,232,514,2),(2,239,523,2),(1,245,531,2),(2,246,532,2),(3,253,547,2),(2,258,553,2),(3,265,565,2),(2,270,571,2),(2,277,584,2),(2,284,599,2),(2,291,609,2),(0,298,623,3),(8,298,625,3),(0,300,680,3),(0,300,682,3),(0,300,684,3),(4,300,686,3),(4,301,693,3),(0,302,696,3),(0,302,698,3),(2,302,700,3),(2,309,708,3),(2,316,717,3),(2,323,726,3),(2,330,736,3),(2,337,748,3),(2,344,757,3),(9,351,770,3),(2,372,804,3),(2,379,814,3),(2,386,822,3),(2,393,831,3),(2,400,841,3),(2,407,854,3),(2,414,866,3),(2,421,878,3),(2,428,888,3),(0,435,899,4),(0,435,901,4),(2,435,903,4),(1,441,912,4),(2,442,913,4),(2,449,923,4),(2,456,932,4),(1,462,944,4),(2,463,945,4),(2,470,955,4),(2,477,965,4),(2,484,975,4),(2,491,985,4),(0,498,994,5),(2,498,996,5),(2,505,1008,5),(2,512,1018,5),(2,519,1027,5),(2,526,1036,5),(2,533,1047,5),(2,540,1057,5),(2,547,1066,5),(3,554,1075,5),(2,559,1081,5),(2,566,1091,5),(2,573,1100,5),(2,580,1109,5),(0,587,1115,6),(5,587,1117,6),(2,588,1130,6),(2,595,1138,6),(2,602,1153,6),(2,609,1163,6),(2,616,1175,6),(2,623,1186,6),(2,630,1194,6),(2,637,1202,6),(2,644,1213,6),(2,651,1221,6),(2,658,1229,6),(2,665,1239,6),(2,672,1249,6),(2,679,1259,6),(0,686,1265,7),(4,686,1267,7),(4,687,1271,7),(2,688,1275,7),(2,695,1284,7),(2,702,1296,7),(2,709,1309,7),(2,716,1318,7),(2,723,1332,7),(0,730,1344,8),(0,730,1346,8),(5,730,1348,8),(5,731,1367,8),(2,732,1377,8),(2,739,1389,8),(2,746,1401,8),(2,753,1411,8),(2,760,1422,8),(2,767,1435,8),(2,774,1445,8),(2,781,1457,8),(2,788,1469,8),(2,795,1478,8),(2,802,1487,8),(2,809,1499,8),(2,816,1507,8),(2,823,1516,8),(2,830,1525,8),(2,837,1534,8),(2,844,1546,8),(2,851,1555,8),(2,858,1564,8),(2,865,1571,8),(2,872,1584,8),(2,879,1597,8),(2,886,1611,8),(2,893,1625,8),(0,900,1635,9),(6,900,1637,9),(2,901,1648,9),(2,908,1658,9),(2,915,1672,9),(2,922,1681,9),(2,929,1689,9),(2,936,1704,9),(3,943,1715,9)]
noncomputable def app {α:Type} (a b:List α):List α:=List.rec b (fun x _ ih=>x::ih) a
noncomputable abbrev XT:=List Obj×(Str×Nat×dF)×List dF
noncomputable def XL (P:dM):List XT:=List.rec (motive:=fun _=>List (Nat×Nat×Nat×Nat)→List XT) (fun _=>[]) (fun st _ ih N=>match N with
 | []=>[]
 |(k,n,t,m)::N=>one P k n t m st::ih N) (behindTheImports pw) items
noncomputable def PJ {α:Type} (d:α) (l:List α) (i:Nat):α:=List.rec (motive:=fun _=>Nat→α) (fun _=>d) (fun x _ ih i=>match i with
 |0=>x
 |i+1=>ih i) l i
noncomputable def Za (o:Obj):List DictEntry:=match o.data with
 | .dict es _=>es.toList
 |_=>[]
noncomputable def xk (P:dM) (k:Nat):XT:=PJ ([],("",0,.none),[]) (XL P) k
noncomputable def eX (P:dM) (k:Nat):DictEntry:=ent P (xk P k).2.1.1 (xk P k).2.1.2.1 (xk P k).2.1.2.2
noncomputable def eB (P:dM) (i:Nat):DictEntry:=PJ default (Za (boot_o_3 P)) i
noncomputable def eR (P:dM) (i k:Nat):DictEntry:=⟨(eX P i).hash,(eX P i).key,(xk P k).2.1.2.2⟩
noncomputable def eN (P:dM) (k:Nat):DictEntry:=⟨(eB P 0).hash,(eB P 0).key,(xk P k).2.1.2.2⟩
noncomputable def lX (P:dM) (k:Nat):dF:=PJ .none (xk P k).2.2 0
noncomputable def lY (P:dM) (k:Nat):dF:=PJ .none (xk P k).2.2 1
noncomputable def lZ (P:dM) (k:Nat):dF:=PJ .none (xk P k).2.2 2
noncomputable def objs (P:dM):List Obj:=List.rec [] (fun x _ ih=>app x.1 ih) (XL P)
noncomputable def o2 (P:dM):Obj:={cls:=.none,data:=.dict #[ent P "type.__subclasses__.Exception.0" 221 (it 34),ent P "type.__subclasses__.Exception.n" 222 (it 1)] 2}
noncomputable def Zb (P:dM):Obj:=dic 9 [eB P 0,eB P 1,eB P 2,eB P 3,eB P 4,eB P 5,eB P 6,eB P 7,eB P 8]
noncomputable def Xz (P:dM):Obj:=fds []
noncomputable def X0 (P:dM):Obj:=dic 45 [eN P 32,eB P 1,eB P 2,eB P 3,eB P 4,eB P 5,eB P 6,eB P 7,eB P 8,eX P 1,eX P 2,eX P 3,eX P 5,eX P 6,eX P 7,eX P 8,eX P 9,eX P 10,eX P 11,eX P 12,eX P 13,eX P 14,eX P 15,eX P 16,eX P 17,eR P 18 36,eX P 19,eX P 20,eX P 21,eX P 22,eX P 23,eX P 24,eX P 25,eX P 26,eX P 27,eX P 28,eX P 29,eX P 30,eX P 31,eX P 33,eX P 34,eX P 35,eX P 37,eX P 38,eX P 39]
noncomputable def Vf (P:dM):Obj:=fds [lX P 2,lY P 2,lZ P 2,lX P 3,lY P 3,lZ P 3,lX P 12,lY P 12,lZ P 12,lX P 13,lY P 13,lZ P 13,lX P 15,lY P 15,lZ P 15,lX P 16,lY P 16,lZ P 16,lX P 17,lY P 17,lZ P 17,lX P 18,lY P 18,lZ P 18,lX P 20,lY P 20,lZ P 20,lX P 21,lY P 21,lZ P 21,lX P 22,lY P 22,lZ P 22,lX P 23,lY P 23,lZ P 23,lX P 24,lY P 24,lZ P 24,lX P 25,lY P 25,lZ P 25,lX P 26,lY P 26,lZ P 26,lX P 28,lY P 28,lZ P 28,lX P 29,lY P 29,lZ P 29,lX P 30,lY P 30,lZ P 30,lX P 31,lY P 31,lZ P 31,lX P 36,lY P 36,lZ P 36,lX P 38,lY P 38,lZ P 38,lX P 39,lY P 39,lZ P 39]
noncomputable def X5 (P:dM):Obj:=dic 78 [eN P 59,eB P 1,eB P 2,eB P 3,eB P 4,eB P 5,eB P 6,eB P 7,eB P 8,eX P 1,eX P 2,eX P 3,eX P 5,eX P 6,eX P 7,eX P 8,eX P 9,eX P 10,eX P 11,eX P 12,eX P 13,eX P 14,eX P 15,eX P 16,eX P 17,eR P 18 36,eX P 19,eX P 20,eX P 21,eX P 22,eX P 23,eX P 24,eX P 25,eR P 26 49,eX P 27,eX P 28,eX P 29,eX P 30,eX P 31,eX P 33,eX P 34,eX P 35,eX P 37,eX P 38,eX P 39,eX P 40,eX P 41,eX P 42,eX P 43,eX P 44,eX P 45,eX P 46,eX P 47,eX P 48,eX P 50,eX P 51,eX P 52,eX P 53,eX P 54,eX P 55,eX P 56,eX P 57,eX P 58,eX P 60,eX P 61,eX P 62,eX P 63,eX P 64,eX P 65,eX P 66,eX P 67,eX P 68,eX P 69,eX P 70,eX P 71,eX P 72,eX P 73,eX P 74]
noncomputable def Vg (P:dM):Obj:=fds [lX P 2,lY P 2,lZ P 2,lX P 3,lY P 3,lZ P 3,lX P 12,lY P 12,lZ P 12,lX P 13,lY P 13,lZ P 13,lX P 15,lY P 15,lZ P 15,lX P 16,lY P 16,lZ P 16,lX P 17,lY P 17,lZ P 17,lX P 18,lY P 18,lZ P 18,lX P 20,lY P 20,lZ P 20,lX P 21,lY P 21,lZ P 21,lX P 22,lY P 22,lZ P 22,lX P 23,lY P 23,lZ P 23,lX P 24,lY P 24,lZ P 24,lX P 25,lY P 25,lZ P 25,lX P 26,lY P 26,lZ P 26,lX P 28,lY P 28,lZ P 28,lX P 29,lY P 29,lZ P 29,lX P 30,lY P 30,lZ P 30,lX P 31,lY P 31,lZ P 31,lX P 36,lY P 36,lZ P 36,lX P 38,lY P 38,lZ P 38,lX P 39,lY P 39,lZ P 39,lX P 40,lY P 40,lZ P 40,lX P 42,lY P 42,lZ P 42,lX P 43,lY P 43,lZ P 43,lX P 44,lY P 44,lZ P 44,lX P 45,lY P 45,lZ P 45,lX P 46,lY P 46,lZ P 46,lX P 47,lY P 47,lZ P 47,lX P 48,lY P 48,lZ P 48,lX P 49,lY P 49,lZ P 49,lX P 51,lY P 51,lZ P 51,lX P 52,lY P 52,lZ P 52,lX P 53,lY P 53,lZ P 53,lX P 54,lY P 54,lZ P 54,lX P 55,lY P 55,lZ P 55,lX P 56,lY P 56,lZ P 56,lX P 57,lY P 57,lZ P 57,lX P 58,lY P 58,lZ P 58,lX P 68,lY P 68,lZ P 68,lX P 69,lY P 69,lZ P 69,lX P 70,lY P 70,lZ P 70,lX P 71,lY P 71,lZ P 71,lX P 72,lY P 72,lZ P 72,lX P 73,lY P 73,lZ P 73,lX P 74,lY P 74,lZ P 74]
noncomputable def Vh (P:dM):Obj:=dic 109 [eN P 98,eB P 1,eB P 2,eB P 3,eB P 4,eB P 5,eB P 6,eB P 7,eB P 8,eX P 1,eX P 2,eX P 3,eX P 5,eX P 6,eX P 7,eX P 8,eX P 9,eX P 10,eX P 11,eX P 12,eR P 13 87,eX P 14,eX P 15,eX P 16,eX P 17,eR P 18 36,eX P 19,eX P 20,eX P 21,eX P 22,eX P 23,eX P 24,eX P 25,eR P 26 49,eX P 27,eX P 28,eX P 29,eX P 30,eX P 31,eX P 33,eX P 34,eX P 35,eX P 37,eX P 38,eX P 39,eR P 40 91,eX P 41,eX P 42,eX P 43,eX P 44,eX P 45,eX P 46,eX P 47,eX P 48,eX P 50,eX P 51,eX P 52,eX P 53,eX P 54,eX P 55,eX P 56,eX P 57,eX P 58,eX P 60,eX P 61,eX P 62,eX P 63,eX P 64,eX P 65,eX P 66,eX P 67,eX P 68,eX P 69,eX P 70,eX P 71,eX P 72,eX P 73,eX P 74,eX P 75,eX P 76,eX P 77,eX P 78,eX P 79,eX P 80,eX P 81,eX P 82,eX P 83,eX P 84,eX P 86,eX P 88,eX P 89,eX P 90,eX P 92,eX P 93,eX P 94,eX P 95,eX P 96,eX P 97,eX P 99,eX P 100,eX P 101,eX P 102,eX P 103,eX P 104,eX P 105,eX P 106,eX P 107,eX P 108,eX P 109]
noncomputable def TO (P:dM):Obj:=fds [lX P 2,lY P 2,lZ P 2,lX P 3,lY P 3,lZ P 3,lX P 12,lY P 12,lZ P 12,lX P 13,lY P 13,lZ P 13,lX P 15,lY P 15,lZ P 15,lX P 16,lY P 16,lZ P 16,lX P 17,lY P 17,lZ P 17,lX P 18,lY P 18,lZ P 18,lX P 20,lY P 20,lZ P 20,lX P 21,lY P 21,lZ P 21,lX P 22,lY P 22,lZ P 22,lX P 23,lY P 23,lZ P 23,lX P 24,lY P 24,lZ P 24,lX P 25,lY P 25,lZ P 25,lX P 26,lY P 26,lZ P 26,lX P 28,lY P 28,lZ P 28,lX P 29,lY P 29,lZ P 29,lX P 30,lY P 30,lZ P 30,lX P 31,lY P 31,lZ P 31,lX P 36,lY P 36,lZ P 36,lX P 38,lY P 38,lZ P 38,lX P 39,lY P 39,lZ P 39,lX P 40,lY P 40,lZ P 40,lX P 42,lY P 42,lZ P 42,lX P 43,lY P 43,lZ P 43,lX P 44,lY P 44,lZ P 44,lX P 45,lY P 45,lZ P 45,lX P 46,lY P 46,lZ P 46,lX P 47,lY P 47,lZ P 47,lX P 48,lY P 48,lZ P 48,lX P 49,lY P 49,lZ P 49,lX P 51,lY P 51,lZ P 51,lX P 52,lY P 52,lZ P 52,lX P 53,lY P 53,lZ P 53,lX P 54,lY P 54,lZ P 54,lX P 55,lY P 55,lZ P 55,lX P 56,lY P 56,lZ P 56,lX P 57,lY P 57,lZ P 57,lX P 58,lY P 58,lZ P 58,lX P 68,lY P 68,lZ P 68,lX P 69,lY P 69,lZ P 69,lX P 70,lY P 70,lZ P 70,lX P 71,lY P 71,lZ P 71,lX P 72,lY P 72,lZ P 72,lX P 73,lY P 73,lZ P 73,lX P 74,lY P 74,lZ P 74,lX P 75,lY P 75,lZ P 75,lX P 76,lY P 76,lZ P 76,lX P 77,lY P 77,lZ P 77,lX P 78,lY P 78,lZ P 78,lX P 79,lY P 79,lZ P 79,lX P 80,lY P 80,lZ P 80,lX P 81,lY P 81,lZ P 81,lX P 82,lY P 82,lZ P 82,lX P 83,lY P 83,lZ P 83,lX P 84,lY P 84,lZ P 84,lX P 87,lY P 87,lZ P 87,lX P 89,lY P 89,lZ P 89,lX P 90,lY P 90,lZ P 90,lX P 91,lY P 91,lZ P 91,lX P 93,lY P 93,lZ P 93,lX P 94,lY P 94,lZ P 94,lX P 95,lY P 95,lZ P 95,lX P 96,lY P 96,lZ P 96,lX P 97,lY P 97,lZ P 97,lX P 99,lY P 99,lZ P 99,lX P 100,lY P 100,lZ P 100,lX P 101,lY P 101,lZ P 101,lX P 102,lY P 102,lZ P 102,lX P 103,lY P 103,lZ P 103,lX P 104,lY P 104,lZ P 104,lX P 105,lY P 105,lZ P 105,lX P 106,lY P 106,lZ P 106,lX P 107,lY P 107,lZ P 107,lX P 108,lY P 108,lZ P 108,lX P 109,lY P 109,lZ P 109]
noncomputable def Vi (P:dM):Obj:=dic 136 [eN P 137,eB P 1,eB P 2,eB P 3,eB P 4,eB P 5,eB P 6,eB P 7,eB P 8,eX P 1,eX P 2,eX P 3,eX P 5,eX P 6,eX P 7,eX P 8,eX P 9,eX P 10,eX P 11,eX P 12,eR P 13 87,eX P 14,eX P 15,eX P 16,eX P 17,eR P 18 36,eX P 19,eX P 20,eX P 21,eX P 22,eX P 23,eX P 24,eX P 25,eR P 26 49,eX P 27,eX P 28,eX P 29,eX P 30,eX P 31,eX P 33,eX P 34,eX P 35,eX P 37,eX P 38,eX P 39,eR P 40 91,eX P 41,eX P 42,eX P 43,eX P 44,eX P 45,eX P 46,eX P 47,eX P 48,eX P 50,eX P 51,eX P 52,eX P 53,eX P 54,eX P 55,eX P 56,eX P 57,eX P 58,eX P 60,eX P 61,eX P 62,eX P 63,eX P 64,eX P 65,eX P 66,eX P 67,eX P 68,eX P 69,eX P 70,eX P 71,eX P 72,eX P 73,eX P 74,eX P 75,eX P 76,eX P 77,eX P 78,eX P 79,eX P 80,eX P 81,eX P 82,eX P 83,eX P 84,eX P 86,eX P 88,eX P 89,eX P 90,eX P 92,eX P 93,eX P 94,eX P 95,eX P 96,eX P 97,eX P 99,eX P 100,eX P 101,eX P 102,eX P 103,eX P 104,eX P 105,eX P 106,eX P 107,eX P 108,eX P 109,eX P 110,eX P 111,eX P 113,eX P 114,eX P 115,eX P 116,eX P 117,eX P 118,eX P 119,eX P 120,eX P 121,eX P 122,eX P 123,eX P 124,eX P 125,eX P 126,eX P 127,eX P 129,eX P 130,eX P 131,eX P 132,eX P 133,eX P 134,eX P 135,eX P 136,eX P 138,eX P 139]
noncomputable def TP (P:dM):Obj:=fds [lX P 2,lY P 2,lZ P 2,lX P 3,lY P 3,lZ P 3,lX P 12,lY P 12,lZ P 12,lX P 13,lY P 13,lZ P 13,lX P 15,lY P 15,lZ P 15,lX P 16,lY P 16,lZ P 16,lX P 17,lY P 17,lZ P 17,lX P 18,lY P 18,lZ P 18,lX P 20,lY P 20,lZ P 20,lX P 21,lY P 21,lZ P 21,lX P 22,lY P 22,lZ P 22,lX P 23,lY P 23,lZ P 23,lX P 24,lY P 24,lZ P 24,lX P 25,lY P 25,lZ P 25,lX P 26,lY P 26,lZ P 26,lX P 28,lY P 28,lZ P 28,lX P 29,lY P 29,lZ P 29,lX P 30,lY P 30,lZ P 30,lX P 31,lY P 31,lZ P 31,lX P 36,lY P 36,lZ P 36,lX P 38,lY P 38,lZ P 38,lX P 39,lY P 39,lZ P 39,lX P 40,lY P 40,lZ P 40,lX P 42,lY P 42,lZ P 42,lX P 43,lY P 43,lZ P 43,lX P 44,lY P 44,lZ P 44,lX P 45,lY P 45,lZ P 45,lX P 46,lY P 46,lZ P 46,lX P 47,lY P 47,lZ P 47,lX P 48,lY P 48,lZ P 48,lX P 49,lY P 49,lZ P 49,lX P 51,lY P 51,lZ P 51,lX P 52,lY P 52,lZ P 52,lX P 53,lY P 53,lZ P 53,lX P 54,lY P 54,lZ P 54,lX P 55,lY P 55,lZ P 55,lX P 56,lY P 56,lZ P 56,lX P 57,lY P 57,lZ P 57,lX P 58,lY P 58,lZ P 58,lX P 68,lY P 68,lZ P 68,lX P 69,lY P 69,lZ P 69,lX P 70,lY P 70,lZ P 70,lX P 71,lY P 71,lZ P 71,lX P 72,lY P 72,lZ P 72,lX P 73,lY P 73,lZ P 73,lX P 74,lY P 74,lZ P 74,lX P 75,lY P 75,lZ P 75,lX P 76,lY P 76,lZ P 76,lX P 77,lY P 77,lZ P 77,lX P 78,lY P 78,lZ P 78,lX P 79,lY P 79,lZ P 79,lX P 80,lY P 80,lZ P 80,lX P 81,lY P 81,lZ P 81,lX P 82,lY P 82,lZ P 82,lX P 83,lY P 83,lZ P 83,lX P 84,lY P 84,lZ P 84,lX P 87,lY P 87,lZ P 87,lX P 89,lY P 89,lZ P 89,lX P 90,lY P 90,lZ P 90,lX P 91,lY P 91,lZ P 91,lX P 93,lY P 93,lZ P 93,lX P 94,lY P 94,lZ P 94,lX P 95,lY P 95,lZ P 95,lX P 96,lY P 96,lZ P 96,lX P 97,lY P 97,lZ P 97,lX P 99,lY P 99,lZ P 99,lX P 100,lY P 100,lZ P 100,lX P 101,lY P 101,lZ P 101,lX P 102,lY P 102,lZ P 102,lX P 103,lY P 103,lZ P 103,lX P 104,lY P 104,lZ P 104,lX P 105,lY P 105,lZ P 105,lX P 106,lY P 106,lZ P 106,lX P 107,lY P 107,lZ P 107,lX P 108,lY P 108,lZ P 108,lX P 109,lY P 109,lZ P 109,lX P 110,lY P 110,lZ P 110,lX P 111,lY P 111,lZ P 111,lX P 114,lY P 114,lZ P 114,lX P 115,lY P 115,lZ P 115,lX P 116,lY P 116,lZ P 116,lX P 117,lY P 117,lZ P 117,lX P 118,lY P 118,lZ P 118,lX P 119,lY P 119,lZ P 119,lX P 120,lY P 120,lZ P 120,lX P 121,lY P 121,lZ P 121,lX P 122,lY P 122,lZ P 122,lX P 123,lY P 123,lZ P 123,lX P 124,lY P 124,lZ P 124,lX P 125,lY P 125,lZ P 125,lX P 126,lY P 126,lZ P 126,lX P 127,lY P 127,lZ P 127,lX P 131,lY P 131,lZ P 131,lX P 132,lY P 132,lZ P 132,lX P 133,lY P 133,lZ P 133,lX P 134,lY P 134,lZ P 134,lX P 135,lY P 135,lZ P 135,lX P 136,lY P 136,lZ P 136]
noncomputable def QZ (P:dM):Obj:=dic 169 [eN P 165,eB P 1,eB P 2,eB P 3,eB P 4,eB P 5,eB P 6,eB P 7,eB P 8,eX P 1,eX P 2,eX P 3,eX P 5,eX P 6,eX P 7,eX P 8,eX P 9,eX P 10,eX P 11,eX P 12,eR P 13 87,eX P 14,eX P 15,eX P 16,eX P 17,eR P 18 36,eX P 19,eX P 20,eX P 21,eX P 22,eX P 23,eX P 24,eX P 25,eR P 26 49,eX P 27,eX P 28,eX P 29,eX P 30,eX P 31,eX P 33,eX P 34,eX P 35,eX P 37,eX P 38,eX P 39,eR P 40 91,eX P 41,eX P 42,eX P 43,eX P 44,eX P 45,eX P 46,eX P 47,eX P 48,eX P 50,eX P 51,eX P 52,eX P 53,eX P 54,eX P 55,eX P 56,eX P 57,eX P 58,eX P 60,eX P 61,eX P 62,eX P 63,eX P 64,eX P 65,eX P 66,eX P 67,eX P 68,eX P 69,eX P 70,eX P 71,eX P 72,eX P 73,eX P 74,eX P 75,eX P 76,eX P 77,eX P 78,eX P 79,eX P 80,eX P 81,eX P 82,eX P 83,eX P 84,eX P 86,eX P 88,eX P 89,eX P 90,eX P 92,eX P 93,eX P 94,eX P 95,eX P 96,eX P 97,eX P 99,eX P 100,eX P 101,eX P 102,eX P 103,eX P 104,eX P 105,eX P 106,eX P 107,eX P 108,eX P 109,eX P 110,eX P 111,eX P 113,eX P 114,eX P 115,eX P 116,eX P 117,eX P 118,eX P 119,eX P 120,eX P 121,eX P 122,eX P 123,eX P 124,eX P 125,eX P 126,eX P 127,eX P 129,eX P 130,eX P 131,eX P 132,eX P 133,eX P 134,eX P 135,eX P 136,eX P 138,eX P 139,eX P 140,eX P 141,eX P 142,eX P 143,eX P 144,eX P 145,eX P 146,eX P 147,eX P 148,eX P 149,eX P 150,eX P 151,eX P 152,eX P 153,eX P 154,eX P 155,eX P 156,eX P 157,eX P 158,eX P 159,eX P 160,eX P 161,eX P 162,eX P 163,eX P 164,eX P 166,eX P 167,eX P 168,eX P 169,eX P 170,eX P 171,eX P 172,eX P 173]
noncomputable def Nt (P:dM):Obj:=fds [lX P 2,lY P 2,lZ P 2,lX P 3,lY P 3,lZ P 3,lX P 12,lY P 12,lZ P 12,lX P 13,lY P 13,lZ P 13,lX P 15,lY P 15,lZ P 15,lX P 16,lY P 16,lZ P 16,lX P 17,lY P 17,lZ P 17,lX P 18,lY P 18,lZ P 18,lX P 20,lY P 20,lZ P 20,lX P 21,lY P 21,lZ P 21,lX P 22,lY P 22,lZ P 22,lX P 23,lY P 23,lZ P 23,lX P 24,lY P 24,lZ P 24,lX P 25,lY P 25,lZ P 25,lX P 26,lY P 26,lZ P 26,lX P 28,lY P 28,lZ P 28,lX P 29,lY P 29,lZ P 29,lX P 30,lY P 30,lZ P 30,lX P 31,lY P 31,lZ P 31,lX P 36,lY P 36,lZ P 36,lX P 38,lY P 38,lZ P 38,lX P 39,lY P 39,lZ P 39,lX P 40,lY P 40,lZ P 40,lX P 42,lY P 42,lZ P 42,lX P 43,lY P 43,lZ P 43,lX P 44,lY P 44,lZ P 44,lX P 45,lY P 45,lZ P 45,lX P 46,lY P 46,lZ P 46,lX P 47,lY P 47,lZ P 47,lX P 48,lY P 48,lZ P 48,lX P 49,lY P 49,lZ P 49,lX P 51,lY P 51,lZ P 51,lX P 52,lY P 52,lZ P 52,lX P 53,lY P 53,lZ P 53,lX P 54,lY P 54,lZ P 54,lX P 55,lY P 55,lZ P 55,lX P 56,lY P 56,lZ P 56,lX P 57,lY P 57,lZ P 57,lX P 58,lY P 58,lZ P 58,lX P 68,lY P 68,lZ P 68,lX P 69,lY P 69,lZ P 69,lX P 70,lY P 70,lZ P 70,lX P 71,lY P 71,lZ P 71,lX P 72,lY P 72,lZ P 72,lX P 73,lY P 73,lZ P 73,lX P 74,lY P 74,lZ P 74,lX P 75,lY P 75,lZ P 75,lX P 76,lY P 76,lZ P 76,lX P 77,lY P 77,lZ P 77,lX P 78,lY P 78,lZ P 78,lX P 79,lY P 79,lZ P 79,lX P 80,lY P 80,lZ P 80,lX P 81,lY P 81,lZ P 81,lX P 82,lY P 82,lZ P 82,lX P 83,lY P 83,lZ P 83,lX P 84,lY P 84,lZ P 84,lX P 87,lY P 87,lZ P 87,lX P 89,lY P 89,lZ P 89,lX P 90,lY P 90,lZ P 90,lX P 91,lY P 91,lZ P 91,lX P 93,lY P 93,lZ P 93,lX P 94,lY P 94,lZ P 94,lX P 95,lY P 95,lZ P 95,lX P 96,lY P 96,lZ P 96,lX P 97,lY P 97,lZ P 97,lX P 99,lY P 99,lZ P 99,lX P 100,lY P 100,lZ P 100,lX P 101,lY P 101,lZ P 101,lX P 102,lY P 102,lZ P 102,lX P 103,lY P 103,lZ P 103,lX P 104,lY P 104,lZ P 104,lX P 105,lY P 105,lZ P 105,lX P 106,lY P 106,lZ P 106,lX P 107,lY P 107,lZ P 107,lX P 108,lY P 108,lZ P 108,lX P 109,lY P 109,lZ P 109,lX P 110,lY P 110,lZ P 110,lX P 111,lY P 111,lZ P 111,lX P 114,lY P 114,lZ P 114,lX P 115,lY P 115,lZ P 115,lX P 116,lY P 116,lZ P 116,lX P 117,lY P 117,lZ P 117,lX P 118,lY P 118,lZ P 118,lX P 119,lY P 119,lZ P 119,lX P 120,lY P 120,lZ P 120,lX P 121,lY P 121,lZ P 121,lX P 122,lY P 122,lZ P 122,lX P 123,lY P 123,lZ P 123,lX P 124,lY P 124,lZ P 124,lX P 125,lY P 125,lZ P 125,lX P 126,lY P 126,lZ P 126,lX P 127,lY P 127,lZ P 127,lX P 131,lY P 131,lZ P 131,lX P 132,lY P 132,lZ P 132,lX P 133,lY P 133,lZ P 133,lX P 134,lY P 134,lZ P 134,lX P 135,lY P 135,lZ P 135,lX P 136,lY P 136,lZ P 136,lX P 141,lY P 141,lZ P 141,lX P 142,lY P 142,lZ P 142,lX P 143,lY P 143,lZ P 143,lX P 144,lY P 144,lZ P 144,lX P 145,lY P 145,lZ P 145,lX P 146,lY P 146,lZ P 146,lX P 147,lY P 147,lZ P 147,lX P 148,lY P 148,lZ P 148,lX P 149,lY P 149,lZ P 149,lX P 150,lY P 150,lZ P 150,lX P 151,lY P 151,lZ P 151,lX P 152,lY P 152,lZ P 152,lX P 153,lY P 153,lZ P 153,lX P 154,lY P 154,lZ P 154,lX P 155,lY P 155,lZ P 155,lX P 156,lY P 156,lZ P 156,lX P 157,lY P 157,lZ P 157,lX P 158,lY P 158,lZ P 158,lX P 159,lY P 159,lZ P 159,lX P 160,lY P 160,lZ P 160,lX P 161,lY P 161,lZ P 161,lX P 162,lY P 162,lZ P 162,lX P 163,lY P 163,lZ P 163,lX P 164,lY P 164,lZ P 164,lX P 167,lY P 167,lZ P 167,lX P 168,lY P 168,lZ P 168,lX P 169,lY P 169,lZ P 169,lX P 170,lY P 170,lZ P 170,lX P 171,lY P 171,lZ P 171,lX P 172,lY P 172,lZ P 172,lX P 173,lY P 173,lZ P 173]
noncomputable def FL (P:dM):List Obj:=[boot_o_0 P,boot_o_1 P,o2 P,QZ P,boot_o_4 P,boot_o_5 P,boot_o_6 P,boot_o_7 P,boot_o_8 P,boot_o_9 P,boot_o_10 P,tup [],Nt P,cdO "<module>" "<module>" 182 11 12 0 0 false .none .none .none 185 1,
 {cls:=.type "frame",slots:= #[some (.ref 13),some (.ref 3),some (.ref 3),none,some (.str "__main__" 164),none,some (.ref 0)]}]++objs P
end Mine
end
section
open PySem PySem.Calls PyProof.Rows PySem.Spec PySem.W
namespace Mine
noncomputable def sub (G:Nat→Obj):Nat→Nat→Nat→BT:=Nat.rec (fun _ _=>.nil) fun _ ih a s=>.node (G a) (ih (a+s) (s+s)) (ih (a+(s+s)) (s+s))
noncomputable def TT (G:Nat→Obj) (m2 m3 m12:Obj):BT:=.node (G 0) (.node (G 1) (.node m3 (sub G 8 7 8) (sub G 8 11 8)) (sub G 9 5 4)) (.node m2 (.node (G 4) (sub G 8 8 8) (.node m12 (sub G 7 20 16) (sub G 7 28 16))) (sub G 9 6 4))
noncomputable def GF (P:dM) (i:Nat):Obj:=PJ default (FL P) i
noncomputable def Sj (w:dN) (os:dS) (T:BT) (n t:Nat):SharedT:=⟨T,n,{},.mk [],boot_drawn,t,os⟩
noncomputable def T0 (P:dM):BT:=TT (GF P) (boot_o_2 P) (Zb P) (Xz P)
noncomputable def T40 (P:dM):BT:=TT (GF P) (o2 P) (X0 P) (Vf P)
noncomputable def T75 (P:dM):BT:=TT (GF P) (o2 P) (X5 P) (Vg P)
noncomputable def Qa (P:dM):BT:=TT (GF P) (o2 P) (Vh P) (TO P)
noncomputable def Kz (P:dM):BT:=TT (GF P) (o2 P) (Vi P) (TP P)
noncomputable def PK (P:dM):BT:=TT (GF P) (o2 P) (QZ P) (Nt P)
noncomputable def PM:Env:={scope:=pw.main.scope,locals:=mainNs,globals:=mainNs,cells:=[],code:=.ref 13,frame:=some 14}
noncomputable def hbd:List Stmt:=behindTheImports pw
noncomputable def c0:Code:=.body hbd PM
noncomputable def po (j:Nat):Pos:=match j with
 |0=>⟨0,0,0,0⟩
 |j+1=>match hbd.drop j with
  |st::_=>Xy st
  | []=>⟨0,0,0,0⟩
noncomputable def sl (a b:Nat):List Stmt:=(hbd.drop a).take (b - a)
noncomputable def sg (p:dP) (w:dN) (s:SharedT) (l:List Stmt) (e:Env) (c:Code) (q:Pos):=segRunT treeTable p w 11 (some (.ref 6)) 1 2000 s (piecesOf l e c q [topFrame ⟨0,0,0,0⟩])
noncomputable def Qb (x:Flow×SharedT×Code×Pos):=(x.1,x.2.1.tree,x.2.1.n,x.2.1.life,x.2.1.gens,x.2.1.drawn,x.2.1.toks,x.2.1.os,x.2.2.1,x.2.2.2)
theorem PN{x:Flow×SharedT×Code×Pos}{f:Flow}{s:SharedT}{c:Code}{p:Pos}(h:Qb x=(f,s.tree,s.n,s.life,s.gens,s.drawn,s.toks,s.os,c,p)):x=(f,s,c,p):=
 congrArg (fun t:Flow×BT×Nat×Life×Array GenState×Drawn×Nat×dS×Code×Pos=>(t.1,(⟨t.2.1,t.2.2.1,t.2.2.2.1,t.2.2.2.2.1,t.2.2.2.2.2.1,t.2.2.2.2.2.2.1,t.2.2.2.2.2.2.2.1⟩:SharedT),t.2.2.2.2.2.2.2.2)) h
abbrev Pc (w:dN) (os:dS) (a:Nat) (T:dM→BT) (n t b:Nat) (T':dM→BT) (n' t':Nat):Prop:=(sg pw w (Sj w os (T w.params) n t) (sl a b) PM c0 (po a)).map Qb=some (.next,T' w.params,n',{},.mk [],boot_drawn,t',os,c0,po b)
theorem LA{w:dN}{os:dS}{a b n t n' t':Nat}{T T':dM→BT}(h:Pc w os a T n t b T' n' t'):segRunT treeTable pw w 11 (some (.ref 6)) 1 2000 (Sj w os (T w.params) n t) (piecesOf (sl a b) PM c0 (po a) [topFrame ⟨0,0,0,0⟩])=some (.next,Sj w os (T' w.params) n' t',c0,po b):=by
 have h:(sg pw w (Sj w os (T w.params) n t) (sl a b) PM c0 (po a)).map Qb=some (.next,T' w.params,n',{},.mk [],boot_drawn,t',os,c0,po b):=h;obtain ⟨x,h1,h2⟩:=bG.mp h;have:=PN (s:=Sj w os (T' w.params) n' t') h2;subst this;exact h1
noncomputable abbrev w2 (w:dN) (b:Bool):dN:=w.withFollow "special-get-raises" b
end Mine
end
section
namespace Mine
theorem xbf{p:Prop}(h:false=true):p:=Bool.noConfusion h
theorem xns{α:Type}{a:α}{p:Prop}(h:none=some a):p:=nomatch h
inductive Ex2 {α β:Type} (p:α→β→Prop):Prop
 |intro (a:α) (b:β) (w:p a b):Ex2 p
inductive Ex3 {α β γ:Type} (p:α→β→γ→Prop):Prop
 |intro (a:α) (b:β) (c:γ) (w:p a b c):Ex3 p
inductive Ex4 {α β γ δ:Type} (p:α→β→γ→δ→Prop):Prop
 |intro (a:α) (b:β) (c:γ) (d:δ) (w:p a b c d):Ex4 p
inductive Ex5 {α β γ δ ε:Type} (p:α→β→γ→δ→ε→Prop):Prop
 |intro (a:α) (b:β) (c:γ) (d:δ) (e:ε) (w:p a b c d e):Ex5 p
inductive Ex6 {α β γ δ ε ζ:Type} (p:α→β→γ→δ→ε→ζ→Prop):Prop
 |intro (a:α) (b:β) (c:γ) (d:δ) (e:ε) (f:ζ) (w:p a b c d e f):Ex6 p
inductive Ex7 {α β γ δ ε ζ η:Type} (p:α→β→γ→δ→ε→ζ→η→Prop):Prop
 |intro (a:α) (b:β) (c:γ) (d:δ) (e:ε) (f:ζ) (g:η) (w:p a b c d e f g):Ex7 p
inductive Ex8 {α β γ δ ε ζ η θ:Type} (p:α→β→γ→δ→ε→ζ→η→θ→Prop):Prop
 |intro (a:α) (b:β) (c:γ) (d:δ) (e:ε) (f:ζ) (g:η) (h:θ) (w:p a b c d e f g h):Ex8 p
inductive Ex9 {α β γ δ ε ζ η θ ι:Type} (p:α→β→γ→δ→ε→ζ→η→θ→ι→Prop):Prop
 |intro (a:α) (b:β) (c:γ) (d:δ) (e:ε) (f:ζ) (g:η) (h:θ) (i:ι) (w:p a b c d e f g h i):Ex9 p
inductive Zc {α β γ δ ε ζ η θ ι κ:Type} (p:α→β→γ→δ→ε→ζ→η→θ→ι→κ→Prop):Prop
 |intro (a:α) (b:β) (c:γ) (d:δ) (e:ε) (f:ζ) (g:η) (h:θ) (i:ι) (j:κ) (w:p a b c d e f g h i j):Zc p
inductive X6 {α β γ δ ε ζ η θ ι κ ξ:Type} (p:α→β→γ→δ→ε→ζ→η→θ→ι→κ→ξ→Prop):Prop
 |intro (a:α) (b:β) (c:γ) (d:δ) (e:ε) (f:ζ) (g:η) (h:θ) (i:ι) (j:κ) (k:ξ) (w:p a b c d e f g h i j k):X6 p
inductive A3 (a b c:Prop):Prop
 |intro:a→b→c→A3 a b c
inductive A4 (a b c d:Prop):Prop
 |intro:a→b→c→d→A4 a b c d
inductive A5 (a b c d e:Prop):Prop
 |intro:a→b→c→d→e→A5 a b c d e
inductive A6 (a b c d e f:Prop):Prop
 |intro:a→b→c→d→e→f→A6 a b c d e f
inductive A7 (a b c d e f g:Prop):Prop
 |intro:a→b→c→d→e→f→g→A7 a b c d e f g
inductive A8 (a b c d e f g h:Prop):Prop
 |intro:a→b→c→d→e→f→g→h→A8 a b c d e f g h
inductive A10 (a b c d e f g h i j:Prop):Prop
 |intro:a→b→c→d→e→f→g→h→i→j→A10 a b c d e f g h i j
inductive A11 (a b c d e f g h i j k:Prop):Prop
 |intro:a→b→c→d→e→f→g→h→i→j→k→A11 a b c d e f g h i j k
inductive A16 (a b c d e f g h i j k l m n o p:Prop):Prop
 |intro:a→b→c→d→e→f→g→h→i→j→k→l→m→n→o→p→A16 a b c d e f g h i j k l m n o p
inductive A17 (a b c d e f g h i j k l m n o p q:Prop):Prop
 |intro:a→b→c→d→e→f→g→h→i→j→k→l→m→n→o→p→q→A17 a b c d e f g h i j k l m n o p q
inductive D where
 |none
 |bool (b:Bool)
 |int (i:Int)
 |str (s:List Nat)
 |tup (l:List D)
 |loc (n:Nat)
 |fn (n:Nat)
 |dig (n:Nat)
 |fl (l:List D)
 |fk (l:List (List Nat))
 |obj (n:Nat)
inductive AI where
 |lst (l:List D)
 |dcti (l:List (Int×D))
 |dcts (l:List (List Nat×D))
 |ins (l:List D)
 |tab (l:List Nat)
noncomputable abbrev AA:=List AI
noncomputable abbrev Loc:=List (Option D)
inductive Ro where
 |ok (d:D)
 |ex (c:List Nat)
noncomputable abbrev R:=Option (Ro×AA)
inductive Bin where
 |add|sub|mul|fdiv|mod
inductive Cmp where
 |eq|ne|lt|le|gt|ge|isIn|notIn|isN|isNotN
inductive BI where
 |len|sorted|str|abs|min|dict|listItems|ord|chr
inductive ME where
 |split|join|find2|find3|strip|rstrip|upper|index|append|extend|pop|get|update
set_option genCtorIdx false in
inductive E where
 |cst (d:D)
 |loc (i:Nat)
 |glob (g:Nat)
 |fn (f:Nat)
 |tup (es:List E)
 |lst (es:List E)
 |dcti (kvs:List (E×E))
 |dcts (kvs:List (E×E))
 |bin (op:Bin) (a b:E)
 |cmp (a:E) (ops:List Cmp) (bs:List E)
 |and (es:List E)
 |or (es:List E)
 |not (e:E)
 |neg (e:E)
 |ite (c a b:E)
 |idx (a i:E)
 |slc (a:E) (lo hi:Option E)
 |attr (e:E) (k:Nat)
 |call (f:Nat) (args:List E)
 |callv (i:Nat) (args:List E)
 |bi (b:BI) (args:List E)
 |meth (m:ME) (r:E) (args:List E)
 |new (args:List E)
 |comp (elt:E) (tgt:List Nat) (tup:Bool) (en:Bool) (iter:E) (ifs:List E)
 |heard (k j:Nat) (e:E)
 |junk
set_option genCtorIdx false in
inductive St where
 |asg (i:Nat) (e:E)
 |asgT (is:List Nat) (e:E)
 |asgI (o i e:E)
 |aug (i:Nat) (op:Bin) (e:E)
 |ite (c:E) (a b:List St)
 |whl (c:E) (b:List St)
 |for (kind:Nat) (tgt:List Nat) (tup:Bool) (iter:E) (b:List St)
 |ret (e:E)
 |rse (args:List E)
 |exp (e:E)
 |brk
 |junk
noncomputable def bnd (x:R) (f:D→AA→R):R:=match x with
 |some (.ok d,σ)=>f d σ
 |some (.ex c,σ)=>some (.ex c,σ)
 |none=>none
noncomputable def Ab (d:D) (σ:AA):R:=some (.ok d,σ)
noncomputable def eqL:List Nat→List Nat→Bool
 | [],[]=>true
 |a::l,b::m=>Nat.beq a b&&eqL l m
 |_,_=>false
noncomputable def ltL:List Nat→List Nat→Bool
 |_,[]=>false
 | [],_::_=>true
 |a::l,b::m=>Nat.blt a b||(Nat.beq a b&&ltL l m)
noncomputable def Bv:List (Int×D)→Int→Option D
 | [],_=>none
 |p::l,k=>if p.1=k then some p.2 else Bv l k
noncomputable def Bl {α:Type} (d:D) (f:Int→Option α):Option α:=match d with
 | .int i=>f i
 |_=>bL
noncomputable def DQ {α:Type} (d:D) (f:List Nat→Option α):Option α:=match d with
 | .str l=>f l
 |_=>bL
noncomputable def Qc {α:Type} (d:D) (f:Option α):Option α:=match d with
 | .none=>f
 |_=>bL
noncomputable def X7 {α:Type} (l:List Nat) (f:Nat→Option α):Option α:=match l with
 | [c]=>f c
 |_=>bL
noncomputable def Md {α:Type} (d:D) (f:Nat→Option α):Option α:=DQ d fun l=>X7 l f
noncomputable def ckK {α:Type} (a:D) (fi:Int→Option α) (fs:List Nat→Option α) (fl:Option α):Option α:=match a with
 | .int i=>fi i
 | .str s=>fs s
 | .loc _=>fl
 |_=>bL
noncomputable def Gq {α:Type} (σ:AA) (d:D) (f:Nat→AI→Option α):Option α:=match d with
 | .loc n=>σ[n]?.bind (f n)
 |_=>bL
noncomputable def LB {α:Type} (c:AI) (f:List D→Option α):Option α:=match c with
 | .lst l=>f l
 |_=>bL
noncomputable def VC {α:Type} (c:AI) (f:List (Int×D)→Option α):Option α:=match c with
 | .dcti l=>f l
 |_=>bL
noncomputable def X8 {α:Type} (c:AI) (f:List (List Nat×D)→Option α):Option α:=match c with
 | .dcts l=>f l
 |_=>bL
noncomputable def B5 {α:Type} (σ:AA) (d:D) (f:Nat→List D→Option α):Option α:=Gq σ d fun n c=>LB c (f n)
noncomputable def Dy {α:Type} (σ:AA) (d:D) (f:Nat→List (Int×D)→Option α):Option α:=Gq σ d fun n c=>VC c (f n)
noncomputable def Qd {α:Type} (σ:AA) (d:D) (f:Nat→List (List Nat×D)→Option α):Option α:=Gq σ d fun n c=>X8 c (f n)
noncomputable def as0 {α:Type} (as:List D) (f:Option α):Option α:=match as with
 | []=>f
 |_=>bL
noncomputable def as1 {α:Type} (as:List D) (f:D→Option α):Option α:=match as with
 | [a]=>f a
 |_=>bL
noncomputable def as2 {α:Type} (as:List D) (f:D→D→Option α):Option α:=match as with
 | [a,b]=>f a b
 |_=>bL
noncomputable def as3 {α:Type} (as:List D) (f:D→D→D→Option α):Option α:=match as with
 | [a,b,c]=>f a b c
 |_=>bL
mutual
noncomputable def deq (σ:AA):Nat→D→D→Option Bool
 |0,_,_=>bL
 |n+1,a,b=>match a with
  | .none=>Qc b (some true)
  | .int i=>Bl b fun j=>some (decide (i=j))
  | .str s=>DQ b fun t=>some (eqL s t)
  | .tup l=>(match b with
   | .tup m=>J6 σ n l m
   |_=>bL)
  | .loc _=>B5 σ a fun _ l=>B5 σ b fun _ m=>J6 σ n l m
  |_=>bL
noncomputable def J6 (σ:AA):Nat→List D→List D→Option Bool
 |0,_,_=>bL
 |n+1,l,m=>match l with
  | []=>some m.isEmpty
  |a::l=>(match m with
   | []=>some false
   |b::m=>(deq σ n a b).bind fun t=>match t with
    |true=>J6 σ n l m
    |false=>some false)
end
noncomputable def conv (σ:AA):Nat→D→Bool
 |0,_=>false
 |_+1,.none=>true
 |_+1,.bool _=>true
 |_+1,.int _=>true
 |_+1,.str _=>true
 |_+1,.dig _=>true
 |n+1,.tup l=>l.all (conv σ n)
 |n+1,.loc i=>match σ[i]? with
  |some (.lst l)=>l.all (conv σ n)
  |_=>false
 |_+1,_=>false
noncomputable def deqd:List (Int×D)→List (Int×D)→Option Bool
 | [],_=>some true
 |p::l,m=>match p.2,Bv m p.1 with
  | .str a,some (.str b)=>match eqL a b with
   |true=>deqd l m
   |false=>some false
  | .str _,bL=>some false
  |_,_=>bL
noncomputable def strR (l:List (Int×D)):Bool:=l.all fun p=>match p.2 with
 | .str _=>true
 |_=>false
noncomputable def DA (σ:AA) (a b:D):Option Bool:=match conv σ 12 a&&conv σ 12 b with
 |true=>deq σ 40 a b
 |false=>Dy σ a fun _ l=>Dy σ b fun _ m=>match strR l&&strR m with
  |true=>if l.length=m.length then deqd l m else some false
  |false=>bL
noncomputable def Gr (σ:AA) (a:D):List D→Option Bool
 | []=>some false
 |b::l=>(deq σ 40 b a).bind fun t=>match t with
  |true=>some true
  |false=>Gr σ a l
noncomputable def FZ (σ:AA) (a:D) (l:List D):Option Bool:=match conv σ 12 a&&l.all (conv σ 12) with
 |true=>Gr σ a l
 |false=>none
noncomputable def LC (σ:AA) (a:D) (c:AI):Option Bool:=match c with
 | .lst l=>FZ σ a l
 | .dcti l=>Bl a fun k=>some (l.any fun p=>decide (p.1=k))
 | .dcts l=>DQ a fun k=>some (l.any fun p=>eqL p.1 k)
 |_=>none
noncomputable def Nu (σ:AA) (a b:D):Option Bool:=match b with
 | .str l=>Md a fun c=>some (l.any fun x=>Nat.beq x c)
 | .tup l=>FZ σ a l
 | .fk l=>DQ a fun k=>some (l.any fun x=>eqL x k)
 | .loc _=>Gq σ b fun _ c=>LC σ a c
 |_=>none
noncomputable def Vj (a b:D):Option Bool:=Qc b (match a with
 | .none=>some true
 | .int _=>some false
 | .tup _=>some false
 |_=>none)
noncomputable def leD (a b:D):Option Bool:=ckK a (fun i=>Bl b fun j=>some (decide (i≤j))) (fun s=>DQ b fun t=>some (!ltL t s)) none
noncomputable def BA (σ:AA) (op:Cmp) (a b:D):Option Bool:=match op with
 | .eq=>DA σ a b
 | .ne=>(DA σ a b).map (!·)
 | .lt=>Bl a fun i=>Bl b fun j=>some (decide (i<j))
 | .le=>leD a b
 | .gt=>Bl a fun i=>Bl b fun j=>some (decide (i>j))
 | .ge=>Bl a fun i=>Bl b fun j=>some (decide (i≥j))
 | .isN=>Vj a b
 | .isNotN=>(Vj a b).map (!·)
 | .isIn=>Nu σ a b
 | .notIn=>(Nu σ a b).map (!·)
noncomputable def alloc (σ:AA) (c:AI):R:=some (.ok (.loc σ.length),σ++[c])
noncomputable def inB (n:Nat) (i:Int):Bool:=match i with
 | .ofNat k=>Nat.blt k n
 | .negSucc _=>false
theorem HU{n:Nat}{i:Int}:inB n i=true↔0≤i∧i<n:=by
 cases i with
 |ofNat k=>
  show Nat.blt k n=true↔_
  rw[be];constructor
  ·intro h;exact ⟨bx k,av.mpr h⟩
  ·intro h;exact av.mp h.2
 |negSucc k=>
  constructor
  ·intro h;cases h
  ·intro h;exact absurd h.1 (by omega)
noncomputable def Bw (σ:AA) (op:Bin) (a b:D):R:=match op with
 | .add=>ckK a (fun i=>Bl b fun j=>Ab (.int (i+j)) σ) (fun s=>DQ b fun t=>if s.length+t.length<1000000 then Ab (.str (s++t)) σ else none)
  (B5 σ a fun _ l=>B5 σ b fun _ m=>if l.length+m.length<1000000 then alloc σ (.lst (l++m)) else none)
 | .sub=>Bl a fun i=>Bl b fun j=>Ab (.int (i - j)) σ
 | .mul=>ckK a (fun i=>Bl b fun j=>if i.natAbs<1000000000∧j.natAbs<1000000000 then Ab (.int (i*j)) σ else none)
  (fun s=>Bl b fun j=>if 0≤j∧j<1000∧s.length=1 then Ab (.str ((bO j.toNat s).flatten)) σ else none) none
 | .mod=>Bl a fun i=>Bl b fun j=>if 0<j∧inB 1000000000 j=true then Ab (.int (Int.fmod i j)) σ else none
 | .fdiv=>Bl a fun i=>Bl b fun j=>if 0<j∧inB 1000000000 j=true then Ab (.int (Int.fdiv i j)) σ else none
noncomputable def atL {α:Type} (l:List α) (i:Int):Option α:=if 0≤i then l[i.toNat]? else if -(l.length:Int)≤i then l[(i+l.length).toNat]? else none
noncomputable def Gs:List (List Nat×D)→List Nat→Option D
 | [],_=>none
 |p::l,k=>match eqL p.1 k with
  |true=>some p.2
  |false=>Gs l k
noncomputable def TQ (i:D) (c:AI):Option D:=match c with
 | .lst l=>Bl i fun i=>atL l i
 | .dcti l=>Bl i fun k=>Bv l k
 | .dcts l=>DQ i fun k=>Gs l k
 |_=>none
noncomputable def EB (σ:AA) (a i:D):Option D:=match a with
 | .str l=>Bl i fun i=>if 0≤i then (l[i.toNat]?).map fun c=>.str [c] else none
 | .tup l=>Bl i fun i=>atL l i
 | .fl l=>Bl i fun i=>if 0≤i then l[i.toNat]? else none
 | .loc _=>Gq σ a fun _ c=>TQ i c
 |_=>none
noncomputable def cut {α:Type} (l:List α) (lo hi:Nat):List α:=(l.take hi).drop lo
noncomputable def Dz (n:Nat):D→Option Nat
 | .none=>some n
 | .int i=>if inB 1000000000 i=true then some i.toNat else none
 |_=>none
noncomputable def D0 (σ:AA) (a:D) (lo hi:D):R:=(Dz 0 lo).bind fun lo=>match a with
 | .str l=>(Dz l.length hi).bind fun hi=>Ab (.str (cut l lo hi)) σ
 | .loc _=>B5 σ a fun _ l=>(Dz l.length hi).bind fun hi=>alloc σ (.lst (cut l lo hi))
 | .fl l=>(Dz l.length hi).bind fun hi=>alloc σ (.lst (cut l lo hi))
 |_=>none
noncomputable def Me (σ:AA) (a:D) (k:Nat):Option D:=match a with
 | .obj n=>match σ[n]? with
  |some (.ins l)=>if k<5 then l[k]? else none
  |_=>none
 |_=>none
noncomputable def Df:Nat→Nat→List Nat
 |0,_=>[]
 |f+1,n=>if n<10 then [48+n] else (48+n%10)::Df f (n / 10)
noncomputable def AB (n:Nat):List Nat:=(Df 20 n).reverse
noncomputable def AW {α:Type}:List α→Nat→α→List α
 | [],_,_=>[]
 |_::l,0,x=>x::l
 |y::l,i+1,x=>y::AW l i x
noncomputable def Ay:List (Int×D)→Int→D→List (Int×D)
 | [],k,d=>[(k,d)]
 |p::l,k,d=>if p.1=k then (k,d)::l else p::Ay l k d
noncomputable def D7:List (List Nat×D)→List Nat→D→List (List Nat×D)
 | [],k,d=>[(k,d)]
 |p::l,k,d=>match eqL p.1 k with
  |true=>(k,d)::l
  |false=>p::D7 l k d
noncomputable def insI (k:Int):List Int→List Int
 | []=>[k]
 |a::l=>if k≤a then k::a::l else a::insI k l
noncomputable def sortI:List Int→List Int
 | []=>[]
 |a::l=>insI a (sortI l)
noncomputable def Cs:List D→Option (List (Int×D))
 | []=>some []
 | .tup [.int k,d]::l=>(Cs l).map ((k,d):: ·)
 |_=>none
noncomputable def Dg (σ:AA) (b:BI) (as:List D):R:=match b with
 | .len=>as1 as fun a=>ckK a (fun _=>none) (fun l=>Ab (.int l.length) σ) (B5 σ a fun _ l=>Ab (.int l.length) σ)
 | .sorted=>as1 as fun a=>Dy σ a fun _ l=>if l.length<64 then alloc σ (.lst ((sortI (l.map (·.1))).map .int)) else none
 | .str=>as1 as fun a=>Bl a fun i=>if inB 1000000000 i=true then Ab (.str (AB i.toNat)) σ else none
 | .abs=>as1 as fun a=>Bl a fun i=>Ab (.int i.natAbs) σ
 | .min=>as2 as fun a b=>Bl a fun i=>Bl b fun j=>Ab (.int (if j<i then j else i)) σ
 | .ord=>as1 as fun a=>Md a fun c=>Ab (.int c) σ
 | .listItems=>as1 as fun a=>Dy σ a fun _ l=>alloc σ (.lst (l.map fun p=>.tup [.int p.1,p.2]))
 | .dict=>as1 as fun a=>B5 σ a fun _ l=>(Cs l).bind fun kvs=>alloc σ (.dcti (kvs.foldl (fun m p=>Ay m p.1 p.2) []))
 | .chr=>none
noncomputable def Ar (c:Nat):List Nat→List (List Nat)
 | []=>[[]]
 |a::l=>match Nat.beq a c with
  |true=>[]::Ar c l
  |false=>match Ar c l with
   |w::ws=>(a::w)::ws
   | []=>[[a]]
noncomputable def Al (c:Nat):List Nat→Nat→Int
 | [],_=> -1
 |a::l,i=>match Nat.beq a c with
  |true=>(i:Int)
  |false=>Al c l (i+1)
noncomputable def inL (c:Nat) (l:List Nat):Bool:=l.any fun x=>Nat.beq x c
noncomputable def dropW (cs:List Nat):List Nat→List Nat
 | []=>[]
 |a::l=>match inL a cs with
  |true=>dropW cs l
  |false=>a::l
noncomputable def BS (cs l:List Nat):List Nat:=(dropW cs l.reverse).reverse
noncomputable def upC (c:Nat):Nat:=match Nat.ble 97 c&&Nat.ble c 122 with
 |true=>c - 32
 |false=>c
noncomputable def strsOf:List D→Option (List (List Nat))
 | []=>some []
 | .str s::l=>(strsOf l).map (s:: ·)
 |_=>none
noncomputable def Et (sep:List Nat):List (List Nat)→List Nat
 | []=>[]
 | [a]=>a
 |a::l=>a++sep++Et sep l
noncomputable def Nv (σ:AA) (r:D) (as:List D):R:=DQ r fun l=>as1 as fun a=>Md a fun c=>if l.length<100000 then alloc σ (.lst ((Ar c l).map .str)) else none
noncomputable def Qe (σ:AA) (r:D) (as:List D):R:=DQ r fun s=>as1 as fun a=>B5 σ a fun _ l=>(strsOf l).bind fun ls=>if l.length<1000∧s.length=0∧(ls.all fun x=>Nat.beq x.length 1)=true then Ab (.str (Et s ls)) σ else none
noncomputable def Nw (σ:AA) (r:D) (as:List D):R:=DQ r fun l=>as2 as fun a b=>Md a fun c=>Bl b fun i=>if inB 1000001 i=true then Ab (.int (Al c (l.drop i.toNat) i.toNat)) σ else none
noncomputable def Nx (σ:AA) (r:D) (as:List D):R:=DQ r fun l=>as3 as fun a b d=>Md a fun c=>Bl b fun i=>Bl d fun j=>if 0≤i∧i≤j∧j≤l.length then Ab (.int (Al c ((l.take j.toNat).drop i.toNat) i.toNat)) σ else none
noncomputable def Ny (σ:AA) (r:D) (as:List D):R:=DQ r fun l=>as1 as fun a=>DQ a fun cs=>if l.length<100000 then Ab (.str (BS cs (dropW cs l))) σ else none
noncomputable def LD (σ:AA) (r:D) (as:List D):R:=DQ r fun l=>as1 as fun a=>DQ a fun cs=>if l.length<100000 then Ab (.str (BS cs l)) σ else none
noncomputable def Nz (σ:AA) (r:D) (as:List D):R:=DQ r fun l=>as0 as (if (l.all fun c=>Nat.blt c 128)=true∧l.length<100000 then Ab (.str (l.map upC)) σ else none)
noncomputable def N0 (σ:AA) (r:D) (as:List D):R:=DQ r fun l=>as1 as fun a=>Md a fun c=>if inL c l=true then Ab (.int (Al c l 0)) σ else none
noncomputable def LE (σ:AA) (r:D) (as:List D):R:=B5 σ r fun n l=>as1 as fun d=>if l.length<100000 then Ab .none (AW σ n (.lst (l++[d]))) else none
noncomputable def LF (σ:AA) (r:D) (as:List D):R:=B5 σ r fun n l=>as1 as fun a=>B5 σ a fun k m=>if l.length+m.length<100000∧ ¬n=k then Ab .none (AW σ n (.lst (l++m))) else none
noncomputable def VD (σ:AA) (r:D) (as:List D):R:=B5 σ r fun n l=>as0 as (l.getLast?.bind fun d=>Ab d (AW σ n (.lst l.dropLast)))
noncomputable def VE (σ:AA) (r:D) (as:List D):R:=Dy σ r fun _ l=>as2 as fun a d=>Bl a fun k=>Ab ((Bv l k).getD d) σ
noncomputable def LG (σ:AA) (r:D) (as:List D):R:=Qd σ r fun n l=>as1 as fun a=>Qd σ a fun k m=>if l.length+m.length<1000∧ ¬n=k then Ab .none (AW σ n (.dcts (m.foldl (fun a p=>D7 a p.1 p.2) l))) else none
noncomputable def BN (σ:AA) (m:ME) (r:D) (as:List D):R:=match m with
 | .split=>Nv σ r as
 | .join=>Qe σ r as
 | .find2=>Nw σ r as
 | .find3=>Nx σ r as
 | .strip=>Ny σ r as
 | .rstrip=>LD σ r as
 | .upper=>Nz σ r as
 | .index=>N0 σ r as
 | .append=>LE σ r as
 | .extend=>LF σ r as
 | .pop=>VD σ r as
 | .get=>VE σ r as
 | .update=>LG σ r as
noncomputable def mK:ME→Nat
 | .append=>1
 | .extend=>1
 | .pop=>1
 | .get=>2
 | .update=>3
 |_=>0
noncomputable def cK:Option AI→Nat
 |some (.lst _)=>1
 |some (.dcti _)=>2
 |some (.dcts _)=>3
 |_=>4
noncomputable def dK (σ:AA):D→Nat
 | .str _=>0
 | .loc i=>cK σ[i]?
 |_=>4
noncomputable def LH (σ:AA) (m:ME) (x:D):Bool:=Nat.beq (mK m) (dK σ x)
noncomputable abbrev Call:=Nat→List D→AA→R
noncomputable def Aa (kind:Nat) (d:D) (σ:AA) (i:Nat):Option (Option D):=match kind with
 |0=>ckK d (fun _=>none) (fun l=>some (l[i]?.map fun c=>.str [c])) (B5 σ d fun _ l=>some l[i]?)
 |1=>Bl d fun n=>if n≤1000000∧ -1000000≤n then some (if (i:Int)<n then some (.int i) else none) else none
 |2=>B5 σ d fun _ l=>some (l[i]?.map fun x=>.tup [.int i,x])
 |_=>none
noncomputable def Av (tup:Bool) (tgt:List Nat) (d:D) (ρ:Loc):Option Loc:=match tup,tgt,d with
 |false,[i],d=>some (AW ρ i (some d))
 |true,is,.tup ds=>if is.length=ds.length then some ((is.zip ds).foldl (fun ρ p=>AW ρ p.1 (some p.2)) ρ) else none
 |_,_,_=>none
noncomputable def globals:Nat→Option D:=fun _=>none
noncomputable def unl (σ:AA):D→D
 | .loc n=>match σ[n]? with
  |some (.lst l)=>.tup l
  |_=>.loc n
 |d=>d
section
variable(call:Call)(G:Nat→Option D)
noncomputable def evL (ev:E→AA→R):List E→AA→Option (Except (List Nat) (List D)×AA)
 | [],σ=>some (.ok [],σ)
 |e::es,σ=>match ev e σ with
  |none=>none
  |some (.ex c,σ)=>some (.error c,σ)
  |some (.ok d,σ)=>match evL ev es σ with
   |none=>none
   |some (.error c,σ)=>some (.error c,σ)
   |some (.ok ds,σ)=>some (.ok (d::ds),σ)
noncomputable def evLb (ev:E→AA→R):List E→AA→(List D→AA→R)→R
 | [],σ,f=>f [] σ
 |e::es,σ,f=>bnd (ev e σ) fun d σ=>evLb ev es σ fun ds σ=>f (d::ds) σ
noncomputable def HV (ev:E→AA→R):D→List Cmp→List E→AA→R
 |a,[op],[e],σ=>bnd (ev e σ) fun b σ=>match BA σ op a b with
  |some r=>Ab (.bool r) σ
  |none=>none
 |a,op::ops,e::es,σ=>bnd (ev e σ) fun b σ=>match BA σ op a b with
  |some true=>HV ev b ops es σ
  |some false=>Ab (.bool false) σ
  |none=>none
 |_,_,_,_=>none
noncomputable def DR (ev:E→AA→R):List E→AA→R
 | [],_=>none
 | [e],σ=>bnd (ev e σ) fun d σ=>match d with
  | .bool b=>Ab (.bool b) σ
  |_=>none
 |e::es,σ=>bnd (ev e σ) fun d σ=>match d with
  | .bool true=>DR ev es σ
  | .bool false=>Ab (.bool false) σ
  |_=>none
noncomputable def FH (ev:E→AA→R):List E→AA→R
 | [],_=>none
 | [e],σ=>bnd (ev e σ) fun d σ=>match d with
  | .bool b=>Ab (.bool b) σ
  |_=>none
 |e::es,σ=>bnd (ev e σ) fun d σ=>match d with
  | .bool false=>FH ev es σ
  | .bool true=>Ab (.bool true) σ
  |_=>none
noncomputable def Bg (ev:E→AA→R):List E→AA→Option (Except (List Nat) Bool×AA)
 | [],σ=>some (.ok true,σ)
 |e::es,σ=>match ev e σ with
  |some (.ok (.bool true),σ)=>Bg ev es σ
  |some (.ok (.bool false),σ)=>some (.ok false,σ)
  |some (.ex c,σ)=>some (.error c,σ)
  |_=>none
theorem PO{ev:E→AA→R}{e:E}{es:List E}{σ:AA}:Bg ev (e::es) σ=match ev e σ with
  |some (.ok (.bool true),σ)=>Bg ev es σ
  |some (.ok (.bool false),σ)=>some (.ok false,σ)
  |some (.ex c,σ)=>some (.error c,σ)
  |_=>none:=rfl
noncomputable def A0 (ev:E→AA→R):List (E×E)→AA→Option (Except (List Nat) (List (D×D))×AA)
 | [],σ=>some (.ok [],σ)
 |(k,v)::es,σ=>match ev k σ with
  |none=>none
  |some (.ex c,σ)=>some (.error c,σ)
  |some (.ok dk,σ)=>match ev v σ with
   |none=>none
   |some (.ex c,σ)=>some (.error c,σ)
   |some (.ok dv,σ)=>match A0 ev es σ with
    |none=>none
    |some (.error c,σ)=>some (.error c,σ)
    |some (.ok ds,σ)=>some (.ok ((dk,dv)::ds),σ)
noncomputable def Fa:List (D×D)→Option (List (Int×D))
 | []=>some []
 |(.int k,d)::l=>(Fa l).map ((k,d):: ·)
 |_=>none
noncomputable def Gu:List (D×D)→Option (List (List Nat×D))
 | []=>some []
 |(.str k,d)::l=>(Gu l).map ((k,d):: ·)
 |_=>none
noncomputable def B6 (ev:E→Loc→AA→R) (elt:E) (tgt:List Nat) (tup:Bool) (kind:Nat) (src:D) (ifs:List E) (a:Nat):Nat→Nat→Loc→AA→Option AA
 |0,_,_,_=>none
 |f+1,i,ρ,σ=>match Aa kind src σ i with
  |none=>none
  |some none=>some σ
  |some (some d)=>match Av tup tgt d ρ with
   |none=>none
   |some ρ=>match Bg (fun e σ=>ev e ρ σ) ifs σ with
    |some (.ok false,σ)=>B6 ev elt tgt tup kind src ifs a f (i+1) ρ σ
    |some (.ok true,σ)=>match ev elt ρ σ with
     |some (.ok x,σ)=>match σ[a]? with
      |some (.lst acc)=>if acc.length<1000 then B6 ev elt tgt tup kind src ifs a f (i+1) ρ (AW σ a (.lst (acc++[x]))) else none
      |_=>none
     |_=>none
    |_=>none
theorem Hg{ev:E→Loc→AA→R}{elt:E}{tgt:List Nat}{tup:Bool}{kind:Nat}{src:D}{ifs:List E}{a f i:Nat}{ρ:Loc}{σ:AA}:B6 ev elt tgt tup kind src ifs a (f+1) i ρ σ=match Aa kind src σ i with
  |none=>none
  |some none=>some σ
  |some (some d)=>match Av tup tgt d ρ with
   |none=>none
   |some ρ=>match Bg (fun e σ=>ev e ρ σ) ifs σ with
    |some (.ok false,σ)=>B6 ev elt tgt tup kind src ifs a f (i+1) ρ σ
    |some (.ok true,σ)=>match ev elt ρ σ with
     |some (.ok x,σ)=>match σ[a]? with
      |some (.lst acc)=>if acc.length<1000 then B6 ev elt tgt tup kind src ifs a f (i+1) ρ (AW σ a (.lst (acc++[x]))) else none
      |_=>none
     |_=>none
    |_=>none:=rfl
noncomputable def EC:R→R
 |some (.ex c,σ)=>Ab (.str c) σ
 |r=>r
noncomputable def Dh:E→Bool
 | .loc _=>true
 | .cst (.int _)=>true
 |_=>false
noncomputable def ev:Nat→E→Loc→AA→R
 |0,_,_,_=>none
 |n+1,e,ρ,σ=>match e with
  | .cst d=>Ab d σ
  | .loc i=>match ρ[i]? with
   |some (some d)=>Ab d σ
   |_=>none
  | .glob g=>match G g with
   |some d=>Ab d σ
   |none=>none
  | .fn f=>Ab (.fn f) σ
  | .tup es=>evLb (fun e σ=>ev n e ρ σ) es σ fun ds σ=>Ab (.tup ds) σ
  | .lst es=>evLb (fun e σ=>ev n e ρ σ) es σ fun ds σ=>alloc σ (.lst ds)
  | .dcti kvs=>match A0 (fun e σ=>ev n e ρ σ) kvs (σ++[.dcti []]) with
   |none=>none
   |some (.error c,σ)=>some (.ex c,σ)
   |some (.ok ds,σ')=>match Fa ds,σ'[σ.length]? with
    |some l,some (.dcti [])=>some (.ok (.loc σ.length),AW σ' σ.length (.dcti (l.foldl (fun m p=>Ay m p.1 p.2) [])))
    |_,_=>none
  | .dcts kvs=>match A0 (fun e σ=>ev n e ρ σ) kvs (σ++[.dcts []]) with
   |none=>none
   |some (.error c,σ)=>some (.ex c,σ)
   |some (.ok ds,σ')=>match Gu ds,σ'[σ.length]? with
    |some l,some (.dcts [])=>some (.ok (.loc σ.length),AW σ' σ.length (.dcts (l.foldl (fun m p=>D7 m p.1 p.2) [])))
    |_,_=>none
  | .bin op a b=>bnd (ev n a ρ σ) fun x σ=>bnd (ev n b ρ σ) fun y σ=>Bw σ op x y
  | .cmp a ops bs=>bnd (ev n a ρ σ) fun x σ=>HV (fun e σ=>ev n e ρ σ) x ops bs σ
  | .and es=>DR (fun e σ=>ev n e ρ σ) es σ
  | .or es=>FH (fun e σ=>ev n e ρ σ) es σ
  | .not e=>bnd (ev n e ρ σ) fun d σ=>match d with
   | .bool b=>Ab (.bool !b) σ
   |_=>none
  | .neg e=>bnd (ev n e ρ σ) fun d σ=>match d with
   | .int i=>Ab (.int (-i)) σ
   |_=>none
  | .ite c a b=>bnd (ev n c ρ σ) fun d σ=>match d with
   | .bool true=>ev n a ρ σ
   | .bool false=>ev n b ρ σ
   |_=>none
  | .idx a i=>bnd (ev n a ρ σ) fun x σ=>bnd (ev n i ρ σ) fun y σ=>match EB σ x y with
   |some d=>Ab d σ
   |none=>none
  | .slc a lo hi=>bnd (ev n a ρ σ) fun x σ=>bnd (match lo with|some e=>ev n e ρ σ|none=>Ab .none σ) fun l σ=>bnd (match hi with|some e=>ev n e ρ σ|none=>Ab .none σ) fun h σ=>D0 σ x l h
  | .attr e k=>bnd (ev n e ρ σ) fun x σ=>match Me σ x k with
   |some d=>Ab d σ
   |none=>none
  | .call f as=>evLb (fun e σ=>ev n e ρ σ) as σ fun ds σ=>call f ds σ
  | .callv i as=>match ρ[i]? with
   |some (some (.fn f))=>evLb (fun e σ=>ev n e ρ σ) as σ fun ds σ=>call f ds σ
   |_=>none
  | .bi b as=>evLb (fun e σ=>ev n e ρ σ) as σ fun ds σ=>Dg σ b ds
  | .meth m r as=>bnd (ev n r ρ σ) fun x σ=>match LH σ m x with
   |true=>evLb (fun e σ=>ev n e ρ σ) as σ fun ds σ=>BN σ m x ds
   |false=>none
  | .new as=>evLb (fun e σ=>ev n e ρ σ) as σ fun ds σ=>match ds with
   | [k,w]=>some (.ok (.obj σ.length),σ++[.ins [k,w,.loc (σ.length+1),.loc (σ.length+2),.loc (σ.length+3)],.lst [],.lst [],.lst []])
   |_=>none
  | .comp elt tgt tup en iter ifs=>bnd (ev n iter ρ σ) fun src σ=>match Aa (if en then 2 else 0) src σ 0 with
   |none=>none
   |some _=>match B6 (ev n) elt tgt tup (if en then 2 else 0) src ifs σ.length 400 0 ρ (σ++[.lst []]) with
    |none=>none
    |some σ'=>Ab (.loc σ.length) σ'
  | .heard k j e=>match e with
   | .call f as=>match as.all Dh,σ[j]? with
    |true,some (.tab l)=>match l.any (Nat.beq k) with
     |true=>none
     |false=>match evL (fun e σ=>ev n e ρ σ) as σ with
      |some (.ok ds,_)=>EC (call (1000+f) ds (AW σ j (.tab (k::l))))
      |_=>none
    |_,_=>none
   |_=>none
  | .junk=>none
inductive So where
 |nxt
 |brk
 |ret (d:D)
 |ex (c:List Nat)
noncomputable abbrev SR:=Option (So×Loc×AA)
@[elab_as_elim] theorem R_e {C:R→Prop} (o:R) (h0:C none) (h1:∀d σ,C (some (.ok d,σ))) (h2:∀c σ,C (some (.ex c,σ))):C o:=by
 cases o with
 |none=>exact h0
 |some p=>obtain ⟨r,σ⟩:=p;cases r with
  |ok d=>exact h1 d σ
  |ex c=>exact h2 c σ
@[elab_as_elim] theorem J7 {α:Type} {C:Option (Except (List Nat) α×AA)→Prop} (o:Option (Except (List Nat) α×AA)) (h0:C none) (h1:∀d σ,C (some (.ok d,σ))) (h2:∀c σ,C (some (.error c,σ))):C o:=by
 cases o with
 |none=>exact h0
 |some p=>obtain ⟨r,σ⟩:=p;cases r with
  |ok d=>exact h1 d σ
  |error c=>exact h2 c σ
@[elab_as_elim] theorem TR {C:SR→Prop} (o:SR) (h0:C none) (h1:∀ρ σ,C (some (.nxt,ρ,σ))) (h2:∀ρ σ,C (some (.brk,ρ,σ))) (h3:∀d ρ σ,C (some (.ret d,ρ,σ))) (h4:∀c ρ σ,C (some (.ex c,ρ,σ))):C o:=by
 cases o with
 |none=>exact h0
 |some p=>obtain ⟨r,ρ,σ⟩:=p;cases r with
  |nxt=>exact h1 ρ σ
  |brk=>exact h2 ρ σ
  |ret d=>exact h3 d ρ σ
  |ex c=>exact h4 c ρ σ
noncomputable def sbnd (x:R) (ρ:Loc) (f:D→AA→SR):SR:=match x with
 |some (.ok d,σ)=>f d σ
 |some (.ex c,σ)=>some (.ex c,ρ,σ)
 |none=>none
noncomputable def whl (test:Loc→AA→R) (body:Loc→AA→SR):Nat→Loc→AA→SR
 |0,_,_=>none
 |f+1,ρ,σ=>sbnd (test ρ σ) ρ fun d σ=>match d with
  | .bool false=>some (.nxt,ρ,σ)
  | .bool true=>match body ρ σ with
   |some (.nxt,ρ,σ)=>whl test body f ρ σ
   |some (.brk,ρ,σ)=>some (.nxt,ρ,σ)
   |r=>r
  |_=>none
noncomputable def CQ (kind:Nat) (src:D) (tup:Bool) (tgt:List Nat) (body:Loc→AA→SR):Nat→Nat→Loc→AA→SR
 |0,_,_,_=>none
 |f+1,i,ρ,σ=>match Aa kind src σ i with
  |none=>none
  |some none=>some (.nxt,ρ,σ)
  |some (some d)=>match Av tup tgt d ρ with
   |none=>none
   |some ρ=>match body ρ σ with
    |some (.nxt,ρ,σ)=>CQ kind src tup tgt body f (i+1) ρ σ
    |some (.brk,ρ,σ)=>some (.nxt,ρ,σ)
    |r=>r
noncomputable def seq (x:SR) (f:Loc→AA→SR):SR:=match x with
 |some (.nxt,ρ,σ)=>f ρ σ
 |r=>r
noncomputable def Mf (σ:AA) (i v:D) (n:Nat) (c:AI):Option AA:=match c with
 | .lst l=>Bl i fun k=>if 0≤k∧k<l.length then some (AW σ n (.lst (AW l k.toNat v))) else none
 | .dcti l=>Bl i fun k=>if l.length<1000 then some (AW σ n (.dcti (Ay l k v))) else none
 |_=>none
noncomputable def setItem (σ:AA) (o i v:D):Option AA:=Gq σ o fun n c=>Mf σ i v n c
noncomputable def TU (r:Option (Except (List Nat) (List D)×AA)):Option (List Nat×AA):=match r with
 |some (.ok ds,σ)=>as2 ds fun a _=>DQ a fun c=>some (c,σ)
 |some (.error c,σ)=>some (c,σ)
 |none=>none
noncomputable def exL (o:Option (List Nat×AA)) (ρ:Loc):SR:=match o with
 |some (c,σ)=>some (.ex c,ρ,σ)
 |none=>none
noncomputable def exs:Nat→List St→Loc→AA→SR
 |0,_,_,_=>none
 |_+1,[],ρ,σ=>some (.nxt,ρ,σ)
 |n+1,s::rest,ρ,σ=>seq (match s with
  | .asg i e=>sbnd (ev call G n e ρ σ) ρ fun d σ=>some (.nxt,AW ρ i (some d),σ)
  | .asgT is e=>sbnd (ev call G n e ρ σ) ρ fun d σ=>match Av true is (unl σ d) ρ with
   |some ρ=>some (.nxt,ρ,σ)
   |none=>none
  | .asgI o i e=>sbnd (ev call G n e ρ σ) ρ fun v σ=>sbnd (ev call G n o ρ σ) ρ fun x σ=>sbnd (ev call G n i ρ σ) ρ fun k σ=>match setItem σ x k v with
   |some σ=>some (.nxt,ρ,σ)
   |none=>none
  | .aug i op e=>match ρ[i]? with
   |some (some (.int x))=>sbnd (ev call G n e ρ σ) ρ fun y σ=>match y with
    | .int _=>sbnd (Bw σ op (.int x) y) ρ fun d σ=>some (.nxt,AW ρ i (some d),σ)
    |_=>none
   |_=>none
  | .ite c a b=>sbnd (ev call G n c ρ σ) ρ fun d σ=>match d with
   | .bool true=>exs n a ρ σ
   | .bool false=>exs n b ρ σ
   |_=>none
  | .whl c b=>whl (ev call G n c) (exs n b) 400 ρ σ
  | .for kind tgt tup iter b=>sbnd (ev call G n iter ρ σ) ρ fun src σ=>CQ kind src tup tgt (exs n b) 400 0 ρ σ
  | .ret e=>sbnd (ev call G n e ρ σ) ρ fun d σ=>some (.ret d,ρ,σ)
  | .rse as=>exL (TU (evL (fun e σ=>ev call G n e ρ σ) as σ)) ρ
  | .exp e=>sbnd (ev call G n e ρ σ) ρ fun _ σ=>some (.nxt,ρ,σ)
  | .brk=>some (.brk,ρ,σ)
  | .junk=>none) fun ρ σ=>exs n rest ρ σ
end
noncomputable abbrev Spec:=Nat→Nat→List D→AA→R
structure Def where
 np:Nat
 nl:Nat
 body:List St
noncomputable def Hh (S:Spec) (G:Nat→Option D) (B:Nat→Option Def) (d:Nat) (c0 c1:Call):Call:=fun f as σ=>match Nat.ble 1000 f with
 |true=>c0 (f - 1000) as σ
 |false=>match S (d+1) f as σ with
  |some r=>some r
  |none=>match B f with
   |none=>none
   |some b=>if as.length=b.np then match exs c1 G 60 b.body (as.map some++bO (b.nl - b.np) none) σ with
    |some (.ret r,_,σ)=>some (.ok r,σ)
    |some (.nxt,_,σ)=>some (.ok .none,σ)
    |some (.ex c,_,σ)=>some (.ex c,σ)
    |_=>none
    else none
noncomputable def evF (S:Spec) (G:Nat→Option D) (B:Nat→Option Def):Nat→Call
 |0=>fun _ _ _=>none
 |1=>fun _ _ _=>none
 |d+2=>Hh S G B d (evF S G B d) (evF S G B (d+1))
theorem LI{S:Spec}{G:Nat→Option D}{B:Nat→Option Def}{d f:Nat}{as:List D}{σ:AA}:evF S G B (d+2) f as σ=Hh S G B d (evF S G B d) (evF S G B (d+1)) f as σ:=rfl
end Mine
end
section
namespace Mine
open PySem PySem.Calls PyProof.Rows PySem.Spec
structure PI where
 prog:dP
 w:dN
 hb:Heap
 mg:Str→Option dF
 mb:Str→Option dF
 fn:Nat→Option Addr
 lv:Addr
 ec:Addr
 mu:List Addr
 cdOf:List Str→Option (Addr×Addr×Nat)
 hp:Nat→Nat×Nat
section
variable(P:PI)
noncomputable abbrev txt (l:List Nat):Str:=⟨l.toArray⟩
abbrev BX (l:List Nat):Prop:=(∀c∈l,c<128)∧l.length≤1000000
mutual
inductive AH (μ:List Addr) (h:Heap):dF→D→Prop
 |none:AH μ h .none .none
 |bool (b:Bool):AH μ h (.bool b) (.bool b)
 |int (i:Int) (t:Tok):AH μ h (.int i t) (.int i)
 |str (l:List Nat) (t:Tok):BX l→AH μ h (.str (txt l) t) (.str l)
 |dig (n:Nat) (t:Tok):n<65530→AH μ h (.str (txt (AB n)) t) (.dig n)
 |tup {a:Addr} {o:Obj} {vs:List dF} {k:Nat} {ds:List D}:h.get? a=some o→o.cls=.type "tuple"→o.data=.seq vs.toArray k→a∉μ→vs.length≤1000000→AE μ h vs ds→AH μ h (.ref a) (.tup ds)
 |loc {a:Addr} {i:Nat}:μ[i]? =some a→AH μ h (.ref a) (.loc i)
 |fn {a:Addr} {k:Nat}:P.fn k=some a→AH μ h (.ref a) (.fn k)
 |fl {a:Addr} {vs:List dF} {ds:List D}:P.hb.IsList a vs.toArray→vs.length≤1000000→AE μ h vs ds→AH μ h (.ref a) (.fl ds)
 |fk {a:Addr} {kvs:List (Str×dF)} {ks:List (List Nat)}:P.hb.DictOf (PySem.strKind P.prog P.w) a kvs→kvs.map (·.1)=ks.map txt→a≠dY→AH μ h (.ref a) (.fk ks)
 |obj {a dx:Addr} {n:Nat}:h.get? a=some (PySem.W.instObj P.lv dx)→a∉μ→μ[n]? =some dx→AH μ h (.ref a) (.obj n)
inductive AE (μ:List Addr) (h:Heap):List dF→List D→Prop
 |nil:AE μ h [] []
 |cons {v:dF} {d:D} {vs:List dF} {ds:List D}:AH μ h v d→AE μ h vs ds→AE μ h (v::vs) (d::ds)
end
noncomputable def AQ (μ:List Addr) (h:Heap) (a:Addr):AI→Prop
 | .lst l=> ∃(vs:List dF) (n:Nat),h.get? a=some (PySem.W.listOf vs.toArray n)∧vs.length≤1000000∧AE P μ h vs l
 | .dcti l=> ∃kvs:List (Int×dF),h.DictOf (intKind P.prog P.w) a kvs∧kvs.map (·.1)=l.map (·.1)∧l.length≤1000000∧AE P μ h (kvs.map (·.2)) (l.map (·.2))
 | .dcts l=> ∃kvs:List (Str×dF),h.DictOf (PySem.strKind P.prog P.w) a kvs∧kvs.map (·.1)=l.map (fun p=>txt p.1)∧l.length≤1000000∧AE P μ h (kvs.map (·.2)) (l.map (·.2))
 | .ins l=> ∃(m:Str→Option dF) (vs:List dF),h.Ns1 a m∧(∃o,h.get? a=some o∧o.cls=.type "dict")∧m "kind"=vs[0]? ∧m "word"=vs[1]? ∧m "args"=vs[2]? ∧m "operands"=vs[3]? ∧m "operators"=vs[4]? ∧AE P μ h vs l
 | .tab l=> ∃ps:Array dF,h.get? a=some (PySem.W.tabObj ps)∧TriplesOk ps.toList∧∀pos:Pos,codeAmong pos ps.toList≠none→∃k∈l,P.hp k=(pos.line,pos.col)
section
variable{P:PI}{μ:List Addr}{h:Heap}{a:Addr}{R:Prop}
theorem AQ.lst_e{l:List D}(H:AQ P μ h a (.lst l))(k:∀(vs:List dF) (n:Nat),h.get? a=some (PySem.W.listOf vs.toArray n)→vs.length≤1000000→AE P μ h vs l→R):R:=
 aW H fun vs H=>aW H fun n H=>k vs n H.1 H.2.1 H.2.2
theorem AQ.dcti_e{l:List (Int×D)}(H:AQ P μ h a (.dcti l))(k:∀kvs:List (Int×dF),h.DictOf (intKind P.prog P.w) a kvs→kvs.map (·.1)=l.map (·.1)→l.length≤1000000→AE P μ h (kvs.map (·.2)) (l.map (·.2))→R):R:=
 aW H fun vs H=>k vs H.1 H.2.1 H.2.2.1 H.2.2.2
theorem AQ.dcts_e{l:List (List Nat×D)}(H:AQ P μ h a (.dcts l))(k:∀kvs:List (Str×dF),h.DictOf (PySem.strKind P.prog P.w) a kvs→kvs.map (·.1)=l.map (fun p=>txt p.1)→l.length≤1000000→AE P μ h (kvs.map (·.2)) (l.map (·.2))→R):R:=
 aW H fun vs H=>k vs H.1 H.2.1 H.2.2.1 H.2.2.2
theorem DictOf.at_{K:Type}[DecidableEq K]{knd:KeyKind P.prog P.w K}{kvs:List (K×dF)}(H:h.DictOf knd a kvs)(k:∀o,h.get? a=some o→o.cls=.type "dict"→o.dict=none→(∃es ep,o.data=.dict es ep)→R):R:=
 aW H fun o H=>aW H fun es H=>aW H fun ep H=>k o H.1 H.2.1.1 H.2.1.2.1 ⟨es,ep,H.2.2.1⟩
end
structure Sto (μ:List Addr) (σ:AA) (h:Heap):Prop where
 sys:∃o,P.hb.get? dY=some o
 base:∀b o,P.hb.get? b=some o→h.get? b=some o
 fresh:∀a∈μ,P.hb.get? a=none∧a≠dY
 nodup:μ.Nodup
 len:μ.length=σ.length
 pre:P.mu <+: μ
 cell:∀(i:Nat) (a:Addr) (c:AI),μ[i]? =some a→σ[i]? =some c→AQ P μ h a c
structure Ext (μ ν:List Addr) (h h':Heap):Prop where
 keep:∀a o,h.get? a=some o→a∉μ→∃sl,h'.get? a=some {o with slots:=sl}∧((∀es ep,o.data≠ .dict es ep)→sl=o.slots)
 live:∀a o,h.get? a=some o→∃o',h'.get? a=some o'∧o'.cls=o.cls
 new:∀a∈ν,h.get? a=none
section
variable{P:PI}{μ ν ν':List Addr}{h h' h'':Heap}{σ:AA}
noncomputable def VK (P:PI) (μ:List Addr) (h:Heap) (C:dF→Prop) (v:dF):D→Prop
 | .none=>C .none→C v
 | .bool b=>C (.bool b)→C v
 | .int i=>(∀t,C (.int i t))→C v
 | .str l=>(∀t,BX l→C (.str (txt l) t))→C v
 | .dig n=>(∀t,n<65530→C (.str (txt (AB n)) t))→C v
 | .tup ds=>(∀(a:Addr) (o:Obj) (vs:List dF) (j:Nat),h.get? a=some o→o.cls=.type "tuple"→o.data=.seq vs.toArray j→a∉μ→vs.length≤1000000→AE P μ h vs ds→C (.ref a))→C v
 | .loc i=>(∀a,μ[i]? =some a→C (.ref a))→C v
 | .fn i=>(∀a,P.fn i=some a→C (.ref a))→C v
 | .fl ds=>(∀(a:Addr) (vs:List dF),P.hb.IsList a vs.toArray→vs.length≤1000000→AE P μ h vs ds→C (.ref a))→C v
 | .fk ks=>(∀(a:Addr) (kvs:List (Str×dF)),P.hb.DictOf (PySem.strKind P.prog P.w) a kvs→kvs.map (·.1)=ks.map txt→a≠dY→C (.ref a))→C v
 | .obj n=>(∀a dx,h.get? a=some (PySem.W.instObj P.lv dx)→a∉μ→μ[n]? =some dx→C (.ref a))→C v
theorem AH.elim{v:dF}{d:D}(C:dF→Prop)(H:AH P μ h v d):VK P μ h C v d:=by
 cases H with
 |none=>exact fun k=>k
 |bool b=>exact fun k=>k
 |int i t=>exact fun k=>k t
 |str l t ok=>exact fun k=>k t ok
 |dig n t ok=>exact fun k=>k t ok
 |tup h1 h2 h3 h4 h5 h6=>exact fun k=>k _ _ _ _ h1 h2 h3 h4 h5 h6
 |loc e=>exact fun k=>k _ e
 |fn e=>exact fun k=>k _ e
 |fl h1 h2 h3=>exact fun k=>k _ _ h1 h2 h3
 |fk h1 h2 h3=>exact fun k=>k _ _ h1 h2 h3
 |obj h1 h2 h3=>exact fun k=>k _ _ h1 h2 h3
theorem AH.str_inv{v:dF}{l:List Nat}(H:AH P μ h v (.str l)):∃t,v=.str (txt l) t∧BX l:=H.elim (fun v=> ∃t,v=.str (txt l) t∧BX l) fun t ok=>⟨t,rfl,ok⟩
theorem AH.int_inv{v:dF}{i:Int}(H:AH P μ h v (.int i)):∃t,v=.int i t:=H.elim (fun v=> ∃t,v=.int i t) fun t=>⟨t,rfl⟩
theorem AH.none_e{C:dF→Prop}{v:dF}(H:AH P μ h v .none)(k:C .none):C v:=H.elim C k
theorem AH.bool_e{C:dF→Prop}{v:dF}{b:Bool}(H:AH P μ h v (.bool b))(k:C (.bool b)):C v:=H.elim C k
theorem AH.int_e{C:dF→Prop}{v:dF}{i:Int}(H:AH P μ h v (.int i))(k:∀t,C (.int i t)):C v:=H.elim C k
theorem AH.str_e{C:dF→Prop}{v:dF}{l:List Nat}(H:AH P μ h v (.str l))(k:∀t,BX l→C (.str (txt l) t)):C v:=H.elim C k
theorem AH.tup_e{C:dF→Prop}{v:dF}{ds:List D}(H:AH P μ h v (.tup ds))(k:∀(a:Addr) (o:Obj) (vs:List dF) (j:Nat),h.get? a=some o→o.cls=.type "tuple"→o.data=.seq vs.toArray j→a∉μ→vs.length≤1000000→AE P μ h vs ds→C (.ref a)):C v:=H.elim C k
theorem AH.loc_e{C:dF→Prop}{v:dF}{i:Nat}(H:AH P μ h v (.loc i))(k:∀a,μ[i]? =some a→C (.ref a)):C v:=H.elim C k
theorem AH.fn_e{C:dF→Prop}{v:dF}{i:Nat}(H:AH P μ h v (.fn i))(k:∀a,P.fn i=some a→C (.ref a)):C v:=H.elim C k
theorem AH.fl_e{C:dF→Prop}{v:dF}{ds:List D}(H:AH P μ h v (.fl ds))(k:∀(a:Addr) (vs:List dF),P.hb.IsList a vs.toArray→vs.length≤1000000→AE P μ h vs ds→C (.ref a)):C v:=H.elim C k
theorem AH.fk_e{C:dF→Prop}{v:dF}{ks:List (List Nat)}(H:AH P μ h v (.fk ks))(k:∀(a:Addr) (kvs:List (Str×dF)),P.hb.DictOf (PySem.strKind P.prog P.w) a kvs→kvs.map (·.1)=ks.map txt→a≠dY→C (.ref a)):C v:=H.elim C k
theorem AH.obj_e{C:dF→Prop}{v:dF}{n:Nat}(H:AH P μ h v (.obj n))(k:∀a dx,h.get? a=some (PySem.W.instObj P.lv dx)→a∉μ→μ[n]? =some dx→C (.ref a)):C v:=H.elim C k
noncomputable def VsK (P:PI) (μ:List Addr) (h:Heap) (C:List dF→Prop) (vs:List dF):List D→Prop
 | []=>C []→C vs
 |d::ds=>(∀v ws,AH P μ h v d→AE P μ h ws ds→C (v::ws))→C vs
theorem AE.elim{vs:List dF}{ds:List D}(C:List dF→Prop)(H:AE P μ h vs ds):VsK P μ h C vs ds:=by
 cases H with
 |nil=>exact fun k=>k
 |cons a b=>exact fun k=>k _ _ a b
theorem AE.cons_inv{vs:List dF}{d:D}{ds:List D}(H:AE P μ h vs (d::ds)):∃v ws,vs=v::ws∧AH P μ h v d∧AE P μ h ws ds:=H.elim (fun vs=> ∃v ws,vs=v::ws∧AH P μ h v d∧AE P μ h ws ds) fun v ws a b=>⟨v,ws,rfl,a,b⟩
theorem AE.nil_inv{vs:List dF}(H:AE P μ h vs []):vs=[]:=H.elim (fun vs=>vs=[]) rfl
theorem AE.nil_e{C:List dF→Prop}{vs:List dF}(H:AE P μ h vs [])(k:C []):C vs:=H.elim C k
theorem AE.cons_e{C:List dF→Prop}{vs:List dF}{d:D}{ds:List D}(H:AE P μ h vs (d::ds))(k:∀v ws,AH P μ h v d→AE P μ h ws ds→C (v::ws)):C vs:=H.elim C k
theorem AE.e1{C:List dF→Prop}{vs:List dF}{d:D}(H:AE P μ h vs [d])(k:∀v,AH P μ h v d→C [v]):C vs:=H.cons_e fun v _ a b=>b.nil_e (C:=fun w=>C (v::w)) (k v a)
theorem AE.e2{C:List dF→Prop}{vs:List dF}{d d2:D}(H:AE P μ h vs [d,d2])(k:∀v v2,AH P μ h v d→AH P μ h v2 d2→C [v,v2]):C vs:=H.cons_e fun v _ a b=>b.e1 (C:=fun w=>C (v::w)) fun v2 c=>k v v2 a c
theorem AE.e3{C:List dF→Prop}{vs:List dF}{d d2 d3:D}(H:AE P μ h vs [d,d2,d3])(k:∀v v2 v3,AH P μ h v d→AH P μ h v2 d2→AH P μ h v3 d3→C [v,v2,v3]):C vs:=H.cons_e fun v _ a b=>b.e2 (C:=fun w=>C (v::w)) fun v2 v3 c e=>k v v2 v3 a c e
theorem Ext.refl(μ:List Addr)(h:Heap):Ext μ [] h h:=⟨fun _ o e _=>⟨o.slots,e,fun _=>rfl⟩,fun _ o e=>⟨o,e,rfl⟩,fun _ q=>nomatch q⟩
theorem Ext.exact(x:Ext μ ν h h'){a:Addr}{o:Obj}(e:h.get? a=some o)(n:a∉μ)(c:∀es ep,o.data≠ .dict es ep):h'.get? a=some o:=by
 refine aW (x.keep a o e n) fun sl sl_q=> ?_;haveI e':=sl_q.1;haveI q:=sl_q.2
 rw[q c]at e';exact e'
theorem Ext.notin(x:Ext μ ν h h'){a:Addr}{o:Obj}(e:h.get? a=some o)(n:a∉μ):a∉μ++ν:=fun q=>
 (bV.mp q).elim n fun q=>by rw[x.new a q]at e;exact xns e
theorem Ext.fresh(x:Ext μ ν h h')(X:Addr)(e:h'.get? X=none):h.get? X=none:=by
 cases q:h.get? X with
 |none=>rfl
 |some o=>refine aW (x.live X o q) fun o' o'_q=> ?_;haveI e':=o'_q.1;rw[e']at e;contradiction
theorem Ext.trans(x:Ext μ ν h h')(y:Ext (μ++ν) ν' h' h''):Ext μ (ν++ν') h h'':=by
 refine ⟨fun a o e n=> ?_,fun a o e=> ?_,fun a q=>(bV.mp q).elim (x.new a) fun q=> ?_⟩
 ·refine aW (x.keep a o e n) fun sl sl_q=> ?_;haveI e':=sl_q.1;haveI q:=sl_q.2
  refine aW (y.keep a _ e' (x.notin e n)) fun sl' sl'_q=> ?_;haveI e'':=sl'_q.1;haveI q':=sl'_q.2
  exact ⟨sl',e'',fun c=>(q' c).trans (q c)⟩
 ·refine aW (x.live a o e) fun o' o'_q=> ?_;have e':=o'_q.1;haveI c':=o'_q.2
  refine aW (y.live a o' e') fun o'' o''_q=> ?_;haveI e'':=o''_q.1;haveI c'':=o''_q.2
  exact ⟨o'',e'',c''.trans c'⟩
 ·cases e:h.get? a with
  |none=>rfl
  |some o=>
   refine aW (x.live a o e) fun o' o'_q=> ?_;have e':=o'_q.1;rw[y.new a q]at e';cases e'
def AN (h h':Heap):Prop:= ∀b o,h.get? b=some o→h'.get? b=some o
theorem AN.refl(h:Heap):AN h h:=fun _ _ e=>e
theorem AN.trans(x:AN h h')(y:AN h' h''):AN h h'':=fun b o e=>y b o (x b o e)
theorem AN.push(h:Heap)(o:Obj):AN h (h.push o):=fun _ _ e=>Heap.get?_push_of_some o e
theorem AN.ext(x:AN h h')(n:∀a∈ν,h.get? a=none):Ext μ ν h h':=⟨fun a o e _=>⟨o.slots,x a o e,fun _=>rfl⟩,fun a o e=>⟨o,x a o e,rfl⟩,n⟩
theorem Ext.ns(x:Ext μ ν h h'){a:Addr}{m:Str→Option dF}(n:a∉μ)(H:h.Ns a m):h'.Ns a m:=by
 obtain ⟨o,es,ep,ho,hr⟩:=H;obtain ⟨sl,e,_⟩:=x.keep a o ho n;exact ⟨_,es,ep,e,hr⟩
theorem Ext.notinNs(x:Ext μ ν h h'){c:Addr}{m:Str→Option dF}(n:c∉μ)(H:h.Ns c m):c∉μ++ν:=aW H fun _ w=>aW w fun _ w=>aW w fun _ w=>x.notin w.1 n
structure Mv (μ:List Addr) (h:Heap) (μ':List Addr) (h':Heap):Prop where
 obj:∀a o,h.get? a=some o→a∉μ→((∃vs k,o.data=.seq vs k)∨o.data=.plain)→h'.get? a=some o∧a∉μ'
 at_:∀(i:Nat) (a:Addr),μ[i]? =some a→μ'[i]? =some a
theorem AH.map{μ':List Addr}(x:Mv μ h μ' h'){v:dF}{d:D}(H:AH P μ h v d):AH P μ' h' v d:=
 AH.rec (motive_1:=fun v d _=>AH P μ' h' v d) (motive_2:=fun vs ds _=>AE P μ' h' vs ds) .none .bool .int .str .dig
  (fun e c dt n q _ r=>.tup (x.obj _ _ e n (.inl ⟨_,_,dt⟩)).1 c dt (x.obj _ _ e n (.inl ⟨_,_,dt⟩)).2 q r) (fun e=>.loc (x.at_ _ _ e)) .fn (fun e b _ r=>.fl e b r) .fk
  (fun e n q=>.obj (x.obj _ _ e n (.inr rfl)).1 (x.obj _ _ e n (.inr rfl)).2 (x.at_ _ _ q)) .nil (fun _ _ a b=>.cons a b) H
theorem AE.map{μ':List Addr}(x:Mv μ h μ' h'){vs:List dF}{ds:List D}(H:AE P μ h vs ds):AE P μ' h' vs ds:=by
 induction vs generalizing ds with
 |nil=>cases ds with
  |nil=>exact .nil
  |cons=>refine aW H.cons_inv fun _ __q=> ?_;refine aW __q fun _ __q=> ?_;have e:=__q.1;cases e
 |cons v vs ih=>cases ds with
  |nil=>cases H.nil_inv
  |cons=>exact H.elim (fun ws=>(∀{ds:List D},AE P μ h ws.tail ds→AE P μ' h' ws.tail ds)→AE P μ' h' ws _) (fun _ _ a b ih=>.cons (a.map x) (ih b)) ih
theorem Ext.mv(x:Ext μ ν h h'):Mv μ h (μ++ν) h':=
 ⟨fun _ _ e n q=>⟨x.exact e n (by rcases q with ⟨_,_,q⟩|q<;>(refine q▸ ?_;intro _ _ z;contradiction)),x.notin e n⟩,fun _ _ e=>by rw[bS (ap.mp e).1];exact e⟩
theorem AH.mono(x:Ext μ ν h h'){v:dF}{d:D}(H:AH P μ h v d):AH P (μ++ν) h' v d:=H.map x.mv
theorem AE.mono(x:Ext μ ν h h'){vs:List dF}{ds:List D}(H:AE P μ h vs ds):AE P (μ++ν) h' vs ds:=H.map x.mv
theorem AQ.map{μ':List Addr}{a:Addr}{c:AI}(x:Mv μ h μ' h')(e:∀o,h.get? a=some o→h'.get? a=some o)(H:AQ P μ h a c):AQ P μ' h' a c:=by
 have d:∀{K:Type} [DecidableEq K] {knd:KeyKind P.prog P.w K} {kvs},h.DictOf knd a kvs→h'.DictOf knd a kvs:=fun w=>w.imp fun o w=>w.imp fun es w=>w.imp fun ep w=>⟨e _ w.1,w.2⟩;cases c with
 |lst l=>exact AQ.lst_e H fun vs n ho hb hv=>⟨vs,n,e _ ho,hb,hv.map x⟩
 |dcti l=>exact AQ.dcti_e H fun kvs hd hk hb hv=>⟨kvs,d hd,hk,hb,hv.map x⟩
 |dcts l=>exact AQ.dcts_e H fun kvs hd hk hb hv=>⟨kvs,d hd,hk,hb,hv.map x⟩
 |ins l=>exact aW H fun m H=>aW H fun vs H=>⟨m,vs,H.1.at e,H.2.1.imp fun o q=>⟨e o q.1,q.2⟩,H.2.2.1,H.2.2.2.1,H.2.2.2.2.1,H.2.2.2.2.2.1,H.2.2.2.2.2.2.1,H.2.2.2.2.2.2.2.map x⟩
 |tab l=>exact Exists.imp (fun ps q=>⟨e _ q.1,q.2⟩) H
theorem AQ.mono{a:Addr}{c:AI}(x:Ext μ ν h h')(e:∀o,h.get? a=some o→h'.get? a=some o)(H:AQ P μ h a c):AQ P (μ++ν) h' a c:=H.map x.mv e
noncomputable def AI.kd:AI→dF
 | .lst _=>.type "list"
 | .tab _=>.none
 |_=>.type "dict"
theorem AQ.cls{a:Addr}{c:AI}(H:AQ P μ h a c):∃o,h.get? a=some o∧o.cls=c.kd:=by
 cases c with
 |lst l=>exact AQ.lst_e H fun vs n ho _ _=>⟨_,ho,rfl⟩
 |dcti l=>exact AQ.dcti_e H fun kvs hd _ _ _=>DictOf.at_ hd fun o ho hc _ _=>⟨o,ho,hc⟩
 |dcts l=>exact AQ.dcts_e H fun kvs hd _ _ _=>DictOf.at_ hd fun o ho hc _ _=>⟨o,ho,hc⟩
 |ins l=>exact aW H fun m H=>aW H fun vs H=>H.2.1
 |tab l=>exact aW H fun ps H=>⟨_,H.1,rfl⟩
theorem AQ.there{a:Addr}{c:AI}(H:AQ P μ h a c):∃o,h.get? a=some o∧True:=let ⟨o,e,_⟩:=H.cls;⟨o,e,trivial⟩
theorem Sto.live(S:Sto P μ σ h){a:Addr}(m:a∈μ):∃o,h.get? a=some o:=by
 refine aW (List.getElem_of_mem m) fun i i_q=> ?_;haveI hi:=i_q.1;haveI e:=i_q.2
 have hi':i<σ.length:=by rw[←S.len];exact hi
 obtain ⟨o,ho,_⟩:=(S.cell i a σ[i] (by simp only[bk hi,e]) (bk hi')).cls
 exact ⟨o,ho⟩
theorem Sto.off(S:Sto P μ σ h){a:Addr}(e:h.get? a=none):a∉μ∧P.hb.get? a=none:=by
 refine ⟨fun q=> ?_,?_⟩
 ·refine aW (S.live q) fun o ho=> ?_;rw[e]at ho;exact xns ho
 ·cases q:P.hb.get? a with
  |none=>rfl
  |some o=>rw[S.base a o q]at e;contradiction
theorem Sto.lookup(S:Sto P μ σ h){i:Nat}{c:AI}(e:σ[i]? =some c):∃a,μ[i]? =some a∧AQ P μ h a c:=by
 haveI hi:i<μ.length:=by simp only[S.len];exact (ap.mp e).1
 exact ⟨μ[i],bk hi,S.cell i _ c (bk hi) e⟩
theorem Sto.keeps(S:Sto P μ σ h)(k:AN h h'):Sto P μ σ h':=by
 refine ⟨S.sys,fun b o e=>k b o (S.base b o e),S.fresh,S.nodup,S.len,S.pre,fun i a c hi hc=> ?_⟩;haveI z:=AQ.mono (ν:=[]) (k.ext (fun _ q=>nomatch q)) (k a) (S.cell i a c hi hc);rwa[af]at z
theorem Sto.alloc(S:Sto P μ σ h)(k:AN h h'){a:Addr}{c:AI}(ha:h.get? a=none)(hm:a≠dY)(hc:AQ P (μ++[a]) h' a c):Sto P (μ++[a]) (σ++[c]) h'∧Ext μ [a] h h':=by
 have x:Ext μ [a] h h':=k.ext fun b q=>by rw[bA.mp q];exact ha
 haveI hn:=(S.off ha).1;haveI hb:=(S.off ha).2
 refine ⟨⟨S.sys,fun b o e=>k b o (S.base b o e),fun b q=> ?_,?_,by simp[S.len],S.pre.trans (List.prefix_append _ _),fun i b d hi hd=> ?_⟩,x⟩
 ·rcases bV.mp q with q|q
  ·exact S.fresh b q
  ·rw[bA.mp q];exact ⟨hb,hm⟩
 ·exact cB.mpr ⟨S.nodup,by simp,fun b hb' c' hc'=>by simp only[bA.mp hc'];intro q;exact hn (q▸hb')⟩
 ·by_cases hlt:i<μ.length
  ·rw[bS hlt]at hi;rw[bS (by rw[←S.len];exact hlt)]at hd
   exact AQ.mono x (k b) (S.cell i b d hi hd)
  ·haveI hge:μ.length≤i:=bH.mp hlt;rw[bZ hge]at hi;rw[bZ (by rw[←S.len];exact hge)]at hd
   haveI:i - μ.length=0:=by
    cases hq:i - μ.length with
    |zero=>rfl
    |succ n=>rw[hq]at hi;simp at hi
   rw[this]at hi;haveI e2:i - σ.length=0:=by rw[←S.len];exact this
   rw[e2]at hd;simp at hi hd;subst hi hd;exact hc
theorem Ct{α:Type}(l:List α):∀(i:Nat) (x:α),(AW l i x).length=l.length:=by
 induction l with
 |nil=>intro i x;rfl
 |cons a l ih=>intro i x;cases i with
  |zero=>rfl
  |succ i=>simp[AW,ih]
theorem Bx{α:Type}(l:List α):∀(i j:Nat) (x:α),(AW l i x)[j]? =if j=i∧i<l.length then some x else l[j]? :=by
 induction l with
 |nil=>intro i j x;simp[AW]
 |cons a l ih=>
  intro i j x;cases i with
  |zero=>cases j with
   |zero=>simp[AW]
   |succ j=>simp[AW]
  |succ i=>cases j with
   |zero=>simp[AW]
   |succ j=>simp[AW,ih]
theorem Sto.put(S:Sto P μ σ h){i:Nat}{a:Addr}{c c':AI}(hi:μ[i]? =some a)(hc0:σ[i]? =some c)(hkd:c.kd=c'.kd)(hs:Heap.SameBut a h h')(hc:AQ P μ h' a c'):Sto P μ (AW σ i c') h'∧Ext μ [] h h':=by
 have ham:a∈μ:=bB hi;obtain ⟨o0,ho0,hk0⟩:=(S.cell i a c hi hc0).cls;obtain ⟨o1,ho1,hk1⟩:=hc.cls;have x:Ext μ [] h h':=⟨fun b o e n=>⟨o.slots,(hs.2 b fun q=>n (q▸ham)).trans e,fun _=>rfl⟩,fun b o e=>by
  by_cases q:b=a
  ·rw[q]at e ⊢; rw[ho0]at e;(injection e with e;subst e);exact ⟨o1,ho1,hk1.trans (hkd.symm.trans hk0.symm)⟩
  ·exact ⟨o,(hs.2 b q).trans e,rfl⟩,fun _ q=>nomatch q⟩
 refine ⟨⟨S.sys,fun b o e=> ?_,S.fresh,S.nodup,by simp only[Ct];exact S.len,S.pre,fun j b d hj hd=> ?_⟩,x⟩
 ·by_cases q:b=a
  ·rw[q,(S.fresh a ham).1]at e;exact xns e
  ·exact (hs.2 b q).trans (S.base b o e)
 ·rw[Bx]at hd;by_cases q:j=i∧i<σ.length
  ·rw[if_pos q]at hd;obtain ⟨rfl,_⟩:=q;rw[hi]at hj;(injection hj with hj;subst hj);(injection hd with hd;subst hd);exact hc
  ·rw[if_neg q]at hd;haveI hne:b≠a:=by
    rintro rfl
    obtain ⟨h1,e1⟩:=ap.mp hi;obtain ⟨h2,e2⟩:=ap.mp hj;haveI:j=i:=(List.getElem_inj S.nodup).mp (e2.trans e1.symm);exact q ⟨this,by rw[←S.len];exact h1⟩
   haveI z:=AQ.mono (ν:=[]) x (fun o e=>(hs.2 b hne).trans e) (S.cell j b d hj hd);rwa[af]at z
theorem AE.length{vs:List dF}{ds:List D}(H:AE P μ h vs ds):vs.length=ds.length:=by
 induction vs generalizing ds with
 |nil=>cases H;rfl
 |cons v vs ih=>cases H with
  |cons _ r=>simp[ih r]
theorem AE.append{vs ws:List dF}{ds es:List D}(H:AE P μ h vs ds)(K:AE P μ h ws es):AE P μ h (vs++ws) (ds++es):=by
 induction vs generalizing ds with
 |nil=>cases H;exact K
 |cons v vs ih=>cases H with
  |cons a r=>exact .cons a (ih r)
theorem AE.one{v:dF}{d:D}(H:AH P μ h v d):AE P μ h [v] [d]:=.cons H .nil
theorem AE.get{vs:List dF}{ds:List D}(H:AE P μ h vs ds){i:Nat}{d:D}(e:ds[i]? =some d):∃v,vs[i]? =some v∧AH P μ h v d:=by
 induction vs generalizing ds i with
 |nil=>cases H;simp at e
 |cons v vs ih=>cases H with
  |cons a r=>cases i with
   |zero=>simp at e;subst e;exact ⟨v,rfl,a⟩
   |succ i=>exact ih r (by exact e)
theorem AE.take{vs:List dF}{ds:List D}(H:AE P μ h vs ds)(n:Nat):AE P μ h (vs.take n) (ds.take n):=by
 induction vs generalizing ds n with
 |nil=>cases H;simp;exact .nil
 |cons v vs ih=>cases H with
  |cons a r=>cases n with
   |zero=>exact .nil
   |succ n=>exact .cons a (ih r n)
theorem AE.drop{vs:List dF}{ds:List D}(H:AE P μ h vs ds)(n:Nat):AE P μ h (vs.drop n) (ds.drop n):=by
 induction vs generalizing ds n with
 |nil=>cases H;simp;exact .nil
 |cons v vs ih=>cases H with
  |cons a r=>cases n with
   |zero=>exact .cons a r
   |succ n=>exact ih r n
end
end
end Mine
end
section
set_option backward.match.sparseCases false
namespace Mine
open PySem PySem.Calls PyProof.Rows PySem.Spec
structure Nm where
 names:List Str
 fnN:Nat→List Str
 glN:Nat→Str
 hj:Option Nat
 hp:Nat→Nat×Nat
noncomputable def DS (sc:dQ) (x:Str):Bool:=(match sc.names.lookup x with
 |some .local=>true
 |some .cell=>true
 |some .free=>true
 |_=>false)&& !(x==("__debug__":Str))&& !(x==("__classdict__":Str))
noncomputable def D1 (sc:dQ) (x:Str):Bool:=(match sc.names.lookup x with
 |some .local=>true
 |some .cell=>true
 |_=>false)
noncomputable def Af (sc:dQ) (x:Str):Bool:=(match sc.names.lookup x with
 |some .globalImplicit=>true
 |_=>false)&& !(x==("__debug__":Str))
noncomputable def opr:Bin→Operator
 | .add=>.Add
 | .sub=>.Sub
 | .mul=>.Mult
 | .fdiv=>.FloorDiv
 | .mod=>.Mod
noncomputable def opB (b:Bin) (o:Operator):Bool:=decide (o=opr b)
noncomputable def Vl:Cmp→CmpOp
 | .eq=>.Eq
 | .ne=>.NotEq
 | .lt=>.Lt
 | .le=>.LtE
 | .gt=>.Gt
 | .ge=>.GtE
 | .isIn=>.In
 | .notIn=>.NotIn
 | .isN=>.Is
 | .isNotN=>.IsNot
noncomputable def opC (b:Cmp) (o:CmpOp):Bool:=decide (o=Vl b)
noncomputable def TV:List Cmp→List CmpOp→Bool
 | [],[]=>true
 |a::l,b::m=>opC a b&&TV l m
 |_,_=>false
noncomputable def CW:Nat→Str
 |0=>"kind"
 |1=>"word"
 |2=>"args"
 |3=>"operands"
 |_=>"operators"
noncomputable def biN:BI→Str
 | .len=>"len"
 | .sorted=>"sorted"
 | .str=>"str"
 | .abs=>"abs"
 | .min=>"min"
 | .dict=>"dict"
 | .listItems=>"list"
 | .ord=>"ord"
 | .chr=>"chr"
noncomputable def meN:ME→Str
 | .split=>"split"
 | .join=>"join"
 | .find2=>"find"
 | .find3=>"find"
 | .strip=>"strip"
 | .rstrip=>"rstrip"
 | .upper=>"upper"
 | .index=>"index"
 | .append=>"append"
 | .extend=>"extend"
 | .pop=>"pop"
 | .get=>"get"
 | .update=>"update"
noncomputable def FI:Expr→Bool
 | .Set .. =>false
 |_=>true
noncomputable def DT:Expr→Bool
 | .Slice .. =>false
 |_=>true
noncomputable def Ck:Expr→Bool
 | .ListComp .. =>false
 | .SetComp .. =>false
 | .DictComp .. =>false
 |_=>true
noncomputable def Cu:Expr→Bool
 | .Call (.Name id _) [] [] _=> !(id==("super":Str))
 |_=>true
noncomputable def Fb (x:Expr):Option {v:Str // ∃p,x=.Name v p}:=match x with
 | .Name v p=>some ⟨v,p,rfl⟩
 |_=>none
noncomputable def Mg (N:Nm) (sc:dQ):List Nat→List Expr→Bool
 | [],[]=>true
 |i::l,e::m=>((Fb e).any fun x=>(N.names[i]? ==some x.1)&&D1 sc x.1)&&Mg N sc l m
 |_,_=>false
noncomputable def N1:dX→Bool
 | .free=>true
 |_=>false
noncomputable def Hi:dX→Bool
 | .local=>true
 |_=>false
noncomputable def HW:dX→Bool
 | .cell=>true
 |_=>false
noncomputable def ED (N:Nm) (sc csc:dQ) (tgt:List Nat):Bool:=
 csc.names.all fun p=> !HW p.2&&(!Hi p.2||((match csc.names.lookup p.1 with|some .local=>true|_=>false)&&(p.1==(".0":Str)||tgt.any fun i=>N.names[i]? ==some p.1)))&&
  (!N1 p.2||isOwnFree sc p.1)
where
 isOwnFree (sc:dQ) (x:Str):Bool:=match sc.names.lookup x with
  |some .cell=>true
  |some .free=>true
  |_=>false
noncomputable def Aj (f:E→Expr→Bool):List E→List Expr→Bool
 | [],[]=>true
 |e::l,a::m=>f e a&&Aj f l m
 |_,_=>false
noncomputable def Di (f:E→Expr→Bool):List (E×E)→List (Option Expr)→List Expr→Bool
 | [],[],[]=>true
 |(k,v)::l,some a::m,b::n=>f k a&&f v b&&Di f l m n
 |_,_,_=>false
noncomputable def LJ (f:E→Expr→Bool):Option E→Option Expr→Bool
 |none,none=>true
 |some e,some a=>f e a
 |_,_=>false
noncomputable def Mh (x:Expr):Option {v:List Expr // ∃c p,x=.Tuple v c p}:=match x with
 | .Tuple v c p=>some ⟨v,c,p,rfl⟩
 |_=>none
noncomputable def X9 (x:Expr):Option {v:List Expr // ∃p,x=.List v p}:=match x with
 | .List v p=>some ⟨v,p,rfl⟩
 |_=>none
noncomputable def VF (x:Expr):Option {v:List (Option Expr)×List Expr // ∃p,x=.Dict v.1 v.2 p}:=match x with
 | .Dict k v p=>some ⟨(k,v),p,rfl⟩
 |_=>none
noncomputable def Zd (x:Expr):Option {v:Expr×Operator×Expr // ∃p,x=.BinOp v.1 v.2.1 v.2.2 p}:=match x with
 | .BinOp l o r p=>some ⟨(l,o,r),p,rfl⟩
 |_=>none
noncomputable def Ze (x:Expr):Option {v:Expr×List CmpOp×List Expr // ∃p,x=.Compare v.1 v.2.1 v.2.2 p}:=match x with
 | .Compare l o r p=>some ⟨(l,o,r),p,rfl⟩
 |_=>none
noncomputable def VG (x:Expr):Option {v:BoolOp×List Expr // ∃p,x=.BoolOp v.1 v.2 p}:=match x with
 | .BoolOp l o p=>some ⟨(l,o),p,rfl⟩
 |_=>none
noncomputable def vUn (x:Expr):Option {v:UnaryOp×Expr // ∃p,x=.UnaryOp v.1 v.2 p}:=match x with
 | .UnaryOp l o p=>some ⟨(l,o),p,rfl⟩
 |_=>none
noncomputable def vIf (x:Expr):Option {v:Expr×Expr×Expr // ∃p,x=.IfExp v.1 v.2.1 v.2.2 p}:=match x with
 | .IfExp l o r p=>some ⟨(l,o,r),p,rfl⟩
 |_=>none
noncomputable def Vm (x:Expr):Option {v:Expr×Expr // ∃p,x=.Subscript v.1 v.2 p}:=match x with
 | .Subscript l o p=>some ⟨(l,o),p,rfl⟩
 |_=>none
noncomputable def Zf (x:Expr):Option {v:Option Expr×Option Expr // ∃p,x=.Slice v.1 v.2 none p}:=match x with
 | .Slice l o none p=>some ⟨(l,o),p,rfl⟩
 |_=>none
noncomputable def Qf (x:Expr):Option {v:Expr×Str×Pos // x=.Attribute v.1 v.2.1 v.2.2}:=match x with
 | .Attribute l o p=>some ⟨(l,o,p),rfl⟩
 |_=>none
noncomputable def Qg (x:Expr):Option {v:Expr×List Expr×Pos // x=.Call v.1 v.2.1 [] v.2.2}:=match x with
 | .Call l o [] p=>some ⟨(l,o,p),rfl⟩
 |_=>none
noncomputable def YA (x:Expr):Option {v:Expr×Comprehension×dQ // ∃p,x=.ListComp v.1 [v.2.1] v.2.2 p}:=match x with
 | .ListComp e [g] sc p=>some ⟨(e,g,sc),p,rfl⟩
 |_=>none
noncomputable def Zg (x:Expr):Option {v:Arguments×Expr×dQ×Pos // x=.Lambda v.1 v.2.1 v.2.2.1 v.2.2.2}:=match x with
 | .Lambda a b sc p=>some ⟨(a,b,sc,p),rfl⟩
 |_=>none
noncomputable def TX (x:Arguments):Option {_v:Unit // x=⟨[],[],none,[],[],none,[]⟩}:=match x with
 |⟨[],[],none,[],[],none,[]⟩=>some ⟨(),rfl⟩
 |_=>none
noncomputable def Zh (x:Expr):Option {v:Const // ∃k p,x=.Constant v k p}:=match x with
 | .Constant c k p=>some ⟨c,k,p,rfl⟩
 |_=>none
noncomputable def YB:Expr→Bool
 | .Starred .. =>true
 |_=>false
noncomputable def Qh:BoolOp→Bool
 | .And=>true
 | .Or=>false
noncomputable def isNotO:UnaryOp→Bool
 | .Not=>true
 |_=>false
noncomputable def isNegO:UnaryOp→Bool
 | .USub=>true
 |_=>false
noncomputable def Zi:BI→Bool
 | .listItems=>true
 |_=>false
noncomputable def YC (x:Const):Option {_v:Unit // x=.none}:=match x with
 | .none=>some ⟨(),rfl⟩
 |_=>none
noncomputable def YD (x:Const):Option {v:Bool // x=.bool v}:=match x with
 | .bool v=>some ⟨v,rfl⟩
 |_=>none
noncomputable def Zj (x:Const):Option {v:Int // x=.int v}:=match x with
 | .int v=>some ⟨v,rfl⟩
 |_=>none
noncomputable def Zk (x:Const):Option {v:Str // x=.str v}:=match x with
 | .str v=>some ⟨v,rfl⟩
 |_=>none
noncomputable def Zl (d:D) (k:Const):Bool:=match d with
 | .none=>(YC k).any fun _=>true
 | .bool b=>(YD k).any fun c=>b==c.1
 | .int b=>(Zj k).any fun c=>decide (b=c.1)
 | .str b=>(Zk k).any fun c=>txt b==c.1&&Nat.blt b.length 100000&&b.all fun c=>Nat.blt c 128
 |_=>false
theorem Fc{α:Type}{o:Option α}{p:α→Bool}(h:o.any p=true):∃a,o=some a∧p a=true:=by
 cases o with
 |none=>exact xbf h
 |some a=>exact ⟨a,rfl,h⟩
@[irreducible] noncomputable def DB (x:Expr) (f:Str→List Expr→Bool):Bool:=(Qg x).any fun v=>(Fb v.1.1).any fun y=>f y.1 v.1.2.1
theorem Hj{x:Expr}{p:Pos}{f:Str→List Expr→Bool}:DB (.Starred x p) f=false:=by
 unfold DB;rfl
noncomputable def Il {α:Type} (xs:List α) (f:α→Bool):Bool:=match xs with
 | [x]=>f x
 |_=>false
noncomputable def Ev (N:Nm) (sc:dQ) (tup:Bool) (tgt:List Nat) (x:Expr):Bool:=match tup with
 |true=>(Mh x).any fun v=>Mg N sc tgt v.1
 |false=>Il tgt fun i=>(Fb x).any fun v=>(N.names[i]? ==some v.1)&&D1 sc v.1
noncomputable def mE (N:Nm):Nat→dQ→E→Expr→Bool
 |0,_,_,_=>false
 |n+1,sc,e,x=>match e with
  | .junk=> !YB x
  | .cst d=>(Zh x).any fun c=>Zl d c.1
  | .loc i=>(Fb x).any fun y=>(N.names[i]? ==some y.1)&&DS sc y.1
  | .glob g=>(Fb x).any fun y=>N.glN g==y.1&&Af sc y.1
  | .fn f=>(Fb x).any fun y=>(N.fnN f).contains y.1&&Af sc y.1
  | .tup es=>(Mh x).any fun xs=>Aj (mE N n sc) es xs.1&&Nat.blt es.length 1000
  | .lst es=>(X9 x).any fun xs=>Aj (mE N n sc) es xs.1&&Nat.blt es.length 1000
  | .dcti kvs=>(VF x).any fun v=>Di (mE N n sc) kvs v.1.1 v.1.2&&Nat.blt kvs.length 16
  | .dcts kvs=>(VF x).any fun v=>Di (mE N n sc) kvs v.1.1 v.1.2&&Nat.blt kvs.length 16
  | .bin op a b=>(Zd x).any fun v=>opB op v.1.2.1&&mE N n sc a v.1.1&&mE N n sc b v.1.2.2
  | .cmp a ops bs=>(Ze x).any fun v=>TV ops v.1.2.1&&mE N n sc a v.1.1&&Aj (mE N n sc) bs v.1.2.2&&v.1.2.2.all FI&&Nat.beq ops.length bs.length
  | .and es=>(VG x).any fun v=>Qh v.1.1&&Aj (mE N n sc) es v.1.2
  | .or es=>(VG x).any fun v=> !Qh v.1.1&&Aj (mE N n sc) es v.1.2
  | .not a=>(vUn x).any fun v=>isNotO v.1.1&&mE N n sc a v.1.2
  | .neg a=>(vUn x).any fun v=>isNegO v.1.1&&mE N n sc a v.1.2
  | .ite c a b=>(vIf x).any fun v=>mE N n sc c v.1.1&&mE N n sc a v.1.2.1&&mE N n sc b v.1.2.2
  | .idx a i=>(Vm x).any fun v=>mE N n sc a v.1.1&&mE N n sc i v.1.2&&DT v.1.2
  | .slc a lo hi=>(Vm x).any fun v=>(Zf v.1.2).any fun w=>mE N n sc a v.1.1&&LJ (mE N n sc) lo w.1.1&&LJ (mE N n sc) hi w.1.2
  | .attr a k=>(Qf x).any fun v=>mE N n sc a v.1.1&&CW k==v.1.2.1&&Cu v.1.1
  | .call f as=>DB x fun y xs=>(N.fnN f).contains y&&Af sc y&&Aj (mE N n sc) as xs
  | .callv i as=>DB x fun y xs=>(N.names[i]? ==some y)&&DS sc y&&Aj (mE N n sc) as xs
  | .bi b as=>(match Zi b with
   |true=>DB x fun y xs=>y==("list":Str)&&Af sc y&&Il xs fun z=>(match as with
    | [a]=>(Qg z).any fun w=>w.1.2.1.isEmpty&&(Qf w.1.1).any fun u=>u.1.2.1==("items":Str)&&mE N n sc a u.1.1&&Cu u.1.1&&u.1.2.2.endLine==w.1.2.2.line
    |_=>false)
   |false=>DB x fun y xs=>biN b==y&&Af sc y&&Aj (mE N n sc) as xs)
  | .meth m r as=>(Qg x).any fun v=>(Qf v.1.1).any fun u=>meN m==u.1.2.1&&mE N n sc r u.1.1&&Cu u.1.1&&Aj (mE N n sc) as v.1.2.1&&u.1.2.2.endLine==v.1.2.2.line&&Nat.blt v.1.2.1.length 20
  | .new as=>DB x fun y xs=>y==("Level":Str)&&Af sc y&&Aj (mE N n sc) as xs
  | .comp elt tgt tup en iter ifs=>(YA x).any fun v=>match v.1.2.1 with
   |⟨xt,xi,xifs,as⟩=>as==0&&v.1.2.2.kind== .function&&ED N sc v.1.2.2 tgt&&mE N n v.1.2.2 elt v.1.1&&Aj (mE N n v.1.2.2) ifs xifs&&Ev N v.1.2.2 tup tgt xt&&(match en with
    |true=>DB xi fun y xs=>tup&&y==("enumerate":Str)&&Af sc y&&Il xs fun z=>mE N n sc iter z
    |false=>mE N n sc iter xi&&FI xi)
  | .heard k j a=>DB x fun y xs=>y==("_law_heard":Str)&&Af sc y&&Il xs fun z=>(Zg z).any fun u=>(TX u.1.1).any fun _=>(N.hj==some j)&&(N.hp k).1==u.1.2.2.2.line&&(N.hp k).2==u.1.2.2.2.col&&ED N sc u.1.2.2.1 []&&u.1.2.2.1.kind== .function&& !u.1.2.2.1.isCoroutine&& !u.1.2.2.1.isGenerator&&mE N n u.1.2.2.1 a u.1.2.1
noncomputable def Fd:Expr→Bool
 | .Tuple vs _ _=> !(vs.all (constantsAlone 8))||vs.all (foldedForSure 8)
 | .Constant .. =>false
 |_=>true
noncomputable def VH:Bin→Bool
 | .add=>true
 | .sub=>true
 |_=>false
noncomputable def JD (N:Nm) (n:Nat) (sc:dQ) (kind:Nat) (tup:Bool) (iter:E) (xi:Expr):Bool:=match kind with
 |0=>mE N n sc iter xi&&FI xi
 |1=>DB xi fun x xs=>x==("range":Str)&&Af sc x&&Il xs fun y=>mE N n sc iter y
 |2=>DB xi fun x xs=>tup&&x==("enumerate":Str)&&Af sc x&&Il xs fun y=>mE N n sc iter y
 |_=>false
noncomputable def GR (f:St→Stmt→Bool):List St→List Stmt→Bool
 | [],[]=>true
 |e::l,a::m=>f e a&&GR f l m
 |_,_=>false
noncomputable def Vn (x:Stmt):Option {v:Expr×Expr // ∃p,x=.Assign [v.1] v.2 p}:=match x with
 | .Assign [t] v p=>some ⟨(t,v),p,rfl⟩
 |_=>none
noncomputable def Zm (x:Stmt):Option {v:Expr×Operator×Expr // ∃p,x=.AugAssign v.1 v.2.1 v.2.2 p}:=match x with
 | .AugAssign t o v p=>some ⟨(t,o,v),p,rfl⟩
 |_=>none
noncomputable def Zn (x:Stmt):Option {v:Expr×List Stmt×List Stmt // ∃p,x=.If v.1 v.2.1 v.2.2 p}:=match x with
 | .If t o v p=>some ⟨(t,o,v),p,rfl⟩
 |_=>none
noncomputable def Zo (x:Stmt):Option {v:Expr×List Stmt // ∃p,x=.While v.1 v.2 [] p}:=match x with
 | .While t o [] p=>some ⟨(t,o),p,rfl⟩
 |_=>none
noncomputable def Zp (x:Stmt):Option {v:Expr×Expr×List Stmt // ∃p,x=.For v.1 v.2.1 v.2.2 [] p}:=match x with
 | .For t o v [] p=>some ⟨(t,o,v),p,rfl⟩
 |_=>none
noncomputable def Zq (x:Stmt):Option {v:Expr // ∃p,x=.Return (some v) p}:=match x with
 | .Return (some v) p=>some ⟨v,p,rfl⟩
 |_=>none
noncomputable def Zr (x:Stmt):Option {v:Expr // ∃p,x=.Raise (some v) none p}:=match x with
 | .Raise (some v) none p=>some ⟨v,p,rfl⟩
 |_=>none
noncomputable def Zs (x:Stmt):Option {v:Expr // ∃p,x=.Expr v p}:=match x with
 | .Expr v p=>some ⟨v,p,rfl⟩
 |_=>none
noncomputable def Zt (x:Stmt):Option {_v:Unit // ∃p,x=.Break p}:=match x with
 | .Break p=>some ⟨(),p,rfl⟩
 |_=>none
noncomputable def mS (N:Nm) (sc:dQ):Nat→St→Stmt→Bool
 |0,_,_=>false
 |n+1,s,x=>match s with
  | .junk=>true
  | .asg i e=>(Vn x).any fun v=>(Fb v.1.1).any fun y=>(N.names[i]? ==some y.1)&&D1 sc y.1&&mE N n sc e v.1.2&&Ck v.1.2
  | .asgT is e=>(Vn x).any fun v=>(Mh v.1.1).any fun xs=>Mg N sc is xs.1&&mE N n sc e v.1.2&&Fd v.1.2&&2≤xs.1.length&&Ck v.1.2&&decide (is.Nodup)
  | .asgI o i e=>(Vn x).any fun v=>(Vm v.1.1).any fun w=>mE N n sc e v.1.2&&mE N n sc o w.1.1&&mE N n sc i w.1.2&&DT w.1.2&&Ck v.1.2
  | .aug i op e=>(Zm x).any fun v=>(Fb v.1.1).any fun y=>(N.names[i]? ==some y.1)&&D1 sc y.1&&opB op v.1.2.1&&mE N n sc e v.1.2.2&&VH op&&DS sc y.1
  | .ite c a b=>(Zn x).any fun v=>mE N n sc c v.1.1&&GR (mS N sc n) a v.1.2.1&&GR (mS N sc n) b v.1.2.2
  | .whl c b=>(Zo x).any fun v=>mE N n sc c v.1.1&&GR (mS N sc n) b v.1.2
  | .for kind tgt tup iter b=>(Zp x).any fun v=>GR (mS N sc n) b v.1.2.2&&Ev N sc tup tgt v.1.1&&JD N n sc kind tup iter v.1.2.1
  | .ret e=>(Zq x).any fun v=>mE N n sc e v.1
  | .rse as=>(Zr x).any fun v=>DB v.1 fun y xs=>y==("BasicError":Str)&&Af sc y&&Aj (mE N n sc) as xs
  | .exp e=>(Zs x).any fun v=>mE N n sc e v.1&&Ck v.1
  | .brk=>(Zt x).isSome
end Mine
end
section
namespace Mine
open PySem PySem.Calls PyProof.Rows PySem.Spec
def ScR (sc:dQ) (env:PySem.Env):Prop:= ∀x,env.kindOf x=sc.names.lookup x∨(sc.names.lookup x=some .free∧env.kindOf x=some .cell)
def Holds (env:PySem.Env) (h:Heap) (x:Str) (v:dF):Prop:=
 (env.kindOf x=some .local∧∃m,h.Ns env.locals m∧m x=some v)∨((env.kindOf x=some .cell∨env.kindOf x=some .free)∧∃c,env.cells.lookup x=some c∧h.IsCell c (some v))
def Vis (env:PySem.Env) (x:Str):Prop:=env.kindOf x=some .local∨env.kindOf x=some .cell∨env.kindOf x=some .free
structure FR (P:PI) (μ:List Addr) (names:List Str) (env:PySem.Env) (ρ:Loc) (h:Heap):Prop where
 kind:env.scope.kind=.function
 glob:env.globals=dR
 bi:env.builtins=dT
 ns:∃m,h.Ns env.locals m
 off:env.locals∉μ∧P.hb.get? env.locals=none
 cells:∀x c,env.cells.lookup x=some c→c∉μ∧P.hb.get? c=none∧∃v,h.IsCell c v
 closed:∀x,(env.kindOf x=some .cell∨env.kindOf x=some .free)→∃c,env.cells.lookup x=some c
 apart:∀x y c,env.cells.lookup x=some c→env.cells.lookup y=some c→x=y
 nodup:names.Nodup
 code:∀c T j,P.cdOf names=some (c,T,j)→env.code=.ref c
 var:∀(i:Nat) (x:Str) (d:D),names[i]? =some x→ρ[i]? =some (some d)→Vis env x→∃v,AH P μ h v d∧Holds env h x v
def B7 (P:PI) (μ:List Addr) (stk:List PySem.Env) (h:Heap):Prop:=h.FunFrames P.hb stk∧∀env∈stk,∀L,env.frame=some L→L∉μ∧∃m,h.Ns L m
section
variable{P:PI}{μ ν:List Addr}{h h':Heap}{σ:AA}{names:List Str}{env:PySem.Env}{ρ:Loc}{stk:List PySem.Env}
theorem Ext.isCell(x:Ext μ ν h h'){c:Addr}{v:Option dF}(n:c∉μ)(H:h.IsCell c v):h'.IsCell c v:=by
 obtain ⟨o,ho,hr⟩:=H;obtain ⟨sl,e,_⟩:=x.keep c o ho n;exact ⟨_,e,hr⟩
theorem Ext.notinCell(x:Ext μ ν h h'){c:Addr}{v:Option dF}(n:c∉μ)(H:h.IsCell c v):c∉μ++ν:=let ⟨_,ho,_⟩:=H;x.notin ho n
theorem FR.mono(F:FR P μ names env ρ h)(x:Ext μ ν h h'):FR P (μ++ν) names env ρ h':=by
 refine ⟨F.kind,F.glob,F.bi,?_,⟨?_,F.off.2⟩,fun y c e=> ?_,F.closed,F.apart,F.nodup,F.code,fun i y d e1 e2 e3=> ?_⟩
 ·obtain ⟨m,hm⟩:=F.ns;exact ⟨m,x.ns F.off.1 hm⟩
 ·obtain ⟨m,hm⟩:=F.ns;exact x.notinNs F.off.1 hm
 ·obtain ⟨n,hb,v,hv⟩:=F.cells y c e;exact ⟨x.notinCell n hv,hb,v,x.isCell n hv⟩
 ·obtain ⟨v,hv,hh⟩:=F.var i y d e1 e2 e3;refine ⟨v,hv.mono x,?_⟩
  rcases hh with ⟨k,m,hm,e⟩|⟨k,c,hc,hv'⟩
  ·exact .inl ⟨k,m,x.ns F.off.1 hm,e⟩
  ·exact .inr ⟨k,c,hc,x.isCell (F.cells y c hc).1 hv'⟩
theorem B7.mono(F:B7 P μ stk h)(x:Ext μ ν h h'):B7 P (μ++ν) stk h':=by
 obtain ⟨F,n⟩:=F;refine ⟨?_,fun env he L hL=> ?_⟩
 ·haveI key:∀(l:List PySem.Env),h.FunFrames P.hb l→(∀env∈l,∀L,env.frame=some L→L∉μ∧∃m,h.Ns L m)→h'.FunFrames P.hb l:=by
   intro l
   induction l with
   |nil=>intro _ _;trivial
   |cons env l ih=>
    rintro ⟨hk,⟨L,o,hf,hn,ho,hd⟩,hr⟩ hm
    obtain ⟨sl,e,_⟩:=x.keep L o ho (hm env (.head _) L hf).1;exact ⟨hk,⟨L,_,hf,hn,e,hd⟩,ih hr fun e he=>hm e (.tail _ he)⟩
  exact key stk F n
 ·obtain ⟨n1,m,hn⟩:=n env he L hL;exact ⟨x.notinNs n1 hn,m,x.ns n1 hn⟩
structure Cx (A:dJ) (stk:List PySem.Env) (k:Nat):Prop where
 handled:A.handled=none
 depth:A.depth+k+5<recursionLimit
 units:A.units+100*(k+1)<cLine
 frames:A.frames=some stk
structure ExR (P:PI) (μ:List Addr) (hb:Heap) (c:List Nat) (e:Addr) (h:Heap):Prop where
 at_:Ex5 fun (oe:Obj) (vs:Array dF) (dx:Addr) (m:Str→Option dF) (t:Tok)=>A11 (h.get? e=some oe) (oe.cls=.ref P.ec) (oe.data=.fields vs) (oe.dict=some dx) (h.Ns1 dx m) (m "code"=some (.str (txt c) t)) (BX c) ((hb.get? e=none∧hb.get? dx=none)) ((dx∉μ∧e∉μ)) (1<vs.size) ((vs[1]? =some .none∨Ex3 fun T oT ts=>A6 (vs[1]? =some (.ref T)) ((hb.get? T=none∧T∉μ)) (T≠e) (h.get? T=some oT) (oT.data=.fields ts) (ts[3]? =some .none)))
theorem ExR.base{P:PI}{μ:List Addr}{hb hb' h:Heap}{c:List Nat}{e:Addr}(x:ExR P μ hb c e h)(k:∀X,hb.get? X=none→hb'.get? X=none):ExR P μ hb' c e h:=by
 obtain ⟨oe,vs,dx,m,t,h1,h2,h3,h4,h5,h6,h7,h8,h9,h10,h11⟩:=x;refine ⟨oe,vs,dx,m,t,h1,h2,h3,h4,h5,h6,h7,⟨k _ h8.1,k _ h8.2⟩,h9,h10,?_⟩
 rcases h11 with q|⟨T,oT,ts,q1,q2,q3,q4,q5,q6⟩
 ·exact .inl q
 ·exact .inr ⟨T,oT,ts,q1,⟨k _ q2.1,q2.2⟩,q3,q4,q5,q6⟩
def AY (P:PI) (μ:List Addr) (r:Ro) (σ':AA) (s:dG) (Q:dF→dG→Prop) (Er:dF→dG→Prop):Prop:=match r with
 | .ok d=> ∀v h' tk ν,Ext μ ν s.heap h'→Sto P (μ++ν) σ' h'→AH P (μ++ν) h' v d→Q v {s with heap:=h',toks:=tk}
 | .ex c=> ∀e h' tk ν,Ext μ ν s.heap h'→Sto P (μ++ν) σ' h'→ExR P (μ++ν) s.heap c e h'→Er (.ref e) {s with heap:=h',toks:=tk}
end
section
variable{P:PI}{μ ν:List Addr}{σ σ':AA}{A:dJ}{s:dG}{Q Er:dF→dG→Prop}{stk:List PySem.Env}{k:Nat}
theorem AY.ok0{d:D}(S:Sto P μ σ s.heap)(h:AY P μ (.ok d) σ s Q Er){v:dF}{h':Heap}{tk:Nat}(kp:AN s.heap h')(hv:AH P μ h' v d):Q v {s with heap:=h',toks:=tk}:=by
 haveI z:=h v h' tk [] (kp.ext fun _ q=>by contradiction)
 rw[af]at z;exact z (S.keeps kp) hv
theorem AY.same{d:D}(S:Sto P μ σ s.heap)(h:AY P μ (.ok d) σ s Q Er){v:dF}{tk:Nat}(hv:AH P μ s.heap v d):Q v {s with toks:=tk}:=AY.ok0 S h (AN.refl _) hv
theorem AR(h:Heap):h.get? h.objs.size=none:=by
 cases q:h.get? h.objs.size with
 |none=>rfl
 |some o=>exact absurd (Heap.lt_size q) (cP _)
theorem AY.push{c:AI}(S:Sto P μ σ s.heap)(h:AY P μ (.ok (.loc σ.length)) (σ++[c]) s Q Er){o:Obj}{tk:Nat}
  (hc:Ext μ [s.heap.objs.size] s.heap (s.heap.push o)→AQ P (μ++[s.heap.objs.size]) (s.heap.push o) s.heap.objs.size c):Q (.ref s.heap.objs.size) {s with heap:=s.heap.push o,toks:=tk}:=by
 haveI hne:s.heap.objs.size≠dY:=by
  refine aW S.sys fun o ho=> ?_;exact cC (Heap.lt_size (S.base _ _ ho))
 haveI kp:=AN.push s.heap o;haveI x0:Ext μ [s.heap.objs.size] s.heap (s.heap.push o):=kp.ext fun b q=>by rw[bA.mp q];exact AR _
 haveI z:=S.alloc kp (AR _) hne (hc x0);refine h (.ref s.heap.objs.size) _ tk [s.heap.objs.size] z.2 z.1 (.loc ?_);rw[←S.len];simp
theorem Cl{α:Type}{c:Prop}[Decidable c]{x:Option α}{p:α}(e:(if c then x else none)=some p):c∧x=some p:=by
 by_cases q:c
 ·rw[if_pos q]at e;exact ⟨q,e⟩
 ·rw[if_neg q]at e;exact xns e
theorem AY.ret{d:D}{r:Ro}(e:Ab d σ=some (r,σ'))(h:AY P μ r σ' s Q Er):AY P μ (.ok d) σ s Q Er:=by
 (injection e with e;injection e with h91 h92;subst h91;subst h92);exact h
theorem AY.alloc{c:AI}{r:Ro}(e:Mine.alloc σ c=some (r,σ'))(h:AY P μ r σ' s Q Er):AY P μ (.ok (.loc σ.length)) (σ++[c]) s Q Er:=by
 (injection e with e;injection e with h91 h92;subst h91;subst h92);exact h
section
variable{α:Type}{p:α}{C:dF→Prop}{v:dF}{d:D}{h:Heap}
theorem Ai{f:Int→Option α}(H:AH P μ h v d)(e:Bl d f=some p)(k:∀i t,f i=some p→C (.int i t)):C v:=by
 cases d with
 |int i=>exact H.int_e fun t=>k i t e
 |_=>exact xns e
theorem Br{f:List Nat→Option α}(H:AH P μ h v d)(e:DQ d f=some p)(k:∀l t,BX l→f l=some p→C (.str (txt l) t)):C v:=by
 cases d with
 |str l=>exact H.str_e fun t ok=>k l t ok e
 |_=>exact xns e
theorem TY{f:Option α}(H:AH P μ h v d)(e:Qc d f=some p)(k:f=some p→C .none):C v:=by
 cases d with
 |none=>exact H.none_e (k e)
 |_=>exact xns e
theorem Vo{l:List Nat}{f:Nat→Option α}(e:X7 l f=some p):∃c,l=[c]∧f c=some p:=by
 match l,e with
 | [c],e=>exact ⟨c,rfl,e⟩
theorem GS{f:Nat→Option α}(H:AH P μ h v d)(e:Md d f=some p)(k:∀c t,BX [c]→f c=some p→C (.str (txt [c]) t)):C v:=
 Br H e fun _ t ok e=>aW (Vo e) fun c w=>by
  haveI e1:=w.1;subst e1;exact k c t ok w.2
theorem N2{fi:Int→Option α}{fs:List Nat→Option α}{fl:Option α}(H:AH P μ h v d)(e:ckK d fi fs fl=some p)(k1:∀i t,fi i=some p→C (.int i t))(k2:∀l t,BX l→fs l=some p→C (.str (txt l) t))(k3:fl=some p→C v):C v:=by
 cases d with
 |int i=>exact H.int_e fun t=>k1 i t e
 |str l=>exact H.str_e fun t ok=>k2 l t ok e
 |loc n=>exact k3 e
 |_=>exact xns e
theorem Eg{σ:AA}{f:Nat→AI→Option α}(S:Sto P μ σ h)(H:AH P μ h v d)(e:Gq σ d f=some p)(k:∀n a c,μ[n]? =some a→σ[n]? =some c→AQ P μ h a c→f n c=some p→C (.ref a)):C v:=by
 cases d with
 |loc n=>exact H.loc_e fun a ei=>aW (bP.mp e) fun c w=>k n a c ei w.1 (S.cell _ _ _ ei w.1) w.2
 |_=>exact xns e
theorem DM{σ:AA}{f:Nat→List D→Option α}(S:Sto P μ σ h)(H:AH P μ h v d)(e:B5 σ d f=some p)(k:∀n a l vs c,μ[n]? =some a→σ[n]? =some (.lst l)→h.get? a=some (PySem.W.listOf (List.toArray vs) c)→vs.length≤1000000→AE P μ h vs l→f n l=some p→C (.ref a)):C v:=
 Eg S H e fun n a c ei ec hc e=>by
  cases c with
  |lst l=>exact AQ.lst_e hc fun vs c ho hb hv=>k n a l vs c ei ec ho hb hv e
  |_=>exact xns e
theorem Fe{σ:AA}{f:Nat→List (Int×D)→Option α}(S:Sto P μ σ h)(H:AH P μ h v d)(e:Dy σ d f=some p)(k:∀n a l kvs,μ[n]? =some a→σ[n]? =some (.dcti l)→h.DictOf (intKind P.prog P.w) a kvs→kvs.map (·.1)=l.map (·.1)→l.length≤1000000→AE P μ h (kvs.map (·.2)) (l.map (·.2))→f n l=some p→C (.ref a)):C v:=
 Eg S H e fun n a c ei ec hc e=>by
  cases c with
  |dcti l=>exact AQ.dcti_e hc fun kvs hd hk hb hv=>k n a l kvs ei ec hd hk hb hv e
  |_=>exact xns e
theorem N3{σ:AA}{f:Nat→List (List Nat×D)→Option α}(S:Sto P μ σ h)(H:AH P μ h v d)(e:Qd σ d f=some p)(k:∀n a l kvs,μ[n]? =some a→σ[n]? =some (.dcts l)→h.DictOf (PySem.strKind P.prog P.w) a kvs→kvs.map (·.1)=l.map (fun p=>txt p.1)→l.length≤1000000→AE P μ h (kvs.map (·.2)) (l.map (·.2))→f n l=some p→C (.ref a)):C v:=
 Eg S H e fun n a c ei ec hc e=>by
  cases c with
  |dcts l=>exact AQ.dcts_e hc fun kvs hd hk hb hv=>k n a l kvs ei ec hd hk hb hv e
  |_=>exact xns e
variable{CL:List dF→Prop}{vs:List dF}{ds:List D}
theorem VI{f:Option α}(H:AE P μ h vs ds)(e:as0 ds f=some p)(k:f=some p→CL []):CL vs:=by
 match ds,e with
 | [],e=>exact H.nil_e (k e)
theorem DC{f:D→Option α}(H:AE P μ h vs ds)(e:as1 ds f=some p)(k:∀v d,AH P μ h v d→f d=some p→CL [v]):CL vs:=by
 match ds,e with
 | [d],e=>exact H.e1 fun v V=>k v d V e
theorem Qi{f:D→D→Option α}(H:AE P μ h vs ds)(e:as2 ds f=some p)(k:∀v1 v2 d1 d2,AH P μ h v1 d1→AH P μ h v2 d2→f d1 d2=some p→CL [v1,v2]):CL vs:=by
 cases ds with
 |nil=>exact xns e
 |cons d1 ds=>cases ds with
  |nil=>exact xns e
  |cons d2 ds=>cases ds with
  |cons=>exact xns e
  |nil=>exact H.e2 fun v1 v2 V1 V2=>k v1 v2 d1 d2 V1 V2 e
theorem YE{f:D→D→D→Option α}(H:AE P μ h vs ds)(e:as3 ds f=some p)(k:∀v1 v2 v3 d1 d2 d3,AH P μ h v1 d1→AH P μ h v2 d2→AH P μ h v3 d3→f d1 d2 d3=some p→CL [v1,v2,v3]):CL vs:=by
 cases ds with
 |nil=>exact xns e
 |cons d1 ds=>cases ds with
  |nil=>exact xns e
  |cons d2 ds=>cases ds with
  |nil=>exact xns e
  |cons d3 ds=>cases ds with
   |cons=>exact xns e
   |nil=>exact H.e3 fun v1 v2 v3 V1 V2 V3=>k v1 v2 v3 d1 d2 d3 V1 V2 V3 e
end
theorem Qj{b:Bin}{o:Operator}(h:opB b o=true):o=opr b:=of_decide_eq_true h
theorem Cv(a b:List Nat):txt a++txt b=txt (a++b):=by
 show Str.mk (a.toArray++b.toArray)=_
 simp
theorem Au(a:List Nat):(txt a).length=a.length:=rfl
theorem BX.append{a b:List Nat}(ha:BX a)(hb:BX b)(hl:a.length+b.length≤1000000):BX (a++b):=⟨fun c h=>(bV.mp h).elim (ha.1 c) (hb.1 c),by simpa using hl⟩
theorem BX.sub{a b:List Nat}(ha:BX a)(h:∀c∈b,c∈a)(hl:b.length≤1000000):BX b:=⟨fun c hc=>ha.1 c (h c hc),hl⟩
theorem JE(x:Array Nat):∀(n:Nat) (acc:Array Nat),(List.foldl (fun x1 x2=>x1++x2) acc (bO n x))=acc++(bO n x.toList).flatten.toArray
 |0,acc=>rfl
 |n+1,acc=>by
  simp only[List.replicate_succ,cg,JE x n,List.replicate_succ,List.flatten_cons,Array.append_assoc]
  congr 1
  apply Array.toList_inj.mp;simp
theorem N4(a:List Nat):∀n:Nat,(bO n a).flatten.length=n*a.length
 |0=>by simp
 |n+1=>by simp only[List.replicate_succ,List.flatten_cons,ae,N4 a n,Nat.succ_mul];lia
theorem TZ(a:List Nat)(i:Int)(h0:0≤i):Txt.mul (txt a) i=txt (bO i.toNat a).flatten:=by
 unfold Txt.mul;by_cases h1:i<1
 ·rw[if_pos h1];haveI:i.toNat=0:=by lia
  refine this▸ ?_;rfl
 ·rw[if_neg h1];by_cases h2:(i==1||(txt a).length==0)=true
  ·rw[if_pos h2]
   rcases Bool.or_eq_true_iff.mp h2 with h|h
   ·haveI:i.toNat=1:=by haveI:=beq_iff_eq.mp h;lia
    refine this▸ ?_;simp
   ·haveI ha:a=[]:=by
     haveI h':=beq_iff_eq.mp h;simp only[Au]at h';exact ch.mp h'
    subst ha;simp
  ·rw[if_neg h2,JE];simp
theorem Mi{i:Int}(h:i.natAbs<1000000000):Builtin.Int.intBits i≤64:=intBits_le_64 (by omega) (by omega)
theorem LK{a b:Int}(h:a.natAbs<1000000000):IntMulOk a b:=by
 unfold IntMulOk;haveI h1:=Mi h;haveI:(decide (Builtin.Int.intBits a>shortFactorBits))=false:=decide_eq_false (by
  haveI:(64:Nat)≤shortFactorBits:=by decide
  lia)
 refine this▸ ?_;simp
theorem Dj(a b:List Nat):eqL a b=decide (a=b):=by
 induction a generalizing b with
 |nil=>cases b<;>simp[eqL]
 |cons x a ih=>cases b with
  |nil=>simp[eqL]
  |cons y b=>
   simp only[eqL,ih];by_cases h:x=y
   ·subst h;simp
   ·haveI:Nat.beq x y=false:=by
     cases q:Nat.beq x y with
     |false=>rfl
     |true=>exact absurd (bt q) h
    rw[this];simp[h]
theorem Bp(x y:Nat):Nat.beq x y=decide (x=y):=by
 by_cases h:x=y
 ·subst h;simp
 ·cases q:Nat.beq x y with
  |false=>simp[h]
  |true=>exact absurd (bt q) h
theorem N5(x y:Nat):Nat.blt x y=decide (x<y):=by
 unfold Nat.blt;by_cases h:x<y
 ·simp only[decide_eq_true h];exact Nat.ble_eq_true_of_le h
 ·cases q:Nat.ble (x+1) y with
  |false=>simp[h]
  |true=>exact absurd (au q) h
theorem Ta(a b:List Nat):ltL a b=decide (a<b):=by
 induction a generalizing b with
 |nil=>cases b<;>simp[ltL]
 |cons x a ih=>cases b with
  |nil=>simp[ltL]
  |cons y b=>
   simp only[ltL,ih,Bp,N5];simp only[show decide (x::a<y::b)=decide (x<y∨x=y∧a<b) from decide_eq_decide.mpr List.cons_lt_cons_iff]
   by_cases h1:x<y<;>by_cases h2:x=y<;>simp[h1,h2]
theorem Hk{a b:List Nat}:txt a=txt b↔a=b:=by
 constructor
 ·intro h;injection h with h;simpa using h
 ·rintro rfl;rfl
noncomputable def toP (σ:AA):Nat→D→PyData
 |0,_=>.none
 |_+1,.none=>.none
 |_+1,.bool b=>.bool b
 |_+1,.int i=>.int i
 |_+1,.str l=>.str (txt l)
 |_+1,.dig n=>.str (txt (AB n))
 |n+1,.tup l=>.tuple (l.map (toP σ n))
 |n+1,.loc i=>match σ[i]? with
  |some (.lst l)=>.list (l.map (toP σ n))
  |_=>.none
 |_+1,_=>.none
theorem LL:∀(f n:Nat),∀c∈Df f n,c<128∧48≤c∧c≤57
 |0,_,_,h=>by contradiction
 |f+1,n,c,h=>by
  unfold Df at h;split at h
  ·haveI:=bA.mp h;lia
  ·rcases aj.mp h with h|h
   ·lia
   ·exact LL f _ c h
theorem Hl(n:Nat):∀c∈AB n,c<128:=fun c h=>(LL 20 n c (List.mem_reverse.mp h)).1
theorem JF{l:List Nat}(h:∀c∈l,c<128):PyData.strOk (txt l)=true:=by
 unfold PyData.strOk;rw[Array.all_eq_true];intro i hi;haveI:=h (l[i]'(by exact hi)) (List.getElem_mem _)
 simp;omega
def Vp (P:PI) (μ:List Addr) (σ:AA) (s:dG) (n:Nat) (v:dF) (d:D):Prop:=(∃as,Reads s.heap v (toP σ n d) as)∧(toP σ n d).canLay0=true∧(toP σ n d).depth≤n
theorem Hm{c:Option AI}{f:List D→Bool}(h:(match c with|some (.lst l)=>f l|_=>false)=true):∃l,c=some (.lst l)∧f l=true:=by
 cases c with
 |none=>exact xbf h
 |some c=>cases c with
  |lst l=>exact ⟨l,rfl,h⟩
  |_=>exact xbf h
theorem Dk(S:Sto P μ σ s.heap)(n:Nat):∀{v:dF} {d:D},conv σ n d=true→AH P μ s.heap v d→Vp P μ σ s n v d:=by
 induction n with
 |zero=>intro v d h;exact xbf h
 |succ n ih=>
  have all:∀(ds:List D) (vs:List dF),ds.all (conv σ n)=true→AE P μ s.heap vs ds→(∃as,ReadsAll s.heap vs (ds.map (toP σ n)) as)∧PyData.canLayAll0 (ds.map (toP σ n))=true∧PyData.depthAll (ds.map (toP σ n))≤n:=by
   intro ds
   induction ds with
   |nil=>intro vs _ H;apply H.nil_e;exact ⟨⟨_,.nil⟩,rfl,bC _⟩
   |cons d ds ihv=>
    intro vs hc H;have hc:=bD.mp hc;apply H.cons_e;intro v ws a r;obtain ⟨⟨as,h1⟩,h2,h3⟩:=ih hc.1 a;obtain ⟨⟨bs,k1⟩,k2,k3⟩:=ihv _ hc.2 r;exact ⟨⟨_,.cons h1 k1⟩,by rw[an];exact bD.mpr ⟨h2,k2⟩,Nat.max_le.mpr ⟨h3,k3⟩⟩
  intro v d hc H;cases d with
  |none=>apply H.none_e;exact ⟨⟨_,.none⟩,rfl,bC _⟩
  |bool b=>apply H.bool_e;exact ⟨⟨_,.bool b⟩,rfl,bC _⟩
  |int i=>apply H.int_e;intro t;exact ⟨⟨_,.int i t⟩,rfl,bC _⟩
  |str l=>apply H.str_e;intro t ha;exact ⟨⟨_,.str _ t⟩,JF ha.1,bC _⟩
  |dig m=>exact H.elim (fun v=>Vp P μ σ s (n+1) v (.dig m)) fun t _=>⟨⟨_,.str _ t⟩,JF (Hl m),bC _⟩
  |tup l=>
   apply H.tup_e;intro a o vs j ho hcl hd _ _ hr;obtain ⟨⟨as,h1⟩,h2,h3⟩:=all l vs hc hr;exact ⟨⟨_,.tuple ho hcl hd h1⟩,h2,ba h3⟩
  |loc i=>
   refine aW (Hm (c:=σ[i]?) hc) fun l l_q=> ?_;have hl:=l_q.1;haveI hc:=l_q.2
   apply H.loc_e;intro a e;refine AQ.lst_e (S.cell i a _ e hl) fun vs m ho _ hv=> ?_;obtain ⟨⟨as,h1⟩,h2,h3⟩:=all l vs hc hv;haveI et:toP σ (n+1) (.loc i)=.list (l.map (toP σ n)):=by
    show (match σ[i]? with|some (.lst l)=>PyData.list (l.map (toP σ n))|_=>.none)=_
    rw[hl]
   unfold Vp;refine et▸ ?_;exact ⟨⟨_,.list ho rfl rfl h1⟩,h2,ba h3⟩
  |_=>exact xbf hc
theorem N6(σ:AA)(m:Nat):(∀(n:Nat) (a b:D) (r:Bool),deq σ m a b=some r→conv σ n a=true→conv σ n b=true→PyData.eqv (toP σ n a) (toP σ n b)=r)∧
  (∀(n:Nat) (l l':List D) (r:Bool),J6 σ m l l'=some r→l.all (conv σ n)=true→l'.all (conv σ n)=true→PyData.eqvAll (l.map (toP σ n)) (l'.map (toP σ n))=r):=by
 induction m with
 |zero=>exact ⟨fun n a b r h=>(xns h),fun n l l' r h=>(xns h)⟩
 |succ m ih=>
  refine ⟨fun n a b r h ha hb=> ?_,fun n l l' r h hl hl'=> ?_⟩
  ·cases n with
   |zero=>exact xbf ha
   |succ n=>
    cases a with
    |none=>cases b with
     |none=>cases h;rfl
     |_=>exact xns h
    |int i=>cases b with
     |int j=>cases h;rfl
     |_=>exact xns h
    |str x=>cases b with
     |str y=>(injection h with h;subst h);exact (decide_eq_decide.mpr Hk).trans (Dj x y).symm
     |_=>exact xns h
    |tup x=>cases b with
     |tup y=>exact ih.2 n x y r h ha hb
     |_=>exact xns h
    |loc i=>
     refine aW (Hm (c:=σ[i]?) ha) fun l l_q=> ?_;have e1:=l_q.1;haveI ha:=l_q.2
     replace h:(σ[i]?.bind fun c=>LB c fun l=>B5 σ b fun _ m'=>J6 σ m l m')=some r:=h
     rw[e1]at h;cases b with
     |loc j=>
      refine aW (Hm (c:=σ[j]?) hb) fun l' l'_q=> ?_;haveI e2:=l'_q.1;haveI hb:=l'_q.2
      replace h:(σ[j]?.bind fun c=>LB c fun m'=>J6 σ m l m')=some r:=h
      rw[e2]at h
      show PyData.eqv (match σ[i]? with|some (.lst l)=>PyData.list (l.map (toP σ n))|_=>.none) (match σ[j]? with|some (.lst l)=>PyData.list (l.map (toP σ n))|_=>.none)=r
      rw[e1,e2];exact ih.2 n l l' r h ha hb
     |_=>exact xns h
    |_=>exact xns h
  ·cases l with
   |nil=>cases l' with
    |nil=>cases h;rfl
    |cons b l'=>cases h;rfl
   |cons a l=>cases l' with
    |nil=>cases h;rfl
    |cons b l'=>
     haveI hl:=bD.mp hl;haveI hl':=bD.mp hl';obtain ⟨t,q,h⟩:=bP.mp (show ((deq σ m a b).bind fun t=>match t with
    |true=>J6 σ m l l'
    |false=>some false)=some r from h)
     show (PyData.eqv (toP σ n a) (toP σ n b)&&PyData.eqvAll (l.map (toP σ n)) (l'.map (toP σ n)))=r
     rw[ih.1 n a b t q hl.1 hl'.1];cases t with
     |true=>exact ih.2 n l l' r h hl.2 hl'.2
     |false=>cases h;rfl
theorem Vq{op:Bin}{x y:D}{vx vy:dF}{r:Ro}(e:Bw σ op x y=some (r,σ'))(S:Sto P μ σ s.heap)(hx:AH P μ s.heap vx x)(hy:AH P μ s.heap vy y)
  (h:AY P μ r σ' s Q Er):dH (model P.prog P.w) A (binaryOp (opr op) vx vy) Q Er s:=by
 cases op with
 |add=>
  refine N2 (C:=fun v=>dH (model P.prog P.w) A (binaryOp (opr .add) v vy) Q Er s) hx e (fun i t e=> ?_) (fun a t ha e=> ?_) fun e=> ?_
  ·apply Ai hy e;intro j u e;exact PyProof.Rows.add_int (AY.same S (h.ret e) (.int _ _))
  ·apply Br hy e;intro b u hb e;have e:=Cl e;refine PyProof.Rows.add_str (fun t' tk=> ?_) (by simp only[Au,Au,dU];omega)
   simp only[Cv];exact AY.same S (h.ret e.2) (.str _ _ (BX.append ha hb (bz e.1)))
  ·apply DM S hx e;intro _ ax l vs n1 _ _ ho1 _ hv1 e;apply DM S hy e;intro _ ay m ws n2 _ _ ho2 _ hv2 e;have e:=Cl e;haveI e1:=hv1.length;haveI e2:=hv2.length;refine concat_meets ⟨_,ho1,rfl⟩ ⟨_,ho2,rfl⟩ noFill_list_add seq_list_add PySem.F.slot_list_add PySem.F.entry_list_add (PySem.F.args_list_add_2 _ _) (list_addW ax ay vs.toArray ws.toArray n1 n2 none none #[] #[] (by simp;refine dU▸ ?_;omega)) ⟨ho1,ho2,?_⟩
   haveI ee:vs.toArray++ws.toArray=(vs++ws).toArray:=by simp
   refine ee▸ ?_;exact AY.push (tk:=s.toks) S (h.alloc e.2) fun x0=>⟨vs++ws,0,Heap.get?_push_size _ rfl,by simp;omega,(hv1.mono x0).append (hv2.mono x0)⟩
 |sub=>
  apply Ai hx e;intro i t e;apply Ai hy e;intro j u e;exact PyProof.Rows.sub_int (AY.same S (h.ret e) (.int _ _))
 |mul=>
  refine N2 (C:=fun v=>dH (model P.prog P.w) A (binaryOp (opr .mul) v vy) Q Er s) hx e (fun i t e=> ?_) (fun al t ha e=> ?_) fun e=>xns e
  ·apply Ai hy e;intro j u e;haveI e:=Cl e;exact PyProof.Rows.mul_int (AY.same S (h.ret e.2) (.int _ _)) (LK e.1.1)
  ·apply Ai hy e;intro il u e;have e:=Cl e;have hb:=e.1;haveI hlen:(txt al).length=1:=by simp only[Au];exact hb.2.2
   refine SB.mul ⟨by simp;omega,fun _ _=> ?_,fun _ _=> ?_⟩ fun t' k=> ?_
   ·refine hlen▸ ?_;haveI:(1:Int)≤(2 ^ 63 - 1) / il:=Int.le_ediv_of_mul_le (by omega) (by omega)
    omega
   ·refine hlen▸ ?_;unfold Builtin.Str.tooLong;exact decide_eq_false (by refine dU▸ ?_;omega)
   ·rw[TZ _ _ hb.1];refine AY.same S (h.ret e.2) (.str _ _ (BX.sub ha (fun c hc=> ?_) (by simp only[N4,hb.2.2];omega)))
    refine aW (List.mem_flatten.mp hc) fun l l_q=> ?_;haveI hl:=l_q.1;haveI hc:=l_q.2
    simp only[(List.mem_replicate.mp hl).2]at hc;exact hc
 |fdiv=>
  apply Ai hx e;intro i t e;apply Ai hy e;intro j u e;haveI e:=Cl e;haveI hb2:=HU.mp e.1.2;exact PyProof.Rows.floordiv_int (Int.ne_of_gt e.1.1) (AY.same S (h.ret e.2) (.int _ _)) (.inl (PyProof.noPylong_small (by omega)))
 |mod=>
  apply Ai hx e;intro i t e;apply Ai hy e;intro j u e;haveI e:=Cl e;exact PyProof.Rows.mod_int' (Int.ne_of_gt e.1.1) (AY.same S (h.ret e.2) (.int _ _))
theorem Vr{b:Cmp}{o:CmpOp}(h:opC b o=true):o=Vl b:=of_decide_eq_true h
theorem FJ{l:List (Int×D)}{kvs:List (Int×dF)}{h:Heap}(hk:kvs.map (·.1)=l.map (·.1))(hv:AE P μ h (kvs.map (·.2)) (l.map (·.2)))(k:Int):
  match Bv l k with
  |some d=> ∃v,valueAt kvs k=some v∧AH P μ h v d
  |none=>valueAt kvs k=none:=by
 induction l generalizing kvs with
 |nil=>
  cases kvs with
  |nil=>rfl
  |cons _ _=>contradiction
 |cons p l ih=>
  cases kvs with
  |nil=>contradiction
  |cons kv kvs=>
   simp only[an,bI.injEq]at hk;simp only[an]at hv;cases hv with
   |cons a r=>
   haveI z:=ih hk.2 r;unfold Bv;by_cases e:p.1=k
   ·simp only[if_pos e];exact ⟨kv.2,by simp[valueAt,hk.1,e],a⟩
   ·rw[if_neg e];haveI:valueAt (kv::kvs) k=valueAt kvs k:=by simp[valueAt,hk.1,e]
    refine this▸ ?_;exact z
theorem Gv{l:List (List Nat×D)}{kvs:List (Str×dF)}{h:Heap}(hk:kvs.map (·.1)=l.map (fun p=>txt p.1))(hv:AE P μ h (kvs.map (·.2)) (l.map (·.2)))(k:List Nat):
  match Gs l k with
  |some d=> ∃v,valueAt kvs (txt k)=some v∧AH P μ h v d
  |none=>valueAt kvs (txt k)=none:=by
 induction l generalizing kvs with
 |nil=>
  cases kvs with
  |nil=>rfl
  |cons _ _=>contradiction
 |cons p l ih=>
  cases kvs with
  |nil=>contradiction
  |cons kv kvs=>
   simp only[an,bI.injEq]at hk;rw[an]at hv;cases hv with
   |cons a r=>
   haveI z:=ih hk.2 r;unfold Gs;simp only[Dj];by_cases e:p.1=k
   ·simp only[decide_eq_true e];exact ⟨kv.2,by simp[valueAt,hk.1,e],a⟩
   ·simp only[decide_eq_false e];haveI:valueAt (kv::kvs) (txt k)=valueAt kvs (txt k):=by simp[valueAt,hk.1,e]
    refine this▸ ?_;exact z
theorem PP(l:List (List Nat×D))(k:List Nat):(l.any fun p=>eqL p.1 k)=(Gs l k).isSome:=by
 induction l with
 |nil=>rfl
 |cons p l ih=>
  unfold Gs;simp only[bf,ih];cases h:eqL p.1 k<;>simp
theorem PQ(l:List (Int×D))(k:Int):(l.any fun p=>decide (p.1=k))=(Bv l k).isSome:=by
 induction l with
 |nil=>rfl
 |cons p l ih=>
  unfold Bv;simp only[bf,ih];by_cases h:p.1=k<;>simp[h]
noncomputable def EE (l:List (Int×D)):List (PyData×PyData):=l.map fun p=>(.int p.1,toP [] 1 p.2)
theorem Vs{k:Int}{d:D}{l:List (Int×D)}(h:strR ((k,d)::l)=true):∃s,d=.str s:=by
 cases d<;>first|exact ⟨_,rfl⟩|exact xbf h
theorem Vt{p:Int×D}{l:List (Int×D)}(h:strR (p::l)=true):strR l=true:=by
 simp only[strR,bQ,aw]at h;exact h.2
theorem J8{l:List (Int×D)}{kvs:List (Int×dF)}{h:Heap}(hs:strR l=true)(hk:kvs.map (·.1)=l.map (·.1))(hv:AE P μ h (kvs.map (·.2)) (l.map (·.2))):PyProof.V.FlatPairs PyData.int kvs (EE l):=by
 induction l generalizing kvs with
 |nil=>
  cases kvs with
  |nil=>exact .nil
  |cons _ _=>contradiction
 |cons p l ih=>
  cases kvs with
  |nil=>contradiction
  |cons kv kvs=>
   simp only[an,bI.injEq]at hk;rw[an]at hv;obtain ⟨k,v⟩:=kv;obtain ⟨k',d⟩:=p;cases hv with
   |cons a r=>
   haveI e:k=k':=hk.1;subst e;refine aW (Vs hs) fun s q=> ?_;subst q;exact a.str_e (C:=fun v=>PyProof.V.FlatPairs PyData.int ((k,v)::kvs) (EE ((k,.str s)::l))) fun t _=>.cons (.str _ _) (ih (Vt hs) hk.2 r)
end
end Mine
end
section
set_option backward.match.sparseCases true
namespace Mine
open PySem PySem.Calls PyProof.Rows PySem.Spec
section
variable{P:PI}{μ ν:List Addr}{σ σ':AA}{A:dJ}{s:dG}{Q Er:dF→dG→Prop}{stk:List PySem.Env}{k:Nat}
theorem D2(m:List (Int×D))(k:Int):PySem.Spec.lookup (.int k) (EE m)=(Bv m k).map (toP [] 1):=by
 induction m with
 |nil=>rfl
 |cons p m ih=>
  unfold Bv;haveI hs:PySem.Spec.same (PyData.int p.1) (PyData.int k)=decide (p.1=k):=PyProof.V.same_int _ _;by_cases e:p.1=k
  ·rw[if_pos e]
   show PySem.Spec.lookup (.int k) ((.int p.1,toP [] 1 p.2)::EE m)=_
   simp[PySem.Spec.lookup,PyProof.V.same_int,e]
  ·rw[if_neg e,←ih]
   show PySem.Spec.lookup (.int k) ((.int p.1,toP [] 1 p.2)::EE m)=_
   simp[PySem.Spec.lookup,PyProof.V.same_int,e]
theorem Gw(Db:List (PyData×PyData)):∀r:List (PyData×PyData),∃b,PySem.W.KeqRows Db r b
 | []=>⟨_,.nil⟩
 |(k,v)::r=>by
  refine aW (Gw Db r) fun b hb=> ?_;cases h:PySem.Spec.lookup k Db with
  |none=>exact ⟨_,.miss h⟩
  |some u=>exact ⟨_,.hit h hb⟩
set_option tactic.hygienic true in
theorem JG(m:List (Int×D)):∀(l:List (Int×D)) (b:Bool),deqd l m=some b→PySem.W.KeqRows (EE m) (EE l) b
 | [],b,h=>by (injection h with h;subst h);exact .nil
 |(k,d)::l,b,h=>by
  unfold deqd at h;split at h
  ·rename_i a x h1 h2;have hl:PySem.Spec.lookup (.int k) (EE m)=some (.str (txt x)):=by simp only[D2,h2];rfl
   simp only at h1;subst h1;split at h
   ·rename_i e;simp only[Dj]at e;haveI e:=of_decide_eq_true e;subst e;haveI z:=PySem.W.KeqRows.hit (v:=.str (txt a)) hl (JG m l b h);haveI:(PyData.eqv (.str (txt a)) (.str (txt a))&&b)=b:=by simp[PyData.eqv]
    simp only[this]at z;exact z
   ·rename_i e
    (injection h with h;subst h)
    simp only[Dj]at e;haveI e:=of_decide_eq_false e;refine aW (Gw (EE m) (EE l)) fun b' hb'=> ?_;haveI z:=PySem.W.KeqRows.hit (v:=.str (txt a)) hl hb';haveI:(PyData.eqv (.str (txt a)) (.str (txt x))&&b')=false:=by
     haveI: ¬txt a=txt x:=fun q=>e (Hk.mp q);rw[PyData.eqv,Bool.and_eq_false_iff];exact .inl (beq_eq_false_iff_ne.mpr this)
    simp only[this]at z;exact z
  ·rename_i h1 h2
   (injection h with h;subst h)
   refine .miss ?_;simp only[D2,h2];rfl
  ·exact xns h
theorem J9(l:List Nat)(c:Nat):(!(Builtin.Str.occurrences (txt l) (txt [c]) 0 (txt l).length 1).isEmpty)=(l.any fun x=>Nat.beq x c):=by
 rw[show txt [c]=(⟨#[c]⟩:Str) from rfl,StrLaws.found_one]
 rw[ci];simp only[decide_eq_true_eq,cQ,Bp];constructor
 ·intro h;exact ⟨c,by simpa using h,rfl⟩
 ·rintro ⟨x,hx,rfl⟩;simpa using hx
theorem LM(S:Sto P μ σ s.heap){i:Nat}{a:Addr}{l:List (Int×D)}(ei:μ[i]? =some a)(hi:σ[i]? =some (.dcti l))(hs:strR l=true):TabAt (intKind P.prog P.w) PyData.int s.heap a (EE l):=by
 refine aW (S.cell i a _ ei hi) fun kvs kvs_q=> ?_;haveI hd:=kvs_q.1;haveI hk:=kvs_q.2.1;haveI hv:=kvs_q.2.2.2
 exact ⟨beq_eq_false_iff_ne.mpr (S.fresh a (bB ei)).2,kvs,hd,J8 hs hk hv⟩
theorem Ff(l:List (Int×D)):(EE l).length=l.length:=by simp[EE]
def EqG (P:PI) (A:dJ) (s:dG) (Q Er:dF→dG→Prop) (vx vy:dF) (b:Bool):Prop:=
 (Q (.bool b) s→dH (model P.prog P.w) A (compareOp .Eq vx vy) Q Er s)∧(Q (.bool !b) s→dH (model P.prog P.w) A (compareOp .NotEq vx vy) Q Er s)
theorem LN{x y:D}{vx vy:dF}{b:Bool}(e:DA σ x y=some b)(S:Sto P μ σ s.heap)(hu:A.units+64<cLine)(hx:AH P μ s.heap vx x)(hy:AH P μ s.heap vy y):EqG P A s Q Er vx vy b:=by
 unfold DA at e;cases hc:conv σ 12 x&&conv σ 12 y with
 |true=>
  rw[hc]at e;have h:=bD.mp hc;obtain ⟨⟨as,r1⟩,c1,d1⟩:=Dk S 12 h.1 hx;obtain ⟨⟨bs,r2⟩,c2,d2⟩:=Dk S 12 h.2 hy;haveI z:=(N6 σ 40).1 12 x y b e h.1 h.2;haveI s1:SeqAt.shaped (toP σ 12 x)=true:=by unfold SeqAt.shaped;refine c1.symm▸ ?_;exact decide_eq_true (by lia)
  haveI s2:SeqAt.shaped (toP σ 12 y)=true:=by unfold SeqAt.shaped;refine c2.symm▸ ?_;exact decide_eq_true (by lia)
  exact ⟨fun h=>eq_dataH r1 r2 s1 s2 hu (by refine z▸ ?_;exact h),fun h=>ne_dataH r1 r2 s1 s2 hu (by refine z▸ ?_;exact h)⟩
 |false=>
  rw[hc]at e;refine Fe (C:=fun v=>EqG P A s Q Er v vy b) S hx e fun i ax l k1 ei hi _ _ _ _ e=>Fe (C:=fun v=>EqG P A s Q Er (.ref ax) v b) S hy e fun j ay m k2 ej hj _ _ _ _ e=> ?_;cases hs:strR l&&strR m with
  |false=>rw[hs]at e;exact xns e
  |true=>
   rw[hs]at e;haveI hs:=bD.mp hs;haveI T1:=LM S ei hi hs.1;haveI T2:=LM S ej hj hs.2
   replace e:(if l.length=m.length then deqd l m else some false)=some b:=e
   by_cases hl:l.length=m.length
   ·rw[if_pos hl]at e;have rows:=JG m l b e;haveI hl':(EE l).length=(EE m).length:=by simp only[Ff,Ff];exact hl
    exact ⟨fun h=>PySem.W.keq_tabs PyProof.V.same_int T1 T2 hl' (by lia) rows h,fun h=>PySem.W.kne_tabs PyProof.V.same_int T1 T2 hl' (by lia) rows h⟩
   ·rw[if_neg hl]at e
    (injection e with e;subst e)
    haveI hl':((EE l).length==(EE m).length)=false:=by simp only[Ff,Ff];exact beq_eq_false_iff_ne.mpr hl
    exact ⟨fun h=>PySem.W.keq_tabs_len T1 T2 hl' (by lia) h,fun h=>PySem.W.kne_tabs_len T1 T2 hl' (by lia) h⟩
theorem PR(σ:AA)(a:D)(ha:conv σ 12 a=true)(l:List D):∀{b:Bool},Gr σ a l=some b→l.all (conv σ 12)=true→(l.map (toP σ 12)).any (fun y=>PyData.eqv y (toP σ 12 a))=b:=by
 induction l with
 |nil=>intro b h _;cases h;rfl
 |cons x l ih=>
  intro b h hl;haveI hl:=bD.mp hl;obtain ⟨t,q,h⟩:=bP.mp (show ((deq σ 40 x a).bind fun t=>match t with
  |true=>some true
  |false=>Gr σ a l)=some b from h)
  show (PyData.eqv (toP σ 12 x) (toP σ 12 a)||(l.map (toP σ 12)).any (fun y=>PyData.eqv y (toP σ 12 a)))=b
  rw[(N6 σ 40).1 12 x a t q hl.1 ha];cases t with
  |true=>cases h;rfl
  |false=>exact ih h hl.2
theorem PS(S:Sto P μ σ s.heap)(ds:List D):∀{vs:List dF},ds.all (conv σ 12)=true→AE P μ s.heap vs ds→(∃as,ReadsAll s.heap vs (ds.map (toP σ 12)) as)∧PyData.canLayAll0 (ds.map (toP σ 12))=true:=by
 induction ds with
 |nil=>intro vs _ H;apply H.nil_e;exact ⟨⟨_,.nil⟩,rfl⟩
 |cons d ds ih=>
  intro vs hc H;have hc:=bD.mp hc;apply H.cons_e;intro v ws a r;obtain ⟨⟨as,h1⟩,h2,_⟩:=Dk S 12 hc.1 a;obtain ⟨⟨bs,k1⟩,k2⟩:=ih hc.2 r;exact ⟨⟨_,.cons h1 k1⟩,bD.mpr ⟨h2,k2⟩⟩
theorem PU(l:List (List Nat))(k:List Nat):(l.any fun x=>eqL x k)=decide (k∈l):=by
 rw[ci];simp only[cQ,decide_eq_true_eq,Dj];constructor
 ·rintro ⟨x,hx,rfl⟩;exact hx
 ·intro h;exact ⟨k,h,rfl⟩
theorem Hn{K:Type}[DecidableEq K](kvs:List (K×dF))(k:K):(valueAt kvs k).isSome=decide (k∈kvs.map (·.1)):=by
 induction kvs with
 |nil=>rfl
 |cons kv kvs ih=>
  by_cases e:kv.1=k
  ·simp[valueAt,e]
  ·haveI:valueAt (kv::kvs) k=valueAt kvs k:=by simp[valueAt,e]
   simp only[this,ih];haveI: ¬k=kv.1:=fun q=>e q.symm;simp[this]
theorem Cw(i:Int)(t:Tok):(intKind P.prog P.w).is i (.int i t)=true:=by simp[intKind,Value.isInt]
theorem DD(x:Str)(t:Tok):(PySem.strKind P.prog P.w).is x (.str x t)=true:=by simp[PySem.strKind,Value.isStrOf]
def InG (P:PI) (A:dJ) (s:dG) (Q Er:dF→dG→Prop) (vx vy:dF) (b:Bool):Prop:=
 ((∀tk,Q (.bool b) {s with toks:=tk})→dH (model P.prog P.w) A (compareOp .In vx vy) Q Er s)∧((∀tk,Q (.bool !b) {s with toks:=tk})→dH (model P.prog P.w) A (compareOp .NotIn vx vy) Q Er s)
theorem InG.dict{K:Type}[DecidableEq K]{knd:KeyKind P.prog P.w K}{k:K}{v:dF}{a:Addr}{kvs:List (K×dF)}{b:Bool}(hk:knd.is k v=true)(hne:a≠dY)(hd:s.heap.DictOf knd a kvs)(hb:(valueAt kvs k).isSome=b):InG P A s Q Er v (.ref a) b:=by
 haveI hne:=beq_eq_false_iff_ne.mpr hne;exact ⟨fun h=>wpAny_in_of hk hne hd.mapOf (by refine hb▸ ?_;exact h _),fun h=>wpAny_notIn_of hk hne hd.mapOf (by refine hb▸ ?_;exact h _)⟩
theorem N7{x:D}{l:List D}{b:Bool}{vx:dF}{vs:List dF}(e:FZ σ x l=some b)(S:Sto P μ σ s.heap)(hu:A.units+64<cLine)(hx:AH P μ s.heap vx x)(hv:AE P μ s.heap vs l){R:Prop}
  (k:∀as bs,Reads s.heap vx (toP σ 12 x) as→(toP σ 12 x).canLay0=true→ReadsAll s.heap vs (l.map (toP σ 12)) bs→PyData.canLayAll0 (l.map (toP σ 12))=true→(l.map (toP σ 12)).any (fun y=>PyData.eqv y (toP σ 12 x))=b→
   A.units+1+min (PyData.depthAll (List.map (toP σ 12) l)) (toP σ 12 x).depth<cLine→R):R:=by
 unfold FZ at e;cases hc:conv σ 12 x&&l.all (conv σ 12) with
 |false=>rw[hc]at e;exact xns e
 |true=>
  rw[hc]at e;have h:=bD.mp hc;obtain ⟨⟨as,r1⟩,c1,d1⟩:=Dk S 12 h.1 hx;obtain ⟨⟨bs,r2⟩,c2⟩:=PS S l h.2 hv;exact k as bs r1 c1 r2 c2 (PR σ x h.1 l e h.2) (am (bW (ag (Nat.min_le_right _ _) d1) _) (by lia))
theorem Ql{kvs:List (Int×dF)}{l:List (Int×D)}{h:Heap}(hk:kvs.map (·.1)=l.map (·.1))(hv:AE P μ h (kvs.map (·.2)) (l.map (·.2)))(k:Int):(valueAt kvs k).isSome=(l.any fun p=>decide (p.1=k)):=by
 haveI z:=FJ hk hv k;simp only[PQ];cases q:Bv l k with
 |none=>simp only[q]at z;exact congrArg Option.isSome (show valueAt kvs k=none from z)
 |some d=>simp only[q]at z;refine aW z fun v v_q=> ?_;haveI hv:=v_q.1;exact congrArg Option.isSome hv
theorem Qm{kvs:List (Str×dF)}{l:List (List Nat×D)}{h:Heap}(hk:kvs.map (·.1)=l.map (fun p=>txt p.1))(hv:AE P μ h (kvs.map (·.2)) (l.map (·.2)))(k:List Nat):(valueAt kvs (txt k)).isSome=(l.any fun p=>eqL p.1 k):=by
 haveI z:=Gv hk hv k;simp only[PP];cases q:Gs l k with
 |none=>simp only[q]at z;exact congrArg Option.isSome (show valueAt kvs (txt k)=none from z)
 |some d=>simp only[q]at z;refine aW z fun v v_q=> ?_;haveI hv:=v_q.1;exact congrArg Option.isSome hv
theorem N8{x y:D}{vx vy:dF}{b:Bool}(e:Nu σ x y=some b)(S:Sto P μ σ s.heap)(hu:A.units+64<cLine)(hx:AH P μ s.heap vx x)(hy:AH P μ s.heap vy y):InG P A s Q Er vx vy b:=by
 cases y with
 |str l=>
  refine hy.str_e (C:=fun v=>InG P A s Q Er vx v b) fun u _=>GS (C:=fun v=>InG P A s Q Er v _ b) hx e fun c t _ e=> ?_
  (injection e with e;subst e)
  exact ⟨fun h=>PyProof.Rows.in_str (by rw[J9];exact h s.toks),fun h=>PyProof.Rows.notIn_str (by rw[J9];exact h s.toks)⟩
 |tup l=>
  refine hy.tup_e (C:=fun v=>InG P A s Q Er vx v b) fun a o vs j ho hcl hd _ _ hr=>N7 e S hu hx hr fun as bs r1 c1 r2 c2 z room=> ?_;haveI rr:Reads s.heap (.ref a) (.tuple _) bs:=Reads.tuple ho hcl hd r2;exact ⟨fun h=>SeqAt.in_tuple_reads rr r1 c2 c1 room (by refine z▸ ?_;exact h s.toks),fun h=>SeqAt.notIn_tuple_reads rr r1 c2 c1 room (by refine z▸ ?_;exact h s.toks)⟩
 |fk ks=>
  refine hy.fk_e (C:=fun v=>InG P A s Q Er vx v b) fun a kvs hd hk hns=>Br (C:=fun v=>InG P A s Q Er v _ b) hx e fun kx t _ e=> ?_
  (injection e with e;subst e)
  haveI hd':s.heap.DictOf (PySem.strKind P.prog P.w) a kvs:=hd.imp fun o w=>w.imp fun es w=>w.imp fun ep w=>⟨S.base _ _ w.1,w.2⟩;refine InG.dict (knd:=strKind P.prog P.w) (DD _ _) hns hd' ?_;simp only[Hn,hk,PU];exact decide_eq_decide.mpr ⟨fun h=>aW (bT.mp h) fun y w=>Hk.mp w.2▸w.1,fun h=>bn h⟩
 |loc i=>
  refine Eg (f:=fun _ c=>LC σ x c) (C:=fun v=>InG P A s Q Er vx v b) S hy e fun n a c ei ec hc e=> ?_;have hne:=(S.fresh _ (bB ei)).2;cases c with
  |lst l=>
   refine AQ.lst_e hc fun vs c ho _ hv=>N7 e S hu hx hv fun as bs r1 c1 r2 c2 z room=> ?_;haveI rr:Reads s.heap (.ref a) (.list _) _:=Reads.list ho rfl rfl r2;exact ⟨fun h=>SeqAt.in_list_reads rr r1 c2 c1 room (by refine z▸ ?_;exact h s.toks),fun h=>SeqAt.notIn_list_reads rr r1 c2 c1 room (by refine z▸ ?_;exact h s.toks)⟩
  |dcti l=>
   refine AQ.dcti_e hc fun kvs hd hk _ hv=>Ai (C:=fun v=>InG P A s Q Er v _ b) hx e fun k t e=> ?_
   (injection e with e;subst e)
   exact InG.dict (knd:=intKind P.prog P.w) (Cw _ _) hne hd (Ql hk hv k)
  |dcts l=>
   refine AQ.dcts_e hc fun kvs hd hk _ hv=>Br (C:=fun v=>InG P A s Q Er v _ b) hx e fun k t _ e=> ?_
   (injection e with e;subst e)
   exact InG.dict (knd:=strKind P.prog P.w) (DD _ _) hne hd (Qm hk hv k)
  |_=>exact xns e
 |_=>exact xns e
theorem N9{x y:D}{vx vy:dF}{b:Bool}(e:Vj x y=some b)(hx:AH P μ s.heap vx x)(hy:AH P μ s.heap vy y):
  (Q (.bool b) s→dH (model P.prog P.w) A (compareOp .Is vx vy) Q Er s)∧(Q (.bool !b) s→dH (model P.prog P.w) A (compareOp .IsNot vx vy) Q Er s):=by
 apply TY hy e;intro e;cases x with
 |none=>(injection e with e;subst e);apply hx.none_e;exact ⟨fun h=>wpAny_is_plain rfl h,fun h=>wpAny_isNot_plain rfl h⟩
 |int i=>(injection e with e;subst e);apply hx.int_e;intro t;exact ⟨fun h=>wpAny_is_plain rfl h,fun h=>wpAny_isNot_plain rfl h⟩
 |tup l=>(injection e with e;subst e);apply hx.tup_e;intro a o vs j _ _ _ _ _ _;exact ⟨fun h=>wpAny_is_plain rfl h,fun h=>wpAny_isNot_plain rfl h⟩
 |_=>exact xns e
theorem Qn{o:Option Bool}{b:Bool}(e:o.map (!·)=some b):o=some !b:=by
 cases o with
 |none=>exact xns e
 |some c=>(injection e with e;subst e);rw[Bool.not_not]
theorem KA{op:Cmp}{x y:D}{vx vy:dF}{b:Bool}(e:BA σ op x y=some b)(S:Sto P μ σ s.heap)(hu:A.units+64<cLine)(hx:AH P μ s.heap vx x)(hy:AH P μ s.heap vy y)
  (h:∀tk,Q (.bool b) {s with toks:=tk}):dH (model P.prog P.w) A (compareOp (Vl op) vx vy) Q Er s:=by
 cases op with
 |eq=>exact (LN e S hu hx hy).1 (h s.toks)
 |ne=>exact (LN (Qn e) S hu hx hy).2 (by rw[Bool.not_not];exact h s.toks)
 |isIn=>exact (N8 e S hu hx hy).1 h
 |notIn=>exact (N8 (Qn e) S hu hx hy).2 (by rw[Bool.not_not];exact h)
 |isN=>exact (N9 e hx hy).1 (h s.toks)
 |isNotN=>exact (N9 (Qn e) hx hy).2 (by rw[Bool.not_not];exact h s.toks)
 |le=>
  refine N2 (C:=fun v=>dH (model P.prog P.w) A (compareOp .LtE v vy) Q Er s) hx e (fun i t e=> ?_) (fun a t ha e=> ?_) fun e=>xns e
  ·apply Ai hy e;intro j u e;(injection e with e;subst e);exact PyProof.Rows.le_int (h s.toks)
  ·apply Br hy e;intro l u _ e;(injection e with e;subst e);exact PySem.P.le_str (by rw[←Ta];exact h s.toks)
 |lt=>apply Ai hx e;intro i t e;apply Ai hy e;intro j u e;(injection e with e;subst e);exact PyProof.Rows.lt_int (h s.toks)
 |gt=>apply Ai hx e;intro i t e;apply Ai hy e;intro j u e;(injection e with e;subst e);exact PyProof.Rows.gt_int (h s.toks)
 |ge=>apply Ai hx e;intro i t e;apply Ai hy e;intro j u e;(injection e with e;subst e);exact PyProof.Rows.ge_int (h s.toks)
end
end Mine
end
section
namespace Mine
open PySem PySem.Calls PyProof.Rows PySem.Spec
section
variable{P:PI}{μ ν:List Addr}{σ σ':AA}{A:dJ}{s:dG}{Q Er:dF→dG→Prop}{stk:List PySem.Env}{k:Nat}
theorem Fg{y:Expr}(h:DT y=true)(o i:dF):subscripted y false o i=operate [o,i] (getItem o i):=by
 cases y<;>first|rfl|exact xbf h
theorem EF{i:Int}{n:Nat}{j:Nat}(h:(if i<0 then i+n else i)=(j:Int))(hj:j<n):seqIndex? i n=some j:=by
 unfold seqIndex?;rw[h];rw[if_pos (by simp;omega)]
 simp
set_option tactic.hygienic true in
theorem Tb{α:Type}{l:List α}{i:Int}{x:α}(e:atL l i=some x):∃j,seqIndex? i l.length=some j∧l[j]? =some x:=by
 unfold atL at e;split at e
 ·rename_i h0;haveI hlt:=(ap.mp e).1;exact ⟨i.toNat,EF (by rw[if_neg (by lia)];lia) hlt,e⟩
 ·rename_i h0;split at e
  ·rename_i h1;haveI hlt:=(ap.mp e).1;exact ⟨(i+l.length).toNat,EF (by rw[if_pos (by lia)];lia) hlt,e⟩
  ·exact xns e
theorem JH{α:Type}{l:List α}{i:Int}{x:α}(e:atL l i=some x): -(l.length:Int)≤i∧i<l.length:=by
 unfold atL at e;split at e
 ·haveI hlt:=(ap.mp e).1;lia
 ·split at e
  ·haveI hlt:=(ap.mp e).1;lia
  ·exact xns e
theorem BY{value slice:Expr}{o i:dF}{T id:String}(hns:DT slice=true)(hT:s.TypeIs o T)(hl:typeLookup (.type T) "__getitem__"=pure (some (.builtin id)))
  (hg:dH (model P.prog P.w) A (getItem o i) Q Er s):dH (model P.prog P.w) A (subscriptTail value slice o i) Q Er s:=
 tail_any hT hl hg (Fg hns o i)
theorem Vu{value slice:Expr}{x y d:D}{vx vy:dF}(hns:DT slice=true)(e:EB σ x y=some d)(S:Sto P μ σ s.heap)(hx:AH P μ s.heap vx x)(hy:AH P μ s.heap vy y)
  (h:∀v tk,AH P μ s.heap v d→Q v {s with toks:=tk}):dH (model P.prog P.w) A (subscriptTail value slice vx vy) Q Er s:=by
 cases x with
 |str l=>
  apply hx.str_e;intro t ha;apply Ai (f:=fun i=>if 0≤i then (l[i.toNat]?).map fun c=>D.str [c] else none) hy e
  intro i u e;have e:=Cl e;haveI h0:=e.1;refine aW (bG.mp e.2) fun c c_q=> ?_;haveI q:=c_q.1;haveI e2:=c_q.2
  haveI hlt:=(ap.mp q).1;haveI hlen:=ha.2;refine BY hns rfl PySem.F.slot_str_getitem.lookup (PyProof.Rows.getItem_str ?_ ?_ (h _ _ (e2▸AH.str [c] _ ⟨fun c' hc'=>bA.mp hc'▸ha.1 c (bB q),ba (bC _)⟩)))
  ·simp;lia
  ·rw[Au,EF (j:=i.toNat) (by rw[if_neg (by lia)];lia) hlt]
   show (l.toArray)[i.toNat]? =some c
   rw[bu];exact q
 |tup l=>
  apply hx.tup_e;intro a o vs k ho hc hd _ hb hr;apply Ai (f:=fun i=>atL l i) hy e;intro i u e;refine aW (Tb e) fun j j_q=> ?_;haveI hj:=j_q.1;haveI hjx:=j_q.2
  refine aW (hr.get hjx) fun v v_q=> ?_;haveI hv:=v_q.1;haveI hvr:=v_q.2
  haveI hlen:=hr.length;haveI hbd:=JH e;exact BY hns ⟨_,ho,hc⟩ PySem.F.slot_tuple_getitem.lookup (PyProof.Rows.getItem_tuple ⟨_,ho,hc,_,hd⟩ (by lia) (by lia) (j:=j) (by simp only[bg,hlen];exact hj) (by rw[bu];exact hv) (h v s.toks hvr))
 |fl l=>
  apply hx.fl_e;intro a vs hl hfb hr;apply Ai (f:=fun i=>if 0≤i then l[i.toNat]? else none) hy e
  intro i u e;have e:=Cl e;refine aW (hr.get e.2) fun v v_q=> ?_;haveI hv:=v_q.1;haveI hvr:=v_q.2
  haveI hl':s.heap.IsList a vs.toArray:=hl.imp fun o w=>⟨S.base _ _ w.1,w.2⟩;haveI hlt:=(ap.mp e.2).1;exact BY hns hl'.typeIs PySem.F.slot_list_getitem.lookup (wpAny_getItem_list hl' e.1 (by haveI:=hr.length;lia) (by rw[bu];exact hv) (h v s.toks hvr))
 |loc n=>
  apply Eg (f:=fun _ c=>TQ y c) S hx e;intro n a c ei ec hc e;cases c with
  |lst l=>
   refine AQ.lst_e hc fun vs m ho hb hv=> ?_;apply Ai (f:=fun i=>atL l i) hy e;intro i u e;haveI hl':s.heap.IsList a vs.toArray:=⟨_,ho,rfl,_,rfl⟩;haveI hbd:=JH e;haveI hlen:=hv.length;unfold atL at e;by_cases h0:0≤i
   ·rw[if_pos h0]at e;refine aW (hv.get e) fun v v_q=> ?_;haveI hv':=v_q.1;haveI hvr:=v_q.2
    exact BY hns hl'.typeIs PySem.F.slot_list_getitem.lookup (wpAny_getItem_list hl' h0 (by lia) (by rw[bu];exact hv') (h v s.toks hvr))
   ·rw[if_neg h0]at e;haveI e:=Cl e;refine aW (hv.get e.2) fun v v_q=> ?_;haveI hv':=v_q.1;haveI hvr:=v_q.2
    exact BY hns hl'.typeIs PySem.F.slot_list_getitem.lookup (wpAny_getItem_list_neg hl' (by lia) (by rw[bg];lia) (by lia) (by rw[bg,hlen,bu];exact hv') (h v s.toks hvr))
  |dcti l=>
   refine AQ.dcti_e hc fun kvs hd hk _ hv=> ?_;apply Ai (f:=fun k=>Bv l k) hy e;intro k u e;have z:=FJ hk hv k;rw[e]at z;exact aW z fun v w=>BY hns hd.mapOf.typeIs PySem.F.slot_dict_getitem.lookup (wpAny_getItem_of (knd:=intKind P.prog P.w) (Cw _ _) hd.mapOf w.1 (h v _ w.2))
  |dcts l=>
   refine AQ.dcts_e hc fun kvs hd hk _ hv=> ?_;apply Br (f:=fun k=>Gs l k) hy e;intro k u _ e;haveI z:=Gv hk hv k;rw[e]at z;exact aW z fun v w=>BY hns hd.mapOf.typeIs PySem.F.slot_dict_getitem.lookup (wpAny_getItem_of (knd:=PySem.strKind P.prog P.w) (DD _ _) hd.mapOf w.1 (h v _ w.2))
  |_=>exact xns e
 |_=>exact xns e
theorem Mj{α:Type}(l:List α)(lo hi:Nat):cut l lo hi=(l.drop (min lo l.length)).take (min hi l.length - min lo l.length):=by
 apply List.ext_getElem?;intro i;unfold cut;simp only[b9,List.getElem?_take,List.getElem?_take,b9];by_cases h1:lo+i<l.length
 ·haveI e1:min lo l.length=lo:=by lia
  rw[e1];by_cases h2:lo+i<hi
  ·rw[if_pos h2,if_pos (by lia)]
  ·rw[if_neg h2,if_neg (by lia)]
 ·haveI n1:l[lo+i]? =none:=cR (by lia)
  rw[n1];haveI n2:l[min lo l.length+i]? =none∨ ¬i<min hi l.length - min lo l.length:=by
   by_cases h3:min lo l.length+i<l.length
   ·exact .inr (by lia)
   ·exact .inl (cR (by lia))
  refine Or.elim n2 (fun n2=> ?_) fun n2=> ?_
  ·rw[n2];split<;>split<;>rfl
  ·rw[if_neg n2];split<;>rfl
theorem Tc{α:Type}{l:List α}{lo hi:Nat}{x:α}(h:x∈cut l lo hi):x∈l:=cS (c4 h)
theorem KC{α:Type}(l:List α)(lo hi:Nat):(cut l lo hi).length≤l.length:=by unfold cut;rw[List.length_drop,b0];omega
theorem AE.cut{h:Heap}{vs:List dF}{ds:List D}(H:AE P μ h vs ds)(lo hi:Nat):AE P μ h (cut vs lo hi) (cut ds lo hi):=(H.take hi).drop lo
theorem LO(lo hi:Option Nat)(len:Nat):Builtin.Str.strSliceIndices (lo.map bE) (hi.map bE) 1 len=(bM (min (hi.getD len) len - min (lo.getD 0) len)).map (fun k=>min (lo.getD 0) len+k):=by
 have key:∀(a b:Nat),Builtin.Str.strSliceIndices (some (a:Int)) (some (b:Int)) 1 len=(bM (min b len - min a len)).map (fun k=>min a len+k):=by
  intro a b;haveI h1: ¬((a:Int)<0):=by lia
  haveI h2: ¬((b:Int)<0):=by lia
  haveI e1:max (0:Int) (min (a:Int) (len:Int))=((min a len:Nat):Int):=by lia
  haveI e2:max (0:Int) (min (b:Int) (len:Int))=((min b len:Nat):Int):=by lia
  simp only[Builtin.Str.strSliceIndices,sliceRange,h1,h2,if_false,e1,e2,show ((1:Int)>0)=True from by decide,if_true]
  by_cases hlt:((min a len:Nat):Int)<((min b len:Nat):Int)
  ·have e3:((((min b len:Nat):Int) - ((min a len:Nat):Int)+1 - 1) / 1).toNat=min b len - min a len:=by lia
   simp only[hlt,if_true,e3];refine cD fun k _=> ?_;lia
  ·have:min b len - min a len=0:=by lia
   simp[hlt,this]
 cases lo with
 |none=>
  cases hi with
  |none=>haveI:=key 0 len;rw[←StrLaws.sliceIdx_none_hi,show ((0:Nat):Int)=0 from rfl,←StrLaws.sliceIdx_none_lo]at this;exact this
  |some b=>haveI:=key 0 b;rw[show ((0:Nat):Int)=0 from rfl,←StrLaws.sliceIdx_none_lo]at this;exact this
 |some a=>
  cases hi with
  |none=>haveI:=key a len;rw[←StrLaws.sliceIdx_none_hi]at this;exact this
  |some b=>exact key a b
theorem HH{α:Type}(l:List α)(a:Nat):∀n:Nat,((bM n).map (fun k=>a+k)).filterMap (fun i=>l[i]?)=(l.drop a).take n:=by
 intro n
 induction n with
 |zero=>simp
 |succ n ih=>
  simp only[List.range_succ,bb,List.filterMap_append,ih,List.take_add_one]
  congr 1
  simp only[b9];cases h:l[a+n]? <;>simp[h]
theorem Mk(l:List Nat)(lo hi:Option Nat):(Builtin.Str.strSliceIndices (lo.map bE) (hi.map bE) 1 (txt l).length).filterMap (fun i:Nat=>(txt l).cps[i]?)=cut l (lo.getD 0) (hi.getD l.length):=by
 simp only[Au,LO,Mj];haveI:(fun i:Nat=>(txt l).cps[i]?)=fun i:Nat=>l[i]? :=by funext i;simp
 simp only[this,HH]
theorem Ml(l:List Nat)(lo hi:Option Nat)(h:(Builtin.Str.strSliceIndices (lo.map bE) (hi.map bE) 1 (txt l).length).length=(txt l).length):cut l (lo.getD 0) (hi.getD l.length)=l:=by
 simp only[Au,LO,ak,cT]at h;simp only[Mj];by_cases h0:l.length=0
 ·haveI:l=[]:=ch.mp h0;subst this;simp
 ·haveI h1:min (lo.getD 0) l.length=0:=by lia
  rw[h1];haveI h2:min (hi.getD l.length) l.length=l.length:=by lia
  rw[h2];simp
set_option tactic.hygienic true in
theorem KD{l:List Nat}{t:Tok}{lo hi:Option (Int×Tok)}{a b:Option Nat}(ha:lo.map (·.1)=a.map bE)(hb:hi.map (·.1)=b.map bE)(hl:l.length≤1000000)
  (h:∀t' tk,Q (.str (txt (cut l (a.getD 0) (b.getD l.length))) t') {s with toks:=tk}):(sliceMade (txt l) t lo hi none).post Q s:=by
 haveI hp:slicePicked (txt l) lo hi none=Builtin.Str.strSliceIndices (a.map bE) (b.map bE) 1 (txt l).length:=by
  unfold slicePicked;rw[ha,hb];rfl
 unfold sliceMade;refine hp▸ ?_;split
 ·rename_i hc;haveI e:=beq_iff_eq.mp (bD.mp hc).2;haveI z:=h t s.toks;rw[Ml l a b e]at z;exact z
 ·rw[Mk];refine ⟨?_,h s.toks _⟩;simp only[show (⟨(cut l (a.getD 0) (b.getD l.length)).toArray⟩:Str)=txt (cut l (a.getD 0) (b.getD l.length)) from rfl,Au,dU]
  haveI:=KC l (a.getD 0) (b.getD l.length);lia
set_option tactic.hygienic true in
theorem KE{v:dF}{d:D}{h:Heap}{n k:Nat}(hv:AH P μ h v d)(e:Dz k d=some n):
  Ex2 fun (lo:Option (Int×Tok)) (a:Option Nat)=>A3 (v=partValue lo) (lo.map (·.1)=a.map bE) (a.getD k=n):=by
 unfold Dz at e;split at e
 ·cases hv;(injection e with e;subst e);exact ⟨none,none,rfl,rfl,rfl⟩
 ·rename_i i;obtain ⟨t,rfl⟩:=AH.int_inv hv;split at e
  ·rename_i h0;haveI h0:=HU.mp h0
   (injection e with e;subst e)
   refine ⟨some (i,t),some i.toNat,rfl,?_,rfl⟩;simp only[Option.map_some]
   congr 1
   show i=((i.toNat:Nat):Int)
   lia
  ·exact xns e
 ·exact xns e
theorem PV{vs:List dF}{lo hi:Option (Int×Tok)}{a b:Option Nat}(ha:lo.map (·.1)=a.map bE)(hb:hi.map (·.1)=b.map bE):
  slicePick vs.toArray (lo.map (·.1)) (hi.map (·.1)) none=(cut vs (a.getD 0) (b.getD vs.length)).toArray:=by
 simp only[slicePick_plain,ha,hb,Mj];haveI e1:(a.map bE).elim 0 (clipAt vs.toArray.size)=min (a.getD 0) vs.length:=by
  cases a with
  |none=>simp
  |some a=>exact clipAt_nat _ _
 haveI e2:(b.map bE).elim vs.toArray.size (clipAt vs.toArray.size)=min (b.getD vs.length) vs.length:=by
  cases b with
  |none=>simp
  |some b=>exact clipAt_nat _ _
 simp only[e1,e2]
theorem JI(lo:Option (Int×Tok)):IsPart (partValue lo) (lo.map (·.1)):=by
 cases lo with
 |none=>exact .none
 |some p=>exact .int p.1 p.2
noncomputable abbrev CX (vl vu:dF):Obj:={cls:=.type "slice",data:=.fields #[vl,vu,.none]}
theorem OA{value:Expr}{l u:Option Expr}{p:Pos}{plo phi:Option (Int×Tok)}{a b:Option Nat}{aa:Addr}{vs:List dF}{ls:List D}{r:Ro}{n m:Nat}(S:Sto P μ σ s.heap)(h1:plo.map (·.1)=a.map bE)(h3:phi.map (·.1)=b.map bE)(h2:a.getD 0=n)(h4:b.getD ls.length=m)
  (hl':s.heap.IsList aa vs.toArray) (hb:vs.length≤1000000) (hv:AE P μ s.heap vs ls) (e:alloc σ (.lst (cut ls n m))=some (r,σ')) (h:AY P μ r σ' s Q Er):
  dH (model P.prog P.w) A (subscriptTail value (.Slice l u none p) (.ref aa) (.ref s.heap.objs.size)) Q Er {s with heap:=s.heap.push (CX (partValue plo) (partValue phi))}:=by
 haveI hsl:(s.heap.push (CX (partValue plo) (partValue phi))).get? s.heap.objs.size=some (CX (partValue plo) (partValue phi)):=Heap.get?_push_size _ rfl;haveI kp:=AN.push s.heap (CX (partValue plo) (partValue phi));haveI hlen:=hv.length;haveI hl':(s.heap.push (CX (partValue plo) (partValue phi))).IsList aa vs.toArray:=hl'.imp fun o w=>⟨kp _ _ w.1,w.2⟩;refine tail_any (T:="list") (Heap.IsList.typeIs (s:={s with heap:=s.heap.push (CX (partValue plo) (partValue phi))}) hl') PySem.F.slot_list_getitem.lookup ?_ rfl;refine wpAny_getItem_list_slice hl' ⟨_,hsl,rfl,rfl⟩ (JI plo) (JI phi) .none (by decide) ?_ (by simp only[bg,dU];lia)
 rw[PV h1 h3];haveI S':=S.keeps kp;haveI h:=h.alloc e;haveI hP:AY P μ (.ok (.loc σ.length)) (σ++[.lst (cut ls n m)]) {s with heap:=s.heap.push (CX (partValue plo) (partValue phi))} Q Er:=by
  intro v h' tk ν x1 x2 x3;refine h v h' tk ν ?_ x2 x3;haveI:=(kp.ext (μ:=μ) (ν:=[]) (fun _ q=>nomatch q)).trans (by rw[af];exact x1)
  rwa[List.nil_append]at this
 refine AY.push (tk:=s.toks) S' hP fun x0=>⟨cut vs n m,0,?_,?_,?_⟩
 ·rw[h2,hlen,h4];exact Heap.get?_push_size _ rfl
 ·haveI:=KC vs n m;lia
 ·haveI x1:=(kp.ext (μ:=μ) (ν:=[]) (fun _ q=>nomatch q));haveI:=AE.mono x1 hv;rw[af]at this;rw[h2,hlen,h4]at x0 ⊢;exact (this.mono x0).cut n m
theorem Vv{value:Expr}{l u:Option Expr}{p:Pos}{x lo hi:D}{vx vl vu:dF}{r:Ro}(e:D0 σ x lo hi=some (r,σ'))(S:Sto P μ σ s.heap)(hx:AH P μ s.heap vx x)(hl:AH P μ s.heap vl lo)(hu:AH P μ s.heap vu hi)
  (h:AY P μ r σ' s Q Er):dH (model P.prog P.w) A (subscriptTail value (.Slice l u none p) vx (.ref s.heap.objs.size)) Q Er {s with heap:=s.heap.push (CX vl vu)}:=by
 obtain ⟨n,e1,e⟩:=bP.mp e;obtain ⟨plo,a,k1,h1,h2⟩:=KE hl e1;refine k1▸ ?_;cases x with
 |str lst=>
  obtain ⟨m,e2,e⟩:=bP.mp (show ((Dz lst.length hi).bind fun hi=>Ab (.str (cut lst n hi)) σ)=some (r,σ') from e)
  obtain ⟨phi,b,k2,h3,h4⟩:=KE hu e2;refine k2▸ ?_;apply hx.str_e;intro t ha;refine tail_any (T:="str") rfl PySem.F.slot_str_getitem.lookup ?_ rfl;refine wpAny_getItem_str_slice (l:=plo) (u:=phi) (st:=none) ⟨_,Heap.get?_push_size _ rfl,rfl,rfl⟩ rfl ?_;refine KD h1 h3 ha.2 fun t' tk=> ?_;simp only[h2,h4];exact AY.ok0 S (h.ret e) (AN.push _ _) (.str _ _ (BX.sub ha (fun c hc=>Tc hc) (ag (KC _ _ _) ha.2)))
 |loc i=>
  apply DM (f:=fun _ l=>(Dz l.length hi).bind fun hi=>alloc σ (.lst (cut l n hi))) S hx e;intro _ aa ls vs c _ _ ho hb hv e;obtain ⟨m,e2,e⟩:=bP.mp e;obtain ⟨phi,b,k2,h3,h4⟩:=KE hu e2;refine k2▸ ?_;exact OA S h1 h3 h2 h4 ⟨_,ho,rfl,_,rfl⟩ hb hv e h
 |fl ls=>
  obtain ⟨m,e2,e⟩:=bP.mp (show ((Dz ls.length hi).bind fun hi=>alloc σ (.lst (cut ls n hi)))=some (r,σ') from e)
  obtain ⟨phi,b,k2,h3,h4⟩:=KE hu e2;refine k2▸ ?_;apply hx.fl_e;intro aa vs hL hb hv;exact OA S h1 h3 h2 h4 (hL.imp fun o w=>⟨S.base _ _ w.1,w.2⟩) hb hv e h
 |_=>exact xns e
end
end Mine
end
section
set_option backward.match.sparseCases true
namespace Mine
open PySem
def Td (M:dO) (Γ:Ctx) (p:Pos) (e:End) (s':dG) (g:Nat) (k:dg→Sem Fin) (e₁:End) (s₁:dG):Prop:=Runs M Γ p (k e₁.result) [] (s₁.setGen g e₁.genState) e s'
def HX (M:dO) (Γ:Ctx) (p:Pos) (s:dG) (e:End) (s':dG) (g:Nat) (r:Resume) (k:dg→Sem Fin) (x:Option GenState):Prop:=match x with
 |none=>False
 |some (.fresh c)=>(match r with
  | .send v=>(v=.none∧∃e₁ s₁,Runs M (Γ.wake c p) p (M.den c) [] (s.setGen g .running) e₁ s₁∧Td M Γ p e s' g k e₁ s₁)∨(v≠ .none∧Runs M Γ p (k .justStarted) [] s e s')
  | .throw x=>Runs M Γ p (k (.raised x)) [] (s.setGen g .finished) e s')
 |some (.suspended k₀ _ c₀ p₀ fs _)=> ∃e₁ s₁,Runs M (Γ.wake c₀ p) p₀ (k₀ r) fs (s.setGen g .running) e₁ s₁∧Td M Γ p e s' g k e₁ s₁
 |some .running=>Runs M Γ p (k .running) [] s e s'
 |some .finished=>Runs M Γ p (k .finished) [] s e s'
def HY (M:dO) (Γ:Ctx) (s₁:dG) (e:End) (s':dG) (F:Frame) (fs:List Frame) (v:dF) (g₀:Bool) (l₀:List dF) (k₀:Resume→Sem Fin) (c₀:Code) (p₀:Pos) (fs₀:List Frame) (x:Option (List Frame×(Nat×(dg→Sem Fin)×Code×Pos)×List Frame)):Prop:=match x with
 |none=>e=.susp v g₀ l₀ k₀ c₀ p₀ (fs₀++F::fs)∧s'=s₁
 |some (pre,(g,k,c₁,p₁),rest)=>Runs M (Γ.goto c₁) p₁ (k (.yielded v)) rest (s₁.setGen g (End.susp v g₀ l₀ k₀ c₀ p₀ (fs₀++pre)).genState) e s'
def Qo (M:dO) (Γ:Ctx) (p:Pos) (e:End) (s':dG) (h:Option dF) (g:Bool) (l:List dF) (k:Result→Sem Fin) (e₁:End) (s₁:dG):Prop:=match e₁ with
 | .ret r=>Runs M Γ p (k r) [] s₁ e s'
 | .susp v g₀ l₀ k₀ c₀ p₀ fs=>e=.susp v g₀ l₀ k₀ c₀ p₀ (fs++[.ret k h g l Γ.code p []])∧s'=s₁
def Mm (M:dO) (Γ:Ctx) (e:End) (s':dG) (F:Frame) (fs:List Frame) (e₁:End) (s₁:dG):Prop:=match e₁ with
 | .ret r=>(match F with
  | .ret k _ _ _ c₁ p₁ _=>Runs M (Γ.goto c₁) p₁ (k r) fs s₁ e s'
  | .gen g k _ c₁ p₁=>Runs M (Γ.goto c₁) p₁ (k (End.ret r).result) fs (s₁.setGen g .finished) e s')
 | .susp v g₀ l₀ k₀ c₀ p₀ fs₀=>HY M Γ s₁ e s' F fs v g₀ l₀ k₀ c₀ p₀ fs₀ (splitAtGen (F::fs))
noncomputable def Te (M:dO) (Γ:Ctx) (p:Pos) (s:dG) (e:End) (s':dG):List Frame→Sem Fin→Prop
 | [],.pure (.done f)=>e=.ret (.ok f)∧s'=s
 | [],.pure (.again c)=>Runs M (Γ.goto c) p (M.den c) [] s e s'
 | [],.raise x=>e=.ret (.error x)∧s'=s
 | [],.rule _ k=>Runs M Γ p (k ()) [] s e s'
 | [],.at p' k=>Runs M Γ p' (k ()) [] s e s'
 | [],.load a _ k=> ∃o,s.heap.get? a=some o∧Runs M Γ p (k o) [] s e s'
 | [],.update a _ f k=>Runs M Γ p (k ()) [] {s with heap:=s.heap.update a f} e s'
 | [],.loadIfAlive a k=>Runs M Γ p (k (s.heap.get? a)) [] s e s'
 | [],.point _ k=>Runs M Γ p (k ()) [] s e s'
 | [],.alloc o k=>Runs M Γ p (k s.heap.objs.size) [] {s with heap:=s.heap.push o} e s'
 | [],.fresh k=>Runs M Γ p (k s.toks) [] {s with toks:=s.toks+1} e s'
 | [],.ask k=>Runs M Γ p (k ⟨M.prog,M.w.params⟩) [] s e s'
 | [],.choose src n k=>Runs M Γ p (k (M.w.draws src (s.drawn.get src)%n)) [] {s with drawn:=s.drawn.bump src} e s'
 | [],.os q _ k=>Runs M Γ p (k (Os.step s.os q).2) [] {s with os:=(Os.step s.os q).1} e s'
 | [],.handled own k=>Runs M Γ p (k (if own then Γ.own else Γ.handled)) [] s e s'
 | [],.genState g k=> ∃st,s.gens[g]? =some st∧Runs M Γ p (k st.seen) [] s e s'
 | [],.stack k=>Runs M Γ p (k ((Γ.code,p)::Γ.below)) [] s e s'
 | [],.thread k=>Runs M Γ p (k 0) [] s e s'
 | [],.newGen c k=>Runs M Γ p (k s.gens.size) [] {s with gens:=s.gens.push (.fresh c)} e s'
 | [],.call c h g l k=> ∃e₁ s₁,Runs M (Γ.enter c h p) p (M.den c) [] s e₁ s₁∧Qo M Γ p e s' h g l k e₁ s₁
 | [],.yield v g l k=>e=.susp v g l k Γ.code p []∧s'=s
 | [],.resume g r _ k=>HX M Γ p s e s' g r k s.gens[g]?
 |F::fs,t=> ∃e₁ s₁,Runs M (Γ.over (F::fs)) p t [] s e₁ s₁∧Mm M Γ e s' F fs e₁ s₁
 | [],_=>False
theorem Qp{M:dO}{Γ:Ctx}{s₁ s':dG}{e:End}{F:Frame}{fs:List Frame}{v:dF}{g₀:Bool}{l₀:List dF}{k₀:Resume→Sem Fin}{c₀:Code}{p₀:Pos}{fs₀:List Frame}{x:Option (List Frame×(Nat×(dg→Sem Fin)×Code×Pos)×List Frame)}(q:splitAtGen (F::fs)=x)(h:HY M Γ s₁ e s' F fs v g₀ l₀ k₀ c₀ p₀ fs₀ x):Mm M Γ e s' F fs (.susp v g₀ l₀ k₀ c₀ p₀ fs₀) s₁:=by
 show HY _ _ _ _ _ _ _ _ _ _ _ _ _ _ (splitAtGen (F::fs))
 simp only[q];exact h
theorem OB{M:dO}{Γ:Ctx}{s₁ s':dG}{e:End}{F:Frame}{fs:List Frame}{v:dF}{g₀:Bool}{l₀:List dF}{k₀:Resume→Sem Fin}{c₀:Code}{p₀:Pos}{fs₀:List Frame}{x:Option (List Frame×(Nat×(dg→Sem Fin)×Code×Pos)×List Frame)}(q:splitAtGen (F::fs)=x)(h:Mm M Γ e s' F fs (.susp v g₀ l₀ k₀ c₀ p₀ fs₀) s₁):HY M Γ s₁ e s' F fs v g₀ l₀ k₀ c₀ p₀ fs₀ x:=q▸h
theorem GT{M:dO}{Γ:Ctx}{p:Pos}{s s':dG}{e:End}{g:Nat}{r:Resume}{l:List dF}{k:dg→Sem Fin}{x:Option GenState}(q:s.gens[g]? =x)(h:HX M Γ p s e s' g r k x):Te M Γ p s e s' [] (.resume g r l k):=by
 show HX M Γ p s e s' g r k s.gens[g]?
 simp only[q];exact h
theorem Eh{M:dO}{Γ:Ctx}{p:Pos}{s s':dG}{e:End}{g:Nat}{r:Resume}{l:List dF}{k:dg→Sem Fin}{x:Option GenState}(q:s.gens[g]? =x)(h:Te M Γ p s e s' [] (.resume g r l k)):HX M Γ p s e s' g r k x:=q▸h
theorem inv{M:dO}{Γ:Ctx}{p:Pos}{t:Sem Fin}{fs:List Frame}{s s':dG}{e:End}(h:Runs M Γ p t fs s e s'):Te M Γ p s e s' fs t:=
 Runs.casesOn (motive:=fun Γ p t fs s e s' _=>Te M Γ p s e s' fs t) h ⟨rfl,rfl⟩ ⟨rfl,rfl⟩ (fun _ h=>h) (fun h=>h) (fun h=>h) (fun q h=>⟨_,q,h⟩) (fun _ h=>h) (fun h=>h) (fun h=>h) (fun h=>h) (fun h=>h) (fun h=>h) (fun _ h=>h) (fun h=>h) (fun h=>h) (fun q h=>⟨_,q,h⟩) (fun h=>h) (fun h=>h) (fun h=>h) (fun a b=>⟨_,_,a,b⟩) (fun a=>⟨_,_,a,rfl,rfl⟩) ⟨rfl,rfl⟩
  (fun q a _ b=>GT q (Or.inl ⟨rfl,_,_,a,b⟩)) (fun q a _ b=>GT q ⟨_,_,a,b⟩) (fun q n b=>GT q (Or.inr ⟨n,b⟩)) (fun q b=>GT q b) (fun q b=>GT q b) (fun q b=>GT q b)
  (fun a b=>⟨_,_,a,b⟩) (fun a b=>⟨_,_,a,b⟩) (fun q a=>⟨_,_,a,Qp q ⟨rfl,rfl⟩⟩) (fun q a _ b=>⟨_,_,a,Qp q b⟩)
theorem Ho{α β:Type}{C:α→β→Prop}{a a':α}{b b':β}(q:a'=a∧b'=b)(c:C a' b'):C a b:=q.1▸q.2▸c
theorem Runs.det{M:dO}{Γ:Ctx}{p:Pos}{t:Sem Fin}{fs:List Frame}{s s₁:dG}{e₁:End}(h₁:Runs M Γ p t fs s e₁ s₁):∀(C:End→dG→Prop) (e₂:End) (s₂:dG),Runs M Γ p t fs s e₂ s₂→C e₂ s₂→C e₁ s₁:=
 Runs.rec (motive:=fun Γ p t fs s e₁ s₁ _=> ∀(C:End→dG→Prop) (e₂:End) (s₂:dG),Runs M Γ p t fs s e₂ s₂→C e₂ s₂→C e₁ s₁)
  (fun _ _ _ h c=>Ho (show _∧_ from inv h) c) (fun _ _ _ h c=>Ho (show _∧_ from inv h) c) (fun _ _ ih C _ _ h c=>ih C _ _ (inv h) c) (fun _ ih C _ _ h c=>ih C _ _ (inv h) c) (fun _ ih C _ _ h c=>ih C _ _ (inv h) c)
  (fun q _ ih C _ _ h c=>aW (inv h) fun o w=>ih C _ _ (aq.inj (w.1.symm.trans q)▸w.2) c)
  (fun _ _ ih C _ _ h c=>ih C _ _ (inv h) c) (fun _ ih C _ _ h c=>ih C _ _ (inv h) c) (fun _ ih C _ _ h c=>ih C _ _ (inv h) c) (fun _ ih C _ _ h c=>ih C _ _ (inv h) c) (fun _ ih C _ _ h c=>ih C _ _ (inv h) c) (fun _ ih C _ _ h c=>ih C _ _ (inv h) c) (fun _ _ ih C _ _ h c=>ih C _ _ (inv h) c) (fun _ ih C _ _ h c=>ih C _ _ (inv h) c) (fun _ ih C _ _ h c=>ih C _ _ (inv h) c)
  (fun q _ ih C _ _ h c=>aW (inv h) fun o w=>ih C _ _ (aq.inj (w.1.symm.trans q)▸w.2) c)
  (fun _ ih C _ _ h c=>ih C _ _ (inv h) c) (fun _ ih C _ _ h c=>ih C _ _ (inv h) c) (fun _ ih C _ _ h c=>ih C _ _ (inv h) c)
  (fun _ _ ih1 ih2 C _ _ h c=>aW (inv h) fun _ w=>aW w fun _ w=>ih2 C _ _ (ih1 (Qo M _ _ _ _ _ _ _ _) _ _ w.1 w.2) c)
  (fun _ ih C _ _ h c=>aW (inv h) fun _ w=>aW w fun _ w=>Ho (show _∧_ from ih (Qo M _ _ _ _ _ _ _ _) _ _ w.1 w.2) c)
  (fun _ _ _ h c=>Ho (show _∧_ from inv h) c)
  (fun q _ _ _ ih1 ih2 C e s h c=>Or.elim (Eh q (inv h)) (fun z=>aW z.2 fun _ w=>aW w fun _ w=>ih2 C _ _ (ih1 (Td M _ _ _ _ _ _) _ _ w.1 w.2) c) fun z=>absurd rfl z.1)
  (fun q _ _ _ ih1 ih2 C e s h c=>aW (Eh q (inv h)) fun _ w=>aW w fun _ w=>ih2 C _ _ (ih1 (Td M _ _ _ _ _ _) _ _ w.1 w.2) c)
  (fun q n _ ih C _ _ h c=>Or.elim (Eh q (inv h)) (fun z=>absurd z.1 n) fun z=>ih C _ _ z.2 c)
  (fun q _ ih C _ _ h c=>ih C _ _ (Eh q (inv h)) c) (fun q _ ih C _ _ h c=>ih C _ _ (Eh q (inv h)) c) (fun q _ ih C _ _ h c=>ih C _ _ (Eh q (inv h)) c)
  (fun _ _ ih1 ih2 C _ _ h c=>aW (inv h) fun _ w=>aW w fun _ w=>ih2 C _ _ (ih1 (Mm M _ _ _ _ _) _ _ w.1 w.2) c)
  (fun _ _ ih1 ih2 C _ _ h c=>aW (inv h) fun _ w=>aW w fun _ w=>ih2 C _ _ (ih1 (Mm M _ _ _ _ _) _ _ w.1 w.2) c)
  (fun q _ ih C _ _ h c=>aW (inv h) fun _ w=>aW w fun _ w=>Ho (show _∧_ from OB q (ih (Mm M _ _ _ _ _) _ _ w.1 w.2)) c)
  (fun q _ _ _ ih1 ih2 C _ _ h c=>aW (inv h) fun _ w=>aW w fun _ w=>ih2 C _ _ (OB q (ih1 (Mm M _ _ _ _ _) _ _ w.1 w.2)) c) h₁
def Qq (M:dO) (Γ:Ctx) (p:Pos) (g:Nat) (r:Resume) (s:dG) (res:dg) (s':dG) (x:Option GenState):Prop:=match x with
 |none=>False
 |some (.fresh c)=>(match r with
  | .send .none=> ∃e₁ s₁,Runs M (Γ.wake c p) p (M.den c) [] (s.setGen g .running) e₁ s₁∧e₁.quiet=true∧res=e₁.result∧s'=s₁.setGen g e₁.genState
  | .send _=>res=.justStarted∧s'=s
  | .throw x=>res=.raised x∧s'=s.setGen g .finished)
 |some (.suspended k₀ _ c₀ p₀ fs _)=>
  ∃e₁ s₁,Runs M (Γ.wake c₀ p) p₀ (k₀ r) fs (s.setGen g .running) e₁ s₁∧e₁.quiet=true∧res=e₁.result∧s'=s₁.setGen g e₁.genState
 |some .running=>res=.running∧s'=s
 |some .finished=>res=.finished∧s'=s
theorem OC{α β:Type}{C:α→β→Prop}{a a1 a2:α}{b b1 b2:β}(q1:a1=a∧b1=b)(q2:a2=a∧b2=b)(c:C a2 b2):C a1 b1:=q1.1.symm▸q1.2.symm▸Ho q2 c
theorem VJ{M:dO}{Γ:Ctx}{p:Pos}{t:Sem Fin}{fs:List Frame}{s s₁ s₂:dG}{g:Nat}{r₁ r₂:dg}(h₁:∃e s',Runs M Γ p t fs s e s'∧e.quiet=true∧r₁=e.result∧s₁=s'.setGen g e.genState)(h₂:∃e s',Runs M Γ p t fs s e s'∧e.quiet=true∧r₂=e.result∧s₂=s'.setGen g e.genState){C:dg→dG→Prop}(c:C r₂ s₂):C r₁ s₁:=
 aW h₁ fun _ w=>aW w fun _ w=>aW h₂ fun _ z=>aW z fun _ z=>w.2.2.1.symm▸w.2.2.2.symm▸Runs.det w.1 (fun e s'=>C e.result (s'.setGen g e.genState)) _ _ z.1 (Ho z.2.2 c)
theorem Wakes.det{M:dO}{Γ:Ctx}{p:Pos}{g:Nat}{r:Resume}{s s₁ s₂:dG}{r₁ r₂:dg}{C:dg→dG→Prop}(h₁:Wakes M Γ p g r s r₁ s₁)(h₂:Wakes M Γ p g r s r₂ s₂)(c:C r₂ s₂):C r₁ s₁:=by
 haveI h₁:Qq M Γ p g r s r₁ s₁ s.gens[g]? :=h₁;haveI h₂:Qq M Γ p g r s r₂ s₂ s.gens[g]? :=h₂;generalize s.gens[g]? =x at h₁ h₂;cases x with
 |none=>exact h₁.elim
 |some st=>
  cases st with
  |fresh=>cases r with
   |send v=>cases v with
    |none=>exact VJ h₁ h₂ c
    |_=>exact OC h₁ h₂ c
   |throw x=>exact OC h₁ h₂ c
  |suspended=>exact VJ h₁ h₂ c
  |running=>exact OC h₁ h₂ c
  |finished=>exact OC h₁ h₂ c
theorem Tf{α:Type}(M:dO)(Γ:Ctx)(t:Sem α){Q Q':α→Pos→dG→Prop}{E E':dF→Pos→dG→Prop}:∀(p:Pos) (s:dG),Sem.wp M Γ t Q E p s→Sem.wp M Γ t Q' E' p s→Sem.wp M Γ t (fun a p s=>Q a p s∧Q' a p s) (fun e p s=>E e p s∧E' e p s) p s:=by
 induction t with
 |pure a=>intro p s h h';exact ⟨h,h'⟩
 |raise e=>intro p s h h';exact ⟨h,h'⟩
 |unsupported=>intro p s h;exact aY h
 |finish=>intro p s h;exact aY h
 |rule _ k ih=>intro p s h h';exact ih _ _ _ h h'
 |«at» _ k ih=>intro p s h h';exact ih _ _ _ h h'
 |load a _ k ih=>
  intro p s h h';exact aW h fun o w=>aW h' fun o' w'=>⟨o,w.1,ih _ _ _ w.2 (aq.inj (w'.1.symm.trans w.1)▸w'.2)⟩
 |update a _ f k ih=>intro p s h h';exact ⟨h.1,ih _ _ _ h.2 h'.2⟩
 |loadIfAlive a k ih=>intro p s h h';exact ih _ _ _ h h'
 |point _ k ih=>intro p s h h';exact ih _ _ _ h h'
 |register=>intro p s h;exact aY h
 |alloc o k ih=>intro p s h h';exact ih _ _ _ h h'
 |fresh k ih=>intro p s h h';exact ih _ _ _ h h'
 |ask k ih=>intro p s h h';exact ih _ _ _ h h'
 |choose src n k ih=>intro p s h h';exact ⟨h.1,ih _ _ _ h.2 h'.2⟩
 |os q _ k ih=>intro p s h h';exact ih _ _ _ h h'
 |call c hd _ _ k ih=>
  intro p s h h';exact aW h fun r w=>aW w fun s₁ w=>aW h' fun r' w'=>aW w' fun s₂ w'=>⟨r,s₁,w.1,ih _ _ _ w.2 (Runs.det w.1 (fun e s=>match e with
   | .ret r=>Sem.wp M Γ (k r) Q' E' p s
   |_=>True) _ _ w'.1 w'.2)⟩
 |handled own k ih=>intro p s h h';exact ih _ _ _ h h'
 |genState g k ih=>
  intro p s h h';exact aW h fun o w=>aW h' fun o' w'=>⟨o,w.1,ih _ _ _ w.2 (aq.inj (w'.1.symm.trans w.1)▸w'.2)⟩
 |newGen c k ih=>intro p s h h';exact ih _ _ _ h h'
 |resume g r _ k ih=>
  intro p s h h';exact aW h fun r w=>aW w fun s₁ w=>aW h' fun r' w'=>aW w' fun s₂ w'=>⟨r,s₁,w.1,ih _ _ _ w.2 (Wakes.det (C:=fun r s=>Sem.wp M Γ (k r) Q' E' p s) w.1 w'.1 w'.2)⟩
 |yield=>intro p s h;exact aY h
 |stack k ih=>intro p s h h';exact ih _ _ _ h h'
 |fork=>intro p s h;exact aY h
 |thread k ih=>intro p s h h';exact ih _ _ _ h h'
 |await=>intro p s h;exact aY h
theorem Mn{α:Type}{M:dO}{A:dJ}{t:Sem α}{Q Q':α→dG→Prop}{E E':dF→dG→Prop}{s:dG}(h:dH M A t Q E s)(h':dH M A t Q' E' s):
  dH M A t (fun a s=>Q a s∧Q' a s) (fun e s=>E e s∧E' e s) s:=fun Γ p q=>Tf M Γ t p s (h Γ p q) (h' Γ p q)
end Mine
end
section
namespace Mine
open PySem PySem.Calls PyProof.Rows PySem.Spec
structure Ok (P:PI):Prop where
 bi:P.hb.Ns dT P.mb
 gl:P.hb.Ns dR P.mg
 fnObj:∀f a,P.fn f=some a→∃o fd,P.hb.get? a=some o∧o.data=.func fd
 lvGet:∀(A:dJ) (s:dG) (Q E:dF→dG→Prop) (x dx:Addr) (m:Str→Option dF) (k:Nat) (v:dF),AN P.hb s.heap→s.heap.get? x=some (PySem.W.instObj P.lv dx)→dx≠x→s.heap.Ns1 dx m→m (CW k)=some v→handedOut v=pure v→
  Q v {s with toks:=s.toks+1}→dH (model P.prog P.w) A (getAttr (.ref x) (CW k) true) Q E s
noncomputable def Qr (L:Addr) (h:Heap):List (Addr×Obj):=(bM h.objs.size).filterMap fun a=>if a=L then none else (h.get? a).map fun o=>(a,o)
theorem Fh{L:Addr}{h:Heap}{a:Addr}{o:Obj}(e:h.get? a=some o)(n:a≠L):(a,o)∈Qr L h:=by
 unfold Qr;rw[cU];exact ⟨a,cE.mpr (Heap.lt_size e),by rw[if_neg n,e];rfl⟩
set_option tactic.hygienic true in
theorem OD{L:Addr}{h:Heap}{p:Addr×Obj}(m:p∈Qr L h):h.get? p.1=some p.2∧p.1≠L:=by
 unfold Qr at m;rw[cU]at m;obtain ⟨a,_,e⟩:=m;split at e
 ·exact xns e
 ·rename_i n;cases q:h.get? a with
  |none=>rw[q]at e;exact xns e
  |some o=>rw[q]at e;(injection e with e;subst e);exact ⟨q,n⟩
noncomputable def h0:Heap:={objs:= #[]}
theorem OE(b:Addr):h0.get? b=none:=by delta Heap.get? h0;simp
section
variable{P:PI}{μ ν:List Addr}{σ σ':AA}{A:dJ}{s:dG}{Q Er:dF→dG→Prop}{stk:List PySem.Env}{k:Nat}
theorem OF{L:Addr}{h:Heap}{m:Str→Option dF}(n:h.Ns L m):Fr h0 L h m:=⟨n,fun b o e=>(nomatch (OE b).symm.trans e),bC _⟩
theorem JJ(L:Addr)(h:Heap):News h0 L h (Qr L h):=fun p m=>⟨(OD m).1,(OD m).2,OE _⟩
theorem Ok.biS(K:Ok P){h:Heap}(S:Sto P μ σ h):h.Ns dT P.mb:=K.bi.keeps S.base
theorem Ok.glS(K:Ok P){h:Heap}(S:Sto P μ σ h):h.Ns dR P.mg:=K.gl.keeps S.base
def Th (L:Addr) (s:dG) (R:Obj→Prop) (v:dF) (s':dG):Prop:=
 ∃(B:Addr) (o:Obj),v=.ref B∧(∃h' tk,s'={s with heap:=h',toks:=tk})∧(∀b ob,b≠L→s.heap.get? b=some ob→s'.heap.get? b=some ob∧b<B)∧s'.heap.get? B=some o∧R o
theorem JK(K:Ok P)(S:Sto P μ σ s.heap){t:Sem dF}{R:Obj→Prop}(hr:∀L m,s.heap.Ns L m→dH (model P.prog P.w) A t (Th L s R) (fun _ _=>False) s)
  (h:∀B o h' tk,s.heap.get? B=none→B≠dY→AN s.heap h'→h'.get? B=some o→R o→Q (.ref B) {s with heap:=h',toks:=tk}):dH (model P.prog P.w) A t Q Er s:=by
 refine db (Mn (hr dT _ (K.biS S)) (hr dR _ (K.glS S))) (fun v s' hx=> ?_) (fun _ _ x=>x.1.elim);obtain ⟨⟨B,o,rfl,⟨h',tk,rfl⟩,hk,hB,hR⟩,⟨B',o',e,_,hk',_,_⟩⟩:=hx
 (injection e with e;subst e)
 have key:∀b ob,s.heap.get? b=some ob→h'.get? b=some ob∧b<B:=fun b ob e=>by
  by_cases q:b=dT
  ·exact hk' b ob (by refine q▸ ?_;decide) e
  ·exact hk b ob q e
 refine h B o h' tk ?_ ?_ (fun b ob e=>(key b ob e).1) hB hR
 ·cases q:s.heap.get? B with
  |none=>rfl
  |some ob=>exact absurd (key B ob q).2 (cP _)
 ·obtain ⟨o1,ho1⟩:=S.sys;exact cC (key _ _ (S.base _ _ ho1)).2
theorem Hp{vs:List dF}{ns:List Int}{h:Heap}(H:IntsAre vs ns):AE P μ h vs (ns.map .int):=by
 induction H with
 |nil=>exact .nil
 |cons n t _ ih=>exact .cons (.int n t) ih
theorem OG(k:Int):∀l:List Int,Mine.insI k l=PySem.W.insI k l
 | []=>rfl
 |a::l=>by
  unfold Mine.insI PySem.W.insI;by_cases q:a<k
  ·rw[if_pos q,if_neg (by lia),OG k l]
  ·rw[if_neg q,if_pos (by lia)]
theorem Hq:∀l:List Int,Mine.sortI l=PySem.W.sortI l
 | []=>rfl
 |a::l=>by
  show Mine.insI a (Mine.sortI l)=PySem.W.insI a (PySem.W.sortI l)
  simp only[Hq l,OG]
theorem PW{ns l:List Int}(hp:ns.Perm l)(hs:ns.Pairwise (fun x y=>x≤y)):ns=Mine.sortI l:=by
 simp only[Hq];exact List.Perm.eq_of_pairwise (fun _ _ _ _ a b=>Int.le_antisymm a b) hs (PySem.W.sortI_rises l) (hp.trans (PySem.W.sortI_perm l).symm)
theorem PY(K:Ok P)(hh:A.handled=none){i:Nat}{a:Addr}{l:List (Int×D)}(S:Sto P μ σ s.heap)(ei:μ[i]? =some a)(hi:σ[i]? =some (.dcti l))(hl:l.length<64)
  (h:AY P μ (.ok (.loc σ.length)) (σ++[.lst ((Mine.sortI (l.map (·.1))).map .int)]) s Q Er):dH (model P.prog P.w) A (call (.builtin "sorted") [.ref a]) Q Er s:=by
 obtain ⟨kvs,hd,hk,hb,hv⟩:=S.cell _ _ _ ei hi;have hlen:kvs.length=l.length:=by simpa using congrArg bX hk
 haveI hsy:(a==dY)=false:=by simpa using (S.fresh a (bB ei)).2
 obtain ⟨ep,hat⟩:=hd.dictAt;refine JK (R:=fun o=> ∃vs c,o=PySem.W.listOf (List.toArray vs) c∧IntsAre vs (Mine.sortI (l.map (·.1)))) K S (fun L m hn=> ?_) fun B o h' tk hB hsB hkp hBo hR=> ?_
 ·refine PySem.W.kdu_sorted (PySem.W.kdl_dict (knd:=intKind P.prog P.w) (kvs:=kvs) (ep:=ep) hsy) hh (OF hn) (JJ L s.heap) hat (by simp only[hlen,dU];lia) fun D h' tk vs F' N' l1 hvl hvv=> ?_
  haveI hints:IntsAre vs (kvs.map (·.1)):=by
   haveI:∀(vs:List dF) (ks:List (Int×dF)),vs.length=ks.length→(∀(j:Nat) (v:dF),vs[j]? =some v→∃(k:Int) (x:dF),ks[j]? =some (k,x)∧(intKind P.prog P.w).is k v=true)→IntsAre vs (ks.map (·.1)):=by
    intro vs
    induction vs with
    |nil=>intro ks e _;cases ks with
     |nil=>exact .nil
     |cons _ _=>contradiction
    |cons v vs ih=>intro ks e q;cases ks with
     |nil=>contradiction
     |cons p ks=>
      obtain ⟨k,x,e1,e2⟩:=q 0 v rfl;simp at e1;subst e1;haveI hvk:∃t,v=.int k t:=by
       cases v<;>simp[intKind,Value.isInt]at e2;subst e2;exact ⟨_,rfl⟩
      obtain ⟨t,rfl⟩:=hvk;exact .cons k t (ih ks (by simpa using e) fun j v hj=>q (j+1) v (by simpa using hj))
   exact this vs kvs hvl hvv
  refine PySem.W.ksk_lsort F' N' (fun o=>.head fun p hp=>bo (l1 p hp)) (rfl) hints (by simp only[ak,hlen];exact hl) fun vs' ns' c h'' F'' N'' hi' _ hperm hpw _=> ?_
  refine ⟨D,PySem.W.listOf (List.toArray vs') c,rfl,⟨h'',_,rfl⟩,fun b ob hbL e=>⟨N''.get (.tail _ (Fh e hbL)),l1 _ (Fh e hbL)⟩,N''.get (.head _),vs',c,rfl,?_⟩;rw[←PW (hk▸hperm) hpw];exact hi'
 ·obtain ⟨vs,c,rfl,hi'⟩:=hR;haveI hl':vs.length≤1000000:=by
   haveI h1:=(Hp (P:=P) (μ:=μ) (h:=h') hi').length;simp only[h1,ak,Hq,(PySem.W.sortI_perm _).length_eq,ak];lia
  haveI z:=S.alloc hkp hB hsB (c:=.lst ((Mine.sortI (l.map (·.1))).map .int)) ⟨vs,c,hBo,hl',Hp hi'⟩
  refine h (.ref B) h' tk [B] z.2 z.1 (.loc ?_);rw[←S.len];simp
end
section
variable{P:PI}{μ ν:List Addr}{σ σ':AA}{A:dJ}{s:dG}{Q Er:dF→dG→Prop}{stk:List PySem.Env}{k:Nat}
theorem OH:∀r:Nat,r<10→(Nat.digitChar r).toNat=48+r:=by decide
theorem JL:∀(f g n:Nat) (ds:List Char),n<10 ^ (f+1)→n<g→(Nat.toDigitsCore 10 g n ds).map Char.toNat=(Df (f+1) n).reverse++ds.map Char.toNat
 |f,0,n,ds,h,h2=>by lia
 |f,g+1,n,ds,h,h2=>by
  unfold Nat.toDigitsCore Df;by_cases q:n<10
  ·haveI h0:n / 10=0:=by lia
   haveI hm:n%10=n:=by lia
   simp[h0,hm,q,OH n q]
  ·haveI h0:n / 10≠0:=by lia
   cases f with
   |zero=>
        haveI:n<10:=by exact h
        exact absurd this q
   |succ f=>
    haveI hp:n<10 ^ (f+1)*10:=by rw[←Nat.pow_succ];exact h
    simp only[h0,q,if_false];simp only[JL f g (n / 10) _ (by lia) (by lia)]
    simp[OH (n%10) (by lia)]
theorem Mo(n:Nat)(h:n<1000000000):Str.ofString (toString (n:Int))=txt (AB n):=by
 simp only[show ((n:Int))=bE n from rfl,PyProof.Rows.text_ofNat]
 delta Nat.toDigits AB txt;simp only[JL 19 (n+1) n [] (by lia) (by lia)]
 simp
noncomputable def JM:BI→dF
 | .len=>.builtin "len"
 | .sorted=>.builtin "sorted"
 | .str=>.type "str"
 | .abs=>.builtin "abs"
 | .min=>.builtin "min"
 | .dict=>.type "dict"
 | .listItems=>.type "list"
 | .ord=>.builtin "ord"
 | .chr=>.builtin "chr"
noncomputable def HZ:BI→Bool
 | .dict=>false
 | .listItems=>false
 |_=>true
theorem LP:∀(f n:Nat),(Df f n).length≤f
 |0,_=>by simp[Df]
 |f+1,n=>by
  unfold Df;split
  ·simp
  ·simp;exact LP f _
theorem GU(n:Nat):BX (AB n):=⟨Hl n,by unfold AB;rw[cF];haveI:=LP 20 n;lia⟩
theorem YF(K:Ok P)(hh:A.handled=none){b:BI}{ds:List D}{vs:List dF}{r:Ro}(hb:HZ b=true)(e:Dg σ b ds=some (r,σ'))(S:Sto P μ σ s.heap)(hx:AE P μ s.heap vs ds)
  (h:AY P μ r σ' s Q Er):dH (model P.prog P.w) A (call (JM b) vs) Q Er s:=by
 cases b with
 |len=>
  apply DC hx e;intro v d V e;refine N2 (C:=fun v=>dH (model P.prog P.w) A (call (JM .len) [v]) Q Er s) V e (fun _ _ e=>xns e) (fun l t ha e=> ?_) fun e=> ?_
  ·exact PyProof.Rows.len_str (by haveI:=ha.2;rw[Au];lia) (by rw[Au];exact AY.same S (h.ret e) (.int _ _))
  ·apply DM S V e;intro _ a l vs c _ _ ho hb hv e;exact call_len_list ⟨_,ho,rfl,_,rfl⟩ (by rw[bg];lia) (by rw[bg,hv.length];exact AY.same S (h.ret e) (.int _ _))
 |sorted=>
  apply DC hx e;intro v d V e;apply Fe S V e;intro i a l kvs ei hi _ _ _ _ e;haveI e:=Cl e;exact PY K hh S ei hi e.1 (h.alloc e.2)
 |str=>
  apply DC hx e;intro v d V e;apply Ai V e;intro i t e;haveI e:=Cl e;haveI hi:=HU.mp e.1;obtain ⟨n,q⟩:=Int.eq_ofNat_of_zero_le hi.1;subst q;refine PySem.P.str_of_int ?_ ?_
  ·haveI:(n:Int).natAbs=n:=rfl;rw[this];haveI h1:n<2 ^ 1920:=bv (show n<1000000000 by lia) (by decide)
   by_cases q:n=0
   ·subst q;decide
   ·exact (Nat.log2_lt q).mpr h1
  ·rw[Mo n (by lia)]
   exact AY.same S (h.ret e.2) (.str _ _ (GU n))
 |abs=>
  apply DC hx e;intro v d V e;apply Ai V e;intro i t e;refine call_abs_int fun u tk=> ?_;haveI:(if i<0 then -i else i)=(i.natAbs:Int):=by split<;>lia
  rw[this];exact AY.same S (h.ret e) (.int _ _)
 |min=>
  apply Qi hx e;intro v1 v2 d1 d2 V1 V2 e;apply Ai V1 e;intro i t e;apply Ai V2 e;intro j u e;refine min_two_ints hh fun h' tk hk=>AY.ok0 S (h.ret e) hk ?_;by_cases q:j<i
  ·rw[if_pos q,if_pos q];exact .int _ _
  ·rw[if_neg q,if_neg q];exact .int _ _
 |ord=>
  apply DC hx e;intro v d V e;apply GS V e;intro c t _ e;exact PySem.P.ord_of_char (AY.same S (h.ret e) (.int _ _))
 |dict=>exact xbf hb
 |listItems=>exact xbf hb
 |chr=>exact xns e
end
open PySem.StrLaws PySem.Builtin.Str in
theorem occ_head_gen(x y:Str)(lo hi limit:Nat)(hl:1≤limit):
  (occurrences x y lo hi limit=[]∧∀i,lo≤i→ ¬At x y hi i)∨
  Ex2 fun i r=>A4 (occurrences x y lo hi limit=i::r) (lo≤i) (At x y hi i) (∀k,lo≤k→k<i→ ¬At x y hi k):=by
 rw[occ_eq]
 rcases occ_first x y hi limit hl (bK lo (hi+1 - lo)) lo (fun i hi=>by haveI:=List.mem_range'_1.mp hi;lia) with ⟨h0,hn⟩|⟨pre,a,post,e,h0,ha,hn⟩
 ·refine .inl ⟨by rw[h0],fun i hlo hi=> ?_⟩
  exact hn i (by haveI:=hi.1;rw[List.mem_range'_1];lia) hi
 ·haveI hs:=range'_split_from e;refine .inr ⟨a,((forIn (bK lo (hi+1 - lo)) ((#[]:Array Nat),lo) (occBody x y hi limit)).run.fst.toList).tail,?_,hs.1,ha,fun k hk0 hk=>hn k (hs.2 k hk0 hk)⟩;generalize (forIn (bK lo (hi+1 - lo)) ((#[]:Array Nat),lo) (occBody x y hi limit)).run.fst=arr at h0;haveI h1:arr.toList[0]? =some a:=by simpa using h0
  cases hL:arr.toList with
  |nil=>rw[hL]at h1;exact xns h1
  |cons b t=>rw[hL]at h1;simp at h1;refine h1▸ ?_;rfl
theorem PZ(l:List Nat)(c i:Nat):Builtin.Str.subAt (txt l) (txt [c]) i=true↔l[i]? =some c:=by
 delta Builtin.Str.subAt txt;rw[Str.length,beq_iff_eq];rw[←Array.toList_inj];simp only[List.extract_toArray,List.extract_eq_take_drop];simp only[show i+[c].toArray.size - i=1 by simp]
 cases hd:l.drop i with
 |nil=>
  haveI:l[i]? =none:=by
   rw[←List.head?_drop,hd];rfl
  simp[this]
 |cons a t=>
  haveI:l[i]? =some a:=by rw[←List.head?_drop,hd];rfl
  simp[this]
theorem KF(l:List Nat)(c hi i:Nat):StrLaws.At (txt l) (txt [c]) hi i↔i<hi∧l[i]? =some c:=by
 unfold StrLaws.At;rw[PZ];haveI:(txt [c]).length=1:=rfl;rw[this];exact ⟨fun h=>⟨by lia,h.2⟩,fun h=>⟨by lia,h.2⟩⟩
theorem Ew(c:Nat):∀(m:List Nat) (i:Nat),(∀j:Nat,m[j]? ≠some c)→Al c m i= -1
 | [],_,_=>rfl
 |a::m,i,h=>by
  haveI h0:=h 0;simp at h0;unfold Al;simp only[Bp,decide_eq_false h0];exact Ew c m (i+1) fun j=>by exact h (j+1)
theorem Ex(c:Nat):∀(m:List Nat) (i j:Nat),m[j]? =some c→(∀k,k<j→m[k]? ≠some c)→Al c m i=(i+j:Nat)
 | [],_,j,h,_=>by simp at h
 |a::m,i,0,h,_=>by
  simp at h;unfold Al;simp only[Bp,decide_eq_true h];simp
 |a::m,i,j+1,h,hk=>by
  haveI h0:=hk 0 (cG _);simp at h0;unfold Al;rw[Bp,decide_eq_false h0];rw[];simp only[Ex c m (i+1) j (by exact h) fun k q=>by exact hk (k+1) (by lia)]
  lia
theorem Hr(l:List Nat)(lo hi j:Nat):((l.take hi).drop lo)[j]? =if lo+j<hi then l[lo+j]? else none:=by
 simp only[b9,List.getElem?_take]
set_option tactic.hygienic true in
theorem Hs(l:List Nat)(c lo hi:Nat):
  (match Builtin.Str.occurrences (txt l) (txt [c]) lo hi 1 with|k::_=>(k:Int)| []=> -1)=Al c ((l.take hi).drop lo) lo:=by
 rcases occ_head_gen (txt l) (txt [c]) lo hi 1 (bJ 1) with ⟨e,hn⟩|⟨i,r,e,h1,h2,h3⟩
 ·refine e.symm▸ ?_;refine (Ew c _ _ fun j q=> ?_).symm;rw[Hr]at q;split at q
  ·rename_i hlt;exact hn (lo+j) (by lia) ((KF l c hi _).mpr ⟨hlt,q⟩)
  ·exact xns q
 ·refine e▸ ?_;haveI a1:=((KF l c hi i).mp h2).1;haveI a2:=((KF l c hi i).mp h2).2
  haveI:=Ex c ((l.take hi).drop lo) lo (i - lo) (by rw[Hr,if_pos (by lia),show lo+(i - lo)=i by lia];exact a2) fun k hk q=>by
   rw[Hr]at q;split at q
   ·exact h3 (lo+k) (by lia) (by lia) ((KF l c hi _).mpr ⟨by lia,q⟩)
   ·exact xns q
  simp only[this,show lo+(i - lo)=i by lia]
theorem Qs(c:Nat):upC c=if 97≤c∧c≤122 then c - 32 else c:=by
 unfold upC;by_cases h:97≤c∧c≤122
 ·rw[if_pos h];have h1:Nat.ble 97 c=true:=bh.mpr h.1;haveI h2:Nat.ble c 122=true:=bh.mpr h.2;rw[h1,h2];rfl
 ·rw[if_neg h];by_cases h1:97≤c
  ·haveI: ¬c≤122:=fun q=>h ⟨h1,q⟩;haveI h2:Nat.ble c 122=false:=by
    cases q:Nat.ble c 122 with
    |false=>rfl
    |true=>exact absurd (bh.mp q) this
   rw[h2,Bool.and_false]
  ·haveI h2:Nat.ble 97 c=false:=by
    cases q:Nat.ble 97 c with
    |false=>rfl
    |true=>exact absurd (bh.mp q) h1
   rw[h2,Bool.false_and]
theorem JN:∀l:List Nat,(∀c∈l,c<128)→Txt.upper (txt l)=txt (l.map upC)
 | [],_=>rfl
 |c::l,h=>by
  haveI e:txt (c::l)=txt [c]++txt l:=by simp only[Cv];rfl
  simp only[e,PySem.W.KOpn.upper_app,JN l fun x hx=>h x (.tail _ hx)];simp only[show txt [c]=(⟨#[c]⟩:Str) from rfl,PySem.W.KOpn.upper_one (h c (.head _))]
  simp only[Qs c |>.symm]
  simp only[show (⟨#[upC c]⟩:Str)=txt [upC c] from rfl,Cv]
  rfl
theorem BH(cs:List Nat)(c:Nat):(txt cs).cps.contains c=inL c cs:=by
 delta inL txt;rw[ci];simp only[List.contains_toArray,List.contains_iff_mem,cQ,Bp,decide_eq_true_eq];exact ⟨fun h=>⟨c,h,rfl⟩,fun ⟨x,hx,e⟩=>e▸hx⟩
theorem EG(cs:List Nat)(g:Nat→Bool)(hg:∀c,g c=inL c cs):∀l:List Nat,l.drop (l.takeWhile g).length=dropW cs l
 | []=>rfl
 |a::l=>by
  unfold dropW;rw[←hg a,List.takeWhile_cons];cases g a with
  |true=>exact EG cs g hg l
  |false=>rfl
theorem Co(cs:List Nat)(g:Nat→Bool)(hg:∀c,g c=inL c cs)(l:List Nat):l.take (l.length - (l.reverse.takeWhile g).length)=BS cs l:=by
 unfold BS;rw[←EG cs g hg,List.reverse_drop];simp
theorem OI(l:List Nat)(i j:Nat):Builtin.Str.strSub (txt l) i j=txt ((l.take j).drop i):=by
 delta Builtin.Str.strSub txt;simp only[List.extract_toArray,List.extract_eq_take_drop]
 congr 2
 simp only[List.drop_take]
theorem Pa(l cs:List Nat):Txt.stripChars (txt l) (txt cs)=txt (BS cs (dropW cs l)):=by
 delta Txt.stripChars;rw[stripBy_eq];delta stripLo stripHi;simp only[if_true];rw[OI];simp only[Au]
 congr 1
 haveI hg:∀c,cs.toArray.contains c=inL c cs:=BH cs;rw[←EG cs _ hg l,←Co cs _ hg];generalize (l.takeWhile cs.toArray.contains).length=n;generalize hm:((l.drop n).reverse.takeWhile cs.toArray.contains).length=m;simp only[List.drop_take]
 congr 1
 rw[List.length_drop];lia
theorem Mp(l cs:List Nat):Txt.rstripChars (txt l) (txt cs)=txt (BS cs l):=by
 delta Txt.rstripChars;rw[stripBy_eq];delta stripLo stripHi;dsimp only[if_true];rw[OI];rw[Au]
 congr 1
 haveI hg:∀c,cs.toArray.contains c=inL c cs:=BH cs;rw[←Co cs _ hg];simp
theorem Gx(c:Nat):∀ps:List (List Nat),ps≠[]→(∀p∈ps,c∉p)→Ar c (Et [c] ps)=ps
 | [],h,_=>(h rfl).elim
 | [p],hh,h=>by
  haveI hp:=h p (.head _)
  show Ar c p=[p]
  clear h hh
  induction p with
  |nil=>rfl
  |cons a p ih=>
   unfold Ar;haveI: ¬a=c:=fun q=>hp (q▸ .head _);simp only[Bp,decide_eq_false this,ih fun q=>hp (.tail _ q)]
 |p::q::ps,hh,h=>by
  haveI hp:=h p (.head _);haveI ih:=Gx c (q::ps) (by simp) fun x hx=>h x (.tail _ hx)
  show Ar c (p++[c]++Et [c] (q::ps))=_
  generalize Et [c] (q::ps)=w at ih ⊢;clear h hh
  induction p with
  |nil=>
   show Ar c (c::w)=_
   unfold Ar;rw[Bp,decide_eq_true rfl];simp only[];rw[ih]
  |cons a p ih'=>
   show Ar c (a::(p++[c]++w))=_
   unfold Ar;haveI: ¬a=c:=fun q=>hp (q▸ .head _);simp only[Bp,decide_eq_false this,ih' fun q=>hp (.tail _ q)]
theorem Ht(sep:List Nat):∀ps:List (List Nat),Str.join (txt sep) (ps.map txt)=txt (Et sep ps)
 | []=>rfl
 | [p]=>rfl
 |p::q::ps=>by
  show txt p++txt sep++Str.join (txt sep) ((q::ps).map txt)=txt (p++sep++Et sep (q::ps))
  simp only[Ht sep (q::ps),Cv,Cv]
theorem Pb(c:Nat):∀l,Ar c l≠[]
 | []=>by simp[Ar]
 |a::l=>by
  unfold Ar;split
  ·simp
  ·split<;>simp
theorem Pd(l:List Nat)(c:Nat):Txt.split (txt l) (txt [c])=(Ar c l).map txt:=by
 haveI hj:=StrLaws.join_split (txt l) (txt [c]);haveI hf:=StrLaws.split_free (txt l) c;have hmap:((Txt.split (txt l) (txt [c])).map fun p=>p.cps.toList).map txt=Txt.split (txt l) (txt [c]):=by
  rw[az];haveI:(txt∘fun p:Str=>p.cps.toList)=id:=by
   funext p;simp[txt]
  simp only[this,bj]
 generalize (Txt.split (txt l) (txt [c])).map (fun p=>p.cps.toList)=ps at hmap;rw[←hmap]at hj hf ⊢;haveI hne:ps≠[]∨ps=[]:=by cases ps<;>simp
 rw[Ht]at hj;haveI hl:l=Et [c] ps:=(Hk.mp hj).symm
 rcases hne with hne|rfl
 ·rw[hl,Gx c ps hne];intro p hp;haveI:=hf (txt p) (bn hp);exact this
 ·exfalso
  haveI hs:Txt.split (txt l) (txt [c])≠[]:=by
   unfold Txt.split;split
   ·simp
   ·split
    ·simp
    ·unfold Builtin.Str.partsBetween;simp
  exact hs (by refine hmap▸ ?_;rfl)
set_option tactic.hygienic true in
theorem Dl{c x:Nat}:∀{l p:List Nat},p∈Ar c l→x∈p→x∈l
 | [],p,h,hx=>by simp[Ar]at h;subst h;contradiction
 |a::l,p,h,hx=>by
  unfold Ar at h;split at h
  ·rcases aj.mp h with rfl|h
   ·contradiction
   ·exact .tail _ (Dl h hx)
  ·split at h
   ·rename_i w ws e
    rcases aj.mp h with rfl|h
    ·rcases aj.mp hx with rfl|hx
     ·exact .head _
     ·exact .tail _ (Dl (p:=w) (by rw[e];exact .head _) hx)
    ·exact .tail _ (Dl (p:=p) (by rw[e];exact .tail _ h) hx)
   ·rename_i e;exact (Pb c l e).elim
set_option tactic.hygienic true in
theorem FK(c:Nat):∀l:List Nat,(Ar c l).length≤l.length+1∧∀p∈Ar c l,p.length≤l.length
 | []=>by simp[Ar]
 |a::l=>by
  obtain ⟨h1,h2⟩:=FK c l;unfold Ar;split
  ·refine ⟨by simp;lia,fun p hp=> ?_⟩
   rcases aj.mp hp with rfl|hp
   ·simp
   ·haveI:=h2 p hp;simp;lia
  ·split
   ·rename_i w ws e;rw[e]at h1 h2;refine ⟨by simp at h1 ⊢; lia,fun p hp=> ?_⟩
    rcases aj.mp hp with rfl|hp
    ·haveI:=h2 w (.head _);simp;lia
    ·haveI:=h2 p (.tail _ hp);simp;lia
   ·simp
section
variable{P:PI}{μ ν:List Addr}{σ σ':AA}{A:dJ}{s:dG}{Q Er:dF→dG→Prop}{stk:List PySem.Env}{k:Nat}
noncomputable def KG:ME→String
 | .split=>"str"
 | .join=>"str"
 | .find2=>"str"
 | .find3=>"str"
 | .strip=>"str"
 | .rstrip=>"str"
 | .upper=>"str"
 | .index=>"str"
 | .append=>"list"
 | .extend=>"list"
 | .pop=>"list"
 | .get=>"dict"
 | .update=>"dict"
noncomputable def Qt:ME→String
 | .split=>"str.split"
 | .join=>"str.join"
 | .find2=>"str.find"
 | .find3=>"str.find"
 | .strip=>"str.strip"
 | .rstrip=>"str.rstrip"
 | .upper=>"str.upper"
 | .index=>"str.index"
 | .append=>"list.append"
 | .extend=>"list.extend"
 | .pop=>"list.pop"
 | .get=>"dict.get"
 | .update=>"dict.update"
theorem Mq{l:List (Str×Tok)}{ls:List (List Nat)}{h:Heap}(e:l.map (·.1)=ls.map txt)(ok:∀x∈ls,BX x):AE P μ h (strValues l) (ls.map .str):=by
 induction l generalizing ls with
 |nil=>cases ls with
  |nil=>exact .nil
  |cons _ _=>contradiction
 |cons p l ih=>cases ls with
  |nil=>contradiction
  |cons x ls=>
   obtain ⟨y,t⟩:=p;simp only[an,bI.injEq]at e;obtain ⟨rfl,e⟩:=e;exact .cons (.str x t (ok x (.head _))) (ih e fun z hz=>ok z (.tail _ hz))
theorem Fi{h h':Heap}{i:Nat}{a:Addr}{c:AI}(S:Sto P μ σ h)(ei:μ[i]? =some a)(hi:σ[i]? =some c)(hs:Heap.SameBut a h h'){o':Obj}(ho:h'.get? a=some o')(hk:o'.cls=c.kd):Ext μ [] h h':=by
 haveI ham:a∈μ:=bB ei;obtain ⟨o0,ho0,hk0⟩:=(S.cell i a c ei hi).cls;refine ⟨fun b o e n=>⟨o.slots,(hs.2 b fun q=>n (q▸ham)).trans e,fun _=>rfl⟩,fun b o e=> ?_,fun _ q=>by contradiction⟩
 by_cases q:b=a
 ·rw[q]at e ⊢; rw[ho0]at e;(injection e with e;subst e);exact ⟨o',ho,hk.trans hk0.symm⟩
 ·exact ⟨o,(hs.2 b q).trans e,rfl⟩
theorem AE.mono0{h h':Heap}{vs:List dF}{ds:List D}(x:Ext μ [] h h')(H:AE P μ h vs ds):AE P μ h' vs ds:=by
 haveI:=H.mono x;rwa[af]at this
theorem AH.mono0{h h':Heap}{v:dF}{d:D}(x:Ext μ [] h h')(H:AH P μ h v d):AH P μ h' v d:=by
 haveI:=H.mono x;rwa[af]at this
theorem AY.put{d:D}{i:Nat}{a:Addr}{c c':AI}(S:Sto P μ σ s.heap)(h:AY P μ (.ok d) (AW σ i c') s Q Er)(ei:μ[i]? =some a)(hi:σ[i]? =some c)(hkd:c.kd=c'.kd){h':Heap}{tk:Nat}{v:dF}
  (hs:Heap.SameBut a s.heap h') (hc:AQ P μ h' a c') (hv:AH P μ h' v d):Q v {s with heap:=h',toks:=tk}:=by
 haveI z:=S.put ei hi hkd hs hc;exact h v h' tk [] z.2 (by rw[af];exact z.1) (by rw[af];exact hv)
theorem Gy{kvs:List (Int×dF)}{l:List (Int×D)}{h:Heap}(hk:kvs.map (·.1)=l.map (·.1))(hv:AE P μ h (kvs.map (·.2)) (l.map (·.2)))(k:Int){v:dF}{d:D}(hd:AH P μ h v d)(hn:(kvs.map (·.1)).Nodup):
  (stored kvs k v).map (·.1)=(Ay l k d).map (·.1)∧AE P μ h ((stored kvs k v).map (·.2)) ((Ay l k d).map (·.2)):=by
 induction l generalizing kvs with
 |nil=>cases kvs with
  |nil=>exact ⟨rfl,.cons hd .nil⟩
  |cons _ _=>contradiction
 |cons p l ih=>cases kvs with
  |nil=>contradiction
  |cons q kvs=>
   obtain ⟨k1,v1⟩:=q;obtain ⟨k2,d2⟩:=p;simp only[an,bI.injEq]at hk hn;obtain ⟨rfl,hk⟩:=hk;cases hv with
   |cons hv1 hv=>
   simp only[bp]at hn;by_cases e:k1=k
   ·subst e;haveI e1:stored ((k1,v1)::kvs) k1 v=(k1,v)::kvs:=by
     unfold stored;simp only[bf,decide_true,Bool.true_or,if_true,an]
     congr 1
     refine (cD (g:=id) fun kv hkv=> ?_).trans (bj _);rw[if_neg];rfl;intro q;exact hn.1 (bT.mpr ⟨kv,hkv,q⟩)
    rw[e1];unfold Ay;simp only[if_true,an,hk];exact ⟨trivial,.cons hd hv⟩
   ·haveI e1:stored ((k1,v1)::kvs) k v=(k1,v1)::stored kvs k v:=by
     unfold stored;simp only[bf,e,decide_false,Bool.false_or,an,if_false];split<;>rfl
    rw[e1];unfold Ay;obtain ⟨h1,h2⟩:=ih hk hv hn.2;simp only[e,if_false,an,h1];exact ⟨trivial,.cons hv1 h2⟩
theorem LQ{kvs:List (Str×dF)}{l:List (List Nat×D)}{h:Heap}(hk:kvs.map (·.1)=l.map (fun p=>txt p.1))(hv:AE P μ h (kvs.map (·.2)) (l.map (·.2)))(k:List Nat){v:dF}{d:D}(hd:AH P μ h v d)(hn:(kvs.map (·.1)).Nodup):
  (stored kvs (txt k) v).map (·.1)=(D7 l k d).map (fun p=>txt p.1)∧AE P μ h ((stored kvs (txt k) v).map (·.2)) ((D7 l k d).map (·.2)):=by
 induction l generalizing kvs with
 |nil=>cases kvs with
  |nil=>exact ⟨rfl,.cons hd .nil⟩
  |cons _ _=>contradiction
 |cons p l ih=>cases kvs with
  |nil=>contradiction
  |cons q kvs=>
   obtain ⟨k1,v1⟩:=q;obtain ⟨k2,d2⟩:=p;simp only[an,bI.injEq]at hk hn;obtain ⟨rfl,hk⟩:=hk;cases hv with
   |cons hv1 hv=>
   simp only[bp]at hn;by_cases e:k2=k
   ·subst e;haveI e1:stored ((txt k2,v1)::kvs) (txt k2) v=(txt k2,v)::kvs:=by
     unfold stored;simp only[bf,decide_true,Bool.true_or,if_true,an]
     congr 1
     refine (cD (g:=id) fun kv hkv=> ?_).trans (bj _);rw[if_neg];rfl;intro q;exact hn.1 (bT.mpr ⟨kv,hkv,q⟩)
    rw[e1];unfold D7;rw[Dj,decide_eq_true rfl];simp only[an,hk];exact ⟨trivial,.cons hd hv⟩
   ·haveI e0: ¬txt k2=txt k:=fun q=>e (Hk.mp q);haveI e1:stored ((txt k2,v1)::kvs) (txt k) v=(txt k2,v1)::stored kvs (txt k) v:=by
     unfold stored;simp only[bf,e0,decide_false,Bool.false_or,an,if_false];split<;>rfl
    rw[e1];unfold D7;obtain ⟨h1,h2⟩:=ih hk hv hn.2;rw[Dj,decide_eq_false e];simp only[an,h1];exact ⟨trivial,.cons hv1 h2⟩
theorem LR(l:List (Int×D))(k:Int)(d:D):(Ay l k d).length≤l.length+1:=by
 induction l with
 |nil=>simp[Ay]
 |cons p l ih=>unfold Ay;split<;>simp<;>omega
theorem Qu(l:List (List Nat×D))(k:List Nat)(d:D):(D7 l k d).length≤l.length+1:=by
 induction l with
 |nil=>simp[D7]
 |cons p l ih=>unfold D7;split<;>simp<;>omega
theorem JO:∀(m l:List (Int×D)),(m.foldl (fun a p=>Ay a p.1 p.2) l).length≤l.length+m.length
 | [],l=>by simp
 |p::m,l=>by
  haveI:=JO m (Ay l p.1 p.2);haveI:=LR l p.1 p.2;simp only[cg,bF];lia
theorem GV:∀(m l:List (List Nat×D)),(m.foldl (fun a p=>D7 a p.1 p.2) l).length≤l.length+m.length
 | [],l=>by simp
 |p::m,l=>by
  haveI:=GV m (D7 l p.1 p.2);haveI:=Qu l p.1 p.2;simp only[cg,bF];lia
end
section
variable{P:PI}{μ ν:List Addr}{σ σ':AA}{A:dJ}{s:dG}{Q Er:dF→dG→Prop}{stk:List PySem.Env}{k:Nat}
set_option tactic.hygienic true in
theorem Fj{K:Type}[DecidableEq K]{kvs:List (K×dF)}(k:K)(v:dF)(hn:(kvs.map (·.1)).Nodup):((stored kvs k v).map (·.1)).Nodup:=by
 unfold stored;split
 ·haveI:(kvs.map fun kv=>if kv.1=k then (kv.1,v) else kv).map (·.1)=kvs.map (·.1):=by
   rw[az];refine cD fun kv _=> ?_;simp only[Function.comp];split<;>rfl
  simp only[this];exact hn
 ·rename_i h;simp only[bb];refine cB.mpr ⟨hn,by simp,fun a ha b hb e=> ?_⟩
  simp at hb;subst hb;subst e;refine h ?_;rw[cQ];refine aW (bT.mp ha) fun kv kv_q=> ?_;haveI h1:=kv_q.1;haveI h2:=kv_q.2
  exact ⟨kv,h1,by simp[h2]⟩
theorem EH{h:Heap}:∀{more:List (Int×dF)} {m:List (Int×D)} {kvs:List (Int×dF)} {l:List (Int×D)},kvs.map (·.1)=l.map (·.1)→AE P μ h (kvs.map (·.2)) (l.map (·.2))→(kvs.map (·.1)).Nodup→
  more.map (·.1)=m.map (·.1)→AE P μ h (more.map (·.2)) (m.map (·.2))→
  (merged kvs more).map (·.1)=(m.foldl (fun a p=>Ay a p.1 p.2) l).map (·.1)∧AE P μ h ((merged kvs more).map (·.2)) ((m.foldl (fun a p=>Ay a p.1 p.2) l).map (·.2))
 | [],[],_,_,h1,h2,_,_,_=>⟨h1,h2⟩
 | [],_::_,_,_,_,_,_,h4,_=>by contradiction
 |_::_,[],_,_,_,_,_,h4,_=>by contradiction
 |(k,v)::more,(k',d)::m,kvs,l,h1,h2,h3,h4,h5=>by
  simp only[an,bI.injEq]at h4;obtain ⟨rfl,h4⟩:=h4;cases h5 with
  |cons hd h5=>
  obtain ⟨a,b⟩:=Gy h1 h2 k hd h3;exact EH (kvs:=stored kvs k v) (l:=Ay l k d) a b (Fj k v h3) h4 h5
theorem EI{h:Heap}:∀{more:List (Str×dF)} {m:List (List Nat×D)} {kvs:List (Str×dF)} {l:List (List Nat×D)},kvs.map (·.1)=l.map (fun p=>txt p.1)→AE P μ h (kvs.map (·.2)) (l.map (·.2))→(kvs.map (·.1)).Nodup→
  more.map (·.1)=m.map (fun p=>txt p.1)→AE P μ h (more.map (·.2)) (m.map (·.2))→
  (merged kvs more).map (·.1)=(m.foldl (fun a p=>D7 a p.1 p.2) l).map (fun p=>txt p.1)∧AE P μ h ((merged kvs more).map (·.2)) ((m.foldl (fun a p=>D7 a p.1 p.2) l).map (·.2))
 | [],[],_,_,h1,h2,_,_,_=>⟨h1,h2⟩
 | [],_::_,_,_,_,_,_,h4,_=>by contradiction
 |_::_,[],_,_,_,_,_,h4,_=>by contradiction
 |(k,v)::more,(k',d)::m,kvs,l,h1,h2,h3,h4,h5=>by
  simp only[an,bI.injEq]at h4;obtain ⟨rfl,h4⟩:=h4;cases h5 with
  |cons hd h5=>
  obtain ⟨a,b⟩:=LQ h1 h2 k' hd h3;exact EI (kvs:=stored kvs (txt k') v) (l:=D7 l k' d) a b (Fj _ v h3) h4 h5
theorem LS{K:Type}[DecidableEq K]{prog:dP}{w:dN}{knd:KeyKind prog w K}{h:Heap}{a:Addr}{kvs:List (K×dF)}(hd:h.DictOf knd a kvs):(kvs.map (·.1)).Nodup:=
 aW hd fun _ w=>aW w fun _ w=>aW w fun _ w=>w.2.2.2.2.2
set_option tactic.hygienic true in
theorem GW:∀{l:List D} {ls:List (List Nat)},strsOf l=some ls→l=ls.map .str
 | [],ls,h=>by (injection h with h;subst h);rfl
 |d::l,ls,h=>by
  cases d<;>first|cases h|skip
  rename_i s;rw[strsOf,bG]at h;obtain ⟨m,hm,rfl⟩:=h;rw[GW hm];rfl
theorem JP{h:Heap}:∀{vs:List dF} {ls:List (List Nat)},AE P μ h vs (ls.map .str)→∃l:List (Str×Tok),vs=strValues l∧l.map (·.1)=ls.map txt∧∀x∈ls,BX x
 | [],[],_=>⟨[],rfl,rfl,fun _ h=>by contradiction⟩
 |_::_,[],h=>by contradiction
 | [],_::_,h=>by contradiction
 |v::vs,x::ls,h=>by
  cases h with
  |cons a b=>
  obtain ⟨t,rfl,ok⟩:=AH.str_inv a;obtain ⟨l,rfl,e,o⟩:=JP b;exact ⟨(txt x,t)::l,rfl,by simp[e],fun y hy=>(aj.mp hy).elim (fun q=>q▸ok) (o y)⟩
theorem JQ:∀ls:List (List Nat),(ls.all fun x=>Nat.beq x.length 1)=true→(Et [] ls).length≤ls.length
 | [],_=>bJ _
 | [a],h=>by simp[Bp]at h;simp[Et,h]
 |a::b::l,h=>by
  simp only[bQ,aw,Bp,decide_eq_true_eq]at h;haveI:=JQ (b::l) (by simp only[bQ,aw,Bp,decide_eq_true_eq];exact h.2)
  simp only[Et,af,ae,bF]at this ⊢;lia
theorem LT{c:Nat}:∀{ls:List (List Nat)},c∈Et [] ls→∃x∈ls,c∈x
 | [a],h=>⟨a,.head _,h⟩
 |a::b::l,h=>by
  simp only[Et,af,bV]at h
  rcases h with h|h
  ·exact ⟨a,.head _,h⟩
  ·refine aW (LT h) fun x x_q=> ?_;haveI hx:=x_q.1;haveI hc:=x_q.2
   exact ⟨x,.tail _ hx,hc⟩
theorem Hu:∀(ts:List Str) (n:Nat),(∀t∈ts,t.length=1)→ts.foldl (fun a t=>a+t.length+0) n=n+ts.length
 | [],n,_=>rfl
 |t::ts,n,h=>by
  simp only[cg,Hu ts _ fun x hx=>h x (.tail _ hx),h t (.head _)];simp;lia
theorem LU(x y:Str)(i j:Int)(t u v w:Tok)(h0:0≤i)(h1:0≤j)(hj:j≤x.length):Gives (Builtin.«str.find» ⟨[.str x t,.str y u,.int i v,.int j w],[]⟩)
  (.int (match Builtin.Str.occurrences x y i.toNat j.toNat 1 with|k::_=>(k:Int)| []=> -1)):=by
 haveI e:(Builtin.«str.find» ⟨[.str x t,.str y u,.int i v,.int j w],[]⟩)=(match Builtin.Str.occurrences x y (fromIndex x.length i) (min (fromIndex x.length j) x.length) 1 with|k::_=>retInt k| []=>(do rule "str.find.not-found";retInt (-1))):=rfl
 simp only[e];haveI e1:fromIndex x.length i=i.toNat:=by unfold fromIndex;rw[if_neg (by lia)];lia
 haveI e2:min (fromIndex x.length j) x.length=j.toNat:=by unfold fromIndex;rw[if_neg (by lia)];lia
 simp only[e1,e2];cases Builtin.Str.occurrences x y i.toNat j.toNat 1 with
 |nil=>exact .rule (.of_eq rfl)
 |cons k _=>exact .of_eq rfl
theorem Sto.turn{h:Heap}{i k:Nat}{a:Addr}{l l':List D}{vs vs':List dF}{f:Array dF→Array dF}(S:Sto P μ σ h)(ei:μ[i]? =some a)(hi:σ[i]? =some (.lst l))
  (ho:h.get? a=some (PySem.W.listOf vs.toArray k)) (e:f vs.toArray=vs'.toArray) (hb:vs'.length≤1000000) (hv:AE P μ h vs' l'):Sto P μ (AW σ i (.lst l')) (h.update a (Obj.mapSeq f))∧Ext μ [] h (h.update a (Obj.mapSeq f)):=by
 refine aW (Obj.data_mapSeq (o:=PySem.W.listOf vs.toArray k) rfl f) fun n' hd'=> ?_;haveI ho':(h.update a (Obj.mapSeq f)).get? a=some (PySem.W.listOf vs'.toArray n'):=by
  rw[Heap.get?_update_self _ ho (Obj.isFreed_of_seq hd')];haveI e2:Obj.mapSeq f (PySem.W.listOf vs.toArray k)={PySem.W.listOf vs.toArray k with data:=(Obj.mapSeq f (PySem.W.listOf vs.toArray k)).data}:=rfl;rw[e2,hd',e]
 haveI hs:Heap.SameBut a h (h.update a (Obj.mapSeq f)):=Heap.SameBut.update h _ _;haveI x:=Fi S ei hi hs ho' rfl;exact S.put ei hi rfl hs ⟨vs',n',ho',hb,hv.mono0 x⟩
theorem AY.turn{d:D}{v:dF}{i k:Nat}{a:Addr}{l l':List D}{vs vs':List dF}{f:Array dF→Array dF}{tk:Nat}(S:Sto P μ σ s.heap)(h:AY P μ (.ok d) (AW σ i (.lst l')) s Q Er)(ei:μ[i]? =some a)(hi:σ[i]? =some (.lst l))
  (ho:s.heap.get? a=some (PySem.W.listOf vs.toArray k)) (e:f vs.toArray=vs'.toArray) (hb:vs'.length≤1000000) (hv:AE P μ s.heap vs' l') (hd:AH P μ s.heap v d):Q v {s with heap:=s.heap.update a (Obj.mapSeq f),toks:=tk}:=by
 haveI z:=(S.turn ei hi ho e hb hv).1;haveI x:=(S.turn ei hi ho e hb hv).2
 exact h v _ tk [] x (by rw[af];exact z) (by rw[af];exact hd.mono0 x)
theorem AY.ret0{d:D}{r:Ro}{σ0:AA}(h:AY P μ r σ' s Q Er)(e:Ab d σ0=some (r,σ')):AY P μ (.ok d) σ0 s Q Er:=by
 (injection e with e;injection e with h91 h92;subst h91;subst h92);exact h
def MeG (P:PI) (A:dJ) (s:dG) (Q Er:dF→dG→Prop) (m:ME) (vx:dF) (vs:List dF):Prop:=dH (model P.prog P.w) A (call (.builtin (Qt m)) (vx::vs)) Q Er s
theorem Mr(K:Ok P){x:D}{vx:dF}{ds:List D}{vs:List dF}{r:Ro}(e:Nv σ x ds=some (r,σ'))(S:Sto P μ σ s.heap)(hx:AH P μ s.heap vx x)(hv:AE P μ s.heap vs ds)
  (h:AY P μ r σ' s Q Er):MeG P A s Q Er .split vx vs:=by
 refine Br (C:=fun v=>MeG P A s Q Er .split v vs) hx e fun l t ok e=>DC (CL:=MeG P A s Q Er .split _) hv e fun v d V e=>GS (C:=fun v=>MeG P A s Q Er .split _ [v]) V e fun c u ok2 e=> ?_;have e:=Cl e;haveI hl:=e.1;haveI h:=h.alloc e.2;refine JK (R:=fun o=> ∃l':List (Str×Tok),o=PySem.W.listOf (strValues l').toArray 0∧l'.map (·.1)=(Ar c l).map txt) K S (fun L m hn=> ?_) fun B o h' tk hB hsB hkp hBo hR=> ?_
 ·refine PySem.W.KSpl.split1 (OF hn) (JJ L s.heap) rfl (fun D l' h' k e1 _ F' N' l1=> ?_) (by simp only[Au,dU];lia)
  exact ⟨D,_,rfl,⟨h',_,rfl⟩,fun b ob hbL e=>⟨N'.get (.tail _ (Fh e hbL)),l1 _ (Fh e hbL)⟩,N'.get (.head _),l',rfl,by simp only[e1,Pd]⟩
 ·obtain ⟨l',rfl,e1⟩:=hR;haveI h1:=(FK c l).1;haveI h2:=(FK c l).2
  haveI hll:(strValues l').length=(Ar c l).length:=by
   haveI:=congrArg bX e1;simp[strValues]at this ⊢; exact this
  haveI z:=S.alloc hkp hB hsB (c:=.lst ((Ar c l).map .str)) ⟨strValues l',0,hBo,by lia,Mq e1 fun p hp=>⟨fun q hq=>ok.1 q (Dl hp hq),by haveI:=h2 p hp;lia⟩⟩
  exact h (.ref B) h' tk [B] z.2 z.1 (.loc (by rw[←S.len,bZ (bJ _),Nat.sub_self];rfl))
theorem Pe{x:D}{vx:dF}{ds:List D}{vs:List dF}{r:Ro}(e:Qe σ x ds=some (r,σ'))(S:Sto P μ σ s.heap)(hx:AH P μ s.heap vx x)(hv:AE P μ s.heap vs ds)
  (h:AY P μ r σ' s Q Er):MeG P A s Q Er .join vx vs:=by
 refine Br (C:=fun v=>MeG P A s Q Er .join v vs) hx e fun sep t ok e=>DC (CL:=MeG P A s Q Er .join _) hv e fun v d V e=>DM (C:=fun v=>MeG P A s Q Er .join _ [v]) S V e fun _ a l us k _ _ ho hb hus e=> ?_;obtain ⟨ls,hls,e⟩:=bP.mp e;haveI e:=Cl e;haveI hc:=e.1;haveI h:=h.ret e.2;simp only[GW hls]at hus;obtain ⟨l',e0,e1,oks⟩:=JP hus;subst e0;haveI hsep:sep=[]:=ch.mp hc.2.1;subst hsep;have hll:ls.length=l.length:=by simp only[GW hls,ak]
 haveI hg:=JQ ls hc.2.2;refine PySem.SC.join (l:=l') (texts:=ls.map txt) ⟨_,ho,rfl,_,rfl⟩ e1 ?_ fun t' tk=> ?_
 ·unfold JoinOk;rw[←Array.foldl_toList];haveI:=Hu (ls.map txt) 0 (fun t ht=>by
   obtain ⟨x,hx,rfl⟩:=bT.mp ht;haveI:=ao.mp hc.2.2 x hx;simp only[Bp,decide_eq_true_eq]at this;simp only[Au];exact this)
  haveI e0:(txt ([]:List Nat)).length=0:=rfl;rw[e0];simp only[List.toList_toArray,this];unfold Builtin.Str.tooLong;simp only[ak,dU];simp;lia
 ·haveI:Txt.join (txt []) (ls.map txt)=txt (Et [] ls):=by
   show Builtin.Str.glued _ _=_
   simp only[StrLaws.glued_eq_join,Ht]
  rw[this];exact AY.same S h (.str _ _ ⟨fun c hc=>let ⟨x,hx,hcx⟩:=LT hc;(oks x hx).1 c hcx,by lia⟩)
theorem Ms{x:D}{vx:dF}{ds:List D}{vs:List dF}{r:Ro}(e:Nw σ x ds=some (r,σ'))(S:Sto P μ σ s.heap)(hx:AH P μ s.heap vx x)(hv:AE P μ s.heap vs ds)
  (h:AY P μ r σ' s Q Er):MeG P A s Q Er .find2 vx vs:=by
 refine Br (C:=fun v=>MeG P A s Q Er .find2 v vs) hx e fun l t ok e=>Qi (CL:=MeG P A s Q Er .find2 _) hv e fun v1 v2 d1 d2 V1 V2 e=>GS (C:=fun v=>MeG P A s Q Er .find2 _ [v,v2]) V1 e fun c u ok2 e=>Ai (C:=fun v=>MeG P A s Q Er .find2 _ [_,v]) V2 e fun i w e=> ?_;haveI e:=Cl e;haveI hi:=HU.mp e.1;refine PySem.SC.find3 ?_;haveI e1:fromIndex (txt l).length i=i.toNat:=by unfold fromIndex;rw[if_neg (Int.not_lt.mpr hi.1)];lia
 haveI e2:Txt.find3 (txt l) ⟨#[c]⟩ i=Al c (l.drop i.toNat) i.toNat:=by
  haveI e3:=Hs l c i.toNat l.length;rw[List.take_length]at e3;unfold Txt.find3;rw[e1,Au];exact e3
 skip
 refine e2▸ ?_;exact AY.same S (h.ret e.2) (.int _ _)
theorem Mt{x:D}{vx:dF}{ds:List D}{vs:List dF}{r:Ro}(e:Nx σ x ds=some (r,σ'))(S:Sto P μ σ s.heap)(hx:AH P μ s.heap vx x)(hv:AE P μ s.heap vs ds)
  (h:AY P μ r σ' s Q Er):MeG P A s Q Er .find3 vx vs:=by
 refine Br (C:=fun v=>MeG P A s Q Er .find3 v vs) hx e fun l t ok e=>YE (CL:=MeG P A s Q Er .find3 _) hv e fun v1 v2 v3 d1 d2 d3 V1 V2 V3 e=>GS (C:=fun v=>MeG P A s Q Er .find3 _ [v,v2,v3]) V1 e fun c u ok2 e=>Ai (C:=fun v=>MeG P A s Q Er .find3 _ [_,v,v3]) V2 e fun i w e=>Ai (C:=fun v=>MeG P A s Q Er .find3 _ [_,_,v]) V3 e fun j w2 e=> ?_;haveI e:=Cl e;haveI hi:=e.1;refine call_gives PySem.F.slot_str_find (typeIs_str _ _ _) PySem.F.entry_str_find (PySem.F.args_str_find_4 _ _ _ _) (LU _ _ i j _ _ _ _ hi.1 (Int.le_trans hi.1 hi.2.1) (by simp only[Au];exact hi.2.2)) ?_
 haveI e3:=Hs l c i.toNat j.toNat;exact Eq.mpr (congrArg (fun z=>Q (.int z _) _) e3) (AY.same S (h.ret e.2) (.int _ _))
theorem Mu{x:D}{vx:dF}{ds:List D}{vs:List dF}{r:Ro}(e:Ny σ x ds=some (r,σ'))(S:Sto P μ σ s.heap)(hx:AH P μ s.heap vx x)(hv:AE P μ s.heap vs ds)
  (h:AY P μ r σ' s Q Er):MeG P A s Q Er .strip vx vs:=by
 refine Br (C:=fun v=>MeG P A s Q Er .strip v vs) hx e fun l t ok e=>DC (CL:=MeG P A s Q Er .strip _) hv e fun v d V e=>Br (C:=fun v=>MeG P A s Q Er .strip _ [v]) V e fun cs u ok2 e=> ?_;have e:=Cl e;refine PySem.SC.stripChars (fun t' tk=> ?_) (by simp only[Au,dU];haveI:=e.1;omega)
 rw[Pa];haveI key:∀c∈BS cs (dropW cs l),c∈l:=fun c hc=>by
  rw[←EG cs _ (BH cs) l,←Co cs _ (BH cs)]at hc;exact c4 (cS hc)
 haveI key2:(BS cs (dropW cs l)).length≤l.length:=by
  rw[←EG cs _ (BH cs) l,←Co cs _ (BH cs)];rw[b0,List.length_drop];omega
 exact AY.same S (h.ret e.2) (.str _ _ (BX.sub ok key (ag key2 ok.2)))
theorem LV{x:D}{vx:dF}{ds:List D}{vs:List dF}{r:Ro}(e:LD σ x ds=some (r,σ'))(S:Sto P μ σ s.heap)(hx:AH P μ s.heap vx x)(hv:AE P μ s.heap vs ds)
  (h:AY P μ r σ' s Q Er):MeG P A s Q Er .rstrip vx vs:=by
 refine Br (C:=fun v=>MeG P A s Q Er .rstrip v vs) hx e fun l t ok e=>DC (CL:=MeG P A s Q Er .rstrip _) hv e fun v d V e=>Br (C:=fun v=>MeG P A s Q Er .rstrip _ [v]) V e fun cs u ok2 e=> ?_;haveI e:=Cl e;refine PySem.SC.rstripChars (fun t' tk=> ?_) (by simp only[Au,dU];haveI:=e.1;omega)
 rw[Mp];haveI key:∀c∈BS cs l,c∈l:=fun c hc=>by
  rw[←Co cs _ (BH cs)]at hc;exact cS hc
 haveI key2:(BS cs l).length≤l.length:=by
  rw[←Co cs _ (BH cs),b0];omega
 exact AY.same S (h.ret e.2) (.str _ _ (BX.sub ok key (ag key2 ok.2)))
theorem Mw{x:D}{vx:dF}{ds:List D}{vs:List dF}{r:Ro}(e:Nz σ x ds=some (r,σ'))(S:Sto P μ σ s.heap)(hx:AH P μ s.heap vx x)(hv:AE P μ s.heap vs ds)
  (h:AY P μ r σ' s Q Er):MeG P A s Q Er .upper vx vs:=by
 refine Br (C:=fun v=>MeG P A s Q Er .upper v vs) hx e fun l t ok e=>VI (CL:=MeG P A s Q Er .upper _) hv e fun e=> ?_;have e:=Cl e;haveI hl:=e.1;haveI eu:=JN l ok.1;refine PySem.SC.upper ?_ ?_
 ·simp only[eu,Au,ak];unfold Builtin.Str.tooLong;rw[dU];simp;omega
 ·refine eu▸ ?_;refine AY.same S (h.ret e.2) (.str _ _ ⟨fun c hc=> ?_,by simp only[ak];exact ok.2⟩)
  obtain ⟨x,hx,rfl⟩:=bT.mp hc;have:=ok.1 x hx;simp only[Qs];split<;>omega
theorem Mx{x:D}{vx:dF}{ds:List D}{vs:List dF}{r:Ro}(e:N0 σ x ds=some (r,σ'))(S:Sto P μ σ s.heap)(hx:AH P μ s.heap vx x)(hv:AE P μ s.heap vs ds)
  (h:AY P μ r σ' s Q Er):MeG P A s Q Er .index vx vs:=by
 refine Br (C:=fun v=>MeG P A s Q Er .index v vs) hx e fun l t ok e=>DC (CL:=MeG P A s Q Er .index _) hv e fun v d V e=>GS (C:=fun v=>MeG P A s Q Er .index _ [v]) V e fun c u ok2 e=> ?_;haveI e:=Cl e;haveI hf:=Hs l c 0 l.length;simp only[List.take_length,List.drop_zero]at hf;cases ho:Builtin.Str.occurrences (txt l) (txt [c]) 0 l.length 1 with
 |nil=>
  exfalso
  haveI:=J9 l c;simp only[Au,ho]at this;haveI hin':(l.any fun x=>Nat.beq x c)=true:=e.1;simp only[hin']at this;exact xbf this
 |cons i rest=>
  rw[ho]at hf;refine PySem.SC.index (i:=i) (rest:=rest) (by simp only[Au];exact ho) ?_
  haveI hf':(i:Int)=Al c l 0:=hf;simp only[hf'];exact AY.same S (h.ret e.2) (.int _ _)
theorem LW{x:D}{vx:dF}{ds:List D}{vs:List dF}{r:Ro}(e:LE σ x ds=some (r,σ'))(S:Sto P μ σ s.heap)(hx:AH P μ s.heap vx x)(hv:AE P μ s.heap vs ds)
  (h:AY P μ r σ' s Q Er):MeG P A s Q Er .append vx vs:=by
 refine DM (C:=fun v=>MeG P A s Q Er .append v vs) S hx e fun n a l ws k ei hi ho hb hws e=>DC (CL:=MeG P A s Q Er .append _) hv e fun v d V e=> ?_;haveI e:=Cl e;haveI hl:=e.1;haveI hlen:=hws.length;refine call_meets PySem.F.slot_list_append (T:="list") ⟨_,ho,rfl⟩ PySem.F.entry_list_append (PySem.F.args_list_append_2 _ _) (PySem.list_append _ ws.toArray k v (by simp only[bg,dU];omega)) ⟨ho,?_⟩
 exact AY.turn (vs':=ws++[v]) S (h.ret0 e.2) ei hi ho (by simp) (by simp;omega) (hws.append (.one V)) .none
theorem LX{x:D}{vx:dF}{ds:List D}{vs:List dF}{r:Ro}(e:LF σ x ds=some (r,σ'))(S:Sto P μ σ s.heap)(hx:AH P μ s.heap vx x)(hv:AE P μ s.heap vs ds)
  (h:AY P μ r σ' s Q Er):MeG P A s Q Er .extend vx vs:=by
 refine DM (C:=fun v=>MeG P A s Q Er .extend v vs) S hx e fun n a l ws k ei hi ho hb hws e=>DC (CL:=MeG P A s Q Er .extend _) hv e fun v d V e=>DM (C:=fun v=>MeG P A s Q Er .extend _ [v]) S V e fun _ a2 m us k2 _ _ ho2 hb2 hus e=> ?_;haveI e:=Cl e;haveI hl:=e.1;haveI hlen:=hws.length;haveI hlen2:=hus.length;refine call_meets PySem.F.slot_list_extend (T:="list") ⟨_,ho,rfl⟩ PySem.F.entry_list_extend (PySem.F.args_list_extend_2 _ _) (AutoSeq1.list_extend_list_list_0 _ ws.toArray k _ us.toArray k2 ?_ (by simp only[bg,dU];lia) (by simp[dU];lia)) ⟨ho,ho2,?_⟩
 ·simp only[bg,Builtin.List.listTooLong,dU];simp;lia
 ·exact AY.turn (vs':=ws++us) S (h.ret0 e.2) ei hi ho (by simp) (by simp;lia) (hws.append hus) .none
theorem Qv{x:D}{vx:dF}{ds:List D}{vs:List dF}{r:Ro}(e:VD σ x ds=some (r,σ'))(S:Sto P μ σ s.heap)(hx:AH P μ s.heap vx x)(hv:AE P μ s.heap vs ds)
  (h:AY P μ r σ' s Q Er):MeG P A s Q Er .pop vx vs:=by
 refine DM (C:=fun v=>MeG P A s Q Er .pop v vs) S hx e fun n a l ws k ei hi ho hb hws e=>VI (CL:=MeG P A s Q Er .pop _) hv e fun e=> ?_;refine aW (bP.mp e) fun d d_q=> ?_;haveI hd:=d_q.1;haveI e:=d_q.2
 haveI hlen:=hws.length;simp only[List.getLast?_eq_getElem?]at hd;refine aW (hws.get hd) fun v v_q=> ?_;haveI hvv:=v_q.1;haveI hdv:=v_q.2
 refine call_meets PySem.F.slot_list_pop (T:="list") ⟨_,ho,rfl⟩ PySem.F.entry_list_pop (PySem.F.args_list_pop_1 _) (PySem.MeetsSeq.list_pop_last _ ws.toArray k v (by simp;simp only[hlen];exact hvv) (by simp only[bg,dU];lia)) ⟨ho,?_⟩
 haveI hpos:ws.length - 1<ws.length:=by
  haveI:=(ap.mp hvv).1;lia
 refine AY.turn (vs':=ws.take (ws.length - 1)) S (h.ret0 e) ei hi ho ?_ (by simp only[b0];lia) (by simp only[List.dropLast_eq_take,hlen];exact hws.take _) hdv
 unfold Array.eraseIdxIfInBounds;rw[dif_pos (by exact hpos)]
 simp[List.eraseIdx_eq_take_drop_succ,show ws.length - 1+1=ws.length by lia]
theorem Qw{x:D}{vx:dF}{ds:List D}{vs:List dF}{r:Ro}(e:VE σ x ds=some (r,σ'))(S:Sto P μ σ s.heap)(hx:AH P μ s.heap vx x)(hv:AE P μ s.heap vs ds)
  (h:AY P μ r σ' s Q Er):MeG P A s Q Er .get vx vs:=by
 refine Fe (C:=fun v=>MeG P A s Q Er .get v vs) S hx e fun n a l kvs ei hi hd hk hb hws e=>Qi (CL:=MeG P A s Q Er .get _) hv e fun v1 vd d1 d V1 V2 e=>Ai (C:=fun v=>MeG P A s Q Er .get _ [v,vd]) V1 e fun k t e=> ?_;haveI h:=h.ret e;refine call_meetsIn PySem.F.slot_dict_get hd.typeIs PySem.F.entry_dict_get (PySem.F.args_dict_get_3 _ _ _) (meets_dict_get_default (intKind P.prog P.w) _ (Cw k t) (beq_eq_false_iff_ne.mpr (S.fresh _ (bB ei)).2) vd) ⟨_,hd.mapOf,?_⟩;haveI z:=FJ hk hws k;cases q:Bv l k with
 |none=>rw[q]at z h;refine z▸ ?_;exact AY.same S h V2
 |some d'=>rw[q]at z h;refine aW z fun v v_q=> ?_;haveI e1:=v_q.1;haveI e2:=v_q.2;refine e1▸ ?_;exact AY.same S h e2
theorem LY{x:D}{vx:dF}{ds:List D}{vs:List dF}{r:Ro}(e:LG σ x ds=some (r,σ'))(S:Sto P μ σ s.heap)(hx:AH P μ s.heap vx x)(hv:AE P μ s.heap vs ds)
  (h:AY P μ r σ' s Q Er):MeG P A s Q Er .update vx vs:=by
 refine N3 (C:=fun v=>MeG P A s Q Er .update v vs) S hx e fun n a l kvs ei hi hd hk hb hws e=>DC (CL:=MeG P A s Q Er .update _) hv e fun v d V e=>N3 (C:=fun v=>MeG P A s Q Er .update _ [v]) S V e fun n2 a2 m kvs2 ej hj hd2 hk2 hb2 hv2 e=> ?_;have e:=Cl e;haveI hl:=e.1;haveI l1:kvs.length=l.length:=by simpa using congrArg bX hk
 haveI l2:kvs2.length=m.length:=by simpa using congrArg bX hk2
 haveI hne: ¬a=a2:=fun q=>hl.2 (by
  haveI p1:=(ap.mp ei).1;haveI e1:=(ap.mp ei).2
  haveI p2:=(ap.mp ej).1;haveI e2:=(ap.mp ej).2
  exact (List.getElem_inj S.nodup).mp (e1.trans (q.trans e2.symm)))
 refine call_meetsIn PySem.F.slot_dict_update hd.typeIs PySem.F.entry_dict_update (PySem.F.args_dict_update_2 _ _) (meets_dict_update (PySem.strKind P.prog P.w) _ _ hne (beq_eq_false_iff_ne.mpr (S.fresh _ (bB ej)).2)) ⟨kvs,kvs2,hd,hd2,by simp only[dU];lia,fun h' hm _ hs=> ?_⟩
 haveI mg:=EI hk hws (LS hd) hk2 hv2;haveI:=GV m l;haveI x:Ext μ [] s.heap h':=DictOf.at_ hm fun o ho hc _ _=>Fi S ei hi hs ho hc;exact AY.put (tk:=s.toks) S (h.ret0 e.2) ei hi rfl hs ⟨merged kvs kvs2,hm,mg.1,by lia,mg.2.mono0 x⟩ .none
theorem OJ(K:Ok P)(hh:A.handled=none){m:ME}{x:D}{vx:dF}{ds:List D}{vs:List dF}{r:Ro}(e:BN σ m x ds=some (r,σ'))(S:Sto P μ σ s.heap)(hx:AH P μ s.heap vx x)(hv:AE P μ s.heap vs ds)
  (h:AY P μ r σ' s Q Er):dH (model P.prog P.w) A (call (.builtin (Qt m)) (vx::vs)) Q Er s:=by
 cases m with
 |split=>exact Mr K e S hx hv h
 |join=>exact Pe e S hx hv h
 |find2=>exact Ms e S hx hv h
 |find3=>exact Mt e S hx hv h
 |strip=>exact Mu e S hx hv h
 |rstrip=>exact LV e S hx hv h
 |upper=>exact Mw e S hx hv h
 |index=>exact Mx e S hx hv h
 |append=>exact LW e S hx hv h
 |extend=>exact LX e S hx hv h
 |pop=>exact Qv e S hx hv h
 |get=>exact Qw e S hx hv h
 |update=>exact LY e S hx hv h
end
section
variable{P:PI}{μ ν:List Addr}{σ σ':AA}{A:dJ}{s:dG}{Q Er:dF→dG→Prop}{stk:List PySem.Env}{k:Nat}
theorem Hv{E:dF→dG→Prop}{l:Addr}{items:Array dF}{n:Nat}{k:Int}{t:Tok}{v:dF}{Q:Unit→dG→Prop}(ho:s.heap.get? l=some (PySem.W.listOf items n))
  (h0:0≤k) (hfit:k<2 ^ 63) (hn:k<items.size)
  (hQ:Q () {s with heap:=s.heap.update l (Obj.mapSeq (·.setIfInBounds k.toNat v))}):dH (model P.prog P.w) A (PySem.setItem (.ref l) (.int k t) v) Q E s:=by
 haveI hl:s.heap.IsList l items:=⟨_,ho,rfl,_,rfl⟩;haveI hd:(PySem.W.listOf items n).data=.seq items n:=rfl;unfold PySem.setItem
 try with_reducible refine dW ?_
 first|refine dI (dL ?_)|skip
 refine dI (wpAny_sequenceKey hl.typeIs (by decide) ?_)
 refine dI (wpAny_callSpecial?_slot (name:=Str.ofString "__setitem__") hl.typeIs slot_list_setitem
  (wpAny_call_entry slot_list_setitem hl.typeIs entry_list_setitem ?_ (args_list_setitem _ _ _)))
 show dH _ _ (Builtin.List.listSubscript? (.int k t) >>= _) _ _ s
 refine dI (wpAny_listSubscript_int (fitsIndex_of h0 hfit) ?_);clear hfit;obtain ⟨j,rfl⟩:=Int.eq_ofNat_of_zero_le h0;haveI hj:j<items.size:=by omega
 haveI hx':items[j]? =some items[j]:=Array.getElem?_eq_getElem hj
 show dH _ _ ((seqItemAt l j >>= fun r=>pure (r.map (j,·))) >>= _) _ _ s
 refine dI (dI (wpAny_seqItemAt ho hd (dL ?_)));rw[hx']
 show dH _ _ (setSeqItemAt l j v >>= _) _ _ s
 refine dI (wpAny_setSeqItemAt ho hd ?_)
 first
  |exact dI (dL (dL ⟨.none,rfl,dL hQ⟩))
  |exact dL ⟨.none,rfl,dL hQ⟩
theorem AE.set{h:Heap}{v:dF}{d:D}(hd:AH P μ h v d)(ds:List D):∀{vs:List dF} (i:Nat),AE P μ h vs ds→AE P μ h (vs.set i v) (AW ds i d):=by
 induction ds with
 |nil=>intro vs i H;apply H.nil_e;exact .nil
 |cons e ds ih=>intro vs i H;apply H.cons_e;intro w ws a b;cases i with
  |zero=>exact .cons hd b
  |succ i=>exact .cons a (ih i b)
theorem My{x i d:D}{vx vi v:dF}{Q:Unit→dG→Prop}(e:Mine.setItem σ x i d=some σ')(S:Sto P μ σ s.heap)(hx:AH P μ s.heap vx x)(hi:AH P μ s.heap vi i)(hv:AH P μ s.heap v d)
  (h:∀h' tk,Ext μ [] s.heap h'→Sto P μ σ' h'→Q () {s with heap:=h',toks:=tk}):dH (model P.prog P.w) A (PySem.setItem vx vi v) Q Er s:=by
 apply Eg (f:=fun n c=>Mf σ i d n c) S hx e;intro n a c ei ec hc e;cases c with
 |lst l=>
  refine AQ.lst_e hc fun vs c ho hb hvs=> ?_;apply Ai (f:=fun k=>if 0≤k∧k<l.length then some (AW σ n (.lst (AW l k.toNat d))) else none) hi e
  intro k t e;haveI e:=Cl e;haveI hk:=e.1;haveI e2:=aq.inj e.2;haveI hlen:=hvs.length;refine Hv ho hk.1 (by lia) (by rw[bg];lia) ?_
  haveI z:=S.turn (vs':=vs.set k.toNat v) (f:=(·.setIfInBounds k.toNat v)) ei ec ho (by simp) (by rw[List.length_set];exact hb) (AE.set hv l k.toNat hvs)
  exact h _ _ z.2 (e2▸z.1)
 |dcti l=>
  refine AQ.dcti_e hc fun kvs hd hkk hb hvs=> ?_;apply Ai (f:=fun k=>if l.length<1000 then some (AW σ n (.dcti (Ay l k d))) else none) hi e
  intro k t e;haveI e:=Cl e;haveI e2:=aq.inj e.2;haveI hk:=e.1;haveI hlen:kvs.length=l.length:=by simpa using congrArg bX hkk
  refine wpAny_setItem_pairs (Cw k t) hd (fun h' hd' hs=> ?_) (by rw[dU];lia)
  haveI st:=Gy hkk hvs k hv (LS hd);haveI:=LR l k d;haveI x:Ext μ [] s.heap h':=DictOf.at_ hd' fun o ho hc _ _=>Fi S ei ec hs ho hc;haveI z:=S.put (c':=.dcti (Ay l k d)) ei ec rfl hs ⟨stored kvs k v,hd',st.1,by lia,st.2.mono0 x⟩
  exact h h' _ z.2 (e2▸z.1)
 |_=>exact xns e
end
structure Qx (P:PI) (N:Nm) (G:Nat→Option D):Prop where
 fn:∀f x,(N.fnN f).contains x=true→∃a,P.mg x=some (.ref a)∧P.fn f=some a
 gl:∀g d,G g=some d→∃v,P.mg (N.glN g)=some v∧∀μ σ h,Sto P μ σ h→AH P μ h v d
 bi:∀b,P.mg (biN b)=none∧P.mb (biN b)=some (JM b)
 rng:P.mg "range"=none∧P.mb "range"=some (.type "range")
 hj:∀j,N.hj=some j→∃c T,P.cdOf N.names=some (c,T,j)
 hp:∀k,N.hp k=P.hp k
 enu:P.mg "enumerate"=none∧P.mb "enumerate"=some (.type "enumerate")
structure Bs where
 P:PI
 N:Nm
 G:Nat→Option D
 call:Call
 k:Nat
structure Pt where
 μ:List Addr
 s:dG
structure Cf (B:Bs) where
 sc:dQ
 env:PySem.Env
 A:dJ
 stk:List PySem.Env
 Er:dF→dG→Prop
 y0:Pt
def Pt.le (y z:Pt):Prop:= ∃ν h tk,z=⟨y.μ++ν,{y.s with heap:=h,toks:=tk}⟩∧Ext y.μ ν y.s.heap h
noncomputable abbrev Pt.at (y:Pt) (ν:List Addr) (h:Heap) (tk:Nat):Pt:=⟨y.μ++ν,{y.s with heap:=h,toks:=tk}⟩
noncomputable abbrev Pt.h (y:Pt):Heap:=y.s.heap
theorem Pt.le.refl(y:Pt):y.le y:=⟨[],y.s.heap,y.s.toks,by rw[af],Ext.refl _ _⟩
theorem Pt.le.trans{x y z:Pt}(a:x.le y)(b:y.le z):x.le z:=by
 obtain ⟨ν,h,tk,rfl,e⟩:=a;obtain ⟨ν',h',tk',rfl,e'⟩:=b;exact ⟨ν++ν',h',tk',by rw[←aZ],e.trans e'⟩
theorem Pt.le.of{y:Pt}{ν:List Addr}{h:Heap}(x:Ext y.μ ν y.s.heap h)(tk:Nat):y.le (y.at ν h tk):=⟨ν,h,tk,rfl,x⟩
section
variable{P:PI}{y z:Pt}{v:dF}{d:D}{vs:List dF}{ds:List D}
theorem AH.up(x:y.le z)(H:AH P y.μ y.s.heap v d):AH P z.μ z.s.heap v d:=by
 obtain ⟨_,_,_,rfl,e⟩:=x;exact H.mono e
theorem AE.up(x:y.le z)(H:AE P y.μ y.s.heap vs ds):AE P z.μ z.s.heap vs ds:=by
 obtain ⟨_,_,_,rfl,e⟩:=x;exact H.mono e
theorem ExR.up{μ:List Addr}{c:List Nat}{e:Addr}{h:Heap}(x:y.le z)(H:ExR P μ z.s.heap c e h):ExR P μ y.s.heap c e h:=by
 obtain ⟨_,_,_,rfl,x⟩:=x;exact H.base x.fresh
end
section
variable{B:Bs}{C:Cf B}{y z:Pt}{ρ:Loc}{σ σ':AA}{Q:dF→dG→Prop}{o:R}
structure In (C:Cf B) (z:Pt) (ρ:Loc) (σ:AA):Prop where
 since:C.y0.le z
 sto:Sto B.P z.μ σ z.s.heap
 fr:FR B.P z.μ B.N.names C.env ρ z.s.heap
 stk:B7 B.P z.μ C.stk z.s.heap
theorem In.up(I:In C y ρ σ)(x:y.le z)(S:Sto B.P z.μ σ' z.s.heap):In C z ρ σ':=by
 refine ⟨I.since.trans x,S,?_,?_⟩
 ·obtain ⟨_,_,_,rfl,e⟩:=x;exact I.fr.mono e
 ·obtain ⟨_,_,_,rfl,e⟩:=x;exact I.stk.mono e
def Xk (C:Cf B) (y:Pt) (c:List Nat) (σ':AA):Prop:= ∀e z,y.le z→Sto B.P z.μ σ' z.s.heap→ExR B.P z.μ y.s.heap c e z.s.heap→C.Er (.ref e) z.s
def Vk (C:Cf B) (y:Pt) (Q:dF→dG→Prop) (d:D) (σ':AA):Prop:= ∀v z,y.le z→Sto B.P z.μ σ' z.s.heap→AH B.P z.μ z.s.heap v d→Q v z.s
def Bk (C:Cf B) (y:Pt) (Q:Bool→dG→Prop) (d:D) (σ':AA):Prop:= ∃b,d=.bool b∧∀z,y.le z→Sto B.P z.μ σ' z.s.heap→Q b z.s
noncomputable def WR (C:Cf B) (y:Pt) (K:D→AA→Prop):R→Prop
 |some (.ok d,σ')=>K d σ'
 |some (.ex c,σ')=>Xk C y c σ'
 |none=>False
abbrev W (C:Cf B) (y:Pt) (Q:dF→dG→Prop) (o:R):Prop:=WR C y (Vk C y Q) o
abbrev WB (C:Cf B) (y:Pt) (Q:Bool→dG→Prop) (o:R):Prop:=WR C y (Bk C y Q) o
theorem Xk.up{c:List Nat}(x:y.le z)(H:Xk C y c σ):Xk C z c σ:=fun e w l S V=>H e w (x.trans l) S (V.up x)
theorem Vk.up(x:y.le z)(H:Vk C y Q d σ):Vk C z Q d σ:=fun e w l S V=>H e w (x.trans l) S V
theorem Bk.up{Q:Bool→dG→Prop}(x:y.le z)(H:Bk C y Q d σ):Bk C z Q d σ:=H.imp fun b w=>⟨w.1,fun z l S=>w.2 z (x.trans l) S⟩
theorem WR.imp{K K':D→AA→Prop}(x:y.le z)(h:WR C y K o)(k:∀d σ,K d σ→K' d σ):WR C z K' o:=by
 revert h;exact R_e o (fun h=>aY h) (fun d σ' h=>k _ _ h) fun c σ' h=>Xk.up x h
theorem W.up(x:y.le z)(h:W C y Q o):W C z Q o:=h.imp x fun _ _=>Vk.up x
theorem WB.up{Q:Bool→dG→Prop}(x:y.le z)(h:WB C y Q o):WB C z Q o:=h.imp x fun _ _=>Bk.up x
theorem WR.bnd{K:D→AA→Prop}{f:D→AA→R}(h:WR C y K (bnd o f)):WR C y (fun d σ=>WR C y K (f d σ)) o:=by
 revert h;exact R_e o (fun h=>aY h) (fun d σ' h=>h) fun c σ' h=>h
theorem WR.bnd'{K:D→AA→Prop}{f:D→AA→R}(h:WR C y (fun d σ=>WR C y K (f d σ)) o):WR C y K (Mine.bnd o f):=by
 revert h;exact R_e o (fun h=>aY h) (fun d σ' h=>h) fun c σ' h=>h
theorem W.bnd{Q1:dF→dG→Prop}{f:D→AA→R}(h:W C y Q (bnd o f))(k:∀d σ1 v z,y.le z→Sto B.P z.μ σ1 z.s.heap→AH B.P z.μ z.s.heap v d→W C z Q (f d σ1)→Q1 v z.s):W C y Q1 o:=
 (WR.bnd h).imp (.refl y) fun d σ1 h v z x S V=>k d σ1 v z x S V (W.up x h)
theorem WB.bnd{Q:Bool→dG→Prop}{Q1:dF→dG→Prop}{f:D→AA→R}(h:WB C y Q (bnd o f))(k:∀d σ1 v z,y.le z→Sto B.P z.μ σ1 z.s.heap→AH B.P z.μ z.s.heap v d→WB C z Q (f d σ1)→Q1 v z.s):W C y Q1 o:=
 (WR.bnd h).imp (.refl y) fun d σ1 h v z x S V=>k d σ1 v z x S V (WB.up x h)
noncomputable def boolK (a b:AA→R) (d:D) (σ:AA):R:=match d with
 | .bool true=>a σ
 | .bool false=>b σ
 |_=>none
theorem WR.boolK{K:D→AA→Prop}{a b:AA→R}{d:D}(h:WR C y K (boolK a b d σ)):∃t,d=.bool t∧WR C y K (bif t then a σ else b σ):=by
 cases d with
 |bool t=>cases t<;>exact ⟨_,rfl,h⟩
 |_=>exact aY h
theorem W.test{Q1:Bool→dG→Prop}{a b:AA→R}(h:W C y Q (Mine.bnd o (Mine.boolK a b)))(k:∀t σ1 z,y.le z→Sto B.P z.μ σ1 z.s.heap→W C z Q (bif t then a σ1 else b σ1)→Q1 t z.s):WB C y Q1 o:=
 (WR.bnd h).imp (.refl y) fun _ σ1 h=>(WR.boolK h).imp fun t w=>⟨w.1,fun z x S=>k t σ1 z x S (W.up x w.2)⟩
theorem WB.test{Q Q1:Bool→dG→Prop}{a b:AA→R}(h:WB C y Q (Mine.bnd o (Mine.boolK a b)))(k:∀t σ1 z,y.le z→Sto B.P z.μ σ1 z.s.heap→WB C z Q (bif t then a σ1 else b σ1)→Q1 t z.s):WB C y Q1 o:=
 (WR.bnd h).imp (.refl y) fun _ σ1 h=>(WR.boolK h).imp fun t w=>⟨w.1,fun z x S=>k t σ1 z x S (WB.up x w.2)⟩
theorem WB.val{Q:Bool→dG→Prop}{Q':dF→dG→Prop}(h:WB C y Q o)(hq:∀b s',Q b s'→Q' (.bool b) s'):W C y Q' o:=
 WR.imp (.refl y) h fun _ _ ⟨_,e,k⟩ v z x S V=>by
  subst e;exact V.bool_e (C:=fun v=>Q' v z.s) (hq _ _ (k z x S))
theorem WR.opt{K:D→AA→Prop}{o:Option D}{f:D→R}(h:WR C y K (match o with|some a=>f a|none=>none)):∃a,o=some a∧WR C y K (f a):=by
 cases o with
 |none=>exact aY h
 |some a=>exact ⟨a,rfl,h⟩
theorem W.post{R:Prop}(h:W C y Q o)(k:∀r σ',o=some (r,σ')→AY B.P y.μ r σ' y.s Q C.Er→R):R:=by
 revert h k;exact R_e o (fun h _=>aY h) (fun d σ' h k=>k (.ok d) σ' rfl fun v h' tk ν x S V=>h v (y.at ν h' tk) (.of x tk) S V) fun c σ' h k=>k (.ex c) σ' rfl fun v h' tk ν x S V=>h v (y.at ν h' tk) (.of x tk) S V
theorem W.of{r:Ro}(h:AY B.P y.μ r σ' y.s Q C.Er):W C y Q (some (r,σ')):=by
 cases r with
 |ok d=>intro v z x S V;obtain ⟨ν,h',tk,rfl,e⟩:=x;exact h v h' tk ν e S V
 |ex c=>intro v z x S V;obtain ⟨ν,h',tk,rfl,e⟩:=x;exact h v h' tk ν e S V
theorem W.here{d:D}(h:W C y Q (Ab d σ))(S:Sto B.P y.μ σ y.s.heap){v:dF}(V:AH B.P y.μ y.s.heap v d):Q v y.s:=h v y (.refl y) S V
theorem W.here'{d:D}(h:W C y Q (Ab d σ))(S:Sto B.P y.μ σ y.s.heap)(tk:Nat){v:dF}(V:AH B.P y.μ y.s.heap v d):Q v {y.s with toks:=tk}:=
 h v ⟨y.μ,{y.s with toks:=tk}⟩ ⟨[],y.s.heap,tk,by rw[af],Ext.refl _ _⟩ S V
theorem Sto.same{tk:Nat}(S:Sto B.P y.μ σ y.s.heap):y.le ⟨y.μ,{y.s with toks:=tk}⟩:=⟨[],y.s.heap,tk,by rw[af],Ext.refl _ _⟩
theorem Pt.le.keeps{h:Heap}(kp:AN y.s.heap h)(tk:Nat):y.le ⟨y.μ,{y.s with heap:=h,toks:=tk}⟩:=⟨[],h,tk,by rw[af],kp.ext fun _ q=>by contradiction⟩
structure Cf.Ok (C:Cf B):Prop where
 hs:ScR C.sc C.env
 hc:Cx C.A C.stk B.k
def EvG (C:Cf B) (Q:dF→dG→Prop) (y:Pt) (x:Expr):Prop:=dH (model B.P.prog B.P.w) C.A (eval x C.env) Q C.Er y.s
def TrG (C:Cf B) (Q:Bool→dG→Prop) (y:Pt) (x:Expr):Prop:=dH (model B.P.prog B.P.w) C.A (isTrue x C.env (eval x C.env)) Q C.Er y.s
def BO (B:Bs) (n:Nat):Prop:= ∀{C:Cf B} {m:Nat} {e:E} {x:Expr} {ρ:Loc} {σ:AA} {y:Pt} {Q:dF→dG→Prop},C.Ok→mE B.N m C.sc e x=true→In C y ρ σ→W C y Q (ev B.call B.G n e ρ σ)→EvG C Q y x
def EJ (B:Bs) (n:Nat):Prop:= ∀{C:Cf B} {m:Nat} {e:E} {x:Expr} {ρ:Loc} {σ:AA} {y:Pt} {Q:Bool→dG→Prop},C.Ok→mE B.N m C.sc e x=true→In C y ρ σ→WB C y Q (ev B.call B.G n e ρ σ)→TrG C Q y x
noncomputable def WE {α β:Type} (C:Cf B) (y:Pt) (rel:Pt→β→α→Prop) (Q:β→dG→Prop):Option (Except (List Nat) α×AA)→Prop
 |some (.ok a,σ')=> ∀b z,y.le z→Sto B.P z.μ σ' z.s.heap→rel z b a→Q b z.s
 |some (.error c,σ')=>Xk C y c σ'
 |none=>False
def rVs (B:Bs) (z:Pt) (vs:List dF) (ds:List D):Prop:=AE B.P z.μ z.s.heap vs ds
theorem WL.nil{Q:List dF→dG→Prop}{ev:E→AA→R}(h:WE C y (rVs B) Q (evL ev [] σ))(S:Sto B.P y.μ σ y.s.heap):Q [] y.s:=h [] y (.refl y) S .nil
theorem WL.cons{Q:List dF→dG→Prop}{Q1:dF→dG→Prop}{ev:E→AA→R}{e:E}{es:List E}(h:WE C y (rVs B) Q (evL ev (e::es) σ))
  (k:∀σ1 v z,y.le z→Sto B.P z.μ σ1 z.s.heap→WE C z (rVs B) (fun vs=>Q (v::vs)) (evL ev es σ1)→Q1 v z.s):W C y Q1 (ev e σ):=by
 unfold evL at h;generalize ev e σ=o at h ⊢;revert h;refine R_e o (fun h=>aY h) (fun d σ1 h v z x S V=>k σ1 v z x S ?_) fun c σ' h=>h;dsimp only at h;generalize evL ev es σ1=o at h ⊢;revert h;exact J7 o (fun h=>aY h) (fun ds σ' h vs w l S V2=>h (v::vs) w (x.trans l) S (.cons (V.up l) V2)) fun c σ' h=>Xk.up x h
theorem Ti{ev:E→AA→R}(es:List E):∀{σ:AA} {f:List D→AA→R},evLb ev es σ f=match evL ev es σ with
 |none=>none
 |some (.error c,σ)=>some (.ex c,σ)
 |some (.ok ds,σ)=>f ds σ:=by
 induction es with
 |nil=>intro σ f;rfl
 |cons e es ih=>
  intro σ f
  show bnd (ev e σ) (fun d σ=>evLb ev es σ fun ds σ=>f (d::ds) σ)=match (match ev e σ with
   |none=>none
   |some (.ex c,σ)=>some (Except.error c,σ)
   |some (.ok d,σ)=>match evL ev es σ with
    |none=>none
    |some (Except.error c,σ)=>some (Except.error c,σ)
    |some (Except.ok ds,σ)=>some (Except.ok (d::ds),σ)) with
   |none=>none
   |some (Except.error c,σ)=>some (.ex c,σ)
   |some (Except.ok ds,σ)=>f ds σ
  generalize ev e σ=o;refine R_e o rfl (fun d σ1=>ih.trans ?_) fun _ _=>rfl;dsimp only;generalize evL ev es σ1=o;exact J7 o rfl (fun _ _=>rfl) fun _ _=>rfl
theorem WL.of{Q1:List dF→dG→Prop}{ev:E→AA→R}{es:List E}{f:List D→AA→R}(h:W C y Q (evLb ev es σ f))(k:∀ds σ1 vs z,evL ev es σ=some (.ok ds,σ1)→y.le z→Sto B.P z.μ σ1 z.s.heap→AE B.P z.μ z.s.heap vs ds→W C z Q (f ds σ1)→Q1 vs z.s):WE C y (rVs B) Q1 (evL ev es σ):=by
 rw[Ti]at h;generalize evL ev es σ=o at h k ⊢;revert h k;exact J7 o (fun h=>aY h) (fun ds σ' h k vs z x S V=>k ds σ' vs z rfl x S V (W.up x h)) fun c σ' h _=>h
end
theorem AC{a b:Bool}(h:(a&&b)=true):a=true∧b=true:=bD.mp h
theorem GX{a b:Nat}(h:Nat.blt a b=true):a<b:=by rw[N5]at h;exact of_decide_eq_true h
theorem Ac{α:Type}{R:Prop}{o:Option α}{p:α→Bool}(h:o.any p=true)(k:∀a,p a=true→R):R:=by
 cases o with
 |none=>exact xbf h
 |some a=>exact k a h
theorem An{α:Type}{a b:α}{C:α→Prop}(e:a=b)(h:C b):C a:=e▸h
theorem Bz{x:Expr}{C:Expr→Prop}{f:Str→List Expr→Bool}(h:DB x f=true)(k:∀y q xs p,f y xs=true→C (.Call (.Name y q) xs [] p)):C x:=by
 unfold DB at h;exact Ac h fun v h=>Ac h fun y h=>aW y.2 fun q e2=>An v.2 (An (C:=fun z=>C (.Call z _ _ _)) e2 (k _ _ _ _ h))
theorem Hw{α:Type}{xs:List α}{C:List α→Prop}{f:α→Bool}(h:Il xs f=true)(k:∀x,f x=true→C [x]):C xs:=by
 cases xs with
 |nil=>exact xbf h
 |cons x xs=>cases xs with
  |nil=>exact k x h
  |cons=>exact xbf h
section
variable{N:Nm}{m:Nat}{sc:dQ}{C:Expr→Prop}{x:Expr}
theorem Tj{e:E}{p:Pos}:mE N m sc e (.Starred x p)=false:=by
 cases m with
 |zero=>rfl
 |succ m=>
  cases e with
  |bi b as=>cases b<;>exact Hj
  |call|callv|new|heard=>exact Hj
  |_=>rfl
theorem Cp{e:E}{env:PySem.Env}{rest:List Expr}(h:mE N m sc e x=true):starEach (x::rest) env=(false,eval x env)::starEach rest env:=by
 cases x<;>first|rfl|(rw[Tj]at h;exact xbf h)
theorem Qy{i:Nat}(hm:mE N (m+1) sc (.loc i) x=true)(k:∀y p,N.names[i]? =some y→DS sc y=true→C (.Name y p)):C x:=
 Ac hm fun v h=>aW v.2 fun p e=>An e (k v.1 p (eq_of_beq (AC h).1) (AC h).2)
theorem OK{i:Nat}(hm:mE N (m+1) sc (.glob i) x=true)(k:∀p,Af sc (N.glN i)=true→C (.Name (N.glN i) p)):C x:=
 Ac hm fun v h=>aW v.2 fun p e=>An e (An (C:=fun y=>C (.Name y p)) (eq_of_beq (AC h).1).symm (k p ((eq_of_beq (AC h).1).symm▸(AC h).2)))
theorem VL{i:Nat}(hm:mE N (m+1) sc (.fn i) x=true)(k:∀y p,(N.fnN i).contains y=true→Af sc y=true→C (.Name y p)):C x:=
 Ac hm fun v h=>aW v.2 fun p e=>An e (k v.1 p (AC h).1 (AC h).2)
theorem Qz{es:List E}(hm:mE N (m+1) sc (.tup es) x=true)(k:∀xs c p,Aj (mE N m sc) es xs=true→es.length<1000→C (.Tuple xs c p)):C x:=
 Ac hm fun v h=>aW v.2 fun c e=>aW e fun p e=>An e (k v.1 c p (AC h).1 (GX (AC h).2))
theorem Q0{es:List E}(hm:mE N (m+1) sc (.lst es) x=true)(k:∀xs p,Aj (mE N m sc) es xs=true→es.length<1000→C (.List xs p)):C x:=
 Ac hm fun v h=>aW v.2 fun p e=>An e (k v.1 p (AC h).1 (GX (AC h).2))
theorem Q3{op:Bin}{a b:E}(hm:mE N (m+1) sc (.bin op a b) x=true)(k:∀l r p,mE N m sc a l=true→mE N m sc b r=true→C (.BinOp l (opr op) r p)):C x:=
 Ac hm fun v h=>aW v.2 fun p e=>An e (An (C:=fun o=>C (.BinOp _ o _ p)) (Qj (AC (AC h).1).1) (k _ _ p (AC (AC h).1).2 (AC h).2))
theorem Q4{a:E}{ops:List Cmp}{bs:List E}(hm:mE N (m+1) sc (.cmp a ops bs) x=true)(k:∀l os rs p,TV ops os=true→mE N m sc a l=true→Aj (mE N m sc) bs rs=true→rs.all FI=true→ops.length=bs.length→C (.Compare l os rs p)):C x:=
 Ac hm fun v h=>aW v.2 fun p e=>An e (k _ _ _ p (AC (AC (AC (AC h).1).1).1).1 (AC (AC (AC (AC h).1).1).1).2 (AC (AC (AC h).1).1).2 (AC (AC h).1).2 (bt (AC h).2))
theorem Q5{es:List E}(hm:mE N (m+1) sc (.and es) x=true)(k:∀xs p,Aj (mE N m sc) es xs=true→C (.BoolOp .And xs p)):C x:=
 Ac hm fun v h=>aW v.2 fun p e=>An e (by
  revert h;generalize v.1=w;intro h;obtain ⟨_|_,xs⟩:=w
  ·exact k _ p (AC h).2
  ·cases (AC h).1)
theorem VM{es:List E}(hm:mE N (m+1) sc (.or es) x=true)(k:∀xs p,Aj (mE N m sc) es xs=true→C (.BoolOp .Or xs p)):C x:=
 Ac hm fun v h=>aW v.2 fun p e=>An e (by
  revert h;generalize v.1=w;intro h;obtain ⟨_|_,xs⟩:=w
  ·cases (AC h).1
  ·exact k _ p (AC h).2)
theorem Pf{o:UnaryOp}(h:isNotO o=true):o=.Not:=by cases o<;>first|rfl|exact xbf h
theorem Pg{o:UnaryOp}(h:isNegO o=true):o=.USub:=by cases o<;>first|rfl|exact xbf h
theorem Q6{a:E}(hm:mE N (m+1) sc (.not a) x=true)(k:∀y p,mE N m sc a y=true→C (.UnaryOp .Not y p)):C x:=
 Ac hm fun v h=>aW v.2 fun p e=>An e (An (C:=fun o=>C (.UnaryOp o _ p)) (Pf (AC h).1) (k _ p (AC h).2))
theorem Q7{a:E}(hm:mE N (m+1) sc (.neg a) x=true)(k:∀y p,mE N m sc a y=true→C (.UnaryOp .USub y p)):C x:=
 Ac hm fun v h=>aW v.2 fun p e=>An e (An (C:=fun o=>C (.UnaryOp o _ p)) (Pg (AC h).1) (k _ p (AC h).2))
theorem Q8{c a b:E}(hm:mE N (m+1) sc (.ite c a b) x=true)(k:∀t y z p,mE N m sc c t=true→mE N m sc a y=true→mE N m sc b z=true→C (.IfExp t y z p)):C x:=
 Ac hm fun v h=>aW v.2 fun p e=>An e (k _ _ _ p (AC (AC h).1).1 (AC (AC h).1).2 (AC h).2)
theorem Q9{a i:E}(hm:mE N (m+1) sc (.idx a i) x=true)(k:∀y z p,mE N m sc a y=true→mE N m sc i z=true→DT z=true→C (.Subscript y z p)):C x:=
 Ac hm fun v h=>aW v.2 fun p e=>An e (k _ _ p (AC (AC h).1).1 (AC (AC h).1).2 (AC h).2)
theorem RB{a:E}{lo hi:Option E}(hm:mE N (m+1) sc (.slc a lo hi) x=true)(k:∀y l h q p,mE N m sc a y=true→LJ (mE N m sc) lo l=true→LJ (mE N m sc) hi h=true→C (.Subscript y (.Slice l h none q) p)):C x:=
 Ac hm fun v h=>Ac h fun w h=>aW v.2 fun p e=>An e (aW w.2 fun q e2=>An (C:=fun z=>C (.Subscript _ z p)) e2 (k _ _ _ q p (AC (AC h).1).1 (AC (AC h).1).2 (AC h).2))
theorem OL{a:E}{j:Nat}(hm:mE N (m+1) sc (.attr a j) x=true)(k:∀y p,mE N m sc a y=true→Cu y=true→C (.Attribute y (CW j) p)):C x:=
 Ac hm fun v h=>An v.2 (An (C:=fun z=>C (.Attribute _ z _)) (eq_of_beq (AC (AC h).1).2).symm (k _ _ (AC (AC h).1).1 (AC h).2))
theorem KH{g:Nat}{as:List E}(hm:mE N (m+1) sc (.call g as) x=true)(k:∀y q xs p,(N.fnN g).contains y=true→Af sc y=true→Aj (mE N m sc) as xs=true→C (.Call (.Name y q) xs [] p)):C x:=
 Bz hm fun y q xs p h=>k y q xs p (AC (AC h).1).1 (AC (AC h).1).2 (AC h).2
theorem RC{i:Nat}{as:List E}(hm:mE N (m+1) sc (.callv i as) x=true)(k:∀y q xs p,N.names[i]? =some y→DS sc y=true→Aj (mE N m sc) as xs=true→C (.Call (.Name y q) xs [] p)):C x:=
 Bz hm fun y q xs p h=>k y q xs p (eq_of_beq (AC (AC h).1).1) (AC (AC h).1).2 (AC h).2
theorem YG{y w:Str}{b c:Bool}{C:Str→Prop}(h:(w==y&&Af sc y&&b)=true)(k:Af sc w=true→b=true→C w):C y:=
 An (eq_of_beq (AC (AC h).1).1).symm (k ((eq_of_beq (AC (AC h).1).1).symm▸(AC (AC h).1).2) (AC h).2)
theorem JR{y w:Str}{b:Bool}{C:Str→Prop}(h:(y==w&&Af sc y&&b)=true)(k:Af sc w=true→b=true→C w):C y:=
 An (eq_of_beq (AC (AC h).1).1) (k ((eq_of_beq (AC (AC h).1).1)▸(AC (AC h).1).2) (AC h).2)
theorem Vw{as:List E}(hm:mE N (m+1) sc (.new as) x=true)(k:∀q xs p,Af sc "Level"=true→Aj (mE N m sc) as xs=true→C (.Call (.Name "Level" q) xs [] p)):C x:=
 Bz hm fun _ q xs p h=>JR (C:=fun y=>C (.Call (.Name y q) xs [] p)) h (k q xs p)
theorem YH{b:BI}{as:List E}(hb:HZ b=true)(hm:mE N (m+1) sc (.bi b as) x=true)(k:∀q xs p,Af sc (biN b)=true→Aj (mE N m sc) as xs=true→C (.Call (.Name (biN b) q) xs [] p)):C x:=
 Bz (f:=fun y xs=>biN b==y&&Af sc y&&Aj (mE N m sc) as xs) (by cases b<;>first|exact hm|exact xbf hb) fun _ q xs p h=>YG (c:=true) (C:=fun y=>C (.Call (.Name y q) xs [] p)) h (k q xs p)
theorem OM{me:ME}{r:E}{as:List E}(hm:mE N (m+1) sc (.meth me r as) x=true)(k:∀y apos xs pos,mE N m sc r y=true→Cu y=true→Aj (mE N m sc) as xs=true→(apos.endLine==pos.line)=true→xs.length<20→C (.Call (.Attribute y (meN me) apos) xs [] pos)):C x:=
 Ac hm fun v h=>Ac h fun w h=>An v.2 (An (C:=fun z=>C (.Call z _ _ _)) w.2 (An (C:=fun z=>C (.Call (.Attribute _ z _) _ _ _)) (eq_of_beq (AC (AC (AC (AC (AC h).1).1).1).1).1).symm
  (k _ _ _ _ (AC (AC (AC (AC (AC h).1).1).1).1).2 (AC (AC (AC (AC h).1).1).1).2 (AC (AC (AC h).1).1).2 (AC (AC h).1).2 (GX (AC h).2))))
theorem KI{f:Bool}{kvs:List (E×E)}(hm:mE N (m+1) sc (bif f then .dcti kvs else .dcts kvs) x=true)(k:∀ks vs p,Di (mE N m sc) kvs ks vs=true→kvs.length<16→C (.Dict ks vs p)):C x:=by
 cases f<;>exact Ac hm fun v h=>aW v.2 fun p e=>An e (k _ _ p (AC h).1 (GX (AC h).2))
end
section
variable{P:PI}{N:Nm}{μ ν:List Addr}{σ σ':AA}{A:dJ}{s:dG}{Q Er:dF→dG→Prop}{env:PySem.Env}{ρ:Loc}{sc:dQ}{M:dO}
theorem EK{x:Str}(h:Af sc x=true)(H:ScR sc env):env.kindOf x=some .globalImplicit∧(x==("__debug__":Str))=false:=by
 unfold Af at h;haveI hl:sc.names.lookup x=some .globalImplicit:=by
  haveI h1:=(AC h).1;clear h;revert h1;cases sc.names.lookup x with
  |none=>exact fun h=>xbf h
  |some k=>cases k<;>first|exact fun _=>rfl|exact fun h=>xbf h
 haveI h2:(x==("__debug__":Str))=false:=by
  haveI:=(AC h).2;revert this;cases (x==("__debug__":Str))<;>first|exact fun _=>rfl|exact fun h=>xbf h
 exact ⟨(H x).elim (fun e=>e.trans hl) fun e=>(nomatch (hl.symm.trans e.1)),h2⟩
theorem JS{x:Str}(h:DS sc x=true)(H:ScR sc env):Vis env x:=by
 unfold DS at h;haveI h1:=(AC (AC h).1).1;clear h;refine (H x).elim (fun e=> ?_) fun e=>.inr (.inl e.2);unfold Vis;refine e▸ ?_;revert h1;cases sc.names.lookup x with
 |none=>exact fun h=>xbf h
 |some k=>cases k<;>first|exact fun _=>.inl rfl|exact fun _=>.inr (.inl rfl)|exact fun _=>.inr (.inr rfl)|exact fun h=>xbf h
theorem Ei{x:Str}(h:DS sc x=true):(x==("__debug__":Str))=false∧(x==("__classdict__":Str))=false:=by
 unfold DS at h;haveI key:∀b:Bool,(!b)=true→b=false:=by decide
 exact ⟨key _ (AC (AC h).1).2,key _ (AC h).2⟩
theorem JT(K:Ok P)(F:FR P μ N.names env ρ s.heap)(S:Sto P μ σ s.heap){x:Str}{pos:Pos}(h:env.kindOf x=some .globalImplicit∧(x==("__debug__":Str))=false){v:dF}
  (hv:P.mg x=some v∨(P.mg x=none∧P.mb x=some v)) (hq:Q v s):dH M A (eval (.Name x pos) env) Q Er s:=by
 refine wpAny_Name (PySem.W.ks_loadName_global F.kind h.1 ?_) h.2;unfold loadGlobal;rw[F.glob,F.bi];refine dI (wpAny_nsGet (K.glS S) ?_);cases hv with
 |inl e=>rw[e];exact dL hq
 |inr e=>
  rw[e.1];refine dI (wpAny_nsGet (K.biS S) ?_);rw[e.2];exact dL hq
theorem JU(hs:ScR sc env)(F:FR P μ N.names env ρ s.heap){i:Nat}{x:Str}{d:D}(hx:N.names[i]? =some x)(hi:DS sc x=true)(hd:ρ[i]? =some (some d))(hq:∀v,AH P μ s.heap v d→Q v s):
  dH M A (loadName env x) Q Er s:=
 aW (F.var i x d hx hd (JS hi hs)) fun v hv=>hv.2.elim (fun h=>aW h.2 fun m hm=>eC F.kind h.1 hm.1 hm.2 (hq v hv.1))
  fun h=>aW h.2 fun c hc=>h.1.elim (fun k=>wpAny_loadName_cell F.kind k hc.1 hc.2 (hq v hv.1)) fun k=>wpAny_loadName_free F.kind k hc.1 hc.2 (hq v hv.1) (Ei hi).2
theorem LZ(hs:ScR sc env)(F:FR P μ N.names env ρ s.heap){i:Nat}{x:Str}{pos:Pos}{d:D}(hx:N.names[i]? =some x)(hi:DS sc x=true)(hd:ρ[i]? =some (some d))(hq:∀v,AH P μ s.heap v d→Q v s):
  dH M A (eval (.Name x pos) env) Q Er s:=wpAny_Name (JU hs F hx hi hd hq) (Ei hi).1
end
def Ce (P:PI) (call:Call) (k:Nat):Prop:= ∀(f:Nat) (ds:List D) (σ:AA) (r:Ro) (σ':AA),call f ds σ=some (r,σ')→∀(a:Addr),P.fn f=some a→∀(μ:List Addr) (s:dG) (A:dJ) (stk:List PySem.Env) (vs:List dF) (Q Er:dF→dG→Prop),
 Cx A stk k→Sto P μ σ s.heap→B7 P μ stk s.heap→AE P μ s.heap vs ds→AY P μ r σ' s Q Er→dH (model P.prog P.w) A (PySem.call (.ref a) vs) Q Er s
structure RD (P:PI) (k:Nat):Prop where
 name:P.mg "Level"=some (.ref P.lv)
 withC:∀(pos:Pos) (trees:List (Bool×Sem dF)) (A:dJ) (stk:List PySem.Env) (s:dG) (Q Er:dF→dG→Prop),Cx A stk k→trees.any (·.1)=false→
  dH (model P.prog P.w) A (evalArgs (.ref P.lv) true trees []) (fun a s₁=>AN P.hb s₁.heap∧dH (model P.prog P.w) A (PySem.call (.ref P.lv) a.pos a.kw) Q Er s₁) Er s→dH (model P.prog P.w) A (callWith pos (.ref P.lv) [] trees []) Q Er s
 made:∀(μ:List Addr) (σ:AA) (s:dG) (A:dJ) (stk:List PySem.Env) (vk vw:dF) (dk dw:D) (Q Er:dF→dG→Prop),Cx A stk k→Sto P μ σ s.heap→B7 P μ stk s.heap→AH P μ s.heap vk dk→AH P μ s.heap vw dw→
  AY P μ (.ok (.obj σ.length)) (σ++[.ins [dk,dw,.loc (σ.length+1),.loc (σ.length+2),.loc (σ.length+3)],.lst [],.lst [],.lst []]) s Q Er→dH (model P.prog P.w) A (PySem.call (.ref P.lv) [vk,vw]) Q Er s
structure Bs.Ok (B:Bs):Prop where
 K:Mine.Ok B.P
 nm:Qx B.P B.N B.G
 call:Ce B.P B.call B.k
 new:RD B.P B.k
section
variable{B:Bs}{C:Cf B}{y z:Pt}{ρ:Loc}{σ σ':AA}{Q:dF→dG→Prop}{m n:Nat}{x:Expr}
theorem In.glob(K:Ok B.P)(c:C.Ok)(I:In C y ρ σ){i:Str}{p:Pos}(h:Af C.sc i=true){v:dF}(hv:B.P.mg i=some v∨(B.P.mg i=none∧B.P.mb i=some v))(hq:Q v y.s):dH (model B.P.prog B.P.w) C.A (eval (.Name i p) C.env) Q C.Er y.s:=
 JT K I.fr I.sto (EK h c.hs) hv hq
theorem W.loc{i:Nat}(h:W C y Q (ev B.call B.G (n+1) (.loc i) ρ σ)):∃d,ρ[i]? =some (some d)∧W C y Q (Ab d σ):=by
 replace h:W C y Q (match ρ[i]? with|some (some d)=>Ab d σ|_=>none):=h
 revert h;cases ρ[i]? with
 |none=>exact fun h=>by contradiction
 |some o=>cases o with
  |none=>exact fun h=>by contradiction
  |some d=>exact fun h=>⟨d,rfl,h⟩
theorem KJ(H:BO B n)(c:C.Ok){pos:Pos}(es:List E):∀{xs:List Expr} {σ:AA} {y:Pt} {Q:List dF→dG→Prop},Aj (mE B.N m C.sc) es xs=true→In C y ρ σ→WE C y (rVs B) Q (evL (fun e σ=>ev B.call B.G n e ρ σ) es σ)→
  dH (model B.P.prog B.P.w) C.A (spliced (backTo pos (starEach xs C.env))) Q C.Er y.s:=by
 induction es with
 |nil=>
  intro xs σ y Q hm I h;cases xs with
  |nil=>exact spliced_nil (WL.nil h I.sto)
  |cons=>exact xbf hm
 |cons e es ih=>
  intro xs σ y Q hm I h;cases xs with
  |nil=>exact xbf hm
  |cons x xs=>
   rw[Cp (AC hm).1];exact spliced_cons (H c (AC hm).1 I (WL.cons h fun σ1 v z l S h=>ih (AC hm).2 (I.up l S) h))
theorem CS(H:BO B n)(c:C.Ok){pos:Pos}{f:dF}{es:List E}{xs:List Expr}{Q:Args→dG→Prop}(hm:Aj (mE B.N m C.sc) es xs=true)(I:In C y ρ σ)(h:WE C y (rVs B) (fun vs=>Q ⟨vs,[]⟩) (evL (fun e σ=>ev B.call B.G n e ρ σ) es σ)):
  dH (model B.P.prog B.P.w) C.A (evalArgs f true (backTo pos (starEach xs C.env)) []) Q C.Er y.s:=by
 have h1:=KJ (pos:=pos) H c es hm I h;cases xs with
 |nil=>
  cases es with
  |nil=>exact PySem.evalArgs_none (WL.nil h I.sto)
  |cons=>exact xbf hm
 |cons x xs=>
  cases es with
  |nil=>exact xbf hm
  |cons e es=>
   rw[Cp (AC hm).1]at h1 ⊢;exact evalArgs_plain h1
theorem CY{pos:Pos}{env:PySem.Env}{sc:dQ}{N:Nm}(es:List E):∀{xs:List Expr},Aj (mE N m sc) es xs=true→(backTo pos (starEach xs env)).any (·.1)=false∧(backTo pos (starEach xs env)).all (fun x=> !x.1)=true:=by
 induction es with
 |nil=>intro xs h;cases xs with
  |nil=>exact ⟨rfl,rfl⟩
  |cons=>exact xbf h
 |cons e es ih=>intro xs h;cases xs with
  |nil=>exact xbf h
  |cons x xs=>
   rw[Cp (AC h).1];exact ih (AC h).2
theorem Vx{d:D}(c:C.Ok)(hm:mE B.N (m+1) C.sc (.cst d) x=true)(S:Sto B.P y.μ σ y.s.heap)(h:W C y Q (Ab d σ)):EvG C Q y x:=
 Ac hm fun v hm=>aW v.2 fun kd e=>aW e fun pos e=>An e (by
  revert hm;generalize v.1=k;intro hm;cases d with
  |none=>exact Ac hm fun v _=>An (C:=fun k=>EvG C Q y (.Constant k kd pos)) v.2 (wpAny_Constant_none (h.here S .none))
  |bool b=>exact Ac hm fun v hm=>An (C:=fun k=>EvG C Q y (.Constant k kd pos)) v.2 (wpAny_Constant_bool (h.here S ((eq_of_beq hm:b=v.1)▸ .bool _)))
  |int b=>exact Ac hm fun v hm=>An (C:=fun k=>EvG C Q y (.Constant k kd pos)) v.2 (wpAny_Constant_int (h.here' S _ ((of_decide_eq_true hm:b=v.1)▸ .int _ _)))
  |str b=>exact Ac hm fun v hm=>An (C:=fun k=>EvG C Q y (.Constant k kd pos)) v.2 (wpAny_Constant_str (h.here' S _ ((eq_of_beq (AC (AC hm).1).1:txt b=v.1)▸ .str _ _ ⟨fun c hc=>GX (ao.mp (AC hm).2 c hc),bz (ai (GX (AC (AC hm).1).2) (by decide))⟩)))
  |_=>exact xbf hm)
theorem RF{o:Obj}{d:D}(I:Sto B.P y.μ σ y.s.heap)(h:W C y Q (Ab d σ))(tk:Nat){v:dF}(V:AH B.P y.μ (y.s.heap.push o) v d):Q v {y.s with heap:=y.s.heap.push o,toks:=tk}:=
 h v ⟨y.μ,{y.s with heap:=y.s.heap.push o,toks:=tk}⟩ (.keeps (AN.push y.s.heap o) tk) (I.keeps (AN.push y.s.heap o)) V
theorem W.cell{c:AI}(h:W C y Q (some (.ok (.loc σ.length),σ++[c])))(S:Sto B.P y.μ σ y.s.heap){o:Obj}{tk:Nat}(hc:Ext y.μ [y.s.heap.objs.size] y.s.heap (y.s.heap.push o)→AQ B.P (y.μ++[y.s.heap.objs.size]) (y.s.heap.push o) y.s.heap.objs.size c):
  Q (.ref y.s.heap.objs.size) {y.s with heap:=y.s.heap.push o,toks:=tk}:=
 W.post h fun _ _ e hp=>by (injection e with e;injection e with h91 h92;subst h91;subst h92);exact AY.push S hp hc
theorem Vy{ev:E→AA→R}{e:E}{es:List E}{ds:List D}{R:Prop}(h:evL ev (e::es) σ=some (.ok ds,σ'))(k:∀d σ1 ds',evL ev es σ1=some (.ok ds',σ')→ds=d::ds'→R):R:=by
 unfold evL at h;generalize ev e σ=o at h;revert h;refine R_e o (fun h=>xns h) (fun d σ1 h=> ?_) fun c σ' h=> ?_
 ·dsimp only at h;generalize q:evL ev es σ1=o at h;revert h q;exact J7 o (fun _ h=>xns h) (fun ds' σ2 q h=>by injection h with h;injection h with h91 h92;injection h91 with h91;exact k d σ1 ds' (h92▸q) h91.symm) fun _ _ _ h=>by injection h with h;injection h with h _;contradiction
 ·injection h with h;injection h with h _;contradiction
theorem ON{ev:E→AA→R}(es:List E):∀{σ:AA} {ds:List D} {σ':AA},evL ev es σ=some (.ok ds,σ')→ds.length=es.length:=by
 induction es with
 |nil=>intro σ ds σ' h;(injection h with h;injection h with h91 h92;injection h91 with h91;subst h91;subst h92);rfl
 |cons e es ih=>intro σ ds σ' h;exact Vy h fun d σ1 ds' q e=>e▸congrArg (· +1) (ih q)
theorem Vz(H:BO B n)(c:C.Ok){es:List E}(hm:mE B.N (m+1) C.sc (.tup es) x=true)(I:In C y ρ σ)(h:W C y Q (ev B.call B.G (n+1) (.tup es) ρ σ)):EvG C Q y x:=
 Qz hm fun xs _ p ha hl=>wpAny_Tuple (KJ H c es ha I (WL.of h fun ds σ1 vs z hes l S V h=>by
  haveI hlen:=V.length.trans (ON es hes);refine ⟨by simp only[dU];lia,?_⟩
  haveI kp:=AN.push z.s.heap ({cls:=.type "tuple",data:=.seq vs.toArray}:Obj);exact RF S h z.s.toks (.tup (o:={cls:=.type "tuple",data:=.seq vs.toArray}) (k:=0) (Heap.get?_push_size _ rfl) rfl rfl (S.off (AR _)).1 (by lia) (V.mono0 (kp.ext fun _ q=>by contradiction)))))
theorem V0(H:BO B n)(c:C.Ok){es:List E}(hm:mE B.N (m+1) C.sc (.lst es) x=true)(I:In C y ρ σ)(h:W C y Q (ev B.call B.G (n+1) (.lst es) ρ σ)):EvG C Q y x:=
 Q0 hm fun xs p ha hl=>wpAny_List (KJ H c es ha I (WL.of (f:=fun ds σ=>Mine.alloc σ (.lst ds)) h fun ds σ1 vs z hes l S V h=>by
  have hlen:=V.length.trans (ON es hes);exact ⟨by refine dU▸ ?_;lia,W.cell (tk:=z.s.toks) h S fun x0=>⟨vs,0,Heap.get?_push_size _ rfl,by lia,V.mono x0⟩⟩))
theorem Tk(H:BO B n)(c:C.Ok){op:Bin}{a b:E}(hm:mE B.N (m+1) C.sc (.bin op a b) x=true)(I:In C y ρ σ)(h:W C y Q (ev B.call B.G (n+1) (.bin op a b) ρ σ)):EvG C Q y x:=
 Q3 hm fun l r p ha hb=>wpAny_BinOp (H c ha I (W.bnd h fun d σ1 v z l S V h=>H c hb (I.up l S) (W.bnd h fun d2 σ2 v2 z2 l2 S2 V2 h=>W.post h fun _ _ e hq=>Vq e S2 (V.up l2) V2 hq)))
theorem Tl(H:BO B n)(c:C.Ok){a b:E}(hm:mE B.N (m+1) C.sc (.idx a b) x=true)(I:In C y ρ σ)(h:W C y Q (ev B.call B.G (n+1) (.idx a b) ρ σ)):EvG C Q y x:=
 Q9 hm fun _ _ p ha hb hns=>Subscript_ (H c ha I (W.bnd h fun d σ1 v z l S V h=>H c hb (I.up l S) (W.bnd h fun d2 σ2 v2 z2 l2 S2 V2 h=>
  aW (WR.opt (C:=C) (o:=EB σ2 d d2) (f:=fun d=>Ab d σ2) h) fun _ e=>Vu hns e.1 S2 (V.up l2) V2 fun v tk V=>W.here' e.2 S2 tk V)))
theorem DE{o:Expr}{attr:Str}{env:PySem.Env}{t:Sem dF}(h:Cu o=true):attributeBase o attr env t=t:=by
 cases o with
 |Call f as ks p=>
  cases f with
  |Name id q=>
   cases as with
   |nil=>
    cases ks with
    |nil=>
     haveI:(id != ("super":Str))=true:=h;unfold attributeBase;dsimp only;refine this.symm▸ ?_;rfl
    |cons=>rfl
   |cons=>rfl
  |_=>rfl
 |_=>rfl
theorem AH.handed{P:PI}{μ:List Addr}{h:Heap}{v:dF}{d:D}(H:AH P μ h v d):handedOut v=pure v:=by
 haveI k:=H.elim fun v=>handedOut v=pure v;cases d<;>exact k (by intros;rfl)
theorem RG{a d2:D}{j:Nat}{R:Prop}(h:Me σ a j=some d2)(k:∀n l,a=.obj n→σ[n]? =some (.ins l)→j<5→l[j]? =some d2→R):R:=by
 cases a with
 |obj n=>
  replace h:(match σ[n]? with|some (.ins l)=>if j<5 then l[j]? else none|_=>none)=some d2:=h
  cases q:σ[n]? with
  |none=>rw[q]at h;exact xns h
  |some c=>
   rw[q]at h;cases c with
   |ins l=>
    dsimp only at h;by_cases hj:j<5
    ·exact k n l rfl q hj (by rw[←h];exact (if_pos hj).symm)
    ·rw[show (if j<5 then l[j]? else none)=none from if_neg hj]at h;exact xns h
   |_=>exact xns h
 |_=>exact xns h
theorem at5{C:Nat→Prop}(h0:C 0)(h1:C 1)(h2:C 2)(h3:C 3)(h4:C 4){j:Nat}(hj:j<5):C j:=by
 cases j with
 |zero=>exact h0
 |succ j=>cases j with
  |zero=>exact h1
  |succ j=>cases j with
   |zero=>exact h2
   |succ j=>cases j with
    |zero=>exact h3
    |succ j=>cases j with
     |zero=>exact h4
     |succ j=>exact absurd hj (bH.mpr (bU 5 j))
theorem RH(K:Ok B.P)(H:BO B n)(c:C.Ok){a:E}{j:Nat}(hm:mE B.N (m+1) C.sc (.attr a j) x=true)(I:In C y ρ σ)(h:W C y Q (ev B.call B.G (n+1) (.attr a j) ρ σ)):EvG C Q y x:=
 OL hm fun _ p ha hsu=>by
  unfold EvG;simp only[arm_eval_Attribute,DE hsu];refine dI (H c ha I (W.bnd h fun d σ1 v z l S V h=>dI (dZ (dI (dW ?_)))));refine aW (WR.opt (C:=C) (o:=Me σ1 d j) (f:=fun d=>Ab d σ1) h) fun d2 e=>RG e.1 fun i l e1 hl hj hd=> ?_;subst e1;apply V.obj_e;intro ad dx ho hn hi;refine aW (S.cell _ _ _ hi hl) fun m' H=>aW H fun vs H=>aW (H.2.2.2.2.2.2.2.get hd) fun w hw=> ?_;refine K.lvGet C.A _ _ C.Er _ _ m' j w (fun b o e=>S.base b o e) ho (fun q=>hn (q▸bB hi)) H.1 ?_ hw.2.handed (dI (wpAny_letTemporaryGo (dL (W.here' e.2 S _ hw.2))));rw[←hw.1];exact at5 (C:=fun j=>m' (CW j)=vs[j]?) H.2.2.1 H.2.2.2.1 H.2.2.2.2.1 H.2.2.2.2.2.1 H.2.2.2.2.2.2.1 hj
theorem Tm(H:BO B n)(c:C.Ok){a:E}(hm:mE B.N (m+1) C.sc (.neg a) x=true)(I:In C y ρ σ)(h:W C y Q (ev B.call B.G (n+1) (.neg a) ρ σ)):EvG C Q y x:=
 Q7 hm fun _ p ha=>wpAny_UnaryOp (H c ha I (W.bnd h fun d σ1 v z l S V h=>by
  cases d with
  |int i=>apply V.int_e;intro t;exact PyProof.Rows.neg_int (W.here' h S _ (.int _ _))
  |_=>exact aY h))
theorem Tn(H:BO B n)(c:C.Ok){a:E}(hm:mE B.N (m+1) C.sc (.not a) x=true)(I:In C y ρ σ)(h:W C y Q (ev B.call B.G (n+1) (.not a) ρ σ)):EvG C Q y x:=
 Q6 hm fun _ p ha=>wpAny_UnaryOp (H c ha I (W.bnd h fun d σ1 v z l S V h=>by
  cases d with
  |bool i=>apply V.bool_e;exact not_value (dr (W.here h S (.bool _)))
  |_=>exact aY h))
theorem To(T:EJ B n)(c:C.Ok){a:E}{Q:Bool→dG→Prop}(hm:mE B.N (m+1) C.sc (.not a) x=true)(I:In C y ρ σ)(h:WB C y Q (ev B.call B.G (n+1) (.not a) ρ σ)):TrG C Q y x:=
 Q6 hm fun _ p ha=>wpAny_isTrue_Not (T c ha I ((WR.bnd h).imp (.refl y) fun d σ1 h=>by
  cases d with
  |bool i=>
   refine ⟨i,rfl,fun z l S=> ?_⟩;obtain ⟨b,e,k⟩:=h
   (injection e with e;subst e)
   exact k z l S
  |_=>exact aY h))
theorem Tp(H:BO B n)(T:EJ B n)(c:C.Ok){e a b:E}(hm:mE B.N (m+1) C.sc (.ite e a b) x=true)(I:In C y ρ σ)(h:W C y Q (ev B.call B.G (n+1) (.ite e a b) ρ σ)):EvG C Q y x:=
 Q8 hm fun t u w p h1 h2 h3=>wpAny_IfExp (T c h1 I (W.test (a:=ev B.call B.G n a ρ) (b:=ev B.call B.G n b ρ) h fun t σ1 z l S h=>by
  cases t with
  |true=>exact H c h2 (I.up l S) h
  |false=>exact H c h3 (I.up l S) h))
theorem Tq(T:EJ B n)(c:C.Ok){e a b:E}{Q:Bool→dG→Prop}(hm:mE B.N (m+1) C.sc (.ite e a b) x=true)(I:In C y ρ σ)(h:WB C y Q (ev B.call B.G (n+1) (.ite e a b) ρ σ)):TrG C Q y x:=
 Q8 hm fun t u w p h1 h2 h3=>by
  unfold TrG;simp only[arm_isTrue_IfExp];refine dI (T c h1 I (WB.test (a:=ev B.call B.G n a ρ) (b:=ev B.call B.G n b ρ) h fun t σ1 z l S h=> ?_));cases t with
  |true=>exact T c h2 (I.up l S) h
  |false=>exact T c h3 (I.up l S) h
end
section
variable{B:Bs}{C:Cf B}{y z:Pt}{ρ:Loc}{σ σ':AA}{Q:dF→dG→Prop}{m n:Nat}{x:Expr}{o:R}
theorem WR.bool{K:D→AA→Prop}{d:D}(h:WR C y K (match d with| .bool b=>Ab (.bool b) σ|_=>none)):K d σ:=by
 cases d with
 |bool b=>exact h
 |_=>exact aY h
theorem W.bool{Q1:dF→dG→Prop}{a b:AA→R}(h:W C y Q (Mine.bnd o (Mine.boolK a b)))(k:∀t σ1 z,y.le z→Sto B.P z.μ σ1 z.s.heap→W C z Q (bif t then a σ1 else b σ1)→Q1 (.bool t) z.s):W C y Q1 o:=
 (W.test (Q1:=fun t s=>Q1 (.bool t) s) h k).val fun _ _ h=>h
theorem WB.here{b:Bool}{Q:Bool→dG→Prop}(h:WB C y Q (Ab (.bool b) σ))(S:Sto B.P y.μ σ y.s.heap):Q b y.s:=by
 obtain ⟨b',e,k⟩:=h
 (injection e with e;subst e)
 exact k y (.refl y) S
theorem WB.here'{b:Bool}{Q:Bool→dG→Prop}(h:WB C y Q (Ab (.bool b) σ))(S:Sto B.P y.μ σ y.s.heap)(tk:Nat):Q b {y.s with toks:=tk}:=WB.here (WB.up (Sto.same (tk:=tk) S) h) S
set_option backward.match.sparseCases true in
theorem V5(H:BO B n)(c:C.Ok)(pos:Pos)(es:List E):∀{xs:List Expr} {σ:AA} {y:Pt},Aj (mE B.N m C.sc) es xs=true→In C y ρ σ→W C y Q (DR (fun e σ=>ev B.call B.G n e ρ σ) es σ)→dH (model B.P.prog B.P.w) C.A (boolOp pos .And (evalEach xs C.env)) Q C.Er y.s:=by
 induction es with
 |nil=>intro xs σ y _ _ h;exact aY h
 |cons e es ih=>
  intro xs σ y hm I h;cases xs with
  |nil=>exact xbf hm
  |cons x xs=>
   cases es with
   |nil=>
    cases xs with
    |nil=>exact H c (AC hm).1 I ((WR.bnd h).imp (.refl y) fun d σ h=>WR.bool h)
    |cons=>cases (AC hm).2
   |cons e' es=>
    cases xs with
    |nil=>cases (AC hm).2
    |cons x' xs=>
     show dH _ _ (do
      let v ←eval x C.env
      standAt pos
      let t ←holding [v] (truthy v)
      match BoolOp.And,t with
      | .And,false| .Or,true=>pure v
      |_,_=>boolOp pos .And (evalEach (x'::xs) C.env)) _ _ _
     refine dI (H c (AC hm).1 I (W.bool (a:=DR (fun e σ=>ev B.call B.G n e ρ σ) (e'::es)) (b:=Ab (.bool false)) h fun t σ1 z l S h=>dI (dZ (dI (dW (dr ?_))))));cases t with
     |true=>exact ih (AC hm).2 (I.up l S) h
     |false=>exact dL (W.here h S (.bool _))
set_option backward.match.sparseCases true in
theorem YI(H:BO B n)(c:C.Ok)(pos:Pos)(es:List E):∀{xs:List Expr} {σ:AA} {y:Pt},Aj (mE B.N m C.sc) es xs=true→In C y ρ σ→W C y Q (FH (fun e σ=>ev B.call B.G n e ρ σ) es σ)→dH (model B.P.prog B.P.w) C.A (boolOp pos .Or (evalEach xs C.env)) Q C.Er y.s:=by
 induction es with
 |nil=>intro xs σ y _ _ h;exact aY h
 |cons e es ih=>
  intro xs σ y hm I h;cases xs with
  |nil=>exact xbf hm
  |cons x xs=>
   cases es with
   |nil=>
    cases xs with
    |nil=>exact H c (AC hm).1 I ((WR.bnd h).imp (.refl y) fun d σ h=>WR.bool h)
    |cons=>cases (AC hm).2
   |cons e' es=>
    cases xs with
    |nil=>cases (AC hm).2
    |cons x' xs=>
     show dH _ _ (do
      let v ←eval x C.env
      standAt pos
      let t ←holding [v] (truthy v)
      match BoolOp.Or,t with
      | .And,false| .Or,true=>pure v
      |_,_=>boolOp pos .Or (evalEach (x'::xs) C.env)) _ _ _
     refine dI (H c (AC hm).1 I (W.bool (b:=FH (fun e σ=>ev B.call B.G n e ρ σ) (e'::es)) (a:=Ab (.bool true)) ((WR.bnd h).imp (.refl y) (K':=fun d σ=>WR C y (Vk C y Q) (Mine.boolK (Ab (.bool true)) (FH (fun e σ=>ev B.call B.G n e ρ σ) (e'::es)) d σ)) (by intro d σ h;cases d with|bool b=>cases b<;>exact h|_=>exact h) |> WR.bnd') fun t σ1 z l S h=>dI (dZ (dI (dW (dr ?_))))))
     cases t with
     |false=>exact ih (AC hm).2 (I.up l S) h
     |true=>exact dL (W.here h S (.bool _))
set_option backward.match.sparseCases true in
theorem V6(T:EJ B n)(c:C.Ok){Q:Bool→dG→Prop}(es:List E):∀{xs:List Expr} {σ:AA} {y:Pt},Aj (mE B.N m C.sc) es xs=true→In C y ρ σ→WB C y Q (DR (fun e σ=>ev B.call B.G n e ρ σ) es σ)→dH (model B.P.prog B.P.w) C.A (allTrue .And xs C.env) Q C.Er y.s:=by
 induction es with
 |nil=>intro xs σ y _ _ h;exact aY h
 |cons e es ih=>
  intro xs σ y hm I h;cases xs with
  |nil=>exact xbf hm
  |cons x xs=>
   show dH _ _ (do
    let t ←isTrue x C.env (eval x C.env)
    match BoolOp.And,t with
    | .And,false=>pure false
    | .Or,true=>pure true
    |_,_=>allTrue .And xs C.env) _ _ _
   cases es with
   |nil=>
    cases xs with
    |nil=>exact dI (T c (AC hm).1 I ((WR.bnd h).imp (.refl y) fun d σ h=>let ⟨b,e,k⟩:=WR.bool h;⟨b,e,fun z l S=>by cases b<;>exact dL (k z l S)⟩))
    |cons=>cases (AC hm).2
   |cons e' es=>
    refine dI (T c (AC hm).1 I (WB.test (a:=DR (fun e σ=>ev B.call B.G n e ρ σ) (e'::es)) (b:=Ab (.bool false)) h fun t σ1 z l S h=> ?_));cases t with
    |true=>exact ih (AC hm).2 (I.up l S) h
    |false=>exact dL (WB.here h S)
set_option backward.match.sparseCases true in
theorem YJ(T:EJ B n)(c:C.Ok){Q:Bool→dG→Prop}(es:List E):∀{xs:List Expr} {σ:AA} {y:Pt},Aj (mE B.N m C.sc) es xs=true→In C y ρ σ→WB C y Q (FH (fun e σ=>ev B.call B.G n e ρ σ) es σ)→dH (model B.P.prog B.P.w) C.A (allTrue .Or xs C.env) Q C.Er y.s:=by
 induction es with
 |nil=>intro xs σ y _ _ h;exact aY h
 |cons e es ih=>
  intro xs σ y hm I h;cases xs with
  |nil=>exact xbf hm
  |cons x xs=>
   show dH _ _ (do
    let t ←isTrue x C.env (eval x C.env)
    match BoolOp.Or,t with
    | .And,false=>pure false
    | .Or,true=>pure true
    |_,_=>allTrue .Or xs C.env) _ _ _
   cases es with
   |nil=>
    cases xs with
    |nil=>exact dI (T c (AC hm).1 I ((WR.bnd h).imp (.refl y) fun d σ h=>let ⟨b,e,k⟩:=WR.bool h;⟨b,e,fun z l S=>by cases b<;>exact dL (k z l S)⟩))
    |cons=>cases (AC hm).2
   |cons e' es=>
    refine dI (T c (AC hm).1 I (WB.test (b:=FH (fun e σ=>ev B.call B.G n e ρ σ) (e'::es)) (a:=Ab (.bool true)) ((WR.bnd h).imp (.refl y) (K':=fun d σ=>WR C y (Bk C y Q) (Mine.boolK (Ab (.bool true)) (FH (fun e σ=>ev B.call B.G n e ρ σ) (e'::es)) d σ)) (by intro d σ h;cases d with|bool b=>cases b<;>exact h|_=>exact h) |> WR.bnd') fun t σ1 z l S h=> ?_))
    cases t with
    |false=>exact ih (AC hm).2 (I.up l S) h
    |true=>exact dL (WB.here h S)
theorem WR.cmp1{K:D→AA→Prop}{o:Option Bool}(h:WR C y K (match o with|some r=>Ab (.bool r) σ|none=>none)):∃b,o=some b∧WR C y K (Ab (.bool b) σ):=by
 match o,h with
 |some a,h=>exact ⟨a,rfl,h⟩
theorem WR.cmp2{K:D→AA→Prop}{o:Option Bool}{a b:R}(h:WR C y K (match o with|some true=>a|some false=>b|none=>none)):∃t,o=some t∧WR C y K (bif t then a else b):=by
 match o,h with
 |some true,h=>exact ⟨true,rfl,h⟩
 |some false,h=>exact ⟨false,rfl,h⟩
theorem Hx(H:BO B n)(c:C.Ok){pos:Pos}(ops:List Cmp):∀{os:List CmpOp} {es:List E} {xs:List Expr} {a:D} {va:dF} {σ:AA} {y:Pt},TV ops os=true→Aj (mE B.N m C.sc) es xs=true→ops.length=es.length→In C y ρ σ→AH B.P y.μ y.s.heap va a→
  (∀Q,W C y Q (HV (fun e σ=>ev B.call B.G n e ρ σ) a ops es σ)→dH (model B.P.prog B.P.w) C.A (compareChain pos va os (evalEach xs C.env)) Q C.Er y.s)∧(∀Q,WB C y Q (HV (fun e σ=>ev B.call B.G n e ρ σ) a ops es σ)→dH (model B.P.prog B.P.w) C.A (testChain pos va os (evalEach xs C.env)) Q C.Er y.s):=by
 haveI hu:C.A.units+64<cLine:=by haveI:=c.hc.units;lia
 induction ops with
 |nil=>intro os es xs a va σ y _ _ _ _ _;exact ⟨fun _ h=>aY h,fun _ h=>aY h⟩
 |cons op ops ih=>
  intro os es xs a va σ y ho hm hl I hva;cases os with
  |nil=>exact xbf ho
  |cons o os=>
  rw[Vr (AC ho).1];cases es with
  |nil=>contradiction
  |cons e es=>
  cases xs with
  |nil=>exact xbf hm
  |cons x xs=>
  cases ops with
  |nil=>
   cases es with
   |cons=>cases hl
   |nil=>
   cases os with
   |cons=>cases (AC ho).2
   |nil=>
   cases xs with
   |cons=>cases (AC hm).2
   |nil=>
   exact ⟨fun Q h=>dI (dW (H c (AC hm).1 I (W.bnd h fun d σ1 v z l S V h=>aW (WR.cmp1 h) fun b e=>dI (dZ (wpAny_operate' (KA e.1 S hu (hva.up l) V fun tk=>W.here' e.2 S tk (.bool b))))))),
    fun Q h=>dI (dW (H c (AC hm).1 I (WB.bnd h fun d σ1 v z l S V h=>aW (WR.cmp1 h) fun b e=>dI (dZ (dI (wpAny_operate' (KA e.1 S hu (hva.up l) V fun tk=>dW (dr (WB.here' e.2 S tk)))))))))⟩
  |cons op' ops=>
   cases es with
   |nil=>cases hl
   |cons e' es=>
   cases os with
   |nil=>cases (AC ho).2
   |cons o' os=>
   cases xs with
   |nil=>cases (AC hm).2
   |cons x' xs=>
   refine ⟨fun Q h=>dI (dW (H c (AC hm).1 I (W.bnd h fun d σ1 v z l S V h=>aW (WR.cmp2 h) fun b e=>dI (dZ (dI (dW (KA e.1 S hu (hva.up l) V fun tk=>dI (wpAny_release' (dI (dW (dr ?_))))))))))),
    fun Q h=>dI (dW (H c (AC hm).1 I (WB.bnd h fun d σ1 v z l S V h=>aW (WR.cmp2 h) fun b e=>dI (dZ (dI (dW (KA e.1 S hu (hva.up l) V fun tk=>dI (wpAny_release' (dI (dW (dr ?_)))))))))))⟩
   ·haveI I2:=(I.up l S).up (Sto.same (tk:=tk) S) S;cases b with
    |true=>exact (ih (AC ho).2 (AC hm).2 (Nat.succ.inj hl) I2 V).1 Q (W.up (Sto.same S) e.2)
    |false=>exact dL (W.here' e.2 S tk (.bool false))
   ·haveI I2:=(I.up l S).up (Sto.same (tk:=tk) S) S;cases b with
    |true=>exact (ih (AC ho).2 (AC hm).2 (Nat.succ.inj hl) I2 V).2 Q (WB.up (Sto.same S) e.2)
    |false=>exact dL (WB.here' e.2 S tk)
end
section
variable{B:Bs}{C:Cf B}{y z:Pt}{ρ:Loc}{σ σ':AA}{Q:dF→dG→Prop}{m n:Nat}{x:Expr}{o:R}
noncomputable def V9 (B:Bs) (n:Nat) (lo:Option E) (ρ:Loc) (σ:AA):R:=match lo with
 |some e=>ev B.call B.G n e ρ σ
 |none=>Ab .none σ
theorem RI(H:BO B n)(c:C.Ok){lo:Option E}{l:Option Expr}(hm:LJ (mE B.N m C.sc) lo l=true)(I:In C y ρ σ)(h:W C y Q (V9 B n lo ρ σ)):dH (model B.P.prog B.P.w) C.A (evalPart l C.env) Q C.Er y.s:=by
 cases lo with
 |none=>cases l with
  |none=>exact dL (W.here h I.sto .none)
  |some _=>exact xbf hm
 |some e=>cases l with
  |none=>exact xbf hm
  |some x=>exact H c hm I h
theorem Tr(H:BO B n)(c:C.Ok){a:E}{lo hi:Option E}(hm:mE B.N (m+1) C.sc (.slc a lo hi) x=true)(I:In C y ρ σ)(h:W C y Q (ev B.call B.G (n+1) (.slc a lo hi) ρ σ)):EvG C Q y x:=
 RB hm fun u l w q p ha hl hu=>Subscript_ (H c ha I (W.bnd h fun d σ1 v z l1 S V h=>wpAny_Slice (RI H c hl (I.up l1 S) (W.bnd (o:=V9 B n lo ρ σ1) h fun d2 σ2 v2 z2 l2 S2 V2 h=>RI H c hu ((I.up l1 S).up l2 S2) (W.bnd (o:=V9 B n hi ρ σ2) h fun d3 σ3 v3 z3 l3 S3 V3 h=>
  dL (W.post h fun _ _ e hq=>Vv e S3 (V.up (l2.trans l3)) (V2.up l3) V3 hq))))))
theorem RJ(K:B.Ok)(H:BO B n)(c:C.Ok){g:Nat}{as:List E}(hm:mE B.N (m+1) C.sc (.call g as) x=true)(I:In C y ρ σ)(h:W C y Q (ev B.call B.G (n+1) (.call g as) ρ σ)):EvG C Q y x:=
 KH hm fun i q xs p hg hgl ha=>aW (K.nm.fn g i hg) fun a k=>aW (K.K.fnObj g a k.2) fun o e=>aW e fun fd ho=>
  dh (I.glob K.K c hgl (.inl k.1) (callWith_function (o:=o) (fd:=fd) (CS H c ha I (WL.of h fun ds σ1 vs z _ l S V h=>
   ⟨⟨S.base _ _ ho.1,ho.2⟩,W.post h fun r σ' e hq=>K.call g ds σ1 r σ' e a k.2 z.μ _ C.A C.stk vs Q C.Er c.hc S (I.up l S).stk V hq⟩))))
theorem Ph(K:B.Ok)(H:BO B n)(c:C.Ok){i:Nat}{as:List E}(hm:mE B.N (m+1) C.sc (.callv i as) x=true)(I:In C y ρ σ)(h:W C y Q (ev B.call B.G (n+1) (.callv i as) ρ σ)):EvG C Q y x:=by
 replace h:W C y Q (match ρ[i]? with|some (some (.fn f))=>evLb (fun e σ=>ev B.call B.G n e ρ σ) as σ fun ds σ=>B.call f ds σ|_=>none):=h
 cases hd:ρ[i]? with
 |none=>simp only[hd]at h;exact aY h
 |some od=>cases od with
  |none=>simp only[hd]at h;exact aY h
  |some d=>cases d with
   |fn g=>
    simp only[hd]at h;exact RC hm fun w q xs p hi hv ha=>dh (LZ c.hs I.fr hi hv hd fun v V=>by
     apply V.fn_e;intro a hfn;exact aW (K.K.fnObj g a hfn) fun o e=>aW e fun fd ho=>callWith_function (o:=o) (fd:=fd) (CS H c ha I (WL.of h fun ds σ1 vs z _ l S V h=>
      ⟨⟨S.base _ _ ho.1,ho.2⟩,W.post h fun r σ' e hq=>K.call g ds σ1 r σ' e a hfn z.μ _ C.A C.stk vs Q C.Er c.hc S (I.up l S).stk V hq⟩)))
   |_=>simp only[hd]at h;exact aY h
theorem Ts(b:BI):(∃id,JM b=.builtin id)∨ ∃id,JM b=.type id:=by
 cases b<;>first|exact .inl ⟨_,rfl⟩|exact .inr ⟨_,rfl⟩
theorem WA(K:B.Ok)(H:BO B n)(c:C.Ok){b:BI}{as:List E}(hb:HZ b=true)(hm:mE B.N (m+1) C.sc (.bi b as) x=true)(I:In C y ρ σ)(h:W C y Q (ev B.call B.G (n+1) (.bi b as) ρ σ)):EvG C Q y x:=
 YH hb hm fun q xs p hgl ha=>dh (I.glob K.K c hgl (.inr (K.nm.bi b)) (by
  haveI fin:=fun f (hf:f=JM b)=>CS (pos:=p) (f:=f) (Q:=fun a s₁=>dH (model B.P.prog B.P.w) C.A (PySem.call f ([]++a.pos) a.kw) Q C.Er s₁) H c ha I (WL.of (f:=fun ds σ=>Dg σ b ds) h fun ds σ1 vs z _ l S V h=>W.post h fun _ _ e hq=>hf▸YF K.K c.hc.handled hb e S V hq)
  rcases Ts b with ⟨id,e⟩|⟨id,e⟩
  ·refine e▸ ?_;exact callWith_builtin (CY as ha).1 (fin _ e.symm)
  ·refine e▸ ?_;exact PySem.callWith_type (CY as ha).1 (fin _ e.symm)))
theorem Tt(me:ME):PlainAttrs (KG me)∧Slot (KG me) (meN me) (Qt me)∧typeOf (.builtin (Qt me))=pure (.type "method_descriptor"):=by
 cases me
 ·exact ⟨F.plainAttrs_str,F.slot_str_split,F.type_str_split⟩
 ·exact ⟨F.plainAttrs_str,F.slot_str_join,F.type_str_join⟩
 ·exact ⟨F.plainAttrs_str,F.slot_str_find,F.type_str_find⟩
 ·exact ⟨F.plainAttrs_str,F.slot_str_find,F.type_str_find⟩
 ·exact ⟨F.plainAttrs_str,F.slot_str_strip,F.type_str_strip⟩
 ·exact ⟨F.plainAttrs_str,F.slot_str_rstrip,F.type_str_rstrip⟩
 ·exact ⟨F.plainAttrs_str,F.slot_str_upper,F.type_str_upper⟩
 ·exact ⟨F.plainAttrs_str,F.slot_str_index,F.type_str_index⟩
 ·exact ⟨F.plainAttrs_list,F.slot_list_append,F.type_list_append⟩
 ·exact ⟨F.plainAttrs_list,F.slot_list_extend,F.type_list_extend⟩
 ·exact ⟨F.plainAttrs_list,F.slot_list_pop,F.type_list_pop⟩
 ·exact ⟨F.plainAttrs_dict,F.slot_dict_get,F.type_dict_get⟩
 ·exact ⟨F.plainAttrs_dict,F.slot_dict_update,F.type_dict_update⟩
def Pi (s:dG) (T:String) (v:dF):Prop:=s.TypeIs v T∧∀a,v=.ref a→∃ob,s.heap.get? a=some ob∧ob.dict=none
theorem OO{K:Type}[DecidableEq K]{P:PI}{knd:KeyKind P.prog P.w K}{s:dG}{a:Addr}{kvs:List (K×dF)}(hd:s.heap.DictOf knd a kvs):Pi s "dict" (.ref a):=
 ⟨hd.typeIs,fun _ e=>DictOf.at_ hd fun o ho _ hn _=>by (injection e with e;subst e);exact ⟨o,ho,hn⟩⟩
noncomputable def tyK:Nat→String
 |0=>"str"
 |1=>"list"
 |_=>"dict"
theorem WC(me:ME):KG me=tyK (mK me):=by cases me<;>rfl
theorem WD(me:ME)(d:D):LH σ me d=Nat.beq (mK me) (dK σ d):=rfl
theorem WF{me:ME}{d:D}{R:Prop}(h:LH σ me d=true)(k1:∀l,d=.str l→KG me="str"→R)(k2:∀i l,d=.loc i→σ[i]? =some (.lst l)→KG me="list"→R)
  (k3:∀i l,d=.loc i→σ[i]? =some (.dcti l)→KG me="dict"→R) (k4:∀i l,d=.loc i→σ[i]? =some (.dcts l)→KG me="dict"→R):R:=by
 simp only[WD]at h;haveI h:=bt h;haveI ht:=WC me;rw[h]at ht;have no:mK me=4→False:=by cases me<;>exact fun h=>by contradiction
 cases d with
 |str l=>exact k1 l rfl ht
 |loc i=>
  cases q:σ[i]? with
  |none=>simp only[dK,q]at h;exact (no h).elim
  |some c=>
   simp only[dK,q]at ht h;cases c with
   |lst l=>exact k2 i l rfl q ht
   |dcti l=>exact k3 i l rfl q ht
   |dcts l=>exact k4 i l rfl q ht
   |_=>exact (no h).elim
 |_=>exact (no h).elim
theorem Tu{me:ME}{d:D}{v:dF}(h:LH σ me d=true)(S:Sto B.P y.μ σ y.s.heap)(V:AH B.P y.μ y.s.heap v d):Pi y.s (KG me) v:=
 WF h (fun l e t=>by refine t▸ ?_;subst e;exact V.str_e (C:=Pi y.s "str") fun _ _=>⟨rfl,fun a e=>by contradiction⟩)
  (fun i l e hl t=>by refine t▸ ?_;subst e;exact V.loc_e (C:=Pi y.s "list") fun a ei=>AQ.lst_e (S.cell _ _ _ ei hl) fun vs n ho _ _=>⟨⟨_,ho,rfl⟩,fun a e=>by (injection e with e;subst e);exact ⟨_,ho,rfl⟩⟩)
  (fun i l e hl t=>by refine t▸ ?_;subst e;exact V.loc_e (C:=Pi y.s "dict") fun a ei=>AQ.dcti_e (S.cell _ _ _ ei hl) fun _ hd _ _ _=>OO hd)
  (fun i l e hl t=>by refine t▸ ?_;subst e;exact V.loc_e (C:=Pi y.s "dict") fun a ei=>AQ.dcts_e (S.cell _ _ _ ei hl) fun _ hd _ _ _=>OO hd)
theorem WR.guard{K:D→AA→Prop}{b:Bool}{a:R}(h:WR C y K (match b with|true=>a|false=>none)):b=true∧WR C y K a:=by
 cases b with
 |true=>exact ⟨rfl,h⟩
 |false=>exact aY h
theorem RK(K:B.Ok)(H:BO B n)(c:C.Ok){me:ME}{a:E}{as:List E}(hm:mE B.N (m+1) C.sc (.meth me a as) x=true)(I:In C y ρ σ)(h:W C y Q (ev B.call B.G (n+1) (.meth me a as) ρ σ)):EvG C Q y x:=
 OM hm fun w apos xs p hy hsu ha hline hlt=>wpAny_Call_method_late (DE hsu) (by rw[(CY as ha).2];exact decide_eq_true (p:=xs.length<30) (by lia)) hline rfl (H c hy I (W.bnd h fun d σ1 v z l S V h=>
  haveI g:=WR.guard h;haveI t:=Tu g.1 S V;haveI f:=Tt me
  ⟨KG me,Qt me,f.1,f.2.1,f.2.2,t.1,t.2,callWith_builtin (CY as ha).1 (CS H c ha (I.up l S) (WL.of (f:=fun ds σ=>BN σ me d ds) g.2 fun ds σ2 vs z2 _ l2 S2 V2 h=>W.post h fun _ _ e hq=>OJ K.K c.hc.handled e S2 (V.up l2) V2 hq))⟩))
theorem WR.two{K:D→AA→Prop}{ds:List D}{f:D→D→R}(h:WR C y K (match ds with| [k,w]=>f k w|_=>none)):∃k w,ds=[k,w]∧WR C y K (f k w):=by
 cases ds with
 |nil=>exact aY h
 |cons k ds=>cases ds with
  |nil=>exact aY h
  |cons w ds=>cases ds with
   |nil=>exact ⟨k,w,rfl,h⟩
   |cons=>exact aY h
theorem Tv(K:B.Ok)(H:BO B n)(c:C.Ok){as:List E}(hm:mE B.N (m+1) C.sc (.new as) x=true)(I:In C y ρ σ)(h:W C y Q (ev B.call B.G (n+1) (.new as) ρ σ)):EvG C Q y x:=
 Vw hm fun q xs p hgl ha=>dh (I.glob K.K c hgl (.inl K.new.name) (K.new.withC p _ C.A C.stk _ _ _ c.hc (CY as ha).1 (CS H c ha I (WL.of (f:=fun ds σ=>match ds with
   | [k,w]=>some (.ok (.obj σ.length),σ++[.ins [k,w,.loc (σ.length+1),.loc (σ.length+2),.loc (σ.length+3)],.lst [],.lst [],.lst []])
   |_=>none) h fun ds σ1 vs z _ l S V h=>⟨fun b o e=>S.base b o e,by
  obtain ⟨k,w,e,h⟩:=WR.two (C:=C) (f:=fun k w=>some (.ok (.obj σ1.length),σ1++[.ins [k,w,.loc (σ1.length+1),.loc (σ1.length+2),.loc (σ1.length+3)],.lst [],.lst [],.lst []])) h;subst e;apply V.e2;intro v1 v2 V1 V2;exact W.post h fun _ _ e hq=>by (injection e with e;injection e with h91 h92;subst h91;subst h92);exact K.new.made _ _ _ C.A C.stk _ _ _ _ _ _ c.hc S (I.up l S).stk V1 V2 hq⟩))))
theorem La{env:PySem.Env}(os:List CmpOp):∀(rs:List Expr),rs.all FI=true→lastMarks os rs=false:=by
 induction os with
 |nil=>intro rs _;cases rs<;>rfl
 |cons o os ih=>intro rs hr;cases rs with
  |nil=>cases os<;>rfl
  |cons y rs=>
   simp only[bQ,aw]at hr;have hb1:behindInMarks o y=false:=by
    cases y<;>first|rfl|(cases hr.1)
   cases os with
   |nil=>cases rs with
    |nil=>exact hb1
    |cons _ _=>exact ih _ hr.2
   |cons _ _=>exact ih _ hr.2
theorem Tw(H:BO B n)(c:C.Ok){a:E}{ops:List Cmp}{bs:List E}(hm:mE B.N (m+1) C.sc (.cmp a ops bs) x=true)(I:In C y ρ σ)(h:W C y Q (ev B.call B.G (n+1) (.cmp a ops bs) ρ σ)):EvG C Q y x:=
 Q4 hm fun l os rs p ho ha hb hns hl=>by
  unfold EvG;simp only[arm_eval_Compare,markedEach_of_false os rs _ (La (env:=C.env) os rs hns)];exact dI (H c ha I (W.bnd h fun d σ1 v z l S V h=>(Hx H c ops ho hb hl (I.up l S) V).1 Q h))
theorem Ty(H:BO B n)(c:C.Ok){a:E}{ops:List Cmp}{bs:List E}{Q:Bool→dG→Prop}(hm:mE B.N (m+1) C.sc (.cmp a ops bs) x=true)(I:In C y ρ σ)(h:WB C y Q (ev B.call B.G (n+1) (.cmp a ops bs) ρ σ)):TrG C Q y x:=
 Q4 hm fun l os rs p ho ha hb hns hl=>by
  unfold TrG;simp only[arm_isTrue_Compare,markedEach_of_false os rs _ (La (env:=C.env) os rs hns)];exact dI (H c ha I (WB.bnd h fun d σ1 v z l S V h=>(Hx H c ops ho hb hl (I.up l S) V).2 Q h))
end
section
variable{B:Bs}{C:Cf B}{y z:Pt}{ρ:Loc}{σ σ':AA}{Q:dF→dG→Prop}{m n:Nat}{x:Expr}{o:R}{P:PI}{μ ν:List Addr}{s:dG}
theorem Sto.newCell(S:Sto P μ σ s.heap){o:Obj}{c:AI}(hc:Ext μ [s.heap.objs.size] s.heap (s.heap.push o)→AQ P (μ++[s.heap.objs.size]) (s.heap.push o) s.heap.objs.size c):
  Sto P (μ++[s.heap.objs.size]) (σ++[c]) (s.heap.push o)∧Ext μ [s.heap.objs.size] s.heap (s.heap.push o):=by
 haveI hne:s.heap.objs.size≠dY:=aW S.sys fun o ho=>cC (Heap.lt_size (S.base _ _ ho));haveI kp:=AN.push s.heap o;haveI x0:Ext μ [s.heap.objs.size] s.heap (s.heap.push o):=kp.ext fun b q=>by rw[bA.mp q];exact AR _
 exact S.alloc kp (AR _) hne (hc x0)
inductive KV (P:PI) (μ:List Addr) (h:Heap):List (dF×dF)→List (D×D)→Prop
 |nil:KV P μ h [] []
 |cons {a b x y vs ds}:AH P μ h a x→AH P μ h b y→KV P μ h vs ds→KV P μ h ((a,b)::vs) ((x,y)::ds)
def rKV (B:Bs) (z:Pt) (vs:List (dF×dF)) (ds:List (D×D)):Prop:=KV B.P z.μ z.s.heap vs ds
theorem WP.cons{Q:List (dF×dF)→dG→Prop}{Q1:dF→dG→Prop}{ev:E→AA→R}{a b:E}{es:List (E×E)}(h:WE C y (rKV B) Q (A0 ev ((a,b)::es) σ))
  (k:∀σ1 v z,y.le z→Sto B.P z.μ σ1 z.s.heap→(∀Q2:dF→dG→Prop,(∀σ2 v2 w,z.le w→Sto B.P w.μ σ2 w.s.heap→WE C w (rKV B) (fun vs=>Q ((v,v2)::vs)) (A0 ev es σ2)→Q2 v2 w.s)→W C z Q2 (ev b σ1))→Q1 v z.s):W C y Q1 (ev a σ):=by
 unfold A0 at h;generalize ev a σ=o at h ⊢;revert h;refine R_e o (fun h=>aY h) (fun d σ1 h v z x S V=>k σ1 v z x S fun Q2 k2=> ?_) fun c σ' h=>h;dsimp only at h;generalize ev b σ1=o at h ⊢;revert h;refine R_e o (fun h=>aY h) (fun d2 σ2 h v2 w x2 S2 V2=>k2 σ2 v2 w x2 S2 ?_) fun c σ' h=>Xk.up x h;dsimp only at h;generalize A0 ev es σ2=o at h ⊢;revert h;exact J7 o (fun h=>aY h) (fun ds σ' h vs u l S V3=>h _ u ((x.trans x2).trans l) S (.cons (V.up (x2.trans l)) (V2.up l) V3)) fun c σ' h=>Xk.up (x.trans x2) h
theorem WP.of{Q1:List (dF×dF)→dG→Prop}{ev:E→AA→R}{es:List (E×E)}{f:List (D×D)→AA→R}(h:W C y Q (match A0 ev es σ with
   |none=>none
   |some (.error c,σ)=>some (.ex c,σ)
   |some (.ok ds,σ')=>f ds σ')) (k:∀ds σ1 vs z,A0 ev es σ=some (.ok ds,σ1)→y.le z→Sto B.P z.μ σ1 z.s.heap→KV B.P z.μ z.s.heap vs ds→W C z Q (f ds σ1)→Q1 vs z.s):WE C y (rKV B) Q1 (A0 ev es σ):=by
 generalize A0 ev es σ=o at h k ⊢;revert h k;exact J7 o (fun h=>aY h) (fun ds σ' h k vs z x S V=>k ds σ' vs z rfl x S V (W.up x h)) fun c σ' h _=>h
theorem Lb{f:E→Expr→Bool}(kvs:List (E×E)):∀{ks:List (Option Expr)} {vs:List Expr},Di f kvs ks vs=true→ks.all (·.isSome)=true∧ks.length=vs.length∧ks.length=kvs.length:=by
 induction kvs with
 |nil=>intro ks vs h;cases ks<;>cases vs<;>first|exact ⟨rfl,rfl,rfl⟩|exact xbf h
 |cons p kvs ih=>
  intro ks vs h;cases ks with
  |nil=>exact xbf h
  |cons k ks=>cases k with
   |none=>exact xbf h
   |some a=>cases vs with
    |nil=>exact xbf h
    |cons b vs=>
     haveI:=ih (AC h).2;exact ⟨this.1,congrArg (· +1) this.2.1,congrArg (· +1) this.2.2⟩
theorem RM(H:BO B n)(c:C.Ok){pos:Pos}(es:List (E×E)):∀{ks:List (Option Expr)} {xs:List Expr} {σ:AA} {y:Pt} {Q:List (dF×dF)→dG→Prop},Di (mE B.N m C.sc) es ks xs=true→In C y ρ σ→WE C y (rKV B) Q (A0 (fun e σ=>ev B.call B.G n e ρ σ) es σ)→
  dH (model B.P.prog B.P.w) C.A (evalPairs (pairTrees ks xs C.env pos)) Q C.Er y.s:=by
 induction es with
 |nil=>
  intro ks xs σ y Q hm I h;cases ks with
  |nil=>cases xs with
   |nil=>exact evalPairs_nil (h [] y (.refl y) I.sto .nil)
   |cons=>exact xbf hm
  |cons=>exact xbf hm
 |cons e es ih=>
  intro ks xs σ y Q hm I h;cases ks with
  |nil=>exact xbf hm
  |cons k ks=>cases k with
   |none=>exact xbf hm
   |some a=>cases xs with
    |nil=>exact xbf hm
    |cons b xs=>
     exact evalPairs_cons (H c (AC (AC hm).1).1 I (WP.cons h fun σ1 v z l S k=>dI (H c (AC (AC hm).1).2 (I.up l S) (k _ fun σ2 v2 w l2 S2 h=>dI (dZ (dL (ih (AC hm).2 ((I.up l S).up l2 S2) h)))))))
theorem RN{h:Heap}{vs:List (dF×dF)}{ds:List (D×D)}(H:KV P μ h vs ds):∀{l:List (Int×D)},Fa ds=some l→∃kvs,Carries (intKind P.prog P.w) vs kvs∧kvs.map (·.1)=l.map (·.1)∧AE P μ h (kvs.map (·.2)) (l.map (·.2))∧l.length=ds.length:=by
 induction H with
 |nil=>intro l e;(injection e with e;subst e);exact ⟨[],trivial,rfl,.nil,rfl⟩
 | @cons a b x y vs ds va vb _ ih=>
  intro l e;cases x with
  |int k=>
   refine aW (bG.mp (show (Fa ds).map ((k,y):: ·)=some l from e)) fun l' e=>aW (ih e.1) fun kvs q=> ?_
   rw[←e.2];apply va.int_e;intro t;exact ⟨(k,_)::kvs,⟨Cw k t,rfl,q.1⟩,congrArg (k:: ·) q.2.1,.cons vb q.2.2.1,congrArg (· +1) q.2.2.2⟩
  |_=>exact xns e
theorem RO{h:Heap}{vs:List (dF×dF)}{ds:List (D×D)}(H:KV P μ h vs ds):∀{l:List (List Nat×D)},Gu ds=some l→∃kvs,Carries (PySem.strKind P.prog P.w) vs kvs∧kvs.map (·.1)=l.map (fun p=>txt p.1)∧AE P μ h (kvs.map (·.2)) (l.map (·.2))∧l.length=ds.length:=by
 induction H with
 |nil=>intro l e;(injection e with e;subst e);exact ⟨[],trivial,rfl,.nil,rfl⟩
 | @cons a b x y vs ds va vb _ ih=>
  intro l e;cases x with
  |str k=>
   refine aW (bG.mp (show (Gu ds).map ((k,y):: ·)=some l from e)) fun l' e=>aW (ih e.1) fun kvs q=> ?_
   rw[←e.2];apply va.str_e;intro t ok;exact ⟨(txt k,_)::kvs,⟨DD _ t,rfl,q.1⟩,congrArg (txt k:: ·) q.2.1,.cons vb q.2.2.1,congrArg (· +1) q.2.2.2⟩
  |_=>exact xns e
theorem Lc{ev:E→AA→R}(es:List (E×E)):∀{σ:AA} {ds:List (D×D)} {σ':AA},A0 ev es σ=some (.ok ds,σ')→ds.length=es.length:=by
 induction es with
 |nil=>intro σ ds σ' h;(injection h with h;injection h with h91 h92;injection h91 with h91;subst h91;subst h92);rfl
 |cons e es ih=>
  intro σ ds σ' h;unfold A0 at h;generalize ev e.1 σ=o at h;revert h;refine R_e o (fun h=>xns h) (fun d σ1 h=> ?_) fun c σ' h=>by injection h with h;injection h with h _;contradiction
  dsimp only at h;generalize ev e.2 σ1=o at h;revert h;refine R_e o (fun h=>xns h) (fun d2 σ2 h=> ?_) fun c σ' h=>by injection h with h;injection h with h _;contradiction
  dsimp only at h;generalize q:A0 ev es σ2=o at h;revert h q;exact J7 o (fun _ h=>xns h) (fun ds' σ3 q h=>by injection h with h;injection h with h91 h92;injection h91 with h91;exact h91▸congrArg (· +1) (ih q)) fun _ _ _ h=>by injection h with h;injection h with h _;contradiction
theorem Tz{i:Nat}{ds:List (D×D)}{K:D→AA→Prop}(h:WR C y K (match Fa ds,σ[i]? with
     |some l,some (.dcti [])=>some (.ok (.loc i),AW σ i (.dcti (l.foldl (fun m p=>Ay m p.1 p.2) [])))
     |_,_=>none)):∃l,Fa ds=some l∧σ[i]? =some (.dcti [])∧K (.loc i) (AW σ i (.dcti (l.foldl (fun m p=>Ay m p.1 p.2) []))):=by
 revert h;generalize Fa ds=o;generalize hc:σ[i]? =c;intro h;cases o with
 |none=>exact aY h
 |some l=>cases c with
  |none=>exact aY h
  |some c=>cases c with
   |dcti m=>cases m with
    |nil=>exact ⟨l,rfl,rfl,h⟩
    |cons=>exact aY h
   |_=>exact aY h
theorem T3{i:Nat}{ds:List (D×D)}{K:D→AA→Prop}(h:WR C y K (match Gu ds,σ[i]? with
     |some l,some (.dcts [])=>some (.ok (.loc i),AW σ i (.dcts (l.foldl (fun m p=>D7 m p.1 p.2) [])))
     |_,_=>none)):∃l,Gu ds=some l∧σ[i]? =some (.dcts [])∧K (.loc i) (AW σ i (.dcts (l.foldl (fun m p=>D7 m p.1 p.2) []))):=by
 revert h;generalize Gu ds=o;generalize hc:σ[i]? =c;intro h;cases o with
 |none=>exact aY h
 |some l=>cases c with
  |none=>exact aY h
  |some c=>cases c with
   |dcts m=>cases m with
    |nil=>exact ⟨l,rfl,rfl,h⟩
    |cons=>exact aY h
   |_=>exact aY h
theorem AE.imp{μ':List Addr}{h h':Heap}(up:∀{v d},AH P μ h v d→AH P μ' h' v d){vs:List dF}{ds:List D}(H:AE P μ h vs ds):AE P μ' h' vs ds:=by
 induction vs generalizing ds with
 |nil=>cases ds with
  |nil=>exact .nil
  |cons=>refine aW H.cons_inv fun _ __q=> ?_;refine aW __q fun _ __q=> ?_;have e:=__q.1;cases e
 |cons v vs ih=>cases ds with
  |nil=>cases H.nil_inv
  |cons=>exact H.elim (fun ws=>(∀{ds:List D},AE P μ h ws.tail ds→AE P μ' h' ws.tail ds)→AE P μ' h' ws _) (fun _ _ a b ih=>.cons (up a) (ih b)) ih
theorem JV{K:Type}[DecidableEq K](knd:KeyKind B.P.prog B.P.w K)(H:BO B n)(c:C.Ok){kvs:List (E×E)}{ks:List (Option Expr)}{vs:List Expr}{p:Pos}{c0 c1:List (D×D)→AI}{f:List (D×D)→AA→R}(hp:Di (mE B.N m C.sc) kvs ks vs=true)(hl:kvs.length<16)(I:In C y ρ σ)
  (h0:∀{μ:List Addr} {h:Heap} {a:Addr},h.DictOf knd a []→AQ B.P μ h a (c0 [])) (h0':∀{μ:List Addr} {h:Heap} {a:Addr},AQ B.P μ h a (c0 [])→h.DictOf knd a []) (hk:(c0 []).kd=.type "dict")
  (h:W C y Q (match A0 (fun e σ=>ev B.call B.G n e ρ σ) kvs (σ++[c0 []]) with
   |none=>none
   |some (.error c,σ)=>some (.ex c,σ)
   |some (.ok ds,σ')=>f ds σ'))
  (fin:∀ds σ1 vs' z,ds.length<16→KV B.P z.μ z.s.heap vs' ds→W C z Q (f ds σ1)→∃kvs',Carries knd vs' kvs'∧σ1[σ.length]? =some (c0 [])∧(c1 ds).kd=.type "dict"∧Vk C z Q (.loc σ.length) (AW σ1 σ.length (c1 ds))∧∀{μ h a},h.DictOf knd a (merged [] kvs')→(∀{v d},AH B.P z.μ z.s.heap v d→AH B.P μ h v d)→AQ B.P μ h a (c1 ds)):EvG C Q y (.Dict ks vs p):=by
 haveI sh:=Lb kvs hp;have nc:=I.sto.newCell (o:={cls:=.type "dict",data:=.dict #[]}) (c:=c0 []) fun _=>h0 (Heap.DictOf.new _);haveI l1:y.le (y.at [y.s.heap.objs.size] (y.s.heap.push {cls:=.type "dict",data:=.dict #[]}) y.s.toks):=.of nc.2 _;haveI I1:=I.up l1 nc.1;have e1:∀z,(y.at [y.s.heap.objs.size] (y.s.heap.push {cls:=.type "dict",data:=.dict #[]}) y.s.toks).le z→z.μ[σ.length]? =some y.s.heap.objs.size:=by
  rintro _ ⟨ν,_,_,rfl,_⟩
  show (y.μ++[_]++ν)[σ.length]? =_
  rw[←I.sto.len,aZ,bZ (bJ _),Nat.sub_self];rfl
 have go:∀ds σ1 vs' z,ds.length<16→(y.at [y.s.heap.objs.size] (y.s.heap.push {cls:=.type "dict",data:=.dict #[]}) y.s.toks).le z→Sto B.P z.μ σ1 z.s.heap→KV B.P z.μ z.s.heap vs' ds→W C z Q (f ds σ1)→
   ∃kvs',Carries knd vs' kvs'∧z.s.heap.DictOf knd y.s.heap.objs.size []∧∀h',h'.DictOf knd y.s.heap.objs.size (merged [] kvs')→Heap.SameBut y.s.heap.objs.size z.s.heap h'→∀tk,Q (.ref y.s.heap.objs.size) {z.s with heap:=h',toks:=tk}:=by
  intro ds σ1 vs' z hd l S V h;refine aW (fin ds σ1 vs' z hd V h) fun kvs' q=>⟨kvs',q.1,h0' (S.cell _ _ _ (e1 z l) q.2.1),fun h' hd hsb tk=> ?_⟩;have x2:Ext z.μ [] z.s.heap h':=DictOf.at_ hd fun o ho hc _ _=>Fi S (e1 z l) q.2.1 hsb ho (hc.trans hk.symm);haveI S2:=S.put (e1 z l) q.2.1 (hk.trans q.2.2.1.symm) hsb (q.2.2.2.2 hd fun V=>V.mono0 x2);exact q.2.2.2.1 _ ⟨z.μ,{z.s with heap:=h',toks:=tk}⟩ ⟨[],h',tk,by rw[af],x2⟩ S2.1 (.loc (e1 z l))
 cases kvs with
 |nil=>
  cases ks with
  |cons=>cases sh.2.2
  |nil=>cases vs with
   |cons=>cases sh.2.1
   |nil=>
    exact aW (go [] (σ++[c0 []]) [] _ (Nat.zero_lt_succ _) (.refl _) nc.1 .nil (W.up l1 h)) fun kvs' q=>by
     haveI:kvs'=[]:=ch.mp q.1.length;subst this;exact wpAny_Dict_empty (q.2.2 _ q.2.1 ⟨rfl,fun _ _=>rfl⟩ _)
 |cons kv kvs=>
  exact wpAny_Dict_walk (knd:=knd) sh.1 sh.2.1 (fun q=>by rw[q]at sh;cases sh.2.2) (by rw[sh.2.2];exact cH hl)
   (RM (y:=y.at [y.s.heap.objs.size] (y.s.heap.push {cls:=.type "dict",data:=.dict #[]}) y.s.toks) H c _ hp I1 (WP.of (W.up l1 h) fun ds σ1 vs z e l S V h=>aW (go ds σ1 vs z (by rw[Lc _ e];exact hl) l S V h) fun kvs' q=>⟨kvs',q.1,q.2.1,fun h' hd hs=>q.2.2 h' hd hs _⟩))
theorem T4(H:BO B n)(c:C.Ok){kvs:List (E×E)}(hm:mE B.N (m+1) C.sc (.dcti kvs) x=true)(I:In C y ρ σ)(h:W C y Q (ev B.call B.G (n+1) (.dcti kvs) ρ σ)):EvG C Q y x:=
 KI (f:=true) hm fun ks vs p hp hl=>JV (intKind B.P.prog B.P.w) (c0:=fun _=>.dcti []) (c1:=fun ds=>.dcti (((Fa ds).getD []).foldl (fun m p=>Ay m p.1 p.2) [])) H c hp hl I (fun h=>⟨[],h,rfl,bC _,.nil⟩)
  (fun h=>AQ.dcti_e h fun kv h e _ _=>by cases kv with
   |nil=>exact h
   |cons=>contradiction) rfl h fun ds σ1 vs' z hd V h=>by
  refine aW (Tz h) fun l q=>aW (RN V q.1) fun kvs' w=>⟨kvs',w.1,q.2.1,rfl,?_,fun {μ h a} hd up=> ?_⟩
  ·rw[q.1];exact q.2.2
  ·rw[q.1];haveI:=EH (P:=B.P) (μ:=z.μ) (h:=z.s.heap) (kvs:=[]) (l:=[]) rfl .nil List.nodup_nil w.2.1 w.2.2.1;haveI hlen:=JO l [];refine ⟨merged [] kvs',hd,this.1,?_,AE.imp up this.2⟩;simp only[w.2.2.2]at hlen;exact ag hlen (by simp only[bY];omega)
theorem T5(H:BO B n)(c:C.Ok){kvs:List (E×E)}(hm:mE B.N (m+1) C.sc (.dcts kvs) x=true)(I:In C y ρ σ)(h:W C y Q (ev B.call B.G (n+1) (.dcts kvs) ρ σ)):EvG C Q y x:=
 KI (f:=false) hm fun ks vs p hp hl=>JV (PySem.strKind B.P.prog B.P.w) (c0:=fun _=>.dcts []) (c1:=fun ds=>.dcts (((Gu ds).getD []).foldl (fun m p=>D7 m p.1 p.2) [])) H c hp hl I (fun h=>⟨[],h,rfl,bC _,.nil⟩)
  (fun h=>AQ.dcts_e h fun kv h e _ _=>by cases kv with
   |nil=>exact h
   |cons=>contradiction) rfl h fun ds σ1 vs' z hd V h=>by
  refine aW (T3 h) fun l q=>aW (RO V q.1) fun kvs' w=>⟨kvs',w.1,q.2.1,rfl,?_,fun {μ h a} hd up=> ?_⟩
  ·rw[q.1];exact q.2.2
  ·rw[q.1];haveI:=EI (P:=B.P) (μ:=z.μ) (h:=z.s.heap) (kvs:=[]) (l:=[]) rfl .nil List.nodup_nil w.2.1 w.2.2.1;haveI hlen:=GV l [];refine ⟨merged [] kvs',hd,this.1,?_,AE.imp up this.2⟩;simp only[w.2.2.2]at hlen;exact ag hlen (by simp only[bY];omega)
end
def Gz (B:Bs) (e:E):Prop:= ∀n,BO B n→EJ B n→∀{C:Cf B} {m:Nat} {x:Expr} {ρ:Loc} {σ:AA} {y:Pt} {Q:dF→dG→Prop},C.Ok→mE B.N (m+1) C.sc e x=true→In C y ρ σ→W C y Q (ev B.call B.G (n+1) e ρ σ)→EvG C Q y x
structure WG (B:Bs):Prop where
 comp:∀elt tgt tup en iter ifs,Gz B (.comp elt tgt tup en iter ifs)
 heard:∀q j e,Gz B (.heard q j e)
 dict:∀as,Gz B (.bi .dict as)
 items:∀as,Gz B (.bi .listItems as)
noncomputable def RP:E→Bool
 | .not _=>false
 | .and _=>false
 | .or _=>false
 | .ite _ _ _=>false
 | .cmp _ _ _=>false
 | .junk=>false
 |_=>true
noncomputable def BZ:Expr→Bool
 | .BoolOp .. =>false
 | .UnaryOp .Not _ _=>false
 | .IfExp .. =>false
 | .Compare .. =>false
 |_=>true
section
variable{B:Bs}{C:Cf B}{y z:Pt}{ρ:Loc}{σ σ':AA}{Q:dF→dG→Prop}{m n:Nat}{x:Expr}{N:Nm}{sc:dQ}
theorem Pj{env:PySem.Env}(h:BZ x=true)(whole:Sem dF):isTrue x env whole=(do let v ←whole;standAt x.pos;holding [v] (truthy v)):=by
 cases x with
 |UnaryOp op=>cases op<;>first|rfl|exact xbf h
 |BoolOp|IfExp|Compare=>exact xbf h
 |_=>rfl
theorem Pk{e:E}(he:RP e=true)(hm:mE N (m+1) sc e x=true):BZ x=true:=by
 cases e with
 |cst=>exact Ac hm fun v _=>aW v.2 fun _ e=>aW e fun _ e=>An (C:=fun x=>BZ x=true) e rfl
 |loc=>exact Qy (C:=fun x=>BZ x=true) hm fun _ _ _ _=>rfl
 |glob=>exact OK (C:=fun x=>BZ x=true) hm fun _ _=>rfl
 |fn=>exact VL (C:=fun x=>BZ x=true) hm fun _ _ _ _=>rfl
 |tup=>exact Qz (C:=fun x=>BZ x=true) hm fun _ _ _ _ _=>rfl
 |lst=>exact Q0 (C:=fun x=>BZ x=true) hm fun _ _ _ _=>rfl
 |dcti=>exact KI (f:=true) (C:=fun x=>BZ x=true) hm fun _ _ _ _ _=>rfl
 |dcts=>exact KI (f:=false) (C:=fun x=>BZ x=true) hm fun _ _ _ _ _=>rfl
 |bin=>exact Q3 (C:=fun x=>BZ x=true) hm fun _ _ _ _ _=>rfl
 |idx=>exact Q9 (C:=fun x=>BZ x=true) hm fun _ _ _ _ _ _=>rfl
 |slc=>exact RB (C:=fun x=>BZ x=true) hm fun _ _ _ _ _ _ _ _=>rfl
 |comp=>exact Ac hm fun v _=>aW v.2 fun _ e=>An (C:=fun x=>BZ x=true) e rfl
 |neg=>exact Q7 (C:=fun x=>BZ x=true) hm fun _ _ _=>rfl
 |attr=>exact OL (C:=fun x=>BZ x=true) hm fun _ _ _ _=>rfl
 |meth=>exact OM (C:=fun x=>BZ x=true) hm fun _ _ _ _ _ _ _ _ _=>rfl
 |call|callv|new|heard=>exact Bz (C:=fun x=>BZ x=true) hm fun _ _ _ _ _=>rfl
 |bi b as=>cases b<;>exact Bz (C:=fun x=>BZ x=true) hm fun _ _ _ _ _=>rfl
 |not|and|or|ite|cmp|junk=>exact xbf he
theorem OP(K:B.Ok)(X:WG B)(H:BO B n)(T:EJ B n):BO B (n+1):=by
 intro C m e x ρ σ y Q c hm I h;cases m with
 |zero=>exact xbf hm
 |succ m=>
 cases e with
 |cst d=>exact Vx c hm I.sto h
 |loc i=>exact Qy hm fun w p h1 h2=>aW (W.loc h) fun d q=>LZ c.hs I.fr h1 h2 q.1 fun v V=>q.2.here I.sto V
 |glob g=>exact OK hm fun p h2=>aW (WR.opt (o:=B.G g) (f:=fun d=>Ab d σ) h) fun d q=>aW (K.nm.gl g d q.1) fun v k=>I.glob K.K c h2 (.inl k.1) (W.here q.2 I.sto (k.2 _ _ _ I.sto))
 |fn f=>exact VL hm fun w p h1 h2=>aW (K.nm.fn f w h1) fun a k=>I.glob K.K c h2 (.inl k.1) (W.here h I.sto (.fn k.2))
 |tup=>exact Vz H c hm I h
 |lst=>exact V0 H c hm I h
 |dcti=>exact T4 H c hm I h
 |dcts=>exact T5 H c hm I h
 |bin=>exact Tk H c hm I h
 |cmp=>exact Tw H c hm I h
 |and es=>exact Q5 hm fun xs p h1=>by unfold EvG;simp only[arm_eval_BoolOp];exact V5 H c p es h1 I h
 |or es=>exact VM hm fun xs p h1=>by unfold EvG;simp only[arm_eval_BoolOp];exact YI H c p es h1 I h
 |not=>exact Tn H c hm I h
 |neg=>exact Tm H c hm I h
 |ite=>exact Tp H T c hm I h
 |idx=>exact Tl H c hm I h
 |slc=>exact Tr H c hm I h
 |attr=>exact RH K.K H c hm I h
 |call=>exact RJ K H c hm I h
 |callv=>exact Ph K H c hm I h
 |bi b as=>
  by_cases hb:HZ b=true
  ·exact WA K H c hb hm I h
  ·cases b<;>first|(exact absurd rfl hb)|exact X.dict as n H T c hm I h|exact X.items as n H T c hm I h
 |meth=>exact RK K H c hm I h
 |new=>exact Tv K H c hm I h
 |comp elt tgt tup en iter ifs=>exact X.comp elt tgt tup en iter ifs n H T c hm I h
 |heard q j e=>exact X.heard q j e n H T c hm I h
 |junk=>exact aY h
theorem T6(H':BO B (n+1))(H:BO B n)(T:EJ B n):EJ B (n+1):=by
 intro C m e x ρ σ y Q c hm I h;cases m with
 |zero=>exact xbf hm
 |succ m=>
 by_cases hp:RP e=true
 ·unfold TrG;rw[Pj (Pk hp hm)];exact dI (H' c hm I (h.val fun b s' hb=>dI (dZ (dW (dr hb)))))
 ·cases e<;>first|exact absurd rfl hp|skip
  ·exact Ty H c hm I h
  ·exact Q5 hm fun xs p h1=>wpAny_isTrue_BoolOp (V6 T c _ h1 I h)
  ·exact VM hm fun xs p h1=>wpAny_isTrue_BoolOp (YJ T c _ h1 I h)
  ·exact To T c hm I h
  ·exact Tq T c hm I h
  ·exact aY h
theorem WH(K:B.Ok)(X:WG B)(n:Nat):BO B n∧EJ B n:=by
 induction n with
 |zero=>exact ⟨fun _ _ _ h=>aY h,fun _ _ _ h=>aY h⟩
 |succ n ih=>exact ⟨OP K X ih.1 ih.2,T6 (OP K X ih.1 ih.2) ih.1 ih.2⟩
end
def Vol (X:Addr) (h:Heap):Prop:= ∀o,h.get? X=some o→(∀xs n,o.data≠ .seq xs n)∧o.data≠ .plain
def Own (sc:dQ) (env:PySem.Env) (h0:Heap):Prop:=h0.get? env.locals=none∧∀x c,sc.names.lookup x=some .cell→env.cells.lookup x=some c→h0.get? c=none
section
variable{P:PI}{μ ν:List Addr}{h h' h0:Heap}{σ:AA}{X:Addr}{names:List Str}{env:PySem.Env}{ρ:Loc}{stk:List PySem.Env}
theorem Vol.mv(hX:Vol X h)(hs:Heap.SameBut X h h'):Mv μ h μ h':=
 ⟨fun a o e n q=>⟨(hs.2 a fun w=>by
  subst w
  rcases q with ⟨vs,k,q⟩|q
  ·exact (hX o e).1 _ _ q
  ·exact (hX o e).2 q).trans e,n⟩,fun _ _ e=>e⟩
theorem Sto.map(S:Sto P μ σ h)(mv:Mv μ h μ h')(cells:∀a∈μ,∀o,h.get? a=some o→h'.get? a=some o)(base:∀b o,P.hb.get? b=some o→h.get? b=some o→h'.get? b=some o):Sto P μ σ h':=
 ⟨S.sys,fun b o e=>base b o e (S.base b o e),S.fresh,S.nodup,S.len,S.pre,fun i a c hi hc=>AQ.map mv (cells a (bB hi)) (S.cell i a c hi hc)⟩
theorem Sto.but(S:Sto P μ σ h)(hX:Vol X h)(hs:Heap.SameBut X h h')(n:X∉μ)(hb:P.hb.get? X=none):Sto P μ σ h':=
 S.map (hX.mv hs) (fun a m _ e=>(hs.2 a fun q=>n (q▸m)).trans e) fun b _ q e=>(hs.2 b fun w=>by simp only[w,hb]at q;exact xns q).trans e
theorem Ext.but(x:Ext μ ν h0 h)(hs:Heap.SameBut X h h')(n:h0.get? X=none):Ext μ ν h0 h':=
 have key:∀a o,h0.get? a=some o→a≠X:=fun a o e q=>by simp only[q,n]at e;exact xns e
 ⟨fun a o e q=>aW (x.keep a o e q) fun sl z=>⟨sl,(hs.2 a (key a o e)).trans z.1,z.2⟩,fun a o e=>aW (x.live a o e) fun o' z=>⟨o',(hs.2 a (key a o e)).trans z.1,z.2⟩,x.new⟩
theorem Ns.at_{R:Prop}{m:Str→Option dF}(H:h.Ns X m)(k:∀o es ep,h.get? X=some o→o.data=.dict es ep→R):R:=by
 obtain ⟨o,es,ep,ho,hd,_⟩:=H;exact k o es ep ho hd
theorem Ns.vol{m:Str→Option dF}(H:h.Ns X m):Vol X h:=fun o' ho'=>Ns.at_ H fun o es ep ho hd=>by
 cases ho.symm.trans ho';refine hd▸ ?_;exact ⟨fun _ _ q=>(by contradiction),fun q=>(by contradiction)⟩
theorem IsCell.vol{v:Option dF}(H:h.IsCell X v):Vol X h:=fun o' ho'=>aW H fun o q=>by
 cases q.1.symm.trans ho';rw[q.2];exact ⟨fun _ _ q=>(by contradiction),fun q=>(by contradiction)⟩
theorem Ns.one{m m':Str→Option dF}(H:h.Ns X m)(H':h.Ns X m')(x:Str):m x=m' x:=by
 obtain ⟨o,es,ep,ho,hd,_,hf⟩:=H;obtain ⟨o',es',ep',ho',hd',_,hf'⟩:=H';cases ho.symm.trans ho';cases hd.symm.trans hd';exact (hf x).symm.trans (hf' x)
theorem Cy{c:Addr}{m:Str→Option dF}{v:Option dF}(H:h.Ns X m)(H':h.IsCell c v):c≠X:=fun e=>Ns.at_ H fun o es ep ho hd=>aW H' fun o' q=>by
 subst e;cases ho.symm.trans q.1;cases hd.symm.trans q.2
theorem B7.but(T:B7 P μ stk h)(hs:Heap.SameBut X h h')(hX:(∃m,h'.Ns X m)∨ ∃v,h.IsCell X v):B7 P μ stk h':=by
 have key:∀env∈stk,∀L,env.frame=some L→∃m,h'.Ns L m:=fun env he L hL=>aW (T.2 env he L hL).2 fun m hn=>by
  by_cases q:L=X
  ·subst q;exact hX.elim id fun w=>aW w fun v hv=>absurd rfl (Cy hn hv)
  ·exact ⟨m,hn.sameBut hs q⟩
 refine ⟨?_,fun env he L hL=>⟨(T.2 env he L hL).1,key env he L hL⟩⟩;haveI go:∀l:List PySem.Env,(∀env∈l,env∈stk)→h.FunFrames P.hb l→h'.FunFrames P.hb l:=by
  intro l
  induction l with
  |nil=>exact fun _ _=>trivial
  |cons env l ih=>
   exact fun hin H=>⟨H.1,aW H.2.1 fun L w=>aW w fun o w=>aW (key env (hin env (.head _)) L w.1) fun m k=>Ns.at_ k fun o' es ep ho' hd'=>⟨L,o',w.1,w.2.1,ho',fun vs q=>nomatch hd'.symm.trans q⟩,ih (fun e he=>hin e (.tail _ he)) H.2.2⟩
 exact go stk (fun _ he=>he) T.1
theorem JW{i j:Nat}{x:Str}(hn:names.Nodup)(hi:names[i]? =some x)(hj:names[j]? =some x):i=j:=by
 haveI h1:=(ap.mp hi).1;haveI e1:=(ap.mp hi).2
 haveI h2:=(ap.mp hj).1;haveI e2:=(ap.mp hj).2
 exact (List.getElem_inj hn).mp (e1.trans e2.symm)
theorem FR.turn(F:FR P μ names env ρ h)(mv:Mv μ h μ h'){i:Nat}{x:Str}{d:D}{v:dF}(hx:names[i]? =some x)(ns:∃m,h'.Ns env.locals m)(cells:∀c v,h.IsCell c v→∃w,h'.IsCell c w)(new:Holds env h' x v)(old:∀y w,y≠x→Holds env h y w→Holds env h' y w)(hv:AH P μ h v d):
  FR P μ names env (AW ρ i (some d)) h':=by
 refine ⟨F.kind,F.glob,F.bi,ns,F.off,fun y c e=>⟨(F.cells y c e).1,(F.cells y c e).2.1,aW (F.cells y c e).2.2 fun w q=>cells c w q⟩,F.closed,F.apart,F.nodup,F.code,fun j y d' e1 e2 e3=> ?_⟩;rw[Bx]at e2;by_cases q:j=i∧i<ρ.length
 ·rw[if_pos q]at e2;cases e2;rw[q.1]at e1;cases hx.symm.trans e1;exact ⟨v,hv.map mv,new⟩
 ·rw[if_neg q]at e2;exact aW (F.var j y d' e1 e2 e3) fun w k=>⟨w,k.1.map mv,old y w (fun e=>q (JW F.nodup e1 (e▸hx)▸⟨rfl,(ap.mp e2).1⟩)) k.2⟩
theorem FR.store_local(F:FR P μ names env ρ h){i:Nat}{x:Str}{d:D}{v:dF}{mm:Str→Option dF}(hx:names[i]? =some x)(hk:env.kindOf x=some .local)(hm:h.Ns env.locals mm)(hs:Heap.SameBut env.locals h h')
  (hn:h'.Ns env.locals (fun y=>if y=x then some v else mm y)) (hv:AH P μ h v d):FR P μ names env (AW ρ i (some d)) h':=
 F.turn ((Ns.vol hm).mv hs) hx ⟨_,hn⟩ (fun c w q=>⟨w,q.sameBut hs (Cy hm q)⟩) (.inl ⟨hk,_,hn,if_pos rfl⟩)
  (fun y w hyx k=>k.elim (fun k=>aW k.2 fun m2 q=>.inl ⟨k.1,_,hn,(if_neg hyx).trans ((Ns.one hm q.1 y).trans q.2)⟩) fun k=>aW k.2 fun c q=>.inr ⟨k.1,c,q.1,q.2.sameBut hs (Cy hm q.2)⟩) hv
theorem FR.store_cell(F:FR P μ names env ρ h){i:Nat}{x:Str}{d:D}{v:dF}{c:Addr}{v0:Option dF}(hx:names[i]? =some x)(hk:env.kindOf x=some .cell)(hc:env.cells.lookup x=some c)(hv0:h.IsCell c v0)(hs:Heap.SameBut c h h')
  (hn:h'.IsCell c (some v)) (hv:AH P μ h v d):FR P μ names env (AW ρ i (some d)) h':=
 F.turn ((IsCell.vol hv0).mv hs) hx (F.ns.imp fun m hm=>hm.sameBut hs (Cy hm hv0).symm) (fun c' w q=>by
  by_cases e:c'=c
  ·exact ⟨_,e▸hn⟩
  ·exact ⟨w,q.sameBut hs e⟩) (.inr ⟨.inl hk,c,hc,hn⟩)
  (fun y w hyx k=>k.elim (fun k=>aW k.2 fun m2 q=>.inl ⟨k.1,m2,q.1.sameBut hs (Cy q.1 hv0).symm,q.2⟩) fun k=>aW k.2 fun c2 q=>.inr ⟨k.1,c2,q.1,q.2.sameBut hs fun e=>hyx (F.apart y x c (e▸q.1) hc)⟩) hv
theorem Mz(hk:env.scope.kind=.function):(env.scope.kind== .class||(env.scope.kind== .module&&env.locals != env.globals))=false:=by
 rw[hk];rfl
end
noncomputable abbrev Pt.to (y:Pt) (h:Heap) (tk:Nat):Pt:=⟨y.μ,{y.s with heap:=h,toks:=tk}⟩
structure Fw (y z:Pt):Prop where
 more:∃κ,z.μ=y.μ++κ
 same:∃h tk,z.s={y.s with heap:=h,toks:=tk}
 priv:∀X o vs,y.s.heap.get? X=some o→o.data=.fields vs→X∉y.μ→z.s.heap.get? X=some o∧X∉z.μ
 live:∀X,z.s.heap.get? X=none→y.s.heap.get? X=none
theorem Fw.refl(y:Pt):Fw y y:=⟨⟨[],(af _).symm⟩,⟨_,_,rfl⟩,fun _ _ _ e _ n=>⟨e,n⟩,fun _ e=>e⟩
theorem Fw.trans{x y z:Pt}(a:Fw x y)(b:Fw y z):Fw x z:=
 ⟨aW a.more fun κ e=>aW b.more fun κ' e'=>⟨κ++κ',by rw[e',e,aZ]⟩,aW a.same fun h w=>aW w fun tk e=>aW b.same fun h' w=>aW w fun tk' e'=>⟨h',tk',by rw[e',e]⟩,
  fun X o vs e hd n=>b.priv X o vs (a.priv X o vs e hd n).1 hd (a.priv X o vs e hd n).2,fun X e=>a.live X (b.live X e)⟩
theorem Fw.le{y z:Pt}(x:y.le z):Fw y z:=by
 obtain ⟨ν,h,tk,rfl,e⟩:=x;exact ⟨⟨ν,rfl⟩,⟨h,tk,rfl⟩,fun X o vs q hd n=>⟨e.exact q n (by refine hd▸ ?_;exact fun _ _ q=>by contradiction),e.notin q n⟩,e.fresh⟩
theorem Fw.but{y:Pt}{X:Addr}{h:Heap}{tk:Nat}(hs:Heap.SameBut X y.s.heap h)(hX:∀o vs,y.s.heap.get? X=some o→o.data≠ .fields vs)(hl:∃o,h.get? X=some o):Fw y (y.to h tk):=
 ⟨⟨[],(af _).symm⟩,⟨h,tk,rfl⟩,fun Y o vs e hd n=>⟨(hs.2 Y fun q=>hX o vs (q▸e) hd).trans e,n⟩,fun Y e=>by
  by_cases q:Y=X
  ·refine aW hl fun o ho=> ?_;rw[q]at e;cases ho.symm.trans e
  ·exact (hs.2 Y q).symm.trans e⟩
theorem Fw.keeps{y:Pt}{h:Heap}(k:AN y.s.heap h)(tk:Nat):Fw y (y.to h tk):=Fw.le (Pt.le.keeps k tk)
section
variable{B:Bs}{C:Cf B}{y z:Pt}{ρ:Loc}{σ σ':AA}{m n:Nat}{M:dO}{Er:dF→dG→Prop}
theorem Pt.le.but{X:Addr}{h:Heap}{tk:Nat}{y0:Pt}(x:y0.le y)(hs:Heap.SameBut X y.s.heap h)(n:y0.s.heap.get? X=none):y0.le (y.to h tk):=by
 obtain ⟨ν,h1,tk1,rfl,e⟩:=x;exact ⟨ν,h,tk,rfl,e.but hs n⟩
theorem EL{Q:Unit→dG→Prop}(c:C.Ok)(I:In C y ρ σ)(O:Own C.sc C.env C.y0.s.heap){i:Nat}{x:Str}{d:D}{v:dF}(hx:B.N.names[i]? =some x)(hi:D1 C.sc x=true)(hv:AH B.P y.μ y.s.heap v d)
  (hq:∀h tk,In C (y.to h tk) (AW ρ i (some d)) σ→Mv y.μ y.s.heap y.μ h→Fw y (y.to h tk)→Q () (y.to h tk).s):dH M C.A (storeName C.env x v) Q Er y.s:=by
 haveI hkind:C.env.kindOf x=some .local∨(C.env.kindOf x=some .cell∧C.sc.names.lookup x=some .cell):=by
  unfold D1 at hi;refine (c.hs x).elim (fun e=> ?_) fun e=> ?_
  ·refine e.symm▸ ?_;revert hi;cases C.sc.names.lookup x with
   |none=>exact fun h=>xbf h
   |some k=>cases k<;>first|exact fun _=>.inl rfl|exact fun _=>.inr ⟨rfl,rfl⟩|exact fun h=>xbf h
  ·rw[e.1]at hi;exact xbf hi
 refine hkind.elim (fun hk=>aW I.fr.ns fun mm hm=>wpAny_storeName_local hk hm (fun h hn hsb=> ?_) (Mz I.fr.kind)) fun hk=>aW (I.fr.closed x (.inl hk.1)) fun cl hc=> ?_
 ·exact hq h _ ⟨I.since.but hsb O.1,I.sto.but (Ns.vol hm) hsb I.fr.off.1 I.fr.off.2,I.fr.store_local hx hk hm hsb hn hv,I.stk.but hsb (.inl ⟨_,hn⟩)⟩ ((Ns.vol hm).mv hsb)
   (Ns.at_ hm fun o es ep ho hd=>Ns.at_ hn fun o' _ _ ho' _=>Fw.but hsb (fun o2 vs e q=>by cases ho.symm.trans e;cases hd.symm.trans q) ⟨o',ho'⟩)
 ·obtain ⟨q,hb,v0,hv0⟩:=I.fr.cells x cl hc;exact wpAny_storeName_cell I.fr.kind hk.1 hc hv0 fun h hn hsb=>hq h y.s.toks ⟨I.since.but hsb (O.2 x cl hk.2 hc),I.sto.but (IsCell.vol hv0) hsb q hb,I.fr.store_cell hx hk.1 hc hv0 hsb hn hv,I.stk.but hsb (.inr ⟨_,hv0⟩)⟩ ((IsCell.vol hv0).mv hsb)
   (aW hv0 fun o w=>aW hn fun o' w'=>Fw.but hsb (fun o2 vs e q=>by cases w.1.symm.trans e;cases w.2.symm.trans q) ⟨o',w'.1⟩)
end
noncomputable def Ba (ρ:Loc) (ps:List (Nat×D)):Loc:=ps.foldl (fun ρ p=>AW ρ p.1 (some p.2)) ρ
theorem Pl{α:Type}(l:List α){i j:Nat}(h:i≠j)(a b:α):AW (AW l i a) j b=AW (AW l j b) i a:=by
 apply List.ext_getElem?;intro k;simp only[Bx,Ct];by_cases h1:k=j
 ·subst h1;by_cases h2:k=i
  ·exact absurd h2.symm h
  ·simp[h2]
 ·by_cases h2:k=i
  ·subst h2;simp[h]
  ·simp[h1,h2]
theorem M0(p:Nat×D)(ps:List (Nat×D)):∀(ρ:Loc),p.1∉ps.map (·.1)→Ba (AW ρ p.1 (some p.2)) ps=AW (Ba ρ ps) p.1 (some p.2):=by
 induction ps with
 |nil=>exact fun _ _=>rfl
 |cons q ps ih=>
  intro ρ h
  show Ba (AW (AW ρ p.1 (some p.2)) q.1 (some q.2)) ps=_
  rw[Pl _ (fun e=>h (by refine e▸ ?_;exact .head _)),ih _ fun e=>h (.tail _ e)]
  rfl
theorem M1(ps:List (Nat×D)):∀(ρ:Loc),(ps.map (·.1)).Nodup→Ba ρ ps.reverse=Ba ρ ps:=by
 induction ps with
 |nil=>exact fun _ _=>rfl
 |cons p ps ih=>
  intro ρ h;haveI h:=bp.mp h;rw[bw];haveI:Ba ρ (ps.reverse++[p])=AW (Ba ρ ps.reverse) p.1 (some p.2):=by
   unfold Ba;rw[List.foldl_append];rfl
  rw[this,ih ρ h.2,←M0 p ps ρ h.1];rfl
inductive Tg (names:List Str) (sc:dQ):List Nat→List Str→Prop
 |nil:Tg names sc [] []
 |cons {i x is xs}:names[i]? =some x→D1 sc x=true→Tg names sc is xs→Tg names sc (i::is) (x::xs)
section
variable{names:List Str}{sc:dQ}
theorem Tg.snoc{is:List Nat}{xs:List Str}{i:Nat}{x:Str}(H:Tg names sc is xs)(h1:names[i]? =some x)(h2:D1 sc x=true):Tg names sc (is++[i]) (xs++[x]):=by
 induction H with
 |nil=>exact .cons h1 h2 .nil
 |cons a b _ ih=>exact .cons a b ih
theorem Tg.rev{is:List Nat}{xs:List Str}(H:Tg names sc is xs):Tg names sc is.reverse xs.reverse:=by
 induction H with
 |nil=>exact .nil
 |cons a b _ ih=>simp only[bw,bw];exact ih.snoc a b
theorem Tg.len{is:List Nat}{xs:List Str}(H:Tg names sc is xs):is.length=xs.length:=by
 induction H with
 |nil=>rfl
 |cons a b _ ih=>exact congrArg (· +1) ih
end
def T7 (M:dO) (A:dJ) (env:PySem.Env) (t:dF→Sem Unit) (x:Str):Prop:= ∀(v:dF) (Q:Unit→dG→Prop) (E:dF→dG→Prop) (s:dG),dH M A (storeName env x v) Q E s→dH M A (t v) Q E s
inductive CZ (M:dO) (A:dJ) (env:PySem.Env):List (dF→Sem Unit)→List Str→Prop
 |nil:CZ M A env [] []
 |cons {t x ts xs}:T7 M A env t x→CZ M A env ts xs→CZ M A env (t::ts) (x::xs)
theorem CZ.bind(M:dO)(A:dJ)(env:PySem.Env)(xs:List Str):CZ M A env (xs.map fun x=>bindName env x) xs:=by
 induction xs with
 |nil=>exact .nil
 |cons x xs ih=>exact .cons (fun _ _ _ _ h=>wpAny_bindName h) ih
section
variable{B:Bs}{C:Cf B}{y z:Pt}{ρ:Loc}{σ σ':AA}{m n:Nat}{M:dO}{Er:dF→dG→Prop}
theorem Ld(c:C.Ok)(O:Own C.sc C.env C.y0.s.heap){xs:List Str}{is:List Nat}(TG:Tg B.N.names C.sc is xs):∀{ts:List (dF→Sem Unit)} {vs:List dF} {ds:List D} {ρ:Loc} {y:Pt} {Q:Unit→dG→Prop},CZ M C.A C.env ts xs→
  In C y ρ σ→is.length=ds.length→AE B.P y.μ y.s.heap vs ds→(∀h tk,In C (y.to h tk) (Ba ρ (is.zip ds)) σ→Fw y (y.to h tk)→Q () (y.to h tk).s)→dH M C.A (assignInOrder ts vs) Q Er y.s:=by
 induction TG with
 |nil=>
  intro ts vs ds ρ y Q TS I hl V hq;cases TS;cases ds with
  |cons _ _=>contradiction
  |nil=>apply V.nil_e;exact dL (hq y.s.heap y.s.toks I (.refl _))
 | @cons i x is xs hx ho _ ih=>
  intro ts vs ds ρ y Q TS I hl V hq;cases ds with
  |nil=>contradiction
  |cons d ds=>
   apply V.cons_e;intro v ws v0 V;cases TS with
   |cons t0 TS=>exact dI (dW (t0 _ _ _ _ (EL c I O hx ho v0 fun h tk I' mv st=>ih TS I' (Nat.succ.inj hl) (V.map mv) fun h2 tk2 I2 st2=>hq h2 tk2 I2 (st.trans st2))))
noncomputable def YK:Expr→Option Str
 | .Name id _=>some id
 |_=>none
theorem Hy{N:Nm}{sc:dQ}(is:List Nat):∀{elts:List Expr},Mg N sc is elts=true→∃xs:List Str,Tg N.names sc is xs∧(∀(M:dO) (A:dJ) (env:PySem.Env),CZ M A env ((assignEach elts env).map (·.2)) xs)∧(∀env,(assignEach elts env).length=is.length∧(assignEach elts env).findIdx? (·.1)=none)∧elts.length=is.length∧
  elts.filterMap YK=xs:=by
 induction is with
 |nil=>intro elts h;cases elts with
  |nil=>exact ⟨[],.nil,fun _ _ _=>.nil,fun _=>⟨rfl,rfl⟩,rfl,rfl⟩
  |cons=>exact xbf h
 |cons i is ih=>intro elts h;cases elts with
  |nil=>exact xbf h
  |cons e es=>
   exact Ac (AC h).1 fun x a=>aW x.2 fun p ep=>aW (ih (AC h).2) fun xs q=>by
    refine ep▸ ?_;exact ⟨x.1::xs,.cons (eq_of_beq (AC a).1) (AC a).2 q.1,fun M A env=>.cons (fun v Q E s q=>wpAny_assign_Name q) (q.2.1 M A env),fun env=>⟨congrArg (· +1) (q.2.2.1 env).1,by
     show List.findIdx? (·.1) ((false,assign (.Name x.1 p) env)::assignEach es env)=none
     rw[List.findIdx?_cons,(q.2.2.1 env).2];rfl⟩,congrArg (· +1) q.2.2.2.1,congrArg (x.1:: ·) q.2.2.2.2⟩
theorem VN{d:D}{is:List Nat}{ρ ρ':Loc}{R:Prop}(e:Av true is (unl σ d) ρ=some ρ')(k1:∀ds,d=.tup ds→is.length=ds.length→ρ'=Ba ρ (is.zip ds)→R)(k2:∀i l,d=.loc i→σ[i]? =some (.lst l)→is.length=l.length→ρ'=Ba ρ (is.zip l)→R):R:=by
 have key:∀ds,Av true is (.tup ds) ρ=some ρ'→is.length=ds.length∧ρ'=Ba ρ (is.zip ds):=fun ds e=>by
  replace e:(if is.length=ds.length then some (Ba ρ (is.zip ds)) else none)=some ρ':=e
  by_cases q:is.length=ds.length
  ·rw[if_pos q]at e;exact ⟨q,(aq.inj e).symm⟩
  ·rw[if_neg q]at e;exact xns e
 cases d with
 |tup ds=>exact k1 ds rfl (key ds e).1 (key ds e).2
 |loc i=>
  replace e:Av true is (match σ[i]? with|some (.lst l)=>.tup l|_=>.loc i) ρ=some ρ':=e
  cases q:σ[i]? with
  |none=>rw[q]at e;exact xns e
  |some c=>cases c with
   |lst l=>rw[q]at e;exact k2 i l rfl q (key l e).1 (key l e).2
   |_=>rw[q]at e;exact xns e
 |_=>exact xns e
theorem T8{h h':Heap}(he:Heap.ExtBut h.objs.size h h'):AN h h':=fun b o e=>he b o (bo (Heap.lt_size e)) e
theorem GY{elts:List Expr}{c:Nat}{p:Pos}{is:List Nat}{v:dF}{d:D}{ρ':Loc}{Q:Unit→dG→Prop}(k:C.Ok)(hm:Mg B.N C.sc is elts=true)(O:Own C.sc C.env C.y0.s.heap)(I:In C y ρ σ)(V:AH B.P y.μ y.s.heap v d)(e:Av true is (unl σ d) ρ=some ρ')
  (hq:∀h tk,In C (y.to h tk) ρ' σ→Fw y (y.to h tk)→Q () (y.to h tk).s):dH (model B.P.prog B.P.w) C.A (assign (.Tuple elts c p) C.env v) Q Er y.s:=
 aW (Hy is hm) fun xs q=>by
  have hl:=q.2.2.1 C.env;have fin:∀(ds:List D) (vs:List dF) (h':Heap),is.length=ds.length→ρ'=Ba ρ (is.zip ds)→Heap.ExtBut y.s.heap.objs.size y.s.heap h'→AE B.P y.μ y.s.heap vs ds→
    dH (model B.P.prog B.P.w) C.A (assignInOrder ((assignEach elts C.env).map (·.2)) vs) Q Er {y.s with heap:=h'}:=fun ds vs h' hlen he hk hv=>by
   haveI l:=Pt.le.keeps (T8 hk) y.s.toks;rw[he]at hq;exact Ld (y:=y.to h' y.s.toks) k O q.1 (q.2.1 _ _ _) (I.up l (I.sto.keeps (T8 hk))) hlen (hv.up l) fun h2 tk I2 st=>hq h2 tk I2 ((Fw.le l).trans st)
  simp only[arm_assign_Tuple];unfold unpack;rw[hl.2];refine dI (dZ (dI (dW ?_)));refine VN e (fun ds e hlen he=> ?_) fun i l e hi hlen he=> ?_
  ·subst e;apply V.tup_e;intro a o vs j ho hc hd _ _ hv;rw[hl.1,hlen,←hv.length,show vs.length=vs.toArray.size from rfl]
   exact unpackItems_tuple k.hc.handled ⟨_,ho,hc,_,hd⟩ fun h' hk=>fin ds _ h' hlen he hk hv
  ·subst e;apply V.loc_e;intro a ei;refine AQ.lst_e (I.sto.cell _ _ _ ei hi) fun vs c' ho hb hv=> ?_;rw[hl.1,hlen,←hv.length,show vs.length=vs.toArray.size from rfl]
   exact PySem.W.kun_itemsOf k.hc.handled ⟨_,ho,rfl,_,rfl⟩ fun h' hk=>fin l _ h' hlen he hk hv
end
def GZ (Xs:List Addr) (h h':Heap):Prop:= ∀b o,b∉Xs→h.get? b=some o→h'.get? b=some o
structure Bq (P:PI) (μ:List Addr) (h0:Heap) (h:Heap) (X:Addr):Prop where
 at_:∃o vs,h.get? X=some o∧o.data=.fields vs
 off:X∉μ
 base:P.hb.get? X=none
 new:h0.get? X=none
inductive Ci (P:PI) (μ:List Addr) (h0:Heap) (h:Heap):Nat→D→dF→Nat→Prop
 |lst {n i:Nat} {l it:Addr}:μ[n]? =some l→h.IsListIter it l i→Bq P μ h0 h it→Ci P μ h0 h 0 (.loc n) (.ref it) i
 |str {l:List Nat} {t:Tok} {it:Addr} {i:Nat}:h.IsStrIter it "str_ascii_iterator" (txt l) t i→BX l→Bq P μ h0 h it→Ci P μ h0 h 0 (.str l) (.ref it) i
 |rng {n:Int} {it:Addr} {i:Nat}:IsRangeIter h it (i:Int) (if (i:Int)<n then n - i else 0) 1→Bq P μ h0 h it→Ci P μ h0 h 1 (.int n) (.ref it) i
 |enu {n i:Nat} {l it e:Addr} {old:dF}:μ[n]? =some l→IsEnum h e it (i:Int) old→h.IsListIter it l i→e≠it→Bq P μ h0 h e→Bq P μ h0 h it→Ci P μ h0 h 2 (.loc n) (.ref e) i
section
variable{P:PI}{μ μ':List Addr}{h h' h0:Heap}{σ:AA}{Xs:List Addr}{X a:Addr}{env:PySem.Env}{stk:List PySem.Env}
theorem Bq.ne{o:Obj}(p:Bq P μ h0 h X)(e:h.get? a=some o)(n:∀vs,o.data≠ .fields vs):a≠X:=fun q=>aW p.at_ fun o' w=>aW w fun vs w=>by
 rw[q]at e;cases e.symm.trans w.1;exact n vs w.2
theorem Bq.mv(hX:∀X∈Xs,Bq P μ h0 h X)(hs:GZ Xs h h'):Mv μ h μ h':=
 ⟨fun a o e n q=>⟨hs a o (fun m=>(hX a m).ne e (fun vs w=>by
  rcases q with ⟨_,_,q⟩|q
  ·cases q.symm.trans w
  ·cases q.symm.trans w) rfl) e,n⟩,fun _ _ e=>e⟩
theorem Sto.grow(S:Sto P μ σ h)(hX:∀X∈Xs,Bq P μ h0 h X)(hs:GZ Xs h h'):Sto P μ σ h':=
 S.map (Bq.mv hX hs) (fun a m o e=>hs a o (fun q=>(hX a q).off m) e) fun b o q e=>hs b o (fun m=>by cases (hX b m).base.symm.trans q) e
theorem KL{mm:Str→Option dF}(H:h.Ns a mm)(hX:∀X∈Xs,Bq P μ h0 h X)(hs:GZ Xs h h'):h'.Ns a mm:=
 aW H fun o w=>aW w fun es w=>aW w fun ep w=>⟨o,es,ep,hs a o (fun q=>(hX a q).ne w.1 (fun vs e=>by cases w.2.1.symm.trans e) rfl) w.1,w.2⟩
theorem JX{v:Option dF}(H:h.IsCell a v)(hX:∀X∈Xs,Bq P μ h0 h X)(hs:GZ Xs h h'):h'.IsCell a v:=
 aW H fun o w=>⟨o,hs a o (fun q=>(hX a q).ne w.1 (fun vs e=>by cases w.2.symm.trans e) rfl) w.1,w.2⟩
theorem FR.grow{names:List Str}{ρ:Loc}(F:FR P μ names env ρ h)(hX:∀X∈Xs,Bq P μ h0 h X)(hs:GZ Xs h h'):FR P μ names env ρ h':=
 ⟨F.kind,F.glob,F.bi,F.ns.imp fun m hm=>KL hm hX hs,F.off,fun y c e=>⟨(F.cells y c e).1,(F.cells y c e).2.1,(F.cells y c e).2.2.imp fun v q=>JX q hX hs⟩,F.closed,F.apart,F.nodup,F.code,
  fun j y d e1 e2 e3=>Exists.imp (fun w k=>⟨k.1.map (Bq.mv hX hs),k.2.imp (fun k=>⟨k.1,k.2.imp fun m q=>⟨KL q.1 hX hs,q.2⟩⟩) fun k=>⟨k.1,k.2.imp fun c q=>⟨q.1,JX q.2 hX hs⟩⟩⟩) (F.var j y d e1 e2 e3)⟩
theorem B7.grow(T:B7 P μ stk h)(hX:∀X∈Xs,Bq P μ h0 h X)(hs:GZ Xs h h'):B7 P μ stk h':=by
 have key:∀env∈stk,∀L,env.frame=some L→∃m,h'.Ns L m:=fun env he L hL=>(T.2 env he L hL).2.imp fun m hn=>KL hn hX hs;refine ⟨?_,fun env he L hL=>⟨(T.2 env he L hL).1,key env he L hL⟩⟩;haveI go:∀l:List PySem.Env,(∀env∈l,env∈stk)→h.FunFrames P.hb l→h'.FunFrames P.hb l:=by
  intro l
  induction l with
  |nil=>exact fun _ _=>trivial
  |cons env l ih=>
   exact fun hin H=>⟨H.1,aW H.2.1 fun L w=>aW w fun o w=>aW (key env (hin env (.head _)) L w.1) fun m k=>Ns.at_ k fun o' es ep ho' hd'=>⟨L,o',w.1,w.2.1,ho',fun vs q=>nomatch hd'.symm.trans q⟩,ih (fun e he=>hin e (.tail _ he)) H.2.2⟩
 exact go stk (fun _ he=>he) T.1
theorem SameBut.grow(hs:Heap.SameBut X h h'):GZ [X] h h':=fun b o n e=>(hs.2 b fun q=>n (q▸ .head _)).trans e
theorem ExtBut.grow(hs:Heap.ExtBut X h h'):GZ [X] h h':=fun b o n e=>hs b o (fun q=>n (q▸ .head _)) e
end
section
variable{B:Bs}{C:Cf B}{y yL z:Pt}{ρ:Loc}{σ σ':AA}{m n:Nat}{Er:dF→dG→Prop}{Xs:List Addr}{h':Heap}
theorem Pt.le.grow{y0:Pt}{tk:Nat}(x:y0.le y)(hX:∀X∈Xs,y0.s.heap.get? X=none)(hs:GZ Xs y.s.heap h'):y0.le (y.to h' tk):=by
 obtain ⟨ν,h1,tk1,rfl,x⟩:=x;have key:∀a o,y0.s.heap.get? a=some o→a∉Xs:=fun a o e q=>by cases (hX a q).symm.trans e
 exact ⟨ν,h',tk,rfl,fun a o e q=>(x.keep a o e q).imp fun sl z=>⟨hs a _ (key a o e) z.1,z.2⟩,fun a o e=>(x.live a o e).imp fun o' z=>⟨hs a _ (key a o e) z.1,z.2⟩,x.new⟩
structure Mvd (C:Cf B) (yL y:Pt) (ρ:Loc) (σ:AA) (Xs:List Addr) (h':Heap):Prop where
 inn:∀tk,In C (y.to h' tk) ρ σ
 fw:∀tk,Fw yL (y.to h' tk)
 mv:Mv y.μ y.s.heap y.μ h'
theorem Bq.to{X:Addr}{hb h:Heap}{μ:List Addr}{o:Obj}{vs:Array dF}(p:Bq B.P μ hb h X)(e:h'.get? X=some o)(hd:o.data=.fields vs):Bq B.P μ hb h' X:=⟨⟨o,vs,e,hd⟩,p.off,p.base,p.new⟩
theorem JY(l0:C.y0.le yL)(I:In C y ρ σ)(F:Fw yL y)(hX:∀X∈Xs,Bq B.P y.μ yL.s.heap y.s.heap X)(gr:GZ Xs y.s.heap h'):Mvd C yL y ρ σ Xs h':=by
 haveI fr:∀X,yL.s.heap.get? X=none→C.y0.s.heap.get? X=none:=by
  obtain ⟨_,_,_,rfl,x⟩:=l0;exact x.fresh
 refine ⟨fun tk=>⟨I.since.grow (fun X q=>fr X (hX X q).new) gr,I.sto.grow hX gr,I.fr.grow hX gr,I.stk.grow hX gr⟩,fun tk=>⟨F.more,F.same.elim fun h w=>w.elim fun t e=>⟨h',tk,by show ({y.s with heap:=h',toks:=tk}:dG)=_;rw[e]⟩,fun X o vs e hd q=> ?_,fun X e=> ?_⟩,Bq.mv hX gr⟩
 ·haveI:=F.priv X o vs e hd q;exact ⟨gr X o (fun w=>by cases (hX X w).new.symm.trans e) this.1,this.2⟩
 ·by_cases q:X∈Xs
  ·exact (hX X q).new
  ·refine F.live X ?_;cases w:y.s.heap.get? X with
   |none=>rfl
   |some o=>cases (gr X o q w).symm.trans e
def Pm (tup:Bool) (target:Expr):Prop:=(tup=false∧∃x p,target=.Name x p)∨(∃xs c p,target=.Tuple xs c p)
theorem Ga{tup:Bool}{target:Expr}(ht:Pm tup target){M:dO}{A:dJ}{a:Addr}{v:dF}{o:Obj}{s1:dG}{T:String}{Q':Unit→dG→Prop}(ho:s1.heap.get? a=some o)(hc:o.cls=.type T)(hT:["enumerate","zip","dict_itemiterator","dict_reverseitemiterator","odict_iterator","itertools.zip_longest","itertools.pairwise"].contains T=false)
  (hq:Q' () s1):dH M A (letOwnedTupleGo target (.ref a) v) Q' Er s1:=by
 rcases ht with ⟨_,x,p,e⟩|⟨xs,c,p,e⟩
 ·refine e▸ ?_;exact dL hq
 ·refine e▸ ?_;cases v with
  |ref b=>
   unfold letOwnedTupleGo;refine dI (wpAny_load ho ?_);refine hc▸ ?_;cases hd:o.data with
   |fields vs=>
    simp only[hT,Bool.false_and,Bool.false_eq_true,if_false];exact dL hq
   |_=>exact dL hq
  |_=>exact dL hq
def NxK (C:Cf B) (yL y:Pt) (ρ:Loc) (σ:AA) (kind:Nat) (src:D) (it:dF) (i:Nat) (d:D) (target:Expr) (Q:Option dF→dG→Prop):Prop:=
 ∀v h1 tk,(∀Q' Er',(∀h2,In C (y.to h2 tk) ρ σ→Fw yL (y.to h2 tk)→Ci B.P y.μ yL.s.heap h2 kind src it (i+1)→AH B.P y.μ h2 v d→Q' () (y.to h2 tk).s)→dH (model B.P.prog B.P.w) C.A (letOwnedTupleGo target it v) Q' Er' {y.s with heap:=h1,toks:=tk})→Q (some v) {y.s with heap:=h1,toks:=tk}
theorem EM{X:Addr}{hb h:Heap}{μ:List Addr}(p:Bq B.P μ hb h X):∀Y∈[X],Bq B.P μ hb h Y:=fun Y q=>bA.mp q▸p
theorem RQ{α:Type}{f:Nat→List D→Option α}{n:Nat}{p:α}(e:B5 σ (.loc n) f=some p):∃ls,σ[n]? =some (.lst ls)∧f n ls=some p:=
 aW (bP.mp e) fun c w=>by
  cases c with
  |lst ls=>exact ⟨ls,w.1,w.2⟩
  |_=>cases w.2
theorem OQ{i:Nat}{l:Nat}{x:Option D}(e:Aa 0 (.loc l) σ i=some x):∃ls,σ[l]? =some (.lst ls)∧ls[i]? =x:=
 (RQ (f:=fun _ l=>some l[i]?) e).imp fun _ w=>⟨w.1,aq.inj w.2⟩
theorem OR{i:Nat}{l:Nat}{x:Option D}(e:Aa 2 (.loc l) σ i=some x):∃ls,σ[l]? =some (.lst ls)∧(ls[i]?.map fun x=>.tup [.int i,x])=x:=
 (RQ (f:=fun _ l=>some (l[i]?.map fun x=>D.tup [.int i,x])) e).imp fun _ w=>⟨w.1,aq.inj w.2⟩
theorem RR{kn i:Nat}{l a:Addr}{d:D}{tup:Bool}{target:Expr}{Q:Option dF→dG→Prop}(l0:C.y0.le yL)(I:In C y ρ σ)(F:Fw yL y)(ei:y.μ[kn]? =some l)(hi:y.s.heap.IsListIter a l i)(p:Bq B.P y.μ yL.s.heap y.s.heap a)(e:Aa 0 (.loc kn) σ i=some (some d))(ht:Pm tup target)
  (hq:NxK C yL y ρ σ 0 (.loc kn) (.ref a) i d target Q):dH (model B.P.prog B.P.w) C.A (pyNext (.ref a)) Q Er y.s:=
 aW (OQ (i:=i) e) fun ls w=>AQ.lst_e (I.sto.cell _ _ _ ei w.1) fun vs c ho _ hv=>aW (hv.get w.2) fun v k=>wpAny_pyNext_list_item hi ⟨_,ho,rfl,_,rfl⟩ (by rw[←k.1];exact bu) fun h' hi' hs=>
  aW hi' fun o q=>hq v h' y.s.toks fun Q' Er' k2=>
   haveI mv:=JY l0 I F (EM p) (SameBut.grow hs)
   Ga ht q.1 q.2.1 (rfl) (k2 h' (mv.inn _) (mv.fw _) (.lst ei hi' (p.to q.1 q.2.2)) (k.2.map mv.mv))
theorem RS{i:Nat}{l:List Nat}{t:Tok}{a:Addr}{d:D}{tup:Bool}{target:Expr}{Q:Option dF→dG→Prop}(l0:C.y0.le yL)(I:In C y ρ σ)(F:Fw yL y)(hi:y.s.heap.IsStrIter a "str_ascii_iterator" (txt l) t i)(ok:BX l)(p:Bq B.P y.μ yL.s.heap y.s.heap a)(e:Aa 0 (.str l) σ i=some (some d))(ht:Pm tup target)
  (hq:NxK C yL y ρ σ 0 (.str l) (.ref a) i d target Q):dH (model B.P.prog B.P.w) C.A (pyNext (.ref a)) Q Er y.s:=
 aW (bG.mp (aq.inj (show some (l[i]?.map fun c=>D.str [c])=some (some d) from e))) fun c w=>wpAny_pyNext_ascii_item hi (c:=c) (by rw[←w.1];exact bu) fun h' hi' hs=>
  aW hi' fun o q=>hq _ h' _ fun Q' Er' k2=>
   haveI mv:=JY l0 I F (EM p) (SameBut.grow hs)
   Ga ht q.1 q.2.1 (rfl) (k2 h' (mv.inn _) (mv.fw _) (.str hi' ok (p.to q.1 q.2.2)) (w.2▸ .str [c] _ ⟨fun c' hc'=>bA.mp hc'▸ok.1 c (bB w.1),ba (bC _)⟩))
theorem RT{nn:Int}{i:Nat}{a:Addr}{d:D}{tup:Bool}{target:Expr}{Q:Option dF→dG→Prop}(l0:C.y0.le yL)(I:In C y ρ σ)(F:Fw yL y)(hi:IsRangeIter y.s.heap a (i:Int) (if (i:Int)<nn then nn - i else 0) 1)(p:Bq B.P y.μ yL.s.heap y.s.heap a)(e:Aa 1 (.int nn) σ i=some (some d))(ht:Pm tup target)
  (hq:NxK C yL y ρ σ 1 (.int nn) (.ref a) i d target Q):dH (model B.P.prog B.P.w) C.A (pyNext (.ref a)) Q Er y.s:=by
 have key:(i:Int)<nn∧d=.int i:=by
  replace e:(if nn≤1000000∧ -1000000≤nn then some (if (i:Int)<nn then some (D.int i) else none) else none)=some (some d):=e
  by_cases q:nn≤1000000∧ -1000000≤nn
  ·rw[if_pos q]at e;by_cases q2:(i:Int)<nn
   ·rw[if_pos q2]at e;cases e;exact ⟨q2,rfl⟩
   ·rw[if_neg q2]at e;cases e
  ·rw[if_neg q]at e;exact xns e
 rw[if_pos key.1]at hi;rw[key.2]at hq;haveI e1:nn - (i:Int) - 1=if ((i+1:Nat):Int)<nn then nn - ((i+1:Nat):Int) else 0:=by split<;>lia
 exact wpAny_pyNext_range_item hi (by lia) fun h' hi' hs=>hq _ h' _ fun Q' Er' k2=>
  haveI mv:=JY l0 I F (EM p) (SameBut.grow hs)
  Ga ht hi' rfl (rfl) (k2 h' (mv.inn _) (mv.fw _) (.rng (e1▸hi') (p.to hi' rfl)) (.int _ _))
theorem RU{kn i:Nat}{l it0 a:Addr}{old:dF}{d:D}{xs:List Expr}{cx:Nat}{px:Pos}{Q:Option dF→dG→Prop}(l0:C.y0.le yL)(I:In C y ρ σ)(F:Fw yL y)(ei:y.μ[kn]? =some l)(he:IsEnum y.s.heap a it0 (i:Int) old)(hi:y.s.heap.IsListIter it0 l i)(ne:a≠it0)(p:Bq B.P y.μ yL.s.heap y.s.heap a)(q:Bq B.P y.μ yL.s.heap y.s.heap it0)
  (e:Aa 2 (.loc kn) σ i=some (some d)) (hq:NxK C yL y ρ σ 2 (.loc kn) (.ref a) i d (.Tuple xs cx px) Q):dH (model B.P.prog B.P.w) C.A (pyNext (.ref a)) Q Er y.s:=
 aW (OR (i:=i) e) fun ls w=>AQ.lst_e (I.sto.cell _ _ _ ei w.1) fun vs c ho _ hv=>aW (bG.mp w.2) fun d' w2=>aW (hv.get w2.1) fun v k=>wpAny_pyNext_enum_item he hi ⟨_,ho,rfl,_,rfl⟩ (by rw[←k.1];exact bu) ne fun h' he' hi' hT hsz hk'=>
  aW hi' fun o qo=>hq _ h' _ fun Q' Er' k2=>by
   haveI gr:GZ [a,it0] y.s.heap h':=fun b o hb e=>hk' b o (fun q=>hb (q▸ .head _)) (fun q=>hb (q▸ .tail _ (.head _))) e;haveI mv:=JY l0 I F (fun X hx=>(aj.mp hx).elim (fun e=>e▸p) fun hx=>bA.mp hx▸q) gr;refine wpAny_letOwnedTupleGo_enum (i:=((i+1:Nat):Int)) (by exact he') fun h2 he2 hs2=> ?_
   haveI mv2:=JY (y:=y.to h' (y.s.toks+1)) l0 (mv.inn _) (mv.fw _) (EM (p.to he' rfl)) (SameBut.grow hs2);haveI hne:y.s.heap.objs.size≠a:=fun q=>aW p.at_ fun o w=>aW w fun _ w=>by
    rw[←q,AR]at w;cases w.1
   haveI it2:h2.get? it0=some o:=(hs2.2 _ ne.symm).trans qo.1;exact k2 h2 (mv2.inn _) (mv2.fw _) (.enu ei he2 ⟨o,it2,qo.2⟩ ne (p.to he2 rfl) (q.to it2 qo.2.2))
    (w2.2▸AH.tup (o:={cls:=.type "tuple",data:=.seq #[.int i y.s.toks,v]}) (k:=0) (vs:=[.int i y.s.toks,v]) ((hs2.2 _ hne).trans hT) rfl rfl (I.sto.off (AR _)).1 (by simp) (.cons (.int _ _) (.cons ((k.2.map mv.mv).map mv2.mv) .nil)))
theorem JZ{kind i:Nat}{src d:D}{it:dF}{tup:Bool}{target:Expr}{Q:Option dF→dG→Prop}(l0:C.y0.le yL)(I:In C y ρ σ)(F:Fw yL y)(H:Ci B.P y.μ yL.s.heap y.s.heap kind src it i)(e:Aa kind src σ i=some (some d))(hk:kind=2→tup=true)(ht:Pm tup target)
  (hq:NxK C yL y ρ σ kind src it i d target Q):dH (model B.P.prog B.P.w) C.A (pyNext it) Q Er y.s:=by
 cases H with
 |lst ei hi p=>exact RR l0 I F ei hi p e ht hq
 |str hi ok p=>exact RS l0 I F hi ok p e ht hq
 |rng hi p=>exact RT l0 I F hi p e ht hq
 |enu ei he hi ne p q=>
  rcases ht with ⟨ht,_⟩|⟨xs,c,px,e2⟩
  ·rw[hk rfl]at ht;contradiction
  ·simp only[e2]at hq;exact RU l0 I F ei he hi ne p q e hq
theorem Le{kind i:Nat}{src:D}{it:dF}{Q:Option dF→dG→Prop}(c:C.Ok)(l0:C.y0.le yL)(I:In C y ρ σ)(F:Fw yL y)(H:Ci B.P y.μ yL.s.heap y.s.heap kind src it i)(e:Aa kind src σ i=some none)
  (hq:∀h',In C (y.to h' y.s.toks) ρ σ→Fw yL (y.to h' y.s.toks)→Q none {y.s with heap:=h'}):dH (model B.P.prog B.P.w) C.A (pyNext it) Q Er y.s:=by
 have fin:∀{X:Addr},Bq B.P y.μ yL.s.heap y.s.heap X→∀h',Heap.ExtBut X y.s.heap h'→Q none {y.s with heap:=h'}:=fun p h' hs=>
  haveI mv:=JY l0 I F (EM p) (ExtBut.grow hs)
  hq h' (mv.inn _) (mv.fw _)
 have lst:∀{kn:Nat} {l:Addr} {R:Prop},y.μ[kn]? =some l→(∃ls,σ[kn]? =some (.lst ls)∧ls[i]? =none)→(∀items:Array dF,y.s.heap.IsList l items→items[i]? =none→R)→R:=fun ei w k=>aW w fun ls w=>AQ.lst_e (I.sto.cell _ _ _ ei w.1) fun vs c' ho _ hv=>
  k vs.toArray ⟨_,ho,rfl,_,rfl⟩ (by rw[bu,c6,hv.length];exact c6.mp w.2)
 cases H with
 |lst ei hi p=>exact lst ei (OQ (i:=i) e) fun items hl hn=>wpAny_pyNext_list_end c.hc.handled hi hl hn (fin p)
 | @str l t a _ hi ok p=>
  haveI w:=Option.map_eq_none_iff.mp (aq.inj (show some (l[i]?.map fun c=>D.str [c])=some none from e))
  exact wpAny_pyNext_ascii_end c.hc.handled hi (by refine w▸ ?_;exact bu) (fin p)
 | @rng nn a _ hi p=>
  haveI key: ¬(i:Int)<nn:=fun q2=>by
   replace e:(if nn≤1000000∧ -1000000≤nn then some (if (i:Int)<nn then some (D.int i) else none) else none)=some none:=e
   by_cases q:nn≤1000000∧ -1000000≤nn
   ·rw[if_pos q,if_pos q2]at e;cases e
   ·rw[if_neg q]at e;exact xns e
  rw[if_neg key]at hi;exact wpAny_pyNext_range_end c.hc.handled hi (Int.le_refl _) (fin p)
 |enu ei he hi ne p q=>
  exact lst ei (Exists.imp (fun ls w=>⟨w.1,Option.map_eq_none_iff.mp w.2⟩) (OR (i:=i) e)) fun items hl hn=>wpAny_pyNext_enum_end c.hc.handled he hi hl hn (fin q)
theorem Bq.fw{X:Addr}{hb:Heap}(x:Fw y z)(p:Bq B.P y.μ hb y.s.heap X):Bq B.P z.μ hb z.s.heap X:=
 aW p.at_ fun o w=>aW w fun vs w=>⟨⟨o,vs,(x.priv _ _ _ w.1 w.2 p.off).1,w.2⟩,(x.priv _ _ _ w.1 w.2 p.off).2,p.base,p.new⟩
theorem Ci.fw{hb:Heap}{kind i:Nat}{src:D}{it:dF}(x:Fw y z)(H:Ci B.P y.μ hb y.s.heap kind src it i):Ci B.P z.μ hb z.s.heap kind src it i:=by
 have key:∀{a:Addr} {o:Obj},Bq B.P y.μ hb y.s.heap a→y.s.heap.get? a=some o→z.s.heap.get? a=some o:=fun p e=>aW p.at_ fun o w=>aW w fun vs w=>by
  cases e.symm.trans w.1;exact (x.priv _ _ _ w.1 w.2 p.off).1
 have up:∀{n:Nat} {l:Addr},y.μ[n]? =some l→z.μ[n]? =some l:=fun q=>aW x.more fun κ e=>by rw[e,bS (ap.mp q).1];exact q
 cases H with
 |lst e hi p=>exact .lst (up e) (hi.imp fun o q=>⟨key p q.1,q.2⟩) (p.fw x)
 |str hi ok p=>exact .str (hi.imp fun o q=>⟨key p q.1,q.2⟩) ok (p.fw x)
 |rng hi p=>exact .rng (key p hi) (p.fw x)
 |enu e he hi ne p q=>exact .enu (up e) (key p he) (hi.imp fun o w=>⟨key q w.1,w.2⟩) ne (p.fw x) (q.fw x)
end
section
variable{B:Bs}{C:Cf B}{y z:Pt}{ρ ρ':Loc}{σ σ':AA}{m n mf:Nat}
noncomputable def WS (C:Cf B) (y:Pt) (Q:Flow→dG→Prop):SR→Prop
 |some (.nxt,ρ',σ')=> ∀z,Fw y z→In C z ρ' σ'→Q .next z.s
 |some (.brk,ρ',σ')=> ∀z,Fw y z→In C z ρ' σ'→Q .brk z.s
 |some (.ret d,ρ',σ')=> ∀v z,In C z ρ' σ'→AH B.P z.μ z.s.heap v d→Q (.ret v) z.s
 |some (.ex c,ρ',σ')=> ∀e z,In C z ρ' σ'→ExR B.P z.μ C.y0.s.heap c e z.s.heap→C.Er (.ref e) z.s
 |none=>False
theorem WS.fw{Q:Flow→dG→Prop}{o:SR}(x:Fw y z)(h:WS C y Q o):WS C z Q o:=by
 revert h;exact TR o (fun h=>aY h) (fun _ _ h w f=>h w (x.trans f)) (fun _ _ h w f=>h w (x.trans f)) (fun _ _ _ h=>h) fun _ _ _ h=>h
theorem Xk.ws{c:List Nat}(I:In C y ρ σ)(h:∀e z,In C z ρ σ'→ExR B.P z.μ C.y0.s.heap c e z.s.heap→C.Er (.ref e) z.s):Xk C y c σ':=fun e z l S X=>h e z (I.up l S) (X.up I.since)
theorem WS.sbnd{Q:Flow→dG→Prop}{Q1:dF→dG→Prop}{o:R}{f:D→AA→SR}(I:In C y ρ σ)(h:WS C y Q (Mine.sbnd o ρ f))(k:∀d σ1 v z,y.le z→In C z ρ σ1→AH B.P z.μ z.s.heap v d→WS C z Q (f d σ1)→Q1 v z.s):W C y Q1 o:=by
 revert h;exact R_e o (fun h=>aY h) (fun d σ' h=>fun v z l S V=>k d σ' v z l (I.up l S) V (WS.fw (Fw.le l) h)) fun c σ' h=>Xk.ws I h
theorem WS.sbndR{Q:Flow→dG→Prop}{K:D→AA→Prop}{o:R}{f:D→AA→SR}(I:In C y ρ σ)(h:WS C y Q (Mine.sbnd o ρ f))(k:∀d σ1,WS C y Q (f d σ1)→K d σ1):WR C y K o:=by
 revert h;exact R_e o (fun h=>aY h) (fun d σ' h=>k d σ' h) fun c σ' h=>Xk.ws I h
theorem WS.test{Q:Flow→dG→Prop}{Q1:Bool→dG→Prop}{o:R}{f:D→AA→SR}(I:In C y ρ σ)(h:WS C y Q (Mine.sbnd o ρ f))(hf:∀d σ,WS C y Q (f d σ)→∃t,d=.bool t)(k:∀t σ1 z,y.le z→In C z ρ σ1→WS C z Q (f (.bool t) σ1)→Q1 t z.s):WB C y Q1 o:=by
 revert h;exact R_e o (fun h=>aY h) (fun d σ' h=>(hf d σ' h).imp fun t e=>⟨e,fun z l S=>k t σ' z l (I.up l S) (WS.fw (Fw.le l) (e▸h))⟩) fun c σ' h=>Xk.ws I h
noncomputable def OS (r:SR) (k:Loc→AA→SR):SR:=match r with
 |some (.nxt,ρ,σ)=>k ρ σ
 |some (.brk,ρ,σ)=>some (.nxt,ρ,σ)
 |r=>r
theorem WS.loop{yL:Pt}{Q Q':Flow→dG→Prop}{r:SR}{k:Loc→AA→SR}(F:Fw yL y)(h:WS C yL Q (OS r k))(kn:∀ρ σ z,Fw y z→In C z ρ σ→WS C yL Q (k ρ σ)→Q' .next z.s)(kb:∀s,Q .next s→Q' .brk s)(kr:∀v s,Q (.ret v) s→Q' (.ret v) s):WS C y Q' r:=by
 revert h;exact TR r (fun h=>aY h) (fun ρ' σ' h w f I=>kn ρ' σ' w f I h) (fun _ _ h w f I=>kb _ (h w (F.trans f) I)) (fun _ _ _ h v z I V=>kr _ _ (h v z I V)) fun _ _ _ h=>h
theorem WS.seq{Q Q':Flow→dG→Prop}{r:SR}{k:Loc→AA→SR}(h:WS C y Q (Mine.seq r k))(kn:∀ρ σ z,Fw y z→In C z ρ σ→WS C z Q (k ρ σ)→Q' .next z.s)(kb:∀s,Q .brk s→Q' .brk s)(kr:∀v s,Q (.ret v) s→Q' (.ret v) s):WS C y Q' r:=by
 revert h;exact TR r (fun h=>aY h) (fun ρ' σ' h w f I=>kn ρ' σ' w f I (WS.fw f h)) (fun _ _ h w f I=>kb _ (h w f I)) (fun _ _ _ h v z I V=>kr _ _ (h v z I V)) fun _ _ _ h=>h
structure Cf.OkS (C:Cf B):Prop extends C.Ok where
 own:Own C.sc C.env C.y0.s.heap
 pass:PassesOwn (model B.P.prog B.P.w) C.A C.env C.Er
def ExG (C:Cf B) (Q:Flow→dG→Prop) (y:Pt) (x:Stmt):Prop:=dH (model B.P.prog B.P.w) C.A (exec x C.env) Q C.Er y.s
def Fk (B:Bs) (n:Nat):Prop:= ∀{C:Cf B} {mf:Nat} {b:List St} {xs:List Stmt} {ρ:Loc} {σ:AA} {y:Pt} {Q:Flow→dG→Prop},C.OkS→GR (mS B.N C.sc mf) b xs=true→In C y ρ σ→WS C y Q (exs B.call B.G n b ρ σ)→dH (model B.P.prog B.P.w) C.A (execs xs C.env) Q C.Er y.s
noncomputable def WX (C:Cf B) (y:Pt):Option (List Nat×AA)→Prop
 |some (c,σ')=>Xk C y c σ'
 |none=>False
def Fl (B:Bs):Prop:= ∀n,BO B n→∀{C:Cf B} {m:Nat} {as:List E} {xs:List Expr} {np cp p:Pos} {ρ:Loc} {σ:AA} {y:Pt} {Q:Flow→dG→Prop},C.Ok→Af C.sc "BasicError"=true→Aj (mE B.N m C.sc) as xs=true→In C y ρ σ→WX C y (TU (evL (fun e σ=>ev B.call B.G n e ρ σ) as σ))→
 ExG C Q y (.Raise (some (.Call (.Name "BasicError" np) xs [] cp)) none p)
theorem EN{env:PySem.Env}{v:Expr}{t:Option Expr}{l:Nat}(h:Ck v=true):swapsWith v t l env=pure false:=by
 cases v<;>first|rfl|(exact xbf h;done)
theorem Pn{env:PySem.Env}{v:Expr}{x:dF}(h:FI v=true):foldedSetIterable v env x=pure x:=by
 cases v<;>first|rfl|(exact xbf h;done)
theorem Ha{N:Nm}{sc:dQ}{C:Expr→Prop}{kind:Nat}{tup:Bool}{iter:E}{xi:Expr}(hm:JD N m sc kind tup iter xi=true)(k0:kind=0→mE N m sc iter xi=true→FI xi=true→C xi)
  (k1:kind=1→∀q y p,Af sc "range"=true→mE N m sc iter y=true→C (.Call (.Name "range" q) [y] [] p)) (k2:kind=2→tup=true→∀q y p,Af sc "enumerate"=true→mE N m sc iter y=true→C (.Call (.Name "enumerate" q) [y] [] p)):C xi:=by
 cases kind with
 |zero=>exact k0 rfl (AC hm).1 (AC hm).2
 |succ kind=>cases kind with
  |zero=>exact Bz (f:=fun x xs=>x==("range":Str)&&Af sc x&&Il xs fun y=>mE N m sc iter y) hm fun x q xs p h=>JR (C:=fun x=>C (.Call (.Name x q) xs [] p)) h fun hg h=>Hw (C:=fun xs=>C (.Call (.Name "range" q) xs [] p)) h fun y h=>k1 rfl q y p hg h
  |succ kind=>cases kind with
  |succ=>exact xbf hm
  |zero=>exact Bz (f:=fun x xs=>tup&&x==("enumerate":Str)&&Af sc x&&Il xs fun y=>mE N m sc iter y) hm fun x q xs p h=>JR (C:=fun x=>C (.Call (.Name x q) xs [] p)) (b:=Il xs fun y=>mE N m sc iter y) (by rw[←(AC (AC h).1).2,(AC h).2,(AC (AC (AC h).1).1).2,(AC (AC h).1).2];rfl) fun hg h2=>Hw (C:=fun xs=>C (.Call (.Name "enumerate" q) xs [] p)) h2 fun y h3=>k2 rfl (AC (AC (AC h).1).1).1 q y p hg h3
theorem Ja{N:Nm}{sc:dQ}{env:PySem.Env}{kind:Nat}{tup:Bool}{iter:E}{xi:Expr}(hm:JD N m sc kind tup iter xi=true)(x:dF):foldedSetIterable xi env x=pure x:=
 Ha (C:=fun xi=>foldedSetIterable xi env x=pure x) hm (fun _ _ h=>Pn h) (fun _ _ _ _ _ _=>rfl) (fun _ _ _ _ _ _ _=>rfl)
theorem Pt.le.fresh(x:y.le z)(X:Addr)(e:z.s.heap.get? X=none):y.s.heap.get? X=none:=by
 obtain ⟨_,_,_,rfl,x⟩:=x;exact x.fresh X e
theorem Fm(l:y.le z)(S:Sto B.P z.μ σ z.s.heap){X:Addr}{h:Heap}(hn:z.s.heap.get? X=none){o:Obj}{vs:Array dF}(ho:h.get? X=some o)(hd:o.data=.fields vs):Bq B.P z.μ y.s.heap h X:=
 ⟨⟨o,vs,ho,hd⟩,(S.off hn).1,(S.off hn).2,l.fresh X hn⟩
def ItK (C:Cf B) (y:Pt) (ρ:Loc) (kind:Nat) (Qk:dF→dG→Prop) (src:D) (σ1:AA):Prop:=Aa kind src σ1 0≠none∧∀it z,y.le z→In C z ρ σ1→Ci B.P z.μ y.s.heap z.s.heap kind src it 0→Qk it z.s
theorem WI{Qk:dF→dG→Prop}(I:In C z ρ σ)(l:y.le z){src:D}{v:dF}(V:AH B.P z.μ z.s.heap v src)(k:ItK C y ρ 0 Qk src σ):dH (model B.P.prog B.P.w) C.A (pyIter v) Qk C.Er z.s:=by
 cases src with
 |loc i=>
  have k1:(σ[i]?.bind fun c=>LB c fun l=>some l[0]?)≠none:=k.1;cases q:σ[i]? with
  |none=>rw[q]at k1;exact absurd rfl k1
  |some c=>cases c with
   |lst ls=>
    apply V.loc_e;intro a0 ei;refine AQ.lst_e (I.sto.cell _ _ _ ei q) fun vs c ho hb hv=>wpAny_pyIter_list ⟨_,ho,rfl,_,rfl⟩ ?_;haveI kp:=AN.push z.s.heap ({cls:=.type "list_iterator",data:=.fields #[.ref a0,.int 0 0]}:Obj);haveI l2:=Pt.le.keeps kp z.s.toks;exact k.2 _ _ (l.trans l2) (I.up l2 (I.sto.keeps kp)) (.lst ei ⟨_,Heap.get?_push_size _ rfl,rfl,rfl⟩ (Fm l I.sto (AR _) (Heap.get?_push_size _ rfl) rfl))
   |_=>rw[q]at k1;exact absurd rfl k1
 |str ls=>
  apply V.str_e;intro t ok;have ha:(txt ls).cps.all (· <128)=true:=by
   unfold txt;rw[List.all_toArray,ao];intro c hc
   simpa using ok.1 c hc
  refine wpAny_pyIter_ascii ha ?_;haveI kp:=AN.push z.s.heap ({cls:=.type "str_ascii_iterator",data:=.fields #[.str (txt ls) t,.int 0 0]}:Obj);haveI l2:=Pt.le.keeps kp z.s.toks;exact k.2 _ _ (l.trans l2) (I.up l2 (I.sto.keeps kp)) (.str ⟨_,Heap.get?_push_size _ rfl,rfl,rfl⟩ ok (Fm l I.sto (AR _) (Heap.get?_push_size _ rfl) rfl))
 |_=>exact absurd rfl k.1
theorem WJ{Qk:dF→dG→Prop}(I:In C z ρ σ)(l:y.le z){src:D}{v:dF}(V:AH B.P z.μ z.s.heap v src)(k:ItK C y ρ 1 Qk src σ):dH (model B.P.prog B.P.w) C.A (PySem.call (.type "range") [v]) (fun x s=>dH (model B.P.prog B.P.w) C.A (pyIter x) Qk C.Er s) C.Er z.s:=by
 cases src with
 |int i=>
  haveI hz:i≤1000000∧ -1000000≤i:=by
   have k1:(if i≤1000000∧ -1000000≤i then some (if ((0:Nat):Int)<i then some (D.int (0:Nat)) else none) else none)≠none:=k.1
   by_cases q:i≤1000000∧ -1000000≤i
   ·exact q
   ·rw[if_neg q]at k1;exact absurd rfl k1
  apply V.int_e;intro t0;refine call_range_1 (wpAny_pyIter_range (Heap.get?_push_size _ rfl) (small_one (by lia) (by lia) (by lia) (by lia)) ?_)
  haveI kp1:=AN.push z.s.heap ({cls:=.type "range",data:=.fields #[.int 0 z.s.toks,.int i t0,.int 1 (z.s.toks+1)]}:Obj);haveI l1:=Pt.le.keeps kp1 (z.s.toks+2);haveI I1:=I.up l1 (I.sto.keeps kp1);haveI kp2:=AN.push (z.s.heap.push ({cls:=.type "range",data:=.fields #[.int 0 z.s.toks,.int i t0,.int 1 (z.s.toks+1)]}:Obj)) ({cls:=.type "range_iterator",data:=.fields #[rawInt 0,rawInt (Builtin.Range.rangeSize 0 i 1),rawInt 1]}:Obj);haveI l2:=Pt.le.keeps (y:=z.to (z.s.heap.push ({cls:=.type "range",data:=.fields #[.int 0 z.s.toks,.int i t0,.int 1 (z.s.toks+1)]}:Obj)) (z.s.toks+2)) kp2 (z.s.toks+2);haveI e1:Builtin.Range.rangeSize 0 i 1=if ((0:Nat):Int)<i then i - ((0:Nat):Int) else 0:=by
   unfold Builtin.Range.rangeSize;rw[if_pos (by decide)]
   by_cases q:0<i
   ·rw[if_pos q,if_pos (by lia)];lia
   ·rw[if_neg q,if_neg (by lia)]
  exact k.2 _ _ ((l.trans l1).trans l2) (I1.up l2 (I1.sto.keeps kp2)) (.rng (by rw[←e1];exact Heap.get?_push_size _ rfl) (Fm (l.trans l1) I1.sto (AR _) (Heap.get?_push_size _ rfl) rfl))
 |_=>exact absurd rfl k.1
theorem WK{Qk:dF→dG→Prop}(I:In C z ρ σ)(l:y.le z){src:D}{v:dF}(V:AH B.P z.μ z.s.heap v src)(k:ItK C y ρ 2 Qk src σ):dH (model B.P.prog B.P.w) C.A (PySem.call (.type "enumerate") [v]) (fun x s=>dH (model B.P.prog B.P.w) C.A (pyIter x) Qk C.Er s) C.Er z.s:=by
 cases src with
 |loc i=>
  have k1:(σ[i]?.bind fun c=>LB c fun l=>some (l[0]?.map fun x=>D.tup [.int (0:Nat),x]))≠none:=k.1;cases q:σ[i]? with
  |none=>rw[q]at k1;exact absurd rfl k1
  |some c=>cases c with
   |lst ls=>
    apply V.loc_e;intro a0 ei;refine AQ.lst_e (I.sto.cell _ _ _ ei q) fun vs c ho hb hv=>call_enumerate_list ⟨_,ho,rfl,_,rfl⟩ fun h2 he hi hsz hk'=>wpAny_pyIter_enum he ?_;haveI nz:z.s.heap.get? (z.s.heap.objs.size+1)=none:=by
     cases q:z.s.heap.get? (z.s.heap.objs.size+1) with
     |none=>rfl
     |some o=>exact absurd (Heap.lt_size q) (bH.mpr (Nat.le_succ _))
    haveI l2:=Pt.le.keeps hk' z.s.toks;exact k.2 _ _ (l.trans l2) (I.up l2 (I.sto.keeps hk')) (.enu ei he hi (Nat.succ_ne_self _) (Fm l I.sto nz he rfl) (aW hi fun o w=>Fm l I.sto (AR _) w.1 w.2.2))
   |_=>rw[q]at k1;exact absurd rfl k1
 |_=>exact absurd rfl k.1
theorem Hz(K:B.Ok)(H:BO B n)(c:C.Ok){kind:Nat}{tup:Bool}{iter:E}{xi:Expr}{Qk:dF→dG→Prop}(hm:JD B.N m C.sc kind tup iter xi=true)(I:In C y ρ σ)(h:WR C y (ItK C y ρ kind Qk) (ev B.call B.G n iter ρ σ)):
  EvG C (fun x s₁=>dH (model B.P.prog B.P.w) C.A (pyIter x) Qk C.Er s₁) y xi:=by
 refine Ha hm (fun e h1 _=> ?_) (fun e q w p hg h1=> ?_) fun e _ q w p hg h1=> ?_
 ·subst e;exact H c h1 I (h.imp (.refl y) fun src σ1 k v z l S V=>WI (I.up l S) l V k)
 ·subst e;refine dh (I.glob K.K c hg (.inr K.nm.rng) ?_);rw[Cp h1];exact PySem.callWith_type rfl (evalArgs_plain (spliced_cons (H c h1 I (h.imp (.refl y) fun src σ1 k v z l S V=>spliced_nil (WJ (I.up l S) l V k)))))
 ·subst e;refine dh (I.glob K.K c hg (.inr K.nm.enu) ?_);rw[Cp h1];exact PySem.callWith_type rfl (evalArgs_plain (spliced_cons (H c h1 I (h.imp (.refl y) fun src σ1 k v z l S V=>spliced_nil (WK (I.up l S) l V k)))))
end
def Sw (X:List Str) (t:Sem (Option (List Str))):Prop:= ∃o,t=pure o∧∀ns,o=some ns→ns=X
theorem Sw.no{X:List Str}:Sw X (pure none):=⟨_,rfl,fun _ e=>xns e⟩
theorem Sw.ite{X:List Str}{c:Prop}[Decidable c]{t:Sem (Option (List Str))}(h: ¬c→Sw X t):Sw X (if c then pure none else t):=by
 by_cases q:c
 ·rw[if_pos q];exact Sw.no
 ·rw[if_neg q];exact h q
theorem Lf{α β:Type}{f g:α→Option β}(hfg:∀a b,f a=some b→g a=some b)(l:List α):(l.filterMap f).length=l.length→l.filterMap f=l.filterMap g:=by
 induction l with
 |nil=>exact fun _=>rfl
 |cons a l ih=>
  intro h;haveI hle:(l.filterMap f).length≤l.length:=List.length_filterMap_le _ _;cases q:f a with
  |none=>
   simp only[dA,q]at h
   replace h:(l.filterMap f).length=l.length+1:=h
   simp only[h]at hle;exact absurd hle (Nat.not_succ_le_self _)
  |some b=>
   rw[dA,q]at h ⊢;simp only[dA,hfg a b q];exact congrArg (b:: ·) (ih (Nat.succ.inj h))
set_option tactic.hygienic true in
theorem M2{env:PySem.Env}{xs:List Expr}{c:Nat}{p:Pos}{v:Expr}(hv:Fd v=true):Sw (xs.filterMap YK) (swappedStores [.Tuple xs c p] v env):=by
 cases v with
 |Tuple vs c' p'=>
  unfold swappedStores;refine Sw.ite fun _=>Sw.ite fun _=> ?_;dsimp only;refine Sw.ite fun hlen=> ?_;refine Sw.ite fun hf=> ?_;split
  ·rename_i hca;rw[show Fd (.Tuple vs c' p')=(!(vs.all (constantsAlone 8))||vs.all (foldedForSure 8)) from rfl,hca]at hv
   exact absurd hv hf
  ·refine ⟨_,rfl,fun ns e=> ?_⟩
   (injection e with e;subst e)
   rw[Bool.or_eq_true,bne_iff_ne,ne_eq,not_or,Decidable.not_not]at hlen;refine Lf (fun a b hab=> ?_) xs hlen.1;cases a<;>first|(contradiction;done)|skip
   rename_i id pos;simp only at hab;split at hab
   ·exact hab
   ·exact xns hab
 |_=>exact Sw.no
section
variable{N:Nm}{sc:dQ}{C:Stmt→Prop}{x:Stmt}{mf:Nat}
theorem WM{i:Nat}{e:E}(hm:mS N sc (mf+1) (.asg i e) x=true)(k:∀y p v pos,N.names[i]? =some y→D1 sc y=true→mE N mf sc e v=true→Ck v=true→C (.Assign [.Name y p] v pos)):C x:=
 Ac hm fun v h=>Ac h fun w h=>aW v.2 fun pos e=>An e (aW w.2 fun p e2=>An (C:=fun t=>C (.Assign [t] _ pos)) e2 (k _ p _ pos (eq_of_beq (AC (AC (AC h).1).1).1) (AC (AC (AC h).1).1).2 (AC (AC h).1).2 (AC h).2))
theorem T9{is:List Nat}{e:E}(hm:mS N sc (mf+1) (.asgT is e) x=true)(k:∀xs c p v pos,Mg N sc is xs=true→mE N mf sc e v=true→Fd v=true→Ck v=true→is.Nodup→C (.Assign [.Tuple xs c p] v pos)):C x:=
 Ac hm fun v h=>Ac h fun w h=>aW v.2 fun pos e=>An e (aW w.2 fun c e2=>aW e2 fun p e2=>An (C:=fun t=>C (.Assign [t] _ pos)) e2 (k _ c p _ pos (AC (AC (AC (AC (AC h).1).1).1).1).1 (AC (AC (AC (AC (AC h).1).1).1).1).2 (AC (AC (AC (AC h).1).1).1).2 (AC (AC h).1).2 (of_decide_eq_true (AC h).2)))
theorem UA{o i e:E}(hm:mS N sc (mf+1) (.asgI o i e) x=true)(k:∀a b p v pos,mE N mf sc e v=true→mE N mf sc o a=true→mE N mf sc i b=true→Ck v=true→C (.Assign [.Subscript a b p] v pos)):C x:=
 Ac hm fun v h=>Ac h fun w h=>aW v.2 fun pos e=>An e (aW w.2 fun p e2=>An (C:=fun t=>C (.Assign [t] _ pos)) e2 (k _ _ p _ pos (AC (AC (AC (AC h).1).1).1).1 (AC (AC (AC (AC h).1).1).1).2 (AC (AC (AC h).1).1).2 (AC h).2))
theorem UB{op:Bin}(h:VH op=true):op=.add∨op=.sub:=by
 cases op<;>first|exact .inl rfl|exact .inr rfl|exact xbf h
theorem WN{i:Nat}{op:Bin}{e:E}(hm:mS N sc (mf+1) (.aug i op e) x=true)(k:∀y p v pos,N.names[i]? =some y→D1 sc y=true→mE N mf sc e v=true→(op=.add∨op=.sub)→DS sc y=true→C (.AugAssign (.Name y p) (opr op) v pos)):C x:=
 Ac hm fun v h=>Ac h fun w h=>aW v.2 fun pos e=>An e (aW w.2 fun p e2=>An (C:=fun t=>C (.AugAssign t _ _ pos)) e2 (An (C:=fun o=>C (.AugAssign _ o _ pos)) (Qj (AC (AC (AC (AC h).1).1).1).2)
  (k _ p _ pos (eq_of_beq (AC (AC (AC (AC (AC h).1).1).1).1).1) (AC (AC (AC (AC (AC h).1).1).1).1).2 (AC (AC (AC h).1).1).2 (UB (AC (AC h).1).2) (AC h).2)))
theorem WQ{c:E}{a b:List St}(hm:mS N sc (mf+1) (.ite c a b) x=true)(k:∀t xa xb pos,mE N mf sc c t=true→GR (mS N sc mf) a xa=true→GR (mS N sc mf) b xb=true→C (.If t xa xb pos)):C x:=
 Ac hm fun v h=>aW v.2 fun pos e=>An e (k _ _ _ pos (AC (AC h).1).1 (AC (AC h).1).2 (AC h).2)
theorem WU{c:E}{b:List St}(hm:mS N sc (mf+1) (.whl c b) x=true)(k:∀t xb pos,mE N mf sc c t=true→GR (mS N sc mf) b xb=true→C (.While t xb [] pos)):C x:=
 Ac hm fun v h=>aW v.2 fun pos e=>An e (k _ _ pos (AC h).1 (AC h).2)
theorem WV{kind:Nat}{tup:Bool}{tgt:List Nat}{iter:E}{b:List St}(hm:mS N sc (mf+1) (.for kind tgt tup iter b) x=true)(k:∀xt xi xb pos,GR (mS N sc mf) b xb=true→Ev N sc tup tgt xt=true→JD N mf sc kind tup iter xi=true→C (.For xt xi xb [] pos)):C x:=
 Ac hm fun v h=>aW v.2 fun pos e=>An e (k _ _ _ pos (AC (AC h).1).1 (AC (AC h).1).2 (AC h).2)
theorem WW{e:E}(hm:mS N sc (mf+1) (.ret e) x=true)(k:∀v pos,mE N mf sc e v=true→C (.Return (some v) pos)):C x:=
 Ac hm fun v h=>aW v.2 fun pos e=>An e (k _ pos h)
theorem WY{e:E}(hm:mS N sc (mf+1) (.exp e) x=true)(k:∀v pos,mE N mf sc e v=true→Ck v=true→C (.Expr v pos)):C x:=
 Ac hm fun v h=>aW v.2 fun pos e=>An e (k _ pos (AC h).1 (AC h).2)
theorem WZ{as:List E}(hm:mS N sc (mf+1) (.rse as) x=true)(k:∀np xs cp p,Af sc "BasicError"=true→Aj (mE N mf sc) as xs=true→C (.Raise (some (.Call (.Name "BasicError" np) xs [] cp)) none p)):C x:=
 Ac hm fun v h=>aW v.2 fun p e=>An e (Bz (C:=fun w=>C (.Raise (some w) none p)) h fun y q xs cp h=>JR (C:=fun y=>C (.Raise (some (.Call (.Name y q) xs [] cp)) none p)) h (k q xs cp p))
theorem KM{tup:Bool}{tgt:List Nat}{xt:Expr}{R:Prop}(h:Ev N sc tup tgt xt=true)(k1:∀i x p,tup=false→tgt=[i]→xt=.Name x p→N.names[i]? =some x→D1 sc x=true→R)(k2:∀xs c p,tup=true→xt=.Tuple xs c p→Mg N sc tgt xs=true→R):R:=by
 cases tup with
 |true=>exact Ac h fun v h=>aW v.2 fun c e=>aW e fun p e=>k2 _ c p rfl e h
 |false=>exact Hw (C:=fun w=>(∀i,w=[i]→((Fb xt).any fun v=>(N.names[i]? ==some v.1)&&D1 sc v.1)=true→R)→R) h (fun i h k=>k i rfl h) fun i e h=>Ac h fun v h=>aW v.2 fun p ep=>k1 i _ p rfl e ep (eq_of_beq (AC h).1) (AC h).2
end
section
variable{B:Bs}{C:Cf B}{y z yL:Pt}{ρ ρ':Loc}{σ σ':AA}{m n mf:Nat}{x:Stmt}{Q:Flow→dG→Prop}
noncomputable def DN (B:Bs) (n:Nat) (st:St) (ρ:Loc) (σ:AA):SR:=match st with
  | .asg i e=>sbnd (ev B.call B.G n e ρ σ) ρ fun d σ=>some (.nxt,AW ρ i (some d),σ)
  | .asgT is e=>sbnd (ev B.call B.G n e ρ σ) ρ fun d σ=>match Av true is (unl σ d) ρ with
   |some ρ=>some (.nxt,ρ,σ)
   |none=>none
  | .asgI o i e=>sbnd (ev B.call B.G n e ρ σ) ρ fun v σ=>sbnd (ev B.call B.G n o ρ σ) ρ fun x σ=>sbnd (ev B.call B.G n i ρ σ) ρ fun k σ=>match Mine.setItem σ x k v with
   |some σ=>some (.nxt,ρ,σ)
   |none=>none
  | .aug i op e=>match ρ[i]? with
   |some (some (.int x))=>sbnd (ev B.call B.G n e ρ σ) ρ fun y σ=>match y with
    | .int _=>sbnd (Bw σ op (.int x) y) ρ fun d σ=>some (.nxt,AW ρ i (some d),σ)
    |_=>none
   |_=>none
  | .ite c a b=>sbnd (ev B.call B.G n c ρ σ) ρ fun d σ=>match d with
   | .bool true=>exs B.call B.G n a ρ σ
   | .bool false=>exs B.call B.G n b ρ σ
   |_=>none
  | .whl c b=>whl (ev B.call B.G n c) (exs B.call B.G n b) 400 ρ σ
  | .for kind tgt tup iter b=>sbnd (ev B.call B.G n iter ρ σ) ρ fun src σ=>CQ kind src tup tgt (exs B.call B.G n b) 400 0 ρ σ
  | .ret e=>sbnd (ev B.call B.G n e ρ σ) ρ fun d σ=>some (.ret d,ρ,σ)
  | .rse as=>exL (TU (evL (fun e σ=>ev B.call B.G n e ρ σ) as σ)) ρ
  | .exp e=>sbnd (ev B.call B.G n e ρ σ) ρ fun _ σ=>some (.nxt,ρ,σ)
  | .brk=>some (.brk,ρ,σ)
  | .junk=>none
theorem RV(st:St)(rest:List St):exs B.call B.G (n+1) (st::rest) ρ σ=seq (DN B n st ρ σ) fun ρ σ=>exs B.call B.G n rest ρ σ:=by
 cases st<;>rfl
theorem UC{d:D}{a b:AA→SR}(h:WS C y Q (match d with| .bool true=>a σ| .bool false=>b σ|_=>none)):∃t,d=.bool t:=by
 cases d with
 |bool t=>exact ⟨t,rfl⟩
 |_=>exact aY h
theorem RW{d:D}{a b:AA→SR}(h:WS C y Q (match d with| .bool false=>a σ| .bool true=>b σ|_=>none)):∃t,d=.bool t:=by
 cases d with
 |bool t=>exact ⟨t,rfl⟩
 |_=>exact aY h
theorem Wa{o:Option Loc}(h:WS C y Q (match o with|some ρ=>some (.nxt,ρ,σ)|none=>none)):∃ρ',o=some ρ'∧WS C y Q (some (.nxt,ρ',σ)):=by
 cases o with
 |some ρ=>exact ⟨ρ,rfl,h⟩
 |none=>exact aY h
theorem Wb{o:Option AA}(h:WS C y Q (match o with|some σ=>some (.nxt,ρ,σ)|none=>none)):∃σ',o=some σ'∧WS C y Q (some (.nxt,ρ,σ')):=by
 cases o with
 |some ρ=>exact ⟨ρ,rfl,h⟩
 |none=>exact aY h
theorem Wc{o:Option (List Nat×AA)}(I:In C y ρ σ)(h:WS C y Q (exL o ρ)):WX C y o:=by
 match o,h with
 |some (c,σ1),h=>exact Xk.ws I h
theorem Wd(H:BO B n)(c:C.OkS){i:Nat}{e:E}(hm:mS B.N C.sc (mf+1) (.asg i e) x=true)(I:In C y ρ σ)(h:WS C y Q (DN B n (.asg i e) ρ σ)):ExG C Q y x:=
 WM hm fun _ p v pos h1 h2 h3 h4=>wpAny_Assign_Name (H c.toOk h3 I (WS.sbnd I h fun d σ1 vv z l I V h=>EL c.toOk I c.own h1 h2 V fun h' tk I' _ f=>h _ f I')) (EN h4)
theorem H0(c:C.OkS){is:List Nat}{xs:List Str}(TG:Tg B.N.names C.sc is xs)(hn:is.Nodup)(I:In C y ρ σ){ds:List D}{vs:List dF}{h:Heap}(hl:is.length=ds.length)(he:Heap.ExtBut y.s.heap.objs.size y.s.heap h)(V:AE B.P y.μ y.s.heap vs ds)(hq:WS C y Q (some (.nxt,Ba ρ (is.zip ds),σ))):
  dH (model B.P.prog B.P.w) C.A (assignInOrder (xs.reverse.map fun n=>bindName C.env n) vs.reverse) (fun _=>Q .next) C.Er {y.s with heap:=h}:=by
 haveI l:=Pt.le.keeps (T8 he) y.s.toks;haveI rev:∀{vs:List dF} {ds:List D},AE B.P y.μ h vs ds→AE B.P y.μ h vs.reverse ds.reverse:=by
  intro vs
  induction vs with
  |nil=>intro ds H;cases ds with
   |nil=>exact .nil
   |cons=>refine aW H.cons_inv fun _ __q=> ?_;refine aW __q fun _ __q=> ?_;haveI e:=__q.1;contradiction
  |cons v vs ih=>intro ds H;cases H with
   |cons a b=>simp only[bw,bw];exact (ih b).append (.one a)
 haveI hz:is.reverse.zip ds.reverse=(is.zip ds).reverse:=by
  clear V hq TG hn
  induction is generalizing ds with
  |nil=>cases ds with
   |nil=>rfl
   |cons=>contradiction
  |cons i is ih=>cases ds with
   |nil=>contradiction
   |cons d ds=>
    rw[bw,bw,List.zip_append (by rw[cF,cF];exact Nat.succ.inj hl),ih (Nat.succ.inj hl),show (i::is).zip (d::ds)=(i,d)::is.zip ds from rfl,bw]
    rfl
 refine Ld (y:=y.to h y.s.toks) c.toOk c.own TG.rev (CZ.bind _ _ _ _) (I.up l (I.sto.keeps (T8 he))) (by simp only[cF,cF];exact hl) (rev (V.up l)) fun h2 tk I2 f=> ?_
 rw[hz,M1 _ _ (by rw[List.map_fst_zip (cI hl)];exact hn)]at I2
 exact hq _ ((Fw.le l).trans f) I2
theorem UD(H:BO B n)(c:C.OkS){is:List Nat}{e:E}(hm:mS B.N C.sc (mf+1) (.asgT is e) x=true)(I:In C y ρ σ)(h:WS C y Q (DN B n (.asgT is e) ρ σ)):ExG C Q y x:=
 T9 hm fun xs cx p v pos h1 h2 h3 h5 h6=>aW (M2 (env:=C.env) (xs:=xs) (c:=cx) (p:=p) h3) fun o ho=>by
  have main:∀Q1:dF→dG→Prop,(∀d σ1 ρ1 vv z,In C z ρ σ1→AH B.P z.μ z.s.heap vv d→Av true is (unl σ1 d) ρ=some ρ1→WS C z Q (some (.nxt,ρ1,σ1))→Q1 vv z.s)→dH (model B.P.prog B.P.w) C.A (eval v C.env) Q1 C.Er y.s:=fun Q1 k=>H c.toOk h2 I (WS.sbnd I h fun d σ1 vv z l I V h=>aW (Wa h) fun ρ1 q=>k d σ1 ρ1 vv z I V q.1 q.2);cases o with
  |none=>exact Assign_Tuple (main _ fun d σ1 ρ1 vv z I V hb h=>GY c.toOk h1 c.own I V hb fun h' tk I' f=>h _ f I') (by unfold swapsWithSole;exact EN h5) ho.1
  |some ns=>
   refine Assign_Tuple_swapped (main _ fun d σ1 ρ1 vv z I V hb h=> ?_) (by unfold swapsWithSole;exact EN h5) ho.1
   refine aW (Hy is h1) fun ys q=> ?_;rw[ho.2 ns rfl,q.2.2.2.2];refine VN hb (fun ds e hl he=> ?_) fun i l e hi hl he=> ?_
   ·subst e he;apply V.tup_e;intro a o vs j ha hcl hd _ _ hv;rw[←q.1.len,hl,←hv.length,show vs.length=vs.toArray.size from rfl]
    exact unpackItems_tuple c.hc.handled ⟨_,ha,hcl,_,hd⟩ fun h' hk=>H0 c q.1 h6 I hl hk hv h
   ·subst e he;apply V.loc_e;intro a ei;refine AQ.lst_e (I.sto.cell _ _ _ ei hi) fun vs c' ha _ hv=> ?_;rw[←q.1.len,hl,←hv.length,show vs.length=vs.toArray.size from rfl]
    exact PySem.W.kun_itemsOf c.hc.handled ⟨_,ha,rfl,_,rfl⟩ fun h' hk=>H0 c q.1 h6 I hl hk hv h
theorem UE(H:BO B n)(c:C.OkS){o i e:E}(hm:mS B.N C.sc (mf+1) (.asgI o i e) x=true)(I:In C y ρ σ)(h:WS C y Q (DN B n (.asgI o i e) ρ σ)):ExG C Q y x:=
 UA hm fun a b p v pos h1 h2 h3 h5=>wpAny_Assign_Subscript (H c.toOk h1 I (WS.sbnd I h fun d σ1 v1 z1 l1 I1 V1 h=>H c.toOk h2 I1 (WS.sbnd I1 h fun d2 σ2 v2 z2 l2 I2 V2 h=>H c.toOk h3 I2 (WS.sbnd I2 h fun d3 σ3 v3 z3 l3 I3 V3 h=>
  aW (Wb h) fun σ4 q=>My q.1 I3.sto (V2.up l3) V3 (V1.up (l2.trans l3)) fun h4 tk4 x4 S4=>
   haveI l4:z3.le (z3.to h4 tk4):=⟨[],h4,tk4,by rw[af],x4⟩
   q.2 _ (Fw.le l4) (I3.up l4 S4))))) (EN h5)
theorem YL{i:Nat}{op:Bin}{e:E}{R:Prop}(h:WS C y Q (DN B n (.aug i op e) ρ σ))(k:∀z,ρ[i]? =some (some (.int z))→WS C y Q (sbnd (ev B.call B.G n e ρ σ) ρ fun y σ=>match y with
    | .int _=>sbnd (Bw σ op (.int z) y) ρ fun d σ=>some (.nxt,AW ρ i (some d),σ)
    |_=>none)→R):R:=by
 replace h:WS C y Q (match ρ[i]? with
   |some (some (.int x))=>sbnd (ev B.call B.G n e ρ σ) ρ fun y σ=>match y with
    | .int _=>sbnd (Bw σ op (.int x) y) ρ fun d σ=>some (.nxt,AW ρ i (some d),σ)
    |_=>none
   |_=>none):=h
 cases hd:ρ[i]? with
 |none=>rw[hd]at h;exact aY h
 |some od=>cases od with
  |none=>rw[hd]at h;exact aY h
  |some d=>cases d with
   |int z=>rw[hd]at h;exact k z hd h
   |_=>simp only[hd]at h;exact aY h
theorem We(H:BO B n)(c:C.OkS){i:Nat}{op:Bin}{e:E}(hm:mS B.N C.sc (mf+1) (.aug i op e) x=true)(I:In C y ρ σ)(h:WS C y Q (DN B n (.aug i op e) ρ σ)):ExG C Q y x:=
 YL h fun w hw h=>WN hm fun _ p v pos h1 h2 h4 h5 h6=>wpAny_AugAssign_Name (JU c.hs I.fr h1 h6 hw fun v0 hv0=>by
  apply hv0.int_e;intro t0;refine H c.toOk h4 I (WS.sbnd I h fun d σ1 vv z l I V h=> ?_);cases d with
  |int u=>
   apply V.int_e;intro t1;haveI fin:∀r:Int,Bw σ1 op (.int w) (.int u)=Ab (.int r) σ1→dH (model B.P.prog B.P.w) C.A (storeName C.env _ (.int r z.s.toks)) (fun _=>Q .next) C.Er {z.s with toks:=z.s.toks+1}:=fun r e=>by
    replace h:WS C z Q (Mine.sbnd (Bw σ1 op (.int w) (.int u)) ρ fun d σ=>some (.nxt,AW ρ i (some d),σ)):=h
    rw[e]at h;haveI l2:z.le (z.to z.s.heap (z.s.toks+1)):=Pt.le.keeps (AN.refl _) _;exact EL (y:=z.to z.s.heap (z.s.toks+1)) c.toOk (I.up l2 I.sto) c.own h1 h2 (.int _ _) fun h' tk I' _ f=>h _ ((Fw.le l2).trans f) I'
   refine Or.elim h5 (fun e=> ?_) fun e=> ?_
   ·subst e;exact AutoIntOps.iadd_0 (fin _ rfl)
   ·subst e;exact AutoIntOps.isub_0 (fin _ rfl)
  |_=>exact aY h)
theorem Wf(T:EJ B n)(X:Fk B n)(c:C.OkS){e:E}{a b:List St}(hm:mS B.N C.sc (mf+1) (.ite e a b) x=true)(I:In C y ρ σ)(h:WS C y Q (DN B n (.ite e a b) ρ σ)):ExG C Q y x:=
 WQ hm fun t xa xb pos h1 h2 h3=>wpAny_If (T c.toOk h1 I (WS.test I h (fun d σ h=>UC (a:=exs B.call B.G n a ρ) (b:=exs B.call B.G n b ρ) h) fun t σ1 z l I h=>by
  cases t with
  |true=>exact X c h2 I h
  |false=>exact X c h3 I h))
theorem Wg(T:EJ B n)(X:Fk B n)(c:C.OkS){e:E}{b:List St}(hm:mS B.N C.sc (mf+1) (.whl e b) x=true)(I:In C y ρ σ)(h:WS C y Q (DN B n (.whl e b) ρ σ)):ExG C Q y x:=
 WU hm fun t xb pos h1 h2=>wpAny_While (codeAny_whileLoop (fun j s'=>Ex3 fun z ρ1 σ1=>A3 (s'=z.s) (In C z ρ1 σ1) (WS C z Q (whl (ev B.call B.G n e) (exs B.call B.G n b) j ρ1 σ1))) (fun j s' w=>by
  obtain ⟨z,ρ1,σ1,e,I1,h⟩:=w;subst e;refine du c.pass ?_;cases j with
  |zero=>exact aY h
  |succ j=>
   refine T c.toOk h1 I1 (WS.test I1 h (fun d σ h=>RW (a:=fun σ=>some (.nxt,ρ1,σ)) (b:=fun σ=>OS (exs B.call B.G n b ρ1 σ) (whl (ev B.call B.G n e) (exs B.call B.G n b) j)) h) fun t σ2 z2 l I2 h=> ?_);cases t with
   |false=>exact wpAny_execs_nil (h z2 (.refl _) I2)
   |true=>exact du c.pass (X c h2 I2 (WS.loop (.refl z2) (k:=whl (ev B.call B.G n e) (exs B.call B.G n b) j) h (fun ρ3 σ3 z3 f I3 h=>⟨j,cj j,z3,ρ3,σ3,rfl,I3,WS.fw f h⟩) (fun _ h=>h) fun _ _ h=>h))) 400 ⟨y,ρ,σ,rfl,I,h⟩)
theorem Po(c:C.OkS){tup:Bool}{tgt:List Nat}{xt:Expr}(ht:Ev B.N C.sc tup tgt xt=true){v:dF}{d:D}(I:In C y ρ σ)(V:AH B.P y.μ y.s.heap v d)(e:Av tup tgt d ρ=some ρ'){Q:Unit→dG→Prop}
  (hq:∀h tk,In C (y.to h tk) ρ' σ→Fw y (y.to h tk)→Q () (y.to h tk).s):dH (model B.P.prog B.P.w) C.A (assign xt C.env v) Q C.Er y.s:=
 KM ht (fun i x p e1 e2 e3 h1 h2=>by
  rw[e1,e2]at e;refine e3▸ ?_
  (injection e with e;subst e)
  exact wpAny_assign_Name (EL c.toOk I c.own h1 h2 V fun h tk I2 _ f=>hq h tk I2 f)) fun xs cx p e1 e2 h1=>by
  rw[e1]at e;refine e2▸ ?_;exact GY c.toOk h1 c.own I V (by
   cases d with
   |tup=>exact e
   |_=>exact xns e) hq
theorem Lg{tup:Bool}{tgt:List Nat}{xt:Expr}(ht:Ev B.N C.sc tup tgt xt=true):Pm tup xt:=
 KM ht (fun i x p e1 _ e3 _ _=>.inl ⟨e1,x,p,e3⟩) fun xs c p _ e2 _=>.inr ⟨xs,c,p,e2⟩
theorem RX{kind:Nat}{src:D}{tup:Bool}{tgt:List Nat}{body:Loc→AA→SR}{j i:Nat}{R:Prop}(h:WS C y Q (CQ kind src tup tgt body (j+1) i ρ σ))(k1:Aa kind src σ i=some none→WS C y Q (some (.nxt,ρ,σ))→R)
  (k2:∀d ρ3,Aa kind src σ i=some (some d)→Av tup tgt d ρ=some ρ3→WS C y Q (OS (body ρ3 σ) (CQ kind src tup tgt body j (i+1)))→R):R:=by
 replace h:WS C y Q (match Aa kind src σ i with
  |none=>none
  |some none=>some (.nxt,ρ,σ)
  |some (some d)=>match Av tup tgt d ρ with
   |none=>none
   |some ρ=>OS (body ρ σ) (CQ kind src tup tgt body j (i+1))):=h
 cases q:Aa kind src σ i with
 |none=>simp only[q]at h;exact aY h
 |some o=>cases o with
  |none=>rw[q]at h;exact k1 q h
  |some d=>
   rw[q]at h;dsimp only at h;cases q2:Av tup tgt d ρ with
   |none=>rw[q2]at h;exact aY h
   |some ρ3=>rw[q2]at h;exact k2 d ρ3 q q2 h
theorem Wh{kind:Nat}{src:D}{tup:Bool}{tgt:List Nat}{body:Loc→AA→SR}{j:Nat}(h:WS C y Q (CQ kind src tup tgt body (j+1) 0 ρ σ)):Aa kind src σ 0≠none:=
 RX h (fun e _ q=>by rw[q]at e;exact xns e) fun d _ e _ _ q=>by rw[q]at e;exact xns e
theorem Pp(X:Fk B n)(c:C.OkS){kind:Nat}{src:D}{it:dF}{tup:Bool}{tgt:List Nat}{b:List St}{xt:Expr}{xb:List Stmt}(hk:kind=2→tup=true)(ht:Ev B.N C.sc tup tgt xt=true)(hb:GR (mS B.N C.sc mf) b xb=true)(l0:C.y0.le yL)
  (l:yL.le y) (I:In C y ρ σ) (H:Ci B.P y.μ yL.s.heap y.s.heap kind src it 0) (h:WS C yL Q (CQ kind src tup tgt (exs B.call B.G n b) 400 0 ρ σ)):codeAny (model B.P.prog B.P.w) C.A (.forLoop xt it xb [] C.env) (fun r s'=>match r with| .ok f=>Q f s'| .error e=>cameBackBy (model B.P.prog B.P.w) C.A C.env C.Er e s') y.s:=by
 refine codeAny_forLoop_any (fun j s'=>Ex4 fun z ρ1 σ1 i=>A5 (s'=z.s) (In C z ρ1 σ1) (Fw yL z) (Ci B.P z.μ yL.s.heap z.s.heap kind src it i) (WS C yL Q (CQ kind src tup tgt (exs B.call B.G n b) j i ρ1 σ1))) (fun j s' w=> ?_) 400 ⟨y,ρ,σ,0,rfl,I,Fw.le l,H,h⟩;obtain ⟨z,ρ1,σ1,i,e,I1,F1,R1,h⟩:=w;subst e;refine du c.pass ?_;cases j with
 |zero=>exact aY h
 |succ j=>
  refine RX h (fun hit h=>Le c.toOk l0 I1 F1 R1 hit fun h3 I3 F3=> ?_) fun d ρ3 hit hbd h=>JZ l0 I1 F1 R1 hit hk (Lg ht) fun v h3 tk kk=> ?_
  ·exact du c.pass (wpAny_execs_nil (h _ F3 I3))
  ·exact du c.pass (kk _ _ fun h4 I4 F4 R4 V4=>du c.pass (Po c ht I4 V4 hbd fun h5 tk5 I5 f5=>du c.pass (X c hb I5 (WS.loop (k:=CQ kind src tup tgt (exs B.call B.G n b) j (i+1)) (F4.trans f5) h (fun ρ6 σ6 z6 f6 I6 h=>⟨j,cj j,z6,ρ6,σ6,i+1,rfl,I6,(F4.trans f5).trans f6,(R4.fw f5).fw f6,h⟩) (fun _ h=>h) fun _ _ h=>h))))
theorem Wi(K:B.Ok)(H:BO B n)(X:Fk B n)(c:C.OkS){kind:Nat}{tup:Bool}{tgt:List Nat}{iter:E}{b:List St}(hm:mS B.N C.sc (mf+1) (.for kind tgt tup iter b) x=true)(I:In C y ρ σ)(h:WS C y Q (DN B n (.for kind tgt tup iter b) ρ σ)):ExG C Q y x:=
 WV hm fun xt xi xb pos h1 h2 h3=>wpAny_For (Hz K H c.toOk h3 I (WS.sbndR I h fun src σ1 h=>⟨Wh h,fun it z l I' R=>Pp X c (fun e=>Ha (C:=fun _=>tup=true) h3 (fun q _ _=>by rw[e]at q;contradiction) (fun q _ _ _ _ _=>by rw[e]at q;contradiction) fun _ q _ _ _ _ _=>q) h2 h1 I.since l I' R h⟩)) (Ja h3)
end
section
variable{B:Bs}{C:Cf B}{y z yL:Pt}{ρ ρ':Loc}{σ σ':AA}{m n mf:Nat}{x:Stmt}{Q:Flow→dG→Prop}
theorem YM(K:B.Ok)(RA:Fl B)(H:BO B n)(T:EJ B n)(X:Fk B n)(c:C.OkS){st:St}(hm:mS B.N C.sc (mf+1) st x=true)(I:In C y ρ σ)(h:WS C y Q (DN B n st ρ σ)):ExG C Q y x:=by
 cases st with
 |asg=>exact Wd H c hm I h
 |asgT=>exact UD H c hm I h
 |asgI=>exact UE H c hm I h
 |aug=>exact We H c hm I h
 |ite=>exact Wf T X c hm I h
 |whl=>exact Wg T X c hm I h
 |«for»=>exact Wi K H X c hm I h
 |ret e=>exact WW hm fun v pos h1=>wpAny_Return_some (H c.toOk h1 I (WS.sbnd I h fun d σ1 vv z l I V h=>h vv z I V))
 |rse as=>exact WZ hm fun np xs cp p h1 h2=>RA n H c.toOk h1 h2 I (Wc I h)
 |exp e=>exact WY hm fun v pos h1 h2=>wpAny_Expr_any (H c.toOk h1 I (WS.sbnd I h fun d σ1 vv z l I V h=>h z (.refl z) I)) (by unfold interactive;rw[I.fr.kind];rfl) (EN h2)
 |brk=>exact aW (cJ.mp hm) fun v _=>aW v.2 fun pos e=>An e (wpAny_Break (h y (.refl y) I))
 |junk=>exact aY h
theorem RY(K:B.Ok)(RA:Fl B)(H:BO B n)(T:EJ B n)(X:Fk B n):Fk B (n+1):=by
 intro C mf b xs ρ σ y Q c hm I h;cases b with
 |nil=>cases xs with
  |nil=>exact wpAny_execs_nil (h y (.refl y) I)
  |cons=>exact xbf hm
 |cons st rest=>cases xs with
  |nil=>exact xbf hm
  |cons x xs=>cases mf with
   |zero=>cases (AC hm).1
   |succ mf=>
    simp only[RV]at h;exact wpAny_execs_cons (YM K RA H T X c (AC hm).1 I (WS.seq h (fun ρ1 σ1 z f I h=>X c (AC hm).2 I h) (fun _ h=>h) fun _ _ h=>h))
theorem UF(K:B.Ok)(RA:Fl B)(HE:∀n,BO B n∧EJ B n)(n:Nat):Fk B n:=by
 induction n with
 |zero=>exact fun _ _ _ h=>aY h
 |succ n ih=>exact RY K RA (HE n).1 (HE n).2 ih
end
section
variable{prog:dP}{w:dN}{A:dJ}{R:Result→dG→Prop}{s:dG}
theorem Pq{elt target iter:Expr}{ifs:List Expr}{scope:dQ}{pos:Pos}{it acc:dF}{env:PySem.Env}(I:Nat→dG→Prop)
  (turn:∀n s,I n s→dH (model prog w) A (pyNext it) (fun r s₁=>match r with
   |none=>R (.ok .next) s₁
   |some v=>dH (model prog w) A (letOwnedTupleGo target it v) (fun _ s₁'=>dH (model prog w) A (assign target env v) (fun _ s₂=>
     dH (model prog w) A (forIn ifs true fun c r=>if r=true then do let ok ←isTrue c env (eval c env);pure (ForInStep.yield ok) else pure (ForInStep.yield r)) (fun ok s₃=>
      if ok=true then dH (model prog w) A (eval elt env) (fun x s₄=>
       dH (model prog w) A (PySem.call (.builtin "list.append") [acc,x]) (fun _ s₅=> ∃m,m<n∧I m s₅) (notedBy (model prog w) A env fun e s'=>R (.error e) s') s₄) (notedBy (model prog w) A env fun e s'=>R (.error e) s') s₃
      else ∃m,m<n∧I m s₃) (notedBy (model prog w) A env fun e s'=>R (.error e) s') s₂) (notedBy (model prog w) A env fun e s'=>R (.error e) s') s₁') (notedBy (model prog w) A env fun e s'=>R (.error e) s') s₁) (notedBy (model prog w) A env fun e s'=>R (.error e) s') s)
  (n:Nat) (h:I n s):
  codeAny (model prog w) A (.compLoop (.ListComp elt [⟨target,iter,ifs,0⟩] scope pos) 0 it acc env) R s:=by
 refine codeAny_loop rfl I (fun n s hI=> ?_) n h
 show dH _ A ((compTurn (.ListComp elt [⟨target,iter,ifs,0⟩] scope pos) 0 it acc env).onRaise (fun x=>do noteFrame x env;theTreesLotGoes x)) _ _ s
 refine wpAny_noted ?_;rw[compTurn_list];refine dI (dZ (dI (db (turn n s hI) (fun r s₁ h₁=> ?_) fun _ _ h'=>h')));cases r with
 |none=>exact dL h₁
 |some v=>
  refine dI (db h₁ (fun _ s₁' h₁'=> ?_) fun _ _ h'=>h');refine dI (db h₁' (fun _ s₂ h₂=>dI (db h₂ (fun ok s₃ h₃=> ?_) fun _ _ h'=>h')) fun _ _ h'=>h');cases ok with
  |false=>exact dL ⟨rfl,h₃⟩
  |true=>
   exact dI (dI (db h₃ (fun x s₄ h₄=>dI (db h₄ (fun _ s₅ h₅=>dL (dL ⟨rfl,h₅⟩)) fun _ _ h'=>h')) fun _ _ h'=>h'))
end
theorem FM(env:PySem.Env)(f:Str×dX→List (Str×Addr)→Sem (ForInStep (List (Str×Addr))))(hf:∀name kind acc,f (name,kind) acc=if kind== .free then (do let c ←cellOf env name;pure (.yield ((name,c)::acc))) else pure (.yield acc)):
  ∀(l:List (Str×dX)) (acc:List (Str×Addr)),(∀p∈l,p.2=.free→∃c,env.cells.lookup p.1=some c)→(∀x c,acc.lookup x=some c→env.cells.lookup x=some c)→
  ∃cl,(forIn l acc f:Sem (List (Str×Addr)))=pure cl∧(∀x c,cl.lookup x=some c→env.cells.lookup x=some c)∧(∀x,((x,NameKind.free)∈l∨(acc.lookup x).isSome=true)→(cl.lookup x).isSome=true)
 | [],acc,_,ha=>⟨acc,rfl,ha,fun x h=>h.elim (fun q=>by contradiction) id⟩
 |(y,kd)::l,acc,hc,ha=>by
  by_cases hk:(kd==NameKind.free)=true
  ·have hk':kd=.free:=by cases kd<;>first|rfl|(exact xbf hk)
   obtain ⟨c,hcy⟩:=hc (y,kd) (.head _) hk';obtain ⟨cl,e1,e2,e3⟩:=FM env f hf l ((y,c)::acc) (fun p hp=>hc p (.tail _ hp)) (fun x c' h=>by
    rw[bq]at h;cases q:(x==y) with
    |true=>rw[q]at h;(injection h with h;subst h);rw[eq_of_beq q];exact hcy
    |false=>rw[q]at h;exact ha x c' h)
   refine ⟨cl,?_,e2,fun x h=>e3 x ?_⟩
   ·rw[List.forIn_cons,hf,if_pos hk];unfold cellOf;rw[hcy]
    simpa using e1
   ·by_cases q:x=y
    ·subst q;right;rw[bq];simp
    ·rcases h with h|h
     ·rcases aj.mp h with e|h
      ·(injection e with h91 h92;subst h91;subst h92);exact absurd rfl q
      ·exact .inl h
     ·right
      rw[bq];have:(x==y)=false:=by simpa using q
      rw[this];exact h
  ·obtain ⟨cl,e1,e2,e3⟩:=FM env f hf l acc (fun p hp=>hc p (.tail _ hp)) ha;refine ⟨cl,?_,e2,fun x h=>e3 x ?_⟩
   ·rw[List.forIn_cons,hf,if_neg hk]
    simpa using e1
   ·rcases h with h|h
    ·rcases aj.mp h with e|h
     ·(injection e with h91 h92;subst h91;subst h92);exact absurd rfl hk
     ·exact .inl h
    ·exact .inr h
theorem H1(env:PySem.Env)(csc:dQ)(hc:∀p∈csc.names,p.2=.free→∃c,env.cells.lookup p.1=some c):
  ∃cl,closureFor csc env=pure cl∧(∀x c,cl.lookup x=some c→env.cells.lookup x=some c)∧(∀x,(x,NameKind.free)∈csc.names→(cl.lookup x).isSome=true):=by
 obtain ⟨cl,e1,e2,e3⟩:=FM env (fun p cs=>if p.2==NameKind.free then (do let c ←cellOf env p.1;pure (.yield ((p.1,c)::cs))) else pure (.yield cs)) (fun _ _ _=>rfl) csc.names [] hc (fun x c h=>by simp at h)
 refine ⟨cl,?_,e2,fun x h=>e3 x (.inl h)⟩;unfold closureFor;simp only[];rw[←e1];simp only[bind_pure]
noncomputable def EO (ρ:Loc) (is:List Nat):Loc:=is.foldl (fun ρ i=>AW ρ i none) ρ
set_option tactic.hygienic true in
theorem Gb:∀(is:List Nat) (ρ:Loc) (j:Nat) (d:D),(EO ρ is)[j]? =some (some d)→ρ[j]? =some (some d)∧j∉is
 | [],ρ,j,d,h=>⟨h,fun q=>by contradiction⟩
 |i::is,ρ,j,d,h=>by
  obtain ⟨h1,h2⟩:=Gb is (AW ρ i none) j d h;rw[Bx]at h1;split at h1
  ·cases h1
  ·rename_i hn;refine ⟨h1,fun q=> ?_⟩
   rcases aj.mp q with rfl|q
   ·exact hn ⟨rfl,(ap.mp h1).1⟩
   ·exact h2 q
section
variable{P:PI}{N:Nm}{μ ν:List Addr}{σ:AA}{env:PySem.Env}{ρ:Loc}{sc csc:dQ}{h:Heap}
theorem EP{x:Str}:∀(l:List (Str×dX)),(l.map fun (n,k)=>if (k== .free&&env.scope.kind== .function&&env.kindOf n==some .cell) then (n,NameKind.cell) else (n,k)).lookup x=
  (match l.lookup x with|some .free=>if (env.scope.kind== .function&&env.kindOf x==some .cell) then some .cell else some .free|o=>o)
 | []=>rfl
 |(y,kd)::l=>by
  rw[an,bq,bq];cases q:(x==y) with
  |true=>
   have e:=eq_of_beq q;subst e;by_cases hc:(kd== .free&&env.scope.kind== .function&&env.kindOf x==some .cell)=true
   ·simp only[hc,if_true];rw[aw,aw]at hc;have hk:kd=.free:=by cases kd<;>first|rfl|(cases hc.1.1)
    subst hk;simp[hc.1.2,hc.2]
   ·simp only[hc,if_false];cases kd<;>simp at hc ⊢;intro a b;exact absurd b (hc a)
  |false=>
   rw[←EP l];by_cases hc:(kd== .free&&env.scope.kind== .function&&env.kindOf y==some .cell)=true
   ·simp only[hc,if_true,q]
   ·simp only[hc,if_false,q,Bool.false_eq_true]
theorem BG{tgt:List Nat}(hk:ED N sc csc tgt=true){x:Str}{kd:dX}(hm:(x,kd)∈csc.names):kd≠ .cell∧(kd=.local→csc.names.lookup x=some .local∧(x=(".0":Str)∨ ∃i∈tgt,N.names[i]? =some x))∧(kd=.free→sc.names.lookup x=some .cell∨sc.names.lookup x=some .free):=by
 haveI:=ao.mp hk (x,kd) hm;simp only[aw,Bool.or_eq_true,cV]at this;obtain ⟨⟨h1,h2⟩,h3⟩:=this;refine ⟨(fun q=>by subst q;contradiction),fun q=> ?_,fun q=> ?_⟩
 ·subst q
  rcases h2 with h2|⟨h2,h4⟩
  ·contradiction
  ·refine ⟨?_,?_⟩
   ·revert h2;cases csc.names.lookup x with
    |none=>simp
    |some k=>cases k<;>simp
   ·rcases h4 with h4|h4
    ·exact .inl (eq_of_beq h4)
    ·obtain ⟨i,hi,e⟩:=cQ.mp h4;exact .inr ⟨i,hi,eq_of_beq e⟩
 ·subst q
  rcases h3 with h3|h3
  ·contradiction
  ·unfold ED.isOwnFree at h3;revert h3;cases sc.names.lookup x with
   |none=>simp
   |some k=>cases k<;>simp
theorem FR.comp{cenv:PySem.Env}{cl:List (Str×Addr)}{tgt:List Nat}{m:Str→Option dF}(F:FR P μ N.names env ρ h)(hs:ScR sc env)(hk:ED N sc csc tgt=true)(hfun:csc.kind=.function)(h0:∀i:Nat,N.names[i]? ≠some (".0":Str))
  (e1:cenv.scope=relabel csc env) (e2:cenv.globals=env.globals) (e3:cenv.builtins=env.builtins) (e4:cenv.cells=cl) (e5:cenv.code=env.code) (hns:h.Ns cenv.locals m) (hoff:cenv.locals∉μ∧P.hb.get? cenv.locals=none)
  (hcl:∀x c,cl.lookup x=some c→env.cells.lookup x=some c) (hcl2:∀x,(x,NameKind.free)∈csc.names→(cl.lookup x).isSome=true):FR P μ N.names cenv (EO ρ tgt) h∧ScR csc cenv:=by
 have kd:∀x,cenv.kindOf x=(match csc.names.lookup x with|some .free=>if (env.scope.kind== .function&&env.kindOf x==some .cell) then some .cell else some .free|o=>o):=fun x=>by
  show cenv.scope.names.lookup x=_
  rw[e1];exact EP csc.names
 have seen:∀x,(cenv.kindOf x=some .cell∨cenv.kindOf x=some .free)→(x,NameKind.free)∈csc.names:=fun x hx=>by
  rw[kd x]at hx;cases q:csc.names.lookup x with
  |none=>rw[q]at hx;simp at hx
  |some k=>
   have hm:=mem_of_lookup q;cases k<;>first|exact hm|(rw[q]at hx;simp at hx;done)|exact absurd rfl (BG hk hm).1
 have outer:∀x,(x,NameKind.free)∈csc.names→env.kindOf x=some .cell∨env.kindOf x=some .free:=fun x hm=>by
  rcases (BG hk hm).2.2 rfl with q|q
  ·rcases hs x with e|⟨e,_⟩
   ·exact .inl (e.trans q)
   ·rw[q]at e;contradiction
  ·rcases hs x with e|⟨_,e⟩
   ·exact .inr (e.trans q)
   ·exact .inl e
 refine ⟨⟨by rw[e1];exact hfun,e2.trans F.glob,e3.trans F.bi,⟨m,hns⟩,hoff,fun x c e=>F.cells x c (hcl x c (e4▸e)),fun x hx=> ?_,fun x y c a b=>F.apart x y c (hcl x c (e4▸a)) (hcl y c (e4▸b)),F.nodup,(fun c T j q=>e5.trans (F.code c T j q)),fun i x d hx hd hv=> ?_⟩,fun x=> ?_⟩
 ·rw[e4];exact cJ.mp (hcl2 x (seen x hx))
 ·obtain ⟨hd1,hd2⟩:=Gb tgt ρ i d hd
  rcases hv with hv|hv
  ·exfalso
   rw[kd x]at hv;have hl:csc.names.lookup x=some .local:=by
    cases q:csc.names.lookup x with
    |none=>rw[q]at hv;exact xns hv
    |some k=>
     rw[q]at hv;cases k<;>first|rfl|(simp at hv;done)|(dsimp only[]at hv;split at hv<;>contradiction)
   rcases ((BG hk (mem_of_lookup hl)).2.1 rfl).2 with q|⟨j,hj,q⟩
   ·exact h0 i (q▸hx)
   ·exact hd2 (JW F.nodup hx q▸hj)
  ·have hm:=seen x hv;have ho:=outer x hm;obtain ⟨v,hvd,hh⟩:=F.var i x d hx hd1 (.inr ho);refine ⟨v,hvd,.inr ⟨hv,?_⟩⟩;obtain ⟨c,hc⟩:=cJ.mp (hcl2 x hm)
   rcases hh with ⟨k,_⟩|⟨_,c',hc',hcv⟩
   ·rcases ho with ho|ho<;>rw[k]at ho<;>contradiction
   ·have:=hcl x c hc;rw[hc']at this
    (injection this with this;subst this)
    exact ⟨_,e4▸hc,hcv⟩
 ·rw[kd x];cases q:csc.names.lookup x with
  |none=>exact .inl rfl
  |some k=>
   cases k<;>first|exact .inl rfl|skip
   dsimp only[];split
   ·exact .inr ⟨rfl,rfl⟩
   ·exact .inl rfl
end
theorem Gc:∀(is:List Nat) (ρ:Loc),(EO ρ is).length=ρ.length
 | [],_=>rfl
 |i::is,ρ=>(Gc is _).trans (Ct _ _ _)
theorem Gd:∀(is:List Nat) (ρ:Loc) (j:Nat),j∉is→(EO ρ is)[j]? =ρ[j]?
 | [],_,_,_=>rfl
 |i::is,ρ,j,h=>by
  rw[aj,not_or]at h
  show (EO (AW ρ i none) is)[j]? =_
  rw[Gd is _ j h.2,Bx,if_neg fun q=>h.1 q.1]
theorem Dm:∀(ps:List (Nat×D)) (ρ ρ':Loc),ρ.length=ρ'.length→(∀j,j∉ps.map (·.1)→ρ[j]? =ρ'[j]?)→Ba ρ ps=Ba ρ' ps
 | [],ρ,ρ',_,h=>List.ext_getElem? fun j=>h j (by simp)
 |p::ps,ρ,ρ',hl,h=>by
  show Ba (AW ρ p.1 (some p.2)) ps=Ba (AW ρ' p.1 (some p.2)) ps
  refine Dm ps _ _ (by rw[Ct,Ct,hl]) fun j hj=> ?_
  rw[Bx,Bx,hl];by_cases q:j=p.1∧p.1<ρ'.length
  ·rw[if_pos q,if_pos q]
  ·rw[if_neg q,if_neg q];by_cases q2:j=p.1
   ·haveI hge: ¬p.1<ρ'.length:=fun z=>q ⟨q2,z⟩;rw[q2,cR (by lia),cR (by lia)]
   ·exact h j (by simp only[an,aj,not_or];exact ⟨q2,hj⟩)
set_option tactic.hygienic true in
theorem M3{tup:Bool}{tgt:List Nat}{d:D}{ρ ρ1:Loc}(h:Av tup tgt d ρ=some ρ1):Av tup tgt d (EO ρ tgt)=some ρ1:=by
 cases tup with
 |false=>
  cases tgt with
  |nil=>exact xns h
  |cons i l=>cases l with
   |cons _ _=>exact xns h
   |nil=>
    simp only[Av]at h ⊢
    (injection h with h;subst h)
    haveI:=Dm [(i,d)] (EO ρ [i]) ρ (Gc _ _) fun j hj=>Gd _ _ _ (by exact hj)
    exact congrArg some this
 |true=>
  cases d<;>first|(simp only[Av]at h;cases h;done)|skip
  rename_i ds;simp only[Av]at h ⊢;split at h
  ·rename_i hl
   (injection h with h;subst h)
   rw[if_pos hl];haveI:=Dm (tgt.zip ds) (EO ρ tgt) ρ (Gc _ _) fun j hj=>Gd _ _ _ (by rwa[List.map_fst_zip (by lia)]at hj)
   exact congrArg some this
  ·exact xns h
section
variable{B:Bs}{C:Cf B}{y z yL:Pt}{ρ ρ':Loc}{σ σ':AA}{m n:Nat}
noncomputable def WT (K:Bool→AA→Prop):Option (Except (List Nat) Bool×AA)→Prop
 |some (.ok b,σ)=>K b σ
 |_=>False
noncomputable def WO (K:AA→Prop):Option AA→Prop
 |some σ=>K σ
 |none=>False
theorem WT.cons{K:Bool→AA→Prop}{Q:Bool→dG→Prop}{ev:E→AA→R}{e:E}{es:List E}(h:WT K (Bg ev (e::es) σ))(k1:∀σ1 z,y.le z→Sto B.P z.μ σ1 z.s.heap→WT K (Bg ev es σ1)→Q true z.s)(k2:∀σ1 z,y.le z→Sto B.P z.μ σ1 z.s.heap→K false σ1→Q false z.s):WB C y Q (ev e σ):=by
 rw[PO]at h;generalize ev e σ=o at h ⊢;revert h;refine R_e o (fun h=>aY h) (fun d σ1 h=> ?_) fun _ _ h=>aY h;cases d with
 |bool t=>cases t with
  |true=>exact ⟨true,rfl,fun z l S=>k1 σ1 z l S h⟩
  |false=>exact ⟨false,rfl,fun z l S=>k2 σ1 z l S h⟩
 |_=>exact aY h
noncomputable def YN (env:PySem.Env) (c:Expr) (r:Bool):Sem (ForInStep Bool):=if r=true then do let ok ←isTrue c env (eval c env);pure (ForInStep.yield ok) else pure (ForInStep.yield r)
theorem Pr{M:dO}{A:dJ}{env:PySem.Env}{Er:dF→dG→Prop}{Q:Bool→dG→Prop}(xs:List Expr)(s:dG)(h:Q false s):dH M A (forIn xs false (YN env)) Q Er s:=by
 induction xs with
 |nil=>simp only[List.forIn_nil];exact dL h
 |cons x xs ih=>
  rw[List.forIn_cons];exact dI (dL ih)
theorem RZ(T:EJ B n)(c:C.Ok){K:Bool→AA→Prop}{Q:Bool→dG→Prop}(es:List E):∀{xs:List Expr} {σ:AA} {y:Pt},Aj (mE B.N m C.sc) es xs=true→In C y ρ σ→WT K (Bg (fun e σ=>ev B.call B.G n e ρ σ) es σ)→(∀b σ' z,y.le z→In C z ρ σ'→K b σ'→Q b z.s)→
  dH (model B.P.prog B.P.w) C.A (forIn xs true (YN C.env)) Q C.Er y.s:=by
 induction es with
 |nil=>
  intro xs σ y hm I h hq;cases xs with
  |nil=>simp only[List.forIn_nil];exact dL (hq true σ y (.refl y) I h)
  |cons=>exact xbf hm
 |cons e es ih=>
  intro xs σ y hm I h hq;cases xs with
  |nil=>exact xbf hm
  |cons x xs=>
   rw[List.forIn_cons];exact dI (dI (T c (AC hm).1 I (WT.cons h (fun σ1 z l S h=>dL (ih (AC hm).2 (I.up l S) h fun b σ' w l2 I2 k=>hq b σ' w (l.trans l2) I2 k)) fun σ1 z l S h=>dL (Pr xs _ (hq false σ1 z l (I.up l S) h)))))
theorem YO{K:AA→Prop}{o:R}{a:Nat}{F:AA→Option AA}{Q1:dF→dG→Prop}(h:WO K (match o with
     |some (.ok x,σ)=>match σ[a]? with
      |some (.lst acc)=>if acc.length<1000 then F (AW σ a (.lst (acc++[x]))) else none
      |_=>none
     |_=>none)) (k:∀d σ1 acc v z,y.le z→Sto B.P z.μ σ1 z.s.heap→AH B.P z.μ z.s.heap v d→σ1[a]? =some (.lst acc)→acc.length<1000→WO K (F (AW σ1 a (.lst (acc++[d]))))→Q1 v z.s):W C y Q1 o:=by
 match o,h with
 |some (.ok d,σ1),h=>
  intro v z l S V;dsimp only at h;cases q:σ1[a]? with
  |none=>rw[q]at h;exact aY h
  |some c=>cases c with
   |lst acc=>
    rw[q]at h;dsimp only at h;by_cases hl:acc.length<1000
    ·rw[if_pos hl]at h;exact k d σ1 acc v z l S V q hl h
    ·rw[if_neg hl]at h;exact aY h
   |_=>simp only[q]at h;exact aY h
theorem Ra{K:AA→Prop}{ev:E→Loc→AA→R}{elt:E}{tgt:List Nat}{tup:Bool}{kind:Nat}{src:D}{ifs:List E}{a j i:Nat}{R:Prop}(h:WO K (B6 ev elt tgt tup kind src ifs a (j+1) i ρ σ))(k1:Aa kind src σ i=some none→K σ→R)
  (k2:∀d ρ3,Aa kind src σ i=some (some d)→Av tup tgt d ρ=some ρ3→WT (fun b σ=>WO K (bif b then (match ev elt ρ3 σ with
     |some (.ok x,σ)=>match σ[a]? with
      |some (.lst acc)=>if acc.length<1000 then B6 ev elt tgt tup kind src ifs a j (i+1) ρ3 (AW σ a (.lst (acc++[x]))) else none
      |_=>none
     |_=>none) else B6 ev elt tgt tup kind src ifs a j (i+1) ρ3 σ)) (Bg (fun e σ=>ev e ρ3 σ) ifs σ)→R):R:=by
 rw[Hg]at h;cases q:Aa kind src σ i with
 |none=>simp only[q]at h;exact aY h
 |some o=>cases o with
  |none=>simp only[q]at h;exact k1 q h
  |some d=>
   rw[q]at h;dsimp only at h;cases q2:Av tup tgt d ρ with
   |none=>simp only[q2]at h;exact aY h
   |some ρ3=>
    rw[q2]at h;refine k2 d ρ3 q q2 ?_;dsimp only at h;generalize Bg (fun e σ=>ev e ρ3 σ) ifs σ=o at h ⊢;revert h;exact J7 o (fun h=>aY h) (fun b σ1=>by cases b<;>exact id) fun _ _ h=>aY h
theorem In.mask(I:In C y ρ σ)(is:List Nat):In C y (EO ρ is) σ:=
 ⟨I.since,I.sto,⟨I.fr.kind,I.fr.glob,I.fr.bi,I.fr.ns,I.fr.off,I.fr.cells,I.fr.closed,I.fr.apart,I.fr.nodup,I.fr.code,fun i x d e1 e2 e3=>I.fr.var i x d e1 (Gb is ρ i d e2).1 e3⟩,I.stk⟩
theorem KO{a:Nat}{acc:Addr}(f:Fw y z)(h:y.μ[a]? =some acc):z.μ[a]? =some acc:=
 aW f.more fun κ e=>by rw[e,bS (ap.mp h).1];exact h
theorem M4(c:C.Ok)(O:Own C.sc C.env C.y0.s.heap){tup:Bool}{tgt:List Nat}{xt:Expr}(ht:Ev B.N C.sc tup tgt xt=true){v:dF}{d:D}(I:In C y ρ σ)(V:AH B.P y.μ y.s.heap v d)(e:Av tup tgt d ρ=some ρ'){Er:dF→dG→Prop}{Q:Unit→dG→Prop}
  (hq:∀h tk,In C (y.to h tk) ρ' σ→Fw y (y.to h tk)→Q () (y.to h tk).s):dH (model B.P.prog B.P.w) C.A (assign xt C.env v) Q Er y.s:=
 KM ht (fun i x p e1 e2 e3 h1 h2=>by
  rw[e1,e2]at e;refine e3▸ ?_
  (injection e with e;subst e)
  exact wpAny_assign_Name (EL c I O h1 h2 V fun h tk I2 _ f=>hq h tk I2 f)) fun xs cx p e1 e2 h1=>by
  rw[e1]at e;refine e2▸ ?_;exact GY c h1 O I V (by
   cases d with
   |tup=>exact e
   |_=>exact xns e) hq
theorem M5(K:B.Ok)(H:BO B n)(T:EJ B n)(c:C.Ok)(O:Own C.sc C.env C.y0.s.heap){elt:E}{tgt:List Nat}{tup:Bool}{kind:Nat}{src:D}{ifs:List E}{xe xt xi:Expr}{xifs:List Expr}{csc:dQ}{pos:Pos}{acc:Addr}{it:dF}{a:Nat}{R:Result→dG→Prop}{KK:AA→Prop}
  (hE:C.Er=notedBy (model B.P.prog B.P.w) C.A C.env fun e s'=>R (.error e) s')
  (hk2:kind=2→tup=true) (hme:mE B.N m C.sc elt xe=true) (hmi:Aj (mE B.N m C.sc) ifs xifs=true) (hmt:Ev B.N C.sc tup tgt xt=true)
  (hR:∀z ρ2 σ2,In C z ρ2 σ2→KK σ2→z.μ[a]? =some acc→R (.ok .next) z.s)
  (I:In C y (EO ρ tgt) σ) (l:C.y0.le y) (R1:Ci B.P y.μ C.y0.s.heap y.s.heap kind src it 0) (h:WO KK (B6 (ev B.call B.G n) elt tgt tup kind src ifs a 400 0 ρ σ)) (ha:y.μ[a]? =some acc):
  codeAny (model B.P.prog B.P.w) C.A (.compLoop (.ListComp xe [⟨xt,xi,xifs,0⟩] csc pos) 0 it (.ref acc) C.env) R y.s:=by
 refine Pq (fun j s'=>Ex4 fun z ρ2 σ2 i=>A6 (s'=z.s) (In C z (EO ρ2 tgt) σ2) (Fw C.y0 z) (Ci B.P z.μ C.y0.s.heap z.s.heap kind src it i) (WO KK (B6 (ev B.call B.G n) elt tgt tup kind src ifs a j i ρ2 σ2)) (z.μ[a]? =some acc)) (fun j s' w=> ?_) 400 ⟨y,ρ,σ,0,rfl,I,Fw.le l,R1,h,ha⟩;obtain ⟨z,ρ1,σ1,i,e,I1,F1,R1,h,ha⟩:=w;subst e;cases j with
 |zero=>exact aY h
 |succ j=>
  refine hE▸ ?_;refine Ra h (fun hit h=>Le c (.refl _) I1 F1 R1 hit fun h3 I3 F3=>hR _ _ _ I3 h ha) fun d ρ3 hit hbd h=>JZ (.refl _) I1 F1 R1 hit hk2 (Lg hmt) fun v h3 tk kk=> ?_;refine kk _ _ fun h4 I4 F4 R4 V4=>M4 c O hmt I4 V4 (M3 hbd) fun h5 tk5 I5 f5=> ?_;refine RZ T c ifs hmi I5 h fun b σ6 z6 l6 I6 h=> ?_;have R6:=(R4.fw f5).fw (Fw.le l6);haveI F6:=(F4.trans f5).trans (Fw.le l6);haveI a6:=KO (Fw.le l6) (show (z.to _ _).μ[a]? =some acc from ha)
  cases b with
  |false=>
   rw[if_neg (by decide)]
   exact ⟨j,cj j,z6,ρ3,σ6,i+1,rfl,I6.mask _,F6,R6,h,a6⟩
  |true=>
   rw[if_pos rfl];refine H c hme I6 (YO (F:=B6 (ev B.call B.G n) elt tgt tup kind src ifs a j (i+1) ρ3) h fun d7 σ7 accl v7 z7 l7 S7 V7 hacc hlen h=> ?_);have a7:=KO (Fw.le l7) a6;haveI hm7:BN σ7 .append (.loc a) [d7]=some (.ok .none,AW σ7 a (.lst (accl++[d7]))):=by
    show (σ7[a]?.bind fun c=>LB c fun l=>if l.length<100000 then Ab .none (AW σ7 a (.lst (l++[d7]))) else none)=_
    refine hacc▸ ?_;exact if_pos (ai hlen (by decide))
   refine OJ (m:=.append) K.K c.hc.handled hm7 S7 (.loc a7) (.one V7) fun v8 h8 tk8 ν8 x8 S8 V8=> ?_;haveI l8:z7.le (z7.at ν8 h8 tk8):=.of x8 tk8;exact ⟨j,cj j,_,ρ3,_,i+1,rfl,((I6.up l7 S7).up l8 S8).mask _,(F6.trans (Fw.le l7)).trans (Fw.le l8),(R6.fw (Fw.le l7)).fw (Fw.le l8),h,KO (Fw.le l8) a7⟩
theorem UG{N:Nm}{sc:dQ}{C:Expr→Prop}{elt:E}{tgt:List Nat}{tup en:Bool}{iter:E}{ifs:List E}{x:Expr}(hm:mE N (m+1) sc (.comp elt tgt tup en iter ifs) x=true)
  (k:∀xe xt xi xifs csc pos,csc.kind=.function→ED N sc csc tgt=true→mE N m csc elt xe=true→Aj (mE N m csc) ifs xifs=true→Ev N csc tup tgt xt=true→JD N m sc (if en then 2 else 0) tup iter xi=true→C (.ListComp xe [⟨xt,xi,xifs,0⟩] csc pos)):C x:=
 Ac hm fun v h=>aW v.2 fun pos e=>An e (by
  revert h;generalize v.1=w;obtain ⟨xe,⟨xt,xi,xifs,as⟩,csc⟩:=w;intro h;haveI h1:=AC h;haveI h2:=AC h1.1;haveI h3:=AC h2.1;haveI h4:=AC h3.1;haveI h5:=AC h4.1;haveI h6:=AC h5.1;haveI e:=eq_of_beq h6.1;subst e;exact k xe xt xi xifs csc pos (eq_of_beq h6.2) h5.2 h4.2 h3.2 h2.2 (by cases en<;>exact h1.2))
theorem M6{P:PI}{μ:List Addr}{A:dJ}{s:dG}{Er:dF→dG→Prop}{hb:Heap}{kind i:Nat}{src:D}{it:dF}{Q:dF→dG→Prop}(H:Ci P μ hb s.heap kind src it i)(hq:Q it s):dH (model P.prog P.w) A (pyIter it) Q Er s:=by
 cases H with
 |lst e hi p=>exact wpAny_pyIter_listiter hi hq
 |str hi ok p=>exact wpAny_pyIter_striter_ascii hi hq
 |rng hi p=>exact wpAny_pyIter_rangeiter hi hq
 |enu e he hi ne p q=>exact wpAny_pyIter_enum he hq
theorem Wj{elt:E}{tgt:List Nat}{tup en:Bool}{iter:E}{ifs:List E}{Q:dF→dG→Prop}(h:W C y Q (ev B.call B.G (n+1) (.comp elt tgt tup en iter ifs) ρ σ)){K:D→AA→Prop}
  (k:∀src σ1,Aa (if en then 2 else 0) src σ1 0≠none→WO (fun σ'=>Vk C y Q (.loc σ1.length) σ') (B6 (ev B.call B.G n) elt tgt tup (if en then 2 else 0) src ifs σ1.length 400 0 ρ (σ1++[.lst []]))→K src σ1):WR C y K (ev B.call B.G n iter ρ σ):=
 (WR.bnd h).imp (.refl y) fun src σ1 h=>by
  cases q:Aa (if en then 2 else 0) src σ1 0 with
  |none=>simp only[q]at h;exact aY h
  |some o=>
   rw[q]at h;refine k src σ1 (fun e=>by rw[q]at e;contradiction) ?_
   dsimp only at h;generalize B6 (ev B.call B.G n) elt tgt tup (if en then 2 else 0) src ifs σ1.length 400 0 ρ (σ1++[.lst []])=o at h ⊢
   cases o with
   |none=>exact aY h
   |some σ'=>exact h
theorem UH(K:B.Ok)(h0n:∀i:Nat,B.N.names[i]? ≠some (".0":Str))(elt:E)(tgt:List Nat)(tup en:Bool)(iter:E)(ifs:List E):Gz B (.comp elt tgt tup en iter ifs):=by
 intro n H T C m x ρ σ y Q c hm I h;refine UG hm fun xe xt xi xifs csc pos hfun hok hme hmi hmt hmit=> ?_;haveI hcl0:∀p∈csc.names,p.2=.free→∃c,C.env.cells.lookup p.1=some c:=fun p hp hf=>by
  obtain ⟨w,kd⟩:=p;have hf:kd=.free:=hf;subst hf;refine I.fr.closed w ?_
  rcases (BG hok hp).2.2 rfl with q|q
  ·exact (c.hs w).elim (fun e=>.inl (e.trans q)) fun e=>by rw[q]at e;exact nomatch e.1
  ·exact (c.hs w).elim (fun e=>.inr (e.trans q)) fun e=>.inl e.2
 obtain ⟨cl,hclos,hcl1,hcl2⟩:=H1 C.env csc hcl0;have hk2:(if en then 2 else 0)=2→tup=true:=fun e2=>Ha (C:=fun _=>tup=true) hmit (fun e _ _=>by simp only[e]at e2;contradiction) (fun e _ _ _ _ _=>by simp only[e]at e2;contradiction) fun _ h _ _ _ _ _=>h
 unfold EvG;simp only[eval_ListComp];refine wpAny_comprehension_free (gs:=[]) rfl (Ja hmit) hclos hfun (fun w hy hl=>by
  obtain ⟨z,kd⟩:=w;have hl:kd=.local:=hl;subst hl;exact ((BG hok hy).2.1 rfl).1) ?_
 refine Hz K H c hmit I (Wj h fun src σ1 hit hcomp=>⟨hit,fun it z l1 I1 R1=>wpAny_newList ?_⟩);have nc:=I1.sto.newCell (o:={cls:=.type "list",data:=.seq ([]:List dF).toArray}) (c:=.lst []) (fun x=>⟨[],0,Heap.get?_push_size _ rfl,bC _,.nil⟩);have lL:z.le (z.at [z.s.heap.objs.size] (z.s.heap.push {cls:=.type "list",data:=.seq ([]:List dF).toArray}) z.s.toks):=.of nc.2 _;haveI IL:=I1.up lL nc.1;haveI RL:=R1.fw (Fw.le lL);haveI haL:(z.μ++[z.s.heap.objs.size])[σ1.length]? =some z.s.heap.objs.size:=by
  rw[←I1.sto.len,bZ (bJ _),Nat.sub_self];rfl
 generalize hzL:z.at [z.s.heap.objs.size] (z.s.heap.push {cls:=.type "list",data:=.seq ([]:List dF).toArray}) z.s.toks=zL at lL IL RL;have haL:zL.μ[σ1.length]? =some z.s.heap.objs.size:=by refine hzL▸ ?_;exact haL
 have hs:({z.s with heap:=z.s.heap.push {cls:=.type "list",data:=.seq ([]:List dF).toArray} }:dG)=zL.s:=by rw[←hzL]
 skip
 simp only[hs];refine wpAny_newFunctionEnv (fun w hy=>(BG hok hy).1) (fun _ q=>by contradiction) (fun h3 hns hsb=> ?_) hfun
 have kp3:AN zL.s.heap h3:=fun b o e=>(hsb.2 b fun q=>by simp only[q,AR]at e;exact xns e).trans (Heap.get?_push_of_some _ e)
 haveI l3:=Pt.le.keeps kp3 zL.s.toks;have I3:=IL.up l3 (IL.sto.keeps kp3);haveI hoff:=IL.sto.off (AR zL.s.heap);haveI l03:=(l1.trans lL).trans l3;obtain ⟨F3,hs3⟩:=FR.comp (cenv:={newEnv csc zL.s.heap.objs.size C.env.globals cl C.env.qual none .none (some C.env) dT with scope:=relabel csc C.env}) I3.fr c.hs hok hfun h0n rfl rfl rfl rfl rfl hns hoff hcl1 hcl2;haveI go:∀R:Result→dG→Prop,(∀z2 ρ2 σ2,In (⟨csc,{newEnv csc zL.s.heap.objs.size C.env.globals cl C.env.qual none .none (some C.env) dT with scope:=relabel csc C.env},C.A,C.stk,notedBy (model B.P.prog B.P.w) C.A {newEnv csc zL.s.heap.objs.size C.env.globals cl C.env.qual none .none (some C.env) dT with scope:=relabel csc C.env} fun e s'=>R (.error e) s',y⟩:Cf B) z2 ρ2 σ2→Vk C y Q (.loc σ1.length) σ2→z2.μ[σ1.length]? =some z.s.heap.objs.size→R (.ok .next) z2.s)→
   codeAny (model B.P.prog B.P.w) C.A (.compLoop (.ListComp xe [⟨xt,xi,xifs,0⟩] csc pos) 0 it (.ref z.s.heap.objs.size) {newEnv csc zL.s.heap.objs.size C.env.globals cl C.env.qual none .none (some C.env) dT with scope:=relabel csc C.env}) R (zL.to h3 zL.s.toks).s:=fun R hR=>
  M5 (C:=(⟨csc,{newEnv csc zL.s.heap.objs.size C.env.globals cl C.env.qual none .none (some C.env) dT with scope:=relabel csc C.env},C.A,C.stk,notedBy (model B.P.prog B.P.w) C.A {newEnv csc zL.s.heap.objs.size C.env.globals cl C.env.qual none .none (some C.env) dT with scope:=relabel csc C.env} fun e s'=>R (.error e) s',y⟩:Cf B)) (y:=zL.to h3 zL.s.toks) K H T ⟨hs3,c.hc⟩
   ⟨(l1.trans lL).fresh _ (AR _),fun w cc hy _=>absurd rfl (BG hok (mem_of_lookup hy)).1⟩ rfl hk2 hme hmi hmt hR ⟨l03,I3.sto,F3,I3.stk⟩ l03 (RL.fw (Fw.le l3)) hcomp haL
 refine codeAny_compStart_list (go _ ?fin) (M6 (RL.fw (Fw.le l3)) (go _ ?fin));exact fun z2 ρ2 σ2 I2 hv ha2=>aW I2.fr.ns fun mm hm=>⟨mm,hm,fun h' hs'=>hv (.ref z.s.heap.objs.size) (z2.to h' z2.s.toks) (I2.since.but hs' ((l1.trans lL).fresh _ (AR _))) (I2.sto.but (Ns.vol hm) hs' I2.fr.off.1 I2.fr.off.2) (.loc ha2)⟩
end
end Mine
end
section
namespace Mine
open PySem PySem.Calls PyProof.Rows
structure YQ (fr:List Addr) (e:Addr) (oe:Obj) (vs:Array dF) (h h':Heap):Prop where
 keep:∀b o,h.get? b=some o→b≠e→(∀T,vs[1]? =some (.ref T)→b≠T)→b∉fr→h'.get? b=some o
 frame:∀b o,h.get? b=some o→b∈fr→∃sl,h'.get? b=some {o with slots:=sl}
 trace:∃T,A3 (h.get? T=none) ((Ex2 fun oT ts=>A3 (h'.get? T=some oT) (oT.data=.fields ts) (ts[3]? =some .none))) (∃oe',A4 (h'.get? e=some oe') (oe'.cls=oe.cls) (oe'.dict=oe.dict) (oe'.data=.fields (vs.setIfInBounds 1 (.ref T))))
 last:∀T oT ts,vs[1]? =some (.ref T)→h.get? T=some oT→oT.data=.fields ts→Ex2 fun oT' ts'=> h'.get? T=some oT'∧oT'.data=.fields ts'
theorem H2(o:Obj)(f):(o.mapFields f).dict=o.dict:=by
 obtain ⟨c,d,dt,sl⟩:=o;cases dt<;>rfl
section
variable{M:dO}{A:dJ}{E:dF→dG→Prop}{s:dG}
theorem Jb{base:Heap}{env:Env}{outer:List Env}{L e:Addr}{oe:Obj}{vs:Array dF}{head:dF}{hadNext:Bool}{Q:Unit→dG→Prop}
  (hfr:A.frames=some (env::outer)) (hl:s.heap.FunFrames base (env::outer)) (hf:env.frame=some L)
  (he:s.heap.get? e=some oe) (hd:oe.data=.fields vs) (hsz:1<vs.size)
  (h:∀h' T,(∀b o,s.heap.get? b=some o→b≠e→b∉(env::outer).filterMap (·.frame)→h'.get? b=some o)→
   (∀b o,s.heap.get? b=some o→b∈(env::outer).filterMap (·.frame)→∃sl,h'.get? b=some {o with slots:=sl})→
   s.heap.get? T=none→(Ex2 fun oT ts=>A3 (h'.get? T=some oT) (oT.data=.fields ts) (ts[3]? =some .none))→
   (∃oe',A4 (h'.get? e=some oe') (oe'.cls=oe.cls) (oe'.dict=oe.dict) (oe'.data=.fields (vs.setIfInBounds 1 (.ref T))))→Q () {s with heap:=h'}):
  dH M A (do let a ←frameOf env;let pl ←entryPlaceOf L hadNext;let b ←EntryCells.newEntry head a .none (rawInt L) .none pl;setField (.ref e) 1 b) (fun _ s'=>dH M A (setFlight (.ref e) none) Q E s') E s:=by
 haveI hene:e∉(env::outer).filterMap (·.frame):=fun hm=>by
  obtain ⟨_,o,ho,hnf⟩:=hl.mem hm;rw[he]at ho;injection ho with ho;subst ho;exact hnf vs hd
 refine dI (wpAny_frameOf_fun hfr hl hf fun h₁ hs₁=> ?_);refine dI (wpAny_entryPlaceOf fun pl hpl=> ?_);delta EntryCells.newEntry newFields;refine dI (wpAny_newObj_type ?_ (hpl.sizeOk5 _ _ _ _ _));haveI he₁:h₁.get? e=some oe:=(hs₁.2.1 e hene).trans he;haveI he₂:=Heap.get?_push_of_some (h:=h₁) {cls:=.type "traceback",dict:=none,data:=.fields ([head,.ref L,.none,rawInt L,.none]++(if pl.isEmpty then bO 6 Value.none else pl)).toArray} he₁
 refine wpAny_setField he₂ hd hsz ?_;haveI hTe:h₁.objs.size≠e:=cC (Heap.lt_size he₁);haveI hd₃:=Obj.data_mapFields hd (·.setIfInBounds 1 (Value.ref h₁.objs.size))
 haveI he₃:=Heap.get?_update_self (Obj.mapFields (·.setIfInBounds 1 (Value.ref h₁.objs.size))) he₂ (Obj.isFreed_of_fields hd₃)
 haveI hT₃:=(Heap.get?_update_other (h₁.push {cls:=.type "traceback",dict:=none,data:=.fields ([head,.ref L,.none,rawInt L,.none]++(if pl.isEmpty then bO 6 Value.none else pl)).toArray})
  (Obj.mapFields (·.setIfInBounds 1 (Value.ref h₁.objs.size))) (Ne.symm hTe)).trans (Heap.get?_push_size h₁ rfl)
 delta setFlight;refine dI (dm he₃ hd₃ (x:=.ref h₁.objs.size) (by simp[hsz]) ?_)
 rw[if_pos (show (Value.ref h₁.objs.size != Value.none)=true from by simp)]
 refine wpAny_setField hT₃ rfl (by simp only[bg,ae,bF,bY]<;>lia) (h _ h₁.objs.size ?_ ?_ ?_ ?_ ?_)
 ·intro b o hb hbe hbf;haveI hb1:h₁.get? b=some o:=(hs₁.2.1 b hbf).trans hb;haveI hbT:h₁.objs.size≠b:=cC (Heap.lt_size hb1);rw[Heap.get?_update_other _ _ hbT,Heap.get?_update_other _ _ (Ne.symm hbe)];exact Heap.get?_push_of_some _ hb1
 ·intro b o hb hbf;obtain ⟨sl,hs⟩:=hs₁.2.2 b o hb;haveI hbe:b≠e:=fun q=>hene (q▸hbf);haveI hbT:h₁.objs.size≠b:=cC (Heap.lt_size hs);refine ⟨sl,?_⟩;rw[Heap.get?_update_other _ _ hbT,Heap.get?_update_other _ _ (Ne.symm hbe)];exact Heap.get?_push_of_some _ hs
 ·cases q:s.heap.get? h₁.objs.size with
  |none=>rfl
  |some o=>haveI:=Heap.lt_size q;rw[hs₁.1]at this;exact absurd this (cP _)
 ·exact ⟨_,_,Heap.get?_update_self _ hT₃ (Obj.isFreed_of_fields (Obj.data_mapFields rfl _)),Obj.data_mapFields rfl _,by first|(simp;done)|(rcases hpl with rfl|⟨_,_,_,_,_,rfl⟩<;>simp)⟩
 ·refine ⟨_,?_,Obj.cls_mapFields _ _,H2 _ _,hd₃⟩;rw[Heap.get?_update_other _ _ hTe];exact he₃
theorem YR{base:Heap}{env:Env}{outer:List Env}{L e:Addr}{oe:Obj}{vs:Array dF}{Q:Unit→dG→Prop}(hfr:A.frames=some (env::outer))(hl:s.heap.FunFrames base (env::outer))(hf:env.frame=some L)
  (he:s.heap.get? e=some oe) (hd:oe.data=.fields vs) (h1:vs[1]? =some .none∨Ex3 fun T oT ts=>A5 (vs[1]? =some (.ref T)) (T≠e) (s.heap.get? T=some oT) (oT.data=.fields ts) (ts[3]? =some .none))
  (h:∀h',YQ ((env::outer).filterMap (·.frame)) e oe vs s.heap h'→Q () {s with heap:=h'}):dH M A (noteFrame (.ref e) env) (fun _ s'=>dH M A (setFlight (.ref e) none) Q E s') E s:=by
 rcases h1 with h1|⟨T,oT,ts,h1,hTe,hT,hdT,h3⟩
 ·unfold noteFrame;simp only[hf];refine dI (dm he hd h1 ?_);rw[if_neg (by decide)]
  refine Jb hfr hl hf he hd (ck.mp h1).1 fun h' T k1 k2 k3 k4 k5=>h h' ⟨fun b o hb hbe _ hbf=>k1 b o hb hbe hbf,k2,⟨T,k3,k4,k5⟩,fun T oT ts q=>by rw[h1]at q;cases q⟩
 ·unfold noteFrame;simp only[hf];refine dI (dm he hd h1 ?_);rw[if_pos (show (Value.ref T != Value.none)=true from by simp)]
  refine dI (dm hT hdT h3 ?_);rw[if_neg (show ¬((Value.none==rawInt L)=true) from by simp[rawInt])]
  refine dI (wpAny_setField hT hdT (ck.mp h3).1 ?_);have other:∀b,b≠T→(s.heap.update T (Obj.mapFields (·.setIfInBounds 3 Value.none))).get? b=s.heap.get? b:=fun b hb=>Heap.get?_update_other _ _ (Ne.symm hb)
  have noRecord:∀b o,s.heap.get? b=some o→(∀vs,o.data≠ .fields vs)→b≠T:=fun b o hb hnf q=>by
   rw[q,hT]at hb;injection hb with hb;subst hb;exact hnf ts hdT
  have hd3:=Obj.data_mapFields hdT (·.setIfInBounds 3 Value.none)
  have hTu:=Heap.get?_update_self (Obj.mapFields (·.setIfInBounds 3 Value.none)) hT (Obj.isFreed_of_fields hd3)
  have hnfr:∀b,b∈(env::outer).filterMap (·.frame)→b≠T:=fun b hb=>by
   obtain ⟨_,o,ho,hnf⟩:=hl.mem hb;exact noRecord b o ho hnf
  refine Jb (s:={s with heap:=s.heap.update T (Obj.mapFields (·.setIfInBounds 3 Value.none))}) hfr (hl.of_keeps fun b o hb hnf=>⟨o,(other b (noRecord b o hb hnf)).trans hb,rfl⟩) hf ((other e (Ne.symm hTe)).trans he) hd (ck.mp h1).1
   fun h' T' k1 k2 k3 k4 k5=>h h' ⟨fun b o hb hbe hbT hbf=>k1 b o ((other b (hbT T h1)).trans hb) hbe hbf,fun b o hb hbf=>k2 b o ((other b (hnfr b hbf)).trans hb) hbf,⟨T',?_,k4,k5⟩,fun T2 oT2 ts2 q hT2 hd2=> ?_⟩
  ·by_cases q:T'=T
   ·rw[q,hTu]at k3;contradiction
   ·rw[←other T' q];exact k3
  ·rw[h1]at q;cases q;exact ⟨_,_,k1 _ _ hTu hTe (fun hb=>hnfr _ hb rfl),hd3⟩
end
end Mine
end
section
namespace Mine
open PySem PySem.Calls PyProof.Rows PySem.Spec
inductive A14 (a b c d e f g h i j k l m n:Prop):Prop
 |intro:a→b→c→d→e→f→g→h→i→j→k→l→m→n→A14 a b c d e f g h i j k l m n
structure VO (P:PI) (a:Addr) (b:Def) (N:Nm):Prop where
 it:Ex4 fun (o:Obj) (fd:FuncData) (xs:List Stmt) (mf:Nat)=>A14 (P.hb.get? a=some o) (o.data=.func fd) (fd.body=.stmts xs) (GR (mS N fd.scope mf) b.body xs=true) (fd.closure=[]) (fd.globals=dR) (fd.builtins=dT) (fd.scope.kind=.function) (fd.scope.isCoroutine=false) (fd.scope.isGenerator=false) (P.hb.CodeRec fd.code fd.qualname) ((∀vals:List dF,vals.length=b.np→bindArgs fd ⟨vals,[]⟩=pure ((N.names.take b.np).zip vals))) ((∀x,fd.scope.names.lookup x≠some .free)) ((∀x∈N.names.take b.np,fd.scope.names.lookup x=some .local∨fd.scope.names.lookup x=some .cell))
 nodup:N.names.Nodup
 np:b.np≤N.names.length
 code:∀fd o,P.hb.get? a=some o→o.data=.func fd→∀c T j,P.cdOf N.names=some (c,T,j)→fd.code=.ref c
section
variable{P:PI}{N:Nm}{G:Nat→Option D}{call:Call}{μ ν ν':List Addr}{σ σ':AA}{A:dJ}{s:dG}{Er:dF→dG→Prop}{stk:List PySem.Env}{k:Nat}{env:PySem.Env}{ρ ρ':Loc}{r:Ro}{h h' h0:Heap}
set_option tactic.hygienic true in
theorem CF{x:Str}:∀(names:List (Str×dX)) (n:Nat) (acc:List (Str×Addr)),((x,NameKind.cell)∈names∨(acc.lookup x).isSome=true)→((cellsFrom n names acc).lookup x).isSome=true
 | [],n,acc,h=>by
  rcases h with h|h
  ·contradiction
  ·exact h
 |(y,kd)::r,n,acc,h=>by
  unfold cellsFrom;split
  ·rename_i hk;refine CF r (n+1) _ ?_;by_cases q:x=y
   ·subst q;right;simp[bq]
   ·rcases h with h|h
    ·rcases aj.mp h with e|h
     ·(injection e with h91 h92;subst h91;subst h92);exact absurd rfl q
     ·exact .inl h
    ·right
     simp only[bq];haveI:(x==y)=false:=by simpa using q
     refine this▸ ?_;exact h
  ·rename_i hk;refine CF r n acc ?_
   rcases h with h|h
   ·rcases aj.mp h with e|h
    ·(injection e with h91 h92;subst h91;subst h92);exact absurd rfl hk
    ·exact .inl h
   ·exact .inr h
theorem Jc{kindOf:Str→Option dX}{x:Str}{v:dF}:∀(binds:List (Str×dF)) (m:Str→Option dF),(binds.map (·.1)).Nodup→(x,v)∈binds→kindOf x=some .local→bindL kindOf binds m x=some v
 | [],_,_,h,_=>nomatch h
 |(y,w)::r,m,hn,h,hk=>by
  rw[an,bp]at hn;unfold bindL
  rcases aj.mp h with e|h
  ·(injection e with h91 h92;subst h91;subst h92)
   haveI keep:∀(r:List (Str×dF)) (m:Str→Option dF),x∉r.map (·.1)→bindL kindOf r m x=m x:=by
    intro r
    induction r with
    |nil=>intro m _;rfl
    |cons p r ih=>
     intro m hx;haveI z:=p.1;haveI u:=p.2
     rw[an,aj,not_or]at hx;unfold bindL;rw[ih _ hx.2];split
     ·simp[hx.1]
     ·rfl
   rw[keep r _ hn.1,if_pos hk];simp
  ·exact Jc r _ hn.2 h hk
theorem Jd{kindOf:Str→Option dX}{x:Str}{v:dF}:∀(binds:List (Str×dF)) (m:Str→Option dF),(binds.map (·.1)).Nodup→(x,v)∈binds→kindOf x=some .cell→bindC kindOf binds m x=some v
 | [],_,_,h,_=>nomatch h
 |(y,w)::r,m,hn,h,hk=>by
  rw[an,bp]at hn;unfold bindC
  rcases aj.mp h with e|h
  ·(injection e with h91 h92;subst h91;subst h92)
   haveI keep:∀(r:List (Str×dF)) (m:Str→Option dF),x∉r.map (·.1)→bindC kindOf r m x=m x:=by
    intro r
    induction r with
    |nil=>intro m _;rfl
    |cons p r ih=>
     intro m hx;haveI z:=p.1;haveI u:=p.2
     rw[an,aj,not_or]at hx;unfold bindC;rw[ih _ hx.2];split
     ·rfl
     ·simp[hx.1]
   rw[keep r _ hn.1,if_neg (by rw[hk];decide)];simp
  ·exact Jd r _ hn.2 h hk
set_option tactic.hygienic true in
theorem FR.start{fd:FuncData}{a:Addr}{s₁:dG}{names:List Str}{np nl:Nat}{vs:List dF}{ds:List D}(S:Sto P μ σ s.heap)(hn:names.Nodup)(hcode:∀c T j,P.cdOf names=some (c,T,j)→fd.code=.ref c)(hg:fd.globals=dR)(hb:fd.builtins=dT)(hk:fd.scope.kind=.function)
  (hfree:∀x,fd.scope.names.lookup x≠some .free) (hkd:∀x∈names.take np,fd.scope.names.lookup x=some .local∨fd.scope.names.lookup x=some .cell) (hnp:np≤names.length) (V:AE P μ s.heap vs ds) (hl:ds.length=np)
  (x:InCallC s (de fd s.heap.objs.size a).locals (bindL (de fd s.heap.objs.size a).kindOf ((names.take np).zip vs) fun _=>none) (de fd s.heap.objs.size a).cells (bindC (de fd s.heap.objs.size a).kindOf ((names.take np).zip vs) fun _=>none) s₁):
  FR P μ names (de fd s.heap.objs.size a) (ds.map some++bO nl none) s₁.heap:=by
 have kp:AN s.heap s₁.heap:=x.toInCall.keep;haveI hoff:∀X,s.heap.get? X=none→X∉μ∧P.hb.get? X=none:=fun X e=>S.off e;haveI hvl:vs.length=np:=by rw[V.length,hl]
 haveI htl:(names.take np).length=np:=by rw[b0];lia
 haveI hmap:((names.take np).zip vs).map (·.1)=names.take np:=List.map_fst_zip (by lia)
 have hnd:(((names.take np).zip vs).map (·.1)).Nodup:=by simp only[hmap];exact hn.sublist (List.take_sublist _ _)
 haveI hnew:∀y c,(de fd s.heap.objs.size a).cells.lookup y=some c→s.heap.get? c=none:=fun y c e=>by
  haveI hgt:=x.above y c (mem_of_lookup e);cases q:s.heap.get? c with
  |none=>rfl
  |some o=>exact absurd (Heap.lt_size q) (bH.mpr (bz hgt))
 refine ⟨hk,hg,hb,⟨_,x.toInCall.ns⟩,hoff _ (AR _),fun y c e=>⟨(hoff c (hnew y c e)).1,(hoff c (hnew y c e)).2,_,x.cell y c e⟩,fun y hy=> ?_,fun y z c e1 e2=>name_of_addr x.apart (mem_of_lookup e1) (mem_of_lookup e2),hn,hcode,fun i y d e1 e2 _=> ?_⟩
 ·rcases hy with hy|hy
  ·haveI hm:(y,NameKind.cell)∈fd.scope.names:=mem_of_lookup hy;exact cJ.mp (CF _ _ _ (.inl hm))
  ·exact absurd hy (hfree y)
 ·have hi:i<np:=by
   rw[List.getElem?_append]at e2;split at e2
   ·rename_i q;simpa [hl] using q
   ·rw[List.getElem?_replicate]at e2;split at e2<;>simp at e2
  haveI e3:ds[i]? =some d:=by
   rw[bS (by simpa [hl] using hi)]at e2
   simpa using e2
  obtain ⟨v,hv,hvd⟩:=V.get e3;have hyt:(names.take np)[i]? =some y:=by rw[List.getElem?_take,if_pos hi];exact e1
  have hmem:(y,v)∈(names.take np).zip vs:=by
   refine bB (i:=i) ?_;rw[List.getElem?_zip_eq_some];exact ⟨hyt,hv⟩
  haveI hvd':AH P μ s₁.heap v d:=hvd.mono0 (kp.ext fun _ q=>nomatch q);refine ⟨v,hvd',?_⟩
  rcases hkd y (bB hyt) with q|q
  ·exact .inl ⟨q,_,x.toInCall.ns,Jc _ _ hnd hmem q⟩
  ·haveI hm:(y,NameKind.cell)∈fd.scope.names:=mem_of_lookup q;obtain ⟨c,hc⟩:=cJ.mp (CF fd.scope.names (s.heap.objs.size+1) [] (.inl hm));refine .inr ⟨.inl q,c,hc,?_⟩;haveI:=x.cell y c hc;rwa[Jd _ _ hnd hmem q]at this
theorem Mv.vol{Xs:List Addr}(hX:∀X∈Xs,Vol X h)(hs:GZ Xs h h'):Mv μ h μ h':=
 ⟨fun a o e n q=>⟨hs a o (fun m=>by
  rcases q with ⟨vs,k,q⟩|q
  ·exact (hX a m o e).1 _ _ q
  ·exact (hX a m o e).2 q) e,n⟩,fun _ _ e=>e⟩
theorem OT{hb:Heap}{M:dO}{c:List Nat}{e:Addr}{outer:List PySem.Env}{L:Addr}{Q:Unit→dG→Prop}(hfr:A.frames=some (env::outer))(hf:env.frame=some L)(T:B7 P (μ++ν) (env::outer) s.heap)(S:Sto P (μ++ν) σ s.heap)(x:Ext μ ν hb s.heap)(hbase:AN P.hb hb)(X:ExR P (μ++ν) hb c e s.heap)
  (h:∀h',Ext μ ν hb h'→Sto P (μ++ν) σ h'→ExR P (μ++ν) hb c e h'→Q () {s with heap:=h'}):dH M A (noteFrame (.ref e) env) (fun _ s'=>dH M A (setFlight (.ref e) none) Q Er s') Er s:=by
 obtain ⟨oe,vs,dx,m,t,h1,h2,h3,h4,h5,h6,h7,h8,h9,h10,h11⟩:=X;have h11':vs[1]? =some .none∨Ex3 fun T oT ts=>A5 (vs[1]? =some (.ref T)) (T≠e) (s.heap.get? T=some oT) (oT.data=.fields ts) (ts[3]? =some .none):=by
  rcases h11 with q|⟨T,oT,ts,q1,_,q3,q4,q5,q6⟩
  ·exact .inl q
  ·exact .inr ⟨T,oT,ts,q1,q3,q4,q5,q6⟩
 refine YR hfr T.1 hf h1 h3 h11' fun h' lx=> ?_;have frNs:∀b∈(env::outer).filterMap (·.frame),b∉μ++ν∧P.hb.get? b=none∧∃mm,s.heap.Ns b mm:=fun b hbm=>by
  obtain ⟨en,hen,hfe⟩:=cU.mp hbm;obtain ⟨n1,mm,hn⟩:=T.2 en hen b hfe;exact ⟨n1,(T.1.mem hbm).1,mm,hn⟩
 haveI exT:∃Xs:List Addr,(∀b o,s.heap.get? b=some o→b∉Xs→h'.get? b=some o)∧(∀b∈Xs,(b∈(env::outer).filterMap (·.frame))∨(hb.get? b=none∧(Ex2 fun o vs=> s.heap.get? b=some o∧o.data=.fields vs)∧b∉μ++ν)):=by
  rcases h11 with q|⟨T,oT,ts,q1,q2,q3,q4,q5,q6⟩
  ·refine ⟨e::(env::outer).filterMap (·.frame),fun b o hbo n=>lx.keep b o hbo (fun z=>n (z▸ .head _)) (fun T z=>by rw[q]at z;cases z) (fun z=>n (.tail _ z)),fun b hbm=> ?_⟩
   rcases aj.mp hbm with rfl|hbm
   ·exact .inr ⟨h8.1,⟨_,_,h1,h3⟩,h9.2⟩
   ·exact .inl hbm
  ·refine ⟨e::T::(env::outer).filterMap (·.frame),fun b o hbo n=>lx.keep b o hbo (fun z=>n (z▸ .head _)) (fun T' z=>by rw[q1]at z;cases z;exact fun w=>n (w▸ .tail _ (.head _))) (fun z=>n (.tail _ (.tail _ z))),fun b hbm=> ?_⟩
   rcases aj.mp hbm with rfl|hbm
   ·exact .inr ⟨h8.1,⟨_,_,h1,h3⟩,h9.2⟩
   ·rcases aj.mp hbm with rfl|hbm
    ·exact .inr ⟨q2.1,⟨_,_,q4,q5⟩,q2.2⟩
    ·exact .inl hbm
 obtain ⟨Xs,gk,gx⟩:=exT;haveI gr:GZ Xs s.heap h':=fun b o n hbo=>gk b o hbo n;haveI hvol:∀X∈Xs,Vol X s.heap:=fun X hx=>by
  rcases gx X hx with hx|⟨_,⟨o,vs,ho,hd⟩,_⟩
  ·obtain ⟨_,_,mm,hn⟩:=frNs X hx;exact Ns.vol hn
  ·intro o' ho';rw[ho]at ho';cases ho';refine hd▸ ?_;exact ⟨fun _ _=>by simp,by simp⟩
 haveI muX:∀a∈μ++ν,a∉Xs:=fun a ha hx=>by
  rcases gx a hx with hx|⟨_,_,hn⟩
  ·exact (frNs a hx).1 ha
  ·exact hn ha
 have muT:∀T,s.heap.get? T=none→T∉μ++ν:=fun T e=>(S.off e).1;have up:∀a o,s.heap.get? a=some o→∃sl,(a∉Xs∨a∈(env::outer).filterMap (·.frame))→h'.get? a=some {o with slots:=sl}∧(a∉Xs→sl=o.slots):=fun a o ho=>by
  by_cases q:a∈Xs
  ·by_cases q2:a∈(env::outer).filterMap (·.frame)
   ·obtain ⟨sl,hsl⟩:=lx.frame a o ho q2;exact ⟨sl,fun _=>⟨hsl,fun n=>absurd q n⟩⟩
   ·exact ⟨o.slots,fun z=>(z.elim (fun n=>absurd q n) fun n=>absurd n q2)⟩
  ·exact ⟨o.slots,fun _=>⟨gk a o ho q,fun _=>rfl⟩⟩
 refine h h' ⟨fun a o ha n=> ?_,fun a o ha=> ?_,x.new⟩ ⟨S.sys,fun b o hbo=> ?_,S.fresh,S.nodup,S.len,S.pre,fun i a c hi hc=>AQ.map (Mv.vol hvol gr) (fun o e=>gr a o (muX a (bB hi)) e) (S.cell i a c hi hc)⟩ ?_
 ·obtain ⟨sl,e1,z⟩:=x.keep a o ha n;obtain ⟨sl2,hu⟩:=up a _ e1;by_cases q:a∈Xs
  ·rcases gx a q with hx|⟨hn,_⟩
   ·obtain ⟨hu1,_⟩:=hu (.inr hx);refine ⟨sl2,hu1,fun hnd=> ?_⟩;obtain ⟨_,_,mm,o',es,ep,ho',hd',_⟩:=frNs a hx;rw[e1]at ho';cases ho';exact absurd hd' (hnd es ep)
   ·rw[ha]at hn;contradiction
  ·obtain ⟨hu1,hu2⟩:=hu (.inl q);refine ⟨sl2,hu1,fun hnd=> ?_⟩;rw[hu2 q];exact z hnd
 ·obtain ⟨o',e1,z⟩:=x.live a o ha;by_cases q:a∈Xs
  ·rcases gx a q with hx|⟨hn,_⟩
   ·obtain ⟨sl,hsl⟩:=lx.frame a o' e1 hx;exact ⟨_,hsl,z⟩
   ·rw[ha]at hn;contradiction
  ·exact ⟨o',gk a o' e1 q,z⟩
 ·refine gk b o (S.base b o hbo) fun q=> ?_
  rcases gx b q with hx|⟨hn,_⟩
  ·rw[(frNs b hx).2.1]at hbo;exact xns hbo
  ·rw[hbase b o hbo]at hn;contradiction
 ·obtain ⟨T',t1,⟨oT,ts,t2,t3,t4⟩,oe',t5,t6,t7,t8⟩:=lx.trace;refine ⟨oe',_,dx,m,t,t5,t6.trans h2,t8,t7.trans h4,?_,h6,h7,h8,h9,by simpa using h10,.inr ⟨T',oT,ts,by simp[h10],⟨x.fresh T' t1,muT T' t1⟩,?_,t2,t3,t4⟩⟩
  ·obtain ⟨o,es,ep,ho,hd,hr⟩:=h5;by_cases q:dx∈Xs
   ·rcases gx dx q with hx|⟨_,⟨o2,vs2,ho2,hd2⟩,_⟩
    ·obtain ⟨sl,hsl⟩:=lx.frame dx o ho hx;exact ⟨_,es,ep,hsl,hd,hr⟩
    ·rw[ho]at ho2;(injection ho2 with ho2;subst ho2);rw[hd]at hd2;contradiction
   ·exact ⟨o,es,ep,gk dx o ho q,hd,hr⟩
  ·intro q;rw[q,h1]at t1;contradiction
theorem Lh{hb:Heap}{M:dO}{c:List Nat}{e:Addr}{outer:List PySem.Env}{L:Addr}{Q:Unit→dG→Prop}(hfr:A.frames=some (env::outer))(hf:env.frame=some L)(T:B7 P (μ++ν) (env::outer) s.heap)(S:Sto P (μ++ν) σ s.heap)(x:Ext μ ν hb s.heap)(hbase:AN P.hb hb)(X:ExR P (μ++ν) hb c e s.heap)
  (h:∀h',Ext μ ν hb h'→Sto P (μ++ν) σ h'→ExR P (μ++ν) hb c e h'→Q () {s with heap:=h'}):dH M A (leaving env (.ref e)) Q Er s:=by
 unfold leaving;exact dI (OT hfr hf T S x hbase X h)
end
noncomputable def inl (S:Spec) (G:Nat→Option D) (B:Nat→Option Def) (d:Nat):Call:=fun f as σ=>match B f with
 |none=>none
 |some b=>if as.length=b.np then match exs (evF S G B d) G 60 b.body (as.map some++bO (b.nl - b.np) none) σ with
  |some (.ret r,_,σ)=>some (.ok r,σ)
  |some (.nxt,_,σ)=>some (.ok .none,σ)
  |some (.ex c,_,σ)=>some (.ex c,σ)
  |_=>none
  else none
theorem Rb(S:Spec)(G:Nat→Option D)(B:Nat→Option Def)(d f:Nat)(as:List D)(σ:AA)(h:f<1000):evF S G B (d+2) f as σ=match S (d+1) f as σ with
 |some r=>some r
 |none=>inl S G B (d+1) f as σ:=by
 haveI e:Nat.ble 1000 f=false:=by
  cases q:Nat.ble 1000 f with
  |false=>rfl
  |true=>exact absurd (au q) (by omega)
 rw[LI];delta Hh;simp only[e];rfl
theorem Pu(S:Spec)(G:Nat→Option D)(B:Nat→Option Def)(d f:Nat)(as:List D)(σ:AA):evF S G B (d+2) (1000+f) as σ=evF S G B d f as σ:=by
 haveI e:Nat.ble 1000 (1000+f)=true:=Nat.ble_eq_true_of_le (by omega)
 rw[LI];delta Hh;simp only[e]
 skip
 rw[cA]
def Fn (P:PI) (call:Call) (k:Nat):Prop:= ∀(f:Nat) (ds:List D) (σ:AA) (r:Ro) (σ':AA),call (1000+f) ds σ=some (r,σ')→∀(a:Addr),P.fn f=some a→∃k',k=k'+2∧∀(μ:List Addr) (s:dG) (A:dJ) (stk:List PySem.Env) (vs:List dF) (Q Er:dF→dG→Prop),
 Cx A stk k'→Sto P μ σ s.heap→B7 P μ stk s.heap→AE P μ s.heap vs ds→AY P μ r σ' s Q Er→dH (model P.prog P.w) A (PySem.call (.ref a) vs) Q Er s
structure Wk (P:PI) (G:Nat→Option D) (B:Nat→Option Def):Prop where
 ok:Ok P
 lim:P.hb.NoLimit
 few:∀f a,P.fn f=some a→f<1000
 fns:∀f b a,B f=some b→P.fn f=some a→∃N,A3 (Qx P N G) (VO P a b N) (∀(call:Call) (k:Nat),Ce P call k→Fn P call k→RD P k∧Fl ⟨P,N,G,call,k⟩∧WG ⟨P,N,G,call,k⟩)
section
variable{P:PI}{N:Nm}{G:Nat→Option D}{call:Call}{μ ν ν':List Addr}{σ σ':AA}{A:dJ}{s:dG}{stk:List PySem.Env}{k:Nat}{env:PySem.Env}
theorem YS{S:Spec}{B:Nat→Option Def}{d f:Nat}{ds:List D}{r:Ro}(h:inl S G B d f ds σ=some (r,σ')){R:Prop}(k:∀b,B f=some b→ds.length=b.np→
  (match exs (evF S G B d) G 60 b.body (ds.map some++bO (b.nl - b.np) none) σ with
  |some (.ret r,_,σ)=>some (.ok r,σ)
  |some (.nxt,_,σ)=>some (.ok .none,σ)
  |some (.ex c,_,σ)=>some (.ex c,σ)
  |_=>none)=some (r,σ')→R):R:=by
 unfold inl at h;cases hB:B f with
 |none=>rw[hB]at h;exact xns h
 |some b=>
  rw[hB]at h;dsimp only at h;by_cases hl:ds.length=b.np
  ·rw[if_pos hl]at h;exact k b hB hl h
  ·rw[if_neg hl]at h;exact xns h
theorem WS.end{B:Bs}{C:Cf B}{y:Pt}{o:SR}{r:Ro}{Q:dF→dG→Prop}{Er:dF→dG→Prop}{QF:Flow→dG→Prop}(h:(match o with
  |some (.ret r,_,σ)=>some (.ok r,σ)
  |some (.nxt,_,σ)=>some (.ok .none,σ)
  |some (.ex c,_,σ)=>some (.ex c,σ)
  |_=>none)=some (r,σ')) (hq:AY B.P C.y0.μ r σ' C.y0.s Q Er) (hn:∀s,Q .none s→QF .next s) (hr:∀v s,Q v s→QF (.ret v) s)
  (hx:∀c ρ' e z,In C z ρ' σ'→ExR B.P z.μ C.y0.s.heap c e z.s.heap→AY B.P C.y0.μ (.ex c) σ' C.y0.s Q Er→C.Er (.ref e) z.s):WS C y QF o:=by
 revert h;refine TR o (fun h=>xns h) (fun ρ' σ1 h=> ?_) (fun _ _ h=>xns h) (fun d ρ' σ1 h=> ?_) fun c ρ' σ1 h=> ?_
 ·(injection h with h;injection h with h91 h92;subst h91;cases h92)
  intro z _ I;obtain ⟨⟨ν,h',tk,e,x⟩,S,_,_⟩:=I;subst e;exact hn _ (hq .none h' tk ν x S .none)
 ·(injection h with h;injection h with h91 h92;subst h91;subst h92)
  intro v z I V;obtain ⟨⟨ν,h',tk,e,x⟩,S,_,_⟩:=I;subst e;exact hr _ _ (hq v h' tk ν x S V)
 ·(injection h with h;injection h with h91 h92;subst h91;subst h92)
  exact fun e z I X=>hx c ρ' e z I X hq
theorem Wl{S:Spec}{B:Nat→Option Def}(Z:Wk P G B){d k:Nat}(C:Ce P (evF S G B d) k)(C2:Fn P (evF S G B d) k):Ce P (inl S G B d) (k+1):=by
 intro f ds σ r σ' he a hfn μ s A stk vs Q Er hc St T V hq;refine YS he fun b hB hlen he=> ?_;obtain ⟨N,KN,FNr,rest⟩:=Z.fns f b a hB hfn;obtain ⟨W,RA,RE⟩:=rest _ k C C2;obtain ⟨o,fd,xs,mf,ho,hd,hbody,hm,hclo,hgl,hbi,hkind,hco,hgen,hcode,hbind,hfree,hkd⟩:=FNr.it;haveI KB:Bs.Ok ⟨P,N,G,evF S G B d,k⟩:=⟨Z.ok,KN,C,W⟩;haveI hX:Fk ⟨P,N,G,evF S G B d,k⟩ 60:=UF KB RA (WH KB RE) 60;haveI hvl:vs.length=b.np:=V.length.trans hlen;haveI ho':s.heap.get? a=some o:=St.base _ _ ho;haveI hlim:s.heap.NoLimit:=Z.lim.imp fun mc w=>⟨w.1.imp fun o2 w=>w.imp fun es w=>w.imp fun ep w=>⟨St.base _ _ w.1,w.2⟩,w.2⟩;haveI hcd:s.heap.CodeRec fd.code fd.qualname:=hcode.keeps fun b o e=>St.base b o e;refine wpAny_call (codeAny_call_cells (by haveI:=hc.depth;omega) ho' hd hlim hcd hbody (hbind vs hvl) hclo (fun p hp=>(hkd p.1 (List.of_mem_zip (a:=p.1) (b:=p.2) hp).1).imp id fun q=>⟨q,CF _ _ _ (.inl (mem_of_lookup q))⟩) (fun s₁ x=> ?_) hco hgen hkind)
 obtain ⟨h1,tk1,rfl⟩:=x.toInCall.same;have kp:AN s.heap h1:=x.toInCall.keep;have F:=FR.start (nl:=b.nl - b.np) St FNr.nodup (FNr.code fd o ho hd) hgl hbi hkind hfree hkd FNr.np V hlen x;haveI l0:Pt.le ⟨μ,s⟩ ⟨μ,{s with heap:=h1,toks:=tk1}⟩:=Pt.le.keeps (y:=⟨μ,s⟩) kp tk1;have T0:B7 P μ stk h1:=by
  haveI T0:=T.mono (kp.ext (μ:=μ) (ν:=[]) fun _ q=>by contradiction)
  rwa[af]at T0
 haveI T1:B7 P μ (de fd s.heap.objs.size a::stk) h1:=
  ⟨⟨by refine hkind▸ ?_;decide,aW F.ns fun mm hmm=>Ns.at_ hmm fun ob es ep hob hdd=>⟨_,ob,rfl,F.off.2,hob,fun vs q=>nomatch hdd.symm.trans q⟩,T0.1⟩,
   fun en hen L hL=>(aj.mp hen).elim (fun e=>by subst e;(injection hL with hL;subst hL);exact ⟨F.off.1,F.ns⟩) fun hen=>T0.2 en hen L hL⟩
 haveI O:Own fd.scope (de fd s.heap.objs.size a) s.heap:=⟨AR _,fun y c _ e=>by
  haveI hgt:=x.above y c (mem_of_lookup e);cases q:s.heap.get? c with
  |none=>rfl
  |some o=>exact absurd (Heap.lt_size q) (bH.mpr (bz hgt))⟩
 have hc':Cx (A.deeper (de fd s.heap.objs.size a)) (de fd s.heap.objs.size a::stk) k:=
  ⟨hc.handled,by show A.depth+1+k+5<_;haveI:=hc.depth;omega,by show A.units+3+100*(k+1)<_;haveI:=hc.units;omega,by show A.frames.map _=_;rw[hc.frames];rfl⟩
 refine hX (C:=⟨fd.scope,de fd s.heap.objs.size a,A.deeper (de fd s.heap.objs.size a),de fd s.heap.objs.size a::stk,_,⟨μ,s⟩⟩) (y:=⟨μ,{s with heap:=h1,toks:=tk1}⟩) ⟨⟨fun y=>.inl rfl,hc'⟩,O,PassesOwn.leaving⟩ hm ⟨l0,St.keeps kp,F,T1⟩ (WS.end he hq (fun _ h=>h) (fun _ _ h=>h) fun c ρ' e z I X hq=> ?_);obtain ⟨⟨ν,h',tk,e2,x⟩,S2,_,T2⟩:=I;subst e2;exact Lh (s:={s with heap:=h',toks:=tk}) hc'.frames rfl T2 S2 x (fun b o e=>St.base b o e) X fun h2 x2 S2 X2=>hq e h2 tk ν x2 S2 X2
theorem Rc{S:Spec}{B:Nat→Option Def}{d:Nat}(C:Ce P (evF S G B d) d):Fn P (evF S G B (d+2)) (d+2):=by
 intro f ds σ r σ' he a hfn;rw[Pu]at he;exact ⟨d,rfl,fun μ s A stk vs Q Er=>C f ds σ r σ' he a hfn μ s A stk vs Q Er⟩
theorem KP{S:Spec}{B:Nat→Option Def}(Z:Wk P G B)(HS:∀d,Ce P (S (d+1)) (d+2)):∀d,(∀j,j≤d→Ce P (evF S G B j) j):=by
 intro d
 induction d with
 |zero=>
  intro j hj f ds σ r σ' he;cases Nat.le_zero.mp hj;exact xns he
 |succ d ih=>
  intro j hj;by_cases hjd:j≤d
  ·exact ih j hjd
  haveI hj:j=d+1:=by omega
  subst hj;intro f ds σ r σ' he a hfn;cases d with
  |zero=>exact xns he
  |succ d=>
  have hlt:=Z.few f a hfn;haveI he0:=he;rw[Rb _ _ _ _ _ _ _ hlt]at he;haveI C2:Fn P (evF S G B (d+1)) (d+1):=by
   cases d with
   |zero=>intro f ds σ r σ' he;exact xns he
   |succ d=>exact Rc (ih d (by omega))
  cases hq:S (d+1) f ds σ with
  |none=>rw[hq]at he;exact Wl Z (ih _ (bJ _)) C2 f ds σ r σ' he a hfn
  |some r2=>rw[hq]at he;(injection he with he;subst he);exact HS d f ds σ r σ' hq a hfn
end
end Mine
end
section
set_option backward.match.sparseCases true
namespace Mine
open PySem PySem.Calls PyProof.Rows PySem.Spec PySem.W
theorem UI{name:Str}{r:Option dF}(h:fastBuiltinOwn "Exception" name=r):classOwn (.type "Exception") name=pure r:=by
 show (pure (builtinOwn "Exception" name):Sem (Option dF))=_
 rw[builtinOwn_eq_fast,h]
theorem KQ:classOwn (.type "Exception") "__init__"=pure (some (.builtin "Exception.__init__")):=UI (by kernel_rfl)
theorem G0:Slot "wrapper_descriptor" "__get__" "wrapper_descriptor.__get__":=.of (owner:="wrapper_descriptor") (n:="__get__") (by rw[typeLookup_type,builtinLookup_eq_fast];kernel_rfl) (by decide+kernel) (by decide+kernel) (by decide+kernel)
 (by first|exact .inl (by decide+kernel)|exact .inr (by decide+kernel)) (by rw[isSubtype_type];kernel_rfl)
theorem KR:entryFor table "wrapper_descriptor.__get__"=some Builtin.«wrapper_descriptor.__get__»:=entryFor_of_tree (by kernel_rfl)
theorem Lj(a b c:dF):argsOk "wrapper_descriptor.__get__" ⟨[a,b,c],[]⟩:=by unfold argsOk;kernel_rfl
theorem OU:typeOf (.builtin "Exception.__init__")=pure (.type "wrapper_descriptor"):=by kernel_rfl
section
variable{prog:dP}{w:dN}{A:dJ}{E:dF→dG→Prop}{h:Heap}{g:Array GenState}{d:Drawn}{t:Nat}{os:dS}
variable{nm q:Str}{C N x so:Addr}{bs:List dF}{hdct:Bool}{sn:List Str}{sub:List dF}{ab:Bool}{col:Option Bool}{dd:Option Addr}{k0 k1 k2 k3 k5:Option dF}{newId:String}
noncomputable abbrev DU:List dF:=[.type "Exception",.type "BaseException",.type "object"]
theorem Wm{ox:Obj}{Q:Fin→dG→Prop}(hC:h.get? C=some (dc nm q C N bs DU hdct sn sub ab col dd k0 k1 k2 k3 k5 newId))(hx:h.get? x=some ox)(hxc:ox.cls=.ref C)
  (hq:Q (.done (.ret (.ref h.objs.size))) ⟨h.push {cls:=.type "method-wrapper",data:=.fields #[.builtin "Exception.__init__",.ref x]},g,d,t,os⟩):
  dH (model prog w) A (Builtin.«wrapper_descriptor.__get__» ⟨[.builtin "Exception.__init__",.ref x,.ref C],[]⟩) Q E ⟨h,g,d,t,os⟩:=by
 haveI hcB:(Value.ref C::DU).contains (.type "Exception")=true:=rfl;unfold Builtin.«wrapper_descriptor.__get__»
 repeat (first|(with_reducible refine di hx ?_;rw[hxc])|(with_reducible refine eA hC ?_;rw[hcB])|wp_step)
 haveI hp:".".intercalate ("Exception.__init__".cutAt '.').dropLast="Exception":=by decide+kernel
 rw[hp];refine eA hC ?_;rw[hcB]
 repeat (first|(with_reducible refine wpAny_newObj_type ?_ (by size_fits))|(unfold newFields)|wp_step)
 all_goals exact hq
theorem wpB{α:Type}{M:dO}{A:dJ}{c:Bool}{a b:Sem α}{Q:α→dG→Prop}{E:dF→dG→Prop}{s:dG}(hc:c=false)(h:dH M A b Q E s):dH M A (if c=true then a else b) Q E s:=by subst hc;exact h
theorem Re{ox:Obj}{tk:Tok}{Q:Fin→dG→Prop}(hC:h.get? C=some (dc nm q C N bs DU hdct sn sub ab col dd k0 k1 k2 k3 k5 newId))(hx:h.get? x=some ox)(hxc:ox.cls=.ref C)
  (hso:h.get? so=some {cls:=.type "super",dict:=none,data:=.fields #[.ref C,.ref x,.ref C],slots:= #[]}) (hno:Looks (model prog w) h (opaqueClassAbove (.ref C)) none) (hxC:x≠C)
  (hq:Q (.done (.ret (.ref h.objs.size))) ⟨h.push {cls:=.type "method-wrapper",data:=.fields #[.builtin "Exception.__init__",.ref x]},g,d,t,os⟩):
  dH (model prog w) A (Builtin.«super.__getattribute__» ⟨[.ref so,.str "__init__" tk],[]⟩) Q E ⟨h,g,d,t,os⟩:=by
 haveI hlk:=G0.lookup;haveI hne:(Value.ref x==Value.ref C)=false:=by simp[hxC]
 haveI hT:(⟨h,g,d,t,os⟩:dG).TypeIs (.builtin "Exception.__init__") "wrapper_descriptor":=OU;haveI hti:=OU;haveI hdt:({cls:=.type "super",dict:=none,data:=.fields #[.ref C,.ref x,.ref C],slots:= #[]}:Obj).data=.fields #[.ref C,.ref x,.ref C]:=rfl;haveI f0:(#[.ref C,.ref x,.ref C]:Array dF)[0]? =some (.ref C):=rfl;haveI f1:(#[.ref C,.ref x,.ref C]:Array dF)[1]? =some (.ref x):=rfl;haveI f2:(#[.ref C,.ref x,.ref C]:Array dF)[2]? =some (.ref C):=rfl;haveI hdr:((Value.ref C::DU).dropWhile (· != .ref C)).drop 1=DU:=by simp
 haveI ho:=KQ;unfold Builtin.«super.__getattribute__»
 repeat (first
  |(with_reducible refine dm hso hdt f0 ?_)|(with_reducible refine dm hso hdt f1 ?_)|(with_reducible refine dm hso hdt f2 ?_)
  |(with_reducible refine ks_wpAny_notOpaque hno ?_)
  |(with_reducible refine wpAny_mroOf_exc hC ?_;rw[hdr])
  |(with_reducible refine wpAny_call_entry G0 hT KR ?_ (Lj _ _ _))
  |(with_reducible refine Wm hC hx hxc ?_)
  |(with_reducible refine ⟨_,rfl,?_⟩)
  |((with_reducible refine wpB (c:=_||_) (b:=_) ?hc ?_);case hc=>(simp only[hne,Bool.or_false];done))
  |((with_reducible show dH _ _ (holding _ (call _ [_,ite _ _ _,_]) >>= _) _ _ _);simp only[hne,Bool.or_false,Bool.false_eq_true,if_false])
  |wp_step
  |dsimp only)
 all_goals exact hq
theorem HI{ox:Obj}{pl:Sem Bool}{Q:dF×List dF→dG→Prop}(hC:h.get? C=some (dc nm q C N bs DU hdct sn sub ab col dd k0 k1 k2 k3 k5 newId))(hx:h.get? x=some ox)(hxc:ox.cls=.ref C)
  (hso:h.get? so=some {cls:=.type "super",dict:=none,data:=.fields #[.ref C,.ref x,.ref C],slots:= #[]}) (hno:Looks (model prog w) h (opaqueClassAbove (.ref C)) none) (hxC:x≠C)
  (hq:Q (.ref h.objs.size,[]) ⟨h.push {cls:=.type "method-wrapper",data:=.fields #[.builtin "Exception.__init__",.ref x]},g,d,t+1,os⟩):
  dH (model prog w) A (getMethod (.ref so) "__init__" pl) Q E ⟨h,g,d,t,os⟩:=by
 haveI hlk:=F.ks_slot_super_ga.lookup;haveI hcan:=F.ks_canon_super_ga;haveI hT:∀t',(⟨h,g,d,t',os⟩:dG).TypeIs (.ref so) "super":=fun _=>⟨_,hso,rfl⟩;delta getMethod;refine dI (wpAny_specialOf (hT _) hlk ?_)
 show dH _ _ (if (Manifest.canonical "super.__getattribute__" != "object.__getattribute__")=true then _ else _) _ _ _
 rw[if_pos hcan];delta getAttr getAttrBy;refine dI (dI (wpAny_mkText (dW (dI (wpAny_typeOf (hT _) (dI (wpAny_of_eq hlk ?_)))))))
 show dH _ _ (getAttrByItsOwn (.ref so) (.str "__init__" t) (.type "super") (.builtin "super.__getattribute__") true false) _ _ _
 delta getAttrByItsOwn hookBefore callGetattribute boundAndCalled;refine dI (wpAny_of_eq (show (if onTheHeap (.type "super") then typeLookup (.type "super") "__getattr__" else pure none)=pure none from rfl) ?_)
 refine dI (wpAny_attempt (dW ?_))
 show dH _ _ (bindSpecial (.builtin "super.__getattribute__") (.ref so) >>= _) _ _ _
 refine dI (wpAny_of_eq (F.ks_slot_super_ga.bind _) ?_);refine db (Q:=fun v s'=>v=.ref h.objs.size∧s'=⟨h.push {cls:=.type "method-wrapper",data:=.fields #[.builtin "Exception.__init__",.ref x]},g,d,t+1,os⟩) (E:=fun _ _=>False)
  (wpAny_call_entry F.ks_slot_super_ga (hT _) F.ks_entry_super_ga (Re hC hx hxc hso hno hxC ⟨_,rfl,rfl,rfl⟩) (F.ks_gaArgs_super _ _)) (fun v s' hv=> ?_) fun _ _ z=>z.elim
 obtain ⟨rfl,rfl⟩:=hv;exact dL (dL hq)
noncomputable abbrev OV (x:Addr):Obj:={cls:=.type "method-wrapper",data:=.fields #[.builtin "Exception.__init__",.ref x]}
theorem Lk{M:dO}{s:dG}{pos:Pos}{u:Addr}{first:List dF}{args:List (Bool×Sem dF)}{Q:dF→dG→Prop}(hplain:args.any (·.1)=false)
  (h:dH M A (evalArgs (.ref u) true args []) (fun y s₁=>s₁.heap.get? u=some (OV x)∧dH M A (call (.ref u) (first++y.pos) y.kw) Q E s₁) E s):dH M A (callWith pos (.ref u) first args []) Q E s:=by
 unfold callWith;refine dI (dW (db h (fun x s₁ h₁=>dI (dZ ?_)) fun _ _ x=>x));obtain ⟨ho,hcall⟩:=h₁;have hst:(args.any (fun x=>x.1)||([]:List (Option Str×Sem dF)).any fun x=>x.1.isNone)=false:=by rw[hplain];rfl
 rw[hst];refine dI (m:=keeperOf (.ref u)) ?_;unfold keeperOf;refine dI (wpAny_load ho ?_);refine dL (a:=Keeper.machine) ?_;exact dI (db hcall (fun r s₂ hr=>dI (dW (wpAny_point (dL hr)))) fun _ _ x=>x)
noncomputable abbrev VP (C T:Addr):Obj:={cls:=.ref C,data:=.fields #[.ref T,.none,.none,.none,.bool false,.none]}
theorem UJ{u T:Addr}{v:dF}{Q:dF→dG→Prop}(hC:h.get? C=some (dc nm q C N bs DU hdct sn sub ab col dd k0 k1 k2 k3 k5 newId))(hx:h.get? x=some (VP C T))(hu:h.get? u=some (OV x))
  (hq:∀h',h'.get? x=some (VP C h.objs.size)→(∀b o,b≠x→h.get? b=some o→h'.get? b=some o)→Q .none ⟨h',g,d,t,os⟩):
  dH (model prog w) A (call (.ref u) [v]) Q E ⟨h,g,d,t,os⟩:=by
 haveI F:=PySem.F.excBase_Exception;refine wpAny_call (codeAny_of_tree ?_)
 show dH _ _ (callAny (.ref u) _) _ _ _
 unfold callAny;refine dI (wpAny_load hu ?_);dsimp only[show (Value.type "method-wrapper"==Value.type "method"||Value.type "method-wrapper"==Value.type "builtin_function_or_method"||Value.type "method-wrapper"==Value.type "method-wrapper")=true by decide,if_true]
 show dH _ _ (do checkBoundCall "Exception.__init__" ⟨[.ref x,v],[]⟩;again (Code.builtin "Exception.__init__" ⟨[.ref x,v],[]⟩)) _ _ _
 haveI hcB:(Value.ref C::DU).contains (.type "Exception")=true:=by rw[List.contains_cons,F.hasB,Bool.or_true]
 haveI hshort:=F.noStar;refine dI ?_;dsimp only[checkBoundCall,F.initKind,F.initSplit,F.initRow]
 repeat (first|(with_reducible refine di hx ?_)|with_reducible refine di hC ?_|(with_reducible refine eA hC ?_;rw[hcB])|wp_step)
 refine ⟨plainId_quiet F.init.plain _,codeAny_builtin F.initEntry ?_⟩;rw[Around.under_plainId F.init.plain _]
 wp_walk
 refine hq _ ?_ fun b o hb hbo=> ?_
 ·rw[Heap.get?_update_self _ (Heap.get?_push_of_some _ hx) rfl];rfl
 ·rw[Heap.get?_update_other _ _ (Ne.symm hb)];exact Heap.get?_push_of_some _ hbo
end
end Mine
end
section
namespace Mine
open PySem PySem.Calls PyProof.Rows PySem.Spec PySem.W Builtin Builtin.ObjectAttr
section
variable{prog:dP}{w:dN}{A:dJ}{E:dF→dG→Prop}{h:Heap}{g:Array GenState}{d:Drawn}{t:Nat}{os:dS}
variable{nm q:Str}{C N x:Addr}{bs:List dF}{sn:List Str}{sub:List dF}{ab:Bool}{col:Option Bool}{dd:Option Addr}{k0 k1 k2 k3 k5:Option dF}{newId:String}{mN:Str→Option dF}{name:Str}{v:dF}
theorem KS(o:Obj)(d:Option Addr):({o with dict:=d}:Obj).isFreed=o.isFreed:=by
 cases o with|mk a b c e=>cases c<;>rfl
theorem Im{α:Type}{M:dO}{A:dJ}{x:Sem α}{Q:α→dG→Prop}{E:dF→dG→Prop}{s:dG}(h:∀(K:α→dG→Prop) (E':dF→dG→Prop),(∀v s,Q v s→K v s)→dH M A x K E' s):dH M A x Q E s:=h Q E fun _ _ q=>q
theorem Zu{α:Type}{M:dO}{A:dJ}{x y:Sem α}{Q:α→dG→Prop}{E:dF→dG→Prop}{s:dG}(e:x=y)(h:dH M A y Q E s):dH M A x Q E s:=e▸h
theorem M7{B sa owner:String}{bm:List dF}{o:Obj}(SF:StoreFacts B bm sa owner){Q:Unit→dG→Prop}(hC:h.get? C=some (dc nm q C N bs bm true sn sub ab col dd k0 k1 k2 k3 k5 newId))(hn:h.Ns N mN)(hns:mN "__setattr__"=none)(hna:mN name=none)
  (hB:typeLookup (.type B) name=pure none) (hx:h.get? x=some o) (hc:o.cls=.ref C) (hdn:o.dict=none) (hnc:∀c,o.data≠ .cls c)
  (hq:∀h' tk',h'.get? x=some {o with dict:=some h.objs.size}→h'.Ns1 h.objs.size (fun y=>if y=name then some v else none)→(∀b o,b≠x→h.get? b=some o→h'.get? b=some o)→Q () ⟨h',g,d,tk',os⟩):
  dH (model prog w) A (setAttr (.ref x) name v) Q E ⟨h,g,d,t,os⟩:=by
 have f3:=SF.slot.bind (.ref x);delta setAttr callSpecial? specialOf
 repeat (any_goals (first|assumption|(with_reducible refine di hx ?_;rw[hc])|(with_reducible refine eD hC hn SF.mro SF.slot.lookup ?_;rw[hns])|wp_step))
 refine codeAny_call_builtin SF.slot.plain SF.entry (wpAny_check_sa SF hC hx hc ?_);refine Im fun K0 E0 hK0=> ?_;have hpass:=SF.passes (.ref x)
 show dH _ _ (Builtin.«object.__setattr__» ⟨[.ref x,.str name t,v],[]⟩) _ _ _
 rw[osa_eq,refuse_eq]
 repeat (first|(rw[refuseLoop_ref,hpass])|(with_reducible refine di hx ?_;rw[hc])|with_reducible refine wpAny_mroOf_exc hC ?_|(with_reducible refine eD hC hn SF.mro hB ?_;rw[hna])|wp_step)
 have hx1:(h.push {cls:=.type "dict",data:=.dict #[]}).get? x=some o:=Heap.get?_push_of_some _ hx;have hlt:x≠h.objs.size:=bo (Heap.lt_size hx);have hfr:o.isFreed=false:=(Heap.get?_some_iff.mp hx).2;rw[hdn,if_neg (by simp[typeHasDict])]
 have tail:∀h1:Heap,h1.get? x=some {o with dict:=some h.objs.size}→h1.get? h.objs.size=some {cls:=.type "dict",data:=.dict #[]}→(∀b ob,b≠x→h.get? b=some ob→h1.get? b=some ob)→∀{Q':Fin→dG→Prop} {E':dF→dG→Prop} {A':dJ},
   (∀h' tk',h'.get? x=some {o with dict:=some h.objs.size}→h'.Ns1 h.objs.size (fun y=>if y=name then some v else none)→(∀b o,b≠x→h.get? b=some o→h'.get? b=some o)→Q' (.done (.ret .none)) ⟨h',g,d,tk',os⟩)→dH (model prog w) A' (storeInDict h.objs.size (.str name t) name v) Q' E' ⟨h1,g,d,t+1,os⟩:=by
  intro h1 e1 e2 e3 Q' E' A' hq';have hnd:h1.Ns h.objs.size (fun _=>none):=⟨_,#[],_,e2,rfl,fun e he=>absurd he (by simp),fun _=>rfl⟩
  delta storeInDict newKeyGuard;refine dI (dL (dI (wpAny_nsSet1 (Heap.Ns1.of_empty hnd) fun h' hn' hs=> ?_)));obtain ⟨oD,esD,epD,hoD,hdD,hcD⟩:=hn'.count (Within.cons name v Within.nil);refine dI (wpAny_lookBehind hoD (by rw[hdD];exact pastItsLine_dict (ag hcD (by rw[bF,bY,dU];lia))) ?_)
  refine dL (hq' h' _ ((hs.2 x hlt).trans e1) hn' fun b ob hb e=>(hs.2 b (bo (Heap.lt_size e))).trans (e3 b ob hb e))
 have upd:∀{Q':Fin→dG→Prop} {E':dF→dG→Prop} {A':dJ},(∀h' tk',h'.get? x=some {o with dict:=some h.objs.size}→h'.Ns1 h.objs.size (fun y=>if y=name then some v else none)→(∀b o,b≠x→h.get? b=some o→h'.get? b=some o)→Q' (.done (.ret .none)) ⟨h',g,d,tk',os⟩)→
   dH (model prog w) A' (do
    let d ←PySem.alloc {cls:=Value.type "dict",data:=Data.dict #[]}
    update x fun o=>{cls:=o.cls,dict:=some d,data:=o.data,slots:=o.slots}
    dictMade (Value.ref C) x d) (fun a s'=>dH (model prog w) A' (match a with
    |some d=>storeInDict d (Value.str name t) name v
    |none=>noDictFor (Value.ref x) (Value.ref C) name (match (none:Option dF) with
       |some v=>some v
       |none=>none).isSome) Q' E' s') E' ⟨h,g,d,t+1,os⟩:=by
  intro Q' E' A' hq';refine dI (wpAny_alloc' (dI (wpAny_update' hx1 ?_)));refine dL (tail _ ?_ ?_ ?_ hq')
  ·exact Heap.get?_update_self _ hx1 ((KS o _).trans hfr)
  ·exact (Heap.get?_update_ne _ _ _ _ hlt.symm).trans (Heap.get?_push_at rfl rfl)
  ·intro b ob hb e;exact (Heap.get?_update_ne _ _ _ _ hb).trans (Heap.get?_push_of_some _ e)
 refine Zu ?_ (upd fun h' tk' e1 e2 e3=>hK0 _ _ (dL (dL (hq h' tk' e1 e2 e3))));revert hnc;generalize o.data=dd;intro hnc;clear hC hn hns hna hB hx hc hdn hq hK0 hpass hx1 hlt hfr tail upd SF f3;cases dd<;>first|rfl|exact absurd rfl (hnc _)
end
end Mine
end
section
namespace Mine
open PySem PySem.Calls PyProof.Rows PySem.Spec PySem.W
structure H3 where
 nm:Str
 q:Str
 N:Addr
 bs:List dF
 sn:List Str
 sub:List dF
 ab:Bool
 col:Option Bool
 dd:Option Addr
 k0:Option dF
 k1:Option dF
 k2:Option dF
 k3:Option dF
 k5:Option dF
 mN:Str→Option dF
 fI:Addr
 oI:Obj
 fd:FuncData
 cc:Addr
 oc:Obj
 cda:Addr
 ocd:Obj
 vs:Array dF
 file:Str
 tf:Tok
noncomputable def ecBody (p:Nat→Pos):List Stmt:=[.Expr (.Call (.Attribute (.Call (.Name "super" (p 0)) [] [] (p 1)) "__init__" (p 2)) [.Name "code" (p 3)] [] (p 4)) (p 5),
 .Assign [.Attribute (.Name "self" (p 6)) "code" (p 7)] (.Name "code" (p 8)) (p 9),.Assign [.Attribute (.Name "self" (p 10)) "told" (p 11)] (.Name "told" (p 12)) (p 13)]
structure Ll (P:PI) (D:H3):Prop where
 cls:P.hb.get? P.ec=some (dc D.nm D.q P.ec D.N D.bs DU true D.sn D.sub D.ab D.col D.dd D.k0 D.k1 D.k2 D.k3 D.k5 "Exception.__new__")
 ns:P.hb.Ns D.N D.mN
 mi:D.mN "__init__"=some (.ref D.fI)
 ms:D.mN "__setattr__"=none
 mc:D.mN "code"=none
 mt:D.mN "told"=none
 mgb:D.mN "__getattribute__"=none
 mga:D.mN "__getattr__"=none
 fO:P.hb.get? D.fI=some D.oI
 fC:D.oI.cls=.type "function"
 fD:D.oI.data=.func D.fd
 body:∃p,D.fd.body=.stmts (ecBody p)∧((p 2).endLine==(p 4).line)=true
 clo:D.fd.closure=[(("__class__":Str),D.cc)]
 params:∃ar,(D.fd.params.posonlyargs++D.fd.params.args).head? =some ar∧ar.arg="self"
 glob:D.fd.globals=dR
 bi:D.fd.builtins=dT
 kind:D.fd.scope.kind=.function
 co:D.fd.scope.isCoroutine=false
 gen:D.fd.scope.isGenerator=false
 kSuper:D.fd.scope.names.lookup ("super":Str)=some .globalImplicit
 kClass:D.fd.scope.names.lookup ("__class__":Str)=some .free
 kSelf:D.fd.scope.names.lookup ("self":Str)=some .local
 kCode:D.fd.scope.names.lookup ("code":Str)=some .local
 kTold:D.fd.scope.names.lookup ("told":Str)=some .local
 noCell:∀x∈D.fd.scope.names,x.2≠ .cell
 codeR:P.hb.CodeRec D.fd.code D.fd.qualname
 codeA:D.fd.code=.ref D.cda
 codeO:P.hb.get? D.cda=some D.ocd
 codeD:D.ocd.data=.fields D.vs
 codeF:D.vs[2]? =some (.str D.file D.tf)
 file:((P.prog.main.file:Str)==D.file)=true
 cell:P.hb.IsCell D.cc (some (.ref P.ec))
 bind:∀s:dG,AN P.hb s.heap→∀a b c,BindsTo s D.fd ⟨[a,b,c],[]⟩ [("self",a),("code",b),("told",c)]
 top:(P.prog.main.scope.names.lookup ("super":Str)).isSome=false
 sup:P.mg "super"=none∧P.mb "super"=some (.type "super")
 opaq:Looks (model P.prog P.w) P.hb (opaqueClassAbove (.ref P.ec)) none
 lim:P.hb.NoLimit
 lkCode:typeLookup (.type "Exception") "code"=pure none
 lkTold:typeLookup (.type "Exception") "told"=pure none
 name:P.mg "BasicError"=some (.ref P.ec)
theorem wpK{α:Type}{M:dO}{A:dJ}{x:Sem α}{Q:α→dG→Prop}{E:dF→dG→Prop}{s:dG}(h:∀K:α→dG→Prop,(∀v s,Q v s→K v s)→dH M A x K E s):dH M A x Q E s:=h Q fun _ _ q=>q
theorem atK{α:Type}{M:dO}{A:dJ}{c:Code}{x:Sem α}{Q:α→dG→Prop}{E:dF→dG→Prop}{s:dG}(h:∀(K:α→dG→Prop),(∀v s,Q v s→K v s)→PySem.wpAt M A c x K E s):PySem.wpAt M A c x Q E s:=h Q fun _ _ q=>q
theorem atG{α:Type}{M:dO}{A:dJ}{c:Code}{x:Sem α}{Q:α→dG→Prop}{E:dF→dG→Prop}{s:dG}(h:∀(A':dJ) (K:α→dG→Prop) (E':dF→dG→Prop),(∀v s,Q v s→K v s)→PySem.wpAt M A' c x K E' s):PySem.wpAt M A c x Q E s:=h A Q E fun _ _ q=>q
theorem atC{α:Type}{M:dO}{A:dJ}{c:Code}{x:Sem α}{Q:α→dG→Prop}{E:dF→dG→Prop}{s:dG}(h:∀(A':dJ) (c':Code) (K:α→dG→Prop) (E':dF→dG→Prop),(∀v s,Q v s→K v s)→PySem.wpAt M A' c' x K E' s):PySem.wpAt M A c x Q E s:=h A c Q E fun _ _ q=>q
theorem YT{α:Type}{M:dO}{A:dJ}{x:Sem α}{Q:α→dG→Prop}{E:dF→dG→Prop}{s:dG}(h:∀(K:α→dG→Prop) (E':dF→dG→Prop),(∀v s,Q v s→K v s)→(∀v s,E v s→E' v s)→dH M A x K E' s):dH M A x Q E s:=h Q E (fun _ _ q=>q) fun _ _ q=>q
theorem VQ{M:dO}{A:dJ}{c:Code}{R:Result→dG→Prop}{s:dG}(h:∀K:Result→dG→Prop,(∀v s,R v s→K v s)→codeAny M A c K s):codeAny M A c R s:=h R fun _ _ q=>q
noncomputable def eE (D:H3) (L:Addr):PySem.Env:=callEnv D.fd L D.fI
section
variable{P:PI}{D:H3}{A:dJ}{s:dG}
theorem Bc{h h':Heap}{a:Addr}{m:Str→Option dF}(H:h.Ns a m)(k:AN h h'):h'.Ns a m:=H.keeps k
theorem DF(X:Addr)(rest:List dF)(kw:List (Str×dF)):(Code.builtin "type.__call__" ⟨.ref X::rest,kw⟩).weight=1:=by kernel_rfl
theorem HJ{o:Expr}{name:Str}{apos pos:Pos}{args:List Expr}{env:PySem.Env}(hfew:methodCallForm args.length (backTo pos (starEach args env)) []=true)(hline:(apos.endLine==pos.line)=true):
  ∃pl:Sem Bool,eval (.Call (.Attribute o name apos) args [] pos) env=(do
   let ov ←attributeBase o name env (eval o env)
   standAt apos.atName
   let (f,first) ←holding [ov] (getMethod ov name pl)
   callWith pos f first (backTo pos (starEach args env)) []):=by
 haveI hpos:methodCallPos true o env apos pos=pure pos:=by unfold methodCallPos;simp[hline]
 refine ⟨(do return (←importBound o env).getD true),?_⟩
 simp only[arm_eval_Call];haveI hform:methodCallForm (args.length+([]:List Keyword).length) (backTo pos (starEach args env)) (backToKw pos (keywordEach [] env))=true:=hfew;haveI e2:∀ov:dF,methodCall o name apos pos env ov (args.length+([]:List Keyword).length) (backTo pos (starEach args env)) (backToKw pos (keywordEach [] env))=(do
   let (f,first) ←holding [ov] (getMethod ov name (do return (←importBound o env).getD true))
   callWith pos f first (backTo pos (starEach args env)) []):=by
  intro ov;unfold methodCall;simp only[hform,hpos];simp only[pure_bind];rfl
 simp only[e2]
theorem M8{h:Heap}{e C dx:Addr}{m:Str→Option dF}{o:Obj}(i:h.Inst e C m)(q:∃o',h.get? e=some o'∧o'.cls=o.cls∧o'.data=o.data∧o'.slots=o.slots∧∀d,o.dict=some d→o'.dict=some d)(hd:o.dict=some dx):h.get? e=some o∧h.Ns1 dx m:=by
 obtain ⟨o2,ho2,_,_,i⟩:=i;obtain ⟨o1,e1,c1,d1,s1,x1⟩:=q;have e:o1=o:=congr (congr (congr (congrArg Obj.mk c1) ((x1 _ hd).trans hd.symm)) d1) s1;subst e;refine ⟨e1,?_⟩;rw[e1]at ho2
 injection ho2 with ho2;subst ho2
 rcases i with ⟨q,_⟩|⟨dx',q,_,hns⟩
 ·rw[q]at hd;contradiction
 ·rw[q]at hd;injection hd with hd;subst hd;exact hns
theorem UK(K:Ok P)(R:Ll P D)(hk:AN P.hb s.heap)(hroom:A.depth+1<recursionLimit){c:Str}{t:Tok}{v:dF}{Q Er:dF→dG→Prop}
  (hq:∀e T dx m h' tk,AN s.heap h'→s.heap.get? e=none→s.heap.get? dx=none→h'.get? e=some {cls:=.ref P.ec,dict:=some dx,data:=.fields #[.ref T,.none,.none,.none,.bool false,.none]}→h'.Ns1 dx m→m "code"=some (.str c t)→Q (.ref e) {s with heap:=h',toks:=tk}):
  dH (model P.prog P.w) A (PySem.call (.ref P.ec) [.str c t,v]) Q Er s:=by
 obtain ⟨h0,g,d,t0,os⟩:=s;obtain ⟨p,hbody,hline⟩:=R.body;obtain ⟨ar,har,harn⟩:=R.params;refine wpAny_call_exc_init PySem.F.excBase_Exception (hk _ _ R.cls) (Bc R.ns hk) R.mi (hk _ _ R.fO) R.fC (fun h1 e hm=> ?_) (by show 2≤sizeLine;simp only[dU];decide)
 haveI k1:AN h0 h1:=hm.keeps;haveI k01:AN P.hb h1:=hk.trans k1;obtain ⟨T,he1,hT,hTo⟩:=hm.there;refine wpAny_call (ks_codeAny_call_defAt (s:=⟨h1,g,d,t0,os⟩) (by show A.depth+(Code.builtin "type.__call__" ⟨[.ref P.ec,.str c t,v],[]⟩).weight<_;simp only[DF];exact hroom) (k01 _ _ R.fO) R.fD ?_ ?_ hbody (R.bind ⟨h1,g,d,t0,os⟩ k01 _ _ _) R.noCell ?_ (fun h2 hn2 hk2=> ?_) R.co R.gen R.kind)
 ·exact R.lim.keeps k01
 ·exact R.codeR.keeps fun b o e=>k01 b o e
 ·intro x hx;simp only[aj,cL,or_false]at hx
  rcases hx with rfl|rfl|rfl
  ·exact R.kSelf
  ·exact R.kCode
  ·exact R.kTold
 refine atG fun A' K0 E' hK0=> ?_
 show PySem.wpAt _ _ (.func (ecBody p) (eE D h1.objs.size)) (execs (ecBody p) (eE D h1.objs.size)) _ _ ⟨h2,g,d,t0+3,os⟩
 haveI hself:(fun x=>[(("self":Str),Value.ref e),("code",.str c t),("told",v)].reverse.lookup x) "self"=some (.ref e):=by rfl
 haveI hcode:(fun x=>[(("self":Str),Value.ref e),("code",.str c t),("told",v)].reverse.lookup x) "code"=some (.str c t):=by rfl
 haveI htold:(fun x=>[(("self":Str),Value.ref e),("code",.str c t),("told",v)].reverse.lookup x) "told"=some v:=by rfl
 generalize hmL:(fun x=>[(("self":Str),Value.ref e),("code",.str c t),("told",v)].reverse.lookup x)=mL at hn2 hself hcode htold;haveI k02:AN P.hb h2:=fun b o q=>hk2 b o (k01 b o q);haveI hn2:h2.Ns h1.objs.size mL:=hn2;haveI he2:=hk2 _ _ he1;haveI hC2:=k02 _ _ R.cls;haveI hec:e≠P.ec:=fun q=>by haveI:=hm.new;simp only[q,hk _ _ R.cls]at this;contradiction
 haveI hL1:h1.get? h1.objs.size=none:=AR _;generalize h1.objs.size=L at hn2 hL1 ⊢;unfold ecBody;obtain ⟨pl,hpl⟩:=HJ (o:=.Call (.Name "super" (p 0)) [] [] (p 1)) (name:="__init__") (apos:=p 2) (pos:=p 4) (args:=[.Name "code" (p 3)]) (env:=eE D L) (by rfl) hline
 refine dq (atK fun K9 hK9=>ks_wpAt_Expr_any (ks_wpAt_MethodCall (he:=hpl) (atK fun K5 hK5=>ks_wpAt_super_base (f:=D.fI) (cc:=D.cda) R.kSuper R.kClass (by decide) rfl (k02 _ _ R.fO) R.fD har R.codeA (k02 _ _ R.codeO) R.codeD R.codeF R.file R.top ?_)) ?_ ?_)
 ·refine ks_loadName_global R.kind R.kSuper (loadGlobal_builtin (mg:=P.mg) (mb:=P.mb) ?_ R.sup.1 ?_ R.sup.2 ?_)
  ·show h2.Ns D.fd.globals P.mg
   simp only[R.glob];exact Bc K.gl k02
  ·show h2.Ns D.fd.builtins P.mb
   simp only[R.bi];exact Bc K.bi k02
  refine ⟨rfl,?_⟩;refine wpAny_loadName_free R.kind R.kClass (c:=D.cc) (by show D.fd.closure.lookup _=_;simp only[R.clo];rfl) ((let ⟨o,ho,hd⟩:=R.cell;⟨o,k02 _ _ ho,hd⟩:h2.IsCell D.cc (some (.ref P.ec)))) ?_
  refine eC R.kind (harn.symm▸R.kSelf) (m:=mL) hn2 (harn.symm▸hself) ?_;refine ks_wpAny_isType_cls hC2 rfl ⟨rfl,?_⟩;haveI hsub:Looks (model P.prog P.w) h2 (isSubtype (.ref P.ec) (.ref P.ec)) true:=fun A Q E s k q=>eA (h:=s.heap) (k _ _ hC2) (by rw[show (Value.ref P.ec::DU).contains (.ref P.ec)=true from List.elem_cons_self];exact q)
  refine ks_wpAny_call_super (D:=P.ec) (x:=e) (C:=P.ec) hC2 rfl he2 rfl (fun _ q=>by contradiction) hsub (fun h3 hso k3=>hK5 _ _ (wpK fun K6 hK6=> ?_))
  haveI k3:AN h2 h3:=k3;haveI k03:AN P.hb h3:=k02.trans k3;refine HI (C:=P.ec) (x:=e) (so:=h2.objs.size) (k03 _ _ R.cls) (k3 _ _ he2) rfl hso (R.opaq.keeps k03) hec (hK6 _ _ (wpK fun K7 hK7=> ?_));haveI hn3:(h3.push (OV e)).Ns L mL:=Bc hn2 (k3.trans (AN.push _ _));refine Lk (x:=e) rfl (evalArgs_plain (spliced_cons (ldc R.kind R.kCode hn3 hcode (spliced_nil ⟨Heap.get?_push_size _ rfl,?_⟩))));haveI k4:AN h2 (h3.push (OV e)):=k3.trans (AN.push _ _);refine UJ (T:=T) (k4 _ _ hC2) (k4 _ _ he2) (Heap.get?_push_size _ rfl) (fun h5 he5 k5=>hK7 _ _ (hK9 _ _ ?_));haveI hL5:L≠e:=fun q=>by rw[←q,hL1]at he1;exact xns he1
  have hn5:h5.Ns L mL:=let ⟨o,es,ep,ho,r⟩:=hn3;⟨o,es,ep,k5 _ _ hL5 ho,r⟩
  haveI k05:AN P.hb h5:=fun b o q=>k5 b o (fun z=>by simp only[z]at q;haveI:=hk _ _ q;simp only[hm.new]at this;exact xns this) (k4 _ _ (k02 b o q))
  haveI ks5:AN h0 h5:=fun b o q=>k5 b o (fun z=>by simp only[z,hm.new]at q;exact xns q) (k4 _ _ (hk2 _ _ (k1 b o q)))
  refine dq (dy (dj (ldc R.kind R.kCode hn5 hcode (ldc R.kind R.kSelf hn5 hself ?_))) rfl);refine M7 PySem.F.store_Exception (k05 _ _ R.cls) (Bc R.ns k05) R.ms R.mc R.lkCode he5 rfl rfl (fun _ q=>by contradiction) (fun h6 tk6 he6 hd6 k6=> ?_)
  have hn6:h6.Ns L mL:=let ⟨o,es,ep,ho,r⟩:=hn5;⟨o,es,ep,k6 _ _ hL5 ho,r⟩
  have hne:∀b o,P.hb.get? b=some o→b≠e:=fun b o q z=>by simp only[z]at q;haveI:=hk _ _ q;simp only[hm.new]at this;exact xns this
  haveI k06:AN P.hb h6:=fun b o q=>k6 b o (hne b o q) (k05 b o q);haveI ks6:AN h0 h6:=fun b o q=>k6 b o (fun z=>by simp only[z,hm.new]at q;exact xns q) (ks5 b o q)
  haveI hdx0:h0.get? h5.objs.size=none:=by
   cases q:h0.get? h5.objs.size with
   |none=>rfl
   |some o=>haveI:=ks5 _ _ q;simp only[AR]at this;exact xns this
  haveI hdxL:L≠h5.objs.size:=fun q=>by
   obtain ⟨o,es,ep,ho,_⟩:=hn5;simp only[q,AR]at ho;exact xns ho
  haveI hdxe:h5.objs.size≠e:=fun q=>by rw[←q,AR]at he5;exact xns he5
  haveI inst6:h6.Inst e P.ec (fun y=>if y="code" then some (.str c t) else none):=⟨_,he6,rfl,(fun _ q=>by contradiction),.inr ⟨_,rfl,hdxe,hd6⟩⟩
  refine dq (dy (dj (ldc R.kind R.kTold hn6 htold (ldc R.kind R.kSelf hn6 hself ?_))) rfl);refine store_attr PySem.F.store_Exception (k06 _ _ R.cls) (Bc R.ns k06) R.ms R.mt R.lkTold hec inst6 (fun h7 tk7 i7 k7 o7=> ?_) (ns:=["code"]) (fun y hy=> ?_) (by simp only[dU];decide)
  ·haveI hs:=M8 i7 (o7 _ he6) rfl;refine dj (wpAny_execs_nil (hK0 _ _ ⟨rfl,hq e _ h5.objs.size _ h7 tk7 ?_ hm.new hdx0 hs.1 hs.2 rfl⟩));intro b o q;refine k7 b o (fun z=>by simp only[z,hm.new]at q;exact xns q) (fun o₀ dx e1 e2 z=> ?_) (ks6 b o q)
   simp only[he6]at e1
   (injection e1 with e1;subst e1)
   (injection e2 with e2;subst e2)
   simp only[z,hdx0]at q;exact xns q
  ·by_cases q:y="code"
   ·simp only[q];exact .head _
   ·exact absurd (by simp[q]) hy
 ·show ((D.fd.scope.kind== .module)&&_)=false
  simp only[R.kind];rfl
 ·rfl
end
section
variable{P:PI}{μ ν:List Addr}{σ:AA}{h h':Heap}
theorem Sto.allocs(S:Sto P μ σ h)(k:AN h h'){as:List Addr}{cs:List AI}(hl:as.length=cs.length)(hn:as.Nodup)(ha:∀a∈as,h.get? a=none∧a≠dY)(hc:Ext μ as h h'→∀(i:Nat) (a:Addr) (c:AI),as[i]? =some a→cs[i]? =some c→AQ P (μ++as) h' a c):
  Sto P (μ++as) (σ++cs) h'∧Ext μ as h h':=by
 haveI x:Ext μ as h h':=k.ext fun b q=>(ha b q).1;haveI hoff:=fun {X:Addr} (e:h.get? X=none)=>S.off e;refine ⟨⟨S.sys,fun b o e=>k b o (S.base b o e),fun b q=> ?_,?_,by simp[S.len,hl],S.pre.trans (List.prefix_append _ _),fun i b d hi hd=> ?_⟩,x⟩
 ·rcases bV.mp q with q|q
  ·exact S.fresh b q
  ·exact ⟨(hoff (ha b q).1).2,(ha b q).2⟩
 ·exact cB.mpr ⟨S.nodup,hn,fun b hb' c hc'=>by intro q;exact (hoff (ha c hc').1).1 (q▸hb')⟩
 ·by_cases hlt:i<μ.length
  ·rw[bS hlt]at hi;rw[bS (by rw[←S.len];exact hlt)]at hd
   exact AQ.mono x (k b) (S.cell i b d hi hd)
  ·haveI hge:μ.length≤i:=bH.mp hlt;rw[bZ hge]at hi;rw[bZ (by rw[←S.len];exact hge)]at hd
   rw[←S.len]at hd;exact hc x _ b d hi hd
end
structure Je where
 nm:Str
 q:Str
 N:Addr
 bs:List dF
 sn:List Str
 sub:List dF
 ab:Bool
 col:Option Bool
 dd:Option Addr
 k0:Option dF
 k1:Option dF
 k2:Option dF
 k3:Option dF
 k5:Option dF
 mN:Str→Option dF
 fI:Addr
 oI:Obj
 fd:FuncData
noncomputable def lvBody (p:Nat→Pos):List Stmt:=[.Assign [.Attribute (.Name "self" (p 0)) "kind" (p 1)] (.Name "kind" (p 2)) (p 3),.Assign [.Attribute (.Name "self" (p 4)) "word" (p 5)] (.Name "word" (p 6)) (p 7),
 .Assign [.Attribute (.Name "self" (p 8)) "args" (p 9)] (.List [] (p 10)) (p 11),.Assign [.Attribute (.Name "self" (p 12)) "operands" (p 13)] (.List [] (p 14)) (p 15),.Assign [.Attribute (.Name "self" (p 16)) "operators" (p 17)] (.List [] (p 18)) (p 19)]
structure Lm (P:PI) (D:Je):Prop where
 cls:P.hb.get? P.lv=some (dc D.nm D.q P.lv D.N D.bs [.type "object"] true D.sn D.sub D.ab D.col D.dd D.k0 D.k1 D.k2 D.k3 D.k5 "object.__new__")
 ns:P.hb.Ns D.N D.mN
 ms:D.mN "__setattr__"=none
 mg:D.mN "__getattribute__"=none
 mA:∀k,D.mN (CW k)=none
 makes:Makes (model P.prog P.w) P.hb P.lv
 init:Looks (model P.prog P.w) P.hb (typeLookup (.ref P.lv) "__init__") (some (.ref D.fI))
 bindI:∀self,Looks (model P.prog P.w) P.hb (bindSpecial (.ref D.fI) self) (.ref D.fI,[self])
 fO:P.hb.get? D.fI=some D.oI
 fD:D.oI.data=.func D.fd
 body:∃p,D.fd.body=.stmts (lvBody p)
 kind:D.fd.scope.kind=.function
 co:D.fd.scope.isCoroutine=false
 gen:D.fd.scope.isGenerator=false
 kSelf:D.fd.scope.names.lookup ("self":Str)=some .local
 kKind:D.fd.scope.names.lookup ("kind":Str)=some .local
 kWord:D.fd.scope.names.lookup ("word":Str)=some .local
 noCell:∀x∈D.fd.scope.names,x.2≠ .cell
 codeR:P.hb.CodeRec D.fd.code D.fd.qualname
 bind:∀s:dG,AN P.hb s.heap→∀a b c,BindsTo s D.fd ⟨[a,b,c],[]⟩ [("self",a),("kind",b),("word",c)]
 lim:P.hb.NoLimit
 lk:∀k,typeLookup (.type "object") (CW k)=pure none
 name:P.mg "Level"=some (.ref P.lv)
structure Pv (P:PI) (h0:Heap) (L:Addr) (mL:Str→Option dF) (x dx:Addr) (n:Nat) (h:Heap) (m:Str→Option dF):Prop where
 obj:h.get? x=some (instObj P.lv dx)
 ns:h.Ns1 dx m
 ex:h.ExactDictFk dx
 keep:AN h0 h
 loc:h.Ns L mL
 apart:L≠x∧L≠dx∧dx≠x∧h0.get? x=none∧h0.get? dx=none
 few:∃ns,Within m ns∧ns.length≤n
section
variable{P:PI}{D:Je}{A:dJ}{h0 h:Heap}{g:Array GenState}{d:Drawn}{t:Nat}{os:dS}{L x dx:Addr}{mL m:Str→Option dF}
theorem Io:StoreFacts "object" [.type "object"] "object.__setattr__" "object":=PySem.F.store_object
theorem EQ(R:Lm P D)(hb:AN P.hb h0){n:Nat}(I:Pv P h0 L mL x dx n h m)(hn:n<100)(k:Nat){name:Str}(hname:name=CW k){v:dF}{Q:Unit→dG→Prop}{Er:dF→dG→Prop}
  (hq:∀h' tk',Pv P h0 L mL x dx (n+1) h' (fun y=>if y=name then some v else m y)→(∀b o,b≠x→b≠dx→h.get? b=some o→h'.get? b=some o)→Q () ⟨h',g,d,tk',os⟩):
  dH (model P.prog P.w) A (setAttr (.ref x) name v) Q Er ⟨h,g,d,t,os⟩:=by
 subst hname;have kb:AN P.hb h:=hb.trans I.keep;obtain ⟨aL,aD,aX,fx,fd⟩:=I.apart;obtain ⟨ns,hw,hlen⟩:=I.few;have hxC:x≠P.lv:=fun q=>by have:=hb _ _ R.cls;rw[←q,fx]at this;exact xns this
 have inst:h.InstFk x P.lv m:=⟨_,I.obj,rfl,(fun _ q=>by contradiction),.inr ⟨dx,rfl,aX,I.ns,I.ex⟩⟩
 refine store_attrFk Io (kb _ _ R.cls) (Bc R.ns kb) R.ms (R.mA k) (R.lk k) hxC inst (fun h' tk' i' k' o'=> ?_) hw (by rw[dU];lia)
 obtain ⟨o1,ho1,c1,d1,s1,x1⟩:=o' _ I.obj;have hdx:=x1 _ rfl;obtain ⟨oc,od,oda,osl⟩:=o1;dsimp only at c1 d1 s1 hdx;subst c1 d1 s1 hdx;have kk:∀b o,b≠x→b≠dx→h.get? b=some o→h'.get? b=some o:=fun b o n1 n2 e=>k' b o n1 (fun o₀ dx' e1 e2 z=>by
  rw[I.obj]at e1;(injection e1 with e1;subst e1);(injection e2 with e2;subst e2);exact n2 z) e
 obtain ⟨o2,ho2,_,_,hcase⟩:=i';rw[ho1]at ho2
 (injection ho2 with ho2;subst ho2)
 rcases hcase with ⟨q,_⟩|⟨dx',q,_,hns,hex⟩
 ·contradiction
 ·(injection q with q;subst q)
  refine hq h' tk' ⟨ho1,hns,hex,fun b o e=>kk b o (fun q=>by rw[q,fx]at e;exact xns e) (fun q=>by rw[q,fd]at e;exact xns e) (I.keep b o e),?_,I.apart,⟨_,Within.cons _ v hw,by simp;lia⟩⟩ kk
  obtain ⟨o,es,ep,ho,r⟩:=I.loc;exact ⟨o,es,ep,kk _ _ aL aD ho,r⟩
end
section
variable{P:PI}{D:Je}{A:dJ}{s:dG}
noncomputable abbrev Ey:Obj:={cls:=.type "list",data:=.seq ([]:List dF).toArray}
noncomputable def lE (D:Je) (L:Addr):PySem.Env:=callEnv D.fd L D.fI
theorem UL(R:Lm P D)(hk:AN P.hb s.heap)(hroom:A.depth+1<recursionLimit){vk vw:dF}{Q Er:dF→dG→Prop}
  (hq:∀x dx l1 l2 l3 m h' tk,AN s.heap h'→h'.get? x=some (instObj P.lv dx)→h'.Ns1 dx m→h'.ExactDictFk dx→m "kind"=some vk→m "word"=some vw→m "args"=some (.ref l1)→m "operands"=some (.ref l2)→m "operators"=some (.ref l3)→
   h'.get? l1=some Ey→h'.get? l2=some Ey→h'.get? l3=some Ey→(∀b∈[x,dx,l1,l2,l3],s.heap.get? b=none)→[x,dx,l1,l2,l3].Nodup→Q (.ref x) {s with heap:=h',toks:=tk}):
  dH (model P.prog P.w) A (PySem.call (.ref P.lv) [vk,vw]) Q Er s:=by
 obtain ⟨h0,g,d,t0,os⟩:=s;obtain ⟨p,hbody⟩:=R.body;have mk:Makes (model P.prog P.w) h0 P.lv:=⟨(let ⟨oc,od,cd,sl,e,r⟩:=R.makes.obj;⟨oc,od,cd,sl,hk _ _ e,r⟩),R.makes.made.keeps hk,R.makes.base.keeps hk,R.makes.self.keeps hk,R.makes.top.keeps hk,R.makes.call.keeps hk,R.makes.typ.keeps hk⟩
 refine wpAny_call (make_core mk (R.init.keeps hk) (fun self=>(R.bindI self).keeps hk) (.inl rfl) ?_);generalize hh1:(h0.push emptyDict).push (instObj P.lv h0.objs.size)=h1;have k1:AN h0 h1:=by refine hh1▸ ?_;exact (AN.push _ _).trans (AN.push _ _)
 have k01:AN P.hb h1:=hk.trans k1;have hx1:h1.get? (h0.objs.size+1)=some (instObj P.lv h0.objs.size):=by refine hh1▸ ?_;heap_get
 have hd1:h1.get? h0.objs.size=some emptyDict:=by refine hh1▸ ?_;exact Heap.get?_push_of_some _ (Heap.get?_push_size _ rfl)
 have fx:h0.get? (h0.objs.size+1)=none:=Heap.get?_none_of_le (Nat.le_succ _);have fd:h0.get? h0.objs.size=none:=AR _;have hL1:h1.get? h1.objs.size=none:=AR _;generalize hX:h0.objs.size+1=x at hx1 fx;have hdx:h0.objs.size≠x:=by refine hX▸ ?_;exact bo (cj _)
 generalize hDX:h0.objs.size=dx at hx1 hd1 fd hdx;refine ks_codeAny_call_defAt (s:=⟨h1,g,d,t0,os⟩) (by show A.depth+(Code.builtin "type.__call__" ⟨[.ref P.lv,vk,vw],[]⟩).weight<_;simp only[DF];exact hroom) (k01 _ _ R.fO) R.fD ?_ ?_ hbody (R.bind ⟨h1,g,d,t0,os⟩ k01 _ _ _) R.noCell ?_ (fun h2 hn2 hk2=> ?_) R.co R.gen R.kind
 ·exact R.lim.keeps k01
 ·exact R.codeR.keeps fun b o e=>k01 b o e
 ·intro y hy;simp only[aj,cL,or_false]at hy
  rcases hy with rfl|rfl|rfl
  ·exact R.kSelf
  ·exact R.kKind
  ·exact R.kWord
 refine atC fun A' c' K0 E' hK0=> ?_
 replace hK0:=fun s q=>hK0 .next s ⟨rfl,q⟩
 show PySem.wpAt _ _ _ (execs (lvBody p) (lE D h1.objs.size)) _ _ ⟨h2,g,d,t0+3,os⟩
 have hself:(fun y=>[(("self":Str),Value.ref x),("kind",vk),("word",vw)].reverse.lookup y) "self"=some (.ref x):=rfl;have hkind:(fun y=>[(("self":Str),Value.ref x),("kind",vk),("word",vw)].reverse.lookup y) "kind"=some vk:=rfl;have hword:(fun y=>[(("self":Str),Value.ref x),("kind",vk),("word",vw)].reverse.lookup y) "word"=some vw:=rfl;generalize hmL:(fun y=>[(("self":Str),Value.ref x),("kind",vk),("word",vw)].reverse.lookup y)=mL at hn2 hself hkind hword;generalize h1.objs.size=L at hn2 hL1 ⊢;have hk2:AN h1 h2:=hk2;have aL:L≠x∧L≠dx:=⟨(fun q=>by simp only[q,hx1]at hL1;contradiction),(fun q=>by simp only[q,hd1]at hL1;contradiction)⟩
 have e0:h2.Ns dx (fun _=>none):=⟨_,#[],_,hk2 _ _ hd1,rfl,fun e he=>absurd he (by simp),fun _=>rfl⟩
 have I2:Pv P h0 L mL x dx 0 h2 (fun _=>none):=⟨hk2 _ _ hx1,.of_empty e0,⟨_,hk2 _ _ hd1,rfl,rfl⟩,k1.trans hk2,hn2,⟨aL.1,aL.2,hdx,fx,fd⟩,[],Within.nil,bJ _⟩;have live:∀{n:Nat} {h m} {b},Pv P h0 L mL x dx n h m→h.get? b=none→h0.get? b=none∧b≠x∧b≠dx∧b≠L:=fun {n h m b} I e=>by
  refine ⟨?_,(fun q=>by simp only[q,I.obj]at e;contradiction),fun q=> ?_,fun q=> ?_⟩
  ·cases z:h0.get? b with
   |none=>rfl
   |some o=>simp only[I.keep _ _ z]at e;contradiction
  ·obtain ⟨od,ho,_⟩:=I.ex;simp only[q,ho]at e;contradiction
  ·obtain ⟨o,_,_,ho,_⟩:=I.loc;simp only[q,ho]at e;contradiction
 have push:∀{n:Nat} {h m} (o:Obj),Pv P h0 L mL x dx n h m→Pv P h0 L mL x dx n (h.push o) m:=fun {n h m} o I=>
  ⟨Heap.get?_push_of_some _ I.obj,I.ns.at fun _ e=>Heap.get?_push_of_some _ e,I.ex.keeps fun _ _ e=>Heap.get?_push_of_some _ e,I.keep.trans (AN.push _ _),Bc I.loc (AN.push _ _),I.apart,I.few⟩
 unfold lvBody;refine dq (atK fun K1 hK1=>dy (dj (ldc R.kind R.kKind I2.loc hkind (ldc R.kind R.kSelf I2.loc hself ?_))) rfl);refine EQ R hk I2 (by decide) 0 rfl fun h3 tk3 I3 _=>hK1 _ _ ?_
 refine dq (atK fun K1 hK1=>dy (dj (ldc R.kind R.kWord I3.loc hword (ldc R.kind R.kSelf I3.loc hself ?_))) rfl);refine EQ R hk I3 (by decide) 1 rfl fun h4 tk4 I4 _=>hK1 _ _ ?_
 have lst:∀{pos:Pos} {env:PySem.Env} {A:dJ} {s:dG} {Q E:dF→dG→Prop},Q (.ref s.heap.objs.size) {s with heap:=s.heap.push Ey}→dH (model P.prog P.w) A (eval (.List [] pos) env) Q E s:=fun h=>by
  simp only[arm_eval_List];exact dI (dZ (dI (spliced_nil (wpAny_newList h))))
 refine dq (atK fun K1 hK1=>dy (dj (lst (ldc R.kind R.kSelf (push Ey I4).loc hself ?_))) rfl);have fa:=live I4 (AR _);refine EQ R hk (push Ey I4) (by decide) 2 rfl fun h5 tk5 I5 k5=>hK1 _ _ ?_
 have ga5:=k5 _ _ fa.2.1 fa.2.2.1 (Heap.get?_push_size _ rfl);refine dq (atK fun K1 hK1=>dy (dj (lst (ldc R.kind R.kSelf (push Ey I5).loc hself ?_))) rfl);have fb:=live I5 (AR _);have fba:h4.objs.size≠h5.objs.size:=fun q=>by simp only[q,AR]at ga5;exact xns ga5
 refine EQ R hk (push Ey I5) (by decide) 3 rfl fun h6 tk6 I6 k6=>hK1 _ _ ?_
 have gb6:=k6 _ _ fb.2.1 fb.2.2.1 (Heap.get?_push_size _ rfl);have ga6:=k6 _ _ fa.2.1 fa.2.2.1 (Heap.get?_push_of_some _ ga5);refine dq (atK fun K1 hK1=>dy (dj (lst (ldc R.kind R.kSelf (push Ey I6).loc hself ?_))) rfl);have fc:=live I6 (AR _);have fca:h4.objs.size≠h6.objs.size:=fun q=>by simp only[q,AR]at ga6;exact xns ga6
 have fcb:h5.objs.size≠h6.objs.size:=fun q=>by simp only[q,AR]at gb6;exact xns gb6
 refine EQ R hk (push Ey I6) (by decide) 4 rfl fun h7 tk7 I7 k7=>hK1 _ _ ?_
 have gc7:=k7 _ _ fc.2.1 fc.2.2.1 (Heap.get?_push_size _ rfl);have gb7:=k7 _ _ fb.2.1 fb.2.2.1 (Heap.get?_push_of_some _ gb6);have ga7:=k7 _ _ fa.2.1 fa.2.2.1 (Heap.get?_push_of_some _ ga6);refine dj (wpAny_execs_nil (hK0 _ ?_));refine hq x dx h4.objs.size h5.objs.size h6.objs.size _ h7 tk7 I7.keep I7.obj I7.ns I7.ex rfl rfl rfl rfl rfl ga7 gb7 gc7 ?_ ?_
 ·exact cm.mpr ⟨fx,cm.mpr ⟨fd,cm.mpr ⟨fa.1,cm.mpr ⟨fb.1,cm.mpr ⟨fc.1,fun _ q=>nomatch q⟩⟩⟩⟩⟩
 ·have a:=fa.2;have b:=fb.2;have c:=fc.2;clear hK0;simp only[bp,aj,cL,or_false,not_or,not_false_eq_true,List.nodup_nil,and_true];exact ⟨⟨hdx.symm,a.1.symm,b.1.symm,c.1.symm⟩,⟨a.2.1.symm,b.2.1.symm,c.2.1.symm⟩,⟨fba,fca⟩,fcb⟩
end
section
variable{M:dO}{A:dJ}{E:dF→dG→Prop}{env:PySem.Env}
variable{nm q:Str}{C N:Addr}{bs bm:List dF}{hdct:Bool}{sn:List Str}{sub:List dF}{ab:Bool}{col:Option Bool}{dd:Option Addr}{k0 k1 k2 k3 k5:Option dF}{newId:String}
theorem M9{s:dG}{x:Sem dF}{Q:Flow→dG→Prop}(hbase:bm.contains (.type "BaseException")=true)(hh:A.handled=none)
  (h:dH M A x (fun v s₁=>Ex3 fun e T dx=>A4 (v=.ref e) (s₁.heap.get? C=some (dc nm q C N bs bm hdct sn sub ab col dd k0 k1 k2 k3 k5 newId)) (s₁.heap.get? e=some {cls:=.ref C,dict:=some dx,data:=.fields #[.ref T,.none,.none,.none,.bool false,.none]}) (E (.ref e) s₁)) E s):
  dH M A (raiseStmt env (some x) none) Q E s:=by
 haveI hcB:(Value.ref C::bm).contains (.type "BaseException")=true:=by rw[List.contains_cons,hbase,Bool.or_true]
 unfold raiseStmt;refine dI (db h (fun v s₁ h₁=> ?_) fun _ _ x=>x);obtain ⟨e,T,dx,rfl,hC,he,hE⟩:=h₁;obtain ⟨hp,g,d,tk,os⟩:=s₁
 repeat (first|with_reducible refine di he ?_|with_reducible refine di hC ?_|(with_reducible refine eA hC ?_;rw[hcB])|wp_step)
 exact wpAny_raiseNew_none hh hE
end
section
variable{P:PI}{D:H3}{N:Nm}{G:Nat→Option Mine.D}{call:Call}{k:Nat}
theorem Jf{C:Addr}{M:dO}{hb:Heap}{nm q:Str}{Ns:Addr}{bs bm:List dF}{hdct:Bool}{sn:List Str}{sub:List dF}{ab:Bool}{col:Option Bool}{dd:Option Addr}{k0 k1 k2 k3 k5:Option dF}{newId:String}(hC:hb.get? C=some (dc nm q C Ns bs bm hdct sn sub ab col dd k0 k1 k2 k3 k5 newId))
  (pos:Pos) (trees:List (Bool×Sem dF)) (A:dJ) (s:dG) (Q Er:dF→dG→Prop) (hp:trees.any (·.1)=false)
  (h:dH M A (evalArgs (.ref C) true trees []) (fun a s₁=>AN hb s₁.heap∧dH M A (PySem.call (.ref C) a.pos a.kw) Q Er s₁) Er s):dH M A (callWith pos (.ref C) [] trees []) Q Er s:=by
 refine callWith_of (P:=fun h=>AN hb h) (by rw[hp];rfl) (fun h k=>⟨.machine,.inr (.inl rfl),fun A Q E s kk q=> ?_⟩) h
 obtain ⟨hh,g,d,t,os⟩:=s;exact wpAny_keeperOf_exc (kk _ _ (k _ _ hC)) q
theorem WX.args{B:Bs}{C:Cf B}{y:Pt}{Q1:List dF→dG→Prop}{o:Option (Except (List Nat) (List Mine.D)×AA)}(h:WX C y (TU o))(k:∀s d σ1 vs z,y.le z→Sto B.P z.μ σ1 z.s.heap→AE B.P z.μ z.s.heap vs [.str s,d]→Xk C y s σ1→Q1 vs z.s):WE C y (rVs B) Q1 o:=by
 match o,h with
 |some (.error c,σ'),h=>exact h
 |some (.ok ds,σ'),h=>
  intro vs z l S V
  match ds,h with
  | [a,d],h=>
   cases a with
   |str s=>exact k s d σ' vs z l S V h
   |_=>exact aY h
theorem Rg(K:Ok P)(R:Ll P D):Fl ⟨P,N,G,call,k⟩:=by
 intro n H C m as xs np cp p ρ σ y Q c hg ha I h;unfold ExG;simp only[arm_exec_Raise];refine dI (dZ ?_);refine M9 (C:=P.ec) (nm:=D.nm) (q:=D.q) (N:=D.N) (bs:=D.bs) (bm:=DU) (hdct:=true) (sn:=D.sn) (sub:=D.sub) (ab:=D.ab) (col:=D.col) (dd:=D.dd) (k0:=D.k0) (k1:=D.k1) (k2:=D.k2) (k3:=D.k3) (k5:=D.k5) (newId:="Exception.__new__") (by decide) c.hc.handled ?_
 refine dI (db (Q:=fun v s₁=>Ex3 fun e T dx=>A4 (v=.ref e) (s₁.heap.get? P.ec=some (dc D.nm D.q P.ec D.N D.bs DU true D.sn D.sub D.ab D.col D.dd D.k0 D.k1 D.k2 D.k3 D.k5 "Exception.__new__")) (s₁.heap.get? e=some {cls:=.ref P.ec,dict:=some dx,data:=.fields #[.ref T,.none,.none,.none,.bool false,.none]}) (C.Er (.ref e) s₁)) ?_ (fun v s₃ h₃=>dI (dZ (dL h₃))) fun _ _ x=>x);refine dh (I.glob K c hg (.inl R.name) (Jf R.cls _ _ _ _ _ _ (CY as ha).1 (CS H c ha I (WX.args h fun s d σ1 vs z l S V hx=>⟨fun b o e=>S.base b o e,?_⟩))));apply V.e2;intro v1 v2 V1 V2;apply V1.str_e;intro t ok;refine UK K R (fun b o e=>S.base b o e) (by haveI:=c.hc.depth;lia) fun e T' dx m' h2 tk2 kp he0 hd0 he2 hn2 hm2=> ?_
 haveI l2:=Pt.le.keeps kp tk2;exact ⟨e,T',dx,rfl,kp _ _ (S.base _ _ R.cls),he2,hx e (z.to h2 tk2) (l.trans l2) (S.keeps kp) ⟨_,_,dx,m',t,he2,rfl,rfl,rfl,hn2,hm2,ok,⟨l.fresh e he0,l.fresh dx hd0⟩,⟨(S.off hd0).1,(S.off he0).1⟩,au rfl,.inl rfl⟩⟩
end
section
variable{P:PI}{D:Je}{k:Nat}
theorem Wn(R:Lm P D)(A:dJ)(s:dG)(Q E:dF→dG→Prop)(x dx:Addr)(m:Str→Option dF)(k:Nat)(v:dF)(hk:AN P.hb s.heap)(hx:s.heap.get? x=some (instObj P.lv dx))(hne:dx≠x)(hns:s.heap.Ns1 dx m)(hv:m (CW k)=some v)(hh:handedOut v=pure v)
  (hq:Q v {s with toks:=s.toks+1}):dH (model P.prog P.w) A (getAttr (.ref x) (CW k) true) Q E s:=by
 obtain ⟨h,g,d,t,os⟩:=s;exact load_attr (hk _ _ R.cls) (Bc R.ns hk) R.mg (R.mA k) (R.lk k) ⟨_,hx,rfl,(fun _ q=>by contradiction),.inr ⟨dx,rfl,hne,hns⟩⟩ hv hh hq
theorem Rh(R:Lm P D):RD P k where
 name:=R.name
 withC:=fun pos trees A stk s Q Er _ hp h=>Jf R.cls pos trees A s Q Er hp h
 made:=by
  intro μ σ s A stk vk vw dk dw Q Er hc S T V1 V2 hq;refine UL R (fun b o e=>S.base b o e) (by haveI:=hc.depth;lia) fun x dx l1 l2 l3 m h' tk kp hx hns hex g0 g1 g2 g3 g4 e1 e2 e3 hf hnd=> ?_
  haveI hsys:∀b,s.heap.get? b=none→b≠dY:=fun b e q=>by
   obtain ⟨o,ho⟩:=S.sys;simp only[q,S.base _ _ ho]at e;contradiction
  simp only[aj,cL,or_false]at hf;haveI fx:=hf x (.inl rfl);haveI z:=S.allocs kp (as:=[dx,l1,l2,l3]) (cs:=[.ins [dk,dw,.loc (σ.length+1),.loc (σ.length+2),.loc (σ.length+3)],.lst [],.lst [],.lst []]) rfl (bp.mp hnd).2 (fun a ha=>by
   simp only[aj,cL,or_false]at ha;haveI:=hf a (.inr ha);exact ⟨this,hsys a this⟩) ?_
  ·obtain ⟨S',x'⟩:=z;refine hq (.ref x) h' tk [dx,l1,l2,l3] x' S' (.obj hx ?_ ?_)
   ·intro q
    rcases bV.mp q with q|q
    ·exact (S.off fx).1 q
    ·exact (bp.mp hnd).1 q
   ·rw[←S.len];simp
  ·intro x' i a c ha hc;haveI at1:(μ++[dx,l1,l2,l3])[σ.length+1]? =some l1:=by rw[←S.len];simp
   haveI at2:(μ++[dx,l1,l2,l3])[σ.length+2]? =some l2:=by rw[←S.len];simp
   haveI at3:(μ++[dx,l1,l2,l3])[σ.length+3]? =some l3:=by rw[←S.len];simp
   cases i with
   |zero=>
    (injection ha with ha;subst ha);(injection hc with hc;subst hc)
    exact ⟨m,[vk,vw,.ref l1,.ref l2,.ref l3],hns,hex.imp fun od w=>⟨w.1,w.2.1⟩,g0,g1,g2,g3,g4,.cons (V1.mono x') (.cons (V2.mono x') (.cons (.loc at1) (.cons (.loc at2) (.cons (.loc at3) .nil))))⟩
   |succ i=>
    clear hns hex g0 g1 g2 g3 g4 at1 at2 at3;cases i with
    |zero=>(injection ha with ha;subst ha);(injection hc with hc;subst hc);exact ⟨[],0,e1,bC _,.nil⟩
    |succ i=>cases i with
     |zero=>(injection ha with ha;subst ha);(injection hc with hc;subst hc);exact ⟨[],0,e2,bC _,.nil⟩
     |succ i=>cases i with
      |zero=>(injection ha with ha;subst ha);(injection hc with hc;subst hc);exact ⟨[],0,e3,bC _,.nil⟩
      |succ=>exact xns ha
end
end Mine
end
section
set_option backward.match.sparseCases true
namespace Mine
open PySem Builtin Builtin.ObjectAttr
section
variable{prog:dP}{w:dN}{A:dJ}{E:dF→dG→Prop}{h:Heap}{g:Array GenState}{d:Drawn}{t:Nat}{os:dS}
variable{nm q:Str}{C N x dx:Addr}{bs bm:List dF}{hdct:Bool}{sn:List Str}{sub:List dF}{ab:Bool}{col:Option Bool}{dd:Option Addr}{k0 k1 k2 k3 k5:Option dF}{newId B:String}
 {mN m:Str→Option dF} {name:Str} {v:dF} {o:Obj}
theorem Pw{tk:Tok}{Q:Fin→dG→Prop}(FB:ExcAttrBase B bm)
  (hC:h.get? C=some (dc nm q C N bs bm true sn sub ab col dd k0 k1 k2 k3 k5 newId)) (hn:h.Ns N mN) (hna:mN name=none)
  (hB:typeLookup (.type B) name=pure none) (hx:h.get? x=some o) (hc:o.cls=.ref C) (hnc:∀c,o.data≠ .cls c) (hd:o.dict=some dx) (hns:h.Ns1 dx m) (hv:m name=some v) (hq:Q (.done (.ret v)) ⟨h,g,d,t,os⟩):
  dH (model prog w) A (Builtin.«object.__getattribute__» ⟨[.ref x,.str name tk],[]⟩) Q E ⟨h,g,d,t,os⟩:=by
 unfold Builtin.«object.__getattribute__»
 repeat (first|(with_reducible refine di hx ?_;rw[hc])|(with_reducible refine eD hC hn FB.mro hB ?_;rw[hna])|wp_step)
 have tail:dH (model prog w) A (instanceDict x false) (fun a s'=>dH (model prog w) A (inDict name a) (fun a s'=>a=some v∧s'=⟨h,g,d,t,os⟩) E s') E ⟨h,g,d,t,os⟩:=by
  unfold instanceDict
  repeat (first|(with_reducible refine di hx ?_;rw[hc])|with_reducible refine di hC ?_|wp_step)
  rw[hd]
  repeat (first|(with_reducible refine wpAny_nsGet hns.ns ?_;rw[hv])|wp_step)
  exact ⟨rfl,rfl⟩
 have key:dH (model prog w) A (match o.data with| .cls c=>pure (some c.ns)|_=>instanceDict x false) (fun a s'=>dH (model prog w) A (inDict name a) (fun a s'=>a=some v∧s'=⟨h,g,d,t,os⟩) E s') E ⟨h,g,d,t,os⟩:=by
  cases hod:o.data with
  |cls c=>exact absurd hod (hnc c)
  |_=>exact tail
 refine db key (fun a s' h1=>db h1 (fun a s' h2=> ?_) fun _ _ z=>z) fun _ _ z=>z;obtain ⟨rfl,rfl⟩:=h2
 repeat wp_step
 all_goals exact hq
theorem Px{M:dO}{nameV:dF}{Q:Unit→dG→Prop}(FB:ExcAttrBase B bm)(hC:h.get? C=some (dc nm q C N bs bm hdct sn sub ab col dd k0 k1 k2 k3 k5 newId))
  (hx:h.get? x=some o) (hc:o.cls=.ref C) (hq:Q () ⟨h,g,d,t,os⟩):dH M A (checkBuiltinCall "BaseException.__getattribute__" ⟨[.ref x,nameV],[]⟩) Q E ⟨h,g,d,t,os⟩:=by
 haveI hk:builtinKind "BaseException.__getattribute__"=some .slot:=by decide+kernel
 haveI hsplit:splitId "BaseException.__getattribute__"=some ("BaseException","__getattribute__"):=by decide+kernel
 haveI hcB:(Value.ref C::bm).contains (.type "BaseException")=true:=by rw[List.contains_cons,FB.hasBase,Bool.or_true]
 haveI ha:=F.args_bexc_ga (.ref x) nameV;simp only[checkBuiltinCall,hk,hsplit];refine dI ?_
 ·unfold isInstance
  repeat (first|(with_reducible refine di hx ?_;rw[hc])|(with_reducible refine eA hC ?_;rw[hcB])|wp_step)
  exact hq
theorem Ri{Q:dF→dG→Prop}{expr:Bool}(FB:ExcAttrBase B bm)
  (hC:h.get? C=some (dc nm q C N bs bm true sn sub ab col dd k0 k1 k2 k3 k5 newId)) (hn:h.Ns N mN) (hng:mN "__getattribute__"=none) (hgt:mN "__getattr__"=none) (hna:mN name=none)
  (hB:typeLookup (.type B) name=pure none) (hx:h.get? x=some o) (hc:o.cls=.ref C) (hnc:∀c,o.data≠ .cls c) (hd:o.dict=some dx) (hns:h.Ns1 dx m) (hv:m name=some v) (hh:handedOut v=pure v) (hq:Q v ⟨h,g,d,t+1,os⟩):
  dH (model prog w) A (getAttr (.ref x) name expr) Q E ⟨h,g,d,t,os⟩:=by
 haveI f3:=FB.ga.bind (.ref x);haveI hx0:(expr&&onTheHeap (Value.builtin "BaseException.__getattribute__"))=false:=by cases expr<;>rfl
 haveI hx2:(Value.builtin "BaseException.__getattribute__"==Value.builtin "object.__getattribute__")=false:=by decide+kernel
 haveI hx1:(onTheHeap (Value.ref C)&&Value.builtin "BaseException.__getattribute__"==Value.builtin "object.__getattribute__")=false:=by rw[hx2];rfl
 delta getAttr getAttrBy
 repeat (any_goals (first|assumption|(with_reducible refine di hx ?_;rw[hc])|(with_reducible refine eD hC hn FB.mro FB.ga.lookup ?_;rw[hng])|(with_reducible refine eD hC hn FB.mro FB.noGetattr ?_;rw[hgt])|wp_step))
 refine codeAny_call_builtin FB.ga.plain F.entry_bexc_ga (Px FB hC hx hc (Pw FB hC hn hna hB hx hc hnc hd hns hv ?_))
 show dH _ _ (handedOut v) _ _ _
 rw[hh];exact dL hq
end
end Mine
end
section
namespace Mine
open PySem PySem.Calls PyProof.Rows PySem.Spec PySem.W
section
variable{P:PI}{μ ν:List Addr}{σ:AA}{h h':Heap}
theorem Sto.putX(S:Sto P μ σ h){i:Nat}{a:Addr}{c c':AI}(hi:μ[i]? =some a)(hc0:σ[i]? =some c)(hkd:c.kd=c'.kd)(hs:∀b o,b≠a→h.get? b=some o→h'.get? b=some o)(hc:AQ P μ h' a c'):Sto P μ (AW σ i c') h'∧Ext μ [] h h':=by
 haveI ham:a∈μ:=bB hi;obtain ⟨o0,ho0,hk0⟩:=(S.cell i a c hi hc0).cls;obtain ⟨o1,ho1,hk1⟩:=hc.cls;have x:Ext μ [] h h':=⟨fun b o e n=>⟨o.slots,hs b o (fun q=>n (q▸ham)) e,fun _=>rfl⟩,fun b o e=>by
  by_cases q:b=a
  ·rw[q]at e ⊢; rw[ho0]at e;(injection e with e;subst e);exact ⟨o1,ho1,hk1.trans (hkd.symm.trans hk0.symm)⟩
  ·exact ⟨o,hs b o q e,rfl⟩,fun _ q=>by contradiction⟩
 refine ⟨⟨S.sys,fun b o e=> ?_,S.fresh,S.nodup,by simp only[Ct];exact S.len,S.pre,fun j b d hj hd=> ?_⟩,x⟩
 ·by_cases q:b=a
  ·rw[q,(S.fresh a ham).1]at e;exact xns e
  ·exact hs b o q (S.base b o e)
 ·rw[Bx]at hd;by_cases q:j=i∧i<σ.length
  ·rw[if_pos q]at hd;obtain ⟨rfl,_⟩:=q;rw[hi]at hj;(injection hj with hj;subst hj);(injection hd with hd;subst hd);exact hc
  ·rw[if_neg q]at hd;haveI hne:b≠a:=by
    rintro rfl
    obtain ⟨h1,e1⟩:=ap.mp hi;obtain ⟨h2,e2⟩:=ap.mp hj;haveI:j=i:=(List.getElem_inj S.nodup).mp (e2.trans e1.symm);exact q ⟨this,by rw[←S.len];exact h1⟩
   haveI z:=AQ.mono (ν:=[]) x (fun o e=>hs b o hne e) (S.cell j b d hj hd);rwa[af]at z
end
theorem Py{C:List dF→Prop}(h0:C [])(h1:∀x t y u v r,C r→C (.int x t:: .int y u::v::r))(n:Nat):∀l:List dF,l.length≤n→TriplesOk l→C l:=by
 induction n with
 |zero=>intro l hl _;cases l with
  |nil=>exact h0
  |cons=>contradiction
 |succ n ih=>
  intro l hl h;cases l with
  |nil=>exact h0
  |cons a l=>cases a with
   |int x t=>cases l with
    |nil=>exact aY h
    |cons b l=>cases b with
     |int y u=>cases l with
      |nil=>exact aY h
      |cons v r=>exact h1 x t y u v r (ih r (ag (bR _ 2) (cW hl)) h)
     |_=>exact aY h
   |_=>exact aY h
theorem Ip(pos:Pos)(a b:Int)(c:dF)(l:List dF)(ht:TriplesOk l):codeAmong pos (l++[rawInt a,rawInt b,c])≠none→codeAmong pos l≠none∨(a=pos.line∧b=pos.col):=by
 refine Py (C:=fun l=>codeAmong pos (l++[rawInt a,rawInt b,c])≠none→codeAmong pos l≠none∨(a=pos.line∧b=pos.col)) (fun h=> ?_) (fun x t y u v r ih h=> ?_) l.length l (bJ _) ht
 ·right
  by_cases q:(a==(pos.line:Int)&&b==(pos.col:Int))=true
  ·rw[aw]at q;exact ⟨eq_of_beq q.1,eq_of_beq q.2⟩
  ·exact absurd (if_neg q:(if (a==(pos.line:Int)&&b==(pos.col:Int))=true then some c else codeAmong pos [])=none) h
 ·by_cases q:(x==(pos.line:Int)&&y==(pos.col:Int))=true
  ·exact .inl fun e=>xns ((if_pos q:(if (x==(pos.line:Int)&&y==(pos.col:Int))=true then some v else codeAmong pos r)=some v).symm.trans e).symm
  ·exact (ih fun e=>h ((if_neg q:(if (x==(pos.line:Int)&&y==(pos.col:Int))=true then some v else codeAmong pos (r++[rawInt a,rawInt b,c]))=_).trans e)).imp (fun n e=>n ((if_neg q:(if (x==(pos.line:Int)&&y==(pos.col:Int))=true then some v else codeAmong pos r)=_).symm.trans e)) id
structure OW where
 fh:Addr
 oH:Obj
 fd:FuncData
noncomputable def hrBody (p:Nat→Pos):List Stmt:=[.Try [.Return (some (.Call (.Name "work" (p 0)) [] [] (p 1))) (p 2)] [.ExceptHandler (some (.Name "BasicError" (p 3))) (some "refusal") [.Return (some (.Attribute (.Name "refusal" (p 4)) "code" (p 5))) (p 6)] (p 7)] [] [] (p 8)]
structure Rj (P:PI) (D:OW):Prop where
 name:P.mg "_law_heard"=some (.ref D.fh)
 fO:P.hb.get? D.fh=some D.oH
 fD:D.oH.data=.func D.fd
 body:∃p,D.fd.body=.stmts (hrBody p)
 glob:D.fd.globals=dR
 bi:D.fd.builtins=dT
 kind:D.fd.scope.kind=.function
 co:D.fd.scope.isCoroutine=false
 gen:D.fd.scope.isGenerator=false
 kWork:D.fd.scope.names.lookup ("work":Str)=some .local
 kRef:D.fd.scope.names.lookup ("refusal":Str)=some .local
 kBE:D.fd.scope.names.lookup ("BasicError":Str)=some .globalImplicit
 noCell:∀x∈D.fd.scope.names,x.2≠ .cell
 codeR:P.hb.CodeRec D.fd.code D.fd.qualname
 bind:∀a,bindArgs D.fd ⟨[a],[]⟩=pure [(("work":Str),a)]
 lim:P.hb.NoLimit
 bmain:Ex2 fun bm o=>A7 (P.mg "__builtins__"=some (.ref bm)) (bm≠dT) (bm≠dR) (P.hb.get? bm=some o) (o.cls=.type "module") (o.dict=some dT) (o.data=.plain)
 tab:∀names c T j,P.cdOf names=some (c,T,j)→CodeHd P.hb c T∧P.mu[j]? =some T
 inj:∀a b,P.hp a=P.hp b→a=b
section
variable{P:PI}{N:Nm}{G:Nat→Option D}{call:Call}{μ ν:List Addr}{σ σ':AA}{A:dJ}{s:dG}{Q Er:dF→dG→Prop}{stk:List PySem.Env}{k n m:Nat}{env:PySem.Env}{ρ:Loc}{sc lsc:dQ}
theorem YU{b:Bool}(h:(!b)=true):b=false:=by cases b<;>first|rfl|exact xbf h
theorem Rk{q j:Nat}{e:E}{x:Expr}{C:Expr→Prop}(hm:mE N (m+1) sc (.heard q j e) x=true)(k:∀np b lp cp lsc,N.hj=some j→N.hp q=(lp.line,lp.col)→
  ED N sc lsc []=true→Af sc "_law_heard"=true→lsc.kind=.function→lsc.isCoroutine=false→lsc.isGenerator=false→mE N m lsc e b=true→C (.Call (.Name "_law_heard" np) [.Lambda ⟨[],[],none,[],[],none,[]⟩ b lsc lp] [] cp)):C x:=
 Bz hm fun _ np xs cp h=>JR (C:=fun y=>C (.Call (.Name y np) xs [] cp)) h fun hg h=>Hw (C:=fun xs=>C (.Call (.Name "_law_heard" np) xs [] cp)) h fun z h=>Ac h fun v h=>Ac h fun u h=>An (C:=fun z=>C (.Call (.Name "_law_heard" np) [z] [] cp)) v.2 (An (C:=fun a=>C (.Call (.Name "_law_heard" np) [.Lambda a _ _ _] [] cp)) u.2 (by
  haveI h1:=AC h;haveI h2:=AC h1.1;haveI h3:=AC h2.1;haveI h4:=AC h3.1;haveI h5:=AC h4.1;haveI h6:=AC h5.1;haveI h7:=AC h6.1;exact k np _ _ cp _ (eq_of_beq h7.1) (Prod.ext (eq_of_beq h7.2) (eq_of_beq h6.2)) h5.2 hg (eq_of_beq h4.2) (YU h3.2) (YU h2.2) h1.2))
theorem UM{ev:E→AA→Mine.R}{e:E}{es:List E}{ds:List D}{R:Prop}(h:evL ev (e::es) σ=some (.ok ds,σ'))(k:∀d σ1 ds',ev e σ=some (.ok d,σ1)→evL ev es σ1=some (.ok ds',σ')→ds=d::ds'→R):R:=by
 unfold evL at h;generalize q1:ev e σ=o at h;revert h q1;refine R_e o (fun _ h=>xns h) (fun d σ1 q1 h=> ?_) fun c σ' _ h=> ?_
 ·dsimp only at h;generalize q:evL ev es σ1=o at h;revert h q;exact J7 o (fun _ h=>xns h) (fun ds' σ2 q h=>by injection h with h;injection h with h91 h92;injection h91 with h91;exact k d σ1 ds' q1 (h92▸q) h91.symm) fun _ _ _ h=>by injection h with h;injection h with h _;contradiction
 ·injection h with h;injection h with h _;contradiction
theorem loc_e{i:Nat}{d:D}{σ1:AA}{R:Prop}(h:ev call G (n+1) (.loc i) ρ σ=some (.ok d,σ1))(k:ρ[i]? =some (some d)→σ1=σ→R):R:=by
 replace h:(match ρ[i]? with|some (some d)=>Ab d σ|_=>none)=some (.ok d,σ1):=h
 cases q:ρ[i]? with
 |none=>rw[q]at h;exact xns h
 |some o=>cases o with
  |none=>rw[q]at h;exact xns h
  |some d'=>rw[q]at h;(injection h with h;injection h with h91 h92;injection h91 with h91;subst h91;subst h92);exact k q rfl
def UN (P:PI) (N:Nm) (μ:List Addr) (env:PySem.Env) (ρ:Loc) (h:Heap):Prop:= ∀(i:Nat) (x:Str) (d:D),N.names[i]? =some x→ρ[i]? =some (some d)→Vis env x→∃v,AH P μ h v d∧Holds env h x v
theorem Pz{M:dO}{Q:dF→dG→Prop}(hs:ScR sc env)(hk:env.scope.kind=.function)(hV:UN P N μ env ρ s.heap){i:Nat}{x:Str}{pos:Pos}{d:D}(hx:N.names[i]? =some x)(hi:DS sc x=true)(hd:ρ[i]? =some (some d))(hq:∀v,AH P μ s.heap v d→Q v s):
  dH M A (eval (.Name x pos) env) Q Er s:=
 wpAny_Name (aW (hV i x d hx hd (JS hi hs)) fun v hv=>hv.2.elim (fun h=>aW h.2 fun m hm=>eC hk h.1 hm.1 hm.2 (hq v hv.1))
  fun h=>aW h.2 fun c hc=>h.1.elim (fun k=>wpAny_loadName_cell hk k hc.1 hc.2 (hq v hv.1)) fun k=>wpAny_loadName_free hk k hc.1 hc.2 (hq v hv.1) (Ei hi).2) (Ei hi).1
theorem NA{e:E}{x:Expr}{d:D}{σ1:AA}(hsi:Dh e=true)(h1:ev call G n e ρ σ=some (.ok d,σ1))(hm:mE N m sc e x=true)(hs:ScR sc env)(hk:env.scope.kind=.function)(hV:UN P N μ env ρ s.heap){Q:dF→dG→Prop}(hq:∀v tk,σ1=σ→AH P μ s.heap v d→Q v {s with toks:=tk}):
  dH (model P.prog P.w) A (eval x env) Q Er s:=by
 cases n with
 |zero=>exact xns h1
 |succ n=>cases m with
  |zero=>exact xbf hm
  |succ m=>cases e with
   |cst d'=>
    cases h1;cases d with
    |int z=>
     exact Ac hm fun v hm=>aW v.2 fun kd e=>aW e fun p e=>Ac hm fun w hm=>by
      rw[e,w.2,←(of_decide_eq_true hm:z=w.1)];exact wpAny_Constant_int (hq _ _ rfl (.int _ _))
    |_=>exact xbf hsi
   |loc i=>
    exact loc_e h1 fun hd e=>Ac hm fun v hm=>aW v.2 fun p ex=>by
     rw[ex];exact Pz hs hk hV (eq_of_beq (AC hm).1) (AC hm).2 hd fun v hv=>hq v s.toks e hv
   |_=>exact xbf hsi
theorem NB(hs:ScR sc env)(hk:env.scope.kind=.function){pos:Pos}(as:List E):∀{xs:List Expr} {ds:List D} {s:dG} {Q:List dF→dG→Prop},as.all Dh=true→evL (fun e σ=>ev call G n e ρ σ) as σ=some (.ok ds,σ')→Aj (mE N m sc) as xs=true→
  UN P N μ env ρ s.heap→(∀vs tk,AE P μ s.heap vs ds→Q vs {s with toks:=tk})→dH (model P.prog P.w) A (spliced (backTo pos (starEach xs env))) Q Er s:=by
 induction as with
 |nil=>
  intro xs ds s Q _ h hm _ hq;cases xs with
  |nil=>(injection h with h;injection h with h91 h92;injection h91 with h91;subst h91;subst h92);exact spliced_nil (hq [] s.toks .nil)
  |cons=>exact xbf hm
 |cons e as ih=>
  intro xs ds s Q hsi h hm hV hq;cases xs with
  |nil=>exact xbf hm
  |cons x xs=>
   rw[Cp (AC hm).1];exact spliced_cons (UM h fun d σ1 ds' h1 h2 e=>NA (AC hsi).1 h1 (AC hm).1 hs hk hV fun v tk e1 hv=>ih (s:={s with toks:=tk}) (AC hsi).2 (e1▸h2) (AC hm).2 hV fun vs tk2 hvs=>hq (v::vs) tk2 (e▸ .cons hv hvs))
end
section
variable{P:PI}{N:Nm}{G:Nat→Option D}{call:Call}{μ ν:List Addr}{σ σ':AA}{A:dJ}{s:dG}{Q Er:dF→dG→Prop}{stk:List PySem.Env}{k n m:Nat}{env:PySem.Env}{ρ:Loc}{sc lsc:dQ}{M:dO}
theorem H4{pos:Pos}{x:Str}{v:dF}(K:Ok P)(hk:env.scope.kind=.function)(hg:env.globals=dR)(hb:env.builtins=dT)(S:Sto P μ σ s.heap)(h:env.kindOf x=some .globalImplicit∧(x==("__debug__":Str))=false)
  (hv:P.mg x=some v) (hq:Q v s):dH M A (eval (.Name x pos) env) Q Er s:=by
 refine wpAny_Name (PySem.W.ks_loadName_global hk h.1 ?_) h.2;unfold loadGlobal;rw[hg,hb];refine dI (wpAny_nsGet (K.glS S) ?_);rw[hv];exact dL hq
theorem Cx.deep(hc:Cx A stk (k+1))(el:PySem.Env):Cx (A.deeper el) (el::stk) k:=by
 refine ⟨hc.handled,?_,?_,?_⟩
 ·show A.depth+1+k+5<_
  have:=hc.depth;lia
 ·show A.units+3+100*(k+1)<_
  have:=hc.units;lia
 ·show A.frames.map _=_
  rw[hc.frames];rfl
theorem B7.deep{h h1:Heap}{el:PySem.Env}{L:Addr}{mL:Str→Option dF}(T:B7 P μ stk h)(kp:AN h h1)(hk:el.scope.kind=.function)(hf:el.frame=some L)(hoff:L∉μ∧P.hb.get? L=none)(hns:h1.Ns L mL):B7 P μ (el::stk) h1:=by
 have T0:=T.mono (kp.ext (μ:=μ) (ν:=[]) fun _ q=>by contradiction)
 rw[af]at T0;obtain ⟨ob,es,ep,hob,hdd,_⟩:=id hns;refine ⟨⟨by rw[hk];decide,⟨_,ob,hf,hoff.2,hob,by rw[hdd];intro vs q;cases q⟩,T0.1⟩,fun en hen L hL=> ?_⟩
 rcases aj.mp hen with rfl|hen
 ·rw[hf]at hL;(injection hL with hL;subst hL);exact ⟨hoff.1,_,hns⟩
 ·exact T0.2 en hen L hL
theorem KT{f:dF}{l:List (Bool×Sem dF)}{Q:Args→dG→Prop}{E:dF→dG→Prop}(hl:l.any (·.1)=false)(h:dH M A (spliced l) (fun vs s'=>Q ⟨vs,[]⟩ s') E s):dH M A (evalArgs f true l []) Q E s:=by
 cases l with
 |nil=>
  unfold evalArgs
  show dH M A (spliced [] >>= _) Q E s
  exact dI (db h (fun vs s' h'=>dW (dI (dL (dI (dL (dL h')))))) fun _ _ x=>x)
 |cons p l=>
  obtain ⟨b,x⟩:=p;cases b with
  |false=>exact evalArgs_plain h
  |true=>exact xbf hl.symm
theorem Wo(K:Ok P)(KN:Qx P N G)(h0n:∀i:Nat,N.names[i]? ≠some (".0":Str))(lim:P.hb.NoLimit){f:Nat}{as:List E}{b:Expr}{ds:List D}{σ0 σ1:AA}{qual:Str}{cl:List (Str×Addr)}{pm ctv:dF}{c' lam:Addr}{r:Ro}{k':Nat}
  (F:FR P μ N.names env ρ s.heap) (hs:ScR sc env) (hok:ED N sc lsc []=true) (hk:lsc.kind=.function) (hco:lsc.isCoroutine=false) (hgen:lsc.isGenerator=false) (hmb:mE N m lsc (.call f as) b=true) (hsi:as.all Dh=true)
  (hds:evL (fun e σ=>ev call G n e ρ σ) as σ0=some (.ok ds,σ1)) (hcl1:∀x c,cl.lookup x=some c→env.cells.lookup x=some c) (hcl2:∀x,(x,NameKind.free)∈lsc.names→(cl.lookup x).isSome=true)
  (hlam:s.heap.get? lam=some (kla_obj "<lambda>" qual ⟨[],[],none,[],[],none,[]⟩ b lsc cl pm c' ctv)) (hcd:s.heap.CodeRec (.ref c') qual) (S:Sto P μ σ s.heap) (T:B7 P μ stk s.heap) (hc:Cx A stk (k'+1))
  (HC:∀a,P.fn f=some a→∀(μ:List Addr) (s:dG) (A:dJ) (stk:List PySem.Env) (vs:List dF) (Q Er:dF→dG→Prop),
   Cx A stk k'→Sto P μ σ s.heap→B7 P μ stk s.heap→AE P μ s.heap vs ds→AY P μ r σ' s Q Er→dH (model P.prog P.w) A (PySem.call (.ref a) vs) Q Er s)
  (hq:AY P μ r σ' s Q Er):dH (model P.prog P.w) A (PySem.call (.ref lam) []) Q Er s:=by
 cases m with
 |zero=>exact xbf hmb
 |succ m=>
 revert hlam;apply KH hmb;intro x np xs cp hx hgx hax hlam;obtain ⟨a,hga,hfa⟩:=KN.fn f x hx;obtain ⟨o,fd,ho,hd⟩:=K.fnObj f a hfa;have hlim:s.heap.NoLimit:=lim.keeps S.base;refine wpAny_call (kla_callFunE (by have:=hc.depth;lia) hlam rfl hco hgen rfl hcd ?_)
 have hb:bindArgs (kla_fn "<lambda>" qual ⟨[],[],none,[],[],none,[]⟩ (.Call (.Name x np) xs [] cp) lsc cl pm (.ref c') ctv) ⟨[],[]⟩=pure []:=rfl;rw[hb];refine dL (wpAny_newFunctionEnv (fun y hy=>(BG hok (x:=y.1) (kd:=y.2) hy).1) (fun _ q=>by contradiction) (fun h₁ hns hsb=>⟨hlim.fresh _ hsb,?_⟩) hk)
 have kp:AN s.heap h₁:=fun b o e=>by
  have hne:b≠s.heap.objs.size:=fun q=>by rw[q,AR]at e;exact xns e
  exact (hsb.2 b hne).trans (Heap.get?_push_of_some _ e)
 refine kla_codeExpr (YT fun K0 E0 hK0 hE0=> ?_);generalize hel:newEnv lsc s.heap.objs.size dR cl (qual++".<locals>.") (some lam) (.ref c') none dT=el at hE0 ⊢;have hel1:el.scope=lsc:=by rw[←hel];rfl
 have hel2:el.globals=dR:=by rw[←hel];rfl
 have hel3:el.builtins=dT:=by rw[←hel];rfl
 have hel4:el.cells=cl:=by rw[←hel];rfl
 have hel5:el.frame=some s.heap.objs.size:=by rw[←hel];rfl
 have x0:Ext μ [] s.heap h₁:=kp.ext fun _ q=>by contradiction
 have S1:Sto P μ σ h₁:=S.keeps kp;have hoff:=S.off (AR s.heap);have F1:FR P μ N.names env ρ h₁:=by have:=F.mono x0;rwa[af]at this
 have T1:B7 P μ (el::stk) h₁:=T.deep kp (hel1.symm▸hk) hel5 hoff hns;have hc1:=hc.deep el;have hkd:∀y,el.kindOf y=lsc.names.lookup y:=fun y=>by show el.scope.names.lookup y=_;rw[hel1]
 have hs1:ScR lsc el:=fun y=>.inl (hkd y);have outer:∀y,(y,NameKind.free)∈lsc.names→env.kindOf y=some .cell∨env.kindOf y=some .free:=fun y hm=>by
  rcases (BG hok hm).2.2 rfl with q|q
  ·rcases hs y with e|⟨e,_⟩
   ·exact .inl (e.trans q)
   ·rw[q]at e;contradiction
  ·rcases hs y with e|⟨_,e⟩
   ·exact .inr (e.trans q)
   ·exact .inl e
 have hV:UN P N μ el ρ h₁:=fun i y d hy hd hv=>by
  have hfree:lsc.names.lookup y=some .free:=by
   unfold Vis at hv;rw[hkd]at hv
   rcases hv with q|q|q
   ·rcases ((BG hok (mem_of_lookup q)).2.1 rfl).2 with e|⟨_,e,_⟩
    ·exact absurd (e▸hy) (h0n i)
    ·contradiction
   ·exact absurd rfl (BG hok (mem_of_lookup q)).1
   ·exact q
  have hm:=mem_of_lookup hfree;have ho:=outer y hm;obtain ⟨v,hvd,hh⟩:=F1.var i y d hy hd (.inr ho);refine ⟨v,hvd,.inr ⟨.inr ((hkd y).trans hfree),?_⟩⟩;obtain ⟨c,hc⟩:=cJ.mp (hcl2 y hm)
  rcases hh with ⟨kk,_⟩|⟨_,c',hc',hcv⟩
  ·rcases ho with ho|ho<;>rw[kk]at ho<;>contradiction
  ·have:=hcl1 y c hc;rw[hc']at this
   (injection this with this;subst this)
   exact ⟨_,hel4▸hc,hcv⟩
 refine dh (H4 (s:=⟨h₁,s.gens,s.drawn,_,s.os⟩) K (hel1▸hk) hel2 hel3 S1 (EK hgx hs1) hga ?_);generalize A.deeper el=A1 at hc1 hE0 ⊢;refine callWith_function (o:=o) (fd:=fd) (KT (CY as hax).1 ?_);refine NB hs1 (hel1▸hk) as hsi hds hax hV fun vs tk hvs=>⟨⟨S1.base _ _ ho,hd⟩,?_⟩;refine HC a hfa μ ⟨h₁,s.gens,s.drawn,tk,s.os⟩ _ _ vs _ _ hc1 S1 T1 hvs ?_;cases r with
 |ok d=>
  intro v h' tk ν x2 S2 V2;exact hK0 _ _ (hq v h' tk _ (x0.trans (by rw[af];exact x2)) S2 V2)
 |ex c=>
  intro e h' tk ν x2 S2 X2;have x3:Ext μ ν s.heap h':=x0.trans (by rw[af];exact x2)
  refine hE0 _ ⟨h',s.gens,s.drawn,tk,s.os⟩ ?_;refine Lh (s:=⟨h',s.gens,s.drawn,tk,s.os⟩) hc1.frames hel5 (T1.mono x2) S2 x3 (fun b o e=>S.base b o e) (X2.base x0.fresh) fun h2 x2 S2 X2=> ?_;exact hq e h2 tk ν x2 S2 X2
end
set_option tactic.hygienic true in
theorem NC{α:Type}(ts:Array α)(i:Nat)(x:α)(h:ts[i]? =some x):ts.setIfInBounds i x=ts:=by
 apply Array.ext_getElem?;intro j;rw[Array.getElem?_setIfInBounds];split
 ·rename_i q;subst q;refine aW (ck.mp h) fun hl e=> ?_;rw[if_pos hl,h]
 ·rfl
section
variable{P:PI}{N:Nm}{G:Nat→Option Mine.D}{call:Call}{μ ν:List Addr}{σ σ':AA}{A:dJ}{s:dG}{Q Er:dF→dG→Prop}{stk:List PySem.Env}{k n m:Nat}{env:PySem.Env}{ρ:Loc}{sc lsc:dQ}{M:dO}{D:OW}{C:H3}
theorem P0{hb:Heap}{c:List Nat}{e:Addr}{Q:Unit→dG→Prop}{E:dF→dG→Prop}(X:ExR P μ hb c e s.heap)(h:∀h',AN s.heap h'→Q () {s with heap:=h'}):dH M A (setFlight (.ref e) none) Q E s:=by
 obtain ⟨oe,vs,dx,m,t,h1,h2,h3,h4,h5,h6,h7,h8,h9,h10,h11⟩:=X;unfold setFlight
 rcases h11 with q|⟨T,oT,ts,q1,q2,q3,q4,q5,q6⟩
 ·refine dI (dm h1 h3 q ?_);exact dL (h s.heap (AN.refl _))
 ·refine dI (dm h1 h3 q1 ?_);rw[if_pos (show (Value.ref T != Value.none)=true from rfl)]
  refine wpAny_setField q4 q5 (ck.mp q6).1 (h _ ?_);intro b o hbo;by_cases q:b=T
  ·subst q;rw[q4]at hbo;(injection hbo with hbo;subst hbo);haveI hd3:=Obj.data_mapFields q5 (·.setIfInBounds 3 Value.none)
   haveI:=Heap.get?_update_self (Obj.mapFields (·.setIfInBounds 3 Value.none)) q4 (Obj.isFreed_of_fields hd3)
   refine Eq.trans this ?_;obtain ⟨oc,od,oda,osl⟩:=oT;simp only at q5;subst q5;simp only[Obj.mapFields];rw[NC _ _ _ q6]
  ·exact (Heap.get?_update_other _ _ (Ne.symm q)).trans hbo
theorem ND(K:Ok P)(R:Rj P D)(RE:Ll P C){lam:Addr}{r r':Ro}{k':Nat}(hfn:FnAt lam s.heap)(hr:r'=match r with| .ok d=>.ok d| .ex c=>.ok (.str c))(S:Sto P μ σ s.heap)(T:B7 P μ stk s.heap)(hc:Cx A stk (k'+1))
  (L:∀(s':dG) (A':dJ) (stk':List PySem.Env) (Q' Er':dF→dG→Prop),AN s.heap s'.heap→Cx A' stk' k'→Sto P μ σ s'.heap→B7 P μ stk' s'.heap→AY P μ r σ' s' Q' Er'→dH (model P.prog P.w) A' (PySem.call (.ref lam) []) Q' Er' s')
  (hq:AY P μ r' σ' s Q Er):dH (model P.prog P.w) A (PySem.call (.ref D.fh) [.ref lam]) Q Er s:=by
 obtain ⟨p,hbody⟩:=R.body;have hlim:s.heap.NoLimit:=R.lim.keeps S.base;have hcd:s.heap.CodeRec D.fd.code D.fd.qualname:=R.codeR.keeps fun b o e=>S.base b o e;refine wpAny_call (ks_codeAny_call_defAt (by have:=hc.depth;lia) (S.base _ _ R.fO) R.fD hlim hcd hbody (binds:=[("work",.ref lam)]) (fun A E Q s q=>by rw[R.bind];exact dL q) R.noCell (fun y hy=>by
  rw[bA.mp hy];exact R.kWork) (fun h₀ hns kp=> ?_) R.co R.gen R.kind)
 have kp:AN s.heap h₀:=kp;refine dj (Im fun K0 E0 hK0=> ?_)
 replace hK0:=fun v s (h:Q v s)=>hK0 (.ret v) s h
 generalize hel:callEnv D.fd s.heap.objs.size D.fh=el;have hel1:el.scope=D.fd.scope:=by refine hel▸ ?_;rfl
 have hel2:el.globals=dR:=by refine hel▸ ?_;exact R.glob
 have hel3:el.builtins=dT:=by refine hel▸ ?_;exact R.bi
 have hel4:el.locals=s.heap.objs.size:=by refine hel▸ ?_;rfl
 have hel5:el.frame=some s.heap.objs.size:=by refine hel▸ ?_;rfl
 have hkd:el.scope.kind=.function:=hel1▸R.kind;have kWork:el.kindOf "work"=some .local:=by show el.scope.names.lookup _=_;refine hel1▸ ?_;exact R.kWork
 have kRef:el.kindOf "refusal"=some .local:=by show el.scope.names.lookup _=_;refine hel1▸ ?_;exact R.kRef
 have kBE:el.kindOf "BasicError"=some .globalImplicit:=by show el.scope.names.lookup _=_;refine hel1▸ ?_;exact R.kBE
 have x0:Ext μ [] s.heap h₀:=kp.ext fun _ q=>by contradiction
 have S1:Sto P μ σ h₀:=S.keeps kp;have hoff:=S.off (AR s.heap);have hwork:(fun x=>[(("work":Str),Value.ref lam)].reverse.lookup x) "work"=some (.ref lam):=rfl;generalize (fun x=>[(("work":Str),Value.ref lam)].reverse.lookup x)=mL at hns hwork;rw[←hel4]at hns;have T1:B7 P μ (el::stk) h₀:=T.deep kp hkd hel5 hoff (hel4▸hns);have hc1:=hc.deep el;have hfn1:FnAt lam h₀:=let ⟨oc,od,fd,sl,e⟩:=hfn;⟨oc,od,fd,sl,kp _ _ e⟩
 generalize A.deeper el=A1 at hc1 ⊢;unfold hrBody;refine wpAny_execs_cons (Im fun K1 E1 hK1=> ?_)
 replace hK1:=fun v s (h:Q v s)=>hK1 (.ret v) s (hK0 v s h)
 rw[arm_exec_Try];refine dI (dZ (wpAny_tryStmt_except (YT fun K2 E2 hK2 hE2=> ?_)));refine wpAny_execs_cons (wpAny_Return_some (dh (wpAny_Name (eC hkd kWork hns hwork (callWith_F0 hfn1 ?_)) rfl)));refine L {s with heap:=h₀,toks:=_} _ _ _ _ kp hc1 S1 T1 ?_;cases r with
 |ok d=>
  subst hr;intro v h' tk ν x2 S2 V2;exact hK2 _ _ (hK1 _ _ (hq v h' tk _ (x0.trans (by rw[af];exact x2)) S2 V2))
 |ex c=>
  subst hr;intro e h3 tk3 ν x3 S3 X3;refine hE2 (.ref e) ⟨h3,s.gens,s.drawn,tk3,s.os⟩ ?_;refine OT (s:=⟨h3,s.gens,s.drawn,tk3,s.os⟩) (hb:=h₀) hc1.frames hel5 (T1.mono x3) S3 x3 (fun b o e=>S1.base b o e) X3 fun h4 x4 S4 X4=>Im fun K3 E3 hK3=> ?_;have hel6:h₀.get? el.locals=none→False:=fun q=>by obtain ⟨o,_,_,e,_⟩:=hns;rw[e]at q;contradiction
  have hns4:h4.Ns el.locals mL:=x4.ns (by refine hel4▸ ?_;exact hoff.1) hns
  have b4:AN P.hb h4:=fun b o e=>S4.base b o e;obtain ⟨oe,vs,dx,me,t,h1,h2,h3',h4',h5,h6,h7,h8,h9,h10,h11⟩:=id X4;refine wpAny_handleBy_cons (VQ fun R1 hR1=>codeAny_handlers_test (Im fun K4 E4 hK4=> ?_)) (by intro q;contradiction)
  refine H4 (s:=⟨h4,s.gens,s.drawn,tk3,s.os⟩) K hkd hel2 hel3 S4 ⟨kBE,rfl⟩ RE.name (hK4 _ _ (Im fun K5 E5 hK5=> ?_));refine wpAny_excMatches_sub_self (b4 _ _ RE.cls) h1 h2 (by decide) (hK5 true ⟨h4,s.gens,s.drawn,tk3,s.os⟩ ?_)
  refine hR1 (.ok .brk) _ (VQ fun R2 hR2=> ?_);refine codeAny_handlers_suite_as (Im fun K6 E6 hK6=> ?_);refine P0 (s:=⟨h4,s.gens,s.drawn,tk3,s.os⟩) X4 fun h5' k5=>hK6 _ _ (Im fun K7 E7 hK7=> ?_);refine wpAny_storeName_local kRef (Bc hns4 k5) (fun h6' hn6 sb6=>hK7 _ ⟨h6',s.gens,s.drawn,_,s.os⟩ (Im fun K8 E8 hK8=> ?_)) (by rw[hkd];rfl)
  refine wpAny_execs_cons (wpAny_Return_some (Im fun K9 E9 hK9=> ?_));rw[arm_eval_Attribute,DE rfl];refine dI (wpAny_Name (eC hkd kRef hn6 (by rw[if_pos rfl]) ?_) rfl)
  refine dI (dZ (dI (dW ?_)));have hLe:∀b o,h4.get? b=some o→b≠el.locals→h6'.get? b=some o:=fun b o e q=>(sb6.2 b q).trans (k5 b o e);have hL0:P.hb.get? el.locals=none:=by refine hel4▸ ?_;exact hoff.2
  have hbL:∀b o,P.hb.get? b=some o→b≠el.locals:=fun b o e q=>by rw[q,hL0]at e;exact xns e
  have b6:AN P.hb h6':=fun b o e=>hLe b o (b4 b o e) (hbL b o e);have heL:e≠el.locals:=fun q=>by
   obtain ⟨o,es,ep,ho,hdd,_⟩:=hns4;rw[←q,h1]at ho;(injection ho with ho;subst ho);rw[hdd]at h3';cases h3'
  have hdL:dx≠el.locals:=fun q=>by
   obtain ⟨o,es,ep,ho,hdd,_⟩:=hns;rw[←q,h8.2]at ho;exact xns ho
  have hx6:h6'.get? e=some oe:=hLe _ _ h1 heL;have hn1:h6'.Ns1 dx me:=let ⟨o,es,ep,ho,rr⟩:=h5;⟨o,es,ep,hLe _ _ ho hdL,rr⟩
  refine Ri PySem.F.attrBase_Exception (b6 _ _ RE.cls) (Bc RE.ns b6) RE.mgb RE.mga RE.mc RE.lkCode hx6 h2 (fun c q=>by rw[h3']at q;contradiction) h4' hn1 h6 rfl ?_
  refine dI (wpAny_letTemporaryGo (dL (hK9 _ _ (hK8 _ _ (hR2 _ _ ?_)))));refine wpAny_nameGoes (s:=⟨h6',s.gens,s.drawn,_,s.os⟩) kRef hn6 (by rw[hkd];rfl) fun h7' m7 hn7 sb7=>hK3 _ _ (hK1 _ _ ?_)
  have x5:Ext μ ν h₀ h5':=by have:=x4.trans (AN.ext (μ:=μ++ν) (ν:=[]) k5 fun _ q=>by contradiction);rwa[af]at this
  have x5:Ext μ ν s.heap h5':=x0.trans (by rw[af];exact x5)
  have hLn:s.heap.get? el.locals=none:=by refine hel4▸ ?_;exact AR _
  have x7:=(x5.but sb6 hLn).but sb7 hLn;have hLm:el.locals∉μ++ν:=x4.notinNs (by refine hel4▸ ?_;exact hoff.1) hns
  have S7:=((S4.keeps k5).but (Ns.vol (Bc hns4 k5)) sb6 hLm hL0).but (Ns.vol hn6) sb7 hLm hL0;exact hq (.str (txt c) t) h7' _ ν x7 S7 (.str c t h7)
end
section
variable{P:PI}{N:Nm}{G:Nat→Option Mine.D}{call:Call}{k:Nat}{D:OW}{C:H3}
theorem AY.trans{μ ν:List Addr}{σ':AA}{s:dG}{Q Er:dF→dG→Prop}{r:Ro}(h:AY P μ r σ' s Q Er){h':Heap}{tk:Nat}(x:Ext μ ν s.heap h'):AY P (μ++ν) r σ' {s with heap:=h',toks:=tk} Q Er:=by
 cases r with
 |ok d=>intro v h'' tk' ν' y S V;exact h v h'' tk' (ν++ν') (x.trans y) (by rw[←aZ];exact S) (by rw[←aZ];exact V)
 |ex c=>intro v h'' tk' ν' y S V;exact h v h'' tk' (ν++ν') (x.trans y) (by rw[←aZ];exact S) (by rw[←aZ];exact V.base x.fresh)
noncomputable def OX (r:Ro):Ro:=match r with
 | .ok d=>.ok d
 | .ex c=>.ok (.str c)
theorem W.heard{B:Bs}{C:Cf B}{y:Pt}{Q:dF→dG→Prop}{o:Mine.R}(h:W C y Q (EC o)):∃r σ',o=some (r,σ')∧AY B.P y.μ (OX r) σ' y.s Q C.Er:=by
 revert h;exact R_e o (fun h=>aY h) (fun _ _ h=>⟨_,_,rfl,fun v h' tk ν x S V=>h v (y.at ν h' tk) (.of x tk) S V⟩) fun _ _ h=>⟨_,_,rfl,fun v h' tk ν x S V=>h v (y.at ν h' tk) (.of x tk) S V⟩
theorem UO{B:Bs}{C:Cf B}{y:Pt}{Q:dF→dG→Prop}{ρ:Loc}{σ:AA}{n q j:Nat}{e:E}{R:Prop}(h:W C y Q (ev B.call B.G (n+1) (.heard q j e) ρ σ))(k:∀f as l ds σx,e=.call f as→as.all Dh=true→σ[j]? =some (.tab l)→l.any (Nat.beq q)=false→evL (fun e σ=>ev B.call B.G n e ρ σ) as σ=some (.ok ds,σx)→
  W C y Q (EC (B.call (1000+f) ds (AW σ j (.tab (q::l)))))→R):R:=by
 cases e with
 |call f as=>
  replace h:W C y Q (match as.all Dh,σ[j]? with
    |true,some (.tab l)=>match l.any (Nat.beq q) with
     |true=>none
     |false=>match evL (fun e σ=>ev B.call B.G n e ρ σ) as σ with
      |some (.ok ds,_)=>EC (B.call (1000+f) ds (AW σ j (.tab (q::l))))
      |_=>none
    |_,_=>none):=h
  cases hs:as.all Dh with
  |false=>rw[hs]at h;exact aY h
  |true=>
   rw[hs]at h;cases hj:σ[j]? with
   |none=>rw[hj]at h;exact aY h
   |some c=>cases c with
    |tab l=>
     rw[hj]at h;dsimp only at h;cases hl:l.any (Nat.beq q) with
     |true=>rw[hl]at h;exact aY h
     |false=>
      rw[hl]at h;dsimp only at h
      match hd:evL (fun e σ=>ev B.call B.G n e ρ σ) as σ,h with
      |some (.ok ds,σx),h=>exact k f as l ds σx rfl hs hj hl hd h
    |_=>rw[hj]at h;exact aY h
 |_=>exact aY h
theorem Rl(K:Ok P)(KN:Qx P N G)(h0n:∀i:Nat,N.names[i]? ≠some (".0":Str))(C2:Fn P call k)(RE:Ll P C)(R:Rj P D)(q j:Nat)(e:E):Gz ⟨P,N,G,call,k⟩ (.heard q j e):=by
 intro n _ _ CC m x ρ σ y Q c hm I h;refine Rk hm fun np b lp cp lsc hhj hhp hok hg hk hco hgen hmb=>UO h fun f as l ds σx e1 hsi hj hnq hds h=>aW (W.heard h) fun r0 w=>aW w fun σ' w=> ?_;have hcall:=w.1;have hq:AY P y.μ (OX r0) σ' y.s Q CC.Er:=w.2;clear w h hm;rw[e1]at hmb;clear e1;generalize hμ0:y.μ=μ at hq;have S:Sto P μ σ y.s.heap:=hμ0▸I.sto;have F:FR P μ N.names CC.env ρ y.s.heap:=hμ0▸I.fr;have TT:B7 P μ CC.stk y.s.heap:=hμ0▸I.stk;have hs:=c.hs;have hc:=c.hc;unfold EvG;revert hq S F TT hs hc;clear c I hμ0;generalize y.s=s;generalize CC.env=env;generalize CC.A=A;generalize CC.stk=stk;generalize CC.Er=Er;intro hq S F TT hs hc;cases m with
 |zero=>exact xbf hmb
 |succ m=>
 obtain ⟨x,hx⟩:∃x,(N.fnN f).contains x=true:=KH (C:=fun _=> ∃x,(N.fnN f).contains x=true) hmb fun y _ _ _ h1 _ _=>⟨y,h1⟩;obtain ⟨a,_,hfa⟩:=KN.fn f x hx;obtain ⟨k',rfl,_⟩:=C2 f ds _ r0 σ' hcall a hfa;have HC:∀a,P.fn f=some a→∀(μ:List Addr) (s:dG) (A:dJ) (stk:List PySem.Env) (vs:List dF) (Q Er:dF→dG→Prop),
   Cx A stk k'→Sto P μ (AW σ j (.tab (q::l))) s.heap→B7 P μ stk s.heap→AE P μ s.heap vs ds→AY P μ r0 σ' s Q Er→dH (model P.prog P.w) A (PySem.call (.ref a) vs) Q Er s:=fun a ha=>by
  obtain ⟨k2,hk2,h2⟩:=C2 f ds _ r0 σ' hcall a ha;have:k'=k2:=by lia
  subst this;exact h2
 obtain ⟨c,T0,hcd⟩:=KN.hj j hhj;have hcode:=F.code c T0 j hcd;obtain ⟨hCH,hT⟩:=R.tab _ c T0 j hcd;have hμ:μ[j]? =some T0:=by
  obtain ⟨t,ht⟩:=S.pre;rw[←ht,bS (ap.mp hT).1];exact hT
 obtain ⟨ps,hps,htri,hkey⟩:=S.cell j T0 _ hμ hj;have hcl0:∀p∈lsc.names,p.2=.free→∃c,env.cells.lookup p.1=some c:=by
  intro p hp hf;obtain ⟨y,kd⟩:=p;have hf:kd=.free:=hf;subst hf;refine F.closed y ?_
  rcases (BG hok hp).2.2 rfl with q|q
  ·rcases hs y with e|⟨e,_⟩
   ·exact .inl (e.trans q)
   ·rw[q]at e;contradiction
  ·rcases hs y with e|⟨_,e⟩
   ·exact .inr (e.trans q)
   ·exact .inl e
 obtain ⟨cl,hclos,hcl1,hcl2⟩:=H1 env lsc hcl0;have hnf:codeAmong lp ps.toList=none:=by
  cases hc:codeAmong lp ps.toList with
  |none=>rfl
  |some v=>
   exfalso
   obtain ⟨k,hk,e⟩:=hkey lp (by rw[hc];simp)
   have:k=q:=R.inj k q (by rw[e,←hhp,KN.hp])
   subst this;rw[cQ.mpr ⟨k,hk,Nat.beq_refl k⟩]at hnq;contradiction
 have hmuT:∀a,(∃o,P.hb.get? a=some o)→a≠T0:=fun a ⟨o,e⟩ w=>by
  rw[w,(S.fresh T0 (bB hμ)).1]at e;exact xns e
 have hgT:dR≠T0:=hmuT _ (let ⟨o,_,_,e,_⟩:=K.gl;⟨o,e⟩)
 obtain ⟨bm,ob,b1,b2,b3,b4,b5,b6,b7⟩:=R.bmain;refine dh (JT K F S (EK hg hs) (.inl R.name) ?_);refine callWith_function (o:=D.oH) (fd:=D.fd) ?_
 show dH _ _ (evalArgs (.ref D.fh) true ((false,eval (.Lambda ⟨[],[],none,[],[],none,[]⟩ b lsc lp) env)::[]) []) _ _ _
 refine evalArgs_plain (spliced_cons (kla_eval rfl (kla_makeFunction (mg:=P.mg) hclos F.glob (K.glS S) hcode (hCH.keeps fun b o e=>S.base b o e) hps htri hnf hgT ⟨bm,ob,b1,b2,b3,hmuT _ ⟨_,b4⟩,S.base _ _ b4,b5,b6,b7⟩ fun c' ctv h' tk hx2 hge hlt hrec htb=> ?_)));generalize hob:kla_obj "<lambda>" (env.qual++"<lambda>") ⟨[],[],none,[],[],none,[]⟩ b lsc cl ((P.mg "__name__").getD .none) c' ctv=lo;obtain ⟨S1,x1⟩:=S.putX (h':=h'.push lo) hμ hj (c':=.tab (q::l)) rfl (fun b o ne e=>Heap.get?_push_of_some _ (hx2 b o ne e)) ⟨_,Heap.get?_push_of_some _ htb,by rw[Array.toList_append];exact TriplesOk_snoc _ _ _ _ htri,fun pos hp=>by
  rw[Array.toList_append]at hp
  rcases Ip pos _ _ _ _ htri hp with w|⟨w1,w2⟩
  ·obtain ⟨k,hk,e⟩:=hkey pos w;exact ⟨k,.tail _ hk,e⟩
  ·refine ⟨q,.head _,?_⟩;rw[←KN.hp,hhp];exact Prod.ext (by exact_mod_cast w1) (by exact_mod_cast w2)⟩
 have F1:=F.mono x1;have T1:=TT.mono x1;have hq1:=hq.trans (tk:=tk) x1;rw[af]at F1 T1 hq1;refine spliced_nil ⟨⟨S1.base _ _ R.fO,R.fD⟩,?_⟩;have hlam:(h'.push lo).get? h'.objs.size=some lo:=Heap.get?_push_size _ (by rw[←hob];rfl)
 refine ND (s:={s with heap:=h'.push lo,toks:=tk}) (σ:=AW σ j (.tab (q::l))) (r:=r0) K R RE (show ∃oc od fd sl,(h'.push lo).get? h'.objs.size=some ⟨oc,od,.func fd,sl⟩ from ⟨_,_,_,_,hlam.trans (congrArg some hob.symm)⟩) rfl S1 T1 hc ?_ hq1
 intro s' A' stk' Q' Er' kp' hc' S' T' hq';have F2:FR P μ N.names env ρ s'.heap:=by
  have:=F1.mono (AN.ext (μ:=μ) (ν:=[]) kp' fun _ q=>by contradiction)
  rwa[af]at this
 refine Wo K KN h0n R.lim (qual:=env.qual++"<lambda>") (c':=c') (ctv:=ctv) (pm:=(P.mg "__name__").getD .none) F2 hs hok hk hco hgen hmb hsi hds hcl1 hcl2 (by rw[hob];exact kp' _ _ hlam) ?_ S' T' hc' HC hq'
 exact hrec.keeps fun b o e=>kp' _ _ (Heap.get?_push_of_some _ e)
end
theorem KU:typeLookup (.type "list") "keys"=pure none:=by rw[typeLookup_type,builtinLookup_eq_fast];kernel_rfl
theorem ER:entryFor table "dict.update.loop"=some Builtin.«dict.update.loop»:=entryFor_of_tree (by kernel_rfl)
theorem CG:plainId "dict.update.loop"=true:=by decide+kernel
section
variable{prog:dP}{w:dN}{A:dJ}{E:dF→dG→Prop}{s:dG}{a:Addr}
theorem P1{xs:Array dF}{k:Nat}{Q:Option dF→dG→Prop}(hA:A.handled=none)(hx:s.heap.get? a=some (PySem.W.listOf xs k))(hq:∀h' tk,AN s.heap h'→Q none {s with heap:=h',toks:=tk}):
  dH (model prog w) A (getAttr? (.ref a) "keys") Q E s:=by
 obtain ⟨hp,g,d,tk,os⟩:=s;haveI hT:∀tk',(⟨hp,g,d,tk',os⟩:dG).TypeIs (.ref a) "list":=fun _=>⟨_,hx,rfl⟩;haveI f1:=sub_AttributeError;haveI f3:=F.slot_list_getattribute.lookup;haveI f4:=F.slot_list_getattribute.bind (.ref a);haveI f5:=am_list_getattr_none;delta getAttr? getAttrBy?
 repeat (any_goals (first|assumption|exact hT _|((with_reducible show dH _ _ (call (Value.builtin "list.__getattribute__") _ _) _ _ _);refine call_meets F.slot_list_getattribute (hT _) am_entry_list_getattribute (F.args_list_getattribute_2 _ _) (meets_getattribute_miss_list a xs k #[] "keys" _ KU (by decide) (by size_fits)) ⟨hx,hA,fun h' tk' e hx'=> ?_⟩)|wp_step))
 obtain ⟨t',u',he⟩:=hx'.there
 show dH _ _ (getattributeRaised _ _ _ _ _ _ _) _ _ _
 delta getattributeRaised
 repeat (any_goals (first|assumption|wp_step))
 exact hq h' tk' fun b o e=>hx'.keeps b o e
noncomputable def FN (h:Heap):List dF→List (Int×dF)→Prop
 | [],[]=>True
 |v::vs,p::ps=>(Ex4 fun a o n t=>A4 (v=.ref a) (h.get? a=some o) (o.cls=.type "tuple") (o.data=.seq #[.int p.1 t,p.2] n))∧FN h vs ps
 |_,_=>False
theorem FN.drop1{h:Heap}{v:dF}{vs:List dF}{kvs:List (Int×dF)}(H:FN h (v::vs) kvs):Ex7 fun k x ps a o n t=>A6 (kvs=(k,x)::ps) (v=.ref a) (h.get? a=some o) (o.cls=.type "tuple") (o.data=.seq #[.int k t,x] n) (FN h vs ps):=by
 cases kvs with
 |nil=>contradiction
 |cons p ps=>obtain ⟨⟨a,o,n,t,h1,h2,h3,h4⟩,h5⟩:=H;exact ⟨p.1,p.2,ps,a,o,n,t,rfl,h1,h2,h3,h4,h5⟩
theorem Rm{R:Result→dG→Prop}(hh:A.handled=none){d it l:Addr}{h0:Heap}{vs:Array dF}{c:Nat}(hl:h0.get? l=some (PySem.W.listOf vs c))(hd:h0.get? d=none)(hit:h0.get? it=none)(hne:d≠it):
  ∀(rest:List dF) (kr acc:List (Int×dF)) (i:Nat) (tok:Tok) (s:dG),vs.toList.drop i=rest→FN h0 rest kr→acc.length+kr.length≤1000000→s.heap.DictOf (intKind prog w) d acc→s.heap.IsListIter it l i→AN h0 s.heap→
  (∀h' tk,h'.DictOf (intKind prog w) d (merged acc kr)→AN h0 h'→R (.ok (.ret .none)) {s with heap:=h',toks:=tk})→
  codeAny (model prog w) A (.builtin "dict.update.loop" ⟨[.ref d,.ref it,.int i tok,.none],[]⟩) R s:=by
 intro rest
 induction rest with
 |nil=>
  intro kr acc i tok s hr ht hsz hm hI kp hR;refine codeAny_builtin ER ?_;rw[Around.under_plainId CG _]
  show dH _ A.in1 (pyNext (.ref it) >>= _) _ _ s
  haveI hln:i≥vs.size:=by
   haveI:=congrArg bX hr;simp at this;lia
  cases kr with
  |cons _ _=>contradiction
  |nil=>
  refine dI (wpAny_pyNext_list_end (by exact hh) hI ⟨_,kp _ _ hl,rfl,_,rfl⟩ (by simp;lia) fun h' hs=> ?_)
  show dH _ _ (Builtin.Dict.addKeywords d [] >>= _) _ _ _
  refine dI (dL (dL ?_));exact hR h' _ (hm.imp fun o w=>w.imp fun es w=>w.imp fun ep w=>⟨hs _ _ hne w.1,w.2⟩) fun b o e=>hs b o (fun q=>by rw[q,hit]at e;exact xns e) (kp b o e)
 |cons v rest ih=>
  intro kr acc i tok s hr ht hsz hm hI kp hR;obtain ⟨k,x,ps,a,o,n,t,rfl,rfl,ho,hc,hdat,ht'⟩:=ht.drop1;refine codeAny_builtin ER ?_;rw[Around.under_plainId CG _]
  show dH _ A.in1 (pyNext (.ref it) >>= _) _ _ s
  haveI hv:vs[i]? =some (.ref a):=by
   haveI:(vs.toList.drop i)[0]? =some (.ref a):=by rw[hr];rfl
   rw[b9]at this
   simpa using this
  haveI hr':vs.toList.drop (i+1)=rest:=by
   haveI:(vs.toList.drop i).drop 1=rest:=by rw[hr];rfl
   rwa[List.drop_drop]at this
  refine dI (wpAny_pyNext_list_item hI ⟨_,kp _ _ hl,rfl,_,rfl⟩ hv fun h' hi' hs=> ?_);haveI kp1:AN h0 h':=fun b o e=>(hs.2 b (fun q=>by rw[q,hit]at e;exact xns e)).trans (kp b o e)
  haveI hm1:h'.DictOf (intKind prog w) d acc:=hm.imp fun o w=>w.imp fun es w=>w.imp fun ep w=>⟨(hs.2 d hne).trans w.1,w.2⟩;haveI hT:({s with heap:=h'}:dG).TypeIs (.ref a) "tuple":=⟨_,kp1 _ _ ho,hc⟩;refine dI (dW (dI (wpAny_tryCatch ?_)));unfold Builtin.Dict.pairItems;refine dI (wpAny_typeOf hT ?_);rw[if_pos (by decide)]
  refine dI (wpAny_seqItems (kp1 _ _ ho) hdat ?_);refine dL ?_
  show dH _ _ (holding [.int k t,x] (dictSet d (.int k t) x)) _ _ _
  refine dW (wpAny_dictSet_pairs (knd:=intKind prog w) (k:=k) (by simp[intKind,Value.isInt]) hm1 (fun h2 hm2 hs2=> ?_) (hsz:=by rw[dU];simp only[bF]at hsz;lia))
  refine dL ⟨plainId_quiet CG _,?_⟩;haveI hI2:h2.IsListIter it l (i+1):=hi'.imp fun o w=>⟨(hs2.2 it (Ne.symm hne)).trans w.1,w.2⟩;haveI kp2:AN h0 h2:=fun b o e=>(hs2.2 b (fun q=>by rw[q,hd]at e;exact xns e)).trans (kp1 b o e)
  exact ih ps (stored acc k x) (i+1) 0 {s with heap:=h2,toks:=s.toks+1} hr' ht' (by haveI:=stored_length_le acc k x;simp only[bF]at hsz;lia) hm2 hI2 kp2 fun h' tk a b=>hR h' tk a b
theorem NE{l:Addr}{vs:Array dF}{c:Nat}{kr:List (Int×dF)}{Q:dF→dG→Prop}(hA:A.handled=none)(hl:s.heap.get? l=some (PySem.W.listOf vs c))(ht:FN s.heap vs.toList kr)(hlen:kr.length≤1000000)
  (hq:∀h' tk,h'.DictOf (intKind prog w) s.heap.objs.size (merged [] kr)→AN s.heap h'→Q (.ref s.heap.objs.size) {s with heap:=h',toks:=tk}):dH (model prog w) A (call (.type "dict") [.ref l]) Q E s:=by
 refine callType_codes (Q₁:=fun obj s₁=>obj=.ref s.heap.objs.size∧s₁={s with heap:=s.heap.push {cls:=.type "dict",data:=.dict #[]} }) F.kt_called_dict (F.kt_typeCall_dict_1 _) F.entry_dict_init (kt_code_dict_new _ ⟨rfl,rfl⟩) ?_
 rintro obj s₁ ⟨rfl,rfl⟩
 haveI hnew:(s.heap.push {cls:=.type "dict",data:=.dict #[]}).DictOf (intKind prog w) s.heap.objs.size []:=Heap.DictOf.new s.heap;haveI hl':(s.heap.push {cls:=.type "dict",data:=.dict #[]}).get? l=some (PySem.W.listOf vs c):=Heap.get?_push_of_some _ hl;refine ⟨hnew.typeIs,F.args_dict_init_2 _ _,?_⟩;unfold Builtin.«dict.__init__»;refine dI ?_;unfold Builtin.Dict.selfAndRest;refine dI (wpAny_notOrdered_dict hnew.typeIs ?_)
 show dH _ _ (pure (s.heap.objs.size,[Value.ref l])) _ _ _
 refine dL ?_
 show dH _ _ (Builtin.Dict.updateFrom "dict.__init__" s.heap.objs.size (.ref l) [] .none) _ _ _
 unfold Builtin.Dict.updateFrom;refine dI (wpAny_typeOf ⟨_,hl',rfl⟩ ?_);rw[if_pos (by decide)]
 refine dI (P1 hA hl' fun h1 tk1 k1=> ?_);rw[if_pos (by rfl)]
 refine dI (wpAny_rule ?_);refine dI (wpAny_pyIter_list (s:={s with heap:=h1,toks:=tk1}) (items:=vs) ⟨_,k1 _ _ hl',rfl,_,rfl⟩ ?_);refine dL ⟨plainId_quiet CG _,?_⟩;haveI hd1:h1.DictOf (intKind prog w) s.heap.objs.size []:=hnew.imp fun o w=>w.imp fun es w=>w.imp fun ep w=>⟨k1 _ _ w.1,w.2⟩;haveI kp0:AN s.heap h1:=fun b o e=>k1 b o (Heap.get?_push_of_some _ e);haveI hds:s.heap.objs.size<h1.objs.size:=aW hd1 fun _ w=>aW w fun _ w=>aW w fun _ w=>Heap.lt_size w.1;refine Rm (A:=A.in1) (R:=wants (fun r s₂=>r=Value.none∧Q (Value.ref s.heap.objs.size) s₂) E) (h0:=s.heap) hA hl (AR _) (Heap.get?_none_of_le (bz hds)) (bo hds) vs.toList kr [] 0 0 {s with heap:=h1.push {cls:=.type "list_iterator",data:=.fields #[.ref l,.int 0 0]},toks:=tk1} rfl ht (by simpa using hlen) ?_ ?_ ?_ fun h' tk a b=> ?_
 ·obtain ⟨o,es,ep,ho,r⟩:=hd1;exact ⟨o,es,ep,Heap.get?_push_of_some _ ho,r⟩
 ·exact ⟨_,Heap.get?_push_size _ rfl,rfl,rfl⟩
 ·intro b o e;exact Heap.get?_push_of_some _ (kp0 b o e)
 ·exact ⟨rfl,hq h' tk a b⟩
end
section
variable{P:PI}{N:Nm}{G:Nat→Option D}{call:Call}{μ ν:List Addr}{σ σ':AA}{A:dJ}{s:dG}{Q Er:dF→dG→Prop}{stk:List PySem.Env}{k n m:Nat}{env:PySem.Env}{ρ:Loc}{sc:dQ}{M:dO}{r:Ro}{h:Heap}
theorem AE.ofGet(vs:List dF):∀{ds:List D},vs.length=ds.length→(∀(i:Nat) (v:dF) (d:D),vs[i]? =some v→ds[i]? =some d→AH P μ h v d)→AE P μ h vs ds:=by
 induction vs with
 |nil=>intro ds hl _;cases ds with
  |nil=>exact .nil
  |cons=>contradiction
 |cons v vs ih=>intro ds hl H;cases ds with
  |nil=>contradiction
  |cons d ds=>exact .cons (H 0 v d rfl rfl) (ih (Nat.succ.inj hl) fun i v d a b=>H (i+1) v d a b)
theorem P3{α:Type}{xs:List α}{C:List α→Prop}(h:xs.isEmpty=true)(k:C []):C xs:=by
 cases xs with
 |nil=>exact k
 |cons=>exact xbf h
theorem Rn{as:List E}{x:Expr}{C:Expr→Prop}(hm:mE N (m+1) sc (.bi .listItems as) x=true)(k:∀a np y apos pos p,as=[a]→Af sc "list"=true→mE N m sc a y=true→Cu y=true→(apos.endLine==pos.line)=true→C (.Call (.Name "list" np) [.Call (.Attribute y "items" apos) [] [] pos] [] p)):C x:=
 Bz hm fun _ q xs p h=>JR (C:=fun y=>C (.Call (.Name y q) xs [] p)) h fun hg h=>Hw (C:=fun xs=>C (.Call (.Name "list" q) xs [] p)) h fun z h=>by
  cases as with
  |nil=>exact xbf h
  |cons a as=>cases as with
   |cons=>exact xbf h
   |nil=>exact Ac h fun w h=>Ac (AC h).2 fun u h2=>An (C:=fun z=>C (.Call (.Name "list" q) [z] [] p)) w.2 (P3 (C:=fun ys=>C (.Call (.Name "list" q) [.Call _ ys [] _] [] p)) (AC h).1 (An (C:=fun f=>C (.Call (.Name "list" q) [.Call f [] [] _] [] p)) u.2
    (An (C:=fun nm=>C (.Call (.Name "list" q) [.Call (.Attribute _ nm _) [] [] _] [] p)) (eq_of_beq (AC (AC (AC h2).1).1).1) (k a q _ _ _ p rfl hg (AC (AC (AC h2).1).1).2 (AC (AC h2).1).2 (AC h2).2))))
end
section
variable{B:Bs}{C:Cf B}{y z:Pt}{ρ:Loc}{σ σ':AA}{Q:dF→dG→Prop}{m n:Nat}
theorem W.lb1{Q1:dF→dG→Prop}{ev:E→AA→Mine.R}{a:E}{f:List D→AA→Mine.R}(h:W C y Q (evLb ev [a] σ f))(k:∀d σ1 v z,y.le z→Sto B.P z.μ σ1 z.s.heap→AH B.P z.μ z.s.heap v d→W C z Q (f [d] σ1)→Q1 v z.s):W C y Q1 (ev a σ):=
 W.bnd (f:=fun d σ=>f [d] σ) h k
theorem Rp(K:B.Ok)(as:List E):Gz B (.bi .listItems as):=by
 intro n H T C m x ρ σ y Q c hm I h;refine Rn hm fun a np w apos pos p e hgl hy hsu hline=> ?_;subst e;refine dh (I.glob K.K c hgl (.inr (K.nm.bi .listItems)) ?_)
 show dH _ _ (callWith p (.type "list") [] ((false,eval (.Call (.Attribute w "items" apos) [] [] pos) C.env)::[]) []) _ _ _
 refine PySem.callWith_type rfl (evalArgs_plain (spliced_cons (wpAny_Call_method_late (DE hsu) rfl hline rfl (H c hy I (W.lb1 (ev:=fun e σ=>ev B.call B.G n e ρ σ) (a:=a) (f:=fun ds σ=>Dg σ .listItems ds) h fun d σ1 v z l S1 V1 h=> ?_)))));refine W.post h fun r σ9 e hq=> ?_
 replace e:Dy σ1 d (fun _ l=>Mine.alloc σ1 (.lst (l.map fun p=>.tup [.int p.1,p.2])))=some (r,σ9):=e
 apply Fe S1 V1 e;intro _ d ll kvs ei hl hd hk hb hv e;have h9:=hq.alloc e;have hlen:kvs.length=ll.length:=by have:=congrArg bX hk;simpa using this
 have hne:(d==dY)=false:=by simpa using (S1.fresh d (bB ei)).2
 refine ⟨"dict","dict.items",PySem.F.plainAttrs_dict,PySem.F.slot_dict_items,PySem.F.type_dict_items,hd.typeIs,fun a q=>by (injection q with q;subst q);exact hd.mapOf.noDict _ rfl,?_⟩
 refine method_meetsIn PySem.F.slot_dict_items PySem.F.entry_dict_items rfl (PySem.evalArgs_none ⟨rfl,hd.typeIs,PySem.F.args_dict_items_1 _,_,meets_dict_items (intKind B.P.prog B.P.w) d hne,⟨kvs,hd⟩,spliced_nil ?_⟩);have kp0:AN z.s.heap (z.s.heap.push {cls:=.type "dict_items",data:=.fields #[.ref d]}):=AN.push _ _;have hd2:=hd.push {cls:=.type "dict_items",data:=.fields #[.ref d]};obtain ⟨ep,hat⟩:=hd2.dictAt;refine kdx_call (s:={z.s with heap:=z.s.heap.push {cls:=.type "dict_items",data:=.fields #[.ref d]} }) c.hc.handled (r:=z.s.heap.objs.size) ⟨_,Heap.get?_push_size _ rfl,rfl,rfl⟩ hat (by simp only[dU];lia) fun h2 tk2 acc cc as kp hl2 hlas hG hacc=> ?_
 generalize hB:(z.s.heap.push {cls:=.type "dict_items",data:=.fields #[.ref d]}:Heap).objs.size=BB at hl2 hG ⊢;have kp1:AN z.s.heap h2:=fun b o e=>kp b o (kp0 b o e);have hBn:z.s.heap.get? BB=none:=Heap.get?_none_of_le (by rw[←hB,Heap.size_push];lia)
 have x2:Ext z.μ [BB] z.s.heap h2:=kp1.ext fun b q=>by simp only[bA.mp q];exact hBn
 have hBs:BB≠dY:=fun q=>aW S1.sys fun o ho=>by simp only[q,S1.base _ _ ho]at hBn;contradiction
 have hcell:AQ B.P (z.μ++[BB]) h2 BB (.lst (ll.map fun p=>.tup [.int p.1,p.2])):=by
  refine ⟨acc.toList,cc,by simp only[hl2],by simp only[hacc,ak,hlas];lia,AE.ofGet _ (by simp only[hacc,ak,ak,hlas];exact hlen) fun i v d hv1 hd1=> ?_⟩
  simp only[hacc,bN]at hv1;simp only[bN]at hd1;obtain ⟨a1,ea,q1⟩:=bG.mp hv1;obtain ⟨p1,ep1,q2⟩:=bG.mp hd1;subst q1 q2;obtain ⟨key,k1,x1',g1,g2,g3⟩:=hG.pairs i a1 ea;obtain ⟨t1,rfl⟩:=Value.isInt_shape g2;have hk1:k1=p1.1:=by
   have:=congrArg (fun z=>z[i]?) hk;simp only[bN,g1,ep1,Option.map_some]at this;exact aq.inj this
  subst hk1;obtain ⟨w1,e4,hw1⟩:=hv.get (i:=i) (d:=p1.2) (by simp only[bN,ep1];rfl)
  simp only[bN,g1]at e4
  (injection e4 with e4;subst e4)
  have hab:BB<a1:=hG.above a1 (bB ea);have han:z.s.heap.get? a1=none:=Heap.get?_none_of_le (by rw[←hB,Heap.size_push]at hab;lia)
  exact .tup (vs:=[.int p1.1 t1,x1']) g3 rfl rfl (fun q=>(bV.mp q).elim (S1.off han).1 fun q=>by simp only[bA.mp q]at hab;exact absurd hab (cP _)) (au rfl) (.cons (.int _ _) (.cons (hw1.mono x2) .nil))
 have S2:=S1.alloc kp1 hBn hBs hcell;exact h9 (.ref BB) h2 tk2 [BB] S2.2 S2.1 (.loc (by rw[←S1.len,bZ (bJ _),Nat.sub_self];rfl))
end
section
variable{P:PI}{N:Nm}{G:Nat→Option D}{call:Call}{μ ν:List Addr}{σ σ':AA}{A:dJ}{s:dG}{Q Er:dF→dG→Prop}{stk:List PySem.Env}{k n m:Nat}{env:PySem.Env}{ρ:Loc}{sc:dQ}{M:dO}{r:Ro}{h:Heap}
theorem UP{as:List E}{x:Expr}{C:Expr→Prop}(hm:mE N (m+1) sc (.bi .dict as) x=true)(k:∀q xs p,Af sc (biN .dict)=true→Aj (mE N m sc) as xs=true→C (.Call (.Name (biN .dict) q) xs [] p)):C x:=
 Bz (f:=fun y xs=>biN .dict==y&&Af sc y&&Aj (mE N m sc) as xs) hm fun _ q xs p h=>YG (c:=true) (C:=fun y=>C (.Call (.Name y q) xs [] p)) h (k q xs p)
theorem Rq{d:D}{l:List D}{kvs:List (Int×D)}{R:Prop}(e:Cs (d::l)=some kvs)(k:∀i x m,d=.tup [.int i,x]→Cs l=some m→kvs=(i,x)::m→R):R:=by
 cases d with
 |tup l'=>cases l' with
  |nil=>exact xns e
  |cons a l'=>cases a with
   |int i=>cases l' with
    |nil=>exact xns e
    |cons x l'=>cases l' with
     |nil=>exact aW (bG.mp (show (Cs l).map ((i,x):: ·)=some kvs from e)) fun m w=>k i x m rfl w.1 w.2.symm
     |cons=>exact xns e
   |_=>exact xns e
 |_=>exact xns e
theorem UQ(l:List D):∀{vs:List dF} {kvs:List (Int×D)},AE P μ h vs l→Cs l=some kvs→∃kr:List (Int×dF),FN h vs kr∧kr.map (·.1)=kvs.map (·.1)∧AE P μ h (kr.map (·.2)) (kvs.map (·.2))∧kr.length=vs.length:=by
 induction l with
 |nil=>intro vs kvs H e;(injection e with e;subst e);apply H.nil_e;exact ⟨[],trivial,rfl,.nil,rfl⟩
 |cons d l ih=>
  intro vs kvs H e;refine Rq e fun i x m e1 e2 e3=> ?_;subst e1 e3;apply H.cons_e;intro v ws hv hr;apply hv.tup_e;intro a o us c ho hcl hdat _ _ hus;revert hdat;apply hus.e2;intro v1 v2 h1 h2;apply h1.int_e;intro t hdat;exact aW (ih hr e2) fun kr w=>⟨(i,v2)::kr,⟨⟨a,o,c,t,rfl,ho,hcl,hdat⟩,w.1⟩,congrArg (i:: ·) w.2.1,.cons h2 w.2.2.1,congrArg (· +1) w.2.2.2⟩
theorem NF(kr:List (Int×dF)):∀acc:List (Int×dF),(merged acc kr).length≤acc.length+kr.length:=by
 induction kr with
 |nil=>exact fun acc=>bJ _
 |cons p kr ih=>
  intro acc;haveI h1:=ih (stored acc p.1 p.2);haveI h2:=stored_length_le acc p.1 p.2
  show (merged (stored acc p.1 p.2) kr).length≤_
  simp only[bF];lia
end
section
variable{B:Bs}{C:Cf B}{y z:Pt}{ρ:Loc}{σ σ':AA}{Q:dF→dG→Prop}{m n:Nat}
theorem UR(K:B.Ok)(as:List E):Gz B (.bi .dict as):=by
 intro n H T C m x ρ σ y Q c hm I h;refine UP hm fun q xs p hgl ha=>dh (I.glob K.K c hgl (.inr (K.nm.bi .dict)) (PySem.callWith_type (CY as ha).1 (CS H c ha I (WL.of (f:=fun ds σ=>Dg σ .dict ds) h fun ds σ1 vs z _ l S V h=> ?_))));refine W.post h fun r σ9 e hq=> ?_
 replace e:as1 ds (fun a=>B5 σ1 a fun _ l=>(Cs l).bind fun kvs=>Mine.alloc σ1 (.dcti (kvs.foldl (fun m p=>Ay m p.1 p.2) [])))=some (r,σ9):=e
 apply DC V e;intro v d hv e;apply DM S hv e;intro _ a ll us cc _ _ ho hbd hus e;obtain ⟨kvs,hp,e⟩:=bP.mp e;haveI h9:=hq.alloc e;refine aW (UQ ll hus hp) fun kr w=>NE c.hc.handled ho w.1 (w.2.2.2▸hbd) fun h2 tk2 hd2 kp=> ?_;haveI hB:=AR z.s.heap;haveI hBs:z.s.heap.objs.size≠dY:=aW S.sys fun o ho=>cC (Heap.lt_size (S.base _ _ ho));haveI x2:Ext z.μ [z.s.heap.objs.size] z.s.heap h2:=kp.ext fun b q=>by simp only[bA.mp q];exact hB
 haveI mg:=EH (P:=B.P) (μ:=z.μ) (h:=z.s.heap) (kvs:=[]) (l:=[]) rfl .nil List.nodup_nil w.2.1 w.2.2.1;haveI hlen:(kvs.foldl (fun a p=>Ay a p.1 p.2) []).length≤1000000:=by
  haveI e:=congrArg bX mg.1;simp only[ak,ak]at e;rw[←e];refine ag (NF kr []) ?_;simp only[bY,bc,w.2.2.2];exact hbd
 haveI S2:=S.alloc kp hB hBs (c:=.dcti (kvs.foldl (fun a p=>Ay a p.1 p.2) [])) ⟨merged [] kr,hd2,mg.1,hlen,mg.2.mono x2⟩;exact h9 (.ref z.s.heap.objs.size) h2 tk2 [z.s.heap.objs.size] S2.2 S2.1 (.loc (by rw[←S.len,bZ (bJ _),Nat.sub_self];rfl))
end
end Mine
end
section
set_option backward.match.sparseCases true
namespace Mine
open PySem PySem.Calls PyProof.Rows PySem.Spec PySem.W
theorem H5:∀(names:List Str) (vals:List dF),vals.length=names.length→∀n∈names,((names.zip vals).lookup n).isSome=true
 | [],_,_,_,h=>nomatch h
 |x::xs,[],hl,_,_=>by simp at hl
 |x::xs,v::vs,hl,n,h=>by
  simp only[List.zip_cons_cons,bq];by_cases q:n=x
  ·subst q;simp
  ·haveI:(n==x)=false:=by simpa using q
   refine this▸ ?_
   rcases aj.mp h with e|e
   ·exact absurd e q
   ·exact H5 xs vs (by simpa using hl) n e
theorem H6:∀(names:List Str) (vals:List dF) (f:Str→Option dF),vals.length=names.length→names.Nodup→(∀n∈names,f n=(names.zip vals).lookup n)→(names.filterMap fun n=>(f n).map (n,·))=names.zip vals
 | [],_,_,_,_,_=>rfl
 |x::xs,[],_,hl,_,_=>by simp at hl
 |x::xs,v::vs,f,hl,hn,hf=>by
  rw[bp]at hn;haveI e1:f x=some v:=by
   simp only[hf x (.head _),List.zip_cons_cons,bq];simp
  simp only[List.zip_cons_cons,dA,e1]
  show (x,v)::_=_
  congr 1
  refine H6 xs vs f (by simpa using hl) hn.2 fun n hm=> ?_
  simp only[hf n (.tail _ hm),List.zip_cons_cons,bq];haveI:(n==x)=false:=by
   haveI:n≠x:=fun q=>hn.1 (q▸hm)
   simpa using this
  simp only[this]
noncomputable def bsk (L:List Str) (vals ds:List dF) (X1 X2:Sem (List (Str×dF))) (F:Str×dF→List (Str×dF)→Sem (ForInStep (List (Str×dF)))) (G:List (Str×dF)→Sem (List (Str×dF))):Sem (List (Str×dF)):=
 if (decide (vals.length>L.length)&&true)=true then X1 else if (!((L.take (L.length - ds.length)).filter fun n=>((L.zip vals).lookup n).isNone).isEmpty)=true then X2 else forIn ((L.drop (L.length - ds.length)).zip ds) (L.zip vals) F >>= G
theorem Wp{L:List Str}{vals:List dF}{X1 X2:Sem (List (Str×dF))}{F:Str×dF→List (Str×dF)→Sem (ForInStep (List (Str×dF)))}{G:List (Str×dF)→Sem (List (Str×dF))}(hl:vals.length=L.length)
  (h1:(L.filter fun n=>((L.zip vals).lookup n).isNone)=[]) {ds:List dF} (z:ds=[]):bsk L vals ds X1 X2 F G=G (L.zip vals):=by
 subst z;refine (if_neg (by simp[hl])).trans ((if_neg (by show ¬(!((L.take L.length).filter _).isEmpty)=true;simp only[List.take_length,h1];exact Bool.false_ne_true)).trans ?_)
 rw[List.zip_nil_right];exact pure_bind _ _
theorem NG{args:List PySem.Arg}{df:List (Option Expr)}{kd:List Expr}(vals:List dF)(a1 a2 a4 a5 a6 a7 a9 a10 a11 a12 a13 a14 a15):∃X1 X2 F G,
  bindArgs ⟨a1,a2,⟨[],args,none,[],df,none,kd⟩,a4,a5,a6,a7,.none,a9,a10,a11,a12,a13,a14,a15⟩ ⟨vals,[]⟩=bsk (args.map (·.arg)) vals (List.drop (0 - (args.map (·.arg)).length) []) X1 X2 F G
  ∧G ((List.map (fun x:PySem.Arg=>x.arg) args).zip vals)=pure ((List.map (fun x:PySem.Arg=>x.arg) args++[]).filterMap fun n=>(((List.map (fun x:PySem.Arg=>x.arg) args).zip vals).lookup n).map fun x=>(n,x)):=⟨_,_,_,_,rfl,rfl⟩
theorem Wq{args:List PySem.Arg}{df:List (Option Expr)}{kd:List Expr}{a1 a2 a4 a5 a6 a7 a9 a10 a11 a12 a13 a14 a15}(hn:(args.map (·.arg)).Nodup){vals:List dF}(hl:vals.length=(args.map (·.arg)).length):
  bindArgs ⟨a1,a2,⟨[],args,none,[],df,none,kd⟩,a4,a5,a6,a7,.none,a9,a10,a11,a12,a13,a14,a15⟩ ⟨vals,[]⟩=pure ((args.map (·.arg)).zip vals):=
 aW (NG vals a1 a2 a4 a5 a6 a7 a9 a10 a11 a12 a13 a14 a15) fun X1 h=>aW h fun X2 h=>aW h fun F h=>aW h fun G h=>
  h.1.trans ((Wp hl (List.filter_eq_nil_iff.mpr fun n hm q=>by haveI:=H5 _ vals hl n hm;rw[cq.mp q]at this;contradiction) List.drop_nil).trans (h.2.trans (congrArg pure ((congrArg _ (af _)).trans (H6 _ vals _ hl hn fun _ _=>rfl)))))
theorem Rr(p:Arguments)(hp:p.posonlyargs=[])(hk:p.kwonlyargs=[])(hv:p.vararg=none)(hkw:p.kwarg=none):p=⟨[],p.args,none,[],p.kw_defaults,none,p.defaults⟩:=by
 obtain ⟨p1,p2,p3,p4,p5,p6,p7⟩:=p;haveI e:=congr (congr (congr (congrArg (fun a b c d=>(⟨a,p2,b,c,p5,d,p7⟩:Arguments)) hp) hv) hk) hkw;exact e
theorem Wr(fd:FuncData){p:Arguments}(e:fd.params=p)(hd:fd.defaults=.none):fd=⟨fd.name,fd.qualname,p,fd.body,fd.scope,fd.globals,fd.closure,.none,fd.kwdefaults,fd.doc,fd.pyModule,fd.annotations,fd.code,fd.closureTuple,fd.builtins⟩:=
 congr (congrArg (fun a b=>(⟨fd.name,fd.qualname,a,fd.body,fd.scope,fd.globals,fd.closure,b,fd.kwdefaults,fd.doc,fd.pyModule,fd.annotations,fd.code,fd.closureTuple,fd.builtins⟩:FuncData)) e) hd
theorem ES{fd:FuncData}{names:List Str}(hp:fd.params.posonlyargs=[])(ha:fd.params.args.map (·.arg)=names)(hk:fd.params.kwonlyargs=[])(hv:fd.params.vararg=none)(hkw:fd.params.kwarg=none)(hd:fd.defaults=.none)(hn:names.Nodup)(vals:List dF)(hl:vals.length=names.length):
  bindArgs fd ⟨vals,[]⟩=pure (names.zip vals):=by
 subst ha;exact (congrArg (fun x=>bindArgs x ⟨vals,[]⟩) (Wr fd (Rr _ hp hk hv hkw) hd)).trans (Wq hn hl)
noncomputable def Ws (v:dF):Option Addr:=match v with
 | .ref a=>some a
 |_=>none
theorem Rs{v:dF}{a:Addr}(e:Ws v=some a):v=.ref a:=by
 cases v<;>first|exact xns e|exact congrArg _ (aq.inj e)
noncomputable def dFn (d:Data):Option FuncData:=match d with
 | .func f=>some f
 |_=>none
theorem VR{d:Data}{f:FuncData}(e:dFn d=some f):d=.func f:=by
 cases d<;>first|exact xns e|exact congrArg _ (aq.inj e)
noncomputable def bSt (b:FuncBody):Option (List Stmt):=match b with
 | .stmts f=>some f
 |_=>none
theorem YV{d:FuncBody}{f:List Stmt}(e:bSt d=some f):d=.stmts f:=by
 cases d<;>first|exact xns e|exact congrArg _ (aq.inj e)
noncomputable def YW (K:Frag) (cd:List Str→Option (Addr×Addr×Nat)) (a:Addr) (b:Def) (N:Nm):Bool:=(K.lookup a).any fun o=>(dFn o.data).any fun fd=>(bSt fd.body).any fun xs=>
 GR (mS N fd.scope 40) b.body xs&&(fd.closure.isEmpty&&(fd.globals==dR&&(fd.builtins==dT&&(fd.scope.kind== .function&&(!fd.scope.isCoroutine&&(!fd.scope.isGenerator&&(codeIn K fd.code fd.qualname&&
 (fd.params.posonlyargs.isEmpty&&(fd.params.args.map (·.arg)==N.names.take b.np&&(fd.params.kwonlyargs.isEmpty&&(fd.params.vararg.isNone&&(fd.params.kwarg.isNone&&(fd.defaults== .none&&(fd.scope.names.all (fun p=> !N1 p.2)&&
 ((N.names.take b.np).all (fun x=>(fd.scope.names.lookup x).any fun k=>Hi k||HW k)&&((cd N.names).all (fun t=>fd.code== .ref t.1)&&(decide N.names.Nodup&&Nat.ble b.np N.names.length)))))))))))))))))
theorem OY{sc:dQ}(h:(sc.kind== .function)=true):sc.kind=.function:=by
 cases q:sc.kind<;>first|rfl|(rw[q]at h;exact xbf h)
theorem Zv{k:dX}(h:(Hi k||HW k)=true):k=.local∨k=.cell:=by
 cases k<;>first|exact .inl rfl|exact .inr rfl|exact xbf h
theorem Rt{P:PI}{K:Frag}{a:Addr}{b:Def}{N:Nm}(X:K.In P.hb)(e:YW K P.cdOf a b N=true):VO P a b N:=
 aW (Fc e) fun o h=>aW (Fc h.2) fun fd h'=>aW (Fc h'.2) fun xs h''=>by
  haveI ed:=VR h'.1;haveI a1:=AC h''.2;haveI a2:=AC a1.2;haveI a3:=AC a2.2;haveI a4:=AC a3.2;haveI a5:=AC a4.2;haveI a6:=AC a5.2;haveI a7:=AC a6.2;haveI a8:=AC a7.2;haveI a9:=AC a8.2;haveI a10:=AC a9.2;haveI a11:=AC a10.2;haveI a12:=AC a11.2;haveI a13:=AC a12.2;haveI a14:=AC a13.2;haveI a15:=AC a14.2;haveI a16:=AC a15.2;haveI a17:=AC a16.2;haveI a18:=AC a17.2;have hnd:N.names.Nodup:=of_decide_eq_true a18.1;have ho:P.hb.get? a=some o:=X _ _ h.1;refine ⟨⟨o,fd,xs,40,ho,ed,YV h''.1,a1.1,cr.mp a2.1,eq_of_beq a3.1,eq_of_beq a4.1,OY a5.1,(cV _).mp a6.1,(cV _).mp a7.1,codeRec_of X a8.1,fun vals hl=> ?_,fun x hx=>xbf (ao.mp a15.1 (x,.free) (mem_of_lookup hx)),fun x hx=> ?_⟩,hnd,au a18.2,fun fd' o' ho' hd' c T j hcd=> ?_⟩
  ·exact ES (cr.mp a9.1) (eq_of_beq a10.1) (cr.mp a11.1) (cq.mp a12.1) (cq.mp a13.1) (eq_of_beq a14.1) (hnd.sublist (List.take_sublist _ _)) vals (by simp only[hl,b0];exact (Nat.min_eq_left (au a18.2)).symm)
  ·exact aW (Fc (ao.mp a16.1 x hx)) fun k w=>(Zv w.2).imp (fun q=>w.1.trans (congrArg some q)) fun q=>w.1.trans (congrArg some q)
  ·haveI q:=aq.inj (ho.symm.trans ho');subst q;haveI q:=ed.symm.trans hd';injection q with q;subst q;haveI z:=a17.1;rw[hcd]at z;exact eq_of_beq z
end Mine
end
section
namespace Mine
open E St
noncomputable def Fo:List St:=[.ret (.meth .split (.glob 0) [(.cst (.str [32]))])]
noncomputable def NH:List St:=[.ret (.cmp (.call 36 [(.loc 0),(.loc 1)]) [.eq] [(.tup [(.cst (.str [119,111,114,100])),(.loc 2)])])]
noncomputable def CH:List St:=[.ret (.or [(.cmp (.loc 0) [.isIn] [(.meth .split (.glob 1) [(.cst (.str [32]))])]),(.cmp (.loc 0) [.isIn] [(.call 0 [])])])]
noncomputable def Fp:List St:=[.ret (.or [(.cmp (.cst (.str [65])) [.le,.le] [(.loc 0),(.cst (.str [90]))]),(.cmp (.cst (.str [97])) [.le,.le] [(.loc 0),(.cst (.str [122]))])])]
noncomputable def Fq:List St:=[.ret (.cmp (.cst (.str [48])) [.le,.le] [(.loc 0),(.cst (.str [57]))])]
noncomputable def H7:List St:=[.ret (.meth .join (.cst (.str [])) [(.comp (.ite (.cmp (.cst (.str [97])) [.le,.le] [(.loc 1),(.cst (.str [122]))]) (.bi .chr [(.bin .sub (.bi .ord [(.loc 1)]) (.cst (.int 32)))]) (.loc 1)) [1] false false (.loc 0) [])])]
noncomputable def H8:List St:=[.whl (.and [(.cmp (.loc 1) [.lt] [(.bi .len [(.loc 0)])]),(.cmp (.idx (.loc 0) (.loc 1)) [.isIn] [(.glob 2)])]) [.aug 1 .add (.cst (.int 1))],.ret (.loc 1)]
noncomputable def D8:List St:=[.whl (.and [(.cmp (.loc 1) [.lt] [(.bi .len [(.loc 0)])]),(.call 4 [(.idx (.loc 0) (.loc 1))])]) [.aug 1 .add (.cst (.int 1))],.ret (.loc 1)]
noncomputable def NI:List St:=[.whl (.and [(.cmp (.loc 1) [.lt] [(.bi .len [(.loc 0)])]),(.cmp (.idx (.loc 0) (.loc 1)) [.isIn] [(.cst (.str [32,9]))])]) [.aug 1 .add (.cst (.int 1))],.ret (.loc 1)]
noncomputable def Fs:List St:=[.ite (.cmp (.slc (.loc 0) (some (.loc 1)) (some (.bin .add (.loc 1) (.cst (.int 1))))) [.notIn] [(.tup [(.cst (.str [69])),(.cst (.str [101]))])]) [.ret (.loc 1)] [],.junk,.junk,.junk,.junk]
noncomputable def Ft:List St:=[.asg 2 (.call 7 [(.loc 0),(.loc 1)]),.ite (.cmp (.slc (.loc 0) (some (.loc 2)) (some (.bin .add (.loc 2) (.cst (.int 1))))) [.eq] [(.cst (.str [46]))]) [.junk] [],.ite (.cmp (.bin .sub (.loc 2) (.loc 1)) [.gt] [(.glob 3)]) [.junk] [],.asg 3 (.cmp (.meth .find3 (.loc 0) [(.cst (.str [46])),(.loc 1),(.loc 2)]) [.lt] [(.cst (.int 0))]),.asg 4 (.call 9 [(.loc 0),(.loc 2)]),.asg 5 (.slc (.loc 0) (some (.loc 4)) (some (.bin .add (.loc 4) (.cst (.int 1))))),.ite (.or [(.cmp (.loc 5) [.eq] [(.cst (.str [33]))]),(.and [(.cmp (.loc 5) [.eq] [(.cst (.str [37]))]),(.loc 3),(.cmp (.loc 4) [.eq] [(.loc 2)])])]) [.junk] [],.ret (.tup [(.tup [(.cst (.str [110,117,109,98,101,114])),(.call 5 [(.slc (.loc 0) (some (.loc 1)) (some (.loc 4)))])]),(.loc 4)])]
noncomputable def G1:List St:=[.whl (.and [(.cmp (.loc 1) [.lt] [(.bi .len [(.loc 0)])]),(.or [(.call 3 [(.idx (.loc 0) (.loc 1))]),(.call 4 [(.idx (.loc 0) (.loc 1))]),(.cmp (.idx (.loc 0) (.loc 1)) [.eq] [(.cst (.str [46]))])])]) [.aug 1 .add (.cst (.int 1))],.ret (.ite (.and [(.cmp (.slc (.loc 0) (some (.loc 1)) (some (.bin .add (.loc 1) (.cst (.int 1))))) [.isIn] [(.tup [(.cst (.str [37])),(.cst (.str [36])),(.cst (.str [33]))])]),(.cmp (.slc (.loc 0) (some (.loc 1)) (some (.bin .add (.loc 1) (.cst (.int 1))))) [.ne] [(.cst (.str []))])]) (.bin .add (.loc 1) (.cst (.int 1))) (.loc 1))]
noncomputable def H9:List St:=[.asg 2 (.meth .find2 (.loc 0) [(.cst (.str [34])),(.bin .add (.loc 1) (.cst (.int 1)))]),.ite (.cmp (.loc 2) [.lt] [(.cst (.int 0))]) [.junk] [],.ret (.tup [(.tup [(.cst (.str [116,101,120,116])),(.slc (.loc 0) (some (.bin .add (.loc 1) (.cst (.int 1)))) (some (.loc 2)))]),(.bin .add (.loc 2) (.cst (.int 1)))])]
noncomputable def KW:List St:=[.ret (.ite (.cmp (.slc (.loc 0) none (some (.cst (.int 1)))) [.eq] [(.cst (.str [32]))]) (.slc (.loc 0) (some (.cst (.int 1))) none) (.loc 0))]
noncomputable def IA:List St:=[.asg 2 (.call 11 [(.loc 0),(.loc 1)]),.asg 3 (.call 5 [(.slc (.loc 0) (some (.loc 1)) (some (.loc 2)))]),.ite (.cmp (.loc 3) [.eq] [(.cst (.str [82,69,77]))]) [.ret (.tup [(.lst [(.tup [(.cst (.str [114,101,109])),(.call 13 [(.slc (.loc 0) (some (.loc 2)) none)])])]),(.bi .len [(.loc 0)])])] [],.ite (.cmp (.loc 3) [.eq] [(.cst (.str [68,65,84,65]))]) [.junk,.junk] [],.ret (.tup [(.lst [(.tup [(.ite (.call 2 [(.loc 3)]) (.cst (.str [119,111,114,100])) (.cst (.str [110,97,109,101]))),(.loc 3)])]),(.loc 2)])]
noncomputable def CI:List St:=[.asg 2 (.idx (.loc 0) (.loc 1)),.ite (.or [(.call 4 [(.loc 2)]),(.and [(.cmp (.loc 2) [.eq] [(.cst (.str [46]))]),(.call 4 [(.slc (.loc 0) (some (.bin .add (.loc 1) (.cst (.int 1)))) (some (.bin .add (.loc 1) (.cst (.int 2)))))])])]) [.asgT [3,4] (.call 10 [(.loc 0),(.loc 1)]),.ret (.tup [(.lst [(.loc 3)]),(.loc 4)])] [],.ite (.call 3 [(.loc 2)]) [.ret (.call 14 [(.loc 0),(.loc 1)])] [],.ite (.cmp (.loc 2) [.eq] [(.cst (.str [34]))]) [.asgT [3,4] (.call 12 [(.loc 0),(.loc 1)]),.ret (.tup [(.lst [(.loc 3)]),(.loc 4)])] [],.ite (.cmp (.loc 2) [.isIn] [(.glob 4)]) [.junk,.junk] [],.ite (.cmp (.loc 2) [.eq] [(.cst (.str [63]))]) [.junk] [],.ite (.cmp (.loc 2) [.eq] [(.cst (.str [39]))]) [.junk] [],.ite (.cmp (.loc 2) [.isIn] [(.glob 5)]) [.ret (.tup [(.lst [(.tup [(.cst (.str [115,105,103,110])),(.loc 2)])]),(.bin .add (.loc 1) (.cst (.int 1)))])] [],.junk]
noncomputable def Fu:List St:=[.ite (.cmp (.bi .len [(.loc 0)]) [.gt] [(.glob 6)]) [.rse [(.cst (.str [83,78])),(.glob 6)]] [],.asgT [1,2] (.tup [(.lst []),(.call 8 [(.loc 0),(.cst (.int 0))])]),.whl (.cmp (.loc 2) [.lt] [(.bi .len [(.loc 0)])]) [.asgT [3,2] (.call 15 [(.loc 0),(.loc 2)]),.exp (.meth .extend (.loc 1) [(.loc 3)]),.asg 2 (.call 8 [(.loc 0),(.loc 2)])],.ret (.loc 1)]
noncomputable def Iq:List St:=[.whl (.and [(.cmp (.loc 1) [.lt] [(.bi .len [(.loc 0)])]),(.cmp (.idx (.loc 0) (.loc 1)) [.eq] [(.cst (.str [32]))])]) [.aug 1 .add (.cst (.int 1))],.ret (.loc 1)]
noncomputable def ET:List St:=[.asg 1 (.cst (.int 0)),.for 0 [2] false (.loc 0) [.asg 1 (.bi .min [(.bin .add (.bin .mul (.cst (.int 10)) (.loc 1)) (.meth .index (.glob 2) [(.loc 2)])),(.bin .add (.glob 7) (.cst (.int 1)))])],.ret (.loc 1)]
noncomputable def CJ:List St:=[.asgT [4,5] (.call 36 [(.loc 0),(.loc 1)]),.ite (.or [(.cmp (.loc 4) [.ne] [(.cst (.str [110,117,109,98,101,114]))]),(.cmp (.bi .len [(.loc 5)]) [.gt] [(.cst (.int 5))])]) [.junk] [],.asg 2 (.cst (.int 0)),.for 0 [3] false (.loc 5) [.ite (.not (.cmp (.cst (.str [48])) [.le,.le] [(.loc 3),(.cst (.str [57]))])) [.junk] [],.asg 2 (.bin .sub (.bin .add (.bin .mul (.loc 2) (.cst (.int 10))) (.bi .ord [(.loc 3)])) (.cst (.int 48)))],.ite (.cmp (.loc 2) [.gt] [(.glob 8)]) [.junk] [],.ret (.tup [(.loc 2),(.bin .add (.loc 1) (.cst (.int 1)))])]
noncomputable def Ca:List St:=[.ite (.not (.cmp (.cst (.int 0)) [.le,.le] [(.loc 0),(.glob 7)])) [.junk] [],.ret (.loc 0)]
noncomputable def Ez:List St:=[.asg 1 (.call 17 [(.loc 0),(.cst (.int 0))]),.asg 2 (.call 6 [(.loc 0),(.loc 1)]),.ite (.cmp (.loc 2) [.eq] [(.loc 1)]) [.junk] [],.asg 3 (.ite (.cmp (.slc (.loc 0) (some (.loc 2)) (some (.bin .add (.loc 2) (.cst (.int 1))))) [.eq] [(.cst (.str [32]))]) (.slc (.loc 0) (some (.bin .add (.loc 2) (.cst (.int 1)))) none) (.slc (.loc 0) (some (.loc 2)) none)),.ret (.tup [(.call 20 [(.call 18 [(.slc (.loc 0) (some (.loc 1)) (some (.loc 2)))])]),(.loc 3)])]
noncomputable def Fv:List St:=[.asgT [2,3] (.call 21 [(.loc 1)]),.ite (.cmp (.loc 2) [.isN] [(.cst .none)]) [.junk] [],.ite (.cmp (.meth .strip (.loc 3) [(.cst (.str [32]))]) [.ne] [(.cst (.str []))]) [.asgI (.loc 0) (.loc 2) (.meth .rstrip (.loc 3) [(.cst (.str [32]))])] [.junk],.ret (.cst .none)]
noncomputable def DG:List St:=[.ret (.comp (.loc 3) [3] false false (.bi .sorted [(.loc 0)]) [(.cmp (.loc 1) [.le,.le] [(.loc 3),(.loc 2)])])]
noncomputable def Cz:List St:=[.asg 1 (.dcti []),.for 0 [2] false (.loc 0) [.ite (.and [(.cmp (.meth .strip (.loc 2) [(.cst (.str [32,9,13]))]) [.ne] [(.cst (.str []))]),(.cmp (.call 22 [(.loc 1),(.meth .rstrip (.loc 2) [(.cst (.str [13]))])]) [.isNotN] [(.cst .none)])]) [.junk] []],.ret (.loc 1)]
noncomputable def D3:List St:=[.ret (.or [(.cmp (.cst (.str [65])) [.le,.le] [(.loc 0),(.cst (.str [90]))]),(.cmp (.cst (.str [97])) [.le,.le] [(.loc 0),(.cst (.str [122]))]),(.cmp (.loc 0) [.isIn] [(.glob 2)]),(.cmp (.loc 0) [.isIn] [(.cst (.str [46,36,37,33]))])])]
noncomputable def Lo:List St:=[.whl (.and [(.cmp (.loc 1) [.lt] [(.bi .len [(.loc 0)])]),(.call 25 [(.idx (.loc 0) (.loc 1))])]) [.aug 1 .add (.cst (.int 1))],.ret (.loc 1)]
noncomputable def Fx:List St:=[.asg 2 (.meth .find2 (.loc 0) [(.cst (.str [34])),(.bin .add (.loc 1) (.cst (.int 1)))]),.ret (.ite (.cmp (.loc 2) [.lt] [(.cst (.int 0))]) (.bi .len [(.loc 0)]) (.bin .add (.loc 2) (.cst (.int 1))))]
noncomputable def FA:List St:=[.asgT [1,2,3] (.tup [(.lst []),(.cst (.int 0)),(.cst (.str []))]),.whl (.cmp (.loc 2) [.lt] [(.bi .len [(.loc 0)])]) [.asg 4 (.idx (.loc 0) (.loc 2)),.ite (.cmp (.loc 4) [.eq] [(.cst (.str [34]))]) [.asgT [2,3] (.tup [(.call 27 [(.loc 0),(.loc 2)]),(.cst (.str []))])] [.ite (.cmp (.loc 4) [.eq] [(.cst (.str [39]))]) [.junk] [.ite (.call 25 [(.loc 4)]) [.asg 5 (.call 26 [(.loc 0),(.loc 2)]),.asg 6 (.meth .upper (.slc (.loc 0) (some (.loc 2)) (some (.loc 5))) []),.ite (.cmp (.loc 6) [.eq] [(.cst (.str [82,69,77]))]) [.ret (.loc 1)] [],.asg 2 (.ite (.cmp (.loc 6) [.eq] [(.cst (.str [68,65,84,65]))]) .junk (.loc 5)),.ite (.cmp (.loc 6) [.isIn] [(.glob 9)]) [.asg 7 (.lst []),.asg 2 (.call 30 [(.loc 0),(.loc 5),(.loc 7)]),.asg 8 (.or [(.cmp (.loc 6) [.eq] [(.cst (.str [82,69,83,85,77,69]))]),(.and [(.cmp (.loc 6) [.eq] [(.cst (.str [71,79,84,79]))]),(.cmp (.loc 3) [.eq] [(.cst (.str [69,82,82,79,82]))])])]),.exp (.meth .extend (.loc 1) [(.ite (.loc 8) (.call 29 [(.loc 0),(.loc 7)]) (.loc 7))])] [],.asg 3 (.loc 6)] [.asgT [2,3] (.tup [(.bin .add (.loc 2) (.cst (.int 1))),(.ite (.cmp (.loc 4) [.eq] [(.cst (.str [32]))]) (.loc 3) (.cst (.str [])))])]]]],.ret (.loc 1)]
noncomputable def C0:List St:=[.ret (.comp (.tup [(.loc 2),(.loc 3)]) [2,3] true false (.loc 1) [(.cmp (.call 18 [(.slc (.loc 0) (some (.loc 2)) (some (.loc 3)))]) [.ne] [(.cst (.int 0))])])]
noncomputable def B0:List St:=[.asg 3 (.call 17 [(.loc 0),(.loc 1)]),.asg 4 (.call 6 [(.loc 0),(.loc 3)]),.whl (.and [(.cmp (.loc 4) [.gt] [(.loc 3)]),(.or [(.cmp (.loc 4) [.eq] [(.bi .len [(.loc 0)])]),(.not (.call 25 [(.idx (.loc 0) (.loc 4))]))])]) [.exp (.meth .append (.loc 2) [(.tup [(.loc 3),(.loc 4)])]),.asg 1 (.loc 4),.asg 5 (.call 17 [(.loc 0),(.loc 4)]),.ite (.cmp (.slc (.loc 0) (some (.loc 5)) (some (.bin .add (.loc 5) (.cst (.int 1))))) [.ne] [(.cst (.str [44]))]) [.ret (.loc 1)] [],.asg 3 (.call 17 [(.loc 0),(.bin .add (.loc 5) (.cst (.int 1)))]),.asg 4 (.call 6 [(.loc 0),(.loc 3)])],.ret (.loc 1)]
noncomputable def FC:List St:=[.ret (.comp (.call 18 [(.slc (.loc 0) (some (.loc 1)) (some (.loc 2)))]) [1,2] true false (.call 28 [(.loc 0)]) [])]
noncomputable def D4:List St:=[.asgT [2,3] (.tup [(.cst (.str [])),(.cst (.int 0))]),.for 0 [4,5] true (.call 28 [(.loc 0)]) [.asg 6 (.call 18 [(.slc (.loc 0) (some (.loc 4)) (some (.loc 5)))]),.asg 2 (.bin .add (.bin .add (.loc 2) (.slc (.loc 0) (some (.loc 3)) (some (.loc 4)))) (.ite (.cmp (.loc 6) [.isIn] [(.loc 1)]) (.bi .str [(.idx (.loc 1) (.loc 6))]) (.slc (.loc 0) (some (.loc 4)) (some (.loc 5))))),.asg 3 (.loc 5)],.ret (.bin .add (.loc 2) (.slc (.loc 0) (some (.loc 3)) none))]
noncomputable def C1:List St:=[.asg 4 (.call 23 [(.loc 0),(.loc 2),(.glob 7)]),.asg 5 (.call 23 [(.loc 0),(.cst (.int 0)),(.bin .sub (.loc 2) (.cst (.int 1)))]),.ite (.or [(.cmp (.loc 3) [.lt] [(.cst (.int 1))]),(.cmp (.loc 1) [.lt] [(.cst (.int 0))]),(.and [(.cmp (.bi .len [(.loc 4)]) [.eq] [(.cst (.int 0))]),(.cmp (.bi .len [(.loc 0)]) [.gt] [(.cst (.int 0))])])]) [.junk] [],.asg 6 (.dcti []),.for 2 [7,8] true (.loc 4) [.asgI (.loc 6) (.loc 8) (.bin .add (.loc 1) (.bin .mul (.loc 7) (.loc 3)))],.ite (.and [(.cmp (.bi .len [(.loc 4)]) [.gt] [(.cst (.int 0))]),(.cmp (.idx (.loc 6) (.idx (.loc 4) (.bin .sub (.bi .len [(.loc 4)]) (.cst (.int 1))))) [.gt] [(.glob 7)])]) [.junk] [],.ite (.and [(.cmp (.bi .len [(.loc 4)]) [.gt] [(.cst (.int 0))]),(.cmp (.bi .len [(.loc 5)]) [.gt] [(.cst (.int 0))]),(.cmp (.idx (.loc 5) (.bin .sub (.bi .len [(.loc 5)]) (.cst (.int 1)))) [.ge] [(.loc 1)])]) [.rse [(.cst (.str [70,67])),(.cst (.str [82,69,78,85,77]))]] [],.ret (.loc 6)]
noncomputable def FD:List St:=[.asg 1 (.lst []),.for 0 [2] false (.bi .sorted [(.loc 0)]) [.for 0 [3] false (.call 31 [(.idx (.loc 0) (.loc 2))]) [.ite (.cmp (.loc 3) [.notIn] [(.loc 0)]) [.exp (.meth .append (.loc 1) [(.tup [(.loc 2),(.loc 3)])])] []]],.ret (.loc 1)]
noncomputable def CV:List St:=[.asg 4 (.call 33 [(.loc 0),(.loc 1),(.loc 2),(.loc 3)]),.asg 5 (.dcti []),.for 0 [6] false (.bi .sorted [(.loc 0)]) [.asg 7 (.call 32 [(.idx (.loc 0) (.loc 6)),(.loc 4)]),.ite (.or [(.cmp (.bi .len [(.loc 7)]) [.gt] [(.glob 6)]),(.cmp (.bi .len [(.call 28 [(.loc 7)])]) [.lt] [(.bi .len [(.call 28 [(.idx (.loc 0) (.loc 6))])])])]) [.rse [(.cst (.str [70,67])),(.cst (.str [82,69,78,85,77]))]] [],.asgI (.loc 5) (.meth .get (.loc 4) [(.loc 6),(.loc 6)]) (.loc 7)],.ret (.loc 5)]
noncomputable def DH:List St:=[.ret (.ite (.cmp (.loc 1) [.lt] [(.bi .len [(.loc 0)])]) (.idx (.loc 0) (.loc 1)) (.glob 10))]
noncomputable def NJ:List St:=[.ret (.cmp (.call 36 [(.loc 0),(.loc 1)]) [.eq] [(.tup [(.cst (.str [115,105,103,110])),(.loc 2)])])]
noncomputable def Ir:List St:=[.asgT [2,3] (.tup [(.cst (.int 0)),(.loc 1)]),.whl (.and [(.cmp (.loc 1) [.lt] [(.bi .len [(.loc 0)])]),(.cmp (.cst (.str [48])) [.le,.le] [(.idx (.loc 0) (.loc 1)),(.cst (.str [57]))])]) [.asg 2 (.bin .sub (.bin .add (.bin .mul (.loc 2) (.cst (.int 10))) (.bi .ord [(.idx (.loc 0) (.loc 1))])) (.cst (.int 48))),.aug 1 .add (.cst (.int 1)),.ite (.cmp (.bin .sub (.loc 1) (.loc 3)) [.gt] [(.glob 11)]) [.junk] []],.ret (.tup [(.loc 2),(.bin .sub (.loc 1) (.loc 3)),(.loc 1)])]
noncomputable def IB:List St:=[.asgT [1,2,3] (.call 38 [(.loc 0),(.cst (.int 0))]),.ite (.cmp (.slc (.loc 0) (some (.loc 3)) none) [.isIn] [(.tup [(.cst (.str [])),(.cst (.str [37]))])]) [.ret (.tup [(.cst (.str [119,104,111,108,101])),(.loc 1)])] [],.junk,.junk,.junk,.junk]
noncomputable def NK:List St:=[.whl (.and [(.cmp (.bi .len [(.attr (.loc 0) 4)]) [.gt] [(.cst (.int 0))]),(.cmp (.idx (.idx (.attr (.loc 0) 4) (.neg (.cst (.int 1)))) (.cst (.int 1))) [.ge] [(.loc 1)])]) [.junk,.junk,.junk]]
noncomputable def Lp:List St:=[.exp (.call 40 [(.loc 0),(.cst (.int 0))]),.asg 1 (.meth .pop (.attr (.loc 0) 3) []),.ite (.cmp (.attr (.loc 0) 0) [.isIn] [(.tup [(.cst (.str [116,111,112])),(.cst (.str [103,114,111,117,112]))])]) [.ret (.loc 1)] [],.junk]
noncomputable def Ge:List St:=[.asgT [2,3] (.call 36 [(.loc 0),(.loc 1)]),.ite (.cmp (.loc 2) [.eq] [(.cst (.str [110,117,109,98,101,114]))]) [.ret (.call 39 [(.loc 3)])] [],.ite (.cmp (.loc 2) [.eq] [(.cst (.str [116,101,120,116]))]) [.ret (.tup [(.loc 2),(.loc 3)])] [],.ite (.call 37 [(.loc 0),(.bin .add (.loc 1) (.cst (.int 1))),(.cst (.str [40]))]) [.junk] [],.ite (.cmp (.loc 2) [.eq] [(.cst (.str [110,97,109,101]))]) [.ret (.ite (.cmp (.slc (.loc 3) none (some (.cst (.int 2)))) [.eq] [(.cst (.str [70,78]))]) (.tup [(.cst (.str [102,110])),(.loc 3),(.lst [])]) (.tup [(.cst (.str [110,97,109,101])),(.loc 3)]))] [],.junk]
noncomputable def HK:List St:=[.asgT [5,6] (.call 36 [(.loc 1),(.loc 2)]),.asg 4 (.call 42 [(.loc 1),(.loc 2)]),.ite (.cmp (.loc 4) [.isNotN] [(.cst .none)]) [.exp (.meth .append (.attr (.idx (.loc 0) (.neg (.cst (.int 1)))) 3) [(.loc 4)]),.ret (.tup [(.bin .add (.loc 2) (.cst (.int 1))),(.cst (.bool true))])] [],.junk,.junk]
noncomputable def Gf:List St:=[.asgT [4,5] (.call 36 [(.loc 1),(.loc 2)]),.asg 3 (.idx (.loc 0) (.neg (.cst (.int 1)))),.ite (.and [(.cmp (.loc 4) [.isIn] [(.tup [(.cst (.str [115,105,103,110])),(.cst (.str [119,111,114,100]))])]),(.cmp (.loc 5) [.isIn] [(.glob 12)])]) [.junk,.junk,.junk] [],.ite (.cmp (.attr (.loc 3) 0) [.eq] [(.cst (.str [116,111,112]))]) [.ret (.tup [(.loc 2),(.cst (.str [101,110,100]))])] [],.junk,.junk,.junk,.junk,.junk]
noncomputable def It:List St:=[.asgT [2,3,4] (.tup [(.lst [(.new [(.cst (.str [116,111,112])),(.cst (.str []))])]),(.cst (.str [111,112,101,114,97,110,100])),(.call 0 [])]),.whl (.cmp (.loc 3) [.ne] [(.cst (.str [101,110,100]))]) [.ite (.cmp (.loc 3) [.eq] [(.cst (.str [111,112,101,114,97,110,100]))]) [.asgT [1,5] (.call 43 [(.loc 2),(.loc 0),(.loc 1),(.loc 4)]),.asg 3 (.ite (.loc 5) (.cst (.str [111,112,101,114,97,116,111,114])) (.cst (.str [111,112,101,114,97,110,100])))] [.asgT [1,3] (.call 44 [(.loc 2),(.loc 0),(.loc 1)])]],.ret (.tup [(.call 41 [(.idx (.loc 2) (.cst (.int 0)))]),(.loc 1)])]
noncomputable def P4:List St:=[.asgT [2,3] (.call 36 [(.loc 0),(.loc 1)]),.ret (.or [(.cmp (.loc 2) [.isIn] [(.tup [(.cst (.str [101,110,100])),(.cst (.str [114,101,109]))])]),(.and [(.cmp (.loc 2) [.eq] [(.cst (.str [115,105,103,110]))]),(.cmp (.loc 3) [.eq] [(.cst (.str [58]))])]),(.and [(.cmp (.loc 2) [.eq] [(.cst (.str [119,111,114,100]))]),(.cmp (.loc 3) [.eq] [(.cst (.str [69,76,83,69]))])])])]
noncomputable def KY:List St:=[.ite (.not (.call 1 [(.loc 0),(.loc 1),(.loc 2)])) [.junk] [],.ret (.bin .add (.loc 1) (.cst (.int 1)))]
noncomputable def HL:List St:=[.asgT [3,1] (.call 19 [(.loc 0),(.loc 1)]),.asg 2 (.lst [(.loc 3)]),.whl (.call 37 [(.loc 0),(.loc 1),(.cst (.str [44]))]) [.asgT [3,1] (.call 19 [(.loc 0),(.bin .add (.loc 1) (.cst (.int 1)))]),.exp (.meth .append (.loc 2) [(.loc 3)])],.ret (.tup [(.loc 2),(.loc 1)])]
noncomputable def Iu:List St:=[.ite (.not (.call 37 [(.loc 0),(.loc 1),(.cst (.str [35]))])) [.ret (.tup [(.cst .none),(.loc 1)])] [],.junk,.junk]
noncomputable def Iv:List St:=[.asgT [2,1] (.call 45 [(.loc 0),(.loc 1)]),.ret (.tup [(.tup [(.cst (.str [69,82,82,79,82])),(.loc 2)]),(.loc 1)])]
noncomputable def HM:List St:=[.ret (.dcts [((.cst (.str [68,69,70])),(.fn 167)),((.cst (.str [68,73,77])),(.fn 168)),((.cst (.str [69,82,65,83,69])),(.fn 169)),((.cst (.str [79,80,84,73,79,78])),(.fn 170)),((.cst (.str [68,65,84,65])),(.fn 172)),((.cst (.str [82,69,65,68])),(.fn 173)),((.cst (.str [83,87,65,80])),(.fn 176)),((.cst (.str [69,82,82,79,82])),(.fn 50)),((.cst (.str [82,65,78,68,79,77,73,90,69])),(.fn 178))])]
noncomputable def FO:List St:=[.ret (.dcts [((.cst (.str [79,80,69,78])),(.fn 181)),((.cst (.str [67,76,79,83,69])),(.fn 182)),((.cst (.str [70,73,69,76,68])),(.fn 183)),((.cst (.str [76,83,69,84])),(.fn 185)),((.cst (.str [82,83,69,84])),(.fn 186)),((.cst (.str [71,69,84])),(.fn 188)),((.cst (.str [80,85,84])),(.fn 189)),((.cst (.str [87,82,73,84,69])),(.fn 190)),((.cst (.str [67,72,65,73,78])),(.fn 191)),((.cst (.str [67,79,77,77,79,78])),(.fn 192))])]
noncomputable def NL:List St:=[.ite (.call 37 [(.loc 0),(.loc 1),(.cst (.str [44]))]) [.junk] [],.ite (.call 37 [(.loc 0),(.loc 1),(.cst (.str [59]))]) [.ret (.tup [(.tup [(.cst (.str [103,108,117,101]))]),(.bin .add (.loc 1) (.cst (.int 1)))])] [],.ite (.or [(.call 1 [(.loc 0),(.loc 1),(.cst (.str [84,65,66]))]),(.call 1 [(.loc 0),(.loc 1),(.cst (.str [83,80,67]))])]) [.junk,.junk,.junk] [],.asgT [3,1] (.call 45 [(.loc 0),(.loc 1)]),.ret (.tup [(.tup [(.cst (.str [118,97,108,117,101])),(.loc 3)]),(.loc 1)])]
noncomputable def Iw:List St:=[.asgT [3,1] (.call 49 [(.loc 0),(.loc 1)]),.ite (.call 1 [(.loc 0),(.loc 1),(.cst (.str [85,83,73,78,71]))]) [.junk] [],.asg 2 (.lst []),.whl (.not (.call 46 [(.loc 0),(.loc 1)])) [.asgT [4,1] (.call 53 [(.loc 0),(.loc 1)]),.exp (.meth .append (.loc 2) [(.loc 4)])],.ret (.tup [(.tup [(.cst (.str [80,82,73,78,84])),(.loc 3),(.loc 2)]),(.loc 1)])]
noncomputable def KZ:List St:=[.asgT [2,1] (.call 19 [(.loc 0),(.loc 1)]),.ret (.tup [(.tup [(.cst (.str [71,79,84,79])),(.loc 2)]),(.loc 1)])]
noncomputable def Ix:List St:=[.asgT [2,1] (.call 19 [(.loc 0),(.loc 1)]),.ret (.tup [(.tup [(.cst (.str [71,79,83,85,66])),(.loc 2)]),(.loc 1)])]
noncomputable def NM:List St:=[.ite (.call 1 [(.loc 0),(.loc 1),(.cst (.str [69,82,82,79,82]))]) [.asgT [5,1] (.call 19 [(.loc 0),(.call 47 [(.loc 0),(.bin .add (.loc 1) (.cst (.int 1))),(.cst (.str [71,79,84,79]))])]),.ret (.tup [(.tup [(.cst (.str [79,78,69,82,82])),(.loc 5)]),(.loc 1)])] [],.asgT [3,1] (.call 45 [(.loc 0),(.loc 1)]),.asg 2 (.ite (.call 1 [(.loc 0),(.loc 1),(.cst (.str [71,79,84,79]))]) (.cst (.str [71,79,84,79])) (.cst (.str [71,79,83,85,66]))),.asgT [4,1] (.call 48 [(.loc 0),(.call 47 [(.loc 0),(.loc 1),(.loc 2)])]),.ret (.tup [(.tup [(.cst (.str [79,78,71,79])),(.loc 2),(.loc 3),(.loc 4)]),(.loc 1)])]
noncomputable def HN:List St:=[.ret (.ite (.call 46 [(.loc 0),(.loc 1)]) (.tup [(.cst .none),(.loc 1)]) (.call 19 [(.loc 0),(.loc 1)]))]
noncomputable def IC:List St:=[.asgT [2,1] (.call 58 [(.loc 0),(.loc 1)]),.ret (.tup [(.tup [(.cst (.str [82,69,84,85,82,78])),(.loc 2)]),(.loc 1)])]
noncomputable def HO:List St:=[.asgT [2,1] (.call 58 [(.loc 0),(.loc 1)]),.ret (.tup [(.tup [(.cst (.str [82,69,83,84,79,82,69])),(.loc 2)]),(.loc 1)])]
noncomputable def ID:List St:=[.ite (.call 1 [(.loc 0),(.loc 1),(.cst (.str [78,69,88,84]))]) [.ret (.tup [(.tup [(.cst (.str [82,69,83,85,77,69])),(.cst (.str [78,69,88,84]))]),(.bin .add (.loc 1) (.cst (.int 1)))])] [],.asgT [2,1] (.call 58 [(.loc 0),(.loc 1)]),.ret (.tup [(.tup [(.cst (.str [82,69,83,85,77,69])),(.ite (.cmp (.loc 2) [.eq] [(.cst (.int 0))]) (.cst .none) (.loc 2))]),(.loc 1)])]
noncomputable def EU:List St:=[.asg 0 (.dcts [((.cst (.str [76,69,84])),(.fn 200)),((.cst (.str [80,82,73,78,84])),(.fn 54)),((.cst (.str [73,78,80,85,84])),(.fn 206)),((.cst (.str [76,73,78,69])),(.fn 207)),((.cst (.str [71,79,84,79])),(.fn 55)),((.cst (.str [71,79,83,85,66])),(.fn 56)),((.cst (.str [79,78])),(.fn 57)),((.cst (.str [82,69,84,85,82,78])),(.fn 59)),((.cst (.str [82,69,83,84,79,82,69])),(.fn 60)),((.cst (.str [82,69,83,85,77,69])),(.fn 61)),((.cst (.str [70,79,82])),(.fn 215)),((.cst (.str [78,69,88,84])),(.fn 216)),((.cst (.str [87,72,73,76,69])),(.fn 217)),((.cst (.str [77,73,68,36])),(.fn 201)),((.cst (.str [77,65,84])),(.fn 199))]),.exp (.meth .update (.loc 0) [(.call 51 [])]),.exp (.meth .update (.loc 0) [(.call 52 [])]),.ret (.loc 0)]
noncomputable def Lq:List St:=[.asgT [5,6] (.call 36 [(.loc 0),(.loc 1)]),.ite (.cmp (.loc 5) [.eq] [(.cst (.str [114,101,109]))]) [.ret (.tup [(.tup [(.cst (.str [82,69,77])),(.loc 6)]),(.bin .add (.loc 1) (.cst (.int 1)))])] [],.ite (.cmp (.loc 5) [.eq] [(.cst (.str [110,97,109,101]))]) [.junk] [],.ite (.cmp (.loc 5) [.ne] [(.cst (.str [119,111,114,100]))]) [.junk] [],.ite (.cmp (.loc 6) [.eq] [(.cst (.str [73,70]))]) [.ret (.call 65 [(.loc 0),(.bin .add (.loc 1) (.cst (.int 1))),(.loc 2),(.loc 3)])] [],.ite (.cmp (.loc 6) [.isIn] [(.glob 13)]) [.junk] [],.ite (.cmp (.loc 6) [.isIn] [(.glob 14)]) [.junk] [],.ite (.cmp (.loc 6) [.notIn] [(.loc 2)]) [.junk] [],.asg 4 (.idx (.loc 2) (.loc 6)),.ret (.callv 4 [(.loc 0),(.bin .add (.loc 1) (.cst (.int 1)))])]
noncomputable def Ka:List St:=[.asg 4 (.lst []),.ite (.cmp (.idx (.call 36 [(.loc 0),(.loc 1)]) (.cst (.int 0))) [.eq] [(.cst (.str [110,117,109,98,101,114]))]) [.asgT [6,1] (.call 19 [(.loc 0),(.loc 1)]),.asg 4 (.lst [(.tup [(.cst (.str [71,79,84,79])),(.loc 6)])]),.ite (.not (.call 46 [(.loc 0),(.loc 1)])) [.junk] []] [],.asgT [5,1] (.call 66 [(.loc 0),(.loc 1),(.loc 2),(.bin .add (.loc 3) (.cst (.int 1)))]),.ret (.tup [(.bin .add (.loc 4) (.loc 5)),(.loc 1)])]
noncomputable def NN:List St:=[.ite (.cmp (.loc 3) [.ge] [(.glob 15)]) [.junk] [],.asgT [6,1] (.call 45 [(.loc 0),(.loc 1)]),.asg 4 (.ite (.call 1 [(.loc 0),(.loc 1),(.cst (.str [71,79,84,79]))]) (.loc 1) (.call 47 [(.loc 0),(.loc 1),(.cst (.str [84,72,69,78]))])),.asgT [7,1] (.call 64 [(.loc 0),(.loc 4),(.loc 2),(.loc 3)]),.asg 5 (.lst []),.ite (.call 1 [(.loc 0),(.loc 1),(.cst (.str [69,76,83,69]))]) [.asgT [5,1] (.call 64 [(.loc 0),(.bin .add (.loc 1) (.cst (.int 1))),(.loc 2),(.loc 3)])] [],.ret (.tup [(.tup [(.cst (.str [73,70])),(.loc 6),(.loc 7),(.loc 5)]),(.loc 1)])]
noncomputable def Kb:List St:=[.asg 4 (.lst []),.whl (.cst (.bool true)) [.whl (.call 37 [(.loc 0),(.loc 1),(.cst (.str [58]))]) [.aug 1 .add (.cst (.int 1))],.asgT [5,6] (.call 36 [(.loc 0),(.loc 1)]),.ite (.or [(.cmp (.loc 5) [.eq] [(.cst (.str [101,110,100]))]),(.and [(.cmp (.loc 3) [.gt] [(.cst (.int 0))]),(.cmp (.tup [(.loc 5),(.loc 6)]) [.eq] [(.tup [(.cst (.str [119,111,114,100])),(.cst (.str [69,76,83,69]))])])])]) [.ret (.tup [(.loc 4),(.loc 1)])] [],.asgT [7,1] (.call 63 [(.loc 0),(.loc 1),(.loc 2),(.loc 3)]),.exp (.meth .append (.loc 4) [(.loc 7)]),.ite (.not (.call 46 [(.loc 0),(.loc 1)])) [.junk] []]]
noncomputable def G2:List St:=[.asg 1 (.call 16 [(.loc 0)]),.asgT [2,3] (.call 66 [(.loc 1),(.cst (.int 0)),(.call 62 []),(.cst (.int 0))]),.ret (.loc 2)]
noncomputable def FP:List St:=[.asgT [2,3] (.loc 0),.asgI (.loc 0) (.cst (.int 1)) (.bin .add (.loc 3) (.cst (.int 1))),.ret (.ite (.cmp (.loc 3) [.lt] [(.bi .len [(.loc 2)])]) (.bin .mod (.idx (.loc 2) (.loc 3)) (.loc 1)) (.bin .mod (.bin .add (.bin .add (.bin .mul (.cst (.int 5)) (.loc 3)) (.bin .fdiv (.loc 3) (.cst (.int 4)))) (.cst (.int 2))) (.loc 1)))]
noncomputable def FQ:List St:=[.asgT [5,6,7] (.tup [(.bi .str [(.loc 1)]),(.bi .str [(.loc 2)]),(.tup [(.cst (.str [110,97,109,101])),(.cst (.str [88]))])]),.asg 3 (.tup [(.cst (.str [80,82,73,78,84])),(.cst .none),(.lst [(.tup [(.cst (.str [118,97,108,117,101])),(.tup [(.cst (.str [116,101,120,116])),(.cst (.str [71,79,84,79,32,48]))])]),(.tup [(.cst (.str [103,108,117,101]))]),(.tup [(.cst (.str [118,97,108,117,101])),(.tup [(.cst (.str [119,104,111,108,101])),(.cst (.int 0))])])])]),.asg 4 (.tup [(.cst (.str [82,69,83,85,77,69])),(.ite (.cmp (.loc 1) [.gt] [(.cst (.int 0))]) (.loc 1) (.cst .none))]),.ret (.idx (.lst [(.tup [(.bin .add (.cst (.str [71,79,84,79,32])) (.loc 5)),(.lst [(.tup [(.cst (.str [71,79,84,79])),(.loc 1)])])]),(.tup [(.bin .add (.bin .add (.bin .add (.cst (.str [79,78,32,88,32,71,79,84,79,32])) (.loc 5)) (.cst (.str [44]))) (.loc 6)),(.lst [(.tup [(.cst (.str [79,78,71,79])),(.cst (.str [71,79,84,79])),(.loc 7),(.lst [(.loc 1),(.loc 2)])])])]),(.tup [(.bin .add (.bin .add (.bin .add (.cst (.str [73,70,32,88,32,84,72,69,78,32])) (.loc 5)) (.cst (.str [32,69,76,83,69,32]))) (.loc 6)),(.lst [(.tup [(.cst (.str [73,70])),(.loc 7),(.lst [(.tup [(.cst (.str [71,79,84,79])),(.loc 1)])]),(.lst [(.tup [(.cst (.str [71,79,84,79])),(.loc 2)])])])])]),(.tup [(.bin .add (.bin .add (.bin .add (.cst (.str [71,79,83,85,66,32])) (.loc 5)) (.cst (.str [58,32,82,69,84,85,82,78,32]))) (.loc 6)),(.lst [(.tup [(.cst (.str [71,79,83,85,66])),(.loc 1)]),(.tup [(.cst (.str [82,69,84,85,82,78])),(.loc 2)])])]),(.tup [(.bin .add (.bin .add (.cst (.str [82,69,83,84,79,82,69,32])) (.loc 5)) (.cst (.str [58,32,80,82,73,78,84,32,34,71,79,84,79,32,48,34,59,48]))),(.lst [(.tup [(.cst (.str [82,69,83,84,79,82,69])),(.loc 1)]),(.loc 3)])]),(.tup [(.bin .add (.bin .add (.bin .add (.cst (.str [79,78,32,69,82,82,79,82,32,71,79,84,79,32])) (.loc 5)) (.cst (.str [58,32,71,79,84,79,32]))) (.loc 6)),(.lst [(.tup [(.cst (.str [79,78,69,82,82])),(.loc 1)]),(.tup [(.cst (.str [71,79,84,79])),(.loc 2)])])]),(.tup [(.bin .add (.cst (.str [82,69,83,85,77,69,32])) (.loc 5)),(.lst [(.loc 4)])]),(.tup [(.bin .add (.cst (.str [69,82,82,79,82,32,88,58,32,71,79,84,79,32])) (.loc 5)),(.lst [(.tup [(.cst (.str [69,82,82,79,82])),(.loc 7)]),(.tup [(.cst (.str [71,79,84,79])),(.loc 1)])])]),(.tup [(.bin .add (.bin .add (.bin .add (.cst (.str [82,69,83,85,77,69,32,78,69,88,84,58,32,79,78,32,88,32,71,79,83,85,66,32])) (.loc 5)) (.cst (.str [44]))) (.loc 6)),(.lst [(.tup [(.cst (.str [82,69,83,85,77,69])),(.cst (.str [78,69,88,84]))]),(.tup [(.cst (.str [79,78,71,79])),(.cst (.str [71,79,83,85,66])),(.loc 7),(.lst [(.loc 1),(.loc 2)])])])]),(.tup [(.bin .add (.bin .add (.bin .add (.cst (.str [73,70,32,88,32,84,72,69,78,32,82,69,83,85,77,69,32])) (.loc 5)) (.cst (.str [32,69,76,83,69,32,79,78,32,69,82,82,79,82,32,71,79,84,79,32]))) (.loc 6)),(.lst [(.tup [(.cst (.str [73,70])),(.loc 7),(.lst [(.loc 4)]),(.lst [(.tup [(.cst (.str [79,78,69,82,82])),(.loc 2)])])])])])]) (.loc 0))]
noncomputable def FS:List St:=[.ret (.ite (.and [(.cmp (.loc 1) [.eq] [(.cst (.int 0))]),(.loc 2)]) (.loc 1) (.meth .get (.loc 0) [(.loc 1),(.loc 1)]))]
noncomputable def Fy:List St:=[.asgT [4,5,6] (.tup [(.idx (.lst [(.cst (.int 0)),(.cst (.int 1)),(.cst (.int 7))]) (.call 68 [(.loc 0),(.cst (.int 3))])),(.lst []),(.lst [])]),.for 1 [1] false (.bin .add (.cst (.int 1)) (.call 68 [(.loc 0),(.cst (.int 4))])) [.exp (.meth .append (.loc 5) [(.loc 4)]),.asg 4 (.bin .add (.bin .add (.loc 4) (.cst (.int 1))) (.call 68 [(.loc 0),(.cst (.int 9))]))],.asg 2 (.bin .add (.loc 5) (.lst [(.cst (.int 0)),(.cst (.int 500))])),.for 0 [3] false (.loc 5) [.asg 7 (.call 68 [(.loc 0),(.cst (.int 10))]),.asg 8 (.idx (.loc 2) (.call 68 [(.loc 0),(.bi .len [(.loc 2)])])),.exp (.meth .append (.loc 6) [(.tup [(.loc 3),(.loc 7),(.loc 8),(.idx (.loc 2) (.call 68 [(.loc 0),(.bi .len [(.loc 2)])]))])])],.ret (.tup [(.loc 5),(.loc 6)])]
noncomputable def CK:List St:=[.asg 1 (.bin .mul (.cst (.str [120])) (.bin .add (.cst (.int 238)) (.call 68 [(.loc 0),(.cst (.int 4))]))),.asgT [3,4] (.tup [(.dcti [((.cst (.int 7)),(.bin .add (.cst (.str [71,79,84,79,32,55,58,32,82,69,77,32])) (.loc 1)))]),(.bin .add (.cst (.str [71,79,84,79,32,49,48,48,48,48,58,32,82,69,77,32])) (.loc 1))]),.asg 2 (.heard 2 1 (.call 35 [(.loc 3),(.cst (.int 10000)),(.cst (.int 0)),(.cst (.int 10))])),.ite (.cmp (.loc 3) [.ne] [(.dcti [((.cst (.int 7)),(.bin .add (.cst (.str [71,79,84,79,32,55,58,32,82,69,77,32])) (.loc 1)))])]) [.junk] [],.ite (.cmp (.bi .len [(.loc 4)]) [.gt] [(.cst (.int 255))]) [.ret (.and [(.cmp (.loc 2) [.eq] [(.cst (.str [70,67]))]),(.cmp (.heard 3 1 (.call 67 [(.loc 4)])) [.eq] [(.cst (.str [83,78]))])])] [],.ret (.and [(.cmp (.loc 2) [.eq] [(.dcti [((.cst (.int 10000)),(.loc 4))])]),(.cmp (.call 67 [(.loc 4)]) [.eq] [(.lst [(.tup [(.cst (.str [71,79,84,79])),(.cst (.int 10000))]),(.tup [(.cst (.str [82,69,77])),(.loc 1)])])])])]
noncomputable def Ru:List St:=[.asg 1 (.lst [(.comp (.bi .abs [(.loc 23)]) [23] false false (.slc (.loc 0) none (some (.cst (.int 24)))) []),(.cst (.int 0))]),.asgT [7,8] (.call 71 [(.loc 1)]),.asgT [9,10] (.tup [(.dcti []),(.lst [])]),.for 0 [11,12,13,14] true (.loc 8) [.asgI (.loc 9) (.loc 11) (.idx (.call 69 [(.loc 12),(.loc 13),(.loc 14)]) (.cst (.int 0))),.asg 15 (.slc (.lst [(.tup [(.loc 13),(.cmp (.loc 12) [.isIn] [(.tup [(.cst (.int 5)),(.cst (.int 6)),(.cst (.int 9))])])]),(.tup [(.loc 14),(.cmp (.loc 12) [.eq] [(.cst (.int 9))])])]) none (some (.idx (.glob 16) (.loc 12)))),.exp (.meth .extend (.loc 10) [(.comp (.tup [(.loc 11),(.loc 25)]) [25,26] true false (.loc 15) [(.and [(.cmp (.loc 25) [.notIn] [(.loc 7)]),(.or [(.cmp (.loc 25) [.gt] [(.cst (.int 0))]),(.not (.loc 26))])])])])],.ite (.cmp (.call 34 [(.loc 9)]) [.ne] [(.loc 10)]) [.junk] [],.asgT [16,17] (.tup [(.idx (.lst [(.cst (.int 0)),(.idx (.loc 7) (.bin .sub (.bi .len [(.loc 7)]) (.cst (.int 1))))]) (.call 68 [(.loc 1),(.cst (.int 2))])),(.idx (.lst [(.cst (.int 0)),(.cst (.int 100)),(.cst (.int 3))]) (.call 68 [(.loc 1),(.cst (.int 3))]))]),.asg 2 (.idx (.lst [(.cst (.int 10)),(.cst (.int 1)),(.cst (.int 5))]) (.call 68 [(.loc 1),(.cst (.int 3))])),.asg 3 (.bi .dict [(.comp (.tup [(.loc 11),(.bin .add (.loc 17) (.bin .mul (.loc 24) (.loc 2)))]) [24,11] true true (.comp (.loc 11) [11] false false (.loc 7) [(.cmp (.loc 11) [.ge] [(.loc 16)])]) [])]),.asgT [18,5] (.tup [(.bi .dict [(.bi .listItems [(.loc 9)])]),(.dcti [])]),.asg 4 (.cmp (.comp (.loc 11) [11] false false (.loc 7) [(.and [(.cmp (.loc 11) [.lt] [(.loc 16)]),(.cmp (.loc 11) [.ge] [(.loc 17)])])]) [.ne] [(.lst [])]),.for 0 [11,12,13,14] true (.loc 8) [.asgT [19,20] (.tup [(.call 70 [(.loc 3),(.loc 13),(.cmp (.loc 12) [.isIn] [(.tup [(.cst (.int 5)),(.cst (.int 6)),(.cst (.int 9))])])]),(.call 70 [(.loc 3),(.loc 14),(.cmp (.loc 12) [.eq] [(.cst (.int 9))])])]),.asgT [21,22] (.call 69 [(.loc 12),(.loc 19),(.loc 20)]),.asgI (.loc 5) (.meth .get (.loc 3) [(.loc 11),(.loc 11)]) (.loc 21),.ite (.cmp (.call 67 [(.loc 21)]) [.ne] [(.loc 22)]) [.junk] [],.asg 4 (.or [(.loc 4),(.and [(.cmp (.loc 12) [.isIn] [(.tup [(.cst (.int 5)),(.cst (.int 6)),(.cst (.int 9))])]),(.cmp (.loc 19) [.eq] [(.cst (.int 0))]),(.cmp (.loc 13) [.gt] [(.cst (.int 0))])]),(.and [(.cmp (.loc 12) [.eq] [(.cst (.int 9))]),(.cmp (.loc 20) [.eq] [(.cst (.int 0))]),(.cmp (.loc 14) [.gt] [(.cst (.int 0))])])])],.asg 5 (.ite (.loc 4) (.cst (.str [70,67])) (.loc 5)),.ite (.or [(.cmp (.heard 1 0 (.call 35 [(.loc 9),(.loc 17),(.loc 16),(.loc 2)])) [.ne] [(.loc 5)]),(.cmp (.loc 9) [.ne] [(.loc 18)])]) [.junk] [],.asg 6 (.idx (.lst [(.cst (.str [])),(.cst (.str [13])),(.cst (.str [32,13]))]) (.call 68 [(.loc 1),(.cst (.int 3))])),.ite (.cmp (.call 24 [(.bin .add (.lst [(.loc 6)]) (.comp (.bin .add (.bin .add (.bin .add (.bi .str [(.loc 11)]) (.cst (.str [32]))) (.idx (.loc 9) (.loc 11))) (.loc 6)) [11] false false (.loc 7) []))]) [.ne] [(.loc 9)]) [.junk] [],.ret (.call 72 [(.loc 1)])]
noncomputable def YX:List (Option Def):=some ⟨0,0,Fo⟩::some ⟨3,3,NH⟩::some ⟨1,1,CH⟩::some ⟨1,1,Fp⟩::some ⟨1,1,Fq⟩::some ⟨1,2,H7⟩::some ⟨2,2,H8⟩::some ⟨2,2,D8⟩::some ⟨2,2,NI⟩::some ⟨2,4,Fs⟩::some ⟨2,6,Ft⟩::some ⟨2,2,G1⟩::some ⟨2,3,H9⟩::some ⟨1,1,KW⟩::some ⟨2,5,IA⟩::some ⟨2,5,CI⟩::some ⟨1,4,Fu⟩::some ⟨2,2,Iq⟩::some ⟨1,3,ET⟩::some ⟨2,6,CJ⟩::some ⟨1,1,Ca⟩::some ⟨1,4,Ez⟩::some ⟨2,4,Fv⟩::some ⟨3,4,DG⟩::some ⟨1,3,Cz⟩::some ⟨1,1,D3⟩::some ⟨2,2,Lo⟩::some ⟨2,3,Fx⟩::some ⟨1,9,FA⟩::some ⟨2,4,C0⟩::some ⟨3,6,B0⟩::some ⟨1,3,FC⟩::some ⟨2,7,D4⟩::some ⟨4,9,C1⟩::some ⟨1,4,FD⟩::some ⟨4,8,CV⟩::some ⟨2,2,DH⟩::some ⟨3,3,NJ⟩::some ⟨2,4,Ir⟩::some ⟨1,7,IB⟩::some ⟨2,4,NK⟩::some ⟨1,2,Lp⟩::some ⟨2,4,Ge⟩::some ⟨4,7,HK⟩::some ⟨3,6,Gf⟩::some ⟨2,6,It⟩::some ⟨2,4,P4⟩::some ⟨3,3,KY⟩::some ⟨2,4,HL⟩::some ⟨2,3,Iu⟩::some ⟨2,3,Iv⟩::some ⟨0,0,HM⟩::some ⟨0,0,FO⟩::some ⟨2,4,NL⟩::some ⟨2,5,Iw⟩::some ⟨2,3,KZ⟩::some ⟨2,3,Ix⟩::some ⟨2,6,NM⟩::some ⟨2,2,HN⟩::some ⟨2,3,IC⟩::some ⟨2,3,HO⟩::some ⟨2,3,ID⟩::some ⟨0,1,EU⟩::some ⟨4,7,Lq⟩::some ⟨4,7,Ka⟩::some ⟨4,8,NN⟩::some ⟨4,8,Kb⟩::some ⟨1,4,G2⟩::some ⟨2,4,FP⟩::some ⟨3,8,FQ⟩::some ⟨3,3,FS⟩::some ⟨1,9,Fy⟩::some ⟨1,5,CK⟩::some ⟨1,27,Ru⟩::[]
noncomputable def CM (n:Nat):Option Def:=(YX[n]?).getD none
noncomputable def US:List (List PySem.Str):=["functions"]::["is_word","is_word_stmtparts"]::["is_word_tokens"]::["is_letter"]::["is_figure"]::["capital"]::["figures_end","figures_end_lines"]::["figures_end_tokens"]::["skipped"]::["power_end"]::["number_at"]::["name_end"]::["text_at"]::["remark_of"]::["word_at"]::["tokens_at"]::["tokens_of"]::["blanks_end"]::["number_told"]::["line_number","line_number_stmtparts"]::["line_number_lines"]::["parted_row"]::["enter_row"]::["numbers_within"]::["program_of_rows"]::["is_word_sign"]::["word_end"]::["quote_end"]::["told_spots"]::["without_noughts"]::["gather_spots"]::["lines_told"]::["with_numbers"]::["new_numbers"]::["lost_lines"]::["renumbered"]::["token_at"]::["is_sign"]::["figures_at"]::["number_tree"]::["join_up"]::["finished"]::["plain_operand"]::["take_operand"]::["take_operator"]::["expression"]::["is_end"]::["need_word"]::["line_numbers"]::["channel_at"]::["read_error"]::["declarations"]::["file_statements"]::["item_at"]::["read_print"]::["read_goto"]::["read_gosub"]::["read_on"]::["line_or_none"]::["read_return"]::["read_restore"]::["read_resume"]::["statement_readers"]::["read_one"]::["read_part"]::["read_if"]::["read_some"]::["read_row"]::["_law_sip"]::["_law_row"]::["_law_new"]::["_law_drawn"]::["_law_long_right"]::["law"]::[]::[]::[]::[]::[]::[]::[]::[]::[]::[]::[]::[]::[]::[]::[]::[]::[]::[]::[]::[]::[]::[]::[]::[]::[]::[]::[]::[]::[]::[]::[]::[]::[]::[]::[]::[]::[]::[]::[]::[]::[]::[]::[]::[]::[]::[]::[]::[]::[]::[]::[]::[]::[]::[]::[]::[]::[]::[]::[]::[]::[]::[]::[]::[]::[]::[]::[]::[]::[]::[]::[]::[]::[]::[]::[]::[]::[]::[]::[]::[]::[]::[]::[]::[]::[]::[]::[]::[]::[]::[]::[]::[]::[]::["read_def"]::["read_dim"]::["read_erase"]::["read_option"]::[]::["read_data"]::["read_read"]::[]::[]::["read_swap"]::[]::["read_randomize"]::[]::[]::["read_open"]::["read_close"]::["read_field"]::[]::["read_lset"]::["read_rset"]::[]::["read_get"]::["read_put"]::["read_write"]::["read_chain"]::["read_common"]::[]::[]::[]::[]::[]::[]::["read_mat"]::["read_let"]::["read_middle"]::[]::[]::[]::[]::["read_input"]::["read_line"]::[]::[]::[]::[]::[]::[]::[]::["read_for"]::["read_next"]::["read_while"]::[]
noncomputable def IE (n:Nat):List PySem.Str:=(US[n]?).getD []
noncomputable def P5:List (List PySem.Str):=[]::["tokens","at","word"]::["told"]::["sign"]::["sign"]::["text","sign"]::["text","at"]::["row","at"]::["row","at"]::["row","at","begin","end"]::["row","at","end","is_plain","behind","last"]::["row","at"]::["row","at","end"]::["text"]::["row","at","end","told","last"]::["row","at","sign","told","end"]::["row","found","at","told"]::["text","at"]::["figures","found","figure"]::["tokens","at","found","sign","kind","told"]::["number"]::["text","begin","end","rest"]::["program","text","number","rest"]::["program","first","last","number"]::["rows","found","row"]::["sign"]::["text","at"]::["text","at","end"]::["text","found","at","ahead","sign","end","word","some","is_none"]::["text","spots","begin","end"]::["text","at","found","begin","end","comma"]::["text","begin","end"]::["text","turned","found","at","begin","end","number"]::["program","new","old","stride","moved","ahead","turned","at","number"]::["program","found","line","number"]::["program","new","old","stride","turned","found","number","row"]::["tokens","at"]::["tokens","at","sign"]::["text","at","found","begin"]::["text","front","many","at","behind","places","power"]::["level","strength","op","last"]::["level","last"]::["tokens","at","kind","told"]::["levels","tokens","at","known","found","kind","told"]::["levels","tokens","at","here","kind","told"]::["tokens","at","levels","due","known","is_whole"]::["tokens","at","kind","told"]::["tokens","at","word"]::["tokens","at","some","found"]::["tokens","at","found"]::["tokens","at","value"]::[]::[]::["tokens","at","word","value"]::["tokens","at","items","channel","found"]::["tokens","at","goal"]::["tokens","at","goal"]::["tokens","at","word","value","goals","goal"]::["tokens","at"]::["tokens","at","goal"]::["tokens","at","goal"]::["tokens","at","goal"]::["found"]::["tokens","at","readers","nested","work","kind","told"]::["tokens","at","readers","nested","ahead","found","goal"]::["tokens","at","readers","nested","begin","behind","value","ahead"]::["tokens","at","readers","nested","found","kind","told","tree"]::["text","tokens","found","at"]::["cup","many","cells","turn"]::["form","one","other","zero","once_more","a","b","x"]::["turned","goal","is_none"]::["cup","turn","goals","line","number","lines","told","form","one"]::["cup","rest","heard","program","row"]::["script","cup","stride","turned","is_bad","due","tail","lines","told","program","lost","line","form","one","other","pairs","old","new","before","first","second","text","trees","cell","at","goal","is_none"]::[]
noncomputable def C3 (n:Nat):List PySem.Str:=(P5[n]?).getD []
noncomputable def Wt:List (Option D):=some (.str [65,66,83,32,65,83,67,32,67,72,82,36,32,67,73,78,84,32,67,83,78,71,32,67,86,73,32,67,86,83,32,69,68,73,84,36,32,69,79,70,32,69,82,76,32,69,82,82,32,70,73,88,32,70,82,69,32,72,69,88,36,32,73,78,83,84,82,32,73,78,84,32,76,67,65,83,69,36,32,76,69,70,84,36,32,76,69,78,32,76,79,67,32,76,79,70,32,76,80,79,83,32,76,84,82,73,77,36,32,77,65,88,32,77,73,68,36,32,77,73,78,32,77,75,73,36,32,77,75,83,36,32,79,67,84,36,32,80,73,32,80,79,83,32,82,73,71,72,84,36,32,82,78,68,32,82,84,82,73,77,36,32,83,69,71,36,32,83,71,78,32,83,80,65,67,69,36,32,83,80,67,32,83,81,82,32,83,84,82,36,32,83,84,82,73,78,71,36,32,83,87,65,80,37,32,84,65,66,32,85,67,65,83,69,36,32,86,65,76,32,88,76,65,84,69,36])::some (.str [76,69,84,32,80,82,73,78,84,32,85,83,73,78,71,32,73,78,80,85,84,32,76,73,78,69,32,73,70,32,84,72,69,78,32,69,76,83,69,32,71,79,84,79,32,71,79,83,85,66,32,79,78,32,82,69,84,85,82,78,32,70,79,82,32,84,79,32,83,84,69,80,32,78,69,88,84,32,87,72,73,76,69,32,87,69,78,68,32,68,69,70,32,70,78,69,78,68,32,82,69,65,68,32,68,65,84,65,32,82,69,83,84,79,82,69,32,68,73,77,32,69,82,65,83,69,32,79,80,84,73,79,78,32,66,65,83,69,32,83,87,65,80,32,69,82,82,79,82,32,82,69,83,85,77,69,32,83,84,79,80,32,69,78,68,32,82,69,77,32,82,65,78,68,79,77,73,90,69,32,68,69,70,73,78,84,32,68,69,70,83,78,71,32,68,69,70,83,84,82,32,77,65,84,32,90,69,82,32,67,79,78,32,73,68,78,32,73,78,86,32,84,82,78,32,79,80,69,78,32,79,85,84,80,85,84,32,65,80,80,69,78,68,32,82,65,78,68,79,77,32,65,83,32,67,76,79,83,69,32,70,73,69,76,68,32,76,83,69,84,32,82,83,69,84,32,71,69,84,32,80,85,84,32,87,82,73,84,69,32,67,72,65,73,78,32,67,79,77,77,79,78,32,84,82,79,78,32,84,82,79,70,70,32,65,78,68,32,79,82,32,88,79,82,32,69,81,86,32,73,77,80,32,78,79,84,32,77,79,68])::some (.str [48,49,50,51,52,53,54,55,56,57])::some (.int 40)::some (.str [60,61,62])::some (.str [43,45,42,47,92,94,40,41,44,59,58,35,38,64])::some (.int 255)::some (.int 65529)::some (.int 65529)::some (.tup [.str [71,79,84,79],.str [71,79,83,85,66],.str [84,72,69,78],.str [69,76,83,69],.str [82,69,83,84,79,82,69],.str [82,69,83,85,77,69],.str [82,69,84,85,82,78]])::some (.tup [.str [101,110,100],.str []])::some (.int 60)::some (.fk [[73,77,80],[69,81,86],[88,79,82],[79,82],[65,78,68],[61],[60,62],[60],[62],[60,61],[62,61],[43],[45],[77,79,68],[92],[42],[47],[94]])::some (.fk [[87,69,78,68],[70,78,69,78,68],[83,84,79,80],[69,78,68],[84,82,79,78],[84,82,79,70,70]])::some (.fk [[68,69,70,73,78,84],[68,69,70,83,78,71],[68,69,70,83,84,82]])::some (.int 12)::some (.fl [.int 1,.int 2,.int 2,.int 2,.int 1,.int 2,.int 1,.int 1,.int 2,.int 2])::[]
noncomputable def AD (n:Nat):Option D:=(Wt[n]?).getD none
noncomputable def CN:Nat→PySem.Str
 |0=>"FUNCTION_WORDS"
 |1=>"WORDS"
 |2=>"FIGURES"
 |3=>"MOST_FIGURES_tokens"
 |4=>"ORDERS"
 |5=>"SIGNS"
 |6=>"MOST_SIGNS"
 |7=>"MOST_LINE_lines"
 |8=>"MOST_LINE_stmtparts"
 |9=>"LEADING"
 |10=>"NO_TOKEN"
 |11=>"MOST_FIGURES_exprread"
 |12=>"STRENGTH"
 |13=>"ONE_WORD"
 |14=>"KIND_WORDS"
 |15=>"MOST_NESTED"
 |16=>"_law_goals_of_forms"
 |_=>""
noncomputable def Fz:Nat→Nat×Nat
 |1=>(920,18)
 |2=>(891,23)
 |3=>(895,44)
 |k=>(1000000+k,0)
noncomputable def Wu:Nat→Option Nat
 |73=>some 0
 |72=>some 1
 |_=>none
end Mine
end
section
open PySem PySem.Calls PyProof.Rows PySem.Spec PySem.W
namespace Mine
noncomputable def UT:List (Option Addr):=some 52::some 441::some 59::some 66::some 73::some 78::some 170::some 85::some 92::some 99::some 106::some 113::some 120::some 141::some 148::some 155::some 162::some 177::some 184::some 462::some 191::some 198::some 205::some 210::some 217::some 224::some 231::some 238::some 252::some 257::some 264::some 269::some 276::some 283::some 290::some 297::some 308::some 315::some 329::some 350::some 378::some 385::some 399::some 406::some 413::some 420::some 448::some 455::some 469::some 497::some 572::some 586::some 685::some 752::some 759::some 794::some 801::some 808::some 815::some 822::some 829::some 836::some 864::some 871::some 878::some 885::some 892::some 899::some 907::some 914::some 921::some 935::some 942::some 947::none::none::none::none::none::none::none::none::none::none::none::none::none::none::none::none::none::none::none::none::none::none::none::none::none::none::none::none::none::none::none::none::none::none::none::none::none::none::none::none::none::none::none::none::none::none::none::none::none::none::none::none::none::none::none::none::none::none::none::none::none::none::none::none::none::none::none::none::none::none::none::none::none::none::none::none::none::none::none::none::none::none::none::none::none::none::none::none::none::none::none::none::none::some 504::some 511::some 518::some 525::none::some 539::some 546::none::none::some 565::none::some 579::none::none::some 601::some 608::some 615::none::some 629::some 636::none::some 650::some 657::some 664::some 671::some 678::none::none::none::none::none::none::some 729::some 738::some 745::none::none::none::none::some 780::some 787::none::none::none::none::none::none::none::some 843::some 850::some 857::[]
noncomputable def Cg (n:Nat):Option Addr:=(UT[n]?).getD none
noncomputable def cdT:List Str→Option (Addr×Addr×Nat):=fun l=>if l==C3 73 then some (946,944,0) else if l==C3 72 then some (941,937,1) else none
noncomputable def nmF (f:Nat):Nm:=⟨C3 f,IE,CN,Wu f,Fz⟩
noncomputable def Dn (K:Frag) (f:Nat):Bool:=match Cg f,CM f with
 |some a,some b=>YW K cdT a b (nmF f)
 |_,_=>false
noncomputable def mkP (prog:dP) (w:dN) (hb:Heap) (mg mb:Str→Option dF):PI:={prog:=prog,w:=w,hb:=hb,mg:=mg,mb:=mb,fn:=Cg,lv:=367,ec:=34,mu:=[944,937],cdOf:=cdT,hp:=Fz}
noncomputable def IF (K:Frag) (a:Addr):Obj:=(K.lookup a).getD {cls:=.none,data:=.plain}
noncomputable def fd0:FuncData:={name:="",qualname:="",params:=⟨[],[],none,[],[],none,[]⟩,body:=.stmts [],scope:={kind:=.function,names:=[],isGenerator:=false,isCoroutine:=false},globals:=0,closure:=[],defaults:=.none,kwdefaults:=.none,doc:=.none,pyModule:=.none,annotations:=none,code:=.none,closureTuple:=.none,builtins:=0}
noncomputable def fdK (K:Frag) (a:Addr):FuncData:=(dFn (IF K a).data).getD fd0
noncomputable def Lr (K:Frag) (a:Addr):Bool:=(K.lookup a).any fun o=>o.cls== .type "function"&&(dFn o.data).isSome
theorem Hb{K:Frag}{h:Heap}(X:K.In h){a:Addr}(e:Lr K a=true):h.get? a=some (IF K a)∧(IF K a).cls=.type "function"∧(IF K a).data=.func (fdK K a):=
 aW (Fc e) fun o w=>aW (cJ.mp (AC w.2).2) fun fd hf=>by
  haveI h1:IF K a=o:=congrArg (Option.getD · _) w.1
  rw[h1];exact ⟨X _ _ w.1,eq_of_beq (AC w.2).1,(VR hf).trans (congrArg Data.func (by delta fdK;rw[h1,hf];rfl))⟩
noncomputable def P6 (l:List Pos):Nat→Pos:=fun i=>l.getD i ⟨0,0,0,0⟩
noncomputable def pLv:List Pos:=[⟨318,8,318,12⟩,⟨318,8,318,17⟩,⟨318,20,318,24⟩,⟨318,8,318,24⟩,⟨319,8,319,12⟩,⟨319,8,319,17⟩,⟨319,20,319,24⟩,⟨319,8,319,24⟩,⟨320,8,320,12⟩,⟨320,8,320,17⟩,⟨320,20,320,22⟩,⟨320,8,320,22⟩,⟨321,8,321,12⟩,⟨321,8,321,21⟩,⟨321,24,321,26⟩,⟨321,8,321,26⟩,⟨322,8,322,12⟩,⟨322,8,322,22⟩,⟨322,25,322,27⟩,⟨322,8,322,27⟩]
noncomputable def pEc:List Pos:=[⟨6,8,6,13⟩,⟨6,8,6,15⟩,⟨6,8,6,24⟩,⟨6,25,6,29⟩,⟨6,8,6,30⟩,⟨6,8,6,30⟩,⟨7,8,7,12⟩,⟨7,8,7,17⟩,⟨7,20,7,24⟩,⟨7,8,7,24⟩,⟨8,8,8,12⟩,⟨8,8,8,17⟩,⟨8,20,8,24⟩,⟨8,8,8,24⟩]
noncomputable def pHr:List Pos:=[⟨874,15,874,19⟩,⟨874,15,874,21⟩,⟨874,8,874,21⟩,⟨875,11,875,21⟩,⟨876,15,876,22⟩,⟨876,15,876,27⟩,⟨876,8,876,27⟩,⟨875,4,876,27⟩,⟨873,4,876,27⟩]
noncomputable def DI (K:Frag) (N:Addr) (xs:List Str):Bool:=nsOkIn K N&&xs.all fun x=>match nsIn K N x with|some none=>true|_=>false
theorem Bm{K:Frag}{h:Heap}{N:Addr}{xs:List Str}(X:K.In h)(e:DI K N xs=true){x:Str}(m:x∈xs):h.nsMap N x=none:=by
 unfold DI at e;rw[aw]at e;haveI:=ao.mp e.2 x m;refine nsMap_none_of_in X e.1 ?_;revert this;cases nsIn K N x with
 |none=>simp
 |some o=>cases o<;>simp
noncomputable def F0 (K:Frag) (a:Addr) (loc:List Str) (np:List Str):Bool:=let fd:=fdK K a
 Lr K a&&fd.scope.kind== .function&& !fd.scope.isCoroutine&& !fd.scope.isGenerator&&loc.all (fun x=>match fd.scope.names.lookup x with|some .local=>true|_=>false)&&fd.scope.names.all (fun x=> !HW x.2)&&
  codeIn K fd.code fd.qualname&&fd.params.posonlyargs.isEmpty&&(fd.params.args.map (·.arg)==np)&&fd.params.kwonlyargs.isEmpty&&fd.params.vararg.isNone&&fd.params.kwarg.isNone&&fd.globals==dR&&fd.builtins==dT
structure OZ (K:Frag) (hb:Heap) (a:Addr) (loc:List Str) (np:List Str):Prop where
 fO:hb.get? a=some (IF K a)
 fC:(IF K a).cls=.type "function"
 fD:(IF K a).data=.func (fdK K a)
 kind:(fdK K a).scope.kind=.function
 co:(fdK K a).scope.isCoroutine=false
 gen:(fdK K a).scope.isGenerator=false
 loc:∀x∈loc,(fdK K a).scope.names.lookup x=some .local
 noCell:∀x∈(fdK K a).scope.names,x.2≠ .cell
 codeR:hb.CodeRec (fdK K a).code (fdK K a).qualname
 p1:(fdK K a).params.posonlyargs=[]
 p2:(fdK K a).params.args.map (·.arg)=np
 p3:(fdK K a).params.kwonlyargs=[]
 p4:(fdK K a).params.vararg=none
 p5:(fdK K a).params.kwarg=none
 glob:(fdK K a).globals=dR
 bi:(fdK K a).builtins=dT
theorem UU{K:Frag}{hb:Heap}{a:Addr}{loc np:List Str}(X:K.In hb)(e:F0 K a loc np=true):OZ K hb a loc np:=by
 unfold F0 at e;simp only[aw,cV,cr,cq]at e;obtain ⟨⟨⟨⟨⟨⟨⟨⟨⟨⟨⟨⟨⟨h1,h2⟩,h3⟩,h4⟩,h5⟩,h6⟩,h7⟩,h8⟩,h9⟩,h10⟩,h11⟩,h12⟩,h13⟩,h14⟩:=e;haveI o1:=(Hb X h1).1;haveI o2:=(Hb X h1).2.1;haveI o3:=(Hb X h1).2.2
 refine ⟨o1,o2,o3,OY h2,h3,h4,fun x hx=> ?_,fun x hx q=> ?_,codeRec_of X h7,h8,eq_of_beq h9,h10,h11,h12,eq_of_beq h13,eq_of_beq h14⟩
 ·haveI:=ao.mp h5 x hx;revert this;cases (fdK K a).scope.names.lookup x with
  |none=>simp
  |some k=>cases k<;>simp
 ·haveI:=ao.mp h6 x hx;rw[q]at this;exact xbf this
theorem Wv:∀k,typeLookup (.type "object") (CW k)=pure none
 |0=>dz (by kernel_rfl)
 |1=>dz (by kernel_rfl)
 |2=>dz (by kernel_rfl)
 |3=>dz (by kernel_rfl)
 |_+4=>dz (by kernel_rfl)
theorem P7:∀k,CW k∈(["__setattr__","__getattribute__","__getattr__","kind","word","args","operands","operators"]:List Str)
 |0=>by simp[CW]
 |1=>by simp[CW]
 |2=>by simp[CW]
 |3=>by simp[CW]
 |_+4=>by simp[CW]
noncomputable def VS:Obj:=dc "Level" "Level" 367 366 [.type "object"] [.type "object"] true [] [] false none none none none (some (.str "Level" 770)) (some (.str "Level" 778)) (some (.bool true)) "object.__new__"
noncomputable def VT:Obj:=dc "BasicError" "BasicError" 34 33 [.type "Exception"] DU true [] [] false none none (some (.ref 15)) none (some (.str "BasicError" 191)) (some (.str "BasicError" 199)) (some (.bool true)) "Exception.__new__"
noncomputable def isRef (o:Option (Option dF)) (a:Addr):Bool:=o.any fun p=>p.any fun v=>v== .ref a
noncomputable def noDflt (K:Frag) (a:Addr):Bool:=match (fdK K a).defaults with
 | .none=>true
 |_=>false
noncomputable def Oa (K:Frag) (a d:Addr):Bool:=(match (fdK K a).defaults with
 | .ref b=>b==d
 |_=>false)&&(match (fdK K a).kwdefaults with
 | .none=>true
 |_=>false)
structure KOk (K:Frag):Prop where
 fns:(bM 74).all (Dn K)=true
 lvCls:K.lookup 367=some VS
 lvNone:DI K 366 ["__setattr__","__getattribute__","__getattr__","kind","word","args","operands","operators"]=true
 lvMakes:makesIn K 367=true
 lvInit:isRef (findIn K (.ref 367) "__init__") 364=true
 lvTyp:typeIn K (.ref 364)=some (.type "function")
 lvFd:F0 K 364 ["self","kind","word"] ["self","kind","word"]=true
 lvDflt:noDflt K 364=true
 lvBody:(fdK K 364).body=.stmts (lvBody (P6 pLv))
 ecCls:K.lookup 34=some VT
 ecNone:DI K 33 ["__setattr__","__getattribute__","__getattr__","code","told"]=true
 ecInit:isRef (nsIn K 33 "__init__") 31=true
 ecFd:F0 K 31 ["self","code","told"] ["self","code","told"]=true
 ecDflt:Oa K 31 23=true
 ecD23:K.lookup 23=some {cls:=.type "tuple",data:=.seq #[.str "" 203]}
 ecBody:(fdK K 31).body=.stmts (ecBody (P6 pEc))
 ecClo:(fdK K 31).closure=[(("__class__":Str),18)]
 ecCell:K.lookup 18=some {cls:=.type "cell",data:=.cell (some (.ref 34))}
 ecSup:(fdK K 31).scope.names.lookup ("super":Str)=some .globalImplicit
 ecCla:(fdK K 31).scope.names.lookup ("__class__":Str)=some .free
 ecCode:(fdK K 31).code=.ref 30
 ecCd:Ex3 fun o vs t=>A3 (K.lookup 30=some o) (o.data=.fields vs) (vs[2]? =some (.str "/claim/cut.py" t))
 opaq:nsIn K cStatics "thirdparty.any"=some none
 hrFd:F0 K 928 ["work","refusal"] ["work"]=true
 hrDflt:noDflt K 928=true
 hrBody:(fdK K 928).body=.stmts (hrBody (P6 pHr))
 hrBE:(fdK K 928).scope.names.lookup ("BasicError":Str)=some .globalImplicit
 names:((bM 220).all fun f=>(IE f).all fun x=>match Cg f with|some a=>isRef (nsIn K dR x) a|none=>false)=true
 own:isRef (nsIn K dR "Level") 367&&isRef (nsIn K dR "BasicError") 34&&isRef (nsIn K dR "_law_heard") 928=true
 bi:((["len","sorted","str","abs","min","dict","list","ord","chr","range","enumerate","super"]:List Str).all fun x=>match nsIn K dR x with|some none=>true|_=>false)=true
 fnObj:((bM 220).all fun f=>match Cg f with|some a=>Lr K a|none=>true)=true
noncomputable def blank (h:Heap) (a:Addr):Heap:=h.update a fun o=>{o with data:=.freed}
theorem DV{h:Heap}{a b:Addr}(q:b≠a):(blank h a).get? b=h.get? b:=by
 delta blank Heap.update Heap.get?;simp only[dB];rw[if_neg (fun e=>q e.symm)]
theorem F5(h:Heap)(a:Addr):(blank h a).get? a=none:=by
 delta blank Heap.update Heap.get?;simp only[dB,if_true];cases h.objs[a]? <;>rfl
theorem Jg{h:Heap}{a b:Addr}{o:Obj}(e:(blank h a).get? b=some o):h.get? b=some o:=by
 by_cases q:b=a
 ·subst q;rw[F5]at e;exact xns e
 ·rwa[DV q]at e
noncomputable def DW (h:Heap):Heap:=blank (blank h 937) 944
theorem Ww{h:Heap}{b:Addr}{o:Obj}(e:(DW h).get? b=some o):h.get? b=some o:=Jg (Jg e)
theorem DO{h:Heap}{b:Addr}(q1:b≠937)(q2:b≠944):(DW h).get? b=h.get? b:=by unfold DW;rw[DV q2,DV q1]
theorem Kc(h:Heap):(DW h).get? 937=none:=by unfold DW;rw[DV (by decide),F5]
theorem Kd(h:Heap):(DW h).get? 944=none:=F5 _ _
theorem Ob{h:Heap}{a:Addr}{m:Str→Option dF}(q1:a≠937)(q2:a≠944)(H:h.Ns a m):(DW h).Ns a m:=by
 obtain ⟨o,es,ep,e,r⟩:=H;exact ⟨o,es,ep,(DO q1 q2).trans e,r⟩
theorem YY{K:Frag}{h:Heap}(X:K.In h)(k1:(K.lookup 937).isNone=true)(k2:(K.lookup 944).isNone=true):K.In (DW h):=fun a o e=>by
 have q1:a≠937:=by rintro rfl;rw[e]at k1;exact xbf k1
 have q2:a≠944:=by rintro rfl;rw[e]at k2;exact xbf k2
 rw[DO q1 q2];exact X a o e
noncomputable def YZ (v:dF):Option Int:=match v with
 | .int i _=>some i
 |_=>none
noncomputable def Wx (v:dF):Option Str:=match v with
 | .str i _=>some i
 |_=>none
theorem Wy{v:dF}{i:Int}(e:YZ v=some i):∃t,v=.int i t:=by
 cases v<;>first|exact xns e|(cases e;exact ⟨_,rfl⟩)
theorem Rv{v:dF}{i:Str}(e:Wx v=some i):∃t,v=.str i t:=by
 cases v<;>first|exact xns e|(cases e;exact ⟨_,rfl⟩)
noncomputable def vdB (v:dF) (d:Mine.D):Bool:=match d with
 | .int j=>(YZ v).any fun i=>decide (i=j)
 | .str l=>(Wx v).any fun s=>s==txt l&&((l.all fun c=>Nat.blt c 128)&&Nat.ble l.length 1000000)
 |_=>false
noncomputable def Rw:List dF→List Mine.D→Bool
 | [],[]=>true
 |v::vs,d::ds=>vdB v d&&Rw vs ds
 |_,_=>false
theorem Oc{P:PI}{μ:List Addr}{h:Heap}{v:dF}{d:Mine.D}(e:vdB v d=true):AH P μ h v d:=by
 cases d<;>first|exact xbf e|skip
 ·exact aW (Fc e) fun i w=>aW (Wy w.1) fun t q=>by
   haveI:=of_decide_eq_true w.2;subst this;subst q;exact .int _ _
 ·exact aW (Fc e) fun i w=>aW (Rv w.1) fun t q=>by
   haveI a:=AC w.2;haveI b:=AC a.2
   haveI:=eq_of_beq a.1;subst this;subst q;exact .str _ _ ⟨fun c hc=>be.mp (ao.mp b.1 c hc),au b.2⟩
theorem Ls{P:PI}{μ:List Addr}{h:Heap}{vs:List dF}:∀{ds:List Mine.D},Rw vs ds=true→AE P μ h vs ds:=by
 induction vs with
 |nil=>intro ds e;cases ds with
  |nil=>exact .nil
  |cons=>exact xbf e
 |cons v vs ih=>intro ds e;cases ds with
  |nil=>exact xbf e
  |cons d ds=>haveI a:(vdB v d&&Rw vs ds)=true:=e;exact .cons (Oc (AC a).1) (ih (AC a).2)
noncomputable def Yb (d:Data):Option (Array dF):=match d with
 | .seq f _=>some f
 |_=>none
theorem Wz{d:Data}{f:Array dF}(e:Yb d=some f):∃n,d=.seq f n:=by
 cases d<;>first|exact xns e|(cases e;exact ⟨_,rfl⟩)
noncomputable def W0 (K:Frag) (v:dF) (T:String) (ds:List Mine.D):Bool:=(Ws v).any fun a=>(K.lookup a).any fun o=>o.cls== .type T&&(Yb o.data).any fun vs=>Rw vs.toList ds&&Nat.ble vs.toList.length 1000000
noncomputable def gV (K:Frag) (v:dF) (d:Mine.D):Bool:=match d with
 | .tup ds=>W0 K v "tuple" ds
 | .fl ds=>W0 K v "list" ds
 |d=>vdB v d
noncomputable def glB (K:Frag) (x:Str) (d:Mine.D):Bool:=(nsIn K dR x).any fun o=>o.any fun v=>gV K v d
theorem Rx{K:Frag}{v:dF}{T:String}{ds:List Mine.D}{C:Prop}(e:W0 K v T ds=true)(k:∀a o vs n,v=.ref a→K.lookup a=some o→o.cls=.type T→o.data=.seq vs n→vs.toList.length≤1000000→Rw vs.toList ds=true→C):C:=
 aW (Fc e) fun a w=>aW (Fc w.2) fun o u=>aW (Fc (AC u.2).2) fun vs z=>aW (Wz z.1) fun n q=>k a o vs n (Rs w.1) u.1 (eq_of_beq (AC u.2).1) q (au (AC z.2).2) (AC z.2).1
theorem Yc{P:PI}{K:Frag}(X:K.In P.hb){v:dF}{d:Mine.D}(e:gV K v d=true){μ:List Addr}{σ:AA}{h:Heap}(S:Sto P μ σ h):AH P μ h v d:=by
 cases d with
 |tup ds=>
  exact Rx e fun a o vs n q hk hc hd hl hv=>by
   subst q;refine .tup (vs:=vs.toList) (k:=n) (S.base _ _ (X _ _ hk)) hc hd (fun hm=> ?_) hl (Ls hv);haveI:=(S.fresh a hm).1.symm.trans (X _ _ hk);exact xns this
 |fl ds=>
  exact Rx e fun a o vs n q hk hc hd hl hv=>by
   subst q;exact .fl (vs:=vs.toList) ⟨o,X _ _ hk,hc,n,hd⟩ hl (Ls hv)
 |_=>exact Oc e
theorem Yd{P:PI}{K:Frag}(X:K.In P.hb)(G:P.hb.Ns dR P.mg){x:Str}{d:Mine.D}(e:glB K x d=true):∃v,P.mg x=some v∧∀μ σ h,Sto P μ σ h→AH P μ h v d:=
 aW (Fc e) fun o w=>aW (Fc w.2) fun v u=>⟨v,mg_of X G (w.1.trans (congrArg some u.1)),fun _ _ _ S=>Yc X u.2 S⟩
noncomputable abbrev UV (v:dF):Option Str:=Wx v
noncomputable def F7 (p:dM) (x:Str):Int:=if x.cps.isEmpty=true then 0 else reduceHash (p.strHash x.cps)
noncomputable def VU (d:Data):Option (Array DictEntry):=match d with
 | .dict f _=>some f
 |_=>none
theorem UW{d:Data}{f:Array DictEntry}(e:VU d=some f):∃n,d=.dict f n:=by
 cases d<;>first|exact xns e|(cases e;exact ⟨_,rfl⟩)
noncomputable def fkO (a:Addr) (o:Obj):Option (Addr×List (Option Str×Int)):=match o.cls== .type "dict"&&(o.dict.isNone&&o.slots.toList.isEmpty) with
 |true=>(VU o.data).map fun es=>(a,es.toList.map fun e=>(UV e.key,e.hash))
 |false=>none
noncomputable def fkL (K:Frag) (x:Str):Option (Addr×List (Option Str×Int)):=(nsIn K dR x).bind fun o=>o.bind fun v=>(Ws v).bind fun a=>(K.lookup a).bind fun o=>fkO a o
theorem Ry{prog:dP}{w:dN}{es:List DictEntry}:∀{ks:List Str},es.map (fun e=>(UV e.key,e.hash))=ks.map (fun k=>(some k,F7 w.params k))→
  ∃kvs:List (Str×dF),PySem.Pairs (PySem.strKind prog w) es kvs∧kvs.map (·.1)=ks∧∀e∈es,∃k,(PySem.strKind prog w).is k e.key=true∧e.hash=(PySem.strKind prog w).hash k:=by
 induction es with
 |nil=>intro ks h;cases ks with
  |nil=>exact ⟨[],.nil,rfl,fun _ m=>nomatch m⟩
  |cons=>contradiction
 |cons e es ih=>intro ks h;cases ks with
  |nil=>contradiction
  |cons k ks=>
   injection h with h1 h2
   haveI hk:(PySem.strKind prog w).is k e.key=true:=aW (Rv (congrArg (·.1) h1)) fun t q=>by
    rw[q];show Value.isStrOf k (.str k t)=true;simp[Value.isStrOf]
   exact aW (ih h2) fun kvs p=>⟨(k,e.val)::kvs,.cons hk rfl p.1,congrArg (k:: ·) p.2.1,fun e' m=>(aj.mp m).elim (fun q=>q▸⟨k,hk,congrArg (·.2) h1⟩) (p.2.2 e')⟩
theorem Od{α β:Type}{o:Option α}{f:α→Option β}{b:β}(e:o.bind f=some b):∃a,o=some a∧f a=some b:=bP.mp e
theorem VV{a a':Addr}{o:Obj}{l:List (Option Str×Int)}(e:fkO a o=some (a',l)):a=a'∧∃es n,o=⟨.type "dict",none,.dict es n,#[]⟩∧es.toList.map (fun e=>(UV e.key,e.hash))=l:=by
 obtain ⟨c,d,da,sl⟩:=o;unfold fkO at e;cases q:(c==Value.type "dict"&&(d.isNone&&sl.toList.isEmpty)) with
 |false=>simp only[q]at e;exact xns e
 |true=>
  simp only[q]at e;haveI q1:=AC q;haveI q2:=AC q1.2
  refine aW (bG.mp e) fun es w=>aW (UW w.1) fun n z=>⟨congrArg (·.1) w.2,es,n,?_,congrArg (·.2) w.2⟩
  exact congr (congr (congr (congrArg Obj.mk (eq_of_beq q1.1)) (cq.mp q2.1)) z) (Array.toList_inj.mp (cr.mp q2.2))
theorem Rz{P:PI}{K:Frag}(X:K.In P.hb)(G:P.hb.Ns dR P.mg){x:Str}{a:Addr}{ks:List (List Nat)}(e:fkL K x=some (a,ks.map fun k=>(some (txt k),F7 P.w.params (txt k))))(hn:(ks.map txt).Nodup)(hs:a≠dY):∃v,P.mg x=some v∧∀μ σ h,Sto P μ σ h→AH P μ h v (.fk ks):=
 aW (Od e) fun o1 w1=>aW (Od w1.2) fun v w2=>aW (Od w2.2) fun a' w3=>aW (Od w3.2) fun o w4=>aW (VV w4.2).2 fun es z=>aW z fun n z=>by
  haveI el:es.toList.map (fun e=>(UV e.key,e.hash))=(ks.map txt).map fun k=>(some k,F7 P.w.params k):=z.2.trans (by rw[az];rfl)
  haveI hv:=Rs w3.1;haveI ea:=(VV w4.2).1;subst ea;haveI hk:=w4.1.trans (congrArg some z.1);exact aW (Ry (prog:=P.prog) (w:=P.w) el) fun kvs p=>⟨v,mg_of X G (w1.1.trans (congrArg some w2.1)),fun μ σ h S=>by
   rw[hv];exact .fk (kvs:=kvs) ⟨_,es,n,X _ _ hk,⟨rfl,rfl,rfl⟩,rfl,fun e m=>p.2.2 e (Array.mem_toList_iff.mpr m),p.1,p.2.1.symm▸hn⟩ p.2.1 hs⟩
noncomputable def W1:List (List Nat):=[[73,77,80],[69,81,86],[88,79,82],[79,82],[65,78,68],[61],[60,62],[60],[62],[60,61],[62,61],[43],[45],[77,79,68],[92],[42],[47],[94]]
noncomputable def W2:List (List Nat):=[[87,69,78,68],[70,78,69,78,68],[83,84,79,80],[69,78,68],[84,82,79,78],[84,82,79,70,70]]
noncomputable def W3:List (List Nat):=[[68,69,70,73,78,84],[68,69,70,83,78,71],[68,69,70,83,84,82]]
noncomputable def UX:D→Bool
 | .fk _=>true
 |_=>false
structure KX (p:dM) (K:Frag):Prop where
 n937:(K.lookup 937).isNone=true
 n944:(K.lookup 944).isNone=true
 hd1:codeHdIn K 946 944=true
 hd2:codeHdIn K 941 937=true
 gls:((bM 17).all fun g=>match AD g with|some d=>UX d||glB K (CN g) d|none=>true)=true
 fk12:fkL K (CN 12)=some (298,W1.map fun k=>(some (txt k),F7 p (txt k)))
 fk13:fkL K (CN 13)=some (730,W2.map fun k=>(some (txt k),F7 p (txt k)))
 fk14:fkL K (CN 14)=some (731,W3.map fun k=>(some (txt k),F7 p (txt k)))
 ecBind:∀S a b c,peek K S (bindArgs (fdK K 31) ⟨[a,b,c],[]⟩)=some [(("self":Str),a),(("code":Str),b),(("told":Str),c)]
 law:isRef (nsIn K dR "law") 947=true
noncomputable def UY (h:Heap):List Nat→Frag:=List.rec [] fun a _ ih=>match h.get? a with
 |some o=>(a,o)::ih
 |none=>ih
set_option tactic.hygienic true in
theorem Ke(h:Heap):∀l,(UY h l).In h
 | [],a,o,e=>by cases e
 |x::l,a,o,e=>by
  have e:(match h.get? x with|some o=>(x,o)::UY h l|none=>UY h l:Frag).lookup a=some o:=e
  cases q:h.get? x with
  |none=>rw[q]at e;exact Ke h l a o e
  |some y=>
   rw[q]at e;rw[bq]at e;split at e
   ·rename_i k;cases e;rw[eq_of_beq k,q]
   ·exact Ke h l a o e
noncomputable def aV:List Nat:=[3,2,15,18,23,30,31,33,34,45,163,298,300,301,363,364,366,367,587,686,687,730,731,900,927,928,941,946]++(bM 220).flatMap fun f=>match Cg f with
 |some a=>[a,a - 1]
 |none=>[]
noncomputable def Kof (h:Heap):Frag:=UY h aV
theorem W4(h:Heap):(Kof h).In h:=Ke h _
noncomputable def NO (o:Option Obj):Option dF:=match o with
 |some o=>(match o.data with| .fields vs=>vs[2]? |_=>none)
 |none=>none
noncomputable def kB2 (K:Frag):Bool:=
 (DI K 366 ["__setattr__","__getattribute__","__getattr__","kind","word","args","operands","operators"]&&(makesIn K 367&&(isRef (findIn K (.ref 367) "__init__") 364&&(F0 K 364 ["self","kind","word"] ["self","kind","word"]&&(noDflt K 364&&
 (DI K 33 ["__setattr__","__getattribute__","__getattr__","code","told"]&&(isRef (nsIn K 33 "__init__") 31&&(F0 K 31 ["self","code","told"] ["self","code","told"]&&(Oa K 31 23&&
 (F0 K 928 ["work","refusal"] ["work"]&&(noDflt K 928&&(((bM 220).all fun f=>(IE f).all fun x=>match Cg f with|some a=>isRef (nsIn K dR x) a|none=>false)&&
 ((isRef (nsIn K dR "Level") 367&&isRef (nsIn K dR "BasicError") 34&&isRef (nsIn K dR "_law_heard") 928)&&
 ((["len","sorted","str","abs","min","dict","list","ord","chr","range","enumerate","super"]:List Str).all (fun x=>match nsIn K dR x with|some none=>true|_=>false)&&
 (((bM 220).all fun f=>match Cg f with|some a=>Lr K a|none=>true)&&
 ((K.lookup 937).isNone&&((K.lookup 944).isNone&&(codeHdIn K 946 944&&(codeHdIn K 941 937&&(((bM 17).all fun g=>match AD g with|some d=>UX d||glB K (CN g) d|none=>true)&&isRef (nsIn K dR "law") 947))))))))))))))))))))
noncomputable def kB (K:Frag):Bool:=(bM 74).all (Dn K)&&kB2 K
noncomputable def UZ (K:Frag):=(kB K,K.lookup 367,typeIn K (.ref 364),(fdK K 364).body,K.lookup 34,K.lookup 23,(fdK K 31).body,(fdK K 31).closure,K.lookup 18,(fdK K 31).scope.names.lookup ("super":Str),(fdK K 31).scope.names.lookup ("__class__":Str),(fdK K 31).code,NO (K.lookup 30),
 nsIn K cStatics "thirdparty.any",(fdK K 928).body,(fdK K 928).scope.names.lookup ("BasicError":Str),fkL K (CN 12),fkL K (CN 13),fkL K (CN 14),fun S a b c=>peek K S (bindArgs (fdK K 31) ⟨[a,b,c],[]⟩))
noncomputable def Ua (p:dM):Bool×Option Obj×Option dF×FuncBody×Option Obj×Option Obj×FuncBody×List (Str×Addr)×Option Obj×Option dX×Option dX×dF×Option dF×Option (Option dF)×FuncBody×Option dX×Option (Addr×List (Option Str×Int))×Option (Addr×List (Option Str×Int))×Option (Addr×List (Option Str×Int))×(Setting→dF→dF→dF→Option (List (Str×dF))):=
 (true,some VS,some (.type "function"),.stmts (lvBody (P6 pLv)),some VT,some {cls:=.type "tuple",data:=.seq #[.str "" 203]},.stmts (ecBody (P6 pEc)),[(("__class__":Str),18)],some {cls:=.type "cell",data:=.cell (some (.ref 34))},some .globalImplicit,some .free,.ref 30,some (.str "/claim/cut.py" 206),
  some none,.stmts (hrBody (P6 pHr)),some .globalImplicit,some (298,W1.map fun k=>(some (txt k),F7 p (txt k))),some (730,W2.map fun k=>(some (txt k),F7 p (txt k))),some (731,W3.map fun k=>(some (txt k),F7 p (txt k))),fun _ a b c=>some [(("self":Str),a),(("code":Str),b),(("told":Str),c)])
set_option tactic.hygienic true in
theorem P8{o:Option Obj}{v:dF}(e:NO o=some v):∃x vs,o=some x∧x.data=.fields vs∧vs[2]? =some v:=by
 unfold NO at e;split at e
 ·rename_i x;split at e
  ·rename_i vs q;exact ⟨x,vs,rfl,q,e⟩
  ·cases e
 ·cases e
theorem Ye{K:Frag}{p:dM}(e:UZ K=Ua p):KOk K∧KX p K:=by
 haveI hB:kB K=true:=congrArg (·.1) e
 haveI a1:=AC hB;haveI a2:=AC a1.2;haveI a3:=AC a2.2;haveI a4:=AC a3.2;haveI a5:=AC a4.2;haveI a6:=AC a5.2;haveI a7:=AC a6.2;haveI a8:=AC a7.2;haveI a9:=AC a8.2;haveI a10:=AC a9.2;haveI a11:=AC a10.2;haveI a12:=AC a11.2;haveI a13:=AC a12.2;haveI a14:=AC a13.2;haveI a15:=AC a14.2;haveI a16:=AC a15.2;haveI a17:=AC a16.2;haveI a18:=AC a17.2;haveI a19:=AC a18.2;haveI a20:=AC a19.2;haveI a21:=AC a20.2;haveI d1:=congrArg (·.2.1) e
 haveI d2:=congrArg (·.2.2.1) e
 haveI d3:=congrArg (·.2.2.2.1) e
 haveI d4:=congrArg (·.2.2.2.2.1) e
 haveI d5:=congrArg (·.2.2.2.2.2.1) e
 haveI d6:=congrArg (·.2.2.2.2.2.2.1) e
 haveI d7:=congrArg (·.2.2.2.2.2.2.2.1) e
 haveI d8:=congrArg (·.2.2.2.2.2.2.2.2.1) e
 haveI d9:=congrArg (·.2.2.2.2.2.2.2.2.2.1) e
 haveI d10:=congrArg (·.2.2.2.2.2.2.2.2.2.2.1) e
 haveI d11:=congrArg (·.2.2.2.2.2.2.2.2.2.2.2.1) e
 haveI d12:=congrArg (·.2.2.2.2.2.2.2.2.2.2.2.2.1) e
 haveI d13:=congrArg (·.2.2.2.2.2.2.2.2.2.2.2.2.2.1) e
 haveI d14:=congrArg (·.2.2.2.2.2.2.2.2.2.2.2.2.2.2.1) e
 haveI d15:=congrArg (·.2.2.2.2.2.2.2.2.2.2.2.2.2.2.2.1) e
 haveI d16:=congrArg (·.2.2.2.2.2.2.2.2.2.2.2.2.2.2.2.2.1) e
 haveI d17:=congrArg (·.2.2.2.2.2.2.2.2.2.2.2.2.2.2.2.2.2.1) e
 haveI d18:=congrArg (·.2.2.2.2.2.2.2.2.2.2.2.2.2.2.2.2.2.2.1) e
 haveI d19:=congrArg (·.2.2.2.2.2.2.2.2.2.2.2.2.2.2.2.2.2.2.2) e
 obtain ⟨x,vs,c1,c2,c3⟩:=P8 d12;exact ⟨⟨a1.1,d1,a2.1,a3.1,a4.1,d2,a5.1,a6.1,d3,d4,a7.1,a8.1,a9.1,a10.1,d5,d6,d7,d8,d9,d10,d11,⟨x,vs,206,c1,c2,c3⟩,d13,a11.1,a12.1,d14,d15,a13.1,(by rw[Bool.decide_eq_true];exact a14.1),a15.1,a16.1⟩,
  ⟨a17.1,a18.1,a19.1,a20.1,a21.1,d16,d17,d18,fun S a b c=>congrFun (congrFun (congrFun (congrFun d19 S) a) b) c,a21.2⟩⟩
def Lu (w:dN) (h:Heap):Prop:=(∃K:Frag,K.In h∧KOk K∧KX w.params K)∧∀a∈[937,944],h.get? a=some (tabObj #[])
noncomputable def R0 (s:dG):=(UZ (Kof s.heap),s.heap.get? 937,s.heap.get? 944)
noncomputable def R3 (w:dN):=(Ua w.params,some (tabObj #[]),some (tabObj #[]))
theorem Ub(w:dN)(s:dG)(e:R0 s=R3 w):Lu w s.heap:=by
 have ⟨e1,e⟩:=Prod.mk.inj e;have ⟨e2,e3⟩:=Prod.mk.inj e;obtain ⟨k1,k2⟩:=Ye e1;exact ⟨⟨_,W4 _,k1,k2⟩,fun a m=>by
  simp only[aj,cL,or_false]at m
  rcases m with rfl|rfl
  ·exact e2
  ·exact e3⟩
theorem NP(w:dN)(h h':Heap)(x:Lu w h)(k:∀b o,h.get? b=some o→h'.get? b=some o):Lu w h':=
 let ⟨⟨K,a,b,c⟩,d⟩:=x
 ⟨⟨K,a.keeps k,b,c⟩,fun a m=>k _ _ (d a m)⟩
noncomputable def Lv:Option dF:=some (.ref 6)
noncomputable def hS0 (w:dN) (os:dS):dG:=⟨boot_heap w.params,.mk [],boot_drawn,boot_toks,os⟩
noncomputable def q0:Pos:=⟨0,0,0,0⟩
noncomputable def tg (p:dP) (w:dN) (s:dG):=topGo treeTable p w 11 Lv 12 s (topStub p)
noncomputable def tgr (c:Code) (q:Pos):=(denote treeTable c,[topFrame q])
noncomputable def pp (x:dG×Thread):=(x.1.heap.objs.toList,x.1.heap.life,x.1.gens,x.1.drawn,x.1.toks,x.1.os,x.2.code,x.2.pos,x.2.cur,x.2.stack)
theorem W5{x:dG×Thread}{h:Heap}{g d k o e r}{c:Sem Fin×List Frame}(e1:pp x=(h.objs.toList,h.life,g,d,k,o,e,r,c)):x=(⟨h,g,d,k,o⟩,⟨c.1,e,r,c.2⟩):=
 congrArg (fun t:List Obj×Life×Array GenState×Drawn×Nat×dS×Code×Pos×Sem Fin×List Frame=>((⟨⟨⟨t.1⟩,t.2.1⟩,t.2.2.1,t.2.2.2.1,t.2.2.2.2.1,t.2.2.2.2.2.1⟩:dG),(⟨t.2.2.2.2.2.2.2.2.1,t.2.2.2.2.2.2.1,t.2.2.2.2.2.2.2.1,t.2.2.2.2.2.2.2.2.2⟩:Thread))) e1
theorem Zw(w:dN)(os:dS):(tg pw w (hS0 w os)).map pp=some ((absHeap (T0 w.params) 15 {}).objs.toList,{},.mk [],boot_drawn,187,os,c0,q0,tgr c0 q0):=by kernel_rfl
theorem Zx(w:dN)(os:dS):topGo treeTable pw w 11 Lv 12 (hS0 w os) (topStub pw)=some ((Sj w os (T0 w.params) 15 187).abs,⟨denote treeTable c0,c0,q0,[topFrame q0]⟩):=by
 have h:(tg pw w (hS0 w os)).map pp=some ((absHeap (T0 w.params) 15 {}).objs.toList,{},.mk [],boot_drawn,187,os,c0,q0,tgr c0 q0):=Zw w os;obtain ⟨x,h1,h2⟩:=bG.mp h;have:=W5 (h:=absHeap (T0 w.params) 15 {}) h2;subst this;exact h1
theorem blk(w:dN)(s:dG):segRun treeTable pw w 11 Lv 1 1 s (blockOf hbd PM c0 q0 [topFrame q0])=some (.next,s,c0,q0):=by kernel_rfl
theorem Zy(w:dN)(s:dG):topRun treeTable pw w 11 Lv 2 s ⟨doneF .next,c0,po 174,[topFrame q0]⟩=some s:=by kernel_rfl
theorem Zz(os:dS)(w:dN):Pc (w2 w false) os 0 T0 15 187 40 T40 185 456:=by kernel_rfl
theorem Z0(os:dS)(w:dN):Pc (w2 w true) os 0 T0 15 187 40 T40 185 456:=by kernel_rfl
theorem pc0(os:dS)(w:dN):Pc w os 0 T0 15 187 40 T40 185 456:=byRow2 "special-get-raises" (P:=fun w=>Pc w os 0 T0 15 187 40 T40 185 456) (Zz os) (Z0 os) w
theorem Yg(os:dS)(w:dN):Pc (w2 w false) os 40 T40 185 456 75 T75 351 770:=by kernel_rfl
theorem Yh(os:dS)(w:dN):Pc (w2 w true) os 40 T40 185 456 75 T75 351 770:=by kernel_rfl
theorem Z1(os:dS)(w:dN):Pc w os 40 T40 185 456 75 T75 351 770:=byRow2 "special-get-raises" (P:=fun w=>Pc w os 40 T40 185 456 75 T75 351 770) (Yg os) (Yh os) w
theorem Z2(os:dS)(w:dN):Pc w os 75 T75 351 770 110 Qa 573 1100:=by kernel_rfl
theorem W6(os:dS)(w:dN):Pc (w2 w false) os 110 Qa 573 1100 140 Kz 731 1367:=by kernel_rfl
theorem W7(os:dS)(w:dN):Pc (w2 w true) os 110 Qa 573 1100 140 Kz 731 1367:=by kernel_rfl
theorem Yi(os:dS)(w:dN):Pc w os 110 Qa 573 1100 140 Kz 731 1367:=byRow2 "special-get-raises" (P:=fun w=>Pc w os 110 Qa 573 1100 140 Kz 731 1367) (W6 os) (W7 os) w
theorem W8(os:dS)(w:dN):Pc (w2 w false) os 140 Kz 731 1367 174 PK 948 1721:=by kernel_rfl
theorem W9(os:dS)(w:dN):Pc (w2 w true) os 140 Kz 731 1367 174 PK 948 1721:=by kernel_rfl
theorem Yj(os:dS)(w:dN):Pc w os 140 Kz 731 1367 174 PK 948 1721:=byRow2 "special-get-raises" (P:=fun w=>Pc w os 140 Kz 731 1367 174 PK 948 1721) (W8 os) (W9 os) w
noncomputable def Hf (P:dM):Heap:=⟨⟨FL P⟩,{}⟩
theorem hT(P:dM):(absHeap (PK P) 948 {}).objs.toList=FL P:=by kernel_rfl
theorem hT'(P:dM):absHeap (PK P) 948 {}=Hf P:=congrArg (fun l=>(⟨⟨l⟩,{}⟩:Heap)) (hT P)
theorem R5:sl 0 40++(sl 40 75++(sl 75 110++(sl 110 140++(sl 140 174++[]))))=hbd:=by kernel_rfl
theorem Uc(w:dN)(os:dS)(N:Nat)(s r:dG)(h:topRun treeTable pw w 11 Lv N s (restOf (sl 0 40++(sl 40 75++(sl 75 110++(sl 110 140++(sl 140 174++[]))))) PM c0 q0 [topFrame q0])=some r):topRun treeTable pw w 11 Lv N s (restOf hbd PM c0 q0 [topFrame q0])=some r:=by
 rw[R5]at h;exact h
theorem Z3(w:dN)(os:dS):topRun treeTable pw w 11 Lv (12+(1+(2000+(2000+(2000+(2000+(2000+2))))))) (hS0 w os) (topStub pw)=some ⟨Hf w.params,.mk [],boot_drawn,1721,os⟩:=by
 refine go_top (Zx w os) (piece_block (blk w _) (Uc w os _ _ _ ?_));refine piece_app (segRun_of (LA (pc0 os w))) (piece_app (segRun_of (LA (Z1 os w))) (piece_app (segRun_of (LA (Z2 os w))) (piece_app (segRun_of (LA (Yi os w))) (piece_app (segRun_of (LA (Yj os w))) (piece_nil ?_)))));rw[←hT'];exact Zy w _
noncomputable def Sf (w:dN) (os:dS):dG:=⟨Hf w.params,.mk [],boot_drawn,1721,os⟩
noncomputable def qv (p:dP):dP:={p with main:={p.main with body:=p.main.body.drop (p.main.body.length - 1)} }
noncomputable def lz (p:dP):List Str:=p.boundNames.filter fun x=> !(x==("law":Str))
noncomputable def gA (p:dP) (h:Heap) (s:dG):Bool:=staticsOk (importedModules p.main.body) h s.heap&&namesBound p s.heap&&gensDone s&&laidKept h s.heap
noncomputable def gB (p:dP) (s:dG):Bool:=s.heap.keysOk (looseW (qv p) (lz p)) ((recsOf (qv p)).map (·.name)) ((litsOf (qv p)).map (·.1)) ((clssOf (qv p) (looseW (qv p) (lz p))).map (·.name))&&s.heap.accountedOkI (importedModules p.main.body)&&s.heap.isNs dR&&s.heap.isNs dT&&tablesOk (qv p) s.heap&&true&&(s.gens.size==0)
noncomputable def gC (p:dP) (s:dG):=(seen ((recsOf (qv p)).map (·.name)) (ownsOf (qv p)) [] {s with gens:= #[]},s.heap.bltView)
noncomputable def gC' (p:dP):=(expectedOf (qv p),bltViewBooted)
noncomputable def gD (p:dP) (s:dG):=(tabsOk (qv p) s,pinSeenD (qv p) (drecsOf (qv p)) s,plainSeenE (qv p) (looseW (qv p) (lz p)) s,plainSeenD (qv p) (lz p) s,wideSeen (qv p) s,clsSeenW (qv p) (lz p) s)
noncomputable def gD' (p:dP):=(true,pinGoodD (drecsOf (qv p)),plainGoodE (qv p) (looseW (qv p) (lz p)),plainGoodD (qv p) (lz p),wideGood (qv p),clsGoodW (qv p) (lz p))
noncomputable def okB (p:dP):Bool:=chainsOk (qv p)&&opensWell p
theorem Ud(p:dP)(h0:Heap)(s:dG){α:Type}(Yf:dG→α)(y:α)(a:gA p h0 s=true)(b:gB p s=true)(c:gC p s=gC' p)(d:gD p s=gD' p)(k:Yf s=y):
  ((staticsOk (importedModules p.main.body) h0 s.heap&&namesBound p s.heap&&gensDone s&&laidKept h0 s.heap),openSeen (qv p) (lz p) (importedModules p.main.body) (fun _=>true) true s,Yf s)=(true,openGood (qv p) (lz p),y):=
 Prod.ext a (Prod.ext (Prod.ext (congrArg (·.1) c) (Prod.ext (congrArg (·.2) c) (Prod.ext b d))) k)
theorem tA(w:dN)(os:dS):gA pw (boot_heap w.params) (Sf w os)=true:=by kernel_rfl
theorem tB(w:dN)(os:dS):gB pw (Sf w os)=true:=by kernel_rfl
theorem tC(w:dN)(os:dS):gC pw (Sf w os)=gC' pw:=by kernel_rfl
theorem tD(w:dN)(os:dS):gD pw (Sf w os)=gD' pw:=by kernel_rfl
theorem tO:okB pw=true:=by kernel_rfl
theorem Z5(P:dM):(Hf P).get? 937=some (tabObj #[]):=by kernel_rfl
theorem Z6(P:dM):(Hf P).get? 944=some (tabObj #[]):=by kernel_rfl
theorem tF1(P:dM):(bK 0 13).all (Dn (Kof (Hf P)))=true:=by kernel_rfl
theorem tF2(P:dM):(bK 13 13).all (Dn (Kof (Hf P)))=true:=by kernel_rfl
theorem tF3(P:dM):(bK 26 12).all (Dn (Kof (Hf P)))=true:=by kernel_rfl
theorem tF4(P:dM):(bK 38 12).all (Dn (Kof (Hf P)))=true:=by kernel_rfl
theorem tF5(P:dM):(bK 50 12).all (Dn (Kof (Hf P)))=true:=by kernel_rfl
theorem tF6(P:dM):(bK 62 12).all (Dn (Kof (Hf P)))=true:=by kernel_rfl
theorem tF0(P:dM):kB2 (Kof (Hf P))=true:=by kernel_rfl
theorem Z7{f:Nat→Bool}(h1:(bK 0 13).all f=true)(h2:(bK 13 13).all f=true)(h3:(bK 26 12).all f=true)(h4:(bK 38 12).all f=true)(h5:(bK 50 12).all f=true)(h6:(bK 62 12).all f=true):(bM 74).all f=true:=by
 rw[show bM 74=bK 0 13++(bK 13 13++(bK 26 12++(bK 38 12++(bK 50 12++bK 62 12)))) from by decide+kernel,cX,cX,cX,cX,cX,h1,h2,h3,h4,h5,h6]
 rfl
theorem tK1(P:dM):kB (Kof (Hf P))=true:=bD.mpr ⟨Z7 (tF1 P) (tF2 P) (tF3 P) (tF4 P) (tF5 P) (tF6 P),tF0 P⟩
theorem tK2(P:dM):(UZ (Kof (Hf P))).2=(Ua P).2:=by kernel_rfl
theorem XA(s:dG)(w:dN)(a:kB (Kof s.heap)=true)(b:(UZ (Kof s.heap)).2=(Ua w.params).2)(c:s.heap.get? 937=some (tabObj #[]))(d:s.heap.get? 944=some (tabObj #[])):R0 s=R3 w:=Prod.ext (Prod.ext a b) (Prod.ext c d)
theorem left:LeftO pw (qv pw) (lz pw) (fun _=>true) R0 R3 12000:=by
 refine LeftO.of_pieces (H₀:=boot_heap) (H₁:=Hf) (gs₀:=.mk []) (gs₁:=.mk []) (d₀:=boot_drawn) (d₁:=boot_drawn) (k₀:=boot_toks) (k₁:=1721) (m₀:=11) (ann:=Lv) (M:=12+(1+(2000+(2000+(2000+(2000+(2000+2))))))) (boot_open ?_ rfl ?_) ?_ Z3 rfl ?_
 ·kernel_rfl
 ·intro s;kernel_rfl
 ·intro w;kernel_rfl
 ·intro w
  funext os
  exact Ud pw (boot_heap w.params) (Sf w os) R0 (R3 w) (tA w os) (tB w os) (tC w os) (tD w os) (XA (Sf w os) w (tK1 w.params) (tK2 w.params) (Z5 w.params) (Z6 w.params))
noncomputable def lw (p:dP):OpenLaw:={prog:=p,name:="law",about:=["renumbered"],foot:=8,most:=some 63,bound:=none,writes:=false}
noncomputable def v1 (p:dP):Bool:=sreFenced p.main&&((moduleNames p.main.body).isEmpty||lookedIntoSs (moduleNames p.main.body) p.main.body)
noncomputable def v2 (p:dP):Bool:=namesResolve p
noncomputable def v3 (p:dP):Bool:=p.boundNames.all (fun n=> !worldNames.contains n)
noncomputable def v4 (p:dP):Bool:=noRoadLSs {strict:= !(importedModules p.main.body).all cThrough.contains,foot:=none,bare:=(["vars","dir","locals"]:List Str).filter (readsOut p p.main.body)} p.main.body
noncomputable def v5 (p:dP):Bool:=namesMeet p p.main.body fun _ n=>attrL n
noncomputable def w2p (p:dP):Bool:=let r:=(lw p).row
 r.loose.isEmpty&&r.makers.isEmpty&&
 (r.records.isEmpty||r.raises.all fun ct=>ct.1 != .builtin "AttributeError"&&ct.1 != .builtin "TypeError")&&
 (r.raises.all fun ct=>match ct.1 with| .builtin n=> !r.prog.boundNames.contains (Str.ofString n)&& !ofTheWorld.contains n| .own _=>true)&&
 decide (r.records.map (·.1)).Nodup&&(r.records.all fun x=> !x.1.opensWith "__"&& !builtinNamed x.1&&r.prog.boundNames.contains x.1&&x.2.all fun f=> !f.1.opensWith "__")&&
 r.toRowW.solid&&r.pre.litsOk&&r.post.litsOk&&r.raises.all (·.2.litsOk)&&
 r.mutates.all (fun i=>match r.args[i]? with
  |some sh=> !sh.arms.any WShape.isObj
  |none=>false)&&
 r.within.all (fun i=>decide (i<r.args.length))&&r.same.all (fun i=>decide (i<r.args.length))&&r.prog.boundNames.contains r.name&& !startupNames.contains r.name
noncomputable def w3 (p:dP):Bool:=let l:=lw p
 decide (l.foot≤(behindTheImports l.prog).length)&&l.footing.all footLine&&noClassBlock l.prog l.footing&&
 l.most.all (fun n=>decide (63≤n))&&l.bound.all (fun n=>decide (2 ^ 63≤n))&&
 noRoadLSs {strict:=true,foot:=some l.bound',writes:=l.writes,may:=l.may} l.footing&&
 defStands l.about l.above&&l.namesIt&&
 (["type","isinstance","issubclass","getattr","hasattr"]:List Str).all (fun n=>l.about != [n])
noncomputable def w6 (p:dP):Bool:=let l:=lw p
 l.bound'.all (fun n=> !builtinNamed n||l.about==[n]|| !l.reads n)
noncomputable def w7 (p:dP):Bool:=let l:=lw p
  (!l.writes||(l.prog.main.body.flatMap importedNames).all fun n=> !l.reads n)&&(l.prog.main.body.flatMap importedNames).all (fun n=> !l.reads n||(drawsOf n l.prog.main.body).all fun mn=>mn.2 != ("attrgetter":Str)&&mn.2 != ("methodcaller":Str))&&
 namesMeet l.prog l.footing (fun sc n=>(!(["type","isinstance","issubclass","getattr","hasattr"]:List Str).contains n||sc.names.lookup n==some .globalImplicit)&&
  (l.may != some n||sc.kind== .module||sc.names.lookup n==some .globalImplicit))&&
 l.own.contains l.name&&l.own.eraseDups.length==l.own.length&&l.own.all (fun n=> !builtinNamed n)
noncomputable def w8 (p:dP):Bool:=let l:=lw p
 namesMeet l.prog l.above (fun _ n=> !l.own.contains n)&&namesMeet l.prog l.footing fun sc n=>sc.kind== .module||sc.names.lookup n != some .globalExplicit
theorem Be{a b:Bool}(h:a=true)(k:b=true):(a&&b)=true:=by rw[h];exact k
theorem BP{a b:Bool}(h:(a&&b)=true):a=true∧b=true:=bD.mp h
theorem Yk(p:dP)(h1:v1 p=true)(h2:v2 p=true)(h3:v3 p=true)(h4:v4 p=true)(h5:v5 p=true)(k2:w2p p=true)(k3:w3 p=true)(k6:w6 p=true)(k7:w7 p=true)(k8:w8 p=true):(lw p).wellSaid=true:=by
 haveI b_15:=BP k2;haveI b_14:=BP b_15.1;haveI b_13:=BP b_14.1;haveI b_12:=BP b_13.1;haveI b_11:=BP b_12.1;haveI b_10:=BP b_11.1;haveI b_9:=BP b_10.1;haveI b_8:=BP b_9.1;haveI b_7:=BP b_8.1;haveI b_6:=BP b_7.1;haveI b_5:=BP b_6.1;haveI b_4:=BP b_5.1;haveI b_3:=BP b_4.1;haveI b_2:=BP b_3.1;haveI c_9:=BP k3;haveI c_8:=BP c_9.1;haveI c_7:=BP c_8.1;haveI c_6:=BP c_7.1;haveI c_5:=BP c_6.1;haveI c_4:=BP c_5.1;haveI c_3:=BP c_4.1;haveI c_2:=BP c_3.1;haveI d_6:=BP k7;haveI d_5:=BP d_6.1;haveI d_4:=BP d_5.1;haveI d_3:=BP d_4.1;haveI d_2:=BP d_3.1;haveI e_2:=BP k8;exact Be (Be (Be (Be (Be (Be (Be (Be (Be (Be (Be (Be (Be (Be (Be (Be (Be (Be (Be (Be (Be (Be (Be (Be (Be (Be (Be (Be (Be (Be (Be (Be (Be (Be (Be (Be (Be h1 h2) h3) h4) h5) b_2.1) b_2.2) b_3.2) b_4.2) b_5.2) b_6.2) b_7.2) b_8.2) b_9.2) b_10.2) b_11.2) b_12.2) b_13.2) b_14.2) b_15.2) c_2.1) c_2.2) c_3.2) c_4.2) c_5.2) c_6.2) c_7.2) c_8.2) c_9.2) k6) d_2.1) d_2.2) d_3.2) d_4.2) d_5.2) d_6.2) e_2.1) e_2.2
theorem v1T:v1 pw=true:=by kernel_rfl
theorem v2T:v2 pw=true:=by kernel_rfl
theorem v3T:v3 pw=true:=by kernel_rfl
theorem v4T:v4 pw=true:=by kernel_rfl
theorem v5T:v5 pw=true:=by kernel_rfl
theorem Z8:w2p pw=true:=by kernel_rfl
theorem w3T:w3 pw=true:=by kernel_rfl
theorem w6T:w6 pw=true:=by kernel_rfl
theorem w7T:w7 pw=true:=by kernel_rfl
theorem w8T:w8 pw=true:=by kernel_rfl
theorem ws:PySem.Challenge.rw_pf0029_01.wellSaid=true:=Yk pw v1T v2T v3T v4T v5T Z8 w3T w6T w7T w8T
end Mine
end
section
open PySem PySem.Calls PyProof.Rows PySem.Spec PySem.W
set_option backward.match.sparseCases true
namespace Mine
theorem C4{o:Option (Option dF)}{a:Addr}(e:isRef o a=true):o=some (some (.ref a)):=
 aW (Fc e) fun p w=>aW (Fc w.2) fun v u=>w.1.trans (congrArg some (u.1.trans (congrArg some (eq_of_beq u.2))))
set_option tactic.hygienic true in
theorem NQ{K:Frag}{h:Heap}{N:Addr}{mg:Str→Option dF}{n:Str}{v:dF}(X:K.In h)(G:h.Ns N mg)(e:nsIn K N n=some (some v)):mg n=some v:=by
 obtain ⟨o,es,ep,ho,hd,_,hf⟩:=G;delta nsIn at e;split at e
 ·rename_i c d es' n' sl q;haveI:=X _ _ q;rw[ho]at this
  (injection this with this;subst this)
  (injection hd with h91 h92;subst h91;subst h92)
  split at e
  ·rename_i en he;cases e;rw[←hf];delta nsFind findBy;rw[←Array.find?_toList,he];rfl
  ·split at e<;>cases e
 ·exact xns e
theorem Kf{α:Type}{f:Nat→α}{z:α}{n k:Nat}(h:∀j,f (j+n)=z)(q:f k≠z):k<n:=Nat.lt_of_not_le fun p=>q (by rw[←Nat.sub_add_cancel p];exact h _)
theorem IG:∀f a,Cg f=some a→f<220:=fun f a e=>Kf (f:=Cg) (n:=220) (z:=none) (fun _=>rfl) (by refine e▸ ?_;exact Option.some_ne_none _)
theorem NR:∀f x,(IE f).contains x=true→f<220:=fun f x e=>Kf (f:=IE) (n:=220) (z:=[]) (fun _=>rfl) fun q=>by rw[q]at e;exact xbf e
theorem R7:∀f b,CM f=some b→f<74:=fun f a e=>Kf (f:=CM) (n:=74) (z:=none) (fun _=>rfl) (by refine e▸ ?_;exact Option.some_ne_none _)
theorem Jh:∀f b,AD f=some b→f<17:=fun f a e=>Kf (f:=AD) (n:=17) (z:=none) (fun _=>rfl) (by refine e▸ ?_;exact Option.some_ne_none _)
theorem R8{g:Nat}{d:D}(e:AD g=some d)(q:UX d=true):g=12∨g=13∨g=14:=by
 haveI h:((bM 17).all fun g=>match AD g with|some d=> !UX d||(Nat.beq g 12||(Nat.beq g 13||Nat.beq g 14))|none=>true)=true:=by kernel_rfl
 haveI:=ao.mp h g (cE.mpr (Jh g d e));rw[e]at this;dsimp only at this;rw[q]at this
 simpa using this
theorem Ue{l:List Str}{c T:Addr}{j:Nat}(e:cdT l=some (c,T,j)):(c=946∧T=944∧j=0)∨(c=941∧T=937∧j=1):=by
 unfold cdT at e;split at e
 ·cases e;exact .inl ⟨rfl,rfl,rfl⟩
 ·split at e
  ·cases e;exact .inr ⟨rfl,rfl,rfl⟩
  ·exact xns e
theorem XB{f j:Nat}(e:Wu f=some j):(f=73∧j=0)∨(f=72∧j=1):=by
 unfold Wu at e;split at e
 ·(injection e with e;subst e);exact .inl ⟨rfl,rfl⟩
 ·(injection e with e;subst e);exact .inr ⟨rfl,rfl⟩
 ·exact xns e
theorem Yl:cdT (C3 73)=some (946,944,0):=by kernel_rfl
theorem Ym:cdT (C3 72)=some (941,937,1):=by kernel_rfl
theorem Lw(a:Nat):(a=1∧Fz a=(920,18))∨(a=2∧Fz a=(891,23))∨(a=3∧Fz a=(895,44))∨Fz a=(1000000+a,0):=by
 unfold Fz;split
 ·exact .inl ⟨rfl,rfl⟩
 ·exact .inr (.inl ⟨rfl,rfl⟩)
 ·exact .inr (.inr (.inl ⟨rfl,rfl⟩))
 ·exact .inr (.inr (.inr rfl))
theorem P9:∀a b,Fz a=Fz b→a=b:=by
 intro a b e
 rcases Lw a with ⟨h1,h2⟩|⟨h1,h2⟩|⟨h1,h2⟩|h2<;>rcases Lw b with ⟨h3,h4⟩|⟨h3,h4⟩|⟨h3,h4⟩|h4<;>
  (rw[h2,h4,Prod.mk.injEq]at e;lia)
theorem Yn:∀f,f<74→∀i:Nat,(C3 f)[i]? ≠some (".0":Str):=by
 have h:((bM 74).all fun f=>(C3 f).all fun x=> !(x==(".0":Str)))=true:=by kernel_rfl
 intro f hf i e;have h1:=ao.mp h f (cE.mpr hf);have h2:=ao.mp h1 _ (bB e);simp at h2
section
variable{prog:dP}{w:dN}{h:Heap}{mg mb:Str→Option dF}{K:Frag}
structure In0 (prog:dP) (w:dN) (h:Heap) (mg mb:Str→Option dF) (K:Frag):Prop where
 X:K.In h
 kok:KOk K
 kx:KX w.params K
 g:h.Ns dR mg
 b:h.Ns dT mb
 lim:h.NoLimit
 bi:∀x:Str,x≠"__name__"→mb x=bootBuiltins x
 bmain:∃bm ob,mg "__builtins__"=some (.ref bm)∧bm≠dT∧h.get? bm=some ob∧ob.cls=.type "module"∧ob.dict=some dT∧ob.data=.plain
 sys:∃mm,h.Ns dY mm
 t1:h.get? 937=some (tabObj #[])
 t2:h.get? 944=some (tabObj #[])
 file:((prog.main.file:Str)==("/claim/cut.py":Str))=true
 top:(prog.main.scope.names.lookup ("super":Str)).isSome=false
noncomputable abbrev PX (prog:dP) (w:dN) (h:Heap) (mg mb:Str→Option dF):PI:=mkP prog w (DW h) mg mb
theorem In0.Xb(I:In0 prog w h mg mb K):K.In (PX prog w h mg mb).hb:=YY I.X I.kx.n937 I.kx.n944
theorem In0.gl(I:In0 prog w h mg mb K):(PX prog w h mg mb).hb.Ns dR mg:=Ob (by decide) (by decide) I.g
theorem In0.bl(I:In0 prog w h mg mb K):(PX prog w h mg mb).hb.Ns dT mb:=Ob (by decide) (by decide) I.b
theorem In0.limb(I:In0 prog w h mg mb K):(PX prog w h mg mb).hb.NoLimit:=let ⟨mc,n,q⟩:=I.lim;⟨mc,Ob (by decide) (by decide) n,q⟩
theorem In0.fdO(I:In0 prog w h mg mb K){a:Addr}{loc np:List Str}(e:F0 K a loc np=true):OZ K (PX prog w h mg mb).hb a loc np:=UU I.Xb e
theorem In0.nn(I:In0 prog w h mg mb K){x:Str}(m:x∈(["len","sorted","str","abs","min","dict","list","ord","chr","range","enumerate","super"]:List Str)):mg x=none:=by
 have q:=ao.mp I.kok.bi x m;refine ns_none_of I.X I.g ?_;revert q;cases nsIn K dR x with
 |none=>simp
 |some o=>cases o<;>simp
theorem In0.own(I:In0 prog w h mg mb K):mg "Level"=some (.ref 367)∧mg "BasicError"=some (.ref 34)∧mg "_law_heard"=some (.ref 928):=by
 haveI q:=I.kok.own;simp only[aw]at q;exact ⟨mg_of I.X I.g (C4 q.1.1),mg_of I.X I.g (C4 q.1.2),mg_of I.X I.g (C4 (of_decide_eq_true q.2))⟩
theorem In0.fnObj(I:In0 prog w h mg mb K){f:Nat}{a:Addr}(e:Cg f=some a):Lr K a=true:=by
 haveI q:=ao.mp I.kok.fnObj f (cE.mpr (IG f a e));rw[e]at q;exact q
noncomputable def lvD (K:Frag) (hb:Heap):Je where
 nm:="Level"
 q:="Level"
 N:=366
 bs:=[.type "object"]
 sn:=[]
 sub:=[]
 ab:=false
 col:=none
 dd:=none
 k0:=none
 k1:=none
 k2:=some (.str "Level" 770)
 k3:=some (.str "Level" 778)
 k5:=some (.bool true)
 mN:=hb.nsMap 366
 fI:=364
 oI:=IF K 364
 fd:=fdK K 364
theorem FT{hb:Heap}{N:Addr}{xs:List Str}(X:K.In hb)(e:DI K N xs=true):hb.Ns N (hb.nsMap N):=by
 unfold DI at e;rw[aw]at e;exact .of_isNs (isNs_of_in X e.1)
theorem Ji{a:Addr}(e:noDflt K a=true):(fdK K a).defaults=.none:=by
 unfold noDflt at e;split at e
 ·assumption
 ·exact xbf e
theorem In0.lvRec(I:In0 prog w h mg mb K):Lm (PX prog w h mg mb) (lvD K (DW h)):=by
 have F:=I.fdO I.kok.lvFd;exact {
  cls:=I.Xb _ _ I.kok.lvCls
  ns:=FT I.Xb I.kok.lvNone
  ms:=Bm I.Xb I.kok.lvNone (by decide)
  mg:=Bm I.Xb I.kok.lvNone (by decide)
  mA:=fun k=>Bm I.Xb I.kok.lvNone (P7 k)
  makes:=makes_of I.Xb I.kok.lvMakes
  init:=looks_findIn I.Xb (C4 I.kok.lvInit)
  bindI:=fun self=>bind_fn I.Xb self I.kok.lvTyp
  fO:=F.fO
  fD:=F.fD
  body:=⟨_,I.kok.lvBody⟩
  kind:=F.kind
  co:=F.co
  gen:=F.gen
  kSelf:=F.loc _ (by decide)
  kKind:=F.loc _ (by decide)
  kWord:=F.loc _ (by decide)
  noCell:=F.noCell
  codeR:=F.codeR
  bind:=fun s _ a b c=>BindsTo.of_eq (ES F.p1 F.p2 F.p3 F.p4 F.p5 (Ji I.kok.lvDflt) (by decide+kernel) [a,b,c] rfl)
  lim:=I.limb
  lk:=Wv
  name:=I.own.1}
noncomputable def ecD (K:Frag) (hb:Heap) (oc:Obj) (vs:Array dF) (t:Tok):H3 where
 nm:="BasicError"
 q:="BasicError"
 N:=33
 bs:=[.type "Exception"]
 sn:=[]
 sub:=[]
 ab:=false
 col:=none
 dd:=none
 k0:=some (.ref 15)
 k1:=none
 k2:=some (.str "BasicError" 191)
 k3:=some (.str "BasicError" 199)
 k5:=some (.bool true)
 mN:=hb.nsMap 33
 fI:=31
 oI:=IF K 31
 fd:=fdK K 31
 cc:=18
 oc:={cls:=.type "cell",data:=.cell (some (.ref 34))}
 cda:=30
 ocd:=oc
 vs:=vs
 file:="/claim/cut.py"
 tf:=t
theorem In0.ecRec(I:In0 prog w h mg mb K):∃D,Ll (PX prog w h mg mb) D:=by
 have F:=I.fdO I.kok.ecFd;obtain ⟨oc,vs,t,h1,h2,h3⟩:=I.kok.ecCd;exact ⟨ecD K (DW h) oc vs t,{
  cls:=I.Xb _ _ I.kok.ecCls
  ns:=FT I.Xb I.kok.ecNone
  mi:=NQ I.Xb (FT I.Xb I.kok.ecNone) (C4 I.kok.ecInit)
  ms:=Bm I.Xb I.kok.ecNone (by decide)
  mc:=Bm I.Xb I.kok.ecNone (by decide)
  mt:=Bm I.Xb I.kok.ecNone (by decide)
  mgb:=Bm I.Xb I.kok.ecNone (by decide)
  mga:=Bm I.Xb I.kok.ecNone (by decide)
  fO:=F.fO
  fC:=F.fC
  fD:=F.fD
  body:=⟨_,I.kok.ecBody,by decide⟩
  clo:=I.kok.ecClo
  params:=by
   show ∃ar,((fdK K 31).params.posonlyargs++(fdK K 31).params.args).head? =some ar∧ar.arg="self"
   rw[F.p1,List.nil_append];have q:=F.p2;cases e:(fdK K 31).params.args with
   |nil=>rw[e]at q;contradiction
   |cons x l=>rw[e,an,bI.injEq]at q;exact ⟨x,rfl,q.1⟩
  glob:=F.glob
  bi:=F.bi
  kind:=F.kind
  co:=F.co
  gen:=F.gen
  kSuper:=I.kok.ecSup
  kClass:=I.kok.ecCla
  kSelf:=F.loc _ (by decide)
  kCode:=F.loc _ (by decide)
  kTold:=F.loc _ (by decide)
  noCell:=F.noCell
  codeR:=F.codeR
  codeA:=I.kok.ecCode
  codeO:=I.Xb _ _ h1
  codeD:=h2
  codeF:=h3
  file:=I.file
  cell:=⟨_,I.Xb _ _ I.kok.ecCell,rfl⟩
  bind:=fun s k a b c=>kp_binds (K:=K) (fun x o e=>k _ _ (I.Xb x o e)) (fun S=>I.kx.ecBind S a b c)
  top:=I.top
  sup:=⟨I.nn (by decide),(I.bi _ (by decide+kernel)).trans (by decide+kernel)⟩
  opaq:=looks_opaque I.Xb I.kok.opaq
  lim:=I.limb
  lkCode:=dz (by kernel_rfl)
  lkTold:=dz (by kernel_rfl)
  name:=I.own.2.1}⟩
noncomputable def hrD (K:Frag):OW:=⟨928,IF K 928,fdK K 928⟩
theorem In0.hrRec(I:In0 prog w h mg mb K):Rj (PX prog w h mg mb) (hrD K):=by
 have F:=I.fdO I.kok.hrFd;exact {
  name:=I.own.2.2
  fO:=F.fO
  fD:=F.fD
  body:=⟨_,I.kok.hrBody⟩
  glob:=F.glob
  bi:=F.bi
  kind:=F.kind
  co:=F.co
  gen:=F.gen
  kWork:=F.loc _ (by decide)
  kRef:=F.loc _ (by decide)
  kBE:=I.kok.hrBE
  noCell:=F.noCell
  codeR:=F.codeR
  bind:=fun a=>ES F.p1 F.p2 F.p3 F.p4 F.p5 (Ji I.kok.hrDflt) (by decide+kernel) [a] rfl
  lim:=I.limb
  bmain:=by
   obtain ⟨bm,ob,h1,h2,h3,h4,h5,h6⟩:=I.bmain;have ne:∀a ps,h.get? a=some (tabObj ps)→bm≠a:=fun a ps e q=>by
    rw[←q,h3]at e;have:=aq.inj e;rw[this]at h4;contradiction
   refine ⟨bm,ob,h1,h2,fun q=> ?_,(DO (ne _ _ I.t1) (ne _ _ I.t2)).trans h3,h4,h5,h6⟩;obtain ⟨o,es,ep,e1,e2,_⟩:=I.g;rw[q,e1]at h3;have:=aq.inj h3;rw[this,h6]at e2;contradiction
  tab:=fun names c T j e=>by
   rcases Ue e with ⟨rfl,rfl,rfl⟩|⟨rfl,rfl,rfl⟩
   ·exact ⟨codeHd_of_K I.Xb I.kx.hd1,rfl⟩
   ·exact ⟨codeHd_of_K I.Xb I.kx.hd2,rfl⟩
  inj:=P9}
theorem In0.ok(I:In0 prog w h mg mb K):Ok (PX prog w h mg mb) where
 bi:=I.bl
 gl:=I.gl
 fnObj:=fun f a e=>let ⟨o1,_,o3⟩:=Hb I.Xb (I.fnObj e);⟨_,_,o1,o3⟩
 lvGet:=fun A s Q E x dx m k v hk hx hne hns hv hh hq=>Wn I.lvRec A s Q E x dx m k v hk hx hne hns hv hh hq
theorem In0.nmOk(I:In0 prog w h mg mb K)(f:Nat):Qx (PX prog w h mg mb) (nmF f) AD where
 fn:=fun g x e=>by
  haveI q:=ao.mp (ao.mp I.kok.names g (cE.mpr (NR g x e))) x (List.contains_iff_mem.mp e);revert q;cases hf:Cg g with
  |none=>simp
  |some a=>exact fun q=>⟨a,mg_of I.X I.g (C4 q),hf⟩
 gl:=fun g d e=>by
  haveI hg:=Jh g d e;haveI q:=ao.mp I.kx.gls g (cE.mpr hg);rw[e]at q;simp only[Bool.or_eq_true]at q
  rcases q with q|q
  ·haveI c:=R8 e q
   rcases c with rfl|rfl|rfl
   ·haveI:d=.fk W1:=(aq.inj e).symm;subst this;exact Rz (P:=PX prog w h mg mb) I.Xb I.gl I.kx.fk12 (by decide+kernel) (by decide)
   ·haveI:d=.fk W2:=(aq.inj e).symm;subst this;exact Rz (P:=PX prog w h mg mb) I.Xb I.gl I.kx.fk13 (by decide+kernel) (by decide)
   ·haveI:d=.fk W3:=(aq.inj e).symm;subst this;exact Rz (P:=PX prog w h mg mb) I.Xb I.gl I.kx.fk14 (by decide+kernel) (by decide)
  ·exact Yd (P:=PX prog w h mg mb) I.Xb I.gl q
 bi:=fun b=>⟨I.nn (by cases b<;>decide+kernel),(I.bi _ (by cases b<;>decide+kernel)).trans (by cases b<;>rfl)⟩
 rng:=⟨I.nn (by decide),(I.bi _ (by decide+kernel)).trans (by decide+kernel)⟩
 hj:=fun j e=>by
  rcases XB (f:=f) e with ⟨rfl,rfl⟩|⟨rfl,rfl⟩
  ·exact ⟨_,_,Yl⟩
  ·exact ⟨_,_,Ym⟩
 hp:=fun _=>rfl
 enu:=⟨I.nn (by decide),(I.bi _ (by decide+kernel)).trans (by decide+kernel)⟩
theorem In0.base(I:In0 prog w h mg mb K):Wk (PX prog w h mg mb) AD CM where
 ok:=I.ok
 lim:=I.limb
 few:=fun f a e=>ai (IG f a e) (by decide)
 fns:=fun f b a e1 e2=>by
  haveI hf:=R7 f b e1;haveI q:=ao.mp I.kok.fns f (cE.mpr hf);unfold Dn at q;haveI e2':Cg f=some a:=e2;rw[e2',e1]at q;obtain ⟨D,E⟩:=I.ecRec;haveI h0n:∀i:Nat,(nmF f).names[i]? ≠some (".0":Str):=Yn f hf;refine ⟨nmF f,I.nmOk f,Rt (P:=PX prog w h mg mb) I.Xb q,fun call k C C2=>⟨Rh I.lvRec,Rg I.ok E,?_⟩⟩;haveI KB:Bs.Ok ⟨PX prog w h mg mb,nmF f,AD,call,k⟩:=⟨I.ok,I.nmOk f,C,Rh I.lvRec⟩;exact ⟨UH KB h0n,Rl I.ok (I.nmOk f) h0n C2 E I.hrRec,UR KB,Rp KB⟩
theorem In0.sto(I:In0 prog w h mg mb K):Sto (PX prog w h mg mb) [944,937] [.tab [],.tab []] h where
 sys:=let ⟨_,o,_,_,e,_⟩:=I.sys;⟨o,(DO (by decide) (by decide)).trans e⟩
 base:=fun b o e=>Ww e
 fresh:=fun a m=>by
  simp only[aj,cL,or_false]at m
  rcases m with rfl|rfl
  ·exact ⟨Kd _,by decide⟩
  ·exact ⟨Kc _,by decide⟩
 nodup:=by decide
 len:=rfl
 pre:=List.prefix_refl _
 cell:=fun i a c e1 e2=>by
  match i with
  |0=>(injection e1 with e1;subst e1);(injection e2 with e2;subst e2);exact ⟨#[],I.t2,trivial,fun _ q=>absurd rfl q⟩
  |1=>(injection e1 with e1;subst e1);(injection e2 with e2;subst e2);exact ⟨#[],I.t1,trivial,fun _ q=>absurd rfl q⟩
  |_+2=>exact xns e1
end
end Mine
end
section
open PySem PySem.Calls PyProof.Rows PySem.Spec PySem.W
namespace Mine
noncomputable def R9:DefRec×List (Str×Expr):=(defOf (qv pw) "law").getD (⟨"",⟨[],[],none,[],[],none,[]⟩,[],{kind:=.function,names:=[],isGenerator:=false,isCoroutine:=false},⟨0,0,0,0⟩⟩,[])
theorem head(call:WalkO (qv pw) (lz pw) (fun _ _=>True) Lu PySem.Challenge.rw_pf0029_01.row.toRowW R9.1 R9.2 fun f vs=>PySem.call f vs):PySem.Challenge.rw_pf0029_01.Holds:=
 ⟨ws,holds_open (r:=PySem.Challenge.rw_pf0029_01.row) (q:=qv pw) (loose:=lz pw) (Xt:=fun _=>true) (XP:=fun _ _=>True) (Yf:=R0) (Ya:=R3) (YP:=Lu) (d:=R9.1) (kwd:=R9.2) (N:=12000) left Ub NP
  (fun _ _=>trivial) (fun _ _ _ _ _=>trivial) (by kernel_rfl) (by kernel_rfl) (by kernel_rfl) (fun _ _=>recFacts_of (by kernel_rfl)) rfl (row_said ws) (bD.mpr ⟨tO,by kernel_rfl⟩) ⟨rfl,rfl,rfl,rfl,rfl,by decide+kernel⟩ ⟨[.list []],by decide+kernel,by decide+kernel⟩ call⟩
end Mine
end
section
namespace Mine
noncomputable def AZ:List Nat:=[110,117,109,98,101,114]
noncomputable def BJ (l:List Nat):Nat:=l.foldl (fun v c=>10*v+(c - 48)) 0
noncomputable def Uf (b:Bool) (s:List Nat):D:=match b with
 |true=>.dig (BJ s)
 |false=>.str s
noncomputable def IH (w s:List Nat):Bool:=eqL w AZ&&(Nat.blt (BJ s) 65530&&eqL (AB (BJ s)) s)
noncomputable def Cm (d:D):D:=match d with
 | .tup [.str w,.str s]=>.tup [.str w,Uf (IH w s) s]
 |d=>d
noncomputable def Ug (d:D):Bool:=match d with
 | .tup (.str w::_)=>eqL w [116,101,120,116]
 |_=>false
noncomputable def D9 (l:List D):List D:=match l.any Ug with
 |true=>(l.take 6).map Cm++l.drop 6
 |false=>l.map Cm
noncomputable def EW (c:AI):AI:=match c with
 | .lst l=>.lst (D9 l)
 |c=>c
noncomputable def Lx (d:D):Bool:=match d with
 | .str _=>true
 |_=>false
noncomputable def Yo (l:List D):Bool:=match l with
 | [x,y]=>Lx x&&Lx y
 |_=>false
noncomputable def plD (d:D):Bool:=match d with
 | .str _=>true
 | .int _=>true
 | .fn _=>true
 | .tup l=>Yo l
 |_=>false
noncomputable def plC (c:AI):Bool:=match c with
 | .lst l=>l.all plD
 | .dcti l=>l.all fun p=>plD p.2
 | .dcts l=>l.all fun p=>plD p.2
 | .tab _=>true
 |_=>false
noncomputable def liP (ps:List Nat) (N n:Nat):Nat:=match ps[n]? with
 |some k=>k
 |none=>N+(n - ps.length)
mutual
noncomputable def liD (ps:List Nat) (N:Nat):D→D
 | .tup l=>.tup (Iy ps N l)
 | .loc n=>.loc (liP ps N n)
 | .obj n=>.obj (liP ps N n)
 | .dig n=>.str (AB n)
 | .none=>.none
 | .bool b=>.bool b
 | .int i=>.int i
 | .str s=>.str s
 | .fn n=>.fn n
 | .fl l=>.fl (Iy ps N l)
 | .fk l=>.fk l
noncomputable def Iy (ps:List Nat) (N:Nat):List D→List D
 | []=>[]
 |d::l=>liD ps N d::Iy ps N l
end
noncomputable def liC (ps:List Nat) (N:Nat):AI→AI
 | .lst l=>.lst (Iy ps N l)
 | .dcti l=>.dcti (l.map fun p=>(p.1,liD ps N p.2))
 | .dcts l=>.dcts (l.map fun p=>(p.1,liD ps N p.2))
 | .ins l=>.ins (Iy ps N l)
 | .tab l=>.tab l
noncomputable def liR (ps:List Nat) (N:Nat):Ro→Ro
 | .ok d=>.ok (liD ps N d)
 | .ex c=>.ex c
noncomputable def liA (ps:List Nat) (d:D):Option D:=match d with
 | .loc n=>ps[n]?.map .loc
 |d=>match plD d with
  |true=>some d
  |false=>none
noncomputable def onB (b:Bool) (r:R):R:=match b with
 |true=>r
 |false=>none
noncomputable def Yp {α:Type} (d:D) (f:Nat→Option α):Option α:=match d with
 | .int (.ofNat k)=>f k
 |_=>none
noncomputable def Z9 {α:Type} (d:D) (f:List D→Option α):Option α:=match d with
 | .tup l=>f l
 |_=>none
noncomputable def dgK {α:Type} (d:D) (f:Nat→Option α):Option α:=match d with
 | .dig n=>f n
 |_=>none
noncomputable def Yq {α:Type} (d:D) (f:List Nat→Nat→Option α):Option α:=Z9 d fun l=>as2 l fun a b=>DQ a fun w=>dgK b fun n=>f w n
noncomputable def S1:Spec:=fun d f as σ=>onB (Nat.ble 3 d&&Nat.beq f 19) (as2 as fun a b=>B5 σ a fun _ l=>Yp b fun k=>l[k]?.bind fun t=>Yq t fun w n=>onB (eqL w AZ) (some (.ok (.tup [.int (n:Int),.int ((k+1:Nat):Int)]),σ)))
mutual
noncomputable def nF:D→Bool
 | .fl _=>false
 | .fk _=>false
 | .tup l=>nFs l
 |_=>true
noncomputable def nFs:List D→Bool
 | []=>true
 |d::l=>nF d&&nFs l
end
noncomputable def nFC (c:AI):Bool:=match c with
 | .lst l=>nFs l
 | .dcti l=>nFs (l.map (·.2))
 | .dcts l=>nFs (l.map (·.2))
 | .ins l=>nFs l
 | .tab _=>true
noncomputable def nFR (r:Ro):Bool:=match r with
 | .ok d=>nF d
 | .ex _=>true
noncomputable def inc (n:Nat):List Nat→Prop
 | []=>True
 |a::l=>n≤a∧inc (a+1) l
structure EX (d f:Nat) (qs:List Nat) (as' as:List D) (σ cs:AA) (r:Ro) (σ':AA):Prop where
 deep:20≤d
 two:inc 2 qs
 args:as'.map (liA (0::1::qs))=as.map some
 cells:(0::1::qs).map (fun i=>σ[i]?)=cs.map some
 plain:cs.all plC=true
 run:evF S1 AD CM 20 f as' (cs.map EW)=some (r,cs.map EW++σ')
 nof:(nFR r&&σ'.all nFC)=true
open Classical in
noncomputable def smallR (d f:Nat) (qs:List Nat) (as' as:List D) (σ:AA):R:=
 if h:∃p:AA×Ro×AA,EX d f qs as' as σ p.1 p.2.1 p.2.2 then some (liR (0::1::qs) σ.length h.choose.2.1,σ++h.choose.2.2.map (liC (0::1::qs) σ.length)) else none
noncomputable def lkD (d:D):Nat:=match d with
 | .loc i=>i
 |_=>0
noncomputable def aA (d:D):Bool:=match d with
 | .int i=>decide (i=10000)
 |_=>false
noncomputable def aB (d:D):Bool:=match d with
 | .str l=>Nat.blt 200 l.length
 |_=>false
noncomputable def S0:Spec:=fun d f as σ=>bif Nat.beq f 62 then smallR d 62 [] as as σ else
 bif Nat.beq f 66 then smallR d 66 [lkD (as.getD 0 .none),lkD (as.getD 2 .none)] [.loc 2,as.getD 1 .none,.loc 3,as.getD 3 .none] as σ else
 bif Nat.beq f 35 then onB (aA (as.getD 1 .none)) (smallR d 35 [lkD (as.getD 0 .none)] [.loc 2,as.getD 1 .none,as.getD 2 .none,as.getD 3 .none] as σ) else
 bif Nat.beq f 67 then onB (aB (as.getD 0 .none)) (smallR d 67 [] as as σ) else none
theorem F8{α:Type}:∀{l m:List α},l.map some=m.map some→l=m
 | [],[],_=>rfl
 |a::l,b::m,h=>by
  simp only[an,an]at h;simp only[aq.inj (bI.inj h).1,F8 (bI.inj h).2]
theorem Ej{d f:Nat}{qs:List Nat}{as' as:List D}{σ cs:AA}{r:Ro}{σ':AA}(h:EX d f qs as' as σ cs r σ'):smallR d f qs as' as σ=some (liR (0::1::qs) σ.length r,σ++σ'.map (liC (0::1::qs) σ.length)):=by
 haveI h0:∃p:AA×Ro×AA,EX d f qs as' as σ p.1 p.2.1 p.2.2:=⟨(cs,r,σ'),h⟩;haveI ec:h0.choose.1=cs:=F8 (h0.choose_spec.cells.symm.trans h.cells);haveI e:=h0.choose_spec.run;rw[ec,h.run]at e;haveI e:=aq.inj e;haveI e2:=List.append_cancel_left (congrArg Prod.snd e);refine (dif_pos h0).trans ?_;rw[←e2,←congrArg Prod.fst e]
theorem NS{d f:Nat}{qs:List Nat}{as' as:List D}{σ σ1:AA}{r:Ro}(h:smallR d f qs as' as σ=some (r,σ1)):∃cs r' σ',EX d f qs as' as σ cs r' σ'∧r=liR (0::1::qs) σ.length r'∧σ1=σ++σ'.map (liC (0::1::qs) σ.length):=by
 by_cases h0:∃p:AA×Ro×AA,EX d f qs as' as σ p.1 p.2.1 p.2.2
 ·haveI e:=aq.inj ((dif_pos h0).symm.trans h);exact ⟨_,_,_,h0.choose_spec,(congrArg Prod.fst e).symm,(congrArg Prod.snd e).symm⟩
 ·cases (dif_neg h0).symm.trans h
@[irreducible] noncomputable def CC (d:Nat):Call:=evF S0 AD CM d
theorem F9(d f:Nat)(as:List D)(σ:AA):CC (d+2) (1000+f) as σ=CC d f as σ:=by
 unfold CC;haveI e:Nat.ble 1000 (1000+f)=true:=Nat.ble_eq_true_of_le (bR _ _);rw[LI];delta Hh;simp only[e]
 skip
 rw[cA]
theorem Kg{d f:Nat}{as:List D}{σ:AA}{r:Ro×AA}(hf:Nat.ble 1000 f=false)(h:S0 (d+1) f as σ=some r):CC (d+2) f as σ=some r:=by
 unfold CC;rw[LI];delta Hh;simp only[hf,h]
theorem Kh{S:Spec}{d f:Nat}{as:List D}{σ:AA}{np nl:Nat}{body:List St}(hf:Nat.ble 1000 f=false)(h:S (d+1) f as σ=none)(hb:CM f=some ⟨np,nl,body⟩)(hl:as.length=np):evF S AD CM (d+2) f as σ=match exs (evF S AD CM (d+1)) AD 60 body (as.map some++bO (nl - np) none) σ with
  |some (.ret r,_,σ)=>some (.ok r,σ)
  |some (.nxt,_,σ)=>some (.ok .none,σ)
  |some (.ex c,_,σ)=>some (.ex c,σ)
  |_=>none:=by
 rw[LI];delta Hh;simp only[hf,h,hb];exact if_pos hl
theorem SA{d f:Nat}{as:List D}{σ:AA}{np nl:Nat}{body:List St}(hf:Nat.ble 1000 f=false)(h:S0 (d+1) f as σ=none)(hb:CM f=some ⟨np,nl,body⟩)(hl:as.length=np):CC (d+2) f as σ=match exs (CC (d+1)) AD 60 body (as.map some++bO (nl - np) none) σ with
  |some (.ret r,_,σ)=>some (.ok r,σ)
  |some (.nxt,_,σ)=>some (.ok .none,σ)
  |some (.ex c,_,σ)=>some (.ex c,σ)
  |_=>none:=by
 unfold CC;exact Kh hf h hb hl
noncomputable def kN:Loc→AA→SR:=fun ρ σ=>some (.nxt,ρ,σ)
noncomputable def exk (call:Call) (n:Nat) (b:List St) (K:Loc→AA→SR) (ρ:Loc) (σ:AA):SR:=seq (exs call AD n b ρ σ) K
noncomputable def sel {α:Type} (t:Bool) (a b:α):α:=match t with
 |true=>a
 |false=>b
theorem Oe(P:SR→Prop)(h0:P none)(h1:∀ρ σ,P (some (.nxt,ρ,σ)))(h2:∀ρ σ,P (some (.brk,ρ,σ)))(h3:∀d ρ σ,P (some (.ret d,ρ,σ)))(h4:∀c ρ σ,P (some (.ex c,ρ,σ))):∀x,P x
 |none=>h0
 |some (.nxt,ρ,σ)=>h1 ρ σ
 |some (.brk,ρ,σ)=>h2 ρ σ
 |some (.ret d,ρ,σ)=>h3 d ρ σ
 |some (.ex c,ρ,σ)=>h4 c ρ σ
theorem XC(x:SR):seq x kN=x:=Oe (fun x=>seq x kN=x) rfl (fun _ _=>rfl) (fun _ _=>rfl) (fun _ _ _=>rfl) (fun _ _ _=>rfl) x
theorem Uh(x:SR)(f K:Loc→AA→SR):seq (seq x f) K=seq x fun ρ σ=>seq (f ρ σ) K:=Oe (fun x=>seq (seq x f) K=seq x fun ρ σ=>seq (f ρ σ) K) rfl (fun _ _=>rfl) (fun _ _=>rfl) (fun _ _ _=>rfl) (fun _ _ _=>rfl) x
section
variable{call:Call}{n:Nat}{ρ ρ':Loc}{σ σ1 σ2 σ':AA}{rest b:List St}{K:Loc→AA→SR}{o:SR}{d d' x y v:D}{e:E}
theorem Bn{x r:R}{f:D→AA→R}(h:x=some (.ok d,σ1))(k:f d σ1=r):bnd x f=r:=(congrArg (bnd · f) h).trans k
theorem Bf{x:R}{f:D→AA→SR}(h:x=some (.ok d,σ1))(k:f d σ1=o):sbnd x ρ f=o:=(congrArg (sbnd · ρ f) h).trans k
theorem x_k(h:exk call n b kN ρ σ=o):exs call AD n b ρ σ=o:=(XC _).symm.trans h
theorem As(h:K ρ σ=o):exk call (n+1) [] K ρ σ=o:=h
theorem QA{y:SR}{f:Loc→AA→SR}(h:y=some (.nxt,ρ',σ1))(k:seq (f ρ' σ1) K=o):seq (seq y f) K=o:=by
 subst h;exact k
theorem Of{y:SR}{f:Loc→AA→SR}{s:So}(h:y=some (s,ρ',σ1))(hs:seq (seq (some (s,ρ',σ1)) f) K=o):seq (seq y f) K=o:=by
 subst h;exact hs
theorem AO{i:Nat}(h:ev call AD n e ρ σ=some (.ok d,σ1))(k:exk call n rest K (AW ρ i (some d)) σ1=o):exk call (n+1) (.asg i e::rest) K ρ σ=o:=QA (Bf h rfl) k
theorem BC{is:List Nat}(h:ev call AD n e ρ σ=some (.ok d,σ1))(u:unl σ1 d=d')(hb:Av true is d' ρ=some ρ')(k:exk call n rest K ρ' σ1=o):exk call (n+1) (.asgT is e::rest) K ρ σ=o:=QA (Bf h (by simp only[u,hb])) k
theorem FU{eo ei:E}(h:ev call AD n e ρ σ=some (.ok v,σ1))(h2:ev call AD n eo ρ σ1=some (.ok x,σ2)){σ3 σ4:AA}(h3:ev call AD n ei ρ σ2=some (.ok y,σ3))(hs:setItem σ3 x y v=some σ4)(k:exk call n rest K ρ σ4=o):exk call (n+1) (.asgI eo ei e::rest) K ρ σ=o:=QA (Bf h (Bf h2 (Bf h3 (by rw[hs])))) k
theorem AU{t:Bool}{b1 b2:List St}(h:ev call AD n e ρ σ=some (.ok (.bool t),σ1))(k:exk call n (sel t b1 b2) (fun ρ σ=>exk call n rest K ρ σ) ρ σ1=o):exk call (n+1) (.ite e b1 b2::rest) K ρ σ=o:=by
 refine (congrArg (seq · K) (congrArg (seq · (exs call AD n rest)) (Bf (o:=exs call AD n (sel t b1 b2) ρ σ1) h ?_))).trans ((Uh _ _ _).trans k)
 cases t<;>rfl
theorem Ly(h:whl (ev call AD n e) (exs call AD n b) 400 ρ σ=some (.nxt,ρ',σ1))(k:exk call n rest K ρ' σ1=o):exk call (n+1) (.whl e b::rest) K ρ σ=o:=QA h k
theorem SD(h:whl (ev call AD n e) (exs call AD n b) 400 ρ σ=some (.ret d,ρ',σ1))(k:some (.ret d,ρ',σ1)=o):exk call (n+1) (.whl e b::rest) K ρ σ=o:=Of h k
theorem Gg{test:Loc→AA→R}{body:Loc→AA→SR}{f:Nat}{ρ2:Loc}(ht:test ρ σ=some (.ok (.bool true),σ1))(hb:body ρ σ1=some (.nxt,ρ2,σ2)):whl test body (f+1) ρ σ=whl test body f ρ2 σ2:=Bf ht (by simp only[hb])
theorem Ui{test:Loc→AA→R}{body:Loc→AA→SR}{f:Nat}{ρ2:Loc}(ht:test ρ σ=some (.ok (.bool true),σ1))(hb:body ρ σ1=some (.ret d,ρ2,σ2)):whl test body (f+1) ρ σ=some (.ret d,ρ2,σ2):=Bf ht (by simp only[hb])
theorem Lz{test:Loc→AA→R}{body:Loc→AA→SR}{f:Nat}(ht:test ρ σ=some (.ok (.bool false),σ1)):whl test body (f+1) ρ σ=some (.nxt,ρ,σ1):=Bf ht rfl
theorem DX{kd:Nat}{tg:List Nat}{tp:Bool}(h:ev call AD n e ρ σ=some (.ok d,σ1))(hf:CQ kd d tp tg (exs call AD n b) 400 0 ρ σ1=some (.nxt,ρ',σ2))(k:exk call n rest K ρ' σ2=o):exk call (n+1) (.for kd tg tp e b::rest) K ρ σ=o:=QA (Bf h hf) k
theorem XD{kd:Nat}{tg:List Nat}{tp:Bool}{c:List Nat}(h:ev call AD n e ρ σ=some (.ok d,σ1))(hf:CQ kd d tp tg (exs call AD n b) 400 0 ρ σ1=some (.ex c,ρ',σ2))(k:some (.ex c,ρ',σ2)=o):exk call (n+1) (.for kd tg tp e b::rest) K ρ σ=o:=Of (Bf h hf) k
theorem BQ(h:ev call AD n e ρ σ=some (.ok d,σ1))(k:some (.ret d,ρ,σ1)=o):exk call (n+1) (.ret e::rest) K ρ σ=o:=Of (Bf h rfl) k
theorem GB(h:ev call AD n e ρ σ=some (.ok d,σ1))(k:exk call n rest K ρ σ1=o):exk call (n+1) (.exp e::rest) K ρ σ=o:=QA (Bf h rfl) k
theorem XE{i:Nat}{c:List Nat}(h:ev call AD n e ρ σ=some (.ex c,σ1))(k:some (.ex c,ρ,σ1)=o):exk call (n+1) (.asg i e::rest) K ρ σ=o:=Of (congrArg (sbnd · ρ fun d σ=>some (.nxt,AW ρ i (some d),σ)) h) k
theorem GC{i:Nat}(h:ρ[i]? =some (some d)):ev call AD (n+1) (.loc i) ρ σ=some (.ok d,σ):=by
 show (match ρ[i]? with|some (some d)=>Ab d σ|_=>none)=_
 refine h▸ ?_;rfl
theorem BE{op:Bin}{a c:E}{r:R}(ha:ev call AD n a ρ σ=some (.ok x,σ1))(hc:ev call AD n c ρ σ1=some (.ok y,σ2))(h:Bw σ2 op x y=r):ev call AD (n+1) (.bin op a c) ρ σ=r:=Bn ha (Bn hc h)
theorem AK{op:Cmp}{a c:E}{t:Bool}(ha:ev call AD n a ρ σ=some (.ok x,σ1))(hc:ev call AD n c ρ σ1=some (.ok y,σ2))(h:BA σ2 op x y=some t):ev call AD (n+1) (.cmp a [op] [c]) ρ σ=some (.ok (.bool t),σ2):=Bn ha (Bn hc (by refine h▸ ?_;rfl))
theorem NT{o1 o2:Cmp}{a c c2:E}{t u:Bool}{z:D}(ha:ev call AD n a ρ σ=some (.ok x,σ))(hc:ev call AD n c ρ σ=some (.ok y,σ))(h:BA σ o1 x y=some t)(hc2:ev call AD n c2 ρ σ=some (.ok z,σ))(h2:BA σ o2 y z=some u):ev call AD (n+1) (.cmp a [o1,o2] [c,c2]) ρ σ=some (.ok (.bool (t&&u)),σ):=by
 refine Bn ha (Bn hc ?_);refine h▸ ?_;cases t
 ·rfl
 ·exact Bn hc2 (by refine h2▸ ?_;rfl)
theorem Ao{a c:E}(ha:ev call AD n a ρ σ=some (.ok x,σ1))(hc:ev call AD n c ρ σ1=some (.ok y,σ2))(h:EB σ2 x y=some v):ev call AD (n+1) (.idx a c) ρ σ=some (.ok v,σ2):=Bn ha (Bn hc (by refine h▸ ?_;rfl))
theorem XF{a hi:E}{r:R}(ha:ev call AD n a ρ σ=some (.ok x,σ1))(hl:ev call AD n hi ρ σ1=some (.ok y,σ2))(h:D0 σ2 x .none y=r):ev call AD (n+1) (.slc a none (some hi)) ρ σ=r:=Bn ha (Bn (x:=Ab .none σ1) rfl (Bn hl h))
theorem Og{t u:Bool}(h:ev call AD n e ρ σ=some (.ok (.bool t),σ1))(k:(!t)=u):ev call AD (n+1) (.not e) ρ σ=some (.ok (.bool u),σ1):=Bn h (congrArg (fun z=>some (Ro.ok (D.bool z),σ1)) k)
theorem CO{t:Bool}{a c:E}{r:R}(h:ev call AD n e ρ σ=some (.ok (.bool t),σ1))(k:ev call AD n (sel t a c) ρ σ1=r):ev call AD (n+1) (.ite e a c) ρ σ=r:=by
 refine Bn h ?_;cases t<;>exact k
theorem Bh{es:List E}{r:R}(h:DR (fun e σ=>ev call AD n e ρ σ) es σ=r):ev call AD (n+1) (.and es) ρ σ=r:=h
theorem C9{es:List E}{r:R}(h:FH (fun e σ=>ev call AD n e ρ σ) es σ=r):ev call AD (n+1) (.or es) ρ σ=r:=h
theorem Ax{f:Nat}{es:List E}{r:R}(h:evLb (fun e σ=>ev call AD n e ρ σ) es σ (fun ds σ=>call f ds σ)=r):ev call AD (n+1) (.call f es) ρ σ=r:=h
theorem HP{f:BI}{es:List E}{r:R}(h:evLb (fun e σ=>ev call AD n e ρ σ) es σ (fun ds σ=>Dg σ f ds)=r):ev call AD (n+1) (.bi f es) ρ σ=r:=h
theorem Bi{es:List E}{r:R}(h:evLb (fun e σ=>ev call AD n e ρ σ) es σ (fun ds σ=>Ab (.tup ds) σ)=r):ev call AD (n+1) (.tup es) ρ σ=r:=h
theorem L0{es:List E}{r:R}(h:evLb (fun e σ=>ev call AD n e ρ σ) es σ (fun ds σ=>alloc σ (.lst ds))=r):ev call AD (n+1) (.lst es) ρ σ=r:=h
theorem B8{m:ME}{es:List E}{r:R}(ha:ev call AD n e ρ σ=some (.ok x,σ1))(hm:LH σ1 m x=true)(h:evLb (fun e σ=>ev call AD n e ρ σ) es σ1 (fun ds σ=>BN σ m x ds)=r):ev call AD (n+1) (.meth m e es) ρ σ=r:=by
 refine Bn ha ?_;refine hm▸ ?_;exact h
end
section
variable{ev:E→AA→R}{σ σ1 σ':AA}{d:D}{e e':E}{es:List E}{r:R}
theorem C5{t:Bool}(h:ev e σ=some (.ok (.bool t),σ1)):DR ev [e] σ=some (.ok (.bool t),σ1):=Bn h rfl
theorem a_F(h:ev e σ=some (.ok (.bool false),σ1)):DR ev (e::e'::es) σ=some (.ok (.bool false),σ1):=Bn h rfl
theorem a_T(h:ev e σ=some (.ok (.bool true),σ1))(k:DR ev (e'::es) σ1=r):DR ev (e::e'::es) σ=r:=Bn h k
theorem G3{t u:Bool}(h:ev e σ=some (.ok (.bool t),σ))(k:DR ev (e'::es) σ=some (.ok (.bool u),σ)):DR ev (e::e'::es) σ=some (.ok (.bool (t&&u)),σ):=by
 cases t
 ·exact a_F h
 ·exact a_T h k
theorem CR{t:Bool}(h:ev e σ=some (.ok (.bool t),σ1)):FH ev [e] σ=some (.ok (.bool t),σ1):=Bn h rfl
theorem o_T(h:ev e σ=some (.ok (.bool true),σ1)):FH ev (e::e'::es) σ=some (.ok (.bool true),σ1):=Bn h rfl
theorem o_F(h:ev e σ=some (.ok (.bool false),σ1))(k:FH ev (e'::es) σ1=r):FH ev (e::e'::es) σ=r:=Bn h k
theorem FE{t u:Bool}(h:ev e σ=some (.ok (.bool t),σ))(k:FH ev (e'::es) σ=some (.ok (.bool u),σ)):FH ev (e::e'::es) σ=some (.ok (.bool (t||u)),σ):=by
 cases t
 ·exact o_F h k
 ·exact o_T h
theorem Yr{f:List D→AA→R}(h:f [] σ=r):evLb ev [] σ f=r:=h
theorem AJ{f:List D→AA→R}(h:ev e σ=some (.ok d,σ1))(k:evLb ev es σ1 (fun ds σ=>f (d::ds) σ)=r):evLb ev (e::es) σ f=r:=Bn h k
end
section
variable{d f:Nat}{as:List D}{σ σ':AA}{r:D}{ρ':Loc}{c:List Nat}
theorem AX(np nl:Nat)(body:List St)(hb:CM f=some ⟨np,nl,body⟩)(hl:as.length=np)(hf:Nat.ble 1000 f=false)(hS:S0 (d+1) f as σ=none)(h:exk (CC (d+1)) 60 body kN (as.map some++bO (nl - np) none) σ=some (.ret r,ρ',σ')):CC (d+2) f as σ=some (.ok r,σ'):=by
 simp only[SA hf hS hb hl,x_k h]
theorem SE(np nl:Nat)(body:List St)(hb:CM f=some ⟨np,nl,body⟩)(hl:as.length=np)(hf:Nat.ble 1000 f=false)(hS:S0 (d+1) f as σ=none)(h:exk (CC (d+1)) 60 body kN (as.map some++bO (nl - np) none) σ=some (.ex c,ρ',σ')):CC (d+2) f as σ=some (.ex c,σ'):=by
 simp only[SA hf hS hb hl,x_k h]
end
section
variable{σ:AA}{t:Bool}
theorem BK{a b:List Nat}(h:eqL a b=t):BA σ .eq (.str a) (.str b)=some t:=congrArg some h
theorem Oh{a b:List Nat}(h:(!eqL a b)=t):BA σ .ne (.str a) (.str b)=some t:=congrArg some h
theorem Do{a b:Int}(h:decide (a<b)=t):BA σ .lt (.int a) (.int b)=some t:=congrArg some h
theorem Uj{a b:Int}(h:decide (a≤b)=t):BA σ .le (.int a) (.int b)=some t:=congrArg some h
theorem EA{a b:Int}(h:decide (a>b)=t):BA σ .gt (.int a) (.int b)=some t:=congrArg some h
theorem XG{a b:Int}(h:decide (a≥b)=t):BA σ .ge (.int a) (.int b)=some t:=congrArg some h
theorem II{a b:Int}(h:decide (a=b)=t):BA σ .eq (.int a) (.int b)=some t:=congrArg some h
theorem Ys{a b:Int}(h:(!decide (a=b))=t):BA σ .ne (.int a) (.int b)=some t:=congrArg some h
theorem Jj{c:Nat}{l:List Nat}(h:(l.any fun x=>Nat.beq x c)=t):BA σ .isIn (.str [c]) (.str l)=some t:=congrArg some h
end
end Mine
end
section
namespace Mine
theorem Yt(a b:Nat):Nat.beq a b=decide (a=b):=by
 rw[ci,Nat.beq_eq];simp
theorem NU:∀(l m:List Nat),eqL l m=true↔l=m
 | [],[]=>by simp[eqL]
 | [],b::m=>by simp[eqL]
 |a::l,[]=>by simp[eqL]
 |a::l,b::m=>by simp[eqL,Yt,NU l m]
theorem GD(l:List Nat):eqL l l=true:=(NU l l).mpr rfl
theorem Ek{n i:Nat}(h:i<1000000000):Dz n (.int (i:Int))=some i:=if_pos (be.mpr h)
theorem Oi{σ:AA}{l:List Nat}{i j:Nat}(hi:i<1000000000)(hj:j<1000000000):D0 σ (.str l) (.int (i:Int)) (.int (j:Int))=some (.ok (.str (cut l i j)),σ):=by
 unfold D0;rw[Ek hi]
 show (Dz l.length (.int (j:Int))).bind _=_
 rw[Ek hj];rfl
structure Suf (l:List Nat) (i:Nat) (s:List Nat):Prop where
 le:i+s.length=l.length
 eq:l.drop i=s
 few:l.length<400
noncomputable def hd1 (r:List Nat):List Nat:=match r with
 | []=>[]
 |c::_=>[c]
section
variable{l:List Nat}{i:Nat}{s r:List Nat}{c:Nat}{σ:AA}
theorem Suf.le'(h:Suf l i s):i≤l.length:=h.le▸bR _ _
theorem Suf.sm(h:Suf l i s):i<400:=am h.le' h.few
theorem Suf.sml(h:Suf l i s):s.length<400:=am (ag (bU _ i) (cI h.le)) h.few
theorem Suf.big(h:Suf l i s):i<1000000000:=ai h.sm (by decide)
theorem Suf.skip(h:Suf l i (s++r)):Suf l (i+s.length) r:=⟨by rw[b8,←ae];exact h.le,by rw[←List.drop_drop,h.eq,List.drop_left],h.few⟩
theorem Suf.next(h:Suf l i (c::r)):Suf l (i+1) r:=Suf.skip (s:=[c]) h
theorem Suf.all(h:l.length<400):Suf l 0 l:=⟨bc _,rfl,h⟩
theorem Suf.get(h:Suf l i (c::r)):l[i]? =some c:=(b9 (xs:=l) (i:=i) (j:=0)).symm.trans (congrArg (·[0]?) h.eq)
theorem Suf.lt(h:Suf l i (c::r)):i<l.length:=h.le▸dC (cG _)
theorem Suf.ltT(h:Suf l i (c::r)):decide ((i:Int)<(l.length:Int))=true:=decide_eq_true (av.mpr h.lt)
theorem Suf.ltF(h:Suf l i []):decide ((i:Int)<(l.length:Int))=false:=decide_eq_false fun q=>cP i (Nat.lt_of_lt_of_eq (av.mp q) h.le.symm)
theorem Suf.idx(h:Suf l i (c::r)):EB σ (.str l) (.int (i:Int))=some (.str [c]):=by
 show (if (0:Int)≤(i:Int) then (l[(i:Int).toNat]?).map fun c=>D.str [c] else none)=_
 rw[if_pos (bx i)];exact congrArg (br fun c=>D.str [c]) h.get
theorem Suf.cut(h:Suf l i (s++r)):D0 σ (.str l) (.int (i:Int)) (.int ((i+s.length:Nat):Int))=some (.ok (.str s),σ):=by
 rw[Oi h.big h.skip.big,Mine.cut,List.drop_take,h.eq,cA,List.take_left]
theorem Suf.one(h:Suf l i s):D0 σ (.str l) (.int (i:Int)) (.int ((i:Int)+1))=some (.ok (.str (hd1 s)),σ):=by
 refine (Oi h.big (ai (Nat.succ_lt_succ h.sm) (by decide))).trans ?_
 show some (Ro.ok (D.str (Mine.cut l i (i+1))),σ)=_
 rw[Mine.cut,List.drop_take,h.eq,cA];cases s<;>rfl
theorem Suf.rest(h:Suf l i s):D0 σ (.str l) (.int (i:Int)) .none=some (.ok (.str s),σ):=by
 unfold D0;rw[Ek h.big]
 show some (Ro.ok (D.str (Mine.cut l i l.length)),σ)=_
 rw[Mine.cut,List.take_length,h.eq]
end
noncomputable def atP (P:Nat→Bool):List Nat→Bool
 | []=>false
 |c::_=>P c
noncomputable def Yu:E:=.cmp (.loc 1) [.lt] [(.bi .len [(.loc 0)])]
theorem Yv{call:Call}{n:Nat}{T:E}{l r:List Nat}{σ:AA}(P:Nat→Bool)(hT:∀(j:Nat) c t,Suf l j (c::t)→ev call AD (n+3) T [some (.str l),some (.int (j:Int))] σ=some (.ok (.bool (P c)),σ))(hr:atP P r=false):
  ∀(s:List Nat) (f i:Nat),Suf l i (s++r)→s.length<f→s.all P=true→whl (ev call AD (n+4) (.and [Yu,T])) (exs call AD (n+4) [.aug 1 .add (.cst (.int 1))]) f [some (.str l),some (.int (i:Int))] σ=some (.nxt,[some (.str l),some (.int ((i+s.length:Nat):Int))],σ):=by
 intro s
 induction s with
 |nil=>
  intro f i h hf _;cases f with
  |zero=>contradiction
  |succ f=>
   cases r with
   |nil=>exact Bf (Bh (a_F (AK rfl rfl (Do h.ltF)))) rfl
   |cons c r=>exact Bf (Bh (a_T (AK rfl rfl (Do h.ltT)) (C5 (hT i c r h)))) (by rw[show P c=false from hr];rfl)
 |cons c s ih=>
  intro f i h hf hs;rw[bQ,aw]at hs;cases f with
  |zero=>contradiction
  |succ f=>
   refine (Bf (Bh (a_T (AK rfl rfl (Do h.ltT)) (C5 (hT i c _ h)))) (by rw[hs.1];rfl)).trans ((ih f (i+1) h.next (cY hf) hs.2).trans ?_)
   rw[bF,cu,b8]
theorem GE{d f:Nat}{T:E}{l s r:List Nat}{i:Nat}{σ:AA}(P:Nat→Bool)(hb:CM f=some ⟨2,2,[.whl (.and [Yu,T]) [.aug 1 .add (.cst (.int 1))],.ret (.loc 1)]⟩)(hf:Nat.ble 1000 f=false)(hS:S0 (d+1) f [.str l,.int (i:Int)] σ=none)
  (hT:∀(j:Nat) c t,Suf l j (c::t)→ev (CC (d+1)) AD 58 T [some (.str l),some (.int (j:Int))] σ=some (.ok (.bool (P c)),σ)) (h:Suf l i (s++r)) (hs:s.all P=true) (hr:atP P r=false):CC (d+2) f [.str l,.int (i:Int)] σ=some (.ok (.int ((i+s.length:Nat):Int)),σ):=
 AX 2 2 _ hb rfl hf hS (Ly (Yv (n:=55) P hT hr s 400 i h (am (by rw[ae];exact bR _ _) h.sml) hs) (BQ rfl rfl))
noncomputable def Ah (c:Nat):Bool:=Nat.ble 48 c&&Nat.ble c 57
noncomputable def G9 (c:Nat):Bool:=Nat.ble 97 c&&Nat.ble c 122
noncomputable def Iz (c:Nat):Bool:=Nat.ble 65 c&&Nat.ble c 90
noncomputable def L1 (c:Nat):Bool:=Iz c||G9 c
theorem SG(c:Nat):([48,49,50,51,52,53,54,55,56,57]:List Nat).any (fun x=>Nat.beq x c)=Ah c:=by
 by_cases h:c<58
 ·haveI k:∀c,c<58→([48,49,50,51,52,53,54,55,56,57]:List Nat).any (fun x=>Nat.beq x c)=Ah c:=by decide+kernel
  exact k c h
 ·rw[←Nat.sub_add_cancel (Nat.le_of_not_lt h)];generalize c - 58=k;rfl
theorem Yw{σ:AA}{a b:Nat}:BA σ .le (.str [a]) (.str [b])=some (Nat.ble a b):=by
 haveI e:(Nat.blt b a||(Nat.beq b a&&false))=Nat.blt b a:=by rw[Bool.and_false,Bool.or_false]
 refine congrArg some ((congrArg not e).trans ?_);rw[ci,bh,cV,←Bool.not_eq_true,be,bH]
theorem IJ{call:Call}{n a b c i:Nat}{ρ:Loc}{σ:AA}(h:ρ[i]? =some (some (.str [c]))):ev call AD (n+2) (.cmp (.cst (.str [a])) [.le,.le] [.loc i,.cst (.str [b])]) ρ σ=some (.ok (.bool (Nat.ble a c&&Nat.ble c b)),σ):=NT rfl (GC h) Yw rfl Yw
section
variable(d:Nat){l s r b:List Nat}{i:Nat}(σ:AA)
theorem Cq(c:Nat):CC (d+2) 4 [.str [c]] σ=some (.ok (.bool (Ah c)),σ):=AX 1 1 Fq rfl rfl rfl rfl (BQ (IJ rfl) rfl)
theorem El(c:Nat):CC (d+2) 3 [.str [c]] σ=some (.ok (.bool (L1 c)),σ):=AX 1 1 Fp rfl rfl rfl rfl (BQ (C9 (FE (IJ rfl) (CR (IJ rfl)))) rfl)
theorem C6(h:Suf l i (s++r))(hs:s.all Ah=true)(hr:atP Ah r=false):CC (d+2) 6 [.str l,.int (i:Int)] σ=some (.ok (.int ((i+s.length:Nat):Int)),σ):=
 GE Ah rfl rfl rfl (fun j c t hj=>AK (Ao rfl rfl hj.idx) rfl (Jj (SG c))) h hs hr
theorem L2(h:Suf l i (s++r))(hs:s.all Ah=true)(hr:atP Ah r=false):CC (d+3) 7 [.str l,.int (i:Int)] σ=some (.ok (.int ((i+s.length:Nat):Int)),σ):=
 GE Ah rfl rfl rfl (fun j c t hj=>Ax (AJ (Ao rfl rfl hj.idx) (Cq d σ c))) h hs hr
noncomputable def Ki (c:Nat):Bool:=([32,9]:List Nat).any fun x=>Nat.beq x c
theorem IK(h:Suf l i (s++r))(hs:s.all Ki=true)(hr:atP Ki r=false):CC (d+2) 8 [.str l,.int (i:Int)] σ=some (.ok (.int ((i+s.length:Nat):Int)),σ):=
 GE Ki rfl rfl rfl (fun j c t hj=>AK (Ao rfl rfl hj.idx) rfl (Jj rfl)) h hs hr
noncomputable def Eu (c:Nat):Bool:=eqL [c] [32]
theorem CT(h:Suf l i (s++r))(hs:s.all Eu=true)(hr:atP Eu r=false):CC (d+2) 17 [.str l,.int (i:Int)] σ=some (.ok (.int ((i+s.length:Nat):Int)),σ):=
 GE Eu rfl rfl rfl (fun j c t hj=>AK (Ao rfl rfl hj.idx) rfl (BK rfl)) h hs hr
noncomputable def Gh (c:Nat):Bool:=Iz c||(G9 c||(Ah c||([46,36,37,33]:List Nat).any fun x=>Nat.beq x c))
theorem Cb(c:Nat):CC (d+2) 25 [.str [c]] σ=some (.ok (.bool (Gh c)),σ):=
 AX 1 1 D3 rfl rfl rfl rfl (BQ (C9 (FE (IJ rfl) (FE (IJ rfl) (FE (AK rfl rfl (Jj (SG c))) (CR (AK rfl rfl (Jj rfl))))))) rfl)
theorem HA(h:Suf l i (s++r))(hs:s.all Gh=true)(hr:atP Gh r=false):CC (d+3) 26 [.str l,.int (i:Int)] σ=some (.ok (.int ((i+s.length:Nat):Int)),σ):=
 GE Gh rfl rfl rfl (fun j c t hj=>Ax (AJ (Ao rfl rfl hj.idx) (Cb d σ c))) h hs hr
end
section
variable{α:Type}{kind:Nat}{src:D}{tup:Bool}{tgt:List Nat}{items:List α}{itemD:α→D}
theorem GG{i:Nat}{a:α}{s:List α}(h:items.drop i=a::s):items[i]? =some a∧items.drop (i+1)=s:=
 ⟨(b9 (xs:=items) (i:=i) (j:=0)).symm.trans (congrArg (·[0]?) h),by rw[←List.drop_drop,h];rfl⟩
theorem drop_nil{i:Nat}(h:items.drop i=[]):items[i]? =none:=(b9 (xs:=items) (i:=i) (j:=0)).symm.trans (congrArg (·[0]?) h)
theorem NV{σ:AA}{i:Nat}(h:Aa kind src σ i=some (items[i]?.map itemD))(hd:items.drop i=[]):Aa kind src σ i=some none:=h.trans (congrArg (fun o=>some (br itemD o)) (drop_nil hd))
theorem GH{σ:AA}{i:Nat}{a:α}{s:List α}(h:Aa kind src σ i=some (items[i]?.map itemD))(hd:items.drop i=a::s):Aa kind src σ i=some (some (itemD a)):=h.trans (congrArg (fun o=>some (br itemD o)) (GG hd).1)
theorem Jk{body:Loc→AA→SR}{f i:Nat}{ρ:Loc}{σ:AA}(h:Aa kind src σ i=some none):CQ kind src tup tgt body (f+1) i ρ σ=some (.nxt,ρ,σ):=by simp only[CQ,h]
theorem Kj{body:Loc→AA→SR}{f i:Nat}{ρ ρ1 ρ2:Loc}{σ σ2:AA}{d:D}(h1:Aa kind src σ i=some (some d))(h2:Av tup tgt d ρ=some ρ1)(h3:body ρ1 σ=some (.nxt,ρ2,σ2)):CQ kind src tup tgt body (f+1) i ρ σ=CQ kind src tup tgt body f (i+1) ρ2 σ2:=by
 rw[CQ,h1];dsimp only;rw[h2];dsimp only;rw[h3]
theorem SH{body:Loc→AA→SR}{f i:Nat}{ρ ρ1 ρ2:Loc}{σ σ2:AA}{d:D}{c:List Nat}(h1:Aa kind src σ i=some (some d))(h2:Av tup tgt d ρ=some ρ1)(h3:body ρ1 σ=some (.ex c,ρ2,σ2)):CQ kind src tup tgt body (f+1) i ρ σ=some (.ex c,ρ2,σ2):=by
 rw[CQ,h1];dsimp only;rw[h2];dsimp only;rw[h3]
theorem By{body:Loc→AA→SR}(Inv:List α→Loc→AA→Prop)(hat:∀s ρ σ,Inv s ρ σ→∀i,Aa kind src σ i=some (items[i]?.map itemD))
  (hstep:∀a s ρ σ,Inv (a::s) ρ σ→Ex3 fun ρ1 ρ2 σ2=>A3 (Av tup tgt (itemD a) ρ=some ρ1) (body ρ1 σ=some (.nxt,ρ2,σ2)) (Inv s ρ2 σ2)):
  ∀(s:List α) (f i:Nat) (ρ:Loc) (σ:AA),items.drop i=s→s.length<f→Inv s ρ σ→Ex2 fun ρ' σ'=> CQ kind src tup tgt body f i ρ σ=some (.nxt,ρ',σ')∧Inv [] ρ' σ':=by
 intro s
 induction s with
 |nil=>
  intro f i ρ σ hd hf I;cases f with
  |zero=>contradiction
  |succ f=>exact ⟨ρ,σ,Jk (NV (hat _ _ _ I i) hd),I⟩
 |cons a s ih=>
  intro f i ρ σ hd hf I;cases f with
  |zero=>contradiction
  |succ f=>
   obtain ⟨ρ1,ρ2,σ2,h1,h2,h3⟩:=hstep a s ρ σ I;obtain ⟨ρ',σ',e,I'⟩:=ih f (i+1) ρ2 σ2 (GG hd).2 (cY hf) h3;exact ⟨ρ',σ',(Kj (GH (hat _ _ _ I i) hd) h1 h2).trans e,I'⟩
theorem BV{β:Type}(c c':β)(g:List β):∀σ:List β,AW (σ++c::g) σ.length c'=σ++c'::g
 | []=>rfl
 |a::σ=>congrArg (a:: ·) (BV c c' g σ)
theorem AM{β:Type}(c:β)(g:List β):∀σ:List β,(σ++c::g)[σ.length]? =some c
 | []=>rfl
 |_::σ=>AM c g σ
theorem XH{EV:E→Loc→AA→R}{elt:E}{ifs:List E}{τ:AA}(P:α→Bool)(g:α→D)(mk:α→Loc)
  (hat:∀c i,Aa kind src (τ++c) i=some (items[i]?.map itemD)) (hb:∀a b,Av tup tgt (itemD a) (mk b)=some (mk a))
  (ht:∀a∈items,∀c,Bg (fun e σ=>EV e (mk a) σ) ifs (τ++[c])=some (.ok (P a),τ++[c])) (he:∀a∈items,P a=true→∀c,EV elt (mk a) (τ++[c])=some (.ok (g a),τ++[c])):
  ∀(s:List α) (f i:Nat) (ρ:Loc) (acc:List D),items.drop i=s→s.length<f→acc.length+s.length<900→(∀a,Av tup tgt (itemD a) ρ=some (mk a))→B6 EV elt tgt tup kind src ifs τ.length f i ρ (τ++[.lst acc])=some (τ++[.lst (acc++(s.filter P).map g)]):=by
 intro s
 induction s with
 |nil=>
  intro f i ρ acc hd hf _ _;cases f with
  |zero=>contradiction
  |succ f=>
   simp only[Hg,NV (hat _ i) hd,List.filter_nil,List.map_nil,af]
 |cons a s ih=>
  intro f i ρ acc hd hf hl hρ;cases f with
  |zero=>contradiction
  |succ f=>
   haveI hm:a∈items:=bB (GG hd).1;haveI z:=fun acc hl=>ih f (i+1) (mk a) acc (GG hd).2 (cY hf) hl fun b=>hb b a;rw[Hg,GH (hat _ i) hd];dsimp only;rw[hρ a];dsimp only;rw[ht a hm,cZ];cases q:P a with
   |false=>exact z acc (am (bW (Nat.le_succ _) _) hl)
   |true=>
    dsimp only;rw[he a hm q];dsimp only;rw[AM];dsimp only;rw[if_pos (am (bR _ _) (ai hl (by decide))),BV,z _ (by rw[ae,b8,Nat.add_comm [g a].length];exact hl),if_pos rfl,an,aZ]
    rfl
theorem Dp{call:Call}{n:Nat}{elt it:E}{ifs:List E}{en:Bool}{ρ:Loc}{σ τ:AA}(P:α→Bool)(g:α→D)(mk:α→Loc)(hi:ev call AD n it ρ σ=some (.ok src,τ))
  (hat:∀c i,Aa (if en then 2 else 0) src (τ++c) i=some (items[i]?.map itemD)) (hl:items.length<400) (hρ:∀a,Av tup tgt (itemD a) ρ=some (mk a)) (hb:∀a b,Av tup tgt (itemD a) (mk b)=some (mk a))
  (ht:∀a∈items,∀c,Bg (fun e σ=>ev call AD n e (mk a) σ) ifs (τ++[c])=some (.ok (P a),τ++[c])) (he:∀a∈items,P a=true→∀c,ev call AD n elt (mk a) (τ++[c])=some (.ok (g a),τ++[c])):
  ev call AD (n+1) (.comp elt tgt tup en it ifs) ρ σ=some (.ok (.loc τ.length),τ++[.lst ((items.filter P).map g)]):=by
 refine Bn hi ?_;haveI h0:=hat [] 0;simp only[af]at h0;rw[h0];dsimp only;rw[XH P g mk hat hb ht he items 400 0 ρ [] rfl hl (ai (by simp only[bY,bc];exact hl) (by decide)) hρ]
 rfl
end
theorem L3(l:List Nat)(σ:AA)(i:Nat):Aa 0 (.str l) σ i=some (l[i]?.map fun c=>.str [c]):=rfl
theorem SI(l:List Nat)(c:Nat):BJ (l++[c])=10*BJ l+(c - 48):=List.foldl_append
theorem L4:∀(f n:Nat),n<10 ^ f→BJ (Df f n).reverse=n
 |0,n,h=>by cases Nat.lt_one_iff.mp h;rfl
 |f+1,n,h=>by
  unfold Df;split
  ·exact (bc _).trans (cA _ _)
  ·rw[bw,SI,L4 f (n / 10) (Nat.div_lt_of_lt_mul (by rwa[Nat.mul_comm,←Nat.pow_succ])),cA,Nat.div_add_mod]
theorem Jl{n:Nat}(h:n<10):Ah (48+n)=true:=by
 haveI k:∀n,n<10→Ah (48+n)=true:=by decide
 exact k n h
set_option tactic.hygienic true in
theorem L5:∀(f n:Nat),(Df f n).all Ah=true
 |0,_=>rfl
 |f+1,n=>by
  unfold Df;split
  ·rename_i h;simp only[bQ,Jl h];rfl
  ·simp only[bQ,Jl (Nat.mod_lt _ (by decide)),L5 f];rfl
set_option tactic.hygienic true in
theorem VW:∀(f k n:Nat),n<10 ^ (k+1)→(Df f n).length≤k+1
 |0,_,_,_=>bC _
 |f+1,k,n,h=>by
  unfold Df;split
  ·exact ba (bC _)
  ·rename_i q;cases k with
   |zero=>exact absurd h q
   |succ k=>exact ba (VW f k (n / 10) (Nat.div_lt_of_lt_mul (by rwa[Nat.mul_comm,←Nat.pow_succ])))
theorem IM:∀f n,(Df f n).length≤f
 |0,_=>bC _
 |f+1,n=>by
  unfold Df;split
  ·exact ba (bC _)
  ·exact ba (IM f _)
theorem BD(n:Nat)(h:n<65530):BJ (AB n)=n:=L4 20 n (ai h (by decide))
theorem AS(n:Nat):(AB n).all Ah=true:=List.all_reverse.trans (L5 20 n)
theorem NW(n:Nat)(h:n<65530):(AB n).length≤5:=cF.symm▸VW 20 4 n (ai h (by decide))
theorem AF(n:Nat):(AB n).length≤20:=cF.symm▸IM 20 n
theorem AL(n:Nat):AB n≠[]:=fun e=>by
 haveI e:Df 20 n=[]:=List.reverse_eq_nil_iff.mp e;unfold Df at e;split at e<;>contradiction
theorem DY{P:Nat→Prop}(h:∀k,k<10→P (48+k)){c:Nat}(q:Ah c=true):P c:=by
 simp only[Ah,aw,bh,bh]at q;rw[←Nat.add_sub_cancel' q.1];exact h _ (Nat.lt_succ_of_le (Nat.sub_le_of_le_add q.2))
theorem QB{c:Nat}(h:Ah c=true)(σ:AA):BN σ .index (.str [48,49,50,51,52,53,54,55,56,57]) [.str [c]]=some (.ok (.int ((c - 48:Nat):Int)),σ):=
 DY (P:=fun c=>BN σ .index (.str [48,49,50,51,52,53,54,55,56,57]) [.str [c]]=some (.ok (.int ((c - 48:Nat):Int)),σ)) (fun k hk=>by
  match k,hk with
  |0,_=>rfl|1,_=>rfl|2,_=>rfl|3,_=>rfl|4,_=>rfl|5,_=>rfl|6,_=>rfl|7,_=>rfl|8,_=>rfl|9,_=>rfl
  |k+10,h=>exact absurd h (bH.mpr (bU _ _))) h
noncomputable abbrev Yx (v:Nat) (s:List Nat):Nat:=s.foldl (fun v c=>10*v+(c - 48)) v
theorem Oj:∀(s:List Nat) (v:Nat),v≤Yx v s
 | [],v=>bJ v
 |c::s,v=>ag (ag (Nat.le_mul_of_pos_left v (by decide)) (bR _ _)) (Oj s _)
theorem mul_int{σ:AA}{a b:Int}(h:a.natAbs<1000000000∧b.natAbs<1000000000):Bw σ .mul (.int a) (.int b)=some (.ok (.int (a*b)),σ):=if_pos h
theorem L6{body:Loc→AA→SR}{σ:AA}{l:List Nat}{t:Nat}(mk:Nat→Option D→Loc)(hb:∀v x d,Av false [t] d (mk v x)=some (mk v (some d)))
  (hs:∀v c,v<65530→Ah c=true→10*v+(c - 48)<65530→body (mk v (some (.str [c]))) σ=some (.nxt,mk (10*v+(c - 48)) (some (.str [c])),σ)) (hf:l.all Ah=true) (hn:BJ l<65530) (hl:l.length<400) (x:Option D):
  ∃x',CQ 0 (.str l) false [t] body 400 0 (mk 0 x) σ=some (.nxt,mk (BJ l) x',σ):=by
 obtain ⟨ρ',σ',e,rfl,v,x',rfl,h2,_,_⟩:=By (items:=l) (itemD:=fun c=>.str [c]) (kind:=0) (src:=.str l) (body:=body) (tup:=false) (tgt:=[t]) (fun s ρ σ'=>σ'=σ∧Ex2 fun v x=>A4 (ρ=mk v x) (Yx v s=BJ l) (v<65530) (s.all Ah=true)) (fun _ _ σ _ i=>L3 l σ i) (fun c s ρ σ' I=>by
  obtain ⟨rfl,v,x,rfl,h1,h2,h3⟩:=I;simp only[bQ,aw]at h3;have hv:10*v+(c - 48)<65530:=am (Oj s _) (h1▸hn);exact ⟨_,_,_,hb v x _,hs v c h2 h3.1 hv,rfl,_,_,rfl,h1,hv,h3.2⟩) l 400 0 (mk 0 x) σ rfl hl ⟨rfl,0,x,rfl,rfl,by decide,hf⟩
 exact ⟨x',h2▸e⟩
theorem B9{v k:Nat}(h:v<k):(v:Int).natAbs<k:=h
theorem IN(d:Nat)(l:List Nat)(σ:AA)(hf:l.all Ah=true)(hn:BJ l<65530)(hl:l.length<400):CC (d+2) 18 [.str l] σ=some (.ok (.int (BJ l:Int)),σ):=by
 obtain ⟨x',e⟩:=L6 (σ:=σ) (t:=2) (body:=exs (CC (d+1)) AD 58 [.asg 1 (.bi .min [(.bin .add (.bin .mul (.cst (.int 10)) (.loc 1)) (.meth .index (.glob 2) [(.loc 2)])),(.bin .add (.glob 7) (.cst (.int 1)))])]) (fun v x=>[some (.str l),some (.int (v:Int)),x]) (fun _ _ _=>rfl) (fun v c hv hc hb=>by
  haveI hm:=mul_int (σ:=σ) (a:=10) (b:=(v:Int)) ⟨by decide,B9 (ai hv (by decide))⟩
  haveI hmin:Dg σ .min [.int (((10*v:Nat):Int)+((c - 48:Nat):Int)),.int (65529+1)]=some (.ok (.int ((10*v+(c - 48):Nat):Int)),σ):=congrArg (fun z=>some (Ro.ok (D.int z),σ)) (if_neg fun q=>Nat.lt_asymm hb (av.mp q));refine x_k ?_;exact (AO (HP (AJ (BE hm (QB hc σ) rfl) hmin)) rfl)) hf hn hl none
 exact AX 1 3 ET rfl rfl rfl rfl (AO rfl (DX rfl e rfl))
theorem Bb{α:Type}{σ:AA}{k:Nat}{l:List D}(h:σ[k]? =some (.lst l))(f:Nat→List D→Option α):B5 σ (.loc k) f=f k l:=congrArg (fun o:Option AI=>o.bind fun c=>LB c (f k)) h
theorem Ol{α:Type}{src:D}{tup:Bool}{tgt:List Nat}{items:List α}{itemD:α→D}{call:Call}{n:Nat}{elt it:E}{en:Bool}{ρ:Loc}{σ τ:AA}(g:α→D)(mk:α→Loc)(hi:ev call AD n it ρ σ=some (.ok src,τ))
  (hat:∀c i,Aa (if en then 2 else 0) src (τ++c) i=some (items[i]?.map itemD)) (hl:items.length<400) (hρ:∀a,Av tup tgt (itemD a) ρ=some (mk a)) (hb:∀a b,Av tup tgt (itemD a) (mk b)=some (mk a))
  (he:∀a∈items,∀c,ev call AD n elt (mk a) (τ++[c])=some (.ok (g a),τ++[c])):
  ev call AD (n+1) (.comp elt tgt tup en it []) ρ σ=some (.ok (.loc τ.length),τ++[.lst (items.map g)]):=by
 haveI e:=Dp (ifs:=[]) (fun _=>true) g mk hi hat hl hρ hb (fun _ _ _=>rfl) fun a m _=>he a m;rwa[dD.mpr fun _ _=>rfl]at e
theorem L7:∀l:List Nat,Et [] (l.map fun c=>[c])=l
 | []=>rfl
 | [_]=>rfl
 |a::b::l=>congrArg (a:: ·) (L7 (b::l))
theorem IO:∀l:List (List Nat),strsOf (l.map D.str)=some l
 | []=>rfl
 |a::l=>congrArg (br (a:: ·)) (IO l)
noncomputable def chL (w:List Nat):List D:=w.map fun c=>.str [c]
theorem Uk{σ:AA}{k:Nat}{l:List Nat}(h:σ[k]? =some (.lst (chL l)))(hl:l.length<1000):BN σ .join (.str []) [.loc k]=some (.ok (.str l),σ):=by
 refine Eq.trans (b:=B5 σ (.loc k) fun _ l=>(strsOf l).bind fun ls=>if l.length<1000∧([]:List Nat).length=0∧(ls.all fun x=>Nat.beq x.length 1)=true then Ab (.str (Et [] ls)) σ else none) rfl ((Bb h _).trans ?_)
 haveI e:chL l=(l.map fun c=>[c]).map D.str:=by rw[az];rfl
 rw[e,IO];refine (if_pos ⟨by rw[ak,ak];exact hl,rfl,?_⟩).trans (by rw[L7];rfl)
 rw[List.all_map];exact ao.mpr fun _ _=>rfl
theorem IP(d:Nat)(l:List Nat)(σ:AA)(hf:∀c∈l,G9 c=false)(hl:l.length<400):CC (d+2) 5 [.str l] σ=some (.ok (.str l),σ++[.lst (chL l)]):=by
 haveI e:=Ol (call:=CC (d+1)) (n:=57) (tup:=false) (tgt:=[1]) (en:=false) (itemD:=fun c=>.str [c]) (src:=.str l) (items:=l) (elt:=.ite (.cmp (.cst (.str [97])) [.le,.le] [(.loc 1),(.cst (.str [122]))]) (.bi .chr [(.bin .sub (.bi .ord [(.loc 1)]) (.cst (.int 32)))]) (.loc 1)) (it:=.loc 0) (ρ:=[some (.str l),none]) (σ:=σ) (fun c=>.str [c]) (fun c=>[some (.str l),some (.str [c])]) rfl (fun c i=>L3 l _ i) hl (fun _=>rfl) (fun _ _=>rfl) fun c m _=>CO (t:=false) (by rw[←hf c m];exact IJ rfl) rfl
 exact AX 1 2 H7 rfl rfl rfl rfl (BQ (B8 rfl rfl (AJ e (Uk (AM _ _ _) (ai hl (by decide))))) rfl)
theorem str_inv{σ:AA}{s:List Nat}:∀l:List (List Nat),FZ σ (.str s) (l.map .str)=some (l.any fun x=>eqL x s):=fun l=>by
 haveI h:(l.map D.str).all (conv σ 12)=true:=by
  rw[List.all_map];exact ao.mpr fun _ _=>rfl
 haveI k:∀l:List (List Nat),Gr σ (.str s) (l.map .str)=some (l.any fun x=>eqL x s):=fun l=>by
  induction l with
  |nil=>rfl
  |cons a l ih=>
   show (match eqL a s with|true=>some true|false=>Gr σ (.str s) (l.map .str))=_
   rw[bf];cases eqL a s
   ·exact ih
   ·rfl
 unfold FZ;rw[h];exact k l
theorem Kk{σ:AA}{s:List Nat}(l:List (List Nat)):BA σ .isIn (.str s) (.tup (l.map .str))=some (l.any fun x=>eqL x s):=str_inv l
theorem SJ{σ:AA}{s:List Nat}{k:Nat}(l:List (List Nat))(h:σ[k]? =some (.lst (l.map .str))):BA σ .isIn (.str s) (.loc k)=some (l.any fun x=>eqL x s):=(congrArg (fun o:Option AI=>o.bind (LC σ (.str s))) h).trans (str_inv l)
theorem L8{P:Nat→Bool}{f:List Nat→Bool}(r:List Nat)(h:atP P r=false)(h0:f []=false)(h1:∀c,f [c]=P c):f (hd1 r)=false:=by
 cases r with
 |nil=>exact h0
 |cons c r=>exact (h1 c).trans h
noncomputable def QC (c:Nat):Bool:=L1 c||(Ah c||eqL [c] [46])
noncomputable def Yy (c:Nat):Bool:=[[37],[36],[33]].any fun x=>eqL x [c]
noncomputable def isE (c:Nat):Bool:=[[69],[101]].any fun x=>eqL x [c]
noncomputable def Yz (c:Nat):Bool:=Ah c||(eqL [c] [46]||(isE c||(eqL [c] [33]||eqL [c] [37])))
theorem Kl{P Q:Nat→Bool}{r:List Nat}(h:atP (fun c=>P c||Q c) r=false):atP P r=false∧atP Q r=false:=by
 cases r with
 |nil=>exact ⟨rfl,rfl⟩
 |cons c r=>exact ca.mp h
theorem L9{c:Nat}(h:Ah c=true):G9 c=false:=DY (P:=fun c=>G9 c=false) (by decide) h
theorem NX{c:Nat}(h:Iz c=true):G9 c=false:=by
 simp only[Iz,aw,bh,bh]at h;haveI:Nat.ble 97 c=false:=by
  cases q:Nat.ble 97 c with
  |false=>rfl
  |true=>exact absurd (ag (au q) h.2) (by decide)
 simp only[G9,this];rfl
theorem Jm{c:Nat}:∀(l:List Nat) (i:Nat),inL c l=false→Al c l i= -1
 | [],_,_=>rfl
 |a::l,i,h=>by
  simp only[inL,bf,ca]at h;simp only[Al,h.1];exact Jm l (i+1) h.2
theorem Om{c:Nat}(hc:Ah c=false):∀l:List Nat,l.all Ah=true→inL c l=false
 | [],_=>rfl
 |a::l,h=>by
  simp only[bQ,aw]at h;simp only[inL,bf,ca];refine ⟨?_,Om hc l h.2⟩;cases q:Nat.beq a c with
  |false=>rfl
  |true=>simp only[bt q,hc]at h;cases h.1
section
variable(d:Nat){l:List Nat}{i:Nat}{s r:List Nat}(σ:AA)
theorem MA(h:Suf l i (s++r))(hs:s.all QC=true)(hr:atP QC r=false)(hr2:atP Yy r=false):CC (d+3) 11 [.str l,.int (i:Int)] σ=some (.ok (.int ((i+s.length:Nat):Int)),σ):=by
 haveI e:=Yv (call:=CC (d+2)) (n:=55) (σ:=σ) (T:=.or [(.call 3 [(.idx (.loc 0) (.loc 1))]),(.call 4 [(.idx (.loc 0) (.loc 1))]),(.cmp (.idx (.loc 0) (.loc 1)) [.eq] [(.cst (.str [46]))])]) QC (fun j c t hj=>C9 (FE (Ax (AJ (Ao rfl rfl hj.idx) (El d σ c))) (FE (Ax (AJ (Ao rfl rfl hj.idx) (Cq d σ c))) (CR (AK (Ao rfl rfl hj.idx) rfl (BK rfl)))))) hr s 400 i h (am (by simp only[ae];exact bR _ _) h.sml) hs
 haveI e2:BA σ .isIn (.str (hd1 r)) (.tup [.str [37],.str [36],.str [33]])=some false:=(Kk [[37],[36],[33]]).trans (congrArg some (L8 (f:=fun s=>[[37],[36],[33]].any fun x=>eqL x s) r hr2 rfl fun _=>rfl));exact AX 2 2 G1 rfl rfl rfl rfl (Ly e (BQ (CO (Bh (a_F (AK h.skip.one rfl e2))) rfl) rfl))
theorem Km(h:Suf l i r)(hr:atP isE r=false):CC (d+2) 9 [.str l,.int (i:Int)] σ=some (.ok (.int (i:Int)),σ):=by
 haveI e2:BA σ .notIn (.str (hd1 r)) (.tup [.str [69],.str [101]])=some true:=congrArg (br not) ((Kk (σ:=σ) [[69],[101]]).trans (congrArg some (L8 (f:=fun s=>[[69],[101]].any fun x=>eqL x s) r hr rfl fun _=>rfl)));exact AX 2 4 Fs rfl rfl rfl rfl (AU (AK h.one rfl e2) rfl)
theorem Kn(h:Suf l i (s++r))(hs:s.all Ah=true)(hk:s.length≤40)(hr:atP Yz r=false):CC (d+4) 10 [.str l,.int (i:Int)] σ=some (.ok (.tup [.tup [.str AZ,.str s],.int ((i+s.length:Nat):Int)]),σ++[.lst (chL s)]):=by
 obtain ⟨a1,a2⟩:=Kl (P:=Ah) hr;obtain ⟨a2,a3⟩:=Kl (P:=fun c=>eqL [c] [46]) a2;obtain ⟨a3,a4⟩:=Kl (P:=isE) a3;obtain ⟨a4,a5⟩:=Kl (P:=fun c=>eqL [c] [33]) a4;haveI e1:=L8 (f:=fun x=>eqL x [46]) r a2 rfl fun _=>rfl;haveI e2:=L8 (f:=fun x=>eqL x [33]) r a4 rfl fun _=>rfl;haveI e3:=L8 (f:=fun x=>eqL x [37]) r a5 rfl fun _=>rfl;haveI e4:BN σ .find3 (.str l) [.str [46],.int (i:Int),.int ((i+s.length:Nat):Int)]=some (.ok (.int (-1)),σ):=by
  refine (if_pos ⟨bx _,cM.mpr (bR _ _),cM.mpr h.skip.le'⟩).trans ?_
  show some (Ro.ok (D.int (Al 46 ((l.take (i+s.length)).drop i) i)),σ)=_
  rw[List.drop_take,h.eq,cA,List.take_left,Jm s i (Om rfl s hs)]
 haveI e5:decide (((i+s.length:Nat):Int) - (i:Int)>40)=false:=by
  rw[Int.natCast_add,Int.add_comm,Int.add_sub_cancel];exact decide_eq_false fun q=>absurd (av.mp q) (bH.mpr hk)
 exact AX 2 6 Ft rfl rfl rfl rfl (AO (L2 d σ h hs a1) (AU (AK h.skip.one rfl (BK e1)) (As (AU (AK rfl rfl (EA e5)) (As (AO (AK e4 rfl rfl) (AO (Km (d+1) σ h.skip a3) (AO h.skip.one (AU (C9 (o_F (AK rfl rfl (BK e2)) (CR (Bh (a_F (AK rfl rfl (BK e3))))))) (As (BQ (Bi (AJ (Bi (AJ rfl (AJ (Ax (AJ h.cut (IP (d+1) s σ (fun c m=>L9 (ao.mp hs c m)) (am hk (by decide))))) rfl))) rfl)) rfl)))))))))))
end
theorem On{c:Nat}:∀(t r:List Nat) (i:Nat),inL c t=false→Al c (t++c::r) i=((i+t.length:Nat):Int)
 | [],r,i,_=>by simp only[List.nil_append,Al,Nat.beq_refl];rfl
 |a::l,r,i,h=>by
  simp only[inL,bf,ca]at h;simp only[cN,Al,h.1];refine (On l r (i+1) h.2).trans ?_;simp only[bF,cu,b8]
theorem Suf.find{σ:AA}{l:List Nat}{i:Nat}{c:Nat}{t r:List Nat}(h:Suf l i (t++c::r))(ht:inL c t=false):BN σ .find2 (.str l) [.str [c],.int (i:Int)]=some (.ok (.int ((i+t.length:Nat):Int)),σ):=by
 refine (if_pos (be.mpr (ai h.sm (by decide)))).trans ?_
 show some (Ro.ok (D.int (Al c (l.drop i) i)),σ)=_
 rw[h.eq,On _ _ _ ht]
theorem Y0(n:Nat):decide ((n:Int)<0)=false:=decide_eq_false (Int.not_lt.mpr (bx n))
noncomputable def FV:List (List Nat):=Ar 32 (match AD 1 with|some (.str l)=>l|_=>[])
noncomputable def MB:List (List Nat):=Ar 32 (match AD 0 with|some (.str l)=>l|_=>[])
def Bt (w:List Nat) (b:Bool):Prop:=(FV.any fun x=>eqL x w)=b∧(b||MB.any fun x=>eqL x w)=b
section
variable(d:Nat){l:List Nat}{i:Nat}{s t r:List Nat}{b:Bool}(σ:AA)
theorem NY(h:Suf l i (34::(t++34::r)))(ht:inL 34 t=false):CC (d+2) 12 [.str l,.int (i:Int)] σ=some (.ok (.tup [.tup [.str [116,101,120,116],.str t],.int ((i+(t.length+2):Nat):Int)]),σ):=by
 haveI c2:=h.next.cut (σ:=σ);haveI e:i+(t.length+2)=i+1+t.length+1:=by rw[cu i];rfl
 refine e▸ ?_;exact AX 2 3 H9 rfl rfl rfl rfl (AO (h.next.find ht) (AU (AK rfl rfl (Do (Y0 ..))) (As (BQ (Bi (AJ (Bi (AJ rfl (AJ c2 rfl))) rfl)) rfl))))
theorem Ko:CC (d+2) 0 [] σ=some (.ok (.loc σ.length),σ++[.lst (MB.map .str)]):=by
 exact AX 0 0 Fo rfl rfl rfl rfl rfl
theorem Ul(W:Bt s b):∃g,CC (d+3) 2 [.str s] σ=some (.ok (.bool b),σ++g):=by
 haveI e:=(SJ (s:=s) FV (AM (AI.lst (FV.map .str)) [] σ)).trans (congrArg some W.1);cases b with
 |true=>exact ⟨[.lst (FV.map .str)],by exact AX 1 1 CH rfl rfl rfl rfl (BQ (C9 (o_T (AK rfl rfl e))) rfl)⟩
 |false=>
  haveI e2:=(SJ (s:=s) MB (AM (AI.lst (MB.map .str)) [] (σ++[.lst (FV.map .str)]))).trans (congrArg some W.2);rw[aZ]at e2;haveI f:=Ko (d+0) (σ++[.lst (FV.map .str)]);rw[aZ]at f;exact ⟨[.lst (FV.map .str)]++[.lst (MB.map .str)],by exact AX 1 1 CH rfl rfl rfl rfl (BQ (C9 (o_F (AK rfl rfl e) (CR (AK rfl f e2)))) rfl)⟩
noncomputable def AP (b:Bool) (w:List Nat):D:=.tup [.str (sel b [119,111,114,100] [110,97,109,101]),.str w]
theorem Y1{c:Nat}(h:Iz c=true):QC c=true:=by simp only[QC,L1,h];rfl
theorem Um{P Q:Nat→Bool}(h:∀c,P c=true→Q c=true)(hs:s.all P=true):s.all Q=true:=ao.mpr fun c m=>h c (ao.mp hs c m)
structure Y2 (r:List Nat):Prop where
 ns:atP QC r=false
 ty:atP Yy r=false
theorem NZ(W:Bt s b)(h:Suf l i (s++r))(hs:s.all Iz=true)(hr:Y2 r)(n1:eqL s [82,69,77]=false)(n2:eqL s [68,65,84,65]=false):∃g,CC (d+4) 14 [.str l,.int (i:Int)] σ=some (.ok (.tup [.loc (σ++g).length,.int ((i+s.length:Nat):Int)]),σ++g++[.lst [AP b s]]):=by
 haveI c:=IP (d+1) s σ (fun c m=>NX (ao.mp hs c m)) (am (by simp only[ae];exact bR _ _) h.sml)
 obtain ⟨g,w⟩:=Ul d (σ++[.lst (chL s)]) W;rw[aZ]at w;refine ⟨[.lst (chL s)]++g,?_⟩;cases b<;>exact AX 2 5 IA rfl rfl rfl rfl (AO (MA d σ h (Um (fun _=>Y1) hs) hr.ns hr.ty) (AO (Ax (AJ h.cut c)) (AU (AK rfl rfl (BK n1)) (As (AU (AK rfl rfl (BK n2)) (As (BQ (Bi (AJ (L0 (AJ (Bi (AJ (CO w rfl) rfl)) rfl)) rfl)) rfl)))))))
def Jn (s:List Nat) (tok:D) (m:Nat):Prop:= ∀d l i σ,Suf l i s→∃g,CC (d+5) 15 [.str l,.int (i:Int)] σ=some (.ok (.tup [.loc (σ++g).length,.int ((i+m:Nat):Int)]),σ++g++[.lst [tok]])
theorem BL(hs:s.all Ah=true)(hne:s≠[])(hk:s.length≤40)(hr:atP Yz r=false):Jn (s++r) (.tup [.str AZ,.str s]) s.length:=by
 intro d l i σ h;refine ⟨[.lst (chL s)],?_⟩;haveI e:=Kn d σ h hs hk hr;cases s with
 |nil=>exact absurd rfl hne
 |cons c s=>
  simp only[bQ,aw]at hs;haveI hc:=Cq (d+2) σ c;rw[hs.1]at hc;exact AX 2 5 CI rfl rfl rfl rfl (AO (Ao rfl rfl h.idx) (AU (C9 (o_T hc)) (BC e rfl rfl rfl)))
theorem XI{c:Nat}(h:Iz c=true):Ah c=false:=by
 simp only[Iz,aw,bh,bh]at h;haveI:Nat.ble c 57=false:=by
  cases q:Nat.ble c 57 with
  |false=>rfl
  |true=>exact absurd (ag h.1 (au q)) (by decide)
 simp only[Ah,this,Bool.and_false]
theorem Dq{P:Nat→Bool}{c k:Nat}(h:P c=true)(hk:P k=false):eqL [c] [k]=false:=by
 cases q:eqL [c] [k] with
 |false=>rfl
 |true=>cases (NU _ _).mp q;rw[h]at hk;contradiction
theorem AV(W:Bt s b)(hne:s≠[])(hs:s.all Iz=true)(hr:Y2 r)(n1:eqL s [82,69,77]=false)(n2:eqL s [68,65,84,65]=false):Jn (s++r) (AP b s) s.length:=by
 intro d l i σ h;obtain ⟨g,e⟩:=NZ d σ W h hs hr n1 n2;refine ⟨g,?_⟩;cases s with
 |nil=>exact absurd rfl hne
 |cons c s=>
  simp only[bQ,aw]at hs;haveI hc:=Cq (d+2) σ c;simp only[XI hs.1]at hc;haveI hl:=El (d+2) σ c;simp only[L1,hs.1]at hl;exact AX 2 5 CI rfl rfl rfl rfl (AO (Ao rfl rfl h.idx) (AU (C9 (o_F hc (CR (Bh (a_F (AK rfl rfl (BK (Dq (k:=46) hs.1 rfl)))))))) (As (AU hl (BQ e rfl)))))
theorem SK(ht:inL 34 t=false):Jn (34::(t++34::r)) (.tup [.str [116,101,120,116],.str t]) (t.length+2):=by
 intro d l i σ h;refine ⟨[],?_⟩;rw[af];exact AX 2 5 CI rfl rfl rfl rfl (AO (Ao rfl rfl h.idx) (AU (C9 (o_F (Cq (d+2) σ 34) rfl)) (As (AU (El (d+2) σ 34) (As (AU rfl (BC (NY (d+2) σ h ht) rfl rfl rfl)))))))
noncomputable def Y3 (c:Nat):Bool:= !(Ah c||(eqL [c] [46]||(L1 c||(eqL [c] [34]||(([60,61,62]:List Nat).any (fun x=>Nat.beq x c)||(eqL [c] [63]||eqL [c] [39]))))))&&([43,45,42,47,92,94,40,41,44,59,58,35,38,64]:List Nat).any fun x=>Nat.beq x c
theorem Cc{c:Nat}(h:Y3 c=true):Jn (c::r) (.tup [.str [115,105,103,110],.str [c]]) 1:=by
 intro d l i σ hi;refine ⟨[],?_⟩;rw[af];simp only[Y3,aw,cV,ca]at h;obtain ⟨⟨h1,h2,h3,h4,h5,h6,h7⟩,h8⟩:=h;haveI e1:=Cq (d+2) σ c;rw[h1]at e1;haveI e3:=El (d+2) σ c;rw[h3]at e3;exact AX 2 5 CI rfl rfl rfl rfl (AO (Ao rfl rfl hi.idx) (AU (C9 (o_F e1 (CR (Bh (a_F (AK rfl rfl (BK h2))))))) (As (AU e3 (As (AU (AK rfl rfl (BK h4)) (As (AU (AK rfl rfl (Jj h5)) (As (AU (AK rfl rfl (BK h6)) (As (AU (AK rfl rfl (BK h7)) (As (AU (AK rfl rfl (Jj h8)) rfl))))))))))))))
theorem Em{n k:Nat}{l m:List D}(h1:σ[n]? =some (.lst l))(h2:σ[k]? =some (.lst m))(hl:l.length+m.length<100000)(hn:n≠k):BN σ .extend (.loc n) [.loc k]=some (.ok .none,AW σ n (.lst (l++m))):=
 (show BN σ .extend (.loc n) [.loc k]=B5 σ (.loc n) (fun n l=>B5 σ (.loc k) fun k m=>if l.length+m.length<100000∧ ¬n=k then Ab .none (AW σ n (.lst (l++m))) else none) from rfl).trans ((Bb h1 _).trans ((Bb h2 _).trans (if_pos ⟨hl,hn⟩)))
theorem GI{n:Nat}{l:List D}(h:σ[n]? =some (.lst l)):LH σ .extend (.loc n)=true:=congrArg (fun o=>Nat.beq 1 (cK o)) h
theorem EY{n:Nat}{l:List D}(h:σ[n]? =some (.lst l)):LH σ .append (.loc n)=true:=congrArg (fun o=>Nat.beq 1 (cK o)) h
inductive Dr:List Nat→List D→Prop
 |nil:Dr [] []
 |cons {u b r:List Nat} {tok:D} {ts:List D}:Jn (u++(b++r)) tok u.length→u≠[]→b.all Ki=true→atP Ki r=false→Dr r ts→Dr (u++(b++r)) (tok::ts)
theorem Ch{α:Type}(σ g:List α)(i:Nat):(σ++g)[σ.length+i]? =g[i]? :=by
 simp only[bZ (bR _ _),cA]
theorem QD{ts:List D}(T:Dr s ts):∀(f i:Nat) (acc:List D) (g0:List AI) (fo:Option D),Suf l i s→s.length<f→acc.length+s.length<400→
  Ex2 fun g fo'=> whl (ev (CC (d+5)) AD 57 (.cmp (.loc 2) [.lt] [(.bi .len [(.loc 0)])])) (exs (CC (d+5)) AD 57 [.asgT [3,2] (.call 15 [(.loc 0),(.loc 2)]),.exp (.meth .extend (.loc 1) [(.loc 3)]),.asg 2 (.call 8 [(.loc 0),(.loc 2)])]) f [some (.str l),some (.loc σ.length),some (.int (i:Int)),fo] (σ++ .lst acc::g0)=
   some (.nxt,[some (.str l),some (.loc σ.length),some (.int (l.length:Int)),fo'],σ++ .lst (acc++ts)::g):=by
 induction T with
 |nil=>
  intro f i acc g0 fo h hf _;cases f with
  |zero=>contradiction
  |succ f=>
   refine ⟨g0,fo,?_⟩;simp only[af,show l.length=i from h.le.symm]
   exact Bf (AK rfl rfl (Do h.ltF)) rfl
 | @cons u b r tok ts H hne hb hr T ih=>
  intro f i acc g0 fo h hf hacc;cases f with
  |zero=>contradiction
  |succ f=>
  haveI h2:Suf l (i+u.length) (b++r):=h.skip;haveI hul:0<u.length:=cw.mpr hne;haveI hlen:(u++(b++r)).length=u.length+(b.length+r.length):=by simp only[ae,ae]
  rw[hlen]at hf hacc;obtain ⟨g,e⟩:=H d l i (σ++ .lst acc::g0) h;haveI hst:σ++ .lst acc::g0++g++[AI.lst [tok]]=σ++ .lst acc::(g0++g++[.lst [tok]]):=by simp only[aZ,aZ,cN,aZ]
  haveI hpl:(σ++ .lst acc::g0++g).length=σ.length+((g0++g).length+1):=by simp only[aZ,ae,cN,bF]
  simp only[hst,hpl]at e;haveI hk:(σ++ .lst acc::(g0++g++[.lst [tok]]))[σ.length+((g0++g).length+1)]? =some (.lst [tok]):=(Ch _ _ _).trans (AM _ _ _);haveI hx:=Em _ (AM (AI.lst acc) _ σ) hk (by simp only[cy];lia) (by lia)
  simp only[BV]at hx;haveI hlt:decide ((i:Int)<(l.length:Int))=true:=decide_eq_true (av.mpr (by haveI:=h.le;rw[hlen]at this;lia))
  haveI sk:=IK (d+3) (σ++ .lst (acc++[tok])::(g0++g++[.lst [tok]])) h2 hb hr;obtain ⟨g',fo',e'⟩:=ih f (i+u.length+b.length) (acc++[tok]) (g0++g++[.lst [tok]]) (some (.loc (σ.length+((g0++g).length+1)))) h2.skip (by lia) (by simp only[ae,cy];lia)
  refine ⟨g',fo',?_⟩;simp only[aZ acc]at e';haveI w:exs (CC (d+5)) AD 57 [.asgT [3,2] (.call 15 [(.loc 0),(.loc 2)]),.exp (.meth .extend (.loc 1) [(.loc 3)]),.asg 2 (.call 8 [(.loc 0),(.loc 2)])] [some (.str l),some (.loc σ.length),some (.int (i:Int)),fo] (σ++ .lst acc::g0)=some (.nxt,[some (.str l),some (.loc σ.length),some (.int ((i+u.length+b.length:Nat):Int)),some (.loc (σ.length+((g0++g).length+1)))],σ++ .lst (acc++[tok])::(g0++g++[.lst [tok]])):=by
   refine x_k ?_;exact (BC e rfl rfl (GB (B8 rfl (GI _ (AM (AI.lst acc) _ σ)) hx) (AO sk rfl)))
  refine (Bf (AK rfl rfl (Do hlt)) ?_).trans e';dsimp only;simp only[w]
theorem Kp{ts:List D}(hl:l.length<256)(hr:atP Ki l=false)(T:Dr l ts):∃g,CC (d+6) 16 [.str l] σ=some (.ok (.loc σ.length),σ++ .lst ts::g):=by
 haveI h0:Suf l 0 ([]++l):=Suf.all (ai hl (by decide))
 haveI hgt:decide ((l.length:Int)>255)=false:=decide_eq_false fun q=>absurd (av.mp q) (bH.mpr (cH hl));haveI sk:=IK (d+3) (σ++[.lst []]) h0 rfl hr;obtain ⟨g,fo',w⟩:=QD d σ T 400 0 [] [] none h0 h0.few (by simp only[bY,bc];exact h0.few)
 refine ⟨g,?_⟩;exact AX 1 4 Fu rfl rfl rfl rfl (AU (AK rfl rfl (EA hgt)) (As (BC (Bi (AJ rfl (AJ sk rfl))) rfl rfl (Ly w rfl))))
end
section
variable{σ:AA}{t:Nat}{l:List D}{i:Nat}{x:D}
theorem Ds(h:σ[t]? =some (.lst l)):Dg σ .len [.loc t]=some (.ok (.int (l.length:Int)),σ):=(show Dg σ .len [.loc t]=B5 σ (.loc t) (fun _ l=>Ab (.int l.length) σ) from rfl).trans (Bb h _)
theorem aC{α:Type}(l:List α)(i:Nat):atL l (i:Int)=l[i]? :=if_pos (bx i)
theorem DJ(h:σ[t]? =some (.lst l))(e:l[i]? =some x):EB σ (.loc t) (.int (i:Int))=some x:=(congrArg (fun o:Option AI=>o.bind (TQ (.int (i:Int)))) h).trans ((aC l i).trans e)
theorem Oo(e:l[i]? =some x):decide ((i:Int)<(l.length:Int))=true:=decide_eq_true (av.mpr (ap.mp e).1)
theorem Gi{call:Call}{n:Nat}(hn:n<65530)(ht:call 36 [.loc t,.int (i:Int)] σ=some (.ok (.tup [.str AZ,.str (AB n)]),σ)):∃ρ',exk call 60 CJ kN [some (.loc t),some (.int (i:Int)),none,none,none,none] σ=some (.ret (.tup [.int (n:Int),.int ((i+1:Nat):Int)]),ρ',σ):=by
 haveI h5:decide (((AB n).length:Int)>5)=false:=decide_eq_false fun q=>absurd (av.mp q) (bH.mpr (NW n hn));haveI h6:decide ((n:Int)>65529)=false:=decide_eq_false fun q=>absurd (av.mp q) (bH.mpr (cH hn));haveI hs:=AS n;haveI hl:=AF n;haveI hk:=BD n hn;generalize AB n=ds at*;obtain ⟨x',e⟩:=L6 (σ:=σ) (l:=ds) (t:=3) (body:=exs call AD 56 [.ite (.not (.cmp (.cst (.str [48])) [.le,.le] [(.loc 3),(.cst (.str [57]))])) [.junk] [],.asg 2 (.bin .sub (.bin .add (.bin .mul (.loc 2) (.cst (.int 10))) (.bi .ord [(.loc 3)])) (.cst (.int 48)))]) (fun v x=>[some (.loc t),some (.int (i:Int)),some (.int (v:Int)),x,some (.str AZ),some (.str ds)]) (fun _ _ _=>rfl) (fun v c hv hc hb=>by
  haveI hm:=mul_int (σ:=σ) (a:=(v:Int)) (b:=10) ⟨B9 (ai hv (by decide)),by decide⟩
  haveI hr:(Nat.ble 48 c&&Nat.ble c 57)=true:=hc;haveI e1:=IJ (call:=call) (n:=52) (a:=48) (b:=57) (c:=c) (i:=3) (ρ:=[some (.loc t),some (.int (i:Int)),some (.int (v:Int)),some (.str [c]),some (.str AZ),some (.str ds)]) (σ:=σ) rfl;rw[hr]at e1;haveI e2:((v:Int)*10+(c:Int) - 48)=((10*v+(c - 48):Nat):Int):=by
   rw[Ah,aw,bh]at hc;lia
  haveI e3:Bw σ .sub (.int ((v:Int)*10+(c:Int))) (.int 48)=some (.ok (.int ((10*v+(c - 48):Nat):Int)),σ):=congrArg (fun z=>some (Ro.ok (D.int z),σ)) e2;refine x_k ?_;exact (AU (Og e1 rfl) (As (AO (BE (BE hm rfl rfl) rfl e3) rfl)))) hs (hk.symm▸hn) (am hl (by decide)) none
 rw[hk]at e;refine ⟨[some (.loc t),some (.int (i:Int)),some (.int (n:Int)),x',some (.str AZ),some (.str ds)],?_⟩;exact (BC ht rfl rfl (AU (C9 (o_F rfl (CR (AK rfl rfl (EA h5))))) (As (AO rfl (DX rfl e (AU (AK rfl rfl (EA h6)) rfl))))))
end
inductive PT where
 |none
 |int (i:Int)
 |str (s:List Nat)
 |tup (l:List PT)
 |lst (l:List PT)
noncomputable def rds (f:D→Option PT):List D→Option (List PT)
 | []=>some []
 |d::l=>(f d).bind fun t=>(rds f l).map (t:: ·)
noncomputable def rd (σ:AA):Nat→D→Option PT
 |0,_=>none
 |n+1,d=>match d with
  | .none=>some .none
  | .int i=>some (.int i)
  | .str s=>some (.str s)
  | .tup l=>(rds (rd σ n) l).map .tup
  | .loc _=>B5 σ d fun _ l=>(rds (rd σ n) l).map .lst
  |_=>none
mutual
noncomputable def Rd (σ:AA):PT→D→Prop
 | .none,d=>d=.none
 | .int i,d=>d=.int i
 | .str s,d=>d=.str s
 | .tup ts,d=> ∃l,d=.tup l∧Rds σ ts l
 | .lst ts,d=>Ex2 fun i l=>A3 (d=.loc i) (σ[i]? =some (.lst l)) (Rds σ ts l)
noncomputable def Rds (σ:AA):List PT→List D→Prop
 | [],l=>l=[]
 |t::ts,l=>Ex2 fun d r=>A3 (l=d::r) (Rd σ t d) (Rds σ ts r)
end
theorem Kq{σ:AA}{f:D→Option PT}(h:∀d t,f d=some t→Rd σ t d):∀(l:List D) (ts:List PT),rds f l=some ts→Rds σ ts l
 | [],ts,e=>by (injection e with e;subst e);rfl
 |d::l,ts,e=>by
  obtain ⟨t,e1,e2⟩:=bP.mp e;obtain ⟨us,e3,rfl⟩:=bG.mp e2;exact ⟨d,l,rfl,h d t e1,Kq h l us e3⟩
theorem Op{σ:AA}:∀n d t,rd σ n d=some t→Rd σ t d
 |0,_,_,h=>xns h
 |n+1,d,t,h=>by
  cases d with
  |none=>(injection h with h;subst h);rfl
  |int=>(injection h with h;subst h);rfl
  |str=>(injection h with h;subst h);rfl
  |tup l=>
   obtain ⟨ts,e,rfl⟩:=bG.mp h;exact ⟨l,rfl,Kq (Op n) l ts e⟩
  |loc i=>
   obtain ⟨c,e,h⟩:=bP.mp h;cases c with
   |lst l=>
    obtain ⟨ts,e2,rfl⟩:=bG.mp h;exact ⟨i,l,rfl,e,Kq (Op n) l ts e2⟩
   |_=>exact xns h
  |_=>exact xns h
def Grw (σ σ':AA):Prop:= ∀(i:Nat) (c:AI),σ[i]? =some c→σ'[i]? =some c
theorem Grw.refl(σ:AA):Grw σ σ:=fun _ _ h=>h
theorem Grw.trans{a b c:AA}(x:Grw a b)(y:Grw b c):Grw a c:=fun i q h=>y i q (x i q h)
theorem Grw.app(σ g:AA):Grw σ (σ++g):=fun i c h=>(bS (ap.mp h).1).trans h
structure MvL (k:D→D) (σ σ':AA):Prop where
 none:k .none=.none
 int:∀i,k (.int i)=.int i
 str:∀s,k (.str s)=.str s
 tup:∀l,k (.tup l)=.tup (l.map k)
 loc:∀i l,σ[i]? =some (.lst l)→∃j,k (.loc i)=.loc j∧σ'[j]? =some (.lst (l.map k))
theorem Rd.map{k:D→D}{σ σ':AA}(m:MvL k σ σ'):∀(t:PT) (d:D),Rd σ t d→Rd σ' t (k d):=
 PT.rec (motive_1:=fun t=> ∀d,Rd σ t d→Rd σ' t (k d)) (motive_2:=fun ts=> ∀l,Rds σ ts l→Rds σ' ts (l.map k))
  (fun d h=>by subst h;exact m.none) (fun i d h=>by subst h;exact m.int i) (fun s d h=>by subst h;exact m.str s)
  (fun ts ih d h=>by obtain ⟨l,rfl,h⟩:=h;exact ⟨_,m.tup l,ih l h⟩)
  (fun ts ih d h=>by obtain ⟨i,l,rfl,e,h⟩:=h;refine aW (m.loc i l e) fun j j_q=> ?_;haveI e1:=j_q.1;haveI e2:=j_q.2;exact ⟨j,_,e1,e2,ih l h⟩)
  (fun l h=>by subst h;rfl) (fun t ts ih1 ih2 l h=>by obtain ⟨d,r,rfl,h1,h2⟩:=h;exact ⟨_,_,rfl,ih1 d h1,ih2 r h2⟩)
theorem Rd.lists{σ σ':AA}(x:∀(i:Nat) (l:List D),σ[i]? =some (.lst l)→σ'[i]? =some (.lst l)){t:PT}{d:D}(h:Rd σ t d):Rd σ' t d:=
 Rd.map (k:=id) ⟨rfl,fun _=>rfl,fun _=>rfl,fun l=>by rw[bj];rfl,fun i l e=>⟨i,rfl,by rw[bj];exact x i l e⟩⟩ t d h
theorem Rd.grow{σ σ':AA}(x:Grw σ σ'){t:PT}{d:D}(h:Rd σ t d):Rd σ' t d:=h.lists fun i l e=>x i _ e
mutual
noncomputable def fu:PT→Nat
 | .tup l=>fus l+1
 | .lst l=>fus l+1
 |_=>1
noncomputable def fus:List PT→Nat
 | []=>1
 |t::l=>max (fu t) (fus l)+1
end
theorem VX{t:PT}{l:List PT}{m:Nat}(h:fus (t::l)≤m+1):fu t≤m∧fus l≤m:=Nat.max_le.mp (cW h)
theorem Rd.deq{σ:AA}:∀t:PT,∀m a b,fu t≤m→Rd σ t a→Rd σ t b→Mine.deq σ m a b=some true:=
 PT.rec (motive_1:=fun t=> ∀m a b,fu t≤m→Rd σ t a→Rd σ t b→Mine.deq σ m a b=some true) (motive_2:=fun ts=> ∀m a b,fus ts≤m→Rds σ ts a→Rds σ ts b→J6 σ m a b=some true)
  (fun m a b h x y=>by subst x;subst y;cases m with|zero=>cases h|succ=>rfl)
  (fun i m a b h x y=>by subst x;subst y;cases m with|zero=>cases h|succ=>exact congrArg some (decide_eq_true rfl))
  (fun s m a b h x y=>by subst x;subst y;cases m with|zero=>cases h|succ=>exact congrArg some (GD s))
  (fun ts ih m a b h x y=>by obtain ⟨l,rfl,x⟩:=x;obtain ⟨l',rfl,y⟩:=y;cases m with|zero=>cases h|succ m=>exact ih m l l' (cW h) x y)
  (fun ts ih m a b h x y=>by
   obtain ⟨i,l,rfl,e,x⟩:=x;obtain ⟨i',l',rfl,e',y⟩:=y;cases m with
   |zero=>contradiction
   |succ m=>exact (Bb e _).trans ((Bb e' _).trans (ih m l l' (cW h) x y)))
  (fun m a b h x y=>by subst x;subst y;cases m with|zero=>cases h|succ=>rfl)
  (fun t ts ih1 ih2 m a b h x y=>by
   obtain ⟨d,r,rfl,x1,x2⟩:=x;obtain ⟨d',r',rfl,y1,y2⟩:=y;cases m with
   |zero=>contradiction
   |succ m=>exact (congrArg (fun o:Option Bool=>o.bind fun t=>match t with
    |true=>J6 σ m r r'
    |false=>some false) (ih1 m d d' (VX h).1 x1 y1)).trans (ih2 m r r' (VX h).2 x2 y2))
mutual
noncomputable def dp:PT→Nat
 | .tup l=>dps l+1
 | .lst l=>dps l+1
 |_=>1
noncomputable def dps:List PT→Nat
 | []=>0
 |t::l=>max (dp t) (dps l)
end
theorem Rd.conv{σ:AA}:∀t:PT,∀m a,dp t≤m→Rd σ t a→Mine.conv σ m a=true:=
 PT.rec (motive_1:=fun t=> ∀m a,dp t≤m→Rd σ t a→Mine.conv σ m a=true) (motive_2:=fun ts=> ∀m a,dps ts≤m→Rds σ ts a→a.all (Mine.conv σ m)=true)
  (fun m a h x=>by subst x;cases m with|zero=>cases h|succ=>rfl)
  (fun i m a h x=>by subst x;cases m with|zero=>cases h|succ=>rfl)
  (fun s m a h x=>by subst x;cases m with|zero=>cases h|succ=>rfl)
  (fun ts ih m a h x=>by obtain ⟨l,rfl,x⟩:=x;cases m with|zero=>cases h|succ m=>exact ih m l (cW h) x)
  (fun ts ih m a h x=>by
   obtain ⟨i,l,rfl,e,x⟩:=x;cases m with
   |zero=>contradiction
   |succ m=>
    show (match σ[i]? with|some (.lst l)=>l.all (Mine.conv σ m)|_=>false)=true
    refine e▸ ?_;exact ih m l (cW h) x)
  (fun m a h x=>by subst x;rfl)
  (fun t ts ih1 ih2 m a h x=>by
   obtain ⟨d,r,rfl,x1,x2⟩:=x;rw[bQ,ih1 m d (Nat.max_le.mp h).1 x1];exact ih2 m r (Nat.max_le.mp h).2 x2)
theorem Rd.eq{σ:AA}{a b:D}{t:PT}(h1:Rd σ t a)(h2:Rd σ t b)(h:fu t≤40)(k:dp t≤12):DA σ a b=some true:=by
 unfold DA;rw[Rd.conv t 12 a k h1,Rd.conv t 12 b k h2];exact Rd.deq t 40 a b h h1 h2
theorem BU{n:Nat}(h:n<65530):Cm (.tup [.str AZ,.str (AB n)])=.tup [.str AZ,.dig n]:=by
 show D.tup [.str AZ,Uf (Nat.blt (BJ (AB n)) 65530&&eqL (AB (BJ (AB n))) (AB n)) (AB n)]=_
 rw[BD n h,be.mpr h,GD];exact congrArg (fun m=>D.tup [.str AZ,.dig m]) (BD n h)
theorem Jo{d:D}(h:Lx d=true):∃s,d=.str s:=by
 cases d with
 |str s=>exact ⟨s,rfl⟩
 |_=>exact xbf h
theorem GJ{l:List D}(h:Yo l=true):Ex2 fun w s=> l=[.str w,.str s]:=by
 match l,h with
 | [x,y],h=>
  have h:=bD.mp (show (Lx x&&Lx y)=true from h)
  obtain ⟨w,rfl⟩:=Jo h.1;obtain ⟨s,rfl⟩:=Jo h.2;exact ⟨w,s,rfl⟩
theorem Un{ps:List Nat}{N:Nat}(w s:List Nat):liD ps N (Uf (IH w s) s)=.str s:=by
 cases q:IH w s with
 |false=>rfl
 |true=>
  rw[IH,aw,aw,NU]at q;exact congrArg D.str ((NU _ _).mp q.2.2)
theorem SL{ps:List Nat}{N:Nat}{d:D}(h:plD d=true):liD ps N (Cm d)=d:=by
 cases d with
 |tup l=>
  obtain ⟨w,s,rfl⟩:=GJ h;exact congrArg (fun x=>D.tup [.str w,x]) (Un w s)
 |str=>rfl
 |int=>rfl
 |fn=>rfl
 |_=>exact xbf h
theorem Oq{ps:List Nat}{N:Nat}{d:D}(h:plD d=true):liD ps N d=d:=by
 cases d with
 |tup l=>
  obtain ⟨w,s,rfl⟩:=GJ h;rfl
 |str=>rfl
 |int=>rfl
 |fn=>rfl
 |_=>exact xbf h
theorem IQ{ps:List Nat}{N:Nat}{f:D→D}(hf:∀d,plD d=true→liD ps N (f d)=d):∀l:List D,l.all plD=true→(l.map f).map (liD ps N)=l
 | [],_=>rfl
 |d::l,h=>by
  simp only[bQ,aw]at h;simp only[an,an,hf d h.1,IQ hf l h.2]
theorem Ot{ps:List Nat}{N:Nat}{l:List D}(h:l.all plD=true):(D9 l).map (liD ps N)=l:=by
 unfold D9;cases l.any Ug with
 |false=>exact IQ (fun _=>SL) l h
 |true=>
  haveI h':=h;rw[←List.take_append_drop 6 l,cX,aw]at h';haveI z:=IQ (ps:=ps) (N:=N) (f:=id) (fun _=>Oq) _ h'.2;rw[bj]at z
  show ((l.take 6).map Cm++l.drop 6).map (liD ps N)=l
  rw[bb,IQ (fun _=>SL) _ h'.1,z,List.take_append_drop]
theorem DZ(ps:List Nat)(N:Nat):∀l,Iy ps N l=l.map (liD ps N)
 | []=>rfl
 |d::l=>by simp only[Iy,DZ ps N l];rfl
theorem EX.get{d f:Nat}{qs:List Nat}{as' as:List D}{σ cs:AA}{r:Ro}{σ':AA}(h:EX d f qs as' as σ cs r σ'):MvL (liD (0::1::qs) σ.length) (cs.map EW++σ') (σ++σ'.map (liC (0::1::qs) σ.length)):=by
 haveI hc:=h.cells;haveI hp:=h.plain;generalize 0::1::qs=ps at*;haveI hlen:cs.length=ps.length:=by haveI:=congrArg bX hc;simp only[ak,ak]at this;exact this.symm
 refine ⟨rfl,fun _=>rfl,fun _=>rfl,fun l=>by simp only[liD,DZ],fun i l e=>⟨_,rfl,?_⟩⟩
 rcases Nat.lt_or_ge i ps.length with q|q
 ·haveI q':i<(cs.map EW).length:=by simp only[ak,hlen];exact q
  simp only[bS q',bN]at e;haveI e1:=congrArg (·[i]?) hc
  simp only[bN,bN]at e1;obtain ⟨c,hci,hn⟩:=bG.mp e;simp only[hci,bk q]at e1;haveI e2:σ[ps[i]]? =some c:=aq.inj e1;simp only[liP,bk q];refine (Grw.app _ _ _ _ e2).trans (congrArg some ?_);haveI hpc:=ao.mp hp c (bB hci);cases c with
  |lst l0=>
   (injection hn with hn;subst hn)
   exact congrArg AI.lst (Ot hpc).symm
  |_=>contradiction
 ·haveI q':(cs.map EW).length≤i:=by simp only[ak,hlen];exact q
  simp only[bZ q',ak,hlen]at e;simp only[liP,cR q];refine (Ch _ _ _).trans ?_;simp only[bN,e];exact congrArg (fun l=>some (AI.lst l)) (DZ _ _ l)
noncomputable def rdC:List AI:=match evF S1 AD CM 20 62 [] [.tab [],.tab []] with
 |some (_,_::_::σ)=>σ
 |_=>[]
noncomputable def rd0:AI:=match rdC with
 |c::_=>c
 | []=>.lst []
theorem Y4(t0 t1:List Nat):evF S1 AD CM 20 62 [] [.tab t0,.tab t1]=some (.ok (.loc 2),[.tab t0,.tab t1]++rdC):=by kernel_rfl
theorem XJ(N:Nat):rdC.map (liC [0,1] N)=rd0::rdC.tail:=by kernel_rfl
theorem XK:plC rd0=true:=by kernel_rfl
theorem XM:(nFR (.ok (.loc 2))&&rdC.all nFC)=true:=by kernel_rfl
theorem Uo:EW rd0=rd0:=by kernel_rfl
theorem Hc{σ:AA}{c0 c1:AI}{qs:List Nat}{cs:List AI}(h0:σ[0]? =some c0)(h1:σ[1]? =some c1)(h:qs.map (fun i=>σ[i]?)=cs.map some):(0::1::qs).map (fun i=>σ[i]?)=(c0::c1::cs).map some:=by
 rw[an,an,h0,h1,h];rfl
section
variable{σ:AA}{t0 t1:List Nat}
theorem Na(d:Nat)(h0:σ[0]? =some (.tab t0))(h1:σ[1]? =some (.tab t1)):CC (d+21) 62 [] σ=some (.ok (.loc σ.length),σ++rd0::rdC.tail):=
 Kg rfl ((Ej (d:=d+20) (f:=62) (qs:=[]) (as':=[]) (as:=[]) (σ:=σ) (cs:=[.tab t0,.tab t1]) (r:=.ok (.loc 2)) (σ':=rdC) ⟨bU _ _,trivial,rfl,Hc h0 h1 rfl,rfl,Y4 t0 t1,XM⟩).trans (by rw[XJ];rfl))
def Da (l:List Nat) (t:PT):Prop:= ∀d (σ:AA) t0 t1,σ[0]? =some (.tab t0)→σ[1]? =some (.tab t1)→Ex2 fun k g=> CC (d+25) 67 [.str l] σ=some (.ok (.loc k),σ++g)∧Rd (σ++g) t (.loc k)
theorem Y5{a b:Nat}(h:b≤a):Nat.blt a b=false:=by rw[←Bool.not_eq_true,be];exact bH.mpr h
theorem Y6{d:Nat}{l:List Nat}(hl:l.length≤200):S0 d 67 [.str l] σ=none:=congrArg (onB · _) (Y5 hl)
noncomputable abbrev QE (t0 t1:List Nat) (ts:List D):AA:=[.tab t0,.tab t1,.lst ts,rd0]
noncomputable def VY (t0 t1:List Nat) (ts:List D):Option (Ro×AA):=evF S1 AD CM 20 66 [.loc 2,.int 0,.loc 3,.int 0] (QE t0 t1 ts)
noncomputable def Ou (t0 t1:List Nat) (ts:List D):AA:=match VY t0 t1 ts with
 |some p=>p.2.drop 4
 |none=>[]
theorem Ap{l:List Nat}{ts ts0:List D}{t:PT}{k:Nat}{m:D}(hl:l.length≤200)(hr:atP Ki l=false)(T:Dr l ts)(hp:ts.all plD=true)(h0:D9 ts=ts0)
  (hrun:∀t0 t1,VY t0 t1 ts0=some (.ok (.tup [.loc k,m]),QE t0 t1 ts0++Ou t0 t1 ts0)) (hn:∀t0 t1,(nFR (.ok (.tup [.loc k,m]))&&(Ou t0 t1 ts0).all nFC)=true) (ht:∀t0 t1,rd (QE t0 t1 ts0++Ou t0 t1 ts0) 12 (.loc k)=some t):Da l t:=by
 intro d σ t0 t1 e0 e1;haveI h2:2≤σ.length:=(ap.mp e1).1;obtain ⟨g,tk⟩:=Kp (d+18) σ (am hl (by decide)) hr T
 haveI rk:=Na (d+3) (Grw.app σ (.lst ts::g) _ _ e0) (Grw.app σ (.lst ts::g) _ _ e1);haveI hk:(σ++ .lst ts::g)[σ.length]? =some (.lst ts):=AM _ _ _;haveI hlen:σ.length<(σ++ .lst ts::g).length:=(ap.mp hk).1;haveI G:Grw σ (σ++ .lst ts::g++rd0::rdC.tail):=(Grw.app _ _).trans (Grw.app _ _);haveI hc:=Hc (cs:=[.lst ts,rd0]) (qs:=[σ.length,(σ++ .lst ts::g).length]) (G _ _ e0) (G _ _ e1) (by simp only[an,an,Grw.app _ _ _ _ hk,AM];rfl)
 haveI e2:(QE t0 t1 ts).map EW=QE t0 t1 ts0:=by
  rw[←h0];exact congrArg (fun c=>[AI.tab t0,.tab t1,.lst (D9 ts),c]) Uo
 haveI hS:EX (d+23) 66 [σ.length,(σ++ .lst ts::g).length] [.loc 2,.int 0,.loc 3,.int 0] [.loc σ.length,.int 0,.loc (σ++ .lst ts::g).length,.int 0] _ (QE t0 t1 ts) (.ok (.tup [.loc k,m])) (Ou t0 t1 ts0):=
  ⟨bU _ _,⟨h2,hlen,trivial⟩,rfl,hc,(congrArg (· &&(plC rd0&&true)) hp).trans (congrArg (· &&true) XK),e2.symm▸hrun t0 t1,hn t0 t1⟩
 haveI z:=Kg (d:=d+22) (f:=66) rfl ((show S0 (d+23) 66 [.loc σ.length,.int 0,.loc (σ++ .lst ts::g).length,.int 0] _=_ from rfl).trans (Ej hS))
 haveI zr:=Rd.map hS.get t (.loc k) (e2.symm▸Op 12 _ _ (ht t0 t1));refine ⟨_,.lst ts::g++(rd0::rdC.tail++_),?_,by rw[←aZ,←aZ];exact zr⟩
 rw[←aZ,←aZ];exact AX 1 4 G2 rfl rfl rfl (Y6 hl) (AO tk (BC (Ax (AJ rfl (AJ rfl (AJ rk z)))) rfl rfl rfl))
end
noncomputable def IR:Nat→PT
 |0=>.none
 |n+1=>.int ((n+1:Nat):Int)
theorem Y7{P:Nat→Bool}(h:∀k,k<10→P (48+k)=false)(n:Nat)(r:List Nat):atP P (AB n++r)=false:=by
 haveI k:=AS n;haveI h0:=AL n;cases q:AB n with
 |nil=>exact absurd q h0
 |cons c s=>
  simp only[q,bQ,aw]at k;exact DY (P:=fun c=>P c=false) h k.1
theorem HB(n:Nat)(r:List Nat):atP Ki (AB n++r)=false:=Y7 (by decide) n r
theorem Dt(n:Nat):atP Ki (AB n)=false:=af (AB n)▸HB n []
theorem Dr.last{u:List Nat}{tok:D}(h:Jn (u++[]) tok u.length)(hu:u≠[]):Dr u [tok]:=by
 haveI z:=Dr.cons (u:=u) (b:=[]) (r:=[]) h hu rfl rfl .nil;simp only[af,af]at z;exact z
theorem SM:Bt [69,76,83,69] true:=⟨by kernel_rfl,rfl⟩
theorem Kr:Bt [69,82,82,79,82] true:=⟨by kernel_rfl,rfl⟩
theorem Ov:Bt [71,79,83,85,66] true:=⟨by kernel_rfl,rfl⟩
theorem Gj:Bt [71,79,84,79] true:=⟨by kernel_rfl,rfl⟩
theorem Y8:Bt [73,70] true:=⟨by kernel_rfl,rfl⟩
theorem XN:Bt [78,69,88,84] true:=⟨by kernel_rfl,rfl⟩
theorem Up:Bt [79,78] true:=⟨by kernel_rfl,rfl⟩
theorem Uq:Bt [80,82,73,78,84] true:=⟨by kernel_rfl,rfl⟩
theorem QG:Bt [82,69,83,84,79,82,69] true:=⟨by kernel_rfl,rfl⟩
theorem IS:Bt [82,69,83,85,77,69] true:=⟨by kernel_rfl,rfl⟩
theorem SN:Bt [82,69,84,85,82,78] true:=⟨by kernel_rfl,rfl⟩
theorem SO:Bt [84,72,69,78] true:=⟨by kernel_rfl,rfl⟩
theorem w_X:Bt [88] false:=⟨by kernel_rfl,by kernel_rfl⟩
noncomputable def BR (f:Nat) (A B:List Nat):List Nat:=match f with
 |0=>[71,79,84,79,32]++(A)
 |1=>[79,78,32,88,32,71,79,84,79,32]++(A++([44]++(B)))
 |2=>[73,70,32,88,32,84,72,69,78,32]++(A++([32,69,76,83,69,32]++(B)))
 |3=>[71,79,83,85,66,32]++(A++([58,32,82,69,84,85,82,78,32]++(B)))
 |4=>[82,69,83,84,79,82,69,32]++(A++([58,32,80,82,73,78,84,32,34,71,79,84,79,32,48,34,59,48]))
 |5=>[79,78,32,69,82,82,79,82,32,71,79,84,79,32]++(A++([58,32,71,79,84,79,32]++(B)))
 |6=>[82,69,83,85,77,69,32]++(A)
 |7=>[69,82,82,79,82,32,88,58,32,71,79,84,79,32]++(A)
 |8=>[82,69,83,85,77,69,32,78,69,88,84,58,32,79,78,32,88,32,71,79,83,85,66,32]++(A++([44]++(B)))
 |9=>[73,70,32,88,32,84,72,69,78,32,82,69,83,85,77,69,32]++(A++([32,69,76,83,69,32,79,78,32,69,82,82,79,82,32,71,79,84,79,32]++(B)))
 |_=>[]
noncomputable def Ad (f a b:Nat):PT:=match f with
 |0=>.lst [.tup [.str [71,79,84,79],.int (a:Int)]]
 |1=>.lst [.tup [.str [79,78,71,79],.str [71,79,84,79],.tup [.str [110,97,109,101],.str [88]],.lst [.int (a:Int),.int (b:Int)]]]
 |2=>.lst [.tup [.str [73,70],.tup [.str [110,97,109,101],.str [88]],.lst [.tup [.str [71,79,84,79],.int (a:Int)]],.lst [.tup [.str [71,79,84,79],.int (b:Int)]]]]
 |3=>.lst [.tup [.str [71,79,83,85,66],.int (a:Int)],.tup [.str [82,69,84,85,82,78],.int (b:Int)]]
 |4=>.lst [.tup [.str [82,69,83,84,79,82,69],.int (a:Int)],.tup [.str [80,82,73,78,84],.none,.lst [.tup [.str [118,97,108,117,101],.tup [.str [116,101,120,116],.str [71,79,84,79,32,48]]],.tup [.str [103,108,117,101]],.tup [.str [118,97,108,117,101],.tup [.str [119,104,111,108,101],.int 0]]]]]
 |5=>.lst [.tup [.str [79,78,69,82,82],.int (a:Int)],.tup [.str [71,79,84,79],.int (b:Int)]]
 |6=>.lst [.tup [.str [82,69,83,85,77,69],IR a]]
 |7=>.lst [.tup [.str [69,82,82,79,82],.tup [.str [110,97,109,101],.str [88]]],.tup [.str [71,79,84,79],.int (a:Int)]]
 |8=>.lst [.tup [.str [82,69,83,85,77,69],.str [78,69,88,84]],.tup [.str [79,78,71,79],.str [71,79,83,85,66],.tup [.str [110,97,109,101],.str [88]],.lst [.int (a:Int),.int (b:Int)]]]
 |9=>.lst [.tup [.str [73,70],.tup [.str [110,97,109,101],.str [88]],.lst [.tup [.str [82,69,83,85,77,69],IR a]],.lst [.tup [.str [79,78,69,82,82],.int (b:Int)]]]]
 |_=>.none
section
variable{A B:List Nat}(hA:A.length≤20)(hB:B.length≤20)
include hA
theorem XO{k:Nat}{u:List Nat}(h:u.length+20≤k):(u++A).length≤k:=by
 rw[ae];exact ag (bW hA _) h
theorem aE{k:Nat}{u v:List Nat}(h:u.length+(20+v.length)≤k):(u++(A++v)).length≤k:=by
 simp only[ae,ae];exact ag (bW (ce hA _) _) h
include hB
theorem QH{k:Nat}{u v:List Nat}(h:u.length+(20+(v.length+20))≤k):(u++(A++(v++B))).length≤k:=by
 simp only[ae,ae,ae];exact ag (bW (Nat.add_le_add hA (bW hB _)) _) h
theorem Bj:∀f,(BR f A B).length≤90
 |0=>XO hA (by decide)
 |1=>QH hA hB (by decide)
 |2=>QH hA hB (by decide)
 |3=>QH hA hB (by decide)
 |4=>aE hA (by decide)
 |5=>QH hA hB (by decide)
 |6=>XO hA (by decide)
 |7=>XO hA (by decide)
 |8=>QH hA hB (by decide)
 |9=>QH hA hB (by decide)
 |_+10=>bC _
end
section
variable(a b:Nat)(ha:a<65530)(hb:b<65530)
include ha hb
theorem Y9:Da (BR 0 (AB a) (AB b)) (Ad 0 a b):=by
 haveI T:Dr (BR 0 (AB a) (AB b)) [AP true [71,79,84,79],.tup [.str AZ,.str (AB a)]]:=
  .cons (u:=[71,79,84,79]) (b:=[32]) (AV Gj nofun rfl ⟨rfl,rfl⟩ rfl rfl) nofun rfl (Dt _)
  (.last (BL (AS a) (AL _) (ag (AF _) (by decide)) rfl) (AL _))
 haveI hn:D9 [AP true [71,79,84,79],.tup [.str AZ,.str (AB a)]]=[AP true [71,79,84,79],.tup [.str AZ,.dig a]]:=by
  show [AP true [71,79,84,79],Cm (.tup [.str AZ,.str (AB a)])]=_
  rw[BU ha]
 exact Ap (k:=4) (m:=.int 2) (ag (Bj (AF _) (AF _) 0) (by decide)) rfl T rfl hn (fun _ _=>by kernel_rfl) (fun _ _=>by kernel_rfl) (fun _ _=>by kernel_rfl)
theorem ZA:Da (BR 1 (AB a) (AB b)) (Ad 1 a b):=by
 haveI T:Dr (BR 1 (AB a) (AB b)) [AP true [79,78],AP false [88],AP true [71,79,84,79],.tup [.str AZ,.str (AB a)],.tup [.str [115,105,103,110],.str [44]],.tup [.str AZ,.str (AB b)]]:=
  .cons (u:=[79,78]) (b:=[32]) (AV Up nofun rfl ⟨rfl,rfl⟩ rfl rfl) nofun rfl rfl
  (.cons (u:=[88]) (b:=[32]) (AV w_X nofun rfl ⟨rfl,rfl⟩ rfl rfl) nofun rfl rfl
  (.cons (u:=[71,79,84,79]) (b:=[32]) (AV Gj nofun rfl ⟨rfl,rfl⟩ rfl rfl) nofun rfl (HB _ _)
  (.cons (u:=AB a) (b:=[]) (BL (AS a) (AL _) (ag (AF _) (by decide)) rfl) (AL _) rfl rfl
  (.cons (u:=[44]) (b:=[]) (Cc rfl) nofun rfl (Dt _)
  (.last (BL (AS b) (AL _) (ag (AF _) (by decide)) rfl) (AL _))))))
 haveI hn:D9 [AP true [79,78],AP false [88],AP true [71,79,84,79],.tup [.str AZ,.str (AB a)],.tup [.str [115,105,103,110],.str [44]],.tup [.str AZ,.str (AB b)]]=[AP true [79,78],AP false [88],AP true [71,79,84,79],.tup [.str AZ,.dig a],.tup [.str [115,105,103,110],.str [44]],.tup [.str AZ,.dig b]]:=by
  show [AP true [79,78],AP false [88],AP true [71,79,84,79],Cm (.tup [.str AZ,.str (AB a)]),.tup [.str [115,105,103,110],.str [44]],Cm (.tup [.str AZ,.str (AB b)])]=_
  rw[BU ha,BU hb]
 exact Ap (k:=4) (m:=.int 6) (ag (Bj (AF _) (AF _) 1) (by decide)) rfl T rfl hn (fun _ _=>by kernel_rfl) (fun _ _=>by kernel_rfl) (fun _ _=>by kernel_rfl)
theorem ZB:Da (BR 2 (AB a) (AB b)) (Ad 2 a b):=by
 haveI T:Dr (BR 2 (AB a) (AB b)) [AP true [73,70],AP false [88],AP true [84,72,69,78],.tup [.str AZ,.str (AB a)],AP true [69,76,83,69],.tup [.str AZ,.str (AB b)]]:=
  .cons (u:=[73,70]) (b:=[32]) (AV Y8 nofun rfl ⟨rfl,rfl⟩ rfl rfl) nofun rfl rfl
  (.cons (u:=[88]) (b:=[32]) (AV w_X nofun rfl ⟨rfl,rfl⟩ rfl rfl) nofun rfl rfl
  (.cons (u:=[84,72,69,78]) (b:=[32]) (AV SO nofun rfl ⟨rfl,rfl⟩ rfl rfl) nofun rfl (HB _ _)
  (.cons (u:=AB a) (b:=[32]) (BL (AS a) (AL _) (ag (AF _) (by decide)) rfl) (AL _) rfl rfl
  (.cons (u:=[69,76,83,69]) (b:=[32]) (AV SM nofun rfl ⟨rfl,rfl⟩ rfl rfl) nofun rfl (Dt _)
  (.last (BL (AS b) (AL _) (ag (AF _) (by decide)) rfl) (AL _))))))
 haveI hn:D9 [AP true [73,70],AP false [88],AP true [84,72,69,78],.tup [.str AZ,.str (AB a)],AP true [69,76,83,69],.tup [.str AZ,.str (AB b)]]=[AP true [73,70],AP false [88],AP true [84,72,69,78],.tup [.str AZ,.dig a],AP true [69,76,83,69],.tup [.str AZ,.dig b]]:=by
  show [AP true [73,70],AP false [88],AP true [84,72,69,78],Cm (.tup [.str AZ,.str (AB a)]),AP true [69,76,83,69],Cm (.tup [.str AZ,.str (AB b)])]=_
  rw[BU ha,BU hb]
 exact Ap (k:=4) (m:=.int 6) (ag (Bj (AF _) (AF _) 2) (by decide)) rfl T rfl hn (fun _ _=>by kernel_rfl) (fun _ _=>by kernel_rfl) (fun _ _=>by kernel_rfl)
theorem ZC:Da (BR 3 (AB a) (AB b)) (Ad 3 a b):=by
 haveI T:Dr (BR 3 (AB a) (AB b)) [AP true [71,79,83,85,66],.tup [.str AZ,.str (AB a)],.tup [.str [115,105,103,110],.str [58]],AP true [82,69,84,85,82,78],.tup [.str AZ,.str (AB b)]]:=
  .cons (u:=[71,79,83,85,66]) (b:=[32]) (AV Ov nofun rfl ⟨rfl,rfl⟩ rfl rfl) nofun rfl (HB _ _)
  (.cons (u:=AB a) (b:=[]) (BL (AS a) (AL _) (ag (AF _) (by decide)) rfl) (AL _) rfl rfl
  (.cons (u:=[58]) (b:=[32]) (Cc rfl) nofun rfl rfl
  (.cons (u:=[82,69,84,85,82,78]) (b:=[32]) (AV SN nofun rfl ⟨rfl,rfl⟩ rfl rfl) nofun rfl (Dt _)
  (.last (BL (AS b) (AL _) (ag (AF _) (by decide)) rfl) (AL _)))))
 haveI hn:D9 [AP true [71,79,83,85,66],.tup [.str AZ,.str (AB a)],.tup [.str [115,105,103,110],.str [58]],AP true [82,69,84,85,82,78],.tup [.str AZ,.str (AB b)]]=[AP true [71,79,83,85,66],.tup [.str AZ,.dig a],.tup [.str [115,105,103,110],.str [58]],AP true [82,69,84,85,82,78],.tup [.str AZ,.dig b]]:=by
  show [AP true [71,79,83,85,66],Cm (.tup [.str AZ,.str (AB a)]),.tup [.str [115,105,103,110],.str [58]],AP true [82,69,84,85,82,78],Cm (.tup [.str AZ,.str (AB b)])]=_
  rw[BU ha,BU hb]
 exact Ap (k:=4) (m:=.int 5) (ag (Bj (AF _) (AF _) 3) (by decide)) rfl T rfl hn (fun _ _=>by kernel_rfl) (fun _ _=>by kernel_rfl) (fun _ _=>by kernel_rfl)
theorem ZD:Da (BR 4 (AB a) (AB b)) (Ad 4 a b):=by
 haveI T:Dr (BR 4 (AB a) (AB b)) [AP true [82,69,83,84,79,82,69],.tup [.str AZ,.str (AB a)],.tup [.str [115,105,103,110],.str [58]],AP true [80,82,73,78,84],.tup [.str [116,101,120,116],.str [71,79,84,79,32,48]],.tup [.str [115,105,103,110],.str [59]],.tup [.str AZ,.str [48]]]:=
  .cons (u:=[82,69,83,84,79,82,69]) (b:=[32]) (AV QG nofun rfl ⟨rfl,rfl⟩ rfl rfl) nofun rfl (HB _ _)
  (.cons (u:=AB a) (b:=[]) (BL (AS a) (AL _) (ag (AF _) (by decide)) rfl) (AL _) rfl rfl
  (.cons (u:=[58]) (b:=[32]) (Cc rfl) nofun rfl rfl
  (.cons (u:=[80,82,73,78,84]) (b:=[32]) (AV Uq nofun rfl ⟨rfl,rfl⟩ rfl rfl) nofun rfl rfl
  (.cons (u:=([34]++([71,79,84,79,32,48]++[34]))) (b:=[]) (SK (t:=[71,79,84,79,32,48]) rfl) nofun rfl rfl
  (.cons (u:=[59]) (b:=[]) (Cc rfl) nofun rfl rfl
  (.cons (u:=[48]) (b:=[]) (BL (s:=[48]) rfl nofun (by decide) rfl) nofun rfl rfl
  (.nil)))))))
 haveI hn:D9 [AP true [82,69,83,84,79,82,69],.tup [.str AZ,.str (AB a)],.tup [.str [115,105,103,110],.str [58]],AP true [80,82,73,78,84],.tup [.str [116,101,120,116],.str [71,79,84,79,32,48]],.tup [.str [115,105,103,110],.str [59]],.tup [.str AZ,.str [48]]]=[AP true [82,69,83,84,79,82,69],.tup [.str AZ,.dig a],.tup [.str [115,105,103,110],.str [58]],AP true [80,82,73,78,84],.tup [.str [116,101,120,116],.str [71,79,84,79,32,48]],.tup [.str [115,105,103,110],.str [59]],.tup [.str AZ,.str [48]]]:=by
  show [AP true [82,69,83,84,79,82,69],Cm (.tup [.str AZ,.str (AB a)]),.tup [.str [115,105,103,110],.str [58]],AP true [80,82,73,78,84],.tup [.str [116,101,120,116],.str [71,79,84,79,32,48]],.tup [.str [115,105,103,110],.str [59]],.tup [.str AZ,.str [48]]]=_
  rw[BU ha]
 exact Ap (k:=4) (m:=.int 7) (ag (Bj (AF _) (AF _) 4) (by decide)) rfl T rfl hn (fun _ _=>by kernel_rfl) (fun _ _=>by kernel_rfl) (fun _ _=>by kernel_rfl)
theorem ZE:Da (BR 5 (AB a) (AB b)) (Ad 5 a b):=by
 haveI T:Dr (BR 5 (AB a) (AB b)) [AP true [79,78],AP true [69,82,82,79,82],AP true [71,79,84,79],.tup [.str AZ,.str (AB a)],.tup [.str [115,105,103,110],.str [58]],AP true [71,79,84,79],.tup [.str AZ,.str (AB b)]]:=
  .cons (u:=[79,78]) (b:=[32]) (AV Up nofun rfl ⟨rfl,rfl⟩ rfl rfl) nofun rfl rfl
  (.cons (u:=[69,82,82,79,82]) (b:=[32]) (AV Kr nofun rfl ⟨rfl,rfl⟩ rfl rfl) nofun rfl rfl
  (.cons (u:=[71,79,84,79]) (b:=[32]) (AV Gj nofun rfl ⟨rfl,rfl⟩ rfl rfl) nofun rfl (HB _ _)
  (.cons (u:=AB a) (b:=[]) (BL (AS a) (AL _) (ag (AF _) (by decide)) rfl) (AL _) rfl rfl
  (.cons (u:=[58]) (b:=[32]) (Cc rfl) nofun rfl rfl
  (.cons (u:=[71,79,84,79]) (b:=[32]) (AV Gj nofun rfl ⟨rfl,rfl⟩ rfl rfl) nofun rfl (Dt _)
  (.last (BL (AS b) (AL _) (ag (AF _) (by decide)) rfl) (AL _)))))))
 haveI hn:D9 [AP true [79,78],AP true [69,82,82,79,82],AP true [71,79,84,79],.tup [.str AZ,.str (AB a)],.tup [.str [115,105,103,110],.str [58]],AP true [71,79,84,79],.tup [.str AZ,.str (AB b)]]=[AP true [79,78],AP true [69,82,82,79,82],AP true [71,79,84,79],.tup [.str AZ,.dig a],.tup [.str [115,105,103,110],.str [58]],AP true [71,79,84,79],.tup [.str AZ,.dig b]]:=by
  show [AP true [79,78],AP true [69,82,82,79,82],AP true [71,79,84,79],Cm (.tup [.str AZ,.str (AB a)]),.tup [.str [115,105,103,110],.str [58]],AP true [71,79,84,79],Cm (.tup [.str AZ,.str (AB b)])]=_
  rw[BU ha,BU hb]
 exact Ap (k:=4) (m:=.int 7) (ag (Bj (AF _) (AF _) 5) (by decide)) rfl T rfl hn (fun _ _=>by kernel_rfl) (fun _ _=>by kernel_rfl) (fun _ _=>by kernel_rfl)
theorem ZF:Da (BR 6 (AB a) (AB b)) (Ad 6 a b):=by
 have T:Dr (BR 6 (AB a) (AB b)) [AP true [82,69,83,85,77,69],.tup [.str AZ,.str (AB a)]]:=
  .cons (u:=[82,69,83,85,77,69]) (b:=[32]) (AV IS nofun rfl ⟨rfl,rfl⟩ rfl rfl) nofun rfl (Dt _)
  (.last (BL (AS a) (AL _) (ag (AF _) (by decide)) rfl) (AL _))
 have hn:D9 [AP true [82,69,83,85,77,69],.tup [.str AZ,.str (AB a)]]=[AP true [82,69,83,85,77,69],.tup [.str AZ,.dig a]]:=by
  show [AP true [82,69,83,85,77,69],Cm (.tup [.str AZ,.str (AB a)])]=_
  rw[BU ha]
 cases a with
 |zero=>exact Ap (k:=4) (m:=.int 2) (ag (Bj (AF _) (AF _) 6) (by decide)) rfl T rfl hn (fun _ _=>by kernel_rfl) (fun _ _=>by kernel_rfl) (fun _ _=>by kernel_rfl)
 |succ n=>exact Ap (k:=4) (m:=.int 2) (ag (Bj (AF _) (AF _) 6) (by decide)) rfl T rfl hn (fun _ _=>by kernel_rfl) (fun _ _=>by kernel_rfl) (fun _ _=>by kernel_rfl)
theorem ZG:Da (BR 7 (AB a) (AB b)) (Ad 7 a b):=by
 haveI T:Dr (BR 7 (AB a) (AB b)) [AP true [69,82,82,79,82],AP false [88],.tup [.str [115,105,103,110],.str [58]],AP true [71,79,84,79],.tup [.str AZ,.str (AB a)]]:=
  .cons (u:=[69,82,82,79,82]) (b:=[32]) (AV Kr nofun rfl ⟨rfl,rfl⟩ rfl rfl) nofun rfl rfl
  (.cons (u:=[88]) (b:=[]) (AV w_X nofun rfl ⟨rfl,rfl⟩ rfl rfl) nofun rfl rfl
  (.cons (u:=[58]) (b:=[32]) (Cc rfl) nofun rfl rfl
  (.cons (u:=[71,79,84,79]) (b:=[32]) (AV Gj nofun rfl ⟨rfl,rfl⟩ rfl rfl) nofun rfl (Dt _)
  (.last (BL (AS a) (AL _) (ag (AF _) (by decide)) rfl) (AL _)))))
 haveI hn:D9 [AP true [69,82,82,79,82],AP false [88],.tup [.str [115,105,103,110],.str [58]],AP true [71,79,84,79],.tup [.str AZ,.str (AB a)]]=[AP true [69,82,82,79,82],AP false [88],.tup [.str [115,105,103,110],.str [58]],AP true [71,79,84,79],.tup [.str AZ,.dig a]]:=by
  show [AP true [69,82,82,79,82],AP false [88],.tup [.str [115,105,103,110],.str [58]],AP true [71,79,84,79],Cm (.tup [.str AZ,.str (AB a)])]=_
  rw[BU ha]
 exact Ap (k:=4) (m:=.int 5) (ag (Bj (AF _) (AF _) 7) (by decide)) rfl T rfl hn (fun _ _=>by kernel_rfl) (fun _ _=>by kernel_rfl) (fun _ _=>by kernel_rfl)
theorem ZH:Da (BR 8 (AB a) (AB b)) (Ad 8 a b):=by
 haveI T:Dr (BR 8 (AB a) (AB b)) [AP true [82,69,83,85,77,69],AP true [78,69,88,84],.tup [.str [115,105,103,110],.str [58]],AP true [79,78],AP false [88],AP true [71,79,83,85,66],.tup [.str AZ,.str (AB a)],.tup [.str [115,105,103,110],.str [44]],.tup [.str AZ,.str (AB b)]]:=
  .cons (u:=[82,69,83,85,77,69]) (b:=[32]) (AV IS nofun rfl ⟨rfl,rfl⟩ rfl rfl) nofun rfl rfl
  (.cons (u:=[78,69,88,84]) (b:=[]) (AV XN nofun rfl ⟨rfl,rfl⟩ rfl rfl) nofun rfl rfl
  (.cons (u:=[58]) (b:=[32]) (Cc rfl) nofun rfl rfl
  (.cons (u:=[79,78]) (b:=[32]) (AV Up nofun rfl ⟨rfl,rfl⟩ rfl rfl) nofun rfl rfl
  (.cons (u:=[88]) (b:=[32]) (AV w_X nofun rfl ⟨rfl,rfl⟩ rfl rfl) nofun rfl rfl
  (.cons (u:=[71,79,83,85,66]) (b:=[32]) (AV Ov nofun rfl ⟨rfl,rfl⟩ rfl rfl) nofun rfl (HB _ _)
  (.cons (u:=AB a) (b:=[]) (BL (AS a) (AL _) (ag (AF _) (by decide)) rfl) (AL _) rfl rfl
  (.cons (u:=[44]) (b:=[]) (Cc rfl) nofun rfl (Dt _)
  (.last (BL (AS b) (AL _) (ag (AF _) (by decide)) rfl) (AL _)))))))))
 haveI hn:D9 [AP true [82,69,83,85,77,69],AP true [78,69,88,84],.tup [.str [115,105,103,110],.str [58]],AP true [79,78],AP false [88],AP true [71,79,83,85,66],.tup [.str AZ,.str (AB a)],.tup [.str [115,105,103,110],.str [44]],.tup [.str AZ,.str (AB b)]]=[AP true [82,69,83,85,77,69],AP true [78,69,88,84],.tup [.str [115,105,103,110],.str [58]],AP true [79,78],AP false [88],AP true [71,79,83,85,66],.tup [.str AZ,.dig a],.tup [.str [115,105,103,110],.str [44]],.tup [.str AZ,.dig b]]:=by
  show [AP true [82,69,83,85,77,69],AP true [78,69,88,84],.tup [.str [115,105,103,110],.str [58]],AP true [79,78],AP false [88],AP true [71,79,83,85,66],Cm (.tup [.str AZ,.str (AB a)]),.tup [.str [115,105,103,110],.str [44]],Cm (.tup [.str AZ,.str (AB b)])]=_
  rw[BU ha,BU hb]
 exact Ap (k:=4) (m:=.int 9) (ag (Bj (AF _) (AF _) 8) (by decide)) rfl T rfl hn (fun _ _=>by kernel_rfl) (fun _ _=>by kernel_rfl) (fun _ _=>by kernel_rfl)
theorem ZI:Da (BR 9 (AB a) (AB b)) (Ad 9 a b):=by
 have T:Dr (BR 9 (AB a) (AB b)) [AP true [73,70],AP false [88],AP true [84,72,69,78],AP true [82,69,83,85,77,69],.tup [.str AZ,.str (AB a)],AP true [69,76,83,69],AP true [79,78],AP true [69,82,82,79,82],AP true [71,79,84,79],.tup [.str AZ,.str (AB b)]]:=
  .cons (u:=[73,70]) (b:=[32]) (AV Y8 nofun rfl ⟨rfl,rfl⟩ rfl rfl) nofun rfl rfl
  (.cons (u:=[88]) (b:=[32]) (AV w_X nofun rfl ⟨rfl,rfl⟩ rfl rfl) nofun rfl rfl
  (.cons (u:=[84,72,69,78]) (b:=[32]) (AV SO nofun rfl ⟨rfl,rfl⟩ rfl rfl) nofun rfl rfl
  (.cons (u:=[82,69,83,85,77,69]) (b:=[32]) (AV IS nofun rfl ⟨rfl,rfl⟩ rfl rfl) nofun rfl (HB _ _)
  (.cons (u:=AB a) (b:=[32]) (BL (AS a) (AL _) (ag (AF _) (by decide)) rfl) (AL _) rfl rfl
  (.cons (u:=[69,76,83,69]) (b:=[32]) (AV SM nofun rfl ⟨rfl,rfl⟩ rfl rfl) nofun rfl rfl
  (.cons (u:=[79,78]) (b:=[32]) (AV Up nofun rfl ⟨rfl,rfl⟩ rfl rfl) nofun rfl rfl
  (.cons (u:=[69,82,82,79,82]) (b:=[32]) (AV Kr nofun rfl ⟨rfl,rfl⟩ rfl rfl) nofun rfl rfl
  (.cons (u:=[71,79,84,79]) (b:=[32]) (AV Gj nofun rfl ⟨rfl,rfl⟩ rfl rfl) nofun rfl (Dt _)
  (.last (BL (AS b) (AL _) (ag (AF _) (by decide)) rfl) (AL _))))))))))
 have hn:D9 [AP true [73,70],AP false [88],AP true [84,72,69,78],AP true [82,69,83,85,77,69],.tup [.str AZ,.str (AB a)],AP true [69,76,83,69],AP true [79,78],AP true [69,82,82,79,82],AP true [71,79,84,79],.tup [.str AZ,.str (AB b)]]=[AP true [73,70],AP false [88],AP true [84,72,69,78],AP true [82,69,83,85,77,69],.tup [.str AZ,.dig a],AP true [69,76,83,69],AP true [79,78],AP true [69,82,82,79,82],AP true [71,79,84,79],.tup [.str AZ,.dig b]]:=by
  show [AP true [73,70],AP false [88],AP true [84,72,69,78],AP true [82,69,83,85,77,69],Cm (.tup [.str AZ,.str (AB a)]),AP true [69,76,83,69],AP true [79,78],AP true [69,82,82,79,82],AP true [71,79,84,79],Cm (.tup [.str AZ,.str (AB b)])]=_
  rw[BU ha,BU hb]
 cases a with
 |zero=>exact Ap (k:=4) (m:=.int 10) (ag (Bj (AF _) (AF _) 9) (by decide)) rfl T rfl hn (fun _ _=>by kernel_rfl) (fun _ _=>by kernel_rfl) (fun _ _=>by kernel_rfl)
 |succ n=>exact Ap (k:=4) (m:=.int 10) (ag (Bj (AF _) (AF _) 9) (by decide)) rfl T rfl hn (fun _ _=>by kernel_rfl) (fun _ _=>by kernel_rfl) (fun _ _=>by kernel_rfl)
theorem Ur(f:Nat)(hf:f<10):Da (BR f (AB a) (AB b)) (Ad f a b):=match f,hf with
 |0,_=>Y9 a b ha hb
 |1,_=>ZA a b ha hb
 |2,_=>ZB a b ha hb
 |3,_=>ZC a b ha hb
 |4,_=>ZD a b ha hb
 |5,_=>ZE a b ha hb
 |6,_=>ZF a b ha hb
 |7,_=>ZG a b ha hb
 |8,_=>ZH a b ha hb
 |9,_=>ZI a b ha hb
 |n+10,h=>absurd h (bH.mpr (bU _ _))
end
noncomputable abbrev A2:=List (List Nat×List Nat)
noncomputable def flat:A2→List Nat→List Nat
 | [],q=>q
 |p::X,q=>p.1++(p.2++flat X q)
noncomputable def Ag (x:Nat×Nat×List Nat):D:=.tup [.int (x.1:Int),.int (x.2.1:Int)]
noncomputable def spL:Nat→A2→List (Nat×Nat×List Nat)
 |_,[]=>[]
 |i,p::X=>(i+p.1.length,i+p.1.length+p.2.length,p.2)::spL (i+p.1.length+p.2.length) X
noncomputable def posE:Nat→A2→Nat
 |i,[]=>i
 |i,p::X=>posE (i+p.1.length+p.2.length) X
def HQ (X:A2):Prop:= ∀p∈X,∃n,n<65530∧p.2=AB n
theorem HQ.tail{p:List Nat×List Nat}{X:A2}(h:HQ (p::X)):HQ X:=fun q m=>h q (.tail _ m)
theorem Suf.posE{l:List Nat}:∀(X:A2) (i:Nat) (r:List Nat),Suf l i (flat X r)→Suf l (Mine.posE i X) r
 | [],_,_,h=>h
 |_::X,_,_,h=>Suf.posE X _ _ h.skip.skip
theorem Nb{l:List Nat}:∀(X:A2) (i:Nat) (r:List Nat),Suf l i (flat X r)→HQ X→∀x∈spL i X,(∃n,n<65530∧x.2.2=AB n)∧∀σ:AA,D0 σ (.str l) (.int (x.1:Int)) (.int (x.2.1:Int))=some (.ok (.str x.2.2),σ)
 | [],_,_,_,_,_,m=>by contradiction
 |p::X,i,r,h,hX,x,m=>by
  cases m with
  |head=>exact ⟨hX p (.head _),fun σ=>h.skip.cut⟩
  |tail _ m=>exact Nb X _ r h.skip.skip hX.tail x m
theorem GK(d:Nat)(σ:AA){n:Nat}(h:n<65530):CC (d+2) 18 [.str (AB n)] σ=some (.ok (.int (n:Int)),σ):=by
 haveI z:=IN d (AB n) σ (AS n) ((BD n h).symm▸h) (am (AF n) (by decide))
 rwa[BD n h]at z
theorem Az{α:Type}{σ:AA}{k:Nat}{f:α→D}{l:List α}(h:σ[k]? =some (.lst (l.map f)))(c:List AI)(i:Nat):Aa 0 (.loc k) (σ++c) i=some (l[i]?.map f):=
 (show Aa 0 (.loc k) (σ++c) i=B5 (σ++c) (.loc k) (fun _ l=>some l[i]?) from rfl).trans ((Bb (Grw.app _ _ _ _ h) _).trans (congrArg some bN))
noncomputable def D5 (z:Bool) (n:List Nat):Bool:= !(z&&Nat.beq (BJ n) 0)
noncomputable def spK (z:Bool) (i:Nat) (X:A2):List D:=((spL i X).filter fun x=>D5 z x.2.2).map Ag
theorem Du:∀(X:A2) (i:Nat),(spL i X).length=X.length
 | [],_=>rfl
 |_::X,_=>congrArg (· +1) (Du X _)
theorem Cd{ev:E→AA→R}{e:E}{b:Bool}{σ σ1:AA}(h:ev e σ=some (.ok (.bool b),σ1)):Bg ev [e] σ=some (.ok b,σ1):=by
 show (match ev e σ with
  |some (.ok (.bool true),σ)=>Bg ev [] σ
  |some (.ok (.bool false),σ)=>some (.ok false,σ)
  |some (.ex c,σ)=>some (.error c,σ)
  |_=>none)=_
 refine h▸ ?_;cases b<;>rfl
theorem XQ(n:Nat):decide ((n:Int)=0)=Nat.beq n 0:=by cases n<;>rfl
theorem Nc(d:Nat){l r:List Nat}{k i:Nat}{X:A2}{σ:AA}(hk:σ[k]? =some (.lst ((spL i X).map Ag)))(h:Suf l i (flat X r))(hX:HQ X)(hl:X.length<400):CC (d+3) 29 [.str l,.loc k] σ=some (.ok (.loc σ.length),σ++[.lst (spK true i X)]):=by
 refine AX 2 4 C0 rfl rfl rfl rfl (BQ (Dp (call:=CC (d+2)) (n:=58) (items:=spL i X) (itemD:=Ag) (src:=.loc k) (en:=false) (τ:=σ) (fun x=>D5 true x.2.2) Ag (fun x=>[some (.str l),some (.loc k),some (.int (x.1:Int)),some (.int (x.2.1:Int))]) rfl (Az hk) ((Du X i).symm▸hl) (fun _=>rfl) (fun _ _=>rfl) (fun x m c=>Cd ?_) (fun x _ _ c=>rfl)) rfl);obtain ⟨⟨n,hn,en⟩,hc⟩:=Nb X i r h hX x m;haveI t:=GK (d+0) (σ++[c]) hn;haveI hb:(!decide ((n:Int)=0))=D5 true x.2.2:=by simp only[D5,en,BD n hn,XQ];rfl
 rw[←en]at t;exact (AK (Ax (AJ (hc ..) t)) rfl (Ys hb))
section
variable{l:List Nat}{i:Nat}(d:Nat)(σ:AA)
structure Gk (r:List Nat):Prop where
 ws:atP Gh r=false
 com:Ex2 fun b s=>A4 (r=b++s) (b.all Eu=true) (atP Eu s=false) (eqL (hd1 s) [44]=false)
theorem SP{r:List Nat}(h:atP Gh r=false):atP Ah r=false:=by
 cases r with
 |nil=>rfl
 |cons c r=>
  haveI h:(Iz c||(G9 c||(Ah c||_)))=false:=h
  simp only[ca]at h;exact h.2.2.1
theorem Dc{n:Nat}{l:List D}(x:D)(h:σ[n]? =some (.lst l))(hl:l.length<100000):BN σ .append (.loc n) [x]=some (.ok .none,AW σ n (.lst (l++[x]))):=
 (show BN σ .append (.loc n) [x]=B5 σ (.loc n) (fun n l=>if l.length<100000 then Ab .none (AW σ n (.lst (l++[x]))) else none) from rfl).trans ((Bb h _).trans (if_pos hl))
noncomputable abbrev gaT:E:=.and [(.cmp (.loc 4) [.gt] [(.loc 3)]),(.or [(.cmp (.loc 4) [.eq] [(.bi .len [(.loc 0)])]),(.not (.call 25 [(.idx (.loc 0) (.loc 4))]))])]
noncomputable abbrev gaB:List St:=[.exp (.meth .append (.loc 2) [(.tup [(.loc 3),(.loc 4)])]),.asg 1 (.loc 4),.asg 5 (.call 17 [(.loc 0),(.loc 4)]),.ite (.cmp (.slc (.loc 0) (some (.loc 5)) (some (.bin .add (.loc 5) (.cst (.int 1))))) [.ne] [(.cst (.str [44]))]) [.ret (.loc 1)] [],.asg 3 (.call 17 [(.loc 0),(.bin .add (.loc 5) (.cst (.int 1)))]),.asg 4 (.call 6 [(.loc 0),(.loc 3)])]
theorem XR{n:List Nat}(i:Nat)(hne:n≠[]):decide (((i+n.length:Nat):Int)>(i:Int))=true:=decide_eq_true (av.mpr (dC (cw.mpr hne)))
theorem MC{n r:List Nat}{x1 x2 x5:Option D}(h:Suf l i (n++r))(hne:n≠[])(hr:atP Gh r=false):ev (CC (d+2)) AD 57 gaT [some (.str l),x1,x2,some (.int (i:Int)),some (.int ((i+n.length:Nat):Int)),x5] σ=some (.ok (.bool true),σ):=by
 haveI h2:=h.skip;haveI hg:=XR i hne;generalize i+n.length=e at*;cases r with
 |nil=>
  have:decide ((e:Int)=(l.length:Int))=true:=decide_eq_true (congrArg _ h2.le);exact (Bh (a_T (AK rfl rfl (EA hg)) (C5 (C9 (o_T (AK rfl rfl (II this)))))))
 |cons c r=>
  have h3:decide ((e:Int)=(l.length:Int))=false:=decide_eq_false fun q=>bo h2.lt (bE.inj q);haveI hw:=Cb d σ c;rw[show Gh c=false from hr]at hw
  exact (Bh (a_T (AK rfl rfl (EA hg)) (C5 (C9 (o_F (AK rfl rfl (II h3)) (CR (Og (Ax (AJ (Ao rfl rfl h2.idx) hw)) rfl)))))))
theorem Ow{n r:List Nat}{x1 x5:Option D}{acc:List D}{f:Nat}(h:Suf l i (n++r))(hne:n≠[])(hr:Gk r)(hacc:acc.length<1000):∃ρ',whl (ev (CC (d+2)) AD 57 gaT) (exs (CC (d+2)) AD 57 gaB) (f+1) [some (.str l),x1,some (.loc σ.length),some (.int (i:Int)),some (.int ((i+n.length:Nat):Int)),x5] (σ++[.lst acc])=some (.ret (.int ((i+n.length:Nat):Int)),ρ',σ++[.lst (acc++[Ag (i,i+n.length,n)])]):=by
 obtain ⟨b,s,rfl,k1,k2,k3⟩:=hr.com;have h2:=h.skip;haveI e:=CT d (σ++[.lst (acc++[Ag (i,i+n.length,n)])]) h2 k1 k2;haveI ha:=Dc (σ++[.lst acc]) (Ag (i,i+n.length,n)) (AM _ _ _) (ai hacc (by decide))
 rw[BV]at ha;refine ⟨[some (.str l),some (.int ((i+n.length:Nat):Int)),some (.loc σ.length),some (.int (i:Int)),some (.int ((i+n.length:Nat):Int)),some (.int ((i+n.length+b.length:Nat):Int))],Ui (MC d _ h hne hr.ws) (x_k ?_)⟩;exact (GB (B8 rfl (EY _ (AM (AI.lst acc) [] σ)) ha) (AO rfl (AO e (AU (AK h2.skip.one rfl (Oh (congrArg not k3))) rfl))))
theorem Ks{n r:List Nat}(hn:n.all Ah=true)(hne:n≠[]):atP Eu (n++r)=false:=by
 cases n with
 |nil=>exact absurd rfl hne
 |cons c n=>
  simp only[bQ,aw]at hn;exact DY (P:=fun c=>Eu c=false) (by decide) hn.1
theorem Us{n m r:List Nat}{x1 x5:Option D}{acc:List D}{f:Nat}(h:Suf l i (n++44::(m++r)))(hne:n≠[])(hm:m.all Ah=true)(hme:m≠[])(hr:Gk r)(hacc:acc.length<1000):whl (ev (CC (d+2)) AD 57 gaT) (exs (CC (d+2)) AD 57 gaB) (f+1) [some (.str l),x1,some (.loc σ.length),some (.int (i:Int)),some (.int ((i+n.length:Nat):Int)),x5] (σ++[.lst acc])=whl (ev (CC (d+2)) AD 57 gaT) (exs (CC (d+2)) AD 57 gaB) f [some (.str l),some (.int ((i+n.length:Nat):Int)),some (.loc σ.length),some (.int ((i+n.length+1:Nat):Int)),some (.int ((i+n.length+1+m.length:Nat):Int)),some (.int ((i+n.length:Nat):Int))] (σ++[.lst (acc++[Ag (i,i+n.length,n)])]):=by
 haveI h2:=h.skip;haveI e:=CT d (σ++[.lst (acc++[Ag (i,i+n.length,n)])]) (s:=[]) h2 rfl rfl;haveI e2:=CT d (σ++[.lst (acc++[Ag (i,i+n.length,n)])]) (s:=[]) h2.next rfl (Ks hm hme);haveI e3:=C6 d (σ++[.lst (acc++[Ag (i,i+n.length,n)])]) h2.next hm (SP hr.ws);haveI ha:=Dc (σ++[.lst acc]) (Ag (i,i+n.length,n)) (AM _ _ _) (ai hacc (by decide))
 simp only[BV]at ha;refine Gg (MC d _ h hne rfl) (x_k ?_);exact (GB (B8 rfl (EY _ (AM (AI.lst acc) [] σ)) ha) (AO rfl (AO e (AU (AK h2.one rfl rfl) (As (AO e2 (AO e3 rfl)))))))
def Gat (s:List Nat) (X:A2):Prop:= ∀d l i σ,Suf l i s→CC (d+3) 30 [.str l,.int (i:Int),.loc σ.length] (σ++[.lst []])=some (.ok (.int ((posE i X:Nat):Int)),σ++[.lst ((spL i X).map Ag)])
theorem aF{b r:List Nat}(hb:b.all Eu=true)(hr:atP Eu r=false)(hf:atP Ah r=false):Gat (b++r) []:=by
 intro d l i σ h;haveI e1:=CT d (σ++[.lst []]) h hb hr;haveI e2:=C6 d (σ++[.lst []]) (s:=[]) h.skip rfl hf;haveI e3:decide (((i+b.length:Nat):Int)>((i+b.length:Nat):Int))=false:=decide_eq_false (Int.lt_irrefl _);haveI w:=Lz (f:=399) (ρ:=[some (.str l),some (.int (i:Int)),some (.loc σ.length),some (.int ((i+b.length:Nat):Int)),some (.int ((i+b.length:Nat):Int)),none]) (body:=exs (CC (d+2)) AD 57 gaB) (show ev (CC (d+2)) AD 57 gaT [some (.str l),some (.int (i:Int)),some (.loc σ.length),some (.int ((i+b.length:Nat):Int)),some (.int ((i+b.length:Nat):Int)),none] (σ++[.lst []])=_ from Bh (a_F (AK rfl rfl (EA e3))))
 exact AX 3 6 B0 rfl rfl rfl rfl (AO e1 (AO e2 (Ly w rfl)))
theorem aG{b n r:List Nat}(hb:b.all Eu=true)(hn:n.all Ah=true)(hne:n≠[])(hr:Gk r):Gat (b++(n++r)) [(b,n)]:=by
 intro d l i σ h;haveI e1:=CT d (σ++[.lst []]) h hb (Ks hn hne);haveI e2:=C6 d (σ++[.lst []]) h.skip hn (SP hr.ws);obtain ⟨ρ',w⟩:=Ow d σ (x1:=some (.int (i:Int))) (x5:=none) (acc:=[]) (f:=399) h.skip hne hr (by decide)
 exact AX 3 6 B0 rfl rfl rfl rfl (AO e1 (AO e2 (SD w rfl)))
theorem aH{b n m r:List Nat}(hb:b.all Eu=true)(hn:n.all Ah=true)(hne:n≠[])(hm:m.all Ah=true)(hme:m≠[])(hr:Gk r):Gat (b++(n++(44::(m++r)))) [(b,n),([44],m)]:=by
 intro d l i σ h;haveI e1:=CT d (σ++[.lst []]) h hb (Ks hn hne);haveI e2:=C6 d (σ++[.lst []]) h.skip hn rfl;obtain ⟨ρ',w⟩:=Ow d σ (x1:=some (.int ((i+b.length+n.length:Nat):Int))) (x5:=some (.int ((i+b.length+n.length:Nat):Int))) (acc:=[Ag (i+b.length,i+b.length+n.length,n)]) (f:=398) h.skip.skip.next hme hr (by decide:(1:Nat)<1000)
 haveI w2:=(Us d σ (x1:=some (.int (i:Int))) (x5:=none) (acc:=[]) (f:=399) h.skip hne hm hme hr (by decide)).trans w
 exact AX 3 6 B0 rfl rfl rfl rfl (AO e1 (AO e2 (SD w2 rfl)))
theorem Kt{t r:List Nat}(h:Suf l i (34::(t++34::r)))(ht:inL 34 t=false):CC (d+2) 27 [.str l,.int (i:Int)] σ=some (.ok (.int ((i+(t.length+2):Nat):Int)),σ):=by
 haveI e:i+(t.length+2)=i+1+t.length+1:=by rw[cu i];rfl
 rw[e];exact AX 2 3 Fx rfl rfl rfl rfl (AO (h.next.find ht) (BQ (CO (AK rfl rfl (Do (Y0 ..))) rfl) rfl))
end
noncomputable def MD:List (List Nat):=[[71,79,84,79],[71,79,83,85,66],[84,72,69,78],[69,76,83,69],[82,69,83,84,79,82,69],[82,69,83,85,77,69],[82,69,84,85,82,78]]
noncomputable def lead (w:List Nat):Bool:=MD.any fun x=>eqL x w
noncomputable def isNone (w ah:List Nat):Bool:=eqL w [82,69,83,85,77,69]||(eqL w [71,79,84,79]&&eqL ah [69,82,82,79,82])
noncomputable abbrev Ox:E:=.or [(.cmp (.loc 6) [.eq] [(.cst (.str [82,69,83,85,77,69]))]),(.and [(.cmp (.loc 6) [.eq] [(.cst (.str [71,79,84,79]))]),(.cmp (.loc 3) [.eq] [(.cst (.str [69,82,82,79,82]))])])]
noncomputable abbrev tsT:E:=.cmp (.loc 2) [.lt] [(.bi .len [(.loc 0)])]
noncomputable abbrev tsW:List St:=[.asg 5 (.call 26 [(.loc 0),(.loc 2)]),.asg 6 (.meth .upper (.slc (.loc 0) (some (.loc 2)) (some (.loc 5))) []),.ite (.cmp (.loc 6) [.eq] [(.cst (.str [82,69,77]))]) [.ret (.loc 1)] [],.asg 2 (.ite (.cmp (.loc 6) [.eq] [(.cst (.str [68,65,84,65]))]) .junk (.loc 5)),.ite (.cmp (.loc 6) [.isIn] [(.glob 9)]) [.asg 7 (.lst []),.asg 2 (.call 30 [(.loc 0),(.loc 5),(.loc 7)]),.asg 8 Ox,.exp (.meth .extend (.loc 1) [(.ite (.loc 8) (.call 29 [(.loc 0),(.loc 7)]) (.loc 7))])] [],.asg 3 (.loc 6)]
noncomputable abbrev tsB:List St:=[.asg 4 (.idx (.loc 0) (.loc 2)),.ite (.cmp (.loc 4) [.eq] [(.cst (.str [34]))]) [.asgT [2,3] (.tup [(.call 27 [(.loc 0),(.loc 2)]),(.cst (.str []))])] [.ite (.cmp (.loc 4) [.eq] [(.cst (.str [39]))]) [.junk] [.ite (.call 25 [(.loc 4)]) tsW [.asgT [2,3] (.tup [(.bin .add (.loc 2) (.cst (.int 1))),(.ite (.cmp (.loc 4) [.eq] [(.cst (.str [32]))]) (.loc 3) (.cst (.str [])))])]]]]
structure EZ (w r:List Nat):Prop where
 ne:w≠[]
 ws:w.all Gh=true
 nd:atP Gh r=false
 asc:(w.all fun c=>Nat.blt c 128)=true
 up:w.map upC=w
 rem:eqL w [82,69,77]=false
 dat:eqL w [68,65,84,65]=false
theorem MF{σ:AA}{w r:List Nat}(W:EZ w r)(hl:w.length<400):BN σ .upper (.str w) []=some (.ok (.str w),σ):=by
 refine (show BN σ .upper (.str w) []=(if (w.all fun c=>Nat.blt c 128)=true∧w.length<100000 then Ab (.str (w.map upC)) σ else none) from rfl).trans ((if_pos ⟨W.asc,ai hl (by decide)⟩).trans ?_)
 rw[W.up];rfl
noncomputable def CD (p:List Nat) (Y:A2×List Nat):A2×List Nat:=match Y with
 |([],q)=>([],p++q)
 |(x::X,q)=>((p++x.1,x.2)::X,q)
noncomputable def IT (z:Bool):A2→A2×List Nat→A2×List Nat
 | [],Y=>Y
 |p::X,Y=>sel (D5 z p.2) (p::(IT z X Y).1,(IT z X Y).2) (CD (p.1++p.2) (IT z X Y))
theorem En(i:Nat)(p:List Nat)(Y:A2×List Nat):spL i (CD p Y).1=spL (i+p.length) Y.1:=by
 match Y with
 |([],_)=>rfl
 |(x::X,_)=>
  show (i+(p++x.1).length,_)::spL (i+(p++x.1).length+_) X=(i+p.length+x.1.length,_)::spL (i+p.length+x.1.length+_) X
  rw[ae,←b8]
theorem Dd(p:List Nat)(Y:A2×List Nat):flat (CD p Y).1 (CD p Y).2=p++flat Y.1 Y.2:=by
 match Y with
 |([],_)=>rfl
 |(x::X,_)=>exact aZ _ _ _
theorem MG(z:Bool):∀(X:A2) (Y:A2×List Nat),flat (IT z X Y).1 (IT z X Y).2=flat X (flat Y.1 Y.2)
 | [],_=>rfl
 |p::X,Y=>by
  haveI ih:=MG z X Y;unfold IT;cases D5 z p.2 with
  |true=>exact congrArg (fun q=>p.1++(p.2++q)) ih
  |false=>exact (Dd _ _).trans ((congrArg (p.1++p.2++ ·) ih).trans (aZ _ _ _))
theorem SQ(z:Bool)(i:Nat)(p:List Nat×List Nat)(X:A2):spK z i (p::X)=sel (D5 z p.2) [Ag (i+p.1.length,i+p.1.length+p.2.length,p.2)] []++spK z (i+p.1.length+p.2.length) X:=by
 unfold spK;simp only[spL,cZ];cases D5 z p.2<;>rfl
theorem QI(i:Nat)(X:A2):spK false i X=(spL i X).map Ag:=congrArg (List.map Ag) (dD.mpr fun _ _=>rfl)
theorem Oy(z:Bool):∀(X:A2) (i:Nat) (Y:A2×List Nat),(spL i (IT z X Y).1).map Ag=spK z i X++(spL (posE i X) Y.1).map Ag
 | [],_,_=>rfl
 |p::X,i,Y=>by
  haveI ih:=Oy z X (i+p.1.length+p.2.length) Y;simp only[SQ];unfold IT;cases D5 z p.2 with
  |true=>exact congrArg (Ag (i+p.1.length,i+p.1.length+p.2.length,p.2):: ·) ih
  |false=>
   show (spL i (CD (p.1++p.2) (IT z X Y)).1).map Ag=_
   rw[En,ae,←b8];exact ih
inductive Sp:List Nat→List Nat→A2×List Nat→Prop
 |nil {ah}:Sp ah [] ([],[])
 |blank {ah r Y}:Sp ah r Y→Sp ah (32::r) (CD [32] Y)
 |other {ah c r Y}:eqL [c] [34]=false→eqL [c] [39]=false→Gh c=false→eqL [c] [32]=false→Sp [] r Y→Sp ah (c::r) (CD [c] Y)
 |quote {ah t r Y}:inL 34 t=false→Sp [] r Y→Sp ah (34::(t++34::r)) (CD (34::(t++[34])) Y)
 |word {ah w r Y}:EZ w r→lead w=false→Sp w r Y→Sp ah (w++r) (CD w Y)
 |lead {ah w r X Y}:EZ w (Mine.flat X r)→lead w=true→Gat (Mine.flat X r) X→HQ X→Sp w r Y→Sp ah (w++Mine.flat X r) (CD w (IT (isNone w ah) X Y))
theorem Sp.flat{ah s Y}(H:Sp ah s Y):Mine.flat Y.1 Y.2=s:=by
 induction H with
 |nil=>rfl
 |blank _ ih=>exact (Dd _ _).trans (congrArg (32:: ·) ih)
 |other _ _ _ _ _ ih=>exact (Dd _ _).trans (congrArg (_:: ·) ih)
 |quote _ _ ih=>simp only[Dd,ih,cN,aZ];rfl
 |word _ _ _ ih=>simp only[Dd,ih]
 |lead _ _ _ _ _ ih=>simp only[Dd,MG,ih]
section
variable{l:List Nat}{i:Nat}(d:Nat)(σ:AA)
theorem Oz{w r:List Nat}(h:Suf l i (w++r)):w.length<400:=am (by simp only[ae];exact bR _ _) h.sml
section
variable{N:Nat}{ah:List Nat}{x4 x5 x6 x7 x8:Option D}
theorem Jp{c:Nat}{r:List Nat}{ah':List Nat}(h:Suf l i (c::r))(h1:eqL [c] [34]=false)(h2:eqL [c] [39]=false)(h3:Gh c=false)(h4:sel (eqL [c] [32]) ah []=ah'):exs (CC (d+4)) AD 58 tsB [some (.str l),some (.loc N),some (.int (i:Int)),some (.str ah),x4,x5,x6,x7,x8] σ=some (.nxt,[some (.str l),some (.loc N),some (.int ((i+1:Nat):Int)),some (.str ah'),some (.str [c]),x5,x6,x7,x8],σ):=by
 haveI w:=Cb (d+2) σ c;rw[h3]at w;haveI e:∀n,ev (CC (d+4)) AD (n+1) (sel (eqL [c] [32]) (.loc 3) (.cst (.str []))) [some (.str l),some (.loc N),some (.int (i:Int)),some (.str ah),some (.str [c]),x5,x6,x7,x8] σ=some (.ok (.str ah'),σ):=fun n=>by
  subst h4;cases eqL [c] [32]<;>rfl
 refine x_k ?_;exact (AO (Ao rfl rfl h.idx) (AU (AK rfl rfl (BK h1)) (AU (AK rfl rfl (BK h2)) (AU w (BC (Bi (AJ rfl (AJ (CO rfl (e ..)) rfl))) rfl rfl rfl)))))
theorem Nd{t r:List Nat}(h:Suf l i (34::(t++34::r)))(ht:inL 34 t=false):exs (CC (d+4)) AD 58 tsB [some (.str l),some (.loc N),some (.int (i:Int)),some (.str ah),x4,x5,x6,x7,x8] σ=some (.nxt,[some (.str l),some (.loc N),some (.int ((i+(t.length+2):Nat):Int)),some (.str []),some (.str [34]),x5,x6,x7,x8],σ):=by
 refine x_k ?_;exact (AO (Ao rfl rfl h.idx) (AU rfl (BC (Bi (AJ (Kt (d+2) σ h ht) rfl)) rfl rfl rfl)))
theorem QJ{w r:List Nat}(h:Suf l i (w++r))(W:EZ w r)(hw:lead w=false):Ex3 fun y4 y5 y6=> exs (CC (d+4)) AD 58 tsB [some (.str l),some (.loc N),some (.int (i:Int)),some (.str ah),x4,x5,x6,x7,x8] σ=some (.nxt,[some (.str l),some (.loc N),some (.int ((i+w.length:Nat):Int)),some (.str w),y4,y5,y6,x7,x8],σ):=by
 haveI e1:=HA (d+1) σ h W.ws W.nd;haveI hup:=MF (σ:=σ) W (Oz h);haveI hc:=h.cut (σ:=σ);have e2:BA σ .isIn (.str w) (.tup (MD.map .str))=some false:=(Kk MD).trans (congrArg some hw);haveI k1:=W.rem;haveI k2:=W.dat;cases w with
 |nil=>exact absurd rfl W.ne
 |cons c w=>
  have hws:=W.ws;simp only[bQ,aw]at hws;haveI e3:=Cb (d+2) σ c;rw[hws.1]at e3;refine ⟨some (.str [c]),some (.int ((i+(c::w).length:Nat):Int)),some (.str (c::w)),x_k ?_⟩;exact (AO (Ao rfl rfl h.idx) (AU (AK rfl rfl (BK (Dq (k:=34) hws.1 rfl))) (AU (AK rfl rfl (BK (Dq (k:=39) hws.1 rfl))) (AU e3 (AO e1 (AO (B8 hc rfl hup) (AU (AK rfl rfl (BK k1)) (As (AO (CO (AK rfl rfl (BK k2)) rfl) (AU (AK rfl rfl e2) rfl))))))))))
end
end
theorem XS{σ:AA}{k:Nat}{c:AI}(h:σ[k]? =some c):k<σ.length:=(ap.mp h).1
theorem QK{call:Call}{n:Nat}{w ah:List Nat}{x0 x1 x2 x4 x5 x7 x8:Option D}{σ:AA}:ev call AD (n+4) Ox [x0,x1,x2,some (.str ah),x4,x5,some (.str w),x7,x8] σ=some (.ok (.bool (isNone w ah)),σ):=
 C9 (FE (AK rfl rfl (BK rfl)) (CR (Bh (G3 (AK rfl rfl (BK rfl)) (C5 (AK rfl rfl (BK rfl)))))))
theorem O0(z:Bool)(i:Nat)(X:A2):(spK z i X).length≤X.length:=by
 simp only[spK,ak];exact ag (cf _ _) (cI (Du X i))
section
variable{l:List Nat}{i:Nat}(d:Nat)(σ:AA)
theorem QL{ah w r:List Nat}{X:A2}{acc:List D}{g0:List AI}{x4 x5 x6 x7 x8:Option D}(h:Suf l i (w++flat X r))(W:EZ w (flat X r))(hw:lead w=true)(G:Gat (flat X r) X)(hX:HQ X)(hacc:acc.length+X.length<400):
  Ex6 fun g y4 y5 y6 y7 y8=> exs (CC (d+4)) AD 58 tsB [some (.str l),some (.loc σ.length),some (.int (i:Int)),some (.str ah),x4,x5,x6,x7,x8] (σ++ .lst acc::g0)=some (.nxt,[some (.str l),some (.loc σ.length),some (.int ((posE (i+w.length) X:Nat):Int)),some (.str w),y4,y5,y6,y7,y8],σ++ .lst (acc++spK (isNone w ah) (i+w.length) X)::g):=by
 haveI hf:(σ++ .lst acc::g0)[σ.length]? =some (.lst acc):=AM _ _ _;haveI hlen:=XS hf;haveI hset:∀g l',AW (σ++ .lst acc::g0++g) σ.length (.lst l')=σ++ .lst l'::(g0++g):=fun g l'=>by rw[aZ];exact BV _ _ _ _
 haveI e1:=HA (d+1) (σ++ .lst acc::g0) h W.ws W.nd;haveI hup:=MF (σ:=σ++ .lst acc::g0) W (Oz h);haveI hc:=h.cut (σ:=σ++ .lst acc::g0);have e2:BA (σ++ .lst acc::g0) .isIn (.str w) (.tup (MD.map .str))=some true:=(Kk MD).trans (congrArg some hw);have hsp:acc.length+((spL (i+w.length) X).map Ag).length<100000:=by rw[ak,Du];exact ai hacc (by decide)
 haveI hk:=O0 true (i+w.length) X;have k1:=W.rem;haveI k2:=W.dat;haveI eg:=G (d+1) l (i+w.length) (σ++ .lst acc::g0) h.skip;haveI en:CC (d+4) 29 [.str l,.loc (σ++ .lst acc::g0).length] (σ++ .lst acc::g0++[.lst ((spL (i+w.length) X).map Ag)])=_:=Nc (d+1) (AM _ _ _) h.skip hX (am (bU _ _) hacc);generalize hS:σ++AI.lst acc::g0=S at*;cases w with
 |nil=>exact absurd rfl W.ne
 |cons c w=>
  have hws:=W.ws;simp only[bQ,aw]at hws;haveI e3:=Cb (d+2) S c;rw[hws.1]at e3;haveI hi:=fun n=>QK (call:=CC (d+4)) (n:=n) (w:=c::w) (ah:=ah) (x0:=some (.str l)) (x1:=some (.loc σ.length)) (x2:=some (.int ((posE (i+(c::w).length) X:Nat):Int))) (x4:=some (.str [c])) (x5:=some (.int ((i+(c::w).length:Nat):Int))) (x7:=some (.loc S.length)) (x8:=x8) (σ:=S++[.lst ((spL (i+(c::w).length) X).map Ag)]);haveI hf1:=Grw.app S [.lst ((spL (i+(c::w).length) X).map Ag)] _ _ hf;cases q:isNone (c::w) ah with
  |false=>
   haveI hi:=fun n=>(hi n).trans (congrArg (fun b=>some (Ro.ok (D.bool b),S++[AI.lst ((spL (i+(c::w).length) X).map Ag)])) q);haveI ex:=Em (S++[.lst ((spL (i+(c::w).length) X).map Ag)]) hf1 (AM _ _ S) hsp (bo hlen);rw[hset]at ex;refine ⟨g0++[.lst ((spL (i+(c::w).length) X).map Ag)],some (.str [c]),some (.int ((i+(c::w).length:Nat):Int)),some (.str (c::w)),some (.loc S.length),some (.bool false),x_k ?_⟩;rw[QI];exact (AO (Ao rfl rfl h.idx) (AU (AK rfl rfl (BK (Dq (k:=34) hws.1 rfl))) (AU (AK rfl rfl (BK (Dq (k:=39) hws.1 rfl))) (AU e3 (AO e1 (AO (B8 hc rfl hup) (AU (AK rfl rfl (BK k1)) (As (AO (CO (AK rfl rfl (BK k2)) rfl) (AU (AK rfl rfl e2) (AO rfl (AO eg (AO (hi ..) (GB (B8 rfl (GI _ hf1) ex) rfl))))))))))))))
  |true=>
   haveI hi:=fun n=>(hi n).trans (congrArg (fun b=>some (Ro.ok (D.bool b),S++[AI.lst ((spL (i+(c::w).length) X).map Ag)])) q);haveI ex:=Em (S++[.lst ((spL (i+(c::w).length) X).map Ag)]++[.lst (spK true (i+(c::w).length) X)]) (Grw.app _ _ _ _ hf1) (AM _ _ (S++[.lst ((spL (i+(c::w).length) X).map Ag)])) (am (bW hk _) (ai hacc (by decide))) (bo (bv hlen (by simp only[ae];exact bR _ _)))
   rw[aZ,hset,←aZ S]at ex;refine ⟨g0++([.lst ((spL (i+(c::w).length) X).map Ag)]++[.lst (spK true (i+(c::w).length) X)]),some (.str [c]),some (.int ((i+(c::w).length:Nat):Int)),some (.str (c::w)),some (.loc S.length),some (.bool true),x_k ?_⟩;exact (AO (Ao rfl rfl h.idx) (AU (AK rfl rfl (BK (Dq (k:=34) hws.1 rfl))) (AU (AK rfl rfl (BK (Dq (k:=39) hws.1 rfl))) (AU e3 (AO e1 (AO (B8 hc rfl hup) (AU (AK rfl rfl (BK k1)) (As (AO (CO (AK rfl rfl (BK k2)) rfl) (AU (AK rfl rfl e2) (AO rfl (AO eg (AO (hi ..) (GB (B8 rfl (GI _ hf1) (AJ en ex)) rfl))))))))))))))
theorem IU:∀(X:A2) (r:List Nat),HQ X→X.length+r.length≤(flat X r).length
 | [],_,_=>cI (bc _)
 |p::X,r,h=>by
  haveI ih:=IU X r h.tail;obtain ⟨n,_,e⟩:=h p (.head _);haveI h1:0<p.2.length:=cw.mpr (e▸AL n)
  show X.length+1+r.length≤(p.1++(p.2++flat X r)).length
  simp only[ae,ae];lia
theorem GL{x1 x3 x4 x5 x6 x7 x8:Option D}{c:Nat}{s:List Nat}(h:Suf l i (c::s)):ev (CC (d+4)) AD 58 tsT [some (.str l),x1,some (.int (i:Int)),x3,x4,x5,x6,x7,x8] σ=some (.ok (.bool true),σ):=AK rfl rfl (Do h.ltT)
theorem Ut{s ah:List Nat}{Y:A2×List Nat}(H:Sp ah s Y):∀(f i:Nat) (acc:List D) (g0:List AI) (x4 x5 x6 x7 x8:Option D),Suf l i s→s.length<f→acc.length+s.length<400→
  Ex2 fun g ρ'=> whl (ev (CC (d+4)) AD 58 tsT) (exs (CC (d+4)) AD 58 tsB) f [some (.str l),some (.loc σ.length),some (.int (i:Int)),some (.str ah),x4,x5,x6,x7,x8] (σ++ .lst acc::g0)=some (.nxt,ρ',σ++ .lst (acc++(spL i Y.1).map Ag)::g)∧ρ'[1]? =some (some (.loc σ.length)):=by
 induction H with
 | @nil ah=>
  intro f i acc g0 x4 x5 x6 x7 x8 h hf _;cases f with
  |zero=>contradiction
  |succ f=>
   refine ⟨g0,[some (.str l),some (.loc σ.length),some (.int (i:Int)),some (.str ah),x4,x5,x6,x7,x8],(Lz (AK rfl rfl (Do h.ltF))).trans ?_,rfl⟩;rw[show (spL i ([]:A2)).map Ag=[] from rfl,af]
 | @blank ah r Y H ih=>
  intro f i acc g0 x4 x5 x6 x7 x8 h hf ha;cases f with
  |zero=>contradiction
  |succ f=>
   rw[En];obtain ⟨g,ρ',e,e'⟩:=ih f (i+1) acc g0 (some (.str [32])) x5 x6 x7 x8 h.next (cY hf) (Nat.lt_of_succ_lt ha);exact ⟨g,ρ',(Gg (GL d _ h) (Jp d _ h rfl rfl rfl rfl)).trans e,e'⟩
 | @other ah c r Y h1 h2 h3 h4 H ih=>
  intro f i acc g0 x4 x5 x6 x7 x8 h hf ha;cases f with
  |zero=>contradiction
  |succ f=>
   rw[En];obtain ⟨g,ρ',e,e'⟩:=ih f (i+1) acc g0 (some (.str [c])) x5 x6 x7 x8 h.next (cY hf) (Nat.lt_of_succ_lt ha);exact ⟨g,ρ',(Gg (GL d _ h) (Jp d _ h h1 h2 h3 (by refine h4▸ ?_;rfl))).trans e,e'⟩
 | @quote ah t r Y ht H ih=>
  intro f i acc g0 x4 x5 x6 x7 x8 h hf ha;cases f with
  |zero=>contradiction
  |succ f=>
   rw[En];simp only[bF,ae]at hf ha;haveI e2:i+(34::(t++[34])).length=i+(t.length+2):=by simp only[bF,ae];rfl
   haveI e3:i+(t.length+2)=i+1+t.length+1:=by rw[cu i];rfl
   rw[e2];obtain ⟨g,ρ',e,e'⟩:=ih f (i+(t.length+2)) acc g0 (some (.str [34])) x5 x6 x7 x8 (e3▸h.next.skip.next) (by lia) (by lia)
   exact ⟨g,ρ',(Gg (GL d _ h) (Nd d _ h ht)).trans e,e'⟩
 | @word ah w r Y W hw H ih=>
  intro f i acc g0 x4 x5 x6 x7 x8 h hf ha;cases f with
  |zero=>contradiction
  |succ f=>
   rw[En];rw[ae]at hf ha;haveI hp:=cw.mpr W.ne;obtain ⟨y4,y5,y6,t⟩:=QJ d (σ++ .lst acc::g0) (N:=σ.length) (ah:=ah) (x4:=x4) (x5:=x5) (x6:=x6) (x7:=x7) (x8:=x8) h W hw;obtain ⟨g,ρ',e,e'⟩:=ih f (i+w.length) acc g0 y4 y5 y6 x7 x8 h.skip (by lia) (by lia)
   cases w with
   |nil=>exact absurd rfl W.ne
   |cons c w=>exact ⟨g,ρ',(Gg (GL d _ h) t).trans e,e'⟩
 | @lead ah w r X Y W hw G hX H ih=>
  intro f i acc g0 x4 x5 x6 x7 x8 h hf ha;cases f with
  |zero=>contradiction
  |succ f=>
   rw[En,Oy,←aZ];rw[ae]at hf ha;haveI hp:=cw.mpr W.ne;haveI hl:=IU X r hX;haveI hk:=O0 (isNone w ah) (i+w.length) X;obtain ⟨g1,y4,y5,y6,y7,y8,t⟩:=QL d σ (ah:=ah) (g0:=g0) (x4:=x4) (x5:=x5) (x6:=x6) (x7:=x7) (x8:=x8) h W hw G hX (acc:=acc) (by lia)
   obtain ⟨g,ρ',e,e'⟩:=ih f (posE (i+w.length) X) (acc++spK (isNone w ah) (i+w.length) X) g1 y4 y5 y6 y7 y8 (h.skip.posE X _ r) (by lia) (by rw[ae];lia)
   cases w with
   |nil=>exact absurd rfl W.ne
   |cons c w=>exact ⟨g,ρ',(Gg (GL d _ h) t).trans e,e'⟩
end
theorem DP(d:Nat){l:List Nat}{Y:A2×List Nat}(σ:AA)(hl:l.length<400)(H:Sp [] l Y):∃g,CC (d+5) 28 [.str l] σ=some (.ok (.loc σ.length),σ++ .lst ((spL 0 Y.1).map Ag)::g):=by
 obtain ⟨g,ρ',w,e⟩:=Ut d σ H 400 0 [] [] none none none none none (Suf.all hl) hl (by simp only[bY,bc];exact hl)
 refine ⟨g,?_⟩;exact AX 1 9 FA rfl rfl rfl rfl (BC rfl rfl rfl (Ly w (BQ (GC e) rfl)))
noncomputable abbrev Jq:=List (List Nat×Nat×Bool)×List Nat
noncomputable def keep (z:Bool) (n:Nat):Bool:= !(z&&Nat.beq n 0)
noncomputable def Bo:List (List Nat×Nat×Bool)→List Nat→A2×List Nat
 | [],q=>([],q)
 |x::L,q=>sel (keep x.2.2 x.2.1) ((x.1,AB x.2.1)::(Bo L q).1,(Bo L q).2) (CD (x.1++AB x.2.1) (Bo L q))
noncomputable def seg (Y:Jq):A2×List Nat:=Bo Y.1 Y.2
noncomputable def QM (p:List Nat) (Y:Jq):Jq:=match Y with
 |([],q)=>([],p++q)
 |(x::L,q)=>((p++x.1,x.2)::L,q)
theorem Jr(p q:List Nat)(Y:A2×List Nat):CD p (CD q Y)=CD (p++q) Y:=by
 match Y with
 |([],r)=>exact congrArg (Prod.mk []) (aZ _ _ _).symm
 |(x::X,r)=>exact congrArg (fun z=>((z,x.2)::X,r)) (aZ _ _ _).symm
theorem GM(p:List Nat)(Y:Jq):seg (QM p Y)=CD p (seg Y):=by
 match Y with
 |([],q)=>rfl
 |(x::L,q)=>
  show sel (keep x.2.2 x.2.1) (((p++x.1,AB x.2.1)::(Bo L q).1,(Bo L q).2)) (CD (p++x.1++AB x.2.1) (Bo L q))=CD p (sel (keep x.2.2 x.2.1) ((x.1,AB x.2.1)::(Bo L q).1,(Bo L q).2) (CD (x.1++AB x.2.1) (Bo L q)))
  cases keep x.2.2 x.2.1 with
  |true=>rfl
  |false=>
   show CD (p++x.1++AB x.2.1) (Bo L q)=CD p (CD (x.1++AB x.2.1) (Bo L q))
   rw[Jr,aZ]
theorem Ku{n:Nat}(z:Bool)(h:n<65530):D5 z (AB n)=keep z n:=by simp only[D5,BD n h];rfl
theorem SS:Gk []:=⟨rfl,[],[],rfl,rfl,rfl,rfl⟩
section
variable{ah w b r t:List Nat}{c n m:Nat}{z:Bool}{Y:Jq}
theorem XU:Sp ah [] (seg ([],[])):=.nil
theorem Ae(h:Sp ah r (seg Y)):Sp ah (32::r) (seg (QM [32] Y)):=GM [32] Y▸ .blank h
theorem De(h1:eqL [c] [34]=false)(h2:eqL [c] [39]=false)(h3:Gh c=false)(h4:eqL [c] [32]=false)(h:Sp [] r (seg Y)):Sp ah (c::r) (seg (QM [c] Y)):=GM [c] Y▸ .other h1 h2 h3 h4 h
theorem ST(ht:inL 34 t=false)(h:Sp [] r (seg Y)):Sp ah (34::(t++34::r)) (seg (QM (34::(t++[34])) Y)):=GM (34::(t++[34])) Y▸ .quote ht h
theorem BM(W:EZ w r)(hw:lead w=false)(h:Sp w r (seg Y)):Sp ah (w++r) (seg (QM w Y)):=GM w Y▸ .word W hw h
theorem IV(W:EZ w (b++r))(hw:lead w=true)(hb:b.all Eu=true)(hr:atP Eu r=false)(hf:atP Ah r=false)(h:Sp w (b++r) (seg Y)):Sp ah (w++(b++r)) (seg (QM w Y)):=GM w Y▸Sp.lead (X:=[]) W hw (aF hb hr hf) (fun _ m=>by contradiction) h
theorem ZJ(hn:n<65530):HQ [(b,AB n)]:=fun p m=>by rw[bA.mp m];exact ⟨n,hn,rfl⟩
theorem Eo(W:EZ w (b++(AB n++r)))(hw:lead w=true)(hz:isNone w ah=z)(hb:b.all Eu=true)(hn:n<65530)(hr:Gk r)(h:Sp w r (seg Y)):Sp ah (w++(b++(AB n++r))) (seg ((w++b,n,z)::Y.1,Y.2)):=by
 haveI k:=Sp.lead (ah:=ah) (X:=[(b,AB n)]) (r:=r) W hw (aG hb (AS n) (AL n) hr) (ZJ hn) h;haveI e:CD w (IT z [(b,AB n)] (seg Y))=seg ((w++b,n,z)::Y.1,Y.2):=by
  show CD w (sel (D5 z (AB n)) _ _)=sel (keep z n) _ _
  simp only[Ku z hn];cases keep z n with
  |true=>rfl
  |false=>
   show CD w (CD (b++AB n) (seg Y))=CD (w++b++AB n) (seg Y)
   simp only[Jr,aZ]
 rw[←e,←hz];exact k
theorem C7(W:EZ w (b++AB n))(hw:lead w=true)(hz:isNone w ah=z)(hb:b.all Eu=true)(hn:n<65530):Sp ah (w++(b++AB n)) (seg ([(w++b,n,z)],[])):=by
 haveI e:=af (AB n);haveI k:=Eo (r:=[]) (Y:=([],[])) (e.symm▸W) hw hz hb hn SS .nil;rwa[e]at k
theorem Js(W:EZ w (b++(AB n++(44::AB m))))(hw:lead w=true)(hz:isNone w ah=false)(hb:b.all Eu=true)(hn:n<65530)(hm:m<65530):Sp ah (w++(b++(AB n++(44::AB m)))) (seg ([(w++b,n,false),([44],m,false)],[])):=by
 haveI e:=af (AB m);haveI k:=Sp.lead (ah:=ah) (w:=w) (X:=[(b,AB n),([44],AB m)]) (r:=[]) (Y:=([],[])) (show EZ w (b++(AB n++(44::(AB m++[])))) from e.symm▸W) hw (aH hb (AS n) (AL n) (AS m) (AL m) SS) (fun p q=>by
  rcases aj.mp q with rfl|q
  ·exact ⟨n,hn,rfl⟩
  ·rw[bA.mp q];exact ⟨m,hm,rfl⟩) .nil
 rw[hz]at k;haveI k:Sp ah (w++(b++(AB n++(44::(AB m++[]))))) (seg ([(w++b,n,false),([44],m,false)],[])):=k;rwa[e]at k
end
noncomputable def slots (f a b:Nat):Jq:=match f with
 |0=>([([71,79,84,79,32],a,false)],[])
 |1=>([([79,78,32,88,32,71,79,84,79,32],a,false),([44],b,false)],[])
 |2=>([([73,70,32,88,32,84,72,69,78,32],a,false),([32,69,76,83,69,32],b,false)],[])
 |3=>([([71,79,83,85,66,32],a,false),([58,32,82,69,84,85,82,78,32],b,false)],[])
 |4=>([([82,69,83,84,79,82,69,32],a,false)],[58,32,80,82,73,78,84,32,34,71,79,84,79,32,48,34,59,48])
 |5=>([([79,78,32,69,82,82,79,82,32,71,79,84,79,32],a,true),([58,32,71,79,84,79,32],b,false)],[])
 |6=>([([82,69,83,85,77,69,32],a,true)],[])
 |7=>([([69,82,82,79,82,32,88,58,32,71,79,84,79,32],a,false)],[])
 |8=>([([82,69,83,85,77,69,32,78,69,88,84,58,32,79,78,32,88,32,71,79,83,85,66,32],a,false),([44],b,false)],[])
 |9=>([([73,70,32,88,32,84,72,69,78,32,82,69,83,85,77,69,32],a,true),([32,69,76,83,69,32,79,78,32,69,82,82,79,82,32,71,79,84,79,32],b,true)],[])
 |_=>([],[])
section
variable(a b:Nat)(ha:a<65530)(hb:b<65530)
include ha hb
theorem aI:Sp [] (BR 0 (AB a) (AB b)) (seg (slots 0 a b)):=(C7 (w:=[71,79,84,79]) (b:=[32]) ⟨nofun,rfl,rfl,rfl,rfl,rfl,rfl⟩ rfl rfl rfl ha)
theorem aJ:Sp [] (BR 1 (AB a) (AB b)) (seg (slots 1 a b)):=(BM (w:=[79,78]) ⟨nofun,rfl,rfl,rfl,rfl,rfl,rfl⟩ rfl (Ae (BM (w:=[88]) ⟨nofun,rfl,rfl,rfl,rfl,rfl,rfl⟩ rfl (Ae (Js (w:=[71,79,84,79]) (b:=[32]) ⟨nofun,rfl,rfl,rfl,rfl,rfl,rfl⟩ rfl rfl rfl ha hb)))))
theorem aK:Sp [] (BR 2 (AB a) (AB b)) (seg (slots 2 a b)):=(BM (w:=[73,70]) ⟨nofun,rfl,rfl,rfl,rfl,rfl,rfl⟩ rfl (Ae (BM (w:=[88]) ⟨nofun,rfl,rfl,rfl,rfl,rfl,rfl⟩ rfl (Ae (Eo (w:=[84,72,69,78]) (b:=[32]) (r:=[32,69,76,83,69,32]++(AB b)) ⟨nofun,rfl,rfl,rfl,rfl,rfl,rfl⟩ rfl rfl rfl ha ⟨rfl,[32],_,rfl,rfl,rfl,rfl⟩ (Ae (C7 (w:=[69,76,83,69]) (b:=[32]) ⟨nofun,rfl,rfl,rfl,rfl,rfl,rfl⟩ rfl rfl rfl hb)))))))
theorem aM:Sp [] (BR 3 (AB a) (AB b)) (seg (slots 3 a b)):=(Eo (w:=[71,79,83,85,66]) (b:=[32]) (r:=[58,32,82,69,84,85,82,78,32]++(AB b)) ⟨nofun,rfl,rfl,rfl,rfl,rfl,rfl⟩ rfl rfl rfl ha ⟨rfl,[],_,rfl,rfl,rfl,rfl⟩ (De rfl rfl rfl rfl (Ae (C7 (w:=[82,69,84,85,82,78]) (b:=[32]) ⟨nofun,rfl,rfl,rfl,rfl,rfl,rfl⟩ rfl rfl rfl hb))))
theorem aN:Sp [] (BR 4 (AB a) (AB b)) (seg (slots 4 a b)):=(Eo (w:=[82,69,83,84,79,82,69]) (b:=[32]) (r:=[58,32,80,82,73,78,84,32,34,71,79,84,79,32,48,34,59,48]) ⟨nofun,rfl,rfl,rfl,rfl,rfl,rfl⟩ rfl rfl rfl ha ⟨rfl,[],_,rfl,rfl,rfl,rfl⟩ (De rfl rfl rfl rfl (Ae (BM (w:=[80,82,73,78,84]) ⟨nofun,rfl,rfl,rfl,rfl,rfl,rfl⟩ rfl (Ae (ST (t:=[71,79,84,79,32,48]) rfl (De rfl rfl rfl rfl (BM (w:=[48]) ⟨nofun,rfl,rfl,rfl,rfl,rfl,rfl⟩ rfl XU))))))))
theorem aO:Sp [] (BR 5 (AB a) (AB b)) (seg (slots 5 a b)):=(BM (w:=[79,78]) ⟨nofun,rfl,rfl,rfl,rfl,rfl,rfl⟩ rfl (Ae (BM (w:=[69,82,82,79,82]) ⟨nofun,rfl,rfl,rfl,rfl,rfl,rfl⟩ rfl (Ae (Eo (w:=[71,79,84,79]) (b:=[32]) (r:=[58,32,71,79,84,79,32]++(AB b)) ⟨nofun,rfl,rfl,rfl,rfl,rfl,rfl⟩ rfl rfl rfl ha ⟨rfl,[],_,rfl,rfl,rfl,rfl⟩ (De rfl rfl rfl rfl (Ae (C7 (w:=[71,79,84,79]) (b:=[32]) ⟨nofun,rfl,rfl,rfl,rfl,rfl,rfl⟩ rfl rfl rfl hb))))))))
theorem aP:Sp [] (BR 6 (AB a) (AB b)) (seg (slots 6 a b)):=(C7 (w:=[82,69,83,85,77,69]) (b:=[32]) ⟨nofun,rfl,rfl,rfl,rfl,rfl,rfl⟩ rfl rfl rfl ha)
theorem aQ:Sp [] (BR 7 (AB a) (AB b)) (seg (slots 7 a b)):=(BM (w:=[69,82,82,79,82]) ⟨nofun,rfl,rfl,rfl,rfl,rfl,rfl⟩ rfl (Ae (BM (w:=[88]) ⟨nofun,rfl,rfl,rfl,rfl,rfl,rfl⟩ rfl (De rfl rfl rfl rfl (Ae (C7 (w:=[71,79,84,79]) (b:=[32]) ⟨nofun,rfl,rfl,rfl,rfl,rfl,rfl⟩ rfl rfl rfl ha))))))
theorem aR:Sp [] (BR 8 (AB a) (AB b)) (seg (slots 8 a b)):=(IV (w:=[82,69,83,85,77,69]) (b:=[32]) (r:=[78,69,88,84,58,32,79,78,32,88,32,71,79,83,85,66,32]++(AB a++([44]++(AB b)))) ⟨nofun,rfl,rfl,rfl,rfl,rfl,rfl⟩ rfl rfl rfl rfl (Ae (BM (w:=[78,69,88,84]) ⟨nofun,rfl,rfl,rfl,rfl,rfl,rfl⟩ rfl (De rfl rfl rfl rfl (Ae (BM (w:=[79,78]) ⟨nofun,rfl,rfl,rfl,rfl,rfl,rfl⟩ rfl (Ae (BM (w:=[88]) ⟨nofun,rfl,rfl,rfl,rfl,rfl,rfl⟩ rfl (Ae (Js (w:=[71,79,83,85,66]) (b:=[32]) ⟨nofun,rfl,rfl,rfl,rfl,rfl,rfl⟩ rfl rfl rfl ha hb))))))))))
theorem aS:Sp [] (BR 9 (AB a) (AB b)) (seg (slots 9 a b)):=(BM (w:=[73,70]) ⟨nofun,rfl,rfl,rfl,rfl,rfl,rfl⟩ rfl (Ae (BM (w:=[88]) ⟨nofun,rfl,rfl,rfl,rfl,rfl,rfl⟩ rfl (Ae (IV (w:=[84,72,69,78]) (b:=[32]) (r:=[82,69,83,85,77,69,32]++(AB a++([32,69,76,83,69,32,79,78,32,69,82,82,79,82,32,71,79,84,79,32]++(AB b)))) ⟨nofun,rfl,rfl,rfl,rfl,rfl,rfl⟩ rfl rfl rfl rfl (Ae (Eo (w:=[82,69,83,85,77,69]) (b:=[32]) (r:=[32,69,76,83,69,32,79,78,32,69,82,82,79,82,32,71,79,84,79,32]++(AB b)) ⟨nofun,rfl,rfl,rfl,rfl,rfl,rfl⟩ rfl rfl rfl ha ⟨rfl,[32],_,rfl,rfl,rfl,rfl⟩ (Ae (IV (w:=[69,76,83,69]) (b:=[32]) (r:=[79,78,32,69,82,82,79,82,32,71,79,84,79,32]++(AB b)) ⟨nofun,rfl,rfl,rfl,rfl,rfl,rfl⟩ rfl rfl rfl rfl (Ae (BM (w:=[79,78]) ⟨nofun,rfl,rfl,rfl,rfl,rfl,rfl⟩ rfl (Ae (BM (w:=[69,82,82,79,82]) ⟨nofun,rfl,rfl,rfl,rfl,rfl,rfl⟩ rfl (Ae (C7 (w:=[71,79,84,79]) (b:=[32]) ⟨nofun,rfl,rfl,rfl,rfl,rfl,rfl⟩ rfl rfl rfl hb)))))))))))))))
theorem XV(f:Nat)(hf:f<10):Sp [] (BR f (AB a) (AB b)) (seg (slots f a b)):=match f,hf with
 |0,_=>aI a b ha hb
 |1,_=>aJ a b ha hb
 |2,_=>aK a b ha hb
 |3,_=>aM a b ha hb
 |4,_=>aN a b ha hb
 |5,_=>aO a b ha hb
 |6,_=>aP a b ha hb
 |7,_=>aQ a b ha hb
 |8,_=>aR a b ha hb
 |9,_=>aS a b ha hb
 |n+10,h=>absurd h (bH.mpr (bU _ _))
end
structure Tx (l:List Nat) (Y:A2×List Nat):Prop where
 len:l.length<256
 sp:Sp [] l Y
 num:HQ Y.1
theorem Tx.suf{l:List Nat}{Y:A2×List Nat}(T:Tx l Y):Suf l 0 (flat Y.1 Y.2):=by
 simp only[T.sp.flat];exact Suf.all (ai T.len (by decide))
theorem Tx.few{l:List Nat}{Y:A2×List Nat}(T:Tx l Y):Y.1.length<256:=by
 haveI h:=IU Y.1 Y.2 T.num;simp only[T.sp.flat]at h;exact am (ag (bR _ _) h) T.len
noncomputable def FW (X:A2):List Nat:=X.map fun p=>BJ p.2
theorem MH:∀(X:A2) (i:Nat),(spL i X).map (fun x=>BJ x.2.2)=FW X
 | [],_=>rfl
 |p::X,_=>congrArg (BJ p.2:: ·) (MH X _)
noncomputable def AG (l:List Nat):List D:=l.map fun (n:Nat)=>.int (n:Int)
theorem I0(d:Nat){l:List Nat}{Y:A2×List Nat}(σ:AA)(T:Tx l Y):Ex2 fun g k=>A3 (σ.length≤k) (CC (d+6) 31 [.str l] σ=some (.ok (.loc k),σ++g)) ((σ++g)[k]? =some (.lst (AG (FW Y.1)))):=by
 obtain ⟨g,e⟩:=DP d σ (ai T.len (by decide)) T.sp
 haveI hk:=AM (AI.lst ((spL 0 Y.1).map Ag)) g σ;refine ⟨.lst ((spL 0 Y.1).map Ag)::g++[.lst (AG (FW Y.1))],(σ++ .lst ((spL 0 Y.1).map Ag)::g).length,by simp only[ae];exact bR _ _,?_,by rw[←aZ];exact AM _ _ _⟩
 rw[←aZ];generalize σ++AI.lst ((spL 0 Y.1).map Ag)::g=τ at*;haveI c:=Ol (call:=CC (d+5)) (n:=58) (tup:=true) (tgt:=[1,2]) (en:=false) (items:=spL 0 Y.1) (itemD:=Ag) (src:=.loc σ.length) (elt:=.call 18 [.slc (.loc 0) (some (.loc 1)) (some (.loc 2))]) (it:=.call 28 [.loc 0]) (ρ:=[some (.str l),none,none]) (σ:=σ) (fun x=>.int (BJ x.2.2:Int)) (fun x=>[some (.str l),some (.int (x.1:Int)),some (.int (x.2.1:Int))]) (Ax (AJ rfl e)) (Az hk) ((Du _ _).symm▸ai T.few (by decide)) (fun _=>rfl) (fun _ _=>rfl) (fun x m c=>by
  obtain ⟨⟨n,hn,en⟩,hc⟩:=Nb Y.1 0 Y.2 T.suf T.num x m;haveI t:=GK (d+3) (τ++[c]) hn;rw[←en]at t;rw[show BJ x.2.2=n by rw[en,BD n hn]]
  exact (Ax (AJ (hc ..) t)))
 rw[show (spL 0 Y.1).map (fun x=>D.int (BJ x.2.2:Int))=AG (FW Y.1) by rw[←MH Y.1 0,AG,az];rfl]at c
 exact AX 1 3 FC rfl rfl rfl rfl (BQ c rfl)
noncomputable def C8:List (Nat×Nat)→Nat→Option Nat
 | [],_=>none
 |p::l,k=>if p.1=k then some p.2 else C8 l k
noncomputable def tM (M:List (Nat×Nat)):List (Int×D):=M.map fun p=>((p.1:Int),.int (p.2:Int))
theorem O1{a b:Nat}:((a:Int)=(b:Int))=(a=b):=propext ⟨bE.inj,congrArg _⟩
theorem GN(n:Nat):∀(M:List (Nat×Nat)),Bv (tM M) (n:Int)=(C8 M n).map fun (k:Nat)=>.int (k:Int)
 | []=>rfl
 |p::M=>by
  haveI ih:=GN n M
  show (if (p.1:Int)=(n:Int) then some (D.int (p.2:Int)) else Bv (tM M) (n:Int))=(if p.1=n then some p.2 else C8 M n).map fun (k:Nat)=>D.int (k:Int)
  by_cases h:p.1=n
  ·rw[if_pos h,if_pos (congrArg _ h)];rfl
  ·rw[if_neg h,if_neg (O1▸h)];exact ih
theorem SU(n:Nat):∀(M:List (Nat×Nat)),((tM M).any fun p=>decide (p.1=(n:Int)))=(C8 M n).isSome
 | []=>rfl
 |p::M=>by
  haveI ih:=SU n M
  show (decide ((p.1:Int)=(n:Int))||(tM M).any fun p=>decide (p.1=(n:Int)))=(if p.1=n then some p.2 else C8 M n).isSome
  by_cases h:p.1=n
  ·rw[if_pos h,decide_eq_true (congrArg _ h)];rfl
  ·rw[if_neg h,decide_eq_false (O1▸h)];exact ih
set_option tactic.hygienic true in
theorem Ep{n k:Nat}:∀{M:List (Nat×Nat)},C8 M n=some k→(n,k)∈M
 | [],h=>xns h
 |p::M,h=>by
  unfold C8 at h;split at h
  ·rename_i q;(injection h with h;subst h);cases p;subst q;exact .head _
  ·exact .tail _ (Ep h)
noncomputable def rp (M:List (Nat×Nat)) (n:Nat):Nat:=(C8 M n).getD n
section
variable{σ:AA}{t:Nat}
theorem O2{l:List (Int×D)}(h:σ[t]? =some (.dcti l))(k:Int):BA σ .isIn (.int k) (.loc t)=some (l.any fun p=>decide (p.1=k)):=congrArg (fun o:Option AI=>o.bind (LC σ (.int k))) h
theorem IW{l:List (Int×D)}(h:σ[t]? =some (.dcti l))(k:Int):EB σ (.loc t) (.int k)=Bv l k:=congrArg (fun o:Option AI=>o.bind (TQ (.int k))) h
theorem Hd{k:Nat}(h:k<1000000000):Dg σ .str [.int (k:Int)]=some (.ok (.str (AB k)),σ):=if_pos (be.mpr h)
theorem add_str{a b:List Nat}(h:a.length+b.length<1000000):Bw σ .add (.str a) (.str b)=some (.ok (.str (a++b)),σ):=if_pos h
end
noncomputable abbrev SV:List St:=[.asg 6 (.call 18 [(.slc (.loc 0) (some (.loc 4)) (some (.loc 5)))]),.asg 2 (.bin .add (.bin .add (.loc 2) (.slc (.loc 0) (some (.loc 3)) (some (.loc 4)))) (.ite (.cmp (.loc 6) [.isIn] [(.loc 1)]) (.bi .str [(.idx (.loc 1) (.loc 6))]) (.slc (.loc 0) (some (.loc 4)) (some (.loc 5))))),.asg 3 (.loc 5)]
noncomputable def HD (M:List (Nat×Nat)) (X:A2):A2:=X.map fun p=>(p.1,AB (rp M (BJ p.2)))
theorem Uu(d:Nat){l:List Nat}{σ:AA}{t i:Nat}{M:List (Nat×Nat)}{p:List Nat×List Nat}{r acc:List Nat}{x6:Option D}(ht:σ[t]? =some (.dcti (tM M)))(hM:∀p∈M,p.2<1000000)(h:Suf l i (p.1++(p.2++r)))(hp:∃n,n<65530∧p.2=AB n)(hacc:acc.length<900000):
  ∃y6,exs (CC (d+5)) AD 58 SV [some (.str l),some (.loc t),some (.str acc),some (.int (i:Int)),some (.int ((i+p.1.length:Nat):Int)),some (.int ((i+p.1.length+p.2.length:Nat):Int)),x6] σ=some (.nxt,[some (.str l),some (.loc t),some (.str (acc++p.1++AB (rp M (BJ p.2)))),some (.int ((i+p.1.length+p.2.length:Nat):Int)),some (.int ((i+p.1.length:Nat):Int)),some (.int ((i+p.1.length+p.2.length:Nat):Int)),y6],σ):=by
 obtain ⟨n,hn,en⟩:=hp;haveI c1:=h.skip.cut (σ:=σ);haveI c2:=h.cut (σ:=σ);haveI hl:=Oz h;haveI t1:=GK (d+3) σ hn;rw[←en]at t1;rw[show BJ p.2=n by rw[en,BD n hn]]
 haveI a1:=add_str (σ:=σ) (a:=acc) (b:=p.1) (by lia)
 haveI hd:=AF (rp M n);haveI a2:=add_str (σ:=σ) (a:=acc++p.1) (b:=AB (rp M n)) (by rw[ae];lia)
 haveI hi:=O2 ht (n:Int);rw[SU]at hi;haveI hx:=IW ht (n:Int);simp only[GN]at hx;refine ⟨some (.int (n:Int)),x_k ?_⟩;unfold rp at*;cases q:C8 M n with
 |none=>
  rw[q]at hi hx a2;have a2:Bw σ .add (.str (acc++p.1)) (.str p.2)=some (.ok (.str (acc++p.1++AB n)),σ):=en▸a2;exact (AO (Ax (AJ c1 t1)) (AO (BE (BE rfl c2 a1) (CO (AK rfl rfl hi) c1) a2) rfl))
 |some k=>
  rw[q]at hi hx a2;haveI hs:=Hd (σ:=σ) (k:=k) (ai (hM _ (Ep q)) (by decide))
  exact (AO (Ax (AJ c1 t1)) (AO (BE (BE rfl c2 a1) (CO (AK rfl rfl hi) (HP (AJ (Ao rfl rfl hx) hs))) a2) rfl))
theorem HR(d:Nat){l:List Nat}{Y:A2×List Nat}{M:List (Nat×Nat)}{t:Nat}(σ:AA)(T:Tx l Y)(ht:σ[t]? =some (.dcti (tM M)))(hM:∀p∈M,p.2<1000000):∃g,CC (d+6) 32 [.str l,.loc t] σ=some (.ok (.str (flat (HD M Y.1) Y.2)),σ++g):=by
 obtain ⟨g,e⟩:=DP d σ (ai T.len (by decide)) T.sp
 refine ⟨.lst ((spL 0 Y.1).map Ag)::g,?_⟩;haveI hk:=AM (AI.lst ((spL 0 Y.1).map Ag)) g σ;haveI ht':=Grw.app σ (.lst ((spL 0 Y.1).map Ag)::g) _ _ ht;generalize σ++AI.lst ((spL 0 Y.1).map Ag)::g=τ at*;obtain ⟨ρ',σ',w,rfl,X,i,acc,x4,x5,x6,hX,hN,hs,rfl,hf,hb⟩:=By (items:=spL 0 Y.1) (itemD:=Ag) (kind:=0) (src:=.loc σ.length) (tup:=true) (tgt:=[4,5]) (body:=exs (CC (d+5)) AD 58 SV)
  (fun s ρ τ'=>τ'=τ∧Ex6 fun X i acc x4 x5 x6=>A6 (s=spL i X) (HQ X) (Suf l i (flat X Y.2)) (ρ=[some (.str l),some (.loc t),some (.str acc),some (.int (i:Int)),x4,x5,x6]) (acc++flat (HD M X) Y.2=flat (HD M Y.1) Y.2) (acc.length+600*X.length≤600*256))
  (fun s ρ τ' I i=>by rw[I.1];haveI z:=Az hk [] i;rwa[af]at z) (fun a s ρ τ' I=>by
  obtain ⟨rfl,X,i,acc,x4,x5,x6,hX,hN,hs,rfl,hf,hb⟩:=I;cases X with
  |nil=>contradiction
  |cons p X=>
   obtain ⟨rfl,rfl⟩:=bI.inj hX;haveI hl:=Oz hs;haveI hd:=AF (rp M (BJ p.2));simp only[bF]at hb;obtain ⟨y6,b⟩:=Uu d (x6:=x6) (acc:=acc) ht' hM hs (hN p (.head _)) (by lia)
   exact ⟨_,_,_,rfl,b,rfl,X,_,_,_,_,_,rfl,hN.tail,hs.skip.skip,rfl,by rw[←hf,aZ,aZ];rfl,by rw[ae,ae];lia⟩) (spL 0 Y.1) 400 0 [some (.str l),some (.loc t),some (.str []),some (.int ((0:Nat):Int)),none,none,none] τ rfl ((Du _ _).symm▸ai T.few (by decide)) ⟨rfl,Y.1,0,[],none,none,none,rfl,T.num,T.suf,rfl,rfl,by haveI:=T.few;simp only[bY];lia⟩
 cases X with
 |cons=>contradiction
 |nil=>
  haveI hr:=Suf.rest (σ:=σ') hs;haveI a1:=add_str (σ:=σ') (a:=acc) (b:=Y.2) (by haveI:=hs.sml;haveI:(flat [] Y.2).length=Y.2.length:=rfl;haveI:600*([]:A2).length=0:=rfl;lia)
  simp only[show acc++Y.2=_ from hf]at a1
  exact AX 2 7 D4 rfl rfl rfl rfl (BC rfl rfl rfl (DX e w (BQ (BE rfl hr a1) rfl)))
noncomputable def nnA (f:Nat):Bool:=match f with
 |5=>true|6=>true|9=>true|_=>false
noncomputable def nnB (f:Nat):Bool:=match f with
 |9=>true|_=>false
noncomputable def SW (f:Nat):Nat:=match f with
 |0=>1|1=>2|2=>2|3=>2|4=>1|5=>2|6=>1|7=>1|8=>2|9=>2|_=>0
noncomputable def Bd (M:List (Nat×Nat)) (z:Bool) (n:Nat):Nat:=match Nat.beq n 0&&z with
 |true=>n
 |false=>rp M n
noncomputable def Bu (f a b:Nat):List (Nat×Bool):=([(a,nnA f),(b,nnB f)]:List (Nat×Bool)).take (SW f)
noncomputable def Cj (f a b:Nat):List Nat:=((Bu f a b).filter fun p=>keep p.2 p.1).map (·.1)
noncomputable def QN (M:List (Nat×Nat)) (p:Nat×Bool):Bool:=p.2&&(Nat.beq (Bd M p.2 p.1) 0&& !Nat.beq p.1 0)
noncomputable def Uv (M:List (Nat×Nat)) (f a b:Nat):Bool:=QN M (a,nnA f)||QN M (b,nnB f)
theorem CP{P:Nat→Prop}(h0:P 0)(h1:P 1)(h2:P 2)(h3:P 3)(h4:P 4)(h5:P 5)(h6:P 6)(h7:P 7)(h8:P 8)(h9:P 9):∀f,f<10→P f
 |0,_=>h0|1,_=>h1|2,_=>h2|3,_=>h3|4,_=>h4|5,_=>h5|6,_=>h6|7,_=>h7|8,_=>h8|9,_=>h9
 |n+10,h=>absurd h (bH.mpr (bU _ _))
noncomputable abbrev SlL:=List (List Nat×Nat×Bool)
noncomputable def Jt:SlL→List Nat→List Nat
 | [],q=>q
 |x::L,q=>x.1++(AB x.2.1++Jt L q)
noncomputable def MI (M:List (Nat×Nat)) (L:SlL):SlL:=L.map fun x=>(x.1,Bd M x.2.2 x.2.1,x.2.2)
def SmS (L:SlL):Prop:= ∀x∈L,x.2.1<65530
section
variable{M:List (Nat×Nat)}{p q:List Nat}
theorem SX(p:List Nat)(Y:A2×List Nat):(CD p Y).1.map (·.2)=Y.1.map (·.2):=by
 match Y with
 |([],_)=>rfl
 |(_::_,_)=>rfl
theorem Gl:∀L:SlL,(Bo L q).1.map (·.2)=(L.filter fun x=>keep x.2.2 x.2.1).map fun x=>AB x.2.1
 | []=>rfl
 |x::L=>by
  haveI ih:=Gl L;simp only[Bo,cZ];cases keep x.2.2 x.2.1 with
  |true=>exact congrArg (AB x.2.1:: ·) ih
  |false=>exact (SX _ _).trans ih
theorem SY{L:SlL}(h:SmS L):HQ (Bo L q).1:=fun p m=>by
 haveI m2:p.2∈(Bo L q).1.map (·.2):=bn m
 rw[Gl]at m2;obtain ⟨x,hx,e⟩:=bT.mp m2;exact ⟨_,h x (cz.mp hx).1,e.symm⟩
theorem Nf{α β:Type}{f g:α→β}{l:List α}(h:∀x∈l,f x=g x):l.map f=l.map g:=cD h
theorem QO{L:SlL}(h:SmS L):FW (Bo L q).1=(L.filter fun x=>keep x.2.2 x.2.1).map fun x=>x.2.1:=by
 haveI e:FW (Bo L q).1=((Bo L q).1.map (·.2)).map BJ:=by simp only[az];rfl
 simp only[e,Gl,az];exact Nf fun x m=>BD _ (h x (cz.mp m).1)
theorem SZ(p:List Nat)(Y:A2×List Nat):flat (HD M (CD p Y).1) (CD p Y).2=p++flat (HD M Y.1) Y.2:=by
 match Y with
 |([],_)=>rfl
 |(x::X,_)=>exact aZ _ _ _
theorem Ju:∀L:SlL,SmS L→flat (HD M (Bo L q).1) (Bo L q).2=Jt (MI M L) q
 | [],_=>rfl
 |x::L,h=>by
  haveI ih:=Ju L fun y m=>h y (.tail _ m);haveI hd:=BD _ (h x (.head _))
  show _=x.1++(AB (Bd M x.2.2 x.2.1)++Jt (MI M L) q)
  rw[Bo,keep,Bd,Bool.and_comm];cases Nat.beq x.2.1 0&&x.2.2 with
  |true=>exact (SZ _ _).trans (by simp only[ih,aZ])
  |false=>
   show x.1++(AB (rp M (BJ (AB x.2.1)))++flat (HD M (Bo L q).1) (Bo L q).2)=_
   simp only[ih,hd]
theorem Uw(p:List Nat)(Y:A2×List Nat):(CD p Y).1.length=Y.1.length:=by
 match Y with
 |([],_)=>rfl
 |(_::_,_)=>rfl
theorem O3(x:List Nat×Nat×Bool)(L:SlL):(Bo (x::L) q).1.length=(keep x.2.2 x.2.1).toNat+(Bo L q).1.length:=by
 simp only[Bo];cases keep x.2.2 x.2.1 with
 |true=>exact Nat.add_comm _ _
 |false=>exact (Uw _ _).trans (bc _).symm
theorem MJ:∀L:SlL,(Bo (MI M L) q).1.length≤(Bo L q).1.length∧decide ((Bo (MI M L) q).1.length<(Bo L q).1.length)=L.any fun x=>QN M (x.2.1,x.2.2)
 | []=>⟨bJ _,rfl⟩
 |x::L=>by
  haveI ih:=MJ L;haveI e1:=O3 (q:=q) x L;haveI e2:(Bo (MI M (x::L)) q).1.length=(keep x.2.2 (Bd M x.2.2 x.2.1)).toNat+(Bo (MI M L) q).1.length:=O3 _ _;rw[e1,e2,bf,←ih.2];generalize (Bo (MI M L) q).1.length=u at*;generalize (Bo L q).1.length=v at*;delta QN keep Bd;cases x.2.2 with
  |false=>
   rw[Bool.and_false];exact ⟨bW ih.1 1,decide_eq_decide.mpr (Nat.add_lt_add_iff_left (k:=1))⟩
  |true=>
   rw[Bool.and_true];cases q1:Nat.beq x.2.1 0 with
   |true=>
    dsimp only;refine q1.symm▸ ?_;exact ⟨bW ih.1 0,decide_eq_decide.mpr (Nat.add_lt_add_iff_left (k:=0))⟩
   |false=>
    dsimp only;cases Nat.beq (rp M x.2.1) 0 with
    |true=>exact ⟨Nat.add_le_add (bC 1) ih.1,decide_eq_true (bv (Nat.lt_succ_of_le (cI (bc u))) (ag (ba ih.1) (cI (Nat.add_comm v 1))))⟩
    |false=>exact ⟨bW ih.1 1,decide_eq_decide.mpr (Nat.add_lt_add_iff_left (k:=1))⟩
end
theorem tx1(u:List Nat)(n:Nat)(z:Bool):u++AB n=Jt [(u,n,z)] []:=(congrArg (u++ ·) (af _)).symm
theorem tx2(u v:List Nat)(n m:Nat)(z y:Bool):u++(AB n++(v++AB m))=Jt [(u,n,z),(v,m,y)] []:=(congrArg (fun w=>u++(AB n++(v++w))) (af _)).symm
theorem Ng(a b:Nat):∀f,f<10→BR f (AB a) (AB b)=Jt (slots f a b).1 (slots f a b).2:=
 CP (tx1 _ _ _) (tx2 _ _ _ _ _ _) (tx2 _ _ _ _ _ _) (tx2 _ _ _ _ _ _) rfl (tx2 _ _ _ _ _ _) (tx1 _ _ _) (tx1 _ _ _) (tx2 _ _ _ _ _ _) (tx2 _ _ _ _ _ _)
theorem Ea(a b:Nat):∀f,f<10→(slots f a b).1.map (·.2)=Bu f a b:=CP rfl rfl rfl rfl rfl rfl rfl rfl rfl rfl
theorem Gm(M:List (Nat×Nat))(a b:Nat):∀f,f<10→MI M (slots f a b).1=(slots f (Bd M (nnA f) a) (Bd M (nnB f) b)).1∧(slots f a b).2=(slots f (Bd M (nnA f) a) (Bd M (nnB f) b)).2:=CP ⟨rfl,rfl⟩ ⟨rfl,rfl⟩ ⟨rfl,rfl⟩ ⟨rfl,rfl⟩ ⟨rfl,rfl⟩ ⟨rfl,rfl⟩ ⟨rfl,rfl⟩ ⟨rfl,rfl⟩ ⟨rfl,rfl⟩ ⟨rfl,rfl⟩
theorem QP(M:List (Nat×Nat))(a b:Nat):∀f,f<10→(Bu f a b).any (QN M)=Uv M f a b:=
 CP rfl rfl rfl rfl rfl rfl rfl rfl rfl (congrArg (QN M (a,true)|| ·) (Bool.or_false _))
section
variable(a b:Nat)(ha:a<65530)(hb:b<65530)
include ha hb
theorem IX(f:Nat)(hf:f<10):SmS (slots f a b).1:=fun x m=>by
 haveI m2:x.2∈Bu f a b:=Ea a b f hf▸bn m;haveI m3:=cS m2
 rcases aj.mp m3 with e|e
 ·rw[e];exact ha
 ·rw[bA.mp e];exact hb
theorem Sa(f:Nat)(hf:f<10):Tx (BR f (AB a) (AB b)) (seg (slots f a b)):=
 ⟨am (Bj (AF a) (AF b) f) (by decide),XV a b ha hb f hf,SY (IX a b ha hb f hf)⟩
theorem Sb(f:Nat)(hf:f<10):FW (seg (slots f a b)).1=Cj f a b:=by
 rw[seg,QO (IX a b ha hb f hf),Cj,←Ea a b f hf,List.filter_map,az];rfl
theorem Sc(M:List (Nat×Nat))(f:Nat)(hf:f<10):flat (HD M (seg (slots f a b)).1) (seg (slots f a b)).2=BR f (AB (Bd M (nnA f) a)) (AB (Bd M (nnB f) b)):=by
 simp only[seg,Ju _ (IX a b ha hb f hf),Ng _ _ f hf,(Gm M a b f hf).1,(Gm M a b f hf).2]
end
theorem QQ(M:List (Nat×Nat))(a b f:Nat)(hf:f<10):decide (((seg (slots f (Bd M (nnA f) a) (Bd M (nnB f) b))).1.length:Int)<((seg (slots f a b)).1.length:Int))=Uv M f a b:=by
 haveI e:=(MJ (M:=M) (q:=(slots f a b).2) (slots f a b).1).2;haveI h:=Gm M a b f hf;rw[←QP M a b f hf,←Ea a b f hf,List.any_map,seg,seg,←h.1,←h.2];exact (decide_eq_decide.mpr av).trans e
theorem MK(f a b:Nat):(Cj f a b).length≤2:=by
 simp only[Cj,ak];refine ag (cf _ _) ?_;simp only[Bu,b0];exact Nat.min_le_right _ _
theorem ML:∀l:List Int,l.Pairwise (· < ·)→sortI l=l
 | [],_=>rfl
 |a::l,h=>by
  rw[List.pairwise_cons]at h;simp only[sortI,ML l h.2];cases l with
  |nil=>rfl
  |cons b l=>exact if_pos (Int.le_of_lt (h.1 b (.head _)))
theorem Eb{α:Type}{σ:AA}{k:Nat}{l:List (Int×D)}(h:σ[k]? =some (.dcti l))(f:Nat→List (Int×D)→Option α):Dy σ (.loc k) f=f k l:=congrArg (fun o:Option AI=>o.bind fun c=>VC c (f k)) h
theorem Sd{σ:AA}{p:Nat}{l:List (Int×D)}(h:σ[p]? =some (.dcti l))(hl:l.length<64)(ha:(l.map (·.1)).Pairwise (· < ·)):Dg σ .sorted [.loc p]=some (.ok (.loc σ.length),σ++[.lst ((l.map (·.1)).map .int)]):=
 (show Dg σ .sorted [.loc p]=Dy σ (.loc p) (fun _ l=>if l.length<64 then alloc σ (.lst ((sortI (l.map (·.1))).map .int)) else none) from rfl).trans ((Eb h _).trans ((if_pos hl).trans (by rw[ML _ ha];rfl)))
noncomputable def D6 (l:List Nat):List Int:=l.map fun (n:Nat)=>(n:Int)
theorem Se(l:List Nat):(D6 l).map D.int=AG l:=az
theorem GO{l:List Nat}(h:l.Pairwise (· < ·)):(D6 l).Pairwise (· < ·):=List.pairwise_map.mpr (h.imp av.mpr)
structure I8 (σ:AA) (p:Nat) (lines:List Nat):Prop where
 cell:∃l,σ[p]? =some (.dcti l)∧l.map (·.1)=D6 lines
 few:lines.length<60
 asc:lines.Pairwise (· < ·)
theorem I8.grow{σ σ':AA}{p:Nat}{lines:List Nat}(h:I8 σ p lines)(x:Grw σ σ'):I8 σ' p lines:=⟨h.cell.imp fun _ q=>⟨x _ _ q.1,q.2⟩,h.few,h.asc⟩
theorem Sg{l:List (Int×D)}{lines:List Nat}(h:l.map (·.1)=D6 lines):l.length=lines.length:=by
 haveI:=congrArg bX h;rwa[ak,D6,ak]at this
theorem I8.sorted{σ:AA}{p:Nat}{lines:List Nat}(h:I8 σ p lines):Dg σ .sorted [.loc p]=some (.ok (.loc σ.length),σ++[.lst (AG lines)]):=by
 obtain ⟨l,e,hk⟩:=h.cell;rw[←Se,←hk];exact Sd e (ai (Sg hk▸h.few) (by decide)) (hk▸GO h.asc)
theorem I8.count{σ:AA}{p:Nat}{lines:List Nat}(h:I8 σ p lines):∃n:Nat,n=lines.length:=⟨_,rfl⟩
theorem Ux{a b:Nat}:decide ((a:Int)≤(b:Int))=decide (a≤b):=decide_eq_decide.mpr cM
theorem DK(d:Nat){σ:AA}{p:Nat}{lines:List Nat}(h:I8 σ p lines)(lo hi:Int)(P:Nat→Bool)(hP:∀n∈lines,(decide (lo≤(n:Int))&&decide ((n:Int)≤hi))=P n):CC (d+2) 23 [.loc p,.int lo,.int hi] σ=some (.ok (.loc (σ.length+1)),σ++[.lst (AG lines),.lst (AG (lines.filter P))]):=by
 haveI c:=Dp (call:=CC (d+1)) (n:=58) (tup:=false) (tgt:=[3]) (en:=false) (items:=lines) (itemD:=fun (n:Nat)=>.int (n:Int)) (src:=.loc σ.length) (elt:=.loc 3) (ifs:=[(.cmp (.loc 1) [.le,.le] [(.loc 3),(.loc 2)])]) (it:=.bi .sorted [(.loc 0)]) (ρ:=[some (.loc p),some (.int lo),some (.int hi),none]) (σ:=σ) P (fun (n:Nat)=>.int (n:Int)) (fun (n:Nat)=>[some (.loc p),some (.int lo),some (.int hi),some (.int (n:Int))]) (HP (AJ rfl h.sorted)) (Az (AM _ _ _)) (ai h.few (by decide)) (fun _=>rfl) (fun _ _=>rfl) (fun n m c=>Cd (by rw[←hP n m];exact NT rfl rfl (Uj rfl) rfl (Uj rfl))) fun _ _ _ _=>rfl
 simp only[ae,aZ]at c;exact AX 3 4 DG rfl rfl rfl rfl (BQ c rfl)
noncomputable def mvL (old:Nat) (lines:List Nat):List Nat:=lines.filter fun n=>decide (old≤n)
noncomputable def ahL (old:Nat) (lines:List Nat):List Nat:=lines.filter fun n=>decide (n<old)
noncomputable def clash (new:Nat) (ah:List Nat):Bool:=match ah.getLast? with
 |some n=>decide (new≤n)
 |none=>false
noncomputable def Ec (new stride:Nat) (p:Nat×Nat):Nat×Nat:=(p.1,new+p.2*stride)
noncomputable def Ak (new stride:Nat) (mv:List Nat):List (Nat×Nat):=mv.zipIdx.map (Ec new stride)
noncomputable def ZK (σ σ':AA) (o:Option AI):R:=match (some []:Option (List (Int×D))),o with
 |some l,some (.dcti [])=>some (.ok (.loc σ.length),AW σ' σ.length (.dcti (l.foldl (fun m p=>Ay m p.1 p.2) [])))
 |_,_=>none
theorem Dv{call:Call}{n:Nat}{ρ:Loc}{σ:AA}:ev call AD (n+1) (.dcti []) ρ σ=some (.ok (.loc σ.length),σ++[.dcti []]):=
 (show ev call AD (n+1) (.dcti []) ρ σ=ZK σ (σ++[.dcti []]) (σ++[.dcti []])[σ.length]? from rfl).trans ((congrArg (ZK σ _) (AM (AI.dcti []) [] σ)).trans (congrArg (fun z=>some (Ro.ok (D.loc σ.length),z)) (BV _ _ [] σ)))
theorem Ed{σ:AA}{n:Nat}{l:List (Int×D)}{k:Int}{v:D}(h:σ[n]? =some (.dcti l))(hl:l.length<1000):setItem σ (.loc n) (.int k) v=some (AW σ n (.dcti (Ay l k v))):=(congrArg (fun o:Option AI=>o.bind (Mf σ (.int k) v n)) h).trans (if_pos hl)
theorem Ee{k:Int}{d:D}:∀l:List (Int×D),(∀p∈l,p.1≠k)→Ay l k d=l++[(k,d)]
 | [],_=>rfl
 |p::l,h=>by
  rw[Ay,if_neg (h p (.head _)),Ee l fun q m=>h q (.tail _ m)];rfl
theorem O4{α β:Type}{f:α→β}{l:List α}:(l.map f).length=l.length:=ak _
theorem CB(l:List Nat):(AG l).length=l.length:=ak _
theorem Jv{σ:AA}{k:Nat}{l:List Nat}(h:σ[k]? =some (.lst (AG l)))(i:Nat):Aa 2 (.loc k) σ i=some (l.zipIdx[i]?.map fun p=>.tup [.int (p.2:Int),.int (p.1:Int)]):=by
 refine (Bb h _).trans (congrArg some ?_);simp only[AG,bN,List.getElem?_zipIdx,bc];cases l[i]? <;>rfl
noncomputable abbrev Sh:List St:=[.asgI (.loc 6) (.loc 8) (.bin .add (.loc 1) (.bin .mul (.loc 7) (.loc 3)))]
theorem Uy(d:Nat){τ:AA}{k new stride:Nat}{mv:List Nat}{x0 x2 x4 x5 x7 x8:Option D}(hk:τ[k]? =some (.lst (AG mv)))(hs:stride<1000)(hasc:mv.Pairwise (· < ·))(hlen:mv.length<60):
  ∃ρ':Option D×Option D,CQ 2 (.loc k) true [7,8] (exs (CC d) AD 55 Sh) 400 0 [x0,some (.int (new:Int)),x2,some (.int (stride:Int)),x4,x5,some (.loc τ.length),x7,x8] (τ++[.dcti []])=some (.nxt,[x0,some (.int (new:Int)),x2,some (.int (stride:Int)),x4,x5,some (.loc τ.length),ρ'.1,ρ'.2],τ++[.dcti (tM (Ak new stride mv))]):=by
 have hz:mv.zipIdx.length<60:=by simp only[List.length_zipIdx];exact hlen
 obtain ⟨ρ',σ',e,dn,y7,y8,h1,h2,h3⟩:=By (items:=mv.zipIdx) (itemD:=fun p=>.tup [.int (p.2:Int),.int (p.1:Int)]) (kind:=2) (src:=.loc k) (tup:=true) (tgt:=[7,8]) (body:=exs (CC d) AD 55 Sh)
  (fun s ρ σ'=>Ex3 fun dn y7 y8=>A3 (dn++s=mv.zipIdx) (ρ=[x0,some (.int (new:Int)),x2,some (.int (stride:Int)),x4,x5,some (.loc τ.length),y7,y8]) (σ'=τ++[.dcti (tM (dn.map (Ec new stride)))]))
  (fun s ρ σ' I i=>by
   obtain ⟨dn,y7,y8,h1,h2,rfl⟩:=I;exact Jv (Grw.app _ _ _ _ hk) i) (fun a s ρ σ' I=>by
   obtain ⟨dn,y7,y8,h1,rfl,rfl⟩:=I;haveI hl:=congrArg bX h1;simp only[ae,bF]at hl;haveI ha:mv.zipIdx[dn.length]? =some a:=by refine h1▸ ?_;exact AM a s dn
   simp only[List.getElem?_zipIdx,bc]at ha;obtain ⟨a1,a2⟩:=a;haveI h6:a2<60:=by
    cases q:mv[dn.length]? with
    |none=>rw[q]at ha;exact xns ha
    |some z=>rw[q]at ha;(injection ha with ha;injection ha with h91 h92;subst h91;subst h92);lia
   haveI hm:=mul_int (σ:=τ++[.dcti (tM (dn.map (Ec new stride)))]) (a:=(a2:Int)) (b:=(stride:Int)) ⟨B9 (ai h6 (by decide)),B9 (ai hs (by decide))⟩
   haveI hset:=Ed (k:=(a1:Int)) (v:=.int ((new:Int)+(a2:Int)*(stride:Int))) (AM (AI.dcti (tM (dn.map (Ec new stride)))) [] τ) (by simp only[tM,O4,O4];lia)
   haveI hne:∀p∈tM (dn.map (Ec new stride)),p.1≠(a1:Int):=fun p m q=>by
    obtain ⟨b,hb,rfl⟩:=bT.mp m;obtain ⟨c,hc,rfl⟩:=bT.mp hb;haveI hq:c.1=a1:=bE.inj q;haveI hp:(mv.zipIdx.map (·.1)).Pairwise (· < ·):=by simp only[List.zipIdx_map_fst];exact hasc
    rw[←h1,bb,dE]at hp;exact absurd (hp.2.2 c.1 (bn hc) a1 (.head _)) (by rw[hq];exact cP _)
   simp only[Ee _ hne,BV]at hset;haveI e2:tM (dn.map (Ec new stride))++[((a1:Int),D.int ((new:Int)+(a2:Int)*(stride:Int)))]=tM ((dn++[(a1,a2)]).map (Ec new stride)):=by
    simp only[bb,tM,tM,bb];rfl
   simp only[e2]at hset;refine ⟨_,_,_,rfl,x_k ?_,dn++[(a1,a2)],some (.int (a2:Int)),some (.int (a1:Int)),by simp only[aZ];exact h1,rfl,rfl⟩
   exact (FU (BE rfl hm rfl) rfl rfl hset rfl)) mv.zipIdx 400 0 [x0,some (.int (new:Int)),x2,some (.int (stride:Int)),x4,x5,some (.loc τ.length),x7,x8] (τ++[.dcti []]) rfl (ai hz (by decide)) ⟨[],x7,x8,rfl,rfl,rfl⟩
 simp only[af]at h1;rw[h1]at h3;subst h2 h3;exact ⟨(y7,y8),e⟩
theorem IY{n v:Nat}:∀{M:List (Nat×Nat)},(n,v)∈M→∃k,C8 M n=some k
 |p::M,h=>by
  unfold C8;by_cases q:p.1=n
  ·rw[if_pos q];exact ⟨_,rfl⟩
  ·rw[if_neg q];cases h with
   |head=>exact absurd rfl q
   |tail _ h=>exact IY h
section
variable{σ:AA}{t:Nat}
theorem MM{α:Type}(u:List α)(x:α):(u++[x]).getLast? =some x:=List.getLast?_concat
theorem IZ{u:List Nat}{n:Nat}(h:σ[t]? =some (.lst (AG (u++[n])))):EB σ (.loc t) (.int (((AG (u++[n])).length:Int) - 1))=some (.int (n:Int)):=by
 haveI e:(((AG (u++[n])).length:Int) - 1)=((AG u).length:Int):=by
  simp only[CB,CB,ae];exact Int.add_sub_cancel (u.length:Int) 1
 simp only[e];refine DJ h ?_;simp only[AG,bb];exact AM _ _ _
theorem Kv(u:List Nat)(n:Nat):decide (((AG (u++[n])).length:Int)>0)=true∧decide (((AG (u++[n])).length:Int)=0)=false:=by
 rw[CB,ae];exact ⟨decide_eq_true (av.mpr (cG _)),decide_eq_false fun q=>nomatch bE.inj q⟩
noncomputable abbrev nnT:E:=.and [(.cmp (.bi .len [(.loc 4)]) [.gt] [(.cst (.int 0))]),(.cmp (.bi .len [(.loc 5)]) [.gt] [(.cst (.int 0))]),(.cmp (.idx (.loc 5) (.bin .sub (.bi .len [(.loc 5)]) (.cst (.int 1)))) [.ge] [(.loc 1)])]
theorem Si{call:Call}{m k k2 new nl:Nat}{u ah:List Nat}{x0 x2 x3 x6 x7 x8:Option D}(hk:σ[k]? =some (.lst (AG (u++[nl]))))(hk2:σ[k2]? =some (.lst (AG ah))):ev call AD (m+9) nnT [x0,some (.int (new:Int)),x2,x3,some (.loc k),some (.loc k2),x6,x7,x8] σ=some (.ok (.bool (clash new ah)),σ):=by
 haveI hp:=Kv u nl;generalize AG (u++[nl])=l at*;haveI l1:=Ds hk;haveI l2:=Ds hk2;have hp:=hp.1
 rcases List.eq_nil_or_concat ah with rfl|⟨v,n,e0⟩
 ·exact (Bh (a_T (AK l1 rfl (EA hp)) (a_F (AK l2 rfl rfl))))
 ·simp only[List.concat_eq_append]at e0;subst e0;have hq:=(Kv v n).1;haveI hi:=IZ hk2;haveI e:decide ((n:Int)≥(new:Int))=clash new (v++[n]):=by simp only[clash,MM];exact Ux
  generalize AG (v++[n])=l2 at*;exact (Bh (a_T (AK l1 rfl (EA hp)) (a_T (AK l2 rfl (EA hq)) (C5 (AK (Ao rfl (BE l2 rfl rfl) hi) rfl (XG e))))))
end
theorem Ia(d:Nat){σ:AA}{p new old stride:Nat}{lines:List Nat}(h:I8 σ p lines)(hb:∀n∈lines,n<65530)(hs:stride<1000)(hs1:1≤stride)(hmv:mvL old lines≠[])(hM:∀p∈Ak new stride (mvL old lines),p.2<65530):
  Ex2 fun k g=> (σ++g)[k]? =some (.dcti (tM (Ak new stride (mvL old lines))))∧CC (d+4) 33 [.loc p,.int (new:Int),.int (old:Int),.int (stride:Int)] σ=some (sel (clash new (ahL old lines)) (.ex [70,67]) (.ok (.loc k)),σ++g):=by
 haveI n1:=DK (d+1) h (old:Int) 65529 (fun n=>decide (old≤n)) fun n m=>by
  simp only[Ux,show decide ((n:Int)≤65529)=true from decide_eq_true (cM.mpr (cH (hb n m))),Bool.and_true]
 haveI k1:(σ++[AI.lst (AG lines),.lst (AG (mvL old lines))])[σ.length+1]? =some (.lst (AG (mvL old lines))):=Ch _ _ 1;haveI g1:=Grw.app σ [AI.lst (AG lines),.lst (AG (mvL old lines))];haveI h1:=h.grow g1;haveI n2:=DK (d+1) h1 0 ((old:Int) - 1) (fun n=>decide (n<old)) fun n m=>by
  simp only[show decide ((0:Int)≤(n:Int))=true from decide_eq_true (bx n),Bool.true_and]
  exact decide_eq_decide.mpr ⟨fun q=>av.mp (Int.lt_of_le_sub_one q),fun q=>Int.le_sub_one_of_lt (av.mpr q)⟩
 simp only[aZ]at n2;haveI k2:(σ++([AI.lst (AG lines),.lst (AG (mvL old lines))]++[AI.lst (AG lines),.lst (AG (ahL old lines))]))[(σ++[AI.lst (AG lines),.lst (AG (mvL old lines))]).length+1]? =some (.lst (AG (ahL old lines))):=by rw[←aZ];exact Ch _ _ 1
 replace k1:=(aZ _ _ _▸Grw.app _ [AI.lst (AG lines),.lst (AG (ahL old lines))]) _ _ k1
 haveI hl:(mvL old lines).length<60:=am (cf _ _) h.few;haveI ha:(mvL old lines).Pairwise (· < ·):=h.asc.sublist List.filter_sublist
 replace n1:CC (d+3) 23 [.loc p,.int (old:Int),.int 65529] σ=some (.ok (.loc (σ.length+1)),σ++[AI.lst (AG lines),.lst (AG (mvL old lines))]):=n1
 replace n2:CC (d+3) 23 [.loc p,.int 0,.int ((old:Int) - 1)] (σ++[AI.lst (AG lines),.lst (AG (mvL old lines))])=some (.ok (.loc ((σ++[AI.lst (AG lines),.lst (AG (mvL old lines))]).length+1)),σ++([AI.lst (AG lines),.lst (AG (mvL old lines))]++[AI.lst (AG lines),.lst (AG (ahL old lines))])):=n2
 generalize mvL old lines=mv at*;generalize ahL old lines=ah at*;obtain e0|⟨u,nl,e0⟩:=List.eq_nil_or_concat mv
 ·exact absurd e0 hmv
 simp only[List.concat_eq_append]at e0;subst e0;generalize σ++[AI.lst (AG lines),.lst (AG (u++[nl]))]=τ1 at*;generalize [AI.lst (AG lines),.lst (AG (u++[nl]))]++[AI.lst (AG lines),.lst (AG ah)]=g at*;generalize hτ:σ++g=τ at*;generalize τ1.length+1=j2 at*;obtain ⟨ρ',e⟩:=Uy (d+3) (new:=new) (stride:=stride) (x0:=some (.loc p)) (x2:=some (.int (old:Int))) (x4:=some (.loc (σ.length+1))) (x5:=some (.loc j2)) (x7:=none) (x8:=none) k1 hs ha hl;haveI l1:=Ds k1;obtain ⟨q1,q2⟩:=Kv u nl;haveI s1:decide ((stride:Int)<1)=false:=decide_eq_false fun q=>bH.mpr hs1 (av.mp q);haveI s2:decide ((new:Int)<0)=false:=decide_eq_false fun q=>absurd (bx new) (Int.not_le.mpr q);haveI k3:=Grw.app τ [.dcti (tM (Ak new stride (u++[nl])))] _ _ k1;haveI k4:=Grw.app τ [.dcti (tM (Ak new stride (u++[nl])))] _ _ k2;haveI kd:=AM (AI.dcti (tM (Ak new stride (u++[nl])))) [] τ;haveI cl:=Si (call:=CC (d+3)) (m:=44) (new:=new) (x0:=some (.loc p)) (x2:=some (.int (old:Int))) (x3:=some (.int (stride:Int))) (x6:=some (.loc τ.length)) (x7:=ρ'.1) (x8:=ρ'.2) k3 k4;haveI l3:=Ds k3;haveI i3:=IZ k3;haveI d3:=IW kd (nl:Int);obtain ⟨v,hv⟩:∃k,C8 (Ak new stride (u++[nl])) nl=some k:=by
  haveI m:nl∈(u++[nl]).zipIdx.map (·.1):=by rw[List.zipIdx_map_fst];exact cO _ (.head _)
  obtain ⟨b,hb,hb2⟩:=bT.mp m;haveI m2:Ec new stride b∈Ak new stride (u++[nl]):=bn hb;simp only[Ec,hb2]at m2;exact IY m2
 haveI hv2:=hM _ (Ep hv);simp only[GN,hv]at d3;haveI s3:decide ((v:Int)>65529)=false:=decide_eq_false fun q=>bH.mpr (cH hv2) (av.mp q);refine ⟨τ.length,g++[.dcti (tM (Ak new stride (u++[nl])))],by rw[←aZ,hτ];exact kd,?_⟩
 rw[←aZ,hτ];generalize AG (u++[nl])=ml at*;generalize τ++[AI.dcti (tM (Ak new stride (u++[nl])))]=τ3 at*;haveI c2:ev (CC (d+3)) AD 54 (.and [(.cmp (.bi .len [(.loc 4)]) [.gt] [(.cst (.int 0))]),(.cmp (.idx (.loc 6) (.idx (.loc 4) (.bin .sub (.bi .len [(.loc 4)]) (.cst (.int 1))))) [.gt] [(.glob 7)])]) [some (.loc p),some (.int (new:Int)),some (.int (old:Int)),some (.int (stride:Int)),some (.loc (σ.length+1)),some (.loc j2),some (.loc τ.length),ρ'.1,ρ'.2] τ3=some (.ok (.bool false),τ3):=by
  exact (Bh (a_T (AK l3 rfl (EA q1)) (C5 (AK (Ao rfl (Ao rfl (BE l3 rfl rfl) i3) d3) rfl (EA s3)))))
 generalize clash new ah=cb at*;cases cb with
 |true=>exact SE 4 9 C1 rfl rfl rfl rfl (AO n1 (AO n2 (AU (C9 (o_F (AK rfl rfl (Do s1)) (o_F (AK rfl rfl (Do s2)) (CR (Bh (a_F (AK l1 rfl (II q2)))))))) (As (AO Dv (DX rfl e (AU c2 (As (AU cl rfl)))))))))
 |false=>exact AX 4 9 C1 rfl rfl rfl rfl (AO n1 (AO n2 (AU (C9 (o_F (AK rfl rfl (Do s1)) (o_F (AK rfl rfl (Do s2)) (CR (Bh (a_F (AK l1 rfl (II q2)))))))) (As (AO Dv (DX rfl e (AU c2 (As (AU cl rfl)))))))))
noncomputable abbrev Ln:=Nat×Nat×Nat×Nat
noncomputable abbrev Ln.n (x:Ln):Nat:=x.1
noncomputable abbrev Ln.f (x:Ln):Nat:=x.2.1
noncomputable abbrev Ln.a (x:Ln):Nat:=x.2.2.1
noncomputable abbrev Ln.b (x:Ln):Nat:=x.2.2.2
noncomputable def Ln.row (x:Ln):List Nat:=BR (Ln.f x) (AB (Ln.a x)) (AB (Ln.b x))
structure GP (x:Ln):Prop where
 n:Ln.n x<1000
 f:Ln.f x<10
 a:Ln.a x<1000
 b:Ln.b x<1000
theorem FF{n:Nat}(h:n<1000):n<65530:=ai h (by decide)
noncomputable abbrev Ln.seg (x:Ln):A2×List Nat:=Mine.seg (slots (Ln.f x) (Ln.a x) (Ln.b x))
theorem GP.tx{x:Ln}(h:GP x):Tx (Ln.row x) (Ln.seg x):=Sa _ _ (FF h.a) (FF h.b) _ h.f
noncomputable def Am (L:List Ln):List (Int×D):=L.map fun x=>((Ln.n x:Int),.str (Ln.row x))
structure PL (σ:AA) (p:Nat) (L:List Ln):Prop where
 cell:σ[p]? =some (.dcti (Am L))
 few:L.length<60
 asc:(L.map Ln.n).Pairwise (· < ·)
 ok:∀x∈L,GP x
section
variable{σ σ' τ:AA}{p t:Nat}{L:List Ln}
theorem PL.grow(h:PL σ p L)(x:Grw σ σ'):PL σ' p L:=⟨x _ _ h.cell,h.few,h.asc,h.ok⟩
theorem PL.prog(h:PL σ p L):I8 σ p (L.map Ln.n):=⟨⟨_,h.cell,by simp only[Am,D6,az,az];rfl⟩,by rw[ak];exact h.few,h.asc⟩
theorem Jw{x:Ln}:∀(L:List Ln),(L.map Ln.n).Pairwise (· < ·)→x∈L→Bv (Am L) (Ln.n x:Int)=some (.str (Ln.row x))
 |y::L,ha,h=>by
  show (if (Ln.n y:Int)=(Ln.n x:Int) then some (D.str (Ln.row y)) else Bv (Am L) (Ln.n x:Int))=_
  rw[an,List.pairwise_cons]at ha;cases h with
  |head=>rw[if_pos rfl]
  |tail _ h=>exact (if_neg fun q=>bo (ha.1 _ (bn h)) (bE.inj q)).trans (Jw L ha.2 h)
theorem PL.idx(h:PL σ p L){x:Ln}(hx:x∈L):EB σ (.loc p) (.int (Ln.n x:Int))=some (.str (Ln.row x)):=(IW h.cell _).trans (Jw L h.asc hx)
noncomputable def inN (lines:List Nat) (n:Nat):Bool:=lines.any fun m=>decide (m=n)
theorem XW{a b:Nat}:decide ((a:Int)=(b:Int))=decide (a=b):=decide_eq_decide.mpr ⟨bE.inj,congrArg _⟩
theorem MN(n:Nat):∀L:List Ln,((Am L).any fun p=>decide (p.1=(n:Int)))=inN (L.map Ln.n) n
 | []=>rfl
 |x::L=>by
  haveI ih:=MN n L
  show (decide ((Ln.n x:Int)=(n:Int))||(Am L).any fun p=>decide (p.1=(n:Int)))=(decide (Ln.n x=n)||inN (L.map Ln.n) n)
  simp only[ih,XW]
theorem PL.notIn(h:PL σ p L)(n:Nat):BA σ .notIn (.int (n:Int)) (.loc p)=some (!inN (L.map Ln.n) n):=(congrArg (br (!·)) (O2 h.cell (n:Int))).trans (by rw[MN];rfl)
def Fut (σ σ':AA):Prop:= ∃g,σ'=σ++g
theorem Fut.refl(σ:AA):Fut σ σ:=⟨[],(af σ).symm⟩
theorem Fut.app(σ g:AA):Fut σ (σ++g):=⟨g,rfl⟩
theorem Fut.trans(x:Fut σ σ')(y:Fut σ' τ):Fut σ τ:=x.elim fun a e=>y.elim fun b q=>⟨a++b,by simp only[q,e,aZ]⟩
theorem Fut.grw(x:Fut σ σ'):Grw σ σ':=x.elim fun g e=>e▸Grw.app σ g
theorem Fut.mid{c:AI}{g:List AI}(x:Fut (σ++c::g) σ'):∃G,σ'=σ++c::(g++G):=x.elim fun a e=>⟨a,by simp only[e,aZ];rfl⟩
theorem Sk{c c':AI}{g:List AI}{k:Nat}(σ:AA)(h:σ.length<k):(σ++c::g)[k]? =(σ++c'::g)[k]? :=by
 rw[←Nat.add_sub_cancel' h,Nat.succ_add,←Nat.add_succ,Ch,Ch];rfl
noncomputable def BW (lines:List Nat) (line:Nat) (ns:List Nat):List D:=(ns.filter fun n=> !inN lines n).map fun (n:Nat)=>.tup [.int (line:Int),.int (n:Int)]
noncomputable def A9 (lines:List Nat) (L:List Ln):List D:=L.flatMap fun x=>BW lines (Ln.n x) (Cj (Ln.f x) (Ln.a x) (Ln.b x))
noncomputable abbrev XX:List St:=[.ite (.cmp (.loc 3) [.notIn] [(.loc 0)]) [.exp (.meth .append (.loc 1) [(.tup [(.loc 2),(.loc 3)])])] []]
theorem MO(lines:List Nat)(line:Nat)(ns:List Nat):(BW lines line ns).length≤ns.length:=by
 simp only[BW,ak];exact cf _ _
theorem ZL(d:Nat){line k:Nat}(h:PL σ p L){ns:List Nat}{g:List AI}{acc:List D}{x3:Option D}(hk:∀acc,(σ++ .lst acc::g)[k]? =some (.lst (AG ns)))(hl:acc.length+ns.length<900)(hn:ns.length<400):
  ∃y3,CQ 0 (.loc k) false [3] (exs (CC d) AD 57 XX) 400 0 [some (.loc p),some (.loc σ.length),some (.int (line:Int)),x3] (σ++ .lst acc::g)=some (.nxt,[some (.loc p),some (.loc σ.length),some (.int (line:Int)),y3],σ++ .lst (acc++BW (L.map Ln.n) line ns)::g):=by
 obtain ⟨ρ',σ',e,ac,y3,rfl,rfl,h1,_⟩:=By (items:=ns) (itemD:=fun (n:Nat)=>.int (n:Int)) (kind:=0) (src:=.loc k) (tup:=false) (tgt:=[3]) (body:=exs (CC d) AD 57 XX)
  (fun s ρ σ'=>Ex2 fun ac y3=>A4 (ρ=[some (.loc p),some (.loc σ.length),some (.int (line:Int)),y3]) (σ'=σ++ .lst ac::g) (ac++BW (L.map Ln.n) line s=acc++BW (L.map Ln.n) line ns) (ac.length+s.length<900))
  (fun s ρ σ' I i=>by
   obtain ⟨ac,y3,_,rfl,_⟩:=I;haveI z:=Az (hk ac) [] i;rwa[af]at z) (fun n s ρ σ' I=>by
   obtain ⟨ac,y3,rfl,rfl,h1,h2⟩:=I;haveI q:=(h.grow (Grw.app σ (.lst ac::g))).notIn n;haveI m:=AM (AI.lst ac) g σ;haveI ha:=Dc (σ:=σ++ .lst ac::g) (D.tup [.int (line:Int),.int (n:Int)]) m (ai (am (bR _ _) h2) (by decide))
   simp only[BV]at ha;haveI e:BW (L.map Ln.n) line (n::s)=sel (!inN (L.map Ln.n) n) (.tup [.int (line:Int),.int (n:Int)]::BW (L.map Ln.n) line s) (BW (L.map Ln.n) line s):=by
    unfold BW;rw[cZ];cases inN (L.map Ln.n) n<;>rfl
   rw[e]at h1;generalize inN (L.map Ln.n) n=b at*;cases b with
   |true=>
    refine ⟨_,_,_,rfl,x_k ?_,ac,some (.int (n:Int)),rfl,rfl,h1,am (bW (Nat.le_succ _) _) h2⟩;exact (AU (AK rfl rfl q) rfl)
   |false=>
    refine ⟨_,_,_,rfl,x_k ?_,ac++[.tup [.int (line:Int),.int (n:Int)]],some (.int (n:Int)),rfl,rfl,by rw[aZ];exact h1,by rw[ae,b8,Nat.add_comm [_].length];exact h2⟩
    exact (AU (AK rfl rfl q) (GB (B8 rfl (EY _ m) ha) rfl))) ns 400 0 [some (.loc p),some (.loc σ.length),some (.int (line:Int)),x3] (σ++ .lst acc::g) rfl hn ⟨acc,x3,rfl,rfl,rfl,hl⟩
 rw[show BW (L.map Ln.n) line []=[] from rfl,af]at h1
 exact ⟨y3,h1▸e⟩
theorem I9(d:Nat)(h:PL σ p L):∃g,CC (d+7) 34 [.loc p] σ=some (.ok (.loc σ.length),σ++ .lst (A9 (L.map Ln.n) L)::g):=by
 haveI hs:=(h.prog.grow (Grw.app σ [.lst []])).sorted;haveI hk:=AM (AI.lst (AG (L.map Ln.n))) [] (σ++[.lst []]);obtain ⟨ρ',σ',e,ac,g,y2,y3,h0,h1,h2,_⟩:=By (items:=L) (itemD:=fun x=>.int (Ln.n x:Int)) (kind:=0) (src:=.loc (σ++[AI.lst []]).length) (tup:=false) (tgt:=[2]) (body:=exs (CC (d+6)) AD 58 [.for 0 [3] false (.call 31 [(.idx (.loc 0) (.loc 2))]) XX])
  (fun s ρ σ'=>Ex4 fun ac g y2 y3=>A5 (ρ=[some (.loc p),some (.loc σ.length),y2,y3]) (σ'=σ++ .lst ac:: .lst (AG (L.map Ln.n))::g) (ac++A9 (L.map Ln.n) s=A9 (L.map Ln.n) L) (ac.length+3*s.length<800) (∀x∈s,x∈L))
  (fun s ρ σ' I i=>by
   obtain ⟨ac,g,y2,y3,_,rfl,_⟩:=I;haveI z:(σ++ .lst ac:: .lst (AG (L.map Ln.n))::g)[σ.length+1]? =some (.lst (AG (L.map Ln.n))):=Ch _ _ 1;haveI z2:AG (L.map Ln.n)=L.map fun x=>.int (Ln.n x:Int):=by simp only[AG,az];rfl
   rw[z2]at z;haveI z:=Az z [] i;rw[af]at z;simp only[show (σ++[AI.lst []]).length=σ.length+1 from ae,z2]
   exact z) (fun x s ρ σ' I=>by
   obtain ⟨ac,g,y2,y3,rfl,rfl,h1,h2,h3⟩:=I;haveI hx:=h.ok x (h3 x (.head _));haveI hi:=(h.grow (Grw.app σ (.lst ac:: .lst (AG (L.map Ln.n))::g))).idx (h3 x (.head _));obtain ⟨g1,k,hkl,e1,hk⟩:=I0 d (σ++ .lst ac:: .lst (AG (L.map Ln.n))::g) hx.tx;simp only[Sb _ _ (FF hx.a) (FF hx.b) _ hx.f]at hk;simp only[aZ,cN,cN]at e1 hk;simp only[ae]at hkl;haveI hk2:∀ac',(σ++AI.lst ac'::(.lst (AG (L.map Ln.n))::(g++g1)))[k]? =some (.lst (AG (Cj (Ln.f x) (Ln.a x) (Ln.b x)))):=fun ac'=>(Sk σ (bv (dC (cG _)) hkl)).trans hk;haveI hf:=MK (Ln.f x) (Ln.a x) (Ln.b x);haveI hll:=MO (L.map Ln.n) (Ln.n x) (Cj (Ln.f x) (Ln.a x) (Ln.b x));haveI h4:A9 (L.map Ln.n) (x::s)=BW (L.map Ln.n) (Ln.n x) (Cj (Ln.f x) (Ln.a x) (Ln.b x))++A9 (L.map Ln.n) s:=rfl;rw[h4,←aZ]at h1;generalize Cj (Ln.f x) (Ln.a x) (Ln.b x)=ns at*;simp only[bF]at h2;obtain ⟨y4,e2⟩:=ZL (d+6) (line:=Ln.n x) (x3:=y3) (acc:=ac) h hk2 (by lia) (am hf (by decide))
   refine ⟨_,_,_,rfl,x_k ?_,ac++BW (L.map Ln.n) (Ln.n x) ns,g++g1,some (.int (Ln.n x:Int)),y4,rfl,rfl,h1,by rw[ae];lia,fun z m=>h3 z (.tail _ m)⟩
   exact (DX (Ax (AJ (Ao rfl rfl hi) e1)) e2 rfl)) L 400 0 [some (.loc p),some (.loc σ.length),none,none] (σ++[.lst []]++[.lst (AG (L.map Ln.n))]) rfl (ai h.few (by decide)) ⟨[],[],none,none,rfl,aZ _ _ _,rfl,by haveI:=h.few;simp only[bY];lia,fun _ m=>m⟩
 simp only[show A9 (L.map Ln.n) []=[] from rfl,af]at h2
 refine ⟨.lst (AG (L.map Ln.n))::g,?_⟩;simp only[h0,h1,h2]at e;exact AX 1 4 FD rfl rfl rfl rfl (AO rfl (DX hs e rfl))
end
section
variable{α:Type}{kind:Nat}{src:D}{tup:Bool}{tgt:List Nat}{items:List α}{itemD:α→D}
theorem Sl{body:Loc→AA→SR}(Inv:List α→Loc→AA→Prop)(G:AA→Prop)(bad:α→Bool)(c:List Nat)(hG:∀ρ σ,Inv [] ρ σ→G σ)(hat:∀s ρ σ,Inv s ρ σ→∀i,Aa kind src σ i=some (items[i]?.map itemD))
  (hstep:∀a s ρ σ,Inv (a::s) ρ σ→Ex3 fun ρ1 ρ2 σ2=>A4 (Av tup tgt (itemD a) ρ=some ρ1) (body ρ1 σ=some (sel (bad a) (.ex c) .nxt,ρ2,σ2)) (G σ2) ((bad a=false→Inv s ρ2 σ2))):
  ∀(s:List α) (f i:Nat) (ρ:Loc) (σ:AA),items.drop i=s→s.length<f→Inv s ρ σ→Ex2 fun ρ' σ'=>A3 (CQ kind src tup tgt body f i ρ σ=some (sel (s.any bad) (.ex c) .nxt,ρ',σ')) (G σ') ((s.any bad=false→Inv [] ρ' σ')):=by
 intro s
 induction s with
 |nil=>
  intro f i ρ σ hd hf I;cases f with
  |zero=>contradiction
  |succ f=>exact ⟨ρ,σ,Jk (NV (hat _ _ _ I i) hd),hG _ _ I,fun _=>I⟩
 |cons a s ih=>
  intro f i ρ σ hd hf I;cases f with
  |zero=>contradiction
  |succ f=>
   obtain ⟨ρ1,ρ2,σ2,h1,h2,h3,h4⟩:=hstep a s ρ σ I;simp only[bf];cases q:bad a with
   |true=>
    rw[q]at h2;exact ⟨ρ2,σ2,SH (GH (hat _ _ _ I i) hd) h1 h2,h3,fun w=>by contradiction⟩
   |false=>
    rw[q]at h2;obtain ⟨ρ',σ',e,I1,I2⟩:=ih f (i+1) ρ2 σ2 (GG hd).2 (cY hf) (h4 q);exact ⟨ρ',σ',(Kj (GH (hat _ _ _ I i) hd) h1 h2).trans e,I1,I2⟩
end
noncomputable def Ln.new (M:List (Nat×Nat)) (x:Ln):List Nat:=BR (Ln.f x) (AB (Bd M (nnA (Ln.f x)) (Ln.a x))) (AB (Bd M (nnB (Ln.f x)) (Ln.b x)))
noncomputable def Ln.bad (M:List (Nat×Nat)) (x:Ln):Bool:=Uv M (Ln.f x) (Ln.a x) (Ln.b x)
theorem Dw{M:List (Nat×Nat)}(hM:∀p∈M,p.2<65530){n:Nat}(z:Bool)(hn:n<65530):Bd M z n<65530:=by
 unfold Bd;cases Nat.beq n 0&&z with
 |true=>exact hn
 |false=>
  show (C8 M n).getD n<65530
  cases q:C8 M n with
  |none=>exact hn
  |some k=>exact hM _ (Ep q)
theorem O5(k:Int)(d:D):∀l:List (Int×D),(Ay l k d).length≤l.length+1
 | []=>bJ _
 |p::l=>by
  simp only[Ay];by_cases q:p.1=k
  ·rw[if_pos q];exact Nat.le_succ _
  ·rw[if_neg q];exact ba (O5 k d l)
noncomputable def CA (M:List (Nat×Nat)) (L:List Ln) (acc:List (Int×D)):List (Int×D):=L.foldl (fun a x=>Ay a (rp M (Ln.n x):Int) (.str (Ln.new M x))) acc
section
variable{σ σ' τ:AA}{p t:Nat}{L:List Ln}
theorem Ib{M:List (Nat×Nat)}(h:σ[t]? =some (.dcti (tM M)))(n:Nat):BN σ .get (.loc t) [.int (n:Int),.int (n:Int)]=some (.ok (.int (rp M n:Int)),σ):=by
 haveI e:BN σ .get (.loc t) [.int (n:Int),.int (n:Int)]=Dy σ (.loc t) fun _ l=>Ab ((Bv l (n:Int)).getD (.int (n:Int))) σ:=rfl;simp only[e,Eb h,GN,rp];cases C8 M n<;>rfl
theorem Ic{l:List (Int×D)}(h:σ[t]? =some (.dcti l)):LH σ .get (.loc t)=true:=congrArg (fun o=>Nat.beq (mK .get) (cK o)) h
theorem MP(d:Nat){l:List Nat}{Y:A2×List Nat}(σ:AA)(T:Tx l Y):Ex2 fun j σ'=>A3 (Fut σ σ') (CC (d+5) 28 [.str l] σ=some (.ok (.loc j),σ')) (Dg σ' .len [.loc j]=some (.ok (.int (Y.1.length:Int)),σ')):=by
 obtain ⟨g,e⟩:=DP d σ (ai T.len (by decide)) T.sp
 haveI hl:=Ds (AM (AI.lst ((spL 0 Y.1).map Ag)) g σ);rw[ak,Du]at hl;exact ⟨_,_,⟨_,rfl⟩,e,hl⟩
noncomputable abbrev Sm:List St:=[.asg 7 (.call 32 [(.idx (.loc 0) (.loc 6)),(.loc 4)]),.ite (.or [(.cmp (.bi .len [(.loc 7)]) [.gt] [(.glob 6)]),(.cmp (.bi .len [(.call 28 [(.loc 7)])]) [.lt] [(.bi .len [(.call 28 [(.idx (.loc 0) (.loc 6))])])])]) [.rse [(.cst (.str [70,67])),(.cst (.str [82,69,78,85,77]))]] [],.asgI (.loc 5) (.meth .get (.loc 4) [(.loc 6),(.loc 6)]) (.loc 7)]
theorem Uz(d:Nat){M:List (Nat×Nat)}{x:Ln}{acc:List (Int×D)}{g:List AI}{x1 x2 x3 x7:Option D}(h:PL σ p L)(ht:σ[t]? =some (.dcti (tM M)))(hM:∀p∈M,p.2<65530)(hm:x∈L)(hacc:acc.length<900):
  ∃G,exs (CC (d+6)) AD 57 Sm [some (.loc p),x1,x2,x3,some (.loc t),some (.loc σ.length),some (.int (Ln.n x:Int)),x7] (σ++ .dcti acc::g)=some (sel (Ln.bad M x) (.ex [70,67]) .nxt,[some (.loc p),x1,x2,x3,some (.loc t),some (.loc σ.length),some (.int (Ln.n x:Int)),some (.str (Ln.new M x))],σ++ .dcti (sel (Ln.bad M x) acc (Ay acc (rp M (Ln.n x):Int) (.str (Ln.new M x))))::(g++G)):=by
 have hx:=h.ok x hm;haveI hxa:=FF hx.a;haveI hxb:=FF hx.b;haveI f0:=Fut.app σ (.dcti acc::g);haveI h0:=(h.grow f0.grw).idx hm;obtain ⟨g1,e1⟩:=HR d (σ++ .dcti acc::g) hx.tx (f0.grw _ _ ht) fun p m=>ai (hM p m) (by decide)
 rw[Sc _ _ hxa hxb M _ hx.f]at e1;haveI f1:=Fut.app (σ++ .dcti acc::g) g1;generalize σ++ .dcti acc::g++g1=s1 at*;haveI T:Tx (Ln.new M x) (seg (slots (Ln.f x) (Bd M (nnA (Ln.f x)) (Ln.a x)) (Bd M (nnB (Ln.f x)) (Ln.b x)))):=Sa _ _ (Dw hM _ hxa) (Dw hM _ hxb) _ hx.f;have hgt:decide (((Ln.new M x).length:Int)>255)=false:=decide_eq_false fun q=>bH.mpr (cH T.len) (av.mp q);obtain ⟨j2,s2,f2,e2,l2⟩:=MP (d+1) s1 T;haveI h2:=(h.grow (f0.trans (f1.trans f2)).grw).idx hm;obtain ⟨j3,s3,f3,e3,l3⟩:=MP (d+1) s2 hx.tx;have f:=f1.trans (f2.trans f3);obtain ⟨G,rfl⟩:=f.mid;have m:=AM (AI.dcti acc) (g++G) σ;haveI ht3:=(f0.trans f).grw _ _ ht;haveI hset:=Ed (k:=(rp M (Ln.n x):Int)) (v:=.str (Ln.new M x)) m (ai hacc (by decide))
 simp only[BV]at hset;haveI hfw:=QQ M (Ln.a x) (Ln.b x) (Ln.f x) hx.f;haveI e1:CC (d+6) 32 [.str (Ln.row x),.loc t] (σ++ .dcti acc::g)=some (.ok (.str (Ln.new M x)),s1):=e1;haveI hg:=Ib ht3 (Ln.n x);haveI hmk:=Ic ht3;refine ⟨G,x_k ?_⟩;unfold Ln.bad;generalize Uv M (Ln.f x) (Ln.a x) (Ln.b x)=b at*;generalize Ln.new M x=nw at*;generalize Ln.row x=rw at*;generalize (Ln.seg x).1.length=w1 at*;generalize (seg (slots (Ln.f x) (Bd M (nnA (Ln.f x)) (Ln.a x)) (Bd M (nnB (Ln.f x)) (Ln.b x)))).1.length=w2 at*;generalize σ++ .dcti acc::g=s0 at*;generalize Ay acc (rp M (Ln.n x):Int) (.str nw)=acc' at*;clear h T hM hx ht ht3 f0 f1 f2 f3 f m hm hacc;cases b with
 |true=>exact (AO (Ax (AJ (Ao rfl rfl h0) e1)) (AU (C9 (o_F (AK rfl rfl (EA hgt)) (CR (AK (HP (AJ e2 l2)) (HP (AJ (Ax (AJ (Ao rfl rfl h2) e3)) l3)) (Do hfw))))) rfl))
 |false=>exact (AO (Ax (AJ (Ao rfl rfl h0) e1)) (AU (C9 (o_F (AK rfl rfl (EA hgt)) (CR (AK (HP (AJ e2 l2)) (HP (AJ (Ax (AJ (Ao rfl rfl h2) e3)) l3)) (Do hfw))))) (As (FU rfl rfl (B8 rfl hmk hg) hset rfl))))
theorem JA(d:Nat){new old stride:Nat}(h:PL σ p L)(hs:stride<1000)(hs1:1≤stride)(hn:new≠10000)(hmv:mvL old (L.map Ln.n)≠[])(hM:∀p∈Ak new stride (mvL old (L.map Ln.n)),p.2<65530):
  Ex2 fun k g=> CC (d+7) 35 [.loc p,.int (new:Int),.int (old:Int),.int (stride:Int)] σ=some (sel (clash new (ahL old (L.map Ln.n))||L.any (Ln.bad (Ak new stride (mvL old (L.map Ln.n))))) (.ex [70,67]) (.ok (.loc k)),σ++g)∧
   ((clash new (ahL old (L.map Ln.n))||L.any (Ln.bad (Ak new stride (mvL old (L.map Ln.n)))))=false→(σ++g)[k]? =some (.dcti (CA (Ak new stride (mvL old (L.map Ln.n))) L []))):=by
 obtain ⟨k,g0,hk,e⟩:=Ia (d+2) h.prog (fun n hn=>by
  obtain ⟨x,hx,rfl⟩:=bT.mp hn;exact FF (h.ok x hx).n) hs hs1 hmv hM
 have hS:S0 (d+5+1) 35 [.loc p,.int (new:Int),.int (old:Int),.int (stride:Int)] σ=none:=congrArg (fun b=>onB b _) (decide_eq_false fun q=>hn (bE.inj q));generalize Ak new stride (mvL old (L.map Ln.n))=M at*;generalize clash new (ahL old (L.map Ln.n))=b at*;cases b with
 |true=>exact ⟨0,g0,by exact SE 4 8 CV rfl rfl rfl hS (XE e rfl),fun w=>by contradiction⟩
 |false=>
  haveI f1:=Fut.app σ g0;generalize σ++g0=s1 at*;haveI h1:=h.grow f1.grw;haveI hs2:=(h1.prog.grow (Grw.app s1 [.dcti []])).sorted;obtain ⟨ρ',σ',w,hf,hI⟩:=Sl (items:=L) (itemD:=fun x=>.int (Ln.n x:Int)) (kind:=0) (src:=.loc (s1++[AI.dcti []]).length) (tup:=false) (tgt:=[6]) (body:=exs (CC (d+6)) AD 57 Sm)
   (fun s ρ σ'=>Ex4 fun ac g y6 y7=>A5 (ρ=[some (.loc p),some (.int (new:Int)),some (.int (old:Int)),some (.int (stride:Int)),some (.loc k),some (.loc s1.length),y6,y7]) (σ'=s1++ .dcti ac:: .lst (AG (L.map Ln.n))::g) (CA M s ac=CA M L []) (ac.length+s.length<900) (∀x∈s,x∈L)) (Fut s1) (Ln.bad M) [70,67]
   (fun ρ σ' I=>by obtain ⟨ac,g,_,_,_,rfl,_⟩:=I;exact Fut.app _ _)
   (fun s ρ σ' I i=>by
    obtain ⟨ac,g,y6,y7,_,rfl,_⟩:=I;haveI z:(s1++ .dcti ac:: .lst (AG (L.map Ln.n))::g)[s1.length+1]? =some (.lst (AG (L.map Ln.n))):=Ch _ _ 1;haveI z2:AG (L.map Ln.n)=L.map fun x=>.int (Ln.n x:Int):=by simp only[AG,az];rfl
    rw[z2]at z;haveI z:=Az z [] i;rw[af]at z;rw[show (s1++[AI.dcti []]).length=s1.length+1 from ae,z2]
    exact z) (fun x s ρ σ' I=>by
    obtain ⟨ac,g,y6,y7,rfl,rfl,h5,h6,h7⟩:=I;obtain ⟨G,eb⟩:=Uz d (g:=.lst (AG (L.map Ln.n))::g) (x1:=some (.int (new:Int))) (x2:=some (.int (old:Int))) (x3:=some (.int (stride:Int))) (x7:=y7) (acc:=ac) h1 hk hM (h7 x (.head _)) (am (bR _ _) h6);refine ⟨_,_,_,rfl,eb,Fut.app _ _,fun q=>⟨Ay ac (rp M (Ln.n x):Int) (.str (Ln.new M x)),g++G,_,_,rfl,by refine q▸ ?_;rfl,h5,?_,fun z m=>h7 z (.tail _ m)⟩⟩
    haveI:=O5 (rp M (Ln.n x):Int) (.str (Ln.new M x)) ac;simp only[bF]at h6;lia) L 400 0 [some (.loc p),some (.int (new:Int)),some (.int (old:Int)),some (.int (stride:Int)),some (.loc k),some (.loc s1.length),none,none] (s1++[.dcti []]++[.lst (AG (L.map Ln.n))]) rfl (ai h.few (by decide)) ⟨[],[],none,none,rfl,aZ _ _ _,rfl,by haveI:=h.few;simp only[bY];lia,fun _ m=>m⟩
  obtain ⟨g1,rfl⟩:=f1.trans hf;generalize hb:L.any (Ln.bad M)=b at*;cases b with
  |true=>exact ⟨0,g1,by exact SE 4 8 CV rfl rfl rfl hS (AO e (AO Dv (XD hs2 w rfl))),fun w=>by contradiction⟩
  |false=>
   obtain ⟨ac,g,y6,y7,rfl,hs,rfl,_⟩:=hI rfl;refine ⟨s1.length,g1,?_,fun _=>by refine hs▸ ?_;exact AM _ _ _⟩
   exact AX 4 8 CV rfl rfl rfl hS (AO e (AO Dv (DX hs2 w rfl)))
end
section
variable(d:Nat){σ:AA}
theorem JB{n:Nat}(hn:n<65530)(σ:AA):CC (d+2) 20 [.int (n:Int)] σ=some (.ok (.int (n:Int)),σ):=by
 haveI h1:decide ((0:Int)≤(n:Int))=true:=decide_eq_true (bx n);haveI h2:decide ((n:Int)≤65529)=true:=decide_eq_true (cM.mpr (cH hn));haveI e:ev (CC (d+1)) AD 59 (.not (.cmp (.cst (.int 0)) [.le,.le] [(.loc 0),(.glob 7)])) [some (.int (n:Int))] σ=some (.ok (.bool false),σ):=Og (NT rfl rfl (Uj h1) rfl (Uj h2)) rfl;exact AX 1 1 Ca rfl rfl rfl rfl (AU e rfl)
theorem QR{n:Nat}{rest:List Nat}(hn:n<65530)(hl:(AB n++32::rest).length<400):CC (d+3) 21 [.str (AB n++32::rest)] σ=some (.ok (.tup [.int (n:Int),.str rest]),σ):=by
 haveI h:=Suf.all hl;haveI e1:=CT d σ (s:=[]) h rfl (Ks (AS n) (AL n));haveI e2:=C6 d σ h (AS n) rfl;haveI t1:decide (((0+(AB n).length:Nat):Int)=((0+([]:List Nat).length:Nat):Int))=false:=XW.trans (decide_eq_false fun q=>AL n (ch.mp ((bc _).symm.trans q)));haveI c1:=h.skip.one (σ:=σ);haveI c2:=h.skip.next.rest (σ:=σ);haveI c3:=h.cut (σ:=σ);haveI nt:=GK (d+0) σ hn;haveI ln:=JB d hn σ;exact AX 1 4 Ez rfl rfl rfl rfl (AO e1 (AO e2 (AU (AK rfl rfl (II t1)) (As (AO (CO (AK c1 rfl rfl) c2) (BQ (Bi (AJ (Ax (AJ (Ax (AJ c3 nt)) ln)) rfl)) rfl))))))
end
def Nh (l:List Nat):Prop:=Ex2 fun u c=> l=u++[c]∧Ah c=true
theorem Nh.pre{l:List Nat}(p:List Nat)(h:Nh l):Nh (p++l):=by
 obtain ⟨u,c,e,q⟩:=h;exact ⟨p++u,c,by simp only[e,aZ],q⟩
theorem Cn(n:Nat):Nh (AB n):=⟨(AB n).dropLast,(AB n).getLast (AL n),(List.dropLast_concat_getLast (AL n)).symm,ao.mp (AS n) _ (List.getLast_mem _)⟩
theorem MQ(a b:Nat):∀f,f<10→Nh (BR f (AB a) (AB b)):=
 CP (.pre _ (Cn a)) (.pre _ (.pre _ (.pre _ (Cn b)))) (.pre _ (.pre _ (.pre _ (Cn b)))) (.pre _ (.pre _ (.pre _ (Cn b)))) (.pre _ (.pre _ ⟨[58,32,80,82,73,78,84,32,34,71,79,84,79,32,48,34,59],48,rfl,rfl⟩)) (.pre _ (.pre _ (.pre _ (Cn b)))) (.pre _ (Cn a)) (.pre _ (Cn a)) (.pre _ (.pre _ (.pre _ (Cn b)))) (.pre _ (.pre _ (.pre _ (Cn b))))
theorem QS(A B:List Nat):∀f,f<10→Ex2 fun c r=> BR f A B=c::r∧inL c [32]=false:=CP ⟨_,_,rfl,rfl⟩ ⟨_,_,rfl,rfl⟩ ⟨_,_,rfl,rfl⟩ ⟨_,_,rfl,rfl⟩ ⟨_,_,rfl,rfl⟩ ⟨_,_,rfl,rfl⟩ ⟨_,_,rfl,rfl⟩ ⟨_,_,rfl,rfl⟩ ⟨_,_,rfl,rfl⟩ ⟨_,_,rfl,rfl⟩
theorem Jx{cs:List Nat}{l:List Nat}:∀t:List Nat,t.all (fun c=>inL c cs)=true→dropW cs (t++l)=dropW cs l
 | [],_=>rfl
 |a::t,h=>by
  simp only[bQ,aw]at h;simp only[cN,dropW,h.1];exact Jx t h.2
theorem FX{cs:List Nat}{c:Nat}{u:List Nat}(h:inL c cs=false):dropW cs (c::u)=c::u:=by simp only[dropW,h]
theorem Cr{cs u t:List Nat}{c:Nat}(h:inL c cs=false)(ht:t.all (fun c=>inL c cs)=true):BS cs (u++[c]++t)=u++[c]:=by
 rw[BS,List.reverse_append,Jx _ (List.all_reverse.trans ht),List.reverse_append,show ([c]:List Nat).reverse++u.reverse=c::u.reverse from rfl,FX h,bw,List.reverse_reverse]
theorem Es{c:Nat}(h:Ah c=true):inL c [32]=false∧inL c [13]=false∧inL c [32,9,13]=false:=DY (P:=fun c=>inL c [32]=false∧inL c [13]=false∧inL c [32,9,13]=false) (by decide) h
theorem Sn(u:List Nat)(c:Nat):(!eqL (u++[c]) [])=true:=by cases u<;>rfl
section
variable{σ τ:AA}{l cs:List Nat}
theorem MR(hl:l.length<400):BN σ .strip (.str l) [.str cs]=some (.ok (.str (BS cs (dropW cs l))),σ):=if_pos (ai hl (by decide))
theorem O6(hl:l.length<400):BN σ .rstrip (.str l) [.str cs]=some (.ok (.str (BS cs l)),σ):=if_pos (ai hl (by decide))
theorem Sq(d:Nat){n:Nat}{row bl:List Nat}{acc:List (Int×D)}(hn:n<65530)(hl:(AB n++32::(row++bl)).length<400)(hbl:bl.all (fun c=>inL c [32])=true)(hr:Nh row)(hf:Ex2 fun c r=> row=c::r∧inL c [32]=false)(hacc:acc.length<900):
  CC (d+4) 22 [.loc τ.length,.str (AB n++32::(row++bl))] (τ++[.dcti acc])=some (.ok .none,τ++[.dcti (Ay acc (n:Int) (.str row))]):=by
 haveI e1:=QR d (σ:=τ++[.dcti acc]) hn hl;haveI hl2:(row++bl).length<400:=am (by simp only[ae (as:=AB n),bF];exact ag (Nat.le_succ _) (bU _ _)) hl
 haveI s1:=MR (σ:=τ++[.dcti acc]) (cs:=[32]) hl2;haveI s2:=O6 (σ:=τ++[.dcti acc]) (cs:=[32]) hl2;haveI hset:=Ed (k:=(n:Int)) (v:=.str row) (AM (AI.dcti acc) [] τ) (ai hacc (by decide))
 obtain ⟨u,c,rfl,hc⟩:=hr;haveI hd:dropW [32] (u++[c]++bl)=u++[c]++bl:=by
  obtain ⟨c0,r0,e0,h0⟩:=hf;refine e0▸ ?_;exact FX h0
 rw[hd,Cr (Es hc).1 hbl]at s1;rw[Cr (Es hc).1 hbl]at s2;simp only[BV]at hset;haveI hne:=Sn u c;generalize u++[c]++bl=txt at*;generalize u++[c]=row at*;exact AX 2 4 Fv rfl rfl rfl rfl (BC e1 rfl rfl (AU rfl (As (AU (AK s1 rfl (Oh hne)) (FU s2 rfl rfl hset rfl)))))
end
def Kw (t:List Nat):Prop:=t=[]∨t=[13]∨t=[32,13]
noncomputable def BF (t:List Nat) (x:Ln):List Nat:=AB (Ln.n x)++[32]++Ln.row x++t
noncomputable abbrev Ni:List St:=[.ite (.and [(.cmp (.meth .strip (.loc 2) [(.cst (.str [32,9,13]))]) [.ne] [(.cst (.str []))]),(.cmp (.call 22 [(.loc 1),(.meth .rstrip (.loc 2) [(.cst (.str [13]))])]) [.isNotN] [(.cst .none)])]) [.junk] []]
section
variable(d:Nat){t:List Nat}(ht:Kw t){x0 x1:Option D}
include ht
theorem Sr(σ:AA):exs (CC (d+4)) AD 58 Ni [x0,x1,some (.str t)] σ=some (.nxt,[x0,x1,some (.str t)],σ):=by
 rcases ht with rfl|rfl|rfl<;>rfl
theorem MS{x:Ln}(hx:GP x):(BF t x).length<400:=by
 haveI h1:=AF (Ln.n x);haveI h2:(Ln.row x).length<100:=am (Bj (AF _) (AF _) _) (by decide)
 haveI h3:t.length≤2:=by rcases ht with rfl|rfl|rfl<;>decide
 simp only[BF,ae,ae,ae,cy];lia
theorem XY{τ:AA}{x:Ln}(hx:GP x){acc:List (Int×D)}(hacc:acc.length<900):exs (CC (d+4)) AD 58 Ni [x0,some (.loc τ.length),some (.str (BF t x))] (τ++[.dcti acc])=some (.nxt,[x0,some (.loc τ.length),some (.str (BF t x))],τ++[.dcti (Ay acc (Ln.n x:Int) (.str (Ln.row x)))]):=by
 have hlen:=MS ht hx;haveI hn:=FF hx.n;haveI hlast:Nh (AB (Ln.n x)++[32]++Ln.row x):=.pre _ (MQ _ _ _ hx.f);obtain ⟨u,c,e,hc⟩:=hlast;haveI s1:=MR (σ:=τ++[.dcti acc]) (cs:=[32,9,13]) hlen;have s2:=O6 (σ:=τ++[.dcti acc]) (cs:=[13]) hlen;have hd:dropW [32,9,13] (BF t x)=BF t x:=by
  rw[BF,aZ,aZ];haveI hf:=AS (Ln.n x);have hne:=AL (Ln.n x);generalize AB (Ln.n x)=l at*;cases l with
  |nil=>exact absurd rfl hne
  |cons c l=>
   simp only[bQ,aw]at hf;exact FX (Es hf.1).2.2
 have hr1:BS [32,9,13] (BF t x)=u++[c]:=by
  simp only[BF,e];exact Cr (Es hc).2.2 (by rcases ht with rfl|rfl|rfl<;>rfl)
 simp only[hd,hr1]at s1;haveI hne:=Sn u c;obtain ⟨bl,hbl,hb2,hr2⟩:∃bl,A3 (bl.all (fun c=>inL c [32])=true) (bl.length≤t.length) (BS [13] (BF t x)=AB (Ln.n x)++32::(Ln.row x++bl)):=by
  haveI ea:∀bl,AB (Ln.n x)++32::(Ln.row x++bl)=u++[c]++bl:=fun bl=>by
   rw[←e,aZ,aZ];rfl
  simp only[BF,e]
  rcases ht with rfl|rfl|rfl
  ·exact ⟨[],rfl,bJ _,(Cr (Es hc).2.1 rfl).trans ((af _).symm.trans (ea []).symm)⟩
  ·exact ⟨[],rfl,bC _,(Cr (Es hc).2.1 rfl).trans ((af _).symm.trans (ea []).symm)⟩
  ·refine ⟨[32],rfl,by decide,(Eq.trans ?_ (Cr (cs:=[13]) (u:=u++[c]) (c:=32) (t:=[13]) rfl rfl)).trans (ea [32]).symm⟩
   simp only[aZ (u++[c])];rfl
 rw[hr2]at s2;haveI hl2:(AB (Ln.n x)++32::(Ln.row x++bl)).length<400:=am (by
  simp only[BF,aZ,aZ,ae,ae,ae,ae,bF,ae,cy];lia) hlen
 haveI en:=Sq d (τ:=τ) hn hl2 hbl (MQ _ _ _ hx.f) (QS _ _ _ hx.f) hacc;haveI en:CC (d+4) 22 [.loc τ.length,.str (AB (Ln.n x)++32::(Ln.row x++bl))] (τ++[.dcti acc])=some (.ok .none,τ++[.dcti (Ay acc (Ln.n x:Int) (.str (Ln.row x)))]):=en;clear hd hr1 hr2 hl2 hlen hx e hc;generalize u++[c]=z at*;generalize BF t x=l at*;generalize AB (Ln.n x)++32::(Ln.row x++bl)=z2 at*;refine x_k ?_;exact (AU (Bh (a_T (AK s1 rfl (Oh hne)) (C5 (AK (Ax (AJ rfl (AJ s2 en))) rfl rfl)))) rfl)
end
theorem MT{acc:List (Int×D)}{x:Ln}{R L:List Ln}(h:acc++Am (x::R)=Am L)(ha:(L.map Ln.n).Pairwise (· < ·)):Ay acc (Ln.n x:Int) (.str (Ln.row x))++Am R=Am L:=by
 rw[Ee,aZ]
 ·exact h
 ·intro p hp q;haveI k:((Am L).map (·.1)).Pairwise (· < ·):=by
   rw[show (Am L).map (·.1)=D6 (L.map Ln.n) by rw[Am,D6,az,az];rfl]
   exact GO ha
  rw[←h,bb,dE]at k;exact absurd (k.2.2 p.1 (bn hp) (Ln.n x:Int) (.head _)) (by refine q▸ ?_;exact Int.lt_irrefl _)
theorem FY(d:Nat){σ:AA}{k:Nat}{L:List Ln}{t:List Nat}(ht:Kw t)(hk:σ[k]? =some (.lst ((t::L.map (BF t)).map .str)))(hL:∀x∈L,GP x)(hasc:(L.map Ln.n).Pairwise (· < ·))(hfew:L.length<60):
  CC (d+5) 24 [.loc k] σ=some (.ok (.loc σ.length),σ++[.dcti (Am L)]):=by
 haveI hat:∀c i,Aa 0 (.loc k) (σ++[c]) i=some ((t::L.map (BF t))[i]?.map .str):=fun c i=>Az hk [c] i;haveI h0:=Kj (f:=399) (ρ:=[some (.loc k),some (.loc σ.length),none]) (GH (hat (.dcti []) 0) rfl) (show Av false [2] (.str t) [some (.loc k),some (.loc σ.length),none]=some [some (.loc k),some (.loc σ.length),some (.str t)] from rfl) (Sr d ht (x0:=some (.loc k)) (x1:=some (.loc σ.length)) (σ++[.dcti []]))
 obtain ⟨ρ',σ',e,R,ac,y2,hR,h1,h2,h3,_⟩:=By (items:=t::L.map (BF t)) (itemD:=.str) (kind:=0) (src:=.loc k) (tup:=false) (tgt:=[2]) (body:=exs (CC (d+4)) AD 58 Ni)
  (fun s ρ σ'=>Ex3 fun R ac y2=>A6 (s=R.map (BF t)) (ρ=[some (.loc k),some (.loc σ.length),y2]) (σ'=σ++[.dcti ac]) (ac++Am R=Am L) (ac.length+R.length<800) (∀x∈R,x∈L))
  (fun s ρ σ' I i=>by
   obtain ⟨R,ac,y2,_,_,rfl,_⟩:=I;exact hat _ i) (fun a s ρ σ' I=>by
   obtain ⟨R,ac,y2,hR,rfl,rfl,h1,h2,h3⟩:=I;cases R with
   |nil=>contradiction
   |cons x R=>
    obtain ⟨rfl,rfl⟩:=bI.inj hR;simp only[bF]at h2;refine ⟨_,_,_,rfl,XY d ht (hL x (h3 x (.head _))) (by lia),R,Ay ac (Ln.n x:Int) (.str (Ln.row x)),_,rfl,rfl,rfl,MT h1 hasc,?_,fun z m=>h3 z (.tail _ m)⟩
    haveI:=O5 (Ln.n x:Int) (.str (Ln.row x)) ac;lia) (L.map (BF t)) 399 1 [some (.loc k),some (.loc σ.length),some (.str t)] (σ++[.dcti []]) rfl (by rw[ak];exact ai hfew (by decide)) ⟨L,[],some (.str t),rfl,rfl,rfl,rfl,by simp only[bY];lia,fun _ m=>m⟩
 cases R with
 |cons=>contradiction
 |nil=>
  simp only[show Am []=[] from rfl,af]at h3
  simp only[h1,h2,h3]at e;haveI e:=h0.trans e;exact AX 1 3 Cz rfl rfl rfl rfl (AO Dv (DX rfl e rfl))
noncomputable def AT (t0 t1:List Nat) (c2:AI) (cl:List Int) (t:Nat):AA:=[.tab t0,.tab t1,c2,.lst (cl.map .int),.lst [.loc 3,.int (t:Int)]]
theorem Ss(a:Int){m:Nat}(h1:0<m)(h2:m<1000):∃r:Nat,r<m∧∀σ,Bw σ .mod (.int a) (.int (m:Int))=some (.ok (.int (r:Int)),σ):=by
 haveI hp:(0:Int)≤Int.fmod a (m:Int):=Int.fmod_nonneg_of_pos _ (av.mpr h1);haveI hlt:Int.fmod a (m:Int)<(m:Int):=Int.fmod_lt_of_pos _ (av.mpr h1);haveI e:∀σ,Bw σ .mod (.int a) (.int (m:Int))=some (.ok (.int (Int.fmod a (m:Int))),σ):=fun σ=>if_pos ⟨av.mpr h1,be.mpr (ai h2 (by decide))⟩
 generalize Int.fmod a (m:Int)=z at*;obtain ⟨r,rfl⟩:=Int.eq_ofNat_of_zero_le hp;exact ⟨r,av.mp hlt,e⟩
section
variable{t0 t1:List Nat}{c2:AI}{cl:List Int}{t m:Nat}
theorem Ef(d:Nat)(t0 t1:List Nat)(c2:AI)(cl:List Int){t m:Nat}(ht:t<1000)(h1:0<m)(h2:m<1000):∃r:Nat,r<m∧∀g,CC (d+2) 68 [.loc 4,.int (m:Int)] (AT t0 t1 c2 cl t++g)=some (.ok (.int (r:Int)),AT t0 t1 c2 cl (t+1)++g):=by
 cases q:(cl.map D.int)[t]? with
 |some x=>
  rw[bN]at q;cases q2:cl[t]? with
  |none=>rw[q2]at q;exact xns q
  |some a=>
   rw[q2]at q;refine aW (Ss a h1 h2) fun r r_q=> ?_;haveI hr:=r_q.1;haveI em:=r_q.2
   refine ⟨r,hr,fun g=> ?_⟩;haveI hi:=DJ (σ:=AT t0 t1 c2 cl (t+1)++g) (t:=3) (i:=t) (x:=.int a) rfl (by rw[bN,q2];rfl)
   haveI hlt:=Oo (l:=cl.map D.int) (i:=t) (x:=.int a) (by rw[bN,q2];rfl)
   exact AX 2 4 FP rfl rfl rfl rfl (BC rfl rfl rfl (FU rfl rfl rfl rfl (BQ (CO (AK rfl rfl (Do hlt)) (BE (Ao rfl rfl hi) rfl (em (AT t0 t1 c2 cl (t+1)++g)))) rfl)))
 |none=>
  haveI hlt:decide ((t:Int)<((cl.map D.int).length:Int))=false:=decide_eq_false fun w=>bH.mpr (c6.mp q) (av.mp w);obtain ⟨r,hr,em⟩:=Ss (5*(t:Int)+Int.fdiv (t:Int) 4+2) h1 h2;refine ⟨r,hr,fun g=> ?_⟩;haveI hm:=mul_int (σ:=AT t0 t1 c2 cl (t+1)++g) (a:=5) (b:=(t:Int)) ⟨by decide,B9 (ai ht (by decide))⟩
  exact AX 2 4 FP rfl rfl rfl rfl (BC rfl rfl rfl (FU rfl rfl rfl rfl (BQ (CO (AK rfl rfl (Do hlt)) (BE (BE (BE hm rfl rfl) rfl rfl) rfl (em (AT t0 t1 c2 cl (t+1)++g)))) rfl)))
end
theorem Id(d:Nat){σ:AA}{t:Nat}{M:List (Nat×Nat)}(h:σ[t]? =some (.dcti (tM M)))(n:Nat)(z:Bool):CC (d+2) 70 [.loc t,.int (n:Int),.bool z] σ=some (.ok (.int (Bd M z n:Int)),σ):=by
 haveI e:ev (CC (d+1)) AD 58 (.and [(.cmp (.loc 1) [.eq] [(.cst (.int 0))]),(.loc 2)]) [some (.loc t),some (.int (n:Int)),some (.bool z)] σ=some (.ok (.bool (Nat.beq n 0&&z)),σ):=Bh (G3 (AK rfl rfl (II (XQ n))) (C5 rfl));haveI hg:=Ib h n;haveI hm:=Ic h;unfold Bd;generalize (Nat.beq n 0&&z)=b at*;cases b with
 |true=>exact AX 3 3 FS rfl rfl rfl rfl (BQ (CO e rfl) rfl)
 |false=>exact AX 3 3 FS rfl rfl rfl rfl (BQ (CO e (B8 rfl hm hg)) rfl)
noncomputable def pts (f:E→Option PT):List E→Option (List PT)
 | []=>some []
 |e::es=>(f e).bind fun t=>(pts f es).map (t:: ·)
noncomputable def ptD (d:D):Option PT:=match d with
 | .none=>some .none
 | .int i=>some (.int i)
 | .str s=>some (.str s)
 |_=>none
noncomputable def bd:Nat→E→Nat
 |0,_=>0
 |n+1,e=>match e with
  | .cst (.str s)=>s.length
  | .bin _ a b=>bd n a+bd n b
  |_=>260
noncomputable def aT (b:Bool) (x y:Option PT):Option PT:=x.bind fun x=>y.bind fun y=>match b,x,y with
 |true,.str s,.str t=>some (.str (s++t))
 |_,_,_=>none
noncomputable def pt (T:List (Option PT)):Nat→E→Option PT
 |0,_=>none
 |n+1,e=>match e with
  | .cst d=>ptD d
  | .loc i=>T[i]?.join
  | .tup es=>(pts (pt T n) es).map .tup
  | .lst es=>(pts (pt T n) es).map .lst
  | .bin .add a b=>aT (Nat.blt (bd n a+bd n b) 1000000) (pt T n a) (pt T n b)
  |_=>none
def CE (T:List (Option PT)) (ρ:Loc) (β:AA):Prop:= ∀(i:Nat) (t:PT),T[i]? =some (some t)→(∃d,ρ[i]? =some (some d)∧∀σ,Grw β σ→Rd σ t d)∧∀s,t=.str s→s.length≤260
section
variable{call:Call}{T:List (Option PT)}{ρ:Loc}{β σ:AA}{n:Nat}
def PtG (call:Call) (T:List (Option PT)) (ρ:Loc) (β:AA) (n:Nat):Prop:= ∀e t σ,pt T n e=some t→Grw β σ→(Ex2 fun d g=> ev call AD n e ρ σ=some (.ok d,σ++g)∧Rd (σ++g) t d)∧∀s,t=.str s→s.length≤bd n e
theorem Rds.grow{σ':AA}(x:Grw σ σ'){ts:List PT}{l:List D}(h:Rds σ ts l):Rds σ' ts l:=(Rd.grow (t:=.tup ts) (d:=.tup l) x ⟨l,rfl,h⟩).elim fun l' q=>by cases q.1;exact q.2
theorem Su(H:PtG call T ρ β n):∀(es:List E) (ts:List PT) (σ:AA),pts (pt T n) es=some ts→Grw β σ→Ex2 fun ds g=> (∀f:List D→AA→R,evLb (fun e σ=>ev call AD n e ρ σ) es σ f=f ds (σ++g))∧Rds (σ++g) ts ds:=by
 intro es
 induction es with
 |nil=>intro ts σ h x;(injection h with h;subst h);exact ⟨[],[],fun f=>congrArg (f []) (af σ).symm,rfl⟩
 |cons e es ih=>
  intro ts σ h x;refine aW (bP.mp h) fun t t_q=> ?_;haveI e1:=t_q.1;haveI e2:=t_q.2
  obtain ⟨us,e3,rfl⟩:=bG.mp e2;obtain ⟨⟨d,g,hd,hr⟩,_⟩:=H e t σ e1 x;obtain ⟨ds,g2,hf,hrs⟩:=ih us (σ++g) e3 (x.trans (Grw.app _ _));refine ⟨d::ds,g++g2,fun f=> ?_,d,ds,rfl,?_,?_⟩
  ·rw[←aZ];exact AJ hd (hf _)
  ·rw[←aZ];exact hr.grow (Grw.app _ _)
  ·rw[←aZ];exact hrs
theorem Sv(hT:CE T ρ β):∀n,PtG call T ρ β n:=by
 intro n
 induction n with
 |zero=>exact fun e t σ h _=>xns h
 |succ n H=>
  intro e t σ h x;cases e with
  |cst d=>
   cases d with
   |none=>(injection h with h;subst h);exact ⟨⟨_,[],congrArg (fun s=>some (Ro.ok D.none,s)) (af σ).symm,rfl⟩,fun _ q=>by contradiction⟩
   |int i=>(injection h with h;subst h);exact ⟨⟨_,[],congrArg (fun s=>some (Ro.ok (D.int i),s)) (af σ).symm,rfl⟩,fun _ q=>by contradiction⟩
   |str l=>(injection h with h;subst h);exact ⟨⟨_,[],congrArg (fun s=>some (Ro.ok (D.str l),s)) (af σ).symm,rfl⟩,fun s q=>by (injection q with q;subst q);exact bJ _⟩
   |_=>exact xns h
  |loc i=>
   haveI h2:T[i]? =some (some t):=by
    haveI h:T[i]?.join=some t:=h;cases q:T[i]? with
    |none=>rw[q]at h;exact xns h
    |some o=>rw[q]at h;exact congrArg some h
   obtain ⟨⟨d,e,hd⟩,hs⟩:=hT i t h2;exact ⟨⟨d,[],by rw[af];exact GC e,by rw[af];exact hd σ x⟩,hs⟩
  |tup es=>
   obtain ⟨ts,e,rfl⟩:=bG.mp h;obtain ⟨ds,g,hf,hr⟩:=Su H es ts σ e x;exact ⟨⟨.tup ds,g,Bi (hf _),ds,rfl,hr⟩,fun _ q=>by contradiction⟩
  |lst es=>
   obtain ⟨ts,e,rfl⟩:=bG.mp h;obtain ⟨ds,g,hf,hr⟩:=Su H es ts σ e x;exact ⟨⟨.loc (σ++g).length,g++[.lst ds],L0 ((hf _).trans (by rw[←aZ];rfl)),_,ds,rfl,by rw[←aZ];exact AM _ _ _,hr.grow (by rw[←aZ];exact Grw.app _ _)⟩,fun _ q=>by contradiction⟩
  |bin op a b=>
   cases op with
   |add=>
    obtain ⟨x1,h1,h⟩:=bP.mp h;obtain ⟨y1,h2,h⟩:=bP.mp h;obtain ⟨⟨d1,g1,k1,r1⟩,l1⟩:=H a x1 σ h1 x;obtain ⟨⟨d2,g2,k2,r2⟩,l2⟩:=H b y1 (σ++g1) h2 (x.trans (Grw.app _ _));cases hq:Nat.blt (bd n a+bd n b) 1000000 with
    |false=>rw[hq]at h;exact xns h
    |true=>
     rw[hq]at h;cases x1 with
     |str s=>
      cases y1 with
      |str u=>
       (injection h with h;subst h)
       subst r1;subst r2;have l3:=Nat.add_le_add (l1 s rfl) (l2 u rfl);refine ⟨⟨.str (s++u),g1++g2,by rw[←aZ];exact BE k1 k2 (add_str (am l3 (be.mp hq))),rfl⟩,fun w q=> ?_⟩
       (injection q with q;subst q)
       rw[ae];exact l3
      |_=>exact xns h
     |_=>exact xns h
   |_=>exact xns h
  |_=>exact xns h
end
theorem Rds.get{σ:AA}{t:PT}:∀{ts:List PT} {l:List D} {i:Nat},Rds σ ts l→ts[i]? =some t→∃d,l[i]? =some d∧Rd σ t d
 | [],_,_,_,e=>xns e
 |u::ts,l,0,h,e=>by
  obtain ⟨d,r,rfl,h1,_⟩:=h
  (injection e with e;subst e)
  exact ⟨d,rfl,h1⟩
 |u::ts,l,i+1,h,e=>by
  obtain ⟨d,r,rfl,_,h2⟩:=h;exact Rds.get (ts:=ts) (l:=r) h2 e
noncomputable abbrev zT:PT:=.tup [.str [80,82,73,78,84],.none,.lst [.tup [.str [118,97,108,117,101],.tup [.str [116,101,120,116],.str [71,79,84,79,32,48]]],.tup [.str [103,108,117,101]],.tup [.str [118,97,108,117,101],.tup [.str [119,104,111,108,101],.int 0]]]]
noncomputable abbrev oT (a:Nat):PT:=.tup [.str [82,69,83,85,77,69],IR a]
noncomputable def Sx (A B:List Nat) (a b:Nat):List PT:=[.tup [.str ([71,79,84,79,32]++A),Ad 0 a b],.tup [.str ([79,78,32,88,32,71,79,84,79,32]++A++[44]++B),Ad 1 a b],.tup [.str ([73,70,32,88,32,84,72,69,78,32]++A++[32,69,76,83,69,32]++B),Ad 2 a b],.tup [.str ([71,79,83,85,66,32]++A++[58,32,82,69,84,85,82,78,32]++B),Ad 3 a b],.tup [.str ([82,69,83,84,79,82,69,32]++A++[58,32,80,82,73,78,84,32,34,71,79,84,79,32,48,34,59,48]),Ad 4 a b],.tup [.str ([79,78,32,69,82,82,79,82,32,71,79,84,79,32]++A++[58,32,71,79,84,79,32]++B),Ad 5 a b],.tup [.str ([82,69,83,85,77,69,32]++A),Ad 6 a b],.tup [.str ([69,82,82,79,82,32,88,58,32,71,79,84,79,32]++A),Ad 7 a b],.tup [.str ([82,69,83,85,77,69,32,78,69,88,84,58,32,79,78,32,88,32,71,79,83,85,66,32]++A++[44]++B),Ad 8 a b],.tup [.str ([73,70,32,88,32,84,72,69,78,32,82,69,83,85,77,69,32]++A++[32,69,76,83,69,32,79,78,32,69,82,82,79,82,32,71,79,84,79,32]++B),Ad 9 a b]]
theorem as4(u A v B:List Nat):u++A++v++B=u++(A++(v++B)):=by rw[aZ,aZ]
theorem Sy(A B:List Nat)(a b:Nat):∀f,f<10→(Sx A B a b)[f]? =some (.tup [.str (BR f A B),Ad f a b]):=
 CP rfl (congrArg (fun z=>some (PT.tup [.str z,Ad 1 a b])) (as4 _ _ _ _)) (congrArg (fun z=>some (PT.tup [.str z,Ad 2 a b])) (as4 _ _ _ _)) (congrArg (fun z=>some (PT.tup [.str z,Ad 3 a b])) (as4 _ _ _ _)) (congrArg (fun z=>some (PT.tup [.str z,Ad 4 a b])) (aZ _ _ _)) (congrArg (fun z=>some (PT.tup [.str z,Ad 5 a b])) (as4 _ _ _ _)) rfl rfl (congrArg (fun z=>some (PT.tup [.str z,Ad 8 a b])) (as4 _ _ _ _)) (congrArg (fun z=>some (PT.tup [.str z,Ad 9 a b])) (as4 _ _ _ _))
noncomputable abbrev VZ:E:=match FQ with
 | [_,_,_,.ret (.idx e _)]=>e
 |_=>.junk
theorem Sz{call:Call}{n a:Nat}{ρ:Loc}{σ:AA}(h:ρ[1]? =some (some (.int (a:Int)))):∃d,ev call AD (n+3) (.ite (.cmp (.loc 1) [.gt] [(.cst (.int 0))]) (.loc 1) (.cst .none)) ρ σ=some (.ok d,σ)∧∀τ,Rd τ (IR a) d:=by
 cases a with
 |zero=>exact ⟨.none,CO (t:=false) (AK (GC h) rfl (EA rfl)) rfl,fun _=>rfl⟩
 |succ a=>exact ⟨.int ((a+1:Nat):Int),CO (t:=true) (AK (GC h) rfl (EA (decide_eq_true (av.mpr (cG a))))) (GC h),fun _=>rfl⟩
theorem CE.cons{T:List (Option PT)}{ρ:Loc}{β:AA}{o:Option PT}{x:Option D}(h:CE T ρ β)(k:∀t,o=some t→(∃d,x=some d∧∀σ,Grw β σ→Rd σ t d)∧∀s,t=.str s→s.length≤260):CE (o::T) (x::ρ) β
 |0,t,e=>by
  obtain ⟨⟨d,e1,e2⟩,e3⟩:=k t (aq.inj e);exact ⟨⟨d,congrArg some e1,e2⟩,e3⟩
 |i+1,t,e=>h i t e
theorem CE.nil{ρ:Loc}{β:AA}:CE [] ρ β:=fun _ _ e=>xns e
theorem CE.none{T:List (Option PT)}{ρ:Loc}{β:AA}{x:Option D}(h:CE T ρ β):CE (none::T) (x::ρ) β:=h.cons fun _ e=>xns e
theorem CE.int{T:List (Option PT)}{ρ:Loc}{β:AA}{i:Int}(h:CE T ρ β):CE (some (.int i)::T) (some (.int i)::ρ) β:=h.cons fun t e=>by (injection e with e;subst e);exact ⟨⟨_,rfl,fun _ _=>rfl⟩,fun _ q=>by contradiction⟩
theorem CE.str{T:List (Option PT)}{ρ:Loc}{β:AA}{l:List Nat}(hl:l.length≤260)(h:CE T ρ β):CE (some (.str l)::T) (some (.str l)::ρ) β:=h.cons fun t e=>by (injection e with e;subst e);exact ⟨⟨_,rfl,fun _ _=>rfl⟩,fun _ q=>by (injection q with q;subst q);exact hl⟩
theorem CE.tup{T:List (Option PT)}{ρ:Loc}{β:AA}{ts:List PT}{d:D}(hd:Rd β (.tup ts) d)(h:CE T ρ β):CE (some (.tup ts)::T) (some d::ρ) β:=h.cons fun t e=>by (injection e with e;subst e);exact ⟨⟨_,rfl,fun _ x=>hd.grow x⟩,fun _ q=>by contradiction⟩
theorem Ie(d:Nat){f a b:Nat}(σ:AA)(hf:f<10)(ha:a<1000000)(hb:b<1000000):Ex2 fun tr σ'=>A3 (CC (d+2) 69 [.int (f:Int),.int (a:Int),.int (b:Int)] σ=some (.ok (.tup [.str (BR f (AB a) (AB b)),tr]),σ')) (Fut σ σ') (Rd σ' (Ad f a b) tr):=by
 haveI s1:=Hd (σ:=σ) (ai ha (by decide))
 haveI s2:=Hd (σ:=σ) (ai hb (by decide))
 haveI hA:=ag (AF a) (show 20≤260 by decide)
 haveI hB:=ag (AF b) (show 20≤260 by decide)
 haveI hg:=Sy (AB a) (AB b) a b f hf;generalize AB a=A at*;generalize AB b=B at*;obtain ⟨⟨z,g1,ez,rz⟩,_⟩:=Sv (call:=CC (d+1)) (ρ:=[some (.int (f:Int)),some (.int (a:Int)),some (.int (b:Int)),none,none,some (.str A),some (.str B),some (.tup [.str [110,97,109,101],.str [88]])]) (T:=[]) (β:=σ) (fun _ _ e=>xns e) 58 (.tup [(.cst (.str [80,82,73,78,84])),(.cst .none),(.lst [(.tup [(.cst (.str [118,97,108,117,101])),(.tup [(.cst (.str [116,101,120,116])),(.cst (.str [71,79,84,79,32,48]))])]),(.tup [(.cst (.str [103,108,117,101]))]),(.tup [(.cst (.str [118,97,108,117,101])),(.tup [(.cst (.str [119,104,111,108,101])),(.cst (.int 0))])])])]) zT σ rfl (Grw.refl σ);haveI f1:=Fut.app σ g1;generalize σ++g1=s3 at*;obtain ⟨o,eo,ro⟩:=Sz (call:=CC (d+1)) (n:=53) (a:=a) (ρ:=[some (.int (f:Int)),some (.int (a:Int)),some (.int (b:Int)),some z,none,some (.str A),some (.str B),some (.tup [.str [110,97,109,101],.str [88]])]) (σ:=s3) rfl;obtain ⟨⟨w,g2,ew,rw⟩,_⟩:=Sv (call:=CC (d+1)) (β:=s3) (CE.none (x:=some (.int (f:Int))) (CE.int (i:=(a:Int)) (CE.int (i:=(b:Int)) (CE.tup rz (CE.tup (ts:=[.str [82,69,83,85,77,69],IR a]) (d:=.tup [.str [82,69,83,85,77,69],o]) ⟨_,rfl,_,_,rfl,rfl,_,_,rfl,ro s3,rfl⟩ (CE.str hA (CE.str hB (CE.tup (ts:=[.str [110,97,109,101],.str [88]]) (d:=.tup [.str [110,97,109,101],.str [88]]) ⟨_,rfl,_,_,rfl,rfl,_,_,rfl,rfl,rfl⟩ CE.nil)))))))) 55 VZ (.lst (Sx A B a b)) s3 rfl (Grw.refl s3);obtain ⟨i,l,rfl,hi,hl⟩:=rw;obtain ⟨dd,hd,rd⟩:=Rds.get hl hg;obtain ⟨_,rfl,x1,r1,rfl,h1,tr,r2,rfl,h2,h3⟩:=rd;subst h1;subst h3;haveI hx:=DJ hi hd;refine ⟨tr,s3++g2,?_,f1.trans (Fut.app _ _),h2⟩;haveI ew:ev (CC (d+1)) AD 55 VZ [some (.int (f:Int)),some (.int (a:Int)),some (.int (b:Int)),some z,some (.tup [.str [82,69,83,85,77,69],o]),some (.str A),some (.str B),some (.tup [.str [110,97,109,101],.str [88]])] s3=some (.ok (.loc i),s3++g2):=ew;exact AX 3 8 FQ rfl rfl rfl rfl (BC (Bi (AJ s1 (AJ s2 rfl))) rfl rfl (AO ez (AO (Bi (AJ rfl (AJ eo rfl))) (BQ (Ao ew rfl hx) rfl))))
theorem S5(σ:AA){n:Nat}(h:n≤1000)(i:Nat):Aa 1 (.int (n:Int)) σ i=some ((bM n)[i]?.map fun (i:Nat)=>.int (i:Int)):=by
 haveI e:Aa 1 (.int (n:Int)) σ i=some (if (i:Int)<(n:Int) then some (.int (i:Int)) else none):=if_pos ⟨cM.mpr (ag h (by decide)),Int.le_trans (by decide) (bx n)⟩
 rw[e];by_cases q:i<n
 ·rw[if_pos (av.mpr q),List.getElem?_range q];rfl
 ·rw[if_neg fun w=>q (av.mp w),c6.mpr (by rw[cT];exact bH.mp q)];rfl
theorem Jy(l m:List Nat):AG (l++m)=AG l++AG m:=bb
theorem O7{σ:AA}{i j:Nat}{l m:List D}(h1:σ[i]? =some (.lst l))(h2:σ[j]? =some (.lst m))(hl:l.length+m.length<1000000):Bw σ .add (.loc i) (.loc j)=some (.ok (.loc σ.length),σ++[.lst (l++m)]):=
 (show Bw σ .add (.loc i) (.loc j)=B5 σ (.loc i) (fun _ l=>B5 σ (.loc j) fun _ m=>if l.length+m.length<1000000 then alloc σ (.lst (l++m)) else none) from rfl).trans ((Bb h1 _).trans ((Bb h2 _).trans (if_pos hl)))
noncomputable def Aq (x:Ln):D:=.tup [.int (Ln.n x:Int),.int (Ln.f x:Int),.int (Ln.a x:Int),.int (Ln.b x:Int)]
noncomputable abbrev CU:AI:=.lst [.int 0,.int 1,.int 7]
noncomputable abbrev l05:AI:=.lst [.int 0,.int 500]
noncomputable abbrev ZM:List St:=[.exp (.meth .append (.loc 5) [(.loc 4)]),.asg 4 (.bin .add (.bin .add (.loc 4) (.cst (.int 1))) (.call 68 [(.loc 0),(.cst (.int 9))]))]
noncomputable abbrev ZN:List St:=[.asg 7 (.call 68 [(.loc 0),(.cst (.int 10))]),.asg 8 (.idx (.loc 2) (.call 68 [(.loc 0),(.bi .len [(.loc 2)])])),.exp (.meth .append (.loc 6) [(.tup [(.loc 3),(.loc 7),(.loc 8),(.idx (.loc 2) (.call 68 [(.loc 0),(.bi .len [(.loc 2)])]))])])]
section
variable(d:Nat)(t0 t1:List Nat)(c2:AI)(cl:List Int)
theorem dr1{n num:Nat}(hn:n≤4)(hnum:num≤7):Ex4 fun lines T x1 x4=>A5 (CQ 1 (.int (n:Int)) false [1] (exs (CC (d+2)) AD 58 ZM) 400 0 [some (.loc 4),none,none,none,some (.int (num:Int)),some (.loc 6),some (.loc 7),none,none] (AT t0 t1 c2 cl 2++[CU,.lst [],.lst []])=some (.nxt,[some (.loc 4),x1,none,none,x4,some (.loc 6),some (.loc 7),none,none],AT t0 t1 c2 cl T++[CU,.lst (AG lines),.lst []])) (lines.length=n) (lines.Pairwise (· < ·)) ((∀m∈lines,m<1000)) (T≤10):=by
 obtain ⟨ρ',σ',e,lines,num',T,x1,rfl,rfl,h1,h2,h3,h4,h5⟩:=By (items:=bM n) (itemD:=fun (i:Nat)=>.int (i:Int)) (kind:=1) (src:=.int (n:Int)) (tup:=false) (tgt:=[1]) (body:=exs (CC (d+2)) AD 58 ZM)
  (fun s ρ σ'=>Ex4 fun lines num' T x1=>A7 (ρ=[some (.loc 4),x1,none,none,some (.int ((num':Nat):Int)),some (.loc 6),some (.loc 7),none,none]) (σ'=AT t0 t1 c2 cl T++[CU,.lst (AG lines),.lst []]) (lines.length+s.length=n) (lines.Pairwise (· < ·)) ((∀m∈lines,m<num')) (num'+9*s.length≤100) (T+s.length≤10))
  (fun _ _ σ _ i=>S5 σ (ag hn (by decide)) i) (fun a s ρ σ' I=>by
   obtain ⟨lines,num',T,x1,rfl,rfl,h1,h2,h3,h4,h5⟩:=I;simp only[bF]at h1 h4 h5;haveI ha:BN (AT t0 t1 c2 cl T++[CU,.lst (AG lines),.lst []]) .append (.loc 6) [.int (num':Int)]=some (.ok .none,AT t0 t1 c2 cl T++[CU,.lst (AG (lines++[num'])),.lst []]):=by
    rw[Jy];exact Dc _ _ (n:=6) (l:=AG lines) rfl (by rw[CB];lia)
   obtain ⟨r,hr,es⟩:=Ef d t0 t1 c2 cl (t:=T) (m:=9) (by lia) (by decide) (by decide)
   haveI es:=es [CU,.lst (AG (lines++[num'])),.lst []];haveI hm:=EY (σ:=AT t0 t1 c2 cl T++[CU,.lst (AG lines),.lst []]) (n:=6) (l:=AG lines) rfl;refine ⟨_,[some (.loc 4),some (.int (a:Int)),none,none,some (.int ((num'+1+r:Nat):Int)),some (.loc 6),some (.loc 7),none,none],_,rfl,x_k ?_,lines++[num'],num'+1+r,T+1,some (.int (a:Int)),rfl,rfl,by simp only[ae,cy];lia,?_,?_,by lia,by lia⟩
   ·generalize AG (lines++[num'])=l2 at*;generalize AG lines=l1 at*;clear h1 h2 h3 h4 h5;exact (GB ha (AO (BE rfl es rfl) rfl))
   ·exact dE.mpr ⟨h2,List.pairwise_singleton _ _,fun m hm b hb=>by simp only[bA.mp hb];exact h3 m hm⟩
   ·intro m hm;simp only[b8]
    rcases bV.mp hm with hm|hm
    ·exact bv (h3 m hm) (bR _ _)
    ·simp only[bA.mp hm];exact dC (bv Nat.zero_lt_one (bR 1 r))) (bM n) 400 0 [some (.loc 4),none,none,none,some (.int (num:Int)),some (.loc 6),some (.loc 7),none,none] (AT t0 t1 c2 cl 2++[CU,.lst [],.lst []]) rfl (by rw[cT];lia) ⟨[],num,2,none,rfl,rfl,by simp only[cT,bY,bc],.nil,(fun _ m=>by contradiction),by rw[cT];lia,by rw[cT];lia⟩
 exact ⟨lines,T,x1,_,e,h1,h2,fun m hm=>bv (h3 m hm) (ag h4 (by decide)),h5⟩
theorem MU{lines:List Nat}(h:∀m∈lines,m<1000){r:Nat}(hr:r<(AG (lines++[0,500])).length):∃a,a<1000∧(AG (lines++[0,500]))[r]? =some (.int ((a:Nat):Int)):=by
 simp only[CB]at hr;refine ⟨(lines++[0,500])[r],?_,by simp only[AG,bN,bk hr];rfl⟩
 haveI hm:=List.getElem_mem hr;generalize (lines++[0,500])[r]=a at hm
 rcases bV.mp hm with hm|hm
 ·exact h _ hm
 ·rcases aj.mp hm with rfl|hm
  ·decide
  ·rw[bA.mp hm];decide
theorem dr2{lines:List Nat}{T:Nat}{x1 x4:Option D}(hn:lines.length≤4)(hT:T≤10)(hs:∀m∈lines,m<1000):Ex3 fun (L:List Ln) (T':Nat) (ρ':Option D×Option D×Option D)=>A4 (CQ 0 (.loc 6) false [3] (exs (CC (d+2)) AD 56 ZN) 400 0 [some (.loc 4),x1,some (.loc 9),none,x4,some (.loc 6),some (.loc 7),none,none] (AT t0 t1 c2 cl T++[CU,.lst (AG lines),.lst [],l05,.lst (AG (lines++[0,500]))])=some (.nxt,[some (.loc 4),x1,some (.loc 9),ρ'.1,x4,some (.loc 6),some (.loc 7),ρ'.2.1,ρ'.2.2],AT t0 t1 c2 cl T'++[CU,.lst (AG lines),.lst (List.map Aq L),l05,.lst (AG (lines++[0,500]))])) (L.map Ln.n=lines) ((∀x∈L,GP x)) (T'≤22):=by
 obtain ⟨ρ',σ',e,L,T',x3,x7,x8,rfl,rfl,h1,h2,h3⟩:=By (items:=lines) (itemD:=fun (i:Nat)=>.int (i:Int)) (kind:=0) (src:=.loc 6) (tup:=false) (tgt:=[3]) (body:=exs (CC (d+2)) AD 56 ZN)
  (fun s ρ σ'=>Ex5 fun L T' x3 x7 x8=>A5 (ρ=[some (.loc 4),x1,some (.loc 9),x3,x4,some (.loc 6),some (.loc 7),x7,x8]) (σ'=AT t0 t1 c2 cl T'++[CU,.lst (AG lines),.lst (List.map Aq L),l05,.lst (AG (lines++[0,500]))]) (L.map Ln.n++s=lines) ((∀x∈L,GP x)) (T'+3*s.length≤22))
  (fun s ρ σ I i=>by
   obtain ⟨L,T',x3,x7,x8,_,rfl,_⟩:=I;haveI z:=Az (σ:=AT t0 t1 c2 cl T'++[CU,.lst (AG lines),.lst (List.map Aq L),l05,.lst (AG (lines++[0,500]))]) (k:=6) (l:=lines) (f:=fun (i:Nat)=>D.int (i:Int)) rfl [] i;rwa[af]at z) (fun line s ρ σ' I=>by
   obtain ⟨L,T',x3,x7,x8,rfl,rfl,h1,h2,h3⟩:=I;simp only[bF]at h3;haveI hL:L.length<100000:=by
    haveI:=congrArg bX h1;simp only[ae,ak]at this;lia
   haveI hline:=hs line (h1▸cO _ (.head _));haveI hgl:(AG (lines++[0,500])).length<1000:=by simp only[CB,ae];exact am (ce hn 2) (by decide)
   haveI hgp:0<(AG (lines++[0,500])).length:=by simp only[CB,ae];exact cG _
   obtain ⟨f,hf,e1⟩:=Ef d t0 t1 c2 cl (t:=T') (m:=10) (by lia) (by decide) (by decide)
   obtain ⟨r2,hr2,e2⟩:=Ef d t0 t1 c2 cl (t:=T'+1) (by lia) hgp hgl
   obtain ⟨r3,hr3,e3⟩:=Ef d t0 t1 c2 cl (t:=T'+1+1) (by lia) hgp hgl
   obtain ⟨a,ha,ea⟩:=MU hs hr2;obtain ⟨b,hb,eb⟩:=MU hs hr3;haveI e1:=e1 [CU,.lst (AG lines),.lst (List.map Aq L),l05,.lst (AG (lines++[0,500]))];haveI e2:=e2 [CU,.lst (AG lines),.lst (List.map Aq L),l05,.lst (AG (lines++[0,500]))];haveI e3:=e3 [CU,.lst (AG lines),.lst (List.map Aq L),l05,.lst (AG (lines++[0,500]))];refine ⟨_,[some (.loc 4),x1,some (.loc 9),some (.int (line:Int)),x4,some (.loc 6),some (.loc 7),some (.int (f:Int)),some (.int (a:Int))],_,rfl,x_k ?_,L++[(line,f,a,b)],T'+1+1+1,some (.int (line:Int)),some (.int (f:Int)),some (.int (a:Int)),rfl,rfl,by simp only[bb,aZ];exact h1,fun x hx=> ?_,by lia⟩
   ·simp only[bb];clear h1 h2 h3 hline hgl hgp;generalize AG (lines++[0,500])=G at*;generalize AG lines=l1 at*;haveI hl:(List.map Aq L).length<100000:=by rw[ak];exact hL
    generalize List.map Aq L=tl at*;haveI i2:=DJ (σ:=AT t0 t1 c2 cl (T'+1+1)++[CU,.lst l1,.lst tl,l05,.lst G]) (t:=9) rfl ea;haveI i3:=DJ (σ:=AT t0 t1 c2 cl (T'+1+1+1)++[CU,.lst l1,.lst tl,l05,.lst G]) (t:=9) rfl eb;haveI hap:=Dc (AT t0 t1 c2 cl (T'+1+1+1)++[CU,.lst l1,.lst tl,l05,.lst G]) (Aq (line,f,a,b)) (n:=7) (l:=tl) rfl hl;haveI hm:=EY (σ:=AT t0 t1 c2 cl (T'+1+1)++[CU,.lst l1,.lst tl,l05,.lst G]) (n:=7) (l:=tl) rfl;exact (AO e1 (AO (Ao rfl e2 i2) (GB (B8 rfl hm (AJ (Bi (AJ rfl (AJ rfl (AJ rfl (AJ (Ao rfl e3 i3) rfl))))) hap)) rfl)))
   ·rcases bV.mp hx with hx|hx
    ·exact h2 x hx
    ·simp only[bA.mp hx];exact ⟨hline,hf,ha,hb⟩) lines 400 0 [some (.loc 4),x1,some (.loc 9),none,x4,some (.loc 6),some (.loc 7),none,none] (AT t0 t1 c2 cl T++[CU,.lst (AG lines),.lst [],l05,.lst (AG (lines++[0,500]))]) rfl (am hn (by decide)) ⟨[],T,none,none,none,rfl,rfl,rfl,(fun _ m=>nomatch m),by lia⟩
 simp only[af]at h1;exact ⟨L,T',(x3,x7,x8),e,h1,h2,h3⟩
theorem S6:Ex5 fun L T c5 c8 c9=>A6 (CC (d+3) 71 [.loc 4] (AT t0 t1 c2 cl 0)=some (.ok (.tup [.loc 6,.loc 7]),AT t0 t1 c2 cl T++[c5,.lst (AG (List.map Ln.n L)),.lst (List.map Aq L),c8,c9])) (T≤22) (1≤L.length) (L.length≤4) ((L.map Ln.n).Pairwise (· < ·)) (∀x∈L,GP x):=by
 obtain ⟨r0,h0,e0⟩:=Ef d t0 t1 c2 cl (t:=0) (m:=3) (by decide) (by decide) (by decide)
 obtain ⟨r1,hr1,e1⟩:=Ef d t0 t1 c2 cl (t:=1) (m:=4) (by decide) (by decide) (by decide)
 obtain ⟨num,hnum,en⟩:∃num:Nat,num≤7∧([.int 0,.int 1,.int 7]:List D)[r0]? =some (.int (num:Int)):=by
  match r0,h0 with
  |0,_=>exact ⟨0,by decide,rfl⟩
  |1,_=>exact ⟨1,by decide,rfl⟩
  |2,_=>exact ⟨7,by decide,rfl⟩
  |n+3,h=>exact absurd h (bH.mpr (bU _ _))
 haveI i0:=DJ (σ:=AT t0 t1 c2 cl 1++[CU]) (t:=5) rfl en;obtain ⟨lines,T,x1,x4,w1,hl,ha,hs,hT⟩:=dr1 d t0 t1 c2 cl (n:=1+r1) (num:=num) (by lia) hnum
 haveI hb:=O7 (σ:=AT t0 t1 c2 cl T++[CU,.lst (AG lines),.lst [],l05]) (i:=6) (j:=8) (l:=AG lines) (m:=[.int 0,.int 500]) rfl rfl (by rw[CB];exact am (ce (cI hl) 2) (by lia))
 obtain ⟨L,T',ρ',w2,hL,hok,hT'⟩:=dr2 d t0 t1 c2 cl (lines:=lines) (x1:=x1) (x4:=x4) (by lia) hT hs
 have hlen:L.length=1+r1:=by rw[←hl,←hL,ak]
 refine ⟨L,T',CU,l05,.lst (AG (lines++[0,500])),?_,hT',by lia,by lia,by simp only[hL];exact ha,hok⟩
 rw[hL];haveI e0:=e0 [CU];haveI e1:=e1 [CU,.lst [],.lst []];haveI hb:Bw (AT t0 t1 c2 cl T++[CU,.lst (AG lines),.lst [],l05]) .add (.loc 6) (.loc 8)=some (.ok (.loc 9),AT t0 t1 c2 cl T++[CU,.lst (AG lines),.lst [],l05,.lst (AG (lines++[0,500]))]):=by rw[Jy];exact hb
 generalize AG (lines++[0,500])=G at*;generalize AG lines=l1 at*;generalize List.map Aq L=tl at*;clear hL hok hl ha hs;exact AX 1 9 Fy rfl rfl rfl rfl (BC (Bi (AJ (Ao rfl e0 i0) rfl)) rfl rfl (DX (BE rfl e1 rfl) w1 (AO hb (DX rfl w2 rfl))))
end
noncomputable def rsL (r:Nat):List Nat:=(bO (238+r) [120]).flatten
noncomputable abbrev u7:List Nat:=[71,79,84,79,32,55,58,32,82,69,77,32]
noncomputable abbrev u10:List Nat:=[71,79,84,79,32,49,48,48,48,48,58,32,82,69,77,32]
noncomputable def t7 (r:Nat):List Nat:=u7++rsL r
noncomputable def t10 (r:Nat):List Nat:=u10++rsL r
noncomputable def S9 (r:Nat):AA:=[.tab [1],.tab [2],.dcti [(7,.str (t7 r))]]
noncomputable def Nj (l:List Nat):AA:=[.tab [1],.tab l]
noncomputable def FG (r:Nat):R:=evF S1 AD CM 20 35 [.loc 2,.int 10000,.int 0,.int 10] (S9 r)
noncomputable def Ig (r:Nat) (l:List Nat):R:=evF S1 AD CM 20 67 [.str (t10 r)] (Nj l)
noncomputable def Ih (n:Nat) (x:R):AA:=match x with
 |some (_,σ)=>σ.drop n
 |none=>[]
noncomputable def Va (r:Nat):PT:=.lst [.tup [.str [71,79,84,79],.int 10000],.tup [.str [82,69,77],.str (rsL r)]]
noncomputable def nfC (ro:Ro) (n:AA):Bool:=nFR ro&&n.all nFC
def O8 (r:Nat):Prop:=(nfC (.ok (.loc 8)) (Ih 3 (FG r))&&nfC (.ok (.loc 14)) (Ih 2 (Ig r [2])))=true∧FG r=some (.ok (.loc 8),S9 r++Ih 3 (FG r))∧(Ih 3 (FG r))[5]? =some (.dcti [(10000,.str (t10 r))])∧Ig r [2]=some (.ok (.loc 14),Nj [2]++Ih 2 (Ig r [2]))∧rd (Nj [2]++Ih 2 (Ig r [2])) 12 (.loc 14)=some (Va r)
def O9 (r:Nat):Prop:=nfC (.ex [70,67]) (Ih 3 (FG r))=true∧FG r=some (.ex [70,67],S9 r++Ih 3 (FG r))∧Ig r [3,2]=some (.ex [83,78],Nj [3,2]++[])
theorem XZ:O8 0:=⟨by kernel_rfl,by kernel_rfl,by kernel_rfl,by kernel_rfl,by kernel_rfl⟩
theorem Xa:O8 1:=⟨by kernel_rfl,by kernel_rfl,by kernel_rfl,by kernel_rfl,by kernel_rfl⟩
theorem Xc:O9 2:=⟨by kernel_rfl,by kernel_rfl,by kernel_rfl⟩
theorem Xd:O9 3:=⟨by kernel_rfl,by kernel_rfl,by kernel_rfl⟩
theorem U0(r:Nat):(rsL r).length=238+r:=by simp only[rsL,List.length_flatten,List.map_replicate];exact (List.sum_replicate_nat).trans (Nat.mul_one _)
section
variable{σ:AA}{r d:Nat}{N:Nat}{l:List Nat}
theorem s35(h0:σ[0]? =some (.tab [1]))(h1:σ[1]? =some (.tab [2]))(hN:σ[N]? =some (.dcti [(7,.str (t7 r))]))(h2:2≤N){ro:Ro}{n:AA}(h:FG r=some (ro,S9 r++n))(hn:nfC ro n=true):CC (d+21) 35 [.loc N,.int 10000,.int 0,.int 10] σ=some (liR [0,1,N] σ.length ro,σ++n.map (liC [0,1,N] σ.length)):=
 Kg rfl ((show S0 (d+20) 35 [.loc N,.int 10000,.int 0,.int 10] σ=smallR (d+20) 35 [N] [.loc 2,.int 10000,.int 0,.int 10] [.loc N,.int 10000,.int 0,.int 10] σ from rfl).trans (Ej (qs:=[N]) (cs:=S9 r) (σ':=n) (r:=ro) ⟨bU _ _,⟨h2,trivial⟩,rfl,Hc h0 h1 (congrArg (· ::[]) hN),rfl,h,hn⟩))
theorem s67(h0:σ[0]? =some (.tab [1]))(h1:σ[1]? =some (.tab l))(hl:Nat.blt 200 (t10 r).length=true){ro:Ro}{n:AA}(h:Ig r l=some (ro,Nj l++n))(hn:nfC ro n=true):CC (d+21) 67 [.str (t10 r)] σ=some (liR [0,1] σ.length ro,σ++n.map (liC [0,1] σ.length))∧MvL (liD [0,1] σ.length) (Nj l++n) (σ++n.map (liC [0,1] σ.length)):=by
 haveI hS:EX (d+20) 67 [] [.str (t10 r)] [.str (t10 r)] σ (Nj l) ro n:=⟨bU _ _,trivial,rfl,Hc h0 h1 rfl,rfl,h,hn⟩;haveI e:S0 (d+20) 67 [.str (t10 r)] σ=smallR (d+20) 67 [] [.str (t10 r)] [.str (t10 r)] σ:=congrArg (onB · _) hl
 exact ⟨Kg rfl (e.trans (Ej hS)),hS.get⟩
theorem PA{call:Call}{n:Nat}{k:Int}{e:E}{ρ:Loc}{s:D}(h:ev call AD (n+1) e ρ (σ++[.dcti []])=some (.ok s,σ++[.dcti []])):ev call AD (n+2) (.dcti [(.cst (.int k),e)]) ρ σ=some (.ok (.loc σ.length),σ++[.dcti [(k,s)]]):=by
 haveI hp:A0 (fun e σ=>ev call AD (n+1) e ρ σ) [(.cst (.int k),e)] (σ++[.dcti []])=some (.ok [(.int k,s)],σ++[.dcti []]):=by
  rw[A0,show ev call AD (n+1) (.cst (.int k)) ρ (σ++[.dcti []])=some (.ok (.int k),σ++[.dcti []]) from rfl]
  dsimp only;rw[h];rfl
 show (match A0 (fun e σ=>ev call AD (n+1) e ρ σ) [(.cst (.int k),e)] (σ++[.dcti []]) with
   |none=>none
   |some (.error c,σ)=>some (.ex c,σ)
   |some (.ok ds,σ')=>match Fa ds,σ'[σ.length]? with
    |some l,some (.dcti [])=>some (.ok (.loc σ.length),AW σ' σ.length (.dcti (l.foldl (fun m p=>Ay m p.1 p.2) [])))
    |_,_=>none:R)=_
 rw[hp];dsimp only;rw[AM];exact congrArg (fun z=>some (Ro.ok (D.loc σ.length),z)) (BV _ _ [] σ)
theorem PB{i j:Nat}{l:List (Int×D)}(h1:σ[i]? =some (.dcti l))(h2:σ[j]? =some (.dcti l))(hs:strR l=true)(hd:deqd l l=some true):DA σ (.loc i) (.loc j)=some true:=by
 haveI c:conv σ 12 (.loc i)=false:=by
  show (match σ[i]? with|some (.lst l)=>l.all (conv σ 11)|_=>false)=false
  rw[h1]
 unfold DA;rw[c]
 show Dy σ (.loc i) _=_
 rw[Eb h1,Eb h2,hs];exact (if_pos rfl).trans hd
theorem TA(k:Int)(s:List Nat):deqd [(k,.str s)] [(k,.str s)]=some true:=by
 unfold deqd;rw[show Bv [((k,D.str s):Int×D)] k=some (.str s) from if_pos rfl]
 dsimp only;rw[GD];rfl
theorem ne_eq{a b:D}(h:DA σ a b=some true):BA σ .ne a b=some false:=congrArg (br (!·)) h
theorem TB{i j:Nat}{k:Int}{s:List Nat}(h1:σ[i]? =some (.dcti [(k,.str s)]))(h2:σ[j]? =some (.dcti [(k,.str s)])):DA σ (.loc i) (.loc j)=some true:=PB h1 h2 rfl (TA k s)
end
theorem ZO{C:Nat→Prop}(h0:C 0)(h1:C 1)(h2:C 2)(h3:C 3){r:Nat}(h:r<4):C r:=by
 cases r with
 |zero=>exact h0
 |succ r=>cases r with
  |zero=>exact h1
  |succ r=>cases r with
   |zero=>exact h2
   |succ r=>cases r with
    |zero=>exact h3
    |succ=>exact absurd h (bH.mpr (bU _ _))
theorem JC(d:Nat)(c2:AI)(cl:List Int)(T:Nat)(hT:T<900)(g:List AI):∃σ',CC (d+25) 72 [.loc 4] (AT [1] [] c2 cl T++g)=some (.ok (.bool true),σ'):=by
 obtain ⟨r,hr,e1⟩:=Ef (d+22) [1] [] c2 cl (t:=T) (m:=4) (ai hT (by decide)) (by decide) (by decide)
 have e1:=e1 g;have hlen:=U0 r;have hm:∀σ,Bw σ .mul (.str [120]) (.int (238+(r:Int)))=some (.ok (.str (rsL r)),σ):=fun σ=>if_pos ⟨cM.mpr (bC (238+r)),av.mpr (show 238+r<1000 by lia),rfl⟩
 have hc:O8 r∧r<2∨O9 r∧2≤r:=by
  exact ZO (C:=fun r=>O8 r∧r<2∨O9 r∧2≤r) (.inl ⟨XZ,by decide⟩) (.inl ⟨Xa,by decide⟩) (.inr ⟨Xc,by decide⟩) (.inr ⟨Xd,by decide⟩) hr
 have hrl:(t10 r).length=254+r:=by simp only[t10,ae,hlen];exact (b8 16 238 r).symm
 have hm:=hm (AT [1] [] c2 cl (T+1)++g);have a7:∀τ,Bw τ .add (.str u7) (.str (rsL r))=some (.ok (.str (t7 r)),τ):=fun τ=>add_str (by simp only[hlen];exact am (bW (bW (bz hr) 238) 12) (by decide))
 have a10:∀τ,Bw τ .add (.str u10) (.str (rsL r))=some (.ok (.str (t10 r)),τ):=fun τ=>add_str (by simp only[hlen];exact am (bW (bW (bz hr) 238) 16) (by decide))
 have d7:∀{n:Nat} {x2 x3 x4:Option D} τ,ev (CC (d+24)) AD (n+4) (.dcti [((.cst (.int 7)),(.bin .add (.cst (.str u7)) (.loc 1)))]) [some (.loc 4),some (.str (rsL r)),x2,x3,x4] τ=some (.ok (.loc τ.length),τ++[.dcti [(7,.str (t7 r))]]):=fun τ=>PA (BE rfl rfl (a7 _));have hN:(AT [1] [2] c2 cl (T+1)++g++[AI.dcti [(7,.str (t7 r))]])[(AT [1] [] c2 cl (T+1)++g).length]? =some (.dcti [(7,.str (t7 r))]):=AM _ _ (AT [1] [2] c2 cl (T+1)++g);have h2:2≤(AT [1] [] c2 cl (T+1)++g).length:=ag (by decide) (bU 5 g.length)
 have hb:Nat.blt 200 (t10 r).length=true:=be.mpr (hrl▸bv (by decide) (bR 254 r))
 have ne:=fun (τ:AA) (h:τ[(AT [1] [] c2 cl (T+1)++g).length]? =some (.dcti [(7,.str (t7 r))]))=>ne_eq (TB (Grw.app _ _ _ _ h) (AM (AI.dcti [(7,.str (t7 r))]) [] τ))
 rcases hc with ⟨⟨hnf,h35,hj,h67,ht⟩,hr2⟩|⟨⟨hnf,h35,h67⟩,hr2⟩
 ·have hgt:decide (((t10 r).length:Int)>255)=false:=decide_eq_false fun q=>absurd (av.mp q) (by simp only[hrl];lia)
  obtain ⟨k1,S3,h1,hN3,hj3,q0,q1⟩:Ex2 fun k1 S3=>A5 (ev (CC (d+24)) AD 57 (.heard 2 1 (.call 35 [(.loc 3),(.cst (.int 10000)),(.cst (.int 0)),(.cst (.int 10))])) [some (.loc 4),some (.str (rsL r)),none,some (.loc (AT [1] [] c2 cl (T+1)++g).length),some (.str (t10 r))] (AT [1] [] c2 cl (T+1)++g++[.dcti [(7,.str (t7 r))]])=some (.ok (.loc k1),S3)) (S3[(AT [1] [] c2 cl (T+1)++g).length]? =some (.dcti [(7,.str (t7 r))])) (S3[k1]? =some (.dcti [(10000,.str (t10 r))])) (S3[0]? =some (.tab [1])) (S3[1]? =some (.tab [2])):=by
   have e:=s35 (d:=d+1) (σ:=AT [1] [2] c2 cl (T+1)++g++[.dcti [(7,.str (t7 r))]]) rfl rfl hN h2 h35 (bD.mp hnf).1;generalize Ih 3 (FG r)=n at*;refine ⟨_,_,congrArg EC ((F9 (d+22) 35 _ _).trans e),Grw.app _ _ _ _ hN,(Ch _ _ 5).trans ?_,rfl,rfl⟩;simp only[bN,hj];rfl
  have ne:=ne S3 hN3;have eq:=TB (Grw.app _ _ _ _ (Grw.app S3 [.dcti [(7,.str (t7 r))]] _ _ hj3)) (AM (AI.dcti [(10000,.str (t10 r))]) [] (S3++[.dcti [(7,.str (t7 r))]]));have q0:=Grw.app _ [.dcti [(10000,.str (t10 r))]] _ _ (Grw.app S3 [.dcti [(7,.str (t7 r))]] _ _ q0);have q1:=Grw.app _ [.dcti [(10000,.str (t10 r))]] _ _ (Grw.app S3 [.dcti [(7,.str (t7 r))]] _ _ q1);obtain ⟨e67,mv⟩:=s67 (d:=d+3) q0 q1 hb h67 (bD.mp hnf).2;have rd:=Rd.map mv _ _ (Op 12 _ _ ht);generalize Ih 2 (Ig r [2])=n at*;obtain ⟨⟨dl,g3,el,rl⟩,_⟩:=Sv (call:=CC (d+24)) (ρ:=[some (.loc 4),some (.str (rsL r)),some (.loc k1),some (.loc (AT [1] [] c2 cl (T+1)++g).length),some (.str (t10 r))]) (CE.none (CE.str (l:=rsL r) (by simp only[hlen];lia) CE.nil)) 52 (.lst [(.tup [(.cst (.str [71,79,84,79])),(.cst (.int 10000))]),(.tup [(.cst (.str [82,69,77])),(.loc 1)])]) (Va r) _ rfl (Grw.refl (S3++[AI.dcti [(7,.str (t7 r))]]++[AI.dcti [(10000,.str (t10 r))]]++n.map (liC [0,1] (S3++[AI.dcti [(7,.str (t7 r))]]++[AI.dcti [(10000,.str (t10 r))]]).length)))
  have e2:=Rd.eq (rd.grow (Grw.app _ g3)) rl (au rfl) (au rfl);exact ⟨_,by exact AX 1 5 CK rfl rfl rfl rfl (AO (BE rfl (BE rfl e1 rfl) hm) (BC (Bi (AJ (d7 ..) (AJ (a10 ..) rfl))) rfl rfl (AO h1 (AU (AK rfl (d7 ..) ne) (As (AU (AK rfl rfl (EA hgt)) (As (BQ (Bh (a_T (AK rfl (PA rfl) eq) (C5 (AK e67 el e2)))) rfl))))))))⟩
 ·have hgt:decide (((t10 r).length:Int)>255)=true:=decide_eq_true (av.mpr (show 255<(t10 r).length by simp only[hrl];lia))
  have e:=s35 (d:=d+1) (σ:=AT [1] [2] c2 cl (T+1)++g++[.dcti [(7,.str (t7 r))]]) rfl rfl hN h2 h35 hnf;generalize Ih 3 (FG r)=n at*;obtain ⟨n,h1⟩:∃n,ev (CC (d+24)) AD 57 (.heard 2 1 (.call 35 [(.loc 3),(.cst (.int 10000)),(.cst (.int 0)),(.cst (.int 10))])) [some (.loc 4),some (.str (rsL r)),none,some (.loc (AT [1] [] c2 cl (T+1)++g).length),some (.str (t10 r))] (AT [1] [] c2 cl (T+1)++g++[AI.dcti [(7,.str (t7 r))]])=some (.ok (.str [70,67]),AT [1] [2] c2 cl (T+1)++g++[AI.dcti [(7,.str (t7 r))]]++n):=⟨_,congrArg EC ((F9 (d+22) 35 _ _).trans e)⟩;have ne:=ne _ (Grw.app _ n _ _ hN);have e67:=(s67 (d:=d+1) (σ:=AT [1] [3,2] c2 cl (T+1)++g++[AI.dcti [(7,.str (t7 r))]]++n++[AI.dcti [(7,.str (t7 r))]]) rfl rfl hb h67 rfl).1;have h3:ev (CC (d+24)) AD 53 (.heard 3 1 (.call 67 [(.loc 4)])) [some (.loc 4),some (.str (rsL r)),some (.str [70,67]),some (.loc (AT [1] [] c2 cl (T+1)++g).length),some (.str (t10 r))] (AT [1] [2] c2 cl (T+1)++g++[AI.dcti [(7,.str (t7 r))]]++n++[AI.dcti [(7,.str (t7 r))]])=_:=congrArg EC ((F9 (d+22) 67 _ _).trans e67);exact ⟨_,by exact AX 1 5 CK rfl rfl rfl rfl (AO (BE rfl (BE rfl e1 rfl) hm) (BC (Bi (AJ (d7 ..) (AJ (a10 ..) rfl))) rfl rfl (AO h1 (AU (AK rfl (d7 ..) ne) (As (AU (AK rfl rfl (EA hgt)) (BQ (Bh (a_T rfl (C5 (AK h3 rfl rfl)))) rfl)))))))⟩
theorem TC(σ:AA):∀f:Nat,f<10→BA σ .isIn (.int (f:Int)) (.tup [.int 5,.int 6,.int 9])=some (nnA f):=CP rfl rfl rfl rfl rfl rfl rfl rfl rfl rfl
theorem eq9(σ:AA):∀f:Nat,f<10→BA σ .eq (.int (f:Int)) (.int 9)=some (nnB f):=CP rfl rfl rfl rfl rfl rfl rfl rfl rfl rfl
theorem ZP(σ:AA):∀f:Nat,f<10→EB σ (.fl [.int 1,.int 2,.int 2,.int 2,.int 1,.int 2,.int 1,.int 1,.int 2,.int 2]) (.int (f:Int))=some (.int (SW f:Int)):=CP rfl rfl rfl rfl rfl rfl rfl rfl rfl rfl
theorem Xe:∀f,f<10→SW f≤2:=by decide
theorem Ii(σ:AA)(n:Nat):∀l:List Nat,Gr σ (.int (n:Int)) (AG l)=some (inN l n)
 | []=>rfl
 |m::l=>by
  haveI ih:=Ii σ n l
  show (some (decide ((m:Int)=(n:Int)))).bind _=some (decide (m=n)||inN l n)
  refine XW.symm▸ ?_;cases decide (m=n) with
  |true=>rfl
  |false=>exact ih
theorem Jz(σ:AA):∀l:List Nat,(AG l).all (conv σ 12)=true
 | []=>rfl
 |_::l=>Jz σ l
theorem U1{σ:AA}{k:Nat}{l:List Nat}(h:σ[k]? =some (.lst (AG l)))(n:Nat):BA σ .notIn (.int (n:Int)) (.loc k)=some (!inN l n):=by
 haveI e:Nu σ (.int (n:Int)) (.loc k)=FZ σ (.int (n:Int)) (AG l):=congrArg (fun o:Option AI=>o.bind (LC σ (.int (n:Int)))) h;haveI e2:FZ σ (.int (n:Int)) (AG l)=Gr σ (.int (n:Int)) (AG l):=by
  unfold FZ;rw[Jz];rfl
 exact congrArg (br (!·)) (e.trans (e2.trans (Ii σ n l)))
theorem gt0(σ:AA)(n:Nat):BA σ .gt (.int (n:Int)) (.int 0)=some (!Nat.beq n 0):=by
 cases n with
 |zero=>rfl
 |succ n=>exact congrArg some (decide_eq_true (av.mpr (cG n)))
noncomputable def Aw (p:Nat×Bool):D:=.tup [.int (p.1:Int),.bool p.2]
theorem Nk(lines:List Nat)(line f a b:Nat):((Bu f a b).filter fun p=> !inN lines p.1&&keep p.2 p.1).map (fun p=>D.tup [.int (line:Int),.int (p.1:Int)])=BW lines line (Cj f a b):=by
 simp only[BW,Cj,List.filter_map,az,List.filter_filter];rfl
theorem TD{σ:AA}{k n:Nat}{l:List D}(h:σ[k]? =some (.lst l))(hn:n<1000000000):D0 σ (.loc k) .none (.int (n:Int))=some (.ok (.loc σ.length),σ++[.lst (cut l 0 n)]):=by
 haveI e:D0 σ (.loc k) .none (.int (n:Int))=B5 σ (.loc k) fun _ l=>(Dz l.length (.int (n:Int))).bind fun hi=>alloc σ (.lst (cut l 0 hi)):=rfl;rw[e,Bb h,Ek hn];rfl
noncomputable abbrev ZQ:E:=.comp (.tup [(.loc 11),(.loc 25)]) [25,26] true false (.loc 15) [(.and [(.cmp (.loc 25) [.notIn] [(.loc 7)]),(.or [(.cmp (.loc 25) [.gt] [(.cst (.int 0))]),(.not (.loc 26))])])]
noncomputable abbrev ZR:List St:=[.asgI (.loc 9) (.loc 11) (.idx (.call 69 [(.loc 12),(.loc 13),(.loc 14)]) (.cst (.int 0))),.asg 15 (.slc (.lst [(.tup [(.loc 13),(.cmp (.loc 12) [.isIn] [(.tup [(.cst (.int 5)),(.cst (.int 6)),(.cst (.int 9))])])]),(.tup [(.loc 14),(.cmp (.loc 12) [.eq] [(.cst (.int 9))])])]) none (some (.idx (.glob 16) (.loc 12)))),.exp (.meth .extend (.loc 10) [ZQ])]
noncomputable abbrev R1 (s x11 x12 x13 x14 x15 x25 x26:Option D):Loc:=[s,some (.loc 4),none,none,none,none,none,some (.loc 6),some (.loc 7),some (.loc 10),some (.loc 11),x11,x12,x13,x14,x15,none,none,none,none,none,none,none,none,none,x25,x26]
theorem MV(lines:List Nat)(x:Ln):(BW lines (Ln.n x) (Cj (Ln.f x) (Ln.a x) (Ln.b x))).length≤2:=ag (MO _ _ _) (MK _ _ _)
section
variable(d:Nat){c2:AI}{cl:List Int}{T:Nat}{c5 c8 c9:AI}{lines:List Nat}{told:List D}{s x11 x12 x13 x14 x15 x25 x26:Option D}
noncomputable abbrev st1 (c2:AI) (cl:List Int) (T:Nat) (c5 c8 c9:AI) (lines:List Nat) (told:List D) (prog:List (Int×D)) (lost:List D) (g:List AI):AA:=AT [] [] c2 cl T++c5:: .lst (AG lines):: .lst told::c8::c9:: .dcti prog:: .lst lost::g
theorem U2{prog:List (Int×D)}{lost:List D}{g:List AI}{x:Ln}{k:Nat}(hk:(st1 c2 cl T c5 c8 c9 lines told prog lost g)[k]? =some (.lst ((Bu (Ln.f x) (Ln.a x) (Ln.b x)).map Aw))):ev (CC (d+25)) AD 52 ZQ (R1 s (some (.int (Ln.n x:Int))) x12 x13 x14 (some (.loc k)) none none) (st1 c2 cl T c5 c8 c9 lines told prog lost g)=some (.ok (.loc (st1 c2 cl T c5 c8 c9 lines told prog lost g).length),st1 c2 cl T c5 c8 c9 lines told prog lost (g++[.lst (BW lines (Ln.n x) (Cj (Ln.f x) (Ln.a x) (Ln.b x)))])):=by
 rw[←Nk];refine Dp (items:=Bu (Ln.f x) (Ln.a x) (Ln.b x)) (itemD:=Aw) (src:=.loc k) (τ:=st1 c2 cl T c5 c8 c9 lines told prog lost g) (fun p=> !inN lines p.1&&keep p.2 p.1) (fun p=>D.tup [.int (Ln.n x:Int),.int (p.1:Int)]) (fun p=>R1 s (some (.int (Ln.n x:Int))) x12 x13 x14 (some (.loc k)) (some (.int (p.1:Int))) (some (.bool p.2))) rfl (Az hk) (am (by simp only[Bu,b0];exact Nat.min_le_right _ _) (by decide:2<400)) (fun _=>rfl) (fun _ _=>rfl) (fun p _ c=>Cd ?_) fun _ _ _ _=>rfl
 haveI h1:=U1 (σ:=st1 c2 cl T c5 c8 c9 lines told prog lost g++[c]) (k:=6) (l:=lines) rfl p.1;haveI h2:keep p.2 p.1=(!Nat.beq p.1 0|| !p.2):=by simp only[keep,Bool.not_and,Bool.or_comm]
 rw[h2];exact Bh (G3 (AK rfl rfl h1) (C5 (C9 (FE (AK rfl rfl (gt0 _ _)) (CR (Og rfl rfl))))))
theorem ZS{L:List Ln}(hlen:L.length≤4)(hasc:(L.map Ln.n).Pairwise (· < ·))(hok:∀x∈L,GP x):Ex2 fun (ρ':Option D×Option D×Option D×Option D×Option D) (g:List AI)=> CQ 0 (.loc 7) true [11,12,13,14] (exs (CC (d+25)) AD 56 ZR) 400 0 (R1 s none none none none none none none) (st1 c2 cl T c5 c8 c9 (L.map Ln.n) (List.map Aq L) [] [] [])=some (.nxt,R1 s ρ'.1 ρ'.2.1 ρ'.2.2.1 ρ'.2.2.2.1 ρ'.2.2.2.2 none none,st1 c2 cl T c5 c8 c9 (L.map Ln.n) (List.map Aq L) (Am L) (A9 (L.map Ln.n) L) g):=by
 obtain ⟨ρ',σ',e,prog,lost,g,y1,y2,y3,y4,y5,rfl,rfl,h1,h2,_⟩:=By (items:=L) (itemD:=Aq) (kind:=0) (src:=.loc 7) (tup:=true) (tgt:=[11,12,13,14]) (body:=exs (CC (d+25)) AD 56 ZR)
  (fun r ρ σ'=>Ex8 fun prog lost g y1 y2 y3 y4 y5=>A6 (ρ=R1 s y1 y2 y3 y4 y5 none none) (σ'=st1 c2 cl T c5 c8 c9 (L.map Ln.n) (List.map Aq L) prog lost g) (prog++Am r=Am L) (lost++A9 (L.map Ln.n) r=A9 (L.map Ln.n) L) (lost.length+2*r.length≤100) (∀x∈r,x∈L))
  (fun r ρ σ I i=>by
   obtain ⟨prog,lost,g,y1,y2,y3,y4,y5,_,rfl,_⟩:=I;haveI z:=Az (σ:=st1 c2 cl T c5 c8 c9 (L.map Ln.n) (List.map Aq L) prog lost g) (k:=7) (f:=Aq) (l:=L) rfl [] i;rwa[af]at z) (fun x r ρ σ' I=>by
   obtain ⟨prog,lost,g,y1,y2,y3,y4,y5,rfl,rfl,h1,h2,h3,h4⟩:=I;haveI hx:=hok x (h4 x (.head _));obtain ⟨tr,σ1,e1,⟨g1,rfl⟩,_⟩:=Ie (d+23) (st1 c2 cl T c5 c8 c9 (L.map Ln.n) (List.map Aq L) prog lost g) hx.f (ai hx.a (by decide)) (ai hx.b (by decide))
   have hpl:prog.length<1000:=by
    haveI:=congrArg bX h1;simp only[ae,Am,Am,ak,ak]at this;lia
   haveI hset:=Ed (σ:=st1 c2 cl T c5 c8 c9 (L.map Ln.n) (List.map Aq L) prog lost (g++g1)) (n:=10) (k:=(Ln.n x:Int)) (v:=.str (Ln.row x)) rfl hpl;haveI hput:=MT h1 hasc;generalize Ay prog (Ln.n x:Int) (.str (Ln.row x))=prog2 at*;haveI f1:=TC (st1 c2 cl T c5 c8 c9 (L.map Ln.n) (List.map Aq L) prog2 lost (g++g1)) _ hx.f;haveI f2:=eq9 (st1 c2 cl T c5 c8 c9 (L.map Ln.n) (List.map Aq L) prog2 lost (g++g1)) _ hx.f;haveI f3:=ZP (st1 c2 cl T c5 c8 c9 (L.map Ln.n) (List.map Aq L) prog2 lost (g++g1)++[.lst [Aw (Ln.a x,nnA (Ln.f x)),Aw (Ln.b x,nnB (Ln.f x))]]) _ hx.f;haveI f4:=TD (σ:=st1 c2 cl T c5 c8 c9 (L.map Ln.n) (List.map Aq L) prog2 lost (g++g1)++[.lst [Aw (Ln.a x,nnA (Ln.f x)),Aw (Ln.b x,nnB (Ln.f x))]]) (k:=(st1 c2 cl T c5 c8 c9 (L.map Ln.n) (List.map Aq L) prog2 lost (g++g1)).length) (n:=SW (Ln.f x)) (AM _ _ _) (am (Xe _ hx.f) (by decide))
   haveI hcut:cut [Aw (Ln.a x,nnA (Ln.f x)),Aw (Ln.b x,nnB (Ln.f x))] 0 (SW (Ln.f x))=(Bu (Ln.f x) (Ln.a x) (Ln.b x)).map Aw:=(List.map_take (f:=Aw) (l:=[(Ln.a x,nnA (Ln.f x)),(Ln.b x,nnB (Ln.f x))])).symm;simp only[hcut]at f4;haveI f5:=U2 d (s:=s) (x12:=some (.int (Ln.f x:Int))) (x13:=some (.int (Ln.a x:Int))) (x14:=some (.int (Ln.b x:Int))) (x:=x) (lines:=L.map Ln.n) (prog:=prog2) (lost:=lost) (c2:=c2) (cl:=cl) (T:=T) (c5:=c5) (c8:=c8) (c9:=c9) (told:=List.map Aq L) (g:=g++g1++[AI.lst [Aw (Ln.a x,nnA (Ln.f x)),Aw (Ln.b x,nnB (Ln.f x))]]++[AI.lst ((Bu (Ln.f x) (Ln.a x) (Ln.b x)).map Aw)]) (k:=(st1 c2 cl T c5 c8 c9 (L.map Ln.n) (List.map Aq L) prog2 lost (g++g1)++[AI.lst [Aw (Ln.a x,nnA (Ln.f x)),Aw (Ln.b x,nnB (Ln.f x))]]).length) (AM _ [] (st1 c2 cl T c5 c8 c9 (L.map Ln.n) (List.map Aq L) prog2 lost (g++g1)++[AI.lst [Aw (Ln.a x,nnA (Ln.f x)),Aw (Ln.b x,nnB (Ln.f x))]]));haveI hfew:=MV (L.map Ln.n) x;haveI h4':A9 (L.map Ln.n) (x::r)=BW (L.map Ln.n) (Ln.n x) (Cj (Ln.f x) (Ln.a x) (Ln.b x))++A9 (L.map Ln.n) r:=rfl;rw[h4',←aZ]at h2;generalize BW (L.map Ln.n) (Ln.n x) (Cj (Ln.f x) (Ln.a x) (Ln.b x))=lo at*;simp only[bF]at h3;haveI f6:=Em (σ:=st1 c2 cl T c5 c8 c9 (L.map Ln.n) (List.map Aq L) prog2 lost (g++g1++[AI.lst [Aw (Ln.a x,nnA (Ln.f x)),Aw (Ln.b x,nnB (Ln.f x))]]++[AI.lst ((Bu (Ln.f x) (Ln.a x) (Ln.b x)).map Aw)]++[AI.lst lo])) (n:=11) (k:=(st1 c2 cl T c5 c8 c9 (L.map Ln.n) (List.map Aq L) prog2 lost (g++g1++[AI.lst [Aw (Ln.a x,nnA (Ln.f x)),Aw (Ln.b x,nnB (Ln.f x))]]++[AI.lst ((Bu (Ln.f x) (Ln.a x) (Ln.b x)).map Aw)])).length) (l:=lost) (m:=lo) rfl (AM _ [] (st1 c2 cl T c5 c8 c9 (L.map Ln.n) (List.map Aq L) prog2 lost (g++g1++[AI.lst [Aw (Ln.a x,nnA (Ln.f x)),Aw (Ln.b x,nnB (Ln.f x))]]++[AI.lst ((Bu (Ln.f x) (Ln.a x) (Ln.b x)).map Aw)]))) (by lia) (bo (bv (by decide:11<12) (bU 12 _)))
   haveI f7:=GI (σ:=st1 c2 cl T c5 c8 c9 (L.map Ln.n) (List.map Aq L) prog2 lost (g++g1++[AI.lst [Aw (Ln.a x,nnA (Ln.f x)),Aw (Ln.b x,nnB (Ln.f x))]]++[AI.lst ((Bu (Ln.f x) (Ln.a x) (Ln.b x)).map Aw)])) (n:=11) (l:=lost) rfl;refine ⟨_,R1 s (some (.int (Ln.n x:Int))) (some (.int (Ln.f x:Int))) (some (.int (Ln.a x:Int))) (some (.int (Ln.b x:Int))) (some (.loc (st1 c2 cl T c5 c8 c9 (L.map Ln.n) (List.map Aq L) prog2 lost (g++g1)++[AI.lst [Aw (Ln.a x,nnA (Ln.f x)),Aw (Ln.b x,nnB (Ln.f x))]]).length)) none none,_,rfl,x_k ?_,prog2,lost++lo,g++g1++[AI.lst [Aw (Ln.a x,nnA (Ln.f x)),Aw (Ln.b x,nnB (Ln.f x))]]++[AI.lst ((Bu (Ln.f x) (Ln.a x) (Ln.b x)).map Aw)]++[AI.lst lo],_,_,_,_,_,rfl,rfl,hput,h2,by rw[ae];lia,fun z m=>h4 z (.tail _ m)⟩
   clear h1 h2 h3 h4 h4' hput hfew hx hok hasc hlen hpl hcut;exact (FU (Ao e1 rfl rfl) rfl rfl hset (AO (XF (L0 (AJ (Bi (AJ rfl (AJ (AK rfl rfl f1) rfl))) (AJ (Bi (AJ rfl (AJ (AK rfl rfl f2) rfl))) rfl))) (Ao rfl rfl f3) f4) (GB (B8 rfl f7 (AJ f5 f6)) rfl)))) L 400 0 (R1 s none none none none none none none) (st1 c2 cl T c5 c8 c9 (L.map Ln.n) (List.map Aq L) [] [] []) rfl (am hlen (by decide)) ⟨[],[],[],none,none,none,none,none,rfl,rfl,rfl,rfl,by simp only[bY];lia,fun _ m=>m⟩
 simp only[show Am []=[] from rfl,af]at h1
 simp only[show A9 (L.map Ln.n) []=[] from rfl,af]at h2
 exact ⟨(y1,y2,y3,y4,y5),g,by rw[←h1,←h2];exact e⟩
end
noncomputable def PC (d:D):PT:=match d with
 | .tup [.int a,.int b]=>.tup [.int a,.int b]
 |_=>.none
def TF (d:D):Prop:=Ex2 fun (a:Int) (b:Int)=> d=.tup [.int a,.int b]
theorem MW{σ:AA}:∀l:List D,(∀d∈l,TF d)→Rds σ (l.map PC) l∧fus (l.map PC)≤l.length+6∧dps (l.map PC)≤2
 | [],_=>⟨rfl,bU 1 5,bC 2⟩
 |d::l,h=>by
  obtain ⟨a,b,rfl⟩:=h d (.head _);obtain ⟨h1,h2,h3⟩:=MW (σ:=σ) l fun x m=>h x (.tail _ m);refine ⟨⟨_,l,rfl,⟨_,rfl,_,_,rfl,rfl,_,_,rfl,rfl,rfl⟩,h1⟩,?_,?_⟩
  ·exact ba (Nat.max_le.mpr ⟨ag (show fu (.tup [.int a,.int b])≤6 from au rfl) (bU 6 _),h2⟩)
  ·exact Nat.max_le.mpr ⟨show dp (.tup [.int a,.int b])≤2 from au rfl,h3⟩
theorem U3{σ:AA}{i j:Nat}{l:List D}(h1:σ[i]? =some (.lst l))(h2:σ[j]? =some (.lst l))(h:∀d∈l,TF d)(hl:l.length≤20):DA σ (.loc i) (.loc j)=some true:=by
 obtain ⟨r,hf,hd⟩:=MW (σ:=σ) l h;exact Rd.eq (t:=.lst (l.map PC)) ⟨i,l,rfl,h1,r⟩ ⟨j,l,rfl,h2,r⟩ (Nat.succ_le_of_lt (am (ag hf (ce hl 6)) (by decide:26<40))) (ag (ba hd) (by decide:3≤12))
theorem Nl{lines:List Nat}{L:List Ln}:∀d∈A9 lines L,TF d:=fun d hd=>by
 obtain ⟨x,_,hx⟩:=List.mem_flatMap.mp hd;obtain ⟨n,_,rfl⟩:=bT.mp hx;exact ⟨_,_,rfl⟩
theorem J0(lines:List Nat):∀L:List Ln,(A9 lines L).length≤2*L.length
 | []=>bC _
 |x::L=>by
  haveI h1:=MV lines x;haveI h2:=J0 lines L;simp only[show A9 lines (x::L)=BW lines (Ln.n x) (Cj (Ln.f x) (Ln.a x) (Ln.b x))++A9 lines L from rfl,ae,bF]
  lia
structure HT (l:List (Int×D)):Prop where
 nd:(l.map (·.1)).Nodup
 st:∀p∈l,∃s,p.2=.str s
theorem J1(k:Int)(d:D):∀l:List (Int×D),k∈l.map (·.1)→(Ay l k d).map (·.1)=l.map (·.1)
 |p::l,h=>by
  rw[Ay];by_cases q:p.1=k
  ·rw[if_pos q];exact congrArg (· ::_) q.symm
  ·rw[if_neg q];cases h with
   |head=>exact absurd rfl q
   |tail _ h=>exact congrArg (p.1:: ·) (J1 k d l h)
theorem MX{k:Int}{d:D}{q:Int×D}:∀{l:List (Int×D)},q∈Ay l k d→q=(k,d)∨q∈l
 | [],h=>.inl (bA.mp h)
 |p::l,h=>by
  rw[Ay]at h;by_cases w:p.1=k
  ·rw[if_pos w]at h;exact (aj.mp h).imp id (.tail _)
  ·rw[if_neg w]at h
   rcases aj.mp h with rfl|h
   ·exact .inr (.head _)
   ·exact (MX h).imp id (.tail _)
theorem HT.put{l:List (Int×D)}(h:HT l)(k:Int)(s:List Nat):HT (Ay l k (.str s)):=by
 refine ⟨?_,fun p hp=>(MX hp).elim (fun e=>⟨s,congrArg Prod.snd e⟩) (h.st p)⟩;by_cases q:k∈l.map (·.1)
 ·rw[J1 k _ l q];exact h.nd
 ·rw[Ee l fun p hp (e:p.1=k)=>q (e▸bn hp),bb,cB];exact ⟨h.nd,List.pairwise_singleton _ _,fun a ha b hb e=>q (by rw[bA.mp hb]at e;rw[←show a=k from e];exact ha)⟩
theorem TH{p:Int×D}:∀{l:List (Int×D)},(l.map (·.1)).Nodup→p∈l→Bv l p.1=some p.2
 |q::l,h,hp=>by
  rw[an,bp]at h;cases hp with
  |head=>exact if_pos rfl
  |tail _ hp=>exact (if_neg fun e:q.1=p.1=>h.1 (e▸bn hp)).trans (TH h.2 hp)
theorem HT.deqd{l:List (Int×D)}(h:HT l):∀m:List (Int×D),(∀p∈m,p∈l)→deqd m l=some true
 | [],_=>rfl
 |p::m,hm=>by
  obtain ⟨s,e⟩:=h.st p (hm p (.head _));haveI hl:=TH h.nd (hm p (.head _));unfold Mine.deqd;rw[hl,e];dsimp only;rw[GD];exact h.deqd m fun q hq=>hm q (.tail _ hq)
theorem HT.strR{l:List (Int×D)}(h:HT l):strR l=true:=ao.mpr fun p hp=>by
 obtain ⟨s,e⟩:=h.st p hp;rw[e]
theorem HT.eq{σ:AA}{i j:Nat}{l:List (Int×D)}(h:HT l)(h1:σ[i]? =some (.dcti l))(h2:σ[j]? =some (.dcti l)):DA σ (.loc i) (.loc j)=some true:=PB h1 h2 h.strR (h.deqd l fun _ m=>m)
theorem HF(M:List (Nat×Nat)):∀(L:List Ln) (acc:List (Int×D)),HT acc→HT (CA M L acc)
 | [],_,h=>h
 |_::L,_,h=>HF M L _ (h.put _ _)
theorem J2{l:List Int}(h:l.Pairwise (· < ·)):l.Nodup:=h.imp Int.ne_of_lt
theorem Gn{L:List Ln}(h:(L.map Ln.n).Pairwise (· < ·)):HT (Am L):=by
 refine ⟨?_,fun p hp=> ?_⟩
 ·simp only[show (Am L).map (·.1)=D6 (L.map Ln.n) by rw[Am,D6,az,az];rfl]
  exact J2 (GO h)
 ·obtain ⟨x,_,rfl⟩:=bT.mp hp;exact ⟨_,rfl⟩
theorem MY:∀(l acc:List (Int×D)),((acc++l).map (·.1)).Nodup→l.foldl (fun m p=>Ay m p.1 p.2) acc=acc++l
 | [],acc,_=>(af acc).symm
 |p::l,acc,h=>by
  haveI e:acc++p::l=acc++[p]++l:=by rw[aZ];rfl
  rw[cg,Ee,e]
  ·exact MY l (acc++[p]) (e▸h)
  ·intro q hq w;rw[bb,cB]at h;exact h.2.2 q.1 (bn hq) p.1 (.head _) w
section
variable{σ:AA}{k:Nat}
theorem TI{l:List D}{kvs:List (Int×D)}(h:σ[k]? =some (.lst l))(hp:Cs l=some kvs)(hn:(kvs.map (·.1)).Nodup):Dg σ .dict [.loc k]=some (.ok (.loc σ.length),σ++[.dcti kvs]):=by
 haveI e:Dg σ .dict [.loc k]=B5 σ (.loc k) fun _ l=>(Cs l).bind fun kvs=>alloc σ (.dcti (kvs.foldl (fun m p=>Ay m p.1 p.2) [])):=rfl;simp only[e,Bb h,hp];exact congrArg (fun z=>alloc σ (.dcti z)) (MY kvs [] hn)
theorem U4{l:List (Int×D)}(h:σ[k]? =some (.dcti l)):Dg σ .listItems [.loc k]=some (.ok (.loc σ.length),σ++[.lst (l.map fun p=>.tup [.int p.1,p.2])]):=
 (show Dg σ .listItems [.loc k]=Dy σ (.loc k) fun _ l=>alloc σ (.lst (l.map fun p=>.tup [.int p.1,p.2])) from rfl).trans (Eb h _)
theorem HG:∀l:List (Int×D),Cs (l.map fun p=>.tup [.int p.1,p.2])=some l
 | []=>rfl
 |p::l=>congrArg (br (p:: ·)) (HG l)
noncomputable def Nn (p:Nat×Nat):D:=.tup [.int (p.1:Int),.int (p.2:Int)]
theorem Ij:∀M:List (Nat×Nat),Cs (M.map Nn)=some (tM M)
 | []=>rfl
 |p::M=>congrArg (br (((p.1:Int),D.int (p.2:Int)):: ·)) (Ij M)
theorem TJ{new stride:Nat}{l:List Nat}(h:l.Pairwise (· < ·)):((tM (Ak new stride l)).map (·.1)).Nodup:=by
 simp only[show (tM (Ak new stride l)).map (·.1)=D6 (l.zipIdx.map (·.1)) by rw[tM,Ak,D6,az,az,az];rfl,List.zipIdx_map_fst]
 exact J2 (GO h)
end
noncomputable abbrev Rf (s x2 x3 x4 x5 x6 x11 x12 x13 x14 x15 x16 x17 x18 x19 x20 x21 x22 x24:Option D):Loc:=[s,some (.loc 4),x2,x3,x4,x5,x6,some (.loc 6),some (.loc 7),some (.loc 10),some (.loc 11),x11,x12,x13,x14,x15,x16,x17,x18,x19,x20,x21,x22,none,x24,none,none]
noncomputable abbrev Xf:E:=.comp (.loc 11) [11] false false (.loc 7) [(.cmp (.loc 11) [.ge] [(.loc 16)])]
noncomputable abbrev ZT:E:=.bi .dict [(.comp (.tup [(.loc 11),(.bin .add (.loc 17) (.bin .mul (.loc 24) (.loc 2)))]) [24,11] true true Xf [])]
noncomputable abbrev ZU:E:=.cmp (.comp (.loc 11) [11] false false (.loc 7) [(.and [(.cmp (.loc 11) [.lt] [(.loc 16)]),(.cmp (.loc 11) [.ge] [(.loc 17)])])]) [.ne] [(.lst [])]
theorem Xg{σ:AA}{a b:Nat}{l:List Nat}(h1:σ[a]? =some (.lst (AG l)))(h2:σ[b]? =some (.lst [])):BA σ .ne (.loc a) (.loc b)=some (!l.isEmpty):=by
 haveI c:∀{k:Nat} {l:List Nat},σ[k]? =some (.lst (AG l))→conv σ 12 (.loc k)=true:=fun {k l} h=>by
  show (match σ[k]? with|some (.lst l)=>l.all (conv σ 11)|_=>false)=true
  rw[h]
  show (AG l).all (conv σ 11)=true
  rw[AG,List.all_map];exact ao.mpr fun _ _=>rfl
 haveI e:DA σ (.loc a) (.loc b)=some l.isEmpty:=by
  unfold DA;rw[c h1,c (l:=[]) h2];refine (Bb h1 _).trans ((Bb h2 _).trans ?_);cases l<;>rfl
 exact congrArg (br (!·)) e
theorem TK(new old:Nat)(l:List Nat)(h:l.Pairwise (· < ·)):(!(l.filter fun n=>decide (n<old)&&decide (new≤n)).isEmpty)=clash new (ahL old l):=by
 have hA:(ahL old l).Pairwise (· < ·):=h.sublist List.filter_sublist
 have hf:(l.filter fun n=>decide (n<old)&&decide (new≤n))=(ahL old l).filter fun n=>decide (new≤n):=by
  rw[ahL,List.filter_filter];exact List.filter_congr fun n _=>Bool.and_comm _ _
 rw[hf];generalize ahL old l=A at*;obtain e|⟨u,la,e⟩:=List.eq_nil_or_concat A
 ·rw[e];rfl
 ·rw[List.concat_eq_append]at e;subst e;rw[clash,MM,List.filter_append];dsimp only;cases q:decide (new≤la) with
  |true=>
   rw[cZ,q]
   show (!((u.filter _)++[la]).isEmpty)=true
   cases u.filter _<;>rfl
  |false=>
   have hu:(u.filter fun n=>decide (new≤n))=[]:=List.filter_eq_nil_iff.mpr fun n hn w=>of_decide_eq_false q (ag (of_decide_eq_true w) (bz ((dE.mp hA).2.2 n hn la (.head _))));rw[hu,cZ,q];rfl
section
variable{call:Call}{n:Nat}{σ:AA}{lines:List Nat}{old new stride:Nat}{s x2 x3 x4 x5 x6 x11 x12 x13 x14 x15 x16 x17 x18 x19 x20 x21 x22:Option D}
theorem c7(h:σ[6]? =some (.lst (AG lines)))(hfew:lines.length<60):ev call AD (n+3) Xf (Rf s x2 x3 x4 x5 x6 x11 x12 x13 x14 x15 (some (.int (old:Int))) x17 x18 x19 x20 x21 x22 none) σ=some (.ok (.loc σ.length),σ++[.lst (AG (mvL old lines))]):=
 Dp (items:=lines) (itemD:=fun (n:Nat)=>.int (n:Int)) (src:=.loc 6) (τ:=σ) (fun n=>decide (old≤n)) (fun (n:Nat)=>.int (n:Int)) (fun (n:Nat)=>Rf s x2 x3 x4 x5 x6 (some (.int (n:Int))) x12 x13 x14 x15 (some (.int (old:Int))) x17 x18 x19 x20 x21 x22 none) rfl (Az h) (ai hfew (by decide)) (fun _=>rfl) (fun _ _=>rfl) (fun n _ c=>Cd (AK rfl rfl (XG Ux))) fun _ _ _ _=>rfl
theorem c9(h:σ[6]? =some (.lst (AG lines)))(hfew:lines.length<60)(hasc:lines.Pairwise (· < ·)):∃g,ev call AD (n+7) ZU (Rf s x2 x3 x4 x5 x6 x11 x12 x13 x14 x15 (some (.int (old:Int))) (some (.int (new:Int))) x18 x19 x20 x21 x22 none) σ=some (.ok (.bool (clash new (ahL old lines))),σ++g):=by
 haveI c:=Dp (call:=call) (n:=n+5) (elt:=.loc 11) (ifs:=[(.and [(.cmp (.loc 11) [.lt] [(.loc 16)]),(.cmp (.loc 11) [.ge] [(.loc 17)])])]) (tup:=false) (tgt:=[11]) (en:=false) (it:=.loc 7) (ρ:=Rf s x2 x3 x4 x5 x6 x11 x12 x13 x14 x15 (some (.int (old:Int))) (some (.int (new:Int))) x18 x19 x20 x21 x22 none) (items:=lines) (itemD:=fun (n:Nat)=>.int (n:Int)) (src:=.loc 6) (σ:=σ) (τ:=σ) (fun n=>decide (n<old)&&decide (new≤n)) (fun (n:Nat)=>.int (n:Int)) (fun (n:Nat)=>Rf s x2 x3 x4 x5 x6 (some (.int (n:Int))) x12 x13 x14 x15 (some (.int (old:Int))) (some (.int (new:Int))) x18 x19 x20 x21 x22 none) rfl (Az h) (ai hfew (by decide)) (fun _=>rfl) (fun _ _=>rfl) (fun n _ c=>Cd (Bh (G3 (AK rfl rfl (Do (decide_eq_decide.mpr av))) (C5 (AK rfl rfl (XG Ux)))))) fun _ _ _ _=>rfl
 rw[←TK new old lines hasc];haveI e:=Xg (σ:=σ++[.lst (AG (lines.filter fun n=>decide (n<old)&&decide (new≤n)))]++[.lst []]) (a:=σ.length) (b:=(σ++[AI.lst (AG (lines.filter fun n=>decide (n<old)&&decide (new≤n)))]).length) (l:=lines.filter fun n=>decide (n<old)&&decide (new≤n)) (Grw.app _ _ _ _ (AM _ [] σ)) (AM _ [] _);exact ⟨[_]++[.lst []],(AK c rfl e).trans (by rw[aZ])⟩
theorem s7(h:σ[6]? =some (.lst (AG lines)))(hfew:lines.length<60)(hasc:lines.Pairwise (· < ·))(hs:stride<1000):Ex2 fun t g=> (σ++g)[t]? =some (.dcti (tM (Ak new stride (mvL old lines))))∧ev call AD (n+8) ZT (Rf s (some (.int (stride:Int))) x3 x4 x5 x6 x11 x12 x13 x14 x15 (some (.int (old:Int))) (some (.int (new:Int))) x18 x19 x20 x21 x22 none) σ=some (.ok (.loc t),σ++g):=by
 haveI h7:=c7 (call:=call) (n:=n+3) (old:=old) (s:=s) (x2:=some (.int (stride:Int))) (x3:=x3) (x4:=x4) (x5:=x5) (x6:=x6) (x11:=x11) (x12:=x12) (x13:=x13) (x14:=x14) (x15:=x15) (x17:=some (.int (new:Int))) (x18:=x18) (x19:=x19) (x20:=x20) (x21:=x21) (x22:=x22) h hfew;haveI ha:(mvL old lines).Pairwise (· < ·):=hasc.sublist List.filter_sublist
 haveI hl:(mvL old lines).length<60:=am (cf _ _) hfew;generalize mvL old lines=mv at*;haveI hk:(σ++[AI.lst (AG mv)])[σ.length]? =some (.lst (AG mv)):=AM _ [] σ;haveI c:=Dp (call:=call) (n:=n+6) (elt:=.tup [(.loc 11),(.bin .add (.loc 17) (.bin .mul (.loc 24) (.loc 2)))]) (ifs:=[]) (tup:=true) (tgt:=[24,11]) (en:=true) (it:=Xf) (ρ:=Rf s (some (.int (stride:Int))) x3 x4 x5 x6 x11 x12 x13 x14 x15 (some (.int (old:Int))) (some (.int (new:Int))) x18 x19 x20 x21 x22 none) (items:=mv.zipIdx) (itemD:=fun p=>.tup [.int (p.2:Int),.int (p.1:Int)]) (src:=.loc σ.length) (σ:=σ) (τ:=σ++[AI.lst (AG mv)]) (fun _=>true) (fun p=>Nn (Ec new stride p)) (fun p=>Rf s (some (.int (stride:Int))) x3 x4 x5 x6 (some (.int (p.1:Int))) x12 x13 x14 x15 (some (.int (old:Int))) (some (.int (new:Int))) x18 x19 x20 x21 x22 (some (.int (p.2:Int)))) h7 (fun c i=>Jv (Grw.app _ _ _ _ hk) i) (by rw[List.length_zipIdx];exact ai hl (by decide)) (fun _=>rfl) (fun _ _=>rfl) (fun _ _ _=>rfl) fun p m _ c=>by
  haveI hm:=mul_int (σ:=σ++[AI.lst (AG mv)]++[c]) (a:=(p.2:Int)) (b:=(stride:Int)) ⟨B9 (ai (List.snd_lt_of_mem_zipIdx m) (ai hl (by decide))),B9 (ai hs (by decide))⟩
  exact Bi (AJ rfl (AJ (BE rfl (BE rfl rfl hm) rfl) rfl))
 haveI hE:(mv.zipIdx.filter fun _=>true).map (fun p=>Nn (Ec new stride p))=(Ak new stride mv).map Nn:=by
  rw[dD.mpr fun _ _=>rfl,Ak,az];rfl
 rw[hE]at c;haveI hd:=TI (σ:=σ++[.lst (AG mv)]++[.lst ((Ak new stride mv).map Nn)]) (AM _ [] _) (Ij _) (TJ ha);refine ⟨(σ++[AI.lst (AG mv)]++[AI.lst ((Ak new stride mv).map Nn)]).length,[AI.lst (AG mv)]++([AI.lst ((Ak new stride mv).map Nn)]++[.dcti (tM (Ak new stride mv))]),?_,?_⟩
 ·rw[←aZ,←aZ];exact AM _ [] _
 ·rw[←aZ,←aZ];exact HP (AJ c (Yr hd))
end
theorem U5(a b:Nat):∀f,f<10→fu (Ad f a b)≤40∧dp (Ad f a b)≤12:=by
 haveI z:IR a=.none∨ ∃i,IR a=.int i:=match a with
  |0=>.inl rfl
  |_+1=>.inr ⟨_,rfl⟩
 haveI h6:fu (Ad 6 a b)≤40∧dp (Ad 6 a b)≤12:=by
  rcases z with z|⟨i,z⟩<;>rw[Ad,z]<;>exact ⟨au rfl,au rfl⟩
 haveI h9:fu (Ad 9 a b)≤40∧dp (Ad 9 a b)≤12:=by
  rcases z with z|⟨i,z⟩<;>rw[Ad,z]<;>exact ⟨au rfl,au rfl⟩
 exact CP ⟨au rfl,au rfl⟩ ⟨au rfl,au rfl⟩ ⟨au rfl,au rfl⟩ ⟨au rfl,au rfl⟩ ⟨au rfl,au rfl⟩ ⟨au rfl,au rfl⟩ h6 ⟨au rfl,au rfl⟩ ⟨au rfl,au rfl⟩ h9
theorem QT{x y:List (Int×D)}{g:List AI}{i:Nat}{l:List D}:∀{A:AA},(A++ .dcti x::g)[i]? =some (.lst l)→(A++ .dcti y::g)[i]? =some (.lst l):=by
 intro A
 induction A generalizing i with
 |nil=>
  intro h;cases i with
  |zero=>cases h
  |succ i=>exact h
 |cons a A ih=>
  intro h;cases i with
  |zero=>exact h
  |succ i=>exact ih h
theorem eq0(σ:AA)(n:Nat):BA σ .eq (.int (n:Int)) (.int 0)=some (Nat.beq n 0):=II (XQ n)
noncomputable abbrev lwO:E:=.or [(.loc 4),(.and [(.cmp (.loc 12) [.isIn] [(.tup [(.cst (.int 5)),(.cst (.int 6)),(.cst (.int 9))])]),(.cmp (.loc 19) [.eq] [(.cst (.int 0))]),(.cmp (.loc 13) [.gt] [(.cst (.int 0))])]),(.and [(.cmp (.loc 12) [.eq] [(.cst (.int 9))]),(.cmp (.loc 20) [.eq] [(.cst (.int 0))]),(.cmp (.loc 14) [.gt] [(.cst (.int 0))])])]
noncomputable abbrev Xh:List St:=[.asgT [19,20] (.tup [(.call 70 [(.loc 3),(.loc 13),(.cmp (.loc 12) [.isIn] [(.tup [(.cst (.int 5)),(.cst (.int 6)),(.cst (.int 9))])])]),(.call 70 [(.loc 3),(.loc 14),(.cmp (.loc 12) [.eq] [(.cst (.int 9))])])]),.asgT [21,22] (.call 69 [(.loc 12),(.loc 19),(.loc 20)]),.asgI (.loc 5) (.meth .get (.loc 3) [(.loc 11),(.loc 11)]) (.loc 21),.ite (.cmp (.call 67 [(.loc 21)]) [.ne] [(.loc 22)]) [.junk] [],.asg 4 lwO]
section
variable(d:Nat){A:AA}{t0 t1:List Nat}{t:Nat}{M:List (Nat×Nat)}{L:List Ln}{s x2 x6 x11 x12 x13 x14 x15 x16 x17 x18 x19 x20 x21 x22:Option D}
theorem U6(q0:A[0]? =some (.tab t0))(q1:A[1]? =some (.tab t1))(ht:A[t]? =some (.dcti (tM M)))(hM:∀p∈M,p.2<65530){x:Ln}(hx:GP x){due:List (Int×D)}(hd:due.length<900){g:List AI}{b:Bool}:Ex2 fun (y:Option D×Option D×Option D×Option D) (g':List AI)=> exs (CC (d+25)) AD 49 Xh (Rf s x2 (some (.loc t)) (some (.bool b)) (some (.loc A.length)) x6 (some (.int (Ln.n x:Int))) (some (.int (Ln.f x:Int))) (some (.int (Ln.a x:Int))) (some (.int (Ln.b x:Int))) x15 x16 x17 x18 x19 x20 x21 x22 none) (A++ .dcti due::g)=
  some (.nxt,Rf s x2 (some (.loc t)) (some (.bool (b||Ln.bad M x))) (some (.loc A.length)) x6 (some (.int (Ln.n x:Int))) (some (.int (Ln.f x:Int))) (some (.int (Ln.a x:Int))) (some (.int (Ln.b x:Int))) x15 x16 x17 x18 y.1 y.2.1 y.2.2.1 y.2.2.2 none,A++ .dcti (Ay due (rp M (Ln.n x):Int) (.str (Ln.new M x)))::g'):=by
 haveI f1:=TC (A++ .dcti due::g) _ hx.f;haveI f2:=eq9 (A++ .dcti due::g) _ hx.f;haveI n1:=Id (d+23) (Grw.app A (.dcti due::g) _ _ ht) (Ln.a x) (nnA (Ln.f x));haveI n2:=Id (d+23) (Grw.app A (.dcti due::g) _ _ ht) (Ln.b x) (nnB (Ln.f x));haveI ha:=Dw hM (nnA (Ln.f x)) (FF hx.a);haveI hb:=Dw hM (nnB (Ln.f x)) (FF hx.b);obtain ⟨tr,σ1,e1,F,r1⟩:=Ie (d+23) (A++ .dcti due::g) hx.f (ai ha (by decide)) (ai hb (by decide))
 obtain ⟨g1,rfl⟩:=F.mid;haveI ht1:=Grw.app A (.dcti due::(g++g1)) _ _ ht;haveI h3:=Ib ht1 (Ln.n x);haveI h4:=Ic ht1;haveI hset:=Ed (k:=(rp M (Ln.n x):Int)) (v:=.str (Ln.new M x)) (AM (AI.dcti due) (g++g1) A) (ai hd (by decide))
 simp only[BV]at hset;haveI hrow:=Ur _ _ ha hb _ hx.f;haveI hfu:=U5 (Bd M (nnA (Ln.f x)) (Ln.a x)) (Bd M (nnB (Ln.f x)) (Ln.b x)) _ hx.f;haveI e1:CC (d+25) 69 [.int (Ln.f x:Int),.int (Bd M (nnA (Ln.f x)) (Ln.a x):Int),.int (Bd M (nnB (Ln.f x)) (Ln.b x):Int)] (A++ .dcti due::g)=some (.ok (.tup [.str (Ln.new M x),tr]),A++ .dcti due::(g++g1)):=e1;haveI hrow:Da (Ln.new M x) _:=hrow;haveI hbad:Ln.bad M x=((nnA (Ln.f x)&&(Nat.beq (Bd M (nnA (Ln.f x)) (Ln.a x)) 0&& !Nat.beq (Ln.a x) 0))||(nnB (Ln.f x)&&(Nat.beq (Bd M (nnB (Ln.f x)) (Ln.b x)) 0&& !Nat.beq (Ln.b x) 0))):=rfl
 generalize Ay due (rp M (Ln.n x):Int) (.str (Ln.new M x))=due' at*;generalize Ln.new M x=nw at*;generalize Ad (Ln.f x) (Bd M (nnA (Ln.f x)) (Ln.a x)) (Bd M (nnB (Ln.f x)) (Ln.b x))=tree at*;obtain ⟨k,g2,e2,r2⟩:=hrow d (A++ .dcti due'::(g++g1)) t0 t1 (Grw.app _ _ _ _ q0) (Grw.app _ _ _ _ q1);haveI r3:Rd (A++ .dcti due'::(g++g1)) tree tr:=r1.lists fun _ _=>QT;haveI hne:=ne_eq (Rd.eq r2 (r3.grow (Grw.app _ g2)) hfu.1 hfu.2);haveI hor:ev (CC (d+25)) AD 44 lwO (Rf s x2 (some (.loc t)) (some (.bool b)) (some (.loc A.length)) x6 (some (.int (Ln.n x:Int))) (some (.int (Ln.f x:Int))) (some (.int (Ln.a x:Int))) (some (.int (Ln.b x:Int))) x15 x16 x17 x18 (some (.int (Bd M (nnA (Ln.f x)) (Ln.a x):Int))) (some (.int (Bd M (nnB (Ln.f x)) (Ln.b x):Int))) (some (.str nw)) (some tr) none) (A++ .dcti due'::(g++g1)++g2)=some (.ok (.bool (b||Ln.bad M x)),A++ .dcti due'::(g++g1)++g2):=by
  rw[hbad];exact C9 (FE rfl (FE (Bh (G3 (AK rfl rfl (TC _ _ hx.f)) (G3 (AK rfl rfl (eq0 _ _)) (C5 (AK rfl rfl (gt0 _ _)))))) (CR (Bh (G3 (AK rfl rfl (eq9 _ _ hx.f)) (G3 (AK rfl rfl (eq0 _ _)) (C5 (AK rfl rfl (gt0 _ _)))))))))
 haveI hA:A++ .dcti due'::(g++g1)++g2=A++ .dcti due'::(g++g1++g2):=aZ _ _ _;refine ⟨(some (.int (Bd M (nnA (Ln.f x)) (Ln.a x):Int)),some (.int (Bd M (nnB (Ln.f x)) (Ln.b x):Int)),some (.str nw),some tr),g++g1++g2,x_k ?_⟩;refine hA▸ ?_;generalize Ln.bad M x=bd at*;clear hbad hA r1 r2 r3 hrow hfu F q0 q1 ht ht1 hM hd;generalize Bd M (nnA (Ln.f x)) (Ln.a x)=na at*;generalize Bd M (nnB (Ln.f x)) (Ln.b x)=nb at*;exact (BC (Bi (AJ (Ax (AJ rfl (AJ rfl (AJ (AK rfl rfl f1) n1)))) (AJ (Ax (AJ rfl (AJ rfl (AJ (AK rfl rfl f2) n2)))) rfl))) rfl rfl (BC e1 rfl rfl (FU rfl rfl (B8 rfl h4 h3) hset (AU (AK e2 rfl hne) (As (AO hor rfl))))))
theorem ZV(q0:A[0]? =some (.tab t0))(q1:A[1]? =some (.tab t1))(ht:A[t]? =some (.dcti (tM M)))(h7:A[7]? =some (.lst (List.map Aq L)))(hM:∀p∈M,p.2<65530)(hlen:L.length≤4)(hok:∀x∈L,GP x){b:Bool}{g:List AI}:Ex2 fun (y:Option D×Option D×Option D×Option D×Option D×Option D×Option D×Option D) (g':List AI)=> CQ 0 (.loc 7) true [11,12,13,14] (exs (CC (d+25)) AD 49 Xh) 400 0 (Rf s x2 (some (.loc t)) (some (.bool b)) (some (.loc A.length)) x6 x11 x12 x13 x14 x15 x16 x17 x18 x19 x20 x21 x22 none) (A++ .dcti []::g)=
  some (.nxt,Rf s x2 (some (.loc t)) (some (.bool (b||L.any (Ln.bad M)))) (some (.loc A.length)) x6 y.1 y.2.1 y.2.2.1 y.2.2.2.1 x15 x16 x17 x18 y.2.2.2.2.1 y.2.2.2.2.2.1 y.2.2.2.2.2.2.1 y.2.2.2.2.2.2.2 none,A++ .dcti (CA M L [])::g'):=by
 obtain ⟨ρ',σ',e,b',due,g',y1,y2,y3,y4,y5,y6,y7,y8,rfl,rfl,h1,h2,_⟩:=By (items:=L) (itemD:=Aq) (kind:=0) (src:=.loc 7) (tup:=true) (tgt:=[11,12,13,14]) (body:=exs (CC (d+25)) AD 49 Xh)
  (fun r ρ σ'=>X6 fun b' due g' y1 y2 y3 y4 y5 y6 y7 y8=>A6 (ρ=Rf s x2 (some (.loc t)) (some (.bool b')) (some (.loc A.length)) x6 y1 y2 y3 y4 x15 x16 x17 x18 y5 y6 y7 y8 none) (σ'=A++ .dcti due::g') ((b'||r.any (Ln.bad M))=(b||L.any (Ln.bad M))) (CA M r due=CA M L []) (due.length+r.length≤100) (∀x∈r,x∈L))
  (fun r ρ σ I i=>by
   obtain ⟨b',due,g',y1,y2,y3,y4,y5,y6,y7,y8,_,rfl,_⟩:=I;exact Az h7 _ i) (fun x r ρ σ' I=>by
   obtain ⟨b',due,g',y1,y2,y3,y4,y5,y6,y7,y8,rfl,rfl,h1,h2,h3,h4⟩:=I;simp only[bF]at h3;haveI hl:=O5 (rp M (Ln.n x):Int) (.str (Ln.new M x)) due;obtain ⟨z,g2,e⟩:=U6 d (s:=s) (x2:=x2) (x6:=x6) (x15:=x15) (x16:=x16) (x17:=x17) (x18:=x18) (x19:=y5) (x20:=y6) (x21:=y7) (x22:=y8) (b:=b') (g:=g') q0 q1 ht hM (hok x (h4 x (.head _))) (due:=due) (by lia)
   exact ⟨_,_,_,rfl,e,_,_,_,_,_,_,_,_,_,_,_,rfl,rfl,by rw[Bool.or_assoc];exact h1,h2,by lia,fun z m=>h4 z (.tail _ m)⟩) L 400 0 (Rf s x2 (some (.loc t)) (some (.bool b)) (some (.loc A.length)) x6 x11 x12 x13 x14 x15 x16 x17 x18 x19 x20 x21 x22 none) (A++ .dcti []::g) rfl (am hlen (by decide)) ⟨b,[],g,x11,x12,x13,x14,x19,x20,x21,x22,rfl,rfl,rfl,rfl,by simp only[bY];lia,fun _ m=>m⟩
 rw[show b'=(b||L.any (Ln.bad M)) from (Bool.or_false _).symm.trans h1]at e
 rw[show due=CA M L [] from h2]at e
 exact ⟨(y1,y2,y3,y4,y5,y6,y7,y8),g',e⟩
end
noncomputable abbrev aU:E:=.lst [(.comp (.bi .abs [(.loc 23)]) [23] false false (.slc (.loc 0) none (some (.cst (.int 24)))) []),(.cst (.int 0))]
theorem Ik{α:Type}(l:List α):l.filter (fun _=>true)=l:=dD.mpr fun _ _=>rfl
theorem s0{call:Call}{n:Nat}(l:List Int):Ex2 fun c2 cl=> ev call AD (n+5) aU (some (.fl (l.map .int))::bO 26 none) [.tab [],.tab []]=some (.ok (.loc 4),AT [] [] c2 cl 0):=by
 haveI hk:cut (l.map D.int) 0 24=(l.take 24).map .int:=List.map_take.symm;haveI c:=Dp (call:=call) (n:=n+3) (elt:=.bi .abs [(.loc 23)]) (ifs:=[]) (tup:=false) (tgt:=[23]) (en:=false) (it:=.slc (.loc 0) none (some (.cst (.int 24)))) (ρ:=some (.fl (l.map .int))::bO 26 none) (items:=l.take 24) (itemD:=.int) (src:=.loc 2) (σ:=[.tab [],.tab []]) (τ:=[.tab [],.tab [],.lst (cut (l.map D.int) 0 24)]) (fun _=>true) (fun i=>.int (i.natAbs:Int)) (fun i=>AW (some (.fl (l.map .int))::bO 26 none) 23 (some (.int i))) rfl (Az (k:=2) (congrArg (fun z=>some (AI.lst z)) hk)) (am (by simp only[b0];exact Nat.min_le_left _ _) (by decide:24<400)) (fun _=>rfl) (fun _ _=>rfl) (fun _ _ _=>rfl) fun _ _ _ _=>rfl
 simp only[Ik,show (l.take 24).map (fun i=>D.int (i.natAbs:Int))=((l.take 24).map fun i=>(i.natAbs:Int)).map .int by rw[az];rfl]at c
 exact ⟨_,_,L0 (AJ c (AJ rfl rfl))⟩
noncomputable abbrev ZW:E:=.or [(.cmp (.heard 1 0 (.call 35 [(.loc 9),(.loc 17),(.loc 16),(.loc 2)])) [.ne] [(.loc 5)]),(.cmp (.loc 9) [.ne] [(.loc 18)])]
noncomputable abbrev Xi:E:=.bin .add (.bin .add (.bin .add (.bi .str [(.loc 11)]) (.cst (.str [32]))) (.idx (.loc 9) (.loc 11))) (.loc 6)
noncomputable abbrev Vb:E:=.cmp (.call 24 [(.bin .add (.lst [(.loc 6)]) (.comp Xi [11] false false (.loc 7) []))]) [.ne] [(.loc 9)]
section
variable(d:Nat){n:Nat}{c2:AI}{cl:List Int}{T:Nat}{L:List Ln}{s x2 x3 x4 x5 x6 x11 x12 x13 x14 x15 x16 x17 x18 x19 x20 x21 x22:Option D}
theorem s12{GA g:List AI}{old new stride j:Nat}(hp:GA[5]? =some (.dcti (Am L)))(hb:GA[j]? =some (.dcti (Am L)))(hok:∀x∈L,GP x)(hasc:(L.map Ln.n).Pairwise (· < ·))(hfew:L.length<60)(hs:stride<1000)(hs1:1≤stride)(hn:new≠10000)(hmv:mvL old (L.map Ln.n)≠[])(hM:∀p∈Ak new stride (mvL old (L.map Ln.n)),p.2<65530):
  ∃g5,ev (CC (d+25)) AD (n+5) ZW (Rf s (some (.int (stride:Int))) x3 x4 (some (sel (clash new (ahL old (L.map Ln.n))||L.any (Ln.bad (Ak new stride (mvL old (L.map Ln.n))))) (.str [70,67]) (.loc (AT [] [] c2 cl T++GA).length))) x6 x11 x12 x13 x14 x15 (some (.int (old:Int))) (some (.int (new:Int))) (some (.loc (j+5))) x19 x20 x21 x22 none) (AT [] [] c2 cl T++GA++ .dcti (CA (Ak new stride (mvL old (L.map Ln.n))) L [])::g)=some (.ok (.bool false),AT [1] [] c2 cl T++(GA++g5)):=by
 haveI hdue:=AM (AI.dcti (CA (Ak new stride (mvL old (L.map Ln.n))) L [])) g (AT [1] [] c2 cl T++GA);haveI hgood:=HF (Ak new stride (mvL old (L.map Ln.n))) L [] ⟨.nil,fun _ m=>by contradiction⟩
 haveI f:=Grw.app (AT [1] [] c2 cl T++GA) (.dcti (CA (Ak new stride (mvL old (L.map Ln.n))) L [])::g);haveI hP:PL (AT [1] [] c2 cl T++GA++ .dcti (CA (Ak new stride (mvL old (L.map Ln.n))) L [])::g) 10 L:=⟨f 10 _ hp,hfew,hasc,hok⟩;obtain ⟨k,g5,e,hk⟩:=JA (d+16) (new:=new) (old:=old) hP hs hs1 hn hmv hM;haveI hb2:=f (j+5) _ hb;haveI hp2:=f 10 _ hp;haveI hg:=Gn hasc;generalize CA (Ak new stride (mvL old (L.map Ln.n))) L []=due at*;generalize (clash new (ahL old (L.map Ln.n))||L.any (Ln.bad (Ak new stride (mvL old (L.map Ln.n)))))=b at*
 haveI f2:=Grw.app (AT [1] [] c2 cl T++GA++ .dcti due::g) g5;haveI h2:∀{ρ:Loc},ρ[9]? =some (some (.loc 10))→ρ[18]? =some (some (.loc (j+5)))→ev (CC (d+25)) AD (n+4) (.cmp (.loc 9) [.ne] [(.loc 18)]) ρ (AT [1] [] c2 cl T++GA++ .dcti due::g++g5)=some (.ok (.bool false),AT [1] [] c2 cl T++GA++ .dcti due::g++g5):=fun r1 r2=>AK (GC r1) (GC r2) (ne_eq (hg.eq (f2 _ _ hp2) (f2 _ _ hb2)));haveI hh:=congrArg EC ((F9 (d+23) 35 _ _).trans e);refine ⟨.dcti due::(g++g5),?_⟩;rw[show AT [1] [] c2 cl T++(GA++ .dcti due::(g++g5))=AT [1] [] c2 cl T++GA++ .dcti due::g++g5 by rw[aZ,aZ];rfl]
 cases b with
 |true=>exact C9 (o_F (AK hh rfl (Oh rfl)) (CR (h2 rfl rfl)))
 |false=>exact C9 (o_F (AK hh rfl (ne_eq (hgood.eq (hk rfl) (f2 _ _ hdue)))) (CR (h2 rfl rfl)))
theorem s14{G:List AI}{tl:List Nat}(ht:Kw tl)(hp:G[5]? =some (.dcti (Am L)))(hl:G[1]? =some (.lst (AG (L.map Ln.n))))(hok:∀x∈L,GP x)(hasc:(L.map Ln.n).Pairwise (· < ·))(hfew:L.length<60):
  ∃g,ev (CC (d+25)) AD (n+10) Vb (Rf s x2 x3 x4 x5 (some (.str tl)) x11 x12 x13 x14 x15 x16 x17 x18 x19 x20 x21 x22 none) (AT [1] [] c2 cl T++G)=some (.ok (.bool false),AT [1] [] c2 cl T++(G++g)):=by
 haveI hP:PL (AT [1] [] c2 cl T++G) 10 L:=⟨hp,hfew,hasc,hok⟩;haveI z2:AG (L.map Ln.n)=L.map fun x=>.int (Ln.n x:Int):=by simp only[AG,az];rfl
 simp only[z2]at hl;haveI hl:(AT [1] [] c2 cl T++G)[6]? =some (.lst (L.map fun x=>.int (Ln.n x:Int))):=hl
 suffices H:∀σ,PL σ 10 L→σ[6]? =some (.lst (L.map fun x=>.int (Ln.n x:Int)))→∃g,ev (CC (d+25)) AD (n+10) Vb (Rf s x2 x3 x4 x5 (some (.str tl)) x11 x12 x13 x14 x15 x16 x17 x18 x19 x20 x21 x22 none) σ=some (.ok (.bool false),σ++g) from H _ hP hl
 clear hP hl hp z2;intro σ hP hl;haveI f1:=Grw.app σ [.lst [.str tl]];haveI el:∀x∈L,true=true→∀c,ev (CC (d+25)) AD (n+6) Xi (Rf s x2 x3 x4 x5 (some (.str tl)) (some (.int (Ln.n x:Int))) x12 x13 x14 x15 x16 x17 x18 x19 x20 x21 x22 none) (σ++[.lst [.str tl]]++[c])=some (.ok (.str (BF tl x)),σ++[.lst [.str tl]]++[c]):=fun x hx _ c=>by
  haveI hlen:=MS ht (hok x hx);simp only[BF,ae,ae,ae]at hlen;haveI h1:=Hd (σ:=σ++[.lst [.str tl]]++[c]) (ai (hok x hx).n (by decide))
  haveI h2:=(hP.grow (f1.trans (Grw.app _ [c]))).idx hx;generalize σ++[.lst [.str tl]]++[c]=τ at*;haveI a1:=add_str (σ:=τ) (a:=AB (Ln.n x)) (b:=[32]) (by omega)
  haveI a2:=add_str (σ:=τ) (a:=AB (Ln.n x)++[32]) (b:=Ln.row x) (by simp only[ae];omega)
  haveI a3:=add_str (σ:=τ) (a:=AB (Ln.n x)++[32]++Ln.row x) (b:=tl) (by simp only[ae,ae];omega)
  exact BE (BE (BE (HP (AJ rfl h1)) rfl a1) (Ao rfl rfl h2) a2) rfl a3
 haveI c:=Dp (call:=CC (d+25)) (n:=n+6) (elt:=Xi) (ifs:=[]) (tup:=false) (tgt:=[11]) (en:=false) (it:=.loc 7) (ρ:=Rf s x2 x3 x4 x5 (some (.str tl)) x11 x12 x13 x14 x15 x16 x17 x18 x19 x20 x21 x22 none) (items:=L) (itemD:=fun x=>.int (Ln.n x:Int)) (src:=.loc 6) (σ:=σ++[.lst [.str tl]]) (τ:=σ++[.lst [.str tl]]) (fun _=>true) (fun x=>.str (BF tl x)) (fun x=>Rf s x2 x3 x4 x5 (some (.str tl)) (some (.int (Ln.n x:Int))) x12 x13 x14 x15 x16 x17 x18 x19 x20 x21 x22 none) rfl (Az (f1 _ _ hl)) (ai hfew (by decide)) (fun _=>rfl) (fun _ _=>rfl) (fun _ _ _=>rfl) el
 simp only[Ik]at c;haveI hb:=O7 (σ:=σ++[.lst [.str tl]]++[.lst (L.map fun x=>.str (BF tl x))]) (i:=σ.length) (j:=(σ++[AI.lst [.str tl]]).length) (Grw.app _ _ _ _ (AM (AI.lst [.str tl]) [] σ)) (AM _ [] _) (by simp only[ak];exact bv (Nat.add_lt_add_left hfew 1) (by decide))
 haveI hm:[D.str tl]++(L.map fun x=>.str (BF tl x))=(tl::L.map (BF tl)).map .str:=by simp only[an,az];rfl
 simp only[hm]at hb;haveI f2:=f1.trans (Grw.app _ [.lst (L.map fun x=>.str (BF tl x))]);generalize hτ:σ++[.lst [.str tl]]++[.lst (L.map fun x=>.str (BF tl x))]=τ at*;haveI e:=FY (d+20) (σ:=τ++[.lst ((tl::L.map (BF tl)).map .str)]) ht (AM _ [] _) hok hasc hfew;haveI ne:=ne_eq ((Gn hasc).eq (AM (AI.dcti (Am L)) [] (τ++[.lst ((tl::L.map (BF tl)).map .str)])) (Grw.app _ _ _ _ (Grw.app _ _ _ _ (f2 _ _ hP.cell))));refine ⟨[.lst [.str tl]]++([.lst (L.map fun x=>.str (BF tl x))]++([.lst ((tl::L.map (BF tl)).map .str)]++[.dcti (Am L)])),?_⟩;rw[←aZ,←aZ,hτ,←aZ];exact AK (Ax (AJ (BE rfl c hb) e)) rfl ne
end
theorem Kx(d:Nat){n t m:Nat}{t0 t1:List Nat}{c2:AI}{cl:List Int}{G:List AI}{es:List E}{l:List D}{ρ:Loc}(P:D→Prop)(ht:t<900)(hl:ev (CC (d+25)) AD (n+2) (.lst es) ρ (AT t0 t1 c2 cl t++G)=some (.ok (.loc (AT t0 t1 c2 cl t++G).length),AT t0 t1 c2 cl t++G++[.lst l]))(h1:ρ[1]? =some (some (.loc 4)))(hm:l.length=m)(h0:0<m)(h2:m<900)(hP:∀a∈l,P a):∃x,P x∧∃G',ev (CC (d+25)) AD (n+3) (.idx (.lst es) (.call 68 [(.loc 1),(.cst (.int (m:Int)))])) ρ (AT t0 t1 c2 cl t++G)=some (.ok x,AT t0 t1 c2 cl (t+1)++G')∧Grw G G':=by
 obtain ⟨r,hr,e⟩:=Ef (d+23) t0 t1 c2 cl (t:=t) (m:=m) (ai ht (by decide)) h0 (ai h2 (by decide))
 haveI hr:r<l.length:=hm▸hr;haveI hi:=DJ (AM (AI.lst l) [] (AT t0 t1 c2 cl (t+1)++G)) (bk hr);exact ⟨l[r],hP _ (List.getElem_mem hr),G++[AI.lst l],Ao hl (Ax (AJ (GC h1) (AJ rfl (e (G++[AI.lst l]))))) hi,Grw.app _ _⟩
theorem No{new stride:Nat}{mv:List Nat}(hl:mv.length<60)(hn:new≤100)(hs:stride≤10):∀p∈Ak new stride mv,p.2<65530:=fun p hp=>by
 obtain ⟨q,hq,rfl⟩:=bT.mp hp;haveI:=Nat.mul_le_mul (bz (ai (List.snd_lt_of_mem_zipIdx hq) hl)) hs;exact am (Nat.add_le_add hn this) (by decide)
theorem TL(d:Nat)(l:List Int):∃σ',CC (d+26) 73 [.fl (l.map .int)] [.tab [],.tab []]=some (.ok (.bool true),σ'):=by
 obtain ⟨c2,cl,e0⟩:=s0 (call:=CC (d+25)) (n:=54) l;obtain ⟨L,T,c5,c8,c9',e1,hT,hL1,hL4,hasc,hok⟩:=S6 (d+22) [] [] c2 cl;obtain ⟨ρ3,g3,e3⟩:=ZS d (s:=some (.fl (l.map .int))) (c2:=c2) (cl:=cl) (T:=T) (c5:=c5) (c8:=c8) (c9:=c9') hL4 hasc hok;have hfew:L.length<60:=am hL4 (by decide)
 have hfn:(L.map Ln.n).length<60:=by rw[ak];exact hfew
 obtain ⟨G,hG,k1,k2,k5,k6⟩:∃G:List AI,A5 (st1 c2 cl T c5 c8 c9' (L.map Ln.n) (List.map Aq L) (Am L) (A9 (L.map Ln.n) L) g3=AT [] [] c2 cl T++G) (G[1]? =some (.lst (AG (L.map Ln.n)))) (G[2]? =some (.lst (List.map Aq L))) (G[5]? =some (.dcti (Am L))) (G[6]? =some (.lst (A9 (L.map Ln.n) L))):=⟨_,rfl,rfl,rfl,rfl,rfl⟩;rw[hG]at e3;obtain ⟨G4,e4,n4,x4⟩:∃G4,A3 (CC (d+25) 34 [.loc 10] (AT [] [] c2 cl T++G)=some (.ok (.loc (AT [] [] c2 cl T++G).length),AT [] [] c2 cl T++G4)) (BA (AT [] [] c2 cl T++G4) .ne (.loc (AT [] [] c2 cl T++G).length) (.loc 11)=some false) (Grw G G4):=by
  obtain ⟨g4,e4⟩:=I9 (d+18) (σ:=AT [] [] c2 cl T++G) (p:=10) (L:=L) ⟨k5,hfew,hasc,hok⟩;exact ⟨_,e4,ne_eq (U3 (AM (AI.lst (A9 (L.map Ln.n) L)) g4 (AT [] [] c2 cl T++G)) (Grw.app (AT [] [] c2 cl T++G) _ 11 _ k6) Nl (ag (J0 _ L) (by lia))),Grw.app _ _⟩
 obtain ⟨u,la,hu⟩:Ex2 fun u la=> L.map Ln.n=u++[la]:=⟨_,_,(List.dropLast_concat_getLast fun e=>by rw[List.map_eq_nil_iff.mp e]at hL1;exact absurd hL1 (by decide)).symm⟩
 have h6:(AT [] [] c2 cl T++G4)[6]? =some (.lst (AG (L.map Ln.n))):=x4 _ _ k1;have l6:=Ds h6;have i6:EB (AT [] [] c2 cl T++G4) (.loc 6) (.int (((AG (L.map Ln.n)).length:Int) - 1))=some (.int (la:Int)):=by
  rw[hu]at h6 ⊢;exact IZ h6
 obtain ⟨_,⟨old,rfl,ho⟩,G5,e5,x5⟩:=Kx d (n:=50) (t:=T) (m:=2) (ρ:=Rf (some (.fl (l.map .int))) none none none none none ρ3.1 ρ3.2.1 ρ3.2.2.1 ρ3.2.2.2.1 ρ3.2.2.2.2 none none none none none none none none) (es:=[(.cst (.int 0)),(.idx (.loc 7) (.bin .sub (.bi .len [(.loc 7)]) (.cst (.int 1))))]) (l:=[.int 0,.int (la:Int)]) (fun a=> ∃old:Nat,a=D.int (old:Int)∧(old=0∨old=la)) (by lia) (L0 (AJ rfl (AJ (Ao rfl (BE (HP (AJ rfl l6)) rfl rfl) i6) rfl))) rfl rfl (by decide) (by decide) fun a m=>by
  rcases aj.mp m with rfl|m
  ·exact ⟨0,rfl,.inl rfl⟩
  ·exact ⟨la,bA.mp m,.inr rfl⟩
 have hmv:mvL old (L.map Ln.n)≠[]:=fun e=>by
  have:=List.filter_eq_nil_iff.mp e la (by rw[hu];exact cO _ (.head _))
  exact this (decide_eq_true (by rcases ho with rfl|rfl;exact bC _;exact bJ _))
 obtain ⟨_,⟨new,rfl,hnew⟩,G6,e6,x6⟩:=Kx d (n:=50) (t:=T+1) (G:=G5) (m:=3) (ρ:=Rf (some (.fl (l.map .int))) none none none none none ρ3.1 ρ3.2.1 ρ3.2.2.1 ρ3.2.2.2.1 ρ3.2.2.2.2 none none none none none none none none) (es:=[(.cst (.int 0)),(.cst (.int 100)),(.cst (.int 3))]) (l:=[.int 0,.int 100,.int 3]) (fun a=> ∃new:Nat,a=D.int (new:Int)∧new≤100) (by lia) rfl rfl rfl (by decide) (by decide) fun a m=>by
  rcases aj.mp m with rfl|m
  ·exact ⟨0,rfl,by decide⟩
  ·rcases aj.mp m with rfl|m
   ·exact ⟨100,rfl,by decide⟩
   ·exact ⟨3,bA.mp m,by decide⟩
 obtain ⟨_,⟨stride,rfl,hs1,hs2⟩,G7,e7,x7⟩:=Kx d (n:=50) (t:=T+2) (G:=G6) (m:=3) (ρ:=Rf (some (.fl (l.map .int))) none none none none none ρ3.1 ρ3.2.1 ρ3.2.2.1 ρ3.2.2.2.1 ρ3.2.2.2.2 (some (.int (old:Int))) (some (.int (new:Int))) none none none none none none) (es:=[(.cst (.int 10)),(.cst (.int 1)),(.cst (.int 5))]) (l:=[.int 10,.int 1,.int 5]) (fun a=> ∃s:Nat,A3 (a=D.int (s:Int)) (1≤s) (s≤10)) (by lia) rfl rfl rfl (by decide) (by decide) fun a m=>by
  rcases aj.mp m with rfl|m
  ·exact ⟨10,rfl,by decide,by decide⟩
  ·rcases aj.mp m with rfl|m
   ·exact ⟨1,rfl,by decide,by decide⟩
   ·exact ⟨5,bA.mp m,by decide,by decide⟩
 have y7:=x4.trans (x5.trans (x6.trans x7));have hM:=No (new:=new) (mv:=mvL old (L.map Ln.n)) (am (cf _ _) hfn) hnew hs2;obtain ⟨t,G8,ht,e8,x8⟩:Ex2 fun t G8=>A3 ((AT [] [] c2 cl (T+3)++G8)[t]? =some (.dcti (tM (Ak new stride (mvL old (L.map Ln.n)))))) (ev (CC (d+25)) AD 52 ZT (Rf (some (.fl (l.map .int))) (some (.int (stride:Int))) none none none none ρ3.1 ρ3.2.1 ρ3.2.2.1 ρ3.2.2.2.1 ρ3.2.2.2.2 (some (.int (old:Int))) (some (.int (new:Int))) none none none none none none) (AT [] [] c2 cl (T+3)++G7)=some (.ok (.loc t),AT [] [] c2 cl (T+3)++G8)) (Grw G7 G8):=by
  obtain ⟨t,g,h1,h2⟩:=s7 (call:=CC (d+25)) (n:=44) (σ:=AT [] [] c2 cl (T+3)++G7) (lines:=L.map Ln.n) (old:=old) (new:=new) (stride:=stride) (s:=some (.fl (l.map .int))) (x3:=none) (x4:=none) (x5:=none) (x6:=none) (x11:=ρ3.1) (x12:=ρ3.2.1) (x13:=ρ3.2.2.1) (x14:=ρ3.2.2.2.1) (x15:=ρ3.2.2.2.2) (x18:=none) (x19:=none) (x20:=none) (x21:=none) (x22:=none) (y7 _ _ k1) hfn hasc (am hs2 (by decide))
  exact ⟨t,G7++g,h1,h2,Grw.app _ _⟩
 have y8:=y7.trans x8;have i8:=U4 (σ:=AT [] [] c2 cl (T+3)++G8) (k:=10) (y8 _ _ k5);obtain ⟨j,GA,d8,hj,x9,z9⟩:Ex2 fun j GA=>A4 (Dg (AT [] [] c2 cl (T+3)++G8++[.lst ((Am L).map fun p=>.tup [.int p.1,p.2])]) .dict [.loc (AT [] [] c2 cl (T+3)++G8).length]=some (.ok (.loc (j+5)),AT [] [] c2 cl (T+3)++GA)) (GA[j]? =some (.dcti (Am L))) (Grw G8 GA) (Grw (AT [] [] c2 cl (T+3)++G8) (AT [] [] c2 cl (T+3)++GA)):=
  ⟨_,G8++[AI.lst ((Am L).map fun p=>.tup [.int p.1,p.2])]++[AI.dcti (Am L)],TI (AM _ [] _) (HG _) (Gn hasc).nd,AM _ [] _,(Grw.app _ _).trans (Grw.app _ _),show Grw (AT [] [] c2 cl (T+3)++G8) (AT [] [] c2 cl (T+3)++G8++[AI.lst ((Am L).map fun p=>.tup [.int p.1,p.2])]++[AI.dcti (Am L)]) from (Grw.app _ _).trans (Grw.app _ _)⟩
 have y9:=y8.trans x9;obtain ⟨g9,e9⟩:∃g9,ev (CC (d+25)) AD 50 ZU (Rf (some (.fl (l.map .int))) (some (.int (stride:Int))) (some (.loc t)) none (some (.loc (AT [] [] c2 cl (T+3)++GA).length)) none ρ3.1 ρ3.2.1 ρ3.2.2.1 ρ3.2.2.2.1 ρ3.2.2.2.2 (some (.int (old:Int))) (some (.int (new:Int))) (some (.loc (j+5))) none none none none none) (AT [] [] c2 cl (T+3)++GA++[.dcti []])=some (.ok (.bool (clash new (ahL old (L.map Ln.n)))),AT [] [] c2 cl (T+3)++GA++ .dcti []::g9):=by
  obtain ⟨g9,e9⟩:=c9 (call:=CC (d+25)) (n:=43) (σ:=AT [] [] c2 cl (T+3)++GA++[.dcti []]) (lines:=L.map Ln.n) (old:=old) (new:=new) (s:=some (.fl (l.map .int))) (x2:=some (.int (stride:Int))) (x3:=some (.loc t)) (x4:=none) (x5:=some (.loc (AT [] [] c2 cl (T+3)++GA).length)) (x6:=none) (x11:=ρ3.1) (x12:=ρ3.2.1) (x13:=ρ3.2.2.1) (x14:=ρ3.2.2.2.1) (x15:=ρ3.2.2.2.2) (x18:=some (.loc (j+5))) (x19:=none) (x20:=none) (x21:=none) (x22:=none) (Grw.app (AT [] [] c2 cl (T+3)++GA) _ 6 _ (y9 _ _ k1)) hfn hasc;exact ⟨g9,e9.trans (congrArg (fun s=>some (Ro.ok (D.bool (clash new (ahL old (L.map Ln.n)))),s)) (aZ (AT [] [] c2 cl (T+3)++GA) [.dcti []] g9))⟩
 obtain ⟨ρ4,g10,e10⟩:=ZV d (A:=AT [] [] c2 cl (T+3)++GA) (t:=t) (L:=L) (s:=some (.fl (l.map .int))) (x2:=some (.int (stride:Int))) (x6:=none) (x11:=ρ3.1) (x12:=ρ3.2.1) (x13:=ρ3.2.2.1) (x14:=ρ3.2.2.2.1) (x15:=ρ3.2.2.2.2) (x16:=some (.int (old:Int))) (x17:=some (.int (new:Int))) (x18:=some (.loc (j+5))) (x19:=none) (x20:=none) (x21:=none) (x22:=none) (b:=clash new (ahL old (L.map Ln.n))) (g:=g9) rfl rfl (z9 _ _ ht) (y9 _ _ k2) hM hL4 hok;obtain ⟨g12,e12⟩:=s12 d (n:=42) (c2:=c2) (cl:=cl) (T:=T+3) (L:=L) (GA:=GA) (g:=g10) (old:=old) (new:=new) (stride:=stride) (j:=j) (s:=some (.fl (l.map .int))) (x3:=some (.loc t)) (x4:=some (.bool (clash new (ahL old (L.map Ln.n))||L.any (Ln.bad (Ak new stride (mvL old (L.map Ln.n))))))) (x6:=none) (x11:=ρ4.1) (x12:=ρ4.2.1) (x13:=ρ4.2.2.1) (x14:=ρ4.2.2.2.1) (x15:=ρ3.2.2.2.2) (x19:=ρ4.2.2.2.2.1) (x20:=ρ4.2.2.2.2.2.1) (x21:=ρ4.2.2.2.2.2.2.1) (x22:=ρ4.2.2.2.2.2.2.2) (y9 _ _ k5) hj hok hasc hfew (am hs2 (by decide)) hs1 (fun q=>absurd hnew (by rw[q];decide)) hmv hM
 have y12:=y9.trans (Grw.app GA g12);generalize hb:(clash new (ahL old (L.map Ln.n))||L.any (Ln.bad (Ak new stride (mvL old (L.map Ln.n)))))=b at*
 generalize GA++g12=G12 at*;have e11:ev (CC (d+25)) AD 48 (.ite (.loc 4) (.cst (.str [70,67])) (.loc 5)) (Rf (some (.fl (l.map .int))) (some (.int (stride:Int))) (some (.loc t)) (some (.bool b)) (some (.loc (AT [] [] c2 cl (T+3)++GA).length)) none ρ4.1 ρ4.2.1 ρ4.2.2.1 ρ4.2.2.2.1 ρ3.2.2.2.2 (some (.int (old:Int))) (some (.int (new:Int))) (some (.loc (j+5))) ρ4.2.2.2.2.1 ρ4.2.2.2.2.2.1 ρ4.2.2.2.2.2.2.1 ρ4.2.2.2.2.2.2.2 none) (AT [] [] c2 cl (T+3)++GA++ .dcti (CA (Ak new stride (mvL old (L.map Ln.n))) L [])::g10)=some (.ok (sel b (.str [70,67]) (.loc (AT [] [] c2 cl (T+3)++GA).length)),AT [] [] c2 cl (T+3)++GA++ .dcti (CA (Ak new stride (mvL old (L.map Ln.n))) L [])::g10):=CO rfl (by cases b<;>rfl)
 obtain ⟨_,⟨tl,rfl,htl⟩,G13,e13,x13⟩:=Kx d (n:=43) (t:=T+3) (t0:=[1]) (t1:=[]) (c2:=c2) (cl:=cl) (G:=G12) (m:=3) (ρ:=Rf (some (.fl (l.map .int))) (some (.int (stride:Int))) (some (.loc t)) (some (.bool b)) (some (sel b (.str [70,67]) (.loc (AT [] [] c2 cl (T+3)++GA).length))) none ρ4.1 ρ4.2.1 ρ4.2.2.1 ρ4.2.2.2.1 ρ3.2.2.2.2 (some (.int (old:Int))) (some (.int (new:Int))) (some (.loc (j+5))) ρ4.2.2.2.2.1 ρ4.2.2.2.2.2.1 ρ4.2.2.2.2.2.2.1 ρ4.2.2.2.2.2.2.2 none) (es:=[(.cst (.str [])),(.cst (.str [13])),(.cst (.str [32,13]))]) (l:=[.str [],.str [13],.str [32,13]]) (fun a=> ∃tl,a=D.str tl∧Kw tl) (by lia) rfl rfl rfl (by decide) (by decide) fun a m=>by
  rcases aj.mp m with rfl|m
  ·exact ⟨_,rfl,.inl rfl⟩
  ·rcases aj.mp m with rfl|m
   ·exact ⟨_,rfl,.inr (.inl rfl)⟩
   ·exact ⟨_,bA.mp m,.inr (.inr rfl)⟩
 have y13:=y12.trans x13;obtain ⟨g14,e14⟩:=s14 d (n:=35) (c2:=c2) (cl:=cl) (T:=T+4) (G:=G13) (tl:=tl) (s:=some (.fl (l.map .int))) (x2:=some (.int (stride:Int))) (x3:=some (.loc t)) (x4:=some (.bool b)) (x5:=some (sel b (.str [70,67]) (.loc (AT [] [] c2 cl (T+3)++GA).length))) (x11:=ρ4.1) (x12:=ρ4.2.1) (x13:=ρ4.2.2.1) (x14:=ρ4.2.2.2.1) (x15:=ρ3.2.2.2.2) (x16:=some (.int (old:Int))) (x17:=some (.int (new:Int))) (x18:=some (.loc (j+5))) (x19:=ρ4.2.2.2.2.1) (x20:=ρ4.2.2.2.2.2.1) (x21:=ρ4.2.2.2.2.2.2.1) (x22:=ρ4.2.2.2.2.2.2.2) htl (y13 _ _ k5) (y13 _ _ k1) hok hasc hfew;obtain ⟨σ',e15⟩:=JC d c2 cl (T+4) (by lia) (G13++g14)
 exact ⟨σ',by exact AX 1 27 Ru rfl rfl rfl rfl (AO e0 (BC e1 rfl rfl (BC (Bi (AJ Dv rfl)) rfl rfl (DX rfl e3 (AU (AK e4 rfl n4) (As (BC (Bi (AJ e5 (AJ e6 rfl))) rfl rfl (AO e7 (AO e8 (BC (Bi (AJ (HP (AJ i8 d8)) (AJ Dv rfl))) rfl rfl (AO e9 (DX rfl e10 (AO e11 (AU e12 (As (AO e13 (AU e14 (As (BQ e15 rfl)))))))))))))))))))⟩
end Mine
end
section
open PySem PySem.Calls PyProof.Rows PySem.Spec
namespace Mine
section
variable{P Ps:PI}{μ μs ν:List Addr}{h h':Heap}{ps:List Nat}{N:Nat}{σ:AA}
structure Li (P Ps:PI) (ps:List Nat) (N:Nat) (h:Heap) (μs μ:List Addr):Prop where
 pw:P.prog=Ps.prog∧P.w=Ps.w
 fn:Ps.fn=P.fn
 lv:Ps.lv=P.lv
 hp:Ps.hp=P.hp
 at_:∀(i:Nat) (a:Addr),μs[i]? =some a→μ[liP ps N i]? =some a
 off:∀a o,h.get? a=some o→(∀c:AI,o.cls≠c.kd)→a∉μs→a∉μ
theorem Xj(c:AI):Value.type "tuple"≠c.kd:=by
 cases c with
 |tab=>nofun
 |_=>exact fun e=>absurd (Value.type.inj e) (by decide)
theorem Xl(a:Addr)(c:AI):Value.ref a≠c.kd:=by cases c<;>nofun
theorem GQ{d:D}{l:List D}(h:nFs (d::l)=true):nF d=true∧nFs l=true:=bD.mp h
theorem AH.li(L:Li P Ps ps N h μs μ){v:dF}{d:D}(H:AH Ps μs h v d):nF d=true→AH P μ h v (liD ps N d):=
 AH.rec (motive_1:=fun v d _=>nF d=true→AH P μ h v (liD ps N d)) (motive_2:=fun vs ds _=>nFs ds=true→AE P μ h vs (Iy ps N ds))
  (fun _=>.none) (fun b _=>.bool b) (fun i t _=>.int i t) (fun l t ok _=>.str l t ok) (fun n t _ _=>.str _ t (GU n))
  (fun e c dt n q _ r f=>.tup e c dt (L.off _ _ e (fun k=>c▸Xj k) n) q (r f)) (fun e _=>.loc (L.at_ _ _ e)) (fun e _=>.fn (L.fn▸e)) (fun _ _ _ _ f=>xbf f) (fun _ _ _ f=>xbf f)
  (fun {a dx n} e m q _=>.obj (show h.get? a=some (PySem.W.instObj P.lv dx) from L.lv▸e) (L.off _ _ e (fun k=>Xl _ k) m) (L.at_ _ _ q)) (fun _=>.nil) (fun _ _ a b f=>.cons (a (GQ f).1) (b (GQ f).2)) H
theorem AE.li(L:Li P Ps ps N h μs μ){ds:List D}:∀{vs:List dF},AE Ps μs h vs ds→nFs ds=true→AE P μ h vs (Iy ps N ds):=by
 induction ds with
 |nil=>exact fun H _=>H.nil_e (C:=fun vs=>AE P μ h vs []) .nil
 |cons d ds ih=>exact fun H f=>H.cons_e (C:=fun vs=>AE P μ h vs (Iy ps N (d::ds))) fun v ws a b=>.cons (a.li L (GQ f).1) (ih b (GQ f).2)
theorem AQ.li(L:Li P Ps ps N h μs μ){a:Addr}{c:AI}(H:AQ Ps μs h a c)(f:nFC c=true):AQ P μ h a (liC ps N c):=by
 obtain ⟨prog,w,hb,mg,mb,fn,lv,ec,mu,cdOf,hp⟩:=P;obtain ⟨prog',w',hb',mg',mb',fn',lv',ec',mu',cdOf',hp'⟩:=Ps;obtain ⟨rfl,rfl⟩:=L.pw;haveI hhp:=L.hp;cases hhp;cases c with
 |lst l=>exact AQ.lst_e H fun vs n ho hb hv=>⟨vs,n,ho,hb,hv.li L f⟩
 |dcti l=>exact AQ.dcti_e H fun kvs hd hk hb hv=>⟨kvs,hd,by rw[az];exact hk,by rw[ak];exact hb,by rw[az,show (Prod.snd∘fun p:Int×D=>(p.1,liD ps N p.2))=liD ps N∘Prod.snd from rfl,←az,←DZ];exact hv.li L f⟩
 |dcts l=>exact AQ.dcts_e H fun kvs hd hk hb hv=>⟨kvs,hd,by rw[az];exact hk,by rw[ak];exact hb,by rw[az,show (Prod.snd∘fun p:List Nat×D=>(p.1,liD ps N p.2))=liD ps N∘Prod.snd from rfl,←az,←DZ];exact hv.li L f⟩
 |ins l=>exact aW H fun m H=>aW H fun vs H=>⟨m,vs,H.1,H.2.1,H.2.2.1,H.2.2.2.1,H.2.2.2.2.1,H.2.2.2.2.2.1,H.2.2.2.2.2.2.1,H.2.2.2.2.2.2.2.li L f⟩
 |tab l=>exact H
theorem AH.pl(hs:∀a∈μs,a∈μ)(hf:Ps.fn=P.fn){v:dF}{d:D}(H:AH P μ h v d)(hd:plD d=true):AH Ps μs h v d∧AH Ps μs h v (Cm d):=by
 cases d with
 |tup l=>
  obtain ⟨w,s,rfl⟩:=GJ hd;refine H.tup_e (C:=fun v=>AH Ps μs h v (.tup [.str w,.str s])∧AH Ps μs h v (Cm (.tup [.str w,.str s]))) fun a o vs j e c dt n q r=> ?_;obtain ⟨v1,ws,rfl,h1,r⟩:=r.cons_inv;obtain ⟨v2,ws,rfl,h2,r⟩:=r.cons_inv;cases r.nil_inv;obtain ⟨k1,rfl,ok1⟩:=h1.str_inv;obtain ⟨k2,rfl,ok2⟩:=h2.str_inv;haveI n':a∉μs:=fun m=>n (hs a m);refine ⟨.tup e c dt n' q (.cons (.str _ _ ok1) (.cons (.str _ _ ok2) .nil)),.tup e c dt n' q (.cons (.str _ _ ok1) (.cons ?_ .nil))⟩;cases hn:IH w s with
  |false=>exact .str _ _ ok2
  |true=>
   haveI hn:=(bD.mp (bD.mp hn).2);haveI z:AH Ps μs h (.str (txt (AB (BJ s))) k2) (.dig (BJ s)):=.dig _ _ (be.mp hn.1);rw[(NU _ _).mp hn.2]at z;exact z
 |str l=>exact H.str_e (C:=fun v=>AH Ps μs h v (.str l)∧AH Ps μs h v (.str l)) fun t ok=>⟨.str _ t ok,.str _ t ok⟩
 |int i=>exact H.int_e (C:=fun v=>AH Ps μs h v (.int i)∧AH Ps μs h v (.int i)) fun t=>⟨.int _ t,.int _ t⟩
 |fn i=>exact H.fn_e (C:=fun v=>AH Ps μs h v (.fn i)∧AH Ps μs h v (.fn i)) fun a e=>⟨.fn (hf.symm▸e),.fn (hf.symm▸e)⟩
 |_=>exact xbf hd
theorem AE.pl{f:D→D}{ds:List D}(hf:∀d v,plD d=true→AH P μ h v d→AH Ps μs h v (f d)):∀{vs:List dF},AE P μ h vs ds→ds.all plD=true→AE Ps μs h vs (ds.map f):=by
 induction ds with
 |nil=>exact fun H _=>H.nil_e (C:=fun vs=>AE Ps μs h vs []) .nil
 |cons d ds ih=>exact fun H k=>H.cons_e (C:=fun vs=>AE Ps μs h vs ((d::ds).map f)) fun v ws a b=>.cons (hf d v (bD.mp k).1 a) (ih b (bD.mp k).2)
theorem AQ.num(hs:∀a∈μs,a∈μ)(hf:Ps.fn=P.fn)(hpw:P.prog=Ps.prog∧P.w=Ps.w)(hhp:Ps.hp=P.hp){a:Addr}{c:AI}(H:AQ P μ h a c)(hc:plC c=true):AQ Ps μs h a (EW c):=by
 haveI v1:∀d v,plD d=true→AH P μ h v d→AH Ps μs h v (id d):=fun d v k H=>(H.pl hs hf k).1;haveI v2:∀d v,plD d=true→AH P μ h v d→AH Ps μs h v (Cm d):=fun d v k H=>(H.pl hs hf k).2;obtain ⟨prog,w,hb,mg,mb,fn,lv,ec,mu,cdOf,hp⟩:=P;obtain ⟨prog',w',hb',mg',mb',fn',lv',ec',mu',cdOf',hp'⟩:=Ps;obtain ⟨rfl,rfl⟩:=hpw;cases hhp;cases c with
 |lst l=>
  refine AQ.lst_e H fun vs n ho hb hv=>⟨vs,n,ho,hb,?_⟩;haveI hc:l.all plD=true:=hc;unfold D9;cases l.any Ug with
  |false=>exact hv.pl v2 hc
  |true=>
   haveI h2:∀m:List D,(∀d∈m,d∈l)→m.all plD=true:=fun m q=>ao.mpr fun d k=>ao.mp hc d (q d k);haveI z:=(hv.take 6).pl v2 (h2 _ fun d=>cS);haveI z2:=(hv.drop 6).pl v1 (h2 _ fun d=>c4);rw[bj]at z2;exact List.take_append_drop 6 vs▸z.append z2
 |dcti l=>exact AQ.dcti_e H fun kvs hd hk hb hv=>⟨kvs,hd,hk,hb,bj (l.map (·.2))▸hv.pl v1 (List.all_map.trans hc)⟩
 |dcts l=>exact AQ.dcts_e H fun kvs hd hk hb hv=>⟨kvs,hd,hk,hb,bj (l.map (·.2))▸hv.pl v1 (List.all_map.trans hc)⟩
 |tab l=>exact H
 |ins=>exact xbf hc
theorem ZX{c:AI}(h:plC c=true):liC ps N (EW c)=c∧nFC (EW c)=true:=by
 haveI hm:∀l:List D,l.all plD=true→l.map (liD ps N)=l:=fun l h=>by
  haveI z:=IQ (ps:=ps) (N:=N) (f:=id) (fun _=>Oq) l h;rwa[bj]at z
 haveI p1:∀d,plD d=true→nF d=true∧nF (Cm d)=true:=fun d h=>by
  cases d with
  |tup l=>
   obtain ⟨w,s,rfl⟩:=GJ h;refine ⟨rfl,?_⟩
   show nF (.tup [.str w,Uf (IH w s) s])=true
   cases IH w s<;>rfl
  |str=>exact ⟨rfl,rfl⟩
  |int=>exact ⟨rfl,rfl⟩
  |fn=>exact ⟨rfl,rfl⟩
  |_=>exact xbf h
 haveI p2:∀l:List D,(∀d∈l,nF d=true)→nFs l=true:=fun l=>by
  induction l with
  |nil=>exact fun _=>rfl
  |cons d l ih=>exact fun h=>bD.mpr ⟨h d (.head _),ih fun x m=>h x (.tail _ m)⟩
 cases c with
 |lst l=>
  haveI h:l.all plD=true:=h;refine ⟨congrArg AI.lst ((DZ ps N (D9 l)).trans (Ot h)),p2 _ fun d m=> ?_⟩;unfold D9 at m;cases q:l.any Ug with
  |false=>
   rw[q]at m;obtain ⟨x,hx,rfl⟩:=bT.mp m;exact (p1 x (ao.mp h x hx)).2
  |true=>
   rw[q]at m
   rcases bV.mp m with m|m
   ·obtain ⟨x,hx,rfl⟩:=bT.mp m;exact (p1 x (ao.mp h x (cS hx))).2
   ·exact (p1 d (ao.mp h d (c4 m))).1
 |dcti l=>
  haveI h:(l.all fun p=>plD p.2)=true:=h;refine ⟨congrArg AI.dcti ?_,p2 _ fun d m=> ?_⟩
  ·exact (cD fun p m=>by rw[Oq (ao.mp h p m)];rfl).trans (bj l)
  ·obtain ⟨x,hx,rfl⟩:=bT.mp m;exact (p1 _ (ao.mp h x hx)).1
 |dcts l=>
  haveI h:(l.all fun p=>plD p.2)=true:=h;refine ⟨congrArg AI.dcts ?_,p2 _ fun d m=> ?_⟩
  ·exact (cD fun p m=>by rw[Oq (ao.mp h p m)];rfl).trans (bj l)
  ·obtain ⟨x,hx,rfl⟩:=bT.mp m;exact (p1 _ (ao.mp h x hx)).1
 |tab l=>exact ⟨rfl,rfl⟩
 |ins=>exact xbf h
end
section
variable{P:PI}{μ:List Addr}{h:Heap}{σ:AA}
theorem Go{α:Type}{x y:α}:∀{l:List α} {i:Nat},l[i]? =some x→AW (AW l i y) i x=l
 | [],_,h=>xns h
 |a::l,0,h=>by (injection h with h;subst h);rfl
 |a::l,i+1,h=>congrArg (a:: ·) (Go (l:=l) h)
theorem Sto.swap(S:Sto P μ σ h){i:Nat}{c c':AI}(hi:σ[i]? =some c)(hc:∀a,AQ P μ h a c→AQ P μ h a c'):Sto P μ (AW σ i c') h:=by
 refine ⟨S.sys,S.base,S.fresh,S.nodup,by rw[Ct];exact S.len,S.pre,fun j a d hj hd=> ?_⟩
 rw[Bx]at hd;by_cases q:j=i∧i<σ.length
 ·rw[if_pos q]at hd
  (injection hd with hd;subst hd)
  exact hc a (S.cell j a c hj (q.1▸hi))
 ·rw[if_neg q]at hd;exact S.cell j a d hj hd
theorem AE.swap{d d':D}(hd:∀v,AH P μ h v d→AH P μ h v d'){ds:List D}:∀{vs:List dF} {k:Nat},AE P μ h vs ds→ds[k]? =some d→AE P μ h vs (AW ds k d'):=by
 induction ds with
 |nil=>exact fun _ e=>xns e
 |cons x ds ih=>
  intro vs k H e;cases k with
  |zero=>(injection e with e;subst e);exact H.cons_e (C:=fun vs=>AE P μ h vs (d'::ds)) fun v ws a b=>.cons (hd v a) b
  |succ k=>exact H.cons_e (C:=fun vs=>AE P μ h vs (x::AW ds k d')) fun v ws a b=>.cons a (ih b e)
theorem PD{w:List Nat}{n:Nat}{v:dF}(H:AH P μ h v (.tup [.str w,.dig n])):n<65530∧AH P μ h v (.tup [.str w,.str (AB n)]):=by
 refine H.tup_e (C:=fun v=>n<65530∧AH P μ h v (.tup [.str w,.str (AB n)])) fun a o vs j e c dt m q r=> ?_;obtain ⟨v1,ws,rfl,h1,r⟩:=r.cons_inv;obtain ⟨v2,ws,rfl,h2,r⟩:=r.cons_inv;cases r.nil_inv;exact h2.elim (fun v2=>o.data=.seq [v1,v2].toArray j→n<65530∧AH P μ h (.ref a) (.tup [.str w,.str (AB n)])) (fun t hn dt=>⟨hn,.tup e c dt m q (.cons h1 (.cons (.str _ t (GU n)) .nil))⟩) dt
theorem U7{w:List Nat}{n:Nat}(hn:n<65530){v:dF}(H:AH P μ h v (.tup [.str w,.str (AB n)])):AH P μ h v (.tup [.str w,.dig n]):=by
 refine H.tup_e (C:=fun v=>AH P μ h v (.tup [.str w,.dig n])) fun a o vs j e c dt m q r=> ?_;obtain ⟨v1,ws,rfl,h1,r⟩:=r.cons_inv;obtain ⟨v2,ws,rfl,h2,r⟩:=r.cons_inv;cases r.nil_inv;obtain ⟨t,rfl,_⟩:=h2.str_inv;exact .tup e c dt m q (.cons h1 (.cons (.dig n t hn) .nil))
theorem MZ{α:Type}{x y:α}{l:List α}{i:Nat}(h:l[i]? =some x):(AW l i y)[i]? =some y:=by
 rw[Bx,if_pos ⟨rfl,(ap.mp h).1⟩]
noncomputable def noS:Spec:=fun _ _ _ _=>none
theorem ZY{i k n:Nat}{l:List D}(hi:σ[i]? =some (.lst l))(hk:l[k]? =some (.tup [.str AZ,.str (AB n)]))(hn:n<65530):evF noS AD CM 4 19 [.loc i,.int (k:Int)] σ=some (.ok (.tup [.int (n:Int),.int ((k+1:Nat):Int)]),σ):=by
 haveI e36:evF noS AD CM 3 36 [.loc i,.int (k:Int)] σ=some (.ok (.tup [.str AZ,.str (AB n)]),σ):=by
  haveI e:ev (evF noS AD CM 2) AD 59 (.ite (.cmp (.loc 1) [.lt] [(.bi .len [(.loc 0)])]) (.idx (.loc 0) (.loc 1)) (.glob 10)) [some (.loc i),some (.int (k:Int))] σ=some (.ok (.tup [.str AZ,.str (AB n)]),σ):=CO (t:=true) (AK rfl (HP (AJ rfl (Ds hi))) (Do (Oo hk))) (Ao rfl rfl (DJ hi hk));rw[Kh (d:=1) rfl rfl (show CM 36=some ⟨2,2,DH⟩ from rfl) rfl]
  show (match exs (evF noS AD CM 2) AD 60 DH [some (.loc i),some (.int (k:Int))] σ with
  |some (.ret r,_,σ)=>some (.ok r,σ)
  |some (.nxt,_,σ)=>some (.ok .none,σ)
  |some (.ex c,_,σ)=>some (.ex c,σ)
  |_=>none:R)=_
  rw[show exs (evF noS AD CM 2) AD 60 DH [some (.loc i),some (.int (k:Int))] σ=_ from x_k (BQ e rfl)]
 refine aW (Gi (call:=evF noS AD CM 3) hn e36) fun ρ' e=> ?_;rw[Kh (d:=2) rfl rfl (show CM 19=some ⟨2,6,CJ⟩ from rfl) rfl]
 show (match exs (evF noS AD CM 3) AD 60 CJ [some (.loc i),some (.int (k:Int)),none,none,none,none] σ with
  |some (.ret r,_,σ)=>some (.ok r,σ)
  |some (.nxt,_,σ)=>some (.ok .none,σ)
  |some (.ex c,_,σ)=>some (.ex c,σ)
  |_=>none:R)=_
 rw[x_k e]
section
variable{α:Type}{p:α}{R:Prop}{d:D}
theorem PE{b:Bool}{r:Mine.R}{p:Ro×AA}(h:onB b r=some p):b=true∧r=some p:=by
 cases b with
 |true=>exact ⟨rfl,h⟩
 |false=>exact xns h
theorem Vc{as:List D}{f:D→D→Option α}(h:as2 as f=some p)(k:∀a b,as=[a,b]→f a b=some p→R):R:=by
 cases as with
 |nil=>exact xns h
 |cons a as=>cases as with
  |nil=>exact xns h
  |cons b as=>cases as with
   |nil=>exact k a b rfl h
   |cons=>exact xns h
theorem Xm{c:AI}{f:List D→Option α}(h:LB c f=some p)(k:∀l,c=.lst l→f l=some p→R):R:=by
 cases c with
 |lst l=>exact k l rfl h
 |_=>exact xns h
theorem U8{f:Nat→AI→Option α}(h:Gq σ d f=some p)(k:∀i c,d=.loc i→σ[i]? =some c→f i c=some p→R):R:=by
 cases d with
 |loc i=>exact aW (bP.mp h) fun c w=>k i c rfl w.1 w.2
 |_=>exact xns h
theorem Xn{f:Nat→Option α}(h:Yp d f=some p)(k:∀n:Nat,d=.int (n:Int)→f n=some p→R):R:=by
 cases d with
 |int i=>cases i with
  |ofNat n=>exact k n rfl h
  |negSucc=>exact xns h
 |_=>exact xns h
end
theorem Xo{α:Type}{p:α}{R:Prop}{d:D}{f:List Nat→Nat→Option α}(h:Yq d f=some p)(k:∀w n,d=.tup [.str w,.dig n]→f w n=some p→R):R:=by
 cases d with
 |tup l=>
  refine Vc h fun a b e h=> ?_;cases a with
  |str w=>cases b with
   |dig n=>exact k w n (congrArg D.tup e) h
   |_=>exact xns h
  |_=>exact xns h
 |_=>exact xns h
theorem Xp{d f:Nat}{as:List D}{p:Ro×AA}(h:S1 d f as σ=some p){R:Prop}(k:3≤d→f=19→∀(i j:Nat) (l:List D) (n:Nat),as=[.loc i,.int (j:Int)]→σ[i]? =some (.lst l)→l[j]? =some (.tup [.str AZ,.dig n])→p=(.ok (.tup [.int (n:Int),.int ((j+1:Nat):Int)]),σ)→R):R:=by
 haveI hb:=PE h;haveI hb1:=bD.mp hb.1;refine Vc hb.2 fun a b e h=>U8 h fun i c e1 hi h=>Xm h fun l e2 h=>Xn h fun j e3 h=>aW (bP.mp h) fun t w=> ?_;refine Xo w.2 fun w' n e4 h=> ?_;haveI hw:=PE h;exact k (au hb1.1) (bt hb1.2) i j l n (by simp only[e,e1,e3]) (e2▸hi) (by simp only[w.1,e4,(NU _ _).mp hw.1]) (aq.inj hw.2).symm
theorem Cx.le{A:dJ}{stk:List PySem.Env}{k j:Nat}(h:Cx A stk k)(hj:j≤k):Cx A stk j:=
 ⟨h.handled,am (ce (bW hj _) 5) h.depth,am (bW (Nat.mul_le_mul_left 100 (ce hj 1)) _) h.units,h.frames⟩
theorem ZZ(Z:Ce P (evF noS AD CM 4) 4):∀d,Ce P (S1 (d+1)) (d+2):=by
 intro d f ds σ r σ' he a hfn μ s A stk vs Q Er hc St T V hq;refine Xp he fun hd hf i k l n has hi hk e=> ?_;subst hf has;cases e;refine aW (St.lookup hi) fun b b_q=> ?_;haveI hb:=b_q.1;haveI hcell:=b_q.2
 have hn:n<65530:=AQ.lst_e hcell fun vs j _ _ hv=>(hv.get hk).elim fun v q=>(PD q.2).1;have hk2:(AW l k (.tup [.str AZ,.str (AB n)]))[k]? =some (.tup [.str AZ,.str (AB n)]):=MZ hk;have hi2:(AW σ i (.lst (AW l k (.tup [.str AZ,.str (AB n)]))))[i]? =some (.lst (AW l k (.tup [.str AZ,.str (AB n)]))):=MZ hi;have S2:=St.swap hi (c':=.lst (AW l k (.tup [.str AZ,.str (AB n)]))) fun a H=>AQ.lst_e H fun vs j ho hb hv=>⟨vs,j,ho,hb,hv.swap (fun v H=>(PD H).2) hk⟩;refine Z 19 _ _ _ _ (ZY hi2 hk2 hn) a hfn μ s A stk vs Q Er (hc.le (ba hd)) S2 T V fun v h' tk ν x S V'=>hq v h' tk ν x ?_ V';have S3:=S.swap hi2 (c':=.lst l) fun a H=>AQ.lst_e H fun vs j ho hb hv=>⟨vs,j,ho,hb,Go hk▸hv.swap (fun v H=>U7 hn H) hk2⟩;rwa[Go hi]at S3
end
noncomputable def setT (h:Heap) (a:Addr):Heap:=h.update a fun _=>PySem.W.tabObj #[]
theorem He{h:Heap}{a b:Addr}(q:b≠a):(setT h a).get? b=h.get? b:=by
 unfold setT Heap.update Heap.get?;simp only[dB];rw[if_neg (fun e=>q e.symm)]
theorem PF{h:Heap}{a:Addr}{o:Obj}(e:h.get? a=some o):(setT h a).get? a=some (PySem.W.tabObj #[]):=by
 unfold setT Heap.update Heap.get?;simp only[dB,if_true];unfold Heap.get? at e;cases q:h.objs[a]? with
 |none=>simp only[q]at e;exact xns e
 |some o=>rfl
noncomputable def Ky (h:Heap) (l:List Addr):Heap:=l.foldr (fun a h=>blank h a) h
theorem QU{h:Heap}{b:Addr}{l:List Addr}(m:b∈l):(Ky h l).get? b=none:=by
 induction l with
 |nil=>contradiction
 |cons a l ih=>
  by_cases q:b=a
  ·refine q▸ ?_;exact F5 _ _
  ·exact (DV q).trans (ih ((aj.mp m).resolve_left q))
theorem Dx{h:Heap}{b:Addr}:∀{l:List Addr},b∉l→(Ky h l).get? b=h.get? b
 | [],_=>rfl
 |a::l,m=>(DV fun q=>m (by refine q▸ ?_;exact .head _)).trans (Dx fun k=>m (.tail _ k))
@[irreducible] noncomputable def DL (h:Heap) (l:List Addr):Heap:=setT (setT (Ky h l) 937) 944
theorem J3{h:Heap}{l:List Addr}{b:Addr}(q1:b≠937)(q2:b≠944):(DL h l).get? b=(Ky h l).get? b:=by
 unfold DL;exact (He q2).trans (He q1)
theorem Np{h:Heap}{l:List Addr}(B4:∀b∈l,b≠937∧b≠944){o1 o2:Obj}(l1:h.get? 937=some o1)(l2:h.get? 944=some o2):(DL h l).get? 937=some (PySem.W.tabObj #[])∧(DL h l).get? 944=some (PySem.W.tabObj #[]):=by
 unfold DL;exact ⟨(He (by decide)).trans (PF ((Dx fun m=>(B4 _ m).1 rfl).trans l1)),PF ((He (by decide)).trans ((Dx fun m=>(B4 _ m).2 rfl).trans l2))⟩
theorem Ma{h base:Heap}{l:List PySem.Env}(H:h.FunFrames base l):∀env∈l,∀L,env.frame=some L→base.get? L=none:=by
 induction l with
 |nil=>exact fun _ m=>by contradiction
 |cons env l ih=>
  intro e m L q
  rcases aj.mp m with m|m
  ·refine aW H.2.1 fun L' w=>aW w fun o w=> ?_;haveI k:some L'=some L:=w.1.symm.trans (m▸q);exact aq.inj k▸w.2.1
  ·exact ih H.2.2 e m L q
theorem Mb{h base base':Heap}{l:List PySem.Env}(H:h.FunFrames base l)(k:∀env∈l,∀L,env.frame=some L→base'.get? L=none):h.FunFrames base' l:=by
 induction l with
 |nil=>trivial
 |cons env l ih=>exact ⟨H.1,H.2.1.imp fun L=>Exists.imp fun o w=>⟨w.1,k env (.head _) L w.1,w.2.2⟩,ih H.2.2 fun e m=>k e (.tail _ m)⟩
theorem Gp{α β:Type}{f:α→Option β}:∀{l:List α} {m:List β} {j:Nat},l.map f=m.map some→∀b,m[j]? =some b↔ ∃a,l[j]? =some a∧f a=some b:=by
 intro l m j h b;haveI e:=congrArg (·[j]?) h
 simp only[bN,bN]at e;constructor
 ·intro q;simp only[q]at e;refine aW (bG.mp e) fun a a_q=> ?_;haveI h1:=a_q.1;haveI h2:=a_q.2
  exact ⟨a,h1,h2⟩
 ·rintro ⟨a,h1,h2⟩
  simp only[h1]at e;refine aW (bG.mp e.symm) fun c c_q=> ?_;haveI h3:=c_q.1;haveI h4:=c_q.2
  rw[h3,←aq.inj (h4.trans h2)]
theorem Xq{μ:List Addr}{σ:AA}(hl:μ.length=σ.length)(ps:List Nat):∀(cs:List AI),ps.map (fun i=>σ[i]?)=cs.map some→∃μs:List Addr,ps.map (fun i=>μ[i]?)=μs.map some:=by
 induction ps with
 |nil=>exact fun _ _=>⟨[],rfl⟩
 |cons i ps ih=>
  intro cs h;cases cs with
  |nil=>contradiction
  |cons c cs=>
   have e:=(bI.inj h).1;refine aW (ih cs (bI.inj h).2) fun μs e2=>⟨μ[i]'(hl▸(ap.mp e).1)::μs,?_⟩;rw[an,an,e2,bk]
theorem QV{μ:List Addr}(hμ:μ.Nodup)(ps:List Nat):∀(μs:List Addr) (n:Nat),inc n ps→ps.map (fun i=>μ[i]?)=μs.map some→μs.Nodup∧∀a∈μs,∃i,n≤i∧μ[i]? =some a:=by
 induction ps with
 |nil=>
  intro μs n _ e;cases μs with
  |nil=>exact ⟨.nil,fun _ m=>by contradiction⟩
  |cons=>contradiction
 |cons i ps ih=>
  intro μs n h e;cases μs with
  |nil=>contradiction
  |cons a μs=>
   have e1:=(bI.inj e).1;have k:=ih μs (i+1) h.2 (bI.inj e).2;refine ⟨bp.mpr ⟨fun m=>aW (k.2 a m) fun j q=> ?_,k.1⟩,fun b m=> ?_⟩
   ·have w:=(List.getElem?_inj (ap.mp e1).1 hμ).mp (Eq.trans e1 q.2.symm);exact absurd q.1 (w▸Nat.not_succ_le_self i)
   ·rcases aj.mp m with m|m
    ·exact ⟨i,h.1,m▸e1⟩
    ·exact (k.2 b m).imp fun j q=>⟨ag h.1 (Nat.le_of_succ_le q.1),q.2⟩
theorem QW{P Ps:PI}{μ μs:List Addr}{h:Heap}{ps:List Nat}(hs:∀a∈μs,a∈μ)(hf:Ps.fn=P.fn)(hp:ps.map (fun i=>μ[i]?)=μs.map some){d' d:D}{v:dF}(e:liA ps d'=some d)(a:AH P μ h v d):AH Ps μs h v d':=by
 have plain:plD d'=true→some d'=some d→AH Ps μs h v d':=fun k q=>aq.inj q▸(a.pl hs hf (aq.inj q▸k)).1;cases d' with
 |loc n=>
  refine aW (bG.mp (show ps[n]?.map D.loc=some d from e)) fun k q=> ?_
  exact (q.2▸a:AH P μ h v (.loc k)).loc_e (C:=fun v=>AH Ps μs h v (.loc n)) fun b hb=>.loc ((Gp hp b).mpr ⟨k,q.1,hb⟩)
 |str l=>exact plain rfl e
 |int l=>exact plain rfl e
 |fn l=>exact plain rfl e
 |tup l=>
  have key:liA ps (.tup l)=(match plD (.tup l) with|true=>some (D.tup l)|false=>none):=rfl
  cases q:plD (.tup l) with
  |true=>simp only[q]at key;exact plain q (key.symm.trans e)
  |false=>simp only[q]at key;exact nomatch key.symm.trans e
 |_=>exact xns e
theorem Nq{P Ps:PI}{μ μs:List Addr}{h:Heap}{ps:List Nat}(hs:∀a∈μs,a∈μ)(hf:Ps.fn=P.fn)(hp:ps.map (fun i=>μ[i]?)=μs.map some)(as':List D):∀{as:List D} {vs:List dF},as'.map (liA ps)=as.map some→AE P μ h vs as→AE Ps μs h vs as':=by
 induction as' with
 |nil=>
  intro as vs e V;cases as with
  |nil=>exact V.nil_e (C:=fun vs=>AE Ps μs h vs []) .nil
  |cons=>contradiction
 |cons d' as' ih=>
  intro as vs e V;cases as with
  |nil=>contradiction
  |cons d as=>exact V.cons_e (C:=fun vs=>AE Ps μs h vs (d'::as')) fun v ws a b=>.cons (QW hs hf hp (bI.inj e).1 a) (ih (bI.inj e).2 b)
end Mine
end
section
open PySem PySem.Calls PyProof.Rows PySem.Spec PySem.W
namespace Mine
structure Two (P Q:PI) (h:Heap) (μ μs:List Addr):Prop where
 pw:P.prog=Q.prog∧P.w=Q.w
 fn:Q.fn=P.fn
 lv:Q.lv=P.lv
 ec:Q.ec=P.ec
 hp:Q.hp=P.hp
 mu:Q.mu <+: μs
 keep:∀b o,P.hb.get? b=some o→Q.hb.get? b=some o
 sub:∀b o,Q.hb.get? b=some o→h.get? b=some o
 gone:∀b∈μs,Q.hb.get? b=none
 stay:∀b o,h.get? b=some o→b∈μ→b∉μs→Q.hb.get? b=some o
section
variable{P P2:PI}{μ μs ν:List Addr}{h h':Heap}{ps:List Nat}{σ cs σ':AA}
theorem PG{l:List AI}{i:Nat}{f:AI→AI}{c:AI}(e:(l.map f)[i]? =some c):∃c0,l[i]? =some c0∧f c0=c:=by
 rw[bN]at e;exact bG.mp e
theorem QX(W:Two P P2 h μ μs)(St:Sto P μ σ h)(hs:∀a∈μs,a∈μ)(hnd:μs.Nodup)(hμs:ps.map (fun i=>μ[i]?)=μs.map some)(hcell:ps.map (fun i=>σ[i]?)=cs.map some)(hl:μs.length=cs.length)(hpl:cs.all plC=true):Sto P2 μs (cs.map EW) h:=by
 refine ⟨St.sys.imp fun o e=>W.keep _ _ e,W.sub,fun a m=>⟨W.gone a m,(St.fresh a (hs a m)).2⟩,hnd,by simp only[ak];exact hl,W.mu,fun i a c e1 e2=> ?_⟩
 refine aW (PG e2) fun c0 k=>aW ((Gp hμs a).mp e1) fun j q=>aW ((Gp hcell c0).mp k.1) fun j' q'=> ?_;haveI hj:j'=j:=aq.inj (q'.1.symm.trans q.1);exact k.2▸AQ.num hs W.fn W.pw W.hp (St.cell j a c0 q.2 (hj▸q'.2)) (ao.mp hpl c0 (bB k.1))
theorem TM(W:Two P P2 h μ μs)(St:Sto P μ σ h)(x:Ext μs ν h h')(hμs:ps.map (fun i=>μ[i]?)=μs.map some)(hl:μs.length=ps.length):Li P P2 ps σ.length h' (μs++ν) (μ++ν):=by
 refine ⟨W.pw,W.fn,W.lv,W.hp,fun i a e=> ?_,fun a o e hk m q=> ?_⟩
 ·rcases Nat.lt_or_ge i μs.length with q|q
  ·simp only[bS q]at e;refine aW ((Gp hμs a).mp e) fun j k=> ?_;simp only[liP,k.1];exact (bS (ap.mp k.2).1).trans k.2
  ·simp only[bZ q]at e;have hn:ps[i]? =none:=cR (hl▸q);simp only[liP,hn]
   show (μ++ν)[σ.length+(i - ps.length)]? =some a
   rw[←St.len,Ch,←hl];exact e
 ·refine (bV.mp q).elim (fun q=> ?_) fun q=>m (cO _ q);refine aW (List.mem_iff_getElem?.mp q) fun i e1=> ?_;have hi:i<σ.length:=St.len▸(ap.mp e1).1;refine aW (St.cell i a σ[i] e1 (bk hi)).cls fun o' k=>aW (x.live a o' k.1) fun o2 k2=> ?_;exact hk _ ((aq.inj (e.symm.trans k2.1))▸k2.2.trans k.2)
theorem Nr(W:Two P P2 h μ μs)(St:Sto P μ σ h)(hs:∀a∈μs,a∈μ)(x:Ext μs ν h h')(x':Ext μ ν h h')(L:Li P P2 ps σ.length h' (μs++ν) (μ++ν))(S:Sto P2 (μs++ν) (cs.map EW++σ') h')(hμs:ps.map (fun i=>μ[i]?)=μs.map some)(hcell:ps.map (fun i=>σ[i]?)=cs.map some)(hl:μs.length=cs.length)(hpl:cs.all plC=true)(hnf:σ'.all nFC=true):Sto P (μ++ν) (σ++σ'.map (liC ps σ.length)) h':=by
 haveI hl2:μs.length=(cs.map EW).length:=by simp only[ak];exact hl
 haveI hν:ν.length=σ'.length:=by
  haveI:=S.len;simp only[ae,ae,hl2]at this;exact Nat.add_left_cancel this
 refine ⟨St.sys,fun b o e=>S.base b o (W.keep b o e),fun a m=> ?_,?_,by simp only[ae,ae,ak,St.len,hν],St.pre.trans (List.prefix_append _ _),fun i a c e1 e2=> ?_⟩
 ·refine (bV.mp m).elim (St.fresh a) fun m=> ?_;haveI z:=S.fresh a (cO _ m);refine ⟨?_,z.2⟩;cases q:P.hb.get? a with
  |none=>rfl
  |some o=>exact nomatch z.1.symm.trans (W.keep a o q)
 ·exact cB.mpr ⟨St.nodup,(cB.mp S.nodup).2.1,fun a m b m2 e=>aW (St.live m) fun o ho=>(nomatch (x.new b m2).symm.trans (e▸ho:h.get? b=some o))⟩
 ·rcases Nat.lt_or_ge i σ.length with q|q
  ·simp only[bS (St.len▸q)]at e1;simp only[bS q]at e2;by_cases m:a∈μs
   ·refine aW (List.mem_iff_getElem?.mp m) fun j e3=>aW ((Gp hμs a).mp e3) fun i' k=> ?_;haveI hii:i'=i:=(List.getElem?_inj (ap.mp k.2).1 St.nodup).mp (k.2.trans e1.symm);haveI hcj:cs[j]? =some c:=(Gp hcell c).mpr ⟨i',k.1,hii▸e2⟩;haveI hp:=ao.mp hpl c (bB hcj);haveI hj:=(ap.mp e3).1;haveI k1:(cs.map EW++σ')[j]? =some (EW c):=(bS (hl2▸hj)).trans (by simp only[bN,hcj];rfl)
    haveI z:=(S.cell j a _ ((bS hj).trans e3) k1).li L (ZX (ps:=ps) (N:=σ.length) hp).2;rwa[(ZX hp).1]at z
   ·exact (St.cell i a c e1 e2).map x'.mv fun o e=>S.base a o (W.stay a o e (bB e1) m)
  ·simp only[bZ (St.len▸q),St.len]at e1;simp only[bZ q]at e2;refine aW (PG e2) fun c0 k=> ?_;haveI k2:(μs++ν)[μs.length+(i - σ.length)]? =some a:=(Ch _ _ _).trans e1;haveI k1:(cs.map EW++σ')[μs.length+(i - σ.length)]? =some c0:=by
    simp only[hl2];exact (Ch _ _ _).trans k.1
   exact k.2▸(S.cell _ a _ k2 k1).li L (ao.mp hnf c0 (bB k.1))
theorem QY(W:Two P P2 h μ μs)(Z:Ce P2 (evF S1 AD CM 20) 20){d f:Nat}{qs:List Nat}{as' as:List D}{r:Ro}(hS:EX d f qs as' as σ cs r σ'){a:Addr}(hfn:P.fn f=some a){s:dG}{A:dJ}{stk:List PySem.Env}{vs:List dF}{Q Er:dF→dG→Prop}(hh:s.heap=h)
  (hs:∀a∈μs,a∈μ) (hnd:μs.Nodup) (hμs:(0::1::qs).map (fun i=>μ[i]?)=μs.map some) (hfr:∀env∈stk,∀L,env.frame=some L→P2.hb.get? L=none)
  (hc:Cx A stk (d+1)) (St:Sto P μ σ s.heap) (T:B7 P μ stk s.heap) (V:AE P μ s.heap vs as) (hq:AY P μ (liR (0::1::qs) σ.length r) (σ++σ'.map (liC (0::1::qs) σ.length)) s Q Er):dH (model P.prog P.w) A (call (.ref a) vs) Q Er s:=by
 subst hh;have hcell:=hS.cells;have hnof:=bD.mp hS.nof;have hargs:=hS.args;have hrun:=hS.run;have hpl:=hS.plain;have hdeep:=hS.deep;generalize 0::1::qs=ps at*;have hlen1:μs.length=ps.length:=by have:=congrArg bX hμs;simp only[ak,ak]at this;exact this.symm
 have hlen2:μs.length=cs.length:=by have:=congrArg bX hcell;simp only[ak,ak]at this;exact hlen1.trans this
 have T2:B7 P2 μs stk s.heap:=⟨Mb T.1 hfr,fun env he L hL=>⟨fun q=>(T.2 env he L hL).1 (hs _ q),(T.2 env he L hL).2⟩⟩;simp only[W.pw.1,W.pw.2];have big:∀h' ν,Ext μs ν s.heap h'→Sto P2 (μs++ν) (cs.map EW++σ') h'→Ext μ ν s.heap h'∧Li P P2 ps σ.length h' (μs++ν) (μ++ν)∧Sto P (μ++ν) (σ++σ'.map (liC ps σ.length)) h':=fun h' ν x S=>by
  have x':Ext μ ν s.heap h':=⟨fun a o e m=>x.keep a o e fun q=>m (hs a q),x.live,x.new⟩;have L:=TM W St x hμs hlen1;exact ⟨x',L,Nr W St hs x x' L S hμs hcell hlen2 hpl hnof.2⟩
 refine Z f as' _ _ _ hrun a (W.fn▸hfn) μs s A stk vs Q Er (hc.le (Nat.le_succ_of_le hdeep)) (QX W St hs hnd hμs hcell hlen2 hpl) T2 (Nq hs W.fn hμs as' hargs V) ?_;cases r with
 |ok d0=>exact fun v h' tk ν x S V'=>let b:=big h' ν x S;hq v h' tk ν b.1 b.2.2 (V'.li b.2.1 hnof.1)
 |ex c=>
  intro e h' tk ν x S X;have b:=big h' ν x S;refine hq e h' tk ν b.1 b.2.2 ?_;have hn:∀b,s.heap.get? b=none→b∉μs++ν→b∉μ++ν:=fun b e m q=>(bV.mp q).elim (fun q=>(St.live q).elim fun o ho=>(nomatch e.symm.trans ho)) fun q=>m (cO _ q);obtain ⟨oe,vs,dx,m,t,h1,h2,h3,h4,h5,h6,h7,h8,h9,h10,h11⟩:=X;refine ⟨oe,vs,dx,m,t,h1,W.ec▸h2,h3,h4,h5,h6,h7,h8,⟨hn _ h8.2 h9.1,hn _ h8.1 h9.2⟩,h10,h11.imp id fun ⟨T,oT,ts,k1,k2,k3,k4,k5,k6⟩=>⟨T,oT,ts,k1,⟨k2.1,hn _ k2.1 k2.2⟩,k3,k4,k5,k6⟩⟩
end
section
variable{prog:dP}{w:dN}{h:Heap}{mg mb:Str→Option dF}{K:Frag}
theorem In0.move(I:In0 prog w h mg mb K){h2:Heap}(k:∀b o,(PX prog w h mg mb).hb.get? b=some o→h2.get? b=some o)(t1:h2.get? 937=some (tabObj #[]))(t2:h2.get? 944=some (tabObj #[])):In0 prog w h2 mg mb K:=by
 have ns:∀{a:Addr} {m:Str→Option dF},(PX prog w h mg mb).hb.Ns a m→h2.Ns a m:=fun ⟨o,es,ep,e,r⟩=>⟨o,es,ep,k _ _ e,r⟩;refine {X:=fun a o e=>k a o (I.Xb a o e),kok:=I.kok,kx:=I.kx,g:=ns I.gl,b:=ns I.bl,lim:=let ⟨mc,n,q⟩:=I.limb;⟨mc,ns n,q⟩,bi:=I.bi,bmain:= ?_,sys:=let ⟨mm,q⟩:=I.sys;⟨mm,ns (Ob (by decide) (by decide) q)⟩,t1:=t1,t2:=t2,file:=I.file,top:=I.top}
 refine aW I.bmain fun bm bm_q=> ?_;refine aW bm_q fun ob ob_q=> ?_;haveI h1:=ob_q.1;haveI h2:=ob_q.2.1;haveI h3:=ob_q.2.2.1;haveI h4:=ob_q.2.2.2.1;haveI h5:=ob_q.2.2.2.2.1;haveI h6:=ob_q.2.2.2.2.2
 have ne:∀a ps,h.get? a=some (tabObj ps)→bm≠a:=fun a ps e q=>by
  rw[←q,h3]at e;have:=aq.inj e;rw[this]at h4;contradiction
 exact ⟨bm,ob,h1,h2,k _ _ ((DO (ne _ _ I.t1) (ne _ _ I.t2)).trans h3),h4,h5,h6⟩
theorem Xr(h h2:Heap):(PX prog w h2 mg mb).fn=(PX prog w h mg mb).fn∧(PX prog w h2 mg mb).lv=(PX prog w h mg mb).lv∧(PX prog w h2 mg mb).ec=(PX prog w h mg mb).ec∧(PX prog w h2 mg mb).hp=(PX prog w h mg mb).hp:=⟨rfl,rfl,rfl,rfl⟩
theorem In0.small(I:In0 prog w h mg mb K){d f:Nat}{qs:List Nat}{as' as:List D}{σ cs:AA}{r:Ro}{σ':AA}(hS:EX d f qs as' as σ cs r σ'){a:Addr}(hfn:(PX prog w h mg mb).fn f=some a){μ:List Addr}{s:dG}{A:dJ}{stk:List PySem.Env}{vs:List dF}{Q Er:dF→dG→Prop}
  (hc:Cx A stk (d+1)) (St:Sto (PX prog w h mg mb) μ σ s.heap) (T:B7 (PX prog w h mg mb) μ stk s.heap) (V:AE (PX prog w h mg mb) μ s.heap vs as) (hq:AY (PX prog w h mg mb) μ (liR (0::1::qs) σ.length r) (σ++σ'.map (liC (0::1::qs) σ.length)) s Q Er):dH (model prog w) A (call (.ref a) vs) Q Er s:=by
 have hinc:inc 0 (0::1::qs):=⟨bJ _,bJ _,hS.two⟩;refine aW (Xq St.len _ _ hS.cells) fun μs hμs=> ?_;have hni:=QV St.nodup _ _ 0 hinc hμs;have hm0:([944,937]:List Addr) <+: μs:=by
  refine aW St.pre fun μ0 hμ0=> ?_;rw[←hμ0]at hμs;clear hni
  match μs,hμs with
  |x::y::rest,e=>
   have e1:=aq.inj (bI.inj e).1;have e2:=aq.inj (bI.inj (bI.inj e).2).1;exact ⟨rest,e1▸e2▸rfl⟩
 have hs:∀a∈μs,a∈μ:=fun a m=>(hni.2 a m).elim fun i q=>bB q.2;have m937:937∈μs:=hm0.subset (.tail _ (.head _));have m944:944∈μs:=hm0.subset (.head _);have hfr:∀env∈stk,∀L,env.frame=some L→L∉μ:=fun env he L hL=>(T.2 env he L hL).1;obtain ⟨bl,B1,B2,B3,B4⟩:∃bl:List Addr,A4 ((∀b∈bl,b∈μs∨ ∃env∈stk,env.frame=some b)) ((∀b∈μs,b≠937→b≠944→b∈bl)) ((∀env∈stk,∀L,env.frame=some L→L∈bl)) (∀b∈bl,b≠937∧b≠944):=by
  refine ⟨μs.filter (fun b=>decide (b≠937∧b≠944))++stk.filterMap (·.frame),fun b m=> ?_,fun b m q1 q2=>List.mem_append_left _ (cz.mpr ⟨m,decide_eq_true ⟨q1,q2⟩⟩),fun env he L hL=>cO _ (cU.mpr ⟨env,he,hL⟩),fun b m=> ?_⟩
  ·exact (bV.mp m).imp (fun m=>(cz.mp m).1) fun m=>cU.mp m
  ·refine (bV.mp m).elim (fun m=>of_decide_eq_true (cz.mp m).2) fun m=>aW (cU.mp m) fun env k=>⟨fun q=>hfr env k.1 b k.2 (q▸hs _ m937),fun q=>hfr env k.1 b k.2 (q▸hs _ m944)⟩
 have get2:∀b,b∉bl→b≠937→b≠944→(DL s.heap bl).get? b=s.heap.get? b:=fun b m q1 q2=>(J3 q1 q2).trans (Dx m);have apart:∀b o,(DW h).get? b=some o→b∉bl∧b≠937∧b≠944:=fun b o e=>by
  refine ⟨fun m=> ?_,fun q=> ?_,fun q=> ?_⟩
  ·have z:(DW h).get? b=none:=(B1 b m).elim (fun m=>(St.fresh b (hs b m)).1) fun q=>q.elim fun env k=>Ma T.1 env k.1 b k.2;exact nomatch z.symm.trans e
  ·exact nomatch (show (DW h).get? b=none by refine q▸ ?_;exact Kc h).symm.trans e
  ·exact nomatch (show (DW h).get? b=none by refine q▸ ?_;exact Kd h).symm.trans e
 have keep:∀b o,(DW h).get? b=some o→(DL s.heap bl).get? b=some o:=fun b o e=>(get2 b (apart b o e).1 (apart b o e).2.1 (apart b o e).2.2).trans (St.base b o e);refine aW (St.live (hs _ m937)) fun o1 l1=> ?_;refine aW (St.live (hs _ m944)) fun o2 l2=> ?_;have ht:=Np B4 l1 l2;have I2:In0 prog w (DL s.heap bl) mg mb K:=I.move keep ht.1 ht.2;have none2:∀b,b∈bl→(DW (DL s.heap bl)).get? b=none:=fun b m=>(DO (B4 b m).1 (B4 b m).2).trans ((J3 (B4 b m).1 (B4 b m).2).trans (QU m));have base2:∀b,b∉bl→b≠937→b≠944→(DW (DL s.heap bl)).get? b=s.heap.get? b:=fun b m q1 q2=>(DO q1 q2).trans (get2 b m q1 q2);have W:Two (PX prog w h mg mb) (PX prog w (DL s.heap bl) mg mb) s.heap μ μs:=by
  have e:=Xr (prog:=prog) (w:=w) (mg:=mg) (mb:=mb) h (DL s.heap bl);refine ⟨⟨rfl,rfl⟩,e.1,e.2.1,e.2.2.1,e.2.2.2,hm0,fun b o e=>(DO (apart b o e).2.1 (apart b o e).2.2).trans (keep b o e),fun b o e=> ?_,fun b m=> ?_,fun b o e m q=> ?_⟩
  ·have q1:b≠937:=fun q=>(nomatch (show (DW (DL s.heap bl)).get? b=none by refine q▸ ?_;exact Kc _).symm.trans e)
   have q2:b≠944:=fun q=>(nomatch (show (DW (DL s.heap bl)).get? b=none by refine q▸ ?_;exact Kd _).symm.trans e)
   exact (base2 b (fun m=>(nomatch (none2 b m).symm.trans e)) q1 q2).symm.trans e
  ·by_cases q1:b=937
   ·refine q1▸ ?_;exact Kc _
   ·by_cases q2:b=944
    ·refine q2▸ ?_;exact Kd _
    ·exact none2 b (B2 b m q1 q2)
  ·exact (base2 b (fun k=>(B1 b k).elim q fun z=>z.elim fun env k=>hfr env k.1 b k.2 m) (fun z=>q (z▸m937)) fun z=>q (z▸m944)).trans e
 have Z4:=KP I2.base (S:=noS) (fun d f ds σ r σ' e=>xns e) 4 4 (bJ _);exact QY W (KP I2.base (ZZ Z4) 20 20 (bJ _)) hS hfn rfl hs hni.1 hμs (fun env he L hL=>none2 L (B3 env he L hL)) hc St T V hq
set_option tactic.hygienic true in
theorem Xu{d f:Nat}{as:List D}{σ:AA}{p:Ro×AA}(h:S0 d f as σ=some p):Ex2 fun qs as'=> smallR d f qs as' as σ=some p:=by
 cases q1:Nat.beq f 62 with
 |true=>cases bt q1;exact ⟨_,_,h⟩
 |false=>cases q2:Nat.beq f 66 with
  |true=>cases bt q2;exact ⟨_,_,h⟩
  |false=>cases q3:Nat.beq f 35 with
   |true=>cases bt q3;exact ⟨_,_,(PE h).2⟩
   |false=>cases q4:Nat.beq f 67 with
    |true=>cases bt q4;exact ⟨_,_,(PE h).2⟩
    |false=>delta S0 at h;simp only[q1,q2,q3,q4,cond_false]at h;exact xns h
theorem In0.table(I:In0 prog w h mg mb K):∀d,Ce (PX prog w h mg mb) (S0 (d+1)) (d+2):=by
 intro d f ds σ r σ' he a hfn μ s A stk vs Q Er hc St T V hq;obtain ⟨qs,as',e⟩:=Xu he;obtain ⟨cs,r',σ2,hS,rfl,rfl⟩:=NS e;exact I.small hS hfn hc St T V hq
theorem In0.call(I:In0 prog w h mg mb K):Ce (PX prog w h mg mb) (CC 30) 30:=by
 unfold CC;exact KP I.base I.table 30 30 (bJ _)
end
theorem J4{P:PI}{μ:List Addr}{h:Heap}:∀{vs:List dF} {ns:List Int},IntsAre vs ns→AE P μ h vs (ns.map .int)
 |_,_,.nil=>.nil
 |_,_,.cons n t r=>.cons (.int n t) (J4 r)
theorem Mc:∀{vs:List dF} {ns:List Int},IntsAre vs ns→vs.length=ns.length
 |_,_,.nil=>rfl
 |_,_,.cons n t r=>by simp[Mc r]
theorem PH{P:PI}{μ ν:List Addr}{σ':AA}{h h':Heap}{i:Nat}{a:Addr}(S:Sto P (μ++ν) σ' h')(x:Ext μ ν h h')(hi:μ[i]? =some a)(e:h.get? a=some (tabObj #[])):∃ps,h'.get? a=some (tabObj ps):=by
 have hlt:i<μ.length:=(ap.mp hi).1;have hi':(μ++ν)[i]? =some a:=by rw[bS hlt];exact hi
 have hlt':i<σ'.length:=by rw[←S.len];exact (ap.mp hi').1
 have hc:=S.cell i a σ'[i] hi' (bk hlt');obtain ⟨o',h1,h2⟩:=x.live a _ e;have h2:o'.cls=.none:=h2;revert hc;generalize σ'[i]=c;intro hc;cases c with
 |tab l=>exact hc.imp fun ps w=>w.1
 |_=>
  exact aW hc.cls fun o w=>by
   haveI z:=h2.symm.trans ((congrArg Obj.cls (aq.inj (h1.symm.trans w.1))).trans w.2)
   contradiction
theorem TN{prog:dP}{w:dN}{h h':Heap}{mg mb:Str→Option dF}{K:Frag}(I:In0 prog w h mg mb K){ν:List Addr}{σ':AA}(x:Ext [944,937] ν h h')(S:Sto (PX prog w h mg mb) ([944,937]++ν) σ' h'):OldK h h':=by
 obtain ⟨p1,e1⟩:=PH S x (i:=0) rfl I.t2;obtain ⟨p2,e2⟩:=PH S x (i:=1) rfl I.t1;refine ⟨fun b o e=> ?_,fun b o e=>let ⟨o',q,_⟩:=x.live b o e;⟨o',q⟩⟩
 by_cases q1:b=944
 ·subst q1;rw[I.t2]at e;cases e;exact .inr (.inl ⟨((codeHd_of_K I.X I.kx.hd1).tab I.t2).isCodeTable,rfl,#[],p1,rfl,by rw[e1];simp⟩)
 by_cases q2:b=937
 ·subst q2;rw[I.t1]at e;cases e;exact .inr (.inl ⟨((codeHd_of_K I.X I.kx.hd2).tab I.t1).isCodeTable,rfl,#[],p2,rfl,by rw[e2];simp⟩)
 exact .inl (S.base b o ((DO q2 q1).trans e))
end Mine
namespace Mine
theorem U9{prog:dP}{w:dN}{s:dG}{mg mb:Str→Option dF}{K:Frag}(I:In0 prog w s.heap mg mb K){L:Addr}{vs:List dF}{ns:List Int}(hL:s.heap.IsList L vs.toArray)(hI:IntsAre vs ns)(hn:ns.length≤63){Q Er:dF→dG→Prop}
  (hq:∀h' tk,OldK s.heap h'→Q (.bool true) {s with heap:=h',toks:=tk}):dH (model prog w) callerA (call (.ref 947) [.ref L]) Q Er s:=by
 obtain ⟨σ',e⟩:=TL 4 ns;have hlen:=Mc hI;have hL':(PX prog w s.heap mg mb).hb.IsList L vs.toArray:=by
  obtain ⟨o,h1,h2,h3⟩:=hL;have ne:∀a,s.heap.get? a=some (tabObj #[])→L≠a:=fun a e q=>by
   rw[←q,h1]at e;cases e;cases h2
  exact ⟨o,(DO (ne _ I.t1) (ne _ I.t2)).trans h1,h2,h3⟩
 refine I.call 73 _ _ _ σ' e 947 rfl [944,937] s callerA [] [.ref L] Q Er ⟨rfl,by decide+kernel,by decide+kernel,rfl⟩ I.sto ⟨trivial,fun _ m=>nomatch m⟩ (.cons (.fl hL' (by omega) (J4 hI)) .nil) ?_
 intro v h' tk ν x S V;cases V;exact hq h' tk (TN I x S)
set_option tactic.hygienic true in
theorem holds:PySem.Challenge.rw_pf0029_01.Holds:=head (by
 intro w s₀ s₁ mg mb G Y a o pm cd doc dV kV ho hd' hcd hD hmg hg args vals as hpre hlay hrd hwl hlo;obtain ⟨⟨K,X,kok,kx⟩,X2⟩:=Y;clear hcd hd' ho hD;refine Ground.open G ?_;intro T B D TE TW;have I:In0 PySem.Challenge.rw_pf0029_01.row.prog w s₁.heap mg mb K:={
  X:=X
  kok:=kok
  kx:=kx
  g:=T.g
  b:=T.b
  lim:=T.nolimit
  bi:=T.builtins
  bmain:=T.bmain
  sys:=let ⟨mm,h1,_⟩:=(T.seer (by kernel_rfl)).mods;⟨mm,h1⟩
  t1:=X2 937 (by simp)
  t2:=X2 944 (by simp)
  file:=by kernel_rfl
  top:=by kernel_rfl}
 have ha:a=947:=by
  have q:=mg_of I.X I.g (C4 I.kx.law);have dn:R9.1.name=("law":Str):=by kernel_rfl
  rw[dn,q]at hmg;cases hmg;rfl
 clear G B D TE TW X X2 T hmg;subst ha
 wrow_args hpre hlay hrd hwl hlo
 rename_i hL _ _ _ hI _ hc _;refine U9 I hL hI (by omega) fun h' tk K=> ?_
 refine ⟨.inl ⟨.bool true,.bool true,[],rfl,raisesW_false ?_,.bool true,?_,unshared_nil⟩,K,rfl,.of_eq hg⟩
 ·wrow_none_raised
 ·wrow_post)
end Mine
end
theorem PySem.Challenge.cw_pf0029_01_holds : PySem.Challenge.rw_pf0029_01.Holds :=
 Mine.holds
