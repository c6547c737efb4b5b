import PyProof.Rows.All
import Wide.BridgeG
import Wide.Claim
import Wide.Tac
import Wide.OfTm
import Wide.Pins
import OpenK.KMake
import OpenK.KWalk
import OpenK.KGet
import OpenK.KCall
import OpenK.KCls
import OpenK.Peek
import KE.KSlice
import KE.KRevSl
import Wide.FinOn
import PyProof.CallStr
import Lean
import PySem.Challenge.RW_xm0251_01
set_option Elab.async false
set_option maxRecDepth 1000000
set_option maxHeartbeats 8000000
set_option genInjectivity false
set_option genSizeOf false
set_option genCtorIdx false
set_option tactic.hygienic false
set_option linter.all false
noncomputable section
namespace Mine
open PySem PySem.W PyProof.Rows Calls SeqAt
def b':=@wpAny_bind
def df:=@Nat.le_trans
def dv:=@absurd
def ej:=@congrArg
def ep:=@if_pos
def ez:=@wpAny_pure
def fm:=@if_neg
def gs:=@decide_eq_true
def g5:=@List.mem_map
def g6:=@Nat.le_refl
def g7:=@beq_iff_eq
def hI:=@decide_eq_false
def hL:=@Nat.zero_le
def hQ:=@Bool.and_eq_true
def hR:=@List.append_nil
def hW:=@List.find?_cons
def iZ:=@List.length_cons
def i1:=@Nat.lt_of_lt_of_le
def ko:=@List.getElem?_map
def k4:=@List.isEmpty_iff
def lh:=@List.map_append
def lS:=@Option.isNone_iff_eq_none
def mc:=@List.getElem?_append_left
def m5:=@beq_self_eq_true
def nk:=@Nat.le_of_ble_eq_true
def ny:=@wpAny_holding
def nz:=@decide_eq_true_iff
def rk:=@Nat.lt_of_le_of_lt
def ro:=@Nat.le_add_right
def ru:=@List.lookup_cons
def sv:=@beq_eq_false_iff_ne
def tu:=@Nat.le_succ
def vu:=@Array.length_toList
def wi:=@Nat.succ_le_succ
def w4:=@List.mem_singleton
def xb:=@Heap.SameBut.update
def y5:=@List.length_singleton
def z':=@Nat.le_of_lt
def AZ:=@Bool.not_eq_true'
def DZ:=@List.append_assoc
def D':=@Array.getElem?_toList
def Eb:=@Nat.le_add_left
def E':=@List.all_eq_true
def HG:=@List.map_cons
def H':=@decide_eq_true_eq
def JA:=@List.zip_cons_cons
def JB:=@Nat.lt_irrefl
def JC:=@List.mem_append
def JD:=@Bool.decide_and
def JE:=@Nat.ne_of_lt
def JF:=@Classical.byContradiction
def JG:=@List.mem_filter
def JH:=@Bool.eq_iff_iff
def JI:=@of_decide_eq_true
def JJ:=@Nat.ne_of_gt
def JK:=@Nat.le_max_left
def JL:=@List.length_set
def JM:=@Nat.mod_lt
def JN:=@List.getElem?_set_ne
def JO:=@List.getElem?_append_right
def JP:=@Nat.le_max_right
def JQ:=@List.getElem?_eq_some_iff
def JR:=@List.map_congr_left
def JS:=@List.any_cons
def JT:=@Option.isSome_iff_exists
def JV:=@List.nodup_cons
def Kv:=@Bool.or_eq_true
def KA:=@List.getElem?_set_self
def KB:=@List.length_replicate
def KC:=@List.length_filter_le
def KD:=@Nat.not_lt
def KF:=@Nat.zero_max
def KG:=@Bool.eq_false_iff
def KH:=@Nat.lt_succ_self
def KI:=@List.map_map
def KJ:=@Int.ofNat_le
end Mine
section
open PySem PySem.W PyProof.Rows
set_option maxRecDepth 1000000
namespace Mine
noncomputable def zU:Str:=⟨#[60,109,111,100,117,108,101,62]⟩
noncomputable def Ct:Str:=⟨#[47,99,108,97,105,109,47,99,117,116,46,112,121]⟩
noncomputable def Ia:Str:=⟨#[95,95,109,97,105,110,95,95]⟩
noncomputable def zS:Obj:={cls:= .type "tuple",data:= .seq #[]}
noncomputable def Ah:Obj:={cls:= .none,data:= .fields #[]}
def Br:Obj:={cls:= .type "code",data:= .fields #[.str zU 182,.str zU 183,.str Ct 184,.int 1 0,.int 0 0,.int 0 0,.int 0 0,.int 0 0,.ref 11,.bool false,.int 181 0,.ref 12,.none,.none,.none,.none,.int 185 0,.int 1 0,.str Ct 186]}
def AW:Obj:={cls:= .type "frame",slots:= #[some (.ref 13),some (.ref 3),some (.ref 3),none,some (.str Ia 164),none,some (.ref 0)]}
def Nt (P:Params):BT:=
 .node (boot_o_0 P)
   (.node (boot_o_1 P)
     (.node (boot_o_3 P) (.node (boot_o_7 P) .nil .nil) (.node zS .nil .nil))
     (.node (boot_o_5 P) (.node (boot_o_9 P) .nil .nil) (.node Br .nil .nil)))
   (.node (boot_o_2 P)
     (.node (boot_o_4 P) (.node (boot_o_8 P) .nil .nil) (.node Ah .nil .nil))
     (.node (boot_o_6 P) (.node (boot_o_10 P) .nil .nil) (.node AW .nil .nil)))
noncomputable def vy (p:Program):Env:={scope:=p.main.scope,locals:=mainNs,globals:=mainNs,cells:= [],code:= .ref 13,frame:=some 14}
noncomputable def kK:Pos:=⟨0,0,0,0⟩
def iu (p:Program):Code:= .body (behindTheImports p) (vy p)
def uc (w:World) (os:OsState):SharedT:=⟨Nt w.params,15,{},#[],{},187,os⟩
def CV (p:Program):Thread:=piecesOf (behindTheImports p) (vy p) (iu p) kK [topFrame kK]
end Mine
end
section
open PySem PySem.W PyProof.Rows
set_option maxRecDepth 1000000
namespace Mine
noncomputable abbrev pw:=PySem.Challenge.pw_xm0251_01
def Pv (P:Params):Heap:={objs:= #[boot_o_0 P,boot_o_1 P,boot_o_2 P,boot_o_3 P,boot_o_4 P,boot_o_5 P,boot_o_6 P,boot_o_7 P,boot_o_8 P,boot_o_9 P,boot_o_10 P,zS,Ah,Br,AW]}
def sB (w:World) (os:OsState):Shared:=⟨Pv w.params,#[],{},187,os⟩
theorem EC:opening pw=plainProg pw.main.scope.names:=by kernel_rfl
theorem F7:∀s,fenceModules? pw s=some s:=λs=>by kernel_rfl
theorem MC (N:Nat) (j:Nat.ble 600 N=true):∀w:World,(fencedOpening treeTable pw w N).map (λs=>(s.heap,s.gens,s.drawn,s.toks))=some (boot_heap w.params,Array.mk [],boot_drawn,boot_toks):=
 boot_open EC j F7
theorem Qi (w:World) (os:OsState):topGo treeTable pw w 11 (some (.ref 6)) 12 ⟨boot_heap w.params,#[],boot_drawn,boot_toks,os⟩ (topStub pw)=
 some (sB w os,⟨denote treeTable (iu pw),iu pw,kK,[topFrame kK]⟩):=by kernel_rfl
theorem Na (w:World) (os:OsState):segRun treeTable pw w 11 (some (.ref 6)) 1 1 (sB w os) (blockOf (behindTheImports pw) (vy pw) (iu pw) kK [topFrame kK])=
 some (.next,(uc w os).abs,iu pw,kK):=by kernel_rfl
theorem ON (w:World) (s:Shared) (j:Pos):topRun treeTable pw w 11 (some (.ref 6)) 2 s ⟨doneF .next,iu pw,j,[topFrame kK]⟩=some s:=by kernel_rfl
theorem DB (w:World):((boot_heap w.params).isNs mainGlobals&&(#[]:Array GenState).size==0,(boot_heap w.params).objs.size,(boot_heap w.params).nsMap mainGlobals "__annotations__")=(true,11,some (.ref 6)):=by kernel_rfl
end Mine
end
section
open PySem PySem.W PyProof.Rows
set_option maxRecDepth 1000000
namespace Mine
noncomputable def Jc:Str:=Str.ofString "law"
def qV:Program:=view pw [160]
def gN:List Str:=pw.boundNames.filter λn=> !(n==Jc)
def rf (w:World) (s:Shared):Bool:=staticsOk (importedModules pw.main.body) (boot_heap w.params) s.heap&&namesBound pw s.heap&&gensDone s&&laidKept (boot_heap w.params) s.heap
end Mine
end
section
open PySem PySem.W PyProof.Rows
set_option maxRecDepth 1000000
set_option maxHeartbeats 8000000
namespace Mine
theorem Og:PySem.Challenge.rw_xm0251_01.row.wellSaid=true:=by kernel_rfl
theorem GS:PySem.Challenge.rw_xm0251_01.wellSaid=true:=by
 unfold OpenLaw.wellSaid
 repeat' with_reducible refine look_both ?_ ?_
 ·exact Og
 all_goals kernel_rfl
end Mine
end
section
open PySem PySem.W PyProof.Rows
set_option maxRecDepth 1000000
namespace Mine
variable
 {s:SharedT}
 {h h':Heap}
noncomputable def qv:List Addr:= [69,76,83,97,104,111,118,125,132,139,146,153,160,167,174,181,188,195,202,209,216,223,230,237,244,251,258,265,272,279,293,314,328,335,342,349,356,363,370,377,384,391,398,407,414,421,428,435,442,449,456,463,470,484,491,498,505,512,519,540,547,554,561,566,580,594,601,608,615,622,629,636,643,650,657,664,671,678,685,695,702,707,712,717,724,729,734,741,748,755,760,767,774,781,788,793,800,805,812,817,824,831,836]
noncomputable def qa:List Addr:= [86,296,317,529,583]
noncomputable def uL:List Addr:= [54,55,400]
noncomputable def q8:List Addr:= [399,686,687,688]
noncomputable def mI (a n:Nat):List (Nat×Option Nat):=(List.range n).map λi=>(a+i,none)
noncomputable def ow (a n:Nat):List (Nat×Option Nat):=(List.range n).map λi=>(a,some i)
def lB:List (Nat×Option Nat):=ow 38 3++mI 39 27++ow 84 1++ow 85 1++mI 86 11++mI 100 10++ow 111 6++mI 112 5++ow 118 1++mI 119 14++mI 137 24
noncomputable def nN:Value->Option Str
 | .str s _=>some s|_=>none
noncomputable def fU:Value->Value
 | .int n _=> .int n 0| .str s _=> .str s 0|v=>v
noncomputable abbrev iQ:=List (Option Str×Value)
noncomputable def jU (f:Addr->Option Obj) (a:Addr):Option iQ:=match f a with|some ⟨_,_,.dict es _,_⟩=>some (es.toList.map λe=>(nN e.key,fU e.val))|_=>none
noncomputable def tB (f:Addr->Option Obj) (a:Addr):Option (Value×List Value×(Bool×Bool×Bool)×Option Value×Option iQ):=match f a with|some ⟨c,_,.cls cd,sl⟩=>some (c,cd.mro,(cd.hasDict,cd.abstract,cd.hasDel),(sl.toList[4]?).join,jU f cd.ns)|_=>none
noncomputable def uW (f:Addr->Option Obj) (a:Addr):Option (Value×List Value):=match f a with|some ⟨c,_,.seq it _,_⟩=>some (c,it.toList.map fU)|_=>none
noncomputable def qL (f:Addr->Option Obj) (a:Addr):Option (Value×Option Addr×Array (Option Value)×List (Int×Value×Value)):=match f a with|some ⟨c,d,.dict es _,sl⟩=>some (c,d,sl,es.toList.map λe=>(e.hash,fU e.key,fU e.val))|_=>none
noncomputable def pZ (f:Addr->Option Obj) (a:Addr):Option (Value×(Arguments×FuncBody×Scope)×List (Str×Addr)×Value×Addr×Addr×Bool):=match f a with
 |some ⟨c,_,.func fd,_⟩=>some (c,(fd.params,fd.body,fd.scope),fd.closure,fd.defaults,fd.globals,fd.builtins,match fd.code with
   | .ref k=>(match f k with
     |some ⟨_,_,.fields vs,_⟩=>(match vs.toList with|_:: .str n _::_=>n==fd.qualname|_=>false)|_=>false)
   |_=>false)
 |_=>none
noncomputable abbrev xU:=Option iQ×List (Option (Value×List Value×(Bool×Bool×Bool)×Option Value×Option iQ))×List (Option (Value×List Value))×List (Option (Value×Option Addr×Array (Option Value)×List (Int×Value×Value)))×List (Option (Value×(Arguments×FuncBody×Scope)×List (Str×Addr)×Value×Addr×Addr×Bool))×Bool
def hO (f:Addr->Option Obj):xU:=(jU f mainGlobals,qa.map (tB f),q8.map (uW f),uL.map (qL f),qv.map (pZ f),(f sysModules).isSome)
noncomputable def xc (o:Option Stmt):Option (Arguments×FuncBody×Scope):=o.bind λs=>if h:s.ctorIdx=0 then PySem.Stmt.FunctionDef.elim (motive_2:=λ_=>Option (Arguments×FuncBody×Scope)) s h (λ_ a b _ _ _ sc _ _ _=>some (a,.stmts b,sc)) else none
def defAt (l:List Stmt) (p:Nat×Option Nat):Option (Arguments×FuncBody×Scope):=match p.2 with|none=>xc l[p.1]?|some j=>(l[p.1]?).bind λs=>if h:s.ctorIdx=2 then PySem.Stmt.ClassDef.elim (motive_2:=λ_=>Option (Arguments×FuncBody×Scope)) s h (λ_ _ _ b _ _ _ _ _ _ _=>xc b[j]?) else none
noncomputable def lC (l:List (String×Nat)):iQ:=l.map λp=>(some (Str.ofString p.1),.ref p.2)
noncomputable def om (l:List (String×Int)):iQ:=l.map λp=>(some (Str.ofString p.1),.int p.2 0)
noncomputable def eE (n:String) (v:Value):Option Str×Value:=(some (Str.ofString n),v)
def tf:iQ:=eE "__name__" (.str "law_xm0251_01" 0)::eE "__doc__" .none::eE "__package__" .none::eE "__loader__" (.builtin "__main__.__loader__#opaque")::eE "__spec__" .none::lC [("__annotations__",6),("__builtins__",4)]++eE "__file__" (.str "/claim/cut.py" 0)::eE "__cached__" .none::lC [("_wall",21),("RuneError",38),("BadKind",51)]++om [("VOID",0),("BOOL",1),("CHAR",2),("I1",3),("U1",4),("I2",5),("U2",6),("I4",7),("U4",8),("I8",9),("U8",10),("NINT",11),("OBJECT",12),("STRING",13),("NULLK",14),("PRIM_END",16),("R_PRIM",1),("R_CLASS",2),("R_VALUE",3),("R_ARRAY",4),("R_BYREF",5),("R_VAR",6),("R_MVAR",7),("R_BOXED",8),("R_ROREF",9),("R_FTN",10),("R_RAW",11),("DEEPEST_KIND",24),("HEAVIEST_KIND",4096)]++lC [("PRIM_TID",54),("TID_PRIM",55)]++om [("ARRAY_TID",5),("NULLABLE_TID",8)]++lC [("KindTable",86),("inner_kinds",97),("row_level",104),("row_length",111),("check_kind_row",118),("check_named",125),("check_args",132),("may_stand",139),("class_kind",146),("value_kind",153),("prim_kind",160),("array_kind",167),("var_kind",174),("mvar_kind",181),("boxed_kind",188),("kind_sort",195),("elem_of",202),("tid_of",209),("args_of",216),("is_value",223),("is_ref",230),("is_var",237),("close",244),("close_in",251),("with_inner",258),("box_of",265),("pick_arg",272),("close_all",279)]++om [("S_CLASS",1),("S_STRUCT",2),("S_IFACE",3),("S_DELEGATE",4),("S_ENUM",5),("TF_ABSTRACT",1),("TF_SEALED",2),("VA_NONE",0),("VA_IN",2),("GB_CLASS",1),("GB_STRUCT",2),("T_OBJECT",1),("T_VALUETYPE",2),("T_ENUM",3),("T_ARRAY",5),("T_DELEGATE",6),("T_NULLABLE",8)]++lC [("TypeDef",296),("Store",317),("put_shell",328),("usual_base",335),("sort_flags",342),("add_type",349),("set_bounds",356),("set_variance",363),("add_iface",370),("type_of",377),("base_of",384),("base_of_prim",391),("ifaces_of",398),("VALUE_ROOTS",399),("SIGNED_TWIN",400),("bound_kinds",407),("param_is_value",414),("surely_class",421),("is_iface",428),("base_chain",435),("all_ifaces",442),("add_ifaces",449),("stands_for_ref",456),("reduced",463),("is_nullable",470),("StoreHost",529),("store_under",540),("store_variance",547),("set_context",554),("loose_base",561),("loose_ifaces",566)]++om [("MOST_QUESTIONS",512)]++lC [("Book",583),("ref_assignable",594),("source_assignable",601),("assign_settled",608),("var_same",615),("settle_book",622),("has_proof",629),("assign_within",636),("assign_look",643),("param_within",650),("var_within",657),("inner_within",664),("elems_within",671),("instance_of",678),("box_goes",685),("_law_OBJECT",686),("_law_T",687),("_law_U",688),("_law_value",695),("_law_ref",702),("_law_kind",707),("_law_close",712),("_law_ups",717),("_law_bound",724),("_law_classed",729),("_law_valued",734),("_law_signed",741),("_law_inner",748),("_law_like",755),("_law_goes",760),("_law_is",767),("_law_face",774),("_law_world",781),("_law_store",788),("_law_context",793),("_law_meets",800),("_law_args",805),("_law_bent",812),("_law_pair",817),("_law_closed",824),("_law_asked",831),("law",836)]
noncomputable def eC (m:String) (n:Int) (l:List (String×Nat)) (a:Nat):iQ:=eE "__module__" (.str m 0)::om [("__firstlineno__",n)]++lC (l++ [("__static_attributes__",a),("__dict__",a+3),("__weakref__",a+4)])++ [eE "__doc__" .none]
def pW:List iQ:= [eC "framerune.kinds" 46 [("__init__",69),("row",76),("put",83)] 84,eC "framerune.store" 266 [("__init__",293)] 294,eC "framerune.store" 292 [("__init__",314)] 315,eC "framerune.kindrel" 451 [("__init__",484),("base",491),("ifaces_at",498),("sort",505),("variance",512),("under",519),("has_new",526)] 527,eC "framerune.kindrel" 530 [("__init__",580)] 581]
noncomputable def wB:List (List (Int×Int)):= [[(0,20),(1,9),(2,10),(3,11),(4,12),(5,13),(6,14),(7,15),(8,16),(9,17),(10,18),(11,19),(12,1),(13,4)],[(20,0),(9,1),(10,2),(11,3),(12,4),(13,5),(14,6),(15,7),(16,8),(17,9),(18,10),(19,11),(1,12),(4,13)],[(4,3),(6,5),(8,7),(10,9)]]
noncomputable def tG:List (List Int):= [[1,2,3],[0,12],[-2,0],[-2,1]]
def eZ:xU:=(some tf,(qa.zip pW).map (λp=>some (.type "type",[.ref p.1,.type "object"],(true,false,false),some (.builtin "object.__new__"),some p.2)),
 tG.map (λl=>some (.type "tuple",l.map λi=> .int i 0)),wB.map (λl=>some (.type "dict",none,#[],l.map λp=>(hashInt p.1,.int p.1 0,.int p.2 0))),
 lB.map (λp=>(defAt pw.main.body p).map λd=>(.type "function",d,[],.none,mainGlobals,builtinsNs,true)),true)
noncomputable def iE (t:BT) (n a:Nat):Option Obj:=match Nat.blt a n with|true=>(t.get a).bind alive|false=>none
noncomputable def tz (t:BT) (n:Nat) (as:List Addr):Frag:=as.filterMap λa=>(iE t n a).map λo=>(a,o)
theorem Ir (t:BT) (n a:Nat):∀as:List Addr,(tz t n as).lookup a=if a∈as then iE t n a else none:=by
 intro k;induction k with|nil=>exact rfl|cons b r j=>
  have j:=j;unfold tz at j⊢;rw [List.filterMap_cons];cases g:iE t n b with
  |none=>
   simp only [Option.map_none];rw [j];by_cases e:a=b
   ·subst e;rw [ep (List.mem_cons_self ..),g];split<;>rfl
   ·simp [e]
  |some o=>
   simp only [Option.map_some];rw [ru];cases z:a==b with|true=>rw [g7.mp z,ep (List.mem_cons_self ..),g]|false=>
    have e:a≠b:=λe=>by rw [e,m5] at z;cases z
    dsimp only;rw [j];simp [e]
theorem xW (t:BT) (n:Nat):(λa=>(tz t n (List.range n)).lookup a)=iE t n:=funext λa=>by
 rw [Ir];by_cases h:a<n
 ·rw [ep (List.mem_range.mpr h)]
 ·rw [fm λe=>h (List.mem_range.mp e)];unfold iE;cases q:Nat.blt a n with|false=>rfl|true=>exact dv (nk q) h
theorem FC (t:BT) (n:Nat) (life:Life):(tz t n (List.range n)).In (absHeap t n life):=λa o e=>by
 replace e:=(congrFun (xW t n) a).symm.trans e;unfold iE at e;cases q:Nat.blt a n with|false=>rw [q] at e;cases e|true=>rw [q] at e;obtain ⟨y,j,k⟩:=Option.bind_eq_some_iff.mp e;exact (abs_get (nk q) j).trans k
def yp (h:Heap):Prop:=∃K:Frag,K.In h/\hO (λa=>K.lookup a)=eZ
theorem OP (e:hO (iE s.tree s.n)=eZ):yp s.abs.heap:=⟨_,FC _ _ _,by rw [xW];exact e⟩
theorem Eh (y:yp h) (k:∀b o,h.get? b=some o->h'.get? b=some o):yp h':=let ⟨K,a,b⟩:=y;⟨K,a.keeps k,b⟩
open Classical in
noncomputable def yf (s:Shared):Bool:=decide (yp s.heap)
theorem Qo (e:hO (iE s.tree s.n)=eZ):yf s.abs=true:=by unfold yf;exact @gs _ (Classical.propDecidable _) (OP e)
theorem Qr {s:Shared} (e:yf s=true):yp s.heap:=by unfold yf at e;exact @JI _ (Classical.propDecidable _) e
def jV (W:World) (os:OsState):=PySem.W.Fast.tw10110043849684766642 PySem.W.Fast.tw14364793385576792824 pw W 11 (some (.ref 6)) 1 6000 (uc W os) (CV pw)
def lhs (W:World) (os:OsState):=(jV W os).map (λx=>(x.1,x.2.2.1,rf W x.2.1.abs,openSeen qV gN (importedModules pw.main.body) (λ_=>true) true x.2.1.abs,true))
def lK (W:World) (os:OsState):=(jV W os).map (λx=>hO (iE x.2.1.tree x.2.1.n))
end Mine
end
section
open PySem PySem.W PyProof.Rows
set_option maxRecDepth 1000000
namespace Mine
theorem Hh (w:World) (os:OsState):lhs (w.withFollow "special-get-raises" false) os=some (.next,iu pw,true,openGood qV gN,true):=by unfold lhs jV;kernel_rfl
theorem Ij (w:World) (os:OsState):lhs (w.withFollow "special-get-raises" true) os=some (.next,iu pw,true,openGood qV gN,true):=by unfold lhs jV;kernel_rfl
theorem N6 (w:World) (os:OsState):lK (w.withFollow "special-get-raises" false) os=some eZ:=by unfold lK jV;kernel_rfl
theorem M8 (w:World) (os:OsState):lK (w.withFollow "special-get-raises" true) os=some eZ:=by unfold lK jV;kernel_rfl
theorem Qf (w:World):∀os,lhs w os=some (.next,iu pw,true,openGood qV gN,true)/\lK w os=some eZ:=
 byRow2 "special-get-raises" (P:=λw=>∀os,lhs w os=some (.next,iu pw,true,openGood qV gN,true)/\lK w os=some eZ) (λw os=>⟨Hh w os,N6 w os⟩) (λw os=>⟨Ij w os,M8 w os⟩) w
theorem Pf (w:World) (os:OsState):∃s q,segRunT treeTable pw w 11 (some (.ref 6)) 1 6000 (uc w os) (CV pw)=some (.next,s,iu pw,q)/\rf w s.abs=true/\
 openSeen qV gN (importedModules pw.main.body) (λ_=>true) true s.abs=openGood qV gN/\hO (iE s.tree s.n)=eZ:=by
 obtain ⟨h,hp⟩:=Qf w os;unfold lhs jV at h;unfold lK jV at hp;rw [<-PySem.W.Fast.te10110043849684766642,<-PySem.W.Fast.te14364793385576792824] at h hp;obtain ⟨⟨f,s,c,q⟩,e,j⟩:=Option.map_eq_some_iff.mp h;simp only [Prod.mk.injEq] at j;obtain ⟨rfl,rfl,k,t,_⟩:=j;rw [e] at hp;exact ⟨s,q,e,k,t,Option.some.inj hp⟩
theorem Ho (w:World) (os:OsState):∃s:Shared,topRun treeTable pw w 11 (some (.ref 6)) (12+(1+(6000+2))) ⟨boot_heap w.params,#[],boot_drawn,boot_toks,os⟩ (topStub pw)=some s/\rf w s=true/\
 openSeen qV gN (importedModules pw.main.body) (λ_=>true) true s=openGood qV gN/\yf s=true:=by
 obtain ⟨s,q,h,j,k,t⟩:=Pf w os;refine ⟨s.abs,go_top (Qi w os) (piece_block (Na w os) ?_),j,k,Qo t⟩;have:=piece_app (rest:= []) (segRun_of h) (piece_nil (ON w s.abs q));rw [hR] at this;exact this
theorem G2:LeftO pw qV gN (λ_=>true) yf (λ_=>true) 7000:=λw=>by
 obtain ⟨⟨h,y,d,k,os⟩,e,z⟩:=Option.map_eq_some_iff.mp (MC 7000 rfl w);obtain ⟨rfl,rfl,rfl,rfl⟩:h=boot_heap w.params/\y= #[]/\d=boot_drawn/\k=boot_toks:=by simpa using z
 obtain ⟨s,r,j,l2,l3⟩:=Ho w os;have r:=topRun_mono (7000-(12+(1+(6000+2)))) _ _ _ _ r;obtain ⟨A,D,E⟩:_/\_/\_:=by simpa only [Prod.mk.injEq] using DB w
 have t:topFrom treeTable pw w 7000 ⟨boot_heap w.params,#[],boot_drawn,boot_toks,os⟩=some s:=by unfold topFrom;dsimp only;rw [A,D,E,r];show (match staticsOk (importedModules pw.main.body) (boot_heap w.params) s.heap&&namesBound pw s.heap&&gensDone s&&laidKept (boot_heap w.params) s.heap with|true=>_|false=>_)=_;unfold rf at j;rw [j]
 unfold openEnds;rw [e];show (topFrom treeTable pw w 7000 _).map _=_;rw [t];exact ej some (Prod.ext l2 l3)
end Mine
end
section
open PySem PySem.W PyProof.Rows
set_option maxRecDepth 1000000
set_option maxHeartbeats 8000000
namespace Mine
noncomputable abbrev g_:=PySem.Challenge.rw_xm0251_01
theorem M2 (z:g_.row.wellSaid=true) (A:g_.row.toRowW.promised)
 (call:∀d j,defOf qV g_.row.name=some (d,j)->WalkO qV gN (λ_ _=>True) (λ_ h=>yp h) g_.row.toRowW d j λf vs=>PySem.call f vs):g_.row.Holds:=by
 have hd:∃d j,defOf qV g_.row.name=some (d,j)/\g_.row.prog.theDef g_.row.name=some (d.params,d.body,d.scope)/\kwWritten? d.params.kwonlyargs d.params.kw_defaults=some j:=⟨_,_,by rfl,by rfl,by rfl⟩;obtain ⟨d,j,t,D,E⟩:=hd;exact holds_open (r:=g_.row) (q:=qV) (loose:=gN) (Xt:=λ_=>true) (XP:=λ_ _=>True) (Yf:=yf) (Ya:=λ_=>true) (YP:=λ_ h=>yp h) (N:=7000) G2
  (λw s e=>Qr e) (λw h F y k=>Eh y k) (λ_ _=>trivial) (λ_ _ _ x _=>x) t D E (λs _=>recFacts_of (by rfl)) rfl z (by kernel_rfl) ⟨rfl,rfl,rfl,rfl,rfl,by decide+kernel⟩ A (call d j t)
end Mine
end
namespace Mine
variable {α β γ δ ε ζ R:Type}
def kg {α} (d:α) (l:List α):Nat->α:=List.rec (λ_=>d) (λx _ f n=>Nat.rec x (λk _=>f k) n) l
noncomputable abbrev bI (α R:Type):=(α->Nat->R)->Nat->R
noncomputable def rn (f:Nat->R) (n:Nat):R:=Nat.casesOn (n+1) (f 0) f
noncomputable def dm (a:α):bI α R:=λk n=>k a n
def eQ (r:Nat) (d:bI α R) (l:List (bI α R)):bI α R:=λk n=>rn (kg d l (n%r) k) (n/r)
def gh (r:Nat):bI Nat R:=eQ r (dm 0) ([0,1,2,3,4,5,6,7,8,9,10,11,12,13,14,15,16,17,18,19,20,21,22,23,24,25,26,27,28,29,30,31,32,33,34,35,36,37,38,39,40,41,42,43,44,45,46,47,48,49,50,51,52,53,54,55,56,57,58,59,60,61,62,63,64,65,66,67,68,69,70,71,72,73,74,75,76,77,78,79,80,81,82,83,84,85,86,87,88,89,90,91,92,93,94,95,96,97,98,99,100,101,102].map dm)
noncomputable def cJ (f:α->β) (p:bI α R):bI β R:=λk=>p λa=>k (f a)
def bR (f:α->β->γ) (p:bI α R) (q:bI β R):bI γ R:=λk=>p λa=>cJ (f a) q k
def gp (f:α->β->γ->δ) (p:bI α R) (q:bI β R) (r:bI γ R):bI δ R:=λk=>p λa=>bR (f a) q r k
def tA (f:α->β->γ->δ->ε) (p:bI α R) (q:bI β R) (r:bI γ R) (s:bI δ R):bI ε R:=λk=>p λa=>gp (f a) q r s k
def Bm (f:α->β->γ->δ->ε->ζ) (p:bI α R) (q:bI β R) (r:bI γ R) (s:bI δ R) (t:bI ε R):bI ζ R:=λk=>p λa=>tA (f a) q r s t k
def iP (r:Nat) (l:List α) (d:α):bI α R:=eQ r (dm d) (l.map dm)
def jo (a:β) (c:α->β->β) (p:bI α R):bI β R:=Nat.rec (dm a) (λ_ f=>eQ 2 (dm a) [bR c p f]) 60
end Mine
namespace Mine
inductive Te|v (i:Nat)|n (k:Nat)|a (x y:Te)|m (k:Nat) (x:Te)|r (x:Te) (k:Nat)
inductive Tz|v (i:Nat)|n (k:Int)|a (x y:Tz)|s (x y:Tz)|m (k:Int) (x:Tz)|c (x:Te)|r (x:Tz) (k:Int)
inductive Fm|l (x y:Te)|t (x y:Te)|e (x y:Te)|L (x y:Tz)|T (x y:Tz)|E (x y:Tz)|o (f:Fm)|k (f g:Fm)|u (f g:Fm)|i (f g:Fm)|f (f g:Fm)|z
def Te.den (c:List Nat):Te->Nat:=Te.rec (λi=>c.getD i 0) (λk=>k) (λ_ _ x y=>x+y) (λk _ x=>k*x) λ_ k x=>x*k
def Tz.den (c:List Nat) (z:List Int):Tz->Int:=Tz.rec (λi=>z.getD i 0) (λk=>k) (λ_ _ x y=>x+y) (λ_ _ x y=>x-y) (λk _ x=>k*x) (λx=>(x.den c:Int)) λ_ k x=>x*k
def Fm.den (c:List Nat) (z:List Int):Fm->Prop:=Fm.rec (λx y=>x.den c<=y.den c) (λx y=>x.den c<y.den c) (λx y=>x.den c=y.den c) (λx y=>x.den c z<=y.den c z) (λx y=>x.den c z<y.den c z) (λx y=>x.den c z=y.den c z) (λ_ p=>¬p) (λ_ _ p q=>p/\q) (λ_ _ p q=>p\/q) (λ_ _ p q=>p->q) (λ_ _ p q=>p↔q) False
def zK (c:List Nat) (z:List Int) (g:Prop):List Fm->Prop:=List.rec g λh _ p=>h.den c z->p
structure Rw where
 k:Int
 x:List Int
 y:List Int
def nj:List Int->List Int->List Int:=List.rec (λy=>y) λa x f y=>List.casesOn y (a::x) λb y=>(a+b)::f y
noncomputable def mE:Nat->List Int:=Nat.rec [1] λ_ r=>0::r
def Rw.add (r s:Rw):Rw:=⟨r.k+s.k,nj r.x s.x,nj r.y s.y⟩
noncomputable def Rw.mul (k:Int) (r:Rw):Rw:=⟨k*r.k,r.x.map (k*·),r.y.map (k*·)⟩
def Te.row:Te->Rw:=Te.rec (λi=>⟨0,mE i,[]⟩) (λk=>⟨k,[],[]⟩) (λ_ _ x y=>x.add y) (λk _ x=>x.mul k) λ_ k x=>x.mul k
def Tz.row:Tz->Rw:=Tz.rec (λi=>⟨0,[],mE i⟩) (λk=>⟨k,[],[]⟩) (λ_ _ x y=>x.add y) (λ_ _ x y=>x.add (y.mul (-1))) (λk _ x=>x.mul k) (λx=>x.row) λ_ k x=>x.mul k
def bS:List Int->List Int->Int:=List.rec (λ_=>0) λa _ f c=>List.casesOn c 0 λb c=>a*b+f c
def Rw.ev (c:List Nat) (z:List Int) (r:Rw):Int:=r.k+bS r.x (c.map Int.ofNat)+bS r.y z
theorem wT (a b c d:Int):a+b+(c+d)=a+c+(b+d):=by rw [Int.add_assoc,Int.add_left_comm b c d,<-Int.add_assoc]
theorem Rh (x):bS x []=0:=by cases x<;>rfl
theorem Bt (x):∀y c,bS (nj x y) c=bS x c+bS y c:=by
 induction x with|nil=>exact λ_ _=>(Int.zero_add _).symm|cons a x j=>
  intro y;cases y with|nil=>exact λ_=>(Int.add_zero _).symm|cons b y=>
   intro c;cases c with|nil=>rfl|cons d c=>show (a+b)*d+bS (nj x y) c=(a*d+bS x c)+(b*d+bS y c);rw [j y c,Int.add_mul,wT]
theorem zQ (k) (x):∀c,bS (x.map (k*·)) c=k*bS x c:=by
 induction x with|nil=>exact λ_=>(Int.mul_zero k).symm|cons a x j=>
  intro c;cases c with|nil=>exact (Int.mul_zero k).symm|cons d c=>show k*a*d+bS (x.map (k*·)) c=k*(a*d+bS x c);rw [j c,Int.mul_add,Int.mul_assoc]
theorem Mc (c):bS [1] c=c.getD 0 0:=by
 cases c with|nil=>rfl|cons a c=>exact (Int.add_zero _).trans (Int.one_mul a)
theorem B_ (i):∀c,bS (mE i) c=c.getD i 0:=by
 induction i with|zero=>exact Mc|succ n j=>
  intro c;cases c with|nil=>rfl|cons a c=>show 0*a+bS (mE n) c=c.getD n 0;rw [j c,Int.zero_mul,Int.zero_add]
variable {c:List Nat} {z:List Int}
theorem n8 (r s:Rw):(r.add s).ev c z=r.ev c z+s.ev c z:=by show (r.k+s.k)+bS (nj r.x s.x) (c.map Int.ofNat)+bS (nj r.y s.y) z=(r.k+bS r.x (c.map Int.ofNat)+bS r.y z)+(s.k+bS s.x (c.map Int.ofNat)+bS s.y z);rw [Bt,Bt,wT r.k,wT]
theorem lq (k) (r:Rw):(r.mul k).ev c z=k*r.ev c z:=by show k*r.k+bS (r.x.map (k*·)) (c.map Int.ofNat)+bS (r.y.map (k*·)) z=k*(r.k+bS r.x (c.map Int.ofNat)+bS r.y z);rw [zQ,zQ,Int.mul_add,Int.mul_add]
theorem getD_map (c:List Nat):∀i,(c.map Int.ofNat).getD i 0=(c.getD i 0:Nat):=by
 induction c with
 |nil=>exact λ_=>rfl
 |cons a c j=>intro i;cases i with
  |zero=>rfl|succ i=>exact j i
theorem u0 (k):Rw.ev c z ⟨k,[],[]⟩=k:=(Int.add_zero _).trans (Int.add_zero _)
theorem pl {a b c d:Int} (i:a=b) (j:c=d):a+c=b+d:=by rw [i,j]
theorem ml {a b k:Int} (i:a=b):k*a=k*b:=by rw [i]
theorem Te.cL (t:Te):t.row.ev c z=(t.den c:Int):=
 Te.rec (motive:=λt=>t.row.ev c z=(t.den c:Int)) (λi=>by show 0+bS (mE i) (c.map Int.ofNat)+0=((c.getD i 0:Nat):Int);rw [B_,getD_map,Int.add_zero,Int.zero_add]) (λ_=>u0 _) (λ_ _ i j=>(n8 _ _).trans (pl i j)) (λ_ _ i=>(lq _ _).trans (ml i)) (λ_ _ i=>(lq _ _).trans ((ml i).trans (Int.mul_comm _ _))) t
theorem Tz.cL (t:Tz):t.row.ev c z=t.den c z:=
 Tz.rec (motive:=λt=>t.row.ev c z=t.den c z) (λi=>by show 0+0+bS (mE i) z=z.getD i 0;rw [B_,Int.add_zero,Int.zero_add]) (λ_=>u0 _) (λ_ _ i j=>(n8 _ _).trans (pl i j)) (λ_ _ i j=>(n8 _ _).trans (pl i ((lq _ _).trans ((ml j).trans (by rw [Int.neg_mul,Int.one_mul];rfl))))) (λ_ _ i=>(lq _ _).trans (ml i)) (λx=>Te.cL x) (λ_ _ i=>(lq _ _).trans ((ml i).trans (Int.mul_comm _ _))) t
def Rw.sub (r s:Rw) (k:Int):Rw:=(r.add (s.mul (-1))).add ⟨k,[],[]⟩
theorem v9 {r s:Rw} {x y} (j:r.ev c z=x) (t:s.ev c z=y) (k:Int):(r.sub s k).ev c z=x-y+k:=
 (n8 _ _).trans (by rw [u0,n8,lq,j,t,Int.neg_mul,Int.one_mul];rfl)
def yI (p:Prop):Bool->Prop:=Bool.rec (¬p) p
noncomputable def cx (a b:List (List (Rw×Bool))):List (List (Rw×Bool)):=a.flatMap λx=>b.map (x++·)
noncomputable abbrev r1 (r:Rw) (b:Bool):List (List (Rw×Bool)):= [[(r,b)]]
def Fm.dn:Fm->Bool->List (List (Rw×Bool)):=Fm.rec
 (λx y=>Bool.rec (r1 (x.row.sub y.row (-1)) false) (r1 (y.row.sub x.row 0) false))
 (λx y=>Bool.rec (r1 (x.row.sub y.row 0) false) (r1 (y.row.sub x.row (-1)) false))
 (λx y=>Bool.rec [[(y.row.sub x.row (-1),false)],[(x.row.sub y.row (-1),false)]] (r1 (y.row.sub x.row 0) true))
 (λx y=>Bool.rec (r1 (x.row.sub y.row (-1)) false) (r1 (y.row.sub x.row 0) false))
 (λx y=>Bool.rec (r1 (x.row.sub y.row 0) false) (r1 (y.row.sub x.row (-1)) false))
 (λx y=>Bool.rec [[(y.row.sub x.row (-1),false)],[(x.row.sub y.row (-1),false)]] (r1 (y.row.sub x.row 0) true))
 (λ_ p b=>p !b)
 (λ_ _ p q=>Bool.rec (p false++q false) (cx (p true) (q true)))
 (λ_ _ p q=>Bool.rec (cx (p false) (q false)) (p true++q true))
 (λ_ _ p q=>Bool.rec (cx (p true) (q false)) (p false++q true))
 (λ_ _ p q=>Bool.rec (cx (p true) (q false)++cx (p false) (q true)) (cx (p true) (q true)++cx (p false) (q false)))
 (Bool.rec [[]] [])
def r0 (c:List Nat) (z:List Int) (p:Rw×Bool):Prop:=0<=p.1.ev c z/\(p.2=true->p.1.ev c z=0)
noncomputable def Ex (c:List Nat) (z:List Int) (D:List (List (Rw×Bool))):Prop:=∃l∈D,∀r∈l,r0 c z r
theorem Ex.one {r} {b} (h:r0 c z (r,b)):Ex c z [[(r,b)]]:=⟨_,.head _,λ_ m=>w4.mp m▸h⟩
theorem Ex.left {a} (b) (h:Ex c z a):Ex c z (a++b):=h.imp λ_ h=>⟨List.mem_append_left _ h.1,h.2⟩
theorem Ex.right {b} (a) (h:Ex c z b):Ex c z (a++b):=h.imp λ_ h=>⟨List.mem_append_right _ h.1,h.2⟩
theorem Ex.cx {a b} (h:Ex c z a) (k:Ex c z b):Ex c z (cx a b):=
 h.elim λ_ h=>k.elim λ_ k=>⟨_,List.mem_flatMap.mpr ⟨_,h.1,g5.mpr ⟨_,k.1,rfl⟩⟩,λr m=>(JC.mp m).elim (h.2 r) (k.2 r)⟩
theorem sub_le {r s:Rw} {x y} (j:r.ev c z=x) (k:s.ev c z=y) (h:y<=x):Ex c z (r1 (r.sub s 0) false):= .one ⟨by show 0<=(r.sub s 0).ev c z;rw [v9 j k,Int.add_zero];exact Int.sub_nonneg_of_le h,nofun⟩
theorem sub_lt {r s:Rw} {x y} (j:r.ev c z=x) (k:s.ev c z=y) (h:y<x):Ex c z (r1 (r.sub s (-1)) false):= .one ⟨by show 0<=(r.sub s (-1)).ev c z;rw [v9 j k];exact Int.sub_nonneg_of_le (Int.add_one_le_of_lt (Int.sub_pos_of_lt h)),nofun⟩
theorem sub_eq {r s:Rw} {x y} (j:r.ev c z=x) (k:s.ev c z=y) (h:y=x):Ex c z (r1 (r.sub s 0) true):=by
 have e:(r.sub s 0).ev c z=0:=by rw [v9 j k,h,Int.sub_self];rfl
 exact .one ⟨Int.le_of_eq e.symm,λ_=>e⟩
theorem B0 {r s:Rw} {x y:Int} (j:r.ev c z=x) (k:s.ev c z=y) (h:x<y\/y<x):Ex c z [[(s.sub r (-1),false)],[(r.sub s (-1),false)]]:=
 h.elim (λh=> .left [[_]] (sub_lt k j h)) λh=> .right [[_]] (sub_lt j k h)
theorem Fm.BF (t:Fm):∀b:Bool,yI (t.den c z) b->Ex c z (t.dn b):=by
 have e:∀{P:Bool->Prop},P true->P false->∀b,P b:=λh k b=>Bool.rec k h b;exact Fm.rec (motive:=λt=>∀b:Bool,yI (t.den c z) b->Ex c z (t.dn b))
  (λx y=>e (λh=>sub_le (Te.cL y) (Te.cL x) (KJ.mpr h)) λh=>sub_lt (Te.cL x) (Te.cL y) (Int.ofNat_lt.mpr (Nat.lt_of_not_le h)))
  (λx y=>e (λh=>sub_lt (Te.cL y) (Te.cL x) (Int.ofNat_lt.mpr h)) λh=>sub_le (Te.cL x) (Te.cL y) (KJ.mpr (Nat.le_of_not_lt h)))
  (λx y=>e (λh=>sub_eq (Te.cL y) (Te.cL x) (ej Int.ofNat h)) λh=>B0 (Te.cL x) (Te.cL y) ((Nat.lt_or_gt_of_ne h).imp Int.ofNat_lt.mpr Int.ofNat_lt.mpr))
  (λx y=>e (λh=>sub_le (Tz.cL y) (Tz.cL x) h) λh=>sub_lt (Tz.cL x) (Tz.cL y) (Int.lt_of_not_ge h))
  (λx y=>e (λh=>sub_lt (Tz.cL y) (Tz.cL x) h) λh=>sub_le (Tz.cL x) (Tz.cL y) (Int.not_lt.mp h))
  (λx y=>e (λh=>sub_eq (Tz.cL y) (Tz.cL x) h) λh=>B0 (Tz.cL x) (Tz.cL y) (Int.lt_or_gt_of_ne h))
  (λ_ i=>e (λh=>i false h) λh=>i true (Classical.not_not.mp h))
  (λ_ _ i j=>e (λh=> .cx (i true h.1) (j true h.2)) λh=>(Classical.not_and_iff_not_or_not.mp h).elim (λh=> .left _ (i false h)) λh=> .right _ (j false h))
  (λ_ _ i j=>e (λh=>h.elim (λh=> .left _ (i true h)) λh=> .right _ (j true h)) λh=> .cx (i false λk=>h (.inl k)) (j false λk=>h (.inr k)))
  (λ_ _ i j=>e (λh=>(Classical.em _).elim (λk=> .right _ (j true (h k))) λk=> .left _ (i false k)) λh=> .cx (i true (JF λk=>h λm=>(k m).elim)) (j false λk=>h λ_=>k))
  (λ_ _ i j=>e (λh=>(Classical.em _).elim (λk=> .left _ (.cx (i true k) (j true (h.mp k)))) λk=> .right _ (.cx (i false k) (j false λm=>k (h.mpr m)))) λh=>
    (Classical.em _).elim (λk=> .left _ (.cx (i true k) (j false λm=>h ⟨λ_=>m,λ_=>k⟩))) λk=> .right _ (.cx (i false k) (j true (JF λm=>h ⟨λq=>(k q).elim,λq=>(m q).elim⟩))))
  (e False.elim λ_=>⟨[],.head _,nofun⟩) t
def ut:List (Rw×Bool)->List Int->Rw:=List.rec (λ_=>⟨0,[],[]⟩) λt _ f ks=>List.casesOn ks ⟨0,[],[]⟩ λk ks=>(t.1.mul k).add (f ks)
def yR:List (Rw×Bool)->List Int->Bool:=List.rec (λ_=>true) λt _ f ks=>List.casesOn ks true λk ks=>(t.2||decide (0<=k))&&f ks
noncomputable def Rw.neg (r:Rw):Bool:=decide (r.k<0)&&r.x.all (λa=>decide (a<=0))&&r.y.all λa=>decide (a=0)
theorem bc {a b} (h:(a&&b)=true):a=true/\b=true:=(hQ _ _).mp h
theorem F_ (x):∀c:List Nat,(x.all λa=>decide (a<=0))=true->bS x (c.map Int.ofNat)<=0:=by
 induction x with|nil=>exact λ_ _=>Int.le_refl 0|cons a x j=>
  intro c;cases c with|nil=>exact λ_=>Int.le_refl 0|cons b c=>exact λh=>Int.add_le_add (Int.mul_nonpos_of_nonpos_of_nonneg (JI (bc h).1) (Int.natCast_nonneg b)) (j c (bc h).2)
theorem Qc (x):∀c,(x.all λa=>decide (a=0))=true->bS x c=0:=by
 induction x with|nil=>exact λ_ _=>rfl|cons a x j=>
  intro c;cases c with|nil=>exact λ_=>rfl|cons b c=>intro h;show a*b+bS x c=0;rw [show a=0 from JI (bc h).1,Int.zero_mul,j c (bc h).2];rfl
theorem Rw.OO {r:Rw} (h:r.neg=true):r.ev c z<0:=by show r.k+bS r.x (c.map Int.ofNat)+bS r.y z<0;rw [Qc r.y z (bc h).2,Int.add_zero];exact Int.add_lt_add_of_lt_of_le (JI (bc (bc h).1).1) (F_ r.x c (bc (bc h).1).2)
theorem Fu (ts:List (Rw×Bool)):∀(ks:List Int),(∀t∈ts,r0 c z t)->yR ts ks=true->0<=(ut ts ks).ev c z:=by
 induction ts with|nil=>exact λ_ _ _=>Int.le_refl 0|cons t ts y=>
  intro ks;cases ks with
  |nil=>exact λ_ _=>Int.le_refl 0|cons k ks=>
  intro h o;have A:=y ks (λu m=>h u (.tail _ m)) (bc o).2;have j:=h t (.head _);show 0<=((t.1.mul k).add (ut ts ks)).ev c z;rw [n8,lq];refine Int.add_nonneg (((Kv _ _).mp (bc o).1).elim (λe=> ?_) λe=>Int.mul_nonneg (JI e) j.1) A;rw [j.2 e,Int.mul_zero];exact Int.le_refl 0
def wM (l:List (Rw×Bool)) (k:List Int):Bool:=yR l k&&(ut l k).neg
def AK:List (List (Rw×Bool))->List (List Int)->Bool:=List.rec (λ_=>true) λl _ f ks=>List.casesOn ks (wM l (l.map λ_=>1)&&f []) λk ks=>wM l k&&f ks
theorem Bx {l} {k:List Int} (o:wM l k=true) (h:∀t∈l,r0 c z t):False:=Int.not_lt.mpr (Fu l k h (bc o).1) (Rw.OO (bc o).2)
theorem I0 (D):∀ks,AK D ks=true->¬Ex c z D:=by
 induction D with|nil=>exact λ_ _ h=>h.elim λ_ h=>List.not_mem_nil h.1|cons l ls j=>
  intro ks o h;obtain ⟨x,m,h⟩:=h;cases ks with|nil=>exact (List.mem_cons.mp m).elim (λe=>Bx (bc o).1 (e▸h)) λm=>j _ (bc o).2 ⟨x,m,h⟩|cons k ks=>exact (List.mem_cons.mp m).elim (λe=>Bx (bc o).1 (e▸h)) λm=>j _ (bc o).2 ⟨x,m,h⟩
def A0:List Fm->List (List (Rw×Bool)):=List.rec [[]] λf _ r=>cx (f.dn true) r
theorem QO {P:Prop}:∀{j:List Fm},(Ex c z (A0 j)->P)->zK c z P j:=by
 intro j;induction j with|nil=>exact λh=>h ⟨[],.head _,nofun⟩|cons f r t=>exact λh k=>t λe=>h (.cx (f.BF true k) e)
def rY (g:Fm) (j:List Fm) (ks:List (List Int)):Bool:=AK (cx (A0 j) (g.dn false)) ks
noncomputable abbrev imp (c:List Nat) (z:List Int) (g:Fm):List Fm->Prop:=zK c z (g.den c z)
theorem lz {g:Fm} {j:List Fm} (ks:List (List Int)) (o:rY g j ks=true):imp c z g j:=QO λh=>JF λk=>I0 _ _ o (.cx h (g.BF false k))
noncomputable abbrev fS (i:Nat) (x y:Te):Fm:= .u (.k (.l x y) (.e (.v i) (.n 0))) (.k (.l y x) (.e (.a (.v i) y) x))
noncomputable abbrev fA (i:Nat) (x:Tz):Fm:= .u (.k (.L (.n 0) x) (.E (.c (.v i)) x)) (.k (.L x (.n 0)) (.E (.c (.v i)) (.m (-1) x)))
noncomputable abbrev fT (i:Nat) (x:Tz):Fm:= .u (.k (.L (.n 0) x) (.E (.c (.v i)) x)) (.k (.L x (.n 0)) (.e (.v i) (.n 0)))
noncomputable abbrev fM (i:Nat) (x y:Te):Fm:= .u (.k (.l x y) (.e (.v i) y)) (.k (.l y x) (.e (.v i) x))
noncomputable abbrev fN (i:Nat) (x y:Te):Fm:= .u (.k (.l x y) (.e (.v i) x)) (.k (.l y x) (.e (.v i) y))
noncomputable abbrev fD (q r:Nat) (x:Te) (d:Nat):Fm:= .k (.e (.a (.m d (.v q)) (.v r)) x) (.t (.v r) (.n d))
noncomputable abbrev fZ (q r:Nat) (x:Tz) (d:Int):Fm:= .k (.E (.a (.m d (.v q)) (.v r)) x) (.k (.L (.n 0) (.v r)) (.T (.v r) (.n d)))
theorem sM (x y:Nat):x<=y/\max x y=y\/y<=x/\max x y=x:=(Nat.le_total x y).imp (λh=>⟨h,Nat.max_eq_right h⟩) λh=>⟨h,Nat.max_eq_left h⟩
theorem sN (x y:Nat):x<=y/\min x y=x\/y<=x/\min x y=y:=(Nat.le_total x y).imp (λh=>⟨h,Nat.min_eq_left h⟩) λh=>⟨h,Nat.min_eq_right h⟩
theorem sD (x d) (h:Nat.ble 1 d=true):d*(x/d)+x%d=x/\x%d<d:=⟨Nat.div_add_mod x d,JM x (nk h)⟩
theorem sZ (x d:Int) (h:decide (0<d)=true):d*(x/d)+x%d=x/\0<=x%d/\x%d<d:=⟨Int.mul_ediv_add_emod x d,Int.emod_nonneg x λe=>Int.lt_irrefl 0 (by have i:0<d:=JI h;rw [e] at i;exact i),Int.emod_lt_of_pos x (JI h)⟩
theorem sO (x y):x<=y/\x-y=0\/y<=x/\x-y+y=x:=(Nat.le_total x y).imp (λh=>⟨h,Nat.sub_eq_zero_of_le h⟩) λh=>⟨h,Nat.sub_add_cancel h⟩
theorem sA (x):0<=x/\(x.natAbs:Int)=x\/x<=0/\(x.natAbs:Int)= -1*x:=(Int.le_total 0 x).imp (λh=>⟨h,Int.natAbs_of_nonneg h⟩) λh=>⟨h,(Int.ofNat_natAbs_of_nonpos h).trans (Int.neg_eq_neg_one_mul x)⟩
theorem sT (x):0<=x/\(x.toNat:Int)=x\/x<=0/\x.toNat=0:=(Int.le_total 0 x).imp (λh=>⟨h,Int.toNat_of_nonneg h⟩) λh=>⟨h,Int.toNat_of_nonpos h⟩
structure Pt where
 p:Nat
 q:Nat
 g:Fm
 hs:List Fm
 ks:List (List Int)
def ur:Nat->(List Nat->Prop)->Prop:=Nat.rec (λk=>k []) λ_ f k=>∀{a:Nat},f λc=>k (a::c)
def t_:Nat->(List Int->Prop)->Prop:=Nat.rec (λk=>k []) λ_ f k=>∀{a:Int},f λc=>k (a::c)
theorem He (n:Nat):∀{k:List Nat->Prop},(∀c,k c)->ur n k:=by
 induction n with|zero=>exact λh=>h _|succ n j=>exact λh a=>j λc=>h _
theorem Np (n:Nat):∀{k:List Int->Prop},(∀c,k c)->t_ n k:=by
 induction n with|zero=>exact λh=>h _|succ n j=>exact λh a=>j λc=>h _
def Pt.say (P:Pt):Prop:=Pt.casesOn P λp q g j ks=>Bool.rec True (ur p λc=>t_ q λz=>imp c z g j) (rY g j ks)
theorem Pt.ok (P:Pt):P.say:=by
 obtain ⟨p,q,g,j,ks⟩:=P;show Bool.rec True (ur p λc=>t_ q λz=>imp c z g j) (rY g j ks);cases h:rY g j ks with|false=>trivial|true=>exact He p λc=>Np q λz=>lz ks h
def oW {R} (r:Nat):bI Nat R:=λk n=>rn (λm=>rn (λd=>k d m) (n%r)) (n/r)
def oK {R}:bI Nat R:=eQ 32 (oW (2^64)) (([1,0,2,100000,10,3,4,12,69,(2^60),11,7,14,13,71,512,8,100,30000,6,26000,1000,9,22,5,20,76,23,(2^40),128].map dm)++ [oW (2^17)])
def oN {R} (p:Nat):bI Te R:=Nat.rec (dm (.n 0)) (λ_ x=>eQ 4 (eQ 2 (bR .r x oK) [bR .m oK x]) [cJ .v (oW p),cJ .n oK,bR .a x x]) 9
def oZ {R} (p q:Nat):bI Tz R:=Nat.rec (dm (.n 0)) (λ_ x=>eQ 8 (bR (λx k=> .r x (Int.ofNat k)) x oK) [cJ .c (oN p),cJ .v (oW q),cJ (λk=> .n (Int.ofNat k)) oK,bR .a x x,bR .s x x,bR (λk=> .m (Int.ofNat k)) oK x,cJ (λk=> .n (-Int.ofNat k)) oK]) 9
def oF {R} (p q:Nat):bI Fm R:=let t:=oN p;let z:=oZ p q
 Nat.rec (dm .z) (λ_ x=>eQ 16 (eQ 5 (bR .f x x) [gp fN (oW p) t t,bR fA (oW p) z,bR fT (oW p) z,tA (λq r x d=>fZ q r x (Int.ofNat d)) (oW q) (oW q) z oK])
  [bR .l t t,bR .t t t,bR .e t t,bR .E z z,cJ .o x,bR .k x x,bR .u x x,bR .L z z,bR .T z z,dm .z,bR .i x x,gp fS (oW p) t t,gp fM (oW p) t t,tA fD (oW p) (oW p) t oK,dm (.o .z)]) 9
def oP {R}:bI Pt R:=λk=>oW 16 λp=>oW 8 λq=>
 let l:=jo [] .cons (oF p q)
 gp (Pt.mk p q) (oF p q) l (jo [] .cons (jo [] .cons (eQ 4 (eQ 2 (cJ (λk=> -Int.ofNat k) (oW 2048)) [cJ .ofNat (oW 2048)]) [dm 0,dm 1,dm (-1)]))) k
theorem oo (n:Nat):(oP (λx _=>x) n).say:=Pt.ok _
end Mine
namespace Mine
noncomputable def oT:List Nat:= [0x3005381,0xe4801a001,0x1898080834002,0x41b450014000000000004e71907c94082,0x41b496f1907c94082,0x340252014924241492404149240412a0848404260a1301,0xc4824a0401,0x1a094829242089040420a1301,0x620201482,0xca13885410,0xc4801a001,0xc0a2005401,0x1e105842c081,0x3024001,0x63269427085420,0xc0a20a01a01,0x1c580804940402,0xc0a20a01a01,0xc8801a001,0x70000c8002,0x34945489824d226004d0122,0x4e3b3806bb8410907d109256a935c0158a8285,0x700a058082,0xe2624c898a8989136490,0x1c00930124002,0x1c00930034002,0xde801a001,0xc0c808810002,0x1a815130ab000802,0xd680ca001,0x1f580805d4002,0x1c005b00b4002,0x181003403001,0xfa5713032772946b422d2085,0xd04a091b640000af9902407640b00b02,0x1540ca5245bef48a52d94a90c12283,0xc0a20a03a01,0xe2801a001,0x18013bc841a001,0xf4804a0401,0xe26260898a8989136490,0x38090002,0x38980501202,0xc24a418090064050082,0x97240f7c4a81203,0x972437fa0a8083,0x31601a01,0x189003409001,0x62c03481,0x341284428851092124288510020f900c0081e403600107c840040f21301,0xd44480612101,0x30601a01,0x235cdd2f14c8a09f81,0x18100d0103001,0x1c003300b4002,0x1c048b0434002,0x4a0ad86db64f297b026a30570725003,0x18988018552064481084,0xec801a001,0x6026284e10811,0x34a2e45c02672011,0x6141481,0x29c545c20a8083,0x38980501202,0x1c58080834002,0x1a0020a400084800848008090080900a49248090080104a4924a492480104a49248010480104801048011bc800010fc828008de42421300113c84c0043f21301,0xe20a900020a6a1201,0x69474c00013bc824003a02,0x1a416a0004140010f2081,0xd04b500020a001381,0xe2608488201a01,0x2adc87ae4492d70a4f01003,0x34025201492424149240414924041120048404260a1301,0x14e3638a8003,0xd45880662101,0xd45884620181,0xd44e8063a101,0xd44e843a0181,0xe00210082,0xbb20d120a66724ba4e003,0x269b46298a8083,0x1ee56e7cfe2f4148479b81205,0x71301201482,0x9ea38a3120c4e003,0xd0094105a8001051d020a40008281,0x18500010481,0xd2814a240a500039010ac20004,0xd2894a040a50002101cac20004,0x1ad02405a001,0x18fa172c196f6e46d8003,0x4ac327a4f9fe4020258aa5e003,0x1167384a81203,0x12e486ff42701483,0x380007d0f30034002,0xd44080602101,0xea801a001,0xe2408068021201,0xd44484120181,0x1a010520021201090080824041202090104b9002103908008de426421301,0x35120261080a1391,0x6e400099c8b91,0x8368abe003e87c34002,0xe2408061201a01,0xc881908034002,0x189043449001,0xc48040200300d003002,0xd04f580b40280031e4002,0x1f500b60282001e4002,0x1a09eb01680500063c811002,0x3ea016c0504003c803002,0xe00403011002,0x2d966ffd8b3306f0a6083,0x6242800,0x1918080834002,0xe2821a001,0x25ce3e9cb3ec065103,0x134d360a8083,0x1c008b0434002,0xd4488a12111002,0x4d3404530018c003,0x18001,0xfa57130327c8531a422d2085,0xfa571696af5ca3da422d2085,0xfa571696b1ade6da422d2085,0x6a2045090082,0x310501202,0xca805a001,0x18016bc828a081,0xd0491002a0a00801,0xd2091002a0a6a001,0x29c6c71218c083,0x70080c8082,0xc289c231042028cc404401484,0x60027f20ae54d057002,0x1a40099a201d6024c131002,0x9580b61b6d5f955f632900f8a570725003,0x3104005402,0x764000c128c11,0x18001e79857000007bc802,0x38003cf20ae04001479057002,0x1c00c300b4002,0x41b487f0507c34002,0x38164b141a0bf4486be22e1085,0x1068fdebd64002,0xc00000000003d090fe820004000000000000fa081]
theorem oq (i:Nat):(rn (oP λx _=>x) (kg 0 oT i)).say:=Pt.ok _
end Mine
namespace Mine
open PySem
variable {α:Type}{A:Around}{E:Value->Shared->Prop}{s:Shared}{sc:List Int}{vs:List V}
theorem ai {a:α} {l:List α}:a∈a::l:= .head _
theorem bn {a j:α} {l:List α}:a∈j::a::l:= .tail _ ai
theorem ci {a j k:α} {l:List α}:a∈j::k::a::l:= .tail _ bn
theorem eP {a j k t:α} {l:List α}:a∈j::k::t::a::l:= .tail _ ci
theorem jY {a j k t y:α} {l:List α}:a∈j::k::t::y::a::l:= .tail _ eP
theorem qg {a j k t y z:α} {l:List α}:a∈j::k::t::y::z::a::l:= .tail _ jY
theorem s_ {a j k t y z D:α} {l:List α}:a∈j::k::t::y::z::D::a::l:= .tail _ qg
theorem wN {a j k t y z D F:α} {l:List α}:a∈j::k::t::y::z::D::F::a::l:= .tail _ s_
theorem Rj {a j k t y z D F G:α} {l:List α}:a∈j::k::t::y::z::D::F::G::a::l:= .tail _ wN
theorem aj {α:Type} {a b:α} (h:a∈ [b]):a=b:=w4.mp h
theorem aA {α:Type} {a:α} {l:List α} (r:List α) (h:a∈l):a∈l++r:=List.mem_append_left r h
theorem aS {α:Type} {a:α} {r:List α} (l:List α) (h:a∈r):a∈l++r:=List.mem_append_right l h
theorem aG {α:Type} {a:α} {l r:List α} (h:a∈l++r):a∈l\/a∈r:=JC.mp h
theorem aF {α:Type} (l:List α):l<+:l:=List.prefix_refl l
theorem aL {α:Type} {l r:List α}:(l++r).length=l.length+r.length:=List.length_append
theorem aC {α β:Type} {l:List α} (f:α->β):(l.map f).length=l.length:=List.length_map f
theorem bh {α:Type} {l:List α} {i:Nat} {a:α} (h:l[i]? =some a):a∈l:=List.mem_of_getElem? h
theorem aR {α:Type} {a b:α} {l:List α} (h:a∈b::l):a=b\/a∈l:=List.mem_cons.mp h
theorem aP {α:Type} {a b:α} (h:some a=some b):a=b:=Option.some.inj h
theorem aa {p} [Decidable p] (h:decide p=true):p:=JI h
theorem bw {α:Type} {a:α} {l:List α} (h:(a::l).Nodup):a∉l/\l.Nodup:=JV.mp h
theorem ba {α:Type} {a:α}:¬a∈ []:=List.not_mem_nil
theorem bZ {α:Type} {l:List α} {i:Nat} (h:i<l.length):l[i]? =some l[i]:=List.getElem?_eq_getElem h
theorem dB {α:Type} {l:List α} {i:Nat} {a:α} (h:l[i]? =some a):∃h:i<l.length,l[i]=a:=JQ.mp h
theorem bB:false≠true:=Bool.false_ne_true
theorem jI {x a0 a1:α} (h:x∈ [a0,a1]):x=a0\/x=a1:=by simpa only [List.mem_cons,ba,or_false] using h
theorem fL {x a0 a1 a2:α} (h:x∈ [a0,a1,a2]):x=a0\/x=a1\/x=a2:=by simpa only [List.mem_cons,ba,or_false] using h
theorem uP {x a0 a1 a2 j:α} (h:x∈ [a0,a1,a2,j]):x=a0\/x=a1\/x=a2\/x=j:=by simpa only [List.mem_cons,ba,or_false] using h
theorem AT {x a0 a1 a2 j k t y z:α} (h:x∈ [a0,a1,a2,j,k,t,y,z]):x=a0\/x=a1\/x=a2\/x=j\/x=k\/x=t\/x=y\/x=z:=by simpa only [List.mem_cons,ba,or_false] using h
theorem aZ {a b} (h:(a&&b)=true):a=true/\b=true:=Bool.and_eq_true_iff.mp h
theorem bq {a b c} (h:(a&&b&&c)=true):(a=true/\b=true)/\c=true:=⟨aZ (aZ h).1,(aZ h).2⟩
theorem gJ {a b c d} (h:(a&&b&&c&&d)=true):((a=true/\b=true)/\c=true)/\d=true:=⟨bq (aZ h).1,(aZ h).2⟩
theorem iq {d l r:List α} {x:α} (h:d++x::r=l):d++ [x]++r=l:=(DZ d [x] r).trans h
set_option genCtorIdx true in
inductive V where
 |none|bool (b:Bool)|int (i:Int)|str (s:Str)|tup (vs:List V)|ref (i:Nat)|cW (lo hi:Int)|tab (n:Nat)|eV
noncomputable instance:Inhabited V:=⟨.none⟩
theorem nf {p:Prop} (h:false=true):p:=Bool.noConfusion h
theorem bg {a:α} {P:Prop} (h:a∈([]:List α)):P:=(ba h).elim
theorem oY {M:Model} {c:Prop} [Decidable c] {a b:Sem α} {Q:α->Shared->Prop} (h:c) (k:wpAny M A a Q E s):wpAny M A (if c then a else b) Q E s:=by rw [ep h];exact k
theorem mT {M:Model} {c:Prop} [Decidable c] {a b:Sem α} {Q:α->Shared->Prop} (h:¬c) (k:wpAny M A b Q E s):wpAny M A (if c then a else b) Q E s:=by rw [fm h];exact k
theorem V.bool.inj {a b} (e:V.bool a= .bool b):a=b:=by injection e
theorem V.int.inj {a b} (e:V.int a= .int b):a=b:=by injection e
theorem V.str.inj {a b} (e:V.str a= .str b):a=b:=by injection e
theorem V.tup.inj {a b} (e:V.tup a= .tup b):a=b:=by injection e
noncomputable def V.nb (v:V):Bool:=V.casesOn (motive_1:=λ_=>Bool) v true (λ_=>false) (λ_=>false) (λ_=>false) (λ_=>false) (λ_=>false) (λ_ _=>false) (λ_=>false) false
noncomputable def V.cb (v:V):Bool:=V.casesOn (motive_1:=λ_=>Bool) v false (λ_=>false) (λ_=>false) (λ_=>false) (λ_=>false) (λ_=>false) (λ_ _=>false) (λ_=>false) true
noncomputable def V.bb (v:V) (b:Bool):Bool:=V.casesOn (motive_1:=λ_=>Bool) v false (λa=>a==b) (λ_=>false) (λ_=>false) (λ_=>false) (λ_=>false) (λ_ _=>false) (λ_=>false) false
noncomputable def V.ib (v:V) (b:Int):Bool:=V.casesOn (motive_1:=λ_=>Bool) v false (λ_=>false) (λa=>decide (a=b)) (λ_=>false) (λ_=>false) (λ_=>false) (λ_ _=>false) (λ_=>false) false
noncomputable def V.sb (v:V) (b:Str):Bool:=V.casesOn (motive_1:=λ_=>Bool) v false (λ_=>false) (λ_=>false) (λa=>a==b) (λ_=>false) (λ_=>false) (λ_ _=>false) (λ_=>false) false
noncomputable def V.rb (v:V) (b:Nat):Bool:=V.casesOn (motive_1:=λ_=>Bool) v false (λ_=>false) (λ_=>false) (λ_=>false) (λ_=>false) (λa=>Nat.beq a b) (λ_ _=>false) (λ_=>false) false
noncomputable def V.tb (v:V) (b:Nat):Bool:=V.casesOn (motive_1:=λ_=>Bool) v false (λ_=>false) (λ_=>false) (λ_=>false) (λ_=>false) (λ_=>false) (λ_ _=>false) (λa=>Nat.beq a b) false
noncomputable def V.gb (v:V) (c d:Int):Bool:=V.casesOn (motive_1:=λ_=>Bool) v false (λ_=>false) (λ_=>false) (λ_=>false) (λ_=>false) (λ_=>false) (λa b=>decide (a=c)&&decide (b=d)) (λ_=>false) false
noncomputable def V.vb (v:V) (f:List V->Bool):Bool:=V.casesOn (motive_1:=λ_=>Bool) v false (λ_=>false) (λ_=>false) (λ_=>false) (λvs=>f vs) (λ_=>false) (λ_ _=>false) (λ_=>false) false
def V.beq (a:V):V->Bool:=V.rec (motive_1:=λ_=>V->Bool) (motive_2:=λ_=>List V->Bool) V.nb (λa v=>v.bb a) (λa v=>v.ib a) (λa v=>v.sb a) (λ_ f v=>v.vb f) (λa v=>v.rb a) (λa b v=>v.gb a b) (λa v=>v.tb a) V.cb
 (λvs=>vs.isEmpty) (λ_ _ f g vs=>List.casesOn (motive:=λ_=>Bool) vs false λb bs=>f b&&g bs) a
def V.p_ (l:List V):List V->Bool:=V.rec_1 (motive_1:=λ_=>V->Bool) (motive_2:=λ_=>List V->Bool) V.nb (λa v=>v.bb a) (λa v=>v.ib a) (λa v=>v.sb a) (λ_ f v=>v.vb f) (λa v=>v.rb a) (λa b v=>v.gb a b) (λa v=>v.tb a) V.cb
 (λvs=>vs.isEmpty) (λ_ _ f g vs=>List.casesOn (motive:=λ_=>Bool) vs false λb bs=>f b&&g bs) l
theorem V.refl (a):V.beq a a=true:=
 V.rec (motive_1:=λa=>V.beq a a=true) (motive_2:=λl=>V.p_ l l=true) rfl (λb=>m5 b) (λ_=>gs rfl) (λs=>m5 s) (λ_ h=>h) (λn=>Nat.beq_refl n)
  (λ_ _=>by show (decide _&&decide _)=true;rw [gs rfl,gs rfl];rfl) (λn=>Nat.beq_refl n) rfl rfl (λ_ _ h t=>by show (V.beq _ _&&V.p_ _ _)=true;rw [h,t];rfl) a
theorem V.F8 (a:V):∀b,V.beq a b=true->a=b:=
 V.rec (motive_1:=λa=>∀b,V.beq a b=true->a=b) (motive_2:=λl=>∀m,V.p_ l m=true->l=m)
  (λb=>V.casesOn (motive_1:=λb=>V.beq (V.none) b=true->V.none=b) b (λ_=>rfl) (λ_=>nf) (λ_=>nf) (λ_=>nf) (λ_=>nf) (λ_=>nf) (λ_ _=>nf) (λ_=>nf) nf)
  (λa b=>V.casesOn (motive_1:=λb=>V.beq (V.bool a) b=true->V.bool a=b) b nf (λ_ h=>ej _ (g7.mp h).symm) (λ_=>nf) (λ_=>nf) (λ_=>nf) (λ_=>nf) (λ_ _=>nf) (λ_=>nf) nf)
  (λa b=>V.casesOn (motive_1:=λb=>V.beq (V.int a) b=true->V.int a=b) b nf (λ_=>nf) (λ_ h=>ej _ (aa h).symm) (λ_=>nf) (λ_=>nf) (λ_=>nf) (λ_ _=>nf) (λ_=>nf) nf)
  (λa b=>V.casesOn (motive_1:=λb=>V.beq (V.str a) b=true->V.str a=b) b nf (λ_=>nf) (λ_=>nf) (λ_ h=>ej _ (g7.mp h).symm) (λ_=>nf) (λ_=>nf) (λ_ _=>nf) (λ_=>nf) nf)
  (λa j b=>V.casesOn (motive_1:=λb=>V.beq (V.tup a) b=true->V.tup a=b) b nf (λ_=>nf) (λ_=>nf) (λ_=>nf) (λ_ h=>ej _ (j _ h)) (λ_=>nf) (λ_ _=>nf) (λ_=>nf) nf)
  (λa b=>V.casesOn (motive_1:=λb=>V.beq (V.ref a) b=true->V.ref a=b) b nf (λ_=>nf) (λ_=>nf) (λ_=>nf) (λ_=>nf) (λ_ h=>ej _ (Nat.eq_of_beq_eq_true h).symm) (λ_ _=>nf) (λ_=>nf) nf)
  (λa c b=>V.casesOn (motive_1:=λb=>V.beq (V.cW a c) b=true->V.cW a c=b) b nf (λ_=>nf) (λ_=>nf) (λ_=>nf) (λ_=>nf) (λ_=>nf) (λ_ _ h=>congr (ej _ (aa ((hQ _ _).mp h).1).symm) (aa ((hQ _ _).mp h).2).symm) (λ_=>nf) nf)
  (λa b=>V.casesOn (motive_1:=λb=>V.beq (V.tab a) b=true->V.tab a=b) b nf (λ_=>nf) (λ_=>nf) (λ_=>nf) (λ_=>nf) (λ_=>nf) (λ_ _=>nf) (λ_ h=>ej _ (Nat.eq_of_beq_eq_true h).symm) nf)
  (λb=>V.casesOn (motive_1:=λb=>V.beq (V.eV) b=true->V.eV=b) b nf (λ_=>nf) (λ_=>nf) (λ_=>nf) (λ_=>nf) (λ_=>nf) (λ_ _=>nf) (λ_=>nf) (λ_=>rfl))
  (λm=>List.casesOn (motive:=λm=>V.p_ [] m=true-> []=m) m (λ_=>rfl) λ_ _=>nf)
  (λa as j k m=>List.casesOn (motive:=λm=>V.p_ (a::as) m=true->a::as=m) m nf λb bs h=>congr (ej _ (j _ ((hQ _ _).mp h).1)) (k _ ((hQ _ _).mp h).2)) a
theorem V.GM {a b} (h:V.beq a b=false) (e:a=b):False:=bB (h.symm.trans (by rw [e];exact V.refl b))
noncomputable instance V.dec:DecidableEq V:=λa b=>match h:V.beq a b with|true=> .isTrue (V.F8 a b h)|false=> .isFalse (V.GM h)
set_option genCtorIdx true in
inductive O where
 |list (vs:List V)
 |dict (af:List (V×V))
 |inst (c:Nat) (fs:List (Nat×V))
noncomputable instance:Inhabited O:=⟨.list []⟩
noncomputable abbrev St:=List O
noncomputable abbrev M (α:Type):=St->Option (α×St)
noncomputable def ret {α} (a:α):M α:=λs=>some (a,s)
noncomputable def fail {α}:M α:=λ_=>none
noncomputable def ac {α β} (x:M α) (f:α->M β):M β:=λs=>match x s with|some (a,s')=>f a s'|none=>none
noncomputable def lift {α} (x:Option α):M α:=λs=>match x with|some a=>some (a,s)|none=>none
noncomputable def bC (i:Nat):M O:=λs=>match s[i]? with|some o=>some (o,s)|none=>none
noncomputable def i8 (i:Nat) (o:O):M Unit:=λs=>if i<s.length then some ((),s.set i o) else none
noncomputable def bN (o:O):M V:=λs=>some (.ref s.length,s++ [o])
set_option genCtorIdx true in
inductive BO where
 |add|sub|mul|div|mod|and|or
deriving DecidableEq,Inhabited
set_option genCtorIdx true in
inductive CO where
 |eq|ne|lt|le|gt|ge|isin|gA
deriving DecidableEq,Inhabited
set_option genCtorIdx true in
inductive BI where
 |len|range|tuple|list|str
deriving DecidableEq,Inhabited
mutual
inductive X where
 |lit (v:V)
 |loc (i:Nat)
 |ju (g:Nat)
 |tup (es:Xs)
 |lst (es:Xs)
 |mC (es:Xs)
 |neg (e:X)
 |not (e:X)
 |and (es:Xs)
 |or (es:Xs)
 |ite (c a b:X)
 |bin (op:BO) (a b:X)
 |rep (e n:X)
 |cmp (op:CO) (a b:X)
 |q6 (a:X) (o1:CO) (b:X) (o2:CO) (c:X)
 |sp (n:Bool) (e:X)
 |kY (e:X) (n:Nat)
 |idx (e i:X)
 |pg (e i:X)
 |fF (e i:X)
 |sW (e:X)
 |fn (f:Nat) (args:Xs)
 |new (c:Nat) (args:Xs)
 |jf (e:X) (n:Nat) (args:Xs)
 |blt (b:BI) (args:Xs)
 |comp (aw:List Nat) (var:Str) (elt iter:X) (bD:Xs)
inductive Xs where
 |nil
 |cons (x:X) (r:Xs)
end
noncomputable instance:Inhabited X:=⟨.lit .none⟩
noncomputable instance:Inhabited Xs:=⟨.nil⟩
mutual
inductive S where
 |expr (e:X)
 |asg (i:Nat) (e:X)
 |n6 (o:X) (n:Nat) (e:X)
 |k6 (o i:X) (e:X)
 |sK (is:List Nat) (e:X)
 |aug (i:Nat) (op:BO) (e:X)
 |ret (e:X)
 |ite (c:X) (a b:Ss)
 |rR (c:X) (b:Ss)
 |for (is:List Nat) (tup:Bool) (e:X) (b:Ss)
 |cont
 |pass
 |stuck
 |try (b:Ss)
inductive Ss where
 |nil
 |cons (s:S) (r:Ss)
end
noncomputable instance:Inhabited S:=⟨.pass⟩
noncomputable instance:Inhabited Ss:=⟨.nil⟩
theorem Xs.ind {P:Xs->Prop} (a:P .nil) (c:∀e r,P r->P (.cons e r)) (l:Xs):P l:=Xs.rec (motive_1:=λ_=>True) (motive_2:=P) (λ_=>trivial) (λ_=>trivial) (λ_=>trivial) (λ_ _=>trivial) (λ_ _=>trivial) (λ_ _=>trivial) (λ_ _=>trivial) (λ_ _=>trivial) (λ_ _=>trivial) (λ_ _=>trivial)
 (λ_ _ _ _ _ _=>trivial) (λ_ _ _ _ _=>trivial) (λ_ _ _ _=>trivial) (λ_ _ _ _ _=>trivial) (λ_ _ _ _ _ _ _ _=>trivial) (λ_ _ _=>trivial) (λ_ _ _=>trivial) (λ_ _ _ _=>trivial) (λ_ _ _ _=>trivial) (λ_ _ _ _=>trivial) (λ_ _=>trivial) (λ_ _ _=>trivial) (λ_ _ _=>trivial)
 (λ_ _ _ _ _=>trivial) (λ_ _ _=>trivial) (λ_ _ _ _ _ _ _ _=>trivial) a (λx r _=>c x r) l
theorem Ss.ind {P:Ss->Prop} (a:P .nil) (c:∀e r,P r->P (.cons e r)) (l:Ss):P l:=Ss.rec (motive_1:=λ_=>True) (motive_2:=P) (λ_=>trivial) (λ_ _=>trivial) (λ_ _ _=>trivial) (λ_ _ _=>trivial) (λ_ _=>trivial) (λ_ _ _=>trivial) (λ_=>trivial) (λ_ _ _ _ _=>trivial)
 (λ_ _ _=>trivial) (λ_ _ _ _ _=>trivial) trivial trivial trivial (λ_ _=>trivial) a (λx r _=>c x r) l
mutual
noncomputable def V.dep:V->Nat
 | .tup vs=>V.qD vs+1|_=>0
noncomputable def V.qD:List V->Nat
 | []=>0|v::vs=>max (V.dep v) (V.qD vs)
end
mutual
noncomputable def V.pure:V->Bool
 | .int _=>true| .str _=>true| .tup vs=>V.il vs|_=>false
noncomputable def V.il:List V->Bool
 | []=>true|v::vs=>V.pure v&&V.il vs
end
noncomputable def V.js:V->Bool
 | .bool _=>true|_=>false
def V.eqv (a b:V):Bool:=decide (a=b)
def nW (a b:V):Bool:=(a.pure&&b.pure&&decide (a.dep<=20))||(a.js&&b.js)
def keyOk (k:V):Bool:=k.pure&&decide (k.dep<=7)
noncomputable def kindOf:V->Nat
 | .int _=>0| .str _=>1|_=>2
def aE (af:List (V×V)) (k:V):Option V:=(af.find? λp=>decide (p.1=k)).map (·.2)
def aV (af:List (V×V)) (k v:V):List (V×V):=
 if (aE af k).isSome then af.map (λp=>if p.1=k then (p.1,v) else p) else af++ [(k,v)]
def bf (af:List (V×V)) (k:V):Bool:=keyOk k&&af.all λp=>kindOf p.1==kindOf k
def dj (x:V) (vs:List V):Option Bool:=if x.pure&&V.il vs&&decide (x.dep<=20) then some (vs.any λv=>V.eqv v x) else none
noncomputable def aH (fs:List (Nat×V)) (n:Nat):Option V:=(fs.find? λp=>p.1==n).map (·.2)
noncomputable def bV:List (Nat×V)->Nat->V->List (Nat×V)
 | [],n,v=> [(n,v)]|p::r,n,v=>if p.1==n then (n,v)::r else p::bV r n v
def truth (v:V):M Bool:=match v with
 | .none=>ret false| .bool b=>ret b| .int i=>ret (decide (i≠0))| .tup vs=>if vs.length<=100000 then ret (!vs.isEmpty) else fail
 | .ref i=>ac (bC i) λ
   | .list vs=>if vs.length<=100000 then ret (!vs.isEmpty) else fail|_=>fail
 |_=>fail
def b_ {α} (a b:V) (k:Int->Int->M α):M α:=match a with
 | .int x=>(match b with
   | .int y=>k x y|_=>fail)
 |_=>fail
def getL (i:Nat):M (List V):=ac (bC i) λo=>match o with| .list vs=>ret vs|_=>fail
def Ek (a b:V):M V:=match a with
 | .int x=>(match b with
   | .int y=>ret (.int (x+y))|_=>fail)
 | .tup x=>(match b with
   | .tup y=>if x.length+y.length<=100000 then ret (.tup (x++y)) else fail|_=>fail)
 | .str x=>(match b with
   | .str y=>if x.length+y.length<=1000 then ret (.str (x++y)) else fail|_=>fail)
 | .ref i=>(match b with
   | .ref j=>ac (getL i) λa=>ac (getL j) λb=>if a.length+b.length<=100000 then bN (.list (a++b)) else fail|_=>fail)
 |_=>fail
def binop (op:BO) (a b:V):M V:=match op with| .add=>Ek a b| .sub=>b_ a b λx y=>ret (.int (x-y))| .mul=>b_ a b λx y=>if x.natAbs<2^60 then ret (.int (x*y)) else fail| .div=>b_ a b λx y=>if 0<y/\x.natAbs<2^60 then ret (.int (x/y)) else fail| .mod=>b_ a b λx y=>if 0<y then ret (.int (x%y)) else fail| .and=>b_ a b λx y=>ret (.int (Builtin.bitAnd x y))| .or=>b_ a b λx y=>ret (.int (Builtin.bitOr x y))
noncomputable def tabs:Nat->List (Int×Int)
 |0=> [(0,20),(1,9),(2,10),(3,11),(4,12),(5,13),(6,14),(7,15),(8,16),(9,17),(10,18),(11,19),(12,1),(13,4)]|1=> [(20,0),(9,1),(10,2),(11,3),(12,4),(13,5),(14,6),(15,7),(16,8),(17,9),(18,10),(19,11),(1,12),(4,13)]|2=> [(4,3),(6,5),(8,7),(10,9)]|_=> []
noncomputable def ck (n:Nat) (k:Int):Option Int:=(tabs n).lookup k
def contains (c x:V):M Bool:=match c with
 | .tup vs=>lift (dj x vs)
 | .tab n=>(match x with
   | .int k=>ret (ck n k).isSome|_=>fail)
 | .ref i=>ac (bC i) λo=>match o with
   | .list vs=>lift (dj x vs)| .dict af=>if bf af x then ret (aE af x).isSome else fail|_=>fail
 |_=>fail
def cC (op:CO) (a b:V):M Bool:=match op with| .eq=>if nW a b then ret (V.eqv a b) else fail| .ne=>if nW a b then ret (!(V.eqv a b)) else fail| .lt=>b_ a b λx y=>ret (decide (x<y))| .le=>b_ a b λx y=>ret (decide (x<=y))| .gt=>b_ a b λx y=>ret (decide (x>y))| .ge=>b_ a b λx y=>ret (decide (x>=y))| .isin=>contains b a| .gA=>ac (contains b a) λr=>ret (!r)
def at' (vs:List V) (i:V):M V:=match i with| .int k=>if 0<=k/\k<2^60 then lift vs[k.toNat]? else fail|_=>fail
def index (o i:V):M V:=match o with
 | .tup vs=>at' vs i
 | .tab n=>(match i with
   | .int k=>ac (lift (ck n k)) λr=>ret (.int r)|_=>fail)
 | .ref j=>ac (bC j) λo=>match o with
   | .list vs=>at' vs i| .dict af=>if bf af i then lift (aE af i) else fail|_=>fail
 |_=>fail
def setIndex (o i v:V):M Unit:=match o with
 | .ref j=>ac (bC j) λo=>match o with
   | .list vs=>(match i with
     | .int k=>if 0<=k/\k<2^60/\k.toNat<vs.length then i8 j (.list (vs.set k.toNat v)) else fail|_=>fail)
   | .dict af=>if bf af i&&decide (af.length<=100000) then i8 j (.dict (aV af i v)) else fail|_=>fail
 |_=>fail
def intOf {α} (i:V) (k:Int->M α):M α:=match i with| .int a=>k a|_=>fail
def Ba (v:V) (x:M V):M V:=match v with| .none=>x|_=>fail
def sliceFrom (o:V) (i:V):M V:=match o with| .tup vs=>intOf i λk=>if 1<=k/\k.toNat<=vs.length/\vs.length<=100000 then ret (.tup (vs.drop k.toNat)) else fail|_=>fail
def sliceTo (sc:List Int) (o:V) (i:V):M V:=match o with| .tup vs=>intOf i λk=>if 0<=k/\k.toNat<=vs.length/\vs.length<=100000 then ret (.tup (vs.take k.toNat)) else fail| .eV=>intOf i λk=>if 0<=k/\k<2^60/\sc.length<=100000 then bN (.list ((sc.take k.toNat).map .int)) else fail|_=>fail
def pA (o:V):M V:=match o with| .ref i=>ac (getL i) λvs=>if vs.length<=100000 then bN (.list vs.reverse) else fail|_=>fail
noncomputable def fits (n:Nat):Bool:=decide (n<=100000)
def IG (v:V):M V:=match v with| .tup vs=>if fits vs.length then ret (.int vs.length) else fail| .ref i=>ac (getL i) λvs=>if fits vs.length then ret (.int vs.length) else fail|_=>fail
def OH (v:V):M V:=match v with| .tup vs=>ret (.tup vs)| .ref i=>ac (getL i) λvs=>if fits vs.length then ret (.tup vs) else fail|_=>fail
def GL (v:V):M V:=match v with| .tup vs=>if fits vs.length then bN (.list vs) else fail| .ref i=>ac (getL i) λvs=>if fits vs.length then bN (.list vs) else fail|_=>fail
def lW (args:List V) (k:V->M V):M V:=match args with| []=>fail|a::r=>if r.isEmpty then k a else fail
def vg (args:List V) (k:V->V->M V):M V:=match args with| []=>fail|a::r=>lW r (k a)
def builtin (b:BI) (args:List V):M V:=match b with
 | .len=>lW args IG
 | .range=>(match args with
   | []=>fail
   |a::r=>(match r with
    | []=>intOf a λn=>if n.natAbs<=100000 then ret (.cW 0 n) else fail|b::r=>if r.isEmpty then b_ a b λa n=>if a.natAbs<=100000/\n.natAbs<=100000 then ret (.cW a n) else fail else fail))
 | .tuple=>lW args OH| .list=>lW args GL| .str=>lW args λv=>intOf v λn=>if 0<=n/\n<100 then ret (.str (Str.ofString (toString n))) else fail
inductive MH where
 |fn (f:Nat)|append|pop|get|ck (n:Nat)
def sG (i:Nat):M (List (V×V)):=ac (bC i) λo=>match o with| .dict af=>ret af|_=>fail
def refOf {α} (o:V) (k:Nat->M α):M α:=match o with| .ref i=>k i|_=>fail
def ik (m:MH) (o:V) (args:List V):M V:=match m with
 | .append=>refOf o λi=>lW args λv=>ac (getL i) λvs=>if vs.length<=100000 then ac (i8 i (.list (vs++ [v]))) λ_=>ret .none else fail
 | .pop=>refOf o λi=>ac (getL i) λvs=>match args with
   | []=>(match vs.getLast? with
     |some v=>if vs.length<=100000 then ac (i8 i (.list vs.dropLast)) λ_=>ret v else fail|none=>fail)
   |_=>fail
 | .get=>refOf o λi=>vg args λk d=>ac (sG i) λaf=>if bf af k then ret ((aE af k).getD d) else fail| .ck t=>vg args λk d=>b_ k d λk d=>ret (.int ((ck t k).getD d))| .fn _=>fail
noncomputable def intsFrom (lo:Int):Nat->List V
 |0=> []|n+1=> .int lo::intsFrom (lo+1) n
def itemsOf (v:V):M (Bool×List V):=match v with
 | .tup vs=>ret (false,vs)| .cW lo j=>if lo.natAbs<=100000/\j.natAbs<=100000 then ret (false,intsFrom lo (j-lo).toNat) else fail
 | .ref i=>ac (bC i) λo=>match o with
   | .list vs=>if fits vs.length then ret (false,vs) else fail| .dict af=>if fits af.length then ret (true,af.map (·.1)) else fail|_=>fail
 |_=>fail
def jp (v:V) (vs:Bool×List V):M Unit:=match v with
 | .ref i=>ac (bC i) λo=>match o with
   | .list ws=>if vs.1=false/\ws=vs.2 then ret () else fail| .dict af=>if vs.1=true/\af.map (·.1)=vs.2 then ret () else fail|_=>fail
 |_=>ret ()
structure CD where
 init:Nat
 meths:List (Nat×Nat)
deriving Inhabited
def getAttr (ct:Nat->CD) (o:V) (n:Nat):M V:=match o with
 | .ref i=>ac (bC i) λ
   | .inst c fs=>if ((ct c).meths.lookup n).isNone then lift (aH fs n) else fail|_=>fail
 |_=>fail
def setAttr (ct:Nat->CD) (o:V) (n:Nat) (v:V):M Unit:=match o with
 | .ref i=>ac (bC i) λ
   | .inst c fs=>if ((ct c).meths.lookup n).isNone/\fs.length<=900 then i8 i (.inst c (bV fs n v)) else fail|_=>fail
 |_=>fail
structure FD where
 np:Nat
 slots:Nat
 body:Ss
noncomputable instance:Inhabited FD:=⟨⟨0,0,.nil⟩⟩
noncomputable abbrev ag:=List (Option V)
noncomputable def iW (ρ:ag) (i:Nat):M V:=lift (ρ[i]?.join)
noncomputable def gj (ρ:ag) (i:Nat) (v:V):ag:=ρ.set i (some v)
def ie (ct:Nat->CD) (o:V) (n:Nat):M MH:=match o with
 | .ref i=>ac (bC i) λ
   | .inst c fs=>if (aH fs n).isSome then fail else match (ct c).meths.lookup n with
     |some f=>ret (.fn f)|none=>fail
   | .list _=>match n with
     |0=>ret .append|1=>ret .pop|_=>fail
   | .dict _=>match n with
     |2=>ret .get|_=>fail
 | .tab t=>match n with
     |2=>ret (.ck t)|_=>fail
 |_=>fail
section
variable (sc:List Int) (gl:Nat->V) (ct:Nat->CD) (cl:Nat->List V->M V)
noncomputable def jT (j:V) (all:Bool×List V) (f:V->M (Option V)):List V->M (List V)
 | []=>ac (jp j all) λ_=>ret []|v::vs=>ac (jp j all) λ_=>ac (f v) λo=>ac (jT j all f vs) λr=>ret (match o with|some y=>y::r|none=>r)
noncomputable def pairUp:List V->Option (List (V×V))
 | []=>some []|k::v::r=>(pairUp r).map ((k,v)::·)|_=>none
noncomputable def fp (j:List (V×V)):List (V×V)->M (List (V×V))
 | []=>ret j|(k,v)::r=>if bf j k then fp (aV j k v) r else fail
mutual
noncomputable def aY (ρ:ag):X->M V
 | .lit v=>ret v| .loc i=>iW ρ i| .ju g=>ret (gl g)| .tup es=>ac (gT ρ es) λvs=>if fits vs.length then ret (.tup vs) else fail| .lst es=>ac (gT ρ es) λvs=>if fits vs.length then bN (.list vs) else fail| .mC es=>ac (gT ρ es) λvs=>ac (lift (pairUp vs)) λps=>if ps.length<=15 then ac (fp [] ps) λaf=>bN (.dict af) else fail| .neg e=>ac (aY ρ e) λv=>intOf v λi=>ret (.int (-i))| .not e=>ac (aY ρ e) λv=>ac (truth v) λb=>ret (.bool (!b))| .and es=>qj ρ es| .or es=>qk ρ es| .ite c a b=>ac (aY ρ c) λv=>ac (truth v) λt=>if t then aY ρ a else aY ρ b| .bin op a b=>ac (aY ρ a) λx=>ac (aY ρ b) λy=>binop op x y| .rep e n=>ac (aY ρ e) λv=>ac (aY ρ n) λk=>intOf k λk=>if 0<=k/\k<=1000 then bN (.list (List.replicate k.toNat v)) else fail| .cmp op a b=>ac (aY ρ a) λx=>ac (aY ρ b) λy=>ac (cC op x y) λr=>ret (.bool r)| .q6 a J b L c=>ac (aY ρ a) λx=>ac (aY ρ b) λy=>ac (cC J x y) λr=>
     if r then ac (aY ρ c) λz=>ac (cC L y z) λQ=>ret (.bool Q) else ret (.bool false)
 | .sp n e=>ac (aY ρ e) λv=>ret (.bool (if n then !v.nb else v.nb))| .kY e n=>ac (aY ρ e) λo=>getAttr ct o n| .idx e i=>ac (aY ρ e) λo=>ac (aY ρ i) λk=>index o k| .pg e i=>ac (aY ρ e) λo=>ac (aY ρ i) λk=>sliceFrom o k| .fF e i=>ac (aY ρ e) λo=>ac (aY ρ i) λk=>sliceTo sc o k| .sW e=>ac (aY ρ e) λo=>pA o| .fn f args=>ac (gT ρ args) λvs=>cl f vs| .new c args=>ac (gT ρ args) λvs=>ac (bN (.inst c [])) λself=>ac (cl (ct c).init (self::vs)) λr=>Ba r (ret self)
 | .jf e n args=>ac (aY ρ e) λo=>ac (ie ct o n) λm=>ac (gT ρ args) λvs=>match m with
     | .fn f=>cl f (o::vs)|m=>ik m o vs
 | .blt b args=>ac (gT ρ args) λvs=>builtin b vs| .comp aw _ G iter bD=>ac (aY ρ iter) λD=>ac (itemsOf D) λvs=>
     ac (jT D vs (λv=>
      let br:ag:=some v::aw.map λi=>ρ[i]?.join
      ac (mZ br bD) λok=>if ok then ac (aY br G) λy=>ret (some y) else ret none) vs.2) λI=>if fits I.length then bN (.list I) else fail
noncomputable def gT (ρ:ag):Xs->M (List V)
 | .nil=>ret []| .cons e r=>ac (aY ρ e) λv=>ac (gT ρ r) λvs=>ret (v::vs)
noncomputable def qj (ρ:ag):Xs->M V
 | .nil=>fail| .cons e .nil=>aY ρ e| .cons e r=>ac (aY ρ e) λv=>ac (truth v) λt=>if t then qj ρ r else ret v
noncomputable def qk (ρ:ag):Xs->M V
 | .nil=>fail| .cons e .nil=>aY ρ e| .cons e r=>ac (aY ρ e) λv=>ac (truth v) λt=>if t then ret v else qk ρ r
noncomputable def mZ (ρ:ag):Xs->M Bool
 | .nil=>ret true| .cons c .nil=>ac (aY ρ c) λv=>truth v| .cons _ _=>fail
end
set_option genCtorIdx true in
inductive Fl where
 |next|cont|ret (v:V)
deriving Inhabited
noncomputable def pu (test:ag->M Bool) (body:ag->M (Fl×ag)):Nat->ag->M (Fl×ag)
 |0,_=>fail
 |n+1,ρ=>ac (test ρ) λt=>if t then ac (body ρ) λp=>match p.1 with
   | .ret v=>ret (.ret v,p.2)|_=>pu test body n p.2
  else ret (.next,ρ)
noncomputable def bindAll:List Nat->List V->ag->Option ag
 | [],[],ρ=>some ρ|i::is,v::vs,ρ=>bindAll is vs (gj ρ i v)|_,_,_=>none
def dN (is:List Nat) (tup:Bool) (v:V) (ρ:ag):Option ag:=
 if tup then (match v with| .tup vs=>bindAll is vs ρ|_=>none)
 else match is with| [i]=>some (gj ρ i v)|_=>none
noncomputable def ql (j:V) (all:Bool×List V) (jn:V->ag->Option ag) (body:ag->M (Fl×ag)):List V->ag->M (Fl×ag)
 | [],ρ=>ac (jp j all) λ_=>ret (.next,ρ)
 |v::vs,ρ=>ac (jp j all) λ_=>ac (lift (jn v ρ)) λk=>ac (body k) λp=>match p.1 with
   | .ret v=>ret (.ret v,p.2)|_=>ql j all jn body vs p.2
noncomputable def hX:Nat:=1000000
mutual
noncomputable def iM:S->ag->M (Fl×ag)
 | .expr e,ρ=>ac (aY sc gl ct cl ρ e) λ_=>ret (.next,ρ)| .asg i e,ρ=>ac (aY sc gl ct cl ρ e) λv=>ret (.next,gj ρ i v)| .n6 o n e,ρ=>ac (aY sc gl ct cl ρ e) λv=>ac (aY sc gl ct cl ρ o) λk=>ac (setAttr ct k n v) λ_=>ret (.next,ρ)| .k6 o i e,ρ=>ac (aY sc gl ct cl ρ e) λv=>ac (aY sc gl ct cl ρ o) λk=>ac (aY sc gl ct cl ρ i) λD=>ac (setIndex k D v) λ_=>ret (.next,ρ)| .sK is e,ρ=>ac (aY sc gl ct cl ρ e) λv=>ac (lift (dN is true v ρ)) λbr=>ret (.next,br)| .aug i op e,ρ=>ac (iW ρ i) λa=>ac (aY sc gl ct cl ρ e) λb=>b_ a b λx y=>ac (binop op (.int x) (.int y)) λv=>ret (.next,gj ρ i v)| .ret e,ρ=>ac (aY sc gl ct cl ρ e) λv=>ret (.ret v,ρ)| .ite c a b,ρ=>ac (aY sc gl ct cl ρ c) λv=>ac (truth v) λt=>if t then dF a ρ else dF b ρ| .rR c b,ρ=>pu (λρ=>ac (aY sc gl ct cl ρ c) λv=>truth v) (dF b) hX ρ| .for is tup e b,ρ=>ac (aY sc gl ct cl ρ e) λj=>ac (itemsOf j) λvs=>ql j vs (dN is tup) (dF b) vs.2 ρ| .cont,ρ=>ret (.cont,ρ)| .pass,ρ=>ret (.next,ρ)| .stuck,_=>fail| .try b,ρ=>dF b ρ
noncomputable def dF:Ss->ag->M (Fl×ag)
 | .nil,ρ=>ret (.next,ρ)
 | .cons s r,ρ=>ac (iM s ρ) λp=>match p.1 with
     | .next=>dF r p.2|_=>ret p
end
end
noncomputable def io (n:Nat) (vs:List V):ag:=vs.map some++List.replicate (n-vs.length) none
noncomputable def cD (sc:List Int) (gl:Nat->V) (ct:Nat->CD) (ft:Nat->FD):Nat->Nat->List V->M V
 |0,_,_=>fail
 |d+1,f,args=>if args.length=(ft f).np/\(ft f).np<=20 then
   ac (dF sc gl ct (cD sc gl ct ft d) (ft f).body (io (ft f).slots args)) λp=>match p.1 with| .ret v=>ret v|_=>ret .none
  else fail
theorem Mr {gl} {ct} {ft} {d f} (h:vs.length=(ft f).np/\(ft f).np<=20):
 cD sc gl ct ft (d+1) f vs=ac (dF sc gl ct (cD sc gl ct ft d) (ft f).body (io (ft f).slots vs)) λp=>match p.1 with| .ret v=>ret v|_=>ret .none:=ep h
end Mine
namespace Mine
open PySem SeqAt
variable {h h':Heap}{a:Addr}{vs:List V}{items:Array Value}{prog:Program}{w:World}{A:Around}{E:Value->Shared->Prop}{s:Shared}
mutual
noncomputable def KV (h:Heap):V->Value->Prop
 | .int i,x=>∃t,x= .int i t| .str s,x=>∃t,x= .str s t| .tup vs,x=>∃a items,x= .ref a/\h.IsTuple a items/\dG h vs items.toList|_,_=>False
noncomputable def dG (h:Heap):List V->List Value->Prop
 | [],xs=>xs= []|v::vs,xs=>∃x r,xs=x::r/\KV h v x/\dG h vs r
end
theorem AG {x y} (t:h.IsTuple a x) (z:h.IsTuple a y):x=y:=by obtain ⟨_,ho,_,_,hd⟩:=t;obtain ⟨_,j,_,_,k⟩:=z;rw [ho] at j;rw [<-aP j,hd] at k;injection k
theorem pc {a b} {P:Prop} (c:Value) (e:c=a) (j:c=b) (n:a≠b):P:=dv (e.symm.trans j) n
theorem KV.inj u:∀(v) (x),KV h u x->KV h v x->u=v:=
 V.rec (motive_2:=λl=>∀(m:List V) (x),dG h l x->dG h m x->l=m)
  (λ_ _ e=>e.elim) (λ_ _ _ e=>e.elim)
  (λi v x h=>h.elim λt e=>by induction v using V.casesOn<;>first|exact False.elim|exact λh=>h.elim λt j=>ej _ (Value.int.inj (e.symm.trans j)).1|exact λh=>h.elim λ_ j=>pc x e j (λh=>by trivial)|exact λh=>h.elim λ_ h=>h.elim λ_ h=>pc x e h.1 (λh=>by trivial))
  (λi v x h=>h.elim λt e=>by induction v using V.casesOn<;>first|exact False.elim|exact λh=>h.elim λt j=>ej _ (Value.str.inj (e.symm.trans j)).1|exact λh=>h.elim λ_ j=>pc x e j (λh=>by trivial)|exact λh=>h.elim λ_ h=>h.elim λ_ h=>pc x e h.1 (λh=>by trivial))
  (λvs D v x h=>by obtain ⟨a,it,e,t,k⟩:=h;induction v using V.casesOn<;>first|exact False.elim|exact λh=>h.elim λ_ j=>pc x e j (λh=>by trivial)|exact λh=>h.elim λb h=>h.elim λrz h=>ej _ (D _ _ k (by rw [AG t (Value.ref.inj (e.symm.trans h.1)▸h.2.1)];exact h.2.2)))
  (λ_ _ _ e=>e.elim) (λ_ _ _ _ e=>e.elim) (λ_ _ _ e=>e.elim) (λ_ _ e=>e.elim)
  (λm x e=>by induction m using List.casesOn<;>first|exact λ_=>rfl|exact (by rintro ⟨_,_,j,_⟩;exact dv (e.symm.trans j) nofun))
  (λa as D F m x k=>by induction m with|nil=>obtain ⟨y,r,e,_⟩:=k;exact λj=>dv (e.symm.trans j) (λh=>by trivial)|cons b m=>rintro ⟨z,G,rfl,I,J⟩;obtain ⟨y,r,e,p,q⟩:=k;injection e with L Q;rw [D b z (L▸p) I,F m G (Q▸q) J]) u
theorem KV.keeps (hk:∀b items,h.IsTuple b items->h'.IsTuple b items) u:∀{x},KV h u x->KV h' u x:=
 V.rec (motive_1:=λu=>∀{x},KV h u x->KV h' u x) (motive_2:=λl=>∀{x},dG h l x->dG h' l x)
  id (λ_ {_} e=>e) (λ_ {_} e=>e) (λ_ {_} e=>e) (λ_ j {_}=>(by rintro ⟨a,it,e,t,k⟩;exact ⟨a,it,e,hk _ _ t,j k⟩)) (λ_ {_} e=>e) (λ_ _ {_} e=>e) (λ_ {_} e=>e) id id
  (λ_ _ j z {_}=>(by rintro ⟨y,r,e,p,q⟩;exact ⟨y,r,e,j p,z q⟩)) u
mutual
noncomputable def jM (w:World):V->Int
 | .int i=>hashInt i| .str x=>hashStr w x| .tup vs=>reduceHash (Builtin.Tuple.tupleHashOf (jL w vs))|_=>0
noncomputable def jL (w:World):List V->List Int
 | []=> []|v::vs=>jM w v::jL w vs
end
mutual
noncomputable def lm:V->Nat
 | .tup vs=>nX vs+1|_=>1
noncomputable def nX:List V->Nat
 | []=>0|v::vs=>lm v+nX vs
end
theorem dG.length:∀{u} {x},dG h u x->x.length=u.length:=by
 intro j;induction j with|nil=>intro _ e;exact ej _ e|cons _ _ k=>rintro _ ⟨_,_,e,_,q⟩;exact (ej _ e).trans (ej Nat.succ (k q))
theorem Ht w k:∀done,jL w (done++ [k])=jL w done++ [jM w k]:=by
 intro j;induction j with|nil=>exact rfl|cons a l t=>exact ej (jM w a::·) t
theorem QY k:∀done,nX (done++ [k])=nX done+lm k:=by
 intro j;induction j with|nil=>exact (Nat.zero_add _).symm|cons a l t=>exact (ej (lm a+·) t).trans (Nat.add_assoc _ _ _).symm
theorem wr:∀{vs} {v},v∈vs->v.dep<=V.qD vs:=by
 intro j;induction j with|nil=>intros;trivial|cons _ _ k=>intro _ h;exact (aR h).elim (λe=>e▸JK _ _) λh=>df (k h) (JP _ _)
inductive HI (w:World) vs (s:Shared):List Value->Array Int->Shared->Prop
 |mk (done left) {rest:List Value} {b:Array Int}:vs=done++left->dG s.heap left rest->b.toList=jL w done->HI w vs s rest b {s with toks:=s.toks+nX done}
section
open F
theorem GT {Q} (G:A.units<cLine) (I:s.heap.IsTuple a items) (hk:dG s.heap vs items.toList)
 (J:∀(t) (v) (x) (L) (y) (s'),v∈vs->t.units=A.units+1->KV s'.heap v x->y (jM w v) {s' with toks:=s'.toks+lm v}->wpAny (model prog w) t (pyHash x) y L s')
 (h:Q (jM w (.tup vs)) {s with toks:=s.toks+lm (.tup vs)}):wpAny (model prog w) A (pyHash (.ref a)) Q E s:=by
 obtain ⟨o,ho,Y,n,hd⟩:=I;have j:s.TypeIs (.ref a) "tuple":=⟨o,ho,Y⟩
 first|unfold pyHashByItsType|skip
 first|refine b' (wpAny_cRoomFor_or (.inr G) ?_)|skip
 refine b' (wpAny_specialOf j F.slot_tuple_hash.lookup ?_);refine mT (by rw [beq_builtin_none];exact bB)<|b' (wpAny_specialOf j F.slot_tuple_hash.lookup ?_);refine b' (wpAny_callSpecialIfBoundUnlessNone?_slot j F.slot_tuple_hash (wpAny_call_entry F.slot_tuple_hash j F.entry_tuple_hash ?_ (F.args_tuple_hash_1 _)));show wpAny _ _ (Builtin.Tuple.tupleItemsOf (.ref a)>>=_) _ _ s;refine b' (wpAny_tupleItemsOf ho hd (b' ?_));rw [<-Array.forIn_toList];refine wpAny_forIn_list _ (HI w vs s) _ ?_ ?_ _ _ (.mk [] vs rfl hk rfl)
 ·rintro x rest b _ ⟨done,left,hv,hl,hb⟩;induction left with|nil=>contradiction|cons k left=>
   obtain ⟨_,_,e,Z,hl⟩:=hl;injection e with e1 e2;refine b' (J _ k x _ _ _ (by rw [hv];exact aS _ ai) rfl (e1▸Z) ?_);have z:=HI.mk (vs:=vs) (s:=s) (rest:=rest) (b:=b.push (jM w k)) (done++ [k]) left (by rw [hv,DZ];rfl) (e2▸hl) (by rw [Array.toList_push,hb,Ht]);rw [QY,<-Nat.add_assoc] at z
   first
    |exact ez z
    |exact b' (ez (ez z))
 ·rintro b _ ⟨done,left,hv,hl,hb⟩;induction left with|cons=>obtain ⟨_,_,e,_⟩:=hl;contradiction|nil=>
   rw [hR] at hv;show wpAny _ _ (retInt (Builtin.Tuple.tupleHashOf b.toList)) _ _ _;rw [hb,<-hv];apply wpAny_ret_mkInt;show wpAny _ _ (if (decide (-(2:Int)^63<=Builtin.Tuple.tupleHashOf (jL w vs))&&decide (Builtin.Tuple.tupleHashOf (jL w vs)<2^63))=true then _ else _) Q E _;have h:Q (if _ then _ else _) {s with toks:=s.toks+nX vs+1}:=h;by_cases D:(decide (-(2:Int)^63<=Builtin.Tuple.tupleHashOf (jL w vs))&&decide (Builtin.Tuple.tupleHashOf (jL w vs)<2^63))=true
   ·rw [ep D] at h⊢;exact ez h
   ·rw [fm D] at h⊢;exact b' (wpAny_rule (ez h))
theorem P0 n:∀v x A E Q s,v.dep<=n->A.units+n<cLine->KV s.heap v x->
 Q (jM w v) {s with toks:=s.toks+lm v}->wpAny (model prog w) A (pyHash x) Q E s:=by
 induction n with
 |zero=>
  intro v x A E Q s hd j hk h;induction v using V.casesOn with|int i=>obtain ⟨t,rfl⟩:=hk;exact wpAny_pyHash_int h|str i=>obtain ⟨t,rfl⟩:=hk;exact wpAny_pyHash_str h|tup vs=>exact dv hd (Nat.not_succ_le_zero _)|_=>exact hk.elim
 |succ n z=>
  intro v x A E Q s hd j hk h;induction v using V.casesOn with|int i=>obtain ⟨t,rfl⟩:=hk;exact wpAny_pyHash_int h|str i=>obtain ⟨t,rfl⟩:=hk;exact wpAny_pyHash_str h|tup vs=>obtain ⟨a,it,rfl,t,k⟩:=hk;exact GT (rk (ro _ _) j) t k (λD v x F G s' hm I y h'=>z v x D F G s' (df (wr hm) (Nat.le_of_succ_le_succ hd)) (by rw [I,Nat.add_right_comm];exact j) y h') h|_=>exact hk.elim
end
variable {d:Addr}{u v k:V}{y:Value}{o:Obj}
theorem NV:∀(us vs:List V) e,(∀j u v,us[j]? =some u->vs[j]? =some v->e j=decide (u=v))->((List.range (min us.length vs.length)).all e&&us.length==vs.length)=decide (us=vs):=by
 intro us;induction us with
 |nil=>
  intro vs;induction vs with|nil=>exact λ_ _=>rfl|cons b vs=>exact λ_ _=>(hI λh=>by trivial).symm
 |cons a us t=>
  intro vs;induction vs with
  |nil=>exact λ_ _=>(hI λh=>by trivial).symm|cons b vs=>
  intro e h;have hm:min (a::us).length (b::vs).length=min us.length vs.length+1:=Nat.succ_min_succ ..;have hl:((a::us).length==(b::vs).length)=(us.length==vs.length):=by simp
  rw [hm,hl,List.range_succ_eq_map,List.all_cons,List.all_map,h 0 a b rfl rfl,Bool.and_assoc];refine (ej (decide (a=b)&&·) (t vs (λj=>e (j+1)) λj=>h (j+1))).trans ?_;rw [<-JD];exact decide_eq_decide.mpr (List.cons.injEq .. ▸Iff.rfl)
theorem dG.get:∀{vs} {xs},dG h vs xs->∀(j:Nat) x,xs[j]? =some x->∃v,vs[j]? =some v/\KV h v x:=by
 intro z;induction z with|nil=>intro _ e j x t;rw [show _= [] from e] at t;trivial|cons v _ D=>
  rintro _ ⟨y,r,e,p,q⟩ j x t;rw [e] at t;induction j with|zero=>exact ⟨v,rfl,aP t▸p⟩|succ j=>exact D q j x t
section
theorem EqAt.of_rc {b} {r} (j:a≠b) (h:RcAt A s (.ref a) (.ref b) r):EqAt A s (.ref a) (.ref b) r:=λprog w E Q t=>by
 unfold eqBool
 try with_reducible refine ny ?_
 exact mT (by simpa using j)<|b' (h prog w E _ (wpAny_truthy_bool t))
theorem EqAt.same a:EqAt A s (.ref a) (.ref a) true:=λprog w E Q j=>by
 unfold eqBool
 try with_reducible refine ny ?_
 exact oY (m5 _)<|b' (wpAny_rule (ez j))
structure kh (A:Around) (s:Shared) (x y) b:Prop where
 rc:RcAt A s x y b
 eq:EqAt A s x y b
 ne:RcNeAt A s x y (!b)
theorem kh.ii (a b t u):kh A s (.int a t) (.int b u) (decide (V.int a= .int b)):=by have e:decide (V.int a= .int b)=(a==b):=decide_eq_decide.mpr ⟨V.int.inj,ej _⟩;rw [e];exact ⟨.int_int a t b u,.int_int a t b u,.int_int a t b u⟩
theorem kh.ss (a b t u):kh A s (.str a t) (.str b u) (decide (V.str a= .str b)):=by have e:decide (V.str a= .str b)=(a==b):=JH.mpr (nz.trans ⟨λh=>g7.mpr (V.str.inj h),λh=>ej _ (g7.mp h)⟩);rw [e];exact ⟨.str_str a t b u,.str_str a t b u,.str_str a t b u⟩
theorem kh.flat {x} (D:∀vs,u= .tup vs\/v= .tup vs->A.units<cLine) (G:KV s.heap u x) (F:KV s.heap v y) (h:u.dep=0\/v.dep=0):kh A s x y (decide (u=v)):=by
 induction u using V.casesOn with
 |int i=>
  obtain ⟨t,rfl⟩:=G;induction v using V.casesOn with
  |int j=>obtain ⟨z,rfl⟩:=F;exact .ii ..
  |str j=>obtain ⟨z,rfl⟩:=F;exact ⟨.int_str i t j z,.int_str i t j z,.int_str i t j z⟩|tup vs=>obtain ⟨_,_,rfl,z,_⟩:=F;exact ⟨.int_tuple i t z (D _ (.inr rfl)),.int_tuple i t z (D _ (.inr rfl)),.int_tuple i t z (D _ (.inr rfl))⟩|_=>exact F.elim
 |str i=>
  obtain ⟨t,rfl⟩:=G;induction v using V.casesOn with
  |int j=>obtain ⟨z,rfl⟩:=F;exact ⟨.str_int i t j z,.str_int i t j z,.str_int i t j z⟩|str j=>obtain ⟨z,rfl⟩:=F;exact .ss ..
  |tup vs=>obtain ⟨_,_,rfl,z,_⟩:=F;exact ⟨.str_tuple i t z (D _ (.inr rfl)),.str_tuple i t z (D _ (.inr rfl)),.str_tuple i t z (D _ (.inr rfl))⟩|_=>exact F.elim
 |tup us=>
  obtain ⟨_,_,rfl,t,_⟩:=G;induction v using V.casesOn with|int j=>obtain ⟨z,rfl⟩:=F;exact ⟨.tuple_int j z t (D _ (.inl rfl)),.tuple_int j z t (D _ (.inl rfl)),.tuple_int j z t (D _ (.inl rfl))⟩|str j=>obtain ⟨z,rfl⟩:=F;exact ⟨.tuple_str j z t (D _ (.inl rfl)),.tuple_str j z t (D _ (.inl rfl)),.tuple_str j z t (D _ (.inl rfl))⟩|tup vs=>exact (h.elim (Nat.succ_ne_zero _) (Nat.succ_ne_zero _)).elim|_=>exact F.elim
 |_=>exact G.elim
end
def oS (us vs:List V) (j:Nat):Bool:=decide (us[j]? =vs[j]?)
theorem ug (n):∀(u v) (x y) (A) (s),(u.dep<=n\/v.dep<=n)->A.units+n<cLine->KV s.heap u x->KV s.heap v y->kh A s x y (decide (u=v)):=by
 induction n with|zero=>exact λu v x y A s hd J G I=> .flat (λ_ _=>J) G I (hd.imp Nat.le_zero.mp Nat.le_zero.mp)|succ n ih=>
  intro u v x y A s hd J G I;have D:=rk (ro _ _) J;induction u using V.casesOn with
  |tup us=>
   induction v using V.casesOn with
   |tup vs=>
    obtain ⟨a,it,rfl,t,k⟩:=G;obtain ⟨b,z,rfl,Y,Z⟩:=I;have el:∀j (L:j<it.size) (Q:j<z.size),EqAt A.in1 s it[j] z[j] (oS us vs j):=λj L Q=>by
     obtain ⟨u,e1,q1⟩:=k.get j it[j] (by rw [D',Array.getElem?_eq_getElem L]);obtain ⟨v,e2,q2⟩:=Z.get j z[j] (by rw [D',Array.getElem?_eq_getElem Q]);have e:oS us vs j=decide (u=v):=by unfold oS;rw [e1,e2];exact decide_eq_decide.mpr ⟨aP,ej _⟩
     rw [e];exact (ih u v _ _ A.in1 s (hd.imp (λh=>df (wr (bh e1)) (Nat.le_of_succ_le_succ h)) λh=>df (wr (bh e2)) (Nat.le_of_succ_le_succ h)) (by rw [Nat.add_right_comm];exact J) q1 q2).eq
    have fin:((List.range (min it.size z.size)).all (oS us vs)&&it.size==z.size)=decide (V.tup us= .tup vs):=by rw [<-vu,<-vu,k.length,Z.length,NV us vs _ λj u v L Q=>by unfold oS;rw [L,Q];exact decide_eq_decide.mpr ⟨aP,ej _⟩];exact decide_eq_decide.mpr ⟨ej _,V.tup.inj⟩
    have hr:=RcAt.tuples t Y D el;have hn:=RcNeAt.tuples t Y D el;rw [fin] at hr hn;refine ⟨hr,?_,hn⟩;by_cases F:a=b
    ·have:V.tup us=V.tup vs:=KV.inj _ _ (.ref b) ⟨b,it,rfl,F▸t,k⟩ ⟨b,z,rfl,Y,Z⟩;rw [gs this,F];exact EqAt.same b
    ·exact EqAt.of_rc F hr
   |_=>exact .flat (λ_ _=>D) G I (.inr rfl)
  |_=>exact .flat (λ_ _=>D) G I (.inl rfl)
section
theorem Aj n {x} {Q} (hk:KV s.heap v x) (h:Q true s) (j:∀vs,v= .tup vs->wpAny (model prog w) A (eqIsQuiet (n+1) x) Q E s):wpAny (model prog w) A (eqIsQuiet (n+1) x) Q E s:=by
 induction v using V.casesOn with|int i=>obtain ⟨t,rfl⟩:=hk;rw [eqIsQuiet_byValue _ rfl];exact ez h|str i=>obtain ⟨t,rfl⟩:=hk;rw [eqIsQuiet_byValue _ rfl];exact ez h|tup vs=>exact j _ rfl|_=>exact hk.elim
theorem PP (n):∀(v) (x) (A) (E) (Q) (s),v.dep<=n->KV s.heap v x->Q true s->
 wpAny (model prog w) A (eqIsQuiet (n+1) x) Q E s:=by
 induction n with|zero=>exact λv x A E Q s hd hk h=>Aj 0 hk h λvs e=>dv (e▸hd) (Nat.not_succ_le_zero _)|succ n G=>
  refine λv x A E Q s hd hk h=>Aj _ hk h λvs e=> ?_;rw [e] at hd hk;obtain ⟨a,items,rfl,⟨o,ho,I,m,j⟩,k⟩:=hk;have t:s.TypeIs (.ref a) "tuple":=⟨o,ho,I⟩;unfold eqIsQuiet;refine b' (wpAny_specialOf t F.slot_tuple_eq.lookup ?_);refine b' (wpAny_isInstance t isSubtype_tuple_tuple ?_);refine b' (wpAny_seqItems ho j (b' ?_));rw [<-Array.forIn_toList];refine wpAny_forIn_list _ (λrest r s'=>r.1=none/\s'=s/\∃left,dG s.heap left rest/\V.qD left<=n) _ ?_ ?_ _ _ ⟨rfl,rfl,vs,k,Nat.le_of_succ_le_succ hd⟩
  ·rintro u rest r _ ⟨z,rfl,left,hl,D⟩;induction left with|nil=>trivial|cons v left=>obtain ⟨_,_,e,J,L⟩:=hl;injection e with Y Z;refine b' (G v _ _ _ _ _ (df (JK _ _) D) (Y▸J) ?_);simp only [Bool.not_true,Bool.false_eq_true];exact ez ⟨rfl,rfl,left,Z▸L,df (JP _ _) D⟩
  ·rintro ⟨r1,r2⟩ _ ⟨z,rfl,_⟩;rw [show r1=none from z];exact ez h
end
def isKey (h:Heap) (k:V) (a:Addr):Prop:=k.dep<=7/\KV h k (.ref a)
theorem D2 {es z} (ho:h.get? d=some o) (hd:o.data= .dict es z) (D:Heap.SameBut d h h'):∀b items,h.IsTuple b items->h'.IsTuple b items:=
 λb items ⟨F,j,G,n,t⟩=>⟨F,(D.2 b λq=>by rw [q,ho] at j;rw [<-aP j,hd] at t;trivial).trans j,G,n,t⟩
def gX (prog:Program) (w:World):HeapKind prog w V where
 is:=isKey
 hash:=jM w
 draws:=lm
 room:=λA=>A.units+8<cLine
 inj:=λj t=>KV.inj _ _ _ j.2 t.2
 keeps:=λx ho hd D=>⟨x.1,KV.keeps (D2 ho hd D) _ x.2⟩
 pyHash:=λz hk h=>P0 7 _ _ _ _ _ _ hk.1 (rk (tu _) z) hk.2 h
 eqBool:=λ{A E s x y a b Q} z j t h=>(ug 7 x y _ _ A s (.inl j.1) (rk (tu _) z) j.2 t.2).eq prog w E Q h
 quiet:=λhk h=>PP 7 _ _ _ _ _ _ hk.1 hk.2 h
noncomputable def k_:V->Value->Bool
 | .int i,x=>x.isInt i| .str s,x=>Value.isStrOf s x|_,_=>false
theorem Mm {x} (h:k_ k x=true):k.dep=0:=by (revert h;generalize k=j;intro h;induction j using V.casesOn<;>first|exact rfl|exact (bB h).elim)
theorem yN {x} (h:k_ k x=true) vs (e:k= .tup vs):False:=by rw [e] at h;exact bB h
theorem kW {x} h (e:k_ k x=true):KV h k x/\carriedByValue x=true:=by
 induction k using V.casesOn with|int i=>obtain ⟨t,rfl⟩:=Value.isInt_shape e;exact ⟨⟨t,rfl⟩,rfl⟩|str s=>obtain ⟨t,rfl⟩:=Value.isStrOf_shape e;exact ⟨⟨t,rfl⟩,rfl⟩|_=>exact (bB e).elim
def jx (prog:Program) (w:World):KeyKind prog w V where
 is:=k_
 hash:=jM w
 inj:=λv _ _ h h'=>KV.inj (h:=default) _ _ v (kW _ h).1 (kW _ h').1
 byValue:=λk v h=>(kW default h).2
 pyHash:=λ{A E s k v Q} hv h=>by
  have:=(kW s.heap hv).1;induction k using V.casesOn with|int i=>obtain ⟨t,rfl⟩:=this;exact wpAny_pyHash_int h|str i=>obtain ⟨t,rfl⟩:=this;exact wpAny_pyHash_str h|_=>exact (bB hv).elim
 eqBool:=λ{A E s _ _ _ _ Q} j hv h=>(kh.flat (λ_ e=>(e.elim (yN j _) (yN hv _)).elim) (kW _ j).1 (kW _ hv).1 (.inl (Mm j))).eq prog w E Q h
 «strs»:=λk x t v h=>by
  induction k using V.casesOn with|str s=>exact (PySem.strKind prog w).strs s x t v h|_=>exact (bB h).elim
end Mine
section
open PySem SeqAt PyProof.Rows W
set_option genSizeOfSpec false
set_option maxRecDepth 100000
namespace Mine
variable
 {γ δ α β:Type}
 {h h' gq:Heap}
 {v:V}
 {vs:List V}
 {items:Array Value}
 {o:Obj}
 {C:Cx}
 {c c' kJ:Cf}
noncomputable def F2 {α β} (R:α->β->Prop):List α->List β->Prop
 | [],bs=>bs= []|a::as,bs=>∃b r,bs=b::r/\R a b/\F2 R as r
namespace F2
variable {R:α->β->Prop}
theorem nil:F2 R [] []:=rfl
theorem cons {a b as bs} (h:R a b) (t:F2 R as bs):F2 R (a::as) (b::bs):=⟨b,bs,rfl,h,t⟩
theorem ind {P:List α->List β->Prop} (j:P [] []) (k:∀a as b bs,R a b->F2 R as bs->P as bs->P (a::as) (b::bs)) {as}:∀{bs},F2 R as bs->P as bs:=by
 induction as with|nil=>rintro _ rfl;exact j|cons a as y=>rintro _ ⟨b,r,rfl,h,t⟩;exact k _ _ _ _ h t (y t)
theorem length {as} {bs}:F2 R as bs->as.length=bs.length:=ind (R:=R) (P:=λas bs=>as.length=bs.length) rfl λ_ _ _ _ _ _ i=>ej Nat.succ i
theorem mono {S:α->β->Prop} (h:∀a b,R a b->S a b) {as} {bs}:F2 R as bs->F2 S as bs:=ind nil λ_ _ _ _ r _ i=>cons (h _ _ r) i
theorem app {cs} {ds} (y:F2 R cs ds) {as} {bs}:F2 R as bs->F2 R (as++cs) (bs++ds):=ind (P:=λas bs=>F2 R (as++cs) (bs++ds)) y λ_ _ _ _ r _ i=>cons r i
theorem snoc {as} {bs} {a} {b} (x:F2 R as bs) (y:R a b):F2 R (as++ [a]) (bs++ [b]):=app (cons y nil) x
theorem rev {as} {bs}:F2 R as bs->F2 R as.reverse bs.reverse:=ind (P:=λas bs=>F2 R as.reverse bs.reverse) nil λ_ _ _ _ r _ i=>by rw [List.reverse_cons,List.reverse_cons];exact i.snoc r
theorem getL {as} {bs}:F2 R as bs->∀(i:Nat) a,as[i]? =some a->∃b,bs[i]? =some b/\R a b:=
 ind (P:=λas bs=>∀(i:Nat) (a),as[i]? =some a->∃b,bs[i]? =some b/\R a b) (λ_ _ h=>nomatch h) λ_ _ b _ r _ j i=>i.casesOn (λ_ h=>⟨b,rfl,aP h▸r⟩) λi _ h=>j i _ h
theorem drop {as} {bs}:F2 R as bs->∀n,F2 R (as.drop n) (bs.drop n):=
 ind (P:=λas bs=>∀n,F2 R (as.drop n) (bs.drop n)) (λn=>by rw [List.drop_nil,List.drop_nil];exact nil) λ_ _ _ _ r t i n=>n.casesOn (cons r t) λn=>i n
theorem take {as} {bs}:F2 R as bs->∀n,F2 R (as.take n) (bs.take n):=
 ind (P:=λas bs=>∀n,F2 R (as.take n) (bs.take n)) (λn=>by rw [List.take_nil,List.take_nil];exact nil) λ_ _ _ _ r _ i n=>n.casesOn nil λn=>cons r (i n)
theorem set {a} {b} (y:R a b) {as} {bs}:F2 R as bs->∀i,F2 R (as.set i a) (bs.set i b):=
 ind (P:=λas bs=>∀(i),F2 R (as.set i a) (bs.set i b)) (λ_=>nil) λ_ _ _ _ r t i n=>n.casesOn (cons y t) λn=>cons r (i n)
theorem Gg {S} {f:α->γ} {g:β->δ} (h:∀a b,R a b->S (f a) (g b)) {as} {bs}:F2 R as bs->F2 S (as.map f) (bs.map g):=
 ind (P:=λas bs=>F2 S (as.map f) (bs.map g)) nil λ_ _ _ _ r _ i=>cons (h _ _ r) i
end F2
structure Loc where
 a:Addr
 d:Addr
structure Cf where
 μ:List Loc
 s:Shared
structure Cx where
 prog:Program
 w:World
 base:Heap
 K:Frag
 gV:K.In base
 mg:Str->Option Value
 mb:Str->Option Value
 g:base.Ns mainGlobals mg
 b:base.Ns builtinsNs mb
 Pz:base.NoLimit
 lP:Addr
 lU:List Value
 sc:List Int
 Pq:base.IsList lP lU.toArray
 yi:IntsAre lU sc
 gz:Nat->Addr
 cm:Nat->Addr
 nm:Nat->Str
 nn:Nat
 Jm:∀i j,i<nn->j<nn->nm i=nm j->i=j
 PJ:∀n,n<3->∃xs,base.DictOf (intKind prog w) (gz n) xs/\F2 (λp (q:Int×Value)=>p.1=q.1/\∃t,q.2= .int p.2 t) (tabs n) xs
 tabS:∀n,n<3->(gz n==sysModules)=false
 GP:(base.get? sysModules).isSome=true
noncomputable abbrev Cx.M (C:Cx):Model:=model C.prog C.w
mutual
noncomputable def VR (C:Cx) (c:Cf):V->Value->Prop
 | .none,x=>x= .none| .bool b,x=>x= .bool b| .int i,x=>∃t,x= .int i t| .str s,x=>∃t,x= .str s t| .tup vs,x=>∃a items,x= .ref a/\c.s.heap.IsTuple a items/\aU C c vs items.toList| .ref i,x=>∃l,c.μ[i]? =some l/\x= .ref l.a| .cW lo j,x=>∃a t u v,x= .ref a/\IsRange c.s.heap a lo j 1 t u v| .tab n,x=>n<3/\x= .ref (C.gz n)| .eV,x=>x= .ref C.lP
noncomputable def aU (C:Cx) (c:Cf):List V->List Value->Prop
 | [],xs=>xs= []|v::vs,xs=>∃x r,xs=x::r/\VR C c v x/\aU C c vs r
end
section
theorem aU.f2:∀{v} {x},aU C c v x->F2 (VR C c) v x:=by
 intro j;induction j with|nil=>intro _ e;exact e|cons _ _ k=>rintro _ ⟨b,r,e,x,t⟩;exact ⟨b,r,e,x,k t⟩
theorem F2.kz:∀{v} {x},F2 (VR C c) v x->aU C c v x:=by
 intro j;induction j with|nil=>intro _ e;exact e|cons _ _ k=>rintro _ ⟨b,r,e,x,t⟩;exact ⟨b,r,e,x,k t⟩
theorem VR.kv v:∀{x},VR C c v x->v.pure=true->KV c.s.heap v x:=
 V.rec (motive_1:=λv=>∀{x},VR C c v x->v.pure=true->KV c.s.heap v x) (motive_2:=λl=>∀{x},aU C c l x->V.il l=true->dG c.s.heap l x)
  (λ{_} _ p=>bB p) (λ_ {_} _ p=>bB p) (λ_ {_} e _=>e) (λ_ {_} e _=>e) (λ_ j {_}=>(by rintro ⟨a,it,e,t,k⟩ p;exact ⟨a,it,e,t,j k p⟩))
  (λ_ {_} _ p=>bB p) (λ_ _ {_} _ p=>bB p) (λ_ {_} _ p=>bB p) (λ{_} _ p=>bB p)
  (λ{_} e _=>e) (λ_ _ j y {_}=>(by rintro ⟨b,r,e,x,t⟩ p;exact ⟨b,r,e,j x ((hQ _ _).mp p).1,y t ((hQ _ _).mp p).2⟩)) v
abbrev DA (h h':Heap):Prop:=∀b items,h.IsTuple b items->h'.IsTuple b items
abbrev OC (h h':Heap):Prop:=∀a lo j t u v,IsRange h a lo j 1 t u v->IsRange h' a lo j 1 t u v
structure Still (h h':Heap):Prop where
 tup:DA h h'
 cW:OC h h'
theorem Still.ay:Still h h:=⟨λ_ _ x=>x,λ_ _ _ _ _ _ x=>x⟩
theorem Still.trans (x:Still h h') (y:Still h' gq):Still h gq:=⟨λb i z=>y.tup b i (x.tup b i z),λa lo j t u v z=>y.cW a lo j t u v (x.cW a lo j t u v z)⟩
theorem Still.of_keeps (k:∀b o,h.get? b=some o->h'.get? b=some o):Still h h':=
 ⟨λ_ _=>(by rintro ⟨o,ho,r⟩;exact ⟨o,k _ _ ho,r⟩),λ_ _ _ _ _ _ e=>k _ _ e⟩
abbrev PF (c c':Cf):Prop:=∀(i:Nat) (l:Loc),c.μ[i]? =some l->c'.μ[i]? =some l
structure Mo (c c':Cf):Prop where
 pre:PF c c'
 gZ:Still c.s.heap c'.s.heap
theorem VR.mono (m:Mo c c') v:∀{x},VR C c v x->VR C c' v x:=
 V.rec (motive_1:=λv=>∀{x},VR C c v x->VR C c' v x) (motive_2:=λl=>∀{x},aU C c l x->aU C c' l x)
  id (λ_ {_} e=>e) (λ_ {_} e=>e) (λ_ {_} e=>e) (λ_ j {_}=>(by rintro ⟨a,it,e,t,k⟩;exact ⟨a,it,e,m.gZ.tup _ _ t,j k⟩))
  (λ_ {_}=>(by rintro ⟨l,e,z⟩;exact ⟨l,m.pre _ _ e,z⟩)) (λ_ _ {_}=>(by rintro ⟨a,t,u,v,e,r⟩;exact ⟨a,t,u,v,e,m.gZ.cW _ _ _ _ _ _ r⟩)) (λ_ {_} e=>e) id
  id (λ_ _ j y {_}=>(by rintro ⟨b,r,e,x,t⟩;exact ⟨b,r,e,j x,y t⟩)) v
theorem VR.m (m:Mo c c') {x} (h:VR C c v x):VR C c' v x:=VR.mono m v h
theorem aU.m (m:Mo c c') {v} {x} (h:aU C c v x):aU C c' v x:=(h.f2.mono λ_ _ z=>z.m m).kz
theorem aU.length {v} {x} (h:aU C c v x):v.length=x.length:=h.f2.length
theorem aU.size (k:aU C c vs items.toList):items.size=vs.length:=by rw [k.length,vu]
theorem aU.app {a b} {x y} (k:aU C c a x) (l:aU C c b y):aU C c (a++b) (x++y):=(l.f2.app k.f2).kz
theorem aU.wV {i:Nat} (k:aU C c vs items.toList) (e:vs[i]? =some v):∃x,items[i]? =some x/\VR C c v x:=
 (by obtain ⟨x,h,r⟩:=k.f2.getL i v e;exact ⟨x,(D' ..).symm.trans h,r⟩)
def ig (knd:HeapKind prog w V) (h:Heap) (d:Addr) (xs:List (V×Addr×Value)):Prop:=
 ∃o es,h.get? d=some o/\o.ExactDict/\o.data= .dict es xs.length/\es.toList=xs.map (entryOfKey knd)/\(∀x∈xs,knd.is h x.1 x.2.1)/\(xs.map (·.1)).Nodup
noncomputable def KR {β} (S:V->β->Prop) (p:V×V) (q:V×β):Prop:=p.1=q.1/\S p.2 q.2
def cS (C:Cx) (c:Cf) (a:Addr) (af:List (V×V)):Prop:=
 (∃xs,c.s.heap.DictAt (jx C.prog C.w) a xs xs.length/\F2 (KR (VR C c)) af xs)\/
 (∃xs,ig (gX C.prog C.w) c.s.heap a xs/\F2 (KR λv b=>VR C c v b.2) af xs)
structure jE (C:Cx) (c:Cf) (p:Nat×V) (e:DictEntry):Prop where
 lt:p.1<C.nn
 hash:e.hash=PyData.keyHash C.w.params (C.nm p.1)
 key:∃t,e.key= .str (C.nm p.1) t
 val:VR C c p.2 e.val
structure oX (C:Cx) (c:Cf) (l:Loc) vs (items:Array Value):Prop where
 at':c.s.heap.PlainList l.a items
 vals:aU C c vs items.toList
 own:l.d=l.a
structure w6 (C:Cx) (c:Cf) (l:Loc) k fs (es:Array DictEntry) n:Prop where
 obj:c.s.heap.get? l.a=some (instObj (C.cm k) l.d)
 dict:c.s.heap.get? l.d=some ⟨.type "dict",none,.dict es n,#[]⟩
 vals:F2 (jE C c) fs es.toList
 own:l.d≠l.a
def gW (C:Cx) (c:Cf) (l:Loc):O->Prop
 | .list vs=>∃items,oX C c l vs items| .dict af=>cS C c l.a af/\l.d=l.a| .inst k fs=>∃es n,w6 C c l k fs es n
noncomputable def Own (c:Cf) (b:Addr):Prop:=∃(i:Nat) (l:Loc),c.μ[i]? =some l/\(b=l.a\/b=l.d)
abbrev JZ (C:Cx) (c:Cf) (st:St):Prop:=∀(i:Nat) (l) (o),c.μ[i]? =some l->st[i]? =some o->gW C c l o
abbrev Jd (c:Cf):Prop:=∀(i j:Nat) (l k),c.μ[i]? =some l->c.μ[j]? =some k->i≠j->l.a≠k.a/\l.a≠k.d/\l.d≠k.d
abbrev Js (C:Cx) (c:Cf):Prop:=∀b,Own c b->C.base.get? b=none
abbrev Dy (C:Cx) (c:Cf):Prop:=∀b o,C.base.get? b=some o->c.s.heap.get? b=some o
structure Rep (C:Cx) (c:Cf) (st:St):Prop where
 len:c.μ.length=st.length
 objs:JZ C c st
 apart:Jd c
 mR:Js C c
 base:Dy C c
abbrev Em (X:Addr->Prop) (c c':Cf):Prop:=∀b o,c.s.heap.get? b=some o->¬Own c b->¬X b->c'.s.heap.get? b=some o
abbrev Hw (c c':Cf):Prop:=∀b,Own c' b->¬Own c b->c.s.heap.get? b=none
structure Gx (X:Addr->Prop) (c c':Cf):Prop where
 mo:Mo c c'
 keep:Em X c c'
 fresh:Hw c c'
 nx:∀b,X b->¬Own c' b
 rest:c'.s={c.s with heap:=c'.s.heap,toks:=c'.s.toks}
noncomputable def No (_:Addr):Prop:=False
noncomputable abbrev Go:=Gx No
theorem Mo.refl:Mo c c:=⟨λ_ _ e=>e,.ay⟩
theorem Mo.trans (x:Mo c c') (y:Mo c' kJ):Mo c kJ:=⟨λi l e=>y.pre i l (x.pre i l e),x.gZ.trans y.gZ⟩
theorem bX {b} {P:Prop} (e:h.get? b=none) (j:h.get? b=some o):P:=dv (e.symm.trans j) nofun
theorem none_of {b} (k:∀o,h.get? b=some o->False):h.get? b=none:=Option.eq_none_iff_forall_ne_some.mpr k
theorem Gx.trans {X:Addr->Prop} (x:Gx X c c') (y:Gx X c' kJ):Gx X c kJ where
 mo:=x.mo.trans y.mo
 keep:=λb o e n f=>y.keep b o (x.keep b o e n f) (λz=>bX (x.fresh b z n) e) f
 fresh:=λb o n=>Classical.byCases (λz=>x.fresh b z n) λz=>none_of λ_ q=>bX (y.fresh b o z) (x.keep b _ q n λf=>y.nx b f o)
 nx:=y.nx
 rest:=by rw [y.rest,x.rest]
theorem Gx.refl {X} (n:∀b,X b->¬Own c b):Gx X c c:=⟨.refl,λ_ _ e _ _=>e,λ_ x y=>dv x y,n,rfl⟩
theorem Go.refl:Go c c:=Gx.refl λ_=>False.elim
theorem Gx.wide {X} (g:Go c c') (n:∀b,X b->¬Own c' b):Gx X c c':=⟨g.mo,λb o e m _=>g.keep b o e m id,g.fresh,n,g.rest⟩
def Po {α} (X:Addr->Prop) (K:Cf->St->α->Prop) (c:Cf) (r:Option (α×St)) (J:Cf->α->Prop):Prop:=match r with|some p=>∀c',Gx X c c'->K c' p.2 p.1->J c' p.1|none=>False
theorem Po.after {X} {K} {J} (g:Gx X c c'):∀{r:Option (α×St)},Po X K c r J->Po X K c' r J
 |some _,h=>λkJ j=>h kJ (g.trans j)
theorem Po.bd {X} {K} {y} {J} {z} {st} {f:α->M β} {x} (q:Po X y c (ac x f st) z)
 (k:∀a t j,Gx X c j->K j t a->Po X y j (f a t) z->J j a):Po X K c (x st) J:=by
 unfold Mine.ac at q;induction e:x st using Option.casesOn with|none=>rw [e] at q;exact q|some p=>rw [e] at q;exact λc' g h=>k _ p.2 c' g h (Po.after g q)
theorem Po.ite {X} {K} {J} {st} {b} [Decidable b] {x:M α} {P:Prop} (q:Po X K c ((if b then x else fail) st) J) (k:b->Po X K c (x st) J->P):P:=by
 by_cases h:b
 ·rw [ep h] at q;exact k h q
 ·rw [fm h] at q;exact q.elim
theorem Po.tP {X} {K} {J} {st} {f:α->M β} {x} {P:Prop} (q:Po X K c (Mine.ac (lift x) f st) J) (k:∀a,x=some a->Po X K c (f a st) J->P):P:=by
 induction x with|none=>exact q.elim|some a=>exact k a rfl q
theorem Po.qN {X} {K} {J} {st} {x:Option α} {P:Prop} (q:Po X K c (Mine.lift x st) J) (k:∀a,x=some a->Po X K c (some (a,st)) J->P):P:=by
 induction x with|none=>exact q.elim|some a=>exact k a rfl q
abbrev PV (C:Cx) (c:Cf) (r:Option (V×St)) (Q:Value->Shared->Prop):Prop:=Po No (λc' st _=>Rep C c' st) c r λc' v=>∀x,VR C c' v x->Q x c'.s
abbrev PB (C:Cx) (c:Cf) (r:Option (Bool×St)) (Q:Bool->Shared->Prop):Prop:=Po No (λc' st _=>Rep C c' st) c r λc' b=>Q b c'.s
abbrev PU (C:Cx) (c:Cf) (r:Option (Unit×St)) (Q:Unit->Shared->Prop):Prop:=Po No (λc' st _=>Rep C c' st) c r λc' b=>Q b c'.s
end
end Mine
end
namespace Mine
open PySem SeqAt PyProof.Rows W
variable {o:Obj}{a:Addr}{h h':Heap}{w:World}{af:List (V×V)}{l:Loc}{s':Shared}{α:Type}{c₀ c' c:Cf}{bM:St}{v:V}{Q:Value->Shared->Prop}{vs:List V}{items:Array Value}{xs:List Value}{C:Cx}
noncomputable def TR (o:Obj):Prop:=(o.cls= .type "tuple"/\∃x n,o.data= .seq x n)\/(o.cls= .type "range"/\∃x,o.data= .fields x)
theorem Cg {a} (e:o.cls= .type a) (j:Value.type a≠ .type "tuple") (k:Value.type a≠ .type "range"):¬TR o:=λh=>h.elim (λh=>j (e.symm.trans h.1)) λh=>k (e.symm.trans h.1)
theorem yB {d sl j}:¬TR ⟨.type "list",d,j,sl⟩:=Cg rfl (aa rfl) (aa rfl)
theorem oQ {es j} (e:o.data= .dict es j):¬TR o:=λh=>h.elim (by rintro ⟨_,_,_,q⟩;exact nomatch e.symm.trans q) (by rintro ⟨_,_,q⟩;exact nomatch e.symm.trans q)
theorem E9 (e:o.cls= .ref a):¬TR o:=λh=>h.elim (λh=>nomatch e.symm.trans h.1) λh=>nomatch e.symm.trans h.1
theorem Still.of (k:∀b o,h.get? b=some o->TR o->h'.get? b=some o):Still h h':=
 ⟨λb x=>(by rintro ⟨o,ho,j,n,r⟩;exact ⟨o,k b o ho (.inl ⟨j,x,n,r⟩),j,n,r⟩),λa _ _ _ _ _ e=>k a _ e (.inr ⟨rfl,_,rfl⟩)⟩
section
variable {st:St}
theorem DictAt.at' {K} [DecidableEq K] {p} {knd:KeyKind p w K} {xs} {n} (e:∀o,h.get? a=some o->h'.get? a=some o):h.DictAt knd a xs n->h'.DictAt knd a xs n:=(by rintro ⟨o,es,ho,r⟩;exact ⟨o,es,e _ ho,r⟩)
theorem ig.at' {p} {xs} (e:∀o,h.get? a=some o->h'.get? a=some o) (t:∀b items,h.IsTuple b items->h'.IsTuple b items):ig (gX p w) h a xs->ig (gX p w) h' a xs:=(by rintro ⟨o,es,ho,k,hd,y,r⟩;exact ⟨o,es,e _ ho,k,hd,y,λx j=>⟨(r.1 x j).1,KV.keeps t _ (r.1 x j).2⟩,r.2⟩)
theorem KR.m (m:Mo c c') p q (z:KR (VR C c) p q):KR (VR C c') p q:=⟨z.1,z.2.m m⟩
theorem KR.mH (m:Mo c c') p (q:V×Addr×Value) (z:KR (λv b=>VR C c v b.2) p q):KR (λv b=>VR C c' v b.2) p q:=⟨z.1,z.2.m m⟩
theorem cS.mono (m:Mo c c') (e:∀o,c.s.heap.get? a=some o->c'.s.heap.get? a=some o):cS C c a af->cS C c' a af:=
 λh=>h.elim (by rintro ⟨xs,h,f⟩;exact .inl ⟨xs,DictAt.at' e h,f.mono (KR.m m)⟩) (by rintro ⟨xs,h,f⟩;exact .inr ⟨xs,ig.at' e m.gZ.tup h,f.mono (KR.mH m)⟩)
theorem jE.m (m:Mo c c') {p} {e} (x:jE C c p e):jE C c' p e:=⟨x.lt,x.hash,x.key,x.val.m m⟩
theorem gW.mono (m:Mo c c') (ea:∀b o,b=l.a\/b=l.d->c.s.heap.get? b=some o->c'.s.heap.get? b=some o):∀{o},gW C c l o->gW C c' l o
 | .list _,⟨items,x⟩=>⟨items,x.at'.at (ea _ · (.inl rfl)),x.vals.m m,x.own⟩| .dict _,x=>⟨x.1.mono m (ea _ · (.inl rfl)),x.2⟩| .inst _ _,⟨es,n,x⟩=>⟨es,n,ea _ _ (.inl rfl) x.obj,ea _ _ (.inr rfl) x.dict,x.vals.mono λ_ _ y=>y.m m,x.own⟩
theorem cS.obj (h:cS C c a af):∃o es k,c.s.heap.get? a=some o/\o.ExactDict/\o.data= .dict es k:=
 h.elim (by rintro ⟨_,h,_⟩;exact (by obtain ⟨o,es,ho,j,hd,_⟩:=h;exact ⟨o,es,_,ho,j,hd⟩)) (by rintro ⟨_,h,_⟩;exact (by obtain ⟨o,es,ho,j,hd,_⟩:=h;exact ⟨o,es,_,ho,j,hd⟩))
theorem gW.there {b} (hb:b=l.a\/b=l.d):∀{o},gW C c l o->∃o,c.s.heap.get? b=some o/\¬TR o
 | .list _,⟨_,x⟩=>(by obtain ⟨_,e⟩:=x.at';exact ⟨_,by rw [hb.elim id λh=>h.trans x.own];exact e,yB⟩)| .dict _,x=>(by obtain ⟨o,_,_,e,_,hd⟩:=x.1.obj;exact ⟨o,by rw [hb.elim id λh=>h.trans x.2];exact e,oQ hd⟩)| .inst _ _,⟨_,_,x⟩=>hb.elim (λh=>⟨_,h▸x.obj,E9 rfl⟩) λh=>⟨_,h▸x.dict,oQ rfl⟩
theorem Rep.loc (R:Rep C c st) {i:Nat} (e:c.μ[i]? =some l):∃o,st[i]? =some o/\gW C c l o:=
 have h:=R.len▸(dB e).1
 ⟨st[i],bZ h,R.objs i l _ e (bZ h)⟩
theorem Rep.there (R:Rep C c st) {b:Addr}:Own c b->∃o,c.s.heap.get? b=some o/\¬TR o:=(by rintro ⟨_,_,e,hb⟩;exact (by obtain ⟨_,_,x⟩:=R.loc e;exact x.there hb))
theorem Rep.free (R:Rep C c st) {b} (e:c.s.heap.get? b=none):¬Own c b:=λx=>(by obtain ⟨_,ho,_⟩:=R.there x;exact bX e ho)
theorem Rep.nH (R:Rep C c st) {b} (e:c.s.heap.get? b=none):C.base.get? b=none:=none_of λ_ h=>bX e (R.base _ _ h)
theorem Rep.tr (R:Rep C c st) {b} (e:c.s.heap.get? b=some o) (t:TR o):¬Own c b:=λx=>(by obtain ⟨_,ho,n⟩:=R.there x;exact n (aP (e.symm.trans ho)▸t))
structure RG (C:Cx) (c c':Cf) st:Prop where
 r:Rep C c' st
 g:Go c c'
theorem RG.m (x:RG C c c' st):Mo c c':=x.g.mo
noncomputable def Rest (s s':Shared):Prop:=s'={s with heap:=s'.heap,toks:=s'.toks}
theorem Rep.gM (R:Rep C c st) (S:Still c.s.heap s'.heap) (k:∀b o,c.s.heap.get? b=some o->Own c b\/C.base.get? b=some o->s'.heap.get? b=some o):Rep C ⟨c.μ,s'⟩ st where
 len:=R.len
 objs:=λi l _ e j=>gW.mono (c:=c) (c':=⟨c.μ,s'⟩) ⟨λ_ _ e=>e,S⟩ (λb o hb h=>k b o h (.inl ⟨i,l,e,hb⟩)) (R.objs i l _ e j)
 apart:=R.apart
 mR:=R.mR
 base:=λb o e=>k b o (R.base b o e) (.inr e)
theorem Rep.grow (R:Rep C c st) (e:Rest c.s s') (k:∀b o,c.s.heap.get? b=some o->s'.heap.get? b=some o):RG C c ⟨c.μ,s'⟩ st:=
 ⟨R.gM (.of_keeps k) λb o e _=>k b o e,⟨λ_ _ e=>e,.of_keeps k⟩,λb o e _ _=>k b o e,λ_ x y=>dv x y,λ_=>False.elim,e⟩
theorem sQ {b}:Own ⟨c.μ++ [l],s'⟩ b->Own c b\/(b=l.a\/b=l.d)
 |⟨i,j,e,hb⟩=>by
  rw [List.getElem?_append] at e
  split at e
  ·exact .inl ⟨i,j,e,hb⟩
  ·have:=aj (bh e);exact .inr (this▸hb)
theorem u7 {μ} {l j:α} {i} (e:(μ++ [l])[i]? =some j):(i<μ.length/\μ[i]? =some j)\/(i=μ.length/\j=l):=by
 rw [List.getElem?_append] at e
 split at e
 ·rename_i h;exact .inl ⟨h,e⟩
 ·rename_i h
  exact .inr ⟨Nat.le_antisymm (Nat.le_of_sub_eq_zero (Nat.lt_one_iff.mp ((dB e).1))) (Nat.le_of_not_lt h),aj (bh e)⟩
theorem Mo.app {l} {s'} (S:Still c.s.heap s'.heap):Mo c ⟨c.μ++ [l],s'⟩:=⟨λi l e=>by rw [mc (dB e).1];exact e,S⟩
theorem Rep.adopt {X:Addr->Prop} {o} (R:Rep C c st) (G:Gx X c₀ c) (nx:∀b,X b->b≠l.a/\b≠l.d) (na:¬Own c l.a/\¬Own c l.d) (nb:C.base.get? l.a=none/\C.base.get? l.d=none) (t:c₀.s.heap.get? l.a=none/\c₀.s.heap.get? l.d=none) (S:Still c.s.heap s'.heap) (e:Rest c.s s')
 (k:∀b o,b≠l.a->b≠l.d->c.s.heap.get? b=some o->s'.heap.get? b=some o) (x:gW C ⟨c.μ++ [l],s'⟩ l o):(Rep C ⟨c.μ++ [l],s'⟩ (st++ [o])/\Gx X c₀ ⟨c.μ++ [l],s'⟩)/\(c.μ++ [l])[st.length]? =some l:=by
 have m:Mo c ⟨c.μ++ [l],s'⟩:=Mo.app S;have ne:∀{b},Own c b->b≠l.a/\b≠l.d:=λh=>⟨λq=>na.1 (q▸h),λq=>na.2 (q▸h)⟩;refine ⟨⟨⟨by rw [aL,aL,R.len];rfl,λi F Y e D=> ?_,λi j E l2 y z A=> ?_,λb hb=> ?_,λb o e=>k b o (λq=>bX (q▸nb.1) e) (λq=>bX (q▸nb.2) e) (R.base b o e)⟩,G.mo.trans m,λb o e n f=>k b o (λq=>bX (q▸t.1) e) (λq=>bX (q▸t.2) e) (G.keep b o e n f),λb h n=> ?_,λb I h=> ?_,?_⟩,by rw [<-R.len,JO .refl,Nat.sub_self];rfl⟩
 ·rcases u7 e with ⟨h,e⟩|⟨h,rfl⟩
  ·rw [mc (R.len▸h)] at D;exact (R.objs i F Y e D).mono m λb o hb h=>k b o (ne ⟨i,F,e,hb⟩).1 (ne ⟨i,F,e,hb⟩).2 h
  ·rw [h,R.len,JO .refl,Nat.sub_self] at D;exact aP D▸x
 ·rcases u7 y with ⟨J,y⟩|⟨J,Z⟩<;>rcases u7 z with ⟨L,z⟩|⟨L,q2⟩
  ·exact R.apart i j E l2 y z A
  ·rw [q2];exact ⟨(ne ⟨i,E,y,.inl rfl⟩).1,(ne ⟨i,E,y,.inl rfl⟩).2,(ne ⟨i,E,y,.inr rfl⟩).2⟩
  ·rw [Z];exact ⟨Ne.symm (ne ⟨j,l2,z,.inl rfl⟩).1,Ne.symm (ne ⟨j,l2,z,.inr rfl⟩).1,Ne.symm (ne ⟨j,l2,z,.inr rfl⟩).2⟩
  ·exact dv (J.trans L.symm) A
 ·rcases sQ hb with h|h|h
  ·exact R.mR b h
  ·exact h▸nb.1
  ·exact h▸nb.2
 ·rcases sQ h with h|h|h
  ·exact G.fresh b h n
  ·exact h▸t.1
  ·exact h▸t.2
 ·rcases sQ h with h|h|h
  ·exact G.nx b I h
  ·exact (nx b I).1 h
  ·exact (nx b I).2 h
 ·show s'=_;rw [e,G.rest]
theorem Rep.add {o} (R:Rep C c st) (e:Rest c.s s') (k:∀b o,c.s.heap.get? b=some o->s'.heap.get? b=some o) (f:c.s.heap.get? l.a=none/\c.s.heap.get? l.d=none) (x:gW C ⟨c.μ++ [l],s'⟩ l o):
 RG C c ⟨c.μ++ [l],s'⟩ (st++ [o])/\(c.μ++ [l])[st.length]? =some l:=
 have z:=R.adopt Go.refl (λ_=>False.elim) ⟨R.free f.1,R.free f.2⟩ ⟨R.nH f.1,R.nH f.2⟩ f (.of_keeps k) e (λb o _ _=>k b o) x
 ⟨⟨z.1.1,z.1.2⟩,z.2⟩
theorem Rep.upd {i:Nat} {o} (R:Rep C c st) (e:c.μ[i]? =some l) (ha:a=l.a\/a=l.d) (r:Rest c.s s') (k:∀b,b≠a->s'.heap.get? b=c.s.heap.get? b) (x:Mo c ⟨c.μ,s'⟩->gW C ⟨c.μ,s'⟩ l o):RG C c ⟨c.μ,s'⟩ (st.set i o):=by
 have own:Own c a:=⟨i,l,e,ha⟩;have m:Mo c ⟨c.μ,s'⟩:=⟨λ_ _ e=>e,.of λb o h t=>(k b λq=>R.tr h t (q▸own)).trans h⟩;refine ⟨⟨by rw [JL];exact R.len,λj G I A D=> ?_,R.apart,R.mR,λb o h=>(k b λq=>bX (R.mR a own) (q▸h)).trans (R.base b o h)⟩,m,λb o h n _=>(k b λq=>n (q▸own)).trans h,λ_ x y=>dv x y,λ_=>False.elim,r⟩;by_cases z:i=j
 ·rw [<-z] at A D;rw [KA (R.len▸(dB e).1)] at D;rw [<-aP D,<-aP (e.symm.trans A)];exact x m
 ·rw [JN z] at D;have p:=R.apart i j l G e A z;exact (R.objs j G I A D).mono m λb o hb h=>(k b λq=>by
   rcases hb with E|E<;>rcases ha with F|F
   ·exact p.1 (F.symm.trans (q.symm.trans E))
   ·exact (R.apart j i G l A e (Ne.symm z)).2.1 (E.symm.trans (q.trans F))
   ·exact p.2.1 (F.symm.trans (q.symm.trans E))
   ·exact p.2.2 (F.symm.trans (q.symm.trans E))).trans h
theorem eS (h:Heap) o:∀b x,h.get? b=some x->(h.push o).get? b=some x:=λ_ _ e=>Heap.get?_push_of_some o e
theorem gw (h:Heap) o (hf:o.isFreed=false:=by rfl):(h.push o).get? h.objs.size=some o:=Heap.get?_push_size _ hf
theorem eX (h:Heap):h.get? h.objs.size=none:=by
 unfold Heap.get?
 rw [Array.getElem?_eq_none .refl]
theorem PV.fin {x} (q:PV C c (some (v,bM)) Q) (z:RG C c c' bM) (h:VR C c' v x):Q x c'.s:=q c' z.g z.r x h
theorem Rep.tk {tk} (R:Rep C c st):RG C c ⟨c.μ,{c.s with toks:=tk}⟩ st:=R.grow rfl λ_ _ e=>e
theorem PV.here {x} {tk} (q:PV C c (some (v,st)) Q) (R:Rep C c st) (h:VR C c v x):Q x {c.s with toks:=tk}:=q.fin R.tk (h.m R.tk.m)
theorem PV.now {x} (q:PV C c (some (v,st)) Q) (R:Rep C c st) (h:VR C c v x):Q x c.s:=q.fin ⟨R,.refl⟩ h
theorem uM {tk:Nat} (R:Rep C c st) (k:aU C c vs items.toList) (j:∀b o,c.s.heap.get? b=some o->h'.get? b=some o) (hl:h'.PlainList c.s.heap.objs.size items)
 (q:PV C c (bN (.list vs) st) Q):Q (.ref c.s.heap.objs.size) {c.s with heap:=h',toks:=tk}:=
 have z:=R.add (s':={c.s with heap:=h',toks:=tk}) (l:=⟨c.s.heap.objs.size,c.s.heap.objs.size⟩) (o:= .list vs) rfl j ⟨eX _,eX _⟩ ⟨items,hl,k.m (Mo.app (.of_keeps j)),rfl⟩
 PV.fin q z.1 ⟨_,z.2,rfl⟩
theorem pi {tk:Nat} (R:Rep C c st) (k:aU C c vs xs) (q:PV C c (bN (.list vs) st) Q):Q (.ref c.s.heap.objs.size) {c.s with heap:=c.s.heap.push {cls:= .type "list",data:= .seq xs.toArray},toks:=tk}:=
 uM R (by rw [List.toList_toArray];exact k) (eS _ _) ⟨0,gw _ _⟩ q
theorem BM {tk} (R:Rep C c st) (k:aU C c vs items.toList) (j:∀b o,c.s.heap.get? b=some o->h'.get? b=some o) (t:h'.IsTuple a items)
 (q:PV C c (some (.tup vs,st)) Q):Q (.ref a) {c.s with heap:=h',toks:=tk}:=
 have z:=R.grow (s':={c.s with heap:=h',toks:=tk}) rfl j
 q.fin z ⟨_,_,rfl,t,k.m z.m⟩
theorem sk {tk:Nat} (R:Rep C c st) (k:aU C c vs xs) (q:PV C c (some (.tup vs,st)) Q):Q (.ref c.s.heap.objs.size) {c.s with heap:=c.s.heap.push {cls:= .type "tuple",data:= .seq xs.toArray},toks:=tk}:=
 BM R (by rw [List.toList_toArray];exact k) (eS _ _) ⟨_,gw _ _,rfl,0,rfl⟩ q
end
structure Rm (A:Around):Prop where
 h:A.handled=none
 u:A.units+60<cLine
variable {β:Type}{u:V}{y:Value}{E:Value->Shared->Prop}{j:Nat}{A:Around}
section
variable {st:St} {X:Addr->Prop} {K:Cf->St->α->Prop} {J:Cf->α->Prop} {f:β->M α}
theorem si {x} {f:β->M α} {st} {a} (e:x st=some (a,bM)):ac x f st=f a bM:=by unfold ac;rw [e]
theorem rd {i} {o} (h:st[i]? =some o):bC i st=some (o,st):=by unfold bC;rw [h]
theorem Po.obj {i} {f} {P:Prop} (q:Po X K c (ac (bC i) f st) J) (R:Rep C c st) (e:c.μ[i]? =some l) (k:∀o,st[i]? =some o->gW C c l o->Po X K c (f o st) J->P):P:=by obtain ⟨o,h,r⟩:=R.loc e;rw [si (rd h)] at q;exact k o h r q
theorem Po.lst {i} {f} {P:Prop} (q:Po X K c (ac (getL i) f st) J) (R:Rep C c st) (e:c.μ[i]? =some l) (k:∀vs items,st[i]? =some (.list vs)->oX C c l vs items->Po X K c (f vs st) J->P):P:=by
 obtain ⟨o,h,r⟩:=R.loc e;have g:getL i st=_:=si (rd h);unfold ac at q;rw [g] at q;induction o with|list vs=>exact r.elim λitems r=>k vs items h r q|_=>exact q.elim
theorem Po.mC {i} {f} {P:Prop} (q:Po X K c (ac (sG i) f st) J) (R:Rep C c st) (e:c.μ[i]? =some l) (k:∀af,st[i]? =some (.dict af)->cS C c l.a af->l.d=l.a->Po X K c (f af st) J->P):P:=by
 obtain ⟨o,h,r⟩:=R.loc e;have g:sG i st=_:=si (rd h);unfold ac at q;rw [g] at q;induction o with|dict vs=>exact k vs h r.1 r.2 q|_=>exact q.elim
theorem zw {i} {o} (R:Rep C c st) (e:c.μ[i]? =some l):i8 i o st=some ((),st.set i o):=ep (R.len▸(dB e).1)
theorem Po.fF {i:Nat} {o} {f} (q:Po X K c (ac (i8 i o) f st) J) (R:Rep C c st) (e:c.μ[i]? =some l):Po X K c (f () (st.set i o)) J:=si (f:=f) (zw R e)▸q
theorem Po.uC {i} {o} {K} {J} (q:Po X K c (i8 i o st) J) (R:Rep C c st) (e:c.μ[i]? =some l):Po X K c (some ((),st.set i o)) J:=zw R e▸q
theorem Po.b_ {x} {k} {P:Value->Value->Prop} (q:Po X K c (b_ u v k st) J) (D:VR C c u x) (F:VR C c v y) (h:∀a b t z,Po X K c (k a b st) J->P (.int a t) (.int b z)):P x y:=by
 induction u using V.casesOn with
 |int a=>
  induction v using V.casesOn with|int b=>obtain ⟨t,rfl⟩:=D;obtain ⟨z,rfl⟩:=F;exact h a b t z q|_=>exact q.elim
 |_=>exact q.elim
theorem Po.int {k} {P:Value->Prop} (q:Po X K c (intOf v k st) J) (z:VR C c v y) (h:∀a t,Po X K c (k a st) J->P (.int a t)):P y:=by
 induction v using V.casesOn with|int b=>obtain ⟨t,rfl⟩:=z;exact h b t q|_=>exact q.elim
theorem Po.ref {k} {P:Value->Prop} (q:Po X K c (refOf v k st) J) (t:VR C c v y) (h:∀i l,c.μ[i]? =some l->Po X K c (k i st) J->P (.ref l.a)):P y:=by
 induction v using V.casesOn with|ref i=>obtain ⟨l,e,rfl⟩:=t;exact h i l e q|_=>exact q.elim
theorem PB.tk {b} {Q} {tk} (q:PB C c (some (b,st)) Q) (R:Rep C c st):Q b {c.s with toks:=tk}:=q _ R.tk.g R.tk.r
theorem PB.now {b} {Q} (q:PB C c (some (b,st)) Q) (R:Rep C c st):Q b c.s:=q c Go.refl R
theorem empty_eq (k:aU C c vs items.toList):items.isEmpty=vs.isEmpty:=by
 have:=k.size;unfold Array.isEmpty;rw [this]
 (generalize vs=t;induction t using List.casesOn<;>rfl)
theorem small {n} (h:n<=100000):n<=sizeLine:=by rw [sizeLine_eq];exact df h (aa rfl)
theorem aU.small (k:aU C c vs items.toList) (h:vs.length<=100000):items.size<=sizeLine:=by rw [k.size];exact Mine.small h
theorem lf {n:Nat} (h:n<=100000):(n:Int)<2^63:=Int.ofNat_lt.mpr (rk h (aa rfl))
theorem aU.lf (k:aU C c vs items.toList) (h:vs.length<=100000):(items.size:Int)<2^63:=by rw [k.size];exact Mine.lf h
theorem oX.isList (r:oX C c l vs items):c.s.heap.IsList l.a items:=r.at'.isList
theorem xw {x} {Q} (R:Rep C c st) (z:VR C c v x) (q:PB C c (truth v st) Q):wpAny C.M A (truthy x) Q E c.s:=by
 induction v using V.casesOn with
 |none=>rw [show x= .none from z];exact λ_ _ _=>PB.now q R|bool b=>rw [show x= .bool b from z];exact wpAny_truthy_bool (PB.now q R)|int i=>obtain ⟨t,rfl⟩:=z;apply truthy_int;rw [show (i !=0)=decide (i≠0) from by by_cases h:i=0<;>simp [h]];exact PB.tk q R|tup vs=>obtain ⟨a,it,rfl,t,k⟩:=z;refine q.ite λh q=>truthy_tuple t (k.lf h) ?_;rw [empty_eq k];exact PB.tk q R|ref i=>
  obtain ⟨l,e,rfl⟩:=z;refine q.obj R e λo h r q=> ?_;induction o with|list vs=>obtain ⟨it,r⟩:=r;refine q.ite λh q=>wpAny_truthy_list r.isList (r.vals.lf h) ?_;rw [empty_eq r.vals];exact PB.tk q R|_=>exact q.elim
 |_=>exact q.elim
theorem noPylong {a b} (h:a.natAbs<2^60):Builtin.divisionGoesByPylong a b=false:=by
 unfold Builtin.divisionGoesByPylong;dsimp only;have:(if (a==0)=true then 0 else a.natAbs.log2/30+1)<=3:=by
  split
  ·decide
  ·rename_i k
   exact wi (Nat.div_le_of_le_mul (z' ((Nat.log2_lt λe=>k (by simp [Int.natAbs_eq_zero.mp e])).mpr h)))
 rw [hI (Nat.not_lt_of_le (df this (df (aa rfl) (Eb _ _)))),Bool.and_false]
noncomputable def se:BO->Operator
 | .add=> .Add| .sub=> .Sub| .mul=> .Mult| .div=> .FloorDiv| .mod=> .Mod| .and=> .BitAnd| .or=> .BitOr
theorem zA {P:Prop} (t:h.IsTuple a items) (k:∀n z sl,h.get? a=some {cls:= .type "tuple",dict:=z,data:= .seq items n,slots:=sl}->P):P:=by obtain ⟨⟨cls,z,data,sl⟩,ho,D,n,hd⟩:=t;subst D;subst hd;exact k n z sl ho
theorem Bi {a b} {x y:Array Value} (k:aU C c a x.toList) (t:aU C c b y.toList) (l:a.length+b.length<=100000):x.size+y.size<=sizeLine:=by rw [k.size,t.size];exact small l
theorem yC (a b:Array Value):a++b=(a.toList++b.toList).toArray:=by simp
theorem aU.nil_of (k:aU C c vs items.toList) (e:items= #[]):vs= []:=List.length_eq_zero_iff.mp (k.size.symm.trans (e▸rfl))
theorem I9 {a b} {x} (R:Rep C c st) (h:a.length+b.length<=100000) (hx:VR C c (.tup a) x) (hy:VR C c (.tup b) y) (q:PV C c (some (.tup (a++b),st)) Q):wpAny C.M A (binaryOp .Add x y) Q E c.s:=by
 obtain ⟨t,it,rfl,tt,k⟩:=hx;obtain ⟨Y,D,rfl,tb,L⟩:=hy;refine zA tt λn Z sl ho=>zA tb λn2 G I z=> ?_;by_cases hv:it= #[]
 ·rw [k.nil_of hv] at q;exact concat_meets ⟨_,ho,rfl⟩ ⟨_,z,rfl⟩ noFill_tuple_add seq_tuple_add F.slot_tuple_add F.entry_tuple_add (F.args_tuple_add_2 _ _) (tuple_addW0 t Y it D n n2 Z G sl I (hv▸rfl)) ⟨ho,z,q.here R ⟨_,_,rfl,tb,L⟩⟩
 ·by_cases hw:D= #[]
  ·rw [L.nil_of hw,hR] at q;exact concat_meets ⟨_,ho,rfl⟩ ⟨_,z,rfl⟩ noFill_tuple_add seq_tuple_add F.slot_tuple_add F.entry_tuple_add (F.args_tuple_add_2 _ _) (tuple_addW1 t Y it D n n2 Z G sl I (by simpa using hv) (hw▸rfl)) ⟨ho,z,q.here R ⟨_,_,rfl,tt,k⟩⟩
  ·refine concat_meets ⟨_,ho,rfl⟩ ⟨_,z,rfl⟩ noFill_tuple_add seq_tuple_add F.slot_tuple_add F.entry_tuple_add (F.args_tuple_add_2 _ _) (tuple_addW2 t Y it D n n2 Z G sl I (by simpa using hv) (by simpa using hw) (Bi k L h)) ⟨ho,z,?_⟩;rw [yC];exact sk R (k.app L) q
theorem OM {op} {x} (R:Rep C c st) (k:VR C c u x) (z:VR C c v y) (q:PV C c (binop op u v st) Q):wpAny C.M A (binaryOp (se op) x y) Q E c.s:=by
 induction op with
 |add=>
  induction u using V.casesOn with
  |int a=>induction v using V.casesOn with
   |int b=>obtain ⟨t,rfl⟩:=k;obtain ⟨L,rfl⟩:=z;exact add_int (PV.here q R ⟨_,rfl⟩)|_=>exact q.elim
  |tup a=>induction v using V.casesOn with
   |tup b=>exact q.ite λh q=>I9 R h k z q|_=>exact q.elim
  |str a=>induction v using V.casesOn with
   |str b=>obtain ⟨t,rfl⟩:=k;obtain ⟨L,rfl⟩:=z;exact q.ite λh q=>add_str (λL tk=>PV.here q R ⟨_,rfl⟩) (small (df h (aa rfl)))|_=>exact q.elim
  |ref i=>induction v using V.casesOn with
   |ref j=>obtain ⟨l,e,rfl⟩:=k;obtain ⟨l2,Y,rfl⟩:=z;refine q.lst R e λa it _ r q=>q.lst R Y λb G _ I q=>q.ite λh q=> ?_;obtain ⟨n,ho⟩:=r.at';obtain ⟨n2,D⟩:=I.at';refine concat_meets ⟨_,ho,rfl⟩ ⟨_,D,rfl⟩ noFill_list_add seq_list_add F.slot_list_add F.entry_list_add (F.args_list_add_2 _ _) (list_addW l.a l2.a it G n n2 _ _ _ _ (Bi r.vals I.vals h)) ⟨ho,D,?_⟩;rw [yC];exact pi R (r.vals.app I.vals) q|_=>exact q.elim
  |_=>exact q.elim
 |sub=>exact Po.b_ (P:=λx y=>wpAny C.M A (binaryOp .Sub x y) Q E c.s) q k z λ_ _ _ _ q=>sub_int' (PV.here q R ⟨_,rfl⟩)
 |mul=>exact Po.b_ (P:=λx y=>wpAny C.M A (binaryOp .Mult x y) Q E c.s) q k z λ_ _ _ _ q=>q.ite λh q=>mul_int (PV.here q R ⟨_,rfl⟩) (.of_left (by
   unfold Builtin.Int.intBits
   split
   ·decide
   ·rename_i Z
    exact df (Nat.succ_le_of_lt ((Nat.log2_lt λe=>Z (by simp [Int.natAbs_eq_zero.mp e])).mpr h)) (aa rfl)))
 |div=>exact Po.b_ (P:=λx y=>wpAny C.M A (binaryOp .FloorDiv x y) Q E c.s) q k z λ_ _ _ _ q=>q.ite λh q=>floordiv_int (Int.ne_of_gt h.1) (by rw [Int.fdiv_eq_ediv_of_nonneg _ (Int.le_of_lt h.1)];exact PV.here q R ⟨_,rfl⟩) (.inl (noPylong h.2))|mod=>exact Po.b_ (P:=λx y=>wpAny C.M A (binaryOp .Mod x y) Q E c.s) q k z λ_ _ _ _ q=>q.ite λh q=>mod_int' (Int.ne_of_gt h) (by rw [Int.fmod_eq_emod_of_nonneg _ (Int.le_of_lt h)];exact PV.here q R ⟨_,rfl⟩)|and=>exact Po.b_ (P:=λx y=>wpAny C.M A (binaryOp .BitAnd x y) Q E c.s) q k z λ_ _ _ _ q=>and_int (PV.here (v:= .int _) q R ⟨_,rfl⟩)|or=>exact Po.b_ (P:=λx y=>wpAny C.M A (binaryOp .BitOr x y) Q E c.s) q k z λ_ _ _ _ q=>or_int (PV.here (v:= .int _) q R ⟨_,rfl⟩)
end
variable {d:Addr}{key:Value}{k:V}{prog:Program}{s:Shared}
section
variable {K:Type} [DecidableEq K]
theorem zq {l} {x:α} (h:l.Nodup) (n:x∉l):(l++ [x]).Nodup:=
 List.nodup_append.mpr ⟨h,JV.mpr ⟨ba,List.nodup_nil⟩,λ_ ha _ hb e=>n (aj hb▸e▸ha)⟩
theorem CJ {p} (es:Array α):es.toList.findIdx? p=es.findIdx? p:=by obtain ⟨l⟩:=es;simp
theorem EA {knd:KeyKind prog w K} {af} {k} {v} {Q} (j:knd.is k key=true) (hm:s.heap.DictAt knd d af af.length)
 (Z:∀G,G.DictAt knd d (stored af k v) (stored af k v).length->Heap.SameBut d s.heap G->Q () {s with heap:=G,toks:=s.toks+1})
 (I:af.length<=sizeLine):wpAny (model prog w) A (dictSet d key v) Q E s:=by
 obtain ⟨o,es,ho,hc,hd,hk,hp,J⟩:=hm;have hl:es.size=af.length:=vu.symm.trans hp.length;unfold dictSet
 try with_reducible refine ny ?_
 refine b' (knd.pyHash j ?_);unfold dictSetHashed
 try with_reducible refine ny ?_
 refine b' (wpAny_dictFind_of (s:={s with toks:=s.toks+1}) j ho hd hk ?_);have t:(es.findIdx? λe=>knd.is k e.key)=af.findIdx? λkv=>decide (kv.1=k):=by rw [<-hp.findIdx k,CJ]
 induction L:es.findIdx? λe=>knd.is k e.key using Option.casesOn with
 |some i=>
  have D:(es.toList.findIdx? λe=>knd.is k e.key)=some i:=(CJ es).trans L;have F:stored af k v=af.map λkv=>if kv.1=k then (kv.1,v) else kv:=ep (any_of_findIdx_some (t▸L))
  refine b' (wpAny_rule (b' (wpAny_updateDict (s:={s with toks:=s.toks+1}) ho hd (wpAny_point (Z _ ?_ (xb ..))))));rw [F,aC];exact ⟨_,_,Heap.get?_update_self _ ho (Obj.isFreed_of_dict (Obj.data_mapDict hd _)),hc.mapDict _,Obj.data_mapDict hd _,hk.modify i v,by rw [Array.toList_modify];exact hp.modify J D v,by rw [keys_map_store];exact J⟩
 |none=>have z:k∉af.map (·.1):=not_mem_of_findIdx_none (t▸L);have F:stored af k v=af++ [(k,v)]:=fm λh=>z (by obtain ⟨kv,Y,he⟩:=List.any_eq_true.mp h;exact g5.mpr ⟨kv,Y,aa he⟩);refine b' (wpAny_rule (wpAny_updateDictKeys (hz:=by rw [hl];exact I) (s:={s with toks:=s.toks+1}) ho hd (Z _ ?_ (xb ..))));rw [F,aL];exact ⟨_,_,Heap.get?_update_self _ ho (Obj.isFreed_of_dict (Obj.data_mapDictKeys hd _)),hc.mapDictKeys _,Obj.data_mapDictKeys hd _,hk.push j v,by rw [Array.toList_push];exact hp.append j (knd.hash k) v,by rw [lh];exact zq J z⟩
theorem Qx {v} {Q} (j:s.TypeIs (.ref d) "dict") (h:∀{D} {t},(∀s',Q () s'->t () s')->wpAny (model prog w) A.in1 (dictSet d key v) t D s):wpAny (model prog w) A (setItem (.ref d) key v) Q E s:=by
 unfold setItem
 try with_reducible refine ny ?_
 refine b' (wpAny_sequenceKey j (aa rfl) ?_);refine b' (wpAny_callSpecial?_slot (name:=Str.ofString "__setitem__") j slot_dict_setitem
  (wpAny_call_entry slot_dict_setitem j entry_dict_setitem ?_ (args_dict_setitem _ _ _)))
 show wpAny _ _ (Builtin.Dict.notOrdered "__setitem__" ⟨[.ref d,key,v],[]⟩>>=_) _ _ s;refine b' (wpAny_notOrdered_dict j ?_);show wpAny _ _ (dictSet d key v>>=_) _ _ s;exact b' (h λ_ z=>ez ⟨.none,rfl,ez z⟩)
end
section
variable {knd:HeapKind prog w V}
theorem ig.qK {xs}:ig knd h d xs->h.DictOfH knd d xs:=(by rintro ⟨o,es,a,b,c,r⟩;exact ⟨o,es,_,a,b,c,r⟩)
theorem EL {xs} {v} {Q} (Y:knd.room A) (t:knd.is s.heap k a) (hm:ig knd s.heap d xs)
 (Z:∀J,ig knd J d (storedH xs k a v)->Heap.SameBut d s.heap J->Q () {s with heap:=J,toks:=s.toks+knd.draws k})
 (L:xs.length<=sizeLine):wpAny (model prog w) A (dictSet d (.ref a) v) Q E s:=by
 obtain ⟨o,es,ho,hc,hd,I,z,F⟩:=hm;unfold dictSet
 try with_reducible refine ny ?_
 refine b' (knd.pyHash Y t ?_);unfold dictSetHashed
 try with_reducible refine ny ?_
 refine b' (wpAny_dictFind_heap (s:={s with toks:=s.toks+knd.draws k}) Y t ho hd I z F (λG=> ?_) λj p hj=> ?_)
 ·refine b' (wpAny_rule (wpAny_updateDictKeys (hz:=by rw [size_of_entries I];exact L) (hf:=Nat.le_of_eq (Array.size_push ..)) (s:={s with toks:=s.toks+knd.draws k}) ho hd (Z _ ?_ (xb ..))));rw [storedH_new (atKey_none_of_get G) a v];refine ⟨_,_,Heap.get?_update_self _ ho (Obj.isFreed_of_dict (Obj.data_mapDictKeys hd _)),hc.mapDictKeys _,by rw [Obj.data_mapDictKeys hd,aL];rfl,by rw [Array.toList_push,I,lh];rfl,λx D=> ?_,by rw [lh];exact zq F (not_mem_keys_of_get G)⟩;rcases aG D with D|D
  ·exact knd.keeps (z x D) ho hd (xb ..)
  ·rw [aj D];exact knd.keeps t ho hd (xb ..)
 ·refine b' (wpAny_rule (b' (wpAny_updateDict (s:={s with toks:=s.toks+knd.draws k}) ho hd (wpAny_point (Z _ ?_ (xb ..))))));rw [storedH_old (atKey_of_get F hj) a v];refine ⟨_,_,Heap.get?_update_self _ ho (Obj.isFreed_of_dict (Obj.data_mapDict hd _)),hc.mapDict _,by rw [Obj.data_mapDict hd,aC],?_,λx D=> ?_,by rw [keys_map_putAt];exact F⟩
  ·rw [Array.toList_modify,I];exact modify_map_putAt (entryOfKey knd) (λe:DictEntry=>{e with val:=v}) k v (λ_ _=>rfl) F hj
  ·obtain ⟨y,hy,rfl⟩:=g5.mp D;unfold putAt
   split<;>exact knd.keeps (z y hy) ho hd (xb ..)
end
def ia {β} (S:V->β->Prop):Option V->Option β->Prop
 |none,y=>y=none|some v,y=>∃b,y=some b/\S v b
theorem kE {S} (k):∀{af} {xs:List (V×β)},F2 (KR S) af xs->ia S (aE af k) ((xs.find? λx=>decide (x.1=k)).map (·.2)):=by
 intro j;induction j with|nil=>intro _ e;rw [show _= [] from e];rfl|cons p _ D=>
  rintro _ ⟨q,r,e,x,t⟩;rw [e];unfold aE;by_cases h:p.1=k
  ·rw [hW,hW,gs h,gs (x.1.symm.trans h)];exact ⟨q.2,rfl,x.2⟩
  ·rw [hW,hW,hI h,hI λz=>h (x.1.trans z)];exact D t
theorem ia.isSome {S}:∀{a} {b:Option β},ia S a b->b.isSome=a.isSome
 |none,_,e=>ej Option.isSome e|some _,_,⟨_,e,_⟩=>ej Option.isSome e
theorem BG {S} {y} {upd} (t:S u y) (D:∀q,q.1=k->(upd q).1=k/\S u (upd q).2) (F:∀q,q.1≠k->upd q=q) {xs:List (V×β)} {b} (f:F2 (KR S) af xs) (hb:b=(aE af k).isSome):
 F2 (KR S) (aV af k u) (if b=true then xs.map upd else xs++ [(k,y)]):=by
 unfold aV;rw [hb]
 split
 ·refine F2.Gg (λp q j=> ?_) f;by_cases e:p.1=k
  ·rw [ep e];have:=D q (j.1.symm.trans e);exact ⟨e.trans this.1.symm,this.2⟩
  ·rw [fm e,F q λz=>e (j.1.trans z)];exact j
 ·exact f.snoc ⟨rfl,t⟩
theorem PW {p}:∀l:List α,l.any p=(l.find? p).isSome:=by
 intro j;induction j with|nil=>exact rfl|cons a l t=>rw [hW,JS,t];cases p a<;>rfl
theorem Lc {b} (e:KV h k (.ref b)):kindOf k=2:=by
 induction k using V.casesOn with|int=>obtain ⟨_,e⟩:=e;contradiction|str=>obtain ⟨_,e⟩:=e;contradiction|_=>rfl
theorem DQ {x} (e:k_ k x=true):kindOf k≠2:=by
 induction k using V.casesOn with|int=>exact nofun|str=>exact nofun|_=>exact (bB e).elim
section
variable {st:St}
theorem Jg {p} {x:∃o,h.get? a=some o/\o.ExactDict/\o.data= .dict #[] 0}:h.DictAt (jx p w) a [] 0:=
 (by obtain ⟨o,ho,j,hd⟩:=x;exact ⟨o,#[],ho,j,hd,λ_ t=>dv t (by simp),.nil,List.nodup_nil⟩)
theorem cS.qZ (h:∀p∈af,kindOf p.1≠2):cS C c a af->∃xs,c.s.heap.DictAt (jx C.prog C.w) a xs xs.length/\F2 (KR (VR C c)) af xs
 | .inl z=>z
 | .inr ⟨xs,z,f⟩=>by
   obtain ⟨o,es,ho,D,hd,t,hk,_⟩:=z;induction af using List.casesOn with|nil=>rw [show xs= [] from f] at hd t;exact ⟨[],⟨o,es,ho,D,hd,λe j=>by rw [<-Array.mem_toList_iff,t] at j;exact (ba j).elim,by rw [t];exact .nil,List.nodup_nil⟩,rfl⟩|cons p r=>obtain ⟨q,F,e,x,_⟩:=f;exact dv (x.1▸Lc (hk q (by rw [e];exact ai)).2) (h p ai)
theorem cS.hp (h:∀p∈af,kindOf p.1=2):cS C c a af->∃xs,ig (gX C.prog C.w) c.s.heap a xs/\F2 (KR λv b=>VR C c v b.2) af xs
 | .inr z=>z
 | .inl ⟨xs,z,f⟩=>by
   obtain ⟨o,es,ho,j,hd,hk,hp,_⟩:=z;induction af using List.casesOn with|nil=>rw [show xs= [] from f] at hd hp;exact ⟨[],⟨o,es,ho,j,hd,List.length_eq_zero_iff.mp hp.length,λ_=>bg,List.nodup_nil⟩,rfl⟩|cons p r=>
    obtain ⟨q,D,e,x,_⟩:=f;rw [e] at hp;generalize es.toList=l at hp;cases hp with|cons t _ _=>exact dv (x.1▸h p ai) (DQ t)
theorem Kj (t:bf af v=true):(v.pure=true/\v.dep<=7)/\∀p∈af,kindOf p.1=kindOf v:=
 have h:=(hQ _ _).mp t;have j:=(hQ _ _).mp h.1
 ⟨⟨j.1,aa j.2⟩,λp hp=>g7.mp (E'.mp h.2 p hp)⟩
theorem cS.el {x} {P:Value->Prop} (d:cS C c a af) (D:bf af v=true) (j:VR C c v x)
 (F:∀xs,c.s.heap.DictAt (jx C.prog C.w) a xs xs.length->F2 (KR (VR C c)) af xs->k_ v x=true->P x)
 (G:∀(xs) (b),ig (gX C.prog C.w) c.s.heap a xs->F2 (KR λv b=>VR C c v b.2) af xs->isKey c.s.heap v b->P (.ref b)):P x:=by
 have h:=Kj D;have qZ:kindOf v≠2->k_ v x=true->P x:=λe i=>(by obtain ⟨xs,z,f⟩:=d.qZ λp hp q=>e ((h.2 p hp).symm.trans q);exact F xs z f i);induction v using V.casesOn with|int i=>obtain ⟨t,rfl⟩:=j;exact qZ nofun (m5 i)|str i=>obtain ⟨t,rfl⟩:=j;exact qZ nofun (m5 i)|tup vs=>have kv:=VR.kv _ j h.1.1;obtain ⟨b,it,rfl,t,k⟩:=j;obtain ⟨xs,z,f⟩:=d.hp h.2;exact G xs b z f ⟨h.1.2,kv⟩|_=>exact (bB h.1.1).elim
theorem uw (r:Rm A):(gX C.prog C.w).room A.in1:=rk (Nat.add_le_add_left (show 9<=60 by decide) A.units) r.u
theorem uN {i:Nat} (R:Rep C c st) (e:c.μ[i]? =some l):(l.a==sysModules)=false:=sv.mpr λq=>by have j:=C.GP;rw [<-q,R.mR l.a ⟨i,l,e,.inl rfl⟩] at j;contradiction
theorem contains_of {d x} {Q} (h:wpAny (model prog w) A (compareOp .In x d) (λv s'=>∃b,v= .bool b/\Q b s') E s):wpAny (model prog w) A (PySem.contains d x) Q E s:=λt p D=>by have gq:Sem.wp (model prog w) t (PySem.contains d x>>=λb=>(pure (.bool b):Sem Value)) (λa _ s'=>∃b,a= .bool b/\Q b s') (λe _ s'=>E e s') p s:=(h t p D);rw [Sem.wp_bind'] at gq;refine Sem.wp_mono (model prog w) t (PySem.contains d x) (λb G s' z=> ?_) (λ_ _ _ z=>z) p s gq;obtain ⟨F,e,q⟩:∃F,Value.bool b= .bool F/\Q F s':=z;injection e with e;subst e;exact q
theorem Fy {d x} (h:wpAny C.M A (PySem.contains d x) (λb s'=>Q (.bool (!b)) s') E s):wpAny C.M A (compareOp .NotIn x d) Q E s:=
 b' (wpAny_mono h (λ_ _ z=>ez z) λ_ _ z=>z)
theorem Ha {x} {Q} (r:Rm A) (ha:(a==sysModules)=false) (d:cS C c a af) (j:bf af v=true) (t:VR C c v x) (q:∀tk,Q (aE af v).isSome {c.s with toks:=tk}):wpAny C.M A (PySem.contains (.ref a) x) Q E c.s:=
 d.el (P:=λx=>wpAny C.M A (PySem.contains (.ref a) x) Q E c.s) j t
  (λxs z f i=>contains_of (wpAny_in_of (knd:=jx C.prog C.w) i ha z.dictOf.mapOf ⟨_,rfl,(kE v f).isSome▸q _⟩))
  (λxs b z f i=>contains_of (wpAny_in_heap (knd:=gX C.prog C.w) (uw r) i ha z.qK ⟨_,rfl,(kE v f).isSome▸q _⟩))
theorem Oi {x:Value} (r:Rm A) (d:cS C c a af) (t:bf af v=true) (D:VR C c v x) (e:aE af v=some u) (q:∀tk y,VR C c u y->Q y {c.s with toks:=tk}):wpAny C.M A (getItem (.ref a) x) Q E c.s:=
 d.el (P:=λx=>wpAny C.M A (getItem (.ref a) x) Q E c.s) t D
  (λxs z f i=>by have h:=kE v f;rw [e] at h;obtain ⟨b,j,h⟩:=h;exact wpAny_getItem_of (knd:=jx C.prog C.w) i z.dictOf.mapOf j (q _ _ h))
  (λxs b z f i=>by have h:=kE v f;rw [e] at h;obtain ⟨b,j,h⟩:=h;exact wpAny_getItem_heap (knd:=gX C.prog C.w) (uw r) i z.qK j (q _ _ h))
theorem ia.getD {S} {y} {P:Prop} {o} {b:Option β} (h:ia S o b) (j:S u y) (k:S (o.getD u) (b.getD y)->P):P:=by
 induction o with|none=>rw [show b=none from h] at k;exact k j|some v=>obtain ⟨z,rfl,h⟩:=h;exact k h
theorem NT {x:Value} (r:Rm A) (ha:(a==sysModules)=false) (d:cS C c a af) (t:bf af v=true) (D:VR C c v x) (j:VR C c u y) (q:∀tk z,VR C c ((aE af v).getD u) z->Q z {c.s with toks:=tk}):
 wpAny C.M A (call (.builtin "dict.get") [.ref a,x,y]) Q E c.s:=
 d.el (P:=λx=>wpAny C.M A (call (.builtin "dict.get") [.ref a,x,y]) Q E c.s) t D
  (λxs z f i=>call_meetsIn F.slot_dict_get z.dictOf.typeIs F.entry_dict_get (F.args_dict_get_3 _ _ _) (meets_dict_get_default (jx C.prog C.w) a i ha y) ⟨_,z.dictOf.mapOf,(kE v f).getD j (q _ _)⟩)
  (λxs b z f i=>call_meetsIn F.slot_dict_get z.qK.typeIs F.entry_dict_get (F.args_dict_get_3 _ _ _) (meetsH_dict_get_default (gX C.prog C.w) a b ha y) ⟨uw r,v,xs,i,z.qK,by
    have h:=kE v f;refine ia.getD (S:=VR C c) (b:=(atKey xs v).map (·.2)) (u:=u) ?_ j (q _ _);unfold atKey;induction e:aE af v using Option.casesOn with|none=>rw [e] at h;rw [show _=none from h];rfl|some w=>rw [e] at h;obtain ⟨z,G,h⟩:=h;rw [G];exact ⟨_,rfl,h⟩⟩)
theorem xz {x} {Q} (F:A.units+9<cLine) (d:cS C c a af) (G:bf af v=true) (I:VR C c v x) (t:VR C c u y) (hz:af.length<=100000)
 (q:∀j tk,Heap.SameBut a c.s.heap j->(Mo c ⟨c.μ,{c.s with heap:=j,toks:=tk}⟩->cS C ⟨c.μ,{c.s with heap:=j,toks:=tk}⟩ a (aV af v u))->Q () {c.s with heap:=j,toks:=tk}):wpAny C.M A (dictSet a x y) Q E c.s:=
 d.el (P:=λx=>wpAny C.M A (dictSet a x y) Q E c.s) G I
  (λxs z f i=>EA (knd:=jx C.prog C.w) i z (λj D sb=>q j _ sb λm=> .inl ⟨_,D,by
    have:=BG (k:=v) (xs:=xs) (b:=xs.any λkv=>decide (kv.1=v)) (S:=VR C ⟨c.μ,{c.s with heap:=j,toks:=c.s.toks+1}⟩) (upd:=λq=>if q.1=v then (q.1,y) else q) (t.m m) (λq e=>by rw [ep e];exact ⟨e,t.m m⟩) (λq e=>fm e) (f.mono (KR.m m)) (by rw [PW,<-(kE v f).isSome,Option.isSome_map]);exact this⟩) (by rw [<-f.length];exact small hz))
  (λxs b z f i=>EL (knd:=gX C.prog C.w) (Nat.lt_of_succ_lt F) i z (λj D sb=>q j _ sb λm=> .inr ⟨_,D,by
    have:=BG (k:=v) (xs:=xs) (y:=(b,y)) (b:=(atKey xs v).isSome) (S:=λJ b=>VR C ⟨c.μ,{c.s with heap:=j,toks:=c.s.toks+(gX C.prog C.w).draws v}⟩ J b.2) (upd:=putAt v y) (t.m m) (λq e=>by unfold putAt;rw [ep e];exact ⟨e,t.m m⟩) (λq e=>fm e) (f.mono (KR.mH m)) (by rw [<-(kE v f).isSome];rfl);exact this⟩) (by rw [<-f.length];exact small hz))
end
variable {z:V}{value slice:Expr}{T id:String}
noncomputable def cY:CO->CmpOp
 | .eq=> .Eq| .ne=> .NotEq| .lt=> .Lt| .le=> .LtE| .gt=> .Gt| .ge=> .GtE| .isin=> .In| .gA=> .NotIn
open Classical in
noncomputable def qb (h:Heap) (y:Value):V:=if e:∃v,KV h v y then e.choose else .none
theorem Az (k:KV h v y):qb h y=v:=
 have e:∃v,KV h v y:=⟨v,k⟩
 (dif_pos e).trans (KV.inj _ _ _ e.choose_spec k)
theorem yZ {f}:∀{vs} {xs},dG h vs xs->(xs.any λy=>f (qb h y))=vs.any f:=by
 intro j;induction j with|nil=>intro _ e;rw [show _= [] from e];rfl|cons _ _ k=>rintro _ ⟨_,_,e,a,b⟩;rw [e,JS,JS,Az a,k b]
theorem dG.mem:∀{vs} {xs},dG h vs xs->∀y∈xs,∃v,KV h v y:=by
 intro k;induction k with|nil=>intro _ e y j;rw [show _= [] from e] at j;exact (ba j).elim|cons v _ t=>rintro _ ⟨_,_,e,a,b⟩ y j;rw [e] at j;exact (aR j).elim (λq=>⟨v,q▸a⟩) λh=>t b y h
def vD:Option Int->Option Value->Prop
 |none,y=>y=none|some v,y=>∃t,y=some (.int v t)
theorem wH k:∀{ts} {xs},F2 (λp (q:Int×Value)=>p.1=q.1/\∃t,q.2= .int p.2 t) ts xs->vD (ts.lookup k) (valueAt xs k):=by
 intro F;induction F with|nil=>intro _ e;rw [show _= [] from e];rfl|cons j _ G=>
  rintro _ ⟨q,r,e,⟨D,t,I⟩,f⟩;rw [e];unfold valueAt;rw [ru,hW];by_cases h:k=j.1
  ·rw [g7.mpr h,gs (D.symm.trans h.symm)];exact ⟨t,ej some I⟩
  ·rw [sv.mpr h,hI λz=>h (z.symm.trans D.symm)];exact G f
theorem vD.isSome:∀{a} {b},vD a b->b.isSome=a.isSome
 |none,_,e=>ej Option.isSome e|some _,_,⟨_,e⟩=>ej Option.isSome e
section
variable {st:St}
theorem Rep.tab (R:Rep C c st) {n} (h:n<3) {P:Prop} (k:∀xs,c.s.heap.DictOf (intKind C.prog C.w) (C.gz n) xs->F2 (λp q=>p.1=q.1/\∃t,q.2= .int p.2 t) (tabs n) xs->P):P:=
 (by obtain ⟨xs,⟨o,es,j,ho,r⟩,f⟩:=C.PJ n h;exact k xs ⟨o,es,j,R.base _ _ ho,r⟩ f)
theorem Po.dj {X} {K} {J} {x} {P:Prop} (q:Po X K c (lift (dj x vs) st) J) (k:x.pure=true->V.il vs=true->x.dep<=20->Po X K c (some (vs.any λv=>V.eqv v x,st)) J->P):P:=by
 unfold Mine.dj at q
 split at q
 ·rename_i h
  have h:=(hQ _ _).mp h;have j:=(hQ _ _).mp h.1;exact k j.1 j.2 (aa h.2) q
 ·exact q.elim
theorem Ae (r:Rm A) {z} (hp:v.pure=true) (hd:v.dep<=20) (t:VR C c v y) (k:dG c.s.heap vs xs) (hz:z∈xs):EqAt A.in1 c.s z y (V.eqv (qb c.s.heap z) v):=by obtain ⟨u,j⟩:=k.mem z hz;rw [Az j];exact (ug 20 u v z y A.in1 c.s (.inr hd) (rk (Nat.add_le_add_left (show 21<=60 by decide) A.units) r.u) j (VR.kv _ t hp)).eq
theorem Hd:∀{xs},aU C c vs xs->V.il vs=true->dG c.s.heap vs xs:=by
 induction vs with|nil=>exact λe _=>e|cons v vs j=>exact λh p=>by obtain ⟨x,r,e,a,b⟩:=h;exact ⟨x,r,e,VR.kv _ a (aZ p).1,j b (aZ p).2⟩
theorem Aa {x} {Q} (r:Rm A) (R:Rep C c st) (G:VR C c u x) (F:VR C c v y) (q:PB C c (contains u v st) Q):wpAny C.M A (PySem.contains x y) Q E c.s:=by
 induction u using V.casesOn with
 |tup vs=>
  obtain ⟨a,it,rfl,t,k⟩:=G;refine Po.dj q λI J L q=> ?_;have j:=(VR.kv (.tup vs) ⟨a,it,rfl,t,k⟩ J);have j:dG c.s.heap vs it.toList:=by obtain ⟨b,rz,e,Z,k'⟩:=j;injection e with e;subst e;rw [AG t Z];exact k'
  refine contains_of (in_tupleAt (λz=>V.eqv (qb c.s.heap z) v) t (λz hz=>Ae r I L F j (Array.mem_toList_iff.mpr hz)) ⟨_,rfl,?_⟩);rw [<-Array.any_toList,yZ (f:=λz=>V.eqv z v) j];exact PB.tk q R
 |tab n=>
  obtain ⟨Y,rfl⟩:=G;induction v using V.casesOn with|int k=>obtain ⟨t,rfl⟩:=F;refine R.tab Y λxs hd f=>contains_of (wpAny_in_of (intKind_is C.prog C.w k t) (C.tabS n Y) hd.mapOf ⟨_,rfl,?_⟩);rw [(wH k f).isSome];exact PB.tk q R|_=>exact q.elim
 |ref i=>
  obtain ⟨l,e,rfl⟩:=G;refine q.obj R e λo h D q=> ?_;induction o with|list vs=>obtain ⟨it,D⟩:=D;refine Po.dj q λI J L q=> ?_;have j:=Hd D.vals J;refine contains_of (in_listAt (λz=>V.eqv (qb c.s.heap z) v) D.isList (λz hz=>Ae r I L F j (Array.mem_toList_iff.mpr hz)) ⟨_,rfl,?_⟩);rw [<-Array.any_toList,yZ (f:=λz=>V.eqv z v) j];exact PB.tk q R|dict af=>exact q.ite λhs q=>Ha r (uN R e) D.1 hs F λtk=>PB.tk q R|inst=>exact q.elim
 |_=>exact q.elim
theorem zf {x} (r:Rm A) (j:VR C c u x) (k:VR C c v y) (h:nW u v=true):RcAt A c.s x y (V.eqv u v)/\RcNeAt A c.s x y (!V.eqv u v):=by
 rcases (Kv _ _).mp h with h|h
 ·have h:=(hQ _ _).mp h;have t:=(hQ _ _).mp h.1;have z:=ug 20 u v x y A c.s (.inl (aa h.2)) (rk (Nat.add_le_add_left (show 20<=60 by decide) A.units) r.u) (VR.kv _ j t.1) (VR.kv _ k t.2);exact ⟨z.rc,z.ne⟩
 ·have h:=(hQ _ _).mp h;induction u using V.casesOn with
  |bool a=>
   induction v using V.casesOn with|bool b=>rw [show x= .bool a from j,show y= .bool b from k,show V.eqv (.bool a) (.bool b)=(a==b) from decide_eq_decide.mpr ⟨V.bool.inj,ej _⟩];exact ⟨.bool_bool a b,.bool_bool a b⟩|_=>exact (bB h.2).elim
  |_=>exact (bB h.1).elim
theorem xJ {op} {x} (r:Rm A) (R:Rep C c st) (j:VR C c u x) (k:VR C c v y) (q:PB C c (cC op u v st) λb s'=>Q (.bool b) s'):wpAny C.M A (compareOp (cY op) x y) Q E c.s:=by
 induction op with|eq=>exact q.ite λh q=>(zf r j k h).1 C.prog C.w E Q (PB.now q R)|ne=>exact q.ite λh q=>(zf r j k h).2 C.prog C.w E Q (PB.now q R)|lt=>exact Po.b_ (P:=λx y=>wpAny C.M A (compareOp .Lt x y) Q E c.s) q j k λa b _ _ q=>lt_int (PB.tk q R)|le=>exact Po.b_ (P:=λx y=>wpAny C.M A (compareOp .LtE x y) Q E c.s) q j k λa b _ _ q=>le_int (PB.tk q R)|gt=>exact Po.b_ (P:=λx y=>wpAny C.M A (compareOp .Gt x y) Q E c.s) q j k λa b _ _ q=>PyProof.Rows.gt_int (PB.tk q R)|ge=>exact Po.b_ (P:=λx y=>wpAny C.M A (compareOp .GtE x y) Q E c.s) q j k λa b _ _ q=>ge_int (PB.tk q R)|isin=>exact b' (wpAny_mono (Aa r R k j q) (λ_ _ z=>ez z) λ_ _ z=>z)|gA=>refine Fy (Aa r R k j ?_);exact Po.bd q λa D F g t q=>PB.now q t
theorem HA slice (o i):∃ops,subscripted slice false o i=operate ops (getItem o i):=by
 cases slice with|Slice a b d=>(generalize d=j;induction j using Option.casesOn<;>exact ⟨_,rfl⟩)|_=>exact ⟨_,rfl⟩
theorem kD {o i} (j:s.TypeIs o T)
 (hl:typeLookup (.type T) "__getitem__"=pure (some (.builtin id))) (hg:wpAny C.M A (getItem o i) Q E s):wpAny C.M A (subscriptTail value slice o i) Q E s:=
 (by obtain ⟨_,e⟩:=HA slice o i;exact tail_any j hl hg e)
theorem F9 {k} {n} (j:0<=k) (t:k.toNat<n):seqIndex? k n=some k.toNat:=by
 unfold seqIndex?
 have D:(if k<0 then k+(n:Int) else k)=k:=fm (Int.not_lt.mpr j);simp only [D];rw [ep (by rw [gs j,gs ((Int.toNat_lt j).mp t)];rfl)]
theorem ua {k:Int} (h:k<2^60):k<2^63:=Int.lt_trans h (aa rfl)
theorem ET {x} (rm:Rm A) (R:Rep C c st) (F:VR C c u x) (D:VR C c v y) (q:PV C c (index u v st) Q):wpAny C.M A (subscriptTail value slice x y) Q E c.s:=by
 cases u with
 |tup vs=>obtain ⟨a,it,rfl,t,k⟩:=F;refine Po.int (P:=λy=>wpAny C.M A (subscriptTail value slice (.ref a) y) Q E c.s) (k:=λk=>if 0<=k/\k<2^60 then lift vs[k.toNat]? else fail) (by induction v using V.casesOn<;>exact q) D λi G q=>q.ite λh q=>q.qN λw e q=> ?_;obtain ⟨z,hz,hv⟩:=k.wV e;exact kD t.typeIs slot_tuple_getitem.lookup (PyProof.Rows.getItem_tuple t (Int.le_trans (by decide) h.1) (ua h.2) (F9 h.1 (Array.getElem?_eq_some_iff.mp hz).1) hz (PV.here q R hv))|tab n=>obtain ⟨I,rfl⟩:=F;refine Po.int (P:=λy=>wpAny C.M A (subscriptTail value slice (.ref (C.gz n)) y) Q E c.s) (k:=λk=>ac (lift (ck n k)) λr=>Mine.ret (V.int r)) (by induction v using V.casesOn<;>exact q) D λk t q=>q.tP λr e q=>R.tab I λxs hd f=> ?_;have z:=wH k f;rw [show (tabs n).lookup k=some r from e] at z;obtain ⟨G,z⟩:=z;exact kD hd.mapOf.typeIs slot_dict_getitem.lookup (wpAny_getItem_of (knd:=intKind C.prog C.w) (intKind_is C.prog C.w k t) hd.mapOf z (PV.here (v:= .int r) q R ⟨_,rfl⟩))|ref i=>
  obtain ⟨l,e,rfl⟩:=F;refine q.obj R e λo _ j q=> ?_;induction o with|list vs=>obtain ⟨it,j⟩:=j;refine Po.int (P:=λy=>wpAny C.M A (subscriptTail value slice (.ref l.a) y) Q E c.s) (v:=v) (k:=λk=>if 0<=k/\k<2^60 then lift vs[k.toNat]? else fail) (by induction v using V.casesOn<;>exact q) D λi G q=>q.ite λh q=>q.qN λw e q=> ?_;obtain ⟨z,hz,hv⟩:=j.vals.wV e;exact kD j.isList.typeIs slot_list_getitem.lookup (PySem.wpAny_getItem_list j.isList h.1 (ua h.2) hz (PV.here q R hv))|dict af=>refine q.ite λJ q=>q.qN λw e q=> ?_;obtain ⟨o,es,Y,ho,L,_⟩:=j.1.obj;exact kD ⟨o,ho,L.1⟩ slot_dict_getitem.lookup (Oi rm j.1 J D e λtk z hz=>PV.here q R hz)|inst=>exact q.elim
 |_=>exact q.elim
theorem QW {l} {k} {t} {v} {Q} (hl:s.heap.PlainList l items) (I:0<=k) (D:k<2^63) (J:k.toNat<items.size)
 (L:∀F,F.PlainList l (items.setIfInBounds k.toNat v)->Heap.SameBut l s.heap F->Q () {s with heap:=F}):wpAny C.M A (setItem (.ref l) (.int k t) v) Q E s:=by
 obtain ⟨n,ho⟩:=hl;have G:s.TypeIs (.ref l) "list":=⟨_,ho,rfl⟩;unfold setItem
 try with_reducible refine ny ?_
 first|refine b' (ez ?_)|skip
 refine b' (wpAny_sequenceKey G rfl ?_);refine b' (wpAny_callSpecial?_slot G slot_list_setitem
  (wpAny_call_entry slot_list_setitem G entry_list_setitem ?_ (args_list_setitem _ _ _)))
 show wpAny _ _ (Builtin.List.listSubscript? (.int k t)>>=_) _ _ s;refine b' (wpAny_listSubscript_int (fitsIndex_of I D) ?_);obtain ⟨j,rfl⟩:=Int.eq_ofNat_of_zero_le I;refine b' (b' (wpAny_seqItemAt ho rfl (ez ?_)));rw [Array.getElem?_eq_getElem (show j<items.size from J)];have z:=L (s.heap.update l (Obj.mapSeq (·.setIfInBounds j v))) ⟨_,Heap.get?_update_self _ ho rfl⟩ (xb ..);refine b' (wpAny_setSeqItemAt ho rfl ?_)
 first
  |exact b' (ez (ez ⟨.none,rfl,ez z⟩))
  |exact ez ⟨.none,rfl,ez z⟩
theorem Iw {x d} {Q} (rm:Rm A) (R:Rep C c st) (J:VR C c u x) (I:VR C c v y) (hz:VR C c z d) (q:PU C c (setIndex u v z st) Q):wpAny C.M A (setItem x y d) Q E c.s:=by
 induction u using V.casesOn with
 |ref i=>
  obtain ⟨l,e,rfl⟩:=J;refine q.obj R e λo _ D q=> ?_;induction o with
  |list vs=>
   obtain ⟨it,D⟩:=D;induction v using V.casesOn with|int j=>obtain ⟨t,rfl⟩:=I;refine q.ite λh q=>QW D.at' h.1 (ua h.2.1) (by rw [D.vals.size];exact h.2.2) λF hl sb=> ?_;have w:=R.upd (s':={c.s with heap:=F}) (o:= .list (vs.set j.toNat z)) e (.inl rfl) rfl (λb hb=>sb.2 b hb) λm=>⟨_,hl,by rw [Array.toList_setIfInBounds];exact ((D.vals.f2.set hz _).kz).m m,D.own⟩;exact (q.uC R e) _ w.g w.r|_=>exact q.elim
  |dict af=>refine q.ite λh q=> ?_;have h:=(hQ _ _).mp h;obtain ⟨o,es,Y,G,L,_⟩:=D.1.obj;refine Qx ⟨o,G,L.1⟩ λk=>xz (rk (Nat.add_le_add_left (show 10<=60 by decide) A.units) rm.u) D.1 h.1 I hz (aa h.2) λF tk sb dr=>k _ ?_;have z:=R.upd (s':={c.s with heap:=F,toks:=tk}) (o:= .dict (aV af v z)) e (.inl rfl) rfl (λb hb=>sb.2 b hb) λm=>⟨dr m,D.2⟩;exact (q.uC R e) _ z.g z.r|inst=>exact q.elim
 |_=>exact q.elim
end
end Mine
namespace Mine
open PySem PySem.Calls PySem.SeqAt PyProof.Rows PySem.W
variable {items:Array Value}{Q E:Value->Shared->Prop}{ns:List Int}{value slice:PySem.Expr}{u v:V}{y:Value}{tt:Tok}{xs:List Value}{lo hi:Int}{args:List V}{C:Cx}{c:Cf}{A:Around}{s:Shared}
section
variable {st:St}
theorem Nk (a n:Nat) (ha:a<=n):Builtin.Slice.sliceAdjust none (some (a)) 1 (n:Int)=((0:Int),(a:Int)):=by unfold Builtin.Slice.sliceAdjust;simp only [show¬((1:Int)<0) from aa rfl,show¬((a:Int)<0) from Int.not_lt.mpr (Int.natCast_nonneg a),if_false];exact ej _ (Int.min_eq_left (KJ.mpr ha))
theorem P_ (a:Nat):Builtin.Slice.slicePlaces (0:Int) (a) 1=a:=by
 unfold Builtin.Slice.slicePlaces;simp only [show (1:Int)>0 from aa rfl,if_true,Int.ediv_one];by_cases z:(0:Int)<a
 ·rw [ep z];exact oo 0x1068d2142828d22d83d0102 (by exact sT _)
 ·rw [fm z];lia
theorem PH {sl} {a n:Nat} {u} {Q} (t:s.heap.IsSliceOf sl .none (.int a u) .none) (ha:a<=n) (h:Q ((0:Int),1,a) s):
 wpAny C.M A (Builtin.Slice.sliceApplied (.ref sl) (pure (n:Int))) Q E s:=by
 obtain ⟨os,j,z,k⟩:=t;unfold Builtin.Slice.sliceApplied Builtin.Slice.sliceFields;refine b' (b' (wpAny_field j k (x:= .none) rfl (b' (wpAny_field j k (x:= .int a u) rfl (b' (wpAny_field j k (x:= .none) rfl (ez ?_)))))));refine b' (slicePart_none ?_);show wpAny _ _ (if ((1:Int)==0)=true then _ else _) _ _ s;refine mT (aa rfl)<|b' (slicePart_none (b' (slicePart_int (b' (ez ?_)))));show wpAny _ _ (match Builtin.Slice.sliceAdjust none (some (a:Int)) 1 (n:Int) with|(lo,hi)=>pure (lo,(1:Int),Builtin.Slice.slicePlaces lo hi 1)) _ _ s;rw [Nk a n ha];show wpAny _ _ (pure ((0:Int),(1:Int),Builtin.Slice.slicePlaces (0:Int) (a:Int) 1)) _ _ s;rw [P_ a];exact ez h
theorem IU (xs:Array Value) (a):((List.range a).filterMap λ(k:Nat)=>xs[((0:Int)+(k:Int)*1).toNat]?).toArray=(xs.toList.take a).toArray:=by
 have:=pick_run xs 0 a;rw [List.filterMap_map,List.drop_zero] at this;rw [<-this];refine ej (λf=>(List.filterMap f (List.range a)).toArray) (funext λk=> ?_);rw [Int.zero_add,Int.mul_one];show xs[((k:Int)).toNat]? =xs[0+k]?
 rw [Nat.zero_add];rfl
theorem N8 {t sl:Addr} {a:Nat} {u} (k:IsTup s.heap t items) (L:s.heap.IsSliceOf sl .none (.int a u) .none) (ha:a<=items.size)
 (Y:a=items.size->Q (.ref t) s)
 (h:Q (.ref s.heap.objs.size) {s with heap:=s.heap.push {cls:= .type "tuple",data:= .seq (items.toList.take a).toArray}})
 (D:items.size<=sizeLine):wpAny C.M A (getItem (.ref t) (.ref sl)) Q E s:=by
 have j:sizeOk (.seq (items.toList.take a).toArray):=by show (items.toList.take a).toArray.size<=sizeLine;rw [List.size_toArray,List.length_take,vu];exact df (Nat.min_le_right _ _) D
 obtain ⟨os,F,G,Z⟩:=id L;have I:s.TypeIs (.ref sl) "slice":=⟨os,F,G⟩;unfold getItem
 try with_reducible refine ny ?_
 first|refine b' (ez ?_)|skip
 refine b' (wpAny_sequenceKey k.typeIs (aa rfl) ?_);refine b' (wpAny_callSpecial?_slot (name:=Str.ofString "__getitem__") k.typeIs slot_tuple_getitem
  (wpAny_call_entry slot_tuple_getitem k.typeIs entry_tuple_getitem ?_ (args_tuple_getitem _ _)))
 show wpAny _ _ (Builtin.Tuple.tupleItemsOf (.ref t)>>=_) _ _ s;refine b' (tupleItemsOf_ k ?_);refine b' (wpAny_typeOf I ?_);refine oY (aa rfl)<|b' (PH L ha ?_);show wpAny _ _ (if ((0:Int)==0&&(1:Int)==1&&a==items.size)=true then _ else _) _ _ s;by_cases J:a=items.size
 ·refine oY (by rw [J];simp)<|b'<|b' (m:=typeOf _) (wpAny_typeOf k.typeIs (ez ?_));exact oY (aa rfl)<|b' (wpAny_rule (ez ⟨_,rfl,ez (Y J)⟩))
 ·rw [fm (by rw [sv.mpr J,Bool.and_false];exact bB),IU items a];have z:=ez (M:=C.M) (A:=A) (E:=E) h
  first
   |exact b' (m:=Builtin.Tuple.tupleExact _) (wpAny_newObj_type (ez ⟨_,rfl,z⟩) j)
   |exact b' (m:=Builtin.Tuple.tupleExact _) (wpAny_newObj_type (b' (ez (ez ⟨_,rfl,z⟩))) j)
   |exact b' (b' (m:=Builtin.Tuple.tupleExact _) (wpAny_newObj_type (ez (ez ⟨_,rfl,z⟩)) j))
   |exact b' (b' (m:=Builtin.Tuple.tupleExact _) (wpAny_newObj_type (ez ⟨_,rfl,z⟩) j))
theorem HO {vs} (h:IntsAre vs ns):aU C c (ns.map .int) vs:=by
 induction h with|nil=>rfl|cons n t _ j=>exact ⟨_,_,rfl,⟨t,rfl⟩,j⟩
theorem rI {k:Int} (h:0<=k):∃n:Nat,k=n:=Int.eq_ofNat_of_zero_le h
theorem Oe {x:Value} {sl:Addr} (R:Rep C c st) (z:VR C c u x) (D:VR C c v y) (j:c.s.heap.IsSliceOf sl y .none .none) (q:PV C c (sliceFrom u v st) Q):wpAny C.M A (subscriptTail value slice x (.ref sl)) Q E c.s:=by
 cases u with|tup vs=>obtain ⟨a,it,rfl,t,k⟩:=z;refine Po.int (P:=λy=>c.s.heap.IsSliceOf sl y .none .none->wpAny C.M A (subscriptTail value slice (.ref a) (.ref sl)) Q E c.s) q D (λi F q=>q.ite λh q j=> ?_) j;obtain ⟨n,rfl⟩:=rI (Int.le_trans (aa rfl) h.1);exact kD t.typeIs slot_tuple_getitem.lookup (getItem_tuple_from t j (KJ.mp h.1) (by rw [k.size];exact h.2.1) (sk R (k.f2.drop n).kz q) (k.small h.2.2))|_=>exact q.elim
theorem QV {x:Value} {sl:Addr} (R:Rep C c st) (D:VR C c u x) (F:VR C c v y) (j:c.s.heap.IsSliceOf sl .none y .none) (q:PV C c (sliceTo C.sc u v st) Q):wpAny C.M A (subscriptTail value slice x (.ref sl)) Q E c.s:=by
 cases u with|tup vs=>obtain ⟨a,it,rfl,t,k⟩:=D;refine Po.int (P:=λy=>c.s.heap.IsSliceOf sl .none y .none->wpAny C.M A (subscriptTail value slice (.ref a) (.ref sl)) Q E c.s) q F (λi G q=>q.ite λh q j=> ?_) j;obtain ⟨n,rfl⟩:=rI h.1;refine kD t.typeIs slot_tuple_getitem.lookup (N8 t j (by rw [k.size];exact h.2.1) (λJ=>PV.now (v:= .tup vs) (?_:PV C c (some (.tup vs,st)) Q) R ⟨a,it,rfl,t,k⟩) (sk R (k.f2.take n).kz q) (k.small h.2.2));have e:vs.take n=vs:=List.take_of_length_le (Nat.le_of_eq (k.size.symm.trans J.symm));rw [show (n:Int).toNat=n from rfl,e] at q;exact q|eV=>rw [show x=_ from D];refine Po.int (P:=λy=>c.s.heap.IsSliceOf sl .none y .none->wpAny C.M A (subscriptTail value slice (.ref C.lP) (.ref sl)) Q E c.s) q F (λi G q=>q.ite λh q j=> ?_) j;have I:c.s.heap.IsList C.lP C.lU.toArray:=(by obtain ⟨o,ho,r⟩:=C.Pq;exact ⟨o,R.base _ _ ho,r⟩);have z:=pi (tk:=c.s.toks) R (HO (C:=C) (c:=c) (kmk_upto C.yi h.1)) q;rw [Array.toArray_toList] at z;exact kD I.typeIs slot_list_getitem.lookup (wpAny_getItem_list_slice I j .none (.int _ G) .none (aa rfl) z (by rw [List.size_toArray,C.yi.length];exact small h.2.2))|_=>exact q.elim
theorem N5 {x} {sl} (R:Rep C c st) (j:VR C c u x) (k:c.s.heap.IsSliceOf sl .none .none (.int (-1) tt)) (q:PV C c (pA u st) Q):wpAny C.M A (subscriptTail value slice x (.ref sl)) Q E c.s:=by
 induction u using V.casesOn with|ref i=>obtain ⟨l,e,rfl⟩:=j;refine q.lst R e λvs it _ r q=>q.ite λh q=>kD r.isList.typeIs slot_list_getitem.lookup (wpAny_getItem_list_slice r.isList k .none .none (.int (-1) tt) (aa rfl) ?_ (r.vals.small h));rw [krv_pick];exact pi (tk:=c.s.toks) R r.vals.f2.rev.kz q|_=>exact q.elim
noncomputable def qh:BI->Value
 | .len=> .builtin "len"| .range=> .type "range"| .tuple=> .type "tuple"| .list=> .type "list"| .str=> .type "str"
theorem Po.one {v} {X} {K} {J} {k} {P:List Value->Prop} (q:Po X K c (lW v k st) J) (h:aU C c v xs) (g:∀a x,VR C c a x->Po X K c (k a st) J->P [x]):P xs:=by
 induction v using List.casesOn with|nil=>exact q.elim|cons a r=>
  induction r with|nil=>obtain ⟨x,_,rfl,j,rfl⟩:=h;exact g a x j q|cons=>exact q.elim
theorem Po.two {v} {X} {K} {J} {k} {P:List Value->Prop} (q:Po X K c (vg v k st) J) (h:aU C c v xs) (g:∀a b x y,VR C c a x->VR C c b y->Po X K c (k a b st) J->P [x,y]):P xs:=by
 induction v using List.casesOn with|nil=>exact q.elim|cons a r=>obtain ⟨x,z,rfl,j,h⟩:=h;exact Po.one (P:=λl=>P (x::l)) q h λb y t q=>g a b x y j t q
theorem xe {tk} {t u v} (R:Rep C c st) (q:PV C c (some (.cW lo hi,st)) Q):Q (.ref c.s.heap.objs.size) {c.s with heap:=c.s.heap.push {cls:= .type "range",data:= .fields #[.int lo t,.int hi u,.int 1 v]},toks:=tk}:=
 q.fin (R.grow (s':={c.s with heap:=c.s.heap.push {cls:= .type "range",data:= .fields #[.int lo t,.int hi u,.int 1 v]},toks:=tk}) rfl (eS _ _)) ⟨_,t,u,v,rfl,IsRange.new ..⟩
theorem FS {b:BI} (R:Rep C c st) (k:aU C c args xs) (q:PV C c (builtin b args st) Q):wpAny C.M A (call (qh b) xs) Q E c.s:=by
 induction b with
 |len=>
  refine Po.one (P:=λxs=>wpAny C.M A (call (.builtin "len") xs) Q E c.s) q k λa x j q=> ?_;cases a with|tup vs=>obtain ⟨a,it,rfl,t,k⟩:=j;refine q.ite λh q=>len_tuple t (k.lf (aa h)) ?_;rw [k.size];exact PV.here (v:= .int _) q R ⟨_,rfl⟩|ref i=>obtain ⟨l,e,rfl⟩:=j;refine q.lst R e λvs it _ r q=>q.ite λh q=>call_len_list r.isList (r.vals.lf (aa h)) ?_;rw [r.vals.size];exact PV.here (v:= .int _) q R ⟨_,rfl⟩|_=>exact q.elim
 |range=>
  induction args using List.casesOn with|nil=>exact q.elim|cons a r=>
   obtain ⟨x,D,rfl,j,k⟩:=k;induction r using List.casesOn with|nil=>rw [show D= [] from k];exact Po.int (P:=λx=>wpAny C.M A (call (.type "range") [x]) Q E c.s) q j λn t q=>q.ite λh q=>call_range_1 (xe R q)|cons b r=>
    obtain ⟨y,D,rfl,G,k⟩:=k;induction r with|nil=>rw [show D= [] from k];exact Po.b_ (P:=λx y=>wpAny C.M A (call (.type "range") [x,y]) Q E c.s) q j G λa n t J q=>q.ite λh q=>call_range_2 (xe R q)|cons=>exact q.elim
 |tuple=>
  refine Po.one (P:=λxs=>wpAny C.M A (call (.type "tuple") xs) Q E c.s) q k λa x j q=> ?_;cases a with|tup vs=>obtain ⟨a,it,rfl,t,k⟩:=j;exact call_tuple_same t (PV.here (v:= .tup vs) q R ⟨a,it,rfl,t,k⟩)|ref i=>obtain ⟨l,e,rfl⟩:=j;exact q.lst R e λvs it _ r q=>q.ite λh q=>call_tuple_list r.isList (λF z=>BM (tk:=c.s.toks) R r.vals (λb o e=>eS _ _ _ _ (z b o e)) ⟨_,gw _ _,rfl,0,rfl⟩ q) (r.vals.small (aa h))|_=>exact q.elim
 |list=>
  refine Po.one (P:=λxs=>wpAny C.M A (call (.type "list") xs) Q E c.s) q k λa x j q=> ?_;cases a with|tup vs=>obtain ⟨a,it,rfl,⟨o,ho,I,n,hd⟩,k⟩:=j;exact q.ite λh q=>call_list_seq _ (.inr rfl) ho I hd (λF c' z hl=>uM (tk:=c.s.toks) R k z ⟨_,hl⟩ q) (k.small (aa h))|ref i=>obtain ⟨l,e,rfl⟩:=j;exact q.lst R e λvs it _ r q=>q.ite λh q=>(by obtain ⟨_,ho⟩:=r.at';exact call_list_seq _ (.inl rfl) ho rfl rfl (λF c' z hl=>uM (tk:=c.s.toks) R r.vals z ⟨_,hl⟩ q) (r.vals.small (aa h)))|_=>exact q.elim
 |str=>
  refine Po.one (P:=λxs=>wpAny C.M A (call (.type "str") xs) Q E c.s) q k λa x j q=> ?_;exact Po.int (P:=λx=>wpAny C.M A (call (.type "str") [x]) Q E c.s) q j λn t q=>q.ite λh q=>PySem.P.str_of_int (by
   obtain ⟨k,rfl⟩:=rI h.1;by_cases e:k=0
   ·rw [e];decide
   ·exact (Nat.log2_lt e).mpr (i1 (Int.ofNat_lt.mp h.2) (df (show 100<=2^7 by decide) (Nat.pow_le_pow_right (aa rfl) (aa rfl))))) (PV.here (v:= .str _) q R ⟨_,rfl⟩)
end
end Mine
namespace Mine
open PySem Calls SeqAt PyProof.Rows W Builtin Builtin.ObjectAttr
variable {z v u:V}{l:Loc}{expr:Bool}{Q E:Value->Shared->Prop}{pl:Sem Bool}{vs args:List V}{items:Array Value}{xs:List Value}{C:Cx}{c:Cf}{A:Around}
structure yd (K:Frag) (C:Addr):Prop where
 gt:findIn K (.ref C) "__getattr__"=some none
 ga:findIn K (.ref C) "__getattribute__"=some (some (.builtin "object.__getattribute__"))
 sa:findIn K (.ref C) "__setattr__"=some (some (.builtin "object.__setattr__"))
 po:plainOver K C=true
 hd:(clsIn K C).any (·.hasDict)=true
 Pw:makesIn K C=true
noncomputable def kS (K:Frag) (f:Addr):Prop:=typeIn K (.ref f)=some (.type "function")
abbrev ER (C:Cx) (ct:Nat->CD):Prop:=∀c n,n<C.nn->(ct c).meths.lookup n=none->findIn C.K (.ref (C.cm c)) (C.nm n)=some none
abbrev FH (C:Cx) (ct:Nat->CD) (aB:Nat->Addr):Prop:=∀c n f,(ct c).meths.lookup n=some f->n<C.nn->findIn C.K (.ref (C.cm c)) (C.nm n)=some (some (.ref (aB f)))/\kS C.K (aB f)
abbrev Re (C:Cx) (ct:Nat->CD) (aB:Nat->Addr):Prop:=∀c,findIn C.K (.ref (C.cm c)) "__init__"=some (some (.ref (aB (ct c).init)))/\kS C.K (aB (ct c).init)
structure j5 (C:Cx) (ct:Nat->CD) (aB:Nat->Addr):Prop where
 ok:∀c,yd C.K (C.cm c)
 no:ER C ct
 Px:FH C ct aB
 n0:C.nm 0="append"
 n1:C.nm 1="pop"
 n2:C.nm 2="get"
 init:Re C ct aB
section
variable {st:St} {ct:Nat->CD} {aB:Nat->Addr}
theorem Rep.gV (R:Rep C c st):C.K.In c.s.heap:=λa o e=>R.base a o (C.gV a o e)
theorem key_is {p} {e} (x:jE C c p e) {n} (j:n<C.nn):e.key.isStr (C.nm n)=(p.1==n):=by
 obtain ⟨t,k⟩:=x.key;rw [k];show (C.nm p.1==C.nm n)=_;by_cases q:p.1=n
 ·rw [q,m5,m5]
 ·rw [sv.mpr q,sv.mpr λz=>q (C.Jm _ _ x.lt j z)]
theorem yo {n} (j:n<C.nn):∀{fs} {es},F2 (jE C c) fs es->ia (λv e=>VR C c v e.val) ((fs.find? (λp=>p.1==n)).map (·.2)) (es.find? (λe=>e.key.isStr (C.nm n))):=by
 intro k;induction k with|nil=>intro _ e;rw [show _= [] from e];rfl|cons p _ y=>
  rintro _ ⟨e,r,q,x,t⟩;rw [q,hW,hW,key_is x j];induction p.1==n using Bool.casesOn with|true=>exact ⟨e,rfl,x.val⟩|false=>exact y t
theorem no_ref:∀{fs} {es},F2 (jE C c) fs es->es.any (·.refKey)=false:=by
 intro j;induction j with|nil=>intro _ e;rw [show _= [] from e];rfl|cons _ _ k=>rintro _ ⟨e,_,q,x,t⟩;rw [q,JS,k t,Bool.or_false];obtain ⟨t,y⟩:=x.key;unfold DictEntry.refKey;rw [y]
theorem Mb {n} (j:n<C.nn) {d} (hz:VR C c z d) tk:∀{fs} {es},F2 (jE C c) fs es->
 F2 (jE C c) (bV fs n z) (nsPutIn (C.nm n).cps.size (C.nm n).cps.toList (λ|some e=>{e with val:=d}|none=>⟨PyData.keyHash C.w.params (C.nm n),.str (C.nm n) tk,d⟩) es).1:=by
 intro k;induction k with|nil=>intro _ e;rw [show _= [] from e];exact F2.cons ⟨j,rfl,⟨tk,rfl⟩,hz⟩ rfl|cons p _ y=>
  rintro _ ⟨e,_,q,x,t⟩;rw [q];unfold bV nsPutIn;rw [Value.isStrByCps_eq,key_is x j];induction h:p.1==n using Bool.casesOn with|true=>rw [<-(g7.mp h)];exact F2.cons ⟨x.lt,x.hash,x.key,hz⟩ t|false=>exact F2.cons x (y t)
theorem Hp n z:∀fs,(bV fs n z).length<=fs.length+1:=by
 intro j;induction j with|nil=>exact .refl|cons p r k=>
  unfold bV
  split
  ·exact tu _
  ·exact wi k
theorem handed {x} (y:VR C c v x):handedIn x=true:=by
 induction v using V.casesOn with|none=>rw [show x=_ from y];rfl|bool=>rw [show x=_ from y];rfl|int=>obtain ⟨_,rfl⟩:=y;rfl|str=>obtain ⟨_,rfl⟩:=y;rfl|tup=>obtain ⟨_,_,rfl,_⟩:=y;rfl|ref=>obtain ⟨_,_,rfl⟩:=y;rfl|cW=>obtain ⟨_,_,_,_,rfl,_⟩:=y;rfl|tab=>obtain ⟨_,rfl⟩:=y;rfl|eV=>rw [show x=_ from y];rfl
theorem w6.inst {k} {fs} {es} {n} (x:w6 C c l k fs es n):InstAt c.s.heap l.a (instObj (C.cm k) l.d) (C.cm k) (some ⟨.type "dict",none,.dict es n,#[]⟩):=⟨x.obj,rfl,rfl,x.dict⟩
theorem FN {x} {n} (O:j5 C ct aB) (y:n<C.nn) (R:Rep C c st) (D:VR C c u x) (q:PV C c (getAttr ct u n st) Q):wpAny C.M A (PySem.getAttr x (C.nm n) expr) Q E c.s:=by
 induction u using V.casesOn with
 |ref i=>
  obtain ⟨l,e,rfl⟩:=D;refine q.obj R e λo _ r q=> ?_;induction o with
  |inst k fs=>
   obtain ⟨es,m,r⟩:=r;refine q.ite λhm q=>q.qN λv ev q=> ?_;obtain ⟨cd,t,j⟩:=any_some (O.ok k).hd;have f:=yo y r.vals;rw [show (fs.find? _).map _=some v from ev] at f;obtain ⟨en,F,hv⟩:=f;have own:W.ownOf cd (some ⟨.type "dict",none,.dict es m,#[]⟩) (C.nm n)=some (some en.val):=by unfold W.ownOf;rw [ep j];show lookIn _ _=_;unfold lookIn;dsimp only;rw [F]
   refine get_value R.gV r.inst (O.ok k).ga ?_ (handed hv) (PV.here q R hv);unfold findObj;rw [t,Option.bind_some,O.no k n y (lS.mp hm),Option.bind_some];rw [Option.bind_some,Option.bind_some];rw [own,Option.bind_some]
  |_=>exact q.elim
 |_=>exact q.elim
set_option tactic.hygienic true in
theorem GE {n} {tk} {d} {es} {m} {fs:List (Nat×V)} {p} {S:List DictEntry->Prop} (h:S (nsPutIn (C.nm n).cps.size (C.nm n).cps.toList (λ|some e=>{e with val:=d}|none=>⟨PyData.keyHash p (C.nm n),.str (C.nm n) tk,d⟩) es.toList).1):
 ∃j m',Obj.putName (C.nm n) (PyData.keyHash p (C.nm n)) (.str (C.nm n) tk) d ⟨.type "dict",none,.dict es m,#[]⟩=⟨.type "dict",none,.dict j m',#[]⟩/\S j.toList:=by
 unfold Obj.putName;dsimp only
 split
 ·rename_i k y
  exact ⟨_,_,rfl,cast (ej (λt:List DictEntry×Bool=>S t.1) y) h⟩
 ·rename_i k y
  exact ⟨_,_,rfl,cast (ej (λt:List DictEntry×Bool=>S t.1) y) h⟩
theorem Do {x d} {n} {Q} (O:j5 C ct aB) (J:n<C.nn) (R:Rep C c st) (Y:VR C c u x) (hz:VR C c z d) (q:PU C c (setAttr ct u n z st) Q):wpAny C.M A (PySem.setAttr x (C.nm n) d) Q E c.s:=by
 induction u using V.casesOn with
 |ref i=>
  obtain ⟨l,e,rfl⟩:=Y;refine q.obj R e λo _ r q=> ?_;induction o with
  |inst k fs=>
   obtain ⟨es,m,r⟩:=r;refine q.ite λhm q=> ?_;have q:=q.uC R e;have X:=R.gV;obtain ⟨cd,G,j⟩:=any_some (O.ok k).hd;have tk:takerIn C.K (C.cm k) (C.nm n)=some none:=by unfold takerIn;rw [O.no k n J (lS.mp hm.1),Option.bind_some]
   refine set_plain X r.inst (O.ok k).sa<|osa_open X r.inst (O.ok k).po tk λb=> ?_;refine b' (ez (b' (b' (wpAny_loadPart r.obj (b' (looks_clsIn X G _ _ _ _ (λ_ _ e=>e) ?_))))));rw [j];refine ez (b' (ez (b' ?_)));refine b' (b' (wpAny_askSetting (ez (b' (wpAny_mkText (b' (wpAny_loadPart r.dict ?_)))))));dsimp only;have c0:(!es.any (·.key.isStr (C.nm n))&&es.any (·.refKey))=false:=by rw [<-Array.any_toList,<-Array.any_toList,no_ref r.vals,Bool.and_false]
   rw [aRefKeyMayBeTheName_at,c0];obtain ⟨t,m',D,F⟩:=GE (fs:=fs) (Mb J hz (c.s.toks+1) r.vals);have I:t.size<=901:=by rw [<-vu,<-F.length];exact df (Hp n z fs) (wi hm.2)
   have L:(c.s.heap.update l.d (Obj.putName (C.nm n) (PyData.keyHash C.w.params (C.nm n)) (.str (C.nm n) (c.s.toks+1)) d)).get? l.d=some ⟨.type "dict",none,.dict t m',#[]⟩:=by rw [Heap.get?_update_self _ r.dict (by rw [D];rfl),D]
   refine wpAny_updatePart r.dict<|b' (wpAny_lookBehind L (pastItsLine_dict (by rw [sizeLine_eq];exact df I (by decide))) ?_);have w:=R.upd (s':={c.s with heap:=c.s.heap.update l.d (Obj.putName (C.nm n) (PyData.keyHash C.w.params (C.nm n)) (.str (C.nm n) (c.s.toks+1)) d),toks:=c.s.toks+1+1}) (o:= .inst k (bV fs n z)) e (.inr rfl) rfl (λb hb=>Heap.get?_update_other _ _ (Ne.symm hb))
    λM=>⟨t,m',(Heap.get?_update_other _ _ r.own).trans r.obj,L,F.mono λ_ _ y=>y.m M,r.own⟩
   exact ez (q _ w.g w.r)
  |_=>exact q.elim
 |_=>exact q.elim
def vi (C:Cx) (aB:Nat->Addr) (u:V):MH->Value->Prop
 | .fn f,x=>kS C.K (aB f)/\x= .ref (aB f)| .append,x=>x= .builtin "list.append"| .pop,x=>x= .builtin "list.pop"| .get,x=>x= .builtin "dict.get"| .ck t,x=>u= .tab t/\x= .builtin "dict.get"
theorem Ko {x} {n} {Q} (O:j5 C ct aB) (j:n<C.nn) (R:Rep C c st) (J:VR C c u x)
 (q:Po No (λc' st _=>Rep C c' st) c (ie ct u n st) λc' m=>∀f,vi C aB u m f->Q (f,[x]) c'.s):wpAny C.M A (getMethod x (C.nm n) pl) Q E c.s:=by
 induction u using V.casesOn with
 |ref i=>
  obtain ⟨l,e,rfl⟩:=J;refine q.obj R e λo _ r q=> ?_;induction o with
  |dict af=>
   match n,j,q with|2,j,q=>rw [O.n2];obtain ⟨o,es,L,ho,D,_⟩:=r.1.obj;exact getMethod_builtin ⟨o,ho,D.1⟩ F.plainAttrs_dict F.slot_dict_get F.type_dict_get (λa e=>by injection e with e;subst e;exact ⟨o,ho,D.2.1⟩) (q c Go.refl R _ rfl)|0,_,q=>exact q.elim|1,_,q=>exact q.elim|n+3,_,q=>exact q.elim
  |list vs=>
   obtain ⟨it,r⟩:=r;obtain ⟨k,G⟩:=r.at'
   match n,j,q with|0,j,q=>rw [O.n0];exact getMethod_builtin ⟨_,G,rfl⟩ F.plainAttrs_list F.slot_list_append F.type_list_append (λa e=>by injection e with e;subst e;exact ⟨_,G,rfl⟩) (q c Go.refl R _ rfl)|1,j,q=>rw [O.n1];exact getMethod_builtin ⟨_,G,rfl⟩ F.plainAttrs_list F.slot_list_pop F.type_list_pop (λa e=>by injection e with e;subst e;exact ⟨_,G,rfl⟩) (q c Go.refl R _ rfl)|n+2,_,q=>exact q.elim
  |inst k fs=>
   obtain ⟨es,m,r⟩:=r;dsimp only at q
   split at q
   ·exact q.elim
   ·rename_i y
    induction hf:(ct k).meths.lookup n using Option.casesOn with|none=>rw [hf] at q;exact q.elim|some f=>
     rw [hf] at q;have I:=O.Px k n f hf j;refine method_fn R.gV r.inst (O.ok k).ga (O.ok k).gt I.1 I.2 ?_ (q c Go.refl R _ ⟨I.2,rfl⟩);unfold shadowIn lookIn;dsimp only;have g:=yo j r.vals;unfold aH at y;induction h:(fs.find? λp=>p.1==n).map (·.2) using Option.casesOn with|none=>rw [h] at g;rw [show _=none from g];dsimp only;rw [no_ref r.vals];rfl|some v=>rw [h] at y;exact dv rfl y
 |tab t=>
  obtain ⟨Y,rfl⟩:=J
  match n,j,q with|2,j,q=>rw [O.n2];refine R.tab Y λxs hd f=>getMethod_builtin hd.mapOf.typeIs F.plainAttrs_dict F.slot_dict_get F.type_dict_get (λa e=>by injection e with e;subst e;obtain ⟨o,es,L,ho,D,_⟩:=hd;exact ⟨o,ho,D.2.1⟩) (q c Go.refl R _ ⟨rfl,rfl⟩)|0,_,q=>exact q.elim|1,_,q=>exact q.elim|n+3,_,q=>exact q.elim
 |_=>exact q.elim
theorem ED {i} (R:Rep C c st) (e:c.μ[i]? =some l) (r:oX C c l vs items) (hv:vs.getLast? =some v) (h:vs.length<=100000) (q:PV C c (some (v,st.set i (.list vs.dropLast))) Q):
 wpAny C.M A (call (.builtin "list.pop") [.ref l.a]) Q E c.s:=by
 obtain ⟨n,k⟩:=r.at';rw [List.getLast?_eq_getElem?] at hv;obtain ⟨y,t,D⟩:=r.vals.wV hv;rw [<-r.vals.size] at t;have j:=(Array.getElem?_eq_some_iff.mp t).1;refine call_meets F.slot_list_pop ⟨_,k,rfl⟩ F.entry_list_pop (F.args_list_pop_1 _) (MeetsSeq.list_pop_last l.a items n y t (r.vals.small h)) ⟨k,?_⟩;have G:(items.eraseIdxIfInBounds (items.size-1)).toList=items.toList.dropLast:=by rw [Array.eraseIdxIfInBounds,dif_pos j,Array.toList_eraseIdx,List.dropLast_eq_take,List.eraseIdx_eq_take_drop_succ,List.drop_of_length_le (by rw [vu,Nat.sub_add_cancel (rk (hL _) j)];exact g6 _),hR,vu]
 have w:=R.upd (s':={c.s with heap:=c.s.heap.update l.a (Obj.mapSeq λxs=>xs.eraseIdxIfInBounds (items.size-1))}) (o:= .list vs.dropLast) e (.inl rfl) rfl (λb hb=>Heap.get?_update_other _ _ (Ne.symm hb))
  λM=>⟨_,⟨_,IsL.update k _⟩,by
   rw [G,List.dropLast_eq_take,List.dropLast_eq_take,<-r.vals.length];exact (r.vals.m M).f2.take _|>.kz,r.own⟩
 exact q.fin w (D.m w.m)
theorem OI {x f} {m} (rm:Rm A) (R:Rep C c st) (D:VR C c u x) (k:aU C c args xs) (hm:vi C aB u m f) (q:PV C c (ik m u args st) Q):wpAny C.M A (call f (x::xs)) Q E c.s:=by
 induction m with
 |fn=>exact q.elim|append=>rw [show f=_ from hm];refine Po.ref (P:=λx=>wpAny C.M A (call (.builtin "list.append") (x::xs)) Q E c.s) q D λi l e q=>Po.one (P:=λxs=>wpAny C.M A (call (.builtin "list.append") (.ref l.a::xs)) Q E c.s) q k λv y j q=>q.lst R e λvs it _ r q=>q.ite λh q=> ?_;have q:=q.fF R e;refine wpAny_list_append_plain r.at' (λJ hl sb=> ?_) (r.vals.small h);exact PV.fin (v:= .none) q (R.upd (s':={c.s with heap:=J}) (o:= .list (vs++ [v])) e (.inl rfl) rfl (λb hb=>sb.2 b hb) λM=>⟨_,hl,by rw [Array.toList_push];exact (r.vals.f2.snoc j).kz.m M,r.own⟩) rfl|pop=>
  rw [show f=_ from hm];refine Po.ref (P:=λx=>wpAny C.M A (call (.builtin "list.pop") (x::xs)) Q E c.s) q D λi l e q=>q.lst R e λvs it _ r q=> ?_;induction args with
  |nil=>
   rw [show xs= [] from k];induction hv:vs.getLast? using Option.casesOn with|none=>rw [hv] at q;exact q.elim|some v=>rw [hv] at q;exact Po.ite (b:=vs.length<=100000) (x:=ac (i8 i (.list vs.dropLast)) λ_=>Mine.ret v) q λh q=>ED R e r hv h (q.fF R e)
  |cons=>exact q.elim
 |get=>
  rw [show f=_ from hm];exact Po.ref (P:=λx=>wpAny C.M A (call (.builtin "dict.get") (x::xs)) Q E c.s) q D λi l e q=>Po.two (P:=λxs=>wpAny C.M A (call (.builtin "dict.get") (.ref l.a::xs)) Q E c.s) q k λa b y z j hz q=>q.mC R e λaf _ d _ q=>q.ite λL q=>
   NT rm (uN R e) d L j hz λtk z hz=>PV.here q R hz
 |ck t=>
  obtain ⟨rfl,rfl⟩:=hm;obtain ⟨G,rfl⟩:=D;refine Po.two (P:=λxs=>wpAny C.M A (call (.builtin "dict.get") (.ref (C.gz t)::xs)) Q E c.s) q k λa b y z j hz q=>Po.b_ (P:=λy z=>wpAny C.M A (call (.builtin "dict.get") [.ref (C.gz t),y,z]) Q E c.s) q j hz λa b Y I q=>R.tab G λxs hd f=> ?_;refine call_meetsIn F.slot_dict_get hd.typeIs F.entry_dict_get (F.args_dict_get_3 _ _ _) (meets_dict_get_default (intKind C.prog C.w) (C.gz t) (intKind_is C.prog C.w a Y) (C.tabS t G) (.int b I)) ⟨_,hd.mapOf,?_⟩;apply PV.here (v:= .int ((ck t a).getD b)) (tk:=c.s.toks+1) q R;have z:=wH a f;show VR C c (.int (((tabs t).lookup a).getD b)) _;induction h:(tabs t).lookup a using Option.casesOn with|none=>rw [h] at z;rw [show _=none from z];exact ⟨I,rfl⟩|some v=>rw [h] at z;obtain ⟨Z,z⟩:=z;rw [z];exact ⟨Z,rfl⟩
end
end Mine
namespace Mine
open PySem Calls SeqAt PyProof.Rows W
variable {h h':Heap}{a:Addr}{n:Str}{v:V}{α:Type}{Q E:Value->Shared->Prop}{p:Pos}{ts:List (Bool×Sem Value)}{F:Fx}{c c':Cf}{bM:St}{ρ:ag}{A:Around}{t j6 km mO:Sem Value}
noncomputable def Fa (env:Env) (b:Addr):Prop:=b=env.locals\/∃n,env.cells.lookup n=some b
abbrev Pl (env:Env) (names:List Str):Prop:=∀n∈names,(env.kindOf n=some .local\/(env.kindOf n=some .cell/\(env.cells.lookup n).isSome=true))/\(n==("__debug__":Str))=false
abbrev Pi (env:Env):Prop:=∀n j c,env.cells.lookup n=some c->env.cells.lookup j=some c->n=j
abbrev FY (env:Env):Prop:=∀n c,env.cells.lookup n=some c->c≠env.locals
structure tH (env:Env) (names:List Str):Prop where
 kind:env.scope.kind= .function
 gl:env.globals=mainGlobals
 bl:env.builtins=builtinsNs
 nodup:names.Nodup
 kinds:Pl env names
 inj:Pi env
 ne:FY env
structure Fx where
 C:Cx
 dM:Around->Prop
 rm:∀A,dM A->Rm A
 env:Env
 names:List Str
 N:tH env names
structure At (F:Fx) (c:Cf) (n:Str) (v:V):Prop where
 loc:F.env.kindOf n=some .local->∃m x,c.s.heap.Ns F.env.locals m/\m n=some x/\VR F.C c v x
 cell:F.env.kindOf n=some .cell->∃a x,F.env.cells.lookup n=some a/\c.s.heap.IsCell a (some x)/\VR F.C c v x
abbrev MX (F:Fx) (c:Cf) (ρ:ag):Prop:=∀(i:Nat) (n) (v),F.names[i]? =some n->ρ[i]? =some (some v)->At F c n v
abbrev DC (F:Fx) (c:Cf):Prop:=∀b,Fa F.env b->¬Own c b/\F.C.base.get? b=none
abbrev Ql (F:Fx) (c:Cf):Prop:=∀n a,F.env.cells.lookup n=some a->∃v,c.s.heap.IsCell a v
structure aK (F:Fx) (c:Cf) (st:St) (ρ:ag):Prop where
 R:Rep F.C c st
 len:ρ.length=F.names.length
 at':MX F c ρ
 own:DC F c
 ns:∃m,c.s.heap.Ns F.env.locals m
 cell:Ql F c
noncomputable abbrev GF (F:Fx):=Gx (Fa F.env)
section
variable {st:St}
theorem aK.there (K:aK F c st ρ) {b} (h:Fa F.env b):∃o,c.s.heap.get? b=some o/\¬TR o:=by
 rcases h with rfl|⟨n,h⟩
 ·obtain ⟨m,o,es,j,ho,hd,_⟩:=K.ns;exact ⟨o,ho,oQ hd⟩
 ·obtain ⟨v,o,ho,hd⟩:=K.cell n b h;exact ⟨o,ho,λh=>h.elim (by rintro ⟨_,_,_,q⟩;exact nomatch hd.symm.trans q) (by rintro ⟨_,_,q⟩;exact nomatch hd.symm.trans q)⟩
theorem nL {v} (e:∀o,h.get? a=some o->h'.get? a=some o):h.IsCell a v->h'.IsCell a v:=(by rintro ⟨o,ho,hd⟩;exact ⟨o,e o ho,hd⟩)
theorem At.mono (x:At F c n v) (m:Mo c c') (e:∀b o,Fa F.env b->c.s.heap.get? b=some o->c'.s.heap.get? b=some o):At F c' n v:=
 ⟨λk=>(by obtain ⟨m',x,j,hm,hv⟩:=x.loc k;exact ⟨m',x,j.at λo=>e _ o (.inl rfl),hm,hv.m m⟩),λk=>(by obtain ⟨a,x,ha,y,hv⟩:=x.cell k;exact ⟨a,x,ha,nL (λo=>e _ o (.inr ⟨n,ha⟩)) y,hv.m m⟩)⟩
theorem aK.of (K:aK F c st ρ) (R:Rep F.C c' bM) (m:Mo c c') (e:∀b o,Fa F.env b->c.s.heap.get? b=some o->c'.s.heap.get? b=some o) (no:∀b,Fa F.env b->¬Own c' b):aK F c' bM ρ:=
 ⟨R,K.len,λi n v j y=>(K.at' i n v j y).mono m e,λb h=>⟨no b h,(K.own b h).2⟩,K.ns.imp λ_ x=>x.at λo=>e _ o (.inl rfl),λn a h=>(K.cell n a h).imp λ_ x=>nL (λo=>e _ o (.inr ⟨n,h⟩)) x⟩
theorem aK.no (K:aK F c st ρ) (g:Go c c') b (h:Fa F.env b):¬Own c' b:=λz=>(by obtain ⟨_,e,_⟩:=K.there h;exact bX (g.fresh b z (K.own b h).1) e)
theorem aK.go (K:aK F c st ρ) (z:RG F.C c c' bM):aK F c' bM ρ:=K.of z.r z.g.mo (λb o h e=>z.g.keep b o e (K.own b h).1 id) (K.no z.g)
theorem aK.gf (K:aK F c st ρ) (g:Go c c'):GF F c c':=g.wide (K.no g)
abbrev PX (F:Fx) (ρ:ag) (c:Cf) (r:Option (V×St)) (Q:Value->Shared->Prop):Prop:=Po No (λc' st _=>aK F c' st ρ) c r λc' v=>∀x,VR F.C c' v x->Q x c'.s
abbrev DG (F:Fx) (ρ:ag) (c:Cf) (r:Option (List V×St)) (Q:List Value->Shared->Prop):Prop:=Po No (λc' st _=>aK F c' st ρ) c r λc' v=>∀x,aU F.C c' v x->Q x c'.s
abbrev ln (F:Fx) (ρ:ag) (c:Cf) (r:Option (Bool×St)) (Q:Bool->Shared->Prop):Prop:=Po No (λc' st _=>aK F c' st ρ) c r λc' b=>Q b c'.s
theorem Po.prim {r} {J:Cf->α->Prop} (q:Po No (λc' st _=>aK F c' st ρ) c r J) (K:aK F c st ρ):Po No (λc' st _=>Rep F.C c' st) c r J:=by
 induction r with|none=>exact q|some p=>exact λc' g R=>q c' g (K.go ⟨R,g⟩)
theorem Po.fin {a} {J:Cf->α->Prop} (q:Po No (λc' st _=>aK F c' st ρ) c (some (a,st)) J) (K:aK F c st ρ):J c a:=q c Go.refl K
def Ok (F:Fx) (f:ag->M V) (t:Sem Value):Prop:=∀{A E c st ρ Q},F.dM A->aK F c st ρ->PX F ρ c (f ρ st) Q->wpAny F.C.M A t Q E c.s
def iO (F:Fx) (f:ag->M (List V)) (ts:List (Bool×Sem Value)):Prop:=∀{A E c st ρ Q},F.dM A->aK F c st ρ->DG F ρ c (f ρ st) Q->wpAny F.C.M A (spliced ts) Q E c.s
def bU (F:Fx) (f:ag->M Bool) (t:Sem Bool):Prop:=∀{A E c st ρ Q},F.dM A->aK F c st ρ->ln F ρ c (f ρ st) Q->wpAny F.C.M A t Q E c.s
variable {f g k:ag->M V} {fs:ag->M (List V)}
theorem xy {i:Nat} (K:aK F c st ρ) (z:F.names[i]? =some n) (hv:ρ[i]? =some (some v)) (q:∀x,VR F.C c v x->Q x c.s):wpAny F.C.M A (loadName F.env n) Q E c.s:=by
 have a:=K.at' i n v z hv;rcases (F.N.kinds n (bh z)).1 with hk|⟨hk,_⟩
 ·obtain ⟨m,x,j,hm,y⟩:=a.loc hk;exact wpAny_loadName_local F.N.kind hk j hm (q x y)
 ·obtain ⟨a,x,ha,D,y⟩:=a.cell hk;exact wpAny_loadName_cell F.N.kind hk ha D (q x y)
theorem yT {i} {p} (e:iW ρ i st=some p):ρ[i]? =some (some p.1)/\p.2=st:=by
 unfold iW lift at e;induction h:ρ[i]? using Option.casesOn with|none=>rw [h] at e;trivial|some o=>
  rw [h] at e;induction o with|none=>trivial|some v=>rw [<-aP e];exact ⟨rfl,rfl⟩
theorem F' {i} (j:F.names[i]? =some n):Ok F (λρ=>iW ρ i) (eval (.Name n p) F.env):=λ{A E c st ρ Q} _ K q=>by
 refine wpAny_Name ?_ (F.N.kinds n (bh j)).2;have q:PX F ρ c (iW ρ i st) Q:=q;induction e:iW ρ i st using Option.casesOn with|none=>rw [e] at q;exact q.elim|some r=>rw [e] at q;have y:=yT e;exact xy K j y.1 (q c Go.refl (y.2▸K))
theorem Q1 (hf:Ok F f t) (hg:iO F fs ts):iO F (λρ=>ac (f ρ) λv=>ac (fs ρ) λvs=>Mine.ret (v::vs)) ((false,t)::ts):=
 λJ K q=>spliced_cons (hf J K (q.bd λa D L _ j q x Z=>hg J j (q.bd λb G Y y z q xs I=>Po.fin q z (x::xs) ⟨x,xs,rfl,Z.m y.mo,I⟩)))
theorem Iz {op} {l r:Expr} (hf:Ok F f (eval l F.env)) (hg:Ok F g (eval r F.env)):Ok F (λρ=>ac (f ρ) λa=>ac (g ρ) λb=>binop op a b) (eval (.BinOp l (se op) r p) F.env):=
 λJ K q=>wpAny_BinOp (hf J K (q.bd λa G L _ z q x Z=>hg J z (q.bd λb I Y D j q y hy=>OM j.R (Z.m D.mo) hy (q.prim j))))
theorem Gj {v i:Expr} (hf:Ok F f (eval v F.env)) (hg:Ok F g (eval i F.env)):Ok F (λρ=>ac (f ρ) λa=>ac (g ρ) λb=>index a b) (eval (.Subscript v i p) F.env):=
 λG K q=>Subscript_ (hf G K (q.bd λa I L _ z q x Z=>hg G z (q.bd λb J Y D j q y hy=>ET (F.rm _ G) j.R (Z.m D.mo) hy (q.prim j))))
theorem ln.val (K:aK F c st ρ) {x:M Bool} (q:PX F ρ c (ac x (λb=>Mine.ret (V.bool b)) st) Q):PB F.C c (x st) λb s'=>Q (.bool b) s':=
 (Po.bd q λb y z _ j q=>Po.fin q j _ rfl).prim K
theorem Op {op} {l r} (hm:behindInMarks (cY op) r=false) (hf:Ok F f (eval l F.env)) (hg:Ok F g (eval r F.env)):
 Ok F (λρ=>ac (f ρ) λa=>ac (g ρ) λb=>ac (cC op a b) λc=>Mine.ret (.bool c)) (eval (.Compare l [cY op] [r] p) F.env):=
 λG K q=>wpAny_Compare1 (hf G K (q.bd λa I L _ z q x Z=>hg G z (q.bd λb J Y D j q y hy=>xJ (F.rm _ G) j.R (Z.m D.mo) hy (ln.val j q)))) hm
end
variable {s':Shared}
section
variable {st:St} {f g k:ag->M V} {fs:ag->M (List V)}
theorem aK.put {i} (K:aK F c st ρ) (I:F.names[i]? =some n) (r:Rest c.s s') (ha:Fa F.env a) (sb:Heap.SameBut a c.s.heap s'.heap) (x:Mo c ⟨c.μ,s'⟩->At F ⟨c.μ,s'⟩ n v)
 (Q:∀G u,G≠n->Mo c ⟨c.μ,s'⟩->At F c G u->At F ⟨c.μ,s'⟩ G u) (ns:∃m,s'.heap.Ns F.env.locals m) (cl:∀n a,F.env.cells.lookup n=some a->∃v,s'.heap.IsCell a v):aK F ⟨c.μ,s'⟩ st (gj ρ i v)/\GF F c ⟨c.μ,s'⟩:=by
 have h:=K.own a ha;have L:∀b o,c.s.heap.get? b=some o->b≠a->s'.heap.get? b=some o:=λb o e q=>(sb.2 b q).trans e;have m:Mo c ⟨c.μ,s'⟩:=⟨λ_ _ e=>e,.of λb o e t=>L b o e λq=>(by obtain ⟨_,Y,nt⟩:=K.there (q▸ha:Fa F.env b);exact nt (aP (e.symm.trans Y)▸t))⟩;refine ⟨⟨K.R.gM m.gZ λb o e q=>L b o e λz=>q.elim (λy=>h.1 (z▸y)) λy=>bX (z▸h.2) y,JL.trans K.len,λj G u J D=> ?_,K.own,ns,cl⟩,⟨m,λb o e _ q=>L b o e λz=>q (z▸ha),λ_ x y=>dv x y,λb q=>(K.own b q).1,r⟩⟩;by_cases e:i=j
 ·rw [<-e] at J D;have D:(ρ.set i (some v))[i]? =_:=D;rw [KA (K.len▸(dB I).1)] at D;rw [<-aP (I.symm.trans J),<-aP (aP D)];exact x m
 ·have D:(ρ.set i (some v))[j]? =_:=D;rw [JN e] at D;exact Q G u (λq=>e ((List.getElem?_inj (dB I).1 F.N.nodup).mp (I.trans (q▸J).symm))) m (K.at' j G u J D)
theorem rG {i} {x} {Q} (K:aK F c st ρ) (hn:F.names[i]? =some n) (hv:VR F.C c v x) (q:∀c',GF F c c'->aK F c' st (gj ρ i v)->Q () c'.s):wpAny F.C.M A (storeName F.env n x) Q E c.s:=by
 rcases (F.N.kinds n (bh hn)).1 with hk|⟨hk,hc⟩
 ·obtain ⟨m,Y⟩:=K.ns;refine wpAny_storeName_local hk Y (λZ j sb=> ?_) (by rw [F.N.kind];rfl);have z:=K.put (s':={c.s with heap:=Z,toks:=c.s.toks+1}) hn rfl (.inl rfl) sb (λM=>⟨λ_=>⟨_,x,j,ep rfl,hv.m M⟩,λe=>nomatch hk.symm.trans e⟩)
   (λn' u ne M y=>⟨λe=>(by obtain ⟨m',G,D,I,J⟩:=y.loc e;exact ⟨_,G,j,(fm ne).trans ((Y.agree D n').trans I),J.m M⟩),λe=>(by obtain ⟨a,G,D,I,J⟩:=y.cell e;exact ⟨a,G,D,nL (λo=>(sb.2 a (F.N.ne _ _ D)).trans) I,J.m M⟩)⟩)
   ⟨_,j⟩ λn a h=>(K.cell n a h).imp λ_ y=>nL (λo=>(sb.2 a (F.N.ne _ _ h)).trans) y
  exact q _ z.2 z.1
 ·obtain ⟨a,ha⟩:=JT.mp hc;obtain ⟨v0,h0⟩:=K.cell n a ha;refine wpAny_storeName_cell F.N.kind hk ha h0 λZ j sb=> ?_;have kl:∀m,c.s.heap.Ns F.env.locals m->Z.Ns F.env.locals m:=λm y=>y.at λo=>(sb.2 _ (Ne.symm (F.N.ne _ _ ha))).trans;have z:=K.put (s':={c.s with heap:=Z}) hn rfl (.inr ⟨n,ha⟩) sb (λM=>⟨λe=>(nomatch hk.symm.trans e),λ_=>⟨a,x,ha,j,hv.m M⟩⟩)
   (λn' u ne M y=>⟨λe=>(by obtain ⟨m',G,D,I,J⟩:=y.loc e;exact ⟨m',G,kl _ D,I,J.m M⟩),λe=>(by obtain ⟨L,G,D,I,J⟩:=y.cell e;exact ⟨L,G,D,nL (λo=>(sb.2 L λq=>ne (F.N.inj _ _ _ D (q▸ha))).trans) I,J.m M⟩)⟩)
   (K.ns.imp kl) λn' L h=>Classical.byCases (λe:L=a=>⟨_,e▸j⟩) λe=>(K.cell n' L h).imp λ_ y=>nL (λo=>(sb.2 L e).trans) y
  exact q _ z.2 z.1
end
variable {β γ:Type}{u:V}{kd:Nat}{p2:Pos}{es rest:List Expr}{e fk sE:Expr}{s:Shared}{whole:Sem Value}{env:Env}{Q':Bool->Shared->Prop}{y:Value}{o1 o2:CO}
noncomputable def mi (e:Expr):Bool:= !(Nat.beq e.ctorIdx 16)
noncomputable def j8 (e:Expr):Bool:= !(Nat.beq e.ctorIdx 7)
noncomputable def notStar (e:Expr):Bool:= !(Nat.beq e.ctorIdx 22)
noncomputable def vX (e:Expr):Bool:= !(Nat.beq e.ctorIdx 25)
noncomputable def fJ (e:Expr):Bool:= !(Nat.beq e.ctorIdx 8)&&(!(Nat.beq e.ctorIdx 9)&& !(Nat.beq e.ctorIdx 10))
noncomputable def jQ:Const->Option V
 | .none=>some .none| .bool b=>some (.bool b)| .int i=>some (.int i)| .str s=>some (.str s)|_=>none
abbrev cX (f:ag->M V):ag->M Bool:=λρ=>ac (f ρ) truth
theorem Cq {x} {f:α->M β} {g:β->M γ} {st}:ac (ac x f) g st=ac x (λa=>ac (f a) g) st:=by unfold ac;cases x st<;>rfl
noncomputable def Pu {α} (x:M α):Prop:=∀st p,x st=some p->p.2=st
theorem Pu.r {a:α}:Pu (ret a):=λ_ _ e=>aP e▸rfl
theorem Pu.f:Pu (fail:M α):=λ_ _ e=>(by trivial)
theorem Pu.i {α} {b} [Decidable b] {x:M α} (h:Pu x):Pu (if b then x else fail):=by
 by_cases q:b
 ·rw [ep q];exact h
 ·rw [fm q];exact Pu.f
theorem Pu.g {i:Nat}:Pu (bC i):=λst p e=>by
 unfold bC at e;induction h:st[i]? using Option.casesOn with|none=>rw [h] at e;trivial|some o=>rw [h] at e;exact aP e▸rfl
theorem Pu.b {x:M α} {f:α->M β} (h:Pu x) (k:∀a,Pu (f a)):Pu (ac x f):=λst p e=>by
 unfold ac at e;induction q:x st using Option.casesOn with|none=>rw [q] at e;trivial|some r=>rw [q] at e;exact (k _ _ _ e).trans (h _ _ q)
theorem Qv:Pu (truth v):=by
 induction v using V.casesOn with|tup=>exact .i .r|ref=>exact .b .g λo=>by (generalize o=j;induction j using O.casesOn<;>first|exact .i .r|exact .f)|none=>exact .r|bool=>exact .r|int=>exact .r|_=>exact .f
section
variable {st:St} {f g k:ag->M V} {fs:ag->M (List V)}
theorem PX.here {x} {tk} (q:PX F ρ c (some (v,st)) Q) (K:aK F c st ρ) (h:VR F.C c v x):Q x {c.s with toks:=tk}:=PV.here (q.prim K) K.R h
theorem Po.as {X:Addr->Prop} {K:Cf->St->γ->Prop} {J:Cf->γ->Prop} {x:M α} {f:α->M β} {g:β->M γ} (q:Po X K c (ac (ac x f) g st) J):Po X K c (ac x (λa=>ac (f a) g) st) J:=Cq▸q
theorem Po.sa {X} {K} {J} {x} {f:α->M β} {g:β->M γ} (q:Po X K c (ac x (λa=>ac (f a) g) st) J):Po X K c (ac (ac x f) g st) J:=Cq▸q
theorem Po.map {X:Addr->Prop} {K:Cf->St->β->Prop} {J:Cf->β->Prop} {z:Cf->St->γ->Prop} {D:Cf->γ->Prop} {x:M α} {f:α->M β} {g:α->M γ} (q:Po X K c (ac x f st) J) (h:∀a j,Po X K c (f a j) J->Po X z c (g a j) D):Po X z c (ac x g st) D:=by
 unfold ac at q⊢;induction e:x st using Option.casesOn with|none=>rw [e] at q;exact q|some p=>rw [e] at q;exact h _ _ q
theorem qY {x} {D} {G} {h:Bool->M α} {Q} (K:aK F c st ρ) (I:VR F.C c v x) (q:Po No D c (ac (truth v) h st) G)
 (k:∀b z j,Go c j->aK F j z ρ->Po No D j (h b z) G->Q b j.s):wpAny F.C.M A (truthy x) Q E c.s:=
 xw K.R I (Po.prim (q.bd k) K)
theorem FR {cn} (h:jQ cn=some v):Ok F (λ_=>Mine.ret v) (eval (.Constant cn kd p) F.env):=λ_ K q=>by
 induction cn with
 |none=>injection h with h;subst h;exact Constant_none (Po.fin q K _ rfl)
 |bool b=>injection h with h;subst h;exact Constant_bool (Po.fin q K _ rfl)
 |int i=>injection h with h;subst h;exact wpAny_mkInt (PX.here q K ⟨_,rfl⟩)
 |str s=>injection h with h;subst h;exact wpAny_mkText (PX.here q K ⟨_,rfl⟩)
 |_=>trivial
theorem yH {n} (h:fits n=true):n<=100000:=aa h
theorem Oq (hf:iO F fs (backTo p (starEach es F.env))):Ok F (λρ=>ac (fs ρ) λvs=>if fits vs.length then Mine.ret (.tup vs) else fail) (eval (.Tuple es kd p) F.env):=λI K q=>by rw [arm_eval_Tuple];exact b' (wpAny_standAt (b' (hf I K (q.bd λvs z D _ j q xs G=>Po.ite q λh q=>wpAny_newTuple (sk j.R G (Po.prim q j)) (by rw [<-G.length];exact small (yH h))))))
theorem OB (hf:iO F fs (backTo p (starEach es F.env))):Ok F (λρ=>ac (fs ρ) λvs=>if fits vs.length then bN (.list vs) else fail) (eval (.List es p) F.env):=λI K q=>by rw [arm_eval_List];exact b' (wpAny_standAt (b' (hf I K (q.bd λvs z D _ j q xs G=>Po.ite q λh q=>wpAny_newList (pi j.R G (Po.prim q j)) (by rw [<-G.length];exact small (yH h))))))
theorem Ju (hf:Ok F f (eval e F.env)):Ok F (λρ=>ac (f ρ) λv=>intOf v λi=>Mine.ret (.int (-i))) (eval (.UnaryOp .USub e p) F.env):=
 λ{A E _ _ _ Q} G K q=>UnaryOp_ (hf G K (q.bd λa D j _ z q x I=>Po.int (P:=λx=>wpAny F.C.M A (unaryOp .USub x) Q E j.s) q I λi t q=>P.neg_int (PX.here q z ⟨_,rfl⟩)))
theorem Rn (hf:Ok F f (eval e F.env)):Ok F (λρ=>ac (f ρ) λv=>ac (truth v) λb=>Mine.ret (.bool (!b))) (eval (.UnaryOp .Not e p) F.env):=
 λL K q=>UnaryOp_ (hf L K (q.bd λa D I _ j q x Y=>not_of (qY j Y q λb G J _ z q=>Po.fin q z _ rfl)))
theorem AP {x:Value} (j:VR F.C c v x):(x==Value.none)=v.nb:=by
 induction v using V.casesOn with|none=>rw [show x=_ from j];rfl|bool=>rw [show x=_ from j];rfl|int=>obtain ⟨_,rfl⟩:=j;rfl|str=>obtain ⟨_,rfl⟩:=j;rfl|tup=>obtain ⟨_,_,rfl,_⟩:=j;rfl|ref=>obtain ⟨_,_,rfl⟩:=j;rfl|cW=>obtain ⟨_,_,_,_,rfl,_⟩:=j;rfl|tab=>obtain ⟨_,rfl⟩:=j;rfl|eV=>rw [show x=_ from j];rfl
theorem cmp_none {n:Bool} {x:Value} (j:(x==Value.none)=v.nb) (q:Q (.bool (if n then !v.nb else v.nb)) s):wpAny F.C.M A (compareOp (if n then .IsNot else .Is) x .none) Q E s:=by
 induction n with|true=>exact isnot_none_gen (j▸q)|false=>exact is_none_gen (j▸q)
theorem Cm {o} (h:mi o=true):attributeBase o n env t=t:=by
 (revert h;generalize o=j;intro h;cases j<;>first|rfl|exact (bB h).elim)
theorem Jz {ct} {aB} {n} (O:j5 F.C ct aB) (L:n<F.C.nn) (Y:mi e=true) (hf:Ok F f (eval e F.env)):Ok F (λρ=>ac (f ρ) λo=>getAttr ct o n) (eval (.Attribute e (F.C.nm n) p) F.env):=λZ K q=>by rw [arm_eval_Attribute,Cm Y];exact b' (hf Z K (q.bd λa G I _ j q x hx=>b' (wpAny_standAt (b' (ny (wpAny_mono (FN O L j.R hx (Po.prim q j)) (λr J D=>b' (wpAny_letTemporaryGo (ez D))) λ_ _ z=>z))))))
theorem Fd {x a b} (I:bU F (cX f) (isTrue x F.env (eval x F.env))) (ha:Ok F g (eval a F.env)) (hb:Ok F k (eval b F.env)):Ok F (λρ=>ac (f ρ) λv=>ac (truth v) λt=>if t then g ρ else k ρ) (eval (.IfExp x a b p) F.env):=
 λ{A E c st ρ Q} z K q=>IfExp_ (I z K (Po.bd (Po.sa q) λt D G _ j q=>by
  induction t with|true=>exact ha z j q|false=>exact hb z j q))
def aT (F:Fx) (f:ag->M V) (e:Expr):Prop:=Ok F f (eval e F.env)/\bU F (cX f) (isTrue e F.env (eval e F.env))
theorem both (G:∀whole,isTrue e F.env whole=(do let v<-whole;standAt e.pos;holding [v] (truthy v))) (h:Ok F f (eval e F.env)):aT F f e:=⟨h,λI K q=>isTrue_plain (h I K (q.bd λa z D _ j q x J=>xw j.R J (Po.prim q j))) (G _)⟩
theorem Hn (hf:bU F (cX f) (isTrue e F.env (eval e F.env))):bU F (cX λρ=>ac (f ρ) λv=>ac (truth v) λb=>Mine.ret (.bool (!b))) (isTrue (.UnaryOp .Not e p) F.env whole):=
 λ{A E c st ρ Q} z K q=>isTrue_not (hf z K (Po.map (Po.as q) λa j q=>by
  have q:=Po.as q;unfold ac at q;induction e:truth a j using Option.casesOn with|none=>rw [e] at q;exact q|some p=>rw [e] at q;exact q))
theorem Q8 {x a b} (I:bU F (cX f) (isTrue x F.env (eval x F.env))) (ha:bU F (cX g) (isTrue a F.env (eval a F.env))) (hb:bU F (cX k) (isTrue b F.env (eval b F.env))):
 bU F (cX λρ=>ac (f ρ) λv=>ac (truth v) λt=>if t then g ρ else k ρ) (isTrue (.IfExp x a b p) F.env whole):=
 λ{A E c st ρ Q} z K q=>isTrue_IfExp (I z K (Po.bd (Po.sa (Po.map (Po.as q) λa _ q=>Po.as q)) λt D G _ j q=>by
  induction t with|true=>exact ha z j q|false=>exact hb z j q))
theorem Fe (hf:Ok F f (eval fk F.env)) (hg:Ok F g (eval (.BoolOp .And (sE::rest) p) F.env)):Ok F (λρ=>ac (f ρ) λv=>ac (truth v) λt=>if t then g ρ else Mine.ret v) (eval (.BoolOp .And (fk::sE::rest) p) F.env):=
 λJ K q=>BoolOp_and (hf J K (q.bd λa G L _ z q x Y=>qY z Y q λb I Z D j q=>by
  cases b with|true=>exact hg J j q|false=>exact Po.fin q j _ (Y.m D.mo)))
theorem Dh (hf:Ok F f (eval fk F.env)) (hg:Ok F g (eval (.BoolOp .Or (sE::rest) p) F.env)):Ok F (λρ=>ac (f ρ) λv=>ac (truth v) λt=>if t then Mine.ret v else g ρ) (eval (.BoolOp .Or (fk::sE::rest) p) F.env):=
 λJ K q=>BoolOp_or (hf J K (q.bd λa G L _ z q x Y=>qY z Y q λb I Z D j q=>by
  cases b with|false=>exact hg J j q|true=>exact Po.fin q j _ (Y.m D.mo)))
theorem Bc {w:Bool} {H:V->Bool->M V} {x:M V} {Q:Bool->Shared->Prop} (J:∀v,H v w=g ρ) (L:∀v,H v (!w)=Mine.ret v) (q:ln F ρ c (ac (ac x λv=>ac (truth v) (H v)) truth st) Q)
 (Y:∀z j,aK F z j ρ->ln F ρ z (ac (g ρ) truth j) Q->Q' w z.s) (Z:∀s,Q (!w) s->Q' (!w) s):ln F ρ c (ac x truth st) Q':=by
 refine Po.map (Po.as q) λa j q=> ?_;have q:=Po.as q;unfold ac at q;induction e:truth a j using Option.casesOn with|none=>rw [e] at q;exact q|some p=>
  rw [e] at q;obtain ⟨b,D⟩:=p;have e2:D=j:=Qv _ _ e;intro z G I;by_cases hb:b=w
  ·rw [hb] at q⊢;exact Y z D I (J a▸Po.after G q)
  ·have hb:b= !w:=by induction b using Bool.casesOn<;>induction w using Bool.casesOn<;>first|rfl|exact dv rfl hb
   rw [hb] at q e⊢;have q:ln F ρ c (ac (H a (!w)) truth D) Q:=q;rw [L,e2,show ac (Mine.ret a) truth j=truth a j from rfl,e] at q;exact Z _ (q z G I)
theorem DT (hf:bU F (cX f) (isTrue fk F.env (eval fk F.env))) (hg:bU F (cX g) (isTrue (.BoolOp .And rest p) F.env whole)):
 bU F (cX λρ=>ac (f ρ) λv=>ac (truth v) λt=>if t then g ρ else Mine.ret v) (isTrue (.BoolOp .And (fk::rest) p) F.env whole):=
 λz K q=>isTrue_and (hf z K (Bc (w:=true) (λ_=>rfl) (λ_=>rfl) q (λ_ _ j q=>hg z j q) λ_ q=>q))
theorem NM (hf:bU F (cX f) (isTrue fk F.env (eval fk F.env))) (hg:bU F (cX g) (isTrue (.BoolOp .Or rest p) F.env whole)):
 bU F (cX λρ=>ac (f ρ) λv=>ac (truth v) λt=>if t then Mine.ret v else g ρ) (isTrue (.BoolOp .Or (fk::rest) p) F.env whole):=
 λz K q=>isTrue_or (hf z K (Bc (w:=false) (λ_=>rfl) (λ_=>rfl) q (λ_ _ j q=>hg z j q) λ_ q=>q))
theorem HT (hf:bU F (cX f) (isTrue fk F.env (eval fk F.env))):bU F (cX f) (isTrue (.BoolOp .And [fk] p) F.env whole):=λ{A E c st ρ Q} I K q=>
 isTrue_and (hf I K (Po.map q λa j q=>by
  cases e:truth a j with|none=>rw [e] at q;exact q|some p=>
   rw [e] at q;intro z D G;have q:=q z D G;induction h:p.1 using Bool.casesOn with|true=>rw [h] at q;exact isTrue_and_nil q|false=>rw [h] at q;exact q))
theorem Kw (hf:bU F (cX f) (isTrue fk F.env (eval fk F.env))):bU F (cX f) (isTrue (.BoolOp .Or [fk] p) F.env whole):=λ{A E c st ρ Q} I K q=>
 isTrue_or (hf I K (Po.map q λa j q=>by
  cases e:truth a j with|none=>rw [e] at q;exact q|some p=>
   rw [e] at q;intro z D G;have q:=q z D G;induction h:p.1 using Bool.casesOn with|true=>rw [h] at q;exact q|false=>rw [h] at q;exact isTrue_or_nil q))
theorem pF {op:CO} {x:Value} {D:Cf->St->α->Prop} {G:Cf->α->Prop} {h:Bool->M α} (r:Rm A) (K:aK F c st ρ) (I:VR F.C c u x) (J:VR F.C c v y) (q:Po No D c (ac (cC op u v) h st) G)
 (k:∀b z j,Go c j->aK F j z ρ->Po No D j (h b z) G->Q (.bool b) j.s):wpAny F.C.M A (compareOp (cY op) x y) Q E c.s:=
 xJ r K.R I J (Po.prim (q.bd k) K)
theorem N9 {op:CO} {l r:Expr} (hm:behindInMarks (cY op) r=false) (hf:Ok F f (eval l F.env)) (hg:Ok F g (eval r F.env)):
 bU F (cX λρ=>ac (f ρ) λa=>ac (g ρ) λb=>ac (cC op a b) λc=>Mine.ret (.bool c)) (isTrue (.Compare l [cY op] [r] p) F.env whole):=λ{A E c st ρ Q} J K q=>by
 show wpAny _ _ (do testChain p (<-eval l F.env) [cY op] (markedEach [cY op] [r] (evalEach [r] F.env))) _ _ _;rw [markedEach_of_false _ _ _ (show lastMarks [cY op] [r]=false from hm)];refine b' (hf J K ((Po.as q).bd λa L c₁ _ j q x hx=> ?_));show wpAny _ _ (do
  let rv<-holding [x] (eval r F.env)
  standAt p
  let c<-operate [x,rv] (compareOp (cY op) x rv)
  holding [c] (truthy c)) _ _ _
 exact b' (ny (hg J j ((Po.as q).bd λb Y c₂ D G q y hy=>b' (wpAny_standAt (b' (wpAny_operate' (pF (F.rm _ J) G (hx.m D.mo) hy (Po.as q) λz Z c₃ _ I q=>ny (wpAny_truthy_bool (Po.fin q I)))))))))
theorem Pe {l r z:Expr} (hm:behindInMarks (cY o2) z=false) (hf:Ok F f (eval l F.env)) (hg:Ok F g (eval r F.env)) (hk:Ok F k (eval z F.env)):
 Ok F (λρ=>ac (f ρ) λa=>ac (g ρ) λb=>ac (cC o1 a b) λc=>if c then ac (k ρ) λz=>ac (cC o2 b z) λr2=>Mine.ret (.bool r2) else Mine.ret (.bool false)) (eval (.Compare l [cY o1,cY o2] [r,z] p) F.env):=λD K q=>
 Compare_chain (hf D K (q.bd λa st₁ c₁ _ G q x hx=>chain_link (hg D G (q.bd λb st₂ c₂ I J q y hy=>pF (F.rm _ D) J (hx.m I.mo) hy q λw st₃ c₃ L j q=>wpAny_truthy_bool (by
  induction w with|false=>exact Po.fin q j _ rfl|true=>exact chain_last (hk D j (Po.bd q λz st₄ c₄ Y Z q z hz=>pF (F.rm _ D) Z (hy.m (L.trans Y).mo) hz q λw st₅ c₅ _ K₅ q=>Po.fin q K₅ _ rfl))))))) hm
theorem QT {l r z:Expr} (hm:behindInMarks (cY o2) z=false) (hf:Ok F f (eval l F.env)) (hg:Ok F g (eval r F.env)) (hk:Ok F k (eval z F.env)):
 bU F (cX λρ=>ac (f ρ) λa=>ac (g ρ) λb=>ac (cC o1 a b) λc=>if c then ac (k ρ) λz=>ac (cC o2 b z) λr2=>Mine.ret (.bool r2) else Mine.ret (.bool false)) (isTrue (.Compare l [cY o1,cY o2] [r,z] p) F.env whole):=λD K q=>
 isTrue_chain (hf D K ((Po.as q).bd λa st₁ c₁ _ G q x hx=>test_link (hg D G ((Po.as q).bd λb st₂ c₂ I J q y hy=>pF (F.rm _ D) J (hx.m I.mo) hy (Po.as q) λw st₃ c₃ L j q=>wpAny_truthy_bool (by
  induction w with|false=>exact Po.fin q j|true=>
   show wpAny _ _ (do
    let rv<-holding [y] (eval z F.env)
    standAt p
    let c<-operate [y,rv] (compareOp (cY o2) y rv)
    holding [c] (truthy c)) _ _ _
   exact b' (ny (hk D j (Po.bd (Po.as q) λz st₄ c₄ Y Z q z hz=>b' (wpAny_standAt (b' (wpAny_operate' (pF (F.rm _ D) Z (hy.m (L.trans Y).mo) hz (Po.as q) λw st₅ c₅ _ K₅ q=>ny (wpAny_truthy_bool (Po.fin q K₅)))))))))))))) hm
theorem NW {n:Bool} (hf:Ok F f (eval e F.env)):bU F (cX λρ=>ac (f ρ) λv=>Mine.ret (.bool (if n then !v.nb else v.nb))) (isTrue (.Compare e [if n then .IsNot else .Is] [.Constant .none kd p2] p) F.env whole):=λ{A E c st ρ Q} G K q=>by
 show wpAny _ _ (do testChain p (<-eval e F.env) [if n then .IsNot else .Is] (markedEach [if n then .IsNot else .Is] [.Constant .none kd p2] (evalEach [.Constant .none kd p2] F.env))) _ _ _;rw [markedEach_of_false _ _ _ rfl];refine b' (hf G K ((Po.as q).bd λa z D _ j q x I=> ?_));show wpAny _ _ (do
  let rv<-holding [x] (eval (.Constant .none kd p2) F.env)
  standAt p
  let c<-operate [x,rv] (compareOp (if n then .IsNot else .Is) x rv)
  holding [c] (truthy c)) _ _ _
 exact b' (ny (Constant_none (b' (wpAny_standAt (b' (wpAny_operate' (cmp_none (AP I) (ny (wpAny_truthy_bool (Po.fin q j))))))))))
end
variable {C:Cx}{p3 p4 pos:Pos}{sc:List Int}{fi:Nat}{w:World}{items:Array Value}{fv:Value}{first xs:List Value}{vs:List V}
section
variable {st:St} {f g k:ag->M V} {fs:ag->M (List V)}
theorem Rep.sl {tk} (R:Rep C c st) o:RG C c ⟨c.μ,{c.s with heap:=c.s.heap.push o,toks:=tk}⟩ st:=R.grow rfl (eS _ _)
theorem PX.at {r} (q:PX F ρ c r Q) (K:aK F c st ρ) (z:RG F.C c c' st):PV F.C c' r Q:=Po.prim (Po.after z.g q) (K.go z)
theorem Hl {v i} (hf:Ok F f (eval v F.env)) (hg:Ok F g (eval i F.env)):Ok F (λρ=>ac (f ρ) λa=>ac (g ρ) λb=>sliceFrom a b) (eval (.Subscript v (.Slice (some i) none none p2) p) F.env):=λY K q=>by refine Subscript_ (hf Y K (q.bd λa J Z _ D q x hx=>wpAny_Slice ?_));refine hg Y D (q.bd λb L G I j q y hy=>ez (ez ?_));have z:=j.R.sl (tk:=G.s.toks) {cls:= .type "slice",data:= .fields #[y,.none,.none]};exact Oe z.r ((hx.m I.mo).m z.m) (hy.m z.m) (Heap.IsSliceOf.new ..) (PX.at q j z)
theorem Mg {v i} (J:sc=F.C.sc) (hf:Ok F f (eval v F.env)) (hg:Ok F g (eval i F.env)):Ok F (λρ=>ac (f ρ) λa=>ac (g ρ) λb=>sliceTo sc a b) (eval (.Subscript v (.Slice none (some i) none p2) p) F.env):=λZ K q=>by rw [J] at q;refine Subscript_ (hf Z K (q.bd λa L c₁ _ D q x hx=>wpAny_Slice ?_));refine ez (hg Z D (q.bd λb Y G I j q y hy=>ez ?_));have z:=j.R.sl (tk:=G.s.toks) {cls:= .type "slice",data:= .fields #[.none,y,.none]};exact QV z.r ((hx.m I.mo).m z.m) (hy.m z.m) (Heap.IsSliceOf.new ..) (PX.at q j z)
theorem Ew {v} (hf:Ok F f (eval v F.env)):Ok F (λρ=>ac (f ρ) λa=>pA a) (eval (.Subscript v (.Slice none none (some (.UnaryOp .USub (.Constant (.int 1) kd p3) p4)) p2) p) F.env):=λG K q=>by refine Subscript_ (hf G K (q.bd λa D j _ y q x I=>wpAny_Slice ?_));refine ez (ez (UnaryOp_ (wpAny_mkInt (P.neg_int ?_))));have z:=y.R.sl (tk:=j.s.toks+1+1) {cls:= .type "slice",data:= .fields #[.none,.none,.int (-1) (j.s.toks+1)]};exact N5 z.r (I.m z.m) (Heap.IsSliceOf.new ..) (PX.at q y z)
theorem Jp {p} {l} {k} {x} {u}
 (hl:s.heap.get? l=some {cls:= .type "list",dict:=none,data:= .seq items k,slots:= #[]})
 (y: -(2^63:Int)<=x) (z:x<2^63) (j:items.size*x.toNat<=2^24)
 (h:Q (.ref s.heap.objs.size) {s with heap:=s.heap.push {cls:= .type "list",data:= .seq (List.foldl (λD G=>D++G) #[] (List.replicate (if items.isEmpty=true then 0 else x.toNat) items))}}):
 wpAny (model p w) A (binaryOp .Mult (.ref l) (.int x u)) Q E s:=
 wpAny_binaryOp_repeat_ref rfl ⟨_,hl,rfl⟩ (λs'=>typeIs_int s' x u) noFill_list_mul F.fills_int_mul F.slot_int_rmul repeat_list F.slot_int_index.lookup
  (call_meets F.slot_int_rmul (typeIs_int s x u) F.entry_int_rmul (F.args_int_rmul_2 _ _) (int___rmul___int_list x u l items k)
    ⟨hl,rfl,⟨_,hl,rfl⟩,call_meets F.slot_list_mul ⟨_,hl,rfl⟩ F.entry_list_mul (F.args_list_mul_2 _ _)
      (AutoListH.list___mul___list_int_3 l items k x u (by simp [Builtin.List.listFitsIndex];exact oo 0x1a414130000000000000001f46060000000000000003f9d0000000000000001f460c0000000000000007f3a90 y z) (KD.2 (df j (show 2^24<=(2^63-1)/8 from aa rfl))) (by simp [Builtin.List.listTooLong,sizeLine];exact oo 0xc0000000004000003e800000000001000000fa001 j))
      ⟨hl,h⟩⟩)
theorem Pk x:∀n (a:Array Value),List.foldl (λj y=>j++y) a (List.replicate n #[x])=(a.toList++List.replicate n x).toArray:=by
 intro z;induction z with|zero=>intro a;simp|succ n D=>intro a;rw [List.replicate_succ,List.foldl_cons,D,List.replicate_succ,Array.toList_append,DZ];rfl
theorem Qn {x} (k:VR C c v x):∀n,aU C c (List.replicate n v) (List.replicate n x):=by
 intro j;induction j with|zero=>exact rfl|succ n y=>exact ⟨x,List.replicate n x,List.replicate_succ,k,y⟩
theorem Dr {n} (hf:Ok F f (eval e F.env)) (hg:Ok F g (eval n F.env)) (hs:starEach [e] F.env= [(false,eval e F.env)]):
 Ok F (λρ=>ac (f ρ) λv=>ac (g ρ) λk=>intOf k λk=>if 0<=k/\k<=1000 then bN (.list (List.replicate k.toNat v)) else fail) (eval (.BinOp (.List [e] p2) .Mult n p) F.env):=λ{A E c st ρ Q} hA K q=>by
 apply wpAny_BinOp;rw [arm_eval_List,hs];refine b' (wpAny_standAt (b' (spliced_cons (hf hA K (q.bd λa Y j _ D q x hx=>spliced_nil ?_)))));have z:=D.R.sl (tk:=j.s.toks) {cls:= .type "list",data:= .seq [x].toArray};refine wpAny_newList (hg hA (D.go z) (Po.bd (Po.after z.g q) λb Z G I J q y hy=> ?_)) (by show 1<=sizeLine;decide);refine Po.int (P:=λy=>wpAny F.C.M A (binaryOp .Mult _ y) Q E G.s) q hy λk t q=>Po.ite q λh q=> ?_;obtain ⟨L,rfl⟩:=rI h.1;have hn:=KJ.mp h.2;apply Jp (I.keep _ _ (gw j.s.heap _) (λw=>bX (eX j.s.heap) (D.R.there w).choose_spec.1) id) (Int.le_trans (aa rfl) (Int.natCast_nonneg L)) (lf (df hn (aa rfl))) (by rw [show (#[x]:Array Value).size=1 from rfl,Nat.one_mul];exact df hn (aa rfl));rw [show (if (#[x]:Array Value).isEmpty=true then 0 else (L:Int).toNat)=L from rfl,(Pk x L #[])];exact (pi (tk:=G.s.toks) J.R (Qn ((hx.m z.m).m I.mo) L) (Po.prim q J))
theorem aU.cons {C} {v} {x} {vs} {xs} (h:VR C c v x) (t:aU C c vs xs):aU C c (v::vs) (x::xs):=⟨x,xs,rfl,h,t⟩
abbrev D3 (dM CB:Around->Prop):Prop:=∀A args,dM A->CB (A.under (.builtin "type.__call__" args))
structure qq (dM CB:Around->Prop):Prop where
 call:∀A,dM A->CB A
 make:D3 dM CB
def mM (C:Cx) (CB:Around->Prop) (aB:Nat->Addr) (cl:Nat->List V->M V):Prop:=
 ∀{A c st f vs xs R},CB A->Rep C c st->aU C c vs xs->PV C c (cl f vs st) (λx s'=>R (.ok (.ret x)) s')->codeAny C.M A (.call (.ref (aB f)) ⟨xs,[]⟩) R c.s
variable {ct:Nat->CD} {aB:Nat->Addr} {cl:Nat->List V->M V} {CB:Around->Prop}
theorem uF {M} {Q} (hp:ts.any (·.1)=false)
 (h:wpAny M A (spliced ts) (λvs s'=>Q ⟨vs,[]⟩ s') E s):wpAny M A (evalArgs fv true ts []) Q E s:=by
 induction ts with|nil=>refine b' (wpAny_mono h (λvs s' j=> ?_) λ_ _ x=>x);refine b' (ez (ny ?_));exact b' (ez (b' (ez (ez j))))|cons a r=>obtain ⟨b,x⟩:=a;have hp:=(Bool.or_eq_false_iff.mp hp);cases hp.1;exact evalArgs_plain h
theorem we (hp:ts.any (·.1)=false) (hk:keepIn C.K fv=true)
 (h:wpAny C.M A (spliced ts) (λvs j=>C.K.In j.heap/\wpAny C.M A (call fv (first++vs)) Q E j) E s):wpAny C.M A (callWith pos fv first ts []) Q E s:=
 callWith_of (by rw [hp];rfl) (keeps_K hk) (uF hp h)
theorem aK.call (K:aK F c st ρ) (j:mM F.C CB aB cl) (y:CB A) (z:aU F.C c vs xs) (q:PX F ρ c (cl fi vs st) Q):wpAny F.C.M A (PySem.call (.ref (aB fi)) xs) Q E c.s:=
 wpAny_call (j y K.R z (Po.prim q K))
theorem OE (B:qq F.dM CB) (z:mM F.C CB aB cl) (hk:F.env.kindOf n=some .globalImplicit) (hd:(n==("__debug__":Str))=false) (hv:F.C.mg n=some (.ref (aB fi)))
 (y:keepIn F.C.K (.ref (aB fi))=true) (hp:(backTo p2 (starEach es F.env)).any (·.1)=false) (hf:iO F fs (backTo p2 (starEach es F.env))):Ok F (λρ=>ac (fs ρ) λvs=>cl fi vs) (eval (.Call (.Name n p) es [] p2) F.env):=
 λI K q=>wpAny_Call_NameR (Name_function_global F.N.kind hk (loadGlobal_global (F.N.gl▸F.C.g.keeps K.R.base) hv (we hp y (hf I K (q.bd λvs D J _ j q xs G=>⟨j.R.gV,j.call z (B.call _ I) G q⟩)))) hd)
theorem PI {b} (hk:F.env.kindOf n=some .globalImplicit) (hd:(n==("__debug__":Str))=false) (hm:F.C.mg n=none) (hv:F.C.mb n=some (qh b))
 (hp:(backTo p2 (starEach es F.env)).any (·.1)=false) (hf:iO F fs (backTo p2 (starEach es F.env))):Ok F (λρ=>ac (fs ρ) λvs=>builtin b vs) (eval (.Call (.Name n p) es [] p2) F.env):=λ{A E c st ρ Q} I K q=>by
 refine wpAny_Call_NameR (Name_function_global F.N.kind hk (loadGlobal_builtin (F.N.gl▸F.C.g.keeps K.R.base) hm (F.N.bl▸F.C.b.keeps K.R.base) hv ?_) hd);have fin:∀(fv),wpAny F.C.M A (evalArgs fv true (backTo p2 (starEach es F.env)) []) (λa y=>wpAny F.C.M A (PySem.call (qh b) ([]++a.pos) a.kw) Q E y) E c.s:=λfv=>
  uF hp (hf I K (q.bd λvs z G _ j q xs D=>FS j.R D (Po.prim q j)))
 induction b with|len=>exact callWith_builtin hp (fin _)|range=>exact PySem.callWith_type hp (fin _)|tuple=>exact PySem.callWith_type hp (fin _)|list=>exact PySem.callWith_type hp (fin _)|str=>exact PySem.callWith_type hp (fin _)
theorem Nu {k} {tk} (R:Rep C c st):RG C c ⟨c.μ++ [⟨c.s.heap.objs.size+1,c.s.heap.objs.size⟩],{c.s with heap:=(c.s.heap.push emptyDict).push (instObj (C.cm k) c.s.heap.objs.size),toks:=tk}⟩ (st++ [.inst k []])/\(c.μ++ [⟨c.s.heap.objs.size+1,c.s.heap.objs.size⟩])[st.length]? =some (⟨c.s.heap.objs.size+1,c.s.heap.objs.size⟩:Loc):=
 R.add rfl (λb o e=>eS _ _ _ _ (eS _ _ _ _ e))
  ⟨by unfold Heap.get?;rw [Array.getElem?_eq_none (tu _)],eX _⟩ ⟨#[],0,by
    have:=gw (c.s.heap.push emptyDict) (instObj (C.cm k) c.s.heap.objs.size);rw [Heap.size_push] at this;exact this,eS _ _ _ _ (gw c.s.heap emptyDict),rfl,(Nat.succ_ne_self _).symm⟩
theorem EJ {k} (O:j5 F.C ct aB) (B:qq F.dM CB) (L:mM F.C CB aB cl) (hk:F.env.kindOf n=some .globalImplicit) (hd:(n==("__debug__":Str))=false) (hv:F.C.mg n=some (.ref (F.C.cm k)))
 (y:keepIn F.C.K (.ref (F.C.cm k))=true) (hp:(backTo p2 (starEach es F.env)).any (·.1)=false) (hf:iO F fs (backTo p2 (starEach es F.env))):
 Ok F (λρ=>ac (fs ρ) λvs=>ac (bN (.inst k [])) λself=>ac (cl (ct k).init (self::vs)) λr=>Ba r (Mine.ret self)) (eval (.Call (.Name n p) es [] p2) F.env):=λhA K q=>by
 refine wpAny_Call_NameR (Name_function_global F.N.kind hk (loadGlobal_global (F.N.gl▸F.C.g.keeps K.R.base) hv (we hp y (hf hA K (q.bd λvs D G _ j q xs Y=>⟨j.R.gV,?_⟩)))) hd);have X:=j.R.gV;have hi:=O.init k;refine wpAny_call (make_core (makes_of X (O.ok k).Pw) (looks_findIn X hi.1) (λself=>bind_fn X self hi.2) (.inl rfl) ?_);have z:=Nu (k:=k) (tk:=G.s.toks) j.R;refine L (B.make _ _ hA) z.1.r (aU.cons (v:= .ref D.length) ⟨_,z.2,rfl⟩ (Y.m z.1.m)) (Po.prim (Po.bd (Po.after z.1.g q) λr Z c₂ I J q x hx=> ?_) (j.go z.1));cases r with|none=>rw [show x= .none from hx];exact ⟨rfl,Po.fin q J _ ⟨_,I.mo.pre _ _ z.2,rfl⟩⟩|_=>exact q.elim
theorem OD {n} (O:j5 F.C ct aB) (B:qq F.dM CB) (hcl:mM F.C CB aB cl) (I:∀fi,kS F.C.K (aB fi)->keepIn F.C.K (.ref (aB fi))=true) (hn:n<F.C.nn)
 (hc:mi e=true) (J:(p.endLine==p2.line)=true) (hp:(backTo p2 (starEach es F.env)).any (·.1)=false) (hlen:es.length<29) (hse:(backTo p2 (starEach es F.env)).all (!·.1)=true)
 (hf:Ok F f (eval e F.env)) (hg:iO F fs (backTo p2 (starEach es F.env))):
 Ok F (λρ=>ac (f ρ) λo=>ac (ie ct o n) λm=>ac (fs ρ) λvs=>match m with| .fn f=>cl f (o::vs)|m=>ik m o vs) (eval (.Call (.Attribute e (F.C.nm n) p) es [] p2) F.env):=λ{A E c st ρ Q} hA K q=>by
 rw [arm_eval_Call,Cm hc];refine b' (hf hA K (q.bd λo st₁ c₁ _ z q x hx=>b' (wpAny_standAt ?_)));have L:methodCallForm (es.length+([]:List Keyword).length) (backTo p2 (starEach es F.env)) (backToKw p2 (keywordEach [] F.env))=true:=by unfold methodCallForm;rw [hse];show (true&&true&&decide (es.length+0+0<30))=true;rw [gs (show es.length+0+0<30 from Nat.lt_succ_of_lt hlen)];rfl
 have hpos:methodCallPos true e F.env p p2=pure p2:=by unfold methodCallPos;simp [J]
 unfold methodCall;rw [L];refine b' (ny (Ko O hn z.R hx (Po.prim (Po.bd q (K:=λc' st _=>aK F c' st ρ) λm Y D g₂ G q fv hm=>b' (wpAny_of_eq hpos ?_)) z)));have hx:=hx.m g₂.mo;have bm:∀m,(∀a b,(match m with| .fn f=>cl f (a::b)|m=>ik m a b:M V)=ik m a b)->Po No (λc' st _=>aK F c' st ρ) D (ac (fs ρ) (λvs=>match m with| .fn f=>cl f (o::vs)|m=>ik m o vs) Y) (λc' v=>∀x,VR F.C c' v x->Q x c'.s)->vi F.C aB o m fv->
  wpAny F.C.M A (evalArgs fv true (backTo p2 (starEach es F.env)) []) (λa s₁=>wpAny F.C.M A (PySem.call fv ([x]++a.pos) a.kw) Q E s₁) E D.s:=λm e q hm=>uF hp (hg hA G (q.bd λvs Z c₃ y j q xs hxs=>OI (F.rm _ hA) j.R (hx.m y.mo) hxs hm (Po.prim (e _ _▸q) j)))
 induction m with|fn fi=>obtain ⟨hfi,rfl⟩:=hm;exact we hp (I fi hfi) (hg hA G (Po.bd (x:=fs ρ) q λvs Z c₃ y j q xs hxs=>⟨j.R.gV,j.call hcl (B.call _ hA) (aU.cons (hx.m y.mo) hxs) q⟩))|append=>rw [show fv=_ from hm] at bm⊢;exact callWith_builtin hp (bm .append (λ_ _=>rfl) q rfl)|pop=>rw [show fv=_ from hm] at bm⊢;exact callWith_builtin hp (bm .pop (λ_ _=>rfl) q rfl)|get=>rw [show fv=_ from hm] at bm⊢;exact callWith_builtin hp (bm .get (λ_ _=>rfl) q rfl)|ck t=>rw [show fv=_ from hm.2] at bm⊢;exact callWith_builtin hp (bm (.ck t) (λ_ _=>rfl) q ⟨hm.1,rfl⟩)
end
variable {acc af:List (V×V)}{k:V}{d:Addr}{X':Addr->Prop}{c₀:Cf}{keys:List (Option Expr)}{values:List Expr}
theorem GC af (v u):(aV af v u).length<=af.length+1:=by
 unfold aV
 split
 ·rw [aC];exact tu _
 ·rw [aL];exact .refl
theorem IB {r} (h:bf acc k=true):fp acc ((k,v)::r)=fp (aV acc k v) r:=ep h
theorem DU {r} (h:¬bf acc k=true):fp acc ((k,v)::r)=fail:=fm h
theorem Me:∀(ps acc),Pu (fp acc ps):=by
 intro j;induction j with|nil=>intro _;exact .r|cons y ps z=>intro acc;exact .i (z _)
section
variable {st:St} {f g k:ag->M V} {fs:ag->M (List V)}
noncomputable def PR (C:Cx) (c:Cf) (p:V×V) (x:Value×Value):Prop:=VR C c p.1 x.1/\VR C c p.2 x.2
theorem PR.m (m:Mo c c') p x (h:PR C c p x):PR C c' p x:=⟨h.1.m m,h.2.m m⟩
theorem Li {tk} (d:cS C c a af) (sb:Heap.SameBut a c.s.heap h'):Mo c ⟨c.μ,{c.s with heap:=h',toks:=tk}⟩:=
 ⟨λ_ _ e=>e,.of λb o e t=>(sb.2 b λq=>(by obtain ⟨_,_,_,j,_,hd⟩:=d.obj;exact oQ hd (aP (((q▸e:c.s.heap.get? a=some o)).symm.trans j)▸t))).trans e⟩
theorem storeAll (r:Rm A):∀(ps acc) vs c Q st,F2 (PR C c) ps vs->cS C c d acc->acc.length+ps.length<=1000->
 (match fp acc ps st with|some p=>∀h' tk,Heap.SameBut d c.s.heap h'->Mo c ⟨c.μ,{c.s with heap:=h',toks:=tk}⟩->cS C ⟨c.μ,{c.s with heap:=h',toks:=tk}⟩ d p.1->Q PUnit.unit {c.s with heap:=h',toks:=tk}|none=>False)->
 wpAny C.M A (forIn vs PUnit.unit λx (_:PUnit)=>(do dictSet d x.1 x.2;pure (ForInStep.yield PUnit.unit):Sem (ForInStep PUnit))) Q E c.s:=by
 intro J;induction J with|nil=>intro acc vs c Q st hp hd hl q;rw [show vs= [] from hp,List.forIn_nil];exact ez (q c.s.heap c.s.toks (Heap.SameBut.refl _ _) .refl hd)|cons j ps L=>
  intro acc vs c Q st hp hd hl q;obtain ⟨x,Y,rfl,a,hp⟩:=hp;by_cases D:bf acc j.1=true
  ·rw [IB D] at q;have hl:acc.length+(ps.length+1)<=1000:=hl;rw [List.forIn_cons];refine b' (b' (xz (rk (Nat.add_le_add_left (show 9<=60 by decide) A.units) r.u) hd D a.1 a.2 (df (df (ro _ _) hl) (aa rfl)) λz y sb dr=>ez ?_));have m:=Li (tk:=y) hd sb;apply L _ _ ⟨c.μ,{c.s with heap:=z,toks:=y}⟩ Q st (hp.mono (PR.m m)) (dr m) (by rw [Nat.add_left_comm,Nat.add_comm] at hl;exact df (Nat.add_le_add_right (GC acc j.1 j.2) _) (by rw [Nat.add_right_comm,Nat.add_assoc,Nat.add_comm _ 1] at*;exact hl));induction e:fp (aV acc j.1 j.2) ps st using Option.casesOn with|none=>rw [e] at q;exact q|some p=>rw [e] at q;exact λh' tk G m' I=>q h' tk (sb.trans G) (m.trans m') I
  ·rw [DU D] at q;exact q.elim
def mN (F:Fx) (f:ag->M (List V)) (ts:List (Sem Value×Sem Value)):Prop:=∀{A E c st ρ Q},F.dM A->aK F c st ρ->
 Po No (λc' st _=>aK F c' st ρ) c (f ρ st) (λc' vs=>∀ps xs,pairUp vs=some ps->F2 (PR F.C c') ps xs->Q xs c'.s)->wpAny F.C.M A (evalPairs ts) Q E c.s
theorem Hi {ts} (hf:Ok F f j6) (hg:Ok F g km) (hs:mN F fs ts):
 mN F (λρ=>ac (f ρ) λv=>ac (ac (g ρ) λv=>ac (fs ρ) λvs=>Mine.ret (v::vs)) λvs=>Mine.ret (v::vs)) ((j6,do let x<-km;standAt p;pure x)::ts):=λJ K q=>
 evalPairs_cons (hf J K (q.bd λa L c₁ _ z q x hx=>b' (hg J z ((Po.as q).bd λb Q c₂ D G q y hy=>b' (wpAny_standAt (ez (hs J G ((Po.as q).bd λvs Y c₃ j I q ps xs e Z=>
  Po.fin q I ((a,b)::ps) ((x,y)::xs) (ej (Option.map ((a,b)::·)) e) (F2.cons ⟨hx.m (D.trans j).mo,hy.m j.mo⟩ Z)))))))))
theorem yM (hk:c.s.heap.get? a=some {cls:= .type "dict",data:= .dict #[]}):cS C c a []:=
 .inl ⟨[],Jg (x:=⟨_,hk,⟨rfl,rfl,rfl⟩,rfl⟩),rfl⟩
theorem Po.jK {X} {K} {z} {J} {D} {f:α->M β} {x} (q:Po X' z c₀ (ac x f st) D)
 (k:∀a j y,Gx X c y->K y j a->Po X' z c₀ (f a j) D->J y a):Po X K c (x st) J:=by
 unfold ac at q;induction e:x st using Option.casesOn with|none=>rw [e] at q;exact q|some p=>rw [e] at q;exact λc' g h=>k _ p.2 c' g h q
theorem DO (J:keys.all (·.isSome)=true) (L:keys.length=values.length) (h0:keys≠ []) (I:keys.length<=15) (hf:mN F fs (pairTrees keys values F.env p)):
 Ok F (λρ=>ac (fs ρ) λvs=>ac (lift (pairUp vs)) λps=>if ps.length<=15 then ac (fp [] ps) λaf=>bN (.dict af) else fail) (eval (.Dict keys values p) F.env):=λ{A E c st ρ Q} hA K q=>by
 have hn:=pairTrees_length keys values F.env p J L;have I:=hn▸I;rw [arm_eval_Dict,zip_pairTrees keys values F.env p J L,dictDisplay_pairs _ (λhe=>by rw [he] at hn;exact h0 (List.length_eq_zero_iff.mp hn.symm)) (rk I (aa rfl))];refine b' (wpAny_standAt (b' ?_));refine b' (wpAny_alloc (b' (ny ?_)));apply oY I;have z:=K.R.sl (tk:=c.s.toks) {cls:= .type "dict",data:= .dict #[]};have na:=K.R.free (eX _);refine b' (hf hA (K.go z) (Po.jK q λvs y j D K₁ q ps xs e hxs=>ny ?_));rw [e] at q;refine Po.ite q λhps q=> ?_;refine b' (storeAll (F.rm _ hA) ps [] xs j _ y hxs (yM (D.keep _ _ (gw c.s.heap _) na id)) (by rw [List.length_nil,Nat.zero_add];exact df hps (aa rfl)) ?_);unfold ac at q;induction e2:fp [] ps y using Option.casesOn with|none=>rw [e2] at q;exact q|some r=>
  rw [e2] at q;intro Y G sb m Z;refine ez (ez (ez ?_));have nb:=K.R.nH (eX c.s.heap);have no:¬Own j c.s.heap.objs.size:=λw=>bX (D.fresh _ w na) (gw c.s.heap _);have w:=K₁.R.adopt (s':={j.s with heap:=Y,toks:=G}) (l:=⟨c.s.heap.objs.size,c.s.heap.objs.size⟩) (o:= .dict r.1) (z.g.trans D) (λ_=>False.elim) ⟨no,no⟩ ⟨nb,nb⟩ ⟨eX _,eX _⟩ m.gZ rfl (λb o h _ e=>(sb.2 b h).trans e)
   ⟨Z.mono (Mo.app (c:=⟨j.μ,{j.s with heap:=Y,toks:=G}⟩) .ay) λ_ e=>e,rfl⟩
  have q:PX F ρ c (some (V.ref r.2.length,r.2++ [.dict r.1])) Q:=q;rw [(Me _ _ _ _ e2)] at q;exact q _ w.1.2 (K.go ⟨w.1.1,w.1.2⟩) _ ⟨_,w.2,rfl⟩
theorem FL:Ok F (λ_=>ac (Mine.ret []) λvs=>ac (lift (pairUp vs)) λps=>if ps.length<=15 then ac (fp [] ps) λaf=>bN (.dict af) else fail) (eval (.Dict [] [] p) F.env):=λ{A E c st ρ Q} j K q=>by rw [eval_Dict_empty];refine b' (wpAny_standAt ?_);refine wpAny_newObj_type ?_ (by unfold sizeOk;first|trivial|decide|simp);have z:=K.R.add (s':={c.s with heap:=c.s.heap.push {cls:= .type "dict",data:= .dict #[]}}) (l:=⟨c.s.heap.objs.size,c.s.heap.objs.size⟩) (o:= .dict []) rfl (eS _ _) ⟨eX _,eX _⟩ ⟨yM (gw _ _),rfl⟩;exact PV.fin (Po.prim q K) z.1 ⟨_,z.2,rfl⟩
end
variable {I:Addr}{src:V}{prog:Program}
noncomputable def C_ (h:Heap) (a:Addr) (es:Array DictEntry):Prop:=∃o,h.get? a=some o/\o.ExactDict/\o.data= .dict es es.size
section
theorem Qe {it} {i} {es} {Q} (D:A.handled=none) (j:s.heap.IsKeyIter it d i es.size es.size) (hm:C_ s.heap d es)
 (J:∀e t,es[i]? =some e->t.IsKeyIter it d (i+1) es.size es.size->Heap.SameBut it s.heap t->Q (some e.key) {s with heap:=t})
 (L:es[i]? =none->∀t,Heap.ExtBut it s.heap t->Q none {s with heap:=t}):wpAny (model prog w) A (pyNext (.ref it)) Q E s:=by
 obtain ⟨o,ho,Y,hd⟩:=id j;obtain ⟨od,y,Z,z⟩:=id hm;refine b' (wpAny_attempt (wpAny_callSpecial?_slot j.typeIs F.slot_dict_keyiterator_next
  (wpAny_call_entry F.slot_dict_keyiterator_next j.typeIs F.entry_dict_keyiterator_next ?_ (F.args_dict_keyiterator_next_1 _))))
 refine b' (ez (b' (b' ?_)))
 first|refine b' (wpAny_typeNameOfWhole_keyiter j.typeIs (ez ?_))|refine b' (wpAny_typeNameOf_keyiter j.typeIs (ez ?_))
 refine b' (wpAny_fieldsOf ho hd ?_);refine mT bB<|b' (ez (b' (wpAny_dictEntries y z ?_)));refine mT (by simp)<|b' (ez (b' (wpAny_dictEpoch y z ?_)));refine mT (by simp)<|ez ?_;have e:(if (i:Int)<0 then none else es[(i:Int).toNat]?)=es[i]? :=fm (Int.not_lt.mpr (Int.natCast_nonneg i));dsimp only;rw [e];induction G:es[i]? using Option.casesOn with
 |some e=>
  apply b'
  first|refine b' (wpAny_typeNameOfWhole_keyiter j.typeIs (ez ?_))|refine b' (wpAny_typeNameOf_keyiter j.typeIs (ez ?_))
  refine b' (wpAny_isOneOf_keyiter j.typeIs ?_);refine b' (wpAny_setField ho hd (Nat.lt_of_succ_le (nk rfl)) ?_);have k:(s.heap.update it (Obj.mapFields (·.setIfInBounds 1 (rawInt (i+1))))).IsKeyIter it d (i+1) es.size es.size:=
   ⟨_,Heap.get?_update_self _ ho (Obj.isFreed_of_fields (Obj.data_mapFields hd _)),(Obj.cls_mapFields ..).trans Y,(Obj.data_mapFields hd _).trans rfl⟩
  refine b' (ny ?_);refine b' (wpAny_isOneOf_keyiter k.typeIs ?_);exact ez (ez ⟨_,rfl,ez (J _ _ G k (xb ..))⟩)
 |none=>
  apply b'
  first|refine b' (wpAny_typeNameOfWhole_keyiter j.typeIs (ez ?_))|refine b' (wpAny_typeNameOf_keyiter j.typeIs (ez ?_))
  refine b' (wpAny_setField ho hd (Nat.lt_of_succ_le (nk rfl)) ?_);apply b';refine b' (wpAny_newObj_type ?_ (by size_fits));refine b' (wpAny_of_eq (by first|rfl|(simp only [firstArgMember];rfl)) ?_);refine wpAny_newObj_type ?_ (by size_fits);refine b' (wpAny_handled ?_)
  first|rw [show A.in1.handled=none from D]|rw [D]
  refine b' (ez (wpAny_throw ?_));refine b' (wpAny_isInstance ⟨_,Heap.get?_push_size _ rfl,rfl⟩ isSubtype_stop ?_);exact ez (L G _ (((xb ..).extBut.push _).push _))
end
section
end
theorem ints_get lo:∀(n i),(intsFrom lo n)[i]? =if i<n then some (V.int (lo+i)) else none:=by
 intro n;induction n generalizing lo with
 |zero=>exact λi=>rfl|succ n j=>
 intro i;induction i with|zero=>rw [ep (Nat.zero_lt_succ n)];exact ej (λz=>some (V.int z)) (Int.add_zero lo).symm|succ i=>
  rw [show (intsFrom lo (n+1))[i+1]? =(intsFrom (lo+1) n)[i]? from rfl,j (lo+1) i,Int.add_assoc,Int.add_comm 1 i];by_cases h:i<n
  ·rw [ep h,ep (Nat.succ_lt_succ h)];rfl
  ·rw [fm h,fm λz=>h (Nat.lt_of_succ_lt_succ z)]
section
variable {st:St}
theorem KV.vr v:∀{x},KV c.s.heap v x->VR C c v x:=
 V.rec (motive_1:=λv=>∀{x},KV c.s.heap v x->VR C c v x) (motive_2:=λl=>∀{x},dG c.s.heap l x->aU C c l x)
  (λ{_} e=>e.elim) (λ_ {_} e=>e.elim) (λ_ {_} e=>e) (λ_ {_} e=>e) (λ_ j {_}=>(by rintro ⟨a,it,e,t,k⟩;exact ⟨a,it,e,t,j k⟩)) (λ_ {_} e=>e.elim) (λ_ _ {_} e=>e.elim) (λ_ {_} e=>e.elim) (λ{_} e=>e.elim)
  id (λ_ _ j y {_}=>(by rintro ⟨b,r,e,x,t⟩;exact ⟨b,r,e,j x,y t⟩)) v
theorem Q9:∀{el} {af} {xs},Pairs (jx C.prog C.w) el xs->F2 (KR (VR C c)) af xs->F2 (λp e=>VR C c p e.key) (af.map (·.1)) el:=by
 intro j k;induction k generalizing j with|nil=>intro _ h e;rw [show _= [] from e] at h;exact List.length_eq_zero_iff.mp h.length|cons p _ y=>
  rintro _ h ⟨q,_,e,x,t⟩;rw [e] at h;cases h with|cons z _ h=>exact F2.cons (show VR C c p.1 _ from x.1▸KV.vr _ (kW _ z).1) (y h t)
theorem N':∀{af} {xs},(∀x∈xs,isKey c.s.heap x.1 x.2.1)->F2 (KR λv b=>VR C c v b.2) af xs->F2 (λp e=>VR C c p e.key) (af.map (·.1)) (xs.map (entryOfKey (gX C.prog C.w))):=by
 intro j;induction j with|nil=>intro _ _ e;rw [show _= [] from e];rfl|cons p _ k=>rintro _ hk ⟨q,r,e,x,t⟩;rw [e] at hk⊢;exact F2.cons (show VR C c p.1 _ from x.1▸KV.vr _ (hk q ai).2) (k (λx y=>hk x (.tail _ y)) t)
theorem cS.raw (d:cS C c a af):∃es,C_ c.s.heap a es/\F2 (λp e=>VR C c p e.key) (af.map (·.1)) es.toList:=by
 rcases d with ⟨xs,⟨o,es,ho,j,hd,_,hp,_⟩,hf⟩|⟨xs,⟨o,es,ho,j,hd,hp,hk,_⟩,hf⟩
 ·exact ⟨es,⟨o,ho,j,by rw [hd,<-hp.length,vu]⟩,Q9 hp hf⟩
 ·exact ⟨es,⟨o,ho,j,by rw [hd,<-vu,hp,aC]⟩,by rw [hp];exact N' hk hf⟩
def It (C:Cx) (c:Cf) (I:Addr) (vs:Bool×List V) (i:Nat):V->Prop
 | .tup ws=>ws=vs.2/\∃a items,c.s.heap.IsTuple a items/\aU C c ws items.toList/\IsTupIter c.s.heap I a i| .ref j=>∃l,c.μ[j]? =some l/\(if vs.1=true then c.s.heap.IsKeyIter I l.a i vs.2.length vs.2.length else c.s.heap.IsListIter I l.a i)| .cW lo k=>vs.2=intsFrom lo (k-lo).toNat/\IsRangeIter c.s.heap I (lo+i) ((k-lo).toNat-i) 1|_=>False
noncomputable def vS:List String:= ["list_iterator","tuple_iterator","range_iterator","dict_keyiterator"]
theorem It.cls {vs} {i} (x:It C c I vs i src):∃o T t,c.s.heap.get? I=some o/\o.cls= .type T/\o.data= .fields t/\T∈vS:=by
 induction src using V.casesOn with
 |tup=>obtain ⟨_,_,_,_,_,o,ho,k,hd⟩:=x;exact ⟨o,_,_,ho,k,hd,bn⟩|cW=>exact ⟨_,_,_,x.2,rfl,rfl,ci⟩|ref j=>
  obtain ⟨l,_,x⟩:=x
  split at x
  ·obtain ⟨o,ho,k,hd⟩:=x;exact ⟨o,_,_,ho,k,hd,eP⟩
  ·obtain ⟨o,ho,k,hd⟩:=x;exact ⟨o,_,_,ho,k,hd,ai⟩
 |_=>exact x.elim
theorem It.there {vs} {i} (x:It C c I vs i src):∃o,c.s.heap.get? I=some o/\¬TR o:=by obtain ⟨o,T,t,ho,k,_,j⟩:=x.cls;refine ⟨o,ho,Cg k ?_ ?_⟩<;>(revert j;generalize T=T;intro j;simp only [vS,List.mem_cons,ba,or_false] at j;rcases j with rfl|rfl|rfl|rfl<;>decide)
theorem It.mono {vs} {i} (m:Mo c c') (e:∀o,c.s.heap.get? I=some o->c'.s.heap.get? I=some o) (x:It C c I vs i src):It C c' I vs i src:=by
 induction src using V.casesOn with
 |tup=>exact ⟨x.1,x.2.imp λ_ x=>x.imp λ_ x=>⟨m.gZ.tup _ _ x.1,x.2.1.m m,(by obtain ⟨o,ho,r⟩:=x.2.2;exact ⟨o,e o ho,r⟩)⟩⟩|cW=>exact ⟨x.1,e _ x.2⟩|ref j=>
  obtain ⟨l,h,x⟩:=x;refine ⟨l,m.pre _ _ h,?_⟩
  split
  ·rename_i b;rw [ep b] at x;obtain ⟨o,ho,r⟩:=x;exact ⟨o,e o ho,r⟩
  ·rename_i b;rw [fm b] at x;obtain ⟨o,ho,r⟩:=x;exact ⟨o,e o ho,r⟩
 |_=>exact x.elim
theorem yy {x} (R:Rep C c st) (G:VR C c src x) (q:Po No (λc' st _=>Rep C c' st) c (itemsOf src st) λc' vs=>c'.μ=c.μ->(∀b o,c.s.heap.get? b=some o->c'.s.heap.get? b=some o)->∀I,c.s.heap.get? I=none->It C c' I vs 0 src->Q (.ref I) c'.s):wpAny C.M A (pyIter x) Q E c.s:=by
 have go:∀(o) (vs),Po No (λc' st _=>Rep C c' st) c (some (vs,st)) (λc' vs=>c'.μ=c.μ->(∀b o,c.s.heap.get? b=some o->c'.s.heap.get? b=some o)->∀I,c.s.heap.get? I=none->It C c' I vs 0 src->Q (.ref I) c'.s)->(∀c',Mo c c'->c'.μ=c.μ->c'.s.heap=c.s.heap.push o->It C c' c.s.heap.objs.size vs 0 src)->Q (.ref c.s.heap.objs.size) {c.s with heap:=c.s.heap.push o}:=λo vs q k=>
  have z:=R.grow (s':={c.s with heap:=c.s.heap.push o}) rfl (eS _ _)
  q _ z.g z.r rfl (eS _ _) _ (eX _) (k _ z.m rfl rfl)
 induction src using V.casesOn with
 |tup vs=>obtain ⟨a,it,rfl,t,k⟩:=G;exact iter_tuple t (go _ _ q λc' m _ e=>⟨rfl,a,it,m.gZ.tup _ _ t,k.m m,_,e▸gw _ _,rfl,rfl⟩)|ref j=>
  obtain ⟨l,y,rfl⟩:=G;refine q.obj R y λo _ r q=> ?_;induction o with|list ws=>obtain ⟨it,r⟩:=r;exact q.ite λh q=>wpAny_pyIter_list r.isList (go _ (false,ws) q λc' m J e=>⟨l,J▸y,(fm bB).mpr ⟨_,e▸gw _ _,rfl,rfl⟩⟩)|dict af=>obtain ⟨es,L,hf⟩:=r.1.raw;exact q.ite λh q=>by obtain ⟨o,ho,hc,D⟩:=L;have Y:c.s.TypeIs (.ref l.a) "dict":=⟨o,ho,hc.1⟩;refine wpAny_pyIter_slot Y F.slot_dict_iter (wpAny_call_entry F.slot_dict_iter Y F.entry_dict_iter ?_ (F.args_dict_iter_1 _));apply b';refine b' (wpAny_notOrdered_dict Y ?_);apply ez;show wpAny _ _ (Builtin.Dict.showsAll l.a>>=_) _ _ c.s;unfold Builtin.Dict.showsAll;rw [fm (by rw [(uN R y)];exact bB)];refine b' (ez (b' (wpAny_dictEntries ho D (b' (wpAny_dictEpoch ho D ?_)))));exact b' (wpAny_newObj_type (ez ⟨_,rfl,"dict_keyiterator",_,⟨_,Heap.get?_push_size _ rfl,rfl⟩,F.slot_dict_keyiterator_next.lookup,(go _ (true,af.map λp:V×V=>p.1) q λc' m J e=>⟨l,J▸y,(ep rfl).mpr ⟨_,e▸gw _ _,rfl,by rw [<-(vu.symm.trans hf.length.symm)];rfl⟩⟩)⟩))|inst=>exact q.elim
 |cW lo y=>
  obtain ⟨a,t,u,v,rfl,L⟩:=G;refine q.ite λhb q=>wpAny_pyIter_range L (small_one (oo 0x5159193eb2327d00073a000e3a30a288492cbf0a0000000000000007f3a2 (by exact sA _) (by exact sA _) hb) (oo 0x514001ce80039d6464fac8c9ba30a288492cbf20000000000000007d0c22 (by exact sA _) (by exact sA _) hb) (oo 0x520e403e80c8803900fa0321ba30a287e531bf0a0000000000000007f3a2 (by exact sA _) (by exact sA _) hb) (oo 0x514064401c807d0191007201ba30a287e531bf20000000000000007d0c22 (by exact sA _) (by exact sA _) hb)) (go _ (false,intsFrom lo (y-lo).toNat) q λc' m _ e=>⟨rfl,?_⟩);have Z:Builtin.Range.rangeSize lo y 1=((y-lo).toNat:Int):=by
   rw [rangeSize_one];by_cases z:lo<y
   ·rw [ep z];exact oo 0xf28b4a2e4a191457f96bef02461a1 (by exact sT _) z
   ·rw [fm z];exact oo 0x20803228c803368aff2ad7de0051a1 (by exact sT _) z
  rw [Int.natCast_zero,Int.add_zero,Int.sub_zero,<-Z,e];exact gw _ _
 |_=>exact q.elim
def BZ (vs:Bool×List V) (st:St):V->Prop
 | .ref j=>(vs.1=false/\st[j]? =some (.list vs.2))\/(vs.1=true/\∃af,st[j]? =some (.dict af)/\af.map (·.1)=vs.2)|_=>True
theorem Po.rj {X} {K} {J} {vs} {f:Unit->M α} {P:Prop} (q:Po X K c (ac (jp src vs) f st) J) (k:BZ vs st src->Po X K c (f () st) J->P):P:=by
 induction src using V.casesOn with
 |ref j=>
  have q:=Po.as (x:=bC j) q;unfold ac at q;induction h:st[j]? using Option.casesOn with|none=>rw [show bC j st=none from by unfold bC;rw [h]] at q;exact q.elim|some o=>
   rw [rd h] at q;induction o with
   |list ws=>
    by_cases b:vs.1=false/\ws=vs.2
    ·exact k (.inl ⟨b.1,b.2▸h⟩) (by dsimp only at q;rw [ep b] at q;exact q)
    ·dsimp only at q;rw [fm b] at q;exact q.elim
   |dict af=>
    by_cases b:vs.1=true/\af.map (·.1)=vs.2
    ·exact k (.inr ⟨b.1,af,h,b.2⟩) (by dsimp only at q;rw [ep b] at q;exact q)
    ·dsimp only at q;rw [fm b] at q;exact q.elim
   |inst=>exact q.elim
 |_=>exact k trivial q
theorem F2.wK {S} {xs:List β}:F2 S vs xs->∀(i:Nat),ia S vs[i]? xs[i]? :=
 F2.ind (P:=λvs xs=>∀(i:Nat),ia S vs[i]? xs[i]?) (λ_=>rfl) λ_ _ b _ r _ j i=>i.casesOn ⟨b,rfl,r⟩ λi=>j i
theorem ia.el {S} {a} {b:Option β} {P:Prop} (h:ia S a b) (j:a=none->b=none->P) (k:∀v x,a=some v->b=some x->S v x->P):P:=by
 induction a with|none=>exact j rfl h|some v=>obtain ⟨x,e,h⟩:=h;exact k v x rfl e h
theorem qT {vs} {i:Nat} {Q} (J:A.handled=none) (R:Rep C c st) (x:It C c I vs i src) (hb:BZ vs st src)
 (L:∀v y z tk,vs.2[i]? =some v->VR C c v y->Heap.SameBut I c.s.heap z->It C ⟨c.μ,{c.s with heap:=z,toks:=tk}⟩ I vs (i+1) src->Q (some y) {c.s with heap:=z,toks:=tk})
 (Y:vs.2[i]? =none->∀z,Heap.ExtBut I c.s.heap z->Q none {c.s with heap:=z}):wpAny C.M A (pyNext (.ref I)) Q E c.s:=by
 have mo:∀z,Heap.SameBut I c.s.heap z->Mo c ⟨c.μ,{c.s with heap:=z,toks:=c.s.toks}⟩:=λz sb=>⟨λ_ _ e=>e,.of λb o e t=>(sb.2 b λq=>(by obtain ⟨_,e',nt⟩:=x.there;exact nt (aP ((q▸e:c.s.heap.get? I=some o).symm.trans e')▸t))).trans e⟩;induction src using V.casesOn with
 |tup ws=>
  obtain ⟨rfl,a,items,ht,hk,D⟩:=id x;exact (F2.wK hk.f2 i).el (λe F=>next_tuple_end J D ht ((D' ..).symm.trans F) (Y e))
   λv y e F G=>next_tuple_item D ht ((D' ..).symm.trans F) λz k sb=>L v y z _ e G sb ⟨rfl,a,items,(mo z sb).gZ.tup _ _ ht,hk.m (mo z sb),k⟩
 |ref j=>
  obtain ⟨l,Z,D⟩:=id x;rcases hb with ⟨b,hb⟩|⟨b,af,hb,hkv⟩
  ·obtain ⟨items,r⟩:=R.objs j l _ Z hb;rw [fm (by rw [b];exact bB)] at D;exact (F2.wK r.vals.f2 i).el (λe F=>wpAny_pyNext_list_end J D r.isList ((D' ..).symm.trans F) (Y e))
    λv y e F G=>wpAny_pyNext_list_item D r.isList ((D' ..).symm.trans F) λz k sb=>L v y z _ e G sb ⟨l,Z,(fm (by rw [b];exact bB)).mpr k⟩
  ·obtain ⟨es,G,hf⟩:=(R.objs j l _ Z hb).1.raw;rw [hkv] at hf;have hl:es.size=vs.2.length:=vu.symm.trans hf.length.symm;rw [ep b,<-hl] at D;have f:=F2.wK hf i;rw [D'] at f;exact Qe J D G (λe z he k sb=>f.el (λ_ F=>nomatch F.symm.trans he) λv y e1 F hv=>L v e.key z _ e1 (aP (F.symm.trans he)▸hv) sb ⟨l,Z,(ep b).mpr (hl▸k)⟩) λhe=>f.el (λe1 _=>Y e1) λv y _ F _=>nomatch F.symm.trans he
 |cW lo hi=>
  have e:=id x;have hg:=ints_get lo (hi-lo).toNat i;rw [<-e.1] at hg;by_cases h:i<(hi-lo).toNat
  ·rw [ep h] at hg;refine wpAny_pyNext_range_item e.2 (oo 0x3cb466815466bd7a00205422 (by exact sT _) h) λz k sb=>L _ _ z _ hg ⟨_,rfl⟩ sb ⟨e.1,?_⟩;show IsRangeIter z I (lo+((i:Int)+1)) (((hi-lo).toNat:Int)-((i:Int)+1)) 1;rw [<-Int.add_assoc,<-Int.sub_sub];exact k
  ·rw [fm h] at hg;exact wpAny_pyNext_range_end J e.2 (oo 0x4114668154656bd782a0023a2 (by exact sT _) h) (Y hg)
 |_=>exact x.elim
end
variable {fl:Flow}{cr:Stmt}{body:List Stmt}{h₀:ExceptHandler}{hs:List ExceptHandler}
def yE (C:Cx) (c:Cf):Fl->Flow->Prop
 | .next,x=>x= .next| .cont,x=>x= .cont| .ret v,x=>∃y,x= .ret y/\VR C c v y
abbrev PT (F:Fx) (c:Cf) (r:Option ((Fl×ag)×St)) (Q:Flow->Shared->Prop):Prop:=Po (Fa F.env) (λc' st p=>aK F c' st p.2) c r λc' p=>∀fl,yE F.C c' p.1 fl->Q fl c'.s
def a_ (F:Fx) (f:ag->M (Fl×ag)) (t:Sem Flow):Prop:=∀{A E c st ρ Q},F.dM A->aK F c st ρ->PT F c (f ρ st) Q->wpAny F.C.M A t Q E c.s
section
variable {st:St} {f g k:ag->M V} {fb fc:ag->M (Fl×ag)}
theorem PT.fin {a} {Q} (q:PT F c (some (a,st)) Q) (K:aK F c st a.2) (h:yE F.C c a.1 fl):Q fl c.s:=q c (Gx.refl λb h=>(K.own b h).1) K fl h
theorem Po.bT {z} {J} {D} {f:α->M β} {x} (q:Po (Fa F.env) z c (ac x f st) D) (K:aK F c st ρ)
 (k:∀a y j,Go c j->aK F j y ρ->Po (Fa F.env) z j (f a y) D->J j a):Po No (λc' st _=>aK F c' st ρ) c (x st) J:=by
 unfold Mine.ac at q;induction e:x st using Option.casesOn with|none=>rw [e] at q;exact q|some p=>rw [e] at q;exact λc' g h=>k _ p.2 c' g h (Po.after (K.gf g) q)
theorem HY:a_ F (λρ=>Mine.ret (.next,ρ)) (exec (.Pass p) F.env):=λ{_ _ _ _ ρ _} _ K q=>wpAny_Pass (PT.fin q K rfl)
theorem Nx:a_ F (λρ=>Mine.ret (.cont,ρ)) (exec (.Continue p) F.env):=λ{_ _ _ _ ρ _} _ K q=>wpAny_Continue (PT.fin q K rfl)
theorem Gr {rest} (hf:a_ F fb (exec cr F.env)) (hg:a_ F fc (execs rest F.env)):
 a_ F (λρ=>ac (fb ρ) λp=>match p.1 with| .next=>fc p.2|_=>Mine.ret p) (execs (cr::rest) F.env):=λ{A E c st ρ Q} I K q=>wpAny_execs_cons (hf I K (q.bd λp z J _ j q fl D=>by
 obtain ⟨f1,G⟩:=p;induction f1 with|next=>rw [show fl=_ from D];exact hg I j q|cont=>rw [show fl=_ from D];exact PT.fin q j rfl|ret v=>obtain ⟨y,rfl,L⟩:=D;exact PT.fin q j ⟨y,rfl,L⟩))
theorem pD {v} {t} {l} (h:fJ v=true):swapsWith v t l env=pure false:=by
 (revert h;generalize v=j;intro h;cases j<;>first|rfl|exact (bB h).elim)
theorem I' (D:fJ e=true) (hf:Ok F f (eval e F.env)):a_ F (λρ=>ac (f ρ) λ_=>Mine.ret (.next,ρ)) (exec (.Expr e p) F.env):=λ{A E c st ρ Q} G K q=>by rw [exec_Expr F.env e p (by unfold interactive;rw [F.N.kind];rfl) (pD D)];exact b' (wpAny_standAt (b' (hf G K (Po.bT q K λa y z _ j q x I=>wpAny_dropValue (PT.fin q j rfl)))))
theorem yF {i} {x} {Q} (K:aK F c st ρ) (j:F.names[i]? =some n) (hv:VR F.C c v x) (q:PT F c (some ((.next,gj ρ i v),st)) Q):wpAny F.C.M A (storeName F.env n x) (λ_ s=>Q .next s) E c.s:=
 rG K j hv λc' g y=>q c' g y _ rfl
theorem Mk {i:Nat} (D:F.names[i]? =some n) (G:fJ e=true) (hf:Ok F f (eval e F.env)):a_ F (λρ=>ac (f ρ) λv=>Mine.ret (.next,gj ρ i v)) (exec (.Assign [.Name n p2] e p) F.env):=
 λI K q=>wpAny_Assign_Name (hf I K (Po.bT q K λa y z _ j q x J=>yF j D J q)) (pD G)
theorem PT.unit {x} {Q:Flow->Shared->Prop} (q:PT F c (ac x (λ_=>Mine.ret (.next,ρ)) st) Q) (K:aK F c st ρ):PU F.C c (x st) λ_ s=>Q .next s:=
 Po.prim (Po.bT q K λ_ y z _ j q=>PT.fin q j rfl) K
theorem Ng {ct} {aB} {n} {o} (O:j5 F.C ct aB) (Z:n<F.C.nn) (hc:fJ e=true) (hg:Ok F g (eval o F.env)) (hf:Ok F f (eval e F.env)):
 a_ F (λρ=>ac (f ρ) λv=>ac (g ρ) λov=>ac (setAttr ct ov n v) λ_=>Mine.ret (.next,ρ)) (exec (.Assign [.Attribute o (F.C.nm n) p2] e p) F.env):=λL K q=>by
 rw [plainObj_exec_Assign_Attribute o (F.C.nm n) p2 e p (pD hc)];refine b' (wpAny_standAt (b' (hf L K (Po.bT q K λa I Q _ j q x hx=> ?_))));refine b' (b' (ny (hg L j (Po.bT q j λb J Y G D q y hy=> ?_))));exact b' (wpAny_standAt (b' (ny (wpAny_mono (Do O Z D.R hy (hx.m G.mo) (PT.unit q D)) (λ_ _ z=>PyProof.Rows.wpAny_release' (ez z)) λ_ _ z=>z))))
theorem Qz {o i:Expr} (hc:fJ e=true) (hf:Ok F f (eval e F.env)) (hg:Ok F g (eval o F.env)) (hk:Ok F k (eval i F.env)):
 a_ F (λρ=>ac (f ρ) λv=>ac (g ρ) λov=>ac (k ρ) λiv=>ac (setIndex ov iv v) λ_=>Mine.ret (.next,ρ)) (exec (.Assign [.Subscript o i p2] e p) F.env):=
 λL K q=>wpAny_Assign_Subscript (hf L K (Po.bT q K λa Q c₁ _ j q x hx=>hg L j (Po.bT q j λb Y c₂ J D q y hy=>hk L D (Po.bT q D λd Z c₃ G I q z hz=>Iw (F.rm _ L) I.R (hy.m G.mo) hz (hx.m (J.trans G).mo) (PT.unit q I))))) (pD hc)
theorem MI (hf:Ok F f (eval e F.env)):a_ F (λρ=>ac (f ρ) λv=>Mine.ret (.ret v,ρ)) (exec (.Return (some e) p) F.env):=
 λ{_ _ _ _ ρ _} D K q=>wpAny_Return_some (hf D K (Po.bT q K λa y z _ j q x G=>PT.fin q j ⟨x,rfl,G⟩))
theorem FW {x} {a b:List Stmt} (G:bU F (cX f) (isTrue x F.env (eval x F.env))) (ha:a_ F fb (execs a F.env)) (hb:a_ F fc (execs b F.env)):a_ F (λρ=>ac (f ρ) λv=>ac (truth v) λt=>if t then fb ρ else fc ρ) (exec (.If x a b p) F.env):=
 λ{A E c st ρ Q} y K q=>wpAny_If (G y K (Po.bT (Po.sa q) K λt z D _ j q=>by
  induction t with|true=>exact ha y j q|false=>exact hb y j q))
theorem J5 (hf:a_ F fb (execs body F.env)):a_ F fb (exec (.Try body (h₀::hs) [] [] p) F.env):=λ{A E c st ρ Q} D K q=>by
 refine wpAny_Try_except (hf D K ?_);induction e:fb ρ st using Option.casesOn with|none=>rw [e] at q;exact q|some r=>
  rw [e] at q;refine λc' g G fl j=> ?_;have z:=q c' g G fl j;obtain ⟨⟨f1,br⟩,s'⟩:=r;induction f1 with|next=>rw [show fl=_ from j] at z⊢;exact wpAny_execs_nil z|cont=>rw [show fl=_ from j] at z⊢;exact z|ret v=>obtain ⟨y,rfl,_⟩:=j;exact z
theorem L9 {i} (Y:F.names[i]? =some n) (hf:Ok F f (eval e F.env)):
 a_ F (λρ=>ac (iW ρ i) λa=>ac (f ρ) λb=>b_ a b λx y=>ac (binop .add (.int x) (.int y)) λv=>Mine.ret (.next,gj ρ i v)) (exec (.AugAssign (.Name n p2) .Add e p) F.env):=λ{A E c st ρ Q} hA K q=>by
 apply wpAny_AugAssign_Name;have q:PT F c (ac (iW ρ i) (λa=>ac (f ρ) λb=>b_ a b λx y=>ac (binop .add (.int x) (.int y)) λv=>Mine.ret (.next,gj ρ i v)) st) Q:=q;unfold ac at q;induction J:iW ρ i st using Option.casesOn with|none=>rw [J] at q;exact q.elim|some r=>rw [J] at q;have Z:=yT J;refine xy K Y Z.1 λx hx=> ?_;have q:PT F c (ac (f ρ) (λb=>b_ r.1 b λx y=>ac (binop .add (.int x) (.int y)) λv=>Mine.ret (.next,gj ρ i v)) r.2) Q:=q;rw [Z.2] at q;exact hf hA K (Po.bT q K λb L D G j q y hy=>Po.b_ (P:=λx y=>wpAny F.C.M A (inplaceOp .Add x y) (λr I=>wpAny F.C.M A (storeName F.env n r) (λ_=>Q .next) E I) E D.s) q (hx.m G.mo) hy λa b t t' q=>AutoIntOps.iadd_0 (by have z:=j.R.tk (tk:=D.s.toks+1);exact yF (v:= .int (a+b)) (j.go z) Y ⟨_,rfl⟩ (Po.after (j.gf z.g) q)))
end
variable {is:List Nat}{target test iter:Expr}{br:ag}{it:Value}{Z:Value->Shared->Prop}{jn:V->ag->Option ag}
section
variable {st:St} {f g k:ag->M V} {fb fc:ag->M (Fl×ag)}
def qz (F:Fx) (jn:V->ag->Option ag) (target:Expr):Prop:=∀{A E c st ρ br v x Q},F.dM A->aK F c st ρ->VR F.C c v x->jn v ρ=some br->
 (∀c',GF F c c'->aK F c' st br->Q () c'.s)->wpAny F.C.M A (assign target F.env x) Q E c.s
theorem Es is:∀(ns:List (Str×Pos)) vs xs c st (ρ br) Q,
 is.map (F.names[·]?)=ns.map (λx=>some x.1)->aK F c st ρ->aU F.C c vs xs->bindAll is vs ρ=some br->(∀c',GF F c c'->aK F c' st br->Q () c'.s)->
 wpAny F.C.M A (assignInOrder ((assignEach (ns.map λ(n,p)=>Expr.Name n p) F.env).map (·.2)) xs) Q E c.s:=by
 induction is with
 |nil=>
  intro ns vs xs c st ρ br Q j K hv e q;induction ns with
  |nil=>
   induction vs with|nil=>rw [show xs= [] from hv];exact ez (q c (Gx.refl λb h=>(K.own b h).1) (aP e▸K))|cons=>trivial
  |cons=>trivial
 |cons i is D=>
  intro ns vs xs c st ρ br Q j K hv e q;induction ns using List.casesOn with|nil=>trivial|cons np ns=>
   induction vs using List.casesOn with|nil=>trivial|cons v vs=>obtain ⟨x,xs,rfl,G,hv⟩:=hv;injection j with J L;exact wpAny_assignInOrder_more (wpAny_assign_Name (rG K J G λc' g Y=>D ns vs xs c' st _ br Q L Y (hv.m g.mo) e λkJ g' z=>q kJ (g.trans g') z))
theorem OG:∀(l:List (Str×Pos)),(assignEach (l.map λ(n,p)=>Expr.Name n p) F.env).findIdx? (·.1)=none/\(assignEach (l.map λ(n,p)=>Expr.Name n p) F.env).length=l.length:=by
 intro z;induction z with|nil=>exact ⟨rfl,rfl⟩|cons j r y=>show ((false,assign (.Name j.1 j.2) F.env)::assignEach (r.map _) F.env).findIdx? _=none/\((false,assign (.Name j.1 j.2) F.env)::assignEach (r.map _) F.env).length=_;refine ⟨?_,ej Nat.succ y.2⟩;rw [List.findIdx?_cons];simp [y.1]
theorem zR:∀is vs (ρ br),bindAll is vs ρ=some br->is.length=vs.length
 | [],[],_,_,_=>rfl| [],_::_,_,_,h=>(by trivial)|_::_,[],_,_,h=>(by trivial)|_::is,_::vs,_,_,h=>ej Nat.succ (zR is vs _ _ h)
theorem Cw {l:List (Str×Pos)} (j:is.map (F.names[·]?)=l.map λx=>some x.1):qz F (dN is true) (.Tuple (l.map λ(n,p)=>Expr.Name n p) kd p):=λ{A E c st ρ br v x Q} y K D e q=>by
 induction v using V.casesOn with
 |tup vs=>
  obtain ⟨a,it,rfl,t,k⟩:=D;have a1:=OG (F:=F) l;have G:is.length=l.length:=by rw [<-aC,j,aC]
  refine assign_Tuple_tuple (F.rm _ y).h t (by rw [a1.2,k.size,<-zR _ _ _ _ e,G]) a1.1 λh' J=> ?_;have z:=K.R.grow (s':={c.s with heap:=h'}) rfl λb o e=>J b o (JE (Heap.lt_size e)) e;exact Es is l vs _ ⟨c.μ,{c.s with heap:=h'}⟩ st ρ br Q j (K.go z) (k.m z.m) e λc' g L=>q c' ((K.gf z.g).trans g) L
 |_=>trivial
theorem JX {l:List (Str×Pos)} (L:is.map (F.names[·]?)=l.map λx=>some x.1) (Y:fJ e=true) (j:vX e=true) (hf:Ok F f (eval e F.env)):
 a_ F (λρ=>ac (f ρ) λv=>ac (lift (dN is true v ρ)) λbr=>Mine.ret (.next,br)) (exec (.Assign [.Tuple (l.map λ(n,p)=>Expr.Name n p) kd p2] e p) F.env):=λ{A E c st ρ Q} G K q=>
 Assign_Tuple (hf G K (Po.bT q K λv z J _ y q x hx=>Po.tP q λD e1 q=>Cw L G y hx e1 λc' g K'=>q c' g K' _ rfl)) (by unfold swapsWithSole;exact pD Y) (by (revert j;generalize e=z9;intro j;cases z9<;>first|rfl|exact (bB j).elim))
structure Wk (F:Fx) (c₀:Cf) (I:Addr):Prop where
 nI:c₀.s.heap.get? I=none
 nB:F.C.base.get? I=none
 nF:¬Fa F.env I
theorem Wk.of (K:aK F c st ρ) (n:c.s.heap.get? I=none):Wk F c I:=⟨n,K.R.nH n,λh=>bX n (K.there h).choose_spec.1⟩
structure On (F:Fx) (c₀:Cf) (I:Addr) src vs (c:Cf) st (ρ:ag) i:Prop where
 g:GF F c₀ c
 K:aK F c st ρ
 it:It F.C c I vs i src
 nO:¬Own c I
section
variable {vs:Bool×List V} {i:Nat}
theorem On.go (x:On F c₀ I src vs c st ρ i) (w:Wk F c₀ I) (g:GF F c c') (K:aK F c' bM br):On F c₀ I src vs c' bM br i:=
 ⟨x.g.trans g,K,x.it.mono g.mo λo e=>g.keep I o e x.nO w.nF,λh=>(by obtain ⟨_,e,_⟩:=x.it.there;exact bX (g.fresh I h x.nO) e)⟩
theorem On.gM {tk} (x:On F c₀ I src vs c st ρ i) (w:Wk F c₀ I) (j:Heap.ExtBut I c.s.heap h'):(aK F ⟨c.μ,{c.s with heap:=h',toks:=tk}⟩ st ρ/\GF F c₀ ⟨c.μ,{c.s with heap:=h',toks:=tk}⟩)/\Mo c ⟨c.μ,{c.s with heap:=h',toks:=tk}⟩:=by have m:Mo c ⟨c.μ,{c.s with heap:=h',toks:=tk}⟩:=⟨λ_ _ e=>e,.of λb o e t=>j b o (λq=>(by obtain ⟨_,D,nt⟩:=x.it.there;exact nt (aP ((q▸e:c.s.heap.get? I=some o).symm.trans D)▸t))) e⟩;exact ⟨⟨(x.K.of (x.K.R.gM m.gZ λb o e q=>j b o (λz=>q.elim (λy=>x.nO (z▸y)) λy=>bX (z▸w.nB) y) e) m (λb o h e=>j b o (λz=>w.nF (z▸h)) e) λb h=>(x.K.own b h).1),x.g.mo.trans m,λb o e n f=>j b o (λz=>bX (z▸w.nI) e) (x.g.keep b o e n f),λb h n=>x.g.fresh b h n,λb h=>(x.K.own b h).1,by rw [x.g.rest]⟩,m⟩
structure LI (F:Fx) (c₀:Cf) (I:Addr) src vs (q:List V->ag->St->Prop) n (s:Shared) (c:Cf) st (ρ:ag) i:Prop where
 on:On F c₀ I src vs c st ρ i
 es:s=c.s
 en:n=vs.2.length+1-i
 q:q (vs.2.drop i) ρ st
theorem drop_cons {l:List V} {i} {r} (e:l.drop i=v::r):l[i]? =some v/\l.drop (i+1)=r/\i<l.length:=by
 have a:l[i]? =some v:=by rw [<-Nat.add_zero i,<-List.getElem?_drop,e];rfl
 exact ⟨a,by rw [<-List.tail_drop,e];rfl,(dB a).1⟩
theorem drop_nil {l:List V} {i} (e:l.drop i= []):l[i]? =none:=by rw [<-Nat.add_zero i,<-List.getElem?_drop,e];rfl
theorem rS {n i l} (e:n=l+1-i) (h:i<l):l+1-(i+1)<n:=by rw [e,Nat.add_sub_add_right,Nat.succ_sub (z' h)];exact KH _
theorem Kl {v} {Q} (x:It F.C c I vs i src) (q:Q () c.s):wpAny F.C.M A (letOwnedTupleGo target (.ref I) v) Q E c.s:=by
 obtain ⟨o,T,G,ho,y,hd,j⟩:=x.cls;have z:(["enumerate","zip","dict_itemiterator","dict_reverseitemiterator","odict_iterator","itertools.zip_longest","itertools.pairwise"].contains T)=false:=by simp only [vS,List.mem_cons,ba,or_false] at j;rcases j with rfl|rfl|rfl|rfl<;>decide
 have body:wpAny F.C.M A (do
  let (.ref r,.ref a):=((Value.ref I),v)|return
  let o<-load r
  match o.cls,o.data with
  | .type n,.fields vs=>
    if ["enumerate","zip","dict_itemiterator","dict_reverseitemiterator","odict_iterator","itertools.zip_longest","itertools.pairwise"].contains n&&vs[0]? ==some (rawInt a) then
     rule "for.unpacks-the-owned-tuple"
     updateField r 0 .none
  |_,_=>pure ()) Q E c.s:=by
  induction v with|ref a=>refine b' (wpAny_load ho ?_);rw [y,hd];show wpAny _ A (if (_&&_)=true then _ else _) Q E c.s;rw [z,Bool.false_and,fm (aa rfl)];exact ez q|_=>exact ez q
 (revert q body;generalize target=D;intro q body;cases D<;>first|exact ez q|exact body)
theorem DH {Q:Flow->Shared->Prop} (I:Nat->Shared->Prop)
 (turn:∀n s,I n s->∀E N (L:Value->Unit->Shared->Prop) B T,(∀s,Q .next s->N none s)->(∀v s,wpAny C.M A (letOwnedTupleGo target it v) (L v) E s->N (some v) s)->
   (∀v s,wpAny C.M A (assign target env v) B E s->L v () s)->(∀s,wpAny C.M A (execs body env) T E s->B () s)->(∀m s,m<n->I m s->T .next s/\T .cont s)->(∀v s,Q (.ret v) s->T (.ret v) s)->wpAny C.M A (pyNext it) N E s)
 n (h:I n s):codeAny C.M A (.forLoop target it body [] env) (λr s'=>match r with| .ok f=>Q f s'| .error e=>Z e s') s:=
 codeAny_forLoop_any I (λn s j=>turn n s j _ _ (λ_ _ s=>_) (λ_ s=>_) _ (λ_ q=>wpAny_execs_nil q) (λ_ _ h=>h) (λ_ _ h=>h) (λ_ h=>h) (λm _ l h=>⟨⟨m,l,h⟩,⟨m,l,h⟩⟩) (λ_ _ q=>q)) n h
theorem H6 {Q:Flow->Shared->Prop} (I:Nat->Shared->Prop)
 (turn:∀n s,I n s->∀E B T,(∀s,Q .next s->B false s)->(∀s,wpAny C.M A (execs body env) T E s->B true s)->(∀m s,m<n->I m s->T .next s/\T .cont s)->(∀v s,Q (.ret v) s->T (.ret v) s)->
   wpAny C.M A (isTrue test env (eval test env)) B E s)
 n (h:I n s):codeAny C.M A (.whileLoop test body [] env) (λr s'=>match r with| .ok f=>Q f s'| .error e=>Z e s') s:=
 codeAny_whileLoop I (λn s j=>turn n s j _ _ _ (λ_ q=>wpAny_execs_nil q) (λ_ h=>h) (λm _ l h=>⟨⟨m,l,h⟩,⟨m,l,h⟩⟩) (λ_ _ q=>q)) n h
end
theorem IN (G:j8 iter=true) (hf:Ok F f (eval iter F.env)) (ha:qz F jn target) (hbody:a_ F fb (execs body F.env)):
 a_ F (λρ=>ac (f ρ) λsrc=>ac (itemsOf src) λvs=>ql src vs jn fb vs.2 ρ) (exec (.For target iter body [] p) F.env):=λ{A E c st ρ Q} hA K q=>by
 refine wpAny_For (hf hA K (Po.bT q K λsrc st₁ J _ j q x hx=> ?_)) (by intro _;(revert G;generalize iter=z9;intro G;cases z9<;>first|rfl|exact (bB G).elim));refine yy j.R hx (Po.prim (Po.jK q λvs st₂ c₂ g₂ K₂ q em kp I nI it=> ?_) j);have w:=Wk.of j nI;have hh:=(F.rm _ hA).h;refine DH (λn s'=>∃c st ρ i,LI F J I src vs (λl ρ st=>PT F J (ql src vs jn fb l ρ st) Q) n s' c st ρ i) ?_ (vs.2.length+1) ⟨c₂,st₂,ρ,0,⟨j.gf g₂,K₂,it,λh=>by unfold Own at h;rw [em] at h;exact j.R.free nI h⟩,rfl,rfl,?_⟩
 ·rintro n _ ⟨D,st₃,ρ₃,i,x,rfl,en,q⟩ E N L B T kN kL kA kB kT kR;induction hd:vs.2.drop i using List.casesOn with|nil=>rw [hd] at q;refine Po.rj q λhb q=>qT hh x.K.R x.it hb (λv y gq tk hv _ _ _=>nomatch (drop_nil hd).symm.trans hv) λ_ gq he=>kN _ ?_;have z:=x.gM (tk:=D.s.toks) w he;exact q _ z.1.2 z.1.1 _ rfl|cons v rest=>
   rw [hd] at q;have hi:=drop_cons hd;refine Po.rj q λhb q=>qT hh x.K.R x.it hb (λv' y gq tk hv hy sb it2=>kL _ _ ?_) λhv=>nomatch hi.1.symm.trans hv;rw [<-aP (hi.1.symm.trans hv)] at hy;have z:=x.gM (tk:=tk) w sb.extBut;have x2:On F J I src vs ⟨D.μ,{D.s with heap:=gq,toks:=tk}⟩ st₃ ρ₃ (i+1):=⟨z.1.2,z.1.1,it2,x.nO⟩;refine Kl (c:=⟨D.μ,_⟩) it2 (kA _ _ (Po.tP (α:=ag) q λρ₁ e1 q=>ha (c:=⟨D.μ,_⟩) hA z.1.1 (hy.m z.2) e1 λc₄ g₄ K₄=>kB _ ?_));refine hbody hA K₄ (Po.jK q λp Y c₅ g₅ K₅ q fl hx=> ?_);have x5:=(x2.go w g₄ K₄).go w g₅ K₅;obtain ⟨f1,ρ₂⟩:=p;induction f1 with|next=>rw [show fl=_ from hx];exact (kT _ _ (rS en hi.2.2) ⟨c₅,Y,ρ₂,i+1,x5,rfl,rfl,hi.2.1▸q⟩).1|cont=>rw [show fl=_ from hx];exact (kT _ _ (rS en hi.2.2) ⟨c₅,Y,ρ₂,i+1,x5,rfl,rfl,hi.2.1▸q⟩).2|ret v=>obtain ⟨y,rfl,hy⟩:=hx;exact kR _ _ (q _ x5.g x5.K _ ⟨y,rfl,hy⟩)
 ·rw [List.drop_zero];exact q
theorem Ft {x:Expr} (hc:bU F (cX f) (isTrue x F.env (eval x F.env))) (hbody:a_ F fb (execs body F.env)):
 a_ F (λρ=>pu (λρ=>ac (f ρ) λv=>truth v) fb hX ρ) (exec (.While x body [] p) F.env):=λ{A E c st ρ Q} hA K q=>by
 refine wpAny_While (H6 (λn s'=>∃D j z,s'=D.s/\aK F D j z/\PT F D (pu (λρ=>ac (f ρ) λv=>truth v) fb n z j) Q) ?_ hX ⟨c,st,ρ,rfl,K,q⟩);rintro n _ ⟨D,j,z,rfl,Y,q⟩ E B T kF kB kT kR;induction n with|zero=>exact q.elim|succ n=>
  refine hc hA Y (Po.bT q Y λb st₂ c₂ g₂ K₂ q=> ?_);induction b with|false=>exact kF _ (PT.fin q K₂ rfl)|true=>
   refine kB _ (hbody hA K₂ (Po.bd q λp G c₅ g₅ J q fl hx=> ?_));obtain ⟨f1,L⟩:=p;induction f1 with|next=>rw [show fl=_ from hx];exact (kT n _ (KH n) ⟨c₅,G,L,rfl,J,q⟩).1|cont=>rw [show fl=_ from hx];exact (kT n _ (KH n) ⟨c₅,G,L,rfl,J,q⟩).2|ret v=>obtain ⟨y,rfl,hy⟩:=hx;exact kR _ _ (PT.fin q J ⟨y,rfl,hy⟩)
end
variable {cells:List (Str×Addr)}{scope:Scope}{Ca:Addr}{aw:List Nat}
noncomputable def cU (cells:List (Str×Addr)):List (Str×NameKind)->List (Str×Addr)->Option (List (Str×Addr))
 | [],j=>some j|(n,k)::r,j=>if (k== .free)=true then (cells.lookup n).bind λa=>cU cells r ((n,a)::j) else cU cells r j
theorem t8 {k} {r} {j} (h:(k== .free)=true):cU cells ((n,k)::r) j=(cells.lookup n).bind λa=>cU cells r ((n,a)::j):=ep h
theorem tQ {k} {r} {j} (h:¬(k== .free)=true):cU cells ((n,k)::r) j=cU cells r j:=fm h
theorem Om f (hf:∀n k j,f (n,k) j=if k== .free then (do let a<-cellOf env n;pure (.yield ((n,a)::j))) else pure (.yield j)):
 ∀l (j cl),cU env.cells l j=some cl->forIn l j f=pure cl:=by
 intro z;induction z with|nil=>intro j cl e;rw [<-aP e];rfl|cons t r y=>
  intro j cl e;rw [List.forIn_cons,hf];by_cases hk:(t.2==NameKind.free)=true
  ·rw [t8 hk] at e;rw [ep hk];obtain ⟨a,ha,e⟩:=Option.bind_eq_some_iff.mp e;rw [show cellOf env t.1=pure a from by unfold cellOf;rw [ha],pure_bind,pure_bind];exact y _ cl e
  ·rw [tQ hk] at e;rw [fm hk,pure_bind];exact y j cl e
theorem uH n:∀l (t cl),cU cells l t=some cl->(cl.lookup n=t.lookup n\/cl.lookup n=cells.lookup n)/\((n,.free)∈l->cl.lookup n=cells.lookup n):=by
 intro D;induction D with|nil=>intro t cl e;exact ⟨.inl (aP e▸rfl),bg⟩|cons y r j=>
  intro t cl e;by_cases hk:(y.2==NameKind.free)=true
  ·rw [t8 hk] at e;obtain ⟨a,ha,e⟩:=Option.bind_eq_some_iff.mp e;have j:=j _ cl e;rw [ru] at j;by_cases q:n=y.1
   ·rw [q,m5,ha] at j;rw [q,ha];have z:cl.lookup y.1=some a:=j.1.elim id id;exact ⟨.inr z,λ_=>z⟩
   ·rw [sv.mpr q] at j;exact ⟨j.1,λh=>(aR h).elim (λe=>dv (ej Prod.fst e) q) j.2⟩
  ·rw [tQ hk] at e;have j:=j _ cl e;exact ⟨j.1,λh=>(aR h).elim (λe=>dv (g7.mpr (ej Prod.snd e).symm) hk) j.2⟩
theorem Hr:∀l j,(∀x∈l,x.2= .free->(cells.lookup x.1).isSome=true)->∃cl,cU cells l j=some cl:=by
 intro D;induction D with|nil=>intro j _;exact ⟨j,rfl⟩|cons t r z=>
  intro j h;by_cases hk:(t.2==NameKind.free)=true
  ·obtain ⟨a,ha⟩:=JT.mp (h (t.1,t.2) ai (g7.mp hk));rw [t8 hk,show cells.lookup t.1=some a from ha];exact z _ λx y=>h x (.tail _ y)
  ·rw [tQ hk];exact z _ λx y=>h x (.tail _ y)
theorem lookup_mem {k}:∀{l:List (Str×α)},l.lookup n=some k->(n,k)∈l:=by
 intro t;induction t with|nil=>intros;trivial|cons j r y=>
  intro h;rw [ru] at h;by_cases q:n=j.1
  ·rw [q,m5] at h;rw [q,<-aP h];exact ai
  ·rw [sv.mpr q] at h;exact .tail _ (y h)
theorem DV {x} (hk:env.scope.kind= .function) (t:env.kindOf x=some .cell):∀{names:List (Str×NameKind)},names.lookup x=some .free->
 (names.map λ(n,k)=>if (k==NameKind.free&&env.scope.kind== .function&&env.kindOf n==some .cell) then (n,NameKind.cell) else (n,k)).lookup x=some .cell:=by
 intro y;induction y with|nil=>intros;trivial|cons j r z=>
  intro h;show List.lookup x ((if (j.2==NameKind.free&&env.scope.kind== .function&&env.kindOf j.1==some .cell)=true then (j.1,NameKind.cell) else (j.1,j.2))::_)=_;rw [ru] at h;by_cases q:x=j.1
  ·rw [q,m5] at h;rw [aP h,<-q,ep (by rw [hk,t];rfl),ru,m5]
  ·rw [sv.mpr q] at h
   split<;>(rw [ru,sv.mpr q];exact (z h))
abbrev FM (F:Fx) (scope:Scope):Prop:=∀x∈scope.names,x.2= .free->(F.env.cells.lookup x.1).isSome=true
abbrev QX (scope:Scope):Prop:=∀x∈scope.names,x.2= .local->scope.names.lookup x.1=some .local
abbrev Fv (F:Fx) (scope:Scope) (cn:List Str):Prop:=∀n∈cn,scope.names.lookup n=some .free/\F.env.kindOf n=some .cell
structure cR (F:Fx) (aw:List Nat) (var:Str) (scope:Scope) (cn:List Str):Prop where
 at':aw.map (F.names[·]?)=cn.map some
 kind:scope.kind= .function
 pK:∀x∈scope.names,x.2≠ .cell
 loc:QX scope
 pt:scope.names.lookup var=some .local
 free:FM F scope
 aw:Fv F scope cn
 nodup:(var::cn).Nodup
 vd:(var==("__debug__":Str))=false
section
variable {st:St} {f g k:ag->M V} {Rr:ag->M Bool} {var:Str} {cn:List Str} {cl:List (Str×Addr)}
theorem cR.sub (j:cU F.env.cells scope.names []=some cl) (h:cl.lookup n=some a):F.env.cells.lookup n=some a:=(uH n _ _ _ j).1.elim (λe=>nomatch e.symm.trans h) λe=>e▸h
theorem cR.kc (K:cR F aw var scope cn) (j:n∈cn):(compEnvC scope cl Ca F.env).kindOf n=some .cell:=DV F.N.kind (K.aw n j).2 (K.aw n j).1
theorem cR.kl (K:cR F aw var scope cn):(compEnvC scope cl Ca F.env).kindOf var=some .local:=lookup_relabel_local K.pt
theorem cR.mem (K:cR F aw var scope cn) (j:n∈cn):n∈F.names:=by have:some n∈aw.map (F.names[·]?):=K.at'▸List.mem_map_of_mem j;obtain ⟨i,_,e⟩:=g5.mp this;exact bh e
theorem cR.totH (K:cR F aw var scope cn) (j:cU F.env.cells scope.names []=some cl) (nf:¬Fa F.env Ca):tH (compEnvC scope cl Ca F.env) (var::cn) where
 kind:=K.kind
 gl:=F.N.gl
 bl:=F.N.bl
 nodup:=K.nodup
 kinds:=λn t=>(aR t).elim (λe=>e▸⟨.inl K.kl,K.vd⟩) λt=>⟨.inr ⟨K.kc t,by
  have h:=(F.N.kinds n (K.mem t)).1;show (cl.lookup n).isSome=true;rw [(uH n _ _ _ j).2 (lookup_mem (K.aw n t).1)];exact h.elim (λe=>nomatch e.symm.trans (K.aw n t).2) And.right⟩,(F.N.kinds n (K.mem t)).2⟩
 inj:=λn y a h z=>F.N.inj n y a (cR.sub j h) (cR.sub j z)
 ne:=λn a h e=>nf (.inr ⟨n,by have e:a=Ca:=e;exact e▸cR.sub j h⟩)
noncomputable def cR.fx (K:cR F aw var scope cn) (j:cU F.env.cells scope.names []=some cl) (nf:¬Fa F.env Ca):Fx:=⟨F.C,F.dM,F.rm,compEnvC scope cl Ca F.env,var::cn,K.totH j nf⟩
noncomputable def rc (ρ:ag) (aw:List Nat) (v:V):ag:=some v::aw.map λi=>ρ[i]?.join
theorem cR.FG (K:cR F aw var scope cn) (t:cU F.env.cells scope.names []=some cl) (nf:¬Fa F.env Ca) {m} {x} (Z:aK F c st ρ) (no:¬Own c Ca) (nb:F.C.base.get? Ca=none) (hm:c.s.heap.Ns Ca m) (hv:m var=some x) (I:VR F.C c v x):
 aK (K.fx t nf) c st (rc ρ aw v) where
 R:=Z.R
 len:=ej Nat.succ ((aC _).trans ((aC _).symm.trans ((ej List.length K.at').trans (aC _))))
 at':=λi n u D z=>by
  induction i with|zero=>rw [<-aP D,<-aP (aP z)];exact ⟨λ_=>⟨m,x,hm,hv,I⟩,λe=>nomatch K.kl.symm.trans e⟩|succ i=>
   have D:cn[i]? =some n:=D;have z:(aw.map λi=>ρ[i]?.join)[i]? =some (some u):=z;have G:=bh D;rw [ko] at z;obtain ⟨j,J,z⟩:=Option.map_eq_some_iff.mp z;have L:F.names[j]? =some n:=by have:=ej (λl=>l[i]?) K.at';rw [ko,ko,J,D] at this;exact aP this
   obtain ⟨a,y,ha,Q,Y⟩:=(Z.at' j n u L (Option.join_eq_some_iff.mp z)).cell (K.aw n G).2;exact ⟨λe=>(nomatch (K.kc G).symm.trans e),λ_=>⟨a,y,((uH n _ _ _ t).2 (lookup_mem (K.aw n G).1)).trans ha,Q,Y⟩⟩
 own:=λb h=>h.elim (λe=>by have e:=e;rw [e];exact ⟨no,nb⟩) (by rintro ⟨n,h⟩;exact Z.own b (.inr ⟨n,cR.sub t h⟩))
 ns:=⟨m,hm⟩
 cell:=λn a h=>Z.cell n a (cR.sub t h)
end
variable {R:Result->Shared->Prop}{elt:Expr}{px:Pos}{D:Addr}{c₁:Cf}{zs:Array Value}
noncomputable def ja (ifs:List Expr) (env:Env):Sem Bool:=forIn ifs true λc r=>if r=true then do let ok<-isTrue c env (eval c env);pure (ForInStep.yield ok) else pure (ForInStep.yield r)
def j3 (ρ:ag) (aw:List Nat) (fc:ag->M Bool) (g:ag->M V) (v:V):M (Option V):=ac (fc (rc ρ aw v)) λok=>if ok then ac (g (rc ρ aw v)) λy=>Mine.ret (some y) else Mine.ret none
def mU (j:List V):M V:=if fits j.length then bN (.list j) else fail
def wP (f:ag->M V) (aw:List Nat) (fc:ag->M Bool) (g:ag->M V):ag->M V:=λρ=>ac (f ρ) λsrc=>ac (itemsOf src) λvs=>ac (jT src vs (j3 ρ aw fc g) vs.2) mU
theorem O3 {ifs} {j} (I:Nat->Shared->Prop)
 (turn:∀n s,I n s->∀E (J:Shared->Prop) N (B:Shared->Prop) T G,(∀m s,m<n->I m s->J s)->
   (∀s,R (.ok .next) s->N none s)->(∀v s,wpAny C.M A (assign target env v) (λ_ s=>B s) E s->N (some v) s)->
   (∀s,wpAny C.M A (ja ifs env) T E s->B s)->
   (∀s,J s->T false s)->(∀s,wpAny C.M A (eval elt env) G E s->T true s)->
   (∀x s,wpAny C.M A (call (.builtin "list.append") [j,x]) (λ_ s=>J s) E s->G x s)->wpAny C.M A (pyNext it) N E s)
 n (h:I n s) (k:∀v,letOwnedTupleGo target it v=pure ()):
 codeAny C.M A (.compLoop (.ListComp elt [⟨target,iter,ifs,0⟩] scope pos) 0 it j env) R s:=
 codeAny_compLoop_tests I (λn s t=>turn n s t _ _ _ _ _ _ (λm _ l h=>⟨m,l,h⟩) (λ_ h=>h) (λ_ _ h=>h) (λ_ h=>h) (λ_ h=>h) (λ_ h=>h) (λ_ _ h=>h)) n h k
section
variable {st:St} {f g:ag->M V} {fc:ag->M Bool} {var:Str} {cn:List Str} {cl:List (Str×Addr)} {vs:Bool×List V} {i:Nat} {done:List V}
abbrev Ic (c₁ c:Cf) (b:Addr):Prop:=∃o,c.s.heap.get? b=some o/\¬TR o
structure Nw (F:Fx) (c₁ c:Cf) (b:Addr):Prop where
 n:c₁.s.heap.get? b=none
 nB:F.C.base.get? b=none
 nF:¬Fa F.env b
 nO:¬Own c b
 nt:Ic c₁ c b
theorem Nw.of (K:aK F c₁ st ρ) {b} (n:c₁.s.heap.get? b=none) (nO:¬Own c b) (nt:∃o,c.s.heap.get? b=some o/\¬TR o):Nw F c₁ c b:=⟨n,K.R.nH n,λh=>bX n (K.there h).choose_spec.1,nO,nt⟩
theorem Nw.go {X} {b} (x:Nw F c₁ c b) (g:Gx X c c') (n:¬X b):Nw F c₁ c' b:=
 (by obtain ⟨o,e,t⟩:=x.nt;exact ⟨x.n,x.nB,x.nF,λh=>bX (g.fresh b h x.nO) e,o,g.keep b o e x.nO n,t⟩)
theorem Nw.gM {X} {b} {tk} (x:Nw F c₁ c b) (K:aK F c st ρ) (g:Gx X c₁ c) (j:Heap.ExtBut b c.s.heap h'):(aK F ⟨c.μ,{c.s with heap:=h',toks:=tk}⟩ st ρ/\Gx X c₁ ⟨c.μ,{c.s with heap:=h',toks:=tk}⟩)/\Mo c ⟨c.μ,{c.s with heap:=h',toks:=tk}⟩:=by
 have m:Mo c ⟨c.μ,{c.s with heap:=h',toks:=tk}⟩:=⟨λ_ _ e=>e,.of λd o e t=>j d o (λq=>(by obtain ⟨_,k,nt⟩:=x.nt;exact nt (aP ((q▸e:c.s.heap.get? b=some o).symm.trans k)▸t))) e⟩;refine ⟨⟨K.of (K.R.gM m.gZ λd o e q=>j d o (λz=>q.elim (λy=>x.nO (z▸y)) λy=>bX (z▸x.nB) y) e) m (λd o h e=>j d o (λz=>x.nF (z▸h)) e) λb h=>(K.own b h).1,
  g.mo.trans m,λd o e n f=>j d o (λz=>bX (z▸x.n) e) (g.keep d o e n f),λb h n=>g.fresh b h n,g.nx,by show _=_;rw [g.rest]⟩,m⟩
theorem BH (x:h.PlainList a zs):∃o,h.get? a=some o/\¬TR o:=(by obtain ⟨_,e⟩:=x;exact ⟨_,e,yB⟩)
theorem xD {m} (x:h.Ns a m):∃o,h.get? a=some o/\¬TR o:=(by obtain ⟨o,_,_,e,hd,_⟩:=x;exact ⟨o,e,oQ hd⟩)
structure CE (F:Fx) (c₁:Cf) (D Ca:Addr) (c:Cf) (st:St) (ρ:ag) (zs:Array Value) (done:List V):Prop where
 g:Go c₁ c
 K:aK F c st ρ
 wD:Nw F c₁ c D
 wC:Nw F c₁ c Ca
 pl:c.s.heap.PlainList D zs
 vr:aU F.C c done zs.toList
 ns:∃m,c.s.heap.Ns Ca m
 ne:D≠Ca
structure CB (F:Fx) (c₁:Cf) (I D Ca:Addr) (src:V) (vs:Bool×List V) (i:Nat) (c:Cf) (st:St) (ρ:ag) (zs:Array Value) (done:List V):Prop where
 e:CE F c₁ D Ca c st ρ zs done
 it:It F.C c I vs i src
 wI:Nw F c₁ c I
 ne:I≠D/\I≠Ca
theorem CE.go (x:CE F c₁ D Ca c st ρ zs done) (z:RG F.C c c' bM):CE F c₁ D Ca c' bM ρ zs done:=
 ⟨x.g.trans z.g,x.K.go z,x.wD.go z.g id,x.wC.go z.g id,x.pl.at λo e=>z.g.keep D o e x.wD.nO id,x.vr.m z.m,x.ns.imp λ_ y=>y.at λo e=>z.g.keep Ca o e x.wC.nO id,x.ne⟩
theorem CB.go (x:CB F c₁ I D Ca src vs i c st ρ zs done) (z:RG F.C c c' bM):CB F c₁ I D Ca src vs i c' bM ρ zs done:=
 ⟨x.e.go z,x.it.mono z.m λo e=>z.g.keep I o e x.wI.nO id,x.wI.go z.g id,x.ne⟩
theorem Nw.to {b} {tk} (x:Nw F c₁ c b) (j:Heap.ExtBut d c.s.heap h') (n:b≠d):Nw F c₁ ⟨c.μ,{c.s with heap:=h',toks:=tk}⟩ b:=⟨x.n,x.nB,x.nF,x.nO,(by obtain ⟨o,e,t⟩:=x.nt;exact ⟨o,j b o n e,t⟩)⟩
theorem Nw.re {b} {tk} (x:Nw F c₁ c b) (nt:∃o,h'.get? b=some o/\¬TR o):Nw F c₁ ⟨c.μ,{c.s with heap:=h',toks:=tk}⟩ b:=⟨x.n,x.nB,x.nF,x.nO,nt⟩
theorem CB.rz {tk} (x:CB F c₁ I D Ca src vs i c st ρ zs done) (sb:Heap.ExtBut I c.s.heap h'):CE F c₁ D Ca ⟨c.μ,{c.s with heap:=h',toks:=tk}⟩ st ρ zs done/\Mo c ⟨c.μ,{c.s with heap:=h',toks:=tk}⟩:=
 have z:=x.wI.gM (tk:=tk) x.e.K x.e.g sb
 ⟨⟨z.1.2,z.1.1,x.e.wD.to sb (Ne.symm x.ne.1),x.e.wC.to sb (Ne.symm x.ne.2),x.e.pl.extBut sb (Ne.symm x.ne.1),x.e.vr.m z.2,x.e.ns.imp λ_ y=>y.extBut sb (Ne.symm x.ne.2),x.e.ne⟩,z.2⟩
theorem CB.next {tk} (x:CB F c₁ I D Ca src vs i c st ρ zs done) (sb:Heap.SameBut I c.s.heap h') (it:It F.C ⟨c.μ,{c.s with heap:=h',toks:=tk}⟩ I vs (i+1) src):CB F c₁ I D Ca src vs (i+1) ⟨c.μ,{c.s with heap:=h',toks:=tk}⟩ st ρ zs done/\Mo c ⟨c.μ,{c.s with heap:=h',toks:=tk}⟩:=
 have z:=x.rz (tk:=tk) sb.extBut
 ⟨⟨z.1,it,x.wI.re it.there,x.ne⟩,z.2⟩
theorem CB.named {tk} {m} (x:CB F c₁ I D Ca src vs i c st ρ zs done) (sb:Heap.SameBut Ca c.s.heap h') (hm:h'.Ns Ca m):CB F c₁ I D Ca src vs i ⟨c.μ,{c.s with heap:=h',toks:=tk}⟩ st ρ zs done/\Mo c ⟨c.μ,{c.s with heap:=h',toks:=tk}⟩:=
 have z:=x.e.wC.gM (tk:=tk) x.e.K x.e.g sb.extBut
 ⟨⟨⟨z.1.2,z.1.1,x.e.wD.to sb.extBut x.e.ne,x.e.wC.re (xD hm),x.e.pl.extBut sb.extBut x.e.ne,x.e.vr.m z.2,⟨m,hm⟩,x.e.ne⟩,x.it.mono z.2 λo e=>sb.extBut _ o x.ne.2 e,x.wI.to sb.extBut x.ne.2,x.ne⟩,z.2⟩
theorem CB.push {y} {w} (x:CB F c₁ I D Ca src vs i c st ρ zs done) (j:VR F.C c y w) (sb:Heap.SameBut D c.s.heap h') (hl:h'.PlainList D (zs.push w)):CB F c₁ I D Ca src vs i ⟨c.μ,{c.s with heap:=h'}⟩ st ρ (zs.push w) (done++ [y]):=
 have z:=x.e.wD.gM (tk:=c.s.toks) x.e.K x.e.g sb.extBut
 ⟨⟨z.1.2,z.1.1,x.e.wD.re (BH hl),x.e.wC.to sb.extBut (Ne.symm x.e.ne),hl,by rw [Array.toList_push];exact (x.e.vr.app (b:= [y]) ⟨w,[],rfl,j,rfl⟩).m z.2,x.e.ns.imp λ_ y=>y.extBut sb.extBut (Ne.symm x.e.ne),x.e.ne⟩,x.it.mono z.2 λo e=>sb.extBut _ o x.ne.1 e,x.wI.to sb.extBut x.ne.1,x.ne⟩
structure Lv (F:Fx) (c c':Cf) (Ca:Addr):Prop where
 w:Nw F c c' Ca
 ns:∃m,c'.s.heap.Ns Ca m
theorem Po.wit {X} {K} {J} {x} {k:α->M β} (q:Po X K c (ac x k st) J):∃a j,Po X K c (k a j) J:=by
 unfold ac at q;induction e:x st using Option.casesOn with|none=>rw [e] at q;exact q.elim|some p=>rw [e] at q;exact ⟨_,_,q⟩
abbrev PC (F:Fx) (ρ:ag) (c₁:Cf) (r:Option (V×St)) (J:V->Cf->Prop):Prop:=Po No (λc' st _=>aK F c' st ρ) c₁ r λc' v=>J v c'
def CI (F:Fx) (c₁:Cf) (I D Ca:Addr) (src:V) (vs:Bool×List V) (ρ:ag) (T:V->M (Option V)) (J:V->Cf->Prop) (n:Nat) (s:Shared):Prop:=
 ∃(c:Cf) (st:St) (i:Nat) (zs:Array Value) (done:List V) (k:List V->M V),s=c.s/\CB F c₁ I D Ca src vs i c st ρ zs done/\n=vs.2.length+1-i/\(∀r,k r=mU (done++r))/\PC F ρ c₁ (ac (jT src vs T (vs.2.drop i)) k st) J
theorem G8 {k} {J} {x} (hk:∀r,k r=mU (done++r)) (q:PC F ρ c₁ (ac x k st) J) (e:zs.size<=done.length):zs.size<=sizeLine:=by obtain ⟨a,j,q⟩:=Po.wit q;rw [hk] at q;exact Po.ite q λh _=>df e<|df (ro _ _) (df (aL▸aa h) (sizeLine_eq▸(aa rfl)))
theorem Jv {ifs} {J} (K:cR F aw var scope cn) (z:cU F.env.cells scope.names []=some cl) (nf:¬Fa F.env Ca)
 (hc:bU (K.fx z nf) fc (ja ifs (compEnvC scope cl Ca F.env))) (hg:Ok (K.fx z nf) g (eval elt (compEnvC scope cl Ca F.env))) (hA:F.dM A)
 (fin:∀c st zs done,CE F c₁ D Ca c st ρ zs done->PC F ρ c₁ (mU done st) J->R (.ok .next) c.s)
 (n) (s) (h:CI F c₁ I D Ca src vs ρ (j3 ρ aw fc g) J n s):
 ∀(E) (J':Shared->Prop) (N) (B:Shared->Prop) (T) (G),(∀m s,m<n->CI F c₁ I D Ca src vs ρ (j3 ρ aw fc g) J m s->J' s)->
  (∀s,R (.ok .next) s->N none s)->(∀v s,wpAny F.C.M A (assign (.Name var px) (compEnvC scope cl Ca F.env) v) (λ_ s=>B s) E s->N (some v) s)->
  (∀s,wpAny F.C.M A (ja ifs (compEnvC scope cl Ca F.env)) T E s->B s)->
  (∀s,J' s->T false s)->(∀s,wpAny F.C.M A (eval elt (compEnvC scope cl Ca F.env)) G E s->T true s)->
  (∀x s,wpAny F.C.M A (call (.builtin "list.append") [.ref D,x]) (λ_ s=>J' s) E s->G x s)->wpAny F.C.M A (pyNext (.ref I)) N E s:=by
 obtain ⟨c,st,i,zs,done,k,rfl,x,en,hk,q⟩:=h;intro E J' N B T G hJ hN hV hB hF hT hG;have hh:=(F.rm _ hA).h;induction hd:vs.2.drop i using List.casesOn with|nil=>rw [hd] at q;refine Po.rj (α:=V) (Po.as (x:=jp src vs) (f:=λ_=>Mine.ret []) q) λhb q=>qT hh x.e.K.R x.it hb (λv y gq tk hv _ _ _=>nomatch (drop_nil hd).symm.trans hv) λ_ gq he=>hN _ (fin _ st zs done (x.rz (tk:=c.s.toks) he).1 ?_);have q:PC F ρ c₁ (k [] st) J:=q;rw [hk,hR] at q;exact q|cons v rest=>
  rw [hd] at q;have hi:=drop_cons hd;refine Po.rj (α:=V) (Po.as (x:=jp src vs) (f:=λ_=>ac (j3 ρ aw fc g v) λo=>ac (jT src vs (j3 ρ aw fc g) rest) λr=>Mine.ret (match o with|some y=>y::r|none=>r)) q) λhb q=>qT hh x.e.K.R x.it hb (λv' y gq tk hv hy sb it2=> ?_) λhv=>nomatch hi.1.symm.trans hv;rw [<-aP (hi.1.symm.trans hv)] at hy;have x2:=x.next (tk:=tk) sb it2
  obtain ⟨m,hm⟩:=x2.1.e.ns;refine hV _ _ (wpAny_assign_Name (wpAny_storeName_local K.kl hm (λh₄ j L=>hB _ ?_) (by show ((relabel scope F.env).kind== .class||_)=false;show (scope.kind== .class||(scope.kind== .module&&_))=false;rw [K.kind];rfl)));have x4:=x2.1.named (tk:=tk+1) L j;have q:=Po.as (x:=j3 ρ aw fc g v) q;have q:=Po.as (x:=fc (rc ρ aw v)) q;refine hc (c:=⟨c.μ,_⟩) hA (K.FG z nf x4.1.e.K x4.1.e.wC.nO x4.1.e.wC.nB j (v:=v) (ep rfl) ((hy.m x2.2).m x4.2)) (Po.jK q λb Q c₅ g₅ t q=> ?_);have x5:=x4.1.go ⟨t.R,g₅⟩;induction b with|false=>exact hF _ (hJ _ _ (rS en hi.2.2) ⟨c₅,Q,i+1,zs,done,k,rfl,x5,rfl,hk,by rw [hi.2.1];exact Po.as (x:=jT src vs (j3 ρ aw fc g) rest) q⟩)|true=>refine hT _ (hg hA t (Po.jK (Po.as (x:=g (rc ρ aw v)) q) λy Y c₆ g₆ K₆ q w hw=>hG _ _ ?_));have x6:=x5.go ⟨K₆.R,g₆⟩;have q:=Po.as (x:=jT src vs (j3 ρ aw fc g) rest) q;have hk':=λr=>(hk (y::r)).trans (ej mU (List.append_cons done y r));exact wpAny_list_append_plain x6.e.pl (λh₇ Z sb₇=>hJ _ _ (rS en hi.2.2) ⟨_,Y,i+1,_,_,λr=>k (y::r),rfl,x6.push hw sb₇ Z,rfl,hk',by rw [hi.2.1];exact q⟩) (G8 hk' q (x6.e.vr.size▸aL▸ro _ _))
end
variable {use:Option (Value->Sem Unit)}
section
variable {st:St} {f g:ag->M V} {fc:ag->M Bool} {var:Str} {cn:List Str} {cl:List (Str×Addr)} {vs:Bool×List V} {i:Nat} {done:List V}
theorem It.self (x:It F.C c I vs i src) (q:Q (.ref I) c.s):wpAny F.C.M A (pyIter (.ref I)) Q E c.s:=by
 induction src using V.casesOn with
 |tup=>exact wpAny_pyIter_tupleiter x.2.choose_spec.choose_spec.2.2 q|ref=>
  obtain ⟨l,_,x⟩:=x
  split at x
  ·exact wpAny_pyIter_keyiter x q
  ·exact wpAny_pyIter_listiter x q
 |cW=>exact wpAny_pyIter_rangeiter x.2 q|_=>exact x.elim
theorem Gx.back {b} (g:Go c c₁) (R:Rep C c₁ st) (n:c₁.s.heap.get? b=none):c.s.heap.get? b=none:=
 none_of λo h=>Classical.byCases (by rintro ⟨i,l,e,hb⟩;exact (by obtain ⟨_,j,_⟩:=R.there ⟨i,l,g.mo.pre _ _ e,hb⟩;exact bX n j)) λx=>bX n (g.keep b o h x id)
theorem ya {ifs}
 (K:cR F aw var scope cn) (hset:j8 iter=true) (hf:Ok F f (eval iter F.env))
 (hc:∀cl Ca (t:cU F.env.cells scope.names []=some cl) (nf:¬Fa F.env Ca),bU (K.fx t nf) fc (ja ifs (compEnvC scope cl Ca F.env)))
 (hg:∀cl Ca (t:cU F.env.cells scope.names []=some cl) (nf:¬Fa F.env Ca),Ok (K.fx t nf) g (eval elt (compEnvC scope cl Ca F.env)))
 (hA:F.dM A) (Z:aK F c st ρ) (q:PC F ρ c (wP f aw fc g ρ st) λv c'=>∀x Ca,VR F.C c' v x->Nw F c c' Ca->(∃m,c'.s.heap.Ns Ca m)->compPost F.C.M A E use Q x Ca (.ok .next) c'.s):
 wpAny F.C.M A (comprehension (.ListComp elt [⟨.Name var px,iter,ifs,0⟩] scope pos) scope F.env p (newList []) false (eval iter F.env) use) Q E c.s:=by
 obtain ⟨cl,t⟩:=Hr scope.names [] K.free;refine wpAny_comprehension_free rfl (by intro _;(revert hset;generalize iter=z9;intro hset;cases z9<;>first|rfl|exact (bB hset).elim)) (by unfold closureFor;dsimp only;rw [Om (env:=F.env) _ (λn k acc=>rfl) scope.names [] cl t];rfl) K.kind K.loc<|hf hA Z (Po.jK q λsrc st₁ c₁ g₁ Y q x hx=>yy Y.R hx (Po.prim (Po.jK q λvs st₂ j g₂ J q em kp I nI it=> ?_) Y));refine wpAny_newList ?_ (hL _);refine wpAny_newFunctionEnv K.pK (λy hy=>(ba hy).elim) (λL hns hsb=> ?_) K.kind;have kp2:∀b o,(j.s.heap.push {cls:= .type "list",data:= .seq #[]}).get? b=some o->L.get? b=some o:=λb o e=>hsb.extBut b o (λq=>bX (eX _) (q▸e)) (eS _ _ _ _ e);have nD:=eX j.s.heap;have hl:=gw j.s.heap {cls:= .type "list",data:= .seq #[]};have nC:j.s.heap.get? (j.s.heap.push {cls:= .type "list",data:= .seq #[]}).objs.size=none:=none_of λo e=>bX (eX _) (eS _ _ _ _ e);have z:=J.R.grow (s':={j.s with heap:=L,toks:=j.s.toks+0}) rfl λb o e=>kp2 b o (eS _ _ _ _ e);obtain ⟨oI,hoI,_⟩:=it.there;have it:=it.mono z.m λo e=>kp2 I o (eS _ _ _ _ e);have ge:=g₁.trans g₂;have G:=ge.trans z.g;have hD:L.PlainList j.s.heap.objs.size #[]:=⟨0,kp2 _ _ hl⟩;have wC:=Nw.of (c:=⟨j.μ,{j.s with heap:=L,toks:=j.s.toks+0}⟩) Z (ge.back J.R nC) (J.R.free nC) (xD hns);have run:=O3 (R:=compPost F.C.M A E use Q (.ref j.s.heap.objs.size) (j.s.heap.push {cls:= .type "list",data:= .seq #[]}).objs.size) (target:= .Name var px) (iter:=iter) (scope:=scope) (pos:=pos) _ (Jv (px:=px) K t wC.nF (hc cl _ t wC.nF) (hg cl _ t wC.nF) hA λc' bM zs done x q=> ?_) (vs.2.length+1)
  ⟨_,st₂,0,#[],[],mU,rfl,⟨⟨G,Z.go ⟨z.r,G⟩,(Nw.of (c:=⟨j.μ,{j.s with heap:=L,toks:=j.s.toks+0}⟩) Z (ge.back J.R nD) (J.R.free nD) (BH hD)),wC,hD,rfl,⟨_,hns⟩,λe=>bX (eX _) (e▸hl)⟩,it,(Nw.of Z (g₁.back Y.R nI) (λh=>Y.R.free nI (by unfold Own at h⊢;rw [<-em];exact h)) it.there),λe=>bX (e▸nD) hoI,λe=>bX (eX _) (e▸eS _ _ _ _ hoI)⟩,rfl,λ_=>rfl,q⟩ (λ_=>rfl)
 ·exact codeAny_compStart_list run (It.self (c:=⟨j.μ,_⟩) it run)
 ·refine Po.ite q λhb q=> ?_;obtain ⟨⟨R,G⟩,hi⟩:=x.K.R.adopt (l:=⟨_,_⟩) (o:= .list done) x.g (λ_=>False.elim) ⟨x.wD.nO,x.wD.nO⟩ ⟨x.wD.nB,x.wD.nB⟩ ⟨x.wD.n,x.wD.n⟩ .ay rfl (λ_ _ _ _ e=>e) ⟨zs,x.pl,x.vr.m (Mo.app .ay),rfl⟩;exact q _ G (Z.go ⟨R,G⟩) _ _ ⟨_,hi,rfl⟩ ⟨x.wC.n,x.wC.nB,x.wC.nF,λh=>(sQ h).elim x.wC.nO λh=>x.ne (h.elim Eq.symm Eq.symm),x.wC.nt⟩ x.ns
theorem Po.imp {X} {K} {J j} {r:Option (α×St)} (q:Po X K c r J) (k:∀a bM c',r=some (a,bM)->Gx X c c'->K c' bM a->(∀c',Gx X c c'->K c' bM a->J c' a)->j c' a):Po X K c r j:=by
 induction r with|none=>exact q|some p=>exact λc' g h=>k p.1 p.2 c' rfl g h q
theorem Pb {ifs:List Expr} (K:cR F aw var scope cn) (k:j8 iter=true) (hf:Ok F f (eval iter F.env))
 (t:∀cl Ca (j:cU F.env.cells scope.names []=some cl) (nf:¬Fa F.env Ca),bU (K.fx j nf) fc (ja ifs (compEnvC scope cl Ca F.env)))
 (hg:∀cl Ca (j:cU F.env.cells scope.names []=some cl) (nf:¬Fa F.env Ca),Ok (K.fx j nf) g (eval elt (compEnvC scope cl Ca F.env))):
 Ok F (wP f aw fc g) (eval (.ListComp elt [⟨.Name var px,iter,ifs,0⟩] scope pos) F.env):=λ{A E c st ρ Q} y Z q=>by
 refine ya K k hf t hg y Z (Po.imp q λv bM c' _ g G q x Ca J w ⟨m,hm⟩=>⟨m,hm,λgq sb=> ?_⟩);have z:=w.gM (tk:=c'.s.toks) G g sb.extBut;exact q _ z.1.2 z.1.1 _ (J.m z.2)
theorem Ez {i} {ifs:List Expr} (hn:F.names[i]? =some n) (hk:F.env.kindOf n=some .local) (t:(p2.line==pos.line)=true) (Y:(scope.names.any λ(m,k)=>m==n&&(k== .local||k== .cell))=false)
 (K:cR F aw var scope cn) (G:j8 iter=true) (hf:Ok F f (eval iter F.env))
 (hc:∀cl Ca (y:cU F.env.cells scope.names []=some cl) (nf:¬Fa F.env Ca),bU (K.fx y nf) fc (ja ifs (compEnvC scope cl Ca F.env)))
 (hg:∀cl Ca (y:cU F.env.cells scope.names []=some cl) (nf:¬Fa F.env Ca),Ok (K.fx y nf) g (eval elt (compEnvC scope cl Ca F.env))):
 a_ F (λρ=>ac (wP f aw fc g ρ) λv=>Mine.ret (.next,gj ρ i v)) (exec (.Assign [.Name n p2] (.ListComp elt [⟨.Name var px,iter,ifs,0⟩] scope pos) p) F.env):=λ{A E c st ρ Q} hA Z q=>by
 have hsw:swapsWith (.ListComp elt [⟨.Name var px,iter,ifs,0⟩] scope pos) (some (.Name n p2)) p.line F.env=pure true:=by
  show (pure (F.env.blockKind== .function&&F.env.kindOf n==some .local&&p2.line==pos.line&& !(scope.names.any λ(m,k)=>m==n&&(k== .local||k== .cell))):Sem Bool)=_;have hbk:F.env.blockKind= .function:=by unfold Env.blockKind;rw [F.N.kind];rfl
  rw [hbk,hk,t,Y];rfl
 rw [exec_Assign_Name_used _ _ _ _ hsw];refine b' (wpAny_standAt (b' ?_));refine b' (ya K G hf hc hg hA Z (Po.jK q λv bM c' g Z' q x Ca hx w ⟨m,hm⟩=> ?_));refine wpAny_assign_Name (rG Z' hn hx λJ j L=> ?_);refine ⟨m,hm.at λo e=>j.keep _ o e w.nO w.nF,λgq sb=> ?_⟩;have z:=(w.go j w.nF).gM (tk:=J.s.toks) L ((Z.gf g).trans j) sb.extBut
 first
  |exact ez (q _ z.1.2 z.1.1 _ rfl)
  |exact ez (ez (q _ z.1.2 z.1.1 _ rfl))
end
variable {vals:List Value}{ps:List Str}
theorem PG:∀{ps:List Str} {vals:List Value},ps.length=vals.length->n∈ps->((ps.zip vals).lookup n).isNone=false:=by
 intro ps;induction ps with|nil=>exact λ_=>bg|cons p ps j=>
  intro vals;induction vals with
  |nil=>exact λe=>by trivial|cons v vals=>
  intro e h;rw [JA,ru];by_cases q:n=p
  ·rw [q,m5];rfl
  ·rw [sv.mpr q];exact j (Nat.succ.inj e) ((aR h).resolve_left q)
theorem HQ:∀{ps:List Str} {vals} (L:List (Str×Value)),ps.length=vals.length->ps.Nodup->(∀n∈ps,L.lookup n=(ps.zip vals).lookup n)->(ps.filterMap λn=>(L.lookup n).map λx=>(n,x))=ps.zip vals:=by
 intro ps;induction ps with|nil=>exact λ_ _ _ _=>rfl|cons p ps t=>
  intro vals;induction vals with
  |nil=>exact λ_ e=>by trivial|cons v vals=>
  intro L e nd h;have j:=h p ai;rw [JA,ru,m5] at j;rw [List.filterMap_cons,j,JA];have nd:=bw nd;refine ej _ (t L (Nat.succ.inj e) nd.2 λn k=> ?_);rw [h n (.tail _ k),JA,ru,sv.mpr (show n≠p from λq=>nd.1 (q▸k))]
theorem Kx {fd:FuncData} (k:fd.params.posonlyargs= []) (t:fd.params.kwonlyargs= []) (y:fd.params.vararg=none) (z:fd.params.kwarg=none) (A:fd.defaults= .none) (hp:fd.params.args.map (·.arg)=ps)
 (hl:ps.length=vals.length) (D:ps.Nodup):bindArgs fd ⟨vals,[]⟩=pure (ps.zip vals):=by
 obtain ⟨nm,F,⟨po,ar,va,j,kd,kw,G⟩,body,scope,globals,closure,defaults,kwdefaults,doc,pyModule,annotations,code,closureTuple,builtins⟩:=fd;rw [show po= [] from k,show j= [] from t,show va=none from y,show kw=none from z,show defaults= .none from A];subst hp;have hm:(((ar.map (·.arg)).take ((ar.map (·.arg)).length-0)).filter λn=>(((ar.map (·.arg)).zip vals).lookup n).isNone)= []:=List.filter_eq_nil_iff.mpr λn h=>ne_true_of_eq_false (PG hl (List.mem_of_mem_take h));refine (fm ?_).trans ?_
 ·exact λh=>dv (aa ((hQ _ _).mp h).1) (by show¬(vals.length>(ar.map (·.arg)).length);rw [hl];exact JB _)
 generalize hd:List.drop ((none.getD #[]).toList.length-(List.map (λx:Arg=>x.arg) []++(ar.map (·.arg))).length) (none.getD #[]).toList=E;rw [show E= [] from hd.symm.trans List.drop_nil];refine (fm ?_).trans ?_
 ·exact ne_true_of_eq_false (ej (λl=> !List.isEmpty l) hm)
 rw [List.zip_nil_right];show (pure (List.filterMap (λn=>(((ar.map (·.arg)).zip vals).lookup n).map λx=>(n,x)) (ar.map (·.arg)++ [])):Sem (List (Str×Value)))=_;rw [hR,HQ ((ar.map (·.arg)).zip vals) hl D λ_ _=>rfl]
variable {c₂:Cf}{kO:Str->Option NameKind}{names:List Str}
noncomputable def Bu (d:Nat) (A:Around):Prop:=A.handled=none/\A.depth+2*d+3<=999/\A.units+20*d+110<cLine
noncomputable def sV (d:Nat) (A:Around):Prop:=A.handled=none/\A.depth+2*d+2<=999/\A.units+20*d+100<cLine
theorem um {d}:∀A,Bu d A->Rm A:=λA h=>⟨h.1,by have:=h.2.2;exact oo 0x32a04636116a6aa002db59083 this⟩
section
variable {p:Str} {x:Value}
theorem Q6:∀{ps:List Str} {vals} {m},p∉ps->bindL kO (ps.zip vals) m p=m p:=by
 intro ps;induction ps with|nil=>exact λ_=>rfl|cons q ps j=>
  intro vals;induction vals with
  |nil=>exact λ_=>rfl|cons v vals=>
  intro m h;rw [JA];unfold bindL;rw [j λz=>h (.tail _ z)]
  split
  ·exact fm (show p≠q from λz=>h (z▸ai))
  ·rfl
theorem H8:∀{ps:List Str} {vals} {m},p∉ps->bindC kO (ps.zip vals) m p=m p:=by
 intro ps;induction ps with|nil=>exact λ_=>rfl|cons q ps j=>
  intro vals;induction vals with
  |nil=>exact λ_=>rfl|cons v vals=>
  intro m h;rw [JA];unfold bindC;rw [j λz=>h (.tail _ z)]
  split
  ·rfl
  ·exact fm (show p≠q from λz=>h (z▸ai))
theorem Kf (hk:kO n=some .local):∀{ps:List Str} {vals} {m} {i:Nat},ps.Nodup->ps[i]? =some n->vals[i]? =some x->bindL kO (ps.zip vals) m n=some x:=by
 intro ps;induction ps with|nil=>intro vals m i _ h;trivial|cons p ps t=>
  intro vals m i;cases vals with
  |nil=>intro _ _ h;trivial|cons v vals=>
  cases i with
  |zero=>
  intro nd j k;have e:=aP j;rw [e] at nd;rw [JA,e,show v=x from aP k];unfold bindL;rw [ep hk,Q6 (bw nd).1];exact ep rfl
  |succ i=>
  intro nd j k;exact t (bw nd).2 j k
theorem Dk (hk:kO n=some .cell):∀{ps:List Str} {vals} {m} {i:Nat},ps.Nodup->ps[i]? =some n->vals[i]? =some x->bindC kO (ps.zip vals) m n=some x:=by
 intro ps;induction ps with|nil=>intro vals m i _ h;trivial|cons p ps t=>
  intro vals m i;cases vals with
  |nil=>intro _ _ h;trivial|cons v vals=>
  cases i with
  |zero=>
  intro nd j k;have e:=aP j;rw [e] at nd;rw [JA,e,show v=x from aP k];unfold bindC;rw [fm (by rw [hk];exact nofun),H8 (bw nd).1];exact ep rfl
  |succ i=>
  intro nd j k;exact t (bw nd).2 j k
theorem CR:∀l k j,(l.lookup n=some .cell\/(j.lookup n).isSome=true)->((cellsFrom k l j).lookup n).isSome=true:=by
 intro z;induction z with|nil=>intro _ _ h;exact h.elim (λh=>(by trivial)) id|cons y r t=>
  intro k j h;unfold cellsFrom;rw [ru] at h;by_cases q:n=y.1
  ·rw [<-q,m5] at h
   split
   ·exact t _ _ (.inr (by rw [<-q,ru,m5];rfl))
   ·rename_i hk
    exact t _ _ (h.elim (λe=>dv (by rw [aP e];rfl) hk) .inr)
  ·rw [sv.mpr q] at h
   split
   ·exact t _ _ (h.imp id λh=>by rw [ru,sv.mpr q];exact h)
   ·exact t _ _ h
end
theorem IE {n} {i:Nat} (h:(io n vs)[i]? =some (some v)):vs[i]? =some v:=by
 unfold io at h;rcases Nat.lt_or_ge i vs.length with j|j
 ·rw [mc (by rw [aC];exact j),ko] at h;obtain ⟨u,k,e⟩:=Option.map_eq_some_iff.mp h;rw [k,aP e]
 ·rw [JO (by rw [aC];exact j)] at h;exact nomatch (List.mem_replicate.mp (bh h)).2
abbrev HE (names:List Str) (fd:FuncData):Prop:=∀n∈names,(fd.scope.names.lookup n=some .local\/fd.scope.names.lookup n=some .cell)/\(n==("__debug__":Str))=false
abbrev P5 (C:Cx) (a:Addr) (fd:FuncData):Prop:=∃o,C.base.get? a=some o/\o.data= .func fd
structure ry (C:Cx) (a:Addr) (F:FD) (names:List Str) (fd:FuncData) body:Prop where
 obj:P5 C a fd
 GQ:fd.body= .stmts body
 kM:fd.closure= []
 code:C.base.CodeRec fd.code fd.qualname
 p1:fd.params.posonlyargs= []
 p2:fd.params.kwonlyargs= []
 p3:fd.params.vararg=none
 p4:fd.params.kwarg=none
 p5:fd.defaults= .none
 ps:fd.params.args.map (·.arg)=names.take F.np
 np:F.np<=names.length
 len:names.length=F.slots
 kind:fd.scope.kind= .function
 co:fd.scope.isCoroutine=false
 gen:fd.scope.isGenerator=false
 gl:fd.globals=mainGlobals
 bl:fd.builtins=builtinsNs
 nodup:names.Nodup
 kinds:HE names fd
theorem Gx.hide {X} (z:Go c c₁) (g:Gx X c₁ c₂) (nx:∀b,X b->c.s.heap.get? b=none):Go c c₂ where
 mo:=z.mo.trans g.mo
 keep:=λb o e n _=>g.keep b o (z.keep b o e n id) (λh=>bX (z.fresh b h n) e) λx=>bX (nx b x) e
 fresh:=λb h n=>Classical.byCases (λx=>z.fresh b x n) λx=>none_of λo e=>bX (g.fresh b h x) (z.keep b o e n id)
 nx:=λ_=>False.elim
 rest:=by rw [g.rest,z.rest]
def My (p:Fl×ag):M V:=match p.1 with| .ret v=>Mine.ret v|_=>Mine.ret .none
section
variable {F:FD} {fd:FuncData}
theorem ry.loc (K:ry C a F names fd body) k (j:n∈names):fd.scope.names.lookup n=some .local\/(fd.scope.names.lookup n=some .cell/\((cellsFrom k fd.scope.names []).lookup n).isSome=true):=
 (K.kinds n j).1.imp id λh=>⟨h,CR _ _ _ (.inl h)⟩
theorem QN {d} (K:ry C a F names fd body) {fb} (G:∀L (N),a_ ⟨C,Bu d,um,callEnvC fd L a,names,N⟩ fb (execs body (callEnvC fd L a)))
 {st} (hA:sV (d+1) A) (Q:Rep C c st) (Y:aU C c vs xs) (j:vs.length=F.np)
 (q:PV C c (ac (fb (io F.slots vs)) My st) λx s'=>R (.ok (.ret x)) s'):codeAny C.M A (.call (.ref a) ⟨xs,[]⟩) R c.s:=by
 obtain ⟨o,ho,I⟩:=K.obj;obtain ⟨hA1,Z,hA3⟩:=hA;have nd:(names.take F.np).Nodup:=K.nodup.sublist (List.take_sublist _ _);refine codeAny_call_cells (by show A.depth<1000;exact oo 0x301f3f9120642628154082 Z) (Q.base _ _ ho) I (C.Pz.keeps Q.base) ?_ K.GQ (Kx K.p1 K.p2 K.p3 K.p4 K.p5 K.ps (((List.length_take ..).trans (Nat.min_eq_left K.np)).trans (j.symm.trans Y.length)) nd) K.kM (λy D=>K.loc _ (List.mem_of_mem_take (List.of_mem_zip D).1)) (λk x=> ?_) K.co K.gen K.kind
 ·obtain ⟨c,oc,vs',tq,hc,hoc,hdc,hq⟩:=K.code;exact ⟨c,oc,vs',tq,hc,Q.base _ _ hoc,hdc,hq⟩
 ·obtain ⟨h₁,tk₁,J⟩:=x.toInCall.same;have N:tH (callEnvC fd c.s.heap.objs.size a) names:=⟨K.kind,K.gl,K.bl,K.nodup,λn hn=>⟨K.loc _ hn,(K.kinds n hn).2⟩,λn n' b h1 h2=>name_of_addr x.apart (mem_of_lookup h1) (mem_of_lookup h2),λn b h=>JJ (x.above n b (mem_of_lookup h))⟩;have z:=Q.grow (by rw [J];rfl) x.toInCall.keep;have nF:∀b,Fa (callEnvC fd c.s.heap.objs.size a) b->c.s.heap.get? b=none:=λb hb=>none_of λo e=>JB _ (i1 (Heap.lt_size e) (hb.elim (λh=>h▸g6 _) (by rintro ⟨n,h⟩;exact z' (x.above n b (mem_of_lookup h)))));have E:∀(i:Nat) (n) (u),names[i]? =some n->(io F.slots vs)[i]? =some (some u)->(names.take F.np)[i]? =some n/\∃y,xs[i]? =some y/\VR C ⟨c.μ,k⟩ u y:=λi n u e1 e2=>by have hv:=IE e2;obtain ⟨y,D,hr⟩:=Y.f2.getL i u hv;exact ⟨by rw [List.getElem?_take_of_lt (j▸(dB hv).1)];exact e1,y,D,hr.m z.m⟩
  have K₁:aK ⟨C,Bu d,um,callEnvC fd c.s.heap.objs.size a,names,N⟩ ⟨c.μ,k⟩ st (io F.slots vs):={
   R:=z.r
   len:=by unfold io;rw [aL,aC,KB,K.len,j];exact Nat.add_sub_cancel' (K.len▸K.np)
   at':=λi n u e1 e2=>⟨λe3=>(by obtain ⟨h1,y,D,hr⟩:=E i n u e1 e2;exact ⟨_,y,x.toInCall.ns,Kf e3 nd h1 D,hr⟩),λe3=>by obtain ⟨h1,y,D,hr⟩:=E i n u e1 e2;exact (JT.mp (CR (n:=n) fd.scope.names (c.s.heap.objs.size+1) [] (.inl e3))).imp λb hb=>⟨y,hb,Dk e3 nd h1 D▸x.cell n b hb,hr⟩⟩
   own:=λb hb=>⟨Q.free (nF b hb),Q.nH (nF b hb)⟩
   ns:=⟨_,x.toInCall.ns⟩
   cell:=λn b h=>⟨_,x.cell n b h⟩}
  refine G _ N (c:=⟨c.μ,k⟩) ⟨hA1,by show A.depth+1+2*d+3<=999;exact oo 0x301f3f9120642628003e7f256098115002 Z,by show A.units+3+20*d+110<cLine;exact oo 0x152381a447e82001f344985f95083 hA3⟩ K₁ (Po.jK q λp st₂ c₂ g₂ t q fl hx=> ?_);have g:=Gx.hide z.g g₂ nF;obtain ⟨f1,ρ₂⟩:=p;induction f1 with|next=>rw [show fl=_ from hx];exact q _ g t.R _ rfl|cont=>rw [show fl=_ from hx];exact q _ g t.R _ rfl|ret v=>obtain ⟨y,rfl,D⟩:=hx;exact q _ g t.R _ D
end
end Mine
namespace Mine
open PySem Calls SeqAt PyProof.Rows W
theorem cN {c} [Decidable c] {f:c->Bool} (h:(if h:c then f h else false)=true):∃a,f a=true:=by
 by_cases a:c
 ·rw [dif_pos a] at h;exact ⟨a,h⟩
 ·rw [dif_neg a] at h;exact (bB h).elim
section
variable {e:Expr} {P:Expr->Prop}
noncomputable def isConst (e:Expr) (f:Const->Nat->Pos->Bool):Bool:=if h:e.ctorIdx=19 then Expr.Constant.elim e h f else false
theorem tC {F} (H:isConst e F=true) (K:∀c k p,F c k p=true->P (.Constant c k p)):P e:=(by obtain ⟨A,H⟩:=cN H;exact Expr.Constant.elim e A (λc k p _ H=>K c k p H) A H)
noncomputable def isName (e:Expr) (f:Str->Pos->Bool):Bool:=if h:e.ctorIdx=23 then Expr.Name.elim e h f else false
theorem iL {F} (H:isName e F=true) (K:∀n p,F n p=true->P (.Name n p)):P e:=(by obtain ⟨A,H⟩:=cN H;exact Expr.Name.elim e A (λn p _ H=>K n p H) A H)
noncomputable def my (e:Expr) (f:List Expr->Nat->Pos->Bool):Bool:=if h:e.ctorIdx=25 then Expr.Tuple.elim e h f else false
theorem uX {F} (H:my e F=true) (K:∀l k p,F l k p=true->P (.Tuple l k p)):P e:=(by obtain ⟨A,H⟩:=cN H;exact Expr.Tuple.elim e A (λl k p _ H=>K l k p H) A H)
noncomputable def isList (e:Expr) (f:List Expr->Pos->Bool):Bool:=if h:e.ctorIdx=24 then Expr.List.elim e h f else false
theorem yY {F} (H:isList e F=true) (K:∀l p,F l p=true->P (.List l p)):P e:=(by obtain ⟨A,H⟩:=cN H;exact Expr.List.elim e A (λl p _ H=>K l p H) A H)
noncomputable def AA (e:Expr) (f:List (Option Expr)->List Expr->Pos->Bool):Bool:=if h:e.ctorIdx=6 then Expr.Dict.elim e h f else false
theorem ID {F} (H:AA e F=true) (K:∀k v p,F k v p=true->P (.Dict k v p)):P e:=(by obtain ⟨A,H⟩:=cN H;exact Expr.Dict.elim e A (λk v p _ H=>K k v p H) A H)
noncomputable def qe (e:Expr) (f:UnaryOp->Expr->Pos->Bool):Bool:=if h:e.ctorIdx=3 then Expr.UnaryOp.elim e h f else false
theorem tX {F} (H:qe e F=true) (K:∀o x p,F o x p=true->P (.UnaryOp o x p)):P e:=(by obtain ⟨A,H⟩:=cN H;exact Expr.UnaryOp.elim e A (λo x p _ H=>K o x p H) A H)
noncomputable def isBool (e:Expr) (f:BoolOp->List Expr->Pos->Bool):Bool:=if h:e.ctorIdx=0 then Expr.BoolOp.elim e h f else false
theorem Av {F} (H:isBool e F=true) (K:∀o l p,F o l p=true->P (.BoolOp o l p)):P e:=(by obtain ⟨A,H⟩:=cN H;exact Expr.BoolOp.elim e A (λo l p _ H=>K o l p H) A H)
noncomputable def isIf (e:Expr) (f:Expr->Expr->Expr->Pos->Bool):Bool:=if h:e.ctorIdx=5 then Expr.IfExp.elim e h f else false
theorem Dl {F} (H:isIf e F=true) (K:∀t x y p,F t x y p=true->P (.IfExp t x y p)):P e:=(by obtain ⟨A,H⟩:=cN H;exact Expr.IfExp.elim e A (λt x y p _ H=>K t x y p H) A H)
noncomputable def vC (e:Expr) (f:Expr->Operator->Expr->Pos->Bool):Bool:=if h:e.ctorIdx=2 then Expr.BinOp.elim e h f else false
theorem CQ {F} (H:vC e F=true) (K:∀l o r p,F l o r p=true->P (.BinOp l o r p)):P e:=(by obtain ⟨A,H⟩:=cN H;exact Expr.BinOp.elim e A (λl o r p _ H=>K l o r p H) A H)
noncomputable def rX (e:Expr) (f:Expr->List CmpOp->List Expr->Pos->Bool):Bool:=if h:e.ctorIdx=15 then Expr.Compare.elim e h f else false
theorem ww {F} (H:rX e F=true) (K:∀l o r p,F l o r p=true->P (.Compare l o r p)):P e:=(by obtain ⟨A,H⟩:=cN H;exact Expr.Compare.elim e A (λl o r p _ H=>K l o r p H) A H)
noncomputable def mY (e:Expr) (f:Expr->Str->Pos->Bool):Bool:=if h:e.ctorIdx=20 then Expr.Attribute.elim e h f else false
theorem tJ {F} (H:mY e F=true) (K:∀x m p,F x m p=true->P (.Attribute x m p)):P e:=(by obtain ⟨A,H⟩:=cN H;exact Expr.Attribute.elim e A (λx m p _ H=>K x m p H) A H)
noncomputable def lY (e:Expr) (f:Expr->Expr->Pos->Bool):Bool:=if h:e.ctorIdx=21 then Expr.Subscript.elim e h f else false
theorem qt {F} (H:lY e F=true) (K:∀x s p,F x s p=true->P (.Subscript x s p)):P e:=(by obtain ⟨A,H⟩:=cN H;exact Expr.Subscript.elim e A (λx s p _ H=>K x s p H) A H)
noncomputable def isSlice (e:Expr) (f:Option Expr->Option Expr->Option Expr->Pos->Bool):Bool:=if h:e.ctorIdx=26 then Expr.Slice.elim e h f else false
theorem ub {F} (H:isSlice e F=true) (K:∀a b c p,F a b c p=true->P (.Slice a b c p)):P e:=(by obtain ⟨A,H⟩:=cN H;exact Expr.Slice.elim e A (λa b c p _ H=>K a b c p H) A H)
noncomputable def isCall (e:Expr) (f:Expr->List Expr->List Keyword->Pos->Bool):Bool:=if h:e.ctorIdx=16 then Expr.Call.elim e h f else false
theorem q9 {F} (H:isCall e F=true) (K:∀f l k p,F f l k p=true->P (.Call f l k p)):P e:=(by obtain ⟨A,H⟩:=cN H;exact Expr.Call.elim e A (λf l k p _ H=>K f l k p H) A H)
noncomputable def uI (e:Expr) (f:Expr->List Comprehension->Scope->Pos->Bool):Bool:=if h:e.ctorIdx=8 then Expr.ListComp.elim e h f else false
theorem z_ {F} (H:uI e F=true) (K:∀x g s p,F x g s p=true->P (.ListComp x g s p)):P e:=(by obtain ⟨A,H⟩:=cN H;exact Expr.ListComp.elim e A (λx g s p _ H=>K x g s p H) A H)
end
section
variable {e:Stmt} {P:Stmt->Prop}
noncomputable def zx (e:Stmt) (f:Expr->Pos->Bool):Bool:=if h:e.ctorIdx=24 then Stmt.Expr.elim e h f else false
theorem Oc {F} (H:zx e F=true) (K:∀x p,F x p=true->P (.Expr x p)):P e:=(by obtain ⟨A,H⟩:=cN H;exact Stmt.Expr.elim e A (λx p _ H=>K x p H) A H)
noncomputable def o_ (e:Stmt) (f:List Expr->Expr->Pos->Bool):Bool:=if h:e.ctorIdx=5 then Stmt.Assign.elim e h f else false
theorem rU {F} (H:o_ e F=true) (K:∀t x p,F t x p=true->P (.Assign t x p)):P e:=(by obtain ⟨A,H⟩:=cN H;exact Stmt.Assign.elim e A (λt x p _ H=>K t x p H) A H)
noncomputable def CH (e:Stmt) (f:Expr->Operator->Expr->Pos->Bool):Bool:=if h:e.ctorIdx=7 then Stmt.AugAssign.elim e h f else false
theorem ES {F} (H:CH e F=true) (K:∀t o x p,F t o x p=true->P (.AugAssign t o x p)):P e:=(by obtain ⟨A,H⟩:=cN H;exact Stmt.AugAssign.elim e A (λt o x p _ H=>K t o x p H) A H)
noncomputable def Bp (e:Stmt) (f:Option Expr->Pos->Bool):Bool:=if h:e.ctorIdx=3 then Stmt.Return.elim e h f else false
theorem IJ {F} (H:Bp e F=true) (K:∀x p,F x p=true->P (.Return x p)):P e:=(by obtain ⟨A,H⟩:=cN H;exact Stmt.Return.elim e A (λx p _ H=>K x p H) A H)
noncomputable def BR (e:Stmt) (f:Expr->List Stmt->List Stmt->Pos->Bool):Bool:=if h:e.ctorIdx=12 then Stmt.If.elim e h f else false
theorem Iu {F} (H:BR e F=true) (K:∀t x y p,F t x y p=true->P (.If t x y p)):P e:=(by obtain ⟨A,H⟩:=cN H;exact Stmt.If.elim e A (λt x y p _ H=>K t x y p H) A H)
noncomputable def yt (e:Stmt) (f:Expr->List Stmt->List Stmt->Pos->Bool):Bool:=if h:e.ctorIdx=11 then Stmt.While.elim e h f else false
theorem Pp {F} (H:yt e F=true) (K:∀t x y p,F t x y p=true->P (.While t x y p)):P e:=(by obtain ⟨A,H⟩:=cN H;exact Stmt.While.elim e A (λt x y p _ H=>K t x y p H) A H)
noncomputable def BP (e:Stmt) (f:Expr->Expr->List Stmt->List Stmt->Pos->Bool):Bool:=if h:e.ctorIdx=9 then Stmt.For.elim e h f else false
theorem Ml {F} (H:BP e F=true) (K:∀t i x y p,F t i x y p=true->P (.For t i x y p)):P e:=(by obtain ⟨A,H⟩:=cN H;exact Stmt.For.elim e A (λt i x y p _ H=>K t i x y p H) A H)
noncomputable def zB (e:Stmt) (f:Pos->Bool):Bool:=if h:e.ctorIdx=27 then Stmt.Continue.elim e h f else false
theorem Dv {F} (H:zB e F=true) (K:∀p,F p=true->P (.Continue p)):P e:=(by obtain ⟨A,H⟩:=cN H;exact Stmt.Continue.elim e A (λp _ H=>K p H) A H)
noncomputable def yV (e:Stmt) (f:Pos->Bool):Bool:=if h:e.ctorIdx=25 then Stmt.Pass.elim e h f else false
theorem Gy {F} (H:yV e F=true) (K:∀p,F p=true->P (.Pass p)):P e:=(by obtain ⟨A,H⟩:=cN H;exact Stmt.Pass.elim e A (λp _ H=>K p H) A H)
noncomputable def xC (e:Stmt) (f:List Stmt->List ExceptHandler->List Stmt->List Stmt->Pos->Bool):Bool:=if h:e.ctorIdx=17 then Stmt.Try.elim e h f else false
theorem Gk {F} (H:xC e F=true) (K:∀b h x y p,F b h x y p=true->P (.Try b h x y p)):P e:=(by obtain ⟨A,H⟩:=cN H;exact Stmt.Try.elim e A (λb h x y p _ H=>K b h x y p H) A H)
end
noncomputable def one {α} (l:List α) (f:α->Bool):Bool:=List.casesOn l false λx r=>List.casesOn r (f x) λ_ _=>false
theorem gy {α} {l} {f} {P:List α->Prop} (h:one l f=true) (k:∀x,f x=true->P [x]):P l:=
 match l,h with| [x],h=>k x h
def two {α} (l:List α) (f:α->α->Bool):Bool:=List.casesOn l false λx r=>one r (f x)
theorem C1 {α} {l} {f} {P:List α->Prop} (h:two l f=true) (k:∀x y,f x y=true->P [x,y]):P l:=
 match l,h with|x::r,h=>gy h (P:=λr=>P (x::r)) λy h=>k x y h
theorem oJ {α} {o} {f} {P:Option α->Prop} (h:o.any f=true) (k:∀x,f x=true->P (some x)):P o:=
 match o,h with|some x,h=>k x h
theorem ea {a b} (h:(a&&b)=true):a=true/\b=true:=(hQ _ _).mp h
end Mine
namespace Mine
open PySem Calls SeqAt PyProof.Rows W
structure Tb where
 nm:Nat->Str
 nn:Nat
 w8:Nat->Str
 ng:Nat
 wW:Nat->Str
 gf:Nat->Bool
 uf:Nat->Str
 nc:Nat
structure Ck where
 names:List Str
 kd:List (Str×NameKind)
noncomputable def lj:BI->Str
 | .len=>"len"| .range=>"range"| .tuple=>"tuple"| .list=>"list"| .str=>"str"
noncomputable def Ck.glob (K:Ck) (n:Str):Bool:=K.kd.lookup n==some .globalImplicit&& !(n==("__debug__":Str))
noncomputable def Ck.cn (K:Ck) (aw:List Nat):List Str:=aw.filterMap (K.names[·]?)
noncomputable def O8 (kd names:List (Str×NameKind)):List (Str×NameKind):=names.map λ(n,k)=>if k== .free&&kd.lookup n==some .cell then (n,.cell) else (n,k)
def Ck.comp (K:Ck) (aw:List Nat) (var:Str) (scope:Scope):Ck:=⟨var::K.cn aw,O8 K.kd scope.names⟩
abbrev I1 (scope:Scope):Prop:=∀x∈scope.names,x.2= .local->scope.names.lookup x.1=some .local
abbrev MY (scope:Scope) (cn:List Str):Prop:=∀x∈scope.names,x.2= .free->x.1∈cn
abbrev MS (K:Ck) (scope:Scope) (cn:List Str):Prop:=∀n∈cn,scope.names.lookup n=some .free/\K.kd.lookup n=some .cell
structure sF (K:Ck) (aw:List Nat) (var:Str) (scope:Scope) (cn:List Str):Prop where
 at':aw.map (K.names[·]?)=cn.map some
 kind:scope.kind= .function
 pK:∀x∈scope.names,x.2≠ .cell
 loc:I1 scope
 pt:scope.names.lookup var=some .local
 free:MY scope cn
 aw:MS K scope cn
 nodup:(var::cn).Nodup
 vd:(var==("__debug__":Str))=false
noncomputable instance {K:Ck} {aw:List Nat} {var:Str} {scope:Scope} {cn:List Str}:Decidable (sF K aw var scope cn):=
 decidable_of_iff (aw.map (K.names[·]?)=cn.map some/\scope.kind= .function/\(∀x∈scope.names,x.2≠ .cell)/\(∀x∈scope.names,x.2= .local->scope.names.lookup x.1=some .local)/\scope.names.lookup var=some .local/\(∀x∈scope.names,x.2= .free->x.1∈cn)/\
  (∀n∈cn,scope.names.lookup n=some .free/\K.kd.lookup n=some .cell)/\(var::cn).Nodup/\(var==("__debug__":Str))=false)
  ⟨λh=>⟨h.1,h.2.1,h.2.2.1,h.2.2.2.1,h.2.2.2.2.1,h.2.2.2.2.2.1,h.2.2.2.2.2.2.1,h.2.2.2.2.2.2.2.1,h.2.2.2.2.2.2.2.2⟩,λh=>⟨h.at',h.kind,h.pK,h.loc,h.pt,h.free,h.aw,h.nodup,h.vd⟩⟩
def xM (g:List Comprehension) (var:Str) (f:Expr->List Expr->Bool):Bool:=one g λg=>g.is_async==0&&isName g.target λn _=>n==var&&f g.iter g.ifs
structure CL where
 nil:Bool
 xs:Ck->List Expr->Bool
 c:Ck->List Expr->Bool
 d:Ck->List (Option Expr)->List Expr->Bool
 d':Ck->List (Option Expr)->List Expr->Bool
structure CX where
 f:Ck->Expr->Bool
 l:CL
noncomputable def cF:CL:=⟨true,λ_ l=>l.isEmpty,λ_ l=>l.isEmpty,λ_ k v=>k.isEmpty&&v.isEmpty,λ_ _ _=>false⟩
def wn (K:Ck) (aw:List Nat) (var:Str) (k iter:CX) (bD:CL) (x:Expr) (g:List Comprehension) (s:Scope):Bool:=
 decide (sF K aw var s (K.cn aw))&&xM g var λit ifs=>j8 it&&iter.f K it&&k.f (K.comp aw var s) x&&bD.c (K.comp aw var s) ifs
section
variable (T:Tb)
def nG (x:X):CX:=X.rec
 (λv=>⟨λ_ e=>isConst e λc _ _=>jQ c==some v,cF⟩)
 (λi=>⟨λK e=>isName e λn _=>K.names[i]? ==some n,cF⟩)
 (λg=>⟨λK e=>isName e λn _=>n==T.w8 g&&decide (g<T.ng)&&K.glob n,cF⟩)
 (λ_ es=>⟨λK e=>my e λl _ _=>es.xs K l,es⟩)
 (λ_ es=>⟨λK e=>isList e λl _=>es.xs K l,cF⟩)
 (λ_ es=>⟨λK e=>AA e λk v _=>es.d K k v&&decide (k.length<=15),cF⟩)
 (λ_ f=>⟨λK e=>qe e λo x _=>o== .USub&&f.f K x,cF⟩)
 (λ_ f=>⟨λK e=>qe e λo x _=>o== .Not&&f.f K x,cF⟩)
 (λ_ es=>⟨λK e=>isBool e λo l _=>o== .And&&es.xs K l,cF⟩)
 (λ_ es=>⟨λK e=>isBool e λo l _=>o== .Or&&es.xs K l,cF⟩)
 (λ_ _ _ c a b=>⟨λK e=>isIf e λt x y _=>c.f K t&&a.f K x&&b.f K y,cF⟩)
 (λop _ _ a b=>⟨λK e=>vC e λl o r _=>o==se op&&a.f K l&&b.f K r,cF⟩)
 (λ_ _ a n=>⟨λK e=>vC e λl o r _=>o== .Mult&&n.f K r&&isList l λl _=>one l λx=>a.f K x&&notStar x,cF⟩)
 (λop _ _ a b=>⟨λK e=>rX e λl o r _=>one o λo=>one r λr=>o==cY op&& !(behindInMarks o r)&&a.f K l&&b.f K r,cF⟩)
 (λ_ D _ E _ a b c=>⟨λK e=>rX e λl o r _=>two o λp q=>two r λx y=>p==cY D&&q==cY E&& !(behindInMarks q y)&&a.f K l&&b.f K x&&c.f K y,cF⟩)
 (λn _ a=>⟨λK e=>rX e λl o r _=>one o λo=>one r λr=>isConst r λc _ _=>jQ c==some .none&&o==(if n then .IsNot else .Is)&&a.f K l,cF⟩)
 (λ_ n a=>⟨λK e=>mY e λx m _=>m==T.nm n&&decide (n<T.nn)&&mi x&&a.f K x,cF⟩)
 (λ_ _ a i=>⟨λK e=>lY e λx s _=>a.f K x&&i.f K s,cF⟩)
 (λ_ _ a i=>⟨λK e=>lY e λx s _=>isSlice s λl u z _=>l.any λl=>u.isNone&&z.isNone&&a.f K x&&i.f K l,cF⟩)
 (λ_ _ a i=>⟨λK e=>lY e λx s _=>isSlice s λl u z _=>u.any λu=>l.isNone&&z.isNone&&a.f K x&&i.f K u,cF⟩)
 (λ_ a=>⟨λK e=>lY e λx s _=>isSlice s λl u z _=>z.any λz=>l.isNone&&u.isNone&&a.f K x&&qe z λo y _=>o== .USub&&isConst y λc _ _=>jQ c==some (.int 1),cF⟩)
 (λf _ es=>⟨λK e=>isCall e λh l k _=>k.isEmpty&&isName h λn _=>n==T.wW f&&T.gf f&&K.glob n&&es.xs K l,cF⟩)
 (λc _ es=>⟨λK e=>isCall e λh l k _=>k.isEmpty&&isName h λn _=>n==T.uf c&&decide (c<T.nc)&&K.glob n&&es.xs K l,cF⟩)
 (λ_ n _ a es=>⟨λK e=>isCall e λh l k p=>k.isEmpty&&mY h λx m q=>m==T.nm n&&decide (n<T.nn)&&mi x&&q.endLine==p.line&&decide (l.length<29)&&a.f K x&&es.xs K l,cF⟩)
 (λb _ es=>⟨λK e=>isCall e λh l k _=>k.isEmpty&&isName h λn _=>n==lj b&&K.glob n&&es.xs K l,cF⟩)
 (λaw var _ _ _ A iter bD=>⟨λK e=>uI e λx g s _=>wn K aw var A iter bD x g s,cF⟩)
 cF
 (λ_ _ x r=>⟨false,λK l=>List.casesOn l false λe l=>notStar e&&x.f K e&&r.xs K l,λK l=>one l λe=>r.nil&&x.f K e,
   λK k v=>List.casesOn k false λo k=>o.any λe=>x.f K e&&r.d' K k v,λK k v=>List.casesOn v false λe v=>x.f K e&&r.d K k v⟩) x
def aW (x:X):Ck->Expr->Bool:=(nG T x).f
def cT (l:Xs):CL:=(nG T (.tup l)).l
end
end Mine
namespace Mine
open PySem Calls SeqAt PyProof.Rows W
structure Su where
 T:Tb
 sc:List Int
 gl:Nat->V
 ct:Nat->CD
 cl:Nat->List V->M V
 aB:Nat->Addr
 CB:Around->Prop
abbrev DF (C:Cx) (T:Tb) (gl:Nat->V):Prop:=∀g,g<T.ng->∃x,C.mg (T.w8 g)=some x/\∀c,(∀b o,C.base.get? b=some o->c.s.heap.get? b=some o)->VR C c (gl g) x
abbrev Rc (C:Cx) (T:Tb) (aB:Nat->Addr):Prop:=∀f,T.gf f=true->C.mg (T.wW f)=some (.ref (aB f))
abbrev GA (C:Cx) (aB:Nat->Addr):Prop:=∀f,keepIn C.K (.ref (aB f))=true
abbrev DJ (C:Cx) (T:Tb):Prop:=∀c,c<T.nc->C.mg (T.uf c)=some (.ref (C.cm c))/\keepIn C.K (.ref (C.cm c))=true
abbrev Mz (C:Cx):Prop:=∀b,C.mg (lj b)=none/\C.mb (lj b)=some (qh b)
structure tU (C:Cx) (T:Tb) (sc:List Int) (gl:Nat->V) (ct:Nat->CD) (aB:Nat->Addr):Prop where
 nm:T.nm=C.nm
 nn:T.nn=C.nn
 sc:sc=C.sc
 cls:j5 C ct aB
 ju:DF C T gl
 fn:Rc C T aB
 keep:GA C aB
 cl:DJ C T
 blt:Mz C
structure Good (U:Su) (K:Ck) (F:Fx):Prop where
 names:F.names=K.names
 kd:F.env.scope.names=K.kd
 S:tU F.C U.T U.sc U.gl U.ct U.aB
 B:qq F.dM U.CB
 cl:mM F.C U.CB U.aB U.cl
section
variable {U:Su} {K:Ck} {F:Fx}
theorem Good.kind (G:Good U K F) (n):F.env.kindOf n=K.kd.lookup n:=ej (List.lookup n) G.kd
theorem Good.glob (G:Good U K F) {n} (h:K.glob n=true):F.env.kindOf n=some .globalImplicit/\(n==("__debug__":Str))=false:=
 (by obtain ⟨j,k⟩:=ea h;exact ⟨(G.kind n).trans (g7.mp j),(AZ _).mp k⟩)
theorem Good.at (G:Good U K F) {i:Nat} {n} (h:(K.names[i]? ==some n)=true):F.names[i]? =some n:=G.names▸g7.mp h
theorem Good.AJ (G:Good U K F) {aw} {var} {scope} {cn} (h:sF K aw var scope cn):cR F aw var scope cn where
 at':=G.names▸h.at'
 kind:=h.kind
 pK:=h.pK
 loc:=h.loc
 pt:=h.pt
 free:=λx k t=>by
  have j:=h.free x k t;have hm:x.1∈F.names:=by have:some x.1∈aw.map (K.names[·]?):=h.at'▸List.mem_map_of_mem j;obtain ⟨i,_,e⟩:=g5.mp this;exact G.names▸bh e
  exact (F.N.kinds _ hm).1.elim (λz=>nomatch ((G.kind _).trans (h.aw _ j).2).symm.trans z) And.right
 aw:=λn j=>⟨(h.aw n j).1,(G.kind n).trans (h.aw n j).2⟩
 nodup:=h.nodup
 vd:=h.vd
theorem Good.comp (G:Good U K F) {aw} {var} {scope} (h:sF K aw var scope (K.cn aw)) {cls} {k} (j:cU F.env.cells scope.names []=some cls) (nf:¬Fa F.env k):Good U (K.comp aw var scope) ((G.AJ h).fx j nf) where
 names:=rfl
 kd:=JR λx _=>by dsimp only;rw [show (F.env.scope.kind==ScopeKind.function)=true from by rw [F.N.kind];rfl,G.kind,Bool.and_true]
 S:=G.S
 B:=G.B
 cl:=G.cl
theorem Bn {x} {l} {env} (h:notStar x=true):starEach (x::l) env=(false,eval x env)::starEach l env:=by
 (revert h;generalize x=j;intro h;cases j<;>first|rfl|exact (bB h).elim)
end
structure NS (env:Env) (p:Pos) (es:List Expr):Prop where
 no:(backTo p (starEach es env)).any (·.1)=false
 al:(backTo p (starEach es env)).all (!·.1)=true
def PE (U:Su) (x:X):Prop:=∀K F e,Good U K F->aW U.T x K e=true->aT F (λρ=>aY U.sc U.gl U.ct U.cl ρ x) e
abbrev L8 (U:Su) (l:Xs):Prop:=∀K F es p,Good U K F->(cT U.T l).xs K es=true->iO F (λρ=>gT U.sc U.gl U.ct U.cl ρ l) (backTo p (starEach es F.env))/\NS F.env p es
abbrev Rd (U:Su) (l:Xs):Prop:=∀K F es p,Good U K F->(cT U.T l).xs K es=true->aT F (λρ=>qj U.sc U.gl U.ct U.cl ρ l) (.BoolOp .And es p)
abbrev PO (U:Su) (l:Xs):Prop:=∀K F es p,Good U K F->(cT U.T l).xs K es=true->aT F (λρ=>qk U.sc U.gl U.ct U.cl ρ l) (.BoolOp .Or es p)
abbrev DS (U:Su) (l:Xs):Prop:=∀K F es,Good U K F->(cT U.T l).c K es=true->bU F (λρ=>mZ U.sc U.gl U.ct U.cl ρ l) (ja es F.env)
abbrev HR (U:Su) (l:Xs):Prop:=∀K F ks vs p,Good U K F->(cT U.T l).d K ks vs=true->mN F (λρ=>gT U.sc U.gl U.ct U.cl ρ l) (pairTrees ks vs F.env p)/\ks.all (·.isSome)=true/\ks.length=vs.length/\(l≠ .nil->ks≠ [])
abbrev IV (U:Su) (l:Xs):Prop:=∀K F e ks vs p (f:ag->M V),Good U K F->Ok F f (eval e F.env)->(cT U.T l).d' K ks vs=true->mN F (λρ=>ac (f ρ) λv=>ac (gT U.sc U.gl U.ct U.cl ρ l) λvs=>Mine.ret (v::vs)) (pairTrees (some e::ks) vs F.env p)/\ks.all (·.isSome)=true/\ks.length+1=vs.length
structure PQ (U:Su) (l:Xs):Prop where
 nil:(cT U.T l).nil=true->l= .nil
 xs:L8 U l
 an:Rd U l
 or:PO U l
 c:DS U l
 d:HR U l
 d':IV U l
section
variable {U:Su}
theorem Mq (v):PE U (.lit v):=λK F e G h=>tC (F:=λc _ _=>jQ c==some v) (P:=λe=>aT F _ e) h λc k p h=>both (λ_=>rfl) (FR (g7.mp h))
theorem FE (i:Nat):PE U (.loc i):=λK F e G h=>iL (F:=λn _=>K.names[i]? ==some n) (P:=λe=>aT F _ e) h λn p h=>both (λ_=>rfl) (F' (G.at h))
theorem I6 (g):PE U (.ju g):=λK F e G h=>iL (F:=λn _=>n==U.T.w8 g&&decide (g<U.T.ng)&&K.glob n) (P:=λe=>aT F _ e) h λn p h=>by obtain ⟨j,k⟩:=ea h;obtain ⟨j,t⟩:=ea j;obtain ⟨x,y,hv⟩:=G.S.ju g (aa t);exact both (λ_=>rfl) ((λ_ K q=>Name_function_global F.N.kind ((G.glob k).1) (loadGlobal_global (F.N.gl▸F.C.g.keeps K.R.base) (g7.mp j▸y) (Po.fin q K x (hv _ K.R.base))) ((G.glob k).2)))
theorem I2 {l} (i:PQ U l):PE U (.tup l):=λK F e G h=>uX (F:=λes _ _=>(cT U.T l).xs K es) (P:=λe=>aT F _ e) h λl k p h=>both (λ_=>rfl) (Oq (i.xs K F l p G h).1)
theorem Ke {l} (i:PQ U l):PE U (.lst l):=λK F e G h=>yY (F:=λes _=>(cT U.T l).xs K es) (P:=λe=>aT F _ e) h λl p h=>both (λ_=>rfl) (OB (i.xs K F l p G h).1)
theorem Lb {x} (i:PE U x):PE U (.neg x):=λK F e G h=>tX (F:=λo y _=>o== .USub&&aW U.T x K y) (P:=λe=>aT F _ e) h λo y p h=>by rw [g7.mp (ea h).1];exact both (λ_=>rfl) (Ju (i K F y G (ea h).2).1)
theorem Jq {x} (i:PE U x):PE U (.not x):=λK F e G h=>tX (F:=λo y _=>o== .Not&&aW U.T x K y) (P:=λe=>aT F _ e) h λo y p h=>by rw [g7.mp (ea h).1];have A:=i K F y G (ea h).2;exact ⟨(λI K q=>UnaryOp_ (A.1 I K (q.bd λa t D _ j q x J=>not_of (qY j J q λb z E _ k q=>Po.fin q k _ rfl)))),Hn A.2⟩
theorem Gc {l} (i:PQ U l):PE U (.and l):=λK F e G h=>Av (F:=λo es _=>o== .And&&(cT U.T l).xs K es) (P:=λe=>aT F _ e) h λo l p h=>by rw [g7.mp (ea h).1];exact i.an K F l p G (ea h).2
theorem Mv {l} (i:PQ U l):PE U (.or l):=λK F e G h=>Av (F:=λo es _=>o== .Or&&(cT U.T l).xs K es) (P:=λe=>aT F _ e) h λo l p h=>by rw [g7.mp (ea h).1];exact i.or K F l p G (ea h).2
theorem H9 {c a b} (i:PE U c) (j:PE U a) (k:PE U b):PE U (.ite c a b):=λK F e G h=>Dl (F:=λt x y _=>aW U.T c K t&&aW U.T a K x&&aW U.T b K y) (P:=λe=>aT F _ e) h λt x y p h=>by obtain ⟨h,z⟩:=ea h;have A:=i K F t G (ea h).1;have B:=j K F x G (ea h).2;have C:=k K F y G z;exact ⟨Fd A.2 B.1 C.1,Q8 A.2 B.2 C.2⟩
theorem EV {op} {a b} (i:PE U a) (j:PE U b):PE U (.bin op a b):=λK F e G h=>CQ (F:=λl o r _=>o==se op&&aW U.T a K l&&aW U.T b K r) (P:=λe=>aT F _ e) h λl o r p h=>by obtain ⟨h,k⟩:=ea h;rw [g7.mp (ea h).1];exact both (λ_=>rfl) (Iz (i K F l G (ea h).2).1 (j K F r G k).1)
theorem Jx {a n} (i:PE U a) (j:PE U n):PE U (.rep a n):=λK F e G h=>CQ (F:=λl o r _=>o== .Mult&&aW U.T n K r&&isList l λl _=>one l λx=>aW U.T a K x&&notStar x) (P:=λe=>aT F _ e) h λl o r p h=>by obtain ⟨h,k⟩:=ea h;rw [g7.mp (ea h).1];exact yY (P:=λl=>aT F _ (.BinOp l _ _ _)) k λl p k=>gy (P:=λl=>aT F _ (.BinOp (.List l _) _ _ _)) k λx k=>both (λ_=>rfl) (Dr (i K F x G (ea k).1).1 (j K F r G (ea h).2).1 (Bn (ea k).2))
theorem Mw {op} {a b} (i:PE U a) (j:PE U b):PE U (.cmp op a b):=λK F e G h=>ww (F:=λl o r _=>one o λo=>one r λr=>o==cY op&& !(behindInMarks o r)&&aW U.T a K l&&aW U.T b K r) (P:=λe=>aT F _ e) h λl o r p h=>
 gy (P:=λo=>aT F _ (.Compare _ o _ _)) h λo h=>gy (P:=λr=>aT F _ (.Compare _ _ r _)) h λr h=>by obtain ⟨h,t⟩:=ea h;obtain ⟨h,y⟩:=ea h;obtain ⟨h,k⟩:=ea h;rw [(g7.mp h)] at k⊢;have A:=i K F l G y;have B:=j K F r G t;exact ⟨Op ((AZ _).mp k) A.1 B.1,N9 ((AZ _).mp k) A.1 B.1⟩
theorem Rb {z D} {a b c} (i:PE U a) (j:PE U b) (k:PE U c):PE U (.q6 a z b D c):=λK F e G h=>ww (F:=λl o r _=>two o λp q=>two r λx y=>p==cY z&&q==cY D&& !(behindInMarks q y)&&aW U.T a K l&&aW U.T b K x&&aW U.T c K y) (P:=λe=>aT F _ e) h λl o r p h=>
 C1 (P:=λo=>aT F _ (.Compare _ o _ _)) h λL Q h=>C1 (P:=λr=>aT F _ (.Compare _ _ r _)) h λx y h=>by obtain ⟨h,E⟩:=ea h;obtain ⟨h,I⟩:=ea h;obtain ⟨h,J⟩:=ea h;obtain ⟨h,t⟩:=ea h;rw [(g7.mp (ea h).2)] at t⊢;rw [g7.mp (ea h).1];have A:=i K F l G J;have B:=j K F x G I;have C:=k K F y G E;exact ⟨Pe ((AZ _).mp t) A.1 B.1 C.1,QT ((AZ _).mp t) A.1 B.1 C.1⟩
theorem const_none {c} (h:(jQ c==some .none)=true):c= .none:=by (revert h;generalize c=j;intro h;cases j<;>first|rfl|exact nomatch g7.mp h)
theorem QP {c} (h:(jQ c==some (.int 1))=true):c= .int 1:=by
 induction c with|int i=>rw [V.int.inj (aP (g7.mp h))]|_=>exact nomatch g7.mp h
theorem ME {n} {a} (i:PE U a):PE U (.sp n a):=λK F e G h=>ww (F:=λl o r _=>one o λo=>one r λr=>isConst r λc _ _=>jQ c==some .none&&o==(if n then .IsNot else .Is)&&aW U.T a K l) (P:=λe=>aT F _ e) h λl o r p h=>
 gy (P:=λo=>aT F _ (.Compare _ o _ _)) h λo h=>gy (P:=λr=>aT F _ (.Compare _ _ r _)) h λr h=>tC (P:=λr=>aT F _ (.Compare _ _ [r] _)) h λc k p h=>by obtain ⟨h,z⟩:=ea h;rw [const_none (ea h).1,g7.mp (ea h).2];have A:=i K F l G z;exact ⟨(λD K q=>wpAny_Compare1 (A.1 D K (q.bd λa t y _ j q x E=>Constant_none (cmp_none (AP E) (Po.fin q j _ rfl)))) rfl),NW A.1⟩
theorem N3 {a} {n} (i:PE U a):PE U (.kY a n):=λK F e G h=>tJ (F:=λx m _=>m==U.T.nm n&&decide (n<U.T.nn)&&mi x&&aW U.T a K x) (P:=λe=>aT F _ e) h λx m p h=>by obtain ⟨h,j⟩:=ea h;obtain ⟨h,k⟩:=ea h;rw [g7.mp (ea h).1,G.S.nm];exact both (λ_=>rfl) (Jz G.S.cls (G.S.nn▸aa (ea h).2) k (i K F x G j).1)
theorem Ge {a b} (i:PE U a) (j:PE U b):PE U (.idx a b):=λK F e G h=>qt (F:=λx s _=>aW U.T a K x&&aW U.T b K s) (P:=λe=>aT F _ e) h λx s p h=>both (λ_=>rfl) (Gj (i K F x G (ea h).1).1 (j K F s G (ea h).2).1)
theorem Rf {a b} (i:PE U a) (j:PE U b):PE U (.pg a b):=λK F e G h=>qt (F:=λx s _=>isSlice s λl u z _=>l.any λl=>u.isNone&&z.isNone&&aW U.T a K x&&aW U.T b K l) (P:=λe=>aT F _ e) h λx s p h=>ub (P:=λs=>aT F _ (.Subscript _ s _)) h λl u z p h=>oJ (P:=λl=>aT F _ (.Subscript _ (.Slice l _ _ _) _)) h λl h=>by obtain ⟨h,k⟩:=ea h;obtain ⟨h,t⟩:=ea h;rw [lS.mp (ea h).1,lS.mp (ea h).2];exact both (λ_=>rfl) (Hl (i K F x G t).1 (j K F l G k).1)
theorem HF {a b} (i:PE U a) (j:PE U b):PE U (.fF a b):=λK F e G h=>qt (F:=λx s _=>isSlice s λl u z _=>u.any λu=>l.isNone&&z.isNone&&aW U.T a K x&&aW U.T b K u) (P:=λe=>aT F _ e) h λx s p h=>ub (P:=λs=>aT F _ (.Subscript _ s _)) h λl u z p h=>oJ (P:=λu=>aT F _ (.Subscript _ (.Slice _ u _ _) _)) h λu h=>by obtain ⟨h,k⟩:=ea h;obtain ⟨h,t⟩:=ea h;rw [lS.mp (ea h).1,lS.mp (ea h).2];exact both (λ_=>rfl) (Mg G.S.sc (i K F x G t).1 (j K F u G k).1)
theorem MW {a} (i:PE U a):PE U (.sW a):=λK F e G h=>qt (F:=λx s _=>isSlice s λl u z _=>z.any λz=>l.isNone&&u.isNone&&aW U.T a K x&&qe z λo y _=>o== .USub&&isConst y λc _ _=>jQ c==some (.int 1)) (P:=λe=>aT F _ e) h λx s p h=>ub (P:=λs=>aT F _ (.Subscript _ s _)) h λl u z p h=>oJ (P:=λz=>aT F _ (.Subscript _ (.Slice _ _ z _) _)) h λz h=>by obtain ⟨h,j⟩:=ea h;obtain ⟨h,t⟩:=ea h;rw [lS.mp (ea h).1,lS.mp (ea h).2];exact tX (P:=λz=>aT F _ (.Subscript _ (.Slice _ _ (some z) _) _)) j λo y p j=>by rw [g7.mp (ea j).1];exact tC (P:=λy=>aT F _ (.Subscript _ (.Slice _ _ (some (.UnaryOp _ y _)) _) _)) (ea j).2 λc k p j=>by rw [QP j];exact both (λ_=>rfl) (Ew (i K F x G t).1)
end
end Mine
namespace Mine
open PySem Calls SeqAt PyProof.Rows W
section
variable {U:Su} {F:Fx}
theorem FJ {f} {c} (h:bU F f (isTrue c F.env (eval c F.env))):bU F f (ja [c] F.env):=λj K q=>wpAny_tests_one (h j K q)
theorem Km {l} (i:PQ U l):PE U (.mC l):=λK F e G h=>ID (F:=λks vs _=>(cT U.T l).d K ks vs&&decide (ks.length<=15)) (P:=λe=>aT F _ e) h λks vs p h=>by
 have j:=(ea h).1;have a1:=i.d K F ks vs p G j;cases l with|nil=>rw [k4.mp (ea j).1,k4.mp (ea j).2];exact both (λ_=>rfl) FL|cons k r=>exact both (λ_=>rfl) (DO a1.2.1 a1.2.2.1 (a1.2.2.2 λe=>bB (ej (λl:Xs=>Xs.casesOn (motive_2:=λ_=>Bool) l true λ_ _=>false) e)) (aa (ea h).2) a1.1)
theorem MN {f} {l} (i:PQ U l):PE U (.fn f l):=λK F e G h=>q9 (F:=λh es k _=>k.isEmpty&&isName h λn _=>n==U.T.wW f&&U.T.gf f&&K.glob n&&(cT U.T l).xs K es) (P:=λe=>aT F _ e) h λhd es k p h=>by rw [k4.mp (ea h).1];exact iL (P:=λhd=>aT F _ (.Call hd _ _ _)) (ea h).2 λn _ h=>by obtain ⟨h,j⟩:=ea h;have h:=ea h;have a:=i.xs K F es p G j;exact both (λ_=>rfl) (OE (fi:=f) (aB:=U.aB) (cl:=U.cl) G.B G.cl (G.glob h.2).1 (G.glob h.2).2 (g7.mp (ea h.1).1▸G.S.fn f (ea h.1).2) (G.S.keep f) a.2.no a.1)
theorem Mn {c} {l} (i:PQ U l):PE U (.new c l):=λK F e G h=>q9 (F:=λh es k _=>k.isEmpty&&isName h λn _=>n==U.T.uf c&&decide (c<U.T.nc)&&K.glob n&&(cT U.T l).xs K es) (P:=λe=>aT F _ e) h λhd es k p h=>by rw [k4.mp (ea h).1];exact iL (P:=λhd=>aT F _ (.Call hd _ _ _)) (ea h).2 λn _ h=>by obtain ⟨h,j⟩:=ea h;have h:=ea h;have a:=i.xs K F es p G j;have c1:=G.S.cl c (aa (ea h.1).2);exact both (λ_=>rfl) (EJ (k:=c) (aB:=U.aB) (cl:=U.cl) G.S.cls G.B G.cl (G.glob h.2).1 (G.glob h.2).2 (g7.mp (ea h.1).1▸c1.1) c1.2 a.2.no a.1)
theorem MB {b} {l} (i:PQ U l):PE U (.blt b l):=λK F e G h=>q9 (F:=λh es k _=>k.isEmpty&&isName h λn _=>n==lj b&&K.glob n&&(cT U.T l).xs K es) (P:=λe=>aT F _ e) h λhd es k p h=>by rw [k4.mp (ea h).1];exact iL (P:=λhd=>aT F _ (.Call hd _ _ _)) (ea h).2 λn _ h=>by obtain ⟨h,j⟩:=ea h;have h:=ea h;have a:=i.xs K F es p G j;exact both (λ_=>rfl) (PI (G.glob h.2).1 (G.glob h.2).2 (g7.mp h.1▸(G.S.blt b).1) (g7.mp h.1▸(G.S.blt b).2) a.2.no a.1)
theorem Fc {a} {n} {l} (i:PE U a) (j:PQ U l):PE U (.jf a n l):=λK F e G h=>q9 (F:=λh es k p=>k.isEmpty&&mY h λx m q=>m==U.T.nm n&&decide (n<U.T.nn)&&mi x&&q.endLine==p.line&&decide (es.length<29)&&aW U.T a K x&&(cT U.T l).xs K es) (P:=λe=>aT F _ e) h λhd es k p h=>by rw [k4.mp (ea h).1];exact tJ (P:=λhd=>aT F _ (.Call hd _ _ _)) (ea h).2 λx m q h=>by obtain ⟨h,t⟩:=ea h;obtain ⟨h,y⟩:=ea h;obtain ⟨h,z⟩:=ea h;obtain ⟨h,A⟩:=ea h;have h:=ea h;have a:=j.xs K F es p G t;rw [g7.mp (ea h.1).1,G.S.nm];exact both (λ_=>rfl) (OD (aB:=U.aB) (cl:=U.cl) G.S.cls G.B G.cl (λfi _=>G.S.keep fi) (G.S.nn▸aa (ea h.1).2) h.2 A a.2.no (aa z) a.2.al (i K F x G y).1 a.1)
theorem Ey {g} {var} {f} {P:List Comprehension->Prop} (h:xM g var f=true) (k:∀p it ifs,f it ifs=true->P [⟨.Name var p,it,ifs,0⟩]):P g:=
 gy h λ⟨tg,it,ifs,as⟩ h=>iL (P:=λtg=>P [⟨tg,it,ifs,as⟩]) (ea h).2 λn p j=>by rw [g7.mp (ea j).1,show as=0 from g7.mp (ea h).1];exact k p it ifs (ea j).2
theorem C2 {aw} {var} {z iter} {bD} (i:PE U z) (j:PE U iter) (k:PQ U bD) {K} {x} {g} {s} (G:Good U K F) {P:List Comprehension->Prop}
 (h:wn K aw var (nG U.T z) (nG U.T iter) (cT U.T bD) x g s=true)
 (q:∀(p) (it) (ifs) (C:cR F aw var s (K.cn aw)),j8 it=true->Ok F (λρ=>aY U.sc U.gl U.ct U.cl ρ iter) (eval it F.env)->
   (∀cl A (y:cU F.env.cells s.names []=some cl) (nf:¬Fa F.env A),bU (C.fx y nf) (λρ=>mZ U.sc U.gl U.ct U.cl ρ bD) (ja ifs (compEnvC s cl A F.env)))->
   (∀cl A (y:cU F.env.cells s.names []=some cl) (nf:¬Fa F.env A),Ok (C.fx y nf) (λρ=>aY U.sc U.gl U.ct U.cl ρ z) (eval x (compEnvC s cl A F.env)))->P [⟨.Name var p,it,ifs,0⟩]):P g:=by
 have hp:=aa (ea h).1;refine Ey (ea h).2 λp it ifs h=> ?_;obtain ⟨h,D⟩:=ea h;have h:=ea h;exact q p it ifs (G.AJ hp) (ea h.1).1 (j K F it G (ea h.1).2).1 (λcl A y nf=>k.c _ _ ifs (G.comp hp y nf) D) λcl A y nf=>(i _ _ x (G.comp hp y nf) h.2).1
theorem Di {aw} {var} {y iter:X} {bD:Xs} (i:PE U y) (j:PE U iter) (k:PQ U bD):PE U (.comp aw var y iter bD):=λK F e G h=>z_ (P:=λe=>aT F _ e) h λx g s p h=>
 C2 i j k (P:=λg=>aT F _ (.ListComp _ g _ _)) G h λp it ifs C z A D E=>both (λ_=>rfl) (Pb C z A D E)
theorem yA:PQ U .nil where
 nil:=λ_=>rfl
 xs:=λK F es p G h=>by rw [show es= [] from k4.mp h];exact ⟨(λ_ K q=>spliced_nil (Po.fin q K [] rfl)),rfl,rfl⟩
 an:=λK F es p G h=>⟨λ_ _ q=>q.elim,λ_ _ q=>q.elim⟩
 or:=λK F es p G h=>⟨λ_ _ q=>q.elim,λ_ _ q=>q.elim⟩
 c:=λK F es G h=>by rw [show es= [] from k4.mp h];exact λ_ K q=>wpAny_tests_nil (Po.fin (a:=true) q K)
 d:=λK F ks vs p G h=>by rw [show ks= [] from k4.mp (ea h).1,show vs= [] from k4.mp (ea h).2];exact ⟨(λ_ K q=>evalPairs_nil (Po.fin q K [] [] rfl rfl)),rfl,rfl,λh=>dv rfl h⟩
 d':=λK F e ks vs p f G hf h=>(bB h).elim
theorem ph {x} {r} {K} {es} {P:List Expr->Prop} (h:(cT U.T (.cons x r)).xs K es=true) (k:∀e es,notStar e=true->aW U.T x K e=true->(cT U.T r).xs K es=true->P (e::es)):P es:=by
 induction es with|nil=>exact (bB h).elim|cons e es=>have h:(notStar e&&aW U.T x K e&&(cT U.T r).xs K es)=true:=h;exact k e es (ea (ea h).1).1 (ea (ea h).1).2 (ea h).2
theorem zb {x} {r:Xs} (i:PE U x) (j:PQ U r):PQ U (.cons x r) where
 nil:=λh=>(bB h).elim
 xs:=λK F es p G h=>ph (P:=λes=>iO F _ (backTo p (starEach es F.env))/\NS F.env p es) h λe es E t k=>by
  have a:=j.xs K F es p G k;have z:backTo p (starEach (e::es) F.env)=(false,eval e F.env)::backTo p (starEach es F.env):=by rw [Bn E];rfl
  exact ⟨z▸Q1 (i K F e G t).1 a.1,z▸a.2.no,z▸a.2.al⟩
 an:=λK F es p G h=>ph (P:=λes=>aT F _ (.BoolOp .And es p)) h λe es _ t k=>by
  have A:=i K F e G t;cases r with|nil=>rw [show es= [] from k4.mp k];exact ⟨λD K q=>BoolOp_one (A.1 D K q),HT A.2⟩|cons y r=>have B:=j.an K F es p G k;exact ph (P:=λes=>aT F (λρ=>qj U.sc U.gl U.ct U.cl ρ (.cons y r)) (.BoolOp .And es p)->aT F _ (.BoolOp .And (e::es) p)) k (λI es _ _ _ B=>⟨Fe A.1 B.1,DT A.2 B.2⟩) B
 or:=λK F es p G h=>ph (P:=λes=>aT F _ (.BoolOp .Or es p)) h λe es _ t k=>by
  have A:=i K F e G t;cases r with|nil=>rw [show es= [] from k4.mp k];exact ⟨λD K q=>BoolOp_one (A.1 D K q),Kw A.2⟩|cons y r=>have B:=j.or K F es p G k;exact ph (P:=λes=>aT F (λρ=>qk U.sc U.gl U.ct U.cl ρ (.cons y r)) (.BoolOp .Or es p)->aT F _ (.BoolOp .Or (e::es) p)) k (λI es _ _ _ B=>⟨Dh A.1 B.1,NM A.2 B.2⟩) B
 c:=λK F es G h=>gy (f:=λe=>(cT U.T r).nil&&aW U.T x K e) (P:=λes=>bU F (λρ=>mZ U.sc U.gl U.ct U.cl ρ (.cons x r)) (ja es F.env)) h λe h=>by rw [j.nil (ea h).1];exact FJ (i K F e G (ea h).2).2
 d:=λK F ks vs p G h=>by
  induction ks with|nil=>exact (bB h).elim|cons o ks=>refine oJ (f:=λe=>aW U.T x K e&&(cT U.T r).d' K ks vs) (P:=λo=>mN F _ (pairTrees (o::ks) vs F.env p)/\(o::ks).all (·.isSome)=true/\_/\_) h λe h=> ?_;have a:=j.d' K F e ks vs p _ G (i K F e G (ea h).1).1 (ea h).2;exact ⟨a.1,a.2.1,a.2.2,λ_=>nofun⟩
 d':=λK F e ks vs p f G hf h=>by
  induction vs with|nil=>exact (bB h).elim|cons v vs=>have h:(aW U.T x K v&&(cT U.T r).d K ks vs)=true:=h;have a:=j.d K F ks vs p G (ea h).2;exact ⟨Hi hf (i K F v G (ea h).1).1 a.1,a.2.1,ej Nat.succ a.2.2.1⟩
theorem fz (x):PE U x:=X.rec (motive_1:=PE U) (motive_2:=PQ U) Mq FE I6 (λ_=>I2) (λ_=>Ke) (λ_=>Km) (λ_=>Lb) (λ_=>Jq) (λ_=>Gc) (λ_=>Mv) (λ_ _ _=>H9) (λ_ _ _=>EV) (λ_ _=>Jx) (λ_ _ _=>Mw)
 (λ_ _ _ _ _=>Rb) (λ_ _=>ME) (λ_ _=>N3) (λ_ _=>Ge) (λ_ _=>Rf) (λ_ _=>HF) (λ_=>MW) (λ_ _=>MN) (λ_ _=>Mn) (λ_ _ _=>Fc) (λ_ _=>MB) (λ_ _ _ _ _=>Di) yA (λ_ _=>zb) x
end
end Mine
namespace Mine
open PySem Calls SeqAt PyProof.Rows W
noncomputable def AS (e:X) (f:List Nat->Str->X->X->Xs->Bool):Bool:=by
 cases e with|comp a b c d r=>exact f a b c d r|_=>exact false
theorem FU {e} {f} {P:X->Prop} (H:AS e f=true) (K:∀a b c d r,f a b c d r=true->P (.comp a b c d r)):P e:=by
 cases e with|comp a b c d r=>exact K a b c d r H|_=>exact nf H
def qd (K:Ck) (l:List Expr):List Nat->Bool:=List.rec (λis=>is.isEmpty) (λe _ j is=>isName e λn _=>List.casesOn is false λi is=>K.names[i]? ==some n&&j is) l
structure CS where
 f:Ck->Stmt->Bool
 l:Ck->List Stmt->Bool
section
variable (T:Tb)
def BC (e:X) (K:Ck) (n:Str) (p2:Pos) (x:Expr):Bool:=fJ x&&aW T e K x||AS e λaw var t iter bD=>uI x λy g s p=>wn K aw var (nG T t) (nG T iter) (cT T bD) y g s&&
 (K.kd.lookup n==some .local&&(p2.line==p.line&& !(s.names.any λ(m,k)=>m==n&&(k== .local||k== .cell))))
noncomputable def fW:Ck->List Stmt->Bool:=λ_ l=>l.isEmpty
def BJ (x:S):CS:=S.rec (motive_1:=λ_=>CS) (motive_2:=λ_=>Ck->List Stmt->Bool)
 (λe=>⟨λK s=>zx s λx _=>fJ x&&aW T e K x,fW⟩)
 (λi e=>⟨λK s=>o_ s λt x _=>one t λt=>isName t λn p2=>K.names[i]? ==some n&&BC T e K n p2 x,fW⟩)
 (λo n e=>⟨λK s=>o_ s λt x _=>one t λt=>mY t λy m _=>m==T.nm n&&decide (n<T.nn)&&fJ x&&aW T o K y&&aW T e K x,fW⟩)
 (λo i e=>⟨λK s=>o_ s λt x _=>one t λt=>lY t λy j _=>fJ x&&aW T o K y&&aW T i K j&&aW T e K x,fW⟩)
 (λis e=>⟨λK s=>o_ s λt x _=>one t λt=>my t λl _ _=>qd K l is&&fJ x&&vX x&&aW T e K x,fW⟩)
 (λi op e=>⟨λK s=>CH s λt o x _=>o== .Add&&isName t λn _=>decide (op= .add)&&K.names[i]? ==some n&&aW T e K x,fW⟩)
 (λe=>⟨λK s=>Bp s λo _=>o.any λx=>aW T e K x,fW⟩)
 (λc _ _ a b=>⟨λK s=>BR s λt x y _=>aW T c K t&&a K x&&b K y,fW⟩)
 (λc _ b=>⟨λK s=>yt s λt x y _=>y.isEmpty&&aW T c K t&&b K x,fW⟩)
 (λis tup e _ b=>⟨λK s=>BP s λt i x y _=>y.isEmpty&&j8 i&&aW T e K i&&b K x&&if tup then my t λl _ _=>qd K l is else isName t λn _=>one is λi=>K.names[i]? ==some n,fW⟩)
 ⟨λK s=>zB s λ_=>true,fW⟩
 ⟨λK s=>yV s λ_=>true,fW⟩
 ⟨λK s=>true,fW⟩
 (λ_ b=>⟨λK s=>xC s λy k z A _=> !k.isEmpty&&z.isEmpty&&A.isEmpty&&b K y,b⟩)
 fW
 (λ_ _ x r K l=>List.casesOn l false λs l=>x.f K s&&r K l) x
def M_ (x:S):Ck->Stmt->Bool:=(BJ T x).f
def jZ (l:Ss):Ck->List Stmt->Bool:=(BJ T (.try l)).l
end
theorem Cv {K}:∀{l} {is},qd K l is=true->∃ns:List (Str×Pos),l=(ns.map λ(n,p)=>Expr.Name n p)/\is.map (K.names[·]?)=ns.map λx=>some x.1:=by
 intro j;induction j with|nil=>intro is h;exact ⟨[],rfl,by rw [show is= [] from k4.mp h];rfl⟩|cons e l k=>
  intro is h;exact iL (P:=λe=>∃ns:List (Str×Pos),e::l=(ns.map λ(n,p)=>Expr.Name n p)/\is.map (K.names[·]?)=ns.map λx=>some x.1) h λn p h=>by
   induction is with|nil=>exact (bB h).elim|cons i is=>obtain ⟨ns,t,y⟩:=k (ea h).2;exact ⟨(n,p)::ns,by rw [t];rfl,by rw [HG,y,g7.mp (ea h).1];rfl⟩
def gF (U:Su) (x:S):Prop:=∀K F s,Good U K F->M_ U.T x K s=true->a_ F (λρ=>iM U.sc U.gl U.ct U.cl x ρ) (exec s F.env)
def iU (U:Su) (l:Ss):Prop:=∀K F es,Good U K F->jZ U.T l K es=true->a_ F (λρ=>dF U.sc U.gl U.ct U.cl l ρ) (execs es F.env)
section
variable {U:Su}
theorem L' (e):gF U (.expr e):=λK F s G h=>Oc (F:=λx _=>fJ x&&aW U.T e K x) (P:=λs=>a_ F _ (exec s F.env)) h λx p h=>I' (ea h).1 (fz e K F x G (ea h).2).1
theorem Mx (i) (e:X):gF U (.asg i e):=λK F s G h=>rU (F:=λt x _=>one t λt=>isName t λn p2=>K.names[i]? ==some n&&BC U.T e K n p2 x) (P:=λs=>a_ F (λρ=>iM U.sc U.gl U.ct U.cl (.asg i e) ρ) (exec s F.env)) h λt x p h=>gy (P:=λt=>a_ F (λρ=>iM U.sc U.gl U.ct U.cl (.asg i e) ρ) (exec (.Assign t x p) F.env)) h λt h=>
 iL (P:=λt=>a_ F (λρ=>iM U.sc U.gl U.ct U.cl (.asg i e) ρ) (exec (.Assign [t] x p) F.env)) h λn p2 h=>by
  have A:=G.at (ea h).1;rcases (Kv _ _).mp (ea h).2 with h|h
  ·have B:a_ F (λρ=>ac (aY U.sc U.gl U.ct U.cl ρ e) λv=>Mine.ret (.next,gj ρ i v)) (exec (.Assign [.Name n p2] x p) F.env):=Mk A (ea h).1 (fz e K F x G (ea h).2).1;exact @B
  ·have D:a_ F (λρ=>iM U.sc U.gl U.ct U.cl (.asg i e) ρ) (exec (.Assign [.Name n p2] x p) F.env):=FU (P:=λe=>a_ F (λρ=>iM U.sc U.gl U.ct U.cl (.asg i e) ρ) (exec (.Assign [.Name n p2] x p) F.env)) h λaw var k iter bD h=>z_ (P:=λx=>a_ F (λρ=>iM U.sc U.gl U.ct U.cl (.asg i (.comp aw var k iter bD)) ρ) (exec (.Assign [_] x p) F.env)) h λy g s p h=>by
    obtain ⟨h,z⟩:=ea h;obtain ⟨z,E⟩:=ea z;exact C2 (fz k) (fz iter) ((Xs.ind (P:=PQ U) yA (λx _=>zb (fz x)) bD)) (P:=λg=>a_ F (λρ=>iM U.sc U.gl U.ct U.cl (.asg i (.comp aw var k iter bD)) ρ) (exec (.Assign [.Name n p2] (.ListComp y g s p) _) F.env)) G h λpx it ifs C a1 a2 I J=>
     Ez A ((G.kind n).trans (g7.mp z)) (ea E).1 ((AZ _).mp (ea E).2) C a1 a2 I J
   exact @D
theorem Qk (o) (n) (e):gF U (.n6 o n e):=λK F s G h=>rU (F:=λt x _=>one t λt=>mY t λy m _=>m==U.T.nm n&&decide (n<U.T.nn)&&fJ x&&aW U.T o K y&&aW U.T e K x) (P:=λs=>a_ F _ (exec s F.env)) h λt x p h=>gy (P:=λt=>a_ F _ (exec (.Assign t x p) F.env)) h λt h=>tJ (P:=λt=>a_ F _ (exec (.Assign [t] x p) F.env)) h λy m _ h=>by obtain ⟨h,j⟩:=ea h;obtain ⟨h,k⟩:=ea h;obtain ⟨h,z⟩:=ea h;rw [g7.mp (ea h).1,G.S.nm];exact Ng G.S.cls (G.S.nn▸aa (ea h).2) z (fz o K F y G k).1 (fz e K F x G j).1
theorem IY (o i e):gF U (.k6 o i e):=λK F s G h=>rU (F:=λt x _=>one t λt=>lY t λy j _=>fJ x&&aW U.T o K y&&aW U.T i K j&&aW U.T e K x) (P:=λs=>a_ F _ (exec s F.env)) h λt x p h=>gy (P:=λt=>a_ F _ (exec (.Assign t x p) F.env)) h λt h=>qt (P:=λt=>a_ F _ (exec (.Assign [t] x p) F.env)) h λy j _ h=>by obtain ⟨h,k⟩:=ea h;obtain ⟨h,z⟩:=ea h;exact Qz (ea h).1 (fz e K F x G k).1 (fz o K F y G (ea h).2).1 (fz i K F j G z).1
theorem Ll (is) (e:X):gF U (.sK is e):=λK F s G h=>rU (F:=λt x _=>one t λt=>my t λl _ _=>qd K l is&&fJ x&&vX x&&aW U.T e K x) (P:=λs=>a_ F _ (exec s F.env)) h λt x p h=>gy (P:=λt=>a_ F _ (exec (.Assign t x p) F.env)) h λt h=>uX (P:=λt=>a_ F _ (exec (.Assign [t] x p) F.env)) h λl _ _ h=>by obtain ⟨h,j⟩:=ea h;obtain ⟨h,k⟩:=ea h;obtain ⟨ns,y,z⟩:=Cv (ea h).1;rw [y];exact JX (G.names▸z) (ea h).2 k (fz e K F x G j).1
theorem G3 (i) (op) (e):gF U (.aug i op e):=λK F s G h=>ES (F:=λt o x _=>o== .Add&&isName t λn _=>decide (op= .add)&&K.names[i]? ==some n&&aW U.T e K x) (P:=λs=>a_ F _ (exec s F.env)) h λt o x p h=>iL (P:=λt=>a_ F _ (exec (.AugAssign t o x p) F.env)) (ea h).2 λn _ k=>by obtain ⟨j,y⟩:=ea k;rw [g7.mp (ea h).1,show op= .add from aa (ea j).1];exact L9 (G.at (ea j).2) (fz e K F x G y).1
theorem Le (e):gF U (.ret e):=λK F s G h=>IJ (F:=λo _=>o.any λx=>aW U.T e K x) (P:=λs=>a_ F _ (exec s F.env)) h λo p h=>oJ (P:=λo=>a_ F _ (exec (.Return o p) F.env)) h λx h=>MI (fz e K F x G h).1
theorem Hs {c} {a b} (i:iU U a) (j:iU U b):gF U (.ite c a b):=λK F s G h=>Iu (F:=λt x y _=>aW U.T c K t&&jZ U.T a K x&&jZ U.T b K y) (P:=λs=>a_ F _ (exec s F.env)) h λt x y p h=>by obtain ⟨h,k⟩:=ea h;exact FW (fz c K F t G (ea h).1).2 (i K F x G (ea h).2) (j K F y G k)
theorem Dn {c} {b} (j:iU U b):gF U (.rR c b):=λK F s G h=>Pp (F:=λt x y _=>y.isEmpty&&aW U.T c K t&&jZ U.T b K x) (P:=λs=>a_ F _ (exec s F.env)) h λt x y p h=>by obtain ⟨h,k⟩:=ea h;rw [k4.mp (ea h).1];exact Ft (fz c K F t G (ea h).2).2 (j K F x G k)
theorem HX {is} {tup} {e} {b:Ss} (j:iU U b):gF U (.for is tup e b):=λK F s G h=>Ml (F:=λt i x y _=>y.isEmpty&&j8 i&&aW U.T e K i&&jZ U.T b K x&&if tup then my t λl _ _=>qd K l is else isName t λn _=>one is λi=>K.names[i]? ==some n) (P:=λs=>a_ F _ (exec s F.env)) h λt i x y p h=>by
 obtain ⟨h,k⟩:=ea h;obtain ⟨h,z⟩:=ea h;obtain ⟨h,A⟩:=ea h;rw [k4.mp (ea h).1];refine IN (jn:=dN is tup) (ea h).2 (fz e K F i G A).1 ?_ (j K F x G z);induction tup with|false=>exact iL (P:=λt=>qz F (dN is false) t) k λn p h=>gy (P:=λis=>qz F (dN is false) (.Name n p)) h λi h=>λ_ K D e q=>wpAny_assign_Name (rG K (G.at h) D λc' g E=>q c' g (aP e▸E))|true=>refine uX (P:=λt=>qz F (dN is true) t) k λl _ _ h=> ?_;obtain ⟨ns,I,J⟩:=Cv h;rw [I];exact Cw (G.names▸J)
theorem Gf {b} (j:iU U b):gF U (.try b):=λK F s G h=>Gk (F:=λy k t z _=> !k.isEmpty&&t.isEmpty&&z.isEmpty&&jZ U.T b K y) (P:=λs=>a_ F _ (exec s F.env)) h λy k t z p h=>by
 obtain ⟨h,A⟩:=ea h;obtain ⟨h,D⟩:=ea h;rw [k4.mp D,k4.mp (ea h).2];induction k with|nil=>exact (bB (ea h).1).elim|cons E k=>exact J5 (j K F y G A)
theorem FV:iU U .nil:=λK F es G h=>by rw [show es= [] from k4.mp h];exact λ{_ _ _ _ ρ _} _ K q=>wpAny_execs_nil (PT.fin q K rfl)
theorem Qh {x} {r} (i:gF U x) (j:iU U r):iU U (.cons x r):=λK F es G h=>by
 induction es with|nil=>exact (bB h).elim|cons s es=>exact Gr (i K F s G (ea h).1) (j K F es G (ea h).2)
theorem MT (l):iU U l:=Ss.rec (motive_1:=gF U) (motive_2:=iU U) L' Mx Qk IY Ll G3 Le (λ_ _ _=>Hs) (λ_ _=>Dn) (λ_ _ _ _=>HX)
 (λK F s G h=>Dv (P:=λs=>a_ F _ (exec s F.env)) h λ_ _=>Nx) (λK F s G h=>Gy (P:=λs=>a_ F _ (exec s F.env)) h λ_ _=>HY) (λK F s G h=>λ_ _ q=>q.elim) (λ_=>Gf) FV (λ_ _=>Qh) l
end
end Mine
namespace Mine
open PySem Calls SeqAt PyProof.Rows W
abbrev MR (C:Cx) (T:Tb) (aB:Nat->Addr) (ft:Nat->FD) (slots:Nat->List Str):Prop:=∀f,(ft f).np<=20->∃fd body,ry C (aB f) (ft f) (slots f) fd body/\jZ T (ft f).body ⟨slots f,fd.scope.names⟩ body=true
structure zN (C:Cx) (T:Tb) (aB:Nat->Addr) (ft:Nat->FD) (slots:Nat->List Str):Prop where
 ok:MR C T aB ft slots
theorem D8 args:(Code.builtin "type.__call__" args).weight<=1/\(Code.builtin "type.__call__" args).cUnits<=8:=by
 have j:(Code.builtin "type.__call__" args).frames=0:=rfl;have k:(Code.builtin "type.__call__" args).isGuard=false:=by show guardIds.contains "type.__call__"=false;decide
 have t:(Code.builtin "type.__call__" args).isCaller=false:=by unfold Code.isCaller;split<;>first|rfl|simp_all
 constructor
 ·unfold Code.weight;rw [j,k,t]
  split<;>decide
 ·show 1+3*(Code.builtin "type.__call__" args).frames<=8;rw [j];decide
theorem Ej d:qq (Bu d) (sV d):=
 ⟨λA h=>⟨h.1,by have:=h.2.1;exact oo 0xc07cfe4ac1314001f3f91304c5002 this,by have:=h.2.2;exact oo 0x53886950781fa09384c25083 this⟩,
   λA args h=>by obtain ⟨j,k⟩:=D8 args;exact ⟨h.1,by show A.depth+_+2*d+2<=999;have:=h.2.1;exact oo 0x89298076a5610940e700d2ed14295c15003 this j,by show A.units+_+20*d+100<cLine;have:=h.2.2;exact oo 0x705018006ef3196142c8b196815084 this k⟩⟩
theorem IM {C} {T} {sc} {gl} {ct} {aB} {ft} {slots} (y:tU C T sc gl ct aB) (F:zN C T aB ft slots):
 ∀d,mM C (sV d) aB (cD sc gl ct ft d):=by
 intro d;induction d with|zero=>exact λ_ _ _ q=>q.elim|succ d z=>intro A c st f vs xs R D E t q;refine Po.ite q λj q=> ?_;obtain ⟨fd,body,K,k⟩:=F.ok f j.2;exact QN K (λL N=>MT (U:=⟨T,sc,gl,ct,cD sc gl ct ft d,aB,sV d⟩) (ft f).body ⟨slots f,fd.scope.names⟩ ⟨C,Bu d,um,callEnvC fd L (aB f),slots f,N⟩ body ⟨rfl,rfl,y,Ej d,@z⟩ k) D E t j.1 q
end Mine
namespace Mine
open PySem
variable {α β γ δ ε ζ R:Type}
def CG:bI Str R:=iP 22 ["bounds","ways","b","up","made","under","num","kt","y","T","z","ValueType","Enum","Array","Delegate","Nullable","t","U","x","j","c"] "n"
def Gs:bI X R:=Nat.rec (dm default) (λ_ x=>let y:=jo .nil .cons x
 eQ 8 (eQ 16 (Bm .q6 x (iP 8 [.eq,.ne,.isin,.lt,.gt,.le,.gA] .ge) x (iP 8 [.eq,.ne,.isin,.lt,.gt,.le,.gA] .ge) x) [cJ .lst y,bR .blt (iP 5 [.len,.tuple,.range,.list] .str) y,cJ .or y,cJ .neg x,cJ .and y,cJ .not x,cJ .mC y,gp .ite x x x,Bm .comp (jo [] .cons (gh 14)) (CG) x x y,bR .new (gh 5) y,bR .pg x x,bR .sp (iP 2 [true] false) x,cJ .sW x,bR .fF x x,bR .rep x x])
  [cJ .loc (gh 14),cJ .lit (eQ 5 (cJ .str CG) [cJ .int (iP 48 [0,1,2,3,69,8,64,65,6,67,9,5,73,75,70,13,74,68,72,4,71,66,76,12,18,7,81,77,11,10,27,243,1944,15552,31104,93312,6561,729,14,90,19,1000003,78132,10000,1950,20,101] 180),dm (.bool true),dm (.bool false),dm .none]),cJ .tup y,bR .fn (gh 103) y,bR .idx x x,gp .cmp (iP 8 [.eq,.ne,.isin,.lt,.gt,.le,.gA] .ge) x x,eQ 4 (gp .jf x (gh 48) y) [cJ .ju (gh 56),bR .kY x (gh 48),gp .bin (iP 7 [.add,.mod,.div,.sub,.mul,.and] .or) x x]]) 20
def G6:bI S R:=let x:=Gs
 Nat.rec (dm default) (λ_ s=>let b:=jo .nil .cons s
 eQ 13 (cJ .try b) [cJ .ret x,gp .ite x b b,bR .asg (gh 14) x,gp .n6 x (gh 48) x,cJ .expr x,tA .for (jo [] .cons (gh 14)) (iP 2 [true] false) x b,gp .k6 x x x,dm .stuck,bR .rR x b,gp .aug (gh 14) (iP 7 [.add,.mod,.div,.sub,.mul,.and] .or) x,dm .cont,bR .sK (jo [] .cons (gh 14)) x]) 9
noncomputable def GU (t x:α) (_:∀F:α->Prop,F t->F x):α:=x
def Ig:List FD:=GU (List.rec (motive:=λ_=>(List FD->List FD)->List FD) (λk=>k []) (λc _ f k=>gp .mk (gh 32) (gh 32) (jo .nil .cons G6) (λx _=>f λl=>k (x::l)) c) [0x1f7f9142b27bd191b8a7f6cb83d6313b66efbf112290c6c0547d423b8afdc25f69263c98d22a179f746c13782945dadd3b0409861,0x18e235e93a6a19336726c682c3bd16042,0x3aceffdf22a141e0176ad0bcc889e835e05f00f9c95eaf7bfd529ac5cb87eff5939ecebc4283fdd0a50236ba52e4a7d3a3da8834ce88802c03d76113bee891d8c52e47a22cff63407150a4c0e68b96b18a1480e37d62d53bdca94acfddb268766eab507f336351013d04b10908ddeba235a9f8122,0xa9fa73717b5a29cbab646628ae2e62d885915a919ae19f13b25091b822cea3d1213975455d9e61da8d12d055e8233ff3841,0x36311a664326f34fadb4534b042116021,0x8bbe5bff6f7c0e91f67f608a4534b042116021,0xd026af1b5d46b305141a15be0a41ee4e56227908d04627ec7d6d0dd30208f2b6c9fabadc42fb97f20270482093a86b19d2739597d94cc850d182074d87b09ebf7bbbf91760669cb3164c939a97338e03462004f3a582351a3d74b6cf58245f8865e4fb095df722deeb188116082,0x10a5e9056d1682a475b9ce16d4e3919fa516042,0x7dfaddb6c2fc6cfe862,0xeac56efe281f07904a0ddc824f4c17f3dbb689416039c8512116062,0xcb66daccdf8b8db5ef68aaa5ad189063,0xcb66db76e48c7175ef68aaa5ad189063,0x3628be691802eb1951042,0x5c65bdd373c3042,0x5c66465373c3042,0x5c668a9373c3042,0x5c66ced373c3042,0x700feeec632042,0x2ec0c17d53a74b6827ff505b6857125e1e23638863fddc341fe1cecb2d9dab8062,0x12cd309fa412b33dfd047fc127f0e1ecf04d80b755d5e33475daa83c8b47981b9cbe1cecb2d9dab8062,0x9a293abab65d6d728b47981b9cbe1cecb2d9dab8062,0x3ec8cf705da0ec94120d56dfc83f3ee57e042,0x169623386b8658e45e978114498091ead685c8c008b5a3f9a3ad9512116062,0x279ed84170f4bcc6c185510ed6ca062,0xd38841b7b7a2105eb0ba839db4b616d71d8c5084,0x1032a25247ee92fe111bed8c148523f41a97e58ffe120d71190a069294e7ee46ed3756143c485f6d50ddb55d0f497fbdebc05473a967c6d72d68c1024e70c418003fabca1105,0x2fbd853d5efa3054cfb4f36ac115d2ed6ab3678057c4a1fb7b4a7c04f712991a47d371c6cc574e39e62f5c31d8005869ac3e82356c0883,0x32c29c0eb1ecb0ecdd9ef733d2587ab6af9ea7d622d1340970db29adb0dd6622b405db063a1cc0042,0x1928b0e7b7082ab7bd063,0xa656fb45d3acd8293701dc94f1982180c4,0x1135c305b42c14db38e03965f7dcff8430028e2240e71538614a684ff280ffc66231c9383da1004d4b840f5598878687758b0624a7ccfc4aac7f596778ece75d841eff3dfd6361cac89d74d298b7eb9b071928,0x397ce6186cec569c3ec89398a885ff8cefb7df33a05b9eb1f9821,0x5bbc32b737972c0d7edfff85353aae5455de0518580a96403b23cfda37497fa9fe6f43e76ecd4d0bcbe65c40f35fa318e89c7b815b9578a64f566ff5844a3aa12a22258c54930a2,0xa262ab75f6442d0a26e85c388d0a0c08e618531811a386ea0ebaefac69caf5d121042,0x8de03c1c42daa1aebb51a31e598b88421042,0xba8349687f6d2a3dcc47f3509849acbe24e068965011fe668b82e8b41f6c046bc53ddce995320b2bcbf2f7bd127,0xc53c0d4f1f12a5e9e0a5,0x535e7c7a2a5e9e084,0x204b6c3ca93231af2e67ea6a28950883,0xaf252198978b074ff756cf3f0485bf17f9fb102087062,0xe78c58e3d47fc29a7e0c40653f41de93abfcef681231d68893c8714cae529015c2c84ef9b5d5acb03fabd9628bc07ec3ea7c6c22b5efbfe4aa89ca24f7c8a76ab2b36242358a5c7b1e6248a03863e47ef79757dd7080a2,0x1f80b763d3f672099d0dd51c7e0003fd675fc83f3ee57e042,0x4f11e2dcce41fb23ad262413685446dc7fe7bce74c5020a210fcff1f39ea5beeffb91c85cdfb97080a2,0x19d8347ea48dad4dbf3939acc7540fa346665a3489d13bb4b9f2a7c125c98b042e180874a064b287a98f1f2f5f879b64a89d20b0e2,0x5974d4ae7f87a553cca3e5ea625e383e1c93e2337b5a0b8cd16bba667d54fae79c91a8347fe9d09cc6e157e6a33f862,0x7de2d73ab0885d3037b00652c3ddb0e0fec8786844f85b21f6d0fe8aaaf26e157e6a33f862,0x4ca94b64e3600fc0655bb756017d842,0xbeba7bbfd7c7a04fd6b83db89f0e7a5663b36cb3ccefcf3d20b082,0xb95800be44b293d9b67b6daa4b8619163d20b0a2,0x856a0757a051664caf5732c46e50003005f6446d6f977f30e96edf543eb0f380e4,0xce2d5c81c558682517835df6ede5c15842,0x10c39cae8a53ecc480b8062,0xea72acc41e9fa59ae76e2017d842,0x25b6ae385f984ebc956750d39064222f7b2a217bc548fbdca55db03ea64eb4979842,0x59d41fbebaaad6a0026e6eacf62958251f2ce6ede9016042,0x59d41fbeda468e3d3f997319ff0958251f2ce6ede9016042,0x5c2ec036ed0745e280c80d967062,0x1278fa4a613842,0x1278fa4a5df842,0x5581352974e6a0b502c2d1a278b484a2ff207d2b57d8c42abde2c75bb75635062,0xa7bc4d08d452a4abc1b3c34d6343b179726c682c42516042,0xa5a875b89cc87ca5bbb0a2f646daa35d641de978cfbbce3b0c7194061ac2fda6cbb04e0badeb40a789d3d3242342f47b9da4a51b8cb5a63a70b64130922327bc5d2e2a4c6b18e4,0x25f4d725b65b966b453ba02c2da081d2346247c572da1e5ac9113ae7a28318edb7d89ed8f650f5ec875e4e15c5d5c71eec063f1def5b4bd7080a2,0xd13a8a0663f548b9f69df9e4ced8b2b8e895f8e469f1def5b4bd708062,0x3e3ba29d7de76da282fb70e49842,0x276d69beef5af863,0x27b37e40ef5af863,0x7c69a40887eee41e0f8849d67c55fefaa68328a300a4,0xda44f0f1ae474504e7310be89ab045857900c5ca5d36a4994af683d719298a3,0xd072c778b03f6e4c9971b2b08dd4d0fbe68dcb926e206edf38a49697d2fe2cd569082,0x7d1d3a58713a44acc641063,0x16a1b4406884458dccd3507f9421308cee728666a380010e720640f9b8a1ea22b21583d5dc9301befb63a6d6dc515f7b24ae0c9445c4ae47b4b4d0cf709751b0841a3cb217b40361ad210a4,0x3798083aa091b13d78e396d198e311fb93d39bb0209aced5a378c2108c6e238ad8b7a0511afe1631754503f2f63ed21b7ab08baa843bb4a35336818665016a6204c55326dc462754fe2ee9e5cd8f77ca62c925957150c4,0xcc1a6ec57d84b14c28cf8d21fb49d22f6a1a0350b303a3726e77816063806674ba151727eabc121259900ddc217e0c4,0x13b5d8c916fd936b2e1d3bdbb3f2701023a81940d6289b2812e4627e676809a826521cfa892620f8435b3d408daa4fb7db7c5d724d866a90cbf475093aced009eace82e3864a64d28fd4c1f930b7d65ee7a95c3d5eda7ed4b6f70a95c8a6a132c1a8727b40361ad21164,0x103e04ee163134f67934e987554bd0d0d4c64abfd65c0b1148792752b39c875d5db321f2758436d3a9700cf57150a4,0x166d7c832999539af886bea423c7313f53efdcd67eb09c5cc1ad21084,0x51872f32f19fc50727dba6edfb9e48bd16e706cf56ff8b2a049bd02b5f05581dfbab6372e145cd16f5550cb2269a5af48e570e8a3,0x4b6e86741fd88b766e1272561f77db49ff8c46ea542ffd7b875bf32195e2116083,0x2229e58996d743e9628d2ee12d75c4affebfe5b3d5b70915821,0xc5327dbf518be5db6d57d821,0x2eee9ed554bba3813569d0caa9c02323c33a075061251cb893ff52468af6e4fa084223d6312e16bf18bfde8f4b6af807932b471c585d2aa4ae18ef54198d5399e03b276efc8de536214650327d597bfe6590a2,0x101f32ce4d975fcf05a38edc1773173c6228f7eca4e9812a5507c1641daaadb6a1042,0x3480fd2d050c733ea57b161b7fd27d606b668fa28ceb0b2ea944f029fff31a30b18e22b4ab154223e8b7727400ab0115c98efd5824c134c702ea4d5e96c6adb48a69f1548b636a8b0e2,0x91a7cd1a5ea0f19917dd42bb3a85b9998d409ff9898e27ab0620217cbd10edbf40a0b0a2,0x29b44c3d7261dae09e2a9bad271106606b03c10a11fe60dd34ecb23268b786fc42108be5e1ed5042,0xca0e468d405f35bdd57d78f69404e2ca2aea56316b49dfa90055b00f950842,0x13cd0cfc74cc67907f787972c071430d8b660dc46a7580ba0588508f3de6f28831842,0x17909b0cf75aa1ef646a3eb13f80b2e277a08e9c5388e9f7b7c40256e160fcaa87db4acf20a5,0x13610aad7cbcd7d914627bad34446607c661dcf126d62e29a7af4ed22969ff05ae423bf1cb056676df7975ce877032256d3f4d04aa4abcd093819ef398e47430bd7af4aa61ed516105,0x9c606d4b6b8d88fa8ccb0c4c0d0b56742592990090612cf7d9b2c3cdb73a6afe8ed83dd7f4d2cc6ae00ecb92be7711fb56cf07ebfb57d3200884a8dc56feadf5bbce10f89cb5ed63b172dd811ea1503a93aa3dfcb679b5f24ed9c7b0c7b3735bfa84480a4b0928dd91668b322ed092655287651e2091aa6de0e227ad21160c5,0x1f5c59c169056faec70475a81f88947052a5e86f644b3db66f9f735ee1ea1063,0x21900749471e0a869f2c02562a55b388317cb9b3fe30da52f8f4d66b13c1312d27509ec1fa52ac7dbcb059b2374082,0x119c8e4c4b763fee2336fb5ce2f72d5985396f737265a6043f5b2fb14a4ff728ac826fa534f37aef0e2db4b0356936eb4da2e14e352ee2751d6896406a9f133e5340229c331229a1493791fe72ce429c266e143c76cc3facdcaccfcf9ffeddccb77a7d3140f3564fa52416a7309daa06875315b43336df663224622d40a6b0d7b56f236ff088b2608666e9569678ff72a09699e169a7daa8848342d1bf2127bc3f90e50df3e077c3d34a1b9fe3e1d6d8730541dbfd3b567a5ab8a995416bc1cd389db0b9e5b09216b7ff27b0bb35199f947d9fd7ccf53a8091b74dd27ee9ef2106eceb6577f23a49a7a6c3ffde4e901358b20300fc633f78f747a8c3,0x21f0e7f495cd2ab49f80a5c15e566dc51ede15837104466c7dac28e43167463fd6462cc74deefee1c74f4e0f5cd6f37390e94f6e9c5af7f6269208dca02d4a5bc4b552310daebffd961a5face9afda70a589db0bee6f66deb13e36c62abbd00c5328b5f5a5276b537b6cadfa4e8368c686e12e67dbe49f60ccf6e9a5fadb30f751371796ebd7912bfa1aa806aa2ee2b1da884c99ccd2475927d67d0e4a74fe3216240af86cde28bd655a9b01ab550c419f5570ae797472f31d085f46c2cb8f6c8ac3f1b3a7eb833f5c72f01f5e327838f6ef40905922,0x50a74301d6c6ba8f9363f375a9717b8252ce08889f04e4728de7865423a31d7bf8564ada5adacc08b9a29b0dcc4f121a307df02564291397550b233445cf13f41fd53d9fbc9d92366174b83fd7b24b889c54e7fa0a3a8c78f9320cc0b6ff0f0ee57ad4d06f174777abceb86aa44ac656683c5765eb31bd04888e330d144,0x9944b75e4846737dbb6c1e73f6aecc555b47e9b931976038e89f84d84dd57b3469d7a3e47616038aa38e2f3b5bffb33d87304903,0x5944db4a4fd26a25b7f01f9a4df70550babc431f7ff1de1b5c53d5335d375d36dec2c824d9399e29e9e65d35b9ca67d8adf00f8c7ab5ee933d4db31fe639393d663285de45d42f70b395edbc18e6eab87c58e183678a06c3c73aa641fd0d25101ffb593b485d2fd162cb719edd3ad8125cbb9f72cafac650ef1ba849e848f3d9337aaa28f3d9e67a4df2374122,0x31bb7b80c4058398ccdf96d51d2c62909aaf03c9e0d9ab3f22e9b7ac9bdddc8fa056ed606a07397eda6201a63b5fbbde8bf39911087172d00305dec282051986299bacd563695d2c86fcd17310deef767701348fd9257d06cfaba0a90148ee28b9cea73cc723740a2,0x396fb7556ee7dea7e87674e290bf23cbe40d9fa4287a52c1d5e67a6e8ef9537690a922c808843cae5952eda56bd09745e49a5167a4ed3988cd9a500ffce2397daa6cc4d8a074b96ecab0a62ffce0830fbe706a7f4a398d1e0fbb02b0134719dda6f87c359945c6353129451c739eea074b54335abbad2ffdace1456fa6bc961d84d15b7a648b4032758ac7fd9e06cce186e5bddc7c5a7dfa2751d70143ffa85c7201adb070c67ac9f0dde55fb62530fe85d78a7a1bfa8b0153b248cb8a55bab4e43013708948c57c8a0cd971a5e3d5d2fcc0936710d5b09370da856bbfcbe5ef615aee4a4503ede64de906879877262374122,0x1b0e09242cbb1fa90d78faa2a23b60d866ec03f685d007a15fc5ca18215da2a7404b05c90efcd18a33cc278e3d60fc3810b0ceffcde42fbee9c180457c958d33edfdd43c141714f4d293254a8e78a945,0x1095587f8bd529ad403c8471153485cf755fbc784d0b3155982d488c20746925783c06d1d20f12c8b4a6fee8b88ba9c51bd1a13213ed770ce96b3901131c00d4a8e78a925,0x3d91c4967b0aaf557155d41ee7cec78ad1c4397c4b6bfecd8cc9c544fc59ae35467fca892f14caacaf225fc5dc735f8d4d38db817ce8b0ae461b576d41ac5095f92e2aba37fcb6918631bf706182ecf1b53b0edce0bc3749dc1289e11f17dcbb28b2b23d4c051478c6ea70afff3f4a2060d0c3d749afda5fe09010271d7ee13dc084a31d7885d117d06675ca0890953c524f63ed3881d2bfa3fa8b0ad609563623e8fd76096056f9090b0108df569315851d8b2060a90fb4bedf6f87db966137f95fac57d3984b22f2005249dc0eebb0efca252ccb507c5fe3437b01aaada86f22fc011f5c731d393c84e2b209c49c1] id) _ λF h=>by
 conv at h=>arg 1;whnf
 exact h
def ft:Nat->FD:=kg ⟨100,0,.nil⟩ Ig
def bo (n:Nat):Ss:=(ft n).body
def gl:Nat->V:=kg (.none) [.int 0,.int 1,.int 2,.int 3,.int 4,.int 5,.int 6,.int 7,.int 8,.int 9,.int 10,.int 11,.int 12,.int 13,.int 14,.int 16,.int 1,.int 2,.int 3,.int 4,.int 5,.int 6,.int 7,.int 8,.int 9,.int 10,.int 11,.int 24,.int 4096,.tab 0,.tab 1,.int 5,.int 8,.int 1,.int 2,.int 3,.int 4,.int 5,.int 1,.int 2,.int 0,.int 2,.int 1,.int 2,.int 1,.int 2,.int 3,.int 5,.int 6,.int 8,(.tup [.int 1,.int 2,.int 3]),.tab 2,.int 512,(.tup [.int 0,.int 12]),(.tup [(.int (-2)),.int 0]),(.tup [(.int (-2)),.int 1])]
noncomputable def ct:Nat->CD
 |0=>⟨0,[(8,1),(9,2)]⟩|1=>⟨30,[]⟩|2=>⟨31,[]⟩|3=>⟨53,[(14,54),(36,55),(12,56),(47,57),(23,58)]⟩|4=>⟨64,[]⟩|_=>⟨0,[(8,1),(9,2)]⟩
noncomputable def dr (n:Nat) (b:Ss):Ss:=Nat.rec b (λ_ r=>Ss.casesOn r .nil λ_ r=>r) n
noncomputable def bd (b:Ss):Ss:=Ss.casesOn b .nil λs _=>S.casesOn s (λ_=> .nil) (λ_ _=> .nil) (λ_ _ _=> .nil) (λ_ _ _=> .nil) (λ_ _=> .nil) (λ_ _ _=> .nil) (λ_=> .nil) (λ_ a _=>a) (λ_ b=>b) (λ_ _ _ b=>b) .nil .nil .nil λb=>b
noncomputable def be (b:Ss):Ss:=Ss.casesOn b .nil λs _=>S.casesOn s (λ_=> .nil) (λ_ _=> .nil) (λ_ _ _=> .nil) (λ_ _ _=> .nil) (λ_ _=> .nil) (λ_ _ _=> .nil) (λ_=> .nil) (λ_ _ b=>b) (λ_ _=> .nil) (λ_ _ _ _=> .nil) .nil .nil .nil λ_=> .nil
end Mine
namespace Mine
open PySem PySem.W
noncomputable def zu:List Str:= ["append","pop","get","rows","index","depths","weights","opens","row","put","tid","name","sort","flags","base","ifaces","params","variances","bounds","fields","methods","asm","cctor","under","impls","props","events","finaliser","home","kt","types","fields_","names","asms","entry","gflags","ifaces_at","bases","sorts","unders","news","store","gbounds","strict","pairs","listed","proved","variance"].map Str.ofString
def l_ (n:Nat):List Str:=(kg [] [["self","number","row"],["self","k"],["self","row","found","depth","weight","opened","level","inner","k"],["row","sort"],["sort"],["sort"],["kt","row","sort","inner"],["kt","row"],["kt","args","arg"],["kt","k","sort"],["kt","tid","args"],["kt","tid","args"],["tid","args"],["kt","elem"],["kt","i"],["kt","i"],["kt","k"],["kt","k"],["kt","k","row"],["kt","k","row"],["kt","k","row"],["kt","k"],["kt","k","sort"],["kt","k","sort"],["kt","k","targs","margs"],["kt","k","targs","margs","seen","row","inner","part"],["kt","row","inner","sort"],["kt","k"],["args","place","k"],["kt","ks","targs","margs","out","k"],["self","tid","name","sort","flags","base","params","asm","word"],["self"],["store","row","base","shell","place"],["store","sort"],["sort","flags"],["store","asm","name","sort","flags","base","params","tid","key"],["store","tid","i","flags","kinds"],["store","tid","i","va"],["store","tid","kind","t"],["store","k","tid"],["store","k","kt","sort","t"],["store","k"],["store","k","kt","sort","t"],["host","k","out","seen","todo","b","inner"],["host","k","b"],["host","k","b"],["host","k"],["host","k","out","seen"],["host","k","found","seen","at"],["host","kinds","found","seen","todo","k","inner"],["host","k"],["host","k","under"],["kt","k"],["self","store"],["self","k"],["self","k"],["self","k","t"],["self","tid"],["self","k"],["store","k","t"],["store","tid"],["host","store","tid","mid","place","flags","kinds"],["host","k","kt","best","b"],["host","k","kt"],["self","strict"],["host","s","t"],["host","s","t"],["host","s","t","strict","book"],["host","s","t","book","count"],["host","book","at","pair"],["host","pair","book"],["host","s","t","book","kt"],["host","s","t","book","kt","at"],["host","k","t","book","b","at"],["host","s","t","book","kt","ways","have","want","i","way","pair"],["host","s","t","book","kt"],["host","s","t","book"],["host","exact","t","kt","args"],["host","exact","t","at"],["x"],["x"],["w","x","kt","k","inner"],["x","args"],["w","x","out","i","y","above","z"],["w","x","out","b","z"],["w","x"],["w","x"],["w","x"],["w","s","t","mode","road"],["w","u","t","mode","road","i","way","pair"],["w","s","t","mode","road","u"],["w","x","t"],["x","d","a","b"],["w","a","b","i","more","up"],["w","store","row","sorts","place","count","base","tid","x"],["w","store","host","c","flag","a","first","second","place","row"],["w","place","args","flag","kinds","c","k","z"],["w","m","a","some","out","place","tries","k","fit"],["u","m","a","refs","place"],["w","n","a","t","y","x","ups","u","aims"],["w","host","x","t","let","s","k","want","had","got"],["w","host","x","t","m","s","k","let","args"],["script","nums","size","store","host","w","e","v","num","twin","x","t","j","c"]] n).map Str.ofString
def C' (n:Nat):Str:=Str.ofString (kg "" ["KindTable.__init__","KindTable.row","KindTable.put","inner_kinds","row_level","row_length","check_kind_row","check_named","check_args","may_stand","class_kind","value_kind","prim_kind","array_kind","var_kind","mvar_kind","boxed_kind","kind_sort","elem_of","tid_of","args_of","is_value","is_ref","is_var","close","close_in","with_inner","box_of","pick_arg","close_all","TypeDef.__init__","Store.__init__","put_shell","usual_base","sort_flags","add_type","set_bounds","set_variance","add_iface","type_of","base_of","base_of_prim","ifaces_of","bound_kinds","param_is_value","surely_class","is_iface","base_chain","all_ifaces","add_ifaces","stands_for_ref","reduced","is_nullable","StoreHost.__init__","StoreHost.base","StoreHost.ifaces_at","StoreHost.sort","StoreHost.variance","StoreHost.under","store_under","store_variance","set_context","loose_base","loose_ifaces","Book.__init__","ref_assignable","source_assignable","assign_settled","var_same","settle_book","has_proof","assign_within","assign_look","param_within","var_within","inner_within","elems_within","instance_of","box_goes","_law_value","_law_ref","_law_kind","_law_close","_law_ups","_law_bound","_law_classed","_law_valued","_law_signed","_law_inner","_law_like","_law_goes","_law_is","_law_face","_law_world","_law_store","_law_context","_law_meets","_law_args","_law_bent","_law_pair","_law_closed","_law_asked","law"] n)
def xx (n:Nat):Str:=Str.ofString (kg "KindTable" ["KindTable","TypeDef","Store","StoreHost","Book"] n)
def rr (n:Nat):Str:=Str.ofString (kg "" ["VOID","BOOL","CHAR","I1","U1","I2","U2","I4","U4","I8","U8","NINT","OBJECT","STRING","NULLK","PRIM_END","R_PRIM","R_CLASS","R_VALUE","R_ARRAY","R_BYREF","R_VAR","R_MVAR","R_BOXED","R_ROREF","R_FTN","R_RAW","DEEPEST_KIND","HEAVIEST_KIND","PRIM_TID","TID_PRIM","ARRAY_TID","NULLABLE_TID","S_CLASS","S_STRUCT","S_IFACE","S_DELEGATE","S_ENUM","TF_ABSTRACT","TF_SEALED","VA_NONE","VA_IN","GB_CLASS","GB_STRUCT","T_OBJECT","T_VALUETYPE","T_ENUM","T_ARRAY","T_DELEGATE","T_NULLABLE","VALUE_ROOTS","SIGNED_TWIN","MOST_QUESTIONS","_law_OBJECT","_law_T","_law_U"] n)
noncomputable def ra:Nat->Bool
 |0=>false|1=>false|2=>false|30=>false|31=>false|53=>false|54=>false|55=>false|56=>false|57=>false|58=>false|64=>false|n=>decide (n<103)
noncomputable def Mh:Nat:=5
noncomputable def wR:Nat:=56
def T0:Tb:=⟨λi=>(zu[i]?).getD Str.empty,zu.length,rr,wR,C',ra,xx,Mh⟩
end Mine
namespace Mine
open PySem W PyProof.Rows
variable {α:Type}
def vn (f:Nat) (d:Arguments×FuncBody×Scope):Bool:=match d.2.1 with
 | .stmts b=>d.1.posonlyargs.isEmpty&&d.1.kwonlyargs.isEmpty&&d.1.vararg.isNone&&d.1.kwarg.isNone&&d.1.args.map (·.arg)==(l_ f).take (ft f).np&&decide ((ft f).np<=(l_ f).length)&&(l_ f).length==(ft f).slots&&
     d.2.2.kind== .function&& !d.2.2.isCoroutine&& !d.2.2.isGenerator&&decide (l_ f).Nodup&&(l_ f).all (λn=>(d.2.2.names.lookup n==some .local||d.2.2.names.lookup n==some .cell)&& !(n==("__debug__":Str)))&&
     jZ T0 (ft f).body ⟨l_ f,d.2.2.names⟩ b
 |_=>false
theorem jX {a:α} {P:Prop} (e:none=some a):P:=by trivial
def nR (f:Nat):Bool:=match lB[f]? with
 |some p=>(match defAt pw.main.body p with
  |some d=>vn f d|none=>false)
 |none=>false
noncomputable def fO (p:Nat->Bool) (a:Nat):Nat->Bool
 |0=>true
 |n+1=>match p a with
  |true=>fO p (a+1) n|false=>false
theorem Jo:fO nR 0 30=true:=by kernel_rfl
theorem G1:fO nR 30 35=true:=by kernel_rfl
theorem GD:fO nR 65 20=true:=by kernel_rfl
theorem Qm:fO nR 85 18=true:=by kernel_rfl
end Mine
namespace Mine
open PySem Calls SeqAt PyProof.Rows W
variable {l:List DictEntry}{name:Str}{u:Option Str×Value}{v:Value}{a:Addr}{t:Tok}{K:Frag}{E:iQ}
section
theorem Ax (h:jU (λa=>K.lookup a) a=some E):∃c d es n sl,K.lookup a=some ⟨c,d,.dict es n,sl⟩/\es.toList.map (λe=>(nN e.key,fU e.val))=E:=by
 unfold jU at h;dsimp only at h;induction e:K.lookup a using Option.casesOn with|none=>rw [e] at h;exact jX h|some o=>
  rw [e] at h;obtain ⟨c,d,j,sl⟩:=o;induction j with|dict es n=>exact ⟨c,d,es,n,sl,rfl,aP h⟩|_=>exact jX h
theorem OR v name:v.isStr name=(nN v==some name):=by cases v<;>first|rfl|exact (JH.mpr (by simp [Value.isStr,nN]))
theorem zc:((l.map λe=>(nN e.key,fU e.val)).find? λp=>p.1==some name)=(l.find? λe=>e.key.isStr name).map λe=>(nN e.key,fU e.val):=by
 rw [List.find?_map]
 congr 1
 exact congrFun (ej List.find? (funext λe=>(OR e.key name).symm)) l
theorem xV (h:jU (λa=>K.lookup a) a=some E) (e:(E.find? λp=>p.1==some name)=some u):∃v,nsIn K a name=some (some v)/\fU v=u.2:=by obtain ⟨c,d,es,n,sl,j,rfl⟩:=Ax h;rw [zc] at e;obtain ⟨x,k,rfl⟩:=Option.map_eq_some_iff.mp e;exact ⟨x.val,by unfold nsIn;rw [j];dsimp only;rw [k],rfl⟩
theorem xj (h:jU (λa=>K.lookup a) a=some E) (k:(E.all λp=>p.1.isSome)=true) (e:(E.find? λp=>p.1==some name).isNone=true):nsIn K a name=some none:=by
 obtain ⟨c,d,es,n,sl,y,rfl⟩:=Ax h;rw [zc,Option.isNone_map,lS] at e;unfold nsIn;rw [y];dsimp only;rw [e];have:(es.toList.any λx=>x.refKey)=false:=by rw [List.any_eq_false];intro x z j;have:=E'.mp k _ (g5.mpr ⟨x,z,rfl⟩);unfold DictEntry.refKey at j;cases hk:x.key<;>rw [hk] at j this<;>first|(cases j;done)|cases this
 rw [this];rfl
theorem AB (h:fU v= .ref a):v= .ref a:=by cases v<;>first|exact h|cases h
theorem rN {i} (h:fU v= .int i t):∃t,v= .int i t:=by cases v<;>first|(cases h;exact ⟨_,rfl⟩)|cases h
end
section
variable (h:hO (λa=>K.lookup a)=eZ)
include h
theorem Cy:jU (λa=>K.lookup a) mainGlobals=some tf:=ej (·.1) h
theorem El c (j:c<5):tB (λa=>K.lookup a) (qa[c]?.getD 0)=some (.type "type",[.ref (qa[c]?.getD 0),.type "object"],(true,false,false),some (.builtin "object.__new__"),some (pW[c]?.getD [])):=by have:=ej (λl=>l[c]?) (ej (·.2.1) h);have j:=(show∀c,c<5->c=0\/c=1\/c=2\/c=3\/c=4 by decide) c j;rcases j with rfl|rfl|rfl|rfl|rfl<;>exact aP this
theorem FT i (j:i<4):uW (λa=>K.lookup a) (q8[i]?.getD 0)=some (.type "tuple",(tG[i]?.getD []).map λi=> .int i 0):=by have:=ej (λl=>l[i]?) (ej (·.2.2.1) h);have k:=(show∀i,i<4->i=0\/i=1\/i=2\/i=3 by decide) i j;rcases k with rfl|rfl|rfl|rfl<;>exact aP this
theorem P3 i (j:i<3):qL (λa=>K.lookup a) (uL[i]?.getD 0)=some (.type "dict",none,#[],(wB[i]?.getD []).map λp=>(hashInt p.1,.int p.1 0,.int p.2 0)):=by have:=ej (λl=>l[i]?) (ej (·.2.2.2.1) h);have k:i=0\/i=1\/i=2:=oq 5 j;rcases k with rfl|rfl|rfl<;>exact aP this
theorem EF:(K.lookup sysModules).isSome=true:=ej (·.2.2.2.2.2) h
theorem GY (f) (hf:f<103):pZ (λa=>K.lookup a) (qv[f]?.getD 69)=((lB[f]?).bind λp=>(defAt pw.main.body p).map λd=>(.type "function",d,[],.none,mainGlobals,builtinsNs,true)):=by
 have e:qv.map (pZ λa=>K.lookup a)=_:=ej (·.2.2.2.2.1) h;have:=ej (λl=>l[f]?) e;rw [ko] at this;have k:qv.length=103:=rfl;have l2:lB.length=103:=rfl;have j:=bZ (by rw [l2];exact hf);rw [(bZ (by rw [k];exact hf))] at this⊢;rw [j];have r:(eZ.2.2.2.2.1)[f]? =some ((defAt pw.main.body lB[f]).map λd=>(.type "function",d,[],.none,mainGlobals,builtinsNs,true)):=by unfold eZ;rw [ko,j];rfl
 rw [r] at this;exact aP this
end
variable {p:Nat->Bool}{C:Addr}{d:Option Addr}{cd:ClassData}
def aB (f:Nat):Addr:=qv[f]?.getD 69
noncomputable def cz (c:Nat):Nat:=if c<5 then c else 0
def cm (c:Nat):Addr:=qa[cz c]?.getD 0
def gz (n:Nat):Addr:=uL[n]?.getD 0
theorem mz c:cz c<5:=by
 unfold cz;split
 ·assumption
 ·exact aa rfl
theorem vL c:ct c=ct (cz c):=by
 unfold cz
 split
 ·rfl
 ·rename_i h
  obtain ⟨k,rfl⟩:=Nat.exists_eq_add_of_le' (Nat.le_of_not_lt h);rfl
def jW (c:Nat) (n:Str):Option (Option Str×Value):=(pW[c]?.getD []).find? λp=>p.1==some n
noncomputable def DY (n:Str):Bool:=(fastBuiltinOwn "object" n).isNone
noncomputable def j_ (a:Addr) (o:Option (Option Str×Value)):Bool:=decide (o.map (·.2)=some (.ref a))
def vj (c n:Nat):Bool:=match (ct c).meths.lookup n with|none=>(jW c (T0.nm n)).isNone&&DY (T0.nm n)|some f=>j_ (aB f) (jW c (T0.nm n))&&Nat.blt f 103
def rD (c:Nat):Bool:=(pW[c]?.getD []).all (λp=>p.1.isSome)&&(jW c "__getattr__").isNone&&(jW c "__getattribute__").isNone&&(jW c "__setattr__").isNone&&j_ (aB (ct c).init) (jW c "__init__")&&Nat.blt (ct c).init 103
theorem Cz:fO (λc=>fO (vj c) 0 T0.nn) 0 5=true:=by kernel_rfl
theorem wq:fO rD 0 5=true:=by kernel_rfl
theorem range_all:∀{n a},fO p a n=true->∀i,a<=i->i<a+n->p i=true:=by
 intro t;induction t with|zero=>intro a _ i j k;exact dv j (oo 0x61450500202 k)|succ n y=>
  intro a h i j k;unfold fO at h
  split at h
  ·rename_i e
   by_cases q:i=a
   ·subst q;exact e
   ·exact y h i (oo 0xd208491091002011002 j q) (oo 0x225318948063c083 k)
  ·cases h
theorem Kk:fastBuiltinOwn "object" "__getattribute__"=some (.builtin "object.__getattribute__"):=by kernel_rfl
theorem Ny:fastBuiltinOwn "object" "__setattr__"=some (.builtin "object.__setattr__"):=by kernel_rfl
theorem Qu:fastBuiltinOwn "object" "__getattr__"=none:=by kernel_rfl
theorem IK:fastLookup "type" "__call__"=some (some (.builtin "type.__call__")):=by kernel_rfl
theorem zW {sl} (n) (j:K.lookup C=some ⟨.type "type",d,.cls cd,sl⟩) (k:cd.mro= [.ref C,.type "object"]):
 findIn K (.ref C) n=match nsIn K cd.ns n with|some (some v)=>some (some v)|some none=>some (fastBuiltinOwn "object" n)|none=>none:=by
 show (match K.lookup C with|some ⟨_,_,.cls cd,_⟩=>alongIn K n cd.mro|_=>none)=_;rw [j];dsimp only;rw [k];have o:ownIn K n (.ref C)=nsIn K cd.ns n:=by simp only [ownIn,j]
 unfold alongIn;rw [o];induction nsIn K cd.ns n using Option.casesOn with|none=>rfl|some r=>
  induction r with|some v=>rfl|none=>show (match some (fastBuiltinOwn "object" n) with|some (some v)=>some (some v)|some none=>some none|none=>none)=_;cases fastBuiltinOwn "object" n<;>rfl
theorem G5 f (hf:f<103):∃p d,lB[f]? =some p/\defAt pw.main.body p=some d/\vn f d=true:=by
 have e:nR f=true:=by
  by_cases j:f<30
  ·exact range_all Jo f (hL _) (oo 0x6001ef208003de42c081 j)
  by_cases k:f<65
  ·exact range_all G1 f (oo 0x3000f790500007bc801 j) (oo 0xc0083e410008fc8007bcc081 k)
  by_cases t:f<85
  ·exact range_all GD f (oo 0x30020f905000107c801 k) (oo 0x60055f20b280107cc081 t)
  ·exact range_all Qm f (oo 0x3002af905000157c801 t) (oo 0xc00cfe410004bc80157cc081 hf)
 unfold nR at e;induction hp:lB[f]? using Option.casesOn with|none=>rw [hp] at e;exact nf e|some p=>
  rw [hp] at e;dsimp only at e;induction hd:defAt pw.main.body p using Option.casesOn with|none=>rw [hd] at e;exact nf e|some d=>rw [hd] at e;exact ⟨p,d,rfl,hd,e⟩
section
variable (h:hO (λa=>K.lookup a)=eZ)
include h
theorem pB (c):∃d cd sl,K.lookup (cm c)=some ⟨.type "type",d,.cls cd,sl⟩/\cd.mro= [.ref (cm c),.type "object"]/\cd.hasDict=true/\cd.abstract=false/\cd.hasDel=false/\(sl.toList[4]?).join=some (.builtin "object.__new__")/\jU (λa=>K.lookup a) cd.ns=some (pW[cz c]?.getD []):=by
 have e:=El h (cz c) (mz c);change tB _ (cm c)=_ at e;unfold tB at e;dsimp only at e;induction k:K.lookup (cm c) using Option.casesOn with|none=>rw [k] at e;exact jX e|some o=>
  rw [k] at e;obtain ⟨cl,d,t,sl⟩:=o;induction t with|cls cd=>have e:=aP e;have j:=ej (λp=>p.2.2.1) e;exact ⟨d,cd,sl,by rw [show cl=_ from ej Prod.fst e],ej (λp=>p.2.1) e,ej (λp=>p.1) j,ej (λp=>p.2.1) j,ej (λp=>p.2.2) j,ej (λp=>p.2.2.2.1) e,ej (λp=>p.2.2.2.2) e⟩|_=>exact jX e
theorem sz c n (o:(jW (cz c) n).isNone=true):findIn K (.ref (cm c)) n=some (fastBuiltinOwn "object" n):=by obtain ⟨d,cd,sl,j,k,_,_,_,_,t⟩:=pB h c;have hb:=range_all wq (cz c) (hL _) (by have:=mz c;exact oq 12 this);unfold rD at hb;simp only [hQ] at hb;rw [zW n j k,xj t hb.1.1.1.1.1 o]
theorem yW c n (o:j_ a (jW (cz c) n)=true):findIn K (.ref (cm c)) n=some (some (.ref a)):=by obtain ⟨d,cd,sl,j,k,_,_,_,_,t⟩:=pB h c;obtain ⟨u,q,y⟩:=Option.map_eq_some_iff.mp (aa o);obtain ⟨v,hv,z⟩:=xV t q;rw [zW n j k,hv,AB (z.trans y)]
theorem Cb (f) (hf:f<103):∃d fd sl,K.lookup (aB f)=some ⟨.type "function",d,.func fd,sl⟩/\vn f (fd.params,fd.body,fd.scope)=true/\fd.closure= []/\fd.defaults= .none/\fd.globals=mainGlobals/\fd.builtins=builtinsNs/\codeIn K fd.code fd.qualname=true:=by
 have e:=GY h f hf;obtain ⟨p,k,hp,hd,t⟩:=G5 f hf;change pZ _ (aB f)=_ at e;rw [hp] at e;change _=(defAt pw.main.body p).map _ at e;rw [hd] at e;unfold pZ at e;dsimp only at e;induction j:K.lookup (aB f) using Option.casesOn with|none=>rw [j] at e;exact jX e|some o=>
  rw [j] at e;obtain ⟨cl,d,y,sl⟩:=o;induction y with|func fd=>have e:=aP e;exact ⟨d,fd,sl,by rw [show cl=_ from ej Prod.fst e],by rw [show (fd.params,fd.body,fd.scope)=k from ej (λp=>p.2.1) e];exact t,ej (λp=>p.2.2.1) e,ej (λp=>p.2.2.2.1) e,ej (λp=>p.2.2.2.2.1) e,ej (λp=>p.2.2.2.2.2.1) e,ej (λp=>p.2.2.2.2.2.2) e⟩|_=>exact jX e
end
variable {o:Obj}{prog:Program}{w:World}{base:Heap}
theorem Ln:fO (λi=>fO (λj=>Nat.beq i j|| !(T0.nm i==T0.nm j)) 0 T0.nn) 0 T0.nn=true:=by kernel_rfl
theorem Ei (i j) (k:i<T0.nn) (t:j<T0.nn) (e:T0.nm i=T0.nm j):i=j:=by have:=range_all (range_all Ln i (hL _) (oq 22 k)) j (hL _) (oq 22 t);rw [e,m5,Bool.not_true,Bool.or_false] at this;exact Nat.eq_of_beq_eq_true this
theorem tD (e:K.lookup a=some o):typeIn K (.ref a)=some o.cls:=by show (K.lookup a).map _=_;rw [e];rfl
section
variable (h:hO (λa=>K.lookup a)=eZ)
include h
theorem sw f (hf:f<103):kS K (aB f)/\keepIn K (.ref (aB f))=true:=by obtain ⟨d,fd,sl,e,_⟩:=Cb h f hf;refine ⟨tD e,?_⟩;simp only [keepIn,e]
theorem xL c:specialIn K (.ref (cm c)) "__call__"=some (some (.builtin "type.__call__")):=by obtain ⟨d,cd,sl,e,_⟩:=pB h c;unfold specialIn;rw [tD e];exact IK
theorem Hq c:keepIn K (.ref (cm c))=true:=by obtain ⟨d,cd,sl,e,_⟩:=pB h c;have:=xL h c;simp only [keepIn,e];rw [this];rfl
theorem DL (c):yd K (cm c):=by
 obtain ⟨d,cd,sl,j,k,t,y,z,A,E⟩:=pB h c;have hb:=range_all wq (cz c) (hL _) (by have:=mz c;exact oq 12 this);unfold rD at hb;simp only [hQ] at hb;refine ⟨by rw [sz h c _ hb.1.1.1.1.2,Qu],by rw [sz h c _ hb.1.1.1.2,Kk],by rw [sz h c _ hb.1.1.2,Ny],?_,?_,?_⟩
 ·simp only [plainOver,clsIn,j,Option.any_some,k];rfl
 ·simp only [clsIn,j,Option.any_some,t]
 ·have D:instIn K (.ref (cm c)) (.type "type")=some true:=by unfold instIn;rw [tD j];rfl
  simp only [makesIn,j,k,y,z,A,xL h c,D];simp
theorem ML (c n) (j:n<T0.nn) (e:(ct c).meths.lookup n=none):findIn K (.ref (cm c)) (T0.nm n)=some none:=by have hb:=range_all (range_all Cz (cz c) (hL _) (by have:=mz c;exact oq 12 this)) n (hL _) (oq 22 j);unfold vj at hb;rw [<-vL,e] at hb;simp only [hQ] at hb;rw [sz h c _ hb.1];exact ej some (lS.mp hb.2)
theorem HV (c n f) (e:(ct c).meths.lookup n=some f) (j:n<T0.nn):findIn K (.ref (cm c)) (T0.nm n)=some (some (.ref (aB f)))/\kS K (aB f):=by have hb:=range_all (range_all Cz (cz c) (hL _) (by have:=mz c;exact oq 12 this)) n (hL _) (oq 22 j);unfold vj at hb;rw [<-vL,e] at hb;simp only [hQ] at hb;exact ⟨yW h c _ hb.1,(sw h f (nk hb.2)).1⟩
theorem Pd c:findIn K (.ref (cm c)) "__init__"=some (some (.ref (aB (ct c).init)))/\kS K (aB (ct c).init):=by have hb:=range_all wq (cz c) (hL _) (by have:=mz c;exact oq 12 this);unfold rD at hb;simp only [hQ] at hb;rw [<-vL] at hb;exact ⟨yW h c _ hb.1.2,(sw h _ (nk hb.2)).1⟩
set_option tactic.hygienic true in
theorem tab_of (X:K.In base) (n) (z:n<3):∃xs,base.DictOf (intKind prog w) (gz n) xs/\F2 (λ(p) (q)=>p.1=q.1/\∃t,q.2= .int p.2 t) (tabs n) xs:=by
 have e:=P3 h n z;change qL _ (gz n)=_ at e;unfold qL at e
 split at e
 ·rename_i c d es F sl G
  injection e with e;injection e with I e;injection e with J e;injection e with L e;subst I J L;have A:wB[n]?.getD []=tabs n:=by have:n=0\/n=1\/n=2:=oq 5 z;rcases this with rfl|rfl|rfl<;>rfl
  have nd:((tabs n).map (·.1)).Nodup:=by have:n=0\/n=1\/n=2:=oq 5 z;rcases this with rfl|rfl|rfl<;>decide
  rw [A] at e;have key:∀(l) (r:List (Int×Int)),l.map (λe=>(e.hash,fU e.key,fU e.val))=r.map (λp=>(hashInt p.1,Value.int p.1 0,Value.int p.2 0))->
   ∃xs,(∀e∈l,∃k,(intKind prog w).is k e.key=true/\e.hash=(intKind prog w).hash k)/\Pairs (intKind prog w) l xs/\xs.map (·.1)=r.map (·.1)/\F2 (λp (q:Int×Value)=>p.1=q.1/\∃t,q.2= .int p.2 t) r xs:=by
   intro l;induction l with
   |nil=>
    intro r y;induction r with|nil=>exact ⟨[],λ_=>bg,.nil,rfl,rfl⟩|cons _ _=>cases y
   |cons x l Q=>
    intro r y;induction r using List.casesOn with|nil=>cases y|cons p r=>
     injection y with Y Z;injection Y with h3 D;injection D with D h5;obtain ⟨xs,j,i2,i3,i4⟩:=Q r Z;obtain ⟨t,A⟩:=rN D;have hk:(intKind prog w).is p.1 x.key=true:=by rw [A];exact m5 _
     refine ⟨(p.1,x.val)::xs,λe E=> ?_,.cons hk rfl i2,by rw [HG,HG,i3],F2.cons ⟨rfl,rN h5⟩ i4⟩;rcases aR E with rfl|E
     ·exact ⟨p.1,hk,h3⟩
     ·exact j e E
  exact (key _ _ e).imp λ_ j=>⟨⟨_,es,F,X _ _ G,⟨rfl,rfl,rfl⟩,rfl,λx hx=>j.1 x (Array.mem_toList_iff.mpr hx),j.2.1,by rw [j.2.2.1];exact nd⟩,j.2.2.2⟩
 ·cases e
end
variable {n:Str}{lP:Addr}{c4 c5 c6 c7 c8 c9 qo sq r_ rJ:Bool}{c:Cf}{mg mb:Str->Option Value}{lU:List Value}{sc:List Int}
def i7 (n:Str):Option (Option Str×Value):=tf.find? λp=>p.1==some n
noncomputable def Bh (i:Int) (o:Option (Option Str×Value)):Bool:=decide (o.map (·.2)=some (.int i 0))
def AR (g:Nat):Bool:=match gl g with| .int i=>Bh i (i7 (rr g))| .tab n=>j_ (gz n) (i7 (rr g))&&Nat.blt n 3| .tup vs=> [0,1,2,3].any λi=>Nat.blt i 4&&(j_ (q8[i]?.getD 0) (i7 (rr g))&&decide (vs=(tG[i]?.getD []).map .int))|_=>false
theorem Hc:fO AR 0 wR=true:=by kernel_rfl
def xi (f:Nat):Bool:= !(ra f)||j_ (aB f) (i7 (C' f))
theorem Oa:fO xi 0 103=true:=by kernel_rfl
def Ii (c:Nat):Bool:=j_ (cm c) (i7 (xx c))
theorem Kq:fO Ii 0 5=true:=by kernel_rfl
theorem Hu:(tf.all λp=>p.1.isSome)=true:=by kernel_rfl
def Pa (b:BI):Bool:=(i7 (lj b)).isNone
theorem HN:∀b,Pa b=true:=λb=>by cases b<;>kernel_rfl
theorem Du:∀b,lj b≠"__name__"/\bootBuiltins (lj b)=some (qh b):=λb=>by cases b<;>exact ⟨by decide+kernel,by kernel_rfl⟩
theorem Ni {f} (h:ra f=true):f<103:=Nat.lt_of_not_le λj=>by obtain ⟨k,rfl⟩:=Nat.exists_eq_add_of_le' j;have h:decide (k+103<103)=true:=h;exact Nat.not_lt_of_le (Eb _ _) (aa h)
section
variable (h:hO (λa=>K.lookup a)=eZ) (X:K.In base) (G:base.Ns mainGlobals mg)
include h X G
theorem za (e:i7 n=some u):∃v,mg n=some v/\fU v=u.2:=(xV (Cy h) e).imp λ_ hv=>⟨mg_of X G hv.1,hv.2⟩
theorem sr (e:j_ a (i7 n)=true):mg n=some (.ref a):=by obtain ⟨u,q,j⟩:=Option.map_eq_some_iff.mp (aa e);obtain ⟨v,hv,k⟩:=za h X G q;rw [hv,AB (k.trans j)]
theorem Lh {i} (e:Bh i (i7 n)=true):∃t,mg n=some (.int i t):=by obtain ⟨u,q,j⟩:=Option.map_eq_some_iff.mp (aa e);obtain ⟨v,hv,k⟩:=za h X G q;exact (rN (k.trans j)).imp λ_ y=>by rw [hv,y]
theorem Mj (e:(i7 n).isNone=true):mg n=none:=mg_none_of X G (xj (Cy h) Hu e)
end
theorem gO {a b} {P:Prop} (h:(a&&b)=true) (k:a=true->b=true->P):P:=k (aZ h).1 (aZ h).2
theorem xQ {c1 c2 c3} {P:Prop} (h:(c1&&c2&&c3&&c4&&c5&&c6&&c7&&c8&&c9&&qo&&sq&&r_&&rJ)=true) (k:c1=true->c2=true->c3=true->c4=true->c5=true->c6=true->c7=true->c8=true->c9=true->qo=true->sq=true->r_=true->rJ=true->P):P:=
 gO h λh j=>gO h λh t=>gO h λh y=>gO h λh z=>gO h λh A=>gO h λh D=>gO h λh E=>gO h λh F=>gO h λh I=>gO h λh J=>gO h λh L=>gO h λQ Y=>k Q Y L J I F E D A z y t j
section
variable (h:hO (λa=>K.lookup a)=eZ) (X:K.In base) (G:base.Ns mainGlobals mg) (B:base.Ns builtinsNs mb) (NL:base.NoLimit) (BB:∀x:Str,x≠"__name__"->mb x=bootBuiltins x)
 (SL:base.IsList lP lU.toArray) (SI:IntsAre lU sc)
def xt:Cx:=⟨prog,w,base,K,X,mg,mb,G,B,NL,lP,lU,sc,SL,SI,gz,cm,T0.nm,T0.nn,Ei,λn j=>tab_of h X n j,
 λn j=>by have:n=0\/n=1\/n=2:=oq 5 j;rcases this with rfl|rfl|rfl<;>rfl,
 by obtain ⟨o,e⟩:=JT.mp (EF h);rw [X _ _ e];rfl⟩
theorem H_ {C}:∀{l:List Int} {xs},xs.map fU=l.map (λi=>Value.int i 0)->aU C c (l.map .int) xs:=by
 intro j;induction j with|nil=>intro _ e;exact List.map_eq_nil_iff.mp e|cons _ _ k=>intro _ e;exact (by obtain ⟨x,r,t,y,z⟩:=List.map_eq_cons_iff.mp e;exact ⟨x,r,t,rN y,k z⟩)
include BB in
theorem PZ:tU (xt (prog:=prog) (w:=w) h X G B NL SL SI) T0 sc gl ct aB where
 nm:=rfl
 nn:=rfl
 sc:=rfl
 cls:=⟨DL h,λc n z e=>ML h c n z e,λc n f e z=>HV h c n f e z,rfl,rfl,rfl,Pd h⟩
 ju:=λg hg=>by
  have hb:=range_all Hc g (hL _) (by have:g<wR:=hg;exact oq 22 this);unfold AR at hb;induction k:gl g using V.casesOn with
  |int i=>rw [k] at hb;obtain ⟨t,A⟩:=Lh h X G hb;exact ⟨_,A,λc _=>⟨t,rfl⟩⟩|tab n=>rw [k] at hb;exact ⟨_,sr h X G (ea hb).1,λc _=>⟨nk (ea hb).2,rfl⟩⟩|tup vs=>
   rw [k] at hb;obtain ⟨i,_,hb⟩:=List.any_eq_true.mp hb;have j:=ea hb;refine ⟨_,sr h X G (ea j.2).1,λc hk=> ?_⟩;have e:=FT h i (nk j.1);unfold uW at e;dsimp only at e;induction y:K.lookup (q8[i]?.getD 0) using Option.casesOn with|none=>rw [y] at e;exact jX e|some o=>
    rw [y] at e;obtain ⟨c,d,D,sl⟩:=o;induction D with|seq it n=>have e:=aP e;rw [show c=_ from ej Prod.fst e] at y;rw [show vs=_ from aa (ea j.2).2];exact ⟨_,_,rfl,⟨_,hk _ _ (X _ _ y),rfl,n,rfl⟩,H_ (ej Prod.snd e)⟩|_=>exact jX e
  |_=>rw [k] at hb;cases hb
 fn:=λf hf=>by have hb:=range_all Oa f (hL _) (by have:=Ni hf;exact oo 0x60067f20800cfe42c081 this);unfold xi at hb;have:ra f=true:=hf;rw [this,Bool.not_true,Bool.false_or] at hb;exact sr h X G hb
 keep:=λf=>by
  by_cases hf:f<103
  ·exact (sw h f hf).2
  ·have:aB f=aB 0:=by unfold aB;rw [List.getElem?_eq_none (by show 103<=f;exact oo 0x30033f90500019fc801 hf)];rfl
   rw [this];exact (sw h 0 (aa rfl)).2
 cl:=λc E=>⟨sr h X G (range_all Kq c (hL _) (by have:c<5:=E;exact oq 12 this)),Hq h c⟩
 blt:=λb=>⟨Mj h X G (HN b),by
  have j:=Du b;exact (BB _ j.1).trans j.2⟩
theorem MF:zN (xt (prog:=prog) (w:=w) h X G B NL SL SI) T0 aB ft l_:=⟨λf hf=>by
 have t:f<103:=Nat.lt_of_not_le λy=>by obtain ⟨k,rfl⟩:=Nat.exists_eq_add_of_le' y;exact dv (show 100<=20 from hf) (by decide)
 obtain ⟨d,fd,sl,z,j,A,D,E,F,I⟩:=Cb h f t;induction hb:fd.body with|stmts b=>rw [hb] at j;exact xQ j λc1 c2 c3 c4 c5 c6 c7 c8 c9 qo sq r_ rJ=>⟨fd,b,⟨⟨_,X _ _ z,rfl⟩,hb,A,codeRec_of X I,k4.mp c1,k4.mp c2,lS.mp c3,lS.mp c4,D,g7.mp c5,aa c6,g7.mp c7,g7.mp c8,AZ _▸c9,AZ _▸qo,E,F,aa sq,λn J=>gO (E'.mp r_ n J) λL Q=>⟨(Bool.or_eq_true_iff.1 L).imp g7.mp g7.mp,by simpa using Q⟩⟩,rJ⟩|_=>rw [hb] at j;exact nf j⟩
end
end Mine
namespace Mine
open PySem
variable {α β:Type}{s:St}{o:O}{v:V}{Q:V->St->Prop}{n d:Nat}{A B A' B':Prop}{ρ:ag}{sc:List Int}{vs:List V}
noncomputable abbrev eR (i:Nat):Option V:=some (.ref i)
noncomputable abbrev eI (i:Int):Option V:=some (.int i)
noncomputable abbrev mS (a0 a1:Option V):ag:= [a0,a1]
noncomputable abbrev pb (a0 a1 a2:Option V):ag:= [a0,a1,a2]
noncomputable abbrev j7 (a0 a1 a2 j:Option V):ag:= [a0,a1,a2,j]
noncomputable abbrev e_ (a0 a1 a2 j k:Option V):ag:= [a0,a1,a2,j,k]
noncomputable abbrev dR (a0 a1 a2 j k t:Option V):ag:= [a0,a1,a2,j,k,t]
noncomputable abbrev dY (a0 a1 a2 j k t y:Option V):ag:= [a0,a1,a2,j,k,t,y]
noncomputable abbrev mn (a0 a1 a2 j k t y z:Option V):ag:= [a0,a1,a2,j,k,t,y,z]
noncomputable abbrev cf (a0 a1 a2 j k t y z D:Option V):ag:= [a0,a1,a2,j,k,t,y,z,D]
noncomputable abbrev oz (a0 a1 a2 j k t y z D E:Option V):ag:= [a0,a1,a2,j,k,t,y,z,D,E]
noncomputable abbrev Ec (a0 a1 a2 k t y z D E F j:Option V):ag:= [a0,a1,a2,k,t,y,z,D,E,F,j]
noncomputable abbrev gG (a0 a1 a2 z D E F G I J j k t y:Option V):ag:= [a0,a1,a2,z,D,E,F,G,I,J,j,k,t,y]
noncomputable def Tr {α:Type} (x:M α) (Q:α->St->Prop) (s:St):Prop:=∃a s',x s=some (a,s')/\Q a s'
theorem O.inst.inj {a b x y} (e:O.inst a x= .inst b y):a=b/\x=y:=by injection e with h j;exact ⟨h,j⟩
theorem O.dict.inj {x y} (e:O.dict x= .dict y):x=y:=by injection e
theorem Tr.ret {a:α} {Q:α->St->Prop} (q:Q a s):Tr (ret a) Q s:=⟨a,s,rfl,q⟩
theorem Tr.ac {x:M α} {f:α->M β} {Q:β->St->Prop} (h:Tr x (λa s'=>Tr (f a) Q s') s):Tr (ac x f) Q s:=by obtain ⟨a,s',e,b,fE,k,q⟩:=h;exact ⟨b,fE,by show (match x s with|some (a,s')=>f a s'|none=>none)=_;rw [e];exact k,q⟩
theorem Tr.mono {x:M α} {Q j:α->St->Prop} (h:Tr x Q s) (q:∀a s',Q a s'->j a s'):Tr x j s:=by obtain ⟨a,s',e,h⟩:=h;exact ⟨a,s',e,q _ _ h⟩
theorem Tr.step {α β:Type} {x:M α} {f:α->M β} {Q:α->St->Prop} {R:β->St->Prop} {s:St} (h:Tr x Q s) (q:∀a s',Q a s'->Tr (f a) R s'):Tr (Mine.ac x f) R s:= .ac (h.mono q)
theorem Tr.lift {x:Option α} {a:α} {Q:α->St->Prop} (e:x=some a) (q:Q a s):Tr (lift x) Q s:=⟨a,s,by subst e;rfl,q⟩
theorem Tr.bC {i} {Q} (e:s[i]? =some o) (q:Q o s):Tr (bC i) Q s:=⟨o,s,by show (match s[i]? with|some o=>some (o,s)|none=>none)=_;rw [e],q⟩
structure P (tag:Nat) {α:Type} (x:M α) (Q:α->St->Prop) (s:St):Prop where
 h:Tr x Q s
structure aq (sc:List Int) (d:Nat) (f:Nat) (vs:List V) (Q:V->St->Prop) (s:St):Prop where
 h:Tr (cD sc gl ct ft d f vs) Q s
def dJ:Bool->Prop->Prop->Prop
 |true,A,_=>A|false,_,B=>B
def nr (v:V) (Q:Bool->St->Prop) (s:St):Prop:=match v with| .bool b=>Q b s| .int i=>Q (decide (i≠0)) s| .none=>Q false s|v=>P 0 (truth v) Q s
def pC (op:CO) (a b:V) (Q:Bool->St->Prop) (s:St):Prop:=match a,b with
 | .int x,.int y=>(match op with
   | .eq=>Q (decide (x=y)) s| .ne=>Q (decide (x≠y)) s| .lt=>Q (decide (x<y)) s| .le=>Q (decide (x<=y)) s| .gt=>Q (decide (x>y)) s| .ge=>Q (decide (x>=y)) s|op=>P 1 (cC op a b) Q s)
 |a,b=>P 1 (cC op a b) Q s
def nU:Option V->(V->St->Prop)->St->Prop
 |some v,Q,s=>Q v s|none,_,_=>False
def rT (op:BO) (a b:V) (Q:V->St->Prop) (s:St):Prop:=match op,a,b with| .add,.int x,.int y=>Q (.int (x+y)) s| .sub,.int x,.int y=>Q (.int (x-y)) s|op,a,b=>P 2 (binop op a b) Q s
def mr (n:Nat) (A:Prop):Prop:=dJ (fits n) A False
def wItems (v:V) (Q:Bool×List V->St->Prop) (s:St):Prop:=match v with| .tup vs=>Q (false,vs) s|v=>P 3 (itemsOf v) Q s
def wO:V->Prop->Prop
 | .none,A=>A|_,_=>False
noncomputable def vf:V->Bool
 | .none=>true|_=>false
def ud (sc:List Int) (d:Nat) (m:MH) (o:V) (vs:List V) (Q:V->St->Prop) (s:St):Prop:=match m with| .fn f=>aq sc d f (o::vs) Q s|m=>P 4 (ik m o vs) Q s
structure WF (sc:List Int) (d:Nat) (src:V) (all:Bool×List V) (is:List Nat) (tup:Bool) (b:Ss) (vs:List V) (ρ:ag) (Q:Fl->ag->St->Prop) (s:St):Prop where
 h:Tr (ql src all (dN is tup) (dF sc gl ct (cD sc gl ct ft d) b) vs ρ) (λp s=>Q p.1 p.2 s) s
structure WW (sc:List Int) (d:Nat) (c:X) (b:Ss) (ρ:ag) (Q:Fl->ag->St->Prop) (s:St):Prop where
 h:Tr (pu (λρ=>ac (aY sc gl ct (cD sc gl ct ft d) ρ c) λv=>truth v) (dF sc gl ct (cD sc gl ct ft d) b) hX ρ) (λp s=>Q p.1 p.2 s) s
structure WC (sc:List Int) (d:Nat) (src:V) (all:Bool×List V) (ρ:List (Option V)) (elt:X) (bD:Xs) (vs:List V) (Q:List V->St->Prop) (s:St):Prop where
 h:Tr (jT src all (λv=>
    let br:ag:=some v::ρ
    ac (mZ sc gl ct (cD sc gl ct ft d) br bD) λok=>if ok then ac (aY sc gl ct (cD sc gl ct ft d) br elt) λy=>ret (some y) else ret none) vs) Q s
noncomputable abbrev VP:=V->St->Prop
noncomputable abbrev FP:=Fl->ag->St->Prop
section
variable (sc:List Int) (d:Nat)
abbrev MP (Q:VP) (vs:List V) (s:St):Prop:=mr vs.length (Q (.tup vs) s)
abbrev OA (Q:VP) (vs:List V) (s:St):Prop:=mr vs.length (P 5 (bN (.list vs)) Q s)
abbrev MU (Q:VP) (vs:List V) (s:St):Prop:=P 6 (ac (lift (pairUp vs)) λps=>if ps.length<=15 then ac (fp [] ps) λaf=>bN (.dict af) else fail) Q s
abbrev DK (Q:VP) (v:V) (s:St):Prop:=match v with| .int i=>Q (.int (-i)) s|_=>False
abbrev kB (Q:VP) (b:Bool) (s:St):Prop:=Q (.bool b) s
abbrev M9 (Q:VP) (b:Bool) (s:St):Prop:=Q (.bool (!b)) s
abbrev FB (Q:VP) (v:V) (s:St):Prop:=nr v (M9 Q) s
abbrev wG (A B:St->Prop) (t:Bool) (s:St):Prop:=dJ t (A s) (B s)
abbrev rW (A B:St->Prop) (v:V) (s:St):Prop:=nr v (wG A B) s
abbrev EM (op:BO) (x:V) (Q:VP) (y:V) (s:St):Prop:=rT op x y Q s
abbrev PS (op:BO) (w:VP->St->Prop) (Q:VP) (x:V) (s:St):Prop:=w (EM op x Q) s
abbrev Fo (v:V) (Q:VP) (k:V) (s:St):Prop:=match k with| .int k=>dJ (decide (0<=k/\k<=1000)) (P 5 (bN (.list (List.replicate k.toNat v))) Q s) False|_=>False
abbrev E_ (w:VP->St->Prop) (Q:VP) (v:V) (s:St):Prop:=w (Fo v Q) s
abbrev xP (op:CO) (x:V) (Q:VP) (y:V) (s:St):Prop:=pC op x y (kB Q) s
abbrev G' (op:CO) (w:VP->St->Prop) (Q:VP) (x:V) (s:St):Prop:=w (xP op x Q) s
abbrev Gm (y:V) (j:CO) (w:VP->St->Prop) (Q:VP) (r:Bool) (s:St):Prop:=dJ r (w (xP j y Q) s) (Q (.bool false) s)
abbrev PA (x:V) (j k:CO) (w:VP->St->Prop) (Q:VP) (y:V) (s:St):Prop:=pC j x y (Gm y k w Q) s
abbrev Fh (j k:CO) (v w:VP->St->Prop) (Q:VP) (x:V) (s:St):Prop:=v (PA x j k w Q) s
abbrev M4 (n:Bool) (Q:VP) (v:V) (s:St):Prop:=Q (.bool (if n then !vf v else vf v)) s
abbrev Oy (n:Nat) (Q:VP) (o:V) (s:St):Prop:=P 7 (getAttr ct o n) Q s
abbrev GR (o:V) (Q:VP) (k:V) (s:St):Prop:=P 8 (index o k) Q s
abbrev N1 (w:VP->St->Prop) (Q:VP) (o:V) (s:St):Prop:=w (GR o Q) s
abbrev Fk (o:V) (Q:VP) (k:V) (s:St):Prop:=P 9 (sliceFrom o k) Q s
abbrev Il (w:VP->St->Prop) (Q:VP) (o:V) (s:St):Prop:=w (Fk o Q) s
abbrev Pj (o:V) (Q:VP) (k:V) (s:St):Prop:=P 10 (sliceTo sc o k) Q s
abbrev Jl (w:VP->St->Prop) (Q:VP) (o:V) (s:St):Prop:=w (Pj sc o Q) s
abbrev MJ (Q:VP) (o:V) (s:St):Prop:=P 11 (pA o) Q s
abbrev II (f:Nat) (Q:VP) (vs:List V) (s:St):Prop:=aq sc d f vs Q s
abbrev Gl (self:V) (Q:VP) (r:V) (s:St):Prop:=wO r (Q self s)
abbrev Oj (c:Nat) (vs:List V) (Q:VP) (self:V) (s:St):Prop:=aq sc d (ct c).init (self::vs) (Gl self Q) s
abbrev Jn (c:Nat) (Q:VP) (vs:List V) (s:St):Prop:=P 5 (bN (.inst c [])) (Oj sc d c vs Q) s
abbrev Ee (o:V) (m:MH) (Q:VP) (vs:List V) (s:St):Prop:=ud sc d m o vs Q s
abbrev OY (w:(List V->St->Prop)->St->Prop) (o:V) (Q:VP) (m:MH) (s:St):Prop:=w (Ee sc d o m Q) s
abbrev GB (n:Nat) (w:(List V->St->Prop)->St->Prop) (Q:VP) (o:V) (s:St):Prop:=P 12 (ie ct o n) (OY sc d w o Q) s
abbrev Hz (b:BI) (Q:VP) (vs:List V) (s:St):Prop:=P 13 (builtin b vs) Q s
abbrev Q_ (Q:VP) (j:List V) (s:St):Prop:=P 15 (if fits j.length then bN (.list j) else fail) Q s
abbrev Qb (k:V) (ρ:ag) (t:X) (bD:Xs) (Q:VP) (vs:Bool×List V) (s:St):Prop:=WC sc d k vs ρ t bD vs.2 (Q_ Q) s
abbrev Jk (ρ:ag) (t:X) (bD:Xs) (Q:VP) (k:V) (s:St):Prop:=wItems k (Qb sc d k ρ t bD Q) s
abbrev D5 (v:V) (Q:List V->St->Prop) (vs:List V) (s:St):Prop:=Q (v::vs) s
abbrev Gp (w:(List V->St->Prop)->St->Prop) (Q:List V->St->Prop) (v:V) (s:St):Prop:=w (D5 v Q) s
abbrev GZ (w:VP->St->Prop) (Q:VP) (v:V) (s:St):Prop:=nr v (wG (w Q) (Q v)) s
abbrev Jr (w:VP->St->Prop) (Q:VP) (v:V) (s:St):Prop:=nr v (wG (Q v) (w Q)) s
mutual
noncomputable def wE (ρ:ag):X->VP->St->Prop
 | .lit v,Q,s=>Q v s| .loc i,Q,s=>nU (ρ[i]?.join) Q s| .ju g,Q,s=>Q (gl g) s| .tup es,Q,s=>wEs ρ es (MP Q) s| .lst es,Q,s=>wEs ρ es (OA Q) s| .mC es,Q,s=>wEs ρ es (MU Q) s| .neg e,Q,s=>wE ρ e (DK Q) s| .not e,Q,s=>wE ρ e (FB Q) s| .and es,Q,s=>wc ρ es Q s| .or es,Q,s=>vw ρ es Q s| .ite c a b,Q,s=>wE ρ c (rW (wE ρ a Q) (wE ρ b Q)) s| .bin op a b,Q,s=>wE ρ a (PS op (wE ρ b) Q) s| .rep e n,Q,s=>wE ρ e (E_ (wE ρ n) Q) s| .cmp op a b,Q,s=>wE ρ a (G' op (wE ρ b) Q) s| .q6 a t b y c,Q,s=>wE ρ a (Fh t y (wE ρ b) (wE ρ c) Q) s| .sp n e,Q,s=>wE ρ e (M4 n Q) s| .kY e n,Q,s=>wE ρ e (Oy n Q) s| .idx e i,Q,s=>wE ρ e (N1 (wE ρ i) Q) s| .pg e i,Q,s=>wE ρ e (Il (wE ρ i) Q) s| .fF e i,Q,s=>wE ρ e (Jl sc (wE ρ i) Q) s| .sW e,Q,s=>wE ρ e (MJ Q) s| .fn f args,Q,s=>wEs ρ args (II sc d f Q) s| .new c args,Q,s=>wEs ρ args (Jn sc d c Q) s| .jf e n args,Q,s=>wE ρ e (GB sc d n (wEs ρ args) Q) s| .blt b args,Q,s=>wEs ρ args (Hz b Q) s| .comp aw _ k iter bD,Q,s=>wE ρ iter (Jk sc d (aw.map λi=>ρ[i]?.join) k bD Q) s
noncomputable def wEs (ρ:ag):Xs->(List V->St->Prop)->St->Prop
 | .nil,Q,s=>Q [] s| .cons e r,Q,s=>wE ρ e (Gp (wEs ρ r) Q) s
noncomputable def wc (ρ:ag):Xs->VP->St->Prop
 | .nil,_,_=>False| .cons e .nil,Q,s=>wE ρ e Q s| .cons e r,Q,s=>wE ρ e (GZ (wc ρ r) Q) s
noncomputable def vw (ρ:ag):Xs->VP->St->Prop
 | .nil,_,_=>False| .cons e .nil,Q,s=>wE ρ e Q s| .cons e r,Q,s=>wE ρ e (Jr (vw ρ r) Q) s
end
def gc:Option ag->(ag->Prop)->Prop
 |some ρ,A=>A ρ|none,_=>False
abbrev kU (ρ:ag) (Q:FP) (_:Unit) (s:St):Prop:=Q .next ρ s
abbrev kEx (ρ:ag) (Q:FP) (_:V) (s:St):Prop:=Q .next ρ s
abbrev yw (i:Nat) (ρ:ag) (Q:FP) (v:V) (s:St):Prop:=Q .next (gj ρ i v) s
abbrev Fn (n:Nat) (v:V) (ρ:ag) (Q:FP) (j:V) (s:St):Prop:=P 16 (setAttr ct j n v) (kU ρ Q) s
abbrev DR (w:VP->St->Prop) (n:Nat) (ρ:ag) (Q:FP) (v:V) (s:St):Prop:=w (Fn n v ρ Q) s
abbrev EG (j v:V) (ρ:ag) (Q:FP) (k:V) (s:St):Prop:=P 17 (setIndex j k v) (kU ρ Q) s
abbrev I3 (w:VP->St->Prop) (v:V) (ρ:ag) (Q:FP) (j:V) (s:St):Prop:=w (EG j v ρ Q) s
abbrev O9 (o i:VP->St->Prop) (ρ:ag) (Q:FP) (v:V) (s:St):Prop:=o (I3 i v ρ Q) s
abbrev Nr (Q:FP) (s:St) (ρ:ag):Prop:=Q .next ρ s
abbrev Gi (is:List Nat) (ρ:ag) (Q:FP) (v:V) (s:St):Prop:=gc (dN is true v ρ) (Nr Q s)
abbrev JW (a:V) (i:Nat) (op:BO) (ρ:ag) (Q:FP) (b:V) (s:St):Prop:=match a,b with| .int _,.int _=>rT op a b (yw i ρ Q) s|_,_=>False
abbrev IT (w:VP->St->Prop) (i:Nat) (op:BO) (ρ:ag) (Q:FP) (a:V) (s:St):Prop:=w (JW a i op ρ Q) s
abbrev Kc (ρ:ag) (Q:FP) (v:V) (s:St):Prop:=Q (.ret v) ρ s
abbrev EB (j:V) (is:List Nat) (tup:Bool) (b:Ss) (ρ:ag) (Q:FP) (vs:Bool×List V) (s:St):Prop:=WF sc d j vs is tup b vs.2 ρ Q s
abbrev zn (is:List Nat) (tup:Bool) (b:Ss) (ρ:ag) (Q:FP) (j:V) (s:St):Prop:=wItems j (EB sc d j is tup b ρ Q) s
abbrev Bo (w:ag->FP->St->Prop) (K:FP):FP
 | .next,ρ,s=>w ρ K s|f,ρ,s=>K f ρ s
mutual
noncomputable def wS:S->ag->FP->St->Prop
 | .expr e,ρ,Q,s=>wE sc d ρ e (kEx ρ Q) s| .asg i e,ρ,Q,s=>wE sc d ρ e (yw i ρ Q) s| .n6 o n e,ρ,Q,s=>wE sc d ρ e (DR (wE sc d ρ o) n ρ Q) s| .k6 o i e,ρ,Q,s=>wE sc d ρ e (O9 (wE sc d ρ o) (wE sc d ρ i) ρ Q) s| .sK is e,ρ,Q,s=>wE sc d ρ e (Gi is ρ Q) s| .aug i op e,ρ,Q,s=>nU (ρ[i]?.join) (IT (wE sc d ρ e) i op ρ Q) s| .ret e,ρ,Q,s=>wE sc d ρ e (Kc ρ Q) s| .ite c a b,ρ,Q,s=>wE sc d ρ c (rW (wSs a ρ Q) (wSs b ρ Q)) s| .rR c b,ρ,Q,s=>WW sc d c b ρ Q s| .for is tup e b,ρ,Q,s=>wE sc d ρ e (zn sc d is tup b ρ Q) s| .cont,ρ,Q,s=>Q .cont ρ s| .pass,ρ,Q,s=>Q .next ρ s| .stuck,_,_,_=>False| .try b,ρ,Q,s=>wSs b ρ Q s
noncomputable def wSs:Ss->ag->FP->St->Prop
 | .nil,ρ,Q,s=>Q .next ρ s| .cons x r,ρ,Q,s=>wS x ρ (Bo (wSs r) Q) s
end
variable {sc d}
theorem lM {Q:Bool->St->Prop} (h:nr v Q s):Tr (truth v) Q s:=by induction v using V.casesOn<;>first|exact .ret h|exact P.h h
theorem i_ {x y}:(V.int x).eqv (V.int y)=decide (x=y):=decide_eq_decide.mpr ⟨V.int.inj,ej V.int⟩
theorem Eg {op} {x y} {Q} (h:pC op (.int x) (.int y) Q s):Tr (cC op (.int x) (.int y)) Q s:=by
 induction op with|eq=>exact ⟨_,_,rfl,(i_▸h:Q ((V.int x).eqv (V.int y)) s)⟩|ne=>exact ⟨_,_,rfl,(i_▸(decide_not (p:=x=y)▸h:Q (!decide (x=y)) s):Q (!(V.int x).eqv (V.int y)) s)⟩|isin=>exact h.h|gA=>exact h.h|_=>exact ⟨_,_,rfl,h⟩
theorem vq {op:CO} {a b:V} {Q:Bool->St->Prop} (h:pC op a b Q s):Tr (cC op a b) Q s:=by
 induction a using V.casesOn<;>try exact P.h h
 induction b using V.casesOn<;>try exact P.h h
 exact Eg h
theorem xE {op:BO} {a b:V} (h:rT op a b Q s):Tr (binop op a b) Q s:=by
 cases op<;>try exact P.h h
 ·induction a using V.casesOn<;>try exact P.h h
  induction b using V.casesOn<;>try exact P.h h
  exact .ret h
 ·induction a using V.casesOn<;>try exact P.h h
  induction b using V.casesOn<;>try exact P.h h
  exact .ret h
theorem Aw {Q:Bool×List V->St->Prop} (h:wItems v Q s):Tr (itemsOf v) Q s:=by induction v using V.casesOn<;>first|exact .ret h|exact P.h h
theorem Al {x:M α} {Q:α->St->Prop} (h:mr n (Tr x Q s)):Tr (if fits n then x else fail) Q s:=by
 revert h;unfold mr;induction fits n using Bool.casesOn with|true=>exact id|false=>exact False.elim
theorem mf {t:Bool} {x y:M α} {Q:α->St->Prop} (h:dJ t (Tr x Q s) (Tr y Q s)):Tr (if t then x else y) Q s:=by
 induction t with|true=>exact h|false=>exact h
theorem dJ.mono {t:Bool} (h:dJ t A B) (a:A->A') (b:B->B'):dJ t A' B':=by
 induction t with|true=>exact a h|false=>exact b h
theorem mr.mono (h:mr n A) (a:A->A'):mr n A':=dJ.mono h a id
theorem yz {o:Option V} (h:nU o Q s):Tr (lift o) Q s:=by
 induction o with|none=>exact h.elim|some v=>exact .lift rfl h
theorem KE {k:Int} {x:M V} {Q:VP} (h:dJ (decide (0<=k/\k<=1000)) (P 5 x Q s) False):Tr (if 0<=k/\k<=1000 then x else fail) Q s:=by
 by_cases c:0<=k/\k<=1000
 ·rw [gs c] at h;rw [ep c];exact P.h h
 ·rw [hI c] at h;exact h.elim
theorem Qt (v:V):vf v=v.nb:=by induction v using V.casesOn<;>rfl
abbrev zy (sc:List Int) (d:Nat) (ρ:ag) (e:X):Prop:=∀⦃Q s⦄,wE sc d ρ e Q s->Tr (aY sc gl ct (cD sc gl ct ft d) ρ e) Q s
structure qI (sc:List Int) (d:Nat) (ρ:ag) (l:Xs):Prop where
 e:∀⦃Q s⦄,wEs sc d ρ l Q s->Tr (gT sc gl ct (cD sc gl ct ft d) ρ l) Q s
 a:∀⦃Q s⦄,wc sc d ρ l Q s->Tr (qj sc gl ct (cD sc gl ct ft d) ρ l) Q s
 o:∀⦃Q s⦄,vw sc d ρ l Q s->Tr (qk sc gl ct (cD sc gl ct ft d) ρ l) Q s
theorem NY:qI sc d ρ .nil:=⟨λ_ _ h=> .ret h,λ_ _ h=>h.elim,λ_ _ h=>h.elim⟩
theorem G7 {e:X} {r:Xs} (p:zy sc d ρ e) (q:qI sc d ρ r):qI sc d ρ (.cons e r):=by
 refine ⟨λ_ _ h=> .step (p h) λ_ _ h=> .step (q.e h) λ_ _ h=> .ret h,?_,?_⟩
 ·cases r with|nil=>exact p|cons f r=>exact λ_ _ h=> .step (p h) λ_ _ h=> .step (lM h) λ_ _ h=>mf (h.mono (@q.a _ _) .ret)
 ·cases r with|nil=>exact p|cons f r=>exact λ_ _ h=> .step (p h) λ_ _ h=> .step (lM h) λ_ _ h=>mf (h.mono .ret (@q.o _ _))
theorem eY (ρ:ag) (e:X):∀{Q:VP} {s:St},wE sc d ρ e Q s->Tr (aY sc gl ct (cD sc gl ct ft d) ρ e) Q s:= @(X.rec (motive_1:=zy sc d ρ) (motive_2:=qI sc d ρ)
 (λ_ _ _ h=> .ret h) (λ_ _ _ h=>yz h) (λ_ _ _ h=> .ret h)
 (λ_ i _ _ h=> .step (i.e h) λ_ _ h=>Al (h.mono .ret))
 (λ_ i _ _ h=> .step (i.e h) λ_ _ h=>Al (h.mono P.h))
 (λ_ i _ _ h=> .step (i.e h) λ_ _ h=>h.h)
 (λ_ i _ _ h=> .step (i h) λv _ h=>by induction v using V.casesOn<;>first|exact .ret h|exact False.elim h)
 (λ_ i _ _ h=> .step (i h) λ_ _ h=> .step (lM h) λ_ _ h=> .ret h)
 (λ_ i=>i.a) (λ_ i=>i.o)
 (λ_ _ _ i j k _ _ h=> .step (i h) λ_ _ h=> .step (lM h) λ_ _ h=>mf (h.mono (@j _ _) (@k _ _)))
 (λ_ _ _ i j _ _ h=> .step (i h) λ_ _ h=> .step (j h) λ_ _ h=>xE h)
 (λ_ _ i j _ _ h=> .step (i h) λ_ _ h=> .step (j h) λk _ h=>by
   induction k using V.casesOn<;>first|exact False.elim h|skip
   exact KE h)
 (λ_ _ _ i j _ _ h=> .step (i h) λ_ _ h=> .step (j h) λ_ _ h=> .step (vq h) λ_ _ h=> .ret h)
 (λ_ _ _ _ _ i j k _ _ h=> .step (i h) λ_ _ h=> .step (j h) λ_ _ h=> .step (vq h) λ_ _ h=>mf (h.mono (λh=> .step (k h) λ_ _ h=> .step (vq h) λ_ _ h=> .ret h) .ret))
 (λn _ i Q _ h=> .step (i h) λv s h=> .ret (Qt v▸h:Q (.bool (if n then !v.nb else v.nb)) s))
 (λ_ _ i _ _ h=> .step (i h) λ_ _ h=>h.h)
 (λ_ _ i j _ _ h=> .step (i h) λ_ _ h=> .step (j h) λ_ _ h=>h.h)
 (λ_ _ i j _ _ h=> .step (i h) λ_ _ h=> .step (j h) λ_ _ h=>h.h)
 (λ_ _ i j _ _ h=> .step (i h) λ_ _ h=> .step (j h) λ_ _ h=>h.h)
 (λ_ i _ _ h=> .step (i h) λ_ _ h=>h.h)
 (λ_ _ i _ _ h=> .step (i.e h) λ_ _ h=>h.h)
 (λ_ _ i _ _ h=> .step (i.e h) λ_ _ h=> .step h.h λ_ _ h=> .step h.h λr _ h=>by induction r using V.casesOn<;>first|exact .ret h|exact False.elim h)
 (λ_ _ _ i j _ _ h=> .step (i h) λ_ _ h=> .step h.h λm _ h=> .step (j.e h) λ_ _ h=>by cases m<;>exact h.h)
 (λ_ _ i _ _ h=> .step (i.e h) λ_ _ h=>h.h)
 (λ_ _ _ _ _ _ i _ _ _ h=> .step (i h) λ_ _ h=> .step (Aw h) λ_ _ h=> .step h.h λ_ _ h=>h.h)
 NY (λ_ _=>G7) e)
theorem CZ {o:Option ag} {f:ag->M β} {Q:β->St->Prop} (h:gc o λρ=>Tr (f ρ) Q s):Tr (ac (lift o) f) Q s:=by
 induction o with|none=>exact h.elim|some ρ=>exact .ac (.lift rfl h)
theorem gc.mono {o:Option ag} {A B:ag->Prop} (h:gc o A) (q:∀ρ,A ρ->B ρ):gc o B:=by
 induction o with|none=>exact h.elim|some ρ=>exact q _ h
abbrev uV (sc:List Int) (d:Nat) (x:S):Prop:=∀ρ⦃Q s⦄,wS sc d x ρ Q s->Tr (iM sc gl ct (cD sc gl ct ft d) x ρ) (λp s=>Q p.1 p.2 s) s
abbrev rP (sc:List Int) (d:Nat) (x:Ss):Prop:=∀ρ⦃Q s⦄,wSs sc d x ρ Q s->Tr (dF sc gl ct (cD sc gl ct ft d) x ρ) (λp s=>Q p.1 p.2 s) s
theorem Cr {x} {r} (i:uV sc d x) (j:rP sc d r):rP sc d (.cons x r):=λ_ _ _ h=> .step (i _ h) λp _ h=>by
 obtain ⟨f,_⟩:=p;induction f with|next=>exact j _ h|cont=>exact .ret h|ret v=>exact .ret h
theorem Nm (x:S):uV sc d x:=S.rec (motive_1:=uV sc d) (motive_2:=rP sc d)
 (λe ρ _ _ h=> .step (eY ρ e h) λ_ _ h=> .ret h) (λ_ e ρ _ _ h=> .step (eY ρ e h) λ_ _ h=> .ret h)
 (λo _ e ρ _ _ h=> .step (eY ρ e h) λ_ _ h=> .step (eY ρ o h) λ_ _ h=> .step h.h λ_ _ h=> .ret h)
 (λo i e ρ _ _ h=> .step (eY ρ e h) λ_ _ h=> .step (eY ρ o h) λ_ _ h=> .step (eY ρ i h) λ_ _ h=> .step h.h λ_ _ h=> .ret h)
 (λ_ e ρ _ _ h=> .step (eY ρ e h) λ_ _ h=>CZ (h.mono λ_ h=> .ret h))
 (λ_ _ e ρ _ _ h=> .step (yz h) λa _ h=> .step (eY ρ e h) λb _ h=>by
   induction a using V.casesOn<;>try exact False.elim h
   induction b using V.casesOn<;>try exact False.elim h
   exact .step (xE h) λ_ _ h=> .ret h)
 (λe ρ _ _ h=> .step (eY ρ e h) λ_ _ h=> .ret h)
 (λc _ _ i j ρ _ _ h=> .step (eY ρ c h) λ_ _ h=> .step (lM h) λ_ _ h=>mf (h.mono (@i _ _ _) (@j _ _ _)))
 (λ_ _ _ _ _ _ h=>h.h)
 (λ_ _ e _ _ ρ _ _ h=> .step (eY ρ e h) λ_ _ h=> .step (Aw h) λ_ _ h=>h.h)
 (λ_ _ _ h=> .ret h) (λ_ _ _ h=> .ret h) (λ_ _ _ h=>h.elim) (λ_ i=>i) (λ_ _ _ h=> .ret h) (λ_ _=>Cr) x
theorem pT (x) (ρ) {Q}:wSs sc d x ρ Q s->Tr (dF sc gl ct (cD sc gl ct ft d) x ρ) (λp s=>Q p.1 p.2 s) s:=
 λh=>(Ss.ind (P:=rP sc d) (λ_ _ _ h=> .ret h) (λx _=>Cr (Nm x)) x) ρ h
end
def fin (Q:V->St->Prop):Fl->ag->St->Prop
 | .ret v,_,s=>Q v s|_,_,s=>Q .none s
theorem aq.go {f} (hl:vs.length=(ft f).np/\(ft f).np<=20) (h:wSs sc d (ft f).body (io (ft f).slots vs) (fin Q) s):aq sc (d+1) f vs Q s:=by
 refine ⟨?_⟩;rw [Mr hl];refine .step (pT _ _ h) λp s' h=> ?_;obtain ⟨fl,ρ⟩:=p;induction fl with|ret v=>exact .ret h|next=>exact .ret h|cont=>exact .ret h
theorem cg {f} (hl:(Nat.beq vs.length (ft f).np&&Nat.ble (ft f).np 20)=true) (h:wSs sc d (ft f).body (io (ft f).slots vs) (fin Q) s):aq sc (d+1) f vs Q s:= .go ⟨Nat.eq_of_beq_eq_true (aZ hl).1,nk (aZ hl).2⟩ h
variable {s' fE:St}{o':O}{m' is:List Nat}{a c j:Nat}{src:V}{af:List (V×V)}{hi:Int}{elt:X}{bD:Xs}{all:Bool×List V}{σ:Type}{tup:Bool}
abbrev HW (m:List Nat) (s s':St):Prop:=∀i,i<s.length->i∉m->s'[i]? =s[i]?
structure Fr (m:List Nat) (s s':St):Prop where
 len:s.length<=s'.length
 at':HW m s s'
theorem bE {i} (h:s[i]? =some o):i<s.length:=(dB h).1
theorem Fr.ay {m}:Fr m s s:=⟨g6 _,λ_ _ _=>rfl⟩
theorem Fr.trans {m} (a:Fr m s s') (b:Fr m s' fE):Fr m s fE:=
 ⟨df a.len b.len,λi h n=>(b.at' i (i1 h a.len) n).trans (a.at' i h n)⟩
theorem Fr.sub {m} (a:Fr m s s') (h:∀i∈m,i∈m'):Fr m' s s':=⟨a.len,λi k n=>a.at' i k λz=>n (h i z)⟩
theorem Fr.cut {m} (a:Fr m s s') (h:∀i∈m,i<s.length->i∈m'):Fr m' s s':=⟨a.len,λi k n=>a.at' i k λz=>n (h i z k)⟩
theorem Fr.get {m} {i} (a:Fr m s s') (n:i∉m) (h:s[i]? =some o):s'[i]? =some o:=(a.at' i (bE h) n).trans h
theorem Fr.lt {m} {i} (a:Fr m s s') (h:i<s.length):i<s'.length:=i1 h a.len
theorem aI {m} (a:Fr [] s s'):Fr m s s':=a.sub λ_=>bg
inductive E1 {α:Type} (p:α->Prop):Prop|mk (a:α):p a->E1 p
inductive E2 {α β:Type} (p:α->β->Prop):Prop|mk (a:α) (b:β):p a b->E2 p
inductive E3 {α β γ:Type} (p:α->β->γ->Prop):Prop|mk (a:α) (b:β) (c:γ):p a b c->E3 p
inductive E4 {α β γ δ:Type} (p:α->β->γ->δ->Prop):Prop|mk (a:α) (b:β) (c:γ) (d:δ):p a b c d->E4 p
inductive E5 {α β γ δ ε:Type} (p:α->β->γ->δ->ε->Prop):Prop|mk (a:α) (b:β) (c:γ) (d:δ) (e:ε):p a b c d e->E5 p
inductive E6 {α β γ δ ε ζ:Type} (p:α->β->γ->δ->ε->ζ->Prop):Prop|mk (a:α) (b:β) (c:γ) (d:δ) (e:ε) (f:ζ):p a b c d e f->E6 p
inductive E7 {α β γ δ ε ζ η:Type} (p:α->β->γ->δ->ε->ζ->η->Prop):Prop|mk (a:α) (b:β) (c:γ) (d:δ) (e:ε) (f:ζ) (g:η):p a b c d e f g->E7 p
inductive A3 (a b c):Prop|mk:a->b->c->A3 a b c
inductive A4 (a b c d):Prop|mk:a->b->c->d->A4 a b c d
inductive A5 (a b c d e):Prop|mk:a->b->c->d->e->A5 a b c d e
inductive A6 (a b c d e f):Prop|mk:a->b->c->d->e->f->A6 a b c d e f
inductive A7 (a b c d e f g):Prop|mk:a->b->c->d->e->f->g->A7 a b c d e f g
inductive A8 (a b c d e f g h):Prop|mk:a->b->c->d->e->f->g->h->A8 a b c d e f g h
theorem Fr.c1 {m} (f:Fr [a] s s'):Fr (a::m) s s':=f.sub λ_ h=>aj h▸ai
theorem Fr.c2 {b} {m} (f:Fr [b] s s'):Fr (a::b::m) s s':=f.sub λ_ h=>aj h▸bn
theorem Fr.c3 {b} {m} (f:Fr [c] s s'):Fr (a::b::c::m) s s':=f.sub λ_ h=>aj h▸ci
theorem Fr.ne {i} (f:Fr [a] s s') (n:i≠a) (h:s[i]? =some o):s'[i]? =some o:=f.get (λe=>n (aj e)) h
theorem Fr.gn {i:Nat} (f:Fr [] s s') (h:s[i]? =some o):s'[i]? =some o:=f.get ba h
theorem c_ (q:∀s',Fr [] s s'->s'[s.length]? =some o->s.length<s'.length->Q (.ref s.length) s'):P 5 (bN o) Q s:=
 ⟨_,_,rfl,q _ ⟨by simp,λi h _=>mc h⟩ (by simp) (by simp)⟩
theorem pI {i} {Q} (h:s[i]? =some o') (q:∀s',Fr [i] s s'->s'[i]? =some o->s'.length=s.length->Q () s'):Tr (i8 i o) Q s:=by have hl:=bE h;refine ⟨(),_,ep hl,q _ ⟨by simp,λj _ n=> ?_⟩ (by simp [hl]) (by simp)⟩;rw [JN];exact λe=>n (by simp [e])
theorem Tr.getL {i} {Q} (h:s[i]? =some (.list vs)) (q:Q vs s):Tr (getL i) Q s:= .ac (.bC h (.ret q))
theorem Tr.getD {i} {vs} {Q} (h:s[i]? =some (.dict vs)) (q:Q vs s):Tr (sG i) Q s:= .ac (.bC h (.ret q))
section rules
theorem am {i} {fs} (h:s[i]? =some (.inst c fs)) (hm:((ct c).meths.lookup n).isNone=true) (hf:aH fs n=some v) (q:Q v s):P 7 (getAttr ct (.ref i) n) Q s:=by refine ⟨?_⟩;refine .ac (.bC h ?_);simp only [hm,if_true];exact .lift hf q
theorem cA {k} (hk:0<=k/\k<2^60) (h:vs[k.toNat]? =some v) (q:Q v s):P 8 (index (.tup vs) (.int k)) Q s:=by refine ⟨?_⟩;show Tr (if _ then _ else _) Q s;rw [ep hk];exact .lift h q
theorem ah {k} (hk:(decide (0<=k)&&decide (k<2^60))=true) (h:vs[k.toNat]? =some v) (q:Q v s):P 8 (index (.tup vs) (.int k)) Q s:=cA ⟨aa (aZ hk).1,aa (aZ hk).2⟩ h q
theorem ce {i} {k} (hl:s[i]? =some (.list vs)) (hk:0<=k/\k<2^60) (h:vs[k.toNat]? =some v) (q:Q v s):P 8 (index (.ref i) (.int k)) Q s:=by refine ⟨.ac (.bC hl ?_)⟩;show Tr (if _ then _ else _) Q s;rw [ep hk];exact .lift h q
theorem eK {i} {k} (hl:s[i]? =some (.dict af)) (hk:bf af k=true) (h:aE af k=some v) (q:Q v s):P 8 (index (.ref i) k) Q s:=by refine ⟨.ac (.bC hl ?_)⟩;show Tr (if _ then _ else _) Q s;rw [ep hk];exact .lift h q
theorem bP (h:vs.length<=100000) (q:Q (.int vs.length) s):P 13 (builtin .len [.tup vs]) Q s:=by refine ⟨?_⟩;show Tr (if _ then _ else _) Q s;rw [ep (by simp [fits,h])];exact .ret q
theorem dW {i} (hl:s[i]? =some (.list vs)) (h:vs.length<=100000) (q:Q (.int vs.length) s):P 13 (builtin .len [.ref i]) Q s:=by refine ⟨.ac (.getL hl ?_)⟩;rw [ep (by simp [fits,h])];exact .ret q
theorem MV (q:Q (.tup vs) s):P 13 (builtin .tuple [.tup vs]) Q s:=⟨.ret q⟩
theorem oi {i} (hl:s[i]? =some (.list vs)) (h:vs.length<=100000) (q:Q (.tup vs) s):P 13 (builtin .tuple [.ref i]) Q s:=by refine ⟨.ac (.getL hl ?_)⟩;rw [ep (by simp [fits,h])];exact .ret q
theorem qU (h:vs.length<=100000) (q:∀s',Fr [] s s'->s'[s.length]? =some (.list vs)->s.length<s'.length->Q (.ref s.length) s'):P 13 (builtin .list [.tup vs]) Q s:=by refine ⟨?_⟩;show Tr (if _ then _ else _) Q s;rw [ep (by simp [fits,h])];exact (c_ q).h
theorem lZ {n} (h:n.natAbs<=100000) (q:Q (.cW 0 n) s):P 13 (builtin .range [.int n]) Q s:=by refine ⟨?_⟩;show Tr (if _ then _ else _) Q s;rw [ep h];exact .ret q
theorem M7 {a n} (h:a.natAbs<=100000/\n.natAbs<=100000) (q:Q (.cW a n) s):P 13 (builtin .range [.int a,.int n]) Q s:=by refine ⟨?_⟩;show Tr (if _ then _ else _) Q s;rw [ep h];exact .ret q
theorem xI {n} (h:0<=n/\n<100) (q:Q (.str (Str.ofString (toString n))) s):P 13 (builtin .str [.int n]) Q s:=by refine ⟨?_⟩;show Tr (if _ then _ else _) Q s;rw [ep h];exact .ret q
theorem qJ {i} (hl:s[i]? =some (.list vs)) (h:vs.length<=100000) (q:∀s',Fr [] s s'->s'[s.length]? =some (.list vs.reverse)->s.length<s'.length->Q (.ref s.length) s'):P 11 (pA (.ref i)) Q s:=by refine ⟨.ac (.getL hl ?_)⟩;rw [ep h];exact (c_ q).h
theorem nQ {k} (h:1<=k/\k.toNat<=vs.length/\vs.length<=100000) (q:Q (.tup (vs.drop k.toNat)) s):P 9 (sliceFrom (.tup vs) (.int k)) Q s:=by refine ⟨?_⟩;show Tr (if _ then _ else _) Q s;rw [ep h];exact .ret q
theorem m6 {k} (h:0<=k/\k.toNat<=vs.length/\vs.length<=100000) (q:Q (.tup (vs.take k.toNat)) s):P 10 (sliceTo sc (.tup vs) (.int k)) Q s:=by refine ⟨?_⟩;show Tr (if _ then _ else _) Q s;rw [ep h];exact .ret q
theorem i0 {a b} (h:a.length+b.length<=100000) (q:Q (.tup (a++b)) s):P 2 (binop .add (.tup a) (.tup b)) Q s:=by refine ⟨?_⟩;show Tr (if _ then _ else _) Q s;rw [ep h];exact .ret q
theorem lV {i} {a b} (ha:s[i]? =some (.list a)) (hb:s[j]? =some (.list b)) (h:a.length+b.length<=100000) (q:∀s',Fr [] s s'->s'[s.length]? =some (.list (a++b))->s.length<s'.length->Q (.ref s.length) s'):P 2 (binop .add (.ref i) (.ref j)) Q s:=by refine ⟨.ac (.getL ha (.ac (.getL hb ?_)))⟩;rw [ep h];exact (c_ q).h
theorem rH {a b} (h:a.natAbs<2^60) (q:Q (.int (a*b)) s):P 2 (binop .mul (.int a) (.int b)) Q s:=by refine ⟨?_⟩;show Tr (if _ then _ else _) Q s;rw [ep h];exact .ret q
theorem cB {a b} (h:0<b/\a.natAbs<2^60) (q:Q (.int (a/b)) s):P 2 (binop .div (.int a) (.int b)) Q s:=by refine ⟨?_⟩;show Tr (if _ then _ else _) Q s;rw [ep h];exact .ret q
theorem bH {a b} (h:0<b) (q:Q (.int (a%b)) s):P 2 (binop .mod (.int a) (.int b)) Q s:=by refine ⟨?_⟩;show Tr (if _ then _ else _) Q s;rw [ep h];exact .ret q
theorem tE {a b} (q:Q (.int (Builtin.bitAnd a b)) s):P 2 (binop .and (.int a) (.int b)) Q s:=⟨.ret q⟩
theorem Ar {a b} (q:Q (.int (Builtin.bitOr a b)) s):P 2 (binop .or (.int a) (.int b)) Q s:=⟨.ret q⟩
theorem Cn {i} {Q} (hl:s[i]? =some (.list vs)) (h:vs.length<=100000) (q:Q (!vs.isEmpty) s):P 0 (truth (.ref i)) Q s:=by refine ⟨.ac (.bC hl ?_)⟩;show Tr (if _ then _ else _) Q s;rw [ep h];exact .ret q
theorem uD {a b} (h:(a.pure&&b.pure&&decide (a.dep<=20))=true):nW a b=true:=(ej (·||_) h).trans (Bool.true_or _)
theorem sI {a b} {Q} (h:nW a b=true) (q:Q (V.eqv a b) s):P 1 (cC .eq a b) Q s:=by refine ⟨?_⟩;show Tr (if _ then _ else _) Q s;rw [ep h];exact .ret q
theorem mW {a b} {Q} (h:nW a b=true) (q:Q (!V.eqv a b) s):P 1 (cC .ne a b) Q s:=by refine ⟨?_⟩;show Tr (if _ then _ else _) Q s;rw [ep h];exact .ret q
theorem h_ {x} {b} {Q} (h:dj x vs=some b) (q:Q b s):P 1 (cC .isin x (.tup vs)) Q s:=⟨.lift h q⟩
theorem yS {x} {b} {Q} (h:dj x vs=some b) (q:Q (!b) s):P 1 (cC .gA x (.tup vs)) Q s:=⟨.ac (.lift h (.ret q))⟩
theorem ta {k} {Q} (q:Q (ck n k).isSome s):P 1 (cC .isin (.int k) (.tab n)) Q s:=⟨.ret q⟩
theorem u8 {i} {x} {b} {Q} (hl:s[i]? =some (.list vs)) (h:dj x vs=some b) (q:Q b s):P 1 (cC .isin x (.ref i)) Q s:=⟨.ac (.bC hl (.lift h q))⟩
theorem zP {i} {x} {b} {Q} (hl:s[i]? =some (.list vs)) (h:dj x vs=some b) (q:Q (!b) s):P 1 (cC .gA x (.ref i)) Q s:=⟨.ac (.ac (.bC hl (.lift h (.ret q))))⟩
theorem mL {i} {x} {Q} (hl:s[i]? =some (.dict af)) (h:bf af x=true) (q:Q (aE af x).isSome s):P 1 (cC .isin x (.ref i)) Q s:=by refine ⟨.ac (.bC hl ?_)⟩;show Tr (if _ then _ else _) Q s;rw [ep h];exact .ret q
theorem mA {i} {x} {Q} (hl:s[i]? =some (.dict af)) (h:bf af x=true) (q:Q (!(aE af x).isSome) s):P 1 (cC .gA x (.ref i)) Q s:=by refine ⟨.ac (.ac (.bC hl ?_))⟩;show Tr (if _ then _ else _) _ s;rw [ep h];exact .ret (.ret q)
theorem cO {i f} {fs} {Q} (h:s[i]? =some (.inst c fs)) (hf:(aH fs n).isNone=true) (hm:(ct c).meths.lookup n=some f) (q:Q (.fn f) s):P 12 (ie ct (.ref i) n) Q s:=by
 refine ⟨.ac (.bC h ?_)⟩;have e:(aH fs n).isSome=false:=by induction h:aH fs n using Option.casesOn with|none=>rfl|some _=>rw [h] at hf;trivial
 show Tr (if (aH fs n).isSome=true then _ else _) Q s;rw [e,hm];exact .ret q
theorem ee {i} {Q} (h:s[i]? =some (.list vs)) (q:Q .append s):P 12 (ie ct (.ref i) 0) Q s:=⟨.ac (.bC h (.ret q))⟩
theorem GH {i} {Q} (h:s[i]? =some (.list vs)) (q:Q .pop s):P 12 (ie ct (.ref i) 1) Q s:=⟨.ac (.bC h (.ret q))⟩
theorem pJ {i} {vs} {Q} (h:s[i]? =some (.dict vs)) (q:Q .get s):P 12 (ie ct (.ref i) 2) Q s:=⟨.ac (.bC h (.ret q))⟩
theorem yr {i} {Q} (q:Q (.ck i) s):P 12 (ie ct (.tab i) 2) Q s:=⟨.ret q⟩
theorem eg {i} (h:s[i]? =some (.list vs)) (hl:vs.length<=100000) (q:∀s',Fr [i] s s'->s'[i]? =some (.list (vs++ [v]))->s'.length=s.length->Q .none s'):P 4 (ik .append (.ref i) [v]) Q s:=by refine ⟨.ac (.getL h ?_)⟩;rw [ep hl];exact .ac (pI h λs' a b c=> .ret (q s' a b c))
theorem Jb {i} (h:s[i]? =some (.list (vs++ [v]))) (hl:vs.length<100000) (q:∀s',Fr [i] s s'->s'[i]? =some (.list vs)->s'.length=s.length->Q v s'):P 4 (ik .pop (.ref i) []) Q s:=by refine ⟨.ac (.getL h ?_)⟩;simp only [List.getLast?_concat];rw [ep (by simp;exact oo 0x18d05869ff2001 hl)];refine .ac (pI h λs' a b c=> .ret (q s' a ?_ c));rw [b,List.dropLast_concat]
theorem oU {i} {k d} (h:s[i]? =some (.dict af)) (hk:bf af k=true) (q:Q ((aE af k).getD d) s):P 4 (ik .get (.ref i) [k,d]) Q s:=by refine ⟨.ac (.getD h ?_)⟩;rw [ep hk];exact .ret q
theorem yU {t} {o} {k d} (q:Q (.int ((ck t k).getD d)) s):P 4 (ik (.ck t) o [.int k,.int d]) Q s:=⟨.ret q⟩
theorem jJ {i} {fs} {Q} (h:s[i]? =some (.inst c fs)) (hm:((ct c).meths.lookup n).isNone=true/\fs.length<=900) (q:∀s',Fr [i] s s'->s'[i]? =some (.inst c (bV fs n v))->s'.length=s.length->Q () s'):P 16 (setAttr ct (.ref i) n v) Q s:=by refine ⟨.ac (.bC h ?_)⟩;show Tr (if _ then _ else _) Q s;rw [ep hm];exact pI h q
theorem tS {i} {k} {Q} (h:s[i]? =some (.list vs)) (hk:0<=k/\k<2^60/\k.toNat<vs.length) (q:∀s',Fr [i] s s'->s'[i]? =some (.list (vs.set k.toNat v))->s'.length=s.length->Q () s'):P 17 (setIndex (.ref i) (.int k) v) Q s:=by refine ⟨.ac (.bC h ?_)⟩;show Tr (if _ then _ else _) Q s;rw [ep hk];exact pI h q
theorem eF {i} {k} {Q} (h:s[i]? =some (.dict af)) (hk:bf af k=true) (hl:af.length<=100000) (q:∀s',Fr [i] s s'->s'[i]? =some (.dict (aV af k v))->s'.length=s.length->Q () s'):P 17 (setIndex (.ref i) k v) Q s:=by refine ⟨.ac (.bC h ?_)⟩;show Tr (if _ then _ else _) Q s;rw [ep (by simp [hk,hl])];exact pI h q
theorem lT (q:∀s',Fr [] s s'->s'[s.length]? =some (.dict [])->s.length<s'.length->Q (.ref s.length) s'):P 6 (ac (lift (pairUp [])) λps=>if ps.length<=15 then ac (fp [] ps) λaf=>bN (.dict af) else fail) Q s:=
 ⟨.ac (.lift rfl (.ac (.ret (c_ q).h)))⟩
theorem Nb {k} (hk:keyOk k=true) (q:∀s',Fr [] s s'->s'[s.length]? =some (.dict [(k,v)])->s.length<s'.length->Q (.ref s.length) s'):P 6 (ac (lift (pairUp [k,v])) λps=>if ps.length<=15 then ac (fp [] ps) λaf=>bN (.dict af) else fail) Q s:=by refine ⟨.ac (.lift rfl ?_)⟩;show Tr (ac (if (keyOk k&&_)=true then _ else _) _) Q s;rw [hk];exact .ac (.ret (c_ q).h)
theorem cV {i} {Q} (h:s[i]? =some (.list vs)) (hl:vs.length<=100000) (q:Q (false,vs) s):P 3 (itemsOf (.ref i)) Q s:=by refine ⟨.ac (.bC h ?_)⟩;show Tr (if _ then _ else _) Q s;rw [ep (by simp [fits,hl])];exact .ret q
theorem uZ {i} {Q} (h:s[i]? =some (.dict af)) (hl:af.length<=100000) (q:Q (true,af.map (·.1)) s):P 3 (itemsOf (.ref i)) Q s:=by refine ⟨.ac (.bC h ?_)⟩;show Tr (if _ then _ else _) Q s;rw [ep (by simp [fits,hl])];exact .ret q
theorem kq {lo} {Q} (h:lo.natAbs<=100000/\hi.natAbs<=100000) (q:Q (false,intsFrom lo (hi-lo).toNat) s):P 3 (itemsOf (.cW lo hi)) Q s:=by refine ⟨?_⟩;show Tr (if _ then _ else _) Q s;rw [ep h];exact .ret q
end rules
theorem rq {t} (h:t=true) (a:A):dJ t A B:=by subst h;exact a
theorem jz {t} (h:t=false) (b:B):dJ t A B:=by subst h;exact b
theorem im {t} (a:t=true->A) (b:t=false->B):dJ t A B:=by
 induction t with|true=>exact a rfl|false=>exact b rfl
theorem nq {t} (b:t=false->B) (a:t=true->A):dJ t A B:=im a b
theorem az {p} [Decidable p] (a:p->A) (b:¬p->B):dJ (decide p) A B:=
 im (λh=>a (aa h)) (λh=>b (of_decide_eq_false h))
theorem bW {p} [Decidable p] (h:p) (a:A):dJ (decide p) A B:=rq (gs h) a
theorem aO {p} [Decidable p] (h:¬p) (b:B):dJ (decide p) A B:=jz (hI h) b
def eO (src:V) (vs:Bool×List V) (s:St):Prop:=match src with| .ref i=>s[i]? =some (.list vs.2)/\vs.1=false\/∃af,s[i]? =some (.dict af)/\vs.1=true/\af.map (·.1)=vs.2|_=>True
theorem k9 {vs} {Q} (h:eO src vs s) (q:Q () s):Tr (jp src vs) Q s:=by
 unfold jp
 split
 ·rcases h with ⟨h,e⟩|⟨af,h,k,t⟩
  ·refine .ac (.bC h ?_);show Tr (if _ then _ else _) Q s;rw [ep ⟨e,rfl⟩];exact .ret q
  ·refine .ac (.bC h ?_);show Tr (if _ then _ else _) Q s;rw [ep ⟨k,t⟩];exact .ret q
 ·exact .ret q
section
variable {b:Ss} {Q:Fl->ag->St->Prop}
theorem dH (h:eO src all s) (q:Q .next ρ s):WF sc d src all is tup b [] ρ Q s:=by refine ⟨?_⟩;exact .ac (k9 h (.ret q))
abbrev vZ (sc:List Int) (d:Nat) (src:V) (all:Bool×List V) (is:List Nat) (tup:Bool) (b:Ss) (vs:List V) (Q:FP):FP
 | .ret v,ρ,s=>Q (.ret v) ρ s|_,ρ,s=>WF sc d src all is tup b vs ρ Q s
abbrev lH (sc:List Int) (d:Nat) (b:Ss) (K:FP) (s:St) (ρ:ag):Prop:=wSs sc d b ρ K s
theorem bz (h:eO src all s) (q:gc (dN is tup v ρ) (lH sc d b (vZ sc d src all is tup b vs Q) s)):WF sc d src all is tup b (v::vs) ρ Q s:=by
 refine ⟨?_⟩;refine .ac (k9 h (CZ (q.mono λk h=> .step (pT _ _ h) λp s' h=> ?_)));obtain ⟨f,t⟩:=p;induction f with|ret v=>exact .ret h|next=>exact h.h|cont=>exact h.h
abbrev Fj (Q K:Fl->ag->St->Prop):Prop:=∀{v ρ s},Q (.ret v) ρ s->K (.ret v) ρ s
structure LK (J:ag->St->Prop) (Q K:Fl->ag->St->Prop):Prop where
 next:∀{ρ s},J ρ s->K .next ρ s
 cont:∀{ρ s},J ρ s->K .cont ρ s
 ret:Fj Q K
theorem oO (I:Nat->ag->St->Prop) {c} {b} {m} (start:I m ρ s) (hm:m<hX)
 (step:∀K n ρ s,I n ρ s->LK (λbr s'=>∃k,k<n/\I k br s') Q K->wE sc d ρ c (rW (wSs sc d b ρ K) (Q .next ρ)) s):
 WW sc d c b ρ Q s:=by
 refine ⟨?_⟩;generalize hX=N at hm;induction N generalizing m ρ s with|zero=>exact (oq 61 hm).elim|succ N D=>
  refine .ac (.step (eY _ _ (step (λf br s'=>match f with| .ret v=>Q (.ret v) br s'|_=>∃k,k<m/\I k br s') _ _ _ start ⟨id,id,id⟩)) λv s h=>(lM h).mono λt s h=> ?_)
  refine mf (h.mono (λh=> .step (pT _ _ h) λp s' h=> ?_) λh=> .ret h);obtain ⟨f,z⟩:=p;induction f with|ret v=>exact .ret h|next=>obtain ⟨k,hk,h⟩:=h;exact D h (oq 62 hm hk)|cont=>obtain ⟨k,hk,h⟩:=h;exact D h (oq 62 hm hk)
theorem oR (I:List V->List V->ag->St->Prop):∀(vs done) ρ s,I done vs ρ s->
 (∀done vs ρ s,I done vs ρ s->eO src all s)->
 (∀ρ s,∀done,I done [] ρ s->Q .next ρ s)->
 (∀K done v vs ρ s,I done (v::vs) ρ s->LK (I (done++ [v]) vs) Q K->gc (dN is tup v ρ) (lH sc d b K s))->WF sc d src all is tup b vs ρ Q s:=by
 intro t;induction t with|nil=>intro done ρ s h st e _;exact dH (st _ _ _ _ h) (e _ _ _ h)|cons v vs k=>intro done ρ s h st e step;exact bz (st _ _ _ _ h) (step (vZ sc d src all is tup b vs Q) done v vs ρ s h ⟨λh=>k _ _ _ h st e step,λh=>k _ _ _ h st e step,id⟩)
abbrev Be (Q:Option V->St->Prop) (v:V) (s:St):Prop:=Q (some v) s
def oV (sc:List Int) (d:Nat) (ρ:ag) (elt:X):Xs->(Option V->St->Prop)->St->Prop
 | .nil,Q,s=>wE sc d ρ elt (Be Q) s| .cons c .nil,Q,s=>wE sc d ρ c (rW (wE sc d ρ elt (Be Q)) (Q none)) s|_,_,_=>False
theorem tK {Q} (h:oV sc d ρ elt bD Q s):
 Tr (ac (mZ sc gl ct (cD sc gl ct ft d) ρ bD) λok=>if ok then ac (aY sc gl ct (cD sc gl ct ft d) ρ elt) λy=>ret (some y) else ret none) Q s:=by
 cases bD with|nil=>exact .ac (.ret (.step (eY _ _ h) λ_ _ h=> .ret h))|cons c r=>
  cases r with|nil=>exact .ac (.step (eY _ _ h) λ_ _ h=>(lM h).mono λt s h=>mf (h.mono (λh=> .step (eY _ _ h) λ_ _ h=> .ret h) .ret))|cons _ _=>exact h.elim
theorem Kn (I:List V->List V->List V->St->Prop) {ρ} {Q}:∀(vs done k) s,I done k vs s->
 (∀done k vs s,I done k vs s->eO src all s)->
 (∀done zs s,I done (k++zs) [] s->Q zs s)->
 (∀done k v vs s,I done k (v::vs) s->oV sc d (some v::ρ) elt bD (λo s'=>I (done++ [v]) (k++o.toList) vs s') s)->WC sc d src all ρ elt bD vs Q s:=by
 intro t;induction t generalizing Q with|nil=>intro done k s h st e _;refine ⟨?_⟩;exact .ac (k9 (st _ _ _ _ h) (.ret (e done [] _ (by rw [hR];exact h))))|cons v vs z=>
  intro done k s h st e step;refine ⟨?_⟩;refine .ac (k9 (st _ _ _ _ h) (.ac ?_));refine (tK (step _ _ _ _ _ h)).mono λo s' h=> .ac<|(z _ _ s' h st (λdone zs s h=> ?_) step).h;refine .ret (e done _ s ?_);induction o with|none=>simpa using h|some y=>simpa using h
theorem g8 {ρ} {Q} (st:eO src all s) (q:Q [] s):WC sc d src all ρ elt bD [] Q s:=by refine ⟨?_⟩;exact .ac (k9 st (.ret q))
abbrev Ol (o:Option V) (Q:List V->St->Prop) (r:List V) (s:St):Prop:=Q (o.toList++r) s
abbrev Qg (sc:List Int) (d:Nat) (src:V) (all:Bool×List V) (ρ:ag) (elt:X) (bD:Xs) (vs:List V) (Q:List V->St->Prop) (o:Option V) (s:St):Prop:=WC sc d src all ρ elt bD vs (Ol o Q) s
theorem gS {ρ} {Q} (st:eO src all s)
 (q:oV sc d (some v::ρ) elt bD (Qg sc d src all ρ elt bD vs Q) s):WC sc d src all ρ elt bD (v::vs) Q s:=by
 refine ⟨?_⟩;refine .ac (k9 st (.ac ?_));refine (tK q).mono λo s' h=> .ac (h.h.mono λr s h=> .ret ?_);induction o with|none=>exact h|some y=>exact h
end
theorem vk {f} (I:List α->List V->List α->St->Prop) {ρ} {Q}:∀(l done) k s,I done k l s->
 (∀done k l s,I done k l s->eO src all s)->
 (∀done zs s,I done (k++zs) [] s->Q zs s)->
 (∀done k v l s,I done k (v::l) s->oV sc d (some (f v)::ρ) elt bD (λo s'=>I (done++ [v]) (k++o.toList) l s') s)->WC sc d src all ρ elt bD (l.map f) Q s:=by
 intro t;induction t generalizing Q with|nil=>intro done k s h st e _;exact g8 (st _ _ _ _ h) (e done [] _ (by rw [hR];exact h))|cons v l z=>
  intro done k s h st e step;refine ⟨?_⟩;refine .ac (k9 (st _ _ _ _ h) (.ac ?_));refine (tK (step _ _ _ _ _ h)).mono λo s' h=> .ac<|(z _ _ s' h st (λdone zs s h=> ?_) step).h;refine .ret (e done _ s ?_);induction o with|none=>rw [show k++Option.toList none=k from hR _] at h;exact h|some y=>rw [DZ] at h;exact h
theorem Jw {f} {b} {Q} (I:List α->List α->ag->St->Prop):∀(l done) ρ s,I done l ρ s->
 (∀done l ρ s,I done l ρ s->eO src all s)->
 (∀ρ s done,I done [] ρ s->Q .next ρ s)->
 (∀K done v vs ρ s,I done (v::vs) ρ s->LK (I (done++ [v]) vs) Q K->gc (dN is tup (f v) ρ) (lH sc d b K s))->WF sc d src all is tup b (l.map f) ρ Q s:=by
 intro t;induction t with|nil=>intro done ρ s h st e _;exact dH (st _ _ _ _ h) (e _ _ _ h)|cons v vs k=>intro done ρ s h st e step;exact bz (st _ _ _ _ h) (step (vZ sc d src all is tup b (vs.map _) Q) done v vs ρ s h ⟨λh=>k _ _ _ h st e step,λh=>k _ _ _ h st e step,id⟩)
abbrev Hk (Q K:FP):Prop:=∀{v ρ s},Q (.ret v) ρ s->K (.ret v) ρ s
structure LE {σ:Type} (I:St->Prop) (E:σ->ag) (Q K:FP):Prop where
 next:∀x {s},I s->K .next (E x) s
 cont:∀x {s},I s->K .cont (E x) s
 ret:Hk Q K
theorem qP {b} {Q} E (I:List V->List V->St->Prop) (vs done) (x:σ) s (h:I done vs s)
 (st:∀done vs s,I done vs s->eO src all s) (e:∀x s done,I done [] s->Q .next (E x) s)
 (step:∀K done v vs x s,I done (v::vs) s->LE (I (done++ [v]) vs) E Q K->gc (dN is tup v (E x)) (lH sc d b K s)):WF sc d src all is tup b vs (E x) Q s:=
 oR (λdone vs ρ s=>∃x,ρ=E x/\I done vs s) vs done (E x) s ⟨x,rfl,h⟩ (λ_ _ _ _=>(by rintro ⟨_,_,h⟩;exact st _ _ _ h))
  (λ_ _ _=>(by rintro ⟨_,k,h⟩;exact k▸e _ _ _ h)) λK done v vs _ s=>(by rintro ⟨x,k,h⟩ t;exact k▸step K done v vs x s h ⟨λx _ h=>t.next ⟨x,rfl,h⟩,λx _ h=>t.cont ⟨x,rfl,h⟩,t.ret⟩)
theorem mV {o} {Q} (h:o=some v) (q:Q v s):nU o Q s:=h▸q
variable {ts ae:List Kd}{k k' h:Nat}{t t':Kd}
set_option genCtorIdx true in
inductive Kd where
 |p (n:Nat)|v (i:Nat)|ar (x:Kd)|a0 (h:Nat)|a1 (h:Nat) (x:Kd)|a2 (h:Nat) (x y:Kd)|b (x:Kd)
def cK:Kd->V:=Kd.rec (λn=> .ref n) (λi=> .tab i) (λ_ x=> .tup [x]) (λh=> .int h) (λh _ x=> .tup [.ref h,x,x]) (λh _ _ x y=> .tup [.ref h,x,y,x]) λ_ x=> .tup [x,x]
noncomputable def Gn:List Kd->Kd
 | [x]=> .ar x| [x,_]=> .b x| [.p h,x,_]=> .a1 h x| [.p h,x,y,_]=> .a2 h x y|_=> .p 0
def uK:V->Kd:=V.rec (.p 0) (λ_=> .p 0) (λi=> .a0 i.toNat) (λ_=> .p 0) (λ_ l=>Gn l) (λn=> .p n) (λ_ _=> .p 0) (λn=> .v n) (.p 0) [] λ_ _ k l=>k::l
theorem zZ k:uK (cK k)=k:=Kd.rec (λ_=>rfl) (λ_=>rfl) (λ_ h=>ej Kd.ar h) (λ_=>rfl) (λg _ h=>ej (Kd.a1 g) h) (λg _ _ h j=>congr (ej (Kd.a2 g) h) j) (λ_ h=>ej Kd.b h) k
noncomputable instance:DecidableEq Kd:=λa b=>decidable_of_iff (cK a=cK b) ⟨λe=>(zZ a).symm.trans ((ej uK e).trans (zZ b)),ej cK⟩
noncomputable def bF (h:Nat):Bool:=h==8||(decide (73<=h)&&decide (h<=76))
noncomputable def cM (h:Nat):Bool:=h==2||h==3||h==5||h==6||h==8||(decide (64<=h)&&decide (h<=76))
def bJ (h:Nat):Int:=if bF h then 3 else 2
def kids:Kd->List Kd:=Kd.rec (λ_=> []) (λ_=> []) (λx _=> [x]) (λ_=> []) (λ_ x _=> [x]) (λ_ x y _ _=> [x,y]) λx _=> [x]
def cH:Kd->Int:=Kd.rec (λ_=>1) (λ_=>6) (λ_ _=>4) (λh=>bJ h) (λh _ _=>bJ h) (λh _ _ _ _=>bJ h) λ_ _=>8
def bK (ix:Kd->Nat):Kd->V:=Kd.rec (λn=> .tup [.int 1,.int n]) (λi=> .tup [.int 6,.int i]) (λx _=> .tup [.int 4,.int (ix x)]) (λh=> .tup [.int (bJ h),.int h,.tup []])
 (λh x _=> .tup [.int (bJ h),.int h,.tup [.int (ix x)]]) (λh x y _ _=> .tup [.int (bJ h),.int h,.tup [.int (ix x),.int (ix y)]]) λx _=> .tup [.int 8,.int (ix x)]
def dp:Kd->Nat:=Kd.rec (λ_=>1) (λ_=>1) (λ_ a=>a+1) (λ_=>1) (λ_ _ a=>a+1) (λ_ _ _ a b=>max (a+1) (b+1)) λ_ a=>a
def wt:Kd->Nat:=Kd.rec (λ_=>1) (λ_=>1) (λ_ a=>1+a) (λ_=>1) (λ_ _ a=>1+a) (λ_ _ _ a b=>1+a+b) λ_ a=>1+a
def op:Kd->Nat:=Kd.rec (λ_=>0) (λ_=>1) (λ_ a=>a) (λ_=>0) (λ_ _ a=>a) (λ_ _ _ a b=>max a b) λ_ a=>a
def jH:Kd->Bool:=Kd.rec (λn=>n !=0&&n !=14) (λ_=>true) (λ_ _=>true) (λ_=>true) (λ_ _ _=>true) (λ_ _ _ _ _=>true) λ_ _=>false
def isVal:Kd->Bool:=Kd.rec (λn=>decide (1<=n)&&decide (n<=11)) (λ_=>false) (λ_ _=>false) (λh=>bF h) (λh _ _=>bF h) (λh _ _ _ _=>bF h) λ_ _=>false
def ak:Kd->Bool:=Kd.rec (λ_=>false) (λ_=>true) (λ_ _=>false) (λ_=>false) (λ_ _ _=>false) (λ_ _ _ _ _=>false) λ_ _=>false
theorem dP {a}:ak a=true->∃i,a= .v i:=a.casesOn (λ_=>nf) (λi _=>⟨i,rfl⟩) (λ_=>nf) (λ_=>nf) (λ_ _=>nf) (λ_ _ _=>nf) λ_=>nf
def cI:Kd->Bool:=Kd.rec (λ_=>false) (λ_=>false) (λ_ _=>true) (λ_=>false) (λ_ _ _=>false) (λ_ _ _ _ _=>false) λ_ _=>false
theorem hY {a} (h:¬cI a=false):∃x,a= .ar x:=a.casesOn (λ_=>nf) (λ_=>nf) (λx _=>⟨x,rfl⟩) (λ_=>nf) (λ_ _=>nf) (λ_ _ _=>nf) (λ_=>nf) (eq_true_of_ne_false h)
def isRef:Kd->Bool:=Kd.rec (λn=>decide (12<=n)&&decide (n<=14)) (λ_=>false) (λ_ _=>true) (λh=> !bF h) (λh _ _=> !bF h) (λh _ _ _ _=> !bF h) λ_ _=>true
def dw:Kd->Bool:=Kd.rec (λn=>decide (n<16)) (λ_=>true) (λx _=>jH x) (λh=>cM h) (λh x _=>cM h&&jH x) (λh x y _ _=>cM h&&jH x&&jH y) λx _=>isVal x||ak x
noncomputable def fK:List Kd:= [.p 0,.p 1,.p 2,.p 3,.p 4,.p 5,.p 6,.p 7,.p 8,.p 9,.p 10,.p 11,.p 12,.p 13,.p 14,.p 15]
def ix (ts:List Kd) (t:Kd):Nat:=ts.idxOf t
noncomputable def Den (ts:List Kd) (k:Nat) (t:Kd):Prop:=ts[k]? =some t
structure Kz where
 kt:Nat
 rows:Nat
 index:Nat
 fV:Nat
 gi:Nat
 opens:Nat
 U:List Kd
noncomputable def Kz.m (Z:Kz):List Nat:= [Z.rows,Z.index,Z.fV,Z.gi,Z.opens]
noncomputable def Kz.fs (Z:Kz):List (Nat×V):= [(3,.ref Z.rows),(4,.ref Z.index),(5,.ref Z.fV),(6,.ref Z.gi),(7,.ref Z.opens)]
abbrev QL (Z:Kz):Prop:=∀t∈Z.U,dw t=true/\dp t<=24/\wt t<=4096
structure Kt (Z:Kz) (s:St) (ts:List Kd):Prop where
 kt:s[Z.kt]? =some (.inst 0 Z.fs)
 rows:s[Z.rows]? =some (.list (ts.map (bK (ix ts))))
 index:s[Z.index]? =some (.dict (ts.map λt=>(bK (ix ts) t,.int (ix ts t))))
 fV:s[Z.fV]? =some (.list (ts.map λt=> .int (dp t)))
 gi:s[Z.gi]? =some (.list (ts.map λt=> .int (wt t)))
 opens:s[Z.opens]? =some (.list (ts.map λt=> .int (op t)))
 nd:ts.Nodup
 kids:∀t∈ts,∀x∈kids t,x∈ts
 pr:fK<+:ts
 sub:∀t∈ts,t∈Z.U
 ok:QL Z
 ul:Z.U.length<=30000
 apart:(Z.kt::Z.m).Nodup
theorem gR [DecidableEq α]:∀{l:List α} {u:List α},l.Nodup->(∀x∈l,x∈u)->l.length<=u.length:=by
 intro D;induction D with|nil=>intro _ _ _;exact hL _|cons x l E=>
  intro u nd h;have j:=h x ai;have z:=E (bw nd).2 λy A=>by have:y≠x:=λe=>(bw nd).1 (e▸A);exact (List.mem_erase_of_ne this).mpr (h y (.tail _ A))
  rw [List.length_erase_of_mem j] at z;have F:=List.length_pos_of_mem j;simp only [iZ];exact oo 0xe04976eeedfa51cd0b909019003 (by exact sO _ _) F z
theorem Den.mono (h:Den ts k t) (p:ts<+:ae):Den ae k t:=by obtain ⟨r,rfl⟩:=p;unfold Den at*;rw [mc (dB h).1];exact h
theorem Den.mem (h:Den ts k t):t∈ts:=bh h
theorem eD (h:t∈ts):Den ts (ix ts t) t:=by have:=List.idxOf_lt_length_of_mem h;exact JQ.mpr ⟨this,by simp [ix]⟩
theorem Den.inj (h:Den ts k t) (j:Den ts k t'):t=t':=aP (h.symm.trans j)
theorem Den.lt (h:Den ts k t):k<ts.length:=(dB h).1
theorem gY (nd:ts.Nodup) (h:Den ts k t) (j:Den ts k' t):k=k':=(List.getElem?_inj h.lt nd).mp (h.trans j.symm)
theorem lL (h:t∈ts) (p:ts<+:ae):ix ae t=ix ts t:=by obtain ⟨r,rfl⟩:=p;unfold ix;rw [List.idxOf_append,ep h]
theorem tv (h:∀x∈kids t,x∈ts) (p:ts<+:ae):bK (ix ae) t=bK (ix ts) t:=by
 induction t with|a2 g x y=>show V.tup _=V.tup _;rw [lL (h x ai) p,lL (h y bn) p]|a1 g x=>show V.tup _=V.tup _;rw [lL (h x ai) p]|ar x=>show V.tup _=V.tup _;rw [lL (h x ai) p]|b x=>show V.tup _=V.tup _;rw [lL (h x ai) p]|_=>rfl
theorem ir h:bJ h=2\/bJ h=3:=by unfold bJ;cases bF h<;>first|exact .inl rfl|exact .inr rfl
theorem i4 (l:a<=h) (u:h<=a+3):h=a\/h=a+1\/h=a+2\/h=a+3:=by obtain ⟨k,rfl⟩:=Nat.exists_eq_add_of_le l;have:=(show∀k,k<4->k=0\/k=1\/k=2\/k=3 by decide) k (Nat.lt_succ_of_le (Nat.le_of_add_le_add_left u));exact this.imp (ej (a+·)) λh=>h.imp (ej (a+·)) λh=>h.imp (ej (a+·)) (ej (a+·))
theorem Am {k} (j:k≠2) (y:k≠3):bJ h≠k:=λe=>(ir h).elim (λa=>j (e.symm.trans a)) λa=>y (e.symm.trans a)
theorem vO g:bF g=decide (bJ g=3):=by unfold bJ;cases bF g<;>rfl
theorem uG:(false=true↔bJ h=6)/\bJ h≠7:=⟨iff_of_false bB (Am (aa rfl) (aa rfl)),Am (aa rfl) (aa rfl)⟩
theorem CY t:(ak t=true↔cH t=6)/\cH t≠7:=
 t.casesOn (λ_=>⟨iff_of_false bB (show (1:Int)≠6 by decide),show (1:Int)≠7 by decide⟩) (λ_=>⟨iff_of_true rfl rfl,show (6:Int)≠7 by decide⟩) (λ_=>⟨iff_of_false bB (show (4:Int)≠6 by decide),show (4:Int)≠7 by decide⟩)
  (λ_=>uG) (λ_ _=>uG) (λ_ _ _=>uG) λ_=>⟨iff_of_false bB (show (8:Int)≠6 by decide),show (8:Int)≠7 by decide⟩
theorem vK (h:1<=k/\k<=11):isVal (.p k)=true:=(JD _ _).symm.trans (gs h)
theorem OL t:(∀i,t= .p i->¬(1<=i/\i<=11))->isVal t=decide (cH t=3):=
 t.casesOn (λi h=>(JD _ _).symm.trans (hI (h i rfl))) (λ_ _=>rfl) (λ_ _=>rfl) (λg _=>vO g) (λg _ _=>vO g) (λg _ _ _=>vO g) λ_ _=>rfl
theorem x_ g:(if bJ g=2\/bJ g=3\/bJ g=4 then 1 else 0)=1:=ep ((ir g).imp id .inl)
theorem Gb t:op t<=1:=Kd.rec (λ_=>hL _) (λ_=>g6 _) (λ_ h=>h) (λ_=>hL _) (λ_ _ h=>h) (λ_ _ _ a b=>Nat.max_le.2 ⟨a,b⟩) (λ_ h=>h) t
theorem wY t:1<=dp t:=Kd.rec (λ_=>g6 _) (λ_=>g6 _) (λ_ _=>Eb _ _) (λ_=>g6 _) (λ_ _ _=>Eb _ _) (λ_ _ _ _ _=>df (Eb _ _) (JK _ _)) (λ_ h=>h) t
noncomputable def Nq (f:Nat->Kd):V->Kd
 | .tup [.int a,.int b]=>if a=1 then .p b.toNat else if a=6 then .v b.toNat else if a=4 then .ar (f b.toNat) else .b (f b.toNat)| .tup [_,.int h,.tup []]=> .a0 h.toNat| .tup [_,.int h,.tup [.int x]]=> .a1 h.toNat (f x.toNat)| .tup [_,.int h,.tup [.int x,.int y]]=> .a2 h.toNat (f x.toNat) (f y.toNat)|_=> .p 0
theorem qw {x} (h:x∈ts):(ts[ix ts x]?).getD (Kd.p 0)=x:=by rw [show ts[ix ts x]? =some x from eD h];rfl
theorem xa:∀{t},(∀x∈kids t,x∈ts)->Nq (λi=>(ts[i]?).getD (.p 0)) (bK (ix ts) t)=t
 | .p _,_=>rfl| .v _,_=>rfl| .a0 _,_=>rfl| .ar x,h=>ej Kd.ar (qw (h x ai))| .b x,h=>ej Kd.b (qw (h x ai))| .a1 g x,h=>ej (Kd.a1 g) (qw (h x ai))| .a2 g x y,h=>congr (ej (Kd.a2 g) (qw (h x ai))) (qw (h y bn))
theorem vU (h:∀x∈kids t,x∈ts) (j:∀x∈kids t',x∈ts) (e:bK (ix ts) t=bK (ix ts) t'):t=t':=by rw [<-xa h,e,xa j]
theorem i' {l:List α} {i:Nat} {a:α} (f:α->β) (h:l[i]? =some a):(l.map f)[i]? =some (f a):=by rw [ko,h];rfl
section
variable {Z:Kz}
theorem Kt.len (h:Kt Z s ts):ts.length<=30000:=df (gR h.nd h.sub) h.ul
theorem Kt.sm (h:Kt Z s ts) (hd:Den ts k t):0<=(k:Int)/\(k:Int)<2^60:=by have j:=hd.lt;have y:=h.len;exact oo 0x3403260201250100053a82 j y
theorem Kt.good (h:Kt Z s ts) (hd:Den ts k t):dw t=true:=(h.ok t (h.sub t hd.mem)).1
theorem Kt.bL (h:Kt Z s ts) (hd:Den ts k t) {x} (j:x∈Mine.kids t):Den ts (ix ts x) x:=eD (h.kids t hd.mem x j)
theorem Kt.prim (h:Kt Z s ts) {i} (j:i<16):Den ts i (.p i):=by
 obtain ⟨r,rfl⟩:=h.pr;unfold Den;rw [mc j];have:∀i<16,fK[i]? =some (.p i):=by decide
 exact this i j
theorem Kt.fC (h:Kt Z s ts) (hd:Den ts k t) {i} (j:i<16):k=i↔t= .p i:=
 ⟨λe=>by subst e;exact hd.inj (h.prim j),λe=>by subst e;exact gY h.nd hd (h.prim j)⟩
theorem iD (h:Kt Z s ts) (hd:Den ts k t) (q:∀r,r=bK (ix ts) t->Q r s):aq sc (n+1) 1 [.ref Z.kt,.int k] Q s:=by apply cg rfl;have hl:=hd.lt;have j:=h.len;exact am h.kt rfl rfl<|dW h.rows (by rw [aC];exact oq 1 j)<|aO (by rw [aC];exact oo 0xc414003a02 hl)<|am h.kt rfl rfl<|ce h.rows (h.sm hd) (i' _ hd) (q _ rfl)
theorem d_ (h:Kt Z s ts) (hd:Den ts k t) (q:Q (.int (cH t)) s):aq sc (n+2) 17 [.ref Z.kt,.int k] Q s:=by
 refine cg rfl<|cO h.kt rfl rfl<|iD h hd ?_;rintro r rfl
 (revert q;generalize t=j;intro q;induction j using Kd.casesOn<;>exact ah rfl rfl q)
theorem ni {g} (h:bF g=true):bJ g=3:=by simp [bJ,h]
theorem jl {g} (h:bF g=false):bJ g=2:=by simp [bJ,h]
theorem gK (h:Kt Z s ts) (hd:Den ts k t) (q:Q (.bool (ak t)) s):aq sc (n+2) 23 [.ref Z.kt,.int k] Q s:=by
 refine cg rfl<|cO h.kt rfl rfl<|iD h hd ?_;intro r y;have z:∃l,r= .tup (.int (cH t)::l):=by subst y;(generalize t=A;induction A using Kd.casesOn<;>exact ⟨_,rfl⟩)
 obtain ⟨l,rfl⟩:=z;apply ah rfl rfl;have e:=CY t;refine az (λj=> ?_) λj=> ?_
 ·rw [e.1.2 j] at q;rw [j];exact q
 ·have:ak t=false:=by cases hv:ak t<;>simp_all
  rw [this] at q;have:=hI e.2;show Q (.bool (decide (cH t=7))) s;rw [this];exact q
theorem pR (h:Kt Z s ts) (hd:Den ts k t) (q:Q (.bool (isVal t)) s):aq sc (n+2) 21 [.ref Z.kt,.int k] Q s:=by
 apply cg rfl;have tail:¬(1<=k/\k<=11)->wSs sc (n+1) (dr 1 (bo 21)) (mS (eR Z.kt) (eI k)) (fin Q) s:=by
  intro hk;refine cO h.kt rfl rfl<|iD h hd ?_;rintro r rfl;have e:=OL t λi e=>by subst e;have z:=(h.fC hd (aa (h.good hd))).2 rfl;exact oo 0x1a092128a9810082a04229000082a02 z hk
  rw [e] at q
  (revert q;generalize t=A;intro q;induction A using Kd.casesOn<;>exact ah rfl rfl q)
 have hp:(1<=k/\k<=11)->isVal t=true:=λhk=>by have:=(h.fC hd (oo 0x1a41520004140010f2081 hk)).1 rfl;subst this;exact vK (oo 0xd20a0952000414a40008281 hk)
 refine az (λj=> ?_) λj=>aO j<|tail (oo 0xc248009d0a400082a01 j)
 ·refine az (λy=> ?_) λy=>tail (oo 0xd04a901d0a400082a01 y)
  ·rw [hp (oo 0x1a0948200272901ca40008281 y j)] at q;exact q
end
variable {l:List Kd}{e:Int}
def pf (ts:List Kd) (t:Kd):List V:=(kids t).map λx=> .int (ix ts x)
def named:Kd->Bool:=Kd.rec (λ_=>false) (λ_=>false) (λ_ _=>false) (λ_=>true) (λ_ _ _=>true) (λ_ _ _ _ _=>true) λ_ _=>false
def ao:Kd->Nat:=Kd.rec (λ_=>0) (λ_=>0) (λ_ _=>0) (λh=>h) (λh _ _=>h) (λh _ _ _ _=>h) λ_ _=>0
inductive eH ts:Kd->V->Prop
 |p (n:Nat):eH ts (.p n) (.tup [.int 1,.int n])
 |v i:eH ts (.v i) (.tup [.int 6,.int i])
 |ar x:eH ts (.ar x) (.tup [.int 4,.int (ix ts x)])
 |b x:eH ts (.b x) (.tup [.int 8,.int (ix ts x)])
 |cls (t:Kd):named t=true->isVal t=false->cH t=2->eH ts t (.tup [.int 2,.int (ao t),.tup (pf ts t)])
 |val (t:Kd):named t=true->isVal t=true->cH t=3->eH ts t (.tup [.int 3,.int (ao t),.tup (pf ts t)])
theorem m7 ts t:eH ts t (bK (ix ts) t):=by
 induction t with
 |p n=>exact .p n|v i=>exact .v i|ar x=>exact .ar x|b x=>exact .b x|a0 g=>
  induction hv:bF g using Bool.casesOn with|true=>have:=eH.val (ts:=ts) (.a0 g) rfl hv (ni hv);rw [<-ni hv] at this;exact this|false=>have:=eH.cls (ts:=ts) (.a0 g) rfl hv (jl hv);rw [<-jl hv] at this;exact this
 |a1 g x=>
  induction hv:bF g using Bool.casesOn with|true=>have:=eH.val (ts:=ts) (.a1 g x) rfl hv (ni hv);rw [<-ni hv] at this;exact this|false=>have:=eH.cls (ts:=ts) (.a1 g x) rfl hv (jl hv);rw [<-jl hv] at this;exact this
 |a2 g x y=>
  induction hv:bF g using Bool.casesOn with|true=>have:=eH.val (ts:=ts) (.a2 g x y) rfl hv (ni hv);rw [<-ni hv] at this;exact this|false=>have:=eH.cls (ts:=ts) (.a2 g x y) rfl hv (jl hv);rw [<-jl hv] at this;exact this
theorem ll {l:List α} (h:Nat.ble l.length n=true):l.length<=n:=nk h
theorem nY t:(kids t).length<=2:=by induction t using Kd.casesOn<;>simp [kids]
section
variable {Z:Kz}
theorem wA {r} (j:eH ts t r) (q:Q (.tup (pf ts t)) s):aq sc (n+1) 3 [r] Q s:=by
 apply cg rfl;induction j with|p n=>exact ah rfl rfl q|v n=>exact ah rfl rfl q|ar x=>exact ah rfl rfl (ah rfl rfl q)|b x=>exact ah rfl rfl (ah rfl rfl q)|cls _ _=>exact ah rfl rfl (ah rfl rfl q)|val _ _=>exact ah rfl rfl (ah rfl rfl q)
theorem zH (h:Kt Z s ts) (hd:Den ts k t) (y:jH t=true) (q:Q (.bool true) s):aq sc (n+2) 9 [.ref Z.kt,.int k] Q s:=by
 apply cg rfl;have A:k≠0:=λe=>by rw [(h.fC hd (aa rfl)).1 e] at y;trivial
 have j:k≠14:=λe=>by rw [(h.fC hd (aa rfl)).1 e] at y;contradiction
 refine aO (oo 0xc28480a01a01 A)<|aO (oo 0xe2588486201a01 j)<|cO h.kt rfl rfl<|iD h hd ?_;rintro r rfl;have z:=m7 ts t;generalize bK (ix ts) t=r at z;induction z with|b x=>trivial|_=>exact ah rfl rfl q
theorem OV (h:Kt Z s ts) (hl:∀x∈l,x∈ts/\jH x=true) (q:Q .none s):aq sc (n+3) 8 [.ref Z.kt,.tup (l.map λx=> .int (ix ts x))] Q s:=by
 refine cg rfl<|oR (λ_ vs ρ s'=>s'=s/\(∃l,vs=l.map (λx=>V.int (ix ts x))/\∀x∈l,x∈ts/\jH x=true)/\∃o,ρ=(pb (eR Z.kt) (some (.tup (l.map λx=> .int (ix ts x)))) o)) _ [] _ _ ⟨rfl,⟨l,rfl,hl⟩,_,rfl⟩ ?_ ?_ ?_
 ·intro _ _ _ _ _;trivial
 ·rintro ρ s' _ ⟨rfl,_,_,rfl⟩;exact q
 ·rintro K _ v vs ρ s' ⟨rfl,⟨z,e,j⟩,o,rfl⟩ D;induction z using List.casesOn with|nil=>trivial|cons x z=>cases e;have A:=j x ai;exact zH h (eD A.1) A.2<|D.next ⟨rfl,⟨z,rfl,λy E=>j y (.tail _ E)⟩,_,rfl⟩
theorem nV (g:cM h=true):0<h/\ck 1 h=none/\h<=76:=by
 simp only [cM,Kv,g7,hQ,H'] at g;have:h<=76:=oo 0x34829292929293a4000081e416085342c211508484cccccd2001 g;have a:∀h:Nat,h<=76->((((((h=2\/h=3)\/h=5)\/h=6)\/h=8)\/64<=h/\h<=76)->0<h/\ck 1 h=none):=by decide
 exact ⟨(a h this g).1,(a h this g).2,this⟩
theorem PD {x}:dw t=true->named t=true->x∈kids t->jH x=true:=
 t.casesOn (λ_ _=>nf) (λ_ _=>nf) (λ_ _=>nf) (λ_ _ _ h=>(ba h).elim) (λ_ _ g _ h=>aj h▸(aZ g).2) (λ_ _ _ g _ h=>(jI h).elim (·▸(bq g).1.2) (·▸(bq g).2)) λ_ _=>nf
theorem jg:dw t=true->named t=true->cM (ao t)=true:=t.casesOn (λ_ _=>nf) (λ_ _=>nf) (λ_ _=>nf) (λ_ g _=>g) (λ_ _ g _=>(aZ g).1) (λ_ _ _ g _=>(bq g).1.1) λ_ _=>nf
theorem Cp (h:Kt Z s ts) (g:dw t=true) (j:named t=true) (hk:∀x∈kids t,x∈ts) (q:Q .none s):aq sc (n+4) 7 [.ref Z.kt,.tup [.int e,.int (ao t),.tup (pf ts t)]] Q s:=by apply cg rfl;obtain ⟨z,A,D⟩:=nV (jg g j);refine ah rfl rfl<|aO (oq 36 z)<|ah rfl rfl<|ta ?_;rw [A];exact ah rfl rfl<|OV h (λx y=>⟨hk x y,PD g j y⟩) q
theorem Bb {b} {Q} {all} (I:List Kd->ag->Prop) (q:∀ρ,I [] ρ->Q .next ρ s)
 (step:∀x l ρ,x∈ts->I (x::l) ρ->∀A,(∀br,I l br->A .next br s)->gc (dN is tup (.int (ix ts x)) ρ) λz=>wSs sc n b z A s):
 ∀l ρ,(∀x∈l,x∈ts)->I l ρ->WF sc n (.tup all) (false,all) is tup b (l.map λx=> .int (ix ts x)) ρ Q s:=by
 intro D;induction D with|nil=>intro ρ _ h;exact dH trivial (q ρ h)|cons x l E=>intro ρ hl h;exact bz trivial (step x l ρ (hl x ai) h _ λbr F=>E br (λy G=>hl y (.tail _ G)) F)
theorem Gw {r} (h:Kt Z s ts) (g:dw t=true) (hp:∀n,t≠ .p n) (hk:∀x∈kids t,x∈ts) (y:eH ts t r) (q:Q .none s):aq sc (n+5) 6 [.ref Z.kt,r] Q s:=by
 apply cg rfl;have loop:∀{r} {e} {o} {Q},eH ts t r->(∀o,Q .next (j7 (eR Z.kt) (some r) (eI e) o) s)->
  wS sc (n+4) (.for [3] false (.fn 3 (.cons (.loc 1) .nil)) (bd (dr 3 (bo 6)))) (j7 (eR Z.kt) (some r) (eI e) o) Q s:=by
  intro r e o Q y q;refine wA y<|Bb (λ_ ρ=>E1 λo=>ρ=(j7 (eR Z.kt) (some r) (eI e) o)) ?_ ?_ _ _ hk ⟨o,rfl⟩
  ·rintro _ ⟨o,rfl⟩;exact q o
  ·rintro x l _ A ⟨o,rfl⟩ E D;exact cO h.kt rfl rfl<|iD h (eD A) λr _=>D _ ⟨_,rfl⟩
 cases y with
 |p n=>exact dv rfl (hp n)|v i=>refine bP (ll rfl)<|ah rfl rfl<|ah rfl rfl<|ah rfl rfl<|bP (ll rfl)<|cg rfl<|loop (.v i) λo=> ?_;exact ah rfl rfl q
 |ar x=>apply bP (ll rfl);apply ah rfl rfl;refine ah rfl rfl<|ah rfl rfl<|bP (ll rfl)<|cg rfl<|loop (.ar x) λo=> ?_;exact ah rfl rfl<|zH h (eD (hk x ai)) g q
 |b x=>
  apply bP (ll rfl);apply ah rfl rfl;apply ah rfl rfl;apply ah rfl rfl;refine bP (ll rfl)<|cg rfl<|loop (.b x) λo=> ?_;apply ah rfl rfl;apply pR h (eD (hk x ai));induction hv:isVal x using Bool.casesOn with|true=>exact q|false=>
   refine ah rfl rfl<|gK h (eD (hk x ai)) ?_;have:ak x=true:=by simpa [dw,hv] using g
   rw [this];exact q
 |cls _ j hv z=>apply bP (ll rfl);apply ah rfl rfl;apply ah rfl rfl;apply ah rfl rfl;apply bP (ll rfl);apply cg rfl;refine loop (.cls t j hv z) λo=> ?_;exact Cp h g j hk q|val _ j hv z=>apply bP (ll rfl);apply ah rfl rfl;apply ah rfl rfl;apply ah rfl rfl;apply bP (ll rfl);apply cg rfl;refine loop (.val t j hv z) λo=> ?_;exact Cp h g j hk q
theorem Kr (q:Q (.int (if e=2\/e=3\/e=4 then 1 else 0)) s):aq sc (n+1) 4 [.int e] Q s:=by
 refine cg rfl<|az (λj=> ?_) λj=> ?_
 ·rw [ep (.inl j)] at q;exact bW j q
 ·refine az (λy=> ?_) λy=> ?_
  ·rw [ep (.inr (.inl y))] at q;exact bW y q
  ·refine az (λz=> ?_) λz=> ?_
   ·rw [ep (.inr (.inr z))] at q;exact q
   ·rw [fm (by lia)] at q;exact q
end
theorem mQ {f:Kd->V} {g:Kd->V}:∀{l:List Kd},(∀x∈l,f x=f t->x=t)->aE (l.map λx=>(f x,g x)) (f t)=if t∈l then some (g t) else none:=by
 intro j;induction j with|nil=>intro _;exact rfl|cons x l z=>
  intro h;unfold aE at*;rw [HG,hW];by_cases e:f x=f t
  ·have:=h x ai e;subst this;simp
  ·have:¬x=t:=λq=>e (by rw [q]);simp only [e,decide_false];rw [(z λy A=>h y (.tail _ A))];have:t∈x::l↔t∈l:=by simp [Ne.symm this]
   simp [this]
theorem w5 {f}:keyOk (bK f t)=true/\kindOf (bK f t)=2:=by (generalize t=j;induction j using Kd.casesOn<;>exact ⟨rfl,rfl⟩)
theorem tZ {f} {g:Kd->V}:bf (ts.map λx=>(bK f x,g x)) (bK f t)=true:=by unfold bf;rw [w5.1,Bool.true_and,E'];intro p hp;obtain ⟨x,_,rfl⟩:=g5.mp hp;rw [w5.2,w5.2];rfl
theorem qR {k} (h:aE af k=none):aV af k v=af++ [(k,v)]:=by unfold aV;rw [h];rfl
theorem lN {l} {x:α} (h:l.Nodup) (n:x∉l):(l++ [x]).Nodup:=by rw [List.nodup_append];exact ⟨h,by simp,λa ha b hb=>by replace hb:=aj hb;subst hb;exact λe=>n (e▸ha)⟩
section
variable {Z:Kz}
theorem Kt.grow (h:Kt Z s ts) (E:t∈Z.U) (F:t∉ts) (hk:∀x∈Mine.kids t,x∈ts) (f:Fr Z.m s s')
 (G:s'[Z.rows]? =some (.list (ts.map (bK (ix ts))++ [bK (ix ts) t])))
 (I:s'[Z.index]? =some (.dict ((ts.map λt=>(bK (ix ts) t,.int (ix ts t)))++ [(bK (ix ts) t,.int ts.length)])))
 (J:s'[Z.fV]? =some (.list ((ts.map λt=> .int (dp t))++ [.int (dp t)])))
 (L:s'[Z.gi]? =some (.list ((ts.map λt=> .int (wt t))++ [.int (wt t)])))
 (Y:s'[Z.opens]? =some (.list ((ts.map λt=> .int (op t))++ [.int (op t)]))):Kt Z s' (ts++ [t])/\Den (ts++ [t]) ts.length t:=by
 have pre:ts<+:ts++ [t]:=⟨[t],rfl⟩;have nd:=lN h.nd F;have hd:Den (ts++ [t]) ts.length t:=by unfold Den;simp
 have mem:∀x,x∈ts++ [t]->x∈ts\/x=t:=λx j=>by simpa using j
 have rows:(ts++ [t]).map (bK (ix (ts++ [t])))=ts.map (bK (ix ts))++ [bK (ix ts) t]:=by
  rw [lh,List.map_singleton,tv hk pre]
  congr 1
  exact JR λx j=>tv (h.kids x j) pre
 have index:((ts++ [t]).map λA=>(bK (ix (ts++ [t])) A,V.int (ix (ts++ [t]) A)))=(ts.map λt=>(bK (ix ts) t,V.int (ix ts t)))++ [(bK (ix ts) t,V.int ts.length)]:=by
  rw [lh,List.map_singleton,tv hk pre,(gY nd (eD (by simp)) hd)]
  congr 1
  refine JR λx j=> ?_;rw [tv (h.kids x j) pre,lL j pre]
 refine ⟨⟨f.get (bw h.apart).1 h.kt,?_,?_,?_,?_,?_,nd,?_,h.pr.trans pre,?_,h.ok,h.ul,h.apart⟩,hd⟩
 ·rw [rows];exact G
 ·rw [index];exact I
 ·rw [lh];exact J
 ·rw [lh];exact L
 ·rw [lh];exact Y
 ·intro x j y D;rcases mem x j with z|rfl
  ·exact aA _ (h.kids x z y D)
  ·exact aA _ (hk y D)
 ·intro x j;rcases mem x j with z|rfl
  ·exact h.sub x z
  ·exact E
theorem Fr.one {m} {i} (f:Fr [i] s s') (h:i∈m):Fr m s s':=f.sub λj y=>by replace y:=aj y;exact y▸h
theorem iV {b} {l} (h:(a::l).Nodup) (hb:b∈l):b∉ [a]:=λe=>(bw h).1 (by replace e:=aj e;exact e▸hb)
def fd (l:Nat) (xs:List Kd) (d:Nat):Nat:=xs.foldl (λd x=>max d (dp x+l)) d
def fw (xs:List Kd) (w:Nat):Nat:=xs.foldl (λw x=>w+wt x) w
def fo (xs:List Kd) (o:Nat):Nat:=xs.foldl (λo x=>max o (op x)) o
def lvl (t:Kd):Nat:=if cH t=2\/cH t=3\/cH t=4 then 1 else 0
theorem wQ n:max 1 (n+1)=n+1:=Nat.max_eq_right (Eb 1 n)
theorem Ov t:fd (lvl t) (kids t) 1=dp t/\fw (kids t) 1=wt t/\fo (kids t) (if ak t then 1 else 0)=op t:=
 t.casesOn (λ_=>⟨rfl,rfl,rfl⟩) (λ_=>⟨rfl,rfl,rfl⟩) (λx=>⟨wQ _,rfl,KF _⟩) (λ_=>⟨rfl,rfl,rfl⟩)
  (λg x=>⟨(ej (λl=>max 1 (dp x+l)) (x_ g)).trans (wQ _),rfl,KF _⟩)
  (λg x y=>⟨(ej (λl=>max (max 1 (dp x+l)) (dp y+l)) (x_ g)).trans (ej (max · (dp y+1)) (wQ _)),rfl,ej (max · (op y)) (KF _)⟩)
  λx=>⟨Nat.max_eq_right (wY x),rfl,KF _⟩
theorem lg {r:V} (h:Kt Z s ts) (hu:t∈Z.U) (hp:∀n,t≠ .p n) (hk:∀x∈kids t,x∈ts) (hr:r=bK (ix ts) t)
 (q:∀s' ae k,Kt Z s' ae->ts<+:ae->Fr Z.m s s'->Den ae k t->Q (.int k) s'):aq sc (n+6) 2 [.ref Z.kt,r] Q s:=by
 apply cg rfl;have g:=(h.ok t hu);refine am h.kt rfl rfl<|pJ h.index ?_;subst hr;apply oU h.index tZ;rw [mQ λx J e=>vU (h.kids x J) hk e];by_cases hm:t∈ts
 ·rw [ep hm];exact q s ts _ h (aF _) .ay (eD hm)
 rw [fm hm];have L:=m7 ts t;apply Gw h g.1 hp hk L;have first:∃l,bK (ix ts) t= .tup (.int (cH t)::l):=by (generalize t=z9;induction z9 using Kd.casesOn<;>exact ⟨_,rfl⟩)
 have Y:=CY t;have fl:=Ov t;have tail:∀(lv:Int) (o),wSs sc (n+5) (dr 9 (bo 2))
  (cf (eR Z.kt) (some (bK (ix ts) t)) (eI (-1)) (eI (dp t)) (eI (wt t)) (eI (op t)) (eI lv) o none) (fin Q) s:=by
  intro lv o;have hl:=h.len;have ap:=h.apart;have y:=bw ap;have z:=bw y.2;have D:=bw z.2;have ap4:=bw D.2;refine aO (oo 0x34121000f3000031e40280000c794202 g.2)<|aO (oo 0x34821000f2000031e602800800794202 g.2)<|am h.kt rfl rfl<|dW h.rows (by rw [aC];exact oq 1 hl) ?_;rw [aC];refine am h.kt rfl rfl<|ee h.rows<|eg h.rows (by rw [aC];exact oq 1 hl) λs1 f1 e1 l1=> ?_;have E:=(bw ap).1;have kt1:=(f1.one ai).get E h.kt;refine am kt1 rfl rfl<|eF (f1.get (iV y.2 ai) h.index) tZ (by rw [aC];exact oq 1 hl) λs2 f2 e2 l2=> ?_;have kt2:=(f2.one bn).get E kt1;apply am kt2 rfl rfl;have d2:=f2.get (iV z.2 ai) (f1.get (iV y.2 bn) h.fV);refine ee d2<|eg d2 (by rw [aC];exact oq 1 hl) λs3 f3 e3 l3=> ?_;have kt3:=(f3.one ci).get E kt2;apply am kt3 rfl rfl;have w3:=f3.get (iV D.2 ai) (f2.get (iV z.2 bn) (f1.get (iV y.2 ci) h.gi));refine ee w3<|eg w3 (by rw [aC];exact oq 1 hl) λs4 I e4 l4=> ?_;apply am ((I.one eP).get E kt3) rfl rfl;have o4:=I.get (iV ap4.2 ai) (f3.get (iV D.2 bn) (f2.get (iV z.2 ci) (f1.get (iV y.2 eP) h.opens)));refine ee o4<|eg o4 (by rw [aC];exact oq 1 hl) λs5 f5 e5 l5=> ?_;have f:Fr Z.m s s5:=((((f1.one ai).trans (f2.one bn)).trans (f3.one ci)).trans (I.one eP)).trans (f5.one jY);rw [qR (by rw [mQ λx J e=>vU (h.kids x J) hk e,fm hm])] at e2;have up:∀{i} {o:O},i∈Z.m->True:=λ_=>trivial;have n1:∀{j},j∈ [Z.index,Z.fV,Z.gi,Z.opens]->Z.rows∉ [j]:=λG e=>by replace e:=aj e;exact (bw y.2).1 (e▸G)
  have n2:∀{j},j∈ [Z.fV,Z.gi,Z.opens]->Z.index∉ [j]:=λG e=>by replace e:=aj e;exact (bw z.2).1 (e▸G)
  have n3:∀{j:Nat},j∈ [Z.gi,Z.opens]->Z.fV∉ [j]:=λG e=>by replace e:=aj e;exact (bw D.2).1 (e▸G)
  have n4:∀{j:Nat},j∈ [Z.opens]->Z.gi∉ [j]:=λG e=>by replace e:=aj e;exact (bw ap4.2).1 (e▸G)
  have K:=h.grow hu hm hk f (f5.get (n1 eP) (I.get (n1 ci) (f3.get (n1 bn) (f2.get (n1 ai) e1))))
   (f5.get (n2 ci) (I.get (n2 bn) (f3.get (n2 ai) e2))) (f5.get (n3 bn) (I.get (n3 ai) e3)) (f5.get (n4 ai) e4) e5
  exact q s5 _ _ K.1 ⟨[t],rfl⟩ f K.2
 have loop:∀(o0:Nat),o0=(if ak t then 1 else 0)->wSs sc (n+5) (dr 7 (bo 2))
  (cf (eR Z.kt) (some (bK (ix ts) t)) (eI (-1)) (eI 1) (eI 1) (eI o0) none none none) (fin Q) s:=by
  intro o0 ho;obtain ⟨l,hl⟩:=first
  rw [hl];refine ah rfl rfl<|Kr ?_;rw [<-hl];have hlv:(if cH t=2\/cH t=3\/cH t=4 then (1:Int) else 0)=(lvl t):=by unfold lvl;split<;>rfl
  rw [hlv];refine wA L<|Bb (λxs ρ=>E4 λ(d w o:Nat) (c:Option V)=>A5 (o<=1) (fd (lvl t) xs d=dp t) (fw xs w=wt t) (fo xs o=op t) (ρ=(cf (eR Z.kt) (some (bK (ix ts) t)) (eI (-1)) (eI d) (eI w) (eI o) (eI (lvl t)) c none))) ?_ ?_ _ _ hk ⟨1,1,o0,none,by rw [ho];split<;>lia,fl.1,fl.2.1,by rw [ho];exact fl.2.2,rfl⟩
  ·rintro _ ⟨d,w,o,c,_,rfl,rfl,rfl,rfl⟩;exact tail _ _
  ·rintro x xs _ J ⟨d,w,o,c,e0,e1,e2,e3,rfl⟩ Q' q';have hd:=eD J;have two:∀(d':Nat),d'=max d (dp x+lvl t)->wSs sc (n+5) (dr 1 (bd (dr 8 (bo 2))))
    (cf (eR Z.kt) (some (bK (ix ts) t)) (eI (-1)) (eI d') (eI w) (eI o) (eI (lvl t)) (eI (ix ts x)) none) Q' s:=by
    intro d' hd';refine am h.kt rfl rfl<|ce h.gi (h.sm hd) (i' _ hd) ?_;apply am h.kt rfl rfl;refine ce h.opens (h.sm hd) (i' _ hd) ?_;have:=Gb x;refine az (λA=> ?_) λA=> ?_
    ·exact q' _ ⟨d',w+wt x,1,_,g6 _,by subst hd';exact e1,e2,by
      have:max o (op x)=1:=oo 0x12b0c9d5b56d3af56a6c13014443cc806103 (by exact sM _ _) A e0;rw [<-this];exact e3,rfl⟩
    ·exact q' _ ⟨d',w+wt x,o,_,e0,by subst hd';exact e1,e2,by
      have:max o (op x)=o:=by lia
      rw [<-this];exact e3,rfl⟩
   refine am h.kt rfl rfl<|ce h.fV (h.sm hd) (i' _ hd) ?_;refine az (λA=> ?_) λA=>two d (oo 0x6840a082844a48382030108c881c20104 (by exact sM _ _) A)
   ·apply am h.kt rfl rfl;refine ce h.fV (h.sm hd) (i' _ hd) ?_;exact two (dp x+lvl t) (oo 0x18412104a102820a000f04102cb1081104 (by exact sM _ _) A)
 obtain ⟨l,hl⟩:=first
 rw [hl];apply ah rfl rfl;rw [<-hl];refine az (λA=> ?_) λA=> ?_
 ·exact bW A<|loop 1 (by rw [Y.1.2 A];rfl)
 ·rw [hl];apply ah rfl rfl;apply aO Y.2;rw [<-hl];apply loop 0;have:ak t=false:=by cases hv:ak t<;>simp_all
  rw [this];rfl
end
variable {ws:List V}{kt:Nat}
inductive aD ts:List V->List Kd->Prop
 |nil:aD ts [] []
 |cons {k:Nat} {t:Kd} {vs:List V} {l:List Kd}:Den ts k t->aD ts vs l->aD ts (.int k::vs) (t::l)
theorem aD.mono (h:aD ts vs l) (p:ts<+:ae):aD ae vs l:=by
 induction h with|nil=>exact .nil|cons d _ j=>exact .cons (d.mono p) j
theorem aD.len (h:aD ts vs l):vs.length=l.length:=by
 induction h with|nil=>rfl|cons d _ j=>rw [iZ,iZ,j]
theorem aD.app {r} (h:aD ts vs l) (j:aD ts ws r):aD ts (vs++ws) (l++r):=by
 induction h with|nil=>exact j|cons d _ y=>exact .cons d y
theorem aD.get (h:aD ts vs l):∀{i:Nat} {t},l[i]? =some t->∃k:Nat,vs[i]? =some (.int k)/\Den ts k t:=by
 induction h with|nil=>intro i t h;trivial|cons d _ j=>
  intro i t h;induction i with|zero=>simp at h;subst h;exact ⟨_,rfl,d⟩|succ i=>exact j h
theorem aD.xr:∀{l},(∀x∈l,x∈ts)->aD ts (l.map λx=> .int (ix ts x)) l
 | [],_=> .nil|x::l,h=> .cons (eD (h x ai)) (.xr λy j=>h y (.tail _ j))
theorem aD.Qj (nd:ts.Nodup) (h:aD ts vs l):vs=l.map λx=> .int (ix ts x):=by
 induction h with|nil=>rfl|cons d _ j=>rw [HG,j,gY nd d (eD d.mem)]
theorem aD.mem (h:aD ts vs l):∀x∈l,x∈ts:=by
 induction h with
 |nil=>intro x j;trivial
 |cons d _ y=>intro x j;cases j with
  |head=>exact d.mem|tail _ j=>exact y x j
theorem dC (nd:ts.Nodup) (h:Den ts k t) (j:Den ts k' t'):((k:Int)=k')↔t=t':=
 ⟨λe=>by have:k=k':=oo 0xd46000d0102 e
         subst this;exact h.inj j,λe=>by subst e;rw [gY nd h j]⟩
noncomputable def mD:Kd->Int
 | .p n=>(ck 0 n).getD 0| .ar _=>5| .v _=>0| .b _=>0| .a0 h=>h| .a1 h _=>h| .a2 h _ _=>h
def hZ (t:Kd):List Kd:=if named t then kids t else []
section
variable {Z:Kz}
theorem rx (nd:ts.Nodup) (j:named t=true) (hv:bJ (ao t)=e) (hd:aD ts vs (kids t)):V.tup [.int e,.int (ao t),.tup vs]=bK (ix ts) t:=by
 rw [hd.Qj nd,<-hv]
 (revert j;generalize t=y;intro j;induction y using Kd.casesOn<;>first|rfl|trivial)
theorem qO (j:named t=true):t≠ .p n:=λe=>by subst e;trivial
theorem ki (j:named t=true):bJ (ao t)=if isVal t then 3 else 2:=by (revert j;generalize t=y;intro j;induction y using Kd.casesOn<;>first|rfl|trivial)
theorem uB (j:named t=true):isRef t= !isVal t:=by (revert j;generalize t=y;intro j;induction y using Kd.casesOn<;>first|rfl|trivial)
theorem iA (H:Kt Z s ts) (y:t∈Z.U) (j:named t=true) (hv:isVal t=false) (z:h=ao t) (hd:aD ts vs (kids t))
 (q:∀s' ae k,Kt Z s' ae->ts<+:ae->Fr Z.m s s'->Den ae k t->Q (.int k) s'):aq sc (n+7) 10 [.ref Z.kt,.int h,.tup vs] Q s:=by
 subst z;refine cg rfl<|ta ?_;rw [(nV (jg ((H.ok t y).1) j)).2.1];exact cO H.kt rfl rfl<|lg H y (λ_=>qO j) hd.mem (rx H.nd j (by rw [ki j,hv];rfl) hd) q
theorem I7 (H:Kt Z s ts) (y:t∈Z.U) (j:named t=true) (hv:isVal t=true) (z:h=ao t) (hd:aD ts vs (kids t))
 (q:∀s' ae k,Kt Z s' ae->ts<+:ae->Fr Z.m s s'->Den ae k t->Q (.int k) s'):aq sc (n+7) 11 [.ref Z.kt,.int h,.tup vs] Q s:=by
 subst z;refine cg rfl<|ta ?_;rw [(nV (jg ((H.ok t y).1) j)).2.1];exact cO H.kt rfl rfl<|lg H y (λ_=>qO j) hd.mem (rx H.nd j (by rw [ki j,hv];rfl) hd) q
theorem L2 (q:Q (.int 12) s):aq sc (n+2) 10 [.ref kt,.int 1,.tup []] Q s:=by exact cg rfl<|ta<|cg rfl<|bP (ll rfl)<|⟨.ac (.lift rfl (.ret q))⟩
theorem Gv {x} (H:Kt Z s ts) (z: .ar x∈Z.U) (hd:Den ts k x)
 (q:∀s' ae k,Kt Z s' ae->ts<+:ae->Fr Z.m s s'->Den ae k (.ar x)->Q (.int k) s'):aq sc (n+7) 13 [.ref Z.kt,.int k] Q s:=by
 apply cg rfl;exact cO H.kt rfl rfl<|lg H z (λ_=>nofun) (λy j=>by simp [kids] at j;exact j▸hd.mem) (by rw [gY H.nd hd (eD hd.mem)];rfl) q
theorem rM {x} (H:Kt Z s ts) (z: .b x∈Z.U) (hd:Den ts k x)
 (q:∀s' ae k,Kt Z s' ae->ts<+:ae->Fr Z.m s s'->Den ae k (.b x)->Q (.int k) s'):aq sc (n+7) 16 [.ref Z.kt,.int k] Q s:=by
 apply cg rfl;exact cO H.kt rfl rfl<|lg H z (λ_=>nofun) (λy j=>by simp [kids] at j;exact j▸hd.mem) (by rw [gY H.nd hd (eD hd.mem)];rfl) q
theorem tN {i} (H:Kt Z s ts) (j: .v i∈Z.U)
 (q:∀s' ae k,Kt Z s' ae->ts<+:ae->Fr Z.m s s'->Den ae k (.v i)->Q (.int k) s'):aq sc (n+7) 14 [.ref Z.kt,.int i] Q s:=by
 apply cg rfl;exact cO H.kt rfl rfl<|lg H j (λ_=>nofun) (λy z=>(by trivial)) rfl q
theorem nJ {x} (H:Kt Z s ts) (hd:Den ts k t) (j:t= .ar x\/t= .b x) (q:∀k',Den ts k' x->Q (.int k') s):aq sc (n+2) 18 [.ref Z.kt,.int k] Q s:=by
 refine cg rfl<|cO H.kt rfl rfl<|iD H hd ?_;rintro r rfl;have y:Den ts (ix ts x) x:=H.bL hd (by rcases j with rfl|rfl<;>exact ai);rcases j with rfl|rfl
 ·exact ah rfl rfl (ah rfl rfl (q _ y))
 ·exact ah rfl rfl (ah rfl rfl (ah rfl rfl (ah rfl rfl (ah rfl rfl (q _ y)))))
theorem kC (H:Kt Z s ts) (hd:Den ts k t) (q:Q (.int (mD t)) s):aq sc (n+2) 19 [.ref Z.kt,.int k] Q s:=by
 refine cg rfl<|cO H.kt rfl rfl<|iD H hd ?_;rintro r rfl;have z:=m7 ts t;generalize bK (ix ts) t=r at z;cases z with
 |p i=>have:=(H.fC hd (aa (H.good hd))).2 rfl;subst this;exact ah rfl rfl (ah rfl rfl (ah rfl rfl (yr (yU q))))|v i=>exact ah rfl rfl (ah rfl rfl (ah rfl rfl (ah rfl rfl q)))|b i=>exact ah rfl rfl (ah rfl rfl (ah rfl rfl (ah rfl rfl q)))|ar i=>exact ah rfl rfl (ah rfl rfl (ah rfl rfl (ah rfl rfl q)))|cls _ j=>
  have e:mD t=ao t:=by (revert j;generalize t=y;intro j;cases y<;>first|rfl|trivial)
  rw [e] at q;exact ah rfl rfl (ah rfl rfl q)
 |val _ j=>
  have e:mD t=ao t:=by (revert j;generalize t=y;intro j;cases y<;>first|rfl|trivial)
  rw [e] at q;exact ah rfl rfl (ah rfl rfl (ah rfl rfl q))
theorem oB (H:Kt Z s ts) (hd:Den ts k t) (q:∀vs,aD ts vs (hZ t)->Q (.tup vs) s):aq sc (n+2) 20 [.ref Z.kt,.int k] Q s:=by
 refine cg rfl<|cO H.kt rfl rfl<|iD H hd ?_;rintro r rfl;have y:=m7 ts t;have hk:aD ts (pf ts t) (kids t):= .xr (H.kids t hd.mem);have e:named t=true->hZ t=kids t:=λh=>by unfold hZ;rw [ep h]
 generalize bK (ix ts) t=r at y;induction y with|cls _ j=>exact ah rfl rfl (ah rfl rfl (q _ (by rw [e j];exact hk)))|val _ j=>exact ah rfl rfl (ah rfl rfl (ah rfl rfl (q _ (by rw [e j];exact hk))))|_=>exact ah rfl rfl (ah rfl rfl (q _ .nil))
theorem qy (H:Kt Z s ts) (hd:Den ts k t) (q:Q (.bool (isRef t)) s):aq sc (n+2) 22 [.ref Z.kt,.int k] Q s:=by
 apply cg rfl;have tail:¬(12<=k/\k<=14)->wSs sc (n+1) (dr 1 (bo 22)) (pb (eR Z.kt) (eI k) none) (fin Q) s:=by
  intro hk;refine cO H.kt rfl rfl<|iD H hd ?_;rintro r rfl;have A:=m7 ts t;generalize bK (ix ts) t=r at A;cases A with
  |p i=>
   have:=(H.fC hd (aa (H.good hd))).2 rfl;subst this;have e:isRef (.p k)=false:=by simp only [isRef];simp;exact oo 0xd048496200741503110e8501 hk
   rw [e] at q;exact ah rfl rfl q
  |cls _ j hv=>
   have e:isRef t=true:=by rw [uB j,hv];rfl
   rw [e] at q;exact ah rfl rfl q
  |val _ j hv=>
   have e:isRef t=false:=by rw [uB j,hv];rfl
   rw [e] at q;exact ah rfl rfl q
  |_=>exact ah rfl rfl q
 have hp:(12<=k/\k<=14)->isRef t=true:=λhk=>by have:=(H.fC hd (oo 0x1a41620074140010f2081 hk)).1 rfl;subst this;simp [isRef];exact oo 0xd20a0962007414c400e8281 hk
 refine az (λy=> ?_) λy=> ?_
 ·apply bW y;rw [hp (oo 0x1a89d00cc400e8281 y)] at q;exact q
 ·refine az (λz=> ?_) λz=> ?_
  ·apply bW z;rw [hp (oo 0x1a8b500cc400e8281 z)] at q;exact q
  ·refine az (λD=> ?_) λD=>tail (by lia)
   ·rw [hp (oo 0x1a8b100cc400e8281 D)] at q;exact q
end
variable {ms:V}{cr:St}{hE:List Kd}
def sub (as:List Kd):Kd->Kd:=Kd.rec (λn=> .p n) (λi=>as.getD i (.v i)) (λ_ y=> .ar y) (λh=> .a0 h) (λh _ y=> .a1 h y) (λh _ _ y z=> .a2 h y z) λ_ y=> .b y
theorem d8 {as}:op t=0->sub as t=t:=Kd.rec (λ_ _=>rfl) (λ_ h=>nomatch h) (λ_ i h=>ej Kd.ar (i h)) (λ_ _=>rfl) (λg _ i h=>ej (Kd.a1 g) (i h))
 (λg x y i j h=>show Kd.a2 g (sub as x) (sub as y)=Kd.a2 g x y from congr (ej (Kd.a2 g) (i (Nat.max_eq_zero_iff.mp h).1)) (j (Nat.max_eq_zero_iff.mp h).2)) (λ_ i h=>ej Kd.b (i h)) t
def CN (t:Kd):Prop:=op t=0\/∃h,t= .a1 h (.v 0)
section
variable {Z:Kz}
theorem uS {R} (H:Kt Z s ts) (hd:Den ts k t) (q:R (.int (op t)) s):P 8 (index (.ref Z.opens) (.int k)) R s:=
 ce H.opens (H.sm hd) (i' _ hd) q
theorem Bq {i}:keyOk (.int i)=true:=rfl
theorem Lu {sd i} (H:Kt Z s ts) (hd:Den ts k (.v i)) (j:s[sd]? =some (.dict [])) (hl:vs.length<=100000) (h:vs[i]? =some v) (q:Q v s):aq sc (n+2) 25 [.ref Z.kt,.int k,.tup vs,ms,.ref sd] Q s:=by refine cg rfl<|am H.kt rfl rfl<|uS H hd<|mL j rfl<|am H.kt rfl rfl<|ce H.rows (H.sm hd) (i' _ hd) ?_;apply ah rfl rfl;refine ah rfl rfl ?_;apply cg rfl;have:=(dB h).1;apply bP hl;exact bW (oo 0xe01400402 this)<|cA ⟨oq 0,oo 0x18d80804940402 this hl⟩ h q
theorem Hb {r} (H:Kt Z s ts) (F:eH ts t' r) (y:named t=true) (z:named t'=true) (A:ao t'=ao t) (D:t∈Z.U) (hd:aD ts vs (kids t))
 (q:∀s' ae k,Kt Z s' ae->ts<+:ae->Fr Z.m s s'->Den ae k t->Q (.int k) s'):aq sc (n+7) 26 [.ref Z.kt,r,.tup vs] Q s:=by
 apply cg rfl;have E:bJ (ao t)=if isVal t' then 3 else 2:=by rw [<-A,ki z]
 induction F with
 |cls _ _ hv=>exact ah rfl rfl<|cO H.kt rfl rfl<|ah rfl rfl<|lg H D (λ_=>qO y) hd.mem (by rw [A];exact rx H.nd y (by rw [E,hv];rfl) hd) q
 |val _ _ hv=>apply ah rfl rfl;apply cO H.kt rfl rfl;exact ah rfl rfl<|lg H D (λ_=>qO y) hd.mem (by rw [A];exact rx H.nd y (by rw [E,hv];rfl) hd) q
 |_=>trivial
theorem Kt.lt {i} (H:Kt Z s ts) (j:i∈Z.kt::Z.m):i<s.length:=by
 simp only [Kz.m,List.mem_cons,ba,or_false] at j;rcases j with rfl|rfl|rfl|rfl|rfl|rfl
 ·exact bE H.kt
 ·exact bE H.rows
 ·exact bE H.index
 ·exact bE H.fV
 ·exact bE H.gi
 ·exact bE H.opens
theorem Kt.fr {m} (H:Kt Z s ts) (f:Fr m s s') (h:∀i∈Z.kt::Z.m,i∉m):Kt Z s' ts:=
 ⟨f.get (h _ ai) H.kt,f.get (h _ bn) H.rows,f.get (h _ ci) H.index,f.get (h _ eP) H.fV,
   f.get (h _ jY) H.gi,f.get (h _ qg) H.opens,H.nd,H.kids,H.pr,H.sub,H.ok,H.ul,H.apart⟩
theorem Kt.new (H:Kt Z s ts) (f:Fr [] s s'):Kt Z s' ts:=H.fr f λ_ _ h=>(ba h).elim
theorem Kt.off {i} (H:Kt Z cr hE) (h:cr.length<=i):∀j∈Z.kt::Z.m,j∉ [i]:=λj y e=>by have:=H.lt y;replace e:=aj e;exact oo 0x12e486d6c2701483 this e h
theorem Kt.ef {i} (H:Kt Z cr hE) (h:cr.length<=i):i∉Z.m:=λe=>by have:=H.lt (.tail _ e);exact oq 8 this h
theorem Jj {a} {sd} {x} (H:Kt Z s ts) (z:Kt Z cr hE) (D:cr.length<=sd) (hd:Den ts k (.a1 h (.v 0))) (ha:aD ts [a] [x]) (hu: .a1 h x∈Z.U) (F:s[sd]? =some (.dict []))
 (q:∀s' ae k,Kt Z s' ae->ts<+:ae->Fr (sd::Z.m) s s'->Den ae k (.a1 h x)->Q (.int k) s'):aq sc (n+8) 25 [.ref Z.kt,.int k,.tup [a],ms,.ref sd] Q s:=by
 refine cg rfl<|am H.kt rfl rfl<|uS H hd<|mL F rfl<|am H.kt rfl rfl<|ce H.rows (H.sm hd) (i' _ hd) ?_;have I:=m7 ts (.a1 h (.v 0));have h1:bJ h≠6:=by rcases ir h with e|e<;>rw [e]<;>decide
 have h2:bJ h≠7:=by rcases ir h with e|e<;>rw [e]<;>decide
 refine cA (aa rfl) rfl<|aO h1<|cA (aa rfl) rfl<|aO h2<|c_ λs1 f1 J l1=> ?_;apply wA I;have H1:=H.new f1;have E:=f1.gn F;have slt:=bE F;refine bz trivial<|ee J<|Lu H1 (H.bL hd ai) E (ll rfl) rfl<|eg J (ll rfl) λs2 f2 e2 l2=> ?_;refine dH trivial ?_;refine oi e2 (ll rfl)<|Hb (t:= .a1 h x) (H1.fr f2 (H.off (g6 _))) I rfl rfl rfl hu ha λs3 G L H3 p3 f3 d3=> ?_;refine eF (f3.get (z.ef D) (f2.get (by simp;exact oq 63 slt) E)) rfl (aa rfl) λs4 Y e4 l4=> ?_;apply eK (v:= .int L) e4 rfl (by simp [aV,aE]);refine q s4 G L (H3.fr Y (z.off D)) p3 ?_ d3;have g1:=((aI f1).trans (f2.sub (m':=s.length::sd::Z.m) λj y=>by replace y:=aj y;simp [y])).cut λj y hl=>by
  cases y with|head=>exact dv hl (JB _)|tail _ h=>exact h
 exact (g1.trans (f3.sub λj y=> .tail _ y)).trans (Y.sub λj y=>by replace y:=aj y;simp [y])
theorem zF (H:Kt Z s ts) (hd:Den ts k t) (ho:CN t) (hl:aD ts vs l) (A:op t=0\/l.length=1) (E:sub l t∈Z.U)
 (q:∀s' ae k,Kt Z s' ae->ts<+:ae->Fr Z.m s s'->Den ae k (sub l t)->Q (.int k) s'):aq sc (n+9) 24 [.ref Z.kt,.int k,.tup vs,.tup []] Q s:=by
 refine cg rfl<|cO H.kt rfl rfl<|iD H hd λ_ _=> ?_;apply am H.kt rfl rfl;apply uS H hd;by_cases z:op t=0
 ·exact bW (oo 0xc2840a0181 z)<|q s ts k H (aF _) .ay (by rw [d8 z];exact hd)
 ·apply aO (oo 0xc28480a01a01 z);obtain ⟨h,rfl⟩:=ho.resolve_left z;have A:=A.resolve_left z;induction hl with|nil=>trivial|cons d r=>
   induction r with
   |nil=>
    refine lT λs1 f1 F l1=> ?_;refine Jj (H.new f1) H .refl hd (.cons d .nil) E F λG D I J p2 f2 L=> ?_;exact q G D I J p2 (((aI f1).trans f2).cut λj Y hl=>by
     cases Y with|head=>exact dv hl (JB _)|tail _ h=>exact h) L
   |cons=>cases A
theorem O7 {i} {ks} {as} (H:Kt Z s ts) (L:s[i]? =some (.list ks)) (Y:i∉Z.m) (hk:aD ts ks l) (hv:aD ts vs as) (z:l.length<=100)
 (ho:∀t∈l,CN t/\(op t=0\/as.length=1)/\sub as t∈Z.U)
 (q:∀s' ae ws,Kt Z s' ae->ts<+:ae->Fr Z.m s s'->aD ae ws (l.map (sub as))->Q (.tup ws) s'):aq sc (n+10) 29 [.ref Z.kt,.ref i,.tup vs,.tup []] Q s:=by
 refine cg rfl<|c_ λs1 f1 e1 A=> ?_;have hil:=bE L;refine cV (f1.gn L) (by rw [hk.len];exact oq 37 z)<|oR (λ_ rest ρ s'=>E5 λae ws A l2 o=>A8 (Kt Z s' ae) (ts<+:ae) (Fr (s.length::Z.m) s1 s') (s'[s.length]? =some (.list ws)) (aD ae ws (A.map (sub as))) (aD ae rest l2) (A++l2=l) (ρ=(dR (eR Z.kt) (eR i) (some (.tup vs)) (some (.tup [])) (eR s.length) o))) _ [] _ _ ⟨ts,[],[],l,_,H.new f1,aF _,.ay,e1,.nil,hk,rfl,rfl⟩ ?_ ?_ ?_
 ·rintro _ _ _ s' ⟨ae,ws,A,l2,o,I,E,F,_⟩;exact .inl ⟨F.get (by simp;exact ⟨oq 63 hil,Y⟩) (f1.gn L),rfl⟩
 ·rintro _ s' _ ⟨ae,ws,A,l2,o,I,E,F,J,G,d2,e,rfl⟩;cases d2;rw [hR] at e;subst e;have:=G.len;rw [aC] at this;apply oi J (oq 64 this z);exact q s' ae ws I E (((aI f1).trans F).cut λj D hl=>by
        cases D with|head=>exact dv hl (JB _)|tail _ h=>exact h) G
 ·rintro K _ v rest _ s' ⟨ae,ws,A,l2,o,I,E,F,J,G,d2,e,rfl⟩ hK;cases d2 with| @cons k t _ l2 dk dr=>
    have hm:t∈l:=by rw [<-e];simp
    have h1:=ho t hm;refine ee J<|zF I dk h1.1 (hv.mono E) h1.2.1 h1.2.2 λs2 ts2 k2 H2 p2 f2 dd=> ?_;have z0:=G.len;rw [aC] at z0;have:(A++t::l2).length<=100:=by rw [e];exact z
    refine eg (f2.get (H.ef .refl) J) (by simp at this;exact oo 0x32a3d475cac04e003 this z0) λs3 f3 e3 l3=> ?_;refine hK.next ⟨ts2,_,A++ [t],l2,_,H2.fr f3 (H.off .refl),E.trans p2,(F.trans (f2.sub λj D=> .tail _ D)).trans (f3.sub λj D=>by simp at D;simp [D]),e3,?_,dr.mono p2,by simpa using e,rfl⟩
    rw [lh];exact (G.mono p2).app (.cons dd .nil)
end
variable {W:World}{y:Kd}{hv:Bool}{Z:Zw}
structure World where
 a:Nat
 b:Nat
noncomputable def lA (h:Nat):Bool:=decide (67<=h)&&decide (h<=70)
def aX:Kd->Bool:=Kd.rec (λ_=>false) (λ_=>false) (λ_ _=>false) (λh=>lA h) (λh _ _=>lA h) (λh _ _ _ _=>lA h) λ_ _=>false
noncomputable def face (x:Kd):Nat->List Kd
 |1=> [.a0 67]|2=> [.a0 68]|3=> [.a1 69 (.a0 64)]|4=> [.a1 69 (.a0 65)]|5=> [.a1 69 x]|6=> [.a2 70 (.a0 64) (.a0 65)]|7=> [.a2 70 (.a0 65) x]|8=> [.a1 69 (.a1 69 x)]|_=> []
noncomputable def more:Nat->List Kd
 |1=> [.a0 67]|2=> [.a0 68]|_=> []
noncomputable def n9:Nat->Kd
 |0=> .a0 64|1=> .a0 65|_=> .a1 72 (.a0 64)
noncomputable def tb {α} (d:α) (l:List (Nat×α)) (h:Nat):α:=(l.lookup h).getD d
theorem tL {d} (l:List (Nat×α)):tb d l h=d\/(h,tb d l h)∈l:=by
 induction l with|nil=>exact .inl rfl|cons p l j=>
  obtain ⟨a,b⟩:=p;by_cases e:h=a
  ·subst e;exact .inr (by rw [show tb d ((h,b)::l) h=b from by simp only [tb,List.lookup,m5];rfl];exact ai)
  ·rw [show tb d ((a,b)::l) h=tb d l h from by simp only [tb,List.lookup];rw [sv.mpr e]];exact j.imp id (.tail _)
theorem fc {p:α->Prop} {a} {l} (h:p a) (q:∀x∈l,p x):∀x∈a::l,p x:=List.forall_mem_cons.2 ⟨h,q⟩
theorem zk {P:α->Prop} {d} {l} (j:P d) (hl:∀p∈l,P p.2):P (tb d l h):=(tL l).elim (λe=>e.symm▸j) λm=>hl _ m
noncomputable def look (l:List (Nat×List Kd)) (h:Nat):List Kd:=match l with| []=> []|p::l=>if p.1=h then p.2 else look l h
noncomputable def World.BW (W:World):List (Nat×List Kd):= [(2,.p 12::more (W.a/15552%2)),(3,.a0 2::more (W.a/31104%3)),(5,.p 12::more (W.a/93312%3)),(6,[.p 12]),(8,[.a0 2]),(64,.p 12::face (.a0 64) (W.b%9)),(65,.a0 64::face (.a0 65) (W.b/9%9)),
 (66,n9 (W.a/81%3)::face (.a0 66) (W.b/81%9)),(68,more (W.b/6561%2)),(71,[.a0 6]),(72,[.p 12,.a1 69 (.v 0)]),(73,.a0 2::face (.a0 73) (W.b/729%9)),(74,[.a0 2,.a1 69 (.v 0)]),(75,[.a0 3]),(76,[.a0 3])]
def World.up (W:World) (h:Nat):List Kd:=look W.BW h
noncomputable def n_ (P:List Kd->Prop):List (Nat×List Kd)->Prop
 | []=>True|p::l=>P p.2/\n_ P l
theorem n_.look {P} (j:P []):∀{l},n_ P l->P (look l h):=by
 intro z;induction z with|nil=>intro _;exact j|cons p l A=>
  intro a;show P (if p.1=h then p.2 else Mine.look l h);by_cases e:p.1=h
  ·rw [ep e];exact a.1
  ·rw [fm e];exact A a.2
theorem Iy:∀{l},h∉l.map (·.1)->look l h= []:=by
 intro j;induction j with|nil=>intro _;exact rfl|cons p l z=>intro n;exact show (if p.1=h then p.2 else look l h)= [] from (fm λ(e:p.1=h)=>n (e▸ai)).trans (z λe=>n (.tail _ e))
noncomputable def qx:List (Nat×List Kd)->List (Nat×List Kd)->Prop
 | [],_=>True|p::l,q::m=>(p.1=q.1/\∀x∈p.2,x∈q.2)/\qx l m|_,[]=>False
theorem qx.look {x}:∀{l m},qx l m->x∈look l h->(h,x)∈m.flatMap λp=>p.2.map λx=>(p.1,x)
 | [],_,_,j=>(ba j).elim
 |p::l,q::m,c,j=>by
  have j:x∈if p.1=h then p.2 else Mine.look l h:=j
  by_cases e:p.1=h
  ·rw [ep e] at j;exact aA _ (g5.mpr ⟨x,c.1.2 x j,by rw [<-c.1.1,e]⟩)
  ·rw [fm e] at j;exact aS _ (qx.look c.2 j)
theorem uJ x:∀d,(face x d).length<=1
 |0=>hL _|1=>g6 _|2=>g6 _|3=>g6 _|4=>g6 _|5=>g6 _|6=>g6 _|7=>g6 _|8=>g6 _|_+9=>hL _
theorem mX:∀d,(more d).length<=1
 |0=>hL _|1=>g6 _|2=>g6 _|_+3=>hL _
theorem C5:∀d,aX (n9 d)=false
 |0=>rfl|1=>rfl|_+2=>rfl
theorem Nl:∀d,(more d).find? (λx=> !aX x)=none
 |0=>rfl|1=>rfl|2=>rfl|_+3=>rfl
theorem tm:(W.up h).length<=2:=by have f:∀{x d},(face x d).length+1<=2:=λ{x d}=>wi (uJ x d);have m:∀{d},(more d).length+1<=2:=λ{d}=>wi (mX d);exact n_.look (P:=λl=>l.length<=2) (hL _) ⟨m,m,m,tu _,tu _,f,f,f,df (mX _) (tu _),tu _,.refl,f,.refl,tu _,tu _,⟨⟩⟩
theorem P9:((W.up h).filter aX).length<=1:=by have f:∀{x d},((face x d).filter aX).length<=1:=λ{x d}=>df (KC _ _) (uJ x d);have m:∀{d},((more d).filter aX).length<=1:=λ{d}=>df (KC _ _) (mX d);have z:=hL 1;exact n_.look (P:=λl=>(l.filter aX).length<=1) z ⟨m,m,m,z,z,f,f,(by show ((n9 _::face _ _).filter aX).length<=1;rw [List.filter_cons,C5];exact f),m,z,.refl,f,.refl,z,z,⟨⟩⟩
noncomputable def jC:List Kd:= [.a0 67,.a0 68]
noncomputable def k8 (x:Kd):List Kd:= [.a0 67,.a0 68,.a1 69 (.a0 64),.a1 69 (.a0 65),.a1 69 x,.a2 70 (.a0 64) (.a0 65),.a2 70 (.a0 65) x,.a1 69 (.a1 69 x)]
def Co:List (Nat×List Kd):= [(2,.p 12::jC),(3,.a0 2::jC),(5,.p 12::jC),(6,[.p 12]),(8,[.a0 2]),(64,.p 12::k8 (.a0 64)),(65,.a0 64::k8 (.a0 65)),(66,.a0 64:: .a0 65:: .a1 72 (.a0 64)::k8 (.a0 66)),(68,jC),(71,[.a0 6]),(72,[.p 12,.a1 69 (.v 0)]),(73,.a0 2::k8 (.a0 73)),(74,[.a0 2,.a1 69 (.v 0)]),(75,[.a0 3]),(76,[.a0 3])]
def ol:List (Nat×Kd):=Co.flatMap λp=>p.2.map λx=>(p.1,x)
theorem v8 {x}:∀{d},x∈more d->x∈jC
 |0,h=>(ba h).elim|1,h=>aj h▸ai|2,h=>aj h▸bn|_+3,h=>(ba h).elim
theorem C4 {x}:∀{d},x∈face y d->x∈k8 y
 |0,h=>(ba h).elim|1,h=>aj h▸ai|2,h=>aj h▸bn|3,h=>aj h▸ci|4,h=>aj h▸eP|5,h=>aj h▸jY|6,h=>aj h▸qg|7,h=>aj h▸s_|8,h=>aj h▸wN|_+9,h=>(ba h).elim
theorem BD {a} {l j:List α} (q:∀x∈l,x∈j):∀x∈a::l,x∈a::j:=λ_ h=>(aR h).elim (λe=>e▸ai) λh=> .tail _ (q _ h)
theorem Qq:∀d,n9 d∈ [Kd.a0 64,.a0 65,.a1 72 (.a0 64)]
 |0=>ai|1=>bn|_+2=>ci
theorem iC {p:Nat->Kd->Prop} (hp:∀q∈ol,p q.1 q.2) {x} (j:x∈W.up h):p h x:=by
 have f:∀{a y} {d},∀x∈a::face y d,x∈a::k8 y:=BD λ_ h=>C4 h;have m:∀{a} {d},∀x∈a::more d,x∈a::jC:=BD λ_ h=>v8 h;exact hp (h,x) (qx.look (l:=W.BW) ⟨⟨rfl,m⟩,⟨rfl,m⟩,⟨rfl,m⟩,⟨rfl,λ_ h=>h⟩,⟨rfl,λ_ h=>h⟩,⟨rfl,f⟩,⟨rfl,f⟩,
  ⟨rfl,λx h=>(aR h).elim (λe=>e▸aA (k8 (.a0 66)) (Qq _)) λh=> .tail _ (.tail _ (.tail _ (C4 h)))⟩,⟨rfl,λ_ h=>v8 h⟩,⟨rfl,λ_ h=>h⟩,⟨rfl,λ_ h=>h⟩,⟨rfl,f⟩,⟨rfl,λ_ h=>h⟩,⟨rfl,λ_ h=>h⟩,⟨rfl,λ_ h=>h⟩,⟨⟩⟩ j)
theorem j9 {x} (j:x∈W.up h):op x=0\/(x= .a1 69 (.v 0)/\(h=72\/h=74)):=
 iC (p:=λh x=>op x=0\/(x= .a1 69 (.v 0)/\(h=72\/h=74))) (by decide) j
noncomputable def w3:Nat->Int
 |0=>1|1=>2|_=>0
noncomputable def World.Ay (W:World):List (Nat×List Int):= [(69,[w3 (W.a%3)]),(70,[(W.a/3%3),(W.a/9%3)]),(71,[(W.a/27%3)]),(8,[0]),(72,[0]),(74,[0]),(77,[0,0])]
def World.cq (W:World):Nat->List Int:=tb [] W.Ay
theorem AU:(W.cq h).length<=2:=zk (P:=λl:List Int=>l.length<=2) (hL _) (fc (tu _) (fc .refl (fc (tu _) (fc (tu _) (fc (tu _) (fc (tu _) (fc .refl λ_=>bg)))))))
noncomputable def World.num (W:World):Nat:=3+W.a/243%8
noncomputable def World.i9 (W:World):Nat:=3+W.a/1944%8
def World.under (W:World) (h:Nat):Option Kd:=if h=75 then some (.p W.num) else if h=76 then some (.p W.i9) else none
theorem yg {P:Option Kd->Prop} (z:h=75->P (some (.p W.num))) (A:h=76->P (some (.p W.i9))) (D:¬h=75->¬h=76->P none):P (W.under h):=by
 unfold World.under;by_cases e:h=75
 ·rw [ep e];exact z e
 ·rw [fm e];by_cases j:h=76
  ·rw [ep j];exact A j
  ·rw [fm j];exact D e j
theorem mB:(1<=W.num/\W.num<=11)/\(1<=W.i9/\W.i9<=11):=by unfold World.num World.i9;lia
noncomputable def ve:List (Nat×Int):= [(8,2),(67,3),(68,3),(69,3),(70,3),(71,4),(73,2),(74,2),(75,5),(76,5)]
def fH:Nat->Int:=tb 1 ve
noncomputable def J0:List (Nat×Nat):= [(8,1),(69,1),(70,2),(71,1),(72,1),(74,1),(77,2)]
def arity:Nat->Nat:=tb 0 J0
theorem vR:arity h<=2:=zk (P:=(·<=2)) (aa rfl) (aa rfl)
def World.ifs (W:World) (h:Nat):List Kd:=(W.up h).filter aX
def World.d9 (W:World) (h:Nat):Option Kd:=(W.up h).find? λx=> !aX x
def World.par (W:World):Kd->List Kd:=Kd.rec (λn=>if n=13 then [.p 12] else if 1<=n/\n<=11 then [.a0 2] else []) (λ_=> []) (λ_ _=> [.a0 5])
 (λh=>(W.up h).map (sub [])) (λh x _=>(W.up h).map (sub [x])) (λh x y _ _=>(W.up h).map (sub [x,y])) λ_ l=>l
def World.eN (W:World) (t:Kd):Option Kd:=(W.par t).find? λx=> !aX x
def World.gU (W:World) (t:Kd):List Kd:=(W.par t).filter aX
structure aM where
 ac:Nat->List Kd
 ca:Nat->Nat
noncomputable def aM.jN (c:aM):Kd->List Kd
 | .v i=>c.ac i|_=> []
noncomputable def aM.qf (c:aM):Kd->Nat
 | .v i=>c.ca i|_=>0
structure Zw extends Kz where
 W:World
 C:aM
 KN:Nat
 KM:Nat
 types:Nat
 KL:Nat
 hb:Nat
 hg:Nat
 td:Nat->Nat
 gE:Nat->Nat
 gx:Nat->Nat
 s0:St
 iN:List Kd
 wd:Nat
 wy:Nat
 un:Nat
 upd:Nat
 has:Bool
 aN:Nat
 jS:Nat
def Zw.st (Z:Zw) (i:Nat) (o:O):Prop:=Z.s0[i]? =some o/\i∉Z.KN::Z.m
abbrev OU (U:List Kd):Prop:=∀t∈U,named t=true->arity (ao t)=(kids t).length
structure eJ (W:World) (U:List Kd):Prop where
 vt: .a0 2∈U
 par:∀t∈U,∀x∈W.par t,x∈U
 bL:∀t∈U,∀x∈kids t,x∈U
 box:∀i,.v i∈U-> .b (.v i)∈U
 wf:OU U
def d6 (ts:List Kd) (o:Option Kd) (v:V):Prop:=Option.rec (v= .int (-1)) (λx=>∃k:Nat,v= .int k/\Den ts k x) o
theorem d6.mono {o} (h:d6 ts o v) (p:ts<+:ae):d6 ae o v:=by
 induction o with|none=>exact h|some x=>obtain ⟨k,e,d⟩:=h;exact ⟨k,e,d.mono p⟩
abbrev D0 (Z:Zw) (h:Nat) (fs:List (Nat×V)):Prop:=∃v,aH fs 14=some v/\d6 Z.iN (Z.W.d9 h) v
abbrev Jh (Z:Zw) (h:Nat):Prop:=∃vs,Z.st (Z.gE h) (.list vs)/\aD Z.iN vs (Z.W.ifs h)
abbrev Q0 (Z:Zw) (h:Nat) (fs:List (Nat×V)):Prop:=∃v,aH fs 23=some v/\d6 Z.iN (Z.W.under h) v
structure NX (Z:Zw) h fs:Prop where
 o:Z.st (Z.td h) (.inst 1 fs)
 sort:aH fs 12=some (.int (fH h))
 base:D0 Z h fs
 eU:aH fs 15=some (.ref (Z.gE h))
 gE:Jh Z h
 kG:aH fs 17=some (.ref (Z.gx h))
 gx:Z.st (Z.gx h) (.list ((Z.W.cq h).map .int))
 lQ:Q0 Z h fs
abbrev P7 (Z:Zw):Prop:=∃fs,Z.st Z.KM (.inst 2 fs)/\aH fs 29=some (.ref Z.kt)/\aH fs 30=some (.ref Z.types)
abbrev La (Z:Zw):Prop:=∃tl,Z.st Z.types (.list tl)/\tl.length=78/\(∀h,cM h=true->tl[h]? =some (.ref (Z.td h)))/\∀i,i<21->(i=1\/i=4\/9<=i)->tl[i]? =some .none
abbrev GJ (Z:Zw):Prop:=∃fs,Z.st Z.KL (.inst 3 fs)/\aH fs 29=some (.ref Z.kt)/\aH fs 41=some (.ref Z.KM)/\aH fs 18=some (.ref Z.hb)/\aH fs 35=some (.ref Z.hg)/\(aH fs 14).isNone=true/\(aH fs 36).isNone=true/\(aH fs 12).isNone=true/\(aH fs 47).isNone=true/\(aH fs 23).isNone=true
abbrev EY (Z:Zw):Prop:=∃af,Z.st Z.hb (.dict af)/\∀ts k t,Z.iN<+:ts->ts.Nodup->Den ts k t->bf af (.int k)=true/\∃vs,(aE af (.int k)).getD (.tup [])= .tup vs/\aD ts vs (Z.C.jN t)
abbrev Od (Z:Zw):Prop:=∃af,Z.st Z.hg (.dict af)/\∀ts k t,Z.iN<+:ts->ts.Nodup->Den ts k t->bf af (.int k)=true/\(aE af (.int k)).getD (.int 0)= .int (Z.C.qf t)
abbrev G_ (Z:Zw):Prop:=∀h,cM h=true->∃fs,NX Z h fs
structure Wd (Z:Zw):Prop where
 KM:P7 Z
 types:La Z
 ty:G_ Z
 KL:GJ Z
 hb:EY Z
 hg:Od Z
 dh:eJ Z.W Z.U
 KN:Z.KN∉Z.m
def encL:Kd->List V:=Kd.rec (λn=> [.int 0,.int n]) (λi=> [.int (-2),.int i]) (λ_ l=> [.int (-1),.tup l]) (λh=> [.int h]) (λh _ l=> [.int h,.tup l]) (λh _ _ l m=> [.int h,.tup l,.tup m]) λ_ _=> []
def enc (t:Kd):V:= .tup (encL t)
def lk (hv:Bool):Kd->Bool:=Kd.rec (λn=>decide (1<=n)&&decide (n<=13)) (λi=>hv&&decide (i<2)) (λ_ b=>b) (λh=>cM h&&arity h==0) (λh _ b=>cM h&&arity h==1&&b) (λh _ _ b c=>cM h&&arity h==2&&b&&c) λ_ _=>false
theorem C9 (j:fH h=3):67<=h/\h<=70:=(tL ve).elim (λe=>dv (j.symm.trans e) (by decide)) λm=>(show∀p∈ve,p.2=3->67<=p.1/\p.1<=70 by decide) _ m j
theorem kI:lA h=true↔67<=h/\h<=70:=⟨λe=>⟨aa (aZ e).1,aa (aZ e).2⟩,λe=>(JD _ _).symm.trans (gs e)⟩
theorem tM h:lA h=decide (fH h=3):=JH.2 (kI.trans (Iff.trans ⟨λe=>by
 have:h=67\/h=68\/h=69\/h=70:=by lia
 rcases this with rfl|rfl|rfl|rfl<;>rfl,C9⟩ nz.symm))
theorem Bj (h:1<=n/\n<=11):W.par (.p n)= [.a0 2]:=(fm (oq 66 h)).trans (ep h)
theorem mm {x} (h:x∈W.par (.p n)):(n=13/\x= .p 12)\/x= .a0 2:=by
 have h:x∈(if n=13 then [Kd.p 12] else if 1<=n/\n<=11 then [.a0 2] else []):=h;by_cases e:n=13
 ·rw [ep e] at h;exact .inl ⟨e,aj h⟩
 ·rw [fm e] at h;by_cases e:1<=n/\n<=11
  ·rw [ep e] at h;exact .inr (aj h)
  ·rw [fm e] at h;exact (ba h).elim
theorem bQ {a b} (h:a=true) (j:b=true):(a&&b)=true:=Bool.and_eq_true_iff.2 ⟨h,j⟩
theorem lD (h:lk hv (.p n)=true):1<=n/\n<=13:=⟨aa (aZ h).1,aa (aZ h).2⟩
theorem qp (h:1<=n/\n<=13):lk hv (.p n)=true:=(JD _ _).symm.trans (gs h)
theorem dz {i} (h:lk hv (.v i)=true):hv=true/\i<2:=⟨(aZ h).1,aa (aZ h).2⟩
theorem uv {g} (h:lk hv (.a0 g)=true):cM g=true/\arity g=0:=⟨(aZ h).1,eq_of_beq (aZ h).2⟩
theorem wL {g} {x} (h:lk hv (.a1 g x)=true):(cM g=true/\arity g=1)/\lk hv x=true:=⟨⟨(bq h).1.1,eq_of_beq (bq h).1.2⟩,(bq h).2⟩
theorem qS {g} {x} (h:lk hv (.a2 g x y)=true):((cM g=true/\arity g=2)/\lk hv x=true)/\lk hv y=true:=⟨⟨⟨(gJ h).1.1.1,eq_of_beq (gJ h).1.1.2⟩,(gJ h).1.2⟩,(gJ h).2⟩
def Md (af:List (V×V)) (ts:List Kd):Prop:=∃l:List Kd,l.Nodup/\(∀t∈l,t∈ts/\lk true t=true)/\af=l.map λt=>(enc t,V.int (ix ts t))
theorem Md.mono (h:Md af ts) (p:ts<+:ae):Md af ae:=by obtain ⟨l,A,z,D⟩:=h;refine ⟨l,A,λt j=>⟨p.mem (z t j).1,(z t j).2⟩,?_⟩;rw [D];exact JR λt j=>by rw [lL (z t j).1 p]
abbrev MK (Z:Zw) (s:St) (ts:List Kd):Prop:=∃af,s[Z.KN]? =some (.dict af)/\Md af ts
structure H (Z:Zw) s ts:Prop where
 kt:Kt Z.toKz s ts
 fr:Fr (Z.KN::Z.m) Z.s0 s
 pre:Z.iN<+:ts
 wd:Wd Z
 md:MK Z s ts
section
theorem H.get {i} (h:H Z s ts) (g:Z.st i o):s[i]? =some o:=h.fr.get g.2 g.1
theorem H.step {s'} {ae} (h:H Z s ts) (K:Kt Z.toKz s' ae) (p:ts<+:ae) (f:Fr Z.m s s'):H Z s' ae:=
 ⟨K,h.fr.trans (f.sub λ_ j=> .tail _ j),h.pre.trans p,h.wd,by
   exact h.md.imp λ_ e=>⟨f.get h.wd.KN e.1,e.2.mono p⟩⟩
theorem H.lt {i} (h:H Z s ts) (j:i∈Z.KN::Z.kt::Z.m):i<s.length:=by
 cases j with|head=>obtain ⟨af,e,m⟩:=h.md;exact bE e|tail _ j=>exact h.kt.lt j
theorem H.g9 {m} (h:H Z s ts) (f:Fr m s s') (hm:∀i∈m,Z.s0.length<=i/\i∉Z.KN::Z.kt::Z.m):H Z s' ts:=
 ⟨h.kt.fr f λi j z=>(hm i z).2 (.tail _ j),⟨df h.fr.len f.len,λi j A=>by
   rw [f.at' i (i1 j h.fr.len) λz=>by have:=(hm i z).1;exact oq 8 j this];exact h.fr.at' i j A⟩,h.pre,h.wd,by
   exact h.md.imp λ_ e=>⟨f.get (λz=>(hm _ z).2 ai) e.1,e.2⟩⟩
theorem H.new (h:H Z s ts) (f:Fr [] s s'):H Z s' ts:=h.g9 f λ_=>bg
theorem H.off {i} (h:H Z cr hE) (j:cr.length<=i):Z.s0.length<=i/\i∉Z.KN::Z.kt::Z.m:=
 ⟨df h.fr.len j,λz=>by have:=h.lt z;exact oq 8 this j⟩
theorem H.ef {i} (h:H Z cr hE) (j:cr.length<=i):i∉Z.m:=λz=>(h.off j).2 (.tail _ (.tail _ z))
theorem H.Cs {i} (h:H Z s ts) (z:H Z cr hE) (D:cr.length<=i) (f:Fr [i] s s'):H Z s' ts:=
 h.g9 f λj A=>by replace A:=aj A;subst A;exact z.off D
end
theorem vI {as} {x} (h:op x=0\/x= .a1 69 (.v 0)):aX (sub as x)=aX x:=by
 rcases h with h|rfl
 ·rw [d8 h]
 ·rfl
theorem eT (j:named t=true):W.par t=(W.up (ao t)).map (sub (kids t)):=by (revert j;generalize t=y;intro j;induction y using Kd.casesOn<;>first|rfl|trivial)
theorem Fs {f} {p:β->Bool} {q}:∀{l:List α},(∀x∈l,p (f x)=q x)->(l.map f).filter p=(l.filter q).map f:=by
 intro j;induction j with|nil=>intro _;exact rfl|cons x l z=>
  intro h;rw [HG,List.filter_cons,List.filter_cons,h x ai,z λy A=>h y (.tail _ A)]
  split<;>rfl
theorem QM {f} {p:β->Bool} {q}:∀{l:List α},(∀x∈l,p (f x)=q x)->(l.map f).find? p=(l.find? q).map f:=by
 intro j;induction j with|nil=>intro _;exact rfl|cons x l z=>
  intro h;rw [HG,hW,hW,h x ai]
  split
  ·rfl
  ·exact z λy A=>h y (.tail _ A)
theorem Pc (j:named t=true):W.gU t=(W.ifs (ao t)).map (sub (kids t)):=by unfold World.gU World.ifs;rw [eT j];exact Fs λx y=>vI ((j9 y).imp id And.left)
theorem C7 (j:named t=true):W.eN t=(W.d9 (ao t)).map (sub (kids t)):=by unfold World.eN World.d9;rw [eT j];exact QM λx y=>by rw [vI ((j9 y).imp id And.left)]
theorem me {p} {l:List α} {x} (h:l.find? p=some x):x∈l/\p x=true:=⟨List.mem_of_find?_eq_some h,List.find?_some h⟩
theorem Ks {x} (e:W.d9 h=some x):op x=0:=by
 obtain ⟨j,y⟩:=me e;rcases j9 j with h|⟨rfl,_⟩
 ·exact h
 ·trivial
theorem t9 (hv:bF h=true):W.d9 h=some (if fH h=5 then .a0 3 else .a0 2):=by rcases ((Bool.or_eq_true_iff.1 hv).imp eq_of_beq λhv=>i4 (aa (aZ hv).1) (aa (aZ hv).2)) with rfl|rfl|rfl|rfl|rfl<;>rfl
theorem Ff (j:fH h=3):W.d9 h=none:=by
 have e:h=67\/h=68\/h=69\/h=70:=by have:=C9 j;lia
 rcases e with rfl|rfl|rfl|rfl
 ·rfl
 ·show (more (W.b/6561%2)).find? _=none;unfold more
  split<;>rfl
 ·rfl
 ·rfl
noncomputable def tl:Ss->Ss
 | .cons _ r=>r|e=>e
noncomputable def F3 (b:Ss):Ss:=Ss.casesOn b .nil λs _=>S.casesOn s (λ_=> .nil) (λ_ _=> .nil) (λ_ _ _=> .nil) (λ_ _ _=> .nil) (λ_ _=> .nil) (λ_ _ _=> .nil) (λ_=> .nil) (λ_ a _=>a) (λ_ _=> .nil) (λ_ _ _ _=> .nil) .nil .nil .nil (λ_=> .nil)
noncomputable def EZ (b:Ss):Ss:=Ss.casesOn b .nil λs _=>S.casesOn s (λ_=> .nil) (λ_ _=> .nil) (λ_ _ _=> .nil) (λ_ _ _=> .nil) (λ_ _=> .nil) (λ_ _ _=> .nil) (λ_=> .nil) (λ_ _ _=> .nil) (λ_ _=> .nil) (λ_ _ _ b=>b) .nil .nil .nil (λ_=> .nil)
section
theorem H.good (h:H Z s ts) (hd:Den ts k t):dw t=true:=h.kt.good hd
theorem H.U (h:H Z s ts) (hd:Den ts k t):t∈Z.U:=h.kt.sub t hd.mem
theorem sY (j:named t=true):mD t=ao t:=by (revert j;generalize t=y;intro j;induction y using Kd.casesOn<;>first|rfl|trivial)
theorem pY (h:H Z s ts) (hd:Den ts k t) (y:named t=true) (q:Q (.ref (Z.td (ao t))) s):aq sc (n+3) 39 [.ref Z.KM,.int k] Q s:=by apply cg rfl;obtain ⟨fs,j,F,z⟩:=h.wd.KM;obtain ⟨tl,A,D,G,J⟩:=h.wd.types;have g:=jg (h.good hd) y;obtain ⟨I,L,E⟩:=nV g;refine am (h.get j) rfl F<|kC h.kt hd ?_;rw [sY y];exact aO (oq 36 I)<|am (h.get j) rfl z<|dW (h.get A) (oq 38 D)<|aO (oq 67 D E)<|am (h.get j) rfl z<|ce (h.get A) ⟨oq 0,oq 39 E⟩ (G _ g) q
theorem D6 {i} (h:H Z s ts) (hd:Den ts k (.p i)) (q:Q .none s):aq sc (n+3) 39 [.ref Z.KM,.int k] Q s:=by
 apply cg rfl;obtain ⟨fs,z,G,A⟩:=h.wd.KM;obtain ⟨tl,D,E,e6,I⟩:=h.wd.types;refine am (h.get z) rfl G<|kC h.kt hd ?_;have J:∃j:Nat,mD (.p i)=j/\j<21/\(j=0\/j=1\/j=4\/9<=j):=by
  have:=aa (h.good hd);have a:∀i:Nat,i<16->((ck 0 i).getD 0=((ck 0 i).getD 0).toNat/\((ck 0 i).getD 0).toNat<21/\(((ck 0 i).getD 0).toNat=0\/((ck 0 i).getD 0).toNat=1\/((ck 0 i).getD 0).toNat=4\/9<=((ck 0 i).getD 0).toNat)):=by decide
  exact ⟨_,a i this⟩
 obtain ⟨j,L,y,Y⟩:=J;rw [L];refine az (λF=> ?_) λF=> ?_
 ·refine bW F q
 ·exact am (h.get z) rfl A<|dW (h.get D) (oq 38 E)<|aO (oo 0xd448013bc8200057cc14003a02 y E)<|am (h.get z) rfl A<|ce (h.get D) ⟨oq 0,oo 0x180057c824a0401 y⟩ (I j y (by lia)) q
theorem H.qM (h:H Z s ts) (hd:Den ts k t) (hp:∀i,t≠ .p i):¬(k:Int)<16:=λhk=>hp k ((h.kt.fC hd (oo 0x30008790200010f2081 hk)).1 rfl)
theorem Ih {i} (h:H Z s ts) (hd:Den ts k (.p i)) (z:1<=i/\i<=13)
 (q:∀s' ae v,H Z s' ae->ts<+:ae->Fr Z.m s s'->d6 ae (Z.W.eN (.p i)) v->Q v s'):aq sc (n+8) 41 [.ref Z.KM,.int k] Q s:=by
 apply cg rfl;have:=(h.kt.fC hd (oq 68 z)).2 rfl;subst this;obtain ⟨fs,D,E,L⟩:=h.wd.KM;by_cases j:k<=11
 ·refine bW (oq 69 z)<|bW (oo 0xd480520381 j)<|am (h.get D) rfl E<|iA h.kt h.wd.dh.vt rfl rfl rfl .nil λF A G I p1 f1 J=> ?_;apply q F A _ (h.step I p1 f1) p1 f1;have:Z.W.eN (.p k)=some (.a0 2):=by unfold World.eN;rw [Bj (by exact oo 0xd20140254806a000414a40008281 z j)];rfl
  rw [this];exact ⟨G,rfl,J⟩
 ·have:k=12\/k=13:=oo 0xd0082900109008480548086a000414d423a1301 z j;refine bW (oq 69 z)<|aO (oo 0xd48085203a01 j) ?_;rcases this with rfl|rfl
  ·exact q s ts _ h (aF _) .ay rfl
  ·exact q s ts _ h (aF _) .ay ⟨12,rfl,h.kt.prim (aa rfl)⟩
def cQ:Kd->Bool:=Kd.rec (λn=>decide (1<=n)&&decide (n<=13)) (λ_=>false) (λ_ _=>true) (λ_=>true) (λ_ _ _=>true) (λ_ _ _ _ _=>true) λx _=>isVal x
theorem zM (h:1<=n/\n<=13):cQ (.p n)=true:=(JD _ _).symm.trans (gs h)
theorem AO (h:isVal (.p n)=true):cQ (.p n)=true:=zM ((aZ h).imp aa λh=>df (aa h) (aa rfl))
theorem base_of_ok (h:H Z s ts) (hd:Den ts k t) (ht:cQ t=true) (hb:∀x,t≠ .b x)
 (q:∀s' ae v,H Z s' ae->ts<+:ae->Fr Z.m s s'->d6 ae (Z.W.eN t) v->Q v s'):aq sc (n+10) 40 [.ref Z.KM,.int k] Q s:=by
 apply cg rfl;obtain ⟨fs,e1,e2,e3⟩:=h.wd.KM;apply am (h.get e1) rfl e2;have j:named t=true->wSs sc (n+9) (tl (tl (bo 40))) (e_ (eR Z.KM) (eI k) (eR Z.kt) none none) (fin Q) s:=by
  intro D;obtain ⟨de,ty⟩:=h.wd.ty (ao t) (jg (h.good hd) D);have hb:=C7 (W:=Z.W) D;apply d_ h.kt hd;induction hv:isVal t with
  |true=>
   have hs:cH t=3:=by have:=ki D;rw [hv] at this;cases t<;>first|exact this|cases D
   have hvh:bF (ao t)=true:=by cases t<;>first|exact hv|cases D
   rw [hs];refine pY h hd D<|am (h.get ty.o) rfl ty.sort ?_;rw [t9 hvh] at hb;refine az (λJ=> ?_) λJ=> ?_
   ·rw [ep J] at hb;refine iA h.kt (h.wd.dh.par t (h.U hd) _ (me hb).1) rfl rfl rfl .nil λA z G I p1 f1 E=> ?_;exact q A z _ (h.step I p1 f1) p1 f1 (by rw [hb];exact ⟨G,rfl,E⟩)
   ·rw [fm J] at hb;refine iA h.kt (h.wd.dh.par t (h.U hd) _ (me hb).1) rfl rfl rfl .nil λA z G I p1 f1 E=> ?_;exact q A z _ (h.step I p1 f1) p1 f1 (by rw [hb];exact ⟨G,rfl,E⟩)
  |false=>
   have hs:cH t=2:=by have:=ki D;rw [hv] at this;cases t<;>first|exact this|contradiction
   rw [hs];apply pY h hd D;obtain ⟨vb,tb,tr⟩:=ty.base;induction hk:Z.W.d9 (ao t) using Option.casesOn with
   |none=>rw [hk] at hb tr;rw [show vb= .int (-1) from tr] at tb;exact am (h.get ty.o) rfl tb<|q s ts _ h (aF _) .ay (by rw [hb];rfl)
   |some x=>rw [hk] at hb tr;obtain ⟨kx,e,L⟩:=tr;rw [e] at tb;have Y:=tb;refine am (h.get ty.o) rfl Y<|am (h.get ty.o) rfl ty.sort<|aO (λe=>by rw [Ff e] at hk;cases hk)<|am (h.get ty.o) rfl Y<|oB h.kt hd λvs hvs=> ?_;have ho:=Ks hk;refine zF h.kt (L.mono h.pre) (.inl ho) hvs (.inl ho) (by rw [d8 ho];exact h.kt.sub x (L.mono h.pre).mem) λA z G I p1 f1 E=> ?_;exact q A z _ (h.step I p1 f1) p1 f1 (by rw [hb];show d6 z (some (sub (kids t) x)) _;rw [d8 ho] at E⊢;exact ⟨G,rfl,E⟩)
 induction t using Kd.casesOn with
 |p i=>have hi:=lD (hv:=true) ht;have z0:=(h.kt.fC hd (oq 68 hi)).2 rfl;exact bW (oo 0x34906023581008280021e40402 hi z0)<|Ih h hd hi λA z v J p1 f1 r=>q A z v J p1 f1 r
 |v i=>cases ht|b x=>exact dv rfl (hb x)|ar x=>refine aO (h.qM hd λ_=>nofun)<|d_ h.kt hd<|iA h.kt (h.wd.dh.par _ (h.U hd) _ ai) rfl rfl rfl .nil λA z G I p1 f1 E=> ?_;exact q A z _ (h.step I p1 f1) p1 f1 ⟨G,rfl,E⟩
 |a0 g=>exact aO (h.qM hd λ_=>nofun) (j rfl)|a1 g x=>exact aO (h.qM hd λ_=>nofun) (j rfl)|a2 g x y=>exact aO (h.qM hd λ_=>nofun) (j rfl)
theorem oL (hd:cH t=8):∃x,t= .b x:=by
 induction t with|b x=>exact ⟨x,rfl⟩|a0 g=>have j:bJ g=8:=hd;have z:=ir g;exact (oq 40 z j).elim|a1 g x=>have A:bJ g=8:=hd;have D:=ir g;exact (oq 40 D A).elim|a2 g x y=>have E:bJ g=8:=hd;have F:=ir g;exact (oq 40 F E).elim|_=>cases hd
theorem A2 (h:H Z s ts) (hd:Den ts k t) (y:cQ t=true) (hb:∀x,t≠ .b x)
 (q:∀s' ae v,H Z s' ae->ts<+:ae->Fr Z.m s s'->d6 ae (Z.W.eN t) v->Q v s'):aq sc (n+11) 54 [.ref Z.KL,.int k] Q s:=by
 apply cg rfl;obtain ⟨fs,z,A,D,_⟩:=h.wd.KL;refine am (h.get z) rfl A<|gK h.kt hd ?_;have hv:ak t=false:=by (revert y;generalize t=E;intro y;induction E using Kd.casesOn<;>first|rfl|trivial)
 exact jz hv<|am (h.get z) rfl A<|d_ h.kt hd<|aO (λe=>by obtain ⟨x,rfl⟩:=oL e;exact hb x rfl)<|am (h.get z) rfl D<|base_of_ok h hd y hb q
theorem J1 (h:H Z s ts) (hd:Den ts k t) (D:cQ t=true)
 (q:∀s' ae v,H Z s' ae->ts<+:ae->Fr Z.m s s'->d6 ae (Z.W.eN t) v->Q v s'):aq sc (n+13) 54 [.ref Z.KL,.int k] Q s:=by
 by_cases hb:∀x,t≠ .b x
 ·exact A2 h hd D hb q
 ·have:∃x,t= .b x:=by
   induction t with|b x=>exact ⟨x,rfl⟩|_=>exact dv (λ_=>nofun) hb
  obtain ⟨x,rfl⟩:=this;apply cg rfl;obtain ⟨fs,z,A,F,_,_,E,_⟩:=h.wd.KL;refine am (h.get z) rfl A<|gK h.kt hd<|am (h.get z) rfl A<|d_ h.kt hd<|cg rfl<|am (h.get z) rfl A<|d_ h.kt hd<|cO (h.get z) E rfl<|nJ h.kt hd (.inr rfl) λk' d'=> ?_;refine A2 h d' ?_ (λy e=>by subst e;trivial) q;induction x with|p i=>exact AO D|_=>first|rfl|trivial
end
end Mine
section
noncomputable section
namespace Mine
open PySem
variable
 {h h' n k:Nat}
 {W:World}
 {t y:Kd}
 {sc:List Int}
 {Q:V->St->Prop}
 {s:St}
 {Z:Zw}
 {ts:List Kd}
theorem oy (e:h=72\/h=74):arity h=1:=by rcases e with rfl|rfl<;>rfl
section
theorem sj (j:named t=true):cH t=bJ (ao t):=by (revert j;generalize t=z;intro j;induction z using Kd.casesOn<;>first|rfl|trivial)
theorem Mi (h:H Z s ts) (hd:Den ts k t) (ht:cQ t=true) (hb:∀x,t≠ .b x)
 (q:∀s' ae vs,H Z s' ae->ts<+:ae->Fr Z.m s s'->aD ae vs (Z.W.gU t)->Q (.tup vs) s'):aq sc (n+11) 42 [.ref Z.KM,.int k] Q s:=by
 apply cg rfl;obtain ⟨fs,J,L,e3⟩:=h.wd.KM;refine am (h.get J) rfl L<|d_ h.kt hd<|aO (λe=>by obtain ⟨x,rfl⟩:=oL e;exact hb x rfl) ?_;have j:named t=true->wSs sc (n+10) (dr 2 (tl (bo 42))) (e_ (eR Z.KM) (eI k) (eR Z.kt) (eI (cH t)) none) (fin Q) s:=by
  intro A;obtain ⟨de,ty⟩:=h.wd.ty (ao t) (jg (h.good hd) A);refine aO (λe=>by rw [sj A] at e;have:=ir (ao t);exact oq 23 this e)<|pY h hd A<|am (h.get ty.o) rfl ty.eU<|oB h.kt hd λvs D=> ?_;obtain ⟨ws,I,Y⟩:=ty.gE;have ha:hZ t=kids t:=by unfold hZ;rw [ep A]
  rw [ha] at D;refine O7 h.kt (h.get I) (λe=>I.2 (.tail _ e)) (Y.mono h.pre) D (df (KC _ _) (df tm (aa rfl))) (λx hx=> ?_) λs1 F G K1 p1 f1 d1=> ?_
  ·have E:=(JG.mp hx).1;have ho:=j9 E;refine ⟨ho.imp id λe=>⟨_,e.1⟩,ho.imp id λe=> ?_,h.wd.dh.par t (h.U hd) _ ?_⟩
   ·rw [<-h.wd.dh.wf t (h.U hd) A];exact oy e.2
   ·rw [eT A];exact List.mem_map_of_mem E
  ·exact q s1 F G (h.step K1 p1 f1) p1 f1 (by rw [Pc A];exact d1)
 induction t with
 |p i=>exact D6 h hd (q s ts _ h (aF _) .ay (by
    have:Z.W.gU (.p i)= []:=by
     show List.filter aX (if i=13 then [.p 12] else if 1<=i/\i<=11 then [.a0 2] else [])= []
     split
     ·rfl
     ·split<;>rfl
    rw [this];exact .nil))
 |v i=>trivial|b x=>exact dv rfl (hb x)|ar x=>exact q s ts _ h (aF _) .ay .nil|a0 g=>exact j rfl|a1 g x=>exact j rfl|a2 g x y=>exact j rfl
theorem xZ (h:H Z s ts) (hd:Den ts k t) (z:cQ t=true) (hb:∀x,t≠ .b x)
 (q:∀s' ae vs,H Z s' ae->ts<+:ae->Fr Z.m s s'->aD ae vs (Z.W.gU t)->Q (.tup vs) s'):aq sc (n+12) 55 [.ref Z.KL,.int k] Q s:=by
 apply cg rfl;obtain ⟨fs,A,D,E,_⟩:=h.wd.KL;refine am (h.get A) rfl D<|gK h.kt hd ?_;have hv:ak t=false:=by (revert z;generalize t=F;intro z;induction F using Kd.casesOn<;>first|rfl|trivial)
 rw [hv];exact am (h.get A) rfl D<|d_ h.kt hd<|aO (λe=>by obtain ⟨x,rfl⟩:=oL e;exact hb x rfl)<|am (h.get A) rfl E<|Mi h hd z hb q
theorem Dc {x} (j:isVal x=true):cQ x=true/\∀y,x≠ .b y:=by
 refine ⟨?_,λy e=>by subst e;trivial⟩;induction x with|p i=>exact AO j|_=>first|rfl|trivial
theorem Cu (h:H Z s ts) (hd:Den ts k t) (A:cQ t=true)
 (q:∀s' ae vs,H Z s' ae->ts<+:ae->Fr Z.m s s'->aD ae vs (Z.W.gU t)->Q (.tup vs) s'):aq sc (n+14) 55 [.ref Z.KL,.int k] Q s:=by
 by_cases hb:∀x,t≠ .b x
 ·exact xZ h hd A hb q
 ·have:∃x,t= .b x:=by
   induction t with|b x=>exact ⟨x,rfl⟩|_=>exact dv (λ_=>nofun) hb
  obtain ⟨x,rfl⟩:=this;apply cg rfl;obtain ⟨fs,z,D,F,_,_,G,E,_⟩:=h.wd.KL;refine am (h.get z) rfl D<|gK h.kt hd<|am (h.get z) rfl D<|d_ h.kt hd<|cg rfl<|am (h.get z) rfl D<|d_ h.kt hd<|cO (h.get z) E rfl<|nJ h.kt hd (.inr rfl) λk' d'=> ?_;exact xZ h d' (Dc A).1 (Dc A).2 q
theorem u5 (j:named t=true):aX t=decide (fH (ao t)=3):=t.casesOn (λ_=>nf) (λ_=>nf) (λ_=>nf) (λg _=>tM g) (λg _ _=>tM g) (λg _ _ _=>tM g) (λ_=>nf) j
theorem yQ (hv:isVal t=true):aX t=false:=by
 have key:∀h,bF h=true->lA h=false:=λh e=>KG.2 λi=>by have i:=kI.1 i;simp only [bF,Kv,g7,hQ,H'] at e;exact oo 0xc241413a4000093e416084c002379000021f905481 i e
 exact t.casesOn (λ_ _=>rfl) (λ_ _=>rfl) (λ_ _=>rfl) (λg=>key g) (λg _=>key g) (λg _ _=>key g) (λ_ _=>rfl) hv
theorem pG (h:H Z s ts) (hd:Den ts k t) (q:Q (.bool (aX t)) s):aq sc (n+5) 46 [.ref Z.KL,.int k] Q s:=by
 apply cg rfl;obtain ⟨fs,z,D,E,_,_,I,J,F,_⟩:=h.wd.KL;refine am (h.get z) rfl D<|d_ h.kt hd ?_;by_cases j:named t=true
 ·refine az (λA=> ?_) λA=> ?_
  ·refine cO (h.get z) F rfl<|cg rfl<|am (h.get z) rfl E<|pY h hd j ?_;obtain ⟨de,ty⟩:=h.wd.ty (ao t) (jg (h.good hd) j);apply am (h.get ty.o) rfl ty.sort;rw [u5 j] at q;exact q
  ·have:isVal t=true:=by
    rw [sj j,ki j] at A;cases hv:isVal t
    ·rw [hv] at A;exact dv rfl A
    ·rfl
   rw [yQ this] at q;have e:=hI A;rw [e];exact q
 ·have z:cH t≠2:=by induction t using Kd.casesOn<;>first|exact dv rfl j|(intro e;cases e)
  have D:aX t=false:=by (revert j;generalize t=G;intro j;induction G using Kd.casesOn<;>first|exact dv rfl j|rfl)
  rw [D] at q;apply aO z;rw [(hI z)];exact q
theorem Qd (h:H Z s ts) (g:cM h'=true) (q:Q (.tup ((Z.W.cq h').map .int)) s):aq sc (n+2) 57 [.ref Z.KL,.int h'] Q s:=by apply cg rfl;obtain ⟨fs,j,G,z,_⟩:=h.wd.KL;refine am (h.get j) rfl z<|cg rfl ?_;obtain ⟨de,j,G,z⟩:=h.wd.KM;obtain ⟨tl,A,E,F,J⟩:=h.wd.types;obtain ⟨I,L,D⟩:=nV g;obtain ⟨de,ty⟩:=h.wd.ty h' g;refine aO (oq 36 I)<|am (h.get j) rfl z<|dW (h.get A) (oq 38 E)<|aO (oq 67 E D)<|am (h.get j) rfl z<|ce (h.get A) ⟨oq 0,oq 39 D⟩ (F _ g)<|am (h.get j) rfl z<|ce (h.get A) ⟨oq 0,oq 39 D⟩ (F _ g)<|am (h.get ty.o) rfl ty.kG ?_;have:=AU (W:=Z.W) (h:=h');exact oi (h.get ty.gx) (by rw [aC];exact oq 10 this) q
def World.cu (W:World) (t:Kd):Kd:=if isVal t&&named t then (W.under (ao t)).getD t else t
theorem uU {P:Kd->Prop} (z:named t=true->ao t=75->P (.p W.num)) (A:named t=true->ao t=76->P (.p W.i9)) (j:P t):P (W.cu t):=by
 unfold World.cu;by_cases e:(isVal t&&named t)=true
 ·rw [ep e];exact yg (P:=λo=>P (o.getD t)) (z (aZ e).2) (A (aZ e).2) λ_ _=>j
 ·rw [fm e];exact j
theorem L7 (h:H Z s ts) (hd:Den ts k t) (q:∀k',Den ts k' (Z.W.cu t)->Q (.int k') s):aq sc (n+5) 58 [.ref Z.KL,.int k] Q s:=by
 apply cg rfl;obtain ⟨fs,F,I,J,_⟩:=h.wd.KL;refine am (h.get F) rfl J<|cg rfl ?_;obtain ⟨fs,F,I,J⟩:=h.wd.KM;refine am (h.get F) rfl I<|d_ h.kt hd ?_;by_cases j:named t=true/\isVal t=true
 ·obtain ⟨j,hv⟩:=j;have G:cH t=3:=by rw [sj j,ki j,hv];rfl
  rw [G];apply pY h hd j;obtain ⟨de,ty⟩:=h.wd.ty (ao t) (jg (h.good hd) j);obtain ⟨Y,D,tr⟩:=ty.lQ;have z:Z.W.cu t=(Z.W.under (ao t)).getD t:=by unfold World.cu;rw [j,hv];rfl
  refine am (h.get ty.o) rfl ty.sort<|az (λA=> ?_) λA=> ?_
  ·induction E:Z.W.under (ao t) using Option.casesOn with
   |none=>rw [E] at tr z;rw [show Y= .int (-1) from tr] at D;exact am (h.get ty.o) rfl D<|q k (by rw [z];exact hd)
   |some x=>rw [E] at tr z;obtain ⟨k',e,u2⟩:=tr;rw [e] at D;have L:=D;apply am (h.get ty.o) rfl L;exact am (h.get ty.o) rfl L<|q k' (by rw [z];exact u2.mono h.pre)
  ·have E:Z.W.under (ao t)=none:=by exact yg (P:=(·=none)) (λe=>dv (by rw [e];rfl) A) (λe=>dv (by rw [e];rfl) A) λ_ _=>rfl
   rw [E] at z;have e:=hI A;exact aO A<|q k (by rw [z];exact hd)
 ·have G:cH t≠3:=λe=>j (by
   induction t with
   |a0 g=>have e:bJ g=3:=e;refine ⟨rfl,?_⟩;show bF g=true;induction hv:bF g using Bool.casesOn with
          |true=>rfl|false=>rw [jl hv] at e;contradiction
   |a1 g x=>have e:bJ g=3:=e;refine ⟨rfl,?_⟩;show bF g=true;induction hv:bF g using Bool.casesOn with
            |true=>rfl|false=>rw [jl hv] at e;contradiction
   |a2 g x y=>have e:bJ g=3:=e;refine ⟨rfl,?_⟩;show bF g=true;induction hv:bF g using Bool.casesOn with
              |true=>rfl|false=>rw [jl hv] at e;contradiction
   |_=>cases e)
  refine bW G<|q k ?_;rw [show Z.W.cu t=t from fm λe=>j ⟨(aZ e).2,(aZ e).1⟩];exact hd
def twin:Kd->Kd:=Kd.rec (λn=> .p (if n=4 then 3 else if n=6 then 5 else if n=8 then 7 else if n=10 then 9 else n)) (λi=> .v i) (λx _=> .ar x) (λh=> .a0 h) (λh x _=> .a1 h x) (λh x y _ _=> .a2 h x y) λx _=> .b x
theorem q5 {P:Kd->Kd->Prop} (j:P (.p 4) (.p 3)) (z:P (.p 6) (.p 5)) (A:P (.p 8) (.p 7)) (ha:P (.p 10) (.p 9)) (h:∀y,P y y) y:P y (twin y):=by
 induction y with
 |p n=>
  show P (.p n) (.p (if n=4 then 3 else if n=6 then 5 else if n=8 then 7 else if n=10 then 9 else n));by_cases e:n=4
  ·subst e;exact j
  rw [fm e];by_cases e:n=6
  ·subst e;exact z
  rw [fm e];by_cases e:n=8
  ·subst e;exact A
  rw [fm e];by_cases e:n=10
  ·subst e;exact ha
  rw [fm e];exact h _
 |_=>exact h _
theorem Ad:y≠ .p 4->y≠ .p 6->y≠ .p 8->y≠ .p 10->twin y=y:=q5 (P:=λy z=>y≠ .p 4->y≠ .p 6->y≠ .p 8->y≠ .p 10->z=y) (λh=>dv rfl h) (λ_ h=>dv rfl h) (λ_ _ h=>dv rfl h) (λ_ _ _ h=>dv rfl h) (λ_ _ _ _ _=>rfl) y
theorem Ai (h:H Z s ts) (hd:Den ts k t) (q:∀k',Den ts k' (twin (Z.W.cu t))->Q (.int k') s):aq sc (n+6) 51 [.ref Z.KL,.int k] Q s:=by
 apply cg rfl;obtain ⟨fs,A,J,L,_,_,m1,m2,m3,m4,Y⟩:=h.wd.KL;refine cO (h.get A) Y rfl<|L7 h hd λk' d'=> ?_;apply yr;apply yU;generalize Z.W.cu t=u at d' q;have hp:∀i,i<16->(k'=i↔u= .p i):=λi D=>h.kt.fC d' D;have key:∀i j:Nat,i<16->j<16->k'=i->ck 2 i=some j->twin (.p i)= .p j->Q (.int ((ck 2 k').getD k')) s:=λi j D hj A J L=>by have hu:=(hp i D).1 A;subst A;rw [J];exact q j (by rw [hu,L];exact h.kt.prim hj)
 by_cases E:k'=4
 ·exact key 4 3 (aa rfl) (aa rfl) E rfl rfl
 by_cases F:k'=6
 ·exact key 6 5 (aa rfl) (aa rfl) F rfl rfl
 by_cases G:k'=8
 ·exact key 8 7 (aa rfl) (aa rfl) G rfl rfl
 by_cases z:k'=10
 ·exact key 10 9 (aa rfl) (aa rfl) z rfl rfl
 have e:ck 2 k'=none:=by
  have a4:((k':Int)==4)=false:=by simp;exact oo 0xe24c8483201a01 E
  have a6:((k':Int)==6)=false:=by simp;exact oo 0xe2668489a01a01 F
  have a8:((k':Int)==8)=false:=by simp;exact oq 70 G
  have I:((k':Int)==10)=false:=by simp;exact oo 0xe2488482201a01 z
  simp only [ck,tabs,ru,a4,a6,a8,I,List.lookup_nil]
 rw [e];apply q k';rw [Ad (λe=>E ((hp 4 (aa rfl)).2 e)) (λe=>F ((hp 6 (aa rfl)).2 e)) (λe=>G ((hp 8 (aa rfl)).2 e)) λe=>z ((hp 10 (aa rfl)).2 e)];exact d'
def isNul:Kd->Bool:=Kd.rec (λ_=>false) (λ_=>false) (λ_ _=>false) (λh=>h==8) (λh _ _=>h==8) (λh _ _ _ _=>h==8) λ_ _=>false
theorem zX (h:Kt Z.toKz s ts) (hd:Den ts k t) (q:Q (.bool (isNul t)) s):aq sc (n+3) 52 [.ref Z.kt,.int k] Q s:=by
 refine cg rfl<|d_ h hd<|az (λj=> ?_) λj=> ?_
 ·apply kC h hd;have e:isNul t=decide (mD t=8):=by
   have a:∀g:Nat,(g==8)=decide ((g:Int)=8):=λg=>by
    by_cases e:g=8
    ·subst e;rfl
    ·rw [hI (by exact oq 70 e)];simp [e]
   cases t<;>first|exact a _|cases j
  rw [e] at q;exact q
 ·have e:isNul t=false:=by
   have a:∀g,bJ g≠3->(g==8)=false:=λg e=>by
    by_cases h:g=8
    ·subst h;exact dv rfl e
    ·simp [h]
   induction t using Kd.casesOn<;>first|exact a _ j|rfl
  rw [e] at q;rw [hI j];exact q
end
end Mine
end
namespace Mine
open PySem
variable {v src:V}{vs ws vo vt vx:List V}{ts l ls pV pM lp lo:List Kd}{k d N kb n D:Nat}{t:Kd}{sc:List Int}{all:Bool×List V}{is:List Nat}{tup:Bool}{σ α:Type}{s s0 s':St}{K:FP}{nx:Kd->List Kd}{T:List Kd->List Kd->Prop}{C:aM}{Z:Zw}{x0 x1 o5 o6:Option V}{Q:V->St->Prop}
noncomputable def seenOf (vs:List V):List (V×V):=vs.map λv=>(v,V.int 1)
theorem kX:∀{vs},(aE (seenOf vs) v).isSome=decide (v∈vs):=by
 intro j;induction j with|nil=>exact rfl|cons w vs y=>
  unfold aE seenOf at*;rw [HG,hW];by_cases e:w=v
  ·subst e;simp
  ·simp only [e,decide_false];rw [y];have:v∈w::vs↔v∈vs:=by simp [Ne.symm e]
   simp [this]
theorem q_ (h:v∉vs):aV (seenOf vs) v (.int 1)=seenOf (vs++ [v]):=by
 have:aE (seenOf vs) v=none:=by
  have:=kX (v:=v) (vs:=vs);rw [hI h] at this;induction q:aE (seenOf vs) v using Option.casesOn with|none=>rfl|some _=>rw [q] at this;trivial
 rw [qR this];unfold seenOf;rw [lh];rfl
theorem aD.iR (nd:ts.Nodup) (h:aD ts vs l) (d:Den ts k t):V.int k∈vs↔t∈l:=by
 induction h with|nil=>simp| @cons k' j vs l d' _ y=>
   have:V.int k=V.int k'↔t=j:=by rw [<-dC nd d d'];exact ⟨λe=>by cases e;rfl,λe=>by rw [e]⟩
   rw [List.mem_cons,List.mem_cons,y,this]
theorem aD.ij (h:aD ts vs l) {k}:bf (seenOf vs) (.int k)=true:=by
 unfold bf;rw [Bq,Bool.true_and,E'];intro p hp;obtain ⟨v,hv,rfl⟩:=g5.mp hp;have:∃i,v= .int i:=by
  clear hp;induction h with|nil=>trivial|cons d _ j=>
   cases hv with|head=>exact ⟨_,rfl⟩|tail _ hv=>exact j hv
 obtain ⟨i,rfl⟩:=this;rfl
theorem rp:(seenOf vs).length=vs.length:=aC ..
theorem aD.last (h:aD ts vs l):(vs= []/\l= [])\/∃ws r k t,vs=ws++ [V.int (k:Nat)]/\l=r++ [t]/\aD ts ws r/\Den ts k t:=by
 induction h with|nil=>exact .inl ⟨rfl,rfl⟩|cons d _ j=>
  right;rcases j with ⟨rfl,rfl⟩|⟨ws,r,k,t,rfl,rfl,y,z⟩
  ·exact ⟨[],[],_,_,rfl,rfl,.nil,d⟩
  ·exact ⟨_::ws,_::r,k,t,rfl,rfl,.cons d y,z⟩
theorem aD.rev (h:aD ts vs l):aD ts vs.reverse l.reverse:=by
 induction h with|nil=>exact .nil|cons d _ j=>rw [List.reverse_cons,List.reverse_cons];exact j.app (.cons d .nil)
inductive Bd (C:aM) i:Kd->Prop
 |base {x:Kd}:x∈C.ac i->Bd C i x
 |step {j:Nat} {x:Kd}:Bd C i (.v j)->x∈C.ac j->Bd C i x
abbrev Ph (C:aM):Prop:=∀i,∀x∈C.ac i,ak x=true\/aX x=true\/x= .a0 64\/x= .a0 65
structure bY (C:aM):Prop where
 qG:∀i,(C.ac i).length<=2
 Qw:∀i,¬Bd C i (.v i)
 ca:∀i,C.ca i<=2
 ref:Ph C
theorem xp {b} {Q} (E:σ->ag) (J:Nat->St->Prop) (st:∀s,eO src all s) (e:∀{s'} x,J N s'->Q .next (E x) s')
 (step:∀K {j} {s'} x,j<N->J j s'->(∀{z} x,J (j+1) z->K .next (E x) z)->(∀{v ρ s},Q (.ret v) ρ s->K (.ret v) ρ s)->gc (dN is tup (.int j) (E x)) (lH sc d b K s')):
 ∀{m j} x {s},j+m=N->J j s->WF sc d src all is tup b (intsFrom j m) (E x) Q s:=by
 intro F;induction F with|zero=>intro j x s y h;exact dH (st s) (e x (y▸h))|succ m G=>intro j x s y h;exact bz (st s) (step _ x (y▸Nat.lt_add_of_pos_right (Nat.succ_pos m)) h (λx I=>G x (by rw [<-y];exact Nat.succ_add_eq_add_succ j m) I) id)
theorem qC {b} {Q} (E:σ->ag) (J:List Kd->List Kd->St->Prop) x (dl:aD ts vs l) (h:J ts [] s)
 (st:∀{ae done s'},J ae done s'->eO src all s') (e:∀{ae s'} x,ts<+:ae->J ae l s'->Q .next (E x) s')
 (step:∀K {ae done y I s'} x,ts<+:ae->y∈l->Den ae I y->J ae done s'->(∀{F Y} x,ae<+:F->J F (done++ [y]) Y->K .next (E x) Y)->(∀{v ρ s},Q (.ret v) ρ s->K (.ret v) ρ s)->
   gc (dN is tup (.int (I:Nat)) (E x)) (lH sc d b K s')):WF sc d src all is tup b vs (E x) Q s:=by
 refine qP E (λ_ rest s'=>E3 λae done left=>A4 (ts<+:ae) (J ae done s') (aD ae rest left) (done++left=l)) vs [] x s ⟨ts,[],l,aF _,h,dl,rfl⟩ ?_ ?_ ?_
 ·rintro _ _ _ ⟨_,_,_,_,j,_⟩;exact st j
 ·rintro x s' _ ⟨ae,done,left,p,j,dl,G⟩;cases dl;rw [hR] at G;exact e x p (G▸j)
 ·rintro K _ v rest x s' ⟨ae,done,left,p,j,dl,G⟩ hK;cases dl with| @cons I y _ left dy dr=>exact step K x p (G▸aS _ ai) dy j (λx p2 j2=>hK.next x ⟨_,_,left,p.trans p2,j2,dr.mono p2,iq G⟩) hK.ret
theorem yn {b} {Q} {f} (E:σ->ag) (J:List α->St->Prop) {l} x (h:J [] s)
 (st:∀{done s'},J done s'->eO src all s') (e:∀{s'} x,J l s'->Q .next (E x) s')
 (step:∀K {done y r s'} x,done++y::r=l->J done s'->(∀{G} x,J (done++ [y]) G->K .next (E x) G)->(∀{v ρ s},Q (.ret v) ρ s->K (.ret v) ρ s)->gc (dN is tup (f y) (E x)) (lH sc d b K s')):WF sc d src all is tup b (l.map f) (E x) Q s:=by
 refine qP E (λ_ rest s'=>E2 λdone left=>A3 (J done s') (rest=left.map f) (done++left=l)) (l.map f) [] x s ⟨[],l,h,rfl,rfl⟩ ?_ ?_ ?_
 ·rintro _ _ _ ⟨_,_,j,_⟩;exact st j
 ·rintro x s' _ ⟨done,left,j,F,z⟩;rw [List.map_eq_nil_iff.mp F.symm,hR] at z;exact e x (z▸j)
 ·rintro K _ v rest x s' ⟨done,left,j,F,z⟩ I;obtain ⟨y,r,rfl,Y,e2⟩:=List.map_eq_cons_iff.mp F.symm;exact Y▸step K x z j (λx j2=>I.next x ⟨_,r,j2,e2.symm,iq z⟩) I.ret
abbrev EK (nx:Kd->List Kd) (L R lo lt:List Kd):Prop:=∀x∈lo,∀y∈nx x,y∈lo++lt
structure ip (nx:Kd->List Kd) (P:Kd->Prop) (L R lo lt:List Kd):Prop where
 nd:lo.Nodup
 pr:∀x∈lo++lt,P x
 rt:∀x∈R,x∈lo++lt
 su:∀x∈L,x∈lo
 cl:EK nx L R lo lt
section
variable {P:Kd->Prop} {L R r:List Kd} {b:Kd}
theorem ip.skip (w:ip nx P L R lo (r++ [b])) (h:b∈lo):ip nx P L R lo r:=by have m:∀x∈lo++(r++ [b]),x∈lo++r:=λx j=>(aG j).elim (aA _) λj=>(aG j).elim (aS _) λj=>aA _ (aj j▸h);have k:∀x∈lo++r,x∈lo++(r++ [b]):=λx j=>(aG j).elim (aA _) λj=>aS _ (aA _ j);exact ⟨w.nd,λx j=>w.pr x (k x j),λx j=>m x (w.rt x j),w.su,λx j y z=>m y (w.cl x j y z)⟩
theorem ip.at (w:ip nx P L R lo (r++ [b])):P b:=w.pr b (aS _ (aS _ ai))
theorem ip.add (w:ip nx P L R lo (r++ [b])) (n:b∉lo) (hp:∀y∈nx b,P y):ip nx P L R (lo++ [b]) (r++(nx b).reverse):=by
 have m:∀x∈lo++(r++ [b]),x∈(lo++ [b])++(r++(nx b).reverse):=λx j=>(aG j).elim (λj=>aA _ (aA _ j)) λj=>(aG j).elim (λj=>aS _ (aA _ j)) λj=>aA _ (aS _ j);refine ⟨lN w.nd n,λx j=> ?_,λx j=>m x (w.rt x j),λx j=>aA _ (w.su x j),λx j y z=> ?_⟩
 ·rcases aG j with j|j<;>rcases aG j with j|j
  ·exact w.pr x (aA _ j)
  ·exact aj j▸w.at
  ·exact w.pr x (aS _ (aA _ j))
  ·exact hp x (List.mem_reverse.mp j)
 ·rcases aG j with j|j
  ·exact m y (w.cl x j y z)
  ·exact aS _ (aS _ (List.mem_reverse.mpr (aj j▸z)))
end
structure dA (Z:Zw) m (A B D) s0 ts (vo vs vt) s:Prop where
 h:H Z s ts
 f:Fr (D::A::B::m) s0 s
 a:s[A]? =some (.list vo)
 b:s[B]? =some (.dict (seenOf vs))
 d:s[D]? =some (.list vt)
structure lI (Z:Zw) (A B D):Prop where
 ab:A≠B
 ad:A≠D
 bd:B≠D
 oa:Z.s0.length<=A/\A∉Z.KN::Z.kt::Z.m
 ob:Z.s0.length<=B/\B∉Z.KN::Z.kt::Z.m
 od:Z.s0.length<=D/\D∉Z.KN::Z.kt::Z.m
section
variable {m:List Nat} {A B:Nat}
theorem dA.sa (x:dA Z m A B D s0 ts vo vs vt s) (ad:lI Z A B D) (f:Fr [A] s s') (e:s'[A]? =some (.list vx)):dA Z m A B D s0 ts vx vs vt s':=
 ⟨x.h.g9 f λj y=>aj y▸ad.oa,x.f.trans (f.sub λj y=>aj y▸bn),e,f.ne ad.ab.symm x.b,f.ne ad.ad.symm x.d⟩
theorem dA.sb (x:dA Z m A B D s0 ts vo vs vt s) (ad:lI Z A B D) (f:Fr [B] s s') (e:s'[B]? =some (.dict (seenOf vx))):dA Z m A B D s0 ts vo vx vt s':=
 ⟨x.h.g9 f λj y=>aj y▸ad.ob,x.f.trans (f.sub λj y=>aj y▸ci),f.ne ad.ab x.a,e,f.ne ad.bd.symm x.d⟩
theorem dA.sd (x:dA Z m A B D s0 ts vo vs vt s) (ad:lI Z A B D) (f:Fr [D] s s') (e:s'[D]? =some (.list vx)):dA Z m A B D s0 ts vo vs vx s':=
 ⟨x.h.g9 f λj y=>aj y▸ad.od,x.f.trans f.c1,f.ne ad.ad x.a,f.ne ad.bd x.b,e⟩
theorem dA.new (x:dA Z m A B D s0 ts vo vs vt s) (f:Fr [] s s'):dA Z m A B D s0 ts vo vs vt s':=
 ⟨x.h.new f,x.f.trans (aI f),f.gn x.a,f.gn x.b,f.gn x.d⟩
noncomputable def yG (r:Ss):Ss:= .cons (.asg 5 (.jf (.loc 4) 1 .nil)) (.cons (.ite (.cmp .isin (.loc 5) (.loc 3)) (.cons .cont .nil) .nil) (.cons (.k6 (.loc 3) (.loc 5) (.lit (.int 1))) (.cons (.expr (.jf (.loc 2) 0 (.cons (.loc 5) .nil))) r)))
theorem FO {r} {b} (ad:lI Z A B D) (x:dA Z m A B D s0 ts vo vs (vt++ [.int kb]) s) (z:aD ts vs ls) (db:Den ts kb b) (hv:vs.length<=100000/\vo.length<=100000/\vt.length<100000)
 (c:b∈ls->∀s',dA Z m A B D s0 ts vo vs vt s'->K .cont (dY x0 x1 (eR A) (eR B) (eR D) (eI kb) o6) s')
 (q:b∉ls->∀s',dA Z m A B D s0 ts (vo++ [.int kb]) (vs++ [.int kb]) vt s'->wSs sc n r (dY x0 x1 (eR A) (eR B) (eR D) (eI kb) o6) K s'):
 wSs sc n (yG r) (dY x0 x1 (eR A) (eR B) (eR D) o5 o6) K s:=by
 have mem:=z.iR x.h.kt.nd db;refine GH x.d<|Jb x.d hv.2.2 λF G I _=> ?_;have y:=x.sd ad G I;apply mL y.b z.ij;rw [kX];refine az (λj=>c (mem.1 j) F y) λj=> ?_;refine eF y.b z.ij (by rw [rp];exact hv.1) λs6 J Y _=> ?_;have E:=y.sb ad J (q_ j▸Y);exact ee E.a<|eg E.a hv.2.1 λs7 f7 e7 _=>q (λe=>j (mem.2 e)) s7 (E.sa ad f7 e7)
theorem y8 {Q} {src} {all} (j:s[src]? =some (.list all)) (z:src≠D) (E:s[D]? =some (.list ws)) (y:ws.length+all.length<=100000)
 (q:∀s' v,Fr [D] s s'->s'[D]? =some (.list (ws++all))->Q .next (dY x0 x1 (eR A) (eR B) (eR D) o5 v) s'):
 WF sc n (.ref src) (false,all) [6] false (bd (dr 4 (bd (dr 1 (bo 49))))) all (dY x0 x1 (eR A) (eR B) (eR D) o5 o6) Q s:=by
 refine qP (λo6=>dY x0 x1 (eR A) (eR B) (eR D) o5 o6) (λdone rest s'=>done++rest=all/\Fr [D] s s'/\s'[D]? =some (.list (ws++done))) all [] o6 s ⟨rfl,.ay,by rw [hR];exact E⟩ (λ_ _ _ h=> .inl ⟨h.2.1.ne z j,rfl⟩) (λx s' done h=>q s' x h.2.1 (by rw [<-h.1,hR];exact h.2.2)) ?_;rintro K done w rest x s' ⟨e,f,g⟩ F;refine ee g<|eg g (by have:=ej List.length e;rw [aL] at this⊢;exact oo 0x637020642441a81004 this y) λI f2 G _=> ?_;exact F.next (some w) ⟨iq e,f.trans f2,by rw [<-DZ];exact G⟩
theorem Dj {l} {x:α}:(!(l++ [x]).isEmpty)=true:=by induction l using List.casesOn<;>rfl
theorem By {r} {Q} {P} {L R} {pre} (tr:∀{a},T a a) (tt:∀{a b c},T a b->T b c->T a c) (tp:∀{a b},T a b->a<+:b) (ad:lI Z A B D) (x:dA Z m A B D s0 ts vo (pre++vo) vt s) (I:aD ts vo pV) (dT:aD ts vt pM) (dp:aD ts pre lp) (w:ip nx P L R pV pM)
 (hm:pM.length<=9000/\pre.length<=1) (hn:∀b,(nx b).length<=2) (hl:∀b,P b->b∉lp) (hP:∀b,P b->b∉L->∀y∈nx b,P y)
 (body:∀K j vo vt b kb s' o6,T ts j->dA Z m A B D s0 j vo (pre++vo) vt s'->vt.length<=99990->Den j kb b->P b->b∉L->
   (∀E cs v s2,T j E->dA Z m A B D s0 E vo (pre++vo) (vt++cs.reverse) s2->aD E cs (nx b)->K .next (dY x0 x1 (eR A) (eR B) (eR D) (eI kb) v) s2)->
   wSs sc n r (dY x0 x1 (eR A) (eR B) (eR D) (eI kb) o6) K s')
 (q:∀j vo lo s' o5 o6,T ts j->dA Z m A B D s0 j vo (pre++vo) [] s'->aD j vo lo->ip nx P L R lo []->lo.length<=30000->Q .next (dY x0 x1 (eR A) (eR B) (eR D) o5 o6) s'):
 WW sc n (.loc 4) (yG r) (dY x0 x1 (eR A) (eR B) (eR D) o5 o6) Q s:=by
 have F:=x.h.kt.ul;refine oO (λμ ρ s'=>E7 λj vo lo vt lt o5 o6=>A8 (μ<=99000) (μ=lt.length+3*(Z.U.length-lo.length)) (T ts j) (dA Z m A B D s0 j vo (pre++vo) vt s') (aD j vo lo) (aD j vt lt) (ip nx P L R lo lt) (ρ=dY x0 x1 (eR A) (eR B) (eR D) o5 o6)) (m:=pM.length+3*(Z.U.length-pV.length))
  ⟨ts,vo,pV,vt,pM,o5,o6,oo 0x13651262dffa3280f4941ba16d1a7da14ad5a1450b1c40fac6b9005 (by exact sO _ _) F hm,rfl,tr,x,I,dT,w,rfl⟩ (by unfold hX;exact oo 0x9b289316ffd19407a4a0dd0b68d3ed0a56ad0a284600000000017d7858746b9085 (by exact sO _ _) F hm) ?_
 rintro K μ _ s' ⟨j,vo,lo,vt,lt,o5,o6,G,z,p,x,I,dT,w,rfl⟩ hK;have Y:=gR w.nd λy hy=>x.h.kt.sub y (I.mem y hy);have hol:=I.len;rcases dT.last with ⟨rfl,rfl⟩|⟨wt,r',kb,b,rfl,rfl,dr,db⟩
 ·exact Cn x.d (hL _) (q _ _ _ _ _ _ p x I w (oq 24 F Y))
 ·have hwl:=dr.len;rw [aL,y5] at z;refine Cn x.d (by rw [aL,y5];exact oo 0xbd7ebb72a3b9e6cefd17eb16a67abea0275893831006 (by exact sO _ _) z G hwl)<|rq Dj ?_;have hpb:=w.at;refine FO ad x ((dp.mono (tp p)).app I) db ⟨by rw [aL];exact oo 0x59a3cd1047688d033c776000e6941005 hol Y F hm,oo 0xa2e90a3120c4e003 hol Y F,oo 0x5ebf5db951dcf3677e8bf58b533d5f5013ac49c086 (by exact sO _ _) z G hwl⟩ (λhb s2 x2=>hK.cont ⟨_,(by exact oo 0x18ae3ec2249d711dd2d08e1a6b9085 (by exact sO _ _) z:r'.length+3*(Z.U.length-lo.length)<μ),j,vo,lo,wt,r',_,_,oo 0xc40b42cede5a01119d5e7e417dbda0b1c40fac6b9005 (by exact sO _ _) z G,rfl,p,x2,I,dr,w.skip ((aG hb).resolve_left (hl b hpb)),rfl⟩) λhb s2 x2=> ?_
  ·have hb:b∉lo:=λe=>hb (aS _ e);have hbL:b∉L:=λe=>hb (w.su b e);have dO2:=I.app (.cons db .nil);have w2:=w.add hb (hP b hpb hbL);have J:=gR w2.nd λy hy=>x.h.kt.sub y (dO2.mem y hy);have hnb:=hn b;rw [DZ] at x2;refine body K j _ _ b kb s2 _ p x2 (oo 0xbd7ebb72a3b9e6cefd17eb16a67abea0275912789ac006 (by exact sO _ _) z G hwl) db hpb hbL λE cs v s3 p2 x3 dcs=>hK.next ⟨_,?_,E,_,_,_,_,_,v,?_,rfl,tt p p2,x3,dO2.mono (tp p2),(dr.mono (tp p2)).app dcs.rev,w2,rfl⟩
   ·rw [aL,y5] at J;rw [aL,aL,List.length_reverse,y5];lia
   ·rw [aL,y5] at J;rw [aL,aL,List.length_reverse,y5];lia
end
section
theorem yb (h:H Z s ts) (hd:Den ts k t) {R} (q:∀vs,aD ts vs (Z.C.jN t)->R (.tup vs) s):
 P 7 (getAttr ct (.ref Z.KL) 18) (λo s=>P 12 (ie ct o 2) (λm s=>ud sc n m o [.int k,.tup []] R s) s) s:=by
 obtain ⟨fs,y,_,_,z,_⟩:=h.wd.KL;obtain ⟨af,j,E⟩:=h.wd.hb;obtain ⟨c1,vs,c2,c3⟩:=E ts k t h.pre h.kt.nd hd;refine am (h.get y) rfl z<|pJ (h.get j)<|oU (h.get j) c1 ?_;rw [c2];exact q vs c3
theorem uT (h:H Z s ts) (hd:Den ts k t) {R} (q:R (.int (Z.C.qf t)) s):
 P 7 (getAttr ct (.ref Z.KL) 35) (λo s=>P 12 (ie ct o 2) (λm s=>ud sc n m o [.int k,.int 0] R s) s) s:=by
 obtain ⟨fs,y,_,_,_,z,_⟩:=h.wd.KL;obtain ⟨af,j,E⟩:=h.wd.hg;have c1:=E ts k t h.pre h.kt.nd hd;refine am (h.get y) rfl z<|pJ (h.get j)<|oU (h.get j) c1.1 ?_;rw [c1.2];exact q
theorem uu (j:bY Z.C):(Z.C.jN t).length<=2:=by
 induction t with|v i=>exact j.qG i|_=>exact hL _
theorem Nf {b x} (h:x∈C.jN b):∃j,b= .v j/\x∈C.ac j:=by
 induction b with|v j=>exact ⟨j,rfl,h⟩|_=>exact (ba h).elim
theorem GI {b} (h:ak b=false):C.jN b= []:=by (revert h;generalize b=j;intro h;induction j using Kd.casesOn<;>first|rfl|trivial)
theorem rC {i} (h:H Z s ts) (hc:bY Z.C) (hd:Den ts k (.v i))
 (q:∀s' vs l,H Z s' ts->Fr [] s s'->s'[s.length]? =some (.list vs)->s.length<s'.length->aD ts vs l->(∀x,x∈l↔Bd Z.C i x)->l.length<=30000->Q (.ref s.length) s'):aq sc (n+3) 43 [.ref Z.KL,.int k] Q s:=by
 refine cg rfl<|c_ λs1 f1 e1 l1=> ?_;refine Nb rfl λs2 f2 e2 l2=> ?_;have h2:=(h.new f1).new f2;refine yb h2 hd λbs hbs=> ?_;have hbl:=hbs.len;have J:=uu hc (t:= .v i);refine qU (oq 2 hbl J) λs3 f3 e3 l3=> ?_;refine qJ e3 (oq 2 hbl J) λs4 f4 e4 l4=> ?_;have E:=f3.trans f4;have F:=l1;have hBD:=i1 l2 f3.len;have Y:=Nat.lt_trans F hBD;have ad:lI Z s.length s1.length s3.length:=⟨JE F,JE Y,JE hBD,h.off (g6 _),h.off (z' F),h.off (z' Y)⟩;refine By rfl Eq.trans (λe=>e▸aF _) (m:= []) (pre:= [.int k]) (nx:=Z.C.jN) (P:=Bd Z.C i) (L:= []) (R:=Z.C.ac i) (pV:= []) ad
  ⟨(h2.new f3).new f4,.ay,E.gn (f2.gn e1),E.gn e2,e4⟩ .nil hbs.rev (.cons hd .nil) ⟨List.nodup_nil,λx z=> .base (List.mem_reverse.mp z),λx z=>List.mem_reverse.mpr z,λ_=>bg,λ_=>bg⟩
  ⟨by rw [List.length_reverse];exact oo 0x189002328f2001 J,g6 _⟩ (λb=>uu hc) (λb hb e=>hc.Qw i (aj e▸hb)) (λb hb _ y hy=>by obtain ⟨j,rfl,z⟩:=Nf hy;exact .step hb z) ?_ ?_
 ·intro K ts1 vo vt b kb s' o6 p x hvt db hb _ q';obtain ⟨fs,g1,g2,_⟩:=x.h.wd.KL;refine am (x.h.get g1) rfl g2<|gK x.h.kt db<|nq (λhv=> ?_) λ_=> ?_
  ·exact q' ts1 [] _ s' rfl (by rw [List.reverse_nil,hR];exact x) (by rw [GI hv];exact .nil)
  ·refine yb x.h db λcs hcs=> ?_;have G:=hcs.len;have I:=uu hc (t:=b);refine qU (oq 2 G I) λs8 f8 e8 l8=> ?_;refine qJ e8 (oq 2 G I) λs9 f9 e9 l9=> ?_;have x9:=(x.new f8).new f9;exact cV e9 (by rw [List.length_reverse];exact oq 2 G I)<|y8 e9 (JJ (i1 (bE x.d) f8.len)) x9.d (by rw [List.length_reverse];exact oq 71 G I hvt) λs10 v f10 e10=>q' ts1 cs v s10 rfl (x9.sd ad f10 e10) hcs
 ·intro ts1 vo lo s' o5 o6 p x dO w hlo;subst p;refine q s' vo lo x.h ?_ x.a (i1 (i1 F (f2.trans E).len) x.f.len) dO (λx=>⟨λz=>w.pr x (aA _ z),λz=> ?_⟩) hlo
  ·exact ((aI (f1.trans (f2.trans E))).trans x.f).cut λj hj hl=>by have:=fL hj;exact (oo 0x7120c403104c61061326130305002401484 Y l1 hl this).elim
  ·have m:∀y,y∈lo++ []->y∈lo:=λy hy=>by rw [hR] at hy;exact hy
   induction z with|base z=>exact m _ (w.rt _ z)|step _ z ih=>exact m _ (w.cl _ ih _ z)
end
noncomputable def Valued (C:aM) (i:Nat):Prop:=C.ca i=2\/∃j,Bd C i (.v j)/\C.ca j=2
noncomputable def rs (C:aM) (i:Nat):Prop:=C.ca i=1\/∃b,Bd C i b/\(b= .a0 64\/b= .a0 65)
theorem bY.bd (j:bY C) {i} {x} (h:Bd C i x):ak x=true\/aX x=true\/x= .a0 64\/x= .a0 65:=by
 cases h with|base h=>exact j.ref _ x h|step _ h=>exact j.ref _ x h
theorem Db {x} (h:aX x=true):isVal x=false/\ak x=false/\named x=true/\isRef x=true/\cQ x=true:=by
 have hv:isVal x=false:=by
  induction hv:isVal x using Bool.casesOn with|false=>rfl|true=>rw [yQ hv] at h;trivial
 have y:named x=true:=by (revert h;generalize x=j;intro h;induction j using Kd.casesOn<;>first|rfl|trivial)
 refine ⟨hv,(by (revert h;generalize x=j;intro h;induction j using Kd.casesOn<;>first|rfl|trivial)),y,(by rw [uB y,hv];rfl),(by (revert h;generalize x=j;intro h;induction j using Kd.casesOn<;>first|rfl|trivial))⟩
theorem bY.qH (j:bY C) {i} {x} (h:Bd C i x):isVal x=false:=by
 rcases j.bd h with h|h|rfl|rfl
 ·(revert h;generalize x=y;intro h;induction y using Kd.casesOn<;>first|rfl|trivial)
 ·exact (Db h).1
 ·rfl
 ·rfl
theorem Ab {f:Nat} (h:f<=2):decide (Builtin.bitAnd f 2≠0)=decide (f=2):=by
 have:f=0\/f=1\/f=2:=by lia
 rcases this with rfl|rfl|rfl<;>decide
theorem Os {f:Nat} (h:f<=2):decide (Builtin.bitAnd f 1≠0)=decide (f=1):=by
 have:f=0\/f=1\/f=2:=by lia
 rcases this with rfl|rfl|rfl<;>decide
section
theorem zt {b} {Q} {i} {all} (A:s[i]? =some (.list all)) (I:List Kd->ag->Prop) (q:∀ρ,I [] ρ->Q .next ρ s)
 (step:∀k x l ρ,Den ts k x->I (x::l) ρ->∀z,(∀br,I l br->z .next br s)->(∀v br,Q (.ret v) br s->z (.ret v) br s)->gc (dN is tup (.int k) ρ) λy=>wSs sc n b y z s)
 (d:aD ts vs l):∀ρ,I l ρ->WF sc n (.ref i) (false,all) is tup b vs ρ Q s:=by
 induction d with|nil=>exact λρ h=>dH (.inl ⟨A,rfl⟩) (q ρ h)|cons D _ E=>exact λρ h=>bz (.inl ⟨A,rfl⟩) (step _ _ _ ρ D h _ (λbr F=>E br F) λ_ _ h=>h)
theorem IQ {i} (h:H Z s ts) (D:bY Z.C) (hd:Den ts k (.v i))
 (q:∀s' r,H Z s' ts->Fr [] s s'->(r=true↔Valued Z.C i)->Q (.bool r) s'):aq sc (n+4) 44 [.ref Z.KL,.int k] Q s:=by
 refine cg rfl<|uT h hd<|tE ?_;have y:=Ab (D.ca i);show dJ (decide (Builtin.bitAnd (Z.C.ca i:Int) 2≠0)) _ _;rw [y];refine az (λe=> ?_) λe=> ?_
 ·exact q s true h .ay ⟨λ_=> .inl e,λ_=>rfl⟩
 refine rC h D hd λY vs l y f1 e1 l1 d1 hb hl=> ?_;apply cV e1 (by rw [d1.len];exact oq 1 hl);refine zt e1 (λrest ρ=>∃o done,ρ=(pb (eR Z.KL) (eI k) o)/\done++rest=l/\∀j,Kd.v j∈done->Z.C.ca j≠2) ?_ ?_ d1 _ ⟨none,[],rfl,rfl,(λ_=>bg)⟩
 ·rintro _ ⟨o,done,rfl,A,E⟩;refine q Y false y f1 ⟨nf,λhv=> ?_⟩;rcases hv with hv|⟨j,F,G⟩
  ·exact dv hv e
  ·rw [hR] at A;exact dv G (E j (by rw [A];exact (hb _).2 F))
 ·rintro kb x rest _ I ⟨o,done,rfl,A,E⟩ Q' qn qr;have hx:=(hb x).1 (by rw [<-A];simp);obtain ⟨fs,g1,g2,_⟩:=y.wd.KL;refine am (y.get g1) rfl g2<|gK y.kt I<|im (λhv=> ?_) λhv=> ?_
  ·
   obtain ⟨j,rfl⟩:∃j,x= .v j:=dP hv;refine uT y I<|tE ?_;show dJ (decide (Builtin.bitAnd (Z.C.ca j:Int) 2≠0)) _ _;rw [Ab (D.ca j)];refine az (λJ=>qr _ _ (q Y true y f1 ⟨λ_=> .inr ⟨j,hx,J⟩,λ_=>rfl⟩)) λJ=> ?_
   ·exact qn _ ⟨_,done++ [.v j],rfl,iq A,λL z=>by
     rcases aG z with hm|hm
     ·exact E L hm
     ·replace hm:=aj hm;injection hm with hm;subst hm;exact J⟩
  ·
   refine am (y.get g1) rfl g2<|pR y.kt I ?_;rw [D.qH hx];exact qn _ ⟨_,done++ [x],rfl,iq A,λL z=>by
    rcases aG z with hm|hm
    ·exact E L hm
    ·replace hm:=aj hm;rw [<-hm] at hv;trivial⟩
theorem D1 {i} (h:H Z s ts) (F:bY Z.C) (hd:Den ts k (.v i))
 (q:∀s' r,H Z s' ts->Fr [] s s'->(r=true↔rs Z.C i)->Q (.bool r) s'):aq sc (n+6) 45 [.ref Z.KL,.int k] Q s:=by
 refine cg rfl<|uT h hd<|tE ?_;have z:=Os (F.ca i);show dJ (decide (Builtin.bitAnd (Z.C.ca i:Int) 1≠0)) _ _;rw [z];refine az (λe=> ?_) λe=> ?_
 ·exact q s true h .ay ⟨λ_=> .inl e,λ_=>rfl⟩
 refine rC h F hd λE vs l z f1 e1 l1 d1 hb hl=> ?_;apply cV e1 (by rw [d1.len];exact oq 1 hl);refine zt e1 (λrest ρ=>∃o done,ρ=(pb (eR Z.KL) (eI k) o)/\done++rest=l/\∀x∈done,¬(x= .a0 64\/x= .a0 65)) ?_ ?_ d1 _ ⟨none,[],rfl,rfl,(λ_=>bg)⟩
 ·rintro _ ⟨o,done,rfl,D,G⟩;refine q E false z f1 ⟨nf,λhv=> ?_⟩;rcases hv with hv|⟨j,I,J⟩
  ·exact dv hv e
  ·rw [hR] at D;exact dv J (G j (by rw [D];exact (hb _).2 I))
 ·rintro kb x rest _ A ⟨o,done,rfl,D,G⟩ Q' qn qr;have L:=(hb x).1 (by rw [<-D];simp);have next:¬(x= .a0 64\/x= .a0 65)->Q' .next (pb (eR Z.KL) (eI k) (eI kb)) E:=λhn=>qn _ ⟨_,done++ [x],rfl,iq D,λy hy=>by
        rcases aG hy with hm|hm
        ·exact G y hm
        ·replace hm:=aj hm;rw [hm];exact hn⟩
  obtain ⟨fs,Y,g2,_⟩:=z.wd.KL;refine am (z.get Y) rfl g2<|qy z.kt A ?_;rcases F.bd L with hv|hv|hv|hv
  ·have:isRef x=false:=by (revert hv;generalize x=z9;intro hv;induction z9 using Kd.casesOn<;>first|rfl|trivial)
   rw [this];exact next λe=>by rcases e with rfl|rfl<;>trivial
  ·refine rq ((Db hv).2.2.2.1)<|pG z A ?_;rw [hv];exact next λe=>by rcases e with rfl|rfl<;>trivial
  ·subst hv;exact pG z A<|am (z.get Y) rfl g2<|kC z.kt A<|yS rfl<|qr _ _ (q E true z f1 ⟨λ_=> .inr ⟨_,L,.inl rfl⟩,λ_=>rfl⟩)
  ·subst hv;apply pG z A;apply am (z.get Y) rfl g2;apply kC z.kt A;exact yS rfl<|qr _ _ (q E true z f1 ⟨λ_=> .inr ⟨_,L,.inr rfl⟩,λ_=>rfl⟩)
def j1 (C:aM) (t:Kd):Prop:=match t with| .v i=>rs C i|t=>isRef t=true
theorem xT (h:H Z s ts) (D:bY Z.C) (hd:Den ts k t)
 (q:∀s' r,H Z s' ts->Fr [] s s'->(r=true↔j1 Z.C t)->Q (.bool r) s'):aq sc (n+7) 50 [.ref Z.KL,.int k] Q s:=by
 apply cg rfl;obtain ⟨fs,z,A,_⟩:=h.wd.KL;refine am (h.get z) rfl A<|qy h.kt hd ?_;induction y:isRef t using Bool.casesOn with|true=>exact q s true h .ay ⟨λ_=>(by (revert y;generalize t=E;intro y;induction E using Kd.casesOn<;>first|exact y|trivial)),λ_=>rfl⟩|false=>
  refine am (h.get z) rfl A<|gK h.kt hd ?_;induction hv:ak t using Bool.casesOn with|false=>exact q s false h .ay ⟨nofun,λhk=>(by induction t using Kd.casesOn<;>first|(trivial;done)|exact y.symm.trans hk)⟩|true=>obtain ⟨j,rfl⟩:∃j,t= .v j:=dP hv;exact D1 h D hd q
end
variable {W:World}{u:Kd}{a:Nat}{cr:St}{hE:List Kd}{cur:Option Kd}
inductive Ch (W:World) t:Kd->Prop
 |refl:Ch W t t
 |step {u x:Kd}:Ch W t u->W.eN u=some x->Ch W t x
inductive iI (W:World) (l:Kd->Prop):Kd->Prop
 |base {x:Kd}:l x->iI W l x
 |step {x y:Kd}:iI W l x->y∈W.gU x->iI W l y
def dU (W:World) (t:Kd):Kd->Prop:=iI W λx=>∃u,Ch W t u/\x∈W.gU u
theorem Dz {as} {x} (h:named x=true\/x= .p 12):named (sub as x)=true\/sub as x= .p 12:=by
 rcases h with h|rfl
 ·(revert h;generalize x=j;intro h;induction j using Kd.casesOn<;>first|exact .inl rfl|trivial)
 ·exact .inr rfl
theorem nE {x}:x∈W.par t->named x=true\/x= .p 12:=by
 have m:∀{h} {as},x∈(W.up h).map (sub as)->named x=true\/x= .p 12:=λh=>by obtain ⟨y,j,rfl⟩:=g5.mp h;exact Dz ((iC (p:=λ_ y=>named y=true\/y= .p 12) (aa rfl) j))
 exact Kd.rec (λ_ h=>(mm h).elim (λe=> .inr e.2) λe=> .inl (e▸rfl)) (λ_=>bg) (λ_ _ h=> .inl (aj h▸rfl)) (λ_=>m) (λ_ _ _=>m) (λ_ _ _ _ _=>m) (λ_ i=>i) t
theorem uR {x} (h:named x=true\/x= .p 12):cQ x=true:=by
 rcases h with h|rfl
 ·(revert h;generalize x=j;intro h;induction j using Kd.casesOn<;>first|rfl|trivial)
 ·rfl
theorem Ch.cQ (h:Ch W t u) (j:cQ t=true):cQ u=true:=by
 induction h with|refl=>exact j|step _ e=>exact uR (nE (me e).1)
theorem BQ:(W.par t).length<=2:=by
 have m:∀{h} {as},((W.up h).map (sub as)).length<=2:=by intros;rw [aC];exact tm
 exact Kd.rec (λn=>by
  show (if n=13 then [Kd.p 12] else if 1<=n/\n<=11 then [.a0 2] else []).length<=2
  split
  ·exact ll rfl
  ·split<;>exact ll rfl) (λ_=>ll rfl) (λ_ _=>ll rfl) (λ_=>m) (λ_ _ _=>m) (λ_ _ _ _ _=>m) (λ_ i=>i) t
theorem w9:(W.gU t).length<=2:=df (KC _ _) BQ
section
theorem zI {m} {b} (f:Fr (a::b::m) s s') (ha:s.length<=a) (hb:s.length<=b):Fr m s s':=f.cut λj y hl=>by
 cases y with|head=>exact (oq 8 hl ha).elim|tail _ y=>
  cases y with|head=>exact (oq 8 hl hb).elim|tail _ y=>exact y
structure EE (Z:Zw) (A B) s0 ts (vo vs) s:Prop where
 h:H Z s ts
 f:Fr (A::B::Z.m) s0 s
 a:s[A]? =some (.list vo)
 b:s[B]? =some (.dict (seenOf vs))
structure mJ (W:World) t (lo:List Kd) cur:Prop where
 nd:lo.Nodup
 bO:∀x∈lo,Ch W t x
 bc:∀x,cur=some x->Ch W t x
 c0:t∈lo\/cur=some t
 cc:∀u∈lo,∀x,W.eN u=some x->x∈lo\/cur=some x
theorem mJ.add {c} (w:mJ W t lo (some c)) (n:c∉lo):mJ W t (lo++ [c]) (W.eN c):=by have m:∀{x},x∈lo\/some c=some x->x∈lo++ [c]:=λh=>h.elim (aA _) λe=>aP e▸aS _ ai;have k:∀{x} {P:Kd->Prop},x∈lo++ [c]->(x∈lo->P x)->P c->P x:=λh a b=>(aG h).elim a λe=>aj e▸b;exact ⟨lN w.nd n,λx y=>k y (w.bO x) (w.bc c rfl),λx e=> .step (w.bc c rfl) e,.inl (m w.c0),λu j=>k (P:=λu=>∀x,W.eN u=some x->x∈lo++ [c]\/W.eN c=some x) j (λj x e=> .inl (m (w.cc u j x e))) λx e=> .inr e⟩
theorem mJ.done (w:mJ W t lo cur) (j:∀x,cur=some x->x∈lo) x:x∈lo↔Ch W t x:=by
 refine ⟨w.bO x,λy=> ?_⟩;induction y with|refl=>exact w.c0.elim id (j _)|step _ e z=>exact (w.cc _ z _ e).elim id (j _)
theorem vT (h:H Z s ts) (hd:Den ts k t) (ht:cQ t=true)
 (q:∀s' ae vs l,H Z s' ae->ts<+:ae->Fr Z.m s s'->s'[s.length]? =some (.list vs)->s.length<s'.length->aD ae vs l->(∀x,x∈l↔Ch Z.W t x)->l.length<=30000->Q (.ref s.length) s'):aq sc (n+14) 47 [.ref Z.KL,.int k] Q s:=by
 refine cg rfl<|c_ λs1 f1 e1 Y=> ?_;refine lT λs2 f2 e2 l2=> ?_;have nA:=h.ef (g6 s.length);have nB:=h.ef (z' Y);have D:=h.kt.ul;have G:=JE Y;refine oO (λm ρ s'=>E5 λae vo lo v cur=>A7 (m=Z.U.length+1-lo.length) (ts<+:ae) (EE Z s.length s1.length s2 ae vo vo s') (aD ae vo lo) (d6 ae cur v) (mJ Z.W t lo cur) (ρ=(j7 (eR Z.KL) (some v) (eR s.length) (eR s1.length))))
  ⟨ts,[],[],.int k,some t,rfl,aF _,⟨(h.new f1).new f2,.ay,f2.gn e1,e2⟩,.nil,⟨k,rfl,hd⟩,⟨List.nodup_nil,λ_=>bg,λx e=>aP e▸ .refl,.inr rfl,λ_=>bg⟩,rfl⟩ (by unfold hX;exact oo 0x31e4fc2e3e38d84a8200000000002dc6c2ee083 (by exact sO _ _) D) ?_
 rintro K m _ s' ⟨ae,vo,lo,v,cur,hm,p',x,E,hv,w,rfl⟩ hK;have F:=gR w.nd λy hy=>x.h.kt.sub y (E.mem y hy);have done:(∀x,cur=some x->x∈lo)->Q (.ref s.length) s':=λhc=>
  q s' ae vo lo x.h p' (zI ((aI (f1.trans f2)).trans x.f) .refl (z' Y)) x.a (bE x.a) E (w.done hc) (oq 24 D F)
 induction cur with|none=>cases (hv:v= .int (-1));exact done λ_ e=>by trivial|some c=>
  obtain ⟨kc,rfl,dc⟩:=hv;have mem:=E.iR x.h.kt.nd dc;apply mA x.b E.ij;rw [kX];by_cases A:c∈lo
  ·rw [gs (mem.2 A)];exact done λx e=>aP e▸A
  ·rw [hI λe=>A (mem.1 e)];refine eF x.b E.ij (by rw [rp,E.len];exact oq 25 D F) λs3 f3 e3 l3=> ?_;rw [q_ λe=>A (mem.1 e)] at e3;have q1:=f3.ne G x.a;refine ee q1<|eg q1 (by rw [E.len];exact oq 25 D F) λs4 f4 e4 l4=> ?_;have h4:=(x.h.g9 f3 λj I=>aj I▸(h.off (z' Y))).g9 f4 λj I=>aj I▸(h.off (g6 s.length));obtain ⟨fs,g1',_,_,_,_,m1,_⟩:=h4.wd.KL;refine cO (h4.get g1') m1 rfl<|J1 h4 dc ((w.bc c rfl).cQ ht) λs5 ts5 v5 h5 p5 f5 r5=> ?_;have J:=E.app (.cons dc .nil);have w2:=w.add A;have L:=gR w2.nd λy hy=>x.h.kt.sub y (J.mem y hy);exact hK.next ⟨Z.U.length+1-(lo++ [c]).length,by rw [aL,y5] at L⊢;lia,ts5,_,lo++ [c],v5,Z.W.eN c,rfl,p'.trans p5,
    ⟨h5,(x.f.trans (f3.c2.trans f4.c1)).trans (f5.sub λj I=> .tail _ (.tail _ I)),f5.get nA e4,f5.get nB (f4.ne G.symm e3)⟩,J.mono p5,r5,w2,rfl⟩
def uy (W:World) (l:List Kd):Prop:=∀x∈l,∀y∈W.gU x,y∈l
theorem O5 {A B} (h:H Z s ts) (z:H Z cr hE) (hA:cr.length<=A) (hB:cr.length<=B) (hne:A≠B) (hl:aD ts vs l) (F:l.length<=100) (hk:∀x∈l,cQ x=true)
 (g1:s[A]? =some (.list vo)) (g2:s[B]? =some (.dict (seenOf vo))) (dO:aD ts vo lo) (nd:lo.Nodup) (hc:uy Z.W lo)
 (q:∀s' ae vo' D,H Z s' ae->ts<+:ae->Fr (A::B::Z.m) s s'->s'[A]? =some (.list vo')->s'[B]? =some (.dict (seenOf vo'))->aD ae vo' D->D.Nodup->uy Z.W D->(∀x∈l,x∈D)->(∀x∈lo,x∈D)->(∀x∈D,x∈lo\/iI Z.W (·∈l) x)->Q .none s'):
 aq sc (n+15) 49 [.ref Z.KL,.tup vs,.ref A,.ref B] Q s:=by
 refine cg rfl<|qU (by rw [hl.len];exact oq 37 F) λs1 f1 e1 l1=> ?_;refine qJ e1 (by rw [hl.len];exact oq 37 F) λs2 f2 e2 l2=> ?_;have f12:=f1.trans f2;have ad:lI Z A B s1.length:=⟨hne,JE (i1 (bE g1) f1.len),JE (i1 (bE g2) f1.len),z.off hA,z.off hB,h.off f1.len⟩;refine By (aF _) List.IsPrefix.trans id (m:=Z.m) (pre:= []) (nx:=Z.W.gU) (P:=λx=>x∈lo\/iI Z.W (·∈l) x) (L:=lo) (R:=l) ad ⟨(h.new f1).new f2,.ay,f12.gn g1,f12.gn g2,e2⟩ dO hl.rev .nil
  ⟨nd,λx E=>(aG E).imp id λE=> .base (List.mem_reverse.mp E),λx E=>aS _ (List.mem_reverse.mpr E),λ_ h=>h,λx E y G=>aA _ (hc x E y G)⟩
  ⟨by rw [List.length_reverse];exact oo 0x1c5002328f2001 F,hL _⟩ (λb=>w9) (λ_ _=>ba) (λb hb n y G=> .inr (.step (hb.resolve_left n) G)) ?_ ?_
 ·intro K ts1 I vt b kb s' o6 p x hvt db hb nb q';obtain ⟨fs,g1',_,_,_,_,_,m2,_⟩:=x.h.wd.KL;have hbk:cQ b=true:=by
   cases hb.resolve_left nb with|base hb=>exact hk b hb|step _ G=>exact uR (nE (JG.mp G).1)
  refine cO (x.h.get g1') m2 rfl<|Cu x.h db hbk λs8 ts8 cs h8 p8 f8 hcs=> ?_;have x8:dA Z Z.m A B s1.length s2 ts8 I I vt s8:=⟨h8,x.f.trans (f8.sub λj hj=> .tail _ (.tail _ (.tail _ hj))),f8.get (z.ef hA) x.a,f8.get (z.ef hB) x.b,f8.get (h.ef f1.len) x.d⟩;have J:=hcs.len;have Y:=w9 (W:=Z.W) (t:=b);refine qU (oq 2 J Y) λs9 f9 e9 l9=> ?_;refine qJ e9 (oq 2 J Y) λs10 f10 e10 l10=> ?_;have x10:=(x8.new f9).new f10;exact cV e10 (by rw [List.length_reverse];exact oq 2 J Y)<|y8 e10 (JJ (i1 (bE x8.d) f9.len)) x10.d (by rw [List.length_reverse];exact oq 71 J Y hvt) λs11 v f11 e11=>q' ts8 cs v s11 p8 (x10.sd ad f11 e11) hcs
 ·intro ts1 I lo1 s' o5 o6 p x dO1 w _;have m:∀y,y∈lo1++ []->y∈lo1:=λy G=>by rw [hR] at G;exact G
  exact q s' ts1 I lo1 x.h p (((aI f12).trans x.f).cut λj hj hl=>(aR hj).resolve_left λe=>KD.mpr f1.len (e▸hl)) x.a x.b dO1 w.nd (λx E y G=>m y (w.cl x E y G)) (λx E=>m x (w.rt x E)) w.su λx E=>w.pr x (aA _ E)
end
variable {y:Kd}
theorem iI.mono {l j} (h:∀x,l x->j x) (i:iI W l y):iI W j y:=by
 induction i with|base z=>exact .base (h _ z)|step _ A D=>exact .step D A
section
theorem xN (h:H Z s ts) (hd:Den ts k t) (ht:cQ t=true)
 (q:∀s' ae vs l,H Z s' ae->ts<+:ae->Fr Z.m s s'->s'[s.length]? =some (.list vs)->s.length<s'.length->aD ae vs l->(∀x,x∈l↔dU Z.W t x)->l.length<=30000->Q (.ref s.length) s'):aq sc (n+16) 48 [.ref Z.KL,.int k] Q s:=by
 refine cg rfl<|c_ λs1 f1 e1 I=> ?_;refine lT λs2 f2 e2 l2=> ?_;have h2:=(h.new f1).new f2;have nA:=h.ef (g6 s.length);have nB:=h.ef (z' I);generalize ha:s.length=A at*;generalize hb:s1.length=B at*;refine vT h2 hd ht λs3 ts3 cs cl h3 p3 f3 e3 l3 d3 hc hl=> ?_;have nC:=h2.ef (g6 s2.length);have hC:=l2;generalize hcc:s2.length=D at*;refine cV e3 (by rw [d3.len];exact oq 1 hl)<|qC (λo=>e_ (eR Z.KL) (eI k) (eR A) (eR B) o) (λae done s'=>E2 λG lo=>A8 (H Z s' ae) (Fr (A::B::Z.m) s3 s') (s'[A]? =some (.list G)) (s'[B]? =some (.dict (seenOf G))) (aD ae G lo) lo.Nodup (uy Z.W lo) ((∀u∈done,∀x∈Z.W.gU u,x∈lo)/\∀x∈lo,dU Z.W t x)) none d3
  ⟨[],[],h3,.ay,(f3.get nA (f2.gn e1)),(f3.get nB e2),.nil,List.nodup_nil,nofun,λ_=>bg,λ_=>bg⟩ (λ⟨_,_,_,f,_,_,_,_,_,_⟩=> .inl ⟨f.get (λe=>(aR e).elim (λe=>oo 0x22d0f89501483 I l2 e) λe=>(aR e).elim (λe=>oo 0x621201482 l2 e) nC) e3,rfl⟩) ?_ ?_
 ·rintro ae s' _ p' ⟨G,lo,F,f',L,g2,Y,nd,kM,cv,bO⟩;have hlo:=gR nd λx E=>F.kt.sub x (Y.mem x E);have:=F.kt.ul;refine q s' ae G lo F (p3.trans p') (zI ((aI (f1.trans f2)).trans ((f3.sub λj hj=> .tail _ (.tail _ hj)).trans f')) (oq 41 ha) (oq 73 I ha)) L (bE L) Y (λx=>⟨bO x,λE=> ?_⟩) (oq 24 this hlo)
  ·induction E with|base E=>obtain ⟨u,hu,E⟩:=E;exact cv u ((hc u).2 hu) _ E|step _ hy ih=>exact kM _ ih _ hy
 ·rintro K ae done u ku s' o p' hul du ⟨G,lo,F,f',L,g2,Y,nd,kM,cv,bO⟩ kn kr;have hu:=(hc u).1 hul;obtain ⟨fs,g1',_,_,_,_,_,m2,_⟩:=F.wd.KL;refine cO (F.get g1') m2 rfl<|Cu F du (hu.cQ ht) λs4 ts4 vs4 h4 p4 f4 d4=> ?_;refine O5 h4 h (oq 41 ha) (oq 73 I ha) (oq 42 I) d4 (df w9 (aa rfl)) (λx E=>uR (nE (JG.mp E).1)) (f4.get nA L) (f4.get nB g2) (Y.mono p4) nd kM λs5 ts5 vo5 lo5 h5 p5 f5 r1 r2 r3 r4 r5 r6 r7 r8=> ?_;refine kn _ (p4.trans p5) ⟨vo5,lo5,h5,(f'.trans (f4.sub λj hj=> .tail _ (.tail _ hj))).trans f5,r1,r2,r3,r4,r5,λw J x E=>(aG J).elim (λJ=>r7 x (cv w J x E)) λJ=>r6 x (aj J▸E),λx E=>(r8 x E).elim (bO x) λE=>iI.mono (λx E=>⟨u,hu,E⟩) E⟩
end
variable {w w':Prop}{p':Nat->Prop}{ae:List Kd}{k' j:Nat}{pairs av proved QU:List (Kd×Kd)}
noncomputable abbrev Rel:=Kd->Kd->Prop
noncomputable def js:Kd->Bool
 | .b _=>true|_=>false
def asked (s t:Kd):Prop:=s≠t/\isRef s=true/\isRef t=true/\s≠ .p 14/\t≠ .p 14/\js t=false/\t≠ .p 12
def cj (P:Rel) (s t:Kd):Prop:=s=t\/(isRef s=true/\isRef t=true/\(s= .p 14\/(t≠ .p 14/\js t=false/\(t= .p 12\/P s t))))
def cy (s:Kd):Kd:=if ak s then .b s else s
def A9 (C:aM):Kd->Kd->Prop
 | .v i,t=>Bd C i t|_,_=>False
def jm (C:aM) (P:Rel) (s t:Kd):Prop:=j1 C s/\((ak t=true/\(s=t\/A9 C s t))\/(ak t=false/\isRef t=true/\cj P (cy s) t))
def m_ (t:Kd):Prop:=named t=true/\isVal t=false
noncomputable def jO (C:aM) (P:Rel) (w:Int) (x y:Kd):Prop:=x=y\/(w≠0/\if w=2 then jm C P y x else jm C P x y)
def f_ (W:World) (h i:Nat):Int:=(W.cq h).getD i 0
def eL (W:World) (C:aM) (P:Rel) (u t:Kd):Prop:=u=t\/(m_ u/\m_ t/\ao u=ao t/\∀i x y,(kids u)[i]? =some x->(kids t)[i]? =some y->jO C P (f_ W (ao u) i) x y)
def nT (W:World) (C:aM) (st:Bool) (P:Rel) (x y:Kd):Prop:=x=y\/(j1 C x/\jm C P x y)\/(¬j1 C x/\st=false/\twin (W.cu x)=twin (W.cu y))
def mG (C:aM) (P:Rel) (i:Nat) (t:Kd):Prop:=(t= .a0 2/\Valued C i)\/∃b,Bd C i b/\ak b=false/\cj P b t
def dg (W:World) (C:aM) (P:Rel) (s t:Kd):Prop:=(∃u,Ch W s u/\eL W C P u t)\/(aX t=true/\∃u,dU W s u/\eL W C P u t)
def pQ (w:Prop) (p:Nat->Prop):Kd->Prop:=Kd.rec (λ_=>w) (λi=>p i) (λ_ _=>w) (λ_=>w) (λ_ _ _=>w) (λ_ _ _ _ _=>w) λ_ _=>w
def mK (w:Prop) (p:Kd->Prop):Kd->Prop:=Kd.rec (λ_=>w) (λ_=>w) (λy _=>p y) (λ_=>w) (λ_ _ _=>w) (λ_ _ _ _ _=>w) λ_ _=>w
theorem pQ.imp {p} (h:w->w') (g:∀i,p i->p' i) {s}:pQ w p s->pQ w' p' s:=s.casesOn (λ_=>h) (λ_=>g _) (λ_=>h) (λ_=>h) (λ_ _=>h) (λ_ _ _=>h) λ_=>h
theorem mK.imp {p p'} (h:w->w') (g:∀i,p i->p' i) {s}:mK w p s->mK w' p' s:=s.casesOn (λ_=>h) (λ_=>h) (λ_=>g _) (λ_=>h) (λ_ _=>h) (λ_ _ _=>h) λ_=>h
def gH (W:World) (C:aM) (st:Bool) (P:Rel) (s t:Kd):Prop:=Kd.rec (λ_=>dg W C P s t) (λ_=>dg W C P s t) (λx _=>mK (dg W C P s t) (λy=>nT W C st P x y) t) (λ_=>dg W C P s t) (λ_ _ _=>dg W C P s t) (λ_ _ _ _ _=>dg W C P s t) (λx _=>pQ (dg W C P s t) (λi=>mG C P i t) x) s
inductive qc (W:World) (C:aM):Kd->Kd->Kd->Kd->Prop
 |elem {x y:Kd}:qc W C (.ar x) (.ar y) (cy x) y
 |param {i:Nat} {b t:Kd}:Bd C i b->ak b=false->qc W C (.b (.v i)) t b t
 |co {s t u x y:Kd} {i:Nat}:(Ch W s u\/dU W s u)->ao u=ao t->(kids u)[i]? =some x->(kids t)[i]? =some y->qc W C s t (cy x) y
 |contra {s t u x y:Kd} {i:Nat}:(Ch W s u\/dU W s u)->ao u=ao t->(kids u)[i]? =some x->(kids t)[i]? =some y->qc W C s t (cy y) x
abbrev N4 (W:World) (C:aM) (QU:List (Kd×Kd)):Prop:=∀s t s' y,(s,t)∈QU->qc W C s t s' y->asked s' y->(s',y)∈QU
structure fP (W:World) (C:aM) (QU:List (Kd×Kd)):Prop where
 len:QU.length<=512
 cl:N4 W C QU
inductive PL ts:List V->List (Kd×Kd)->Prop
 |nil:PL ts [] []
 |cons {k l:Nat} {s t:Kd} {vs:List V} {r:List (Kd×Kd)}:Den ts k s->Den ts l t->PL ts vs r->PL ts (.tup [.int k,.int l]::vs) ((s,t)::r)
theorem PL.mono {l} (h:PL ts vs l) (p:ts<+:ae):PL ae vs l:=by
 induction h with|nil=>exact .nil|cons d d' _ y=>exact .cons (d.mono p) (d'.mono p) y
theorem PL.len {l} (h:PL ts vs l):vs.length=l.length:=by
 induction h with|nil=>rfl|cons _ _ _ y=>rw [iZ,iZ,y]
theorem PL.snoc {l} {s} (h:PL ts vs l) (d:Den ts k s) (d':Den ts k' t):PL ts (vs++ [.tup [.int k,.int k']]) (l++ [(s,t)]):=by
 induction h with|nil=>exact .cons d d' .nil|cons a b _ y=>exact .cons a b y
theorem PL.get {l} (h:PL ts vs l):∀{i:Nat} {s t},l[i]? =some (s,t)->∃k k':Nat,vs[i]? =some (.tup [.int k,.int k'])/\Den ts k s/\Den ts k' t:=by
 induction h with|nil=>intro i s t h;trivial|cons d d' _ y=>
  intro i s t h;induction i with|zero=>simp at h;obtain ⟨rfl,rfl⟩:=h;exact ⟨_,_,rfl,d,d'⟩|succ i=>exact y h
theorem PL.iR {l} (nd:ts.Nodup) (h:PL ts vs l) {s} (d:Den ts k s) (d':Den ts k' t):V.tup [.int k,.int k']∈vs↔(s,t)∈l:=by
 induction h with|nil=>simp| @cons a b u v vs l e y _ z=>
   have:V.tup [.int k,.int k']=V.tup [.int a,.int b]↔(s,t)=(u,v):=by rw [Prod.mk.injEq,<-dC nd d e,<-dC nd d' y];exact ⟨λe=>by cases e;exact ⟨rfl,rfl⟩,λe=>by rw [e.1,e.2]⟩
   rw [List.mem_cons,List.mem_cons,z,this]
theorem PL.ij {l} (h:PL ts vs l) {k k'}:bf (seenOf vs) (.tup [.int k,.int k'])=true:=by
 unfold bf;rw [show keyOk (.tup [.int k,.int k'])=true from rfl,Bool.true_and,E'];intro p hp;obtain ⟨v,hv,rfl⟩:=g5.mp hp;have:∃i,v= .tup i:=by
  clear hp;induction h with|nil=>trivial|cons _ _ _ y=>
   cases hv with|head=>exact ⟨_,rfl⟩|tail _ hv=>exact y hv
 obtain ⟨i,rfl⟩:=this;rfl
structure Bz where
 bk:Nat
 bp:Nat
 bl:Nat
 bv:Nat
noncomputable def Bz.m (β:Bz):List Nat:= [β.bp,β.bl,β.bv]
noncomputable def Bz.fs (β:Bz) (st:Bool):List (Nat×V):= [(43,.int (if st then 1 else 0)),(44,.ref β.bp),(45,.ref β.bl),(46,.ref β.bv)]
abbrev IF (β:Bz) (s:St) (ts:List Kd) (pairs:List (Kd×Kd)) (proved:List (Kd×Kd)):Prop:=∃y,s[β.bp]? =some (.list y)/\s[β.bl]? =some (.dict (seenOf y))/\PL ts y pairs
abbrev Ji (β:Bz) (s:St) (ts:List Kd) (pairs:List (Kd×Kd)) (proved:List (Kd×Kd)):Prop:=∃y,s[β.bv]? =some (.dict (seenOf y))/\PL ts y proved
structure Bk (β:Bz) st (QU:List (Kd×Kd)) (s:St) ts (pairs proved):Prop where
 bk:s[β.bk]? =some (.inst 4 (β.fs st))
 bo:IF β s ts pairs proved
 bv:Ji β s ts pairs proved
 nd:pairs.Nodup
 nv:proved.Nodup
 pv:∀p∈proved,p∈pairs
 pq:∀p∈pairs,p∈QU
 pa:∀p∈pairs,asked p.1 p.2
 ap:(β.bk::β.m).Nodup
abbrev Fq (Z:Zw) (β:Bz):Prop:=∀j∈β.bk::β.m,Z.s0.length<=j/\j∉Z.KN::Z.kt::Z.m
structure Ps (Z:Zw) (β:Bz):Prop where
 off:Fq Z β
section
variable {β:Bz} {st:Bool}
noncomputable def Agree (P:Rel) (pairs proved:List (Kd×Kd)):Prop:=∀p∈pairs,(P p.1 p.2↔p∈proved)
theorem Agree.pre {P} (h:Agree P av proved) (p:pairs<+:av):Agree P pairs proved:=λq y=>h q (p.mem y)
structure HB (Z:Zw) (β:Bz) st (QU:List (Kd×Kd)) (s:St) ts (pairs proved):Prop where
 h:H Z s ts
 b:Bk β st QU s ts pairs proved
 o:Ps Z β
theorem HB.off (x:HB Z β st QU s ts pairs proved) (y:j∈β.bk::β.m):j∉Z.m:=λe=>(x.o.off j y).2 (.tail _ (.tail _ e))
theorem HB.lt (x:HB Z β st QU s ts pairs proved) (y:j∈β.bk::β.m):j<s.length:=by
 obtain ⟨E,z,A,_⟩:=x.b.bo;obtain ⟨F,D,_⟩:=x.b.bv;cases y with|head=>exact bE x.b.bk|tail _ y=>
  replace y:=fL y;rcases y with e|e|e
  ·rw [e];exact bE z
  ·rw [e];exact bE A
  ·rw [e];exact bE D
theorem HB.step {s'} {ae} (x:HB Z β st QU s ts pairs proved) (h:H Z s' ae) (p:ts<+:ae) (f:Fr Z.m s s'):HB Z β st QU s' ae pairs proved:=by refine ⟨h,?_,x.o⟩;obtain ⟨y,z,A,D⟩:=x.b.bo;obtain ⟨E,F,G⟩:=x.b.bv;exact ⟨f.get (x.off ai) x.b.bk,⟨y,f.get (x.off bn) z,f.get (x.off ci) A,D.mono p⟩,⟨E,f.get (x.off eP) F,G.mono p⟩,x.b.nd,x.b.nv,x.b.pv,x.b.pq,x.b.pa,x.b.ap⟩
theorem ji {b} {l} (h:(a::l).Nodup) (hb:b∈l):a≠b:=λe=>(bw h).1 (e▸hb)
theorem HB.short (x:HB Z β st QU s ts pairs proved) (y:QU.length<=512):pairs.length<=512:=df (gR x.b.nd x.b.pq) y
theorem u4 (x:HB Z β st QU s ts pairs proved) (hq:QU.length<=512) (hs:Den ts k u) (L:Den ts k' t) (hu:asked u t->(u,t)∈QU)
 (q:∀s' av r,HB Z β st QU s' ts av proved->Fr β.m s s'->pairs<+:av->(∀P,Agree P av proved->(r=true↔cj P u t))->(asked u t->(u,t)∈av)->Q (.bool r) s'):aq sc (n+3) 71 [.ref Z.KL,.int k,.int k',.ref β.bk] Q s:=by
 apply cg rfl;have h:=x.h;have nd:=h.kt.nd;have z:∀r,(∀P,(r=true↔cj P u t))->¬asked u t->Q (.bool r) s:=λr hr na=>q s pairs r x .ay (aF _) (λP _=>hr P) λa=>dv a na;refine az (λe=> ?_) λe=> ?_
 ·have e:=(dC nd hs L).1 e;exact z true (λP=>⟨λ_=> .inl e,λ_=>rfl⟩) λa=>a.1 e
 have e:u≠t:=λY=>e ((dC nd hs L).2 Y);obtain ⟨fs,g1,g2,_⟩:=h.wd.KL;apply am (h.get g1) rfl g2;have no:∀{P},¬(isRef u=true/\isRef t=true/\(u= .p 14\/(t≠ .p 14/\js t=false/\(t= .p 12\/P u t))))->(false=true↔cj P u t):=λhn=>⟨nf,λA=>(A.elim (λY=>dv Y e) λA=>dv A hn)⟩;apply qy h.kt hs;induction E:isRef u using Bool.casesOn with
 |false=>exact z false (λP=>no λa=>by have:=a.1;exact Bool.noConfusion (E.symm.trans this)) λa=>by have:=a.2.1;exact Bool.noConfusion (E.symm.trans this)|true=>
 apply qy h.kt L;induction F:isRef t using Bool.casesOn with
 |false=>exact z false (λP=>no λa=>by have:=a.2.1;exact Bool.noConfusion (F.symm.trans this)) λa=>by have:=a.2.2.1;exact Bool.noConfusion (F.symm.trans this)|true=>
 have rO:=h.kt.fC hs (i:=14) (aa rfl);have q14:=h.kt.fC L (i:=14) (aa rfl);have q12:=h.kt.fC L (i:=12) (aa rfl);refine az (λG=> ?_) λG=> ?_
 ·have G:=rO.1 (oq 74 G);exact z true (λP=>⟨λ_=> .inr ⟨E,F,.inl G⟩,λ_=>rfl⟩) λa=>a.2.2.2.1 G
 have G:u≠ .p 14:=λY=>G (by have:=rO.2 Y;exact oq 75 this);refine az (λI=> ?_) λI=> ?_
 ·apply bW I;have I:=q14.1 (oq 74 I);exact z false (λP=>no λa=>by rcases a.2.2 with a|a;exact G a;exact a.1 I) λa=>a.2.2.2.2.1 I
 have I:t≠ .p 14:=λY=>I (by have:=q14.2 Y;exact oq 75 this);refine d_ h.kt L<|az (λe3=> ?_) λe3=> ?_
 ·have hb:js t=true:=by obtain ⟨y,rfl⟩:=oL e3;rfl
  exact z false (λP=>no λa=>by rcases a.2.2 with a|a;exact G a;have:=a.2.1;exact Bool.noConfusion (hb.symm.trans this)) λa=>by have:=a.2.2.2.2.2.1;exact Bool.noConfusion (hb.symm.trans this)
 have e3:js t=false:=by (revert e3;generalize t=z9;intro e3;induction z9 using Kd.casesOn<;>first|rfl|exact dv rfl e3)
 refine az (λe4=> ?_) λe4=> ?_
 ·have e4:=q12.1 (oq 76 e4);exact z true (λP=>⟨λ_=> .inr ⟨E,F,.inr ⟨I,e3,.inl e4⟩⟩,λ_=>rfl⟩) λa=>a.2.2.2.2.2.2 e4
 have e4:t≠ .p 12:=λY=>e4 (by have:=q12.2 Y;exact oq 77 this);have ha:asked u t:=⟨e,E,F,G,I,e3,e4⟩;have mw:∀P,(cj P u t↔P u t):=λP=>⟨λA=>by
  rcases A with A|⟨_,_,A|⟨_,_,A|A⟩⟩
  ·exact dv A e
  ·exact dv A G
  ·exact dv A e4
  ·exact A,λA=> .inr ⟨E,F,.inr ⟨I,e3,.inr A⟩⟩⟩
 obtain ⟨vp,b1,b2,b3⟩:=x.b.bo;obtain ⟨vv,b4,b5⟩:=x.b.bv;have J:=x.short hq;have fin':∀{s' av},HB Z β st QU s' ts av proved->Fr β.m s s'->pairs<+:av->(u,t)∈av->wSs sc (n+2) (dr 7 (bo 71)) (e_ (eR Z.KL) (eI k) (eI k') (eR β.bk) (eR Z.kt)) (fin Q) s':=by intro s' av x' f' p' m';obtain ⟨vv',b4,b5⟩:=x'.b.bv;refine am x'.b.bk rfl rfl<|mL b4 b5.ij ?_;rw [kX];refine q s' av _ x' f' p' (λP hP=> ?_) λ_=>m';rw [mw P,hP _ m',nz,b5.iR x'.h.kt.nd hs L]
 refine am x.b.bk rfl rfl<|mA b2 b3.ij ?_;rw [kX];by_cases hm:(u,t)∈pairs
 ·rw [gs ((b3.iR nd hs L).2 hm)];exact fin' x .ay (aF _) hm
 ·have nm:V.tup [.int k,.int k']∉vp:=λe=>hm ((b3.iR nd hs L).1 e);rw [hI nm];refine am x.b.bk rfl rfl<|dW b1 (by rw [b3.len];exact oq 26 J) ?_;have nd':(pairs++ [(u,t)]).Nodup:=lN x.b.nd hm;have pq':∀p∈pairs++ [(u,t)],p∈QU:=λp hp=>by
   rcases aG hp with hp|hp
   ·exact x.b.pq p hp
   ·replace hp:=aj hp;exact hp▸hu ha
  have hl2:pairs.length+1<=512:=by have:=df (gR nd' pq') hq;simpa using this
  have hvl:=b3.len;refine bW (oo 0x3808f40c80f40402 hl2 hvl)<|am x.b.bk rfl rfl<|eF b2 b3.ij (by rw [rp,b3.len];exact oq 26 J) λs1 f1 e1' l1=> ?_;rw [q_ nm] at e1';have ap:=x.b.ap;have ap1:=bw ap;have c1:=f1.get (by simp;exact ji ap bn) x.b.bk;have c2:=f1.get (by simp;exact ji ap1.2 ai) b1;refine am c1 rfl rfl<|ee c2<|eg c2 (by rw [b3.len];exact oq 26 J) λs2 f2 e2' l2=> ?_;have d2:=f2.get (i:=β.bl) (by simp;exact λe=>ji ap1.2 ai e.symm) e1';have d3:=f2.get (i:=β.bv) (by simp;exact λe=>ji ap1.2 bn e.symm) (f1.get (by simp;exact λe=>ji (bw ap1.2).2 ai e.symm) b4);have h2:H Z s2 ts:=(h.g9 f1 λj D=>x.o.off j (by replace D:=aj D;subst D;simp [Bz.m])).g9 f2 λj D=>x.o.off j (by replace D:=aj D;subst D;simp [Bz.m]);refine fin' (av:=pairs++ [(u,t)]) ⟨h2,⟨(f2.get (i:=β.bk) (by simp;exact ji ap ai) c1),⟨_,e2',d2,b3.snoc hs L⟩,⟨vv,d3,b5⟩,nd',x.b.nv,λp hp=>aA _ (x.b.pv p hp),pq',λp hp=>by
   rcases aG hp with hp|hp
   ·exact x.b.pa p hp
   ·rw [w4] at hp;rw [hp];exact ha,ap⟩,x.o⟩ ?_ ⟨_,rfl⟩ (by simp)
  exact (f1.sub λj D=>by replace D:=aj D;subst D;simp [Bz.m]).trans (f2.sub λj D=>by replace D:=aj D;subst D;simp [Bz.m])
end
variable {wv:List V}{ka:Nat}{o9 cE:Option V}
theorem MM (h:aD ts vs l):V.il vs=true:=by
 induction h with|nil=>rfl|cons _ _ y=>exact y
theorem vG (nd:ts.Nodup) (h:aD ts vs l) (d:Den ts k t):dj (.int k) vs=some (decide (t∈l)):=by
 unfold dj;rw [ep (by rw [MM h];rfl)]
 congr 1
 induction h with|nil=>rfl| @cons k' y vs l d' _ z=>
   rw [JS,z];rw [i_];by_cases e:t=y
   ·subst e;have:=gY nd d d';subst this;simp
   ·have:¬(k':Int)=k:=λq=>e ((dC nd d d').1 q.symm);simp [e,this]
section
variable {β:Bz} {st:Bool}
theorem HB.new (x:HB Z β st QU s ts pairs proved) (h:H Z s' ts) (f:Fr [] s s'):HB Z β st QU s' ts pairs proved:=x.step h (aF _) (aI f)
theorem tT (x:HB Z β st QU s ts pairs proved) (hc:bY Z.C) (hq:QU.length<=512) (E:Den ts k u) (J:Den ts k' t) (hu:asked (cy u) t->(cy u,t)∈QU)
 (q:∀s' ae av r,HB Z β st QU s' ae av proved->ts<+:ae->Fr (β.m++Z.m) s s'->pairs<+:av->(∀P,Agree P av proved->(r=true↔jm Z.C P u t))->Q (.bool r) s'):aq sc (n+9) 75 [.ref Z.KL,.int k,.int k',.ref β.bk] Q s:=by
 apply cg rfl;obtain ⟨fs,g1,g2,_⟩:=x.h.wd.KL;refine am (x.h.get g1) rfl g2<|xT x.h hc E λs1 r1 A f1 Y=> ?_;have G:=x.new A f1;induction r1 with
 |false=>exact q s1 ts pairs false G (aF _) (aI f1) (aF _) λP _=>⟨nf,λhm=>Y.2 hm.1⟩|true=>
 have D:=Y.1 rfl;refine gK A.kt J<|im (λhv=> ?_) λhv=> ?_
 ·
  refine az (λe=> ?_) λe=> ?_
  ·have e':=(dC A.kt.nd E J).1 e;rw [gs e];exact q s1 ts pairs true G (aF _) (aI f1) (aF _) λP _=>⟨λ_=>⟨D,.inl ⟨hv,.inl e'⟩⟩,λ_=>rfl⟩
  ·have e':u≠t:=λq=>e ((dC A.kt.nd E J).2 q);apply gK A.kt E;cases y:ak u with
   |false=>
    refine q s1 ts pairs false G (aF _) (aI f1) (aF _) λP _=>⟨nf,λhm=> ?_⟩;rcases hm.2 with ⟨_,hm|hm⟩|⟨hm,_⟩
    ·exact dv hm e'
    ·(revert y hm;generalize u=z9;intro y hm;induction z9 using Kd.casesOn<;>first|(trivial;done)|trivial)
    ·exact Bool.noConfusion (hv.symm.trans hm)
   |true=>
    obtain ⟨i,rfl⟩:∃i,u= .v i:=dP y;refine rC A hc E λI vs l h2 f2 e2 l2 d2 hb hl=> ?_;apply u8 e2 (vG h2.kt.nd d2 J);refine q I ts pairs _ (G.new h2 f2) (aF _) (aI (f1.trans f2)) (aF _) λP _=> ?_;rw [nz,hb];refine ⟨λhm=>⟨D,.inl ⟨hv,.inr hm⟩⟩,λhm=> ?_⟩;rcases hm.2 with ⟨_,hm|hm⟩|⟨hm,_⟩
    ·exact dv hm e'
    ·exact hm
    ·exact Bool.noConfusion (hv.symm.trans hm)
 ·
  apply qy A.kt J;cases hr:isRef t with
  |false=>
   refine q s1 ts pairs false G (aF _) (aI f1) (aF _) λP _=>⟨nf,λhm=> ?_⟩;rcases hm.2 with ⟨hm,_⟩|⟨_,hm,_⟩
   ·exact Bool.noConfusion (hv.symm.trans hm)
   ·exact Bool.noConfusion (hr.symm.trans hm)
  |true=>
   have last:∀{I z k2},HB Z β st QU I z pairs proved->ts<+:z->Fr Z.m s I->Den z k2 (cy u)->
    aq sc (n+8) 71 [.ref Z.KL,.int k2,.int k',.ref β.bk] Q I:=λ{I z k2} x2 p2 f2 d2=>
    u4 x2 hq d2 (J.mono p2) hu λs3 F r3 x3 f3 p3 a3 _=>q s3 z F r3 x3 p2 ((f2.sub λj hj=>aS _ hj).trans (f3.sub λj hj=>aA _ hj)) p3 λP hP=>by
     rw [a3 P hP];refine ⟨λhm=>⟨D,.inr ⟨hv,hr,hm⟩⟩,λhm=> ?_⟩;rcases hm.2 with ⟨hm,_⟩|⟨_,_,hm⟩
     ·exact Bool.noConfusion (hv.symm.trans hm)
     ·exact hm
   refine gK A.kt E<|nq (λy=> ?_) λy=> ?_
   ·exact last G (aF _) (aI f1) (by unfold cy;rw [y];exact E)
   ·
    obtain ⟨i,rfl⟩:∃i,u= .v i:=dP y;refine rM A.kt (A.wd.dh.box i (A.U E)) E λI z k2 K2 p2 f2 d2=> ?_;exact last (G.step (A.step K2 p2 f2) p2 f2) p2 ((aI f1).trans f2) d2
theorem Py (x:HB Z β st QU s ts pairs proved) (hc:bY Z.C) (hq:QU.length<=512) (A:Den ts k u) (F:Den ts k' t) (hu:asked (cy u) t->(cy u,t)∈QU)
 (q:∀s' ae av r,HB Z β st QU s' ae av proved->ts<+:ae->Fr (β.m++Z.m) s s'->pairs<+:av->(∀P,Agree P av proved->(r=true↔nT Z.W Z.C st P u t))->Q (.bool r) s'):aq sc (n+10) 76 [.ref Z.KL,.int k,.int k',.ref β.bk] Q s:=by
 refine cg rfl<|az (λe=> ?_) λe=> ?_
 ·exact q s ts pairs true x (aF _) .ay (aF _) λP _=>⟨λ_=> .inl ((dC x.h.kt.nd A F).1 e),λ_=>rfl⟩
 have J:u≠t:=λq=>e ((dC x.h.kt.nd A F).2 q);refine xT x.h hc A λs1 r1 G f1 E=> ?_;have I:=x.new G f1;induction r1 with
 |true=>
  have y:=E.1 rfl;refine tT I hc hq A F hu λs2 L bG r2 x2 p2 f2 Y a2=> ?_;refine q s2 L bG r2 x2 p2 ((aI f1).trans f2) Y λP hP=> ?_;rw [a2 P hP];refine ⟨λhm=> .inr (.inl ⟨y,hm⟩),λhm=> ?_⟩;rcases hm with hm|⟨_,hm⟩|⟨hm,_⟩
  ·exact dv hm J
  ·exact hm
  ·exact dv y hm
 |false=>
  have y:¬j1 Z.C u:=λhh=>by have:=E.2 hh;trivial
  apply am I.b.bk rfl rfl;induction st with
  |true=>
   refine q s1 ts pairs false I (aF _) (aI f1) (aF _) λP _=>⟨nf,λhm=> ?_⟩;rcases hm with hm|⟨hm,_⟩|⟨_,hm,_⟩
   ·exact dv hm J
   ·exact dv hm y
   ·trivial
  |false=>
   refine Ai G A λk1 d1=> ?_;refine Ai G F λk2 d2=> ?_;refine q s1 ts pairs _ I (aF _) (aI f1) (aF _) λP _=> ?_;rw [nz,dC G.kt.nd d1 d2];refine ⟨λhm=> .inr (.inr ⟨y,rfl,hm⟩),λhm=> ?_⟩;rcases hm with hm|⟨hm,_⟩|⟨_,_,hm⟩
   ·exact dv hm J
   ·exact dv hm y
   ·exact hm
theorem sh (y:named t=true):m_ t↔cH t=2:=by rw [sj y,ki y];unfold m_;rw [y];cases isVal t<;>simp
theorem xB (h:cH t=2):named t=true:=by (revert h;generalize t=y;intro h;induction y using Kd.casesOn<;>first|rfl|cases h)
def jB (QU:List (Kd×Kd)) (u t:Kd):Prop:=∀(i:Nat) (x y),(kids u)[i]? =some x->(kids t)[i]? =some y->(asked (cy x) y->(cy x,y)∈QU)/\(asked (cy y) x->(cy y,x)∈QU)
theorem Cc W h:((W.cq h).map V.int).length<=2/\(∀j,j<((W.cq h).map V.int).length->((W.cq h).map V.int)[j]? =some (.int (f_ W h j)))/\∀j,¬j<((W.cq h).map V.int).length->f_ W h j=0:=by
 refine ⟨by rw [aC];exact (AU),λj y=> ?_,λj y=> ?_⟩
 ·rw [aC] at y;unfold f_;rw [ko,bZ y,List.getD_eq_getElem?_getD,bZ y];rfl
 ·rw [aC] at y;unfold f_;rw [List.getD_eq_getElem?_getD,List.getElem?_eq_none (by exact oo 0x310510002 y)];rfl
abbrev k5 (Z:Zw) (β:Bz) (k k':Int) (wv vs ws:List V) (o:Option V×Option V×Option V):ag:=Ec (eR Z.KL) (eI k) (eI k') (eR β.bk) (eR Z.kt) (some (.tup wv)) (some (.tup vs)) (some (.tup ws)) o.1 o.2.1 o.2.2
def AF:Ss:= .cons (.asg 10 (.ite (.cmp .eq (.loc 9) (.ju 41)) (.tup (.cons (.idx (.loc 7) (.loc 8)) (.cons (.idx (.loc 6) (.loc 8)) .nil))) (.tup (.cons (.idx (.loc 6) (.loc 8)) (.cons (.idx (.loc 7) (.loc 8)) .nil))))) (dr 2 (bd (bd (dr 7 (bo 74)))))
noncomputable def zl:S:= .asg 9 (.ite (.cmp .lt (.loc 8) (.blt .len (.cons (.loc 5) .nil))) (.idx (.loc 5) (.loc 8)) (.ju 40))
def Q7:Ss:= .cons (.ite (.cmp .ne (.idx (.loc 6) (.loc 8)) (.idx (.loc 7) (.loc 8))) (.cons zl AF) .nil) .nil
theorem Et {a b} {k k' w} (x:HB Z β st QU s ts pairs proved) (hc:bY Z.C) (hq:QU.length<=512) (F:j<2) (hv:wv.length<=2) (wg1:j<wv.length->wv[j]? =some (.int w)) (wg2:¬j<wv.length->w=0)
 (va:vs[j]? =some (.int ka)) (vb:ws[j]? =some (.int kb)) (da:Den ts ka a) (db:Den ts kb b) (q1:asked (cy a) b->(cy a,b)∈QU) (q2:asked (cy b) a->(cy b,a)∈QU)
 (go:∀{D z bG} o,HB Z β st QU D z bG proved->ts<+:z->Fr (β.m++Z.m) s D->pairs<+:bG->(∀P,Agree P bG proved->jO Z.C P w a b)->K .next (k5 Z β k k' wv vs ws (eI j,o)) D)
 (no:∀{D z bG ρ},HB Z β st QU D z bG proved->ts<+:z->Fr (β.m++Z.m) s D->pairs<+:bG->(∀P,Agree P bG proved->¬jO Z.C P w a b)->K (.ret (.bool false)) ρ D):
 wSs sc (n+9) Q7 (k5 Z β k k' wv vs ws (eI j,o9,cE)) K s:=by
 have nd:=x.h.kt.nd;have asg:∀Q',Q' .next (k5 Z β k k' wv vs ws (eI j,eI w,cE)) s->wS sc (n+9) zl (k5 Z β k k' wv vs ws (eI j,o9,cE)) Q' s:=λQ' q'=>by refine bP (oq 10 hv)<|az (λG=>cA ⟨oq 0,oq 6 F⟩ (wg1 (oq 78 G)) q') λG=> ?_;exact (wg2 (oo 0xe0021100a02 G)▸q':Q' .next (k5 Z β k k' wv vs ws (eI j,eI 0,cE)) s)
 refine cA ⟨oq 0,oq 6 F⟩ va<|cA ⟨oq 0,oq 6 F⟩ vb<|az (λI=> ?_) λI=>go (_,_) x (aF _) .ay (aF _) λP _=> .inl ((dC nd da db).1 (Decidable.of_not_not I))
 ·have J:a≠b:=λq=>I ((dC nd da db).2 q);have tail:wSs sc (n+9) AF (k5 Z β k k' wv vs ws (eI j,eI w,cE)) (Bo (wSs sc (n+9) .nil) K) s:=by
   refine az (λL=> ?_) λL=> ?_
   ·refine cA ⟨oq 0,oq 6 F⟩ vb<|cA ⟨oq 0,oq 6 F⟩ va<|aO (oo 0xd444898289a10 L)<|ah rfl rfl<|ah rfl rfl<|tT x hc hq db da q2 λD z bG r2 Y p2 f2 A a2=> ?_;cases r2 with|false=>exact no Y p2 f2 A λP E hm=>hm.elim J λhm=>by have hm:=hm.2;rw [ep L] at hm;exact Bool.noConfusion ((a2 P E).2 hm)|true=>exact go (eI w,some (.tup [.int kb,.int ka])) Y p2 f2 A λP E=> .inr (by rw [ep L];exact ⟨oo 0xd444898289a10 L,(a2 P E).1 rfl⟩)
   ·refine cA ⟨oq 0,oq 6 F⟩ va<|cA ⟨oq 0,oq 6 F⟩ vb<|az (λw0=>bW w0<|no x (aF _) .ay (aF _) λP E hm=>hm.elim J λhm=>hm.1 w0) λw0=> ?_
    ·refine ah rfl rfl<|ah rfl rfl<|tT x hc hq da db q1 λD z bG r2 Y p2 f2 A a2=> ?_;induction r2 with|false=>exact no Y p2 f2 A λP E hm=>hm.elim J λhm=>by have hm:=hm.2;rw [fm L] at hm;exact Bool.noConfusion ((a2 P E).2 hm)|true=>exact go (eI w,some (.tup [.int ka,.int kb])) Y p2 f2 A λP E=> .inr (by rw [fm L];exact ⟨w0,(a2 P E).1 rfl⟩)
  exact asg _ tail
theorem CF (x:HB Z β st QU s ts pairs proved) (hc:bY Z.C) (hq:QU.length<=512) (G:Den ts k u) (ht:Den ts k' t) (hu:ao u=ao t->jB QU u t)
 (q:∀s' ae av r,HB Z β st QU s' ae av proved->ts<+:ae->Fr (β.m++Z.m) s s'->pairs<+:av->(∀P,Agree P av proved->(r=true↔eL Z.W Z.C P u t))->Q (.bool r) s'):aq sc (n+10) 74 [.ref Z.KL,.int k,.int k',.ref β.bk] Q s:=by
 apply cg rfl;have nd:=x.h.kt.nd;refine az (λe=> ?_) λe=> ?_
 ·exact q s ts pairs true x (aF _) .ay (aF _) λP _=>⟨λ_=> .inl ((dC nd G ht).1 e),λ_=>rfl⟩
 have e':u≠t:=λq=>e ((dC nd G ht).2 q);obtain ⟨fs,g1,g2,_,_,_,_,_,_,m4,_⟩:=x.h.wd.KL;have no:¬(m_ u/\m_ t/\ao u=ao t)->Q (.bool false) s:=λhn=>
  q s ts pairs false x (aF _) .ay (aF _) λP _=>⟨nf,λhm=>by
    rcases hm with hm|⟨a,b,c,_⟩
    ·exact dv hm e'
    ·exact dv ⟨a,b,c⟩ hn⟩
 refine am (x.h.get g1) rfl g2<|d_ x.h.kt G<|az (λI=> ?_) λI=> ?_
 ·exact bW I<|no λa=>I ((sh a.1.1).1 a.1)
 have I:=Decidable.of_not_not I;have jr:=xB I;refine d_ x.h.kt ht<|az (λJ=> ?_) λJ=> ?_
 ·exact bW J<|no λa=>J ((sh a.2.1.1).1 a.2.1)
 have J:=Decidable.of_not_not J;have D:=xB J;refine kC x.h.kt G<|kC x.h.kt ht ?_;rw [sY jr,sY D];refine az (λL=> ?_) λL=> ?_
 ·exact no λa=>L (by rw [a.2.2])
 have L:ao u=ao t:=oo 0xd46000d110102 L;have ct':=(sh D).2 J;have hu:=hu L;refine cO (x.h.get g1) m4 rfl<|kC x.h.kt G ?_;rw [sY jr];apply Qd x.h (jg (x.h.good G) jr);obtain ⟨wl,wg⟩:=Cc Z.W (ao u);generalize (Z.W.cq (ao u)).map V.int=wv at wl wg⊢;have au:hZ u=kids u:=by unfold hZ;rw [ep jr]
 have at':hZ t=kids t:=by unfold hZ;rw [ep D]
 refine oB x.h.kt G λvs Y=> ?_;refine oB x.h.kt ht λws dws=> ?_;rw [au] at Y;rw [at'] at dws;have lv:=Y.len;have lw:=dws.len;have ku:=nY u;have same:(kids u).length=(kids t).length:=by rw [<-x.h.wd.dh.wf u (x.h.U G) jr,<-x.h.wd.dh.wf t (x.h.U ht) D,L]
 refine bP (oq 2 lv ku)<|bP (oo 0x256ea8fa4f4258c4e003 same ku lw)<|aO (oo 0x35125291c4264120088001a204 lv same lw)<|bP (oq 2 lv ku)<|lZ (oq 79 (by exact sA _) lv ku)<|kq ⟨aa rfl,oq 79 (by exact sA _) lv ku⟩<|xp (λo=>k5 Z β k k' wv vs ws o) (λj s'=>E2 λae av=>A5 (ts<+:ae) (HB Z β st QU s' ae av proved) (Fr (β.m++Z.m) s s') (pairs<+:av) (∀P,Agree P av proved->∀(i) x y,i<j->(kids u)[i]? =some x->(kids t)[i]? =some y->jO Z.C P (f_ Z.W (ao u) i) x y)) ?_ ?_ ?_ (none,none,none) (by simp;exact oo 0x3518090102 lv)
  ⟨ts,pairs,aF _,x,.ay,aF _,λP _ i _ _ h=>dv h (Nat.not_lt_zero _)⟩
 ·intro _;trivial
 ·rintro _ o ⟨ae,av,p',x',f',E,a'⟩;exact q _ ae av true x' p' f' E λP hP=>⟨λ_=> .inr ⟨((sh jr).2 I),ct',L,λi a b ha hb=>a' P hP i a b (dB ha).1 ha hb⟩,λ_=>rfl⟩
 ·rintro K j s' o hju ⟨ae,av,p',x',f',E,a'⟩ kn kr;obtain ⟨a,ha⟩:∃a,(kids u)[j]? =some a:=⟨_,bZ hju⟩;obtain ⟨b,hb⟩:∃b,(kids t)[j]? =some b:=⟨_,bZ (same▸hju)⟩;obtain ⟨ka,va,da⟩:=(Y.mono p').get ha;obtain ⟨kb,vb,db⟩:=(dws.mono p').get hb;have q1:=hu j a b ha hb;refine Et x' hc hq (i1 hju ku) wl (wg.1 j) (wg.2 j) va vb da db q1.1 q1.2 (λ{s2 ts2 bG} o x2 p2 f2 F ar=>kn (_,o) ⟨ts2,bG,p'.trans p2,x2,f'.trans f2,E.trans F,λP hP i c d hi hc hd=> ?_⟩) λ{s2 ts2 bG ρ} x2 p2 f2 F ar=>kr (q s2 ts2 bG false x2 (p'.trans p2) (f'.trans f2) (E.trans F) λP hP=>⟨nf,λhm=>hm.elim (λe=>dv e e') λhm=>dv (hm.2.2.2 j a b ha hb) (ar P hP)⟩);by_cases e:i=j
  ·subst e;exact aP (hc.symm.trans ha)▸aP (hd.symm.trans hb)▸ar P hP
  ·exact a' P (hP.pre F) i c d (oq 43 hi e) hc hd
end
variable {DD Ki bG:List (Kd×Kd)}
section
variable {β:Bz} {st:Bool}
theorem HB.vY {i} (x:HB Z β st QU cr hE DD Ki) (j:cr.length<=i):i∉β.m++Z.m:=λe=>by
 rcases aG e with e|e
 ·have:=x.lt (.tail _ e);exact oq 8 this j
 ·exact x.h.ef j e
theorem tF {F:Rel->Kd->Prop} {done} {b} (a:∀P,Agree P av proved->∀c∈done,¬F P c) (pp:av<+:bG) (n:∀P,Agree P bG proved->¬F P b):∀P,Agree P bG proved->∀c∈done++ [b],¬F P c:=
 λP y c j=>(aG j).elim (a P (y.pre pp) c) λj=>aj j▸n P y
theorem DP {i} (x:HB Z β st QU s ts pairs proved) (hc:bY Z.C) (hq:QU.length<=512) (hs:Den ts k (.v i)) (ht:Den ts k' t) (hu:∀b,Bd Z.C i b->ak b=false->asked b t->(b,t)∈QU)
 (q:∀s' ae av r,HB Z β st QU s' ae av proved->ts<+:ae->Fr (β.m++Z.m) s s'->pairs<+:av->(∀P,Agree P av proved->(r=true↔mG Z.C P i t))->Q (.bool r) s'):aq sc (n+8) 73 [.ref Z.KL,.int k,.int k',.ref β.bk] Q s:=by
 apply cg rfl;obtain ⟨fs,g1,g2,_⟩:=x.h.wd.KL;have loop:∀{L A Q'},HB Z β st QU L A pairs proved->ts<+:A->Fr (β.m++Z.m) s L->¬(t= .a0 2/\Valued Z.C i)->
  (∀v ρ s',Q v s'->Q' (Fl.ret v) ρ s')->
  (∀ρ s',(∃o4 o5,ρ=(dR (eR Z.KL) (eI k) (eI k') (eR β.bk) o4 o5))->Q (.bool false) s'->Q' Fl.next ρ s')->
  wS sc (n+7) (.for [4] false (.fn 43 (.cons (.loc 0) (.cons (.loc 1) .nil))) (bd (dr 1 (bo 73))))
   (dR (eR Z.KL) (eI k) (eI k') (eR β.bk) none none) Q' L:=by
  intro L A Q' E p1 f1 hn qr qn;refine rC E.h hc (hs.mono p1) λs2 vs l h2 f2 e2 l2 d2 hb hl=> ?_;have x2:=E.new h2 f2;refine cV e2 (by rw [d2.len];exact oq 1 hl)<|qC (λo:Option V×Option V=>dR (eR Z.KL) (eI k) (eI k') (eR β.bk) o.1 o.2) (λae done s'=>E1 λav=>A4 (HB Z β st QU s' ae av proved) (Fr (β.m++Z.m) s2 s') (pairs<+:av) (∀P,Agree P av proved->∀b∈done,¬(ak b=false/\cj P b t))) (none,none) d2
   ⟨pairs,x2,.ay,aF _,λ_ _ _ h=>(ba h).elim⟩ (λ⟨_,_,f,_,_⟩=> .inl ⟨f.get (E.vY (g6 _)) e2,rfl⟩) (λo p ⟨av,D,f,pp,a'⟩=>qn _ _ ⟨_,_,rfl⟩ (q _ _ av false D (p1.trans p) ((f1.trans (aI f2)).trans f) pp λP Y=>⟨nf,λhm=> ?_⟩)) ?_
  ·rcases hm with hm|⟨b,hb1,hb2,hb3⟩
   ·exact dv hm hn
   ·exact dv ⟨hb2,hb3⟩ (a' P Y b ((hb b).2 hb1))
  ·rintro K ae done b kb s' o p' hbl db ⟨av,D,f',F,a'⟩ kn kr;have G:=(hb b).1 hbl;refine am (D.h.get g1) rfl g2<|pR D.h.kt db ?_;rw [hc.qH G];refine am (D.h.get g1) rfl g2<|gK D.h.kt db ?_;induction hv:ak b using Bool.casesOn with|true=>exact kn (_,_) (aF _) ⟨av,D,f',F,tF a' (aF _) λP _ a=>Bool.noConfusion (hv.symm.trans a.1)⟩|false=>
    refine u4 D hq db ((ht.mono p1).mono p') (hu b G hv) λs3 y r3 x3 f3 I a3 _=> ?_;have f3':Fr (β.m++Z.m) s' s3:=f3.sub λj hj=>aA _ hj;induction r3 with|true=>exact kr (qr _ _ _ (q s3 ae y true x3 (p1.trans p') (((f1.trans (aI f2)).trans f').trans f3') (F.trans I) λP Y=>⟨λ_=> .inr ⟨b,G,hv,(a3 P Y).1 rfl⟩,λ_=>rfl⟩))|false=>exact kn (_,_) (aF _) ⟨y,x3,f'.trans f3',F.trans I,tF a' I λP Y a=>Bool.noConfusion ((a3 P Y).2 a.2)⟩
 refine am (x.h.get g1) rfl g2<|iA x.h.kt x.h.wd.dh.vt rfl rfl rfl .nil λL A k1 K1 p1 f1 d1=> ?_;have E:=x.step (x.h.step K1 p1 f1) p1 f1;have J:Fr (β.m++Z.m) s L:=f1.sub λj hj=>aS _ hj;have last:∀ρ s',(∃o4 o5,ρ=(dR (eR Z.KL) (eI k) (eI k') (eR β.bk) o4 o5))->Q (.bool false) s'->wSs sc (n+7) (bd (bo 91)) ρ (fin Q) s':=by rintro _ s' ⟨o4,o5,rfl⟩ h;exact h
 refine az (λe=> ?_) λe=>aO e<|loop E p1 J (λa=>e ((dC K1.nd (ht.mono p1) d1).2 a.1)) (λ_ _ _ h=>h) last
 ·refine IQ E.h hc (hs.mono p1) λs2 r2 h2 f2 hr2=> ?_;have x2:=E.new h2 f2;induction r2 with|true=>exact q s2 A pairs true x2 p1 (J.trans (aI f2)) (aF _) λP _=>⟨λ_=> .inl ⟨((dC K1.nd (ht.mono p1) d1).1 e),hr2.1 rfl⟩,λ_=>rfl⟩|false=>exact loop x2 p1 (J.trans (aI f2)) (λa=>by have:=hr2.2 a.2;contradiction) (λ_ _ _ h=>h) last
end
variable {Q':Fl->ag->St->Prop}
theorem Bv (h:cH t=4):∃x,t= .ar x:=by
 induction t with|ar x=>exact ⟨x,rfl⟩|a0 g=>have j:bJ g=4:=h;have z:=ir g;exact (oq 23 z j).elim|a1 g x=>have A:bJ g=4:=h;have D:=ir g;exact (oq 23 D A).elim|a2 g x y=>have E:bJ g=4:=h;have F:=ir g;exact (oq 23 F E).elim|_=>cases h
section
variable {β:Bz} {st:Bool}
def Pn:Ss:= .cons (.ite (.or (.cons (.cmp .eq (.loc 5) (.loc 2)) (.cons (.fn 74 (.cons (.loc 0) (.cons (.loc 5) (.cons (.loc 2) (.cons (.loc 3) .nil))))) .nil))) (bd (bo 22)) .nil) .nil
theorem yq {o} (x:HB Z β st QU s ts pairs proved) (hc:bY Z.C) (hq:QU.length<=512) (e:s[o]? =some (.list vs)) (ho:o∉β.m++Z.m) (d:aD ts vs l) (L:Den ts k' t)
 (hp:∀u∈l,ao u=ao t->jB QU u t)
 (Y:∀s' ae av ρ,HB Z β st QU s' ae av proved->ts<+:ae->Fr (β.m++Z.m) s s'->pairs<+:av->(∀P,Agree P av proved->∃u∈l,eL Z.W Z.C P u t)->Q' (.ret (.bool true)) ρ s')
 (qn:∀s' ae av o,HB Z β st QU s' ae av proved->ts<+:ae->Fr (β.m++Z.m) s s'->pairs<+:av->(∀P,Agree P av proved->∀u∈l,¬eL Z.W Z.C P u t)->Q' .next (dR (eR Z.KL) (eI k) (eI k') (eR β.bk) (eR Z.kt) o) s'):
 WF sc (n+10) (.ref o) (false,vs) [5] false Pn vs (dR (eR Z.KL) (eI k) (eI k') (eR β.bk) (eR Z.kt) o5) Q' s:=by
 refine qC (λo5=>dR (eR Z.KL) (eI k) (eI k') (eR β.bk) (eR Z.kt) o5) (λae done s'=>E1 λav=>A4 (HB Z β st QU s' ae av proved) (Fr (β.m++Z.m) s s') (pairs<+:av) (∀P,Agree P av proved->∀b∈done,¬eL Z.W Z.C P b t)) o5 d
  ⟨pairs,x,.ay,aF _,λ_ _ _ h=>(ba h).elim⟩ (λ⟨_,_,f,_,_⟩=> .inl ⟨f.get ho e,rfl⟩) (λo5 p ⟨av,D,f,pp,a⟩=>qn _ _ av o5 D p f pp a) ?_
 rintro K ae done b kb s' o5 E hm db ⟨av,D,F,z,a'⟩ kn kr;refine az (λG=>bW G<|kr (Y s' ae av _ D E F z λP _=>⟨b,hm,.inl ((dC D.h.kt.nd db (L.mono E)).1 G)⟩)) λG=> ?_
 ·refine CF D hc hq db (L.mono E) (hp b hm) λs2 I bG r2 x2 p2 f2 A a2=> ?_;induction r2 with|true=>exact kr (Y s2 I bG _ x2 (E.trans p2) (F.trans f2) (z.trans A) λP J=>⟨b,hm,(a2 P J).1 rfl⟩)|false=>exact kn _ p2 ⟨bG,x2,F.trans f2,z.trans A,tF a' A λP J a=>Bool.noConfusion ((a2 P J).2 a)⟩
theorem J_ (g:dw u=true) (y:isRef u=true) (j:u≠ .p 14) (hb:∀i,u≠ .b (.v i)):cQ u=true:=by
 induction u using Kd.casesOn with
 |p i=>exact zM (by have:i≠14:=λe=>j (by rw [e]);have a:=aa (aZ y).1;have b:=aa (aZ y).2;exact oo 0x18482924a082804b100c4240740d40008281 a this b)|v i=>trivial|b x=>
  replace g:=Bool.or_eq_true_iff.1 g;rcases g with g|g
  ·exact g
  ·induction x using Kd.casesOn<;>first|trivial|skip
   exact dv rfl (hb _)
 |_=>rfl
theorem Bw {P} (j:∀i,u≠ .b (.v i)) (z:¬∃a b,u= .ar a/\t= .ar b):gH W C st P u t↔dg W C P u t:=by
 induction u with|b y=>(revert j;generalize y=A;intro j;induction A using Kd.casesOn<;>first|exact Iff.rfl|exact dv rfl (j _))|ar x=>(revert z;generalize t=A;intro z;induction A using Kd.casesOn<;>first|exact Iff.rfl|exact dv ⟨_,_,rfl,rfl⟩ z)|_=>exact Iff.rfl
theorem yu (x:HB Z β st QU s ts pairs proved) (hc:bY Z.C) (hq:fP Z.W Z.C QU) (hs:Den ts k u) (ht:Den ts k' t) (hu:(u,t)∈QU) (ha:asked u t) (hb:∀i,u≠ .b (.v i))
 (q:∀s' ae av r,HB Z β st QU s' ae av proved->ts<+:ae->Fr (β.m++Z.m) s s'->pairs<+:av->(∀P,Agree P av proved->(r=true↔dg Z.W Z.C P u t))->Q (.bool r) s'):
 wSs sc (n+16) (dr 2 (tl (bo 72))) (dR (eR Z.KL) (eI k) (eI k') (eR β.bk) (eR Z.kt) none) (fin Q) s:=by
 have hk:=J_ (x.h.good hs) ha.2.1 ha.2.2.2.1 hb;have parts:∀w,(Ch Z.W u w\/dU Z.W u w)->ao w=ao t->jB QU w t:=λw h1 h2 i a b e1 e2=>⟨λas=>hq.cl u t _ _ hu (.co h1 h2 e1 e2) as,λas=>hq.cl u t _ _ hu (.contra h1 h2 e1 e2) as⟩;refine vT x.h hs hk λs1 ts1 vs l h1 p1 f1 e1 l1 d1 D ln1=> ?_;have E:Fr (β.m++Z.m) s s1:=f1.sub λj hj=>aS _ hj;refine cV e1 (by rw [d1.len];exact oq 1 ln1)<|yq (x.step h1 p1 f1) hc hq.len e1 (x.vY .refl) d1 (ht.mono p1) (λw hw=>parts w (.inl ((D w).1 hw))) (λs2 I bG ρ J p2 f2 A a2=> ?_) λs2 I bG o J p2 f2 A a2=> ?_
 ·exact q s2 I bG true J (p1.trans p2) (E.trans f2) A λP G=>⟨λ_=>(by obtain ⟨w,L,Y⟩:=a2 P G;exact .inl ⟨w,(D w).1 L,Y⟩),λ_=>rfl⟩
 ·refine pG J.h ((ht.mono p1).mono p2)<|nq (λhi=> ?_) λhi=> ?_
  ·
   refine q s2 I bG false J (p1.trans p2) (E.trans f2) A λP G=>⟨nf,λhm=> ?_⟩;rcases hm with ⟨w,w1,w2⟩|⟨w,_⟩
   ·exact dv w2 (a2 P G w ((D w).2 w1))
   ·exact Bool.noConfusion (hi.symm.trans w)
  ·
   refine xN J.h ((hs.mono p1).mono p2) hk λs3 ts3 vs3 l3' h3 p3 f3 e3 ln3 d3 hl3 ln3'=> ?_;have f3':Fr (β.m++Z.m) s2 s3:=f3.sub λj hj=>aS _ hj;refine cV e3 (by rw [d3.len];exact oq 1 ln3')<|yq (J.step h3 p3 f3) hc hq.len e3 (J.vY .refl) d3 (((ht.mono p1).mono p2).mono p3) (λw hw=>parts w (.inr ((hl3 w).1 hw))) (λs4 ts4 z ρ x4 p4 f4 F a4=> ?_) λs4 ts4 z o x4 p4 f4 F a4=> ?_
   ·exact q s4 ts4 z true x4 (((p1.trans p2).trans p3).trans p4) (((E.trans f2).trans f3').trans f4) (A.trans F) λP G=>⟨λ_=>(by obtain ⟨w,L,Y⟩:=a4 P G;exact .inr ⟨hi,w,(hl3 w).1 L,Y⟩),λ_=>rfl⟩
   ·refine q s4 ts4 z false x4 (((p1.trans p2).trans p3).trans p4) (((E.trans f2).trans f3').trans f4) (A.trans F) λP G=>⟨nf,λhm=> ?_⟩;rcases hm with ⟨w,w1,w2⟩|⟨_,w,w1,w2⟩
    ·exact dv w2 (a2 P (G.pre F) w ((D w).2 w1))
    ·exact dv w2 (a4 P G w ((hl3 w).2 w1))
theorem w_ (x:HB Z β st QU s ts pairs proved) (I:bY Z.C) (F:fP Z.W Z.C QU) (z:Den ts k u) (J:Den ts k' t) (G:(u,t)∈QU) (ha:asked u t) (A:¬∃a b,u= .ar a/\t= .ar b)
 (q:∀s' ae av r,HB Z β st QU s' ae av proved->ts<+:ae->Fr (β.m++Z.m) s s'->pairs<+:av->(∀P,Agree P av proved->(r=true↔gH Z.W Z.C st P u t))->Q (.bool r) s'):
 wSs sc (n+16) (dr 2 (bo 72)) (dR (eR Z.KL) (eI k) (eI k') (eR β.bk) (eR Z.kt) none) (fin Q) s:=by
 refine d_ x.h.kt z<|az (λe=> ?_) λe=> ?_
 ·obtain ⟨y,D⟩:=oL e;rw [D] at z;refine nJ x.h.kt z (.inr rfl) λk1 L=> ?_;apply gK x.h.kt L;refine im (λhv=> ?_) λhv=> ?_
  ·
   obtain ⟨i,Y⟩:=dP hv;rw [Y] at z D;refine nJ x.h.kt z (.inr rfl) λk2 d2=> ?_;rw [D] at G q;exact DP x I F.len d2 J (λb hb hv as=>F.cl _ _ _ _ G (.param hb hv) as) λs' ae av r a b c d f=>q s' ae av r a b c d λP E=>f P E
  ·
   have hb:∀i,u≠ .b (.v i):=λi e=>by rw [D] at e;injection e with e;rw [e] at hv;exact Bool.noConfusion hv
   exact yu x I F (D▸z) J G ha hb λs' ae av r a b c d f=>q s' ae av r a b c d λP E=>(f P E).trans (Bw hb A).symm
 ·apply aO e;have hb:∀i,u≠ .b (.v i):=λi e'=>e (by rw [e'];rfl);exact yu x I F z J G ha hb λs' ae av r a b c d f=>q s' ae av r a b c d λP E=>(f P E).trans (Bw hb A).symm
theorem DW (x:HB Z β st QU s ts pairs proved) (F:bY Z.C) (D:fP Z.W Z.C QU) (j:Den ts k u) (y:Den ts k' t) (z:(u,t)∈QU) (ha:asked u t)
 (q:∀s' ae av r,HB Z β st QU s' ae av proved->ts<+:ae->Fr (β.m++Z.m) s s'->pairs<+:av->(∀P,Agree P av proved->(r=true↔gH Z.W Z.C st P u t))->Q (.bool r) s'):aq sc (n+17) 72 [.ref Z.KL,.int k,.int k',.ref β.bk] Q s:=by
 apply cg rfl;obtain ⟨fs,I,J,_⟩:=x.h.wd.KL;refine am (x.h.get I) rfl J<|d_ x.h.kt j<|az (λE=> ?_) λE=>aO E (w_ x F D j y z ha (by rintro ⟨a,b,h,_⟩;exact E (by rw [h];rfl)) q);refine d_ x.h.kt y<|az (λG=> ?_) λG=>w_ x F D j y z ha (by rintro ⟨a,b,_,h⟩;exact G (by rw [h];rfl)) q;obtain ⟨a,L⟩:=Bv E;obtain ⟨b,Y⟩:=Bv G;rw [L] at j z q;rw [Y] at y z q;refine nJ x.h.kt j (.inl rfl) λk1 d1=> ?_;refine nJ x.h.kt y (.inl rfl) λk2 d2=> ?_;exact Py x F D.len d1 d2 (λas=>D.cl _ _ _ _ z .elem as) q
end
variable {P':Rel}{p:Nat}
theorem cj.mono {P} (h:∀s t,P s t->P' s t) {s} (m:cj P s t):cj P' s t:=by
 rcases m with m|⟨a,b,m|⟨c,d,m|m⟩⟩
 ·exact .inl m
 ·exact .inr ⟨a,b,.inl m⟩
 ·exact .inr ⟨a,b,.inr ⟨c,d,.inl m⟩⟩
 ·exact .inr ⟨a,b,.inr ⟨c,d,.inr (h _ _ m)⟩⟩
theorem jm.mono {P} (h:∀s t,P s t->P' s t) {s} (m:jm C P s t):jm C P' s t:=⟨m.1,m.2.imp id λa=>⟨a.1,a.2.1,a.2.2.mono h⟩⟩
theorem jO.mono {P} (h:∀s t,P s t->P' s t) {w} {s} (m:jO C P w s t):jO C P' w s t:=m.imp id λa=>⟨a.1,by
 have:=a.2;by_cases e:w=2
 ·rw [ep e] at this⊢;exact this.mono h
 ·rw [fm e] at this⊢;exact this.mono h⟩
theorem eL.mono {P} (h:∀s t,P s t->P' s t) {s} (m:eL W C P s t):eL W C P' s t:=m.imp id λa=>⟨a.1,a.2.1,a.2.2.1,λi x y j z=>(a.2.2.2 i x y j z).mono h⟩
theorem dg.mono {P} (h:∀s t,P s t->P' s t) {s} (m:dg W C P s t):dg W C P' s t:=m.imp (by rintro ⟨u,a,b⟩;exact ⟨u,a,b.mono h⟩) (by rintro ⟨i,u,a,b⟩;exact ⟨i,u,a,b.mono h⟩)
theorem mG.mono {P} (h:∀s t,P s t->P' s t) {i} (m:mG C P i t):mG C P' i t:=m.imp id (by rintro ⟨u,a,b,c⟩;exact ⟨u,a,b,c.mono h⟩)
theorem nT.mono {st} {P} (h:∀s t,P s t->P' s t) {s} (m:nT W C st P s t):nT W C st P' s t:=m.imp id λm=>m.imp (λa=>⟨a.1,a.2.mono h⟩) id
theorem gH.mono {st} {P} (h:∀s t,P s t->P' s t) {s}:gH W C st P s t->gH W C st P' s t:=
 s.casesOn (λ_ m=>dg.mono h m) (λ_ m=>dg.mono h m) (λ_=>mK.imp (λm=>dg.mono h m) λ_ m=>nT.mono h m) (λ_ m=>dg.mono h m) (λ_ _ m=>dg.mono h m) (λ_ _ _ m=>dg.mono h m) λ_=>pQ.imp (λm=>dg.mono h m) λ_ m=>mG.mono h m
noncomputable def MG (W:World) (C:aM) (st:Bool) (s t:Kd):Prop:=∀R,(∀s t,gH W C st R s t->R s t)->R s t
theorem MG.fold {st} {s} (h:gH W C st (MG W C st) s t):MG W C st s t:=λR j=>j s t (h.mono λ_ _ g=>g R j)
noncomputable def r9 (W:World) (C:aM) (st:Bool) (pairs proved:List (Kd×Kd)):Prop:=∀p∈pairs,p∉proved->∀P,Agree P pairs proved->¬gH W C st P p.1 p.2
theorem r9.iff {st} (h:r9 W C st pairs proved) (j:∀p∈proved,MG W C st p.1 p.2) (hv:∀p∈proved,p∈pairs):Agree (MG W C st) pairs proved:=by intro p hp;refine ⟨λg=> ?_,j p⟩;refine g (λs t=>(s,t)∈pairs->(s,t)∈proved) (λs t m hm=> ?_) hp;refine JF λy=>h _ hm y _ (λq z=> ?_) m;exact ⟨λa=>a z,λa _=>a⟩
section
variable {β:Bz} {st:Bool}
theorem D9 (x:HB Z β st QU s ts pairs proved) (y:bY Z.C) (z:fP Z.W Z.C QU) (A:Den ts k u) (D:Den ts k' t) (E:(u,t)∈QU) (ha:asked u t)
 (q:∀s' ae av r,HB Z β st QU s' ae av proved->ts<+:ae->Fr (β.m++Z.m) s s'->pairs<+:av->(∀P,Agree P av proved->(r=true↔gH Z.W Z.C st P u t))->Q (.bool r) s'):aq sc (n+18) 70 [.ref Z.KL,.tup [.int k,.int k'],.ref β.bk] Q s:=by
 exact cg rfl<|ah rfl rfl<|ah rfl rfl<|DW x y z A D E ha q
theorem pN (nd:pairs.Nodup) (h:∀p∈pairs,p∈QU):pairs.length<=QU.length:=gR nd h
theorem N_ (hp:p<N):(N-(p+1))*(N+1)+(N-0)<(N-p)*(N+1)+(N-a):=by have:N-p=(N-(p+1))+1:=oo 0x3420414108140241490810020900209080090800948101893b42160390104 (by exact sO _ _) (by exact sO _ _) hp;rw [this,Nat.add_mul];exact oo 0xf22e53653dda8c72ee75c0caa1402bd5bd7e1085 (by exact sO _ _) (by exact sO _ _)
theorem xd (x:HB Z β st QU s ts pairs proved) (hc:bY Z.C) (hq:fP Z.W Z.C QU) (hg:∀p∈proved,MG Z.W Z.C st p.1 p.2)
 (q:∀s' ae av y,HB Z β st QU s' ae av y->ts<+:ae->Fr (β.m++Z.m) s s'->pairs<+:av->(∀p∈y,MG Z.W Z.C st p.1 p.2)->r9 Z.W Z.C st av y->Q .none s'):aq sc (n+19) 69 [.ref Z.KL,.ref β.bk] Q s:=by
 apply cg rfl;have hN:=hq.len;refine oO (λm ρ s'=>E5 λae av y a o=>A8 (m=(QU.length-y.length)*(QU.length+1)+(QU.length-a)) (a<=av.length) (HB Z β st QU s' ae av y) (ts<+:ae) (Fr (β.m++Z.m) s s') (pairs<+:av) (∀p∈y,MG Z.W Z.C st p.1 p.2) ((∀(j) p,j<a->av[j]? =some p->p∉y->∀P,Agree P av y->¬gH Z.W Z.C st P p.1 p.2)/\ρ=(j7 (eR Z.KL) (eR β.bk) (eI a) o)))
  ⟨ts,pairs,proved,0,none,rfl,hL _,x,aF _,.ay,aF _,hg,λj p h=>dv h (Nat.not_lt_zero _),rfl⟩ ?_ ?_
 ·have h1:(QU.length-proved.length)*(QU.length+1)<=512*513:=Nat.mul_le_mul (oo 0x18f27e1713b870c36e003 (by exact sO _ _) hN) (oo 0x37a000403e409001 hN);unfold hX;exact oo 0x12b67be949a01b01e7d99f820e7660000000000895448d01083 (by exact sO _ _) h1 hN
 rintro K m _ s' ⟨ae,av,y,a,o,hm,hap,E,p',f',pp',hg',hF,rfl⟩ hK;obtain ⟨vp,b1,b2,b3⟩:=E.b.bo;have hl:=E.short hq.len;refine am E.b.bk rfl rfl<|dW b1 (by rw [b3.len];exact oq 26 hl) ?_;have hpl:=b3.len;refine az (λA=> ?_) λA=> ?_
 ·replace A:a<av.length:=oo 0x4d39e80498083 A hpl;obtain ⟨⟨c,d⟩,hcd⟩:∃p,av[a]? =some p:=⟨_,bZ A⟩;obtain ⟨kc,kd,hv,dc,dd⟩:=b3.get hcd;have L:=bh hcd;refine am E.b.bk rfl rfl<|ce b1 ⟨oq 0,oo 0x1bd80804940402 A hl⟩ hv ?_;obtain ⟨vv,b4,b5⟩:=E.b.bv;have hvl:=pN E.b.nv λp hp=>E.b.pq p (E.b.pv p hp);have hcl:=pN E.b.nd E.b.pq;refine am E.b.bk rfl rfl<|mA b4 b5.ij ?_;rw [kX];have next:∀{s2 G bG},HB Z β st QU s2 G bG y->ts<+:G->Fr (β.m++Z.m) s s2->av<+:bG->((c,d)∉y->∀P,Agree P bG y->¬gH Z.W Z.C st P c d)->
   K .next (j7 (eR Z.KL) (eR β.bk) (some (V.int (a+1))) (some (.tup [.int kc,.int kd]))) s2:=by
   intro s2 G bG D p2 f2 I hno;have hl2:=pN D.b.nd D.b.pq;have hpre:=I.length_le;refine hK.next ⟨(QU.length-y.length)*(QU.length+1)+(QU.length-(a+1)),oo 0xc83fccb501495c1b9a8a044b00f00410aed7d768d6ff92d3c08fe1087 (by exact sO _ _) (by exact sO _ _) A hcl hm,G,bG,y,a+1,_,rfl,oo 0x269a6c15019003 A hpre,D,p2,f2,pp'.trans I,hg',λj p J he hn P hP=> ?_,by simp;rfl⟩
   obtain ⟨r,rfl⟩:=I;by_cases e:j=a
   ·subst e;rw [mc A,hcd] at he;injection he with he;subst he;exact hno hn P hP
   ·rw [mc (by exact oq 80 J A)] at he;exact hF j p (oq 43 J e) he hn P (hP.pre ⟨r,rfl⟩)
  by_cases Y:(c,d)∈y
  ·rw [gs ((b5.iR E.h.kt.nd dc dd).2 Y)];exact next E p' f' (aF _) λhn=>dv Y hn
  ·rw [hI λe=>Y ((b5.iR E.h.kt.nd dc dd).1 e)];refine D9 E hc hq dc dd (E.b.pq _ L) (E.b.pa _ L) λs2 G bG r2 D p2 f2 I a2=> ?_;induction r2 with
   |false=>
    refine next D (p'.trans p2) (f'.trans f2) I λ_ P hP hm=> ?_
    have:=(a2 P hP).2 hm;trivial
   |true=>
    have hg2:MG Z.W Z.C st c d:= .fold (((a2 (λu t=>(u,t)∈y) λp _=>Iff.rfl).1 rfl).mono λu t hut=>hg' _ hut);obtain ⟨vv2,b4,b5⟩:=D.b.bv;obtain ⟨vp2,c1,c2,c3⟩:=D.b.bo;have hin2:V.tup [.int kc,.int kd]∉vv2:=λe=>Y ((b5.iR D.h.kt.nd (dc.mono p2) (dd.mono p2)).1 e);refine am D.b.bk rfl rfl<|eF b4 b5.ij (by rw [rp,b5.len];exact oo 0x1c007b0034002 hN hvl) λs3 f3 e3 l3=> ?_;rw [q_ hin2] at e3;have ap:=D.b.ap;have ap1:=bw ap;have d2:=f3.get (by simp;exact ji ap1.2 bn) c1;have d3:=f3.get (by simp;exact ji (bw ap1.2).2 ai) c2;have hmem2:=I.mem L;have x3:HB Z β st QU s3 G bG (y++ [(c,d)]):=⟨D.h.g9 f3 λj J=>D.o.off j (by replace J:=aj J;subst J;simp [Bz.m]),⟨(f3.get (by simp;exact ji ap ci) D.b.bk),⟨vp2,d2,d3,c3⟩,⟨_,e3,b5.snoc (dc.mono p2) (dd.mono p2)⟩,D.b.nd,lN D.b.nv Y,λp hp=>by
     rcases aG hp with hp|hp
     ·exact D.b.pv p hp
     ·replace hp:=aj hp;rw [hp];exact hmem2,D.b.pq,D.b.pa,ap⟩,D.o⟩
    have hl3:=pN x3.b.nv λp hp=>x3.b.pq p (x3.b.pv p hp);rw [aL] at hl3;simp only [iZ,List.length_nil] at hl3;refine hK.next ⟨(QU.length-(y++ [(c,d)]).length)*(QU.length+1)+(QU.length-0),?_,G,bG,y++ [(c,d)],0,_,rfl,hL _,x3,p'.trans p2,(f'.trans f2).trans (f3.sub λj J=>by replace J:=aj J;subst J;simp [Bz.m]),pp'.trans I,λp hp=> ?_,λj p h=>dv h (Nat.not_lt_zero _),rfl⟩
    ·rw [hm,aL];exact N_ (oo 0xe010b0810082 hl3)
    ·rcases aG hp with hp|hp
     ·exact hg' p hp
     ·replace hp:=aj hp;rw [hp];exact hg2
 ·refine q s' ae av y E p' f' pp' hg' λp hp hn P hP=> ?_;obtain ⟨j,J,e⟩:=List.mem_iff_getElem.mp hp;exact hF j p (oo 0xd289c0821118480120084 J hpl A) (JQ.mpr ⟨J,e⟩) hn P hP
end
section
variable {st:Bool}
theorem IR (e:s[a]? =some (.inst 4 []))
 (q:∀s' p l w,Fr [a] s s'->s'[a]? =some (.inst 4 [(43,v),(44,.ref p),(45,.ref l),(46,.ref w)])->s'[p]? =some (.list [])->s'[l]? =some (.dict [])->s'[w]? =some (.dict [])->s.length<=p->p<l->l<w->Q .none s'):aq sc (n+1) 64 [.ref a,v] Q s:=by
 refine cg rfl ?_;have ha:=bE e;refine jJ e ⟨rfl,ll rfl⟩ λA f1 I j=> ?_;refine c_ λs2 f2 J l2=> ?_;refine jJ (f2.gn I) ⟨rfl,ll rfl⟩ λF f3 L l3=> ?_;refine lT λs4 D Y G=> ?_;refine jJ (D.gn L) ⟨rfl,ll rfl⟩ λs5 E e5 l5=> ?_;refine lT λs6 y e6 l6=> ?_;have a6:=y.gn e5;have p6:=y.gn (E.get (i:=A.length) (by simp;exact oq 44 ha j) (D.gn (f3.get (i:=A.length) (by simp;exact oq 44 ha j) J)));refine jJ a6 ⟨rfl,ll rfl⟩ λs7 z e7 l7=> ?_;refine q s7 A.length F.length s5.length ?_ e7 (z.get (by simp;exact oq 44 ha j) p6) (z.get (by simp;exact oq 81 l2 j ha l3) (y.gn (E.get (i:=F.length) (by simp;exact oq 81 l2 j ha l3) Y))) (z.get (by simp;exact oo 0x20bdd255152cf4df8d3d607619be7481207 ha j l2 l3 G l5) e6) (oo 0x3511090002 j) (oq 45 l2 l3) (oq 45 G l5);exact f1.trans ((aI f2).trans (f3.trans ((aI D).trans (E.trans ((aI y).trans z)))))
theorem Ao (h:H Z s ts) (q:∀s' β,HB Z β st QU s' ts [] []->Fr [] s s'->s.length=β.bk->(∀j∈β.m,s.length<=j)->Q (.ref β.bk) s'):
 P 5 (bN (.inst 4 [])) (λself s=>aq sc (n+1) (ct 4).init [self,.int (if st then 1 else 0)] (λr s=>wO r (Q self s)) s) s:=by
 refine c_ λG f1 D z=> ?_;refine IR D λE p l w f2 a2 p2 l2 F hp hl A=> ?_;refine q E ⟨s.length,p,l,w⟩ ⟨(h.new f1).Cs h (g6 _) f2,?_,?_⟩ ?_ rfl ?_
 ·refine ⟨a2,⟨[],p2,l2,.nil⟩,⟨[],F,.nil⟩,List.nodup_nil,List.nodup_nil,(λ_=>bg),(λ_=>bg),(λ_=>bg),?_⟩;simp [Bz.m];exact oo 0x25f3d6a78786f889f9cd1fddfb0b09d3ffc0a16de095c15b1dce56d650c6f1c610122a85 hl A z hp
 ·refine ⟨λj y=>h.off ?_⟩;simp [Bz.m] at y;exact oo 0x13261d6577d4b665d80c4c69117e1d2c9638ba2e27f71d3a4ba270006 hl A z hp y
 ·exact ((aI f1).trans f2).cut λj y hl=>by replace y:=aj y;exact (oq 82 hl y).elim
 ·intro j y;simp [Bz.m] at y;exact oo 0x882b7bb51b3df49c430b8d624cb52e27f71d3a4ba270006 hl A z hp y
theorem HB.fin {β:Bz} (hb:∀j∈β.m,cr.length<=j) (f:Fr (β.m++Z.m) cr s'):Fr Z.m cr s':=f.cut λj y hl=>by
 rcases aG y with y|y
 ·have:=hb j y;exact (oq 8 hl this).elim
 ·exact y
theorem zm {i} (h:H Z s ts) (hi:i=if st then 1 else 0) (hc:bY Z.C) (hq:fP Z.W Z.C QU) (hs:Den ts k u) (ht:Den ts k' t) (hu:asked u t->(u,t)∈QU)
 (q:∀s' ae r,H Z s' ae->ts<+:ae->Fr Z.m s s'->(r=true↔cj (MG Z.W Z.C st) u t)->Q (.bool r) s'):aq sc (n+20) 67 [.ref Z.KL,.int k,.int k',.int i] Q s:=by
 subst hi;refine cg rfl<|Ao (QU:=QU) h λs1 β x1 f1 hbk D=> ?_;refine u4 x1 hq.len hs ht hu λs2 bG r2 x2 f2 pp2 a2 I=> ?_;have E:Fr (β.m++Z.m) s s2:=(aI f1).trans (f2.sub λj hj=>aA _ hj);have no:Agree (λ_ _=>False) bG []:=λp _=>⟨(by intros;contradiction),(by intros;contradiction)⟩;induction r2 with|true=>exact q s2 ts true x2.h (aF _) (HB.fin D E) ⟨λ_=>((a2 _ no).1 rfl).mono λ_ _ hf=>hf.elim,λ_=>rfl⟩|false=>
  refine xd x2 hc hq (λ_=>bg) λs3 J G F z p3 f3 L g3 Y=> ?_;obtain ⟨vv,b4,b5⟩:=z.b.bv;refine am z.b.bk rfl rfl<|mL b4 b5.ij ?_;rw [kX];refine q s3 J _ z.h p3 (HB.fin D (E.trans f3)) ?_;rw [nz,b5.iR z.h.kt.nd (hs.mono p3) (ht.mono p3)];have hf:¬cj (λ_ _=>False) u t:=λhm=>Bool.noConfusion ((a2 (λ_ _=>False) no).2 hm);constructor
  ·intro hp;have ha:=z.b.pa _ (z.b.pv _ hp);exact .inr ⟨ha.2.1,ha.2.2.1,.inr ⟨ha.2.2.2.2.1,ha.2.2.2.2.2.1,.inr (g3 _ hp)⟩⟩
  ·intro hm;have ha:asked u t:=by
    refine JF λhn=>hf ?_;rcases hm with hm|⟨a,b,hm|⟨c,d,hm|hm⟩⟩
    ·exact .inl hm
    ·exact .inr ⟨a,b,.inl hm⟩
    ·exact .inr ⟨a,b,.inr ⟨c,d,.inl hm⟩⟩
    ·by_cases e1:u=t
     ·exact .inl e1
     by_cases e2:u= .p 14
     ·exact .inr ⟨a,b,.inl e2⟩
     by_cases e3:t= .p 12
     ·exact .inr ⟨a,b,.inr ⟨c,d,.inl e3⟩⟩
     exact dv ⟨e1,a,b,e2,c,d,e3⟩ hn
   have hg:MG Z.W Z.C st u t:=by
    rcases hm with hm|⟨_,_,hm|⟨_,_,hm|hm⟩⟩
    ·exact dv hm ha.1
    ·exact dv hm ha.2.2.2.1
    ·exact dv hm ha.2.2.2.2.2.2
    ·exact hm
   exact ((Y.iff g3 z.b.pv) (u,t) (L.mem (I ha))).1 hg
theorem vJ (h:H Z s ts) (y:bY Z.C) (z:fP Z.W Z.C QU) (A:Den ts k u) (D:Den ts k' t) (E:asked u t->(u,t)∈QU)
 (q:∀s' ae r,H Z s' ae->ts<+:ae->Fr Z.m s s'->(r=true↔cj (MG Z.W Z.C false) u t)->Q (.bool r) s'):aq sc (n+21) 65 [.ref Z.KL,.int k,.int k'] Q s:=cg rfl<|zm h rfl y z A D E q
theorem Im (h:H Z s ts) (y:bY Z.C) (z:fP Z.W Z.C QU) (A:Den ts k u) (D:Den ts k' t) (E:asked u t->(u,t)∈QU)
 (q:∀s' ae r,H Z s' ae->ts<+:ae->Fr Z.m s s'->(r=true↔cj (MG Z.W Z.C true) u t)->Q (.bool r) s'):aq sc (n+21) 66 [.ref Z.KL,.int k,.int k'] Q s:=cg rfl<|zm h rfl y z A D E q
theorem Hm (h:H Z s ts) (hc:bY Z.C) (hq:fP Z.W Z.C QU) (hs:Den ts k u) (ht:Den ts k' t) (hu:ao u=ao t->jB QU u t)
 (q:∀s' ae r,H Z s' ae->ts<+:ae->Fr Z.m s s'->(r=true↔eL Z.W Z.C (MG Z.W Z.C false) u t)->Q (.bool r) s'):aq sc (n+20) 68 [.ref Z.KL,.int k,.int k'] Q s:=by
 refine cg rfl<|Ao (QU:=QU) (st:=false) h λs1 β x1 f1 hbk hbm=> ?_;have hN:=hq.len;refine oO (λm ρ s'=>E5 λ(ae:List Kd) (z j y) (c:Int)=>A8 (m=(QU.length+1-(c+1)).toNat) (-1<=c) (c<=z.length) (HB Z β false QU s' ae z j) (ts<+:ae) (Fr (β.m++Z.m) s s') (∀p∈j,MG Z.W Z.C false p.1 p.2) ((c= -1\/(c<=y.length/\y<+:z/\(∀p∈j,p∈y)/\r9 Z.W Z.C false y j/\(∀P,Agree P z j->¬eL Z.W Z.C P u t)))/\ρ=(e_ (eR Z.KL) (eI k) (eI k') (eR β.bk) (eI c)))) (m:=QU.length+1) ⟨ts,[],[],[],-1,rfl,aa rfl,aa rfl,x1,aF _,aI f1,(λ_=>bg),.inl rfl,rfl⟩ ?_ ?_
 ·unfold hX;exact oo 0x1bd0000000000001e8481f409081 hN
 rintro K m _ s' ⟨ae,z,j,y,c,hm,hc1,hcl,L,p',f',hg,G,rfl⟩ hK;obtain ⟨vp,b1,b2,b3⟩:=L.b.bo;have F:=b3.len;have Y:=pN L.b.nd L.b.pq;refine am L.b.bk rfl rfl<|dW b1 (oq 83 F Y hN)<|az (p:=c<vp.length) (λI=> ?_) λI=> ?_
 ·refine am L.b.bk rfl rfl<|dW b1 (oq 83 F Y hN)<|xd L hc hq hg λs2 ts2 bG A x2 p2 f2 pp2 g2 st2=> ?_;refine CF x2 hc hq.len ((hs.mono p').mono p2) ((ht.mono p').mono p2) hu λs3 ts3 E r3 x3 p3 f3 pp3 a3=> ?_;have fr3:Fr Z.m s s3:=HB.fin hbm ((f'.trans f2).trans f3);induction r3 with|true=>exact hK.ret (q s3 ts3 true x3.h ((p'.trans p2).trans p3) fr3 ⟨λ_=>((a3 (λa b=>(a,b)∈A) λp _=>Iff.rfl).1 rfl).mono λa b hab=>g2 _ hab,λ_=>rfl⟩)|false=>have h32:=pp2.length_le;have hno:∀P,Agree P E A->¬eL Z.W Z.C P u t:=λP hP hm=>Bool.noConfusion ((a3 P hP).2 hm);have h33:=pp3.length_le;exact hK.next ⟨(QU.length+1-((vp.length:Int)+1)).toNat,by (clear G;exact oo 0xab4e7041d341710fd6000eae577abc4ee3ac8f079085cd5fe280fcea0d156137368a50096 (by exact sT _) (by exact sT _) I F Y hm),ts3,E,A,bG,vp.length,rfl,oo 0x3003381,oo 0x34c06402008800384 F h32 h33,x3,(p'.trans p2).trans p3,(f'.trans f2).trans f3,g2,.inr ⟨oo 0x4d34d84e00383 F h32,pp3,x2.b.pv,st2,hno⟩,rfl⟩
 ·rcases G with G|⟨h1,h2,h3,h4,h5⟩
  ·exact (oo 0x301840313491 G I).elim
  ·have e:y=z:=h2.eq_of_length_le (oo 0x95baa41c1d2e92938013 F h1 I);subst e;refine q s' ae false L.h p' (HB.fin hbm f') ⟨nf,λhm=>dv hm (h5 _ (h4.iff hg h3))⟩
def oA (W:World) (C:aM) (u t:Kd):Prop:=t= .p 12\/Ch W u t\/(aX t=true/\∃w,dU W u w/\eL W C (MG W C false) w t)
theorem Cj (h:H Z s ts) (hc:bY Z.C) (hq:fP Z.W Z.C QU) (hs:Den ts k u) (ht:Den ts k' t) (hk:cQ u=true) (hu:∀w,dU Z.W u w->ao w=ao t->jB QU w t)
 (q:∀s' ae r,H Z s' ae->ts<+:ae->Fr Z.m s s'->(r=true↔oA Z.W Z.C u t)->Q (.bool r) s'):aq sc (n+21) 78 [.ref Z.KL,.int k,.int k'] Q s:=by
 refine cg rfl ?_;have A:=h.kt.fC ht (i:=12) (aa rfl);refine az (λe=> ?_) λe=> ?_
 ·exact bW e<|q s ts true h (aF _) .ay ⟨λ_=> .inl (A.1 (oq 76 e)),λ_=>rfl⟩
 have e0:t≠ .p 12:=λe'=>e (by have:=A.2 e';exact oq 77 this);refine vT h hs hk λs1 D vs l y p1 f1 E l1 d1 F ln1=> ?_;refine u8 E (vG y.kt.nd d1 (ht.mono p1)) ?_;refine az (λz=> ?_) λz=> ?_
 ·exact q s1 D true y p1 f1 ⟨λ_=> .inr (.inl ((F t).1 z)),λ_=>rfl⟩
 have z:¬Ch Z.W u t:=λa=>z ((F t).2 a);refine pG y (ht.mono p1)<|nq (λhi=> ?_) λhi=> ?_
 ·
  refine q s1 D false y p1 f1 ⟨nf,λhm=> ?_⟩;rcases hm with hm|hm|⟨hm,_⟩
  ·exact dv hm e0
  ·exact dv hm z
  ·exact Bool.noConfusion (hi.symm.trans hm)
 ·
  refine xN y (hs.mono p1) hk λs3 ts3 vs3 l3' h3 p3 f3 e3 ln3 d3 G I=> ?_;refine cV e3 (by rw [d3.len];exact oq 1 I)<|qC (λo3=>j7 (eR Z.KL) (eI k) (eI k') o3) (λae done s'=>A3 (H Z s' ae) (Fr Z.m s3 s') (∀b∈done,¬eL Z.W Z.C (MG Z.W Z.C false) b t)) none d3 ⟨h3,.ay,λ_=>bg⟩ (λ⟨_,f,_⟩=> .inl ⟨f.get (y.ef (g6 s1.length)) e3,rfl⟩) (λo3 J ⟨L,Y,a'⟩=>q _ _ false L ((p1.trans p3).trans J) ((f1.trans f3).trans Y) ⟨nf,λhm=> ?_⟩) ?_
  ·rcases hm with hm|hm|⟨_,w,w1,w2⟩
   ·exact dv hm e0
   ·exact dv hm z
   ·exact dv w2 (a' w ((G w).2 w1))
  ·rintro K ae done b kb s' o3 J hbl db ⟨L,Y,a'⟩ kn kr;have hb:dU Z.W u b:=(G b).1 hbl;have ht':=((ht.mono p1).mono p3).mono J;refine az (λE=>bW E<|kr (q s' ae true L ((p1.trans p3).trans J) ((f1.trans f3).trans Y) ⟨λ_=> .inr (.inr ⟨hi,b,hb,.inl ((dC L.kt.nd db ht').1 E)⟩),λ_=>rfl⟩)) λE=> ?_
   ·refine Hm L hc hq db ht' (hu b hb) λs4 ts4 r4 h4 p4 f4 a4=> ?_;induction r4 with|true=>exact kr (q s4 ts4 true h4 (((p1.trans p3).trans J).trans p4) (((f1.trans f3).trans Y).trans f4) ⟨λ_=> .inr (.inr ⟨hi,b,hb,a4.1 rfl⟩),λ_=>rfl⟩)|false=>exact kn _ p4 ⟨h4,Y.trans f4,λc hc'=>(aG hc').elim (a' c) λhm a=>Bool.noConfusion (a4.2 (aj hm▸a))⟩
def di (t:Kd):Kd:=if isNul t then (kids t).headD t else t
def vQ (W:World) (C:aM) (u t:Kd):Prop:=isNul u=false/\(u=di t\/(isVal (di t)=false/\((isVal u=true/\oA W C u (di t))\/(isVal u=false/\cj (MG W C false) u (di t)))))
theorem Kb (h:H Z s ts) (hc:bY Z.C) (hq:fP Z.W Z.C QU) (F:Den ts k u) (Y:Den ts k' t) (hk:cQ u=true) (hu:∀w,dU Z.W u w->ao w=ao (di t)->jB QU w (di t)) (ha:asked u (di t)->(u,di t)∈QU)
 (q:∀s' ae r,H Z s' ae->ts<+:ae->Fr Z.m s s'->(r=true↔vQ Z.W Z.C u t)->Q (.bool r) s'):aq sc (n+22) 77 [.ref Z.KL,.int k,.int k'] Q s:=by
 refine cg rfl ?_;obtain ⟨fs,g1,g2,_⟩:=h.wd.KL;refine am (h.get g1) rfl g2<|zX h.kt F<|im (λI=> ?_) λI=> ?_
 ·exact q s ts false h (aF _) .ay ⟨nf,λa=>by have:=a.1;exact Bool.noConfusion (I.symm.trans this)⟩
 ·
  have tail:∀{k2 o},Den ts k2 (di t)->wSs sc (n+21) (dr 2 (tl (bo 77))) (e_ (eR Z.KL) (eI k) (eI (k2:Nat)) (eR Z.kt) o) (fin Q) s:=by
   intro k2 o J;refine az (λe=> ?_) λe=> ?_
   ·exact q s ts true h (aF _) .ay ⟨λ_=>⟨I,.inl ((dC h.kt.nd F J).1 e)⟩,λ_=>rfl⟩
   have e:u≠di t:=λe'=>e ((dC h.kt.nd F J).2 e');refine pR h.kt J<|im (λhv=> ?_) λhv=> ?_
   ·
    refine q s ts false h (aF _) .ay ⟨nf,λa=> ?_⟩;rcases a.2 with a|⟨a,_⟩
    ·exact dv a e
    ·exact Bool.noConfusion (hv.symm.trans a)
   ·
    refine pR h.kt F<|im (λz=> ?_) λz=> ?_
    ·
     refine Cj h hc hq F J hk hu λs1 D r1 h1 p1 f1 a1=>q s1 D r1 h1 p1 f1 ?_;rw [a1];refine ⟨λa=>⟨I,.inr ⟨hv,.inl ⟨z,a⟩⟩⟩,λa=> ?_⟩;rcases a.2 with a|⟨_,⟨_,a⟩|⟨a,_⟩⟩
     ·exact dv a e
     ·exact a
     ·exact Bool.noConfusion (z.symm.trans a)
    ·
     refine vJ h hc hq F J ha λs1 D r1 h1 p1 f1 a1=>q s1 D r1 h1 p1 f1 ?_;rw [a1];refine ⟨λa=>⟨I,.inr ⟨hv,.inr ⟨z,a⟩⟩⟩,λa=> ?_⟩;rcases a.2 with a|⟨_,⟨a,_⟩|⟨_,a⟩⟩
     ·exact dv a e
     ·exact Bool.noConfusion (z.symm.trans a)
     ·exact a
  refine zX h.kt Y<|nq (λj=> ?_) λj=> ?_
  ·exact tail (by unfold di;rw [j];exact Y)
  ·
   refine oB h.kt Y λvs E=> ?_;have A:named t=true:=by (revert j;generalize t=z9;intro j;induction z9 using Kd.casesOn<;>first|rfl|contradiction)
   have hh:ao t=8:=by (revert j A;generalize t=z9;intro j A;induction z9 using Kd.casesOn<;>first|(exact g7.mp j)|contradiction)
   have hl:=h.wd.dh.wf t (h.U Y) A;rw [hh] at hl;have ea:hZ t=kids t:=by unfold hZ;rw [ep A]
   rw [ea] at E;obtain ⟨y,hy⟩:∃y,kids t= [y]:=by
    induction L:kids t using List.casesOn with|nil=>rw [L] at hl;contradiction|cons y r=>
     induction r with|nil=>exact ⟨y,rfl⟩|cons=>rw [L] at hl;exact dv (Nat.succ.inj hl) nofun
   rw [hy] at E;cases E with| @cons ky _ _ _ dy dn=>cases dn;exact bP (ll rfl)<|ah rfl rfl<|tail (by unfold di;rw [j,hy];exact dy)
end
variable {h:Nat}{hv:Bool}
theorem yO (a b) (_:V.pure a=true) (_:V.pure b=true):V.eqv a b=true↔a=b:=nz
def aJ:Kd->Int:=Kd.rec (λ_=>0) (λ_=> -2) (λ_ _=> -1) (λh=>h) (λh _ _=>h) (λh _ _ _ _=>h) λ_ _=>0
section
theorem zY {i} (h:V.pure v=true):V.pure (.tup [.int i,v])=true:=show (true&&(V.pure v&&true))=true from bQ rfl (bQ h rfl)
theorem Qa {i} {w} (h:V.pure v=true) (j:V.pure w=true):V.pure (.tup [.int i,v,w])=true:=show (true&&(V.pure v&&(V.pure w&&true)))=true from bQ rfl (bQ h (bQ j rfl))
theorem gr:lk hv t=true->V.pure (enc t)=true:=
 Kd.rec (λ_ _=>rfl) (λ_ _=>rfl) (λ_ i h=>zY (i h)) (λ_ _=>rfl) (λ_ _ i h=>zY (i (aZ h).2)) (λ_ _ _ i j h=>Qa (i (bq h).1.2) (j (bq h).2)) (λ_ _=>nf) t
theorem AL {i} (h:V.dep v=n):V.dep (.tup [.int i,v])=n+1:=by show max 0 (max (V.dep v) 0)+1=n+1;rw [Nat.max_zero,KF,h]
theorem Ka {i} {w} {m} (h:V.dep v=n) (j:V.dep w=m):V.dep (.tup [.int i,v,w])=max (n+1) (m+1):=by show max 0 (max (V.dep v) (max (V.dep w) 0))+1=max (n+1) (m+1);rw [Nat.max_zero,KF,h,j];exact (Nat.add_max_add_right n m 1).symm
theorem jF:lk hv t=true->V.dep (enc t)=dp t:=
 Kd.rec (λ_ _=>rfl) (λ_ _=>rfl) (λ_ i h=>AL (i h)) (λ_ _=>rfl) (λ_ _ i h=>AL (i (aZ h).2)) (λ_ _ _ i j h=>Ka (i (bq h).1.2) (j (bq h).2)) (λ_ _=>nf) t
theorem iz (g:cM h=true):0<h:=(nV g).1
theorem Bl:lk hv t=true->∃l,enc t= .tup (.int (aJ t)::l):=t.casesOn (λ_ _=>⟨_,rfl⟩) (λ_ _=>⟨_,rfl⟩) (λ_ _=>⟨_,rfl⟩) (λ_ _=>⟨_,rfl⟩) (λ_ _ _=>⟨_,rfl⟩) (λ_ _ _ _=>⟨_,rfl⟩) λ_=>nf
def num:Kd->Nat:=Kd.rec (λn=>n) (λ_=>0) (λ_ _=>0) (λ_=>0) (λ_ _ _=>0) (λ_ _ _ _ _=>0) λ_ _=>0
def dL:List Kd->Kd
 | [x]=> .a0 (num x)| [.p 0,y]=> .p (num y)| [.v 0,y]=> .ar y| [.v _,y]=> .v (num y)| [x,y]=> .a1 (num x) y| [x,y,z]=> .a2 (num x) y z|_=> .p 0
def dE:V->Kd:=V.rec (.p 0) (λ_=> .p 0) (λi=>Int.rec (λn=> .p n) (λn=> .v n) i) (λ_=> .p 0) (λ_ l=>dL l) (λ_=> .p 0) (λ_ _=> .p 0) (λ_=> .p 0) (.p 0) [] λ_ _ k l=>k::l
theorem AM:lk hv t=true->dE (enc t)=t:=
 Kd.rec (λ_ _=>rfl) (λ_ _=>rfl) (λ_ i h=>ej Kd.ar (i h)) (λ_ _=>rfl) (λg x i h=>(show dE (enc (.a1 g x))= .a1 g (dE (enc x)) from by obtain ⟨k,rfl⟩:=Nat.exists_eq_add_of_lt (iz (bq h).1.1);rfl).trans (ej (Kd.a1 g) (i (aZ h).2))) (λg x y i j h=>show Kd.a2 g (dE (enc x)) (dE (enc y))=Kd.a2 g x y from congr (ej (Kd.a2 g) (i (bq h).1.2)) (j (bq h).2)) (λ_ _=>nf) t
theorem kH {a b} (ha:lk hv a=true) (hb:lk hv b=true) (e:enc a=enc b):a=b:=(AM ha).symm.trans ((ej dE e).trans (AM hb))
theorem uO {a b} (ha:lk hv a=true) (hb:lk hv b=true):V.eqv (enc a) (enc b)=decide (a=b):=by
 have:=yO (enc a) (enc b) (gr ha) (gr hb);by_cases e:a=b
 ·subst e;rw [gs rfl];exact this.2 rfl
 ·rw [hI e];induction q:V.eqv (enc a) (enc b) using Bool.casesOn with|false=>rfl|true=>exact dv (kH ha hb (this.1 q)) e
theorem ch:lk hv t=true->lk true t=true:=
 Kd.rec (λ_ h=>h) (λ_ h=>(aZ h).2) (λ_ i h=>i h) (λ_ h=>h) (λ_ _ i h=>bQ (aZ h).1 (i (aZ h).2)) (λ_ _ _ i j h=>bQ (bQ (bq h).1.1 (i (bq h).1.2)) (j (bq h).2)) (λ_ _=>nf) t
theorem Ja:∀{l:List Kd},(∀x∈l,lk hv x=true)->V.il (l.map enc)=true:=by
 intro j;induction j with|nil=>intro _;exact rfl|cons x l k=>intro h;show (V.pure (enc x)&&V.il (l.map enc))=true;rw [(gr (h x ai)),k λy z=>h y (.tail _ z)];rfl
theorem pH (hl:∀x∈l,lk hv x=true) (j:lk hv t=true) (hd:dp t<=20):dj (enc t) (l.map enc)=some (decide (t∈l)):=by
 unfold dj;rw [ep (by rw [(gr j),Ja hl,jF j,gs hd];rfl)]
 congr 1
 induction l with|nil=>rfl|cons x l k=>
  rw [HG,JS,k λy z=>hl y (.tail _ z),uO (hl x ai) j];by_cases e:x=t
  ·subst e;simp
  ·simp [e,Ne.symm e]
end
section
theorem bA {R} (h:lk hv t=true) (q:R (.int (aJ t)) s):P 8 (index (enc t) (.int 0)) R s:=by obtain ⟨l,e⟩:=Bl h;rw [e];exact ah rfl rfl q
theorem kZ {R} (j:lk hv t=true) (k:lk hv u=true) (hd:dp t<=20) (q:R (decide (t=u)) s):P 1 (cC .eq (enc t) (enc u)) R s:=by
 have:(V.pure (enc t)&&V.pure (enc u)&&decide ((enc t).dep<=20))=true:=by rw [(gr j),(gr k),jF j,gs hd];rfl
 exact sI (uD this) (by rw [uO j k];exact q)
theorem zT {R} (j:lk hv t=true) (k:lk hv u=true) (hd:dp t<=20) (q:R (decide (t≠u)) s):P 1 (cC .ne (enc t) (enc u)) R s:=by
 have:(V.pure (enc t)&&V.pure (enc u)&&decide ((enc t).dep<=20))=true:=by rw [(gr j),(gr k),jF j,gs hd];rfl
 exact mW (uD this) (by rw [uO j k,<-decide_not];exact q)
theorem Pg (g:Nat):dj (.int (g)) [.int 8,.int 73,.int 74,.int 75,.int 76]=some (bF g):=by
 unfold dj;rw [ep (by rfl)]
 congr 1
 show ((V.int 8).eqv (.int g)||((V.int 73).eqv (.int g)||((V.int 74).eqv (.int g)||((V.int 75).eqv (.int g)||((V.int 76).eqv (.int g)||false)))))=_;rw [i_,i_,i_,i_,i_];unfold bF;by_cases h:g=8\/(73<=g/\g<=76)
 ·have:=h.imp id λh=>i4 h.1 h.2;rcases this with rfl|rfl|rfl|rfl|rfl<;>rfl
 ·have a:∀k:Int,k=8\/(73<=k/\k<=76)->decide (k=g)=false:=λk hk=>hI (oo 0x1c4105201212014104c4130248482828e9000024f90582132348b90024f93ac1136009a11 hk h);have j:(g==8)=false:=by simp;exact oo 0x690504a49813a4000093e416084c8821201 h
  have b:(decide (73<=g)&&decide (g<=76))=false:=by simp;exact oo 0x1a082120a492104e9000024f905821320d2200127c8501 h
  rw [j,b,a 8 (aa rfl),a 73 (aa rfl),a 74 (aa rfl),a 75 (aa rfl),a 76 (aa rfl)];rfl
theorem vh {g:Nat} {l} (h:cM g=true) (q:Q (.bool (bF g)) s):aq sc (n+1) 79 [.tup (.int g::l)] Q s:=by
 refine cg rfl<|ah rfl rfl<|h_ (Pg g) ?_;induction hg:bF g using Bool.casesOn with|true=>rw [hg] at q;exact q|false=>rw [hg] at q;apply ah rfl rfl;have:=iz h;apply aO (oq 15 this);rw [hI (by exact oq 15 this)];exact q
theorem i6 (h:lk hv t=true) (q:Q (.bool (isVal t)) s):aq sc (n+1) 79 [enc t] Q s:=by
 induction t with
 |p i=>refine cg rfl<|ah rfl rfl<|h_ rfl<|ah rfl rfl<|ah rfl rfl ?_;have h:=lD h;rw [show isVal (.p i)=decide ((i:Int)<12) from (JD _ _).symm.trans (decide_eq_decide.2 ⟨λz=>oo 0xd20a900020a3a0401 z,λz=>oq 84 z h⟩)] at q;exact q
 |v i=>apply cg rfl;apply ah rfl rfl;exact h_ rfl<|ah rfl rfl q
 |ar x=>apply cg rfl;apply ah rfl rfl;exact h_ rfl<|ah rfl rfl q
 |b x=>trivial|a0 g=>exact vh (uv h).1 q|a1 g x=>exact vh (wL h).1.1 q|a2 g x y=>exact vh (qS h).1.1.1 q
end
variable {ys:List V}{key:Str}{kk F:Nat}{o2 o4 o3:Option V}
abbrev O2 (Z:Zw):Prop:=∃j,Z.st Z.upd (.dict j)/\∀i,bf j (.int i)=true/\((aE j (.int i)=none/\∀h:Nat,i=h->Z.W.up h= [])\/∃h l:Nat,i=h/\aE j (.int i)=some (.ref l)/\Z.st l (.list ((Z.W.up h).map enc))/\l∉ [Z.wd,Z.KL,Z.aN])
abbrev Dq (Z:Zw):Prop:=∃j,Z.st Z.wy (.dict j)/\∀i,bf j (.int i)=true/\((¬(69<=i/\i<=71)/\aE j (.int i)=none)\/∃h:Nat,i=h/\69<=h/\h<=71/\aE j (.int i)=some (.tup ((Z.W.cq h).map .int)))
abbrev Qs (Z:Zw):Prop:=∃j,Z.st Z.un (.dict j)/\∀t,lk true t=true->dp t<=7->bf j (enc t)=true/\(aE j (enc t)).getD (enc t)=enc (Z.W.cu t)
structure Wl (Z:Zw):Prop where
 w:∃wk,Z.st Z.wd (.dict wk)/\(∀x,bf wk (.str x)=true)/\aE wk (.str "kt")=some (.ref Z.kt)/\aE wk (.str "made")=some (.ref Z.KN)/\
  aE wk (.str "ways")=some (.ref Z.wy)/\aE wk (.str "under")=some (.ref Z.un)/\aE wk (.str "up")=some (.ref Z.upd)/\
  aE wk (.str "num")=some (.tup [.int 0,.int Z.W.num])/\
  (Z.has=true->aE wk (.str "bounds")=some (.tup [.tup [.int (Z.C.ca 0),.tup ((Z.C.ac 0).map enc)],.tup [.int (Z.C.ca 1),.tup ((Z.C.ac 1).map enc)]]))
 up:O2 Z
 wy:Dq Z
 un:Qs Z
structure HL (Z:Zw) s ts:Prop where
 h:H Z s ts
 l:Wl Z
def vb (m:Nat):Kd->Bool:=Kd.rec (λ_=>true) (λi=>decide (i<m)) (λ_ b=>b) (λ_=>true) (λ_ _ b=>b) (λ_ _ _ b c=>b&&c) λ_ b=>b
section
theorem je (h:ys.length<=100000) (q:∀s',Fr [] s s'->s'[s.length]? =some (.list ys)->s.length<s'.length->Q (.ref s.length) s'):P 15 (if fits ys.length then bN (.list ys) else fail) Q s:=by refine ⟨?_⟩;rw [ep (by simp [fits,h])];exact (c_ q).h
theorem pj {as} (D:as.length<=100):∀(d n) (x) (Q) (s),lk hv x=true->dp x<=d->vb as.length x=true->
 (∀s',Fr [] s s'->Q (enc (sub as x)) s')->aq sc (n+d) 82 [enc x,.tup (as.map enc)] Q s:=by
 intro J;induction J with|zero=>intro n x Q s h hd j q;have L:=wY x;exact (oq 85 L hd).elim|succ d A=>
  intro n x Q s h hd j q;apply cg rfl;have rest:∀{i} {l r},i≠0->i≠-2->l.length<=2->enc (sub as x)= .tup (.int i::r)->r.length<=2->enc x= .tup (.int i::l)->
   (∀(Q) (s),(∀s',Fr [] s s'->Q r s')->WC sc (n+d) (.tup l) (false,l) [some (.tup (as.map enc))] (.fn 82 (.cons (.loc 0) (.cons (.loc 1) .nil))) .nil l Q s)->
   wSs sc (n+d) (ft 82).body (io (ft 82).slots [.tup (.int i::l),.tup (as.map enc)]) (fin Q) s:=by
   intro i l r Y h2 hl he E hx hc;refine ah rfl rfl<|aO Y<|ah rfl rfl<|aO h2<|ah rfl rfl<|nQ ⟨aa rfl,by simp,by simp;exact oo 0x18901869ff2001 hl⟩<|hc _ _ λz f1=> ?_;refine je (oq 10 E) λG f2 e2 l2=> ?_;refine oi e2 (oq 10 E)<|i0 (by simp;exact oo 0x189003403001 E) ?_;have:=q G (f1.trans f2);rw [he] at this;exact this
  induction x with
  |p i=>exact ah rfl rfl (q s .ay)|v i=>have I:=aa j;refine ah rfl rfl<|ah rfl rfl<|ah rfl rfl<|cA ⟨oq 0,oq 16 I D⟩ ?_ (q s .ay);rw [ko,show (i:Int).toNat=i from rfl,bZ I];show some (enc as[i])=some (enc (as.getD i (.v i)));rw [List.getD_eq_getElem?_getD,bZ I];rfl
  |b x=>contradiction|a0 g=>replace h:=aZ h;have z1:=iz h.1;refine rest (oq 17 z1) (oq 46) (hL _) rfl (hL _) rfl λQ s q=> ?_;exact g8 trivial (q s .ay)|ar x=>have hd:dp x+1<=d+1:=hd;refine rest (r:= [enc (sub as x)]) (aa rfl) (aa rfl) (ll rfl) rfl (ll rfl) rfl λQ s q=> ?_;refine gS trivial ?_;refine A n x _ _ h (oq 27 hd) j λz f1=> ?_;exact g8 trivial (q z f1)|a1 g x=>have hd:dp x+1<=d+1:=hd;replace h:=bq h;have z2:=iz h.1.1;refine rest (r:= [enc (sub as x)]) (oq 17 z2) (oq 46) (ll rfl) rfl (ll rfl) rfl λQ s q=> ?_;refine gS trivial ?_;refine A n x _ _ h.2 (oq 27 hd) j λz f1=> ?_;exact g8 trivial (q z f1)|a2 g x y=>have hd:max (dp x+1) (dp y+1)<=d+1:=hd;replace h:=gJ h;have z3:=iz h.1.1.1;replace j:=aZ j;refine rest (r:= [enc (sub as x),enc (sub as y)]) (oq 17 z3) (oq 46) (ll rfl) rfl (ll rfl) rfl λQ s q=> ?_;refine gS trivial ?_;refine A n x _ _ h.1.2 (oq 86 (by exact sM _ _) hd) j.1 λz f1=> ?_;refine gS trivial ?_;refine A n y _ _ h.2 (oq 87 (by exact sM _ _) hd) j.2 λG f2=> ?_;exact g8 trivial (q G (f1.trans f2))
theorem Wl.get (l:Wl Z) (h:H Z s ts) {R} {wk} (e:Z.st Z.wd (.dict wk)) (hk:∀x,bf wk (.str x)=true) (hg:aE wk (.str key)=some v) (q:R v s):P 8 (index (.ref Z.wd) (.str key)) R s:=
 eK (h.get e) (hk _) hg q
theorem sJ {f:Kd->V} (hl:∀t∈l,lk true t=true) (j:lk true t=true) (hd:dp t<=7):bf (l.map λt=>(enc t,f t)) (enc t)=true:=by
 have y:∀t,lk true t=true->kindOf (enc t)=2:=λt j=>by obtain ⟨r,e⟩:=Bl j;rw [e];rfl
 unfold bf keyOk;rw [gr j,jF j,gs hd];show (List.all _ _)=true;rw [E'];intro p hp;obtain ⟨x,z,rfl⟩:=g5.mp hp;rw [y x (hl x z),y t j];rfl
theorem O' {f g:Kd->V} (h:∀x∈l,f x=f t->x=t):aV (l.map λx=>(f x,g x)) (f t) (g t)=(if t∈l then l else l++ [t]).map λx=>(f x,g x):=by
 have:=mQ (g:=g) h;by_cases e:t∈l
 ·rw [ep e] at this⊢;unfold aV;rw [this];rw [KI];refine JR λx j=> ?_;show (if f x=f t then (f x,g t) else (f x,g x))=(f x,g x);by_cases q:f x=f t
  ·rw [ep q,h x j q]
  ·rw [fm q]
 ·rw [fm e] at this⊢;rw [qR this,lh];rfl
abbrev NU (Z:Zw) (s:St) (ts:List Kd):Prop:=∃af,s[Z.KN]? =some (.dict af)/\Md af ts
structure HK (Z:Zw) s ts:Prop where
 kt:Kt Z.toKz s ts
 md:NU Z s ts
 KN:Z.KN∉Z.m
 bL:∀t∈Z.U,∀x∈kids t,x∈Z.U
 w:∃wk,s[Z.wd]? =some (.dict wk)/\(∀x,bf wk (.str x)=true)/\aE wk (.str "kt")=some (.ref Z.kt)/\aE wk (.str "made")=some (.ref Z.KN)
 wm:Z.wd∉Z.KN::Z.m
theorem HK.step {s'} {ae} (h:HK Z s ts) (K:Kt Z.toKz s' ae) (p:ts<+:ae) (f:Fr Z.m s s'):HK Z s' ae:=by obtain ⟨af,j,y⟩:=h.md;obtain ⟨wk,z,A⟩:=h.w;exact ⟨K,⟨af,f.get h.KN j,y.mono p⟩,h.KN,h.bL,⟨wk,f.get (λe=>h.wm (.tail _ e)) z,A⟩,h.wm⟩
theorem HK.new (h:HK Z s ts) (f:Fr [] s s'):HK Z s' ts:=h.step (h.kt.new f) (aF _) (aI f)
theorem HL.hk (h:HL Z s ts):HK Z s ts:=by obtain ⟨wk,j,y,w3,z,_⟩:=h.l.w;exact ⟨h.h.kt,h.h.md,h.h.wd.KN,h.h.wd.dh.bL,⟨wk,h.h.get j,y,w3,z⟩,j.2⟩
theorem HK.gm {R} (h:HK Z s ts) (r:R (.ref Z.KN) s):P 8 (index (.ref Z.wd) (.str "made")) R s:=by obtain ⟨wk,j,y,w3,z⟩:=h.w;exact eK j (y _) z r
theorem HK.gk {R} (h:HK Z s ts) (r:R (.ref Z.kt) s):P 8 (index (.ref Z.wd) (.str "kt")) R s:=by obtain ⟨wk,j,y,w3,z⟩:=h.w;exact eK j (y _) w3 r
def Cd:Ss:=(.cons (.k6 (.idx (.loc 0) (.lit (.str "made"))) (.loc 1) (.loc 3)) (dr 1 (bo 81)))
def O1:Ss:=(be (be (be (dr 1 (bd (bo 81))))))
theorem Kh {x:Kd} (h:HK Z s ts) (d:Den ts kk x) (hl:lk true x=true) (hd:dp x<=7) (q:∀s',HK Z s' ts->Fr [Z.KN] s s'->Q (.int kk) s'):
 wSs sc F Cd (e_ (eR Z.wd) (some (enc x)) o2 (eI (kk:Nat)) o4) (fin Q) s:=by
 obtain ⟨af,m1,l,E,z,G⟩:=h.md;have A:=gY h.kt.nd d (eD d.mem);have I:=gR E λt j=>(z t j).1;have z0:=h.kt.len;refine h.gm<|eF m1 (by rw [G];exact sJ (λt j=>(z t j).2) hl hd) (by rw [G,aC];exact oq 25 z0 I) λs2 f2 D l2=> ?_;rw [G,A,O' λy J e=>kH (z y J).2 hl e] at D;obtain ⟨L,n1,n2,n3,n4⟩:∃L,L.Nodup/\(∀t∈L,t∈ts/\lk true t=true)/\(if x∈l then l else l++ [x])=L/\x∈L:=by
  by_cases e:x∈l
  ·exact ⟨l,E,z,ep e,e⟩
  ·exact ⟨l++ [x],lN E e,λt j=>(aG j).elim (z t) λj=>by rw [aj j];exact ⟨d.mem,hl⟩,fm e,aS _ ai⟩
 rw [n3] at D;have Y:Z.kt≠Z.KN:=λe=>by have:=h.kt.kt;rw [e,m1] at this;exact O.noConfusion (aP this)
 have h2:HK Z s2 ts:=by obtain ⟨wk,w1,w2⟩:=h.w;exact ⟨h.kt.fr f2 λi hi hj=>(aR hi).elim (λe=>Y (e.symm.trans (aj hj))) λhi=>h.KN (aj hj▸hi),⟨_,D,L,n1,n2,rfl⟩,h.KN,h.bL,⟨wk,f2.get (λe=>h.wm (aj e▸ai)) w1,w2⟩,h.wm⟩
 refine h2.gm<|eK D (sJ (λt j=>(n2 t j).2) hl hd) ?_ (q s2 h2 f2);rw [mQ λy J e=>kH (n2 y J).2 hl e,ep n4,A]
theorem ui {x} (h:HK Z s ts) (hu:x∈Z.U) (hl:lk true x=true) (hn:named x=true) (hh:aJ x=ao x) (he:enc x= .tup (.int (aJ x)::(kids x).map enc))
 (hc:∀(Q),(∀s' ae ks,HK Z s' ae->ts<+:ae->Fr (Z.KN::Z.m) s s'->aD ae ks (kids x)->Q ks s')->WC sc (F+7) (.tup ((kids x).map enc)) (false,(kids x).map enc) [some (.ref Z.wd)] (.fn 81 (.cons (.loc 1) (.cons (.loc 0) .nil))) .nil ((kids x).map enc) Q s)
 (q:∀G y kk o4,HK Z G y->ts<+:y->Fr (Z.KN::Z.m) s G->Den y kk x->K .next (e_ (eR Z.wd) (some (enc x)) (eR Z.kt) (eI (kk:Nat)) o4) G):
 wSs sc (F+7) O1 (e_ (eR Z.wd) (some (enc x)) (eR Z.kt) o3 o4) K s:=by
 have z:=nY x;have sf:∀{R},R (.tup ((kids x).map enc)) s->P 9 (sliceFrom (enc x) (.int 1)) R s:=λr=>by rw [he];exact nQ ⟨aa rfl,Eb 1 _,by rw [iZ,aC];exact oq 47 z⟩ r
 refine sf<|hc _ λG y ks h1 p1 f1 J=> ?_;have E:=J.len;refine je (oq 2 E z) λs2 f2 e2 l2=> ?_;have I:=h1.new f2;refine oi e2 (oq 2 E z)<|i6 hl ?_;have up:∀{D},Fr Z.m s2 D->Fr (Z.KN::Z.m) s D:=λf=>(f1.trans (aI f2)).trans (f.sub λj hj=> .tail _ hj);refine im (λhv=> ?_) λhv=> ?_
 ·apply bA hl;rw [hh];exact I7 I.kt hu hn hv rfl J λD A L Y p3 f3 d3=>q D A L _ (I.step Y p3 f3) (p1.trans p3) (up f3) d3
 ·apply bA hl;rw [hh];exact iA I.kt hu hn hv rfl J λD A L Y p3 f3 d3=>q D A L _ (I.step Y p3 f3) (p1.trans p3) (up f3) d3
theorem q3:∀(d n) (x) (Q) (s) (ts),HK Z s ts->x∈Z.U->lk true x=true->dp x<=7->dp x<=d->
 (∀s' ae k,HK Z s' ae->ts<+:ae->Fr (Z.KN::Z.m) s s'->Den ae k x->Q (.int (k:Nat)) s')->aq sc (n+d+7) 81 [.ref Z.wd,enc x] Q s:=by
 intro zi;induction zi with|zero=>intro n x Q s ts h hu hl hd Y q;have z0:=wY x;exact (oq 85 z0 Y).elim|succ d ih=>
  intro n x Q s ts h hu hl hd Y q;apply cg rfl;obtain ⟨af,m1,l,m2,m3,m4⟩:=h.md;have inj:∀y∈l,enc y=enc x->y=x:=λy hy e=>kH (m3 y hy).2 hl e;refine h.gm<|mA m1 (by rw [m4];exact sJ (λt ht=>(m3 t ht).2) hl hd) ?_;have hg:aE af (enc x)=if x∈l then some (V.int (ix ts x)) else none:=by rw [m4,mQ (g:=λt=>V.int (ix ts t)) inj]
  rw [hg];by_cases hx:x∈l
  ·rw [ep hx] at hg⊢;exact h.gm<|eK m1 (by rw [m4];exact sJ (λt ht=>(m3 t ht).2) hl hd) hg (q s ts _ h (aF _) .ay (eD (m3 x hx).1))
  rw [fm hx];refine h.gk<|bA hl ?_;have up:∀{I s2},Fr Z.m I s2->Fr (Z.KN::Z.m) I s2:=λf=>f.sub λj hj=> .tail _ hj;have tail:∀{I D kk o2 o4},HK Z I D->ts<+:D->Fr (Z.KN::Z.m) s I->Den D kk x->wSs sc (n+d+7) Cd (e_ (eR Z.wd) (some (enc x)) o2 (eI (kk:Nat)) o4) (fin Q) I:=λJ p1 f1 G=>
   Kh J G hl hd λs' h' f'=>q s' _ _ h' p1 (f1.trans (f'.sub λj hj=>aj hj▸ai)) G
  induction x with
  |b x=>contradiction|p i=>have hi:i<16:=rk (lD hl).2 (by decide);exact ah rfl rfl<|tail h (aF _) .ay (h.kt.prim hi)
  |v i=>refine bA hl<|ah rfl rfl<|tN h.kt hu λI D k1 K1 p1 f1 G=> ?_;exact tail (h.step K1 p1 f1) p1 (up f1) G
  |ar y=>have L:dp y+1<=7:=hd;have E:dp y+1<=d+1:=Y;refine bA hl<|bA hl<|ah rfl rfl<|ih n y _ s ts h (h.bL _ hu y ai) hl (oq 88 L) (oq 27 E) λI D k1 J p1 f1 G=> ?_;refine Gv J.kt hu G λs2 ts2 k2 K2 p2 f2 d2=> ?_;exact tail (J.step K2 p2 f2) (p1.trans p2) (f1.trans (up f2)) d2
  |a0 g=>have A:=hl;replace A:=aZ A;have z1:=iz A.1;refine aO (p:=(g:Int)=0) (oq 15 z1)<|bA hl<|bA hl<|ui (F:=n+d) h hu hl rfl rfl rfl (λQ q=> ?_) λI D kk o4 J p1 f1 G=>tail J p1 f1 G;exact g8 trivial (q s ts [] h (aF _) .ay .nil)
  |a1 g y=>have L:dp y+1<=7:=hd;have E:dp y+1<=d+1:=Y;have A:=hl;replace A:=bq A;have z2:=iz A.1.1;apply aO (p:=(g:Int)=0) (oq 15 z2);apply bA hl;refine bA hl<|ui (F:=n+d) h hu hl rfl rfl rfl (λQ q=> ?_) λI D kk o4 J p1 f1 G=>tail J p1 f1 G;refine gS trivial<|ih n y _ s ts h (h.bL _ hu y ai) A.2 (oq 88 L) (oq 27 E) λI D k1 J p1 f1 G=> ?_;exact g8 trivial (q I D [.int k1] J p1 f1 (.cons G .nil))
  |a2 g y z=>have L:max (dp y+1) (dp z+1)<=7:=hd;have E:max (dp y+1) (dp z+1)<=d+1:=Y;have A:=hl;replace A:=gJ A;have z3:=iz A.1.1.1;apply aO (p:=(g:Int)=0) (oq 15 z3);apply bA hl;apply bA hl;refine ui (F:=n+d) h hu hl rfl rfl rfl (λQ q=> ?_) λI D kk o4 J p1 f1 G=>tail J p1 f1 G;refine gS trivial<|ih n y _ s ts h (h.bL _ hu y ai) A.1.2 (oo 0x63e85cb0c22008a638e90e003 (by exact sM _ _) L) (oq 86 (by exact sM _ _) E) λI D k1 J p1 f1 G=> ?_;refine gS trivial ?_;refine ih n z _ I D J (h.bL _ hu z bn) A.2 (oo 0x63ec28a1922005465ce90e003 (by exact sM _ _) L) (oq 87 (by exact sM _ _) E) λs2 ts2 k2 h2 p2 f2 d2=> ?_;exact g8 trivial (q s2 ts2 [.int k1,.int k2] h2 (p1.trans p2) (f1.trans f2) (.cons (G.mono p2) (.cons d2 .nil)))
theorem ou (d n) x Q s ts (h:HL Z s ts) (z:x∈Z.U) (hl:lk true x=true) (hd:dp x<=7) (j:dp x<=d)
 (q:∀s' ae k,HL Z s' ae->ts<+:ae->Fr (Z.KN::Z.m) s s'->Den ae k x->Q (.int (k:Nat)) s'):aq sc (n+d+7) 81 [.ref Z.wd,enc x] Q s:=
 q3 d n x Q s ts h.hk z hl hd j λs' ae k y p f d'=>q s' ae k (⟨⟨y.kt,h.h.fr.trans f,h.h.pre.trans p,h.h.wd,y.md⟩,h.l⟩) p f d'
end
variable {z:Kd}{ρ:ag}{ab:List Kd}
inductive bj (W:World) t:Kd->Prop
 |refl:bj W t t
 |step {u x:Kd}:bj W t u->x∈W.par u->bj W t x
theorem ym {x} (j:x∈W.up h):(lk false x=true/\dp x<=3)\/(x= .a1 69 (.v 0)/\(h=72\/h=74)):=
 iC (p:=λh x=>(lk false x=true/\dp x<=3)\/(x= .a1 69 (.v 0)/\(h=72\/h=74))) (aa rfl) j
theorem Mu {x}:lk false x=true->op x=0:=by
 intro h;induction x with|p=>rfl|v i=>trivial|ar x j=>exact j h|a0=>rfl|a1 g x j=>replace h:=bq h;exact j h.2|a2 g x y j A=>replace h:=bq h;show max (op x) (op y)=0;rw [j h.1.2,A h.2];rfl|b x=>trivial
theorem oj {x} (h:lk false x=true):lk hv x=true:=by
 induction hv with|true=>exact ch h|false=>exact h
theorem O4 {m} {x}:op x=0->vb m x=true:=
 Kd.rec (λ_ _=>rfl) (λ_ h=>nomatch h) (λ_ i h=>i h) (λ_ _=>rfl) (λ_ _ i h=>i h) (λ_ _ _ i j h=>bQ (i (Nat.max_eq_zero_iff.mp h).1) (j (Nat.max_eq_zero_iff.mp h).2)) (λ_ i h=>i h) x
theorem eo {x}:lk hv x=true->named x=true->arity (ao x)=(kids x).length:=
 x.casesOn (λ_ _=>nf) (λ_ _=>nf) (λ_ _=>nf) (λ_ h _=>(uv h).2) (λ_ _ h _=>(wL h).1.2) (λ_ _ _ h _=>(qS h).1.1.2) λ_=>nf
theorem dK {x}:lk hv x=true->y∈kids x->lk hv y=true:=
 x.casesOn (λ_ _ h=>(ba h).elim) (λ_ _ h=>(ba h).elim) (λ_ h m=>aj m▸h) (λ_ _ h=>(ba h).elim) (λ_ _ h m=>aj m▸(aZ h).2) (λ_ _ _ h m=>(jI m).elim (·▸(bq h).1.2) (·▸(bq h).2)) λ_=>nf
theorem vB {x}:y∈kids x->dp y<=dp x:=
 x.casesOn (λ_=>bg) (λ_=>bg) (λ_ m=>aj m▸tu _) (λ_=>bg) (λ_ _ m=>aj m▸tu _)
  (λ_ _ _ m=>(jI m).elim (·▸df (tu _) (JK _ _)) (·▸df (tu _) (JP _ _))) λ_ m=>aj m▸ .refl
theorem xm (G:lk hv y=true) (I:named y=true) (hz:z∈W.up (ao y)):
 lk hv (sub (kids y) z)=true/\dp (sub (kids y) z)<=max 3 (dp y)/\lk true z=true/\vb (kids y).length z=true/\dp z<=3:=by
 rcases ym hz with ⟨D,A⟩|⟨rfl,A⟩
 ·have ho:=Mu D;rw [d8 ho];exact ⟨oj D,oq 89 (by exact sM _ _) A,oj D,O4 ho,A⟩
 ·have ha:=eo G I;rw [oy A] at ha;obtain ⟨w,j⟩:∃w,kids y= [w]:=by
   induction hk:kids y using List.casesOn with
   |nil=>rw [hk] at ha;trivial
   |cons w r=>induction r with
    |nil=>exact ⟨w,rfl⟩|cons=>rw [hk] at ha;simp at ha
  have E:w∈kids y:=by rw [j];exact ai
  have hd:dp w+1<=dp y:=by
   induction y using Kd.casesOn<;>first|cases I|skip
   ·cases j
   ·cases j;exact .refl
   ·cases j
  rw [j];have F:=dK G E;exact ⟨F,by show dp w+1<=_;exact oo 0x95e23cf33f7e9dc8db019003 (by exact sM _ _) hd,rfl,rfl,aa rfl⟩
theorem mF {x} (D:lk hv y=true) (j:x∈W.par y):lk hv x=true/\dp x<=max 3 (dp y):=by
 have nc:named y=true->lk hv x=true/\dp x<=max 3 (dp y):=λA=>by rw [eT A] at j;obtain ⟨z,hz,rfl⟩:=g5.mp j;have:=xm D A hz;exact ⟨this.1,this.2.1⟩
 induction y with
 |p n=>rcases mm j with ⟨_,rfl⟩|rfl<;>exact ⟨rfl,by show 1<=_;exact oq 28 (by exact sM _ _)⟩
 |v i=>trivial|ar z=>replace j:=aj j;subst j;exact ⟨rfl,by show 1<=_;exact oq 28 (by exact sM _ _)⟩|b z=>trivial|a0 g=>exact nc rfl|a1 g z=>exact nc rfl|a2 g z w=>exact nc rfl
section
theorem Bs {i o x D} {Q}
 (ho:ρ[o]? =some (some (.ref x))) (Y:i≠o) (hi:i<ρ.length) (G:s[D]? =some (.list (ab.map enc))) (hne:D≠x) (hx:s[x]? =some (.list (l.map enc))) (I:l.length+ab.length<=100000)
 (hl:∀t∈l,lk hv t=true) (J:∀t∈ab,lk hv t=true/\dp t<=20) (nd:l.Nodup)
 (q:∀s' v j,Fr [x] s s'->s'.length=s.length->s'[x]? =some (.list (j.map enc))->l<+:j->j.Nodup->(∀u,u∈j↔u∈l\/u∈ab)->Q .next (ρ.set i v) s'):
 WF sc n (.ref D) (false,ab.map enc) [i] false (.cons (.ite (.cmp .gA (.loc i) (.loc o)) (.cons (.expr (.jf (.loc o) 0 (.cons (.loc i) .nil))) .nil) .nil) .nil) (ab.map enc) ρ Q s:=by
 suffices go:∀v,WF sc n (.ref D) (false,ab.map enc) [i] false (.cons (.ite (.cmp .gA (.loc i) (.loc o)) (.cons (.expr (.jf (.loc o) 0 (.cons (.loc i) .nil))) .nil) .nil) .nil) (ab.map enc) (ρ.set i v) Q s from List.set_getElem_self hi▸go ρ[i]
 intro v0;refine yn (λv=>ρ.set i v) (λdone s'=>E1 λj=>A7 (Fr [x] s s') (s'.length=s.length) (s'[x]? =some (.list (j.map enc))) (l<+:j) j.Nodup (∀u,u∈j↔u∈l\/u∈done) (j.length<=l.length+done.length)) v0 ⟨l,.ay,rfl,hx,aF _,nd,λu=>⟨.inl,λh=>h.elim id bg⟩,.refl⟩
  (λ⟨_,f,_,_,_,_,_,_⟩=> .inl ⟨f.ne hne G,rfl⟩) (λv ⟨j,f,L,e,p,E,hm,_⟩=>q _ v j f L e p E hm) ?_
 rintro K done z r s' v ed ⟨j,f,L,e,p,E,hm,A⟩ kn _;have hz:=J z (ed▸aS _ ai);have hl':∀t∈j,lk hv t=true:=λt ht=>((hm t).1 ht).elim (hl t) λh=>(J t (ed▸aA _ h)).1;have hd:j.length<100000:=by have:=ej List.length ed;rw [aL,iZ] at this;exact oo 0xc1318d381316dd64f5482085 this I A
 show wSs _ _ _ ((ρ.set i v).set i (some (enc z))) _ _;rw [List.set_set];have g1:(ρ.set i (some (enc z)))[o]?.join=some (.ref x):=by rw [JN Y,ho];rfl
 have g2:(ρ.set i (some (enc z)))[i]?.join=some (enc z):=by rw [KA hi];rfl
 refine mV g2 (mV g1 (zP e (pH hl' hz.1 hz.2) ?_));have len:∀{a},a<=l.length+done.length->a+1<=l.length+(done++ [z]).length:=λh=>by rw [aL];exact wi h
 by_cases F:z∈j
 ·rw [gs F];refine kn _ ⟨j,f,L,e,p,E,λu=> ?_,Nat.le_of_succ_le (len A)⟩;rw [hm u,JC,w4];exact ⟨λh=>h.imp id .inl,λh=>h.elim .inl λh=>h.elim .inr λh=>(hm u).1 (h▸F)⟩
 ·rw [hI F];refine mV g1 (ee e (mV g2 (eg e (by rw [aC];exact oo 0xc6821a001 hd) λs2 f2 e2 l2=> ?_)));refine kn _ ⟨j++ [z],f.trans f2,l2.trans L,by rw [e2,lh];rfl,p.trans ⟨[z],rfl⟩,lN E F,λu=> ?_,by rw [aL];exact len A⟩;rw [JC,JC,w4,hm u,or_assoc]
end
variable {x2 x3:Option V}{l':List Kd}
section
theorem Mp (h:named y=true):enc y= .tup (.int (aJ y)::(kids y).map enc):=by (revert h;generalize y=j;intro h;induction j using Kd.casesOn<;>first|rfl|trivial)
theorem CT (h:named y=true):aJ y=ao y:=by (revert h;generalize y=j;intro h;induction j using Kd.casesOn<;>first|rfl|trivial)
theorem Lw (h:ak y=true):W.par y= []:=by (revert h;generalize y=j;intro h;induction j using Kd.casesOn<;>first|rfl|trivial)
theorem HJ (h:ak y=true):aJ y= -2:=by (revert h;generalize y=j;intro h;induction j using Kd.casesOn<;>first|rfl|trivial)
theorem MO (h:HL Z s ts) (hy:lk hv y=true) (A:named y=true\/ak y=true) (h0:ρ[0]? =some (some (.ref Z.wd))) (h4:ρ[4]? =some (some (enc y)))
 (q:∀s',Fr [] s s'->s.length<s'.length->∀a,s.length<=a->s'[a]? =some (.list ((Z.W.par y).map enc))->Q (.ref a) s'):
 wE sc (n+4) ρ (.comp [4] "z" (.fn 82 (.cons (.loc 0) (.cons (.pg (.loc 1) (.lit (.int 1))) .nil))) (.jf (.idx (.loc 0) (.lit (.str "up"))) 2 (.cons (.idx (.loc 4) (.lit (.int 0))) (.cons (.lst .nil) .nil))) .nil) Q s:=by
 obtain ⟨wk,w1,w2,_,_,_,_,w3,_⟩:=h.l.w;obtain ⟨uk,u1,u2⟩:=h.l.up;have j0:ρ[0]?.join=some (.ref Z.wd):=by rw [h0];rfl
 have j4:ρ[4]?.join=some (enc y):=by rw [h4];rfl
 show nU (ρ[0]?.join) _ s;rw [j0];refine h.l.get h.h w1 w2 w3<|pJ (h.h.get u1) ?_;show nU (ρ[4]?.join) _ s;rw [j4];refine bA hy<|c_ λJ f1 e1 l1=> ?_;have u3:=u2 (aJ y);apply oU (f1.gn (h.h.get u1)) u3.1;rcases u3.2 with ⟨L,g2⟩|⟨g,l,L,g2,g3,_⟩
 ·rw [L];refine cV e1 (aa rfl)<|g8 (.inl ⟨e1,rfl⟩)<|je (aa rfl) λY f2 e2 l2=> ?_;apply q Y (f1.trans f2) (i1 l1 f2.len) J.length f1.len;rw [(A.elim (λA=>by rw [eT A,g2 (ao y) (CT A)];rfl) Lw)];exact e2
 ·rw [g2];have j:=A.resolve_right λhv=>Int.noConfusion ((HJ hv).symm.trans L);rw [(Int.ofNat.inj (L.symm.trans (CT j)))] at g3;have D:=f1.gn (h.h.get g3);have E:=tm (W:=Z.W) (h:=ao y);have F:=nY y;apply cV D (by rw [aC];exact oq 10 E);show WC sc (n+4) (.ref l) _ [ρ[4]?.join] _ _ _ _ J;rw [j4];refine vk (λdone ys left s'=>Fr [] J s'/\done++left=Z.W.up (ao y)/\ys=done.map λz=>enc (sub (kids y) z)) _ [] [] J ⟨.ay,rfl,rfl⟩ (λ_ _ _ s' h=> .inl ⟨h.1.gn D,rfl⟩) ?_ ?_
  ·rintro done zs s' ⟨G,I,ey⟩;rw [hR] at I;rw [List.nil_append] at ey;rw [ey,I];refine je (by rw [aC];exact oq 10 E) λY f2 e2 l2=> ?_;apply q Y ((f1.trans G).trans f2) (i1 l1 (G.trans f2).len) s'.length (df f1.len G.len);rw [e2,eT j,KI];rfl
  ·rintro done ys z left s' ⟨G,I,ey⟩;obtain ⟨_,_,z1,z2,z3⟩:=xm hy j (I▸aS _ ai:z∈Z.W.up (ao y));have sf:∀{R},R (.tup ((kids y).map enc)) s'->P 9 (sliceFrom (enc y) (.int 1)) R s':=λr=>by rw [Mp j];exact nQ ⟨aa rfl,Eb 1 _,by rw [iZ,aC];exact oq 47 F⟩ r
   apply sf;exact pj (hv:=true) (oo 0xc4808a001 F) 3 (n+1) z _ s' z1 z3 z2 λY f2=>⟨G.trans f2,by rw [DZ];exact I,by rw [ey,lh];rfl⟩
def Da:S:= .ite (.cmp .eq (.idx (.loc 4) (.lit (.int 0))) (.lit (.int 0))) (bd (dr 2 (bd (dr 2 (bo 83))))) (be (dr 2 (bd (dr 2 (bo 83)))))
theorem Je (h:HL Z s ts) (A:lk hv y=true)
 (q:∀D B (ab:List Kd),Fr [] s D->s.length<=B->D[B]? =some (.list (ab.map enc))->(∀z∈ab,z∈Z.W.par y\/z=y)->(∀z∈Z.W.par y,z∈ab)->ab.length<=10->K .next (dY (eR Z.wd) x1 x2 x3 (some (enc y)) (eR B) o6) D):
 wS sc (n+4) Da (dY (eR Z.wd) x1 x2 x3 (some (enc y)) o5 o6) K s:=by
 have nm:named y=true\/ak y=true->aJ y≠0->aJ y≠-1->wS sc (n+4) Da (dY (eR Z.wd) x1 x2 x3 (some (enc y)) o5 o6) K s:=λJ L Y=>by exact bA A<|aO L<|bA A<|aO Y<|MO (ρ:=dY (eR Z.wd) x1 x2 x3 (some (enc y)) o5 o6) h A J rfl rfl λD f2 l2 B hB eB=>q D B (Z.W.par y) f2 hB eB (λ_=> .inl) (λ_ h=>h) (df BQ (aa rfl))
 have F:∀{g},cM g=true->(g:Int)≠0/\(g:Int)≠-1:=λg=>by have z0:=iz g;exact oo 0x181440c0340a01a281 z0
 induction y with
 |b y=>contradiction|p j=>
  have I:=lD A;refine ah rfl rfl<|ah rfl rfl<|az (λE=> ?_) λE=> ?_
  ·refine c_ λD f2 G l2=> ?_;have hp:Z.W.par (.p j)= [.a0 2]:=Bj (oq 84 E I);exact q D _ [.a0 2] f2 (g6 _) G (λz hz=> .inl (hp▸hz)) (λz hz=>hp▸hz) (ll rfl)
  ·refine c_ λD f2 G l2=> ?_;have:j=12\/j=13:=oo 0xd00829001090084804e81086a000414d423a1301 I E;rcases this with rfl|rfl
   ·exact q D _ [.p 12] f2 (g6 _) G (λz hz=> .inr (aj hz)) (λz hz=>(ba hz).elim) (ll rfl)
   ·exact q D _ [.p 12] f2 (g6 _) G (λz hz=> .inl hz) (λz hz=>hz) (ll rfl)
 |ar y=>apply bA A;exact bA A<|c_ λD f2 G l2=>q D _ [.a0 5] f2 (g6 _) G (λz hz=> .inl hz) (λz hz=>hz) (ll rfl)
 |v j=>exact nm (.inr rfl) (show (-2)≠0 by decide) (show (-2:Int)≠-1 by decide)|a0 g=>exact nm (.inl rfl) (F (aZ A).1).1 (F (aZ A).1).2|a1 g y=>exact nm (.inl rfl) (F (bq A).1.1).1 (F (bq A).1.1).2|a2 g y w=>exact nm (.inl rfl) (F (gJ A).1.1.1).1 (F (gJ A).1.1.1).2
abbrev L5 (W:World) (l:List Kd) (i:Nat):Prop:=∀(j:Nat) u,j<i->l[j]? =some u->∀z∈W.par u,z∈l
structure qB (W:World) (U:List Kd) hv x (l:List Kd) i:Prop where
 le:i<=l.length
 nd:l.Nodup
 xl:x∈l
 hl:∀u∈l,bj W x u/\lk hv u=true/\dp u<=20/\u∈U
 hp:L5 W l i
theorem qB.add {U} {x} {i} (w:qB W U hv x l i) (Y:∀y∈U,∀z∈W.par y,z∈U) (E:l[i]? =some y) (a1:∀z∈ab,z∈W.par y\/z=y) (a2:∀z∈W.par y,z∈ab) (pp:l<+:l') (nd:l'.Nodup) (hm:∀u,u∈l'↔u∈l\/u∈ab):qB W U hv x l' (i+1):=by
 have A:i<l.length:=(dB E).1;obtain ⟨F,G,I,J⟩:=w.hl y (bh E);refine ⟨df A pp.length_le,nd,pp.mem w.xl,λu D=>((hm u).1 D).elim (w.hl u) λhh=>(a1 u hh).elim (λhz=> ?_) λe=>e▸⟨F,G,I,J⟩,λj u L D z hz=>(hm z).2 ?_⟩
 ·have:=mF G hz;exact ⟨.step F hz,this.1,oq 90 (by exact sM _ _) I this.2,Y y J u hz⟩
 ·obtain ⟨r,rfl⟩:=pp;by_cases e:j=i
  ·subst e;rw [mc A,E] at D;exact .inr (a2 z (aP D▸hz))
  ·rw [mc (by exact oq 80 L A)] at D;exact .inl (w.hp j u (oq 43 L e) D z hz)
theorem zJ {x} (h:HL Z s ts) (hu:x∈Z.U) (hx:lk hv x=true) (hd:dp x<=20)
 (q:∀s' (l:List Kd),Fr [] s s'->s.length<s'.length->s'[s.length]? =some (.list (l.map enc))->(∀u,u∈l↔bj Z.W x u)->(∀u∈l,lk hv u=true/\dp u<=20/\u∈Z.U)->l.length<=30000->Q (.ref s.length) s'):aq sc (n+5) 83 [.ref Z.wd,enc x] Q s:=by
 refine cg rfl<|c_ λs1 f1 e1 l1=> ?_;generalize hA:s.length=A at*;have F:=h.h.kt.ul;refine oO (λm ρ s'=>E5 λ(l:List Kd) (i:Nat) (o4 o5 o6)=>A5 (m=Z.U.length+1-i) (Fr [A] s1 s') (s'[A]? =some (.list (l.map enc))) (qB Z.W Z.U hv x l i) (ρ=(dY (eR Z.wd) (some (enc x)) (eR A) (eI i) o4 o5 o6))) (m:=Z.U.length+1-0)
  ⟨[x],0,none,none,none,rfl,.ay,e1,⟨hL _,JV.mpr ⟨ba,List.nodup_nil⟩,ai,λu D=>by rw [aj D];exact ⟨.refl,hx,hd,hu⟩,λj u h=>dv h (Nat.not_lt_zero _)⟩,rfl⟩ (by unfold hX;exact oo 0x6920a493260028192c00000000001e8481f4082 (by exact sO _ _) F) ?_
 rintro K m _ s' ⟨l,i,o4,o5,o6,hm,f',L,w,rfl⟩ hK;have G:=gR w.nd λu D=>(w.hl u D).2.2.2;apply dW L (by rw [aC];exact oq 25 F G);rw [aC];have Y:=bE L;have hs':HL Z s' ts:=⟨(h.h.new f1).Cs h.h (oq 41 hA) f',h.l⟩;refine az (λE=> ?_) λE=> ?_
 ·replace E:i<l.length:=oq 78 E;obtain ⟨y,hy⟩:∃y,l[i]? =some y:=⟨_,bZ E⟩;have I:=w.hl y (bh hy);refine ce L ⟨oq 0,oo 0xa2e90a31206de0403 E G F⟩ (i' _ hy) ?_;refine Je hs' I.2.1 λs2 B ab f2 hB eB a1 a2 a3=> ?_;refine cV eB (by rw [aC];exact oq 18 a3)<|Bs rfl (aa rfl) Nat.le.refl eB (oq 91 Y hB) (f2.gn L) (oo 0x14e22e9e0ea00f01003 a3 F G) (λt ht=>(w.hl t ht).2.1) (λz hz=>(a1 z hz).elim (λhz=>by have:=mF I.2.1 hz;exact ⟨this.1,oq 90 (by exact sM _ _) I.2.2.1 this.2⟩) λe=>e▸⟨I.2.1,I.2.2.1⟩) w.nd λs3 v l' f3 l3 e3 pp nd' hm'=> ?_;exact hK.next ⟨Z.U.length+1-(i+1),oo 0x1e3869a9b7cef11036b918d4c043d910c3fd80ccf8eaa2491604950086 (by exact sO _ _) (by exact sO _ _) E G hm,l',i+1,_,_,_,rfl,(f'.trans (aI f2)).trans f3,e3,w.add (h.h.wd.dh.par) hy a1 a2 pp nd' hm',rfl⟩
 ·refine q s' l ?_ Y L (λu=>⟨λD=>(w.hl u D).1,λD=> ?_⟩) (λu D=>(w.hl u D).2) (oq 24 F G)
  ·exact ((aI f1).trans f').cut λj J hl=>by replace J:=aj J;exact (oq 92 hl J hA).elim
  ·induction D with|refl=>exact w.xl|step _ hz ih=>obtain ⟨j,J,e⟩:=List.mem_iff_getElem.mp ih;exact w.hp j _ (oo 0x539c93be0a8083 J E) (JQ.mpr ⟨J,e⟩) _ hz
end
variable {o0 o1:Option V}
abbrev Jy (C:aM):Prop:=∀i,∀x∈C.ac i,∀j,x= .v j->j<i
structure dI (C:aM):Prop where
 ok:bY C
 dec:Jy C
 lk:∀i,∀x∈C.ac i,lk true x=true/\dp x<=5
theorem Kd.v.inj {i} (e:Kd.v i= .v j):i=j:=by injection e
theorem Bd.trans {i} {x} (h:Bd C i (.v j)) (z:Bd C j x):Bd C i x:=by
 induction z with|base y=>exact .step h y|step _ y A=>exact .step A y
theorem Bd.iff {i} {x}:Bd C i x↔x∈C.ac i\/∃j,.v j∈C.ac i/\Bd C j x:=by
 constructor
 ·intro h;induction h with|base y=>exact .inl y| @step j x _ y z=>
    rcases z with z|⟨E,A,D⟩
    ·exact .inr ⟨j,z,.base y⟩
    ·exact .inr ⟨E,A,.step D y⟩
 ·rintro (h|⟨j,A,D⟩)
  ·exact .base h
  ·exact (Bd.base A).trans D
theorem dI.bd (y:dI C) {i} {x} (h:Bd C i x):Mine.lk true x=true/\dp x<=5:=by
 cases h with|base h=>exact y.lk _ x h|step _ h=>exact y.lk _ x h
theorem dI.var (y:dI C) {i} (h:Bd C i (.v j)):j<2:=(dz (y.bd h).1).2
section
theorem oE {i} {R:V->St->Prop} (y:i<2) (q:R (.tup [.int (Z.C.ca i),.tup ((Z.C.ac i).map enc)]) s):
 P 8 (index (.tup [.tup [.int (Z.C.ca 0),.tup ((Z.C.ac 0).map enc)],.tup [.int (Z.C.ca 1),.tup ((Z.C.ac 1).map enc)]]) (.int i)) R s:=by
 have:i=0\/i=1:=oq 7 y;rcases this with rfl|rfl
 ·exact ah rfl rfl q
 ·exact ah rfl rfl q
theorem Iv (A:dI C) {i} (D:i<2) {x} (h:Bd C i x):x∈C.ac 0++C.ac 1:=by
 have key:∀j,j<2->∀y∈C.ac j,y∈C.ac 0++C.ac 1:=λj E y z=>by
  have:j=0\/j=1:=oq 7 E;rcases this with rfl|rfl
  ·exact aA _ z
  ·exact aS _ z
 induction h with|base h=>exact key i D _ h|step G I=>exact key _ (A.var G) _ I
theorem Ag (y:dI C) {i} (z:i<2) (nd:l.Nodup) (h:∀u∈l,Bd C i u):l.length<=4:=by have:=gR nd λu A=>Iv y z (h u A);have D:=y.ok.qG 0;have E:=y.ok.qG 1;rw [aL] at this;exact oo 0x150f9020a02a0096003 D E this
def sR (sc:List Int) (Z:Zw) (i F:Nat):Prop:=∀(Q) (s) (ts),HL Z s ts->
    (∀s' (l:List Kd) a,Fr [] s s'->s.length<s'.length->s.length<=a->s'[a]? =some (.list (l.map enc))->(∀u,u∈l↔Bd Z.C i u)->l.length<=1000->Q (.ref a) s')->aq sc F 84 [.ref Z.wd,enc (.v i)] Q s
theorem eM {x}:aJ x= -2↔ak x=true:=by
 induction x with|v i=>exact ⟨λ_=>rfl,λ_=>rfl⟩|a0 g=>exact ⟨λe=>by have e:(g:Int)= -2:=e;exact (oq 48 e).elim,nf⟩|a1 g _=>exact ⟨λe=>by have e:(g:Int)= -2:=e;exact (oq 48 e).elim,nf⟩|a2 g _ _=>exact ⟨λe=>by have e:(g:Int)= -2:=e;exact (oq 48 e).elim,nf⟩|_=>exact ⟨nofun,nofun⟩
abbrev Fi (C:aM) (l done:List Kd):Prop:=∀u,u∈l↔u∈done\/∃j,.v j∈done/\Bd C j u
structure ti (C:aM) (l done:List Kd):Prop where
 nd:l.Nodup
 hl:Fi C l done
theorem ti.add {done lr} {x} (w:ti C l done) (nd:l'.Nodup) (hm:∀u,u∈l'↔u∈l\/u∈x::lr) (A:∀u,u∈lr↔∃j,x= .v j/\Bd C j u):ti C l' (done++ [x]):=by
 refine ⟨nd,λu=> ?_⟩;rw [hm u,w.hl u,List.mem_cons,A u];simp only [JC,w4];exact ⟨λh=>h.elim (λh=>h.elim (λh=> .inl (.inl h)) (by rintro ⟨j,y,z⟩;exact .inr ⟨j,.inl y,z⟩)) λh=>h.elim (λh=> .inl (.inr h)) (by rintro ⟨j,y,z⟩;exact .inr ⟨j,.inr y.symm,z⟩),
  λh=>h.elim (λh=>h.elim (λh=> .inl (.inl h)) λh=> .inr (.inl h)) (by rintro ⟨j,y,z⟩;exact y.elim (λy=> .inl (.inr ⟨j,y,z⟩)) λy=> .inr (.inr ⟨j,y.symm,z⟩))⟩
def Ma:Ss:= .cons (.ite (.cmp .gA (.loc 4) (.loc 2)) (bd (bd (bd (dr 1 (bo 84))))) .nil) .nil
theorem xS {A b} {lr} {x} (ea:s[a]? =some (.list [enc x])) (eb:s[b]? =some (.list (lr.map enc))) (L:s[A]? =some (.list (l.map enc))) (hl:∀u∈l,lk true u=true) (Y:lk true x=true/\dp x<=5) (y:∀z∈lr,lk true z=true/\dp z<=5) (G:l.length<=4/\lr.length<=1000) (nd:l.Nodup)
 (q:∀s' v (l':List Kd),Fr [A] s s'->s'[A]? =some (.list (l'.map enc))->l'.Nodup->(∀u,u∈l'↔u∈l\/u∈x::lr)->K .next (e_ o0 o1 (eR A) (some (enc x)) v) s'):
 rT .add (.ref a) (.ref b) (zn sc F [4] false Ma (e_ o0 o1 (eR A) (some (enc x)) o4) K) s:=by
 refine lV ea eb (by rw [y5,aC];exact oo 0x1d500660286803002 G) λs5 f5 e5 l5=> ?_;have D:s5[s.length]? =some (.list ((x::lr).map enc)):=e5;apply cV D (by rw [aC,iZ];exact oo 0x1d500660286811002 G);exact Bs rfl (aa rfl) Nat.le.refl D (JJ (bE L)) (f5.gn L) (by rw [iZ];exact oo 0x3ab00c8050d0321002 G) hl
  (λt E=>(aR E).elim (λe=>e▸⟨Y.1,df Y.2 (aa rfl)⟩) λE=>⟨(y t E).1,df (y t E).2 (aa rfl)⟩) nd λs6 v l' f6 l6 e6 p6 I J=>q s6 v l' ((aI f5).trans f6) e6 I J
theorem zg (J:dI Z.C) (L:Z.has=true) {i} (hi:i<2) (rec:∀j,.v j∈Z.C.ac i->sR sc Z j F):sR sc Z i (F+1):=by
 intro Q s ts h q;apply cg rfl;obtain ⟨wk,w1,w2,_,_,_,_,_,_,w3⟩:=h.l.w;refine c_ λs1 f1 e1 l1=> ?_;have Y:=h.h.off (g6 s.length);generalize hA:s.length=A at*;refine h.l.get (h.h.new f1) w1 w2 (w3 L)<|ah rfl rfl<|oE hi<|ah rfl rfl<|yn (λo:Option V×Option V=>e_ (eR Z.wd) (some (enc (.v i))) (eR A) o.1 o.2) (λdone s'=>E1 λl=>A3 (Fr [A] s1 s') (s'[A]? =some (.list (l.map enc))) (ti Z.C l done)) (none,none) ⟨[],.ay,e1,List.nodup_nil,λu=>by simp⟩ (λ_=>trivial) ?_ ?_
 ·rintro s' o ⟨l,f',g1,w⟩;refine q s' l A ?_ (bE g1) .refl g1 (λu=>(w.hl u).trans Bd.iff.symm) (df (Ag J hi w.nd λu y=>Bd.iff.2 ((w.hl u).1 y)) (by decide));exact ((aI f1).trans f').cut λj hj hl=>by replace hj:=aj hj;exact (oq 92 hl hj hA).elim
 ·rintro K done x r s' o ed ⟨l,f',g1,w⟩ kn kr;have hxi:=ed▸aS _ ai;have hx:=J.lk i x hxi;have hs':HL Z s' ts:=⟨(h.h.new f1).g9 f' λj hj=>aj hj▸Y,h.l⟩;have hb:∀u∈l,Bd Z.C i u:=λu y=>Bd.iff.2 (((w.hl u).1 y).imp (λy=>ed▸aA _ y) (by rintro ⟨j,h1,h2⟩;exact ⟨j,ed▸aA _ h1,h2⟩));have D:=Ag J hi w.nd hb;refine c_ λs2 f2 e2 l2=> ?_;apply bA hx.1;by_cases E:ak x=true
  ·obtain ⟨j,rfl⟩:∃j,x= .v j:=dP E;refine rec j hxi _ s2 ts ⟨hs'.h.new f2,h.l⟩ λs3 lr b f3 l3 hb' eb hmb hlb=> ?_;exact xS (f3.gn e2) eb (f3.gn (f2.gn g1)) (λu y=>(J.bd (hb u y)).1) hx (λz hz=>J.bd ((hmb z).1 hz)) ⟨D,hlb⟩ w.nd λs4 v l' f4 e4 G I=>kn (_,v) ⟨l',f'.trans (((aI (f2.trans f3))).trans f4),e4,w.add G I λu=>(hmb u).trans ⟨λh=>⟨j,rfl,h⟩,(by rintro ⟨j',e,h⟩;exact Kd.v.inj e▸h)⟩⟩
  ·refine aO (λe=>E (eM.1 e))<|c_ λs3 f3 e3 l3=> ?_;exact xS (lr:= []) (f3.gn e2) e3 (f3.gn (f2.gn g1)) (λu y=>(J.bd (hb u y)).1) hx (λz hz=>(ba hz).elim) ⟨D,hL _⟩ w.nd λs4 v l' f4 e4 G I=>kn (_,v) ⟨l',f'.trans (((aI (f2.trans f3))).trans f4),e4,w.add G I λu=>⟨bg,(by rintro ⟨j',e,h⟩;exact dv (e▸rfl) E)⟩⟩
theorem qi (z:dI Z.C) (y:Z.has=true) {i} (E:i<2):sR sc Z i (n+2):=by
 have D:∀F,sR sc Z 0 (F+1):=λF=>zg z y (aa rfl) λj A=>by have:=z.dec 0 _ A j rfl;exact (oq 61 this).elim
 have:i=0\/i=1:=oq 7 E;rcases this with rfl|rfl
 ·exact D (n+1)
 ·refine zg z y (aa rfl) λj A=> ?_;have:j=0:=by have:=z.dec 1 _ A j rfl;exact oo 0xc0820a101 this
  subst this;exact D n
end
variable {J:St->Prop}
section
theorem wj {F} {ρ} {c} {p:Kd->Prop} (hJ:J s) (L:∀s',J s'->s'[F]? =some (.list (l.map enc))) (A:l.length<=2000)
 (G:∀s' fE,J s'->Fr [] s' fE->J fE)
 (test:∀x∈l,∀s' (Q),J s'->(∀fE r,J fE->(r=true↔p x)->Q r fE)->wE sc n (some (enc x)::ρ) c (λv s=>nr v Q s) s')
 (q:∀s' r,J s'->(r=true↔∃x∈l,p x)->Q (.bool r) s'):
 WC sc n (.ref F) (false,l.map enc) ρ (.loc 0) (.cons c .nil) (l.map enc) (λD s=>P 15 (if fits D.length then bN (.list D) else fail) (λv s=>P 13 (builtin .len [v]) (λa s=>pC .gt a (.int 0) (λr s=>Q (.bool r) s) s) s) s) s:=by
 refine Kn (λ_ D rest s'=>∃done left,J s'/\rest=left.map enc/\done++left=l/\D.length<=done.length/\(D.length>0↔∃x∈done,p x)) _ [] [] s ⟨[],l,hJ,rfl,rfl,.refl,by simp⟩ ?_ ?_ ?_
 ·rintro _ _ _ s' ⟨done,left,j,_⟩;exact .inl ⟨L s' j,rfl⟩
 ·rintro _ zs s' ⟨done,left,j,Y,E,hl,hp⟩;induction left with|cons=>trivial|nil=>rw [hR] at E;subst E;rw [List.nil_append] at hl hp;refine je (oq 93 A hl) λs2 f2 e2 l2=> ?_;apply dW e2 (oq 93 A hl);apply q s2 (decide ((zs.length:Int)>0)) (G _ _ j f2);rw [nz,<-hp];exact oo 0x1e19501a6781
 ·rintro _ D v rest s' ⟨done,left,j,Y,E,hl,hp⟩;induction left using List.casesOn with|nil=>trivial|cons x left=>
   obtain ⟨rfl,rfl⟩:=List.cons.inj Y;refine test x (by rw [<-E];simp) s' _ j λs2 r j2 hr=> ?_;have ex:(∃y∈done++ [x],p y)↔(∃y∈done,p y)\/p x:=by
    simp only [JC,w4];constructor
    ·rintro ⟨y,h|rfl,I⟩
     ·exact .inl ⟨y,h,I⟩
     ·exact .inr I
    ·rintro (⟨y,h,I⟩|h)
     ·exact ⟨y,.inl h,I⟩
     ·exact ⟨x,.inr rfl,h⟩
   induction r with|true=>refine ⟨done++ [x],left,j2,rfl,iq E,by simp;exact oo 0x38010002 hl,?_⟩;rw [ex];exact ⟨λ_=> .inr (hr.1 rfl),λ_=>by simp⟩|false=>refine ⟨done++ [x],left,j2,rfl,iq E,by simp;exact oq 19 hl,?_⟩;rw [ex];simp only [Option.toList,hR];rw [hp];exact ⟨.inl,λh=>h.elim id λh=>Bool.noConfusion (hr.2 h)⟩
def fQ (C:aM):Kd->Prop
 | .v i=>rs C i|t=>isVal t=false
theorem IC {g}:dj (.int g) [.int 64,.int 65]=some (decide (g=64\/g=65)):=by
 unfold dj;rw [ep (by rfl)]
 congr 1
 show ((V.int 64).eqv (.int g)||((V.int 65).eqv (.int g)||false))=_;rw [i_,i_,Bool.or_false,<-Bool.decide_or];exact decide_eq_decide.mpr ⟨Or.imp Eq.symm Eq.symm,Or.imp Eq.symm Eq.symm⟩
theorem Oz {x} (h:lk hv x=true):(aJ x=64\/aJ x=65)↔(x= .a0 64\/x= .a0 65):=by
 constructor
 ·intro e;induction x with
  |p i=>rcases e with e|e<;>cases e
  |v i=>rcases e with e|e<;>trivial
  |ar i=>rcases e with e|e<;>trivial
  |b i=>trivial|a0 g=>
   have e:(g:Int)=64\/(g:Int)=65:=e;have:g=64\/g=65:=oq 49 e;rcases this with rfl|rfl
   ·exact .inl rfl
   ·exact .inr rfl
  |a1 g y=>have e:(g:Int)=64\/(g:Int)=65:=e;have:g=64\/g=65:=oq 49 e;have h:=(wL h).1.2;rcases this with rfl|rfl<;>exact dv h (aa rfl)
  |a2 g y z=>have e:(g:Int)=64\/(g:Int)=65:=e;have:g=64\/g=65:=oq 49 e;rcases this with rfl|rfl<;>exact dv ((qS h).1.1.2) (aa rfl)
 ·rintro (rfl|rfl)
  ·exact .inl rfl
  ·exact .inr rfl
theorem zp (j:lk true t=true) (hd:dp t<=7):lk true (W.cu t)=true/\dp (W.cu t)<=7:=
 uU (P:=λu=>lk true u=true/\dp u<=7) (λ_ _=>⟨qp ⟨mB.1.1,df mB.1.2 (aa rfl)⟩,show 1<=7 by decide⟩) (λ_ _=>⟨qp ⟨mB.2.1,df mB.2.2 (aa rfl)⟩,show 1<=7 by decide⟩) ⟨j,hd⟩
theorem xX (h:HL Z s ts) (E:dI Z.C) (F:lk Z.has t=true)
 (q:∀s' r,Fr [] s s'->(r=true↔fQ Z.C t)->Q (.bool r) s'):aq sc (n+4) 85 [.ref Z.wd,enc t] Q s:=by
 refine cg rfl<|bA F ?_;by_cases z:ak t=true
 ·obtain ⟨i,rfl⟩:∃i,t= .v i:=dP z;have y:=dz F;obtain ⟨wk,I,L,_,_,_,_,_,_,w3⟩:=h.l.w;refine h.l.get h.h I L (w3 y.1)<|ah rfl rfl<|oE y.2<|ah rfl rfl<|az (λe=>q s true .ay ⟨λ_=> .inl (oq 94 e),λ_=>rfl⟩) λe=> ?_
  ·refine qi E y.1 y.2 _ s ts h λY l a f1 l1 ha G hm A=> ?_;apply cV G (by rw [aC];exact oq 95 A);refine wj (p:=λx=>x= .a0 64\/x= .a0 65) (J:=λs'=>Fr [] Y s') .ay (λs' j=>j.gn G) (oo 0x1d50007d0f2001 A) (λs' fE j f=>j.trans f) (λx D s' Q j q'=> ?_) λs' r j hr=> ?_
   ·apply bA (E.bd ((hm x).1 D)).1;exact h_ IC<|q' s' _ j (by rw [nz,Oz (E.bd ((hm x).1 D)).1])
   ·apply q s' r (f1.trans j);rw [hr];constructor
    ·rintro ⟨x,D,hp⟩;exact .inr ⟨x,(hm x).1 D,hp⟩
    ·rintro (hf|⟨x,D,hp⟩)
     ·exact dv hf (by (exact oq 96 e))
     ·exact ⟨x,(hm x).2 D,hp⟩
 ·refine bW (λe=>z (eM.1 e))<|i6 F<|q s _ .ay ?_;have:fQ Z.C t↔isVal t=false:=by (revert z;generalize t=z9;intro z;induction z9 using Kd.casesOn<;>first|exact Iff.rfl|exact dv rfl z)
  rw [this];cases isVal t<;>simp
theorem P8 {i:Nat} (h:HL Z s ts) (Y:dI Z.C) (A:Z.has=true) (hi:i<2)
 (q:∀s' r,Fr [] s s'->(r=true↔Valued Z.C i)->Q (.bool r) s'):aq sc (n+3) 86 [.ref Z.wd,enc (.v i)] Q s:=by
 refine cg rfl<|c_ λs0 f0 e0 l0=> ?_;refine qi Y A hi _ s0 ts ⟨h.h.new f0,h.l⟩ λs1 l a f1 l1 ha e1 hm z=> ?_;refine lV (f1.gn e0) e1 (by simp;exact oo 0x1d5003403001 z) λs2 f2 e2 l2=> ?_;have F:s2[s1.length]? =some (.list ((.v i::l).map enc)):=e2;have G:=(f0.trans f1).trans f2;obtain ⟨wk,w1,w2,_,_,_,_,_,_,w3⟩:=h.l.w;apply cV F (by simp;exact oo 0x1d501869ff2001 z);have I:∀x∈Kd.v i::l,lk true x=true:=λx y=>by
  cases y with|head=>exact (gs hi)|tail _ y=>exact (Y.bd ((hm x).1 y)).1
 refine wj (p:=λx=>∃j,x= .v j/\Z.C.ca j=2) (J:=λs'=>Fr [] s2 s') .ay (λs' j=>j.gn F) (by simp;exact oo 0x1d50007cff2001 z) (λs' fE j f=>j.trans f) (λx y s' Q j q'=> ?_) λs' r j hr=> ?_
 ·apply bA (I x y);by_cases D:ak x=true
  ·obtain ⟨E,rfl⟩:∃i,x= .v i:=dP D;have hj:=(dz (I _ y)).2;refine h.l.get (h.h.new (G.trans j)) w1 w2 (w3 A)<|ah rfl rfl<|oE hj<|ah rfl rfl<|q' s' (decide ((Z.C.ca E:Int)=2)) j ?_;rw [nz];constructor
   ·intro e;exact ⟨E,rfl,oq 50 e⟩
   ·rintro ⟨j2,e,hf⟩;injection e with e;subst e;exact oq 97 hf
  ·have L:aJ x≠-2:=λe=>D (eM.1 e);refine aO L<|q' s' (decide (aJ x= -2)) j ?_;rw [nz];constructor
   ·intro e;exact dv e L
   ·rintro ⟨j2,rfl,hf⟩;exact dv rfl D
 ·apply q s' r (G.trans j);rw [hr];constructor
  ·rintro ⟨x,y,E,rfl,hp⟩;cases y with|head=>exact .inl hp|tail _ y=>exact .inr ⟨E,(hm _).1 y,hp⟩
  ·rintro (hf|⟨E,y,hp⟩)
   ·exact ⟨_,ai,i,rfl,hf⟩
   ·exact ⟨_,.tail _ ((hm _).2 y),E,rfl,hp⟩
theorem xY (h:HL Z s ts) (y:lk true t=true) (hd:dp t<=7)
 (q:Q (enc (twin (Z.W.cu t))) s):aq sc (n+1) 87 [.ref Z.wd,enc t] Q s:=by
 apply cg rfl;obtain ⟨wk,A,D,_,_,_,w3,_⟩:=h.l.w;obtain ⟨E,n1,n2⟩:=h.l.un;have z:=n2 t y hd;refine h.l.get h.h A D w3<|pJ (h.h.get n1)<|oU (h.h.get n1) z.1 ?_;rw [z.2];have j:=zp (W:=Z.W) y hd;generalize Z.W.cu t=u at j q⊢;have hm:dj (enc u) [.tup [.int 0,.int 4],.tup [.int 0,.int 6],.tup [.int 0,.int 8],.tup [.int 0,.int 10]]=some (decide (u∈ [Kd.p 4,.p 6,.p 8,.p 10])):=
  pH (l:= [.p 4,.p 6,.p 8,.p 10]) (aa rfl) j.1 (oq 29 j.2)
 refine h_ hm<|az (λe=> ?_) λe=> ?_
 ·replace e:=uP e;rcases e with rfl|rfl|rfl|rfl
  ·exact ah rfl rfl q
  ·exact ah rfl rfl q
  ·exact ah rfl rfl q
  ·exact ah rfl rfl q
 ·rw [Ad (λh=>e (h▸ai)) (λh=>e (h▸bn)) (λh=>e (h▸ci)) λh=>e (h▸eP)] at q;exact q
end
variable {o7:Option V}{md rv:V}{G:Rel}
def ek (C:aM) (P:Rel) (s t:Kd):Prop:=fQ C s/\((ak t=true/\A9 C s t)\/(ak t=false/\isVal t=false/\P s t))
noncomputable def cP (C:aM) (P:Rel) (w:Int) (x y:Kd):Prop:=x=y\/(w≠0/\if w=2 then ek C P y x else ek C P x y)
def fY (W:World) (C:aM) (P:Rel) (u t:Kd):Prop:=aJ u=aJ t/\69<=aJ u/\aJ u<=71/\∀i x y,(kids u)[i]? =some x->(kids t)[i]? =some y->cP C P (f_ W (ao u) i) x y
section
def iy (sc:List Int) (Z:Zw) (F:Nat) (md rv:V) (G:Rel) (a b:Kd):Prop:=∀(Q) (s) (ts),HL Z s ts->
    (∀s' r,Fr [] s s'->(r=true↔G a b)->Q (.bool r) s')->aq sc F 90 [.ref Z.wd,enc a,enc b,md,rv] Q s
theorem vV {a b} (h:HL Z s ts) (hc:dI Z.C) (ha:lk Z.has a=true) (hb:lk Z.has b=true) (hdb:dp b<=20) (go:ak b=false->isVal b=false->iy sc Z (n+4) md rv G a b)
 (q:∀s' r,Fr [] s s'->(r=true↔ek Z.C G a b)->Q (.bool r) s'):aq sc (n+5) 88 [.ref Z.wd,enc a,enc b,md,rv] Q s:=by
 refine cg rfl<|xX h hc ha λI r1 f1 J=> ?_;have h1:HL Z I ts:=⟨h.h.new f1,h.l⟩;induction r1 with
 |false=>exact q I false f1 ⟨nf,λhm=>J.2 hm.1⟩|true=>
 have D:=J.1 rfl;apply bA hb;by_cases z:ak b=true
 ·refine bW (eM.2 z)<|bA ha ?_;by_cases A:ak a=true
  ·apply bW (eM.2 A);obtain ⟨i,rfl⟩:∃i,a= .v i:=dP A;obtain ⟨L,hi⟩:=dz ha;refine qi hc L hi _ I ts h1 λs2 l x f2 l2 hx e2 hm hlen=> ?_;apply u8 e2 (pH (λy hy=>(hc.bd ((hm y).1 hy)).1) (ch hb) hdb);apply q s2 _ (f1.trans f2);rw [nz,hm];refine ⟨λhm=>⟨D,.inl ⟨z,hm⟩⟩,λhm=> ?_⟩;rcases hm.2 with ⟨_,hm⟩|⟨hm,_⟩
   ·exact hm
   ·exact Bool.noConfusion (z.symm.trans hm)
  ·have Y:aJ a≠-2:=λe=>A (eM.1 e);refine aO Y<|q I (decide (aJ a= -2)) f1 ?_;rw [nz];refine ⟨λe=>dv e Y,λhm=> ?_⟩;rcases hm.2 with ⟨_,hm⟩|⟨hm,_⟩
   ·(revert A hm;generalize a=z9;intro A hm;induction z9 using Kd.casesOn<;>first|exact dv rfl A|trivial)
   ·exact Bool.noConfusion (z.symm.trans hm)
 ·have z:ak b=false:=by simpa using z
  refine aO (λe=>by rw [eM.1 e] at z;trivial)<|i6 hb ?_;induction E:isVal b using Bool.casesOn with
  |true=>
   refine q I false f1 ⟨nf,λhm=> ?_⟩;rcases hm.2 with ⟨hm,_⟩|⟨_,hm,_⟩
   ·exact Bool.noConfusion (z.symm.trans hm)
   ·exact Bool.noConfusion (E.symm.trans hm)
  |false=>
   refine go z E _ I ts h1 λs2 r2 f2 hr2=>q s2 r2 (f1.trans f2) ?_;rw [hr2];refine ⟨λhp=>⟨D,.inr ⟨z,E,hp⟩⟩,λhm=> ?_⟩;rcases hm.2 with ⟨hm,_⟩|⟨_,_,hm⟩
   ·exact Bool.noConfusion (z.symm.trans hm)
   ·exact hm
theorem vN {x} (h:lk hv x=true) (A:0<aJ x):named x=true/\aJ x=ao x/\enc x= .tup (.int (aJ x)::(kids x).map enc):=by
 induction x with|p i=>exact dv (show (0:Int)<0 from A) (aa rfl)|v i=>exact dv (show (0:Int)< -2 from A) (aa rfl)|ar i=>exact dv (show (0:Int)< -1 from A) (aa rfl)|b i=>trivial|a0 g=>exact ⟨rfl,rfl,rfl⟩|a1 g y=>exact ⟨rfl,rfl,rfl⟩|a2 g y z=>exact ⟨rfl,rfl,rfl⟩
theorem mP {x} {R} (A:enc x= .tup (.int (aJ x)::(kids x).map enc)) (z:(kids x)[j]? =some y) (r:R (enc y) s):P 8 (index (enc x) (.int (j+1:Nat))) R s:=by have D:=(dB z).1;have E:=nY x;rw [A];refine cA ⟨oo 0x604805381,oo 0x3130100928088402 D E⟩ ?_ r;show ((V.int (aJ x))::(kids x).map enc)[j+1]? =_;rw [List.getElem?_cons_succ,ko,z];rfl
def Gq:Ss:=(dr 2 (bd (bd (dr 1 (bo 89)))))
theorem Ed {a b} {w} (h:HL Z s ts) (Y:dI Z.C) (ue:enc u= .tup (.int (aJ u)::(kids u).map enc)) (te:enc t= .tup (.int (aJ t)::(kids t).map enc)) (D:(kids u)[j]? =some a) (E:(kids t)[j]? =some b)
 (la:lk Z.has a=true) (lb:lk Z.has b=true) (da:dp a<=20) (db:dp b<=20) (go:(ak b=false->isVal b=false->iy sc Z (n+4) md rv G a b)/\(ak a=false->isVal a=false->iy sc Z (n+4) md rv G b a)) (I:a≠b) (w0:w≠0)
 (q1:∀z o7,Fr [] s z->cP Z.C G w a b->K .next (mn (eR Z.wd) (some (enc u)) (some (enc t)) (some md) (some rv) (eI (j+1:Nat)) (eI w) o7) z) (q0:∀z ρ,Fr [] s z->¬cP Z.C G w a b->K (.ret (.bool false)) ρ z):
 wSs sc (n+5) Gq (mn (eR Z.wd) (some (enc u)) (some (enc t)) (some md) (some rv) (eI (j+1:Nat)) (eI w) o7) K s:=by
 refine az (λL=> ?_) λL=> ?_
 ·refine mP te E<|mP ue D<|ah rfl rfl<|ah rfl rfl<|vV h Y lb la da go.2 λz J f2 A=> ?_;have eq:cP Z.C G w a b↔J=true:=by unfold cP;rw [ep L,A];exact ⟨λhm=>hm.elim (λe=>dv e I) And.right,λhm=> .inr ⟨w0,hm⟩⟩
  induction J with|true=>exact q1 z _ f2 (eq.2 rfl)|false=>exact q0 z _ f2 λhl=>Bool.noConfusion (eq.1 hl)
 ·refine mP ue D<|mP te E<|ah rfl rfl<|ah rfl rfl<|vV h Y la lb db go.1 λz J f2 A=> ?_;have eq:cP Z.C G w a b↔J=true:=by unfold cP;rw [fm L,A];exact ⟨λhm=>hm.elim (λe=>dv e I) And.right,λhm=> .inr ⟨w0,hm⟩⟩
  induction J with|true=>exact q1 z _ f2 (eq.2 rfl)|false=>exact q0 z _ f2 λhl=>Bool.noConfusion (eq.1 hl)
theorem Lf (h:HL Z s ts) (hc:dI Z.C) (J:lk Z.has u=true) (ht:lk Z.has t=true) (hdu:dp u<=20) (hdt:dp t<=20)
 (go:aJ u=aJ t->69<=aJ u->aJ u<=71->∀(i:Nat) x y,(kids u)[i]? =some x->(kids t)[i]? =some y->(ak y=false->isVal y=false->iy sc Z (n+4) md rv G x y)/\(ak x=false->isVal x=false->iy sc Z (n+4) md rv G y x))
 (q:∀s' r,Fr [] s s'->(r=true↔fY Z.W Z.C G u t)->Q (.bool r) s'):aq sc (n+6) 89 [.ref Z.wd,enc u,enc t,md,rv] Q s:=by
 refine cg rfl<|bA J<|bA ht<|az (λe=> ?_) λe=> ?_
 ·apply bW e;exact q s false .ay ⟨nf,λhm=>dv hm.1 e⟩
 replace e:=Decidable.of_not_not e;obtain ⟨wk,w1,w2,_,_,w3,_⟩:=h.l.w;obtain ⟨yk,y1,y2⟩:=h.l.wy;obtain ⟨y3,L⟩:=y2 (aJ u);refine bA J<|h.l.get h.h w1 w2 w3<|mA (h.h.get y1) y3 ?_;rcases L with ⟨L,Y⟩|⟨g,L,Y,y6,y7⟩
 ·rw [Y];exact q s false .ay ⟨nf,λhm=>dv ⟨hm.2.1,hm.2.2.1⟩ L⟩
 ·rw [y7];obtain ⟨un,uh,ue⟩:=vN J (oo 0x3512026108085411 Y L);obtain ⟨tn,th,te⟩:=vN ht (oo 0xd289193024c210085421 Y L e);have hg:g=ao u:=oo 0x1a51513013004d0112 L uh;subst hg;obtain ⟨wl,wg,_⟩:=Cc Z.W (ao u);have E:((Z.W.cq (ao u)).map V.int).length=(kids u).length:=by rw [<-eo J un,aC];have:ao u=69\/ao u=70\/ao u=71:=oq 98 Y y6;rcases this with e|e|e<;>rw [e]<;>rfl
  have same:(kids u).length=(kids t).length:=by
   rw [<-eo J un,<-eo ht tn]
   congr 1;exact oq 20 uh e th
  have ku:=nY u;generalize (Z.W.cq (ao u)).map V.int=wv at wl wg E y7;have go:=go e (oq 99 Y uh) (oq 100 uh y6);have lenu:∀{R},R (.int ((kids u).length+1:Nat)) s->P 13 (builtin .len [enc u]) R s:=λr=>by rw [ue];exact bP (by rw [iZ,aC];exact oq 47 ku) (by rw [iZ,aC];exact r)
  refine lenu<|M7 ⟨aa rfl,oq 101 (by exact sA _) ku⟩<|kq ⟨aa rfl,oq 101 (by exact sA _) ku⟩<|xp (λo:Option V×Option V×Option V=>mn (eR Z.wd) (some (enc u)) (some (enc t)) (some md) (some rv) o.1 o.2.1 o.2.2) (λj s'=>1<=j/\Fr [] s s'/\∀(i) x y,i+1<j->(kids u)[i]? =some x->(kids t)[i]? =some y->cP Z.C G (f_ Z.W (ao u) i) x y) (N:=(kids u).length+1) ?_ ?_ ?_ (j:=1) (none,none,none) (by simp;exact oo 0x604803101) ⟨g6 _,.ay,λi _ _ h=>dv h (oo 0x604090a01)⟩
  ·intro _;trivial
  ·rintro s' o ⟨_,f',ha⟩;exact q s' true f' ⟨λ_=>⟨e,oq 99 Y uh,oq 100 uh y6,λi x y hx hy=>ha i x y (Nat.succ_lt_succ (dB hx).1) hx hy⟩,λ_=>rfl⟩
  ·rintro K j s' o hj ⟨h1,f',ha⟩ kn kr;obtain ⟨j,rfl⟩:=Nat.exists_eq_add_of_le' h1;have hju:=Nat.lt_of_succ_lt_succ hj;obtain ⟨a,z⟩:∃a,(kids u)[j]? =some a:=⟨_,bZ hju⟩;obtain ⟨b,A⟩:∃b,(kids t)[j]? =some b:=⟨_,bZ (same▸hju)⟩;have la:=dK J (bh z);have lb:=dK ht (bh A);have da:=df (vB (bh z)) hdu;have db:=df (vB (bh A)) hdt;have next:∀{I o6 o7},Fr [] s I->cP Z.C G (f_ Z.W (ao u) j) a b->K .next (mn (eR Z.wd) (some (enc u)) (some (enc t)) (some md) (some rv) (eI (j+1)) o6 o7) I:=λ{I o6 o7} f2 hl=>
    kn (_,_,_) ⟨Eb 1 _,f2,λi x y hi hx hy=>by
     by_cases ei:i=j
     ·subst ei;exact aP (z.symm.trans hx)▸aP (A.symm.trans hy)▸hl
     ·exact ha i x y (oo 0xc24a418090040ca0221019011082 hi ei) hx hy⟩
   have stuck:∀{I ρ},Fr [] s I->¬cP Z.C G (f_ Z.W (ao u) j) a b->K (.ret (.bool false)) ρ I:=λf2 hn=>kr (q _ false f2 ⟨nf,λhm=>dv (hm.2.2.2 j a b z A) hn⟩);refine mP ue z<|mP te A<|zT la lb da<|az (λD=> ?_) λD=>next f' (.inl (Decidable.of_not_not D))
   ·have h':HL Z s' ts:=⟨h.h.new f',h.l⟩;refine h'.l.get h'.h w1 w2 w3<|bA J ?_;apply eK (h'.h.get y1) y3 y7;refine cA (v:= .int (f_ Z.W (ao u) j)) ⟨oo 0x302024205381,oo 0x626000c8088494040442402 hj ku⟩ ?_ (az (λw0=>stuck f' λhl=>hl.elim D λhl=>hl.1 w0) λw0=>Ed h' hc ue te z A la lb da db (go j a b z A) D w0 (λI o7 f2 hl=>next (f'.trans f2) hl) λI ρ f2 hn=>stuck (f'.trans f2) hn)
    ·have:(((j+1:Nat):Int)-1).toNat=j:=oo 0x834690a141f4abd0102 (by exact sT _);rw [this];exact wg j (oo 0x25c90df14531c2a8083 hj E)
end
variable {v':Nat->Prop}{a':Kd->Kd->Prop}
def sel (w:Prop) (v:Nat->Prop) (a:Kd->Kd->Prop) (s t:Kd):Prop:=Kd.rec (λ_=>w) (λi=>v i) (λx _=>mK w (a x) t) (λ_=>w) (λ_ _ _=>w) (λ_ _ _ _ _=>w) (λ_ _=>w) s
theorem sel.imp {v} {a} {s}:(w->w')->(∀i,s= .v i->v i->v' i)->(∀x y,s= .ar x->t= .ar y->a x y->a' x y)->sel w v a s t->sel w' v' a' s t:=
 s.casesOn (λ_ h _ _=>h) (λ_ _ h _=>h _ rfl) (λx=>t.casesOn (λ_ h _ _=>h) (λ_ h _ _=>h) (λ_ _ _ h=>h _ _ rfl rfl) (λ_ h _ _=>h) (λ_ _ h _ _=>h) (λ_ _ _ h _ _=>h) λ_ h _ _=>h) (λ_ h _ _=>h) (λ_ _ h _ _=>h) (λ_ _ _ h _ _=>h) λ_ h _ _=>h
theorem sel.ex {v} {a} {w':Nat->Prop} {v':Nat->Nat->Prop} {a':Nat->Kd->Kd->Prop} {s}:(w->∃k,w' k)->(∀i,v i->∃k,v' k i)->(∀x y,a x y->∃k,a' k x y)->sel w v a s t->∃k,sel (w' k) (v' k) (a' k) s t:=
 s.casesOn (λ_ h _ _=>h) (λ_ _ h _=>h _) (λx=>t.casesOn (λ_ h _ _=>h) (λ_ h _ _=>h) (λ_ _ _ h=>h _ _) (λ_ h _ _=>h) (λ_ _ h _ _=>h) (λ_ _ _ h _ _=>h) λ_ h _ _=>h) (λ_ h _ _=>h) (λ_ _ h _ _=>h) (λ_ _ _ h _ _=>h) λ_ h _ _=>h
def gQ (W:World) (C:aM) (st:Bool) (P:Rel) (s t:Kd):Prop:=sel (∃u,bj W s u/\(u=t\/fY W C P u t)) (λi=>(t= .a0 2/\Valued C i)\/∃b,Bd C i b/\ak b=false/\P b t)
 (λx y=>(fQ C x/\ek C P x y)\/(¬fQ C x/\st=false/\twin (W.cu x)=twin (W.cu y))) s t
theorem rF n (h:1<=n/\n<=13):lk true (.p n)=true/\dp (.p n)<=7:=⟨qp h,show 1<=7 by decide⟩
theorem iX {st} {P} {x} (hv:ak x=false) (h:cI x=false\/cI t=false):gQ W C st P x t↔∃u,bj W x u/\(u=t\/fY W C P u t):=by
 induction x with|v _=>trivial|ar z=>(revert h;generalize t=j;intro h;induction j using Kd.casesOn<;>first|exact Iff.rfl|(rcases h with h|h<;>trivial))|_=>exact Iff.rfl
inductive gd (W:World) (C:aM):Kd->Kd->Kd->Kd->Prop
 |var {i:Nat} {b t:Kd}:Bd C i b->ak b=false->gd W C (.v i) t b t
 |elem {x y:Kd}:ak y=false->isVal y=false->fQ C x->gd W C (.ar x) (.ar y) x y
 |co {s t u x y:Kd} {i:Nat}:bj W s u->aJ u=aJ t->69<=aJ u->aJ u<=71->(kids u)[i]? =some x->(kids t)[i]? =some y->ak y=false->isVal y=false->gd W C s t x y
 |contra {s t u x y:Kd} {i:Nat}:bj W s u->aJ u=aJ t->69<=aJ u->aJ u<=71->(kids u)[i]? =some x->(kids t)[i]? =some y->ak x=false->isVal x=false->gd W C s t y x
noncomputable def fq (W:World) (C:aM) (st:Bool):Nat->List (Kd×Kd)->Kd->Kd->Prop
 |0,_,_,_=>False|n+1,j,s,t=>s=t\/t= .p 12\/((s,t)∉j/\gQ W C st (fq W C st n (j++ [(s,t)])) s t)
noncomputable def Dp (W:World) (C:aM):Nat->List (Kd×Kd)->Kd->Kd->Prop
 |0,_,_,_=>False|n+1,j,s,t=>s=t\/t= .p 12\/(s,t)∈j\/∀a b,gd W C s t a b->Dp W C n (j++ [(s,t)]) a b
structure aQ (Z:Zw) x:Prop where
 u:x∈Z.U
 l:lk Z.has x=true
 d:dp x<=7
def pe (p:Kd×Kd):V:= .tup [enc p.1,enc p.2]
section
variable {st:Bool}
theorem K_ {p q} (j:lk hv p.1=true/\lk hv p.2=true) (z:lk hv q.1=true/\lk hv q.2=true) (e:pe p=pe q):p=q:=by have e:=List.cons.inj (V.tup.inj e);exact Prod.ext (kH j.1 z.1 e.1) (kH j.2 z.2 (List.cons.inj e.2).1)
theorem ri {p} (h:lk hv p.1=true/\lk hv p.2=true):V.pure (pe p)=true:=by show (V.pure (enc p.1)&&(V.pure (enc p.2)&&true))=true;rw [gr h.1,gr h.2];rfl
theorem FF {l:List (Kd×Kd)} {p} (hl:∀q∈l,lk hv q.1=true/\lk hv q.2=true) (hp:lk hv p.1=true/\lk hv p.2=true) (hd:dp p.1<=7/\dp p.2<=7):dj (pe p) (l.map pe)=some (decide (p∈l)):=by
 have pl:∀{l:List (Kd×Kd)},(∀q∈l,lk hv q.1=true/\lk hv q.2=true)->V.il (l.map pe)=true:=by
  intro l hl;induction l with|nil=>rfl|cons q l j=>show (V.pure (pe q)&&V.il (l.map pe))=true;rw [(ri (hl q ai)),j λr z=>hl r (.tail _ z)];rfl
 have A:V.dep (pe p)<=20:=by show max (V.dep (enc p.1)) (max (V.dep (enc p.2)) 0)+1<=20;rw [jF hp.1,jF hp.2];lia
 unfold dj;rw [ep (by rw [(ri hp),pl hl,gs A];rfl)]
 congr 1
 induction l with|nil=>rfl|cons q l j=>
  rw [HG,JS,j λr z=>hl r (.tail _ z)];have:=yO (pe q) (pe p) (ri (hl q ai)) (ri hp);by_cases e:q=p
  ·subst e;rw [this.2 rfl];simp
  ·have:V.eqv (pe q) (pe p)=false:=by
    induction h:V.eqv (pe q) (pe p) using Bool.casesOn with|false=>rfl|true=>exact dv (K_ (hl q ai) hp (this.1 h)) e
   rw [this];simp [Ne.symm e]
structure BU (Z:Zw):Prop where
 c:dI Z.C
 b:Z.has=true->∀i,∀x∈Z.C.ac i,x∈Z.U
theorem BU.bd (hb:BU Z) (j:Z.has=true) {i} {x} (h:Bd Z.C i x):aQ Z x:=by
 have z:=hb.c.bd h;refine ⟨?_,by rw [j];exact z.1,oo 0xf0805a001 z.2⟩;cases h with|base h=>exact hb.b j _ x h|step _ h=>exact hb.b j _ x h
theorem aQ.bL {x} (h:aQ Z x) (z:eJ Z.W Z.U) (j:y∈kids x):aQ Z y:=⟨z.bL x h.u y j,dK h.l j,df (vB j) h.d⟩
theorem aQ.sup {x} (h:aQ Z x) (z:eJ Z.W Z.U) (A:bj Z.W x y):aQ Z y:=by
 induction A with|refl=>exact h|step _ hz j=>have D:=mF j.l hz;have E:=j.d;exact ⟨z.par _ j.u _ hz,(mF j.l hz).1,oo 0x4ac327a4f9fe1cb0258a90e003 (by exact sM _ _) E D.2⟩
theorem gd.ok {s a b} (h:gd Z.W Z.C s t a b) (hb:BU Z) (j:eJ Z.W Z.U) (A:aQ Z s) (D:aQ Z t):aQ Z a/\aQ Z b:=by
 induction h with|var z I=>exact ⟨hb.bd (dz A.l).1 z,D⟩|elem _ _=>exact ⟨A.bL j ai,D.bL j ai⟩|co z I _ _ E G _ _=>exact ⟨(A.sup j z).bL j (bh E),D.bL j (bh G)⟩|contra z I _ _ E G _ _=>exact ⟨D.bL j (bh G),(A.sup j z).bL j (bh E)⟩
theorem DX {i} {b} {P} (h:HL Z s ts) (hb:BU Z) (A:Z.has=true) (hi:i<2) (L:aQ Z b) (ask:∀y,Bd Z.C i y->ak y=false->iy sc Z (n+3) md rv P y b)
 (q:∀s' r,Fr [] s s'->(r=true↔(b= .a0 2/\Valued Z.C i)\/∃y,Bd Z.C i y/\ak y=false/\P y b)->Q (.bool r) s'):
 wSs sc (n+3) (dr 2 (tl (bo 90))) (dR (eR Z.wd) (some (enc (.v i))) (some (enc b)) (some md) (some rv) none) (fin Q) s:=by
 refine bA (hv:=true) (gs hi) ?_;have part:∀{I},Fr [] s I->¬(b= .a0 2/\Valued Z.C i)->wSs sc (n+3) (tl (F3 (dr 2 (tl (bo 90))))) (dR (eR Z.wd) (some (enc (.v i))) (some (enc b)) (some md) (some rv) none) (fin Q) I:=by
  intro I f1 hn;refine qi hb.c A hi _ I ts ⟨h.h.new f1,h.l⟩ λs2 l x f2 l2 hx E hm D=> ?_;apply cV E (by rw [aC];exact df D (aa rfl));refine wj (p:=λx=>ak x=false/\P x b) (J:=λs'=>Fr [] s2 s') .ay (λs' j=>j.gn E) (df D (aa rfl)) (λs' fE j f=>j.trans f) (λy hy s' Q j q'=> ?_) λs' r j hr=> ?_
  ·have hby:=(hm y).1 hy;apply bA (hb.c.bd hby).1;induction z:ak y using Bool.casesOn with|true=>refine jz (by rw [eM.2 z];rfl) (q' s' _ j ?_);rw [eM.2 z];exact ⟨nf,λG=>Bool.noConfusion (G.1.symm.trans z)⟩|false=>exact bW (λe=>Bool.noConfusion (z.symm.trans (eM.1 e)))<|ask y hby z _ s' ts ⟨(h.h.new (f1.trans f2)).new j,h.l⟩ λfE r f'' hr=>q' fE r (j.trans f'') (hr.trans ⟨λx=>⟨z,x⟩,And.right⟩)
  ·exact q s' r ((f1.trans f2).trans j) (hr.trans ⟨(by rintro ⟨y,hy,h1,h2⟩;exact .inr ⟨y,(hm y).1 hy,h1,h2⟩),λG=>G.elim (λh=>dv h hn) (by rintro ⟨y,hy,h1,h2⟩;exact ⟨y,(hm y).2 hy,h1,h2⟩)⟩)
 refine kZ (u:= .a0 2) (ch L.l) (aa rfl) (df L.d (aa rfl))<|az (λE=> ?_) λE=>aO E (part .ay λG=>E G.1);refine P8 h hb.c A hi λI r1 f1 hr1=> ?_;induction r1 with|true=>exact q I true f1 ⟨λ_=> .inl ⟨E,hr1.1 rfl⟩,λ_=>rfl⟩|false=>exact part f1 λG=>Bool.noConfusion (hr1.2 G.2)
theorem Ga {a b} {P} (h:HL Z s ts) (hb:BU Z) (ha:aQ Z a) (z:aQ Z b)
 (ask:∀{u},bj Z.W a u->aJ u=aJ b->69<=aJ u->aJ u<=71->∀(i:Nat) x y,(kids u)[i]? =some x->(kids b)[i]? =some y->(ak y=false->isVal y=false->iy sc Z (n+4) md rv P x y)/\(ak x=false->isVal x=false->iy sc Z (n+4) md rv P y x))
 (q:∀s' r,Fr [] s s'->(r=true↔∃u,bj Z.W a u/\(u=b\/fY Z.W Z.C P u b))->Q (.bool r) s'):
 wSs sc (n+6) (dr 4 (tl (bo 90))) (dR (eR Z.wd) (some (enc a)) (some (enc b)) (some md) (some rv) none) (fin Q) s:=by
 refine zJ h ha.u ha.l (df ha.d (aa rfl)) λs1 l f1 l1 e4 hm hk G=> ?_;apply cV e4 (by rw [aC];exact df G (aa rfl));refine oR (λ_ rest ρ s'=>E3 λdone left (o5:Option V)=>A5 (Fr [] s1 s') (rest=left.map enc) (done++left=l) (∀u∈done,¬(u=b\/fY Z.W Z.C P u b)) (ρ=(dR (eR Z.wd) (some (enc a)) (some (enc b)) (some md) (some rv) o5))) _ [] _ _
  ⟨[],l,none,.ay,rfl,rfl,λ_ A=>(ba A).elim,rfl⟩ ?_ ?_ ?_
 ·rintro _ _ _ s' ⟨done,left,o5,j,_⟩;exact .inl ⟨j.gn e4,rfl⟩
 ·rintro _ s' _ ⟨done,left,o5,j,er,I,D,rfl⟩;induction left with|cons=>trivial|nil=>exact q s' false (f1.trans j) ⟨nf,(by rintro ⟨u,u1,u2⟩;exact dv u2 (D u (by rw [hR] at I;rw [I];exact (hm u).2 u1)))⟩
 ·rintro K _ v rest _ s' ⟨done,left,o5,j,er,I,D,rfl⟩ hK;induction left with|nil=>trivial|cons u left=>
   have J:=I▸aS _ ai;have E:=(hm u).1 J;have hk:=hk u J;rw [show v=enc u from (List.cons.inj er).1];refine kZ hk.1 z.l hk.2.1<|az (λY=>bW Y (hK.ret (q s' true (f1.trans j) ⟨λ_=>⟨u,E,.inl Y⟩,λ_=>rfl⟩))) λY=> ?_;refine Lf ⟨(h.h.new f1).new j,h.l⟩ hb.c hk.1 z.l hk.2.1 (df z.d (aa rfl)) (ask E) λs2 r2 f2 L=> ?_;induction r2 with|true=>exact hK.ret (q s2 true ((f1.trans j).trans f2) ⟨λ_=>⟨u,E,.inr (L.1 rfl)⟩,λ_=>rfl⟩)|false=>exact hK.next ⟨done++ [u],left,_,j.trans f2,(List.cons.inj er).2,by rw [DZ];exact I,λw hw'=>(aG hw').elim (D w) λA=>by rw [aj A];exact λA=>A.elim Y λA=>Bool.noConfusion (L.2 A),rfl⟩
theorem Lm {x} {P} (h:HL Z s ts) (hb:BU Z) (D:aQ Z x) (E:aQ Z y) (hd:lk Z.has (.ar x)=true/\lk Z.has (.ar y)=true) (ask:ak y=false->isVal y=false->fQ Z.C x->iy sc Z (n+7) (.int (if st then 1 else 0)) rv P x y)
 (q:∀s' r,Fr [] s s'->(r=true↔(fQ Z.C x/\ek Z.C P x y)\/(¬fQ Z.C x/\st=false/\twin (Z.W.cu x)=twin (Z.W.cu y)))->Q (.bool r) s'):
 wSs sc (n+8) (dr 3 (tl (bo 90))) (dR (eR Z.wd) (some (enc (.ar x))) (some (enc (.ar y))) (eI (if st then 1 else 0)) (some rv) none) (fin Q) s:=by
 refine bA hd.1<|bA hd.2<|ah rfl rfl<|xX h hb.c D.l λI r1 f1 G=> ?_;have J:HL Z I ts:=⟨h.h.new f1,h.l⟩;induction r1 with
 |true=>have j:=G.1 rfl;apply ah rfl rfl;exact ah rfl rfl<|vV J hb.c D.l E.l (df E.d (aa rfl)) (λn1 n2=>ask n1 n2 j) λY r2 f2 L=>q Y r2 (f1.trans f2) (L.trans ⟨λA=> .inl ⟨j,A⟩,λA=>A.elim And.right λA=>dv j A.1⟩)
 |false=>
  have j:¬fQ Z.C x:=λA=>Bool.noConfusion (G.2 A);induction st with|true=>exact q I false f1 ⟨nf,λA=>A.elim (λA=>dv A.1 j) λA=>nomatch A.2.1⟩|false=>
   refine ah rfl rfl<|xY J (ch D.l) D.d<|ah rfl rfl<|xY J (ch E.l) E.d ?_;have lt:∀z,aQ Z z->lk true (twin (Z.W.cu z))=true/\dp (twin (Z.W.cu z))<=7:=by intro z hz;exact q5 (P:=λy z=>lk true y=true/\dp y<=7->lk true z=true/\dp z<=7) (λ_=>rF 3 (aa rfl)) (λ_=>rF 5 (aa rfl)) (λ_=>rF 7 (aa rfl)) (λ_=>rF 9 (aa rfl)) (λ_=>id) _ (zp (ch hz.l) hz.d)
   refine kZ (lt x D).1 (lt y E).1 (df (lt x D).2 (aa rfl))<|q I _ f1 ?_;rw [nz];exact ⟨λA=> .inr ⟨j,rfl,A⟩,λA=>A.elim (λA=>dv A.1 j) λA=>A.2.2⟩
theorem EN (hb:BU Z):∀(n m F) (j) (a b) (Q) (s) (ts),m=F+3*n+6->HL Z s ts->aQ Z a->aQ Z b->(∀p∈j,aQ Z p.1/\aQ Z p.2)->j.length+n<=1000->Dp Z.W Z.C n j a b->
 (∀s' r,Fr [] s s'->(r=true↔fq Z.W Z.C st n j a b)->Q (.bool r) s')->aq sc m 90 [.ref Z.wd,enc a,enc b,.int (if st then 1 else 0),.tup (j.map pe)] Q s:=by
 intro n;induction n with|zero=>intro m F j a b Q s ts hm h ha A D hl hd q;exact hd.elim|succ n ih=>
  intro m F j a b Q s ts hm h ha A D hl hd q;rw [show m=(F+3*n+8)+1 from hm];apply cg rfl;have hu:=h.h.wd.dh;refine kZ ha.l A.l (df ha.d (aa rfl))<|az (λe=>bW e (q s true .ay ⟨λ_=> .inl e,λ_=>rfl⟩)) λe=> ?_;apply kZ (u:= .p 12) (ch A.l) (aa rfl) (df A.d (aa rfl));refine az (λY=>q s true .ay ⟨λ_=> .inr (.inl Y),λ_=>rfl⟩) λY=> ?_;apply h_ (FF (p:=(a,b)) (λp hp=>⟨(D p hp).1.l,(D p hp).2.l⟩) ⟨ha.l,A.l⟩ ⟨ha.d,A.d⟩);refine az (λe3=>q s false .ay ⟨nf,λhg=>hg.elim (λhg=>dv hg e) λhg=>hg.elim (λhg=>dv hg Y) λhg=>dv e3 hg.1⟩) λe3=> ?_;apply i0 (by rw [aC];show j.length+1<=_;exact oo 0x1d50321006811002 hl);rw [show j.map pe++ [.tup [enc a,enc b]]=(j++ [(a,b)]).map pe from by rw [lh];rfl];have q':∀s' r,Fr [] s s'->(r=true↔gQ Z.W Z.C st (fq Z.W Z.C st n (j++ [(a,b)])) a b)->Q (.bool r) s':=λs' r f D=>q s' r f (D.trans ⟨λE=> .inr (.inr ⟨e3,E⟩),λE=>E.elim (λx=>dv x e) λE=>E.elim (λx=>dv x Y) And.right⟩);have ask:∀(c d) (G),gd Z.W Z.C a b c d->iy sc Z (G+3*n+6) (.int (if st then 1 else 0)) (.tup ((j++ [(a,b)]).map pe)) (fq Z.W Z.C st n (j++ [(a,b)])) c d:=λc d G hcd Q s ts h q=>
   have o:=hcd.ok hb hu ha A
   ih _ G _ c d Q s ts rfl h o.1 o.2 (λp hp=>(aG hp).elim (D p) λhp=>by rw [aj hp];exact ⟨ha,A⟩) (by rw [aL];show j.length+1+n<=_;exact oo 0x3aa06420558045002 hl)
    (hd.elim (λhd=>dv hd e) λhd=>hd.elim (λhd=>dv hd Y) λhd=>hd.elim (λhd=>dv hd e3) λhd=>hd c d hcd) q
  generalize (j++ [(a,b)]).map pe=rv at ask⊢;generalize fq Z.W Z.C st n (j++ [(a,b)])=P at ask q';have a2:∀{c d},gd Z.W Z.C a b c d->iy sc Z (F+3*n+5+3) (.int (if st then 1 else 0)) (.tup rv) P c d:=λ{c d} E=>by
   have:=ask c d (F+2) E
   rwa [show F+2+3*n+6=F+3*n+5+3 by exact oo 0x195c30ac5536158915102] at this
  by_cases L:ak a=true
  ·obtain ⟨i,e0⟩:∃i,a= .v i:=dP L;have J:=dz (e0▸ha.l);have:=DX (sc:=sc) (n:=F+3*n+5) (md:= .int (if st then 1 else 0)) (rv:= .tup rv) (P:=P) (Q:=Q) h hb J.1 J.2 A (λy h1 h2=>a2 (e0▸ .var h1 h2)) λs' r f D=>q' s' r f (e0▸D);rw [<-e0] at this;exact this
  refine bA ha.l<|aO (λe=>L (eM.1 e)) ?_;by_cases I:cI a=false\/cI b=false
  case neg=>
   obtain ⟨x,e4⟩:=hY λe=>I (.inl e);obtain ⟨y,e5⟩:=hY λe=>I (.inr e);have hx:=(e4▸ha:aQ Z (.ar x)).bL hu ai;have hy:=(e5▸A:aQ Z (.ar y)).bL hu ai;have a1:=λE=>ask x y (F+1) E;rw [show F+1+3*n+6=F+3*n+7 by exact oo 0xd6c2b1536158115102] at a1;have:=Lm (sc:=sc) (n:=F+3*n) (st:=st) (rv:= .tup rv) (P:=P) (Q:=Q) h hb hx hy ⟨e4▸ha.l,e5▸A.l⟩ (λh1 h2 h3=>a1 (e4▸e5▸ .elem h1 h2 h3)) λs' r f D=>q' s' r f (e4▸e5▸D);rw [<-e4,<-e5] at this;exact this
  have walk:=Ga (sc:=sc) (n:=F+3*n+2) (md:= .int (if st then 1 else 0)) (rv:= .tup rv) (P:=P) (Q:=Q) h hb ha A (λhsu g1 g2 g3 i x y hx hy=>⟨λn1 n2=>ask x y F (.co hsu g1 g2 g3 hx hy n1 n2),λn1 n2=>ask y x F (.contra hsu g1 g2 g3 hx hy n1 n2)⟩) λs' r f D=>q' s' r f (D.trans (iX (W:=Z.W) (C:=Z.C) (st:=st) (P:=P) (KG.mpr L) I).symm);apply bA ha.l;by_cases ea:aJ a= -1
  ·refine bW ea<|bA A.l ?_;have ar:∀{x},lk Z.has x=true->aJ x= -1->cI x=true
    | .ar _,_,_=>rfl| .p _,_,e=>(by contradiction)| .v _,_,e=>nomatch e| .a0 h,_,e=>dv (show ((h:Nat):Int)= -1 from e) (oq 51)| .a1 h _,_,e=>dv (show ((h:Nat):Int)= -1 from e) (oq 51)| .a2 h _ _,_,e=>dv (show ((h:Nat):Int)= -1 from e) (oq 51)| .b _,_,e=>(by contradiction)
   exact aO (λeb=>I.elim (λz=>Bool.noConfusion (z.symm.trans (ar ha.l ea))) λz=>Bool.noConfusion (z.symm.trans (ar A.l eb))) walk
  ·exact aO ea (aO ea walk)
end
abbrev Nj (Z:Zw) (N:Nat):Prop:=∀s t,aQ Z s->aQ Z t->Dp Z.W Z.C N [] s t
structure LR (Z:Zw) N:Prop where
 b:BU Z
 d:Nj Z N
 n:N<=900
noncomputable def fI (Z:Zw) (N:Nat) (st:Bool) (s t:Kd):Prop:=fq Z.W Z.C st N [] s t
def iT (Z:Zw) (N:Nat) (x t:Kd):Prop:=isNul x=false/\((isNul t=true/\kids t= [x])\/(isNul t=false/\((isVal t=true/\x=t)\/(isVal t=false/\fI Z N false x t))))
def Meets (Z:Zw) (N p:Nat) (as:List Kd) (c:Kd):Prop:=(Z.C.ca p=1->isVal c=false)/\(Z.C.ca p=2->isVal c=true)/\∀k∈Z.C.ac p,sub as k=c\/(isVal (sub as k)=false/\fI Z N false c (sub as k))
section
variable {x:Kd} {st:Bool}
theorem vM (h:HL Z s ts) (L:LR Z N) (j:aQ Z x) (y:aQ Z t) {i} (z:i=if st then 1 else 0)
 (q:∀s' r,Fr [] s s'->(r=true↔fI Z N st x t)->Q (.bool r) s'):aq sc (F+3*N+6) 90 [.ref Z.wd,enc x,enc t,.int i,.tup []] Q s:=by
 subst z;exact EN L.b N _ F [] x t Q s ts rfl h j y (λ_=>bg) (by have:=L.n;simp;exact oo 0x180e13c80aa001 this) (L.d x t j y) q
theorem v_ (h:lk hv t=true) (q:Q (.bool (!ak t&& !isVal t)) s):aq sc (n+2) 80 [enc t] Q s:=by
 refine cg rfl<|bA h ?_;by_cases j:ak t=true
 ·apply aO (λe=>e (eM.2 j));rw [j] at q;rw [hI λe=>e (eM.2 j)];exact q
 ·refine bW (λe=>j (eM.1 e))<|i6 h ?_;have:ak t=false:=by simpa using j
  rw [this] at q;exact q
theorem oM (h:lk hv t=true):aJ t=8↔isNul t=true:=by
 induction t with|a0 g=>show ((g:Int)=8)↔(g==8)=true;rw [g7];exact oq 52|a1 g y=>show ((g:Int)=8)↔(g==8)=true;rw [g7];exact oq 52|a2 g y z=>show ((g:Int)=8)↔(g==8)=true;rw [g7];exact oq 52|p i=>exact ⟨(λe=>by cases e),nofun⟩|v i=>exact ⟨(λe=>by trivial),nf⟩|ar i=>exact ⟨(λe=>by trivial),nf⟩|b i=>trivial
theorem QZ (h:HL Z s ts) (L:LR Z N) (A:aQ Z x) (D:aQ Z t)
 (q:∀s' r,Fr [] s s'->(r=true↔iT Z N x t)->Q (.bool r) s'):aq sc (F+3*N+7) 91 [.ref Z.wd,enc x,enc t] Q s:=by
 refine cg rfl<|bA A.l<|az (λe=> ?_) λe=> ?_
 ·exact q s false .ay ⟨nf,λhm=>by have:=hm.1;rw [(oM A.l).1 e] at this;trivial⟩
 have nx:isNul x=false:=by
  induction E:isNul x using Bool.casesOn with|false=>rfl|true=>exact dv ((oM A.l).2 E) e
 refine bA D.l<|az (λG=> ?_) λG=> ?_
 ·have nt:=(oM D.l).1 G;obtain ⟨y,rfl⟩:∃y,t= .a1 8 y:=by
   have hl:=D.l;induction t with|a0 g=>have:=g7.mp nt;subst this;exact dv (uv hl).2 (aa rfl)|a1 g y=>have:=g7.mp nt;subst this;exact ⟨y,rfl⟩|a2 g y z=>have:=g7.mp nt;subst this;exact dv (qS hl).1.1.2 (aa rfl)|_=>trivial
  refine ah rfl rfl<|kZ A.l (dK D.l ai) (by have:=A.d;exact oq 29 this)<|q s _ .ay ?_;rw [nz];constructor
  ·intro e;exact ⟨nx,.inl ⟨nt,by rw [e];rfl⟩⟩
  ·intro hm;rcases hm.2 with ⟨_,hm⟩|⟨hm,_⟩
   ·injection hm with hm;subst hm;rfl
   ·exact Bool.noConfusion (nt.symm.trans hm)
 ·have nt:isNul t=false:=by
   induction E:isNul t using Bool.casesOn with|false=>rfl|true=>exact dv ((oM D.l).2 E) G
  refine i6 D.l<|im (λj=> ?_) λj=> ?_
  ·
   refine kZ A.l D.l (by have:=A.d;exact oq 29 this)<|q s _ .ay ?_;rw [nz];constructor
   ·intro e;exact ⟨nx,.inr ⟨nt,.inl ⟨j,e⟩⟩⟩
   ·intro hm;rcases hm.2 with ⟨hm,_⟩|⟨_,⟨_,hm⟩|⟨hm,_⟩⟩
    ·exact Bool.noConfusion (nt.symm.trans hm)
    ·exact hm
    ·exact Bool.noConfusion (j.symm.trans hm)
  ·
   refine vM (st:=false) h L A D rfl λJ r1 f1 I=> ?_;apply q J r1 f1;rw [I];constructor
   ·intro e;exact ⟨nx,.inr ⟨nt,.inr ⟨j,e⟩⟩⟩
   ·intro hm;rcases hm.2 with ⟨hm,_⟩|⟨_,⟨hm,_⟩|⟨_,hm⟩⟩
    ·exact Bool.noConfusion (nt.symm.trans hm)
    ·exact Bool.noConfusion (j.symm.trans hm)
    ·exact hm
theorem Er {as} {c} (h:HL Z s ts) (L:LR Z N) (I:Z.has=true) (hp:p<2) (J:as.length=2) (hc:as[p]? =some c) (A:aQ Z c) (hz:∀k∈Z.C.ac p,aQ Z (sub as k))
 (q:∀s' r,Fr [] s s'->(r=true↔Meets Z N p as c)->Q (.bool r) s'):aq sc (F+3*N+7) 96 [.ref Z.wd,.int p,.tup (as.map enc)] Q s:=by
 apply cg rfl;obtain ⟨wk,w1,w2,_,_,_,_,_,_,w3⟩:=h.l.w;refine h.l.get h.h w1 w2 (w3 I)<|oE hp<|cA ⟨oq 0,oq 6 hp⟩ (i' enc hc) ?_;have loop:((Z.C.ca p=1->isVal c=false)/\(Z.C.ca p=2->isVal c=true))->wSs sc (F+3*N+6) (dr 2 (tl (bo 96))) (mn (eR Z.wd) (eI p) (some (.tup (as.map enc))) (eI (Z.C.ca p)) (some (.tup ((Z.C.ac p).map enc))) (some (enc c)) none none) (fin Q) s:=by
  intro Y;refine oR (λ_ rest ρ s'=>E4 λ(done left:List Kd) (o6 o7)=>A5 (Fr [] s s') (rest=left.map enc) (done++left=Z.C.ac p) (∀k∈done,sub as k=c\/(isVal (sub as k)=false/\fI Z N false c (sub as k))) (ρ=(mn (eR Z.wd) (eI p) (some (.tup (as.map enc))) (eI (Z.C.ca p)) (some (.tup ((Z.C.ac p).map enc))) (some (enc c)) o6 o7))) _ [] _ _ ⟨[],Z.C.ac p,none,none,.ay,rfl,rfl,(λ_=>bg),rfl⟩ ?_ ?_ ?_
  ·intro _ _ _ _ _;trivial
  ·rintro _ s' _ ⟨done,left,o6,o7,f',er,ed,hd,rfl⟩;induction left with|cons=>trivial|nil=>rw [hR] at ed;subst ed;exact q s' true f' ⟨λ_=>⟨Y.1,Y.2,hd⟩,λ_=>rfl⟩
  ·rintro K _ v rest _ s' ⟨done,left,o6,o7,f',er,ed,hd,rfl⟩ hK;induction left using List.casesOn with|nil=>trivial|cons k left=>
    obtain ⟨rfl,rfl⟩:=List.cons.inj er;have hk:k∈Z.C.ac p:=by rw [<-ed];simp
    have kl:=L.b.c.lk p k hk;have D:=hz k hk;have hvb:vb as.length k=true:=by
     rw [J];have:∀{x},lk true x=true->vb 2 x=true:=by
      intro x E;induction x with|p=>rfl|v i=>exact gs (dz E).2|ar x ih=>exact ih E|a0=>rfl|a1 g x ih=>replace E:=bq E;exact ih E.2|a2 g x y ih ih2=>replace E:=bq E;show (vb 2 x&&vb 2 y)=true;rw [ih E.1.2,ih2 E.2];rfl|b x=>trivial
     exact this kl.1
    have h':HL Z s' ts:=⟨h.h.new f',h.l⟩;have ok:∀{G} {o6},Fr [] s' G->(sub as k=c\/(isVal (sub as k)=false/\fI Z N false c (sub as k)))->K .next (mn (eR Z.wd) (eI p) (some (.tup (as.map enc))) (eI (Z.C.ca p)) (some (.tup ((Z.C.ac p).map enc))) (some (enc c)) o6 (some (enc (sub as k)))) G:=
     λf2 hok=>hK.next ⟨done++ [k],left,_,_,f'.trans f2,rfl,iq ed,λk' hk'=>by
      rcases aG hk' with j|j
      ·exact hd k' j
      ·replace j:=aj j;rw [j];exact hok,rfl⟩
    have bad:∀{G},Fr [] s' G->¬(sub as k=c\/(isVal (sub as k)=false/\fI Z N false c (sub as k)))->Q (.bool false) G:=λf2 hno=>q _ false (f'.trans f2) ⟨nf,λhm=>dv (hm.2.2 k hk) hno⟩;refine pj (oo 0xc4848a001 J) 5 (F+3*N+1) k _ s' kl.1 kl.2 hvb λG f2=> ?_;apply zT D.l A.l (by have:=D.d;exact oq 29 this);refine az (λe=> ?_) λe=>aO e<|ok f2 (.inl (Decidable.of_not_not e))
    ·apply i6 D.l;induction hvz:isVal (sub as k) using Bool.casesOn with
     |true=>
      refine hK.ret (bad f2 λhm=> ?_);rcases hm with hm|⟨hm,_⟩
      ·exact e hm
      ·exact Bool.noConfusion (hvz.symm.trans hm)
     |false=>
      refine vM (st:=false) ⟨h'.h.new f2,h.l⟩ L A D rfl λs3 r3 f3 hr3=> ?_;induction r3 with|true=>exact ok (f2.trans f3) (.inr ⟨hvz,hr3.1 rfl⟩)|false=>
       refine hK.ret (bad (f2.trans f3) λhm=> ?_);rcases hm with hm|⟨_,hm⟩
       ·exact e hm
       ·exact Bool.noConfusion (hr3.2 hm)
 refine az (λe=> ?_) λe=> ?_
 ·apply i6 A.l;induction z:isVal c using Bool.casesOn with|true=>exact q s false .ay ⟨nf,λhm=>by have:=hm.1 (oq 94 e);exact Bool.noConfusion (z.symm.trans this)⟩|false=>apply aO (oq 102 e);exact aO (oq 102 e)<|loop ⟨λ_=>z,λj=>dv j (oo 0xe240806121201 e)⟩
 ·refine aO e<|az (λe2=> ?_) λe2=>aO e2<|loop ⟨λj=>dv j (oq 96 e),λj=>dv j (oo 0xe2448068121201 e2)⟩
  ·apply i6 A.l;induction z:isVal c using Bool.casesOn with|true=>exact loop ⟨λj=>dv j (oo 0xd444806021201 e2),λ_=>z⟩|false=>exact q s false .ay ⟨nf,λhm=>by have:=hm.2.1 (oq 50 e2);exact Bool.noConfusion (z.symm.trans this)⟩
end
variable {out:List Kd}{e:Int}{o8:Option V}
noncomputable def jv:List Kd:= [.a0 64,.a0 65,.p 7,.a0 66,.a0 73,.a1 69 (.a0 65),.p 13,.a1 74 (.p 7),.a1 72 (.a0 64),.a0 75,.ar (.a0 64),.a0 67,.ar (.p 8)]
noncomputable def vP:List Kd:= [.a0 64,.a0 67,.a1 69 (.a0 64)]
def cZ (C:aM) (p:Nat) (out:List Kd) (c:Kd):Prop:=c∈jv\/(p=1/\∃k∈C.ac 1,c=sub [out.headD (.p 0),.a0 64] k)\/(p=0/\c∈vP)
theorem tI (z:l.length=n) (y:0<n):∃c∈l,(l.map enc)[(e%(n:Int)).toNat]? =some (enc c):=by have A:e%(n:Int)<n:=Int.emod_lt_of_pos _ (oq 11 y);have j:(e%n).toNat<l.length:=oo 0x46c21a9fdcb315ea19feac1188093 (by exact sT _) y A z;exact ⟨l[(e%n).toNat],List.getElem_mem _,by rw [ko,bZ j];rfl⟩
section
variable {x:Kd} {st:Bool}
theorem uo:∀{x},lk true x=true->vb 2 x=true:=by
 intro x j;induction x with|p=>rfl|v i=>exact gs (dz j).2|ar x z=>exact z j|a0=>rfl|a1 g x z=>replace j:=bq j;exact z j.2|a2 g x y z A=>replace j:=bq j;show (vb 2 x&&vb 2 y)=true;rw [z j.1.2,A j.2];rfl|b x=>trivial
noncomputable def xf:X:= .comp [3,1,5] "j" (.idx (.loc 1) (.bin .mod (.bin .add (.bin .div (.loc 2) (.bin .add (.lit (.int 1)) (.bin .mul (.lit (.int 12)) (.loc 3)))) (.bin .mul (.lit (.int 4)) (.loc 0))) (.lit (.int 13)))) (.blt .range (.cons (.lit (.int 3)) .nil)) .nil
theorem IP {m:Nat} (hm:m<2^40) (hp:p<2) (q:∀s' (a) (l:List Kd),Fr [] s s'->s'[a]? =some (.list (l.map enc))->s.length<=a->l.length=3->(∀c∈l,c∈jv)->Q (.ref a) s'):
 wE sc n (cf o0 (eI m) (some (enc (.a0 64))) (some (.tup (jv.map enc))) o4 (eI p) o6 o7 o8) xf Q s:=by
 refine lZ (aa rfl)<|kq (aa rfl) ?_;have one:∀{j} {Q} {s},0<=j/\j<3->(∀c∈jv,Q (some (enc c)) s)->oV sc n (j7 (eI j) (some (.tup (jv.map enc))) (eI m) (eI p)) (.idx (.loc 1) (.bin .mod (.bin .add (.bin .div (.loc 2) (.bin .add (.lit (.int 1)) (.bin .mul (.lit (.int 12)) (.loc 3)))) (.bin .mul (.lit (.int 4)) (.loc 0))) (.lit (.int 13)))) .nil Q s:=by intro j Q s I q;refine rH (aa rfl)<|cB ⟨oo 0x180f40985401,oq 4 (by exact sA _) hm⟩<|rH (aa rfl)<|bH (aa rfl) ?_;obtain ⟨c,y,e⟩:=tI (l:=jv) rfl (aa rfl);have z:0<=((m:Int)/(1+12*(p:Int))+4*j)%13:=Int.emod_nonneg _ (aa rfl);exact cA ⟨z,oo 0x20d0393c176f1e4a0c40 (by exact sZ _ _ rfl)⟩ e (q c y)
 refine gS trivial (one (aa rfl) λc0 A=> ?_);refine gS trivial (one (aa rfl) λc1 z=> ?_);refine gS trivial (one (aa rfl) λc2 D=> ?_);refine g8 trivial<|je (ll rfl) λE f1 G J=> ?_;refine q E s.length [c0,c1,c2] f1 G (g6 _) rfl λc y=> ?_;replace y:=fL y;rcases y with rfl|rfl|rfl
 ·exact A
 ·exact z
 ·exact D
def BL:Ss:= .cons (.asg 6 xf) (dr 1 (bd (dr 3 (bo 97))))
abbrev kP (Z:Zw) (m p:Nat) (out:List Kd) (o6 o7 o8:Option V):ag:=(cf (eR Z.wd) (eI m) (some (enc (.a0 64))) (some (.tup (jv.map enc))) (some (.tup (out.map enc))) (eI p) o6 o7 o8)
theorem OF {m A} (L:LR Z N) (hp:p<2) (ho:out.length=p) (e1:s[A]? =some (.list (l.map enc))) (hl3:l.length=3) (hls:∀c∈l,c∈jv)
 (q:∀s' (l:List Kd) (o7),Fr [A] s s'->s'[A]? =some (.list (l.map enc))->l.length<=10->(∀c∈l,cZ Z.C p out c)->Q' .next (kP Z m p out (some (.ref A)) o7 o8) s'):
 WF sc (F+3*N+7) (.tup ((Z.C.ac p).map enc)) (false,(Z.C.ac p).map enc) [7] false (EZ (tl BL)) ((Z.C.ac p).map enc) (kP Z m p out (some (.ref A)) o7 o8) Q' s:=by
 have G:=L.b.c.ok.qG p;refine Jw (λ_ left ρ s'=>E2 λ(l:List Kd) (o7)=>A6 (Fr [A] s s') (s'[A]? =some (.list (l.map enc))) (∀k∈left,k∈Z.C.ac p) (l.length+left.length<=10) (∀c∈l,cZ Z.C p out c) (ρ=kP Z m p out (some (.ref A)) o7 o8)) _ [] _ _ ⟨l,o7,.ay,e1,λk hk=>hk,oo 0x3130054108c1002 hl3 G,λc hc=> .inl (hls c hc),rfl⟩ (λ_ _ _ _ _=>trivial) ?_ ?_
 ·rintro ρ s' _ ⟨l,o7,Y,y,hk,hl,j,er⟩;rw [er];exact q s' l o7 Y y hl j
 ·rintro K _ k left ρ s' ⟨l,o7,Y,y,hk,hl,j,er⟩ hK;rw [er];have z:=hk k ai;have kl:=L.b.c.lk p k z;rw [iZ] at hl;have add:∀{s2 E} {c},Fr [] s' s2->Fr [A] s2 E->E[A]? =some (.list (l.map enc++ [enc c]))->cZ Z.C p out c->K .next (kP Z m p out (some (.ref A)) (some (enc k)) o8) E:=
   λ{s2 E c} f2 f3 I hcc=>hK.next ⟨l++ [c],_,(Y.trans (aI f2)).trans f3,by rw [I,lh];rfl,λk D=>hk k (.tail _ D),by rw [aL];show l.length+1+_<=_;exact oo 0x32206420118045002 hl,λc' hc'=>(aG hc').elim (j c') λhh=>aj hh▸hcc,rfl⟩
  have skip:K .next (kP Z m p out (some (.ref A)) (some (enc k)) o8) s':=hK.next ⟨l,_,Y,y,λk D=>hk k (.tail _ D),Nat.le_of_succ_le hl,j,rfl⟩
  by_cases p0:p=0
  ·rw [p0];rw [p0] at add skip;refine h_ (pH (l:=vP) (aa rfl) kl.1 (oo 0xf080ca001 kl.2))<|az (λJ=> ?_) λJ=>skip
   ·exact ee y<|eg y (by rw [aC];exact oq 103 hl) λE f3 I l3=>add .ay f3 I (.inr (.inr ⟨rfl,J⟩))
  ·have p1:p=1:=oo 0x3412905248410a12048202101 hp p0;rw [p1];rw [p1] at add z ho;obtain ⟨c0,ec⟩:∃c0,out= [c0]:=List.length_eq_one_iff.mp ho;rw [ec];rw [ec] at add;refine ee y<|ah rfl rfl<|pj (as:= [c0,.a0 64]) (ll rfl) 5 (F+3*N+2) k _ s' kl.1 kl.2 (uo kl.1) λs2 f2=> ?_;exact eg (f2.gn y) (by rw [aC];exact oq 103 hl) λE f3 I l3=>add f2 f3 I (.inr (.inl ⟨rfl,k,z,rfl⟩))
theorem Ce {m:Nat} (h:HL Z s ts) (L:LR Z N) (z:Z.has=true) (hm:m<2^40) (hp:p<2) (ho:out.length=p) (hol:∀c∈out,lk true c=true)
 (hc:∀c,cZ Z.C p out c->aQ Z c/\∀k∈Z.C.ac p,aQ Z (sub ((out++ [c,c]).take 2) k))
 (qr:∀s' ρ,Fr [] s s'->Q' (.ret (.tup [])) ρ s')
 (qn:∀s' c o6 o7 o8,Fr [] s s'->cZ Z.C p out c->Meets Z N p ((out++ [c,c]).take 2) c->Q' .next (kP Z m p (out++ [c]) o6 o7 o8) s'):
 wSs sc (F+3*N+7) BL (kP Z m p out o6 o7 o8) Q' s:=by
 obtain ⟨wk,w1,w2,_,_,_,_,_,_,w3⟩:=h.l.w;refine IP hm hp λs1 A l f1 e1 hA hl3 hls=> ?_;have h1:HL Z s1 ts:=⟨h.h.new f1,h.l⟩;refine h.l.get h1.h w1 w2 (w3 z)<|oE hp<|ah rfl rfl<|OF L hp ho e1 hl3 hls λs2 l2 o7 f2 e2 Y hcd=> ?_;have h2:HL Z s2 ts:=⟨h1.h.g9 f2 λj hj=>aj hj▸(h.h.off hA),h.l⟩;have fr2:Fr [] s s2:=(aI f1:Fr [A] s s1).trans f2|>.cut λj hj hl=>dv hl (KD.mpr (aj hj▸hA));refine cV e2 (by rw [aC];exact oq 18 Y)<|vk (λdone ys left s'=>∃good:List Kd,Fr [] s2 s'/\ys=good.map enc/\good.length<=done.length/\(∀c∈left,c∈l2)/\done.length+left.length=l2.length/\(∀c∈good,c∈l2/\Meets Z N p ((out++ [c,c]).take 2) c)) l2 [] [] s2 ⟨[],.ay,rfl,g6 _,λ_ h=>h,Nat.zero_add _,λ_=>bg⟩ ?_ ?_ ?_
 ·rintro _ _ _ s' ⟨good,G,_⟩;exact .inl ⟨G.gn e2,rfl⟩
 ·rintro done zs s' ⟨good,G,ey,y,_,I,hg⟩;rw [List.nil_append] at ey;rw [ey];have y:=df y (df (Nat.le_of_eq I) Y);refine je (by rw [aC];exact oq 18 y) λs3 f3 e3 l3=> ?_;have fr3:=(fr2.trans G).trans f3;apply dW e3 (by rw [aC];exact oq 18 y);rw [aC];refine az (λe=>qr s3 _ fr3) λe=> ?_;induction good with|nil=>exact dv rfl e|cons c r=>have g1:=hg c ai;refine ce e3 (aa rfl) rfl<|i0 (by rw [aC,ho];show p+1<=_;exact oo 0x189043409001 hp) ?_;rw [show out.map enc++ [enc c]=(out++ [c]).map enc from by rw [lh];rfl];exact qn s3 c _ _ _ fr3 (hcd c g1.1) g1.2
 ·rintro done ys c left s' ⟨good,G,ey,y,hle,I,hg⟩;have hcl:=hle c ai;have k1:=hc c (hcd c hcl);have J:((out++ [c,c]).take 2).length=2:=by rw [List.length_take,aL];exact Nat.min_eq_left (Eb _ _)
  have hget:((out++ [c,c]).take 2)[p]? =some c:=by rw [List.getElem?_take_of_lt hp,JO (Nat.le_of_eq ho),ho,Nat.sub_self];rfl
  apply i0 (by rw [aC,ho];show p+2<=_;exact oq 104 hp);rw [show out.map enc++ [enc c,enc c]=(out++ [c,c]).map enc from by rw [lh];rfl];apply m6 ⟨aa rfl,by rw [aC,aL];exact Eb 2 _,by rw [aC,aL,ho];show p+2<=_;exact oq 104 hp⟩;rw [show ((out++ [c,c]).map enc).take (2:Int).toNat=((out++ [c,c]).take 2).map enc from List.map_take.symm];refine Er (F:=F) ⟨h2.h.new G,h.l⟩ L z hp J hget k1.1 k1.2 λs3 r f3 hr=> ?_;have D:∀c∈left,c∈l2:=λc hc=>hle c (.tail _ hc);have E:(done++ [c]).length+left.length=l2.length:=by rw [aL,<-I];show done.length+1+_=_+(_+1);exact oo 0x606428045102
  induction r with|true=>exact ⟨good++ [c],G.trans f3,by rw [ey,lh];rfl,by rw [aL,aL];exact wi y,D,E,λc' hc'=>(aG hc').elim (hg c') λhh=>aj hh▸⟨hcl,hr.1 rfl⟩⟩|false=>exact ⟨good,G.trans f3,by rw [ey];exact hR _,by rw [aL];exact Nat.le_succ_of_le y,D,E,hg⟩
end
variable {U':List Kd}{lE:Bool}
noncomputable def Zw.wU (Z:Zw) (U':List Kd):Zw:={Z with U:=U'}
section
variable {x:Kd} {st:Bool}
theorem Kt.wU {Z} (h:Kt Z s ts) (sub:∀x∈Z.U,x∈U') (ok:∀t∈U',dw t=true/\dp t<=24/\wt t<=4096) (len:U'.length<=30000):Kt {Z with U:=U'} s ts:=
 ⟨h.kt,h.rows,h.index,h.fV,h.gi,h.opens,h.nd,h.kids,h.pr,λt j=>sub t (h.sub t j),ok,len,h.apart⟩
theorem Wd.wU (h:Wd Z) (dh:eJ Z.W U'):Wd (Z.wU U'):=
 ⟨h.KM,h.types,λg hg=>by obtain ⟨fs,t⟩:=h.ty g hg;exact ⟨fs,t.o,t.sort,t.base,t.eU,t.gE,t.kG,t.gx,t.lQ⟩,h.KL,h.hb,h.hg,dh,h.KN⟩
theorem HL.wU (h:HL Z s ts) (sub:∀x∈Z.U,x∈U') (ok:∀t∈U',dw t=true/\dp t<=24/\wt t<=4096) (len:U'.length<=30000) (dh:eJ Z.W U'):HL (Z.wU U') s ts:=
 ⟨⟨h.h.kt.wU sub ok len,h.h.fr,h.h.pre,h.h.wd.wU dh,h.h.md⟩,⟨h.l.w,h.l.up,h.l.wy,h.l.un⟩⟩
theorem D4 {m} (hm:3*N+7<=m) (h:HL Z s ts) (L:LR Z N) (j:aQ Z x) (y:aQ Z t)
 (q:∀s' r,Fr [] s s'->(r=true↔iT Z N x t)->Q (.bool r) s'):aq sc m 91 [.ref Z.wd,enc x,enc t] Q s:=by
 obtain ⟨F,rfl⟩:∃F,m=F+3*N+7:=⟨m-(3*N+7),oo 0x537f028d84cf7e14a41ffc310aa9abba2c33c103 (by exact sO _ _) hm⟩;exact QZ h L j y q
theorem xR {m} (hm:3*N+6<=m) (h:HL Z s ts) (L:LR Z N) (j:aQ Z x) (y:aQ Z t) {i} (z:i=if st then 1 else 0)
 (q:∀s' r,Fr [] s s'->(r=true↔fI Z N st x t)->Q (.bool r) s'):aq sc m 90 [.ref Z.wd,enc x,enc t,.int i,.tup []] Q s:=by
 obtain ⟨F,rfl⟩:∃F,m=F+3*N+6:=⟨m-(3*N+6),oo 0x537f028d84cf7e152ccffc5e9aa9ac262c33c103 (by exact sO _ _) hm⟩;exact vM h L j y z q
theorem HD {m M:Nat} (Y:3*N+8<=M) (h:HL Z s ts) (L:LR Z N) (y:Z.has=true) (hm:m<2^40)
 (z:∀c,cZ Z.C 0 [] c->aQ Z c/\lk false c=true/\∀k∈Z.C.ac 0,aQ Z (sub [c,c] k)) (E:∀c0,cZ Z.C 0 [] c0->∀c,cZ Z.C 1 [c0] c->aQ Z c/\∀k∈Z.C.ac 1,aQ Z (sub [c0,c] k))
 (J:∀s',Fr [] s s'->Q (.tup []) s')
 (q1:∀s' c0 c1,Fr [] s s'->cZ Z.C 0 [] c0->cZ Z.C 1 [c0] c1->Meets Z N 0 [c0,c0] c0->Meets Z N 1 [c0,c1] c1->Q (.tup [enc c0,enc c1]) s'):aq sc M 97 [.ref Z.wd,.int m] Q s:=by
 obtain ⟨F,rfl⟩:∃F,M=F+3*N+8:=⟨M-(3*N+8),oo 0x537f028d84cf7e14f98dfc4d84a9abfdac33c103 (by exact sO _ _) Y⟩;refine cg rfl<|bz trivial<|Ce (out:= []) h L y hm (aa rfl) rfl (λ_=>bg) (λc A=>⟨(z c A).1,(z c A).2.2⟩) (λs' ρ f=>J s' f) λs1 c0 o6 o7 o8 f1 j G=> ?_;have h1:HL Z s1 ts:=⟨h.h.new f1,h.l⟩;refine bz trivial<|Ce h1 L y hm (aa rfl) rfl (λc A=>by replace A:=aj A;rw [A];exact oj (z c0 j).2.1) (E c0 j) (λs' ρ f=>J s' (f1.trans f)) λs2 c1 o6 o7 o8 f2 D I=> ?_;exact dH trivial<|q1 s2 c0 c1 (f1.trans f2) j D G I
abbrev I4 (Z:Zw) (x:Kd) (t:Kd):Prop:=∃QU,fP Z.W Z.C QU/\(asked x (di t)->(x,di t)∈QU)/\(asked (.b x) t->(.b x,t)∈QU)/\(∀w,dU Z.W x w->ao w=ao (di t)->jB QU w (di t))/\(∀w,dU Z.W x w->ao w=ao t->jB QU w t)
structure jw (Z:Zw) N (x t):Prop where
 qu:I4 Z x t
 inst:vQ Z.W Z.C x t↔iT Z N x t
 box:isVal x=true->isVal t=false->isNul x=false->(oA Z.W Z.C x t↔iT Z N x t)/\(cj (MG Z.W Z.C false) (.b x) t↔iT Z N x t)
theorem AY (h:H Z s ts) (hd:Den ts k x) {R} (q:R (decide (.b x∈ts)) s):
 P 7 (getAttr ct (.ref Z.KL) 29) (λo s=>P 7 (getAttr ct o 4) (λd s=>P 1 (cC .isin (.tup [.int 8,.int k]) d) R s) s) s:=by
 obtain ⟨fs,j,A,_⟩:=h.wd.KL;refine am (h.get j) rfl A<|am h.kt.kt rfl rfl ?_;have e:V.tup [.int 8,.int k]=bK (ix ts) (.b x):=by rw [gY h.kt.nd hd (eD hd.mem)];rfl
 rw [e];apply mL h.kt.index tZ;rw [mQ λy D e=>vU (h.kt.kids y D) (λz hz=>by simp [kids] at hz;exact hz▸hd.mem) e];by_cases hm:Kd.b x∈ts
 ·rw [ep hm];rw [gs hm] at q;exact q
 ·rw [fm hm];rw [hI hm] at q;exact q
theorem eJ.M' {U} (h:eJ W U) (D:x∈U) (hv:isVal x=true) (hm:∀y,y∈U'↔y∈U\/y= .b x):eJ W U':=by
 refine ⟨(hm _).2 (.inl h.vt),λt j y z=> ?_,λt j y z=> ?_,λi A=> ?_,λt j E=> ?_⟩
 ·rcases (hm t).1 j with j|rfl
  ·exact (hm y).2 (.inl (h.par t j y z))
  ·exact (hm y).2 (.inl (h.par x D y z))
 ·rcases (hm t).1 j with j|rfl
  ·exact (hm y).2 (.inl (h.bL t j y z))
  ·replace z:=aj z;rw [z];exact (hm x).2 (.inl D)
 ·rcases (hm _).1 A with A|A
  ·exact (hm _).2 (.inl (h.box i A))
  ·trivial
 ·rcases (hm t).1 j with j|rfl
  ·exact h.wf t j E
  ·trivial
theorem rg:lk hv t=true->wt t<2^dp t:=by
 have o:∀{x:Kd},wt x<2^dp x->1+wt x<2^(dp x+1):=λh=>by rw [Nat.pow_succ];exact oo 0x68013300853803082 h
 have l:1<2^1:=by decide
 exact Kd.rec (λ_ _=>l) (λ_ _=>l) (λ_ i h=>o (i h)) (λ_ _=>l) (λ_ _ i h=>o (i (aZ h).2)) (λ_ x y i j h=>by have z:=i (bq h).1.2;have A:=j (bq h).2;have D:2^dp x<=2^max (dp x) (dp y):=Nat.pow_le_pow_right (aa rfl) (oo 0xc94600adfd8003 (by exact sM _ _));have E:2^dp y<=2^max (dp x) (dp y):=Nat.pow_le_pow_right (aa rfl) (oo 0xc982b8817d8003 (by exact sM _ _));show 1+wt x+wt y<2^(max (dp x+1) (dp y+1));rw [show max (dp x+1) (dp y+1)=max (dp x) (dp y)+1 from Nat.succ_max_succ ..,Nat.pow_succ];exact oo 0xa030c00a105da7038d000d085 z D A E) (λ_ _=>nf) t
theorem aQ.wt (h:aQ Z x):wt x<=128:=by have j:=rg h.l;have y:2^dp x<=2^7:=Nat.pow_le_pow_right (aa rfl) h.d;exact oq 30 j y
def dZ (U ts:List Kd):Prop:=∀y,isVal y=true-> .b y∈U-> .b y∈ts
theorem CU (h:HL Z s ts) (A:aQ Z x) (hv:isVal x=true) (j:Z.U.length<=29000):HL (Z.wU (Z.U++ [.b x])) s ts:=by
 have hm:∀y,y∈Z.U++ [.b x]↔y∈Z.U\/y= .b x:=λy=>by rw [JC,w4]
 refine h.wU (λy z=>aA _ z) (λy z=> ?_) (by simp;exact oo 0x338a47900752ff2001 j) (h.h.wd.dh.M' A.u hv hm);rcases (hm y).1 z with z|rfl
 ·exact h.h.kt.ok y z
 ·have E:=h.h.kt.ok x A.u;have D:=A.wt;exact ⟨by show (isVal x||ak x)=true;rw [hv];rfl,(h.h.kt.ok x A.u).2.1,by show 1+Mine.wt x<=4096;(exact oo 0x3ea002001e403001 D)⟩
theorem yx {r}:V.eqv (.bool r) (.bool r)=true:=by induction r using Bool.casesOn<;>rfl
theorem qs {r}:(!V.eqv (.bool r) (.bool r))=false:=by rw [yx];rfl
theorem yJ (h:HL Z s ts) (L:LR Z N) (G:aQ Z x) (ht:aQ Z t) (hxv:ak x=false) (htv:ak t=false) (hcl:jw Z N x t) (hlet:lE=true->iT Z N x t)
 (bi:dZ Z.U ts) (hlen:Z.U.length<=29000)
 (q:∀s' ae U',HL (Z.wU U') s' ae->dZ U' ae->U'=Z.U\/(isVal x=true/\U'=Z.U++ [.b x])->ts<+:ae->Fr (Z.KN::Z.m) s s'->Q (.bool true) s'):aq sc (F+3*N+24) 100 [.ref Z.wd,.ref Z.KL,enc x,enc t,.bool lE] Q s:=by
 apply cg rfl;obtain ⟨QU,hq,hq1,hq2,hq3,hq4⟩:=hcl.qu;have hc:=L.b.c.ok;have D:∀{s' ae},HL Z s' ae->ts<+:ae->Fr (Z.KN::Z.m) s s'->Q (.bool true) s':=λh' p' f'=>q _ _ Z.U h' (λy hy I=>p'.mem (bi y hy I)) (.inl rfl) p' f';refine ou 7 (F+3*N+9) x _ s ts h G.u (ch G.l) G.d G.d λs1 ts1 k1 h1 p1 f1 d1=> ?_;refine ou 7 (F+3*N+9) t _ s1 ts1 h1 ht.u (ch ht.l) ht.d ht.d λs2 J k2 h2 p2 f2 d2=> ?_;have d1':=d1.mono p2;refine D4 (oo 0x3da0ae52d057002) h2 L G ht λs3 want f3 z=> ?_;have h3:HL Z s3 J:=⟨h2.h.new f3,h2.l⟩;apply AY h3.h d1';have hk:cQ x=true:=by
  have:=G.l;induction x using Kd.casesOn<;>first|rfl|(cases hxv;done)|(cases this;done)|skip
  exact this
 refine Kb h3.h hc hq d1' d2 hk hq3 hq1 λs4 ts4 got h4 p4 f4 hgot=> ?_;have Y:=((f1.trans f2).trans (aI f3)).trans (f4.sub λj hj=> .tail _ hj);have E:=(p1.trans p2).trans p4;have h4':HL Z s4 ts4:=⟨h4,h.l⟩;have same:=JH.mpr (hgot.trans (hcl.inst.trans z.symm));subst same;have hlet':lE=true->got=true:=λe=>z.2 (hlet e);have dx4:=d1'.mono p4;have dt4:=d2.mono p4;have rest:wSs sc (F+3*N+23) (dr 5 (tl (bo 100))) (oz (eR Z.wd) (eR Z.KL) (some (enc x)) (some (enc t)) (some (.bool lE)) (eI k1) (eI k2) (some (.bool got)) (some (.bool (decide (.b x∈J)))) (some (.bool got))) (fin Q) s4:=by
  apply v_ G.l;rw [hxv];induction hvx:isVal x using Bool.casesOn with
  |false=>exact D h4' E Y|true=>
  apply i6 ht.l;induction hvt:isVal t using Bool.casesOn with
  |true=>exact D h4' E Y|false=>
  refine bA G.l<|az (λe=> ?_) λe=> ?_
  ·exact D h4' E Y
  have hb1:=hcl.box hvx hvt (KG.mpr λhh=>e ((oM G.l).2 hh));refine Cj h4 hc hq dx4 dt4 hk hq4 λs5 ts5 r5 h5 p5 f5 hr5=> ?_;have e5:=JH.mpr (hr5.trans (hb1.1.trans z.symm));subst e5;have h5':HL Z s5 ts5:=⟨h5,h.l⟩;refine mW rfl<|jz qs<|AY h5 (dx4.mono p5) ?_;have e6:decide (Kd.b x∈ts5)=decide (Kd.b x∈J):=by have:Kd.b x∈ts5↔Kd.b x∈J:=⟨λhh=>(p1.trans p2).mem (bi x hvx (h5.kt.sub _ hh)),λhh=>(p4.trans p5).mem hh⟩;simp only [this]
  rw [e6];apply mW rfl;apply jz qs;have h6:=CU h5' G hvx hlen;obtain ⟨fs,g1,g2,_⟩:=h6.h.wd.KL;refine am (h6.h.get g1) rfl g2<|rM h6.h.kt (aS _ ai) (dx4.mono p5) λs7 ts7 k7 K7 p7 f7 d7=> ?_;refine vJ (Z:=Z.wU (Z.U++ [.b x])) (h6.h.step K7 p7 f7) hc hq d7 ((dt4.mono p5).mono p7) hq2 λs8 ts8 r8 h8 p8 f8 hr8=> ?_;have e8:=JH.mpr (hr8.trans (hb1.2.trans z.symm));subst e8;apply sI rfl;rw [yx];exact q s8 ts8 _ ⟨h8,h6.l⟩ (λy hy I=>by
   rcases aG I with I|I
   ·exact (((E.trans p5).trans p7).trans p8).mem (bi y hy I)
   ·replace I:=aj I;cases I;exact p8.mem d7.mem) (.inr ⟨hvx,rfl⟩) (((E.trans p5).trans p7).trans p8) (((Y.trans (f5.sub λj hj=> .tail _ hj)).trans (f7.sub λj hj=> .tail _ hj)).trans (f8.sub λj hj=> .tail _ hj))
 refine mW rfl<|jz qs ?_;induction lE with|false=>exact rest|true=>have:=hlet' rfl;subst this;exact rest
theorem aQ.wU (h:aQ Z x) (sub:∀y∈Z.U,y∈U'):aQ (Z.wU U') x:=⟨sub x h.u,h.l,h.d⟩
def bx (x:Kd):Kd:=if ak x||isVal x then .b x else x
end
noncomputable def jy:List Kd:= [.p 12,.a0 64,.a0 65,.a0 66,.v 0,.v 1,.a0 67,.a1 69 (.v 0),.p 13,.a0 73,.ar (.a0 64),.a1 69 (.a0 64)]
theorem u6:∀r∈jy,lk true r=true/\wt r<=2:=by decide
def sX (u t:Kd):Prop:=lk true t=true/\wt t<=wt u+1/\ak t=false
section
variable {x:Kd} {st:Bool}
theorem nb {b} (h:Nat.ble a b=true):a<=b:=nk h
theorem pX x:1<=wt x:=x.casesOn (λ_=>g6 _) (λ_=>g6 _) (λ_=>ro _ _) (λ_=>g6 _) (λ_ _=>ro _ _) (λ_ _ _=>df (ro _ _) (ro _ _)) λ_=>ro _ _
theorem Nv {m:Nat} (hm:m<2^40) (F:lk true u=true) (hn:kids u≠ []) (q:∀t,sX u t->Q (enc t) s):aq sc (n+2) 98 [enc u,.int m] Q s:=by
 refine cg rfl<|bA F ?_;obtain ⟨r,D,I⟩:∃r∈jy,∀d,0<d->True:=⟨.p 12,ai,λ_ _=>trivial⟩;have pick:∀d,0<d->∃r∈jy,(jy.map enc)[((m:Int)/d%12).toNat]? =some (enc r):=λd hd=>tI (l:=jy) (n:=12) rfl (aa rfl);have A:∀d,0<=(m:Int)/d%12/\(m:Int)/d%12<2^60:=λd=>by have h1:0<=(m:Int)/d%12:=Int.emod_nonneg _ (aa rfl);have h2:(m:Int)/d%12<12:=Int.emod_lt_of_pos _ (aa rfl);exact oo 0x3e4b3f3968ff613520853ab0 (by exact sZ _ _ rfl)
 have one:∀{i} {y},enc u= .tup [.int i,enc y]->(∀r∈jy,∃t,enc t= .tup [.int i,enc r]/\sX u t)->
  wSs sc (n+1) (dr 2 (tl (bo 98))) (e_ (some (enc u)) (eI m) (some (enc (.a0 64))) (some (.tup (jy.map enc))) none) (fin Q) s:=by
  intro i y eu ht;rw [eu];refine bP (ll rfl)<|bH (show (0:Int)<1 by decide) ?_;have e1:(m:Int)%(2-1)=0:=Int.emod_one _;rw [show (([V.int i,enc y].length:Nat):Int)-1=1 from rfl,show (m:Int)%1=0 by exact oo 0x106819145008f0509a1 (by exact sZ _ _ rfl)];refine m6 ⟨aa rfl,nb rfl,ll rfl⟩<|bP (ll rfl)<|cB ⟨show (0:Int)<1 by decide,oq 4 (by exact sA _) hm⟩<|bH (aa rfl) ?_;obtain ⟨r,D,I⟩:=pick 1 (aa rfl);refine cA (A 1) I<|i0 (nb rfl)<|nQ ⟨aa rfl,nb rfl,ll rfl⟩<|i0 (nb rfl) ?_;obtain ⟨t,J,L⟩:=ht r D;have:=q t L;rw [J] at this;exact this
 have two:∀{i} {y z},enc u= .tup [.int i,enc y,enc z]->(∀r∈jy,(∃t,enc t= .tup [.int i,enc r,enc z]/\sX u t)/\∃t,enc t= .tup [.int i,enc y,enc r]/\sX u t)->
  wSs sc (n+1) (dr 2 (tl (bo 98))) (e_ (some (enc u)) (eI m) (some (enc (.a0 64))) (some (.tup (jy.map enc))) none) (fin Q) s:=by
  intro i y z eu ht;rw [eu];refine bP (ll rfl)<|bH (show (0:Int)<2 by decide) ?_;rw [show (([V.int i,enc y,enc z].length:Nat):Int)-1=2 from rfl];have Y:(m:Int)%2=0\/(m:Int)%2=1:=oo 0x10450334014a28a5145508f01098509b21 (by exact sZ _ _ rfl);obtain ⟨r,D,I⟩:=pick 2 (aa rfl);rcases Y with Y|Y
  ·rw [Y];refine m6 ⟨aa rfl,nb rfl,ll rfl⟩<|bP (ll rfl)<|cB ⟨show (0:Int)<2 by decide,oq 4 (by exact sA _) hm⟩<|bH (aa rfl)<|cA (A 2) I<|i0 (nb rfl)<|nQ ⟨by decide,nb rfl,ll rfl⟩<|i0 (nb rfl) ?_;obtain ⟨⟨t,J,L⟩,_⟩:=ht r D;have:=q t L;rw [J] at this;exact this
  ·rw [Y];apply m6 ⟨by decide,nb rfl,ll rfl⟩;apply bP (ll rfl);apply cB ⟨show (0:Int)<2 by decide,oq 4 (by exact sA _) hm⟩;apply bH (aa rfl);apply cA (A 2) I;apply i0 (nb rfl);apply nQ ⟨by decide,nb rfl,ll rfl⟩;apply i0 (nb rfl);obtain ⟨_,t,J,L⟩:=ht r D;have:=q t L;rw [J] at this;exact this
 induction u with
 |p i=>exact dv rfl hn|v i=>exact dv rfl hn|a0 g=>exact dv rfl hn|b y=>contradiction|a1 g y=>have E:=bq F;have z0:=iz E.1.1;refine one (y:=y) rfl λr D=>⟨.a1 g r,rfl,?_⟩;obtain ⟨r1,G⟩:=u6 r D;have z1:=pX y;exact ⟨bQ (aZ F).1 r1,by show 1+wt r<=1+wt y+1;exact oq 105 z1 G,rfl⟩|a2 g y z=>
  have E:=gJ F;have z2:=iz E.1.1.1;refine two (y:=y) (z:=z) rfl λr D=> ?_;obtain ⟨r1,G⟩:=u6 r D;have z3:=pX y;have z4:=pX z;exact ⟨⟨.a2 g r z,rfl,bQ (bQ (bq F).1.1 r1) E.2,by show 1+wt r+wt z<=1+wt y+wt z+1;exact oo 0x22f91222883840ef400d003 z3 G,rfl⟩,
   ⟨.a2 g y r,rfl,bQ (aZ F).1 r1,by show 1+wt y+wt r<=1+wt y+wt z+1;exact oo 0x2300aa22884380ef400d003 z4 G,rfl⟩⟩
 |ar y=>
  apply ah rfl rfl;refine i6 F ?_;refine nq (λhvy=> ?_) λhvy=> ?_
  ·
   refine one (y:=y) rfl λr D=>⟨.ar r,rfl,?_⟩;obtain ⟨r1,G⟩:=u6 r D;have z5:=pX y;exact ⟨r1,by show 1+wt r<=1+wt y+1;exact oq 105 z5 G,rfl⟩
  ·
   apply bH (aa rfl);have h1:0<=(m:Int)%13:=Int.emod_nonneg _ (aa rfl);have h2:(m:Int)%13<13:=Int.emod_lt_of_pos _ (aa rfl);have z6:=pX y;refine az (λe=> ?_) λe=> ?_
   ·apply bH (aa rfl);obtain ⟨j,hj⟩:∃j:Nat,(m:Int)%13=j:=⟨((m:Int)%13).toNat,oo 0xa2b204010cc1a0040100379c0423d009a2 (by exact sZ _ _ rfl) (by exact sT _)⟩;rw [hj];exact q (.ar (.p (1+j))) ⟨by simp only [lk,hQ,H'];exact oo 0x109503200140600e23cd40180018082a2 (by exact sZ _ _ rfl) hj,by show 1+1<=1+wt y+1;exact oq 53,rfl⟩
   ·apply bH (aa rfl);have:(m:Int)%13=11\/(m:Int)%13=12:=oo 0x208140cd000a5a00a5a00d34f2a088f1d09a909b21 (by exact sZ _ _ rfl) e;rcases this with e1|e1
    ·rw [e1];exact cA (v:=enc (.a0 75)) (aa rfl) rfl<|q (.ar (.a0 75)) ⟨rfl,by show 1+1<=1+wt y+1;exact oq 53,rfl⟩
    ·rw [e1];exact cA (v:=enc (.a0 76)) (aa rfl) rfl<|q (.ar (.a0 76)) ⟨rfl,by show 1+1<=1+wt y+1;exact oq 53,rfl⟩
end
def G0:List Kd:=fK++ [.v 0,.v 1,.b (.v 0),.b (.v 1),.a0 2,.a0 3,.a0 5,.a0 6,.a0 64,.a0 65,.a0 66,.a0 67,.a0 68,.a0 73,.a0 75,.a0 76,.a1 72 (.a0 64),
 .a1 69 (.a0 64),.a1 69 (.a0 65),.a1 69 (.a0 66),.a1 69 (.a0 73),.a2 70 (.a0 64) (.a0 65),.a2 70 (.a0 65) (.a0 64),.a2 70 (.a0 65) (.a0 65),.a2 70 (.a0 65) (.a0 66),.a2 70 (.a0 65) (.a0 73),
 .a1 69 (.a1 69 (.a0 64)),.a1 69 (.a1 69 (.a0 65)),.a1 69 (.a1 69 (.a0 66)),.a1 69 (.a1 69 (.a0 73))]
def subs:Kd->List Kd:=Kd.rec (λn=> [.p n]) (λi=> [.v i]) (λx l=> .ar x::l) (λh=> [.a0 h]) (λh x l=> .a1 h x::l) (λh x y l m=> .a2 h x y::(l++m)) λx l=> .b x::l
def cl (x:Kd):List Kd:=subs x++(subs x).map (.a1 69)
theorem dX x:x∈subs x:=x.casesOn (λ_=>ai) (λ_=>ai) (λ_=>ai) (λ_=>ai) (λ_ _=>ai) (λ_ _ _=>ai) λ_=>ai
theorem jA x:(subs x).length=wt x:=by have o:∀{x},(subs x).length=wt x->(subs x).length+1=1+wt x:=λi=>(Nat.add_comm _ _).trans (ej (1+·) i);exact Kd.rec (λ_=>rfl) (λ_=>rfl) (λ_=>o) (λ_=>rfl) (λ_ _=>o) (λ_ x y i j=>by show (subs x++subs y).length+1=1+wt x+wt y;rw [aL,i,j];exact oo 0x7001a0305102) (λ_=>o) x
theorem iJ {x}:y∈subs x->z∈kids y->z∈subs x:=by
 have l:∀{a},kids a= []->y∈ [a]->z∈kids y->z∈ [a]:=λe h k=>by rw [aj h,e] at k;exact (ba k).elim
 have o:∀{a x},kids a= [x]->(y∈subs x->z∈kids y->z∈subs x)->y∈a::subs x->z∈kids y->z∈a::subs x:=λe i h k=> .tail _ ((aR h).elim (λA=>by rw [A,e] at k;exact aj k▸dX _) λh=>i h k);exact Kd.rec (λ_=>l rfl) (λ_=>l rfl) (λ_=>o rfl) (λ_=>l rfl) (λ_ _=>o rfl)
  (λ_ _ _ i j h k=> .tail _ ((aR h).elim (λe=>by rw [e] at k;exact (jI k).elim (λe=>aA _ (e▸dX _)) λe=>aS _ (e▸dX _)) λh=>(aG h).elim (λh=>aA _ (i h k)) λh=>aS _ (j h k))) (λ_=>o rfl) x
theorem fB {x} (h:lk hv x=true) (j:y∈subs x):lk hv y=true/\dp y<=dp x:=by
 induction x with
 |p n=>replace j:=aj j;subst j;exact ⟨h,.refl⟩|v n=>replace j:=aj j;subst j;exact ⟨h,.refl⟩|a0 n=>replace j:=aj j;subst j;exact ⟨h,.refl⟩|ar x k=>
  cases j with|head=>exact ⟨h,.refl⟩|tail _ j=>have:=k h j;exact ⟨this.1,by show _<=dp x+1;exact oq 19 this.2⟩
 |a1 g x k=>
  cases j with|head=>exact ⟨h,.refl⟩|tail _ j=>replace h:=bq h;have:=k h.2 j;exact ⟨this.1,by show _<=dp x+1;exact oq 19 this.2⟩
 |b x k=>trivial|a2 g x y k A=>
  cases j with|head=>exact ⟨h,.refl⟩|tail _ j=>
   replace h:=bq h;rcases aG j with j|j
   ·have:=k h.1.2 j;exact ⟨this.1,by show _<=max (dp x+1) (dp y+1);exact oo 0x6940a5130000390189c20004 (by exact sM _ _) this.2⟩
   ·have:=A h.2 j;exact ⟨this.1,by show _<=max (dp x+1) (dp y+1);exact oo 0x6944a5038000390189c20004 (by exact sM _ _) this.2⟩
theorem vm {x} (j:x∈W.up h):x∈G0\/(x= .a1 69 (.v 0)/\(h=72\/h=74)):=
 iC (p:=λh x=>x∈G0\/(x= .a1 69 (.v 0)/\(h=72\/h=74))) (aa rfl) j
theorem yl (A:lk hv t=true) (j:y∈W.par t):y∈G0\/∃w∈kids t,y= .a1 69 w:=by
 have nc:named t=true->y∈G0\/∃w∈kids t,y= .a1 69 w:=λk=>by
  rw [eT k] at j;obtain ⟨z,hz,rfl⟩:=g5.mp j;rcases vm hz with h|⟨rfl,D⟩
  ·rcases j9 hz with ho|⟨rfl,_⟩
   ·rw [d8 ho];exact .inl h
   ·exact dv h (aa rfl)
  ·have ha:=eo A k;rw [oy D] at ha;obtain ⟨w,E⟩:∃w,kids t= [w]:=by
    induction hk:kids t using List.casesOn with
    |nil=>rw [hk] at ha;trivial
    |cons w r=>induction r with
     |nil=>exact ⟨w,rfl⟩|cons=>rw [hk] at ha;simp at ha
   rw [E];exact .inr ⟨w,ai,rfl⟩
 induction t with
 |p n=>rcases mm j with ⟨_,rfl⟩|rfl<;>exact .inl (aa rfl)
 |v i=>trivial|ar z=>replace j:=aj j;subst j;exact .inl (aa rfl)|b z=>trivial|a0 g=>exact nc rfl|a1 g z=>exact nc rfl|a2 g z w=>exact nc rfl
theorem rL {x} (h:lk hv x=true):dw x=true:=by
 have st:∀{y},lk hv y=true->jH y=true:=λ{y} j=>by
  induction y with|p n=>have j:=lD j;exact bQ (bne_iff_ne.2 (oo 0xd04b500020a0a1201 j)) (bne_iff_ne.2 (oo 0xe20b500020a621201 j))|b _=>trivial|_=>rfl
 induction x with|p n=>exact gs (rk (lD h).2 (aa rfl))|v _=>rfl|ar y=>exact st h|a0 g=>replace h:=aZ h;exact h.1|a1 g y=>exact bQ (bq h).1.1 (st (bq h).2)|a2 g y z=>exact bQ (bQ (gJ h).1.1.1 (st (gJ h).1.2)) (st (gJ h).2)|b _=>trivial
theorem PY:∀t∈G0,∀x∈kids t,x∈G0:=by decide
theorem tW:∀t∈G0,lk true t=true\/t= .p 0\/t= .p 14\/t= .p 15\/t= .b (.v 0)\/t= .b (.v 1):=by decide
theorem D7:∀t∈G0,dw t=true/\dp t<=24/\wt t<=4096:=by decide
theorem DE:eJ W G0:=by
 refine ⟨aa rfl,λt j x k=> ?_,PY,λi G=> ?_,λt j A=> ?_⟩
 ·rcases tW t j with h|rfl|rfl|rfl|rfl|rfl
  ·rcases yl h k with I|⟨w,E,rfl⟩
   ·exact I
   ·have key:∀t∈G0,∀w∈kids t,ao t=72\/ao t=74-> .a1 69 w∈G0:=by decide
    by_cases e:ao t=72\/ao t=74
    ·exact key t j w E e
    ·have A:named t=true:=by
      induction t using Kd.casesOn<;>first|rfl|(cases E;done)|skip
      ·replace k:=aj k;cases k
      ·cases h
     rw [eT A] at k;obtain ⟨z,hz,F⟩:=g5.mp k;rcases vm hz with D|⟨_,D⟩
     ·rcases j9 hz with ho|⟨_,J⟩
      ·rw [d8 ho] at F;exact F▸D
      ·exact dv J e
     ·exact dv D e
  all_goals first|trivial|skip
 ·have key:∀t∈G0,∀i,t= .v i-> .b (.v i)∈G0:=by
   intro t j i e;subst e;rcases tW _ j with h|h|h|h|h|h
   ·have L:=(dz h).2;have:i=0\/i=1:=oq 7 L;rcases this with rfl|rfl<;>decide
   all_goals trivial
  exact key _ G i rfl
 ·rcases tW t j with h|rfl|rfl|rfl|rfl|rfl
  ·exact eo h A
  all_goals trivial
theorem iB {x} (h:y∈subs x):y∈cl x:=aA _ h
theorem jc x:(cl x).length=2*wt x:=by unfold cl;rw [aL,aC,jA];exact oo 0x18261101
theorem xo {U} {x} (h:eJ W U) (F:∀y∈G0,y∈U) (G:lk true x=true):eJ W (U++cl x):=by
 have l:∀{y},y∈U->y∈U++cl x:=λk=>aA _ k;have r:∀{y},y∈cl x->y∈U++cl x:=λk=>aS _ k;have E:∀{y},y∈cl x->y∈subs x\/∃w∈subs x,y= .a1 69 w:=λ{y} k=>by
  rcases aG k with k|k
  ·exact .inl k
  ·obtain ⟨w,A,rfl⟩:=g5.mp k;exact .inr ⟨w,A,rfl⟩
 refine ⟨l h.vt,λt j y k=> ?_,λt j y k=> ?_,λi D=> ?_,λt j I=> ?_⟩
 ·rcases aG j with j|j
  ·exact l (h.par t j y k)
  ·rcases E j with j|⟨w,A,rfl⟩
   ·rcases yl (fB G j).1 k with k|⟨w,A,rfl⟩
    ·exact l (F y k)
    ·exact r (aS _ (List.mem_map_of_mem (iJ j A)))
   ·trivial
 ·rcases aG j with j|j
  ·exact l (h.bL t j y k)
  ·rcases E j with j|⟨w,A,rfl⟩
   ·exact r (iB (iJ j k))
   ·replace k:=aj k;rw [k];exact r (iB A)
 ·rcases aG D with D|D
  ·exact l (h.box i D)
  ·rcases E D with D|⟨w,A,e⟩
   ·have J:=(dz (fB G D).1).2;have:i=0\/i=1:=oq 7 J;rcases this with rfl|rfl
    ·exact l (F _ (aa rfl))
    ·exact l (F _ (aa rfl))
   ·trivial
 ·rcases aG j with j|j
  ·exact h.wf t j I
  ·rcases E j with j|⟨w,A,rfl⟩
   ·exact eo (fB G j).1 I
   ·rfl
section
theorem HL.lJ {x} (h:HL Z s ts) (F:∀y∈G0,y∈Z.U) (A:lk true x=true) (hd:dp x<=7) (k:Z.U.length+2*wt x<=30000):HL (Z.wU (Z.U++cl x)) s ts:=by
 refine h.wU (λy j=>aA _ j) (λy j=> ?_) (by rw [aL,jc];exact oo 0xe4c131024c131002 k) (xo h.h.wd.dh F A);rcases aG j with j|j
 ·exact h.h.kt.ok y j
 ·have b:∀{z},z∈subs x->dw z=true/\dp z<=7/\wt z<=128:=λ{z} hz=>by have:=fB A hz;have G:=rg this.1;have I:2^dp z<=2^7:=Nat.pow_le_pow_right (aa rfl) (oq 31 hd this.2);exact ⟨rL this.1,oq 31 hd this.2,oq 30 G I⟩
  rcases aG j with j|j
  ·have:=b j;exact ⟨this.1,oq 106 this.2,oq 107 this.2⟩
  ·obtain ⟨w,D,rfl⟩:=g5.mp j;have E:=b D;have st:dw (.a1 69 w)=true:=rL (bQ rfl (fB A D).1);exact ⟨st,by show dp w+1<=24;exact oq 108 E.2,by show 1+wt w<=4096;exact oq 109 E.2⟩
end
variable {n3 n2:Nat}{s1:St}
noncomputable def yK:List Kd:= [.v 0,.v 1,.a0 64,.a0 65,.a1 69 (.v 0),.p 13,.ar (.v 1),.a1 72 (.v 0),.a0 73]
noncomputable def xK (y:Kd) (num:Nat):List Kd:= [y,.a1 72 y,.a1 71 y,.ar y,.a1 74 y,.a1 69 y,.a2 70 y (.a0 64),.a2 70 (.v 1) y,.ar (.ar y),.a0 66,.ar (.a0 75),.ar (.p num),.a0 75,.a0 73,.a1 71 (.a1 69 y),.v 0,.v 1,.ar (.a1 74 y)]
noncomputable def CA:List Kd:= [.a0 67,.a0 68,.a1 69 (.a0 64),.a1 69 (.p 12),.a2 70 (.a0 64) (.a0 64),.a0 2,.a0 3,.a0 5,.a0 6,.a0 64,.a0 65,.a1 72 (.a0 64),.a1 71 (.a0 64),.ar (.p 12),.a1 69 (.v 0),.ar (.a0 64),.a1 69 (.a1 69 (.a0 64)),.p 12,.p 13]
structure kj (x t):Prop where
 lx:lk true x=true
 wx:wt x<=4
 nx:isNul x=false
 lt:lk true t=true
 iS:wt t<=5
 vt:ak t=false
 rt:isVal t=false
theorem Dx:∀y∈yK,lk true y=true/\wt y<=2/\isNul y=false:=by decide
theorem Hy {x} {num} (G:3<=num/\num<=10) (I:y∈yK) (J:x∈xK y num):lk true x=true/\wt x<=4/\isNul x=false:=by
 obtain ⟨j,D,L⟩:=Dx y I;have A:1+wt y<=4:=oo 0x189006403001 D;have E:1+(1+wt y)<=4:=oo 0x31200c80603001 D;have z:∀x∈xK y num,lk true x=true/\wt x<=4/\isNul x=false:=fc ⟨j,df D (aa rfl),L⟩ (fc ⟨j,A,rfl⟩ (fc ⟨j,A,rfl⟩ (fc ⟨j,A,rfl⟩ (fc ⟨j,A,rfl⟩ (fc ⟨j,A,rfl⟩
  (fc ⟨bQ (bQ rfl j) rfl,show 1+wt y+1<=4 by lia,rfl⟩ (fc ⟨bQ rfl j,show 1+1+wt y<=4 by lia,rfl⟩ (fc ⟨j,E,rfl⟩ (fc (aa rfl) (fc (aa rfl) (fc ⟨qp (hv:=true) ⟨df (aa rfl) G.1,df G.2 (aa rfl)⟩,show 1+1<=4 by decide,rfl⟩
  (fc (aa rfl) (fc (aa rfl) (fc ⟨j,E,rfl⟩ (fc (aa rfl) (fc (aa rfl) (fc ⟨j,E,rfl⟩ λ_=>bg)))))))))))))))))
 exact z x J
theorem HZ:∀t∈CA,lk true t=true/\wt t<=5/\ak t=false/\isVal t=false:=by decide
theorem nK x:dp x<=wt x:=by
 induction x with|p=>exact .refl|v=>exact .refl|a0=>exact .refl|ar x j=>show dp x+1<=1+wt x;exact oq 110 j|a1 g x j=>show dp x+1<=1+wt x;exact oq 110 j|b x j=>show dp x<=1+wt x;exact oo 0x7002018002 j|a2 g x y j z=>show max (dp x+1) (dp y+1)<=1+wt x+wt y;exact oo 0xf278d60bcdc071dc996fb7f45fc104005 (by exact sM _ _) j z
theorem Dw (D:lk hv t=true) (j:y∈W.par t):wt y<=max 3 (wt t):=by
 have nc:named t=true->wt y<=max 3 (wt t):=λA=>by
  rw [eT A] at j;obtain ⟨z,hz,rfl⟩:=g5.mp j;rcases j9 hz with ho|⟨rfl,E⟩
  ·rw [d8 ho];have:=(iC (p:=λ_ z=>wt z<=3) (aa rfl) hz);exact oq 89 (by exact sM _ _) this
  ·have ha:=eo D A;rw [oy E] at ha;induction t with|a1 g w=>show 1+wt w<=max 3 (1+wt w);exact oo 0x6a254080315e2003002 (by exact sM _ _)|a0 g=>trivial|a2 g w G=>cases ha|_=>trivial
 induction t with
 |p n=>rcases mm j with ⟨_,rfl⟩|rfl<;>(show 1<=_;exact oq 28 (by exact sM _ _))
 |v i=>trivial|ar z=>replace j:=aj j;subst j;show 1<=_;exact oq 28 (by exact sM _ _)|b z=>trivial|a0 g=>exact nc rfl|a1 g z=>exact nc rfl|a2 g z w=>exact nc rfl
theorem Oo {x} (A:lk hv x=true) (h:bj W x u):wt u<=max 3 (wt x)/\lk hv u=true/\(ak x=false->ak u=false):=by
 induction h with|refl=>exact ⟨oo 0x1a895020af10002 (by exact sM _ _),A,id⟩|step _ j z=>
  have:=Dw z.2.1 j;refine ⟨oo 0x3c9e3c6347fcf57dfd3537bbd1b0119fac622e6ce8005 (by exact sM _ _) (by exact sM _ _) this z.1,(mF z.2.1 j).1,λ_=> ?_⟩;rcases nE j with h|h
  ·induction‹Kd›using Kd.casesOn<;>first|rfl|trivial
  ·rw [h];rfl
section
variable {x:Kd} {st:Bool}
theorem sP (z:l.length=n) (j:0<n) (hb:n<=100000):(0<=e%n/\e%n<2^60)/\∃c∈l,(l.map enc)[(e%(n:Int)).toNat]? =some (enc c):=by have A:0<=e%(n:Int):=Int.emod_nonneg _ (oq 17 j);have D:e%(n:Int)<n:=Int.emod_lt_of_pos _ (oq 11 j);exact ⟨⟨A,oo 0x634000c128c11 D hb⟩,tI z j⟩
theorem DN (m d):m/d=((m/d:Nat):Int):=rfl
theorem Gz {R} (A:lk true u=true) (r:∀j,(1<j->kids u≠ []\/aJ u=0\/ak u=true)->R (.int j) s):P 13 (builtin .len [enc u]) R s:=by
 induction u with|p i=>exact bP (ll rfl) (r 2 λ_=> .inr (.inl rfl))|v i=>exact bP (ll rfl) (r 2 λ_=> .inr (.inr rfl))|a0 g=>exact bP (ll rfl) (r 1 λh=>dv h (aa rfl))|ar z=>exact bP (ll rfl) (r 2 λ_=> .inl (List.cons_ne_nil _ _))|a1 g z=>exact bP (ll rfl) (r 2 λ_=> .inl (List.cons_ne_nil _ _))|a2 g z w=>exact bP (ll rfl) (r 3 λ_=> .inl (List.cons_ne_nil _ _))|b z=>trivial
abbrev pE (Z:Zw) (n:Nat) (x y:Kd) (o6 j o8:Option V):ag:=cf (eR Z.wd) (eI n) (some (enc (.a0 64))) (some (enc (.v 0))) (some (enc y)) (some (enc x)) o6 j o8
theorem Ci {x} (f1:Fr [] s s1) (G:∀t,lk true t=true->wt t<=5->ak t=false->isVal t=false->kj x t) (q:∀s' t,Fr [] s s'->kj x t->Q (.tup [enc x,enc t]) s') (I:lk true t=true) (L:wt t<=5) (J:ak t=false):
 wSs sc (F+19) (dr 9 (tl (bo 99))) (pE Z n3 x y o6 (some (enc t)) o8) (fin Q) s1:=by
 apply v_ I;rw [J];induction j:isVal t using Bool.casesOn with|false=>exact q s1 t f1 (G t I L J j)|true=>apply bH (aa rfl);obtain ⟨z,A,D,E⟩:=sP (l:=CA) rfl (aa rfl) (aa rfl);have a1:=HZ A D;exact cA z E (q s1 A f1 (G A a1.1 a1.2.1 a1.2.2.1 a1.2.2.2))
theorem Bg {x} (f1:Fr [] s s1) (Y:∀t,lk true t=true->wt t<=5->ak t=false->isVal t=false->kj x t) (q:∀s' t,Fr [] s s'->kj x t->Q (.tup [enc x,enc t]) s') (E:n2<2^40)
 (I:s1[a]? =some (.list (l.map enc))) (z:0<l.length) (A:l.length<=30000) (hl:∀u∈l,lk true u=true/\wt u<=4/\ak u=false):
 wSs sc (F+19) (dr 6 (tl (bo 99))) (pE Z n2 x y (eR a) none none) (fin Q) s1:=by
 apply dW I (by rw [aC];exact oq 1 A);rw [aC];apply bH (oq 11 z);obtain ⟨ml,u,hu,eu⟩:=sP rfl z (oq 1 A);apply ce I ml eu;obtain ⟨G,u2,u3⟩:=hl u hu;apply dW I (by rw [aC];exact oq 1 A);rw [aC];apply cB ⟨by exact oq 11 z,by exact oq 4 (by exact sA _) E⟩;rw [DN];have D:n2/l.length<2^40:=rk (Nat.div_le_self _ _) E;generalize n2/l.length=n3 at D;have same:wSs sc (F+19) (dr 9 (tl (bo 99))) (pE Z n3 x y (eR a) (some (enc u)) none) (fin Q) s1:=Ci f1 Y q G (df u2 (aa rfl)) u3;refine bH (aa rfl)<|az (λe=> ?_) λe=>aO e same
 ·refine Gz G λj hj=> ?_;refine az (λJ=> ?_) λJ=>aO J same
  ·refine bA G<|az (λe3=> ?_) λe3=>same
   ·apply cB ⟨aa rfl,oq 4 (by exact sA _) D⟩;rw [show n3/3=((n3/3:Nat):Int) from rfl];refine Nv (oq 111 (by exact sD _ _ rfl) D) G ((hj (oo 0xc814081410 J)).resolve_right λh=>h.elim e3 λh=>Bool.noConfusion (u3.symm.trans h)) λt L=> ?_;exact Ci f1 Y q L.1 (by have:=L.2.1;exact oo 0x303200330184002 u2 this) L.2.2
theorem Fp {R} {o} (I:s[a]? =some (.list (l.map enc))) (hl:∀c∈l,lk true c=true) (r:∀s' (g:List Kd),Fr [] s s'->g.length<=l.length->(∀c∈g,c∈l/\ak c=false)->R (g.map enc) s'):
 WC sc d (.ref a) (false,l.map enc) o (.loc 0) (.cons (.cmp .ne (.idx (.loc 0) (.lit (.int 0))) (.neg (.lit (.int 2)))) .nil) (l.map enc) R s:=by
 refine vk (λdone G left s'=>E1 λgood=>A5 (Fr [] s s') (done++left=l) (G=good.map enc) (good.length<=done.length) (∀c∈good,c∈l/\ak c=false)) l [] [] s ⟨[],.ay,rfl,rfl,.refl,λ_=>bg⟩ ?_ ?_ ?_
 ·rintro _ _ _ s' ⟨good,f,_⟩;exact .inl ⟨f.gn I,rfl⟩
 ·rintro done zs s' ⟨good,f,z,D,j,hg⟩;rw [hR] at z;rw [show zs=good.map enc from D];exact r s' good f (z▸j) hg
 ·rintro done G c left s' ⟨good,f,z,D,j,hg⟩;have A:=z▸aS _ ai;refine bA (hl c A)<|az (λe=> ?_) λe=> ?_
  ·refine ⟨good++ [c],f,iq z,by rw [D,lh];rfl,by rw [aL,aL];exact wi j,λc' E=>(aG E).elim (hg c') λJ=> ?_⟩;rw [aj J];exact ⟨A,KG.mpr λhv=>e (eM.2 hv)⟩
  ·exact ⟨good,f,iq z,by rw [D];exact hR _,df j (by rw [aL];exact ro _ _),hg⟩
theorem O0 {m:Nat} {M} (hM:20<=M) (h:HL Z s ts) (hc:dI Z.C) (J:Z.has=true) (hG:∀y∈G0,y∈Z.U) (L:Z.U.length<=29000) (hm:m<2^40)
 (Y:∀i x,x∈Z.C.ac i->wt x<=3)
 (q:∀s' x t,Fr [] s s'->kj x t->Q (.tup [enc x,enc t]) s'):aq sc M 99 [.ref Z.wd,.int m] Q s:=by
 obtain ⟨F,rfl⟩:∃F,M=F+20:=⟨M-20,oo 0x6840a082804a482328328db2c8102 (by exact sO _ _) hM⟩;apply cg rfl;obtain ⟨wk,w1,w2,_,_,_,_,_,w7,w3⟩:=h.l.w;have hnum:3<=Z.W.num/\Z.W.num<=10:=by unfold World.num;exact oq 21 (by exact sD _ _ rfl) (by exact sD _ _ rfl)
 apply bH (aa rfl);obtain ⟨m9,y,hy,ey⟩:=sP (l:=yK) rfl (aa rfl) (aa rfl);refine cA m9 ey<|cB ⟨aa rfl,oq 4 (by exact sA _) hm⟩ ?_;refine h.l.get h.h w1 w2 w7<|bH (aa rfl) ?_;obtain ⟨m18,x,hx,ex⟩:=sP (l:=xK y Z.W.num) (n:=18) rfl (aa rfl) (aa rfl);apply cA m18 ex;obtain ⟨I,x2,x3⟩:=Hy hnum hy hx;apply cB ⟨aa rfl,oo 0x12c75301d4d9d48eac43a987372b67bcc237c940a2 (by exact sZ _ _ rfl) (by exact sA _) hm⟩;rw [show (m:Int)/9/18=((m/9/18:Nat):Int) from rfl];generalize hn2:m/9/18=n2;have D:n2<2^40:=oo 0x58c8a4c2d0c7fcbfbc4f5697ac50f5ca13e0e14c086 (by exact sD _ _ rfl) (by exact sD _ _ rfl) hn2 hm;have hx:∀t,lk true t=true->wt t<=5->ak t=false->isVal t=false->kj x t:=λt a b c d=>⟨I,x2,x3,a,b,c,d⟩;apply bA I;by_cases A:ak x=true
 ·apply bW (eM.2 A);obtain ⟨i,rfl⟩:∃i,x= .v i:=dP A;refine qi (n:=F+17) hc J ((dz I).2) _ s ts h λs1 l a f1 l1 ha e1 z j=> ?_;apply cV e1 (by rw [aC];exact oq 95 j);refine Fp e1 (λc hc'=>(hc.bd ((z c).1 hc')).1) λs' good f' E hg=> ?_;refine je (by rw [aC];exact oo 0x1c00ab0034002 j E) λs2 f2 e2 l2=> ?_;refine c_ λs3 f3 e3 l3=> ?_;refine lV (f3.gn e2) e3 (by simp;exact oo 0x380156030d3fe4002 j E) λs4 f4 e4 l4=> ?_;have ea:good.map enc++ [enc (Kd.a0 2)]=(good++ [Kd.a0 2]).map enc:=by rw [lh];rfl
  have e4':s4[s3.length]? =some (.list ((good++ [Kd.a0 2]).map enc)):=by rw [e4];exact ej _ (ej _ ea)
  refine Bg ((((f1.trans f').trans f2).trans f3).trans f4) hx (λs'=>q s' _) D e4' (by simp) (by simp;exact oo 0x38015600ea5fe4002 j E) λu G=> ?_;rcases aG G with G|G
  ·have g1:=hg u G;have hb:=(z u).1 g1.1;have wu:wt u<=3:=by
    induction hb with|base hb=>exact Y _ _ hb|step _ hb=>exact Y _ _ hb
   exact ⟨(hc.bd hb).1,oo 0xca8032001 wu,g1.2⟩
  ·rw [aj G];exact ⟨rfl,aa rfl,rfl⟩
 ·have hvx':ak x=false:=by simpa using A
  refine aO (λe=>A (eM.1 e))<|zJ (Z:=Z.wU (Z.U++cl x)) (n:=F+14) (h.lJ hG I (by have z0:=nK x;exact oq 54 x2 z0) (oo 0x34009926600e291e4024c131002 L x2)) (aS _ (iB (dX x))) I (by have z1:=nK x;exact oo 0x1c00330194002 x2 z1) λs1 l f1 l1 e1 z hk j=> ?_;refine Bg f1 hx (λs'=>q s' _) D e1 (List.length_pos_of_mem ((z x).2 .refl)) j λu G=> ?_;have:=Oo I ((z u).1 G);exact ⟨this.2.1,oo 0x4ac327a4f9fe1008258a896003 (by exact sM _ _) x2 this.1,this.2.2 hvx'⟩
end
variable {has:Bool}{hb hg:Nat}
def fR (wk:List (V×V)):Prop:=wk.length+(if (aE wk (.str "bounds")).isSome then 0 else 1)<=20
abbrev Dt (Z:Zw):Prop:=∃fs tl bl,Z.st Z.jS (.inst 1 fs)/\Z.jS∉ [Z.wd,Z.KL,Z.aN]/\aH fs 18=some (.ref Z.aN)/\Z.st Z.types (.list tl)/\tl[77]? =some (.ref Z.jS)/\Z.st Z.aN (.list bl)/\bl.length=2
abbrev Nd (Z:Zw):Prop:=∀i∈Z.KN::Z.m,i∉ [Z.wd,Z.KL,Z.aN]
abbrev H5 (Z:Zw):Prop:=∀h,cM h=true->Z.td h∉ [Z.wd,Z.KL,Z.aN]
abbrev L_ (Z:Zw):Prop:=∀h,cM h=true->Z.gE h∉ [Z.wd,Z.KL,Z.aN]
abbrev MA (Z:Zw):Prop:=∀h,cM h=true->Z.gx h∉ [Z.wd,Z.KL,Z.aN]
abbrev Ld (Z:Zw):Prop:=∀i∈ [Z.wd,Z.KL,Z.aN],i∉Z.KN::Z.kt::Z.m
abbrev M6 (Z:Zw):Prop:=∃fs,Z.st Z.KL (.inst 3 fs)/\fs.length<=900
abbrev EU (Z:Zw):Prop:=∃wk,Z.st Z.wd (.dict wk)/\fR wk
structure Ap (Z:Zw):Prop where
 kt:Z.kt∉ [Z.wd,Z.KL,Z.aN]
 m:Nd Z
 KM:Z.KM∉ [Z.wd,Z.KL,Z.aN]
 types:Z.types∉ [Z.wd,Z.KL,Z.aN]
 td:H5 Z
 gE:L_ Z
 gx:MA Z
 upd:Z.upd∉ [Z.wd,Z.KL,Z.aN]
 wy:Z.wy∉ [Z.wd,Z.KL,Z.aN]
 un:Z.un∉ [Z.wd,Z.KL,Z.aN]
 nd: [Z.wd,Z.KL,Z.aN].Nodup
 mq:Dt Z
 off:Ld Z
 hl:M6 Z
 hb:Z.hb∉ [Z.wd,Z.KL,Z.aN]
 wl:EU Z
 hg:Z.hg∉ [Z.wd,Z.KL,Z.aN]
def pk (Z:Zw) (hb hg:Nat) (fs:List (Nat×V)):Prop:=aH fs 29=some (.ref Z.kt)/\aH fs 41=some (.ref Z.KM)/\aH fs 18=some (.ref hb)/\aH fs 35=some (.ref hg)/\
    (aH fs 14).isNone=true/\(aH fs 36).isNone=true/\(aH fs 12).isNone=true/\(aH fs 47).isNone=true/\(aH fs 23).isNone=true
def hH (Z:Zw) (wk:List (V×V)):Prop:=(∀x,bf wk (.str x)=true)/\aE wk (.str "kt")=some (.ref Z.kt)/\aE wk (.str "made")=some (.ref Z.KN)/\
    aE wk (.str "ways")=some (.ref Z.wy)/\aE wk (.str "under")=some (.ref Z.un)/\aE wk (.str "up")=some (.ref Z.upd)/\
    aE wk (.str "num")=some (.tup [.int 0,.int Z.W.num])
noncomputable def Zw.snap (Z:Zw) (s:St) (ts:List Kd) (C:aM) (has:Bool) (hb hg:Nat):Zw:={Z with s0:=s,iN:=ts,C:=C,has:=has,hb:=hb,hg:=hg}
section
variable {x:Kd} {st:Bool}
theorem HL.snap (h:HL Z s ts) (ap:Ap Z) (f:Fr ([Z.wd,Z.KL,Z.aN]++Z.m) s s') (K:Kt Z.toKz s' ae) (p:ts<+:ae)
 (ho:∃fs,s'[Z.KL]? =some (.inst 3 fs)/\pk Z hb hg fs/\fs.length<=900)
 (F:∃af,s'[hb]? =some (.dict af)/\hb∉Z.KN::Z.m/\hb∉ [Z.wd,Z.KL,Z.aN]/\∀j k t,ae<+:j->j.Nodup->Den j k t->bf af (.int k)=true/\∃vs,(aE af (.int k)).getD (.tup [])= .tup vs/\aD j vs (C.jN t))
 (G:∃af,s'[hg]? =some (.dict af)/\hg∉Z.KN::Z.m/\hg∉ [Z.wd,Z.KL,Z.aN]/\∀j k t,ae<+:j->j.Nodup->Den j k t->bf af (.int k)=true/\(aE af (.int k)).getD (.int 0)= .int (C.qf t))
 (hw:∃wk,s'[Z.wd]? =some (.dict wk)/\hH Z wk/\fR wk/\(has=true->aE wk (.str "bounds")=some (.tup [.tup [.int (C.ca 0),.tup ((C.ac 0).map enc)],.tup [.int (C.ca 1),.tup ((C.ac 1).map enc)]])))
 (I:∃bl,s'[Z.aN]? =some (.list bl)/\bl.length=2):
 HL (Z.snap s' ae C has hb hg) s' ae/\Ap (Z.snap s' ae C has hb hg):=by
 have nm:∀{i},i∉ [Z.wd,Z.KL,Z.aN]->i∉Z.m->i∉ [Z.wd,Z.KL,Z.aN]++Z.m:=λn1 n2 e=>(aG e).elim n1 n2;have tr:∀{i} {o},Z.st i o->i∉ [Z.wd,Z.KL,Z.aN]->(Z.snap s' ae C has hb hg).st i o:=λg n=>⟨f.get (nm n λe=>g.2 (.tail _ e)) (h.h.get g),g.2⟩;have mo:∀{i},i∈ [Z.wd,Z.KL,Z.aN]->i∉Z.KN::Z.m:=λhi J=>ap.off _ hi (by
  cases J with|head=>exact ai|tail _ J=>exact .tail _ (.tail _ J))
 have pre:=h.h.pre.trans p;obtain ⟨af,L,Y⟩:=h.h.md;obtain ⟨A,D,ho2,ho3⟩:=ho;obtain ⟨bv,hb1,hb2,hb4,hb3⟩:=F;obtain ⟨gv,hg1,hg2,hg4,hg3⟩:=G;obtain ⟨wk,E,hw2,hw4,hw3⟩:=hw;obtain ⟨bl,bl1,bl2⟩:=I;have wd':Wd (Z.snap s' ae C has hb hg):=by
  refine ⟨h.h.wd.KM.imp λ_ z=>⟨tr z.1 ap.KM,z.2.1,z.2.2⟩,h.h.wd.types.imp λ_ z=>⟨tr z.1 ap.types,z.2.1,z.2.2.1,z.2.2.2⟩,λg y=> ?_,⟨A,⟨D,mo bn⟩,ho2⟩,⟨bv,⟨hb1,hb2⟩,hb3⟩,⟨gv,⟨hg1,hg2⟩,hg3⟩,h.h.wd.dh,h.h.wd.KN⟩
  ·obtain ⟨fs,ty⟩:=h.h.wd.ty g y;obtain ⟨vs,a,b⟩:=ty.gE;exact ⟨fs,tr ty.o (ap.td g y),ty.sort,ty.base.imp λ_ h=>⟨h.1,h.2.mono pre⟩,ty.eU,⟨vs,tr a (ap.gE g y),b.mono pre⟩,ty.kG,tr ty.gx (ap.gx g y),ty.lQ.imp λ_ h=>⟨h.1,h.2.mono pre⟩⟩
 refine ⟨⟨⟨K,.ay,aF _,wd',af,f.get (nm (ap.m _ ai) h.h.wd.KN) L,Y.mono p⟩,⟨?_,?_,h.l.wy.imp λ_ y1=>⟨tr y1.1 ap.wy,y1.2⟩,h.l.un.imp λ_ n1=>⟨tr n1.1 ap.un,n1.2⟩⟩⟩,?_⟩
 ·obtain ⟨a,b,c,d,e,g,i⟩:=hw2;exact ⟨wk,⟨E,mo ai⟩,a,b,c,d,e,g,i,hw3⟩
 ·obtain ⟨uk,u1,u2⟩:=h.l.up;refine ⟨uk,tr u1 ap.upd,λi=>⟨(u2 i).1,(u2 i).2.imp id ?_⟩⟩;rintro ⟨g,l,a,b,c,d⟩;exact ⟨g,l,a,b,tr c d,d⟩
 ·obtain ⟨fs,tl,bl',t1,t2,t3,t4,t5,t6,t7⟩:=ap.mq;exact ⟨ap.kt,ap.m,ap.KM,ap.types,ap.td,ap.gE,ap.gx,ap.upd,ap.wy,ap.un,ap.nd,⟨fs,tl,bl,tr t1 t2,t2,t3,tr t4 ap.types,t5,⟨bl1,mo ci⟩,bl2⟩,ap.off,⟨A,⟨D,mo bn⟩,ho3⟩,hb4,⟨wk,⟨E,mo ai⟩,hw4⟩,hg4⟩
end
variable {k0 k1:Nat}{g0 g1:V}{da db:List (V×V)}{qX Df:List (Nat×V)}{sy sg:List V}
theorem ic {m}:∀{fs},aH (bV fs n v) m=if m=n then some v else aH fs m:=by
 intro A;induction A with
 |nil=>
  unfold bV aH;by_cases e:m=n
  ·subst e;simp
  ·rw [fm e];simp [Ne.symm e]
 |cons p fs y=>
  unfold bV;by_cases hp:(p.1==n)=true
  ·rw [ep hp];have j:p.1=n:=by simpa using hp
   unfold aH;rw [hW,hW];by_cases e:m=n
   ·subst e;simp
   ·have z:(n==m)=false:=by simpa using Ne.symm e
    have D:(p.1==m)=false:=by rw [j];exact z
    simp only [z,D,fm e]
  ·rw [fm hp];unfold aH at y⊢;rw [hW,hW];by_cases hm:(p.1==m)=true
   ·have:m≠n:=λe=>hp (by rw [<-e];exact hm);simp only [hm,fm this]
   ·have hm:(p.1==m)=false:=by simpa using hm
    simp only [hm];exact y
theorem wa:∀{fs},(aH fs n).isSome=true->(bV fs n v).length=fs.length:=by
 intro j;induction j with|nil=>intro h;trivial|cons p fs y=>
  intro h;unfold bV;by_cases hp:(p.1==n)=true
  ·rw [ep hp];rfl
  ·rw [fm hp];unfold aH at h;rw [hW] at h;simp only [hp] at h;rw [iZ,iZ,y (by exact h)]
section
variable {x:Kd} {st:Bool}
theorem AC {a b} (j:k0≠k1):aV [(V.int k0,a)] (.int k1) b= [(V.int k0,a),(V.int k1,b)]:=by have:¬(V.int k0=V.int k1):=λe=>j (by cases e;rfl);simp [aV,aE,this]
structure tO (Z:Zw) (A B:Nat) fs (da db) s0 ts s:Prop where
 K:Kt Z.toKz s ts
 h:s[Z.KL]? =some (.inst 3 fs)
 a:s[A]? =some (.dict da)
 b:s[B]? =some (.dict db)
 f:Fr (A::B::Z.m) s0 s
structure xv (Z:Zw) (A B) fs:Prop where
 ab:A≠B
 ha:Z.KL≠A
 hb:Z.KL≠B
 hm:Z.KL∉Z.m
 ma:A∉Z.m
 mb:B∉Z.m
 ka:∀j∈Z.kt::Z.m,j∉ [A]
 kb:∀j∈Z.kt::Z.m,j∉ [B]
 f1:aH fs 29=some (.ref Z.kt)
 f2:aH fs 18=some (.ref A)
 f3:aH fs 35=some (.ref B)
def Fb:Ss:= .cons (.k6 (.kY (.loc 0) 18) (.fn 14 (.cons (.kY (.loc 0) 29) (.cons (.loc 4) .nil))) (.blt .tuple (.cons (.loc 6) .nil))) (dr 1 (bd (dr 1 (bd (dr 2 (bo 61))))))
theorem zO {A B i} {fs} {ks} {g} (ad:xv Z A B fs) (x:tO Z A B fs da db s0 ts s) (hv: .v i∈Z.U) (ka:∀k,bf da (.int k)=true/\bf db (.int k)=true) (L:da.length<=9/\db.length<=9)
 (q:∀s' ae k,tO Z A B fs (aV da (.int (k:Nat)) (.tup ks)) (aV db (.int k) g) s0 ae s'->ts<+:ae->Den ae k (.v i)->K .next (dY (eR Z.KL) x0 x1 x2 (eI (i+1:Nat)) (some g) (some (.tup ks))) s'):
 wSs sc (n+7) Fb (dY (eR Z.KL) x0 x1 x2 (eI i) (some g) (some (.tup ks))) K s:=by
 refine MV<|am x.h rfl ad.f2<|am x.h rfl ad.f1<|tN x.K hv λs5 ts5 k K5 p5 z d5=> ?_;refine eF (z.get ad.ma x.a) (ka k).1 (df L.1 (aa rfl)) λs6 D e6 _=> ?_;have G:=D.ne ad.ha (z.get ad.hm x.h);refine am G rfl ad.f3<|am G rfl ad.f1<|tN (K5.fr D ad.ka) hv λs7 I k' Y p7 E d7=> ?_;have:k'=k:=gY Y.nd d7 (d5.mono p7);subst this;refine eF (E.get ad.mb (D.ne ad.ab.symm (z.get ad.mb x.b))) (ka k').2 (df L.2 (aa rfl)) λs8 F e8 _=> ?_;exact q s8 I k' ⟨Y.fr F ad.kb,F.ne ad.hb (E.get ad.hm G),F.ne ad.ab (E.get ad.ma e6),e8,
  x.f.trans (((z.sub λj J=> .tail _ (.tail _ J)).trans D.c1).trans ((E.sub λj J=> .tail _ (.tail _ J)).trans F.c2))⟩ (p5.trans p7) d7
theorem I_ {fs} {tl} (K:Kt Z.toKz s ts) (hv0: .v 0∈Z.U) (hv1: .v 1∈Z.U)
 (eh:s[Z.KL]? =some (.inst 3 fs)) (ho:pk Z hb hg fs) (hl:fs.length<=900) (es:s[Z.KM]? =some (.inst 2 qX)) (Y:aH qX 30=some (.ref Z.types)) (et:s[Z.types]? =some (.list tl)) (mq:tl[77]? =some (.ref Z.jS))
 (ed:s[Z.jS]? =some (.inst 1 Df)) (f18:aH Df 18=some (.ref Z.aN)) (eb:s[Z.aN]? =some (.list [.tup [g0,.tup sy],.tup [g1,.tup sg]]))
 (nh:Z.KL∉Z.kt::Z.m) (ns:∀i∈ [Z.KM,Z.types,Z.jS,Z.aN],i∉Z.KL::Z.m)
 (q:∀s' ae A B k0 k1 de,Kt Z.toKz s' ae->ts<+:ae->Fr (Z.KL::Z.m) s s'->s'[Z.KL]? =some (.inst 3 de)->pk Z A B de->de.length<=900->s'[A]? =some (.dict [(.int (k0:Nat),.tup sy),(.int (k1:Nat),.tup sg)])->s'[B]? =some (.dict [(.int k0,g0),(.int k1,g1)])->Den ae k0 (.v 0)->Den ae k1 (.v 1)->s.length<=A->s.length<=B->Q .none s'):
 aq sc (n+8) 61 [.ref Z.KL,.ref Z.KM,.int 77,.int 0] Q s:=by
 obtain ⟨o1,o2,o3,o4,o5,o6,o7,o8,o9⟩:=ho;have hlt:=bE eh;refine cg rfl<|lT λs1 f1 e1 l1=> ?_;refine jJ (f1.gn eh) ⟨rfl,hl⟩ λz f2 e2 l2=> ?_;refine lT λs3 f3 e3 l3=> ?_;have hl2:(bV fs 18 (.ref s.length)).length<=900:=by rw [wa (by rw [o3];rfl)];exact hl
 refine jJ (f3.gn e2) ⟨rfl,hl2⟩ λs4 f4 e4 l4=> ?_;have F:=l2▸l1;have G:=((aI f1).trans f2).trans ((aI f3).trans f4);have I:=JJ hlt;have nhb:=JJ (Nat.lt_trans hlt F);have fg:∀{m},m≠35->m≠18->aH (bV (bV fs 18 (.ref s.length)) 35 (.ref z.length)) m=aH fs m:=λa b=>by rw [ic,fm a,ic,fm b]
 have y3:aH (bV (bV fs 18 (.ref s.length)) 35 (.ref z.length)) 18=some (.ref s.length):=by rw [ic,fm (aa rfl),ic,ep rfl]
 have y4:aH (bV (bV fs 18 (.ref s.length)) 35 (.ref z.length)) 35=some (.ref z.length):=by rw [ic,ep rfl]
 have hl4:(bV (bV fs 18 (.ref s.length)) 35 (.ref z.length)).length<=900:=by rw [wa (by rw [ic,fm (aa rfl),o4];rfl)];exact hl2
 have y1:=(fg (aa rfl) (aa rfl)).trans o1;have ho4:pk Z s.length z.length (bV (bV fs 18 (.ref s.length)) 35 (.ref z.length)):=by
  have g:∀{m},m≠35->m≠18->(aH fs m).isNone=true->(aH (bV (bV fs 18 (.ref s.length)) 35 (.ref z.length)) m).isNone=true:=λa b h=>by rw [fg a b];exact h
  exact ⟨y1,(fg (aa rfl) (aa rfl)).trans o2,y3,y4,g (aa rfl) (aa rfl) o5,g (aa rfl) (aa rfl) o6,g (aa rfl) (aa rfl) o7,g (aa rfl) (aa rfl) o8,g (aa rfl) (aa rfl) o9⟩
 generalize bV (bV fs 18 (.ref s.length)) 35 (.ref z.length)=J at e4 ho4 hl4 y1 y3 y4;have ad:xv Z s.length z.length J:=⟨JE F,I.symm,nhb.symm,λe=>nh (.tail _ e),K.ef (g6 _),K.ef (z' F),K.off (g6 _),K.off (z' F),y1,y3,y4⟩;have x4:tO Z s.length z.length J [] [] s4 ts s4:=⟨K.fr G λi hi e=>nh (aj e▸hi),e4,f4.ne I (f3.gn (f2.ne I e1)),f4.ne nhb e3,.ay⟩;have mono:∀{i} {o},i∈ [Z.KM,Z.types,Z.jS,Z.aN]->s[i]? =some o->s4[i]? =some o:=λhi h=>G.get (λe=>ns _ hi (aj e▸ai)) h;have E:=mono eP eb;have nbd:Z.aN∉s.length::z.length::Z.m:=λe=>(aR e).elim (JE (bE eb)) λe=>(aR e).elim (JE (Nat.lt_trans (bE eb) F)) λe=>ns Z.aN eP (.tail _ e);refine am (mono ai es) rfl Y<|ce (mono bn et) (aa rfl) mq<|am (mono ci ed) rfl f18<|cV E (ll rfl)<|bz (.inl ⟨E,rfl⟩)<|zO ad x4 hv0 (λ_=>⟨rfl,rfl⟩) ⟨hL _,hL _⟩ λs6 ts6 k0 x6 p6 d0=> ?_;refine bz (.inl ⟨x6.f.get nbd E,rfl⟩) ?_;refine zO ad x6 hv1 (λ_=>⟨rfl,rfl⟩) ⟨ll rfl,ll rfl⟩ λs8 ts8 k1 L p8 d1=> ?_;refine dH (.inl ⟨L.f.get nbd E,rfl⟩) ?_;have hne:k0≠k1:=λe=>by have:=(d0.mono p8).inj (e▸d1);trivial
 have ea:=L.a;have eb':=L.b;rw [show aV (aV [] (V.int k0) (V.tup sy)) (V.int k1) (V.tup sg)= [(V.int k0,.tup sy),(V.int k1,.tup sg)] from AC hne] at ea;rw [show aV (aV [] (V.int k0) g0) (V.int k1) g1= [(V.int k0,g0),(V.int k1,g1)] from AC hne] at eb';refine q s8 ts8 s.length z.length k0 k1 J L.K (p6.trans p8) ?_ L.h ho4 hl4 ea eb' (d0.mono p8) d1 (g6 _) (z' F);refine ((G.sub (m':=Z.KL::s.length::z.length::Z.m) λj y=>aj y▸ai).trans (L.f.sub λj y=> .tail _ y)).cut λj y hlj=> ?_;rcases aR y with y|y
 ·exact y▸ai
 rcases aR y with y|y
 ·exact dv hlj (y▸JB _)
 rcases aR y with y|y
 ·exact dv hlj (y▸KD.mpr (z' F))
 ·exact .tail _ y
end
variable {c:Nat}{af:List (V×V)}
noncomputable def FK:List (List Kd):= [[],[.a0 67],[.a0 64],[.a1 69 (.a0 64)],[.a1 69 (.v 0)],[.a2 70 (.v 0) (.a0 64)]]
noncomputable def SK:List (List Kd):= [[],[.v 0],[.a0 65],[.a1 69 (.v 0)],[.v 0,.a0 68]]
def gC (c:Nat):List Kd:=FK.getD (c%6) []
noncomputable def dS (c:Nat):Nat:=if c/6%3=2/\c%6=2 then 0 else c/6%3
def eG (c:Nat):List Kd:=if dS c=2/\ .v 0∈SK.getD (c/18%5) [] then [] else SK.getD (c/18%5) []
def ctx (c:Nat):aM:=⟨λi=>if i=0 then gC c else if i=1 then eG c else [],λi=>if i=0 then dS c else if i=1 then c/90%2 else 0⟩
noncomputable def BK:List Kd:= [.v 0,.v 1,.a0 64,.a0 65,.a0 67,.a0 68,.a1 69 (.a0 64),.a1 69 (.v 0),.a2 70 (.v 0) (.a0 64)]
theorem getD_mem {l:List (List α)} {i} {x} (h:x∈l.getD i []):∃m∈l,x∈m:=by
 rw [List.getD_eq_getElem?_getD] at h;induction e:l[i]? using Option.casesOn with|none=>rw [e] at h;trivial|some m=>rw [e] at h;exact ⟨m,bh e,h⟩
theorem qF {x:Kd} (h:x∈gC c):x∈ [Kd.a0 67,.a0 64,.a1 69 (.a0 64),.a1 69 (.v 0),.a2 70 (.v 0) (.a0 64)]:=by
 obtain ⟨m,hm,j⟩:=getD_mem h;have:∀m∈FK,∀x∈m,x∈ [Kd.a0 67,.a0 64,.a1 69 (.a0 64),.a1 69 (.v 0),.a2 70 (.v 0) (.a0 64)]:=by decide
 exact this m hm x j
theorem py {x:Kd} (h:x∈eG c):x∈ [Kd.v 0,.a0 65,.a1 69 (.v 0),.a0 68]:=by
 unfold eG at h
 split at h
 ·trivial
 ·obtain ⟨m,hm,j⟩:=getD_mem h;have:∀m∈SK,∀x∈m,x∈ [Kd.v 0,.a0 65,.a1 69 (.v 0),.a0 68]:=by decide
  exact this m hm x j
theorem rQ {l:List (List α)} {i} (h:∀m∈l,m.length<=n):(l.getD i []).length<=n:=by
 rw [List.getD_eq_getElem?_getD];induction e:l[i]? using Option.casesOn with|none=>exact hL _|some m=>exact h m (bh e)
theorem lF {i} {x} (h:x∈(ctx c).ac i):(i=0/\x∈gC c)\/(i=1/\x∈eG c):=by
 have h:x∈(if i=0 then gC c else if i=1 then eG c else []):=h
 split at h
 ·rename_i e;exact .inl ⟨e,h⟩
 ·split at h
  ·rename_i e;exact .inr ⟨e,h⟩
  ·trivial
theorem jt {i} {x} (h:x∈(ctx c).ac i):x∈BK:=by
 rcases lF h with ⟨_,h⟩|⟨_,h⟩
 ·have:∀x∈ [Kd.a0 67,.a0 64,.a1 69 (.a0 64),.a1 69 (.v 0),.a2 70 (.v 0) (.a0 64)],x∈BK:=by decide
  exact this x (qF h)
 ·have:∀x∈ [Kd.v 0,.a0 65,.a1 69 (.v 0),.a0 68],x∈BK:=by decide
  exact this x (py h)
theorem i5:∀x∈BK,(ak x=true\/aX x=true\/x= .a0 64\/x= .a0 65)/\lk true x=true/\dp x<=5/\wt x<=3:=by decide
theorem sL (c):dI (ctx c):=by
 have dec:∀i,∀x∈(ctx c).ac i,∀j,x= .v j->j<i:=λi x k j e=>by
  subst e;rcases lF k with ⟨rfl,h⟩|⟨rfl,h⟩
  ·exact Bool.noConfusion ((show∀x∈ [Kd.a0 67,.a0 64,.a1 69 (.a0 64),.a1 69 (.v 0),.a2 70 (.v 0) (.a0 64)],ak x=false by decide) _ (qF h))
  ·rcases aR (py h) with e|h
   ·rw [Kd.v.inj e];exact Nat.one_pos
   ·exact Bool.noConfusion ((show∀x∈ [Kd.a0 65,.a1 69 (.v 0),.a0 68],ak x=false by decide) _ h)
 have less:∀i x,Bd (ctx c) i x->∀j,x= .v j->j<i:=λi x h=>by
  induction h with|base k=>exact dec i _ k| @step j x _ k t=>exact λy e=>Nat.lt_trans (dec j _ k y e) (t j rfl)
 refine ⟨⟨λi=> ?_,λi h=>JB _ (less i _ h i rfl),λi=> ?_,λi x k=>(i5 x (jt k)).1⟩,dec,λi x k=>⟨(i5 x (jt k)).2.1,(i5 x (jt k)).2.2.1⟩⟩
 ·show (if i=0 then gC c else if i=1 then eG c else []).length<=2
  split
  ·exact rQ (aa rfl)
  ·split
   ·unfold eG
    split
    ·exact hL _
    ·exact rQ (aa rfl)
   ·exact hL _
 ·show (if i=0 then dS c else if i=1 then c/90%2 else 0)<=2
  split
  ·unfold dS
   split
   ·exact oq 112
   ·exact oo 0x7d2b8b4b589d6a25a005 (by exact sD _ _ rfl) (by exact sD _ _ rfl)
  ·split
   ·exact oo 0xfa5713032734de144225a005 (by exact sD _ _ rfl) (by exact sD _ _ rfl)
   ·exact oq 112
theorem dq {k k'}:aE (aV af k v) k'=if k'=k then some v else aE af k':=by
 have D:∀l,aE (l.map λp=>if p.1=k then (p.1,v) else p) k'=if k'=k then (if (aE l k).isSome then some v else none) else aE l k':=by
  intro l;induction l with|nil=>by_cases e:k'=k<;>simp [aE,e]|cons p l j=>
   unfold aE at j⊢;rw [HG,hW,hW,hW];by_cases y:p.1=k
   ·rw [ep y];by_cases t:k'=k
    ·subst t;simp [y]
    ·have:¬k=k':=λe=>t e.symm;rw [fm t] at j⊢;simp only [y,H',this,decide_false];exact j
   ·rw [fm y];by_cases t:k'=k
    ·subst t;rw [ep rfl] at j⊢;simp only [y,decide_false];exact j
    ·rw [fm t] at j⊢;by_cases z:p.1=k'
     ·simp [z]
     ·simp only [z,decide_false];exact j
 unfold aV;by_cases h:(aE af k).isSome=true
 ·rw [ep h,D af,h];simp
 ·rw [fm h];have A:aE af k=none:=by
   induction e:aE af k using Option.casesOn with|none=>rfl|some _=>rw [e] at h;exact dv rfl h
  unfold aE at A⊢;rw [List.find?_append];by_cases e:k'=k
  ·subst e;rw [ep rfl];induction hf:af.find? (λp=>decide (p.1=k')) using Option.casesOn with|none=>simp|some _=>rw [hf] at A;trivial
  ·rw [fm e];have:¬k=k':=λq=>e q.symm;induction hf:af.find? (λp=>decide (p.1=k')) using Option.casesOn with|none=>simp [this]|some _=>simp
theorem BY {k x} (h:bf af x=true) (hk:kindOf k=kindOf x):bf (aV af k v) x=true:=by
 unfold bf at*;rw [hQ,E'] at*;refine ⟨h.1,λp hp=> ?_⟩;unfold aV at hp
 split at hp
 ·obtain ⟨q,j,rfl⟩:=g5.mp hp;have:=h.2 q j
  split
  ·exact this
  ·exact this
 ·rcases aG hp with hp|hp
  ·exact h.2 p hp
  ·rw [w4] at hp;rw [hp,hk];simp
variable {fl:Nat}{de:List (Nat×V)}{d':List (V×V)}{bl nw oh:List V}{bv:V}{x4 x5 x6 x7:Option V}
section
variable {x:Kd} {st:Bool}
theorem DM {all}:∀l {Q} {s} {ts},HL Z s ts->(∀x∈l,x∈Z.U/\lk true x=true/\dp x<=7)->
 (∀s' ae ks,HL Z s' ae->ts<+:ae->Fr (Z.KN::Z.m) s s'->aD ae ks l->Q ks s')->WC sc (n+14) (.tup all) (false,all) [some (.ref Z.wd)] (.fn 81 (.cons (.loc 1) (.cons (.loc 0) .nil))) .nil (l.map enc) Q s:=by
 intro G;induction G with|nil=>intro Q s ts h _ q;exact g8 trivial (q s ts [] h (aF _) .ay .nil)|cons x l I=>intro Q s ts h hl q;obtain ⟨A,D,F⟩:=hl x ai;refine gS trivial<|ou 7 n x _ s ts h A D F F λs1 J k1 A p1 f1 L=> ?_;refine I A (λy Y=>hl y (.tail _ Y)) λs2 E ks D p2 f2 dk=> ?_;exact q s2 E _ D (p1.trans p2) (f1.trans f2) (.cons (L.mono p2) dk)
theorem zE {i:Nat} {fs} (a:s[i]? =some (.inst c fs)) (b:s[i]? =some (.inst c de)):fs=de:=(O.inst.inj (aP (a.symm.trans b))).2
theorem HL.keep {m} {wk} (h:HL Z s ts) (ap:Ap Z) (f:Fr m s s') (hm:∀j∈m,j=Z.wd\/j=Z.aN) (I:s'[Z.wd]? =some (.dict wk)) (J:hH Z wk) (L:fR wk) (Y:s'[Z.aN]? =some (.list bl)) (hl:bl.length=2):
 HL (Z.snap s' ts Z.C false Z.hb Z.hg) s' ts/\Ap (Z.snap s' ts Z.C false Z.hb Z.hg):=by
 have D:∀j∈m,j∈ [Z.wd,Z.KL,Z.aN]:=λj z=>(hm j z).elim (λe=>e▸ai) λe=>e▸ci;have off:∀{i},i∉ [Z.wd,Z.KL,Z.aN]->i∉m:=λn e=>n (D _ e);have n1:=bw ap.nd;have nh:Z.KL∉m:=λe=>(hm _ e).elim (λe=>n1.1 (e▸ai)) λe=>(bw n1.2).1 (e▸ai);obtain ⟨fs,E,e2⟩:=h.h.wd.KL;obtain ⟨de,e3,e4⟩:=ap.hl;obtain ⟨bv,F,b2⟩:=h.h.wd.hb;obtain ⟨gv,G,g2⟩:=h.h.wd.hg;have:=zE E.1 e3.1;subst this;exact h.snap ap (f.sub λj z=>aA _ (D j z)) (h.h.kt.fr f λi A=>(aR A).elim (λe=>e▸off ap.kt) λA=>off (ap.m i (.tail _ A))) (aF _) ⟨fs,f.get nh (h.h.get E),e2,e4⟩
  ⟨bv,f.get (off ap.hb) (h.h.get F),F.2,ap.hb,λy k t p nd d=>b2 y k t (h.h.pre.trans p) nd d⟩ ⟨gv,f.get (off ap.hg) (h.h.get G),G.2,ap.hg,λy k t p nd d=>g2 y k t (h.h.pre.trans p) nd d⟩
  ⟨wk,I,J,L,λe=>Bool.noConfusion e⟩ ⟨bl,Y,hl⟩
theorem hH.set {wk} (h:hH Z wk):hH Z (aV wk (.str "bounds") v):=by
 have g:∀{a},a≠Str.ofString "bounds"->aE (aV wk (.str "bounds") v) (.str a)=aE wk (.str a):=λn=>by rw [dq,fm λe=>n (V.str.inj e)]
 exact ⟨λx=>BY (h.1 x) rfl,(g (aa rfl)).trans h.2.1,(g (aa rfl)).trans h.2.2.1,(g (aa rfl)).trans h.2.2.2.1,(g (aa rfl)).trans h.2.2.2.2.1,(g (aa rfl)).trans h.2.2.2.2.2.1,(g (aa rfl)).trans h.2.2.2.2.2.2⟩
theorem An {a b}:aE [(.int k0,a),(.int k1,b)] (.int j)=if j=k0 then some a else if j=k1 then some b else none:=by
 have c:∀{x y:Nat},decide (V.int x=V.int y)=decide (y=x):=λ{x y}=>decide_eq_decide.mpr ⟨λe=>(Int.ofNat.inj (V.int.inj e)).symm,λe=>e▸rfl⟩;unfold aE;rw [hW,hW,c,c];by_cases z:j=k0
 ·rw [gs z,ep z];rfl
 ·rw [hI z,fm z];by_cases A:j=k1
  ·rw [gs A,ep A];rfl
  ·rw [hI A,fm A];rfl
theorem C6 (F:Den ts k0 (.v 0)) (G:Den ts k1 (.v 1)) (D:aD ts nw (gC c)) (E:aD ts oh (eG c)) (nd:ts.Nodup) (d:Den ts j t):
 (∃vs,(aE [(.int k0,.tup nw),(.int k1,.tup oh)] (.int j)).getD (.tup [])= .tup vs/\aD ts vs ((ctx c).jN t))/\(aE [(.int k0,.int (dS c)),(.int k1,.int (c/90%2:Nat))] (.int j)).getD (.int 0)= .int ((ctx c).qf t):=by
 rw [An,An];by_cases y:j=k0
 ·subst y;rw [ep rfl,ep rfl,d.inj F];exact ⟨⟨nw,rfl,D⟩,rfl⟩
 ·rw [fm y,fm y];by_cases A:j=k1
  ·subst A;rw [ep rfl,ep rfl,d.inj G];exact ⟨⟨oh,rfl,E⟩,rfl⟩
  ·rw [fm A,fm A];have n0:t≠ .v 0:=λe=>y (gY nd d (e▸F));have n1:t≠ .v 1:=λe=>A (gY nd d (e▸G));have z:(ctx c).jN t= []/\(ctx c).qf t=0:=by
    induction t with|v i=>have I:i≠0:=λe=>n0 (e▸rfl);have J:i≠1:=λe=>n1 (e▸rfl);exact ⟨(fm I).trans (fm J),(fm I).trans (fm J)⟩|_=>exact ⟨rfl,rfl⟩
   rw [z.1,z.2];exact ⟨⟨[],rfl,.nil⟩,rfl⟩
theorem fR.set {wk} (h:fR wk):fR (aV wk (.str "bounds") v):=by
 unfold fR at*;rw [dq,ep rfl];unfold aV
 split
 ·rename_i e;rw [ep e] at h;rw [aC];exact h
 ·rename_i e;rw [fm e] at h;rw [aL];exact h
theorem Ix:(FK.map λl=>V.tup (l.map enc))[((c:Int)%6).toNat]? =some (.tup ((gC c).map enc)):=by
 have h:((c:Int)%6).toNat=c%6:=rfl;have y:c%6<FK.length:=by show c%6<6;exact oo 0x84ec2d2fce083 (by exact sD _ _ rfl)
 rw [h,ko,bZ y];unfold gC;rw [List.getD_eq_getElem?_getD,bZ y];rfl
theorem P4:(SK.map λl=>V.tup (l.map enc))[((c:Int)/18%5).toNat]? =some (.tup ((SK.getD (c/18%5) []).map enc)):=by
 have h:((c:Int)/18%5).toNat=c/18%5:=rfl;have y:c/18%5<SK.length:=by show c/18%5<5;exact oo 0xfa572d3d05342e4c425ca085 (by exact sD _ _ rfl) (by exact sD _ _ rfl)
 rw [h,ko,bZ y];rw [List.getD_eq_getElem?_getD,bZ y];rfl
theorem Ku {a b} (h:HL Z s ts) (ap:Ap Z) (z:s[Z.aN]? =some (.list bl)) (hl:bl.length=2) (hp:p<2)
 (q:∀s',Fr [Z.aN] s s'->s'[Z.aN]? =some (.list (bl.set p (.tup [a,b])))->Q .none s'):aq sc (n+1) 36 [.ref Z.KM,.int 77,.int p,a,b] Q s:=by
 apply cg rfl;obtain ⟨qX,y,Y,D⟩:=h.h.wd.KM;obtain ⟨fs,tl,E,F,t2,G,I,J,t6,t7⟩:=ap.mq;exact am (h.h.get y) rfl D<|ce (h.h.get I) (aa rfl) J<|am (h.h.get F) rfl G<|tS z ⟨oq 0,oq 6 hp,oo 0x1795f0800712126a5363aa0083 (by exact sT _) hp hl⟩ λL f1 y l1=>q L f1 y
def sC (c:Nat):V:= .tup [.tup [.int (dS c),.tup ((gC c).map enc)],.tup [.int (c/90%2:Nat),.tup ((eG c).map enc)]]
def Lr:Ss:= .cons (.asg 9 (.idx (.idx (.loc 0) (.lit (.str "bounds"))) (.loc 8))) (dr 1 (bd (dr 7 (bo 95))))
theorem xG {wk} (h:HL Z s ts) (ap:Ap Z) (hp:p<2) (ew:s[Z.wd]? =some (.dict wk)) (w1:hH Z wk) (w2:fR wk) (wb:aE wk (.str "bounds")=some bv) (eb:s[Z.aN]? =some (.list bl)) (E:bl.length=2)
 (J:∀{R} {s'},R (.tup [.int fl,.tup (l.map enc)]) s'->P 8 (index bv (.int p)) R s') (hl:∀x∈l,x∈Z.U/\lk true x=true/\dp x<=7) (F:l.length<=10)
 (q:∀z y ks o9,HL (Z.snap z y Z.C false Z.hb Z.hg) z y->Ap (Z.snap z y Z.C false Z.hb Z.hg)->ts<+:y->Fr (Z.aN::Z.KN::Z.m) s z->aD y ks l->z[Z.aN]? =some (.list (bl.set p (.tup [.int fl,.tup ks])))->z[Z.wd]? =some (.dict wk)->
   K .next (oz (eR Z.wd) (eR Z.KM) (eR Z.KL) x3 x4 x5 x6 x7 (eI p) o9) z):
 wSs sc (n+29) Lr (oz (eR Z.wd) (eR Z.KM) (eR Z.KL) x3 x4 x5 x6 x7 (eI p) o9) K s:=by
 have mo:∀{i},i∈ [Z.wd,Z.KL,Z.aN]->i∉Z.KN::Z.m:=λhi A=>ap.off _ hi ((aR A).elim (λe=>e▸ai) λA=> .tail _ (.tail _ A));have L:Z.wd≠Z.aN:=λe=>(bw ap.nd).1 (e▸bn);refine eK ew (w1.1 _) wb<|J<|ah rfl rfl<|ah rfl rfl<|DM (n:=n+15) l h hl λz y ks h2 p2 f2 dk=> ?_;have G:=dk.len;refine je (oq 113 G F) λs3 f3 e3 l3=> ?_;have h3:HL Z s3 y:=⟨h2.h.new f3,h2.l⟩;apply oi e3 (oq 113 G F);have D:=f2.trans (aI f3);refine Ku (n:=n+28) h3 ap (D.get (mo ci) eb) E hp λs4 Y e4=> ?_;have I:=Y.ne L (D.get (mo ai) ew);have S:=h3.keep ap Y (λj A=> .inr (aj A)) I w1 w2 e4 (by rw [JL];exact E);exact q s4 y ks _ S.1 S.2 p2 ((D.sub λj A=> .tail _ A).trans Y.c1) dk e4 I
theorem M0 {wk} (h:HL Z s ts) (ap:Ap Z) (L: .v 0∈Z.U) (Y: .v 1∈Z.U) (ew:s[Z.wd]? =some (.dict wk)) (w1:hH Z wk) (w2:fR wk)
 (wb:aE wk (.str "bounds")=some (sC c)) (eb:s[Z.aN]? =some (.list [.tup [.int (dS c),.tup nw],.tup [.int (c/90%2:Nat),.tup oh]])) (E:aD ts nw (gC c)) (F:aD ts oh (eG c))
 (q:∀s' ae hb hg,HL (Z.snap s' ae (ctx c) true hb hg) s' ae->Ap (Z.snap s' ae (ctx c) true hb hg)->ts<+:ae->Fr (Z.KL::Z.m) s s'->Q .none s'):aq sc (n+8) 61 [.ref Z.KL,.ref Z.KM,.int 77,.int 0] Q s:=by
 have n1:=bw ap.nd;have nwh:Z.wd≠Z.KL:=λe=>n1.1 (e▸ai);have G:Z.aN≠Z.KL:=λe=>(bw n1.2).1 (e▸ai);have ef:∀{i},i∈ [Z.wd,Z.KL,Z.aN]->i∉Z.kt::Z.m:=λz I=>ap.off _ z (.tail _ I);obtain ⟨fs,g1,g2⟩:=h.h.wd.KL;obtain ⟨de,g3,g4⟩:=ap.hl;have:=zE g1.1 g3.1;subst this;obtain ⟨qX,u1,u2,u3⟩:=h.h.wd.KM;obtain ⟨fs1,tl,bl',v1,v2,v3,v4,v5,v6,v7⟩:=ap.mq;have D:∀{j},j∉ [Z.wd,Z.KL,Z.aN]->j≠Z.KL:=λh e=>h (e▸bn);have cc:∀{i},i≠Z.KL->i∉Z.m->i∉Z.KL::Z.m:=λa b e=>(aR e).elim a b;have nm:∀{i},i∈ [Z.wd,Z.KL,Z.aN]->i∉Z.m:=λz I=>ef z (.tail _ I);have nb:=nm (i:=Z.aN) ci;refine I_ (hb:=Z.hb) (hg:=Z.hg) h.h.kt L Y (h.h.get g1) g2 g4 (h.h.get u1) u3 (h.h.get v4) v5 (h.h.get v1) v3 eb (ef bn) (λi z=> ?_) λs4 ts4 A B k0 k1 fs4 K4 p4 J eh4 ho4 hl4 eA eB d0 d1 hA hB=> ?_
 ·rcases uP z with e|e|e|e<;>subst e
  ·exact cc (D ap.KM) λe=>u1.2 (.tail _ e)
  ·exact cc (D ap.types) λe=>v4.2 (.tail _ e)
  ·exact cc (D v2) λe=>v1.2 (.tail _ e)
  ·exact cc G nb
 ·have lo:∀{i},s.length<=i->i∉Z.KN::Z.m/\i∉ [Z.wd,Z.KL,Z.aN]:=λ{i} z=>⟨λe=>(h.h.off z).2 ((aR e).elim (λe=>e▸ai) λe=> .tail _ (.tail _ e)),λe=>by have l1:=bE ew;have l2:=bE (h.h.get g1);have l3:=bE eb;have:=fL e;exact oo 0x24ff8ec30db2e1e9749572ee6537a2515188501485 l1 z this l2 l3⟩;have S:=h.snap ap (C:=ctx c) (has:=true) (hb:=A) (hg:=B) (J.sub λj I=>(aR I).elim (λe=>e▸bn) (aS _)) K4 p4 ⟨fs4,eh4,ho4,hl4⟩
   ⟨_,eA,(lo hA).1,(lo hA).2,λts2 j t p nd d=>⟨rfl,(C6 (d0.mono p) (d1.mono p) ((E.mono p4).mono p) ((F.mono p4).mono p) nd d).1⟩⟩
   ⟨_,eB,(lo hB).1,(lo hB).2,λts2 j t p nd d=>⟨rfl,(C6 (d0.mono p) (d1.mono p) ((E.mono p4).mono p) ((F.mono p4).mono p) nd d).2⟩⟩
   ⟨wk,J.get (cc nwh (nm ai)) ew,w1,w2,λ_=>wb⟩ ⟨_,J.get (cc G nb) eb,rfl⟩
  exact q s4 ts4 A B S.1 S.2 p4 J
theorem Qy {a b} (h:bl.length=2):(bl.set 0 a).set 1 b= [a,b]:=match bl,h with| [_,_],_=>rfl
theorem Aq {M} (hM:30<=M) (h:HL Z s ts) (ap:Ap Z) (hB:∀x∈BK,x∈Z.U) (hc:c<2^40)
 (q:∀s' ae hb hg,HL (Z.snap s' ae (ctx c) true hb hg) s' ae->Ap (Z.snap s' ae (ctx c) true hb hg)->ts<+:ae->Fr (Z.KN::Z.wd::Z.KL::Z.aN::Z.m) s s'->Q .none s'):aq sc M 95 [.ref Z.wd,.ref Z.KM,.ref Z.KL,.int c] Q s:=by
 obtain ⟨F,rfl⟩:∃F,M=F+30:=⟨M-30,oo 0x3420504140252410001ef20000f791b0007bcc8102 (by exact sO _ _) hM⟩;apply cg rfl;have rest:∀{o5},wSs sc (F+29) (dr 5 (tl (bo 95))) (oz (eR Z.wd) (eR Z.KM) (eR Z.KL) (eI c) (eI (dS c)) o5 (some (.tup ((gC c).map enc))) (some (.tup ((eG c).map enc))) none none) (fin Q) s:=by
  intro o5;obtain ⟨wk,w1,I⟩:=h.l.w;have wo:hH Z wk:=⟨I.1,I.2.1,I.2.2.1,I.2.2.2.1,I.2.2.2.2.1,I.2.2.2.2.2.1,I.2.2.2.2.2.2.1⟩;obtain ⟨wk0,q1,L⟩:=ap.wl;have:=O.dict.inj (aP (w1.1.symm.trans q1.1));subst this;obtain ⟨fs0,tl0,bl0,t1,t2,t3,t4,t5,t6,t7⟩:=ap.mq;have nbw:Z.aN≠Z.wd:=λe=>(bw ap.nd).1 (e▸bn);refine cB ⟨aa rfl,oq 4 (by exact sA _) hc⟩<|bH (aa rfl)<|eF (h.h.get w1) (wo.1 _) (by unfold fR at L;exact oo 0x79608034002 L) λs1 f1 Y l1=> ?_;replace Y:s1[Z.wd]? =some (.dict (aV wk (.str "bounds") (sC c))):=Y;have wb:aE (aV wk (.str "bounds") (sC c)) (.str "bounds")=some (sC c):=by rw [dq,ep rfl]
  have S1:=h.keep ap f1 (λj y=> .inl (aj y)) Y wo.set L.set (f1.ne nbw (h.h.get t6)) t7;have bk7:∀{l:List Kd},(∀x∈l,x∈BK)->∀x∈l,x∈Z.U/\lk true x=true/\dp x<=7:=λhl x D=>⟨hB x (hl x D),(i5 x (hl x D)).2.1,df (i5 x (hl x D)).2.2.1 (aa rfl)⟩;refine bz trivial<|xG (Z:=Z.snap s1 ts Z.C false Z.hb Z.hg) (p:=0) (fl:=dS c) (l:=gC c) (n:=F) S1.1 S1.2 (aa rfl) Y wo.set L.set wb (f1.ne nbw (h.h.get t6)) t7 (λr=>ah rfl rfl r) (bk7 λx D=>jt (c:=c) (i:=0) D) (rQ (aa rfl)) λs2 ts2 nw o9 h2 ap2 p2 f2 dk0 eb2 ew2=> ?_;refine bz trivial ?_;refine xG (Z:=Z.snap s2 ts2 Z.C false Z.hb Z.hg) (p:=1) (fl:=c/90%2) (l:=eG c) (n:=F) h2 ap2 (aa rfl) ew2 wo.set L.set wb eb2 (by rw [JL];exact t7) (λr=>ah rfl rfl r) (bk7 λx D=>jt (c:=c) (i:=1) D) (by unfold eG;split;exact hL _;exact rQ (aa rfl)) λs3 ts3 oh o9 h3 ap3 p3 f3 dk1 eb3 ew3=> ?_;refine dH trivial ?_;refine M0 (Z:=Z.snap s3 ts3 Z.C false Z.hb Z.hg) (c:=c) (n:=F+21) h3 ap3 (hB _ (aa rfl)) (hB _ (aa rfl)) ew3 wo.set L.set wb (Qy t7▸eb3) (dk0.mono p3) dk1 λs4 ts4 A B h4 ap4 p4 f4=> ?_;apply q s4 ts4 A B h4 ap4 ((p2.trans p3).trans p4);have c0:∀j∈Z.aN::Z.KN::Z.m,j∈Z.KN::Z.wd::Z.KL::Z.aN::Z.m:=λj y=>(aR y).elim (λe=>e▸eP) λy=>(aR y).elim (λe=>e▸ai) λy=> .tail _ (.tail _ (.tail _ (.tail _ y)));exact f1.c2.trans (((f2.sub c0).trans (f3.sub c0)).trans (f4.sub λj y=>(aR y).elim (λe=>e▸ci) λy=> .tail _ (.tail _ (.tail _ (.tail _ y)))))
 refine cB ⟨aa rfl,oq 4 (by exact sA _) hc⟩<|bH (aa rfl)<|bH (aa rfl)<|cA ⟨oo 0x41147f88f0853a1 (by exact sZ _ _ rfl),oo 0x41a07f88f250c21 (by exact sZ _ _ rfl)⟩ Ix ?_;have sec:∀{o5},wSs sc (F+29) (dr 3 (tl (bo 95))) (oz (eR Z.wd) (eR Z.KM) (eR Z.KL) (eI c) (eI (dS c)) o5 (some (.tup ((gC c).map enc))) none none none) (fin Q) s:=by
  intro o5;apply cB ⟨aa rfl,oq 4 (by exact sA _) hc⟩;apply bH (aa rfl);apply cA ⟨oo 0x1456401615796002f5893e0853c1 (by exact sZ _ _ rfl) (by exact sZ _ _ rfl),oo 0x1482001615796002f5893e4a0c41 (by exact sZ _ _ rfl) (by exact sZ _ _ rfl)⟩ P4;have hS:∀x∈SK.getD (c/18%5) [],lk true x=true:=λx D=>by
   obtain ⟨m,hm,D⟩:=getD_mem D;have:∀m∈SK,∀x∈m,lk true x=true:=by decide
   exact this m hm x D
  have Y:dS c=2-> .v 0∈SK.getD (c/18%5) []->eG c= []:=λa b=>by unfold eG;rw [ep ⟨a,b⟩]
  have e2:¬(dS c=2/\ .v 0∈SK.getD (c/18%5) [])->eG c=SK.getD (c/18%5) []:=λa=>by unfold eG;rw [fm a]
  refine az (p:=(dS c:Int)=2) (λG=> ?_) λG=> ?_
  ·refine h_ (pH (hv:=true) (l:=SK.getD (c/18%5) []) (t:= .v 0) hS (aa rfl) (aa rfl))<|az (λJ=> ?_) λJ=> ?_
   ·have:=rest (o5:=o5);rw [Y (oq 50 G) J] at this;exact this
   ·have:=rest (o5:=o5);rw [e2 λa=>J a.2] at this;exact this
  ·apply aO G;have:=rest (o5:=o5);rw [e2 λa=>G (oq 97 a.1)] at this;exact this
 have fl:(c:Int)/6%3=((c/6%3:Nat):Int):=rfl;rw [fl];refine az (p:=((c/6%3:Nat):Int)=2) (λG=> ?_) λG=> ?_
 ·refine bH (aa rfl)<|az (λJ=> ?_) λJ=> ?_
  ·have:= @sec (some (enc (.a0 64)));rw [show dS c=0 by unfold dS;rw [ep ⟨ej Int.toNat G,ej Int.toNat J⟩]] at this;exact this
  ·have:= @sec (some (enc (.a0 64)));rw [show dS c=c/6%3 by unfold dS;rw [fm λz=>J (ej Int.ofNat z.2)]] at this;exact this
 ·apply aO G;have:= @sec (some (enc (.a0 64)));rw [show dS c=c/6%3 by unfold dS;rw [fm (by exact oo 0xb3136ca26023d32efe6ca25626257c0a5a12a05 (by exact sD _ _ rfl) (by exact sD _ _ rfl) G)]] at this;exact this
end
variable {o:O}
section
theorem cG (q:∀s',Fr [] s s'->s'[s.length]? =some o->s'.length=s.length+1->Q (.ref s.length) s'):P 5 (bN o) Q s:=
 ⟨_,_,rfl,q _ ⟨by simp,λi h _=>mc h⟩ (by simp) (by simp)⟩
theorem Af (q:Q (.ref s.length) (s++ [o])):P 5 (bN o) Q s:=⟨_,_,rfl,q⟩
end
end Mine
namespace Mine
open PySem PyProof.Rows W
variable {a d k k' n:Nat}{v tid name sort flags base pn:V}{s:St}{de:List (Nat×V)}{rest:Ss}{α:Type}{ps:List V}{sc:List Int}{ρ:ag}
inductive IX|l (i:Nat)|c (v:V)|m|n
noncomputable def IX.x:IX->X
 | .l i=> .loc i| .c v=> .lit v| .m=> .neg (.lit (.int 1))| .n=> .lst .nil
noncomputable def t0 (ρ:ag) (r k:Nat):IX->Option (V×Nat)
 | .l i=>(ρ[i]?.join).map λv=>(v,k)| .c v=>some (v,k)| .m=>some (.int (-1),k)| .n=>some (.ref (r+k),k+1)
noncomputable def vz (ρ:ag) (r:Nat):List (Nat×IX)->Nat->List (Nat×V)->Option (Nat×List (Nat×V))
 | [],k,fs=>some (k,fs)|(n,x)::l,k,fs=>if ((ct 1).meths.lookup n).isNone=true/\fs.length<=900 then (t0 ρ r k x).bind λp=>vz ρ r l p.2 (bV fs n p.1) else none
noncomputable def zo:List (Nat×IX)->Ss->Ss
 | [],r=>r|(n,x)::l,r=> .cons (.n6 (.loc 0) n x.x) (zo l r)
structure OK (a r k k') fs (s s'):Prop where
 f:Fr [a] s s'
 e:s'[a]? =some (.inst 1 fs)
 l:s'.length=r+k'
 c:∀j,k<=j->j<k'->s'[r+j]? =some (.list [])
theorem cw {i} (h:i≠a):i∉ [a]:=λe=>h (aj e)
section
variable {r:Nat}
theorem Ms {Q} (hl:s.length=r+k):∀{x},t0 ρ r k x=some (v,k')->
 (k<=k'->∀s',Fr [] s s'->s'.length=r+k'->(∀j,k<=j->j<k'->s'[r+j]? =some (.list []))->Q v s')->wE sc d ρ x.x Q s
 | .l i,h,q=>by obtain ⟨z,e,h⟩:=Option.map_eq_some_iff.mp h;injection h with t y;subst t;subst y;exact mV e (q (g6 _) s .ay hl λj a b=>dv b (KD.mpr a))
 | .c _,h,q=>by injection h with h;injection h with t y;subst t;subst y;exact q .refl s .ay hl λj a b=>dv b (KD.mpr a)
 | .m,h,q=>by injection h with h;injection h with t y;subst t;subst y;exact q .refl s .ay hl λj a b=>dv b (KD.mpr a)
 | .n,h,q=>by injection h with h;injection h with t y;subst t;subst y;rw [<-hl] at q;refine cG λs' f e l=>q (tu _) s' f (by rw [l,hl];rfl) λj a b=> ?_;rw [Nat.le_antisymm (Nat.le_of_lt_succ b) a,<-hl];exact e
theorem yL {Q} (ha:a<r) (z:ρ[0]?.join=some (.ref a)):∀l {k} {fs} {s},vz ρ r l k fs=some (k',de)->s[a]? =some (.inst 1 fs)->s.length=r+k->
 (∀s',OK a r k k' de s s'->wSs sc n rest ρ Q s')->wSs sc n (zo l rest) ρ Q s:=by
 intro A;induction A with
 |nil=>intro k fs s h e hl q;injection h with h;injection h with D E;subst D;subst E;exact q s ⟨.ay,e,hl,λj a b=>dv b (KD.mpr a)⟩
 |cons t l F=>
  intro k fs s h e hl q;have h:(if ((ct 1).meths.lookup t.1).isNone=true/\fs.length<=900 then (t0 ρ r k t.2).bind λp=>vz ρ r l p.2 (bV fs t.1 p.1) else none)=some (k',de):=h;by_cases c:((ct 1).meths.lookup t.1).isNone=true/\fs.length<=900
  ·rw [ep c] at h;obtain ⟨⟨v,G⟩,I,h⟩:=Option.bind_eq_some_iff.mp h;refine Ms hl I λhk Z f1 J c1=>mV z (jJ (f1.gn e) c λs2 f2 L l2=> ?_);refine F h L (l2.trans J) λY i=>q Y ⟨(aI f1).trans (f2.trans i.f),i.e,i.l,λj a b=> ?_⟩;by_cases y:j<G
   ·have ne:r+j∉ [_]:=cw (JJ (i1 ha (ro _ _)));exact i.f.get ne (f2.get ne (c1 j a y))
   ·exact i.c j (Nat.le_of_not_lt y) b
  ·rw [fm c] at h;cases h
abbrev Nc (r:Nat) (vs:List V) (s:St):Prop:=∃xs,s[r+1]? =some (.list xs)/\xs.length=vs.length
structure Nz t r (vs:List V) s:Prop where
 f:Fr [r+1,r+2,r+3] t s
 a:Nc r vs s
 b:s[r+2]? =some (.list (List.replicate vs.length (.int 0)))
 c:s[r+3]? =some (.list (List.replicate vs.length (.tup [.int 0,.tup []])))
 l:s.length=t.length
theorem xO {x v:α} {vs}:List.replicate vs.length x++ [x]=List.replicate (vs++ [v]).length x:=by rw [aL];exact List.replicate_succ'.symm
theorem Eu {Q} (I:ps.length<=100) (e:s[a]? =some (.inst 1 []))
 (q:∀s' fs,Fr [a] s s'->s'.length=s.length+9->s'[a]? =some (.inst 1 fs)->aH fs 12=some sort->aH fs 14=some base->aH fs 15=some (.ref s.length)->aH fs 17=some (.ref (s.length+2))->aH fs 18=some (.ref (s.length+3))->aH fs 23=some (.int (-1))->fs.length<=50->
   s'[s.length]? =some (.list [])->s'[s.length+2]? =some (.list (List.replicate ps.length (.int 0)))->s'[s.length+3]? =some (.list (List.replicate ps.length (.tup [.int 0,.tup []])))->Q .none s'):
 aq sc (n+1) 30 [.ref a,tid,name,sort,flags,base,.tup ps,pn] Q s:=by
 apply cg rfl;have ha:=bE e;generalize Y:s.length=r at*;refine yL (k:=0) (k':=4) (de:= [(10,tid),(11,name),(12,sort),(13,flags),(14,base),(15,.ref r),(16,.ref (r+1)),(17,.ref (r+2)),(18,.ref (r+3))])
  ha rfl [(10,.l 1),(11,.l 2),(12,.l 3),(13,.l 4),(14,.l 5),(15,.n),(16,.n),(17,.n),(18,.n)] (by kernel_rfl) e Y λZ z=> ?_
 have ne:∀{j},r+j≠a:=λh=>JB _ (rk (ro _ _) (h▸ha));have off:∀{j},j=0\/4<=j->r+j∉ [r+1,r+2,r+3]:=λ{j} h e=>by have z0:=fL e;exact oo 0x6a292a292a30c80584c2a282212282260228226482 z0 h
 have A:a∉ [r+1,r+2,r+3]:=λe=>by have z1:=fL e;exact oo 0x38989892b2042640980c813201482 ha z1
 refine qP (λJ=>cf (eR a) (some tid) (some name) (some sort) (some flags) (some base) (some (.tup ps)) (some pn) J)
  (λdone rest s'=>done.length+rest.length=ps.length/\Nz Z r done s') ps [] none Z ⟨Nat.zero_add _,.ay,⟨[],z.c 1 (aa rfl) (aa rfl),rfl⟩,z.c 2 (aa rfl) (aa rfl),z.c 3 (aa rfl) (aa rfl),rfl⟩ (λ_ _ _ _=>trivial) ?_ ?_
 ·rintro J s2 done ⟨hd,t⟩;refine yL (r:=r+4) (a:=a) (k:=0) (k':=5) (de:= [(10,tid),(11,name),(12,sort),(13,flags),(14,base),(15,.ref r),(16,.ref (r+1)),(17,.ref (r+2)),(18,.ref (r+3)),(19,.ref (r+4)),(20,.ref (r+4+1)),(21,pn),(22,.int 0),(23,.int (-1)),(24,.ref (r+4+2)),(25,.ref (r+4+3)),(26,.ref (r+4+4)),(27,.int 0),(28,.int 0)]) (rest:= .nil)
   (i1 ha (ro _ _)) rfl [(19,.n),(20,.n),(21,.l 7),(22,.c (.int 0)),(23,.m),(24,.n),(25,.n),(26,.n),(27,.c (.int 0)),(28,.c (.int 0))] (by kernel_rfl) (t.f.get A z.e) (t.l.trans z.l) λs3 F=> ?_
  have g:∀{j} {o},s2[r+j]? =some o->s3[r+j]? =some o:=λh=>F.f.get (cw ne) h;refine q s3 _ ?_ F.l F.e rfl rfl rfl rfl rfl rfl (ll rfl) (g (j:=0) (t.f.get (off (.inl rfl)) (z.c 0 (aa rfl) (aa rfl)))) (g (hd▸t.b)) (g (hd▸t.c));refine ((z.f.sub λi y=>aA [r+1,r+2,r+3] y).trans ((t.f.sub λi y=>aS _ y).trans (F.f.sub λi y=>aA _ y))).cut λi y hl=> ?_;rcases aG y with y|y
  ·exact y
  ·have z2:=fL y;exact (oo 0xbf471c939d5a95cbbb4a5901c532af01483 hl z2 Y).elim
 ·rintro K done v rest J s2 ⟨hd,t⟩ hK;have D:done.length<100:=by rw [iZ] at hd;exact oo 0x35d42d84a4cd9e083 hd I
  obtain ⟨xs,h1,hx⟩:=t.a;have ea:=t.f.get A z.e;refine am ea rfl rfl<|ee h1<|eg h1 (oq 55 D hx) λt1 E k1 m1=> ?_;have n1:∀{i j},i≠j->r+i∉ [r+j]:=λh=>cw λe=>h (Nat.add_left_cancel e);apply am (E.get (cw (Ne.symm ne)) ea) rfl rfl;have x2:=E.get (n1 (aa rfl)) t.b;refine ee x2<|eg x2 (by rw [KB];exact oq 114 D) λt2 G k2 m2=> ?_;apply am (G.get (cw (Ne.symm ne)) (E.get (cw (Ne.symm ne)) ea)) rfl rfl;have x3:=G.get (n1 (aa rfl)) (E.get (n1 (aa rfl)) t.c);refine ee x3<|eg x3 (by rw [KB];exact oq 114 D) λt3 L k3 m3=> ?_;exact hK.next (some v) ⟨by rw [aL,y5];rw [iZ] at hd;exact oq 115 hd,t.f.trans (E.c1.trans (G.c2.trans L.c3)),⟨_,L.get (n1 (aa rfl)) (G.get (n1 (aa rfl)) k1),by rw [aL,aL,hx]⟩,(by rw [<-xO];exact L.get (n1 (aa rfl)) k2),(by rw [<-xO];exact k3),by rw [m3,m2,m1,t.l]⟩
end
end Mine
namespace Mine
open PySem
variable {s s':St}{k:Nat}
structure m8 (s:St) (k:Nat):Prop where
 a:s[k]? =some (.inst 0 [(3,.ref (k+1)),(4,.ref (k+2)),(5,.ref (k+3)),(6,.ref (k+4)),(7,.ref (k+5))])
 b:s[k+1]? =some (.list (fK.map (bK (ix fK))))
 c:s[k+2]? =some (.dict (fK.map λt=>(bK (ix fK) t,V.int (ix fK t))))
 d:s[k+3]? =some (.list (fK.map λt=>V.int (dp t)))
 e:s[k+4]? =some (.list (fK.map λt=>V.int (wt t)))
 f:s[k+5]? =some (.list (fK.map λt=>V.int (op t)))
theorem m8.fr {m} (h:m8 s k) (f:Fr m s s') (hm:∀i∈m,i<k\/k+6<=i):m8 s' k:=by
 have ne:∀j,j<6->k+j∉m:=λj t e=>by have:=hm _ e;exact oo 0xc266c1414d1008216482 this t
 exact ⟨f.get (ne 0 (aa rfl)) h.a,f.get (ne 1 (aa rfl)) h.b,f.get (ne 2 (aa rfl)) h.c,f.get (ne 3 (aa rfl)) h.d,f.get (ne 4 (aa rfl)) h.e,f.get (ne 5 (aa rfl)) h.f⟩
variable {j a n7 h n N nm L0 nt:Nat}{y:Kd}{s0:St}{ae ts:List Kd}{gI If:Nat->List Kd}{jG Va:Nat->List Int}{jR Un:Nat->Option Kd}{tid name sort flags base pn:V}{ps vs:List V}{W:World}{sc:List Int}{Q:V->St->Prop}{Z:Zw}{td:Nat->Nat}{bs:List Nat}
abbrev Nh (W:World) (ts:List Kd) (a:Nat) (h:Nat) (fs:List (Nat×V)):Prop:=∃v,aH fs 14=some v/\d6 ts (W.d9 h) v
structure kf (W:World) ts (a h) Un fs:Prop where
 sort:aH fs 12=some (.int (fH h))
 base:Nh W ts a h fs
 eU:aH fs 15=some (.ref (a+1))
 kG:aH fs 17=some (.ref (a+3))
 aN:aH fs 18=some (.ref (a+4))
 lQ:∃v,aH fs 23=some v/\d6 ts Un v
 len:fs.length<=50
abbrev I5 (s:St) (a:Nat) (h:Nat):Prop:=∃bl,s[a+4]? =some (.list bl)/\bl.length=arity h
structure fj (W:World) (s:St) ts (a h) If (Va:List Int) Un:Prop where
 o:∃fs,s[a]? =some (.inst 1 fs)/\kf W ts a h Un fs
 f:∃vs,s[a+1]? =some (.list vs)/\aD ts vs If
 v:s[a+3]? =some (.list (Va.map .int))
 b:I5 s a h
section
variable {m:List Nat} {If gI:List Kd} {Va jG:List Int} {Un jR:Option Kd} {fs:List (Nat×V)}
theorem kf.mono (x:kf W ts a h Un fs) (p:ts<+:ae):kf W ae a h Un fs:=⟨x.sort,x.base.imp λ_ h=>⟨h.1,h.2.mono p⟩,x.eU,x.kG,x.aN,x.lQ.imp λ_ h=>⟨h.1,h.2.mono p⟩,x.len⟩
theorem kf.uj (x:kf W ts a h Un fs) (hd:Den ts k y):kf W ts a h (some y) (bV fs 23 (.int k)):=by
 have g:∀{j},j≠23->aH (bV fs 23 (.int k)) j=aH fs j:=λn=>by rw [ic,fm n]
 obtain ⟨u,t,_⟩:=x.lQ;exact ⟨(g (aa rfl)).trans x.sort,x.base.imp λ_ h=>⟨(g (aa rfl)).trans h.1,h.2⟩,(g (aa rfl)).trans x.eU,(g (aa rfl)).trans x.kG,(g (aa rfl)).trans x.aN,⟨.int k,by rw [ic,ep rfl],k,rfl,hd⟩,by rw [wa (by rw [t];rfl)];exact x.len⟩
theorem fj.fr (x:fj W s ts a h If Va Un) (p:ts<+:ae) (f:Fr m s s') (hm:∀i∈m,i<a\/a+10<=i):fj W s' ae a h If Va Un:=by
 have ne:∀j,j<10->a+j∉m:=λj t e=>by have z:=hm _ e;exact oo 0xc248c141111008216482 z t
 obtain ⟨fs,A,D⟩:=x.o;obtain ⟨vs,f1,f2⟩:=x.f;obtain ⟨bl,E,F⟩:=x.b;exact ⟨⟨fs,f.get (ne 0 (aa rfl)) A,D.mono p⟩,⟨vs,f.get (ne 1 (aa rfl)) f1,f2.mono p⟩,f.get (ne 3 (aa rfl)) x.v,⟨bl,f.get (ne 4 (aa rfl)) E,F⟩⟩
theorem jj {i} (h:i≠j):i∉ [j]:=λe=>h (aj e)
theorem fj.PN (x:fj W s ts a h If Va Un) (f:Fr [a+1] s s') (e:s'[a+1]? =some (.list vs)) (d:aD ts vs gI):fj W s' ts a h gI Va Un:=by obtain ⟨fs,t,z⟩:=x.o;obtain ⟨bl,A,D⟩:=x.b;exact ⟨⟨fs,f.get (jj (oo 0x710241201)) t,z⟩,⟨vs,e,d⟩,f.get (jj (oo 0x6048a91201)) x.v,⟨bl,f.get (jj (oo 0x6048c91201)) A,D⟩⟩
theorem fj.HM (x:fj W s ts a h If Va Un) (f:Fr [a+3] s s') (e:s'[a+3]? =some (.list (jG.map .int))):fj W s' ts a h If jG Un:=by obtain ⟨fs,t,z⟩:=x.o;obtain ⟨vs,A,D⟩:=x.f;obtain ⟨bl,E,F⟩:=x.b;exact ⟨⟨fs,f.get (jj (oo 0x712a41201)) t,z⟩,⟨vs,f.get (jj (oo 0xe2548091201)) A,D⟩,e,⟨bl,f.get (jj (oo 0x6548c91201)) E,F⟩⟩
theorem fj.uj (x:fj W s ts a h If Va Un) (f:Fr [a] s s') (e:s'[a]? =some (.inst 1 fs)) (o:kf W ts a h jR fs):fj W s' ts a h If Va jR:=by obtain ⟨vs,t,z⟩:=x.f;obtain ⟨bl,A,D⟩:=x.b;exact ⟨⟨fs,e,o⟩,⟨vs,f.get (jj (oo 0x30091201)) t,z⟩,f.get (jj (oo 0x30a91201)) x.v,⟨bl,f.get (jj (oo 0x30c91201)) A,D⟩⟩
end
abbrev IL (td:Nat->Nat) (bs:List Nat):Prop:=∀h∈bs,∀t∈bs,h≠t->td h+10<=td t\/td t+10<=td h
abbrev Io (Z:Zw) (nm:Nat) (s:St):Prop:=∃fs,s[Z.KM]? =some (.inst 2 fs)/\aH fs 29=some (.ref Z.kt)/\aH fs 30=some (.ref Z.types)/\aH fs 32=some (.ref nm)
abbrev Ls (nm:Nat) (bs:List Nat) (s:St):Prop:=∃af,s[nm]? =some (.dict af)/\(∀p∈af,kindOf p.1=2)/\af.length<=bs.length
abbrev L6 (Z:Zw) (td:Nat->Nat) (bs:List Nat) (If:Nat->List Kd) (Va:Nat->List Int) (Un:Nat->Option Kd) (s:St) (ts:List Kd):Prop:=∀h∈bs,fj Z.W s ts (td h) h (If h) (Va h) (Un h)
structure BS (Z:Zw) nm (td:Nat->Nat) (bs:List Nat) (If:Nat->List Kd) (Va:Nat->List Int) (Un:Nat->Option Kd) (L0 nt) s ts:Prop where
 hk:HK Z s ts
 st:Io Z nm s
 tys:∃tl,s[Z.types]? =some (.list tl)/\tl.length=nt/\∀i v,tl[i]? =some v->(i∈bs/\v= .ref (td i))\/(i∉bs/\v= .none)
 nms:Ls nm bs s
 ty:L6 Z td bs If Va Un s ts
 lo:∀h∈bs,L0<=td h/\td h+10<=s.length
 og:IL td bs
 old:∀i∈Z.KM::Z.types::nm::Z.wd::Z.KN::Z.kt::Z.m,i<L0
 ap:(Z.KM::Z.types::nm::Z.wd::Z.KN::Z.kt::Z.m).Nodup
 ll:L0<=s.length
 nb:bs.length<=100/\nt<=100/\∀h∈bs,h<nt
 sc:eJ Z.W Z.U
section
theorem BS.tg {g} (h:BS Z nm td bs If Va Un L0 nt s ts) (hg:g∈bs):∃tl,s[Z.types]? =some (.list tl)/\tl.length=nt/\tl[g]? =some (.ref (td g)):=by
 obtain ⟨tl,A,z,D⟩:=h.tys;have t:g<tl.length:=z▸h.nb.2.2 g hg;refine ⟨tl,A,z,?_⟩;rcases D g _ (bZ t) with ⟨_,e⟩|⟨e,_⟩
 ·rw [bZ t,e]
 ·exact dv hg e
theorem BS.ne3 (h:BS Z nm td bs If Va Un L0 nt s ts):∀i∈ [Z.KM,Z.types,nm],i∉Z.wd::Z.KN::Z.kt::Z.m:=by
 have ap:=h.ap;obtain ⟨a1,ap⟩:=bw ap;have a2:=bw ap;intro i t e;replace t:=fL t;rcases t with rfl|rfl|rfl
 ·exact a1 (.tail _ (.tail _ e))
 ·exact a2.1 (.tail _ e)
 ·exact (bw a2.2).1 e
theorem BS.kind (h:BS Z nm td bs If Va Un L0 nt s ts) (k:HK Z s' ae) (p:ts<+:ae) (f:Fr (Z.KN::Z.m) s s'):BS Z nm td bs If Va Un L0 nt s' ae:=by
 have t:∀i∈ [Z.KM,Z.types,nm],i∉Z.KN::Z.m:=λi z e=>h.ne3 i z (by
  rcases aR e with e|e
  ·exact .tail _ (e▸ai)
  ·exact .tail _ (.tail _ (.tail _ e)))
 obtain ⟨fs,A,D⟩:=h.st;obtain ⟨tl,E,F⟩:=h.tys;obtain ⟨af,G,I⟩:=h.nms;refine ⟨k,⟨fs,f.get (t _ ai) A,D⟩,⟨tl,f.get (t _ bn) E,F⟩,⟨af,f.get (t _ ci) G,I⟩,λg hg=>(h.ty g hg).fr p f λi z=> .inl ?_,λg hg=>⟨(h.lo g hg).1,df (h.lo g hg).2 f.len⟩,h.og,h.old,h.ap,df h.ll f.len,h.nb,h.sc⟩;have J:=(h.lo g hg).1;have L:=h.old i (by
  rcases aR z with e|e
  ·rw [e];exact jY
  ·exact .tail _ (.tail _ (.tail _ (.tail _ (.tail _ (.tail _ e))))))
 exact oq 116 L J
theorem BS.new (h:BS Z nm td bs If Va Un L0 nt s ts) (f:Fr [] s s'):BS Z nm td bs If Va Un L0 nt s' ts:=h.kind (h.hk.new f) (aF _) (aI f)
theorem BS.step {s'} {ae} (h:BS Z nm td bs If Va Un L0 nt s ts) (k:Kt Z.toKz s' ae) (p:ts<+:ae) (f:Fr Z.m s s'):BS Z nm td bs If Va Un L0 nt s' ae:=h.kind (h.hk.step k p f) p (f.sub λ_ t=> .tail _ t)
theorem BS.upd {g} {m} (h:BS Z nm td bs If Va Un L0 nt s ts) (hg:g∈bs) (f:Fr m s s') (hm:∀i∈m,td g<=i/\i<td g+10) (ty:fj Z.W s' ts (td g) g (gI g) (jG g) (jR g))
 (same:∀i,i≠g->gI i=If i/\jG i=Va i/\jR i=Un i):BS Z nm td bs gI jG jR L0 nt s' ts:=by
 have lo:=h.lo g hg;have z:∀i∈Z.KM::Z.types::nm::Z.wd::Z.KN::Z.kt::Z.m,i∉m:=λi z e=>by have D:=hm i e;have E:=h.old i z;exact oo 0x61049231008402b08c41080a401484 E lo D
 obtain ⟨fs,F,G⟩:=h.st;obtain ⟨tl,I,J⟩:=h.tys;obtain ⟨af,L,Y⟩:=h.nms;obtain ⟨mv,m1,m2⟩:=h.hk.md;obtain ⟨wk,w1,w2⟩:=h.hk.w;refine ⟨⟨h.hk.kt.fr f λi t=>z i (.tail _ (.tail _ (.tail _ (.tail _ (.tail _ t))))),⟨mv,f.get (z _ (by simp)) m1,m2⟩,h.hk.KN,h.hk.bL,⟨wk,f.get (z _ eP) w1,w2⟩,h.hk.wm⟩,
  ⟨fs,f.get (z _ ai) F,G⟩,⟨tl,f.get (z _ bn) I,J⟩,⟨af,f.get (z _ ci) L,Y⟩,λi t=> ?_,λi t=>⟨(h.lo i t).1,df (h.lo i t).2 f.len⟩,h.og,h.old,h.ap,df h.ll f.len,h.nb,h.sc⟩
 by_cases e:i=g
 ·subst e;exact ty
 ·have A:=same i e;rw [A.1,A.2.1,A.2.2];refine (h.ty i t).fr (aF _) f λj hj=> ?_;have z2:=hm j hj;have z3:=h.og i t g hg e;exact oo 0xc4e79fd6772dd8cd01c9052838fc7ccea9180b03 z3 z2
theorem ze {g} (t:ps.length=arity g) (h:BS Z nm td bs If Va Un L0 nt s ts) (z:sort= .int (fH g)) (A:d6 ts (Z.W.d9 g) base) (D:If g= []) (E:Va g=List.replicate (arity g) 0) (F:Un g=none)
 (q:∀s',Fr [] s s'->s'.length=s.length+10->fj Z.W s' ts s.length g (If g) (Va g) (Un g)->Q (.ref s.length) s'):
 P 5 (bN (.inst 1 [])) (λself s=>aq sc (n+1) (ct 1).init (self:: [tid,name,sort,flags,base,.tup ps,pn]) (λr s=>wO r (Q self s)) s) s:=by
 have ha:arity g<=2:=vR;refine cG λs1 f1 Y I=> ?_;refine Eu (oo 0x1898080914002 t ha) Y λs2 fs f2 l2 e2 o1 o2 J L o5 o6 o7 c1 c2 c3=> ?_;rw [I] at J L o5 c1 c2 c3;refine q s2 ?_ (oo 0x4ba8e7eb113842538c103 I l2) ⟨⟨fs,e2,by rw [o1,z],⟨_,o2,A⟩,J,L,o5,⟨_,o6,by rw [F];rfl⟩,o7⟩,⟨[],c1,by rw [D];exact .nil⟩,?_,⟨_,c3,by rw [KB];exact t⟩⟩
 ·exact ((aI f1).trans f2).cut λi G hl=>by replace G:=aj G;exact (oq 82 hl G).elim
 ·rw [E,List.map_replicate,<-t];exact c2
theorem BS.enter {g} {tl} (h:BS Z nm td bs If Va Un L0 nt s0 ts) (hg:g∉bs) (h0:s0.length<=s.length) (f0:Fr [] s0 s) (ha:s0.length<=a/\a+10<=s.length) (ty:fj Z.W s ts a g (If g) (Va g) (Un g))
 (f:Fr [Z.types,nm] s s') (et:s'[Z.types]? =some (.list tl)) (hl:tl.length=n7) (G:n7<=100/\nt<=n7/\g<n7) (hb:bs.length<100) (ht:∀i v,tl[i]? =some v->(i=g/\v= .ref a)\/(i≠g/\i∈bs/\v= .ref (td i))\/(i≠g/\i∉bs/\v= .none))
 (en:∃af,s'[nm]? =some (.dict af)/\(∀p∈af,kindOf p.1=2)/\af.length<=bs.length+1):BS Z nm (λi=>if i=g then a else td i) (bs++ [g]) If Va Un L0 n7 s' ts:=by
 have ap:=h.ap;have L:∀i∈Z.KM::Z.wd::Z.KN::Z.kt::Z.m,i∉ [Z.types,nm]:=λi t e=>by
  obtain ⟨a1,ap⟩:=bw ap;have a2:=bw ap;replace e:=jI e;rcases aR t with t|t
  ·subst t;rcases e with e|e
   ·exact a1 (e▸ai)
   ·exact a1 (by rw [e];exact bn)
  ·rcases e with e|e
   ·subst e;exact a2.1 (.tail _ t)
   ·subst e;exact (bw a2.2).1 t
 have E:=h.new f0;obtain ⟨fs,s1,s2⟩:=E.st;obtain ⟨mv,m1,m2⟩:=E.hk.md;obtain ⟨wk,w1,w2⟩:=E.hk.w;have F:∀i∈ [Z.types,nm],i<L0:=λi t=>h.old i (by replace t:=jI t;rcases t with e|e<;>rw [e]<;>simp);have D:∀i∈bs,(if i=g then a else td i)=td i:=λi t=>fm λ(e:i=g)=>hg (e▸t);refine ⟨⟨E.hk.kt.fr f λi t=>L i (.tail _ (.tail _ (.tail _ t))),⟨mv,f.get (L _ ci) m1,m2⟩,E.hk.KN,E.hk.bL,⟨wk,f.get (L _ bn) w1,w2⟩,E.hk.wm⟩,
  ⟨fs,f.get (L _ ai) s1,s2⟩,⟨tl,et,hl,λi v hv=> ?_⟩,?_,λi t=> ?_,λi t=> ?_,λi t j I J=> ?_,h.old,h.ap,by have z0:=E.ll;have z1:=f.len;(exact oo 0x134d36018003 z0 z1),⟨by simp;(exact oo 0x1c5040063f2001 hb),G.1,λi t=> ?_⟩,h.sc⟩
 ·rcases ht i v hv with ⟨rfl,rfl⟩|⟨Y,e2,rfl⟩|⟨Y,e2,rfl⟩
  ·exact .inl ⟨by simp,by rw [ep rfl]⟩
  ·exact .inl ⟨aA _ e2,by rw [fm Y]⟩
  ·exact .inr ⟨λe=>by
    rcases aG e with e|e
    ·exact e2 e
    ·replace e:=aj e;exact Y e,rfl⟩
 ·exact en.imp λ_ a1=>⟨a1.1,a1.2.1,by simpa using a1.2.2⟩
 ·rcases aG t with t|t
  ·rw [D i t];refine (E.ty i t).fr (aF _) f λj I=> .inl ?_;have z2:=(h.lo i t).1;have z3:=F j I;exact oq 116 z3 z2
  ·replace t:=aj t;subst t;rw [ep rfl];refine ty.fr (aF _) f λj I=> .inl ?_;have z4:=F j I;have z5:=h.ll;exact oo 0x1e4f42740a0ec4a0063fa1b8085 z4 z5 ha
 ·have z6:=f.len;have z7:=h.ll;rcases aG t with t|t
  ·rw [D i t];have z8:=h.lo i t;exact oo 0x77c1c94d7b12cdd3acf306e8b654c7ebe19b7404300286 z6 ha z8
  ·replace t:=aj t;subst t;rw [ep rfl];exact oo 0xbf38c8f5ca7c0de7206c49fdf2fe349280285 z7 ha z6
 ·have mem:∀k,k∈bs++ [g]->k∈bs\/k=g:=λk hk=>by simpa using hk
  rcases mem i t with z|z<;>rcases mem j I with A|A
  ·rw [D i z,D j A];exact h.og i z j A J
  ·rw [D i z,ep A];have z9:=h.lo i z;exact oo 0x583cad91499cc4ce783b67d650dc69252a90305 z9 ha
  ·rw [D j A,ep z];have z10:=h.lo j A;exact oo 0x5e9a7e14b04ab868284aad2390dc69252a90305 z10 ha
  ·exact dv (z.trans A.symm) J
 ·rcases aG t with t|t
  ·have z11:=h.nb.2.2 i t;(exact oo 0x682094c148058a80a80120084 z11 G)
  ·replace t:=aj t;(exact oo 0x690094814c058a80a80220084 t G)
end
variable {af:List (V×V)}{v:V}{kQ:Str}
theorem wJ {st} {i j} (h:∀p∈af,kindOf p.1=2):bf af (.tup [.int i,.str st,.int j])=true:=by unfold bf;rw [show keyOk (.tup [.int i,.str st,.int j])=true from rfl,Bool.true_and,E'];intro p hp;rw [h p hp];rfl
theorem De {k} (h:∀p∈af,kindOf p.1=2) (hk:kindOf k=2):(∀p∈aV af k v,kindOf p.1=2)/\(aV af k v).length<=af.length+1:=by
 unfold aV
 split
 ·refine ⟨λp hp=> ?_,by rw [aC];exact oq 13⟩;obtain ⟨q,j,rfl⟩:=g5.mp hp
  split
  ·exact h q j
  ·exact h q j
 ·refine ⟨λp hp=> ?_,by simp⟩;rcases aG hp with hp|hp
  ·exact h p hp
  ·replace hp:=aj hp;rw [hp];exact hk
section
theorem BS.rB (h:BS Z nm td bs If Va Un L0 nt s ts):Z.types≠nm:=λe=>by exact (bw (bw h.ap).2).1 (by rw [e];exact ai)
theorem BS.zh (h:BS Z nm td bs If Va Un L0 nt s ts):Z.KM≠Z.types:=λe=>(bw h.ap).1 (by rw [e];exact ai)
theorem pL {g b} {fl} (h:BS Z nm td bs If Va Un L0 nt s ts) (A:Z.W.d9 g=some (.p 12)/\b=1\/Z.W.d9 g=some (.a0 2)/\b=2) (hg:g∉bs) (y:g<nt) (D:bs.length<100) (E:ps.length=arity g) (hIf:If g= []) (hVa:Va g=List.replicate (arity g) 0) (hUn:Un g=none)
 (q:∀s' ae td',BS Z nm td' (bs++ [g]) If Va Un L0 nt s' ae->ts<+:ae->Fr (Z.KN::Z.types::nm::Z.m) s s'->Q .none s'):aq sc (n+8) 32 [.ref Z.KM,.tup [.int g,.str kQ,.int (fH g),.int fl,.int b,.tup ps,.tup []]] Q s:=by
 apply cg rfl;have ha:arity g<=2:=vR;have rest:∀{G} {j} {bv},BS Z nm td bs If Va Un L0 nt G j->d6 j (Z.W.d9 g) bv->ts<+:j->Fr (Z.KN::Z.types::nm::Z.m) s G->
  wSs sc (n+7) (dr 2 (bo 32)) (e_ (eR Z.KM) (some (.tup [.int g,.str kQ,.int (fH g),.int fl,.int b,.tup ps,.tup []])) (some bv) none none) (fin Q) G:=by
  intro G j bv h1 hb p1 f1;refine ah rfl rfl<|ah rfl rfl<|ah rfl rfl<|ah rfl rfl<|ah rfl rfl<|ze E h1 rfl hb hIf hVa hUn λs2 f2 l2 ty2=> ?_;apply ah rfl rfl;refine bP (ll rfl)<|lZ (aa rfl)<|kq (aa rfl)<|dH trivial ?_;have h2:=h1.new f2;obtain ⟨fs,z,I,J,L⟩:=h2.st;obtain ⟨tl,t1,t2,t3⟩:=h2.tys;obtain ⟨af,k1,k2,k3⟩:=h2.nms;have Y:=h.nb;refine am z rfl J<|ah rfl rfl<|tS t1 ⟨oq 0,oq 16 y Y.2.1,oo 0x212b4695a4745f51682f40084 (by exact sT _) y t2⟩ λs3 f3 e3 l3=> ?_;apply ah rfl rfl;have st1':=f3.get (cw h.zh) z;refine am st1' rfl L<|ah rfl rfl<|ah rfl rfl<|bP (oq 2 E ha) ?_;have k1':=f3.get (cw (Ne.symm h.rB)) k1;refine eF k1' (wJ k2) (oq 117 D k3) λs4 f4 e4 l4=> ?_;have e3':=f4.get (cw h.rB) e3;have fr:Fr [Z.types,nm] s2 s4:=(f3.sub λi k=>by replace k:=aj k;simp [k]).trans (f4.sub λi k=>by replace k:=aj k;simp [k]);have ns:=De (v:=V.int g) k2 (show kindOf (V.tup [.int 0,.str kQ,.int ps.length])=2 from rfl);have hgl:(g:Int).toNat=g:=rfl;have B:=h1.enter hg f2.len f2 ⟨g6 _,oq 118 l2⟩ ty2 fr e3' (by rw [JL];exact t2) ⟨Y.2.1,g6 _,y⟩ D (λi v hv=> ?_) ⟨_,e4,ns.1,by have:=ns.2;(exact oq 119 ns.2 k3)⟩
  ·refine q s4 j _ B p1 ((f1.trans (aI f2)).trans (fr.sub λi k=> ?_));replace k:=jI k;rcases k with rfl|rfl
   ·exact bn
   ·exact ci
  ·rw [hgl] at hv;by_cases e:i=g
   ·subst e;rw [KA (by exact oq 45 y t2)] at hv;injection hv with hv;subst hv;exact .inl ⟨rfl,rfl⟩
   ·rw [JN (Ne.symm e)] at hv;rcases t3 i v hv with ⟨a,b⟩|⟨a,b⟩
    ·exact .inr (.inl ⟨e,a,b⟩)
    ·exact .inr (.inr ⟨e,a,b⟩)
 obtain ⟨fs,z,I,J,L⟩:=h.st;refine ah rfl rfl<|bW (by rcases A with ⟨_,e⟩|⟨_,e⟩<;>rw [e]<;>decide) ?_;apply am z rfl I;apply ah rfl rfl;rcases A with ⟨e1,e2⟩|⟨e1,e2⟩
 ·subst e2;exact L2<|rest h (by rw [e1];exact ⟨12,rfl,h.hk.kt.prim (aa rfl)⟩) (aF _) .ay
 ·subst e2;refine iA (t:= .a0 2) h.hk.kt h.sc.vt rfl rfl rfl .nil λG j k1 K1 p1 f1 d1=> ?_;exact rest (h.step K1 p1 f1) (by rw [e1];exact ⟨k1,rfl,d1⟩) p1 (f1.sub λi k=> .tail _ (.tail _ (.tail _ k)))
end
variable {e:Int}{p:Nat}
noncomputable def rh (e:Int):Option Kd:=if e=2 then some (.a0 2) else if e=5 then some (.a0 3) else if e=4 then some (.a0 6) else none
section
theorem Ev {a b} (q:∀f,Q (.int f) s):aq sc (n+1) 34 [.int a,.int b] Q s:=by exact cg rfl<|az (λe=>Ar (q _)) λe=>az (λe=>q b) λe=>Ar (q _)
theorem Kg (h:BS Z nm td bs If Va Un L0 nt s ts) (hG:∀y∈G0,y∈Z.U)
 (q:∀s' ae v,BS Z nm td bs If Va Un L0 nt s' ae->ts<+:ae->Fr Z.m s s'->d6 ae (rh e) v->Q v s'):aq sc (n+8) 33 [.ref Z.KM,.int e] Q s:=by
 refine cg rfl ?_;obtain ⟨fs,A,D,st3,st4⟩:=h.st;refine az (λE=> ?_) λE=> ?_
 ·have E:=E;subst E;refine am A rfl D<|iA h.hk.kt h.sc.vt rfl rfl rfl .nil λF j G I p1 f1 J=> ?_;exact q F j _ (h.step I p1 f1) p1 f1 ⟨G,rfl,J⟩
 refine az (λL=> ?_) λL=> ?_
 ·have L:=L;subst L;refine am A rfl D<|iA (t:= .a0 3) h.hk.kt (hG _ (aa rfl)) rfl rfl rfl .nil λF j G I p1 f1 J=> ?_;exact q F j _ (h.step I p1 f1) p1 f1 ⟨G,rfl,J⟩
 refine az (λY=> ?_) λY=> ?_
 ·have Y:=Y;subst Y;refine am A rfl D<|iA (t:= .a0 6) h.hk.kt (hG _ (aa rfl)) rfl rfl rfl .nil λF j G I p1 f1 J=> ?_;exact q F j _ (h.step I p1 f1) p1 f1 ⟨G,rfl,J⟩
 refine q s ts _ h (aF _) .ay ?_;rw [show rh e=none from (fm E).trans ((fm L).trans (fm Y))];rfl
theorem C8 {bv} (h:BS Z nm td bs If Va Un L0 nt s ts) (hG:∀y∈G0,y∈Z.U) (hg:nt∉bs) (E:nt<100) (hbl:bs.length<100) (hps:ps.length=arity nt) (hIf:If nt= []) (hVa:Va nt=List.replicate (arity nt) 0) (hUn:Un nt=none)
 (hb:(0<=bv/\d6 ts (Z.W.d9 nt) (.int bv))\/(bv= -1/\Z.W.d9 nt=rh (fH nt)))
 (q:∀s' ae td',BS Z nm td' (bs++ [nt]) If Va Un L0 (nt+1) s' ae->ts<+:ae->Fr (Z.KN::Z.types::nm::Z.m) s s'->Q (.int nt) s'):aq sc (n+9) 35 [.ref Z.KM,.int 0,.str kQ,.int (fH nt),.int 0,.int bv,.tup ps] Q s:=by
 refine cg rfl ?_;have ha:arity nt<=2:=vR;have rest:∀{A} {j} {v},BS Z nm td bs If Va Un L0 nt A j->d6 j (Z.W.d9 nt) v->ts<+:j->Fr (Z.KN::Z.types::nm::Z.m) s A->
  wSs sc (n+8) (tl (bo 35)) (cf (eR Z.KM) (eI 0) (some (.str kQ)) (eI (fH nt)) (eI 0) (some v) (some (.tup ps)) none none) (fin Q) A:=by
  intro A j v F hbv p1 f1;obtain ⟨fs,G,st2,st3,st4⟩:=F.st;obtain ⟨tl,t1,Y,t3⟩:=F.tys;refine am G rfl st3<|dW t1 (oq 55 E Y) ?_;rw [Y];refine am G rfl st3<|ee t1<|Ev λfl=> ?_;refine ze hps F rfl hbv hIf hVa hUn λs2 f2 l2 ty2=> ?_;obtain ⟨af,k1,k2,k3⟩:=(F.new f2).nms;refine eg (f2.gn t1) (oq 55 E Y) λs3 f3 e3 l3=> ?_;have I:=f3.get (cw (Ne.symm h.rB)) k1;have z:=f3.get (cw h.zh) (f2.gn G);have ht:∀i v,(tl++ [V.ref A.length])[i]? =some v->(i=nt/\v= .ref A.length)\/(i≠nt/\i∈bs/\v= .ref (td i))\/(i≠nt/\i∉bs/\v= .none):=λi v hv=>by
   by_cases e:i<tl.length
   ·rw [mc e] at hv;have ne:i≠nt:=oo 0xa119fa7a0a81203 e Y;rcases t3 i v hv with ⟨a,b⟩|⟨a,b⟩
    ·exact .inr (.inl ⟨ne,a,b⟩)
    ·exact .inr (.inr ⟨ne,a,b⟩)
   ·have hl:=(dB hv).1;simp at hl;have e':i=tl.length:=oo 0xd04a418050064050102 hl e;subst e';rw [List.getElem?_concat_length] at hv;injection hv with hv;subst hv;exact .inl ⟨Y,rfl⟩
  have D:∀{J},Fr [Z.types,nm] s2 J->J[Z.types]? =some (.list (tl++ [.ref A.length]))->(∃af,J[nm]? =some (.dict af)/\(∀p∈af,kindOf p.1=2)/\af.length<=bs.length+1)->Q (.int nt) J:=λ{J} fr e4 en=>by
   refine q J j _ (F.enter (n7:=nt+1) hg f2.len f2 ⟨g6 _,by (clear en;exact oq 118 l2)⟩ ty2 fr e4 (by simp;exact Y) ⟨by (clear en;exact oo 0x1c5051409001 E),by (clear en;exact oq 13),by (clear en;exact oo 0x3024081)⟩ hbl ht en) p1 ((f1.trans (aI f2)).trans (fr.sub λi t=> ?_));replace t:=jI t;rcases t with rfl|rfl
   ·exact bn
   ·exact ci
  refine bP (oq 2 hps ha)<|am z rfl st4<|mA I (wJ k2) ?_;have f3':Fr [Z.types,nm] s2 s3:=f3.sub λi t=>by replace t:=aj t;simp [t]
  refine im (λ_=> ?_) λ_=>D f3' e3 ⟨af,I,k2,oq 19 k3⟩
  ·refine am z rfl st4<|eF I (wJ k2) (oq 117 hbl k3) λJ f4 e4 l4=> ?_;have ns:=De (v:=V.int nt) k2 (show kindOf (V.tup [.int 0,.str kQ,.int ps.length])=2 from rfl);exact D (f3'.trans (f4.sub λi t=>by replace t:=aj t;simp [t])) (f4.get (cw h.rB) e3) ⟨_,e4,ns.1,by have:=ns.2;(clear ns;exact oq 119 this k3)⟩
 rcases hb with ⟨L,hb⟩|⟨L,hb⟩
 ·exact aO (oo 0xc853828c210 L)<|rest h hb (aF _) .ay
 ·subst L;refine Kg h hG λA j v F p1 f1 hv=> ?_;exact rest F (by rw [hb];exact hv) p1 (f1.sub λi t=> .tail _ (.tail _ (.tail _ t)))
theorem Of {g} {x} (h:BS Z nm td bs If Va Un L0 nt s ts) (hg:g∈bs) (hd:Den ts k x) (hl:(If g).length<=100)
 (q:∀s',BS Z nm td bs (λi=>if i=g then (if x∈If g then If g else If g++ [x]) else If i) Va Un L0 nt s' ts->Fr [td g+1] s s'->Q .none s'):aq sc (n+1) 38 [.ref Z.KM,.int g,.int k] Q s:=by
 refine cg rfl ?_;obtain ⟨fs,y,L,z,Y⟩:=h.st;obtain ⟨tl,t1,t2,tg⟩:=h.tg hg;have A:=h.nb.2.2 g hg;have D:=h.nb.2.1;obtain ⟨de,I,J⟩:=(h.ty g hg).o;obtain ⟨vs,E,F⟩:=(h.ty g hg).f;have G:=F.len;refine am y rfl z<|ce t1 ⟨oq 0,oq 16 A D⟩ tg<|am I rfl J.eU<|zP E (vG h.hk.kt.nd F hd) ?_;by_cases t:x∈If g
 ·rw [gs t];refine q s ?_ .ay;refine h.upd hg .ay (λ_=>bg) ?_ λi j=>⟨fm j,rfl,rfl⟩;rw [ep rfl,ep t];exact h.ty g hg
 ·rw [hI t];refine am I rfl J.eU<|ee E<|eg E (oq 64 G hl) λs1 f1 e1 l1=> ?_;refine q s1 ?_ f1;refine h.upd hg f1 (λi j=>by replace j:=aj j;exact oo 0x351022842228300282 j) ?_ λi j=>⟨fm j,rfl,rfl⟩;rw [ep rfl,fm t];exact (h.ty g hg).PN f1 e1 (F.app (.cons hd .nil))
theorem tV {g} {w} (h:BS Z nm td bs If Va Un L0 nt s ts) (hg:g∈bs) (hp:p<(Va g).length) (t:(Va g).length<=100)
 (q:∀s',BS Z nm td bs If (λi=>if i=g then (Va g).set p w else Va i) Un L0 nt s' ts->Fr [td g+3] s s'->Q .none s'):aq sc (n+1) 37 [.ref Z.KM,.int g,.int p,.int w] Q s:=by
 refine cg rfl ?_;obtain ⟨fs,y,E,z,F⟩:=h.st;obtain ⟨tl,G,t2,tg⟩:=h.tg hg;have A:=h.nb.2.2 g hg;have D:=h.nb.2.1;obtain ⟨de,I,J⟩:=(h.ty g hg).o;refine am y rfl z<|ce G ⟨oq 0,oq 16 A D⟩ tg<|am I rfl J.kG<|tS (h.ty g hg).v ⟨oq 0,oq 16 hp t,by rw [aC];exact hp⟩ λL f1 Y l1=> ?_;refine q L ?_ f1;refine h.upd hg f1 (λi j=>by replace j:=aj j;exact oo 0x3512a2842228300282 j) ?_ λi j=>⟨rfl,fm j,rfl⟩;rw [ep rfl];exact (h.ty g hg).HM f1 (by rw [List.map_set];exact Y)
end
variable {d L:Nat}{ks:List (Nat×Nat)}
section
theorem uz {ps} (hp:pairUp vs=some ps) (hl:ps.length<=15) (hm:∀s,fp [] ps s=some (af,s)) (q:∀s',Fr [] s s'->s'[s.length]? =some (.dict af)->s'.length=s.length+1->Q (.ref s.length) s'):
 P 6 (ac (lift (pairUp vs)) λps=>if ps.length<=15 then ac (fp [] ps) λaf=>bN (.dict af) else fail) Q s:=by
 refine ⟨.ac (.lift hp ?_)⟩;rw [ep hl];exact .ac ⟨af,s,hm s,(cG q).h⟩
theorem sx {x} (hd:d<9) (q:∀s' a,Fr [] s s'->s.length<=a->s'[a]? =some (.list ((face x d).map enc))->Q (.ref a) s'):aq sc (n+1) 92 [enc x,.int d] Q s:=by
 refine cg rfl<|cG λs0 Z e0 j=> ?_;refine cG λs1 f1 e1 k=> ?_;refine cG λs2 f2 e2 l2=> ?_;refine cG λs3 f3 e3 l3=> ?_;refine cG λs4 f4 e4 t=> ?_;refine cG λs5 f5 e5 l5=> ?_;refine cG λs6 f6 e6 z=> ?_;refine cG λs7 f7 e7 l7=> ?_;refine cG λy f8 e8 l8=> ?_;have A:=f8;have D:=f7.trans A;have E:=f6.trans D;have F:=f5.trans E;have G:=f4.trans F;have I:=f3.trans G;have J:=f2.trans I;have Y:=f1.trans J;have pick:∀{a},s.length<=a->y[a]? =some (.list ((face x d).map enc))->Q (.ref a) y:=λh1 h2=>q y _ (Z.trans Y) h1 h2;have:=(show∀d,d<9->d=0\/d=1\/d=2\/d=3\/d=4\/d=5\/d=6\/d=7\/d=8 by decide) d (oo 0xec82b2081 hd);rcases this with rfl|rfl|rfl|rfl|rfl|rfl|rfl|rfl|rfl
 ·exact ah rfl rfl (pick (oq 120) (Y.gn e0))
 ·exact ah rfl rfl (pick (oo 0x6a2045090002 j) (J.gn e1))
 ·exact ah rfl rfl (pick (oo 0x25d37781a8a2bd38003 k j) (I.gn e2))
 ·exact ah rfl rfl (pick (oo 0x1a922042c201ca080624220004 l2 k j) (G.gn e3))
 ·exact ah rfl rfl (pick (oo 0x1eeee12b3c19b8b92bb57df95f0f48005 l3 l2 k j) (F.gn e4))
 ·exact ah rfl rfl (pick (oo 0x35de2d590674b4fd2fdb588dd95d089b754b0006 t l3 l2 k j) (E.gn e5))
 ·exact ah rfl rfl (pick (oo 0x831f63c2635223af55e5258bb2d7c63dfadac2e48658007 j k l2 l3 t l5) (D.gn e6))
 ·exact ah rfl rfl (pick (oo 0x1a92492207910807170806960806150805940805130804120840008 j k l2 l3 t l5 z) (A.gn e7))
 ·exact ah rfl rfl (pick (oo 0x6eb212115d244e3f2e060b9b1db6a3085fcaf9016bcd89f6cf327019a68009 j k l2 l3 t l5 z l7) e8)
abbrev HH (W:World) (L:Nat) (s:St) (u:Nat) (ks:List (Nat×Nat)):Prop:=∀p∈ks,s[p.2]? =some (.list ((W.up p.1).map enc))/\p.2≠u/\L<=p.2
structure fu (W:World) L (s:St) (u:Nat) (ks:List (Nat×Nat)):Prop where
 d:s[u]? =some (.dict (ks.map λp=>(V.int p.1,V.ref p.2)))
 l:HH W L s u ks
 lu:L<=u
theorem fu.new {u} (h:fu W L s u ks) (f:Fr [] s s'):fu W L s' u ks:=
 ⟨f.gn h.d,λp hp=>⟨f.gn (h.l p hp).1,(h.l p hp).2⟩,h.lu⟩
theorem ux {h}:bf (ks.map λp=>(V.int p.1,V.ref p.2)) (.int h)=true:=by unfold bf;rw [Bq,Bool.true_and,E'];intro p hp;obtain ⟨q,_,rfl⟩:=g5.mp hp;rfl
theorem wz:aE (ks.map λp=>(V.int p.1,V.ref p.2)) (.int h)=(ks.lookup h).map V.ref:=by
 induction ks with|nil=>rfl|cons p ks j=>
  unfold aE at j⊢;rw [HG,hW,ru];by_cases e:p.1=h
  ·subst e;simp
  ·have k:¬(V.int p.1=V.int h):=λq=>e (Int.ofNat_inj.mp (by cases q;rfl));have t:(h==p.1)=false:=by simpa using Ne.symm e
   simp only [k,decide_false,t];exact j
theorem fu.set {u l} {Q} (x:fu W L s u ks) (t:ks.lookup h=none) (hl:ks.length<=50) (el:s[l]? =some (.list ((W.up h).map enc))) (j:l≠u) (y:L<=l)
 (q:∀s',Fr [u] s s'->fu W L s' u (ks++ [(h,l)])->Q () s'):P 17 (setIndex (.ref u) (.int h) (.ref l)) Q s:=by
 refine eF x.d ux (by rw [aC];exact oo 0x1800cbc801a001 hl) λz f1 k A=> ?_;rw [qR (by rw [wz,t];rfl)] at k;refine q z f1 ⟨by rw [k,lh];rfl,λp hp=> ?_,x.lu⟩;rcases aG hp with hp|hp
 ·have a:=x.l p hp;exact ⟨f1.get (cw a.2.1) a.1,a.2⟩
 ·replace hp:=aj hp;subst hp;exact ⟨f1.get (cw j) el,j,y⟩
end
variable {α:Type}{l2 l3 l5:Nat}{xs:List V}
section
theorem F6 {x y z} (hk:0<k):([x,y,z]:List α)[(a/(k:Int)%3).toNat]? =some (match a/k%3 with|0=>x|1=>y|_=>z):=by have e:(a/(k:Int)%3).toNat=a/k%3:=rfl;rw [e];have:a/k%3<3:=JM _ (aa rfl);generalize a/k%3=j at this⊢;have:j=0\/j=1\/j=2:=oq 5 this;rcases this with rfl|rfl|rfl<;>rfl
theorem Oh: [V.int 1,.int 2,.int 0][((a:Int)%3).toNat]? =some (.int (w3 (a%3))):=by have e:((a:Int)%3).toNat=a%3:=rfl;rw [e];have:a%3<3:=JM _ (aa rfl);generalize a%3=j at this⊢;have:j=0\/j=1\/j=2:=oq 5 this;rcases this with rfl|rfl|rfl<;>rfl
noncomputable def fy:List Nat:= [2,3,5,6,8,64,65,66,68,71,72,73,74,75,76]
abbrev HC (s:St) (g:Nat->Nat):Prop:=∀i,i<3->s[g i]? =some (.list ((more i).map enc))
structure gP (s:St) (m:Nat) (g:Nat->Nat):Prop where
 m:s[m]? =some (.list [.ref (g 0),.ref (g 1),.ref (g 2)])
 l:HC s g
theorem gP.fr {u m} {g} (h:gP s m g) (f:Fr [u] s s') (z:m≠u) (A:∀i,i<3->g i≠u):gP s' m g:=
 ⟨f.get (cw z) h.m,λi t=>f.get (cw (A i t)) (h.l i t)⟩
theorem gP.new {m} {g} (h:gP s m g) (f:Fr [] s s'):gP s' m g:=
 ⟨f.gn h.m,λi t=>f.gn (h.l i t)⟩
theorem gP.get {g:Nat->Nat} (h:j<3): [V.ref (g 0),.ref (g 1),.ref (g 2)][j]? =some (.ref (g j)):=by have:j=0\/j=1\/j=2:=oq 5 h;rcases this with rfl|rfl|rfl<;>rfl
theorem qW {u l t} {x} {Q} (U:fu W L s u ks) (A:ks.lookup h=none) (hk:ks.length<=50) (D:s[l]? =some (.list [enc x])) (E:s[t]? =some (.list ((face y d).map enc))) (z:u<s.length) (F:W.up h=x::face y d)
 (q:∀s',Fr [u] s s'->fu W L s' u (ks++ [(h,s.length)])->Q () s'):
 P 2 (binop .add (.ref l) (.ref t)) (λv s=>P 17 (setIndex (.ref u) (.int h) v) Q s) s:=by
 refine lV D E (by have:=uJ y d;simp;exact oq 32 this) λZ f3 G l3=> ?_;refine (U.new f3).set A hk ?_ (JJ z) (df U.lu (z' z)) λI J Y=>q I ((aI f3).trans J) Y;rw [G,F];rfl
theorem mh {u} {Q} (U:fu W L s u ks) (z:ks.lookup h=none) (hk:ks.length<=50) (t:u<s.length) (A:(W.up h).map enc=xs)
 (q:∀s',Fr [u] s s'->fu W L s' u (ks++ [(h,s.length)])->Q () s'):
 P 5 (bN (.list xs)) (λv s=>P 17 (setIndex (.ref u) (.int h) v) Q s) s:=by
 refine cG λI f3 D l3=> ?_;refine (U.new f3).set z hk ?_ (JJ t) (df U.lu (z' t)) λE F G=>q E ((aI f3).trans F) G;rw [D,A]
theorem P6 {l} (hk:ks.map (·.1)=l) (t:h∉l):ks.lookup h=none:=by
 subst hk;induction ks with|nil=>rfl|cons p ks z=>
  rw [ru];have:(h==p.1)=false:=by simpa using λe:h=p.1=>t (by rw [e];exact ai)
  rw [this];exact z λe=>t (.tail _ e)
end
section
theorem OW {b u w m} {g} {Q}
 (U:fu ⟨a,b⟩ L s u [(2,l2),(3,l3),(5,l5)]) (M:gP s m g) (hb:b<2^50) (ha:a<2^50) (hu:u<s.length) (hm:m<u) (hg:∀i,i<3->g i<u/\L<=g i)
 (q:∀s' ks,fu ⟨a,b⟩ L s' u ks->ks.map (·.1)=fy->Fr [u] s s'->wSs sc (n+1) (dr 17 (tl (bo 93))) (dR (eR w) (eI a) (eI b) (some (.tup [.int 69,enc (.v 0)])) (eR m) (eR u)) Q s'):
 wSs sc (n+1) (dr 5 (tl (bo 93))) (dR (eR w) (eI a) (eI b) (some (.tup [.int 69,enc (.v 0)])) (eR m) (eR u)) Q s:=by
 refine mh U rfl (ll rfl) hu rfl λs1 f1 U1=> ?_;refine mh U1 rfl (ll rfl) (f1.lt hu) rfl λs2 f2 U2=> ?_;have Y:=f2.lt (f1.lt hu);refine cG λs3 f3 e3 l3=> ?_;apply bH (aa rfl);refine sx (x:= .a0 64) (JM _ (aa rfl)) λs4 c4 Z a4 e4=> ?_;refine qW (h:=64) (x:= .p 12) (y:= .a0 64) (d:=b%9) ((U2.new f3).new Z) rfl (ll rfl) (Z.gn e3) e4 (Z.lt (f3.lt Y)) rfl λs5 f5 U5=> ?_;have hu5:=f5.lt (Z.lt (f3.lt Y));refine cG λs6 f6 e6 l6=> ?_;apply cB ⟨aa rfl,oq 3 (by exact sA _) hb⟩;refine bH (aa rfl)<|sx (x:= .a0 65) (d:=b/9%9) (JM _ (aa rfl)) λs7 c7 f7 a7 e7=> ?_;refine qW (h:=65) (x:= .a0 64) (y:= .a0 65) (d:=b/9%9) ((U5.new f6).new f7) rfl (ll rfl) (f7.gn e6) e7 (f7.lt (f6.lt hu5)) rfl λs8 f8 U8=> ?_;have hu8:=f8.lt (f7.lt (f6.lt hu5));refine cB ⟨aa rfl,oq 3 (by exact sA _) ha⟩<|bH (aa rfl)<|cA (v:=enc (n9 (a/81%3))) ⟨oo 0x1456400ea979600ccd893e0853c1 (by exact sZ _ _ rfl) (by exact sZ _ _ rfl),oo 0x1482000ea979600ccd893e4a0c41 (by exact sZ _ _ rfl) (by exact sZ _ _ rfl)⟩ ?_ ?_
 ·apply (F6 (k:=81) (aa rfl)).trans;have:a/81%3<3:=JM _ (aa rfl);generalize a/81%3=j at this⊢;have:j=0\/j=1\/j=2:=oq 5 this;rcases this with rfl|rfl|rfl<;>rfl
 refine cG λs9 f9 e9 l9=> ?_;apply cB ⟨aa rfl,oq 3 (by exact sA _) hb⟩;refine bH (aa rfl)<|sx (x:= .a0 66) (d:=b/81%9) (JM _ (aa rfl)) λs10 qo t a10 e10=> ?_;refine qW (h:=66) (x:=n9 (a/81%3)) (y:= .a0 66) (d:=b/81%9) ((U8.new f9).new t) rfl (ll rfl) (t.gn e9) e10 (t.lt (f9.lt hu8)) rfl λs11 f11 U11=> ?_;have F:=f1.trans (f2.trans ((aI f3).trans ((aI Z).trans (f5.trans ((aI f6).trans ((aI f7).trans (f8.trans ((aI f9).trans ((aI t).trans f11)))))))));have M11:=M.fr F (oq 42 hm) λi hi=>by have:=hg i hi;exact oo 0x4fd5c99b0be81203 this
 apply cB ⟨aa rfl,oq 3 (by exact sA _) hb⟩;apply bH (aa rfl);refine ce M11.m ⟨oo 0x1456400d7d7964014d893e0853c1 (by exact sZ _ _ rfl) (by exact sZ _ _ rfl),oo 0x1482000d7d7964014d893e4a0c41 (by exact sZ _ _ rfl) (by exact sZ _ _ rfl)⟩ (gP.get (g:=g) (j:=b/6561%2) (oq 33 (by exact sD _ _ rfl) (by exact sD _ _ rfl)))<|U11.set (h:=68) rfl (ll rfl) (M11.l _ (oq 33 (by exact sD _ _ rfl) (by exact sD _ _ rfl))) (JE (hg _ (oq 33 (by exact sD _ _ rfl) (by exact sD _ _ rfl))).1) (hg _ (oq 33 (by exact sD _ _ rfl) (by exact sD _ _ rfl))).2 λs12 f12 U12=> ?_;have D:=f12.lt (f11.lt (t.lt (f9.lt hu8)));refine mh (h:=71) U12 rfl (ll rfl) D rfl λs13 f13 U13=> ?_;have E:=f13.lt D;refine mh (h:=72) U13 rfl (ll rfl) E rfl λs14 f14 U14=> ?_;have G:=f14.lt E;refine cG λs15 A e15 l15=> ?_;apply cB ⟨aa rfl,oq 3 (by exact sA _) hb⟩;refine bH (aa rfl)<|sx (x:= .a0 73) (d:=b/729%9) (JM _ (aa rfl)) λs16 c16 z a16 e16=> ?_;refine qW (h:=73) (x:= .a0 2) (y:= .a0 73) (d:=b/729%9) ((U14.new A).new z) rfl (ll rfl) (z.gn e15) e16 (z.lt (A.lt G)) rfl λs17 f17 U17=> ?_;have I:=f17.lt (z.lt (A.lt G));refine mh (h:=74) U17 rfl (ll rfl) I rfl λs18 f18 U18=> ?_;have J:=f18.lt I;refine mh (h:=75) U18 rfl (ll rfl) J rfl λs19 f19 U19=> ?_;refine mh (h:=76) U19 rfl (ll rfl) (f19.lt J) rfl λs20 f20 U20=> ?_;exact q s20 _ U20 rfl (F.trans (f12.trans (f13.trans (f14.trans ((aI A).trans ((aI z).trans (f17.trans (f18.trans (f19.trans f20)))))))))
end
section
noncomputable def jd (a:Nat):List (V×V):= [(.int 69,.tup [.int (w3 (a%3))]),(.int 70,.tup [.int (a/3%3),.int (a/9%3)]),(.int 71,.tup [.int (a/27%3)])]
def jq (a:Nat):List (V×V):= [(.tup [.int 75],.tup [.int 0,.int (World.num ⟨a,0⟩)]),(.tup [.int 76],.tup [.int 0,.int (World.i9 ⟨a,0⟩)])]
def gB (wk:List (V×V)) (a wy un up:Nat):List (V×V):=aV (aV (aV (aV wk (V.str "ways") (.ref wy)) (V.str "num") (.tup [.int 0,.int (World.num ⟨a,0⟩)])) (V.str "under") (.ref un)) (V.str "up") (.ref up)
noncomputable def gm (j k l2:Nat):Nat->Nat
 |0=>j|1=>k|_=>l2
theorem IA {b w m} {g} {Q} (M:gP s m g) (hb:b<2^50) (ha:a<2^50) (hm:m<s.length) (F:L<=s.length) (hg:∀i,i<3->L<=g i)
 (q:∀s' u ks,fu ⟨a,b⟩ L s' u ks->ks.map (·.1)=fy->s.length<=u->Fr [] s s'->wSs sc (n+1) (dr 17 (tl (bo 93))) (dR (eR w) (eI a) (eI b) (some (.tup [.int 69,enc (.v 0)])) (eR m) (eR u)) Q s'):
 wSs sc (n+1) (dr 4 (tl (bo 93))) (dR (eR w) (eI a) (eI b) (some (.tup [.int 69,enc (.v 0)])) (eR m) none) Q s:=by
 refine cG λs1 f1 e1 k=> ?_;apply cB ⟨aa rfl,oq 3 (by exact sA _) ha⟩;apply bH (aa rfl);have G:=M.new f1;refine ce G.m ⟨oo 0x1456400d7d79697e25893e0853c1 (by exact sZ _ _ rfl) (by exact sZ _ _ rfl),oo 0x1482000d7d79697e25893e4a0c41 (by exact sZ _ _ rfl) (by exact sZ _ _ rfl)⟩ (gP.get (j:=a/15552%2) (oq 121 (by exact sD _ _ rfl) (by exact sD _ _ rfl)))<|lV e1 (G.l _ (oq 121 (by exact sD _ _ rfl) (by exact sD _ _ rfl))) (by have:=mX (a/15552%2);simp;exact oq 32 this) λs2 f2 e2 l2=> ?_;refine cG λs3 f3 e3 l3=> ?_;refine cB ⟨aa rfl,oq 3 (by exact sA _) ha⟩<|bH (aa rfl) ?_;have I:=(G.new f2).new f3;refine ce I.m ⟨oo 0x1456400ea97972fc25893e0853c1 (by exact sZ _ _ rfl) (by exact sZ _ _ rfl),oo 0x1482000ea97972fc25893e4a0c41 (by exact sZ _ _ rfl) (by exact sZ _ _ rfl)⟩ (gP.get (j:=a/31104%3) (oq 122 (by exact sD _ _ rfl) (by exact sD _ _ rfl)))<|lV e3 (I.l _ (oq 122 (by exact sD _ _ rfl) (by exact sD _ _ rfl))) (by have:=mX (a/31104%3);simp;exact oq 32 this) λs4 Y e4 t=> ?_;refine cG λs5 J e5 l5=> ?_;apply cB ⟨aa rfl,oq 3 (by exact sA _) ha⟩;apply bH (aa rfl);have Z:=(I.new Y).new J;refine ce Z.m ⟨oo 0x1456400ea97998f425893e0853c1 (by exact sZ _ _ rfl) (by exact sZ _ _ rfl),oo 0x1482000ea97998f425893e4a0c41 (by exact sZ _ _ rfl) (by exact sZ _ _ rfl)⟩ (gP.get (j:=a/93312%3) (oq 123 (by exact sD _ _ rfl) (by exact sD _ _ rfl)))<|lV e5 (Z.l _ (oq 123 (by exact sD _ _ rfl) (by exact sD _ _ rfl))) (by have:=mX (a/93312%3);simp;exact oq 32 this) λs6 f6 e6 y=> ?_;refine uz rfl (ll rfl) (λ_=>rfl) λs7 A e7 l7=> ?_;have D:=f3.trans (Y.trans (J.trans f6));have E:=f1.trans (f2.trans D);have b6:=bE e6;refine OW (L:=L) (l2:=s1.length) (l3:=s3.length) (l5:=s5.length) (g:=g) ⟨e7,?_,oo 0x1a5145124e080e2e131410185424182028984400040008 F k l2 l3 t l5 y⟩ (M.new (E.trans A)) hb ha (oq 124 l7) (oo 0x1a5145124e080e2e131410185424182028984400440088 hm k l2 l3 t l5 y) (λi z=>⟨?_,hg i z⟩) λs8 ks U hk f8=> ?_
 ·intro p hp;replace hp:=fL hp;rcases hp with rfl|rfl|rfl
  ·exact ⟨(D.trans A).gn (e2.trans (by rfl)),oo 0x72d0b10e09a564c605bbaae852a2701206 y l5 t l3 l2,oo 0x12bca3c022bd38003 k F⟩
  ·exact ⟨((J.trans f6).trans A).gn (e4.trans (by rfl)),oo 0x7144e0080e504481201204 y l5 t,oo 0x7a90f8781bd66f9a0d99479b8005 l2 k l3 F⟩
  ·exact ⟨A.gn (e6.trans (by rfl)),oq 42 y,oo 0x105ee922397e966199595042056d54ed8b2038007 F k l2 l3 t l5⟩
 ·have:=bE (M.l i z);exact oo 0x1a4a28a2c0089c101c5c26282030a84820405920840088 k l2 l3 t l5 y this
 ·exact q s8 s6.length ks U hk (oo 0x103bd1c9467fc1d62b8c02bce1503cbaa48658007 k l2 l3 t l5 y)<|((aI (E.trans A)).trans f8).cut λi z hl=>by replace z:=aj z;exact (oo 0x389451471c21382c50406150906080a2611001012402488 k l2 l3 t l5 y hl z).elim
theorem lR {x} (h:∀x,bf af (.str x)=true):∀y,bf (aV af (V.str (Str.ofString x)) v) (.str y)=true:=λy=>BY (h y) rfl
theorem mj {k}:(aV af k v).length<=af.length+1:=by
 unfold aV
 split
 ·rw [aC];exact oq 13
 ·simp
theorem En {b w} {wk} (ew:s[w]? =some (.dict wk)) (hs:∀x,bf wk (.str x)=true) (hl:wk.length<=10) (ha:a<2^50) (hb:b<2^50)
 (q:∀s' wy un up ks,Fr [w] s s'->s.length<=wy->s.length<=un->s.length<=up->s'[w]? =some (.dict (gB wk a wy un up))->s'[wy]? =some (.dict (jd a))->s'[un]? =some (.dict (jq a))->fu ⟨a,b⟩ s.length s' up ks->ks.map (·.1)=fy->Q .none s'):
 aq sc (n+2) 93 [.ref w,.int a,.int b] Q s:=by
 apply cg rfl;have F:=bE ew;refine bH (aa rfl)<|cA ⟨oo 0x41145c88f0853a1 (by exact sZ _ _ rfl),oo 0x41a05c88f250c21 (by exact sZ _ _ rfl)⟩ Oh<|cB ⟨aa rfl,oq 3 (by exact sA _) ha⟩<|bH (aa rfl)<|cB ⟨aa rfl,oq 3 (by exact sA _) ha⟩<|bH (aa rfl)<|cB ⟨aa rfl,oq 3 (by exact sA _) ha⟩<|bH (aa rfl)<|uz (af:=jd a) rfl (ll rfl) (λ_=>rfl) λs1 f1 e1 y=> ?_;refine eF (f1.gn ew) (hs _) (oq 18 hl) λs2 f2 e2 l2=> ?_;have D:=lR (x:="ways") (v:= .ref s.length) hs;have n2:=mj (af:=wk) (k:=V.str "ways") (v:= .ref s.length);refine cB ⟨aa rfl,oq 3 (by exact sA _) ha⟩<|bH (aa rfl)<|eF e2 (D _) (oo 0x303200230034002 hl n2) λG f3 I l3=> ?_;have I:G[w]? =some (.dict (aV (aV wk (V.str "ways") (.ref s.length)) (V.str "num") (.tup [.int 0,.int (World.num ⟨a,0⟩)]))):=I;have z:=lR (x:="num") (v:= .tup [.int 0,.int (World.num ⟨a,0⟩)]) D;have n3:=mj (af:=aV wk (V.str "ways") (.ref s.length)) (k:=V.str "num") (v:= .tup [.int 0,.int (World.num ⟨a,0⟩)]);refine eK I (z _) (by rw [dq,ep rfl])<|cB ⟨aa rfl,oq 3 (by exact sA _) ha⟩<|bH (aa rfl)<|uz (af:=jq a) rfl (ll rfl) (λ_=>rfl) λs4 f4 e4 A=> ?_;refine eF (f4.gn I) (z _) (oo 0x2252eb00e1004e004e003 hl n2 n3) λs5 f5 e5 l5=> ?_;have n5:=mj (af:=aV (aV wk (V.str "ways") (.ref s.length)) (V.str "num") (.tup [.int 0,.int (World.num ⟨a,0⟩)])) (k:=V.str "under") (v:= .ref G.length);refine cG λs6 f6 e6 E=> ?_;refine cG λs7 f7 e7 J=> ?_;refine cG λs8 f8 e8 l8=> ?_;refine cG λs9 Y e9 Z=> ?_;refine IA (L:=s.length) (m:=s8.length) (g:=gm s5.length s6.length s7.length) ⟨e9,?_⟩ hb ha (oq 124 Z) (oo 0x4805a1e31adf1490cbd1ffb90153572820bd0ff00649c694ecf691e66cd000a y l2 l3 A l5 E J l8 Z) ?_ λs10 u ks U hk hu f10=> ?_
 ·intro i hi;have:i=0\/i=1\/i=2:=oq 5 hi;rcases this with rfl|rfl|rfl
  ·exact (f7.trans (f8.trans Y)).gn (e6.trans (by rfl))
  ·exact (f8.trans Y).gn (e7.trans (by rfl))
  ·exact Y.gn (e8.trans (by rfl))
 ·intro i hi;have:i=0\/i=1\/i=2:=oq 5 hi;rcases this with rfl|rfl|rfl
  ·show _<=s5.length;exact oo 0x6bbc5b5e9687f7ba8bb59589ede4b0006 A l3 l2 y l5
  ·show _<=s6.length;exact oo 0x1063ec784c6a4de3c47ad0fff76b2b62e48658007 y l2 l3 A l5 E
  ·show _<=s7.length;exact oo 0x352492440f22100e2e129820185423204430804120840008 y l2 l3 A l5 E J
 have j:=(f6.trans (f7.trans (f8.trans Y))).trans f10;refine eF (j.gn e5) ((lR (x:="under") (v:= .ref G.length) z) _) (oo 0x30390000c5800294008a0068004 hl n2 n3 n5) λs11 t e11 l11=> ?_;have bu:=bE U.d;have hle:=j.len;refine q s11 s.length G.length u ks ((aI f1).trans (f2.trans (f3.trans ((aI f4).trans (f5.trans ((aI j).trans t)))))) (g6 _) (oo 0x6a48e2123080428220004 y l2 l3) (oo 0xe2dc4869c2e1fba3211b9e2c0e311d88bfcae2ac814caf7300040888c56f9af7800b y l2 l3 A l5 E J l8 Z hu) e11 ((f2.trans (f3.trans ((aI f4).trans (f5.trans ((aI j).trans t))))).get (cw (oq 125 F)) e1) ((f5.trans ((aI j).trans t)).get (cw (oo 0x3ddd7f35ea94734b81445b81205 F y l2 l3)) e4) ⟨t.get (cw (oo 0x3616cf0dc6b13704872710af943b38506f257f8df7fd989cfd308afcd15aad86d1a4960120c F y l2 l3 A l5 E J l8 Z hu)) U.d,λp hp=>⟨t.get (cw ?_) (U.l p hp).1,(U.l p hp).2⟩,U.lu⟩ hk
 ·have:=(U.l p hp).2.2;exact oq 91 F this
end
variable {kp:List (Nat×O)}{key:Str}{R:Fl->ag->St->Prop}
def Kp (Z:Zw) (nm L0:Nat) (kp:List (Nat×O)) (s:St):Prop:=∀p∈kp,s[p.1]? =some p.2/\p.1<L0/\p.1∉Z.KN::Z.types::nm::Z.m
theorem Kp.fr {m} (h:Kp Z nm L0 kp s) (f:Fr m s s') (hm:∀i∈m,i∈Z.KN::Z.types::nm::Z.m\/L0<=i):Kp Z nm L0 kp s':=by intro p hp;have a:=h p hp;exact ⟨f.get (λe=>(hm _ e).elim a.2.2 λe=>oq 8 a.2.1 e) a.1,a.2.1,a.2.2⟩
theorem Kp.fF (h:Kp Z nm L0 kp s) (f:Fr (Z.KN::Z.types::nm::Z.m) s s'):Kp Z nm L0 kp s':=h.fr f λ_ j=> .inl j
theorem Kp.kind (h:Kp Z nm L0 kp s) (f:Fr (Z.KN::Z.m) s s'):Kp Z nm L0 kp s':=h.fr f λi j=> .inl (by
 rcases aR j with e|e
 ·exact e▸ai
 ·exact .tail _ (.tail _ (.tail _ e)))
abbrev E8 (Z:Zw) (kp:List (Nat×O)):Prop:=∃wk,(Z.wd,O.dict wk)∈kp/\hH Z wk
abbrev Q4 (Z:Zw) (kp:List (Nat×O)) (ks:List (Nat×Nat)):Prop:=∀p∈ks,(p.2,O.list ((Z.W.up p.1).map enc))∈kp
structure WS (Z:Zw) (kp:List (Nat×O)) (ks:List (Nat×Nat)):Prop where
 w:E8 Z kp
 upd:(Z.upd,O.dict (ks.map λp=>(V.int p.1,V.ref p.2)))∈kp
 ul:Q4 Z kp ks
 ks:ks.map (·.1)=fy
 wy:(Z.wy,O.dict (jd Z.W.a))∈kp
 un:(Z.un,O.dict (jq Z.W.a))∈kp
noncomputable def allB:List Nat:= [2,3,5,6,8,64,65,66,67,68,69,70,71,72,73,74,75,76,77]
noncomputable def iw:Nat->List Kd:=λ_=> []
def iY:Nat->List Int:=λh=>List.replicate (arity h) 0
noncomputable def iH:Nat->Option Kd:=λ_=>none
theorem vH (j:h∈ks.map (·.1)):∃l,ks.lookup h=some l/\(h,l)∈ks:=by
 induction ks with|nil=>trivial|cons p ks k=>
  rw [ru];by_cases e:h=p.1
  ·subst e;exact ⟨p.2,by simp,ai⟩
  ·have:(h==p.1)=false:=by simpa using e
   simp only [this];rcases aR j with j|j
   ·exact dv j e
   ·exact (k j).imp λ_ a1=>⟨a1.1,.tail _ a1.2⟩
section
theorem WS.wk (w:WS Z kp ks) (K:Kp Z nm L0 kp s) (hk:∀wk,hH Z wk->aE wk (.str key)=some v) (q:Q v s):P 8 (index (.ref Z.wd) (.str key)) Q s:=by obtain ⟨wk,k,j⟩:=w.w;exact eK (K _ k).1 (j.1 _) (hk wk j) q
theorem WS.vW (w:WS Z kp ks) (K:Kp Z nm L0 kp s) (q:Q (.ref Z.upd) s):P 8 (index (.ref Z.wd) (.str "up")) Q s:=w.wk K (λ_ h=>h.2.2.2.2.2.1) q
theorem WS.C3 (w:WS Z kp ks) (K:Kp Z nm L0 kp s) (q:Q (.ref Z.wy) s):P 8 (index (.ref Z.wd) (.str "ways")) Q s:=w.wk K (λ_ h=>h.2.2.2.1) q
theorem WS.AH (w:WS Z kp ks) (K:Kp Z nm L0 kp s) (q:Q (.ref Z.un) s):P 8 (index (.ref Z.wd) (.str "under")) Q s:=w.wk K (λ_ h=>h.2.2.2.2.1) q
theorem WS.gL (w:WS Z kp ks) (K:Kp Z nm L0 kp s) (j:h∈fy) (q:∀l,(l,O.list ((Z.W.up h).map enc))∈kp->Q (.ref l) s):P 8 (index (.ref Z.upd) (.int h)) Q s:=by rw [<-w.ks] at j;obtain ⟨l,a,b⟩:=vH j;exact eK (K _ w.upd).1 ux (by rw [wz,a];rfl) (q l (w.ul _ b))
theorem Fz (h:BS Z nm td [] iw iY iH L0 64 s ts) (K:Kp Z nm L0 kp s)
 (q:∀s' ae k o,BS Z nm k [2,3,5,6,8] iw iY iH L0 64 s' ae->Kp Z nm L0 kp s'->ts<+:ae->wSs sc (n+8) (dr 2 (bo 94)) (cf (eR Z.wd) (eR Z.KM) o none none none none none none) R s'):
 wSs sc (n+8) (tl (bo 94)) (cf (eR Z.wd) (eR Z.KM) none none none none none none none) R s:=by
 refine bz trivial<|pL h (.inl ⟨rfl,rfl⟩) (aa rfl) (aa rfl) (aa rfl) rfl rfl rfl rfl λs1 z A D p1 f1=> ?_;refine bz trivial ?_;refine pL D (.inr ⟨rfl,rfl⟩) (aa rfl) (aa rfl) (aa rfl) rfl rfl rfl rfl λs2 E F G p2 f2=> ?_;refine bz trivial<|pL G (.inl ⟨rfl,rfl⟩) (aa rfl) (aa rfl) (aa rfl) rfl rfl rfl rfl λs3 I J L p3 f3=> ?_;refine bz trivial ?_;refine pL L (.inl ⟨rfl,rfl⟩) (aa rfl) (aa rfl) (aa rfl) rfl rfl rfl rfl λs4 Y td4 h4 p4 f4=> ?_;refine bz trivial<|pL h4 (.inr ⟨rfl,rfl⟩) (aa rfl) (aa rfl) (aa rfl) rfl rfl rfl rfl λs5 t y h5 p5 f5=> ?_;exact dH trivial<|q s5 t y _ h5 (((((K.fF f1).fF f2).fF f3).fF f4).fF f5) (p1.trans (p2.trans (p3.trans (p4.trans p5))))
end
variable {o2 o5 o6:Option V}
theorem tY {x} (h:lk false x=true):lk true x=true:=ch h
theorem AE {U:List Kd} {x} (k:∀y∈G0,y∈U) (t: .a1 69 (.v 0)∈U) (j:x∈W.up h):x∈U/\lk true x=true/\dp x<=3:=by
 refine ⟨?_,?_⟩
 ·rcases vm j with e|⟨e,_⟩
  ·exact k _ e
  ·rw [e];exact t
 ·rcases ym j with e|⟨e,_⟩
  ·exact ⟨tY e.1,e.2⟩
  ·subst e;decide
section
theorem Ac {a b} (h:a.length+b.length<=1000) (q:Q (.str (a++b)) s):P 2 (binop .add (.str a) (.str b)) Q s:=by refine ⟨?_⟩;show Tr (if _ then _ else _) Q s;rw [ep h];exact .ret q
theorem Ik {x} {r} {R} (w:WS Z kp ks) (K:Kp Z nm L0 kp s) (j:h∈fy) (e:Z.W.up h=x::r) (q:R (enc x) s):
 P 8 (index (.ref Z.wd) (.str "up")) (λo s=>P 8 (index o (.int h)) (λo s=>P 8 (index o (.int 0)) R s) s) s:=by
 refine w.vW K<|w.gL K j λl hl=> ?_;exact ce (K _ hl).1 (aa rfl) (by rw [e];rfl) q
def yc:Ss:=match tl (dr 2 (bo 94)) with| .cons (.for _ _ _ b) _=>b|_=> .nil
noncomputable def pd:V:= .tup [.int 1,.int 1,.int 1,.int 3,.int 3,.int 3,.int 3,.int 4,.int 1,.int 2,.int 2,.int 5,.int 5,.int 1]
theorem tj {x} {r} (hp:p=0\/p=1\/p=2\/p=8) (w:WS Z kp ks) (h:BS Z nm td bs iw iY iH L0 (64+p) s ts) (K:Kp Z nm L0 kp s)
 (G:∀y∈G0,y∈Z.U) (I: .a1 69 (.v 0)∈Z.U) (e:Z.W.up (64+p)=x::r) (J:aX x=false) (z:64+p∉bs) (A:bs.length<90)
 (q:∀s' ae D a b,BS Z nm D (bs++ [64+p]) iw iY iH L0 (64+p+1) s' ae->Kp Z nm L0 kp s'->ts<+:ae->R .next (cf (eR Z.wd) (eR Z.KM) o2 (some pd) (eI p) a b none none) s'):
 wSs sc (n+12) yc (cf (eR Z.wd) (eR Z.KM) o2 (some pd) (eI p) o5 o6 none none) R s:=by
 have t:=AE G I (by rw [e];exact ai);have bk:Z.W.d9 (64+p)=some x:=by unfold World.d9;rw [e,hW,J];rfl
 rcases hp with rfl|rfl|rfl|rfl
 all_goals
  refine ah rfl rfl<|h_ rfl<|Ik w K (aa rfl) e<|q3 3 (n+2) x _ s ts h.hk t.1 t.2.1 (oq 126 t.2.2) t.2.2 λs1 L k Y p1 f1 d1=> ?_;refine xI (aa rfl)<|Ac (aa rfl)<|ah rfl rfl<|m6 ⟨aa rfl,by decide,aa rfl⟩<|C8 (h.kind Y p1 f1) G z (aa rfl) (oq 127 A) rfl rfl rfl rfl (.inl ⟨oq 0,by rw [bk];exact ⟨k,rfl,d1⟩⟩) λs2 E F B2 p2 f2=> ?_;exact q s2 E F _ _ B2 ((K.kind f1).fF f2) (p1.trans p2)
theorem jb (hp:p=3\/p=4\/p=5\/p=6\/p=7\/p=9\/p=10\/p=11\/p=12\/p=13) (h:BS Z nm td bs iw iY iH L0 (64+p) s ts) (K:Kp Z nm L0 kp s)
 (E:∀y∈G0,y∈Z.U) (e:Z.W.d9 (64+p)=rh (fH (64+p))) (k:64+p∉bs) (t:bs.length<90)
 (q:∀s' ae z a b,BS Z nm z (bs++ [64+p]) iw iY iH L0 (64+p+1) s' ae->Kp Z nm L0 kp s'->ts<+:ae->R .next (cf (eR Z.wd) (eR Z.KM) o2 (some pd) (eI p) a b none none) s'):
 wSs sc (n+12) yc (cf (eR Z.wd) (eR Z.KM) o2 (some pd) (eI p) o5 o6 none none) R s:=by
 rcases hp with rfl|rfl|rfl|rfl|rfl|rfl|rfl|rfl|rfl|rfl
 all_goals
  refine ah rfl rfl<|h_ rfl<|xI (aa rfl)<|Ac (aa rfl)<|ah rfl rfl<|m6 ⟨aa rfl,by decide,aa rfl⟩<|C8 h E k (aa rfl) (oq 127 t) rfl rfl rfl rfl (.inr ⟨rfl,e⟩) λF A D G p2 f2=> ?_;exact q F A D _ _ G (K.fF f2) p2
end
section
theorem F0 (w:WS Z kp ks) (h:BS Z nm td [2,3,5,6,8] iw iY iH L0 64 s ts) (K:Kp Z nm L0 kp s) (j:∀y∈G0,y∈Z.U) (A: .a1 69 (.v 0)∈Z.U)
 (q:∀s' ae D o4 o5 o6,BS Z nm D allB iw iY iH L0 78 s' ae->Kp Z nm L0 kp s'->ts<+:ae->wSs sc (n+12) (dr 3 (tl (bo 94))) (cf (eR Z.wd) (eR Z.KM) o2 (some pd) o4 o5 o6 none none) R s'):
 wSs sc (n+12) (dr 2 (bo 94)) (cf (eR Z.wd) (eR Z.KM) o2 none none none none none none) R s:=by
 refine lZ (aa rfl)<|kq (aa rfl)<|bz trivial<|tj (aa rfl) w h K j A rfl rfl (aa rfl) (aa rfl) λs0 iN td0 a0 b0 h0 K0 p0=> ?_;refine bz trivial ?_;refine tj (aa rfl) w h0 K0 j A rfl rfl (aa rfl) (aa rfl) λs1 ts1 td1 a1 b1 h1 K1 p1=> ?_;refine bz trivial ?_;refine tj (aa rfl) w h1 K1 j A rfl (C5 _) (aa rfl) (aa rfl) λs2 ts2 td2 a2 b2 h2 K2 p2=> ?_;refine bz trivial ?_;refine jb (aa rfl) h2 K2 j rfl (aa rfl) (aa rfl) λs3 ts3 td3 a3 b3 h3 K3 p3=> ?_;refine bz trivial ?_;refine jb (aa rfl) h3 K3 j (Nl _) (aa rfl) (aa rfl) λs4 ts4 td4 a4 b4 h4 K4 p4=> ?_;refine bz trivial ?_;refine jb (aa rfl) h4 K4 j rfl (aa rfl) (aa rfl) λs5 ts5 td5 a5 b5 h5 K5 p5=> ?_;refine bz trivial ?_;refine jb (aa rfl) h5 K5 j rfl (aa rfl) (aa rfl) λs6 ts6 td6 a6 b6 h6 K6 p6=> ?_;refine bz trivial ?_;refine jb (aa rfl) h6 K6 j rfl (aa rfl) (aa rfl) λs7 ts7 td7 a7 b7 h7 K7 p7=> ?_;refine bz trivial ?_;refine tj (aa rfl) w h7 K7 j A rfl rfl (aa rfl) (aa rfl) λs8 ts8 td8 a8 b8 h8 K8 p8=> ?_;refine bz trivial ?_;refine jb (aa rfl) h8 K8 j rfl (aa rfl) (aa rfl) λs9 ts9 td9 a9 b9 h9 K9 p9=> ?_;refine bz trivial ?_;refine jb (aa rfl) h9 K9 j rfl (aa rfl) (aa rfl) λs10 ts10 td10 a10 b10 E F G=> ?_;refine bz trivial ?_;refine jb (aa rfl) E F j rfl (aa rfl) (aa rfl) λs11 ts11 td11 a11 b11 I J L=> ?_;refine bz trivial ?_;refine jb (aa rfl) I J j rfl (aa rfl) (aa rfl) λs12 ts12 td12 a12 b12 Y K12 p12=> ?_;refine bz trivial ?_;refine jb (aa rfl) Y K12 j rfl (aa rfl) (aa rfl) λs13 t z a13 xQ h13 K13 p13=> ?_;exact dH trivial<|q s13 t z _ _ _ h13 K13 (p0.trans (p1.trans (p2.trans (p3.trans (p4.trans (p5.trans (p6.trans (p7.trans (p8.trans (p9.trans (G.trans (L.trans (p12.trans p13)))))))))))))
end
variable {o3 o4:Option V}
theorem uQ {g}:lA g=(decide ((67:Int)<=g)&&decide ((g:Int)<=70)):=(JD _ _).symm.trans ((decide_eq_decide.2 ⟨λz=>oo 0xd20a09002379000021f9050011bc80e00021f93a81 z,λz=>oo 0xd20a0900237901c00043f2750011bc800010fc8281 z⟩).trans (JD _ _))
theorem Hv {x} (h:lk true x=true):aX x=(decide ((67:Int)<=aJ x)&&decide (aJ x<=(70:Int))):=by
 induction x with|p n=>rfl|v i=>rfl|ar y=>rfl|a0 g=>exact uQ|a1 g y=>exact uQ|a2 g y z=>exact uQ|b y=>exact nf h
def uE:Ss:=match tl (dr 2 (tl (bo 94))) with| .cons (.for _ _ _ b) _=>b|_=> .nil
def zv:Ss:=match uE with| .cons (.for _ _ _ b) _=>b|_=> .nil
section
theorem OZ {l} {all} (hh:h∈allB) (hG:∀y∈G0,y∈Z.U) (hV: .a1 69 (.v 0)∈Z.U) (el:(l,O.list all)∈kp):
 ∀(r done) (If) (F) (s) (ts),BS Z nm td allB If Va Un L0 78 s ts->Kp Z nm L0 kp s->done++r=Z.W.up h->If h=done.filter aX->
  (∀s' ae gI o,BS Z nm td allB gI Va Un L0 78 s' ae->Kp Z nm L0 kp s'->ts<+:ae->gI h=(Z.W.up h).filter aX->(∀i,i≠h->gI i=If i)->R .next (cf (eR Z.wd) (eR Z.KM) o2 o3 o4 o5 o6 (eI h) o) s')->
  WF sc (n+12) (.ref l) (false,all) [8] false zv (r.map enc) (cf (eR Z.wd) (eR Z.KM) o2 o3 o4 o5 o6 (eI h) F) R s:=by
 intro zi;induction zi with|nil=>intro done If F s ts B K hd hf q;refine dH (.inl ⟨(K _ el).1,rfl⟩) ?_;rw [hR] at hd;exact q s ts If F B K (aF _) (by rw [hf,hd]) λ_ _=>rfl|cons x r ih=>
  intro done If F s ts B K hd hf q;refine bz (.inl ⟨(K _ el).1,rfl⟩) ?_;have hx:x∈Z.W.up h:=by rw [<-hd];simp
  have A:=AE hG hV hx;have E:(done++ [x])++r=Z.W.up h:=by rw [DZ];exact hd
  have stop:aX x=false->WF sc (n+12) (.ref l) (false,all) [8] false zv (r.map enc) (cf (eR Z.wd) (eR Z.KM) o2 o3 o4 o5 o6 (eI h) (some (enc x))) R s:=λj=>
   ih (done++ [x]) If _ s ts B K E (by rw [hf,List.filter_append,List.filter_cons,j];simp) q
  have G:=Hv A.2.1;refine bA A.2.1<|az (λc1=> ?_) λc1=>stop (by rw [G,hI c1,Bool.false_and])
  ·refine az (λc2=> ?_) λc2=>stop (by rw [G,hI c2,Bool.and_false])
   ·have j:aX x=true:=by rw [G,gs c1,gs c2];rfl
    refine q3 3 (n+2) x _ s ts B.hk A.1 A.2.1 (oq 126 A.2.2) A.2.2 λs1 I k h1 p1 f1 d1=> ?_;have B1:=B.kind h1 p1 f1;have fe:(Z.W.up h).filter aX=done.filter aX++x::r.filter aX:=by rw [<-hd,List.filter_append,List.filter_cons,j];rfl
    have z:=P9 (W:=Z.W) (h:=h);rw [fe] at z;simp only [aL,iZ] at z;have d0:done.filter aX= []:=List.eq_nil_of_length_eq_zero (oo 0xc081908014102 z);rw [d0] at hf;refine Of B1 hh d1 (by rw [hf];exact hL _) λs2 B2 f2=> ?_;have K2:=(K.kind f1).fr f2 λi j=> .inr (by replace j:=aj j;subst j;have:=(B1.lo h hh).1;exact oq 19 this);refine ih (done++ [x]) _ _ s2 I B2 K2 E ?_ λs3 J L o B3 K3 p3 e3 Y=>q s3 J L o B3 K3 (p1.trans p3) e3 λi j=>by rw [Y i j,fm j]
    ·show (if h=h then _ else _)=_;rw [ep rfl,hf,fm bg,List.filter_append,d0,List.filter_cons,j];rfl
end
section
theorem BS.qE (h:BS Z nm td bs If Va Un L0 nt s ts) (e:∀i∈bs,gI i=If i/\jG i=Va i/\jR i=Un i):BS Z nm td bs gI jG jR L0 nt s ts:=
 ⟨h.hk,h.st,h.tys,h.nms,λi k=>by have j:=e i k;rw [j.1,j.2.1,j.2.2];exact h.ty i k,h.lo,h.og,h.old,h.ap,h.ll,h.nb,h.sc⟩
theorem O6 {all} (w:WS Z kp ks) (J:∀y∈G0,y∈Z.U) (L: .a1 69 (.v 0)∈Z.U) (ea:(ks.map λp=>(V.int p.1,V.ref p.2)).map (·.1)=all)
 (q:∀s' ae j t,BS Z nm td allB Z.W.ifs Va Un L0 78 s' ae->Kp Z nm L0 kp s'->R .next (cf (eR Z.wd) (eR Z.KM) o2 o3 o4 o5 o6 j t) s'):
 ∀(r done) (If) (j t) (s) (ts),BS Z nm td allB If Va Un L0 78 s ts->Kp Z nm L0 kp s->done++r=fy->(∀i,If i=if i∈done then Z.W.ifs i else [])->
  WF sc (n+12) (.ref Z.upd) (true,all) [7] false uE (r.map λk:Nat=>V.int k) (cf (eR Z.wd) (eR Z.KM) o2 o3 o4 o5 o6 j t) R s:=by
 intro Y;induction Y with
 |nil=>
  intro done If j t s ts B K hd hf;refine dH (Or.inr ⟨_,(K _ w.upd).1,rfl,ea⟩) ?_;rw [hR] at hd;subst hd;refine q s ts j t (B.qE λi hi=>⟨?_,rfl,rfl⟩) K;rw [hf i]
  split
  ·rfl
  ·rename_i A
   have:∀i∈allB,i∉fy->i=67\/i=69\/i=70\/i=77:=by decide
   rcases this i hi A with rfl|rfl|rfl|rfl<;>rfl
 |cons h r ih=>
  intro done If j t s ts B K hd hf;refine bz (Or.inr ⟨_,(K _ w.upd).1,rfl,ea⟩) ?_;have hk:h∈fy:=by rw [<-hd];simp
  have nd:(done++h::r).Nodup:=by rw [hd];decide
  have A:h∉done:=λe=>(List.nodup_append.mp nd).2.2 h e h ai rfl;have D:(done++ [h])++r=fy:=by rw [DZ];exact hd
  refine w.vW K<|w.gL K hk λl hl=> ?_;have E:=tm (W:=Z.W) (h:=h);refine cV (K _ hl).1 (by rw [aC];exact oq 10 E)<|OZ ((show∀h∈fy,h∈allB by decide) h hk) J L hl (Z.W.up h) [] If _ s ts B K rfl (by rw [hf h,fm A];rfl) λs1 F G o B1 K1 p1 e1 I=> ?_;refine ih (done++ [h]) G _ _ s1 F B1 K1 D λi=> ?_;by_cases e:i=h
  ·subst e;rw [ep (by simp),e1];rfl
  ·rw [I i e,hf i];have:i∈done++ [h]↔i∈done:=by simp [e]
   simp only [this]
end
variable {o8:Option V}
def xq:Ss:=match tl (dr 3 (tl (bo 94))) with| .cons (.for _ _ _ b) _=>b|_=> .nil
section
theorem Gu {g} {x} {Q} (h:BS Z nm td bs If Va Un L0 nt s ts) (hg:g∈bs) (hd:Den ts k x)
 (q:∀s',BS Z nm td bs If Va (λi=>if i=g then some x else Un i) L0 nt s' ts->Fr [td g] s s'->Q () s'):P 16 (setAttr ct (.ref (td g)) 23 (.int k)) Q s:=by
 obtain ⟨de,y,o2⟩:=(h.ty g hg).o;refine jJ y ⟨rfl,df o2.len (aa rfl)⟩ λz f1 A D=> ?_;exact q z (h.upd hg f1 (λi t=>by replace t:=aj t;exact oo 0x1a88842228300282 t) (by rw [ep rfl];exact (h.ty g hg).uj f1 A (o2.uj hd)) λi t=>⟨rfl,rfl,fm t⟩) f1
theorem WS.way (w:WS Z kp ks) (K:Kp Z nm L0 kp s) (t:h=69\/h=70\/h=71) (q:Q (.tup ((Z.W.cq h).map .int)) s):
 P 8 (index (.ref Z.wd) (.str "ways")) (λo s=>P 8 (index o (.int h)) Q s) s:=by
 apply w.C3 K;have e:=(K _ w.wy).1;rcases t with rfl|rfl|rfl
 ·exact eK e rfl rfl q
 ·exact eK e rfl rfl q
 ·exact eK e rfl rfl q
theorem Kp.rE (K:Kp Z nm L0 kp s) (B:BS Z nm td bs If Va Un L0 nt s ts) {g} (hg:g∈bs) (f:Fr [td g+j] s s'):Kp Z nm L0 kp s':=K.fr f λi t=> .inr (by replace t:=aj t;subst t;have:=(B.lo g hg).1;exact oo 0x32a096c003 this)
theorem xn {v} (z:h=69\/h=71) (y:Z.W.cq h= [v]) (w:WS Z kp ks) (B:BS Z nm td bs If Va Un L0 nt s ts) (K:Kp Z nm L0 kp s) (hg:h∈bs) (hv:Va h= [0])
 (q:∀s' o4,BS Z nm td bs If (λi=>if i=h then Z.W.cq h else Va i) Un L0 nt s' ts->Kp Z nm L0 kp s'->R .next (cf (eR Z.wd) (eR Z.KM) o2 o3 o4 o5 o6 (eI h) o8) s'):
 wSs sc (n+12) xq (cf (eR Z.wd) (eR Z.KM) o2 o3 o4 o5 o6 (eI h) o8) R s:=by
 have t:h=69\/h=70\/h=71:=oo 0xd00940452490845249014405101440494925249012524901440510145c8484263908008de426421301 z;apply w.way K t;rw [y];refine bP (ll rfl)<|lZ (n:=1) (aa rfl)<|kq (aa rfl)<|bz trivial<|w.way K t ?_;rw [y];refine ah rfl rfl<|tV B hg (by rw [hv];decide) (by rw [hv];decide) λA D f1=> ?_;refine dH trivial ?_;refine q A _ (D.qE λi E=>⟨rfl,?_,rfl⟩) (K.rE B hg f1);rw [y,hv];rfl
theorem J7 {a b} (t:Z.W.cq 70= [a,b]) (w:WS Z kp ks) (B:BS Z nm td bs If Va Un L0 nt s ts) (K:Kp Z nm L0 kp s) (hg:70∈bs) (hv:Va 70= [0,0])
 (q:∀s' o4,BS Z nm td bs If (λi=>if i=70 then Z.W.cq 70 else Va i) Un L0 nt s' ts->Kp Z nm L0 kp s'->R .next (cf (eR Z.wd) (eR Z.KM) o2 o3 o4 o5 o6 (eI 70) o8) s'):
 wSs sc (n+12) xq (cf (eR Z.wd) (eR Z.KM) o2 o3 o4 o5 o6 (eI 70) o8) R s:=by
 apply w.way K (aa rfl);refine bP (ll rfl)<|lZ (n:=2) (aa rfl)<|kq (aa rfl)<|bz trivial<|w.way K (aa rfl) ?_;rw [t];refine ah rfl rfl<|tV B hg (by rw [hv];decide) (by rw [hv];decide) λE y f1=> ?_;have z:=K.rE B hg f1;refine bz trivial<|w.way z (aa rfl) ?_;rw [t];refine ah rfl rfl<|tV y hg (by rw [ep rfl,hv,JL];decide) (by rw [ep rfl,hv,JL];decide) λA D f2=> ?_;refine dH trivial ?_;refine q A _ (D.qE λi F=>⟨rfl,?_,rfl⟩) (z.rE y hg f2);by_cases e:i=70
 ·subst e;simp only [ep];rw [t,hv];rfl
 ·simp only [fm e]
end
variable {o7:Option V}
section
theorem HK.fr {m} (h:HK Z s ts) (f:Fr m s s') (hm:∀i∈Z.wd::Z.KN::Z.kt::Z.m,i∉m):HK Z s' ts:=by obtain ⟨af,j,t⟩:=h.md;obtain ⟨wk,y,z⟩:=h.w;exact ⟨h.kt.fr f λi A=>hm i (.tail _ (.tail _ A)),⟨af,f.get (hm _ bn) j,t⟩,h.KN,h.bL,⟨wk,f.get (hm _ ai) y,z⟩,h.wm⟩
theorem A_ {g} {b} (hg:g=75/\k=Z.W.num\/g=76/\k=Z.W.i9) (w:WS Z kp ks) (B:BS Z nm td allB If Va Un L0 78 s ts) (K:Kp Z nm L0 kp s) (J:∀y∈G0,y∈Z.U)
 (q:∀s' ae,BS Z nm td allB If Va (λi=>if i=g then some (.p k) else Un i) L0 78 s' ae->Kp Z nm L0 kp s'->wSs sc (n+12) b (cf (eR Z.wd) (eR Z.KM) o2 o3 o4 o5 o6 o7 (some (enc (.a0 g)))) R s'):
 wSs sc (n+12) (.cons (.n6 (.idx (.kY (.loc 1) 30) (.idx (.loc 8) (.lit (.int 0)))) 23 (.fn 81 (.cons (.loc 0) (.cons (.idx (.idx (.loc 0) (.lit (.str "under"))) (.loc 8)) .nil)))) b) (cf (eR Z.wd) (eR Z.KM) o2 o3 o4 o5 o6 o7 (some (enc (.a0 g)))) R s:=by
 have hk:3<=k/\k<=10:=by
  rcases hg with ⟨_,rfl⟩|⟨_,rfl⟩
  ·unfold World.num;exact oq 21 (by exact sD _ _ rfl) (by exact sD _ _ rfl)
  ·unfold World.i9;exact oo 0x4e3b3806bb84109305f1da56a935c0158a8285 (by exact sD _ _ rfl) (by exact sD _ _ rfl)
 have t:g∈allB:=by rcases hg with ⟨rfl,_⟩|⟨rfl,_⟩<;>decide
 have D:lk true (.p k)=true:=by exact qp ⟨oq 128 hk,oq 129 hk⟩
 have key:∀{R},R (enc (.p k)) s->P 8 (index (.ref Z.un) (enc (.a0 g))) R s:=by
  intro R r;have e:=(K _ w.un).1;rcases hg with ⟨rfl,rfl⟩|⟨rfl,rfl⟩
  ·exact eK e rfl rfl r
  ·exact eK e rfl rfl r
 refine w.AH K<|key<|q3 3 (n+2) (.p k) _ s ts B.hk (J _ ((show∀k,k<11->Kd.p k∈G0 by decide) k (oo 0xd2091002a0a52081 hk))) D (by show 1<=7;decide) (by show 1<=3;decide) λs1 E kk L p1 f1 Y=> ?_;have z:=B.kind L p1 f1;obtain ⟨fs,F,st2,G,st4⟩:=z.st;obtain ⟨tl,t1,t2,t3⟩:=z.tg t;refine am F rfl G<|ah rfl rfl ?_;have I:=B.nb.2.2 g t;refine ce t1 ⟨oq 0,oo 0x18013bc824a0401 I⟩ t3<|Gu z t Y λs2 B2 f2=> ?_;exact q s2 E B2 ((K.kind f1).rE (j:=0) z t f2)
theorem G9 {l} (el:l=fy.map λk:Nat=>V.int k) (w:WS Z kp ks) (t:∀y∈G0,y∈Z.U) (z: .a1 69 (.v 0)∈Z.U)
 (q:∀s' ae o7 A,BS Z nm td allB Z.W.ifs Va Un L0 78 s' ae->Kp Z nm L0 kp s'->R .next (cf (eR Z.wd) (eR Z.KM) o2 o3 o4 o5 o6 o7 A) s') (B:BS Z nm td allB iw Va Un L0 78 s ts) (K:Kp Z nm L0 kp s):
 WF sc (n+12) (.ref Z.upd) (true,(ks.map λp=>(V.int p.1,V.ref p.2)).map (·.1)) [7] false uE l (cf (eR Z.wd) (eR Z.KM) o2 o3 o4 o5 o6 none none) R s:=by
 subst el;exact O6 w t z rfl q fy [] iw none none s ts B K rfl λi=>rfl
theorem EO {fs} (es:s[Z.KM]? =some (.inst 2 fs)) (e1:aH fs 29=some (.ref Z.kt)) (e2:aH fs 32=some (.ref nm)) (hl:fs.length<=900) (I:Z.types=s.length) (hk:HK Z s ts) (en:s[nm]? =some (.dict []))
 (ap:(Z.KM::Z.types::nm::Z.wd::Z.KN::Z.kt::Z.m).Nodup) (lt:∀i∈Z.wd::Z.KN::Z.kt::Z.m,i<s.length) (hc:eJ Z.W Z.U) (E:∀y∈G0,y∈Z.U) (hV: .a1 69 (.v 0)∈Z.U) (w:WS Z kp ks)
 (K:∀p∈kp,s[p.1]? =some p.2/\p.1≠Z.KM/\p.1∉Z.KN::Z.types::nm::Z.m)
 (q:∀s' ae td,BS Z nm td allB Z.W.ifs Z.W.cq Z.W.under (s.length+1) 78 s' ae->Kp Z nm (s.length+1) kp s'->Q .none s'):aq sc (n+13) 94 [.ref Z.wd,.ref Z.KM] Q s:=by
 apply cg rfl;have t:=bE es;have L:=bE en;refine cG λs1 f1 x1 l1=> ?_;refine jJ (f1.gn es) ⟨rfl,hl⟩ λs2 f2 x2 l2=> ?_;have a1:=bw ap;have B:BS Z nm (λ_=>0) [] iw iY iH (s.length+1) 64 s2 ts:=by
  refine ⟨(hk.new f1).fr f2 λi j e=>a1.1 ?_,⟨_,x2,?_,?_,?_⟩,⟨List.replicate 64 .none,?_,rfl,λi v hv=> .inr ⟨λh=>((ba h).elim),?_⟩⟩,⟨[],f2.get (cw ?_) (f1.gn en),(λ_=>bg),g6 _⟩,(λ_=>bg),(λ_=>bg),(λ_=>bg),λi j=> ?_,ap,oo 0x25d471f12ac27019003 l1 l2,⟨hL _,aa rfl,(λ_=>bg)⟩,hc⟩
  ·rw [w4] at e;subst e;exact .tail _ (.tail _ j)
  ·rw [ic,fm (aa rfl)];exact e1
  ·rw [ic,ep rfl,I]
  ·rw [ic,fm (aa rfl)];exact e2
  ·rw [I];exact f2.get (cw (oq 125 t)) x1
  ·have:=bh hv;exact (List.mem_replicate.mp this).2
  ·intro e;exact a1.1 (by rw [<-e];exact bn)
  ·rcases aR j with e|j
   ·exact oq 130 t e
   ·rcases aR j with e|j
    ·exact oo 0x269cf42418c083 e I
    ·rcases aR j with e|j
     ·exact oq 130 L e
     ·have:=lt i j;exact oq 131 this
 have K2:Kp Z nm (s.length+1) kp s2:=λp hp=>by have F:=K p hp;exact ⟨f2.get (cw F.2.1) (f1.gn F.1),by have:=bE F.1;exact oq 131 this,F.2.2⟩
 refine Fz B K2 λs3 ts3 td3 o3 B3 K3 p3=> ?_;refine F0 w B3 K3 E hV λs4 ts4 Y o4 o5 o6 B4 K4 p4=> ?_;apply w.vW K4;have lks:ks.length<=20:=by rw [<-aC,w.ks];decide
 apply uZ (K4 _ w.upd).1 (by rw [aC];exact oo 0xf2801a001 lks);have em:(ks.map λp=>(V.int p.1,V.ref p.2)).map (·.1)=fy.map λk:Nat=>V.int k:=by rw [<-w.ks,KI,KI];rfl
 refine G9 em w E hV (λs5 ts5 o7 o8 B5 G=> ?_) B4 K4;refine w.C3 G<|uZ (G _ w.wy).1 (ll rfl) ?_;have st:∀{s'},Kp Z nm (s.length+1) kp s'->eO (.ref Z.wy) (true,(jd Z.W.a).map (·.1)) s':=λK=>Or.inr ⟨_,(K _ w.wy).1,rfl,rfl⟩;refine bz (st G)<|xn (aa rfl) rfl w B5 G (aa rfl) rfl λs6 o4 B6 K6=> ?_;apply bz (st K6);refine J7 rfl w B6 K6 (aa rfl) rfl λs7 o4 B7 K7=> ?_;apply bz (st K7);refine xn (aa rfl) rfl w B7 K7 (aa rfl) rfl λs8 o4 B8 z=> ?_;apply dH (st z);refine w.AH z<|uZ (z _ w.un).1 (ll rfl) ?_;have sn:∀{s'},Kp Z nm (s.length+1) kp s'->eO (.ref Z.un) (true,(jq Z.W.a).map (·.1)) s':=λK=>Or.inr ⟨_,(K _ w.un).1,rfl,rfl⟩;refine bz (sn z)<|A_ (.inl ⟨rfl,rfl⟩) w B8 z E λs9 ts9 B9 K9=> ?_;apply bz (sn K9);refine A_ (.inr ⟨rfl,rfl⟩) w B9 K9 E λs10 A B10 D=> ?_;apply dH (sn D);refine q s10 A Y (B10.qE λi j=>⟨rfl,?_,?_⟩) D
 ·have:∀i∈allB,Z.W.cq i=if i=71 then Z.W.cq 71 else if i=70 then Z.W.cq 70 else if i=69 then Z.W.cq 69 else iY i:=
   fc rfl (fc rfl (fc rfl (fc rfl (fc rfl (fc rfl (fc rfl (fc rfl (fc rfl (fc rfl (fc rfl (fc rfl (fc rfl (fc rfl (fc rfl (fc rfl (fc rfl (fc rfl (fc rfl λ_=>bg))))))))))))))))))
  exact this i j
 ·have:∀i∈allB,Z.W.under i=if i=76 then some (.p Z.W.i9) else if i=75 then some (.p Z.W.num) else iH i:=
   fc rfl (fc rfl (fc rfl (fc rfl (fc rfl (fc rfl (fc rfl (fc rfl (fc rfl (fc rfl (fc rfl (fc rfl (fc rfl (fc rfl (fc rfl (fc rfl (fc rfl (fc rfl (fc rfl λ_=>bg))))))))))))))))))
  exact this i j
end
variable {t:Kd}
noncomputable def C0:aM:=⟨λ_=> [],λ_=>0⟩
def Zw.fin (Z:Zw) (s:St) (ts:List Kd) (td:Nat->Nat):Zw:={Z with s0:=s,iN:=ts,C:=C0,has:=false,td:=td,gE:=λh=>td h+1,gx:=λh=>td h+3,jS:=td 77,aN:=td 77+4}
theorem tR (e:cM h=true):h∈allB/\h<77:=by
 have:h<77:=by unfold cM at e;simp only [Kv,hQ,g7,H'] at e;exact oo 0x6905252525252748000103c82c10a6858422a1090999998004df2081 e
 have key:∀h,h<77->cM h=true->h∈allB:=by decide
 exact ⟨key h this e,this⟩
theorem Lk (j:h∉fy):W.up h= []:=Iy j
section
abbrev EI (Z:Zw) (kp:List (Nat×O)):Prop:=∃fs,(Z.KL,O.inst 3 fs)∈kp/\pk Z Z.hb Z.hg fs/\fs.length<=900
abbrev Ie (Z:Zw) (ks:List (Nat×Nat)):Prop:=∀i∈Z.upd::Z.wy::Z.un::Z.hb::Z.hg::Z.KM::Z.types::ks.map (·.2),i≠Z.wd/\i≠Z.KL
abbrev OX (Z:Zw) (kp:List (Nat×O)):Prop:=∀wk,(Z.wd,O.dict wk)∈kp->fR wk
structure rK (Z:Zw) (nm:Nat) (kp:List (Nat×O)) (ks:List (Nat×Nat)):Prop where
 KL:EI Z kp
 hb:(Z.hb,O.dict [])∈kp
 hg:(Z.hg,O.dict [])∈kp
 wl:OX Z kp
 wh:Z.wd≠Z.KL
 hk:Z.KL≠Z.kt
 ne:Ie Z ks
theorem PK (B:BS Z nm td allB Z.W.ifs Z.W.cq Z.W.under L0 78 s ts) (K:Kp Z nm L0 kp s) (A:rK Z nm kp ks):Wd (Z.fin s ts td):=by
 have F:∀i,i∈Z.KN::Z.m->i<L0:=λi F=>B.old i (by
  rcases aR F with e|e
  ·rw [e];exact jY
  ·exact .tail _ (.tail _ (.tail _ (.tail _ (.tail _ (.tail _ e))))))
 have G:∀{h j o},h∈allB->s[td h+j]? =some o->(Z.fin s ts td).st (td h+j) o:=λ{h j o} y e=>⟨e,λI=>by have z0:=F _ I;have z1:=(B.lo h y).1;exact oo 0x5cd12c21483 z0 z1⟩;have J:∀{a o},(a,o)∈kp->(Z.fin s ts td).st a o:=λ{a o} e=>⟨(K _ e).1,λI=>(K _ e).2.2 (by
  rcases aR I with e|e
  ·exact e▸ai
  ·exact .tail _ (.tail _ (.tail _ e)))⟩
 have so:∀i∈ [Z.KM,Z.types,nm],i∉Z.KN::Z.m:=λi L e=>B.ne3 i L (by
  rcases aR e with e|e
  ·exact .tail _ (e▸ai)
  ·exact .tail _ (.tail _ (.tail _ e)))
 refine ⟨B.st.imp λ_ Y=>⟨⟨Y.1,so Z.KM ai⟩,Y.2.1,Y.2.2.1⟩,?_,λh y=> ?_,A.KL.imp λ_ f1=>⟨J f1.1,f1.2.1⟩,⟨[],J A.hb,λts k t _ _ _=>⟨rfl,[],rfl,by (generalize t=z9;induction z9 using Kd.casesOn<;>exact .nil)⟩⟩,⟨[],J A.hg,λts k t _ _ _=>⟨rfl,by (generalize t=z9;induction z9 using Kd.casesOn<;>rfl)⟩⟩,B.sc,B.hk.KN⟩
 ·obtain ⟨tl,t1,t2,t3⟩:=B.tys;refine ⟨tl,⟨t1,so Z.types bn⟩,t2,λh y=> ?_,λi h1 h2=> ?_⟩
  ·obtain ⟨tl',t1',t2',t3'⟩:=B.tg (tR y).1;have:tl'=tl:=by have:=t1'.symm.trans t1;cases this;rfl
   exact this▸t3'
  ·have z:i<tl.length:=oo 0x3512004ef3080015f2050082 h1 t2;rcases t3 i _ (bZ z) with ⟨e,_⟩|⟨_,e⟩
   ·exact dv e ((show∀i,i<21->(i=1\/i=4\/9<=i)->i∉allB by decide) i h1 h2)
   ·rw [bZ z,e]
 ·have E:=(tR y).1;have ty:=B.ty h E;obtain ⟨fs,o1,D⟩:=ty.o;obtain ⟨vs,f1,f2⟩:=ty.f;exact ⟨fs,G (j:=0) E o1,D.sort,D.base,D.eU,⟨vs,G E f1,f2⟩,D.kG,G E ty.v,D.lQ⟩
theorem AV {g} (j:g≠75) (k:g≠76):W.under g=none:=(fm j).trans (fm k)
theorem N2 (j:lk true t=true) (A:t≠ .a0 75) (D:t≠ .a0 76):W.cu t=t:=by
 have n:∀{g} {k},arity g=k+1->W.under g=none:=λe=>AV (λh=>by rw [h] at e;trivial) λh=>by rw [h] at e;trivial
 have go:∀{g},W.under g=none->(W.under g).getD t=t:=λe=>by rw [e];rfl
 induction t with|a0 g=>exact ite_eq_right_iff.mpr λ_=>go (AV (λe=>A (e▸rfl)) λe=>D (e▸rfl))|a1 g y=>exact ite_eq_right_iff.mpr λ_=>go (n (g7.mp (bq j).1.2))|a2 g y z=>exact ite_eq_right_iff.mpr λ_=>go (n (g7.mp (gJ j).1.1.2))|_=>exact fm λh=>Bool.noConfusion (aZ h).2
theorem Lp {i} (h:¬(69<=i/\i<=71)):aE (jd a) (.int i)=none:=by
 unfold aE;rw [List.find?_eq_none.mpr]
 ·rfl
 ·intro p hp;simp only [jd,List.mem_cons,ba,or_false] at hp;simp only [H'];intro e;rcases hp with rfl|rfl|rfl
  ·have:69=i:=by injection e
   exact oo 0xd4525c8b9427541423490 this h
  ·have:70=i:=by injection e
   exact oo 0x1a8a4b917284ea820046f23490 this h
  ·have:71=i:=by injection e
   exact oo 0xd4525c8b9427541723490 this h
theorem O_ (j:lk true t=true) (k:t≠ .a0 75) (y:t≠ .a0 76):aE (jq a) (enc t)=none:=by
 unfold aE;rw [List.find?_eq_none.mpr]
 ·rfl
 ·intro p hp;simp only [jq,List.mem_cons,ba,or_false] at hp;simp only [H'];intro e;rcases hp with rfl|rfl
  ·exact k (kH j rfl e.symm)
  ·exact y (kH j rfl e.symm)
theorem Mf (B:BS Z nm td allB Z.W.ifs Z.W.cq Z.W.under L0 78 s ts) (K:Kp Z nm L0 kp s) (w:WS Z kp ks) (A:rK Z nm kp ks):Wl (Z.fin s ts td):=by
 have y:∀{a o},(a,o)∈kp->(Z.fin s ts td).st a o:=λ{a o} e=>⟨(K _ e).1,λk=>(K _ e).2.2 (by
  rcases aR k with e|e
  ·exact e▸ai
  ·exact .tail _ (.tail _ (.tail _ e)))⟩
 refine ⟨?_,⟨_,y w.upd,λi=>⟨ux,?_⟩⟩,⟨jd Z.W.a,y w.wy,λi=>⟨rfl,?_⟩⟩,⟨jq Z.W.a,y w.un,λt D hd=> ?_⟩⟩
 ·obtain ⟨wk,J,L⟩:=w.w;obtain ⟨a1,a2,Y,a4,a5,a6,a7⟩:=L;exact ⟨wk,y J,a1,a2,Y,a4,a5,a6,a7,λe=>by trivial⟩
 ·by_cases j:i<0
  ·refine .inl ⟨?_,λh e=>(oo 0x3890130518491 j e).elim⟩;unfold aE;rw [List.find?_eq_none.mpr]
   ·rfl
   ·intro p hp;obtain ⟨q,_,rfl⟩:=g5.mp hp;simp only [H'];intro e;have:(q.1)=i:=by injection e
    exact oo 0x30a30203491 this j
  ·obtain ⟨h,rfl⟩:∃h:Nat,i=h:=⟨i.toNat,oo 0x8205cda3250c8a2997947f00991 (by exact sT _) j⟩;rw [wz];induction e:ks.lookup h using Option.casesOn with|none=>refine .inl ⟨rfl,λg hg=> ?_⟩;have:g=h:=oo 0xd4524080d0102 hg;subst this;exact Lk (by rw [<-w.ks];exact (by intro E;obtain ⟨x,a,_⟩:=vH E;exact dv (e.symm.trans a) nofun))|some l=>
    obtain ⟨l',a,b⟩:=vH (by
     by_cases E:h∈ks.map (·.1)
     ·exact E
     ·rw [P6 rfl E] at e;trivial)
    rw [e] at a;cases a;refine .inr ⟨h,l,rfl,rfl,y (w.ul _ b),λk=> ?_⟩;have hl:=(K _ (w.ul _ b)).2.1;have F:=(B.lo 77 (aa rfl)).1;have z:=A.ne l (by refine .tail _ (.tail _ (.tail _ (.tail _ (.tail _ (.tail _ (.tail _ ?_))))));exact g5.mpr ⟨_,b,rfl⟩);have k:l∈ [Z.wd,Z.KL,td 77+4]:=k;replace k:=fL k;rcases k with e|e|e
    ·exact z.1 e
    ·exact z.2 e
    ·simp only at hl;exact oo 0x25c90da41132701483 hl e F
 ·by_cases h:69<=i/\i<=71
  ·have:i=69\/i=70\/i=71:=oo 0x34020a40042402120101048082404120209722e509d4e44c008de44d9089b10 h;rcases this with rfl|rfl|rfl
   ·exact .inr ⟨69,rfl,aa rfl,aa rfl,rfl⟩
   ·exact .inr ⟨70,rfl,aa rfl,aa rfl,rfl⟩
   ·exact .inr ⟨71,rfl,aa rfl,aa rfl,rfl⟩
  ·exact .inl ⟨h,Lp h⟩
 ·refine ⟨?_,?_⟩
  ·unfold bf keyOk;rw [gr D,jF D,gs hd];rfl
  ·show _=enc (Z.W.cu t);by_cases G:t= .a0 75
   ·subst G;rfl
   ·by_cases I:t= .a0 76
    ·subst I;rfl
    ·rw [O_ D G I,N2 D G I];rfl
theorem Ef (B:BS Z nm td allB Z.W.ifs Z.W.cq Z.W.under L0 78 s ts) (K:Kp Z nm L0 kp s) (w:WS Z kp ks) (A:rK Z nm kp ks):Ap (Z.fin s ts td):=by
 have y:=B.lo 77 (aa rfl);have kk:∀{a o},(a,o)∈kp->(Z.fin s ts td).st a o:=λ{a o} e=>⟨(K _ e).1,λz=>(K _ e).2.2 (by
  rcases aR z with e|e
  ·exact e▸ai
  ·exact .tail _ (.tail _ (.tail _ e)))⟩
 obtain ⟨wk,J,w2⟩:=w.w;obtain ⟨fh,D,ho2,L⟩:=A.KL;have lw:Z.wd<L0:=(K _ J).2.1;have Y:=(K _ D).2.1;have G:=(K _ D).2.2;have ap:=B.ap;obtain ⟨a1,ap⟩:=bw ap;obtain ⟨a2,ap⟩:=bw ap;obtain ⟨a3,ap⟩:=bw ap;have hm:∀i∈Z.KN::Z.kt::Z.m,i∉ [Z.wd,Z.KL,td 77+4]:=λi k e=>by
  have hl:=B.old i (.tail _ (.tail _ (.tail _ (.tail _ k))));replace e:=fL e;rcases e with e|e|e
  ·exact (bw ap).1 (e▸k)
  ·subst e;rcases aR k with e|k
   ·exact G (by rw [e];exact ai)
   ·rcases aR k with e|k
    ·exact A.hk e
    ·exact G (.tail _ (.tail _ (.tail _ k)))
  ·exact oq 132 hl e y
 have E:∀i,i≠Z.wd/\i≠Z.KL->i<L0->i∉ [Z.wd,Z.KL,td 77+4]:=λi h hl e=>by
  replace e:=fL e;rcases e with e|e|e
  ·exact h.1 e
  ·exact h.2 e
  ·exact oq 132 hl e y
 have nt:∀h j,cM h=true->j<10->td h+j∉ [Z.wd,Z.KL,td 77+4]:=λh j F z e=>by have I:=tR F;have l1:=B.lo h I.1;have ds:=B.og h I.1 77 (aa rfl) (oo 0x3890026f904004df21201 I.2);replace e:=fL e;exact oo 0xb20a1f4bb2e8910b0a560cf861f46e01f6705975214aa58f29c06a6093994f596177f115720aa28bb62636901487 lw Y z l1 ds e
 have lo:∀{a o},(a,o)∈kp->a<L0:=λe=>(K _ e).2.1;obtain ⟨fs,I,o2⟩:=(B.ty 77 (aa rfl)).o;obtain ⟨bl,b1,b2⟩:=(B.ty 77 (aa rfl)).b;obtain ⟨tl,t1,t2,t3⟩:=B.tg (g:=77) (aa rfl);have bt:∀{j o},s[td 77+j]? =some o->(Z.fin s ts td).st (td 77+j) o:=λ{j o} e=>⟨e,λz=>by
  have:=B.old (td 77+j) (by
   rcases aR z with e|e
   ·rw [e];simp only [List.mem_cons,true_or];exact .inr (.inr (.inr (.inr (.inl rfl))))
   ·exact .tail _ (.tail _ (.tail _ (.tail _ (.tail _ (.tail _ e))))))
  exact oo 0x1849c22100402a1021484 this y⟩
 have tys:(Z.fin s ts td).st Z.types (.list tl):=⟨t1,λe=>B.ne3 Z.types bn (by
  rcases aR e with e|e
  ·exact .tail _ (e▸ai)
  ·exact .tail _ (.tail _ (.tail _ e)))⟩
 refine ⟨hm Z.kt bn,λi k=>hm i ?_,E Z.KM (A.ne Z.KM ?_) (B.old _ ai),E Z.types (A.ne Z.types ?_) (B.old _ bn),λh F=>nt h 0 F (aa rfl),λh F=>nt h 1 F (aa rfl),λh F=>nt h 3 F (aa rfl),
  E _ (A.ne Z.upd ai) (lo w.upd),E _ (A.ne Z.wy bn) (lo w.wy),E _ (A.ne Z.un ci) (lo w.un),?_,?_,?_,⟨fh,kk D,L⟩,E _ (A.ne Z.hb ?_) (lo A.hb),⟨wk,kk J,?_⟩,E _ (A.ne Z.hg ?_) (lo A.hg)⟩
 ·rcases aR k with e|k
  ·rw [e];exact ai
  ·exact .tail _ (.tail _ k)
 ·exact qg
 ·exact s_
 ·show [Z.wd,Z.KL,td 77+4].Nodup;have:=A.wh;simp only [JV,List.mem_cons,ba,not_or,not_false_eq_true,List.nodup_nil,and_true];exact oo 0x1f17592668e00112e38d1dc19f62f9c523e3f6d0978e0948526c4863e8460255c48122a85 lw this y Y
 ·refine ⟨fs,tl,bl,bt (j:=0) I,?_,o2.aN,tys,t3,bt b1,b2⟩;intro e;have e:td 77∈ [Z.wd,Z.KL,td 77+4]:=e;replace e:=fL e;exact oo 0x45a2272ff84d50e21e315fb7ddd033e4ed56c408ff01485 lw y e Y
 ·intro i k z;exact hm i z k
 ·exact eP
 ·exact A.wl _ J
 ·exact jY
end
variable {U':List Kd}{u:Kd}{hv:Bool}
abbrev Hj (Z:Zw) (N:Nat):Prop:=∀s t,lk Z.has s=true->lk Z.has t=true->dp s<=7->dp t<=7->Dp Z.W Z.C N [] s t
structure SR (Z:Zw) N:Prop where
 c:dI Z.C
 d:Hj Z N
 n:N<=900
section
variable {x:Kd} {st:Bool}
theorem SR.lr (S:SR Z N) (hb:Z.has=true->∀i,∀x∈Z.C.ac i,x∈U'):LR (Z.wU U') N:=
 ⟨⟨S.c,hb⟩,λs t j z=>S.d s t j.l z.l j.d z.d,S.n⟩
theorem nS {x} (j:lk true x=true) (z: .b y∈cl x):False:=by
 rcases aG z with h|h
 ·exact nf (fB j h).1
 ·obtain ⟨w,_,e⟩:=g5.mp h;trivial
theorem oe {x} (j:lk hv x=true) (hd:dp x<=7):wt x<=128:=by have z:=rg j;have A:2^dp x<=2^7:=Nat.pow_le_pow_right (aa rfl) (oo 0xd6805a001 hd);exact oq 30 z A
abbrev IW (Z:Zw) (N:Nat) (x:Kd) (t:Kd):Prop:=∀c0 c1,cZ Z.C 0 [] c0->cZ Z.C 1 [c0] c1->Meets Z N 0 [c0,c0] c0->Meets Z N 1 [c0,c1] c1->(lk Z.has (sub [c0,c1] x)=true/\dp (sub [c0,c1] x)<=7)/\(lk Z.has (sub [c0,c1] t)=true/\dp (sub [c0,c1] t)<=7)/\ak (sub [c0,c1] x)=false/\ak (sub [c0,c1] t)=false/\jw Z N (sub [c0,c1] x) (sub [c0,c1] t)/\(fI Z N false x t->iT Z N (sub [c0,c1] x) (sub [c0,c1] t))
abbrev Ou (Z:Zw) (x:Kd) (t:Kd):Prop:=∃QU,fP Z.W Z.C QU/\(asked (bx x) t->(bx x,t)∈QU)
abbrev Ow (Z:Zw) (N:Nat) (x:Kd) (t:Kd):Prop:=∀st,cj (MG Z.W Z.C st) (bx x) t↔fI Z N st x t
structure jh (Z:Zw) N (x t):Prop where
 qu:Ou Z x t
 eq:Ow Z N x t
 kM:IW Z N x t
theorem OT {m:Nat} {M} (hM:3*N+40<=M) (h:HL Z s ts) (S:SR Z N) (hb:Z.has=true->∀i,∀x∈Z.C.ac i,x∈Z.U) (hG:∀y∈G0,y∈Z.U) (hhas:Z.has=true) (L:aQ Z x) (ht:aQ Z t) (hm:m<2^40) (ha:jh Z N x t)
 (hc0:∀c,cZ Z.C 0 [] c->aQ Z c/\lk false c=true/\∀k∈Z.C.ac 0,aQ Z (sub [c,c] k)) (hc1:∀c0,cZ Z.C 0 [] c0->∀c,cZ Z.C 1 [c0] c->aQ Z c/\∀k∈Z.C.ac 1,aQ Z (sub [c0,c] k))
 (bi:dZ Z.U ts) (Y:Z.U.length<=28000)
 (q:∀s' ae U',HL (Z.wU U') s' ae->dZ U' ae->(∀y∈Z.U,y∈U')->U'.length<=Z.U.length+600->ts<+:ae->Fr (Z.KN::Z.m) s s'->Q (.bool true) s'):aq sc M 101 [.ref Z.wd,.ref Z.KL,enc x,enc t,.int m] Q s:=by
 obtain ⟨F,rfl⟩:∃F,M=F+3*N+40:=⟨M-(3*N+40),oo 0x29bf8146c267bf09f095dd707efc03a4e81535640451aac33c103 (by exact sO _ _) hM⟩;refine cg rfl<|ou 7 (F+3*N+25) x _ s ts h L.u (ch L.l) L.d L.d λs1 ts1 k1 h1 p1 f1 d1=> ?_;refine ou 7 (F+3*N+25) t _ s1 ts1 h1 ht.u (ch ht.l) ht.d ht.d λs2 ts2 k2 h2 p2 f2 d2=> ?_;have d1':=d1.mono p2;apply v_ L.l;have hc:=S.c.ok;obtain ⟨QU,hq,hq1⟩:=ha.qu;have rest:∀{U' s3 I k3},HL (Z.wU U') s3 I->dZ U' I->(∀y∈Z.U,y∈U')->U'.length<=Z.U.length+1->ts<+:I->Fr (Z.KN::Z.m) s s3->Den I k3 (bx x)->Den I k2 t->
  wSs sc (F+3*N+39) (dr 2 (tl (bo 101))) (cf (eR Z.wd) (eR Z.KL) (some (enc x)) (some (enc t)) (eI m) (eI (k3:Nat)) (eI k2) none none) (fin Q) s3:=by
  intro U' s3 I k3 h3 bi3 z E p3 f3 dx dt;have L3:=S.lr (U':=U') λhh i x L=>z x (hb hh i x L);have hx3:=L.wU z;have ht3:=ht.wU z;refine vJ (Z:=Z.wU U') (n:=F+3*N+18) h3.h hc hq dx dt hq1 λs4 ts4 r4 h4 p4 f4 hr4=> ?_;have h4':HL (Z.wU U') s4 ts4:=⟨h4,h3.l⟩;refine xR (Z:=Z.wU U') (st:=false) (oq 133) h4' L3 hx3 ht3 rfl λs5 r5 f5 hr5=> ?_;have e5:=JH.mpr (hr5.trans ((ha.eq false).symm.trans hr4.symm));subst e5;have h5:HL (Z.wU U') s5 ts4:=⟨h4.new f5,h3.l⟩;refine mW rfl<|jz qs<|Im (Z:=Z.wU U') (n:=F+3*N+18) h5.h hc hq (dx.mono p4) (dt.mono p4) hq1 λs6 J r6 h6 p6 f6 hr6=> ?_;have h6':HL (Z.wU U') s6 J:=⟨h6,h3.l⟩;refine xR (Z:=Z.wU U') (st:=true) (oq 133) h6' L3 hx3 ht3 rfl λs7 r7 f7 hr7=> ?_;have e7:=JH.mpr (hr7.trans ((ha.eq true).symm.trans hr6.symm));subst e7;have h7:HL (Z.wU U') s7 J:=⟨h6.new f7,h3.l⟩;apply mW rfl;apply jz qs;have fr7:=(((f3.trans (f4.sub λj hj=> .tail _ hj)).trans (aI f5)).trans (f6.sub λj hj=> .tail _ hj)).trans (aI f7);have pr7:=(p3.trans p4).trans p6;have bi7:dZ U' J:=λy A D=>(p4.trans p6).mem (bi3 y A D);refine HD (Z:=Z.wU U') (oo 0x60027f20ae541057002) h7 L3 hhas hm (λc hc'=>⟨(hc0 c hc').1.wU z,(hc0 c hc').2.1,λk hk=>((hc0 c hc').2.2 k hk).wU z⟩) (λc0 hc0' c hc'=>⟨(hc1 c0 hc0' c hc').1.wU z,λk hk=>((hc1 c0 hc0' c hc').2 k hk).wU z⟩) (λs8 f8=>sI (by rfl)<|q s8 J U' ⟨h7.h.new f8,h7.l⟩ bi7 z (oo 0x18190000963cc8002 E) pr7 (fr7.trans (aI f8))) λs8 c0 c1 f8 hk0 hk1 hm0 hm1=> ?_
  ·have h8:HL (Z.wU U') s8 J:=⟨h7.h.new f8,h7.l⟩;obtain ⟨ox,ot,vx,vt',cl',lt⟩:=ha.kM c0 c1 hk0 hk1 hm0 hm1;have pl:(V.pure (.tup [enc c0,enc c1])&&V.pure (.tup [])&&decide ((V.tup [enc c0,enc c1]).dep<=20))=true:=by
    have l0:=(hc0 c0 hk0).1;have l1:=(hc1 c0 hk0 c1 hk1).1;have e1:V.pure (.tup [enc c0,enc c1])=true:=by show (V.pure (enc c0)&&(V.pure (enc c1)&&true))=true;rw [(gr l0.l),(gr l1.l)];rfl
    have e2:(V.tup [enc c0,enc c1]).dep<=20:=by show max (V.dep (enc c0)) (max (V.dep (enc c1)) 0)+1<=20;rw [jF l0.l,jF l1.l];have z0:=l0.d;have z1:=l1.d;lia
    rw [e1,gs e2];rfl
   refine sI (uD pl)<|pj (as:= [c0,c1]) (hv:=true) (ll rfl) 7 (F+3*N+32) x _ s8 (ch L.l) L.d (uo (ch L.l)) λs9 f9=> ?_;refine pj (as:= [c0,c1]) (hv:=true) (ll rfl) 7 (F+3*N+32) t _ s9 (ch ht.l) ht.d (uo (ch ht.l)) λs10 f10=> ?_;have h10:HL (Z.wU U') s10 J:=⟨(h8.h.new f9).new f10,h7.l⟩;obtain ⟨G,hGe⟩:∃G,F+3*N+39=G+3*N+24:=⟨F+15,oo 0x60018f30ac001fe4540027f30ac5102⟩;rw [hGe];have lx2:=ch ox.1;have lt2:=ch ot.1;have w1:=oe ox.1 ox.2;have w2:=oe ot.1 ot.2;have ha2:HL (Z.wU (U'++cl (sub [c0,c1] x)++cl (sub [c0,c1] t))) s10 J:=HL.lJ (Z:=Z.wU (U'++cl (sub [c0,c1] x))) (HL.lJ (Z:=Z.wU U') h10 (λy A=>z y (hG y A)) lx2 ox.2 (by show U'.length+_<=_;exact oo 0x12b5c2d9dd5d6229bacfe63005281c9003 w1 Y E)) (λy A=>aA _ (z y (hG y A))) lt2 ot.2 (by show (U'++cl (sub [c0,c1] x)).length+_<=_;rw [aL,jc];exact oo 0xd2400980132072001b583ce03ac03aa024c09a0985004 w1 w2 Y E);have sub4:∀y∈U',y∈U'++cl (sub [c0,c1] x)++cl (sub [c0,c1] t):=λy A=>aA _ (aA _ A);have len4:(U'++cl (sub [c0,c1] x)++cl (sub [c0,c1] t)).length<=U'.length+512:=by rw [aL,aL,jc,jc];exact oq 56 w1 w2
   have bi4:dZ (U'++cl (sub [c0,c1] x)++cl (sub [c0,c1] t)) J:=λy A D=>by
    rcases aG D with D|D
    ·rcases aG D with D|D
     ·exact bi7 y A D
     ·exact (nS lx2 D).elim
    ·exact (nS lt2 D).elim
   have mx:sub [c0,c1] x∈U'++cl (sub [c0,c1] x)++cl (sub [c0,c1] t):=aA _ (aS _ (iB (dX _)));have mt:sub [c0,c1] t∈U'++cl (sub [c0,c1] x)++cl (sub [c0,c1] t):=aS _ (iB (dX _));have L4:=S.lr (U':=U'++cl (sub [c0,c1] x)++cl (sub [c0,c1] t)) λhh i x L=>sub4 x (z x (hb hh i x L));generalize U'++cl (sub [c0,c1] x)++cl (sub [c0,c1] t)=U4 at ha2 sub4 len4 bi4 mx mt L4;refine yJ (Z:=Z.wU U4) (F:=G) (lE:=r5) ha2 L4 ⟨mx,ox.1,ox.2⟩ ⟨mt,ot.1,ot.2⟩ vx vt' ⟨cl'.qu,cl'.inst,cl'.box⟩ (λe=>lt (hr5.1 e)) bi4 (by show U4.length<=29000;exact oo 0x9ea72c038401ec34440153dad6003 Y E len4) λs11 ts11 U2 h11 bi11 hU2 p11 f11=> ?_;have hU3:U2=U4\/U2=U4++ [.b (sub [c0,c1] x)]:=hU2.imp id And.right;refine q s11 ts11 U2 h11 bi11 (λy A=> ?_) ?_ (pr7.trans p11) ((((fr7.trans (aI f8)).trans (aI f9)).trans (aI f10)).trans f11)
   ·rcases hU3 with e|e
    ·rw [e];exact sub4 y (z y A)
    ·rw [e];exact aA _ (sub4 y (z y A))
   ·rcases hU3 with e|e
    ·rw [e];exact oo 0x13d4e58070800152088c003 E len4
    ·rw [e,aL];simp only [iZ,List.length_nil];exact oo 0x4f539601c200054822303211003 E len4
 have wid:HL (Z.wU Z.U) s2 ts2:=h2;by_cases hr:(ak x||isVal x)=true
 ·have eb:bx x= .b x:=by unfold bx;rw [ep hr]
  have hn:(!(!ak x&& !isVal x))=true:=by simpa using hr
  apply rq hn;by_cases hv:isVal x=true
  ·have h3:=CU h2 L hv (oo 0x336b079007148f2001 Y);obtain ⟨fs,g1,g2,_⟩:=h3.h.wd.KL;refine am (h3.h.get g1) rfl g2<|rM (Z:=(Z.wU (Z.U++ [.b x])).toKz) h3.h.kt (aS _ ai) d1' λs3 I k3 K3 p3 f3 d3=> ?_;exact rest (U':=Z.U++ [.b x]) ⟨h3.h.step K3 p3 f3,h3.l⟩ (λy A D=>by
    rcases aG D with D|D
    ·exact ((p1.trans p2).trans p3).mem (bi y A D)
    ·rw [w4] at D;cases D;exact d3.mem) (λy A=>aA _ A) (by simp) ((p1.trans p2).trans p3) ((f1.trans f2).trans (f3.sub λj hj=> .tail _ hj)) (by rw [eb];exact d3) (d2.mono p3)
  ·have hvx:ak x=true:=by
    induction h1:ak x using Bool.casesOn with|true=>rfl|false=>rw [h1] at hr;simp at hr;exact dv hr hv
   obtain ⟨i,rfl⟩:∃i,x= .v i:=dP hvx;obtain ⟨fs,g1,g2,_⟩:=h2.h.wd.KL;refine am (h2.h.get g1) rfl g2<|rM h2.h.kt (h2.h.wd.dh.box i L.u) d1' λs3 I k3 K3 p3 f3 d3=> ?_;exact rest (U':=Z.U) ⟨h2.h.step K3 p3 f3,h2.l⟩ (λy A D=>((p1.trans p2).trans p3).mem (bi y A D)) (λy A=>A) (oq 13) ((p1.trans p2).trans p3) ((f1.trans f2).trans (f3.sub λj hj=> .tail _ hj)) (by rw [eb];exact d3) (d2.mono p3)
 ·have eb:bx x=x:=by unfold bx;rw [fm hr]
  have hn:(!(!ak x&& !isVal x))=false:=by simpa using hr
  exact jz hn<|rest (U':=Z.U) wid (λy A D=>(p1.trans p2).mem (bi y A D)) (λy A=>A) (oq 13) (p1.trans p2) (f1.trans f2) (by rw [eb];exact d1') d2
end
variable {c0:Kd}{c:Nat}
def cands:List Kd:=jv++vP
def roots:List Kd:=BK++cands++cands.map (.a1 69)++cands.map (λc=> .a2 70 c (.a0 64))
noncomputable def nP (U:List Kd):List Kd->List Kd
 | []=>U|x::r=>nP (U++cl x) r
def U0:List Kd:=nP G0 roots
theorem zD:∀{r U} {y},y∈U->y∈nP U r:=by
 intro j;induction j with|nil=>intro _ _ h;exact h|cons _ r z=>intro _ _ h;exact z (aA _ h)
theorem Mt:∀{r U} {y},y∈r->y∈nP U r:=by
 intro j;induction j with|nil=>intros;trivial|cons x r z=>
  intro U y h;rcases aR h with rfl|h
  ·exact zD (r:=r) (aS _ (iB (dX _)))
  ·exact z h
theorem DI:∀{r U},eJ W U->(∀y∈G0,y∈U)->(∀x∈r,lk true x=true)->eJ W (nP U r):=by
 intro z;induction z with|nil=>intro _ h _ _;exact h|cons x r A=>intro _ h g l;exact A (xo h g (l x ai)) (λy j=>aA _ (g y j)) λy j=>l y (.tail _ j)
theorem EX {x} (A:lk true x=true) (hd:dp x<=7) (j:y∈cl x):dw y=true/\dp y<=24/\wt y<=4096:=by
 have b:∀{z},z∈subs x->dw z=true/\dp z<=7/\wt z<=128:=λ{z} hz=>by have:=fB A hz;have F:=rg this.1;have G:2^dp z<=2^7:=Nat.pow_le_pow_right (aa rfl) (oq 31 hd this.2);exact ⟨rL this.1,oq 31 hd this.2,oq 30 F G⟩
 rcases aG j with j|j
 ·have:=b j;exact ⟨this.1,oq 106 this.2,oq 107 this.2⟩
 ·obtain ⟨w,D,rfl⟩:=g5.mp j;have E:=b D;have st:dw (.a1 69 w)=true:=rL (bQ rfl (fB A D).1);exact ⟨st,by show dp w+1<=24;exact oq 108 E.2,by show 1+wt w<=4096;exact oq 109 E.2⟩
theorem N0:∀{r U},(∀y∈U,dw y=true/\dp y<=24/\wt y<=4096)->(∀x∈r,lk true x=true/\dp x<=7)->∀y∈nP U r,dw y=true/\dp y<=24/\wt y<=4096:=by
 intro z;induction z with|nil=>intro _ h _;exact h|cons x r A=>intro U h l;exact A (λy j=>(aG j).elim (h y) (EX (l x ai).1 (l x ai).2)) λy j=>l y (.tail _ j)
theorem tc:∀x∈roots,lk true x=true/\dp x<=7:=by decide
theorem ye:eJ W U0:=DI DE (λ_ h=>h) λx j=>(tc x j).1
theorem Ra:∀y∈U0,dw y=true/\dp y<=24/\wt y<=4096:=N0 D7 tc
theorem BE:U0.length<=1000:=by decide
theorem oD:∀y∈G0,y∈U0:=λ_ h=>zD h
theorem BN:∀y∈roots,y∈U0:=λ_ h=>Mt h
theorem q7:∀y∈BK,y∈U0:=λy h=>BN y (by unfold roots;simp [h])
theorem zC:∀c∈cands,c∈roots/\lk false c=true/\dp c<=3/\∀k∈ [Kd.a0 67,.a0 64,.a1 69 (.a0 64),.a1 69 (.v 0),.a2 70 (.v 0) (.a0 64)],sub [c,c] k∈roots:=by decide
theorem zr:∀c∈cands,∀k∈ [Kd.v 0,.a0 65,.a1 69 (.v 0),.a0 68],sub [c,.a0 64] k∈roots:=by decide
theorem Fw {c}:∀k∈ [Kd.v 0,.a0 65,.a1 69 (.v 0),.a0 68],sub [c0,c] k=sub [c0,.a0 64] k:=by intro k hk;replace hk:=uP hk;rcases hk with rfl|rfl|rfl|rfl<;>rfl
section
variable {x:Kd} {st:Bool}
theorem pz (z:∀y∈U0,y∈Z.U) (j:Z.has=true) (h:y∈roots):aQ Z y:=⟨z y (BN y h),by rw [j];exact (tc y h).1,(tc y h).2⟩
theorem lc (h:cZ (ctx c) 0 [] y):y∈cands:=by
 rcases h with h|⟨e,_⟩|⟨_,h⟩
 ·exact aA _ h
 ·trivial
 ·exact aS _ h
theorem Ib (A:∀y∈U0,y∈Z.U) (j:Z.has=true) (D:Z.C=ctx c):∀y,cZ Z.C 0 [] y->aQ Z y/\lk false y=true/\∀k∈Z.C.ac 0,aQ Z (sub [y,y] k):=by
 rw [D];intro y E;have z:=zC y (lc E);refine ⟨pz A j z.1,z.2.1,λk hk=>pz A j (z.2.2.2 k ?_)⟩;rcases lF hk with ⟨_,h⟩|⟨e,_⟩
 ·exact qF h
 ·trivial
theorem Dg (A:∀y∈U0,y∈Z.U) (j:Z.has=true) (G:Z.C=ctx c):∀z,cZ Z.C 0 [] z->∀y,cZ Z.C 1 [z] y->aQ Z y/\∀k∈Z.C.ac 1,aQ Z (sub [z,y] k):=by
 rw [G];intro z D y I;have F:=lc D;have E:∀k∈(ctx c).ac 1,k∈ [Kd.v 0,.a0 65,.a1 69 (.v 0),.a0 68]:=λk hk=>by
  rcases lF hk with ⟨e,_⟩|⟨_,h⟩
  ·trivial
  ·exact py h
 refine ⟨?_,λk hk=> ?_⟩
 ·rcases I with h|⟨_,k,hk,rfl⟩|⟨e,_⟩
  ·exact pz A j (zC y (aA _ h)).1
  ·exact pz A j (zr z F k (E k hk))
  ·trivial
 ·rw [Fw k (E k hk)];exact pz A j (zr z F k (E k hk))
theorem jh.wU (ha:jh Z N x t):jh (Z.wU U') N x t:=
 ⟨ha.qu,ha.eq,λc0 c1 a b c d=>by obtain ⟨p1,p2,p3,p4,cl,j⟩:=ha.kM c0 c1 a b c d;exact ⟨p1,p2,p3,p4,⟨cl.qu,cl.inst,cl.box⟩,j⟩⟩
theorem AD {m M:Nat} (hM:3*N+40<=M) (h:HL Z s ts) (S:SR Z N) (j:Z.has=true) (hC:Z.C=ctx c) (J:∀y∈U0,y∈Z.U) (F:lk true x=true/\dp x<=7) (G:lk true t=true/\dp t<=7) (hm:m<2^40) (ha:jh Z N x t)
 (bi:dZ Z.U ts) (A:Z.U.length<=26000)
 (q:∀s' ae U',HL (Z.wU U') s' ae->dZ U' ae->(∀y∈U0,y∈U')->U'.length<=Z.U.length+1200->ts<+:ae->Fr (Z.KN::Z.m) s s'->Q (.bool true) s'):aq sc M 101 [.ref Z.wd,.ref Z.KL,enc x,enc t,.int m] Q s:=by
 have hG:∀y∈G0,y∈Z.U:=λy z=>J y (oD y z);have w1:=oe F.1 F.2;have w2:=oe G.1 G.2;have a2:HL (Z.wU (Z.U++cl x++cl t)) s ts:=HL.lJ (Z:=Z.wU (Z.U++cl x)) (h.lJ hG F.1 F.2 (oq 134 w1 A)) (λy z=>aA _ (hG y z)) G.1 G.2 (by show (Z.U++cl x).length+_<=_;rw [aL,jc];exact oq 135 w1 w2 A);have I:∀y∈Z.U,y∈Z.U++cl x++cl t:=λy z=>aA _ (aA _ z);have l2:(Z.U++cl x++cl t).length<=Z.U.length+512:=by rw [aL,aL,jc,jc];exact oq 56 w1 w2
 have b2:dZ (Z.U++cl x++cl t) ts:=λy z E=>by
  rcases aG E with E|E
  ·rcases aG E with E|E
   ·exact bi y z E
   ·exact (nS F.1 E).elim
  ·exact (nS G.1 E).elim
 have mx:x∈Z.U++cl x++cl t:=aA _ (aS _ (iB (dX _)));have mt:t∈Z.U++cl x++cl t:=aS _ (iB (dX _));generalize Z.U++cl x++cl t=L at a2 I l2 b2 mx mt;refine OT (Z:=Z.wU L) hM a2 ⟨S.c,S.d,S.n⟩ (λ_ i y z=>I y (J y (q7 y (jt (c:=c) (i:=i) (hC▸z))))) (λy z=>I y (hG y z)) j ⟨mx,?_,F.2⟩ ⟨mt,?_,G.2⟩ hm ha.wU (Ib (Z:=Z.wU L) (λy z=>I y (J y z)) j hC) (Dg (Z:=Z.wU L) (λy z=>I y (J y z)) j hC) b2 (by show L.length<=_;exact oo 0x6f64014600dac1e4002 A l2) λs' ae U' h' bi' Y len' p' f'=> ?_
 ·show lk Z.has x=true;rw [j];exact F.1
 ·show lk Z.has t=true;rw [j];exact G.1
 ·exact q s' ae U' h' bi' (λy z=>Y y (I y (J y z))) (by have:U'.length<=L.length+600:=len';exact oo 0x22395e9a55936c8002a3888c003 l2 this) p' f'
end
section
variable {x:Kd} {st:Bool}
theorem HS {M} (hM:3*N+24<=M) (h:HL Z s ts) (S:SR Z N) (j:Z.has=false) (hU:∀y∈U0,y∈Z.U) (G:lk false x=true/\dp x<=7) (I:lk false t=true/\dp t<=7) (J:jw Z N x t)
 (bi:dZ Z.U ts) (z:Z.U.length<=26000)
 (q:∀s' ae U',HL (Z.wU U') s' ae->dZ U' ae->(∀y∈U0,y∈U')->U'.length<=Z.U.length+600->ts<+:ae->Fr (Z.KN::Z.m) s s'->Q (.bool true) s'):aq sc M 100 [.ref Z.wd,.ref Z.KL,enc x,enc t,.bool false] Q s:=by
 obtain ⟨F,rfl⟩:∃F,M=F+3*N+24:=⟨M-(3*N+24),oo 0x29bf8146c267bf09f08d52707efc02386815356402a1aac33c103 (by exact sO _ _) hM⟩;have hG:∀y∈G0,y∈Z.U:=λy D=>hU y (oD y D);have w1:=oe G.1 G.2;have w2:=oe I.1 I.2;have lx:=tY G.1;have lt:=tY I.1;have a2:HL (Z.wU (Z.U++cl x++cl t)) s ts:=HL.lJ (Z:=Z.wU (Z.U++cl x)) (h.lJ hG lx G.2 (oq 134 w1 z)) (λy D=>aA _ (hG y D)) lt I.2 (by show (Z.U++cl x).length+_<=_;rw [aL,jc];exact oq 135 w1 w2 z);have s2:∀y∈Z.U,y∈Z.U++cl x++cl t:=λy D=>aA _ (aA _ D);have l2:(Z.U++cl x++cl t).length<=Z.U.length+512:=by rw [aL,aL,jc,jc];exact oq 56 w1 w2
 have b2:dZ (Z.U++cl x++cl t) ts:=λy D E=>by
  rcases aG E with E|E
  ·rcases aG E with E|E
   ·exact bi y D E
   ·exact (nS lx E).elim
  ·exact (nS lt E).elim
 have mx:x∈Z.U++cl x++cl t:=aA _ (aS _ (iB (dX _)));have mt:t∈Z.U++cl x++cl t:=aS _ (iB (dX _));generalize Z.U++cl x++cl t=Y at a2 s2 l2 b2 mx mt;have L:LR (Z.wU Y) N:=S.lr λhh=>by exact Bool.noConfusion (j.symm.trans hh)
 have vx:ak x=false:=by induction x using Kd.casesOn<;>first|rfl|exact nf G.1
 have vt:ak t=false:=by induction t using Kd.casesOn<;>first|rfl|exact nf I.1
 refine yJ (Z:=Z.wU Y) (F:=F) (lE:=false) a2 L ⟨mx,?_,G.2⟩ ⟨mt,?_,I.2⟩ vx vt ⟨J.qu,J.inst,J.box⟩ (λe=>by contradiction) b2 (by show Y.length<=_;exact oo 0x6f64014600e291e4002 z l2) λs' ae U' h' bi' hU' p' f'=> ?_
 ·show lk Z.has x=true;rw [j];exact G.1
 ·show lk Z.has t=true;rw [j];exact I.1
 ·have hU3:U'=Y\/U'=Y++ [.b x]:=hU'.imp id And.right;refine q s' ae U' h' bi' (λy D=> ?_) ?_ p' f'
  ·rcases hU3 with e|e
   ·rw [e];exact s2 y (hU y D)
   ·rw [e];exact aA _ (s2 y (hU y D))
  ·rcases hU3 with e|e
   ·rw [e];exact oo 0x1bd90000963cc8002 l2
   ·rw [e,aL];simp only [iZ,List.length_nil];exact oo 0x6f64000258f3202161002 l2
theorem Ap.wU (a:Ap Z):Ap (Z.wU U'):=⟨a.kt,a.m,a.KM,a.types,a.td,a.gE,a.gx,a.upd,a.wy,a.un,a.nd,a.mq,a.off,a.hl,a.hb,a.wl,a.hg⟩
theorem SR.wU (S:SR Z N):SR (Z.wU U') N:=⟨S.c,S.d,S.n⟩
theorem jw.wU (c:jw Z N x t):jw (Z.wU U') N x t:=⟨c.qu,c.inst,c.box⟩
end
variable {o0 o1 o9 ke iK:Option V}{nu a0:Nat}{nums:List V}
def GK:Ss:=match tl (dr 10 (tl (bo 102))) with| .cons (.for _ _ _ b) _=>b|_=> .nil
def EH:Ss:=match tl (dr 12 (tl (bo 102))) with| .cons (.for _ _ _ b) _=>b|_=> .nil
section
variable {M:Nat} {x:Kd} {st:Bool}
theorem GV {all} (hM:3*N+24<=M) (S:SR Z N) (F:Z.has=false) (h₀:Z.KN∉Z.m):
 ∀(l:List (Kd×Kd)) U (cE dD) s ts,(∀p∈l,(lk false p.1=true/\dp p.1<=7)/\(lk false p.2=true/\dp p.2<=7)/\jw Z N p.1 p.2)->
  HL (Z.wU U) s ts->dZ U ts->(∀y∈U0,y∈U)->U.length+600*l.length<=26000->
  (∀s' ae U' cE dD,HL (Z.wU U') s' ae->dZ U' ae->(∀y∈U0,y∈U')->U'.length<=U.length+600*l.length->ts<+:ae->Fr (Z.KN::Z.m) s s'->R .next (gG o0 o1 o2 (eR Z.KM) (eR Z.KL) (eR Z.wd) o6 o7 o8 o9 cE dD ke iK) s')->
  WF sc M (.tup all) (false,all) [10,11] true GK (l.map pe) (gG o0 o1 o2 (eR Z.KM) (eR Z.KL) (eR Z.wd) o6 o7 o8 o9 cE dD ke iK) R s:=by
 intro zi;induction zi with|nil=>intro U cE dD s ts hl h bi I D q;exact dH trivial (q s ts U cE dD h bi I (.refl) (aF _) .ay)|cons p l ih=>intro U cE dD s ts hl h bi I D q;have J:=hl p ai;have e1:(p::l).length=l.length+1:=rfl;refine bz trivial<|HS (Z:=Z.wU U) hM h S.wU F I J.1 J.2.1 J.2.2.wU bi (by show U.length<=_;exact oo 0xe8c012c7988144002 D) λs1 L U1 h4 Y hU1 j p1 f1=> ?_;have j:U1.length<=U.length+600:=j;refine ih U1 _ _ s1 L (λp hp=>hl p (.tail _ hp)) h4 Y hU1 (oo 0x1a4963920258f310000a584a380258f388145004b1e61004 D e1 j) λs2 ts2 U2 a b h5 bQ hU2 G p2 f2=> ?_;exact q s2 ts2 U2 a b h5 bQ hU2 (oo 0x3d33940781f2b869c56ae08c842f849f30260755f814005 e1 G j) (p1.trans p2) (f1.trans f2)
theorem D_ {all} (hM:3*N+40<=M) (S:SR Z N) (F:Z.has=true) (hC:Z.C=ctx c) (jr:nu∉Z.KN::Z.m) (J:nums[0]? =some (.int a0)) (G:a0<2^40):
 ∀(l:List (Kd×Kd)) (U) (cE dD) (s) (ts),(∀p∈l,(lk true p.1=true/\dp p.1<=7)/\(lk true p.2=true/\dp p.2<=7)/\jh Z N p.1 p.2)->s[nu]? =some (.list nums)->
  HL (Z.wU U) s ts->dZ U ts->(∀y∈U0,y∈U)->U.length+1200*l.length<=26000->
  (∀s' ae U' cE dD,HL (Z.wU U') s' ae->dZ U' ae->(∀y∈U0,y∈U')->U'.length<=U.length+1200*l.length->ts<+:ae->Fr (Z.KN::Z.m) s s'->R .next (gG o0 (eR nu) o2 (eR Z.KM) (eR Z.KL) (eR Z.wd) o6 o7 o8 o9 cE dD ke iK) s')->
  WF sc M (.tup all) (false,all) [10,11] true EH (l.map pe) (gG o0 (eR nu) o2 (eR Z.KM) (eR Z.KL) (eR Z.wd) o6 o7 o8 o9 cE dD ke iK) R s:=by
 intro l;induction l with|nil=>exact λU cE dD s ts hl en h bi L D q=>dH trivial (q s ts U cE dD h bi L (g6 _) (aF _) .ay)|cons p l IH=>intro U cE dD s ts hl en h bi L D q;have Y:=hl p ai;have e1:(p::l).length=l.length+1:=rfl;refine bz trivial<|ce en (aa rfl) J<|cB ⟨aa rfl,oq 4 (by exact sA _) G⟩<|AD (Z:=Z.wU U) (m:=a0/3) hM h S.wU F hC L Y.1 Y.2.1 (oq 111 (by exact sD _ _ rfl) G) Y.2.2.wU bi (by show U.length<=_;exact oo 0xe8c02587988144002 D) λs1 ts1 U1 h4 bi1 hU1 j p1 f1=> ?_;have j:U1.length<=U.length+1200:=j;refine IH U1 _ _ s1 ts1 (λp hp=>hl p (.tail _ hp)) (f1.get jr en) h4 bi1 hU1 (oo 0x1a52c39204b0f310000a584a3804b0f38814500961e61004 D e1 j) λs2 ts2 U2 a b h5 bQ hU2 I p2 f2=> ?_;exact q s2 ts2 U2 a b h5 bQ hU2 (oo 0x3d364e857697b448256b39f4b32f849f30260ea8f814005 e1 I j) (p1.trans p2) (f1.trans f2)
end
variable {KM KL:Nat}{cE dD:Option V}{nl:List Nat}
def yP:Ss:=match tl (dr 13 (tl (bo 102))) with| .cons (.for _ _ _ b) _=>b|_=> .nil
structure rA (W:World) (wd KM KL nu) (nl:List Nat) (Z:Zw) s ts:Prop where
 eW:Z.W=W
 Ro:Z.wd=wd
 Ri:Z.KM=KM
 Rq:Z.KL=KL
 hl:HL Z s ts
 ap:Ap Z
 bi:dZ Z.U ts
 u:∀y∈U0,y∈Z.U
 jr:nu∉Z.KN::Z.wd::Z.KL::Z.aN::Z.m
 en:s[nu]? =some (.list (nl.map λa:Nat=>V.int a))
abbrev J2 (N:Nat) (W:World):Prop:=∀(Z:Zw) c,Z.W=W->Z.C=ctx c->Z.has=true->SR Z N
abbrev Lq (N:Nat) (W:World):Prop:=∀(Z:Zw),Z.W=W->Z.C=C0->Z.has=false->SR Z N
abbrev Q5 (N:Nat) (W:World):Prop:=∀(Z:Zw) c x t,Z.W=W->Z.C=ctx c->Z.has=true->kj x t->jh Z N x t
structure L3 N (W:World):Prop where
 n:30<=N
 so:J2 N W
 sc:Lq N W
 pr:Q5 N W
section
variable {M:Nat} {x:Kd} {st:Bool} {wd:Nat}
theorem Fg (hM:3*N+60<=M) (l3:L3 N W) (L:rA W wd KM KL nu nl Z s ts) (z:j<nl.length) (G:nl.length<=9) (ha:∀a∈nl,a<1000003) (D:Z.U.length<=26000)
 (q:∀s' ae Z' x t c,rA W wd KM KL nu nl Z' s' ae->Z'.U.length<=Z.U.length+1200->R .next (gG o0 (eR nu) (eI nl.length) (eR KM) (eR KL) (eR wd) o6 o7 o8 o9 x t (eI j) c) s'):
 wSs sc M yP (gG o0 (eR nu) (eI nl.length) (eR KM) (eR KL) (eR wd) o6 o7 o8 o9 cE dD (eI j) iK) R s:=by
 obtain ⟨l1,l2,l3',l4,l5,l6,l7,l8,l9,I⟩:=L;subst l2 l3' l4;have hk:(j+1)%nl.length<nl.length:=JM _ (oo 0x310402882 z);have e1:(nl.map λa:Nat=>V.int a)[(((j:Int)+1)%(nl.length:Int)).toNat]? =some (.int (nl[(j+1)%nl.length]:Nat)):=by rw [show (((j:Int)+1)%(nl.length:Int)).toNat=(j+1)%nl.length from rfl,ko,bZ hk];rfl
 have e2:(nl.map λa:Nat=>V.int a)[(j:Int).toNat]? =some (.int (nl[j]:Nat)):=by rw [show (j:Int).toNat=j from rfl,ko,bZ z];rfl
 have a1:=ha _ (List.getElem_mem hk);have a2:=ha _ (List.getElem_mem z);generalize nl[(j+1)%nl.length]=E at e1 a1;generalize nl[j]=b2 at e2 a2;apply bH (oq 136 z);have m0:0<=(((j:Int)+1)%(nl.length:Int)):=Int.emod_nonneg _ (oo 0x31041401a02 z);have m1:(((j:Int)+1)%(nl.length:Int))<nl.length:=Int.emod_lt_of_pos _ (oq 136 z);refine ce I ⟨m0,oq 137 m1 G⟩ e1<|cB ⟨aa rfl,oo 0x41b4500000000004c4b53e71907c94082 (by exact sA _) a1⟩<|rH (aa rfl)<|Aq (c:=E/7+5*j) (oq 138 hM) l5 l6 (λy F=>l8 y (q7 y F)) (oo 0xb30752c15d092b4cb64019be480000000e8d4e1c9c4446c031e79085 (by exact sD _ _ rfl) a1 z G) λs1 A hb hg h1 ap1 p1 f1=> ?_;have J:=f1.get l9 I;refine ce J ⟨oq 0,oo 0x1d980804940402 z G⟩ e2<|rH (aa rfl)<|O0 (Z:=Z.snap s1 A (ctx (E/7+5*j)) true hb hg) (m:=b2+101*j) (oo 0xc000f3cc2b8032802 hM) h1 (sL _) rfl (λy F=>l8 y (oD y F)) (by show Z.U.length<=_;exact oo 0x1d1007148f2001 D) (oo 0x945c2c285e17ec28db0000000000cdfe95af33f00098ec9083 a2 z G) (λi y F=>(i5 y (jt F)).2.2.2) λs2 x t f2 pp=> ?_;apply cB ⟨aa rfl,oo 0x962e18002e1b3a9170cdd19ba62170c39943c9c4c80000000005f5e28ddafa99f956f846f9280a4 (by exact sZ _ _ rfl) (by exact sA _) a1 z G⟩;have h2:HL (Z.snap s1 A (ctx (E/7+5*j)) true hb hg) s2 A:=⟨h1.h.new f2,h1.l⟩;have wx:=pp.wx;have wt:=pp.iS;have dx:=nK x;have dt:=nK t;refine AD (Z:=Z.snap s1 A (ctx (E/7+5*j)) true hb hg) (m:=(E/7+5*j)/180+j) (c:=E/7+5*j) (oq 139 hM) h2 (l3.so _ _ l1 rfl rfl) rfl rfl l8 ⟨pp.lx,oq 54 wx dx⟩ ⟨pp.lt,oq 140 wt dt⟩ (oo 0x518f462dfcde209bce93de0db9e695f2310000807493f38aeef95e06044a549ca85881087 (by exact sD _ _ rfl) (by exact sD _ _ rfl) a1 z G) (l3.pr _ _ x t l1 rfl rfl pp) (λy F hu=>p1.mem (l7 y F hu)) D λs3 ts3 U3 h3 bi3 hU3 Y p3 f3=> ?_;refine q s3 ts3 ((Z.snap s1 A (ctx (E/7+5*j)) true hb hg).wU U3) _ _ _ ⟨l1,rfl,rfl,rfl,h3,ap1.wU,bi3,hU3,l9,?_⟩ Y;refine f3.get (λe=>l9 ?_) (f2.gn J);rcases aR e with e|e
 ·exact e▸ai
 ·exact .tail _ (.tail _ (.tail _ (.tail _ e)))
end
variable {all:Bool×List V}{hi:Int}
section
variable {M:Nat} {x:Kd} {st:Bool} {wd:Nat}
theorem MQ {lo} (I:3*N+60<=M) (l3:L3 N W) (J:nl.length<=9) (ha:∀a∈nl,a<1000003)
 (q:∀s' x t j c,R .next (gG o0 (eR nu) (eI nl.length) (eR KM) (eR KL) (eR wd) o6 o7 o8 o9 x t j c) s'):
 ∀(n j) Z s ts (cE dD ke iK),j+n=nl.length->rA W wd KM KL nu nl Z s ts->Z.U.length+1200*n<=26000->
  WF sc M (.cW lo hi) all [12] false yP (intsFrom j n) (gG o0 (eR nu) (eI nl.length) (eR KM) (eR KL) (eR wd) o6 o7 o8 o9 cE dD ke iK) R s:=by
 intro Y;induction Y with|zero=>intro j Z s ts cE dD ke iK F L hl;exact dH trivial (q s _ _ _ _)|succ n ih=>intro j Z s ts cE dD ke iK F L hl;refine bz trivial<|Fg I l3 L (oo 0x6548a7338083 F) J ha (oo 0x1d103202587988144002 hl) λs1 G Z1 x t c L1 E=> ?_;exact ih (j+1) Z1 s1 G _ _ _ _ (oq 115 F) L1 (oo 0x891adf295666877b1faa6d08b7007096c9003 hl E)
end
def fG (W:World):Nat:=if W.num%2=1 then W.num+1 else W.num-1
def FX (W:World):List (Kd×Kd):= [(.a1 74 (.a0 65),.a1 69 (.a0 64)),(.a0 75,.a0 67),(.a0 75,.a0 68),(.a0 73,.a0 67),(.a0 73,.a1 8 (.a0 73)),(.a1 8 (.a0 73),.p 12),(.a0 75,.a1 8 (.a0 73)),(.a0 75,.a0 2),(.a0 73,.a0 3),(.ar (.a0 75),.ar (.p (fG W))),(.p W.num,.a0 75)]
noncomputable def AX:List (Kd×Kd):= [(.a1 69 (.v 1),.a1 69 (.v 0)),(.v 1,.a0 64),(.ar (.v 1),.ar (.v 0))]
structure uA N (W:World):Prop extends L3 N W where
 fx:∀(Z:Zw),Z.W=W->Z.C=C0->Z.has=false->∀p∈FX W,jw Z N p.1 p.2
 ax:∀(Z:Zw),Z.W=W->Z.C=ctx 20->Z.has=true->∀p∈AX,jh Z N p.1 p.2
theorem Gh W:1<=fG W/\fG W<=13:=by
 have h:3<=W.num/\W.num<=10:=by unfold World.num;exact oq 21 (by exact sD _ _ rfl) (by exact sD _ _ rfl)
 unfold fG
 split
 ·exact oo 0x3482824880150535024004808281 h
 ·exact oo 0x34820a0a052492020923021505018b3500008282 (by exact sO _ _) h
theorem uY:∀p∈FX W,(lk false p.1=true/\dp p.1<=7)/\(lk false p.2=true/\dp p.2<=7):=by
 intro p hp;have h:3<=W.num/\W.num<=10:=by unfold World.num;exact oq 21 (by exact sD _ _ rfl) (by exact sD _ _ rfl)
 have j:=Gh W;have y:lk false (.p W.num)=true:=by show (decide (1<=W.num)&&decide (W.num<=13))=true;rw [gs (by exact oq 128 h),gs (by exact oq 129 h)];rfl
 have l2:lk false (.ar (.p (fG W)))=true:=by show (decide (1<=fG W)&&decide (fG W<=13))=true;rw [gs (by exact oo 0xd04b500020a00801 j),gs (by exact oo 0xd20b500020a6a001 j)];rfl
 have z:dp (.p W.num)<=7:=by show 1<=7;decide
 have A:dp (.ar (.p (fG W)))<=7:=by show 1+1<=7;decide
 simp only [FX,List.mem_cons,ba,or_false] at hp;rcases hp with rfl|rfl|rfl|rfl|rfl|rfl|rfl|rfl|rfl|rfl|rfl
 ·decide
 ·decide
 ·decide
 ·decide
 ·decide
 ·decide
 ·decide
 ·decide
 ·decide
 ·exact ⟨(by decide:lk false (.ar (.a0 75))=true/\dp (.ar (.a0 75))<=7),l2,A⟩
 ·exact ⟨⟨y,z⟩,(by decide:lk false (.a0 75)=true/\dp (.a0 75)<=7)⟩
theorem yv:∀p∈AX,(lk true p.1=true/\dp p.1<=7)/\(lk true p.2=true/\dp p.2<=7):=by decide
section
variable {M:Nat} {wd:Nat}
theorem HP (hM:3*N+60<=M) (l3:uA N W) (hC:Z.C=C0) (z:Z.has=false) (L:rA W wd KM KL nu nl Z s ts) (hn:nl.length<=9) (h0:0<nl.length) (ha:∀a∈nl,a<1000003) (A:Z.U.length<=1000)
 (q:∀s',Q (.bool true) s'):
 wSs sc M (dr 11 (tl (bo 102))) (gG o0 (eR nu) (eI nl.length) (eR KM) (eR KL) (eR wd) (some (enc (.a0 75))) (some (enc (.a0 73))) (some (enc (.p W.num))) (some (enc (.p (fG W)))) none none none none) (fin Q) s:=by
 obtain ⟨I,l2,l3',l4,l5,l6,l7,l8,J,l10⟩:=L;subst l2 l3' l4;refine GV (l:=FX W) (U:=Z.U) (oo 0x38003cf20ae04000c79057002 hM) (l3.sc Z I hC z) z l5.h.wd.KN _ _ s ts (λp hp=>⟨(uY p hp).1,(uY p hp).2,l3.fx Z I hC z p hp⟩) l5 l7 l8 (by show Z.U.length+600*11<=26000;exact oo 0x3aa028a9012c799001 A) λs1 ts1 G cE dD h1 bi1 Y k p1 f1=> ?_;have k:G.length<=Z.U.length+600*11:=k;refine Aq (Z:=Z.wU G) (c:=20) (oq 138 hM) h1 l6.wU (λy hy=>Y y (q7 y hy)) (aa rfl) λs2 D hb hg h2 ap2 p2 f2=> ?_;have E:∀i,i∈Z.KN::Z.m->i∈Z.KN::Z.wd::Z.KL::Z.aN::Z.m:=λi e=>by
  rcases aR e with e|e
  ·exact e▸ai
  ·exact .tail _ (.tail _ (.tail _ (.tail _ e)))
 have mS:=f2.get J (f1.get (λe=>J (E _ e)) l10);have hh:nl.head? =some nl[0]:=by induction nl with|nil=>contradiction|cons a r=>rfl
 have e0:(nl.map λa:Nat=>V.int a)[0]? =some (.int (nl[0]:Nat)):=by rw [ko,bZ h0];rfl
 have a0:=ha _ (List.getElem_mem h0);refine D_ (Z:=(Z.wU G).snap s2 D (ctx 20) true hb hg) (c:=20) (a0:=nl[0]) (l:=AX) (U:=G) (oq 139 hM) (l3.so ((Z.wU G).snap s2 D (ctx 20) true hb hg) 20 I rfl rfl) rfl rfl (λe=>J (E _ e)) e0 (oo 0xc00000000003d090fe82e2081 a0) _ _ s2 D (λp hp=>⟨(yv p hp).1,(yv p hp).2,l3.ax ((Z.wU G).snap s2 D (ctx 20) true hb hg) I rfl rfl p hp⟩) mS h2 (λy hy hu=>p2.mem (bi1 y hy hu)) Y (by show G.length+1200*3<=26000;exact oo 0x1a9012c79c802ac0512a04b0f31002 A k) λs3 ts3 U3 cE dD h3 bi3 hU3 F p3 f3=> ?_;have F:U3.length<=G.length+1200*3:=F;refine lZ (oq 141 (by exact sA _) hn)<|kq ⟨aa rfl,oq 141 (by exact sA _) hn⟩<|MQ (nl:=nl) hM l3.toL3 hn ha (λs4 x t j c=>q s4) nl.length 0 (((Z.wU G).snap s2 D (ctx 20) true hb hg).wU U3) s3 ts3 _ _ _ _ (oo 0x300b101) ⟨I,rfl,rfl,rfl,h3,ap2.wU,bi3,hU3,J,(f3.get (λe=>J (E _ e)) mS)⟩ (by show U3.length+_<=26000;exact oo 0x3494b06495025879e400520258f38b01650156014500961e61004 A hn k F)
end
def yX (k:Nat):Kz:=⟨k,k+1,k+2,k+3,k+4,k+5,U0⟩
theorem CC {l:List Nat} (h:l.Nodup):(l.map (k+·)).Nodup:=List.Pairwise.map _ (λ_ _ n e=>n (Nat.add_left_cancel e)) h
theorem m8.toKt (h:m8 s k):Kt (yX k) s fK:=
 ⟨h.a,h.b,h.c,h.d,h.e,h.f,aa rfl,aa rfl,aF _,λt j=>oD t ((show∀t∈fK,t∈G0 by decide) t j),Ra,df BE (aa rfl),CC (l:= [0,1,2,3,4,5]) (aa rfl)⟩
variable {src:V}
noncomputable def numOf (x:Int):Nat:=(x%1000003).toNat
def iG (sc:List Int):List Nat:=(sc.take 9).map numOf
def gD (sc:List Int):List Nat:=if (iG sc).length=0 then [78132,10000,1950] else iG sc
theorem F1 x:V.int (x%1000003)=V.int (numOf x:Nat):=by have:0<=x%1000003:=Int.emod_nonneg _ (aa rfl);unfold numOf;rw [Int.toNat_of_nonneg this]
theorem JY sc:(gD sc).length<=9/\0<(gD sc).length/\∀a∈gD sc,a<1000003:=by
 unfold gD
 split
 ·decide
 ·refine ⟨by unfold iG;rw [aC,List.length_take];exact oq 143 (by exact sN _ _),Nat.pos_of_ne_zero (by assumption),λa h=> ?_⟩;obtain ⟨x,_,rfl⟩:=g5.mp h;unfold numOf;exact oo 0x33e9114470b4dde4000000001017e3b59be00000000000f4243fa0b1 (by exact sZ _ _ rfl) (by exact sT _)
section
variable {M:Nat}
theorem Ip {k} (h:0<=k/\k<2^60/\sc.length<=100000) (q:∀s',Fr [] s s'->s'[s.length]? =some (.list ((sc.take k.toNat).map .int))->s'.length=s.length+1->Q (.ref s.length) s'):P 10 (sliceTo sc .eV (.int k)) Q s:=by refine ⟨?_⟩;show Tr (if _ then _ else _) Q s;rw [ep h];exact (cG q).h
theorem J3:∀(l:List Int) {Q},eO src all s->Q (l.map λx=>V.int (numOf x:Nat)) s->WC sc M src all [] (.bin .mod (.loc 0) (.lit (.int 1000003))) .nil (l.map .int) Q s:=by
 intro j;induction j with|nil=>intro Q st q;exact g8 st q|cons x l k=>intro Q st q;refine gS st<|bH (aa rfl)<|k st ?_;rw [F1];exact q
end
section
variable {M:Nat}
def rZ:Ss:=match (bo 102) with| .cons a (.cons b (.cons c _))=> .cons a (.cons b (.cons c .nil))|_=> .nil
theorem NZ (t:sc.length<=100000)
 (q:∀pre,pre.length=1\/pre.length=2->R .next [some .eV,some (.ref pre.length),some (.int (gD sc).length),none,none,none,none,none,none,none,none,none,none,none] (pre++ [.list ((gD sc).map λa:Nat=>V.int a)])):
 wSs sc M rZ [some .eV,none,none,none,none,none,none,none,none,none,none,none,none,none] R []:=by
 refine Ip ⟨aa rfl,by decide,t⟩ λA f1 k y=> ?_;obtain ⟨o,rfl⟩:=List.length_eq_one_iff.mp y;cases (aP k:o=_);refine cV k (by rw [aC,List.length_take];exact df (Nat.min_le_right ..) t)<|J3 (sc.take 9) (.inl ⟨k,rfl⟩) ?_;have z:((sc.take 9).map λx=>V.int (numOf x))=(iG sc).map λa:Nat=>V.int a:=by unfold iG;rw [KI];rfl
 rw [z];have j:(iG sc).length<=9:=by unfold iG;rw [aC,List.length_take];exact oq 143 (by exact sN _ _)
 have fit:fits ((iG sc).map λa:Nat=>V.int a).length=true:=by rw [aC];exact gs (oq 58 j)
 show P 15 (if fits _=true then _ else _) _ _;rw [ep fit];refine ⟨(Af ?_).h⟩;apply dW rfl (by rw [aC];exact oq 58 j);rw [aC];refine az (λc=> ?_) λc=> ?_
 ·have en:gD sc= [78132,10000,1950]:=by unfold gD;rw [ep (by exact oo 0xc28060a101 c)]
  refine Af<|dW rfl (ll rfl) ?_;have:=q [.list ((sc.take 9).map .int),.list ((iG sc).map λa:Nat=>V.int a)] (.inr rfl);rw [en] at this;exact this
 ·have en:gD sc=iG sc:=by unfold gD;rw [fm (by exact oo 0xc280680a1201 c)]
  apply dW rfl (by rw [aC];exact oq 58 j);rw [aC];have:=q [.list ((sc.take 9).map .int)] (.inl rfl);rw [en] at this;exact this
end
end Mine
namespace Mine
open PySem PyProof.Rows W
variable {sc:List Int}{n:Nat}{s:St}
section
variable {M:Nat}
noncomputable def xA (L:Nat):List (Nat×V):= [(29,.ref (L+1)),(30,.ref (L+1+6)),(31,.ref (L+1+7)),(20,.ref (L+1+8)),(32,.ref (L+1+9)),(33,.ref (L+1+10)),(34,.int 0)]
noncomputable def vA (L:Nat):List (Nat×V):= [(29,.ref (L+1)),(37,.ref (L+13)),(15,.ref (L+13+1)),(38,.ref (L+13+2)),(17,.ref (L+13+3)),(39,.ref (L+13+4)),(18,.ref (L+13+5)),(35,.ref (L+13+6)),(40,.ref (L+13+7)),(41,.ref L)]
noncomputable def w0 (L:Nat):List (V×V):= [(.str "kt",.ref (L+1)),(.str "made",.ref (L+21))]
structure Objs (L:Nat) (s:St):Prop where
 st:s[L]? =some (.inst 2 (xA L))
 kt:m8 s (L+1)
 nm:s[L+10]? =some (.dict [])
 ho:s[L+12]? =some (.inst 3 (vA L))
 hb:s[L+18]? =some (.dict [])
 hg:s[L+19]? =some (.dict [])
 md:s[L+21]? =some (.dict [])
 w:s[L+22]? =some (.dict (w0 L))
def oG:Ss:=match tl (dr 2 (bo 102)) with| .cons a (.cons b (.cons c _))=> .cons a (.cons b (.cons c .nil))|_=> .nil
def xh (sc:List Int) (n:Nat) (x:V) (s:St):Option ((Fl×ag)×St):=dF sc gl ct (cD sc gl ct ft (n+6)) oG [some .eV,some (.ref (s.length-1)),some x,none,none,none,none,none,none,none,none,none,none,none] s
def q4 (sc:List Int) (n:Nat) (x:V) (s:St):St:=match xh sc n x s with|some (_,s)=>s|none=> []
structure Made (sc:List Int) n x s L:Prop where
 run:xh sc n x s=some ((.next,[some .eV,some (.ref (L-1)),some x,some (.ref L),some (.ref (L+12)),some (.ref (L+22)),none,none,none,none,none,none,none,none]),q4 sc n x s)
 ob:Objs L (q4 sc n x s)
 len:(q4 sc n x s).length=L+23
 nu:(q4 sc n x s)[L-1]? =s[L-1]?
theorem Jf x (j k):Made sc n x [j,k] 2:=by refine ⟨?_,⟨?_,⟨?_,?_,?_,?_,?_,?_⟩,?_,?_,?_,?_,?_,?_⟩,?_,?_⟩<;>kernel_rfl
theorem H7 x (j k t):Made sc n x [j,k,t] 3:=by refine ⟨?_,⟨?_,⟨?_,?_,?_,?_,?_,?_⟩,?_,?_,?_,?_,?_,?_⟩,?_,?_⟩<;>kernel_rfl
end
end Mine
namespace Mine
open PySem
variable {L a wy nu n:Nat}{s:St}{ks:List (Nat×Nat)}{nl:List Nat}{sc:List Int}
def iF (L:Nat) (W:World) (s:St) (wy un up:Nat):Zw:=
 {yX (L+1) with W:=W,C:=C0,KN:=L+21,KM:=L,types:=s.length,KL:=L+12,hb:=L+18,hg:=L+19,td:=λ_=>0,gE:=λ_=>0,gx:=λ_=>0,s0:=s,iN:=fK,wd:=L+22,wy:=wy,un:=un,upd:=up,has:=false,aN:=0,jS:=0}
def nZ (L:Nat) (W:World) (wy un up nu:Nat) (ks:List (Nat×Nat)) (nl:List Nat):List (Nat×O):=
 [(L+22,.dict (gB (w0 L) W.a wy un up)),(up,.dict (ks.map λp=>(V.int p.1,V.ref p.2))),(wy,.dict (jd W.a)),(un,.dict (jq W.a)),(L+12,.inst 3 (vA L)),(L+18,.dict []),(L+19,.dict []),(nu,.list (nl.map λa:Nat=>V.int a))]++ks.map λp=>(p.2,O.list ((W.up p.1).map enc))
section
variable {M:Nat}
theorem Dd {b un up}:hH (iF L ⟨a,b⟩ s wy un up) (gB (w0 L) a wy un up):=by
 refine ⟨λx=>lR (lR (lR (lR (λy=>rfl)))) x,?_,?_,?_,?_,?_,?_⟩
 ·unfold gB;rw [dq,fm (aa rfl),dq,fm (aa rfl),dq,fm (aa rfl),dq,fm (aa rfl)];rfl
 ·unfold gB;rw [dq,fm (aa rfl),dq,fm (aa rfl),dq,fm (aa rfl),dq,fm (aa rfl)];rfl
 ·unfold gB;rw [dq,fm (aa rfl),dq,fm (aa rfl),dq,fm (aa rfl),dq,ep rfl];rfl
 ·unfold gB;rw [dq,fm (aa rfl),dq,ep rfl];rfl
 ·unfold gB;rw [dq,ep rfl];rfl
 ·unfold gB;rw [dq,fm (aa rfl),dq,fm (aa rfl),dq,ep rfl];rfl
theorem OS {un up}:fR (gB (w0 L) a wy un up):=by
 unfold fR;have j:=mj (af:=w0 L) (k:= .str "ways") (v:= .ref wy);have t:=mj (af:=aV (w0 L) (.str "ways") (.ref wy)) (k:= .str "num") (v:= .tup [.int 0,.int (World.num ⟨a,0⟩)]);have y:=mj (af:=aV (aV (w0 L) (.str "ways") (.ref wy)) (.str "num") (.tup [.int 0,.int (World.num ⟨a,0⟩)])) (k:= .str "under") (v:= .ref un);have z:=mj (af:=aV (aV (aV (w0 L) (.str "ways") (.ref wy)) (.str "num") (.tup [.int 0,.int (World.num ⟨a,0⟩)])) (.str "under") (.ref un)) (k:= .str "up") (v:= .ref up);have A:(w0 L).length=2:=rfl;unfold gB
 split
 ·exact oo 0xe09467bc0fb3fd76ed0c0300e62fe4c9005 A j t y z
 ·exact oo 0xe09467bc0fb3fd76ed0c0300e62fe429005 A j t y z
theorem QQ {b un up} (hk:ks.map (·.1)=fy):WS (iF L ⟨a,b⟩ s wy un up) (nZ L ⟨a,b⟩ wy un up nu ks nl) ks:=by refine ⟨⟨_,aA _ ai,Dd⟩,aA _ bn,λp hp=>aS _ (g5.mpr ⟨p,hp,rfl⟩),hk,aA _ ci,aA _ eP⟩
end
variable {s0:St}
section
variable {M:Nat}
theorem MD {b un up} (ob:Objs L s0) (f:Fr [L+22] s0 s) (I:s0.length=L+23) (j:nu<L) (en:s0[nu]? =some (.list (nl.map λa:Nat=>V.int a)))
 (k:L+23<=wy) (t:L+23<=un) (y:s[L+22]? =some (.dict (gB (w0 L) a wy un up))) (z:s[wy]? =some (.dict (jd a))) (A:s[un]? =some (.dict (jq a))) (U:fu ⟨a,b⟩ (L+23) s up ks):
 ∀p∈nZ L ⟨a,b⟩ wy un up nu ks nl,s[p.1]? =some p.2/\p.1≠(iF L ⟨a,b⟩ s wy un up).KM/\p.1∉(iF L ⟨a,b⟩ s wy un up).KN::(iF L ⟨a,b⟩ s wy un up).types::(L+10)::(iF L ⟨a,b⟩ s wy un up).m:=by
 have go:∀{i} {o},s[i]? =some o->(i<L\/L+12<=i/\i≠L+21)->s[i]? =some o/\i≠L/\i∉(L+21)::s.length::(L+10):: [L+1+1,L+1+2,L+1+3,L+1+4,L+1+5]:=λ{i o} e n=>by have:=bE e;refine ⟨e,oo 0x690504c480057cc81203b205805901202 n,λhm=> ?_⟩;replace hm:=AT hm;exact oo 0x35f18fd1ae66f79bde6f79f791b1cb8caa7b2462d18b462d18f53feab19196f5e3ce79cf39ca77fec2dae6f0e533006fa15c3af1010fd0aeea7be1d5724ca099f268ff1cbe94bcd1949c1fa486679618f01483 this n hm
 have D:=U.lu;intro p hp;rcases aG hp with hp|hp
 ·replace hp:=AT hp;rcases hp with rfl|rfl|rfl|rfl|rfl|rfl|rfl|rfl
  ·exact go y (by lia)
  ·exact go U.d (oq 34 D)
  ·exact go z (oq 34 k)
  ·exact go A (oq 34 t)
  ·exact go (f.get (cw (by lia)) ob.ho) (by lia)
  ·exact go (f.get (cw (by lia)) ob.hb) (by lia)
  ·exact go (f.get (cw (by lia)) ob.hg) (by lia)
  ·exact go (f.get (cw (oo 0x71300aec81202 j)) en) (oo 0x612424c02000af9902407640b00b02 j)
 ·obtain ⟨x,E,rfl⟩:=g5.mp hp;obtain ⟨F,J,G⟩:=U.l x E;exact go F (oq 34 G)
end
variable {α:Type}
section
variable {M:Nat}
theorem qm {l r:List α} {x} (h:x∈l):x∈l++r:=aA _ h
theorem N7 {b un up} (k:L+23<=wy) (t:L+23<=un) (hl:L+23<=s.length) (U:fu ⟨a,b⟩ (L+23) s up ks) (nd:∀wk,(L+22,O.dict wk)∈nZ L ⟨a,b⟩ wy un up nu ks nl->fR wk):
 rK (iF L ⟨a,b⟩ s wy un up) (L+10) (nZ L ⟨a,b⟩ wy un up nu ks nl) ks:=by
 have y:=U.lu;refine ⟨⟨vA L,qm jY,⟨rfl,rfl,rfl,rfl,rfl,rfl,rfl,rfl,rfl⟩,ll rfl⟩,qm qg,qm s_,nd,?_,?_,?_⟩
 ·show L+22≠L+12;exact oo 0x674ae91201
 ·show L+12≠L+1;exact oo 0x6048e91201
 ·intro i j;show i≠L+22/\i≠L+12;have j:i∈up::wy::un::(L+18)::(L+19)::L::s.length::ks.map (·.2):=j;simp only [List.mem_cons] at j;rcases j with e|e|e|e|e|e|e|e
  ·exact oq 35 y e
  ·exact oq 35 k e
  ·exact oq 35 t e
  ·exact oo 0xd46240025e6408764092ec812282 e
  ·exact oo 0xd46240027e6408764092ec812282 e
  ·exact oo 0x38989808764092ec812282 e
  ·exact oq 35 hl e
  ·obtain ⟨p,hp,rfl⟩:=g5.mp e;have:=(U.l p hp).2.2;exact oo 0x636c80764092ec812282 this
end
variable {k N:Nat}{R:Fl->ag->St->Prop}{W:World}{o0 o1 o2 o3 o4 o5 o6 o7:Option V}{Q:V->St->Prop}
section
variable {M:Nat}
noncomputable def Ds:S:= .asg 9 (.tup (.cons (.lit (.int 0)) (.cons (.ite (.bin .mod (.idx (.loc 8) (.lit (.int 1))) (.lit (.int 2))) (.bin .add (.idx (.loc 8) (.lit (.int 1))) (.lit (.int 1))) (.bin .sub (.idx (.loc 8) (.lit (.int 1))) (.lit (.int 1)))) .nil)))
theorem sU {i} {l:List Nat} (h:∀x∈l,x<k) (j:i∈l.map (L+·)):i<L+k:=by obtain ⟨x,t,rfl⟩:=g5.mp j;exact Nat.add_lt_add_left (h x t) L
theorem J9 {b} {l:List Nat} (h:(0::l).Nodup) (hk:∀x∈0::l,x<k) (hb:L+k<=b):(L::b::l.map (L+·)).Nodup:=by have ne:∀x∈(0::l).map (L+·),x≠b:=λx j e=>JB _ (i1 (e▸sU hk j) hb);have n1:=bw (CC (k:=L) h);exact JV.mpr ⟨λe=>(aR e).elim (λe=>ne _ ai e) n1.1,JV.mpr ⟨λe=>ne _ (.tail _ e) rfl,n1.2⟩⟩
theorem Qp {r} (q:∀j,j=enc (.p (fG W))->wSs sc M r (gG o0 o1 o2 o3 o4 o5 o6 o7 (some (enc (.p (World.num W)))) (some j) none none none none) R s):
 wSs sc M (.cons Ds r) (gG o0 o1 o2 o3 o4 o5 o6 o7 (some (enc (.p (World.num W)))) none none none none none) R s:=by
 have t:3<=World.num W/\World.num W<=10:=by unfold World.num;exact oq 21 (by exact sD _ _ rfl) (by exact sD _ _ rfl)
 refine ah rfl rfl<|bH (aa rfl)<|az (λc=> ?_) λc=> ?_
 ·apply ah rfl rfl;have e:((World.num W):Int)+1=(fG W):=by unfold fG;rw [ep (by lia)];exact oo 0x60480101981
  exact q _ (ej (λi=>V.tup [.int 0,.int i]) e)
 ·apply ah rfl rfl;have e:((World.num W):Int)-1=(fG W):=by unfold fG;rw [fm (by lia)];exact oo 0x1a020500820209010491000a82808da00202182 (by exact sO _ _) t
  exact q _ (ej (λi=>V.tup [.int 0,.int i]) e)
theorem Lz (hM:3*N+60<=M) (hnl:nl.length<=9/\0<nl.length/\∀a∈nl,a<1000003) (l3:∀W,uA N W) (E:s0.length=L+23) (ob:Objs L s0) (hn:nu<L) (en:s0[nu]? =some (.list (nl.map λa:Nat=>V.int a)))
 (q:∀s',Q (.bool true) s'):
 wSs sc M (dr 5 (tl (bo 102))) (gG o0 (eR nu) (eI nl.length) (eR L) (eR (L+12)) (eR (L+22)) none none none none none none none none) (fin Q) s0:=by
 obtain ⟨I,t,ha⟩:=hnl;have hk:1%nl.length<nl.length:=JM _ t;have e0:(nl.map λa:Nat=>V.int a)[0]? =some (.int (nl[0]:Nat)):=by rw [ko,bZ t];rfl
 have e1:(nl.map λa:Nat=>V.int a)[((1:Int)%(nl.length:Int)).toNat]? =some (.int (nl[1%nl.length]:Nat)):=by rw [show ((1:Int)%(nl.length:Int)).toNat=1%nl.length from rfl,ko,bZ hk];rfl
 have a1:=ha _ (List.getElem_mem hk);have a0:=ha _ (List.getElem_mem t);generalize nl[1%nl.length]=b at e1 a1;generalize nl[0]=a at e0 a0;have m0:0<=((1:Int)%(nl.length:Int)):=Int.emod_nonneg _ (oq 17 t);have m1:((1:Int)%(nl.length:Int))<nl.length:=Int.emod_lt_of_pos _ (oq 11 t);obtain ⟨F,rfl⟩:∃F,M=F+2:=⟨M-2,oo 0x128e0091260638a3c20e76c038716e66a8c103 (by exact sO _ _) hM⟩;refine ce en (aa rfl) e0<|bH (oq 11 t)<|ce en ⟨m0,oq 137 m1 I⟩ e1<|En ob.w (λ_=>rfl) (ll rfl) (oq 144 a0) (oq 144 a1) λj wy un up ks f1 D J hp ew ey eu U hks=> ?_;rw [E] at U D J hp;have K:=MD ob f1 E hn en D J ew ey eu U;have W0:=QQ (s:=j) (L:=L) (a:=a) (b:=b) (wy:=wy) (un:=un) (up:=up) (nu:=nu) (nl:=nl) hks;have hl:=f1.len;have g1:∀{i o},s0[i]? =some o->i≠L+22->j[i]? =some o:=λh n=>f1.get (cw n) h;have hm1:L+21∉ [L+1+1,L+1+2,L+1+3,L+1+4,L+1+5]:=λe=>JB _ (sU (l:= [2,3,4,5,6]) (k:=21) (aa rfl) e);have hw1:L+22∉(L+21):: [L+1+1,L+1+2,L+1+3,L+1+4,L+1+5]:=λe=>JB _ (sU (l:= [21,2,3,4,5,6]) (k:=22) (aa rfl) e);have Y:=Dd (L:=L) (a:=a) (b:=b) (wy:=wy) (un:=un) (up:=up) (s:=j);have hk1:HK (iF L ⟨a,b⟩ j wy un up) j fK:=⟨((ob.kt.fr f1 λi hi=>by replace hi:=aj hi;exact oo 0x6846ec8104d032800c80b02 hi).toKt),⟨[],g1 (i:=L+21) ob.md (oo 0x1c6e900057c91201),[],List.nodup_nil,(λ_=>bg),rfl⟩,hm1,(ye (W:=⟨a,b⟩)).bL,⟨_,ew,Y.1,Y.2.1,Y.2.2.1⟩,hw1⟩;obtain ⟨G,hG⟩:∃G,F+2=G+13:=⟨F-11,oo 0x4a3802449818e290a3f61ced8070ecfcd3818d9103 (by exact sO _ _) hM⟩;rw [hG];refine EO (Z:=iF L ⟨a,b⟩ j wy un up) (nm:=L+10) (fs:=xA L) (g1 (i:=L) ob.st (oo 0x71ba41201)) rfl rfl (ll rfl) rfl hk1 (g1 (i:=L+10) ob.nm (oo 0xe3748891201)) ?_ (λi hi=> ?_) ye oD (q7 _ (aa rfl)) W0 K λs2 ts2 td B K2=> ?_
 ·exact J9 (l:= [10,22,21,1,2,3,4,5,6]) (k:=23) (aa rfl) (aa rfl) (E▸hl:L+23<=j.length)
 ·exact i1 (sU (l:= [22,21,1,2,3,4,5,6]) (k:=23) (aa rfl) hi) (E▸hl:L+23<=j.length)
 have A:=N7 D J (oo 0x2578e25140c27a39003 E hl) U λwk hwk=>by have:=(K _ hwk).1.symm.trans ew;cases this;exact OS
 rw [<-hG];have ew2:=(K2 _ (qm ai:(L+22,O.dict (gB (w0 L) a wy un up))∈nZ L ⟨a,b⟩ wy un up nu ks nl)).1;have mS:=(K2 _ (qm wN:(nu,O.list (nl.map λa:Nat=>V.int a))∈nZ L ⟨a,b⟩ wy un up nu ks nl)).1;have rest:∀tw,tw=enc (.p (fG ⟨a,b⟩))->wSs sc (F+2) (dr 11 (tl (bo 102))) (gG o0 (eR nu) (eI nl.length) (eR L) (eR (L+12)) (eR (L+22)) (some (enc (.a0 75))) (some (enc (.a0 73))) (some (enc (.p (World.num ⟨a,b⟩)))) (some tw) none none none none) (fin Q) s2:=by
  intro tw htw;subst htw;refine HP (Z:=(iF L ⟨a,b⟩ j wy un up).fin s2 ts2 td) (W:=⟨a,b⟩) hM (l3 _) rfl rfl ⟨rfl,rfl,rfl,rfl,(⟨⟨B.hk.kt,.ay,aF _,PK B K2 A,B.hk.md⟩,Mf B K2 W0 A⟩),(Ef B K2 W0 A),?_,λy D=>D,?_,mS⟩ I t ha BE q
  ·intro y D J;have key:∀z∈U0,(match z with| .b y=> !isVal y|_=>true)=true:=by decide
   have:=key _ J;simp only [D] at this;contradiction
  ·show nu∉(L+21)::(L+22)::(L+12)::(td 77+4):: [L+1+1,L+1+2,L+1+3,L+1+4,L+1+5];have:=(B.lo 77 (aa rfl)).1;simp only [List.mem_cons,ba,or_false];lia
 exact eK ew2 (Y.1 _) Y.2.2.2.2.2.2<|Qp rest
end
end Mine
namespace Mine
open PySem
variable {W:World}{h:Nat}{hv:Bool}{s u:Kd}
def wF (h:Nat):List Kd:=look Co h
theorem J6 {x} (j:x∈W.up h):x∈wF h:=iC (p:=λh x=>x∈wF h) (aa rfl) j
noncomputable def F4:List Kd:= [.a0 64,.a0 65,.a0 66,.a0 73]
def FA:List Kd:=F4++F4.map (.a1 69)
def F5:List Kd:=F4++ .a1 72 (.a0 64):: [.a2 70 (.a0 64) (.a0 65)]++FA.map (.a1 69)++F4.map (.a2 70 (.a0 65))
noncomputable def Tp:List Kd:= [.p 12,.a0 2,.a0 3,.a0 5,.a0 6,.a0 67,.a0 68]
theorem JU:∀q∈ol,(q.2∈Tp\/((q.1=64\/q.1=65\/q.1=66\/q.1=73)/\q.2∈F5)\/((q.1=72\/q.1=74)/\q.2= .a1 69 (.v 0)))/\(q.2= .a1 69 (.v 0)\/op q.2=0):=by decide
inductive nM s:Kd->Prop
 |self:nM s s
 |top {u:Kd}:u∈Tp->nM s u
 |arg {w:Kd}:kids s= [w]->ao s=72\/ao s=74->nM s (.a1 69 w)
 |face {u:Kd}:s∈F4->u∈F5->nM s u
theorem Ly {x} (t:lk hv s=true) (k:x∈W.par s):nM s x:=by
 by_cases j:named s=true
 ·rw [eT j] at k;obtain ⟨z,hz,rfl⟩:=g5.mp k;have y:=iC (p:=λh x=>(x∈Tp\/((h=64\/h=65\/h=66\/h=73)/\x∈F5)\/((h=72\/h=74)/\x= .a1 69 (.v 0)))/\(x= .a1 69 (.v 0)\/op x=0)) JU hz;have ha:=eo t j;rcases y.1 with h|⟨h,A⟩|⟨h,rfl⟩
  ·have e:sub (kids s) z=z:=d8 (y.2.resolve_left λe=>by subst e;exact dv h (aa rfl));rw [e];exact .top h
  ·have e:sub (kids s) z=z:=d8 (y.2.resolve_left λe=>by subst e;exact dv A (aa rfl));rw [e];refine .face ?_ A;have:s= .a0 (ao s):=by
    have ha:(kids s).length=0:=by rw [<-ha];rcases h with e|e|e|e<;>rw [e]<;>rfl
    (revert j ha;generalize s=E;intro j ha;induction E using Kd.casesOn<;>first|rfl|(trivial;done)|exact (Nat.succ_ne_zero _ ha).elim)
   rw [this];rcases h with e|e|e|e<;>rw [e]<;>decide
  ·have ha:(kids s).length=1:=by rw [<-ha];rcases h with e|e<;>rw [e]<;>rfl
   obtain ⟨w,D⟩:=List.length_eq_one_iff.mp ha;have e:sub (kids s) (.a1 69 (.v 0))= .a1 69 w:=by rw [D];rfl
   rw [e];exact .arg D h
 ·have key:∀s,lk hv s=true->named s≠true->∀x∈W.par s,x∈Tp:=λs t j x k=>by
   induction s with
   |p n=>rcases mm k with ⟨_,rfl⟩|rfl<;>decide
   |v i=>trivial|ar z=>replace k:=aj k;subst k;decide|b z=>trivial|a0 g=>exact dv rfl j|a1 g z=>exact dv rfl j|a2 g z w=>exact dv rfl j
  exact .top (key s t j x k)
theorem Ep:∀u∈F5++Tp,lk false u=true/\(named u=true->∀q∈wF (ao u),sub (kids u) q∈F5++Tp/\(u∈Tp->sub (kids u) q∈Tp)):=by decide
theorem CK:∀u∈Tp,¬(69<=aJ u/\aJ u<=71):=by decide
theorem zG {x} (k:u∈F5++Tp) (t:x∈W.par u):x∈F5++Tp/\(u∈Tp->x∈Tp):=by
 by_cases j:named u=true
 ·rw [eT j] at t;obtain ⟨z,hz,rfl⟩:=g5.mp t;exact (Ep u k).2 j z (J6 hz)
 ·have hp:u= .p 12:=by
   have:∀u∈F5++Tp,named u=true\/u= .p 12:=by decide
   exact (this u k).resolve_left j
  subst hp;trivial
theorem qQ (k:lk hv s=true) (h:bj W s u):nM s u:=by
 induction h with|refl=>exact .self| @step u x _ j t=>
   induction t with|self=>exact Ly k j|top h=>exact .top ((zG (aS _ h) j).2 h)|arg _ _=>trivial|face hf y=>
    rcases aG (zG (aA _ y) j).1 with h|h
    ·exact .face hf h
    ·exact .top h
variable {y a t:Kd}{C:aM}{α:Type}{road:List (Kd×Kd)}
def wd:Kd->Nat:=Kd.rec (λ_=>1) (λ_=>3) (λ_ a=>a+1) (λ_=>1) (λ_ _ a=>a+1) (λ_ _ _ a b=>max a b+1) λ_ a=>a
def gg (x:Kd):Nat:=3*wd x
def ff (x:Kd):Nat:=if x= .v 0\/x= .v 1 then 7 else if x= .a1 69 (.v 0)\/x= .a2 70 (.v 0) (.a0 64) then 6 else if x∈F4 then gg x+1 else gg x
def CP:List (Kd×Kd):=F4.flatMap λx=>F4.map λy=>(x,.a1 69 y)
theorem AQ x:wd x<=dp x+2:=Kd.rec (λ_=>ro 1 2) (λ_=>g6 3) (λ_ i=>wi i) (λ_=>ro 1 2) (λ_ _ i=>wi i) (λ_ x y i j=>by show max (wd x) (wd y)+1<=max (dp x+1) (dp y+1)+2;exact oo 0x34c9ec9f25d2ff21c2b6417e3b021880ebaedbe185e35d5ec55b031006 (by exact sM _ _) (by exact sM _ _) i j) (λ_ i=>i) x
theorem qA {x}:lk true x=true->y∈kids x->gg y+3<=gg x:=by
 have m:∀{a b},a<=b->3*a+3<=3*(b+1):=λh=>Nat.mul_le_mul_left 3 (wi h);exact x.casesOn (λ_ _ h=>(ba h).elim) (λ_ _ h=>(ba h).elim) (λ_ _ h=>m (aj h▸g6 _)) (λ_ _ h=>(ba h).elim) (λ_ _ _ h=>m (aj h▸g6 _))
  (λ_ _ _ _ h=>m ((jI h).elim (·▸JK _ _) (·▸JP _ _))) λ_=>nf
theorem pS {x}:ff x<=gg x+1/\(x∉F4->ff x<=gg x):=by
 by_cases e:x= .v 0\/x= .v 1
 ·rcases e with rfl|rfl<;>decide
 by_cases j:x= .a1 69 (.v 0)\/x= .a2 70 (.v 0) (.a0 64)
 ·rcases j with rfl|rfl<;>decide
 unfold ff;rw [fm e,fm j];by_cases n:x∈F4
 ·rw [ep n];exact ⟨.refl,λh=>dv n h⟩
 ·rw [fm n];exact ⟨tu _,λ_=> .refl⟩
theorem J4 {x} (_:lk true x=true):ff x<=gg x+1/\(x∉F4->ff x<=gg x)/\ff x<=28\/7<dp x:=by
 by_cases hd:7<dp x
 ·exact .inr hd
 have k:=AQ x;have j:ff x<=3*wd x+1:=pS.1;exact .inl ⟨j,pS.2,oo 0x1282cce39aa2e32814e3402461e000056d6003 j k hd⟩
theorem pP {x} (D:lk true s=true) (j:x∈kids s):ff x<=ff s+2/\(ak x=false->gg x<=ff s+1):=by
 have hk:=qA D j;have E:=(pS (x:=x)).1;by_cases k:s= .v 0\/s= .v 1
 ·rcases k with rfl|rfl<;>trivial
 by_cases z:s= .a1 69 (.v 0)\/s= .a2 70 (.v 0) (.a0 64)
 ·have:∀s∈ [Kd.a1 69 (.v 0),.a2 70 (.v 0) (.a0 64)],∀x∈kids s,ff x<=ff s+2/\(ak x=false->gg x<=ff s+1):=by decide
  exact this s (by rcases z with rfl|rfl<;>decide) x j
 have A:gg s<=ff s:=by
  unfold ff;rw [fm k,fm z]
  split
  ·exact oq 13
  ·exact oq 120
 exact ⟨oo 0x60620026030ac401290004 hk A E,λ_=>oo 0x4d34dc704018c003 hk A⟩
theorem zd:∀s∈F4,ff s=4:=by decide
theorem xk:∀u∈F5,∀x∈kids u,ff x<=6/\gg x<=6/\(gg x<=5\/(∃y∈F4,x= .a1 69 y)/\aJ u=69):=by decide
theorem yh (j:∀i,∀x∈C.ac i,x∈BK) {i} (h:Bd C i a):a∈BK:=by
 induction h with|base h=>exact j _ _ h|step _ h=>exact j _ _ h
theorem gd.el {b} {P:Prop} (h:gd W C s t a b) (G:∀i,s= .v i->Bd C i a->ak a=false->b=t->P) (I:s= .ar a->t= .ar b->P)
 (J:∀u (i:Nat),bj W s u->aJ u=aJ t->69<=aJ u->aJ u<=71->(kids u)[i]? =some a->(kids t)[i]? =some b->ak b=false->P)
 (L:∀u (i:Nat),bj W s u->aJ u=aJ t->69<=aJ u->aJ u<=71->(kids u)[i]? =some b->(kids t)[i]? =some a->ak b=false->P):P:=by
 induction h with|var j k=>exact G _ rfl j k rfl|elem _ _ _=>exact I rfl rfl|co j k z A D E F _=>exact J _ _ j k z A D E F|contra j k z A D E F _=>exact L _ _ j k z A D E F
theorem Hx (hB:∀i,∀x∈C.ac i,x∈BK) {b:Kd} (A:lk true s=true) (F:lk true t=true) (h:gd W C s t a b):
 ff a+gg b<ff s+gg t\/((s,t)∈CP/\ff a+gg b<=ff s+gg t):=by
 refine h.el (λi es E D eb=> ?_) (λes I=> ?_) (λu i E D J L Q G Y=> ?_) (λu i E D J L Q G Y=> ?_)
 ·subst es eb;have hb:a∈BK:=by exact yh hB E
  have k:∀b∈BK,ak b=false->ff b<=6:=by decide
  have k:=k a hb D;have z0:ff (.v i)=7:=by have z1:=(dz A).2;have:i=0\/i=1:=oq 7 z1;rcases this with rfl|rfl<;>rfl
  exact .inl (oo 0x25792fc5ad6f1ea1083 z0 k)
 ·have E:=qA F (I▸ai:b∈kids t);have D:=(pP A (es▸ai:a∈kids s)).1;exact .inl (oq 57 E D)
 ·
  have hb:=qA F (bh G);have j:=bh Q;cases qQ A E with|self=>have z2:=(pP A j).1;exact .inl (oq 57 hb z2)|top h=>exact dv ⟨J,L⟩ (CK _ h)|arg hk _=>replace j:=aj j;have z3:=(pP A (hk▸j▸ai:a∈kids s)).1;exact .inl (oq 57 hb z3)|face hf Z=>have z4:=(xk u Z _ j).1;have z5:=zd s hf;exact .inl (oo 0x1a513340066098552064481084 hb z5 z4)
 ·
  have hb:=qA F (bh G);have j:=bh Q;have ha:=(pS (x:=a)).1;cases qQ A E with|self=>have z6:=(pP A j).2 Y;exact .inl (oq 142 hb ha z6)|top h=>exact dv ⟨J,L⟩ (CK _ h)|arg hk _=>replace j:=aj j;have z7:=(pP A (hk▸j▸ai:b∈kids s)).2 Y;exact .inl (oq 142 hb ha z7)|face hf Z=>
   have k:=xk u Z _ j;have z8:=zd s hf;rcases k.2.2 with k2|⟨⟨y,hy,rfl⟩,k2⟩
   ·exact .inl (by (clear k;exact oo 0x1e9aea45c934a76f9c9a9906be22e1085 hb z8 k2 ha))
   ·have k3:=k.2.1;by_cases ea:a∈F4
    ·refine .inr ⟨?_,by (clear k;exact oo 0x1e9aea45c932ca994c9a9906be22e1005 hb z8 k3 ha)⟩;have I:t= .a1 69 a:=by
      rw [k2] at D;have ha:=vN F (by rw [<-D];decide);have hh:ao t=69:=by have z9:=ha.2.1;(clear ha;exact oo 0x1a91492026284642111 D z9)
      have hn:=eo F ha.1;rw [hh] at hn;induction t with|a0 g=>exact dv hn (by show 1≠0;decide)|a1 g z=>cases (hh:g=69);have:=bh G;replace this:=aj this;rw [this]|a2 g z w=>exact dv hn (by show 1≠2;decide)|_=>cases ha.1
     rw [I];exact List.mem_flatMap.mpr ⟨s,hf,g5.mpr ⟨a,ea,rfl⟩⟩
    ·have z10:=(pS).2 ea;exact .inl (by (clear k;exact oo 0xf4d76f74284994c9a9906be22e1085 hb z8 k3 z10))
theorem jk (j:lk hv s=true) (h:bj W s u):lk hv u=true:=by
 induction h with|refl=>exact j|step _ k z=>exact (mF z k).1
theorem Lg (E:∀i,∀x∈C.ac i,x∈BK) {b:Kd} (z:lk true s=true) (k:lk true t=true) (h:gd W C s t a b):lk true a=true/\lk true b=true:=
 h.el (λ_ _ j _ F=>⟨(i5 _ (yh E j)).2.1,F▸k⟩) (λes G=>⟨dK z (es▸ai),dK k (G▸ai)⟩) (λ_ _ j _ _ _ A D _=>⟨dK (jk z j) (bh A),dK k (bh D)⟩)
  λ_ _ j _ _ _ A D _=>⟨dK k (bh D),dK (jk z j) (bh A)⟩
def left (road:List (Kd×Kd)):Nat:=(CP.filter λp=> !decide (p∈road)).length
theorem Lo {p q} (h:∀x,q x=true->p x=true):∀{l:List α},(l.filter q).length<=(l.filter p).length/\∀x∈l,p x=true->q x=false->(l.filter q).length<(l.filter p).length:=by
 intro D;induction D with|nil=>exact ⟨.refl,(λ_=>bg)⟩|cons a l k=>
  rw [List.filter_cons,List.filter_cons];induction A:p a using Bool.casesOn with
  |false=>
   have eq:q a=false:=by induction eq:q a using Bool.casesOn with|false=>rfl|true=>rw [h a eq] at A;trivial
   rw [eq];refine ⟨k.1,λx j hp z=> ?_⟩;rcases aR j with rfl|j
   ·exact Bool.noConfusion (A.symm.trans hp)
   ·exact k.2 x j hp z
  |true=>
   induction eq:q a using Bool.casesOn with
   |true=>
    refine ⟨wi k.1,λx j hp z=> ?_⟩;rcases aR j with rfl|j
    ·exact Bool.noConfusion (eq.symm.trans z)
    ·exact Nat.succ_lt_succ (k.2 x j hp z)
   |false=>exact ⟨Nat.le_succ_of_le k.1,λ_ _ _ _=>Nat.lt_succ_of_le k.1⟩
theorem EW {p:Kd×Kd} (h:p∉road):left (road++ [p])<=left road/\(p∈CP->left (road++ [p])<left road):=by have f:=Lo (p:=λq=> !decide (q∈road)) (q:=λq=> !decide (q∈road++ [p])) (λx j=>by simp at j⊢;exact j.1) (l:=CP);exact ⟨f.1,λhp=>f.2 p hp (by simp [h]) (by simp)⟩
theorem GO (j:∀i,∀x∈C.ac i,x∈BK):∀n road (s t),lk true s=true->lk true t=true->ff s+gg t+left road<n->Dp W C n road s t:=by
 intro D;induction D with|zero=>intro _ _ _ _ _ h;exact dv h (Nat.not_lt_zero _)|succ n E=>
  intro road s t k z h;by_cases A:(s,t)∈road
  ·exact .inr (.inr (.inl A))
  ·refine .inr (.inr (.inr λa b q=> ?_));have ha:=Lg j k z q;obtain ⟨F,l2⟩:=EW A;refine E _ a b ha.1 ha.2 ?_;rcases Hx j k z q with e|⟨e,G⟩
   ·exact oo 0x13159d11e6043fcb398d280ff85087 h e F
   ·have:=l2 e;exact oo 0x1315b6d9f043e7f0358d280ff85087 h G this
theorem tx (k:∀i,∀x∈C.ac i,x∈BK) (j:lk true s=true) (z:lk true t=true) (ds:dp s<=7) (A:dp t<=7):Dp W C 72 [] s t:=by
 have D:=((J4 j).resolve_right (Nat.not_lt_of_le ds)).2.2;have E:=AQ t;have F:left []=16:=by decide
 refine GO k _ _ s t j z ?_;unfold gg;exact oo 0x3400d801b2489c900b700001cf2000008798200123cc21585084 F D A E
variable {w:Int}{k j n:Nat}{P':Rel}
noncomputable def cp (W:World) (C:aM) (st:Bool):Nat->Rel
 |0=>λ_ _=>False|k+1=>λs t=>s=t\/t= .p 12\/gQ W C st (cp W C st k) s t
noncomputable def LG (W:World) (C:aM) (st:Bool) (s t:Kd):Prop:=∃k,cp W C st k s t
section
variable {st:Bool} {P:Rel}
theorem ek.ask {b} (h:ek C P a b) (q:ak b=false->isVal b=false->P a b->P' a b):ek C P' a b:=
 ⟨h.1,h.2.imp id (by rintro ⟨z,A,D⟩;exact ⟨z,A,q z A D⟩)⟩
theorem cP.ask {x} (h:cP C P w x y) (A:ak y=false->isVal y=false->P x y->P' x y) (D:ak x=false->isVal x=false->P y x->P' y x):cP C P' w x y:=
 h.imp id λ⟨E,z⟩=>⟨E,by
  by_cases e:w=2
  ·rw [ep e] at z⊢;exact z.ask D
  ·rw [fm e] at z⊢;exact z.ask A⟩
theorem gQ.ask (h:gQ W C st P s t) (q:∀a b,gd W C s t a b->P a b->P' a b):gQ W C st P' s t:=
 sel.imp (by rintro ⟨u,z,D⟩;exact ⟨u,z,D.imp id (by rintro ⟨A,E,F,Q⟩;exact ⟨A,E,F,λi x y G I=>(Q i x y G I).ask (λJ L p=>q _ _ (.co z A E F G I J L) p) λJ L p=>q _ _ (.contra z A E F G I J L) p⟩)⟩)
  (λ_ e h=>h.imp id (by rintro ⟨b,z,D,A⟩;exact ⟨b,z,D,q _ _ (e▸ .var z D) A⟩)) (λ_ _ e Y h=>h.imp (by rintro ⟨z,D⟩;exact ⟨z,D.ask λA E F=>q _ _ (e▸Y▸ .elem A E z) F⟩) id) h
theorem gQ.mono (h:gQ W C st P s t) (q:∀a b,P a b->P' a b):gQ W C st P' s t:=h.ask λa b _=>q a b
theorem cp.up:∀{k} {s t},cp W C st k s t->cp W C st (k+1) s t:=by
 intro z;induction z with|zero=>intros;trivial|succ _ A=>intro _ _ h;exact h.imp id λh=>h.imp id λh=>h.mono λ_ _=>A
theorem cp.le (h:cp W C st k s t) (hk:k<=j):cp W C st j s t:=by
 induction hk with|refl=>exact h|step _ z=>exact z.up
theorem ek.fin {b} (h:ek C (LG W C st) a b):∃k,ek C (cp W C st k) a b:=by
 obtain ⟨h,z|⟨z,A,k,hk⟩⟩:=h
 ·exact ⟨0,h,.inl z⟩
 ·exact ⟨k,h,.inr ⟨z,A,hk⟩⟩
theorem cP.fin {x} (h:cP C (LG W C st) w x y):∃k,cP C (cp W C st k) w x y:=by
 rcases h with h|⟨h,z⟩
 ·exact ⟨0,.inl h⟩
 ·by_cases e:w=2
  ·rw [ep e] at z;exact z.fin.imp λ_ hk=> .inr ⟨h,by rw [ep e];exact hk⟩
  ·rw [fm e] at z;exact z.fin.imp λ_ hk=> .inr ⟨h,by rw [fm e];exact hk⟩
theorem LG.fold (h:gQ W C st (LG W C st) s t):LG W C st s t:=by
 have:∃k,gQ W C st (cp W C st k) s t:=by
  refine sel.ex
   (λh=> ?_) (λi h=> ?_) (λx y h=> ?_) h
  ·obtain ⟨u,A,D|⟨I,J,L,Q⟩⟩:=h
   ·exact ⟨0,u,A,.inl D⟩
   ·have at':∀i,∃k,∀x y,(kids u)[i]? =some x->(kids t)[i]? =some y->cP C (cp W C st k) (f_ W (ao u) i) x y:=λi=>by
     induction ex:(kids u)[i]? using Option.casesOn with|none=>exact ⟨0,λx y h=>(by trivial)⟩|some x=>
      induction Y:(kids t)[i]? using Option.casesOn with|none=>exact ⟨0,λx y _ h=>(by trivial)⟩|some y=>exact ((Q i x y ex Y).fin).imp λ_ hk=>λx' y' h E=>by injection h with h;subst h;injection E with E;subst E;exact hk
    obtain ⟨Z,h0⟩:=at' 0;obtain ⟨k1,F⟩:=at' 1;refine ⟨max Z k1,u,A,.inr ⟨I,J,L,λi x y z G=> ?_⟩⟩
    match i,z with|0,z=>exact (h0 x y z G).ask (λ_ _ p=>p.le (JK _ _)) λ_ _ p=>p.le (JK _ _)|1,z=>exact (F x y z G).ask (λ_ _ p=>p.le (JP _ _)) λ_ _ p=>p.le (JP _ _)|i+2,z=>have:=(dB z).1;have:=nY u;lia
  ·obtain h|⟨b,A,D,k,hk⟩:=h
   ·exact ⟨0,.inl h⟩
   ·exact ⟨k,.inr ⟨b,A,D,hk⟩⟩
  ·obtain ⟨A,D⟩|h:=h
   ·exact D.fin.imp λ_ hk=> .inl ⟨A,hk⟩
   ·exact ⟨0,.inr h⟩
 obtain ⟨k,h⟩:=this;exact ⟨k+1,.inr (.inr h)⟩
theorem LG.refl:LG W C st s s:=⟨1,.inl rfl⟩
theorem LG.obj:LG W C st s (.p 12):=⟨1,.inr (.inl rfl)⟩
theorem LG.un (h:LG W C st s t):s=t\/t= .p 12\/gQ W C st (LG W C st) s t:=by
 obtain ⟨k,h⟩:=h;induction k with|zero=>exact h.elim|succ k=>exact h.imp id λh=>h.imp id λh=>h.mono λ_ _ h=>⟨k,h⟩
theorem fq.zV:∀{n} {z} {s t},fq W C st n z s t->cp W C st n s t:=by
 intro A;induction A with|zero=>intros;trivial|succ _ D=>intro _ _ _ h;exact h.imp id λh=>h.imp id λh=>h.2.mono λ_ _=>D
theorem fq.full:∀(n k) z (s t),Dp W C n z s t->cp W C st k s t->(∀p∈z,¬cp W C st k p.1 p.2)->fq W C st n z s t:=by
 intro I;induction I with|zero=>intro _ _ _ _ h _ _;exact h.elim|succ n E=>
  intro k z s t hd hk F;have least:∀k,cp W C st k s t->∃j,j<k/\cp W C st (j+1) s t/\¬cp W C st j s t:=λk=>by
   induction k with|zero=>exact λh=>h.elim|succ k E=>
    intro h;by_cases hk:cp W C st k s t
    ·exact (E hk).imp λ_ D=>⟨Nat.lt_succ_of_lt D.1,D.2⟩
    ·exact ⟨k,KH _,h,hk⟩
  obtain ⟨j,D,A,J⟩:=least k hk;have G:(s,t)∉z:=λe=>F _ e hk;rcases A with A|A|A
  ·exact .inl A
  ·exact .inr (.inl A)
  rcases hd with hd|hd|hd|hd
  ·exact .inl hd
  ·exact .inr (.inl hd)
  ·exact dv hd G
  refine .inr (.inr ⟨G,A.ask λa b q p=>E j _ a b (hd a b q) p λr hm=> ?_⟩);rcases aG hm with hm|hm
  ·exact λe=>F r hm (e.le (z' D))
  ·rw [w4] at hm;subst hm;exact J
theorem fq.iff (hd:Dp W C n [] s t):fq W C st n [] s t↔LG W C st s t:=
 ⟨λh=>⟨n,h.zV⟩,(by rintro ⟨k,h⟩;exact fq.full n k [] s t hd h (λ_=>bg))⟩
end
theorem J8:∀q∈ol,(q.1=67\/q.1=68\/q.1=69\/q.1=70)->q.2∈jC:=by decide
theorem xu:∀x∈jC,aX x=true/\op x=0:=by decide
theorem FZ {x}:∀{d},x∈face y d->aX x=true
 |0,h=>(ba h).elim|1,h=>aj h▸rfl|2,h=>aj h▸rfl|3,h=>aj h▸rfl|4,h=>aj h▸rfl|5,h=>aj h▸rfl|6,h=>aj h▸rfl|7,h=>aj h▸rfl|8,h=>aj h▸rfl|_+9,h=>(ba h).elim
theorem Iq:∀y∈(W.up h).tail,aX y=true:=by have m:∀{d},∀y∈more d,aX y=true:=λy j=>(xu y (v8 j)).1;have f:∀{d} {x},∀y∈face x d,aX y=true:=λy j=>FZ j;have n:∀y∈([]),aX y=true:=λy j=>(ba j).elim;have o:∀y∈ [Kd.a1 69 (.v 0)],aX y=true:=λy j=>aj j▸rfl;exact n_.look (P:=λl=>∀y∈l.tail,aX y=true) n ⟨m,m,m,n,n,f,f,f,λy j=>m y (List.mem_of_mem_tail j),n,o,f,o,n,n,⟨⟩⟩
theorem u_ {as}:∀y∈((W.up h).map (sub as)).tail,aX y=true:=λy j=>by rw [<-List.map_tail] at j;obtain ⟨z,hz,rfl⟩:=g5.mp j;rw [vI ((j9 (List.mem_of_mem_tail hz)).imp id And.left)];exact Iq z hz
theorem I8:∀y∈(W.par t).tail,aX y=true:=
 Kd.rec (λn=>by
  show∀y∈(if n=13 then [Kd.p 12] else if 1<=n/\n<=11 then [.a0 2] else []).tail,aX y=true
  split
  ·exact λ_=>bg
  ·split<;>exact λ_=>bg) (λ_ _ h=>(ba h).elim) (λ_ _ _ h=>(ba h).elim) (λ_=>u_) (λ_ _ _=>u_) (λ_ _ _ _ _=>u_) (λ_ i=>i) t
theorem Gd {x} (j:x∈W.par t):aX x=true\/W.eN t=some x:=by
 induction e:W.par t using List.casesOn with|nil=>rw [e] at j;trivial|cons a l=>
  rw [e] at j;rcases aR j with rfl|j
  ·induction k:aX x using Bool.casesOn with|true=>exact .inl rfl|false=>right;unfold World.eN;rw [e,hW,k];rfl
  ·exact .inl (I8 x (by rw [e];exact j))
theorem Hf {x} (j:aX u=true) (k:x∈W.par u):aX x=true:=by
 have key:∀{h} {as},67<=h->h<=70->x∈(W.up h).map (sub as)->aX x=true:=λ{h as} A D k=>by obtain ⟨z,hz,rfl⟩:=g5.mp k;have:=xu z (iC (p:=λh x=>(h=67\/h=68\/h=69\/h=70)->x∈jC) J8 hz (oo 0x340041480010900109001012010120149249012010020949249492490020949249002090020900209002379000010fc80008de42421300113c84c0043f21301 A D));rw [d8 this.2];exact this.1
 induction u with|a0 g=>exact key (kI.1 j).1 (kI.1 j).2 k|a1 g y=>exact key (kI.1 j).1 (kI.1 j).2 k|a2 g y z=>exact key (kI.1 j).1 (kI.1 j).2 k|_=>trivial
theorem dU.eU (h:dU W t u):aX u=true:=by
 induction h with|base h=>obtain ⟨_,_,h⟩:=h;exact (JG.mp h).2|step _ h=>exact (JG.mp h).2
theorem Ch.sup (h:Ch W t u):bj W t u:=by
 induction h with|refl=>exact .refl|step _ e j=>exact .step j (me e).1
theorem dU.sup (h:dU W t u):bj W t u:=by
 induction h with|base h=>obtain ⟨w,j,k⟩:=h;exact .step j.sup (JG.mp k).1|step _ h z=>exact .step z (JG.mp h).1
theorem bj.split (h:bj W t u):Ch W t u\/dU W t u:=by
 induction h with|refl=>exact .inl .refl| @step u x _ j z=>
   induction k:aX x using Bool.casesOn with|true=>have hm:=JG.mpr ⟨j,k⟩;exact .inr (z.elim (λh=> .base ⟨u,h,hm⟩) λh=> .step h hm)|false=>
    rcases z with h|h
    ·exact .inl (.step h ((Gd j).resolve_left (by rw [k];decide)))
    ·have:=Hf h.eU j;exact Bool.noConfusion (k.symm.trans this)
theorem bj.box {x} (h:bj W (.b x) u):u= .b x\/bj W x u:=by
 induction h with|refl=>exact .inl rfl|step _ k j=>
  rcases j with rfl|j
  ·exact .inr (.step .refl k)
  ·exact .inr (.step j k)
theorem bj.unbox {x} (h:bj W x u):u=x\/bj W (.b x) u:=by
 induction h with|refl=>exact .inl rfl|step _ k j=>
  rcases j with rfl|j
  ·exact .inr (.step .refl k)
  ·exact .inr (.step j k)
structure Rk t:Prop where
 l:lk true t=true
 v:ak t=false
 n:isVal t=false
theorem Rk.ref (h:Rk t):isRef t=true:=by
 obtain ⟨l,v,n⟩:=h;induction t with|p i=>have l:=lD l;have n:(decide (1<=i)&&decide (i<=11))=false:=n;rw [gs l.1,Bool.true_and] at n;have n:=of_decide_eq_false n;exact bQ (gs (oo 0xd48080e801 n)) (gs (oo 0xd20b500020a62001 l))|v i=>contradiction|ar _=>rfl|b _=>rfl|a0 g=>show (!bF g)=true;rw [show bF g=false from n];rfl|a1 g _=>show (!bF g)=true;rw [show bF g=false from n];rfl|a2 g _ _=>show (!bF g)=true;rw [show bF g=false from n];rfl
theorem y9 (h:isRef t=true):isVal t=false:=by
 induction t with|p i=>simp only [isRef,hQ,H'] at h;show (decide (1<=i)&&decide (i<=11))=false;rw [hI (by exact oo 0xd04b1003a0a520201 h:¬i<=11),Bool.and_false]|a0 g=>exact AZ _▸h|a1 g _=>exact AZ _▸h|a2 g _ _=>exact AZ _▸h|_=>rfl
theorem Rk.rO (h:Rk t):t≠ .p 14:=λe=>by have:=h.l;rw [e] at this;trivial
theorem Rk.FI (h:Rk t):js t=false:=by have:=h.l;induction t using Kd.casesOn<;>first|rfl|trivial
theorem jD {x} (k:lk true x=true):j1 C x↔fQ C x:=by
 induction hv:ak x using Bool.casesOn with|true=>(revert hv;generalize x=j;intro hv;induction j using Kd.casesOn<;>first|exact Iff.rfl|trivial)|false=>
  have z:j1 C x↔isRef x=true:=by (revert hv;generalize x=j;intro hv;induction j using Kd.casesOn<;>first|exact Iff.rfl|trivial)
  have A:fQ C x↔isVal x=false:=by (revert hv;generalize x=j;intro hv;induction j using Kd.casesOn<;>first|exact Iff.rfl|trivial)
  rw [z,A];exact ⟨y9,λh=>Rk.ref ⟨k,hv,h⟩⟩
theorem pU {x} (h:Rk x):bx x=x:=by unfold bx;rw [h.v,h.n];rfl
theorem xg {x} (j:lk true x=true) (h:j1 C x):cy x=bx x:=by
 have:=(jD j).1 h;unfold cy bx;induction hv:ak x using Bool.casesOn with|true=>rfl|false=>
  have:isVal x=false:=by induction x using Kd.casesOn<;>first|exact this|trivial
  rw [this];rfl
theorem wX {P} {x} (k:lk true x=true) (j:Rk t):cj P (bx x) t↔x=t\/t= .p 12\/P (bx x) t:=by
 constructor
 ·rintro (e|⟨_,_,e|⟨_,_,e⟩⟩)
  ·exact .inl (by
    unfold bx at e
    split at e
    ·subst e;cases j.l
    ·exact e)
  ·have:x= .p 14:=by
    unfold bx at e
    split at e
    ·trivial
    ·exact e
   subst this;trivial
  ·exact .inr e
 ·rintro (rfl|e)
  ·exact .inl (pU j)
  ·exact .inr ⟨(by
    cases h:ak x||isVal x with|true=>unfold bx;rw [h];rfl|false=>rw [Bool.or_eq_false_iff] at h;have r:Rk x:=⟨k,h.1,h.2⟩;rw [pU r];exact r.ref),j.ref,.inr ⟨j.rO,j.FI,e⟩⟩
section
variable {st:Bool} {P:Rel} {x:Kd}
theorem sS (n:named u=true) (j:69<=ao u) (k:ao u<=71):isVal u=false:=by
 have:∀g,69<=g->g<=71->bF g=false:=λg j k=>by have:g=69\/g=70\/g=71:=oq 98 j k;rcases this with rfl|rfl|rfl<;>rfl
 induction u using Kd.casesOn<;>first|exact this _ j k|(trivial;done)
theorem uq (h:∀x y,lk true x=true->Rk y->cj P (bx x) y->P' x y) (j:lk true x=true) (E:lk true y=true) (m:jm C P x y):x=y\/ek C P' x y:=by
 obtain ⟨z,⟨k,A⟩|⟨k,A,D⟩⟩:=m
 ·exact A.imp id λb=>⟨(jD j).1 z,.inl ⟨k,b⟩⟩
 ·have r:Rk y:=⟨E,k,y9 A⟩;rw [xg j z] at D;exact .inr ⟨(jD j).1 z,.inr ⟨k,r.n,h _ _ j r D⟩⟩
theorem vE (h:∀x y,lk true x=true->Rk y->P' x y->cj P (bx x) y) (k:lk true x=true) (A:lk true y=true) (m:ek C P' x y):jm C P x y:=by
 obtain ⟨z,j|⟨j,D,E⟩⟩:=m
 ·exact ⟨(jD k).2 z,.inl ⟨j.1,.inr j.2⟩⟩
 ·have r:Rk y:=⟨A,j,D⟩;have c:=(jD k).2 z;exact ⟨c,.inr ⟨j,r.ref,by rw [xg k c];exact h _ _ k r E⟩⟩
theorem Lx (h:∀x y,lk true x=true->Rk y->cj P (bx x) y->P' x y) (z:lk true x=true) (A:lk true y=true) (m:jO C P w x y):cP C P' w x y:=by
 obtain m|⟨D,k⟩:=m
 ·exact .inl m
 ·by_cases e:w=2
  ·replace k:=(ep e).mp k;rcases uq h A z k with j|j
   ·exact .inl j.symm
   ·exact .inr ⟨D,by rw [ep e];exact j⟩
  ·replace k:=(fm e).mp k;rcases uq h z A k with j|j
   ·exact .inl j
   ·exact .inr ⟨D,by rw [fm e];exact j⟩
theorem G4 (h:∀x y,lk true x=true->Rk y->P' x y->cj P (bx x) y) (k:lk true x=true) (z:lk true y=true) (m:cP C P' w x y):jO C P w x y:=by
 obtain m|⟨A,j⟩:=m
 ·exact .inl m
 ·refine .inr ⟨A,?_⟩;by_cases e:w=2
  ·rw [ep e] at j⊢;exact vE h z k j
  ·rw [fm e] at j⊢;exact vE h k z j
noncomputable def Ak (h:Nat):List Kd->Kd
 | []=> .a0 h| [x]=> .a1 h x|x::y::_=> .a2 h x y
theorem CM (h:named u=true):Ak (ao u) (kids u)=u:=by (revert h;generalize u=j;intro h;induction j using Kd.casesOn<;>first|rfl|trivial)
theorem named_eq (j:named u=true) (z:named t=true) (e:ao u=ao t) (k:kids u=kids t):u=t:=
 (CM j).symm.trans ((congr (ej Ak e) k).trans (CM z))
theorem OQ {i} (j:h<69\/71<h):f_ W h i=0:=by
 have:W.cq h= []\/W.cq h= [0]\/W.cq h= [0,0]:=(tL W.Ay).imp id λm=>by
  rcases aR m with e|m
  ·have:=ej Prod.fst e;lia
  rcases aR m with e|m
  ·have:=ej Prod.fst e;lia
  rcases aR m with e|m
  ·have:=ej Prod.fst e;lia
  have q:∀p∈ [(8,[(0:Int)]),(72,[0]),(74,[0]),(77,[0,0])],p.2= [0]\/p.2= [0,0]:=by decide
  exact q _ m
 unfold f_;rcases this with e|e|e<;>rw [e]
 ·rfl
 ·cases i<;>rfl
 ·match i with|0=>rfl|1=>rfl|_+2=>rfl
theorem fX (h:named u=true):aJ u=ao u:=by (revert h;generalize u=j;intro h;induction j using Kd.casesOn<;>first|rfl|trivial)
theorem gu (h:0<aJ u):named u=true:=by
 induction u with|p _=>exact dv h (by show¬(0:Int)<0;decide)|v _=>exact dv h (by show¬(0:Int)< -2;decide)|ar _=>exact dv h (by show¬(0:Int)< -1;decide)|b _=>exact dv h (by show¬(0:Int)<0;decide)|_=>rfl
theorem zz (h:∀x y,lk true x=true->Rk y->cj P (bx x) y->P' x y) (D:lk true u=true) (E:lk true t=true) (m:eL W C P u t):u=t\/fY W C P' u t:=by
 obtain m|⟨j,k,z,F⟩:=m
 ·exact .inl m
 ·by_cases A:69<=ao u/\ao u<=71
  ·refine .inr ⟨by rw [fX j.1,fX k.1,z],by rw [fX j.1];exact oo 0xd04b900420a021381 A,by rw [fX j.1];exact oo 0xd20b900420a720381 A,λi x y G I=> ?_⟩;exact Lx h (dK D (bh G)) (dK E (bh I)) (F i x y G I)
  ·refine .inl (named_eq j.1 k.1 z ?_);have hl:(kids u).length=(kids t).length:=by rw [<-(eo D j.1),<-(eo E k.1),z]
   refine List.ext_getElem? λi=> ?_;induction ex:(kids u)[i]? using Option.casesOn with|none=>rw [List.getElem?_eq_none_iff,hl] at ex;exact (List.getElem?_eq_none_iff.mpr ex).symm|some x=>
    have li:=(dB ex).1;rw [hl] at li;rw [bZ li];have:=F i x _ ex (bZ li);rw [OQ (by exact oo 0xd04849720084150391420b01 A)] at this;rcases this with e|⟨e,_⟩
    ·rw [e]
    ·exact dv rfl e
theorem yj (h:∀x y,lk true x=true->Rk y->P' x y->cj P (bx x) y) (G:lk true u=true) (I:lk true t=true) (m:u=t\/fY W C P' u t):eL W C P u t:=by
 obtain m|⟨j,k,D,J⟩:=m
 ·exact .inl m
 ·have n1:=gu (u:=u) (oq 9 k);have n2:=gu (u:=t) (oq 14 k j);have z:=fX n1;have A:=fX n2;refine .inr ⟨⟨n1,sS n1 (oq 59 k z) (oq 60 z D)⟩,⟨n2,sS n2 (oo 0x3049a44c284e10821 k j A) (oo 0xd29172970c9802672021 A j D)⟩,oq 20 z j A,λi x y E F=> ?_⟩;exact G4 h (dK G (bh E)) (dK I (bh F)) (J i x y E F)
theorem MZ (h:∀x y,lk true x=true->Rk y->cj P (bx x) y->P' x y) (z:lk true x=true) (k:Rk t) (m:dg W C P (bx x) t):∃u,bj W x u/\(u=t\/fY W C P' u t):=by
 obtain ⟨u,j,hm⟩:∃u,bj W (bx x) u/\eL W C P u t:=m.elim (by rintro ⟨u,a,b⟩;exact ⟨u,a.sup,b⟩) (by rintro ⟨_,u,a,b⟩;exact ⟨u,a.sup,b⟩);have j:bj W x u:=by
  unfold bx at j
  split at j
  ·rcases j.box with rfl|j
   ·rcases hm with e|⟨e,_⟩
    ·subst e;cases k.l
    ·cases e.1
   ·exact j
  ·exact j
 exact ⟨u,j,zz h (jk z j) k.l hm⟩
theorem Bf (m:fY W C P u t):aX u=true->aX t=true:=by
 obtain ⟨j,k,D,_⟩:=m;have n1:=gu (u:=u) (oq 9 k);have n2:=gu (u:=t) (oq 14 k j);have e:ao u=ao t:=by have z:=fX n1;have A:=fX n2;exact oq 20 z j A
 rw [u5 n1,u5 n2,e];exact id
theorem Eo (h:∀x y,lk true x=true->Rk y->P' x y->cj P (bx x) y) (F:lk true x=true) (z:Rk t) (hv:ak x=false) (m:∃u,bj W x u/\(u=t\/fY W C P' u t)):dg W C P (bx x) t:=by
 obtain ⟨u,j,hm⟩:=m;have A:=yj h (jk F j) z.l hm;have j:bj W (bx x) u:=by
  unfold bx
  split
  ·rename_i e
   rw [hv,Bool.false_or] at e;refine j.unbox.resolve_left λG=> ?_;subst G;rcases hm with rfl|⟨_,D,I,_⟩
   ·exact Bool.noConfusion (z.n.symm.trans e)
   ·have n:=gu (u:=u) (oq 9 D);have E:=fX n;rw [sS n (oq 59 D E) (oq 60 E I)] at e;trivial
  ·exact j
 rcases j.split with k|k
 ·exact .inl ⟨u,k,A⟩
 ·refine .inr ⟨?_,u,k,A⟩;rcases hm with rfl|hm
  ·exact k.eU
  ·exact Bf hm k.eU
end
section
variable {st:Bool} {P:Rel} {x:Kd}
theorem Au (k:lk true x=true) (hv:ak x=false) (h:cI x=false\/cI t=false):gH W C st P (bx x) t↔dg W C P (bx x) t:=by
 unfold bx
 split
 ·(revert hv;generalize x=j;intro hv;induction j using Kd.casesOn<;>first|exact Iff.rfl|trivial)
 ·induction x with|v _=>trivial|b z=>trivial|ar z=>(revert h;generalize t=j;intro h;induction j using Kd.casesOn<;>first|exact Iff.rfl|(rcases h with h|h<;>trivial))|_=>exact Iff.rfl
theorem Jt (I:bY C) (hl:∀i,∀b,Bd C i b->lk true b=true):∀(k) (x t),lk true x=true->Rk t->cp W C st k x t->cj (MG W C st) (bx x) t:=by
 intro J;induction J with|zero=>intros;trivial|succ k L=>
  intro x t j z h;have A:=L;apply (wX j z).2;rcases h with h|h|h
  ·exact .inl h
  ·exact .inr (.inl h)
  by_cases Q:x=t
  ·exact .inl Q
  refine .inr (.inr (.fold ?_));induction hv:ak x using Bool.casesOn with
  |true=>
   obtain ⟨i,rfl⟩:∃i,x= .v i:=dP hv;obtain m|⟨b,D,G,Y⟩:=h
   ·exact .inl m
   ·have hb:=hl i b D;have r:Rk b:=⟨hb,G,I.qH D⟩;have:=A b t hb z Y;rw [pU r] at this;exact .inr ⟨b,D,G,this⟩
  |false=>
   by_cases ha:cI x=false\/cI t=false
   ·exact (Au j hv ha).2 (Eo A j z hv ((iX hv ha).1 h))
   ·replace ha:=not_or.mp ha;obtain ⟨a,rfl⟩:∃a,x= .ar a:=hY ha.1;obtain ⟨b,rfl⟩:∃a,t= .ar a:=hY ha.2;obtain ⟨E,F⟩|⟨E,F⟩:=h
    ·exact .inr (.inl ⟨(jD (x:=a) j).2 E,vE A j z.l F⟩)
    ·exact .inr (.inr ⟨λe=>E ((jD (x:=a) j).1 e),F⟩)
theorem oC (G:bY C) (hl:∀i,∀b,Bd C i b->lk true b=true) (j:lk true x=true) (z:Rk t):cj (MG W C st) (bx x) t↔LG W C st x t:=by
 refine ⟨λh=> ?_,(by rintro ⟨k,h⟩;exact Jt G hl k x t j z h)⟩;rcases (wX j z).1 h with rfl|rfl|h
 ·exact .refl
 ·exact .obj
 ·refine h (λs t=>∀x,bx x=s->lk true x=true->Rk t->LG W C st x t) (λs t m x e j z=> ?_) x rfl j z;subst e;have A:∀x y,lk true x=true->Rk y->cj (λs t=>∀x,bx x=s->lk true x=true->Rk t->LG W C st x t) (bx x) y->LG W C st x y:=λx y j I m=>by
   rcases (wX j I).1 m with rfl|rfl|m
   ·exact .refl
   ·exact .obj
   ·exact m x rfl j I
  induction hv:ak x using Bool.casesOn with
  |true=>
   obtain ⟨i,rfl⟩:∃i,x= .v i:=dP hv;apply LG.fold;obtain m|⟨b,D,J,L⟩:=m
   ·exact .inl m
   ·have hb:=hl i b D;have r:Rk b:=⟨hb,J,G.qH D⟩;exact .inr ⟨b,D,J,A b t hb z (by rw [pU r];exact L)⟩
  |false=>
   by_cases h:cI x=false\/cI t=false
   ·exact LG.fold ((iX hv h).2 (MZ A j z ((Au j hv h).1 m)))
   ·replace h:=not_or.mp h;obtain ⟨a,rfl⟩:∃a,x= .ar a:=hY h.1;obtain ⟨b,rfl⟩:∃a,t= .ar a:=hY h.2;obtain rfl|⟨E,F⟩|⟨E,F⟩:=m
    ·exact .refl
    ·rcases uq (x:=a) (y:=b) A j z.l F with rfl|e
     ·exact .refl
     ·exact LG.fold (.inl ⟨(jD (x:=a) j).1 E,e⟩)
    ·exact LG.fold (.inr ⟨λe=>E ((jD (x:=a) j).2 e),F⟩)
end
variable {P1 P2:Rel}{c v z:Kd}
section
variable {st:Bool} {P:Rel} {b x:Kd}
theorem dQ (h:lk false x=true):ak x=false:=by (revert h;generalize x=j;intro h;induction j using Kd.casesOn<;>first|rfl|trivial)
theorem oH (h:ak x=false):fQ C x↔isVal x=false:=by (revert h;generalize x=j;intro h;induction j using Kd.casesOn<;>first|exact Iff.rfl|trivial)
theorem bj.trans (h:bj W a b) (j:bj W b c):bj W a c:=by
 induction j with|refl=>exact h|step _ k A=>exact .step A k
theorem bj.same (h:∀x∈W.par b,x∈W.par a) (A:bj W b v):v=b\/bj W a v:=by
 induction A with|refl=>exact .inl rfl|step _ k j=>
  rcases j with rfl|j
  ·exact .inr (.step .refl (h _ k))
  ·exact .inr (.step j k)
theorem Pm:∀q∈ol,69<=q.1/\q.1<=71->op q.2=0:=by decide
theorem Ox (m:fY W C P u b):∀x∈W.par b,x∈W.par u:=λx A=>by obtain ⟨j,k,F,_⟩:=m;have n1:=gu (u:=u) (oq 9 k);have n2:=gu (u:=b) (oq 14 k j);have G:=fX n1;have D:=fX n2;have e:ao u=ao b:=oq 20 G j D;rw [eT n2] at A;rw [eT n1,e];obtain ⟨w,E,rfl⟩:=g5.mp A;have o:=iC (p:=λh x=>69<=h/\h<=71->op x=0) Pm E (oo 0x35140a412412672174898509ce401082a1 k j F D);rw [d8 o];exact g5.mpr ⟨w,E,d8 o⟩
theorem zj (h:bj W a v) (hv:cI v=true):v=a:=by
 cases h with|refl=>rfl|step _ j=>have:=nE j;induction v using Kd.casesOn<;>first|(trivial;done)|(rcases this with h|h<;>trivial)
theorem vF (m:fY W C P u b):cI u=false/\cI b=false:=by
 obtain ⟨A,k,D,_⟩:=m;have n1:=gu (u:=u) (oq 9 k);have n2:=gu (u:=b) (oq 14 k A);constructor
 ·(revert n1;generalize u=j;intro n1;induction j using Kd.casesOn<;>first|rfl|trivial)
 ·(revert n2;generalize b=j;intro n2;induction j using Kd.casesOn<;>first|rfl|trivial)
theorem LG.walk (hv:ak a=false) (j:bj W a v) (m:v=c\/fY W C (LG W C st) v c):LG W C st a c:=by
 by_cases h:cI a=false\/cI c=false
 ·exact LG.fold ((iX hv h).2 ⟨v,j,m⟩)
 ·rw [not_or,Bool.not_eq_false,Bool.not_eq_false] at h;rcases m with rfl|m
  ·rw [zj j h.2];exact .refl
  ·have:=(vF m).2;exact Bool.noConfusion (h.2.symm.trans this)
theorem y_ x:isVal (twin (W.cu x))=isVal x:=by
 have v:∀{h},h=75\/h=76->bF h=true:=λe=>by rcases e with rfl|rfl<;>rfl
 have n:named x=true->isVal x=bF (ao x):=x.casesOn (λ_=>nf) (λ_=>nf) (λ_=>nf) (λ_ _=>rfl) (λ_ _ _=>rfl) (λ_ _ _ _=>rfl) λ_=>nf;rw [q5 (P:=λy z=>isVal z=isVal y) rfl rfl rfl rfl (λ_=>rfl)];exact uU (P:=λy=>isVal y=isVal x) (λh e=>(vK mB.1).trans ((n h).trans (v (.inl e))).symm) (λh e=>(vK mB.2).trans ((n h).trans (v (.inr e))).symm) rfl
theorem wZ (k:ak y=false) (hz:ak z=false) (q:P1 x y->P2 y z->P x z) (A:ek C P1 x y) (D:ek C P2 y z):ek C P x z:=by
 obtain ⟨a1,⟨a2,_⟩|⟨a2,I,E⟩⟩:=A
 ·exact Bool.noConfusion (k.symm.trans a2)
 obtain ⟨J,⟨j,_⟩|⟨j,F,G⟩⟩:=D
 ·exact Bool.noConfusion (hz.symm.trans j)
 exact ⟨a1,.inr ⟨j,F,q E G⟩⟩
theorem EP (I:ak x=false) (E:ak y=false) (hz:ak z=false) (q:P1 x y->P2 y z->P x z) (J:P2 z y->P1 y x->P z x) (F:∀a b,P1 a b->P a b) (G:∀a b,P2 a b->P a b)
 (k:cP C P1 w x y) (D:cP C P2 w y z):cP C P w x z:=by
 rcases k with rfl|⟨k,j⟩
 ·exact D.ask (λ_ _=>G _ _) λ_ _=>G _ _
 rcases D with rfl|⟨D,A⟩
 ·refine .inr ⟨k,?_⟩;by_cases e:w=2
  ·rw [ep e] at j⊢;exact j.ask λ_ _=>F _ _
  ·rw [fm e] at j⊢;exact j.ask λ_ _=>F _ _
 refine .inr ⟨k,?_⟩;by_cases e:w=2
 ·rw [ep e] at j A⊢;exact wZ E I J A j
 ·rw [fm e] at j A⊢;exact wZ E hz q j A
theorem cp.trans:∀(n m k) (a b c),m+k<=n->lk false a=true->lk false b=true->lk false c=true->cp W C st m a b->cp W C st k b c->LG W C st a c:=by
 intro n;induction n with
 |zero=>
  intro m;induction m with|zero=>exact λ_ _ _ _ _ _ _ _ h _=>h.elim|succ m=>exact λk a b c hn=>dv hn (oo 0x18580450202)
 |succ n IH=>
  intro m;induction m with
  |zero=>exact λ_ _ _ _ _ _ _ _ h _=>h.elim|succ m=>
  intro k;induction k with
  |zero=>exact λ_ _ _ _ _ _ _ _ h=>h.elim|succ k=>
  intro a b c hn ha hb J h1 L;have ih:∀{a b c},lk false a=true->lk false b=true->lk false c=true->cp W C st m a b->cp W C st k b c->LG W C st a c:=λha hb J h h'=>IH m k _ _ _ (oo 0x44a5d89c554e961003 hn) ha hb J h h';have ih':∀{a b c},lk false a=true->lk false b=true->lk false c=true->cp W C st k a b->cp W C st m b c->LG W C st a c:=λha hb J h h'=>IH k m _ _ _ (oo 0x44a5d7fa5c0e961003 hn) ha hb J h h';have h1L:LG W C st a b:=⟨_,h1⟩;rcases L with rfl|rfl|L
  ·exact h1L
  ·exact .obj
  have h2L:LG W C st b c:=⟨k+1,.inr (.inr L)⟩;rcases h1 with rfl|rfl|h1
  ·exact h2L
  ·obtain ⟨v,hs,m⟩:=L;have ev:v= .p 12:=by
    clear m;induction hs with|refl=>rfl|step _ F ih=>subst ih;trivial
   subst ev;rcases m with rfl|m
   ·exact .obj
   ·exact dv m.2.1 (aa rfl)
  have va:=dQ ha;have vb:=dQ hb;have vc:=dQ J;by_cases A:cI a=false\/cI b=false
  ·obtain ⟨u,su,j⟩:=(iX va A).1 h1;by_cases I:cI b=false\/cI c=false
   ·obtain ⟨v,Q,G⟩:=(iX vb I).1 L;have mv':v=c\/fY W C (LG W C st) v c:=G.imp id λ⟨D,E,Z,m4⟩=>⟨D,E,Z,λi x y F Y=>(m4 i x y F Y).ask (λ_ _ h=>⟨k,h⟩) λ_ _ h=>⟨k,h⟩⟩;rcases j with rfl|j
    ·exact .walk va (su.trans Q) mv'
    rcases Q.same (Ox j) with rfl|Q
    ·rcases G with rfl|G
     ·exact h1L
     refine .walk va su (.inr ⟨j.1.trans G.1,j.2.1,j.2.2.1,λi x z F hz=> ?_⟩);have lu:=jk ha su;have D:=j.1;have E:=j.2.1;have n1:=gu (u:=u) (oq 9 E);have n2:=gu (u:=v) (oq 14 E D);have e1:=fX n1;have e2:=fX n2;have e:ao u=ao v:=oq 20 e1 D e2;have li:i<(kids v).length:=by rw [<-(eo hb n2),<-e,(eo lu n1)];exact (dB F).1
     have Y:=bZ li;have f2:=G.2.2.2 i _ z Y hz;rw [<-e] at f2;have lx:=dK lu (bh F);have ly:=dK hb (bh Y);have lz:=dK J (bh hz);exact EP (dQ lx) (dQ ly) (dQ lz) (ih lx ly lz) (ih' lz ly lx) (λ_ _ h=>⟨m,h⟩) (λ_ _ h=>⟨k,h⟩) (j.2.2.2 i x _ F Y) f2
    ·exact .walk va (su.trans Q) mv'
   ·rw [not_or,Bool.not_eq_false,Bool.not_eq_false] at I;rcases j with rfl|j
    ·rw [<-zj su I.1];exact h2L
    ·have:=(vF j).2;exact Bool.noConfusion (I.1.symm.trans this)
  ·replace A:=not_or.mp A;obtain ⟨a,rfl⟩:∃x,a= .ar x:=hY A.1;obtain ⟨b,rfl⟩:∃x,b= .ar x:=hY A.2;by_cases hc':cI c=false
   ·obtain ⟨v,Q,G⟩:=(iX vb (.inr hc')).1 L;rcases bj.same (a:= .ar a) (b:= .ar b) (λx F=>F) Q with rfl|Q
    ·rcases G with rfl|G
     ·trivial
     ·have:=(vF G).1;trivial
    ·exact .walk va Q (G.imp id λ⟨D,E,Z,m4⟩=>⟨D,E,Z,λi x y F Y=>(m4 i x y F Y).ask (λ_ _ h=>⟨k,h⟩) λ_ _ h=>⟨k,h⟩⟩)
   ·obtain ⟨c,rfl⟩:∃x,c= .ar x:=hY hc';have nb:=dQ (x:=b) hb;apply LG.fold;obtain ⟨D,E⟩|⟨D,E,Z⟩:=h1
    ·obtain ⟨p1,p2⟩|⟨p1,_⟩:=L
     ·exact .inl ⟨D,wZ nb (dQ (x:=c) J) (ih (a:=a) (b:=b) (c:=c) ha hb J) E p2⟩
     ·obtain ⟨_,⟨q,_⟩|⟨_,q,_⟩⟩:=E
      ·exact Bool.noConfusion (nb.symm.trans q)
      ·exact dv ((oH nb).2 q) p1
    ·obtain ⟨p1,p2⟩|⟨p1,p2,p3⟩:=L
     ·have:=(oH nb).1 p1;rw [<-y_ (W:=W),<-Z,y_] at this;exact dv ((oH (dQ (x:=a) ha)).2 this) D
     ·exact .inr ⟨D,E,Z.trans p3⟩
theorem LG.trans (ha:lk false a=true) (hb:lk false b=true) (D:lk false c=true) (j:LG W C st a b) (A:LG W C st b c):LG W C st a c:=by obtain ⟨m,j⟩:=j;obtain ⟨k,A⟩:=A;exact cp.trans (m+k) m k a b c .refl ha hb D j A
end
structure As (W:World) (C:aM) as:Prop where
 l:∀i,i<2->lk false (sub as (.v i))=true
 bd:∀i b,i<2->Bd C i b->sub as (.v i)=sub as b\/(isVal (sub as b)=false/\LG W C false (sub as (.v i)) (sub as b))
 va:∀i,i<2->Valued C i->isVal (sub as (.v i))=true
 cl:∀i,i<2->rs C i->isVal (sub as (.v i))=false
section
variable {st:Bool} {P:Rel} {b x:Kd} {as:List Kd}
theorem As.lk (A:As W C as) {x}:Mine.lk true x=true->Mine.lk false (sub as x)=true:=
 Kd.rec (λ_ h=>h) (λi h=>A.l i (dz h).2) (λ_ i h=>i h) (λ_ h=>h) (λ_ _ i h=>bQ (aZ h).1 (i (aZ h).2)) (λ_ _ _ i j h=>bQ (bQ (bq h).1.1 (i (bq h).1.2)) (j (bq h).2)) (λ_ _=>nf) x
theorem jP (h:ak x=false):isVal (sub as x)=isVal x/\aJ (sub as x)=aJ x/\ao (sub as x)=ao x/\kids (sub as x)=(kids x).map (sub as)/\named (sub as x)=named x/\isNul (sub as x)=isNul x:=by
 (revert h;generalize x=j;intro h;induction j using Kd.casesOn<;>first|exact ⟨rfl,rfl,rfl,rfl,rfl,rfl⟩|trivial)
theorem Ky:∀q∈ol,op q.2=0\/(q.2= .a1 69 (.v 0)/\(q.1=72\/q.1=74)):=by decide
theorem HU (A:Mine.lk true u=true) (hv:ak u=false) (j:x∈W.par u):sub as x∈W.par (sub as u):=by
 induction k:named u using Bool.casesOn with
 |true=>
  have s:=jP (as:=as) hv;rw [eT k] at j;rw [eT (by rw [s.2.2.2.2.1];exact k),s.2.2.1,s.2.2.2.1];obtain ⟨z,hz,rfl⟩:=g5.mp j;refine g5.mpr ⟨z,hz,?_⟩;rcases iC (p:=λh x=>op x=0\/(x= .a1 69 (.v 0)/\(h=72\/h=74))) Ky hz with o|⟨rfl,o⟩
  ·rw [d8 o,d8 o,d8 o]
  ·have ha:=eo A k;rw [oy o] at ha;obtain ⟨w,D⟩:=List.length_eq_one_iff.mp ha.symm;rw [D];rfl
 |false=>
  have:∀x∈W.par u,x= .p 12\/∃g,x= .a0 g:=λx j=>by
   induction u with|p n=>exact (mm j).imp And.right λe=>⟨2,e⟩|ar y=>exact .inr ⟨5,aj j⟩|v _=>trivial|b _=>trivial|_=>trivial
  have e:sub as x=x:=by rcases this x j with rfl|⟨g,rfl⟩<;>rfl
  rw [e];induction u with|p n=>exact j|ar y=>exact j|v _=>trivial|b _=>trivial|_=>trivial
theorem IS (j:ak x=false) (h:bj W x u):ak u=false:=by
 cases h with
 |refl=>exact j
 |step _ h=>rcases nE h with h|rfl
            ·(revert h;generalize u=k;intro h;induction k using Kd.casesOn<;>first|rfl|trivial)
            ·rfl
theorem Ob (j:Mine.lk true x=true) (hv:ak x=false) (h:bj W x u):bj W (sub as x) (sub as u):=by
 induction h with|refl=>exact .refl|step h k A=>exact .step A (HU (jk j h) (IS hv h) k)
theorem AN {x}:named x=true->(kids x).length=0->op x=0:=x.casesOn (λ_=>nf) (λ_=>nf) (λ_=>nf) (λ_ _ _=>rfl) (λ_ _ _ h=>nomatch h) (λ_ _ _ _ h=>nomatch h) λ_=>nf
theorem u' (j:Mine.lk true x=true):(op x=0/\op (twin (W.cu x))=0)\/twin (W.cu x)=x:=
 uU (P:=λy=>(op x=0/\op (twin y)=0)\/twin y=x) (λn e=> .inl ⟨AN n (by rw [<-eo j n,e];rfl),rfl⟩) (λn e=> .inl ⟨AN n (by rw [<-eo j n,e];rfl),rfl⟩)
  (q5 (P:=λy z=>(op y=0/\op z=0)\/z=y) (.inl ⟨rfl,rfl⟩) (.inl ⟨rfl,rfl⟩) (.inl ⟨rfl,rfl⟩) (.inl ⟨rfl,rfl⟩) (λ_=> .inr rfl) x)
theorem H4 (F:Mine.lk true x=true) (A:Mine.lk true y=true) (e:twin (W.cu x)=twin (W.cu y)):x=y\/(op x=0/\op y=0):=by
 rcases u' F with ⟨k,D⟩|k
 ·rcases u' A with ⟨j,_⟩|j
  ·exact .inr ⟨k,j⟩
  ·rw [e,j] at D;exact .inr ⟨k,D⟩
 ·rcases u' A with ⟨j,E⟩|j
  ·rw [<-e,k] at E;exact .inr ⟨E,j⟩
  ·exact .inl (by rw [<-k,e,j])
theorem GN (A:Mine.lk false c=true) (h:isVal c=true):bj W c (.a0 2):=by
 induction j:named c using Bool.casesOn with
 |true=>
  have e:bF (ao c)=true:=by (revert h j;generalize c=k;intro h j;induction k using Kd.casesOn<;>first|exact h|trivial)
  have hm:sub (kids c) (if fH (ao c)=5 then .a0 3 else .a0 2)∈W.par c:=by rw [eT j];exact g5.mpr ⟨_,((me (t9 (W:=W) e)).1),rfl⟩
  split at hm
  ·exact .step (.step .refl hm) (g5.mpr ⟨.a0 2,ai,rfl⟩)
  ·exact .step .refl hm
 |false=>
  induction c with
  |p n=>
   refine .step .refl ?_;have h:1<=n/\n<=11:=by simpa [isVal] using h
   simp only [World.par];rw [fm (by exact oq 66 h),ep h];exact ai
  |_=>first|(trivial;done)|trivial
theorem As.inner (A:As W C as) (k:Mine.lk true x=true) (F:Mine.lk true y=true) (G:P x y->LG W C false (sub as x) (sub as y)) (h:ek C P x y):sub as x=sub as y\/ek C (LG W C false) (sub as x) (sub as y):=by
 have D:=dQ (A.lk F);have c:fQ C (sub as x):=(oH (dQ (A.lk k))).2 (by
  induction e:ak x using Bool.casesOn with|true=>obtain ⟨i,rfl⟩:∃i,x= .v i:=dP e;exact A.cl i (dz k).2 h.1|false=>rw [(jP e).1];exact (oH e).1 h.1)
 rcases h.2 with ⟨E,j⟩|⟨E,j,I⟩
 ·obtain ⟨i,rfl⟩:∃i,x= .v i:=by (revert j;generalize x=J;intro j;induction J using Kd.casesOn<;>first|exact ⟨_,rfl⟩|trivial)
  exact (A.bd i y (dz k).2 j).imp id (by rintro ⟨L,Q⟩;exact ⟨c,.inr ⟨D,L,Q⟩⟩)
 ·exact .inr ⟨c,.inr ⟨D,by rw [(jP E).1];exact j,G I⟩⟩
theorem As.arg (A:As W C as) {w} (k:Mine.lk true x=true) (D:Mine.lk true y=true) (E:∀x y,Mine.lk true x=true->Mine.lk true y=true->P x y->LG W C false (sub as x) (sub as y)) (h:cP C P w x y):cP C (LG W C false) w (sub as x) (sub as y):=by
 rcases h with rfl|⟨F,j⟩
 ·exact .inl rfl
 ·by_cases e:w=2
  ·replace j:=(ep e).mp j;exact (A.inner D k (E y x D k) j).elim (λe=> .inl e.symm) λh=> .inr ⟨F,by rw [ep e];exact h⟩
  ·replace j:=(fm e).mp j;exact (A.inner k D (E x y k D) j).elim (λe=> .inl e) λh=> .inr ⟨F,by rw [fm e];exact h⟩
theorem As.Hg (A:As W C as) (hl:∀i b,Bd C i b->Mine.lk true b=true):∀(k) (x t),Mine.lk true x=true->Mine.lk true t=true->cp W C false k x t->LG W C false (sub as x) (sub as t):=by
 intro zi;induction zi with|zero=>intros;contradiction|succ k Y=>
  intro x t j E h;rcases h with rfl|rfl|h
  ·exact .refl
  ·exact .obj
  induction hv:ak x using Bool.casesOn with
  |true=>
   obtain ⟨i,rfl⟩:∃i,x= .v i:=dP hv;have F:=(dz j).2;rcases h with ⟨rfl,h⟩|⟨b,h1,h2,h3⟩
   ·exact .walk (dQ (A.l i F)) (GN (A.l i F) (A.va i F h)) (.inl rfl)
   ·have hb:=hl i b h1;have h4:=Y b t hb E h3;rcases A.bd i b F h1 with e|⟨_,e⟩
    ·rw [e];exact h4
    ·exact .trans (A.l i F) (A.lk hb) (A.lk E) e h4
  |false=>
   by_cases ha:cI x=false\/cI t=false
   ·obtain ⟨u,su,mu⟩:=(iX hv ha).1 h;refine .walk (dQ (A.lk j)) (Ob j hv su) ?_;rcases mu with rfl|⟨L,D,Q,m4⟩
    ·exact .inl rfl
    ·have n1:=gu (u:=u) (oq 9 D);have n2:=gu (u:=t) (oq 14 D L);have G:=jP (as:=as) (x:=u) (by (revert n1;generalize u=Z;intro n1;induction Z using Kd.casesOn<;>first|rfl|contradiction));have s2:=jP (as:=as) (x:=t) (by (revert n2;generalize t=Z;intro n2;induction Z using Kd.casesOn<;>first|rfl|contradiction));refine .inr ⟨by rw [G.2.1,s2.2.1];exact L,by rw [G.2.1];exact D,by rw [G.2.1];exact Q,λi x' y' I J=> ?_⟩;rw [G.2.2.2.1,ko,Option.map_eq_some_iff] at I;rw [s2.2.2.2.1,ko,Option.map_eq_some_iff] at J;obtain ⟨x0,e1,rfl⟩:=I;obtain ⟨y0,e2,rfl⟩:=J;rw [G.2.2.1];exact A.arg (dK (jk j su) (bh e1)) (dK E (bh e2)) Y (m4 i x0 y0 e1 e2)
   ·replace ha:=not_or.mp ha;obtain ⟨a,rfl⟩:∃y,x= .ar y:=hY ha.1;obtain ⟨b,rfl⟩:∃y,t= .ar y:=hY ha.2;obtain ⟨_,D⟩|⟨L,D,Q⟩:=h
    ·rcases A.inner (x:=a) (y:=b) j E (Y a b j E) D with e|e
     ·show LG W C false (.ar (sub as a)) (.ar (sub as b));rw [e];exact .refl
     ·exact LG.fold (.inl ⟨e.1,e⟩)
    ·rcases H4 (x:=a) (y:=b) j E Q with rfl|⟨o1,o2⟩
     ·exact .refl
     ·show LG W C false (.ar (sub as a)) (.ar (sub as b));rw [d8 o1,d8 o2];exact LG.fold (.inr ⟨L,D,Q⟩)
end
variable {K L:List Kd}
section
variable {st:Bool} {P:Rel} {b x:Kd} {as:List Kd}
theorem BX (k:isVal x=true) (h:Ch W x u):u=x\/u∈ [Kd.a0 2,.a0 3,.p 12]:=by
 induction h with|refl=>exact .inl rfl| @step u y _ e j=>
   right;rcases j with rfl|j
   ·induction A:named u using Bool.casesOn with
    |true=>
     have hv:bF (ao u)=true:=by (revert k A;generalize u=D;intro k A;induction D using Kd.casesOn<;>first|exact k|trivial)
     rw [C7 A,t9 hv] at e;injection e with e;subst e
     split
     ·exact bn
     ·exact ai
    |false=>
     induction u with
     |p n=>
      rcases mm ((me e).1) with ⟨rfl,rfl⟩|rfl
      ·trivial
      ·decide
     |_=>first|(trivial;done)|trivial
   ·replace j:=fL j;rcases j with rfl|rfl|rfl
    ·injection e with e;subst e;decide
    ·injection e with e;subst e;decide
    ·trivial
theorem E0 (k:lk false x=true) (A:t= .a0 64\/t= .a0 65) (h:LG W C st x t):isVal x=false:=by
 induction hv:isVal x using Bool.casesOn with|false=>rfl|true=>
  have nt:isVal t=false/\aX t=false/\t∉ [Kd.a0 2,.a0 3,.p 12]/\¬69<=aJ t/\t≠ .p 12/\cI t=false:=by rcases A with rfl|rfl<;>decide
  have ne:x≠t:=λe=>by rw [e,nt.1] at hv;cases hv
  rcases h.un with h|h|h
  ·exact dv h ne
  ·exact dv h nt.2.2.2.2.1
  ·obtain ⟨u,su,rfl|j⟩:=(iX (dQ k) (.inr nt.2.2.2.2.2)).1 h
   ·rcases su.split with h|h
    ·rcases BX hv h with h|h
     ·exact dv h.symm ne
     ·exact dv h nt.2.2.1
    ·rw [h.eU] at nt;cases nt.2.1
   ·exact dv (j.1▸j.2.1) nt.2.2.2.1
theorem AI (l:∀i,i<2->lk false (sub as (.v i))=true) {x}:lk true x=true->lk false (sub as x)=true:=
 Kd.rec (λ_ h=>h) (λi h=>l i (dz h).2) (λ_ i h=>i h) (λ_ h=>h) (λ_ _ i h=>bQ (aZ h).1 (i (aZ h).2)) (λ_ _ _ i j h=>bQ (bQ (bq h).1.1 (i (bq h).1.2)) (j (bq h).2)) (λ_ _=>nf) x
theorem Nn (I:dI C) (l:∀i,i<2->lk false (sub as (.v i))=true)
 (m:∀i,i<2->(C.ca i=1->isVal (sub as (.v i))=false)/\(C.ca i=2->isVal (sub as (.v i))=true)/\∀k∈C.ac i,sub as (.v i)=sub as k\/(isVal (sub as k)=false/\LG W C false (sub as (.v i)) (sub as k))):As W C as:=by
 have bd:∀i b,i<2->Bd C i b->sub as (.v i)=sub as b\/(isVal (sub as b)=false/\LG W C false (sub as (.v i)) (sub as b)):=λi b A h=>by
  induction h with|base h=>exact (m i A).2.2 _ h| @step j x E J D=>
    have E:=I.var E;rcases (m j E).2.2 x J with e|⟨Q,Y⟩
    ·rw [<-e];exact D
    ·rcases D with D|⟨_,D⟩
     ·rw [D];exact .inr ⟨Q,Y⟩
     ·exact .inr ⟨Q,D.trans (l i A) (l j E) (AI l (I.lk j x J).1) Y⟩
 refine ⟨l,bd,λi A h=> ?_,λi A h=> ?_⟩
 ·rcases h with h|⟨j,F,G⟩
  ·exact (m i A).2.1 h
  ·have:=(m j (I.var F)).2.1 G;rcases bd i _ A F with e|⟨e,_⟩
   ·rw [e];exact this
   ·exact Bool.noConfusion (this.symm.trans e)
 ·rcases h with h|⟨b,F,G⟩
  ·exact (m i A).1 h
  ·have sb:sub as b=b/\isVal b=false:=by rcases G with rfl|rfl<;>exact ⟨rfl,rfl⟩
   rcases bd i b A F with e|⟨_,e⟩
   ·rw [e,sb.1];exact sb.2
   ·rw [sb.1] at e;exact E0 (l i A) G e
abbrev QR (K L:List Kd):Prop:=∀s∈L,s∈K\/(∃x,s= .b x/\(x∈K\/ak x=true))\/(s∈BK/\ .b (.v 0)∈L)
abbrev Lj (C:aM) (K L:List Kd):Prop:=∀i,.b (.v i)∈L->∀b,Bd C i b->ak b=false->b∈L
structure QK (C:aM) (K L:List Kd):Prop where
 bL:∀x∈K,∀y∈kids x,y∈K
 fa:∀y∈FA,y∈K
 lk:∀x∈K,lk true x=true
 kl:∀x∈K,x∈L
 vl:∀i,.v i∈K-> .b (.v i)∈L
 GX:QR K L
 bd:Lj C K L
 len:L.length*K.length<=512
noncomputable def lX (K L:List Kd):List (Kd×Kd):=L.flatMap λs=>K.map λt=>(s,t)
theorem lO:(s,t)∈lX K L↔s∈L/\t∈K:=by
 unfold lX;rw [List.mem_flatMap];constructor
 ·rintro ⟨a,ha,h⟩;obtain ⟨b,hb,e⟩:=g5.mp h;cases e;exact ⟨ha,hb⟩
 ·rintro ⟨j,k⟩;exact ⟨s,j,g5.mpr ⟨t,k,rfl⟩⟩
theorem Q2:∀{L},(lX K L).length=L.length*K.length:=by
 intro j;induction j with|nil=>exact (Nat.zero_mul _).symm|cons s L k=>have:=k;unfold lX at this⊢;rw [List.flatMap_cons,aL,this,aC,iZ,Nat.succ_mul,Nat.add_comm]
theorem CW:∀u∈Tp,kids u= []:=by decide
theorem BA:∀u∈F5,∀z∈kids u,z∈FA:=by decide
theorem Dm:∀s∈BK,(∀z∈kids s,z∈FA\/z= .v 0)/\¬(ao s=72\/ao s=74):=by decide
theorem Pr (j:ak x=true) (h:bj W x u):u=x:=by
 induction h with|refl=>rfl| @step y _ _ A k=>have:=k▸j;induction y using Kd.casesOn<;>first|(trivial;done)|trivial
theorem QK.kids (q:QK C K L) (k:s∈L) (h:bj W s u) (hz:z∈Mine.kids u):z∈K\/(ak z=true/\ .b z∈L):=by
 have gV:∀s∈K,bj W s u->z∈K:=λs k h=>by
  cases qQ (q.lk s k) h with|self=>exact q.bL _ k z hz|top h=>rw [CW _ h] at hz;trivial| @arg w hk _=>replace hz:=aj hz;exact q.bL s k z (hk▸hz▸ai)|face _ hk=>exact q.fa z (BA _ hk z hz)
 rcases q.GX s k with j|⟨x,rfl,j⟩|⟨j,A⟩
 ·exact .inl (gV s j h)
 ·rcases h.box with rfl|h
  ·replace hz:=aj hz;subst hz;exact j.imp id λh=>⟨h,k⟩
  ·rcases j with j|j
   ·exact .inl (gV x j h)
   ·have:=Pr j h;subst this
    (revert j hz;generalize u=D;intro j hz;induction D using Kd.casesOn<;>first|(trivial;done)|trivial)
 ·have hb:=Dm s j;cases qQ (i5 s j).2.1 h with
  |self=>
   rcases hb.1 z hz with e|rfl
   ·exact .inl (q.fa z e)
   ·exact .inr ⟨rfl,A⟩
  |top h=>rw [CW _ h] at hz;trivial|arg _ hk=>exact dv hk hb.2|face _ hk=>exact .inl (q.fa z (BA _ hk z hz))
theorem QK.cy (q:QK C K L) (h:z∈K\/(ak z=true/\ .b z∈L)):cy z∈L:=by
 unfold Mine.cy
 split
 ·rename_i e
  obtain ⟨i,rfl⟩:∃i,z= .v i:=dP e;exact h.elim (q.vl i) And.right
 ·rename_i e
  exact h.elim (q.kl z) λh=>dv h.1 e
theorem QK.right (q:QK C K L) (h:z∈K\/(ak z=true/\ .b z∈L)) (j:isRef z=true):z∈K:=by
 rcases h with h|⟨h,_⟩
 ·exact h
 ·(revert h j;generalize z=k;intro h j;induction k using Kd.casesOn<;>first|(trivial;done)|trivial)
theorem QK.cl (q:QK C K L):fP W C (lX K L):=by
 refine ⟨by rw [Q2];exact q.len,λs t s' I h a k=> ?_⟩;obtain ⟨A,D⟩:=lO.1 h;apply lO.2;induction a with| @elem x y=>exact ⟨q.cy (q.kids (W:=W) A .refl ai),q.bL _ D _ ai⟩|param j G=>exact ⟨q.bd _ A _ j G,D⟩|co j _ E F=>exact ⟨q.cy (q.kids A (j.elim Ch.sup dU.sup) (bh E)),q.bL _ D _ (bh F)⟩|contra j _ E F=>exact ⟨q.cy (.inl (q.bL _ D _ (bh F))),q.right (q.kids A (j.elim Ch.sup dU.sup) (bh E)) k.2.2.1⟩
theorem QK.parts (q:QK C K L) (A:s∈L) (D:t∈K) (h:bj W s u):jB (lX K L) u t:=λi x y E F=>by have j:=q.kids A h (bh E);have k:=q.bL _ D _ (bh F);exact ⟨λ_=>lO.2 ⟨q.cy j,k⟩,λa=>lO.2 ⟨q.cy (.inl k),q.right j a.2.2.1⟩⟩
end
variable {Z:Zw}
section
variable {st:Bool} {P:Rel} {b x:Kd} {as:List Kd}
theorem u9 (j:∀i,∀x∈C.ac i,x∈BK) {i} (h:Bd C i b):b∈BK:=by
 induction h with|base h=>exact j _ _ h|step _ h=>exact j _ _ h
theorem Rk.nul (h:Rk t):isNul t=false:=by
 have e:=h.n;induction t using Kd.casesOn<;>first|rfl|exact (by
  induction j:isNul _ using Bool.casesOn with|false=>rfl|true=>have:=g7.mp j;subst this;trivial)
theorem zL (I:bY C) (hl:∀i,∀b,Bd C i b->lk true b=true) (k:lk false x=true) (hv:isVal x=true) (E:Rk t):oA W C x t↔LG W C false x t:=by
 have nx:=dQ k;have D:=ch k;have ax:cI x=false:=by (revert hv;generalize x=Q;intro hv;induction Q using Kd.casesOn<;>first|rfl|trivial)
 constructor
 ·rintro (rfl|h|⟨_,w,J,Y⟩)
  ·exact .obj
  ·exact .walk nx h.sup (.inl rfl)
  ·exact .walk nx J.sup (zz (λx y k F=>(oC I hl k F).1) (jk D J.sup) E.l Y)
 ·intro h;rcases h.un with rfl|h|h
  ·exact Bool.noConfusion (E.n.symm.trans hv)
  ·exact .inl h
  ·obtain ⟨u,su,j⟩:=(iX nx (.inl ax)).1 h;rcases su.split with A|A
   ·right;left;rcases j with rfl|j
    ·exact A
    ·have G:=j.2.1;have m3:=j.2.2.1;rcases BX hv A with rfl|h
     ·have n:=gu (u:=u) (oq 9 G);have e:=fX n;rw [sS n (oq 59 G e) (oq 60 e m3)] at hv;trivial
     ·have:∀u∈ [Kd.a0 2,.a0 3,.p 12],¬69<=aJ u:=by decide
      exact dv G (this u h)
   ·refine .inr (.inr ⟨?_,u,A,yj (λx y k F h=>(oC I hl k F).2 h) (jk D su) E.l j⟩);rcases j with rfl|j
    ·exact A.eU
    ·exact Bf j A.eU
theorem A1 (I:∀i,∀x∈Z.C.ac i,x∈BK) (D:bY Z.C) (A:lk false x=true) (E:lk false t=true) (Y:dp x<=7) (dt:dp t<=7) (J:isNul t=true->∃k,kids t= [k]/\isVal k=true)
 (q:QK Z.C K L) (F:x∈K) (kt:t∈K) (G: .b x∈L):jw Z 72 x t:=by
 have hl:∀i,∀b,Bd Z.C i b->lk true b=true:=λi b h=>(i5 b (u9 I h)).2.1;have hg:fI Z 72 false x t↔LG Z.W Z.C false x t:=fq.iff (tx I (ch A) (ch E) Y dt);have ka:di t∈K:=by
  unfold di
  split
  ·rename_i e
   obtain ⟨k,hk,_⟩:=J e;apply q.bL t kt _;rw [hk];exact ai
  ·exact kt
 have Q:isVal t=false->Rk t:=λh=>⟨ch E,dQ E,h⟩;refine ⟨⟨lX K L,q.cl,λ_=>lO.2 ⟨q.kl x F,ka⟩,λ_=>lO.2 ⟨G,kt⟩,λw h _=>q.parts (q.kl x F) ka h.sup,λw h _=>q.parts (q.kl x F) kt h.sup⟩,?_,?_⟩
 ·unfold vQ iT;refine and_congr_right λnx=> ?_;induction e:isNul t using Bool.casesOn with
  |true=>
   obtain ⟨k,hk,hv⟩:=J e;have ea:di t=k:=by unfold di;rw [ep e,hk];rfl
   rw [ea,hk];constructor
   ·rintro (rfl|⟨h,_⟩)
    ·exact .inl ⟨rfl,rfl⟩
    ·exact Bool.noConfusion (hv.symm.trans h)
   ·rintro (⟨_,h⟩|⟨h,_⟩)
    ·injection h with h;subst h;exact .inl rfl
    ·trivial
  |false=>
   have ea:di t=t:=by unfold di;rw [e];rfl
   rw [ea,hg];induction ev:isVal t using Bool.casesOn with
   |true=>
    constructor
    ·rintro (h|⟨h,_⟩)
     ·exact .inr ⟨rfl,.inl ⟨rfl,h⟩⟩
     ·trivial
    ·rintro (⟨h,_⟩|⟨_,⟨_,h⟩|⟨h,_⟩⟩)
     ·trivial
     ·exact .inl h
     ·trivial
   |false=>
    have r:=Q ev;have key:LG Z.W Z.C false x t↔x=t\/(isVal x=true/\oA Z.W Z.C x t)\/(isVal x=false/\cj (MG Z.W Z.C false) x t):=by
     induction j:isVal x using Bool.casesOn with|true=>rw [zL D hl A j r];exact ⟨λh=> .inr (.inl ⟨rfl,h⟩),λh=>h.elim (λe=>e▸ .refl) λh=>h.elim And.right λh=>nomatch h.1⟩|false=>have:=oC (W:=Z.W) (st:=false) D hl (ch A) r;rw [pU ⟨ch A,dQ A,j⟩] at this;rw [this];exact ⟨λh=> .inr (.inr ⟨rfl,h⟩),λh=>h.elim (λe=>e▸ .refl) λh=>h.elim (λh=>nomatch h.1) And.right⟩
    rw [key];constructor
    ·rintro (h|⟨_,h⟩)
     ·exact .inr ⟨rfl,.inr ⟨rfl,.inl h⟩⟩
     ·exact .inr ⟨rfl,.inr ⟨rfl,.inr h⟩⟩
    ·rintro (⟨h,_⟩|⟨_,⟨h,_⟩|⟨_,h⟩⟩)
     ·trivial
     ·trivial
     ·exact h.imp id λh=>⟨rfl,h⟩
 ·intro j ev nx;have r:=Q ev;have li:iT Z 72 x t↔LG Z.W Z.C false x t:=by
   unfold iT;rw [hg,r.nul,ev];constructor
   ·rintro ⟨_,⟨h,_⟩|⟨_,⟨h,_⟩|⟨_,h⟩⟩⟩
    ·trivial
    ·trivial
    ·exact h
   ·exact λh=>⟨nx,.inr ⟨rfl,.inr ⟨rfl,h⟩⟩⟩
  rw [li];refine ⟨zL D hl A j r,?_⟩;have:=oC (W:=Z.W) (st:=false) D hl (ch A) r;have eb:bx x= .b x:=by unfold bx;rw [j,Bool.or_true];rfl
  rw [eb] at this;exact this
end
variable {K0:List Kd}{N:Nat}{c0:Kd}
section
variable {st:Bool} {P:Rel} {b x c1:Kd} {as:List Kd}
theorem sH:∀y∈FA,lk false y=true/\∀z∈kids y,z∈FA:=by decide
theorem QK.of (h:∀x∈K0,Mine.lk false x=true/\∀y∈Mine.kids x,y∈K0) (A:K0.length<=14):QK C (K0++FA) (.b x::(K0++FA))\/x∉K0++FA:=by
 by_cases E:x∈K0++FA
 ·left;have k:∀y∈K0++FA,Mine.lk false y=true:=λy j=>(aG j).elim (λF=>(h y F).1) λF=>(sH y F).1;have nb:∀i,.b (.v i)∉ .b x::(K0++FA):=λi D=>by
   rcases aR D with e|D
   ·cases e;have:=k _ E;cases this
   ·have:=k _ D;trivial
  refine ⟨λy j z hz=> ?_,λy j=>aS _ j,λy j=>ch (k y j),λy j=> .tail _ j,λi D=> ?_,λs G=> ?_,λi D=>dv D (nb i),?_⟩
  ·rcases aG j with j|j
   ·exact aA _ ((h y j).2 z hz)
   ·exact aS _ ((sH y j).2 z hz)
  ·have:=k _ D;trivial
  ·rcases aR G with rfl|G
   ·exact .inr (.inl ⟨x,rfl,.inl E⟩)
   ·exact .inl G
  ·rw [iZ,aL];have:FA.length=8:=rfl;have:(K0.length+FA.length+1)*(K0.length+FA.length)<=23*22:=Nat.mul_le_mul (oo 0x6c4020c26d0305002 this A) (oo 0x362010612ec1002 this A);exact oo 0xeeed807a001 this
 ·exact .inr E
theorem QK.yD (h:∀x∈K0,Mine.lk false x=true/\∀y∈Mine.kids x,y∈K0) (j:K0.length<=14) (k:x∈K0):QK C (K0++FA) (.b x::(K0++FA)):=
 (QK.of h j).resolve_right λn=>n (aA _ k)
theorem H0 (l:∀i,i<2->dp (sub as (.v i))<=3) {x}:lk true x=true->dp (sub as x)<=dp x+2:=
 Kd.rec (λ_ _=>ro 1 2) (λi h=>l i (dz h).2) (λ_ i h=>wi (i h)) (λ_ _=>ro 1 2) (λ_ _ i h=>wi (i (aZ h).2)) (λ_ x y i j h=>by have k:=i (bq h).1.2;have A:=j (bq h).2;show max (dp (sub as x)+1) (dp (sub as y)+1)<=max (dp x+1) (dp y+1)+2;exact oo 0x6993d93e4ba5fe43856c82fc76043101d75db7c30bc66a922c0962ad8006 (by exact sM _ _) (by exact sM _ _) k A) (λ_ _=>nf) x
def pO (x:Kd):List Kd:= [bx x,.b (.v 0),.b (.v 1),.a0 67,.a0 68,.a1 69 (.v 0),.a2 70 (.v 0) (.a0 64)]
theorem GW (G:∀i,∀x∈C.ac i,x∈BK) (I:lk true x=true) (J:lk true t=true) (wx:wt x<=4) (iS:wt t<=5):QK C (subs x++subs t++FA) (pO x++(subs x++subs t++FA)):=by
 have A:∀y∈subs x++subs t++FA,lk true y=true:=λy j=>by
  rcases aG j with j|j
  ·rcases aG j with j|j
   ·exact (fB I j).1
   ·exact (fB J j).1
  ·exact ch (sH y j).1
 have xK:x∈subs x++subs t++FA:=aA _ (aA _ (dX x));have F:∀i,i<2-> .b (.v i)∈pO x++(subs x++subs t++FA):=λi E=>by
  have:i=0\/i=1:=oq 7 E;rcases this with rfl|rfl
  ·exact bn
  ·exact ci
 refine ⟨λy j z hz=> ?_,λy j=>aS _ j,A,λy j=>aS _ j,λi E=>F i (dz (A _ E)).2,λs k=> ?_,λi _ b hb hv=> ?_,?_⟩
 ·rcases aG j with j|j
  ·rcases aG j with j|j
   ·exact aA _ (aA _ (iJ j hz))
   ·exact aA _ (aS _ (iJ j hz))
  ·exact aS _ ((sH y j).2 z hz)
 ·rcases aG k with k|k
  ·simp only [pO,List.mem_cons,ba,or_false] at k;have D:=F 0 (aa rfl);rcases k with rfl|rfl|rfl|rfl|rfl|rfl|rfl
   ·unfold bx
    split
    ·exact .inr (.inl ⟨x,rfl,.inl xK⟩)
    ·exact .inl xK
   ·exact .inr (.inl ⟨_,rfl,.inr rfl⟩)
   ·exact .inr (.inl ⟨_,rfl,.inr rfl⟩)
   ·exact .inr (.inr ⟨aa rfl,D⟩)
   ·exact .inr (.inr ⟨aa rfl,D⟩)
   ·exact .inr (.inr ⟨aa rfl,D⟩)
   ·exact .inr (.inr ⟨aa rfl,D⟩)
  ·exact .inl k
 ·have:∀b∈BK,ak b=false->b∈ [Kd.a0 67,.a0 68,.a1 69 (.v 0),.a2 70 (.v 0) (.a0 64)]\/b∈FA:=by decide
  rcases this b (u9 G hb) hv with h|h
  ·exact aA _ (.tail _ (.tail _ (.tail _ h)))
  ·exact aS _ (aS _ h)
 ·rw [aL,aL,aL,jA,jA];have:FA.length=8:=rfl;have e:(pO x).length=7:=rfl;have:((pO x).length+(wt x+wt t+FA.length))*(wt x+wt t+FA.length)<=24*17:=Nat.mul_le_mul (oo 0x7860065010708b4080018f390941004 e this wx iS) (oo 0x55aac5eed4c7d801e4ab85003 this wx iS);exact oo 0x30008f9000c79807a001 this
theorem rV:∀c∈cands,(lk false c=true/\wt c<=2/\dp c<=3)/\(∀k∈ [Kd.v 0,.a0 65,.a1 69 (.v 0),.a0 68],lk false (sub [c,.a0 64] k)=true/\wt (sub [c,.a0 64] k)<=3/\dp (sub [c,.a0 64] k)<=3):=by decide
theorem BV (j:cZ (ctx n) 0 [] c0) (h:cZ (ctx n) 1 [c0] c1):lk false c1=true/\wt c1<=3/\dp c1<=3:=by
 rcases h with h|⟨_,k,hk,rfl⟩|⟨h,_⟩
 ·have:=(rV c1 (aA _ h)).1;exact ⟨this.1,Nat.le_succ_of_le this.2.1,this.2.2⟩
 ·apply (rV c0 (lc j)).2 k;rcases lF hk with ⟨e,_⟩|⟨_,h⟩
  ·trivial
  ·exact py h
 ·trivial
theorem FQ (D:Z.C=ctx n) (E:cZ (ctx n) 0 [] c0) (F:cZ (ctx n) 1 [c0] c1) (j:Meets Z N 0 [c0,c0] c0) (A:Meets Z N 1 [c0,c1] c1):As Z.W (ctx n) [c0,c1]:=by
 have G:=(rV c0 (lc E)).1;have I:=BV E F;have two:∀{p:Nat->Prop},p 0->p 1->∀i,i<2->p i:=λ{p} a b i J=>by
  have:i=0\/i=1:=oq 7 J;rcases this with rfl|rfl
  ·exact a
  ·exact b
 have go:∀{a b},fI Z N false a b->LG Z.W (ctx n) false a b:=λh=>by unfold fI at h;rw [D] at h;exact ⟨N,h.zV⟩
 unfold Meets at j A;rw [D] at j A;refine Nn (sL n) (two G.1 I.1) (two
  ⟨j.1,j.2.1,λk hk=> ?_⟩ ⟨A.1,A.2.1,λk hk=> ?_⟩)
 ·have e:sub [c0,c0] k=sub [c0,c1] k:=by
   rcases lF hk with ⟨_,h⟩|⟨e,_⟩
   ·have:=qF h;replace this:=by simpa only [List.mem_cons,ba,or_false] using this
    rcases this with rfl|rfl|rfl|rfl|rfl<;>rfl
   ·trivial
  rw [<-e];exact (j.2.2 k hk).imp Eq.symm λh=>⟨h.1,go h.2⟩
 ·exact (A.2.2 k hk).imp Eq.symm λh=>⟨h.1,go h.2⟩
def lG (as:List Kd) (x t:Kd):List Kd:=(subs x++subs t).map (sub as)++as.flatMap subs
theorem Q3 (hl:∀c∈as,lk false c=true) (l:∀i,i<2->sub as (.v i)∈as) (F:lk true x=true) (G:lk true t=true):∀y∈lG as x t,lk false y=true/\∀z∈kids y,z∈lG as x t:=by
 have k:∀c∈as,∀y∈subs c,y∈lG as x t:=λc D y j=>aS _ (List.mem_flatMap.mpr ⟨c,D,j⟩);have I:∀i,i<2->lk false (sub as (.v i))=true:=λi J=>hl _ (l i J);intro y j;rcases aG j with j|j
 ·obtain ⟨w,E,rfl⟩:=g5.mp j;have lw:=(aG E).elim (λh=>(fB F h).1) λh=>(fB G h).1;refine ⟨AI I lw,λz hz=> ?_⟩;induction hv:ak w using Bool.casesOn with|true=>obtain ⟨i,rfl⟩:∃i,w= .v i:=dP hv;exact k _ (l i (dz lw).2) z (iJ (dX _) hz)|false=>rw [(jP hv).2.2.2.1] at hz;obtain ⟨z,A,rfl⟩:=g5.mp hz;refine aA _ (g5.mpr ⟨z,?_,rfl⟩);exact JC.mpr ((aG E).imp (λh=>iJ h A) λh=>iJ h A)
 ·obtain ⟨c,D,j⟩:=List.mem_flatMap.mp j;exact ⟨(fB (hl c D) j).1,λz hz=>k c D z (iJ j hz)⟩
theorem xH (j:Z.C=ctx n) (p:kj x t):jh Z 72 x t:=by
 have G:∀i,∀x∈(ctx n).ac i,x∈BK:=λi x h=>jt h;have I:=sL n;have hl:∀i,∀b,Bd (ctx n) i b->lk true b=true:=λi b h=>(i5 b (u9 G h)).2.1;have dx:=nK x;have dt:=nK t;have wx:=p.wx;have iS:=p.iS;have r:Rk t:=⟨p.lt,p.vt,p.rt⟩;have hg:∀st,fI Z 72 st x t↔LG Z.W (ctx n) st x t:=λst=>by unfold fI;rw [j];exact fq.iff (tx G p.lx p.lt (oq 54 wx dx) (oq 140 iS dt))
 have q:=GW G p.lx p.lt p.wx p.iS;refine ⟨⟨_,by rw [j];exact q.cl,λ_=>lO.2 ⟨ai,aA _ (aS _ (dX t))⟩⟩,λst=>by rw [hg,j];exact oC I.ok hl p.lx r,λc0 c1 F J m0 m1=> ?_⟩;rw [j] at F J;have A:=FQ j F J m0 m1;have Q:=(rV c0 (lc F)).1;have Y:=BV F J;have two:∀{p:Nat->Prop},p 0->p 1->∀i,i<2->p i:=λ{p} a b i hi=>by
  have:i=0\/i=1:=oq 7 hi;rcases this with rfl|rfl
  ·exact a
  ·exact b
 have sd:= @H0 (as:= [c0,c1]) (two Q.2.2 Y.2.2);have lx:=A.lk p.lx;have lt:=A.lk p.lt;have D:dp (sub [c0,c1] x)<=7:=by have:=sd p.lx;exact oo 0x1184958fc072010e003 wx dx this
 have E:dp (sub [c0,c1] t)<=7:=by have:=sd p.lt;exact oo 0x1184958fc1b6010e003 iS dt this
 have cl:=Q3 (t:=t) (λc I=>by
  simp only [List.mem_cons,ba,or_false] at I;rcases I with rfl|rfl
  ·exact Q.1
  ·exact Y.1) (two (p:=λi=>sub [c0,c1] (.v i)∈ [c0,c1]) ai bn) p.lx p.lt
 have len:(lG [c0,c1] x t).length<=14:=by unfold lG;rw [aL,aC,aL,jA,jA];show _+(subs c0++(subs c1++ [])).length<=14;rw [hR,aL,jA,jA];exact oo 0x17ae26e9d0a1308bd7c9af5c9eacc8dc349556705006 Q.2 Y.2 wx iS
 have kx:sub [c0,c1] x∈lG [c0,c1] x t:=aA _ (g5.mpr ⟨x,aA _ (dX x),rfl⟩);have kt:sub [c0,c1] t∈lG [c0,c1] x t:=aA _ (g5.mpr ⟨t,aS _ (dX t),rfl⟩);have nt:isNul (sub [c0,c1] t)=false:=by rw [(jP p.vt).2.2.2.2.2];exact r.nul
 have vt:isVal (sub [c0,c1] t)=false:=by rw [(jP p.vt).1];exact p.rt
 refine ⟨⟨oj lx,D⟩,⟨oj lt,E⟩,dQ lx,dQ lt,A1 (by rw [j];exact G) (by rw [j];exact I.ok) lx lt D E (λe=>by exact Bool.noConfusion (nt.symm.trans e)) (QK.yD cl len kx) (aA _ kx) (aA _ kt) ai,λh=>⟨?_,.inr ⟨nt,.inr ⟨vt,?_⟩⟩⟩⟩
 ·induction hv:ak x using Bool.casesOn with
  |true=>
   obtain ⟨i,rfl⟩:∃i,x= .v i:=dP hv;have nn:∀c∈cands,isNul c=false/\∀k∈ [Kd.v 0,.a0 65,.a1 69 (.v 0),.a0 68],isNul (sub [c,.a0 64] k)=false:=by decide
   have n0:=(nn c0 (lc F)).1;have n1:isNul c1=false:=by
    rcases J with h|⟨_,k,hk,rfl⟩|⟨h,_⟩
    ·exact (nn c1 (aA _ h)).1
    ·apply (nn c0 (lc F)).2 k;rcases lF hk with ⟨e,_⟩|⟨_,h⟩
     ·contradiction
     ·exact py h
    ·contradiction
   exact two (p:=λi=>isNul (sub [c0,c1] (.v i))=false) n0 n1 i (dz p.lx).2
  |false=>rw [(jP hv).2.2.2.2.2];exact p.nx
 ·have h:=((hg false).1 h);obtain ⟨k,h⟩:=h;have h:=A.Hg hl k x t p.lx p.lt h;unfold fI;rw [j];exact (fq.iff (tx G (ch lx) (ch lt) D E)).2 h
theorem Ot W:uA 72 W:=by
 have so:∀(Z),(∀i,∀x∈Z.C.ac i,x∈BK)->dI Z.C->SR Z 72:=λZ I j=>⟨j,λs t J Q ds Y=>tx I (ch J) (ch Q) ds Y,aa rfl⟩;have c0:∀i,∀x∈C0.ac i,x∈BK:=(λ_ _=>bg);have F:dI C0:=by
  have nb:∀i x,¬Bd C0 i x:=λi x h=>by
   induction h with|base h=>trivial|step _ h=>trivial
  exact ⟨⟨λ_=>hL _,λi h=>nb i _ h,λ_=>hL _,(λ_ _=>bg)⟩,(λ_ _=>bg),(λ_ _=>bg)⟩
 refine ⟨⟨aa rfl,λZ c D j _=>so Z (by rw [j];exact λi x h=>jt h) (by rw [j];exact sL c),λZ D j _=>so Z (by rw [j];exact c0) (by rw [j];exact F),λZ c x t _ j _ p=>xH j p⟩,λZ D j _ p hp=> ?_,λZ D j _ p hp=> ?_⟩
 ·have hl:=uY p hp;have E:wt p.1<=2/\wt p.2<=2/\(isNul p.2=true->∃k,kids p.2= [k]/\isVal k=true):=by simp only [FX,List.mem_cons,ba,or_false] at hp;rcases hp with rfl|rfl|rfl|rfl|rfl|rfl|rfl|rfl|rfl|rfl|rfl<;>exact ⟨nk rfl,nk rfl,λh=>by first|(trivial;done)|exact ⟨_,rfl,rfl⟩⟩
  have cl:∀y∈subs p.1++subs p.2,lk false y=true/\∀z∈kids y,z∈subs p.1++subs p.2:=λy A=>by
   rcases aG A with A|A
   ·exact ⟨(fB hl.1.1 A).1,λz hz=>aA _ (iJ A hz)⟩
   ·exact ⟨(fB hl.2.1 A).1,λz hz=>aS _ (iJ A hz)⟩
  have G:p.1∈subs p.1++subs p.2:=aA _ (dX _);exact A1 (by rw [j];exact c0) (by rw [j];exact F.ok) hl.1.1 hl.2.1 hl.1.2 hl.2.2 E.2.2 (QK.yD cl (by rw [aL,jA,jA];exact oo 0x3130024018c1002 E.1 E.2.1) G) (aA _ G) (aA _ (aS _ (dX _))) ai
 ·apply xH j;simp only [AX,List.mem_cons,ba,or_false] at hp;rcases hp with rfl|rfl|rfl<;>exact ⟨aa rfl,by decide,aa rfl,aa rfl,aa rfl,aa rfl,aa rfl⟩
end
end Mine
namespace Mine
open PySem
variable {α β:Type}{s:St}{sc:List Int}{L nu:Nat}{Q:V->St->Prop}
noncomputable def Ss.app:Ss->Ss->Ss
 | .nil,b=>b| .cons x r,b=> .cons x (r.app b)
theorem IZ {x} {f:α->M β} {r} (h:Mine.ac x f s=some r):∃a s',x s=some (a,s')/\f a s'=some r:=by
 have h:(match x s with|some (a,s')=>f a s'|none=>none)=some r:=h;induction e:x s using Option.casesOn with|none=>rw [e] at h;trivial|some q=>rw [e] at h;exact ⟨q.1,q.2,rfl,h⟩
theorem Tr.app {cl} {Q} a:∀⦃b⦄⦃ρ⦄⦃s⦄,Tr (dF sc gl ct cl a ρ) (λp s=>p.1= .next/\Tr (dF sc gl ct cl b p.2) Q s) s->Tr (dF sc gl ct cl (a.app b) ρ) Q s:=by
 induction a using Ss.ind with|a=>intro b ρ s h;obtain ⟨p,s',e,j,k⟩:=h;cases e;exact k|c x r y=>
  intro b ρ s h;obtain ⟨p,s',e,j,k⟩:=h;obtain ⟨⟨f,br⟩,D,A,t⟩:=IZ e;refine .ac ⟨_,_,A,?_⟩;induction f with|next=>exact y ⟨p,s',t,j,k⟩|cont=>cases t;cases j|ret v=>cases t;cases j
def rl:Ss:=tl (dr 4 (tl (bo 102)))
theorem Rg:(bo 102)=rZ.app (oG.app rl):=rfl
theorem xF {G} (j:276<=G+6) (m:Made sc G (.int (gD sc).length) s L) (en:s[L-1]? =some (.list ((gD sc).map λa:Nat=>V.int a))) (k:nu=s.length-1) (t:0<L) (q:∀s',Q (.bool true) s'):
 Tr (dF sc gl ct (cD sc gl ct ft (G+6)) oG [some .eV,some (.ref nu),some (.int (gD sc).length),none,none,none,none,none,none,none,none,none,none,none]) (λp s=>p.1= .next/\Tr (dF sc gl ct (cD sc gl ct ft (G+6)) rl p.2) (λp s=>fin Q p.1 p.2 s) s) s:=by
 subst k;refine ⟨_,_,m.run,rfl,?_⟩;exact pT _ _ (Lz j (JY sc) Ot m.len m.ob (Nat.sub_lt t Nat.one_pos) (m.nu.trans en) q)
theorem GG {M} (t:sc.length<=100000) (j:276<=M) (q:∀s',Q (.bool true) s'):Tr (cD sc gl ct ft (M+1) 102 [.eV]) Q []:=by
 obtain ⟨G,rfl⟩:∃G,M=G+6:=⟨M-6,oo 0xd0814104209492400453c8268da6c8102 (by exact sO _ _) j⟩;have w:Tr (dF sc gl ct (cD sc gl ct ft (G+6)) (rZ.app (oG.app rl)) [some .eV,none,none,none,none,none,none,none,none,none,none,none,none,none]) (λp s=>fin Q p.1 p.2 s) []:=by
  refine .app _ (pT (Q:=λf ρ s=>f= .next/\Tr (dF sc gl ct (cD sc gl ct ft (G+6)) (oG.app rl) ρ) (λp s=>fin Q p.1 p.2 s) s) rZ _ (NZ t λpre hp=>⟨rfl,.app _ ?_⟩));rcases hp with hp|hp
  ·obtain ⟨k,rfl⟩:=List.length_eq_one_iff.mp hp;exact xF j (Jf _ k _) rfl rfl (aa rfl) q
  ·obtain ⟨k,y,rfl⟩:∃a b,pre= [a,b]:=match pre,hp with| [a,b],_=>⟨a,b,rfl⟩
   exact xF j (H7 _ k y _) rfl rfl (aa rfl) q
 refine .step w λp s h=> ?_;obtain ⟨f,ρ⟩:=p;induction f with|ret v=>exact .ret h|next=>exact .ret h|cont=>exact .ret h
end Mine
section
open PySem PySem.W PyProof.Rows
set_option maxRecDepth 1000000
set_option maxHeartbeats 8000000
set_option pp.maxSteps 4000
namespace Mine
variable
 {mg mb:Str->Option Value}
 {K:Frag}
 {fa la:Addr}
 {vs:List Value}
 {sc:List Int}
 {R:Result->Shared->Prop}
theorem Ea {w:PySem.World} {s:Shared}
 (G:s.heap.Ns mainGlobals mg) (B:s.heap.Ns builtinsNs mb) (NL:s.heap.NoLimit) (y:∀x:Str,x≠"__name__"->mb x=bootBuiltins x) (X:K.In s.heap) (h:hO (λa=>K.lookup a)=eZ)
 (SL:s.heap.IsList la vs.toArray) (k:IntsAre vs sc) (hl:sc.length<=100000) (hf:mg "law"=some (.ref fa))
 (q:∀t tk,(∀b o,s.heap.get? b=some o->t.get? b=some o)->R (.ok (.ret (.bool true))) {s with heap:=t,toks:=tk}):
 codeAny (model pw w) callerA (Code.call (.ref fa) {pos:= [.ref la]}) R s:=by
 have S:=PZ (prog:=pw) (w:=w) h X G B NL y SL k;have F:=MF (prog:=pw) (w:=w) h X G B NL SL k;have j:fa=aB 102:=by have e:mg "law"=some (.ref (aB 102)):=S.fn 102 rfl;rw [hf] at e;injection e with e;injection e
 subst j;obtain ⟨v,bM,e,hv⟩:=GG (sc:=sc) (M:=276) (Q:=λv _=>v= .bool true) hl (g6 _) λ_=>rfl;rw [hv] at e;refine IM S F 277 (A:=callerA) (c:=⟨[],s⟩) (st:= []) (f:=102) (vs:= [.eV]) (xs:= [.ref la]) ⟨rfl,by decide+kernel,by decide+kernel⟩ ⟨rfl,nofun,nofun,nofun,λ_ _ e=>e⟩ ⟨_,[],rfl,rfl,rfl⟩ ?_;rw [e];intro c' g _ x vr;rw [show x=_ from vr,g.rest];exact q _ _ λb o hb=>g.keep b o hb ((by rintro ⟨_,l,hl,_⟩;exact nomatch hl)) id
end Mine
end
section
open PySem PySem.W PyProof.Rows
set_option maxRecDepth 1000000
set_option maxHeartbeats 8000000
set_option pp.maxSteps 4000
namespace Mine
set_option tactic.hygienic true in
theorem EQ:∀d j,defOf qV g_.row.name=some (d,j)->WalkO qV gN (λ_ _=>True) (λ_ h=>yp h) g_.row.toRowW d j λf vs=>PySem.call f vs:=by
 intro d j y;intro w cr Q mg mb G Y fa o pm cd doc dV kV ho hd hcd hD z hg args vals as A E F I J;refine Ground.open G ?_;intro T B D TE TW
 wrow_args A E F I J
 all_goals (
  first|refine callC_kw (enter_call ?_)|refine enter_call ?_|refine callC_kw (enter_callW ?_)|refine enter_callW ?_|w_how)
 have t:=defOf_name y
 all_goals clear y
 rename_i sc _ _ _ _ _ _ _ la vs _ SL _ _ _ SI _ Z _
 obtain ⟨K,X,hp⟩:=Y;refine Ea (sc:=sc) T.g T.b T.nolimit T.builtins X hp SL SI (by omega) ?_ λh' tk k=> ?_
 ·rw [t] at z;exact z
 ·exact ⟨.inl ⟨_,.bool true,[],rfl,λ_=>rfl,.bool true,by kernel_rfl,λ_=>⟨List.nodup_nil,nofun⟩⟩,.of_keep k,rfl,.of_eq hg⟩
theorem QS:g_.row.toRowW.promised:=⟨[.list []],by kernel_rfl,by kernel_rfl⟩
end Mine
theorem PySem.Challenge.cw_xm0251_01_holds : PySem.Challenge.rw_xm0251_01.Holds :=
 
 holds_law Mine.GS λk=>Mine.M2 k Mine.QS Mine.EQ
end
end
