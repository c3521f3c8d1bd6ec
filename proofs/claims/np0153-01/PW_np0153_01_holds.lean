import PyProof.Rows.All
import KE.KDictOf
import KE.KEqDict
import PySem.Challenge.RW_np0153_01
set_option Elab.async false
set_option linter.all false
set_option bootstrap.genMatcherCode false
set_option genSizeOf false
set_option maxHeartbeats 4000000
set_option genInjectivity false
set_option genCtorIdx false
set_option maxRecDepth 1000000
open PySem PySem.W PySem.Calls PyProof.Rows
open Option hiding any_some
open Nat
open List
namespace Internal
variable {α β α₁ β₁:Type}{a ad:Addr×Option Addr}{c expr hd en:Bool}{p q ap sp pos ip tp cp hp p1 p3 p4 q' q1 q2 q3 q4 q5:Pos}{w:World}{loose ks aj names all:List Str}{Xt:Shared->Bool}{tk t t':Tok}{N M i k n j d ep gi d':Nat}{env:Env}{A:Around}{B:Prop}{m:Str->Option Value}{P R:Result->Shared->Prop}{x y vl vu t0:Value}{xs first:List Value}{ys items fs:Array Value}{it L cl fI:Addr}{o oL:Obj}{h h':Heap}{name M8 info:Str}{Q:Option Value->Shared->Prop}{s ym aN:Shared}{prog:Program}{kvs binds:List (Str×Value)}{sl:Array (Option Value)}{op:Operator}{mt:Bool->Addr->Str->Option Addr}{Q':Flow->Shared->Prop}{pl:Sem Bool}{elts:List PySem.Expr}{target iter:PySem.Expr}{scope sc:Scope}{ts ts₂:List (Option Addr)}{jm:Option Addr}{nm kp:Option Nat}{keep:Nat->Option Nat}{sel:List Nat}{fin:Option Str}{fd:FuncData}
abbrev eY:=List (Str×Addr)
variable {gt:eY}
abbrev du:=List (Str×Str)
variable {cX:List (Str×du)}
abbrev cH:=Value->Shared->Prop
variable {E E' md:cH}
abbrev mE:=Unit->Shared->Prop
def ax:=@PySem.wpAny_bind
def bn:=@PySem.wpAny_pure
def eZ:=@PySem.Heap.get?_push_of_some
def d9:=@List.getElem?_eq_getElem
def dD:=@Bool.and_eq_true
def fw:=@Nat.lt_of_lt_of_le
def aQ:=@Or.elim
def dP:=@List.mem_of_getElem?
def de:=@List.length_append
def gD:=@Nat.add_le_add_right
def cZ:=@Nat.le_of_ble_eq_true
def c5:=@Nat.eq_of_beq_eq_true
def eh:=@List.getD_eq_getElem?_getD
def eO:=@List.getElem?_append_right
def bY:=@Nat.le_add_right
def fz:=@Array.getElem?_toList
def fb:=@List.getElem?_append_left
def eP:=@Nat.add_le_add_left
def cQ:=@decide_eq_true
def df:=@decide_eq_false
def ei:=@Nat.lt_of_le_of_lt
def bq:=@Option.bind_some
def ek:=@decide_eq_true_eq
def cR:=@PySem.wpAny_holding
def cS:=@List.cons.inj
def bP:=@PySem.wpAny_mono
def aS:=@Eq.symm
def cI:=@PySem.Heap.lt_size
def fA:=@Nat.ble_eq_true_of_le
def c6:=@Nat.le_of_eq
def cJ:=@Nat.le_refl
def bA:=@congrArg
def f9:=@of_decide_eq_true
def cT:=@List.length_cons
def gZ:=@PySem.Heap.get?_push_size
def g0:=@Array.length_toList
def iT:=@List.mem_map_of_mem
def cc:=@Nat.ne_of_lt
def lE:=@PySem.wpAny_callSpecial?_slot
def j1:=@PySem.Obj.isFreed_of_fields
def dY:=@PySem.wpAny_field
def dA:=@List.append_nil
def ff:=@List.append_assoc
def bj:=@if_neg
def et:=@Nat.not_lt_zero
def dG:=@List.length_map
def pn:=@Array.getElem?_eq_getElem
def dQ:=@List.length_nil
def fL:=@Nat.zero_add
def jP:=@List.getElem?_set_self
def jQ:=@PySem.wpAny_newObj_type
def j2:=@Bool.false_ne_true
def mF:=@PySem.Heap.get?_update_self
def gJ:=@List.mem_cons_self
def bx:=@if_pos
def lF:=@PySem.Obj.data_mapFields
def g1:=@PySem.wpAny_standAt
def cy:=@Ne.symm
def mG:=@PySem.Heap.SameBut.update
def hY:=@Nat.lt_succ_of_le
def lG:=@PySem.wpAny_loadPart_at
def g2:=@Nat.ne_of_gt
def mH:=@Nat.le_of_succ_le_succ
def j3:=@List.mem_cons_of_mem
def j4:=@List.getElem?_set_ne
def lH:=@PySem.wpAny_call_entry
def hZ:=@List.getElem?_map
def j5:=@PySem.wpAny_setField
def tz:=@Nat.add_sub_cancel_left
def lI:=@PySem.wpAny_loadPart'
def lJ:=@Bool.or_eq_true
def qY:=@beq_eq_false_iff_ne
def mI:=@List.mem_append_left
def jR:=@Nat.sub_self
def tA:=@PySem.wpAny_storeName_local
def qZ:=@Nat.add_right_comm
def ra:=@Int.lt_of_le_of_lt
def rb:=@PySem.wpAny_Call_Name_kw
def pp:=@List.mem_append_right
def tB:=@PySem.callWith_type1
def lK:=@Nat.lt_irrefl
def mJ:=@List.flatMap_append
def jS:=@List.not_mem_nil
def re:=@PySem.wpAny_isInstance
def rf:=@beq_self_eq_true
def lL:=@Nat.lt_succ_self
def lM:=@Nat.succ.inj
def lN:=@Nat.succ_le_succ
def tC:=@Int.toNat_natCast
def ig:=@Option.getD_some
def pr:=@Nat.lt_succ_of_lt
def pw:=@PySem.wpAny_attempt
def j6:=@beq_iff_eq
def rg:=@PySem.isSubtype_stop
def j7:=@List.map_append
def px:=@Nat.le_of_lt
def py:=@List.flatMap_cons
def pz:=@List.nodup_append
def mK:=@List.cons_append
def vS:=@PySem.wpAny_truthy_bool
def rh:=@List.size_toArray
def ri:=@Bool.not_eq_true'
def gg:=@List.map_cons
def rj:=@Nat.not_succ_le_zero
def uF:=@Nat.add_sub_cancel'
def eR:=@Nat.le_succ
def j8:=@PySem.sizeLine_eq
def me:=@Nat.add_comm
def jn:=@PySem.wpAny_rule
def nX:=@Prod.mk.injEq
def nY:=@Bool.and_true
def nZ:=@Nat.le_succ_of_le
def n5:=@Nat.le_of_lt_succ
theorem aw{α:Type _}{a b:α}(h:some a=some b):a=b:=Option.some.inj h
theorem aA{a b c:Nat}(h:a<=b)(k:b<=c):a<=c:=Nat.le_trans h k
local macro_rules | `(tactic| trivial) => `(tactic| kernel_rfl)
noncomputable def bL:Addr:=84
noncomputable def rk(K:Frag)(C:Addr)(name:Str):Bool:=plainGet K C name&&(hasDictIn K C&&(findIn K (.ref C) name==some none))
noncomputable def mL(K:Frag)(C:Addr)(name:Str):Bool:=
 findIn K (.ref C) "__setattr__"==some (some (.builtin "object.__setattr__"))&&(plainOver K C&&(takerIn K C name==some none&&hasDictIn K C))
noncomputable def iU(K:Frag)(C:Addr)(name:Str):Bool:=(findIn K (.ref C) "__getattribute__"==some (some (.builtin "BaseException.__getattribute__"))&&findIn K (.ref C) "__getattr__"==some none)&&(hasDictIn K C&&(findIn K (.ref C) name==some none))
noncomputable def bJ:List Str:=["code","value","errorcode","level","ret","info","is_noted","line","extra"]
noncomputable def defsOf:List PySem.Stmt->List (Arguments×List PySem.Stmt×Scope)
 |[]=>[]
 |s::r=>match s with
  |.FunctionDef _ a b _ _ _ sc _ _ _=>(a,b,sc)::defsOf r
  |.ClassDef _ _ _ b _ _ _ _ _ _ _=>(b.filterMap λs=>match s with|.FunctionDef _ a b _ _ _ sc _ _ _=>some (a,b,sc)|_=>none)++defsOf r
  |_=>defsOf r
noncomputable def aZ:List (Arguments×List PySem.Stmt×Scope):=defsOf PySem.Challenge.pw_np0153_01.main.body
noncomputable def a9:eY:=(([("Raised",84),("error",139),("wrong_args",146),("listing",153),("pick",160),("is_blank",195),("digit",202),("digits_value",209),("base_of",216),("whole_of",223),("check_behind",251),("braced_element",258),("quoted_element",265),("bare_element",272),("find_element",279),("split_list",286),("mode_of",293),("escaped",300),("quote",308),("join_list",315),("code_text",322),("info_of",329),("error_options",336),("options_text",343),("write_quietly",350),("note_caught",357),("tried",364),("code_of",371),("list_or_none",378),("bad_try",385),("handler_at",392),("last_script",399),("clauses_of",406),("fits_handler",413),("handler_for",420),("add_during",425),("handled",432),("run_try",439),("Var",456),("Host",541),("var_in",559),("put_value",566),("SmallHost",697),("_law_take",706),("_law_told",713),("_law_texts",720),("_law_errorcodes",727),("_law_known",732),("_law_end",739),("_law_item",744),("_law_options",749),("_law_handler",756),("_law_fits",763),("_law_wrong",770),("_law_noted",777),("_law_after",782),("_law_due",787),("_law_stands",792),("_law_run",799),("_law_try_is_right",806)]:List (String×Nat)).map λx=>(Str.ofString x.1,x.2))
noncomputable def ce:Arguments×List PySem.Stmt×Scope:=(⟨[],[],none,[],[],none,[]⟩,[],⟨.function,[],false,false,[]⟩)
inductive Kd where
 |fn (i:Nat) (l:Bool)
 |cls (i:Nat) (l:Bool)
 |exc (i:Nat)
noncomputable def kinds:List (Addr×Kd):=[(84,.exc 2),(456,.cls 49 true),(697,.cls 65 false),(139,.fn 5 true),(146,.fn 6 true),(153,.fn 7 true),(160,.fn 8 true),(195,.fn 13 false),(202,.fn 14 false),(209,.fn 15 true),(216,.fn 16 false),(223,.fn 17 true),(251,.fn 21 true),(258,.fn 22 true),(265,.fn 23 true),(272,.fn 24 true),(279,.fn 25 true),(286,.fn 26 true),(293,.fn 27 false),(300,.fn 28 false),(308,.fn 29 true),(315,.fn 30 true),(322,.fn 31 false),(329,.fn 32 false),(336,.fn 33 true),(343,.fn 34 true),(350,.fn 35 false),(357,.fn 36 false),(364,.fn 37 false),(371,.fn 38 true),(378,.fn 39 true),(385,.fn 40 true),(392,.fn 41 true),(399,.fn 42 true),(406,.fn 43 true),(413,.fn 44 true),(420,.fn 45 false),(425,.fn 46 true),(432,.fn 47 false),(439,.fn 48 false),(475,.fn 50 false),(482,.fn 51 false),(503,.fn 54 false),(559,.fn 61 false),(566,.fn 62 false),(609,.fn 67 false),(623,.fn 69 false),(637,.fn 71 false),(706,.fn 80 true),(713,.fn 81 true),(720,.fn 82 true),(727,.fn 83 true),(732,.fn 84 true),(739,.fn 85 true),(744,.fn 86 true),(749,.fn 87 true),(756,.fn 88 true),(763,.fn 89 true),(770,.fn 90 true),(777,.fn 91 false),(782,.fn 92 true),(787,.fn 93 false),(792,.fn 94 false),(799,.fn 95 false),(806,.fn 96 true),(813,.fn 97 false)]
noncomputable def Te:List Addr:=[0,1,2,3,83,84,455,456,540,541,696,697,74,80,81,132,138,139,145,146,152,153,159,160,194,195,201,202,208,209,215,216,222,223,250,251,257,258,264,265,271,272,278,279,285,286,292,293,299,300,301,307,308,314,315,321,322,328,329,335,336,342,343,349,350,356,357,363,364,370,371,377,378,384,385,391,392,398,399,405,406,412,413,419,420,424,425,431,432,438,439,452,453,468,474,475,481,482,502,503,558,559,565,566,588,594,595,608,609,622,623,636,637,705,706,712,713,719,720,726,727,731,732,738,739,743,744,748,749,755,756,762,763,769,770,776,777,781,782,786,787,791,792,798,799,805,806,812,813]
noncomputable def BU(h:Heap):Frag:=Te.filterMap λa=>(h.get? a).map λo=>(a,o)
noncomputable def Ja(h:Heap):Bool:=Te.all λa=>(h.get? a).isSome
noncomputable def yn(K:Frag)(a:Addr)(name:Str):Option Value:=match K.lookup a with
 |some o=>(match o.data with
  |.dict es _=>nsFind es name
  |_=>none)
 |none=>none
noncomputable def pO(K:Frag)(a:Addr):Bool:=match K.lookup a with
 |some o=>(match o.data with
  |.dict es _=>es.all (λe=>match e.key with|.str _ _=>true|_=>false)
  |_=>false)
 |none=>false
noncomputable def Jb(K:Frag):Bool:=match K.lookup 1 with
 |some o=>(match o.data with
  |.dict es _=>es.toList.any λe=>match e.val with|.str _ _=>false|_=>true
  |_=>false)
 |none=>false
noncomputable def M9(d:Data):Option ClassData:=match d with
 |.cls c=>some c
 |_=>none
noncomputable def Jc(K:Frag):Bool:=match (K.lookup 84).bind λo=>(M9 o.data).map λc=>(o,c) with
 |some p=>(p.1.cls== .type "type"&&(p.2.mro== [.ref 84,.type "Exception",.type "BaseException",.type "object"]&&p.2.ns==83))&&(p.2.hasDict&&(!p.2.hasDel&&(p.1.slots.size==6&&p.1.slots[4]? ==some (some (.builtin "Exception.__new__")))))
 |none=>false
noncomputable def attrL:List (Addr×Str):=(bJ.map λn=>(84,n))++((["kind","value","traces","is_busy","is_element","writes"]:List Str).map λn=>(456,n))++((["tools","inline","limit","fuel","depth","spent","epoch","frame","coroutine","vars","commands","firsts"]:List Str).map λn=>(697,n))
noncomputable def LW:eY:=[("tool",482),("run",503),("place",609),("write_var",623),("write",637)]
noncomputable def Na:List Str:=["len","str","ord","list","dict","sum","range","isinstance","tuple","enumerate","Exception"]
noncomputable def tD(K:Frag)(C f:Addr):Bool:=makesIn K C&&(findIn K (.ref C) "__init__"==some (some (.ref f))&&typeIn K (.ref f)==some (.type "function"))
noncomputable def yo(K:Frag):Bool:=(kinds.all λp=>keepIn K (.ref p.1))&&((a9.all λx=>yn K 3 x.1==some (.ref x.2)&&((x.1==("__debug__":Str))==false&&keepIn K (.ref x.2)))&&((Na.all λn=>yn K 3 n==none)&&(((attrL.filter λp=> !beq p.1 84).all λp=>rk K p.1 p.2)&&(((attrL.filter λp=> !beq p.1 84).all λp=>mL K p.1 p.2)&&
 (Jb K&&((Jc K&&bJ.all λn=>iU K 84 n)&&(((pO K 83&&pO K 3)&&(yn K 83 "__setattr__"==none&&(yn K 83 "__init__"==some (.ref 81)&&(bJ.all λn=>yn K 83 n==none))))&&((tD K 456 453&&tD K 697 595)&&
 ((findIn K (.ref 697) "__getattribute__"==some (some (.builtin "object.__getattribute__"))&&(findIn K (.ref 697) "__getattr__"==some none&&(LW.all λp=>findIn K (.ref 697) p.1==some (some (.ref p.2))&&(typeIn K (.ref p.2)==some (.type "function")&&keepIn K (.ref p.2)))))&&
 (specialIn K (.ref 541) "__getattribute__"==some (some (.builtin "type.__getattribute__"))&&(readsIn K 541 (.type "type")&&((match findCls K (.ref 541) (.type "type") "__init__" with|some (.val v)=>v== .ref 475|_=>false)&&(keepIn K (.ref 475)&&typeIn K (.ref 81)==some (.type "function"))))))))))))))
noncomputable abbrev Pk:=Option (Arguments×FuncBody×Scope×Addr×eY×Value×Value×Addr×Bool)
noncomputable def Zy(K:Frag)(fd:FuncData):Bool:=match fd.code with
 |.ref c=>(match K.lookup c with
  |some o=>(match o.data with
   |.fields vs=>(match (vs[1]? :Option Value) with
    |some (.str q _)=>q==fd.qualname
    |_=>false)
   |_=>false)
  |none=>false)
 |_=>false
noncomputable def n6(K:Frag)(a:Addr):Pk:=match K.lookup a with
 |some o=>(match o.data with
  |.func fd=>some (fd.params,fd.body,fd.scope,fd.globals,fd.closure,fd.defaults,fd.kwdefaults,fd.builtins,Zy K fd)
  |_=>none)
 |none=>none
noncomputable abbrev Df:=Arguments×List PySem.Stmt×Scope
noncomputable def rm(d:Df)(dv:Value):Pk:=some (d.1,.stmts d.2.1,d.2.2,mainGlobals,[],dv,.none,builtinsNs,true)
noncomputable def eH(K:Frag)(a:Addr):Option (List Value):=match K.lookup a with
 |some o=>(match o.data with
  |.seq xs _=>some xs.toList
  |_=>none)
 |none=>none
noncomputable def lx:List (Addr×Nat×Option Addr):=[(139,5,some 132),(146,6,none),(153,7,none),(160,8,none),(195,13,none),(202,14,none),(209,15,none),(216,16,none),(223,17,none),(251,21,none),(258,22,none),(265,23,none),(272,24,none),(279,25,none),(286,26,none),(293,27,none),(300,28,none),(308,29,some 301),(315,30,none),(322,31,none),(329,32,none),(336,33,none),(343,34,none),(350,35,none),(357,36,none),(364,37,none),(371,38,none),(378,39,none),(385,40,none),(392,41,none),(399,42,none),(406,43,none),(413,44,none),(420,45,none),(425,46,none),(432,47,none),(439,48,none),(475,50,some 468),(482,51,none),(503,54,none),(559,61,none),(566,62,none),(609,67,none),(623,69,none),(637,71,none),(706,80,none),(713,81,none),(720,82,none),(727,83,none),(732,84,none),(739,85,none),(744,86,none),(749,87,none),(756,88,none),(763,89,none),(770,90,none),(777,91,none),(782,92,none),(787,93,none),(792,94,none),(799,95,none),(806,96,none),(813,97,none),(81,2,some 74),(453,49,none),(595,65,some 588)]
noncomputable def PC:Option Addr->Value
 |some t=>.ref t
 |none=>.none
noncomputable def uG(K:Frag):List Pk:=lx.map λp=>n6 K p.1
noncomputable def qH:List Pk:=lx.map λp=>rm (aZ.getD p.2.1 ce) (PC p.2.2)
noncomputable def vT(v:Value):Value:=match v with
 |.int i _=>.int i 0
 |v=>v
noncomputable def j9(K:Frag):List (Option (List Value)):=([74,132,301,468,588]:List Addr).map λa=>(eH K a).map λl=>l.map vT
noncomputable def iV:List (Option (List Value)):=[some [.ref 73,.int 0 0,.int 0 0],some [.ref 131],some [.bool false],some [.int 40 0,.none],some [.int 40 0,.none]]
noncomputable def tE(h:Heap):Bool:=match h.get? 6 with
 |some o=>(match o.data with
  |.dict es _=>es.all (λe=>match e.key with|.str _ _=>true|_=>false)
  |_=>false)
 |none=>false
noncomputable def ly(h:Heap):Bool×Bool×List Pk×List (Option (List Value)):=(Ja h&&(yn (BU h) 3 "law"==some (.ref 813)&&tE h),yo (BU h),uG (BU h),j9 (BU h))
noncomputable def fu:Bool×Bool×List Pk×List (Option (List Value)):=(true,true,qH,iV)
noncomputable abbrev ka:RowW:=PySem.Challenge.rw_np0153_01.row.toRowW
noncomputable def Tf(l:List Obj):Nat->Nat->Nat->BT
 |0,_,_=>.nil
 |k+1,a,b=>match l[b]? with
  |some o=>.node o (Tf l k (2 * a) (a+b)) (Tf l k (2 * a) (2 * a+b))
  |none=>.nil
noncomputable abbrev P0:Program:=PySem.Challenge.pw_np0153_01
noncomputable def Nb:Env:={scope:=P0.main.scope,locals:=mainNs,globals:=mainNs,cells:=[],code:=.ref 13,frame:=some 14}
noncomputable def vU:Pos:=⟨0,0,0,0⟩
noncomputable def mM:Code:=.body (behindTheImports P0) Nb
noncomputable def EA:Option Value:=some (.ref 6)
noncomputable def Vd(w:World)(os:OsState):Shared:=⟨boot_heap w.params,Array.mk [],boot_drawn,boot_toks,os⟩
noncomputable def PD(w:World)(os:OsState):Option (Shared×Thread):=topGo treeTable P0 w 11 EA 12 (Vd w os) (topStub P0)
noncomputable def sA(w:World)(os:OsState):Shared:=match PD w os with
 |some (s,_)=>s
 |none=>Vd w os
theorem Nc(w:World)(os:OsState):PD w os=some (sA w os,⟨denote treeTable mM,mM,vU,[topFrame vU]⟩):=by trivial
noncomputable def sT(w:World)(os:OsState):SharedT:=⟨Tf (sA w os).heap.objs.toList 12 1 0,15,(sA w os).heap.life,(sA w os).gens,(sA w os).drawn,(sA w os).toks,(sA w os).os⟩
theorem Jd(w:World)(os:OsState):(sT w os).abs=sA w os:=by trivial
theorem EB(w:World)(os:OsState):segRunT treeTable P0 w 11 EA 1 1 (sT w os) (blockOf (behindTheImports P0) Nb mM vU [topFrame vU])=some (.next,sT w os,mM,vU):=by trivial
theorem Je(w:World):(fencedOpening treeTable P0 w 12000).map (λs=>(s.heap,s.gens,s.drawn,s.toks))=some (boot_heap w.params,Array.mk [],boot_drawn,boot_toks):=
 boot_open (p:=P0) (by trivial) (by decide) (λs=>by trivial) w
theorem Jf(w:World):((boot_heap w.params).isNs mainGlobals&&(Array.mk []:Array GenState).size==0,(boot_heap w.params).objs.size,(boot_heap w.params).nsMap mainGlobals "__annotations__")=(true,11,EA):=by trivial
theorem Nd(w:World)(s:Shared)(p:Pos):topRun treeTable P0 w 11 EA 2 s ⟨doneF .next,mM,p,[topFrame vU]⟩=some s:=by cases s;trivial
noncomputable def uH(w:World)(os:OsState):Option (Flow×SharedT×Code×Pos):=segRunT treeTable P0 w 11 EA 1 6000 (sT w os) (piecesOf (behindTheImports P0) Nb mM vU [topFrame vU])
noncomputable def Nf(w:World)(s:Shared):Bool:=staticsOk (importedModules P0.main.body) (boot_heap w.params) s.heap&&namesBound P0 s.heap&&gensDone s&&laidKept (boot_heap w.params) s.heap
theorem EC{p q:Program}{Yf:Shared->α}{D:α}{i:Heap}{gs:Array GenState}{B:Drawn}{A l:Nat}{g:Option Value}{o k₁ a m:Nat}
 {sa:OsState->Shared} {st:OsState->SharedT} {b:List Stmt} {c:Code} {x n:Pos} {r:OsState->Option (Flow×SharedT×Code×Pos)}
 (hopen:(fencedOpening treeTable p w N).map (λs=>(s.heap,s.gens,s.drawn,s.toks))=some (i,gs,B,A))
 (hsize:(i.isNs mainGlobals&&gs.size==0,i.objs.size,i.nsMap mainGlobals "__annotations__")=(true,l,g))
 (u:∀os,topGo treeTable p w l g o ⟨i,gs,B,A,os⟩ (topStub p)=some (sa os,⟨denote treeTable (.body b env),c,x,[topFrame n]⟩))
 (htree:∀os,(st os).abs=sa os)
 (hblock:∀os,segRunT treeTable p w l g 1 k₁ (st os) (blockOf b env c x [topFrame n])=some (.next,st os,c,x))
 (L:∀os,segRunT treeTable p w l g 1 a (st os) (piecesOf b env c x [topFrame n])=r os)
 (v:∀s p',topRun treeTable p w l g m s ⟨doneF .next,c,p',[topFrame n]⟩=some s)
 (z:12000=12000->o+(k₁+(a+m))<=N)
 (h:∀os,(r os).map (λr=>(r.1,r.2.2.1,(staticsOk (importedModules p.main.body) i r.2.1.abs.heap&&namesBound p r.2.1.abs.heap&&gensDone r.2.1.abs&&laidKept i r.2.1.abs.heap),openSeen q loose (importedModules p.main.body) Xt true r.2.1.abs,Yf r.2.1.abs))=some (.next,c,true,openGood q loose,D)):
 (openEnds treeTable p w N).map (λs=>(openSeen q loose (importedModules p.main.body) Xt true s,Yf s))=some (openGood q loose,D):=by
 obtain ⟨⟨y,F,d,k,os⟩,e,Q⟩:=map_eq_some_iff.mp hopen
 obtain ⟨rfl,rfl,rfl,rfl⟩:y=i/\F=gs/\d=B/\k=A:=by simpa using Q
 obtain ⟨T,O,I⟩:_/\_/\_:=by simpa only [nX] using hsize
 obtain ⟨⟨f,j,c',p'⟩,K,C⟩:=map_eq_some_iff.mp (h os)
 simp only [nX] at C
 obtain ⟨rfl,rfl,J,S,M⟩:=C
 have H:=segRun_of ((L os).trans K)
 rw [htree] at H
 have G:topRun treeTable p w l g (a+m) (sa os) (restOf (b++[]) env c' x [topFrame n])=some j.abs:=
  piece_app H (piece_nil (v j.abs p'))
 rw [dA] at G
 have E:=segRun_of (hblock os)
 rw [htree] at E
 have R:=piece_block E G
 have P:=go_top (u os) R
 have z:=z rfl
 have r:=topRun_mono (N - (o+(k₁+(a+m)))) _ _ _ _ P
 rw [show o+(k₁+(a+m))+(N - (o+(k₁+(a+m))))=N by exact uF z] at r
 have t:topFrom treeTable p w N ⟨y,F,d,k,os⟩=some j.abs:=by unfold topFrom;dsimp only;rw [T,O,I,r];show (match staticsOk (importedModules p.main.body) y j.abs.heap&&namesBound p j.abs.heap&&gensDone j.abs&&laidKept y j.abs.heap with|true=>_|false=>_)=_;rw [J]
 unfold openEnds
 rw [e]
 show (topFrom treeTable p w N _).map _=_
 rw [t]
 exact bA some (Prod.ext S M)
theorem vW{q:Program}{Yf:Shared->α}{Ya:World->α}
 (h:∀w os,(uH w os).map (λr=>(r.1,r.2.2.1,Nf w r.2.1.abs,openSeen q loose (importedModules P0.main.body) Xt true r.2.1.abs,Yf r.2.1.abs))=some (.next,mM,true,openGood q loose,Ya w)):
 LeftO P0 q loose Xt Yf Ya 12000:=λw=>
 EC (sa:=sA w) (st:=sT w) (r:=uH w) (k₁:=1) (Je w) (Jf w) (Nc w) (Jd w) (EB w) (λ_=>rfl) (Nd w) (λ_=>by decide) (h w)
noncomputable def q0:Program:={P0 with main:={P0.main with body:=(P0.main.body[84]?).toList}}
noncomputable def rn:List Str:=P0.boundNames.filter λn=>n !=("law":Str)&&n !=("__name__":Str)
theorem EF(w:World)(os:OsState):(uH w os).map (λr=>(r.1,r.2.2.1,Nf w r.2.1.abs))=some (.next,mM,true):=by trivial
theorem EG(w:World)(os:OsState):(uH w os).map (λr=>openSeen q0 rn (importedModules P0.main.body) (λs=>xlAt q0 [] s&&recOk (RowW.records PySem.Challenge.rw_np0153_01.row.toRowW) s) true r.2.1.abs)=some (openGood q0 rn):=by trivial
theorem EH(w:World)(os:OsState):(uH w os).map (λr=>(ly r.2.1.abs.heap).1)=some true:=by trivial
theorem EI(w:World)(os:OsState):(uH w os).map (λr=>(ly r.2.1.abs.heap).2.1)=some true:=by trivial
theorem EJ(w:World)(os:OsState):(uH w os).map (λr=>(ly r.2.1.abs.heap).2.2.1)=some qH:=by trivial
theorem EK(w:World)(os:OsState):(uH w os).map (λr=>(ly r.2.1.abs.heap).2.2.2)=some iV:=by trivial
theorem Th{γ δ ε ζ η θ κ:Type}{o:Option α}{f:α->β×γ×δ}{g:α->ε}{h:α->ζ×η×θ×κ}{b:β}{c:γ}{d:δ}{e:ε}{x:ζ}{y:η}{z:θ}{u:κ}(i:o.map f=some (b,c,d))(j:o.map g=some e)(p:o.map (λr=>(h r).1)=some x)(m:o.map (λr=>(h r).2.1)=some y)(n:o.map (λr=>(h r).2.2.1)=some z)(l:o.map (λr=>(h r).2.2.2)=some u):o.map (λr=>((f r).1,(f r).2.1,(f r).2.2,g r,h r))=some (b,c,d,e,x,y,z,u):=by
 cases o with
 |none=>cases i
 |some a=>
  have i:f a=(b,c,d):=aw i;have j:g a=e:=aw j;have k:h a=(x,y,z,u):=by rw [<-show (h a).1=x from aw p,<-show (h a).2.1=y from aw m,<-show (h a).2.2.1=z from aw n,<-show (h a).2.2.2=u from aw l]
  show some ((f a).1,(f a).2.1,(f a).2.2,g a,h a)=_;rw [i,j,k]
theorem yp(w:World)(os:OsState):(uH w os).map (λr=>(r.1,r.2.2.1,Nf w r.2.1.abs,openSeen q0 rn (importedModules P0.main.body) (λs=>xlAt q0 [] s&&recOk (RowW.records PySem.Challenge.rw_np0153_01.row.toRowW) s) true r.2.1.abs,ly r.2.1.abs.heap))=some (.next,mM,true,openGood q0 rn,fu):=Th (EF w os) (EG w os) (EH w os) (EI w os) (EJ w os) (EK w os)
theorem yq:looksOpen PySem.Challenge.rw_np0153_01.prog=true:=by
 unfold looksOpen;iterate 5 refine look_both ?_ ?_
 all_goals trivial
theorem EL:PySem.Challenge.rw_np0153_01.row.wellSaid=true:=by
 unfold OpenRow.wellSaid OpenRow.partSaid;iterate 14 refine look_both ?_ ?_
 ·exact look_both yq (by trivial)
 all_goals trivial
theorem Ng:PySem.Challenge.rw_np0153_01.wellSaid=true:=by
 unfold OpenLaw.wellSaid;iterate 17 refine look_both ?_ ?_
 ·exact look_both EL (by trivial)
 all_goals trivial
theorem yr:(chainsOk q0&&opensWell P0&&(frees ka&&ka.within.isEmpty))=true:=by trivial
theorem Nh(a:∀h h':Heap,ly h=fu->(∀b o,h.get? b=some o->h'.get? b=some o)->ly h'=fu)(c:∀{q:Program} {loose:List Str} {XP:(Str->Option Value)->Heap->Prop} {d:DefRec} {g:List (Str×Expr)},d.name="law"->WalkO q loose XP (λ_ h=>ly h=fu) ka d g λf vs=>PySem.call f vs):PySem.Challenge.rw_np0153_01.Holds:=
 holds_law Ng λNg=>
 PySem.W.holds_open (q:=q0) (loose:=rn) (Xt:=λs=>xlAt q0 [] s&&recOk (RowW.records PySem.Challenge.rw_np0153_01.row.toRowW) s) (XP:=XL q0 []) (Yf:=λs=>ly s.heap) (Ya:=λ_=>fu) (YP:=λ_ h=>ly h=fu) (N:=12000)
  (vW yp) (λw s e=>e) (λ_ h i e k=>a h i e k) (λs e=>xl_of s (Bool.and_eq_true_iff.mp e).1) XL.keeps (by rfl) (by rfl) (by rfl) (λs e=>recFacts_of (Bool.and_eq_true_iff.mp e).2) (by rfl) Ng yr ⟨rfl,rfl,rfl,rfl,rfl,by trivial⟩ ⟨[.list []],by trivial,by trivial⟩ (c rfl)
theorem aq{A:Prop}{G:Prop}(h:A/\B)(k:A->B->G):G:=k h.1 h.2
theorem ck{A C:Prop}{G:Prop}(h:A/\B/\C)(k:A->B->C->G):G:=k h.1 h.2.1 h.2.2
theorem eu{A C D:Prop}{G:Prop}(h:A/\B/\C/\D)(k:A->B->C->D->G):G:=k h.1 h.2.1 h.2.2.1 h.2.2.2
theorem pP{A C D E:Prop}{G:Prop}(h:A/\B/\C/\D/\E)(k:A->B->C->D->E->G):G:=k h.1 h.2.1 h.2.2.1 h.2.2.2.1 h.2.2.2.2
theorem lO{A C D E F:Prop}{G:Prop}(h:A/\B/\C/\D/\E/\F)(k:A->B->C->D->E->F->G):G:=k h.1 h.2.1 h.2.2.1 h.2.2.2.1 h.2.2.2.2.1 h.2.2.2.2.2
theorem PE{A C D E F H I J:Prop}{G:Prop}(h:A/\B/\C/\D/\E/\F/\H/\I/\J)(k:A->B->C->D->E->F->H->I->J->G):G:=k h.1 h.2.1 h.2.2.1 h.2.2.2.1 h.2.2.2.2.1 h.2.2.2.2.2.1 h.2.2.2.2.2.2.1 h.2.2.2.2.2.2.2.1 h.2.2.2.2.2.2.2.2
theorem ar{α:Sort _}{A:α->Prop}{G:Prop}(h:∃a,A a)(k:∀a,A a->G):G:=h.elim λa h=>k a h
theorem ae{α:Sort _}{A B:α->Prop}{G:Prop}(h:∃a,A a/\B a)(k:∀a,A a->B a->G):G:=h.elim λa h=>k a h.1 h.2
theorem bc{α:Sort _}{A B C:α->Prop}{G:Prop}(h:∃a,A a/\B a/\C a)(k:∀a,A a->B a->C a->G):G:=h.elim λa h=>k a h.1 h.2.1 h.2.2
theorem gK{α:Sort _}{A B C D:α->Prop}{G:Prop}(h:∃a,A a/\B a/\C a/\D a)(k:∀a,A a->B a->C a->D a->G):G:=h.elim λa h=>k a h.1 h.2.1 h.2.2.1 h.2.2.2
theorem EM{α:Sort _}{A B C D E:α->Prop}{G:Prop}(h:∃a,A a/\B a/\C a/\D a/\E a)(k:∀a,A a->B a->C a->D a->E a->G):G:=h.elim λa h=>k a h.1 h.2.1 h.2.2.1 h.2.2.2.1 h.2.2.2.2
theorem dZ{α β:Sort _}{A:α->β->Prop}{G:Prop}(h:∃b a,A b a)(k:∀b a,A b a->G):G:=h.elim λb h=>h.elim λa h=>k b a h
theorem bd{α β:Sort _}{A B:α->β->Prop}{G:Prop}(h:∃b a,A b a/\B b a)(k:∀b a,A b a->B b a->G):G:=h.elim λb h=>h.elim λa h=>k b a h.1 h.2
theorem aP{α β:Sort _}{A B C:α->β->Prop}{G:Prop}(h:∃b a,A b a/\B b a/\C b a)(k:∀b a,A b a->B b a->C b a->G):G:=h.elim λb h=>h.elim λa h=>k b a h.1 h.2.1 h.2.2
theorem gL{α β:Sort _}{A B C D:α->β->Prop}{G:Prop}(h:∃b a,A b a/\B b a/\C b a/\D b a)(k:∀b a,A b a->B b a->C b a->D b a->G):G:=h.elim λb h=>h.elim λa h=>k b a h.1 h.2.1 h.2.2.1 h.2.2.2
theorem PF{α β:Sort _}{A B C D E F:α->β->Prop}{G:Prop}(h:∃b a,A b a/\B b a/\C b a/\D b a/\E b a/\F b a)(k:∀b a,A b a->B b a->C b a->D b a->E b a->F b a->G):G:=h.elim λb h=>h.elim λa h=>k b a h.1 h.2.1 h.2.2.1 h.2.2.2.1 h.2.2.2.2.1 h.2.2.2.2.2
theorem ij{α β:Sort _}{A B C D E F H:α->β->Prop}{G:Prop}(h:∃b a,A b a/\B b a/\C b a/\D b a/\E b a/\F b a/\H b a)(k:∀b a,A b a->B b a->C b a->D b a->E b a->F b a->H b a->G):G:=h.elim λb h=>h.elim λa h=>k b a h.1 h.2.1 h.2.2.1 h.2.2.2.1 h.2.2.2.2.1 h.2.2.2.2.2.1 h.2.2.2.2.2.2
theorem LX{α β:Sort _}{A B C D E F H I J:α->β->Prop}{G:Prop}(h:∃b a,A b a/\B b a/\C b a/\D b a/\E b a/\F b a/\H b a/\I b a/\J b a)(k:∀b a,A b a->B b a->C b a->D b a->E b a->F b a->H b a->I b a->J b a->G):G:=h.elim λb h=>h.elim λa h=>k b a h.1 h.2.1 h.2.2.1 h.2.2.2.1 h.2.2.2.2.1 h.2.2.2.2.2.1 h.2.2.2.2.2.2.1 h.2.2.2.2.2.2.2.1 h.2.2.2.2.2.2.2.2
theorem EN{α β:Sort _}{A B C D E F H I J K:α->β->Prop}{G:Prop}(h:∃b a,A b a/\B b a/\C b a/\D b a/\E b a/\F b a/\H b a/\I b a/\J b a/\K b a)(k:∀b a,A b a->B b a->C b a->D b a->E b a->F b a->H b a->I b a->J b a->K b a->G):G:=h.elim λb h=>h.elim λa h=>k b a h.1 h.2.1 h.2.2.1 h.2.2.2.1 h.2.2.2.2.1 h.2.2.2.2.2.1 h.2.2.2.2.2.2.1 h.2.2.2.2.2.2.2.1 h.2.2.2.2.2.2.2.2.1 h.2.2.2.2.2.2.2.2.2
theorem jT{α β γ:Sort _}{A:α->β->γ->Prop}{G:Prop}(h:∃c a b,A c a b)(k:∀c a b,A c a b->G):G:=h.elim λc h=>h.elim λa h=>h.elim λb h=>k c a b h
theorem iW{α β γ:Sort _}{A B:α->β->γ->Prop}{G:Prop}(h:∃c a b,A c a b/\B c a b)(k:∀c a b,A c a b->B c a b->G):G:=h.elim λc h=>h.elim λa h=>h.elim λb h=>k c a b h.1 h.2
theorem bg{α β γ:Sort _}{A B C:α->β->γ->Prop}{G:Prop}(h:∃c a b,A c a b/\B c a b/\C c a b)(k:∀c a b,A c a b->B c a b->C c a b->G):G:=h.elim λc h=>h.elim λa h=>h.elim λb h=>k c a b h.1 h.2.1 h.2.2
theorem tF{α β γ:Sort _}{A B C D:α->β->γ->Prop}{G:Prop}(h:∃c a b,A c a b/\B c a b/\C c a b/\D c a b)(k:∀c a b,A c a b->B c a b->C c a b->D c a b->G):G:=h.elim λc h=>h.elim λa h=>h.elim λb h=>k c a b h.1 h.2.1 h.2.2.1 h.2.2.2
theorem mO{α β γ:Sort _}{A B C D E:α->β->γ->Prop}{G:Prop}(h:∃c a b,A c a b/\B c a b/\C c a b/\D c a b/\E c a b)(k:∀c a b,A c a b->B c a b->C c a b->D c a b->E c a b->G):G:=h.elim λc h=>h.elim λa h=>h.elim λb h=>k c a b h.1 h.2.1 h.2.2.1 h.2.2.2.1 h.2.2.2.2
theorem vX{α β γ:Sort _}{A B C D E F:α->β->γ->Prop}{G:Prop}(h:∃c a b,A c a b/\B c a b/\C c a b/\D c a b/\E c a b/\F c a b)(k:∀c a b,A c a b->B c a b->C c a b->D c a b->E c a b->F c a b->G):G:=h.elim λc h=>h.elim λa h=>h.elim λb h=>k c a b h.1 h.2.1 h.2.2.1 h.2.2.2.1 h.2.2.2.2.1 h.2.2.2.2.2
theorem tG{α β γ:Sort _}{A B C D E F H:α->β->γ->Prop}{G:Prop}(h:∃c a b,A c a b/\B c a b/\C c a b/\D c a b/\E c a b/\F c a b/\H c a b)(k:∀c a b,A c a b->B c a b->C c a b->D c a b->E c a b->F c a b->H c a b->G):G:=h.elim λc h=>h.elim λa h=>h.elim λb h=>k c a b h.1 h.2.1 h.2.2.1 h.2.2.2.1 h.2.2.2.2.1 h.2.2.2.2.2.1 h.2.2.2.2.2.2
theorem PG{α β γ δ:Sort _}{A:α->β->γ->δ->Prop}{G:Prop}(h:∃d a c b,A d a c b)(k:∀d a c b,A d a c b->G):G:=h.elim λd h=>h.elim λa h=>h.elim λc h=>h.elim λb h=>k d a c b h
theorem tH{α β γ δ:Sort _}{A B:α->β->γ->δ->Prop}{G:Prop}(h:∃d a c b,A d a c b/\B d a c b)(k:∀d a c b,A d a c b->B d a c b->G):G:=h.elim λd h=>h.elim λa h=>h.elim λc h=>h.elim λb h=>k d a c b h.1 h.2
theorem PH{α β γ δ:Sort _}{A B C:α->β->γ->δ->Prop}{G:Prop}(h:∃d a c b,A d a c b/\B d a c b/\C d a c b)(k:∀d a c b,A d a c b->B d a c b->C d a c b->G):G:=h.elim λd h=>h.elim λa h=>h.elim λc h=>h.elim λb h=>k d a c b h.1 h.2.1 h.2.2
theorem LY{α β γ δ:Sort _}{A B C D:α->β->γ->δ->Prop}{G:Prop}(h:∃d a c b,A d a c b/\B d a c b/\C d a c b/\D d a c b)(k:∀d a c b,A d a c b->B d a c b->C d a c b->D d a c b->G):G:=h.elim λd h=>h.elim λa h=>h.elim λc h=>h.elim λb h=>k d a c b h.1 h.2.1 h.2.2.1 h.2.2.2
theorem PI{α β γ δ ε:Sort _}{A:α->β->γ->δ->ε->Prop}{G:Prop}(h:∃e a d b c,A e a d b c)(k:∀e a d b c,A e a d b c->G):G:=h.elim λe h=>h.elim λa h=>h.elim λd h=>h.elim λb h=>h.elim λc h=>k e a d b c h
theorem PJ{α β γ δ ε:Sort _}{A B C D:α->β->γ->δ->ε->Prop}{G:Prop}(h:∃e a d b c,A e a d b c/\B e a d b c/\C e a d b c/\D e a d b c)(k:∀e a d b c,A e a d b c->B e a d b c->C e a d b c->D e a d b c->G):G:=h.elim λe h=>h.elim λa h=>h.elim λd h=>h.elim λb h=>h.elim λc h=>k e a d b c h.1 h.2.1 h.2.2.1 h.2.2.2
theorem PK{α β γ δ ε ζ:Sort _}{A B C:α->β->γ->δ->ε->ζ->Prop}{G:Prop}(h:∃b a e c d f,A b a e c d f/\B b a e c d f/\C b a e c d f)(k:∀b a e c d f,A b a e c d f->B b a e c d f->C b a e c d f->G):G:=h.elim λb h=>h.elim λa h=>h.elim λe h=>h.elim λc h=>h.elim λd h=>h.elim λf h=>k b a e c d f h.1 h.2.1 h.2.2
theorem LZ{α β γ δ ε ζ:Sort _}{A B C D E:α->β->γ->δ->ε->ζ->Prop}{G:Prop}(h:∃f e c d b a,A f e c d b a/\B f e c d b a/\C f e c d b a/\D f e c d b a/\E f e c d b a)(k:∀f e c d b a,A f e c d b a->B f e c d b a->C f e c d b a->D f e c d b a->E f e c d b a->G):G:=h.elim λf h=>h.elim λe h=>h.elim λc h=>h.elim λd h=>h.elim λb h=>h.elim λa h=>k f e c d b a h.1 h.2.1 h.2.2.1 h.2.2.2.1 h.2.2.2.2
theorem Ma{α β γ δ ε ζ η:Sort _}{A B C D:α->β->γ->δ->ε->ζ->η->Prop}{G:Prop}(h:∃g f d e c b a,A g f d e c b a/\B g f d e c b a/\C g f d e c b a/\D g f d e c b a)(k:∀g f d e c b a,A g f d e c b a->B g f d e c b a->C g f d e c b a->D g f d e c b a->G):G:=h.elim λg h=>h.elim λf h=>h.elim λd h=>h.elim λe h=>h.elim λc h=>h.elim λb h=>h.elim λa h=>k g f d e c b a h.1 h.2.1 h.2.2.1 h.2.2.2
theorem iX{α β:Sort _}{A:α->β->Prop}(b:α)(a:β)(c:A b a):∃b a,A b a:=⟨b,a,c⟩
theorem gb{α β:Sort _}{A B:α->β->Prop}(b:α)(a:β)(c:A b a)(d:B b a):∃b a,A b a/\B b a:=⟨b,a,c,d⟩
theorem iY{α β:Sort _}{A B C:α->β->Prop}(b:α)(a:β)(d:A b a)(e:B b a)(c:C b a):∃b a,A b a/\B b a/\C b a:=⟨b,a,d,e,c⟩
theorem lP{α β:Sort _}{A B C D:α->β->Prop}(b:α)(a:β)(e:A b a)(f:B b a)(c:C b a)(d:D b a):∃b a,A b a/\B b a/\C b a/\D b a:=⟨b,a,e,f,c,d⟩
theorem PL{α β:Sort _}{A B C D E:α->β->Prop}(b:α)(a:β)(f:A b a)(d:B b a)(c:C b a)(e:D b a)(g:E b a):∃b a,A b a/\B b a/\C b a/\D b a/\E b a:=⟨b,a,f,d,c,e,g⟩
theorem Ao{α β:Sort _}{A B C D E F H:α->β->Prop}(b:α)(a:β)(h:A b a)(f:B b a)(d:C b a)(g:D b a)(i:E b a)(e:F b a)(c:H b a):∃b a,A b a/\B b a/\C b a/\D b a/\E b a/\F b a/\H b a:=⟨b,a,h,f,d,g,i,e,c⟩
theorem Ni{α β:Sort _}{A B C D E F H I J K:α->β->Prop}(b:α)(a:β)(d:A b a)(l:B b a)(f:C b a)(j:D b a)(h:E b a)(i:F b a)(e:H b a)(c:I b a)(g:J b a)(k:K b a):∃b a,A b a/\B b a/\C b a/\D b a/\E b a/\F b a/\H b a/\I b a/\J b a/\K b a:=⟨b,a,d,l,f,j,h,i,e,c,g,k⟩
theorem ro{α β γ:Sort _}{A:α->β->γ->Prop}(c:α)(a:β)(b:γ)(d:A c a b):∃c a b,A c a b:=⟨c,a,b,d⟩
theorem vY{α β γ:Sort _}{A B:α->β->γ->Prop}(c:α)(a:β)(b:γ)(d:A c a b)(e:B c a b):∃c a b,A c a b/\B c a b:=⟨c,a,b,d,e⟩
theorem lQ{α β γ:Sort _}{A B C:α->β->γ->Prop}(c:α)(a:β)(b:γ)(e:A c a b)(f:B c a b)(d:C c a b):∃c a b,A c a b/\B c a b/\C c a b:=⟨c,a,b,e,f,d⟩
theorem EO{α β γ:Sort _}{A B C D:α->β->γ->Prop}(c:α)(a:β)(b:γ)(f:A c a b)(g:B c a b)(d:C c a b)(e:D c a b):∃c a b,A c a b/\B c a b/\C c a b/\D c a b:=⟨c,a,b,f,g,d,e⟩
theorem Mb{α β γ:Sort _}{A B C D E:α->β->γ->Prop}(c:α)(a:β)(b:γ)(g:A c a b)(e:B c a b)(d:C c a b)(f:D c a b)(h:E c a b):∃c a b,A c a b/\B c a b/\C c a b/\D c a b/\E c a b:=⟨c,a,b,g,e,d,f,h⟩
theorem EP{α β γ:Sort _}{A B C D E F:α->β->γ->Prop}(c:α)(a:β)(b:γ)(h:A c a b)(f:B c a b)(d:C c a b)(g:D c a b)(i:E c a b)(e:F c a b):∃c a b,A c a b/\B c a b/\C c a b/\D c a b/\E c a b/\F c a b:=⟨c,a,b,h,f,d,g,i,e⟩
theorem Mc{α β γ:Sort _}{A B C D E F H:α->β->γ->Prop}(a:α)(c:β)(b:γ)(j:A a c b)(i:B a c b)(e:C a c b)(h:D a c b)(f:E a c b)(g:F a c b)(d:H a c b):∃a c b,A a c b/\B a c b/\C a c b/\D a c b/\E a c b/\F a c b/\H a c b:=⟨a,c,b,j,i,e,h,f,g,d⟩
theorem EQ{α β γ δ:Sort _}{A B C D:α->β->γ->δ->Prop}(d:α)(a:β)(c:γ)(b:δ)(g:A d a c b)(h:B d a c b)(e:C d a c b)(f:D d a c b):∃d a c b,A d a c b/\B d a c b/\C d a c b/\D d a c b:=⟨d,a,c,b,g,h,e,f⟩
theorem PM{α β γ δ:Sort _}{A B C D E:α->β->γ->δ->Prop}(d:α)(a:β)(c:γ)(b:δ)(h:A d a c b)(f:B d a c b)(e:C d a c b)(g:D d a c b)(i:E d a c b):∃d a c b,A d a c b/\B d a c b/\C d a c b/\D d a c b/\E d a c b:=⟨d,a,c,b,h,f,e,g,i⟩
theorem PN{α β γ δ:Sort _}{A B C D E F H I:α->β->γ->δ->Prop}(d:α)(c:β)(a:γ)(b:δ)(f:A d c a b)(l:B d c a b)(h:C d c a b)(k:D d c a b)(i:E d c a b)(j:F d c a b)(g:H d c a b)(e:I d c a b):∃d c a b,A d c a b/\B d c a b/\C d c a b/\D d c a b/\E d c a b/\F d c a b/\H d c a b/\I d c a b:=⟨d,c,a,b,f,l,h,k,i,j,g,e⟩
theorem PO{α β γ δ ε:Sort _}{A:α->β->γ->δ->ε->Prop}(e:α)(a:β)(d:γ)(b:δ)(c:ε)(f:A e a d b c):∃e a d b c,A e a d b c:=⟨e,a,d,b,c,f⟩
theorem PP{α β γ δ ε:Sort _}{A B C D:α->β->γ->δ->ε->Prop}(e:α)(a:β)(d:γ)(b:δ)(c:ε)(h:A e a d b c)(i:B e a d b c)(f:C e a d b c)(g:D e a d b c):∃e a d b c,A e a d b c/\B e a d b c/\C e a d b c/\D e a d b c:=⟨e,a,d,b,c,h,i,f,g⟩
theorem Md{α β γ δ ε ζ:Sort _}{A B C D E:α->β->γ->δ->ε->ζ->Prop}(f:α)(e:β)(c:γ)(d:δ)(b:ε)(a:ζ)(g:A f e c d b a)(k:B f e c d b a)(h:C f e c d b a)(j:D f e c d b a)(i:E f e c d b a):∃f e c d b a,A f e c d b a/\B f e c d b a/\C f e c d b a/\D f e c d b a/\E f e c d b a:=⟨f,e,c,d,b,a,g,k,h,j,i⟩
theorem Me{α β γ δ ε ζ η:Sort _}{A B C D:α->β->γ->δ->ε->ζ->η->Prop}(g:α)(f:β)(d:γ)(e:δ)(c:ε)(b:ζ)(a:η)(h:A g f d e c b a)(k:B g f d e c b a)(i:C g f d e c b a)(j:D g f d e c b a):∃g f d e c b a,A g f d e c b a/\B g f d e c b a/\C g f d e c b a/\D g f d e c b a:=⟨g,f,d,e,c,b,a,h,k,i,j⟩
theorem oA{b r:Nat}(h:b+r+1<=N)(d:N<=M):b<=M:=aA (aA (bY b (r+1)) h) d
theorem oB(h:i+(k+1)=n):i<n:=h▸Nat.lt_add_of_pos_right (succ_pos _)
theorem Vf(h:k+1+i=n):i<n:=h▸Nat.lt_add_of_pos_left (succ_pos _)
theorem Wf(h:i+(k+1)=n):i+1+k=n:=(qZ i 1 k).trans h
theorem Wg(h:k+1+i=n):k+(i+1)=n:=(qZ k 1 i).symm.trans h
theorem oC{a c:Nat}(h:a+(n+1)<c):a+1+n<c:=ei (c6 (qZ a 1 n)) h
theorem oD(n:Nat):(1:Int)<(n:Int)+1+1:=Int.ofNat_lt.mpr (succ_lt_succ (succ_pos n))
theorem oE{k:Int}(h:k.natAbs<1073741824): -2 ^ 63<=k/\k<2 ^ 63:=
 ⟨Int.le_trans (show -2 ^ 63<=-((1073741824:Nat):Int) by decide) (Int.neg_le_of_neg_le (Int.le_trans (Int.natAbs_neg k▸Int.le_natAbs) (Int.ofNat_le.mpr (px h)))),Int.lt_trans (ra Int.le_natAbs (Int.ofNat_lt.mpr h)) (by decide)⟩
theorem oF{m:Nat}(h:0+n=m):m<=n:=c6 (h.symm.trans (fL n))
theorem Wh{c:Prop}{d:Decidable c}{a b r:α}{P:Prop}(h: @ite α c d a b=r)(f:c->a=r->P)(g:¬c->b=r->P):P:=match d with|.isTrue x=>f x h|.isFalse x=>g x h
theorem pA{a b c:Nat}(h:a=b)(g:b<=c):a<=c:=h▸g
theorem pB{a m b:Nat}(h:a=m)(g:m<=3)(k:14<=b):2+4 * a<=b:=aA (eP (mul_le_mul_left 4 (pA h g)) 2) k
theorem pC{a m x b:Nat}(h:a=m)(g:m<=3)(e:x<=6)(k:20<=b):2+4 * a+x<=b:=aA (add_le_add (pB h g (cJ 14)) e) k
theorem Vg(h:j<3):j=0\/j=1\/j=2:=(by decide:∀j,j<3->j=0\/j=1\/j=2) j h
theorem Vh{m:Nat}(h:n<m): -((n:Int)+1)+m=((m - (n+1):Nat):Int):=(Int.add_comm _ _).trans (Int.ofNat_sub h).symm
theorem oU{u c:Nat}(a:k<=8)(h:u+8 * (d+1)+100<c):u+k+8 * d+100<c:=ei (gD (by rw [mul_succ,Nat.add_assoc,me k];exact eP (eP a _) _) 100) h
theorem oV(h:n+i=k+1)(g:i<k):n - 1<n/\n - 1+(i+1)=k+1:=by
 cases n with
 |zero=>exact absurd ((fL i).symm.trans h) (cc (pr g))
 |succ n=>exact ⟨lL n,(succ_add_eq_add_succ n i).symm.trans h⟩
theorem pD(n:Nat):((n+1:Nat):Int) - 1=n:=Int.add_sub_cancel n 1
theorem pE{a b c:Nat}(h:c=a+b+1):(a:Int)<c:=Int.ofNat_lt.mpr (h▸hY (bY a b))
theorem pF{a:Nat}(h:2<=a):¬(a:Int)<2:=Int.not_lt.mpr (Int.ofNat_le.mpr h)
theorem pG{m:Nat}(h:i+(j+1)=m):i<m:=h▸Nat.lt_add_of_pos_right (succ_pos j)
theorem pH{m:Nat}(h:i+(j+1)=m):i+1+j=m:=(qZ i 1 j).trans h
theorem pI(j:Nat):(0:Int)<((j+1:Nat):Int):=Int.ofNat_lt.mpr (succ_pos j)
theorem pJ{n k:Int}(h:0<=n/\n<k): -2 ^ 62<=n:=Int.le_trans (by decide) h.1
theorem pK{j:Int}{l:Nat}(h:(0<=j/\j<l)/\l<=65536):j<2 ^ 63:=Int.lt_of_lt_of_le h.1.2 (Int.le_trans (Int.ofNat_le.mpr h.2) (by decide))
theorem pL{a b:Nat}(h:(a:Int)=b)(g:a<=65536):(b:Int)<2 ^ 63:=h▸ra (Int.ofNat_le.mpr g) (by decide)
theorem pM{a:Nat}(h:a<=16777216):¬(a:Int)>=2 ^ 63:=Int.not_le.mpr (ra (Int.ofNat_le.mpr h) (by decide))
theorem pN(n:Nat): -((n:Int)+1)<0:=Int.negSucc_lt_zero n
theorem pQ{a b c e:Nat}(g:a=c)(f:b=d)(h:a+b<=e):c+d<=e:=g▸f▸h
theorem pR{a c:Nat}(z:a=c)(h:0<a):¬c=0:=g2 (z▸h)
theorem pS{a b c e:Nat}(z:a=c)(h:a+b<=e):c<=e:=z▸aA (bY a b) h
theorem pU{a b c:Nat}(h:c=a+b)(g:i<a):i<c:=h▸fw g (bY a b)
theorem pV{a b c:Nat}(h:c=a+b)(g:i<c - a):i<b:=by subst h;rwa [tz] at g
theorem pX{a m:Nat}(c:a=i)(b:a+1=m):(i:Int)=m - 1:=by subst c b;exact (Int.add_sub_cancel a 1).symm
theorem pY{a b c e:Nat}(h:c=a+b+1)(g:c<=d)(k:d<=e):a<=e:=aA (aA (bY a (b+1)) (h▸g)) k
theorem pZ{a b c:Nat}(h:a+b+1<=c)(k:c<=d):a<=d:=aA (aA (bY a (b+1)) h) k
theorem qA{a b c:Nat}(d:a<=100)(h:b+c+1<=100):a+2 * b+2<=1000:=aA (gD (add_le_add d (mul_le_mul_left 2 (pZ h (cJ 100)))) 2) (by decide)
theorem qB{w:Nat}(h:i+4<=w):¬(i:Int)>w - 4:=Int.not_lt.mpr (Int.le_sub_right_of_add_le (Int.ofNat_le.mpr h))
theorem qN{w:Nat}(h:i+2=w):(i:Int)≠w - 1:=by subst h;rw [pD (i+1)];exact λe=>absurd (Int.ofNat.inj e) (cc (lL i))
theorem qC{w:Nat}(h:i+2=w):¬(i:Int)<w - 2:=by subst h;exact Int.not_lt.mpr (Int.le_of_eq (Int.add_sub_cancel i 2))
theorem Y6{o:Option α}{f:α->Option β}{b:β}(h:o.bind f=some b):∃a,o=some a/\f a=some b:=bind_eq_some_iff.mp h
theorem aV{a b:Bool}(h:(a&&b)=true):a=true:=(Bool.and_eq_true_iff.mp h).1
theorem aH{a b:Bool}(h:(a&&b)=true):b=true:=(Bool.and_eq_true_iff.mp h).2
theorem nU{a b:Bool}(h:(a&&b)=true):a=true/\b=true:=Bool.and_eq_true_iff.mp h
theorem fx{l:List α}{a:α}(h:l[i]? =some a):i<l.length:=(List.getElem?_eq_some_iff.mp h).1
theorem yf{l:List α}{a:α}(h:(a::l).Nodup):a∉l:=(nodup_cons.mp h).1
theorem Nj{l:List α}{a:α}(h:(a::l).Nodup):l.Nodup:=(nodup_cons.mp h).2
theorem mh{f:α->List β}{b:β}{l:List α}{a:α}(h:l[i]? =some a)(c:b∈f a):b∈l.flatMap f:=mem_flatMap.mpr ⟨a,dP h,c⟩
theorem nV{l:List α}{a b:α}(h:a∈b::l):a=b\/a∈l:=mem_cons.mp h
theorem Ap{f:α->β}{l:List α}{b:β}(h:b∈l.map f):∃a,a∈l/\f a=b:=mem_map.mp h
theorem Ep{l:List α}{a:α}(h:a∈l):∃i:Nat,l[i]? =some a:=mem_iff_getElem?.mp h
theorem Nk{f:α->List β}{l:List α}{b:β}(h:b∈l.flatMap f):∃a,a∈l/\b∈f a:=mem_flatMap.mp h
theorem ER{o:Option α}(h:o.isSome=true):∃a,o=some a:=isSome_iff_exists.mp h
theorem gl{P:Prop}(h:∀G:Prop,(P->G)->G):P:=h P id
theorem Su{α:Type _}{a b:α}{P:α->Prop}(h:some a=some b)(k:P a):P b:=aw h▸k
theorem Vi{α β:Type _}{a c:α}{b d:β}(h:some (a,b)=some (c,d)):a=c/\b=d:=by cases h;exact ⟨rfl,rfl⟩
theorem Pl{α β:Type _}{a c:α}{b d:β}{G:Prop}(h:some (a,b)=some (c,d))(k:a=c->b=d->G):G:=k (Vi h).1 (Vi h).2
theorem aG{v:α}{P:Prop}(h:(none:Option α)=some v):P:=nomatch h
theorem eI{P:Prop}(h:false=true):P:=Bool.noConfusion h
set_option genCtorIdx true in
set_option genInjectivity true in
inductive V where
 |none|bool (b:Bool)|int (i:Int)|str (s:Str)
 |tup (l:List V)|lst (l:List V)|jm (ks:List Str) (vs:List V)
 |ref (k:Nat)|glob (a:Addr)
 deriving Inhabited
variable {l vs Jg Nl l' vs' ds base:List V}{v Nm v':V}{o7 l0 l1 l2 l7 o6 o4:Option V}
abbrev bW:=List (Option V)
variable {ls ls₀ br bt us ls0:bW}
structure G where
 w:World
 cm:Addr->Option Obj
 cs:List (Addr×Option Addr)
variable {g g' Jh bo aW:G}
noncomputable def g3(e:DictEntry):Option Str:=match e.key with
 |.str x _=>some x
 |_=>none
theorem vZ{e:DictEntry}:
 g3 e=
  match DictEntry.key e with
  |Value.str x a=>some x
  |x=>none:=by rfl
structure G.Le (g g':G):Prop where
 w:g'.w=g.w
 cm:∀a o,g.cm a=some o->g'.cm a=some o
 cs:∃t,g'.cs=g.cs++t
theorem G.Le.refl(g:G):g.Le g:=⟨rfl,λ_ _ h=>h,[],by simp⟩
theorem G.Le.trans{a b c:G}(x:a.Le b)(y:b.Le c):a.Le c:=by refine ar x.cs λt d=>?_;refine ar y.cs λu e=>?_;exact ⟨y.w.trans x.w,λp o h=>y.cm p o (x.cm p o h),t++u,by rw [e,d,ff]⟩
theorem G.Le.at(x:g.Le g'){a}(h:g.cs[k]? =some a):g'.cs[k]? =some a:=by refine ar x.cs λt b=>?_;rw [b,fb (fx h)];exact h
mutual
inductive RV (g:G):V->Value->Prop
 |none:RV g .none .none
 |bool (b:_):RV g (.bool b) (.bool b)
 |int (i t:_):RV g (.int i) (.int i t)
 |str (x t:_):RV g (.str x) (.str x t)
 |ref {k a:_}:g.cs[k]? =some a->RV g (.ref k) (.ref a.1)
 |glob (a:_):RV g (.glob a) (.ref a)
 |tup {a vs n l:_}:g.cm a=some {cls:=.type "tuple",data:=.seq vs n}->cr g l vs.toList->RV g (.tup l) (.ref a)
 |lst {a vs n l:_}:g.cm a=some {cls:=.type "list",data:=.seq vs n}->cr g l vs.toList->RV g (.lst l) (.ref a)
 |jm {a o es n ks l:_}:g.cm a=some o->o.ExactDict->o.data=.dict es n->es.toList.map g3=ks.map some->ks.Nodup->
   (∀e∈es,∃x t,e.key=.str x t/\e.hash=hashStr g.w x)->cr g l (es.toList.map (·.val))->RV g (.jm ks l) (.ref a)
inductive cr (g:G):List V->List Value->Prop
 |nil:cr g [] []
 |cons {v x vs xs:_}:RV g v x->cr g vs xs->cr g (v::vs) (x::xs)
end
theorem RV.mono(L:g.Le g')(h:RV g v x):RV g' v x:=
 RV.rec (motive_2:=λvs a _=>cr g' vs a) .none .bool .int .str (λh=>.ref (L.at h)) .glob (λh _ r=>.tup (L.cm _ _ h) r) (λh _ r=>.lst (L.cm _ _ h) r) (λh c d k n q _ r=>.jm (L.cm _ _ h) c d k n (by rw [L.w];exact q) r) .nil (λ_ _=>.cons) h
theorem cr.ind{P:List V->List Value->Prop}(d:P [] [])(c:∀{v x vs xs},RV g v x->cr g vs xs->P vs xs->P (v::vs) (x::xs))(h:cr g vs xs):P vs xs:=by
 induction vs generalizing xs with
 |nil=>cases h;exact d
 |cons v vs b=>cases h with|cons a r=>exact c a r (b r)
theorem cr.mono(L:g.Le g')(h:cr g vs xs):cr g' vs xs:=h.ind .nil λa _ r=>.cons (a.mono L) r
theorem cr.length(h:cr g vs xs):vs.length=xs.length:=h.ind (P:=λvs xs=>vs.length=xs.length) rfl λ_ _ e=>bA (· +1) e
theorem cr.get(h:cr g vs xs):∀{i:Nat} {v:V},vs[i]? =some v->∃x,xs[i]? =some x/\RV g v x:=by
 refine h.ind (P:=λvs xs=>∀{i:Nat} {v:V},vs[i]? =some v->∃x,xs[i]? =some x/\RV g v x) (λh=>aG h) λ{v x _ _} a _ ih {i w} e=>?_;cases i with
 |zero=>(replace e:=aw e;subst e);exact ⟨x,rfl,a⟩
 |succ i=>exact ih e
theorem cr.append(h:cr g vs xs){ws:List V}{b:List Value}(c:cr g ws b):cr g (vs++ws) (xs++b):=h.ind (P:=λvs xs=>cr g (vs++ws) (xs++b)) c λa _ r=>.cons a r
inductive It where
 |seq (v:V) (i:Nat)
 |str (x:Str) (i:Nat)
 |fM (x n:Int)
 deriving Inhabited
set_option genCtorIdx true in
set_option genInjectivity true in
inductive C where
 |list (l:List V)
 |dict (ks:List Str) (vs:List V)
 |inst (cls:Addr) (ks:List Str) (vs:List V)
 |exc (ks:List Str) (vs:List V)
 |var (v:Option V)
 |iter (it:It)
 |enum (v:V) (i:Nat)
 |dead
 deriving Inhabited
variable {iS S S' PQ new ay aK upd Sv S1 S2 S3:List C}{c' c0 C':C}{X:Nat->bW->List C->Prop}{pt:V->bW->List C->Option (bW×List C)}
noncomputable def Aq:V->String
 |.tup _=>"tuple_iterator"
 |_=>"list_iterator"
noncomputable def rp(g:G):It->Obj->Prop
 |.seq v i,o=>∃b,RV g v (.ref b)/\o.cls=.type (Aq v)/\o.data=.fields #[.ref b,.int i 0]
 |.str x i,o=>∃t,o.cls=.type (strIterType x)/\o.data=.fields #[.str x t,.int i 0]
 |.fM x n,o=>o={cls:=.type "range_iterator",data:=.fields #[rawInt x,rawInt n,rawInt 1]}
theorem rp.mono(L:g.Le g'){it:It}(h:rp g it o):rp g' it o:=by
 cases it with
 |seq v i=>obtain ⟨b,p,q⟩:=h;exact ⟨b,p.mono L,q⟩
 |str=>exact h
 |fM=>exact h
noncomputable def Y4(a:Addr×Option Addr):List Addr:=a.1::a.2.toList
noncomputable def iq(g:G)(h:Heap)(d:Addr)(ks:List Str)(vs:List V):Prop:=
 ∃o es n,h.get? d=some o/\o.ExactDict/\o.data=.dict es n/\es.toList.map g3=ks.map some/\ks.Nodup/\
  (∀e∈es,∃x t,e.key=.str x t/\e.hash=hashStr g.w x)/\cr g vs (es.toList.map (·.val))
theorem au{o:Option α}{f:α->β}{y:β}(h:o.map f=some y):∃x,o=some x/\f x=y:=by
 cases o with
 |none=>exact aG h
 |some x=>(replace h:=aw h;subst h);exact ⟨x,rfl,rfl⟩
noncomputable def aD(x y:Str):Bool:=x.cps.toList==y.cps.toList
theorem gq(x y:Str):(x==y)=aD x y:=by unfold aD;rw [Bool.eq_iff_iff,j6,j6];exact ⟨λh=>by rw [h],λh=>Str.ext' (Array.ext' h)⟩
theorem be{x y:Str}:aD x y=true ↔ x=y:=by rw [<-gq,j6]
theorem dR{x y:Str}:aD x y=false ↔ x≠y:=by rw [<-gq,qY]
noncomputable def fieldOf:List Str->List V->Str->Option V
 |k::ks,v::vs,x=>match aD k x with
  |true=>some v
  |false=>fieldOf ks vs x
 |_,_,_=>none
theorem bO{x k:Str}:
 fieldOf (k::ks) (v::vs) x=
  match aD k x with
  |true=>some v
  |false=>fieldOf ks vs x:=by rfl
noncomputable def bX:List Str->List V->Str->V->List Str×List V
 |k::ks,w::vs,x,v=>match aD k x with
  |true=>(k::ks,v::vs)
  |false=>(k::(bX ks vs x v).1,w::(bX ks vs x v).2)
 |_,_,x,v=>([x],[v])
theorem jo{x:Str}{a:V}{k:Str}{w:V}:
 bX (k::ks) (w::vs) x a=
  match aD k x with
  |true=>(k::ks,a::vs)
  |false=>(k::Prod.fst (bX ks vs x a),w::Prod.snd (bX ks vs x a)):=by rfl
theorem kY{x k:Str}(e:aD k x=true):fieldOf (k::ks) (v::vs) x=some v:=by rw [bO,e]
theorem iZ{x k:Str}(e:aD k x=false):fieldOf (k::ks) (v::vs) x=fieldOf ks vs x:=by rw [bO,e]
theorem Ar{x:Str}(b:ks.length=vs.length):(bX ks vs x v).1.length=(bX ks vs x v).2.length/\
 (∀y,fieldOf (bX ks vs x v).1 (bX ks vs x v).2 y=if y=x then some v else fieldOf ks vs y)/\(bX ks vs x v).1.length<=ks.length+1:=by
 induction ks generalizing vs with
 |nil=>
  cases vs with
  |cons _ _=>exact Nat.noConfusion b
  |nil=>
   refine ⟨rfl,λy=>?_,cJ _⟩
   show fieldOf [x] [v] y=if y=x then some v else none
   by_cases h:y=x
   ·rw [bx h,kY (be.mpr h.symm)]
   ·rw [bj h,iZ (dR.mpr (cy h))];rfl
 |cons k ks a=>
  cases vs with
  |nil=>exact Nat.noConfusion b
  |cons w vs=>
   have b:=lM b
   cases e:aD k x with
   |true=>
    have c:=be.mp e
    clear a;subst c
    rw [show bX (k::ks) (w::vs) k v=(k::ks,v::vs) by rw [jo,e]]
    refine ⟨bA Nat.succ b,λy=>?_,eR _⟩
    show fieldOf (k::ks) (v::vs) y=_
    by_cases h:y=k
    ·subst h;rw [bx rfl,kY e]
    ·rw [bj h,iZ (dR.mpr (cy h)),iZ (dR.mpr (cy h))]
   |false=>
    have a:=a b
    rw [show bX (k::ks) (w::vs) x v=(k::(bX ks vs x v).1,w::(bX ks vs x v).2) by rw [jo,e]]
    refine ⟨bA Nat.succ a.1,λy=>?_,lN a.2.2⟩
    show fieldOf (k::(bX ks vs x v).1) (w::(bX ks vs x v).2) y=_
    cases q:aD k y with
    |true=>
     rw [kY q,kY q,bj λh=>by clear a;clear a;subst h;exact eI (e.symm.trans q)]
    |false=>rw [iZ q,iZ q];exact a.2.1 y
noncomputable def FieldsAt(g:G)(h:Heap)(d:Addr)(ks:List Str)(vs:List V):Prop:=
 ∃m,h.Ns1 d m/\ks.length=vs.length/\(∀x v,fieldOf ks vs x=some v->∃y,m x=some y/\RV g v y)/\(∀x,fieldOf ks vs x=none->m x=none)
noncomputable def RC(g:G)(h:Heap):C->Addr×Option Addr->Prop
 |.list l,a=>a.2=none/\∃vs n,h.get? a.1=some {cls:=.type "list",data:=.seq vs n}/\cr g l vs.toList
 |.dict ks l,a=>a.2=none/\iq g h a.1 ks l
 |.inst c ks l,a=>∃o d,h.get? a.1=some o/\o.cls=.ref c/\(∀x,o.data≠ .cls x)/\o.dict=some d/\d≠a.1/\a.2=some d/\FieldsAt g h d ks l
 |.exc ks l,a=>∃o d,h.get? a.1=some o/\o.cls=.ref bL/\(∃fs,o.data=.fields fs/\fs.size=6/\fs[2]? =some .none)/\o.dict=some d/\d≠a.1/\a.2=some d/\FieldsAt g h d ks l
 |.iter it,a=>a.2=none/\∃o,h.get? a.1=some o/\rp g it o
 |.enum v i,a=>∃it,a.2=some it/\a.1≠it/\(∃l,RV g v (.ref l)/\h.IsListIter it l i)/\∃old,IsEnum h a.1 it i old
 |.dead,a=>∀b∈Y4 a,∃o,h.get? b=some o
 |.var v,a=>a.2=none/\∃o x,h.get? a.1=some o/\o.data=.cell x/\∀w,v=some w->∃y,x=some y/\RV g w y
theorem iq.mono(L:g.Le g'){d ks vs}(x:iq g h d ks vs):iq g' h d ks vs:=by refine gl λj i=>?_;refine tG x λo es n a b c e f q r=>?_;clear x;refine i ?_;exact Mc o es n a b c e f (by rw [L.w];exact q) (r.mono L)
theorem FieldsAt.mono(L:g.Le g'){d ks vs}(x:FieldsAt g h d ks vs):FieldsAt g' h d ks vs:=by refine gK x λm a b c e=>?_;clear x;exact ⟨m,a,b,λy v hv=>let ⟨z,p,q⟩:=c y v hv;⟨z,p,q.mono L⟩,e⟩
theorem RC.mono(L:g.Le g'){c a}(x:RC g h c a):RC g' h c a:=by
 cases c with
 |list l=>obtain ⟨z,vs,n,p,u⟩:=x;exact ⟨z,vs,n,p,u.mono L⟩
 |dict ks l=>exact ⟨x.1,x.2.mono L⟩
 |inst c ks l=>obtain ⟨o,d,p,q,r,s,t,u,v⟩:=x;exact Ao o d p q r s t u (v.mono L)
 |exc ks l=>obtain ⟨o,d,p,q,r,s,t,u,v⟩:=x;exact Ao o d p q r s t u (v.mono L)
 |iter it=>obtain ⟨z,o,p,q⟩:=x;exact ⟨z,o,p,q.mono L⟩
 |enum v i=>obtain ⟨it,p,q,⟨l,r,b⟩,t⟩:=x;exact ⟨it,p,q,⟨l,r.mono L,b⟩,t⟩
 |dead=>exact x
 |var v=>obtain ⟨z,o,y,p,q,r⟩:=x;exact ⟨z,o,y,p,q,λw e=>let ⟨u,f,h'⟩:=r w e;⟨u,f,h'.mono L⟩⟩
theorem RC.at{c a}(x:RC g h c a)(k:∀b∈Y4 a,∀o,h.get? b=some o->h'.get? b=some o):RC g h' c a:=by
 have f:=k a.1 (by simp [Y4]);cases c with
 |list l=>obtain ⟨z,vs,n,p,q⟩:=x;exact ⟨z,vs,n,f _ p,q⟩
 |dict ks l=>obtain ⟨z,o,es,n,p,q⟩:=x;exact ⟨z,o,es,n,f _ p,q⟩
 |inst c ks l=>
  refine ij x λo d p q r s t u j=>?_;clear x;refine ae j λm v w=>?_;clear j;exact ⟨o,d,f _ p,q,r,s,t,u,m,v.at (k d (by simp [Y4,u])),w⟩
 |exc ks l=>
  refine ij x λo d p q r s t u j=>?_;clear x;refine ae j λm v w=>?_;clear j;exact ⟨o,d,f _ p,q,r,s,t,u,m,v.at (k d (by simp [Y4,u])),w⟩
 |iter it=>obtain ⟨z,o,p,q⟩:=x;exact ⟨z,o,f _ p,q⟩
 |enum v i=>obtain ⟨it,p,q,⟨l,r,E,D,C⟩,A,t⟩:=x;exact ⟨it,p,q,⟨l,r,E,k it (by simp [Y4,p]) _ D,C⟩,A,f _ t⟩
 |dead=>exact λb B=>let ⟨o,e⟩:=x b B;⟨o,k b B o e⟩
 |var v=>obtain ⟨z,o,y,p,q⟩:=x;exact ⟨z,o,y,f _ p,q⟩
theorem RC.n7{c:C}{y:Addr}(x:∀b∈Y4 a,∃o,h.get? b=some o)(k:∀b o,b≠y->h.get? b=some o->h'.get? b=some o)(e:∃o,h'.get? y=some o):RC g h' .dead a:=λb i=>by
 by_cases d:b=y
 ·rw [d];exact e
 ·obtain ⟨o,f⟩:=x b i;exact ⟨o,k b o d f⟩
theorem RC.there{c a}(x:RC g h c a):∀b∈Y4 a,∃o,h.get? b=some o:=by
 intro b j;cases c with
 |list l=>
  refine aq x λz f=>?_;clear x;refine bd f λvs n p q=>?_;clear f;simp [Y4,z] at j;subst j;exact ⟨_,p⟩
 |dict ks l=>
  refine aq x λz f=>?_;clear x;refine iW f λo es n p q=>?_;clear f;simp [Y4,z] at j;subst j;exact ⟨o,p⟩
 |inst c ks l=>
  refine ij x λo d p q r s t u f=>?_;clear x;refine ae f λm v w=>?_;clear f;refine iW v λA _ _ e _=>?_;clear v;simp [Y4,u] at j;refine aQ j (λf=>?_) (λk=>?_)
  ·clear j;subst f;exact ⟨o,p⟩
  ·clear j t;subst k;exact ⟨A,e⟩
 |exc ks l=>
  refine ij x λo d p q r s t u f=>?_;clear x;refine ae f λm v w=>?_;clear f;refine iW v λA _ _ e _=>?_;clear v;simp [Y4,u] at j;refine aQ j (λf=>?_) (λk=>?_)
  ·clear j;subst f;exact ⟨o,p⟩
  ·clear j;subst k;exact ⟨A,e⟩
 |iter it=>
  refine aq x λz f=>?_;clear x;refine ae f λo p q=>?_;clear f;simp [Y4,z] at j;subst j;exact ⟨o,p⟩
 |enum v i=>
  refine gK x λit p q f k=>?_;clear x;refine ae f λl r B=>?_;clear f;refine ae B λE C F=>?_;clear B;refine ar k λD t=>?_;clear k;simp [Y4,p] at j;refine aQ j (λf=>?_) (λk=>?_)
  ·clear j;subst f;exact ⟨_,t⟩
  ·clear j t p;subst k;exact ⟨E,C⟩
 |dead=>exact x b j
 |var v=>
  refine aq x λz f=>?_;clear x;refine bd f λo y p q=>?_;clear f;simp [Y4,z] at j;subst j;exact ⟨o,p⟩
noncomputable def Zi(env:Env)(m:Str->Option Value)(n:Str):Option Value:=match env.kindOf n with
 |some .cell=>(env.cells.lookup n).map Value.ref
 |some .free=>(env.cells.lookup n).map Value.ref
 |_=>m n
structure Cx where
 prog:Program
 w:World
 base:Heap
 mg:Str->Option Value
 mb:Str->Option Value
 os:OsState
 fN:Addr->Option Obj
 K:PySem.W.Frag
structure Fx extends Cx where
 P:Addr->Option Obj
 FP:Addr->Option Obj
 env:Env
 top:List Env
 aj:List Str
 hand:Option Addr
variable {F:Fx}
noncomputable def td(F:Fx)(g:G):List Addr:=F.env.locals::g.cs.flatMap Y4
noncomputable def mP(F:Fx)(g:G)(b:Addr):Prop:=F.base.get? b=none/\F.P b=none/\F.FP b=none/\g.cm b=none
structure iG (F:Fx) (g:G) (S:List C) (h:Heap) (ts:List (Option Addr)):Prop where
 len:ts.length=S.length
 one:∀(k:Nat) a ks vs,g.cs[k]? =some a->S[k]? =some (.exc ks vs)->∃o fs,h.get? a.1=some o/\o.data=.fields fs/\fs[1]? =some (match ts[k]? with|some (some T)=>.ref T|_=>.none)
 obj:∀T,some T∈ts->(∃o fs,h.get? T=some o/\o.data=.fields fs/\3<fs.size/\o.cls=.type "traceback")/\T∉td F g/\mP F g T
 nd:∀(i j:Nat) T,ts[i]? =some (some T)->ts[j]? =some (some T)->i=j
structure Y1 (F:Fx) (g:G) (ls:bW) (S:List C) (s:Shared):Prop where
 gw:g.w=F.w
 base:∀b o,F.base.get? b=some o->s.heap.get? b=some o
 dI:∀b o,F.P b=some o->s.heap.get? b=some o
 kZ:∀b o,F.FP b=some o->∃sl,s.heap.get? b=some {o with slots:=sl}
 cm:∀b o,g.cm b=some o->s.heap.get? b=some o
 len:g.cs.length=S.length
 cells:∀(k:Nat) a c,g.cs[k]? =some a->S[k]? =some c->RC g s.heap c a
 nodup:(F.env.locals::g.cs.flatMap Y4).Nodup
 apart:∀b∈F.env.locals::g.cs.flatMap Y4,F.base.get? b=Option.none/\F.P b=Option.none/\F.FP b=Option.none/\g.cm b=Option.none
 locs:∃m,s.heap.Ns F.env.locals m/\∀(i:Nat) n v,F.aj[i]? =some n->ls[i]? =some (some v)->∃x,Zi F.env m n=some x/\RV g v x
 gens:s.gens= #[]
 os:s.os=F.os
 bh:∀b o,F.FP b=some o->F.base.get? b=Option.none/\F.P b=Option.none/\g.cm b=Option.none
 tb:∃ts,iG F g S s.heap ts
 fN:∀b o,F.fN b=some o->g.cm b=some o
 cw:∀b o,F.P b=some o->g.cm b=Option.none
 hJ:∀h,F.hand=some h->(h∈g.cs.flatMap Y4\/∃o,F.P h=some o)/\∃o fs,s.heap.get? h=some o/\o.data=.fields fs/\fs[2]? =some .none/\∃T,fs[1]? =some (.ref T)
theorem Y1.toks{ls S s}(R:Y1 F g ls S s)(t:Nat):Y1 F g ls S {s with toks:=t}:=
 ⟨R.gw,R.base,R.dI,R.kZ,R.cm,R.len,R.cells,R.nodup,R.apart,R.locs,R.gens,R.os,R.bh,R.tb,R.fN,R.cw,R.hJ⟩
theorem Y1.gQ{ls S s}(R:Y1 F g ls S s):∀b∈F.env.locals::g.cs.flatMap Y4,∃o,s.heap.get? b=some o:=by
 intro b c;refine gl λn h=>?_;refine aQ (nV c) (λd=>?_) (λc=>?_)
 ·clear c;subst d;refine ae R.locs λm d _=>?_;refine iW d λo _ _ e _=>?_;clear d;refine h ?_;exact ⟨o,e⟩
 ·refine ae (Nk c) λa l i=>?_;refine ar (Ep l) λk f=>?_;refine h ?_;have j:k<S.length:=by rw [<-R.len];exact (fx f)
  exact (R.cells k a S[k] f (d9 j)).there b i
noncomputable def G.dn(g:G)(a:Addr)(o:Obj):G:={g with cm:=λb=>if b=a then some o else g.cm b}
theorem Y1.bR{ls S s}(R:Y1 F g ls S s)(o:Obj):g.Le (g.dn s.heap.objs.size o):=by refine ⟨rfl,λa b h=>?_,[],by simp [G.dn]⟩;have:a≠s.heap.objs.size:=cc (cI (R.cm _ _ h));simp -iota [G.dn,this];exact h
theorem dU(L:g.Le g'){a:Addr}(c:∀o,h.get? a=some o->h'.get? a=some o)
 (x:∃m,h.Ns a m/\∀(i:Nat) n v,aj[i]? =some n->ls[i]? =some (some v)->∃x,Zi env m n=some x/\RV g v x):
 ∃m,h'.Ns a m/\∀(i:Nat) n v,aj[i]? =some n->ls[i]? =some (some v)->∃x,Zi env m n=some x/\RV g' v x:=by
 refine gl λj f=>?_
 refine ae x λm b q=>?_;clear x;refine iW b λo es d e r=>?_;clear b
 refine f ?_
 exact ⟨m,⟨o,es,d,c o e,r⟩,λi n v hn hv=>let ⟨y,p,z⟩:=q i n v hn hv;⟨y,p,z.mono L⟩⟩
theorem iG.keeps{S h h' ts}(T:iG F g S h ts)(k:∀b o,h.get? b=some o->h'.get? b=some o)(d:g'.cs=g.cs)(j:∀b,(∃o,h.get? b=some o)->g.cm b=none->g'.cm b=none):iG F g' S h' ts:=by
 refine ⟨T.len,λi a ks vs w n=>?_,λt u=>?_,T.nd⟩
 ·refine bd (T.one i a ks vs (d▸w) n) λo c p q=>?_;exact gb o c (k _ _ p) q
 ·refine gl λx s=>?_;refine lO (T.obj t u) λe r f m v l=>?_;refine bd e λo c p q=>?_;clear e;refine s ?_;exact ⟨⟨o,c,k _ _ p,q⟩,by unfold td at r |-;rw [d];exact r,f,m,v,j t ⟨o,p⟩ l⟩
theorem Y1.push{ls S s}(R:Y1 F g ls S s)(o:Obj)(t:Nat):Y1 F g ls S {s with heap:=s.heap.push o,toks:=t}:=by
 have k:∀b d,s.heap.get? b=some d->(s.heap.push o).get? b=some d:=λb d e=>eZ _ e;exact ⟨R.gw,λb o e=>k _ _ (R.base b o e),λb o e=>k _ _ (R.dI b o e),λb o e=>let ⟨l,q⟩:=R.kZ b o e;⟨l,k _ _ q⟩,λb o e=>k _ _ (R.cm b o e),R.len,
  λi a c m f=>(R.cells i a c m f).at λb _ o e=>k _ _ e,R.nodup,R.apart,dU (G.Le.refl _) (k _) R.locs,R.gens,R.os,R.bh,let ⟨ts,T⟩:=R.tb;⟨ts,T.keeps k rfl λ_ _ e=>e⟩,R.fN,R.cw,λh e=>let ⟨p,o,j,q,r⟩:=R.hJ h e;⟨p,o,j,k _ _ q,r⟩⟩
theorem Y1.mQ{ls S s}(R:Y1 F g ls S s)(o:Obj)(n:o.isFreed=false)(t:Nat):Y1 F (g.dn s.heap.objs.size o) ls S {s with heap:=s.heap.push o,toks:=t}:=by
 have L:=R.bR o;have f:=R.push o t;refine ⟨R.gw,f.base,f.dI,f.kZ,λb u e=>?_,R.len,λi a c v l=>(f.cells i a c v l).mono L,R.nodup,λb d=>?_,dU L (λ_ e=>e) f.locs,R.gens,R.os,λb h e=>?_,?_,λb o e=>L.cm _ _ (R.fN b o e),λb o e=>?_,f.hJ⟩
 ·simp only [G.dn] at e;split at e
  ·rename_i d;subst d;(replace e:=aw e;subst e);exact gZ _ n
  ·exact f.cm b u e
 ·refine gl λw m=>?_;refine eu (R.apart b d) λp q r z=>?_;refine m ?_;refine ⟨p,q,r,?_⟩;refine ar (R.gQ b d) λh j=>?_;have:b≠s.heap.objs.size:=cc (cI j);simp -iota [G.dn,this];exact z
 ·refine ck (R.bh b h e) λp q r=>?_;refine ar (R.kZ b h e) λx d=>?_;have:b≠s.heap.objs.size:=cc (cI d);exact ⟨p,q,by (simp -iota [G.dn,this];exact r)⟩
 ·refine ar R.tb λts T=>?_;refine ⟨ts,T.keeps (λb o e=>eZ _ e) rfl λb d k=>?_⟩;refine ar d λh j=>?_;clear d;have:b≠s.heap.objs.size:=cc (cI j);simp -iota [G.dn,this];exact k
 ·have:b≠s.heap.objs.size:=cc (cI (R.dI b o e));simp -iota [G.dn,this];exact R.cw b o e
theorem fO{cs:List (Addr×Option Addr)}(hn:(L::cs.flatMap Y4).Nodup){b:Addr×Option Addr}(d:cs[k]? =some a)(f:cs[j]? =some b)(l:j≠k):∀x∈Y4 a,∀y∈Y4 b,x≠y:=by
 replace hn:=(Nj hn)
 intro x i y h e;subst e;induction cs generalizing k j with
 |nil=>simp at d
 |cons c cs g=>
  rw [py,pz] at hn;refine ck hn λo n m=>?_;clear hn;cases k with
  |zero=>
   clear g;cases j with
   |zero=>exact l rfl
   |succ j=>simp at d f;subst d;exact m x i x (mh f h) rfl
  |succ k=>
   cases j with
   |zero=>simp at d f;clear g;subst f;exact m x h x (mh d i) rfl
   |succ j=>exact g (by simpa using d) (by simpa using f) (λe=>l (bA Nat.succ e)) n
theorem Y1.turn{ls S s}(R:Y1 F g ls S s){x:Addr}(l:g.cs[k]? =some a)(v:x∈Y4 a)(f:∀b o,b≠x->s.heap.get? b=some o->h'.get? b=some o)(N:RC g h' c' a)(t:Nat)
 (u:∀ks vs,c'=.exc ks vs->x≠a.1/\∃E H,S[k]? =some (.exc E H)) (J:∀o fs,s.heap.get? x=some o->o.data=.fields fs->fs[2]?≠some .none):
 Y1 F g ls (S.set k c') {s with heap:=h',toks:=t}:=by
 have A:x∈F.env.locals::g.cs.flatMap Y4:=j3 _ (mh l v)
 refine eu (R.apart x A) λp1 p2 p3 p4=>?_
 have B:∀{m:Addr->Option Obj},m x=Option.none->∀b o,m b=some o->b≠x:=λA b o e z=>by clear u J f v p1 p2 p3 p4;subst z;rw [A] at e;exact aG e
 have L:F.env.locals≠x:=by
  have:=(yf R.nodup)
  exact λe=>this (e▸mh l v)
 refine ⟨R.gw,λb o e=>f b o (B p1 b o e) (R.base b o e),λb o e=>f b o (B p2 b o e) (R.dI b o e),λb o e=>let ⟨M,q⟩:=R.kZ b o e;⟨M,f b _ (B p3 b o e) q⟩,λb o e=>f b o (B p4 b o e) (R.cm b o e),by (simp -iota [];exact R.len),λi b c d j=>?_,R.nodup,R.apart,dU (G.Le.refl _) (λo e=>f _ o L e) R.locs,R.gens,R.os,R.bh,?_,R.fN,R.cw,λh e=>let ⟨p,o,fs,q,r⟩:=R.hJ h e;⟨p,o,fs,f _ _ (λz=>J o fs (z▸q) r.1 r.2.1) q,r⟩⟩
 rotate_left
 ·refine ar R.tb λts T=>?_
  refine ⟨ts,by rw [T.len,length_set],λi b ks vs d j=>?_,λy C=>?_,T.nd⟩
  ·by_cases n:i=k
   ·subst n
    rw [l] at d;(replace d:=aw d;subst d)
    have D:i<S.length:=by rw [<-R.len];exact (fx l)
    rw [jP D] at j
    refine gl λK I=>?_
    refine aq (u ks vs (aw j)) λe1 w=>?_;refine dZ w λE H e2=>?_;clear w
    refine bd (T.one i a E H l e2) λo fs p q=>?_
    refine I ?_
    exact gb o fs (f _ _ (cy e1) p) q
   ·rw [j4 (cy n)] at j
    refine bd (T.one i b ks vs d j) λo fs p q=>?_
    exact gb o fs (f _ _ (λz=>fO R.nodup l d n x v b.1 (.head _) z.symm) p) q
  ·refine gl λK I=>?_
   refine aq (T.obj y C) λw r=>?_;refine bd w λo fs p q=>?_;clear w
   refine I ?_
   exact ⟨⟨o,fs,f _ _ (λz=>r.1 (z▸A)) p,q⟩,r⟩
 by_cases n:i=k
 ·clear u;subst n
  rw [l] at d;(replace d:=aw d;subst d)
  have D:i<S.length:=by rw [<-R.len];exact (fx l)
  rw [jP D] at j
  (replace j:=aw j;subst j);exact N
 ·rw [j4 (cy n)] at j
  exact (R.cells i b c d j).at λy C o e=>f y o (λz=>fO R.nodup l d n x v y C z.symm) e
theorem Y1.uJ{ls S s}(R:Y1 F g ls S s){n:Addr×Option Addr}{c:C}(v:∀b o,b∉Y4 n->s.heap.get? b=some o->h'.get? b=some o)
 (d:∀b∈Y4 n,mP F g b/\b∉F.env.locals::g.cs.flatMap Y4) (H:∃ts,iG F g S s.heap ts/\∀b∈Y4 n,some b∉ts) (hJ:(Y4 n).Nodup) (hc:RC {g with cs:=g.cs++[n]} h' c n) (t:Nat)
 (I:∀ks vs,c=.exc ks vs->∃o fs,h'.get? n.1=some o/\o.data=.fields fs/\fs[1]? =some .none):
 Y1 F {g with cs:=g.cs++[n]} ls (S++[c]) {s with heap:=h',toks:=t}:=by
 have L:g.Le {g with cs:=g.cs++[n]}:=⟨rfl,λ_ _ h=>h,[n],rfl⟩
 have w:∀b∈F.env.locals::g.cs.flatMap Y4,b∉Y4 n:=λb l hn=>by exact (d b hn).2 l
 have G:∀{m:Addr->Option Obj},(∀b∈Y4 n,m b=Option.none)->∀b o,m b=some o->b∉Y4 n:=λq b o e l=>by rw [q b l] at e;exact aG e
 have Q:∀{k:Nat} {a c},g.cs[k]? =some a->S[k]? =some c->∀b∈Y4 a,b∉Y4 n:=λX _ b l=>w b (.tail _ (mh X l))
 have U:=G λb l=>(d b l).1.2.1
 refine ⟨R.gw,λb o e=>v _ _ ((G λb l=>(d b l).1.1) b o e) (R.base b o e),λb o e=>v _ _ (U b o e) (R.dI b o e),λb o e=>let ⟨sl,q⟩:=R.kZ b o e;⟨sl,v _ _ ((G λb l=>(d b l).1.2.2.1) b o e) q⟩,λb o e=>v _ _ ((G λb l=>(d b l).1.2.2.2) b o e) (R.cm b o e),by simp [R.len],λi a c' f u=>?_,?_,λb l=>?_,dU L (λ_ e=>v _ _ (w _ (.head _)) e) R.locs,R.gens,R.os,R.bh,?_,R.fN,R.cw,λh e=>let ⟨p,o,fs,q,r⟩:=R.hJ h e;⟨p.imp (λz=>by rw [mJ];exact mI _ z) id,o,fs,v _ _ (p.elim (λz=>w _ (.tail _ z)) λz_=>ar z_ λ_ z=>U _ _ z) q,r⟩⟩
 ·by_cases D:i<g.cs.length
  ·rw [fb D] at f
   rw [fb (by rw [<-R.len];exact D)] at u
   exact ((R.cells i a c' f u).mono L).at λb l o e=>v _ _ (Q f u b l) e
  ·have J:i=g.cs.length:=by
    have:=(fx f)
    simp at this;exact Nat.eq_of_lt_succ_of_not_lt ‹_› ‹_›
   subst J
   rw [eO (cJ _),jR] at f
   rw [R.len,eO (cJ _),jR] at u
   simp at f u;subst f u
   exact hc
 ·show (F.env.locals::(g.cs++[n]).flatMap Y4).Nodup
  rw [mJ,<-mK,pz]
  refine ⟨R.nodup,by simpa using hJ,λx Y y A e=>?_⟩
  subst e
  exact w x Y (by simpa using A)
 ·have Z:b∈F.env.locals::g.cs.flatMap Y4\/b∈Y4 n:=by
   have V:b∈F.env.locals::(g.cs++[n]).flatMap Y4:=l;rw [mJ,<-mK,mem_append] at V;refine aQ V (λh=>?_) (λh=>?_)
   ·exact .inl h
   ·exact .inr (by simpa using h)
  refine aQ Z (λh=>?_) (λh=>?_)
  ·exact R.apart b h
  ·exact (d b h).1
 ·refine ae H λts T H=>?_
  refine ⟨ts++[none],by simp [T.len],λi a ks vs f u=>?_,λy A=>?_,λi j y f u=>?_⟩
  ·by_cases D:i<g.cs.length
   ·have N:i<S.length:=by rw [<-R.len];exact D
    rw [fb D] at f
    rw [fb N] at u
    refine gl λK E=>?_
    refine bd (T.one i a ks vs f u) λo fs p q=>?_
    refine E ?_
    exact gb o fs (v _ _ (Q f u _ (.head _)) p) (by rw [fb (by rw [T.len];exact N)];exact q)
   ·have J:i=g.cs.length:=by
     have:=(fx f)
     simp at this;exact Nat.eq_of_lt_succ_of_not_lt ‹_› ‹_›
    clear D;subst J
    have f:(g.cs++[n])[g.cs.length]? =some a:=f
    rw [eO (cJ _),jR] at f
    rw [R.len,eO (cJ _),jR] at u
    simp at f u;subst f
    refine gl λK E=>?_
    refine aP (I ks vs u) λo fs p q r=>?_
    refine E ?_
    refine iY o fs p q ?_
    rw [R.len,<-T.len,eO (cJ _),jR]
    exact r
  ·refine gl λK E=>?_
   refine aQ (mem_append.mp A) (λA=>?_) (λA=>?_)
   ·refine ck (T.obj y A) λP r1 r2=>?_;refine bd P λo fs p q=>?_;clear P
    have W:y∉Y4 n:=λh=>H y h A
    refine E ?_
    refine ⟨⟨o,fs,v _ _ W p,q⟩,λB=>?_,r2⟩
    have B:y∈F.env.locals::(g.cs++[n]).flatMap Y4:=B
    rw [mJ,<-mK,mem_append] at B
    refine aQ B (λB=>?_) (λB=>?_)
    ·exact r1 B
    ·exact W (by simpa using B)
   ·simp at A
  ·have M:∀(i:Nat),(ts++[Option.none])[i]? =some (some y)->ts[i]? =some (some y):=λi h=>by
    by_cases D:i<ts.length
    ·rwa [fb D] at h
    ·rw [eO (Nat.not_lt.mp ‹_›)] at h;cases O:i - ts.length with
     |zero=>rw [O] at h;simp at h
     |succ n=>rw [O] at h;simp at h
   exact T.nd i j y (M i f) (M j u)
theorem Y1.mS{ls S s}(R:Y1 F g ls S s){n:Addr×Option Addr}{c:C}(r:∀b o,s.heap.get? b=some o->h'.get? b=some o)
 (a:∀b∈Y4 n,s.heap.get? b=none) (u:(Y4 n).Nodup) (w:RC {g with cs:=g.cs++[n]} h' c n) (t:Nat)
 (i:∀ks vs,c=.exc ks vs->∃o fs,h'.get? n.1=some o/\o.data=.fields fs/\fs[1]? =some .none):
 Y1 F {g with cs:=g.cs++[n]} ls (S++[c]) {s with heap:=h',toks:=t}:=by
 have f:∀{m:Addr->Option Obj} {b:Addr},b∈Y4 n->(∀o,m b=some o->∃l,s.heap.get? b=some l)->m b=Option.none:=λ{m b} d q=>by
  cases e:m b with
  |none=>rfl
  |some o=>obtain ⟨l,z⟩:=q o e;rw [a b d] at z;exact aG z
 refine R.uJ (λb o _ e=>r b o e) (λb d=>⟨⟨f d λo e=>⟨o,R.base b o e⟩,f d λo e=>⟨o,R.dI b o e⟩,f d λo e=>let ⟨y,q⟩:=R.kZ b o e;⟨_,q⟩,f d λo e=>⟨o,R.cm b o e⟩⟩,λh=>?_⟩) ?_ u w t i
 ·refine ar (R.gQ b h) λo j=>?_
  rw [a b d] at j;exact aG j
 ·refine ar R.tb λts T=>?_
  refine ⟨ts,T,λb d h=>?_⟩
  refine gl λx v=>?_
  refine aq (T.obj b h) λk _=>?_;refine bd k λo fs p _=>?_;clear k
  refine v ?_
  rw [a b d] at p;exact aG p
theorem k6{α:Type}:∀{l:List α},l.Nodup->∀{i j:Nat} {x:α},l[i]? =some x->l[j]? =some x->i=j
 |[],_,_,_,_,h,_=>by simp at h
 |y::l,hn,0,0,_,_,_=>rfl
 |y::l,hn,0,j+1,x,b,a=>by simp at b a;subst b;exact absurd (dP a) (yf hn)
 |y::l,hn,i+1,0,x,b,a=>by simp at b a;subst a;exact absurd (dP b) (yf hn)
 |y::l,hn,i+1,j+1,x,b,a=>by have:=k6 (Nj hn) (by simpa using b) (by simpa using a);exact bA Nat.succ this
theorem Y1.ET{ls S s}(R:Y1 F g ls S s){n:Str}{v:Option V}{x:Option Value}(J:F.aj[i]? =some n)(K:F.env.kindOf n=some .local)(N:F.aj.Nodup)
 (C:s.heap.Ns F.env.locals m/\∀(i:Nat) n v,F.aj[i]? =some n->ls[i]? =some (some v)->∃x,Zi F.env m n=some x/\RV g v x)
 (f:h'.Ns F.env.locals (λy=>if y=n then x else m y)) (hs:Heap.SameBut F.env.locals s.heap h') (hv:∀u,v=some u->∃y,x=some y/\RV g u y) (t:Nat):
 Y1 F g (ls.set i v) S {s with heap:=h',toks:=t}:=by
 refine eu (R.apart F.env.locals (.head _)) λp1 p2 p3 p4=>?_
 have d:∀b o,b≠F.env.locals->s.heap.get? b=some o->h'.get? b=some o:=λb o I e=>(hs.2 b I).trans e
 have E:∀{m:Addr->Option Obj},m F.env.locals=Option.none->∀b o,m b=some o->b≠F.env.locals:=λC b o e z=>by subst z;rw [C] at e;exact aG e
 refine ⟨R.gw,λb o e=>d b o (E p1 b o e) (R.base b o e),λb o e=>d b o (E p2 b o e) (R.dI b o e),λb o e=>let ⟨Q,q⟩:=R.kZ b o e;⟨Q,d b _ (E p3 b o e) q⟩,λb o e=>d b o (E p4 b o e) (R.cm b o e),R.len,
  λk a c B H=>(R.cells k a c B H).at λb I o e=>d b o (λz=>(yf R.nodup) (z▸mh B I)) e,R.nodup,R.apart,⟨_,f,λj L O l w=>?_⟩,R.gens,R.os,R.bh,?_,R.fN,R.cw,λh e=>let ⟨p,o,A,q,r⟩:=R.hJ h e;⟨p,o,A,d _ _ (λz=>by obtain ⟨W,_,_,e1,e2,_⟩:=C.1;rw [z,e1] at q;clear e1;(replace q:=aw q;subst q);rw [e2] at r;cases r.1) q,r⟩⟩
 rotate_left
 ·refine ar R.tb λts T=>?_
  refine ⟨ts,T.len,λi b ks vs B H=>?_,λy G=>?_,T.nd⟩
  ·refine bd (T.one i b ks vs B H) λo A p q=>?_
   exact gb o A (d _ _ (λz=>(yf R.nodup) (z▸mh B (.head _))) p) q
  ·refine gl λU P=>?_
   refine aq (T.obj y G) λD r=>?_;refine bd D λo A p q=>?_;clear D
   refine P ?_
   exact ⟨⟨o,A,d _ _ (λz=>r.1 (z▸ .head _)) p,q⟩,r⟩
 by_cases e:j=i
 ·clear f;subst e
  rw [J] at l;(replace l:=aw l;subst l)
  have M:j<ls.length:=by have:=(fx w);rwa [length_set] at this
  rw [jP M] at w
  refine ae (hv _ (aw w)) λy D G=>?_;clear hv;subst D
  exact ⟨y,by (delta Zi;(simp -iota [K];rfl)),G⟩
 ·rw [j4 (cy e)] at w
  refine ae (C.2 j L O l w) λy p q=>?_
  have:L≠n:=λz=>by clear f K;subst z;exact e (k6 N l J)
  refine ⟨y,?_,q⟩
  unfold Zi at p |-
  split at p
  ·exact p
  ·exact p
  ·(simp -iota [this];exact p)
theorem Y1.store{ls S s}(R:Y1 F g ls S s){n:Str}(f:F.aj[i]? =some n)(c:F.env.kindOf n=some .local)(b:F.aj.Nodup)
 (d:s.heap.Ns F.env.locals m/\∀(i:Nat) n v,F.aj[i]? =some n->ls[i]? =some (some v)->∃x,Zi F.env m n=some x/\RV g v x)
 (a:h'.Ns F.env.locals (λy=>if y=n then some x else m y)) (hs:Heap.SameBut F.env.locals s.heap h') (hv:RV g v x) (t:Nat):
 Y1 F g (ls.set i (some v)) S {s with heap:=h',toks:=t}:=R.ET f c b d a hs (λu e=>by (replace e:=aw e;subst e);exact ⟨x,rfl,hv⟩) t
noncomputable def V.int? :V->Option Int
 |.int i=>some i
 |_=>Option.none
noncomputable def V.bool? :V->Option Bool
 |.bool i=>some i
 |_=>Option.none
noncomputable def V.fg:V->Option Str
 |.str i=>some i
 |_=>Option.none
theorem BW{i:Str}:V.fg (V.str i)=some i:=by rfl
noncomputable def V.gh:V->Option (List V)
 |.tup i=>some i
 |_=>Option.none
noncomputable def V.v0:V->Option (List V)
 |.lst i=>some i
 |_=>Option.none
noncomputable def V.v7:V->Option (List Str×List V)
 |.jm i j=>some (i,j)
 |_=>Option.none
noncomputable def V.eJ:V->Option Nat
 |.ref i=>some i
 |_=>Option.none
theorem BX:V.eJ (V.ref i)=some i:=by rfl
noncomputable def C.gr:C->Option (List V)
 |.list i=>some i
 |_=>none
noncomputable def C.gM:C->Option (List Str×List V)
 |.dict i j=>some (i,j)
 |_=>none
theorem V.Jk(i:Int):(V.int i).int? =some i:=rfl
theorem V.Jl(i:Str):(V.str i).fg=some i:=rfl
theorem V.fQ(k:Nat):(V.ref k).eJ=some k:=rfl
theorem C.v8(l:List V):(C.list l).gr=some l:=rfl
theorem C.EV(ks:List Str)(vs:List V):(C.dict ks vs).gM=some (ks,vs):=rfl
theorem V.gR{i}(h:v.int? =some i):v=.int i:=by cases v<;>first|exact aG h|(replace h:=aw h;subst h);rfl
theorem V.v9{i}(h:v.bool? =some i):v=.bool i:=by cases v<;>first|exact aG h|(replace h:=aw h;subst h);rfl
theorem V.gp{i}(h:v.fg=some i):v=.str i:=by cases v<;>first|exact aG h|(replace h:=aw h;subst h);rfl
theorem V.iv{i}(h:v.gh=some i):v=.tup i:=by cases v<;>first|exact aG h|(replace h:=aw h;subst h);rfl
theorem V.Jm{i}(h:v.v0=some i):v=.lst i:=by cases v<;>first|exact aG h|(replace h:=aw h;subst h);rfl
theorem V.Jn{i}(h:v.v7=some i):v=.jm i.1 i.2:=by cases v<;>first|exact aG h|(replace h:=aw h;subst h);rfl
theorem V.gS{i}(h:v.eJ=some i):v=.ref i:=by cases v<;>first|exact aG h|(replace h:=aw h;subst h);rfl
theorem C.mT{v:C}{i}(h:v.gr=some i):v=.list i:=by cases v<;>first|exact aG h|(replace h:=aw h;subst h);rfl
theorem C.mU{v:C}{i}(h:v.gM=some i):v=.dict i.1 i.2:=by cases v<;>first|exact aG h|(replace h:=aw h;subst h);rfl
theorem RV.none_inv(h:RV g .none x):x=.none:=by cases h;rfl
theorem RV.bool_inv{b}(h:RV g (.bool b) x):x=.bool b:=by cases h;rfl
theorem RV.int_inv{i}(h:RV g (.int i) x):∃t,x=.int i t:=by cases h;exact ⟨_,rfl⟩
theorem RV.str_inv{i}(h:RV g (.str i) x):∃t,x=.str i t:=by cases h;exact ⟨_,rfl⟩
theorem RV.dw{k}(h:RV g (.ref k) x):∃a,x=.ref a.1/\g.cs[k]? =some a:=by cases h;exact ⟨_,rfl,by assumption⟩
theorem RV.dy{l}(h:RV g (.tup l) x):∃a vs n,x=.ref a/\g.cm a=some {cls:=.type "tuple",data:=.seq vs n}/\cr g l vs.toList:=by cases h;exact ⟨_,_,_,rfl,by assumption,by assumption⟩
theorem RV.lst_inv{l}(h:RV g (.lst l) x):∃a vs n,x=.ref a/\g.cm a=some {cls:=.type "list",data:=.seq vs n}/\cr g l vs.toList:=by cases h;exact ⟨_,_,_,rfl,by assumption,by assumption⟩
theorem strAt{i}(e:v.fg=some i)(h:RV g v x):∃t,x=.str i t:=RV.str_inv (V.gp e▸h)
theorem intAt{i}(e:v.int? =some i)(h:RV g v x):∃t,x=.int i t:=RV.int_inv (V.gR e▸h)
theorem Mf{k}(e:v.eJ=some k)(h:RV g v x):∃a,x=.ref a.1/\g.cs[k]? =some a:=RV.dw (V.gS e▸h)
theorem tI{l}(e:v.gh=some l)(h:RV g v x):∃a vs n,x=.ref a/\g.cm a=some {cls:=.type "tuple",data:=.seq vs n}/\cr g l vs.toList:=RV.dy (V.iv e▸h)
theorem RV.Jo{ks l}(h:RV g (.jm ks l) x):∃a o es n,x=.ref a/\g.cm a=some o/\o.ExactDict/\o.data=.dict es n/\es.toList.map g3=ks.map some/\ks.Nodup/\
 (∀e∈es,∃x t,e.key=.str x t/\e.hash=hashStr g.w x)/\cr g l (es.toList.map (·.val)):=by cases h;exact PN _ _ _ _ rfl (by assumption) (by assumption) (by assumption) (by assumption) (by assumption) (by assumption) (by assumption)
theorem cr.nil_inv{xs}(h:cr g [] xs):xs=[]:=by cases h;rfl
theorem cr.cons_inv{v vs xs}(h:cr g (v::vs) xs):∃y ys,xs=y::ys/\RV g v y/\cr g vs ys:=by cases h;exact ⟨_,_,rfl,by assumption,by assumption⟩
noncomputable section
variable {K:Frag}
noncomputable def mi:C->Option (Addr×List Str×List V)
 |.inst c ks vs=>some (c,ks,vs)
 |.exc ks vs=>some (bL,ks,vs)
 |_=>none
theorem RV.handed(h:RV g v x):handedIn x=true:=by cases h<;>rfl
theorem qI{c:C}{C:Addr}(r:RC g h c a)(b:mi c=some (C,ks,vs)):
 ∃o d,h.get? a.1=some o/\o.cls=.ref C/\notCls o=true/\o.dict=some d/\d≠a.1/\a.2=some d/\FieldsAt g h d ks vs:=by
 refine gl λj f=>?_
 cases c with
 |inst c' i vs'=>
  cases b
  refine ij r λo d p q r s t u v=>?_
  refine f (Ao o d p q ?_ s t u v)
  delta notCls
  cases hd:o.data with
  |cls x=>exact absurd hd (r x)
  |_=>rfl
 |exc i vs'=>
  cases b
  refine ij r λo d p q e s t u v=>?_;clear r;refine ae e λk r _=>?_;clear e
  exact f (Ao o d p q (by delta notCls;exact r▸rfl) s t u v)
 |_=>exact aG b
theorem BY(X:K.In s.heap)(R:Y1 F g ls S s){c:C}{C:Addr}(q:g.cs[k]? =some a)(G:S[k]? =some c)(N:mi c=some (C,ks,vs))
 (b:rk K C name=true) (B:fieldOf ks vs name=some v) {Q:cH} (p:∀x,RV g v x->Q x {s with toks:=s.toks+1}):wpAny (model F.prog F.w) A (getAttr (.ref a.1) name expr) Q E s:=by
 refine gl λO z=>?_
 refine ij (qI (R.cells k a c q G) N) λo d M t H u V T j=>?_;refine gK j λm f n D r=>?_;clear j;refine mO f λod es P hd I W Y L=>?_;clear f
 refine ae (D name v B) λy i h=>?_
 (delta rk at b;simp only [dD,j6] at b)
 refine z ?_
 refine get_value X (show InstAt s.heap a.1 o C (some od) from ⟨M,t,H,by refine u▸?_;exact hd⟩) (plainGet_of b.1).1 (findObj_own b.2.1 b.2.2 rfl ?_) h.handed (p y h)
 have e:=L name
 replace e:=i▸e
 unfold lookIn
 refine I▸?_
 obtain ⟨l⟩:=es
 (delta nsFind findBy at e;dsimp only at e)
 rw [find?_toArray] at e
 refine ae (au e) λU J f=>?_;clear e i h;subst f
 dsimp only
 exact J▸rfl
theorem wc{es:Array DictEntry}(hd:o.data=.dict es ep)(b:StrKeys es)(a:Str):lookIn a o=some (nsFind es a):=by
 unfold lookIn;refine hd▸?_;obtain ⟨l⟩:=es;delta nsFind findBy;rw [find?_toArray];dsimp only;cases e:l.find? (λe=>e.key.isStr a) with
 |some x=>rfl
 |none=>
  have:l.any (·.refKey)=false:=by rw [List.any_eq_false];intro x c;refine dZ (b x (by simpa using c)) λn t hn=>?_;simp [DictEntry.refKey,hn]
  exact this▸rfl
theorem BZ{M:Model}{d:Addr}{b:List Str}{Q:Fin->Shared->Prop}(hn:s.heap.Ns1 d m)(e:Within m b)(l:b.length<=4000)
 (c:∀h' t,h'.Ns1 d (λy=>if y=name then some x else m y)->Heap.SameBut d s.heap h'->Q (.done (.ret .none)) {s with heap:=h',toks:=t}):
 wpAny M A (Builtin.ObjectAttr.storeInDict d (.str name tk) name x) Q E s:=by
 delta Builtin.ObjectAttr.storeInDict Builtin.ObjectAttr.newKeyGuard
 refine ax (bn (ax (wpAny_nsSet1 hn λh' a hs=>?_)))
 refine gl λk i=>?_
 refine bg (a.count (Within.cons name x e)) λoD n j h f g=>?_
 refine i ?_
 refine ax (wpAny_lookBehind h (by refine f▸?_;exact pastItsLine_dict (aA g (by (refine cT▸?_;refine j8▸?_);exact fw (hY ‹_›) (by decide)))) ?_)
 exact bn (c h' _ a hs)
theorem ru{d:Addr}(c:ks.length=vs.length)(f:∀x v,fieldOf ks vs x=some v->∃y,m x=some y/\RV g v y)
 (b:∀x,fieldOf ks vs x=none->m x=none) (hn:h'.Ns1 d (λy=>if y=name then some x else m y)) (hv:RV g v x):FieldsAt g h' d (bX ks vs name v).1 (bX ks vs name v).2:=by
 refine ck (Ar (x:=name) (v:=v) c) λq1 q2 _=>?_
 refine ⟨_,hn,q1,λy w e=>?_,λy e=>?_⟩
 ·rw [q2] at e
  by_cases a:y=name
  ·rw [bx a] at e |-;(replace e:=aw e;subst e);exact ⟨x,rfl,hv⟩
  ·rw [bj a] at e |-;exact f y w e
 ·rw [q2] at e
  by_cases a:y=name
  ·rw [bx a] at e;exact aG (aS e)
  ·rw [bj a] at e |-;exact b y e
theorem pT:∀{ks:List Str} {vs:List V} {x:Str} {v:V},fieldOf ks vs x=some v->x∈ks
 |k::ks,w::vs,x,v=>@λh=>by
  rw [bO] at h;cases e:aD k x with
  |true=>refine (be.mp e)▸?_;exact .head _
  |false=>replace h:=e▸h;exact .tail _ (pT h)
 |[],_,_,_=>@λh=>aG h
 |_::_,[],_,_=>@λh=>aG h
theorem tJ(a:∀x,fieldOf ks vs x=none->m x=none):Within m ks:=by
 intro x b;cases e:fieldOf ks vs x with
 |none=>rw [a x e] at b;exact absurd rfl b
 |some v=>exact pT e
theorem yu(X:K.In s.heap)(R:Y1 F g ls S s){C:Addr}(D:g.cs[k]? =some a)(Z:S[k]? =some (.inst C ks vs))
 (h:mL K C name=true) (T:ks.length<=4000) (hv:RV g v x) {Q:mE}
 (O:∀c,Y1 F g ls (S.set k (.inst C (bX ks vs name v).1 (bX ks vs name v).2)) c->Q () c):wpAny (model F.prog F.w) A (setAttr (.ref a.1) name x) Q E s:=by
 refine gl λG n=>?_
 refine ij (qI (R.cells k a _ D Z) rfl) λo d B u i z L J H=>?_;refine gK H λm j p Y l=>?_;clear H
 refine n ?_
 have M:∀y,o.data≠ .cls y:=λy e=>by unfold notCls at i;replace i:=e▸i;exact eI i
 refine gl λG n=>?_
 refine mO j λod es P hd N Tk Tl PT=>?_;clear j
 (delta mL at h;simp only [dD,j6] at h)
 have I:InstAt s.heap a.1 o C (some od):=⟨B,u,i,by refine z▸?_;exact hd⟩
 refine n ?_
 refine set_plain X I h.1 (osa_open X I h.2.1 h.2.2.1 λb=>?_)
 refine gl λG n=>?_
 refine ae (any_some h.2.2.2) λcd hc V=>?_
 have fin:wpAny (model F.prog F.w) A.in1 (Builtin.ObjectAttr.storeInDict d (.str name s.toks) name x) (λfin c=>match fin with
  |.done f=>(match (Except.ok f:Result) with|.ok (.ret _)=>Q () c|.ok _=>False|.error e=>E e c)
  |.again c'=>c'.quiet=true/\codeAny (model F.prog F.w) A c' (λr c=>match r with|.ok (.ret _)=>Q () c|.ok _=>False|.error e=>E e c) c) (λe c=>E e c) {s with toks:=s.toks+1}:=by
  refine BZ ⟨od,es,P,hd,N,Tk,Tl,PT⟩ (tJ l) T λh' t U hs=>?_
  exact O _ (R.turn (c':=.inst C (bX ks vs name v).1 (bX ks vs name v).2) D (by simp [Y4,J]) (λb o W e=>(hs.2 b W).trans e) ⟨o,d,((hs.2 _ (cy L)).trans B),u,M,z,L,J,ru p Y l U hv⟩ t (λ_ _ e=>nomatch e) (λo' fs q r=>by have q:=q;replace q:=hd▸q;(replace q:=aw q;subst q);replace r:=N▸r;cases r))
 obtain ⟨oc,YG,YH,Wk⟩:=o
 dsimp only at u z
 clear M i I;subst u z
 refine n ?_
 refine ax (bn (ax (ax (wpAny_loadPart B (ax (looks_clsIn X hc _ _ _ _ (λ_ _ e=>e) ?_))))))
 rw [V]
 exact bn (ax (bn fin))
noncomputable def rv(h:Heap)(names:List Str):Prop:=∃nm q N bs sn sub ab col dd k0 k1 k2 k3 k5 newId mN,h.get? bL=some (excClassObj nm q bL N bs [.type "Exception",.type "BaseException",.type "object"] true sn sub ab col dd k0 k1 k2 k3 k5 newId)/\
 h.Ns N mN/\mN "__setattr__"=none/\∀n∈names,mN n=none/\typeLookup (.type "Exception") n=pure none
theorem B0(X:rv s.heap names)(R:Y1 F g ls S s)(Z:g.cs[k]? =some a)(T:S[k]? =some (.exc ks vs))
 (hn:name∈names) (hz:ks.length<=4000) (hv:RV g v x) {Q:mE}
 (hQ:∀s',Y1 F g ls (S.set k (.exc (bX ks vs name v).1 (bX ks vs name v).2)) s'->Q () s'):wpAny (model F.prog F.w) A (setAttr (.ref a.1) name x) Q E s:=by
 refine gl λU B=>?_
 refine ij (R.cells k a _ Z T) λo d i I n h J Y p=>?_;refine ae n λfs P Wl=>?_;clear n;refine gK p λm l t Jp j=>?_;clear p
 obtain ⟨nm,q,N,bs,sn,sub,ab,a1,dd,k0,k1,k2,k3,k5,O,mN,V,hN,Np,I5⟩:=X
 refine aq (I5 name hn) λn1 n2=>?_
 have K:a.1≠bL:=λe=>by rw [e,V] at i;refine gl λU B=>?_;clear h P;(replace i:=aw i;subst i);cases I
 obtain ⟨G,gs,dr,tk,os⟩:=s
 refine B ?_
 refine store_attr PySem.F.store_Exception V hN Np n1 n2 K ⟨o,i,I,(λc e=>by rw [P] at e;cases e),.inr ⟨d,h,J,l⟩⟩ (λh' Er I' ko kx=>?_) (tJ j) (aA hz (by rw [j8];exact le_add_left _ _))
 refine gl λU B=>?_
 refine EM (kx o i) λL e1 e2 H M e5=>?_
 have eo:L=o:=by obtain ⟨c1,d1,t1,s1⟩:=L;obtain ⟨c2,d2,t2,s2⟩:=o;dsimp only at e2 H M h;have:=e5 d h;dsimp only at this;refine e2▸?_;refine H▸?_;refine M▸?_;refine this▸?_;exact h▸rfl
 clear e5 e2 M H;subst eo
 refine gK I' λn8 C _ _ f=>?_;clear I'
 refine B ?_
 rw [e1] at C;(replace C:=aw C;subst C)
 refine aQ f (λn=>aq n λf _=>?_) (λp=>bc p λd' f _ i5=>?_)
 ·clear n
  rw [h] at f;exact aG (aS f)
 ·clear p
  rw [h] at f;(replace f:=aw f;subst f)
  have u:∀b z,b≠d->G.get? b=some z->h'.get? b=some z:=λb z hb e=>by
   by_cases W:b=a.1
   ·subst W;rw [i] at e;(replace e:=aw e;subst e);exact e1
   ·exact ko b z W (λWm dx D y=>by rw [i] at D;(replace D:=aw D;subst D);rw [h] at y;(replace y:=aw y;subst y);exact hb) e
  exact hQ _ (R.turn (c':=.exc (bX ks vs name v).1 (bX ks vs name v).2) Z (by simp [Y4,Y]) u ⟨L,d,e1,I,⟨fs,P,Wl⟩,h,J,Y,ru t Jp j i5 hv⟩ Er (λ_ _ _=>⟨J,ks,vs,T⟩) (λo' EX q r=>by obtain ⟨od,es,ep,hd,EW,_⟩:=l;have q:G.get? d=some o':=q;have hd:G.get? d=some od:=hd;rw [hd] at q;clear hd;clear hd;(replace q:=aw q;subst q);rw [EW] at r;cases r))
end
section
variable {K:Frag}{x C:Addr}{ox:Obj}{od:Option Obj}{Q:cH}{v:Value}{nm q:Str}{N:Addr}{bs:List Value}{sn:List Str}{sub:List Value}{ab:Bool}{col:Option Bool}{dd:Option Addr}{k0 k1 k2 k3 k5:Option Value}{newId:String}
theorem Jq(X:K.In s.heap)(I:InstAt s.heap x ox C od)(e:s.heap.get? C=some (excClassObj nm q C N bs [.type "Exception",.type "BaseException",.type "object"] true sn sub ab col dd k0 k1 k2 k3 k5 newId))
 (a:findIn K (.ref C) "__getattribute__"=some (some (.builtin "BaseException.__getattribute__"))) (c:findIn K (.ref C) "__getattr__"=some none)
 (i:findObj K C od name=some (.value v)) (f:handedIn v=true) (h:Q v {s with toks:=s.toks+1}):wpAny (model prog w) A (getAttr (.ref x) name expr) Q E s:=by
 obtain ⟨j,g,d,t,os⟩:=s
 have FB:=PySem.F.attrBase_Exception
 have b:=I.type (M:=model prog w)
 have k:=FB.ga.bind (.ref x)
 delta getAttr getAttrBy
 refine ax (wpAny_mkText (cR (ax (b.at (ax ((looks_findIn X a).at ?_))))))
 dsimp only
 rw [(show (Value.builtin "BaseException.__getattribute__"==Value.builtin "object.__getattribute__")=false from by decide+kernel),Bool.and_false,bj (by decide)]
 unfold getAttrByItsOwn
 refine ax (?_:wpAny _ _ (hookBefore (.ref C)) _ _ _)
 unfold hookBefore
 refine (bx (rfl))▸?_
 refine (looks_findIn X c).at ?_
 refine ax (pw (cR ?_))
 (delta callGetattribute;dsimp only)
 rw [bj (by cases expr<;>exact λh=>eI h)]
 repeat (any_goals (first|assumption|wp_step))
 refine codeAny_call_builtin FB.ga.plain F.entry_bexc_ga (wpAny_check_ga_own FB e .base I.at_ I.cls ?_)
 unfold Builtin.«object.__getattribute__»
 refine ax (bn (ax (bn (ax (b.at (ax ((looks_find X I i).at ?_)))))))
 refine bn ?_
 show wpAny _ _ (handedOut v) _ _ _
 refine (handedOut_of f)▸?_;exact bn h
end
section
variable {K:Frag}
theorem EY(X:K.In s.heap)(z:rv s.heap names)(R:Y1 F g ls S s){c:C}(t:g.cs[k]? =some a)(L:S[k]? =some c)(W:mi c=some (bL,ks,vs))
 (b:iU K bL name=true) (I:fieldOf ks vs name=some v) {Q:cH} (r:∀x,RV g v x->Q x {s with toks:=s.toks+1}):wpAny (model F.prog F.w) A (getAttr (.ref a.1) name expr) Q E s:=by
 refine gl λY H=>?_
 refine ij (qI (R.cells k a c t L) W) λo d V D M G h5 h6 n=>?_;refine gK n λm f p J B=>?_;clear n;refine mO f λod es ep hd O Tk Tl P=>?_;clear f
 refine ae (J name v I) λy j h=>?_
 (delta iU at b;simp only [dD,j6] at b)
 obtain ⟨nm,q,N,bs,Z,sub,ab,u,dd,k0,k1,k2,k3,k5,i,mN,U,_⟩:=z
 refine H ?_
 refine Jq X (show InstAt s.heap a.1 o bL (some od) from ⟨V,D,M,by refine G▸?_;exact hd⟩) U b.1.1 b.1.2 (findObj_own b.2.1 b.2.2 rfl ?_) h.handed (r y h)
 have e:=P name
 replace e:=j▸e
 unfold lookIn
 refine O▸?_
 obtain ⟨l⟩:=es
 (delta nsFind findBy at e;dsimp only at e)
 rw [find?_toArray] at e
 refine ae (au e) λe' T f=>?_;clear e j h;subst f
 dsimp only
 exact T▸rfl
theorem rv.keeps(X:rv h names)(k:∀b o,h.get? b=some o->h'.get? b=some o):rv h' names:=by refine gl λv l=>?_;obtain ⟨nm,q,N,r,d,sub,u,c,f,m,n,j,p,g,a,i,s,⟨o,es,e,e1,e2⟩,t⟩:=X;refine l ?_;exact ⟨nm,q,N,r,d,sub,u,c,f,m,n,j,p,g,a,i,k _ _ s,⟨o,es,e,k _ _ e1,e2⟩,t⟩
end
noncomputable section
theorem lR{e:DictEntry}{x:Str}:g3 e=some x ↔∃t,e.key=.str x t:=by rw [vZ];cases h:e.key<;>simp
theorem fB{x:Str}{v:Value}:Value.isStrOf x v=true ↔∃t,v=.str x t:=by
 constructor
 ·intro h;exact Value.isStrOf_shape h
 ·rintro ⟨t,rfl⟩;simp [Value.isStrOf]
theorem we{prog:Program}{w:World}:∀{l:List DictEntry} {ks:List Str},l.map g3=ks.map some->Pairs (strKind prog w) l (ks.zip (l.map (·.val)))
 |[],[]=>@λ_=>.nil
 |e::l,k::ks=>@λh=>by simp only [gg,List.cons.injEq] at h;exact .cons (fB.mpr (lR.mp h.1)) rfl (we h.2)
 |[],_::_=>@λh=>by simp at h
 |_::_,[]=>@λh=>by simp at h
theorem yv{l:List DictEntry}(h:Pairs (strKind prog w) l kvs):l.map g3=(kvs.map (·.1)).map some/\l.map (·.val)=kvs.map (·.2):=by
 induction h with
 |nil=>exact ⟨rfl,rfl⟩
 |cons c b _ a=>exact ⟨by simp only [gg,(lR.mpr (fB.mp c)),a.1],by simp only [gg,b,a.2]⟩
theorem gT(prog:Program){d:Addr}(c:g.w=w)(D:iq g h d ks vs):∃xs,h.DictOf (strKind prog w) d (ks.zip xs)/\cr g vs xs/\ks.length=xs.length:=by
 refine gl λr k=>?_;refine tG D λo es n q j p b m i f=>?_;clear D;have a:ks.length=(es.toList.map (·.val)).length:=by have:=bA List.length b;simpa using this.symm
 refine k ?_;refine ⟨es.toList.map (·.val),⟨o,es,n,q,j,p,λe l=>?_,we b,?_⟩,f,a⟩
 ·refine bd (i e l) λx t e1 e2=>?_;exact ⟨x,fB.mpr ⟨t,e1⟩,by rw [e2,c];rfl⟩
 ·rw [map_fst_zip (c6 a)];exact m
theorem gV{d:Addr}(b:g.w=w)(D:h.DictOf (strKind prog w) d kvs)(hv:cr g vs (kvs.map (·.2))):iq g h d (kvs.map (·.1)) vs:=by refine gl λc a=>?_;refine vX D λo es n q i p j m f=>?_;clear D;refine aq (yv m) λp1 p2=>?_;refine a ?_;refine Mc o es n q i p p1 f (λe l=>?_) (by refine p2▸?_;exact hv);refine gl λc a=>?_;refine ae (j e l) λk e1 e2=>?_;refine ar (fB.mp e1) λt e1=>?_;refine a ?_;exact gb k t e1 (by (refine e2▸?_;refine b▸?_);rfl)
theorem g4(h:cr g vs xs):ks.length=xs.length->∀x,(∀v,fieldOf ks vs x=some v->∃y,valueAt (ks.zip xs) x=some y/\RV g v y)/\(fieldOf ks vs x=none->valueAt (ks.zip xs) x=none):=by
 revert ks;refine h.ind (P:=λvs xs=>∀{ks:List Str},ks.length=xs.length->∀x,(∀v,fieldOf ks vs x=some v->∃y,valueAt (ks.zip xs) x=some y/\RV g v y)/\(fieldOf ks vs x=Option.none->valueAt (ks.zip xs) x=Option.none)) (λ{ks} c x=>?_) λ{v y vs xs} a b ih {ks} c x=>?_
 ·cases ks with
  |nil=>exact ⟨λv e=>aG e,λ_=>rfl⟩
  |cons=>cases c
 ·cases ks with
  |nil=>cases c
  |cons k ks=>
   simp -iota only [bO,valueAt,zip_cons_cons,find?_cons];cases e:aD k x with
   |true=>simp only [be.mp e,decide_true];exact ⟨λw e=>by (replace e:=aw e;subst e);exact ⟨y,rfl,a⟩,λe=>by exact aG (aS e)⟩
   |false=>rw [df (dR.mp e)];exact (ih (lM c) x)
theorem tK{x:Str}(hv:RV g v y)(h:cr g vs xs):ks.length=xs.length->ks.Nodup->
 (stored (ks.zip xs) x y).map (·.1)=(bX ks vs x v).1/\cr g (bX ks vs x v).2 ((stored (ks.zip xs) x y).map (·.2)):=by
 revert ks
 refine h.ind (P:=λvs xs=>∀{ks:List Str},ks.length=xs.length->ks.Nodup->(stored (ks.zip xs) x y).map (·.1)=(bX ks vs x v).1/\cr g (bX ks vs x v).2 ((stored (ks.zip xs) x y).map (·.2))) (λ{ks} d _=>?_) λ{w z vs xs} a b c {ks} d nd=>?_
 ·cases ks with
  |nil=>exact ⟨rfl,.cons hv .nil⟩
  |cons=>cases d
 ·cases ks with
  |nil=>cases d
  |cons k ks=>
   refine aq (nodup_cons.mp nd) λr n=>?_
   have l:ks.length=xs.length:=by simpa using d
   have c:=c l n
   cases e:aD k x with
   |true=>
    have f:=be.mp e
    clear c;clear c;subst f
    have o:(ks.zip xs).map (λm=>if m.1=k then (m.1,y) else m)=ks.zip xs:=by
     conv=>rhs;rw [<-List.map_id (ks.zip xs)]
     exact map_congr_left λp i=>bj ((show∀p∈ks.zip xs,p.1≠k from λp i q=>r (q▸(of_mem_zip i).1)) p i)
    simp only [jo,e,stored,zip_cons_cons,any_cons,decide_true,Bool.true_or,if_true,gg,o]
    exact ⟨by rw [map_fst_zip (c6 l)],.cons hv (by rw [map_snd_zip (c6 l.symm)];exact b)⟩
   |false=>
    have f:=dR.mp e
    have j:stored ((k,z)::ks.zip xs) x y=(k,z)::stored (ks.zip xs) x y:=by unfold stored;simp only [any_cons,df f,Bool.false_or,gg,bj f];split<;>rfl
    simp only [jo,e,zip_cons_cons,j,gg]
    exact ⟨by rw [c.1],.cons a c.2⟩
theorem wk(R:Y1 F g ls S s){x:Str}(c:g.cs[k]? =some a)(e:S[k]? =some (.dict ks vs))(j:fieldOf ks vs x=some v)
 {Q:cH} (b:∀y,RV g v y->Q y {s with toks:=s.toks+1}):wpAny (model F.prog F.w) A (getItem (.ref a.1) (.str x t)) Q E s:=by
 refine gl λl h=>?_
 refine bc (gT F.prog R.gw (R.cells k a _ c e).2) λm D hv f=>?_
 refine ae ((g4 hv f x).1 v j) λy i d=>?_
 refine h ?_
 exact wpAny_getItem_of (strKind_is F.prog F.w x t) D.mapOf i (b y d)
theorem Jr(R:Y1 F g ls S s)(f:F.base.get? sysModules≠none){x:Str}(c:g.cs[k]? =some a)(i:S[k]? =some (.dict ks vs))
 {Q:cH} (b:Q (.bool (fieldOf ks vs x).isSome) {s with toks:=s.toks+1}):wpAny (model F.prog F.w) A (compareOp .In (.str x t) (.ref a.1)) Q E s:=by
 refine gl λl h=>?_
 refine bc (gT F.prog R.gw (R.cells k a _ c i).2) λm D hv d=>?_
 have hd:(a.1==sysModules)=false:=by rw [qY];intro e;have:=(R.apart a.1 (.tail _ (mh c (.head _)))).1;replace this:=e▸this;exact f this
 refine h ?_
 refine wpAny_in_of (strKind_is F.prog F.w x t) hd D.mapOf ?_
 cases e:fieldOf ks vs x with
 |none=>refine ((g4 hv d x).2 e)▸?_;replace b:=e▸b;exact b
 |some v=>obtain ⟨y,j,_⟩:=(g4 hv d x).1 v e;refine j▸?_;replace b:=e▸b;exact b
theorem yx(R:Y1 F g ls S s)(f:F.base.get? sysModules≠none){x:Str}(c:g.cs[k]? =some a)(i:S[k]? =some (.dict ks vs))
 {Q:cH} (b:Q (.bool (!(fieldOf ks vs x).isSome)) {s with toks:=s.toks+1}):wpAny (model F.prog F.w) A (compareOp .NotIn (.str x t) (.ref a.1)) Q E s:=by
 refine gl λl h=>?_
 refine bc (gT F.prog R.gw (R.cells k a _ c i).2) λm D hv d=>?_
 have hd:(a.1==sysModules)=false:=by rw [qY];intro e;have:=(R.apart a.1 (.tail _ (mh c (.head _)))).1;replace this:=e▸this;exact f this
 refine h ?_
 refine wpAny_notIn_of (strKind_is F.prog F.w x t) hd D.mapOf ?_
 cases e:fieldOf ks vs x with
 |none=>refine ((g4 hv d x).2 e)▸?_;replace b:=e▸b;exact b
 |some v=>obtain ⟨y,j,_⟩:=(g4 hv d x).1 v e;refine j▸?_;replace b:=e▸b;exact b
theorem EZ(R:Y1 F g ls S s){x:Str}(d:g.cs[k]? =some a)(G:S[k]? =some (.dict ks vs))(hv:RV g v y)(H:ks.length<=4000)
 {Q:mE} (h:∀f,Y1 F g ls (S.set k (.dict (bX ks vs x v).1 (bX ks vs x v).2)) f->Q () f):wpAny (model F.prog F.w) A (setItem (.ref a.1) (.str x t) y) Q E s:=by
 have c:=R.cells k a _ d G
 have p:ks.Nodup:=by obtain ⟨_,_,_,_,_,_,_,_,B,_⟩:=c;exact B
 refine bc (gT F.prog R.gw c.2) λI D m i=>?_
 refine wpAny_setItem_pairs (strKind_is F.prog F.w x t) D (λh' u hs=>?_) ?_
 ·obtain ⟨q1,q2⟩:=tK hv m i p
  have D2:=gV R.gw u q2
  replace D2:=q1▸D2
  exact h _ (R.turn (c':=.dict (bX ks vs x v).1 (bX ks vs x v).2) d (.head _) (λb o z e=>(hs.2 b z).trans e) ⟨c.1,D2⟩ _ (λ_ _ e=>C.noConfusion e) (λK J q r=>by obtain ⟨_,od,es,n,l,_,j,_⟩:=c;replace q:=l▸q;(replace q:=aw q;subst q);replace r:=j▸r;cases r))
 ·(refine length_zip▸?_;refine j8▸?_);exact aA (Nat.min_le_left _ _) (aA ‹_› (by decide))
end
noncomputable def dJ(i:Int):Bool:=decide (i.natAbs<1073741824)
noncomputable def i6(vs:List V):Bool:=ble vs.length 65536
set_option genCtorIdx true in
inductive Bi where
 |len|str|ord|list|dict|sum
protected noncomputable def Bi.name:Bi->Str
 |.len=>"len"
 |.str=>"str"
 |.ord=>"ord"
 |.list=>"list"
 |.dict=>"dict"
 |.sum=>"sum"
noncomputable def Bi.val:Bi->Value
 |.len=>.builtin "len"
 |.str=>.type "str"
 |.ord=>.builtin "ord"
 |.list=>.type "list"
 |.dict=>.type "dict"
 |.sum=>.builtin "sum"
noncomputable def gu(S:List C):V->Option (List V)
 |.tup l=>some l
 |.lst l=>some l
 |.ref k=>match S[k]? with
  |some (.list l)=>some l
  |_=>none
 |_=>none
theorem At:gu S (V.lst l)=some l:=by rfl
theorem qJ:
 gu S (V.ref k)=
  match S[k]? with
  |some (C.list l)=>some l
  |x=>none:=by rfl
noncomputable def E0(b:Bi)(v:V)(S:List C):Option V:=match b with
 |.len=>(match v with
  |.str x=>match ble x.length 16777216 with
   |true=>some (.int x.length)
   |false=>none
  |v=>match gu S v with
   |some l=>(match i6 l with
    |true=>some (.int l.length)
    |false=>none)
   |none=>none)
 |.str=>(match v with
  |.int i=>(match dJ i with
   |true=>some (.str (toString i))
   |false=>none)
  |_=>none)
 |.ord=>(match v with
  |.str ⟨⟨[c]⟩⟩=>some (.int c)
  |_=>none)
 |.list=>none
 |.dict=>none
 |.sum=>none
theorem Nq{a:Str}:
 E0 Bi.len (V.str a) S=
  match ble (Str.length a) 16777216 with
  |true=>some (V.int ↑(Str.length a))
  |false=>none:=by rfl
noncomputable abbrev Js(g:G)(s:Shared)(x:Value)(l:List V):Prop:=∃a vs n,x=.ref a/\cr g l vs.toList/\(s.heap.get? a=some {cls:=.type "tuple",data:=.seq vs n}\/s.heap.get? a=some {cls:=.type "list",data:=.seq vs n})
theorem E1(R:Y1 F g ls S s)(h:gu S v=some l)(i:RV g v x):Js g s x l:=by
 cases i<;>try exact aG h
 ·rename_i k a j;rw [qJ] at h;refine gl λo m=>?_;cases b:S[k]? with
  |none=>rw [b] at h;exact aG h
  |some c=>rw [b] at h;cases c with
   |list r=>
   (replace h:=aw h;subst h)
   refine aq (R.cells k a _ j b) λ_ f=>?_;refine bd f λvs n p q=>?_;clear f
   refine m ?_
   exact lQ _ vs n rfl q (.inr p)
   |_=>exact aG h
 ·rename_i e d;(replace h:=aw h;subst h);exact lQ _ _ _ rfl d (.inl (R.cm _ _ e))
 ·rename_i e d;(replace h:=aw h;subst h);exact lQ _ _ _ rfl d (.inr (R.cm _ _ e))
theorem B3{i:Int}(a:dJ i=true):i.natAbs.log2<1920:=by
 delta dJ at a;simp only [ek] at a;by_cases b:i.natAbs=0
 ·refine b▸?_;decide
 ·have:=(log2_lt b (k:=30)).mpr a;exact aA ‹_› (by decide)
theorem rx(R:Y1 F g ls S s){b:Bi}{w:V}(h:E0 b v S=some w)(r:RV g v x){Q:cH}(f:∀y t,RV g w y->Q y {s with toks:=t}):wpAny (model F.prog F.w) A (call b.val [x]) Q E s:=by
 cases b with
 |len=>
  have q:∀l,gu S v=some l->i6 l=true->w=.int l.length->wpAny (model F.prog F.w) A (call (.builtin "len") [x]) Q E s:=by
   intro l m p e;refine gl λD z=>?_;clear h;subst e;refine bg (E1 R m r) λa vs n C hv o=>?_;subst C;have d:(l.length:Int)=(vs.size:Int):=by (refine hv.length▸?_;exact g0▸rfl)
   have B:(vs.size:Int)<2 ^ 63:=by have:=cZ p;exact pL d this
   replace f:=d▸f;refine aQ o (λo=>?_) (λo=>?_)
   ·refine z ?_;exact PyProof.Rows.len_tuple ⟨_,o,rfl,_,rfl⟩ B (f _ _ (.int _ _))
   ·refine z ?_;exact call_len_list ⟨_,o,rfl,_,rfl⟩ B (f _ _ (.int _ _))
  have fin:(match gu S v with|some l=>(match i6 l with|true=>some (V.int l.length)|false=>Option.none)|Option.none=>Option.none)=some w->wpAny (model F.prog F.w) A (call (.builtin "len") [x]) Q E s:=λh=>by
   cases m:gu S v with
   |none=>rw [m] at h;exact aG h
   |some l=>
    rw [m] at h;dsimp only at h;cases p:i6 l with
    |false=>rw [p] at h;exact aG h
    |true=>rw [p] at h;exact q l m p (aw h).symm
  clear q;cases v with
  |str y=>
   replace h:(match ble y.length 16777216 with|true=>some (V.int y.length)|false=>none)=some w:=h;clear fin;cases j:ble y.length 16777216 with
   |false=>rw [j] at h;exact aG h
   |true=>
    rw [j] at h;(replace h:=aw h;subst h);(refine ar (RV.str_inv r) λu k=>?_;subst k);have:=cZ j;exact len_str (pM this) (f _ _ (.int _ _))
  |_=>exact fin h
 |str=>
  cases v with
  |int i=>
   replace h:(match dJ i with|true=>some (V.str (toString i))|false=>none)=some w:=h;cases j:dJ i with
   |false=>rw [j] at h;exact aG h
   |true=>
    rw [j] at h;(replace h:=aw h;subst h);(refine ar (RV.int_inv r) λu k=>?_;subst k);exact PySem.P.str_of_int (B3 j) (f _ _ (.str _ _))
  |_=>exact aG h
 |ord=>
  cases v with
  |str y=>
   obtain ⟨⟨l⟩⟩:=y;cases l with
   |nil=>exact aG h
   |cons c l=>cases l with
    |cons _ _=>exact aG h
    |nil=>
     (replace h:=aw h;subst h);(refine ar (RV.str_inv r) λu k=>?_;subst k);exact PySem.P.ord_of_char (f _ _ (.int _ _))
  |_=>exact aG h
 |list=>exact aG h
 |dict=>exact aG h
 |sum=>exact aG h
theorem tf:entryFor table "proto.unchain"=some Builtin.«proto.unchain»:=entryFor_of_tree (by trivial)
noncomputable def cO(A:Around)(h:Heap):Prop:=A.handled=none\/∃a o fs,A.handled=some (.ref a)/\h.get? a=some o/\o.data=.fields fs/\fs[2]? =some .none
theorem B4{e:Addr}{c:Obj}{h:Array Value}{Q:α->Shared->Prop}(H:cO A s.heap)(f:s.heap.get? e=some c)(hd:c.data=.fields h)(k:2<h.size)
 (d:∀a,A.handled=some (.ref a)->a≠e)
 (g:∀h' j,h'.get? e=some j->j.cls=c.cls->(∀b o,b≠e->s.heap.get? b=some o->h'.get? b=some o)->E (.ref e) {s with heap:=h'}):wpAny (model prog w) A (raiseNew (.ref e):Sem α) Q E s:=by
 unfold raiseNew
 refine ax (wpAny_handled ?_)
 refine aQ H (λH=>?_) (λi=>tF i λa o r H p l n=>?_)
 ·rw [H]
  exact ax (bn (wpAny_throw (g s.heap c f rfl λ_ _ _ q=>q)))
 ·clear i
  rw [H]
  dsimp only
  rw [bx (by (simp -iota [];exact (d a H)))]
  refine ax (cR (wpAny_runValue (codeAny_builtin tf ?_)))
  unfold Builtin.«proto.unchain»
  refine ax (dY p l n ?_)
  rw [bx (by rfl)]
  refine ax (bn (bn ?_))
  refine ax (j5 f hd k (wpAny_throw ?_))
  exact g _ _ (mF _ f (j1 (lF hd (·.setIfInBounds 2 (Value.ref a))))) (Obj.cls_mapFields ..) λb o m q=>((mG s.heap e _).2 b m).trans q
theorem mW{Q:Option Value->Shared->Prop}{R:cH}(H:cO A s.heap)
 (k:∀h' e,s.heap.objs.size<=e->(∃d,h'.get? e=some d/\d.cls=.type "StopIteration")->(∀b o,s.heap.get? b=some o->h'.get? b=some o)->E (.ref e) {s with heap:=h'}):
 wpAny (model prog w) A (do raiseNew (<-newExc (.type "StopIteration") []):Sem α) (λ_ _=>False) E s:=by
 refine ax ?_
 simp only [newExc,newTuple]
 refine ax (jQ ?_ (by size_fits))
 refine ax (wpAny_of_eq (a:=Value.none) (by first|rfl|(simp only [firstArgMember];rfl)) ?_)
 refine jQ ?_ (by size_fits)
 have i:∀b o (x y:Obj),s.heap.get? b=some o->((s.heap.push x).push y).get? b=some o:=λb o x y q=>eZ _ (eZ _ q)
 refine B4 ?_ (gZ _ rfl) rfl (by rw [Array.size_append];exact fw (by decide) (bY 6 _)) (λa f=>?_) (λh' d q1 q2 q3=>k h' _ ?_ ⟨d,q1,q2⟩ λb o q=>q3 b o ?_ (i _ _ _ _ q))
 ·refine aQ H (λH=>?_) (λc=>bg c λa o j H g h=>?_)
  ·exact .inl H
  ·clear c
   exact .inr ⟨a,o,j,H,i _ _ _ _ g,h⟩
 ·refine aQ H (λH=>?_) (λc=>bg c λl o j H g h=>?_)
  ·rw [H] at f;exact aG f
  ·clear c
   rw [H] at f;cases f
   have:=cI g
   rw [Heap.size_push];exact cc (pr this)
 ·rw [Heap.size_push];exact eR _
 ·have:=cI q
  rw [Heap.size_push];exact cc (pr this)
theorem cO.but(H:cO A h)(m:h.get? it=some o)(hd:o.data=.fields #[x,y])(k:∀b g,b≠it->h.get? b=some g->h'.get? b=some g):cO A h':=by
 refine aQ H (λH=>?_) (λj=>tF j λa i l H c d f=>?_)
 ·exact .inl H
 ·clear j;refine .inr ⟨a,i,l,H,k a i (λe=>?_) c,d,f⟩;rw [e,m] at c;(replace c:=aw c;subst c);rw [hd] at d;(injection d with d;subst d);simp at f
theorem k8{f:Obj->Obj}(H:cO A s.heap)(g:s.heap.get? it=some o)(hd:o.data=.fields #[x,y])(n:(f o).isFreed=false)
 (j:∀h',(∀b a,b≠it->s.heap.get? b=some a->h'.get? b=some a)->(∃o,h'.get? it=some o)->Q none {s with heap:=h'})
 (m:∀e d,(∃i,d.heap.get? e=some i/\i.cls=.type "StopIteration")->Q none d->E' (.ref e) d):
 wpAny (model prog w) A (do raiseNew (<-newExc (.type "StopIteration") []):Sem Fin) (λ_ _=>False) E' {s with heap:=s.heap.update it f}:=by
 have k:∀b a,b≠it->s.heap.get? b=some a->(s.heap.update it f).get? b=some a:=λb a c q=>((mG s.heap it f).2 b c).trans q
 refine mW (Q:=Q) (R:=λ_ _=>True) (H.but g hd k) λh' e _ l h=>?_
 exact m e _ l (j h' (λb a c q=>h b a (k b a c q)) ⟨_,h it _ (mF _ g n)⟩)
theorem wo{l:Addr}(H:cO A s.heap)(a:s.heap.IsListIter it l i)(d:s.heap.IsList l items)(k:items[i]? =none)
 (j:∀h',(∀b h,b≠it->s.heap.get? b=some h->h'.get? b=some h)->(∃o,h'.get? it=some o)->Q none {s with heap:=h'}):wpAny (model prog w) A (pyNext (.ref it)) Q E s:=by
 refine bc (id a) λo c v hd=>?_
 refine bc d λr p _ g=>?_;clear d;refine ar g λu m=>?_;clear g
 unfold pyNext
 refine ax (pw (lE a.typeIs slot_listiter_next
  (lH slot_listiter_next a.typeIs entry_listiter_next ?_ (args_listiter_next _))))
 show wpAny _ _ (field (.ref it) 0>>=_) _ _ s
 refine ax (dY c hd (x:=.ref l) rfl ?_)
 rw [bj (show¬((Value.ref l==Value.none)=true) from j2)]
 refine ax (dY c hd (x:=.int i 0) rfl ?_)
 refine ax (wpAny_seqItems p m ?_)
 simp only [tC,k]
 refine ax (jn (ax (j5 c hd (by simp) ?_)))
 refine bP (k8 (A:=A.in1) H c hd (j1 (lF hd _)) j (λe t ⟨q,q1,q2⟩ n=>?_)) (λ_ _ f=>f.elim) λ_ _ z=>z
 refine ax (re ⟨q,q1,q2⟩ rg ?_)
 exact bn n
theorem tL{t:Addr}(H:cO A s.heap)(a:s.heap.IsTupleIter it t i)(h:s.heap.IsTuple t items)(k:items[i]? =none)
 (j:∀h',(∀b g,b≠it->s.heap.get? b=some g->h'.get? b=some g)->(∃o,h'.get? it=some o)->Q none {s with heap:=h'}):wpAny (model prog w) A (pyNext (.ref it)) Q E s:=by
 refine gl λr p=>?_
 refine bc (id a) λo c B hd=>?_
 refine bc h λu n _ d=>?_;clear h;refine ar d λy l=>?_;clear d
 refine p ?_
 unfold pyNext
 refine ax (pw (lE a.typeIs PySem.F.slot_tuple_iterator_next
  (lH PySem.F.slot_tuple_iterator_next a.typeIs PySem.F.entry_tuple_iterator_next ?_ (PySem.F.args_tuple_iterator_next_1 _))))
 show wpAny _ _ (field (.ref it) 0>>=_) _ _ s
 refine ax (dY c hd (x:=.ref t) rfl ?_)
 rw [bj (show¬((Value.ref t==Value.none)=true) from j2)]
 refine ax (dY c hd (x:=.int i 0) rfl ?_)
 refine ax (wpAny_seqItems n l ?_)
 simp only [tC,k]
 refine ax (jn (ax (j5 c hd (by simp) ?_)))
 refine bP (k8 (A:=A.in1) H c hd (j1 (lF hd _)) j (λe v ⟨q,q1,q2⟩ m=>?_)) (λ_ _ f=>f.elim) λ_ _ z=>z
 refine ax (re ⟨q,q1,q2⟩ rg ?_)
 exact bn m
theorem B6{x:Str}(H:cO A s.heap)(a:s.heap.IsStrIter it "str_ascii_iterator" x t i)(h:x.cps[i]? =none)
 (g:∀h',(∀b d,b≠it->s.heap.get? b=some d->h'.get? b=some d)->(∃o,h'.get? it=some o)->Q none {s with heap:=h'}):wpAny (model prog w) A (pyNext (.ref it)) Q E s:=by
 refine bc (id a) λo c m hd=>?_
 unfold pyNext
 refine ax (pw (lE a.typeIs PySem.F.slot_str_ascii_iterator_next
  (lH PySem.F.slot_str_ascii_iterator_next a.typeIs PySem.F.entry_str_ascii_iterator_next ?_ (PySem.F.args_str_ascii_iterator_next_1 _))))
 show wpAny _ _ (field (.ref it) 0>>=_) _ _ s
 refine ax (dY c hd (x:=.str x t) rfl ?_)
 show wpAny _ _ (field (.ref it) 1>>=_) _ _ s
 refine ax (dY c hd (x:=.int i 0) rfl ?_)
 simp only [tC,h]
 refine ax (jn (ax (j5 c hd (by simp) (ax (wpAny_letGo ?_)))))
 refine bP (k8 (A:=A.in1) H c hd (j1 (lF hd _)) g (λe l ⟨k,q1,q2⟩ j=>?_)) (λ_ _ f=>f.elim) λ_ _ z=>z
 refine ax (re ⟨k,q1,q2⟩ rg ?_)
 exact bn j
theorem E3{x:Str}(H:cO A s.heap)(a:s.heap.IsStrIter it "str_iterator" x t i)(h:x.cps[i]? =none)
 (g:∀h',(∀b d,b≠it->s.heap.get? b=some d->h'.get? b=some d)->(∃o,h'.get? it=some o)->Q none {s with heap:=h'}):wpAny (model prog w) A (pyNext (.ref it)) Q E s:=by
 refine bc (id a) λo c m hd=>?_
 unfold pyNext
 refine ax (pw (lE a.typeIs PySem.F.slot_str_iterator_next
  (lH PySem.F.slot_str_iterator_next a.typeIs PySem.F.entry_str_iterator_next ?_ (PySem.F.args_str_iterator_next_1 _))))
 show wpAny _ _ (field (.ref it) 0>>=_) _ _ s
 refine ax (dY c hd (x:=.str x t) rfl ?_)
 show wpAny _ _ (field (.ref it) 1>>=_) _ _ s
 refine ax (dY c hd (x:=.int i 0) rfl ?_)
 simp only [tC,h]
 refine ax (jn (ax (j5 c hd (by simp) (ax (wpAny_letGo ?_)))))
 refine bP (k8 (A:=A.in1) H c hd (j1 (lF hd _)) g (λe l ⟨k,q1,q2⟩ j=>?_)) (λ_ _ f=>f.elim) λ_ _ z=>z
 refine ax (re ⟨k,q1,q2⟩ rg ?_)
 exact bn j
theorem Jt{x left step:Int}(H:cO A s.heap)(a:IsRangeIter s.heap it x left step)(k:left<=0)
 (h:∀h',(∀b g,s.heap.get? b=some g->h'.get? b=some g)->Q none {s with heap:=h'}):wpAny (model prog w) A (pyNext (.ref it)) Q E s:=by
 have c:s.TypeIs (.ref it) "range_iterator":=⟨_,a,rfl⟩
 unfold pyNext
 refine ax (pw (lE c PySem.F.slot_range_iterator_next
  (lH PySem.F.slot_range_iterator_next c PySem.F.entry_range_iterator_next ?_ (PySem.F.args_range_iterator_next_1 _))))
 show wpAny _ _ (field (.ref it) 0>>=_) _ _ s
 refine ax (dY a rfl (x:=rawInt x) rfl ?_)
 refine ax (dY a rfl (x:=rawInt left) rfl ?_)
 refine ax (dY a rfl (x:=rawInt step) rfl ?_)
 show wpAny _ _ (if left<=0 then _ else _) _ _ s
 rw [bx k]
 refine ax (jn ?_)
 refine ax ?_
 refine bP (mW (Q:=Q) (R:=λ_ _=>True) H (λh' e _ d i=>?_)) (λ_ _ (f:False)=>f.elim) λ_ _ z=>z
 refine ae d λj q1 q2=>?_;clear d
 refine ax (re ⟨j,q1,q2⟩ rg ?_)
 exact bn (h h' i)
theorem cr.get'(h:cr g vs xs):∀{i:Nat} {x:Value},xs[i]? =some x->∃v,vs[i]? =some v/\RV g v x:=by
 refine h.ind (P:=λvs xs=>∀{i:Nat} {x:Value},xs[i]? =some x->∃v,vs[i]? =some v/\RV g v x) (λh=>aG h) λ{v x _ _} a _ ih {i w} e=>?_;cases i with
 |zero=>(replace e:=aw e;subst e);exact ⟨v,rfl,a⟩
 |succ i=>exact ih e
noncomputable def kc(it:It)(S:List C):Option (Option (V×It)):=match it with
 |.seq v i=>(match gu S v with
  |some l=>some (match l[i]? with
   |some w=>some (w,.seq v (i+1))
   |none=>none)
  |none=>none)
 |.str x i=>some (match x.cps.toList[i]? with
  |some c=>some (.str ⟨#[c]⟩,.str x (i+1))
  |none=>none)
 |.fM x n=>match decide (0<n) with
  |true=>some (some (.int x,.fM (x+1) (n - 1)))
  |false=>some none
theorem g5:
 kc (It.seq v i) S=
  match gu S v with
  |some l=>
   some
    (match l[i]? with
    |some w=>some (w,It.seq v (i+1))
    |none=>none)
  |none=>none:=by rfl
theorem rA{x:Str}:
 kc (It.str x i) S=
  some
   (match (Array.toList (Str.cps x))[i]? with
   |some c=>some (V.str {cps:= #[c]},It.str x (i+1))
   |none=>none):=by rfl
theorem wp{x n:Int}:
 kc (It.fM x n) S=
  match decide (0<n) with
  |true=>some (some (V.int x,It.fM (x+1) (n - 1)))
  |false=>some none:=by rfl
theorem k9(b:A.handled=F.hand.map Value.ref)(R:Y1 F g ls S s):cO A s.heap:=by
 refine gl λf c=>?_;cases h:F.hand with
 |none=>refine c ?_
        rw [h] at b;exact .inl b
 |some a=>
  rw [h] at b;refine aq (R.hJ a h) λ_ d=>?_;refine bd d λo e q r=>?_;clear d;refine c ?_;exact .inr ⟨a,o,e,b,q,r.1,r.2.1⟩
theorem rB(hA:A.handled=F.hand.map Value.ref)(R:Y1 F g ls S s){it:It}{r:Option (V×It)}(T:g.cs[k]? =some a)(hS:S[k]? =some (.iter it))(h:kc it S=some r)
 (hsome:∀v it',r=some (v,it')->∀X y,Y1 F g ls (S.set k (.iter it')) X->RV g v y->Q (some y) X)
 (hnone:r=none->∀X,Y1 F g ls (S.set k .dead) X->Q none X):wpAny (model F.prog F.w) A (pyNext (.ref a.1)) Q E s:=by
 have H:=k9 hA R
 refine gl λGz u=>?_
 refine aq (R.cells k a _ T hS) λh2 W=>?_;refine ae W λo m z=>?_;clear W
 have J:∀h',(∀b D,b≠a.1->s.heap.get? b=some D->h'.get? b=some D)->(∃o,h'.get? a.1=some o)->(∀o L,s.heap.get? a.1=some o->o.data=.fields L->L[2]?≠some .none)->Y1 F g ls (S.set k .dead) {s with heap:=h'}:=λh' M e d=>
  R.turn T (.head _) M (RC.n7 (c:=.dead) (R.cells k a _ T hS).there M e) s.toks (λ_ _ e=>C.noConfusion e) d
 have ZB:∀{x y:Value},o.data=.fields #[x,y]->∀f L,s.heap.get? a.1=some f->f.data=.fields L->L[2]?≠some .none:=λ{x y} hd f L q r=>by rw [m] at q;(replace q:=aw q;subst q);rw [hd] at r;(injection r with r;subst r);simp
 clear hS;cases it with
 |seq v i=>
  refine bc z λb O G hd=>?_;clear z
  simp -iota only [g5] at h
  (revert h;cases _:gu S v;rotate_left;all_goals intro h)
  ·rename_i l B
   (replace h:=aw h;subst h)
   have N:∀(vs:Array Value) cl,cr g l vs.toList->cl=Aq v->∀x,vs[i]? =some x->∀h',(∃f,h'.get? a.1=some f/\f.cls=.type cl/\f.data=.fields #[.ref b,.int ↑(i+1) 0])->Heap.SameBut a.1 s.heap h'->Q (some x) {s with heap:=h'}:=λvs cl I I6 x d h' j hs=>by refine gl λGz u=>?_;refine ae (I.get' (by rw [fz];exact d)) λw hw hr=>?_;refine bc j λf q1 q2 q3=>?_;clear j;refine u ?_;exact hsome w (.seq v (i+1)) (by rw [hw]) _ _ (R.turn (c':=.iter (.seq v (i+1))) T (.head _) (λb D O q=>(hs.2 b O).trans q) ⟨h2,f,q1,b,O,by rw [q2,I6],q3⟩ s.toks (λ_ _ e=>C.noConfusion e) (ZB hd)) hr
   have U:∀(vs:Array Value),cr g l vs.toList->vs[i]? =none->∀h',(∀b D,b≠a.1->s.heap.get? b=some D->h'.get? b=some D)->(∃o,h'.get? a.1=some o)->Q Option.none {s with heap:=h'}:=λvs I he h' M e=>by
    refine hnone ?_ _ (J h' M e (ZB hd));have a1:l.length=vs.size:=by rw [I.length,g0]
    rw [Array.getElem?_eq_none_iff] at he;rw [getElem?_eq_none (aA (c6 ‹_›) ‹_›)]
   clear hsome hnone;cases O with
   |tup E5 I=>
    cases B
    rename_i vs n
    have P:s.heap.IsTuple b vs:=⟨_,R.cm _ _ E5,rfl,_,rfl⟩
    cases d:vs[i]? with
    |some x=>refine u ?_
             exact wpAny_pyNext_tuple_item ⟨o,m,G,hd⟩ P d λh' j hs=>N vs _ I rfl x d h' j hs
    |none=>refine u ?_
           exact tL H ⟨o,m,G,hd⟩ P d (U vs I d)
   |lst E5 I=>
    cases B
    rename_i vs n
    have P:s.heap.IsList b vs:=⟨_,R.cm _ _ E5,rfl,_,rfl⟩
    cases d:vs[i]? with
    |some x=>refine u ?_
             exact wpAny_pyNext_list_item ⟨o,m,G,hd⟩ P d λh' j hs=>N vs _ I rfl x d h' j hs
    |none=>refine u ?_
           exact wo H ⟨o,m,G,hd⟩ P d (U vs I d)
   | @ref kb ab Wo=>
     rw [qJ] at B
     cases Tp:S[kb]? with
     |none=>rw [Tp] at B;exact aG B
     |some cb=>rw [Tp] at B;cases cb with
     |list lb=>
      (replace B:=aw B;subst B)
      refine aq (R.cells _ _ _ Wo Tp) λ_ W=>?_;refine bd W λvs n p I=>?_;clear W
      have P:s.heap.IsList _ vs:=⟨_,p,rfl,_,rfl⟩
      cases d:vs[i]? with
      |some x=>refine u ?_
               exact wpAny_pyNext_list_item ⟨o,m,G,hd⟩ P d λh' j hs=>N vs _ I rfl x d h' j hs
      |none=>refine u ?_
             exact wo H ⟨o,m,G,hd⟩ P d (U vs I d)
     |_=>exact aG B
   |jm=>exact aG B
   |glob=>exact aG B
  ·exact aG h
 |str x i=>
  refine ae z λt G hd=>?_;clear z
  simp -iota only [rA] at h
  (replace h:=aw h;subst h)
  have N:∀c,x.cps[i]? =some c->∀h',(∃f,h'.get? a.1=some f/\f.cls=.type (strIterType x)/\f.data=.fields #[.str x t,.int ↑(i+1) 0])->Heap.SameBut a.1 s.heap h'->∀Z,Q (some (.str ⟨#[c]⟩ Z)) {s with heap:=h',toks:=Z+1}:=λc Wp h' j hs Z=>by
   have B:x.cps.toList[i]? =some c:=by rw [fz];exact Wp
   refine gl λGz u=>?_;refine bc j λf q1 q2 q3=>?_;clear j;refine u ?_;exact hsome (.str ⟨#[c]⟩) (.str x (i+1)) (by rw [B]) _ _ (R.turn (c':=.iter (.str x (i+1))) T (.head _) (λb D O q=>(hs.2 b O).trans q) ⟨h2,f,q1,t,q2,q3⟩ _ (λ_ _ e=>C.noConfusion e) (ZB hd)) (.str _ _)
  have U:x.cps[i]? =none->∀h',(∀b D,b≠a.1->s.heap.get? b=some D->h'.get? b=some D)->(∃o,h'.get? a.1=some o)->Q Option.none {s with heap:=h'}:=λhe h' M e=>
   hnone (by rw [show x.cps.toList[i]? =none by rw [fz];exact he]) _ (J h' M e (ZB hd))
  unfold strIterType at G N
  split at G
  ·rename_i ha
   rw [bx ha] at N
   cases d:x.cps[i]? with
   |some c=>refine u ?_
            exact wpAny_pyNext_ascii_item ⟨o,m,G,hd⟩ d λh' j hs=>N c d h' j hs _
   |none=>refine u ?_
          exact B6 H ⟨o,m,G,hd⟩ d (U d)
  ·rename_i ha
   rw [bj ha] at N
   cases d:x.cps[i]? with
   |some c=>refine u ?_
            exact wpAny_pyNext_wide_item ⟨o,m,G,hd⟩ d λh' j hs=>N c d h' j hs _
   |none=>refine u ?_
          exact E3 H ⟨o,m,G,hd⟩ d (U d)
 |fM x n=>
  have z:o={cls:=.type "range_iterator",data:=.fields #[rawInt x,rawInt n,rawInt 1]}:=z
  clear ZB;subst z
  have m:IsRangeIter s.heap a.1 x n 1:=m
  have K:∀f L,s.heap.get? a.1=some f->f.data=.fields L->L[2]?≠some .none:=λf L q r=>by rw [m] at q;(replace q:=aw q;subst q);(injection r with r;subst r);exact λe=>nomatch e
  unfold kc at h
  dsimp only at h
  cases Y:decide (0<n) with
  |true=>
   rw [Y] at h
   (replace h:=aw h;subst h)
   refine u ?_
   refine wpAny_pyNext_range_item m (f9 Y) λh' j hs=>?_
   exact hsome _ _ rfl _ _ (R.turn (c':=.iter (.fM (x+1) (n - 1))) T (.head _) (λb D O q=>(hs.2 b O).trans q) ⟨h2,_,j,rfl⟩ _ (λ_ _ e=>C.noConfusion e) K) (.int _ _)
  |false=>
   rw [Y] at h
   (replace h:=aw h;subst h)
   refine u ?_
   refine Jt H m (by have:=of_decide_eq_false Y;exact Int.not_lt.mp ‹_›) λh' M=>?_
   exact hnone rfl _ (J h' (λb D _ q=>M b D q) ⟨_,M _ _ m⟩ K)
noncomputable section
noncomputable def qK(f:V->V->Option Bool)(l m:List V):Option Bool:=match l with
 |[]=>some m.isEmpty
 |x::l=>match m with
  |[]=>some false
  |y::m=>(f x y).bind λb=>(qK f l m).map λc=>b&&c
theorem Nr{f:V->V->Option Bool}{m:List V}:qK f [] m=some (isEmpty m):=by rfl
theorem Nt{f:V->V->Option Bool}{y:V}:qK f (y::Jg) []=some false:=by rfl
theorem E6{f:V->V->Option Bool}{y:V}:qK f (y::Jg) (Nm::Nl)=Option.bind (f y Nm) λb=>Option.map (λc=>b&&c) (qK f Jg Nl):=by rfl
noncomputable def n9(l m:List Str):Bool:=match l with
 |[]=>m.isEmpty
 |x::l=>match m with
  |[]=>false
  |y::m=>aD x y&&n9 l m
theorem B8{y:Str}{c:List Str}{a:Str}{b:List Str}:n9 (y::c) (a::b)=(aD y a&&n9 c b):=by rfl
theorem yy:∀{l m:List Str},n9 l m=true->l=m:=by
 intro l;induction l with
 |nil=>intro m h;exact (isEmpty_iff.mp h).symm
 |cons x l a=>
  intro m h;cases m with
  |nil=>exact eI h
  |cons y m=>have h:=nU h;refine (be.mp h.1)▸?_;exact (a h.2)▸rfl
noncomputable def cC(S:List C)(v:V):Option (List V):=match v.v0 with
 |some l=>some l
 |none=>v.eJ.bind λk=>S[k]?.bind C.gr
noncomputable def iI(S:List C)(v:V):Option (List Str×List V):=match v.v7 with
 |some l=>some l
 |none=>v.eJ.bind λk=>S[k]?.bind C.gM
noncomputable def mX(a b:V):Bool:=match a.eJ with
 |some k=>(match b.eJ with
  |some j=> !beq k j
  |none=>true)
 |none=>true
noncomputable def Zo(x:Str)(b:V):Option Bool:=match b.fg with
 |some y=>some (aD x y)
 |none=>b.gh.map λ_=>false
noncomputable def wq(f:V->V->Option Bool)(l:List V)(b:V):Option Bool:=match b.gh with
 |some m=>qK f l m
 |none=>b.fg.map λ_=>false
noncomputable def og(S:List C)(f:V->V->Option Bool)(a b:V):Option Bool:=match mX a b with
 |false=>none
 |true=>(cC S a).bind λl=>(cC S b).bind λm=>qK f l m
noncomputable def Au(S:List C):Nat->V->V->Option Bool
 |0,_,_=>none
 |n+1,a,b=>match a with
  |.int x=>b.int?.map λy=>x==y
  |.bool x=>b.bool?.map λy=>x==y
  |.str x=>Zo x b
  |.tup l=>wq (Au S n) l b
  |a=>og S (Au S n) a b
theorem i7{f:V->V->Option Bool}{x y:V}{m:List V}{b:Bool}(h:qK f (x::l) (y::m)=some b):∃a c,f x y=some a/\qK f l m=some c/\b=(a&&c):=by refine gl λk i=>?_;refine ae (Y6 h) λa j d=>?_;refine ae (au d) λc e g=>?_;refine i ?_;exact iY a c j e g.symm
theorem E7{f:V->V->Option Bool}:∀{l m:List V} {b:Bool},qK f l m=some b->
 ∃e:Nat->Bool,(∀(j:Nat) v w,l[j]? =some v->m[j]? =some w->f v w=some (e j))/\b=((range (min l.length m.length)).all e&&l.length==m.length):=by
 intro l
 induction l with
 |nil=>
  intro m b h
  (replace h:=aw h;subst h)
  refine ⟨λ_=>true,λj v w hv=>(by simp at hv),?_⟩
  cases m<;>rfl
 |cons x l d=>
  intro m b h
  cases m with
  |nil=>(replace h:=aw h;subst h);exact ⟨λ_=>true,λj v w _ a=>(by simp at a),by rfl⟩
  |cons y m=>
   refine gl λr o=>?_
   refine aP (i7 h) λi c q k g=>?_;clear h;subst g
   refine ae (d k) λe p n=>?_
   refine o ?_
   refine ⟨λj=>Nat.casesOn j i e,λj v w hv a=>?_,?_⟩
   ·cases j with
    |zero=>simp at hv a;subst hv a;exact q
    |succ j=>exact p j v w (by simpa using hv) (by simpa using a)
   ·skip
    rw [n,(show min (x::l).length (y::m).length=min l.length m.length+1 from succ_min_succ ..),range_succ_eq_map,all_cons,List.all_map,Bool.and_assoc]
    simp -iota only [cT,Function.comp_def]
    congr 2
    rw [Bool.eq_iff_iff];simp
theorem tM(h:cC S v=some l):v=.lst l\/∃k,v=.ref k/\S[k]? =some (.list l):=by
 unfold cC at h;refine gl λi a=>?_;(revert h;cases _:Internal.V.v0 v;rotate_left;all_goals intro h)
 ·refine a ?_;rename_i e;clear a;(replace h:=aw h;subst h);exact .inl (V.Jm e)
 ·refine ae (Y6 h) λk g b=>?_;refine ae (Y6 b) λc d f=>?_;refine a ?_;exact .inr ⟨k,V.gS g,C.mT f▸d⟩
theorem tN{p:List Str×List V}(h:iI S v=some p):v=.jm p.1 p.2\/∃k,v=.ref k/\S[k]? =some (.dict p.1 p.2):=by
 unfold iI at h;refine gl λi a=>?_;(revert h;cases _:Internal.V.v7 v;rotate_left;all_goals (intro h;dsimp only at h))
 ·refine a ?_;rename_i e;(replace h:=aw h;subst h);exact .inl (V.Jn e)
 ·refine ae (Y6 h) λk g b=>?_;refine ae (Y6 b) λc d f=>?_;refine a ?_;exact .inr ⟨k,V.gS g,C.mU f▸d⟩
theorem dB(R:Y1 F g ls S s)(h:cC S v=some l)(c:RV g v x):∃a vs n,x=.ref a/\cr g l vs.toList/\s.heap.get? a=some {cls:=.type "list",data:=.seq vs n}:=by
 refine gl λr f=>?_;refine aQ (tM h) (λb=>?_) (λe=>ae e λk d i=>?_)
 ·subst b;refine bg c.lst_inv λa vs n d m j=>?_;clear c;subst d;refine f ?_;exact lQ a vs n rfl j (R.cm _ _ m)
 ·clear e;subst d;refine ae c.dw λa b o=>?_;clear c;subst b;refine aq (R.cells k a _ o i) λ_ b=>?_;refine bd b λvs n p q=>?_;clear b;refine f ?_;exact lQ _ vs n rfl q p
theorem yz(R:Y1 F g ls S s){p:List Str×List V}(h:iI S v=some p)(b:RV g v x):∃a,x=.ref a/\iq g s.heap a p.1 p.2:=by
 refine gl λr e=>?_;refine aQ (tN h) (λc=>?_) (λd=>ae d λk i f=>?_)
 ·clear h;subst c;refine PH b.Jo λa o es n j m l=>?_;clear b;subst j;refine e ?_;exact ⟨a,rfl,o,es,n,R.cm _ _ m,l⟩
 ·clear d;clear h;subst i;refine ae b.dw λa c q=>?_;clear b;subst c;refine aq (R.cells k a _ q f) λ_ D=>?_;refine e ?_;exact ⟨_,rfl,D⟩
theorem rC{f:V->V->Option Bool}(i:∀v w x b,RV g v x->RV g w x->f v w=some b->b=true):∀{xs:List Value} {l m:List V} {b:Bool},cr g l xs->cr g m xs->qK f l m=some b->b=true
 |xs,[],m,b=>@λd a h=>by
  obtain rfl:=d.nil_inv;have:=a.length;cases m with
  |nil=>(replace h:=aw h;subst h);rfl
  |cons=>cases this
 |xs,x::l,m,b=>@λd a h=>by
  refine aP d.cons_inv λy u p o j=>?_;subst p;have:=a.length;cases m with
  |nil=>cases this
  |cons z m=>
   refine aP a.cons_inv λ_ _ e k s=>?_
   cases e
   refine aP (i7 h) λt c r q n=>?_;subst n
   rw [i _ _ _ _ o k r,rC i j s q];rfl
theorem pW{f:V->V->Option Bool}{a b:V}{r:Bool}(h:og S f a b=some r):
 mX a b=true/\∃l m,cC S a=some l/\cC S b=some m/\qK f l m=some r:=by
 unfold og at h
 refine gl λj g=>?_
 (revert h;cases _:mX a b;all_goals intro h)
 ·exact aG h
 ·rename_i e
  refine ae (Y6 h) λl d h=>?_
  refine ae (Y6 h) λm i c=>?_
  refine g ?_
  exact ⟨e,l,m,d,i,c⟩
noncomputable abbrev B9(S:List C)(n:Nat)(a:V)(b:V)(r:Bool):Prop:=(∃x y,a=.int x/\b=.int y/\r=(x==y))\/(∃x y,a=.bool x/\b=.bool y/\r=(x==y))\/(∃x,a=.str x/\((∃y,b=.str y/\r=(x==y))\/∃m,b=.tup m/\r=false))\/(∃l,a=.tup l/\((∃m,b=.tup m/\qK (Au S n) l m=some r)\/∃y,b=.str y/\r=false))\/og S (Au S n) a b=some r
theorem wu{a b:V}{r:Bool}(h:Au S (n+1) a b=some r):B9 S n a b r:=by
 cases a with
 |int x=>obtain ⟨y,d,c⟩:=au h;exact .inl ⟨x,y,rfl,V.gR d,c.symm⟩
 |bool x=>obtain ⟨y,d,c⟩:=au h;exact .inr (.inl ⟨x,y,rfl,V.v9 d,c.symm⟩)
 |str x=>
  refine .inr (.inr (.inl ⟨x,rfl,?_⟩));have h:Zo x b=some r:=h;unfold Zo at h;(revert h;clear h;cases _:Internal.V.fg b;rotate_left;all_goals intro h)
  ·rename_i y e;(replace h:=aw h;subst h);exact .inl ⟨y,V.gp e,(gq x y).symm⟩
  ·obtain ⟨m,d,c⟩:=au h;exact .inr ⟨m,V.iv d,c.symm⟩
 |tup l=>
  refine .inr (.inr (.inr (.inl ⟨l,rfl,?_⟩)));have h:wq (Au S n) l b=some r:=h;unfold wq at h;(revert h;cases _:Internal.V.gh b;rotate_left;all_goals intro h)
  ·rename_i m e;exact .inl ⟨m,V.iv e,h⟩
  ·obtain ⟨y,d,c⟩:=au h;exact .inr ⟨y,V.gp d,c.symm⟩
 |_=>exact .inr (.inr (.inr (.inr h)))
theorem E8(R:Y1 F g ls S s):∀n (v w:V) (x:Value) (b:Bool),RV g v x->RV g w x->Au S n v w=some b->b=true:=by
 intro n;induction n with
 |zero=>intro _ _ _ _ _ _ h;exact aG h
 |succ n o=>
  intro v w x b hv c h;rcases wu h with ⟨x,y,rfl,rfl,rfl⟩|⟨x,y,rfl,rfl,rfl⟩|⟨x,rfl,⟨y,rfl,rfl⟩|⟨m,rfl,rfl⟩⟩|⟨l,rfl,⟨m,rfl,h⟩|⟨y,rfl,rfl⟩⟩|h
  ·obtain ⟨_,rfl⟩:=hv.int_inv;obtain ⟨_,e⟩:=c.int_inv;clear h c;cases e;exact rf x
  ·clear h;obtain rfl:=hv.bool_inv;have e:=c.bool_inv;clear c;cases e;exact rf x
  ·obtain ⟨_,rfl⟩:=hv.str_inv;obtain ⟨_,e⟩:=c.str_inv;clear h c;cases e;exact rf x
  ·obtain ⟨_,rfl⟩:=hv.str_inv;obtain ⟨_,_,_,e,_⟩:=c.dy;cases e
  ·obtain ⟨_,_,_,rfl,r,f⟩:=hv.dy;obtain ⟨_,_,_,e,i,d⟩:=c.dy;cases e;replace i:=r▸i;cases i;exact rC o f d h
  ·obtain ⟨_,rfl⟩:=c.str_inv;obtain ⟨_,_,_,e,_⟩:=hv.dy;cases e
  ·refine aq (pW h) λB p=>?_;refine aP p λl m A u z=>?_;clear p;refine bg (dB R A hv) λa vs k q f t=>?_;clear hv;subst q;refine bg (dB R u c) λ_ ws C e d j=>?_;cases e;replace j:=t▸j;cases j;exact rC o f d z
theorem E9{f:V->V->Option Bool}{m:List V}{vs ws:Array Value}{b:Bool}(h:qK f l m=some b)(hv:cr g l vs.toList)(c:cr g m ws.toList)
 (o:∀v w x y b,RV g v x->RV g w y->f v w=some b->SeqAt.EqAt A.in1 s x y b):∃e:Nat->Bool,(∀j (k:j<vs.size) (d:j<ws.size),SeqAt.EqAt A.in1 s vs[j] ws[j] (e j))/\b=((range (min vs.size ws.size)).all e&&vs.size==ws.size):=by
 refine gl λn a=>?_
 refine ae (E7 h) λe k d=>?_
 have e1:l.length=vs.size:=by (refine hv.length▸?_;exact g0▸rfl)
 have e2:m.length=ws.size:=by (refine c.length▸?_;exact g0▸rfl)
 refine a ?_
 refine ⟨e,λj q1 q2=>?_,by (refine d▸?_;refine e1▸?_;exact e2▸rfl)⟩
 refine gl λn a=>?_
 refine ae (hv.get' (i:=j) (x:=vs[j]) (by (refine (fz)▸?_;exact (pn q1)▸rfl))) λv p1 p2=>?_
 refine ae (c.get' (i:=j) (x:=ws[j]) (by (refine (fz)▸?_;exact (pn q2)▸rfl))) λw p3 p4=>?_
 refine a ?_
 exact o v w _ _ _ p2 p4 (k j v w p1 p3)
theorem Ju(R:Y1 F g ls S s):∀(n:Nat) (A:Around) (v w:V) (x y:Value) (b:Bool),A.units+n<cLine->RV g v x->RV g w y->Au S n v w=some b->SeqAt.EqAt A s x y b/\SeqAt.RcAt A s x y b:=by
 intro n;induction n with
 |zero=>intro _ _ _ _ _ _ _ _ _ h;exact aG h
 |succ n H=>
  intro A v w x y b I hv d h;have f:A.units<cLine:=by exact ei (bY _ _) ‹_›
  have G:=λv w x y b p q r=>(H A.in1 v w x y b (by show A.units+1+n<_;exact oC I) p q r).1;have B:∀a c:Addr,x=.ref a->y=.ref c->SeqAt.RcAt A s x y b->SeqAt.EqAt A s x y b/\SeqAt.RcAt A s x y b:=by
   rintro a c rfl rfl z;refine ⟨?_,z⟩;by_cases e:a=c
   ·clear z;subst e;rw [E8 R (n+1) v w _ b hv d h];exact SeqAt.EqAt.same _
   ·exact SeqAt.EqAt.of_refs e z
  rcases wu h with ⟨x,y,rfl,rfl,rfl⟩|⟨x,y,rfl,rfl,rfl⟩|⟨x,rfl,⟨y,rfl,rfl⟩|⟨m,rfl,rfl⟩⟩|⟨l,rfl,⟨m,rfl,h'⟩|⟨y,rfl,rfl⟩⟩|h'
  ·obtain ⟨_,rfl⟩:=hv.int_inv;obtain ⟨_,rfl⟩:=d.int_inv;exact ⟨SeqAt.EqAt.int_int _ _ _ _,SeqAt.RcAt.int_int _ _ _ _⟩
  ·clear B;obtain rfl:=hv.bool_inv;obtain rfl:=d.bool_inv;exact ⟨SeqAt.EqAt.bool_bool _ _,SeqAt.RcAt.bool_bool _ _⟩
  ·obtain ⟨_,rfl⟩:=hv.str_inv;obtain ⟨_,rfl⟩:=d.str_inv;exact ⟨SeqAt.EqAt.str_str _ _ _ _,SeqAt.RcAt.str_str _ _ _ _⟩
  ·obtain ⟨_,rfl⟩:=hv.str_inv;obtain ⟨_,_,_,rfl,i,_⟩:=d.dy;exact ⟨SeqAt.EqAt.str_tuple _ _ ⟨_,R.cm _ _ i,rfl,_,rfl⟩ f,SeqAt.RcAt.str_tuple _ _ ⟨_,R.cm _ _ i,rfl,_,rfl⟩ f⟩
  ·obtain ⟨_,vs,_,rfl,J,u⟩:=hv.dy;obtain ⟨_,ws,_,rfl,L,t⟩:=d.dy;refine ae (E9 h' u t G) λe q1 K=>?_;clear h h';subst K;exact B _ _ rfl rfl (SeqAt.RcAt.tuples ⟨_,R.cm _ _ J,rfl,_,rfl⟩ ⟨_,R.cm _ _ L,rfl,_,rfl⟩ f q1)
  ·obtain ⟨_,rfl⟩:=d.str_inv;obtain ⟨_,_,_,rfl,i,_⟩:=hv.dy;exact ⟨SeqAt.EqAt.tuple_str _ _ ⟨_,R.cm _ _ i,rfl,_,rfl⟩ f,SeqAt.RcAt.tuple_str _ _ ⟨_,R.cm _ _ i,rfl,_,rfl⟩ f⟩
  ·refine gl λQ N=>?_;refine aq (pW h') λT D=>?_;refine aP D λl m P M O=>?_;clear D;refine bg (dB R P hv) λa vs k o u C=>?_;clear hv;subst o;refine bg (dB R M d) λc ws U o t E=>?_;subst o;refine ae (E9 O u t G) λe q1 q2=>?_;refine N ?_;refine B _ _ rfl rfl ?_;by_cases j:vs.size=ws.size
   ·rw [q2,j,Nat.min_self,rf,nY,<-j];exact SeqAt.RcAt.lists ⟨_,C,rfl,_,rfl⟩ ⟨_,E,rfl,_,rfl⟩ j f q1
   ·rw [q2,beq_eq_false_iff_ne.mpr j,Bool.and_false];exact SeqAt.RcAt.lists_lengths ⟨_,C,rfl,_,rfl⟩ ⟨_,E,rfl,_,rfl⟩ (by simpa using j) f
theorem Av{o:List (Str×Value)}{f:V->V->Option Bool}(p:∀v w x y b,RV g v x->RV g w y->f v w=some b->SeqAt.EqAt A s x y b):∀{ks:List Str} {l m:List V} {xs ys:List Value} {b:Bool},cr g l xs->cr g m ys->qK f l m=some b->ks.length=xs.length->
 ks.length=ys.length->(∀k y,(k,y)∈ks.zip ys->valueAt o k=some y)->KeqHits A s o (ks.zip xs) b
 |ks,[],m,xs,ys,b=>@λn e h d a i=>by
  obtain rfl:=n.nil_inv;have:=e.length;obtain rfl:ks=[]:=length_eq_zero_iff.mp d;cases m with
  |nil=>(replace h:=aw h;subst h);exact .nil
  |cons=>replace this:=(aS a)▸this;cases this
 |ks,v::l,m,xs,ys,b=>@λn e h d a i=>by
  refine aP n.cons_inv λx xs j u q=>?_;subst j;cases ks with
  |nil=>cases d
  |cons k ks=>
   cases m with
   |nil=>have:=e.nil_inv;subst this;cases a
   |cons w m=>
    refine aP e.cons_inv λy ys j r C=>?_;subst j;refine aP (i7 h) λD c B z t=>?_;subst t;exact .hit (i k _ (.head _)) (p _ _ _ _ _ u r B) (Av p q C z (lM d) (lM a) λk y a=>i k y (.tail _ a))
theorem Ca{a:List Value}:∀{ks:List Str},ks.Nodup->ks.length=a.length->∀k y,(k,y)∈ks.zip a->valueAt (ks.zip a) k=some y:=by
 induction a with
 |nil=>intro ks _ _ k y h;simp at h
 |cons z a f=>
  intro ks b d k y h;cases ks with
  |nil=>simp at h
  |cons j ks=>
   rw [nodup_cons] at b;rcases nV h with e|h
   ·clear d b h;(injection e with e g;subst e g);simp [valueAt]
   ·have:=f b.2 (lM d) k y h;have c:k≠j:=λe=>b.1 (e▸(of_mem_zip h).1);unfold valueAt at this |-;rw [zip_cons_cons,find?_cons_of_neg (by simpa using λe=>c e.symm)];exact this
end
noncomputable section
open MeetsSeq AutoSeq1 SeqAt MeetsSeq3
noncomputable def Mh(prog:Program)(w:World)(A:Around)(s:Shared)(x y:Value):Prop:=∀(E:cH) (Q:Bool->Shared->Prop),Q true s->wpAny (model prog w) A (eqBool x y) Q E s
noncomputable def Nv(prog:Program)(w:World)(A:Around)(s:Shared)(x y:Value):Prop:=∀(E:cH) (Q:cH),Q (.bool true) s->wpAny (model prog w) A (richCompare .Eq x y) Q E s
theorem Nv.eq{a b:Addr}(h:Nv prog w A s (.ref a) (.ref b)):Mh prog w A s (.ref a) (.ref b):=by
 intro E Q c;rcases Nat.decEq a b with e|e
 ·unfold eqBool;refine cR (wpAny_ite_split (λd=>absurd (by have:=eq_of_beq d;injection this) e) λ_=>?_);exact ax (h E _ (vS c))
 ·clear h;subst e;exact SeqAt.EqAt.same _ prog w E Q c
noncomputable abbrev PX(prog:Program)(w:World)(A:Around)(R:Result->Shared->Prop):Fin->Shared->Prop:=λfin s'=>match fin with
 |.done f=>R (.ok f) s'
 |.again c'=>c'.quiet=true/\codeAny (model prog w) A c' R s'
theorem Cb{l b:Addr}{a:Array Value}{m:Nat}(f:s.heap.get? l=some {cls:=.type "list",data:=.seq a n})(h:s.heap.get? b=some {cls:=.type "list",data:=.seq ys m})(o:a.size=ys.size)
 (u:∀(j:Nat) x y,a[j]? =some x->ys[j]? =some y->Mh prog w A.in1 s x y) (t:R (.ok (.ret (.bool true))) s):
 ∀(k i:Nat),i+k=a.size->wpAny (model prog w) A.in1 (Builtin.«list.__eq__.loop» ⟨[.ref l,.ref b,rawInt i,rawInt 2],[]⟩) (PX prog w A R) (λe v=>R (.error e) v) s:=by
 intro k
 obtain ⟨z,g,d,B,os⟩:=s
 induction k with
 |zero=>
  intro i c
  wp_walk using lI f,lI h
  rw [show a[((i:Nat):Int).toNat]? =none by simp;exact c6 (aS ‹_›),show ys[((i:Nat):Int).toNat]? =none by simp;exact c6 (o.symm.trans c.symm)]
  wp_walk using lI f,lI h
  show R (.ok (.ret (.bool (a.size==ys.size)))) _
  rw [o,rf]
  exact t
 |succ k r=>
  intro i c
  wp_walk using lI f,lI h
  have q:=pn (oB c)
  have p:=pn (Nat.lt_of_lt_of_eq (oB c) ‹_›)
  (refine (show a[((i:Nat):Int).toNat]? =some a[i] from q)▸?_;refine (show ys[((i:Nat):Int).toNat]? =some ys[i] from p)▸?_)
  refine ax (u i _ _ q p _ _ ?_)
  wp_walk
  refine (show ((i:Int)+1)=((i+1:Nat):Int) from rfl)▸?_
  refine ⟨plainId_quiet plain_eq_loop _,codeAny_builtin entry_eq_loop ?_⟩
  refine (Around.under_plainId plain_eq_loop _)▸?_
  exact r (i+1) (Wf c)
theorem Aw{T id:String}{B:Builtin}{a b:Value}{Q:cH}(g:s.TypeIs a T)(j:s.TypeIs b T)(c:Slot T (cmpInfo .Eq).2.1 id)(d:entryFor table id=some B)(args:argsOk id ⟨[a,b],[]⟩)(i:A.units<cLine)
 (h:wpAny (model prog w) A.in1 (B ⟨[a,b],[]⟩) (PX prog w A (wants (λv f=>v≠ .notImplemented/\Q v f) E)) (λe f=>E e f) s):wpAny (model prog w) A (richCompare .Eq a b) Q E s:=
 wpAny_richCompare_same_room g j c (wpAny_call (codeAny_call_builtin c.plain d (c.check _ _ _ _ _ _ _ _ g args h))) i
theorem Tq{l b:Addr}{a:Array Value}{m:Nat}(c:s.heap.get? l=some {cls:=.type "list",data:=.seq a n})(e:s.heap.get? b=some {cls:=.type "list",data:=.seq ys m})(f:a.size=ys.size)(h:A.units<cLine)
 (o:∀(j:Nat) x y,a[j]? =some x->ys[j]? =some y->Mh prog w A.in1 s x y):Nv prog w A s (.ref l) (.ref b):=by
 intro E Q k
 refine Aw ⟨_,c,rfl⟩ ⟨_,e,rfl⟩ F.slot_list_eq F.entry_list_eq (F.args_list_eq_2 _ _) h ?_
 have q:wants (λv p=>v≠ .notImplemented/\Q v p) E (.ok (.ret (.bool true))) s:=And.intro (λx=>Value.noConfusion x) k
 obtain ⟨r,g,d,t,os⟩:=s
 have u:=AutoSeq1.sub_list_list
 have i:¬(a.size !=ys.size)=true:=by (simp -iota [];exact f)
 wp_walk using lI c,lI e
 refine ⟨plainId_quiet plain_eq_loop _,codeAny_builtin entry_eq_loop ?_⟩
 refine (Around.under_plainId plain_eq_loop _)▸?_
 exact Cb c e f o q _ 0 (fL _)
theorem Tr{l b:Addr}{e:Array Value}{m:Nat}(o:s.heap.get? l=some {cls:=.type "tuple",data:=.seq e n})(r:s.heap.get? b=some {cls:=.type "tuple",data:=.seq ys m})(B:e.size=ys.size)(u:A.units<cLine)
 (H:∀(j:Nat) x y,e[j]? =some x->ys[j]? =some y->Mh prog w A.in1 s x y):Nv prog w A s (.ref l) (.ref b):=by
 intro E Q C
 refine Aw ⟨_,o,rfl⟩ ⟨_,r,rfl⟩ F.slot_tuple_eq F.entry_tuple_eq (F.args_tuple_eq_2 _ _) u ?_
 have t:wants (λv f=>v≠ .notImplemented/\Q v f) E (.ok (.ret (.bool true))) s:=And.intro (λx=>Value.noConfusion x) C
 have I:∀p∈e.toList.zip ys.toList,Mh prog w A.in1 s p.1 p.2:=λp c=>by refine gl λL G=>?_;refine ar (Ep c) λj J=>?_;refine aq (getElem?_zip_eq_some.mp J) λz D=>?_;refine G ?_;exact H j _ _ (by refine (aS (fz))▸?_;exact z) (by refine (aS (fz))▸?_;exact D)
 obtain ⟨c,g,d,q,os⟩:=s
 have K:=AutoSeq1.sub_tuple_tuple
 wp_walk using lI o,lI r,wpAny_forIn_list _ (λa b f=>b.1=none/\f=⟨c,g,d,q,os⟩/\∀p∈a,Mh prog w A.in1 ⟨c,g,d,q,os⟩ p.1 p.2) _
 case turn=>
  rintro ⟨y,x⟩ a b f ⟨i,rfl,k⟩
  refine ax (k (y,x) (.head _) _ _ ?_)
  wp_walk
  exact ⟨rfl,rfl,λp c=>k p (.tail _ c)⟩
 case fin=>
  rintro ⟨M,N⟩ f ⟨i,rfl,k⟩
  simp only at i
  subst i
  wp_walk
  have:Builtin.Tuple.tupleCompareSizes .Eq e.size ys.size=.bool true:=by simp [Builtin.Tuple.tupleCompareSizes,B]
  first|exact this▸t|(refine this▸?_;exact t)
 case h=>exact ⟨rfl,rfl,I⟩
noncomputable def gE(v w:V):Option Bool:=v.fg.bind λx=>w.fg.map λy=>aD x y
noncomputable def i8(f:V->V->Bool)(l m:List V):Bool:=match l with
 |[]=>m.isEmpty
 |x::l=>match m with
  |[]=>false
  |y::m=>f x y&&i8 f l m
theorem Ax{f:V->V->Bool}{m:List V}:i8 f [] m=isEmpty m:=by rfl
theorem Ay{f:V->V->Bool}{y:V}:i8 f (y::Jg) []=false:=by rfl
theorem qL{f:V->V->Bool}{y:V}:i8 f (y::Jg) (Nm::Nl)=(f y Nm&&i8 f Jg Nl):=by rfl
noncomputable def qq{α:Type}(f:α->α->Bool)(p q:Option α):Bool:=match p with
 |some a=>(match q with
  |some b=>f a b
  |none=>false)
 |none=>false
noncomputable def yA(p q:List Str×List V):Bool:=n9 p.1 q.1&&(match qK gE p.2 q.2 with
 |some b=>b
 |none=>false)
noncomputable def eqT(S:List C):Nat->V->V->Bool
 |0,_,_=>false
 |n+1,a,b=>match a with
  |.int x=>qq (λx y=>x==y) (some x) b.int?
  |.bool x=>qq (λx y=>x==y) (some x) b.bool?
  |.str x=>qq aD (some x) b.fg
  |.tup l=>qq (i8 (eqT S n)) (some l) b.gh
  |a=>qq (i8 (eqT S n)) (cC S a) (cC S b)||qq yA (iI S a) (iI S b)
theorem fh{f:α->α->Bool}{p q:Option α}(h:qq f p q=true):∃a b,p=some a/\q=some b/\f a b=true:=by
 cases p with
 |none=>exact eI h
 |some a=>cases q with
  |none=>exact eI h
  |some b=>exact iY a b rfl rfl h
theorem Az{f:V->V->Bool}{P:Value->Value->Prop}(t:∀v w x y,f v w=true->RV g v x->RV g w y->P x y):∀{l m:List V} {xs ys:List Value},i8 f l m=true->cr g l xs->cr g m ys->xs.length=ys.length/\∀(j:Nat) x y,xs[j]? =some x->ys[j]? =some y->P x y:=by
 intro l;induction l with
 |nil=>
  intro m xs ys h d c;obtain rfl:=isEmpty_iff.mp h;obtain rfl:=d.nil_inv;obtain rfl:=c.nil_inv;exact ⟨rfl,λj x y e=>by simp at e⟩
 |cons v l n=>
  intro m xs ys h d c;refine gl λA s=>?_;refine aP d.cons_inv λx xs i q o=>?_;clear d;subst i;cases m with
  |nil=>exact eI h
  |cons w m=>
   refine aP c.cons_inv λy ys i p z=>?_;clear c;subst i;refine aq (nU h) λu r=>?_;refine aq (n r o z) λe k=>?_;refine s ?_;refine ⟨bA Nat.succ e,λj a b e1 e2=>?_⟩;cases j with
   |zero=>(replace e1:=aw e1;subst e1);refine Su e2 ?_;exact t _ _ _ _ u q p
   |succ j=>exact k j a b (by simpa using e1) (by simpa using e2)
noncomputable def AA(h:Heap):Prop:=∃o es n e,h.get? sysModules=some o/\o.data=.dict es n/\e∈es/\∀x t,e.val≠ .str x t
theorem Fb:∀{l m:List V} {xs:List Value} {b:Bool},qK gE l m=some b->l.length=m.length->cr g l xs->∀x∈xs,∃y t,x=.str y t:=by
 intro l;induction l with
 |nil=>
  intro m xs b h d r;obtain rfl:=r.nil_inv;exact λx n=>nomatch n
 |cons v l k=>
  intro m xs b h d r;refine gl λu i=>?_;refine aP r.cons_inv λx xs p f o=>?_;clear r;subst p;cases m with
  |nil=>cases d
  |cons w m=>
   refine aP (i7 h) λA c j q _=>?_;refine ae (Y6 j) λz s _=>?_;refine i ?_;intro y a;refine aQ (nV a) (λe=>?_) (λa=>?_)
   ·clear h i d j;clear a;subst e;obtain rfl:=V.gp s;refine ar f.str_inv λt e=>?_;clear f;subst e;exact iX z t rfl
   ·exact k q (lM d) o y a
theorem Ny(R:Y1 F g ls S s)(hs:AA F.base)(P:A.units<cLine){w:V}{p q:List Str×List V}(h1:iI S v=some p)(W:iI S w=some q)(h:yA p q=true)(hv:RV g v x)(j:RV g w y):
 ∃a b,x=.ref a/\y=.ref b/\Nv F.prog F.w A s (.ref a) (.ref b):=by
 refine gl λJ i=>?_
 obtain ⟨ks,l⟩:=p
 obtain ⟨js,m⟩:=q
 refine aq (nU h) λh3 f=>?_
 clear h;obtain rfl:=yy h3
 have f:qK gE l m=some true:=by
  dsimp only at f;split at f
  ·subst f;assumption
  ·exact eI f
 refine ae (yz R h1 hv) λa d N=>?_;clear hv;subst d
 refine ae (yz R W j) λb d D2=>?_;clear j;subst d
 refine bc (gT F.prog R.gw N) λxs e1 e2 C=>?_
 refine bc (gT F.prog R.gw D2) λys Z O r=>?_
 refine i ?_
 refine iY a b rfl rfl (λE Q hq=>?_)
 have L:l.length=m.length:=by (refine e2.length▸?_;refine O.length▸?_;refine (aS C)▸?_;exact (aS r)▸rfl)
 have K:∀{c:Addr} {l m:List V} {b},iq g s.heap c ks l->qK gE l m=some b->l.length=m.length->(c==sysModules)=false:=by intro c l m b D X hl;rw [qY];rintro rfl;refine tG D λo es n d1 _ d3 _ _ _ U=>?_;clear D;refine LY hs λo' YI n' e q1 q2 q3 q4=>?_;clear hs;have:=R.base _ _ q1;replace this:=d1▸this;clear q1;(replace this:=aw this;subst this);replace q2:=d3▸q2;(injection q2 with q2;subst q2);refine dZ (Fb X hl U e.val (mem_map.mpr ⟨e,Array.mem_def.mp q3,rfl⟩)) λz t T=>?_;exact q4 z t T
 have Ts:qK gE m l=some true:=by
  have G:∀{l m:List V},qK gE l m=some true->qK gE m l=some true:=by
   intro l;induction l with
   |nil=>intro m h;cases m with
    |nil=>exact h
    |cons=>cases h
   |cons v l ih=>
    intro m h;cases m with
    |nil=>cases h
    |cons w m=>
     refine gl λJ i=>?_;refine aP (i7 h) λb' c q1 q2 q3=>?_;have q3:=nU q3.symm;refine aq q3 λY d=>?_;clear q3;subst Y;subst d;have Tt:gE w v=some true:=by refine ae (Y6 q1) λz I k=>?_;refine ae (au k) λu B H=>?_;unfold gE;refine B▸?_;refine I▸?_;exact bA some (be.mpr (be.mp H).symm)
     refine i ?_;show (gE w v).bind _=_;rw [Tt];rw [ih q2];rfl
  exact G f
 refine keq_eq (K N f L) (K D2 Ts L.symm) e1 Z P (λ_=>Av (λv w x y b hv j M=>?_) e2 O f C r (Ca ?_ r)) ?_
 ·refine gl λJ i=>?_
  refine ae (Y6 M) λz I k=>?_
  refine ae (au k) λu B H=>?_
  clear k M;obtain rfl:=V.gp I
  obtain rfl:=V.gp B
  refine ar hv.str_inv λ_ d=>?_;clear hv;subst d
  refine ar j.str_inv λ_ d=>?_;clear j;subst d
  refine i ?_
  rw [<-H,<-gq]
  exact SeqAt.EqAt.str_str _ _ _ _
 ·exact D2.choose_spec.choose_spec.choose_spec.2.2.2.2.1
 ·rw [length_zip,length_zip,<-C,<-r,rf];exact hq
theorem Fc(R:Y1 F g ls S s)(hs:AA F.base):∀(n:Nat) (A:Around) (v w:V) (x y:Value),A.units+n<cLine->RV g v x->RV g w y->eqT S n v w=true->Mh F.prog F.w A s x y/\Nv F.prog F.w A s x y:=by
 intro n;induction n with
 |zero=>intro _ _ _ _ _ _ _ _ h;exact eI h
 |succ n K=>
  intro A v w x y L hv z h;have G:A.units<cLine:=by exact ei (bY _ _) ‹_›
  have J:=λv w x y r p q=>(K A.in1 v w x y (by show A.units+1+n<_;exact oC L) p q r).1;have d:(qq (i8 (eqT S n)) (cC S v) (cC S w)||qq yA (iI S v) (iI S w))=true->Mh F.prog F.w A s x y/\Nv F.prog F.w A s x y:=by
   intro h;refine gl λU I=>?_;refine aQ (Bool.or_eq_true_iff.mp h) (λh=>?_) (λh=>?_)
   ·refine aP (fh h) λl m t f H=>?_;refine bg (dB R t hv) λa vs k B D N=>?_;subst B;refine bg (dB R f z) λc ws W B C T=>?_;subst B;refine aq (Az J H D C) λq1 q2=>?_;have u:=Tq N T (by simpa using q1) G λj x y e1 e2=>q2 j x y (by refine (fz)▸?_;exact e1) (by refine (fz)▸?_;exact e2);refine I ?_;exact ⟨u.eq,u⟩
   ·refine aP (fh h) λp q t f H=>?_;refine aP (Ny R hs G t f H hv z) λa b O B u=>?_;clear hv z;subst O;subst B;refine I ?_;exact ⟨u.eq,u⟩
  cases v with
  |int i=>
   refine aP (fh (show qq (λx y=>x==y) (some i) w.int? =true from h)) λ_ b e t f=>?_;clear d h;(replace e:=aw e;subst e);obtain rfl:=V.gR t;obtain ⟨_,rfl⟩:=hv.int_inv;obtain ⟨_,rfl⟩:=z.int_inv;exact ⟨λE Q o=>SeqAt.EqAt.int_int _ _ _ _ F.prog F.w E Q (f▸o),λE Q o=>SeqAt.RcAt.int_int _ _ _ _ F.prog F.w E Q (f▸o)⟩
  |bool i=>
   refine aP (fh (show qq (λx y=>x==y) (some i) w.bool? =true from h)) λ_ b e t f=>?_;clear d h;(replace e:=aw e;subst e);obtain rfl:=V.v9 t;obtain rfl:=hv.bool_inv;obtain rfl:=z.bool_inv;exact ⟨λE Q o=>SeqAt.EqAt.bool_bool _ _ F.prog F.w E Q (f▸o),λE Q o=>SeqAt.RcAt.bool_bool _ _ F.prog F.w E Q (f▸o)⟩
  |str i=>
   refine aP (fh (show qq aD (some i) w.fg=true from h)) λ_ b e t f=>?_;clear d h;(replace e:=aw e;subst e);obtain rfl:=V.gp t;obtain ⟨_,rfl⟩:=hv.str_inv;obtain ⟨_,rfl⟩:=z.str_inv;rw [<-gq] at f;exact ⟨λE Q o=>SeqAt.EqAt.str_str _ _ _ _ F.prog F.w E Q (f▸o),λE Q o=>SeqAt.RcAt.str_str _ _ _ _ F.prog F.w E Q (f▸o)⟩
  |tup l=>
   refine aP (fh (show qq (i8 (eqT S n)) (some l) w.gh=true from h)) λ_ m e t f=>?_;clear d h;(replace e:=aw e;subst e);obtain rfl:=V.iv t;obtain ⟨_,vs,_,rfl,M,D⟩:=hv.dy;obtain ⟨_,ws,_,rfl,P,C⟩:=z.dy;refine aq (Az J f D C) λq1 q2=>?_;have u:=Tr (R.cm _ _ M) (R.cm _ _ P) (by simpa using q1) G λj x y e1 e2=>q2 j x y (by refine (fz)▸?_;exact e1) (by refine (fz)▸?_;exact e2);exact ⟨u.eq,u⟩
  |_=>exact d h
end
noncomputable section
noncomputable abbrev Zs(F:Fx)(ls:bW)(g:G)(S':List C)(v:V)(Q:cH):Prop:=∀g' s' x,g.Le g'->Y1 F g' ls S' s'->RV g' v x->Q x s'
theorem AB(R:Y1 F g ls S s){a:Array Value}(c:cr g l a.toList){Q:cH}(b:Zs F ls g S (.lst l) Q):Q (.ref s.heap.objs.size) {s with heap:=s.heap.push {cls:=.type "list",data:=.seq a}}:=
 b (g.dn s.heap.objs.size _) _ _ (R.bR _) (R.mQ _ rfl s.toks) (.lst (bx rfl) (c.mono (R.bR _)))
theorem AC(R:Y1 F g ls S s){a:Array Value}(c:cr g l a.toList){Q:cH}(b:Zs F ls g S (.tup l) Q):Q (.ref s.heap.objs.size) {s with heap:=s.heap.push {cls:=.type "tuple",data:=.seq a}}:=
 b (g.dn s.heap.objs.size _) _ _ (R.bR _) (R.mQ _ rfl s.toks) (.tup (bx rfl) (c.mono (R.bR _)))
noncomputable def Cc(a b:V)(S:List C):Option V:=match a.gh with
 |some l=>b.gh.bind λm=>match (Nat.blt 0 l.length&&Nat.blt 0 m.length)&&ble (l.length+m.length) 65536 with
  |true=>some (.tup (l++m))
  |false=>none
 |none=>(cC S a).bind λl=>(cC S b).bind λm=>match ble (l.length+m.length) 65536 with
  |true=>some (.lst (l++m))
  |false=>none
noncomputable def PY(a b:V):Option V:=a.int?.bind λx=>b.int?.bind λn=>match dJ x&&decide (0<=n/\n<=1000) with
 |true=>some (.int (x ^ n.toNat))
 |false=>none
theorem bM{b:Bool}{o:Option α}{y:α}(h:(match b with|true=>o|false=>none)=some y):b=true/\o=some y:=by
 cases b with
 |true=>exact ⟨rfl,h⟩
 |false=>exact aG h
theorem cr.qM{m:List V}{a:Array Value}(c:cr g l a.toList)(b:cr g m ys.toList):cr g (l++m) (a++ys).toList:=by rw [Array.toList_append];exact c.append b
theorem cr.size{a:Array Value}(h:cr g l a.toList):l.length=a.size:=by (refine h.length▸?_;exact g0▸rfl)
theorem Cd(R:Y1 F g ls S s){a b:V}(h:Cc a b S=some v)(z:RV g a x)(u:RV g b y){Q:cH}(r:Zs F ls g S v Q):wpAny (model F.prog F.w) A (binaryOp .Add x y) Q E s:=by
 have e:∀{p q:Nat},p+q<=65536->p+q<=sizeLine:=λh=>aA h (by decide);unfold Cc at h;refine gl λJ t=>?_;(revert h;cases _:Internal.V.gh a;rotate_left;all_goals (intro h;dsimp only at h))
 ·rename_i l o;obtain rfl:=V.iv o;refine ae (Y6 h) λm n h=>?_;clear h;obtain rfl:=V.iv n;refine aq (bM h) λc h=>?_;replace h:=aw h;subst h;simp only [dD,blt_eq,ble_eq] at c;refine bg z.dy λ_ G _ d B i=>?_;subst d;refine bg u.dy λ_ H _ d D f=>?_;subst d;refine t ?_;have k:=i.size;have j:=f.size;refine P.add_tuple (R.cm _ _ B) (R.cm _ _ D) ?_ ?_ (AC R (i.qM f) r) (e (pQ k j c.2))
  ·simp only [Array.isEmpty,ek];exact pR k c.1.1
  ·simp only [Array.isEmpty,ek];exact pR j c.1.2
 ·refine ae (Y6 h) λl o h=>?_;refine ae (Y6 h) λm n h=>?_;refine aq (bM h) λc h=>?_;replace h:=aw h;subst h;have c:=cZ c;refine bg (dB R o z) λ_ G _ d i C=>?_;subst d;refine bg (dB R n u) λ_ H _ d f I=>?_;subst d;refine t ?_;have k:=i.size;have j:=f.size;exact P.add_list C I (AB R (i.qM f) r) (e (pQ k j c))
theorem Ce(R:Y1 F g ls S s){a b:V}(h:PY a b=some v)(f:RV g a x)(e:RV g b y){Q:cH}(j:Zs F ls g S v Q):wpAny (model F.prog F.w) A (binaryOp .Pow x y) Q E s:=by refine gl λo l=>?_;refine ae (Y6 h) λi m h=>?_;refine ae (Y6 h) λn k h=>?_;clear h;obtain rfl:=V.gR m;clear h;obtain rfl:=V.gR k;refine aq (bM h) λc h=>?_;replace h:=aw h;subst h;simp only [dD,dJ,ek] at c;refine ar f.int_inv λ_ d=>?_;clear f;subst d;refine ar e.int_inv λ_ d=>?_;clear e;subst d;refine l ?_;exact pow_int_small c.2.1 (Int.le_trans c.2.2 (by decide)) (Nat.lt_trans c.1 (by decide)) (j _ _ _ (.refl g) (R.toks _) (.int _ _))
theorem AD{a:Array Value}(h:cr g l a.toList)(f:α->Nat):∀is:List α,cr g (is.filterMap λi=>l[f i]?) (is.filterMap λi=>a[f i]?):=by
 intro is;induction is with
 |nil=>exact .nil
 |cons i is c=>
  have e:a[f i]? =a.toList[f i]? :=(fz ..).symm;cases b:l[f i]? with
  |none=>
   have:a.toList[f i]? =none:=by rw [List.getElem?_eq_none_iff] at b |-;rw [<-h.length];exact b
   rw [filterMap_cons_none (f:=λi=>l[f i]?) b,filterMap_cons_none (f:=λi=>a[f i]?) (e.trans this)];exact c
  |some v=>
   refine gl λk j=>?_;refine ae (h.get b) λx d r=>?_;refine j ?_;rw [filterMap_cons_some (f:=λi=>l[f i]?) b,filterMap_cons_some (f:=λi=>a[f i]?) (e.trans d)];exact .cons r (c)
noncomputable def kf(l:List V)(lo hi st:Option Int):List V:=(sliceRange (sliceBounds lo hi st l.length).1 (sliceBounds lo hi st l.length).2.1 (sliceBounds lo hi st l.length).2.2).filterMap (l[·]?)
theorem Jv{b:Array Value}(h:cr g l b.toList)(lo a st:Option Int):cr g (kf l lo a st) (slicePick b lo a st).toList:=by delta kf slicePick;refine h.size▸?_;refine List.toList_toArray▸?_;exact AD h id _
noncomputable def NA(l:List V)(p:Int×Int):List V:=(range (Builtin.Slice.slicePlaces p.1 p.2 1)).filterMap λ(k:Nat)=>l[(p.1+(k:Int) * 1).toNat]?
noncomputable def Fd(l:List V)(lo hi:Option Int):V:=match Builtin.Slice.sliceAdjust lo hi 1 l.length with
 |p=>match p.1==0&&Builtin.Slice.slicePlaces p.1 p.2 1==l.length with
  |true=>.tup l
  |false=>.tup (NA l p)
noncomputable def tO(v:V):Option (Option Int):=match v with
 |.none=>some none
 |.int i=>some (some i)
 |_=>none
theorem Fe:tO V.none=some none:=by intros;rfl
theorem Ff{i:Int}:tO (V.int i)=some (some i):=by rfl
theorem part_of{p:Option Int}(h:tO v=some p)(a:RV g v x):IsPart x p:=by
 cases v<;>first|exact aG h|(replace h:=aw h;subst h)
 ·obtain rfl:=a.none_inv;exact .none
 ·obtain ⟨t,rfl⟩:=a.int_inv;exact .int _ _
theorem AE{p:Option Int}(h:IsPart x p):∃q:Option (Int×Tok),x=partValue q/\q.map (·.1)=p:=by
 cases h with
 |none=>exact ⟨none,rfl,rfl⟩
 |int i t=>exact ⟨some (i,t),rfl,rfl⟩
theorem rD{p:Option Int}(h:IsPart x p){Q:Option Int->Shared->Prop}(a:Q p s):wpAny (model F.prog F.w) A (Builtin.Slice.slicePartIndex x) Q E s:=by
 cases h with
 |none=>exact slicePart_none a
 |int i t=>exact slicePart_int a
noncomputable def PZ(st:Option Int):Bool:=match st with
 |some k=>k !=0
 |none=>true
noncomputable def uK(a:V)(lo hi st:Option Int)(S:List C):Option V:=match a.fg with
 |some x=>(match st.isNone&&ble x.length 65536 with
  |true=>some (.str (Txt.slice x lo hi))
  |false=>none)
 |none=>match a.gh with
  |some l=>(match st.isNone&&ble (NA l (Builtin.Slice.sliceAdjust lo hi 1 l.length)).length 65536 with
   |true=>some (Fd l lo hi)
   |false=>none)
  |none=>(cC S a).bind λl=>match PZ st&&ble l.length 65536 with
   |true=>some (.lst (kf l lo hi st))
   |false=>none
noncomputable def kg(a lo hi st:V)(S:List C):Option V:=(tO lo).bind λlo=>(tO hi).bind λhi=>(tO st).bind λst=>uK a lo hi st S
theorem Cf{t j:Addr}{d:Array Value}{lo b:Option Int}(R:Y1 F g ls S s)(i:g.cm t=some {cls:=.type "tuple",data:=.seq d n})(r:cr g l d.toList)(hs:s.heap.IsSliceOf j vl vu .none)(o:IsPart vl lo)(u:IsPart vu b)
 {Q:cH} (a:Zs F ls g S (Fd l lo b) Q) (hsz:(NA l (Builtin.Slice.sliceAdjust lo b 1 l.length)).length<=65536):wpAny (model F.prog F.w) A (getItem (.ref t) (.ref j)) Q E s:=by
 refine bc (id hs) λos f v c=>?_
 have e:IsTup s.heap t d:=⟨_,R.cm _ _ i,rfl,_,rfl⟩
 unfold getItem
 try with_reducible refine cR ?_
 first|refine ax (bn ?_)|skip
 refine ax (wpAny_sequenceKey e.typeIs (by decide) ?_)
 refine ax (lE e.typeIs slot_tuple_getitem
  (lH slot_tuple_getitem e.typeIs entry_tuple_getitem ?_ (args_tuple_getitem _ _)))
 show wpAny _ _ (Builtin.Tuple.tupleItemsOf (.ref t)>>=_) _ _ s
 refine ax (tupleItemsOf_ e ?_)
 refine ax (wpAny_typeOf (⟨os,f,v⟩) ?_)
 rw [bx (by decide)]
 delta Builtin.Slice.sliceApplied Builtin.Slice.sliceFields
 refine ax (ax (ax (dY f c (x:=vl) rfl (ax (dY f c (x:=vu) rfl (ax (dY f c (x:=.none) rfl (bn ?_))))))))
 refine ax (slicePart_none ?_)
 rw [bj (by decide)]
 refine ax (rD o (ax (rD u (ax (bn ?_)))))
 show wpAny _ _ (match Builtin.Slice.sliceAdjust lo b 1 (d.size:Int) with|(lo,b)=>pure (lo,(1:Int),Builtin.Slice.slicePlaces lo b 1)) _ _ s
 unfold Fd at a
 rw [r.size] at a hsz
 generalize Builtin.Slice.sliceAdjust lo b 1 (d.size:Int)=p at a hsz |-
 obtain ⟨p,q⟩:=p
 refine bn ?_
 show wpAny _ _ (if (p==0&&(1:Int)==1&&Builtin.Slice.slicePlaces p q 1==d.size)=true then _ else _) _ _ s
 dsimp only at a
 rw [show ((1:Int)==1)=true from rfl,nY]
 cases m:(p==0&&Builtin.Slice.slicePlaces p q 1==d.size) with
 |true=>
  rw [m] at a
  rw [bx rfl]
  (delta Builtin.Tuple.tupleIsExact;dsimp only)
  refine ax (ax (wpAny_typeOf e.typeIs (bn ?_)))
  rw [bx (by decide)]
  exact ax (jn (bn ⟨_,rfl,bn (a g s (.ref t) (.refl g) R (.tup i r))⟩))
 |false=>
  rw [m] at a
  rw [bj j2]
  have h:=AD r (λk:Nat=>(p+(k:Int) * 1).toNat) (range (Builtin.Slice.slicePlaces p q 1))
  refine ax (jQ (bn ⟨_,rfl,bn (AC R (by rw [List.toList_toArray];exact h) a)⟩) ?_)
  show (List.toArray _).size<=sizeLine
  rw [rh,<-h.length]
  exact aA hsz (by decide)
noncomputable abbrev yB(F:Fx)(A:Around)(s:Shared)(E:cH)(x:Value)(sl:Addr)(Q:cH):Prop:=(∃T id,typeLookup (.type T) "__getitem__"=pure (some (.builtin id))/\s.TypeIs x T)/\wpAny (model F.prog F.w) A (getItem x (.ref sl)) Q E s
theorem Cg(R:Y1 F g ls S s){a lo D st:V}{vs:Value}(h:kg a lo D st S=some v)(f:RV g a x)(C:RV g lo vl)(B:RV g D vu)(o:RV g st vs){K:Addr}(hs:s.heap.IsSliceOf K vl vu vs){Q:cH}(m:Zs F ls g S v Q):yB F A s E x K Q:=by
 refine gl λP u=>?_;refine ae (Y6 h) λU M h=>?_;refine ae (Y6 h) λW I h'=>?_;refine ae (Y6 h') λL J k=>?_;clear h h';have p1:=part_of M C;have p2:=part_of I B;have p3:=part_of J o;unfold uK at k;have z:L.isNone=true->vs=.none:=λe=>by clear k o J hs;cases L with
  |none=>cases p3;rfl
  |some k=>exact eI e
 (revert k;clear h o M I;cases _:Internal.V.fg a;rotate_left;all_goals (intro k;dsimp only at k))
 ·rename_i y N;clear p3;obtain rfl:=V.gp N;refine aq (bM k) λj k=>?_;replace k:=aw k;subst k;refine aq (nU j) λb c=>?_;clear k;obtain rfl:=z b;refine ar f.str_inv λt d=>?_;clear f C;subst d;refine ae (AE p1) λq1 d q=>?_;clear B;clear p1;subst d;subst q;refine ae (AE p2) λq2 d q=>?_;subst d;subst q;have:=cZ c;refine u ?_;refine ⟨⟨"str",_,PySem.F.slot_str_getitem.lookup,typeIs_str _ _ _⟩,wpAny_getItem_str_slice (st:=none) hs rfl (post_val_or_str ⟨aA (Txt.slice_le y _ _) (aA this (by decide)),λT k=>?_⟩)⟩;exact m _ _ _ (.refl g) (R.toks k) (.str _ _)
 ·(revert k;cases _:Internal.V.gh a;rotate_left;all_goals (intro k;dsimp only at k))
  ·rename_i l w;clear p3;obtain rfl:=V.iv w;refine aq (bM k) λj k=>?_;replace k:=aw k;subst k;refine aq (nU j) λb c=>?_;obtain rfl:=z b;refine bg f.dy λ_ O n p i r=>?_;clear f;subst p;have:=cZ c;refine u ?_;exact ⟨⟨"tuple",_,slot_tuple_getitem.lookup,_,R.cm _ _ i,rfl⟩,Cf R i r hs p1 p2 m this⟩
  ·refine ae (Y6 k) λl w k=>?_;refine aq (bM k) λj k=>?_;replace k:=aw k;subst k;refine aq (nU j) λb c=>?_;have:=cZ c;refine bg (dB R w f) λ_ O _ p G H=>?_;subst p;refine u ?_;refine ⟨⟨"list",_,slot_list_getitem.lookup,_,H,rfl⟩,wpAny_getItem_list_slice ⟨_,H,rfl,_,rfl⟩ hs p1 p2 p3 (λe=>?_) (AB R (Jv G _ _ _) m) (aA (by rw [<-G.size];exact this) (by decide))⟩;rw [e] at b;exact eI b
end
noncomputable section
theorem Y1.grow(R:Y1 F g ls S s)(k:∀b o,s.heap.get? b=some o->h'.get? b=some o)(t:Nat):Y1 F g ls S {s with heap:=h',toks:=t}:=
 ⟨R.gw,λb o e=>k _ _ (R.base b o e),λb o e=>k _ _ (R.dI b o e),λb o e=>let ⟨j,q⟩:=R.kZ b o e;⟨j,k _ _ q⟩,λb o e=>k _ _ (R.cm b o e),R.len,
   λi a c l d=>(R.cells i a c l d).at λb _ o e=>k _ _ e,R.nodup,R.apart,dU (G.Le.refl _) (k _) R.locs,R.gens,R.os,R.bh,let ⟨ts,T⟩:=R.tb;⟨ts,T.keeps k rfl λ_ _ e=>e⟩,R.fN,R.cw,λh e=>let ⟨p,o,f,q,r⟩:=R.hJ h e;⟨p,o,f,k _ _ q,r⟩⟩
theorem Y1.uL(R:Y1 F g ls S s)(k:∀b o,s.heap.get? b=some o->h'.get? b=some o)(x:h'.get? s.heap.objs.size=some o)(t:Nat):Y1 F (g.dn s.heap.objs.size o) ls S {s with heap:=h',toks:=t}:=by
 have L:=R.bR o;have f:=R.grow k t;have m:∀{b:Addr} {j:Obj},s.heap.get? b=some j->b≠s.heap.objs.size:=λe=>cc (cI e);have d:∀{b:Addr},b≠s.heap.objs.size->(g.dn s.heap.objs.size o).cm b=g.cm b:=λh=>bj h;refine ⟨R.gw,f.base,f.dI,f.kZ,λb A e=>?_,R.len,λi a c B y=>(f.cells i a c B y).mono L,R.nodup,λb l=>?_,dU L (λ_ e=>e) f.locs,R.gens,R.os,λb j e=>?_,?_,λb o e=>L.cm _ _ (R.fN b o e),λb o e=>?_,f.hJ⟩
 ·simp only [G.dn] at e;split at e
  ·rename_i l;subst l;(replace e:=aw e;subst e);exact x
  ·exact f.cm b A e
 ·refine gl λv n=>?_;refine eu (R.apart b l) λp q r z=>?_;refine ar (R.gQ b l) λj u=>?_;refine n ?_;exact ⟨p,q,r,(d (m u)).trans z⟩
 ·refine gl λv n=>?_;refine ck (R.bh b j e) λp q r=>?_;refine ar (R.kZ b j e) λC l=>?_;refine n ?_;exact ⟨p,q,(d (m l)).trans r⟩
 ·refine ar R.tb λts T=>?_;exact ⟨ts,T.keeps k rfl λb ⟨j,u⟩ w=>(d (m u)).trans w⟩
 ·exact (d (m (R.dI b o e))).trans (R.cw b o e)
noncomputable def Mi(a:V)(S:List C):Option V:=(match a.gh with|some l=>some l|none=>cC S a).bind λl=>match ble l.length 65536 with
 |true=>some (.lst l)
 |false=>none
theorem yC(R:Y1 F g ls S s){a:V}(h:Mi a S=some v)(q:RV g a x){Q:cH}(p:Zs F ls g S v Q):wpAny (model F.prog F.w) A (call (.type "list") [x]) Q E s:=by
 refine gl λu f=>?_;refine ae (Y6 h) λl c h=>?_;refine aq (bM h) λt h=>?_;replace h:=aw h;subst h;have fin:∀{b:Addr} {d:Array Value} {n:Nat} {T:String},x=.ref b->(T="list"\/T="tuple")->s.heap.get? b=some {cls:=.type T,data:=.seq d n}->cr g l d.toList->wpAny (model F.prog F.w) A (call (.type "list") [x]) Q E s:=by rintro b d n T rfl y z r;refine call_list_seq b y z rfl rfl (λh' c' k hn=>?_) (aA (by rw [<-r.size];exact (cZ t)) (by decide));exact p _ _ _ (R.bR _) (R.uL k hn _) (.lst (bx rfl) (r.mono (R.bR _)))
 clear h t p;cases j:a.gh with
 |some m=>
  refine f ?_;replace c:=j▸c;clear h;(replace c:=aw c;subst c);refine gl λu f=>?_;refine bg (tI j q) λ_ d n e i r=>?_;refine f ?_;exact fin e (.inr rfl) (R.cm _ _ i) r
 |none=>
  replace c:=j▸c;refine bg (dB R c q) λ_ d n e r o=>?_;refine f ?_;exact fin e (.inl rfl) o r
noncomputable def Mj(a:V)(S:List C):Option V:=(match a.v7 with|some _=>none|none=>iI S a).bind λp=>match ble p.1.length 4000 with
 |true=>some (.jm p.1 p.2)
 |false=>none
theorem NC(R:Y1 F g ls S s)(hs:F.base.get? sysModules≠none)(hv:v.v7=none){b:Addr}{p}(h:iI S v=some p)(a:RV g v (.ref b)):(b==sysModules)=false:=by
 rw [qY];rintro rfl;refine aQ (tN h) (λi=>?_) (λd=>ae d λk f _=>?_)
 ·clear h a;subst i;exact aG (aS hv)
 ·clear d;clear h hv;subst f;refine ae a.dw λc e j=>?_;injection e with e
  have:=(R.apart c.1 (.tail _ (mh j (.head _)))).1;replace this:=(aS e)▸this;exact hs this
theorem yD(R:Y1 F g ls S s)(hs:F.base.get? sysModules≠none){a:V}(h:Mj a S=some v)(k:RV g a x){Q:cH}(m:Zs F ls g S v Q):wpAny (model F.prog F.w) A (call (.type "dict") [x]) Q E s:=by
 refine gl λp j=>?_;refine ae (Y6 h) λi c h=>?_;obtain ⟨ks,l⟩:=i;refine aq (bM h) λG h=>?_;replace h:=aw h;subst h;(revert c;cases _:Internal.V.v7 a;rotate_left;all_goals intro c)
 ·exact aG c
 rename_i C;refine ae (yz R c k) λb i D=>?_;subst i;refine bc (gT F.prog R.gw D) λH e1 e2 f=>?_;refine j ?_;refine kt_call_dict (NC R hs C c k) e1 (aA (by rw [length_zip,<-f,Nat.min_self];exact (cZ G)) (by decide)) λh' hd hs=>?_;have d:=gV (vs:=l) R.gw hd (by rw [(map_snd_zip (c6 f.symm))];exact e2);replace d:=(map_fst_zip (c6 f))▸d;refine gl λp j=>?_;refine tG d λo es n u B r z t q y=>?_;clear d;refine j ?_;exact m _ _ _ (R.bR _) (R.uL (λb o e=>(hs.2 b (cc (cI e))).trans (eZ _ e)) u s.toks) (.jm (bx rfl) B r z t q (y.mono (R.bR _)))
noncomputable def uM(a:V):Option V:=match a.gh with
 |some _=>some (.bool true)
 |none=>a.fg.map λ_=>.bool false
theorem wv(R:Y1 F g ls S s){a:V}(h:uM a=some v)(b:RV g a x){Q:cH}(c:Zs F ls g S v Q):wpAny (model F.prog F.w) A (call (.builtin "isinstance") [x,.type "tuple"]) Q E s:=by
 unfold uM at h;refine gl λo d=>?_;(revert h;cases _:Internal.V.gh a;rotate_left;all_goals (intro h;dsimp only at h))
 ·rename_i l k;replace h:=aw h;subst h;refine bg (tI k b) λ_ p n j i r=>?_;clear b;subst j;refine d ?_;exact IsiPair.tuple_tuple (R.cm _ _ i) rfl (c _ _ _ (.refl g) R (.bool _))
 ·refine ae (au h) λy f e=>?_;clear h;subst e;refine ar (strAt f b) λt m=>?_;clear b;subst m;refine d ?_;exact IsiPair.str_tuple (c _ _ _ (.refl g) (R.toks _) (.bool _))
set_option genCtorIdx true in
inductive jl where
 |join|starts|upper|append|extend|pop
protected noncomputable def jl.name:jl->Str
 |.join=>"join"|.starts=>"startswith"|.upper=>"upper"|.append=>"append"|.extend=>"extend"|.pop=>"pop"
theorem ki:jl.name jl.join=Str.ofString "join":=by intros;rfl
theorem kj:jl.name jl.starts=Str.ofString "startswith":=by intros;rfl
theorem km:jl.name jl.upper=Str.ofString "upper":=by intros;rfl
theorem kn:jl.name jl.append=Str.ofString "append":=by intros;rfl
theorem kr:jl.name jl.extend=Str.ofString "extend":=by intros;rfl
theorem kt:jl.name jl.pop=Str.ofString "pop":=by intros;rfl
noncomputable def jl.onStr:jl->Bool
 |.join=>true|.starts=>true|.upper=>true|_=>false
noncomputable def jl.id:jl->String
 |.join=>"str.join"|.starts=>"str.startswith"|.upper=>"str.upper"|.append=>"list.append"|.extend=>"list.extend"|.pop=>"list.pop"
noncomputable def gc(v:V)(S:List C):Option (Nat×List V):=v.eJ.bind λk=>(S[k]?.bind C.gr).map λl=>(k,l)
noncomputable def Zn(vs:List V):Option V:=match vs with
 |[v]=>some v
 |_=>none
theorem AF:Zn [v]=some v:=by rfl
noncomputable def mY:List V->Option (List Str)
 |[]=>some []
 |v::l=>v.fg.bind λx=>(mY l).map (x::·)
theorem Fh:mY (v::l)=Option.bind (V.fg v) λx=>Option.map (λiS=>x::iS) (mY l):=by rfl
noncomputable def ww(x:Str)(v:V)(S:List C):Option V:=match v.gh with
 |some l=>(mY l).bind λts=>match ble ((ts.map (·.length)).sum+ts.length * x.length) 16777216 with
  |true=>some (.str (Txt.join x ts))
  |false=>none
 |none=>(cC S v).bind λl=>(mY l).bind λts=>match JoinOk x ts with
  |true=>some (.str (Txt.join x ts))
  |false=>none
noncomputable def i9(m:jl)(o:V)(vs:List V)(S:List C):Option (V×List C):=match m with
 |.join=>o.fg.bind λx=>(Zn vs).bind λv=>(ww x v S).map λr=>(r,S)
 |.starts=>o.fg.bind λx=>(Zn vs).bind λv=>v.fg.map λy=>(.bool (Txt.startswith x y),S)
 |.upper=>o.fg.bind λx=>match vs.isEmpty&& !Builtin.Str.tooLong (Txt.upper x).length with
  |true=>some (.str (Txt.upper x),S)
  |false=>none
 |.append=>(gc o S).bind λp=>(Zn vs).bind λv=>match ble p.2.length 65536 with
  |true=>some (.none,S.set p.1 (.list (p.2++[v])))
  |false=>none
 |.extend=>(gc o S).bind λp=>(Zn vs).bind λv=>(cC S v).bind λm=>match ble (p.2.length+m.length) 65536 with
  |true=>some (.none,S.set p.1 (.list (p.2++m)))
  |false=>none
 |.pop=>(gc o S).bind λp=>(Zn vs).bind λv=>v.int?.bind λi=>match decide (0<=i)&&ble p.2.length 65536 with
  |true=>(p.2[i.toNat]?).map λr=>(r,S.set p.1 (.list (p.2.eraseIdx i.toNat)))
  |false=>none
theorem Fi{o:V}:
 i9 jl.append o vs S=
  Option.bind (gc o S) λp=>
   Option.bind (Zn vs) λv=>
    match ble (List.length (Prod.snd p)) 65536 with
    |true=>some (V.none,List.set S (Prod.fst p) (C.list (Prod.snd p++[v])))
    |false=>none:=by rfl
theorem Fj{o:V}:
 i9 jl.extend o vs S=
  Option.bind (gc o S) λp=>
   Option.bind (Zn vs) λv=>
    Option.bind (cC S v) λm=>
     match ble (List.length (Prod.snd p)+List.length m) 65536 with
     |true=>some (V.none,List.set S (Prod.fst p) (C.list (Prod.snd p++m)))
     |false=>none:=by rfl
theorem Fk{o:V}:
 i9 jl.pop o vs S=
  Option.bind (gc o S) λp=>
   Option.bind (Zn vs) λv=>
    Option.bind (V.int? v) λi=>
     match decide (0<=i)&&ble (List.length (Prod.snd p)) 65536 with
     |true=>Option.map (λr=>(r,List.set S (Prod.fst p) (C.list (eraseIdx (Prod.snd p) (Int.toNat i))))) (Prod.snd p)[Int.toNat i]?
     |false=>none:=by rfl
theorem wx:∀{l:List V} {ts:List Str} {xs:List Value},mY l=some ts->cr g l xs->∃q:List (Str×Tok),xs=strValues q/\q.map (·.1)=ts:=by
 intro l;induction l with
 |nil=>
  intro ts xs h r;(replace h:=aw h;subst h);obtain rfl:=r.nil_inv;exact ⟨[],rfl,rfl⟩
 |cons v l f=>
  intro ts xs h r;refine ae (Y6 h) λx i h=>?_;refine ae (au h) λj e a=>?_;clear h;subst a;refine aP r.cons_inv λy k a d c=>?_;clear h r;subst a;refine ar (strAt i d) λt b=>?_;clear d;subst b;refine ae (f e c) λq b a=>?_;clear e c;subst b;subst a;exact ⟨(x,t)::q,rfl,rfl⟩
theorem Y1.wy(R:Y1 F g ls S s){f:Array Value->Array Value}{c:Array Value}(i:g.cs[k]? =some a)(j:a.2=none)(d:s.heap.get? a.1=some {cls:=.type "list",data:=.seq c n})(h:cr g l' (f c).toList)(t:Nat):
 Y1 F g ls (S.set k (.list l')) {s with heap:=s.heap.update a.1 (Obj.mapSeq f),toks:=t}:=
 R.turn (c':=.list l') i (.head _) (λb o l e=>((mG s.heap a.1 _).2 b l).trans e) ⟨j,f c,_,IsL.update d f,h⟩ t (λ_ _ e=>C.noConfusion e) (λo m q r=>by rw [d] at q;(replace q:=aw q;subst q);cases r)
noncomputable abbrev Ch(g:G)(s:Shared)(p:Nat×List V)(x:Value):Prop:=∃a xs n,x=.ref a.1/\g.cs[p.1]? =some a/\a.2=none/\s.heap.get? a.1=some {cls:=.type "list",data:=.seq xs n}/\cr g p.2 xs.toList
theorem mZ(R:Y1 F g ls S s){p:Nat×List V}(h:gc v S=some p)(d:RV g v x):Ch g s p x:=by refine gl λu m=>?_;refine ae (Y6 h) λk t h=>?_;refine ae (au h) λl i f=>?_;clear h;subst f;refine ae (Y6 i) λc r j=>?_;clear h;obtain rfl:=V.gS t;obtain rfl:=C.mT j;refine ae d.dw λa b e=>?_;clear d;subst b;refine aq (R.cells k a _ e r) λq b=>?_;refine bd b λo n q1 q2=>?_;clear b;refine m ?_;exact Mb a o n rfl e q q1 q2
theorem m0(h:Zn vs=some v)(r:cr g vs xs):∃x,xs=[x]/\RV g v x:=by
 cases vs with
 |nil=>exact aG h
 |cons a l=>cases l with
  |nil=>
   replace h:=aw h;subst h;refine aP r.cons_inv λx f d c e=>?_;clear r;subst d;obtain rfl:=e.nil_inv;exact ⟨x,rfl,c⟩
  |cons b l=>exact aG h
theorem Fn:∀{l:List V} {xs:List Value} (i:Nat),cr g l xs->cr g (l.eraseIdx i) (xs.eraseIdx i):=by
 intro l;induction l with
 |nil=>
  intro xs i r;obtain rfl:=r.nil_inv;exact .nil
 |cons v l c=>
  intro xs i r;refine aP r.cons_inv λx e d b a=>?_;clear r;subst d;cases i with
  |zero=>exact a
  |succ i=>exact .cons b (c i a)
theorem rE(R:Y1 F g ls S s){m:jl}{o:V}(h:i9 m o vs S=some (v,S'))(U:RV g o x)(hv:cr g vs xs){Q:cH}(N:Zs F ls g S' v Q):wpAny (model F.prog F.w) A (call (.builtin m.id) (x::xs)) Q E s:=by
 have M:∀{p:Nat},p<=65536->p<=sizeLine:=λh=>aA h (by decide);refine gl λGz T=>?_;cases m with
 |join=>
  refine ae (Y6 h) λy I h=>?_;refine ae (Y6 h) λw K h=>?_;refine ae (au h) λr j e=>?_;clear h;(injection e with e H;clear h;subst e H);refine ar (strAt I U) λ_ c=>?_;clear h;subst c;refine ae (m0 K hv) λz c J=>?_;clear hv;subst c;replace j:ww y w S=some r:=j;delta ww at j;(revert j;cases hl:V.gh w;rotate_left;all_goals (intro j;dsimp only at j))
  ·rename_i l;refine ae (Y6 j) λts h6 h7=>?_;refine aq (bM h7) λd P=>?_;clear j h7;(replace P:=aw P;subst P);refine bg (tI hl J) λa D n G r0 B=>?_;subst G;refine ae (wx h6 B) λq e1 e2=>?_;clear h6;subst e2;refine T ?_;exact join_tuple ⟨_,R.cm _ _ r0,rfl,_,rfl⟩ (by refine e1▸?_;exact strsAre_of_values q) (cZ d) λt k=>N _ _ _ (.refl g) (R.toks k) (.str _ _)
  ·refine ae (Y6 j) λl X Y=>?_;refine ae (Y6 Y) λts h6 h7=>?_;refine aq (bM h7) λd P=>?_;clear j;clear Y;(replace P:=aw P;subst P);refine bg (dB R X J) λa D n G B C=>?_;subst G;refine ae (wx h6 B) λq e1 e2=>?_;obtain rfl:D=(strValues q).toArray:=Array.ext' (by (refine e1▸?_;exact List.toList_toArray▸rfl));refine T ?_;exact SC.join ⟨_,C,rfl,_,rfl⟩ e2 d λt k=>N _ _ _ (.refl g) (R.toks k) (.str _ _)
 |starts=>
  refine ae (Y6 h) λy I h=>?_;refine ae (Y6 h) λw K h=>?_;refine ae (au h) λr j e=>?_;(injection e with e H;subst e H);refine ar (strAt I U) λ_ c=>?_;subst c;refine ae (m0 K hv) λz c J=>?_;subst c;refine ar (strAt j J) λ_ c=>?_;subst c;refine T ?_;exact SC.startswith (N _ _ _ (.refl g) R (.bool _))
 |upper=>
  refine ae (Y6 h) λy I h=>?_;refine aq (bM h) λd e=>?_;refine Pl e λH O=>?_;clear e;subst H O;refine aq (nU d) λEs L=>?_;refine ar (strAt I U) λ_ c=>?_;subst c;obtain rfl:=isEmpty_iff.mp Es;obtain rfl:=hv.nil_inv;refine T ?_;exact SC.upper ((ri _).mp L) (N _ _ _ (.refl g) (R.toks _) (.str _ _))
 |append=>
  refine ae (Y6 h) λc I h=>?_;obtain ⟨k,l⟩:=c;refine ae (Y6 h) λw K h=>?_;refine aq (bM h) λd e=>?_;refine Pl e λH O=>?_;clear e;subst H O;have d:=cZ d;refine mO (mZ R I U) λa D n G Z j C B=>?_;subst G;refine ae (m0 K hv) λz c J=>?_;subst c;refine T ?_;refine call_meets PySem.F.slot_list_append ⟨_,C,rfl⟩ PySem.F.entry_list_append (PySem.F.args_list_append_2 _ _) (list_append a.1 D n z (M (by refine (aS B.size)▸?_;exact d))) ⟨C,?_⟩;exact N _ _ _ (.refl g) (R.wy Z j C (by rw [Array.toList_push];exact B.append (.cons J .nil)) _) .none
 |extend=>
  refine ae (Y6 h) λc I h=>?_;obtain ⟨k,l⟩:=c;refine ae (Y6 h) λw K h=>?_;refine ae (Y6 h) λm X h=>?_;refine aq (bM h) λd e=>?_;refine Pl e λH O=>?_;clear e;subst H O;have d:=cZ d;refine mO (mZ R I U) λa D n G Z j C B=>?_;subst G;refine ae (m0 K hv) λz c J=>?_;subst c;refine bg (dB R X J) λb zs n2 G r2 o2=>?_;subst G;have W:l.length=D.size:=B.size;have z2:=r2.size;have d:l.length+m.length<=65536:=d;have hs:sizeLine>=65536:=by decide
  refine T ?_;refine call_meets PySem.F.slot_list_extend ⟨_,C,rfl⟩ PySem.F.entry_list_extend (PySem.F.args_list_extend_2 _ _) (AutoSeq1.list_extend_list_list_0 a.1 D n b zs n2 ?_ (M (pS W d)) (aA (W▸z2▸d) (nZ hs))) ⟨C,o2,?_⟩
  ·have:Builtin.List.listTooLong (D.size+zs.size)=false:=df (Nat.not_lt.mpr (aA (pQ W z2 d) hs));rw [this,Bool.and_false];exact j2
  exact N _ _ _ (.refl g) (R.wy (f:=λx=>x++zs) Z j C (B.qM r2) _) .none
 |pop=>
  refine ae (Y6 h) λc I h=>?_;obtain ⟨k,l⟩:=c;refine ae (Y6 h) λw K h=>?_;refine ae (Y6 h) λi X h=>?_;refine aq (bM h) λd e=>?_;refine ae (au e) λr Y e=>?_;(injection e with e H;subst e H);refine aq (nU d) λEs L=>?_;have L:=cZ L;refine mO (mZ R I U) λa D n G Z j C B=>?_;subst G;refine ae (m0 K hv) λz c J=>?_;subst c;refine ar (intAt X J) λu c=>?_;subst c;refine ae (B.get Y) λy O ry=>?_;have W:l.length=D.size:=B.size;have L:l.length<=65536:=L;have h0:=f9 Es;have gU:i.toNat<l.length:=(fx Y)
  refine T ?_;refine call_meets PySem.F.slot_list_pop ⟨_,C,rfl⟩ PySem.F.entry_list_pop (PySem.F.args_list_pop_2 _ _) (MeetsSeq.list_pop_at a.1 D n i u i.toNat y ?_ ?_ (by refine (aS (fz))▸?_;exact O) (M (aA (c6 W.symm) L))) ⟨C,?_⟩
  ·simp only [Builtin.List.listFitsIndex,dD,ek];exact ⟨Int.le_trans (by decide) h0,ra (Int.self_le_toNat i) (Int.lt_trans (Int.ofNat_lt.mpr (fw gU L)) (by decide))⟩
  ·delta seqIndex?;rw [bj (show¬i<0 by exact Int.not_lt.mpr h0),bx (by simp only [dD,ek];exact ⟨h0,ra (Int.self_le_toNat i) (Int.ofNat_lt.mpr (W▸gU))⟩)]
  refine N _ _ _ (.refl g) (R.wy Z j C ?_ _) ry;refine (show (D.eraseIdxIfInBounds i.toNat).toList=D.toList.eraseIdx i.toNat by simp)▸?_;exact Fn _ B
noncomputable def Jw(b:Bi)(v:V)(S:List C):Option V:=match b with
 |.list=>Mi v S
 |.dict=>Mj v S
 |b=>E0 b v S
theorem Ci(R:Y1 F g ls S s)(hs:F.base.get? sysModules≠none){b:Bi}{w:V}(h:Jw b v S=some w)(d:RV g v x){Q:cH}(a:Zs F ls g S w Q):wpAny (model F.prog F.w) A (call b.val [x]) Q E s:=by
 cases b with
 |list=>exact yC R h d a
 |dict=>exact yD R hs h d a
 |len=>exact rx R (show E0 .len v S=some w from h) d λy t c=>a _ _ _ (.refl g) (R.toks t) c
 |str=>exact rx R (show E0 .str v S=some w from h) d λy t c=>a _ _ _ (.refl g) (R.toks t) c
 |ord=>exact rx R (show E0 .ord v S=some w from h) d λy t c=>a _ _ _ (.refl g) (R.toks t) c
 |sum=>exact aG h
end
theorem uN:typeLookup (.type "list") "keys"=pure none:=by rw [typeLookup_type,builtinLookup_eq_fast];trivial
section
variable {g:Array GenState}{d:Drawn}{t:Nat}{os:OsState}{a:Addr}
theorem Jx{j:Array Value}(c:h.get? a=some {cls:=.type "list",dict:=none,data:=.seq j n,slots:=sl})(m:A.handled=none)
 (l:∀h' t',(∀b o,h.get? b=some o->h'.get? b=some o)->Q none ⟨h',g,d,t',os⟩):wpAny (model prog w) A (getAttr? (.ref a) "keys") Q E ⟨h,g,d,t,os⟩:=by
 have f:∀i,(⟨h,g,d,i,os⟩:Shared).TypeIs (.ref a) "list":=λ_=>⟨_,c,rfl⟩
 have x:=sub_AttributeError
 have s:=PySem.F.slot_list_getattribute.lookup
 have y:=PySem.F.slot_list_getattribute.bind (.ref a)
 have r:=am_list_getattr_none
 delta getAttr? getAttrBy? getAttrBy
 repeat (any_goals (first|assumption|exact f _|((with_reducible show wpAny _ _ (call (Value.builtin "list.__getattribute__") _ _) _ _ _);refine call_meets PySem.F.slot_list_getattribute (f _) am_entry_list_getattribute (PySem.F.args_list_getattribute_2 _ _) (meets_getattribute_miss_list a j n sl "keys" _ uN (by decide+kernel)) ⟨c,m,λh' i e k=>?_⟩)|wp_step))
 refine gl λq p=>?_
 refine dZ k.there λt' v u=>?_
 refine p ?_
 unfold getattributeRaised
 repeat (any_goals (first|assumption|wp_step))
 exact l _ _ k.keeps
end
theorem iy:entryFor table "dict.update.loop"=some Builtin.«dict.update.loop»:=entryFor_of_tree (by trivial)
noncomputable def yE(h:Heap)(kv:Str×Value)(x:Value):Prop:=∃a t n,x=Value.ref a/\h.get? a=some {cls:=.type "tuple",data:=.seq #[.str kv.1 t,kv.2] n}
theorem wz{h₀:Heap}{d l:Addr}{c:Value}(L:A.handled=none)(q:items.size=kvs.length)(hsz:kvs.length<=4000)(Q:h₀.get? d=none)(C:h₀.get? it=none)(f:it≠d)
 (B:h₀.get? l=some {cls:=.type "list",data:=.seq items n}) (H:∀(j:Nat) kv x,kvs[j]? =some kv->items[j]? =some x->yE h₀ kv x):
 ∀(m i:Nat) (s:Shared) (done:List (Str×Value)),m+i=kvs.length->s.heap.IsListIter it l i->(∀b o,h₀.get? b=some o->s.heap.get? b=some o)->s.heap.DictOf (strKind prog w) d done->done.length<=i->
  (∀h' t',h'.DictOf (strKind prog w) d (merged done (kvs.drop i))->(∀b o,h₀.get? b=some o->h'.get? b=some o)->R (.ok (.ret c)) {s with heap:=h',toks:=t'})->
  ∀k,codeAny (model prog w) A (.builtin "dict.update.loop" ⟨[.ref d,.ref it,rawInt k,c],[]⟩) R s:=by
 intro m
 induction m with
 |zero=>
  intro i s done h g p hd y v k
  refine codeAny_builtin iy ?_
  refine ax (wpAny_pyNext_list_end L g ⟨_,p _ _ B,rfl,n,rfl⟩ (by rw [Array.getElem?_eq_none];exact c6 (q.trans (h.symm.trans (fL i)))) λh' hs=>?_)
  refine ax (bn (bn (v h' s.toks ?_ ?_)))
  ·rw [drop_eq_nil_of_le (oF h)]
   exact hd.extBut hs (cy f)
  ·exact λb o e=>hs b o (λz=>by rw [z,C] at e;exact aG e) (p b o e)
 |succ m G=>
  intro i s done h g p hd y v k
  have u:i<kvs.length:=by exact Vf h
  have r:=pn (Nat.lt_of_lt_of_eq (Vf h) (aS ‹_›))
  refine gl λT N=>?_
  refine iW (H i kvs[i] items[i] (d9 u) r) λa t V S O=>?_
  rw [S] at r
  refine N ?_
  refine codeAny_builtin iy ?_
  refine ax (wpAny_pyNext_list_item g ⟨_,p _ _ B,rfl,n,rfl⟩ r λU P D=>?_)
  have k₁:=λb o e=>D.extBut b o (λz=>by rw [z,C] at e;exact aG e) (p b o e)
  have F:=k₁ _ _ O
  refine ax (cR (ax (wpAny_tryCatch ?_)))
  unfold Builtin.Dict.pairItems
  refine ax (wpAny_typeOf ⟨_,F,rfl⟩ ?_)
  rw [bx (by decide)]
  refine ax (wpAny_seqItems F rfl (bn ?_))
  refine cR (wpAny_dictSet_pairs (hsz:=by rw [j8];exact aA y (aA (px u) (aA hsz (by decide)))) (strKind_is prog w kvs[i].1 t) (hd.extBut D.extBut (cy f)) λK M E=>?_)
  refine bn ⟨Code.quiet_builtin _ (by decide+kernel),?_⟩
  have e:stored done kvs[i].1 kvs[i].2=merged done [kvs[i]]:=rfl
  refine G (i+1) {s with heap:=K,toks:=s.toks+1} (stored done kvs[i].1 kvs[i].2) (Wg h) (P.extBut E.extBut f) (λb o e=>E.extBut b o (λz=>by rw [z,Q] at e;exact aG e) (k₁ b o e)) M (by have:=stored_length_le done kvs[i].1 kvs[i].2;exact aA ‹_› (gD ‹_› _)) (λh' t' J I=>v h' t' ?_ I) _
  rw [drop_eq_getElem_cons u]
  exact J
theorem qr{l:Addr}{Q:cH}(q:A.handled=none)(f:items.size=kvs.length)(hsz:kvs.length<=4000)
 (m:s.heap.get? l=some {cls:=.type "list",data:=.seq items n}) (t:∀(j:Nat) kv x,kvs[j]? =some kv->items[j]? =some x->yE s.heap kv x)
 (h:∀h' t',h'.DictOf (strKind prog w) s.heap.objs.size (merged [] kvs)->(∀b o,s.heap.get? b=some o->h'.get? b=some o)->Q (.ref s.heap.objs.size) {s with heap:=h',toks:=t'}):
 wpAny (model prog w) A (call (.type "dict") [.ref l]) Q E s:=by
 refine callType_codes (Q₁:=λc r=>c=.ref s.heap.objs.size/\r={s with heap:=s.heap.push {cls:=.type "dict",data:=.dict #[]}}) PySem.F.kt_called_dict (PySem.F.kt_typeCall_dict_1 _) PySem.F.entry_dict_init (kt_code_dict_new _ ⟨rfl,rfl⟩) ?_
 rintro c r ⟨rfl,rfl⟩
 have a:(s.heap.push {cls:=.type "dict",data:=.dict #[]}).DictOf (strKind prog w) s.heap.objs.size []:=Heap.DictOf.new s.heap
 have i:(s.heap.push {cls:=.type "dict",data:=.dict #[]}).get? l=some {cls:=.type "list",data:=.seq items n}:=eZ _ m
 have y:s.heap.get? s.heap.objs.size=none:=by
  cases e:s.heap.get? s.heap.objs.size with
  |none=>rfl
  |some o=>exact absurd (cI e) (lK _)
 refine ⟨a.typeIs,PySem.F.args_dict_init_2 _ _,?_⟩
 unfold Builtin.«dict.__init__»
 refine ax ?_
 unfold Builtin.Dict.selfAndRest
 refine ax (wpAny_notOrdered_dict a.typeIs ?_)
 refine bn ?_
 show wpAny _ _ (Builtin.Dict.updateFrom "dict.__init__" s.heap.objs.size (.ref l) [] .none) _ _ _
 (delta Builtin.Dict.updateFrom;dsimp only)
 refine ax (wpAny_typeOf ⟨_,i,rfl⟩ ?_)
 rw [bx (by decide)]
 refine ax ?_
 obtain ⟨Fo,gs,B,z,os⟩:=s
 refine Jx i q λg C k₁=>?_
 simp -iota only [isNone_none,if_true]
 refine ax (jn (ax ?_))
 have k:=a.at λo e=>k₁ _ _ e
 refine wpAny_pyIter_list ⟨_,k₁ _ _ i,rfl,n,rfl⟩ ?_
 have p:Fo.objs.size<g.objs.size:=by refine iW k λo _ _ e _=>?_;clear k;exact cI e
 have d:∀b o,Fo.get? b=some o->(g.push {cls:=.type "list_iterator",data:=.fields #[.ref l,.int 0 0]}).get? b=some o:=λb o e=>eZ _ (k₁ _ _ (eZ _ e))
 refine bn ⟨Code.quiet_builtin _ (by decide+kernel),wz (h₀:=Fo) (by exact q) f hsz y ?_ (g2 p) m t kvs.length 0 _ [] rfl ⟨_,gZ _ rfl,rfl,rfl⟩ d (k.at λo e=>eZ _ e) (cJ _) (λh' t' v u=>?_) 0⟩
 ·cases e:Fo.get? g.objs.size with
  |none=>rfl
  |some o=>exact absurd (cI e) (Nat.not_lt.mpr (px p))
 ·exact ⟨rfl,h h' t' v u⟩
noncomputable def ZK(v:V):Option (Str×V):=v.gh.bind λl=>match l with
 |[k,x]=>k.fg.map λt=>(t,x)
 |_=>none
noncomputable def pairsOf:List V->Option (List Str×List V)
 |[]=>some ([],[])
 |v::l=>(ZK v).bind λp=>(pairsOf l).map λq=>(p.1::q.1,p.2::q.2)
noncomputable def oh:List Str->Bool
 |[]=>true
 |x::l=> !l.any (aD x)&&oh l
theorem oj:∀{l:List Str},oh l=true->l.Nodup:=by
 intro l;induction l with
 |nil=>intro _;exact .nil
 |cons x l b=>
  intro h;refine aq (nU h) λa c=>?_;refine nodup_cons.mpr ⟨λd=>?_,b c⟩;have:l.any (aD x)=true:=List.any_eq_true.mpr ⟨x,d,be.mpr rfl⟩;rw [this] at a;exact eI a
theorem mj:∀(kvs acc:List (Str×Value)),((acc++kvs).map (·.1)).Nodup->merged acc kvs=acc++kvs
 |[]=>@λacc _=>by simp [merged]
 |(k,v)::kvs=>@λacc h=>by
  have a:stored acc k v=acc++[(k,v)]:=by
   have:(acc.any λb=>decide (b.1=k))=false:=by rw [List.any_eq_false];intro p c;rw [j7,pz] at h;simpa using h.2.2 p.1 (iT c) k (by simp)
   simp [stored,this]
  have e:merged acc ((k,v)::kvs)=merged (stored acc k v) kvs:=rfl;rw [e,a,mj kvs (acc++[(k,v)]) (by simpa using h)];simp
noncomputable def Mm(a:V)(S:List C):Option (V×List C):=(cC S a).bind λl=>(pairsOf l).bind λp=>match oh p.1&&ble l.length 4000 with
 |true=>some (.ref S.length,S++[.dict p.1 p.2])
 |false=>none
theorem yG(R:Y1 F g ls S s):∀{l:List V} {p:List Str×List V} {xs:List Value},pairsOf l=some p->cr g l xs->∃ys:List Value,cr g p.2 ys/\p.1.length=l.length/\ys.length=l.length/\∀(j:Nat) d x,(p.1.zip ys)[j]? =some d->xs[j]? =some x->yE s.heap d x:=by
 intro l;induction l with
 |nil=>
  intro p xs h r;(replace h:=aw h;subst h);exact ⟨[],.nil,rfl,rfl,λj d x e=>by simp at e⟩
 |cons v l D=>
  intro p xs h r;refine gl λU N=>?_;refine ae (Y6 h) λq C z=>?_;refine ae (au z) λY Q b=>?_;clear z h;subst b;refine aP r.cons_inv λx YL b u I=>?_;clear r;subst b;refine gK (D Q I) λys O P T E=>?_;refine ae (Y6 C) λm A c=>?_;refine bg (tI A u) λa vs n G i J=>?_;clear A C u;subst G;cases m with
  |nil=>exact aG c
  |cons k₁ m=>cases m with
   |nil=>exact aG c
   |cons Z m=>cases m with
    |cons _ _=>exact aG c
    |nil=>
  ·refine ae (au c) λt L b=>?_;clear c;subst b;obtain rfl:=V.gp L;refine aP J.cons_inv λkx X e1 B w=>?_;refine aP w.cons_inv λy W e2 H M=>?_;clear w;obtain rfl:=M.nil_inv;subst e2;refine ar B.str_inv λo K=>?_;clear B;subst K;refine N ?_;refine ⟨y::ys,.cons H O,bA Nat.succ P,bA Nat.succ T,λj d x k f=>?_⟩;cases j with
   |zero=>(replace k:=aw k;subst k);(replace f:=aw f;subst f);exact vY a o n rfl (by rw [R.cm _ _ i,show vs= #[.str t o,y] from Array.ext' e1])
   |succ j=>exact E j d x k f
theorem wA(R:Y1 F g ls S s)(N:A.handled=none){a:V}{q:V×List C}(h:Mm a S=some q)(D:RV g a x){Q:cH}(G:Zs F ls g q.2 q.1 Q):wpAny (model F.prog F.w) A (call (.type "dict") [x]) Q E s:=by
 refine gl λZ P=>?_;refine ae (Y6 h) λl X t=>?_;refine ae (Y6 t) λp W v=>?_;refine aq (bM v) λY d=>?_;clear t h v;(replace d:=aw d;subst d);refine aq (nU Y) λO K=>?_;refine bg (dB R X D) λb xs n I r M=>?_;clear D;subst I;refine gK (yG R W r) λz T f i H=>?_;have m:(p.1.zip z).length=l.length:=by rw [length_zip,f,i,Nat.min_self]
 have B:(p.1.zip z).map (·.1)=p.1:=map_fst_zip (c6 (f.trans i.symm));refine P ?_;refine qr N (by rw [m,r.length,g0]) (by rw [m];exact cZ K) M (λj U x e1 e2=>H j U x e1 (by rw [fz];exact e2)) λh' J hd k=>?_;rw [mj _ [] (by rw [nil_append,B];exact (oj O)),nil_append] at hd;have L:g.Le {g with cs:=g.cs++[(s.heap.objs.size,Option.none)]}:=⟨rfl,λ_ _ h=>h,[(s.heap.objs.size,none)],rfl⟩
 have u:=gV (g:={g with cs:=g.cs++[(s.heap.objs.size,Option.none)]}) R.gw hd (by rw [(map_snd_zip (c6 (i.trans f.symm)))];exact T.mono L);rw [B] at u;exact G _ _ _ L (R.mS (c:=.dict p.1 p.2) k (λb y=>by
  simp [Y4] at y;subst y;cases e:s.heap.get? s.heap.objs.size with
  |none=>rfl
  |some o=>exact absurd (cI e) (lK _)) (by simp [Y4]) ⟨rfl,u⟩ J (λ_ _ e=>C.noConfusion e)) (.ref (a:=(s.heap.objs.size,Option.none)) (by rw [<-R.len];simp))
noncomputable def Zm:List V->Option (List Int)
 |[]=>some []
 |v::l=>v.int?.bind λi=>(Zm l).map (i::·)
theorem Ck:Zm (v::l)=Option.bind (V.int? v) λi=>Option.map (λx=>i::x) (Zm l):=by rfl
theorem Cm:∀{l:List V} {is:List Int} {xs:List Value},Zm l=some is->cr g l xs->is.length=xs.length/\∀(j:Nat) x,xs[j]? =some x->∃t,x=.int (is.getD j 0) t:=by
 intro l;induction l with
 |nil=>
  intro is xs h r;(replace h:=aw h;subst h);obtain rfl:=r.nil_inv;exact ⟨rfl,λj x e=>by simp at e⟩
 |cons v l d=>
  intro is xs h r;refine gl λp m=>?_;refine ae (Y6 h) λi o c=>?_;refine ae (au c) λq n a=>?_;clear h c;subst a;refine aP r.cons_inv λx s a b f=>?_;clear r;subst a;refine aq (d n f) λe1 e2=>?_;refine ar (intAt o b) λt k=>?_;clear b;subst k;refine m ?_;refine ⟨bA Nat.succ e1,λj x e=>?_⟩;cases j with
  |zero=>(replace e:=aw e;subst e);exact ⟨t,rfl⟩
  |succ j=>exact e2 j x e
noncomputable def Fq(a:V)(S:List C):Option V:=(cC S a).bind λl=>(Zm l).map λis=>.int (preSum (λj=>is.getD j 0) is.length)
theorem yH(R:Y1 F g ls S s)(I:A.handled=none){a:V}(h:Fq a S=some v)(r:RV g a x){Q:cH}(t:Zs F ls g S v Q):wpAny (model F.prog F.w) A (call (.builtin "sum") [x]) Q E s:=by
 refine ae (Y6 h) λl N p=>?_;refine ae (au p) λis L e=>?_;clear h p;subst e;refine bg (dB R N r) λb q n u G d=>?_;clear r;subst u;refine aq (Cm L G) λe1 e2=>?_;have m:=cI d;refine call_sum_walkAnyS (wpAny_pyIter_list ⟨_,d,rfl,n,rfl⟩ ⟨s.heap.objs.size,_,_,_,_,_,_,λj=>is.getD j 0,rfl,(Walks.list (by exact I) s.heap.objs.size b (cc m) q).toS,⟨⟨_,gZ _ rfl,rfl,rfl⟩,⟨_,eZ _ d,rfl,n,rfl⟩⟩,λc f=>?_,λi v hv=>?_,λK O y=>?_⟩)
 ·skip;rw [Heap.size_push];clear d;rcases (by simpa using f) with rfl|rfl
  ·exact lL _
  ·exact pr m
 ·exact e2 i v (by rw [fz];exact hv)
 ·skip;rw [(show q.size=is.length from by rw [e1,g0])];obtain ⟨z,gs,H,D,os⟩:=K;obtain ⟨k,J,M,C,B⟩:=y;clear B;obtain rfl:gs=s.gens:=J;obtain rfl:H=s.drawn:=M;obtain rfl:os=s.os:=C;exact t _ _ _ (.refl g) (R.grow (h':=z) (λc o e=>k c o (λf=>by rw [(show c=s.heap.objs.size from by simpa using f)] at e;exact absurd (cI e) (lK _)) (eZ _ e)) D) (.int _ _)
noncomputable def uO(hd:Bool)(b:Bi)(v:V)(S:List C):Option (V×List C):=match Jw b v S with
 |some w=>some (w,S)
 |none=>match hd with
  |true=>none
  |false=>match b with
   |.dict=>Mm v S
   |.sum=>(Fq v S).map λw=>(w,S)
   |_=>none
theorem ND:
 uO false Bi.sum v S=
  match Jw Bi.sum v S with
  |some w=>some (w,S)
  |none=>Option.map (λw=>(w,S)) (Fq v S):=by rfl
theorem Cn(R:Y1 F g ls S s)(hs:F.base.get? sysModules≠none)(i:hd=false->A.handled=none){b:Bi}{q:V×List C}(h:uO hd b v S=some q)(c:RV g v x){Q:cH}(a:Zs F ls g q.2 q.1 Q):wpAny (model F.prog F.w) A (call b.val [x]) Q E s:=by
 unfold uO at h;refine gl λj f=>?_;(revert h;cases _:Jw b v S;rotate_left;all_goals (intro h;dsimp only at h))
 ·rename_i w d;rw [<-aw h] at a;refine f ?_;exact Ci R hs d c a
 ·(revert h;cases hd;rotate_left;all_goals (intro h;dsimp only at h))
  ·exact aG h
  ·cases b with
   |dict=>exact f (wA R (i rfl) h c a)
   |sum=>
    refine ae (au h) λw d e=>?_;rw [<-e] at a;exact f (yH R (i rfl) d c a)
   |_=>exact aG h
set_option genCtorIdx true in
inductive Rs (α:Type) where
 |ok (a:α)
 |exc (k:Nat)
noncomputable abbrev Y5(α:Type):=Option (Rs α×List C)
variable {f:Bool->List V->List C->Y5 V}
noncomputable def cu{α β:Type}(x:Y5 α)(f:α->List C->Y5 β):Y5 β:=match x with
 |none=>none
 |some (r,S)=>match r with
  |.ok v=>f v S
  |.exc k=>some (.exc k,S)
theorem Tu{f:α->List C->Y5 β}:cu none f=none:=by rfl
theorem cP{f:α->List C->Y5 β}{v:α}:cu (some (Rs.ok v,S)) f=f v S:=by rfl
theorem Fs{f:α->List C->Y5 β}:cu (some (Rs.exc k,S)) f=some (Rs.exc k,S):=by rfl
noncomputable def Zh(g:G)(S:List C)(k:Nat)(a:Addr×Option Addr):Prop:=g.cs[k]? =some a/\∃ks vs,S[k]? =some (.exc ks vs)
noncomputable def Y7{α:Type}(o:Y5 α)(K:α->List C->Prop)(X:Nat->List C->Prop):Prop:=match o with
 |none=>False
 |some (r,S)=>match r with
  |.ok v=>K v S
  |.exc k=>X k S
theorem Y7.cu{x:Y5 α}{f:α->List C->Y5 β}{K:β->List C->Prop}{X:Nat->List C->Prop}(H:Y7 (cu x f) K X):Y7 x (λv S=>Y7 (f v S) K X) X:=by
 cases x with
 |none=>exact H
 |some p=>obtain ⟨r,S⟩:=p;cases r<;>exact H
theorem Y7.mono{o:Y5 α}{K b:α->List C->Prop}{X a:Nat->List C->Prop}(H:Y7 o K X)(h:∀v S,K v S->b v S)(c:∀k S,X k S->a k S):Y7 o b a:=by
 cases o with
 |none=>exact H
 |some p=>
  obtain ⟨r,S⟩:=p;cases r with
  |ok v=>exact h v S H
  |exc k=>exact c k S H
noncomputable def KQ{α β:Type}(rel:G->β->α->Prop)(F:Fx)(ls:bW)(g:G)(Q:α->Shared->Prop)(v:β)(S':List C):Prop:=∀g' s' x,g.Le g'->Y1 F g' ls S' s'->rel g' v x->Q x s'
noncomputable def XE(F:Fx)(ls:bW)(g:G)(E:cH)(k:Nat)(S':List C):Prop:=∀g' s' a,g.Le g'->Y1 F g' ls S' s'->Zh g' S' k a->E (.ref a.1) s'
noncomputable def cK{α β:Type}(rel:G->β->α->Prop)(F:Fx)(ls:bW)(g:G)(Q:α->Shared->Prop)(E:cH)(o:Y5 β):Prop:=Y7 o (KQ rel F ls g Q) (XE F ls g E)
theorem XE.le(h:XE F ls g E k S)(L:g.Le g'):XE F ls g' E k S:=λc s a b=>h c s a (L.trans b)
theorem cK.le{a:G->β->α->Prop}{Q:α->Shared->Prop}{o:Y5 β}(H:cK a F ls g Q E o)(L:g.Le g'):cK a F ls g' Q E o:=
 Y7.mono H (λ_ _ h c s x b=>h c s x (L.trans b)) λ_ _ h=>h.le L
theorem cK.cu{b:G->β->α->Prop}{d:G->β₁->α₁->Prop}{Q:α->Shared->Prop}{x:Y5 β₁}{f:β₁->List C->Y5 β}{Q₁:α₁->Shared->Prop}
 (H:cK b F ls g Q E (cu x f)) (h:∀a S g' c y,cK b F ls g' Q E (f a S)->g.Le g'->Y1 F g' ls S c->d g' a y->Q₁ y c):cK d F ls g Q₁ E x:=
 Y7.mono (Y7.cu H) (λa S H g' c y L=>h a S g' c y (cK.le H L) L) λ_ _ h=>h
theorem cK.ok{a:G->β->α->Prop}{Q:α->Shared->Prop}{v:β}(H:cK a F ls g Q E (some (.ok v,S))){x:α}(R:Y1 F g ls S s)(b:a g v x):Q x s:=H g s x (.refl g) R b
noncomputable def dW(L:Addr)(h h':Heap):Prop:=∀o,h.get? L=some o->∃sl,h'.get? L=some {o with slots:=sl}
noncomputable def Fx.enter(F:Fx)(oL:Obj)(env:Env)(aj:List Str):Fx:=
 {F with FP:=λb=>if b=F.env.locals then some oL else F.FP b,env:=env,top:=env::F.top,aj:=aj}
theorem Y1.m8(R:Y1 F g ls S s):∃o es ep,s.heap.get? F.env.locals=some o/\o.data=.dict es ep:=by refine gl λc b=>?_;refine ae R.locs λm a _=>?_;refine bg a λo es ep e d _=>?_;clear a;refine b ?_;exact vY o es ep e d
theorem Y1.enter(R:Y1 F g ls S s)(hL:s.heap.get? F.env.locals=some oL){H:Heap}{nc:List Addr}{nS:List C}
 (X:env.locals=s.heap.objs.size) (Q:H.Ns s.heap.objs.size m) (B:∀b o,s.heap.get? b=some o->H.get? b=some o)
 (l:∀c∈nc,s.heap.objs.size<c) (hJ:nc.Nodup) (A:nc.length=nS.length) (Tv:∀c∈nS,∃v,c=.var v)
 (hcell:∀(i:Nat) c x,nc[i]? =some c->nS[i]? =some x->RC {g with cs:=g.cs++nc.map λc=>(c,none)} H x (c,none))
 (M:∀(i:Nat) n v,aj[i]? =some n->ls₀[i]? =some (some v)->∃x,Zi env m n=some x/\RV {g with cs:=g.cs++nc.map λc=>(c,none)} v x) (t:Nat):
 Y1 (F.enter oL env aj) {g with cs:=g.cs++nc.map λc=>(c,none)} ls₀ (S++nS) {s with heap:=H,toks:=t}:=by
 have L:g.Le {g with cs:=g.cs++nc.map λc=>(c,Option.none)}:=⟨rfl,λ_ _ h=>h,_,rfl⟩
 have W:∀b,(∃o,s.heap.get? b=some o)->b≠s.heap.objs.size:=λb ⟨o,e⟩=>cc (cI e)
 have O:∀c∈nc,∀o,s.heap.get? c≠some o:=λc hc o e=>Nat.lt_asymm (cI e) (l c hc)
 have N:∀{m:Addr->Option Obj},(∀b o,m b=some o->∃G,s.heap.get? b=some G)->m s.heap.objs.size=Option.none:=λ{m} q=>by
  cases e:m s.heap.objs.size with
  |none=>rfl
  |some o=>exact absurd rfl (W _ (q _ o e))
 have K:∀{m:Addr->Option Obj} {c:Addr},c∈nc->(∀b o,m b=some o->∃G,s.heap.get? b=some G)->m c=Option.none:=λ{m c} hc q=>by
  cases e:m c with
  |none=>rfl
  |some o=>obtain ⟨G,e'⟩:=q _ o e;exact absurd e' (O c hc G)
 have D:((nc.map λc=>((c,none):Addr×Option Addr)).flatMap Y4)=nc:=by
  clear l hJ A hcell M L O K;induction nc with
  |nil=>rfl
  |cons c nc ih=>simp only [gg,py,ih];rfl
 have Vn:∀b,b∈td (F.enter oL env aj) {g with cs:=g.cs++nc.map λc=>(c,Option.none)}->b=s.heap.objs.size\/b∈g.cs.flatMap Y4\/b∈nc:=λb f=>by
  refine aQ (nV f) (λh=>?_) (λh=>?_)
  ·exact .inl (h.trans X)
  ·rw [mJ,D,mem_append] at h;exact .inr h
 have Mn:∀b o,(F.enter oL env aj).FP b=some o->∃G,s.heap.get? b=some G:=λb o e=>by
  simp only [Fx.enter] at e;split at e
  ·rename_i f;subst f;exact ⟨oL,hL⟩
  ·obtain ⟨sl,q⟩:=R.kZ b o e;exact ⟨_,q⟩
 have Y:=R.apart F.env.locals (.head _)
 refine ⟨R.gw,λb o e=>B _ _ (R.base b o e),λb o e=>B _ _ (R.dI b o e),λb o e=>?_,λb o e=>B _ _ (R.cm b o e),by (simp -iota [R.len];exact A),λk a c p q=>?_,?_,λb f=>?_,⟨m,by show H.Ns env.locals m;rw [X];exact Q,M⟩,R.gens,R.os,λb o e=>?_,?_,R.fN,R.cw,λh e=>let ⟨p,o,J,q,r⟩:=R.hJ h e;⟨p.imp (λz=>by rw [mJ];exact mI _ z) id,o,J,B _ _ q,r⟩⟩
 ·simp only [Fx.enter] at e
  split at e
  ·rename_i f;subst f;(replace e:=aw e;subst e);exact ⟨oL.slots,B _ _ hL⟩
  ·obtain ⟨sl,q⟩:=R.kZ b o e;exact ⟨sl,B _ _ q⟩
 ·refine aQ (Nat.lt_or_ge k g.cs.length) (λd=>?_) (λd=>?_)
  ·rw [fb d] at p
   rw [fb (by rw [<-R.len];exact d)] at q
   exact ((R.cells k a c p q).at λb _ o e=>B _ _ e).mono L
  ·rw [eO d,hZ] at p
   rw [eO (by rw [<-R.len];exact d),<-R.len] at q
   cases e:nc[k - g.cs.length]? with
   |none=>rw [e] at p;exact aG p
   |some x=>rw [e] at p;(replace p:=aw p;subst p);exact hcell _ _ _ e q
 ·show (env.locals::(g.cs++nc.map λc=>(c,none)).flatMap Y4).Nodup
  rw [X,nodup_cons,mJ,D,pz]
  refine ⟨λM=>?_,(Nj R.nodup),hJ,λx hx y U e=>?_⟩
  ·refine aQ (mem_append.mp M) (λh=>?_) (λh=>?_)
   ·exact W _ (R.gQ _ (.tail _ h)) rfl
   ·exact absurd (l _ h) (lK _)
  ·subst e
   refine ar (R.gQ _ (.tail _ hx)) λo ho=>?_
   exact O x U o ho
 ·refine aQ (Vn b f) (λP=>?_) (λZ=>aQ Z (λh=>?_) (λh=>?_))
  ·subst P
   exact ⟨N λb o e=>⟨o,R.base b o e⟩,N λb o e=>⟨o,R.dI b o e⟩,N Mn,N λb o e=>⟨o,R.cm b o e⟩⟩
  ·refine gl λGz I=>?_
   refine eu (R.apart b (.tail _ h)) λp1 p2 p3 p4=>?_
   refine I ?_
   refine ⟨p1,p2,?_,p4⟩
   show (if b=F.env.locals then some oL else F.FP b)=none
   rw [bj (λ(e:b=F.env.locals)=>(yf R.nodup) (e▸h)),p3]
  ·exact ⟨K h λb o e=>⟨o,R.base b o e⟩,K h λb o e=>⟨o,R.dI b o e⟩,K h Mn,K h λb o e=>⟨o,R.cm b o e⟩⟩
 ·simp only [Fx.enter] at e
  split at e
  ·rename_i f;subst f;exact ⟨Y.1,Y.2.1,Y.2.2.2⟩
  ·exact R.bh b o e
 ·refine ar R.tb λts T=>?_
  have E:∀(i:Nat) (y:Addr),(ts++replicate nc.length Option.none)[i]? =some (some y)->ts[i]? =some (some y):=λi y h=>by
   by_cases V:i<ts.length
   ·rwa [fb V] at h
   ·rw [eO (Nat.not_lt.mp ‹_›)] at h;have:=dP h;rw [mem_replicate] at this;cases this.2
  refine ⟨ts++replicate nc.length Option.none,by (simp -iota [T.len];exact A),λk a ks vs p q=>?_,λy U=>?_,λi j y h1 h2=>T.nd i j y (E i y h1) (E j y h2)⟩
  ·refine gl λGz I=>?_
   refine aQ (Nat.lt_or_ge k g.cs.length) (λd=>?_) (λd=>?_)
   ·have p:(g.cs++nc.map λc=>((c,Option.none):Addr×Option Addr))[k]? =some a:=p
    rw [fb d] at p
    rw [fb (by rw [<-R.len];exact d)] at q
    refine aP (T.one k a ks vs p q) λo J u v w=>?_
    refine I ?_
    exact iY o J (B _ _ u) v (by rw [fb (by rw [T.len,<-R.len];exact d)];exact w)
   ·rw [eO (by rw [<-R.len];exact d)] at q
    refine ar (Tv _ (dP q)) λv e=>?_
    cases e
  ·refine gl λGz I=>?_
   refine ar (Ep U) λi V=>?_
   refine lO (T.obj y (dP (E i y V))) λP r u1 u2 u3 u4=>?_;refine bd P λo J u v=>?_;clear P
   refine I ?_
   refine ⟨⟨o,J,B _ _ u,v⟩,λf=>?_,u1,u2,?_,u4⟩
   ·refine aQ (Vn y f) (λh=>?_) (λZ=>aQ Z (λh=>?_) (λh=>?_))
    ·exact W y ⟨o,u⟩ h
    ·exact r (.tail _ h)
    ·exact O y h o u
   ·show (if y=F.env.locals then some oL else F.FP y)=Option.none
    rw [bj (λ(e:y=F.env.locals)=>r (e▸ .head _)),u3]
theorem Y1.leave(R:Y1 F g ls S s)(E:s.heap.get? F.env.locals=some oL){u:Shared}(N:g.Le g')(a:Y1 (F.enter oL env aj) g' br S' u):Y1 F g' ls S' u/\dW F.env.locals s.heap u.heap:=by
 have j:(F.enter oL env aj).FP F.env.locals=some oL:=by simp [Fx.enter]
 refine gl λt c=>?_;refine ar (a.kZ _ _ j) λP G=>?_;have M:F.env.locals∉g'.cs.flatMap Y4:=λh=>by have:=(a.apart _ (.tail _ h)).2.2.1;rw [j] at this;exact aG (aS this)
 refine ck (a.bh _ _ j) λq1 q2 q3=>?_;have l:=R.apart F.env.locals (.head _);have I:∀b,(F.enter oL env aj).FP b=Option.none->F.FP b=Option.none:=λb e=>by
  simp only [Fx.enter] at e;split at e
  ·exact aG (aS e)
  ·exact e
 refine c ?_;have H:∀b o,F.FP b=some o->b≠F.env.locals:=λb o e z=>by subst z;rw [l.2.2.1] at e;exact aG e
 refine ⟨?_,λo e=>by rw [E] at e;(replace e:=aw e;subst e);exact ⟨P,G⟩⟩;refine ⟨a.gw,a.base,a.dI,λb o e=>a.kZ b o (by show (if b=F.env.locals then some oL else F.FP b)=some o;rw [bj (H b o e),e]),a.cm,a.len,a.cells,?_,λb k=>?_,?_,a.gens,a.os,λb o e=>a.bh b o (by show (if b=F.env.locals then some oL else F.FP b)=some o;rw [bj (H b o e),e]),?_,a.fN,a.cw,a.hJ⟩
 ·rw [nodup_cons];exact ⟨M,(Nj a.nodup)⟩
 ·refine aQ (nV k) (λf=>?_) (λh=>?_)
  ·subst f;exact ⟨l.1,l.2.1,l.2.2.1,q3⟩
  ·refine gl λt c=>?_;refine eu (a.apart b (.tail _ h)) λp1 p2 p3 p4=>?_;refine c ?_;exact ⟨p1,p2,I b p3,p4⟩
 ·refine gl λt c=>?_;refine ae R.locs λm f q=>?_;refine bg f λo es K e d r=>?_;clear f;refine c ?_;rw [E] at e;(replace e:=aw e;subst e);exact ⟨m,⟨_,es,K,G,d,r⟩,λi n v Q O=>let ⟨x,J,L⟩:=q i n v Q O;⟨x,J,L.mono N⟩⟩
 ·refine ar a.tb λts T=>?_;refine ⟨ts,T.len,T.one,λy A=>?_,T.nd⟩;refine gl λt c=>?_;refine lO (T.obj y A) λp r B D w C=>?_;refine c ?_;refine ⟨p,λk=>?_,B,D,I y w,C⟩;refine aQ (nV k) (λf=>?_) (λh=>?_)
  ·clear c k p A r B D C;subst f;rw [j] at w;exact aG (aS w)
  ·exact r (.tail _ h)
structure AK (F:Fx) (A:Around):Prop where
 frames:A.frames=some F.top
 depth:A.depth<recursionLimit
 units:A.units+100<cLine
 top:∃r,F.top=F.env::r
 frame:F.env.frame=some F.env.locals
 kinds:∀e∈F.top,e.scope.kind≠ .module
 outs:∀e∈F.top,∃L,e.frame=some L/\(L=F.env.locals\/∃o,F.FP L=some o/\∀vs,o.data≠ .fields vs)
 hand:A.handled=F.hand.map Value.ref
structure yg (d:Nat) (F:Fx) (A:Around):Prop where
 frames:A.frames=some F.top
 depth:A.depth+d<recursionLimit
 units:A.units+8 * d+100<cLine
 kinds:∀e∈F.top,e.scope.kind≠ .module
 outs:∀e∈F.top,∃L,e.frame=some L/\(L=F.env.locals\/∃o,F.FP L=some o/\∀vs,o.data≠ .fields vs)
 hand:A.handled=F.hand.map Value.ref
theorem yg.ak(h:yg d F A)(a:∃r,F.top=F.env::r)(b:F.env.frame=some F.env.locals):AK F A:=
 ⟨h.frames,ei (bY _ _) h.depth,ei (gD (bY _ _) _) h.units,a,b,h.kinds,h.outs,h.hand⟩
noncomputable def vP(X:Cx)(d:Nat)(a:Addr)(f:Bool->List V->List C->Y5 V):Prop:=
 ∀(F:Fx) (A:Around),F.toCx=X->yg d F A->∀vs S r S',f F.hand.isSome vs S=some (r,S')->
  ∀ls xs g s (Q:cH) (E:cH),Y1 F g ls S s->cr g vs xs->
   (∀v,r=.ok v->∀g' s' x,g.Le g'->Y1 F g' ls S' s'->dW F.env.locals s.heap s'.heap->RV g' v x->Q x s')->
   (∀k,r=.exc k->∀g' s' b,g.Le g'->Y1 F g' ls S' s'->dW F.env.locals s.heap s'.heap->Zh g' S' k b->E (.ref b.1) s')->
   wpAny (model X.prog X.w) A (PySem.call (.ref a) xs) Q E s
set_option backward.match.sparseCases false
structure la where
 aj:List Str
 nt:Nat
 tup:Option (Nat×Pos)
 Vo:List Pos
 ky:List Nat
 scope:Scope
 fM:Option (Pos×Pos)
variable {I:la}
noncomputable def o0:Pos:=⟨0,0,0,0⟩
mutual
inductive Ex where
 |cst (c:Const) (k:Nat:=0) (p:Pos:=o0)
 |loc (i:Nat) (p:Pos:=o0)
 |fC (i:Nat) (p:Pos:=o0)
 |glob (i:Nat) (p:Pos:=o0)
 |bin (op:Operator) (l r:Ex) (p:Pos:=o0)
 |kA (l r:Ex) (p:Pos:=o0)
 |cmp (op:CmpOp) (l r:Ex) (p:Pos:=o0)
 |chain (l:Ex) (lz:CmpOp) (m:Ex) (n8:CmpOp) (r:Ex) (p:Pos:=o0)
 |lS (op:BoolOp) (a:Ex) (r:eS) (p:Pos:=o0)
 |nt (a:Ex) (p:Pos:=o0)
 |neg (a:Ex) (p:Pos:=o0)
 |ite (t a b:Ex) (p:Pos:=o0)
 |tup (es:eS) (k:Nat:=0) (p:Pos:=o0)
 |lst (es:eS) (p:Pos:=o0)
 |bw (es:eS) (p:Pos:=o0)
 |qO (ks:List (Str×Nat×Pos)) (es:eS) (p:Pos:=o0)
 |call (i:Nat) (ip:Pos) (es:eS) (p:Pos:=o0)
 |ja (i:Nat) (ip:Pos) (es:eS) (p:Pos:=o0)
 |ez (e:Ex) (n:Str) (ap:Pos) (es:eS) (p:Pos:=o0)
 |eB (e:Ex) (m:jl) (ap:Pos) (es:eS) (p:Pos:=o0)
 |idx (e i:Ex) (p:Pos:=o0)
 |vQ (e lo hi st:Ex) (f:Bool×Bool×Bool) (sp p:Pos:=o0)
 |attr (e:Ex) (n:Str) (p:Pos:=o0)
 |bi (b:Bi) (ip:Pos) (e:Ex) (p:Pos:=o0)
 |JC (ip:Pos) (e:Ex) (tp p:Pos:=o0)
 |comp (elt:Ex) (src:Ex) (cs:eS) (I:la) (p:Pos:=o0)
 |keys (k:Bool) (elt:Ex) (src:Ex) (I:la) (p:Pos:=o0)
inductive eS where
 |nil
 |cons (e:Ex) (r:eS)
end
variable {r es:eS}{e wB elt src e1:Ex}
protected noncomputable def la.name (I:la) (i:Nat):PySem.Expr:=.Name (I.aj.getD i Str.empty) (I.Vo.getD i ⟨0,0,0,0⟩)
noncomputable def la.key(I:la):PySem.Expr:=.Name (I.aj.getD 0 Str.empty) (I.Vo.getD 1 ⟨0,0,0,0⟩)
noncomputable def la.Mp(I:la):PySem.Expr:=match I.tup with
 |none=>I.name 0
 |some (k,q)=>.Tuple ((range I.nt).map I.name) k q
protected noncomputable def la.src (I:la) (e:PySem.Expr):PySem.Expr:=match I.fM with
 |none=>e
 |some (ip,p)=>.Call (.Name "range" ip) [e] [] p
noncomputable def lA(b:Bool)(e:PySem.Expr):Option PySem.Expr:=match b with
 |true=>some e
 |false=>none
mutual
noncomputable def Y3(aj:List Str)(gt:eY):Ex->PySem.Expr
 |.cst c k p=>.Constant c k p
 |.loc i p=>.Name (aj.getD i Str.empty) p
 |.fC i p=>.Name (aj.getD i Str.empty) p
 |.glob i p=>.Name (gt.getD i (Str.empty,0)).1 p
 |.bin op l r p=>.BinOp (Y3 aj gt l) op (Y3 aj gt r) p
 |.kA l r p=>.BinOp (Y3 aj gt l) .Add (Y3 aj gt r) p
 |.cmp op l r p=>.Compare (Y3 aj gt l) [op] [Y3 aj gt r] p
 |.chain l lz m n8 r p=>.Compare (Y3 aj gt l) [lz,n8] [Y3 aj gt m,Y3 aj gt r] p
 |.lS op a r p=>.BoolOp op (Y3 aj gt a::cg aj gt r) p
 |.nt a p=>.UnaryOp .Not (Y3 aj gt a) p
 |.neg a p=>.UnaryOp .USub (Y3 aj gt a) p
 |.ite t a b p=>.IfExp (Y3 aj gt t) (Y3 aj gt a) (Y3 aj gt b) p
 |.tup es k p=>.Tuple (cg aj gt es) k p
 |.lst es p=>.List (cg aj gt es) p
 |.bw es p=>.List (cg aj gt es) p
 |.qO ks es p=>.Dict (ks.map λk=>some (.Constant (.str k.1) k.2.1 k.2.2)) (cg aj gt es) p
 |.call i ip es p=>.Call (.Name (gt.getD i (Str.empty,0)).1 ip) (cg aj gt es) [] p
 |.ja i ip es p=>.Call (.Name (aj.getD i Str.empty) ip) (cg aj gt es) [] p
 |.ez e n ap es p=>.Call (.Attribute (Y3 aj gt e) n ap) (cg aj gt es) [] p
 |.eB e m ap es p=>.Call (.Attribute (Y3 aj gt e) m.name ap) (cg aj gt es) [] p
 |.idx e i p=>.Subscript (Y3 aj gt e) (Y3 aj gt i) p
 |.vQ e lo hi st f sp p=>.Subscript (Y3 aj gt e) (.Slice (lA f.1 (Y3 aj gt lo)) (lA f.2.1 (Y3 aj gt hi)) (lA f.2.2 (Y3 aj gt st)) sp) p
 |.attr e n p=>.Attribute (Y3 aj gt e) n p
 |.bi b ip e p=>.Call (.Name b.name ip) [Y3 aj gt e] [] p
 |.JC ip e tp p=>.Call (.Name "isinstance" ip) [Y3 aj gt e,.Name "tuple" tp] [] p
 |.comp elt src cs I p=>.ListComp (Y3 I.aj gt elt) [⟨I.Mp,I.src (Y3 aj gt src),cg I.aj gt cs,0⟩] I.scope p
 |.keys k elt src I p=>match k with
  |true=>.DictComp I.key (Y3 I.aj gt elt) [⟨I.name 0,Y3 aj gt src,[],0⟩] I.scope p
  |false=>.ListComp (Y3 I.aj gt elt) [⟨I.name 0,Y3 aj gt src,[],0⟩] I.scope p
noncomputable def cg(aj:List Str)(gt:eY):eS->List PySem.Expr
 |.nil=>[]
 |.cons e r=>Y3 aj gt e::cg aj gt r
end
theorem Ft:cg aj gt eS.nil=[]:=by rfl
theorem Fu:cg aj gt (eS.cons e r)=Y3 aj gt e::cg aj gt r:=by rfl
noncomputable def kC:Const->Option V
 |.none=>some .none
 |.bool b=>some (.bool b)
 |.int i=>some (.int i)
 |.str s=>some (.str s)
 |_=>none
theorem Pn:kC Const.none=some V.none:=by intros;rfl
theorem Po{b:Bool}:kC (Const.bool b)=some (V.bool b):=by rfl
theorem Pp{i:Int}:kC (Const.int i)=some (V.int i):=by rfl
theorem Co{s:Str}:kC (Const.str s)=some (V.str s):=by rfl
noncomputable def Fv(x y:Str):Bool:=decide (x.length+y.length<=16777216)
noncomputable def binI(op:Operator)(a b:Int):Option V:=match op with
 |.Add=>some (.int (a+b))
 |.Sub=>some (.int (a - b))
 |.Mult=>if dJ b then some (.int (a * b)) else none
 |.FloorDiv=>if dJ b&&b !=0 then some (.int (a.fdiv b)) else none
 |.Mod=>if b !=0 then some (.int (a.fmod b)) else none
 |_=>none
noncomputable def yI(op:Operator)(a b:V):Option V:=match a with
 |.int a=>(match b with
  |.int b=>binI op a b
  |_=>none)
 |.str x=>(match b with
  |.str y=>(match op with
   |.Add=>if Fv x y then some (.str (x++y)) else none
   |_=>none)
  |_=>none)
 |_=>none
theorem jp(x y:Str):(x++y).length=x.length+y.length:=Str.length_append ..
section
variable {Q:cH}
theorem m9{a v:α}(h:(if c then some a else none)=some v):c=true/\a=v:=by
 cases c with
 |true=>exact ⟨rfl,aw h⟩
 |false=>exact aG h
theorem yJ{a b:Int}(h:binI op a b=some v)(d:∀z t,RV g v z->Q z {s with toks:=t}):wpAny (model prog w) A (binaryOp op (.int a t) (.int b t')) Q E s:=by
 cases op with
 |Add=>exact add_int (d _ _ (aw h▸ .int _ _))
 |Sub=>exact sub_int (d _ _ (aw h▸ .int _ _))
 |Mult=>
  refine aq (m9 h) λc e=>?_;clear h;subst e;have c:=f9 c;exact mul_int (d _ _ (.int _ _)) (IntMulOk.of_right (aA (intBits_le (k:=30) (by exact ‹_›)) (by decide)))
 |FloorDiv=>
  refine aq (m9 h) λc e=>?_;clear h;subst e;refine aq (nU c) λi f=>?_;exact floordiv_int (bne_iff_ne.mp f) (d _ _ (.int _ _)) (.inl (PyProof.noPylong_small (f9 i)))
 |Mod=>
  refine aq (m9 h) λc e=>?_;clear h;subst e;exact mod_int (bne_iff_ne.mp c) (d _ _ (.int _ _))
 |_=>exact aG h
theorem Cp{a b:V}
 (h:yI op a b=some v) (i:RV g a x) (f:RV g b y) (e:∀z t,RV g v z->Q z {s with toks:=t}):wpAny (model prog w) A (binaryOp op x y) Q E s:=by
 cases a with
 |int a=>cases b with
  |int b=>(refine ar (RV.int_inv i) λd c=>?_;subst c);(refine ar (RV.int_inv f) λd c=>?_;subst c);exact yJ h e
  |_=>exact aG h
 |str a=>cases b with
  |str b=>cases op with
   |Add=>
    (refine ar (RV.str_inv i) λd c=>?_;subst c);(refine ar (RV.str_inv f) λd c=>?_;subst c)
    refine aq (m9 h) λj k=>?_;clear h;subst k
    have j:=f9 j
    exact PyProof.Rows.add_str (λt l=>e _ _ (.str _ _)) (by show _<=2 ^ 24;exact ‹_›)
   |_=>exact aG h
  |_=>exact aG h
 |_=>exact aG h
theorem NE(x:Str)(c:Nat):(!(Builtin.Str.occurrences x ⟨#[c]⟩ 0 x.length 1).isEmpty)=x.cps.toList.any (beq c):=by
 rw [StrLaws.found_one,Bool.eq_iff_iff,ek,List.any_eq_true];constructor
 ·intro h;exact ⟨c,h,beq_refl c⟩
 ·rintro ⟨d,h,e⟩;refine (c5 e)▸?_;exact h
noncomputable def P6(op:CmpOp)(a b:Int):Option Bool:=match op with
 |.Eq=>some (a==b)
 |.NotEq=>some (a !=b)
 |.Lt=>some (decide (a<b))
 |.LtE=>some (decide (a<=b))
 |.Gt=>some (decide (a>b))
 |.GtE=>some (decide (a>=b))
 |_=>none
noncomputable def tg(op:CmpOp)(a b:V):Option Bool:=match a with
 |.int a=>(match b with
  |.int b=>P6 op a b
  |_=>none)
 |.str a=>(match b with
  |.str b=>(match op with
   |.Eq=>some (aD a b)
   |.NotEq=>some (!aD a b)
   |_=>none)
  |_=>none)
 |.none=>(match b with
  |.none=>(match op with
   |.Is=>some true
   |.IsNot=>some false
   |_=>none)
  |_=>none)
 |_=>none
theorem yK{op:CmpOp}{a b:Int}(h:P6 op a b=some c)(d:∀t,Q (.bool c) {s with toks:=t}):wpAny (model prog w) A (compareOp op (.int a t) (.int b t')) Q E s:=by
 cases op with
 |Eq=>exact eq_int (aw h▸d s.toks)
 |NotEq=>exact ne_int (aw h▸d s.toks)
 |Lt=>exact lt_int (aw h▸d s.toks)
 |LtE=>exact le_int (aw h▸d s.toks)
 |Gt=>exact gt_int (aw h▸d s.toks)
 |GtE=>exact ge_int (aw h▸d s.toks)
 |_=>exact aG h
theorem om{op:CmpOp}{a b:V}
 (h:tg op a b=some c) (f:RV g a x) (e:RV g b y) (d:∀t,Q (.bool c) {s with toks:=t}):wpAny (model prog w) A (compareOp op x y) Q E s:=by
 cases a with
 |int a=>cases b with
  |int b=>cases f;cases e;exact yK h d
  |_=>exact aG h
 |str a=>cases b with
  |str b=>cases op with
   |Eq=>cases f;cases e;(replace h:=aw h;subst h);rw [<-gq] at d;exact eq_str (d s.toks)
   |NotEq=>cases f;cases e;(replace h:=aw h;subst h);rw [<-gq] at d;exact ne_str (d s.toks)
   |_=>exact aG h
  |_=>exact aG h
 |none=>cases b with
  |none=>cases op with
   |Is=>cases f;cases e;(replace h:=aw h;subst h);exact is_none (d s.toks)
   |IsNot=>cases f;cases e;(replace h:=aw h;subst h);exact isNot_none (d s.toks)
   |_=>exact aG h
  |_=>exact aG h
 |_=>exact aG h
end
noncomputable def Zt:List V->Option (List Str)
 |[]=>some []
 |.str y::r=>(Zt r).map (y::·)
 |_=>none
noncomputable def P9(a b:V)(S:List C):Option Bool:=match a with
 |.str x=>(match b with
  |.str y=>(match x with
   |⟨⟨[c]⟩⟩=>some (y.cps.toList.any (beq c))
   |_=>none)
  |.tup l=>(Zt l).map λys=>ys.any (aD · x)
  |.ref k=>(match S[k]? with
   |some (.dict ks vs)=>some (fieldOf ks vs x).isSome
   |_=>none)
  |_=>none)
 |_=>none
theorem yL{y:Str}:
 P9 (V.str y) (V.ref k) S=
  match S[k]? with
  |some (C.dict ks vs)=>some (isSome (fieldOf ks vs y))
  |x=>none:=by rfl
noncomputable def mm(op:Operator)(a b:V)(S:List C):Option V:=match yI op a b with
 |some v=>some v
 |none=>match op with
  |.Add=>Cc a b S
  |.Pow=>PY a b
  |_=>none
theorem JD{a b:V}:
 mm Operator.Add a b S=
  match yI Operator.Add a b with
  |some v=>some v
  |none=>Cc a b S:=by rfl
noncomputable def Zb(a:V):Bool:=match a with
 |.none=>true
 |_=>false
noncomputable def rH:List V->Bool
 |[]=>true
 |v::l=>v.int?.isSome&&rH l
noncomputable def Tx(a b:V)(S:List C):Option Bool:=(cC S a).bind λl=>(cC S b).bind λm=>match rH l&&m.isEmpty with
 |true=>some (!l.isEmpty)
 |false=>none
noncomputable def Pq(a b:V)(S:List C):Option Bool:=match Au S 30 a b with
 |some c=>some c
 |none=>match eqT S 30 a b with
  |true=>some true
  |false=>none
noncomputable def eg(op:CmpOp)(a b:V)(S:List C):Option Bool:=match op with
 |.In=>P9 a b S
 |.NotIn=>(match b with
  |.ref _=>(P9 a b S).map (!·)
  |_=>none)
 |.Is=>(match Zb b with
  |true=>some (Zb a)
  |false=>none)
 |.IsNot=>(match Zb b with
  |true=>some (!Zb a)
  |false=>none)
 |.Eq=>(match tg .Eq a b with
  |some c=>some c
  |none=>Pq a b S)
 |.NotEq=>(match tg .NotEq a b with
  |some c=>some c
  |none=>Tx a b S)
 |op=>tg op a b
theorem uP{a:V}:eg CmpOp.NotIn a (V.ref k) S=Option.map (λx=> !x) (P9 a (V.ref k) S):=by rfl
theorem JE{a b:V}:
 eg CmpOp.Is a b S=
  match Zb b with
  |true=>some (Zb a)
  |false=>none:=by rfl
theorem JF{a b:V}:
 eg CmpOp.IsNot a b S=
  match Zb b with
  |true=>some !Zb a
  |false=>none:=by rfl
theorem JG{a b:V}:
 eg CmpOp.Eq a b S=
  match tg CmpOp.Eq a b with
  |some c=>some c
  |none=>Pq a b S:=by rfl
theorem JH{a b:V}:
 eg CmpOp.NotEq a b S=
  match tg CmpOp.NotEq a b with
  |some c=>some c
  |none=>Tx a b S:=by rfl
noncomputable def bN:V->Option Bool
 |.bool b=>some b
 |_=>none
theorem fD(b:Bool):bN (.bool b)=some b:=rfl
noncomputable def Vp{α:Type}:Y5 α:=none
noncomputable def gk(o:Option V)(S:List C):Y5 V:=o.map λv=>(.ok v,S)
noncomputable def qt(o:Option Bool)(S:List C):Y5 V:=o.map λb=>(.ok (.bool b),S)
noncomputable def yM(a b:V)(S:List C):Y5 V:=(cC S a).bind λl=>(cC S b).bind λm=>match ble (l.length+m.length) 65536 with
 |true=>some (.ok (.ref S.length),S++[.list (l++m)])
 |false=>none
noncomputable def ou(o:Option V)(S:List C):Y5 V:=match o with
 |some (.ref k)=>(match S[k]? with
  |some (.var (some v))=>some (.ok v,S)
  |_=>none)
 |_=>none
theorem na:
 ou (some (V.ref k)) S=
  match S[k]? with
  |some (C.var (some v))=>some (Rs.ok v,S)
  |x=>none:=by rfl
noncomputable def Et{α:Type}(l:List α)(i:Int):Option α:=match i with
 |.ofNat n=>l[n]?
 |.negSucc n=>match Nat.blt n l.length with
  |true=>l[l.length - (n+1)]?
  |false=>none
noncomputable def lB(a i:V)(S:List C):Option V:=match i with
 |.int i=>(match dJ i with
  |true=>(match a with
   |.str x=>(Et x.cps.toList i).map λc=>.str ⟨#[c]⟩
   |a=>(match gu S a with
    |some l=>Et l i
    |none=>none))
  |false=>none)
 |.str x=>(match a with
  |.ref k=>(match S[k]? with
   |some (.dict ks vs)=>fieldOf ks vs x
   |_=>none)
  |_=>none)
 |_=>none
theorem JI{a:Int}{y:Str}:
 lB (V.str y) (V.int a) S=
  match dJ a with
  |true=>Option.map (λc=>V.str {cps:= #[c]}) (Et (Array.toList (Str.cps y)) a)
  |false=>none:=by rfl
theorem AI{x:Str}:
 lB (V.ref k) (V.str x) S=
  match S[k]? with
  |some (C.dict ks vs)=>fieldOf ks vs x
  |x=>none:=by rfl
noncomputable def eU(C:Addr)(n:Str):Bool:=
 (beq C 84&&bJ.any (aD n))||
 ((beq C 456&&(["kind","value","traces","is_busy","is_element","writes"]:List Str).any (aD n))||
  (beq C 697&&(["tools","inline","limit","fuel","depth","spent","epoch","frame","coroutine","vars","commands","firsts"]:List Str).any (aD n)))
noncomputable def fE(a:V)(n:Str)(S:List C):Option V:=match a with
 |.ref k=>(match S[k]? with
  |some c=>(match mi c with
   |some (C,ks,vs)=>(match eU C n with
    |true=>fieldOf ks vs n
    |false=>none)
   |none=>none)
  |none=>none)
 |_=>none
theorem rI{n:Str}:
 fE (V.ref k) n S=
  match S[k]? with
  |some c=>
   match mi c with
   |some (C,ks,vs)=>
    match eU C n with
    |true=>fieldOf ks vs n
    |false=>none
   |none=>none
  |none=>none:=by rfl
noncomputable abbrev lU:=Addr->List V->List C->Y5 V
variable {fn:Bool->lU}
structure CF where
 fn:Bool->lU
 hd:Bool
 N:Nat
 mt:Bool->Addr->Str->Option Addr
variable {cf:CF}
noncomputable def Qa(l:List V):Option bW:=match l with
 |[a,b]=>some [some a,some b]
 |_=>none
noncomputable def rJ(I:la)(v:V):Option bW:=match I.tup with
 |none=>some [some v]
 |some _=>v.gh.bind Qa
noncomputable def gF(I:la)(ls:bW):Option bW:=match I.ky.all λj=>(ls[j]?.bind id).isSome with
 |true=>some (I.ky.map λj=>ls[j]?.bind id)
 |false=>none
noncomputable def C.nb:C->Option It
 |.iter i=>some i
 |_=>none
theorem C.nf(i:It):(C.iter i).nb=some i:=rfl
noncomputable def C.cls? :C->Option (Addr×List Str×List V)
 |.inst c ks vs=>some (c,ks,vs)
 |_=>none
theorem Cq{c:Addr}:C.cls? (C.inst c ks vs)=some (c,ks,vs):=by rfl
noncomputable def JJ(v:V)(S:List C):Option It:=match v.fg with
 |some x=>some (.str x 0)
 |none=>(gu S v).map λ_=>.seq v 0
noncomputable def iJ{α β:Type}(x:Y5 α)(f:α->List C->Y5 β):Y5 β:=match x with
 |some (.ok v,S)=>f v S
 |_=>none
theorem tQ{f:α->List C->Y5 β}{v:α}:iJ (some (Rs.ok v,S)) f=f v S:=by rfl
noncomputable def fj(I:la)(bt:bW)(f:bW->List C->Y5 (Option V))(k:Nat):Nat->List C->Y5 V
 |0,_=>none
 |n+1,S=>(S[k]?.bind C.nb).bind λit=>(kc it S).bind λr=>match r with
  |none=>some (.ok (.ref (k+1)),S.set k .dead)
  |some q=>(rJ I q.1).bind λvs=>iJ (f (vs++bt) (S.set k (.iter q.2))) λo S=>match o with
   |none=>fj I bt f k n S
   |some w=>(S[k+1]?.bind C.gr).bind λl=>match ble l.length 65536 with
    |true=>fj I bt f k n (S.set (k+1) (.list (l++[w])))
    |false=>none
theorem wC{f:bW->List C->Y5 (Option V)}{x:List C}:
 fj I bt f k (Nat.succ n) x=
  Option.bind (Option.bind x[k]? C.nb) λit=>
   Option.bind (kc it x) λr=>
    match r with
    |none=>some (Rs.ok (V.ref (k+1)),List.set x k C.dead)
    |some q=>
     Option.bind (rJ I (Prod.fst q)) λvs=>
      iJ (f (vs++bt) (List.set x k (C.iter (Prod.snd q)))) λo S=>
       match o with
       |none=>fj I bt f k n S
       |some w=>
        Option.bind (Option.bind S[k+1]? C.gr) λl=>
         match ble (List.length l) 65536 with
         |true=>fj I bt f k n (List.set S (k+1) (C.list (l++[w])))
         |false=>none:=by rfl
noncomputable def qu(I:la)(v:V)(S:List C):Option It:=match I.fM with
 |none=>JJ v S
 |some _=>v.int?.bind λn=>match decide (0<=n/\n<1000000) with
  |true=>some (.fM 0 n)
  |false=>none
noncomputable def p8(ks:List (Str×Nat×Pos))(vs:List V)(S:List C):Y5 V:=match (beq ks.length vs.length&&ble ks.length 15)&&oh (ks.map (·.1)) with
 |true=>some (.ok (.ref S.length),S++[.dict (ks.map (·.1)) vs])
 |false=>none
noncomputable def gv(f:V->Option V):List Str->Option (List V)
 |[]=>some []
 |k::ks=>(f (.str k)).bind λv=>(gv f ks).map (v::·)
theorem Fw{f:V->Option V}{k:Str}:gv f (k::ks)=Option.bind (f (V.str k)) λv=>Option.map (λx=>v::x) (gv f ks):=by rfl
noncomputable def V.AJ:V->Option Addr
 |.glob a=>some a
 |_=>Option.none
noncomputable def ng(mt:Bool->Addr->Str->Option Addr)(o:V)(n:Str)(S:List C):Option (Addr×List V):=match o.AJ with
 |some c=>(mt true c n).map λa=>(a,[])
 |none=>(o.eJ.bind λk=>S[k]?.bind C.cls?).bind λp=>match fieldOf p.2.1 p.2.2 n with
  |some _=>none
  |none=>(mt false p.1 n).map λa=>(a,[o])
theorem rK{o:V}{n:Str}:
 ng mt o n S=
  match V.AJ o with
  |some c=>Option.map (λa=>(a,[])) (mt true c n)
  |none=>
   Option.bind (Option.bind (V.eJ o) λk=>Option.bind S[k]? C.cls?) λp=>
    match fieldOf (Prod.fst (Prod.snd p)) (Prod.snd (Prod.snd p)) n with
    |some b=>none
    |none=>Option.map (λa=>(a,[o])) (mt false (Prod.fst p) n):=by rfl
noncomputable def rL(m:jl)(o:V)(S:List C):Bool:=match m.onStr with
 |true=>o.fg.isSome
 |false=>(gc o S).isSome
noncomputable def NF(x:Y5 V):Option V:=match x with
 |some (.ok v,_)=>some v
 |_=>none
noncomputable def s0(ls:bW)(S:List C):Ex->Option V
 |.loc i _=>ls[i]?.bind id
 |.fC i _=>NF (ou (ls[i]?.bind id) S)
 |.idx a b _=>(s0 ls S a).bind λx=>(s0 ls S b).bind λy=>y.fg.bind λt=>x.eJ.bind λk=>(S[k]?.bind C.gM).bind λp=>fieldOf p.1 p.2 t
 |.attr a n _=>(s0 ls S a).bind λx=>fE x n S
 |.tup (.cons a (.cons b .nil)) _ _=>(s0 ls S a).bind λx=>(s0 ls S b).map λy=>.tup [x,y]
 |_=>none
theorem wD{a:Ex}{n:Str}:s0 ls S (.attr a n p)=(s0 ls S a).bind λx=>fE x n S:=rfl
theorem JK{a b:Ex}:s0 ls S (.idx a b p)=(s0 ls S a).bind λx=>(s0 ls S b).bind λy=>y.fg.bind λt=>x.eJ.bind λk=>(S[k]?.bind C.gM).bind λp=>fieldOf p.1 p.2 t:=rfl
theorem JL:s0 ls S (.fC i p)=NF (ou (ls[i]?.bind id) S):=rfl
mutual
noncomputable def ev(cf:CF)(ls:bW)(gt:eY):Ex->List C->Y5 V
 |.cst c _ _,S=>gk (kC c) S
 |.loc i _,S=>gk (ls[i]?.bind id) S
 |.fC i _,S=>ou (ls[i]?.bind id) S
 |.glob i _,S=>gk (gt[i]?.map λx=>.glob x.2) S
 |.bin op l r _,S=>cu (ev cf ls gt l S) λa S=>cu (ev cf ls gt r S) λb S=>gk (mm op a b S) S
 |.kA l r _,S=>cu (ev cf ls gt l S) λa S=>cu (ev cf ls gt r S) λb S=>yM a b S
 |.cmp op l r _,S=>cu (ev cf ls gt l S) λa S=>cu (ev cf ls gt r S) λb S=>qt (eg op a b S) S
 |.chain l lz m n8 r _,S=>cu (ev cf ls gt l S) λa S=>cu (ev cf ls gt m S) λb S=>match eg lz a b S with
    |Option.none=>Option.none
    |some c=>match c with
     |false=>some (.ok (.bool false),S)
     |true=>cu (ev cf ls gt r S) λd S=>qt (eg n8 b d S) S
 |.lS op a r _,S=>cu (ev cf ls gt a S) λx S=>match bN x with
    |Option.none=>Option.none
    |some c=>mB cf ls gt op c r S
 |.nt a _,S=>cu (ev cf ls gt a S) λx S=>match bN x with
    |Option.none=>Option.none
    |some q=>some (.ok (.bool (!q)),S)
 |.neg a _,S=>cu (ev cf ls gt a S) λx S=>match x with
    |.int i=>some (.ok (.int (-i)),S)
    |_=>Option.none
 |.ite t a b _,S=>cu (ev cf ls gt t S) λx S=>match bN x with
    |Option.none=>Option.none
    |some q=>match q with
     |true=>ev cf ls gt a S
     |false=>ev cf ls gt b S
 |.tup es _ _,S=>cu (hM cf ls gt es S) λvs S=>match i6 vs with
    |true=>some (.ok (.tup vs),S)
    |false=>Option.none
 |.lst es _,S=>cu (hM cf ls gt es S) λvs S=>match i6 vs with
    |true=>some (.ok (.lst vs),S)
    |false=>Option.none
 |.bw es _,S=>cu (hM cf ls gt es S) λvs S=>match i6 vs with
    |true=>some (.ok (.ref S.length),S++[.list vs])
    |false=>Option.none
 |.qO ks es _,S=>cu (hM cf ls gt es S) λvs S=>p8 ks vs S
 |.call i _ es _,S=>cu (hM cf ls gt es S) λvs S=>match gt[i]? with
    |Option.none=>Option.none
    |some x=>cf.fn cf.hd x.2 vs S
 |.ja i _ es _,S=>match ls[i]?.bind id with
    |some (.glob a)=>iJ (hM cf ls gt es S) λvs S=>cf.fn cf.hd a vs S
    |_=>Option.none
 |.ez e n _ es _,S=>cu (ev cf ls gt e S) λo S=>match ng cf.mt o n S with
    |Option.none=>Option.none
    |some q=>cu (hM cf ls gt es S) λvs S=>cf.fn cf.hd q.1 (q.2++vs) S
 |.eB e m _ es _,S=>cu (ev cf ls gt e S) λo S=>match rL m o S with
    |false=>Option.none
    |true=>cu (hM cf ls gt es S) λvs S=>match i9 m o vs S with
     |Option.none=>Option.none
     |some q=>some (.ok q.1,q.2)
 |.idx e i _,S=>cu (ev cf ls gt e S) λa S=>cu (ev cf ls gt i S) λb S=>gk (lB a b S) S
 |.vQ e lo hi st _ _ _,S=>cu (ev cf ls gt e S) λa S=>cu (ev cf ls gt lo S) λx S=>cu (ev cf ls gt hi S) λy S=>cu (ev cf ls gt st S) λz S=>gk (kg a x y z S) S
 |.attr e n _,S=>cu (ev cf ls gt e S) λa S=>gk (fE a n S) S
 |.bi b _ e _,S=>cu (ev cf ls gt e S) λa S=>(uO cf.hd b a S).map λq=>(.ok q.1,q.2)
 |.JC _ e _ _,S=>cu (ev cf ls gt e S) λa S=>gk (uM a) S
 |.comp elt src cs I _,S=>(gF I ls).bind λbt=>cu (ev cf ls gt src S) λv S=>match qu I v S with
    |Option.none=>Option.none
    |some it=>fj I bt (λbr S=>p9 cf br gt (λS=>ev cf br gt elt S) cs S) S.length cf.N (S++[.iter it,.list []])
 |.keys k elt src I _,S=>(gF I ls).bind λbt=>cu (ev cf ls gt src S) λv S=>match v.eJ.bind λj=>S[j]?.bind C.gM with
    |Option.none=>Option.none
    |some p=>match gv (λx=>s0 ([some x]++bt) S elt) p.1 with
     |Option.none=>Option.none
     |some l=>match ble l.length 4000 with
      |true=>some (.ok (.ref (S.length+1)),S++[.dead,match k with|true=>.dict p.1 l|false=>.list l])
      |false=>Option.none
noncomputable def hM(cf:CF)(ls:bW)(gt:eY):eS->List C->Y5 (List V)
 |.nil,S=>some (.ok [],S)
 |.cons e r,S=>cu (ev cf ls gt e S) λv S=>cu (hM cf ls gt r S) λvs S=>some (.ok (v::vs),S)
noncomputable def mB(cf:CF)(ls:bW)(gt:eY)(op:BoolOp):Bool->eS->List C->Y5 V
 |c,.nil,S=>some (.ok (.bool c),S)
 |c,.cons e r,S=>match op with
  |.And=>match c with
   |false=>some (.ok (.bool false),S)
   |true=>cu (ev cf ls gt e S) λx S=>match bN x with
    |Option.none=>Option.none
    |some d=>mB cf ls gt .And d r S
  |.Or=>match c with
   |true=>some (.ok (.bool true),S)
   |false=>cu (ev cf ls gt e S) λx S=>match bN x with
    |Option.none=>Option.none
    |some d=>mB cf ls gt .Or d r S
noncomputable def p9(cf:CF)(ls:bW)(gt:eY)(f:List C->Y5 V):eS->List C->Y5 (Option V)
 |.nil,S=>cu (f S) λv S=>some (.ok (some v),S)
 |.cons e r,S=>cu (ev cf ls gt e S) λx S=>match bN x with
  |Option.none=>Option.none
  |some c=>match c with
   |true=>p9 cf ls gt f r S
   |false=>some (.ok Option.none,S)
end
theorem NG{f:List C->Y5 V}{x:List C}:p9 cf ls gt f eS.nil x=cu (f x) λv S=>some (Rs.ok (some v),S):=by rfl
theorem yN{f:List C->Y5 V}{x:List C}:
 p9 cf ls gt f (eS.cons e r) x=
  cu (ev cf ls gt e x) λx S=>
   match bN x with
   |none=>none
   |some c=>
    match c with
    |true=>p9 cf ls gt f r S
    |false=>some (Rs.ok none,S):=by rfl
theorem NH{x:List C}:hM cf ls gt eS.nil x=some (Rs.ok [],x):=by rfl
theorem rM{x:List C}:hM cf ls gt (eS.cons e r) x=cu (ev cf ls gt e x) λv S=>cu (hM cf ls gt r S) λvs S=>some (Rs.ok (v::vs),S):=by rfl
theorem Fy{x:List C}:
 mB cf ls gt BoolOp.And true (eS.cons e r) x=
  cu (ev cf ls gt e x) λx S=>
   match bN x with
   |none=>none
   |some d=>mB cf ls gt BoolOp.And d r S:=by rfl
theorem FA{x:List C}:
 mB cf ls gt BoolOp.Or false (eS.cons e r) x=
  cu (ev cf ls gt e x) λx S=>
   match bN x with
   |none=>none
   |some d=>mB cf ls gt BoolOp.Or d r S:=by rfl
theorem FC{c p1 p2}:ev cf ls gt (.cst c p1 p2) S=gk (kC c) S:=rfl
theorem NI{i p1}:ev cf ls gt (.loc i p1) S=gk (ls[i]?.bind id) S:=rfl
theorem AL{i p1 es p2}:ev cf ls gt (.call i p1 es p2) S=cu (hM cf ls gt es S) λvs S=>match gt[i]? with
 |none=>none
 |some x=>cf.fn cf.hd x.2 vs S:=rfl
theorem wE{i p1 es p2}:ev cf ls gt (.ja i p1 es p2) S=match ls[i]?.bind id with
 |some (.glob a)=>iJ (hM cf ls gt es S) λvs S=>cf.fn cf.hd a vs S
 |_=>none:=rfl
theorem wF{e n p1 es p2}:ev cf ls gt (.ez e n p1 es p2) S=cu (ev cf ls gt e S) λo S=>match ng cf.mt o n S with
 |none=>none
 |some q=>cu (hM cf ls gt es S) λvs S=>cf.fn cf.hd q.1 (q.2++vs) S:=rfl
theorem AM{e n p1}:ev cf ls gt (.attr e n p1) S=cu (ev cf ls gt e S) λa S=>gk (fE a n S) S:=rfl
theorem FD{e i p1}:ev cf ls gt (.idx e i p1) S=cu (ev cf ls gt e S) λa S=>cu (ev cf ls gt i S) λb S=>gk (lB a b S) S:=rfl
theorem FE{op l r p1}:ev cf ls gt (.cmp op l r p1) S=cu (ev cf ls gt l S) λa S=>cu (ev cf ls gt r S) λb S=>qt (eg op a b S) S:=rfl
theorem FF{op l r p1}:ev cf ls gt (.bin op l r p1) S=cu (ev cf ls gt l S) λa S=>cu (ev cf ls gt r S) λb S=>gk (mm op a b S) S:=rfl
theorem yO{es p1 p2}:ev cf ls gt (.tup es p1 p2) S=cu (hM cf ls gt es S) λvs S=>match i6 vs with
 |true=>some (.ok (.tup vs),S)
 |false=>none:=rfl
theorem AN{es p1}:ev cf ls gt (.bw es p1) S=cu (hM cf ls gt es S) λvs S=>match i6 vs with
 |true=>some (.ok (.ref S.length),S++[.list vs])
 |false=>none:=rfl
theorem AO{e m p1 es p2}:ev cf ls gt (.eB e m p1 es p2) S=cu (ev cf ls gt e S) λo S=>match rL m o S with
 |false=>none
 |true=>cu (hM cf ls gt es S) λvs S=>match i9 m o vs S with
  |none=>none
  |some q=>some (.ok q.1,q.2):=rfl
theorem Mq{b p1 e p2}:ev cf ls gt (.bi b p1 e p2) S=cu (ev cf ls gt e S) λa S=>(uO cf.hd b a S).map λq=>(.ok q.1,q.2):=rfl
theorem yP{op a r p1}:ev cf ls gt (.lS op a r p1) S=cu (ev cf ls gt a S) λx S=>match bN x with
 |none=>none
 |some c=>mB cf ls gt op c r S:=rfl
theorem yQ{t a b p1}:ev cf ls gt (.ite t a b p1) S=cu (ev cf ls gt t S) λx S=>match bN x with
 |none=>none
 |some q=>match q with
  |true=>ev cf ls gt a S
  |false=>ev cf ls gt b S:=rfl
theorem AP{elt src cs I p1}:ev cf ls gt (.comp elt src cs I p1) S=(gF I ls).bind λbt=>cu (ev cf ls gt src S) λv S=>match qu I v S with
 |none=>none
 |some it=>fj I bt (λbr S=>p9 cf br gt (λS=>ev cf br gt elt S) cs S) S.length cf.N (S++[.iter it,.list []]):=rfl
theorem rN{ks es p1}:ev cf ls gt (.qO ks es p1) S=cu (hM cf ls gt es S) λvs S=>p8 ks vs S:=rfl
theorem JM{i p1}:ev cf ls gt (.glob i p1) S=gk (gt[i]?.map λx=>.glob x.2) S:=rfl
theorem AQ{l r p1}:ev cf ls gt (.kA l r p1) S=cu (ev cf ls gt l S) λa S=>cu (ev cf ls gt r S) λb S=>yM a b S:=rfl
theorem Mr{a p1}:ev cf ls gt (.nt a p1) S=cu (ev cf ls gt a S) λx S=>match bN x with
 |none=>none
 |some q=>some (.ok (.bool (!q)),S):=rfl
theorem FG{e lo hi st p1 p2 p3}:ev cf ls gt (.vQ e lo hi st p1 p2 p3) S=cu (ev cf ls gt e S) λa S=>cu (ev cf ls gt lo S) λx S=>cu (ev cf ls gt hi S) λy S=>cu (ev cf ls gt st S) λz S=>gk (kg a x y z S) S:=rfl
theorem AR{k elt src I p1}:ev cf ls gt (.keys k elt src I p1) S=(gF I ls).bind λbt=>cu (ev cf ls gt src S) λv S=>match v.eJ.bind λj=>S[j]?.bind C.gM with
 |none=>none
 |some p=>match gv (λx=>s0 ([some x]++bt) S elt) p.1 with
  |none=>none
  |some l=>match ble l.length 4000 with
   |true=>some (.ok (.ref (S.length+1)),S++[.dead,match k with|true=>.dict p.1 l|false=>.list l])
   |false=>none:=rfl
set_option backward.match.sparseCases true
noncomputable def c7(sc:Scope)(aj:List Str)(i:Nat):Bool:=decide (i<aj.length)&&decide (sc.names.lookup (aj.getD i Str.empty)=some .local)
noncomputable def AS(sc:Scope)(aj:List Str)(i:Nat):Bool:=decide (i<aj.length)&&(decide (sc.names.lookup (aj.getD i Str.empty)=some .cell)||(decide (sc.names.lookup (aj.getD i Str.empty)=some .free)&& !(aj.getD i Str.empty==("__classdict__":Str))))
noncomputable def kD(sc:Scope)(gt:eY)(i:Nat):Bool:=decide (i<gt.length)&&decide (sc.names.lookup (gt.getD i (Str.empty,0)).1=some .globalImplicit)
noncomputable def iz(sc:Scope)(n:Str):Bool:=decide (sc.names.lookup n=some .globalImplicit)
noncomputable def rO(e:Ex):Bool:=match e with
 |.call _ _ _ _=>false
 |.ja _ _ _ _=>false
 |.ez _ _ _ _ _=>false
 |.eB _ _ _ _ _=>false
 |.bi _ _ _ _=>false
 |.JC _ _ _ _=>false
 |_=>true
noncomputable def nh:eS->Nat
 |.nil=>0
 |.cons _ r=>nh r+1
noncomputable def ow(e:Ex)(ap p:Pos)(es:eS):Bool:=rO e&&(ap.endLine==p.line&&Nat.blt (nh es) 20)
noncomputable def kE(f:Bool)(e:Ex):Bool:=f||(match e with
 |.cst c _ _=>(match c with
  |.none=>true
  |_=>false)
 |_=>false)
noncomputable def mn(sc:Scope)(I:la):Scope:={I.scope with names:=I.scope.names.map λ(n,k)=>if (k== .free&&sc.kind== .function&&sc.names.lookup n==some .cell) then (n,.cell) else (n,k)}
noncomputable def la.Eu(I:la):Nat:=match I.tup with
 |none=>1
 |some _=>2
noncomputable def I7(sc:Scope)(aj:List Str)(I:la):Bool:=(match I.fM with
 |none=>true
 |some _=>iz sc "range")&&
 (((beq I.nt I.Eu&&beq I.aj.length (I.nt+I.ky.length))&&(oh I.aj&&I.aj.all λn=> !(n==("__debug__":Str))))&&
 (((I.scope.kind== .function&& !I.scope.isGenerator)&&I.scope.names.all λx=>(x.2 != .cell&&(x.2 != .local||I.scope.names.lookup x.1==some .local))&&(x.2 != .free||(I.aj.drop I.nt).contains x.1))&&
 ((I.aj.take I.nt).all (λn=>I.scope.names.lookup n==some .local)&&((range I.ky.length).all λi=>match I.ky[i]? with
   |some j=>Nat.blt j aj.length&&((aj.getD j Str.empty==I.aj.getD (I.nt+i) Str.empty&&sc.kind== .function)&&(sc.names.lookup (aj.getD j Str.empty)==some .cell&&I.scope.names.lookup (aj.getD j Str.empty)==some .free))
   |none=>false))))
mutual
noncomputable def gN(sc:Scope)(aj:List Str)(gt:eY):Ex->Bool
 |.cst _ _ _=>true
 |.loc i _=>c7 sc aj i
 |.fC i _=>AS sc aj i
 |.glob i _=>kD sc gt i
 |.bin _ l r _=>gN sc aj gt l&&gN sc aj gt r
 |.kA l r _=>gN sc aj gt l&&gN sc aj gt r
 |.cmp _ l r _=>gN sc aj gt l&&gN sc aj gt r
 |.chain l _ m _ r _=>gN sc aj gt l&&(gN sc aj gt m&&gN sc aj gt r)
 |.lS _ a r _=>gN sc aj gt a&&qv sc aj gt r
 |.nt a _=>gN sc aj gt a
 |.neg a _=>gN sc aj gt a
 |.ite t a b _=>gN sc aj gt t&&(gN sc aj gt a&&gN sc aj gt b)
 |.tup es _ _=>qv sc aj gt es
 |.lst es _=>qv sc aj gt es
 |.bw es _=>qv sc aj gt es
 |.qO ks es _=>(beq ks.length (nh es)&&ble ks.length 15)&&qv sc aj gt es
 |.call i _ es _=>kD sc gt i&&qv sc aj gt es
 |.ja i _ es _=>c7 sc aj i&&qv sc aj gt es
 |.ez e _ ap es p=>ow e ap p es&&(gN sc aj gt e&&qv sc aj gt es)
 |.eB e _ ap es p=>ow e ap p es&&(gN sc aj gt e&&qv sc aj gt es)
 |.idx e i _=>gN sc aj gt e&&gN sc aj gt i
 |.vQ e lo hi st f _ _=>gN sc aj gt e&&((gN sc aj gt lo&&(gN sc aj gt hi&&gN sc aj gt st))&&(kE f.1 lo&&(kE f.2.1 hi&&kE f.2.2 st)))
 |.attr e _ _=>rO e&&gN sc aj gt e
 |.bi b _ e _=>iz sc b.name&&gN sc aj gt e
 |.JC _ e _ _=>(iz sc "isinstance"&&iz sc "tuple")&&gN sc aj gt e
 |.comp elt src cs I _=>I7 sc aj I&&(gN sc aj gt src&&(gN (mn sc I) I.aj gt elt&&qv (mn sc I) I.aj gt cs))
 |.keys _ elt src I _=>(I7 sc aj I&&I.tup.isNone)&&(gN sc aj gt src&&gN (mn sc I) I.aj gt elt)
noncomputable def qv(sc:Scope)(aj:List Str)(gt:eY):eS->Bool
 |.nil=>true
 |.cons e r=>gN sc aj gt e&&qv sc aj gt r
end
structure iA (X:Cx):Prop where
 mg:X.base.Ns mainGlobals X.mg
 mb:X.base.Ns builtinsNs X.mb
 lim:X.base.NoLimit
 tR:X.K.In X.base
 Mt:AA X.base
 bi:∀b:Bi,X.mg b.name=Option.none/\X.mb b.name=some b.val
 FH:X.mg "range"=Option.none/\X.mb "range"=some (.type "range")
 TA:X.mg "isinstance"=Option.none/\X.mb "isinstance"=some (.builtin "isinstance")
 TB:X.mg "tuple"=Option.none/\X.mb "tuple"=some (.type "tuple")
 Qb:X.mg "enumerate"=Option.none/\X.mb "enumerate"=some (.type "enumerate")
 attr:∀C n,eU C n=true->C≠bL->rk X.K C n=true
 JN:∀n,eU bL n=true->iU X.K bL n=true
 tS:rv X.base bJ
 store:∀C n,eU C n=true->C≠bL->mL X.K C n=true
theorem iA.sys{X:Cx}(h:iA X):X.base.get? sysModules≠none:=by refine gl λb a=>?_;refine tH h.Mt λo _ _ _ e _=>?_;refine a ?_;refine e▸?_;exact λh=>aG (aS h)
structure TC (F:Fx) (gt:eY):Prop where
 kind:F.env.scope.kind=.function
 nd:F.aj.Nodup
 loc:∀n∈F.aj,(n==("__debug__":Str))=false
 globals:F.env.globals=mainGlobals
 builtins:F.env.builtins=builtinsNs
 top:iA F.toCx
 tab:∀(i:Nat) (x:Str×Addr),gt[i]? =some x->F.mg x.1=some (.ref x.2)/\(x.1==("__debug__":Str))=false
noncomputable def NJ(K:Frag)(C:Addr)(n:Str)(a:Addr):Prop:=findIn K (.ref C) "__getattribute__"=some (some (.builtin "object.__getattribute__"))/\findIn K (.ref C) "__getattr__"=some none/\
 findIn K (.ref C) n=some (some (.ref a))/\typeIn K (.ref a)=some (.type "function")/\keepIn K (.ref a)=true
noncomputable def clsIn(K:Frag)(c:Addr)(n:Str)(a:Addr):Prop:=specialIn K (.ref c) "__getattribute__"=some (some (.builtin "type.__getattribute__"))/\(∃mc,readsIn K c mc=true/\findCls K (.ref c) mc n=some (.val (.ref a)))/\handedIn (.ref a)=true/\keepIn K (.ref a)=true
noncomputable def rP(b:Bool):Frag->Addr->Str->Addr->Prop:=match b with
 |true=>clsIn
 |false=>NJ
structure bE (d:Nat) (F:Fx) (A:Around) (gt:eY) (cf:CF):Prop where
 ok:TC F gt
 ak:yg d F A
 hd:cf.hd=F.hand.isSome
 run:∀b a vs S r S',cf.fn b a vs S=some (r,S')->keepIn F.K (.ref a)=true/\∃f,vP F.toCx d a f/\f b vs S=some (r,S')
 mt:∀b C n a,cf.mt b C n=some a->rP b F.K C n a
 keep:∀(i:Nat) (x:Str×Addr),gt[i]? =some x->keepIn F.K (.ref x.2)=true
theorem yR:∀{l:List V} {ys:List Str} {xs:List Value},Zt l=some ys->cr g l xs->StrsAre xs ys:=by
 intro l;induction l with
 |nil=>intro ys xs h r;refine Su h ?_;(have c:=cr.nil_inv r;subst c);exact .nil
 |cons v l d=>
  intro ys xs h r;cases v with
  |str y=>
   refine ae (au h) λz f e=>?_;clear h;subst e;refine aP (cr.cons_inv r) λi j c a b=>?_;subst c
   ·(refine ar (RV.str_inv a) λk c=>?_;subst c);exact .cons _ _ (d f b)
  |_=>exact aG h
theorem FI{Q:cH}{a b:V}(R:Y1 F g ls S s)(M:A.units+64<cLine)
 (h:Tx a b S=some c) (H:RV g a x) (G:RV g b y) (J:∀t,Q (.bool c) {s with toks:=t}):wpAny (model F.prog F.w) A (compareOp .NotEq x y) Q E s:=by
 refine gl λL C=>?_
 refine ae (Y6 h) λl D h=>?_
 refine ae (Y6 h) λm B h=>?_
 refine aq (bM h) λI h=>?_
 (replace h:=aw h;subst h)
 refine aq (nU I) λo N=>?_
 clear h I;obtain rfl:=isEmpty_iff.mp N
 refine bg (dB R D H) λp f n k j O=>?_;clear H;subst k
 refine bg (dB R B G) λq X Y k u U=>?_;clear G;subst k
 have e:∀{l:List V} {f:List Value},rH l=true->cr g l f->∃d:List Int,ReadsAll s.heap f (d.map .int) []/\d.isEmpty=l.isEmpty:=by
  intro l;induction l with
  |nil=>intro f _ r;obtain rfl:=r.nil_inv;exact ⟨[],.nil,rfl⟩
  |cons v l K=>
   intro f h r
   refine gl λL C=>?_
   refine aP r.cons_inv λz W T j u=>?_;clear r;subst T
   refine aq (nU h) λD B=>?_
   refine ar (ER D) λi o=>?_
   refine ar (intAt o j) λt P=>?_;clear j;subst P
   refine ae (K B u) λd q _=>?_
   refine C ?_
   exact ⟨i::d,.cons (.int i t) q,rfl⟩
 refine ae (e o j) λd q1 q2=>?_
 refine C ?_
 refine ne_dataH (.list O rfl rfl q1) (.list U rfl rfl (by rw [u.nil_inv];exact .nil)) (shaped_ints d) (shaped_ints []) M ?_
 have:(!PyData.eqv (.list (d.map .int)) (.list []))= !l.isEmpty:=by refine (aS q2)▸?_;clear q1 q2;cases d<;>rfl
 refine this▸?_
 exact J s.toks
theorem tT{a b:V}(c:Zb b=true)(f:RV g a x)(d:RV g b y):y=.none/\Zb a=(x== .none):=by
 have e:b=.none:=by clear d;cases b<;>first|rfl|exact eI c
 clear c;subst e;refine ⟨d.none_inv,?_⟩;cases f<;>rfl
theorem yS{Q:cH}{a b:V}(R:Y1 F g ls S s)
 (h:mm op a b S=some v) (f:RV g a x) (e:RV g b y) (c:Zs F ls g S v Q):wpAny (model F.prog F.w) A (binaryOp op x y) Q E s:=by
 unfold mm at h
 refine gl λj d=>?_
 (revert h;cases _:yI op a b;rotate_left;all_goals (intro h;dsimp only at h))
 ·refine d ?_
  (replace h:=aw h;subst h);rename_i hv;exact Cp hv f e λz t i=>c _ _ _ (.refl g) (R.toks t) i
 ·cases op with
  |Add=>exact d (Cd R h f e c)
  |Pow=>exact d (Ce R h f e c)
  |_=>exact aG h
theorem AT{x:Str}(h:P9 (.str x) (.ref k) S=some c):∃ks vs,S[k]? =some (.dict ks vs)/\(fieldOf ks vs x).isSome=c:=by
 rw [yL] at h;cases e:S[k]? with
 |none=>rw [e] at h;exact aG h
 |some d=>rw [e] at h;clear e;cases d with
  |dict ks vs=>exact ⟨ks,vs,rfl,aw h⟩
  |_=>exact aG h
theorem jq{Q:cH}{op:CmpOp}{a b:V}(R:Y1 F g ls S s)(v:iA F.toCx)(p:A.units+100<cLine)
 (h:eg op a b S=some c) (j:RV g a x) (i:RV g b y) (f:∀t,Q (.bool c) {s with toks:=t}):wpAny (model F.prog F.w) A (compareOp op x y) Q E s:=by
 cases op
 case In=>
  have h:=h
  clear h;cases a with
  |str n=>
   (refine ar (RV.str_inv j) λD m=>?_;subst m)
   cases b with
   |str y=>
    obtain ⟨⟨l⟩⟩:=n
    cases l with
    |nil=>exact aG h
    |cons d r=>cases r with
     |nil=>
      (replace h:=aw h;subst h);(refine ar (RV.str_inv i) λD m=>?_;subst m)
      rw [<-NE] at f;exact PyProof.Rows.in_str (f s.toks)
     |cons _ _=>exact aG h
   |tup l=>
    refine ae (au h) λG L B=>?_;clear h;subst B
    cases i with
    |tup K J=>
    refine in_tuple_strs ⟨_,R.cm _ _ K,rfl,_,rfl⟩ (yR L J) ?_
    refine (show (G.any (· ==n))=G.any (aD · n) from bA _ (funext λz=>gq z n))▸?_
    exact f s.toks
   |ref k=>
    refine bd (AT h) λks vs o e=>?_
    refine ae (RV.dw i) λI m C=>?_;subst m
    ·exact Jr R v.sys C o (e▸f _)
   |_=>exact aG h
  |_=>exact aG h
 case NotIn=>
  cases b with
  |ref k=>
   rw [uP] at h
   refine ae (au h) λc' H B=>?_;clear h;subst B
   cases a with
   |str n=>
    (refine ar (RV.str_inv j) λD m=>?_;subst m)
    refine bd (AT H) λks vs o e=>?_
    refine ae (RV.dw i) λI m C=>?_;subst m
    ·exact yx R v.sys C o (e▸f _)
   |_=>exact aG H
  |_=>exact aG h
 case Is=>
  rw [JE] at h
  refine aq (bM h) λq h=>?_
  (replace h:=aw h;subst h)
  refine aq (tT q j i) λu e=>?_;subst u
  exact is_none_gen (e▸f s.toks)
 case IsNot=>
  rw [JF] at h
  refine aq (bM h) λq h=>?_
  (replace h:=aw h;subst h)
  refine aq (tT q j i) λu e=>?_;subst u
  exact isnot_none_gen (e▸f s.toks)
 case Eq=>
  rw [JG] at h
  (revert h;cases _:tg PySem.CmpOp.Eq a b;rotate_left;all_goals (intro h;dsimp only at h))
  ·(replace h:=aw h;subst h);exact om (by assumption) j i f
  ·unfold Pq at h
   (revert h;cases _:Au S 30 a b;rotate_left;all_goals (intro h;dsimp only at h))
   ·(replace h:=aw h;subst h)
    rename_i hv
    exact (Ju R 30 A a b x y _ (ei (eP (by decide) _) p) j i hv).2 F.prog F.w E Q (f s.toks)
   ·(revert h;cases _:Internal.eqT S 30 a b;rotate_left;all_goals intro h)
    ·(replace h:=aw h;subst h)
     rename_i hv
     exact (Fc R v.Mt 30 A a b x y (ei (eP (by decide) _) p) j i hv).2 E Q (f s.toks)
    ·exact aG h
 case NotEq=>
  rw [JH] at h
  (revert h;cases _:tg PySem.CmpOp.NotEq a b;rotate_left;all_goals intro h)
  ·(replace h:=aw h;subst h);exact om (by assumption) j i f
  ·exact FI R (ei (eP (by decide) _) p) h j i f
 all_goals exact om h j i f
theorem FJ(aj gt)(op:CmpOp)(e:Ex):behindInMarks op (Y3 aj gt e)=false:=by cases e<;>first|rfl|(rename_i k _ _ _ _;cases k<;>rfl)
noncomputable def qw(F:Fx)(A:Around)(ls:bW)(p:Sem Value)(f:List C->Y5 V):Prop:=∀S g s,Y1 F g ls S s->∀Q E,cK RV F ls g Q E (f S)->wpAny (model F.prog F.w) A p Q E s
noncomputable def KT(F:Fx)(ls:bW)(g:G)(Q:Bool->Shared->Prop)(v:V)(S':List C):Prop:=match bN v with
 |none=>False
 |some b=>∀g' s',g.Le g'->Y1 F g' ls S' s'->Q b s'
noncomputable def eQ(F:Fx)(ls:bW)(g:G)(Q:Bool->Shared->Prop)(E:cH)(o:Y5 V):Prop:=Y7 o (KT F ls g Q) (XE F ls g E)
noncomputable def Cr(F:Fx)(A:Around)(ls:bW)(p:Sem Bool)(f:List C->Y5 V):Prop:=∀S g s,Y1 F g ls S s->∀Q E,eQ F ls g Q E (f S)->wpAny (model F.prog F.w) A p Q E s
theorem kF{b:Bool}{Q:Bool->Shared->Prop}(h:bN v=some b)(c:RV g v x)(a:Q b s):wpAny (model F.prog F.w) A (truthy x) Q E s:=by
 cases v<;>first|exact aG h|(replace h:=aw h;subst h)
 have d:=RV.bool_inv c;subst d;exact vS a
theorem KT.mk{Q:Bool->Shared->Prop}{b:Bool}(e:bN v=some b)(h:∀g' a,g.Le g'->Y1 F g' ls S a->Q b a):KT F ls g Q v S:=by unfold KT;refine e▸?_;exact h
theorem KT.get{Q:Bool->Shared->Prop}(h:KT F ls g Q v S):∃b,bN v=some b/\∀g' a,g.Le g'->Y1 F g' ls S a->Q b a:=by
 unfold KT at h;cases e:bN v with
 |none=>rw [e] at h;exact h.elim
 |some b=>rw [e] at h;exact ⟨b,rfl,h⟩
theorem KT.le{Q:Bool->Shared->Prop}(h:KT F ls g Q v S)(L:g.Le g'):KT F ls g' Q v S:=let ⟨_,e,k⟩:=h.get;.mk e λb s a=>k b s (L.trans a)
theorem eQ.le{Q:Bool->Shared->Prop}{o:Y5 V}(H:eQ F ls g Q E o)(L:g.Le g'):eQ F ls g' Q E o:=Y7.mono H (λ_ _ h=>h.le L) λ_ _ h=>h.le L
theorem eQ.cu{c:G->β₁->α₁->Prop}{Q:Bool->Shared->Prop}{x:Y5 β₁}{f:β₁->List C->Y5 V}{Q₁:α₁->Shared->Prop}
 (H:eQ F ls g Q E (cu x f)) (h:∀a S g' b y,eQ F ls g' Q E (f a S)->g.Le g'->Y1 F g' ls S b->c g' a y->Q₁ y b):cK c F ls g Q₁ E x:=
 Y7.mono (Y7.cu H) (λa S H g' b y L=>h a S g' b y (eQ.le H L) L) λ_ _ h=>h
theorem eQ.val{Q:Bool->Shared->Prop}{o:Y5 V}(H:eQ F ls g Q E o):cK RV F ls g (λx s=>wpAny (model F.prog F.w) A (truthy x) Q E s) E o:=
 Y7.mono H (λ_ _ h c b x L R a=>let ⟨_,e,k⟩:=h.get;kF e a (k c b L R)) λ_ _ h=>h
theorem Ct{e:PySem.Expr}{f:List C->Y5 V}(b:∀a,isTrue e F.env a=(do let v<-a;standAt e.pos;holding [v] (truthy v)))
 (h:qw F A ls (eval e F.env) f):Cr F A ls (isTrue e F.env (eval e F.env)) f:=λS g s R _ E H=>isTrue_plain (h S g s R _ E H.val) (b _)
theorem Cu{K:α->List C->Prop}{X:Nat->List C->Prop}{f:Bool->Y5 α}(H:Y7 (match bN v with|none=>none|some q=>f q) K X):∃b,bN v=some b/\Y7 (f b) K X:=by
 cases e:bN v with
 |none=>replace H:=e▸H;exact H.elim
 |some b=>replace H:=e▸H;exact ⟨b,rfl,H⟩
theorem TD{a:G->β->α->Prop}{p:Sem Bool}{x:List C->Y5 V}{f:Bool->List C->Y5 β}{d:α->Shared->Prop}{Q:Bool->Shared->Prop}(H:cK a F ls g d E (cu (x S) λx S=>match bN x with|none=>none|some q=>f q S))(j:Cr F A ls p x)(R:Y1 F g ls S s)
 (i:∀b ay g' c,cK a F ls g' d E (f b ay)->g.Le g'->Y1 F g' ls ay c->Q b c):wpAny (model F.prog F.w) A p Q E s:=
 j S g s R Q E (Y7.mono (Y7.cu H) (λv ay H=>let ⟨b,e,H⟩:=Cu H;.mk e λg' c L k=>i b ay g' c (cK.le H L) L k) λ_ _ h=>h)
theorem FL{p:Sem Bool}{x:List C->Y5 V}{f:Bool->List C->Y5 V}{c Q:Bool->Shared->Prop}(H:eQ F ls g c E (cu (x S) λx S=>match bN x with|none=>none|some q=>f q S))(i:Cr F A ls p x)(R:Y1 F g ls S s)
 (d:∀b ay g' a,eQ F ls g' c E (f b ay)->g.Le g'->Y1 F g' ls ay a->Q b a):wpAny (model F.prog F.w) A p Q E s:=
 i S g s R Q E (Y7.mono (Y7.cu H) (λv ay H=>let ⟨b,e,H⟩:=Cu H;.mk e λg' a L j=>d b ay g' a (eQ.le H L) L j) λ_ _ h=>h)
theorem one{b:G->β->α->Prop}{p:Sem Value}{x:List C->Y5 V}{f:V->List C->Y5 β}{c:α->Shared->Prop}{Q:cH}(H:cK b F ls g c E (cu (x S) f))(h:qw F A ls p x)(R:Y1 F g ls S s)
 (e:∀a ay g' d y,cK b F ls g' c E (f a ay)->g.Le g'->Y1 F g' ls ay d->RV g' a y->Q y d):wpAny (model F.prog F.w) A p Q E s:=
 h S g s R Q E (H.cu e)
theorem FM{p:Sem Value}{x:List C->Y5 V}{f:V->List C->Y5 V}{b:Bool->Shared->Prop}{Q:cH}(H:eQ F ls g b E (cu (x S) f))(e:qw F A ls p x)(R:Y1 F g ls S s)
 (d:∀a ay g' c y,eQ F ls g' b E (f a ay)->g.Le g'->Y1 F g' ls ay c->RV g' a y->Q y c):wpAny (model F.prog F.w) A p Q E s:=
 e S g s R Q E (H.cu d)
theorem ZB{c:G->β->α->Prop}{p q:Sem Value}{x y:List C->Y5 V}{f:V->V->List C->Y5 β}{e:α->Shared->Prop}{Q:Value->Value->Shared->Prop}(H:cK c F ls g e E (cu (x S) λa S=>cu (y S) λb S=>f a b S))(k:qw F A ls p x)(m:qw F A ls q y)(R:Y1 F g ls S s)
 (h:∀a b ay g' d x y,cK c F ls g' e E (f a b ay)->Y1 F g' ls ay d->RV g' a x->RV g' b y->Q x y d):wpAny (model F.prog F.w) A p (λx t=>wpAny (model F.prog F.w) A q (λy aN=>Q x y aN) E t) E s:=
 one H k R λa ay g' d x H L r j=>one H m r λb aK l o y H L n i=>h a b aK l o x y H n (j.mono L) i
theorem TE{p q:Sem Value}{x y:List C->Y5 V}{f:V->V->List C->Y5 V}{d:Bool->Shared->Prop}{Q:Value->Value->Shared->Prop}(H:eQ F ls g d E (cu (x S) λa S=>cu (y S) λb S=>f a b S))(j:qw F A ls p x)(l:qw F A ls q y)(R:Y1 F g ls S s)
 (e:∀a b ay g' c x y,eQ F ls g' d E (f a b ay)->Y1 F g' ls ay c->RV g' a x->RV g' b y->Q x y c):wpAny (model F.prog F.w) A p (λx r=>wpAny (model F.prog F.w) A q (λy aN=>Q x y aN) E r) E s:=
 FM H j R λa ay g' c x H L o i=>FM H l o λb aK k n y H L m h=>e a b aK k n x y H m (i.mono L) h
theorem cK.gk{a:G->V->α->Prop}{o:Option V}{Q:α->Shared->Prop}(H:cK a F ls g Q E (gk o S)):∃v,o=some v/\KQ a F ls g Q v S:=by
 cases o with
 |none=>exact H.elim
 |some v=>exact ⟨v,rfl,H⟩
theorem cK.qt{a:G->V->α->Prop}{o:Option Bool}{Q:α->Shared->Prop}(H:cK a F ls g Q E (qt o S)):∃v,o=some v/\KQ a F ls g Q (.bool v) S:=by
 cases o with
 |none=>exact H.elim
 |some v=>exact ⟨v,rfl,H⟩
theorem eQ.qt{o:Option Bool}{Q:Bool->Shared->Prop}(H:eQ F ls g Q E (qt o S)):∃v,o=some v/\∀g' a,g.Le g'->Y1 F g' ls S a->Q v a:=by
 cases o with
 |none=>exact H.elim
 |some v=>exact ⟨v,rfl,H⟩
theorem cK.NL{a:G->β->α->Prop}{x:Y5 β}{Q:α->Shared->Prop}(H:cK a F ls g Q E (match c with|true=>x|false=>none)):c=true/\cK a F ls g Q E x:=by
 cases c with
 |true=>exact ⟨rfl,H⟩
 |false=>exact H.elim
theorem NM{x:Y5 α}{K:α->List C->Prop}{X:Nat->List C->Prop}(H:Y7 (match c with|true=>x|false=>none) K X):c=true/\Y7 x K X:=by
 cases c with
 |true=>exact ⟨rfl,H⟩
 |false=>exact H.elim
theorem Qc{a b:V}{Q:cH}(R:Y1 F g ls S s)(H:cK RV F ls g Q E (gk (mm op a b S) S))(e:RV g a x)(d:RV g b y):wpAny (model F.prog F.w) A (binaryOp op x y) Q E s:=
 let ⟨_,h,c⟩:=H.gk;yS R h e d c
theorem AU(o:Option V)(S:List C):ou o S=none\/∃k v,o=some (.ref k)/\S[k]? =some (.var (some v)):=by
 cases o with
 |none=>exact .inl rfl
 |some v=>cases v with
  |ref k=>
   rw [na];cases h:S[k]? with
   |none=>exact .inl rfl
   |some c=>cases c with
    |var w=>cases w with
     |none=>exact .inl rfl
     |some v=>exact .inr ⟨k,v,rfl,h⟩
    |_=>exact .inl rfl
  |_=>exact .inl rfl
theorem cK.ou{a:G->V->α->Prop}{o:Option V}{Q:α->Shared->Prop}(H:cK a F ls g Q E (ou o S)):∃k v,o=some (.ref k)/\S[k]? =some (.var (some v))/\KQ a F ls g Q v S:=by refine aQ (AU o S) (λe=>(e▸H:cK a F ls g Q E none).elim) λz=>?_;refine bd z λk v e h=>?_;clear z;subst e;rw [na,h] at H;exact iY k v rfl h H
theorem rR{n:Str}(h:env.scope.names.lookup n=some .local):Zi env m n=m n:=by delta Zi Env.kindOf;exact h▸rfl
theorem lc{n:Str}(h:env.scope.names.lookup n=some .cell):Zi env m n=(env.cells.lookup n).map Value.ref:=by delta Zi Env.kindOf;rw [h]
theorem Cv{n:Str}(h:env.scope.names.lookup n=some .free):Zi env m n=(env.cells.lookup n).map Value.ref:=by delta Zi Env.kindOf;rw [h]
theorem Cw{o:Option V}{r:Rs V}(h:ou o S=some (r,S')):∃k v,o=some (.ref k)/\S[k]? =some (.var (some v))/\r=.ok v/\S'=S:=by refine aQ (AU o S) (λe=>aG (e.symm.trans h)) λz=>?_;refine bd z λk v e a=>?_;clear z;subst e;rw [na,a] at h;exact Pl h λc b=>lP k v rfl a c.symm b.symm
theorem bE.call(j:bE d F A gt cf){a:Addr}{Q:cH}(H:cK RV F ls g Q E (cf.fn cf.hd a vs S))(R:Y1 F g ls S s)(c:cr g vs xs):wpAny (model F.prog F.w) A (PySem.call (.ref a) xs) Q E s:=by
 refine gl λu o=>?_;cases h:cf.fn cf.hd a vs S with
 |none=>refine o ?_
        replace H:=h▸H;exact H.elim
 |some p=>
  replace H:=h▸H;obtain ⟨r,S'⟩:=p;refine aq (j.run _ a vs S r S' h) λ_ n=>?_;refine ae n λf t h=>?_;clear n;replace h:=j.hd▸h;refine o ?_;exact t F A rfl j.ak vs S r S' h ls xs g s Q E R c (λv e i l x L m _ c=>by subst e;exact H i l x L m c) (λk e i l b L m _ q=>by subst e;exact H i l b L m q)
theorem bE.Qd(c:bE d F A gt cf){b:G->β->α->Prop}{a:Addr}{Q:α->Shared->Prop}{f:Y5 V->Y5 β}(e:f none=none)(H:cK b F ls g Q E (f (cf.fn cf.hd a vs S))):keepIn F.K (.ref a)=true:=by
 cases h:cf.fn cf.hd a vs S with
 |none=>rw [h,e] at H;exact H.elim
 |some p=>exact (c.run _ a vs S p.1 p.2 h).1
theorem ni(b:bE d F A gt cf)(h:cf.hd=false):F.hand=none:=by
 have hd:=b.hd;rw [h] at hd;cases c:F.hand with
 |none=>rfl
 |some a=>rw [c] at hd;exact eI hd
structure SE (F:Fx) (A:Around) (gt:eY) (cf:CF) (ls:bW) (e:Ex):Prop where
 v:qw F A ls (eval (Y3 F.aj gt e) F.env) (ev cf ls gt e)
 t:Cr F A ls (isTrue (Y3 F.aj gt e) F.env (eval (Y3 F.aj gt e) F.env)) (ev cf ls gt e)
noncomputable def eK(F:Fx)(gt:eY):eS->List (Bool×Sem Value)
 |.nil=>[]
 |.cons e r=>(false,eval (Y3 F.aj gt e) F.env)::eK F gt r
theorem yT:eK F gt eS.nil=[]:=by rfl
theorem yU:eK F gt (eS.cons e r)=(false,eval (Y3 (Fx.aj F) gt e) (Fx.env F))::eK F gt r:=by rfl
theorem eL(F:Fx)(gt:eY)(pos:Pos):∀es:eS,backTo pos (starEach (cg F.aj gt es) F.env)=eK F gt es
 |.nil=>rfl
 |.cons e r=>by
  have:∀a,starEach (Y3 F.aj gt e::a) F.env=(false,eval (Y3 F.aj gt e) F.env)::starEach a F.env:=by intro a;cases e<;>first|rfl|(rename_i k _ _ _ _;cases k<;>rfl)
  show backTo pos (starEach (Y3 F.aj gt e::cg F.aj gt r) F.env)=_;rw [this];show (false,_)::backTo pos (starEach (cg F.aj gt r) F.env)=_;refine (eL F gt pos r)▸?_;rfl
noncomputable def FN:BoolOp->Bool
 |.And=>true
 |.Or=>false
theorem wG(op:BoolOp)(es:eS)(S:List C):mB cf ls gt op (!FN op) es S=some (.ok (.bool (!FN op)),S):=by cases op<;>cases es<;>rfl
noncomputable def Seq(F:Fx)(A:Around)(gt:eY):eS->(List Value->Shared->Prop)->cH->Shared->Prop
 |.nil,K,E,s=>K [] s
 |.cons e r,K,E,s=>wpAny (model F.prog F.w) A (eval (Y3 F.aj gt e) F.env) (λx aL=>Seq F A gt r (λxs=>K (x::xs)) E aL) E s
theorem Seq.spliced:∀{es:eS} {K:List Value->Shared->Prop} {s:Shared},Seq F A gt es K E s->wpAny (model F.prog F.w) A (PySem.spliced (eK F gt es)) K E s
 |.nil,_,_=>@λh=>spliced_nil h
 |.cons _ _,_,_=>@λh=>spliced_cons (bP h (λ_ _ h=>Seq.spliced h) λ_ _ e=>e)
theorem Zu(F:Fx)(gt:eY):∀es:eS,(eK F gt es).any (·.1)=false
 |.nil=>rfl
 |.cons e r=>Zu F gt r
theorem Seq.args{f:Value}{K:List Value->Shared->Prop}(h:Seq F A gt es K E s):wpAny (model F.prog F.w) A (evalArgs f true (eK F gt es) []) (λa b=>a.kw=[]/\K a.pos b) E s:=by
 cases es with
 |nil=>exact PySem.evalArgs_none ⟨rfl,h⟩
 |cons e r=>exact evalArgs_plain (bP h.spliced (λvs b h=>⟨rfl,h⟩) λ_ _ e=>e)
noncomputable def Qe(F:Fx)(A:Around)(gt:eY)(cf:CF)(ls:bW)(es:eS):Prop:=
 ∀S g s,Y1 F g ls S s->∀(K:List Value->Shared->Prop) (E:cH),cK cr F ls g K E (hM cf ls gt es S)->Seq F A gt es K E s
noncomputable def fR(F:Fx)(A:Around)(gt:eY)(cf:CF)(ls:bW):eS->Prop
 |.nil=>True
 |.cons e r=>SE F A gt cf ls e/\fR F A gt cf ls r
theorem SE.plain(b:∀a,isTrue (Y3 F.aj gt e) F.env a=(do let v<-a;standAt (Y3 F.aj gt e).pos;holding [v] (truthy v)))
 (hv:qw F A ls (eval (Y3 F.aj gt e) F.env) (ev cf ls gt e)):SE F A gt cf ls e:=⟨hv,Ct b hv⟩
theorem rS{Q:cH}{E}(R:Y1 F g ls S s)(a:cr g vs xs)(d:i6 vs=true)
 (c:∀g' b x,g.Le g'->Y1 F g' ls S b->RV g' (.tup vs) x->Q x b):wpAny (model F.prog F.w) A (newTuple xs) Q E s:=by
 refine jQ (c (g.dn s.heap.objs.size {cls:=.type "tuple",data:=.seq xs.toArray}) _ _ (R.bR _) (R.mQ _ rfl s.toks) (.tup (by simp [G.dn];rfl) (a.mono (R.bR _)))) ?_
 show xs.toArray.size<=2 ^ 24
 rw [rh,<-a.length]
 exact aA (cZ d) (by decide)
theorem th{Q:cH}{E}(R:Y1 F g ls S s)(a:cr g vs xs)(d:i6 vs=true)
 (c:∀g' b x,g.Le g'->Y1 F g' ls S b->RV g' (.lst vs) x->Q x b):wpAny (model F.prog F.w) A (newList xs) Q E s:=by
 refine jQ (c (g.dn s.heap.objs.size {cls:=.type "list",data:=.seq xs.toArray}) _ _ (R.bR _) (R.mQ _ rfl s.toks) (.lst (by simp [G.dn];rfl) (a.mono (R.bR _)))) ?_
 show xs.toArray.size<=2 ^ 24
 (refine rh▸?_;refine (aS a.length)▸?_)
 exact aA (cZ d) (by decide)
theorem dK(g:G)(n:Addr×Option Addr):g.Le {g with cs:=g.cs++[n]}:=⟨rfl,λ_ _ h=>h,[n],rfl⟩
noncomputable abbrev Kept(h h':Heap):Prop:=∀b o,h.get? b=some o->h'.get? b=some o
theorem lf{c:C}(R:Y1 F g ls S s)(f:o.isFreed=false)(j:∀ks vs,c≠ .exc ks vs)(h:RC {g with cs:=g.cs++[(s.heap.objs.size,none)]} (s.heap.push o) c (s.heap.objs.size,none)){Q:cH}
 (d:∀g' a b,g.Le g'->g'.cs[S.length]? =some b->Y1 F g' ls (S++[c]) a->Kept s.heap a.heap->a.heap.get? b.1=some o->Q (.ref b.1) a):Q (.ref s.heap.objs.size) {s with heap:=s.heap.push o}:=by
 refine d {g with cs:=g.cs++[(s.heap.objs.size,none)]} _ (s.heap.objs.size,none) (dK g _) (by rw [<-R.len];simp) (R.mS (n:=(s.heap.objs.size,Option.none)) (λb o e=>eZ _ e) (λb i=>?_) (nodup_cons.mpr ⟨jS,nodup_nil⟩) h s.toks (λks vs e=>(j ks vs e).elim)) (λb o e=>eZ _ e) (gZ _ f)
 obtain rfl:=mem_singleton.mp (i)
 cases e:s.heap.get? s.heap.objs.size with
 |none=>rfl
 |some o=>exact absurd (cI e) (lK _)
theorem kG{Q:cH}{E}(R:Y1 F g ls S s)(d:cr g vs xs)(j:i6 vs=true)
 (f:∀g' a x,g.Le g'->Y1 F g' ls (S++[.list vs]) a->RV g' (.ref S.length) x->Q x a):wpAny (model F.prog F.w) A (newList xs) Q E s:=by
 refine jQ (lf (c:=.list vs) R rfl (λ_ _ e=>C.noConfusion e) ⟨rfl,_,_,gZ _ rfl,d.mono (dK g _)⟩ λg' a b L i h _ _=>f g' a _ L h (.ref i)) ?_
 show xs.toArray.size<=2 ^ 24
 rw [rh,<-d.length]
 exact aA (cZ j) (by decide)
theorem listOf{b:G->β->α->Prop}{f:List V->List C->Y5 β}{Q:α->Shared->Prop}(H:cK b F ls g Q E (cu (hM cf ls gt es S) f))(e:Qe F A gt cf ls es)(R:Y1 F g ls S s){K:List Value->Shared->Prop}
 (d:∀a ay g' c x,cK b F ls g' Q E (f a ay)->g.Le g'->Y1 F g' ls ay c->cr g' a x->K x c):Seq F A gt es K E s:=e S g s R K E (H.cu d)
theorem iB:∀{es:eS},fR F A gt cf ls es->Qe F A gt cf ls es
 |.nil=>@λ_ S g s R K E H=>H.ok R .nil
 |.cons e es=>@λa S g s R K E H=>one H a.1.v R λv ay i m x H L f b=>listOf H (iB a.2) f λvs aK j k l H h d c=>H.ok d (.cons (b.mono h) c)
theorem yV{op:BoolOp}{w:Sem Value}{Q:Bool->Shared->Prop}(h:wpAny (model F.prog F.w) A (isTrue (Y3 F.aj gt e) F.env (eval (Y3 F.aj gt e) F.env)) (λc aN=>(c=FN op->wpAny (model F.prog F.w) A (isTrue (.BoolOp op (cg F.aj gt r) p) F.env w) Q E aN)/\(c= !FN op->Q c aN)) E s):
 wpAny (model F.prog F.w) A (isTrue (.BoolOp op (Y3 F.aj gt e::cg F.aj gt r) p) F.env w) Q E s:=by
 cases op with
 |And=>exact isTrue_and (bP h (λc aN a=>by cases c;exact a.2 rfl;exact a.1 rfl) λ_ _ x=>x)
 |Or=>exact isTrue_or (bP h (λc aN a=>by cases c;exact a.1 rfl;exact a.2 rfl) λ_ _ x=>x)
theorem FO{op:BoolOp}{Q:cH}(h:wpAny (model F.prog F.w) A (eval (Y3 F.aj gt e) F.env) (λv b=>wpAny (model F.prog F.w) A (truthy v) (λc aN=>(c=FN op->wpAny (model F.prog F.w) A (eval (.BoolOp op (cg F.aj gt (.cons wB r)) p) F.env) Q E aN)/\(c= !FN op->Q v aN)) E b) E s):
 wpAny (model F.prog F.w) A (eval (.BoolOp op (Y3 F.aj gt e::cg F.aj gt (.cons wB r)) p) F.env) Q E s:=by
 cases op with
 |And=>exact BoolOp_and (bP h (λv b d=>bP d (λc aN a=>by cases c;exact a.2 rfl;exact a.1 rfl) λ_ _ x=>x) λ_ _ x=>x)
 |Or=>exact BoolOp_or (bP h (λv b d=>bP d (λc aN a=>by cases c;exact a.1 rfl;exact a.2 rfl) λ_ _ x=>x) λ_ _ x=>x)
theorem Qf{op:BoolOp}{w:Sem Value}{Q:Bool->Shared->Prop}(h:SE F A gt cf ls e)(i:∀w,Cr F A ls (isTrue (.BoolOp op (cg F.aj gt r) p) F.env w) (mB cf ls gt op (FN op) r))(R:Y1 F g ls S s)
 (H:eQ F ls g Q E (cu (ev cf ls gt e S) λx S=>match bN x with|none=>none|some d=>mB cf ls gt op d r S)):wpAny (model F.prog F.w) A (isTrue (.BoolOp op (Y3 F.aj gt e::cg F.aj gt r) p) F.env w) Q E s:=
 yV (FL H h.t R λc ay b f H L a=>⟨λe=>by subst e;exact i w ay b f a Q E H,λe=>by subst e;rw [wG] at H;exact H b f (.refl _) a⟩)
theorem AV:∀{es:eS},fR F A gt cf ls es->∀{op} (p:Pos) (w:Sem Value),Cr F A ls (isTrue (.BoolOp op (cg F.aj gt es) p) F.env w) (mB cf ls gt op (FN op) es)
 |.nil=>@λ_ op p w=>λS g s R Q E H=>by
  have H:eQ F ls g Q E (some (.ok (.bool (FN op)),S)):=by cases op<;>exact H
  have h:=H g s (.refl _) R;cases op
  ·exact isTrue_and_nil h
  ·exact isTrue_or_nil h
 |.cons e r=>@λa op p w=>λS g s R Q E H=>Qf a.1 (λw=>AV a.2 p w) R (by cases op<;>exact H)
theorem Qg{op:BoolOp}{Q:cH}(i:SE F A gt cf ls e)(h:qw F A ls (eval (.BoolOp op (cg F.aj gt (.cons wB r)) p) F.env) (mB cf ls gt op (FN op) (.cons wB r)))(R:Y1 F g ls S s)
 (H:cK RV F ls g Q E (cu (ev cf ls gt e S) λx S=>match bN x with|none=>none|some d=>mB cf ls gt op d (.cons wB r) S)):wpAny (model F.prog F.w) A (eval (.BoolOp op (Y3 F.aj gt e::cg F.aj gt (.cons wB r)) p) F.env) Q E s:=
 FO (one H i.v R λx ay f k y H L c a=>by
  refine ae (Cu H) λb e H=>?_;refine kF e a ⟨λe=>?_,λj=>?_⟩
  ·subst e;exact h ay f k c Q E H
  ·subst j;rw [wG] at H;refine cK.ok H c ?_;cases x<;>first|exact aG e|(replace e:=aw e;subst e)
   exact a)
theorem FQ{op:BoolOp}{Q:cH}(a:SE F A gt cf ls e)(R:Y1 F g ls S s)
 (H:cK RV F ls g Q E (cu (ev cf ls gt e S) λx S=>match bN x with|none=>none|some d=>mB cf ls gt op d .nil S)):wpAny (model F.prog F.w) A (eval (.BoolOp op [Y3 F.aj gt e] p) F.env) Q E s:=
 BoolOp_one (one H a.v R λx ay h i y H L c f=>by
  refine ae (Cu H) λb e H=>?_;have H:cK RV F ls h Q E (some (.ok (.bool b),ay)):=by clear e;cases op<;>cases b<;>exact H
  refine H.ok c ?_;cases x<;>first|exact aG e|(replace e:=aw e;subst e)
  exact f)
theorem AW:∀{es:eS},fR F A gt cf ls es->es≠ .nil->∀{op} (p:Pos),qw F A ls (eval (.BoolOp op (cg F.aj gt es) p) F.env) (mB cf ls gt op (FN op) es)
 |.nil=>@λ_ b op p=>absurd rfl b
 |.cons e .nil=>@λa _ op p=>λS g s R Q E H=>FQ (op:=op) a.1 R (by cases op<;>exact H)
 |.cons e (.cons c r)=>@λa _ op p=>λS g s R Q E H=>Qg (op:=op) a.1 (AW a.2 (λe=>succ_ne_zero _ (bA nh e)) p) R (by cases op<;>exact H)
theorem oz(j:bE d F A gt cf){a:Addr}{Q:cH}(g:keepIn F.K (.ref a)=true)
 (h:Seq F A gt es (λxs b=>(∃g' ay,Y1 F g' ls ay b)/\wpAny (model F.prog F.w) A (PySem.call (.ref a) (first++xs)) Q E b) E s):wpAny (model F.prog F.w) A (callWith p (.ref a) first (eK F gt es) []) Q E s:=by
 refine callWith_of (by rw [Zu];rfl) (keeps_K g) (bP h.args (λx b c=>?_) λ_ _ e=>e)
 refine gl λn k=>?_
 refine ck c λi f m=>?_;clear c;refine dZ f λg' ay l=>?_;clear f
 refine k ?_
 refine i▸?_
 exact ⟨j.ok.top.tR.keeps l.base,m⟩
theorem JO{id:String}{Q:cH}
 (h:Seq F A gt es (λxs b=>wpAny (model F.prog F.w) A (PySem.call (.builtin id) (first++xs)) Q E b) E s):wpAny (model F.prog F.w) A (callWith p (.builtin id) first (eK F gt es) []) Q E s:=by
 refine callWith_builtin (Zu F gt es) (bP h.args (λx b a=>?_) λ_ _ e=>e)
 refine a.1▸?_
 exact a.2
theorem yW(a:bE d F A gt cf){i:Nat}(w:kD F.env.scope gt i=true){g:G}{S:List C}{s:Shared}{Q E:cH}{p:Pos}(R:Y1 F g ls S s){x:Str×Addr}(c:gt[i]? =some x)(e:Q (.ref x.2) s):
 wpAny (model F.prog F.w) A (eval (.Name (gt.getD i (Str.empty,0)).1 p) F.env) Q E s:=by
 (delta kD at w;simp only [dD,ek] at w)
 refine aq (a.ok.tab i _ c) λl1 l2=>?_
 have b:=w.2
 rw [eh,c,ig] at b |-
 exact Name_function_global a.ok.kind b (loadGlobal_global (by refine a.ok.globals▸?_;exact a.ok.top.mg.keeps R.base) l1 e) l2
theorem rT(a:bE d F A gt cf){n:Str}(w:iz F.env.scope n=true){v:Value}(hn:F.mg n=none/\F.mb n=some v)(hd:(n==("__debug__":Str))=false){Q:cH}(R:Y1 F g ls S s)(b:Q v s):
 wpAny (model F.prog F.w) A (eval (.Name n p) F.env) Q E s:=
 Name_function_global a.ok.kind (f9 w) (loadGlobal_builtin (by refine a.ok.globals▸?_;exact a.ok.top.mg.keeps R.base) hn.1 (by refine a.ok.builtins▸?_;exact a.ok.top.mb.keeps R.base) hn.2 b) hd
theorem qa(e:bE d F A gt cf)(w:c7 F.env.scope F.aj i=true)(a:ls[i]?.bind id=some v){Q:cH}(R:Y1 F g ls S s)(f:∀x,RV g v x->Q x s):
 wpAny (model F.prog F.w) A (eval (.Name (F.aj.getD i Str.empty) p) F.env) Q E s:=by
 (delta c7 at w;simp only [dD,ek] at w)
 have hn:F.aj[i]? =some F.aj[i]:=d9 w.1
 have a:ls[i]? =some (some v):=by
  cases q:ls[i]? with
  |none=>rw [q] at a;exact aG a
  |some o=>rw [q] at a;exact bA some a
 refine gl λk j=>?_
 refine ae R.locs λm b h=>?_
 refine ae (h i _ v hn a) λx c hv=>?_
 have l1:=w.2
 refine j ?_
 rw [eh,hn,ig] at l1 |-
 rw [rR l1] at c
 exact wpAny_Name (wpAny_loadName_local e.ok.kind l1 b c (f x hv)) (e.ok.loc _ (dP hn))
theorem Mu(j:bE d F A gt cf)(w:AS F.env.scope F.aj i=true)(h:ls[i]?.bind id=some (.ref k))(I:S[k]? =some (.var (some v))){Q:cH}(R:Y1 F g ls S s)(r:∀x,RV g v x->Q x s):
 wpAny (model F.prog F.w) A (eval (.Name (F.aj.getD i Str.empty) p) F.env) Q E s:=by
 (delta AS at w;simp only [dD,lJ,ek,ri] at w)
 have hn:F.aj[i]? =some F.aj[i]:=d9 w.1
 have H:ls[i]? =some (some (.ref k)):=by
  cases q:ls[i]? with
  |none=>rw [q] at h;exact aG h
  |some o=>rw [q] at h;exact bA some h
 refine gl λB l=>?_
 refine ae R.locs λm C G=>?_
 refine ae (G i _ _ hn H) λx f hv=>?_
 refine ae hv.dw λa b D=>?_;clear hv;subst b
 refine aq (R.cells k a _ D I) λ_ b=>?_;refine aP b λo x z hd hv=>?_;clear b
 refine ae (hv v rfl) λy b t=>?_;clear hv;subst b
 have l1:=w.2
 refine l ?_
 rw [eh,hn,ig] at l1 |-
 have u:=j.ok.loc _ (dP hn)
 refine aQ l1 (λl1=>?_) (λb=>aq b λl1 l2=>?_)
 ·rw [lc l1] at f
  refine gl λB l=>?_
  refine ae (au f) λc n e=>?_
  refine l ?_
  (injection e with e;subst e)
  exact wpAny_Name (wpAny_loadName_cell j.ok.kind l1 n ⟨o,z,hd⟩ (r y t)) u
 ·clear b
  rw [Cv l1] at f
  refine ae (au f) λc n e=>?_
  (injection e with e;subst e)
  exact wpAny_Name (wpAny_loadName_free j.ok.kind l1 n ⟨o,z,hd⟩ (r y t) l2) u
theorem uQ{l:List α}{i:Int}{x:α}(h:Et l i=some x):∃j,seqIndex? i l.length=some j/\l[j]? =some x:=by
 unfold Et at h;(revert h;cases i;all_goals (intro h;dsimp only at h))
 ·rename_i n;refine ⟨n,?_,h⟩;have:=(fx h)
  delta seqIndex?;have d:¬((Int.ofNat n)<0):=by have:(Int.ofNat n)=(n:Int):=rfl;exact Int.not_lt.mpr (Int.natCast_nonneg _)
  rw [bj d,bx (by simp only [dD,ek];have:(Int.ofNat n)=(n:Int):=rfl;exact ⟨Int.ofNat_nonneg n,Int.ofNat_lt.mpr ‹_›⟩)]
  rfl
 ·rename_i n;(revert h;cases _:Nat.blt n (List.length l);rotate_left;all_goals intro h)
  ·rename_i c;refine ⟨_,?_,h⟩;simp only [seqIndex?];have e:Int.negSucc n= -((n:Int)+1):=rfl;have a:n<l.length:=(cZ c)
   have b:Int.negSucc n<0:=by rw [e];exact pN _
   rw [bx b,bx (by simp only [dD,ek];rw [e,Vh a];exact ⟨Int.natCast_nonneg _,Int.ofNat_lt.mpr (sub_lt (ei (zero_le _) a) (succ_pos _))⟩)]
   congr 1;rw [e,Vh a];rfl
  ·exact aG h
theorem JP{a:Addr}{vs:Array Value}{k:Int}{Q:cH}{E}(n:s.heap.IsList a vs)(i:cr g l vs.toList)(r:Et l k=some v)(f: -(2 ^ 63)<=k/\k<2 ^ 63)
 (h:∀z,RV g v z->Q z s):wpAny (model F.prog F.w) A (getItem (.ref a) (.int k t)) Q E s:=by
 have hsz:l.length=vs.size:=by rw [i.length,g0]
 refine gl λu o=>?_
 refine ae (uQ r) λj b c=>?_
 refine ae (i.get c) λz d m=>?_
 rw [fz] at d
 have q:=(fx c)
 simp only [seqIndex?] at b
 by_cases e:k<0
 ·rw [bx e] at b
  split at b
  ·rename_i p
   simp only [dD,ek] at p
   clear q;clear c;(replace b:=aw b;subst b)
   refine o ?_
   exact wpAny_getItem_list_neg n e (by rw [<-hsz];exact Int.le_of_sub_nonneg (by rw [Int.sub_neg];exact p.1)) f.1 (by rw [<-hsz];exact d) (h z m)
  ·exact aG b
 ·rw [bj e] at b
  split at b
  ·clear c;(replace b:=aw b;subst b)
   refine o ?_
   exact wpAny_getItem_list n (Int.not_lt.mp ‹_›) f.2 d (h z m)
  ·exact aG b
theorem kH(aj gt)(i:Ex)(o x:Value):subscripted (Y3 aj gt i) false o x=operate [o,x] (getItem o x):=by cases i<;>first|rfl|(rename_i k _ _ _ _;cases k<;>rfl)
theorem kI(F:Fx)(gt:eY)(p:Pos)(e:Ex):backTo p (starEach [Y3 F.aj gt e] F.env)=[(false,eval (Y3 F.aj gt e) F.env)]:=by have:=eL F gt p (.cons e .nil);simpa only [Ft,Fu,yT,yU] using this
theorem bE.room(a:bE d F A gt cf):A.units+100<cLine:=ei (gD (bY _ _) _) a.ak.units
theorem Cy{Q:cH}{a b:V}{e:PySem.Expr}(r:Y1 F g ls S s){i:Ex}(d:lB a b S=some v)(G:RV g a x)(M:RV g b y)(C:Zs F ls g S v Q):
 wpAny (model F.prog F.w) A (subscriptTail e (Y3 F.aj gt i) x y) Q E s:=by
 have I:=kH F.aj gt i x y
 refine gl λN m=>?_
 cases b with
 |int k=>
  delta lB at d;dsimp only at d
  cases K:dJ k with
  |false=>rw [K] at d;exact aG d
  |true=>
   rw [K] at d;dsimp only at d
   have h: -(2 ^ 63)<=k/\k<2 ^ 63:=by simp only [dJ,ek] at K;exact oE ‹_›
   (refine ar (RV.int_inv M) λO u=>?_;subst u)
   have f:(match gu S a with|some l=>Et l k|Option.none=>Option.none)=some v->N:=λd=>by
    cases p:gu S a with
    |none=>rw [p] at d;exact aG d
    |some l=>
     rw [p] at d;dsimp only at d
     refine bg (E1 r p G) λW vs n P J q=>?_;clear G;subst P
     refine aQ q (λq=>?_) (λq=>?_)
     ·refine ae (uQ d) λj L p=>?_
      refine ae (J.get p) λz B T=>?_
      refine m ?_
      exact tail_any ⟨_,q,rfl⟩ slot_tuple_getitem.lookup (PyProof.Rows.getItem_tuple (j:=j) ⟨_,q,rfl,_,rfl⟩ h.1 h.2 (by (refine (aS g0)▸?_;refine (aS J.length)▸?_);exact L) (by refine (aS (fz))▸?_;exact B) (C _ _ _ (.refl g) r T)) I
     ·refine m ?_
      exact tail_any ⟨_,q,rfl⟩ slot_list_getitem.lookup (JP ⟨_,q,rfl,_,rfl⟩ J d h λz B=>C _ _ _ (.refl g) r B) I
   cases a with
   |str H=>
    clear f;(refine ar (RV.str_inv G) λO u=>?_;subst u)
    dsimp only at d
    cases t:Et H.cps.toList k with
    |none=>refine m ?_
           replace d:=t▸d;exact aG d
    |some c=>
     refine m ?_
     replace d:=t▸d;(replace d:=aw d;subst d)
     refine ae (uQ t) λj L p=>?_
     refine tail_any rfl slot_str_getitem.lookup (PyProof.Rows.getItem_str (by simp only [Bool.or_eq_false_iff,decide_eq_false_iff_not];exact ⟨Int.not_lt.mpr h.1,Int.not_le.mpr h.2⟩) ?_ (C _ _ _ (.refl g) (r.toks _) (.str _ _))) I
     have:H.length=H.cps.toList.length:=by refine g0▸?_;rfl
     (refine this▸?_;refine L▸?_)
     show H.cps[j]? =some c
     refine (aS (fz))▸?_;exact p
   |_=>exact f d
 |str X=>
  cases a with
  |ref k=>
   rw [AI] at d
   cases h:S[k]? with
   |none=>rw [h] at d;exact aG d
   |some c=>rw [h] at d;cases c with
    |dict ks vs=>
     refine m ?_
     clear m;(refine ar (RV.str_inv M) λO u=>?_;subst u);cases G with
     |ref t=>
     refine gl λN m=>?_
     refine aq (r.cells _ _ _ t h) λ_ D=>?_
     refine bg D λo es n R U _=>?_;clear D
     refine m ?_
     exact tail_any ⟨o,R,U.1⟩ slot_dict_getitem.lookup (wk r t h d λz B=>C _ _ _ (.refl g) (r.toks _) B) I
    |_=>exact aG d
  |_=>exact aG d
 |_=>exact aG d
theorem FR(aj gt):∀es:eS,(cg aj gt es).length=nh es
 |.nil=>rfl
 |.cons e r=>bA Nat.succ (FR aj gt r)
theorem JQ{aj gt}(h:rO e=true)(n:Str)(env:Env)(w:Sem Value):attributeBase (Y3 aj gt e) n env w=w:=by cases e<;>first|rfl|(rename_i k _ _ _ _;clear h;cases k<;>rfl)|exact eI h
theorem wH(F:Fx)(gt:eY):∀es:eS,(eK F gt es).all (λx=> !x.1)=true
 |.nil=>rfl
 |.cons e r=>wH F gt r
theorem tU{o:Ex}{n:Str}(w:ow o ap p es=true){Q:cH}
 (h:wpAny (model F.prog F.w) A (eval (Y3 F.aj gt o) F.env) (λc b=>∀pl,wpAny (model F.prog F.w) A (getMethod c n pl) (λa aN=>wpAny (model F.prog F.w) A (callWith p a.1 a.2 (eK F gt es) []) Q E aN) E b) E s):
 wpAny (model F.prog F.w) A (eval (.Call (.Attribute (Y3 F.aj gt o) n ap) (cg F.aj gt es) [] p) F.env) Q E s:=by
 (delta ow at w;simp only [dD,blt_eq] at w)
 refine gl λm j=>?_
 refine ck w λg k q=>?_;clear w
 refine j ?_
 rw [arm_eval_Call,JQ g,eL]
 refine ax (bP h (λc b i=>ax (g1 ?_)) λ_ _ e=>e)
 have d:methodCallForm ((cg F.aj gt es).length+([]:List Keyword).length) (eK F gt es) (backToKw p (keywordEach [] F.env))=true:=by unfold methodCallForm;rw [wH,FR,(show ([]:List Keyword).length=0 from rfl)];rw [cQ (by exact aA ‹_› (by decide))];rfl
 have l:methodCallPos true (Y3 F.aj gt o) F.env ap p=pure p:=by unfold methodCallPos;rw [k];rfl
 unfold methodCall
 refine d▸?_
 exact ax (cR (bP (i _) (λa aN f=>ax (wpAny_of_eq l f)) λ_ _ e=>e))
theorem FS(R:Y1 F g ls S s){m:jl}{o:V}(h:rL m o S=true)(i:RV g o x){Q:Value×List Value->Shared->Prop}(c:Q (.builtin m.id,[x]) s):
 wpAny (model F.prog F.w) A (getMethod x m.name pl) Q E s:=by
 have FT:o.fg.isSome=true->∃y t,x=.str y t:=λh=>by refine ar (ER h) λy j=>?_;refine ar (strAt j i) λt p=>?_;clear c;subst p;exact iX y t rfl
 have k:(gc o S).isSome=true->∃a f n,x=.ref a/\s.heap.get? a=some {cls:=.type "list",data:=.seq f n}:=λh=>by refine gl λr q=>?_;refine ar (ER h) λy j=>?_;refine mO (mZ R j i) λa f n l _ _ d _=>?_;clear FT i c;subst l;refine q ?_;exact vY a.1 f n rfl d
 clear i;cases m with
 |join=>dsimp only [jl.name,jl.id] at c |-;obtain ⟨y,t,rfl⟩:=FT h;with_reducible exact GM.join c
 |starts=>dsimp only [jl.name,jl.id] at c |-;obtain ⟨y,t,rfl⟩:=FT h;with_reducible exact GM.startswith c
 |upper=>dsimp only [jl.name,jl.id] at c |-;obtain ⟨y,t,rfl⟩:=FT h;with_reducible exact GM.upper c
 |append=>dsimp only [ki,kj,km,kn,kr,kt,jl.id] at c |-;obtain ⟨a,f,n,rfl,d⟩:=k h;exact getMethod_builtin ⟨_,d,rfl⟩ PySem.F.plainAttrs_list PySem.F.slot_list_append PySem.F.type_list_append (λb e=>by (injection e with e;subst e);exact ⟨_,d,rfl⟩) c
 |extend=>dsimp only [ki,kj,km,kn,kr,kt,jl.id] at c |-;obtain ⟨a,f,n,rfl,d⟩:=k h;exact getMethod_builtin ⟨_,d,rfl⟩ PySem.F.plainAttrs_list PySem.F.slot_list_extend PySem.F.type_list_extend (λb e=>by (injection e with e;subst e);exact ⟨_,d,rfl⟩) c
 |pop=>dsimp only [ki,kj,km,kn,kr,kt,jl.id] at c |-;obtain ⟨a,f,n,rfl,d⟩:=k h;exact getMethod_builtin ⟨_,d,rfl⟩ PySem.F.plainAttrs_list PySem.F.slot_list_pop PySem.F.type_list_pop (λb e=>by (injection e with e;subst e);exact ⟨_,d,rfl⟩) c
theorem C.AX{c:C}{p}(h:c.cls? =some p):c=.inst p.1 p.2.1 p.2.2:=by cases c<;>first|exact aG h|(replace h:=aw h;subst h);rfl
theorem yX(r:bE d F A gt cf)(R:Y1 F g ls S s){o:V}{n:Str}{a:Addr}(h:((o.eJ.bind λk=>S[k]?.bind C.cls?).bind λp=>match fieldOf p.2.1 p.2.2 n with|some _=>none|none=>cf.mt false p.1 n)=some a)(m:RV g o x){Q:Value×List Value->Shared->Prop}(u:Q (.ref a,[x]) s):
 wpAny (model F.prog F.w) A (getMethod x n pl) Q E s:=by
 refine gl λY N=>?_
 refine ae (Y6 h) λp t l=>?_
 refine ae (Y6 t) λk U M=>?_
 refine ae (Y6 M) λc T J=>?_
 clear h t;obtain rfl:=V.gS U
 obtain rfl:=C.AX J
 (revert l;cases _:Internal.fieldOf (Prod.fst (Prod.snd p)) (Prod.snd (Prod.snd p)) n;rotate_left;all_goals intro l)
 ·exact aG l
 rename_i e
 refine ae m.dw λb j v=>?_;clear m;subst j
 refine pP (r.mt _ _ _ _ l) λK W B y Z=>?_
 refine ij (qI (R.cells k b _ v T) rfl) λo dd I P O o4 o5 o6 j=>?_;refine gK j λod q f1 X L=>?_;clear j;refine mO q λi es ep e1 e2 H e4 G=>?_;clear q
 refine N ?_
 refine method_fn (r.ok.top.tR.keeps R.base) (od:=some i) ⟨I,P,O,by refine o4▸?_;exact e1⟩ K W B y ?_ u
 have:=L n e
 show Option.map (λx=>x.isSome) (lookIn n i)=some false
 rw [wc e2 H]
 have f:=G n
 replace f:=this▸f
 cases D:nsFind es n with
 |none=>rfl
 |some z=>replace f:=D▸f;exact aG (aS f)
theorem Cz{lo d st:PySem.Expr}{f:Bool×Bool×Bool}{Q:cH}
 (h:wpAny (model F.prog F.w) A (eval (Y3 F.aj gt e) F.env) (λx l=>wpAny (model F.prog F.w) A (valueOrNone (evalOpt (lA f.1 lo) F.env)) (λvl aN=>wpAny (model F.prog F.w) A (valueOrNone (evalOpt (lA f.2.1 d) F.env)) (λvu g=>wpAny (model F.prog F.w) A (valueOrNone (evalOpt (lA f.2.2 st) F.env)) (λvs a=>
   (∃T id,typeLookup (.type T) "__getitem__"=pure (some (.builtin id))/\Shared.TypeIs {a with heap:=a.heap.push {cls:=.type "slice",data:=.fields #[vl,vu,vs]}} x T)/\wpAny (model F.prog F.w) A (getItem x (.ref a.heap.objs.size)) Q E {a with heap:=a.heap.push {cls:=.type "slice",data:=.fields #[vl,vu,vs]}}) E g) E aN) E l) E s):
 wpAny (model F.prog F.w) A (eval (.Subscript (Y3 F.aj gt e) (.Slice (lA f.1 lo) (lA f.2.1 d) (lA f.2.2 st) sp) p) F.env) Q E s:=by
 rw [arm_eval_Subscript]
 refine ax (bP h (λx l v=>ax (cR ?_)) λ_ _ e=>e)
 rw [arm_eval_Slice]
 refine ax (bP v (λvl aN t=>ax (cR (bP t (λvu g u=>ax (cR (bP u (λvs a m=>?_) λ_ _ e=>e))) λ_ _ e=>e))) λ_ _ e=>e)
 refine gl λG z=>?_
 refine aq m λj n=>?_;clear m;refine bd j λT id C y=>?_;clear j
 refine z ?_
 unfold newFields
 refine jQ ?_ (by size_fits)
 refine ax (g1 ?_)
 have i:=y
 refine ax ?_
 refine (getitemInPython_of_ne i.not_modules)▸?_
 refine ax (wpAny_specialOf i C ?_)
 have B:∀(r:Value) (c:Shared),Q r c->wpAny (model F.prog F.w) A (letTemporaryGo (Y3 F.aj gt e) x r>>=λ_=>pure r) Q E c:=λr c o=>ax (wpAny_letTemporaryGo (bn o))
 have D:∀b,b=false->subscripted (.Slice (lA f.1 lo) (lA f.2.1 d) (lA f.2.2 st) sp) b x (.ref a.heap.objs.size)=operate [x,.ref a.heap.objs.size] (getItem x (.ref a.heap.objs.size))\/subscripted (.Slice (lA f.1 lo) (lA f.2.1 d) (lA f.2.2 st) sp) b x (.ref a.heap.objs.size)=operate [.ref a.heap.objs.size,x] (getItem x (.ref a.heap.objs.size)):=by
  rintro b rfl;cases f.2.2
  ·exact .inr rfl
  ·exact .inl rfl
 refine bn (ax ?_)
 rcases D _ rfl with k|k<;>rw [k]<;>exact wpAny_operating (bP n (λr c q=>B r c q) λ_ _ e=>e)
theorem CB(m:bE d F A gt cf)(R:Y1 F g ls S s){o:V}{n:Str}{q:Addr×List V}(h:ng cf.mt o n S=some q)(b:RV g o x){Q:Value×List Value->Shared->Prop}(t:∀v ys,Y1 F g ls S v->cr g q.2 ys->keepIn F.K (.ref q.1)=true->Q (.ref q.1,ys) v):
 wpAny (model F.prog F.w) A (getMethod x n pl) Q E s:=by
 rw [rK] at h
 (revert h;cases _:Internal.V.AJ o;rotate_left;all_goals (intro h;dsimp only at h))
 ·rename_i c j
  refine ae (au h) λa i e=>?_
  clear h;subst e
  have J:o=.glob c:=by clear b;cases o<;>first|exact aG j|(replace j:=aw j;subst j);rfl
  clear j;subst J
  have z:x=.ref c:=by cases b;rfl
  refine gl λB r=>?_
  clear b;subst z
  refine eu (m.mt _ _ _ _ i) λL u H G=>?_;refine ae u λP O I=>?_;clear u
  have X:=m.ok.top.tR.keeps R.base
  refine r ?_
  exact method_cls X L (cls_read X O I (bn (handed_on H (t _ [] (R.toks _) .nil G))))
 ·have f:∃a,((o.eJ.bind λk=>S[k]?.bind C.cls?).bind λp=>match fieldOf p.2.1 p.2.2 n with|some _=>none|none=>cf.mt false p.1 n)=some a/\q=(a,[o])/\keepIn F.K (.ref a)=true:=by
   refine gl λB r=>?_;refine ae (Y6 h) λp i l=>?_;(revert l;cases _:Internal.fieldOf (Prod.fst (Prod.snd p)) (Prod.snd (Prod.snd p)) n;rotate_left;all_goals intro l)
   ·exact aG l
   rename_i N;refine ae (au l) λa y e=>?_;refine r ?_;exact ⟨a,by rw [i,bq,N];exact y,e.symm,(m.mt _ _ _ _ y).2.2.2.2⟩
  refine bc f λa i M D=>?_;clear f;clear h;subst M
  exact yX m R i b (t s [x] R (.cons b .nil) D)
noncomputable def Fx.guard(F:Fx)(a:Addr)(o:Obj):Fx:={F with P:=λb=>if b=a then some o else F.P b}
noncomputable def NQ(F:Fx)(a:Addr):Prop:=F.base.get? a=none/\F.P a=none/\F.FP a=none
theorem Y1.CC(R:Y1 F g ls S s)(o:Obj)(E:o.isFreed=false):Y1 (F.guard s.heap.objs.size o) g ls S {s with heap:=s.heap.push o}/\NQ F s.heap.objs.size:=by
 have c:=R.push o s.toks;have j:∀{b:Addr} {a:Obj},s.heap.get? b=some a->b≠s.heap.objs.size:=λe=>cc (cI e);have d:∀{b:Addr},b≠s.heap.objs.size->(F.guard s.heap.objs.size o).P b=F.P b:=λh=>bj h;have k:∀{m:Addr->Option Obj},(∀b a,m b=some a->∃v,s.heap.get? b=some v)->m s.heap.objs.size=Option.none:=λ{m} q=>by
  cases e:m s.heap.objs.size with
  |none=>rfl
  |some a=>obtain ⟨v,z⟩:=q _ a e;exact absurd rfl (j z)
 refine ⟨⟨c.gw,c.base,λb a e=>?_,c.kZ,c.cm,c.len,c.cells,c.nodup,λb i=>?_,c.locs,c.gens,c.os,λb a e=>?_,?_,c.fN,λb a e=>?_,λh e=>?_⟩,k λb a e=>⟨a,R.base b a e⟩,k λb a e=>⟨a,R.dI b a e⟩,k λb a e=>let ⟨I,q⟩:=R.kZ b a e;⟨_,q⟩⟩
 ·have e:(if b=s.heap.objs.size then some o else F.P b)=some a:=e;split at e
  ·rename_i i;rw [i,<-aw e];exact gZ _ E
  ·exact c.dI b a e
 ·refine ar (R.gQ b i) λa J=>?_;refine ck (R.apart b i) λp q r=>?_;exact ⟨p,(d (j J)).trans q,r⟩
 ·refine ck (R.bh b a e) λp q r=>?_;refine ar (R.kZ b a e) λI i=>?_;exact ⟨p,(d (j i)).trans q,r⟩
 ·refine ar c.tb λts T=>?_;refine ar R.tb λts u=>?_;have l:iG F g S (s.heap.push o) ts:=u.keeps (λb a e=>eZ _ e) rfl λ_ _ e=>e;refine ⟨ts,l.len,l.one,λy t=>?_,l.nd⟩;refine gl λA n=>?_;refine pP (l.obj y t) λp r B C G=>?_;refine aq (u.obj y t) λf _=>?_;refine bd f λK _ q _=>?_;clear f;refine n ?_;exact ⟨p,r,B,(d (j q)).trans C,G⟩
 ·have e:(if b=s.heap.objs.size then some o else F.P b)=some a:=e;split at e
  ·rename_i i;rw [i];exact k λb a e=>⟨a,R.cm b a e⟩
  ·exact c.cw b a e
 ·refine gl λA n=>?_;refine aq (c.hJ h e) λp f=>?_;refine bd f λa H q r=>?_;clear f;refine aq (R.hJ h e) λ_ f=>?_;refine bd f λL _ q0 _=>?_;clear f;refine n ?_;exact ⟨p.imp id λD=>ar D λx w=>⟨x,(d (j q0)).trans w⟩,a,H,q,r⟩
theorem Y1.uR{a:Addr}(R:Y1 (F.guard a o) g ls S s)(f:NQ F a)(hd:∀fs,o.data≠ .fields fs):Y1 F g ls S s/\s.heap.get? a=some o/\mP F g a/\a∉F.env.locals::g.cs.flatMap Y4/\∃ts,iG F g S s.heap ts/\some a∉ts:=by
 have d:(F.guard a o).P a=some o:=bx rfl;have le:∀{b},(F.guard a o).P b=Option.none->F.P b=Option.none:=λ{b} e=>by
  have e:(if b=a then some o else F.P b)=Option.none:=e;split at e
  ·exact aG (aS e)
  ·exact e
 have k:∀{b c},F.P b=some c->(F.guard a o).P b=some c:=λ{b c} e=>by show (if b=a then some o else F.P b)=some c;rw [bj (λz=>by rw [z,f.2.1] at e;exact aG e)];exact e
 have v:=R.dI a o d;have u:a∉F.env.locals::g.cs.flatMap Y4:=λj=>by have:=(R.apart a j).2.1;rw [d] at this;exact aG (aS this)
 refine ar R.tb λts T=>?_;have l:some a∉ts:=λj=>by have:=(T.obj a j).2.2.2.1;rw [d] at this;exact aG (aS this)
 have m:iG F g S s.heap ts:=⟨T.len,T.one,λy w=>let ⟨p,r,A,C,G⟩:=T.obj y w;⟨p,r,A,le C,G⟩,T.nd⟩
 refine ⟨⟨R.gw,R.base,λb c e=>R.dI b c (k e),R.kZ,R.cm,R.len,R.cells,R.nodup,λb E=>let ⟨p,q,r⟩:=R.apart b E;⟨p,le q,r⟩,R.locs,R.gens,R.os,λb c e=>let ⟨p,q,r⟩:=R.bh b c e;⟨p,le q,r⟩,⟨ts,m⟩,R.fN,λb c e=>R.cw b c (k e),λh e=>?_⟩,v,⟨f.1,f.2.1,f.2.2,R.cw a o d⟩,u,ts,m,l⟩;refine gl λH D=>?_;refine aq (R.hJ h e) λp n=>?_;refine bd n λc fs q r=>?_;clear n;refine D ?_;refine ⟨p.imp id λt=>ar t λx i=>⟨x,?_⟩,c,fs,q,r⟩;have i:(if h=a then some o else F.P h)=some x:=i;split at i
 ·rename_i B;clear le R u k d p f T l t;subst B;rw [v] at q;(replace q:=aw q;subst q);exact absurd r.1 (hd fs)
 ·exact i
theorem bE.guard(b:bE d F A gt cf)(a:Addr)(o:Obj):bE d (F.guard a o) A gt cf:=
 ⟨⟨b.ok.kind,b.ok.nd,b.ok.loc,b.ok.globals,b.ok.builtins,b.ok.top,b.ok.tab⟩,⟨b.ak.frames,b.ak.depth,b.ak.units,b.ak.kinds,b.ak.outs,b.ak.hand⟩,b.hd,b.run,b.mt,b.keep⟩
noncomputable def nj(aj:List Str)(env:Env)(gt:eY)(p:Pos):List (Str×Nat×Pos)->eS->List (Sem Value×Sem Value)
 |k::ks,.cons e r=>(eval (.Constant (.str k.1) k.2.1 k.2.2) env,(do let x<-eval (Y3 aj gt e) env;standAt p;pure x))::nj aj env gt p ks r
 |_,_=>[]
theorem tV(p:Pos):∀(ks:List (Str×Nat×Pos)) (es:eS),(evalEachOpt (ks.map λk=>some (.Constant (.str k.1) k.2.1 k.2.2)) F.env).zip ((evalEach (cg F.aj gt es) F.env).map λv=>do let x<-v;standAt p;pure x)=(nj F.aj F.env gt p ks es).map λq=>(some q.1,q.2)
 |[],_=>rfl
 |k::ks,.nil=>rfl
 |k::ks,.cons e r=>bA _ (tV p ks r)
theorem jr(p:Pos):∀(ks:List (Str×Nat×Pos)) (es:eS),ks.length=nh es->(nj F.aj F.env gt p ks es).length=ks.length
 |[],_=>@λ_=>rfl
 |k::ks,.nil=>@λh=>by cases h
 |k::ks,.cons e r=>@λh=>bA Nat.succ (jr p ks r (lM h))
noncomputable def KP(F:Fx)(ls:bW)(ks:List Str)(g:G)(K:List (Value×Value)->Shared->Prop)(vs:List V)(S':List C):Prop:=∀g' s' qs xs,g.Le g'->Y1 F g' ls S' s'->cr g' vs xs->Carries (strKind F.prog F.w) qs (ks.zip xs)->K qs s'
theorem qb{E:cH}{p:Pos}:∀{ks:List (Str×Nat×Pos)} {es:eS} {S:List C} {g:G} {s:Shared} {K:List (Value×Value)->Shared->Prop},fR F A gt cf ls es->ks.length=nh es->Y1 F g ls S s->
 Y7 (hM cf ls gt es S) (KP F ls (ks.map (·.1)) g K) (XE F ls g E)->wpAny (model F.prog F.w) A (evalPairs (nj F.aj F.env gt p ks es)) K E s
 |[],.nil,S,g,s,K=>@λ_ _ R H=>evalPairs_nil (H g s [] [] (.refl g) R .nil trivial)
 |k::ks,.nil,_,_,_,_=>@λ_ a _ _=>Nat.noConfusion a
 |[],.cons e r,_,_,_,_=>@λ_ a _ _=>Nat.noConfusion a
 |k::ks,.cons e es,S,g,s,K=>@λc a R H=>
  evalPairs_cons (Constant_str (ax (c.1.v S g _ (R.toks (s.toks+1)) _ E ((Y7.cu H).mono (λv ay H t u x L j d=>ax (g1 (bn
   (qb c.2 (lM a) j ((Y7.cu H).mono (λvs aK H i n q l b m f o=>
     H i n _ (x::l) (L.trans b) m (.cons (d.mono b) f) (⟨fB.mpr ⟨s.toks,rfl⟩,rfl,o⟩)) λ_ _ h=>h.le L))))) λ_ _ h=>h))))
theorem wI{a:Addr}(q:NQ F a)(r:∀fs,o.data≠ .fields fs)(R:Y1 (F.guard a o) g ls S s)(hd:h'.DictOf (strKind F.prog F.w) a (ks.zip xs))(hs:Heap.SameBut a s.heap h')(m:cr g vs xs)(j:ks.length=xs.length){Q:cH}(H:KQ RV F ls g Q (.ref S.length) (S++[.dict ks vs]))(t:Nat):Q (.ref a) {s with heap:=h',toks:=t}:=by
 refine gl λx u=>?_;refine pP (R.uR q r) λi y n v l=>?_;refine ae l λts p k=>?_;clear l;have h:=dK g (a,none);have f:=gV (g:={g with cs:=g.cs++[(a,Option.none)]}) i.gw hd (by rw [map_snd_zip (c6 j.symm)];exact m.mono h);rw [map_fst_zip (c6 j)] at f;refine u ?_;refine H _ _ _ h (i.uJ (c:=.dict ks vs) (λb z d e=>(hs.2 b (by simpa [Y4] using d)).trans e) (λb d=>?_) ⟨ts,p,λb d=>?_⟩ (by simp [Y4]) ⟨rfl,f⟩ t (λ_ _ e=>C.noConfusion e)) (.ref (a:=(a,Option.none)) (by rw [<-i.len];simp))
 ·simp [Y4] at d;clear f;clear h k;subst d;exact ⟨n,v⟩
 ·simp [Y4] at d;clear h f;subst d;exact k
theorem rU{ks:List (Str×Nat×Pos)}{K:V->List C->Prop}{X:Nat->List C->Prop}(H:Y7 (p8 ks vs S) K X):(ks.length=vs.length/\(ks.map (·.1)).Nodup)/\K (.ref S.length) (S++[.dict (ks.map (·.1)) vs]):=by
 unfold p8 at H;(revert H;cases _:beq (List.length ks) (List.length vs)&&ble (List.length ks) 15&&oh (List.map (λx=>Prod.fst x) ks);rotate_left;all_goals intro H)
 ·rename_i a;simp only [dD,beq_eq,ble_eq] at a;exact ⟨⟨a.1.1,oj a.2⟩,H⟩
 ·exact H.elim
theorem FU(J:bE d F A gt cf){ks:List (Str×Nat×Pos)}(w:(beq ks.length (nh es)&&ble ks.length 15)=true)(v:∀(i:Fx),bE d i A gt cf->i.env=F.env->i.aj=F.aj->fR i A gt cf ls es):SE F A gt cf ls (.qO ks es p):=by
 refine .plain (λ_=>rfl) λS g s R Q E H=>?_;generalize c:({cls:=.type "dict",data:=.dict #[]}:Obj)=o;have h:∀B,o.data≠ .fields B:=λB e=>by rw [<-c] at e;cases e
 refine aq (R.CC o (by rw [<-c];rfl)) λz l=>?_;refine aq (nU w) λb y=>?_;have b:=c5 b;have H:=Y7.cu H;by_cases q:ks=[]
 ·clear v H w b y;subst q;cases es with
  |cons e r=>exact eI b
  |nil=>refine wpAny_Dict_empty ?_;rw [c];refine wI l h (h':=s.heap.push o) z ?_ (.refl _ _) .nil rfl (rU (show Y7 (p8 [] [] S) (KQ RV F ls g Q) (XE F ls g E) from H)).2 s.toks;rw [<-c];exact Heap.DictOf.new s.heap
 ·refine wpAny_Dict_pairs (knd:=strKind F.prog F.w) (tV p ks es) (λe=>q ?_) (by rw [jr p ks es b];exact cZ y) ?_
  ·have:=jr (F:=F) (gt:=gt) p ks es b;rw [e] at this;exact length_eq_zero_iff.mp this.symm
  rw [c];refine qb (F:=F.guard s.heap.objs.size o) (v _ (J.guard s.heap.objs.size o) rfl rfl) b z (H.mono (λvs ay H u n P K L j f O=>?_) λk ay H u n a L j f=>H u n a L (j.uR l h).1 f);obtain ⟨⟨I,G⟩,H⟩:=rU H;have t:(ks.map (·.1)).length=K.length:=by rw [dG,I,f.length]
  have m:n.heap.DictOf (strKind F.prog F.w) s.heap.objs.size []:=by have:=(j.uR l h).2.1;rw [<-c] at this;exact EP _ (#[]) 0 this ⟨rfl,rfl,rfl⟩ rfl (λe M=>by simp at M) .nil nodup_nil
  refine ⟨_,O,m,λh' hd hs=>wI l h j ?_ hs f t (λD N x C=>H D N x (L.trans C)) _⟩;rwa [mj _ [] (by rw [nil_append,map_fst_zip (c6 t)];exact G),nil_append] at hd
theorem cO.grow(H:cO A h)(k:∀b o,h.get? b=some o->h'.get? b=some o):cO A h':=by
 refine aQ H (λH=>?_) (λc=>bg c λa o e H d f=>?_)
 ·exact .inl H
 ·clear c;exact .inr ⟨a,o,e,H,k _ _ d,f⟩
theorem qc{t:Addr}{Q:List Value->Shared->Prop}(H:cO A s.heap)(a:s.heap.IsTuple t items)(hn:n=items.size)
 (h:∀h',(∀b o,s.heap.get? b=some o->h'.get? b=some o)->Q items.toList {s with heap:=h'}):wpAny (model prog w) A (unpackItems (.ref t) n none) Q E s:=by
 have c:t≠s.heap.objs.size:=by obtain ⟨o,j,_⟩:=a;exact cc (cI j)
 have g:∀{b:Addr} {o:Obj},s.heap.get? b=some o->b≠s.heap.objs.size:=λe=>cc (cI e)
 subst hn
 (delta unpackItems notIterableAtAll;dsimp only)
 refine ax (ax (wpAny_specialOf a.typeIs PySem.F.slot_tuple_iter.lookup (bn ?_)))
 simp only [Bool.false_eq_true,if_false]
 refine ax (cR (wpAny_pyIter_tuple a ?_))
 refine ax (cR (wpAny_draw_tuple c items.size 0 _ _ ⟨_,gZ _ rfl,rfl,rfl⟩ (a.push _) (aA (c6 (fL _)) (cJ _)) λk m d=>?_))
 rw [show take items.size (drop 0 items.toList)=items.toList by refine drop_zero▸?_;exact take_of_length_le (by simp)]
 rw [bj (by simp)]
 have f:=λb o e=>d.extBut b o (g e) (eZ _ e)
 refine ax (cR (tL (s:={s with heap:=k}) (H.grow f) m ((a.push _).extBut d.extBut c) (by simp) λi l _=>?_))
 simp only [isSome_none,Bool.false_eq_true,if_false]
 exact bn (h i λb o e=>l b o (g e) (f b o e))
theorem unpack_tuple{t:Addr}{a:List (Bool×(Value->Sem Unit))}{Q:mE}(H:cO A s.heap)(d:s.heap.IsTuple t items)
 (hn:a.length=items.size) (c:a.findIdx? (·.1)=none)
 (h:∀h',(∀b o,s.heap.get? b=some o->h'.get? b=some o)->wpAny (model prog w) A (assignInOrder (a.map (·.2)) items.toList) Q E {s with heap:=h'}):
 wpAny (model prog w) A (unpack (.ref t) a) Q E s:=by
 unfold unpack
 refine c▸?_
 exact ax (cR (qc H d hn h))
theorem Zl{x1}{t:Addr}{Q:mE}(H:cO A s.heap)(c:s.heap.IsTuple t items)
 (hn:(assignEach elts env).length=items.size) (a:(assignEach elts env).findIdx? (·.1)=none)
 (h:∀h',(∀b o,s.heap.get? b=some o->h'.get? b=some o)->wpAny (model prog w) A (assignInOrder ((assignEach elts env).map (·.2)) items.toList) Q E {s with heap:=h'}):
 wpAny (model prog w) A (assign (.Tuple elts x1 pos) env (.ref t)) Q E s:=by
 rw [arm_assign_Tuple]
 exact ax (g1 (unpack_tuple H c hn a h))
noncomputable def uS(o:Obj):Prop:=∃n,o.cls=.type n/\(["enumerate","zip","dict_itemiterator","dict_reverseitemiterator","odict_iterator","itertools.zip_longest","itertools.pairwise"].contains n)=false
theorem uT{a:Addr}{v:Value}{Q:mE}(f:s.heap.get? a=some o)(e:uS o)(c:Q () s):wpAny (model prog w) A (letOwnedTupleGo target (.ref a) v) Q E s:=by
 have d:wpAny (model prog w) A (match (Value.ref a,v) with
  |(.ref r,.ref b)=>(do
   let o<-load r
   match o.cls,o.data with
   |.type n,.fields vs=>
    if ["enumerate","zip","dict_itemiterator","dict_reverseitemiterator","odict_iterator","itertools.zip_longest","itertools.pairwise"].contains n&&vs[0]? ==some (rawInt b) then
     rule "for.unpacks-the-owned-tuple"
     updateField r 0 .none
   |_,_=>pure ():Sem Unit)
  |_=>pure ()) Q E s:=by
  cases v<;>first|exact bn c|skip
  refine ax (wpAny_load f ?_)
  refine ae e λn e1 e2=>?_;clear e
  refine e1▸?_
  cases o.data<;>first|exact bn c|skip
  dsimp only
  rw [e2,Bool.false_and,bj j2]
  exact bn c
 cases target<;>first|exact d|exact bn c
theorem tW{elt:PySem.Expr}{ifs:List PySem.Expr}{it acc:Value}(I:Nat->Shared->Prop)
 (turn:∀n s,I n s->wpAny (model prog w) A (pyNext it) (λr a=>match r with
   |none=>R (.ok .next) a
   |some v=>wpAny (model prog w) A (letOwnedTupleGo target it v) (λ_ a=>wpAny (model prog w) A (assign target env v) (λ_ aN=>
     wpAny (model prog w) A (forIn ifs true λc r=>if r=true then do let b<-isTrue c env (eval c env);pure (ForInStep.yield b) else pure (ForInStep.yield r)) (λb e=>
      if b=true then wpAny (model prog w) A (eval elt env) (λx i=>
       wpAny (model prog w) A (call (.builtin "list.append") [acc,x]) (λ_ g=>∃m,m<n/\I m g) (λ_ _=>False) i) (λ_ _=>False) e
      else∃m,m<n/\I m e) (λ_ _=>False) aN) (λ_ _=>False) a) (λ_ _=>False) a) (λ_ _=>False) s)
 (n:Nat) (h:I n s):codeAny (model prog w) A (.compLoop (.ListComp elt [⟨target,iter,ifs,0⟩] scope pos) 0 it acc env) R s:=by
 refine codeAny_loop rfl I (λn s l=>?_) n h
 show wpAny _ A ((compTurn (.ListComp elt [⟨target,iter,ifs,0⟩] scope pos) 0 it acc env).onRaise (λx=>do noteFrame x env;theTreesLotGoes x)) _ _ s
 refine wpAny_noted ?_
 rw [compTurn_list]
 refine bP (E:=λ_ _=>False) ?_ (λ_ _ h=>h) λ_ _ h=>h.elim
 refine ax (g1 (ax (bP (turn n s l) (λr a d=>?_) λ_ _ h=>h)))
 cases r with
 |none=>exact bn d
 |some v=>
  refine ax (bP d (λ_ a d=>ax (bP d (λ_ aN k=>ax (bP k (λb e f=>?_) λ_ _ h=>h)) λ_ _ h=>h)) λ_ _ h=>h)
  cases b with
  |false=>exact bn ⟨rfl,f⟩
  |true=>
   refine ax (ax (bP f (λx i o=>ax (bP o (λ_ g j=>?_) λ_ _ h=>h)) λ_ _ h=>h))
   exact bn (bn ⟨rfl,j⟩)
noncomputable def Fx.inner(F:Fx)(oL:Obj)(env:Env)(aj:List Str):Fx:={F with FP:=λb=>if b=F.env.locals then some oL else F.FP b,env:=env,aj:=aj}
theorem Y1.JS(R:Y1 (F.enter oL env aj) g ls S s):Y1 (F.inner oL env aj) g ls S s:=
 ⟨R.gw,R.base,R.dI,R.kZ,R.cm,R.len,R.cells,R.nodup,R.apart,R.locs,R.gens,R.os,R.bh,let ⟨ts,T⟩:=R.tb;⟨ts,T.len,T.one,T.obj,T.nd⟩,R.fN,R.cw,R.hJ⟩
theorem Y1.JT(R:Y1 (F.inner oL env aj) g ls S s):Y1 (F.enter oL env aj) g ls S s:=
 ⟨R.gw,R.base,R.dI,R.kZ,R.cm,R.len,R.cells,R.nodup,R.apart,R.locs,R.gens,R.os,R.bh,let ⟨ts,T⟩:=R.tb;⟨ts,T.len,T.one,T.obj,T.nd⟩,R.fN,R.cw,R.hJ⟩
theorem Y1.Qi(R:Y1 F g ls S s){a:Addr}(f:mP F g a)(hn:a∉F.env.locals::g.cs.flatMap Y4)(D:∃ts,iG F g S s.heap ts/\some a∉ts)(k:∀b o,b≠a->s.heap.get? b=some o->h'.get? b=some o)(t:Nat):Y1 F g ls S {s with heap:=h',toks:=t}:=by
 have n:∀{m:Addr->Option Obj},m a=Option.none->∀{b o},m b=some o->b≠a:=λI=>λ{b o} e z=>by rw [z,I] at e;exact aG e
 have C:∀{j:Nat} {c},g.cs[j]? =some c->∀b∈Y4 c,b≠a:=λL b A e=>hn (e▸ .tail _ (mh L A));refine ⟨R.gw,λb o e=>k _ _ (n f.1 e) (R.base b o e),λb o e=>k _ _ (n f.2.1 e) (R.dI b o e),λb o e=>let ⟨M,q⟩:=R.kZ b o e;⟨M,k _ _ (n f.2.2.1 e) q⟩,λb o e=>k _ _ (n f.2.2.2 e) (R.cm b o e),R.len,
  λi c x u v=>(R.cells i c x u v).at λb A o e=>k _ _ (C u b A) e,R.nodup,R.apart,dU (G.Le.refl _) (λ_ e=>k _ _ (λz=>hn (z▸ .head _)) e) R.locs,R.gens,R.os,R.bh,?_,R.fN,R.cw,λh e=>?_⟩
 ·refine ae D λts T J=>?_;clear D;refine ⟨ts,T.len,λi c ks vs u v=>?_,λy B=>?_,T.nd⟩
  ·refine bd (T.one i c ks vs u v) λo l p q=>?_;exact gb o l (k _ _ (C u _ (.head _)) p) q
  ·refine gl λH w=>?_;refine aq (T.obj y B) λd r=>?_;refine bd d λo l p q=>?_;clear d;refine w ?_;exact ⟨⟨o,l,k _ _ (λe=>J (e▸B)) p,q⟩,r⟩
 ·refine gl λH w=>?_;refine aq (R.hJ h e) λp d=>?_;refine bd d λo l q r=>?_;clear d;refine w ?_;exact ⟨p,o,l,k _ _ (λz=>p.elim (λm=>hn (z▸ .tail _ m)) λK=>ar K λx E=>n f.2.1 E z) q,r⟩
theorem bE.inner(a:bE d F A gt cf)(R:Y1 F g ls S s)(m:s.heap.get? F.env.locals=some oL)(w:I7 F.env.scope F.aj I=true)(hs:env.scope=mn F.env.scope I)(j:env.globals=F.env.globals)(r:env.builtins=F.env.builtins):
 bE d (F.inner oL env I.aj) A gt cf:=by
 simp -iota only [I7,dD] at w
 refine gl λi f=>?_
 refine pP w λ_ c b y x=>?_;clear w;refine ck c λz p l=>?_;clear c;refine aq b λh B=>?_;clear b;refine aq h λk C=>?_;clear h
 refine f ?_
 refine ⟨⟨?_,oj p,λn hn=>?_,j.trans a.ok.globals,r.trans a.ok.builtins,a.ok.top,a.ok.tab⟩,⟨a.ak.frames,a.ak.depth,a.ak.units,a.ak.kinds,λe t=>?_,a.ak.hand⟩,a.hd,a.run,a.mt,a.keep⟩
 ·show env.scope.kind=_
  refine hs▸?_;exact eq_of_beq k
 ·have:=List.all_eq_true.mp l n hn
  simpa using this
 ·refine ae (a.ak.outs e t) λL q1 q2=>?_
  refine ⟨L,q1,.inr ?_⟩
  refine gl λi f=>?_
  refine iW R.m8 λo es v e1 e2=>?_
  refine f ?_
  replace e1:=m▸e1;clear f q1;(replace e1:=aw e1;subst e1)
  refine aQ q2 (λc=>?_) (λb=>ae b λu q2 q3=>?_)
  ·clear q2;subst c
   exact ⟨oL,bx rfl,λvs q=>by replace q:=e2▸q;cases q⟩
  ·clear b
   have:L≠F.env.locals:=λe=>by have:=(R.apart F.env.locals (.head _)).2.2.1;replace q2:=e▸q2;replace q2:=this▸q2;exact aG q2
   exact ⟨u,(bj this).trans q2,q3⟩
noncomputable def oG(cells:eY):List (Str×NameKind)->eY->eY
 |[],acc=>acc
 |(n,k)::r,acc=>oG cells r (match k== .free with
  |true=>(n,(cells.lookup n).getD 0)::acc
  |false=>acc)
theorem yY(h:∀x∈scope.names,x.2=.free->(env.cells.lookup x.1).isSome=true):closureFor scope env=pure (oG env.cells scope.names []):=by
 have c:∀(l:List (Str×NameKind)) (acc:eY),(∀x∈l,x.2=.free->(env.cells.lookup x.1).isSome=true)->
  (forIn l acc λ(x:Str×NameKind) cs=>if (x.2== .free)=true then (do let a<-cellOf env x.1;pure (ForInStep.yield ((x.1,a)::cs)):Sem (ForInStep eY)) else pure (ForInStep.yield cs))=pure (oG env.cells l acc):=by
  intro l
  induction l with
  |nil=>intro acc _;rfl
  |cons x l d=>
   intro acc h;obtain ⟨n,k⟩:=x;rw [forIn_cons];have f:=λx i=>h x (.tail _ i);by_cases e:k=.free
   ·subst e;obtain ⟨a,b⟩:=ER (h _ (.head _) rfl);have e1:cellOf env n=pure a:=by unfold cellOf;dsimp only at b;rw [b]
    have e2:oG env.cells ((n,.free)::l) acc=oG env.cells l ((n,a)::acc):=by show oG env.cells l ((n,(env.cells.lookup n).getD 0)::acc)=_;dsimp only at b;rw [b];rfl
    rw [e2,<-d _ f];rw [e1];rfl
   ·have g:(k==NameKind.free)=false:=by simpa using e
    have e2:oG env.cells ((n,k)::l) acc=oG env.cells l acc:=by show oG env.cells l (match k== .free with|true=>_|false=>acc)=_;exact g▸rfl
    rw [e2,<-d _ f];rw [g];rfl
 delta closureFor;dsimp only;have:=c scope.names [] h;simp only [bind_pure] at this |-;exact this
theorem AY{cells:eY}{n:Str}{a:Addr}(c:cells.lookup n=some a):∀{l:List (Str×NameKind)} {acc:eY},(acc.lookup n=some a\/(n,NameKind.free)∈l)->(oG cells l acc).lookup n=some a
 |[],acc=>@λh=>h.elim id λh=>nomatch h
 |(m,k)::l,acc=>@λh=>by
  refine AY c (l:=l) ?_;cases d:(k==NameKind.free) with
  |true=>
   by_cases b:n=m
   ·subst b
    refine .inl ?_
    rw [c]
    simp
   ·skip
    rcases h with h|h
    ·left;simp only [lookup_cons,(show (n==m)=false from by simpa using b)];exact h
    ·rcases nV h with e|h
     ·cases e;exact absurd rfl b
     ·exact .inr h
  |false=>
   rcases h with h|h
   ·exact .inl h
   ·rcases nV h with e|h
    ·cases e;cases d
    ·exact .inr h
theorem lg(R:Y1 F g ls S s){it:It}(f:o.isFreed=false)(j:∀g',g.Le g'->rp g' it o){Q:cH}(h:∀g' d a,g.Le g'->Y1 F g' ls (S++[.iter it]) d->g'.cs[S.length]? =some a->Q (.ref a.1) d):Q (.ref s.heap.objs.size) {s with heap:=s.heap.push o}:=
 lf (c:=.iter it) R f (λ_ _ e=>C.noConfusion e) ⟨rfl,o,gZ _ f,j _ (dK g _)⟩ λg' d b L k i _ _=>h g' d b L i k
theorem CD(h:gu S v=some l):v=.tup l\/v=.lst l\/∃k,v=.ref k/\S[k]? =some (.list l):=by
 cases v with
 |tup m=>(replace h:=aw h;subst h);exact .inl rfl
 |lst m=>(replace h:=aw h;subst h);exact .inr (.inl rfl)
 |ref k=>
  refine .inr (.inr ⟨k,rfl,?_⟩);rw [qJ] at h;cases e:S[k]? with
  |none=>rw [e] at h;exact aG h
  |some c=>rw [e] at h;clear e;cases c with
   |list m=>exact bA (λm=>some (C.list m)) (aw h)
   |_=>exact aG h
 |_=>exact aG h
theorem rV(R:Y1 F g ls S s){it:It}(h:JJ v S=some it)(c:RV g v x){Q:cH}(f:∀g' u a,g.Le g'->Y1 F g' ls (S++[.iter it]) u->g'.cs[S.length]? =some a->Q (.ref a.1) u):wpAny (model F.prog F.w) A (pyIter x) Q E s:=by
 unfold JJ at h;refine gl λH j=>?_;(revert h;cases _:Internal.V.fg v;rotate_left;all_goals (intro h;dsimp only at h))
 ·rename_i y B;replace h:=aw h;subst h;refine ar (strAt B c) λt b=>?_;clear c;subst b;refine j ?_;exact wpAny_pyIter_strU (lg (it:=.str y 0) R rfl (λg' L=>⟨_,rfl,rfl⟩) f)
 ·refine ae (au h) λl m e=>?_;clear h;subst e;refine aQ (CD m) (λb=>?_) (λo=>aQ o (λG=>?_) (λd=>ae d λk D C=>?_))
  ·subst b;refine bg c.dy λa vs n d i r=>?_;subst d;refine j ?_;exact wpAny_pyIter_tuple ⟨_,R.cm _ _ i,rfl,_,rfl⟩ (lg (it:=.seq (.tup l) 0) R rfl (λg' L=>⟨_,.tup (L.cm _ _ i) (r.mono L),rfl,rfl⟩) f)
  ·clear o m;subst G;refine bg c.lst_inv λa vs n d i r=>?_;subst d;refine j ?_;exact wpAny_pyIter_list ⟨_,R.cm _ _ i,rfl,_,rfl⟩ (lg (it:=.seq (.lst l) 0) R rfl (λg' L=>⟨_,.lst (L.cm _ _ i) (r.mono L),rfl,rfl⟩) f)
  ·clear d;clear o m;subst D;refine ae c.dw λa b z=>?_;clear c;subst b;refine aq (R.cells _ _ _ z C) λ_ b=>?_;refine bd b λvs n p q=>?_;clear b;refine j ?_;exact wpAny_pyIter_list ⟨_,p,rfl,_,rfl⟩ (lg (it:=.seq (.ref k) 0) R rfl (λg' L=>⟨_,.ref (L.at z),rfl,rfl⟩) f)
theorem CE(R:Y1 F g ls S s){it:It}(q:g.cs[k]? =some a)(p:S[k]? =some (.iter it)){Q:cH}(f:Q (.ref a.1) s):wpAny (model F.prog F.w) A (pyIter (.ref a.1)) Q E s:=by
 refine gl λu j=>?_;refine aq (R.cells k a _ q p) λy m=>?_;refine ae m λo h c=>?_;clear m;clear p;cases it with
 |seq v i=>
  refine bc c λb r d hd=>?_;clear c;refine j ?_;have l:Aq v="tuple_iterator"\/Aq v="list_iterator":=by clear r d;cases v<;>first|exact .inl rfl|exact .inr rfl
  rcases l with e|e<;>rw [e] at d
  ·exact wpAny_pyIter_tupleiter ⟨o,h,d,hd⟩ f
  ·exact wpAny_pyIter_listiter ⟨o,h,d,hd⟩ f
 |str x i=>
  refine ae c λt d hd=>?_;clear c;unfold strIterType at d;split at d
  ·refine j ?_;exact wpAny_pyIter_striter_ascii ⟨o,h,d,hd⟩ f
  ·refine j ?_;exact wpAny_pyIter_striter_wide ⟨o,h,d,hd⟩ f
 |fM x n=>have c:=c;clear c;subst c;refine j ?_;exact wpAny_pyIter_rangeiter h f
theorem rW(R:Y1 F g ls S s){it:It}(j:g.cs[k]? =some a)(e:S[k]? =some (.iter it)):∃o,s.heap.get? a.1=some o/\uS o:=by
 refine aq (R.cells k a _ j e) λm h=>?_;refine ae h λo f c=>?_;clear h;refine ⟨o,f,?_⟩;clear e f;cases it with
 |seq v i=>obtain ⟨b,l,d,hd⟩:=c;exact ⟨_,d,by clear l d;cases v<;>rfl⟩
 |str x i=>obtain ⟨t,d,hd⟩:=c;exact ⟨_,d,by unfold strIterType;split<;>rfl⟩
 |fM x n=>have c:=c;clear c;subst c;exact ⟨_,rfl,rfl⟩
theorem li(b:bE d F A gt cf)(w:F.env.scope.names.lookup (F.aj.getD i Str.empty)=some .local)(h:i<F.aj.length)(R:Y1 F g ls S s)(hv:RV g v x){Q:mE}(e:∀c,Y1 F g (ls.set i (some v)) S c->Q () c):
 wpAny (model F.prog F.w) A (assign (.Name (F.aj.getD i Str.empty) p) F.env x) Q E s:=by
 have hn:=d9 h
 refine ae R.locs λm a f=>?_
 rw [eh,hn,ig] at w |-
 exact wpAny_assign_Name (tA w a (λh' j hs=>e _ (R.store hn w b.ok.nd ⟨a,f⟩ j hs hv _)) (by refine b.ok.kind▸?_;rfl))
theorem tX{vs:bW}(h:Qa l=some vs):∃a b,l=[a,b]/\vs=[some a,some b]:=by
 cases l with
 |nil=>exact aG h
 |cons a l=>cases l with
  |nil=>exact aG h
  |cons b l=>cases l with
   |nil=>exact gb a b rfl (aw h).symm
   |cons _ _=>exact aG h
theorem yZ(m:bE d F A gt cf)(hn:F.aj=I.aj)(c:I.nt=I.Eu)(j:I.nt<=I.aj.length)(p:∀i,i<I.nt->F.env.scope.names.lookup (I.aj.getD i Str.empty)=some .local){vs:bW}(e:us.length=I.nt)(hv:RV g v x)(h:rJ I v=some vs)(R:Y1 F g (us++bt) S s)
 {Q:mE} (B:∀K,Y1 F g (vs++bt) S K->Q () K):wpAny (model F.prog F.w) A (assign I.Mp F.env x) Q E s:=by
 unfold rJ at h
 unfold la.Eu at c
 unfold la.Mp
 cases L:I.tup with
 |none=>
  rw [L] at h c
  (replace h:=aw h;subst h)
  refine gl λC f=>?_
  obtain ⟨u,rfl⟩:∃u,us=[u]:=length_eq_one_iff.mp (e.trans c)
  refine f ?_
  show wpAny _ A (assign (I.name 0) F.env x) Q E s
  unfold la.name
  refine (aS hn)▸?_
  exact li (i:=0) m (by refine hn▸?_;exact p 0 (c6 ‹_›)) (by refine hn▸?_;exact aA (c6 ‹_›) ‹_›) R hv B
 |some P=>
  refine gl λC f=>?_
  obtain ⟨k,q⟩:=P
  rw [L] at h c
  have c:I.nt=2:=c
  refine ae (Y6 h) λl M J=>?_
  clear h;obtain rfl:=V.iv M
  refine bd (tX J) λa b T o=>?_;clear J;clear M;subst T;subst o
  refine f ?_
  obtain ⟨D,H,rfl⟩:∃D H,us=[D,H]:=by
   have e:=e.trans c;clear R;cases us with
   |nil=>cases e
   |cons a r=>cases r with
    |nil=>cases e
    |cons b r=>cases r with
     |nil=>exact iX a b rfl
     |cons=>cases e
  refine gl λC f=>?_
  refine bg hv.dy λt W n o i r=>?_;clear hv;subst o
  refine aP r.cons_inv λy ys e1 O G=>?_
  refine aP G.cons_inv λz zs e2 N r4=>?_
  clear G;obtain rfl:=r4.nil_inv
  subst e2
  refine f ?_
  have hsz:W.size=2:=by (refine (aS g0)▸?_;refine e1▸?_);rfl
  refine c▸?_
  show wpAny _ A (assign (.Tuple [I.name 0,I.name 1] k q) F.env (.ref t)) Q E s
  refine Zl (k9 m.ak.hand R) ⟨_,R.cm _ _ i,rfl,_,rfl⟩ (by refine hsz▸?_;rfl) rfl λh' Y=>?_
  refine e1▸?_
  unfold la.name
  refine (aS hn)▸?_
  refine ax (cR (li m (by refine hn▸?_;exact p 0 (aA (bY _ _) (c6 ‹_›))) (by refine hn▸?_;exact fw (by rw [c];decide) j) (R.grow Y s.toks) O λaL U=>?_))
  exact ax (cR (li (i:=1) m (by refine hn▸?_;exact p 1 (c6 ‹_›)) (by refine hn▸?_;exact aA (c6 ‹_›) ‹_›) U N λZ X=>bn (B Z X)))
theorem FW{l:List PySem.Expr}{f:PySem.Expr->Bool->Sem (ForInStep Bool)}(h:∀c,f c false=pure (.yield false)):forIn l false f=pure false:=by
 induction l with
 |nil=>rfl
 |cons c l a=>rw [forIn_cons,h,pure_bind];exact a
theorem Y7.fF{o:Option α}{f:α->Y5 β}{K:β->List C->Prop}{X:Nat->List C->Prop}(H:Y7 (o.bind f) K X):∃a,o=some a/\Y7 (f a) K X:=by
 cases o with
 |none=>exact H.elim
 |some a=>exact ⟨a,rfl,H⟩
theorem Y7.iJ{x:Y5 α}{f:α->List C->Y5 β}{K:β->List C->Prop}{X:Nat->List C->Prop}(H:Y7 (iJ x f) K X):Y7 x (λv S=>Y7 (f v S) K X) λ_ _=>False:=by
 cases x with
 |none=>exact H
 |some p=>obtain ⟨r,S⟩:=p;cases r<;>exact H
theorem JU{p:Sem Value}{x:List C->Y5 V}{f:V->List C->Y5 β}{K:β->List C->Prop}{X:Nat->List C->Prop}(H:Y7 (cu (x S) f) K X)(e:qw F A ls p x)(R:Y1 F g ls S s)(c:∀k S,X k S->XE F ls g E k S){Q:cH}
 (d:∀a ay,Y7 (f a ay) K X->∀g' b y,g.Le g'->Y1 F g' ls ay b->RV g' a y->Q y b):wpAny (model F.prog F.w) A p Q E s:=e S g s R Q E ((Y7.cu H).mono d c)
theorem tY{f:List C->Y5 V}{P N:Shared->Prop}{K:Option V->List C->Prop}:∀{cs:eS} (ac:fR F A gt cf ls cs) {S:List C} {g:G} {s:Shared},Y1 F g ls S s->Y7 (p9 cf ls gt f cs S) K (λ_ _=>False)->
 (∀ay,Y7 (cu (f ay) (λv S=>some ((.ok (some v):Rs (Option V)),S))) K (λ_ _=>False)->∀g' a,g.Le g'->Y1 F g' ls ay a->P a)->(∀ay,K none ay->∀g' a,g.Le g'->Y1 F g' ls ay a->N a)->
 wpAny (model F.prog F.w) A (forIn (cg F.aj gt cs) true λc r=>if r=true then do let i<-isTrue c F.env (eval c F.env);pure (ForInStep.yield i) else pure (ForInStep.yield r)) (λi m=>if i=true then P m else N m) (λ_ _=>False) s
 |.nil=>@λ_ S g s R H j d=>bn (by refine (bx rfl)▸?_;exact j S H g s (.refl g) R)
 |.cons e r=>@λac S g s R H j d=>by
  show wpAny _ A (forIn (Y3 F.aj gt e::cg F.aj gt r) true _) _ _ s;rw [forIn_cons];refine ax ?_;refine (bx rfl)▸?_;refine ax (ac.1.t S g s R _ _ ((Y7.cu H).mono (λv ay H=>let ⟨b,e,H⟩:=Cu (f:=λc=>match c with|true=>p9 cf ls gt f r ay|false=>some (.ok none,ay)) H;.mk e λp o L n=>bn ?_) λ_ _ h=>h.elim));cases b with
  |true=>exact tY ac.2 n H (λaK H g' a l k=>j aK H g' a (L.trans l) k) λaK H g' a l k=>d aK H g' a (L.trans l) k
  |false=>
   show wpAny _ A (forIn (cg F.aj gt r) false _) _ _ o
   rw [FW (λc=>by rfl)]
   exact bn (by refine (bj j2)▸?_;exact d ay H p o L n)
theorem CG(B:bE d F A gt cf)(w:(match I.fM with|none=>true|some _=>iz F.env.scope "range")=true)(is:SE F A gt cf ls src){f:It->List C->Y5 α}{K:α->List C->Prop}(R:Y1 F g ls S s){Q:cH}
 (H:Y7 (cu (ev cf ls gt src S) (λv S=>match qu I v S with|none=>none|some it=>f it S)) K (XE F ls g E))
 (z:∀it ay,Y7 (f it ay) K (XE F ls g E)->∀g' i a,g.Le g'->Y1 F g' ls (ay++[.iter it]) i->g'.cs[ay.length]? =some a->Q (.ref a.1) i):
 wpAny (model F.prog F.w) A (eval (I.src (Y3 F.aj gt src)) F.env) (λx N=>wpAny (model F.prog F.w) A (pyIter x) Q E N) E s:=by
 have b:∀{v:V} {ay:List C},Y7 (match qu I v ay with|Option.none=>Option.none|some it=>f it ay) K (XE F ls g E)->∃it,qu I v ay=some it/\Y7 (f it ay) K (XE F ls g E):=λ{v ay} H=>by
  cases e:qu I v ay with
  |none=>replace H:=e▸H;exact H.elim
  |some it=>replace H:=e▸H;exact ⟨it,rfl,H⟩
 unfold qu at b
 unfold la.src
 cases l:I.fM with
 |none=>
  rw [l] at b
  refine JU H is.v R (λ_ _ h=>h) λv ay H g' i x L r k=>?_
  unfold qu at H
  replace H:=l▸H
  refine gl λD q=>?_
  refine ae (b H) λit c H=>?_
  refine q ?_
  exact rV r c k λp u a o M y=>z it ay H p u a (L.trans o) M y
 |some P=>
  rw [l] at w b
  refine rb (rT B w B.ok.top.FH (by decide) R ?_)
  rw [kI]
  refine tB (JU H is.v R (λ_ _ h=>h) λv ay H g' i x L r k=>?_)
  unfold qu at H
  replace H:=l▸H
  refine gl λD q=>?_
  refine ae (b H) λit c H=>?_
  refine ae (Y6 c) λn O j=>?_
  clear c;obtain rfl:=V.gR O
  refine aq (bM j) λm j=>?_
  (replace j:=aw j;subst j)
  have m:=f9 m
  refine ar k.int_inv λt J=>?_;clear k;subst J
  refine q ?_
  refine PySem.call_range_1 (wpAny_pyIter_range (IsRange.new ..) (small_one (by decide) (by decide) (pJ m) (Int.lt_trans (And.right ‹_›) (by decide))) ?_)
  have e:Builtin.Range.rangeSize 0 n 1=n:=by rw [rangeSize_one];split<;>(first|exact Int.sub_zero _|exact Int.le_antisymm m.1 (Int.not_lt.mp ‹_›))
  rw [e]
  exact lg (it:=.fM 0 n) (r.push {cls:=.type "range",data:=.fields #[.int 0 i.toks,.int n t,.int 1 (i.toks+1)]} (i.toks+1+1)) rfl (λg' L=>rfl) λp u a o G y=>z _ ay H p u a (L.trans o) G y
structure FX (F:Fx) (I:la):Prop where
 fM:(match I.fM with|Option.none=>true|some _=>iz F.env.scope "range")=true
 nt:I.nt=I.Eu
 len:I.aj.length=I.nt+I.ky.length
 kind:I.scope.kind=.function
 cell:∀y∈I.scope.names,y.2≠ .cell
 loc:∀y∈I.scope.names,y.2=.local->I.scope.names.lookup y.1=some .local
 free:∀y∈I.scope.names,y.2=.free->y.1∈I.aj.drop I.nt
 Qj:∀i,i<I.nt->I.scope.names.lookup (I.aj.getD i Str.empty)=some .local
 Qk:∀(i j:Nat),I.ky[i]? =some j->j<F.aj.length/\F.aj.getD j Str.empty=I.aj.getD (I.nt+i) Str.empty/\F.env.scope.names.lookup (F.aj.getD j Str.empty)=some .cell/\I.scope.names.lookup (F.aj.getD j Str.empty)=some .free
 fn:I.ky≠ []->F.env.scope.kind=.function
theorem y6(w:I7 F.env.scope F.aj I=true):FX F I:=by
 simp -iota only [I7,dD] at w;refine gl λD C=>?_;refine pP w λB f s x v=>?_;clear w;refine ck f λm H G=>?_;clear f;refine aq m λA g=>?_;clear m;refine aq s λq l=>?_;clear s;refine aq q λz E=>?_;clear q;have g:=c5 g;have p:∀(i j:Nat),I.ky[i]? =some j->Nat.blt j F.aj.length=true/\(F.aj.getD j Str.empty=I.aj.getD (I.nt+i) Str.empty/\F.env.scope.kind=.function)/\F.env.scope.names.lookup (F.aj.getD j Str.empty)=some .cell/\I.scope.names.lookup (F.aj.getD j Str.empty)=some .free:=λi j h=>by have:=List.all_eq_true.mp v i (mem_range.mpr (fx h));rw [h] at this;simpa only [dD,j6] using this
 refine C ?_;refine ⟨B,(c5 A),g,eq_of_beq z,λy d=>?_,λy d e=>?_,λy d e=>?_,λi o=>?_,λi j h=>?_,λk=>?_⟩
 ·have:=List.all_eq_true.mp l y d;simp only [dD,bne_iff_ne] at this;exact this.1.1
 ·have:=List.all_eq_true.mp l y d;simp only [dD,lJ,bne_iff_ne,j6] at this;exact this.1.2.resolve_left λh=>h e
 ·have:=List.all_eq_true.mp l y d;simp only [dD,lJ,bne_iff_ne] at this;exact contains_iff_mem.mp (this.2.resolve_left λh=>h e)
 ·have n:i<I.aj.length:=by exact pU g o
  have u:I.aj[i]∈I.aj.take I.nt:=mem_take_iff_getElem.mpr ⟨i,by exact Nat.lt_min.mpr ⟨o,n⟩,rfl⟩;have:=List.all_eq_true.mp x _ u;rw [eh,d9 n,ig];exact eq_of_beq this
 ·refine ck (p i j h) λa f c=>?_;refine aq f λb _=>?_;clear f;exact ⟨blt_eq.mp a,b,c⟩
 ·cases t:I.ky with
  |nil=>exact absurd t k
  |cons j r=>exact (p 0 j (by rw [t];rfl)).2.1.2
theorem qd(h:gF I ls=some bt):bt=I.ky.map (λj=>ls[j]?.bind id)/\∀(i j:Nat),I.ky[i]? =some j->∃v,ls[j]? =some (some v)/\bt[i]? =some (some v):=by
 unfold gF at h;refine gl λd b=>?_;refine aq (bM h) λc h=>?_;replace h:=aw h;subst h;refine b ?_;refine ⟨rfl,λi j a=>?_⟩;refine ar (ER (List.all_eq_true.mp c j (dP a))) λv hv=>?_;refine ⟨v,?_,by (refine (hZ)▸?_;refine a▸?_);exact bA some hv⟩;cases q:ls[j]? with
 |none=>replace hv:=q▸hv;exact aG hv
 |some o=>replace hv:=q▸hv;exact bA some hv
theorem FY(w:FX F I)(t:gF I ls=some bt)(R:Y1 F g ls S s):∀(i j:Nat),I.ky[i]? =some j->∃v a,ls[j]? =some (some v)/\bt[i]? =some (some v)/\F.env.cells.lookup (I.aj.getD (I.nt+i) Str.empty)=some a/\RV g v (.ref a):=by
 intro i j h;refine gl λu q=>?_;refine ae ((qd t).2 i j h) λv k p=>?_;refine eu (w.Qk i j h) λc f d y=>?_;refine ae R.locs λm l n=>?_;refine ae (n j F.aj[j] v (d9 c) k) λx b hv=>?_;have e:F.aj.getD j Str.empty=F.aj[j]:=by (refine (eh)▸?_;refine (d9 c)▸?_;exact ig▸rfl)
 rw [e] at f d;replace b:=(lc d)▸b;refine ae (au b) λa r o=>?_;clear b;subst o;refine q ?_;exact lP v a k p (by refine (aS f)▸?_;exact r) hv
theorem FZ(I:la)(aj:List Str)(gt:eY)(e:Ex)(env:Env)(x:Value):foldedSetIterable (I.src (Y3 aj gt e)) env x=pure x:=by
 unfold la.src;cases I.fM with
 |some=>rfl
 |none=>cases e<;>first|rfl|(rename_i k _ _ _ _;cases k<;>rfl)
theorem Zp{f:Str->NameKind->NameKind}{x:Str}{l:List (Str×NameKind)}{k:NameKind}(h:l.lookup x=some k):(l.map λ(n,k)=>(n,f n k)).lookup x=some (f x k):=by
 induction l with
 |nil=>exact aG h
 |cons p l a=>
  obtain ⟨n,b⟩:=p;rw [lookup_cons] at h;rw [gg,lookup_cons];cases e:x==n with
  |true=>rw [e] at h;clear a;obtain rfl:=aw h;exact (eq_of_beq e)▸rfl
  |false=>rw [e] at h;exact a h
theorem tZ{n:Str}{k:NameKind}(h:I.scope.names.lookup n=some k):(mn sc I).names.lookup n=some (if (k==NameKind.free&&sc.kind==ScopeKind.function&&sc.names.lookup n==some NameKind.cell) then NameKind.cell else k):=by
 have e:(mn sc I).names=I.scope.names.map λ(n,k)=>(n,if (k==NameKind.free&&sc.kind==ScopeKind.function&&sc.names.lookup n==some NameKind.cell) then NameKind.cell else k):=by refine map_congr_left λ⟨n,k⟩ _=>?_;dsimp only;split<;>rfl
 rw [e,Zp (f:=λn k=>if (k==NameKind.free&&sc.kind==ScopeKind.function&&sc.names.lookup n==some NameKind.cell) then NameKind.cell else k) h]
theorem CH{n:Str}(c:sc.kind=.function)(a:sc.names.lookup n=some .cell)(b:I.scope.names.lookup n=some .free):(mn sc I).names.lookup n=some .cell:=by rw [tZ b,c,a];rfl
theorem rX{n:Str}(a:I.scope.names.lookup n=some .local):(mn sc I).names.lookup n=some .local:=by rw [tZ a];rfl
theorem ua(L:bE d F A gt cf)(w:I7 F.env.scope F.aj I=true)(z:gF I ls=some bt)(R:Y1 F g ls S s)(D:s.heap.get? F.env.locals=some oL){Q:Env->Shared->Prop}
 (G:∀env t,env.scope=mn F.env.scope I->env.locals=s.heap.objs.size->Y1 (F.inner oL env I.aj) g (replicate I.nt none++bt) S t->bE d (F.inner oL env I.aj) A gt cf->(∀b o,s.heap.get? b=some o->t.heap.get? b=some o)->Q env t):
 wpAny (model F.prog F.w) A (newFunctionEnv I.scope F.env.globals (oG F.env.cells I.scope.names []) [] F.env.qual none .none (some F.env)) (λK O=>Q {K with scope:=relabel I.scope F.env} O) E s:=by
 have k:=y6 w
 refine wpAny_newFunctionEnv k.cell (by intro y H;cases H) (λT m u=>?_) k.kind
 have C:=R.enter (ls₀:=replicate I.nt Option.none++bt) (aj:=I.aj) (env:={newEnv I.scope s.heap.objs.size F.env.globals (oG F.env.cells I.scope.names []) F.env.qual none Value.none (some F.env) 0 with scope:=relabel I.scope F.env}) (nc:=[]) (nS:=[]) D rfl m
  (λb o e=>u.extBut b o (cc (cI e)) (eZ _ e)) (λc h=>nomatch h) .nil rfl (λc h=>nomatch h) (λi c x h=>by exact aG h) (λi n v N f=>?_) (s.toks+0)
 ·simp only [map_nil,dA] at C
  exact G _ _ rfl rfl C.JS (L.inner R D w rfl rfl rfl) λb o e=>u.extBut b o (cc (cI e)) (eZ _ e)
 ·refine gl λJ r=>?_
  refine aQ (Nat.lt_or_ge i I.nt) (λp=>?_) (λp=>?_)
  ·rw [fb (by simpa using p)] at f
   have:=dP f
   rw [mem_replicate] at this
   cases this.2
  ·rw [eO (by simpa using p),length_replicate] at f
   have j:i - I.nt<I.ky.length:=by
    have:=(fx f)
    rw [((qd z).1),dG] at this;exact this
   refine gL ((FY k z R) (i - I.nt) I.ky[i - I.nt] (d9 j)) λU a q1 q2 q3 q4=>?_
   refine r ?_
   replace f:=q2▸f;clear q1 q2;cases f
   have e:I.aj.getD (I.nt+(i - I.nt)) Str.empty=n:=by rw [show I.nt+(i - I.nt)=i by exact add_sub_of_le ‹_›,eh,N];rfl
   replace q3:=e▸q3
   refine gl λJ r=>?_
   refine eu (k.Qk (i - I.nt) I.ky[i - I.nt] (d9 j)) λP M B q=>?_
   rw [M,e] at B q
   refine r ?_
   refine ⟨.ref a,?_,by simpa using q4⟩
   rw [lc (CH (k.fn (by intro e;replace j:=e▸j;cases j)) B q)]
   have:=AY q3 (l:=I.scope.names) (acc:=[]) (.inr ?_)
   ·exact bA (Option.map Value.ref) this
   ·exact mem_of_lookup q
structure y7 (F:Fx) (g:G) (S:List C) (a:Addr) (h:Heap):Prop where
 free:mP F g a
 off:a∉F.env.locals::g.cs.flatMap Y4
 tb:∃ts,iG F g S h ts/\some a∉ts
theorem y7.rel{a:Addr}(J:y7 F g S a s.heap)(R:Y1 F g ls S s)(hs:Heap.SameBut a s.heap h'):Y1 F g ls S {s with heap:=h'}:=R.Qi J.free J.off J.tb (λb o c e=>hs.extBut b o c e) s.toks
theorem rY(c:Y1 F Jh ls PQ ym)(u:ym.heap.get? F.env.locals=some oL)(L:Jh.Le g)(R:Y1 (F.inner oL env aj) g ls₀ S s):
 Y1 F g ls S s/\y7 F g S env.locals s.heap/\∃m,s.heap.Ns env.locals m:=by
 refine gl λn f=>?_
 refine ae R.locs λm d _=>?_
 refine eu (R.apart env.locals (.head _)) λp1 p2 p3 p4=>?_
 have j:F.env.locals≠env.locals:=λe=>by have:(if env.locals=F.env.locals then some oL else F.FP env.locals)=none:=p3;rw [bx e.symm] at this;exact aG (aS this)
 have v:F.FP env.locals=none:=by have:(if env.locals=F.env.locals then some oL else F.FP env.locals)=none:=p3;rw [bj (cy j)] at this;exact this
 refine f ?_
 refine ⟨((c.leave u L R.JT).1),⟨⟨p1,p2,v,p4⟩,λa=>?_,?_⟩,m,d⟩
 ·refine aQ (nV a) (λe=>?_) (λa=>?_)
  ·exact j e.symm
  ·exact (yf R.nodup) a
 ·refine ar R.tb λts T=>?_
  refine ⟨ts,⟨T.len,T.one,λy l=>?_,T.nd⟩,λh=>(T.obj _ h).2.1 (.head _)⟩
  refine gl λn f=>?_
  refine lO (T.obj y l) λi r p t b q=>?_;refine bd i λo w q1 q2=>?_;clear i
  have b:(if y=F.env.locals then some oL else F.FP y)=Option.none:=b
  refine f ?_
  have k:y≠F.env.locals:=λe=>by rw [bx e] at b;exact aG (aS b)
  rw [bj k] at b
  refine ⟨⟨o,w,q1,q2⟩,λa=>?_,p,t,b,q⟩
  refine aQ (nV a) (λe=>?_) (λa=>?_)
  ·exact k e
  ·exact r (.tail _ a)
theorem CI(a:Y1 F Jh ls PQ ym)(d:ym.heap.get? F.env.locals=some oL)(L:Jh.Le g)(R:Y1 (F.inner oL env aj) g ls₀ S s):
 ∃m,s.heap.Ns env.locals m/\∀h',Heap.SameBut env.locals s.heap h'->Y1 F g ls S {s with heap:=h'}:=
 let ⟨c,J,m,b⟩:=rY a d L R
 ⟨m,b,λh' hs=>J.rel c hs⟩
theorem C.wJ{c:C}{i:It}(h:c.nb=some i):c=.iter i:=by cases c<;>first|exact bA _ (aw h)|exact aG h
theorem CJ(h:I.nt=I.Eu){vs:bW}(c:rJ I v=some vs):vs.length=I.nt:=by
 refine h▸?_;unfold rJ at c;unfold la.Eu;cases e:I.tup with
 |none=>replace c:=e▸c;(replace c:=aw c;subst c);rfl
 |some g=>
  replace c:=e▸c;refine ae (Y6 c) λl _ d=>?_;refine bd (tX d) λa b _ f=>?_;clear c d;subst f;rfl
theorem AZ(d:FX F I)(k:gF I ls=some bt)(R:Y1 F g ls S s):closureFor I.scope F.env=pure (oG F.env.cells I.scope.names []):=yY λy h e=>by refine gl λl j=>?_;obtain ⟨i,f,c⟩:=getElem_of_mem (d.free y h e);replace c:=getElem_drop▸c;have b:=d.len;replace f:=length_drop▸f;refine gL (FY d k R i I.ky[i] (d9 (pV b f))) λv a _ _ q3 _=>?_;rw [eh,d9 (add_lt_of_lt_sub' ‹i<I.aj.length - I.nt›),ig,c] at q3;refine j ?_;refine q3▸?_;rfl
noncomputable def KC(F:Fx)(ls:bW)(g:G)(P:Value->Addr->Shared->Prop)(v:V)(S':List C):Prop:=∀g' s' x c,g.Le g'->Y1 F g' ls S' s'->y7 F g' S' c s'.heap->(∃m,s'.heap.Ns c m)->RV g' v x->P x c s'
structure JV (F':Fx) (bo:G) (bt:bW) (nt:Nat) (o:List C->Y5 V) (K:V->List C->Prop) (X:Nat->List C->Prop) (g':G) (us:bW) (uU:List C) (s:Shared):Prop where
 len:us.length=nt
 le:bo.Le g'
 rel:Y1 F' g' (us++bt) uU s
 run:Y7 (o uU) K X
theorem F0{a:Nat}{b:Addr×Option Addr}(R:Y1 F g ls S s)(j:g.cs[a]? =some b)(i:S[a]? =some (.list l))(hs:ble l.length 65536=true)(h:RV g v x){Q:cH}(e:∀g' c,g.Le g'->Y1 F g' ls (S.set a (.list (l++[v]))) c->Q .none c):wpAny (model F.prog F.w) A (call (.builtin "list.append") [.ref b.1,x]) Q E s:=by
 refine rE (m:=.append) R ?_ (.ref j) (.cons h .nil) λg' c z d f k=>by refine k.none_inv▸?_;exact e g' c d f
 show ((gc (.ref a) _).bind _)=_;rw [show gc (.ref a) S=some (a,l) by delta gc V.eJ;rw [bq,i];rfl];show (match ble l.length 65536 with|true=>_|false=>_)=_;exact hs▸rfl
noncomputable abbrev y8(A:Around)(gt:eY)(cf:CF)(S:List C)(s:Shared)(F:Fx)(elt:Ex)(cs:eS)(I:la)(bt:bW)(us:bW)(k:Nat)(n:Nat)(a:Addr×Option Addr)(b:Addr×Option Addr)(bo:G)(K:V->List C->Prop)(X:Nat->List C->Prop)(P:Result->Shared->Prop):Prop:=wpAny (model F.prog F.w) A (pyNext (.ref a.1)) (λr aL=>match r with|none=>P (.ok .next) aL|some v=>wpAny (model F.prog F.w) A (letOwnedTupleGo I.Mp (.ref a.1) v) (λ_ aL=>wpAny (model F.prog F.w) A (assign I.Mp F.env v) (λ_ aN=>wpAny (model F.prog F.w) A (forIn (cg F.aj gt cs) true λc r=>if r=true then do let ok<-isTrue c F.env (eval c F.env);pure (ForInStep.yield ok) else pure (ForInStep.yield r)) (λok cU=>if ok=true then wpAny (model F.prog F.w) A (eval (Y3 F.aj gt elt) F.env) (λx cL=>wpAny (model F.prog F.w) A (call (.builtin "list.append") [.ref b.1,x]) (λ_ lC=>∃m,m<n/\∃g' us uU,JV F bo bt I.nt (fj I bt (λbr S=>p9 cf br gt (λS=>ev cf br gt elt S) cs S) k m) K X g' us uU lC) (λ_ _=>False) cL) (λ_ _=>False) cU else∃m,m<n/\∃g' us uU,JV F bo bt I.nt (fj I bt (λbr S=>p9 cf br gt (λS=>ev cf br gt elt S) cs S) k m) K X g' us uU cU) (λ_ _=>False) aN) (λ_ _=>False) aL) (λ_ _=>False) aL) (λ_ _=>False) s
theorem CK(E:bE d F A gt cf){cs:eS}(hn:F.aj=I.aj)(M:I.nt=I.Eu)(m:I.nt<=I.aj.length)(y5:∀i,i<I.nt->F.env.scope.names.lookup (I.aj.getD i Str.empty)=some .local)(ie:∀br,SE F A gt cf br elt)(Y:∀br,fR F A gt cf br cs){b:Addr×Option Addr}{K:V->List C->Prop}{X:Nat->List C->Prop}(N:bo.cs[k]? =some a)(hb:bo.cs[k+1]? =some b)(J:JV F bo bt I.nt (fj I bt (λbr S=>p9 cf br gt (λS=>ev cf br gt elt S) cs S) k n) K X g us S s)(P:Result->Shared->Prop)(j:∀g' S' w,bo.Le g'->Y1 F g' (us++bt) S' w->K (.ref (k+1)) S'->P (.ok .next) w):y8 A gt cf S s F elt cs I bt us k n a b bo K X P:=by
 refine gl λQ p=>?_;obtain ⟨R,f,T,H⟩:=J;cases n with
 |zero=>refine p ?_
        exact H.elim
 |succ n=>
  refine ae (Y7.fF H) λit' u H=>?_;refine ae (Y6 u) λc z u=>?_;obtain rfl:=C.wJ u;refine ae (Y7.fF H) λr D H=>?_;refine p ?_;refine rB E.ak.hand T (f.at N) z D (λv Wy e r8 y o O=>?_) (λe r8 o=>by subst e;exact j _ _ _ f o H);clear D;subst e;refine ae (Y7.fF H) λvs x H=>?_;refine ae (rW o (f.at N) (by rw [jP (fx z)])) λoi Wz Z=>?_;refine uT Wz Z (yZ E hn M m y5 R O x o λQm W=>?_);have hv:=CJ M x;refine tY (Y _) W (Y7.iJ H) (λL H G NT q t=>?_) (λL H G NT q t=>⟨n,lL n,G,vs,L,hv,f.trans q,t,H⟩);refine JU H (ie _).v t (λ_ _ h=>h.elim) λv' WA H WB WC x' B U Mk=>?_;refine gl λQ p=>?_;refine ae (Y7.fF H) λl WD H=>?_;refine ae (Y6 WD) λc WE WF=>?_;obtain rfl:=C.mT WF;refine aq (NM H) λWG H=>?_;refine p ?_;exact F0 U (B.at (q.at (f.at hb))) WE WG Mk λg' w L' R'=>⟨n,lL n,g',vs,_,hv,((f.trans q).trans B).trans L',R',H⟩
theorem ub(D:bE d F A gt cf){cs:eS}(w:I7 F.env.scope F.aj I=true)(is:SE F A gt cf ls src)
 (Z:∀(f:Fx) br,bE d f A gt cf->f.env.scope=mn F.env.scope I->f.aj=I.aj->SE f A gt cf br elt)
 (X:∀(f:Fx) br,bE d f A gt cf->f.env.scope=mn F.env.scope I->f.aj=I.aj->fR f A gt cf br cs) {e:Option (Value->Sem Unit)} {Q:cH} (R:Y1 F g ls S s)
 (H:Y7 (ev cf ls gt (.comp elt src cs I p) S) (KC F ls g λx c O=>compPost (model F.prog F.w) A E e Q x c (.ok .next) O) (XE F ls g E)):
 wpAny (model F.prog F.w) A (comprehension (.ListComp (Y3 I.aj gt elt) [⟨I.Mp,I.src (Y3 F.aj gt src),cg I.aj gt cs,0⟩] I.scope p) I.scope F.env (I.src (Y3 F.aj gt src)).pos (newList []) false (eval (I.src (Y3 F.aj gt src)) F.env) e) Q E s:=by
 have h:=y6 w
 refine ae (Y7.fF H) λbt z H=>?_
 refine wpAny_comprehension_free rfl (λx=>FZ ..) (AZ h z R) h.kind h.loc (CG D h.fM is R H λit ay H aW aN a U aR l=>?_)
 refine kG aR .nil rfl λj cU x T o u=>?_
 refine ae u.dw λb Y k=>?_;clear u;subst Y
 refine gl λGz kz=>?_
 refine iW o.m8 λB _ _ K _=>?_
 have k:j.cs[ay.length+1]? =some b:=by simpa using k
 have l:=T.at l
 refine kz ?_
 refine ua (Q:=λenv P=>codeAny (model F.prog F.w) A (.compStart (.ListComp (Y3 I.aj gt elt) [⟨I.Mp,I.src (Y3 F.aj gt src),cg I.aj gt cs,0⟩] I.scope p) 0 (.ref a.1) (.ref b.1) env) (compPost (model F.prog F.w) A E e Q (.ref b.1) env.locals) P) D w z o K λenv P hs y5 r t _=>?_
 rw [show ay++[C.iter it]++[C.list []]=ay++[.iter it,.list []] by simp] at r
 have G:=tW (prog:=F.prog) (w:=F.w) (elt:=Y3 I.aj gt elt) (iter:=I.src (Y3 F.aj gt src)) (ifs:=cg I.aj gt cs) (scope:=I.scope) (pos:=p) (env:=env) (R:=compPost (model F.prog F.w) A E e Q (.ref b.1) env.locals)
  (λn s=>∃v y M,JV (F.inner B env I.aj) j bt I.nt (fj I bt (λbr S=>p9 cf br gt (λS=>ev cf br gt elt S) cs S) ay.length n) _ _ v y M s)
  (λn s ⟨Ga,y,M,J⟩=>CK t rfl h.nt (by have:=h.len;exact this▸bY _ _) (λi V=>by show env.scope.names.lookup _=_;refine hs▸?_;exact rX (h.Qj i V)) (λbr=>Z _ br t hs rfl) (λbr=>X _ br t hs rfl) l k J _ λv S' O L W H=>
    let ⟨RL,J,m,q⟩:=rY o K L W
    H _ _ _ _ ((U.trans T).trans L) RL J ⟨m,q⟩ (.ref (L.at k))) cf.N ⟨j,_,_,length_replicate,.refl j,r,H⟩
 exact codeAny_compStart_list G (CE (F:=F.inner B env I.aj) (it:=it) r l (by simp) G)
theorem CL(j:bE d F A gt cf){cs:eS}(w:I7 F.env.scope F.aj I=true)(is:SE F A gt cf ls src)
 (i:∀(a:Fx) br,bE d a A gt cf->a.env.scope=mn F.env.scope I->a.aj=I.aj->SE a A gt cf br elt)
 (f:∀(a:Fx) br,bE d a A gt cf->a.env.scope=mn F.env.scope I->a.aj=I.aj->fR a A gt cf br cs):SE F A gt cf ls (.comp elt src cs I p):=by
 refine .plain (λ_=>rfl) λS g s R Q E H=>?_
 show wpAny _ A (eval (.ListComp (Y3 I.aj gt elt) [⟨I.Mp,I.src (Y3 F.aj gt src),cg I.aj gt cs,0⟩] I.scope p) F.env) Q E s
 rw [eval_ListComp]
 exact ub j w is i f R (Y7.mono H (λv S' H l n x c L k J ⟨m,e⟩ b=>⟨m,e,λh' hs=>H _ _ _ L (J.rel k hs) b⟩) λ_ _ h=>h)
theorem CM{x:Y5 V}(h:NF x=some v):∃S,x=some (.ok v,S):=by
 cases x with
 |none=>exact aG h
 |some r=>
  obtain ⟨r,S⟩:=r;cases r with
  |ok w=>exact ⟨S,(aw h)▸rfl⟩
  |exc _=>exact aG h
theorem A0{aj}(h:rO e=true)(n:Str)(p:Pos)(env:Env):eval ((Y3 aj gt e).Attribute n p) env=(do
 let o<-eval (Y3 aj gt e) env
 standAt p.atName
 let r<-holding [o] (getAttr o n true)
 letTemporaryGo (Y3 aj gt e) o r
 pure r):=by
 cases e<;>first|rfl|(rename_i k _ _ _ _;clear h;cases k<;>rfl)|exact eI h
theorem uV(f:bE d F A gt cf)(R:Y1 F g ls S s){a:V}{n:Str}(e:fE a n S=some v)(m:RV g a x){Q:cH}(l:∀z,RV g v z->Q z {s with toks:=s.toks+1}):wpAny (model F.prog F.w) A (getAttr x n expr) Q E s:=by
 refine gl λy r=>?_;cases a with
 |ref k=>
  rw [rI] at e;cases h:S[k]? with
  |none=>rw [h] at e;exact aG e
  |some c=>
   rw [h] at e;dsimp only at e;cases i:mi c with
   |none=>rw [i] at e;exact aG e
   |some p=>
    obtain ⟨C,ks,vs⟩:=p;rw [i] at e;skip;refine aq (bM e) λo q=>?_;refine ae m.dw λb u t=>?_;clear m e;subst u;rcases Nat.decEq C bL with j|rfl
    ·refine r ?_;exact BY (f.ok.top.tR.keeps R.base) R t h i (f.ok.top.attr _ _ o j) q l
    ·refine r ?_;exact EY (f.ok.top.tR.keeps R.base) (f.ok.top.tS.keeps R.base) R t h i (f.ok.top.JN _ o) q l
 |_=>exact aG e
class inductive Qv (ls:bW) (S:List C):Ex->V->Prop
 |loc {i:Nat} {p:Pos} {v:V} (h:ls[i]?.bind id=some v):Qv ls S (.loc i p) v
 |fC {i k:Nat} {p:Pos} {v:V} (h:ls[i]?.bind id=some (.ref k)) (h1:S[k]? =some (.var (some v))):Qv ls S (.fC i p) v
 |idx {a b:Ex} {p:Pos} {k:Nat} {t:Str} {ks:List Str} {vs:List V} {v:V} (ha:Qv ls S a (.ref k)) (hb:Qv ls S b (.str t)) (h:S[k]? =some (.dict ks vs)) (h1:fieldOf ks vs t=some v):Qv ls S (.idx a b p) v
 |attr {e:Ex} {n:Str} {p:Pos} {x v:V} (he:Qv ls S e x) (h:fE x n S=some v):Qv ls S (.attr e n p) v
 |tup {a b:Ex} {k:Nat} {p:Pos} {x y:V} (ha:Qv ls S a x) (hb:Qv ls S b y):Qv ls S (.tup (.cons a (.cons b .nil)) k p) (.tup [x,y])
theorem mq(e:Ex){v:V}(h:s0 ls S e=some v):Qv ls S e v:=by
 cases e with
 |loc i p=>exact .loc h
 |fC i p=>
  refine ar (CM h) λS' h=>?_;refine gL (Cw h) λk w u d e j=>?_;subst j;cases e;exact .fC u d
 |idx a b p=>
  refine ae (Y6 (h)) λx d h=>?_;refine ae (Y6 h) λy f h=>?_;refine ae (Y6 h) λt s h=>?_;refine ae (Y6 h) λk q h=>?_;refine ae (Y6 h) λl r o=>?_;obtain ⟨ks,vs⟩:=l;refine ae (Y6 r) λc m g=>?_;obtain rfl:=V.gp s;obtain rfl:=V.gS q;obtain rfl:=C.mU g;exact .idx (mq a d) (mq b f) m o
 |attr e n p=>
  refine ae (Y6 (h)) λx d h=>?_;exact .attr (mq e d) h
 |tup es k p=>
  cases es with
  |nil=>exact aG h
  |cons a es=>cases es with
   |nil=>exact aG h
   |cons b es=>cases es with
    |cons=>exact aG h
    |nil=>
     refine ae (Y6 (h)) λx d h=>?_
     refine ae (au h) λy f e=>?_
     subst e
     exact .tup (mq a d) (mq b f)
 |_=>exact aG h
theorem Qv.sound(D:bE d F A gt cf)(h:Qv ls S e v)(w:gN F.env.scope F.aj gt e=true)(R:Y1 F g ls S s){Q:cH}(m:∀g' H x,g.Le g'->Y1 F g' ls S H->Kept s.heap H.heap->RV g' v x->Q x H):
 wpAny (model F.prog F.w) A (eval (Y3 F.aj gt e) F.env) Q E s:=by
 induction h generalizing g s Q with
 |loc h=>exact qa D w h R λx t=>m g s x (.refl g) R (λ_ _ e=>e) t
 |fC h X=>exact Mu D w h X R λx t=>m g s x (.refl g) R (λ_ _ e=>e) t
 | @idx a b _ _ _ _ _ _ _ _ M V C y=>
   refine Subscript_ (C (aV w) R λI N B p l k₁ j=>y (aH w) l λK J L q i f r=>?_)
   refine ae ((j.mono q).dw) λc k O=>?_;clear j;subst k
   refine ar r.str_inv λZ k=>?_;clear r;subst k
   refine gl λY W=>?_
   refine aq (i.cells _ _ _ O M) λ_ k=>?_;refine bg k λo es n T U _=>?_;clear k
   refine W ?_
   exact tail_any ⟨o,T,U.1⟩ slot_dict_getitem.lookup (wk i O M V λz u=>m _ _ _ (p.trans q) (i.toks _) (λb o e=>f b o (k₁ b o e)) u) (kH F.aj gt b _ _)
 |attr _ h P=>exact Attribute_any_ (P (aH w) R λI N B p l k₁ j=>uV D l h j λz u=>m I _ z p (l.toks _) k₁ u) (A0 (aV w) _ _ _)
 | @tup a b _ _ _ _ _ _ C y=>
   refine Tuple_ ?_
   rw [eL]
   refine (Seq.spliced (?_:Seq F A gt (.cons a (.cons b .nil)) _ E s))
   refine C (aV w) R λI N B p l k₁ j=>y (aV (aH w)) l λK J L q i f r=>?_
   exact jQ (m (K.dn J.heap.objs.size {cls:=.type "tuple",data:=.seq [B,L].toArray}) _ _ ((p.trans q).trans (i.bR _)) (i.mQ _ rfl J.toks) (λb o e=>eZ _ (f b o (k₁ b o e))) (.tup (by simp [G.dn];rfl) (.cons ((j.mono q).mono (i.bR _)) (.cons (r.mono (i.bR _)) .nil)))) (by show 2<=2 ^ 24;decide)
theorem kJ{l m:List α}{x:α}(h:l[k]? =some x):(l++m)[k]? =some x:=by rw [fb (List.getElem?_eq_some_iff.mp h).1];exact h
theorem CN{a:V}{n:Str}(T:List C)(h:fE a n S=some v):fE a n (S++T)=some v:=by
 cases a with
 |ref k=>
  rw [rI] at h |-;cases e:S[k]? with
  |none=>rw [e] at h;exact aG h
  |some c=>rw [kJ e];rw [e] at h;exact h
 |_=>exact aG h
theorem Qv.app(T:List C)(h:Qv ls S e v):Qv ls (S++T) e v:=by
 induction h with
 |loc h=>exact .loc h
 |fC h g=>exact .fC h (kJ g)
 |idx _ _ c f b a=>exact .idx b a (kJ c) f
 |attr _ h d=>exact .attr d (CN T h)
 |tup _ _ b a=>exact .tup b a
theorem cO.turn(H:cO A h)(n:h.get? it=some o)(hd:o.data=.fields fs)(l:fs[2]?≠some .none)(k:∀b g,b≠it->h.get? b=some g->h'.get? b=some g):cO A h':=by
 refine aQ H (λH=>?_) (λj=>tF j λa i m H c d f=>?_)
 ·exact .inl H
 ·clear j;refine .inr ⟨a,i,m,H,k a i (λe=>?_) c,d,f⟩;rw [e,n] at c;(replace c:=aw c;subst c);rw [hd] at d;(injection d with d;subst d);exact l f
theorem Gb{K:Type} [DecidableEq K]{knd:KeyKind prog w K}{d:Addr}{kvs:List (K×Value)}(H:cO A s.heap)(a:s.heap.IsKeyIter it d i kvs.length ep)
 (t:s.heap.DictAt knd d kvs ep) (p:kvs[i]? =none)
 (n:∀h',(∀b c,b≠it->s.heap.get? b=some c->h'.get? b=some c)->(∃o,h'.get? it=some o)->Q none {s with heap:=h'}):wpAny (model prog w) A (pyNext (.ref it)) Q E s:=by
 refine gl λy v=>?_
 refine bc (id a) λo g D hd=>?_
 refine PF (id t) λod es j C m B u hn=>?_
 refine v ?_
 unfold pyNext
 refine ax (pw (lE a.typeIs PySem.F.slot_dict_keyiterator_next
  (lH PySem.F.slot_dict_keyiterator_next a.typeIs PySem.F.entry_dict_keyiterator_next ?_ (PySem.F.args_dict_keyiterator_next_1 _))))
 refine ax (bn ?_)
 refine ax ?_
 refine ax ?_
 first|refine ax (wpAny_typeNameOfWhole_keyiter a.typeIs (bn ?_))|refine ax (wpAny_typeNameOf_keyiter a.typeIs (bn ?_))
 refine ax (wpAny_fieldsOf g hd ?_)
 (refine (show Builtin.Dict_items.ownsTuple "dict_keyiterator"=false from by decide)▸?_;refine (bj j2)▸?_)
 show wpAny _ _ (if (Value.ref d==Value.none)=true then _ else _) _ _ s
 refine (bj (j2))▸?_
 refine ax (bn ?_)
 refine ax (wpAny_dictEntries j m ?_)
 have hsz:es.size=kvs.length:=by refine (aS u.length)▸?_;rfl
 rw [bj (by refine hsz▸?_;simp)]
 refine ax (bn ?_)
 refine ax (wpAny_dictEpoch j m ?_)
 rw [bj (by simp)]
 refine bn ?_
 have r:es.size<=i:=by refine hsz▸?_;simpa using p
 dsimp only
 rw [bj (by exact Int.not_lt.mpr (Int.natCast_nonneg _)),tC,Array.getElem?_eq_none r]
 refine ax ?_
 first|refine ax (wpAny_typeNameOfWhole_keyiter a.typeIs (bn ?_))|refine ax (wpAny_typeNameOf_keyiter a.typeIs (bn ?_))
 show wpAny _ _ (setField (.ref it) 0 .none>>=_) _ _ s
 refine ax (j5 g hd (by simp) ?_)
 have k:∀b c,b≠it->s.heap.get? b=some c->(s.heap.update it (Obj.mapFields (·.setIfInBounds 0 Value.none))).get? b=some c:=λb c h q=>((mG s.heap it _).2 b h).trans q
 refine bP (mW (Q:=Q) (R:=λ_ _=>True) (H.turn g hd (by simp) k) λh' e _ ⟨x,q1,q2⟩ l=>?_) (λ_ _ f=>f.elim) λ_ _ z=>z
 refine ax (re ⟨x,q1,q2⟩ rg ?_)
 exact bn (n h' (λb c h q=>l b c (k b c h q)) ⟨_,l it _ (mF _ g (j1 (lF hd _)))⟩)
theorem CO{kx vx:PySem.Expr}{it:Value}{D:Addr}(I:Nat->Shared->Prop)
 (turn:∀n s,I n s->wpAny (model prog w) A (pyNext it) (λr a=>match r with
   |none=>R (.ok .next) a
   |some v=>wpAny (model prog w) A (letOwnedTupleGo target it v) (λ_ a=>wpAny (model prog w) A (assign target env v) (λ_ aN=>
     wpAny (model prog w) A (eval kx env) (λd k=>wpAny (model prog w) A (eval vx env) (λc f=>
      wpAny (model prog w) A (dictSet D d c) (λ_ e=>∃m,m<n/\I m e) (λ_ _=>False) f) (λ_ _=>False) k) (λ_ _=>False) aN) (λ_ _=>False) a) (λ_ _=>False) a) (λ_ _=>False) s)
 (n:Nat) (h:I n s):codeAny (model prog w) A (.compLoop (.DictComp kx vx [⟨target,iter,[],0⟩] scope pos) 0 it (.ref D) env) R s:=by
 refine codeAny_loop rfl I (λn s l=>?_) n h
 show wpAny _ A ((compTurn (.DictComp kx vx [⟨target,iter,[],0⟩] scope pos) 0 it (.ref D) env).onRaise (λx=>do noteFrame x env;theTreesLotGoes x)) _ _ s
 refine wpAny_noted ?_
 rw [compTurn_dict]
 refine bP (E:=λ_ _=>False) ?_ (λ_ _ h=>h) λ_ _ h=>h.elim
 refine ax (g1 (ax (bP (turn n s l) (λr a b=>?_) λ_ _ h=>h)))
 cases r with
 |none=>exact bn b
 |some v=>
  refine ax (bP b (λ_ a b=>ax (bP b (λ_ aN j=>ax (bn ?_)) λ_ _ h=>h)) λ_ _ h=>h)
  exact ax (ax (bP j (λd f o=>ax (cR (bP o (λc e g=>ax (g1 (cR (bP g (λ_ p i=>bn ⟨rfl,i⟩) λ_ _ h'=>h')))) λ_ _ h'=>h'))) λ_ _ h'=>h'))
theorem r9(f:bE d F A gt cf)(w:F.env.scope.names.lookup (F.aj.getD i Str.empty)=some .local)(k:i<F.aj.length)(R:Y1 F g ls S s)(hv:RV g v x){Q:mE}(h:∀c,Y1 F g (ls.set i (some v)) S c->(∀b o,b≠F.env.locals->s.heap.get? b=some o->c.heap.get? b=some o)->Q () c):
 wpAny (model F.prog F.w) A (assign (.Name (F.aj.getD i Str.empty) p) F.env x) Q E s:=by
 have hn:=d9 k
 refine ae R.locs λm a j=>?_
 rw [eh,hn,ig] at w |-
 exact wpAny_assign_Name (tA w a (λh' l hs=>h _ (R.store hn w f.ok.nd ⟨a,j⟩ l hs hv _) λb o n e=>hs.extBut b o n e) (by refine f.ok.kind▸?_;rfl))
theorem Y1.apart2(R:Y1 F g ls S s){b:Addr×Option Addr}(d:g.cs[i]? =some a)(e:g.cs[j]? =some b)(c:i≠j):a.1≠b.1:=fO R.nodup d e c.symm a.1 (.head _) b.1 (.head _)
theorem Y1.zb(R:Y1 F g ls S s)(b:g.cs[i]? =some a):a.1≠F.env.locals:=λe=>(yf R.nodup) (e▸mh b (.head _))
theorem wK{v:V}{x:Str}:∀{ks:List Str} {vs:List V},ks.length=vs.length->x∉ks->bX ks vs x v=(ks++[x],vs++[v])
 |[],[],_,_=>rfl
 |k::ks,w::vs,a,hn=>by
  show (match aD k x with|true=>_|false=>_)=_;refine (show aD k x=false from dR.mpr λe=>hn (e▸ .head _))▸?_;refine (wK (v:=v) (x:=x) (ks:=ks) (vs:=vs) (by simpa using a) λh=>hn (.tail _ h))▸?_;rfl
structure jt (F:Fx) (g:G) (vs:List V) (S:List C) (ad it:Addr×Option Addr) (ks:List Str) (xs:List Value) (ep:Nat) (f:V->Option V) (l:List V) (i n:Nat) (h:Heap):Prop where
 len:vs.length=i
 rest:∃rest,gv f (ks.drop i)=some rest/\l=vs++rest
 at_:g.cs[S.length]? =some it
 dict:h.DictAt (strKind F.prog F.w) ad.1 (ks.zip xs) ep
 iter:h.IsKeyIter it.1 ad.1 n (ks.zip xs).length ep
protected theorem jt.keep {it:Addr×Option Addr} {f:V->Option V} {b:Addr} (H:jt F g vs S ad it ks xs ep f l i n h) (L:g.Le g') (hd:ad.1≠b) (d:it.1≠b) (k:∀c o,c≠b->h.get? c=some o->h'.get? c=some o):jt F g' vs S ad it ks xs ep f l i n h':=
 ⟨H.len,H.rest,L.at H.at_,H.dict.extBut (λc o a e=>k c o a e) hd,H.iter.extBut (λc o a e=>k c o a e) d⟩
theorem uW{l:List α}{x:α}(h:l[i]? =some x):l.drop i=x::l.drop (i+1):=by refine ar (List.getElem?_eq_some_iff.mp h) λa e=>?_;refine (aS e)▸?_;exact drop_eq_getElem_cons a
theorem uc(L:A.handled=F.hand.map Value.ref){c:C}{it:Addr×Option Addr}{f:V->Option V}(T:ks.length=xs.length)(H:jt F g vs S ad it ks xs ep f l i i s.heap)(R:Y1 F g ls (S++[.dead,c]) s)(hd:g.cs[j]? =some ad)(O:j≠S.length)
 (p:ks.length<=i->∀n,Y1 F g ls (S++[.dead,c]) n->l=vs->Q none n)
 (hstep:∀x t,ks[i]? =some x->∀n v a,Y1 F g ls (S++[.dead,c]) n->jt F g vs S ad it ks xs ep f l i (i+1) n.heap->f (.str x)=some v->gv f (ks.drop (i+1))=some a->l=vs++v::a->Q (some (.str x t)) n):wpAny (model F.prog F.w) A (pyNext (.ref it.1)) Q E s:=by
 have turn:∀h',(∀b y,b≠it.1->s.heap.get? b=some y->h'.get? b=some y)->(∃o,h'.get? it.1=some o)->Y1 F g ls (S++[.dead,c]) {s with heap:=h'}:=λh' k e=>by
  have:=R.turn H.at_ (.head _) k (RC.n7 (c:=.dead) (R.cells _ _ _ H.at_ (show (S++[C.dead,c])[S.length]? =some .dead from by simp)) k e) s.toks (λ_ _ e=>C.noConfusion e) (λo X q r=>by refine bc H.iter λY p1 _ p2=>?_;rw [p1] at q;(replace q:=aw q;subst q);rw [p2] at r;(injection r with r;subst r);simp)
  rwa [(show (S++[C.dead,c]).set S.length .dead=S++[.dead,c] from by simp)] at this
 refine ae H.rest λa d h=>?_
 have U:(ks.zip xs).length=ks.length:=by rw [length_zip];exact Nat.min_eq_left (c6 ‹_›)
 refine gl λP D=>?_
 cases m:ks[i]? with
 |none=>
  have B:ks.length<=i:=by simpa using m
  rw [drop_eq_nil_of_le B] at d
  (replace d:=aw d;subst d)
  refine D ?_
  refine Gb (k9 L R) H.iter H.dict (by rw [getElem?_eq_none];exact aA (c6 ‹_›) ‹_›) λh' k e=>p B _ (turn h' k e) (by rw [h,dA])
 |some x=>
  have W:=(fx m)
  rw [uW m] at d
  refine ae (Y6 (d)) λv hv d=>?_
  refine ae (au d) λN d e=>?_
  have G:(ks.zip xs)[i]? =some (x,xs[i]'(fw ‹_› (c6 ‹_›))):=by rw [getElem?_zip_eq_some];exact ⟨m,d9 _⟩
  refine D ?_
  refine wpAny_pyNext_dict_item H.iter H.dict G λI h' z u hs=>?_
  refine ar (fB.mp z) λt K=>?_;clear z;subst K
  refine ae (id u) λo J _=>?_
  exact hstep x t m _ v N (turn h' (λb y M e=>(hs.2 b M).trans e) ⟨o,J⟩) ⟨H.len,⟨a,by rw [uW m];show (f (.str x)).bind _=_;rw [hv];show (gv f _).map _=_;rw [d];exact bA some e,h⟩,H.at_,H.dict.extBut hs.extBut (R.apart2 hd H.at_ O),u⟩ hv d (by rw [h,<-e])
noncomputable def uX(k:Bool)(ks:List Str)(vs:List V):C:=match k with
 |true=>.dict ks vs
 |false=>.list vs
noncomputable def Qu:Bool->Sem Value
 |true=>newDict
 |false=>newList []
noncomputable def Gc(k:Bool)(I:la)(e iter:PySem.Expr)(p:Pos):PySem.Expr:=match k with
 |true=>.DictComp I.key e [⟨I.name 0,iter,[],0⟩] I.scope p
 |false=>.ListComp e [⟨I.name 0,iter,[],0⟩] I.scope p
theorem A2(aj:List Str)(gt:eY)(e:Ex)(env:Env)(x:Value):foldedSetIterable (Y3 aj gt e) env x=pure x:=by cases e<;>first|rfl|(rename_i k _ _ _ _;cases k<;>rfl)
theorem CP{d:Addr}(x:h.IsKeyIter it d i n ep):∃o,h.get? it=some o/\uS o:=by refine gl λe b=>?_;refine bc x λo a c _=>?_;clear x;refine b ?_;exact ⟨o,a,_,c,rfl⟩
theorem wL(R:Y1 F g ls (S++[.dead,.list l]) s){b:Addr×Option Addr}(k:g.cs[S.length+1]? =some b)(t:l.length<=65536)(r:RV g v x){Q:cH}
 (q:∀h,Y1 F g ls (S++[.dead,.list (l++[v])]) h->(∀c o,c≠b.1->s.heap.get? c=some o->h.heap.get? c=some o)->Q .none h):wpAny (model F.prog F.w) A (call (.builtin "list.append") [.ref b.1,x]) Q E s:=by
 refine gl λB u=>?_
 refine aq (R.cells _ _ _ k (show (S++[C.dead,.list l])[S.length+1]? =some (.list l) by simp)) λy j=>?_;refine bd j λm n d i=>?_;clear j
 refine u ?_
 refine call_meets PySem.F.slot_list_append ⟨_,d,rfl⟩ PySem.F.entry_list_append (PySem.F.args_list_append_2 _ _) (list_append b.1 m n x (aA (show m.size<=65536 by (refine (aS g0)▸?_;refine (aS i.length)▸?_);exact t) (by decide))) ⟨d,?_⟩
 have p:=R.wy k y d (f:=λa=>a.push x) (by rw [Array.toList_push];exact i.append (.cons r .nil)) s.toks
 rw [show (S++[C.dead,.list l]).set (S.length+1) (.list (l++[v]))=S++[.dead,.list (l++[v])] by simp] at p
 exact q _ p λc o z e=>((mG s.heap b.1 _).2 c z).trans e
theorem Gd(R:Y1 F g ls (S++[.dead,.dict ks l]) s){b:Addr×Option Addr}(j:g.cs[S.length+1]? =some b){y:Str}(J:ks.length<=4000)(p:y∉ks)(u:RV g v x){Q:mE}
 (m:∀f,Y1 F g ls (S++[.dead,.dict (ks++[y]) (l++[v])]) f->(∀c o,c≠b.1->s.heap.get? c=some o->f.heap.get? c=some o)->Q () f):wpAny (model F.prog F.w) A (dictSet b.1 (.str y t) x) Q E s:=by
 have d:=R.cells _ _ _ j (show (S++[C.dead,.dict ks l])[S.length+1]? =some (.dict ks l) by simp)
 have G:ks.Nodup:=by obtain ⟨_,_,_,_,_,_,_,_,I,_⟩:=d;exact I
 refine bc (gT F.prog R.gw d.2) λK D i a=>?_
 refine wpAny_dictSet_pairs (hsz:=by (refine length_zip▸?_;refine j8▸?_);exact aA (Nat.min_le_left _ _) (aA ‹_› (by decide))) (strKind_is F.prog F.w y t) D λh' H hs=>?_
 refine aq (tK (x:=y) u i a G) λq1 q2=>?_
 have D2:=gV R.gw H q2
 rw [q1,wK (by (refine a▸?_;exact i.length▸rfl)) p] at D2
 have k:=R.turn (c':=.dict (ks++[y]) (l++[v])) j (.head _) (λc o h e=>(hs.2 c h).trans e) ⟨d.1,D2⟩ (s.toks+1) (λ_ _ e=>C.noConfusion e) (λM L q r=>by obtain ⟨_,od,es,n,B,_,z,_⟩:=d;replace q:=B▸q;(replace q:=aw q;subst q);replace r:=z▸r;cases r)
 rw [show (S++[C.dead,.dict ks l]).set (S.length+1) (.dict (ks++[y]) (l++[v]))=S++[.dead,.dict (ks++[y]) (l++[v])] by simp] at k
 exact m _ k λc o h e=>(hs.2 c h).trans e
theorem CQ{f:V->Option V}:∀{ks:List Str} {l:List V},gv f ks=some l->l.length=ks.length:=by
 intro ks;induction ks with
 |nil=>intro l h;(replace h:=aw h;subst h);rfl
 |cons y ks a=>
  intro l h;refine ae (Y6 h) λv _ h=>?_;refine ae (au h) λm c b=>?_;clear h;clear h;subst b;exact bA Nat.succ (a c)
theorem zc{k:Bool}(R:Y1 F g ls S s){K:cH}(j:∀bo d b,g.Le bo->bo.cs[S.length]? =some b->Y1 F bo ls (S++[uX k [] []]) d->Kept s.heap d.heap->K (.ref b.1) d):wpAny (model F.prog F.w) A (Qu k) K E s:=by
 cases k with
 |true=>exact jQ (lf (c:=.dict [] []) R rfl (λ_ _ e=>C.noConfusion e) ⟨rfl,gV (prog:=F.prog) (kvs:=[]) R.gw (Heap.DictOf.new s.heap) .nil⟩ λh f b L i a k _=>j h f b L i a k) (by size_fits)
 |false=>exact jQ (lf (c:=.list []) (o:={cls:=.type "list",data:=.seq #[]}) R rfl (λ_ _ e=>C.noConfusion e) ⟨rfl,_,_,gZ _ rfl,.nil⟩ λh f b L i a k _=>j h f b L i a k) (by size_fits)
structure CR (F:Fx) (gt:eY) (bo:G) (ay:List C) (ad ai b:Addr×Option Addr) (j:Nat) (ks:List Str) (xs:List Value) (elt:Ex) (l:List V):Prop where
 Ew:bo.cs[j]? =some ad
 Qw:bo.cs[ay.length]? =some ai
 hb:bo.cs[ay.length+1]? =some b
 hj:j<ay.length
 nd:ks.Nodup
 hx:ks.length=xs.length
 hl:l.length=ks.length
 hc:l.length<=4000
 wf:gN F.env.scope F.aj gt elt=true
 loc:F.env.scope.names.lookup (F.aj.getD 0 Str.empty)=some .local
 pos:0<F.aj.length
structure Ge (k:Bool) (F:Fx) (bo:G) (ay:List C) (ad ai:Addr×Option Addr) (ks:List Str) (xs:List Value) (ep:Nat) (bt:bW) (f:V->Option V) (l:List V) (i n:Nat) (g':G) (u:Option V) (vs:List V) (s:Shared):Prop where
 le:bo.Le g'
 rel:Y1 F g' ([u]++bt) (ay++[.dead,uX k (ks.take i) vs]) s
 at_:jt F g' vs ay ad ai ks xs ep f l i n s.heap
section
variable {k:Bool}{ai b:Addr×Option Addr}{f:V->Option V}{u:Option V}
theorem wM(W:CR F gt bo ay ad ai b j ks xs elt l)(L:bo.Le g')(R:Y1 F g' br S' s):ad.1≠b.1/\ai.1≠b.1:=
 ⟨R.apart2 (L.at W.Ew) (L.at W.hb) (cc (pr W.hj)),R.apart2 (L.at W.Qw) (L.at W.hb) (cc (lL _))⟩
theorem wN(h:bE d F A gt cf)(W:CR F gt bo ay ad ai b j ks xs elt l){x:Str}(J:Ge k F bo ay ad ai ks xs ep bt f l i n g' u vs s){K:mE}(m:∀a,Ge k F bo ay ad ai ks xs ep bt f l i n g' (some (.str x)) vs a->K () a):
 wpAny (model F.prog F.w) A (letOwnedTupleGo (.Name (F.aj.getD 0 Str.empty) q) (.ref ai.1) (.str x t)) (λ_ c=>wpAny (model F.prog F.w) A (assign (.Name (F.aj.getD 0 Str.empty) q) F.env (.str x t)) K (λ_ _=>False) c) (λ_ _=>False) s:=by
 refine gl λy p=>?_
 refine ae (CP J.at_.iter) λo r g=>?_
 refine p ?_
 exact uT r g (r9 h W.loc W.pos J.rel (.str x t) λa e v=>m a ⟨J.le,e,J.at_.keep (.refl _) (J.rel.zb (J.le.at W.Ew)) (J.rel.zb J.at_.at_) v⟩)
theorem ud{x:Str}{a:List V}(d:ks[i]? =some x)(L:bo.Le g')(R:Y1 F g' ([u]++bt) (ay++[.dead,uX k (ks.take i++[x]) (vs++[v])]) s)(H:jt F g' vs ay ad ai ks xs ep f l i (i+1) s.heap)(b:gv f (ks.drop (i+1))=some a)(c:l=vs++v::a):Ge k F bo ay ad ai ks xs ep bt f l (i+1) (i+1) g' u (vs++[v]) s:=
 ⟨L,by (refine take_succ▸?_;refine d▸?_);exact R,⟨by (refine de▸?_;refine H.len▸?_);rfl,⟨a,b,by rw [c,ff];rfl⟩,H.at_,H.dict,H.iter⟩⟩
theorem jt.Eu(W:CR F gt bo ay ad ai b j ks xs elt l)(H:jt F g' vs ay ad ai ks xs ep f l i n h):vs.length<=4000:=by refine ae H.rest λa _ e=>?_;have:=W.hc;rw [e,de] at this;exact aA (bY _ _) this
noncomputable abbrev sd(k:Bool)(F:Fx)(bo:G)(ay:List C)(ad ai:Addr×Option Addr)(ks:List Str)(xs:List Value)(ep:Nat)(bt:bW)(f:V->Option V)(l:List V)(n:Nat)(s:Shared):Prop:=∃i g' u vs,n+i=ks.length+1/\Ge k F bo ay ad ai ks xs ep bt f l i i g' u vs s
theorem ue{x:Str}(hn:n+i=ks.length+1)(a:ks[i]? =some x)(J:Ge k F bo ay ad ai ks xs ep bt f l (i+1) (i+1) g' u vs s):∃m,m<n/\sd k F bo ay ad ai ks xs ep bt f l m s:=by
 have:=(fx a)
 exact ⟨n - 1,(oV hn this).1,i+1,g',u,vs,(oV hn this).2,J⟩
theorem CS(C:bE d F A gt cf)(W:CR F gt bo ay ad ai b j ks xs elt l)(q:Pos)(a:∀g' u f,bo.Le g'->Y1 F g' ([u]++bt) (ay++[.dead,uX false ks l]) f->P (.ok .next) f)(n:Nat)(s:Shared)(J:sd false F bo ay ad ai ks xs ep bt (λx=>s0 ([some x]++bt) ay elt) l n s):
 wpAny (model F.prog F.w) A (pyNext (.ref ai.1)) (λr k=>match r with
  |none=>P (.ok .next) k
  |some v=>wpAny (model F.prog F.w) A (letOwnedTupleGo (.Name (F.aj.getD 0 Str.empty) q) (.ref ai.1) v) (λ_ k=>wpAny (model F.prog F.w) A (assign (.Name (F.aj.getD 0 Str.empty) q) F.env v) (λ_ aN=>
    wpAny (model F.prog F.w) A (forIn [] true λc r=>if r=true then do let p<-isTrue c F.env (eval c F.env);pure (ForInStep.yield p) else pure (ForInStep.yield r)) (λp G=>
     if p=true then wpAny (model F.prog F.w) A (eval (Y3 F.aj gt elt) F.env) (λx X=>
      wpAny (model F.prog F.w) A (call (.builtin "list.append") [.ref b.1,x]) (λ_ V=>∃m,m<n/\sd false F bo ay ad ai ks xs ep bt (λx=>s0 ([some x]++bt) ay elt) l m V) (λ_ _=>False) X) (λ_ _=>False) G
     else∃m,m<n/\sd false F bo ay ad ai ks xs ep bt (λx=>s0 ([some x]++bt) ay elt) l m G) (λ_ _=>False) aN) (λ_ _=>False) k) (λ_ _=>False) k) (λ_ _=>False) s:=by
 refine gl λY S=>?_
 refine tH J λi g' u vs hn J=>?_
 refine S ?_
 refine uc C.ak.hand W.hx J.at_ J.rel (J.le.at W.Ew) (cc W.hj) (λL f g e=>?_) (λx t D f v H g T hv Q z=>wN C W ⟨J.le,g,T⟩ λr8 B=>bn ?_)
 ·subst e
  rw [take_of_length_le L] at g
  exact a g' u f J.le g
 ·rw [bx rfl]
  refine ((mq elt hv).app _).sound C W.wf B.rel λZ Qm y h E U K=>?_
  refine wL E (h.at (J.le.at W.hb)) (aA (B.at_.Eu W) (by decide)) K λNT M O=>?_
  refine aq (wM W (J.le.trans h) E) λR N=>?_
  exact ue hn D (ud D (J.le.trans h) M (B.at_.keep h R N λc o I e=>O c o I (U c o e)) Q z)
theorem CT(k:bE d F A gt cf)(W:CR F gt bo ay ad ai b j ks xs elt l)(q K:Pos)(f:∀g' u g,bo.Le g'->Y1 F g' ([u]++bt) (ay++[.dead,uX true ks l]) g->P (.ok .next) g)(n:Nat)(s:Shared)(J:sd true F bo ay ad ai ks xs ep bt (λx=>s0 ([some x]++bt) ay elt) l n s):
 wpAny (model F.prog F.w) A (pyNext (.ref ai.1)) (λr p=>match r with
  |none=>P (.ok .next) p
  |some v=>wpAny (model F.prog F.w) A (letOwnedTupleGo (.Name (F.aj.getD 0 Str.empty) q) (.ref ai.1) v) (λ_ p=>wpAny (model F.prog F.w) A (assign (.Name (F.aj.getD 0 Str.empty) q) F.env v) (λ_ aN=>
    wpAny (model F.prog F.w) A (eval (.Name (F.aj.getD 0 Str.empty) K) F.env) (λZ T=>wpAny (model F.prog F.w) A (eval (Y3 F.aj gt elt) F.env) (λS cL=>
     wpAny (model F.prog F.w) A (dictSet b.1 Z S) (λ_ lC=>∃m,m<n/\sd true F bo ay ad ai ks xs ep bt (λx=>s0 ([some x]++bt) ay elt) l m lC) (λ_ _=>False) cL) (λ_ _=>False) T) (λ_ _=>False) aN) (λ_ _=>False) p) (λ_ _=>False) p) (λ_ _=>False) s:=by
 refine gl λGz X=>?_
 refine tH J λi g' u vs hn J=>?_
 refine X ?_
 refine uc k.ak.hand W.hx J.at_ J.rel (J.le.at W.Ew) (cc W.hj) (λL g a e=>?_) (λx t z g v G a Y hv R B=>wN k W ⟨J.le,a,Y⟩ λr8 C=>?_)
 ·subst e
  replace a:=(take_of_length_le L)▸a
  exact f g' u g J.le a
 ·refine qa k (by (delta c7;simp only [dD,ek]);exact ⟨W.pos,W.loc⟩) rfl C.rel λkx D=>?_
  refine ar D.str_inv λt' U=>?_;clear D;subst U
  refine ((mq elt hv).app _).sound k W.wf C.rel λTO Qm y h E NX I=>?_
  refine Gd E (h.at (J.le.at W.hb)) (aA (length_take_le' ..) (by refine (aS W.hl)▸?_;exact W.hc)) (λM=>?_) I λNT N Q=>?_
  ·have:=W.nd
   rw [<-take_append_drop i ks,uW z,pz] at this
   exact this.2.2 x M x (.head _) rfl
  ·refine aq (wM W (J.le.trans h) E) λV O=>?_
   exact ue hn z (ud z (J.le.trans h) N (C.at_.keep h V O λc o H e=>Q c o H (NX c o e)) R B)
end
theorem CU{ad:Addr}(d:(ad==sysModules)=false)(D:s.heap.DictAt (strKind F.prog F.w) ad kvs ep)(R:Y1 F g ls S s){Q:cH}(a:∀aW aN ai,g.Le aW->aW.cs[S.length]? =some ai->Y1 F aW ls (S++[.dead]) aN->Kept s.heap aN.heap->aN.heap.IsKeyIter ai.1 ad 0 kvs.length ep->Q (.ref ai.1) aN):wpAny (model F.prog F.w) A (pyIter (.ref ad)) Q E s:=
 wpAny_pyIter_dict d D (lf (c:=.dead) R rfl (λ_ _ e=>C.noConfusion e) (λb j=>by obtain rfl:=mem_singleton.mp (j);exact ⟨_,gZ _ rfl⟩) λaW aN ai L h i k f=>a aW aN ai L h i k ⟨_,f,rfl,rfl⟩)
noncomputable abbrev wO(S:List C)(k:Bool)(f:V->Option V)(v:V)(K:V->List C->Prop):Prop:=∃j ks ws l,v=.ref j/\S[j]? =some (.dict ks ws)/\gv f ks=some l/\l.length<=4000/\K (.ref (S.length+1)) (S++[.dead,uX k ks l])
theorem ze{k:Bool}{f:V->Option V}{K:V->List C->Prop}{X:Nat->List C->Prop}(H:Y7 (match v.eJ.bind λj=>S[j]?.bind C.gM with|none=>none|some p=>match gv f p.1 with|none=>none|some l=>match ble l.length 4000 with|true=>some (.ok (.ref (S.length+1)),S++[.dead,uX k p.1 l])|false=>none) K X):wO S k f v K:=by
 refine gl λn a=>?_;(revert H;cases _:Option.bind (Internal.V.eJ v) λj=>Option.bind S[j]? Internal.C.gM;all_goals (intro H;dsimp only at H))
 ·refine a ?_;exact H.elim
 rename_i q b;(revert H;cases _:gv f (Prod.fst q);all_goals intro H)
 ·refine a ?_;exact H.elim
 rename_i l d;refine aq (NM H) λm H=>?_;refine ae (Y6 b) λj i g=>?_;refine ae (Y6 g) λc h e=>?_;clear b;obtain rfl:=V.gS i;obtain rfl:=C.mU e;refine a ?_;exact PM j q.1 q.2 l rfl h d (cZ m) H
theorem CV(hE:bE d F A gt cf){k:Bool}(w:(I7 F.env.scope F.aj I&&I.tup.isNone)=true)(w2:gN (mn F.env.scope I) I.aj gt elt=true)(is:SE F A gt cf ls src):SE F A gt cf ls (.keys k elt src I p):=by
 refine .plain (λ_=>by cases k<;>rfl) λS g s R Q E H=>?_;refine aq (nU w) λw wt=>?_;have c:=y6 w;have L:I.nt=1:=by refine c.nt▸?_;unfold la.Eu;rw [show I.tup=none by simpa using wt]
 obtain ⟨bt,Z,H⟩:=Y7.fF (show Y7 ((gF I ls).bind λbt=>cu (ev cf ls gt src S) λv S=>match v.eJ.bind λj=>S[j]?.bind C.gM with
  |none=>none
  |some p=>match gv (λx=>s0 ([some x]++bt) S elt) p.1 with
   |none=>none
   |some l=>match ble l.length 4000 with
    |true=>some (.ok (.ref (S.length+1)),S++[.dead,uX k p.1 l])
    |false=>none) (KQ RV F ls g Q) (XE F ls g E) from by cases k<;>exact H)
 have Vu:wpAny (model F.prog F.w) A (comprehension (Gc k I (Y3 I.aj gt elt) (Y3 F.aj gt src) p) I.scope F.env (Y3 F.aj gt src).pos (Qu k) false (eval (Y3 F.aj gt src) F.env) none) Q E s:=by
  refine wpAny_comprehension_free (g:=⟨I.name 0,Y3 F.aj gt src,[],0⟩) (gs:=[]) (by clear H;clear H;cases k<;>rfl) (λx=>A2 ..) (AZ c Z R) c.kind c.loc (JU H is.v R (λ_ _ h=>h) λv ay H cv aL x dF y hx=>?_);refine gl λGz kz=>?_;obtain ⟨j,ks,ws,l,rfl,hS,hl,hc,H⟩:=ze H;obtain ⟨ad,rfl,T⟩:=hx.dw;have Vv:=y.cells _ _ _ T hS;obtain ⟨K,D,mV,WJ⟩:=gT F.prog y.gw Vv.2;refine kz ?_;have nd:ks.Nodup:=by obtain ⟨_,_,_,_,_,_,_,_,h5,_⟩:=Vv;exact h5
  obtain ⟨Y,DA⟩:=D.dictAt;have yw:(ad.1==sysModules)=false:=by rw [qY];intro e;have:=(y.apart ad.1 (.tail _ (mh T (.head _)))).1;replace this:=e▸this;exact hE.ok.top.sys this
  refine CU yw DA y λaW aN B cx Qw aR t i=>zc aR λa cU b M P q uI=>?_;rw [ff] at q;obtain ⟨O,_,_,hL,_⟩:=q.m8;refine ua (Q:=λenv G=>codeAny (model F.prog F.w) A (.compStart (Gc k I (Y3 I.aj gt elt) (Y3 F.aj gt src) p) 0 (.ref B.1) (.ref b.1) env) (compPost (model F.prog F.w) A E none Q (.ref b.1) env.locals) G) hE w Z q hL λenv G hs y5 z Pt Qx=>?_;have Qy:=M.at Qw;have X:a.cs[ay.length+1]? =some b:=by replace P:=de▸P;exact P
  have i:G.heap.IsKeyIter B.1 ad.1 0 (ks.zip K).length Y:=let ⟨o,h,r⟩:=i;⟨o,Qx _ _ (uI _ _ h),r⟩;have n0:0<I.aj.length:=by (refine c.len▸?_;refine L▸?_);exact succ_le_of_lt (fw Nat.zero_lt_one (bY _ _))
  have W:CR (F.inner O env I.aj) gt a ay ad B b j ks K elt l:=⟨M.at (cx.at T),Qy,X,(fx hS),nd,WJ,CQ hl,hc,by show gN env.scope I.aj gt elt=true;refine hs▸?_;exact w2,by show env.scope.names.lookup _=_;refine hs▸?_;exact rX (c.Qj 0 (by refine L▸?_;exact Nat.zero_lt_one)),n0⟩
  have Gf:sd k (F.inner O env I.aj) a ay ad B ks K Y bt (λx=>s0 ([some x]++bt) ay elt) l (ks.length+1) G:=
   ⟨0,a,none,[],rfl,.refl a,by replace z:=L▸z;exact z,⟨rfl,⟨l,hl,rfl⟩,Qy,((DA.keep t).keep uI).keep Qx,i⟩⟩
  have fin:∀N u U,a.Le N->Y1 (F.inner O env I.aj) N ([u]++bt) (ay++[.dead,uX k ks l]) U->compPost (model F.prog F.w) A E none Q (.ref b.1) env.locals (.ok .next) U:=λN u U V R'=>
   let ⟨m,hm,hq⟩:=CI q hL V R'
   ⟨m,hm,λh' WK=>H _ _ _ (((dF.trans cx).trans M).trans V) (hq h' WK) (.ref (V.at X))⟩
  clear H kz z q;clear H;cases k with
  |false=>
   have f:=tW (prog:=F.prog) (w:=F.w) (elt:=Y3 I.aj gt elt) (target:=I.name 0) (iter:=Y3 F.aj gt src) (scope:=I.scope) (pos:=p) (env:=env) _ (λn s J=>CS Pt W _ fin n s J) (ks.length+1) Gf;exact codeAny_compStart_list f (wpAny_pyIter_keyiter i f)
  |true=>
   have f:=CO (prog:=F.prog) (w:=F.w) (kx:=I.key) (vx:=Y3 I.aj gt elt) (target:=I.name 0) (iter:=Y3 F.aj gt src) (scope:=I.scope) (pos:=p) (env:=env) _ (λn s J=>CT Pt W _ _ fin n s J) (ks.length+1) Gf;exact codeAny_compStart_dict f (wpAny_pyIter_keyiter i f)
 clear H;clear H;cases k with
 |true=>show wpAny _ A (eval (.DictComp I.key (Y3 I.aj gt elt) [⟨I.name 0,Y3 F.aj gt src,[],0⟩] I.scope p) F.env) Q E s;rw [arm_eval_DictComp];exact Vu
 |false=>show wpAny _ A (eval (.ListComp (Y3 I.aj gt elt) [⟨I.name 0,Y3 F.aj gt src,[],0⟩] I.scope p) F.env) Q E s;rw [eval_ListComp];exact Vu
set_option backward.match.sparseCases false
theorem Gg{a:Addr}(h:RV g (.glob a) x):x=.ref a:=by cases h;rfl
theorem Gh(F:Fx)(gt:eY)(p:Pos)(e:Ex)(n:Str)(q:Pos):backTo p (starEach [Y3 F.aj gt e,.Name n q] F.env)=[(false,eval (Y3 F.aj gt e) F.env),(false,eval (.Name n q) F.env)]:=by have:=kI F gt p e;clear this;cases e<;>first|rfl|(rename_i k _ _ _ _;cases k<;>rfl)
theorem CW(w:kE false e=true):∃k p,e=.cst .none k p:=by
 cases e with
 |cst c k p=>cases c<;>first|exact ⟨k,p,rfl⟩|exact eI w
 |_=>exact eI w
theorem mr{b:Bool}(w:kE b e=true){f:V->List C->Y5 V}(c:SE F A gt cf ls e)
 {h:cH} (H:cK RV F ls g h E (cu (ev cf ls gt e S) f)) (R:Y1 F g ls S s) {Q:cH} (d:∀a ay g' i x,cK RV F ls g' h E (f a ay)->g.Le g'->Y1 F g' ls ay i->RV g' a x->Q x i):
 wpAny (model F.prog F.w) A (valueOrNone (evalOpt (lA b (Y3 F.aj gt e)) F.env)) Q E s:=by
 cases b with
 |true=>exact one H c.v R d
 |false=>
  refine dZ (CW w) λk p j=>?_;clear c w;subst j
  exact bn (d .none S g s .none H (.refl g) R .none)
theorem JX(b:Bi):(b.name==("__debug__":Str))=false:=by cases b<;>decide
theorem zf{Q:cH}(R:Y1 F g ls S s){a b:V}(H:cK RV F ls g Q E (yM a b S))(j:RV g a x)(d:RV g b y):wpAny (model F.prog F.w) A (binaryOp .Add x y) Q E s:=by refine gl λJ r=>?_;refine ae (Y7.fF H) λl G H=>?_;refine ae (Y7.fF H) λm D H=>?_;refine aq (NM H) λI H=>?_;refine bg (dB R G j) λp t n f i o=>?_;clear j;subst f;refine bg (dB R D d) λq v K f h z=>?_;clear d;subst f;refine r ?_;exact P.add_list o z (lf (c:=.list (l++m)) R rfl (λ_ _ e=>C.noConfusion e) ⟨rfl,_,_,gZ _ rfl,(i.qM h).mono (dK g _)⟩ λk u b L d B _ _=>H k u _ L B (.ref d)) (aA (show t.size+v.size<=65536 by (refine (aS i.size)▸?_;refine (aS h.size)▸?_);exact cZ I) (by decide))
theorem Gi{c:Const}:SE F A gt cf ls (.cst c k p):=.plain (λ_=>rfl) λS g s R Q E H=>by
 cases c with
 |none=>exact λ_ _ _=>H.ok R .none
 |bool b=>exact λ_ _ _=>H.ok R (.bool _)
 |int i=>exact wpAny_Constant_int (H.ok (R.toks _) (.int _ _))
 |str x=>exact Constant_str (H.ok (R.toks _) (.str _ _))
 |_=>exact H.elim
theorem Gj(b:bE d F A gt cf)(w:c7 F.env.scope F.aj i=true):SE F A gt cf ls (.loc i p):=.plain (λ_=>rfl) λS g s R Q E H=>
 let ⟨_,c,H⟩:=H.gk
 qa b w c R λx a=>H g s x (.refl g) R a
theorem Gk(b:bE d F A gt cf)(w:AS F.env.scope F.aj i=true):SE F A gt cf ls (.fC i p):=.plain (λ_=>rfl) λS g s R Q E H=>
 let ⟨_,_,e,c,H⟩:=H.ou
 Mu b w e c R λx a=>H g s x (.refl g) R a
theorem CX(e:bE d F A gt cf)(w:kD F.env.scope gt i=true):SE F A gt cf ls (.glob i p):=.plain (λ_=>rfl) λS g s R Q E H=>by refine gl λh f=>?_;refine ae H.gk λv a H=>?_;refine ae (au a) λx b c=>?_;clear a;subst c;refine f ?_;exact yW e w R b (H g s _ (.refl g) R (.glob _))
theorem Gl{l r:Ex}(il:SE F A gt cf ls l)(e:SE F A gt cf ls r):SE F A gt cf ls (.bin op l r p):=
 .plain (λ_=>rfl) λS g s R Q E H=>wpAny_BinOp (ZB H il.v e.v R λa b aK h i x y H f d c=>Qc f H d c)
theorem CY{l r:Ex}(il:SE F A gt cf ls l)(e:SE F A gt cf ls r):SE F A gt cf ls (.kA l r p):=
 .plain (λ_=>rfl) λS g s R Q E H=>wpAny_BinOp (ZB H il.v e.v R λa b aK h i x y H f d c=>zf f H d c)
theorem Gm(c:bE d F A gt cf){op:CmpOp}{a b:V}{Q:cH}(R:Y1 F g ls S s)(H:cK RV F ls g Q E (qt (eg op a b S) S))(f:RV g a x)(e:RV g b y):wpAny (model F.prog F.w) A (compareOp op x y) Q E s:=
 let ⟨_,h,H⟩:=H.qt;jq R c.ok.top c.room h f e λt=>H g _ _ (.refl g) (R.toks t) (.bool _)
theorem Gn(c:bE d F A gt cf){op:CmpOp}{a b:V}{Q:Bool->Shared->Prop}(R:Y1 F g ls S s)(H:eQ F ls g Q E (qt (eg op a b S) S))(f:RV g a x)(e:RV g b y):wpAny (model F.prog F.w) A (compareOp op x y) (λz s=>wpAny (model F.prog F.w) A (truthy z) Q E s) E s:=
 let ⟨_,h,H⟩:=H.qt;jq R c.ok.top c.room h f e λt=>vS (H g _ (.refl g) (R.toks t))
theorem Go(i:bE d F A gt cf){op:CmpOp}{l r:Ex}(il:SE F A gt cf ls l)(h:SE F A gt cf ls r):SE F A gt cf ls (.cmp op l r p):=
 ⟨λS g s R Q E H=>wpAny_Compare1 (ZB H il.v h.v R λa b aK j k x y H f e c=>Gm i f H e c) (FJ _ _ _ _),
  λS g s R Q E H=>wpAny_isTrue_Compare1 (TE H il.v h.v R λa b aK j k x y H f e c=>Gn i f H e c) (FJ _ _ _ _)⟩
theorem JY{a:Ex}(f:SE F A gt cf ls a):SE F A gt cf ls (.nt a p):=
 ⟨λS g s R Q E H=>UnaryOp_ (one H f.v R λv ay d h x H L c i=>by
   refine ae (Cu H) λb e H=>?_;exact not_of (kF e i (cK.ok H c (.bool _)))),
  λS g s R Q E H=>isTrue_not (FL H f.t R λb ay d h H L c=>H d h (.refl _) c)⟩
theorem Gp{a:Ex}(d:SE F A gt cf ls a):SE F A gt cf ls (.neg a p):=.plain (λ_=>rfl) λS g s R Q E H=>UnaryOp_ (one H d.v R λv ay f j x H L e b=>by
 cases v with
 |int i=>(refine ar (RV.int_inv b) λh c=>?_;subst c);exact neg_int (cK.ok H (e.toks _) (.int _ _))
 |_=>exact H.elim)
theorem Gq{t a b:Ex}(it:SE F A gt cf ls t)(i:SE F A gt cf ls a)(h:SE F A gt cf ls b):SE F A gt cf ls (.ite t a b p):=
 ⟨λS g s R Q E H=>IfExp_ (TD H it.t R λc ay d e H L f=>by
   cases c with
   |true=>exact i.v ay d e f Q E H
   |false=>exact h.v ay d e f Q E H),
  λS g s R Q E H=>isTrue_IfExp (FL H it.t R λc ay d e H L f=>by
   cases c with
   |true=>exact i.t ay d e f Q E H
   |false=>exact h.t ay d e f Q E H)⟩
theorem Qz{o:Option Bool}{f:Y5 V}{K:V->List C->Prop}{X:Nat->List C->Prop}(H:Y7 (match o with|none=>none|some c=>match c with|false=>some (.ok (.bool false),S)|true=>f) K X):∃c,o=some c/\(c=false->K (.bool false) S)/\(c=true->Y7 f K X):=by
 cases o with
 |none=>exact H.elim
 |some c=>cases c with
  |false=>exact ⟨_,rfl,λ_=>H,λe=>eI e⟩
  |true=>exact ⟨_,rfl,(λe=>eI (aS e)),λ_=>H⟩
theorem zg(f:bE d F A gt cf){l m r:Ex}{G K:CmpOp}(il:SE F A gt cf ls l)(I:SE F A gt cf ls m)(J:SE F A gt cf ls r):SE F A gt cf ls (.chain l G m K r p):=by
 have D:lastMarks [G,K] [Y3 F.aj gt m,Y3 F.aj gt r]=false:=FJ _ _ _ _;refine ⟨λS g s R Q E H=>Compare_chain (one H il.v R λa ay P U x H L w i=>chain_link (one H I.v w λb aK k T y H B e h=>?_)) D,λS g s R Q E H=>isTrue_chain (FM H il.v R λa ay P U x H L w i=>test_link (FM H I.v w λb aK k T y H B e h=>?_)) D⟩
 ·refine bc (Qz H) λc C u o=>?_;refine jq e f.ok.top f.room C (i.mono B) h λt=>vS ?_;cases c with
  |false=>exact u rfl k _ _ (.refl _) (e.toks t) (.bool _)
  |true=>exact chain_last (one (o rfl) J.v (e.toks t) λd O M N z H q j n=>Gm f j H (h.mono q) n)
 ·refine bc (Qz H) λc C u o=>?_;refine jq e f.ok.top f.room C (i.mono B) h λt=>vS ?_;cases c with
  |false=>exact u rfl k _ (.refl _) (e.toks t)
  |true=>exact test_last (FM (o rfl) J.v (e.toks t) λd O M N z H q j n=>Gn f j H (h.mono q) n)
theorem Gr{op:BoolOp}{a:Ex}(b:SE F A gt cf ls a)(c:fR F A gt cf ls r):SE F A gt cf ls (.lS op a r p):=
 ⟨λS g s R Q E H=>by
   cases r with
   |nil=>exact FQ b R H
   |cons d r=>exact Qg b (AW c (λe=>succ_ne_zero _ (bA nh e)) p) R H,
  λS g s R Q E H=>Qf b (λw=>AV c p w) R H⟩
theorem Gs(a:fR F A gt cf ls es):SE F A gt cf ls (.tup es k p):=.plain (λ_=>rfl) λS g s R Q E H=>Tuple_ (by rw [eL];exact Seq.spliced (listOf H (iB a) R λvs ay f e h H L b c=>let ⟨d,H⟩:=H.NL;rS b c d H))
theorem Gu(a:fR F A gt cf ls es):SE F A gt cf ls (.lst es p):=.plain (λ_=>rfl) λS g s R Q E H=>List_ (by rw [eL];exact Seq.spliced (listOf H (iB a) R λvs ay f e h H L b c=>let ⟨d,H⟩:=H.NL;th b c d H))
theorem CZ(a:fR F A gt cf ls es):SE F A gt cf ls (.bw es p):=.plain (λ_=>rfl) λS g s R Q E H=>List_ (by rw [eL];exact Seq.spliced (listOf H (iB a) R λvs ay f e h H L b c=>let ⟨d,H⟩:=H.NL;kG b c d H))
theorem C0(a:bE d F A gt cf)(w:kD F.env.scope gt i=true)(f:fR F A gt cf ls es):SE F A gt cf ls (.call i ip es p):=.plain (λ_=>rfl) λS g s R Q E H=>by have hn:gt[i]? =some (gt[i]'(f9 (Bool.and_eq_true_iff.mp w).1)):=d9 _;have H:cK RV F ls g Q E (cu (hM cf ls gt es S) λvs S=>match gt[i]? with|Option.none=>Option.none|some x=>cf.fn cf.hd x.2 vs S):=H;rw [hn] at H;refine rb (yW a w R hn ?_);rw [eL];exact oz a (a.keep _ _ hn) (listOf H (iB f) R λvs ay e j h H L b c=>⟨⟨e,ay,b⟩,a.call H b c⟩)
theorem zh(b:bE d F A gt cf)(w:c7 F.env.scope F.aj i=true)(t:fR F A gt cf ls es):SE F A gt cf ls (.ja i ip es p):=.plain (λ_=>rfl) λS g s R Q E H=>by
 have H:cK RV F ls g Q E (match ls[i]?.bind id with
  |some (.glob a)=>iJ (hM cf ls gt es S) λvs S=>cf.fn cf.hd a vs S
  |_=>Option.none):=H
 cases e:ls[i]?.bind id with
 |none=>rw [e] at H;exact H.elim
 |some v=>
 rw [e] at H;cases v with
 |glob a=>
  refine rb (qa b w e R λx l=>?_);obtain rfl:=Gg l;rw [eL];have m:keepIn F.K (.ref a)=true:=by
   cases c:hM cf ls gt es S with
   |none=>rw [c] at H;exact H.elim
   |some q=>
    rw [c] at H;obtain ⟨r,ay⟩:=q;clear c;cases r with
    |ok vs=>exact b.Qd (f:=id) rfl H
    |exc k=>exact H.elim
  exact oz b m (iB t S g s R _ E ((Y7.iJ H).mono (λvs ay H o y u L j n=>⟨⟨o,ay,j⟩,b.call (cK.le H L) j n⟩) λ_ _ h=>h.elim))
 |_=>exact H.elim
theorem zi(a:bE d F A gt cf){n:Str}(w:ow e ap p es=true)(l:SE F A gt cf ls e)(k:fR F A gt cf ls es):SE F A gt cf ls (.ez e n ap es p):=.plain (λ_=>rfl) λS g s R Q E H=>tU w (one H l.v R λo ay y D x H L r f z=>by
 cases b:ng cf.mt o n ay with
 |none=>replace H:=b▸H;exact H.elim
 |some q=>
  replace H:=b▸H;exact CB a r b f λI G m t h=>oz a h (listOf H (iB k) m λvs aK j B C H u c i=>⟨⟨j,aK,c⟩,a.call H c ((t.mono u).append i)⟩))
theorem QA{Q:cH}{m:jl}{o:V}(R:Y1 F g ls S s)(H:cK RV F ls g Q E (match i9 m o vs S with|none=>none|some q=>some (.ok q.1,q.2)))(b:RV g o x)(c:cr g vs xs):wpAny (model F.prog F.w) A (call (.builtin m.id) (x::xs)) Q E s:=by
 cases a:i9 m o vs S with
 |none=>rw [a] at H;exact H.elim
 |some q=>rw [a] at H;exact rE R a b c H
theorem C1{m:jl}(w:ow e ap p es=true)(i:SE F A gt cf ls e)(h:fR F A gt cf ls es):SE F A gt cf ls (.eB e m ap es p):=.plain (λ_=>rfl) λS g s R Q E H=>tU w (one H i.v R λo ay k t x H L c b l=>by
 cases a:rL m o ay with
 |false=>replace H:=a▸H;exact H.elim
 |true=>
  replace H:=a▸H;exact FS c a b (JO (listOf H (iB h) c λvs aK n q r H j f d=>QA f H (b.mono j) d)))
theorem Gv{i:Ex}(j:SE F A gt cf ls e)(h:SE F A gt cf ls i):SE F A gt cf ls (.idx e i p):=
 .plain (λ_=>rfl) λS g s R Q E H=>Subscript_ (ZB H j.v h.v R λa b aK l m x y H k d c=>let ⟨_,f,H⟩:=H.gk;Cy k f d c H)
theorem Gw{lo b st:Ex}{f:Bool×Bool×Bool}(q:kE f.1 lo=true)(B:kE f.2.1 b=true)(u:kE f.2.2 st=true)(t:SE F A gt cf ls e)(il:SE F A gt cf ls lo)(o:SE F A gt cf ls b)(w:SE F A gt cf ls st):SE F A gt cf ls (.vQ e lo b st f sp p):=
 .plain (λ_=>rfl) λS g s R Q E H=>Cz (one H t.v R λa ay O T x H J y h=>mr q il H y λlo aK K P r H i z l=>mr B o H z λb M G L n H d j k=>mr u w H j λst I N D vs H c m hs=>by refine ae H.gk λv C H=>?_;exact Cg (m.push {cls:=.type "slice",data:=.fields #[r,n,vs]} D.toks) C (((h.mono i).mono d).mono c) ((l.mono d).mono c) (k.mono c) hs (Heap.IsSliceOf.new ..) H)
theorem C2(k:bE d F A gt cf){n:Str}(w:rO e=true)(j:SE F A gt cf ls e):SE F A gt cf ls (.attr e n p):=
 .plain (λ_=>rfl) λS g s R Q E H=>Attribute_any_ (one H j.v R λa ay h l x H L b c=>let ⟨_,f,H⟩:=H.gk;uV k b f c λz i=>H h _ z (.refl _) (b.toks _) i) (A0 w _ _ _)
theorem JZ(c:bE d F A gt cf){b:Bi}(w:iz F.env.scope b.name=true)(j:SE F A gt cf ls e):SE F A gt cf ls (.bi b ip e p):=.plain (λ_=>rfl) λS g s R Q E H=>rb (rT c w (c.ok.top.bi b) (JX b) R (by
 have fin:wpAny (model F.prog F.w) A (eval (Y3 F.aj gt e) F.env) (λx h=>wpAny (model F.prog F.w) A (PySem.call b.val [x]) Q E h) E s:=one H j.v R λa ay l h x H L k i=>by
  cases f:uO cf.hd b a ay with
  |none=>rw [f] at H;exact H.elim
  |some q=>rw [f] at H;exact Cn k c.ok.top.sys (λe=>by rw [c.ak.hand,ni c e];rfl) f i H
 show wpAny _ _ (callWith p b.val [] (backTo p (starEach [Y3 F.aj gt e] F.env)) _) _ _ _;rw [kI];clear H w;cases b
 ·exact PySem.callWith_builtin1 fin
 ·exact tB fin
 ·exact PySem.callWith_builtin1 fin
 ·exact tB fin
 ·exact tB fin
 ·exact PySem.callWith_builtin1 fin))
theorem Gx(b:bE d F A gt cf)(i:iz F.env.scope "isinstance"=true)(k:iz F.env.scope "tuple"=true)(j:SE F A gt cf ls e):SE F A gt cf ls (.JC ip e tp p):=.plain (λ_=>rfl) λS g s R Q E H=>rb (rT b i b.ok.top.TA (by decide) R (by rw [Gh];exact callWith_builtin rfl (evalArgs_plain (spliced_cons (one H j.v R λa ay l m x H L c f=>spliced_cons (rT b k b.ok.top.TB (by decide) c (spliced_nil (let ⟨_,h,H⟩:=H.gk;wv c h f H))))))))
mutual
theorem aJ:∀(F:Fx) (ls:bW) (g:bE d F A gt cf) (e:Ex),gN F.env.scope F.aj gt e=true->SE F A gt cf ls e
 |F,ls,g,.cst c k p=>@λ_=>Gi
 |F,ls,g,.loc i p=>@λw=>Gj g w
 |F,ls,g,.fC i p=>@λw=>Gk g w
 |F,ls,g,.glob i p=>@λw=>CX g w
 |F,ls,g,.bin op l r p=>@λw=>Gl (aJ F ls g l (aV w)) (aJ F ls g r (aH w))
 |F,ls,g,.kA l r p=>@λw=>CY (aJ F ls g l (aV w)) (aJ F ls g r (aH w))
 |F,ls,g,.cmp op l r p=>@λw=>Go g (aJ F ls g l (aV w)) (aJ F ls g r (aH w))
 |F,ls,g,.nt a p=>@λw=>JY (aJ F ls g a w)
 |F,ls,g,.neg a p=>@λw=>Gp (aJ F ls g a w)
 |F,ls,g,.ite t a b p=>@λw=>Gq (aJ F ls g t (aV w)) (aJ F ls g a (aV (aH w))) (aJ F ls g b (aH (aH w)))
 |F,ls,g,.chain l s m v r p=>@λw=>zg g (aJ F ls g l (aV w)) (aJ F ls g m (aV (aH w))) (aJ F ls g r (aH (aH w)))
 |F,ls,g,.lS op a r p=>@λw=>Gr (aJ F ls g a (aV w)) (db F ls g r (aH w))
 |F,ls,g,.tup es k p=>@λw=>Gs (db F ls g es w)
 |F,ls,g,.lst es p=>@λw=>Gu (db F ls g es w)
 |F,ls,g,.bw es p=>@λw=>CZ (db F ls g es w)
 |F,ls,g,.qO ks es p=>@λw=>FU g (aV w) λj h e1 e2=>db j ls h es (by (refine e1▸?_;refine e2▸?_);exact aH w)
 |F,ls,g,.call i ip es p=>@λw=>C0 g (aV w) (db F ls g es (aH w))
 |F,ls,g,.ja i ip es p=>@λw=>zh g (aV w) (db F ls g es (aH w))
 |F,ls,g,.ez e n q es p=>@λw=>zi g (aV w) (aJ F ls g e (aV (aH w))) (db F ls g es (aH (aH w)))
 |F,ls,g,.eB e m q es p=>@λw=>C1 (aV w) (aJ F ls g e (aV (aH w))) (db F ls g es (aH (aH w)))
 |F,ls,g,.idx e i p=>@λw=>Gv (aJ F ls g e (aV w)) (aJ F ls g i (aH w))
 |F,ls,g,.vQ e lo o st f x p=>@λw=>Gw (aV (aH (aH w))) (aV (aH (aH (aH w)))) (aH (aH (aH (aH w)))) (aJ F ls g e (aV w)) (aJ F ls g lo (aV (aV (aH w)))) (aJ F ls g o (aV (aH (aV (aH w))))) (aJ F ls g st (aH (aH (aV (aH w)))))
 |F,ls,g,.attr e n p=>@λw=>C2 g (aV w) (aJ F ls g e (aH w))
 |F,ls,g,.bi b ip e p=>@λw=>JZ g (aV w) (aJ F ls g e (aH w))
 |F,ls,g,.JC ip e u p=>@λw=>Gx g (aV (aV w)) (aH (aV w)) (aJ F ls g e (aH w))
 |F,ls,g,.comp elt src cs I p=>@λw=>CL g (aV w) (aJ F ls g src (aV (aH w))) (λj br h e1 e2=>aJ j br h elt (by (refine e1▸?_;refine e2▸?_);exact aV (aH (aH w)))) λj br h e1 e2=>db j br h cs (by (refine e1▸?_;refine e2▸?_);exact aH (aH (aH w)))
 |F,ls,g,.keys k elt src I p=>@λw=>CV g (aV w) (aH (aH w)) (aJ F ls g src (aV (aH w)))
theorem db:∀(F:Fx) (ls:bW) (a:bE d F A gt cf) (es:eS),qv F.env.scope F.aj gt es=true->fR F A gt cf ls es
 |F,ls,a,.nil=>@λ_=>trivial
 |F,ls,a,.cons e r=>@λw=>⟨aJ F ls a e (aV w),db F ls a r (aH w)⟩
end
set_option backward.match.sparseCases true
theorem AK.fun(c:AK F A)(R:Y1 F g ls S s):s.heap.FunFrames F.base F.top:=by
 have all:∀l:List Env,(∀e∈l,e.scope.kind≠ .module)->(∀e∈l,∃L,e.frame=some L/\(L=F.env.locals\/∃o,F.FP L=some o/\∀vs,o.data≠ .fields vs))->s.heap.FunFrames F.base l:=by
  intro l;induction l with
  |nil=>intro _ _;trivial
  |cons e l j=>
   intro i f;refine ⟨i e (.head _),?_,j (λe a=>i e (.tail _ a)) (λe a=>f e (.tail _ a))⟩;refine gl λn h=>?_;obtain ⟨L,p,rfl|⟨o,q,r⟩⟩:=f e (.head _)
   ·refine ae R.locs λm b _=>?_;refine bg b λo es t k d _=>?_;clear b;refine h ?_;exact lP _ o p ((R.apart _ (.head _)).1) k (λvs q=>by replace q:=d▸q;cases q)
   ·refine ar (R.kZ L o q) λu hs=>?_;refine h ?_;exact lP L _ p ((R.bh L o q).1) hs r
 exact all _ c.kinds c.outs
theorem Y1.slots(N:AK F A)(R:Y1 F g ls S s)(hs:Heap.SlotsOnly (F.top.filterMap (·.frame)) s.heap h'):Y1 F g ls S {s with heap:=h'}:=by
 refine gl λB n=>?_;refine ck hs λh1 P D=>?_;clear hs;have C:∀b∈F.top.filterMap (·.frame),b=F.env.locals\/∃o,F.FP b=some o:=by
  intro b i;refine ae (mem_filterMap.mp i) λe U j=>?_;obtain ⟨L,p,rfl|⟨o,q,_⟩⟩:=N.outs e U
  ·rw [p] at j;clear i;(replace j:=aw j;subst j);exact .inl rfl
  ·rw [p] at j;clear i;(replace j:=aw j;subst j);exact .inr ⟨o,q⟩
 have w:∀b o,b∉F.top.filterMap (·.frame)->s.heap.get? b=some o->h'.get? b=some o:=λb o i e=>(P b i).trans e;have f:∀b,(b=F.env.locals->False)->(∀o,F.FP b=some o->False)->b∉F.top.filterMap (·.frame):=λb q1 q2 i=>by
  refine aQ (C b i) (λe=>?_) (λl=>ar l λo e=>?_)
  ·exact q1 e
  ·clear l;exact q2 o e
 refine eu (R.apart F.env.locals (.head _)) λX Y Z O=>?_;have G:∀{k:Nat} {a},g.cs[k]? =some a->∀b∈Y4 a,b∉F.top.filterMap (·.frame):=λ{k a} hk b i=>by have E:=mh hk i;refine f b (λe=>(yf R.nodup) (e▸E)) λo e=>?_;have:=(R.apart b (.tail _ E)).2.2.1;rw [this] at e;exact aG e
 refine n ?_;refine ⟨R.gw,λb o e=>w b o (f b (λq=>by subst q;rw [X] at e;exact aG e) λx q=>by have:=(R.bh b x q).1;rw [this] at e;exact aG e) (R.base b o e),
  λb o e=>w b o (f b (λq=>by subst q;rw [Y] at e;exact aG e) λx q=>by have:=(R.bh b x q).2.1;rw [this] at e;exact aG e) (R.dI b o e),
  λb o e=>?_,λb o e=>w b o (f b (λq=>by subst q;rw [O] at e;exact aG e) λx q=>by have:=(R.bh b x q).2.2;rw [this] at e;exact aG e) (R.cm b o e),
  R.len,λk a c p q=>(R.cells k a c p q).at λb i o e=>w b o (G p b i) e,R.nodup,R.apart,?_,R.gens,R.os,R.bh,?_,R.fN,R.cw,λh e=>let ⟨p,o,y,q,r⟩:=R.hJ h e;let ⟨J,z⟩:=D h o q;⟨p,_,y,z,r⟩⟩
 ·refine ar (R.kZ b o e) λJ q=>?_;refine ar (D b _ q) λQ K=>?_;exact ⟨Q,K⟩
 ·refine gl λB n=>?_;refine ae R.locs λm l q=>?_;refine bg l λo es M e d r=>?_;clear l;refine ar (D _ _ e) λJ V=>?_;refine n ?_;exact ⟨m,⟨_,es,M,V,d,r⟩,q⟩
 ·refine ar R.tb λts T=>?_;refine ⟨ts,T.len,λk a ks vs p q=>?_,λt W=>?_,T.nd⟩
  ·refine gl λB n=>?_;refine bd (T.one k a ks vs p q) λo y u v=>?_;refine n ?_;exact gb o y (w _ _ (G p a.1 (.head _)) u) v
  ·refine gl λB n=>?_;refine ck (T.obj t W) λl I H=>?_;refine bd l λo y u v=>?_;clear l;refine n ?_;refine ⟨⟨o,y,w _ _ (f t (λe=>I (e▸ .head _)) λx e=>?_) u,v⟩,I,H⟩;rw [H.2.2.1] at e;exact aG e
theorem se(o:Obj) f:(o.mapFields f).dict=o.dict:=by obtain ⟨c,d,a,b⟩:=o;cases a<;>rfl
theorem Y1.My(R:Y1 F g ls S s)(T:iG F g S s.heap ts){t:Addr}(A:some t∈ts)(hs:Heap.SameBut t s.heap h')(hn:∃o fs,h'.get? t=some o/\o.data=.fields fs/\3<fs.size/\o.cls=.type "traceback"):
 Y1 F g ls S {s with heap:=h'}/\iG F g S h' ts:=by
 refine gl λH v=>?_
 refine lO (T.obj t A) λ_ r j u B l=>?_
 have d:∀b o,b≠t->s.heap.get? b=some o->h'.get? b=some o:=λb o i e=>(hs.2 b i).trans e
 refine v ?_
 have f:∀{m:Addr->Option Obj},m t=Option.none->∀b o,m b=some o->b≠t:=λI b o e z=>by clear hn A d hs j r B l u;subst z;rw [I] at e;exact aG e
 have n:∀{k:Nat} {a},g.cs[k]? =some a->∀b∈Y4 a,b≠t:=λ{k a} hk b i e=>r (e▸ .tail _ (mh hk i))
 have C:iG F g S h' ts:=by
  refine ⟨T.len,λk a ks vs p q=>?_,λy E=>?_,T.nd⟩
  ·refine bd (T.one k a ks vs p q) λo fs x z=>?_;exact gb o fs (d _ _ (n p a.1 (.head _)) x) z
  ·refine gl λH v=>?_;refine aq (T.obj y E) λD w=>?_;refine bd D λo fs x z=>?_;clear D;by_cases e:y=t
   ·refine v ?_;clear A d hs n f;clear r j l u B;subst e;exact ⟨hn,w⟩
   ·refine v ?_;exact ⟨⟨o,fs,d _ _ e x,z⟩,w⟩
 refine ⟨⟨R.gw,λb o e=>d b o (f j b o e) (R.base b o e),λb o e=>d b o (f u b o e) (R.dI b o e),λb o e=>let ⟨J,q⟩:=R.kZ b o e;⟨J,d b _ (f B b o e) q⟩,λb o e=>d b o (f l b o e) (R.cm b o e),R.len,
  λk a c p q=>(R.cells k a c p q).at λb i o e=>d b o (n p b i) e,R.nodup,R.apart,dU (G.Le.refl _) (λo e=>d _ o (λz=>r (z▸ .head _)) e) R.locs,R.gens,R.os,R.bh,⟨ts,C⟩,R.fN,R.cw,λh e=>let ⟨p,o,fs,x,z⟩:=R.hJ h e;⟨p,o,fs,d _ _ (λq=>by clear hn d j n B f;clear A hs l;subst q;rcases p with p|⟨K,p⟩;exact r (.tail _ p);rw [u] at p;exact aG p) x,z⟩⟩,C⟩
noncomputable def Zf(h:Heap)(e:Addr):Prop:=∃o fs T,h.get? e=some o/\o.data=.fields fs/\fs[1]? =some (.ref T)
theorem Y1.QD(R:Y1 F g ls S s){ks vs}(A:g.cs[k]? =some a)(Q:S[k]? =some (.exc ks vs)){ot:Obj}(V:ot.data=.fields fs)(h3:3<fs.size)(I6:ot.cls=.type "traceback"):
 Y1 F g ls S {s with heap:=(s.heap.push ot).update a.1 (Obj.mapFields (·.setIfInBounds 1 (.ref s.heap.objs.size)))}/\Zf ((s.heap.push ot).update a.1 (Obj.mapFields (·.setIfInBounds 1 (.ref s.heap.objs.size)))) a.1:=by
 have C:=R.push ot s.toks
 refine gl λP B=>?_
 refine ar R.tb λts T=>?_
 have K:a.1∈td F g:=.tail _ (mh A (.head _))
 refine ij (R.cells k a _ A Q) λo d U h2 n h6 Z h8 h9=>?_;refine bc n λY h4 I WN=>?_;clear n
 have E:=lF h4 (·.setIfInBounds 1 (.ref s.heap.objs.size))
 have N:=mF (Obj.mapFields (·.setIfInBounds 1 (.ref s.heap.objs.size))) (eZ ot U) (j1 E)
 have M:∀b,(∃o,s.heap.get? b=some o)->b≠s.heap.objs.size:=λb ⟨o,e⟩=>cc (cI e)
 have YQ:Y[1]? =some Y[1]:=pn (by rw [I];decide)
 refine B ?_
 refine ⟨?_,_,_,s.heap.objs.size,N,E,by simp [I]⟩
 refine gl λP B=>?_
 refine eu (R.apart a.1 K) λp1 p2 p3 p4=>?_
 have l:∀b o,b≠a.1->(s.heap.push ot).get? b=some o->((s.heap.push ot).update a.1 (Obj.mapFields (·.setIfInBounds 1 (.ref s.heap.objs.size)))).get? b=some o:=λb o hb e=>((mG ..).2 b hb).trans e
 refine B ?_
 have O:∀{m:Addr->Option Obj},m a.1=Option.none->∀b o,m b=some o->b≠a.1:=λK b o e z=>by subst z;replace e:=K▸e;exact aG e
 refine ⟨R.gw,λb o e=>l b o (O p1 b o e) (C.base b o e),λb o e=>l b o (O p2 b o e) (C.dI b o e),λb o e=>let ⟨sl,q⟩:=C.kZ b o e;⟨sl,l b _ (O p3 b o e) q⟩,λb o e=>l b o (O p4 b o e) (C.cm b o e),R.len,λi b c q1 q2=>?_,R.nodup,R.apart,dU (G.Le.refl _) (λo e=>l _ o (show F.env.locals≠a.1 from λe=>(yf R.nodup) (e▸mh A (.head _))) e) C.locs,R.gens,R.os,R.bh,?_,R.fN,R.cw,λh e=>?_⟩
 ·by_cases f:i=k
  ·subst f
   replace q1:=A▸q1;(replace q1:=aw q1;subst q1)
   replace q2:=Q▸q2;(replace q2:=aw q2;subst q2)
   refine ae h9 λm WO WP=>?_;clear h9
   exact ⟨_,d,N,(Obj.cls_mapFields o _).trans h2,⟨_,E,by (simp -iota [];exact I),by rw [Array.getElem?_setIfInBounds_ne (by decide)];exact WN⟩,(se o _).trans h6,Z,h8,m,WO.at λu e=>l _ _ Z (eZ _ e),WP⟩
  ·exact (C.cells i b c q1 q2).at λy v o e=>l y o (λz=>fO R.nodup A q1 f a.1 (.head _) y v z.symm) e
 ·have X:k<ts.length:=by (refine T.len▸?_;refine (aS R.len)▸?_);exact (fx A)
  refine ⟨ts.set k (some s.heap.objs.size),by rw [length_set,T.len],λi b Tj vs' q1 q2=>?_,λy v=>?_,λi j y q1 q2=>?_⟩
  ·by_cases f:i=k
   ·clear Q;subst f
    replace q1:=A▸q1;(replace q1:=aw q1;subst q1)
    refine ⟨_,_,N,E,?_⟩
    refine (jP X)▸?_
    simp [I]
   ·refine gl λP B=>?_
    refine aP (T.one i b Tj vs' q1 q2) λu H x y z=>?_
    refine B ?_
    rw [j4 (cy f)]
    exact ⟨u,H,l _ _ (λw=>fO R.nodup A q1 f a.1 (.head _) b.1 (.head _) w.symm) (eZ _ x),y,z⟩
  ·refine gl λP B=>?_
   refine aQ (mem_or_eq_of_mem_set v) (λv=>?_) (λv=>?_)
   ·refine ck (T.obj y v) λn r1 r2=>?_;refine bd n λu H x z=>?_;clear n
    refine B ?_
    exact ⟨⟨u,H,l _ _ (λw=>r1 (w▸K)) (eZ _ x),z⟩,r1,r2⟩
   ·(replace v:=aw v;subst v)
    refine B ?_
    refine ⟨⟨ot,fs,l _ _ (cy (M a.1 ⟨o,U⟩)) (gZ s.heap (j1 V)),V,h3,I6⟩,λqy=>M _ (R.gQ _ qy) rfl,?_⟩
    have L:∀{m:Addr->Option Obj},(∀b o,m b=some o->∃u,s.heap.get? b=some u)->m s.heap.objs.size=Option.none:=λ{m} q=>by
     cases e:m s.heap.objs.size with
     |none=>rfl
     |some o=>exact absurd rfl (M _ (q _ o e))
    exact ⟨L λb o e=>⟨o,R.base b o e⟩,L λb o e=>⟨o,R.dI b o e⟩,L λb o e=>let ⟨sl,q⟩:=R.kZ b o e;⟨_,q⟩,L λb o e=>⟨o,R.cm b o e⟩⟩
  ·have r:∀(i:Nat),i≠k->(ts.set k (some s.heap.objs.size))[i]? =some (some y)->ts[i]? =some (some y):=λi f h=>by rwa [j4 (cy f)] at h
   have t:(ts.set k (some s.heap.objs.size))[k]? =some (some y)->y=s.heap.objs.size:=λh=>by replace h:=(jP X)▸h;clear r q1 q2;cases h;rfl
   have W:∀(i:Nat),ts[i]? =some (some y)->y≠s.heap.objs.size:=λi h=>by refine aq (T.obj y (dP h)) λn _=>?_;refine bd n λu _ x _=>?_;clear n;exact M y ⟨u,x⟩
   by_cases f:i=k
   ·by_cases J:j=k
    ·(refine f▸?_;exact J▸rfl)
    ·subst f;exact absurd (t q1) (W j (r j J q2))
   ·by_cases J:j=k
    ·subst J;exact absurd (t q2) (W i (r i f q1))
    ·exact T.nd i j y (r i f q1) (r j J q2)
 ·refine aq (R.hJ h e) λp n=>?_;refine aP n λu H q D z2=>?_;clear n
  refine ⟨p,?_⟩
  by_cases hh:h=a.1
  ·clear p e;subst hh
   replace q:=U▸q;(replace q:=aw q;subst q)
   replace D:=h4▸D;(injection D with D;subst D)
   exact ⟨_,_,N,E,by rw [Array.getElem?_setIfInBounds_ne (by decide)];exact z2.1,_,by rw [Array.getElem?_setIfInBounds_self_of_lt (by rw [I];decide)]⟩
  ·exact ⟨u,H,l _ _ hh (eZ _ q),D,z2⟩
theorem kK(e:AK F A)(R:Y1 F g ls S s){ks vs}(i:g.cs[k]? =some a)(m:S[k]? =some (.exc ks vs)){c:Value}{y:Bool}{Q:mE}
 (n:∀h,Y1 F g ls S h->Zf h.heap a.1->Q () h):
 wpAny (model F.prog F.w) A (do let x<-frameOf F.env;let pl<-entryPlaceOf F.env.locals y;let b<-EntryCells.newEntry c x .none (rawInt F.env.locals) .none pl;setField (.ref a.1) 1 b) Q E s:=by
 refine ar e.top λI f=>?_
 refine ax (wpAny_frameOf_fun (f▸e.frames) (f▸e.fun R) e.frame λG t=>?_)
 have l:=R.slots e (f▸t)
 refine ax (wpAny_entryPlaceOf λpl r=>?_)
 delta EntryCells.newEntry newFields
 refine ax (jQ ?_ (r.sizeOk5 _ _ _ _ _))
 refine gl λC v=>?_
 refine gL (l.cells k a _ i m) λo d p H j _=>?_;refine bc j λD u z _=>?_;clear j
 refine v ?_
 refine j5 (eZ _ p) u (by rw [z];decide) ?_
 obtain ⟨B,q⟩:=l.QD i m (ot:={cls:=.type "traceback",dict:=Option.none,data:=.fields ([c,.ref F.env.locals,.none,rawInt F.env.locals,.none]++(if pl.isEmpty then replicate 6 Value.none else pl)).toArray}) rfl
  (by simp only [rh,de,cT,dQ];exact aA (bY _ _) (bY _ _)) rfl
 exact n _ B q
theorem g8(d:AK F A)(R:Y1 F g ls S s){ks vs}(c:g.cs[k]? =some a)(e:S[k]? =some (.exc ks vs)){Q:mE}
 (b:∀i,Y1 F g ls S i->Zf i.heap a.1->Q () i):wpAny (model F.prog F.w) A (noteFrame (.ref a.1) F.env) Q E s:=by
 unfold noteFrame
 rw [d.frame]
 refine gl λu f=>?_
 refine ar R.tb λts T=>?_
 refine aP (T.one k a ks vs c e) λo x r m p=>?_
 refine f ?_
 refine ax (dY r m p ?_)
 cases n:ts[k]? with
 |none=>skip;rw [bj (by decide)];exact kK d R c e b
 |some w=>cases w with
  |none=>skip;rw [bj (by decide)];exact kK d R c e b
  |some t=>
  dsimp only
  rw [bx (by rfl)]
  have q:=dP n
  refine gl λu f=>?_
  refine aq (T.obj t q) λl _=>?_;refine gL l λot y p1 p2 p3 p4=>?_;clear l
  refine f ?_
  refine ax (dY p1 p2 (pn (succ_le_of_lt ‹_›)) ?_)
  split
  ·exact b _ R ⟨o,x,t,r,m,by rw [p,n]⟩ |> λh=>bn h
  ·refine ax (j5 p1 p2 p3 ?_)
   have j:=lF p2 (·.setIfInBounds 3 Value.none)
   refine aq (R.My T q (mG s.heap t (Obj.mapFields (·.setIfInBounds 3 Value.none))) ⟨_,_,mF _ p1 (j1 j),j,by simpa using p3,(Obj.cls_mapFields ..).trans p4⟩) λv z=>?_
   exact kK d v c e b
theorem dg(R:Y1 F g ls S s){ks vs}(h:g.cs[k]? =some a)(x:S[k]? =some (.exc ks vs)){c:Option Addr}{Q:mE}
 (b:∀d,Y1 F g ls S d->(Zf s.heap a.1->Zf d.heap a.1)->Q () d):wpAny (model F.prog F.w) A (setFlight (.ref a.1) c) Q E s:=by
 unfold setFlight
 refine ar R.tb λts T=>?_
 refine aP (T.one k a ks vs h x) λo D B p y=>?_
 refine ax (dY B p y ?_)
 cases v:ts[k]? with
 |none=>dsimp only;rw [bj (by decide)];exact bn (b _ R id)
 |some w=>cases w with
  |none=>dsimp only;rw [bj (by decide)];exact bn (b _ R id)
  |some t=>
  rw [bx (by rfl)]
  have l:=dP v
  refine ck (T.obj t l) λj m _=>?_;refine gL j λot C p1 p2 p3 p4=>?_;clear j
  refine j5 p1 p2 p3 ?_
  have i:=lF p2 (·.setIfInBounds 3 (c.elim Value.none λf=>rawInt f))
  have hs:=mG s.heap t (Obj.mapFields (·.setIfInBounds 3 (c.elim Value.none λf=>rawInt f)))
  refine aq (R.My T l hs ⟨_,_,mF _ p1 (j1 i),i,by simpa using p3,(Obj.cls_mapFields ..).trans p4⟩) λr G=>?_
  exact b _ r λu=>iW u λz q n q1 q2=>⟨z,q,n,(hs.2 _ (λe=>m (e▸ .tail _ (mh h (.head _))))).trans q1,q2⟩
theorem tl(h:AK F A)(R:Y1 F g ls S s){ks vs}(c:g.cs[k]? =some a)(d:S[k]? =some (.exc ks vs)){Q:mE}
 (f:∀b,Y1 F g ls S b->Zf b.heap a.1->Q () b):wpAny (model F.prog F.w) A (leaving F.env (.ref a.1)) Q E s:=by
 unfold leaving
 exact ax (g8 h R c d λb e m=>dg e c d λj i l=>f j i (l m))
theorem zj(R:Y1 F g ls S s){ks vs}(f:g.cs[k]? =some a)(i:S[k]? =some (.exc ks vs))(c:Zf s.heap a.1)
 (e:∀b,Y1 F g ls S b->E (.ref a.1) b):cameBackBy (model F.prog F.w) A F.env E (.ref a.1) s:=by
 unfold cameBackBy
 refine gl λn l=>?_
 refine bg c λo p t m h j=>?_;clear c
 refine l ?_
 refine ax (dY m h j ?_)
 rw [bj (by simp)]
 exact dg R f i λb d _=>e b d
theorem C3(i:AK F A)(R:Y1 F g ls S s){ks vs}(c:g.cs[k]? =some a)(d:S[k]? =some (.exc ks vs))
 (h:∀b,Y1 F g ls S b->E (.ref a.1) b):notedBy (model F.prog F.w) A F.env (λe b=>cameBackBy (model F.prog F.w) A F.env E e b) (.ref a.1) s:=
 g8 i R c d λb f j=>zj f c d j h
inductive Tg where
 |loc (i:Nat) (p:Pos:=o0)
 |fC (i:Nat) (p:Pos:=o0)
 |attr (e:Ex) (n:Str) (p:Pos:=o0)
 |sub (e i:Ex) (p:Pos:=o0)
noncomputable def gO(aj:List Str)(gt:eY):Tg->PySem.Expr
 |.loc i p=>.Name (aj.getD i Str.empty) p
 |.fC i p=>.Name (aj.getD i Str.empty) p
 |.attr e n p=>.Attribute (Y3 aj gt e) n p
 |.sub e i p=>.Subscript (Y3 aj gt e) (Y3 aj gt i) p
noncomputable def C.J2:C->Option (List Str×List V)
 |.exc ks vs=>some (ks,vs)
 |_=>none
noncomputable def C.var? :C->Bool
 |.var _=>true
 |_=>false
noncomputable def ms(o v:V)(n:Str)(S:List C):Option (List C):=o.eJ.bind λk=>match S[k]?.bind C.cls? with
 |some p=>(match (eU p.1 n&& !beq p.1 bL)&&ble p.2.1.length 4000 with
  |true=>some (S.set k (.inst p.1 (bX p.2.1 p.2.2 n v).1 (bX p.2.1 p.2.2 n v).2))
  |false=>none)
 |none=>(S[k]?.bind C.J2).bind λp=>match bJ.any (aD n)&&ble p.1.length 4000 with
  |true=>some (S.set k (.exc (bX p.1 p.2 n v).1 (bX p.1 p.2 n v).2))
  |false=>none
theorem A5{o:V}{n:Str}:
 ms o v n S=
  Option.bind (V.eJ o) λk=>
   match Option.bind S[k]? C.cls? with
   |some p=>
    match eU (Prod.fst p) n&& !beq (Prod.fst p) bL&&ble (List.length (Prod.fst (Prod.snd p))) 4000 with
    |true=>some (List.set S k (C.inst (Prod.fst p) (Prod.fst (bX (Prod.fst (Prod.snd p)) (Prod.snd (Prod.snd p)) n v)) (Prod.snd (bX (Prod.fst (Prod.snd p)) (Prod.snd (Prod.snd p)) n v))))
    |false=>none
   |none=>
    Option.bind (Option.bind S[k]? C.J2) λp=>
     match List.any bJ (aD n)&&ble (List.length (Prod.fst p)) 4000 with
     |true=>some (List.set S k (C.exc (Prod.fst (bX (Prod.fst p) (Prod.snd p) n v)) (Prod.snd (bX (Prod.fst p) (Prod.snd p) n v))))
     |false=>none:=by rfl
noncomputable def wP(o i v:V)(S:List C):Option (List C):=o.eJ.bind λk=>match S[k]?.bind C.gr with
 |some l=>i.int?.bind λj=>(match decide (0<=j/\j<l.length)&&ble l.length 65536 with
  |true=>some (S.set k (.list (l.set j.toNat v)))
  |false=>none)
 |none=>(S[k]?.bind C.gM).bind λp=>i.fg.bind λx=>match ble p.1.length 4000 with
  |true=>some (S.set k (.dict (bX p.1 p.2 x v).1 (bX p.1 p.2 x v).2))
  |false=>none
noncomputable def ZC(o:Option V)(v:V)(S:List C):Option (List C):=o.bind λw=>w.eJ.bind λk=>match (S[k]?.map C.var?) with
 |some true=>some (S.set k (.var (some v)))
 |_=>none
noncomputable def oJ(cf:CF)(gt:eY)(t:Tg)(v:V)(ls:bW)(S:List C):Option (bW×List C):=match t with
 |.loc i _=>some (ls.set i (some v),S)
 |.fC i _=>(ZC (ls[i]?.bind id) v S).map λS=>(ls,S)
 |.attr e n _=>match ev cf ls gt e S with
  |some (.ok o,S)=>(ms o v n S).map λS=>(ls,S)
  |_=>none
 |.sub e i _=>match ev cf ls gt e S with
  |some (.ok o,S)=>(match ev cf ls gt i S with
   |some (.ok j,S)=>(wP o j v S).map λS=>(ls,S)
   |_=>none)
  |_=>none
noncomputable def QE(sc:Scope)(aj:List Str)(gt:eY):Tg->Bool
 |.loc i _=>c7 sc aj i
 |.fC i _=>decide (i<aj.length)&&decide (sc.names.lookup (aj.getD i Str.empty)=some .cell)
 |.attr e _ _=>gN sc aj gt e
 |.sub e i _=>gN sc aj gt e&&gN sc aj gt i
theorem C.A6{c:C}{p:List Str×List V}(h:c.J2=some p):c=.exc p.1 p.2:=by cases c<;>first|((replace h:=aw h;subst h);rfl)|exact aG h
theorem C4{l:List Str}{n:Str}(h:l.any (aD n)=true):n∈l:=by refine ae (List.any_eq_true.mp h) λx a e=>?_;refine (be.mp e)▸?_;exact a
theorem GA{l:Addr}{k:Int}{v:Value}{Q:mE}(b:s.heap.get? l=some {cls:=.type "list",data:=.seq items n})
 (e:0<=k) (d:k<2 ^ 63) (hn:k<items.size)
 (c:Q () {s with heap:=s.heap.update l (Obj.mapSeq (·.setIfInBounds k.toNat v))}):
 wpAny (model prog w) A (setItem (.ref l) (.int k t) v) Q E s:=by
 have a:s.heap.IsList l items:=⟨_,b,rfl,n,rfl⟩
 unfold setItem
 try with_reducible refine cR ?_
 first|refine ax (bn ?_)|skip
 refine ax (wpAny_sequenceKey a.typeIs (by decide) ?_)
 refine ax (lE a.typeIs slot_list_setitem
  (lH slot_list_setitem a.typeIs entry_list_setitem ?_ (args_list_setitem _ _ _)))
 show wpAny _ _ (Builtin.List.listSubscript? (.int k t)>>=_) _ _ s
 refine ax (wpAny_listSubscript_int (fitsIndex_of e d) ?_)
 clear d
 obtain ⟨j,rfl⟩:=Int.eq_ofNat_of_zero_le e
 refine ax (ax (wpAny_seqItemAt b rfl (bn ?_)))
 refine (pn (by exact Int.ofNat_lt.mp hn))▸?_
 refine ax (wpAny_setSeqItemAt b rfl ?_)
 first
  |exact ax (bn (bn ⟨.none,rfl,bn c⟩))
  |exact bn ⟨.none,rfl,bn c⟩
theorem NZ(hv:RV g v y):∀{l:List V} {xs:List Value} {n:Nat},cr g l xs->cr g (l.set n v) (xs.set n y):=by
 intro l;induction l with
 |nil=>
  intro xs n r;obtain rfl:=r.nil_inv;exact .nil
 |cons w l c=>
  intro xs n r;refine aP r.cons_inv λx e d b a=>?_;clear r;subst d;cases n with
  |zero=>exact .cons hv a
  |succ n=>exact .cons b (c a)
theorem sf(j:iA F.toCx)(R:Y1 F g ls S s){o:V}{n:Str}(h:ms o v n S=some S')(q:RV g o x)(hv:RV g v y){Q:mE}(m:∀t,Y1 F g ls S' t->Q () t):wpAny (model F.prog F.w) A (setAttr x n y) Q E s:=by
 refine gl λD r=>?_;refine ae (Y6 h) λk B b=>?_;refine ae (Mf B q) λa z u=>?_;clear h q;subst z;(revert b;cases _:Option.bind S[k]? Internal.C.cls?;rotate_left;all_goals (intro b;dsimp only at b))
 ·rename_i p f;refine ae (Y6 f) λc l f=>?_;obtain rfl:=C.AX f;refine aq (bM b) λd i=>?_;clear b;(replace i:=aw i;subst i);simp only [dD,ri,ble_eq] at d;refine r ?_;refine yu (j.tR.keeps R.base) R u l (j.store _ _ d.1.1 λe=>?_) d.2 hv m;have:=d.1.2;replace this:=e▸this;exact absurd this (by decide)
 ·refine ae (Y6 b) λp f b=>?_;refine ae (Y6 f) λc l f=>?_;obtain rfl:=C.A6 f;refine aq (bM b) λd i=>?_;clear b;clear b;(replace i:=aw i;subst i);simp only [dD,ble_eq] at d;refine r ?_;exact B0 (j.tS.keeps R.base) R u l (C4 d.1) d.2 hv m
theorem zk(R:Y1 F g ls S s){o i:V}{z:Value}(h:wP o i v S=some S')(H:RV g o x)(r:RV g i z)(hv:RV g v y){Q:mE}(D:∀K,Y1 F g ls S' K->Q () K):wpAny (model F.prog F.w) A (setItem x z y) Q E s:=by
 refine gl λU J=>?_;refine ae (Y6 h) λk T b=>?_;refine ae (Mf T H) λa d u=>?_;clear h H;subst d;(revert b;cases _:Option.bind S[k]? Internal.C.gr;rotate_left;all_goals (intro b;dsimp only at b))
 ·rename_i l M;refine ae (Y6 M) λc B m=>?_;obtain rfl:=C.mT m;refine ae (Y6 b) λj P q=>?_;refine ar (intAt P r) λt d=>?_;clear b r;subst d;refine aq (bM q) λf e=>?_;clear q;(replace e:=aw e;subst e);simp only [dD,ek,ble_eq] at f;refine aq (R.cells _ _ _ u B) λO d=>?_;refine bd d λN n I G=>?_;clear d;refine J ?_;refine GA I f.1.1 (pK f) (by rw [(show N.size=l.length from by rw [<-g0,<-G.length])];exact f.1.2) ?_;exact D _ (R.wy u O I (by rw [Array.toList_setIfInBounds];exact NZ hv G) s.toks)
 ·refine ae (Y6 b) λp m b=>?_;refine ae (Y6 m) λc B m=>?_;obtain rfl:=C.mU m;refine ae (Y6 b) λw L q=>?_;refine ar (strAt L r) λt d=>?_;clear b r;subst d;refine aq (bM q) λf e=>?_;clear b q;(replace e:=aw e;subst e);refine J ?_;exact EZ R u B hv (cZ f) D
noncomputable def qe{α:Type}(o:Option α)(K:α->Prop):Prop:=match o with
 |none=>False
 |some a=>K a
theorem qe.bind{o:Option α}{f:α->Option β}{K:β->Prop}(H:qe (o.bind f) K):∃a,o=some a/\qe (f a) K:=by
 cases o with
 |none=>exact H.elim
 |some a=>exact ⟨a,rfl,H⟩
theorem qe.map{o:Option α}{f:α->β}{K:β->Prop}(H:qe (o.map f) K):∃a,o=some a/\K (f a):=by
 cases o with
 |none=>exact H.elim
 |some a=>exact ⟨a,rfl,H⟩
theorem qe.of{o:Option α}{a:α}{K:α->Prop}(e:o=some a)(h:K a):qe o K:=by subst e;exact h
theorem qe.get{o:Option α}{K:α->Prop}(H:qe o K):∃a,o=some a/\K a:=by
 cases o with
 |none=>exact H.elim
 |some a=>exact ⟨a,rfl,H⟩
noncomputable def N0(F:Fx)(g:G)(Q:mE)(q:bW×List C):Prop:=∀g' s',g.Le g'->Y1 F g' q.1 q.2 s'->Q () s'
theorem N0.le{Q:mE}{q:bW×List C}(h:N0 F g Q q)(L:g.Le g'):N0 F g' Q q:=λc a b=>h c a (L.trans b)
theorem C5{o:Option V}(h:ZC o v S=some S'):∃k w,o=some (.ref k)/\S[k]? =some (.var w)/\S'=S.set k (.var (some v)):=by
 refine gl λi e=>?_;refine ae (Y6 h) λu g h=>?_;refine ae (Y6 h) λk d a=>?_;clear h;obtain rfl:=V.gS d;cases b:S[k]? with
 |none=>rw [b] at a;exact aG a
 |some c=>rw [b] at a;cases c with
  |var f=>exact e (iY k f g b ((aw a).symm))
  |_=>exact aG a
theorem QG(h:ls[i]?.bind id=some v):ls[i]? =some (some v):=by
 cases q:ls[i]? with
 |none=>replace h:=q▸h;exact aG h
 |some o=>replace h:=q▸h;exact bA some h
theorem J3(U:bE d F A gt cf)(M:i<F.aj.length)(w:F.env.scope.names.lookup (F.aj.getD i Str.empty)=some .cell)(R:Y1 F g ls S s)(hv:RV g v x)(h:ZC (ls[i]?.bind id) v S=some S'){Q:mE}(H:∀B,Y1 F g ls S' B->Q () B):
 wpAny (model F.prog F.w) A (assign (.Name (F.aj.getD i Str.empty) p) F.env x) Q E s:=by
 refine gl λJ l=>?_
 refine aP (C5 h) λk Z T I N=>?_;clear h;subst N
 have hn:=d9 M
 refine ae R.locs λm K L=>?_
 refine ae (L i _ _ hn (QG T)) λy j n=>?_
 refine ae n.dw λa f z=>?_;clear n;subst f
 refine aq (R.cells k a _ z I) λG f=>?_;refine aP f λo X t hd _=>?_;clear f
 refine l ?_
 rw [eh,hn,ig] at w |-
 replace j:=(lc w)▸j
 refine gl λJ l=>?_
 refine ae (au j) λc W e=>?_
 (injection e with e;subst e)
 refine l ?_
 refine wpAny_assign_Name (wpAny_storeName_cell U.ok.kind w W ⟨o,t,hd⟩ λh' u hs=>?_)
 refine ae u λD P O=>?_;clear u
 exact H _ (R.turn (c':=.var (some v)) z (.head _) (λb o V e=>(hs.2 b V).trans e) ⟨G,D,_,P,O,λw e=>by (replace e:=aw e;subst e);exact ⟨x,rfl,hv⟩⟩ s.toks (λ_ _ e=>C.noConfusion e) (λD Y q r=>by replace q:=t▸q;(replace q:=aw q;subst q);replace r:=hd▸r;cases r))
theorem TU(b:SE F A gt cf ls e){f:V->List C->Option (bW×List C)}{K:bW×List C->Prop}(R:Y1 F g ls S s)(H:qe (match ev cf ls gt e S with|some (.ok o,S)=>f o S|_=>none) K){Q:cH}(c:∀o ay,qe (f o ay) K->∀g' a x,g.Le g'->Y1 F g' ls ay a->RV g' o x->Q x a):wpAny (model F.prog F.w) A (eval (Y3 F.aj gt e) F.env) Q E s:=by
 refine b.v S g s R Q E ?_;cases h:ev cf ls gt e S with
 |none=>rw [h] at H;exact H.elim
 |some p=>
  rw [h] at H;obtain ⟨r,ay⟩:=p;clear h;cases r with
  |ok o=>exact c o ay H
  |exc k=>exact H.elim
theorem sg(a:bE d F A gt cf){t:Tg}(w:QE F.env.scope F.aj gt t=true)(R:Y1 F g ls S s)(hv:RV g v x){Q:mE}(H:qe (oJ cf gt t v ls S) (N0 F g Q)):
 wpAny (model F.prog F.w) A (assign (gO F.aj gt t) F.env x) Q E s:=by
 cases t with
 |loc i p=>
  (delta QE c7 at w;dsimp only at w;simp only [dD,ek] at w)
  exact li a w.2 w.1 R hv λm q=>H g m (.refl g) q
 |fC i p=>
  (delta QE at w;dsimp only at w;simp only [dD,ek] at w)
  refine ae (qe.map H) λay J H=>?_
  exact J3 a w.1 w.2 R hv J λm q=>H g m (.refl g) q
 |attr e n p=>
  show wpAny _ A (assign (.Attribute (Y3 F.aj gt e) n p) F.env x) Q E s
  rw [arm_assign_Attribute]
  exact ax (cR (TU (aJ F ls a e w) R H λo ay H r I y b k c=>ax (g1 (ax (cR (let ⟨_,h,H⟩:=qe.map H;sf a.ok.top k h c (hv.mono b) λu l=>wpAny_release (H r u b l)))))))
 |sub e i p=>
  show wpAny _ A (assign (.Subscript (Y3 F.aj gt e) (Y3 F.aj gt i) p) F.env x) Q E s
  rw [arm_assign_Subscript]
  exact ax (cR (TU (aJ F ls a e (aV w)) R H λo ay H r I y b k c=>ax (cR (TU (aJ F ls a i (aH w)) k H λj aK H C u z f l D=>
   ax (g1 (ax (cR (let ⟨_,h,H⟩:=qe.map H;zk l h (c.mono f) D ((hv.mono b).mono f) λG B=>wpAny_release (H C G (b.trans f) B)))))))))
noncomputable def kL(cf:CF)(gt:eY):List Tg->List V->bW->List C->Option (bW×List C)
 |[],[],ls,S=>some (ls,S)
 |t::ts,v::vs,ls,S=>(oJ cf gt t v ls S).bind λq=>kL cf gt ts vs q.1 q.2
 |_,_,_,_=>none
theorem sh{x:bW}{t:Tg}{ts:List Tg}:kL cf gt (t::ts) (v::vs) x iS=Option.bind (oJ cf gt t v x iS) λq=>kL cf gt ts vs (Prod.fst q) (Prod.snd q):=by rfl
theorem uf:∀{ts:List Tg} {vs:List V} {ls:bW} {S:List C} {K:bW×List C->Prop},qe (kL cf gt ts vs ls S) K->ts.length=vs.length
 |[],[],_,_,_=>@λ_=>rfl
 |t::ts,v::vs,ls,S,K=>@λH=>let ⟨_,_,H⟩:=qe.bind H;bA Nat.succ (uf H)
 |[],_::_,_,_,_=>@λH=>H.elim
 |_::_,[],_,_,_=>@λH=>H.elim
theorem qf(b:bE d F A gt cf){st:Tg->Value->Sem Unit}:∀{ts:List Tg},(∀t∈ts,QE F.env.scope F.aj gt t=true/\∀v,st t v=assign (gO F.aj gt t) F.env v)->∀{vs:List V} {xs:List Value} {ls:bW} {S:List C} {g:G} {s:Shared},Y1 F g ls S s->cr g vs xs->
 ∀{Q:mE},qe (kL cf gt ts vs ls S) (N0 F g Q)->wpAny (model F.prog F.w) A (assignInOrder (ts.map st) xs) Q E s
 |[],_,[],xs,ls,S,g,s=>@λR hv Q H=>by
  obtain rfl:=hv.nil_inv;exact bn (H g s (.refl g) R)
 |t::ts,w,v::vs,xs,ls,S,g,s=>@λR hv Q H=>by
  refine ae (qe.bind H) λq l H=>?_;refine aP hv.cons_inv λx c h f e=>?_;subst h;show wpAny _ A (do holding c (st t x);assignInOrder (ts.map st) c) Q E s;rw [(w t (.head _)).2];refine ax (cR (sg b (w t (.head _)).1 R f (.of l λn o a j=>?_)));refine ae H.get λm i H=>?_;exact qf b (λt k=>w t (.tail _ k)) j (e.mono a) (.of i (H.le a))
 |[],_,_::_,_,_,_,_,_=>@λ_ _ _ H=>H.elim
 |_::_,_,[],_,_,_,_,_=>@λ_ _ _ H=>H.elim
structure yi where
 ts:List Tg
 tup:Option (Nat×Pos)
noncomputable def dp(aj:List Str)(gt:eY)(T:yi):PySem.Expr:=match T.tup with
 |none=>match T.ts with
  |t::_=>gO aj gt t
  |[]=>.Constant .none 0 ⟨0,0,0,0⟩
 |some q=>.Tuple (T.ts.map (gO aj gt)) q.1 q.2
noncomputable def jc(cf:CF)(gt:eY)(T:yi)(v:V)(ls:bW)(S:List C):Option (bW×List C):=match T.tup with
 |none=>kL cf gt T.ts [v] ls S
 |some _=>v.gh.bind λvs=>kL cf gt T.ts vs ls S
noncomputable def SM(sc:Scope)(aj:List Str)(gt:eY)(T:yi):Bool:=T.ts.all (QE sc aj gt)
theorem u6(aj:List Str)(env:Env):∀ts:List Tg,assignEach (ts.map (gO aj gt)) env=ts.map λt=>(false,assign (gO aj gt t) env):=by
 intro ts;induction ts with
 |nil=>exact rfl
 |cons t ts a=>
  have:assignEach (gO aj gt t::ts.map (gO aj gt)) env=(false,assign (gO aj gt t) env)::assignEach (ts.map (gO aj gt)) env:=by cases t<;>rfl
  (refine this▸?_;refine a▸?_);rfl
theorem si(b:bE d F A gt cf){T:yi}(w:SM F.env.scope F.aj gt T=true)(R:Y1 F g ls S s)(hv:RV g v x){Q:mE}(H:qe (jc cf gt T v ls S) (N0 F g Q)):
 wpAny (model F.prog F.w) A (assign (dp F.aj gt T) F.env x) Q E s:=by
 obtain ⟨ts,c⟩:=T
 have w:=List.all_eq_true.mp w
 cases c with
 |none=>
  cases ts with
  |nil=>exact H.elim
  |cons t ts=>
   refine ae (qe.bind H) λq e H=>?_
   cases ts with
   |nil=>exact sg b (w t (.head _)) R hv (.of e H)
   |cons=>exact H.elim
 |some q=>
  refine gl λu k=>?_
  refine ae (qe.bind (f:=λvs=>kL cf gt ts vs ls S) H) λvs e H=>?_
  refine bg (tI e hv) λa l n h i r=>?_;clear hv;subst h
  refine k ?_
  show wpAny _ A (assign (.Tuple (ts.map (gO F.aj gt)) q.1 q.2) F.env (.ref a)) Q E s
  refine Zl (k9 b.ak.hand R) ⟨_,R.cm _ _ i,rfl,_,rfl⟩ (by rw [u6,dG,(show ts.length=l.size from by (refine (uf H)▸?_;refine r.length▸?_;exact g0▸rfl))]) (by rw [u6];exact findIdx?_eq_none_iff.mpr λp j=>by obtain ⟨t,_,rfl⟩:=Ap j;rfl) λh' o=>?_
  rw [u6,List.map_map]
  exact qf b (λt m=>⟨w t m,λv=>rfl⟩) (R.grow o s.toks) r H
variable {T:yi}
theorem Y1.A7(R:Y1 F g ls S s)(w:g.cs[k]? =some a)(u:∀b o,b∉Y4 a->s.heap.get? b=some o->h'.get? b=some o)(M:RC g h' c' a)(t:Nat)
 (E:∀ks vs,c'≠ .exc ks vs) (K:∀x∈Y4 a,∀o fs,s.heap.get? x=some o->o.data=.fields fs->fs[2]?≠some .none):Y1 F g ls (S.set k c') {s with heap:=h',toks:=t}:=by
 have v:∀x∈Y4 a,x∈F.env.locals::g.cs.flatMap Y4:=λx j=>j3 _ (mh w j)
 have C:∀{m:Addr->Option Obj},(∀x∈Y4 a,m x=Option.none)->∀b o,m b=some o->b∉Y4 a:=λv b o e J=>by replace e:=(v b J)▸e;exact aG e
 have n:∀{i:Nat} {b},g.cs[i]? =some b->i≠k->∀y∈Y4 b,y∉Y4 a:=λf l y A j=>fO R.nodup w f l y j y A rfl
 refine ⟨R.gw,λb o e=>u b o (C (λx j=>(R.apart x (v x j)).1) b o e) (R.base b o e),λb o e=>u b o (C (λx j=>(R.apart x (v x j)).2.1) b o e) (R.dI b o e),λb o e=>let ⟨L,q⟩:=R.kZ b o e;⟨L,u b _ (C (λx j=>(R.apart x (v x j)).2.2.1) b o e) q⟩,
  λb o e=>u b o (C (λx j=>(R.apart x (v x j)).2.2.2) b o e) (R.cm b o e),by (simp -iota [];exact R.len),λi b c f d=>?_,R.nodup,R.apart,dU (G.Le.refl _) (λo e=>u _ o (λh=>(yf R.nodup) (mh w h)) e) R.locs,R.gens,R.os,R.bh,?_,R.fN,R.cw,λh e=>let ⟨p,o,fs,q,r⟩:=R.hJ h e;⟨p,o,fs,u _ _ (λz=>K h z o fs q r.1 r.2.1) q,r⟩⟩
 ·by_cases l:i=k
  ·clear n;subst l
   replace f:=w▸f;(replace f:=aw f;subst f)
   have D:i<S.length:=by refine (aS R.len)▸?_;exact (fx w)
   replace d:=(jP D)▸d
   (replace d:=aw d;subst d);exact M
  ·replace d:=(j4 (cy l))▸d
   exact (R.cells i b c f d).at λy A o e=>u y o (n f l y A) e
 ·refine ar R.tb λts T=>?_
  refine ⟨ts,by (refine T.len▸?_;exact length_set▸rfl),λi b ks vs f d=>?_,λy A=>?_,T.nd⟩
  ·refine gl λI B=>?_
   by_cases l:i=k
   ·clear n;subst l
    refine B ?_
    have D:i<S.length:=by refine (aS R.len)▸?_;exact (fx w)
    replace d:=(jP D)▸d
    exact absurd (aw d) (E ks vs)
   ·replace d:=(j4 (cy l))▸d
    refine bd (T.one i b ks vs f d) λo fs p q=>?_
    refine B ?_
    exact gb o fs (u _ _ (n f l _ (.head _)) p) q
  ·refine gl λI B=>?_
   refine aq (T.obj y A) λH r=>?_;refine bd H λo fs p q=>?_;clear H
   refine B ?_
   exact ⟨⟨o,fs,u _ _ (λz=>r.1 (v y z)) p,q⟩,r⟩
theorem zl{l:Addr}{Q:cH}(H:cO A s.heap)(c:s.heap.IsListIter it l i)(h:s.heap.IsList l items)(n:items[i]? =none)
 (u:∀h' e,(∃o,h'.get? e=some o/\o.cls=.type "StopIteration")->(∀b a,b≠it->s.heap.get? b=some a->h'.get? b=some a)->(∃o,h'.get? it=some o)->E (.ref e) {s with heap:=h'}):
 wpAny (model prog w) A (Builtin.SmallTypes.nextOf (.ref it)) Q E s:=by
 refine gl λy v=>?_
 refine bc (id c) λo d D hd=>?_
 refine bc h λB r _ j=>?_;clear h;refine ar j λC p=>?_;clear j
 refine v ?_
 unfold Builtin.SmallTypes.nextOf
 refine ax (lE c.typeIs slot_listiter_next
  (lH slot_listiter_next c.typeIs entry_listiter_next ?_ (args_listiter_next _)))
 show wpAny _ _ (field (.ref it) 0>>=_) _ _ s
 refine ax (dY d hd (x:=.ref l) rfl ?_)
 refine (bj (j2))▸?_
 refine ax (dY d hd (x:=.int i 0) rfl ?_)
 refine ax (wpAny_seqItems r p ?_)
 simp only [tC,n]
 refine ax (jn (ax (j5 d hd (by simp) ?_)))
 have k:∀b a,b≠it->s.heap.get? b=some a->(s.heap.update it (Obj.mapFields (·.setIfInBounds 0 Value.none))).get? b=some a:=λb a g q=>((mG s.heap it _).2 b g).trans q
 refine bP (mW (Q:=λ_ _=>True) (R:=λ_ _=>True) (H.but d hd k) λh' e _ t m=>?_) (λ_ _ f=>f.elim) λ_ _ z=>z
 exact u h' e t (λb a g q=>m b a (k b a g q)) ⟨_,m it _ (mF _ d (j1 (lF hd _)))⟩
theorem GB{e l:Addr}{a:Value}(H:cO A s.heap)
 (g:IsEnum s.heap e it i a) (c:s.heap.IsListIter it l i) (m:s.heap.IsList l items) (j:items[i]? =none)
 (h:∀h',(∀b f,b≠it->s.heap.get? b=some f->h'.get? b=some f)->(∃o,h'.get? it=some o)->Q none {s with heap:=h'}):wpAny (model prog w) A (pyNext (.ref e)) Q E s:=by
 have d:s.TypeIs (.ref e) "enumerate":=⟨_,g,rfl⟩
 unfold pyNext
 refine ax (pw (lE d PySem.F.slot_enumerate_next
  (lH PySem.F.slot_enumerate_next d PySem.F.entry_enumerate_next ?_ (PySem.F.args_enumerate_next_1 _))))
 show wpAny _ _ (field (.ref e) 2>>=_) _ _ _
 refine ax (dY g rfl (x:=.ref it) rfl ?_)
 refine ax (zl H c m j λh' x ⟨o,n,q⟩ k p=>?_)
 refine ax (re ⟨o,n,q⟩ rg ?_)
 exact bn (h _ k p)
theorem ZH(R:Y1 F g ls S s){b:Addr}(h:cC S v=some l)(hv:RV g v (.ref b)):∃xs n,s.heap.get? b=some {cls:=.type "list",data:=.seq xs n}/\cr g l xs.toList:=by refine gl λc a=>?_;refine bg (dB R h hv) λp xs n e r o=>?_;(injection e with e;subst e);refine a ?_;exact gb xs n o r
theorem C6(hA:A.handled=F.hand.map Value.ref)(R:Y1 F g ls S s)(D:g.cs[k]? =some a)(X:S[k]? =some (.enum v i))(Z:cC S v=some l){x1:Nat}{N:Shared->Prop}{P:cH}
 (hsome:∀w,l[i]? =some w->∀g' u x,g.Le g'->Y1 F g' ls (S.set k (.enum v (i+1))) u->RV g' (.tup [.int i,w]) x->P x u)
 (hnone:l[i]? =none->∀u,Y1 F g ls (S.set k .dead) u->N u):
 wpAny (model F.prog F.w) A (pyNext (.ref a.1)) (λr W=>match r with
  |none=>N W
  |some x=>wpAny (model F.prog F.w) A (letOwnedTupleGo (.Tuple elts x1 tp) (.ref a.1) x) (λ_ aN=>P x aN) E' W) E s:=by
 have O:=R.cells _ _ _ D X
 refine gl λGz Q=>?_
 refine gK O λit e2 h f m=>?_;clear O;refine ae f λb U j=>?_;clear f;refine ar m λa1 t=>?_;clear m
 refine bd (ZH R Z U) λT n ho M=>?_
 have V:s.heap.IsList b T:=⟨_,ho,rfl,n,rfl⟩
 have Y:∀x∈Y4 a,∀o B,s.heap.get? x=some o->o.data=.fields B->B[2]?≠some .none:=λx d o B q r=>by
  refine bc j λoi i1 i2 i3=>?_;clear j;simp [Y4,e2] at d;refine aQ d (λf=>?_) (λm=>?_)
  ·clear d;subst f;rw [t] at q;(replace q:=aw q;subst q);(injection r with r;subst r);simp
  ·clear d t e2 h;subst m;rw [i1] at q;(replace q:=aw q;subst q);rw [i3] at r;(injection r with r;subst r);simp
 cases d:l[i]? with
 |none=>
  have Mk:T[i]? =none:=by rw [<-fz,getElem?_eq_none];rw [<-M.length];simpa using d
  refine Q ?_
  refine GB (k9 hA R) t j V Mk λh' hs hi=>?_
  exact hnone d _ (R.A7 D (λc o p e=>hs c o (λz=>p (by simp [Y4,e2,z])) e) (RC.n7 (c:=.dead) (R.cells _ _ _ D X).there hs hi) s.toks (λ_ _ e=>C.noConfusion e) Y)
 |some w=>
  refine ae (M.get d) λy K WT=>?_
  rw [fz] at K
  refine Q ?_
  refine wpAny_pyNext_enum_item t j V K h λh' TS TV TW hsz Cj=>?_
  refine wpAny_letOwnedTupleGo_enum TS λWU TX hs=>?_
  have lt:=cI t
  have I:∀c o,c∉Y4 a->(s.heap.push {cls:=.type "tuple",data:=.seq #[.int i s.toks,y]}).get? c=some o->WU.get? c=some o:=λc o p e=>by
   have J:c≠a.1:=λz=>p (by simp [Y4,z]);refine (hs.2 c J).trans ?_;refine aQ (Heap.get?_push_cases e) (λf=>aq f λm H=>?_) (λe=>?_)
   ·clear f;clear e p J;subst m;subst H;exact TW
   ·exact Cj c o J (λz=>p (by simp [Y4,e2,z])) e
  have L:=R.bR {cls:=.type "tuple",data:=.seq #[.int i s.toks,y]}
  refine hsome w d _ _ _ L ((R.uL (λc o e=>eZ _ e) (gZ _ rfl) (s.toks+1)).A7 (c':=.enum v (i+1)) D I ⟨it,e2,h,⟨b,U.mono L,?_⟩,y,?_⟩ (s.toks+1) (λ_ _ e=>C.noConfusion e) (λx d o B q r=>?_)) (.tup (n:=0) (vs:= #[.int i s.toks,y]) ?_ (.cons (.int _ _) (.cons (WT.mono L) .nil)))
  ·exact TV.extBut hs.extBut (cy h)
  ·have:((i+1:Nat):Int)=(i:Int)+1:=by push_cast;rfl
   rw [this];exact TX
  ·refine aQ (Heap.get?_push_cases q) (λf=>aq f λm H=>?_) (λq=>?_)
   ·clear f;clear q d;subst m;subst H
    cases r
   ·exact Y x d o B q r
  ·simp [G.dn]
section
variable {nm q:Str}{C N:Addr}{bs:List Value}{zm:Bool}{sn:List Str}{sub:List Value}{ab:Bool}{col:Option Bool}{dd:Option Addr}{k0 k1 k2 k3 k5:Option Value}{newId:String}
theorem J4{a:Addr}{b:String}{Q:cH}
 (c:s.heap.get? C=some (excClassObj nm q C N bs [.type "Exception",.type "BaseException",.type "object"] zm sn sub ab col dd k0 k1 k2 k3 k5 newId)) (e:s.heap.get? a=some {cls:=.ref C,dict:=jm,data:=.fields fs,slots:=sl}) (d:Q (.ref a) s):
 wpAny (model prog w) A (excFromValue (.ref a) b) Q E s:=by
 have f:(Value.ref C::[.type "Exception",.type "BaseException",.type "object"]).contains (.type "BaseException")=true:=by rfl
 unfold excFromValue
 obtain ⟨g,gs,h,t,os⟩:=s
 repeat (first|with_reducible refine lG e ?_|with_reducible refine lG c ?_|(with_reducible refine wpAny_isSubtype_exc c ?_;refine f▸?_)|wp_step)
 exact d
theorem C7{a:Addr}{Q:Bool->Shared->Prop}
 (c:s.heap.get? C=some (excClassObj nm q C N bs [.type "Exception",.type "BaseException",.type "object"] zm sn sub ab col dd k0 k1 k2 k3 k5 newId)) (d:s.heap.get? a=some {cls:=.ref C,dict:=jm,data:=.fields fs,slots:=sl}) (b:Q false s):
 wpAny (model prog w) A (isType (.ref a)) Q E s:=by
 obtain ⟨e,gs,f,t,os⟩:=s
 unfold isType
 repeat (first|with_reducible refine lG d ?_|with_reducible refine lG c ?_|wp_step)
 exact b
theorem wQ{a:Addr}{Q:cH}
 (c:s.heap.get? C=some (excClassObj nm q C N bs [.type "Exception",.type "BaseException",.type "object"] zm sn sub ab col dd k0 k1 k2 k3 k5 newId)) (d:s.heap.get? a=some {cls:=.ref C,dict:=jm,data:=.fields fs,slots:=sl}) (b:Q (.ref a) s):
 wpAny (model prog w) A (raisedInstance (.ref a)) Q E s:=by
 obtain ⟨e,gs,f,t,os⟩:=s
 unfold raisedInstance
 repeat (first|with_reducible refine lG d ?_|with_reducible refine lG c ?_|wp_step)
 exact b
end
section
variable {nm q:Str}{C N:Addr}{bs:List Value}{zm:Bool}{sn:List Str}{sub:List Value}{ab:Bool}{col:Option Bool}{dd:Option Addr}{k0 k1 k2 k3 k5:Option Value}{newId:String}
theorem GC{a:Addr}{Q:Bool->Shared->Prop}
 (b:s.heap.get? C=some (excClassObj nm q C N bs [.type "Exception",.type "BaseException",.type "object"] zm sn sub ab col dd k0 k1 k2 k3 k5 newId)) (d:s.heap.get? a=some {cls:=.ref C,dict:=jm,data:=.fields fs,slots:=sl}) (c:Q true s):
 wpAny (model prog w) A (excMatches (.ref a) (.ref C)) Q E s:=by
 obtain ⟨e,gs,f,t,os⟩:=s
 unfold excMatches
 repeat (first|with_reducible refine lG d ?_|with_reducible refine lG b ?_|(with_reducible refine wpAny_isSubtype_exc b ?_;first|rw [(show (Value.ref C::[.type "Exception",.type "BaseException",.type "object"]).contains (.type "BaseException")=true from by simp)]|rw [(show (Value.ref C::[.type "Exception",.type "BaseException",.type "object"]).contains (.ref C)=true from by simp)])|wp_step|(refine wpAny_of_eq tc_notTuple ?_))
 exact c
end
theorem u8(R:Y1 F g ls S s)(h:Zh g S k a):∃jm fs sl,s.heap.get? a.1=some {cls:=.ref bL,dict:=jm,data:=.fields fs,slots:=sl}/\fs.size=6/\fs[2]? =some .none:=by refine gl λq m=>?_;refine aq h λi b=>?_;clear h;refine dZ b λks vs o=>?_;clear b;refine gL (R.cells _ _ _ i o) λb t p e d _=>?_;obtain ⟨c,j,r,sl⟩:=b;refine bc d λfs f l n=>?_;clear d;dsimp only at e f;subst e f;refine m ?_;exact lQ j fs sl p l n
theorem wR(p:iA F.toCx)(r:A.handled=none){x:Sem Value}{Q:Flow->Shared->Prop}(l:wpAny (model F.prog F.w) A x (λv j=>∃g ls S k a,v=.ref a.1/\Y1 F g ls S j/\Zh g S k a/\∀b,Y1 F g ls S b->E (.ref a.1) b) E s):
 wpAny (model F.prog F.w) A (raiseStmt F.env (some x) none) Q E s:=by
 unfold raiseStmt
 refine ax (bP l (λv j f=>?_) λ_ _ h=>h)
 refine gl λC u=>?_
 refine PJ f λg ls S k a o R h t=>?_;clear f;subst o
 refine bg (u8 R h) λG W Y e P U=>?_
 obtain ⟨nm,q,N,Z,D,sub,M,n,I,T,V,O,X,K,c,L,d,B,J,H⟩:=p.tS.keeps R.base
 refine aq h λm i=>?_;clear h;refine dZ i λks vs z=>?_;clear i
 refine u ?_
 refine ax (bn ?_)
 refine ax (cR (J4 d e ?_))
 refine ax (C7 d e ?_)
 refine (bj j2)▸?_
 refine ax (wQ d e ?_)
 refine ax (dg R m z λb y _=>?_)
 exact wpAny_raiseNew_none r (t b y)
noncomputable def Fx.bK(F:Fx)(a:Addr):Fx:={F with hand:=some a}
noncomputable def CF.bK(cf:CF):CF:={cf with hd:=true}
theorem Y1.bK(R:Y1 F g ls S s)(h:Zh g S k a)(T:Zf s.heap a.1):Y1 (F.bK a.1) g ls S s:=by refine gl λn j=>?_;refine bg (u8 R h) λp m u f r l=>?_;refine bg T λo q t c d i=>?_;clear T;refine j ?_;rw [f] at c;(replace c:=aw c;subst c);(injection d with d;subst d);refine ⟨R.gw,R.base,R.dI,R.kZ,R.cm,R.len,R.cells,R.nodup,R.apart,R.locs,R.gens,R.os,R.bh,(let ⟨ts,T⟩:=R.tb;⟨ts,T.len,T.one,T.obj,T.nd⟩),R.fN,R.cw,λb e=>?_⟩;replace e:=aw e;subst e;exact ⟨.inl (mh h.1 (.head _)),_,m,f,rfl,l,t,i⟩
theorem Y1.A8{a:Addr}(R:Y1 (F.bK a) g ls S s)(h:F.hand=none):Y1 F g ls S s:=
 ⟨R.gw,R.base,R.dI,R.kZ,R.cm,R.len,R.cells,R.nodup,R.apart,R.locs,R.gens,R.os,R.bh,(let ⟨ts,T⟩:=R.tb;⟨ts,T.len,T.one,T.obj,T.nd⟩),R.fN,R.cw,λb e=>by rw [h] at e;exact aG e⟩
theorem Y1.zn{a:Addr}(R:Y1 (F.bK a) g ls S s):Zf s.heap a:=by refine gl λh f=>?_;refine aq (R.hJ a rfl) λ_ c=>?_;refine gL c λo d q r _ b=>?_;clear c;refine ar b λt e=>?_;clear b;refine f ?_;exact lQ o d t q r e
theorem bE.bK(b:bE d F A gt cf)(a:Addr):bE d (F.bK a) (A.mark (some (.ref a))) gt cf.bK:=
 ⟨⟨b.ok.kind,b.ok.nd,b.ok.loc,b.ok.globals,b.ok.builtins,b.ok.top,b.ok.tab⟩,⟨b.ak.frames,b.ak.depth,b.ak.units,b.ak.kinds,b.ak.outs,rfl⟩,rfl,b.run,b.mt,b.keep⟩
theorem AK.bK(b:AK F A)(a:Addr):AK (F.bK a) (A.mark (some (.ref a))):=⟨b.frames,b.depth,b.units,b.top,b.frame,b.kinds,b.outs,rfl⟩
theorem C8(j:bE d F A gt cf)(w:c7 F.env.scope F.aj i=true)(R:Y1 F g ls S s){Q:mE}(l:∀k,Y1 F g (ls.set i none) S k->Q () k):
 wpAny (model F.prog F.w) A (do bindName F.env (F.aj.getD i Str.empty) .none;unbindBehindTheSuite F.env (F.aj.getD i Str.empty) pos) Q E s:=by
 (delta c7 at w;simp only [dD,ek] at w)
 have hn:=d9 w.1
 have p:F.aj.getD i Str.empty=F.aj[i]:=by (refine (eh)▸?_;refine hn▸?_;exact ig▸rfl)
 have b:=w.2
 rw [p] at b |-
 refine gl λC z=>?_
 refine ae R.locs λm a o=>?_
 refine z ?_
 have f:(F.env.scope.kind== .class||(F.env.scope.kind== .module&&F.env.locals !=F.env.globals))=false:=by refine j.ok.kind▸?_;rfl
 refine ax (wpAny_bindName (tA b a (λG t r=>?_) f))
 unfold unbindBehindTheSuite
 refine wpAny_onRaise (bP (wpAny_unbindName_local b t (v:=.none) (by simp) f λD u c B=>?_) (λ_ _ q=>q) λ_ _ (h:False)=>h.elim)
 have n:(λx=>if x=F.aj[i] then u else if x=F.aj[i] then some Value.none else m x)=λx=>if x=F.aj[i] then u else m x:=funext λy=>by split<;>rfl
 have c:=n▸c
 exact l _ (R.ET hn b j.ok.nd ⟨a,o⟩ c (r.trans B) (λ_ e=>aG e) (s.toks+1))
inductive Fm where
 |plain
 |fM (ip cp:Pos:=o0)
 |C9 (ip cp:Pos:=o0)
protected noncomputable def Fm.src (m:Fm) (e:PySem.Expr):PySem.Expr:=match m with
 |.plain=>e
 |.fM ip cp=>.Call (.Name "range" ip) [e] [] cp
 |.C9 ip cp=>.Call (.Name "enumerate" ip) [e] [] cp
protected noncomputable def Fm.en:Fm->Bool
 |.C9 _ _=>true
 |_=>false
noncomputable def Fm.ok(sc:Scope):Fm->Bool
 |.plain=>true
 |.fM _ _=>iz sc "range"
 |.C9 _ _=>iz sc "enumerate"
mutual
inductive St where
 |asg (T:yi) (sw:Option (List Nat)) (e:Ex) (p:Pos:=o0)
 |nk (i:Nat) (ip:Pos) (elt src:Ex) (cs:eS) (I:la) (cp p:Pos:=o0)
 |aug (i:Nat) (ip:Pos) (op:Operator) (e:Ex) (p:Pos:=o0)
 |kM (o:Ex) (n:Str) (tp:Pos) (op:Operator) (e:Ex) (p:Pos:=o0)
 |ifs (t:Ex) (b o:dL) (p:Pos:=o0)
 |A9 (t:Ex) (b:dL) (p:Pos:=o0)
 |ret (e:Ex) (p:Pos:=o0)
 |va (p:Pos:=o0)
 |exp (e:Ex) (p:Pos:=o0)
 |fr (T:yi) (m:Fm) (e:Ex) (b:dL) (p:Pos:=o0)
 |s8 (e:Ex) (p:Pos:=o0)
 |wS (b:dL) (gi:Nat) (cp:Pos) (nm:Option Nat) (h:dL) (hp p:Pos:=o0)
 |Ba (b f:dL) (p:Pos:=o0)
 |raw (s:PySem.Stmt)
inductive dL where
 |nil
 |cons (s:St) (r:dL)
end
variable {hb:dL}
mutual
noncomputable def MA(aj:List Str)(gt:eY):St->PySem.Stmt
 |.asg T _ e p=>.Assign [dp aj gt T] (Y3 aj gt e) p
 |.nk i ip elt src cs I cp p=>.Assign [.Name (aj.getD i Str.empty) ip] (Y3 aj gt (.comp elt src cs I cp)) p
 |.aug i ip op e p=>.AugAssign (.Name (aj.getD i Str.empty) ip) op (Y3 aj gt e) p
 |.kM o n tp op e p=>.AugAssign (.Attribute (Y3 aj gt o) n tp) op (Y3 aj gt e) p
 |.ifs t b o p=>.If (Y3 aj gt t) (b5 aj gt b) (b5 aj gt o) p
 |.A9 t b p=>.While (Y3 aj gt t) (b5 aj gt b) [] p
 |.ret e p=>.Return (some (Y3 aj gt e)) p
 |.va p=>.Return none p
 |.exp e p=>.Expr (Y3 aj gt e) p
 |.fr T m e b p=>.For (dp aj gt T) (m.src (Y3 aj gt e)) (b5 aj gt b) [] p
 |.s8 e p=>.Raise (some (Y3 aj gt e)) none p
 |.wS b gi cp nm h hp p=>.Try (b5 aj gt b) [.ExceptHandler (some (.Name (gt.getD gi (Str.empty,0)).1 cp)) (nm.map λi=>aj.getD i Str.empty) (b5 aj gt h) hp] [] [] p
 |.Ba b f p=>.Try (b5 aj gt b) [] [] (b5 aj gt f) p
 |.raw s=>s
noncomputable def b5(aj:List Str)(gt:eY):dL->List PySem.Stmt
 |.nil=>[]
 |.cons s r=>MA aj gt s::b5 aj gt r
end
set_option genCtorIdx true in
inductive Fl where
 |cY
 |ret (v:V)
variable {K:Fl->bW->List C->Prop}
noncomputable abbrev ci:=Option (Rs Fl×bW×List C)
variable {b:bW->List C->ci}
noncomputable def fJ{α:Type}(x:Y5 α)(ls:bW)(f:α->List C->ci):ci:=match x with
 |none=>none
 |some (r,S)=>match r with
  |.ok v=>f v S
  |.exc k=>some (.exc k,ls,S)
theorem ju{f:α->List C->ci}{v:α}:fJ (some (Rs.ok v,S)) ls f=f v S:=by rfl
noncomputable def nn(x:ci)(f:bW->List C->ci):ci:=match x with
 |none=>none
 |some (r,ls,S)=>match r with
  |.ok fl=>match fl with
   |.cY=>f ls S
   |.ret v=>some (.ok (.ret v),ls,S)
  |.exc k=>some (.exc k,ls,S)
theorem Bb{f:bW->List C->ci}:nn none f=none:=by rfl
theorem lj{f:bW->List C->ci}:nn (some (Rs.ok Fl.cY,ls,S)) f=f ls S:=by rfl
theorem vb{f:bW->List C->ci}:nn (some (Rs.ok (Fl.ret v),ls,S)) f=some (Rs.ok (Fl.ret v),ls,S):=by rfl
theorem qP{f:bW->List C->ci}:nn (some (Rs.exc k,ls,S)) f=some (Rs.exc k,ls,S):=by rfl
noncomputable def GF(x:ci)(f:Fl->bW->List C->ci):ci:=match x with
 |some (.ok fl,ls,S)=>f fl ls S
 |_=>none
theorem zo{f:Fl->bW->List C->ci}{a:Fl}:GF (some (Rs.ok a,ls,S)) f=f a ls S:=by rfl
noncomputable def FT(x:Option (bW×List C)):ci:=x.map λq=>(.ok .cY,q.1,q.2)
noncomputable def zp(op:Operator)(a b:V):Option V:=a.int?.bind λx=>b.int?.bind λy=>match op with
 |.Add=>some (.int (x+y))
 |.Sub=>some (.int (x - y))
 |_=>none
noncomputable def putL:List Nat->List V->bW->Option bW
 |[],[],ls=>some ls
 |i::is,v::vs,ls=>putL is vs (ls.set i (some v))
 |_,_,_=>none
noncomputable def nq(cf:CF)(gt:eY)(T:yi)(sw:Option (List Nat))(v:V)(ls:bW)(S:List C):Option (bW×List C):=match sw with
 |none=>jc cf gt T v ls S
 |some is=>v.gh.bind λvs=>(putL is.reverse vs.reverse ls).map λls=>(ls,S)
theorem vc:nq cf gt T none v ls S=jc cf gt T v ls S:=by rfl
noncomputable def jV(t:bW->List C->Y5 V)(b:bW->List C->ci):Nat->bW->List C->ci
 |0,_,_=>none
 |n+1,ls,S=>fJ (t ls S) ls λv S=>match bN v with
  |none=>none
  |some c=>match c with
   |false=>some (.ok .cY,ls,S)
   |true=>nn (b ls S) λls S=>jV t b n ls S
theorem wT{t:bW->List C->Y5 V}{x:bW}:
 jV t b (Nat.succ n) x iS=
  fJ (t x iS) x λv S=>
   match bN v with
   |none=>none
   |some c=>
    match c with
    |false=>some (Rs.ok Fl.cY,x,S)
    |true=>nn (b x S) λls S=>jV t b n ls S:=by rfl
noncomputable def C.GG:C->Option (V×Nat)
 |.enum v i=>some (v,i)
 |_=>none
noncomputable def qg(en:Bool)(S:List C)(k:Nat):Option (Option (V×C)):=S[k]?.bind λc=>match c.nb with
 |some it=>(kc it S).map λr=>r.map λq=>(q.1,.iter q.2)
 |none=>match en with
  |false=>none
  |true=>c.GG.bind λq=>(cC S q.1).map λl=>l[q.2]?.map λw=>(.tup [.int q.2,w],.enum q.1 (q.2+1))
theorem jd:
 qg en S k=
  Option.bind S[k]? λc=>
   match C.nb c with
   |some it=>Option.map (λr=>Option.map (λq=>(Prod.fst q,C.iter (Prod.snd q))) r) (kc it S)
   |none=>
    match en with
    |false=>none
    |true=>Option.bind (C.GG c) λq=>Option.map (λl=>Option.map (λw=>(V.tup [V.int ↑(Prod.snd q),w],C.enum (Prod.fst q) (Prod.snd q+1))) l[Prod.snd q]?) (cC S (Prod.fst q)):=by rfl
noncomputable def fk(b:bW->List C->ci)(pt:V->bW->List C->Option (bW×List C))(en:Bool)(k:Nat):Nat->bW->List C->ci
 |0,_,_=>none
 |n+1,ls,S=>(qg en S k).bind λr=>match r with
  |none=>some (.ok .cY,ls,S.set k .dead)
  |some q=>(pt q.1 ls (S.set k q.2)).bind λp=>nn (b p.1 p.2) λls S=>fk b pt en k n ls S
theorem wU{x:bW}:fk b pt en k 0 x iS=none:=by rfl
theorem gx{x:bW}:
 fk b pt en k (Nat.succ n) x iS=
  Option.bind (qg en iS k) λr=>
   match r with
   |none=>some (Rs.ok Fl.cY,x,List.set iS k C.dead)
   |some q=>Option.bind (pt (Prod.fst q) x (List.set iS k (Prod.snd q))) λp=>nn (b (Prod.fst p) (Prod.snd p)) λls S=>fk b pt en k n ls S:=by rfl
noncomputable def J5(m:Fm)(v:V)(S:List C):Option C:=match m with
 |.plain=>(JJ v S).map .iter
 |.fM _ _=>v.int?.bind λn=>match decide (0<=n/\n<1000000) with
  |true=>some (.iter (.fM 0 n))
  |false=>none
 |.C9 _ _=>(cC S v).map λ_=>.enum v 0
noncomputable def eV(S:List C)(k:Nat):Bool:=(S[k]?.bind C.J2).isSome
noncomputable def qz(nm:Option Nat)(v:Option V)(ls:bW):bW:=match nm with
 |none=>ls
 |some i=>ls.set i v
mutual
noncomputable def gC(cf:CF)(gt:eY):St->bW->List C->ci
 |.asg T sw e _,ls,S=>fJ (ev cf ls gt e S) ls λv S=>FT (nq cf gt T sw v ls S)
 |.nk i _ elt src cs I cp _,ls,S=>fJ (ev cf ls gt (.comp elt src cs I cp) S) ls λv S=>some (.ok .cY,ls.set i (some v),S)
 |.aug i _ op e _,ls,S=>(ls[i]?.bind id).bind λa=>fJ (ev cf ls gt e S) ls λb S=>(zp op a b).bind λv=>some (.ok .cY,ls.set i (some v),S)
 |.kM o n _ op e _,ls,S=>fJ (ev cf ls gt o S) ls λx S=>(fE x n S).bind λa=>fJ (ev cf ls gt e S) ls λb S=>(zp op a b).bind λv=>(ms x v n S).bind λS=>some (.ok .cY,ls,S)
 |.ifs t b o _,ls,S=>fJ (ev cf ls gt t S) ls λv S=>match bN v with
  |Option.none=>Option.none
  |some c=>match c with
   |true=>aT cf gt b ls S
   |false=>aT cf gt o ls S
 |.A9 t b _,ls,S=>jV (λls S=>ev cf ls gt t S) (λls S=>aT cf gt b ls S) cf.N ls S
 |.ret e _,ls,S=>fJ (ev cf ls gt e S) ls λv S=>some (.ok (.ret v),ls,S)
 |.va _,ls,S=>some (.ok (.ret .none),ls,S)
 |.exp e _,ls,S=>fJ (ev cf ls gt e S) ls λv S=>some (.ok .cY,ls,S)
 |.fr T m e b _,ls,S=>fJ (ev cf ls gt e S) ls λv S=>(J5 m v S).bind λc=>fk (λls S=>aT cf gt b ls S) (λv ls S=>jc cf gt T v ls S) m.en S.length cf.N ls (S++[c])
 |.s8 e _,ls,S=>match cf.hd with
  |true=>Option.none
  |false=>fJ (ev cf ls gt e S) ls λv S=>v.eJ.bind λk=>match eV S k with
   |true=>some (.exc k,ls,S)
   |false=>Option.none
 |.wS b _ _ nm h _ _,ls,S=>match aT cf gt b ls S with
  |Option.none=>Option.none
  |some (r,ls,S)=>match r with
   |.ok fl=>some (.ok fl,ls,S)
   |.exc k=>match cf.hd with
    |true=>Option.none
    |false=>GF (aT cf.bK gt h (qz nm (some (.ref k)) ls) S) λfl ls S=>some (.ok fl,qz nm Option.none ls,S)
 |.Ba b f _,ls,S=>match aT cf gt b ls S with
  |Option.none=>Option.none
  |some (r,ls,S)=>match r with
   |.ok fl=>GF (aT cf gt f ls S) λf2 ls S=>match f2 with
    |.cY=>some (.ok fl,ls,S)
    |.ret _=>Option.none
   |.exc k=>match cf.hd with
    |true=>Option.none
    |false=>GF (aT cf.bK gt f ls S) λf2 ls S=>match f2 with
     |.cY=>(match eV S k with
      |true=>some (.exc k,ls,S)
      |false=>Option.none)
     |.ret _=>Option.none
 |.raw _,_,_=>Option.none
noncomputable def aT(cf:CF)(gt:eY):dL->bW->List C->ci
 |.nil,ls,S=>some (.ok .cY,ls,S)
 |.cons s r,ls,S=>nn (gC cf gt s ls S) λls S=>aT cf gt r ls S
end
theorem J6{x:bW}:aT cf gt dL.nil x iS=some (Rs.ok Fl.cY,x,iS):=by rfl
theorem qQ{x:bW}{s:St}{r:dL}:aT cf gt (dL.cons s r) x iS=nn (gC cf gt s x iS) λls S=>aT cf gt r ls S:=by rfl
noncomputable def SN(sc:Scope)(ts vs:List PySem.Expr):Option (Option (List Str)):=
 if (!(ts.length==2||ts.length==3)||vs.length !=ts.length)|| !(sc.kind== .function) then some Option.none
 else if vs.any (λ|.Starred ..=>true|_=>false) then some Option.none
 else if ((ts.filterMap λ|.Name id pos=>if sc.names.lookup id==some .local&&pos.line==(ts.head?.map (·.pos.line)).getD 0 then some id else Option.none|_=>Option.none).length !=ts.length||(ts.filterMap λ|.Name id pos=>if sc.names.lookup id==some .local&&pos.line==(ts.head?.map (·.pos.line)).getD 0 then some id else Option.none|_=>Option.none).eraseDups.length !=(ts.filterMap λ|.Name id pos=>if sc.names.lookup id==some .local&&pos.line==(ts.head?.map (·.pos.line)).getD 0 then some id else Option.none|_=>Option.none).length) then some Option.none
 else if vs.all (foldedForSure 8) then some Option.none
 else if vs.all (constantsAlone 8) then Option.none
 else some (some (ts.filterMap λ|.Name id pos=>if sc.names.lookup id==some .local&&pos.line==(ts.head?.map (·.pos.line)).getD 0 then some id else Option.none|_=>Option.none))
noncomputable def zq(e:Ex):Bool:=match e with
 |.comp _ _ _ _ _=>false
 |.keys _ _ _ _ _=>false
 |_=>true
noncomputable def zr(e:Ex):Option eS:=match e with
 |.tup es _ _=>some es
 |_=>none
noncomputable def J7(t:Tg):Bool:=match t with
 |.attr _ _ _=>true
 |.sub _ _ _=>true
 |_=>false
noncomputable def QI(sc:Scope)(aj:List Str)(gt:eY)(T:yi)(sw:Option (List Nat))(e:Ex):Bool:=match T.tup with
 |none=>sw.isNone&&(match T.ts with
  |[t]=>zq e||J7 t
  |_=>false)
 |some _=>match zr e with
  |none=>sw.isNone
  |some es=>decide (SN sc (T.ts.map (gO aj gt)) (cg aj gt es)=some (sw.map λis=>is.map λi=>aj.getD i Str.empty))&&(match sw with
   |none=>true
   |some is=>is.all (c7 sc aj))
noncomputable def dL.isNil:dL->Bool
 |.nil=>true
 |.cons _ _=>false
mutual
noncomputable def Bc(sc:Scope)(aj:List Str)(gt:eY):St->Bool
 |.asg T sw e _=>SM sc aj gt T&&(gN sc aj gt e&&QI sc aj gt T sw e)
 |.nk i ip elt src cs I cp _=>(c7 sc aj i&&(ip.line==cp.line&& !(I.scope.names.any λ(n,k)=>n==aj.getD i Str.empty&&(k== .local||k== .cell))))&&gN sc aj gt (.comp elt src cs I cp)
 |.aug i _ _ e _=>c7 sc aj i&&gN sc aj gt e
 |.kM o _ _ _ e _=>gN sc aj gt o&&gN sc aj gt e
 |.ifs t b o _=>gN sc aj gt t&&(nr sc aj gt b&&nr sc aj gt o)
 |.A9 t b _=>gN sc aj gt t&&nr sc aj gt b
 |.ret e _=>gN sc aj gt e
 |.va _=>true
 |.exp e _=>zq e&&gN sc aj gt e
 |.fr T m e b _=>(SM sc aj gt T&&(m.ok sc&&(!m.en||T.tup.isSome)))&&(gN sc aj gt e&&nr sc aj gt b)
 |.s8 e _=>gN sc aj gt e
 |.wS b gi _ nm h _ _=>((kD sc gt gi&&beq (gt.getD gi (Str.empty,0)).2 bL)&&(!h.isNil&&(match nm with
  |Option.none=>true
  |some i=>c7 sc aj i)))&&(nr sc aj gt b&&nr sc aj gt h)
 |.Ba b f _=> !f.isNil&&(nr sc aj gt b&&nr sc aj gt f)
 |.raw _=>true
noncomputable def nr(sc:Scope)(aj:List Str)(gt:eY):dL->Bool
 |.nil=>true
 |.cons s r=>Bc sc aj gt s&&nr sc aj gt r
end
theorem vd{e p1}:gC cf gt (.ret e p1) ls S=fJ (ev cf ls gt e S) ls λv S=>some (.ok (.ret v),ls,S):=rfl
theorem Bd{e p1}:gC cf gt (.exp e p1) ls S=fJ (ev cf ls gt e S) ls λv S=>some (.ok .cY,ls,S):=rfl
theorem ve{T sw e p1}:gC cf gt (.asg T sw e p1) ls S=fJ (ev cf ls gt e S) ls λv S=>FT (nq cf gt T sw v ls S):=rfl
theorem Be{i p1 op e p2}:gC cf gt (.aug i p1 op e p2) ls S=(ls[i]?.bind id).bind λa=>fJ (ev cf ls gt e S) ls λb S=>(zp op a b).bind λv=>some (.ok .cY,ls.set i (some v),S):=rfl
theorem wV{o n p1 op e p2}:gC cf gt (.kM o n p1 op e p2) ls S=fJ (ev cf ls gt o S) ls λx S=>(fE x n S).bind λa=>fJ (ev cf ls gt e S) ls λb S=>(zp op a b).bind λv=>(ms x v n S).bind λS=>some (.ok .cY,ls,S):=rfl
theorem vf{t b o p1}:gC cf gt (.ifs t b o p1) ls S=fJ (ev cf ls gt t S) ls λv S=>match bN v with
 |none=>none
 |some c=>match c with
  |true=>aT cf gt b ls S
  |false=>aT cf gt o ls S:=rfl
theorem Bf{e p1}:gC cf gt (.s8 e p1) ls S=match cf.hd with
 |true=>none
 |false=>fJ (ev cf ls gt e S) ls λv S=>v.eJ.bind λk=>match eV S k with
  |true=>some (.exc k,ls,S)
  |false=>none:=rfl
theorem vg{b p1 p2 nm h p3 p4}:gC cf gt (.wS b p1 p2 nm h p3 p4) ls S=match aT cf gt b ls S with
 |none=>none
 |some (r,ls,S)=>match r with
  |.ok a=>some (.ok a,ls,S)
  |.exc k=>match cf.hd with
   |true=>none
   |false=>GF (aT cf.bK gt h (qz nm (some (.ref k)) ls) S) λa ls S=>some (.ok a,qz nm none ls,S):=rfl
theorem vh{b f p1}:gC cf gt (.Ba b f p1) ls S=match aT cf gt b ls S with
 |none=>none
 |some (r,ls,S)=>match r with
  |.ok c=>GF (aT cf gt f ls S) λa ls S=>match a with
   |.cY=>some (.ok c,ls,S)
   |.ret _=>none
  |.exc k=>match cf.hd with
   |true=>none
   |false=>GF (aT cf.bK gt f ls S) λa ls S=>match a with
    |.cY=>(match eV S k with
     |true=>some (.exc k,ls,S)
     |false=>none)
    |.ret _=>none:=rfl
theorem GH{T m e b p1}:gC cf gt (.fr T m e b p1) ls S=fJ (ev cf ls gt e S) ls λv S=>(J5 m v S).bind λc=>fk (λls S=>aT cf gt b ls S) (λv ls S=>jc cf gt T v ls S) m.en S.length cf.N ls (S++[c]):=rfl
theorem J8{t b p1}:gC cf gt (.A9 t b p1) ls S=jV (λls S=>ev cf ls gt t S) (λls S=>aT cf gt b ls S) cf.N ls S:=rfl
theorem wW{i p1 elt src cs I cp p2}:gC cf gt (.nk i p1 elt src cs I cp p2) ls S=fJ (ev cf ls gt (.comp elt src cs I cp) S) ls λv S=>some (.ok .cY,ls.set i (some v),S):=rfl
noncomputable def RF(g:G):Fl->Flow->Prop
 |.cY,.next=>True
 |.ret v,.ret x=>RV g v x
 |_,_=>False
theorem RF.mono(L:g.Le g'){f:Fl}{x:Flow}(h:RF g f x):RF g' f x:=by
 cases f with
 |cY=>cases x<;>exact h
 |ret v=>cases x with
  |ret x=>exact RV.mono L h
  |_=>exact h
theorem RF.vi{x:Flow}(h:RF g .cY x):x=.next:=by cases x<;>first|rfl|exact h.elim
theorem RF.J9{x:Flow}(h:RF g (.ret v) x):∃y,x=.ret y/\RV g v y:=by cases x<;>first|exact ⟨_,rfl,h⟩|exact h.elim
noncomputable def cE(o:ci)(K:Fl->bW->List C->Prop)(X:Nat->bW->List C->Prop):Prop:=match o with
 |none=>False
 |some (r,ls,S)=>match r with
  |.ok f=>K f ls S
  |.exc k=>X k ls S
theorem cE.mono{o:ci}{b:Fl->bW->List C->Prop}{a:Nat->bW->List C->Prop}(H:cE o K X)(h:∀f ls S,K f ls S->b f ls S)(c:∀k ls S,X k ls S->a k ls S):cE o b a:=by
 cases o with
 |none=>exact H
 |some p=>
  obtain ⟨r,ls,S⟩:=p;cases r with
  |ok v=>exact h v ls S H
  |exc k=>exact c k ls S H
theorem vj{x:Y5 α}{f:α->List C->ci}(H:cE (fJ x ls f) K X):Y7 x (λv S=>cE (f v S) K X) (λk S=>X k ls S):=by
 cases x with
 |none=>exact H
 |some p=>obtain ⟨r,S⟩:=p;cases r<;>exact H
theorem zt{x:ci}{f:Fl->bW->List C->ci}(H:cE (GF x f) K X):cE x (λa ls S=>cE (f a ls S) K X) (λ_ _ _=>False):=by
 cases x with
 |none=>exact H
 |some p=>obtain ⟨r,ls,S⟩:=p;cases r<;>exact H
theorem cE.fF{o:Option α}{f:α->ci}(H:cE (o.bind f) K X):∃a,o=some a/\cE (f a) K X:=by
 cases o with
 |none=>exact H.elim
 |some a=>exact ⟨a,rfl,H⟩
theorem QJ{f:Bool->ci}(H:cE (match bN v with|none=>none|some q=>f q) K X):∃b,bN v=some b/\cE (f b) K X:=by
 cases e:bN v with
 |none=>replace H:=e▸H;exact H.elim
 |some b=>replace H:=e▸H;exact ⟨b,rfl,H⟩
noncomputable def KF(F:Fx)(g:G)(Q:Flow->Shared->Prop)(f:Fl)(ls:bW)(S:List C):Prop:=∀g' s' fl,g.Le g'->Y1 F g' ls S s'->RF g' f fl->Q fl s'
theorem KF.le{Q:Flow->Shared->Prop}{f:Fl}(h:KF F g Q f ls S)(L:g.Le g'):KF F g' Q f ls S:=λb s x a=>h b s x (L.trans a)
noncomputable def dS(F:Fx)(g:G)(Q:Flow->Shared->Prop)(E:cH)(o:ci):Prop:=cE o (KF F g Q) (λk ls S=>XE F ls g E k S)
theorem dS.le{Q:Flow->Shared->Prop}{o:ci}(H:dS F g Q E o)(L:g.Le g'):dS F g' Q E o:=cE.mono H (λ_ _ _ h=>h.le L) λ_ _ _ h=>h.le L
theorem dS.cY{Q:Flow->Shared->Prop}(H:dS F g Q E (some (.ok .cY,ls,S)))(L:g.Le g')(R:Y1 F g' ls S s):Q .next s:=H g' s .next L R trivial
theorem dS.andThen{Q Q₁:Flow->Shared->Prop}{x:ci}{f:bW->List C->ci}(H:dS F g Q E (nn x f))(hn:∀ls S g' a,dS F g' Q E (f ls S)->g.Le g'->Y1 F g' ls S a->Q₁ .next a)(d:∀v s,Q (.ret v) s->Q₁ (.ret v) s)(c:∀k ls S,XE F ls g E k S->XE F ls g md k S):dS F g Q₁ md x:=by
 cases x with
 |none=>exact H
 |some p=>
  obtain ⟨r,ls,S⟩:=p;cases r with
  |exc k=>exact c k ls S H
  |ok e=>cases e with
   |cY=>exact λg' a x L R b=>by obtain rfl:=b.vi;exact hn ls S g' a (dS.le H L) L R
   |ret v=>exact λg' a x L R b=>by obtain ⟨y,rfl,h⟩:=b.J9;exact d y a (H g' a _ L R b)
noncomputable def QK(F:Fx)(A:Around)(t:Sem Flow)(f:bW->List C->ci):Prop:=∀ls S g s,Y1 F g ls S s->∀Q E,dS F g Q E (f ls S)->wpAny (model F.prog F.w) A t Q E s
structure Good (d:Nat) (sc:Scope) (aj:List Str) (gt:eY) (F:Fx) (A:Around) (cf:CF):Prop where
 ev:bE d F A gt cf
 ak:AK F A
 int:interactive F.env=false
 sc:F.env.scope=sc
 aj:F.aj=aj
theorem Good.bK(H:Good d sc aj gt F A cf)(a:Addr):Good d sc aj gt (F.bK a) (A.mark (some (.ref a))) cf.bK:=⟨H.ev.bK a,H.ak.bK a,H.int,H.sc,H.aj⟩
noncomputable def SS(d:Nat)(sc:Scope)(aj:List Str)(gt:eY)(st:St):Prop:=∀F A cf,Good d sc aj gt F A cf->QK F A (exec (MA aj gt st) F.env) (gC cf gt st)
noncomputable def I8(d:Nat)(sc:Scope)(aj:List Str)(gt:eY)(b:dL):Prop:=∀F A cf,Good d sc aj gt F A cf->QK F A (execs (b5 aj gt b) F.env) (aT cf gt b)
theorem sj{f:V->List C->ci}(H:dS F g Q' E (fJ (ev cf ls gt e S) ls f))(c:SE F A gt cf ls e)(R:Y1 F g ls S s){Q:cH}
 (d:∀a ay g' b x,dS F g' Q' E (f a ay)->g.Le g'->Y1 F g' ls ay b->RV g' a x->Q x b):wpAny (model F.prog F.w) A (eval (Y3 F.aj gt e) F.env) Q E s:=
 c.v S g s R Q E (Y7.mono (vj H) (λa ay H g' b x L R i=>d a ay g' b x (dS.le H L) L R i) λ_ _ h=>h)
theorem MB{f:Bool->List C->ci}(H:dS F g Q' E (fJ (ev cf ls gt e S) ls λx S=>match bN x with|none=>none|some q=>f q S))(h:SE F A gt cf ls e)(R:Y1 F g ls S s)(c:∀k S,XE F ls g E k S->XE F ls g md k S){Q:Bool->Shared->Prop}
 (d:∀b ay g' a,dS F g' Q' E (f b ay)->g.Le g'->Y1 F g' ls ay a->Q b a):wpAny (model F.prog F.w) A (isTrue (Y3 F.aj gt e) F.env (eval (Y3 F.aj gt e) F.env)) Q md s:=
 h.t S g s R Q md (Y7.mono (vj H) (λv ay H=>let ⟨b,e,H⟩:=QJ H;.mk e λg' a L i=>d b ay g' a (dS.le H L) L i) c)
theorem GI(e:Ex)(h:zq e=true)(t:Option PySem.Expr)(n:Nat)(env:Env):swapsWith (Y3 aj gt e) t n env=pure false:=by cases e<;>first|rfl|exact eI h
theorem Bg(e:Ex)(t:PySem.Expr)(a:∀x p,t≠ .Name x p)(n:Nat)(env:Env):swapsWith (Y3 aj gt e) (some t) n env=pure false:=by
 cases e with
 |comp=>cases t<;>first|rfl|exact absurd rfl (a _ _)
 |keys k=>cases k<;>cases t<;>first|rfl|exact absurd rfl (a _ _)
 |_=>rfl
theorem Db(t:PySem.Expr)(a:∀x k p,t≠ .Tuple x k p)(b:∀x p,t≠ .List x p)(v:PySem.Expr)(env:Env):swappedStores [t] v env=pure none:=by cases t<;>first|rfl|exact absurd rfl (a _ _ _)|exact absurd rfl (b _ _)
theorem Dc(ts:List PySem.Expr)(k:Nat)(p:Pos)(e:Ex)(h:zr e=none)(env:Env):swappedStores [.Tuple ts k p] (Y3 aj gt e) env=pure none:=by
 cases e with
 |tup=>exact aG (aS h)
 |keys k=>clear h;cases k<;>rfl
 |_=>rfl
theorem N1{ts vs:List PySem.Expr}{o:Option (List Str)}(e:env.scope.kind=.function)(h:SN env.scope ts vs=some o)(k f:Nat)(p j:Pos):swappedStores [.Tuple ts k p] (.Tuple vs f j) env=pure o:=by
 have i:env.blockKind=.function:=by unfold Env.blockKind;rw [e];rfl
 unfold SN at h;unfold swappedStores;dsimp only;rw [i];rw [e] at h;split at h
 ·rename_i d;replace h:=aw h;subst h;rw [bx (by simpa using d)]
 ·rename_i d;rw [bj (by simpa using d)];split at h
  ·rename_i c;replace h:=aw h;subst h;rw [bx (by exact c)]
  ·rename_i c;rw [bj (by exact c)];split at h
   ·rename_i b;replace h:=aw h;subst h;rw [bx (by exact b)]
   ·rename_i b;rw [bj (by exact b)];split at h
    ·rename_i a;replace h:=aw h;subst h;rw [bx a]
    ·rename_i a;rw [bj a];split at h
     ·exact aG h
     ·rename_i g;replace h:=aw h;subst h;rw [bj g];rfl
theorem wX(T:yi)(env:Env):(assignEach [dp aj gt T] env).map (·.2)=[assign (dp aj gt T) env]:=by
 unfold dp;cases T.tup with
 |some q=>rfl
 |none=>cases T.ts with
  |nil=>rfl
  |cons t ts=>cases t<;>rfl
theorem sk(c:bE d F A gt cf):∀{is:List Nat},(∀i∈is,c7 F.env.scope F.aj i=true)->∀{vs:List V} {xs:List Value} {ls:bW} {S:List C} {g:G} {s:Shared},Y1 F g ls S s->cr g vs xs->
 ∀{Q:mE},qe (putL is vs ls) (λbr=>∀f,Y1 F g br S f->Q () f)->wpAny (model F.prog F.w) A (assignInOrder (is.map λi=>bindName F.env (F.aj.getD i Str.empty)) xs) Q E s
 |[],_,[],xs,ls,S,g,s=>@λR hv Q H=>by
  obtain rfl:=hv.nil_inv;exact bn (H s R)
 |i::is,w,v::vs,xs,ls,S,g,s=>@λR hv Q H=>by
  refine aP hv.cons_inv λx h q o l=>?_;subst q;have b:=w i (.head _);simp only [c7,dD,ek] at b;have hn:=d9 b.1;refine ae R.locs λm a j=>?_;show wpAny _ A (do holding h (bindName F.env (F.aj.getD i Str.empty) x);assignInOrder (is.map λi=>bindName F.env (F.aj.getD i Str.empty)) h) Q E s;have e:=b.2;have p:F.aj.getD i Str.empty=F.aj[i]:=by rw [eh,hn,ig]
  rw [p] at e |-;exact ax (cR (wpAny_bindName (tA e a (λh' n hs=>sk c (λi k=>w i (.tail _ k)) (R.store hn e c.ok.nd ⟨a,j⟩ n hs o _) l H) (by rw [c.ok.kind];rfl))))
 |[],_,_::_,_,_,_,_,_=>@λ_ _ _ H=>H.elim
 |_::_,_,[],_,_,_,_,_=>@λ_ _ _ H=>H.elim
theorem wY:∀{is:List Nat} {vs:List V} {ls br:bW},putL is vs ls=some br->is.length=vs.length
 |[],[],_,_=>@λ_=>rfl
 |i::is,v::vs,ls,br=>@λh=>bA Nat.succ (wY (is:=is) (vs:=vs) h)
 |[],_::_,_,_=>@λh=>aG h
 |_::_,[],_,_=>@λh=>aG h
theorem cr.rev(h:cr g vs xs):cr g vs.reverse xs.reverse:=by
 induction vs generalizing xs with
 |nil=>obtain rfl:=h.nil_inv;exact .nil
 |cons v vs b=>
  refine aP h.cons_inv λx e c a d=>?_;clear h;subst c;rw [reverse_cons,reverse_cons];exact (b d).append (.cons a .nil)
theorem wZ{x:Option (bW×List C)}{Q:Flow->Shared->Prop}(H:dS F g Q E (FT x)):qe x (N0 F g λ_ s=>Q .next s):=by
 cases x with
 |none=>exact H
 |some q=>exact λb a L R=>H b a .next L R trivial
theorem oK(h:bE d F A gt cf)(w:SM F.env.scope F.aj gt T=true)(b:SE F A gt cf ls e)(R:Y1 F g ls S s){Q:Flow->Shared->Prop}(H:dS F g Q E (fJ (ev cf ls gt e S) ls λv S=>FT (jc cf gt T v ls S)))(j:swapsWithSole [dp F.aj gt T] (Y3 F.aj gt e) p.line F.env=pure false)(c:swappedStores [dp F.aj gt T] (Y3 F.aj gt e) F.env=pure none):
 wpAny (model F.prog F.w) A (exec (.Assign [dp F.aj gt T] (Y3 F.aj gt e) p) F.env) Q E s:=
 wpAny_Assign_stores (sj H b R λa ay k m x H l i f=>by rw [wX];exact si h w i f (wZ H)) j c
theorem GJ(q:bE d F A gt cf){is:List Nat}(w:is.all (c7 F.env.scope F.aj)=true)(B:SE F A gt cf ls e)(R:Y1 F g ls S s){Q:Flow->Shared->Prop}(H:dS F g Q E (fJ (ev cf ls gt e S) ls λv S=>FT (nq cf gt T (some is) v ls S)))(M:swapsWithSole [dp F.aj gt T] (Y3 F.aj gt e) p.line F.env=pure false)(C:swappedStores [dp F.aj gt T] (Y3 F.aj gt e) F.env=pure (some (is.map λi=>F.aj.getD i Str.empty))):
 wpAny (model F.prog F.w) A (exec (.Assign [dp F.aj gt T] (Y3 F.aj gt e) p) F.env) Q E s:=by
 rw [exec_Assign_arm]
 refine ax (g1 ?_)
 rw [M]
 refine ax (bn ?_)
 rw [bj (by decide)]
 refine ax (sj H B R λa ay J r x H N f h=>?_)
 refine gl λO D=>?_
 refine ae (qe.bind (wZ H)) λvs L o=>?_
 refine ae (qe.map o) λl j t=>?_
 clear H o
 refine bg (tI L h) λb G n u z m=>?_;clear h;subst u
 refine D ?_
 rw [C]
 refine ax (bn ?_)
 show wpAny _ A (do
  rule "assign.swapped-stores"
  let items<-unpackItems (.ref b) (is.map λi=>F.aj.getD i Str.empty).length none
  assignInOrder ((is.map λi=>F.aj.getD i Str.empty).reverse.map λn=>bindName F.env n) items.reverse
  pure .next) Q E r
 have c:is.length=G.size:=by have:=wY j;rw [length_reverse,length_reverse] at this;rw [this,m.length,g0]
 refine ax (jn (ax (qc (k9 q.ak.hand f) ⟨_,f.cm _ _ z,rfl,_,rfl⟩ (by rw [dG,c]) λh' k=>ax ?_)))
 rw [<-map_reverse,List.map_map]
 exact sk q (λi y=>List.all_eq_true.mp w i (mem_reverse.mp y)) (f.grow k r.toks) m.rev (.of j λK I=>bn (t J K (.refl _) I))
theorem GK{l:Option (List Nat)}(w:Bc sc aj gt (.asg T l e p)=true):SS d sc aj gt (.asg T l e p):=by
 intro F A cf G ls S g s R Q E H;obtain ⟨i,D,C,rfl,rfl⟩:=G;have v:=aV w;have j:=aJ F ls i e (aV (aH w));have a:=aH (aH w);show wpAny _ A (exec (.Assign [dp F.aj gt T] (Y3 F.aj gt e) p) F.env) Q E s;unfold QI at a;(revert a;clear w;cases _:Internal.yi.tup T;all_goals (intro a;dsimp only at a))
 ·rename_i z;have u:l=none:=by simpa using aV a
  subst u;have b:=aH a;cases h:T.ts with
  |nil=>rw [h] at b;exact eI b
  |cons t r=>cases r with
   |cons _ _=>rw [h] at b;exact eI b
   |nil=>
  ·rw [h] at b;dsimp only at b;have f:dp F.aj gt T=gO F.aj gt t:=by unfold dp;(refine z▸?_;exact h▸rfl)
   refine oK i v j R H ?_ ?_
   ·refine f▸?_;refine aQ (Bool.or_eq_true_iff.mp b) (λb=>?_) (λb=>?_)
    ·exact GI e b _ _ _
    ·exact Bg e _ (λx q c=>by clear h;cases t<;>first|exact eI b|(cases c;done)) _ _
   ·rw [f];exact Db _ (λx k q c=>by clear h;cases t<;>first|exact aG c|cases c) (λx q c=>by clear b h f;cases t<;>cases c) _ _
 ·rename_i q z;have f:dp F.aj gt T=.Tuple (T.ts.map (gO F.aj gt)) q.1 q.2:=by unfold dp;exact z▸rfl
  have n:swapsWithSole [dp F.aj gt T] (Y3 F.aj gt e) p.line F.env=pure false:=by refine f▸?_;exact Bg e (.Tuple (T.ts.map (gO F.aj gt)) q.1 q.2) (λx q c=>by cases c) p.line F.env
  (revert a;cases _:zr e;all_goals (intro a;dsimp only at a))
  ·rename_i hn;have u:l=none:=by simpa using a
   clear a;subst u;exact oK i v j R H n (by refine f▸?_;exact Dc _ _ _ e hn _)
  ·rename_i es o;obtain ⟨B,y,rfl⟩:∃B y,e=.tup es B y:=by clear H n j;cases e<;>first|((replace o:=aw o;subst o);exact ⟨_,_,rfl⟩)|exact aG o
   have m:=N1 i.ok.kind (f9 (aV a)) q.1 B q.2 y;replace m:=(aS f)▸m;cases l with
   |none=>exact oK i v j R H n m
   |some is=>exact GJ i (aH a) j R H n m
protected theorem y7.keep {a:Addr} (R:Y1 F g ls S s) (J:y7 F g S a s.heap) (k:∀b o,b≠F.env.locals->s.heap.get? b=some o->h'.get? b=some o):y7 F g S a h':=by
 refine ae J.tb λts T j=>?_;refine ⟨J.free,J.off,ts,⟨T.len,λi b ks vs f l=>?_,λy h=>?_,T.nd⟩,j⟩
 ·refine bd (T.one i b ks vs f l) λo c q1 q2=>?_;exact gb o c (k _ _ (R.zb f) q1) q2
 ·refine gl λn m=>?_;refine ck (T.obj y h) λd q3 q4=>?_;refine bd d λo c q1 q2=>?_;clear d;refine m ?_;exact ⟨⟨o,c,k _ _ (λe=>q3 (e▸ .head _)) q1,q2⟩,q3,q4⟩
theorem Dd{cs:eS}(w:Bc sc aj gt (.nk i ip elt src cs I cp p)=true):SS d sc aj gt (.nk i ip elt src cs I cp p):=by
 intro F A cf G ls S g s R Q E H;obtain ⟨b,D,B,rfl,rfl⟩:=G;have a:=aV (aV w);simp only [c7,dD,ek] at a;have q:swapsWith (Y3 F.aj gt (.comp elt src cs I cp)) (some (.Name (F.aj.getD i Str.empty) ip)) p.line F.env=pure true:=by
  show (pure (F.env.blockKind== .function&&F.env.kindOf (F.aj.getD i Str.empty)==some .local&&ip.line==cp.line&& !(I.scope.names.any λ(n,k)=>n==F.aj.getD i Str.empty&&(k== .local||k== .cell))):Sem Bool)=pure true;have y:F.env.blockKind=.function:=by unfold Env.blockKind;rw [b.ok.kind];rfl
  rw [y,(show F.env.kindOf (F.aj.getD i Str.empty)=some .local from a.2),aV (aH (aV w)),aH (aH (aV w))];rfl
 refine (exec_Assign_Name_used _ _ _ _ q)▸?_;refine ax (g1 (ax ?_));have w:=aH w;refine bP (ax ?_) (λ_ z h=>bn h) λ_ _ h=>h;refine bP ?_ (λ_ _ h=>bn h) λ_ _ h=>h;refine ub b (aV w) (aJ F ls b src (aV (aH w))) (λj cz f e1 e2=>aJ j cz f elt (by (refine e1▸?_;refine e2▸?_);exact aV (aH (aH w)))) (λj cz f e1 e2=>db j cz f cs (by (refine e1▸?_;refine e2▸?_);exact aH (aH (aH w)))) R
  (Y7.mono (vj H) (λv S' H C z x c L l J ⟨m,o,es,r,e2,u⟩ hv=>r9 b a.2 a.1 l hv λK t k=>⟨m,⟨o,es,r,k _ _ (λe=>J.off (e▸ .head _)) e2,u⟩,λh' hs=>dS.cY H L ((J.keep l k).rel t hs)⟩) λ_ _ h=>h)
theorem ug{a b:V}{Q:cH}(h:zp op a b=some v)(f:RV g a x)(e:RV g b y)(d:∀z t,RV g v z->Q z {s with toks:=t}):wpAny (model prog w) A (inplaceOp op x y) Q E s:=by
 refine ae (Y6 h) λi l h=>?_;refine ae (Y6 h) λj k h=>?_;clear h;obtain rfl:=V.gR l;clear h;obtain rfl:=V.gR k;refine ar f.int_inv λt c=>?_;clear f;subst c;refine ar e.int_inv λu c=>?_;clear e;subst c;cases op with
 |Add=>exact iadd_int (d _ _ (aw h▸ .int _ _))
 |Sub=>exact isub_int (d _ _ (aw h▸ .int _ _))
 |_=>exact aG h
theorem GL(w:Bc sc aj gt (.aug i ip op e p)=true):SS d sc aj gt (.aug i ip op e p):=by
 intro F A cf G ls S g s R Q E H;obtain ⟨c,M,L,rfl,rfl⟩:=G;refine ae (cE.fF H) λa J H=>?_;have h:=aV w;simp only [c7,dD,ek] at h;have hn:=d9 h.1;refine gl λK D=>?_;refine ae R.locs λm f r=>?_;refine ae (r i _ a hn (QG J)) λx j hv=>?_;have k:F.aj.getD i Str.empty=F.aj[i]:=by rw [eh,hn,ig]
 have l1:=h.2;rw [k] at l1;rw [rR l1] at j;refine D ?_;refine wpAny_AugAssign_Name ?_;rw [k];refine wpAny_loadName_local c.ok.kind l1 f j (sj H (aJ F ls c e (aH w)) R λb ay N P y H q l o=>?_);refine ae (cE.fF H) λv C H=>?_;refine ug C (hv.mono q) o λz t u=>?_;refine ae ((l.toks t).locs) λO n I=>?_;exact tA l1 n (λh' B hs=>dS.cY H (.refl _) ((l.toks t).store hn l1 c.ok.nd ⟨n,I⟩ B hs u _)) (by rw [c.ok.kind];rfl)
theorem De{o:Ex}{n:Str}(w:Bc sc aj gt (.kM o n tp op e p)=true):SS d sc aj gt (.kM o n tp op e p):=by intro F A cf G ls S g s R Q E H;obtain ⟨c,L,C,rfl,rfl⟩:=G;refine wpAny_AugAssign_AttributeAny (sj H (aJ F ls c o (aV w)) R λx ay M O P H y i f=>?_);refine ae (cE.fF H) λa u H=>?_;refine uV c i u f λT l=>sj H (aJ F ls c e (aH w)) (i.toks _) λb aK D N K H h q r=>?_;refine gl λB m=>?_;refine ae (cE.fF H) λv hv H=>?_;refine ae (cE.fF H) λJ hs H=>?_;refine m ?_;exact ug hv (l.mono h) r λz t k=>sf c.ok.top (q.toks t) hs (f.mono h) k λI j=>dS.cY H (.refl _) j
theorem GN{t:Ex}{b o:dL}(w:Bc sc aj gt (.ifs t b o p)=true)(i:I8 d sc aj gt b)(k:I8 d sc aj gt o):SS d sc aj gt (.ifs t b o p):=by
 intro F A cf G ls S g s R Q E H;obtain ⟨j,n,m,rfl,rfl⟩:=id G;refine wpAny_If (MB H (aJ F ls j t (aV w)) R (λ_ _ h=>h) λc ay e f H l a=>?_);cases c with
 |true=>exact i F A cf G ls ay e f a Q E H
 |false=>exact k F A cf G ls ay e f a Q E H
theorem QO(d:AK F A)(R:Y1 F g ls S s)(f:Zh g S k a)(c:∀b,Y1 F g ls S b->E (.ref a.1) b):notedBy (model F.prog F.w) A F.env (λe b=>cameBackBy (model F.prog F.w) A F.env E e b) (.ref a.1) s:=
 let ⟨h,_,_,i⟩:=f
 C3 d R h i c
theorem XE.note(d:AK F A)(h:XE F ls g E k S):XE F ls g (notedBy (model F.prog F.w) A F.env (λe c=>cameBackBy (model F.prog F.w) A F.env E e c)) k S:=λj c a L R b=>QO d R b λi f=>h j i a L f b
theorem GO{t:Ex}{b:dL}(w:Bc sc aj gt (.A9 t b p)=true)(l:I8 d sc aj gt b):SS d sc aj gt (.A9 t b p):=by
 intro F A cf G ls S g s R Q E H;obtain ⟨q,e,y,rfl,rfl⟩:=id G;refine wpAny_While (codeAny_whileLoop (λn u=>∃a cz ay,Y1 F a cz ay u/\dS F a Q E (jV (λls S=>ev cf ls gt t S) (λls S=>aT cf gt b ls S) n cz ay)) (λn C ⟨B,cz,ay,r,H⟩=>?_) cf.N ⟨g,ls,S,R,H⟩);cases n with
 |zero=>exact H.elim
 |succ n=>
  refine MB H (aJ F cz q t (aV w)) r (λ_ _ h=>h.note e) λc aK m v H x f=>?_;cases c with
  |false=>exact wpAny_execs_nil (dS.cY H (.refl _) f)
  |true=>exact l F A cf G cz aK m v f _ _ (dS.andThen H (λj o i z H D k=>⟨n,lL n,i,j,o,k,H⟩) (λ_ _ h=>h) λ_ _ _ h=>h.note e)
theorem GQ(w:Bc sc aj gt (.ret e p)=true):SS d sc aj gt (.ret e p):=by intro F A cf G ls S g s R Q E H;obtain ⟨c,j,i,rfl,rfl⟩:=G;exact wpAny_Return_some (sj H (aJ F ls c e w) R λv ay b f x H L h a=>H b f (.ret x) (.refl _) h a)
theorem Dg:SS d sc aj gt (.va p):=λF A cf G ls S g s R Q E H=>wpAny_Return_none (H g s (.ret .none) (.refl g) R .none)
theorem GR(w:Bc sc aj gt (.exp e p)=true):SS d sc aj gt (.exp e p):=by intro F A cf G ls S g s R Q E H;obtain ⟨b,i,a,rfl,rfl⟩:=G;exact wpAny_Expr_any (sj H (aJ F ls b e (aH w)) R λv ay h j x H L c f=>dS.cY H (.refl _) c) a (GI e (aV w) _ _ _)
theorem w9(b:g.cs[k]? =some a)(h:eV S k=true):Zh g S k a:=by refine gl λj e=>?_;refine ar (ER h) λq i=>?_;refine ae (Y6 i) λc d f=>?_;obtain rfl:=C.A6 f;refine e ?_;exact ⟨b,_,_,d⟩
theorem MC{x:ci}(H:cE (match c with|true=>x|false=>none) K X):c=true/\cE x K X:=by
 cases c with
 |true=>exact ⟨rfl,H⟩
 |false=>exact H.elim
theorem GS{x:ci}(H:cE (match c with|true=>none|false=>x) K X):c=false/\cE x K X:=by
 cases c with
 |false=>exact ⟨rfl,H⟩
 |true=>exact H.elim
theorem GU(w:Bc sc aj gt (.s8 e p)=true):SS d sc aj gt (.s8 e p):=by intro F A cf G ls S g s R Q E H;obtain ⟨c,B,z,rfl,rfl⟩:=G;show wpAny _ A (exec (.Raise (some (Y3 F.aj gt e)) none p) F.env) Q E s;refine aq (GS H) λr H=>?_;rw [arm_exec_Raise];refine ax (g1 (wR c.ok.top (by (refine c.ak.hand▸?_;refine (ni c r)▸?_);rfl) (ax (sj H (aJ F ls c e w) R λv ay f C x H L o b=>ax (g1 (bn ?_))))));refine gl λy n=>?_;refine ae (cE.fF H) λk t h=>?_;refine aq (MC h) λq i=>?_;clear H h;obtain rfl:=V.gS t;refine ae b.dw λa l u=>?_;clear b;subst l;have b:=w9 u q;refine n ?_;exact PP f ls ay k a rfl o b (λm j=>i f m a (.refl _) j b)
theorem Bh{b:dL}(h:(!b.isNil)=true):∃ym a,b5 aj gt b=ym::a:=by
 cases b with
 |nil=>exact eI h
 |cons s r=>exact iX _ _ rfl
theorem Dh(c:bE d F A gt cf){l:Around}(w:c7 F.env.scope F.aj i=true)(R:Y1 F g ls S s)(hv:RV g v x){Q:mE}(h:∀e,Y1 F g (ls.set i (some v)) S e->Q () e):wpAny (model F.prog F.w) l (storeName F.env (F.aj.getD i Str.empty) x) Q E s:=by
 delta c7 at w;simp only [dD,ek] at w;have hn:=d9 w.1;have f:F.aj.getD i Str.empty=F.aj[i]:=by rw [eh,hn,ig]
 have b:=w.2;refine ae R.locs λm a j=>?_;rw [f] at b |-;exact tA b a (λh' k hs=>h _ (R.store hn b c.ok.nd ⟨a,j⟩ k hs hv _)) (by rw [c.ok.kind];rfl)
theorem N2{o:ci}{h:Nat->bW->List C->ci}(H:cE (match o with
 |none=>none
 |some (r,ls,S)=>match r with
  |.ok a=>some (.ok a,ls,S)
  |.exc k=>match c with
   |true=>none
   |false=>GF (h k ls S) λa ls S=>some (.ok a,qz nm none ls,S)) K X):cE o K (λk ls S=>c=false/\cE (h k ls S) (λa ls S=>K a (qz nm none ls) S) λ_ _ _=>False):=by
 cases o with
 |none=>exact H
 |some p=>
  obtain ⟨r,ls,S⟩:=p
  cases r with
  |ok a=>exact H
  |exc k=>exact let ⟨e,H⟩:=GS H;⟨e,zt H⟩
theorem N3{o:ci}{d f:bW->List C->ci}(H:cE (match o with
 |none=>none
 |some (r,ls,S)=>match r with
  |.ok b=>GF (d ls S) λa ls S=>match a with
   |.cY=>some (.ok b,ls,S)
   |.ret _=>none
  |.exc k=>match c with
   |true=>none
   |false=>GF (f ls S) λa ls S=>match a with
    |.cY=>(match eV S k with
     |true=>some (.exc k,ls,S)
     |false=>none)
    |.ret _=>none) K X):cE o (λb ls S=>cE (d ls S) (λa ls S=>a=.cY/\K b ls S) λ_ _ _=>False) (λk ls S=>c=false/\cE (f ls S) (λa ls S=>a=.cY/\eV S k=true/\X k ls S) λ_ _ _=>False):=by
 cases o with
 |none=>exact H
 |some p=>
  obtain ⟨r,ls,S⟩:=p
  cases r with
  |ok b=>exact show cE (d ls S) (λa ls S=>a=.cY/\K b ls S) (λ_ _ _=>False) from cE.mono (zt H) (λa ls S h=>by cases a with|cY=>exact ⟨rfl,h⟩|ret=>exact h.elim) λ_ _ _ h=>h
  |exc k=>exact let ⟨e,H⟩:=GS H;⟨e,cE.mono (zt H) (λa ls S h=>by cases a with|cY=>exact ⟨rfl,MC h⟩|ret=>exact h.elim) λ_ _ _ h=>h⟩
theorem zu(G:Good d F.env.scope F.aj gt F A cf)(hd:cf.hd=false)(C:kD F.env.scope gt gi=true)(X:(gt.getD gi (Str.empty,0)).2=bL)(Y:(!hb.isNil)=true)(B:(match nm with|none=>true|some i=>c7 F.env.scope F.aj i)=true)(O:I8 d F.env.scope F.aj gt hb)(R:Y1 F g ls S s)(j:Zh g S k a)(T:Zf s.heap a.1){Q:Flow->Shared->Prop}
 (H:cE (aT cf.bK gt hb (qz nm (some (.ref k)) ls) S) (λm ls S=>KF F g Q m (qz nm none ls) S) λ_ _ _=>False):
 wpAny (model F.prog F.w) A (handleBy (.ref a.1) F.env [.ExceptHandler (some (.Name (gt.getD gi (Str.empty,0)).1 cp)) (nm.map λi=>F.aj.getD i Str.empty) (b5 F.aj gt hb) hp]) Q E s:=by
 have u:=G.ev
 have t:=R.bK j T
 have p:=G.bK a.1
 refine gl λGz v=>?_
 refine dZ (Bh (aj:=F.aj) (gt:=gt) Y) λh₀ hs P=>?_
 refine bg (u8 R j) λjm fs sl D _ _=>?_
 obtain ⟨xn,xq,xN,bs,sn,sub,ab,U,dd,k0,k1,k2,k3,k5,x,mN,M,_⟩:=u.ok.top.tS.keeps R.base
 refine aq j λo I=>?_;clear j;refine dZ I λks vs L=>?_;clear I
 refine v ?_
 refine wpAny_handleBy_cons (codeAny_handlers_test ?_) (by intro q;cases q)
 have V:gt[gi]? =some (gt.getD gi (Str.empty,0)):=by have:=f9 (aV C);refine (eh)▸?_;refine (d9 this)▸?_;exact ig▸rfl
 refine yW p.ev C t V ?_
 rw [X]
 refine GC M D ?_
 clear M D
 have r:∀b,Y1 (F.bK a.1) g (qz nm (some (.ref k)) ls) S b->∀N:cH,wpAny (model F.prog F.w) (A.mark (some (.ref a.1))) (execs (b5 F.aj gt hb) F.env) (λf l=>match (nm.map λi=>F.aj.getD i Str.empty) with
  |none=>Q f l
  |some n=>wpAny (model F.prog F.w) A (do bindName F.env n .none;unbindBehindTheSuite F.env n hp) (λ_ l=>Q f l) E l) N b:=λb c N=>
  O (F.bK a.1) (A.mark (some (.ref a.1))) cf.bK p _ S g b c _ N (cE.mono H (λf Vx aK h z y m K e J=>by
    have e:=e.A8 (ni u hd);clear v H c;cases nm with
    |none=>exact h z y m K e J
    |some i=>exact C8 u B e λZ W=>h z Z m K W J) λ_ _ _ h=>h.elim)
 rw [P] at r |-
 clear v H;cases nm with
 |none=>exact codeAny_handlers_suite (dg t o L λb c _=>r b c _)
 |some i=>exact codeAny_handlers_suite_as (dg t o L λb c _=>Dh p.ev B c (.ref o) λy e=>r y e _)
theorem GW{b:dL}(w:Bc sc aj gt (.wS b gi cp nm hb hp p)=true)(t:I8 d sc aj gt b)(r:I8 d sc aj gt hb):SS d sc aj gt (.wS b gi cp nm hb hp p):=by
 intro F A cf G ls S g s R Q E H;obtain ⟨J,y,D,rfl,rfl⟩:=id G;have e:=aV w;refine wpAny_Try_except (t F A cf G ls S g s R _ _ (cE.mono (N2 (h:=λk ls S=>aT cf.bK gt hb (qz nm (some (.ref k)) ls) S) H) (λK cz ay h i j x c f o=>?_) λk cz ay ⟨C,h⟩ i j a c f l=>?_))
 ·cases x with
  |next=>exact wpAny_execs_nil (h i j _ c f o)
  |_=>exact h i j _ c f o
 ·refine aq (id l) λm n=>?_;refine dZ n λks vs q=>?_;clear n;exact g8 y f m q λL B z=>dg B m q λI u v=>zu G C (aV (aV e)) (c5 (aH (aV e))) (aV (aH e)) (aH (aH e)) r u l (v z) (cE.mono h (λ_ _ _ h=>h.le c) λ_ _ _ h=>h)
theorem zv(b:F.hand=none)(R:Y1 (F.bK a.1) g ls S s)(c:Zh g S k a){Q:Flow->Shared->Prop}(H:XE F ls g E k S):wpAny (model F.prog F.w) A (passOn "try.finally" (.ref a.1) F.env) Q E s:=by refine gl λp j=>?_;refine aq (id c) λf d=>?_;refine dZ d λks vs m=>?_;clear d;refine bg R.zn λo q t i l e=>?_;refine j ?_;unfold PySem.passOn;refine ax (dY i l e ?_);refine (bj (j2))▸?_;exact ax (dg (R.A8 b) f m λn h _=>wpAny_throw (H g n a (.refl _) h c))
theorem GX{b f:dL}(w:Bc sc aj gt (.Ba b f p)=true)(U:I8 d sc aj gt b)(J:I8 d sc aj gt f):SS d sc aj gt (.Ba b f p):=by
 intro F A cf r ls S g s R Q E H;obtain ⟨hE,P,hi,rfl,rfl⟩:=id r;refine dZ (Bh (aj:=F.aj) (gt:=gt) (aV w)) λh₀ hs Y=>?_;show wpAny _ A (exec (.Try (b5 F.aj gt b) [] [] (b5 F.aj gt f) p) F.env) Q E s;have last:∀{B:Fl} {cz:bW} {ay:List C} {c:G} {j:Shared} {x:Flow},cE (aT cf gt f cz ay) (λm ls S=>m=.cY/\KF F c Q B ls S) (λ_ _ _=>False)->Y1 F c cz ay j->RF c B x->∀N:cH,wpAny (model F.prog F.w) A (execs (b5 F.aj gt f) F.env) (λy T=>match y with|.next=>Q x T|y=>Q y T) N j:=λh i t N=>
  J F A cf r _ _ _ _ i _ N (cE.mono h (λm ls S ⟨e,h⟩ L l y n o u=>by subst e;obtain rfl:=u.vi;exact h L l _ n o (t.mono n)) λ_ _ _ h=>h.elim)
 have M:∀{k:Nat} {cz:bW} {ay:List C} {c:G} {j:Shared} {a:Addr×Option Addr},cf.hd=false->cE (aT cf.bK gt f cz ay) (λm ls S=>m=.cY/\eV S k=true/\XE F ls c E k S) (λ_ _ _=>False)->Y1 (F.bK a.1) c cz ay j->c.cs[k]? =some a->∀N:cH,wpAny (model F.prog F.w) (A.mark (some (.ref a.1))) (execs (b5 F.aj gt f) F.env) (λy l=>match y with|.next=>wpAny (model F.prog F.w) A (passOn "try.finally" (.ref a.1) F.env) Q E l|y=>wpAny (model F.prog F.w) A (setFlight (.ref a.1) none) (λ_ O=>Q y O) E l) N j:=λI h i Mz N=>
  J (F.bK _) (A.mark (some (.ref _))) cf.bK (r.bK _) _ _ _ _ i _ N (cE.mono h (λm ls S ⟨e,z,h⟩ L l y n o u=>by subst e;obtain rfl:=u.vi;exact zv (ni hE I) o (w9 (n.at Mz) z) (h.le n)) λ_ _ _ h=>h.elim)
 rw [Y] at last M |-;refine wpAny_Try_finally (U F A cf r ls S g s R _ _ (cE.mono (N3 H) (λB cz ay h c j x v i t=>?_) λk cz ay ⟨I,h⟩ c j a v i K=>?_))
 ·have h:=last (cE.mono h (λ_ _ _ h=>⟨h.1,h.2.le v⟩) λ_ _ _ h=>h) i t;clear t;cases x with
  |next=>exact wpAny_execs_nil (h _)
  |_=>exact h _
 ·obtain ⟨q,ks,vs,D⟩:=id K;exact g8 P i q D λl o qD=>⟨ref_ne_byPass _,g8 P o q D λO V W=>dg V q D λcL X Z=>M I (cE.mono h (λ_ _ _ h=>⟨h.1,h.2.1,h.2.2.le v⟩) λ_ _ _ h=>h) (X.bK K (Z W)) q _⟩
theorem C.GY{c:C}{q:V×Nat}(h:c.GG=some q):c=.enum q.1 q.2:=by cases c<;>first|((replace h:=aw h;subst h);rfl)|exact aG h
theorem Di(D:bE d F A gt cf){m:Fm}{f:C->List C->ci}(w:m.ok F.env.scope=true)(N:SE F A gt cf ls e)(R:Y1 F g ls S s)(H:dS F g Q' E (fJ (ev cf ls gt e S) ls (λv S=>(J5 m v S).bind λc=>f c S))){Q:cH}
 (I:∀c ay g' s' a,dS F g' Q' E (f c ay)->g.Le g'->Y1 F g' ls (ay++[c]) s'->g'.cs[ay.length]? =some a->Q (.ref a.1) s'):
 wpAny (model F.prog F.w) A (eval (m.src (Y3 F.aj gt e)) F.env) (λx h=>wpAny (model F.prog F.w) A (pyIter x) Q E h) E s:=by
 cases m with
 |plain=>
  refine sj H N R λv ay P h x H u q p=>?_
  refine gl λX z=>?_
  refine ae (cE.fF H) λc j y=>?_
  refine ae (au j) λit B O=>?_;clear j;subst O
  refine z ?_
  exact rV q B p λJ T a i aR W=>I _ ay J T a (dS.le y i) (u.trans i) aR W
 |fM ip cp=>
  refine rb (rT D w D.ok.top.FH (by decide) R ?_)
  rw [kI]
  refine tB (sj H N R λv ay P h x H u q p=>?_)
  refine gl λX z=>?_
  refine ae (cE.fF H) λc j y=>?_
  clear H
  refine ae (Y6 j) λn B Y=>?_
  refine aq (bM Y) λG K=>?_
  clear Y j;(replace K:=aw K;subst K)
  obtain rfl:=V.gR B
  have G:=f9 G
  refine ar p.int_inv λt am=>?_;clear p;subst am
  refine z ?_
  refine PySem.call_range_1 (wpAny_pyIter_range (IsRange.new ..) (small_one (by decide) (by decide) (pJ G) (Int.lt_trans (And.right ‹_›) (by decide))) ?_)
  have e:Builtin.Range.rangeSize 0 n 1=n:=by rw [rangeSize_one];split<;>(first|exact Int.sub_zero _|exact Int.le_antisymm G.1 (Int.not_lt.mp ‹_›))
  rw [e]
  exact lg (it:=.fM 0 n) (q.push {cls:=.type "range",data:=.fields #[.int 0 h.toks,.int n t,.int 1 (h.toks+1)]} (h.toks+1+1)) rfl (λg' L=>rfl) λJ T a i dE W=>I _ ay J T a (dS.le y i) (u.trans i) dE W
 |C9 ip cp=>
  refine rb (rT D w D.ok.top.Qb (by decide) R ?_)
  rw [kI]
  refine tB (sj H N R λv ay P h x H u q p=>?_)
  refine gl λX z=>?_
  refine ae (cE.fF H) λc j y=>?_
  refine ae (au j) λl B O=>?_;clear j;subst O
  refine bg (dB q B p) λb xs n bG hr ho=>?_;subst bG
  refine z ?_
  refine PySem.call_enumerate_1 ho λh' Z U hz k=>wpAny_pyIter_enum Z ?_
  have i:=dK P (h.heap.objs.size+1,some h.heap.objs.size)
  refine I (.enum v 0) ay _ _ (h.heap.objs.size+1,some h.heap.objs.size) (dS.le y i) (u.trans i) (q.mS (c:=.enum v 0) k (λb r=>?_) (by simp [Y4]) ⟨_,rfl,succ_ne_self _,⟨b,p.mono i,U⟩,_,Z⟩ h.toks (λ_ _ e=>C.noConfusion e)) (by refine (aS q.len)▸?_;simp)
  cases e:h.heap.get? b with
  |none=>rfl
  |some o=>
   have M:=cI e
   have r:b=h.heap.objs.size+1\/b=h.heap.objs.size:=by simpa [Y4] using r
   rcases r with r|r<;>rw [r] at M
   ·exact absurd M (Nat.not_lt.mpr (eR _))
   ·exact absurd M (lK _)
theorem Zv(G:bE d F A gt cf){q:Option (V×C)}(R:Y1 F g ls S s)(t:g.cs[k]? =some a)(h:qg en S k=some q)(Q:(!en||T.tup.isSome)=true){N:Shared->Prop}{P:cH}
 (hsome:∀w c,q=some (w,c)->∀g' b x,g.Le g'->Y1 F g' ls (S.set k c) b->RV g' w x->P x b)
 (hnone:q=none->∀b,Y1 F g ls (S.set k .dead) b->N b):
 wpAny (model F.prog F.w) A (pyNext (.ref a.1)) (λr I=>match r with
  |none=>N I
  |some x=>wpAny (model F.prog F.w) A (letOwnedTupleGo (dp F.aj gt T) (.ref a.1) x) (λ_ aN=>P x aN) E' I) E s:=by
 refine gl λZ H=>?_
 refine ae (Y6 h) λc z f=>?_
 (revert f;clear h;cases _:Internal.C.nb c;rotate_left;all_goals (intro f;dsimp only at f))
 ·rename_i it B
  obtain rfl:=C.wJ B
  refine ae (au f) λr n p=>?_
  refine H ?_
  refine rB G.ak.hand R t z n (λv it' e b y j K=>?_) (λe b j=>?_)
  ·clear n;subst e
   refine ae (rW j t (by rw [jP (fx z)])) λo U O=>?_
   exact uT U O (hsome v _ p.symm g b y (.refl g) j K)
  ·clear n;subst e
   exact hnone p.symm b j
 ·(revert f;cases en;all_goals intro f)
  ·exact aG f
  refine ae (Y6 f) λW n p=>?_;obtain ⟨v,i⟩:=W
  clear f;obtain rfl:=C.GY n
  refine ae (au p) λl X m=>?_
  refine ar (ER (Q)) λD Y=>?_
  refine H ?_
  have J:dp F.aj gt T=.Tuple (T.ts.map (gO F.aj gt)) D.1 D.2:=by unfold dp;exact Y▸rfl
  refine J▸?_
  refine C6 G.ak.hand R t z X (λw u g' b x L j M=>?_) (λu b j=>?_)
  ·replace m:=u▸m
   exact hsome _ _ m.symm g' b x L j M
  ·replace m:=u▸m
   exact hnone m.symm b j
theorem Ka{m:Fm}{b:dL}(w:Bc sc aj gt (.fr T m e b p)=true)(B:I8 d sc aj gt b):SS d sc aj gt (.fr T m e b p):=by
 intro F A cf G ls S g s R Q E H;obtain ⟨j,K,hi,rfl,rfl⟩:=id G;have i:=aV w;refine wpAny_For (Di j (aV (aH i)) (aJ F ls j e (aV (aH w))) R H λc ay U aL a H Z L X=>?_) (λx=>?_);rotate_left
 ·clear i H w;cases m with
  |plain=>exact A2 ..
  |fM=>rfl
  |C9=>rfl
 refine codeAny_forLoop_any (λn P=>∃f cz aK,Y1 F f cz aK P/\f.cs[ay.length]? =some a/\dS F f Q E (fk (λls S=>aT cf gt b ls S) (λv ls S=>jc cf gt T v ls S) m.en ay.length n cz aK)) (λn aN ⟨aW,cz,aK,M,r,H⟩=>?_) cf.N ⟨U,ls,_,L,X,H⟩;cases n with
 |zero=>exact H.elim
 |succ n=>
  refine ae (cE.fF H) λq l H=>?_;refine Zv j M r l (aH (aH i)) (λw c e f I x t k z=>?_) (λe I k=>?_)
  ·clear l;subst e;refine ae (cE.fF H) λp W H=>?_;exact si j (aV i) k z (.of W λO Y o C=>B F A cf G p.1 p.2 O Y C _ _ (dS.andThen (dS.le H (t.trans o)) (λu J y lC H V D=>⟨n,lL n,y,u,J,D,V.at (o.at (t.at r)),H⟩) (λ_ _ h=>h) λ_ _ _ h=>h.note K))
  ·clear l;subst e;exact wpAny_execs_nil (dS.cY H (.refl _) k)
mutual
theorem Dj:∀(st:St),Bc sc aj gt st=true->SS d sc aj gt st
 |.asg T l e p=>@λw=>GK w
 |.nk i ip elt src cs I a p=>@λw=>Dd w
 |.aug i ip op e p=>@λw=>GL w
 |.kM o n j op e p=>@λw=>De w
 |.ifs t b o p=>@λw=>GN w (dq b (aV (aH w))) (dq o (aH (aH w)))
 |.A9 t b p=>@λw=>GO w (dq b (aH w))
 |.ret e p=>@λw=>GQ w
 |.va p=>@λ_=>Dg
 |.exp e p=>@λw=>GR w
 |.fr T m e b p=>@λw=>Ka w (dq b (aH (aH w)))
 |.s8 e p=>@λw=>GU w
 |.wS b k a nm h c p=>@λw=>GW w (dq b (aV (aH w))) (dq h (aH (aH w)))
 |.Ba b f p=>@λw=>GX w (dq b (aV (aH w))) (dq f (aH (aH w)))
 |.raw s=>@λ_=>λF A cf G ls S g s R Q E H=>H.elim
theorem dq:∀(b:dL),nr sc aj gt b=true->I8 d sc aj gt b
 |.nil=>@λ_=>λF A cf G ls S g s R Q E H=>wpAny_execs_nil (dS.cY H (.refl _) R)
 |.cons st a=>@λw=>λF A cf G ls S g s R Q E H=>wpAny_execs_cons (Dj st (aV w) F A cf G ls S g s R _ E (dS.andThen H (λcz ay c e H L f=>dq a (aH w) F A cf G cz ay c e f Q E H) (λ_ _ h=>h) λ_ _ _ h=>h))
end
theorem sm{b:dL}(w:nr sc aj gt b=true)(e:Good d sc aj gt F A cf){r:Rs Fl}(h:aT cf gt b ls S=some (r,br,S'))(R:Y1 F g ls S s){Q:Flow->Shared->Prop}(c:∀f,r=.ok f->KF F g Q f br S')(a:∀k,r=.exc k->XE F br g E k S'):wpAny (model F.prog F.w) A (execs (b5 aj gt b) F.env) Q E s:=
 dq b w F A cf e ls S g s R Q E (by
  refine h▸?_;clear h;cases r with
  |ok f=>exact c f rfl
  |exc k=>exact a k rfl)
noncomputable def cM{α β:Type}(f:α->Option β):List α->Option (List β)
 |[]=>some []
 |x::r=>match f x with
  |none=>none
  |some y=>match cM f r with
   |none=>none
   |some ys=>some (y::ys)
theorem bH{f:α->Option β}:cM f []=some []:=by rfl
theorem bz{f:α->Option β}{a:α}{r:List α}:
 cM f (a::r)=
  match f a with
  |none=>none
  |some y=>
   match cM f r with
   |none=>none
   |some b=>some (y::b):=by rfl
noncomputable def fK(S:List C)(keep:Nat->Option Nat):Nat->V->Option V
 |0,_=>none
 |n+1,.tup l=>(cM (fK S keep n) l).map .tup
 |n+1,.lst l=>(cM (fK S keep n) l).map .lst
 |n+1,.jm ks l=>(cM (fK S keep n) l).map (.jm ks)
 |n+1,.ref k=>match keep k with
  |some j=>some (.ref j)
  |none=>match S[k]? with
   |some (.list l)=>(cM (fK S keep n) l).map .lst
   |some (.dict ks l)=>(cM (fK S keep n) l).map (.jm ks)
   |_=>none
 |_+1,.none=>some .none
 |_+1,.bool b=>some (.bool b)
 |_+1,.int i=>some (.int i)
 |_+1,.str x=>some (.str x)
 |_+1,.glob a=>some (.glob a)
theorem T3{x:V}:fK S keep 0 x=none:=by rfl
theorem oM:fK S keep (Nat.succ n) (V.tup l)=Option.map V.tup (cM (fK S keep n) l):=by rfl
theorem so:fK S keep (Nat.succ n) (V.lst l)=Option.map V.lst (cM (fK S keep n) l):=by rfl
theorem T4:fK S keep (Nat.succ n) (V.jm ks l)=Option.map (V.jm ks) (cM (fK S keep n) l):=by rfl
theorem eW:
 fK S keep (Nat.succ n) (V.ref k)=
  match keep k with
  |some j=>some (V.ref j)
  |none=>
   match S[k]? with
   |some (C.list l)=>Option.map V.lst (cM (fK S keep n) l)
   |some (C.dict ks l)=>Option.map (V.jm ks) (cM (fK S keep n) l)
   |x=>none:=by rfl
theorem zw:fK S keep (Nat.succ n) V.none=some V.none:=by rfl
theorem zx{b:Bool}:fK S keep (Nat.succ n) (V.bool b)=some (V.bool b):=by rfl
theorem iK{i:Int}:fK S keep (Nat.succ n) (V.int i)=some (V.int i):=by rfl
theorem iL:fK S keep (Nat.succ n) (V.str M8)=some (V.str M8):=by rfl
theorem SP{a:Addr}:fK S keep (Nat.succ n) (V.glob a)=some (V.glob a):=by rfl
noncomputable def lW(S:List C)(keep:Nat->Option Nat)(n:Nat):C->Option C
 |.list l=>(cM (fK S keep n) l).map .list
 |.dict ks l=>(cM (fK S keep n) l).map (.dict ks)
 |.inst c ks l=>(cM (fK S keep n) l).map (.inst c ks)
 |.exc ks l=>(cM (fK S keep n) l).map (.exc ks)
 |.iter _=>none
 |.enum _ _=>none
 |.dead=>none
 |.var none=>some (.var none)
 |.var (some v)=>(fK S keep n v).map λv=>.var (some v)
theorem oN:lW S keep n (C.list l)=Option.map C.list (cM (fK S keep n) l):=by rfl
theorem T5:lW S keep n (C.dict ks l)=Option.map (C.dict ks) (cM (fK S keep n) l):=by rfl
theorem T6{c:Addr}:lW S keep n (C.inst c ks l)=Option.map (C.inst c ks) (cM (fK S keep n) l):=by rfl
theorem GZ:lW S keep n (C.exc ks l)=Option.map (C.exc ks) (cM (fK S keep n) l):=by rfl
theorem T8{it:It}:lW S keep n (C.iter it)=none:=by rfl
theorem Ua:lW S keep n (C.enum v i)=none:=by rfl
theorem Ub:lW S keep n C.dead=none:=by rfl
theorem Uc:lW S keep n (C.var none)=some (C.var none):=by rfl
theorem Ud:lW S keep n (C.var (some v))=Option.map (λv=>C.var (some v)) (fK S keep n v):=by rfl
theorem je{f:α->Option β}{x:α}{r:List α}{c:List β}(h:cM f (x::r)=some c):∃y a,f x=some y/\cM f r=some a/\c=y::a:=by
 simp -iota only [bz] at h;refine gl λd b=>?_;(revert h;cases _:f x;all_goals (intro h;dsimp only at h))
 ·exact aG h
 ·(revert h;cases _:cM f r;all_goals intro h)
  ·exact aG h
  ·refine b ?_;clear b;(replace h:=aw h;subst h);exact iY _ _ (by assumption) (by assumption) rfl
theorem jf{f:α->Option β}:∀{l:List α} {r:List β},cM f l=some r->r.length=l.length:=by
 intro l;induction l with
 |nil=>intro r h;(replace h:=aw h;subst h);rfl
 |cons x l b=>
  intro r h;refine aP (je h) λy d _ c a=>?_;clear h;subst a;simp -iota [];exact b c
theorem Kb{f:α->Option β}:∀{l:List α} {r:List β},cM f l=some r->∀{i:Nat} {y:β},r[i]? =some y->∃x,l[i]? =some x/\f x=some y:=by
 intro l;induction l with
 |nil=>intro r h i y e;(replace h:=aw h;subst h);simp at e
 |cons x l c=>
  intro r h i y e;refine gl λj a=>?_;refine aP (je h) λz k g d b=>?_;clear h;subst b;cases i with
  |zero=>refine a ?_
         simp at e;clear a;subst e;exact ⟨x,rfl,g⟩
  |succ i=>refine a ?_
           simp at e;simpa using c d e
theorem nu{f:α->Option β}:∀{l:List α} {r:List β},cM f l=some r->∀{i:Nat} {x:α},l[i]? =some x->∃y,r[i]? =some y/\f x=some y:=by
 intro l;induction l with
 |nil=>intro r h i y e;simp at e
 |cons x l b=>
  intro r h i y e;refine aP (je h) λz g d c a=>?_;clear h;subst a;cases i with
  |zero=>simp at e;subst e;exact ⟨z,rfl,d⟩
  |succ i=>simp at e;simpa using b c e
structure Fz (g:G) (h:Heap) (S:List C) (keep:Nat->Option Nat) (aW:G):Prop where
 w:aW.w=g.w
 cm:∀b o,g.cm b=some o->aW.cm b=some o
 cs:∀k j a,keep k=some j->g.cs[k]? =some a->aW.cs[j]? =some a
 fr:∀k a,keep k=Option.none->g.cs[k]? =some a->((∃l,S[k]? =some (.list l))\/(∃ks l,S[k]? =some (.dict ks l)))->∀o,h.get? a.1=some o->aW.cm a.1=some o
 rc:∀k a c,keep k=Option.none->g.cs[k]? =some a->S[k]? =some c->RC g h c a
theorem eM{g f:G}{S:List C}{c:Nat->Option Nat}{n:Nat}(e:∀v v' x,fK S c n v=some v'->RV g v x->RV f v' x):
 ∀{vs:List V} {vs':List V} {xs:List Value},cM (fK S c n) vs=some vs'->cr g vs xs->cr f vs' xs
 |[],vs',xs=>@λh r=>by (replace h:=aw h;subst h);(have d:=cr.nil_inv r;subst d);exact .nil
 |v::vs,vs',xs=>@λh r=>by
  refine aP (je h) λy l k j i=>?_;subst i;refine aP (cr.cons_inv r) λm o d a b=>?_;subst d
  ·exact .cons (e _ _ _ k a) (eM e j b)
theorem sr(Z:Fz g h S keep aW):∀(n:Nat) (v v':V) (x:Value),fK S keep n v=some v'->RV g v x->RV aW v' x:=by
 intro n;induction n with
 |zero=>intro v v' x e;exact aG e
 |succ n z=>
  intro v v' x e r;cases r with
  |none=>(replace e:=aw e;subst e);exact .none
  |bool b=>(replace e:=aw e;subst e);exact .bool b
  |int i t=>(replace e:=aw e;subst e);exact .int i t
  |str y t=>(replace e:=aw e;subst e);exact .str y t
  |glob a=>(replace e:=aw e;subst e);exact .glob a
  |tup p B=>
   refine ae (au e) λD e1 f=>?_;subst f;exact .tup (Z.cm _ _ p) (eM z e1 B)
  |lst p B=>
   refine ae (au e) λD e1 f=>?_;subst f;exact .lst (Z.cm _ _ p) (eM z e1 B)
  |jm p q d k G hs B=>
   refine ae (au e) λD e1 f=>?_;clear e;subst f;exact .jm (Z.cm _ _ p) q d k G (by refine Z.w▸?_;exact hs) (eM z e1 B)
  |ref A=>
   rename_i k a;simp -iota only [eW] at e;refine gl λJ E=>?_;(revert e;cases _:keep k;rotate_left;all_goals (intro e;dsimp only at e))
   ·rename_i j u;refine E ?_;clear E;(replace e:=aw e;subst e);exact .ref (Z.cs k j a u A)
   ·rename_i u;cases s:S[k]? with
    |none=>rw [s] at e;exact aG e
    |some c=>rw [s] at e;cases c with
    |list l=>
     refine ae (au e) λD e1 f=>?_;clear e;subst f;refine aq (Z.rc k a _ u A s) λ_ C=>?_;refine bd C λvs m F hv=>?_;clear C;refine E ?_;exact .lst (Z.fr k a u A (.inl ⟨l,s⟩) _ F) (eM z e1 hv)
    |dict ks l=>
     refine ae (au e) λD e1 f=>?_;clear e;subst f;refine aq (Z.rc k a _ u A s) λ_ C=>?_;refine tG C λo es m F I hd H G hs hv=>?_;clear C;refine E ?_;exact .jm (Z.fr k a u A (.inr ⟨ks,l,s⟩) o F) I hd H G (by refine Z.w▸?_;exact hs) (eM z e1 hv)
    |_=>exact aG e
theorem jv{f:V->Option V}(h:cM f l=some l'):∀(ks:List Str) (x:Str),(∀v',fieldOf ks l' x=some v'->∃v,fieldOf ks l x=some v/\f v=some v')/\(fieldOf ks l' x=none->fieldOf ks l x=none):=by
 induction l generalizing l' with
 |nil=>(replace h:=aw h;subst h);intro ks x;cases ks<;>exact ⟨λ_ e=>(aG e),λ_=>rfl⟩
 |cons v l b=>
  refine gl λi d=>?_;refine aP (je h) λy j g c a=>?_;clear h;subst a;refine d ?_;intro ks x;cases ks with
  |nil=>exact ⟨λ_ e=>(aG e),λ_=>rfl⟩
  |cons k ks=>
   simp -iota only [bO];cases aD k x with
   |true=>exact ⟨λv' e=>(by (replace e:=aw e;subst e);exact ⟨v,rfl,g⟩),λe=>(aG (aS e))⟩
   |false=>exact b c ks x
theorem uh(Z:Fz g h S keep aW){c:C}(e:lW S keep n c=some c')(r:RC g h c a):RC aW h c' a:=by
 have A:=sr Z n;refine gl λO j=>?_;cases c with
 |list l=>
  refine ae (au e) λJ e1 f=>?_;clear e;subst f;refine aq r λz b=>?_;clear r;refine bd b λvs m p u=>?_;clear b;refine j ?_;exact ⟨z,vs,m,p,eM A e1 u⟩
 |dict ks l=>
  refine ae (au e) λJ e1 f=>?_;clear e;subst f;refine aq r λz b=>?_;clear r;refine tG b λo es m p q d k L hs u=>?_;clear b;refine j ?_;exact ⟨z,o,es,m,p,q,d,k,L,by rw [Z.w];exact hs,eM A e1 u⟩
 |inst c ks l=>
  refine ae (au e) λJ e1 f=>?_;clear e;subst f;refine ij r λo d p q r s t u b=>?_;refine gK b λm I K G E=>?_;clear b;refine j ?_;refine ⟨o,d,p,q,r,s,t,u,m,I,by rw [K,jf e1],λx B hv=>?_,λx D=>E x ((jv e1 ks x).2 D)⟩;refine ae ((jv e1 ks x).1 B hv) λv F H=>?_;refine ae (G x v F) λy p1 p2=>?_;exact ⟨y,p1,A _ _ _ H p2⟩
 |exc ks l=>
  refine ae (au e) λJ e1 f=>?_;clear e;subst f;refine ij r λo d p q r s t u b=>?_;refine gK b λm I K G E=>?_;clear b;refine j ?_;refine ⟨o,d,p,q,r,s,t,u,m,I,by rw [K,jf e1],λx B hv=>?_,λx D=>E x ((jv e1 ks x).2 D)⟩;refine ae ((jv e1 ks x).1 B hv) λv F H=>?_;refine ae (G x v F) λy p1 p2=>?_;exact ⟨y,p1,A _ _ _ H p2⟩
 |iter it=>exact aG e
 |enum v i=>exact aG e
 |dead=>exact aG e
 |var v=>
  refine aq r λz b=>?_;clear r;refine aP b λo x p q u=>?_;clear b;cases v with
  |none=>refine j ?_
         clear j;(replace e:=aw e;subst e);exact ⟨z,o,x,p,q,λw e=>by exact aG e⟩
  |some v=>
   refine ae (au e) λB e1 f=>?_;clear e;subst f;refine ae (u v rfl) λy M N=>?_;refine j ?_;exact ⟨z,o,x,p,q,λw e=>by (replace e:=aw e;subst e);exact ⟨y,M,A _ _ _ e1 N⟩⟩
theorem Bj{c:C}{ks vs}(e:lW S keep n c=some (.exc ks vs)):∃b,c=.exc ks b:=by
 cases c with
 |iter it=>exact aG e
 |enum v i=>exact aG e
 |dead=>exact aG e
 |var v=>cases v with
  |none=>cases e
  |some v=>obtain ⟨a,_,e2⟩:=au e;cases e2
 |list=>obtain ⟨a,_,e2⟩:=au e;cases e2
 |dict=>obtain ⟨a,_,e2⟩:=au e;cases e2
 |inst=>obtain ⟨a,_,e2⟩:=au e;cases e2
 |exc=>obtain ⟨a,_,e2⟩:=au e;clear e;cases e2;exact ⟨_,rfl⟩
noncomputable def bT:List V->List Nat->List Nat
 |[],acc=>acc
 |.ref k::r,acc=>match acc.any (beq k) with
  |true=>bT r acc
  |false=>bT r (acc++[k])
 |_::r,acc=>bT r acc
theorem G0{x:List Nat}{r:List V}:
 bT (V.ref k::r) x=
  match List.any x (beq k) with
  |true=>bT r x
  |false=>bT r (x++[k]):=by rfl
theorem xa:∀(vs:List V) (acc:List Nat),acc.Nodup->(bT vs acc).Nodup:=by
 intro r;induction r with
 |nil=>intro acc h;exact h
 |cons v r c=>
  intro acc h;cases v with
  |ref k=>
   simp -iota only [G0];(cases _:List.any acc (beq k);rotate_left)
   ·exact c acc h
   ·rename_i d;refine c _ (nodup_append.mpr ⟨h,by simp,λa g b f e=>?_⟩);simp at f;subst f;subst e;have:acc.any (beq a)=true:=List.any_eq_true.mpr ⟨a,g,beq_refl a⟩;replace d:=this▸d;cases d
  |_=>exact c acc h
noncomputable def c8:List Nat->Nat->Option Nat
 |[],_=>none
 |x::r,k=>match beq x k with
  |true=>some 0
  |false=>(c8 r k).map (· +1)
theorem G1{x:Nat}:c8 [] x=none:=by rfl
theorem nw{x a:Nat}{r:List Nat}:
 c8 (a::r) x=
  match beq a x with
  |true=>some 0
  |false=>Option.map (λx=>x+1) (c8 r x):=by rfl
theorem su:∀{sel:List Nat} {k j:Nat},c8 sel k=some j->sel[j]? =some k:=by
 intro r;induction r with
 |nil=>intro _ _ h;exact aG h
 |cons x r a=>
  intro k j h;simp -iota only [nw] at h;(revert h;cases _:beq x k;rotate_left;all_goals (intro h;dsimp only at h))
  ·rename_i e;(replace h:=aw h;subst h);exact c5 e▸rfl
  ·refine ae (au h) λd c b=>?_;clear h;subst b;simpa using a c
noncomputable def bS:List Nat->List C->List C->List C
 |k::ks,c::cs,S=>bS ks cs (S.set k c)
 |_,_,S=>S
theorem jw:∀(k:List Nat) (S:List C),bS k [] S=S:=by intro k;cases k<;>(intros;rfl)
theorem jx{ks:List Nat}{c:C}{cs:List C}:bS (k::ks) (c::cs) S=bS ks cs (S.set k c):=by rfl
theorem cj:∀(ks:List Nat) (cs S:List C),(bS ks cs S).length=S.length
 |[],cs=>@λS=>by cases cs<;>rfl
 |k::ks,[]=>@λS=>rfl
 |k::ks,c::cs=>@λS=>(cj ks cs _).trans length_set
theorem iM:∀(ks:List Nat) (cs S:List C) (k:Nat),k∉ks->(bS ks cs S)[k]? =S[k]?
 |[],cs=>@λS k _=>by cases cs<;>rfl
 |x::ks,[]=>@λS k _=>rfl
 |x::ks,c::cs=>@λS k h=>by rw [mem_cons,not_or] at h;show (bS ks cs (S.set x c))[k]? =_;rw [iM ks cs _ k h.2,j4 (cy h.1)]
theorem jy:∀(ks:List Nat) (cs S:List C) (j k:Nat),ks.Nodup->(∀k∈ks,k<S.length)->ks.length=cs.length->ks[j]? =some k->(bS ks cs S)[k]? =cs[j]?
 |[],cs=>@λS j k _ _ _ h=>by simp at h
 |x::ks,[]=>@λS j k _ _ h _=>by simp at h
 |x::ks,c::cs=>@λS j k f lt d h=>by
  rw [jx];refine aq (nodup_cons.mp f) λb e=>?_;cases j with
  |zero=>
   simp at h;subst h
   rw [iM ks cs _ x b,jP (lt x (.head _))];rfl
  |succ j=>
   simp at h
   rw [jy ks cs _ j k e (λk a=>by rw [length_set];exact lt k (.tail _ a)) (by simpa using d) h];rfl
noncomputable def b7(n:Nat)(r:Rs V)(S:List C):Option Nat:=
 let at_:Nat->Option Nat:=λk=>match Nat.blt k n with
  |true=>none
  |false=>match S[k]? with
   |some (.inst _ _ _)=>some k
   |some (.exc _ _)=>some k
   |_=>none
 match r with
 |.ok (.ref k)=>at_ k
 |.exc k=>at_ k
 |_=>none
noncomputable def bZ(sel:List Nat)(N:Nat)(kp:Option Nat)(k:Nat):Option Nat:=match sel[k]? with
 |some j=>some j
 |none=>match kp with
  |some q=>(match beq q k with
   |true=>some N
   |false=>none)
  |none=>none
noncomputable def Zg(sel:List Nat)(S:List C)(k:Nat):Option C:=match S[k]? with
 |some c=>lW [] (c8 sel) 40 c
 |none=>none
noncomputable def fT(S:List C)(keep:Nat->Option Nat):Option Nat->Option (List C)
 |none=>some []
 |some q=>match S[q]? with
  |some c=>(lW S keep 40 c).map λc=>[c]
  |none=>none
theorem kN{k:Nat->Option Nat}:fT S k none=some []:=by rfl
noncomputable def lX(f:List V->List C->Y5 V)(vs:List V)(S:List C):Y5 V:=
 match cM (fK [] (c8 (bT vs [])) 40) vs with
 |none=>none
 |some vs'=>match cM (Zg (bT vs []) S) (bT vs []) with
  |none=>none
  |some ay=>match f vs' ay with
   |none=>none
   |some (r,aK)=>match cM (lW aK (bZ (bT vs []) S.length (b7 (bT vs []).length r aK)) 40) (aK.take (bT vs []).length) with
    |none=>none
    |some upd=>match fT aK (bZ (bT vs []) S.length (b7 (bT vs []).length r aK)) (b7 (bT vs []).length r aK) with
     |none=>none
     |some new=>match r with
      |.ok v=>(fK aK (bZ (bT vs []) S.length (b7 (bT vs []).length r aK)) 40 v).map λv=>(.ok v,bS (bT vs []) upd S++new)
      |.exc k=>(bZ (bT vs []) S.length (b7 (bT vs []).length r aK) k).map λk=>(.exc k,bS (bT vs []) upd S++new)
theorem kO{f:List V->List C->Y5 V}:
 lX f vs S=
  match cM (fK [] (c8 (bT vs [])) 40) vs with
  |none=>none
  |some vs'=>
   match cM (Zg (bT vs []) S) (bT vs []) with
   |none=>none
   |some ay=>
    match f vs' ay with
    |none=>none
    |some (r,aK)=>
     match cM (lW aK (bZ (bT vs []) (List.length S) (b7 (List.length (bT vs [])) r aK)) 40) (take (List.length (bT vs [])) aK) with
     |none=>none
     |some b=>
      match fT aK (bZ (bT vs []) (List.length S) (b7 (List.length (bT vs [])) r aK)) (b7 (List.length (bT vs [])) r aK) with
      |none=>none
      |some a=>
       match r with
       |Rs.ok v=>Option.map (λv=>(Rs.ok v,bS (bT vs []) b S++a)) (fK aK (bZ (bT vs []) (List.length S) (b7 (List.length (bT vs [])) r aK)) 40 v)
       |Rs.exc k=>Option.map (λk=>(Rs.exc k,bS (bT vs []) b S++a)) (bZ (bT vs []) (List.length S) (b7 (List.length (bT vs [])) r aK) k):=by rfl
noncomputable def QP{α:Type}(kp:Option Nat)(f:Nat->α):List α:=match kp with
 |none=>[]
 |some q=>[f q]
theorem iN{q:Nat}(h:fT S keep (some q)=some new):∃c c',S[q]? =some c/\lW S keep 40 c=some c'/\new=[c']:=by
 delta fT at h;dsimp only at h;refine gl λf b=>?_;(revert h;cases _:S[q]?;rotate_left;all_goals (intro h;dsimp only at h))
 ·rename_i c d;refine ae (au h) λc' e a=>?_;clear h;subst a;refine b ?_;exact iY c c' d e rfl
 ·exact aG h
open Classical in
noncomputable def dM(F:Fx)(g:G)(sel:List Nat)(ts:List (Option Addr))(h:Heap):Addr->Option Obj:=λb=>
 if (∃(k:Nat) (a:Addr×Option Addr),k∉sel/\g.cs[k]? =some a/\b∈Y4 a)\/(∃k:Nat,k∉sel/\ts[k]? =some (some b)) then h.get? b else F.P b
noncomputable def dz(g:G)(sel:List Nat):G:={g with cs:=sel.map λk=>g.cs.getD k (0,none)}
noncomputable def dh(F:Fx)(g:G)(sel:List Nat)(ts:List (Option Addr))(h:Heap):Fx:={F with P:=dM F g sel ts h,aj:=[]}
theorem zy:dh F g sel ts h={toCx:=Fx.toCx F,P:=dM F g sel ts h,FP:=Fx.FP F,env:=Fx.env F,top:=Fx.top F,aj:=[],hand:=Fx.hand F}:=by rfl
theorem zz:∀{sel:List Nat} {k:Nat},c8 sel k=none->k∉sel:=by
 intro r;induction r with
 |nil=>intro _ _;simp
 |cons x r b=>
  intro k h;simp -iota only [nw] at h;(revert h;cases _:beq x k;rotate_left;all_goals (intro h;dsimp only at h))
  ·exact aG (aS h)
  ·rename_i e;have c:c8 r k=none:=by
    cases q:c8 r k with
    |none=>rfl
    |some j=>rw [q] at h;exact aG (aS h)
   intro a;refine aQ (nV a) (λd=>?_) (λa=>?_)
   ·clear a;subst d;rw [beq_refl] at e;cases e
   ·exact b c a
theorem gm(a:∀k∈sel,k<g.cs.length)(h:sel[j]? =some k):(dz g sel).cs[j]? =g.cs[k]? :=by delta dz;simp only [hZ,h,map_some];rw [eh,d9 (a k (dP h))];rfl
theorem qh(e:∀k∈sel,k<g.cs.length){b:Addr}(h:b∈(dz g sel).cs.flatMap Y4):∃(k:Nat) (a:Addr×Option Addr),k∈sel/\g.cs[k]? =some a/\b∈Y4 a:=by
 refine gl λn i=>?_;refine ae (Nk h) λa m l=>?_;refine ar (Ep m) λj c=>?_;refine i ?_;have f:j<sel.length:=by have:=(fx c);simpa [dz] using this
 have d:=d9 f;rw [gm e d] at c;exact iY (sel[j]) a (dP d) c l
theorem mu:∀{cs:List (Addr×Option Addr)},(cs.flatMap Y4).Nodup->∀{k:Nat} {a},cs[k]? =some a->(Y4 a).Nodup:=by
 intro cs;induction cs with
 |nil=>intro _ k a h;simp at h
 |cons c cs b=>
  intro hn k a h;rw [py,pz] at hn;cases k with
  |zero=>simp at h;subst h;exact hn.1
  |succ k=>exact b hn.2.1 (by simpa using h)
theorem G2{cs:List (Addr×Option Addr)}(hn:(L::cs.flatMap Y4).Nodup):∀{sel:List Nat},sel.Nodup->(∀k∈sel,k<cs.length)->((sel.map λk=>cs.getD k (0,none)).flatMap Y4).Nodup:=by
 intro sel;induction sel with
 |nil=>intro _ _;simp
 |cons k sel j=>
  intro o lt;refine aq (nodup_cons.mp o) λr n=>?_;have b:=lt k (.head _);have c:=d9 b;have e:cs.getD k (0,none)=cs[k]:=by rw [eh,c];rfl
  rw [gg,py,pz,e];refine ⟨?_,j n (λk b=>lt k (.tail _ b)),λx l y m e=>?_⟩
  ·have:=(Nj hn)
   exact mu this c
  ·refine ae (Nk m) λa i h=>?_;refine ae (Ap i) λd g p=>?_;clear i;subst p;have t:=lt d (.tail _ g);have f:=d9 t;have s:cs.getD d (0,none)=cs[d]:=by rw [eh,f];rfl
   rw [s] at h;exact fO hn c f (λq=>r (q▸g)) x l y h e
theorem vk(R:Y1 F g ls S s){b:Addr}(h:dM F g sel ts s.heap b=some o):s.heap.get? b=some o:=by
 unfold dM at h;split at h
 ·exact h
 ·exact R.dI b o h
theorem jz(R:Y1 F g ls S s){b:Addr}(h:F.P b=some o):dM F g sel ts s.heap b=some o:=by
 unfold dM;split
 ·exact R.dI b o h
 ·exact h
theorem ny(R:Y1 F g ls S s){b:Addr}(h:dM F g sel ts s.heap b=none):F.P b=none:=by
 cases e:F.P b with
 |none=>rfl
 |some o=>rw [jz R e] at h;exact aG (aS h)
theorem kP{b:Addr}(p:F.P b=none)(d:∀(k:Nat) (a:Addr×Option Addr),k∉sel->g.cs[k]? =some a->b∉Y4 a)(c:∀k:Nat,k∉sel->ts[k]?≠some (some b)):dM F g sel ts h b=none:=by
 unfold dM;rw [bj]
 ·exact p
 ·rintro (⟨k,a,q1,q2,q3⟩|⟨k,q1,q2⟩)
  ·exact d k a q1 q2 q3
  ·exact c k q1 q2
theorem nz{b:Addr}(q1:k∉sel)(q2:g.cs[k]? =some a)(q3:b∈Y4 a):dM F g sel ts h b=h.get? b:=by unfold dM;rw [bx (.inl ⟨k,a,q1,q2,q3⟩)]
theorem sv{b:Addr}(q1:k∉sel)(q2:ts[k]? =some (some b)):dM F g sel ts h b=h.get? b:=by unfold dM;rw [bx (.inr ⟨k,q1,q2⟩)]
theorem qi{c:C}(h:Zg sel S k=some c):∃c0,S[k]? =some c0/\lW [] (c8 sel) 40 c0=some c:=by
 delta Zg at h;cases e:S[k]? with
 |none=>rw [e] at h;exact aG h
 |some c0=>rw [e] at h;exact ⟨c0,rfl,h⟩
theorem Y1.narrow(R:Y1 F g ls S s)(T:iG F g S s.heap ts)(P:sel.Nodup)(G:cM (Zg sel S) sel=some ay):
 Y1 (dh F g sel ts s.heap) (dz g sel) [] ay s/\Fz g s.heap [] (c8 sel) (dz g sel):=by
 have w:∀k∈sel,k<g.cs.length:=λk x=>by refine gl λB t=>?_;refine ar (Ep x) λj K=>?_;refine ae (nu G K) λc _ d=>?_;refine ae (qi d) λc0 E _=>t ?_;rw [R.len];exact (fx E)
 have Z:Fz g s.heap [] (c8 sel) (dz g sel):=⟨rfl,λ_ _ e=>e,λk j a f d=>by rw [gm w (su f)];exact d,
  λk a _ _ h=>by rcases h with ⟨l,h⟩|⟨ks,l,h⟩<;>simp at h,λk a c _ _ h=>by simp at h⟩
 have M:∀b∈F.env.locals::(dz g sel).cs.flatMap Y4,b∈F.env.locals::g.cs.flatMap Y4/\(∀(k:Nat) (a:Addr×Option Addr),k∉sel->g.cs[k]? =some a->b∉Y4 a):=by
  intro b z;refine aQ (nV z) (λu=>?_) (λz=>?_)
  ·clear z;subst u;exact ⟨.head _,λk a _ d A=>(yf R.nodup) (mh d A)⟩
  ·refine aP (qh w z) λk a f d A=>?_;exact ⟨.tail _ (mh d A),λC a' q1 q2 q3=>fO R.nodup d q2 (λe=>q1 (e▸f)) b A b q3 rfl⟩
 have cellAt:∀(j:Nat) c,ay[j]? =some c->∃k c₀,sel[j]? =some k/\S[k]? =some c₀/\lW [] (c8 sel) 40 c₀=some c:=by intro j c E;refine ae (Kb G E) λk f d=>?_;exact ae (qi d) λc0 V d=>iY k c0 f V d
 refine ⟨⟨R.gw,R.base,λb o e=>vk R e,R.kZ,R.cm,?_,λj a c f d=>?_,?_,λb z=>?_,?_,R.gens,R.os,λb o e=>?_,?_,R.fN,λb o e=>?_,λh e=>?_⟩,Z⟩
 ·show (sel.map _).length=_
  rw [dG,jf G]
 ·refine gl λB t=>?_
  refine aP (cellAt j c d) λk c₀ q1 q2 q3=>?_
  rw [gm w q1] at f
  refine t ?_
  exact uh Z q3 (R.cells k a c₀ f q2)
 ·refine nodup_cons.mpr ⟨λh=>?_,G2 R.nodup P w⟩
  refine aP (qh w h) λk a f d A=>?_
  exact (yf R.nodup) (mh d A)
 ·refine gl λB t=>?_
  refine aq (M b z) λf d=>?_
  refine eu (R.apart b f) λp1 p2 p3 p4=>?_
  refine t ?_
  exact ⟨p1,kP p2 d λk _ q=>(T.obj b (dP q)).2.1 f,p3,p4⟩
 ·refine ae R.locs λm h _=>?_
  exact ⟨m,h,λi n v e=>by simp [zy] at e⟩
 ·refine ck (R.bh b o e) λp1 p2 p3=>?_
  refine ⟨p1,kP p2 (λk a _ q2 q3=>?_) (λk _ q=>?_),p3⟩
  ·have:=(R.apart b (.tail _ (mh q2 q3))).2.2.1
   have e:F.FP b=some o:=e
   rw [this] at e;exact aG e
  ·have:=(T.obj b (dP q)).2.2.2.2.1
   have e:F.FP b=some o:=e
   rw [this] at e;exact aG e
 ·refine ⟨sel.map λk=>ts.getD k none,?_,λj a ks vs f d=>?_,λy U=>?_,λi j y f d=>?_⟩
  ·rw [dG,jf G]
  ·refine gl λB t=>?_
   refine aP (cellAt j _ d) λk c₀ q1 q2 q3=>?_
   refine ar (Bj q3) λY u=>?_;clear q3;subst u
   rw [gm w q1] at f
   refine aP (T.one k a ks Y f q2) λo L H I J=>?_
   refine t ?_
   refine iY o L H I ?_
   rw [J]
   simp -iota only [hZ,q1,map_some]
   have x:k<ts.length:=by rw [T.len,<-R.len];exact w k (dP q1)
   rw [eh,d9 x];rfl
  ·refine ae (Ap U) λk x e=>?_
   have D:k<ts.length:=by rw [T.len,<-R.len];exact w k x
   have O:ts[k]? =some (some y):=by rw [d9 D];rw [eh,d9 D] at e;exact bA some e
   refine gl λB t=>?_
   refine lO (T.obj y (dP O)) λp r H I J W=>?_
   refine t ?_
   refine ⟨p,λh=>r (M y h).1,H,kP I (λC a q1 q2 q3=>r (.tail _ (mh q2 q3))) (λC q1 q2=>?_),J,W⟩
   exact q1 (T.nd k C y O q2▸x)
  ·have conv:∀(i:Nat),(sel.map λk=>ts.getD k none)[i]? =some (some y)->∃k,sel[i]? =some k/\ts[k]? =some (some y):=by
    intro i h;rw [hZ] at h;refine ae (au h) λk q1 q2=>?_;have D:k<ts.length:=by rw [T.len,<-R.len];exact w k (dP q1)
    refine ⟨k,q1,?_⟩;rw [d9 D];rw [eh,d9 D] at q2;exact bA some q2
   refine ae (conv i f) λk q1 q2=>?_
   refine ae (conv j d) λC Tt N=>?_
   have:=T.nd k C y q2 N
   clear N;subst this
   exact k6 P q1 Tt
 ·have e:dM F g sel ts s.heap b=some o:=e
  unfold dM at e
  split at e
  ·rename_i E
   refine aQ E (λu=>aP u λk a q1 q2 q3=>?_) (λQ=>ae Q λk q1 q2=>?_)
   ·clear u
    exact (R.apart b (.tail _ (mh q2 q3))).2.2.2
   ·clear Q
    exact (T.obj b (dP q2)).2.2.2.2.2
  ·exact R.cw b o e
 ·refine aq (R.hJ h e) λp u=>?_;refine bd u λo L q r=>?_;clear u
  refine ⟨?_,o,L,q,r⟩
  refine gl λB t=>?_
  refine aQ p (λp=>?_) (λu=>ar u λX p=>?_)
  ·refine ae (Nk p) λa ha z=>?_
   refine ar (Ep ha) λk x=>?_
   by_cases hs:k∈sel
   ·refine ar (Ep hs) λj K=>?_
    refine t ?_
    exact .inl (mem_flatMap.mpr ⟨a,dP ((gm w K).trans x),z⟩)
   ·refine t ?_
    exact .inr ⟨o,(nz hs x z).trans q⟩
  ·clear u
   refine t ?_
   exact .inr ⟨X,jz R p⟩
open Classical in
noncomputable def oO(g aW:G)(h:Heap)(aK:List C)(keep:Nat->Option Nat)(kp:Option Nat):G:=
 {aW with cm:=λb=>if (∃(k:Nat) (a:Addr×Option Addr),keep k=none/\aW.cs[k]? =some a/\((∃l,aK[k]? =some (.list l))\/(∃ks l,aK[k]? =some (.dict ks l)))/\b=a.1) then h.get? b else aW.cm b,
          cs:=g.cs++(match kp with|none=>[]|some q=>[aW.cs.getD q (0,none)])}
theorem zA:∀{cs:List (Addr×Option Addr)},(∀(i:Nat) a,cs[i]? =some a->(Y4 a).Nodup)->(∀(i j:Nat) a b x,cs[i]? =some a->cs[j]? =some b->x∈Y4 a->x∈Y4 b->i=j)->(cs.flatMap Y4).Nodup:=by
 intro cs;induction cs with
 |nil=>intro _ _;exact nodup_nil
 |cons a cs k=>
  intro h g;rw [py,pz];refine ⟨h 0 a rfl,k (λi b f=>h (i+1) b f) (λi j b c x p q r t=>lM (g (i+1) (j+1) b c x p q r t)),λx l y d e=>?_⟩;subst e;refine ae (Nk d) λb f d=>?_;refine ar (Ep f) λj m=>?_;exact nomatch g 0 (j+1) a b x rfl m l d
structure Wd (g aW bo:G) (S aK hO:List C) (gj:Heap) (sel:List Nat) (ts ts₂ jg:List (Option Addr)) (keep:Nat->Option Nat):Prop where
 len:bo.cs.length=hO.length
 QT:jg.length=hO.length
 at_:∀k,k<hO.length->(k∉sel/\bo.cs[k]? =g.cs[k]?/\hO[k]? =S[k]?/\jg[k]? =ts[k]?)\/∃j c₀ c',keep j=some k/\bo.cs[k]? =aW.cs[j]?/\aK[j]? =some c₀/\lW aK keep 40 c₀=some c'/\hO[k]? =some c'/\jg[k]? =ts₂[j]?
 one:∀i j k,keep i=some k->keep j=some k->i=j
 le:g.Le bo
 z:Fz aW gj aK keep bo
 old:∀b o,bo.cm b=some o->gj.get? b=some o
 no:∀b,aW.cm b=Option.none->(∀(k:Nat) a,keep k=Option.none->aW.cs[k]? =some a->b∉Y4 a)->bo.cm b=Option.none
section
variable {hO:List C}{jg:List (Option Addr)}
protected theorem Wd.cs (W:Wd g aW bo S aK hO aN.heap sel ts ts₂ jg keep) (h:bo.cs[k]? =some a):(k∉sel/\g.cs[k]? =some a)\/∃j,keep j=some k/\aW.cs[j]? =some a:=by
 refine aQ (W.at_ k (by refine (aS W.len)▸?_;exact (fx h))) (λc=>ck c λq1 q2 _=>?_) (λb=>bg b λj _ _ q1 q2 _=>?_)
 ·clear c;exact .inl ⟨q1,q2.symm.trans h⟩
 ·clear b;exact .inr ⟨j,q1,q2.symm.trans h⟩
theorem Wd.Uf(W:Wd g aW bo S aK hO aN.heap sel ts ts₂ jg keep){y:Addr}(h:jg[k]? =some (some y)):(k∉sel/\ts[k]? =some (some y))\/∃j,keep j=some k/\ts₂[j]? =some (some y):=by
 refine aQ (W.at_ k (by rw [<-W.QT];exact (fx h))) (λb=>eu b λq1 _ _ q2=>?_) (λa=>vX a λj _ _ q1 _ _ _ _ q2=>?_)
 ·clear b;exact .inl ⟨q1,q2.symm.trans h⟩
 ·clear a;exact .inr ⟨j,q1,q2.symm.trans h⟩
theorem jW{b:Addr}(c:g.cs[k]? =some a)(d:b∈Y4 a):b∈F.env.locals::g.cs.flatMap Y4:=.tail _ (mh c d)
theorem kQ(R:Y1 F g ls S s){b:Addr}(f:k∉sel)(c:g.cs[k]? =some a)(d:b∈Y4 a):∃o,s.heap.get? b=some o/\(dh F g sel ts s.heap).P b=some o:=
 let ⟨o,e⟩:=R.gQ b (jW c d)
 ⟨o,e,(nz f c d).trans e⟩
theorem ZE(R:Y1 F g ls S s)(f:Y1 (dh F g sel ts s.heap) aW [] aK aN){b:Addr}(i:k∉sel)(c:g.cs[k]? =some a)(d:b∈Y4 a):b∉F.env.locals::aW.cs.flatMap Y4:=λh=>by refine ae (kQ (ts:=ts) R i c d) λo _ e=>?_;rw [(f.apart _ h).2.1] at e;exact aG e
theorem Wd.fp(W:Wd g aW bo S aK hO aN.heap sel ts ts₂ jg keep){b:Addr}(h:b∈bo.cs.flatMap Y4):(∃(k:Nat) (a:Addr×Option Addr),k∉sel/\g.cs[k]? =some a/\b∈Y4 a)\/(∃(j k:Nat) (a:Addr×Option Addr),aW.cs[j]? =some a/\b∈Y4 a/\keep j=some k):=by
 refine gl λm d=>?_;refine ae (Nk h) λa l e=>?_;refine ar (Ep l) λk i=>?_;refine aQ (W.cs i) (λf=>aq f λq1 q2=>?_) (λc=>ae c λj q1 q2=>?_)
 ·clear f;refine d ?_;exact .inl ⟨k,a,q1,q2,e⟩
 ·clear c;refine d ?_;exact .inr ⟨j,k,a,q2,e,q1⟩
theorem Wd.nodup(W:Wd g aW bo S aK hO aN.heap sel ts ts₂ jg keep)(R:Y1 F g ls S s)(l:Y1 (dh F g sel ts s.heap) aW [] aK aN):(F.env.locals::bo.cs.flatMap Y4).Nodup:=by
 have n:=nodup_cons.mp R.nodup;have o:=nodup_cons.mp l.nodup;refine nodup_cons.mpr ⟨λh=>?_,zA (λi a h=>?_) λi j a b x r p m f=>?_⟩
 ·refine aQ (W.fp h) (λc=>aP c λk a _ q2 q3=>?_) (λd=>bg d λj k a q1 q2 _=>?_)
  ·clear c;exact n.1 (mh q2 q3)
  ·clear d;exact o.1 (mh q1 q2)
 ·refine aQ (W.cs h) (λc=>aq c λ_ q=>?_) (λd=>ae d λj _ q=>?_)
  ·clear c;exact mu n.2 q
  ·clear d;exact mu o.2 q
 ·rcases W.cs r with ⟨p1,p2⟩|⟨u,p1,p2⟩<;>rcases W.cs p with ⟨q1,q2⟩|⟨t,q1,q2⟩
  ·exact Classical.byContradiction λe=>fO R.nodup p2 q2 (λz=>e z.symm) x m x f rfl
  ·exact (ZE R l p1 p2 m (jW q2 f)).elim
  ·exact (ZE R l q1 q2 f (jW p2 m)).elim
  ·refine Classical.byContradiction λe=>fO l.nodup p2 q2 (λz=>e ?_) x m x f rfl;rw [z,p1] at q1;exact aw q1
theorem Wd.W1(W:Wd g aW bo S aK hO aN.heap sel ts ts₂ jg keep)(R:Y1 F g ls S s)(T:iG F g S s.heap ts)(x:Y1 (dh F g sel ts s.heap) aW [] aK aN)(w:iG (dh F g sel ts s.heap) aW aK aN.heap ts₂):iG F bo hO aN.heap jg:=by
 have H:∀{k j:Nat} {y:Addr},k∉sel->ts[k]? =some (some y)->ts₂[j]? =some (some y)->False:=λhs c l=>by refine aq (T.obj _ (dP c)) λb _=>?_;refine bd b λo z u v=>?_;clear b;have e:(dh F g sel ts s.heap).P _=some o:=(sv hs c).trans u;replace e:=((w.obj _ (dP l)).2.2.2.1)▸e;exact aG e
 refine ⟨W.QT,λk a ks vs c l=>?_,λy A=>?_,λi j y c l=>?_⟩
 ·refine aQ (W.at_ k (by refine (aS W.len)▸?_;exact (fx c))) (λb=>eu b λq1 q2 q3 q4=>?_) (λd=>vX d λj c₀ c' q1 q2 q3 q4 q5 q6=>?_)
  ·clear b;replace c:=q2▸c;replace l:=q3▸l;refine aP (T.one k a ks vs c l) λo z m f n=>?_;refine ae (kQ (ts:=ts) R q1 c (.head _)) λM e1 e2=>?_;replace e1:=m▸e1;(replace e1:=aw e1;subst e1);exact iY o z (x.dI _ _ e2) f (by refine q4▸?_;exact n)
  ·clear d;replace c:=q2▸c;replace q5:=l▸q5;(replace q5:=aw q5;subst q5);refine ar (Bj q4) λL b=>?_;clear q4;subst b;refine q6▸?_;exact w.one j a ks L c q3
 ·refine ar (Ep A) λk B=>?_;refine aQ (W.Uf B) (λb=>aq b λhs q=>?_) (λd=>ae d λj _ q=>?_)
  ·clear b;refine lO (T.obj y (dP q)) λb r m f n t=>?_;refine bd b λo z u v=>?_;clear b;have e:(dh F g sel ts s.heap).P y=some o:=(sv hs q).trans u;have E:y∉F.env.locals::aW.cs.flatMap Y4:=λh=>by replace e:=((x.apart _ h).2.1)▸e;exact aG e
   refine ⟨⟨o,z,x.dI _ _ e,v⟩,λh=>?_,m,f,n,W.no y (x.cw y o e) λG J _ C D=>E (jW C D)⟩;refine aQ (nV h) (λb=>?_) (λh=>?_)
   ·clear B A q m n;clear h e E f t u;subst b;exact r (.head _)
   ·refine aQ (W.fp h) (λb=>aP b λG a _ q2 q3=>?_) (λd=>bg d λj _ a q1 q2 _=>?_)
    ·clear b;exact r (jW q2 q3)
    ·clear d;exact E (jW q1 q2)
  ·clear d;refine lO (w.obj y (dP q)) λp r m f n t=>?_;have r:y∉F.env.locals::aW.cs.flatMap Y4:=r;refine ⟨p,λh=>?_,m,ny R f,n,W.no y t λG J _ C D=>r (jW C D)⟩;refine aQ (nV h) (λb=>?_) (λh=>?_)
   ·clear p q m n f t r h;clear A B;subst b;exact r (.head _)
   ·refine aQ (W.fp h) (λb=>aP b λG a q1 q2 q3=>?_) (λd=>bg d λj _ a q1 q2 _=>?_)
    ·clear b;refine ae (kQ (ts:=ts) R q1 q2 q3) λo _ e2=>?_;replace e2:=f▸e2;exact aG e2
    ·clear d;exact r (jW q1 q2)
 ·rcases W.Uf c with ⟨p1,p2⟩|⟨K,p1,p2⟩<;>rcases W.Uf l with ⟨q1,q2⟩|⟨I,q1,q2⟩
  ·exact T.nd i j y p2 q2
  ·exact (H p1 p2 q2).elim
  ·exact (H q1 q2 p2).elim
  ·skip;replace p1:=(w.nd K I y p2 q2)▸p1;replace p1:=q1▸p1;exact (aw p1).symm
theorem Wd.rel(W:Wd g aW bo S aK hO aN.heap sel ts ts₂ jg keep)(R:Y1 F g ls S s)(T:iG F g S s.heap ts)(f:Y1 (dh F g sel ts s.heap) aW [] aK aN)(M:iG (dh F g sel ts s.heap) aW aK aN.heap ts₂)(L:dW F.env.locals s.heap aN.heap):Y1 F bo ls hO aN:=by
 have D:=λ{b o} hP=>W.no b (f.cw b o hP) λk a _ q2 q3=>by rw [(f.apart _ (jW q2 q3)).2.1] at hP;exact aG hP
 refine ⟨W.z.w.trans f.gw,f.base,λb o e=>f.dI b o (jz R e),f.kZ,W.old,W.len,λk a c p A=>?_,W.nodup R f,λb u=>?_,?_,f.gens,f.os,λb o e=>?_,⟨jg,W.W1 R T f M⟩,λb o e=>W.z.cm b o (f.fN b o e),λb o e=>D (jz R e),λh e=>⟨(R.hJ h e).1.imp (λz=>by obtain ⟨t,O⟩:=W.le.cs;rw [O,mJ];exact mI _ z) id,(f.hJ h e).2⟩⟩
 ·refine aQ (W.at_ k (by rw [<-W.len];exact (fx p))) (λl=>eu l λq1 q2 q3 q4=>?_) (λy=>vX y λj c₀ c' q1 q2 q3 q4 q5 q6=>?_)
  ·clear l;rw [q2] at p;rw [q3] at A;refine ((R.cells k a c p A).at λb u o e=>?_).mono W.le;refine ae (kQ (ts:=ts) R q1 p u) λV e1 e2=>?_;rw [e] at e1;(replace e1:=aw e1;subst e1);exact f.dI b o e2
  ·clear y;rw [q2] at p;rw [A] at q5;(replace q5:=aw q5;subst q5);exact uh W.z q4 (f.cells j a c₀ p q3)
 ·refine gl λG B=>?_;refine aQ (nV u) (λl=>?_) (λu=>?_)
  ·clear u;subst l;refine eu (R.apart F.env.locals (.head _)) λp1 p2 p3 p4=>?_;refine B ?_;exact ⟨p1,p2,p3,W.no _ (f.apart F.env.locals (.head _)).2.2.2 λk a _ q2 q3=>(yf f.nodup) (mh q2 q3)⟩
  ·refine aQ (W.fp u) (λl=>aP l λk a q1 q2 q3=>?_) (λy=>bg y λj k a q1 q2 q3=>?_)
   ·clear l;refine eu (R.apart b (jW q2 q3)) λp1 p2 p3 p4=>?_;refine ae (kQ (ts:=ts) R q1 q2 q3) λo _ e2=>?_;refine B ?_;exact ⟨p1,p2,p3,D e2⟩
   ·clear y;refine eu (f.apart b (jW q1 q2)) λp1 p2 p3 p4=>?_;refine B ?_;exact ⟨p1,ny R p2,p3,W.no b p4 λQ P C I J=>fO f.nodup q1 I (λe=>by rw [e,q3] at C;exact aG (aS C)) b q2 b J rfl⟩
 ·refine gl λG B=>?_;refine ae R.locs λm l q=>?_;refine bg l λo es H e d r=>?_;clear l;refine ar (L o e) λU N=>?_;refine B ?_;exact ⟨m,⟨_,es,H,N,d,r⟩,λi n v p A=>let ⟨x,E,K⟩:=q i n v p A;⟨x,E,K.mono W.le⟩⟩
 ·refine ck (R.bh b o e) λp1 p2 p3=>?_;refine ⟨p1,p2,W.no b (f.bh b o e).2.2 λk a _ q2 q3=>?_⟩;have e:(dh F g sel ts s.heap).FP b=some o:=e;rw [(f.apart b (jW q2 q3)).2.2.1] at e;exact aG e
end
theorem mv(h:bZ sel N kp j=some k):sel[j]? =some k\/(sel[j]? =none/\kp=some j/\k=N):=by
 unfold bZ at h;refine gl λd a=>?_;(revert h;cases _:sel[j]?;rotate_left;all_goals (intro h;dsimp only at h))
 ·rename_i c;refine a ?_;exact .inl (c.trans h)
 ·rename_i hs;cases kp with
  |none=>exact aG h
  |some q=>
   dsimp only at h;(revert h;cases _:beq q j;rotate_left;all_goals intro h)
   ·rename_i b;refine a ?_;exact .inr ⟨hs,bA some (c5 b),(aw h).symm⟩
   ·exact aG h
theorem Dk(h:sel[j]? =some k):bZ sel N kp j=some k:=by unfold bZ;rw [h]
theorem Dl{q:Nat}(h:sel[q]? =none):bZ sel N (some q) q=some N:=by unfold bZ;rw [h];dsimp only;rw [beq_refl]
noncomputable def ZL(sel:List Nat)(kp:Option Nat)(N:Nat)(ts ts₂:List (Option Addr)):List (Option Addr):=(range N).map (λk=>match c8 sel k with|some j=>ts₂.getD j none|none=>ts.getD k none)++QP kp (λq=>ts₂.getD q none)
theorem getD_at{l:List α}{d:α}(h:k<l.length):some (l.getD k d)=l[k]? :=by rw [eh,d9 h];rfl
theorem Kc(h:k<N):(ZL sel kp N ts ts₂)[k]? =some (match c8 sel k with|some j=>ts₂.getD j none|none=>ts.getD k none):=by unfold ZL;rw [fb (by rw [dG,length_range];exact h),hZ,getElem?_range h];rfl
theorem G3{q:Nat}:(ZL sel (some q) N ts ts₂)[N]? =some (ts₂.getD q none):=by unfold ZL;rw [eO (by rw [dG,length_range];exact cJ _),dG,length_range,jR];rfl
theorem N5(p:Prop) [Decidable p](a b:α):(if p then a else b)=a\/(if p then a else b)=b:=by by_cases h:p;exact .inl (bx h);exact .inr (bj h)
theorem G4(R:Y1 F g ls S s)(rq:ts.length=S.length)(P:sel.Nodup)(y:∀k∈sel,k<g.cs.length)
 (d:ts₂.length=aK.length) (L:(dz g sel).Le aW) (z:Y1 (dh F g sel ts s.heap) aW [] aK aN)
 (l:∀q,kp=some q->sel.length<=q/\q<aK.length) (n:keep=bZ sel S.length kp) (M:cM (lW aK keep 40) (aK.take sel.length)=some upd) (hn:fT aK keep kp=some new) (r:bo=oO g aW aN.heap aK keep kp):
 Wd g aW bo S aK (bS sel upd S++new) aN.heap sel ts ts₂ (ZL sel kp S.length ts ts₂) keep:=by
 have Q:sel.length<=aK.length:=by refine ar L.cs λt ht=>?_;rw [<-z.len,ht];simp [dz]
 have Uh:upd.length=sel.length:=by rw [jf M,length_take];exact Nat.min_eq_left Q
 have Y:∀{j k:Nat},sel[j]? =some k->aW.cs[j]? =g.cs[k]? :=λ{j k} h=>by have m:=gm y h;rw [<-m];rw [d9 (y k (dP h))] at m;rw [m];exact L.at m
 have X:∀b,bo.cm b=aN.heap.get? b\/bo.cm b=aW.cm b:=λb=>by rw [r];exact @N5 _ _ (Classical.propDecidable _) _ _
 have Z:=λb o e=>(X b).elim (λh=>h.trans (z.cm b o e)) λh=>h.trans e
 have x:bo.cs=g.cs++QP kp (λq=>aW.cs.getD q (0,none)):=by rw [r];clear l n r hn;cases kp<;>rfl
 have U:g.Le bo:=⟨by rw [r];exact L.w,λb o e=>Z b o (L.cm b o e),_,x⟩
 have C:new.length=(QP kp (λq=>q)).length:=by
  clear l x n r;cases kp with
  |none=>(replace hn:=aw hn;subst hn);rfl
  |some q=>obtain ⟨c,c',_,_,rfl⟩:=iN hn;rfl
 have K:∀{α:Type} (f:Nat->α),(QP kp f).length=(QP kp (λq=>q)).length:=λf=>by clear l x n r hn C;cases kp<;>rfl
 have W:∀{q},kp=some q->bo.cs[S.length]? =aW.cs[q]? :=λ{q} e=>by rw [x,e,<-R.len,eO (cJ _),jR];exact getD_at (by rw [z.len];exact (l q e).2)
 refine ⟨by rw [x,de,de,cj,C,K,R.len],by rw [de,cj,C];unfold ZL;rw [de,dG,length_range,K],λk G=>?_,λi j k m u=>?_,U,⟨by rw [r];rfl,Z,λk j a m u=>?_,λk a m u I o h4=>?_,λk a c _ u I=>z.cells k a c u I⟩,λb o e=>(X b).elim (λh=>h.symm.trans e) λh=>z.cm b o (h.symm.trans e),λb e h=>?_⟩
 ·refine aQ (Nat.lt_or_ge k S.length) (λv=>?_) (λv=>?_)
  ·have T:bo.cs[k]? =g.cs[k]? :=by rw [x,fb (by rw [R.len];exact v)]
   have O:(bS sel upd S++new)[k]? =(bS sel upd S)[k]? :=fb (by rw [cj];exact v)
   have A:=Kc (sel:=sel) (kp:=kp) (ts:=ts) (ts₂:=ts₂) v
   cases B:c8 sel k with
   |none=>
    have hs:=zz B
    rw [B] at A
    exact .inl ⟨hs,T,O.trans (iM sel upd S k hs),A.trans (getD_at (by rw [rq];exact v))⟩
   |some j=>
    have D:=su B
    have N:=(fx D)
    have J:=fw N Q
    rw [B] at A
    refine gl λGz kz=>?_
    refine ae (nu M (by rw [getElem?_take,bx N,d9 J])) λc' E H=>?_
    refine kz ?_
    exact .inr ⟨j,aK[j],c',by rw [n];exact Dk D,T.trans (Y D).symm,d9 J,H,(O.trans (jy sel upd S j k P (λk n=>by rw [<-R.len];exact y k n) Uh.symm D)).trans E,A.trans (getD_at (by rw [d];exact J))⟩
  ·rw [de,cj] at G
   clear C;cases e:kp with
   |none=>rw [e] at hn;(replace hn:=aw hn;subst hn);exact absurd G (Nat.not_lt.mpr v)
   |some q=>
    rw [e] at hn
    refine aP (iN hn) λc c' E H jU=>?_;clear hn;subst jU
    obtain rfl:k=S.length:=Nat.le_antisymm (n5 G) v
    exact .inr ⟨q,c,c',by rw [n,e];exact Dl ((λe=>getElem?_eq_none (l _ e).1) e),W e,E,H,by rw [eO (by rw [cj];exact cJ _),cj,jR];rfl,by rw [G3];exact getD_at (by rw [d];exact (l q e).2)⟩
 ·rw [n] at m u
  rcases mv m with p|⟨_,p2,p3⟩<;>rcases mv u with q|⟨_,q2,q3⟩
  ·exact k6 P p q
  ·exact absurd (y k (dP p)) (by rw [q3,R.len];exact lK _)
  ·exact absurd (y k (dP q)) (by rw [p3,R.len];exact lK _)
  ·exact aw (p2.symm.trans q2)
 ·rw [n] at m
  refine aQ (mv m) (λp=>?_) (λV=>ck V λ_ p2 aF=>?_)
  ·exact U.at ((Y p).symm.trans u)
  ·clear V;clear m;subst aF
   exact (W p2).trans u
 ·rw [r]
  simp only [oO]
  rw [bx ⟨k,a,m,u,I,rfl⟩]
  exact h4
 ·rw [r]
  simp only [oO]
  rw [bj]
  ·exact e
  ·rintro ⟨k,a,q1,q2,q3,rfl⟩
   exact h k a q1 q2 (.head _)
theorem Y1.widen(R:Y1 F g ls S s)(T:iG F g S s.heap ts)(h:sel.Nodup)(d:∀k∈sel,k<g.cs.length)
 (L:(dz g sel).Le aW) (a:Y1 (dh F g sel ts s.heap) aW [] aK aN) (e:dW F.env.locals s.heap aN.heap)
 (b:∀q,kp=some q->sel.length<=q/\q<aK.length) (f:cM (lW aK (bZ sel S.length kp) 40) (aK.take sel.length)=some upd) (hn:fT aK (bZ sel S.length kp) kp=some new):
 g.Le (oO g aW aN.heap aK (bZ sel S.length kp) kp)/\Y1 F (oO g aW aN.heap aK (bZ sel S.length kp) kp) ls (bS sel upd S++new) aN/\Fz aW aN.heap aK (bZ sel S.length kp) (oO g aW aN.heap aK (bZ sel S.length kp) kp):=by
 refine ar a.tb λts₂ c=>?_
 have W:=G4 R T.len h d c.len L a b rfl f hn rfl
 exact ⟨W.le,W.rel R T a c e,W.z⟩
theorem xb(Z:Fz g h [] (c8 sel) (dz g sel))(e:cM (fK [] (c8 sel) 40) vs=some vs')(r:cr g vs xs):cr (dz g sel) vs' xs:=
 eM (sr Z 40) e r
theorem xc{r:Rs V}{q:Nat}(h:b7 n r S=some q):n<=q/\q<S.length:=by
 have b:∀k:Nat,(match Nat.blt k n with
  |true=>none
  |false=>match S[k]? with
   |some (.inst _ _ _)=>some k
   |some (.exc _ _)=>some k
   |_=>none)=some q->n<=q/\q<S.length:=by
  intro k a
  clear h;cases e:Nat.blt k n with
  |true=>rw [e] at a;exact aG a
  |false=>
   rw [e] at a;dsimp only at a;have hn:=Nat.le_of_not_lt λh=>eI (e.symm.trans (ble_eq.mpr h));cases d:S[k]? with
   |none=>rw [d] at a;exact aG a
   |some c=>rw [d] at a;cases c with
    |inst _ _ _=>(replace a:=aw a;subst a);exact ⟨hn,(fx d)⟩
    |exc _ _=>(replace a:=aw a;subst a);exact ⟨hn,(fx d)⟩
    |_=>exact aG a
 cases r with
 |exc k=>exact b k h
 |ok v=>cases v with
  |ref k=>exact b k h
  |_=>exact aG h
theorem ui{ks vs}(e:lW S keep n (.exc ks vs)=some c'):∃vs',c'=.exc ks vs':=by refine ae (au e) λb _ a=>?_;clear e;subst a;exact ⟨b,rfl⟩
theorem xd{X:Cx}{a:Addr}(hf:vP X d a f):vP X d a (λhd=>lX (f hd)):=by
 intro F A hX z vs S r S' h ls xs g s Q E R nW K n;simp -iota only [kO] at h;generalize Ui:bT vs []=sel at h;have nd:=Ui▸xa vs [] nodup_nil;refine gl λY o=>?_;(revert h;cases _:cM (fK [] (c8 sel) 40) vs;all_goals intro h)
 ·exact aG h
 rename_i vs' mV;(revert h;cases _:cM (Zg sel S) sel;all_goals (intro h;dsimp only at h))
 ·exact aG h
 rename_i ay MI;cases P:f F.hand.isSome vs' ay with
 |none=>rw [P] at h;exact aG h
 |some Uj=>
 obtain ⟨r₁,aK⟩:=Uj;rw [P] at h;dsimp only at h;(revert h;cases _:cM (lW aK (bZ sel (List.length S) (b7 (List.length sel) r₁ aK)) 40) (take (List.length sel) aK);all_goals (intro h;dsimp only at h))
 ·exact aG h
 rename_i w U;(revert h;cases _:fT aK (bZ sel (List.length S) (b7 (List.length sel) r₁ aK)) (b7 (List.length sel) r₁ aK);all_goals (intro h;dsimp only at h))
 ·exact aG h
 rename_i a1 l;refine ar R.tb λts T=>?_;refine aq (R.narrow T nd MI) λbp Uk=>?_;have gU:∀k∈sel,k<g.cs.length:=λk H=>by
  refine gl λY o=>?_;refine ar (Ep H) λj J=>?_;refine ae (nu MI J) λc _ m=>?_;unfold Zg at m;(revert m;cases _:S[k]?;rotate_left;all_goals intro m)
  ·rename_i c0 hc;refine o ?_;refine R.len▸?_;exact (fx hc)
  ·exact aG m
 have Bk:yg d (dh F g sel ts s.heap) A:=⟨z.frames,z.depth,z.units,z.kinds,z.outs,z.hand⟩
 have wide:∀u p,(dz g sel).Le u->Y1 (dh F g sel ts s.heap) u [] aK p->dW F.env.locals s.heap p.heap->_:=λu p L B y=>
  R.widen T nd gU L B y (λq e=>xc e) U l
 refine o ?_;refine hf (dh F g sel ts s.heap) A hX Bk vs' ay r₁ aK P [] xs (dz g sel) s Q E bp (xb Uk mV nW) (λv e u p x L B y hx=>?_) (λk e u p b L B y G=>?_)
 ·clear n;subst e;refine ae (au h) λv' i m=>?_;clear h;(injection m with m V;subst m V);refine ck (wide u p L B y) λN M O=>?_;exact K v' rfl _ p x N M y (sr O 40 v v' x i hx)
 ·clear K;subst e;refine ae (au h) λC i m=>?_;clear h P;(injection m with m V;subst m V);refine ck (wide u p L B y) λN M O=>?_;refine aq G λH D=>?_;clear G;refine dZ D λks ws W=>?_;clear D;have Z:=O.cs k C b i H;refine n C rfl _ p b N M y ⟨Z,?_⟩;have SK:C<(bS sel w S++a1).length:=by refine (aS M.len)▸?_;exact (fx Z)
  unfold bZ at i;refine gl λY o=>?_;(revert i;clear n wide N O M SK H Z;cases _:sel[k]?;rotate_left;all_goals (intro i;dsimp only at i))
  ·rename_i j J;cases i;have Pr:=(fx J)
   refine o ?_;have uj:(aK.take sel.length)[k]? =some (.exc ks ws):=by rw [getElem?_take_of_lt Pr];exact W
   refine gl λY o=>?_;refine ae (nu U uj) λc' q1 q2=>?_;refine ar (ui q2) λvs' D=>?_;clear q2;subst D;refine o ?_;have QW:C<S.length:=by refine (aS R.len)▸?_;exact gU C (dP J)
   have Uh:sel.length=w.length:=by
    refine (jf U)▸?_;refine length_take▸?_;have:=(fx W)
    refine ar L.cs λt ht=>?_;have:sel.length<=aK.length:=by (refine (aS B.len)▸?_;refine ht▸?_);simp [dz]
    exact (Nat.min_eq_left ‹_›).symm
   refine iX ks vs' ?_;rw [fb (by rw [cj];exact QW),jy sel w S k C nd (λk H=>by refine (aS R.len)▸?_;exact gU k H) Uh J];exact q1
  ·(revert i;clear U;cases _:b7 (List.length sel) (Internal.Rs.exc k) aK;rotate_left;all_goals (intro i;dsimp only at i))
   ·rename_i q hq;(revert i;cases _:beq q k;rotate_left;all_goals intro i)
    ·rename_i G;replace i:=aw i;subst i;have G:=c5 G;subst G;replace l:=hq▸l;refine aP (iN l) λc c' I e4 jU=>?_;clear l;subst jU;refine o ?_;replace I:=W▸I;clear o;(replace I:=aw I;subst I);refine ar (ui e4) λvs' D=>?_;clear e4;subst D;refine iX ks vs' ?_;rw [eO (by rw [cj];exact cJ _),cj,jR];rfl
    ·exact aG i
   ·exact aG i
noncomputable def jZ:List Str->Str->Option Nat
 |[],_=>none
 |x::r,n=>match aD x n with
  |true=>some 0
  |false=>(jZ r n).map (· +1)
theorem Kh{x:Str}{r:List Str}:
 jZ (M8::r) x=
  match aD M8 x with
  |true=>some 0
  |false=>Option.map (λx=>x+1) (jZ r x):=by rfl
theorem Dn:∀{l:List Str} {n:Str} {j:Nat},jZ l n=some j->l[j]? =some n:=by
 intro r;induction r with
 |nil=>intro _ _ h;exact aG h
 |cons x r a=>
  intro n j h;simp -iota only [Kh] at h;(revert h;cases _:aD x n;rotate_left;all_goals (intro h;dsimp only at h))
  ·rename_i e;(replace h:=aw h;subst h);exact be.mp e▸rfl
  ·refine ae (au h) λd c b=>?_;clear h;subst b;simpa using a c
noncomputable def xe:List Str->List V->Str->Option V
 |x::r,v::vs,n=>match aD x n with
  |true=>some v
  |false=>xe r vs n
 |_,_,_=>none
theorem G5{x a:Str}{r:List Str}:
 xe (a::r) (v::vs) x=
  match aD a x with
  |true=>some v
  |false=>xe r vs x:=by rfl
theorem sx:∀{l:List Str} {vs:List V} {n:Str} {v:V},xe l vs n=some v->∃i:Nat,l[i]? =some n/\vs[i]? =some v
 |[],_,_,_=>@λh=>by exact aG h
 |x::r,[],_,_=>@λh=>by exact aG h
 |x::r,w::vs,n,v=>@λh=>by
  rw [G5] at h;(revert h;cases _:aD x n;rotate_left;all_goals (intro h;dsimp only at h))
  ·rename_i e;(replace h:=aw h;subst h);exact ⟨0,by exact be.mp e▸rfl,rfl⟩
  ·refine ae (sx h) λi b a=>?_;exact ⟨i+1,by simpa using b,by simpa using a⟩
noncomputable def eX(cells:List Str)(n:Nat):List Str->List V->bW
 |[],_=>[]
 |x::r,[]=>(match jZ cells x with
  |some j=>some (.ref (n+j))
  |none=>none)::eX cells n r []
 |x::r,v::vs=>(match jZ cells x with
  |some j=>some (.ref (n+j))
  |none=>some v)::eX cells n r vs
theorem zC(cells:List Str)(n:Nat)(l:List Str)(vs:List V)(i:Nat):(eX cells n l vs)[i]? =l[i]?.map λx=>match jZ cells x with|some j=>some (.ref (n+j))|none=>vs[i]? :=by
 induction l generalizing vs i with
 |nil=>rfl
 |cons y r a=>cases vs with
  |nil=>cases i with
   |zero=>rfl
   |succ i=>exact a [] i
  |cons w vs=>cases i with
   |zero=>rfl
   |succ i=>exact a vs i
theorem Do(cells:List Str)(n:Nat)(l:List Str)(vs:List V)(i:Nat)(x:Str)(v:V)(h:l[i]? =some x)(a:(eX cells n l vs)[i]? =some (some v)):
 (∃j,jZ cells x=some j/\v=.ref (n+j))\/(jZ cells x=none/\vs[i]? =some v):=by
 rw [zC,h] at a
 have a:=aw (show some (match jZ cells x with|some j=>some (.ref (n+j))|none=>vs[i]?)=some (some v) from a)
 cases e:jZ cells x with
 |some j=>rw [e] at a;exact .inl ⟨j,rfl,(aw a).symm⟩
 |none=>rw [e] at a;exact .inr ⟨rfl,a⟩
structure g9 where
 aj:List Str
 np:Nat
 gt:eY
 body:dL
 scope:Scope
 Ey:Nat->Option (List V)
 cells:List Str
variable {D:g9}
noncomputable def gn(D:g9)(full:List V):List C:=D.cells.map λn=>.var (xe D.aj full n)
noncomputable def N7:Rs Fl->Rs V
 |.ok fl=>.ok (match fl with
  |.cY=>.none
  |.ret v=>v)
 |.exc k=>.exc k
noncomputable def gy(D:g9)(fn:Bool->lU)(mt:Bool->Addr->Str->Option Addr)(N:Nat)(hd:Bool)(vs:List V)(S:List C):Y5 V:=match D.Ey vs.length with
 |none=>none
 |some ds=>match aT ⟨fn,hd,N,mt⟩ D.gt D.body (eX D.cells S.length D.aj (vs++ds)) (S++gn D (vs++ds)) with
  |none=>none
  |some (r,_,S')=>some (N7 r,S')
structure FnAt (X:Cx) (a:Addr) (D:g9):Prop where
 obj:∃o fd,X.base.get? a=some o/\o.data=.func fd/\fd.body=.stmts (b5 D.aj D.gt D.body)/\fd.scope=D.scope/\fd.globals=mainGlobals/\fd.closure=[]/\fd.builtins=builtinsNs/\X.base.CodeRec fd.code fd.qualname/\
  ∀(s:Shared) (xs:List Value) ds,D.Ey xs.length=some ds->(∀b o,X.base.get? b=some o->s.heap.get? b=some o)->
   ∃ys,BindsTo s fd ⟨xs,[]⟩ ((D.aj.take D.np).zip (xs++ys))/\(∀g,cr g ds ys)/\(xs++ys).length=D.np
structure xf (D:g9):Prop where
 kind:D.scope.kind=.function
 co:D.scope.isCoroutine=false
 gen:D.scope.isGenerator=false
 nd:D.aj.Nodup
 W2:∀n∈D.aj,(n==("__debug__":Str))=false
 np:D.np<=D.aj.length
 wf:nr D.scope D.aj D.gt D.body=true
 cells:(cellsFrom 0 D.scope.names []).map (·.1)=D.cells
 VD:D.cells.Nodup
 loc:∀n∈D.aj.take D.np,jZ D.cells n=Option.none->D.scope.names.lookup n=some .local
 fC:∀n∈D.cells,D.scope.names.lookup n=some .cell
 QX:∀n∈D.aj.take D.np,D.scope.names.lookup n=some .local\/(D.scope.names.lookup n=some .cell/\n∈D.cells)
noncomputable def xg(X:Cx)(gt:eY):Prop:=∀(i:Nat) (x:Str×Addr),gt[i]? =some x->(X.mg x.1=some (.ref x.2)/\(x.1==("__debug__":Str))=false)/\keepIn X.K (.ref x.2)=true
theorem vm{p:Str×β}{r:List (Str×β)}{n:Str}(a:p∈r)(e:p.1=n):n∈r.map (·.1):=e▸iT a
theorem Dp{kindOf:Str->Option NameKind}{n:Str}(h:∀p∈binds,p.1≠n):bindL kindOf binds m n=m n:=by
 induction binds generalizing m with
 |nil=>rfl
 |cons p r b=>
  obtain ⟨k,v⟩:=p;refine (b λp c=>h p (.tail _ c)).trans ?_;by_cases a:kindOf k=some .local
  ·rw [bx a];exact bj λe=>h (k,v) (.head _) e.symm
  ·rw [bj a]
theorem Dq{kindOf:Str->Option NameKind}{n:Str}(c:kindOf n=some .local)(a:(binds.map (·.1)).Nodup)(h:(n,x)∈binds):bindL kindOf binds m n=some x:=by
 induction binds generalizing m with
 |nil=>exact absurd h jS
 |cons p r b=>
  obtain ⟨k,v⟩:=p;refine aQ (nV h) (λe=>?_) λh=>b (Nj a) h;clear h;cases e;refine (Dp λp d e=>yf a (vm d e)).trans ?_;rw [bx c];exact bx rfl
theorem Ds{kindOf:Str->Option NameKind}{n:Str}(h:∀p∈binds,p.1≠n):bindC kindOf binds m n=m n:=by
 induction binds generalizing m with
 |nil=>rfl
 |cons p r b=>
  obtain ⟨k,v⟩:=p;refine (b λp c=>h p (.tail _ c)).trans ?_;by_cases a:kindOf k=some .local
  ·rw [bx a]
  ·rw [bj a];exact bj λe=>h (k,v) (.head _) e.symm
theorem Dt{kindOf:Str->Option NameKind}{n:Str}(c:kindOf n=some .cell)(a:(binds.map (·.1)).Nodup)(h:(n,x)∈binds):bindC kindOf binds m n=some x:=by
 induction binds generalizing m with
 |nil=>exact absurd h jS
 |cons p r b=>
  obtain ⟨k,v⟩:=p;refine aQ (nV h) (λe=>?_) λh=>b (Nj a) h;clear h;cases e;refine (Ds λp d e=>yf a (vm d e)).trans ?_;rw [bj (by rw [c];decide)];exact bx rfl
theorem N8{l:List Str}{n:Str}(b:l[i]? =some n)(a:xs[i]? =some x):(n,x)∈l.zip xs:=by refine dP (i:=i) ?_;rw [getElem?_zip_eq_some];exact ⟨b,a⟩
theorem uk:∀(l:List Str) (xs:List Value),(l.zip xs).map (·.1)=l.take xs.length
 |[],xs=>by simp
 |a::l,[]=>by rfl
 |a::l,x::xs=>by simp [uk l xs]
theorem nA:∀{l:eY},(l.map (·.1)).Nodup->∀{j:Nat} {p:Str×Addr},l[j]? =some p->l.lookup p.1=some p.2:=by
 intro l;induction l with
 |nil=>intro _ j p h;simp at h
 |cons q l c=>
  intro b j p h;rw [gg,nodup_cons] at b;cases j with
  |zero=>simp at h;subst h;simp [List.lookup]
  |succ j=>
   have h:l[j]? =some p:=by simpa using h
   have a:(p.1==q.1)=false:=by rw [qY];exact λe=>b.1 (vm (dP h) e)
   simp only [List.lookup,a];exact c b.2 h
noncomputable def QY(P:G->Shared->Prop)(F:Fx)(A:Around)(t:Sem Flow)(g:G)(s:Shared)(r:Rs Fl)(br:bW)(S':List C):Prop:=∀(Q:Flow->Shared->Prop) (E:cH),
 (∀f,r=.ok f->∀g' s' fl,g.Le g'->P g' s'->Y1 F g' br S' s'->RF g' f fl->Q fl s')->
 (∀k,r=.exc k->∀g' s' a,g.Le g'->Y1 F g' br S' s'->Zh g' S' k a->E (.ref a.1) s')->wpAny (model F.prog F.w) A t Q E s
theorem vn{X:Cx}{a:Addr}(hX:iA X)(Px:FnAt X a D)(t:xf D)(hT:xg X D.gt)
 (a6:∀b C n a,mt b C n=some a->rP b X.K C n a) (QZ:∀b a vs S r S',fn b a vs S=some (r,S')->keepIn X.K (.ref a)=true/\∃f,vP X d a f/\f b vs S=some (r,S'))
 {P:G->Shared->Prop} (W:F.toCx=X) (hA:yg (d+1) F A) {r₁:Rs Fl} {cz:bW} {r:Rs V} {Q:cH}
 (a5:D.Ey vs.length=some ds) (jY:∀eC oP,Good d D.scope D.aj D.gt eC oP ⟨fn,F.hand.isSome,N,mt⟩->eC.toCx=X->(∃oL env,eC=F.enter oL env D.aj/\s.heap.get? F.env.locals=some oL/\env.locals=s.heap.objs.size)->∀cv aL,g.Le cv->Y1 eC cv (eX D.cells S.length D.aj (vs++ds)) (S++gn D (vs++ds)) aL->(∀b o,s.heap.get? b=some o->aL.heap.get? b=some o)->(∀b,(∃o,s.heap.get? b=some o)->mP F g b->b∉td F g->mP eC cv b/\b∉td eC cv)->QY P eC oP (execs (b5 D.aj D.gt D.body) eC.env) cv aL r₁ cz ay)
 (h:N7 r₁=r) (R:Y1 F g ls S s) (nW:cr g vs xs)
 (a2:∀v,r=.ok v->∀g' m x,g.Le g'->P g' m->Y1 F g' ls ay m->dW F.env.locals s.heap m.heap->RV g' v x->Q x m)
 (Y:∀k,r=.exc k->∀g' m b,g.Le g'->Y1 F g' ls ay m->dW F.env.locals s.heap m.heap->Zh g' ay k b->E (.ref b.1) m):
 codeAny (model X.prog X.w) A (.call (.ref a) ⟨xs,[]⟩) (wants Q E) s:=by
 refine gl λGz M=>?_
 refine LX Px.obj λo fd ho hd a3 zD Q0 Ul Um G6 G7=>?_
 have sy:∀b o,X.base.get? b=some o->s.heap.get? b=some o:=λb o e=>R.base b o (by rw [<-W] at e;exact e)
 refine bc (G7 s xs ds (by rw [<-nW.length];exact a5) sy) λys hb TQ a1=>?_
 have Q1:=ei (bY _ _) hA.depth
 refine M ?_
 refine (codeAny_call_function Q1 (sy _ _ ho) hd (by rw [zD];exact t.co) (by rw [zD];exact t.gen) a3 (G6.keeps sy) (hb _ _ _ _ ?_))
 rw [Ul,zD,Q0,Um]
 have G8:((D.aj.take D.np).zip (xs++ys)).map (·.1)=D.aj.take D.np:=by rw [uk,a1,take_take,Nat.min_self]
 have Q2:(((D.aj.take D.np).zip (xs++ys)).map (·.1)).Nodup:=by rw [G8];exact t.nd.sublist (take_sublist _ _)
 have Q3:=λn=>(cellsFrom_names D.scope.names n 0 [] [] rfl).trans t.cells
 refine wpAny_newFunctionEnv_cells t.kind (λx hx=>?_) λenv Z m x=>?_
 ·have W3:x.1∈D.aj.take D.np:=by rw [<-G8];exact iT hx
  refine aQ (t.QX _ W3) (λu=>?_) (λI=>aq I λu B=>?_)
  ·exact .inl u
  ·clear I
   refine .inr ⟨u,?_⟩
   rw [<-Q3 (s.heap.objs.size+1)] at B
   refine ae (Ap B) λp hp W4=>?_
   refine ar (Ep hp) λj hj=>?_
   have:=nA (by rw [Q3];exact t.VD) hj
   rw [W4] at this
   rw [this];rfl
 ·have l:s.heap.objs.size=env.locals:=by rw [Z];rfl
  have xi:∀n,env.kindOf n=D.scope.names.lookup n:=λn=>by rw [Z];rfl
  have vo:env.cells=cellsFrom (s.heap.objs.size+1) D.scope.names []:=by rw [Z];rfl
  have G9:env.frame=some env.locals:=by rw [Z];rfl
  have Bl:env.scope=D.scope:=by rw [Z];rfl
  have VE:env.globals=mainGlobals:=by rw [Z];rfl
  have VF:env.builtins=builtinsNs:=by rw [Z];rfl
  refine bd x.done λdX tk H fP=>?_;clear Z;subst H
  refine ⟨(hX.lim.keeps sy).keeps fP,codeAny_func ?_⟩
  refine iW R.m8 λoL YR YS hL W5=>?_
  have Q5:(env.cells.map (·.1)).Nodup:=by rw [vo,Q3];exact t.VD
  have cellAt:∀(j:Nat) n,D.cells[j]? =some n->∃c,env.cells[j]? =some (n,c)/\env.cells.lookup n=some c:=λj n hn=>by rw [<-Q3 (s.heap.objs.size+1),<-vo,hZ] at hn;refine gl λGz M=>?_;refine ae (au hn) λp u B=>?_;obtain ⟨n',c⟩:=p;clear hn;subst B;refine M ?_;exact ⟨c,u,nA Q5 u⟩
  have MJ:∀(i:Nat) n v,D.aj[i]? =some n->(vs++ds)[i]? =some v->∃y,RV g v y/\(n,y)∈(D.aj.take D.np).zip (xs++ys)/\n∈D.aj.take D.np:=λi n v u B=>by
   refine ae ((nW.append (TQ g)).get B) λy hy hr=>?_;have hi:i<D.np:=by
    have:=(fx hy)
    rwa [a1] at this
   have J:(D.aj.take D.np)[i]? =some n:=by rw [getElem?_take_of_lt hi];exact u
   exact ⟨y,hr,N8 J hy,dP J⟩
  have T:g.Le {g with cs:=g.cs++(env.cells.map (·.2)).map λc=>(c,Option.none)}:=⟨rfl,λ_ _ h=>h,_,rfl⟩
  have bp:=R.enter (nc:=env.cells.map (·.2)) (nS:=gn D (vs++ds)) hL l.symm (by rw [l];exact x.toInCall.ns) fP
   (λc hc=>by refine ae (Ap hc) λp hp H=>?_;subst H;have:=x.above p.1 p.2 hp;rw [<-l] at this;exact this)
   (pairwise_map.mpr x.apart) (by rw [(show (env.cells.map (·.2)).length=D.cells.length from by rw [dG,vo,<-Q3 (s.heap.objs.size+1),dG])];simp [gn]) (λc hc=>by obtain ⟨n,_,rfl⟩:=Ap hc;exact ⟨_,rfl⟩)
   (λi c z u B=>by rw [gn,hZ] at B;refine ae (au B) λn J H=>?_;clear B;subst H;refine ae (cellAt i n J) λc' h4 h5=>?_;rw [hZ,h4] at u;(replace u:=aw u;subst u);refine ae (x.cell n c' h5) λo ho hd=>?_;refine ⟨rfl,o,_,ho,hd,λw e=>?_⟩;refine gl λGz M=>?_;refine ae (sx e) λi' q1 q2=>?_;refine bc (MJ i' n w q1 q2) λy y1 y2 y3=>?_;refine M ?_;exact ⟨y,Dt (by rw [xi];exact t.fC n (dP J)) Q2 y2,y1.mono T⟩)
   (λi n v u B=>by
     refine gl λGz M=>?_;refine aQ (Do D.cells S.length D.aj (vs++ds) i n v u B) (λI=>ae I λj J H=>?_) (λbG=>aq bG λJ h4=>?_)
     ·clear I;clear B;subst H;have J:=Dn J;refine ae (cellAt j n J) λc h4 h5=>?_;refine M ?_;refine ⟨.ref c,?_,.ref (a:=(c,Option.none)) ?_⟩
      ·unfold Zi;rw [xi,t.fC n (dP J)];simp [h5]
      ·show (g.cs++_)[S.length+j]? =_;rw [eO (by rw [R.len];exact bY _ _),R.len,tz];simp [h4]
     ·clear bG;refine bc (MJ i n v u h4) λy y1 y2 y3=>?_;have hk:=t.loc n y3 J;refine M ?_;refine ⟨y,?_,y1.mono T⟩;unfold Zi;rw [xi,hk];exact Dq (by rw [xi];exact hk) Q2 y2)
   tk
  have Bk:yg d (F.enter oL env D.aj) (A.deeper env):=by
   refine ⟨?_,?_,?_,?_,?_,hA.hand⟩
   ·show A.frames.map (env::·)=_;rw [hA.frames];rfl
   ·show A.depth+1+d<_;have:=hA.depth;exact oC this
   ·show A.units+3+8 * d+100<_;exact oU (by decide) hA.units
   ·intro e As;refine aQ (nV As) (λB=>?_) (λAs=>?_)
    ·rw [B];rw [Bl,t.kind];decide
    ·exact hA.kinds e As
   ·intro e As;refine aQ (nV As) (λI=>?_) (λAs=>?_)
    ·clear bp x xi vo cellAt;clear l T Bl As VE Q5 VF;subst I;exact ⟨_,G9,.inl rfl⟩
    ·refine ae (hA.outs e As) λL q1 q2=>?_;refine ⟨L,q1,.inr ?_⟩;refine aQ q2 (λI=>?_) (λH=>ae H λo' q2 q3=>?_)
     ·clear q2;clear q1;subst I;exact ⟨oL,by simp [Fx.enter],λvs q=>by rw [W5] at q;cases q⟩
     ·clear H;have:L≠F.env.locals:=λe=>by
       have:=(R.apart F.env.locals (.head _)).2.2.1;rw [e] at q2;rw [this] at q2;exact aG q2
      exact ⟨o',by (simp -iota [Fx.enter,this];exact q2),q3⟩
  have VG:AK (F.enter oL env D.aj) (A.deeper env):=Bk.ak ⟨_,rfl⟩ G9
  have hF:TC (F.enter oL env D.aj) D.gt:=by
   refine ⟨by show env.scope.kind=_;rw [Bl];exact t.kind,t.nd,t.W2,VE,VF,?_,λi x hx=>?_⟩
   ·show iA F.toCx;rw [W];exact hX
   ·have:=(hT i x hx).1;show F.toCx.mg x.1=_/\_;rw [W];exact this
  have hint:interactive (F.enter oL env D.aj).env=false:=by show (env.scope.kind== .module&&_)=false;rw [Bl,t.kind];rfl
  have W6:bE d (F.enter oL env D.aj) (A.deeper env) D.gt ⟨fn,F.hand.isSome,N,mt⟩:=
   ⟨hF,Bk,rfl,λb a vs S r S' h=>by show keepIn F.toCx.K _=_/\∃f,vP F.toCx d a f/\_;rw [W];exact QZ b a vs S r S' h,λb C n a h=>by show rP b F.toCx.K C n a;rw [W];exact a6 b C n a h,λi x hx=>by show keepIn F.toCx.K _=_;rw [W];exact (hT i x hx).2⟩
  have hs:=jY (F.enter oL env D.aj) (A.deeper env) ⟨W6,VG,hint,Bl,rfl⟩ (by show F.toCx=X;exact W) ⟨oL,env,rfl,hL,l.symm⟩ _ _ T bp fP (λb (a4:∃o,s.heap.get? b=some o) (Ki:mP F g b) (Du:b∉td F g)=>by
   refine ar a4 λo ho=>?_;clear a4;refine eu Ki λp1 p2 p3 p4=>?_;clear Ki;refine ⟨⟨p1,p2,?_,p4⟩,λO=>?_⟩
   ·show (if b=F.env.locals then some oL else F.FP b)=none;rw [bj (λ(e:b=F.env.locals)=>Du (e▸ .head _)),p3]
   ·refine aQ (nV O) (λe=>?_) (λO=>?_)
    ·exact (cc (cI ho)) (Eq.trans e l.symm)
    ·have O:b∈(g.cs++(List.map (λp:Str×Addr=>p.2) env.cells).map λc=>(c,(Option.none:Option Addr))).flatMap Y4:=O;rw [mJ,mem_append] at O;refine aQ O (λO=>?_) (λO=>?_)
     ·exact Du (.tail _ O)
     ·refine ae (Nk O) λq hq W9=>?_;refine ae (Ap hq) λc hc H=>?_;clear hq;subst H;refine ae (Ap hc) λp hp H=>?_;clear hc;subst H;rw [(show b=p.2 from by simpa [Y4] using W9)] at ho;exact absurd (cI ho) (Nat.lt_asymm (by rw [l];exact (x.above p.1 p.2 hp))))
  have Q6:F.prog=X.prog:=by rw [<-W]
  have VH:F.w=X.w:=by rw [<-W]
  have hs:=hs (λf m=>(λ(r:Result) m=>match r with|.ok (.ret v)=>Q v m|.ok _=>False|.error e=>E e m) (.ok (.ret (match f with|.ret v=>v|_=>.none))) m)
   (λe m=>wpAny (model X.prog X.w) (A.deeper env) (leaving env e) (λ_ U=>E e U) (λe' U=>E e' U) m)
   (λfl e g' m VI L hP R' hf=>?_) (λk e g' m b L R' hb=>?_)
  ·have hs:wpAny (model F.prog F.w) _ _ _ _ _:=hs
   rw [Q6,VH] at hs
   exact hs
  ·clear jY hs Y;subst e
   refine aq (R.leave hL (T.trans L) R') λaR FK=>?_
   cases fl with
   |cY=>
    cases VI<;>first|exact hf.elim|skip
    subst h
    exact a2 _ rfl g' m .none (T.trans L) hP aR FK .none
   |ret v=>
    cases VI<;>first|exact hf.elim|skip
    subst h
    exact a2 _ rfl g' m _ (T.trans L) hP aR FK hf
  ·refine gl λGz M=>?_
   clear jY hs a2;subst e
   subst h
   refine aq hb λhk I=>?_;clear hb;refine dZ I λks ws hS=>?_;clear I
   have:=tl (Q:=λ_ U=>E (.ref b.1) U) (E:=λe' U=>E e' U) VG R' hk hS λU qx _=>by refine aq (R.leave hL (T.trans L) qx) λaR FK=>?_;exact Y k rfl g' U b (T.trans L) aR FK ⟨hk,ks,ws,hS⟩
   have this:wpAny (model F.prog F.w) _ _ _ _ _:=this
   rw [Q6,VH] at this
   refine M ?_
   exact this
theorem vq:findCls [] (.type "Exception") (.type "type") "__init__"=some (.val (.builtin "Exception.__init__")):=by trivial
section
variable {K:Frag}
theorem vr(X:K.In s.heap){Q:Value×List Value->Shared->Prop}(c:Q (.builtin "Exception.__init__",[]) {s with toks:=s.toks+1}):wpAny (model prog w) A (getMethod (.type "Exception") "__init__" pl) Q E s:=by
 have d:opaqueClassAbove (.type "Exception")=pure none:=by unfold opaqueClassAbove;dsimp only;rw [show Manifest.isStub "Exception"=false by decide+kernel];rfl
 have b:Looks (model prog w) s.heap (typeOf (.type "Exception")) (.type "type"):=Looks.of_pure (by first|rfl|trivial);have a:findIn K (.type "type") "__getattribute__"=some (some (.builtin "type.__getattribute__")):=type_tga;delta getMethod specialOf;refine ax (ax (b.here ((looks_findIn X a).here ?_)));dsimp only;refine (bx canon_tga)▸?_;refine ax (bP ?_ (λ_ _ z=>bn z) λ_ _ z=>z);refine cls_open X (Looks.of_pure d) b a (looks_hook X (by rfl)) (by show subIn K _ _=_;rfl) vq ?_;exact bn (handed_on rfl c)
end
theorem yg.make(h:yg (d+1) F A)(a:Addr)(b:List Value):yg d F (A.under (.builtin "type.__call__" ⟨.ref a::b,[]⟩)):=by
 have e1:(Code.builtin "type.__call__" ⟨.ref a::b,[]⟩).weight=1:=rfl;have e2:(Code.builtin "type.__call__" ⟨.ref a::b,[]⟩).cUnits=1:=rfl;refine ⟨?_,?_,?_,h.kinds,h.outs,h.hand⟩
 ·show pushEnvs (Code.builtin "type.__call__" ⟨.ref a::b,[]⟩).envs A.frames=_;(refine (show (Code.builtin "type.__call__" ⟨.ref a::b,[]⟩).envs=[] from rfl)▸?_;refine h.frames▸?_);rfl
 ·show A.depth+(Code.builtin "type.__call__" ⟨.ref a::b,[]⟩).weight+d<_;have:=h.depth;exact oC this
 ·show A.units+(Code.builtin "type.__call__" ⟨.ref a::b,[]⟩).cUnits+8 * d+100<_;exact oU (e2▸by decide) h.units
noncomputable def sz(f:Bool->List V->List C->Y5 V)(cl:Addr)(hd:Bool)(vs:List V)(S:List C):Y5 V:=match f hd (.ref S.length::vs) (S++[.inst cl [] []]) with
 |some (.ok .none,S')=>some (.ok (.ref S.length),S')
 |_=>none
noncomputable def SR(X:Cx)(d:Nat)(a:Addr)(f:Bool->List V->List C->Y5 V):Prop:=
 ∀(F:Fx) (A:Around),F.toCx=X->yg d F A->∀vs S r S',f F.hand.isSome vs S=some (r,S')->
  ∀ls xs g s (Q:cH) (E:cH),Y1 F g ls S s->cr g vs xs->
   (∀v,r=.ok v->∀g' s' x,g.Le g'->Y1 F g' ls S' s'->dW F.env.locals s.heap s'.heap->RV g' v x->Q x s')->
   (∀k,r=.exc k->∀g' s' b,g.Le g'->Y1 F g' ls S' s'->dW F.env.locals s.heap s'.heap->Zh g' S' k b->E (.ref b.1) s')->
   codeAny (model X.prog X.w) A (.call (.ref a) ⟨xs,[]⟩) (wants Q E) s
theorem SR.Xa{X:Cx}{a:Addr}(h:SR X d a f):vP X d a f:=
 λF A e j vs S r S' l ls k g s Q E R i c b=>wpAny_call (h F A e j vs S r S' l ls k g s Q E R i c b)
theorem zF{r:Rs V}(h:sz f cl hd vs S=some (r,S')):∃ay,f hd (.ref S.length::vs) (S++[.inst cl [] []])=some (.ok .none,ay)/\.ok (.ref S.length)=r/\ay=S':=by
 delta sz at h;cases e:f hd (.ref S.length::vs) (S++[.inst cl [] []]) with
 |none=>rw [e] at h;exact aG h
 |some q=>
  rw [e] at h;obtain ⟨q,T⟩:=q;clear e;cases q with
  |exc _=>exact aG h
  |ok v=>cases v with
   |none=>exact Pl h λa b=>⟨T,rfl,a,b⟩
   |_=>exact aG h
theorem zH{X:Cx}(y:iA X)(G:makesIn X.K cl=true)(H:findIn X.K (.ref cl) "__init__"=some (some (.ref fI)))(hf:typeIn X.K (.ref fI)=some (.type "function"))(T:SR X d fI f):vP X (d+1) cl (sz f cl):=by
 intro F A U P vs S r S' h ls Y g s Q E R D p m;refine gl λGz W=>?_;clear m;subst U;refine bc (zF h) λay M J B=>?_;clear h;subst J B
 ·have u:=y.tR.keeps R.base;obtain ⟨c,gs,N,t,os⟩:=s;refine W ?_;refine wpAny_call (make_core (makes_of u G) (looks_findIn u H) (λl=>bind_fn u l hf) (.inl rfl) ?_);have fresh:∀b,c.objs.size<=b->c.get? b=none:=λb q=>by
   cases e:c.get? b with
   |none=>rfl
   |some o=>exact absurd (cI e) (Nat.not_lt.mpr q)
  have L:=dK g (c.objs.size+1,some c.objs.size);have k:∀b o,c.get? b=some o->((c.push emptyDict).push (instObj cl c.objs.size)).get? b=some o:=λb o e=>eZ _ (eZ _ e);have V:Y1 F {g with cs:=g.cs++[(c.objs.size+1,some c.objs.size)]} ls (S++[.inst cl [] []]) ⟨(c.push emptyDict).push (instObj cl c.objs.size),gs,N,t,os⟩:=by
   refine R.mS (n:=(c.objs.size+1,some c.objs.size)) k (λb q=>fresh b ?_) (by simp [Y4]) ?_ t (λ_ _ e=>C.noConfusion e)
   ·have:b=c.objs.size+1\/b=c.objs.size:=by simpa [Y4] using q
    rcases this with e|e<;>rw [e]
    ·exact eR _
    ·exact cJ _
   ·refine ⟨_,c.objs.size,(by heap_get),rfl,λx e=>(Data.noConfusion e),rfl,(cc (lL _)),rfl,λ_=>none,?_,rfl,λx v e=>(aG e),λx _=>rfl⟩;exact Heap.Ns1.of_empty ⟨_,_,_,(eZ _ (gZ _ rfl)),rfl,(λe Z=>by simp at Z),λ_=>rfl⟩
  have i:=R.len.symm;refine codeAny_mono (T F _ rfl (P.make cl Y) _ _ _ _ M ls _ _ _ (λx j=>InitBack (c.objs.size+1) (wants Q E) (.ok (.ret x)) j) (λe j=>InitBack (c.objs.size+1) (wants Q E) (.error e) j) V (.cons (.ref (a:=(c.objs.size+1,some c.objs.size)) (by rw [i];simp)) (D.mono L)) (λv e I j x w R' O hv=>?_) λk e=>nomatch e) λr j z=>?_
  ·(injection e with e;subst e);obtain rfl:=hv.none_inv;exact ⟨rfl,p _ rfl I j _ (L.trans w) R' (λo e=>O o (k _ _ e)) (.ref (a:=(c.objs.size+1,some c.objs.size)) (w.at (by rw [i];simp)))⟩
  ·rcases r with e|(v|_|_|_)<;>first|exact z|exact z.elim
section
variable {nm q:Str}{N:Addr}{bs:List Value}{zm:Bool}{sn:List Str}{sub:List Value}{ab:Bool}{col:Option Bool}{dd:Option Addr}{k0 k1 k2 k3 k5:Option Value}
theorem Dv{e:Addr}{Q:cH}
 (l:s.heap.get? cl=some (excClassObj nm q cl N bs [.type "Exception",.type "BaseException",.type "object"] zm sn sub ab col dd k0 k1 k2 k3 k5 "Exception.__new__")) (g:s.heap.get? e=some {cls:=.ref cl,data:=.fields fs}) (f:fs[0]? =some t0)
 (h:∀h' a,h'.get? e=some {cls:=.ref cl,data:=.fields (fs.setIfInBounds 0 (.ref a))}->(∀b o,b≠e->s.heap.get? b=some o->h'.get? b=some o)->Q .none {s with heap:=h'}):
 wpAny (model prog w) A (call (.builtin "Exception.__init__") [.ref e,x]) Q E s:=by
 obtain ⟨c,gs,i,t,os⟩:=s
 refine wpAny_call (codeAny_call_builtin PySem.F.excBase_Exception.init.plain PySem.F.excBase_Exception.initEntry (wpAny_check_init_sub PySem.F.excBase_Exception l g rfl ?_))
 unfold Builtin.«BaseException.__init__»
 dsimp only
 rw [bj (by simp)]
 delta newTuple Builtin.BaseException.bexcPut
 have d:=eZ (h:=c) {cls:=.type "tuple",data:=.seq [x].toArray} g
 refine ax (jQ (ax (ax (dY d rfl f (ax (j5 d rfl ((Array.getElem?_eq_some_iff.mp f).1) ?_))))) (by show [x].toArray.size<=sizeLine;refine j8▸?_;simp))
 have fin:Q .none ⟨(c.push {cls:=.type "tuple",data:=.seq [x].toArray}).update e (Obj.mapFields (·.setIfInBounds 0 (.ref c.objs.size))),gs,i,t,os⟩:=by
  refine h _ c.objs.size ?_ λb o j k=>?_
  ·exact mF _ d rfl
  ·rw [Heap.get?_update_other _ _ (cy j)];exact eZ _ k
 clear f;cases t0<;>first|exact wpAny_letGo (bn fin)|exact bn (bn fin)
end
section
variable {g:Array GenState}{d:Drawn}{t:Nat}{os:OsState}
variable {nm q:Str}{C N x:Addr}{bs bm:List Value}{sn:List Str}{sub:List Value}{ab:Bool}{col:Option Bool}{dd:Option Addr}{k0 k1 k2 k3 k5:Option Value}{B newId sa owner:String}{mN:Str->Option Value}{v:Value}
theorem xj{Q:Fin->Shared->Prop}(m:StoreFacts B bm sa owner)
 (r:h.get? C=some (excClassObj nm q C N bs bm true sn sub ab col dd k0 k1 k2 k3 k5 newId)) (hn:h.Ns N mN) (P:mN name=none)
 (D:typeLookup (.type B) name=pure none) (a:h.get? x=some o) (u:o.cls=.ref C) (p:∀c,o.data≠ .cls c) (s:o.dict=none)
 (l:∀h' J,h'.get? x=some {o with dict:=some h.objs.size}->h'.Ns1 h.objs.size (λy=>if y=name then some v else none)->(∀b o,b≠x->h.get? b=some o->h'.get? b=some o)->Q (.done (.ret .none)) ⟨h',g,d,J,os⟩):
 wpAny (model prog w) A (Builtin.«object.__setattr__» ⟨[.ref x,.str name tk,v],[]⟩) Q E ⟨h,g,d,t,os⟩:=by
 unfold Builtin.«object.__setattr__»
 repeat (first|rw [refuse_eq]|(rw [refuseLoop_ref,(m.passes (.ref x))])|(with_reducible refine lG a ?_;rw [u])|with_reducible refine wpAny_mroOf_exc r ?_|(with_reducible refine wpAny_typeLookup_exc r hn m.mro D ?_;rw [P])|wp_step)
 rw [s,bj (by simp [typeHasDict])]
 (clear u s;cases _:none;rotate_left;all_goals dsimp only)
 ·rename_i i
  exact aG i
 split
 ·rename_i c i
  exact absurd i (p c)
 ·have f:(h.push {cls:=.type "dict",data:=.dict #[]}).get? x=some o:=eZ _ a
  have j:x≠h.objs.size:=cc (cI a)
  refine ax (wpAny_alloc' ?_)
  refine ax (wpAny_update' f ?_)
  refine bn ?_
  have I:((h.push {cls:=.type "dict",data:=.dict #[]}).update x λo=>{cls:=o.cls,dict:=some h.objs.size,data:=o.data,slots:=o.slots}).get? h.objs.size
   =some {cls:=.type "dict",data:=.dict #[]}:=
   (Heap.get?_update_ne _ _ _ _ j.symm).trans (Heap.get?_push_at rfl rfl)
  have K:((h.push {cls:=.type "dict",data:=.dict #[]}).update x λo=>{cls:=o.cls,dict:=some h.objs.size,data:=o.data,slots:=o.slots}).Ns h.objs.size (λ_=>none):=
   ⟨_,#[],_,I,rfl,λe O=>absurd O (by simp),λ_=>rfl⟩
  delta Builtin.ObjectAttr.storeInDict Builtin.ObjectAttr.newKeyGuard
  refine ax (bn (ax (wpAny_nsSet1 (Heap.Ns1.of_empty K) λh' k hs=>?_)))
  refine gl λS M=>?_
  refine bg (k.count (Within.cons name v Within.nil)) λoD W R L F G=>?_
  refine M ?_
  refine ax (wpAny_lookBehind L (by refine F▸?_;exact pastItsLine_dict (aA G (by (refine cT▸?_;refine dQ▸?_;refine j8▸?_);exact le_add_left _ _))) ?_)
  refine bn (l h' _ ?_ k λb V H n=>?_)
  ·refine (hs.2 x j).trans (mF _ f ?_)
   obtain ⟨U,od,z,T⟩:=o
   clear l p f;cases z<;>first|rfl|exact ((Heap.get?_some_iff.mp a).2)
  ·exact (hs.2 b (cc (cI n))).trans ((Heap.get?_update_ne _ _ _ _ H).trans (eZ _ n))
theorem xk{Q:mE}(a:StoreFacts B bm sa owner)
 (j:h.get? C=some (excClassObj nm q C N bs bm true sn sub ab col dd k0 k1 k2 k3 k5 newId)) (hn:h.Ns N mN) (f:mN "__setattr__"=none) (r:mN name=none)
 (m:typeLookup (.type B) name=pure none) (e:h.get? x=some o) (k:o.cls=.ref C) (p:∀c,o.data≠ .cls c) (s:o.dict=none)
 (l:∀h' i,h'.get? x=some {o with dict:=some h.objs.size}->h'.Ns1 h.objs.size (λy=>if y=name then some v else none)->(∀b o,b≠x->h.get? b=some o->h'.get? b=some o)->Q () ⟨h',g,d,i,os⟩):
 wpAny (model prog w) A (setAttr (.ref x) name v) Q E ⟨h,g,d,t,os⟩:=by
 have u:=a.slot.bind (.ref x)
 delta setAttr callSpecial? specialOf
 repeat (any_goals (first|assumption|(with_reducible refine lG e ?_;refine k▸?_)|(with_reducible refine wpAny_typeLookup_exc j hn a.mro a.slot.lookup ?_;rw [f])|wp_step))
 refine codeAny_call_builtin a.slot.plain a.entry (wpAny_check_sa a j e k (xj a j hn r m e k p s λh' i e1 e2 n=>?_))
 repeat (any_goals (first|assumption|wp_step))
 exact l h' i e1 e2 n
end
noncomputable def ExcInit(h:Heap)(fI:Addr):Prop:=∃nm q N bs sn sub ab col dd k0 k1 k2 k3 k5 mN,h.get? bL=some (excClassObj nm q bL N bs [.type "Exception",.type "BaseException",.type "object"] true sn sub ab col dd k0 k1 k2 k3 k5 "Exception.__new__")/\
 h.Ns N mN/\mN "__setattr__"=none/\mN "__init__"=some (.ref fI)/\mN "code"=none/\∃oI,h.get? fI=some oI/\oI.cls=.type "function"
theorem ExcInit.keeps(X:ExcInit h fI)(k:∀b o,h.get? b=some o->h'.get? b=some o):ExcInit h' fI:=by refine gl λz n=>?_;obtain ⟨nm,q,N,v,c,sub,y,a,f,p,s,l,u,g,i,w,⟨o,es,d,e1,e2⟩,x,j,t,e,m,r⟩:=X;refine n ?_;exact ⟨nm,q,N,v,c,sub,y,a,f,p,s,l,u,g,i,k _ _ w,⟨o,es,d,k _ _ e1,e2⟩,x,j,t,e,k _ _ m,r⟩
theorem xm:typeLookup (.type "Exception") "code"=pure none:=by rw [typeLookup_type,builtinLookup_eq_fast];trivial
noncomputable def Kj(D:g9)(rest:dL)(fn:Bool->lU)(mt:Bool->Addr->Str->Option Addr)(N:Nat)(hd:Bool)(vs:List V)(S:List C):Y5 V:=match D.Ey (vs.length+1) with
 |none=>none
 |some ds=>match vs++ds with
  |c::v::more=>(match aT ⟨fn,hd,N,mt⟩ D.gt rest (some (.ref S.length)::eX [] S.length D.aj.tail (c::v::more)) (S++[.exc ["code"] [c]]) with
   |some (.ok .cY,_,S')=>some (.ok (.ref S.length),S')
   |_=>none)
  |_=>none
theorem Dw(f:bE d F A gt cf)(z:interactive F.env=false)(O:iz F.env.scope "Exception"=true)(D:F.mg "Exception"=none/\F.mb "Exception"=some (.type "Exception"))(I:c7 F.env.scope F.aj 0=true)(M:c7 F.env.scope F.aj 2=true){e:Addr}(Y:ls[0]? =some (some (.glob e)))(J:ls[2]? =some (some v))(R:Y1 F g ls S s)
 {p0:Pos} (H:(ap.endLine==cp.line)=true) (X:ExcInit F.base fI) (p:s.heap.get? e=some {cls:=.ref bL,data:=.fields fs}) (K:fs[0]? =some t0) (B:mP F g e) (G:e∉td F g)
 {Q:Flow->Shared->Prop} (t:∀l a,Y1 F g ls S l->l.heap.get? e=some {cls:=.ref bL,data:=.fields (fs.setIfInBounds 0 (.ref a))}->Q .next l):
 wpAny (model F.prog F.w) A (exec (.Expr (.Call (.Attribute (.Name "Exception" p1) "__init__" ap) [.Name (F.aj.getD 0 Str.empty) p3,.Name (F.aj.getD 2 Str.empty) p4] [] cp) p0) F.env) Q E s:=by
 have x:∀ts,iG F g S s.heap ts->some e∉ts:=λts T y=>by refine aq (T.obj e y) λn _=>?_;refine gL n λo EX q1 q2 q3 q4=>?_;clear n;replace q1:=p▸q1;clear q2;(replace q1:=aw q1;subst q1);cases q4
 refine wpAny_Expr_any ?_ z rfl
 rw [arm_eval_Call]
 refine ax (rT f O D (by decide) R ?_)
 refine ax (g1 ?_)
 have U:∀b,methodCallPos b (.Name "Exception" p1) F.env ap cp=pure cp\/b=false:=λb=>by
  cases b with
  |false=>exact .inr rfl
  |true=>exact .inl (by unfold methodCallPos;rw [H];rfl)
 unfold methodCall
 refine (show methodCallForm 2 (backTo cp (starEach [.Name (F.aj.getD 0 Str.empty) p3,.Name (F.aj.getD 2 Str.empty) p4] F.env)) (backToKw cp (keywordEach [] F.env))=true from rfl)▸?_
 refine ax (cR ?_)
 refine vr (f.ok.top.tR.keeps R.base) ?_
 refine ax (wpAny_of_eq ((U true).resolve_right (λh=>by cases h)) ?_)
 have j:=R.toks (s.toks+1)
 have c:∀{i:Nat} {u:V},ls[i]? =some (some u)->ls[i]?.bind id=some u:=λh=>by refine h▸?_;rfl
 show wpAny _ A (callWith cp (.builtin "Exception.__init__") [] [(false,eval (.Name (F.aj.getD 0 Str.empty) p3) F.env),(false,eval (.Name (F.aj.getD 2 Str.empty) p4) F.env)] []) _ _ _
 refine Calls.callWith_builtin rfl (Calls.evalArgs_plain (Calls.spliced_cons (qa f I (c Y) j λP m=>Calls.spliced_cons (qa f M (c J) j λx2 YT=>Calls.spliced_nil ?_))))
 have r:P=.ref e:=by cases m;rfl
 clear m;subst r
 refine gl λZ L=>?_
 obtain ⟨nm,q,N,bs,sn,sub,ab,C,dd,k0,k1,k2,k3,k5,mN,W,_⟩:=X.keeps R.base
 refine L ?_
 refine Dv W p K λh' a e1 k=>?_
 have T:=j.tb
 refine ar T λts T=>?_
 exact t _ a (j.Qi B G ⟨ts,T,x ts T⟩ k _) e1
theorem mP.fresh(R:Y1 F g ls S s){e:Addr}(d:s.heap.get? e=none):mP F g e/\e∉td F g:=by
 have a:∀{m:Addr->Option Obj},(∀b o,m b=some o->∃c,s.heap.get? b=some c)->m e=none:=λ{m} q=>by
  cases h:m e with
  |none=>rfl
  |some o=>obtain ⟨c,h'⟩:=q e o h;rw [d] at h';exact aG h'
 refine ⟨⟨a λb o h=>⟨o,R.base b o h⟩,a λb o h=>⟨o,R.dI b o h⟩,a λb o h=>let ⟨i,q⟩:=R.kZ b o h;⟨_,q⟩,a λb o h=>⟨o,R.cm b o h⟩⟩,λf=>?_⟩;refine ar (R.gQ e f) λo h=>?_;rw [d] at h;exact aG h
theorem zI(hT:iA F.toCx)(X:ExcInit F.base fI)(R:Y1 F g ls S s){e:Addr}(r:s.heap.get? e=some {cls:=.ref bL,data:=.fields fs})(M:fs.size=6)(Y:fs[1]? =some .none)(U:fs[2]? =some .none)(J:mP F g e)(L:e∉td F g)(hv:RV g v y)
 {Q:mE} (D:∀u n,Y1 F {g with cs:=g.cs++[(e,some n)]} ls (S++[.exc ["code"] [v]]) u->Q () u):wpAny (model F.prog F.w) A (setAttr (.ref e) "code" y) Q E s:=by
 refine gl λG p=>?_
 obtain ⟨nm,q,N,bs,Z,sub,ab,K,dd,k0,k1,k2,k3,k5,mN,W,C,P,m2,I,_⟩:=X.keeps R.base
 refine ar R.tb λts T=>?_
 have H:some e∉ts:=λl=>by refine aq (T.obj e l) λd _=>?_;refine gL d λo EX q1 q2 q3 q4=>?_;clear d;rw [r] at q1;clear q2;(replace q1:=aw q1;subst q1);cases q4
 obtain ⟨h,gs,dr,t,os⟩:=s
 refine p ?_
 refine xk PySem.F.store_Exception W C P I xm r rfl (λc z=>Data.noConfusion z) rfl λh' O e1 e2 k=>?_
 have B:h.get? h.objs.size=none:=by
  cases z:h.get? h.objs.size with
  |none=>rfl
  |some o=>exact absurd (cI z) (lK _)
 have a:h.objs.size≠e:=g2 (cI r)
 refine D _ h.objs.size (R.uJ (λb o f V=>k b o (λz=>f (by simp [Y4,z])) V) (λb f=>?_) ⟨ts,T,λb f=>?_⟩ (by simp [Y4];exact λz=>a z.symm) ?_ O (λ_ _ _=>⟨_,fs,e1,rfl,Y⟩))
 ·skip
  refine aQ (by simpa [Y4] using f) (λd=>?_) (λm=>?_)
  ·clear f a;clear e1 k;subst d
   exact ⟨J,L⟩
  ·clear f;subst m
   exact (mP.fresh R B)
 ·skip
  refine aQ (by simpa [Y4] using f) (λd=>?_) (λm=>?_)
  ·clear k f a;clear e1;subst d
   exact H
  ·clear f;subst m
   intro l
   refine aq (T.obj _ l) λd _=>?_;refine bd d λo _ q1 _=>?_;clear d
   rw [B] at q1;exact aG q1
 ·refine ⟨_,h.objs.size,e1,rfl,⟨fs,rfl,M,U⟩,rfl,a,rfl,_,e2,rfl,λx w i=>?_,λx j=>?_⟩
  ·simp only [bO] at i
   refine gl λG p=>?_
   (revert i;cases _:aD (PySem.Str.ofString "code") x;rotate_left;all_goals intro i)
   ·rename_i hs
    (replace i:=aw i;subst i)
    refine p ?_
    exact ⟨y,bx (be.mp hs).symm,hv.mono (dK g (e,some h.objs.size))⟩
   ·exact aG i
  ·simp only [bO] at j
   (revert j;cases _:aD (PySem.Str.ofString "code") x;rotate_left;all_goals intro j)
   ·exact aG (aS j)
   ·rename_i hs
    exact bj (λz=>dR.mp hs z.symm)
theorem Y1.rename(R:Y1 F g ls S s)(hv:∀u x,ls[i]? =some (some u)->RV g u x->RV g v x)(hs:∃u,ls[i]? =some (some u)):Y1 F g (ls.set i (some v)) S s:=by
 refine ae R.locs λm b d=>?_;refine ⟨R.gw,R.base,R.dI,R.kZ,R.cm,R.len,R.cells,R.nodup,R.apart,⟨m,b,λj n w h a=>?_⟩,R.gens,R.os,R.bh,R.tb,R.fN,R.cw,R.hJ⟩;refine gl λo f=>?_;by_cases e:j=i
 ·subst e;refine ar hs λu c=>?_;clear hs;replace a:=(jP (fx c))▸a;cases a;refine ae (d j n u h c) λx k l=>?_;refine f ?_;exact ⟨x,k,hv u x c l⟩
 ·replace a:=(j4 (cy e))▸a;refine f ?_;exact d j n w h a
structure Bm (D:g9) (rest:dL):Prop where
 body:∃p0 cp p1 ap p3 p4 pa pb pc pd,b5 D.aj D.gt D.body=.Expr (.Call (.Attribute (.Name "Exception" p1) "__init__" ap) [.Name (D.aj.getD 0 Str.empty) p3,.Name (D.aj.getD 2 Str.empty) p4] [] cp) p0::
  .Assign [.Attribute (.Name (D.aj.getD 0 Str.empty) pa) "code" pb] (.Name (D.aj.getD 1 Str.empty) pc) pd::b5 D.aj D.gt rest/\(ap.endLine==cp.line)=true
 aj:∃n0 n1 n2 more,D.aj=n0::n1::n2::more
 cells:D.cells=[]
 Eu:D.aj.length<=100
 wf:nr D.scope D.aj D.gt rest=true
 blt:iz D.scope "Exception"=true
 loc:c7 D.scope D.aj 0=true/\c7 D.scope D.aj 1=true/\c7 D.scope D.aj 2=true
theorem He{o:ci}{q r:Rs V}(h:(match o with|some (.ok .cY,_,S')=>some (q,S')|_=>none)=some (r,S')):∃cz ay,o=some (.ok .cY,cz,ay)/\(q,ay)=(r,S'):=by
 cases o with
 |none=>exact aG h
 |some p=>
  obtain ⟨p,l,T⟩:=p;cases p with
  |exc _=>exact aG h
  |ok f=>cases f with
   |cY=>exact gb l T rfl (aw h)
   |_=>exact aG h
theorem Dx{X:Cx}{m:dL}(hX:iA X)(Px:FnAt X fI D)(hD:xf D)(hT:xg X D.gt)
 (a5:∀b C n a,mt b C n=some a->rP b X.K C n a) (QZ:∀b a vs S r S',fn b a vs S=some (r,S')->keepIn X.K (.ref a)=true/\∃f,vP X d a f/\f b vs S=some (r,S'))
 (hI:ExcInit X.base fI) (hb:X.mg "Exception"=none/\X.mb "Exception"=some (.type "Exception")) (J:Bm D m):vP X (d+2) bL (Kj D m fn mt N):=by
 intro F A xh hA vs S r S' h ls xs g s Q E R nW a4 Z
 unfold Kj at h
 (revert h;clear Z;cases _:Internal.g9.Ey D (List.length vs+1);all_goals (intro h;dsimp only at h))
 ·exact aG h
 rename_i ds a1
 cases Bn:vs++ds with
 |nil=>rw [Bn] at h;exact aG h
 |cons c l=>cases l with
  |nil=>rw [Bn] at h;exact aG h
  |cons v B=>
 rw [Bn] at h;skip
 refine bd (He h) λcz ay jY h=>?_
 refine gl λGz O=>?_
 cases h
 subst xh
 obtain ⟨hp,gs,dr,t,os⟩:=s
 obtain ⟨nm,q,NN,bs,sn,sub,ab,a7,dd,k0,k1,k2,k3,k5,mN,hC,hN,m1,m2,m3,oI,Xf,Xg⟩:=(hI.keeps R.base)
 refine O ?_
 refine wpAny_call_exc_init (hrest:=?_) PySem.F.excBase_Exception hC hN m2 Xf Xg λh' e hm=>?_
 rotate_left
 ·refine gl λGz O=>?_
  refine LX Px.obj λo fd _ _ _ _ _ _ _ _ G7=>?_
  refine bc (G7 ⟨hp,gs,dr,t,os⟩ (.ref 0::xs) ds (by (refine cT▸?_;refine (aS nW.length)▸?_);exact a1) R.base) λys _ _ hl=>?_
  (replace hl:=de▸hl;replace hl:=cT▸hl)
  have h1:=hD.np
  have h2:=J.Eu
  refine O ?_
  refine j8▸?_
  exact aA (aA (aA (bY _ 1) (bY _ ys.length)) (c6 hl)) (aA h1 (aA h2 (by decide)))
 refine gl λGz O=>?_
 refine bc hm.there λta he _ _=>?_
 refine aq (mP.fresh R hm.new) λfr a3=>?_
 refine PG J.aj λn0 n1 n2 VK N9=>?_
 obtain ⟨p0,cp,p1,ap,p3,p4,pa,pb,pc,pd,U,Hc⟩:=J.body
 have Xh:eX D.cells S.length D.aj (.glob e::vs++ds)=some (.glob e)::eX [] S.length D.aj.tail (c::v::B):=by rw [J.cells,N9,mK,Bn];rfl
 refine O ?_
 refine wpAny_call (vn (N:=N) (P:=λT _=>∃n,T.cs[S.length]? =some (e,some n)) (ds:=ds) (r₁:=.ok .cY) (cz:=cz) (ay:=S') (r:=.ok .none) hX Px hD hT a5 QZ rfl (hA.make bL xs) (by refine cT▸?_;exact a1) (λj W I xo _ Y aL dF aR a2 Q8=>?_) rfl (R.grow hm.keeps t) (.cons (.glob e) nW) (λv hv T H x L ⟨n,hn⟩ R' FK hx=>?_) (λk e=>nomatch e))
 ·intro Q₁ M zJ Kk
  refine gl λGz O=>?_
  refine aq (Q8 e ⟨_,he⟩ fr a3) λMK Hf=>?_
  have a6:j.aj.length=D.aj.length:=by exact I.aj▸rfl
  refine ck J.loc λw0 w1 w2=>?_
  refine O ?_
  have ML:ExcInit j.base fI:=by rw [show j.base=F.toCx.base by exact (aS xo)▸rfl];exact hI
  have Q9:j.mg "Exception"=none/\j.mb "Exception"=some (.type "Exception"):=by rw [show j.mg=F.toCx.mg by rw [<-xo],show j.mb=F.toCx.mb by exact (aS xo)▸rfl];exact hb
  have Ra:gn D (.glob e::vs++ds)=[]:=by unfold gn;refine J.cells▸?_;rfl
  rw [Xh,Ra,dA] at aR
  refine U▸?_
  have l0:(some (V.glob e)::eX [] S.length D.aj.tail (c::v::B))[0]? =some (some (.glob e)):=rfl
  have l1:(some (V.glob e)::eX [] S.length D.aj.tail (c::v::B))[1]? =some (some c):=by refine N9▸?_;rfl
  have l2:(some (V.glob e)::eX [] S.length D.aj.tail (c::v::B))[2]? =some (some v):=by refine N9▸?_;rfl
  have wl:∀i,c7 D.scope D.aj i=true->c7 j.env.scope j.aj i=true:=λi h=>by (refine I.sc▸?_;refine I.aj▸?_);exact h
  refine wpAny_execs_cons ?_
  have b:=Dw (Q:=λf H=>match f with
   |.next=>wpAny (model j.prog j.w) W (execs (.Assign [.Attribute (.Name (D.aj.getD 0 Str.empty) pa) "code" pb] (.Name (D.aj.getD 1 Str.empty) pc) pd::b5 D.aj D.gt m) j.env) Q₁ M H
   |f=>Q₁ f H) (E:=M) (p0:=p0) (p1:=p1) (p3:=p3) (p4:=p4) I.ev I.int (by refine I.sc▸?_;exact J.blt) Q9 (wl 0 w0) (wl 2 w2) l0 l2 aR Hc ML (a2 _ _ he) rfl MK Hf λaN a dE Rb=>?_
  ·replace b:=I.aj▸b
   exact bP b (λf H h=>by cases f<;>exact h) λ_ _ h=>h
  ·refine wpAny_execs_cons ?_
   have hE:=I.ev
   refine wpAny_Assign_stores ?_ rfl rfl
   have e1:=qa (p:=pc) (Q:=λx cU=>wpAny (model j.prog j.w) W (assignAll x ((assignEach [.Attribute (.Name (D.aj.getD 0 Str.empty) pa) "code" pb] j.env).map (·.2))) (λ_ H=>wpAny (model j.prog j.w) W (execs (b5 D.aj D.gt m) j.env) Q₁ M H) M cU) (E:=M) hE (wl 1 w1) (v:=c) (by refine l1▸?_;rfl) dE λx hx=>?_
   ·replace e1:=I.aj▸e1;exact e1
   show wpAny _ W (assign (.Attribute (.Name (D.aj.getD 0 Str.empty) pa) "code" pb) j.env x) _ _ _
   rw [arm_assign_Attribute]
   refine ax (cR ?_)
   have e2:=qa (p:=pa) (Q:=λy cU=>wpAny (model j.prog j.w) W (do standAt pb.atName;holding [x,y] (setAttr y "code" x);release [x,y] []) (λ_ H=>wpAny (model j.prog j.w) W (execs (b5 D.aj D.gt m) j.env) Q₁ M H) M cU) (E:=M) hE (wl 0 w0) (v:=.glob e) (by refine l0▸?_;rfl) dE λy hy=>?_
   ·replace e2:=I.aj▸e2;exact e2
   have ey:y=.ref e:=by cases hy;rfl
   clear hy;subst ey
   refine ax (g1 (ax (cR (zI hE.ok.top ML dE Rb rfl rfl rfl MK Hf hx λcL n fS=>?_))))
   have j0:({Y with cs:=Y.cs++[(e,some n)]}:G).cs[S.length]? =some (e,some n):=by refine (aS dE.len)▸?_;simp
   have g7:=fS.rename (v:=.ref S.length) (λu z hu hz=>by
    replace hu:=l0▸hu;cases hu;have:z=.ref e:=by cases hz;rfl
    refine this▸?_;exact .ref j0) ⟨_,l0⟩
   refine wpAny_release ?_
   have uZ:Y.Le {Y with cs:=Y.cs++[(e,some n)]}:=dK Y (e,some n)
   exact sm J.wf I jY g7 (λf e' T H fl L' R' hf=>zJ f e' T H fl (uZ.trans L') ⟨n,L'.at j0⟩ R' hf) (λk e' T H b L' R' hb=>Kk k e' T H b (uZ.trans L') R' hb)
 ·(injection hv with hv;subst hv)
  refine ⟨hx.none_inv,a4 _ rfl T H _ L R' (λo z=>FK o (hm.keeps _ _ z)) (.ref hn)⟩
theorem sD{X:Cx}{a:Addr}(t:iA X)(u:FnAt X a D)(p:xf D)(H:xg X D.gt)
 (j:∀b C n a,mt b C n=some a->rP b X.K C n a) (T:∀b a vs S r S',fn b a vs S=some (r,S')->keepIn X.K (.ref a)=true/\∃f,vP X d a f/\f b vs S=some (r,S')):SR X (d+1) a (gy D fn mt N):=by
 intro F A J I vs S r S' h ls V g s Q E R y l c
 unfold gy at h
 refine gl λU O=>?_
 (revert h;cases _:Internal.g9.Ey D (List.length vs);all_goals (intro h;dsimp only at h))
 ·exact aG h
 rename_i ds m
 cases k:aT ⟨fn,F.hand.isSome,N,mt⟩ D.gt D.body (eX D.cells S.length D.aj (vs++ds)) (S++gn D (vs++ds)) with
 |none=>rw [k] at h;exact aG h
 |some q=>
 obtain ⟨r₁,cz,ay⟩:=q
 rw [k] at h
 (refine Pl h λB w=>?_;clear h;subst B w)
 refine O ?_
 exact vn t u p H j T J I m (λZ W G _ _ Y aL _ M _ _=>λQ E z=>sm p.wf G k M λf e i o P L=>z f e i o P L trivial) rfl R y (λv e i o x L _=>l v e i o x L) c
set_option backward.match.sparseCases false
structure Rd where
 aj:List Str
 gt:eY
 sc:Scope
 cells:Bool
noncomputable def xp:eY->Str->Option Nat
 |[],_=>none
 |(x,_)::r,n=>match aD x n with
  |true=>some 0
  |false=>(xp r n).map (· +1)
noncomputable def Hg:Pos:=⟨0,0,0,0⟩
noncomputable def Zx:Ex:=.cst .none 0 Hg
noncomputable def Rc(n:Str):Option jl:=([.join,.starts,.upper,.append,.extend,.pop]:List jl).find? λm=>aD m.name n
noncomputable def Re(n:Str):Option Bi:=([.len,.str,.ord,.list,.dict,.sum]:List Bi).find? λb=>aD b.name n
noncomputable def MM(rd:Rd)(n:Str)(p:Pos):Ex:=match jZ rd.aj n with
 |some i=>(match rd.sc.names.lookup n with
  |some .local=>.loc i p
  |_=>.fC i p)
 |none=>match xp rd.gt n with
  |some j=>.glob j p
  |none=>Zx
noncomputable def xr:List Ex->eS
 |[]=>.nil
 |e::r=>.cons e (xr r)
noncomputable def Dy:PySem.Expr->Option (Str×Pos)
 |.Name n p=>some (n,p)
 |_=>none
noncomputable def ZA:PySem.Expr->Option (List PySem.Expr×Nat×Pos)
 |.Tuple es k p=>some (es,k,p)
 |_=>none
noncomputable def Uo:PySem.Expr->Option (PySem.Expr×Str×Pos)
 |.Attribute o n p=>some (o,n,p)
 |_=>none
noncomputable def MN:PySem.Expr->Option (PySem.Expr×List PySem.Expr×Pos)
 |.Call f l _ p=>some (f,l,p)
 |_=>none
noncomputable def Up:Option PySem.Expr->Option (Str×Nat×Pos)
 |some (.Constant (.str x) i q)=>some (x,i,q)
 |_=>none
noncomputable def Uq:List ExceptHandler->Option (Option PySem.Expr×Option Str×List PySem.Stmt×Pos)
 |.ExceptHandler t n b p::_=>some (t,n,b,p)
 |_=>none
noncomputable def Hh(x:Str)(e:PySem.Expr):Option (Pos×PySem.Expr×Pos):=
 (MN e).bind λc=>(Dy c.1).bind λf=>c.2.1.head?.bind λa=>bif aD f.1 x then some (f.2,a,c.2.2) else none
noncomputable def lY{α β:Type}(o:Option α)(f:α->β)(d:β):β:=(o.map f).getD d
noncomputable def Kl(e:PySem.Expr):Option (Option (Nat×Pos)×List (Str×Pos)):=
 lY (Dy e) (λx=>some (none,[x])) ((ZA e).map λx=>(some x.2,x.1.filterMap Dy))
noncomputable def zK(e:PySem.Expr):Bool:=lY (Dy e) (λx=>aD x.1 "kept") (lY (Uo e) (λx=>aD x.2.1 "vars") false)
noncomputable def Hi(rd:Rd)(t:PySem.Expr)(extra:List Pos)(scope:Scope)(fM:Option (Pos×Pos)):la:=lY (Kl t) (λx=>
 let fr:=scope.names.filterMap λq=>match q.2 with|.free=>some q.1|_=>none
 ⟨x.2.map (·.1)++fr,x.2.length,x.1,x.2.map (·.2)++extra,fr.filterMap λn=>jZ rd.aj n,scope,fM⟩) ⟨[],0,none,[],[],scope,fM⟩
noncomputable def Oa(rd:Rd)(n:Str)(ip:Pos)(as:List PySem.Expr)(es:List Ex)(p:Pos):Ex:=
 lY (jZ rd.aj n) (λi=>.ja i ip (xr es) p) (lY (xp rd.gt n) (λj=>.call j ip (xr es) p) (match es with
  |[a]=>lY (Re n) (λb=>.bi b ip a p) Zx
  |a::_=>.JC ip a (lY (as.getLast?.bind Dy) (·.2) p) p
  |[]=>Zx))
noncomputable def Rf:PySem.Expr->Bool
 |.List _ _=>true
 |_=>false
noncomputable def sE:Nat->Rd->PySem.Expr->Ex
 |0,_,_=>Zx
 |k+1,rd,e=>
  let c:=sE k rd
  let cs:=λl=>xr (l.map (sE k rd))
  let SV:=λ(I:la)=>sE k ⟨I.aj,rd.gt,mn rd.sc I,rd.cells⟩
  match e with
  |.Name n p=>MM rd n p
  |.Constant c i p=>.cst c i p
  |.BinOp l op r p=>bif (op== .Add)&&(Rf l||lY (Dy l) (λx=>aD x.1 "words") false) then .kA (c l) (c r) p else .bin op (c l) (c r) p
  |.UnaryOp op a p=>bif op== .Not then .nt (c a) p else .neg (c a) p
  |.BoolOp op l p=>(match l with
   |a::r=>.lS op (c a) (cs r) p
   |[]=>Zx)
  |.Compare l o m p=>(match o,m with
   |[op],[r]=>.cmp op (c l) (c r) p
   |[lz,n8],[m,r]=>.chain (c l) lz (c m) n8 (c r) p
   |_,_=>Zx)
  |.IfExp t a b p=>.ite (c t) (c a) (c b) p
  |.Tuple es i p=>.tup (cs es) i p
  |.List es p=>bif es.isEmpty||rd.cells then .bw (cs es) p else .lst (cs es) p
  |.Dict ks vs p=>.qO (ks.filterMap Up) (cs vs) p
  |.Call f args _ p=>lY (Dy f) (λx=>Oa rd x.1 x.2 args (args.map c) p) (lY (Uo f) (λx=>lY (Rc x.2.1) (λm=>.eB (c x.1) m x.2.2 (cs args) p) (.ez (c x.1) x.2.1 x.2.2 (cs args) p)) Zx)
  |.Subscript o i p=>(match i with
   |.Slice lo hi st sp=>.vQ (c o) (lY lo c Zx) (lY hi c Zx) (lY st c Zx) (lo.isSome,hi.isSome,st.isSome) sp p
   |_=>.idx (c o) (c i) p)
  |.Attribute o n p=>.attr (c o) n p
  |.ListComp elt gs scope p=>lY gs.head? (λg=>bif zK g.iter then
     let I:=Hi rd g.target [] scope none
     .keys false (SV I elt) (c g.iter) I p
     else
      let q:=Hh "range" g.iter
      let I:=Hi rd g.target [] scope (q.map λx=>(x.1,x.2.2))
      .comp (SV I elt) (c (lY q (·.2.1) g.iter)) (xr (g.ifs.map (SV I))) I p) Zx
  |.DictComp q v gs scope p=>lY gs.head? (λg=>
   let I:=Hi rd g.target [(lY (Dy q) (·.2) p)] scope none
   .keys true (SV I v) (c g.iter) I p) Zx
  |_=>Zx
noncomputable def Rg(k:Nat)(rd:Rd):PySem.Expr->Tg
 |.Name n p=>match MM rd n p with
  |.loc i p=>.loc i p
  |.fC i p=>.fC i p
  |_=>.loc 0 Hg
 |.Attribute o n p=>.attr (sE k rd o) n p
 |.Subscript o i p=>.sub (sE k rd o) (sE k rd i) p
 |_=>.loc 0 Hg
noncomputable def xt(k:Nat)(rd:Rd)(t:PySem.Expr):yi:=lY (ZA t) (λx=>⟨x.1.map (Rg k rd),some x.2⟩) ⟨[Rg k rd t],none⟩
noncomputable def Hj:List St->dL
 |[]=>.nil
 |e::r=>.cons e (Hj r)
noncomputable def vt(rd:Rd)(n:Str):Nat:=(jZ rd.aj n).getD 0
noncomputable def Ob(rd:Rd)(n:Str):Bool:=(jZ rd.aj n).isSome||((xp rd.gt n).isSome||((Re n).isSome||aD n "isinstance"))
noncomputable def Hk(rd:Rd)(e:PySem.Expr):Bool:=lY ((MN e).bind λc=>Dy c.1) (λx=>Ob rd x.1) true
noncomputable def Ur:PySem.Expr->Bool
 |.ListComp _ _ _ _=>true
 |_=>false
noncomputable def convS:Nat->Rd->PySem.Stmt->St
 |0,_,s=>.raw s
 |k+1,rd,s=>
  let c:=sE k rd
  let ss:=λl=>Hj (l.map (convS k rd))
  match s with
  |.Assign ts v p=>lY ts.head? (λt=>bif (Dy t).isSome&&Ur v then (match c v with
     |.comp elt src cs I cp=>lY (Dy t) (λx=>.nk (vt rd x.1) x.2 elt src cs I cp p) (.raw s)
     |_=>.raw s)
   else bif (ZA t).isSome&&(ZA v).isSome then lY ((ZA t).bind λx=>(ZA v).bind λy=>SN rd.sc x.1 y.1) (λo=>.asg (xt k rd t) (o.map λns=>ns.map (vt rd)) (c v) p) (.raw s)
   else bif Hk rd v then .asg (xt k rd t) none (c v) p else .raw s) (.raw s)
  |.AugAssign t op v p=>lY (Dy t) (λx=>.aug (vt rd x.1) x.2 op (c v) p) (lY (Uo t) (λx=>.kM (c x.1) x.2.1 x.2.2 op (c v) p) (.raw s))
  |.If t b o p=>.ifs (c t) (ss b) (ss o) p
  |.While t b o p=>bif o.isEmpty then .A9 (c t) (ss b) p else .raw s
  |.Return e p=>lY e (λx=>.ret (c x) p) (.va p)
  |.Expr e p=>.exp (c e) p
  |.For t it b o p=>bif o.isEmpty then
     lY (Hh "range" it) (λx=>.fr (xt k rd t) (.fM x.1 x.2.2) (c x.2.1) (ss b) p)
     (lY (Hh "enumerate" it) (λx=>.fr (xt k rd t) (.C9 x.1 x.2.2) (c x.2.1) (ss b) p) (.fr (xt k rd t) .plain (c it) (ss b) p)) else .raw s
  |.Raise e o p=>lY e (λx=>bif o.isNone&&Hk rd x then .s8 (c x) p else .raw s) (.raw s)
  |.Try b hs el f p=>lY (Uq hs) (λx=>bif f.isEmpty&&el.isEmpty then lY (x.1.bind Dy) (λy=>.wS (ss b) ((xp rd.gt y.1).getD 0) y.2 (x.2.1.map (vt rd)) (ss x.2.2.1) x.2.2.2 p) (.raw s) else .raw s) (bif el.isEmpty then .Ba (ss b) (ss f) p else .raw s)
  |s=>.raw s
set_option backward.match.sparseCases true
noncomputable def jA(d:Arguments×List PySem.Stmt×Scope):List Str:=d.1.args.map (·.arg)
noncomputable def isIn(l:List Str)(n:Str):Bool:=l.any (aD n)
noncomputable def xu(d:Arguments×List PySem.Stmt×Scope):List Str:=jA d++(d.2.2.names.filterMap λp=>match p.2 with
 |.local=>(match isIn (jA d) p.1 with|true=>none|false=>some p.1)
 |.cell=>(match isIn (jA d) p.1 with|true=>none|false=>some p.1)
 |_=>none)
noncomputable def Us(d:Arguments×List PySem.Stmt×Scope):Rd:=⟨xu d,a9,d.2.2,true⟩
noncomputable def Dz:List PySem.Expr->Option (List V)
 |[]=>some []
 |e::r=>match e with
  |.Constant c _ _=>(kC c).bind λv=>(Dz r).map (v::·)
  |_=>none
noncomputable def xw(d:Arguments×List PySem.Stmt×Scope)(n:Nat):Option (List V):=match ble n d.1.args.length&&ble d.1.args.length (n+d.1.defaults.length) with
 |true=>Dz (d.1.defaults.drop (n+d.1.defaults.length - d.1.args.length))
 |false=>none
noncomputable def ZF(d:Arguments×List PySem.Stmt×Scope):List Str:=(d.2.2.names.filterMap λp=>match p.2 with|.cell=>some p.1|_=>none).reverse
noncomputable def defOf(d:Arguments×List PySem.Stmt×Scope):g9:=⟨xu d,d.1.args.length,a9,Hj (d.2.1.map (convS 40 (Us d))),d.2.2,xw d,ZF d⟩
noncomputable def defAt(i:Nat):g9:=defOf (aZ.getD i ce)
noncomputable def Y8:List (Addr×Kd)->Addr->Option Kd
 |[],_=>none
 |p::r,a=>match beq p.1 a with
  |true=>some p.2
  |false=>Y8 r a
theorem DB{x:Addr}{p:Addr×Kd}{r:List (Addr×Kd)}:
 Y8 (p::r) x=
  match beq (Prod.fst p) x with
  |true=>some (Prod.snd p)
  |false=>Y8 r x:=by rfl
noncomputable def di(b:Bool)(c:Addr)(n:Str):Option Addr:=match b with
 |true=>(match beq c 541&&aD n "__init__" with
  |true=>some 475
  |false=>none)
 |false=>(match beq c 697 with
  |true=>(([("tool",482),("run",503),("place",609),("write_var",623),("write",637)]:List (String×Nat)).find? λp=>aD (Str.ofString p.1) n).map (·.2)
  |false=>none)
noncomputable def dL.rest:dL->dL
 |.nil=>.nil
 |.cons _ r=>r
noncomputable def loc(l:Bool)(f:Bool->List V->List C->Y5 V)(hd:Bool)(vs:List V)(S:List C):Y5 V:=match l with
 |true=>lX (f hd) vs S
 |false=>f hd vs S
noncomputable def Zz(N:Nat)(f1 f2:Bool->lU)(hd:Bool)(a:Addr)(vs:List V)(S:List C):Y5 V:=match Y8 kinds a with
 |none=>none
 |some k=>match k with
  |.fn i l=>loc l (gy (defAt i) f1 di N) hd vs S
  |.cls i l=>loc l (sz (gy (defAt i) f2 di N) a) hd vs S
  |.exc i=>loc true (Kj (defAt i) (defAt i).body.rest.rest f2 di N) hd vs S
theorem nB{c b:Bool->lU}{a:Addr}:
 Zz N c b hd a vs S=
  match Y8 kinds a with
  |none=>none
  |some k=>
   match k with
   |Kd.fn i l=>loc l (gy (defAt i) c di N) hd vs S
   |Kd.cls i l=>loc l (sz (gy (defAt i) b di N) a) hd vs S
   |Kd.exc i=>loc true (Kj (defAt i) (dL.rest (dL.rest (g9.body (defAt i)))) b di N) hd vs S:=by rfl
noncomputable def ZN(hd:Bool):lU:=λ_ _ _=>none
noncomputable def ul(N:Nat)(n:Nat):(Bool->lU)×(Bool->lU):=Nat.rec (ZN,ZN) (λ_ p=>(Zz N p.1 p.2,p.1)) n
noncomputable def cG(n:Nat):Bool->lU:=(ul 5000 n).1
mutual
noncomputable def zE:Ex->Ex
 |.cst c k _=>.cst c k o0
 |.loc i _=>.loc i o0
 |.fC i _=>.fC i o0
 |.glob i _=>.glob i o0
 |.bin op l r _=>.bin op (zE l) (zE r) o0
 |.kA l r _=>.kA (zE l) (zE r) o0
 |.cmp op l r _=>.cmp op (zE l) (zE r) o0
 |.chain l lz m n8 r _=>.chain (zE l) lz (zE m) n8 (zE r) o0
 |.lS op a r _=>.lS op (zE a) (mC r) o0
 |.nt a _=>.nt (zE a) o0
 |.neg a _=>.neg (zE a) o0
 |.ite t a b _=>.ite (zE t) (zE a) (zE b) o0
 |.tup es k _=>.tup (mC es) k o0
 |.lst es _=>.lst (mC es) o0
 |.bw es _=>.bw (mC es) o0
 |.qO ks es _=>.qO (ks.map λk=>(k.1,0,o0)) (mC es) o0
 |.call i _ es _=>.call i o0 (mC es) o0
 |.ja i _ es _=>.ja i o0 (mC es) o0
 |.ez e n _ es _=>.ez (zE e) n o0 (mC es) o0
 |.eB e m _ es _=>.eB (zE e) m o0 (mC es) o0
 |.idx e i _=>.idx (zE e) (zE i) o0
 |.vQ e lo hi st f _ _=>.vQ (zE e) (zE lo) (zE hi) (zE st) f o0 o0
 |.attr e n _=>.attr (zE e) n o0
 |.bi b _ e _=>.bi b o0 (zE e) o0
 |.JC _ e _ _=>.JC o0 (zE e) o0 o0
 |.comp elt src cs I _=>.comp (zE elt) (zE src) (mC cs) I o0
 |.keys k elt src I _=>.keys k elt (zE src) I o0
noncomputable def mC:eS->eS
 |.nil=>.nil
 |.cons e r=>.cons (zE e) (mC r)
end
noncomputable def zT:Tg->Tg
 |.loc i _=>.loc i o0
 |.fC i _=>.fC i o0
 |.attr e n _=>.attr (zE e) n o0
 |.sub e i _=>.sub (zE e) (zE i) o0
noncomputable def zG(T:yi):yi:=⟨T.ts.map zT,T.tup.map λ_=>(0,o0)⟩
noncomputable def zM:Fm->Fm
 |.plain=>.plain
 |.fM _ _=>.fM o0 o0
 |.C9 _ _=>.C9 o0 o0
mutual
noncomputable def zS:St->St
 |.asg T sw e _=>.asg (zG T) sw (zE e) o0
 |.nk i _ elt src cs I _ _=>.nk i o0 (zE elt) (zE src) (mC cs) I o0 o0
 |.aug i _ op e _=>.aug i o0 op (zE e) o0
 |.kM o n _ op e _=>.kM (zE o) n o0 op (zE e) o0
 |.ifs t b o _=>.ifs (zE t) (um b) (um o) o0
 |.A9 t b _=>.A9 (zE t) (um b) o0
 |.ret e _=>.ret (zE e) o0
 |.va _=>.va o0
 |.exp e _=>.exp (zE e) o0
 |.fr T m e b _=>.fr (zG T) (zM m) (zE e) (um b) o0
 |.s8 e _=>.s8 (zE e) o0
 |.wS b gi _ nm h _ _=>.wS (um b) gi o0 nm (um h) o0 o0
 |.Ba b f _=>.Ba (um b) (um f) o0
 |.raw s=>.raw s
noncomputable def um:dL->dL
 |.nil=>.nil
 |.cons s r=>.cons (zS s) (um r)
end
noncomputable def zB(i:Nat):dL:=um (defAt i).body
theorem Rh{ks:List (Str×Nat×Pos)}:p8 (ks.map λk=>(k.1,0,o0))=p8 ks:=by funext vs S;delta p8;rw [dG,List.map_map];rfl
noncomputable abbrev zQ(cf:CF)(gt:eY)(e:Ex):Prop:=∀ls,ev cf ls gt (zE e)=ev cf ls gt e
noncomputable abbrev Xi(cf:CF)(gt:eY)(e:eS):Prop:=(∀ls,hM cf ls gt (mC e)=hM cf ls gt e)/\(∀ls op c,mB cf ls gt op c (mC e)=mB cf ls gt op c e)/\∀ls f,p9 cf ls gt f (mC e)=p9 cf ls gt f e
theorem nC(e:Ex):zQ cf gt e:=by
 refine Ex.rec (motive_1:=zQ cf gt) (motive_2:=Xi cf gt) (λ_ _ _ _=>rfl) (λ_ _ _=>rfl) (λ_ _ _=>rfl) (λ_ _ _=>rfl) ?_ ?_ ?_ ?_ ?_ ?_ ?_ ?_ ?_ ?_ ?_ ?_ ?_ ?_ ?_ ?_ ?_ ?_ ?_ ?_ ?_ ?_ ?_ ⟨λ_=>rfl,λ_ _ _=>rfl,λ_ _=>rfl⟩ ?_ e
 ·intro op l r p a b ls;funext S;show ev cf ls gt (.bin op (zE l) (zE r) o0) S=_;rw [FF,a,b];rfl
 ·intro l r p a b ls;funext S;show ev cf ls gt (.kA (zE l) (zE r) o0) S=_;rw [AQ,a,b];rfl
 ·intro op l r p a b ls;funext S;show ev cf ls gt (.cmp op (zE l) (zE r) o0) S=_;rw [FE,a,b];rfl
 ·intro l op m g r p a b c ls;funext S;show cu (ev cf ls gt (zE l) S) (λa S=>cu (ev cf ls gt (zE m) S) λb S=>match eg op a b S with
   |none=>none
   |some c=>match c with
    |false=>some (.ok (.bool false),S)
    |true=>cu (ev cf ls gt (zE r) S) λd S=>qt (eg g b d S) S)=_
  rw [a,b,c];rfl
 ·intro op l r p a b ls;funext S;show ev cf ls gt (.lS op (zE l) (mC r) o0) S=_;rw [yP,a];simp -iota only [b.2.1];rfl
 ·intro l p a ls;funext S;show ev cf ls gt (.nt (zE l) o0) S=_;rw [Mr,a];rfl
 ·intro l p a ls;funext S;show cu (ev cf ls gt (zE l) S) _=_;rw [a];rfl
 ·intro t l r p a b c ls;funext S;show ev cf ls gt (.ite (zE t) (zE l) (zE r) o0) S=_;rw [yQ,a,b,c];rfl
 ·intro l k p a ls;funext S;show ev cf ls gt (.tup (mC l) k o0) S=_;rw [yO,a.1];rfl
 ·intro l p a ls;funext S;show cu (hM cf ls gt (mC l) S) _=_;rw [a.1];rfl
 ·intro l p a ls;funext S;show ev cf ls gt (.bw (mC l) o0) S=_;rw [AN,a.1];rfl
 ·intro ks l p a ls;funext S;show ev cf ls gt (.qO (ks.map λk=>(k.1,0,o0)) (mC l) o0) S=_;rw [rN,a.1,Rh];rfl
 ·intro i q l p a ls;funext S;show ev cf ls gt (.call i o0 (mC l) o0) S=_;rw [AL,a.1];rfl
 ·intro i q l p a ls;funext S;show ev cf ls gt (.ja i o0 (mC l) o0) S=_;rw [wE,a.1];rfl
 ·intro e n q l p a b ls;funext S;show ev cf ls gt (.ez (zE e) n o0 (mC l) o0) S=_;rw [wF,a,b.1];rfl
 ·intro e n q l p a b ls;funext S;show ev cf ls gt (.eB (zE e) n o0 (mC l) o0) S=_;rw [AO,a,b.1];rfl
 ·intro l r p a b ls;funext S;show ev cf ls gt (.idx (zE l) (zE r) o0) S=_;rw [FD,a,b];rfl
 ·intro e l r m f q p a b c d ls;funext S;show ev cf ls gt (.vQ (zE e) (zE l) (zE r) (zE m) f o0 o0) S=_;rw [FG,a,b,c,d];rfl
 ·intro l n p a ls;funext S;show ev cf ls gt (.attr (zE l) n o0) S=_;rw [AM,a];rfl
 ·intro q n l p a ls;funext S;show ev cf ls gt (.bi q o0 (zE l) o0) S=_;rw [Mq,a];rfl
 ·exact λq l p r a ls=>funext λS=>bA (λf:List C->Y5 V=>cu (f S) λa S=>gk (uM a) S) (a ls)
 ·intro l r m I p a b c ls;funext S;show ev cf ls gt (.comp (zE l) (zE r) (mC m) I o0) S=_;simp only [AP,a,b,c.2.2]
 ·intro k l r I p a b ls;funext S;show ev cf ls gt (.keys k l (zE r) I o0) S=_;rw [AR,b];rfl
 ·intro l r a b;refine ⟨λls=>?_,λls op c=>?_,λls f=>?_⟩
  ·funext S;show hM cf ls gt (.cons (zE l) (mC r)) S=_;rw [rM,a,b.1];rfl
  ·funext S;cases op<;>cases c<;>first|rfl|skip
   ·show mB cf ls gt .And true (.cons (zE l) (mC r)) S=_;rw [Fy,a];simp -iota only [b.2.1];rfl
   ·show mB cf ls gt .Or false (.cons (zE l) (mC r)) S=_;rw [FA,a];simp -iota only [b.2.1];rfl
  ·funext S;show p9 cf ls gt f (.cons (zE l) (mC r)) S=_;rw [yN,a,b.2.2];rfl
theorem Oc(t:Tg):oJ cf gt (zT t)=oJ cf gt t:=by
 funext v ls S;cases t with
 |loc i p=>rfl
 |fC i p=>rfl
 |attr e n p=>exact bA (λf:List C->Y5 V=>match f S with
  |some (.ok o,S)=>(ms o v n S).map λS=>(ls,S)
  |_=>Option.none) (nC e ls)
 |sub e i p=>
  show (match ev cf ls gt (zE e) S with
  |some (.ok o,S)=>(match ev cf ls gt (zE i) S with
   |some (.ok j,S)=>(wP o j v S).map λS=>(ls,S)
   |_=>none)
  |_=>none)=_
  rw [nC e,nC i];rfl
theorem Bo:∀(l:List Tg) (vs:List V) (ls:bW) (S:List C),kL cf gt (l.map zT) vs ls S=kL cf gt l vs ls S:=by
 intro l;induction l with
 |nil=>exact λ_ _ _=>rfl
 |cons t r a=>
  intro vs ls S;cases vs with
  |nil=>rfl
  |cons v vs=>show ((oJ cf gt (zT t) v ls S).bind λq=>kL cf gt (r.map zT) vs q.1 q.2)=_;rw [Oc];simp only [a];rfl
theorem Hl(T:yi):jc cf gt (zG T)=jc cf gt T:=by
 funext v ls S;(cases T with|mk t u=>cases u with
 |none=>exact Bo t [v] ls S
 |some p=>exact bA (λf=>v.gh.bind f) (funext λvs=>Bo t vs ls S))
theorem Od(T:yi):nq cf gt (zG T)=nq cf gt T:=by
 funext sw v ls S;cases sw with
 |none=>exact congrFun (congrFun (congrFun (Hl T) v) ls) S
 |some is=>rfl
theorem Ut(m:Fm):J5 (zM m)=J5 m:=by cases m<;>rfl
theorem Uu(m:Fm):(zM m).en=m.en:=by cases m<;>rfl
noncomputable abbrev zP(e:St):Prop:=∀cf gt,gC cf gt (zS e)=gC cf gt e
noncomputable abbrev VL(e:dL):Prop:=∀cf gt,aT cf gt (um e)=aT cf gt e
theorem Ri(b:dL):VL b:=by
 refine dL.rec (motive_1:=zP) (motive_2:=VL) ?_ ?_ ?_ ?_ ?_ ?_ ?_ (λ_ _ _=>rfl) ?_ ?_ ?_ ?_ ?_ (λ_ _ _=>rfl) (λ_ _=>rfl) ?_ b
 ·intro T a e p cf gt;funext ls S;show gC cf gt (.asg (zG T) a (zE e) o0) ls S=_;rw [ve,nC,Od];rfl
 ·intro i q l e es I p r cf gt;funext ls S;show gC cf gt (.nk i o0 (zE l) (zE e) (mC es) I o0 o0) ls S=_;rw [wW];exact bA (λf:List C->Y5 V=>fJ (f S) ls _) (nC (.comp l e es I p) ls)
 ·intro i q op e p cf gt;funext ls S;show gC cf gt (.aug i o0 op (zE e) o0) ls S=_;rw [Be,nC];rfl
 ·intro o n q op e p cf gt;funext ls S;show gC cf gt (.kM (zE o) n o0 op (zE e) o0) ls S=_;rw [wV,nC,nC];rfl
 ·intro e b o p h k cf gt;funext ls S;show gC cf gt (.ifs (zE e) (um b) (um o) o0) ls S=_;rw [vf,nC,h,k];rfl
 ·intro e b p h cf gt;funext ls S;show gC cf gt (.A9 (zE e) (um b) o0) ls S=_;rw [J8,h];simp only [nC];rfl
 ·intro e p cf gt;funext ls S;show gC cf gt (.ret (zE e) o0) ls S=_;rw [vd,nC];rfl
 ·intro e p cf gt;funext ls S;show gC cf gt (.exp (zE e) o0) ls S=_;rw [Bd,nC];rfl
 ·intro T m e b p h cf gt;funext ls S;show gC cf gt (.fr (zG T) (zM m) (zE e) (um b) o0) ls S=_;rw [GH,nC,h,Hl,Ut,Uu];rfl
 ·intro e p cf gt;funext ls S;show gC cf gt (.s8 (zE e) o0) ls S=_;rw [Bf,nC];rfl
 ·intro b i q n f r p h k cf gt;funext ls S;show gC cf gt (.wS (um b) i o0 n (um f) o0 o0) ls S=_;rw [vg,h,k];rfl
 ·intro b f p h k cf gt;funext ls S;show gC cf gt (.Ba (um b) (um f) o0) ls S=_;rw [vh,h,k,k];rfl
 ·intro s r h k cf gt;funext ls S;show aT cf gt (.cons (zS s) (um r)) ls S=_;rw [qQ,h,k];rfl
noncomputable abbrev rF(k:Nat):Option V:=some (.ref k)
noncomputable abbrev iF(k:Int):Option V:=some (.int k)
noncomputable abbrev sF(k:Str):Option V:=some (.str k)
noncomputable abbrev nF:Option V:=none
section
variable {ls1 ls2:bW}{e2 e3:Ex}{v1 v2 a b w:V}{ws:List V}{p':Pos}
noncomputable abbrev Ev(cf:CF)(ls:bW)(gt:eY)(e:Ex)(S:List C)(v:V)(S':List C):Prop:=ev cf ls gt e S=some (.ok v,S')
theorem af(h:ls[i]? =some (some v)):Ev cf ls gt (.loc i p) S v S:=by simp only [Ev,NI,h];rfl
theorem ao{c:Const}(h:kC c=some v):Ev cf ls gt (.cst c n p) S v S:=by simp only [Ev,FC,h];rfl
theorem ag:hM cf ls gt .nil S=some (.ok [],S):=by rfl
theorem aa(b:Ev cf ls gt e S v S1)(a:hM cf ls gt r S1=some (.ok vs,S2)):hM cf ls gt (.cons e r) S=some (.ok (v::vs),S2):=by simp only [rM,b,a,cP]
theorem aM{x:Str×Addr}{o}(b:hM cf ls gt es S=some (.ok vs,S1))(a:gt[i]? =some x)(c:cf.fn cf.hd x.2 vs S1=o):ev cf ls gt (.call i ip es p) S=o:=by (rw [AL,b,a];exact c)
theorem Bp{A:Addr}{o:Y5 V}(c:ls[i]?.bind id=some (.glob A))(a:hM cf ls gt es S=some (.ok vs,S1))(b:cf.fn cf.hd A vs S1=o):ev cf ls gt (.ja i ip es p) S=o:=by (simp -iota only [wE,c,a,tQ];exact b)
theorem fv{m:Str}{q:Addr×List V}{o}(d:Ev cf ls gt e S v S1)(a:ng cf.mt v m S1=some q)(b:hM cf ls gt es S1=some (.ok vs,S2))(c:cf.fn cf.hd q.1 (q.2++vs) S2=o):ev cf ls gt (.ez e m ip es p) S=o:=by (simp -iota only [wF,d,cP,a,b];exact c)
theorem b8{m:Str}(b:Ev cf ls gt e S v S1)(a:fE v m S1=some w):Ev cf ls gt (.attr e m p) S w S1:=by simp only [Ev,AM,b,cP,a];rfl
theorem bB(d:Ev cf ls gt e S a S1)(c:Ev cf ls gt e1 S1 b S2)(f:lB a b S2=some v):Ev cf ls gt (.idx e e1 p) S v S2:=by simp only [Ev,FD,d,c,cP,f];rfl
theorem aE{op:CmpOp}(f:Ev cf ls gt e S a S1)(d:Ev cf ls gt e1 S1 b S2)(g:eg op a b S2=some c):Ev cf ls gt (.cmp op e e1 p) S (.bool c) S2:=by simp only [Ev,FE,f,d,cP,g];rfl
theorem gd(d:Ev cf ls gt e S a S1)(c:Ev cf ls gt e1 S1 b S2)(f:mm op a b S2=some v):Ev cf ls gt (.bin op e e1 p) S v S2:=by simp only [Ev,FF,d,c,cP,f];rfl
theorem cV(b:hM cf ls gt es S=some (.ok vs,S1))(a:i6 vs=true):Ev cf ls gt (.tup es n p) S (.tup vs) S1:=by (simp -iota only [Ev,yO,b,cP,a];rfl)
theorem dH(b:hM cf ls gt es S=some (.ok vs,S1))(a:i6 vs=true):Ev cf ls gt (.bw es p) S (.ref S1.length) (S1++[.list vs]):=by (simp -iota only [Ev,AN,b,cP,a];rfl)
theorem iO{m:jl}(c:Ev cf ls gt e S v S1)(d:rL m v S1=true)(a:hM cf ls gt es S1=some (.ok vs,S2))(b:i9 m v vs S2=some (w,S3)):Ev cf ls gt (.eB e m ip es p) S w S3:=by (simp -iota only [Ev,AO,c,cP,d,a,b];rfl)
theorem hU{B:Bi}(b:Ev cf ls gt e S v S1)(a:uO cf.hd B v S1=some (w,S2)):Ev cf ls gt (.bi B ip e p) S w S2:=by (simp -iota only [Ev,Mq,b,cP,a,Option.map];rfl)
theorem gz(b:Ev cf ls gt e S (.bool c) S1)(a:mB cf ls gt .And c r S1=some (.ok v,S2)):Ev cf ls gt (.lS .And e r p) S v S2:=by (simp -iota only [Ev,yP,b,cP,fD];exact a)
theorem fU{op}:mB cf ls gt op c .nil S=some (.ok (.bool c),S):=by cases op<;>cases c<;>rfl
theorem kR(b:Ev cf ls gt e S (.bool c) S1)(a:mB cf ls gt .And c r S1=some (.ok v,S2)):mB cf ls gt .And true (.cons e r) S=some (.ok v,S2):=by (simp -iota only [Fy,b,cP,fD];exact a)
theorem sG:mB cf ls gt .And false (.cons e r) S=some (.ok (.bool false),S):=by rfl
theorem oQ{o}(b:Ev cf ls gt e S (.bool true) S1)(a:ev cf ls gt e1 S1=o):ev cf ls gt (.ite e e1 e2 p) S=o:=by subst a;(simp -iota only [yQ,b];rfl)
theorem iP{o}(b:Ev cf ls gt e S (.bool false) S1)(a:ev cf ls gt e2 S1=o):ev cf ls gt (.ite e e1 e2 p) S=o:=by subst a;(simp -iota only [yQ,b];rfl)
end
section
variable {ls1 ls2:bW}{e2 e3:Ex}{v1 v2 a b w:V}{ws:List V}{p':Pos}{s:St}{r bb oo:dL}{o:ci}
noncomputable abbrev Nx(cf:CF)(gt:eY)(s:St)(ls:bW)(S:List C)(br:bW)(S':List C):Prop:=gC cf gt s ls S=some (.ok .cY,br,S')
theorem ah(b:Nx cf gt s ls S ls1 S1)(a:aT cf gt r ls1 S1=o):aT cf gt (.cons s r) ls S=o:=by (simp -iota only [qQ,b,lj];exact a)
theorem eD{q:Rs Fl}(b:gC cf gt s ls S=some (q,ls1,S1))(c:match q with|.ok .cY=>False|_=>True):aT cf gt (.cons s r) ls S=some (q,ls1,S1):=by
 simp only [qQ,b];cases q with
 |ok a=>cases a with
  |cY=>exact c.elim
  |ret v=>rfl
 |exc k=>rfl
theorem Y2{q}(a:gC cf gt s ls S=some (q,ls1,S1)):aT cf gt (.cons s .nil) ls S=some (q,ls1,S1):=by
 simp only [J6,qQ,a];clear a;cases q with
 |ok b=>cases b<;>rfl
 |exc k=>rfl
theorem b0:aT cf gt .nil ls S=some (.ok .cY,ls,S):=by rfl
theorem bQ(h:Ev cf ls gt e S v S1):gC cf gt (.ret e p) ls S=some (.ok (.ret v),ls,S1):=by (simp -iota only [vd,h];rfl)
theorem zL(h:ev cf ls gt e S=some (.exc k,S1)):gC cf gt (.ret e p) ls S=some (.exc k,ls,S1):=by (simp -iota only [vd,h];rfl)
theorem fV(h:Ev cf ls gt e S v S1):Nx cf gt (.exp e p) ls S ls S1:=by (simp -iota only [Nx,Bd,h];rfl)
theorem aI{T sw}(h:Ev cf ls gt e S v S1)(a:nq cf gt T sw v ls S1=some (ls2,S2)):Nx cf gt (.asg T sw e p) ls S ls2 S2:=by (simp -iota only [Nx,ve,h,ju,FT,a,Option.map];rfl)
theorem Hm{T sw}(h:ev cf ls gt e S=some (.exc k,S1)):gC cf gt (.asg T sw e p) ls S=some (.exc k,ls,S1):=by (simp -iota only [ve,h];rfl)
theorem Bq{op}(d:ls[i]?.bind id=some a)(h:Ev cf ls gt e S b S1)(c:zp op a b=some v):Nx cf gt (.aug i ip op e p) ls S (ls.set i (some v)) S1:=by simp only [Nx,Be,d,bq,h,ju,c]
theorem zN{m:Str}{op}(h:Ev cf ls gt e S w S1)(g:fE w m S1=some a)(f:Ev cf ls gt e1 S1 b S2)(c:zp op a b=some v)(d:ms w v m S2=some S3):Nx cf gt (.kM e m ip op e1 p) ls S ls S3:=by simp only [Nx,wV,g,bq,h,f,ju,c,d]
theorem cn(h:Ev cf ls gt e S (.bool true) S1)(a:aT cf gt bb ls S1=o):gC cf gt (.ifs e bb oo p) ls S=o:=by subst a;(simp -iota only [vf,h];rfl)
theorem bF(h:Ev cf ls gt e S (.bool false) S1)(a:aT cf gt oo ls S1=o):gC cf gt (.ifs e bb oo p) ls S=o:=by subst a;(simp -iota only [vf,h];rfl)
theorem Br(b:cf.hd=false)(h:Ev cf ls gt e S (.ref k) S1)(a:eV S1 k=true):gC cf gt (.s8 e p) ls S=some (.exc k,ls,S1):=by (simp -iota only [Bf,b,h,ju,V.fQ,bq,a];rfl)
theorem nD{fl cp hp}(h:aT cf gt bb ls S=some (.ok fl,ls1,S1)):gC cf gt (.wS bb i cp nm oo hp p) ls S=some (.ok fl,ls1,S1):=by simp only [vg,h]
theorem vw{fl cp hp}(b:cf.hd=false)(h:aT cf gt bb ls S=some (.exc k,ls1,S1))(a:aT cf.bK gt oo (qz nm (some (.ref k)) ls1) S1=some (.ok fl,ls2,S2)):gC cf gt (.wS bb i cp nm oo hp p) ls S=some (.ok fl,qz nm none ls2,S2):=by (simp -iota only [vg,h,b];dsimp only;simp -iota only [a,zo])
theorem Hn{fl}(h:aT cf gt bb ls S=some (.ok fl,ls1,S1))(a:aT cf gt oo ls1 S1=some (.ok .cY,ls2,S2)):gC cf gt (.Ba bb oo p) ls S=some (.ok fl,ls2,S2):=by (simp -iota only [vh,h];dsimp only;simp -iota only [a,zo];rfl)
theorem Km(b:cf.hd=false)(h:aT cf gt bb ls S=some (.exc k,ls1,S1))(a:aT cf.bK gt oo ls1 S1=some (.ok .cY,ls2,S2))(c:eV S2 k=true):gC cf gt (.Ba bb oo p) ls S=some (.exc k,ls2,S2):=by (simp -iota only [vh,h,b];dsimp only;simp -iota only [a,zo,c];rfl)
end
theorem sH(n:Nat)(hd:Bool)(a:Addr)(vs:List V)(S:List C):cG (n+1) hd a vs S=Zz 5000 (cG n) (ul 5000 n).2 hd a vs S:=rfl
noncomputable abbrev a0(n:Nat)(hd:Bool):CF:=⟨cG n,hd,5000,di⟩
theorem bC{r:Rs Fl}(a:(defAt i).Ey vs.length=some ds)
 (h:aT (a0 n hd) a9 (zB i) (eX (defAt i).cells S.length (defAt i).aj (vs++ds)) (S++gn (defAt i) (vs++ds))=some (r,br,S')):gy (defAt i) (cG n) di 5000 hd vs S=some (N7 r,S'):=by
 rw [zB,Ri] at h
 unfold gy
 refine a▸?_
 show (match aT (a0 n hd) a9 (defAt i).body _ _ with|none=>none|some (r,_,S')=>some (N7 r,S'))=_
 exact h▸rfl
theorem Ho{a:Addr}{o:Y5 V}(b:Y8 kinds a=some (.fn i false))(h:gy (defAt i) (cG n) di 5000 hd vs S=o):cG (n+1) hd a vs S=o:=by rw [sH,nB,b];exact h
theorem cq{a:Addr}{o:Y5 V}(b:Y8 kinds a=some (.fn i true))(h:lX (gy (defAt i) (cG n) di 5000 hd) vs S=o):cG (n+1) hd a vs S=o:=by rw [sH,nB,b];exact h
theorem b9(k:Nat)(r:List Nat):c8 (k::r) k=some 0:=by simp only [G1,nw,beq_refl]
theorem zO(h:k≠j)(r:List Nat):c8 (k::r) j=(c8 r j).map (· +1):=by
 have:beq k j=false:=by
  cases e:beq k j with
  |true=>exact absurd (c5 e) h
  |false=>rfl
 simp only [nw,this]
theorem oR{c:C}(h:S[k]? =some c)(a:lW [] (c8 sel) 40 c=some c0):Zg sel S k=some c0:=by delta Zg;rw [h];exact a
theorem jB{f:List V->List C->Y5 V}(e:bT vs []=[])(d:cM (fK [] (c8 []) 40) vs=some vs')(a:f vs' []=some (.ok v,aK))
 (b:b7 0 (.ok v) aK=none) (c:fK aK (bZ [] S.length none) 40 v=some v'):lX f vs S=some (.ok v',S):=by
 simp -iota only [kO]
 simp only [e,d,bH,a,dQ,b,take_zero,kN,jw,dA,c,Option.map]
theorem jC{f:List V->List C->Y5 V}{c c₀ c₁ c₂:C}(h:bT vs []=[k])(g:cM (fK [] (c8 [k]) 40) vs=some vs')(i:S[k]? =some c)(j:lW [] (c8 [k]) 40 c=some c₀)
 (b:f vs' [c₀]=some (.ok v,c₁::aK)) (d:b7 1 (.ok v) (c₁::aK)=none) (a:lW (c₁::aK) (bZ [k] S.length none) 40 c₁=some c₂)
 (e:fK (c₁::aK) (bZ [k] S.length none) 40 v=some v'):lX f vs S=some (.ok v',S.set k c₂):=by
 simp -iota only [kO]
 simp only [h,g,bH,bz,oR i j,b,cT,dQ,fL,d,take_succ_cons,take_zero,a,kN,jw,jx,dA,e,Option.map]
theorem bI{a:Addr}{b:dL}{r:Rs Fl}(c:Y8 kinds a=some (.fn i false))(g:(defAt i).Ey vs.length=some ds)
 (d:eX (defAt i).cells S.length (defAt i).aj (vs++ds)=ls0) (f:zB i=b) (j:(defAt i).cells=[]) (h:∃br,aT (a0 n hd) a9 b ls0 S=some (r,br,S')):cG (n+1) hd a vs S=some (N7 r,S'):=by
 refine gl λk e=>?_
 subst d f
 refine ar h λbr h=>?_
 refine e ?_
 refine Ho c (bC (br:=br) g ?_)
 rw [show gn (defAt i) (vs++ds)=[] by unfold gn;refine j▸?_;rfl,dA]
 exact h
section
variable {w:V}{p':Pos}
theorem aU:nq cf gt ⟨[.loc i p],none⟩ none v ls S=some (ls.set i (some v),S):=rfl
theorem sI{n:Str}(h:Ev cf ls gt e S (.ref k) S1)(a:ms (.ref k) v n S1=some S2):nq cf gt ⟨[.attr e n p],none⟩ none v ls S=some (ls,S2):=by rw [vc];delta jc;dsimp only;rw [sh];delta oJ;dsimp only;rw [h];dsimp only;rw [a];rfl
theorem jD(h:Ev cf ls gt e S (.ref k) S1)(b:Ev cf ls gt e1 S1 w S2)(a:wP (.ref k) w v S2=some S3):nq cf gt ⟨[.sub e e1 p],none⟩ none v ls S=some (ls,S3):=by rw [vc];delta jc;dsimp only;rw [sh];delta oJ;dsimp only;rw [h];dsimp only;rw [b];dsimp only;rw [a];rfl
theorem bD{c:C}{n:Str}(h:S[k]? =some c)(a:(match mi c with|some (C,ks,vs)=>(match eU C n with|true=>fieldOf ks vs n|false=>none)|none=>none)=some v):fE (.ref k) n S=some v:=by simp -iota only [rI,h];exact a
theorem gW{c:Addr}{n:Str}{c':Internal.C}(h:S[k]? =some (.inst c ks vs))(a:((eU c n&& !beq c bL)&&ble ks.length 4000)=true)(b:Internal.C.inst c (bX ks vs n v).1 (bX ks vs n v).2=c'):ms (.ref k) v n S=some (S.set k c'):=by subst b;(simp -iota only [A5,V.fQ,bq,h,Cq];dsimp only;simp -iota only [a];rfl)
theorem xx{n:Str}{c':Internal.C}(h:S[k]? =some (.exc ks vs))(a:(bJ.any (aD n)&&ble ks.length 4000)=true)(b:Internal.C.exc (bX ks vs n v).1 (bX ks vs n v).2=c'):ms (.ref k) v n S=some (S.set k c'):=by subst b;(rw [A5,V.fQ,bq,h];show (Option.bind (some (ks,vs)) _)=_;rw [bq,a])
theorem ll{x:Str}(h:S[k]? =some (.dict ks vs))(a:ble ks.length 4000=true):wP (.ref k) (.str x) v S=some (S.set k (.dict (bX ks vs x v).1 (bX ks vs x v).2)):=by delta wP;rw [V.fQ,bq,h];show (match ble ks.length 4000 with|true=>_|false=>_)=_;rw [a]
theorem eE{x:Str}(h:S[k]? =some (.dict ks vs))(a:fieldOf ks vs x=some v):lB (.ref k) (.str x) S=some v:=by simp only [AI,h,a]
theorem notin_dict{x:Str}(h:S[k]? =some (.dict ks vs))(a:fieldOf ks vs x=none):eg .NotIn (.str x) (.ref k) S=some true:=by simp only [uP,yL,h,Option.map,a];rfl
theorem in_dict{x:Str}(h:S[k]? =some (.dict ks vs))(a:fieldOf ks vs x=some v):eg .NotIn (.str x) (.ref k) S=some false:=by simp only [uP,yL,h,Option.map,a];rfl
theorem aC{c:C}(h:S[k]? =some c)(T:List C):(S++T)[k]? =some c:=by rw [fb (fx h)];exact h
theorem aY(c:C)(T:List C):(S++c::T)[S.length]? =some c:=by rw [eO (cJ _),jR];rfl
theorem ca{c:C}(h:S[k]? =some c):(S.set k c')[k]? =some c':=jP (fx h)
theorem az{c:C}(h:S[j]? =some c)(a:k≠j):(S.set k c')[j]? =some c:=by rw [j4 a];exact h
theorem aO{c:C}(h:S[k]? =some c)(h':S[j]? =some c')(a:c=c'->False):k≠j:=λe=>by subst e;rw [h] at h';exact a (aw h')
end
noncomputable def Oe:List Str:=["kind","value","traces","is_busy","is_element","writes"]
noncomputable def eF(kind:Str)(x:V)(w:Int):C:=.inst 456 Oe [.str kind,x,.lst [],.bool false,.bool false,.int w]
theorem Kn(n:Nat)(hd:Bool)(S:List C):cG (n+3) hd 456 [] S=some (.ok (.ref S.length),S++[eF "none" (.str "") 0]):=by trivial
noncomputable abbrev cN(a:Ex):eS:=.cons a .nil
noncomputable abbrev cA(a b:Ex):eS:=.cons a (.cons b .nil)
noncomputable abbrev xy(a b c:Ex):eS:=.cons a (.cons b (.cons c .nil))
noncomputable abbrev qR(a b c d:Ex):eS:=.cons a (.cons b (.cons c (.cons d .nil)))
noncomputable abbrev dO(a:St):dL:=.cons a .nil
noncomputable abbrev nE(a b:St):dL:=.cons a (.cons b .nil)
noncomputable abbrev Ez(a b c:St):dL:=.cons a (.cons b (.cons c .nil))
noncomputable abbrev yj(a b c d:St):dL:=.cons a (.cons b (.cons c (.cons d .nil)))
theorem Xj:(zB 62)=(yj (.asg ⟨[.attr (.loc 0) "kind"],none⟩ none (.loc 1)) (.asg ⟨[.attr (.loc 0) "value"],none⟩ none (.loc 2)) (.kM (.loc 0) "writes" o0 .Add (.cst (.int 1))) (.ret (.loc 2))):=by trivial
theorem oS{a:Str}{x y:V}{w:Int}(h:S[k]? =some (eF a x w)):cG (n+1) hd 566 [.ref k,.str "scalar",y] S=some (.ok y,S.set k (eF "scalar" y (w+1))):=by refine (show S.set k (eF "scalar" y (w+1))=((S.set k (eF "scalar" x w)).set k (eF "scalar" y w)).set k (eF "scalar" y (w+1)) from by simp only [set_set])▸?_;have c:=ca (c':=eF "scalar" x w) h;have b:=ca (c':=eF "scalar" y w) c;refine bI (ds:=[]) (ls0:=[rF k,sF "scalar",some y]) (r:=.ok (.ret y)) (by trivial) (by trivial) (by trivial) Xj (by trivial) ?_;apply Exists.intro;refine ah (aI (af rfl) (sI (af rfl) (gW h (by trivial) (c':=eF "scalar" x w) (by trivial)))) ?_;refine ah (aI (af rfl) (sI (af rfl) (gW c (by trivial) (c':=eF "scalar" y w) (by trivial)))) ?_;refine ah (zN (af rfl) (bD b (v:=.int w) (by trivial)) (ao rfl) (v:=.int (w+1)) (by trivial) (gW b (by trivial) (c':=eF "scalar" y (w+1)) (by trivial))) ?_;exact Y2 (bQ (af rfl))
theorem VM:(zB 61)=(nE (.ifs (.cmp .NotIn (.loc 1) (.loc 0)) (dO (.asg ⟨[.sub (.loc 0) (.loc 1)],none⟩ none (.call 38 o0 .nil))) .nil) (.ret (.idx (.loc 0) (.loc 1)))):=by trivial
section
variable {v:Nat}{x:Str}{w:V}
theorem zR(h:S[v]? =some (.dict ks vs))(a:fieldOf ks vs x=some w):cG (n+4) hd 559 [.ref v,.str x] S=some (.ok w,S):=by refine bI (ds:=[]) (ls0:=[rF v,sF x]) (r:=.ok (.ret w)) (by trivial) (by trivial) (by trivial) VM (by trivial) ?_;apply Exists.intro;exact ah (bF (aE (af rfl) (af rfl) (in_dict h a)) b0) (Y2 (bQ (bB (af rfl) (af rfl) (eE h a))))
theorem DC:∀{ks:List Str} {vs:List V},ks.length=vs.length->fieldOf (bX ks vs x w).1 (bX ks vs x w).2 x=some w:=λa=>by rw [(Ar a).2.1 x,bx rfl]
theorem sJ(h:S[v]? =some (.dict ks vs))(b:ks.length=vs.length)(c:ks.length<=1000)(a:fieldOf ks vs x=none):
 cG (n+4) hd 559 [.ref v,.str x] S=some (.ok (.ref S.length),(S++[eF "none" (.str "") 0]).set v (.dict (bX ks vs x (.ref S.length)).1 (bX ks vs x (.ref S.length)).2)):=by
 refine bI (ds:=[]) (ls0:=[rF v,sF x]) (r:=.ok (.ret (.ref S.length))) (by trivial) (by trivial) (by trivial) VM (by trivial) ?_
 apply Exists.intro
 refine ah (cn (aE (af rfl) (af rfl) (notin_dict h a)) (Y2 (aI (aM (x:=("Var",456)) ag rfl (Kn n hd S)) (jD (af rfl) (af rfl) (ll (aC h _) (fA (aA c (by decide)))))))) ?_
 exact Y2 (bQ (bB (af rfl) (af rfl) (eE (ca (aC h _)) (DC b))))
end
theorem Xk:(zB 67)=(dO (.ret (.call 40 o0 (cA (.attr (.loc 0) "vars") (.loc 1))))):=by trivial
theorem Xl:(zB 69)=(dO (.ret (.call 41 o0 (xy (.loc 1) (.cst (.str "scalar")) (.loc 3))))):=by trivial
noncomputable abbrev Hp:eS:=cA (.loc 1) (.loc 2)
theorem Xm:(zB 71)=(dO (.ret (.ez (.loc 0) "write_var" o0 (.cons (.ez (.loc 0) "place" o0 (cN (.loc 1))) Hp)))):=by trivial
structure HP where
 h:Nat
 t:Nat
 r:Nat
 v:Nat
 b:Nat
 i:Nat
 c:Nat
 f:Nat
noncomputable def jE:List Str:=["tools","inline","limit","fuel","depth","spent","epoch","frame","coroutine","vars","commands","firsts"]
noncomputable def iC(p:HP)(d:Int):C:=.inst 697 jE [.ref p.t,.ref p.i,.int 40,.none,.int d,.int 0,.int 0,.none,.none,.ref p.v,.ref p.c,.ref p.f]
noncomputable def vy(p:HP):C:=.dict ["run","book","ran"] [.glob 799,.ref p.b,.ref p.r]
noncomputable def namesOf(st:du):List Str:=st.map (·.1)
noncomputable def refsOf(rs:List Nat):List V:=rs.map .ref
class inductive cF (S:List C):du->List Nat->Prop
 |nil:cF S [] []
 |cons {x y k w st rs:_}:S[k]? =some (eF "scalar" (.str y) w)->k∉rs->cF S st rs->cF S ((x,y)::st) (k::rs)
noncomputable def cB(st:du):List V:=st.map λx=>.str x.2
class inductive gP (p:HP) (S:List C):List V->List (Str×du)->Prop
 |nil:gP p S [] []
 |cons {j x st l cX:_}:S[j]? =some (.dict (namesOf st:_) (cB st))->j≠p.v->gP p S l cX->gP p S (.tup [.str x,.ref j]::l) ((x,st)::cX)
theorem gP.mono{p:HP}(q:∀(k:Nat) (ks:List Str) (vs:List V),S[k]? =some (.dict ks vs)->k≠p.v->S'[k]? =some (.dict ks vs)):∀{l cX},gP p S l cX->gP p S' l cX:=by intro l cX h;induction h with|nil=>exact .nil|cons h n _ a=>exact .cons (q _ _ _ h n) n a
theorem gP.app{p:HP}{x:Str}{st:du}(h:S[j]? =some (.dict (namesOf st) (cB st)))(b:j≠p.v):∀{l cX},gP p S l cX->gP p S (l++[.tup [.str x,.ref j]]) (cX++[(x,st)]):=by intro l cX r;induction r with|nil=>exact .cons h b .nil|cons h' n _ a=>exact .cons h' n a
theorem gP.len{p:HP}:∀{l cX},gP p S l cX->l.length=cX.length:=by intro l cX r;induction r with|nil=>rfl|cons _ _ _ a=>exact bA (· +1) a
structure bf (p:HP) (d:Int) (st:du) (cX:List (Str×du)) (S:List C):Prop where
 h:S[p.h]? =some (iC p d)
 t:S[p.t]? =some (vy p)
 r:∃l,S[p.r]? =some (.list l)/\gP p S l cX
 nd:(namesOf st).Nodup
 vs:∃rs,S[p.v]? =some (.dict (namesOf st) (refsOf rs))/\cF S st rs
 tv:p.t≠p.v
structure Fr (p:HP) (S S':List C):Prop where
 len:S.length<=S'.length
 at_:∀(k:Nat) (c:C),S[k]? =some c->k≠p.v->k≠p.r->(c.cls? =none)->S'[k]? =some c
theorem Fr.refl(p:HP)(S:List C):Fr p S S:=⟨cJ _,λ_ _ h _ _ _=>h⟩
theorem Fr.trans{p:HP}(a:Fr p S S')(b:Fr p S' Sv):Fr p S Sv:=⟨aA a.len b.len,λk c h f d e=>b.at_ k c (a.at_ k c h f d e) f d e⟩
theorem cF.mono(q:∀(k:Nat) (w:Int) (y:Str),S[k]? =some (eF "scalar" (.str y) w)->S'[k]? =some (eF "scalar" (.str y) w)):∀{st a},cF S st a->cF S' st a:=by intro st a r;induction r with|nil=>exact .nil|cons h n _ b=>exact .cons (q _ _ _ h) n b
theorem cF.len:∀{st a},cF S st a->(namesOf st).length=(refsOf a).length:=by intro st a r;induction r with|nil=>rfl|cons _ _ _ b=>exact bA (· +1) b
theorem cF.there:∀{st b},cF S st b->∀{k:Nat},k∈b->∃y w,S[k]? =some (eF "scalar" (.str y) w):=by
 intro st b r;induction r with
 |nil=>exact λh=>absurd h jS
 |cons h n _ c=>
  intro k a;refine aQ (nV a) (λd=>?_) (λa=>?_)
  ·clear n a;subst d;exact iX _ _ h
  ·exact c a
noncomputable def iQ:du->Str->Str->du
 |[],x,y=>[(x,y)]
 |a::r,x,y=>match aD a.1 x with
  |true=>(a.1,y)::r
  |false=>a::iQ r x y
theorem jF{x b:Str}{a:Str×Str}{r:du}:
 iQ (a::r) x b=
  match aD (Prod.fst a) x with
  |true=>(Prod.fst a,b)::r
  |false=>a::iQ r x b:=by rfl
theorem cF.Hq{st rs}(n:k∉rs)(q:∀(j:Nat) (w:Int) (y:Str),j≠k->S[j]? =some (eF "scalar" (.str y) w)->S'[j]? =some (eF "scalar" (.str y) w))(r:cF S st rs):cF S' st rs:=by
 induction r with
 |nil=>exact .nil
 |cons h b r a=>exact .cons (q _ _ _ (λe=>n (e▸gJ)) h) b (a (λh=>n (j3 _ h)))
theorem cF.get{x y:Str}:∀{st a},cF S st a->(fieldOf (namesOf st) (refsOf a) x=none/\x∉namesOf st/\iQ st x y=st++[(x,y)]/\∀w,bX (namesOf st) (refsOf a) x w=(namesOf st++[x],refsOf a++[w]))\/
 (∃k,k∈a/\fieldOf (namesOf st) (refsOf a) x=some (.ref k)/\(∃z w,S[k]? =some (eF "scalar" (.str z) w))/\namesOf (iQ st x y)=namesOf st/\∀S' w,S'[k]? =some (eF "scalar" (.str y) w)->(∀(j:Nat) (w:Int) (y:Str),j≠k->S[j]? =some (eF "scalar" (.str y) w)->S'[j]? =some (eF "scalar" (.str y) w))->cF S' (iQ st x y) a):=by
 intro st a o
 induction o with
 |nil=>exact .inl ⟨rfl,jS,rfl,λ_=>rfl⟩
 | @cons m q k w st a h n r l=>
   refine gl λp c=>?_
   cases e:aD m x with
   |true=>
    refine c ?_
    refine .inr ⟨k,.head _,by simp only [namesOf,refsOf,List.map,bO,e],⟨_,_,h⟩,by (simp -iota only [jF,e,namesOf,List.map];rfl),λS' f d b=>?_⟩
    simp only [jF,e]
    exact .cons d n (cF.Hq n b r)
   |false=>
    refine aQ l (λg=>eu g λq1 q0 q2 q3=>?_) (λi=>EM i λj q0 q1 q2 q4 q3=>?_)
    ·clear g
     refine c ?_
     refine .inl ⟨by simp only [namesOf,refsOf,List.map,bO,e];exact q1,λz=>?_,by simp only [jF,e,q2];rfl,λu=>?_⟩
     ·refine aQ (nV z) (λz=>?_) (λz=>?_)
      ·exact dR.mp e z.symm
      ·exact q0 z
     have:=q3 u
     simp only [namesOf,refsOf] at this
     simp -iota only [namesOf,refsOf,List.map,jo,e,this]
     rfl
    ·clear i
     refine c ?_
     refine .inr ⟨j,.tail _ q0,by simp only [namesOf,refsOf,List.map,bO,e];exact q1,q2,by simp -iota only [jF,e];simp only [namesOf,List.map] at q4 |-;exact q4▸rfl,λS' f d b=>?_⟩
     simp -iota only [jF,e]
     exact .cons (b _ _ _ (λz=>n (z▸q0)) h) n (q3 S' f d b)
section
variable {p:HP}{d:Int}{st:du}{x y:Str}
theorem Hr(H:S[p.h]? =some (iC p d)){gt}(h:ls[i]? =some (some (.ref p.h))):Ev cf ls gt (.attr (.loc i q) "vars" q') S (.ref p.v) S:=b8 (af h) (bD H (by trivial))
theorem DD(H:S[p.h]? =some (iC p d))(h:cG (n+1) hd 559 [.ref p.v,.str x] S=some (.ok v,S1)):cG (n+2) hd 609 [.ref p.h,.str x] S=some (.ok v,S1):=by refine bI (ds:=[]) (ls0:=[rF p.h,sF x]) (r:=.ok (.ret v)) (by trivial) (by trivial) (by trivial) Xk (by trivial) ?_;apply Exists.intro;exact Y2 (bQ (aM (x:=("var_in",559)) (aa (Hr H rfl) (aa (af rfl) ag)) (by trivial) h))
theorem oW{w:V}(H:S[p.h]? =some (iC p d))(h:cG (n+1) hd 559 [.ref p.v,.str x] S=some (.ok v,S1))(e:cG (n+1) hd 566 [v,.str "scalar",.str y] S1=some (.ok w,S2)):cG (n+3) hd 637 [.ref p.h,.str x,.str y] S=some (.ok w,S2):=by
 have b:∀(m:Str) a,(di false 697 m)=some a->fieldOf jE [.ref p.t,.ref p.i,.int 40,.none,.int d,.int 0,.int 0,.none,.none,.ref p.v,.ref p.c,.ref p.f] m=Option.none->ng di (.ref p.h) m S=some (a,[.ref p.h]):=λm a e1 e2=>by show ((S[p.h]?.bind C.cls?).bind λq=>match fieldOf q.2.1 q.2.2 m with|some _=>none|none=>(di false q.1 m).map λa=>(a,[V.ref p.h]))=_;rw [H];exact (bA (λo:Option V=>match o with|some _=>none|none=>(di false 697 m).map λa=>(a,[V.ref p.h])) e2).trans (show (di false 697 m).map (λa=>(a,[V.ref p.h]))=_ by rw [e1])
 refine bI (ds:=[]) (ls0:=[rF p.h,sF x,sF y]) (r:=.ok (.ret w)) (by trivial) (by trivial) (by trivial) Xm (by trivial) ?_;apply Exists.intro;refine Y2 (bQ (fv (af rfl) (b "write_var" 623 (by trivial) (by trivial)) (aa (fv (af rfl) (b "place" 609 (by trivial) (by trivial)) (aa (af rfl) ag) (DD H h)) (aa (af rfl) (aa (af rfl) ag))) ?_));show cG (n+2) hd 623 [.ref p.h,v,.str x,.str y] S1=some (.ok w,S2);refine bI (ds:=[]) (ls0:=[rF p.h,some v,sF x,sF y]) (r:=.ok (.ret w)) (by trivial) (by trivial) (by trivial) Xl (by trivial) ?_;apply Exists.intro;exact Y2 (bQ (aM (x:=("put_value",566)) (aa (af rfl) (aa (ao rfl) (aa (af rfl) ag))) (by trivial) e))
theorem cF.app{w:Int}(h:S[k]? =some (eF "scalar" (.str y) w)):∀{st b},k∉b->cF S st b->cF S (st++[(x,y)]) (b++[k]):=by
 intro st b a r;induction r with
 |nil=>exact .cons h jS .nil
 |cons h' n _ c=>
  refine .cons h' (λz=>?_) (c λz=>a (j3 _ z));refine aQ (mem_append.mp z) (λz=>?_) (λz=>?_)
  ·exact n z
  ·replace a:=(mem_singleton.mp z)▸a;exact a gJ
theorem bf.off(H:bf p d st cX S)(a:∀c,S[k]? =some c->∃y w,c=eF "scalar" (.str y) w):k≠p.h/\k≠p.t/\k≠p.r/\k≠p.v:=by
 refine ae H.vs λf hv _=>?_;refine ae H.r λl b _=>?_;refine ⟨λe=>?_,λe=>?_,λe=>?_,λe=>?_⟩<;>subst e
 ·obtain ⟨y,w,e⟩:=a _ H.h;cases e
 ·obtain ⟨y,w,e⟩:=a _ H.t;cases e
 ·obtain ⟨y,w,e⟩:=a _ b;cases e
 ·obtain ⟨y,w,e⟩:=a _ hv;cases e
theorem sK(H:bf p d st cX S)(P:st.length<=1000)(x y:Str):∃S',cG (n+6) hd 637 [.ref p.h,.str x,.str y] S=some (.ok (.str y),S')/\bf p d (iQ st x y) cX S'/\Fr p S S':=by
 refine gl λU A=>?_;refine ae H.vs λo hv q=>?_;refine ae H.r λl u E=>?_;refine aQ (q.get (x:=x) (y:=y)) (λF=>eu F λq1 q0 q2 q3=>?_) (λG=>EM G λk q0 q1 B q2 q3=>?_)
 ·clear F;have L:=q.len;have i:=sJ (n:=n) (hd:=hd) hv L (by simpa [namesOf] using P) q1;rw [q3] at i;have D:=(fx hv)
  have s:((S++[eF "none" (.str "") 0]).set p.v (.dict (namesOf st++[x]) (refsOf o++[.ref S.length])))[S.length]? =some (eF "none" (.str "") 0):=az (aY _ _) (cc D);refine A ?_;refine ⟨_,oW H.h i (oS s),?_,?_⟩
  ·have f:∀{j:Nat} {c:C},S[j]? =some c->j≠p.v->(((S++[eF "none" (.str "") 0]).set p.v (.dict (namesOf st++[x]) (refsOf o++[.ref S.length]))).set S.length (eF "scalar" (.str y) (0+1)))[j]? =some c:=λh g=>
    az (az (aC h _) (cy g)) (g2 (fx h))
   refine ⟨f H.h (aO H.h hv (λe=>C.noConfusion e)),f H.t H.tv,⟨l,f u (aO u hv (λe=>C.noConfusion e)),E.mono λk ks vs e g=>f e g⟩,?_,⟨o++[S.length],?_,?_⟩,H.tv⟩
   ·rw [q2];simp only [namesOf,j7,List.map] at q0 |-;exact nodup_append.mpr ⟨H.nd,by simp,λa T b I e=>by simp at I;clear A f i q3 s q2 q1;subst I;subst e;exact q0 T⟩
   ·rw [q2];refine (az (ca (aC hv _)) (g2 D)).trans ?_;simp only [namesOf,refsOf,j7,List.map]
   ·rw [q2];refine cF.app (ca s) (λz=>?_) (q.mono λk w y e=>f e (aO e hv (λe=>C.noConfusion e)));refine dZ (q.there z) λy w e=>?_;exact lK _ (fx e)
  ·refine ⟨by simp,λk c h i N J=>az (az (aC h _) (cy i)) (g2 (fx h))⟩
 ·clear G;refine dZ B λz w m=>?_;clear B;refine A ?_;refine ⟨_,oW H.h (zR hv q1) (oS m),?_,?_⟩
  ·obtain ⟨O,M,R,K⟩:=H.off λc e=>by rw [m] at e;(replace e:=aw e;subst e);exact iX _ _ rfl
   refine ⟨az H.h O,az H.t M,⟨l,az u R,E.mono λk ks vs e g=>az e (aO m e (λe=>C.noConfusion e))⟩,?_,⟨o,?_,?_⟩,H.tv⟩
   ·rw [q2];exact H.nd
   ·rw [q2];exact az hv K
   ·exact q3 _ _ (ca m) λj w y Q e=>az e (cy Q)
  ·refine ⟨by simp,λj c h i N J=>az h (aO m h (λe=>by clear h;subst e;exact aG (aS J)))⟩
end
set_option genCtorIdx true in
inductive Ec where
 |ab|abcD|none|abc|empty|ba
protected noncomputable def Ec.v:Ec->V
 |.ab=>.tup [.str "A",.str "B"]
 |.abcD=>.str "A {b c}  D"
 |.none=>.tup [.str "NONE"]
 |.abc=>.tup [.str "A",.str "b c"]
 |.empty=>.str ""
 |.ba=>.str "B A"
structure En where
 code:Int
 value:Str
 ec:Ec
 level:Int
 ret:Int
 info:Str
 extra:du
variable {bl:List (Str×En)}{bk:Str->En}
noncomputable def jX(x:Str×Str):V:=.tup [.str x.1,.str x.2]
noncomputable def vz(l:du):V:=.lst (l.map jX)
protected noncomputable def En.v (e:En):V:=.tup [.int e.code,.str e.value,e.ec.v,.int e.level,.int e.ret,.str e.info,vz e.extra]
noncomputable def mw:List Str:=["code","value","errorcode","level","ret","info","is_noted","line","extra"]
protected noncomputable def En.c (e:En):C:=.exc mw [.int e.code,.str e.value,e.ec.v,.int e.level,.int e.ret,.str e.info,.bool false,.int 0,vz e.extra]
theorem zU(n:Nat)(hd:Bool)(S:List C)(c l r:Int)(x:Str)(e:Ec):cG (n+3) hd 84 [.int c,.str x,e.v,.int l,.int r] S=some (.ok (.ref S.length),S++[En.c ⟨c,x,e,l,r,"",[]⟩]):=by cases e<;>trivial
theorem Xn:(zB 51).rest=(dO (.ret (.idx (.attr (.loc 0) "tools") (.loc 1)))):=by trivial
noncomputable def dL.test:dL->Ex
 |.cons (.ifs t _ _ _) _=>t
 |_=>Zx
noncomputable def dL.Rj:dL->Bool
 |.cons s _=>(match s with
  |.ifs _ _ o _=>o.isNil
  |_=>false)
 |.nil=>false
theorem qj{b:dL}{o:ci}{t:Ex}{r:dL}(a:b.Rj=true)(f:b.test=t)(c:b.rest=r)(h:Ev cf ls gt t S (.bool false) S1)(d:aT cf gt r ls S1=o):aT cf gt b ls S=o:=by
 refine gl λg e=>?_;subst f c;cases b with
 |nil=>exact eI a
 |cons s r=>cases s with
  |ifs t x y p=>cases y with
   |nil=>refine e ?_
         exact ah (bF h b0) d
   |cons=>exact eI a
  |_=>exact eI a
section
variable {p:HP}{d:Int}{st:du}{x y:Str}
theorem jh(H:bf p d st cX S){gt}(h:ls[i]? =some (some (.ref p.h))):Ev cf ls gt (.attr (.loc i q) "tools" q') S (.ref p.t) S:=b8 (af h) (bD H.h (by trivial))
theorem Ko(H:bf p d st cX S):cG (n+1) hd 482 [.ref p.h,.str "run"] S=some (.ok (.glob 799),S):=by refine bI (i:=51) (ds:=[]) (ls0:=[rF p.h,sF "run"]) (r:=.ok (.ret (.glob 799))) (by trivial) (by trivial) (by trivial) rfl (by trivial) ?_;apply Exists.intro;refine qj (by trivial) (show _=Ex.cmp .NotIn (.loc 1) (.attr (.loc 0) "tools") o0 by trivial) Xn (aE (af rfl) (jh H rfl) (in_dict (v:=.glob 799) H.t (by trivial))) ?_;exact Y2 (bQ (bB (jh H rfl) (af rfl) (eE H.t (by trivial))))
end
theorem Bs{a:Addr}{b:dL}{r:Rs Fl}{vars:List C}(c:Y8 kinds a=some (.fn i false))(g:(defAt i).Ey vs.length=some ds)
 (d:eX (defAt i).cells S.length (defAt i).aj (vs++ds)=ls0) (f:zB i=b) (j:gn (defAt i) (vs++ds)=vars) (h:∃br,aT (a0 n hd) a9 b ls0 (S++vars)=some (r,br,S')):cG (n+1) hd a vs S=some (N7 r,S'):=by
 refine gl λk e=>?_
 subst d f j
 refine ar h λbr h=>?_
 refine e ?_
 exact Ho c (bC g h)
theorem Xo:(zB 94)=(dO (.ret (.keys true (.attr (.idx (.attr (.fC 1 ⟨704,18,704,22⟩) "vars" ⟨704,18,704,27⟩) (.loc 0 ⟨704,28,704,32⟩) ⟨704,18,704,33⟩) "value" ⟨704,18,704,39⟩) (.attr (.fC 0) "vars") ⟨["name","host"],1,none,[⟨704,44,704,48⟩,⟨704,12,704,16⟩],[0],⟨.function,[(".0",.local),("name",.local),("host",.free)],false,false,[]⟩,none⟩))):=by trivial
theorem Of{k:Bool}(e:gF I ls=some bt)(d:Ev cf ls gt src S v S1)
 (a:v.eJ.bind (λj=>S1[j]?.bind C.gM)=some (ks,vs)) (b:gv (λx=>s0 ([some x]++bt) S1 elt) ks=some l) (c:ble l.length 4000=true):
 Ev cf ls gt (.keys k elt src I q) S (.ref (S1.length+1)) (S1++[.dead,match k with|true=>.dict ks l|false=>.list l]):=by
 rw [Ev,AR,e,bq,d,cP,a];dsimp only;rw [b];dsimp only;rw [c];all_goals rfl
theorem oX:∀{ks:List Str} {vs:List V} {x:Str},x∉ks->fieldOf ks vs x=none
 |[],_,_,_=>rfl
 |k::ks,[],_,_=>rfl
 |k::ks,v::vs,x,h=>by
  have:aD k x=false:=dR.mpr λe=>h (e▸gJ);simp only [bO,this];exact oX λz=>h (j3 _ z)
theorem xz{f:V->Option V}:∀{st a},cF S st a->(namesOf st).Nodup->(∀x k,fieldOf (namesOf st) (refsOf a) x=some (.ref k)->f (.str x)=(match S[k]? with|some (.inst _ _ vs)=>vs[1]? |_=>none))->gv f (namesOf st)=some (cB st):=by
 intro st a r;induction r with
 |nil=>exact λ_ _=>rfl
 | @cons x y k w st a h n r b=>
   intro i q;obtain ⟨j,g⟩:=nodup_cons.mp (show (x::namesOf st).Nodup from i);have e:=q x k (by simp only [namesOf,refsOf,List.map,bO,(be.mpr rfl)]);rw [h] at e;have b:=b g λd l h'=>q d l (by
    have c:aD x d=false:=dR.mpr λz=>by subst z;rw [oX j] at h';exact aG h'
    simp only [namesOf,refsOf,List.map,bO,c];exact h')
   show gv f (x::namesOf st)=_;simp -iota only [Fw,e];rw [show (match some (eF "scalar" (.str y) w) with|some (.inst _ _ vs)=>vs[1]? |_=>none)=some (V.str y) from rfl];rw [bq,b,Option.map];rfl
theorem cF.at_{x:Str}:∀{st a},cF S st a->fieldOf (namesOf st) (refsOf a) x=some (.ref k)->∃y w,S[k]? =some (eF "scalar" (.str y) w):=by
 intro st a r;induction r with
 |nil=>exact λh=>aG h
 | @cons c y d w st a h n r b=>
   intro h';cases e:aD c x with
   |true=>simp only [namesOf,refsOf,List.map,bO,e,Option.some.injEq,V.ref.injEq] at h';clear b;subst h';exact iX _ _ h
   |false=>simp only [namesOf,refsOf,List.map,bO,e] at h';exact b h'
section
variable {p:HP}{d:Int}{st:du}{x y:Str}
theorem bf.push(H:bf p d st cX S)(T:List C):bf p d st cX (S++T):=by refine gl λi c=>?_;refine ae H.vs λf hv b=>?_;refine ae H.r λl a g=>?_;refine c ?_;exact ⟨aC H.h T,aC H.t T,⟨l,aC a T,g.mono λ_ _ _ e _=>aC e T⟩,H.nd,⟨f,aC hv T,b.mono λ_ _ _ e=>aC e T⟩,H.tv⟩
theorem Fr.push(p:HP)(S T:List C):Fr p S (S++T):=⟨by simp,λ_ _ h _ _ _=>aC h T⟩
theorem un(H:bf p d st cX S)(o:st.length<=1000):cG (n+1) hd 792 [.ref p.h] S=some (.ok (.ref (S.length+2)),S++[.var (some (.ref p.h)),.dead,.dict (namesOf st) (cB st)]):=by
 refine gl λm l=>?_;refine ae H.vs λc hv f=>?_;have j:=H.push [.var (some (.ref p.h))];refine l ?_;refine Bs (ds:=[]) (ls0:=[rF S.length]) (vars:=[.var (some (.ref p.h))]) (r:=.ok (.ret (.ref (S.length+2)))) (by trivial) (by trivial) (by trivial) Xo (by trivial) ?_;have g:ou (some (.ref S.length)) (S++[.var (some (.ref p.h))])=some (.ok (.ref p.h),S++[.var (some (.ref p.h))]):=by simp only [na,aY]
 have i:=aC hv [.var (some (.ref p.h))];have a:=Of (cf:=a0 n hd) (ls:=[rF S.length]) (gt:=a9) (k:=true) (elt:=.attr (.idx (.attr (.fC 1) "vars") (.loc 0)) "value" o0) (I:=⟨["name","host"],1,none,[⟨704,44,704,48⟩,⟨704,12,704,16⟩],[0],⟨.function,[(".0",.local),("name",.local),("host",.free)],false,false,[]⟩,none⟩) (q:=o0) (bt:=[rF S.length]) (v:=.ref p.v) (vs:=refsOf c) (src:=.attr (.fC 0) "vars" o0) rfl (b8 (by show ou _ _=_;exact g) (bD j.h (by trivial))) (by simp only [V.fQ,bq,i,C.EV]) (xz f H.nd λx k e=>?_) (fA (by simp [cB];exact aA ‹_› (by decide)))
 ·apply Exists.intro;refine Y2 (bQ ?_);simp only [de,cT,dQ,ff,mK,nil_append] at a;exact a
 ·skip;refine dZ (f.at_ e) λy w b=>?_;rw [wD,JK,wD,JL,(show ou (([some (V.str x)]++[rF S.length])[1]?.bind id) (S++[.var (some (.ref p.h))])=some (.ok (.ref p.h),S++[.var (some (.ref p.h))]) from g)];show (((fE (.ref p.h) "vars" (S++[.var (some (.ref p.h))])).bind λz=>(some (.str x):Option V).bind λy=>y.fg.bind λt=>z.eJ.bind λk=>((S++[.var (some (.ref p.h))])[k]?.bind C.gM).bind λp=>fieldOf p.1 p.2 t).bind λz=>fE z "value" (S++[.var (some (.ref p.h))]))=_;rw [(show fE (.ref p.h) "vars" (S++[.var (some (.ref p.h))])=some (.ref p.v) from bD j.h (by trivial))];show (((S++[.var (some (.ref p.h))])[p.v]?.bind C.gM).bind λp=>fieldOf p.1 p.2 x).bind _=_;rw [i];show ((fieldOf (namesOf st) (refsOf c) x).bind λx=>fE x "value" (S++[.var (some (.ref p.h))]))=_;rw [e,b];exact bD (aC b _) (by trivial)
end
section
variable {w:V}{a b:Int}
theorem append_at(h:S[k]? =some (.list l))(b:l.length<=1000):rL .append (.ref k) S=true/\i9 .append (.ref k) [v] S=some (.none,S.set k (.list (l++[v]))):=by
 have a:gc (.ref k) S=some (k,l):=by (simp -iota only [gc,V.fQ,bq,h,C.v8,Option.map];rfl)
 refine ⟨by simp -iota only [rL,a];rfl,?_⟩;simp -iota only [Fi,a,bq,AF,fA (show l.length<=65536 by exact aA ‹_› (by decide))];rfl
theorem ji(h:a=b):eg .Eq (.int a) (.int b) S=some true:=by show some (decide (a=b))=_;rw [cQ h]
theorem fW(h:a≠b):eg .Eq (.int a) (.int b) S=some false:=by exact (df h)▸rfl
theorem Kp(h:l.length<=1000):uO hd .list (.lst l) S=some (.lst l,S):=by show (match (match ble l.length 65536 with|true=>some (V.lst l)|false=>none) with|some w=>some (w,S)|none=>_)=_;rw [fA (by exact aA ‹_› (by decide))]
theorem uo{gt}{n:Str}(h:Ev cf ls gt e S (.ref k) S')(a:ms (.ref k) v n S'=some S1):oJ cf gt (.attr e n q) v ls S=some (ls,S1):=by show (match ev cf ls gt e S with|some (.ok o,S)=>(ms o v n S).map λS=>(ls,S)|_=>none)=_;rw [show ev cf ls gt e S=some (.ok (.ref k),S') from h];show (ms (.ref k) v n S').map _=_;rw [a];rfl
theorem DE{gt}{n m:Str}{t:Nat×Pos}(h:Ev cf ls gt e S (.ref k) S)(c:ms (.ref k) v n S=some S1)(a:Ev cf ls gt e1 S1 (.ref k) S1)(b:ms (.ref k) w m S1=some S2):nq cf gt ⟨[.attr e n q,.attr e1 m q'],some t⟩ none (.tup [v,w]) ls S=some (ls,S2):=by show (oJ cf gt (.attr e n q) v ls S).bind (λr=>(oJ cf gt (.attr e1 m q') w r.1 r.2).bind λr=>some (r.1,r.2))=_;rw [uo h c];show (oJ cf gt (.attr e1 m q') w ls S1).bind _=_;rw [uo a b];rfl
end
noncomputable def uq(p:HP)(st:du):List C:=[.var (some (.ref p.h)),.dead,.dict (namesOf st) (cB st)]
theorem VN:(zB 95)=(.cons (.exp (.eB (.idx (.attr (.loc 0) "tools") (.cst (.str "ran"))) .append o0 (cN (.tup (cA (.loc 1) (.call 57 o0 (cN (.loc 0)))))))) (.cons (.asg ⟨[.loc 2,.loc 3,.loc 4,.loc 5,.loc 6,.loc 7,.loc 8],some (0,o0)⟩ none (.idx (.idx (.attr (.loc 0) "tools") (.cst (.str "book"))) (.loc 1))) (yj (.ifs (.cmp .Eq (.loc 2) (.cst (.int 0))) (dO (.ret (.loc 3))) .nil) (.asg ⟨[.loc 9],none⟩ none (.call 0 o0 (.cons (.loc 2) (qR (.loc 3) (.loc 4) (.loc 5) (.loc 6))))) (.asg ⟨[.attr (.loc 9) "info",.attr (.loc 9) "extra"],some (0,o0)⟩ none (.tup (cA (.loc 7) (.bi .list o0 (.loc 8))))) (.s8 (.loc 9))))):=by trivial
section
variable {p:HP}{d:Int}{st:du}{x y:Str}{bk:List Str}{bv:List V}{e:En}
theorem Hs(H:bf p d st cX S)(b:S[p.r]? =some (.list l))(n:gP p S l cX):bf p d st (cX++[(x,st)]) ((S++(uq p st)).set p.r (.list (l++[.tup [.str x,.ref (S.length+2)]])))/\Fr p S ((S++(uq p st)).set p.r (.list (l++[.tup [.str x,.ref (S.length+2)]]))):=by
 refine gl λs q=>?_;refine ae H.vs λi hv m=>?_;have a:∀{j:Nat} {c:C},S[j]? =some c->j≠p.r->((S++(uq p st)).set p.r (.list (l++[.tup [.str x,.ref (S.length+2)]])))[j]? =some c:=λh f=>az (aC h _) (cy f);have g:∀{j:Nat} {ks vs},S[j]? =some (.dict ks vs)->((S++(uq p st)).set p.r (.list (l++[.tup [.str x,.ref (S.length+2)]])))[j]? =some (.dict ks vs):=λh=>a h (aO h b (λe=>C.noConfusion e));have v:=(fx b)
 have u:=(fx hv)
 refine q ?_;refine ⟨⟨a H.h (aO H.h b (λe=>C.noConfusion e)),a H.t (aO H.t b (λe=>C.noConfusion e)),⟨_,ca (aC b _),gP.app ?_ ?_ (n.mono λk ks vs e _=>g e)⟩,H.nd,⟨i,g hv,m.mono λk w y e=>a e (aO e b (λe=>C.noConfusion e))⟩,H.tv⟩,by simp,λk c h A o z=>a h o⟩
 ·rw [j4 (cc (fw ‹_› (bY _ _))),eO (bY _ _),tz];rfl
 ·exact g2 (fw ‹_› (bY _ _))
noncomputable abbrev xA(n:Nat)(S:List C)(p:HP)(d:Int)(st:du)(cX:List (Str×du))(x:Str)(e:En):Prop:=∃S',bf p d st (cX++[(x,st)]) S'/\Fr p S S'/\((e.code=0/\cG (n+4) false 799 [.ref p.h,.str x] S=some (.ok (.str e.value),S'))\/(e.code≠0/\∃k,S.length<=k/\S'[k]? =some e.c/\cG (n+4) false 799 [.ref p.h,.str x] S=some (.exc k,S')))
theorem zV(H:bf p d st cX S)(G:st.length<=1000)(I:cX.length<=1000)(y:S[p.b]? =some (.dict bk bv))(B:fieldOf bk bv x=some e.v)(j:e.extra.length<=1000):xA n S p d st cX x e:=by
 refine gl λK F=>?_;refine ae H.r λl f u=>?_;refine aq (Hs (x:=x) H f u) λa i=>?_;refine F ?_;have m:l.length<=1000:=by rw [u.len];exact I
 refine aq (append_at (v:=.tup [.str x,.ref (S.length+2)]) (aC f (uq p st)) m) λM J=>?_;generalize D:((S++(uq p st)).set p.r (.list (l++[.tup [.str x,.ref (S.length+2)]])))=S1 at *;have E:S1[p.b]? =some (.dict bk bv):=by rw [<-D];exact az (aC y _) (cy (aO y f (λe=>C.noConfusion e)))
 have k:∀{cf:CF},cf=a0 (n+3) false->∀{q1 q2 q3 q4 q5 q6 q7 z s o:Pos},Nx cf a9 (.exp (.eB (.idx (.attr (.loc 0 q1) "tools" q2) (.cst (.str "ran") 0 q3) q4) .append q5 (cN (.tup (cA (.loc 1 q6) (.call 57 q7 (cN (.loc 0 z)) s)) 0 o)))) [rF p.h,sF x,nF,nF,nF,nF,nF,nF,nF,nF] S [rF p.h,sF x,nF,nF,nF,nF,nF,nF,nF,nF] S1:=by rintro cf rfl q1 q2 q3 q4 q5 q6 q7 z s o;refine fV (iO (bB (jh H rfl) (ao rfl) (eE H.t (by trivial))) (append_at f m (v:=.none)).1 (aa (cV (aa (af rfl) (aa (aM (x:=("_law_stands",792)) (aa (af rfl) ag) (by trivial) (un (n:=n+2) H G)) ag)) rfl) ag) J)
 have q:Ev (a0 (n+3) false) [rF p.h,sF x,nF,nF,nF,nF,nF,nF,nF,nF] a9 (.idx (.idx (.attr (.loc 0) "tools") (.cst (.str "book"))) (.loc 1)) S1 e.v S1:=
  bB (bB (jh a rfl) (ao rfl) (eE a.t (by trivial))) (af rfl) (eE E B)
 by_cases g:e.code=0
 ·refine ⟨S1,a,i,.inl ⟨g,?_⟩⟩;refine bI (ds:=[]) (ls0:=[rF p.h,sF x,nF,nF,nF,nF,nF,nF,nF,nF]) (r:=.ok (.ret (.str e.value))) (by trivial) (by trivial) (by trivial) VN (by trivial) ?_;apply Exists.intro;refine ah (k rfl) (ah (aI q rfl) ?_);exact eD (cn (aE (af rfl) (ao rfl) (ji g)) (Y2 (bQ (af rfl)))) trivial
 ·have w:(S1++[En.c ⟨e.code,e.value,e.ec,e.level,e.ret,"",[]⟩])[S1.length]? =some (En.c ⟨e.code,e.value,e.ec,e.level,e.ret,"",[]⟩):=aY _ _;have A:=ca (c':=En.c ⟨e.code,e.value,e.ec,e.level,e.ret,e.info,[]⟩) w;have L:=ca (c':=En.c e) A;refine ⟨S1++[En.c e],(a.push _),i.trans (Fr.push _ _ _),.inr ⟨g,S1.length,i.len,aY _ _,?_⟩⟩;refine bI (ds:=[]) (ls0:=[rF p.h,sF x,nF,nF,nF,nF,nF,nF,nF,nF]) (r:=.exc S1.length) (by trivial) (by trivial) (by trivial) VN (by trivial) ?_;apply Exists.intro;refine ah (k rfl) (ah (aI q (ls2:=[rF p.h,sF x,iF e.code,sF e.value,some e.ec.v,iF e.level,iF e.ret,sF e.info,some (vz e.extra),nF]) rfl) ?_);refine ah (bF (aE (af rfl) (ao rfl) (fW g)) b0) ?_;refine ah (aI (aM (x:=("Raised",84)) (aa (af rfl) (aa (af rfl) (aa (af rfl) (aa (af rfl) (aa (af rfl) ag))))) (by trivial) (zU n false S1 e.code e.level e.ret e.value e.ec)) aU) ?_;refine ah (aI (cV (aa (af rfl) (aa (hU (af rfl) (Kp (by simpa using j))) ag)) rfl) (DE (af rfl) (xx w (by trivial) (by trivial)) (af rfl) (xx A (by trivial) (c':=En.c e) (by trivial)))) ?_;rw [(show ((S1++[En.c ⟨e.code,e.value,e.ec,e.level,e.ret,"",[]⟩]).set S1.length (En.c ⟨e.code,e.value,e.ec,e.level,e.ret,e.info,[]⟩)).set S1.length (En.c e)=S1++[En.c e] from by simp)];refine Y2 (Br rfl (af rfl) ?_);(delta eV;simp only [aY,bq]);rfl
end
noncomputable abbrev Rn:dL:=dO (.Ba (dO (.ret (.ja 2 o0 (cA (.loc 0) (.loc 1))))) (dO (.kM (.loc 0) "depth" o0 .Sub (.cst (.int 1)))))
theorem Xq:(zB 54).rest=(.cons (.asg ⟨[.loc 2],none⟩ none (.ez (.loc 0) "tool" o0 (cN (.cst (.str "run"))))) (.cons (.kM (.loc 0) "depth" o0 .Add (.cst (.int 1))) Rn)):=by trivial
section
variable {p:HP}{d:Int}{st:du}{x y:Str}{bk:List Str}{bv:List V}{e:En}
theorem bf.depth(H:bf p d st cX S)(b:Int):bf p b st cX (S.set p.h (iC p b))/\Fr p S (S.set p.h (iC p b)):=by
 refine gl λq n=>?_;refine ae H.vs λg hv k=>?_;refine ae H.r λl i m=>?_;have a:∀{j:Nat} {c:C},S[j]? =some c->(∀d,c=iC p d->False)->(S.set p.h (iC p b))[j]? =some c:=λh f=>az h (aO H.h h λe=>f d e.symm);refine n ?_;exact ⟨⟨ca H.h,a H.t (λ_ e=>C.noConfusion e),⟨l,a i (λ_ e=>C.noConfusion e),m.mono λ_ _ _ e _=>a e (λ_ e=>C.noConfusion e)⟩,H.nd,⟨g,a hv (λ_ e=>C.noConfusion e),k.mono λ_ _ _ e=>a e (λ_ e=>by (delta eF iC at e;simp only [C.inst.injEq] at e);exact absurd e.1 (by decide))⟩,H.tv⟩,
  by simp,λj c h _ _ o=>a h λd e=>by clear h;subst e;exact aG (aS o)⟩
theorem gA(H:bf p d st cX S){m:Str}{a:Addr}(e1:di false 697 m=some a)(e2:isIn jE m=false):ng di (.ref p.h) m S=some (a,[.ref p.h]):=by
 have e:fieldOf jE [.ref p.t,.ref p.i,.int 40,.none,.int d,.int 0,.int 0,.none,.none,.ref p.v,.ref p.c,.ref p.f] m=Option.none:=oX λh=>by unfold isIn at e2;rw [List.any_eq_false] at e2;exact e2 m h (be.mpr rfl)
 have b:(Option.bind (V.eJ (.ref p.h)) λk=>Option.bind S[k]? C.cls?)=some (697,jE,[.ref p.t,.ref p.i,.int 40,.none,.int d,.int 0,.int 0,.none,.none,.ref p.v,.ref p.c,.ref p.f]):=by rw [V.fQ,bq,H.h];rfl
 rw [rK,show V.AJ (.ref p.h)=none from rfl];dsimp only;rw [b,bq];dsimp only;rw [e];dsimp only;rw [e1];rfl
theorem Ht(H:bf p 0 st cX S)(K:st.length<=1000)(L:cX.length<=1000)(z:S[p.b]? =some (.dict bk bv))(B:fieldOf bk bv x=some e.v)(j:e.extra.length<=1000):
 ∃S',bf p 0 st (cX++[(x,st)]) S'/\Fr p S S'/\((e.code=0/\cG (n+5) false 503 [.ref p.h,.str x] S=some (.ok (.str e.value),S'))\/(e.code≠0/\∃k,S.length<=k/\S'[k]? =some e.c/\cG (n+5) false 503 [.ref p.h,.str x] S=some (.exc k,S'))):=by
 refine gl λM J=>?_
 refine aq (H.depth 1) λD u=>?_
 refine bc (zV (n:=n) D K L (az z (aO H.h z (λe=>C.noConfusion e))) B j) λS2 g F d=>?_
 refine aq (g.depth 0) λA G=>?_
 refine J ?_
 refine ⟨_,A,(u.trans F).trans G,?_⟩
 have E:Ev (a0 (n+4) false) [rF p.h,sF x,nF] a9 (.cmp .GtE (.attr (.loc 0) "depth") (.attr (.loc 0) "limit")) S (.bool false) S:=
  aE (b8 (af rfl) (bD (v:=.int 0) H.h (by trivial))) (b8 (af rfl) (bD (v:=.int 40) H.h (by trivial))) rfl
 have l:∀{q1 q2 q3 q4:Pos} {hd:Bool},Nx (a0 (n+4) hd) a9 (.kM (.loc 0 q1) "depth" q2 .Add (.cst (.int 1) 0 q3) q4) [rF p.h,sF x,some (.glob 799)] S [rF p.h,sF x,some (.glob 799)] (S.set p.h (iC p 1)):=
  zN (af rfl) (bD (v:=.int 0) H.h (by trivial)) (ao rfl) (v:=.int 1) rfl (gW H.h (by trivial) (by trivial))
 have f:∀{q1 q2 q3 q4:Pos} {hd:Bool},Nx (a0 (n+4) hd) a9 (.kM (.loc 0 q1) "depth" q2 .Sub (.cst (.int 1) 0 q3) q4) [rF p.h,sF x,some (.glob 799)] S2 [rF p.h,sF x,some (.glob 799)] (S2.set p.h (iC p 0)):=
  zN (af rfl) (bD (v:=.int 1) g.h (by trivial)) (ao rfl) (v:=.int 0) rfl (gW g.h (by trivial) (by trivial))
 have pre:∀{o:ci},aT (a0 (n+4) false) a9 Rn [rF p.h,sF x,some (.glob 799)] (S.set p.h (iC p 1))=o->aT (a0 (n+4) false) a9 (zB 54) [rF p.h,sF x,nF] S=o:=λh=>
  qj (by trivial) (by trivial) Xq E (ah (aI (fv (af rfl) (gA H (a:=482) (by trivial) (by trivial)) (aa (ao rfl) ag) (Ko (n:=n+3) H)) aU) (ah l h))
 refine aQ d (λw=>aq w λm d=>?_) (λy=>aq y λm s=>?_)
 ·clear w
  refine .inl ⟨m,?_⟩
  refine bI (i:=54) (ds:=[]) (ls0:=[rF p.h,sF x,nF]) (r:=.ok (.ret (.str e.value))) (by trivial) (by trivial) (by trivial) rfl (by trivial) ?_
  apply Exists.intro
  exact pre (Y2 (Hn (Y2 (bQ (Bp rfl (aa (af rfl) (aa (af rfl) ag)) d))) (Y2 f)))
 ·clear y;refine bc s λk I q d=>?_;clear s
  have t:(S2.set p.h (iC p 0))[k]? =some e.c:=az q (aO g.h q (λe=>C.noConfusion e))
  refine .inr ⟨m,k,aA u.len I,t,?_⟩
  refine bI (i:=54) (ds:=[]) (ls0:=[rF p.h,sF x,nF]) (r:=.exc k) (by trivial) (by trivial) (by trivial) rfl (by trivial) ?_
  apply Exists.intro
  refine pre (Y2 (Km rfl (Y2 (zL (Bp rfl (aa (af rfl) (aa (af rfl) ag)) d))) (Y2 f) ?_))
  (delta eV;simp only [t,bq]);rfl
end
protected noncomputable def Ec.t:Ec->Str
 |.ab=>"A B"
 |.abcD=>"A {b c}  D"
 |.none=>"NONE"
 |.abc=>"A {b c}"
 |.empty=>""
 |.ba=>"B A"
noncomputable def En.ge(e:En):Str:=match aD e.info "" with
 |true=>e.value
 |false=>e.info
noncomputable def En.d0(e:En)(st:du):du:=match decide (e.code=1) with
 |true=>iQ (iQ st "::errorInfo" e.ge) "::errorCode" e.ec.t
 |false=>st
theorem jG(n:Nat)(hd:Bool)(S:List C)(e:Ec):cG (n+7) hd 322 [e.v] S=some (.ok (.str e.t),S):=by
 have h:cG (n+7) hd 322 [e.v] S=some (.ok (.str e.t),match e with|.abcD=>S++[]|.empty=>S++[]|.ba=>S++[]|_=>S++[]++[]):=by cases e<;>trivial
 rw [h];clear h;cases e<;>simp
theorem Xr:(zB 32)=(nE (.ifs (.cmp .Eq (.attr (.loc 0) "info") (.cst (.str ""))) (dO (.ret (.attr (.loc 0) "value"))) .nil) (.ret (.attr (.loc 0) "info"))):=by trivial
theorem Xs:(zB 35)=(dO (.wS (dO (.exp (.ez (.loc 0) "write" o0 Hp))) 0 o0 none (.cons (.va) .nil))):=by trivial
theorem VO:(zB 36)=(dO (.ifs (.cmp .Eq (.attr (.loc 1) "code") (.cst (.int 1))) (nE (.exp (.call 24 o0 (xy (.loc 0) (.cst (.str "::errorInfo")) (.call 21 o0 (cN (.loc 1)))))) (.exp (.call 24 o0 (xy (.loc 0) (.cst (.str "::errorCode")) (.call 20 o0 (cN (.attr (.loc 1) "errorcode"))))))) .nil)):=by trivial
theorem VP:(zB 37)=(dO (.wS (dO (.ret (.tup (cA (.ez (.loc 0) "run" o0 (cN (.loc 1))) (.cst .none))))) 0 o0 (some 2) (nE (.exp (.call 25 o0 (cA (.loc 0) (.loc 2)))) (.ret (.tup (cA (.attr (.loc 2) "value") (.loc 2))))))):=by trivial
section
variable {e2:Ex}{w:V}{m:Nat}
theorem oY(a:ev cf ls gt e1 S=some (.exc k,S1)):hM cf ls gt (.cons e1 es) S=some (.exc k,S1):=by simp only [rM,a,Fs]
theorem zW(a:hM cf ls gt es S=some (.exc k,S1)):ev cf ls gt (.tup es m q) S=some (.exc k,S1):=by (simp -iota only [yO,a];rfl)
theorem Hu{x y:Str}(h:aD x y=c):eg .Eq (.str x) (.str y) S=some c:=by subst h;rfl
end
section
variable {p:HP}{d:Int}{st:du}{x y:Str}{bk:List Str}{bv:List V}{e:En}
theorem sL(h:S[k]? =some e.c):cG (n+1) hd 329 [.ref k] S=some (.ok (.str e.ge),S):=by
 refine bI (ds:=[]) (ls0:=[rF k]) (r:=.ok (.ret (.str e.ge))) (by trivial) (by trivial) (by trivial) Xr (by trivial) ?_;apply Exists.intro;have a:Ev (a0 n hd) [rF k] a9 (.attr (.loc 0) "info") S (.str e.info) S:=b8 (af rfl) (bD h (by trivial));unfold En.ge;cases b:aD e.info "" with
 |true=>exact eD (cn (aE a (ao rfl) (Hu b)) (Y2 (bQ (b8 (af rfl) (bD h (by trivial)))))) trivial
 |false=>exact ah (bF (aE a (ao rfl) (Hu b)) b0) (Y2 (bQ (b8 (af rfl) (bD h (by trivial)))))
theorem MQ(H:bf p d st cX S)(f:st.length<=1000)(x y:Str):∃S',cG (n+7) hd 350 [.ref p.h,.str x,.str y] S=some (.ok .none,S')/\bf p d (iQ st x y) cX S'/\Fr p S S':=by refine bc (sK (n:=n) (hd:=hd) H f x y) λS' e b c=>?_;refine ⟨S',?_,b,c⟩;refine bI (ds:=[]) (ls0:=[rF p.h,sF x,sF y]) (r:=.ok .cY) (by trivial) (by trivial) (by trivial) Xs (by trivial) ?_;apply Exists.intro;exact Y2 (nD (Y2 (fV (fv (af rfl) (gA H (a:=637) (by trivial) (by trivial)) (aa (af rfl) (aa (af rfl) ag)) e))))
theorem fq:∀(st:du),(iQ st x y).length<=st.length+1:=by
 intro c;induction c with
 |nil=>exact cJ _
 |cons a r b=>
  simp -iota only [jF];(cases _:aD (Prod.fst a) x;rotate_left)
  ·simp
  ·simpa using b
theorem bf.Hv(H:bf p d st cX S)(h:S[k]? =some e.c):k≠p.v/\k≠p.r:=by refine gl λg b=>?_;refine ae H.vs λi hv f=>?_;refine ae H.r λl a j=>?_;refine b ?_;exact ⟨aO h hv (λe=>C.noConfusion e),aO h a (λe=>C.noConfusion e)⟩
theorem Fr.exc(F:Fr p S S')(H:bf p d st cX S)(h:S[k]? =some e.c):S'[k]? =some e.c:=F.at_ k _ h (H.Hv h).1 (H.Hv h).2 rfl
theorem Bt(H:bf p d st cX S)(s:st.length<=900)(h:S[k]? =some e.c):∃S',cG (n+8) hd 357 [.ref p.h,.ref k] S=some (.ok .none,S')/\bf p d (e.d0 st) cX S'/\Fr p S S':=by
 have f:Ev (a0 (n+7) hd) [rF p.h,rF k] a9 (.attr (.loc 1) "code") S (.int e.code) S:=b8 (af rfl) (bD h (by trivial));unfold En.d0;by_cases a:e.code=1
 ·rw [cQ a];refine gl λq l=>?_;refine bc (MQ (n:=n) (hd:=hd) H (aA ‹_› (by decide)) "::errorInfo" e.ge) λS1 i o b=>?_;refine bc (MQ (n:=n) (hd:=hd) o (aA (fq st) (fw (hY ‹_›) (by decide))) "::errorCode" e.ec.t) λS2 g j m=>?_;refine l ?_;refine ⟨S2,?_,j,b.trans m⟩;refine bI (ds:=[]) (ls0:=[rF p.h,rF k]) (r:=.ok .cY) (by trivial) (by trivial) (by trivial) VO (by trivial) ?_;apply Exists.intro;refine Y2 (ls1:=[rF p.h,rF k]) (cn (aE f (ao rfl) (ji a)) (ah (fV (aM (x:=("write_quietly",350)) (aa (af rfl) (aa (ao rfl) (aa (aM (x:=("info_of",329)) (aa (af rfl) ag) (by trivial) (sL (n:=n+6) h)) ag))) (by trivial) i)) ?_));exact Y2 (fV (aM (x:=("write_quietly",350)) (aa (af rfl) (aa (ao rfl) (aa (aM (x:=("code_text",322)) (aa (b8 (af rfl) (bD (b.exc H h) (by trivial))) ag) (by trivial) (jG n hd S1 e.ec)) ag))) (by trivial) g))
 ·rw [df a];refine ⟨S,?_,H,.refl p S⟩;refine bI (ds:=[]) (ls0:=[rF p.h,rF k]) (r:=.ok .cY) (by trivial) (by trivial) (by trivial) VO (by trivial) ?_;apply Exists.intro;exact Y2 (bF (aE f (ao rfl) (fW a)) b0)
theorem xB(H:bf p 0 st cX S)(A:st.length<=900)(C:cX.length<=1000)(z:S[p.b]? =some (.dict bk bv))(w:fieldOf bk bv x=some e.v)(i:e.extra.length<=1000):
 ∃S',bf p 0 (e.d0 st) (cX++[(x,st)]) S'/\Fr p S S'/\((e.code=0/\cG (n+9) false 364 [.ref p.h,.str x] S=some (.ok (.tup [.str e.value,.none]),S'))\/(e.code≠0/\∃k,S.length<=k/\S'[k]? =some e.c/\cG (n+9) false 364 [.ref p.h,.str x] S=some (.ok (.tup [.str e.value,.ref k]),S'))):=by
 refine gl λE t=>?_
 refine bc (Ht (n:=n+3) H (aA ‹_› (by decide)) C z w i) λS1 g o d=>?_
 refine aQ d (λq=>aq q λf d=>?_) (λs=>aq s λf l=>?_)
 ·clear q
  refine t ?_
  refine ⟨S1,?_,o,.inl ⟨f,?_⟩⟩
  ·unfold En.d0
   rw [df (by refine f▸?_;decide)];exact g
  ·refine bI (ds:=[]) (ls0:=[rF p.h,sF x,nF]) (r:=.ok (.ret (.tup [.str e.value,.none]))) (by trivial) (by trivial) (by trivial) VP (by trivial) ?_
   apply Exists.intro
   exact Y2 (nD (Y2 (bQ (cV (aa (fv (af rfl) (gA H (a:=503) (by trivial) (by trivial)) (aa (af rfl) ag) d) (aa (ao rfl) ag)) rfl))))
 ·clear s;refine bc l λk y j d=>?_;clear l
  refine bc (Bt (n:=n) (hd:=true) g A j) λS2 B D u=>?_
  have m:=u.exc g j
  refine t ?_
  refine ⟨S2,D,o.trans u,.inr ⟨f,k,y,m,?_⟩⟩
  refine bI (ds:=[]) (ls0:=[rF p.h,sF x,nF]) (r:=.ok (.ret (.tup [.str e.value,.ref k]))) (by trivial) (by trivial) (by trivial) VP (by trivial) ?_
  apply Exists.intro
  refine Y2 (vw (ls2:=[rF p.h,sF x,rF k]) rfl (Y2 (zL (zW (oY (fv (af rfl) (gA H (a:=503) (by trivial) (by trivial)) (aa (af rfl) ag) d))))) ?_)
  refine ah (fV (aM (x:=("note_caught",357)) (aa (af rfl) (aa (af rfl) ag)) (by trivial) B)) ?_
  exact Y2 (bQ (cV (aa (b8 (af rfl) (bD m (by trivial))) (aa (af rfl) ag)) rfl))
end
section
variable {ls1 ls2:bW}{w u:V}{o:ci}{bb:dL}{m:Fm}{c:C}
theorem ur(b:S[k]? =some (.iter (.seq v i)))(hs:gu S v=some l)(a:l[i]? =some w):qg false S k=some (some (w,.iter (.seq v (i+1)))):=by rw [jd,b,bq,C.nf];dsimp only;rw [g5,hs];dsimp only;rw [a];rfl
theorem jH(c:S[k]? =some (.iter (.seq v i)))(hs:gu S v=some l)(a:l[i]? =some w)(d:pt w ls (S.set k (.iter (.seq v (i+1))))=some (ls1,S1))(e:b ls1 S1=some (.ok .cY,ls2,S2))(h:fk b pt false k n ls2 S2=o):fk b pt false k (n+1) ls S=o:=by simp -iota only [gx,ur c hs a,bq];dsimp only;simp -iota only [bq,d,e,lj,h]
theorem DF(c:S[k]? =some (.iter (.seq v i)))(hs:gu S v=some l)(a:l[i]? =some w)(d:pt w ls (S.set k (.iter (.seq v (i+1))))=some (ls1,S1))(e:b ls1 S1=some (.ok (.ret u),ls2,S2)):fk b pt false k (n+1) ls S=some (.ok (.ret u),ls2,S2):=by simp -iota only [gx,ur c hs a,bq];dsimp only;simp -iota only [bq,d,e,vb]
theorem lm(c:S[k]? =some (.iter (.seq v i)))(hs:gu S v=some l)(a:l[i]? =none):fk b pt false k (n+1) ls S=some (.ok .cY,ls,S.set k .dead):=by rw [gx,jd,c,bq,C.nf];dsimp only;rw [g5,hs];dsimp only;rw [a];rfl
theorem vB(h:Ev cf ls gt e S v S1)(b:J5 m v S1=some c)(a:fk (λls S=>aT cf gt bb ls S) (λv ls S=>jc cf gt T v ls S) m.en S1.length cf.N ls (S1++[c])=o):gC cf gt (.fr T m e bb q) ls S=o:=by simp only [GH,h,ju,b,bq,a]
theorem sM(S:List C)(c c':C):(S++[c]).set S.length c'=S++[c']:=by simp
end
structure Ha where
 code:Int
 begun:List Str
 names:List Str
 aB:Str
variable {cs:List (List Str×Ha)}{hs:List Ha}
noncomputable def aX(l:List Str):V:=.lst (l.map .str)
protected noncomputable def Ha.v (h:Ha):V:=.tup [.int h.code,aX h.begun,aX h.names,.str h.aB]
protected noncomputable def Ec.l:Ec->List Str
 |.ab=>["A","B"]
 |.abcD=>["A","b c","D"]
 |.none=>["NONE"]
 |.abc=>["A","b c"]
 |.empty=>[]
 |.ba=>["B","A"]
noncomputable def vC:List Str->List Str->Bool
 |[],_=>true
 |_::_,[]=>false
 |a::r,b::s=>aD a b&&vC r s
noncomputable def dT(h:Ha)(e:En):Bool:=decide (h.code=e.code)&&(!decide (e.code=1)||vC h.begun e.ec.l)
noncomputable def bU(e:En):Bool->List Ha->Option Ha
 |_,[]=>none
 |found,h::r=>match (found||dT h e)&& !aD h.aB "-" with
  |true=>some h
  |false=>bU e (found||dT h e) r
theorem xC{e:En}{x:Bool}:bU e x []=none:=by rfl
theorem dk{e:En}{x:Bool}{h:Ha}{r:List Ha}:
 bU e x (h::r)=
  match (x||dT h e)&& !aD (Ha.aB h) (Str.ofString "-") with
  |true=>some h
  |false=>bU e (x||dT h e) r:=by rfl
noncomputable def hG(S:List C)(v:V)(e:En):Prop:=(v=.none/\e.code=0)\/∃k,v=.ref k/\e.code≠0/\S[k]? =some e.c
theorem hG.push{e:En}(h:hG S v e)(T:List C):hG (S++T) v e:=h.imp id λc=>bc c λk d a b=>⟨k,d,a,aC b T⟩
noncomputable def ut(h:Ha)(e:En):Prop:=∀n hd S v,hG S v e->cG (n+12) hd 413 [h.v,v] S=some (.ok (.bool (dT h e)),S)
noncomputable abbrev SW:dL:=(nE (.ifs (.nt (.loc 2)) (dO (.asg ⟨[.loc 2],none⟩ none (.call 33 o0 (cA (.loc 3) (.loc 1))))) .nil) (.ifs (.lS .And (.loc 2) (cN (.cmp .NotEq (.idx (.loc 3) (.cst (.int 3))) (.cst (.str "-"))))) (dO (.ret (.loc 3))) .nil))
theorem VQ:(zB 45)=(Ez (.asg ⟨[.loc 2],none⟩ none (.cst (.bool false))) (.fr ⟨[.loc 3],none⟩ .plain (.loc 0) SW) (.ret (.cst .none))):=by trivial
section
variable {e:En}
theorem DG{a:Ex}(h:Ev cf ls gt a S (.bool c) S1):Ev cf ls gt (.nt a q) S (.bool (!c)) S1:=by (simp -iota only [Ev,Mr,h];rfl)
theorem Kq{hs:V}{h:Ha}{found:Bool}(d:ut h e)(f:hG S v e):aT (a0 (n+12) hd) a9 SW [some hs,some v,some (.bool found),some h.v] S=some (match (found||dT h e)&& !aD h.aB "-" with|true=>.ok (.ret h.v)|false=>.ok .cY,[some hs,some v,some (.bool (found||dT h e)),some h.v],S):=by
 have first:∀{o:ci} {r:dL},aT (a0 (n+12) hd) a9 r [some hs,some v,some (.bool (found||dT h e)),some h.v] S=o->aT (a0 (n+12) hd) a9 (.cons (.ifs (.nt (.loc 2)) (dO (.asg ⟨[.loc 2],none⟩ none (.call 33 o0 (cA (.loc 3) (.loc 1))))) .nil) r) [some hs,some v,some (.bool found),some h.v] S=o:=λb=>by
  cases found with
  |true=>exact ah (bF (DG (c:=true) (af rfl)) b0) b
  |false=>exact ah (cn (DG (c:=false) (af rfl)) (Y2 (aI (aM (x:=("fits_handler",413)) (aa (af rfl) (aa (af rfl) ag)) (by trivial) (d n hd S v f)) aU))) b
 refine first ?_
 have a:Ev (a0 (n+12) hd) [some hs,some v,some (.bool (found||dT h e)),some h.v] a9 (.cmp .NotEq (.idx (.loc 3) (.cst (.int 3))) (.cst (.str "-"))) S (.bool (!aD h.aB "-")) S:=
  aE (bB (af rfl) (ao rfl) (v:=.str h.aB) (by trivial)) (ao rfl) rfl
 cases g:(found||dT h e) with
 |false=>exact Y2 (bF (gz (af rfl) sG) b0)
 |true=>
  rw [g] at a;cases hs:aD h.aB "-" with
  |true=>rw [hs] at a;exact Y2 (bF (gz (af rfl) (kR a fU)) b0)
  |false=>rw [hs] at a;exact Y2 (cn (gz (af rfl) (kR a fU)) (Y2 (bQ (af rfl))))
theorem Kr{all:List Ha}(m:hG S v e):∀(a pre:List Ha),all=pre++a->(∀h∈a,ut h e)->∀(found:Bool) (o:Option V) (N:Nat),a.length<N->
 ∃br c,fk (λls S=>aT (a0 (n+12) hd) a9 SW ls S) (λv ls S=>jc (a0 (n+12) hd) a9 ⟨[.loc 3],none⟩ v ls S) false S.length N [some (.lst (all.map Ha.v)),some v,some (.bool found),o] (S++[.iter (.seq (.lst (all.map Ha.v)) pre.length)])=some (match bU e found a with|some h=>.ok (.ret h.v)|none=>.ok .cY,br,S++[c]):=by
 intro l
 induction l with
 |nil=>
  intro pre f q found o N p
  cases N with
  |zero=>exact absurd p (et _)
  |succ N=>
   have d:(all.map Ha.v)[pre.length]? =none:=by rw [f];simp
   exact iX _ .dead (by rw [<-sM S (.iter (.seq (.lst (all.map Ha.v)) pre.length)) .dead];exact lm (aY _ _) rfl d)
 |cons h a b=>
  intro pre f j found o N g
  cases N with
  |zero=>exact absurd g (et _)
  |succ N=>
   have d:(all.map Ha.v)[pre.length]? =some h.v:=by rw [f];simp
   have turn:=Kq (n:=n) (hd:=hd) (hs:=.lst (all.map Ha.v)) (found:=found) (j h gJ) (m.push [.iter (.seq (.lst (all.map Ha.v)) (pre.length+1))])
   simp -iota only [dk]
   cases i:(found||dT h e)&& !aD h.aB "-" with
   |true=>
    rw [i] at turn
    exact iX _ _ (DF (aY _ _) rfl d (by rw [sM];rfl) turn)
   |false=>
    rw [i] at turn
    have b:=b (pre++[h]) (by rw [f];simp) (λx k=>j x (j3 _ k)) (found||dT h e) (some h.v) N (by simpa using g)
    refine dZ b λbr c b=>?_
    rw [de] at b
    exact iX br c (jH (aY _ _) rfl d (by rw [sM];rfl) turn b)
theorem sN(g:∀h∈hs,ut h e)(k:hs.length<100)(i:hG S v e):∃c,cG (n+13) hd 420 [.lst (hs.map Ha.v),v] S=some (.ok (match bU e false hs with|some h=>h.v|none=>.none),S++[c]):=by
 refine gl λj f=>?_;refine dZ (Kr (n:=n) (hd:=hd) (all:=hs) i hs [] rfl g false none 5000 (aA ‹_› (by decide))) λbr c h=>?_;refine f ?_;refine ⟨c,?_⟩;have b:Nx (a0 (n+12) hd) a9 (.asg ⟨[.loc 2],none⟩ none (.cst (.bool false))) [some (.lst (hs.map Ha.v)),some v,none,none] S [some (.lst (hs.map Ha.v)),some v,some (.bool false),none] S:=aI (ao rfl) aU;have a:gC (a0 (n+12) hd) a9 (.fr ⟨[.loc 3],none⟩ .plain (.loc 0) SW) [some (.lst (hs.map Ha.v)),some v,some (.bool false),none] S=_:=vB (af rfl) (c:=.iter (.seq (.lst (hs.map Ha.v)) 0)) rfl h;cases d:bU e false hs with
 |some x=>replace a:=d▸a;refine bI (ds:=[]) (ls0:=[some (.lst (hs.map Ha.v)),some v,none,none]) (r:=.ok (.ret x.v)) (by trivial) (by trivial) (by trivial) VQ (by trivial) ⟨br,?_⟩;exact ah b (eD a trivial)
 |none=>replace a:=d▸a;refine bI (ds:=[]) (ls0:=[some (.lst (hs.map Ha.v)),some v,none,none]) (r:=.ok (.ret .none)) (by trivial) (by trivial) (by trivial) VQ (by trivial) ⟨br,?_⟩;exact ah b (ah a (Y2 (bQ (ao rfl))))
end
noncomputable def Zc(t:Str):Bool:= !aD t ""&& !(t.cps.toList.any λc=>((" \n\"[]$;":Str).cps.toList.any (beq c)))
noncomputable def qT(t:Str):Str:=match Zc t with
 |true=>t
 |false=>"{"++t++"}"
noncomputable def En.head(e:En):List Str:=([("-code":Str),Str.ofString (toString (match decide (e.code=2) with|true=>e.ret|false=>e.code)),"-level",Str.ofString (toString e.level)]:List Str)++(match decide (e.code=1) with
 |true=>[("-errorcode":Str),e.ec.t,"-errorinfo",e.ge]
 |false=>[]:List Str)
noncomputable def kS:du->List Str
 |[]=>[]
 |x::r=>x.1::x.2::kS r
theorem xD{a:Str×Str}{r:du}:kS (a::r)=Prod.fst a::Prod.snd a::kS r:=by rfl
protected noncomputable def En.items (e:En):List Str:=e.head++kS e.extra
noncomputable def gf(e:En):Str:=Txt.join " " (e.items.map qT)
noncomputable def En.after(l e:En):En:=match decide (l.code=1) with
 |true=>{l with extra:=iQ l.extra "-during" (gf e)}
 |false=>l
theorem En.jI(l e:En):(l.after e).code=l.code:=by unfold En.after;(cases _:Decidable.decide (Internal.En.code l=1);rotate_left;all_goals dsimp only)<;>rfl
theorem En.ql(l e:En):(l.after e).value=l.value:=by unfold En.after;(cases _:Decidable.decide (Internal.En.code l=1);rotate_left;all_goals dsimp only)<;>rfl
noncomputable def oZ(e:En):Prop:=∀n hd S v,hG S v e->cG (n+13) hd 343 [v] S=some (.ok (.str (gf e)),S)
noncomputable def uu(l e:En):Prop:=∀n hd S k v,S[k]? =some l.c->hG S v e->v≠ .ref k->cG (n+14) hd 425 [.ref k,v] S=some (.ok .none,S.set k (l.after e).c)
noncomputable def Zd(st:du)(names:List Str)(a b:Str):du:=match names with
 |[]=>st
 |[x]=>iQ st x a
 |x::y::_=>iQ (iQ st x a) y b
noncomputable abbrev Ro:St:=.ifs (.cmp .Gt (.bi .len o0 (.loc 4)) (.cst (.int 0))) (dO (.exp (.ez (.loc 0) "write" o0 (cA (.idx (.loc 4) (.cst (.int 0))) (.loc 2))))) .nil
noncomputable abbrev Rp:St:=.ifs (.cmp .Gt (.bi .len o0 (.loc 4)) (.cst (.int 1))) (dO (.exp (.ez (.loc 0) "write" o0 (cA (.idx (.loc 4) (.cst (.int 1))) (.call 23 o0 (cN (.loc 3))))))) .nil
theorem VR:(zB 47)=(nE (.asg ⟨[.loc 4],none⟩ none (.idx (.loc 1) (.cst (.int 2)))) (.wS (Ez Ro Rp (.ret (.tup (cA (.ez (.loc 0) "run" o0 (cN (.idx (.loc 1) (.cst (.int 3))))) (.cst .none))))) 0 o0 (some 5) (Ez (.exp (.call 25 o0 (cA (.loc 0) (.loc 5)))) (.exp (.call 35 o0 (cA (.loc 5) (.loc 3)))) (.ret (.tup (cA (.attr (.loc 5) "value") (.loc 5))))))):=by trivial
section
variable {p:HP}{d:Int}{st:du}{x y:Str}{bk:List Str}{bv:List V}{e e2:En}{h:Ha}
theorem hG.fr(h:hG S v e)(H:bf p d st cX S)(F:Fr p S S'):hG S' v e:=h.imp id λc=>bc c λk f a b=>⟨k,f,a,F.exc H b⟩
theorem Fr.zX(F:Fr p S S')(H:bf p d st cX S)(a:p.b≠p.v)(h:S[p.b]? =some (.dict bk bv)):S'[p.b]? =some (.dict bk bv):=F.at_ _ _ h a (λe=>by refine ae H.r λl c _=>?_;(replace h:=e▸h;replace h:=c▸h);cases h) rfl
theorem gt_int{a b:Int}(h:decide (a>b)=c):eg .Gt (.int a) (.int b) S=some c:=by subst h;rfl
theorem len_strs(l:List Str)(a:l.length<=1000):uO hd .len (aX l) S=some (.int l.length,S):=by
 have:E0 .len (aX l) S=some (.int l.length):=by show (match i6 (l.map V.str) with|true=>some (V.int (l.map V.str).length)|false=>none)=_;rw [(show i6 (l.map V.str)=true from fA (by simp;exact aA ‹_› (by decide))),dG]
 show (match E0 .len (aX l) S with|some w=>some (w,S)|none=>_)=_;exact this▸rfl
theorem bf.Hx(H:bf p d st cX S)(h:S[k]? =some e.c)(c:En):bf p d st cX (S.set k c.c):=by refine gl λo n=>?_;refine ae H.vs λf hv i=>?_;refine ae H.r λl g m=>?_;have a:∀{j:Nat} {c':C},S[j]? =some c'->(∀e:En,c'=e.c->False)->(S.set k c.c)[j]? =some c':=λh' b=>az h' (aO h h' λz=>b e z.symm);refine n ?_;exact ⟨a H.h (λ_ e=>C.noConfusion e),a H.t (λ_ e=>C.noConfusion e),⟨l,a g (λ_ e=>C.noConfusion e),m.mono λ_ _ _ e _=>a e (λ_ e=>C.noConfusion e)⟩,H.nd,⟨f,a hv (λ_ e=>C.noConfusion e),i.mono λ_ _ _ e=>a e (λ_ e=>C.noConfusion e)⟩,H.tv⟩
noncomputable abbrev xE(n:Nat)(S:List C)(p:HP)(st:du)(cX:List (Str×du))(e:En)(e2:En)(v:V)(h:Ha):Prop:=∃S' v',bf p 0 (e2.d0 (Zd st h.names e.value (gf e))) (cX++[(h.aB,Zd st h.names e.value (gf e))]) S'/\Fr p S S'/\hG S' v' (e2.after e)/\cG (n+15) false 432 [.ref p.h,h.v,.str e.value,v] S=some (.ok (.tup [.str e2.value,v']),S')
theorem zY(H:bf p 0 st cX S)(hf:st.length<=800)(Og:cX.length<=1000)(I:p.b≠p.v)(Y:S[p.b]? =some (.dict bk bv))(W:fieldOf bk bv h.aB=some e2.v)(K:e2.extra.length<=1000)(X:oZ e)(Ew:uu e2 e)(L:hG S v e)(hn:h.names.length<=3):xE n S p st cX e e2 v h:=by
 obtain ⟨S1,g,A,f,V⟩:∃S1,bf p 0 (Zd st (h.names.take 1) e.value (gf e)) cX S1/\Fr p S S1/\(Zd st (h.names.take 1) e.value (gf e)).length<=st.length+1/\Nx (a0 (n+14) false) a9 Ro [rF p.h,some h.v,sF e.value,some v,some (aX h.names),nF] S [rF p.h,some h.v,sF e.value,some v,some (aX h.names),nF] S1:=by
  have d:Ev (a0 (n+14) false) [rF p.h,some h.v,sF e.value,some v,some (aX h.names),nF] a9 (.bi .len o0 (.loc 4)) S (.int h.names.length) S:=hU (af rfl) (len_strs _ (aA ‹_› (by decide)));cases m:h.names with
  |nil=>replace d:=m▸d;exact ⟨S,H,.refl p S,eR _,bF (aE d (ao rfl) rfl) b0⟩
  |cons a r=>
   replace d:=m▸d;refine bc (sK (n:=n+8) (hd:=false) H (aA ‹_› (by decide)) a e.value) λS1 o t i=>?_;exact ⟨S1,t,i,fq st,cn (aE d (ao rfl) (gt_int (cQ (by simp)))) (Y2 (fV (fv (af rfl) (gA H (a:=637) (by trivial) (by trivial)) (aa (bB (af rfl) (ao rfl) (by trivial)) (aa (af rfl) ag)) o)))⟩
 obtain ⟨S2,B,l,VS,T⟩:∃S2,bf p 0 (Zd st h.names e.value (gf e)) cX S2/\Fr p S S2/\(Zd st h.names e.value (gf e)).length<=st.length+2/\Nx (a0 (n+14) false) a9 Rp [rF p.h,some h.v,sF e.value,some v,some (aX h.names),nF] S1 [rF p.h,some h.v,sF e.value,some v,some (aX h.names),nF] S2:=by
  have d:Ev (a0 (n+14) false) [rF p.h,some h.v,sF e.value,some v,some (aX h.names),nF] a9 (.bi .len o0 (.loc 4)) S1 (.int h.names.length) S1:=hU (af rfl) (len_strs _ (aA ‹_› (by decide)));cases m:h.names with
  |nil=>rw [m] at d g f;exact ⟨S1,g,A,aA f (eR _),bF (aE d (ao rfl) rfl) b0⟩
  |cons a r=>cases r with
   |nil=>rw [m] at d g f;exact ⟨S1,g,A,aA f (eR _),bF (aE d (ao rfl) rfl) b0⟩
   |cons b r=>
    rw [m] at d g f;refine bc (sK (n:=n+8) (hd:=false) g (aA f (by exact fw (hY ‹_›) (by decide))) b (gf e)) λS2 o t i=>?_;refine ⟨S2,t,A.trans i,aA (fq _) (lN f),cn (aE d (ao rfl) (gt_int (cQ (by simp;exact oD _)))) (Y2 (fV (fv (af rfl) (gA g (a:=637) (by trivial) (by trivial)) (aa (bB (af rfl) (ao rfl) (by trivial)) (aa (aM (x:=("options_text",343)) (aa (af rfl) ag) (by trivial) (X (n+1) false S1 v (L.fr H A))) ag)) o)))⟩
 refine gl λGz R=>?_;refine bc (Ht (n:=n+9) B (by exact aA ‹_› (aA (gD ‹_› _) (by decide))) Og (l.zX H I Y) W K) λS3 y J s=>?_;have first:Nx (a0 (n+14) false) a9 (.asg ⟨[.loc 4],none⟩ none (.idx (.loc 1) (.cst (.int 2)))) [rF p.h,some h.v,sF e.value,some v,nF,nF] S [rF p.h,some h.v,sF e.value,some v,some (aX h.names),nF] S:=aI (bB (af rfl) (ao rfl) (by trivial)) aU
 have Q:∀{S:List C},Ev (a0 (n+14) false) [rF p.h,some h.v,sF e.value,some v,some (aX h.names),nF] a9 (.idx (.loc 1) (.cst (.int 3))) S (.str h.aB) S:=bB (af rfl) (ao rfl) (by trivial);refine aQ s (λu=>aq u λE s=>?_) (λw=>aq w λE N=>?_)
 ·clear u;refine R ?_;refine lP S3 .none ?_ (l.trans J) (.inl ⟨rfl,(e2.jI e).trans E⟩) ?_
  ·unfold En.d0;rw [df (by refine E▸?_;decide)];exact y
  ·refine bI (ds:=[]) (ls0:=[rF p.h,some h.v,sF e.value,some v,nF,nF]) (r:=.ok (.ret (.tup [.str e2.value,.none]))) (by trivial) (by trivial) (by trivial) VR (by trivial) ?_;apply Exists.intro;exact ah first (Y2 (nD (ah V (ah T (Y2 (bQ (cV (aa (fv (af rfl) (gA B (a:=503) (by trivial) (by trivial)) (aa Q ag) s) (aa (ao rfl) ag)) rfl)))))))
 ·clear w;refine bc N λk P G s=>?_;clear N;refine bc (Bt (n:=n+6) (hd:=true) y (by exact aA ‹_› (aA (gD ‹_› _) (by decide))) G) λM o t i=>?_;have D:=i.exc y G;have Z:v≠ .ref k:=λz=>by
   refine aQ L (λu=>aq u λq _=>?_) (λw=>bc w λj q _ q3=>?_)
   ·clear u;replace z:=q▸z;cases z
   ·clear w;replace z:=q▸z;clear s o G D;(injection z with z;subst z);exact absurd (aA l.len P) (Nat.not_le.mpr (fx q3))
  have O:(M.set k (e2.after e).c)[k]? =some (e2.after e).c:=ca D;refine R ?_;refine lP (M.set k (e2.after e).c) (.ref k) (t.Hx D _) ?_ (.inr ⟨k,rfl,by rw [En.jI];exact E,O⟩) ?_
  ·have F:=(l.trans J).trans i;exact ⟨by simpa using F.len,λj c U q1 q2 q3=>az (F.at_ j c U q1 q2 q3) (g2 (fw (fx U) (aA l.len P)))⟩
  ·refine bI (ds:=[]) (ls0:=[rF p.h,some h.v,sF e.value,some v,nF,nF]) (r:=.ok (.ret (.tup [.str e2.value,.ref k]))) (by trivial) (by trivial) (by trivial) VR (by trivial) ?_;apply Exists.intro;refine ah first (Y2 (vw (ls2:=[rF p.h,some h.v,sF e.value,some v,some (aX h.names),rF k]) rfl (ah V (ah T (Y2 (zL (zW (oY (fv (af rfl) (gA B (a:=503) (by trivial) (by trivial)) (aa Q ag) s))))))) ?_))
   refine ah (fV (aM (x:=("note_caught",357)) (aa (af rfl) (aa (af rfl) ag)) (by trivial) o)) ?_;refine ah (fV (aM (x:=("add_during",425)) (aa (af rfl) (aa (af rfl) ag)) (by trivial) (Ew n true M k v D (((L.fr H l).fr B J).fr y i) Z))) ?_;refine Y2 (bQ (cV (aa (b8 (af rfl) (bD O ?_)) (aa (af rfl) ag)) rfl));refine (aS (En.ql e2 e))▸?_;trivial
end
noncomputable abbrev sO:dL:=(Ez (.ifs (.cmp .IsNot (.loc 3) (.cst .none)) (nE (.asg ⟨[.loc 7],none⟩ none (.idx (.call 26 o0 (cA (.loc 0) (.loc 3))) (.cst (.int 1)))) (.ifs (.cmp .IsNot (.loc 7) (.cst .none)) (nE (.exp (.call 35 o0 (cA (.loc 7) (.loc 5)))) (.s8 (.loc 7))) .nil)) .nil) (.ifs (.cmp .IsNot (.loc 5) (.cst .none)) (dO (.s8 (.loc 5))) .nil) (.ret (.loc 4)))
noncomputable abbrev Oi:St:=.ifs (.cmp .Lt (.bi .len o0 (.loc 1)) (.cst (.int 2))) (dO (.s8 (.call 2 o0 (cN (.bin .Add (.idx (.loc 1) (.cst (.int 0))) (.cst (.str " body ?handler ...? ?finally script?"))))))) .nil
noncomputable abbrev Oj:St:=.asg ⟨[.loc 2,.loc 3],some (0,o0)⟩ none (.call 32 o0 (cN (.loc 1)))
noncomputable abbrev Ok:St:=.asg ⟨[.loc 4,.loc 5],some (0,o0)⟩ none (.call 26 o0 (cA (.loc 0) (.idx (.loc 1) (.cst (.int 1)))))
noncomputable abbrev Ol:St:=.asg ⟨[.loc 6],none⟩ none (.call 34 o0 (cA (.loc 2) (.loc 5)))
noncomputable abbrev Rr:St:=.ifs (.cmp .IsNot (.loc 6) (.cst .none)) (dO (.asg ⟨[.loc 4,.loc 5],some (0,o0)⟩ none (.call 36 o0 (qR (.loc 0) (.loc 6) (.loc 4) (.loc 5))))) .nil
theorem Uw:(zB 48)=(.cons Oi (.cons Oj (.cons Ok (.cons Ol (.cons Rr sO))))):=by trivial
noncomputable abbrev Ends:=List (Str×du)×En×du
noncomputable def fX(bk:Str->En)(hs:List Ha)(st:du):Ends:=match bU (bk "body") false hs with
 |none=>([("body",st)],bk "body",(bk "body").d0 st)
 |some h=>([("body",st),(h.aB,Zd ((bk "body").d0 st) h.names (bk "body").value (gf (bk "body")))],(bk h.aB).after (bk "body"),(bk h.aB).d0 (Zd ((bk "body").d0 st) h.names (bk "body").value (gf (bk "body"))))
noncomputable def nG(bk:Str->En)(A:Ends):Ends:=(A.1++[(("f":Str),A.2.2)],(match decide ((bk "f").code=0) with
 |true=>A.2.1
 |false=>(bk "f").after A.2.1),(bk "f").d0 A.2.2)
noncomputable def fY(bk:Str->En)(hs:List Ha)(fin:Bool)(st:du):Ends:=match fin with
 |false=>fX bk hs st
 |true=>nG bk (fX bk hs st)
theorem fG(e:En)(st:du):(e.d0 st).length<=st.length+2:=by
 unfold En.d0;(cases _:Decidable.decide (Internal.En.code e=1);rotate_left)
 ·exact aA (fq _) (lN (fq _))
 ·exact bY _ _
theorem o8(st:du)(l:List Str)(a b:Str):(Zd st l a b).length<=st.length+2:=by
 cases l with
 |nil=>exact bY _ _
 |cons x l=>cases l with
  |nil=>exact nZ (fq _)
  |cons y l=>exact aA (fq _) (lN (fq _))
section
variable {p:HP}{st:du}{gG:List Str}{gH:List V}{w:Nat}{W:List V}{last:V}
theorem MS{a:V}(h:(!Zb a)=c):eg .IsNot a .none S=some c:=by subst h;rfl
theorem nH{e:En}{h:Ha}:∀{l:List Ha} {b:Bool},bU e b l=some h->h∈l:=by
 intro c;induction c with
 |nil=>intro d q;exact aG q
 |cons x r a=>
  intro b q;simp -iota only [dk] at q;(revert q;cases _:(b||dT x e)&& !aD (Internal.Ha.aB x) (PySem.Str.ofString "-");rotate_left;all_goals (intro q;dsimp only at q))
  ·cases q;exact gJ
  ·exact j3 _ (a q)
theorem Kt(H:bf p 0 st [] S)(hf:st.length<=700)(f:p.b≠p.v)(G:S[p.b]? =some (.dict gG gH))(d:fieldOf gG gH "body"=some (bk "body").v)(Y:(bk "body").extra.length<=1000)(mD:oZ (bk "body"))
 (g:∀h∈hs,ut h (bk "body")/\h.names.length<=3/\(aD h.aB "-"=false->fieldOf gG gH h.aB=some (bk h.aB).v/\(bk h.aB).extra.length<=1000/\uu (bk h.aB) (bk "body"))) (R:hs.length<100)
 (P:S[w]? =some (.list W)) (K:W[1]? =some (.str "body")) (VT:W.length<=1000) (I6:cG (n+15) false 406 [.ref w] S=some (.ok (.tup [.lst (hs.map Ha.v),last]),S)):
 ∃SA L hv,bf p 0 (fX bk hs st).2.2 (fX bk hs st).1 SA/\Fr p S SA/\hG SA L (fX bk hs st).2.1/\(fX bk hs st).1.length<=2/\(fX bk hs st).2.2.length<=st.length+6/\
  ∀o,aT (a0 (n+15) false) a9 sO [rF p.h,rF w,some (.lst (hs.map Ha.v)),some last,sF (fX bk hs st).2.1.value,some L,some hv,nF] SA=o->
   aT (a0 (n+15) false) a9 (.cons Oi (.cons Oj (.cons Ok (.cons Ol (.cons Rr sO))))) [rF p.h,rF w,nF,nF,nF,nF,nF,nF] S=o:=by
 have YU:1<W.length:=(fx K)
 have F:gu S (.ref w)=some W:=by rw [qJ,P]
 have i:uO false .len (.ref w) S=some (.int W.length,S):=by
  have:Jw .len (.ref w) S=some (.int W.length):=by show (match gu S (.ref w) with|some l=>(match i6 l with|true=>some (V.int l.length)|false=>Option.none)|Option.none=>Option.none)=_;rw [F];show (match i6 W with|true=>some (V.int W.length)|false=>Option.none)=_;rw [show i6 W=true from fA (by exact aA ‹_› (by decide))]
  delta uO;rw [this]
 have I:Nx (a0 (n+15) false) a9 Oi [rF p.h,rF w,nF,nF,nF,nF,nF,nF] S [rF p.h,rF w,nF,nF,nF,nF,nF,nF] S:=
  bF (aE (hU (af rfl) i) (ao rfl) (by show some (decide ((W.length:Int)<2))=_;rw [df (by exact Int.not_lt.mpr (Int.ofNat_le.mpr ‹_›))])) b0
 have M:Nx (a0 (n+15) false) a9 Oj [rF p.h,rF w,nF,nF,nF,nF,nF,nF] S [rF p.h,rF w,some (.lst (hs.map Ha.v)),some last,nF,nF,nF,nF] S:=
  aI (aM (x:=("clauses_of",406)) (aa (af rfl) ag) (by trivial) I6) rfl
 have iw:lB (.ref w) (.int 1) S=some (.str "body"):=by show (match gu S (.ref w) with|some l=>Et l 1|Option.none=>Option.none)=_;rw [F];exact K
 refine gl λQ r=>?_
 refine bc (xB (n:=n+6) H (by exact aA ‹_› (by decide)) (by simp) G d Y) λS1 U z s=>?_
 obtain ⟨a,t,s⟩:∃a,hG S1 a (bk "body")/\cG (n+15) false 364 [.ref p.h,.str "body"] S=some (.ok (.tup [.str (bk "body").value,a]),S1):=by
  refine aQ s (λB=>aq B λq1 q2=>?_) (λC=>aq C λq1 u=>?_)
  ·clear B;exact ⟨.none,.inl ⟨rfl,q1⟩,q2⟩
  ·clear C;refine bc u λk q2 q3 q4=>?_;clear u;exact ⟨.ref k,.inr ⟨k,rfl,q1,q3⟩,q4⟩
 have J:Nx (a0 (n+15) false) a9 Ok [rF p.h,rF w,some (.lst (hs.map Ha.v)),some last,nF,nF,nF,nF] S [rF p.h,rF w,some (.lst (hs.map Ha.v)),some last,sF (bk "body").value,some a,nF,nF] S1:=
  aI (aM (x:=("tried",364)) (aa (af rfl) (aa (bB (af rfl) (ao rfl) iw) ag)) (by trivial) s) rfl
 refine ar (sN (n:=n+2) (hd:=false) (hs:=hs) (λh hh=>(g h hh).1) R t) λc h2=>?_
 have E:∀hv,(match bU (bk "body") false hs with|some h=>h.v|Option.none=>.none)=hv->Nx (a0 (n+15) false) a9 Ol [rF p.h,rF w,some (.lst (hs.map Ha.v)),some last,sF (bk "body").value,some a,nF,nF] S1 [rF p.h,rF w,some (.lst (hs.map Ha.v)),some last,sF (bk "body").value,some a,some hv,nF] (S1++[c]):=λhv e=>by subst e;exact aI (aM (x:=("handler_for",420)) (aa (af rfl) (aa (af rfl) ag)) (by trivial) h2) aU
 have D:=U.push [c]
 have A:=t.push [c]
 have y:=z.trans (Fr.push p S1 [c])
 have nl:=fG (bk "body") st
 refine r ?_
 unfold fX
 cases j:bU (bk "body") false hs with
 |none=>
  refine EP (S1++[c]) a .none D y A (by simp) (by simp only;exact aA ‹_› (eP (by decide) _)) (λo m=>?_)
  refine ah I (ah M (ah J (ah (E .none (by exact j▸rfl)) (ah (bF (aE (af rfl) (ao rfl) rfl) b0) m))))
 |some h=>
  refine gl λQ r=>?_
  refine ck (g h (nH j)) λf1 N q=>?_
  refine ck (q (firstFit_bare j)) λq f4 T=>?_
  refine gL (zY (n:=n) (e2:=bk h.aB) D (by exact aA ‹_› (aA (gD ‹_› _) (by decide))) (by simp) f (aC (z.zX H f G) [c]) q f4 mD T A N) λS3 Z O X Xu h3=>?_
  have ml:=o8 ((bk "body").d0 st) h.names (bk "body").value (gf (bk "body"))
  have kl:=fG (bk h.aB) (Zd ((bk "body").d0 st) h.names (bk "body").value (gf (bk "body")))
  refine r ?_
  refine EP S3 Z h.v O (y.trans X) Xu (by simp) (aA kl (gD (aA ml (gD nl 2)) 2)) (λo m=>?_)
  refine ah I (ah M (ah J (ah (E h.v (by exact j▸rfl)) (ah (cn (aE (af rfl) (ao rfl) (MS rfl)) (Y2 (aI (aM (x:=("handled",432)) (aa (af rfl) (aa (af rfl) (aa (af rfl) (aa (af rfl) ag)))) (by trivial) h3) rfl))) ?_))))
  simp only [En.ql] at m
  exact m
where
 firstFit_bare {e:En} {h:Ha}:∀{l:List Ha} {b:Bool},bU e b l=some h->aD h.aB "-"=false
  |[],_,q=>nomatch q
  |x::r,b,q=>by
   simp only [xC,dk] at q
   split at q
   ·rename_i z
    cases q
    simpa using (aH z)
   ·exact firstFit_bare q
end
section
variable {SA:List C}{p:HP}{st:du}{gG:List Str}{gH:List V}{w:Nat}{W:List V}{last hv l0 l1 l2:V}{A:Ends}{e:En}
noncomputable def Om(n:Nat)(a:Addr)(vs:List V)(S S':List C)(e:En):Prop:=(e.code=0/\cG n false a vs S=some (.ok (.str e.value),S'))\/(e.code≠0/\∃k,S'[k]? =some e.c/\cG n false a vs S=some (.exc k,S'))
theorem z4(h:hG S v e):eg .IsNot v .none S'=some (!decide (e.code=0)):=by
 rcases h with ⟨rfl,h⟩|⟨k,rfl,h,_⟩
 ·refine (cQ h)▸?_;rfl
 ·refine (df h)▸?_;rfl
theorem Hy(h:S[k]? =some e.c):eV S k=true:=by simp only [eV,h,bq];rfl
noncomputable abbrev Hz(n:Nat)(SA:List C)(last:V)(v:V)(hv:V)(l0:V)(l1:V)(l2:V)(e:En)(o7:Option V):Prop:=∃r br,aT (a0 (n+15) false) a9 (nE (.ifs (.cmp .IsNot (.loc 5) (.cst .none)) (dO (.s8 (.loc 5))) .nil) (.ret (.loc 4))) [some l0,some l1,some l2,some last,sF e.value,some v,some hv,o7] SA=some (r,br,SA)/\((e.code=0/\r=.ok (.ret (.str e.value)))\/(e.code≠0/\∃k,SA[k]? =some e.c/\r=.exc k))
theorem Bu(b:hG SA v e):Hz n SA last v hv l0 l1 l2 e o7:=by
 have i:=z4 (S':=SA) b;by_cases a:e.code=0
 ·replace i:=(cQ a)▸i;exact gb _ _ (ah (bF (aE (af rfl) (ao rfl) i) b0) (Y2 (bQ (af rfl)))) (.inl ⟨a,rfl⟩)
 ·replace i:=(df a)▸i;refine aQ b (λf=>aq f λj h=>?_) (λd=>bc d λk g h c=>?_)
  ·clear f;clear b i;subst j;exact absurd h a
  ·clear d;clear b;subst g;exact gb _ _ (eD (cn (aE (af rfl) (ao rfl) i) (Y2 (Br rfl (af rfl) (Hy c)))) trivial) (.inr ⟨a,k,c,rfl⟩)
theorem On(H:bf p 0 A.2.2 A.1 SA)(M:A.2.2.length<=800)(L:A.1.length<=900)(y:p.b≠p.v)(F:SA[p.b]? =some (.dict gG gH))(t:fieldOf gG gH "f"=some (bk "f").v)(E:(bk "f").extra.length<=1000)(o:hG SA v A.2.1)(I:uu (bk "f") A.2.1):
 ∃S' r br,bf p 0 (nG bk A).2.2 (nG bk A).1 S'/\Fr p SA S'/\aT (a0 (n+15) false) a9 sO [rF p.h,some l1,some l2,sF "f",sF A.2.1.value,some v,some hv,nF] SA=some (r,br,S')/\
  (((nG bk A).2.1.code=0/\r=.ok (.ret (.str (nG bk A).2.1.value)))\/((nG bk A).2.1.code≠0/\∃k,S'[k]? =some (nG bk A).2.1.c/\r=.exc k)):=by
 refine gl λu f=>?_
 refine bc (xB (n:=n+6) H (aA ‹_› (by decide)) (aA ‹_› (by decide)) F t E) λS1 m e K=>?_
 have g:=o.fr H e
 refine f ?_
 (delta nG;dsimp only)
 refine gl λu f=>?_
 refine aQ K (λa=>aq a λq1 q2=>?_) (λd=>aq d λq1 i=>?_)
 ·clear a
  refine bd (Bu (n:=n) (l0:=.ref p.h) (l1:=l1) (l2:=l2) (last:=.str "f") (hv:=hv) (o7:=some .none) g) λr br C B=>?_
  refine f ?_
  refine (cQ q1)▸?_
  refine EO S1 r br m e (ah (cn (aE (af rfl) (ao rfl) rfl) (ah (aI (bB (aM (x:=("tried",364)) (aa (af rfl) (aa (af rfl) ag)) (by trivial) q2) (ao rfl) rfl) aU) (Y2 (bF (aE (af rfl) (ao rfl) rfl) b0)))) C) B
 ·clear d;refine bc i λk q2 q3 q4=>?_;clear i
  refine f ?_
  rw [df q1]
  have G:v≠ .ref k:=λz=>by
   refine aQ o (λa=>aq a λq _=>?_) (λd=>bc d λj q _ q5=>?_)
   ·clear a;rw [q] at z;cases z
   ·clear d;rw [q] at z;clear q4 q3;(injection z with z;subst z);exact absurd q2 (Nat.not_le.mpr (fx q5))
  have l:(S1.set k ((bk "f").after A.2.1).c)[k]? =some ((bk "f").after A.2.1).c:=ca q3
  refine EO (S1.set k ((bk "f").after A.2.1).c) (.exc k) [rF p.h,some l1,some l2,sF "f",sF A.2.1.value,some v,some hv,rF k] (m.Hx q3 _) ⟨by simpa using e.len,λj c s J D w=>az (e.at_ j c s J D w) (g2 (fw (fx s) q2))⟩ ?_ (.inr ⟨by rw [En.jI];exact q1,k,l,rfl⟩)
  refine eD (cn (aE (af rfl) (ao rfl) rfl) (ah (aI (bB (aM (x:=("tried",364)) (aa (af rfl) (aa (af rfl) ag)) (by trivial) q4) (ao rfl) rfl) aU) (Y2 (cn (aE (af rfl) (ao rfl) (MS rfl)) (ah (fV (aM (x:=("add_during",425)) (aa (af rfl) (aa (af rfl) ag)) (by trivial) (I (n+1) false S1 k v q3 g G))) (Y2 (Br rfl (af rfl) (Hy l)))))))) trivial
theorem z5{fin:Bool}(H:bf p 0 st [] S)(I:st.length<=700)(d:p.b≠p.v)(t:S[p.b]? =some (.dict gG gH))(e:fieldOf gG gH "body"=some (bk "body").v)(D:(bk "body").extra.length<=1000)(G:oZ (bk "body"))
 (l:∀h∈hs,ut h (bk "body")/\h.names.length<=3/\(aD h.aB "-"=false->fieldOf gG gH h.aB=some (bk h.aB).v/\(bk h.aB).extra.length<=1000/\uu (bk h.aB) (bk "body"))) (B:hs.length<100)
 (y:S[w]? =some (.list W)) (K:W[1]? =some (.str "body")) (x:W.length<=1000) (u:cG (n+15) false 406 [.ref w] S=some (.ok (.tup [.lst (hs.map Ha.v),match fin with|true=>.str "f"|false=>.none]),S))
 (z:fin=true->fieldOf gG gH "f"=some (bk "f").v/\(bk "f").extra.length<=1000/\uu (bk "f") (fX bk hs st).2.1):
 ∃S',bf p 0 (fY bk hs fin st).2.2 (fY bk hs fin st).1 S'/\Fr p S S'/\Om (n+16) 439 [.ref p.h,.ref w] S S' (fY bk hs fin st).2.1:=by
 refine gl λA g=>?_
 refine vX (Kt H I d t e D G l B y K x u) λs L hv q m o l1 l2 step=>?_
 have a:∀{r:Rs Fl} {br S'},aT (a0 (n+15) false) a9 sO [rF p.h,rF w,some (.lst (hs.map Ha.v)),some (match fin with|true=>.str "f"|false=>.none),sF (fX bk hs st).2.1.value,some L,some hv,nF] s=some (r,br,S')->cG (n+16) false 439 [.ref p.h,.ref w] S=some (N7 r,S'):=λ{r br S'} h=>by refine bI (ds:=[]) (by trivial) (by trivial) (by trivial) Uw (by trivial) ⟨br,step _ h⟩
 refine g ?_
 unfold fY
 refine gl λA g=>?_
 clear step u;cases fin with
 |false=>
  refine bd (Bu (n:=n) (l0:=.ref p.h) (l1:=.ref w) (l2:=.lst (hs.map Ha.v)) (last:=.none) (hv:=hv) (o7:=none) o) λr br f j=>?_
  have:=a (ah (bF (aE (af rfl) (ao rfl) rfl) b0) f)
  refine g ?_
  refine ⟨s,q,m,?_⟩
  clear f;rcases j with ⟨c,rfl⟩|⟨c,k,i,rfl⟩
  ·exact .inl ⟨c,this⟩
  ·exact .inr ⟨c,k,i,this⟩
 |true=>
  refine ck (z rfl) λM J F=>?_
  refine tF (On (n:=n) (l1:=.ref w) (l2:=.lst (hs.map Ha.v)) (hv:=hv) q (by exact aA ‹_› (aA (gD ‹_› _) (by decide))) (by exact aA ‹_› (by decide)) d (m.zX H d t) M J o F) λS' r br E C f j=>?_
  have:=a f
  refine g ?_
  refine ⟨S',E,m.trans C,?_⟩
  clear f;rcases j with ⟨c,rfl⟩|⟨c,k,i,rfl⟩
  ·exact .inl ⟨c,this⟩
  ·exact .inr ⟨c,k,i,this⟩
end
section
variable {ws:bW}{f:bW->List C->Y5 (Option V)}{it it':It}{acc:List V}{o:Option V}{r:Y5 V}{cs:eS}
theorem nI(hn:kc it (S++[.iter it,.list acc])=some (some (v,it')))(c:rJ I v=some ws)(a:f (ws++bt) (S++[.iter it',.list acc])=some (.ok o,S++[.iter it',.list acc]))(d:acc.length<=1000)
 (h:fj I bt f S.length N (S++[.iter it',.list (acc++o.toList)])=r):fj I bt f S.length (N+1) (S++[.iter it,.list acc])=r:=by
 have e1:(S++[C.iter it,.list acc])[S.length]?.bind C.nb=some it:=by rw [aY];rfl
 have b:(S++[C.iter it',.list acc])[S.length+1]?.bind C.gr=some acc:=by rw [eO (eR _),succ_sub (cJ _),jR];rfl
 (simp -iota only [wC,e1,bq,hn];dsimp only;simp -iota only [bq,c,(show (S++[C.iter it,.list acc]).set S.length (.iter it')=S++[.iter it',.list acc] from by simp),a,tQ])
 clear a;cases o with
 |none=>simpa using h
 |some w=>
  simp -iota only [b,bq,fA (show acc.length<=65536 by exact aA ‹_› (by decide)),(show∀l,(S++[C.iter it',.list acc]).set (S.length+1) (.list l)=S++[.iter it',.list l] from λl=>by simp)]
  exact h
theorem jJ(hn:kc it (S++[.iter it,.list acc])=some none):fj I bt f S.length (N+1) (S++[.iter it,.list acc])=some (.ok (.ref (S.length+1)),S++[.dead,.list acc]):=by
 have e1:(S++[C.iter it,.list acc])[S.length]?.bind C.nb=some it:=by rw [aY];rfl
 simp -iota only [wC,e1,bq,hn,(show (S++[C.iter it,.list acc]).set S.length .dead=S++[.dead,.list acc] from by simp)];rfl
theorem vD(d:gF I ls=some bt)(c:Ev cf ls gt src S v S1)(a:qu I v S1=some it)(b:fj I bt (λbr S=>p9 cf br gt (λS=>ev cf br gt elt S) cs S) S1.length cf.N (S1++[.iter it,.list []])=r):ev cf ls gt (.comp elt src cs I q) S=r:=by simp -iota only [AP,d,bq,c,cP,a];exact b
theorem qS{f:List C->Y5 V}(h:f S=some (.ok v,S1)):p9 cf ls gt f .nil S=some (.ok (some v),S1):=by simp only [NG,h,cP]
theorem HB{f:List C->Y5 V}{r:Y5 (Option V)}(h:Ev cf ls gt src S (.bool true) S1)(a:p9 cf ls gt f cs S1=r):p9 cf ls gt f (.cons src cs) S=r:=by (simp -iota only [yN,h,cP,fD];exact a)
theorem HC{f:List C->Y5 V}(h:Ev cf ls gt src S (.bool false) S1):p9 cf ls gt f (.cons src cs) S=some (.ok none,S1):=by (simp -iota only [yN,h,cP,fD];rfl)
theorem Oo(h:Ev cf ls gt (.comp elt src cs I cp) S v S1):Nx cf gt (.nk i ip elt src cs I cp p) ls S (ls.set i (some v)) S1:=by (simp -iota only [Nx,wW,h];rfl)
theorem lZ(h:ls[i]?.bind id=some (.ref k))(a:S[k]? =some (.var (some v))):Ev cf ls gt (.fC i q) S v S:=by show ou _ S=_;refine h▸?_;simp only [na,a]
end
theorem xF(n:Nat)(hd:Bool)(S:List C)(e:Ec):cG (n+3) hd 732 [e.v] S=some (.ok (.tup [e.v,aX e.l,.str e.t]),S):=by
 have h:cG (n+3) hd 732 [e.v] S=some (.ok (.tup [e.v,aX e.l,.str e.t]),S++[]):=by cases e<;>trivial
 rw [h,dA]
theorem xG:∀(st:du) (x y:Str),(bX (namesOf st) (cB st) x (.str y))=(namesOf (iQ st x y),cB (iQ st x y)):=by
 intro c;induction c with
 |nil=>intro x y;exact rfl
 |cons a r b=>intro x y;have b:=b x y;simp only [namesOf,cB] at b;simp -iota only [namesOf,cB,List.map,jo,jF,b];cases aD a.1 x<;>rfl
noncomputable abbrev tm:Ex:=.idx (.loc 0) (.cst (.int 0))
theorem Xw:(zB 91)=(dO (.ifs (.cmp .Eq tm (.cst (.int 1))) (nE (.asg ⟨[.sub (.loc 1) (.cst (.str "::errorInfo"))],none⟩ none (.ite (.cmp .NotEq (.idx (.loc 0) (.cst (.int 5))) (.cst (.str ""))) (.idx (.loc 0) (.cst (.int 5))) (.idx (.loc 0) (.cst (.int 1))))) (.asg ⟨[.sub (.loc 1) (.cst (.str "::errorCode"))],none⟩ none (.idx (.call 47 o0 (cN (.idx (.loc 0) (.cst (.int 2))))) (.cst (.int 2))))) .nil)):=by trivial
section
variable {st:du}{e:En}
noncomputable def stC(st:du):C:=.dict (namesOf st) (cB st)
theorem vE(h:S[k]? =some (stC st))(a:st.length<=1000)(x y:Str):wP (.ref k) (.str x) (.str y) S=some (S.set k (stC (iQ st x y))):=by have:=ll (v:=.str y) (x:=x) h (fA (by simp [namesOf];exact aA ‹_› (by decide)));rw [this,xG];rfl
theorem ne_str{x y:Str}(h:aD x y=c):eg .NotEq (.str x) (.str y) S=some (!c):=by subst h;rfl
theorem vF(h:S[k]? =some (stC st))(o:st.length<=900):cG (n+4) hd 777 [e.v,.ref k] S=some (.ok .none,S.set k (stC (e.d0 st))):=by
 have j:∀{q1 q2 q3:Pos} {S:List C},Ev (a0 (n+3) hd) [some e.v,rF k] a9 (.idx (.loc 0 q1) (.cst (.int 0) 0 q2) q3) S (.int e.code) S:=bB (af rfl) (ao rfl) (by trivial);refine bI (i:=91) (ds:=[]) (ls0:=[some e.v,rF k]) (r:=.ok .cY) (by trivial) (by trivial) (by trivial) Xw (by trivial) ⟨[some e.v,rF k],?_⟩;unfold En.d0;by_cases a:e.code=1
 ·rw [cQ a];have m:∀{q1 q2 q3 q4 q5 q6 q7 l f c b g:Pos},Ev (a0 (n+3) hd) [some e.v,rF k] a9 (.ite (.cmp .NotEq (.idx (.loc 0 q1) (.cst (.int 5) 0 q2) q3) (.cst (.str "") 0 q4) q5) (.idx (.loc 0 q6) (.cst (.int 5) 0 q7) l) (.idx (.loc 0 f) (.cst (.int 1) 0 c) b) g) S (.str e.ge) S:=λ{q1 q2 q3 q4 q5 q6 q7 l f c b g}=>by
   unfold En.ge;cases d:aD e.info "" with
   |true=>exact iP (aE (bB (af rfl) (ao rfl) (v:=.str e.info) (by trivial)) (ao rfl) (ne_str d)) (bB (af rfl) (ao rfl) (v:=.str e.value) (by trivial))
   |false=>exact oQ (aE (bB (af rfl) (ao rfl) (v:=.str e.info) (by trivial)) (ao rfl) (ne_str d)) (bB (af rfl) (ao rfl) (v:=.str e.info) (by trivial))
  refine Y2 (cn (aE j (ao rfl) (ji a)) (ah (aI m (jD (af rfl) (ao rfl) (vE h (by exact aA ‹_› (by decide)) _ _))) ?_));refine (Y2 (aI (bB (aM (x:=("_law_known",732)) (aa (bB (af rfl) (ao rfl) (v:=e.ec.v) (by trivial)) ag) (by trivial) (xF n hd _ e.ec)) (ao rfl) (v:=.str e.ec.t) (by trivial)) (jD (af rfl) (ao rfl) (vE (ca (c':=stC (iQ st "::errorInfo" e.ge)) h) (aA (fq st) (by exact fw (hY ‹_›) (by decide))) _ _)))).trans ?_;rw [set_set]
 ·rw [df a];refine (Y2 (bF (aE j (ao rfl) (fW a)) b0)).trans ?_;rw [Ze h]
where
 Ze {S:List C} {k:Nat} {c:C} (h:S[k]? =some c):S.set k c=S:=by
  refine ar (List.getElem?_eq_some_iff.mp h) λh1 h2=>?_
  rw [<-h2];simp
end
noncomputable def HD(h:Ha)(e:En):Prop:=∀n hd S,cG (n+12) hd 763 [h.v,e.v] S=some (.ok (.bool (dT h e)),S)
noncomputable def I9(e:En):Prop:=∀n hd S,cG (n+12) hd 749 [e.v] S=some (.ok (.str (gf e)),S)
noncomputable def HE(l e:En):Prop:=∀n S,cG (n+13) false 782 [l.v,e.v] S=some (.ok (l.after e).v,S)
noncomputable def qE(x:Str×du):V:=.tup [.str x.1,.jm (namesOf x.2) (cB x.2)]
structure LP where
 b:Nat
 s:Nat
 kh:Nat
 hl:Nat
 ke:Nat
 r:Nat
structure LS (q:LP) (gG:List Str) (gH:List V) (hs:List Ha) (st:du) (cX:List (Str×du)) (e:En) (S:List C):Prop where
 b:S[q.b]? =some (.dict gG gH)
 s:S[q.s]? =some (stC st)
 kh:S[q.kh]? =some (.var (some (.ref q.hl)))
 hl:S[q.hl]? =some (.list (hs.map Ha.v))
 ke:S[q.ke]? =some (.var (some e.v))
 r:S[q.r]? =some (.list (cX.map qE))
 sb:q.s≠q.b
 kk:q.kh≠q.ke
 hr:q.hl≠q.r
structure s9 (q:LP) (S S':List C):Prop where
 len:S.length<=S'.length
 at_:∀(k:Nat) (c:C),S[k]? =some c->k≠q.s->k≠q.r->k≠q.ke->S'[k]? =some c
theorem s9.refl(q:LP)(S:List C):s9 q S S:=⟨cJ _,λ_ _ h _ _ _=>h⟩
theorem s9.trans{q:LP}(a:s9 q S S')(b:s9 q S' Sv):s9 q S Sv:=⟨aA a.len b.len,λk c h f d e=>b.at_ k c (a.at_ k c h f d e) f d e⟩
theorem s9.push(q:LP)(S T:List C):s9 q S (S++T):=⟨by simp,λ_ _ h _ _ _=>aC h T⟩
section
variable {q:LP}{gG:List Str}{gH:List V}{st:du}{e:En}{x:Str}
theorem LS.push(L:LS q gG gH hs st cX e S)(T:List C):LS q gG gH hs st cX e (S++T):=⟨aC L.b T,aC L.s T,aC L.kh T,aC L.hl T,aC L.ke T,aC L.r T,L.sb,L.kk,L.hr⟩
theorem LS.Ku(L:LS q gG gH hs st cX e S)(a:du):LS q gG gH hs a cX e (S.set q.s (stC a))/\s9 q S (S.set q.s (stC a)):=
 ⟨⟨az L.b L.sb,ca L.s,az L.kh (aO L.s L.kh (λe=>C.noConfusion e)),az L.hl (aO L.s L.hl (λe=>C.noConfusion e)),az L.ke (aO L.s L.ke (λe=>C.noConfusion e)),az L.r (aO L.s L.r (λe=>C.noConfusion e)),L.sb,L.kk,L.hr⟩,by simp,λk c h d f g=>az h (cy d)⟩
theorem LS.Rt(L:LS q gG gH hs st cX e S)(a:List (Str×du)):LS q gG gH hs st a e (S.set q.r (.list (a.map qE)))/\s9 q S (S.set q.r (.list (a.map qE))):=
 ⟨⟨az L.b (aO L.r L.b (λe=>C.noConfusion e)),az L.s (aO L.r L.s (λe=>C.noConfusion e)),az L.kh (aO L.r L.kh (λe=>C.noConfusion e)),az L.hl (cy L.hr),az L.ke (aO L.r L.ke (λe=>C.noConfusion e)),ca L.r,L.sb,L.kk,L.hr⟩,by simp,λk c h g d f=>az h (cy d)⟩
theorem LS.Ru(L:LS q gG gH hs st cX e S)(a:En):LS q gG gH hs st cX a (S.set q.ke (.var (some a.v)))/\s9 q S (S.set q.ke (.var (some a.v))):=
 ⟨⟨az L.b (aO L.ke L.b (λe=>C.noConfusion e)),az L.s (aO L.ke L.s (λe=>C.noConfusion e)),az L.kh (cy L.kk),az L.hl (aO L.ke L.hl (λe=>C.noConfusion e)),ca L.ke,az L.r (aO L.ke L.r (λe=>C.noConfusion e)),L.sb,L.kk,L.hr⟩,by simp,λk c h g f d=>az h (cy d)⟩
theorem Bv(h:S[q.s]? =some (stC st))(a:st.length<=1000):uO hd .dict (.ref q.s) S=some (.jm (namesOf st) (cB st),S):=by
 have:Jw .dict (.ref q.s) S=some (.jm (namesOf st) (cB st)):=by show ((S[q.s]?.bind C.gM).bind λp=>match ble p.1.length 4000 with|true=>some (V.jm p.1 p.2)|false=>none)=_;rw [h];show (match ble (namesOf st).length 4000 with|true=>some (V.jm (namesOf st) (cB st))|false=>none)=_;rw [fA (by simp [namesOf];exact aA ‹_› (by decide))]
 delta uO;rw [this]
theorem Bw{q6 q7:Pos}(L:LS q gG gH hs st cX e S)(f:st.length<=1000)(a:cX.length<=1000)(b:ls[3]? =some (some (.ref q.s)))(c:ls[4]? =some (some (.ref q.r)))(d:Ev cf ls a9 e1 S (.str x) S):
 Nx cf a9 (.exp (.eB (.loc 4 q1) .append q2 (cN (.tup (.cons e1 (cN (.bi .dict q3 (.loc 3 q4) q5))) 0 q6)) q7) q7) ls S ls (S.set q.r (.list ((cX++[(x,st)]).map qE))):=by
 have:=append_at (v:=.tup [.str x,.jm (namesOf st) (cB st)]) L.r (by simpa using a)
 refine j7▸?_
 exact fV (iO (af c) this.1 (aa (cV (aa d (aa (hU (af b) (Bv L.s f)) ag)) rfl) ag) this.2)
noncomputable def bV(e:En):Nat->List Ha->List V
 |_,[]=>[]
 |i,h::r=>match dT h e with
  |true=>.int i::bV e (i+1) r
  |false=>bV e (i+1) r
theorem xH{x:Nat}:bV e x []=[]:=by rfl
theorem gB{x:Nat}{h:Ha}{r:List Ha}:
 bV e x (h::r)=
  match dT h e with
  |true=>V.int ↑x::bV e (x+1) r
  |false=>bV e (x+1) r:=by rfl
theorem eG(h:S[k]? =some (.list l))(hv:l[i]? =some v)(b:l.length<=1000):lB (.ref k) (.int i) S=some v:=by
 have a:=(fx hv)
 have:dJ (i:Int)=true:=cQ (by simp;exact fw ‹_› (aA ‹_› (by decide)));delta lB;dsimp only;rw [this];dsimp only;delta gu;dsimp only;rw [h];exact hv
noncomputable abbrev Kv:Ex:=.call 52 o0 (cA (.idx (.fC 2) (.loc 0)) (.fC 1))
theorem DH(L:LS q gG gH hs st cX e S)(g:hs.length<=100):∀(a pre:List Ha),hs=pre++a->(∀h∈a,HD h e)->∀(acc:List V),acc.length<=pre.length->∀N,a.length<N->
 fj ⟨["place","end","handlers"],1,none,[⟨689,25,689,30⟩],[5,1],⟨.function,[(".0",.local),("place",.local),("_law_fits",.globalImplicit),("end",.free),("handlers",.free)],false,false,[]⟩,some (⟨689,34,689,39⟩,⟨689,34,689,54⟩)⟩ [rF q.ke,rF q.kh] (λbr S=>p9 (a0 (n+13) hd) br a9 (λS=>ev (a0 (n+13) hd) br a9 (.loc 0) S) (cN Kv) S) S.length N (S++[.iter (.fM pre.length a.length),.list acc])=some (.ok (.ref (S.length+1)),S++[.dead,.list (acc++bV e pre.length a)]):=by
 intro p
 induction p with
 |nil=>
  intro pre c u acc s N r
  cases N with
  |zero=>exact absurd r (et _)
  |succ N=>
   simp only [xH,dA]
   exact jJ (by rw [dQ];rfl)
 |cons h a b=>
  intro pre c j acc s N f
  cases N with
  |zero=>exact absurd f (et _)
  |succ N=>
   have l:(hs.map Ha.v)[pre.length]? =some h.v:=by rw [c];simp
   have k:pre.length+a.length+1<=100:=by rw [c] at g;simp at g;exact ‹_›
   have d:=L.push [.iter (.fM (pre.length+1) a.length),.list acc]
   have b:=b (pre++[h]) (by rw [c];simp) (λx m=>j x (j3 _ m)) (acc++(match dT h e with|true=>some (V.int pre.length)|false=>none).toList) (by simp;cases dT h e<;>simp<;>(first|assumption|exact nZ ‹_›)) N (by simpa using f)
   have t:Ev (a0 (n+13) hd) ([iF pre.length]++[rF q.ke,rF q.kh]) a9 Kv (S++[.iter (.fM (pre.length+1) a.length),.list acc]) (.bool (dT h e)) (S++[.iter (.fM (pre.length+1) a.length),.list acc]):=
    aM (x:=("_law_fits",763)) (aa (bB (lZ rfl d.kh) (af rfl) (eG d.hl l (by simp;exact aA ‹_› (by decide)))) (aa (lZ rfl d.ke) ag)) (by trivial) (j h gJ (n+1) hd _)
   refine nI (it':=.fM (pre.length+1) a.length) (ws:=[iF pre.length]) (o:=match dT h e with|true=>some (V.int pre.length)|false=>Option.none) ?_ rfl ?_ (aA ‹_› (oA ‹_› (by decide))) ?_
   ·simp -iota only [wp,cT]
    rw [cQ (by exact Int.natCast_pos.mpr (succ_pos _))]
    show some (some (V.int pre.length,It.fM (pre.length+1) (((a.length+1:Nat):Int) - 1)))=_
    rw [show ((a.length+1:Nat):Int) - 1=a.length by exact pD _]
   ·cases i:dT h e with
    |true=>rw [i] at t;exact HB t (qS (af rfl))
    |false=>rw [i] at t;exact HC t
   ·simp only [de,cT,dQ,fL] at b
    have e1:bV e pre.length (h::a)=(match dT h e with|true=>some (V.int pre.length)|false=>none).toList++bV e (pre.length+1) a:=by simp only [gB];cases dT h e<;>rfl
    rw [e1,<-ff]
    exact_mod_cast b
end
noncomputable def Za(h:Ha):Bool:= !aD h.aB "-"
theorem tr(e:En):∀l:List Ha,bU e true l=l.find? Za:=by
 intro b;induction b with
 |nil=>exact rfl
 |cons h r a=>
  simp -iota only [dk,Bool.true_or,Bool.true_and,find?_cons,Za];cases aD h.aB "-" with
  |true=>exact a
  |false=>rfl
theorem z6{e:En}:∀(hs:List Ha) (i:Nat),(bV e i hs=[]/\bU e false hs=none)\/(∃j r,bV e i hs=.int ((i+j:Nat):Int)::r/\j<hs.length/\bU e false hs=(hs.drop j).find? Za):=by
 intro l;induction l with
 |nil=>intro i;exact .inl ⟨rfl,rfl⟩
 |cons h hs g=>
  intro i;cases a:dT h e with
  |true=>refine .inr ⟨0,bV e (i+1) hs,by simp only [gB,a];rfl,by simp,?_⟩;rw [<-tr e];simp -iota only [dk,a,drop_zero,Bool.or_true]
  |false=>
   refine aQ (g (i+1)) (λf=>aq f λc b=>?_) (λd=>aP d λj r c b k=>?_)
   ·clear f;exact .inl ⟨by simp only [gB,a];exact c,by simp only [dk,a,Bool.or_false,Bool.false_and];exact b⟩
   ·clear d;refine .inr ⟨j+1,r,?_,by simpa using b,?_⟩
    ·simp only [gB,a,c];rw [show i+1+j=i+(j+1) by exact qZ _ _ _]
    ·simp only [dk,a,Bool.or_false,Bool.false_and,drop_succ_cons];exact k
noncomputable def xI(h:Ha):V:=.tup [aX h.names,.str h.aB]
section
variable {q:LP}{gG:List Str}{gH:List V}{st:du}{e:En}{x:Str}
noncomputable abbrev Oq:Ex:=.vQ (.loc 0) (.cst (.int 2)) (.cst .none) (.cst .none) (true,false,false)
noncomputable abbrev Kw:Ex:=.cmp .NotEq (.idx (.loc 0) (.cst (.int 3))) (.cst (.str "-"))
theorem DI{all:List Ha}(g:all.length<=100):∀(a pre:List Ha),all=pre++a->∀(acc:List V),acc.length<=pre.length->∀N,a.length<N->
 fj ⟨["row"],1,none,[⟨691,37,691,40⟩],[],⟨.function,[(".0",.local),("row",.local)],false,false,[]⟩,none⟩ [] (λbr S=>p9 (a0 (n+13) hd) br a9 (λS=>ev (a0 (n+13) hd) br a9 Oq S) (cN Kw) S) S.length N (S++[.iter (.seq (.lst (all.map Ha.v)) pre.length),.list acc])=some (.ok (.ref (S.length+1)),S++[.dead,.list (acc++(a.filter Za).map xI)]):=by
 intro j
 induction j with
 |nil=>
  intro pre b acc l N k
  cases N with
  |zero=>exact absurd k (et _)
  |succ N=>
   simp only [filter_nil,map_nil,dA]
   refine jJ ?_
   have e:(all.map Ha.v)[pre.length]? =none:=by rw [b];simp
   simp only [g5,At,e]
 |cons h a c=>
  intro pre b acc l N f
  cases N with
  |zero=>exact absurd f (et _)
  |succ N=>
   have e:(all.map Ha.v)[pre.length]? =some h.v:=by rw [b];simp
   have i:pre.length+a.length+1<=100:=by rw [b] at g;simp at g;exact ‹_›
   have c:=c (pre++[h]) (by rw [b];simp) (acc++(match Za h with|true=>some (xI h)|false=>none).toList) (by simp;cases Za h<;>simp<;>(first|assumption|exact nZ ‹_›)) N (by simpa using f)
   have t:∀S',Ev (a0 (n+13) hd) ([some h.v]++[]) a9 Kw S' (.bool (Za h)) S':=λS'=>aE (bB (af rfl) (ao rfl) (v:=.str h.aB) (by trivial)) (ao rfl) rfl
   refine nI (it':=.seq (.lst (all.map Ha.v)) (pre.length+1)) (ws:=[some h.v]) (o:=match Za h with|true=>some (xI h)|false=>Option.none) ?_ rfl ?_ (aA ‹_› (oA ‹_› (by decide))) ?_
   ·simp only [g5,At,e]
   ·have t:=t (S++[.iter (.seq (.lst (all.map Ha.v)) (pre.length+1)),.list acc])
    cases d:Za h with
    |true=>rw [d] at t;exact HB t (qS (by trivial))
    |false=>rw [d] at t;exact HC t
   ·simp only [de,cT,dQ,fL] at c
    have e1:((h::a).filter Za).map xI=(match Za h with|true=>some (xI h)|false=>none).toList++(a.filter Za).map xI:=by cases d:Za h<;>simp [d]
    rw [e1,<-ff]
    exact c
theorem jK{m:Nat}{ls1 ls2:bW}{w:V}{o:ci}(d:S[k]? =some (.enum (.lst l) i))(e:l[i]? =some w)(a:pt (.tup [.int i,w]) ls (S.set k (.enum (.lst l) (i+1)))=some (ls1,S1))(c:b ls1 S1=some (.ok .cY,ls2,S2))(h:fk b pt true k m ls2 S2=o):fk b pt true k (m+1) ls S=o:=by
 have:qg true S k=some (some (.tup [.int i,w],.enum (.lst l) (i+1))):=by rw [jd,d];show some (l[i]?.map λw=>(V.tup [.int i,w],C.enum (.lst l) (i+1)))=_;rw [e];rfl
 simp -iota only [wU,gx,this,bq,a,c,Bb,lj,vb,qP,h];dsimp only;simp -iota only [wU,gx,this,bq,a,c,Bb,lj,vb,qP,h]
theorem ln{m:Nat}(c:S[k]? =some (.enum (.lst l) i))(a:l[i]? =none):fk b pt true k (m+1) ls S=some (.ok .cY,ls,S.set k .dead):=by
 have:qg true S k=some none:=by rw [jd,c];show some (l[i]?.map λw=>(V.tup [.int i,w],C.enum (.lst l) (i+1)))=_;rw [a];rfl
 rw [gx,this];rfl
noncomputable abbrev Ot:dL:=dO (.asg ⟨[.sub (.loc 3) (.loc 10)],none⟩ none (.idx (.bw (cA (.idx (.fC 5) (.cst (.int 1))) (.call 50 o0 (cN (.fC 5))))) (.loc 6)))
theorem uv(L:LS q gG gH hs st cX e S)(l:I9 e)(r:st.length<=900){a w:Str}(p:ls[3]? =some (some (.ref q.s)))(c:ls[5]? =some (some (.ref q.ke)))(g:ls[6]? =some (some (.int i)))(o:ls[10]? =some (some (.str a)))(d:[V.str e.value,.str (gf e)][i]? =some (.str w)):
 ∃S',aT (a0 (n+13) hd) a9 Ot ls S=some (.ok .cY,ls,S')/\LS q gG gH hs (iQ st a w) cX e S'/\s9 q S S'/\∀(k:Nat) (v:V) (j:Nat),S[k]? =some (C.enum v j)->S'[k]? =some (C.enum v j):=by
 have b:=L.push [.list [.str e.value,.str (gf e)]]
 obtain ⟨m,f⟩:=b.Ku (iQ st a w)
 refine ⟨_,Y2 (aI (bB (dH (aa (bB (lZ (by rw [c];rfl) L.ke) (ao rfl) (by trivial)) (aa (aM (x:=("_law_options",749)) (aa (lZ (by rw [c];rfl) L.ke) ag) (by trivial) (l (n+1) hd S)) ag)) rfl) (af g) (eG (aY _ _) d (by simp))) (jD (af p) (af o) (vE b.s (aA ‹_› (by decide)) a w))),m,(s9.push q S _).trans f,λk v j h=>az (aC h _) (aO L.s h (λe=>C.noConfusion e))⟩
theorem LS.nJ{c:C}(L:LS q gG gH hs st cX e S)(a:S[k]? =some (.enum v i)):LS q gG gH hs st cX e (S.set k c):=
 ⟨az L.b (aO a L.b (λe=>C.noConfusion e)),az L.s (aO a L.s (λe=>C.noConfusion e)),az L.kh (aO a L.kh (λe=>C.noConfusion e)),az L.hl (aO a L.hl (λe=>C.noConfusion e)),az L.ke (aO a L.ke (λe=>C.noConfusion e)),az L.r (aO a L.r (λe=>C.noConfusion e)),L.sb,L.kk,L.hr⟩
noncomputable abbrev DK(n:Nat)(hd:Bool)(S:List C)(q:LP)(gG:List Str)(gH:List V)(hs:List Ha)(st:du)(cX:List (Str×du))(e:En)(l0:Option V)(l1:Option V)(l2:Option V)(l7:Option V)(l9:Option V)(o6:Option V)(o10:Option V)(names:List Str):Prop:=∃S' br,gC (a0 (n+13) hd) a9 (.fr ⟨[.loc 6,.loc 10],some (0,o0)⟩ (.C9) (.loc 8) Ot) [l0,l1,l2,rF q.s,rF q.r,rF q.ke,o6,l7,some (aX names),l9,o10] S=some (.ok .cY,br,S')/\LS q gG gH hs (Zd st names e.value (gf e)) cX e S'/\s9 q S S'/\(∃p6 Rv,br=[l0,l1,l2,rF q.s,rF q.r,rF q.ke,p6,l7,some (aX names),l9,Rv])
theorem HG(L:LS q gG gH hs st cX e S)(G:I9 e)(N:st.length<=800){l9 o10:Option V}(hn:names.length<=2):DK n hd S q gG gH hs st cX e l0 l1 l2 l7 l9 o6 o10 names:=by
 have o:∀{T:List C},(∀k c,(S++[C.enum (aX names) 0])[k]? =some c->k≠q.s->k≠q.r->k≠q.ke->k≠S.length->T[k]? =some c)->S.length<=T.length->s9 q S T:=λh m=>⟨m,λk c D i f g=>h k c (aC D _) i f g (cc (fx D))⟩
 have z:=L.push [.enum (aX names) 0];have j:(S++[C.enum (aX names) 0])[S.length]? =some (.enum (aX names) 0):=aY _ _;refine gl λM p=>?_;cases names with
 |nil=>
  refine p ?_;refine ⟨_,_,vB (af rfl) (c:=.enum (aX []) 0) rfl (ln j rfl),z.nJ j,o (λk c h _ _ _ d=>az h (cy d)) (by simp),_,_,rfl⟩
 |cons a r=>
  refine gK (uv (n:=n) (hd:=hd) (ls:=[l0,l1,l2,rF q.s,rF q.r,rF q.ke,iF (0:Nat),l7,some (aX (a::r)),l9,sF a]) (z.nJ (c:=.enum (aX (a::r)) 1) j) G (aA ‹_› (by decide)) rfl rfl rfl rfl rfl) λS2 y H v F=>?_;have l:=F _ _ _ (ca j);have t:=λk c h i f g d=>v.at_ k c (az h (cy d)) i f g;have K:S.length<=S2.length:=aA (by simp) v.len;clear F z v;cases r with
  |nil=>
   refine p ?_;exact ⟨_,_,vB (af rfl) (c:=.enum (aX [a]) 0) rfl (jK j rfl rfl y (ln l rfl)),H.nJ l,o (λk c h i f g d=>az (t k c h i f g d) (cy d)) (by simpa using K),_,_,rfl⟩
  |cons b r=>
   have A:=H.nJ (c:=.enum (aX (a::b::r)) 2) l;have u:=ca (c':=C.enum (aX (a::b::r)) 2) l;refine gK (uv (n:=n) (hd:=hd) (ls:=[l0,l1,l2,rF q.s,rF q.r,rF q.ke,iF (1:Nat),l7,some (aX (a::b::r)),l9,sF b]) A G (aA (fq st) (by exact fw (hY ‹_›) (by decide))) rfl rfl rfl rfl rfl) λO E I x w=>?_;have B:=w _ _ _ u;have J:r=[]:=by clear E t A w l u;clear y o p j x B;cases r with|nil=>rfl|cons=>simp at hn
   clear A w u;clear hn;subst J;refine p ?_;exact ⟨_,_,vB (af rfl) (c:=.enum (aX [a,b]) 0) rfl (jK j rfl rfl y (jK l rfl rfl E (ln B rfl))),I.nJ B,o (λk c h i f g d=>az (x.at_ k c (az (t k c h i f g d) (cy d)) i f g) (cy d)) (by have:=x.len;simp at this |-;exact aA ‹_› ‹_›),_,_,rfl⟩
end
theorem MU{lo c st:Ex}{f:Bool×Bool×Bool}{b:List C}{a x y z:V}(j:Ev cf ls gt e S a S1)(g:Ev cf ls gt lo S1 x S2)(h:Ev cf ls gt c S2 y S3)(i:Ev cf ls gt st S3 z b)(d:kg a x y z b=some v):Ev cf ls gt (.vQ e lo c st f sp p) S v b:=by simp only [Ev,FG,j,g,h,i,cP,d];rfl
theorem slice_list(h:S[k]? =some (.list l))(a:l.length<=1000):kg (.ref k) (.int i) .none .none S=some (.lst (kf l (some i) none none)):=by delta kg uK V.fg V.gh cC V.v0 V.eJ C.gr PZ;dsimp only;(simp -iota only [Fe,Ff,bq,h];dsimp only;simp -iota only [bq,Bool.true_and,fA (aA a (show 1000<=65536 by decide))];rfl)
theorem DL(f:l.length<=3)(e:j<l.length):kf l (some j) none none=l.drop j:=by
 rcases l with _|⟨a,l⟩
 ·exact absurd e (et _)
 rcases l with _|⟨b,l⟩
 ·obtain rfl:=lt_one_iff.mp e;trivial
 rcases l with _|⟨c,l⟩
 ·rcases ((le_one_iff_eq_zero_or_eq_one.mp (n5 e))) with rfl|rfl<;>trivial
 rcases l with _|⟨d,l⟩
 ·have e:j<3:=e;rcases (Vg e) with rfl|rfl|rfl<;>trivial
 ·exact absurd f (Nat.not_le_of_lt (lN (lN (lN (lN (zero_le _))))))
theorem xJ{p:Ha->Bool}{h:Ha}:∀{l:List Ha},l.find? p=some h->∃r,l.filter p=h::r:=by
 intro b;induction b with
 |nil=>intro q;exact aG q
 |cons x r a=>
  intro q;cases e:p x with
  |true=>replace q:=(find?_cons_of_pos e)▸q;cases q;exact ⟨_,filter_cons_of_pos e⟩
  |false=>rw [find?_cons_of_neg (by simp [e])] at q;rw [filter_cons_of_neg (by simp [e])];exact a q
theorem DM(e:En):∀(hs:List Ha) (i:Nat),rH (bV e i hs)=true/\(bV e i hs).length<=hs.length:=by
 intro d;induction d with
 |nil=>intro f;exact ⟨rfl,cJ _⟩
 |cons h hs c=>
  intro i;refine aq (c (i+1)) λa b=>?_;simp -iota only [gB];cases dT h e with
  |true=>exact ⟨a,lN b⟩
  |false=>exact ⟨a,nZ b⟩
theorem Ky(h:S[k]? =some (.list l))(a:S[j]? =some (.list []))(b:rH l=true):eg .NotEq (.ref k) (.ref j) S=some (!l.isEmpty):=by show ((S[k]?.bind C.gr).bind λl=>(S[j]?.bind C.gr).bind λm=>match rH l&&m.isEmpty with|true=>some (!l.isEmpty)|false=>none)=_;rw [h,a];show (match rH l&&true with|true=>some (!l.isEmpty)|false=>none)=_;rw [b];rfl
theorem Bx{x:Option V}(h:S[k]? =some (.var x)):ZC (some (.ref k)) v S=some (S.set k (.var (some v))):=by delta ZC;rw [bq,BX,bq,h];rfl
theorem qU{x:Option V}(a:ls[i]?.bind id=some (.ref k))(h:S[k]? =some (.var x)):nq cf gt ⟨[.fC i p],none⟩ none v ls S=some (ls,S.set k (.var (some v))):=by rw [vc];delta jc;dsimp only;rw [sh];delta oJ;dsimp only;rw [a,Bx h];rfl
theorem z7{w:V}{x:Option V}{a:Pos}{t:Nat×Pos}(b:(ls.set i (some v))[j]?.bind id=some (.ref k))(h:S[k]? =some (.var x)):nq cf gt ⟨[.loc i p,.fC j a],some t⟩ none (.tup [v,w]) ls S=some (ls.set i (some v),S.set k (.var (some w))):=by show ((ZC ((ls.set i (some v))[j]?.bind id) w S).map λS'=>(ls.set i (some v),S')).bind (λq=>some (q.1,q.2))=_;rw [b,Bx h];rfl
theorem MV(f:Bool->α){b:Bool}(h:b=true):f b=f true:=by subst h;rfl
theorem Kz{n:Int}{a:Pos×Pos}(c:I.fM=some a)(h:0<=n/\n<1000000):qu I (.int n) S=some (.fM 0 n):=by unfold qu;refine c▸?_;exact MV (λb=>match b with|true=>some (It.fM 0 n)|false=>none) (cQ h)
theorem By{m:Nat}(a:m<=1000):0<=(m:Int)/\(m:Int)<1000000:=⟨Int.natCast_nonneg m,ra (Int.ofNat_le.mpr a) (by decide)⟩
theorem lq(c c':C):(S++[c,c'])[S.length+1]? =some c':=by rw [eO (eR _),succ_sub (cJ _),jR];rfl
section
variable {q:LP}{gG:List Str}{gH:List V}{st:du}{e:En}{x:Str}{fin:Bool}
theorem len_list(h:S[k]? =some (.list l))(a:l.length<=1000):uO hd .len (.ref k) S=some (.int l.length,S):=by
 have:E0 .len (.ref k) S=some (.int l.length):=by delta E0 gu;dsimp only;rw [h];dsimp only;rw [show i6 l=true from fA (aA a (by decide))]
 delta uO Jw;dsimp only;rw [this]
noncomputable abbrev Ou:Ex:=.tup (cA (.bw (cN (.tup (cA (.cst (.str "body")) (.bi .dict o0 (.loc 3)))))) (.idx (.loc 0) (.cst (.str "body"))))
theorem Uy(g:S[q.b]? =some (.dict gG gH))(f:S[q.s]? =some (stC st))(h:S[q.hl]? =some (.list (hs.map Ha.v)))(o:S[q.kh]? =some (.var (some (.ref q.hl))))(a:S[q.ke]? =some (.var none))(d:S.length=q.r)(l:q.s≠q.b)(i:q.kh≠q.ke)(p:st.length<=900)
 (hbody:fieldOf gG gH "body"=some e.v):
 ∃S1,LS q gG gH hs st [("body",st)] e S1/\s9 q S S1/\Nx (a0 (n+13) hd) a9 (.asg ⟨[.loc 4,.fC 5],some (0,o0)⟩ none Ou) [rF q.b,rF q.kh,some (.bool fin),rF q.s,nF,rF q.ke,nF,nF,nF,nF,nF] S [rF q.b,rF q.kh,some (.bool fin),rF q.s,rF q.r,rF q.ke,nF,nF,nF,nF,nF] S1:=by
 refine ⟨(S++[C.list [qE ("body",st)]]).set q.ke (.var (some e.v)),⟨az (aC g _) (aO a g (λe=>C.noConfusion e)),az (aC f _) (aO a f (λe=>C.noConfusion e)),az (aC o _) i.symm,az (aC h _) (aO a h (λe=>C.noConfusion e)),ca (aC a _),?_,l,i,d▸cc ((fx h))⟩,⟨by simp,λk c t u w m=>az (aC t _) (cy m)⟩,?_⟩
 ·rw [<-d]
  exact az (aY _ _) (cc ((fx a)))
 ·skip
  have j:Ev (a0 (n+13) hd) [rF q.b,rF q.kh,some (.bool fin),rF q.s,nF,rF q.ke,nF,nF,nF,nF,nF] a9 Ou S (.tup [.ref S.length,e.v]) (S++[C.list [qE ("body",st)]]):=
   cV (aa (dH (aa (cV (aa (ao rfl) (aa (hU (af rfl) (Bv f (aA p (by decide)))) ag)) rfl) ag) rfl) (aa (bB (af rfl) (ao rfl) (eE (aC g _) hbody)) ag)) rfl
  rw [d] at j
  exact aI j (z7 rfl (aC a _))
theorem mx(L:LS q gG gH hs st cX e S)(a:st.length<=900){e1:En}(h:hM (a0 (n+13) hd) ls a9 es S=some (.ok [e1.v,.ref q.s],S)):
 Nx (a0 (n+13) hd) a9 (.exp (.call 54 q1 es q2) q3) ls S ls (S.set q.s (stC (e1.d0 st))):=
 fV (aM (x:=("_law_noted",777)) h (by trivial) (vF (n:=n+9) L.s a))
noncomputable abbrev Ov:St:=.nk 7 o0 (.loc 0) (.bi .len o0 (.fC 1)) (cN Kv) ⟨["place","end","handlers"],1,none,[⟨689,25,689,30⟩],[5,1],⟨.function,[(".0",.local),("place",.local),("_law_fits",.globalImplicit),("end",.free),("handlers",.free)],false,false,[]⟩,some (⟨689,34,689,39⟩,⟨689,34,689,54⟩)⟩
theorem KA(L:LS q gG gH hs st cX e S)(a:hs.length<=100)(d:∀h∈hs,HD h e):
 Nx (a0 (n+13) hd) a9 Ov [rF q.b,rF q.kh,some (.bool fin),rF q.s,rF q.r,rF q.ke,nF,nF,nF,nF,nF] S [rF q.b,rF q.kh,some (.bool fin),rF q.s,rF q.r,rF q.ke,nF,rF (S.length+1),nF,nF,nF] (S++[.dead,.list (bV e 0 hs)]):=by
 have c:fj ⟨["place","end","handlers"],1,none,[⟨689,25,689,30⟩],[5,1],⟨.function,[(".0",.local),("place",.local),("_law_fits",.globalImplicit),("end",.free),("handlers",.free)],false,false,[]⟩,some (⟨689,34,689,39⟩,⟨689,34,689,54⟩)⟩ [rF q.ke,rF q.kh] (λbr S=>p9 (a0 (n+13) hd) br a9 (λS=>ev (a0 (n+13) hd) br a9 (.loc 0) S) (cN Kv) S) S.length (a0 (n+13) hd).N (S++[.iter (.fM 0 hs.length),.list []])=some (.ok (.ref (S.length+1)),S++[.dead,.list (bV e 0 hs)]):=by have:=DH (n:=n) (hd:=hd) L a hs [] rfl d [] (cJ _) (a0 (n+13) hd).N (ei a (show 100<5000 by decide));rw [nil_append,dQ] at this;exact this
 refine Oo (vD (bt:=[rF q.ke,rF q.kh]) rfl (hU (lZ rfl L.kh) (len_list L.hl (by rw [dG];exact aA a (by decide)))) ?_ c)
 rw [dG]
 exact Kz rfl (By (aA a (by decide)))
noncomputable abbrev Rx:St:=.asg ⟨[.loc 8,.loc 9],some (0,o0)⟩ none (.idx (.comp Oq (.vQ (.fC 1) (.idx (.loc 7) (.cst (.int 0))) (.cst .none) (.cst .none) (true,false,false)) (cN Kw) ⟨["row"],1,none,[⟨691,37,691,40⟩],[],⟨.function,[(".0",.local),("row",.local)],false,false,[]⟩,none⟩) (.cst (.int 0)))
theorem Ow{c:Nat}{r:List V}{h:Ha}(L:LS q gG gH hs st cX e S)(i:hs.length<=3)(l:j<hs.length)(p:S[c]? =some (.list (.int j::r)))(k:r.length<=3)(t:(hs.drop j).find? Za=some h):
 ∃o,Nx (a0 (n+13) hd) a9 Rx [rF q.b,rF q.kh,some (.bool fin),rF q.s,rF q.r,rF q.ke,nF,rF c,nF,nF,nF] S [rF q.b,rF q.kh,some (.bool fin),rF q.s,rF q.r,rF q.ke,nF,rF c,some (aX h.names),sF h.aB,nF] (S++[.dead,o]):=by
 refine ar (xJ t) λf d=>?_
 have a:(hs.drop j).length<=3:=aA (by simp) i
 have u:((h::f).map xI).length<=1000:=by rw [dG,<-d];exact aA (aA (length_filter_le _ _) a) (by decide)
 have m:fj ⟨["row"],1,none,[⟨691,37,691,40⟩],[],⟨.function,[(".0",.local),("row",.local)],false,false,[]⟩,none⟩ [] (λbr S=>p9 (a0 (n+13) hd) br a9 (λS=>ev (a0 (n+13) hd) br a9 Oq S) (cN Kw) S) S.length (a0 (n+13) hd).N (S++[.iter (.seq (.lst ((hs.map Ha.v).drop j)) 0),.list []])=some (.ok (.ref (S.length+1)),S++[.dead,.list ((h::f).map xI)]):=by have:=DI (n:=n) (hd:=hd) (S:=S) (aA a (by decide)) (hs.drop j) [] rfl [] (cJ _) (a0 (n+13) hd).N (ei a (show 3<5000 by decide));rw [nil_append,dQ,d,map_drop] at this;exact this
 have g:(hs.map Ha.v).length<=3:=by rw [dG];exact i
 refine ⟨_,aI (bB (vD (bt:=[]) rfl (MU (lZ rfl L.kh) (bB (af rfl) (ao rfl) (eG p rfl (aA (lN k) (by decide)))) (ao rfl) (ao rfl) (slice_list L.hl (aA g (by decide)))) (by rw [DL g (by rw [dG];exact l)];rfl) m) (ao rfl) (eG (lq _ _) rfl u)) rfl⟩
end
noncomputable abbrev Bz:dL:=(nE (.ifs (.loc 2) (Ez (.exp (.eB (.loc 4) .append o0 (cN (.tup (cA (.cst (.str "f")) (.bi .dict o0 (.loc 3))))))) (.exp (.call 54 o0 (cA (.idx (.loc 0) (.cst (.str "f"))) (.loc 3)))) (.ifs (.cmp .NotEq (.idx (.idx (.loc 0) (.cst (.str "f"))) (.cst (.int 0))) (.cst (.int 0))) (dO (.asg ⟨[.fC 5],none⟩ none (.call 55 o0 (cA (.idx (.loc 0) (.cst (.str "f"))) (.fC 5))))) .nil)) .nil) (.ret (.tup (cA (.loc 4) (.fC 5)))))
noncomputable abbrev VY:St:=.ifs (.cmp .NotEq (.loc 7) (.bw .nil)) (.cons Rx (yj (.fr ⟨[.loc 6,.loc 10],some (0,o0)⟩ (.C9) (.loc 8) Ot) (.exp (.eB (.loc 4) .append o0 (cN (.tup (cA (.loc 9) (.bi .dict o0 (.loc 3))))))) (.exp (.call 54 o0 (cA (.idx (.loc 0) (.loc 9)) (.loc 3)))) (.asg ⟨[.fC 5],none⟩ none (.call 55 o0 (cA (.idx (.loc 0) (.loc 9)) (.fC 5)))))) .nil
theorem XA:(zB 93)=(.cons (.asg ⟨[.loc 4,.fC 5],some (0,o0)⟩ none Ou) (.cons (.exp (.call 54 o0 (cA (.fC 5) (.loc 3)))) (.cons Ov (.cons VY Bz)))):=by trivial
section
variable {q:LP}{gG:List Str}{gH:List V}{st:du}{e:En}{x:Str}{fin:Bool}{l6 l8 l9 l10:Option V}{A:Ends}
theorem ne_int{a b:Int}:eg .NotEq (.int a) (.int b) S=some (!decide (a=b)):=rfl
theorem HI(L:LS q gG gH hs A.2.2 A.1 A.2.1 S)(k:A.2.2.length<=800)(y:A.1.length<=10)(c:fin=true->fieldOf gG gH "f"=some (bk "f").v/\HE (bk "f") A.2.1):
 ∃S' br,aT (a0 (n+13) false) a9 Bz [rF q.b,rF q.kh,some (.bool fin),rF q.s,rF q.r,rF q.ke,l6,l7,l8,l9,l10] S=some (.ok (.ret (.tup [.ref q.r,(match fin with|false=>A|true=>nG bk A).2.1.v])),br,S')/\S'[q.r]? =some (.list ((match fin with|false=>A|true=>nG bk A).1.map qE))/\S'[q.s]? =some (stC (match fin with|false=>A|true=>nG bk A).2.2)/\s9 q S S':=by
 have last:∀{e:En} {st:du} {p:List (Str×du)} {S:List C},LS q gG gH hs st p e S->aT (a0 (n+13) false) a9 (dO (.ret (.tup (cA (.loc 4) (.fC 5))))) [rF q.b,rF q.kh,some (.bool fin),rF q.s,rF q.r,rF q.ke,l6,l7,l8,l9,l10] S=some (.ok (.ret (.tup [.ref q.r,e.v])),[rF q.b,rF q.kh,some (.bool fin),rF q.s,rF q.r,rF q.ke,l6,l7,l8,l9,l10],S):=λL=>Y2 (bQ (cV (aa (af rfl) (aa (lZ rfl L.ke) ag)) rfl))
 cases fin with
 |false=>exact lP S _ (ah (bF (af rfl) b0) (last L)) L.r L.s (s9.refl q S)
 |true=>
  refine aq (c rfl) λz u=>?_
  have d:∀{S:List C} {q1 q2 q3:Pos},S[q.b]? =some (.dict gG gH)->Ev (a0 (n+13) false) [rF q.b,rF q.kh,some (.bool true),rF q.s,rF q.r,rF q.ke,l6,l7,l8,l9,l10] a9 (.idx (.loc 0 q1) (.cst (.str "f") 0 q2) q3) S (bk "f").v S:=λh=>bB (af rfl) (ao rfl) (eE h z)
  have m:=Bw (cf:=a0 (n+13) false) (ls:=[rF q.b,rF q.kh,some (.bool true),rF q.s,rF q.r,rF q.ke,l6,l7,l8,l9,l10]) (e1:=(.cst (.str "f"))) (q1:=o0) (q2:=o0) (q3:=o0) (q4:=o0) (q5:=o0) (q6:=o0) (q7:=o0) L (aA k (by decide)) (aA y (by decide)) rfl rfl (ao rfl)
  refine aq (L.Rt (A.1++[(("f":Str),A.2.2)])) λf j=>?_
  generalize S.set q.r _=S1 at *
  have l:=mx (q1:=o0) (q2:=o0) (q3:=o0) (es:=(cA (.idx (.loc 0) (.cst (.str "f"))) (.loc 3))) f (aA k (by decide)) (aa (d f.b) (aa (af rfl) ag))
  refine aq (f.Ku ((bk "f").d0 A.2.2)) λa i=>?_
  generalize S1.set q.s _=S2 at *
  have t:Ev (a0 (n+13) false) [rF q.b,rF q.kh,some (.bool true),rF q.s,rF q.r,rF q.ke,l6,l7,l8,l9,l10] a9 (.cmp .NotEq (.idx (.idx (.loc 0) (.cst (.str "f"))) (.cst (.int 0))) (.cst (.int 0))) S2 (.bool (!decide ((bk "f").code=0))) S2:=aE (bB (d a.b) (ao rfl) (by trivial)) (ao rfl) ne_int
  (delta nG;dsimp only)
  cases o:decide ((bk "f").code=0) with
  |true=>
   replace t:=o▸t
   exact lP S2 _ (ah (cn (af rfl) (ah m (ah l (Y2 (bF t b0))))) (last a)) a.r a.s (j.trans i)
  |false=>
   replace t:=o▸t
   refine aq (a.Ru ((bk "f").after A.2.1)) λg w=>?_
   exact lP _ _ (ah (cn (af rfl) (ah m (ah l (Y2 (cn t (Y2 (aI (aM (x:=("_law_after",782)) (aa (d a.b) (aa (lZ rfl a.ke) ag)) (by trivial) (u n S2)) (qU rfl a.ke)))))))) (last g)) g.r g.s ((j.trans i).trans w)
theorem HJ(L:LS q gG gH hs st [("body",st)] (bk "body") S)(z:st.length<=700)(a:hs.length<=3)(mD:I9 (bk "body"))(X:∀j,j<hs.length->((hs.drop j).find? Za).isSome=true)
 (g:∀h∈hs,HD h (bk "body")/\h.names.length<=2/\(aD h.aB "-"=false->fieldOf gG gH h.aB=some (bk h.aB).v/\HE (bk h.aB) (bk "body"))):
 ∃S' l6 l7 l8 l9 l10,LS q gG gH hs (fX bk hs st).2.2 (fX bk hs st).1 (fX bk hs st).2.1 S'/\s9 q S S'/\(fX bk hs st).1.length<=2/\(fX bk hs st).2.2.length<=st.length+6/\
  ∀o,aT (a0 (n+13) false) a9 Bz [rF q.b,rF q.kh,some (.bool fin),rF q.s,rF q.r,rF q.ke,l6,l7,l8,l9,l10] S'=o->aT (a0 (n+13) false) a9 (.cons (.exp (.call 54 o0 (cA (.fC 5) (.loc 3)))) (.cons Ov (.cons VY Bz))) [rF q.b,rF q.kh,some (.bool fin),rF q.s,rF q.r,rF q.ke,nF,nF,nF,nF,nF] S=o:=by
 have P:=mx (n:=n) (hd:=false) (q1:=o0) (q2:=o0) (q3:=o0) (ls:=[rF q.b,rF q.kh,some (.bool fin),rF q.s,rF q.r,rF q.ke,nF,nF,nF,nF,nF]) (es:=(cA (.fC 5) (.loc 3))) L (aA z (by decide)) (aa (lZ rfl L.ke) (aa (af rfl) ag))
 refine aq (L.Ku ((bk "body").d0 st)) λN T=>?_
 generalize S.set q.s _=S2 at *
 have O:=KA (n:=n) (hd:=false) (fin:=fin) N (aA a (by decide)) (λh c=>(g h c).1)
 have L3:=N.push [.dead,.list (bV (bk "body") 0 hs)]
 have U:=T.trans (s9.push q S2 [.dead,.list (bV (bk "body") 0 hs)])
 have k3:=lq (S:=S2) .dead (.list (bV (bk "body") 0 hs))
 generalize S2++[C.dead,.list (bV (bk "body") 0 hs)]=S3 at *
 generalize S2.length+1=k7 at *
 refine aq (DM (bk "body") hs 0) λZ K=>?_
 have u:=L3.push [C.list []]
 have J:=U.trans (s9.push q S3 [C.list []])
 have w:=aC k3 [C.list []]
 have f:Ev (a0 (n+13) false) [rF q.b,rF q.kh,some (.bool fin),rF q.s,rF q.r,rF q.ke,nF,rF k7,nF,nF,nF] a9 (.cmp .NotEq (.loc 7) (.bw .nil)) S3 (.bool (!(bV (bk "body") 0 hs).isEmpty)) (S3++[C.list []]):=aE (af rfl) (dH ag rfl) (Ky w (aY _ _) Z)
 generalize S3++[C.list []]=S4 at *
 have B:=fG (bk "body") st
 unfold fX
 refine gl λG d=>?_
 refine aQ (z6 (e:=bk "body") hs 0) (λi=>aq i λt l=>?_) (λk=>aP k λj r t l h3=>?_)
 ·clear i
  refine d ?_
  refine l▸?_
  replace f:=t▸f
  exact Md S4 none (some (.ref k7)) none none none u J (eR 1) (aA B (eP (by decide) _)) (λo y=>ah P (ah O (ah (bF f b0) y)))
 ·clear k
  refine ar (ER (X j l)) λh c=>?_
  refine d ?_
  (refine h3▸?_;refine c▸?_)
  rw [t,fL] at w
  rw [t] at f K
  have R:h∈hs:=mem_of_mem_drop (mem_of_find?_eq_some c)
  refine gl λG d=>?_
  refine ck (g h R) λf1 Q m=>?_
  refine aq (m (by have:=find?_some c;simpa [Za] using this)) λm f4=>?_
  refine ar (Ow (n:=n) (hd:=false) (fin:=fin) u a l w (aA (eR _) (aA K a)) c) λF XB=>?_
  have W:=u.push [.dead,F]
  have V:=J.trans (s9.push q S4 [.dead,F])
  refine d ?_
  generalize S4++[C.dead,F]=S5 at *
  refine gl λG d=>?_
  refine gL (HG (n:=n) (hd:=false) (l0:=some (.ref q.b)) (l1:=some (.ref q.kh)) (l2:=some (.bool fin)) (l7:=some (.ref k7)) (l9:=some (.str h.aB)) (o6:=none) (o10:=none) W mD (aA B (aA (gD z 2) (by decide))) Q) λS6 YV XC H F6 i=>?_;refine dZ i λA E k=>?_;clear i;subst k
  have M:=aA (o8 ((bk "body").d0 st) h.names (bk "body").value (gf (bk "body"))) (gD B 2)
  have I:=aA M (gD (gD z 2) 2)
  have XD:=Bw (cf:=a0 (n+13) false) (ls:=[rF q.b,rF q.kh,some (.bool fin),rF q.s,rF q.r,rF q.ke,A,rF k7,some (aX h.names),sF h.aB,E]) (e1:=(.loc 9)) (q1:=o0) (q2:=o0) (q3:=o0) (q4:=o0) (q5:=o0) (q6:=o0) (q7:=o0) H (aA I (by decide)) (aA (cJ 1) (by decide)) rfl rfl (af rfl)
  refine aq (H.Rt ([(("body":Str),st)]++[(h.aB,Zd ((bk "body").d0 st) h.names (bk "body").value (gf (bk "body")))])) λD F7=>?_
  refine d ?_
  generalize S6.set q.r _=S7 at *
  have XF:=mx (n:=n) (hd:=false) (q1:=o0) (q2:=o0) (q3:=o0) (ls:=[rF q.b,rF q.kh,some (.bool fin),rF q.s,rF q.r,rF q.ke,A,rF k7,some (aX h.names),sF h.aB,E]) (es:=(cA (.idx (.loc 0) (.loc 9)) (.loc 3))) D (aA I (by decide)) (aa (bB (af rfl) (af rfl) (eE D.b m)) (aa (af rfl) ag))
  refine aq (D.Ku ((bk h.aB).d0 (Zd ((bk "body").d0 st) h.names (bk "body").value (gf (bk "body"))))) λp Y=>?_
  generalize S7.set q.s _=S8 at *
  refine aq (p.Ru ((bk h.aB).after (bk "body"))) λL9 F9=>?_
  exact ⟨_,A,some (.ref k7),some (aX h.names),some (.str h.aB),E,L9,(((V.trans F6).trans F7).trans Y).trans F9,cJ 2,aA (fG _ _) (gD M 2),λo y=>
   ah P (ah O (ah (cn f (ah XB (ah XC (ah XD (ah XF (Y2 (aI (aM (x:=("_law_after",782)) (aa (bB (af rfl) (af rfl) (eE p.b m)) (aa (lZ rfl p.ke) ag)) (by trivial) (f4 n S8)) (qU rfl p.ke)))))))) y))⟩
noncomputable abbrev KD(n:Nat)(S:List C)(hs:List Ha)(st:du)(bk:Str->En)(fin:Bool)(b:Nat)(s:Nat)(hl:Nat):Prop:=∃r S',cG (n+14) false 787 [.ref b,.ref hl,.bool fin,.ref s] S=some (.ok (.tup [.ref r,(fY bk hs fin st).2.1.v]),S')/\S'[r]? =some (.list ((fY bk hs fin st).1.map qE))/\S'[s]? =some (stC (fY bk hs fin st).2.2)/\S.length<=r/\∀(k:Nat) (c:C),S[k]? =some c->k≠s->S'[k]? =some c
theorem Ox{b s f:Nat}(H:S[b]? =some (.dict gG gH))(E:S[s]? =some (stC st))(m:S[f]? =some (.list (hs.map Ha.v)))(u:s≠b)(i:st.length<=700)(e:hs.length<=3)(a:fieldOf gG gH "body"=some (bk "body").v)(G:I9 (bk "body"))(B:∀j,j<hs.length->((hs.drop j).find? Za).isSome=true)(g:∀h∈hs,HD h (bk "body")/\h.names.length<=2/\(aD h.aB "-"=false->fieldOf gG gH h.aB=some (bk h.aB).v/\HE (bk h.aB) (bk "body")))(d:fin=true->fieldOf gG gH "f"=some (bk "f").v/\HE (bk "f") (fX bk hs st).2.1):KD n S hs st bk fin b s f:=by
 have N:=(fx m)
 refine gl λM F=>?_;refine bc (Uy (n:=n) (hd:=false) (fin:=fin) (q:=⟨b,s,S.length+1,f,S.length,S.length+2⟩) (S:=S++[.var Option.none,.var (some (.ref f))]) (aC H _) (aC E _) (aC m _) (lq _ _) (aY _ _) (by simp) u (g2 (lL _)) (aA i (by decide)) a) λS1 D z J=>?_;refine LZ (HJ (n:=n) (fin:=fin) D i e G B g) λS2 l6 l7 l8 l9 l10 I x t o C=>?_;refine gL (HI (n:=n) (l6:=l6) (l7:=l7) (l8:=l8) (l9:=l9) (l10:=l10) I (aA o (aA (gD i 6) (by decide))) (aA t (by decide)) d) λS3 w L K A y=>?_;refine F ?_;refine PL (S.length+2) S3 (Bs (ds:=[]) (ls0:=[rF b,rF (S.length+1),some (.bool fin),rF s,nF,rF S.length,nF,nF,nF,nF,nF]) (r:=.ok (.ret (.tup [.ref (S.length+2),(fY bk hs fin st).2.1.v]))) (by trivial) (by trivial) (by trivial) XA (by trivial) ⟨w,ah J (C _ L)⟩) K A (bY _ 2) (λk c h p=>?_);have l:=(fx h)
 exact ((z.trans x).trans y).at_ k c (aC h _) p (cc (pr (pr l))) (cc l)
end
noncomputable def Zq:List Str:=["v","a b","","$x;","[y]","#c"]
noncomputable def Oy:List Ec:=[.ab,.abcD,.none,.abc,.empty,.ba]
noncomputable def nL:List Str:=Zq++(["I","I\nJ"]:List Str)
noncomputable def jL:du:=[("-during","old"),("-k","w")]
noncomputable def BA:List En:=[⟨0,"",.none,0,0,"",[]⟩,⟨2,"",.none,1,0,"",[]⟩,⟨2,"",.none,1,1,"",[]⟩,⟨2,"",.none,1,3,"",[]⟩,⟨2,"",.none,2,0,"",[]⟩,⟨2,"",.none,2,1,"",[]⟩,⟨2,"",.none,2,3,"",[]⟩,⟨3,"",.none,0,0,"",[]⟩,⟨4,"",.none,0,0,"",[]⟩,⟨5,"",.none,0,0,"",[]⟩,⟨-1,"",.none,0,0,"",[]⟩]
noncomputable def Ry:List En:=Oy.flatMap λc=>nL.flatMap λt=>[⟨1,t,c,0,0,"",[]⟩,⟨1,t,c,0,0,"",jL⟩]
noncomputable def lu:List Str:=(["-code","0","1","2","3","4","5","-1","-level","-errorcode","-errorinfo","-during","-k","old","w"]:List Str)++nL++Oy.map Ec.t
noncomputable def HK:List Str:=lu++BA.map gf++Ry.map gf
noncomputable def Zr:List Nat:=[9,10,32,34,35,36,45,48,49,50,51,52,53,59,65,66,67,68,73,74,78,79,69,91,93,97,98,99,100,101,102,103,105,107,108,110,111,114,117,118,119,120,121,123]
structure Ms where
 d:Int
 b:Bool
 w:Bool
 e:Bool
noncomputable def ZO(l:List Nat)(c:Nat)(o:Bool):Bool:=match l.any (beq c) with
 |true=>true
 |false=>o
noncomputable def BB(s:Ms)(c:Nat):Ms:=⟨match beq c 123 with|true=>s.d+1|false=>s.d,ZO [93,34,91,36,59,32,9,10] c s.b,ZO [91,36,59,32,9,10] c s.w,ZO [93,34] c s.e⟩
noncomputable def xK:Ms->List Nat->Option Ms
 |s,[]=>some s
 |s,c::r=>match beq c 125 with
  |true=>(match decide (s.d - 1<0) with
   |true=>none
   |false=>xK {s with d:=s.d - 1} r)
  |false=>(match Zr.any (beq c) with
   |true=>xK (BB s c) r
   |false=>none)
theorem KE{x:Ms}{c:Nat}{r:List Nat}:
 xK x (c::r)=
  match beq c 125 with
  |true=>
   match decide (Ms.d x - 1<0) with
   |true=>none
   |false=>xK {d:=Ms.d x - 1,b:=Ms.b x,w:=Ms.w x,e:=Ms.e x} r
  |false=>
   match List.any Zr (beq c) with
   |true=>xK (BB x c) r
   |false=>none:=by rfl
noncomputable def ch(c:Nat):V:=.str ⟨#[c]⟩
section
variable {t:bW->List C->Y5 V}{ls1 ls2:bW}{o:ci}{bb:dL}
theorem nM(h:t ls S=some (.ok (.bool true),S1))(c:b ls S1=some (.ok .cY,ls2,S2))(a:jV t b n ls2 S2=o):jV t b (n+1) ls S=o:=by (simp -iota only [wT,h,ju,fD,c,lj];exact a)
theorem pe(h:t ls S=some (.ok (.bool false),S1)):jV t b (n+1) ls S=some (.ok .cY,ls,S1):=by (simp -iota only [wT,h,ju,fD];rfl)
theorem HL(h:jV (λls S=>ev cf ls gt e S) (λls S=>aT cf gt bb ls S) cf.N ls S=o):gC cf gt (.A9 e bb q) ls S=o:=by exact h
end
noncomputable abbrev VZ:St:=.ifs (.cmp .Eq (.loc 9) (.cst (.str "{"))) (dO (.aug 7 o0 .Add (.cst (.int 1)))) (dO (.ifs (.cmp .Eq (.loc 9) (.cst (.str "}"))) (nE (.aug 7 o0 .Sub (.cst (.int 1))) (.ifs (.cmp .Lt (.loc 7) (.cst (.int 0))) (dO (.ret (.cst (.str "escape")))) .nil)) (dO (.ifs (.cmp .In (.loc 9) (.tup (cA (.cst (.str "]")) (.cst (.str "\""))))) (nE (.asg ⟨[.loc 3],none⟩ none (.cst (.bool true))) (.asg ⟨[.loc 6],none⟩ none (.cst (.bool true)))) (dO (.ifs (.lS .Or (.cmp .In (.loc 9) (.tup (qR (.cst (.str "[")) (.cst (.str "$")) (.cst (.str ";")) (.cst (.str "\\"))))) (cN (.call 5 o0 (cN (.loc 9))))) (Ez (.asg ⟨[.loc 3],none⟩ none (.cst (.bool true))) (.asg ⟨[.loc 5],none⟩ none (.cst (.bool true))) (.ifs (.cmp .Eq (.loc 9) (.cst (.str "\\"))) (nE (.ifs (.lS .Or (.cmp .Eq (.loc 8) (.bi .len o0 (.loc 0))) (cN (.cmp .Eq (.idx (.loc 0) (.loc 8)) (.cst (.str "\n"))))) (dO (.ret (.cst (.str "escape")))) .nil) (.ifs (.cmp .In (.idx (.loc 0) (.loc 8)) (.tup (xy (.cst (.str "{")) (.cst (.str "}")) (.cst (.str "\\"))))) (dO (.aug 8 o0 .Add (.cst (.int 1)))) .nil)) .nil)) .nil))))))
noncomputable abbrev Rz:St:=VZ
noncomputable abbrev MW:dL:=.cons (.asg ⟨[.loc 9],none⟩ none (.idx (.loc 0) (.loc 8))) (nE (.aug 8 o0 .Add (.cst (.int 1))) Rz)
noncomputable abbrev yl(t:Str)(l2:V)(s:Ms)(i:Int)(o9:Option V):bW:=[sF t,some (.bool false),some l2,some (.bool s.b),some (.bool false),some (.bool s.w),some (.bool s.e),iF s.d,iF i,o9]
noncomputable def sC(c:Nat)(S:List C):List C:=match ([123,93,34,91,36,59].any (beq c)) with
 |true=>S
 |false=>S++[]
theorem RA(c:Nat)(S:List C):sC c S=S:=by
 unfold sC;(cases _:List.any [123,93,34,91,36,59] (beq c);rotate_left)
 ·rfl
 ·exact dA S
theorem RB(n:Nat)(hd:Bool)(S:List C)(t:Str)(l2:V)(d i:Int)(x y z:Bool):(Zr.map λc=>gC (a0 (n+2) hd) a9 Rz (yl t l2 ⟨d,x,y,z⟩ i (some (ch c))) S)=Zr.map λc=>some (.ok .cY,yl t l2 (BB ⟨d,x,y,z⟩ c) i (some (ch c)),sC c S):=by trivial
theorem my{α β:Type}{f g:α->β}:∀{l:List α},l.map f=l.map g->∀{x:α},x∈l->f x=g x
 |a::r,h,x,b=>by
  have c:=cS h;refine aQ (nV b) (λd=>?_) (λb=>?_)
  ·subst d;exact c.1
  ·exact my c.2 b
theorem KG{l:List Nat}{c:Nat}(h:l.any (beq c)=true):c∈l:=by refine ae (List.any_eq_true.mp h) λx a e=>?_;refine (c5 e)▸?_;exact a
theorem RD{t:Str}{l2:V}{s:Ms}{i:Int}{c:Nat}(h:Zr.any (beq c)=true):gC (a0 (n+2) hd) a9 Rz (yl t l2 s i (some (ch c))) S=some (.ok .cY,yl t l2 (BB s c) i (some (ch c)),S):=by have:=my (RB n hd S t l2 s.d i s.b s.w s.e) (KG h);rw [RA] at this;exact this
theorem DN{a b:Int}(h:decide (a<b)=false):eg .Lt (.int a) (.int b) S=some false:=by rw [<-h];rfl
theorem RE{t:Str}{l2:V}{s:Ms}{i:Int}(h:decide (s.d - 1<0)=false):gC (a0 (n+2) hd) a9 Rz (yl t l2 s i (some (ch 125))) S=some (.ok .cY,yl t l2 {s with d:=s.d - 1} i (some (ch 125)),S):=by refine bF (aE (af rfl) (ao rfl) (by trivial)) (Y2 (cn (aE (af rfl) (ao rfl) (by trivial)) ?_));exact ah (Bq rfl (ao rfl) rfl) (Y2 (bF (aE (af rfl) (ao rfl) (DN h)) b0))
theorem len_str{t:Str}(h:t.length<=10000):uO hd .len (.str t) S=some (.int t.length,S):=by
 have:E0 .len (.str t) S=some (.int t.length):=by simp only [Nq,fA (aA h (by decide:10000<=16777216))]
 delta uO Jw;dsimp only;rw [this]
theorem BC{t:Str}{c:Nat}(h:t.cps.toList[i]? =some c)(d:t.length<=10000):lB (.str t) (.int i) S=some (ch c):=by
 have a:=(fx h)
 have b:t.cps.toList.length=t.length:=rfl;have:dJ (i:Int)=true:=cQ (by simp;exact fw ‹_› (aA ‹_› (by decide)));simp -iota only [JI,this];show (t.cps.toList[i]?).map _=_;refine h▸?_;rfl
theorem Oz{t:Str}{l2:V}(A:t.length<=4000):∀(a pre:List Nat),t.cps.toList=pre++a->∀(s j:Ms) (b:Option V) (N:Nat),xK s a=some j->a.length<N->
 ∃i,jV (λls S=>ev (a0 (n+2) hd) ls a9 (.cmp .Lt (.loc 8) (.bi .len o0 (.loc 0))) S) (λls S=>aT (a0 (n+2) hd) a9 MW ls S) N (yl t l2 s pre.length b) S=some (.ok .cY,yl t l2 j t.length i,S):=by
 intro y
 induction y with
 |nil=>
  intro pre f s j b N h g
  cases N with
  |zero=>exact absurd g (et _)
  |succ N=>
   cases h
   have x:pre.length=t.length:=by show _=t.cps.toList.length;rw [f];simp
   rw [x]
   exact ⟨b,pe (aE (af rfl) (hU (af rfl) (len_str (aA ‹_› (by decide)))) (DN (by simp)))⟩
 |cons c a w=>
  intro pre f s j b N h g
  cases N with
  |zero=>exact absurd g (et _)
  |succ N=>
   have q:t.length=pre.length+a.length+1:=by show t.cps.toList.length=_;rw [f];simp;exact rfl
   have m:t.cps.toList[pre.length]? =some c:=by rw [f];simp
   have p:Ev (a0 (n+2) hd) (yl t l2 s pre.length b) a9 (.cmp .Lt (.loc 8) (.bi .len o0 (.loc 0))) S (.bool true) S:=aE (af rfl) (hU (af rfl) (len_str (aA ‹_› (by decide)))) (by show some (decide ((pre.length:Int)<(t.length:Int)))=_;rw [cQ (pE ‹_›)])
   have u:∀{o:ci} {k:Ms},gC (a0 (n+2) hd) a9 Rz (yl t l2 s ((pre.length+1:Nat):Int) (some (ch c))) S=some (.ok .cY,yl t l2 k ((pre.length+1:Nat):Int) (some (ch c)),S)->aT (a0 (n+2) hd) a9 MW (yl t l2 s pre.length b) S=some (.ok .cY,yl t l2 k ((pre.length+1:Nat):Int) (some (ch c)),S):=λh=>
    ah (aI (bB (af rfl) (af rfl) (BC m (aA ‹_› (by decide)))) aU) (ah (Bq rfl (ao rfl) (v:=.int ((pre.length+1:Nat):Int)) rfl) (Y2 h))
   have next:=λk z=>by have:=w (pre++[c]) (by rw [f];simp) k j (some (ch c)) N z (by simpa using g);simp only [de,cT,dQ,fL] at this;exact this
   simp -iota only [KE] at h
   (revert h;clear f g m;cases _:beq c 125;rotate_left;all_goals (intro h;dsimp only at h))
   ·rename_i e
    have e:=c5 e
    subst e
    (revert h;cases _:Decidable.decide (Internal.Ms.d s - 1<0);rotate_left;all_goals (intro h;dsimp only at h))
    ·cases h
    ·rename_i l
     refine ar (next _ h) λi r=>?_
     exact ⟨i,nM p (u (o:=Option.none) (RE l)) r⟩
   ·(revert h;cases _:List.any Zr (beq c);rotate_left;all_goals (intro h;dsimp only at h))
    ·rename_i l
     refine ar (next _ h) λi r=>?_
     exact ⟨i,nM p (u (o:=Option.none) (RD l)) r⟩
    ·cases h
theorem RI(b:Ev cf ls gt e S (.bool c) S1)(a:mB cf ls gt .Or c r S1=some (.ok v,S2)):Ev cf ls gt (.lS .Or e r p) S v S2:=by (simp -iota only [Ev,yP,b,cP,fD];exact a)
theorem OA(b:Ev cf ls gt e S (.bool c) S1)(a:mB cf ls gt .Or c r S1=some (.ok v,S2)):mB cf ls gt .Or false (.cons e r) S=some (.ok v,S2):=by (simp -iota only [FA,b,cP,fD];exact a)
theorem HM:mB cf ls gt .Or true (.cons e r) S=some (.ok (.bool true),S):=by rfl
theorem nN{x y:Str}(h:x.length+y.length<=16777216):mm .Add (.str x) (.str y) S=some (.str (x++y)):=by
 have:yI .Add (.str x) (.str y)=some (.str (x++y)):=by show (if Fv x y then _ else _)=_;exact (bx (show Fv x y=true from cQ h))▸rfl
 simp only [JD,this]
theorem eq_str{x y:Str}(h:aD x y=c):eg .Eq (.str x) (.str y) S=some c:=by subst h;rfl
noncomputable def Zj(c:Nat):Bool:=([("{":Str),"\""]:List Str).any (aD · ⟨#[c]⟩)
noncomputable def gI(t:Str):Bool:=ble t.length 900&&match t.cps.toList with
 |[]=>true
 |c::r=>(match xK ⟨0,Zj c,Zj c,false⟩ (c::r) with
  |some s=>decide (s.d=0)&&(match s.b with
   |true=> !(s.e&& !s.w)&& !Zc t
   |false=>Zc t)
  |none=>false)
theorem xL:HK.all gI=true:=by trivial
noncomputable abbrev RJ:St:=(.A9 (.cmp .Lt (.loc 8) (.bi .len o0 (.loc 0))) (Ez (.asg ⟨[.loc 9],none⟩ none (.idx (.loc 0) (.loc 8))) (.aug 8 o0 .Add (.cst (.int 1))) VZ))
noncomputable abbrev OB:dL:=Ez (.ifs (.cmp .Gt (.loc 7) (.cst (.int 0))) (dO (.ret (.cst (.str "escape")))) .nil) (.ifs (.loc 3) (dO (.ret (.ite (.lS .And (.loc 6) (cN (.nt (.loc 5)))) (.cst (.str "mask")) (.cst (.str "brace"))))) .nil) (.ret (.ite (.loc 4) (.cst (.str "brace")) (.cst (.str "none"))))
theorem XH:(zB 27)=(.cons (.ifs (.cmp .Eq (.loc 0) (.cst (.str ""))) (dO (.ret (.cst (.str "brace")))) .nil) (.cons (.asg ⟨[.loc 2],none⟩ none tm) (.cons (.asg ⟨[.loc 3],none⟩ none (.cmp .In (.loc 2) (.tup (cA (.cst (.str "{")) (.cst (.str "\"")))))) (.cons (.asg ⟨[.loc 4],none⟩ none (.lS .And (.loc 1) (cN (.cmp .Eq (.loc 2) (.cst (.str "#")))))) (.cons (.asg ⟨[.loc 5],none⟩ none (.lS .Or (.loc 3) (cN (.loc 4)))) (.cons (.asg ⟨[.loc 6],none⟩ none (.cst (.bool false))) (.cons (.asg ⟨[.loc 7,.loc 8],some (0,o0)⟩ none (.tup (cA (.cst (.int 0)) (.cst (.int 0))))) (.cons RJ OB)))))))):=by trivial
noncomputable def qm(t:Str):Str:=match Zc t with
 |true=>"none"
 |false=>"brace"
section
variable {t:Str}
theorem XI{a:Int}(h:a=0):eg .Gt (.int a) (.int 0) S=some false:=by subst h;rfl
theorem z8{a b:Bool}(h:(!(a&& !b))=true):(a&& !b)=false:=by cases a<;>cases b<;>first|rfl|exact eI h
theorem OC{a b:Bool}{p2:Pos}(c:ls[i]? =some (some (.bool a)))(d:ls[j]? =some (some (.bool b))):Ev cf ls gt (.lS .And (.loc i p1) (cN (.nt (.loc j p2) p3)) p4) S (.bool (a&& !b)) S:=by
 cases a with
 |true=>exact gz (af c) (kR (DG (af d)) fU)
 |false=>exact gz (af c) sG
theorem KH(h:gI t=true):cG (n+3) hd 293 [.str t,.bool false] S=some (.ok (.str (qm t)),S):=by
 refine bI (ds:=[]) (ls0:=[sF t,some (.bool false),nF,nF,nF,nF,nF,nF,nF,nF]) (r:=.ok (.ret (.str (qm t)))) (by trivial) (by trivial) (by trivial) XH (by trivial) ?_;refine aq (nU h) λf h=>?_;have f:=cZ f;cases a:t.cps.toList with
 |nil=>have e:t=("":Str):=Str.ext' (Array.ext' (by rw [a];rfl));clear h;subst e;exact ⟨_,eD (cn (aE (af rfl) (ao rfl) (eq_str (by trivial))) (Y2 (bQ (ao rfl)))) trivial⟩
 |cons c r=>
  rw [a] at h;dsimp only at h;(revert h;cases _:xK {d:=0,b:=Zj c,w:=Zj c,e:=Bool.false} (c::r);rotate_left;all_goals intro h)
  ·rename_i s hs;refine aq (nU h) λp g=>?_;have p:=f9 p;have C:aD t ""=false:=dR.mpr λe=>by clear h g;clear f;subst e;cases a
   have A:∀S',eg .In (ch c) (.tup [.str "{",.str "\""]) S'=some (Zj c):=λS'=>rfl;refine ar (Oz (n:=n) (hd:=hd) (S:=S) (l2:=ch c) (aA f (by decide)) (c::r) [] a ⟨0,Zj c,Zj c,false⟩ s none 5000 hs (by have:t.cps.toList.length=t.length:=rfl;rw [a] at this;exact ei (pA this f) (by decide))) λm q=>?_;have z:lB (.str t) (.int 0) S=some (ch c):=BC (by rw [a];rfl) (by exact aA ‹_› (by decide));have y:mB (a0 (n+2) hd) [sF t,some (.bool false),some (ch c),some (.bool (Zj c)),some (.bool false),nF,nF,nF,nF,nF] a9 .Or (Zj c) (cN (.loc 4)) S=some (.ok (.bool (Zj c)),S):=by
    cases Zj c with
    |true=>exact HM
    |false=>exact OA (af rfl) fU
   have fin:∀o,aT (a0 (n+2) hd) a9 OB (yl t (ch c) s t.length m) S=o->aT (a0 (n+2) hd) a9 (.cons (.ifs (.cmp .Eq (.loc 0) (.cst (.str ""))) (dO (.ret (.cst (.str "brace")))) .nil) (.cons (.asg ⟨[.loc 2],none⟩ none tm) (.cons (.asg ⟨[.loc 3],none⟩ none (.cmp .In (.loc 2) (.tup (cA (.cst (.str "{")) (.cst (.str "\"")))))) (.cons (.asg ⟨[.loc 4],none⟩ none (.lS .And (.loc 1) (cN (.cmp .Eq (.loc 2) (.cst (.str "#")))))) (.cons (.asg ⟨[.loc 5],none⟩ none (.lS .Or (.loc 3) (cN (.loc 4)))) (.cons (.asg ⟨[.loc 6],none⟩ none (.cst (.bool false))) (.cons (.asg ⟨[.loc 7,.loc 8],some (0,o0)⟩ none (.tup (cA (.cst (.int 0)) (.cst (.int 0))))) (.cons RJ OB)))))))) [sF t,some (.bool false),nF,nF,nF,nF,nF,nF,nF,nF] S=o:=λo v=>by refine ah (bF (aE (af rfl) (ao rfl) (eq_str C)) b0) (ah (aI (bB (af rfl) (ao rfl) z) aU) (ah (aI (aE (af rfl) (cV (aa (ao rfl) (aa (ao rfl) ag)) rfl) (A S)) aU) (ah (aI (gz (af rfl) sG) aU) (ah (aI (RI (af rfl) y) aU) (ah (aI (ao rfl) aU) (ah (aI (cV (aa (ao rfl) (aa (ao rfl) ag)) rfl) rfl) (ah (HL ?_) v)))))));exact q
   refine ⟨yl t (ch c) s t.length m,fin _ (ah (bF (aE (af rfl) (ao rfl) (XI p)) b0) ?_)⟩;cases k:s.b with
   |true=>
    rw [k] at g;refine aq (nU g) λB l=>?_;have l:Zc t=false:=by cases u:Zc t with|true=>rw [u] at l;cases l|false=>rfl
    have x:=OC (cf:=a0 (n+2) hd) (ls:=yl t (ch c) s t.length m) (gt:=a9) (S:=S) (i:=6) (j:=5) (p1:=o0) (p2:=o0) (p3:=o0) (p4:=o0) rfl rfl;rw [z8 B] at x;exact eD (cn (af (by show some (some (V.bool s.b))=_;rw [k])) (Y2 (bQ (iP x (ao (by rw [show qm t="brace" by unfold qm;rw [l]];rfl)))))) trivial
   |false=>rw [k] at g;exact ah (bF (af (by show some (some (V.bool s.b))=_;rw [k])) b0) (Y2 (bQ (iP (af rfl) (ao (by rw [show qm t="none" by unfold qm;rw [(show Zc t=true from g)]];rfl)))))
  ·exact eI h
theorem XJ:(zB 29)=(.cons (.asg ⟨[.loc 2],none⟩ none (.call 16 o0 (cA (.loc 0) (.loc 1)))) (.cons (.ifs (.cmp .Eq (.loc 2) (.cst (.str "none"))) (dO (.ret (.loc 0))) .nil) (.cons (.ifs (.cmp .Eq (.loc 2) (.cst (.str "brace"))) (dO (.ret (.bin .Add (.bin .Add (.cst (.str "{")) (.loc 0)) (.cst (.str "}"))))) .nil) (yj (.asg ⟨[.loc 3],none⟩ none (.bw .nil)) (.ifs (.lS .And (.loc 1) (cN (.cmp .Eq tm (.cst (.str "#"))))) (dO (.exp (.eB (.loc 3) .append o0 (cN (.cst (.str "\\")))))) .nil) (.fr ⟨[.loc 4],none⟩ .plain (.loc 0) (dO (.exp (.eB (.loc 3) .append o0 (cN (.call 17 o0 (cA (.loc 4) (.cmp .Eq (.loc 2) (.cst (.str "escape")))))))))) (.ret (.eB (.cst (.str "")) .join o0 (cN (.loc 3)))))))):=by trivial
theorem HN(h:gI t=true):cG (n+4) hd 308 [.str t,.bool false] S=some (.ok (.str (qT t)),S):=by
 have a:t.length<=900:=cZ (aV h);refine cq (i:=29) (by trivial) (jB (v:=.str (qT t)) (aK:=[]) rfl rfl ?_ rfl rfl);refine bC (ds:=[]) (r:=.ok (.ret (.str (qT t)))) (br:=[sF t,some (.bool false),sF (qm t),nF,nF]) (by trivial) ?_;refine XJ▸?_;refine ah (aI (aM (x:=("mode_of",293)) (aa (af rfl) (aa (af rfl) ag)) (by trivial) (KH (hd:=hd) h)) aU) ?_;delta qT qm;cases Zc t with
 |true=>exact eD (cn (aE (af rfl) (ao rfl) (eq_str (by trivial))) (Y2 (bQ (af rfl)))) trivial
 |false=>
  refine ah (bF (aE (af rfl) (ao rfl) (eq_str (by trivial))) b0) (eD (cn (aE (af rfl) (ao rfl) (eq_str (by trivial))) (Y2 (bQ (gd (gd (ao rfl) (af rfl) (nN ?_)) (ao rfl) (nN ?_))))) trivial)
  ·show 1+t.length<=_;exact aA (eP ‹_› _) (by decide)
  ·rw [jp];exact ei (eP ‹_› _) (by decide)
noncomputable def lD(c:Nat):Bool:=(" \n\"[]$;":Str).cps.toList.any (beq c)
theorem DO(j:t.length<=900):∀(a pre:List Nat),t.cps.toList=pre++a->∀(acc:List V),acc.length<=pre.length->∀N,a.length<N->
 fj ⟨["c"],1,none,[⟨644,37,644,38⟩],[],⟨.function,[(".0",.local),("c",.local)],false,false,[]⟩,none⟩ [] (λbr S=>p9 (a0 (n+1) hd) br a9 (λS=>ev (a0 (n+1) hd) br a9 (.loc 0) S) (cN (.cmp .In (.loc 0) (.cst (.str " \n\"[]$;")))) S) S.length N (S++[.iter (.str t pre.length),.list acc])=some (.ok (.ref (S.length+1)),S++[.dead,.list (acc++(a.filter lD).map ch)]):=by
 intro k
 induction k with
 |nil=>
  intro pre b acc i N l
  cases N with
  |zero=>exact absurd l (et _)
  |succ N=>
   simp only [filter_nil,map_nil,dA]
   have g:t.cps.toList[pre.length]? =none:=by rw [b];simp
   exact jJ (by simp only [rA,g])
 |cons c a e=>
  intro pre b acc i N h
  cases N with
  |zero=>exact absurd h (et _)
  |succ N=>
   have g:t.cps.toList[pre.length]? =some c:=by rw [b];simp
   have d:t.length=pre.length+a.length+1:=by show t.cps.toList.length=_;rw [b];simp;exact rfl
   have e:=e (pre++[c]) (by rw [b];simp) (acc++(match lD c with|true=>some (ch c)|false=>none).toList) (by simp;cases lD c<;>simp<;>(first|assumption|exact nZ ‹_›)) N (by simpa using h)
   have x:∀S',Ev (a0 (n+1) hd) ([some (ch c)]++[]) a9 (.cmp .In (.loc 0) (.cst (.str " \n\"[]$;"))) S' (.bool (lD c)) S':=λS'=>aE (af rfl) (ao rfl) rfl
   refine nI (it':=.str t (pre.length+1)) (ws:=[some (ch c)]) (o:=match lD c with|true=>some (ch c)|false=>Option.none) ?_ rfl ?_ (aA i (pY d j (by decide))) ?_
   ·simp only [rA,g];rfl
   ·have x:=x (S++[.iter (.str t (pre.length+1)),.list acc])
    cases f:lD c with
    |true=>rw [f] at x;exact HB x (qS (af rfl))
    |false=>rw [f] at x;exact HC x
   ·simp only [de,cT,dQ,fL] at e
    have e1:((c::a).filter lD).map ch=(match lD c with|true=>some (ch c)|false=>none).toList++(a.filter lD).map ch:=by cases f:lD c<;>simp [f]
    rw [e1,<-ff]
    exact e
end
section
variable {t:Str}
noncomputable abbrev OD:Ex:=.comp (.loc 0) (.loc 0) (cN (.cmp .In (.loc 0) (.cst (.str " \n\"[]$;")))) ⟨["c"],1,none,[⟨644,37,644,38⟩],[],⟨.function,[(".0",.local),("c",.local)],false,false,[]⟩,none⟩
theorem XM:(zB 86)=(nE (.asg ⟨[.loc 1],none⟩ none (.lS .And (.cmp .NotEq (.loc 0) (.cst (.str ""))) (cN (.cmp .Eq OD (.bw .nil))))) (.ret (.ite (.loc 1) (.loc 0) (.bin .Add (.bin .Add (.cst (.str "{")) (.loc 0)) (.cst (.str "}")))))):=by trivial
theorem OE(l:List Nat):((l.filter lD).map ch).isEmpty= !l.any lD:=by
 rw [isEmpty_map];induction l with
 |nil=>rfl
 |cons a l b=>cases h:lD a<;>simp [h,b]
theorem ZJ(l:List V):eg .Eq (.ref 1) (.ref 2) [.dead,.list l,.list []]=some l.isEmpty:=by cases l<;>rfl
theorem KJ(c:t.length<=900):cG (n+2) hd 744 [.str t] S=some (.ok (.str (qT t)),S):=by
 refine cq (i:=86) (by trivial) (jB (v:=.str (qT t)) (aK:=match aD t "" with|true=>[]|false=>[.dead,.list ((t.cps.toList.filter lD).map ch),.list []]) rfl rfl ?_ (by cases aD t ""<;>rfl) rfl);refine bC (ds:=[]) (r:=.ok (.ret (.str (qT t)))) (br:=[sF t,some (.bool (Zc t))]) (by trivial) ?_;refine XM▸?_;have d:Ev (a0 (n+1) hd) [sF t,nF] a9 (.lS .And (.cmp .NotEq (.loc 0) (.cst (.str ""))) (cN (.cmp .Eq OD (.bw .nil)))) [] (.bool (Zc t)) (match aD t "" with|true=>[]|false=>[.dead,.list ((t.cps.toList.filter lD).map ch),.list []]):=by
  have y:Ev (a0 (n+1) hd) [sF t,nF] a9 (.cmp .NotEq (.loc 0) (.cst (.str ""))) [] (.bool (!aD t "")) []:=aE (af rfl) (ao rfl) (ne_str rfl);unfold Zc;cases a:aD t "" with
  |true=>replace y:=a▸y;exact gz y sG
  |false=>replace y:=a▸y;have b:=aE (p:=o0) (show ev (a0 (n+1) hd) [sF t,nF] a9 OD []=some (.ok (.ref 1),[.dead,.list ((t.cps.toList.filter lD).map ch)]) from vD (bt:=[]) rfl (af rfl) rfl (DO c t.cps.toList [] rfl [] (cJ _) 5000 (by have:t.cps.toList.length=t.length:=rfl;exact fw (hY ‹_›) (by decide)))) (dH (p:=o0) ag rfl) (ZJ _);rw [OE] at b;exact gz y (kR b fU)
 refine ah (aI d aU) ?_;unfold qT;cases Zc t with
 |true=>exact Y2 (bQ (oQ (af rfl) (af rfl)))
 |false=>
  refine Y2 (bQ (iP (af rfl) (gd (gd (ao rfl) (af rfl) (nN ?_)) (ao rfl) (nN ?_))))
  ·show 1+t.length<=_;exact aA (eP ‹_› _) (by decide)
  ·rw [jp];exact ei (eP ‹_› _) (by decide)
noncomputable abbrev HO:dL:=(dO (.exp (.eB (.loc 1) .append o0 (cN (.call 18 o0 (cA (.loc 2) (.cmp .Eq (.bi .len o0 (.loc 1)) (.cst (.int 0)))))))))
theorem XN:(zB 30)=(Ez (.asg ⟨[.loc 1],none⟩ none (.bw .nil)) (.fr ⟨[.loc 2],none⟩ .plain (.loc 0) HO) (.ret (.eB (.cst (.str " ")) .join o0 (cN (.loc 1))))):=by trivial
theorem jM{k:Nat->Option Nat}{m:Nat}:∀l:List Str,cM (fK S k (m+1)) (l.map .str)=some (l.map .str):=by
 intro b;induction b with
 |nil=>exact rfl
 |cons x r a=>simp only [List.map,bz,iL,a]
theorem DP:∀l:List Str,mY (l.map V.str)=some l:=by
 intro b;induction b with
 |nil=>exact rfl
 |cons x r a=>simp only [List.map,Fh,BW,bq,a,Option.map]
theorem KL{m:Nat}:∀(l:List Str) (a:Nat),(∀x∈l,x.length<=m)->l.foldl (λa t=>a+t.length+k) a<=a+l.length * (m+k):=by
 intro e;induction e with
 |nil=>intro a f;simp
 |cons x r b=>
  intro a h;have d:=h x gJ;have:=b (a+x.length+k) (λy c=>h y (j3 _ c));simp only [foldl_cons,cT,Nat.add_mul,Nat.one_mul] at this |-;refine aA this ?_;rw [Nat.add_assoc a,Nat.add_assoc a,me _ (m+k)];exact eP (gD (gD d k) _) a
theorem DQ{l:List Str}(h:∀x∈l,x.length<=1000)(c:l.length<=100):JoinOk " " l=true:=by
 unfold JoinOk;have d:=KL (k:=1) l 0 h;have b:l.length * 1001<=100 * 1001:=mul_le_mul_right _ c;have e:l.toArray.foldl (λa t=>a+t.length+(" ":Str).length) 0=l.foldl (λa t=>a+t.length+1) 0:=by rw [foldl_toArray'];rfl;rfl
 refine e▸?_;have:Builtin.Str.tooLong (l.foldl (λa t=>a+t.length+1) 0)=false:=df (by exact Nat.not_lt.mpr (aA d (aA (c6 (fL _)) (aA b (by decide)))))
 refine this▸?_;rfl
theorem xM{l:List Str}(a:S[k]? =some (.list (l.map .str)))(h:∀x∈l,x.length<=1000)(b:l.length<=100):i9 .join (.str " ") [.ref k] S=some (.str (Txt.join " " l),S):=by
 have:ww " " (.ref k) S=some (.str (Txt.join " " l)):=by show ((S[k]?.bind C.gr).bind λl=>(mY l).bind λts=>match JoinOk " " ts with|true=>some (V.str (Txt.join " " ts))|false=>none)=_;rw [a];show ((mY (l.map .str)).bind λts=>match JoinOk " " ts with|true=>some (V.str (Txt.join " " ts))|false=>none)=_;rw [DP];show (match JoinOk " " l with|true=>some (V.str (Txt.join " " l))|false=>none)=_;rw [DQ h b]
 show (ww " " (.ref k) S).map (λr=>(r,S))=_;rw [this];rfl
theorem HQ(h:t.length<=900):(qT t).length<=1000:=by
 unfold qT;cases Zc t with
 |true=>exact aA h (by decide)
 |false=>rw [jp,jp];exact ei (eP ‹_› _) (by decide)
noncomputable def QB(b:Bool)(t:Str):Prop:=t.length<=900/\∀n hd S,cG (n+4) hd 308 [.str t,.bool b] S=some (.ok (.str (qT t)),S)
theorem MX(h:gI t=true):QB false t:=⟨cZ (aV h),λ_ _ _=>HN h⟩
theorem join_loop(m:all.length<=100):∀(a pre:List Str),all=pre++a->(∀(i:Nat) t,a[i]? =some t->QB (beq (pre.length+i) 0) t)->∀(o:Option V) N,a.length<N->
 ∃br,fk (λls S=>aT (a0 (n+4) hd) a9 HO ls S) (λv ls S=>jc (a0 (n+4) hd) a9 ⟨[.loc 2],none⟩ v ls S) false 2 N [rF 0,rF 1,o] [.list (all.map .str),.list ((pre.map qT).map .str),.iter (.seq (.ref 0) pre.length)]=some (.ok .cY,some (.ref 0)::some (.ref 1)::br,[.list (all.map .str),.list ((all.map qT).map .str),.dead]):=by
 intro p
 induction p with
 |nil=>
  intro pre d s o N q
  cases N with
  |zero=>exact absurd q (et _)
  |succ N=>
   have f:(all.map V.str)[pre.length]? =none:=by rw [d];simp
   rw [show all=pre by rw [d,dA]] at f |-
   exact ⟨[o],lm rfl rfl f⟩
 |cons t a e=>
  intro pre d g o N l
  cases N with
  |zero=>exact absurd l (et _)
  |succ N=>
   have f:(all.map V.str)[pre.length]? =some (.str t):=by rw [d];simp
   have b:pre.length+a.length+1<=100:=by rw [d] at m;simp at m;exact ‹_›
   obtain ⟨br,e⟩:=e (pre++[t]) (by rw [d];simp) (λi t h=>by have:=g (i+1) t (by simpa using h);simp only [de,cT,dQ,fL,Nat.add_assoc,me 1 i] at this |-;exact this) (some (.str t)) N (by simpa using l)
   have r:aT (a0 (n+4) hd) a9 HO [rF 0,rF 1,sF t] [.list (all.map .str),.list ((pre.map qT).map .str),.iter (.seq (.ref 0) (pre.length+1))]=some (.ok .cY,[rF 0,rF 1,sF t],[.list (all.map .str),.list (((pre++[t]).map qT).map .str),.iter (.seq (.ref 0) (pre.length+1))]):=by
    have j:=append_at (S:=[.list (all.map .str),.list ((pre.map qT).map .str),.iter (.seq (.ref 0) (pre.length+1))]) (k:=1) (v:=.str (qT t)) rfl (by simp;exact aA (aA (bY _ a.length) (eR _)) (aA b (by decide)));refine Y2 (fV (iO (w:=.none) (af rfl) j.1 (aa (aM (x:=("quote",308)) (aa (af rfl) (aa (aE (hU (af rfl) (len_list rfl (by simp;exact aA (aA (bY _ a.length) (eR _)) (aA b (by decide))))) (ao rfl) (c:=beq pre.length 0) ?_) ag)) (by trivial) (((g 0 t rfl).2) n hd _)) ag) ?_))
    ·simp only [dG];show some (((pre.length:Int))==0)=_;clear e j g d f b;cases pre<;>rfl
    ·rw [j.2];simp
   refine ⟨br,jH rfl rfl f rfl r ?_⟩
   simp only [de,cT,dQ,fL] at e
   exact e
theorem vG{l:List Str}(a:S[k]? =some (.list (l.map .str)))(d:l.length<=100)(f:∀(i:Nat) t,l[i]? =some t->QB (beq i 0) t):cG (n+5) hd 315 [.ref k] S=some (.ok (.str (Txt.join " " (l.map qT))),S):=by
 refine gl λu s=>?_;refine ar (join_loop (n:=n) (hd:=hd) d l [] rfl (λi t h=>by simpa using f i t h) none 5000 (fw (hY ‹_›) (by decide))) λbr o=>?_;have e:S.set k (.list (l.map .str))=S:=by refine ar (List.getElem?_eq_some_iff.mp a) λw q=>?_;rw [<-q];simp
 have j:∀x∈l.map qT,x.length<=1000:=λx b=>by refine ae (Ap b) λy g p=>?_;clear b;subst p;refine ar (getElem?_of_mem g) λi m=>?_;exact HQ (f i y m).1
 refine s ?_;refine cq (i:=30) (by trivial) (Eq.trans (jC (vs':=[.ref 0]) (c₀:=.list (l.map .str)) (c₁:=.list (l.map .str)) (c₂:=.list (l.map .str)) (aK:=[.list ((l.map qT).map .str),.dead]) (v:=.str (Txt.join " " (l.map qT))) rfl (by simp only [bH,bz,eW,b9]) a (by simp only [oN,jM,Option.map]) ?_ rfl (by simp only [oN,jM,Option.map]) rfl) (by rw [e]));refine bC (ds:=[]) (r:=.ok (.ret (.str (Txt.join " " (l.map qT))))) (br:=some (.ref 0)::some (.ref 1)::br) (by trivial) ?_;rw [XN];refine ah (aI (dH ag rfl) aU) (ah (vB (af rfl) (c:=.iter (.seq (.ref 0) 0)) rfl o) ?_);exact Y2 (bQ (iO (ao rfl) rfl (aa (af rfl) ag) (xM rfl j (by simpa using d))))
end
theorem sP{k:Nat->Option Nat}{m:Nat}:∀l:du,cM (fK S k (m+2)) (l.map jX)=some (l.map jX):=by
 intro b;induction b with
 |nil=>exact rfl
 |cons x r a=>simp only [List.map,bH,bz,jX,oM,iL,Option.map,a]
theorem HR{k:Nat->Option Nat}{m:Nat}(e:Ec):fK S k (m+2) e.v=some e.v:=by cases e<;>rfl
theorem tt{k:Nat->Option Nat}(e:En):lW S k 40 e.c=some e.c:=by delta En.c vz;simp only [GZ,bH,bz,so,zx,iK,iL,sP,HR,Option.map]
theorem Ze{c:C}(h:S[k]? =some c):S.set k c=S:=by refine ar (List.getElem?_eq_some_iff.mp h) λb a=>?_;refine (aS a)▸?_;simp
theorem HS{f:List V->List C->Y5 V}{e:En}(a:S[k]? =some e.c)(h:f [.ref 0] [e.c]=some (.ok v,e.c::aK))(b:b7 1 (.ok v) (e.c::aK)=none)(d:fK (e.c::aK) (bZ [k] S.length none) 40 v=some v'):lX f [.ref k] S=some (.ok v',S):=
 Eq.trans (jC rfl (by simp only [bH,bz,eW,b9]) a (tt e) h b (tt e) d) (by rw [Ze a])
theorem XR:(zB 33)=(.cons (.asg ⟨[.loc 1],none⟩ none (.call 20 o0 (cN (.attr (.loc 0) "errorcode")))) (yj (.ifs (.cmp .Eq (.attr (.loc 0) "code") (.cst (.int 1))) (dO (.ret (.bw (qR (.cst (.str "-errorcode")) (.loc 1) (.cst (.str "-errorinfo")) (.call 21 o0 (cN (.loc 0))))))) .nil) (.asg ⟨[.loc 2],none⟩ none (.bw .nil)) (.ifs (.lS .And (.cmp .Eq (.attr (.loc 0) "code") (.cst (.int 2))) (cN (.cmp .Eq (.attr (.loc 0) "ret") (.cst (.int 1))))) (nE (.ifs (.cmp .NotEq (.loc 1) (.cst (.str "NONE"))) (dO (.exp (.eB (.loc 2) .extend o0 (cN (.bw (cA (.cst (.str "-errorcode")) (.loc 1))))))) .nil) (.ifs (.cmp .NotEq (.attr (.loc 0) "info") (.cst (.str ""))) (dO (.exp (.eB (.loc 2) .extend o0 (cN (.bw (cA (.cst (.str "-errorinfo")) (.attr (.loc 0) "info"))))))) .nil)) .nil) (.ret (.loc 2)))):=by trivial
theorem XS:(zB 34)=(.cons (.ifs (.cmp .Is (.loc 0) (.cst .none)) (dO (.ret (.cst (.str "-code 0 -level 0")))) .nil) (.cons (.asg ⟨[.loc 1],none⟩ none (.attr (.loc 0) "code")) (.cons (.asg ⟨[.loc 2],none⟩ none (.cst (.int 0))) (.cons (.ifs (.cmp .Eq (.loc 1) (.cst (.int 2))) (nE (.asg ⟨[.loc 1],none⟩ none (.attr (.loc 0) "ret")) (.asg ⟨[.loc 2],none⟩ none (.attr (.loc 0) "level"))) .nil) (yj (.asg ⟨[.loc 3],none⟩ none (.bw (qR (.cst (.str "-code")) (.bi .str o0 (.loc 1)) (.cst (.str "-level")) (.bi .str o0 (.loc 2))))) (.exp (.eB (.loc 3) .extend o0 (cN (.call 22 o0 (cN (.loc 0)))))) (.fr ⟨[.loc 4,.loc 5],some (0,o0)⟩ .plain (.attr (.loc 0) "extra") (dO (.exp (.eB (.loc 3) .extend o0 (cN (.bw (cA (.loc 4) (.loc 5)))))))) (.ret (.call 19 o0 (cN (.loc 3))))))))):=by trivial
theorem XT:(zB 87)=(.cons (.asg ⟨[.loc 1,.loc 2,.loc 3,.loc 4,.loc 5,.loc 6,.loc 7],some (0,o0)⟩ none (.loc 0)) (yj (.asg ⟨[.loc 8],none⟩ none (.bw (qR (.cst (.str "-code")) (.bi .str o0 (.ite (.cmp .Eq (.loc 1) (.cst (.int 2))) (.loc 5) (.loc 1))) (.cst (.str "-level")) (.bi .str o0 (.loc 4))))) (.ifs (.cmp .Eq (.loc 1) (.cst (.int 1))) (dO (.asg ⟨[.loc 8],none⟩ none (.bin .Add (.loc 8) (.bw (qR (.cst (.str "-errorcode")) (.idx (.call 47 o0 (cN (.loc 3))) (.cst (.int 2))) (.cst (.str "-errorinfo")) (.ite (.cmp .NotEq (.loc 6) (.cst (.str ""))) (.loc 6) (.loc 2))))))) .nil) (.fr ⟨[.loc 9,.loc 10],some (0,o0)⟩ .plain (.loc 7) (dO (.asg ⟨[.loc 8],none⟩ none (.bin .Add (.loc 8) (.bw (cA (.loc 9) (.loc 10))))))) (.ret (.eB (.cst (.str " ")) .join o0 (cN (.comp (.call 49 o0 (cN (.loc 0))) (.loc 8) .nil ⟨["text"],1,none,[⟨653,41,653,45⟩],[],⟨.function,[(".0",.local),("text",.local),("_law_item",.globalImplicit)],false,false,[]⟩,none⟩)))))):=by trivial
noncomputable def ZD(l:du):Prop:=l=[]\/∃T,T.length<=900/\gI T=true/\(l=[(("-during":Str),T)]\/l=[(("-during":Str),T),(("-k":Str),("w":Str))])
section
variable {e:En}{m:List V}
theorem uw(h:S[k]? =some (.list l))(a:cC S v=some m)(b:l.length+m.length<=1000):i9 .extend (.ref k) [v] S=some (.none,S.set k (.list (l++m))):=by
 have e:gc (.ref k) S=some (k,l):=by delta gc;rw [V.fQ,bq,h];rfl
 simp -iota only [Fj,e,bq,(show Zn [v]=some v from rfl),a,fA (show l.length+m.length<=65536 by exact aA ‹_› (by decide))];rfl
theorem d8(h:S[k]? =some (.list l)):cC S (.ref k)=some l:=by (delta cC V.v0 V.eJ C.gr;dsimp only;(simp -iota only [bq,h];rfl))
noncomputable def En.two(e:En):List V:=[.str "-errorcode",.str e.ec.t,.str "-errorinfo",.str e.ge]
theorem OF(b:S[k]? =some e.c)(a:e.code=1):cG (n+9) hd 336 [.ref k] S=some (.ok (.lst e.two),S):=by refine cq (i:=33) (by trivial) (HS (aK:=[.list e.two]) (v:=.ref 1) b ?_ rfl rfl);refine bC (ds:=[]) (r:=.ok (.ret (.ref 1))) (br:=[rF 0,sF e.ec.t,nF]) (by trivial) ?_;refine XR▸?_;refine ah (aI (aM (x:=("code_text",322)) (aa (b8 (af rfl) (bD rfl (by trivial))) ag) (by trivial) (jG (n+1) hd _ e.ec)) aU) ?_;refine eD (cn (aE (b8 (af rfl) (bD rfl (by trivial))) (ao rfl) (ji a)) (Y2 (bQ ?_))) trivial;exact dH (S1:=[e.c]) (aa (ao rfl) (aa (af rfl) (aa (ao rfl) (aa (aM (x:=("info_of",329)) (aa (af rfl) ag) (by trivial) (sL (n:=n+7) rfl)) ag)))) rfl
noncomputable def iD(l:du):List V:=(kS l).map .str
theorem xO:∀(l:du) (x:Str×Str),kS (l++[x])=kS l++[x.1,x.2]:=by
 intro c;induction c with
 |nil=>intro x;exact rfl
 |cons a l b=>intro x;simp only [mK,xD,b x]
theorem sQ:∀l:du,(kS l).length=2 * l.length:=by
 intro b;induction b with
 |nil=>exact rfl
 |cons a l c=>simp only [xD,cT,c];exact rfl
theorem HT{all:du}(m:base.length<=100)(g:all.length<=100):∀(a pre:du),all=pre++a->∀(o4 o5:Option V) (T:List C) N,a.length<N->
 ∃h f i,fk (λls S=>aT (a0 (n+12) hd) a9 (dO (.exp (.eB (.loc 3) .extend o0 (cN (.bw (cA (.loc 4) (.loc 5))))))) ls S) (λv ls S=>jc (a0 (n+12) hd) a9 ⟨[.loc 4,.loc 5],some (0,o0)⟩ v ls S) false 2 N [l0,l1,l2,rF 1,o4,o5] (c0:: .list (base++iD pre):: .iter (.seq (vz all) pre.length)::T)=some (.ok .cY,[l0,l1,l2,rF 1,h,f],c0:: .list (base++iD all)::i):=by
 intro k
 induction k with
 |nil=>
  intro pre b o4 o5 T N l
  cases N with
  |zero=>exact absurd l (et _)
  |succ N=>
   have e:(all.map jX)[pre.length]? =none:=by refine b▸?_;simp
   rw [show all=pre by rw [b,dA]] at e |-
   exact ro _ _ _ (lm rfl rfl e)
 |cons x a d=>
  intro pre b o4 o5 T N j
  cases N with
  |zero=>exact absurd j (et _)
  |succ N=>
   have e:(all.map jX)[pre.length]? =some (jX x):=by refine b▸?_;simp
   have c:pre.length+a.length+1<=100:=by replace g:=b▸g;simp at g;exact ‹_›
   refine jT (d (pre++[x]) (by refine b▸?_;simp) (some (.str x.1)) (some (.str x.2)) (T++[.list [.str x.1,.str x.2]]) N (by simpa using j)) λh f i d=>?_
   refine ro h f i (jH rfl rfl e rfl (Y2 (fV (iO (af rfl) rfl (aa (dH (aa (af rfl) (aa (af rfl) ag)) rfl) ag) (uw rfl (d8 (aY _ _)) ?_)))) ?_)
   ·simp only [de,iD,dG,sQ,cT,dQ];exact qA m c
   ·have e1:base++iD pre++[.str x.1,.str x.2]=base++iD (pre++[x]):=by
     simp only [iD,xO,j7,ff];rfl
    simp only [de,cT,dQ,fL] at d
    refine e1▸?_
    exact d
theorem pf{l:du}(h:ZD l):l.length<=2:=by rcases h with rfl|⟨T,_,_,rfl|rfl⟩<;>simp
theorem qV:∀t∈lu,gI t=true:=λt a=>List.all_eq_true.mp xL t (mI _ (mI _ a))
theorem KO:QB true "-code":=⟨by decide,λn hd S=>(by trivial:cG (n+4) hd 308 [.str "-code",.bool true] S=some (.ok (.str (qT "-code")),S++[])).trans (by rw [dA])⟩
theorem OG{P:Bool->Str->Prop}{a:Str}{l:List Str}(c:P true a)(h:∀t∈l,P false t):∀(i:Nat) t,(a::l)[i]? =some t->P (beq i 0) t:=by
 intro b;induction b with
 |zero=>intro t e;refine Su e ?_;exact c
 |succ i d=>intro t e;exact h t (dP e)
structure HU (e:En):Prop where
 c:e.code=1
 l:e.level=0
 i:gI e.ge=true
 x:ZD e.extra
theorem pg(H:HU e):e.items=(["-code","1","-level","0","-errorcode",e.ec.t,"-errorinfo",e.ge]:List Str)++kS e.extra:=by delta En.items En.head;rw [H.c,H.l];rfl
theorem KR(c:Ec):c.t∈lu:=pp _ (iT (by cases c<;>simp [Oy]))
theorem KS{l:du}(h:ZD l):∀t∈kS l,gI t=true:=by
 have b:∀t∈(["-during","-k","w"]:List Str),gI t=true:=List.all_eq_true.mp (by trivial);rcases h with rfl|⟨T,_,c,rfl|rfl⟩
 ·intro t a;cases a
 ·intro t a;replace a:t∈(["-during",T]:List Str):=a;simp only [mem_cons,jS,or_false] at a;rcases a with rfl|rfl
  ·exact b _ (by simp)
  ·exact c
 ·intro t a;replace a:t∈(["-during",T,"-k","w"]:List Str):=a;simp only [mem_cons,jS,or_false] at a;rcases a with rfl|rfl|rfl|rfl
  ·exact b _ (by simp)
  ·exact c
  ·exact b _ (by simp)
  ·exact b _ (by simp)
theorem xP(H:HU e):e.items.length<=100/\∃r:List Str,e.items=("-code":Str)::r/\∀t∈r,gI t=true:=by
 refine (pg H)▸?_;refine ⟨by simp only [de,sQ];have:=pf H.x;simp;exact aA (eP (mul_le_mul_left _ ‹_›) _) (by decide),(["1","-level","0","-errorcode",e.ec.t,"-errorinfo",e.ge]:List Str)++kS e.extra,rfl,λt b=>?_⟩;have a:∀t∈(["1","-level","0","-errorcode","-errorinfo"]:List Str),gI t=true:=List.all_eq_true.mp (by trivial);simp only [mem_cons,mK,nil_append] at b;rcases b with rfl|rfl|rfl|rfl|rfl|rfl|rfl|b
 ·exact a _ (by simp)
 ·exact a _ (by simp)
 ·exact a _ (by simp)
 ·exact a _ (by simp)
 ·exact qV _ (KR _)
 ·exact a _ (by simp)
 ·exact H.i
 ·exact KS H.x t b
theorem HV(H:HU e):oZ e:=by
 intro n hd S v p;refine gl λs b=>?_;rcases p with ⟨_,h⟩|⟨k,rfl,y,d⟩
 ·refine b ?_;replace h:=H.c▸h;cases h
 obtain ⟨f,r,m,l⟩:=xP H;have u:=pf H.x;refine jT (HT (n:=n) (hd:=hd) (c0:=e.c) (all:=e.extra) (base:=[.str "-code",.str "1",.str "-level",.str "0"]++e.two) (by simp [En.two]) (aA ‹_› (by decide)) (l0:=some (.ref 0)) (l1:=some (.int 1)) (l2:=some (.int 0)) e.extra [] rfl none none [] 5000 (fw (hY ‹_›) (by decide))) λo4 o5 j a=>?_;have g:[.str "-code",.str "1",.str "-level",.str "0"]++e.two++iD e.extra=e.items.map V.str:=by (refine (pg H)▸?_;refine j7▸?_);rfl
 replace a:=g▸a;refine b ?_;refine cq (i:=34) (by trivial) (HS (aK:=.list (e.items.map .str)::j) (v:=.str (gf e)) d ?_ rfl rfl);refine bC (ds:=[]) (r:=.ok (.ret (.str (gf e)))) (br:=[rF 0,iF 1,iF 0,rF 1,o4,o5]) (by trivial) ?_;refine XS▸?_;have o:∀S',fE (.ref 0) "code" (e.c::S')=some (.int 1):=λS'=>by refine (aS H.c)▸?_;exact bD rfl (by trivial)
 refine ah (bF (aE (af rfl) (ao rfl) rfl) b0) (ah (aI (b8 (af rfl) (o [])) aU) (ah (aI (ao rfl) aU) (ah (bF (aE (af rfl) (ao rfl) rfl) b0) ?_)));refine ah (aI (dH (aa (ao rfl) (aa (hU (S2:=[e.c]) (w:=.str "1") (af rfl) (by trivial)) (aa (ao rfl) (aa (hU (S2:=[e.c]) (w:=.str "0") (af rfl) (by trivial)) ag)))) rfl) aU) ?_;refine ah (fV (iO (af rfl) rfl (aa (aM (x:=("error_options",336)) (aa (af rfl) ag) (by trivial) (OF (n:=n+3) (k:=0) rfl H.c)) ag) (uw rfl (by rfl) (by simp [En.two])))) ?_;refine ah (vB (c:=.iter (.seq (vz e.extra) 0)) (b8 (af rfl) (bD (v:=vz e.extra) rfl (by trivial))) rfl a) ?_;exact Y2 (bQ (aM (x:=("join_list",315)) (aa (af rfl) ag) (by trivial) (vG (n:=n+7) (k:=1) rfl f (by refine m▸?_;exact OG KO λt q=>MX (l t q)))))
end
noncomputable abbrev K3:=Int×Int×Int
noncomputable def fy:List K3:=[(0,0,0),(2,1,0),(2,1,1),(2,1,3),(2,2,0),(2,2,1),(2,2,3),(3,0,0),(4,0,0),(5,0,0),(-1,0,0)]
noncomputable def qF(k:K3)(v:Str):En:=⟨k.1,v,.none,k.2.1,k.2.2,"",[]⟩
theorem eN{f g:α->β}{l:List α}(h:l.map f=l.map g):∀x∈l,f x=g x:=λx a=>my h a
theorem KU(n:Nat)(hd:Bool)(S:List C)(v:Str):cG (n+13) hd 343 [.none] S=some (.ok (.str (gf (qF (0,0,0) v))),S++[]):=by trivial
theorem OH(n:Nat)(hd:Bool)(v:Str):(fy.map λk=>(gy (defAt 34) (cG (n+12)) di 5000 hd [.ref 0] [(qF k v).c]).map λx=>(x.1,x.2.take 1))=fy.map λk=>some (.ok (.str (gf (qF k v))),[(qF k v).c]):=by trivial
theorem KV(n:Nat)(hd:Bool)(v:Str):(fy.map λk=>(gy (defAt 87) (cG (n+11)) di 5000 hd [(qF k v).v] []).map (·.1))=fy.map λk=>some (.ok (.str (gf (qF k v)))):=by trivial
theorem HW{k:K3}(d:k∈fy)(v:Str):oZ (qF k v):=by
 intro n hd S w g;refine gl λt l=>?_;refine aQ g (λa=>aq a λq h=>?_) (λf=>bc f λj p u s=>?_)
 ·clear a;subst q;have e:gf (qF k v)=gf (qF (0,0,0) v):=by
   have:∀k∈fy,k.1=0->k=(0,0,0):=by decide
   exact (this k d h)▸rfl
  refine l ?_;rw [KU n hd S v,e,dA]
 ·clear f;clear g;subst p;refine ae (au (eN (OH n hd v) k d)) λa o b=>?_;obtain ⟨r,S2⟩:=a;cases S2 with
  |nil=>clear o;cases b
  |cons c S2=>have m:=bA Prod.fst b;have i:=(cS (bA Prod.snd b)).1;simp only at m i;clear b;subst m i;refine l ?_;exact cq (by trivial) (HS s o rfl rfl)
theorem DS{k:K3}(b:k∈fy)(v:Str):I9 (qF k v):=by intro n hd S;refine gl λf c=>?_;refine ae (au (eN (KV n hd v) k b)) λe d a=>?_;obtain ⟨r,S2⟩:=e;simp only at a;subst a;refine c ?_;exact cq (by trivial) (jB rfl (by trivial) d rfl rfl)
section
variable {e:En}
theorem xQ(hv:∀S',gu (S++S') v=some (all.map .str))(f:all.length<=100):∀(a pre:List Str),all=pre++a->(∀t∈a,t.length<=900)->∀N,a.length<N->
 fj ⟨["text"],1,none,[⟨653,41,653,45⟩],[],⟨.function,[(".0",.local),("text",.local),("_law_item",.globalImplicit)],false,false,[]⟩,none⟩ [] (λbr S=>p9 (a0 (n+11) hd) br a9 (λS=>ev (a0 (n+11) hd) br a9 (.call 49 o0 (cN (.loc 0))) S) .nil S) S.length N (S++[.iter (.seq v pre.length),.list ((pre.map qT).map .str)])=some (.ok (.ref (S.length+1)),S++[.dead,.list ((all.map qT).map .str)]):=by
 intro j
 induction j with
 |nil=>
  intro pre b l N k
  cases N with
  |zero=>exact absurd k (et _)
  |succ N=>
   have d:(all.map V.str)[pre.length]? =none:=by rw [b];simp
   rw [show all=pre by rw [b,dA]] at d hv |-
   exact jJ (by simp only [g5,hv,d])
 |cons t a c=>
  intro pre b g N e
  cases N with
  |zero=>exact absurd e (et _)
  |succ N=>
   have d:(all.map V.str)[pre.length]? =some (.str t):=by rw [b];simp
   have i:pre.length+a.length+1<=100:=by rw [b] at f;simp at f;exact ‹_›
   have c:=c (pre++[t]) (by rw [b];simp) (λt h=>g t (j3 _ h)) N (by simpa using e)
   refine nI (it':=.seq v (pre.length+1)) (ws:=[sF t]) (by simp only [g5,hv,d]) rfl (qS (aM (x:=("_law_item",744)) (aa (af rfl) ag) (by trivial) (KJ (n:=n+9) (hd:=hd) (g t gJ)))) (by simp;exact oA ‹_› (by decide)) ?_
   rw [(show (pre.map qT).map V.str++(some (V.str (qT t))).toList=((pre++[t]).map qT).map V.str from by simp)]
   simp only [de,cT,dQ,fL] at c
   exact c
theorem UB{m:List V}(h:S[k]? =some (.list m))(a:l.length+m.length<=1000):mm .Add (.lst l) (.ref k) S=some (.lst (l++m)):=by show Cc (.lst l) (.ref k) S=_;delta Cc V.gh cC V.v0 V.eJ C.gr;dsimp only;(simp -iota only [bq,h];dsimp only;simp -iota only [bq,fA (show l.length+m.length<=65536 by exact aA ‹_› (by decide))];rfl)
theorem DT{all:du}(o:base.length<=100)(k:all.length<=100){l3 l4 l5 l6:Option V}:∀(a pre:du),all=pre++a->∀(b T:List C) (o4 o5:Option V) N,a.length<N->
 ∃h g i,fk (λls S=>aT (a0 (n+11) hd) a9 (dO (.asg ⟨[.loc 8],none⟩ none (.bin .Add (.loc 8) (.bw (cA (.loc 9) (.loc 10)))))) ls S) (λv ls S=>jc (a0 (n+11) hd) a9 ⟨[.loc 9,.loc 10],some (0,o0)⟩ v ls S) false b.length N [l0,l1,l2,l3,l4,l5,l6,l7,some (.lst (base++iD pre)),o4,o5] (b++ .iter (.seq (vz all) pre.length)::T)=some (.ok .cY,[l0,l1,l2,l3,l4,l5,l6,l7,some (.lst (base++iD all)),h,g],i):=by
 intro m
 induction m with
 |nil=>
  intro pre c b T o4 o5 N p
  cases N with
  |zero=>exact absurd p (et _)
  |succ N=>
   have f:(all.map jX)[pre.length]? =none:=by rw [c];simp
   rw [show all=pre by rw [c,dA]] at f |-
   exact ro _ _ _ (lm (aY _ _) rfl f)
 |cons x a e=>
  intro pre c b T o4 o5 N j
  cases N with
  |zero=>exact absurd j (et _)
  |succ N=>
   have f:(all.map jX)[pre.length]? =some (jX x):=by rw [c];simp
   have d:pre.length+a.length+1<=100:=by rw [c] at k;simp at k;exact ‹_›
   refine jT (e (pre++[x]) (by rw [c];simp) b (T++[.list [.str x.1,.str x.2]]) (some (.str x.1)) (some (.str x.2)) N (by simpa using j)) λh g i e=>?_
   have l:(b++C.iter (.seq (vz all) pre.length)::T).set b.length (.iter (.seq (vz all) (pre.length+1)))=b++ .iter (.seq (vz all) (pre.length+1))::T:=by simp
   refine ro h g i (jH (aY _ _) rfl f rfl (Y2 (aI (gd (af rfl) (dH (aa (af rfl) (aa (af rfl) ag)) rfl) (UB (aY _ _) ?_)) aU)) ?_)
   ·simp only [de,iD,dG,sQ,cT,dQ];exact qA o d
   ·have e1:base++iD pre++[.str x.1,.str x.2]=base++iD (pre++[x]):=by
     simp only [iD,xO,j7,ff];rfl
    simp only [de,cT,dQ,fL] at e
    rw [e1,l,ff,mK]
    exact e
theorem BD(H:HU e):I9 e:=by
 intro n hd S;refine gl λA z=>?_;refine aq (xP H) λg d=>?_;refine ae d λr s b=>?_;clear d;have B:=pf H.x;have j:∀t∈e.items,t.length<=900:=λt a=>by
  rw [s] at a;refine aQ (nV a) (λd=>?_) (λa=>?_)
  ·clear a;subst d;decide
  ·exact (MX (b t a)).1
 refine jT (DT (n:=n) (hd:=hd) (all:=e.extra) (base:=[.str "-code",.str "1",.str "-level",.str "0"]++e.two) (by simp [En.two]) (aA ‹_› (by decide)) (l0:=some e.v) (l1:=some (.int e.code)) (l2:=some (.str e.value)) (l3:=some e.ec.v) (l4:=some (.int e.level)) (l5:=some (.int e.ret)) (l6:=some (.str e.info)) (l7:=some (vz e.extra)) e.extra [] rfl [.list [.str "-code",.str "1",.str "-level",.str "0"],.list e.two] [] none none 5000 (by exact fw (hY ‹_›) (by decide))) λo4 o5 q h=>?_;have p:[.str "-code",.str "1",.str "-level",.str "0"]++e.two++iD e.extra=e.items.map V.str:=by rw [pg H,j7];rfl
 rw [p] at h;have m:∀x∈e.items.map qT,x.length<=1000:=λx f=>by refine ae (Ap f) λy k u=>?_;clear f;subst u;exact HQ (j y k)
 refine z ?_;refine cq (i:=87) (by trivial) (jB (vs':=[e.v]) (aK:=q++[.dead,.list ((e.items.map qT).map .str)]) (v:=.str (gf e)) rfl (by (delta En.v vz;simp only [bH,bz,oM,so,iK,iL,sP,HR,Option.map])) ?_ rfl rfl);refine bC (ds:=[]) (r:=.ok (.ret (.str (gf e)))) (br:=[some e.v,iF e.code,sF e.value,some e.ec.v,iF e.level,iF e.ret,sF e.info,some (vz e.extra),some (.lst (e.items.map .str)),o4,o5]) (by trivial) ?_;rw [XT];refine ah (aI (af rfl) (ls2:=[some e.v,iF e.code,sF e.value,some e.ec.v,iF e.level,iF e.ret,sF e.info,some (vz e.extra),nF,nF,nF]) rfl) ?_;refine ah (aI (dH (aa (ao rfl) (aa (hU (S2:=[]) (w:=.str "1") (iP (aE (af rfl) (ao rfl) (fW ?_)) (af rfl)) ?_) (aa (ao rfl) (aa (hU (S2:=[]) (w:=.str "0") (af rfl) ?_) ag)))) rfl) aU) ?_
 ·rw [H.c];decide
 ·rw [H.c];trivial
 ·rw [H.l];trivial
 have o:Ev (a0 (n+11) hd) [some e.v,iF e.code,sF e.value,some e.ec.v,iF e.level,iF e.ret,sF e.info,some (vz e.extra),rF 0,nF,nF] a9 (.ite (.cmp .NotEq (.loc 6) (.cst (.str ""))) (.loc 6) (.loc 2)) [.list [.str "-code",.str "1",.str "-level",.str "0"]] (.str e.ge) [.list [.str "-code",.str "1",.str "-level",.str "0"]]:=by
  unfold En.ge;cases b:aD e.info "" with
  |true=>exact iP (aE (af rfl) (ao rfl) (ne_str b)) (af rfl)
  |false=>exact oQ (aE (af rfl) (ao rfl) (ne_str b)) (af rfl)
 refine ah (cn (aE (af rfl) (ao rfl) (ji H.c)) (Y2 (aI (gd (af rfl) (dH (vs:=e.two) (aa (ao rfl) (aa (bB (aM (x:=("_law_known",732)) (aa (af rfl) ag) (by trivial) (xF (n+8) hd _ e.ec)) (ao rfl) (by trivial)) (aa (ao rfl) (aa o ag)))) rfl) (v:=.lst ([.str "-code",.str "1",.str "-level",.str "0"]++e.two)) (by trivial)) aU))) ?_;refine ah (vB (c:=.iter (.seq (vz e.extra) 0)) (af rfl) rfl h) ?_;exact Y2 (bQ (iO (ao rfl) rfl (aa (vD (bt:=[]) (it:=.seq (.lst (e.items.map .str)) 0) rfl (af rfl) rfl (xQ (λ_=>rfl) g e.items [] rfl j 5000 (by exact fw (hY ‹_›) (by decide)))) ag) (xM (lq _ _) m (by simpa using g))))
end
noncomputable def B7:List (List Str):=[[],["A"],["A","B"],["A","b c"],["B"],["NONE"],["A","B","C"]]
noncomputable def HX:List (List Str×Ec):=B7.flatMap λb=>Oy.map λe=>(b,e)
theorem xR{b:List Str}(h:b∈B7)(e:Ec):(b,e)∈HX:=mem_flatMap.mpr ⟨b,h,iT (by cases e<;>simp [Oy])⟩
noncomputable abbrev RK:Ex:=.lS .And (.cmp .IsNot (.loc 2) (.cst .none)) (cN (.cmp .Eq (.vQ (.loc 2) (.cst .none) (.bi .len o0 (.idx (.loc 0) (.cst (.int 1)))) (.cst .none) (false,true,false)) (.idx (.loc 0) (.cst (.int 1)))))
theorem KW(n:Nat)(hd:Bool)(S:List C)(v:V)(c:Int)(a:List Str)(b:Str):(HX.map λp=>ev (a0 (n+11) hd) [some (Ha.v ⟨c,p.1,a,b⟩),some v,some (aX p.2.l)] a9 RK S)=HX.map λp=>some (.ok (.bool (vC p.1 p.2.l)),S):=by trivial
theorem OJ(n:Nat)(hd:Bool)(S:List C)(e:Ec):cG (n+6) hd 378 [.str e.t] S=some (.ok (aX e.l),S):=by
 have h:cG (n+6) hd 378 [.str e.t] S=some (.ok (aX e.l),S++[]):=by cases e<;>trivial
 rw [h,dA]
theorem V0:(zB 44)=(.cons (.ifs (.cmp .Is (.loc 1) (.cst .none)) (dO (.ret (.cmp .Eq tm (.cst (.int 0))))) .nil) (yj (.ifs (.cmp .NotEq tm (.attr (.loc 1) "code")) (dO (.ret (.cst (.bool false)))) .nil) (.ifs (.cmp .NotEq (.attr (.loc 1) "code") (.cst (.int 1))) (dO (.ret (.cst (.bool true)))) .nil) (.asg ⟨[.loc 2],none⟩ none (.call 28 o0 (cN (.call 20 o0 (cN (.attr (.loc 1) "errorcode")))))) (.ret RK))):=by trivial
noncomputable abbrev RM:Ex:=.lS .Or (.cmp .NotEq (.idx (.loc 1) (.cst (.int 0))) (.cst (.int 1))) (cN (.cmp .Eq (.vQ (.idx (.call 47 o0 (cN (.idx (.loc 1) (.cst (.int 2))))) (.cst (.int 1))) (.cst .none) (.bi .len o0 (.idx (.loc 0) (.cst (.int 1)))) (.cst .none) (false,true,false)) (.idx (.loc 0) (.cst (.int 1)))))
theorem XU:(zB 89)=(nE (.ifs (.cmp .NotEq tm (.idx (.loc 1) (.cst (.int 0)))) (dO (.ret (.cst (.bool false)))) .nil) (.ret RM)):=by trivial
theorem ux{k:Nat->Option Nat}{m:Nat}(h:Ha):fK S k (m+3) h.v=some h.v:=by (delta Ha.v aX;simp only [oM,so,iK,iL,bH,bz,jM,Option.map])
theorem xS{k:Nat->Option Nat}{m:Nat}(e:En):fK S k (m+4) e.v=some e.v:=by (delta En.v vz;simp only [oM,so,iK,iL,bH,bz,sP,HR,Option.map])
theorem iE{a b:Int}:eg .NotEq (.int a) (.int b) S=some (!decide (a=b)):=rfl
section
variable {e l:En}{h:Ha}
theorem KX{P:List C}(j:h.begun∈B7)(hv:∀i q q',∀ls:bW,ls[i]? =some (some v)->Ev (a0 (n+11) hd) ls a9 (.attr (.loc i q) "code" q') P (.int e.code) P/\Ev (a0 (n+11) hd) ls a9 (.attr (.loc i q) "errorcode" q') P e.ec.v P)(hn:Zb v=false)(k:e.code≠0):
 ∃br,aT (a0 (n+11) hd) a9 (zB 44) [some h.v,some v,none] P=some (.ok (.ret (.bool (dT h e))),br,P):=by
 rw [V0]
 have f:∀{q1 q2 q3:Pos} {o:Option V},Ev (a0 (n+11) hd) [some h.v,some v,o] a9 (.idx (.loc 0 q1) (.cst (.int 0) 0 q2) q3) P (.int h.code) P:=bB (af rfl) (ao rfl) (by trivial)
 unfold dT
 have d:∀{q1 q2 q3 q4:Pos} {b:dL},Nx (a0 (n+11) hd) a9 (.ifs (.cmp .Is (.loc 1 q1) (.cst .none 0 q2) q3) b .nil q4) [some h.v,some v,none] P [some h.v,some v,none] P:=bF (aE (af rfl) (ao rfl) (by show some (Zb v)=_;rw [hn])) b0
 refine ?_
 by_cases c:h.code=e.code
 ·have g:∀{q1 q2 q3 q4 q5 q6 q7:Pos} {b:dL},Nx (a0 (n+11) hd) a9 (.ifs (.cmp .NotEq (.idx (.loc 0 q1) (.cst (.int 0) 0 q2) q3) (.attr (.loc 1 q4) "code" q5) q6) b .nil q7) [some h.v,some v,none] P [some h.v,some v,none] P:=bF (aE f (hv 1 _ _ _ rfl).1 (by rw [iE,cQ c];rfl)) b0
  rw [cQ c]
  by_cases a:e.code=1
  ·rw [cQ a]
   have y:=eN (KW n hd P v h.code h.names h.aB) _ (xR j e.ec)
   refine ⟨_,ah d (ah g (ah (bF (aE (hv 1 _ _ _ rfl).1 (ao rfl) (by rw [iE,cQ a];rfl)) b0) (ah (aI (aM (x:=("list_or_none",378)) (aa (aM (x:=("code_text",322)) (aa (hv 1 _ _ _ rfl).2 ag) (by trivial) (jG (n+4) hd P e.ec)) ag) (by trivial) (OJ (n+5) hd P e.ec)) aU) (Y2 (bQ y)))))⟩
  ·rw [df a]
   exact ⟨_,ah d (ah g (eD (cn (aE (hv 1 _ _ _ rfl).1 (ao rfl) (by rw [iE,df a];rfl)) (Y2 (bQ (ao rfl)))) trivial))⟩
 ·rw [df c]
  exact ⟨_,ah d (eD (cn (aE f (hv 1 _ _ _ rfl).1 (by rw [iE,df c];rfl)) (Y2 (bQ (ao rfl)))) trivial)⟩
theorem OK(t:h.begun∈B7):ut h e:=by
 intro n hd S v j;refine aQ j (λl=>aq l λs m=>?_) (λf=>bc f λk o a d=>?_)
 ·clear l;subst s;refine cq (i:=44) (by trivial) (jB (vs':=[h.v,.none]) (v:=.bool (dT h e)) (aK:=[]) rfl (by simp only [bH,bz,ux,zw]) ?_ rfl rfl);refine bC (ds:=[]) (r:=.ok (.ret (.bool (dT h e)))) (br:=[some h.v,some .none,none]) (by trivial) ?_;refine V0▸?_;refine eD (cn (aE (af rfl) (ao rfl) rfl) (Y2 (bQ (aE (bB (af rfl) (ao rfl) (v:=.int h.code) (by trivial)) (ao rfl) ?_)))) trivial;unfold dT;rw [m];by_cases a:h.code=0
  ·rw [cQ a];exact ji a
  ·rw [df a];exact fW a
 ·clear f;clear j;subst o;refine ar (KX t (show∀i q b,∀ls:bW,ls[i]? =some (some (.ref 0))->Ev (a0 (n+11) hd) ls a9 (.attr (.loc i q) "code" b) [e.c] (.int e.code) [e.c]/\Ev (a0 (n+11) hd) ls a9 (.attr (.loc i q) "errorcode" b) [e.c] e.ec.v [e.c] from λi q b ls g=>⟨b8 (af g) (bD rfl (by trivial)),b8 (af g) (bD rfl (by trivial))⟩) rfl a) λbr p=>?_;refine cq (by trivial) (Eq.trans (jC (v:=.bool (dT h e)) rfl (by simp only [bH,bz,ux,eW,b9]) d (tt e) (bC (vs:=[h.v,.ref 0]) (S:=[e.c]) (ds:=[]) (by trivial) p) rfl (tt e) rfl) (by rw [Ze d]))
theorem HY(n:Nat)(hd:Bool)(c:Int)(a:List Str)(h:Str)(d b:Str)(f g:Int)(e:du):(HX.map λp=>ev (a0 (n+11) hd) [some (Ha.v ⟨c,p.1,a,h⟩),some (En.v ⟨1,d,p.2,f,g,b,e⟩)] a9 RM [])=HX.map λp=>some (.ok (.bool (vC p.1 p.2.l)),[]):=by trivial
theorem KY(f:h.begun∈B7):HD h e:=by
 intro n hd S;refine cq (i:=89) (by trivial) (jB (vs':=[h.v,e.v]) (v:=.bool (dT h e)) (aK:=[]) rfl (by simp only [bH,bz,ux,xS]) ?_ rfl rfl);refine bC (ds:=[]) (r:=.ok (.ret (.bool (dT h e)))) (br:=[some h.v,some e.v]) (by trivial) ?_;refine XU▸?_;show aT (a0 (n+11) hd) a9 _ [some h.v,some e.v] []=_;have d:∀{q1 q2 q3:Pos},Ev (a0 (n+11) hd) [some h.v,some e.v] a9 (.idx (.loc 0 q1) (.cst (.int 0) 0 q2) q3) [] (.int h.code) []:=bB (af rfl) (ao rfl) (by trivial);have c:∀{q1 q2 q3:Pos},Ev (a0 (n+11) hd) [some h.v,some e.v] a9 (.idx (.loc 1 q1) (.cst (.int 0) 0 q2) q3) [] (.int e.code) []:=bB (af rfl) (ao rfl) (by trivial);unfold dT;by_cases b:h.code=e.code
 ·rw [cQ b];refine ah (bF (aE d c (by rw [iE,cQ b];rfl)) b0) (Y2 (bQ ?_));by_cases a:e.code=1
  ·rw [cQ a];have y:=eN (HY n hd h.code h.names h.aB e.value e.info e.level e.ret e.extra) _ (xR f e.ec);rw [(show e=⟨1,e.value,e.ec,e.level,e.ret,e.info,e.extra⟩ from by rw [<-a])];exact y
  ·rw [df a];exact RI (aE c (ao rfl) (by rw [iE,df a];rfl)) HM
 ·rw [df b];exact eD (cn (aE d c (by rw [iE,df b];rfl)) (Y2 (bQ (ao rfl)))) trivial
end
noncomputable def UC(o:ci)(N:Nat):Option V:=match o with
 |some (.ok (.ret w),_,S2)=>(match b7 0 (.ok w) S2 with
  |none=>fK S2 (bZ [] N none) 40 w
  |some _=>none)
 |_=>none
theorem BE{o:ci}(h:UC o N=some v):∃br S2 w,o=some (.ok (.ret w),br,S2)/\b7 0 (.ok w) S2=none/\fK S2 (bZ [] N none) 40 w=some v:=by
 refine gl λc b=>?_;cases o with
 |none=>exact aG h
 |some r=>
  obtain ⟨r,br,S2⟩:=r;cases r with
  |exc k=>exact aG h
  |ok f=>cases f with
   |ret w=>
    have h:(match b7 0 (.ok w) S2 with|Option.none=>fK S2 (bZ [] N Option.none) 40 w|some _=>Option.none)=some v:=h;cases a:b7 0 (.ok w) S2 with
    |none=>rw [a] at h;exact b (lQ br S2 w rfl a h)
    |some _=>rw [a] at h;exact aG h
   |_=>exact aG h
theorem RN:(zB 46)=(dO (.ifs (.cmp .Eq (.attr (.loc 0) "code") (.cst (.int 1))) (yj (.asg ⟨[.fC 2],none⟩ none (.qO [] .nil)) (.fr ⟨[.loc 3,.loc 4],some (0,o0)⟩ .plain (.attr (.loc 0) "extra") (dO (.asg ⟨[.sub (.fC 2) (.loc 3)],none⟩ none (.loc 4)))) (.asg ⟨[.sub (.fC 2) (.cst (.str "-during"))],none⟩ none (.call 23 o0 (cN (.loc 1)))) (.asg ⟨[.attr (.loc 0) "extra"],none⟩ none (.keys false (.tup (cA (.loc 0 ⟨435,24,435,28⟩) (.idx (.fC 1 ⟨435,30,435,34⟩) (.loc 0 ⟨435,35,435,39⟩) ⟨435,30,435,40⟩)) 0 ⟨435,23,435,41⟩) (.fC 2) ⟨["name","kept"],1,none,[⟨435,46,435,50⟩],[2],⟨.function,[(".0",.local),("name",.local),("kept",.free)],false,false,[]⟩,none⟩))) .nil)):=by trivial
noncomputable abbrev UD:dL:=Ez (.nk 3 o0 (.tup (cA (.loc 0) (.ite (.cmp .Eq (.loc 0) (.cst (.str "-during"))) (.fC 2) (.loc 1)))) (.idx (.loc 0) (.cst (.int 6))) .nil ⟨["name","text","told"],2,some (0,⟨682,61,682,71⟩),[⟨682,61,682,65⟩,⟨682,67,682,71⟩],[2],⟨.function,[(".0",.local),("name",.local),("text",.local),("told",.free)],false,false,[]⟩,none⟩) (.ifs (.cmp .NotIn (.cst (.str "-during")) (.bi .dict o0 (.idx (.loc 0) (.cst (.int 6))))) (dO (.asg ⟨[.loc 3],none⟩ none (.bin .Add (.loc 3) (.bw (cN (.tup (cA (.cst (.str "-during")) (.fC 2)))))))) .nil) (.ret (.bin .Add (.vQ (.loc 0) (.cst .none) (.cst (.int 6)) (.cst .none) (false,true,false)) (.tup (cN (.loc 3)))))
theorem UE:(zB 92)=(.cons (.ifs (.cmp .NotEq tm (.cst (.int 1))) (dO (.ret (.loc 0))) .nil) (.cons (.asg ⟨[.fC 2],none⟩ none (.call 50 o0 (cN (.loc 1)))) UD)):=by trivial
section
variable {e l:En}
theorem OL(h:k≠j):beq k j=false:=by
 cases e:beq k j with
 |true=>exact absurd (c5 e) h
 |false=>rfl
theorem z9{f:List V->List C->Y5 V}{c:C}(a:k≠j)(d:S[k]? =some l.c)(b:S[j]? =some e.c)(h:f [.ref 0,.ref 1] [l.c,e.c]=some (.ok .none,c::e.c::aK))(m:lW (c::e.c::aK) (bZ [k,j] S.length none) 40 c=some c'):lX f [.ref k,.ref j] S=some (.ok .none,S.set k c'):=by
 have g:c8 [k,j] j=some 1:=by rw [zO a,b9];rfl
 have i:bT [.ref k,.ref j] []=[k,j]:=by show (match (beq j k||false) with|true=>[k]|false=>[k,j])=_;rw [OL a.symm];rfl
 have hn:∀n,b7 n (.ok .none) (c::e.c::aK)=none:=λ_=>rfl;simp -iota only [kO];simp only [i,bH,bz,eW,zw,b9,g,oR d (tt l),oR b (tt e),h,hn,cT,dQ,take_succ_cons,take_zero,tt,m,kN,Option.map,jw,jx,(Ze (az b a)),dA]
theorem vH{f:List V->List C->Y5 V}{c:C}(a:S[k]? =some l.c)(h:f [.ref 0,.none] [l.c]=some (.ok .none,c::aK))(b:lW (c::aK) (bZ [k] S.length none) 40 c=some c'):lX f [.ref k,.none] S=some (.ok .none,S.set k c'):=
 jC rfl (by simp only [bH,bz,eW,zw,b9]) a (tt l) h rfl b rfl
inductive Zk:En->Prop
 |pl {k:K3} (v:Str):k∈fy->Zk (qF k v)
 |er {v info:Str} {c:Ec} {x:du}:En.ge ⟨1,v,c,0,0,info,x⟩∈nL->(x=[]\/x=jL)->Zk ⟨1,v,c,0,0,info,x⟩
theorem qo{k:K3}(h:k∈fy):k.1≠1:=by
 have:∀k∈fy,k.1≠1:=by decide
 exact this k h
theorem kT(h:l.code≠1):l.after e=l:=by unfold En.after;exact (df h)▸rfl
theorem sR{t:Str}(h:t∈nL):t∈lu:=mI _ (pp _ h)
protected theorem Zk.op (h:Zk e):oZ e:=by
 cases h with
 |pl v b=>exact HW b v
 |er c a=>exact HV ⟨rfl,rfl,qV _ (sR c),a.imp id λh=>⟨"old",by decide,by trivial,.inr h⟩⟩
theorem Zk.SY(h:Zk e):I9 e:=by
 cases h with
 |pl v b=>exact DS b v
 |er c a=>exact BD ⟨rfl,rfl,qV _ (sR c),a.imp id λh=>⟨"old",by decide,by trivial,.inr h⟩⟩
theorem HZ{P:List C}{w:V}(a:fE (.ref 0) "code" (P++[.var none])=some (.int l.code))(b:l.code≠1)(c:P.length=P.length):aT (a0 (n+13) hd) a9 (zB 46) [rF 0,some w,rF P.length,nF,nF] (P++[.var none])=some (.ok .cY,[rF 0,some w,rF P.length,nF,nF],P++[.var none]):=by refine RN▸?_;exact Y2 (bF (aE (b8 (af rfl) a) (ao rfl) (fW b)) b0)
theorem OM{x:Str}{c:Ec}(a:oZ e)(b:∀S,hG ((En.c ⟨1,x,c,0,0,info,[]⟩)::S) (.none) e):aT (a0 (n+13) hd) a9 (zB 46) [rF 0,some (.none),rF 1,nF,nF] [(En.c ⟨1,x,c,0,0,info,[]⟩),.var none]=some (.ok .cY,[rF 0,some (.none),rF 1,nF,nF],[(C.exc mw [.int 1,.str x,c.v,.int 0,.int 0,.str info,.bool false,.int 0,.ref 5]),.var (some (.ref 2)),.dict ["-during"] [.str (gf e)],.dead,.dead,.list [.tup [.str "-during",.str (gf e)]]]):=by rw [RN];refine Y2 (cn (aE (b8 (af rfl) (bD (v:=.int 1) rfl (by trivial))) (ao rfl) rfl) ?_);refine ah (ls1:=[rF 0,some (.none),rF 1,nF,nF]) (S1:=[(En.c ⟨1,x,c,0,0,info,[]⟩),.var (some (.ref 2)),.dict [] []]) (by trivial) (ah (ls1:=[rF 0,some (.none),rF 1,nF,nF]) (S1:=[(En.c ⟨1,x,c,0,0,info,[]⟩),.var (some (.ref 2)),.dict [] [],.dead]) (by trivial) ?_);refine ah (ls1:=[rF 0,some (.none),rF 1,nF,nF]) (S1:=[(En.c ⟨1,x,c,0,0,info,[]⟩),.var (some (.ref 2)),.dict ["-during"] [.str (gf e)],.dead]) (aI (aM (x:=("options_text",343)) (aa (af rfl) ag) (by trivial) (a n hd _ _ (b _))) (by trivial)) ?_;exact Y2 (by trivial)
theorem ON{x:Str}{c:Ec}(a:oZ e)(b:∀S,hG ((En.c ⟨1,x,c,0,0,info,jL⟩)::S) (.none) e):aT (a0 (n+13) hd) a9 (zB 46) [rF 0,some (.none),rF 1,nF,nF] [(En.c ⟨1,x,c,0,0,info,jL⟩),.var none]=some (.ok .cY,[rF 0,some (.none),rF 1,sF "-k",sF "w"],[(C.exc mw [.int 1,.str x,c.v,.int 0,.int 0,.str info,.bool false,.int 0,.ref 5]),.var (some (.ref 2)),.dict ["-during","-k"] [.str (gf e),.str "w"],.dead,.dead,.list [.tup [.str "-during",.str (gf e)],.tup [.str "-k",.str "w"]]]):=by refine RN▸?_;refine Y2 (cn (aE (b8 (af rfl) (bD (v:=.int 1) rfl (by trivial))) (ao rfl) rfl) ?_);refine ah (ls1:=[rF 0,some (.none),rF 1,nF,nF]) (S1:=[(En.c ⟨1,x,c,0,0,info,jL⟩),.var (some (.ref 2)),.dict [] []]) (by trivial) (ah (ls1:=[rF 0,some (.none),rF 1,sF "-k",sF "w"]) (S1:=[(En.c ⟨1,x,c,0,0,info,jL⟩),.var (some (.ref 2)),.dict ["-during","-k"] [.str "old",.str "w"],.dead]) (by trivial) ?_);refine ah (ls1:=[rF 0,some (.none),rF 1,sF "-k",sF "w"]) (S1:=[(En.c ⟨1,x,c,0,0,info,jL⟩),.var (some (.ref 2)),.dict ["-during","-k"] [.str (gf e),.str "w"],.dead]) (aI (aM (x:=("options_text",343)) (aa (af rfl) ag) (by trivial) (a n hd _ _ (b _))) (by trivial)) ?_;exact Y2 (by trivial)
theorem OO{x:Str}{c:Ec}(a:oZ e)(b:∀S,hG ((En.c ⟨1,x,c,0,0,info,[]⟩)::e.c::S) (.ref 1) e):aT (a0 (n+13) hd) a9 (zB 46) [rF 0,rF 1,rF 2,nF,nF] [(En.c ⟨1,x,c,0,0,info,[]⟩),e.c,.var none]=some (.ok .cY,[rF 0,rF 1,rF 2,nF,nF],[(C.exc mw [.int 1,.str x,c.v,.int 0,.int 0,.str info,.bool false,.int 0,.ref 6]),e.c,.var (some (.ref 3)),.dict ["-during"] [.str (gf e)],.dead,.dead,.list [.tup [.str "-during",.str (gf e)]]]):=by rw [RN];refine Y2 (cn (aE (b8 (af rfl) (bD (v:=.int 1) rfl (by trivial))) (ao rfl) rfl) ?_);refine ah (ls1:=[rF 0,rF 1,rF 2,nF,nF]) (S1:=[(En.c ⟨1,x,c,0,0,info,[]⟩),e.c,.var (some (.ref 3)),.dict [] []]) (by trivial) (ah (ls1:=[rF 0,rF 1,rF 2,nF,nF]) (S1:=[(En.c ⟨1,x,c,0,0,info,[]⟩),e.c,.var (some (.ref 3)),.dict [] [],.dead]) (by trivial) ?_);refine ah (ls1:=[rF 0,rF 1,rF 2,nF,nF]) (S1:=[(En.c ⟨1,x,c,0,0,info,[]⟩),e.c,.var (some (.ref 3)),.dict ["-during"] [.str (gf e)],.dead]) (aI (aM (x:=("options_text",343)) (aa (af rfl) ag) (by trivial) (a n hd _ _ (b _))) (by trivial)) ?_;exact Y2 (by trivial)
theorem OP{x:Str}{c:Ec}(a:oZ e)(b:∀S,hG ((En.c ⟨1,x,c,0,0,info,jL⟩)::e.c::S) (.ref 1) e):aT (a0 (n+13) hd) a9 (zB 46) [rF 0,rF 1,rF 2,nF,nF] [(En.c ⟨1,x,c,0,0,info,jL⟩),e.c,.var none]=some (.ok .cY,[rF 0,rF 1,rF 2,sF "-k",sF "w"],[(C.exc mw [.int 1,.str x,c.v,.int 0,.int 0,.str info,.bool false,.int 0,.ref 6]),e.c,.var (some (.ref 3)),.dict ["-during","-k"] [.str (gf e),.str "w"],.dead,.dead,.list [.tup [.str "-during",.str (gf e)],.tup [.str "-k",.str "w"]]]):=by rw [RN];refine Y2 (cn (aE (b8 (af rfl) (bD (v:=.int 1) rfl (by trivial))) (ao rfl) rfl) ?_);refine ah (ls1:=[rF 0,rF 1,rF 2,nF,nF]) (S1:=[(En.c ⟨1,x,c,0,0,info,jL⟩),e.c,.var (some (.ref 3)),.dict [] []]) (by trivial) (ah (ls1:=[rF 0,rF 1,rF 2,sF "-k",sF "w"]) (S1:=[(En.c ⟨1,x,c,0,0,info,jL⟩),e.c,.var (some (.ref 3)),.dict ["-during","-k"] [.str "old",.str "w"],.dead]) (by trivial) ?_);refine ah (ls1:=[rF 0,rF 1,rF 2,sF "-k",sF "w"]) (S1:=[(En.c ⟨1,x,c,0,0,info,jL⟩),e.c,.var (some (.ref 3)),.dict ["-during","-k"] [.str (gf e),.str "w"],.dead]) (aI (aM (x:=("options_text",343)) (aa (af rfl) ag) (by trivial) (a n hd _ _ (b _))) (by trivial)) ?_;exact Y2 (by trivial)
theorem H5(s:Zk l)(i:oZ e):uu l e:=by
 intro n hd S k v b o hv;refine aQ o (λd=>aq d λh f=>?_) (λr=>bc r λj w f q=>?_)
 ·clear d;clear o;clear hv;subst h;cases s with
  |pl x g=>rename_i K;rw [kT (qo g)];exact cq (by trivial) (vH b (bC (vs:=[.ref 0,.none]) (ds:=[]) (by trivial) (HZ (l:=qF K x) (bD rfl (by trivial)) (qo g) rfl)) (tt _))
  |er u m=>
   rename_i x a c t;refine aQ m (λd=>?_) (λh=>?_)
   ·subst d;exact cq (by trivial) (vH b (bC (vs:=[.ref 0,.none]) (S:=[En.c ⟨1,x,c,0,0,a,[]⟩]) (ds:=[]) (by trivial) (OM i (λS=>.inl ⟨rfl,f⟩))) (by cases c<;>rfl))
   ·subst h;exact cq (by trivial) (vH b (bC (vs:=[.ref 0,.none]) (S:=[En.c ⟨1,x,c,0,0,a,jL⟩]) (ds:=[]) (by trivial) (ON i (λS=>.inl ⟨rfl,f⟩))) (by cases c<;>rfl))
 ·clear r;clear o;subst w;have p:k≠j:=λe=>hv (by exact e▸rfl);cases s with
  |pl x g=>rename_i K;rw [kT (qo g)];exact cq (by trivial) (z9 p b q (bC (vs:=[.ref 0,.ref 1]) (S:=[(qF K x).c,e.c]) (ds:=[]) (by trivial) (HZ (l:=qF K x) (bD rfl (by trivial)) (qo g) rfl)) (tt _))
  |er u m=>
   rename_i x a c t;refine aQ m (λd=>?_) (λh=>?_)
   ·subst d;exact cq (by trivial) (z9 p b q (bC (vs:=[.ref 0,.ref 1]) (S:=[En.c ⟨1,x,c,0,0,a,[]⟩,e.c]) (ds:=[]) (by trivial) (OO i (λS=>.inr ⟨1,rfl,f,rfl⟩))) (by cases c<;>rfl))
   ·subst h;exact cq (by trivial) (z9 p b q (bC (vs:=[.ref 0,.ref 1]) (S:=[En.c ⟨1,x,c,0,0,a,jL⟩,e.c]) (ds:=[]) (by trivial) (OP i (λS=>.inr ⟨1,rfl,f,rfl⟩))) (by cases c<;>rfl))
theorem H6(o:Zk l)(k:I9 e):HE l e:=by
 intro n S;cases o with
 |pl x j=>rename_i K;rw [kT (qo j)];refine cq (i:=92) (by trivial) (jB (vs':=[(qF K x).v,e.v]) (v:=(qF K x).v) (aK:=[.var none]) rfl (by simp only [bH,bz,xS]) ?_ rfl (xS _));refine bC (ds:=[]) (r:=.ok (.ret (qF K x).v)) (br:=[some (qF K x).v,some e.v,rF 0,nF]) (by trivial) ?_;refine UE▸?_;show aT (a0 (n+12) false) a9 _ [some (qF K x).v,some e.v,rF 0,nF] [.var none]=_;exact eD (cn (aE (bB (af rfl) (ao rfl) (v:=.int K.1) (by trivial)) (ao rfl) (c:=true) (by (refine iE▸?_;refine (df (qo j))▸?_);rfl)) (Y2 (bQ (af rfl)))) trivial
 |er p m=>
  rename_i x a c q;clear p;rcases m with rfl|rfl
  ·have d:cG (n+12) false 749 [e.v] [.var none]=some (.ok (.str (gf e)),[.var none]):=k n false _;have b:∃br S2 w,aT (a0 (n+12) false) a9 UD [some (En.v ⟨1,x,c,0,0,a,[]⟩),some e.v,rF 0,nF] [.var (some (.str (gf e)))]=some (.ok (.ret w),br,S2)/\b7 0 (.ok w) S2=none/\fK S2 (bZ [] S.length none) 40 w=some (En.v ((En.mk 1 x c 0 0 a []).after e)):=by
    exact BE (by cases c<;>trivial)
   refine bg b λbr S2 w g f h=>?_;clear b;refine cq (i:=92) (by trivial) (jB (vs':=[(En.v ⟨1,x,c,0,0,a,[]⟩),e.v]) (v:=w) (aK:=S2) rfl (by simp only [bH,bz,xS]) ?_ f h);refine bC (ds:=[]) (r:=.ok (.ret w)) (br:=br) (by trivial) ?_;refine UE▸?_;show aT (a0 (n+12) false) a9 _ [some (En.v ⟨1,x,c,0,0,a,[]⟩),some e.v,rF 0,nF] [.var none]=_;refine ah (bF (aE (bB (af rfl) (ao rfl) (v:=.int 1) (by trivial)) (ao rfl) rfl) b0) (ah (aI (aM (x:=("_law_options",749)) (aa (af rfl) ag) (by trivial) d) (qU rfl rfl)) ?_);exact g
  ·have d:cG (n+12) false 749 [e.v] [.var none]=some (.ok (.str (gf e)),[.var none]):=k n false _;have b:∃br S2 w,aT (a0 (n+12) false) a9 UD [some (En.v ⟨1,x,c,0,0,a,jL⟩),some e.v,rF 0,nF] [.var (some (.str (gf e)))]=some (.ok (.ret w),br,S2)/\b7 0 (.ok w) S2=none/\fK S2 (bZ [] S.length none) 40 w=some (En.v ((En.mk 1 x c 0 0 a jL).after e)):=by
    exact BE (by cases c<;>trivial)
   refine bg b λbr S2 w g f h=>?_;clear b;refine cq (i:=92) (by trivial) (jB (vs':=[(En.v ⟨1,x,c,0,0,a,jL⟩),e.v]) (v:=w) (aK:=S2) rfl (by simp only [bH,bz,xS]) ?_ f h);refine bC (ds:=[]) (r:=.ok (.ret w)) (br:=br) (by trivial) ?_;refine UE▸?_;show aT (a0 (n+12) false) a9 _ [some (En.v ⟨1,x,c,0,0,a,jL⟩),some e.v,rF 0,nF] [.var none]=_;refine ah (bF (aE (bB (af rfl) (ao rfl) (v:=.int 1) (by trivial)) (ao rfl) rfl) b0) (ah (aI (aM (x:=("_law_options",749)) (aa (af rfl) ag) (by trivial) d) (qU rfl rfl)) ?_);exact g
end
noncomputable def ZM:V:=.tup [.str "finally",.str "on",.str "trap"]
noncomputable def ma:du:=[("on","on"),("o","on"),("trap","trap"),("t","trap"),("finally","finally"),("f","finally"),("fina","finally")]
noncomputable def BF:List (Str×Int):=[("ok",0),("error",1),("return",2),("break",3),("continue",4),("5",5),("-1",-1),("0x1",1),(" 0 ",0)]
noncomputable def KZ:List (Str×List Str):=[("",[]),("A",["A"]),("A B",["A","B"]),("A {b c}",["A","b c"]),("B",["B"]),("NONE",["NONE"]),("A B C",["A","B","C"])]
noncomputable def H9:List (Str×List Str):=[("",[]),("m",["m"]),("m o",["m","o"]),("{m n} o",["m n","o"]),("m m",["m","m"]),("o m x",["o","m","x"]),(" m\to ",["m","o"])]
noncomputable def Ia(k:Nat)(a:Addr)(vs:List V)(v:V):Prop:=∀n hd S,cG (n+k) hd a vs S=some (.ok v,S)
theorem vI{a:Addr}{f:α->List V}{g:α->V}{l:List α}(h:∀n hd S,(l.map λx=>cG (n+k) hd a (f x) S)=l.map λx=>some (.ok (g x),S++[])):∀x∈l,Ia k a (f x) (g x):=λx b n hd S=>(eN (h n hd S) x b).trans (by rw [dA])
theorem K0:∀p∈ma,Ia 3 160 [.str "handler type",.str p.1,ZM] (.str p.2):=vI λn hd S=>by trivial
theorem K1:∀p∈BF,Ia 6 371 [.str p.1] (.int p.2):=vI λn hd S=>by trivial
theorem OQ:∀p∈KZ,Ia 6 378 [.str p.1] (aX p.2):=vI λn hd S=>by trivial
theorem OR:∀p∈H9,Ia 6 286 [.str p.1] (aX p.2):=vI λn hd S=>by trivial
structure Cl (ws:List Str) (h:Ha):Prop where
 ex:∃w0 w1 w2 sort,ws=[w0,w1,w2,h.aB]/\(w0,sort)∈ma/\Ia 6 286 [.str w2] (aX h.names)/\((sort="on"/\h.begun=[]/\Ia 6 371 [.str w1] (.int h.code))\/(sort="trap"/\h.code=1/\Ia 6 378 [.str w1] (aX h.begun)))
noncomputable abbrev RO:St:=.ifs (.cmp .Gt (.loc 1) (.bin .Sub (.bi .len o0 (.loc 0)) (.cst (.int 4)))) (yj (.asg ⟨[.loc 3],none⟩ none (.cst (.str "code"))) (.ifs (.cmp .Eq (.loc 2) (.cst (.str "trap"))) (dO (.asg ⟨[.loc 3],none⟩ none (.cst (.str "pattern")))) .nil) (.asg ⟨[.loc 4],none⟩ none (.bin .Add (.bin .Add (.bin .Add (.bin .Add (.bin .Add (.bin .Add (.cst (.str "wrong # args to ")) (.loc 2)) (.cst (.str " clause: must be \"... "))) (.loc 2)) (.cst (.str " "))) (.loc 3)) (.cst (.str " variableList script\"")))) (.s8 (.call 29 o0 (cA (.loc 4) (.tup (cA (.eB (.loc 2) .upper o0 .nil) (.cst (.str "ARGUMENT")))))))) .nil
noncomputable abbrev K5:Ex:=.idx (.loc 0) (.bin .Add (.loc 1) (.cst (.int 1)))
noncomputable abbrev RP:dL:=dO (.ret (.tup (qR (.loc 5) (.loc 6) (.call 15 o0 (cN (.idx (.loc 0) (.bin .Add (.loc 1) (.cst (.int 2)))))) (.idx (.loc 0) (.bin .Add (.loc 1) (.cst (.int 3)))))))
theorem V1:(zB 41)=(.cons RO (.cons (.asg ⟨[.loc 5],none⟩ none (.cst (.int 1))) (.cons (.asg ⟨[.loc 6],none⟩ none (.bw .nil)) (.cons (.ifs (.cmp .Eq (.loc 2) (.cst (.str "on"))) (dO (.asg ⟨[.loc 5],none⟩ none (.call 27 o0 (cN K5)))) (nE (.asg ⟨[.loc 6],none⟩ none (.call 28 o0 (cN K5))) (.ifs (.cmp .Is (.loc 6) (.cst .none)) (dO (.s8 (.call 29 o0 (cA (.bin .Add (.bin .Add (.cst (.str "bad prefix '")) K5) (.cst (.str "': must be a list"))) (.tup (cA (.cst (.str "TRAP")) (.cst (.str "EXNFORMAT")))))))) .nil))) RP)))):=by trivial
theorem XV:(zB 42)=(Ez (.ifs (.cmp .Lt (.loc 1) (.bin .Sub (.bi .len o0 (.loc 0)) (.cst (.int 2)))) (dO (.s8 (.call 29 o0 (cA (.cst (.str "finally clause must be last")) (.tup (cA (.cst (.str "FINALLY")) (.cst (.str "NONTERMINAL")))))))) .nil) (.ifs (.cmp .Eq (.loc 1) (.bin .Sub (.bi .len o0 (.loc 0)) (.cst (.int 1)))) (dO (.s8 (.call 29 o0 (cA (.cst (.str "wrong # args to finally clause: must be \"... finally script\"")) (.tup (cA (.cst (.str "FINALLY")) (.cst (.str "ARGUMENT")))))))) .nil) (.ret K5)):=by trivial
noncomputable abbrev RQ:St:=.asg ⟨[.loc 4],none⟩ none (.call 4 o0 (xy (.cst (.str "handler type")) (.idx (.loc 0) (.loc 3)) (.tup (xy (.cst (.str "finally")) (.cst (.str "on")) (.cst (.str "trap"))))))
noncomputable abbrev RR:dL:=nE RQ (.ifs (.cmp .Eq (.loc 4) (.cst (.str "finally"))) (nE (.asg ⟨[.loc 2],none⟩ none (.call 31 o0 (cA (.loc 0) (.loc 3)))) (.aug 3 o0 .Add (.cst (.int 2)))) (nE (.exp (.eB (.loc 1) .append o0 (cN (.call 30 o0 (xy (.loc 0) (.loc 3) (.loc 4)))))) (.aug 3 o0 .Add (.cst (.int 4)))))
noncomputable abbrev RS:St:=(.A9 (.cmp .Lt (.loc 3) (.bi .len o0 (.loc 0))) RR)
noncomputable abbrev RT:dL:=nE (.ifs (.lS .And (.cmp .Gt (.bi .len o0 (.loc 1)) (.cst (.int 0))) (cN (.cmp .Eq (.idx (.idx (.loc 1) (.neg (.cst (.int 1)))) (.cst (.int 3))) (.cst (.str "-"))))) (dO (.s8 (.call 29 o0 (cA (.cst (.str "last non-finally clause must not have a body of \"-\"")) (.tup (cN (.cst (.str "BADFALLTHROUGH")))))))) .nil) (.ret (.tup Hp))
theorem V2:(zB 43)=(.cons (.asg ⟨[.loc 1],none⟩ none (.bw .nil)) (.cons (.asg ⟨[.loc 2],none⟩ none (.cst .none)) (.cons (.asg ⟨[.loc 3],none⟩ none (.cst (.int 2))) (.cons RS RT)))):=by trivial
section
variable {Ws:List Str}{w w1 w2 w3 sort:Str}{h:Ha}
theorem qW{a b:Nat}(f:ls[a]? =some (some (.ref k)))(e:ls[b]? =some (some (.int i)))(c:S[k]? =some (.list (Ws.map .str)))(g:Ws.length<=100)(d:Ws[i+j]? =some w):Ev cf ls a9 (.idx (.loc a q1) (.bin .Add (.loc b q2) (.cst (.int j) 0 q3) q4) q5) S (.str w) S:=
 bB (af f) (gd (af e) (ao rfl) (v:=.int ((i+j:Nat):Int)) rfl) (eG c (by (refine (hZ)▸?_;refine d▸?_);rfl) (by simp;exact aA ‹_› (by decide)))
theorem gX{a:Nat}(d:cf.hd=hd)(c:ls[a]? =some (some (.ref k)))(b:S[k]? =some (.list (Ws.map .str)))(e:Ws.length<=100):Ev cf ls a9 (.bi .len q1 (.loc a q2) q3) S (.int Ws.length) S:=by subst d;have:=len_list (hd:=cf.hd) b (by simp;exact aA ‹_› (by decide));rw [dG] at this;exact hU (af c) this
theorem UF{a b:Int}(h:¬a>b):eg .Gt (.int a) (.int b) S=some false:=gt_int (df h)
theorem sub_int{a b:Int}:mm .Sub (.int a) (.int b) S=some (.int (a - b)):=rfl
theorem BG{f:List V->List C->Y5 V}(e:bT vs []=[k])(d:cM (fK [] (c8 [k]) 40) vs=some vs')(a:S[k]? =some (.list (Ws.map .str)))(h:f vs' [.list (Ws.map .str)]=some (.ok v,.list (Ws.map .str)::aK))(b:b7 1 (.ok v) (.list (Ws.map .str)::aK)=none)(c:fK (.list (Ws.map .str)::aK) (bZ [k] S.length none) 40 v=some v'):lX f vs S=some (.ok v',S):=
 Eq.trans (jC (c₂:=.list (Ws.map .str)) e d a (by simp only [oN,jM,Option.map]) h b (by simp only [oN,jM,Option.map]) c) (by rw [Ze a])
theorem tu(o:S[k]? =some (.list (Ws.map .str)))(f:Ws.length<=100)(s:i+4<=Ws.length)(w:Ws[i+1]? =some w1)(t:Ws[i+2]? =some w2)(u:Ws[i+3]? =some h.aB)(hn:Ia 6 286 [.str w2] (aX h.names))
 (hs:(sort="on"/\h.begun=[]/\Ia 6 371 [.str w1] (.int h.code))\/(sort="trap"/\h.code=1/\Ia 6 378 [.str w1] (aX h.begun))):cG (n+9) hd 392 [.ref k,.int i,.str sort] S=some (.ok h.v,S):=by
 have j:∀T,(C.list (Ws.map V.str)::T)[0]? =some (C.list (Ws.map V.str)):=λ_=>rfl
 have q:∀{b o4 o5 o6:Option V},Nx (a0 (n+8) hd) a9 RO [rF 0,iF i,sF sort,b,o4,o5,o6] [.list (Ws.map .str)] [rF 0,iF i,sF sort,b,o4,o5,o6] [.list (Ws.map .str)]:=bF (aE (af rfl) (gd (gX rfl rfl (j []) f) (ao rfl) sub_int) (UF (qB s))) b0
 have p:∀{ls:bW} {T:List C} {q1 q2 q3 q4 q5:Pos},ls[0]? =some (some (.ref 0))->ls[1]? =some (some (.int i))->Ev (a0 (n+8) hd) ls a9 (.idx (.loc 0 q1) (.bin .Add (.loc 1 q2) (.cst (.int 1) 0 q3) q4) q5) (.list (Ws.map .str)::T) (.str w1) (.list (Ws.map .str)::T):=λd a=>qW d a (j _) f w
 have fin:∀{c:Int} {g:V} {T:List C} {b o4:Option V},aT (a0 (n+8) hd) a9 RP [rF 0,iF i,sF sort,b,o4,iF c,some g] (.list (Ws.map .str)::T)=some (.ok (.ret (.tup [.int c,g,aX h.names,.str h.aB])),[rF 0,iF i,sF sort,b,o4,iF c,some g],.list (Ws.map .str)::T):=λ{c g T b o4}=>
  Y2 (bQ (cV (aa (af rfl) (aa (af rfl) (aa (aM (x:=("split_list",286)) (aa ((λd a=>qW d a (j _) f t) rfl rfl) ag) (by trivial) (hn (n+2) hd _)) (aa ((λd a=>qW d a (j _) f u) rfl rfl) ag)))) rfl))
 rcases hs with ⟨rfl,a,l⟩|⟨rfl,l,a⟩
 ·refine cq (i:=41) (by trivial) (BG (vs':=[.ref 0,.int i,.str "on"]) (aK:=[.list []]) (v:=.tup [.int h.code,.ref 1,aX h.names,.str h.aB]) rfl (by simp only [bH,bz,eW,iK,iL,b9]) o ?_ rfl (by
   have e:=ux (S:=[C.list (Ws.map V.str),.list []]) (k:=bZ [k] S.length none) (m:=37) h;unfold Ha.v at e |-;rw [a] at e |-;exact e))
  refine bC (ds:=[]) (r:=.ok (.ret _)) (br:=[rF 0,iF i,sF "on",nF,nF,iF h.code,rF 1]) (by trivial) ?_
  refine V1▸?_
  show aT (a0 (n+8) hd) a9 _ [rF 0,iF i,sF "on",nF,nF,nF,nF] [.list (Ws.map .str)]=_
  exact ah q (ah (aI (ao rfl) aU) (ah (aI (dH ag rfl) aU) (ah (cn (aE (af rfl) (ao rfl) (eq_str (by trivial))) (Y2 (aI (aM (x:=("code_of",371)) (aa (p rfl rfl) ag) (by trivial) (l (n+2) hd _)) aU))) fin)))
 ·refine cq (i:=41) (by trivial) (BG (vs':=[.ref 0,.int i,.str "trap"]) (aK:=[.list []]) rfl (by simp only [bH,bz,eW,iK,iL,b9]) o ?_ rfl (ux h))
  refine bC (ds:=[]) (r:=.ok (.ret _)) (br:=[rF 0,iF i,sF "trap",nF,nF,iF 1,some (aX h.begun)]) (by trivial) ?_
  refine V1▸?_
  show aT (a0 (n+8) hd) a9 _ [rF 0,iF i,sF "trap",nF,nF,nF,nF] [.list (Ws.map .str)]=_
  have e:h.v=.tup [.int 1,aX h.begun,aX h.names,.str h.aB]:=by unfold Ha.v;exact l▸rfl
  refine e▸?_
  exact ah q (ah (aI (ao rfl) aU) (ah (aI (dH ag rfl) aU) (ah (bF (aE (af rfl) (ao rfl) (eq_str (by trivial))) (ah (aI (aM (x:=("list_or_none",378)) (aa (p rfl rfl) ag) (by trivial) (a (n+2) hd _)) aU) (Y2 (bF (aE (af rfl) (ao rfl) rfl) b0)))) fin)))
end
noncomputable def vJ(fin:Option Str):V:=match fin with
 |some _=>.str "f"
 |none=>.none
noncomputable def ph(fin:Option Str):List Str:=match fin with
 |some x=>[x,"f"]
 |none=>[]
noncomputable abbrev RU:Ex:=(.cmp .Lt (.loc 3) (.bi .len o0 (.loc 0)))
noncomputable abbrev RW:dL:=RR
noncomputable abbrev xT(n:Nat)(hd:Bool):Nat->bW->List C->ci:=jV (λls S=>ev (a0 (n+14) hd) ls a9 RU S) (λls S=>aT (a0 (n+14) hd) a9 RW ls S)
section
variable {Ws:List Str}{w w1 w2 w3 sort:Str}{h:Ha}
theorem UG{a b:Int}(h:a<b):eg .Lt (.int a) (.int b) S=some true:=by show some (decide (a<b))=_;rw [cQ h]
theorem K6(d:S[k]? =some (.list (Ws.map .str)))(a:Ws.length<=100)(c:i+2=Ws.length)(e:Ws[i+1]? =some w):cG (n+2) hd 399 [.ref k,.int i] S=some (.ok (.str w),S):=by have b:[C.list (Ws.map V.str)][0]? =some (C.list (Ws.map V.str)):=rfl;refine cq (i:=42) (by trivial) (BG (vs':=[.ref 0,.int i]) (aK:=[]) (v:=.str w) rfl (by simp only [bH,bz,eW,iK,b9]) d ?_ rfl rfl);refine bC (ds:=[]) (r:=.ok (.ret (.str w))) (br:=[rF 0,iF i]) (by trivial) ?_;refine XV▸?_;exact ah (bF (aE (af rfl) (gd (gX rfl rfl b a) (ao rfl) sub_int) (DN (df (qC c)))) b0) (ah (bF (aE (af rfl) (gd (gX rfl rfl b a) (ao rfl) sub_int) (fW (qN c))) b0) (Y2 (bQ (qW rfl rfl b a e))))
theorem Ib{T:List C}(b:Ws.length<=100)(a:i<Ws.length):Ev (a0 (n+14) hd) [rF 0,l1,l2,iF i,o4] a9 RU (.list (Ws.map .str)::T) (.bool true) (.list (Ws.map .str)::T):=
 aE (af rfl) (gX rfl rfl rfl b) (UG (Int.ofNat_lt.mpr a))
theorem Ic{T:List C}(c:Ws.length<=100)(a:Ws[i]? =some w)(b:(w,sort)∈ma):Nx (a0 (n+14) hd) a9 RQ [rF 0,l1,l2,iF i,o4] (.list (Ws.map .str)::T) [rF 0,l1,l2,iF i,sF sort] (.list (Ws.map .str)::T):=
 aI (aM (x:=("pick",160)) (aa (ao rfl) (aa (bB (af rfl) (af rfl) (v:=.str w) (eG rfl (by (refine (hZ)▸?_;refine a▸?_);rfl) (by simp;exact aA ‹_› (by decide)))) (aa (cV (aa (ao rfl) (aa (ao rfl) (aa (ao rfl) ag))) rfl) ag))) (by trivial) (K0 _ b (n+11) hd _)) aU
theorem K9{acc:List V}(d:Ws.length<=100)(u:acc.length<=100)(g:i+4<=Ws.length)(b:∀j,j<4->Ws[i+j]? =ws[j]?)(f:Cl ws h):∃l,aT (a0 (n+14) hd) a9 RW [rF 0,rF 1,l2,iF i,o4] [.list (Ws.map .str),.list acc]=some (.ok .cY,[rF 0,rF 1,l2,iF ((i+4:Nat):Int),l],[.list (Ws.map .str),.list (acc++[h.v])]):=by
 refine gl λq o=>?_;refine LY f.ex λs r t a m c hn hs=>?_;clear f;subst m;have e:=append_at (S:=[.list (Ws.map .str),.list acc]) (k:=1) (v:=h.v) rfl (aA ‹_› (by decide));have p:aD a "finally"=false:=by clear c;rcases hs with ⟨rfl,_⟩|⟨rfl,_⟩<;>trivial
 refine o ?_;exact ⟨_,ah (Ic d (b 0 (by decide)) c) (Y2 (bF (aE (af rfl) (ao rfl) (eq_str p)) (ah (fV (iO (af rfl) e.1 (aa (aM (x:=("handler_at",392)) (aa (af rfl) (aa (af rfl) (aa (af rfl) ag))) (by trivial) (tu (n:=n+5) (hd:=hd) (k:=0) rfl d g (b 1 (by decide)) (b 2 (by decide)) (b 3 (by decide)) hn hs)) ag) e.2)) (Y2 (Bq rfl (ao rfl) rfl)))))⟩
theorem xU{a:List Str}(k:Ws.length<=100):∀(cs:List (List Str×Ha)) (pre:List Str),Ws=pre++(cs.flatMap (·.1)++a)->(∀c∈cs,Cl c.1 c.2)->∀(acc:List V) (o4:Option V),acc.length+cs.length<=100->
 ∃f,xT n hd (cs.length+M) [rF 0,rF 1,l2,iF pre.length,o4] [.list (Ws.map .str),.list acc]=xT n hd M [rF 0,rF 1,l2,iF ((pre++cs.flatMap (·.1)).length:Nat),f] [.list (Ws.map .str),.list (acc++(cs.map (·.2)).map Ha.v)]:=by
 intro t
 induction t with
 |nil=>
  intro pre m y acc o4 z
  exact ⟨o4,by simp⟩
 |cons c cs d=>
  intro pre m o acc o4 i
  have p:=o c gJ
  have h:c.1.length=4:=by refine tH p.ex λA B C l e _=>?_;rw [e];rfl
  have g:Ws=(pre++c.1)++(cs.flatMap (·.1)++a):=by rw [m];simp [py]
  have b:Ws.length=pre.length+4+(cs.flatMap (·.1)++a).length:=by rw [g];simp only [de,h]
  have s:pre.length+4<=Ws.length:=by rw [b];exact bY _ _
  have q:∀j,j<4->Ws[pre.length+j]? =c.1[j]? :=λj w=>by rw [g,ff,eO (bY _ _),tz,fb (by rw [h];exact w)]
  refine ar (K9 (n:=n) (hd:=hd) (l2:=l2) (o4:=o4) k (aA (bY _ _) i) s q p) λf u=>?_
  refine ar (d (pre++c.1) g (λx r=>o x (j3 _ r)) (acc++[c.2.v]) f (by simp at i |-;exact aA (c6 (qZ _ 1 _)) i)) λo5 d=>?_
  refine ⟨o5,?_⟩
  rw [show (c::cs).length+M=(cs.length+M)+1 by simp;exact qZ _ _ _]
  refine nM (Ib k (ei (bY _ _) ‹_›)) u ?_
  rw [show ((pre.length+4:Nat):Int)=(((pre++c.1).length:Nat):Int) by rw [de,h]]
  refine d.trans ?_
  simp [py]
theorem Lb{pre:List Str}(b:Ws=pre++(cs.flatMap (·.1)++ph fin))(j:∀c∈cs,Cl c.1 c.2)(a:Ws.length<=100)(f:cs.length<=90)(g:∀x,fin=some x->(x,("finally":Str))∈ma):
 ∃br,xT n hd 5000 [rF 0,rF 1,some .none,iF pre.length,nF] [.list (Ws.map .str),.list []]=some (.ok .cY,some (.ref 0)::some (.ref 1)::some (vJ fin)::br,[.list (Ws.map .str),.list ((cs.map (·.2)).map Ha.v)]):=by
 refine ar (xU (n:=n) (hd:=hd) (l2:=some .none) (M:=5000 - cs.length) a cs pre b j [] none (by simp;exact aA ‹_› (by decide))) λo4 st=>?_
 rw [show cs.length+(5000 - cs.length)=5000 by exact uF (aA f (by decide))] at st
 refine st▸?_
 refine (Nat.sub_add_comm (n:=4998) (m:=2) (aA f (by decide)))▸?_
 cases fin with
 |none=>
  have e:Ws.length=(pre++cs.flatMap (·.1)).length:=by refine b▸?_;exact bA List.length ((bA (pre++·) (dA _)))
  refine ⟨_,pe (aE (af rfl) (gX rfl rfl rfl a) (DN (df ?_)))⟩
  refine e▸?_;exact Int.lt_irrefl _
 |some x=>
  have d:Ws=(pre++cs.flatMap (·.1))++[x,"f"]:=b.trans (ff ..).symm
  have e:Ws.length=(pre++cs.flatMap (·.1)).length+2:=by (refine d▸?_;refine de▸?_);rfl
  generalize pre++cs.flatMap (·.1)=P at *
  have h:Ws[P.length]? =some x:=by refine d▸?_;simp
  have i:Ws[P.length+1]? =some "f":=by refine d▸?_;simp
  refine ⟨_,nM (Ib a (e▸Nat.lt_add_of_pos_right (by decide))) (ah (Ic a h (g x rfl)) (Y2 (cn (aE (af rfl) (ao rfl) (eq_str (by trivial))) (ah (aI (aM (x:=("last_script",399)) (aa (af rfl) (aa (af rfl) ag)) (by trivial) (K6 (n:=n+12) (k:=0) rfl a e.symm i)) aU) (Y2 (Bq rfl (ao rfl) rfl)))))) (pe (aE (af rfl) (gX rfl rfl rfl a) (DN (df ?_))))⟩
  refine e▸?_;exact Int.lt_irrefl _
theorem Lc(a:l.length<=100):lB (.ref 1) (.int (-1)) [S0,.list (l++[v])]=some v:=by show (Et (l++[v]) (Int.negSucc 0))=_;delta Et;dsimp only;rw [de,cT,dQ];rw [show Nat.blt 0 (l.length+(0+1))=true from rfl];simp
theorem Aa{a b:Str}(z:S[k]? =some (.list (Ws.map .str)))(t:Ws=a::b::(cs.flatMap (·.1)++ph fin))(I:∀c∈cs,Cl c.1 c.2)(D:Ws.length<=100)(u:cs.length<=90)(p:∀x,fin=some x->(x,("finally":Str))∈ma)(s:∀h,(cs.map (·.2)).getLast? =some h->Za h=true):
 cG (n+15) hd 406 [.ref k] S=some (.ok (.tup [.lst ((cs.map (·.2)).map Ha.v),vJ fin]),S):=by
 refine ar (Lb (n:=n) (hd:=hd) (pre:=[a,b]) t I D u p) λbr o=>?_
 generalize j:cs.map (·.2)=hs at *
 have G:hs.length<=90:=by rw [<-j];simpa using u
 have H:∀{S:List C} {f:Nat->Option Nat} {m:Nat} (l:List Ha),cM (fK S f (m+3)) (l.map Ha.v)=some (l.map Ha.v):=λ{S f m} l=>by
  induction l with
  |nil=>rfl
  |cons x r y=>(simp -iota only [List.map,bz,ux,y];rfl)
 refine cq (i:=43) (by trivial) (BG (aK:=[.list (hs.map Ha.v)]) (v:=.tup [.ref 1,vJ fin]) rfl (by (simp -iota only [bH,bz,eW,b9];rfl)) z ?_ rfl ?_)
 ·refine bC (ds:=[]) (r:=.ok (.ret _)) (br:=some (.ref 0)::some (.ref 1)::some (vJ fin)::br) (by trivial) ?_
  rw [V2]
  refine ah (aI (dH ag rfl) aU) (ah (aI (ao rfl) aU) (ah (aI (ao rfl) aU) (ah (HL o) ?_)))
  have e:∀{q1 q2 q3:Pos},Ev (a0 (n+14) hd) (some (.ref 0)::some (.ref 1)::some (vJ fin)::br) a9 (.bi .len q1 (.loc 1 q2) q3) [.list (Ws.map .str),.list (hs.map Ha.v)] (.int (hs.map Ha.v).length) [.list (Ws.map .str),.list (hs.map Ha.v)]:=hU (af rfl) (len_list rfl (by simp;exact aA ‹_› (by decide)))
  have w:aT (a0 (n+14) hd) a9 (dO (.ret (.tup Hp))) (some (.ref 0)::some (.ref 1)::some (vJ fin)::br) [.list (Ws.map .str),.list (hs.map Ha.v)]=some (.ok (.ret (.tup [.ref 1,vJ fin])),some (.ref 0)::some (.ref 1)::some (vJ fin)::br,[.list (Ws.map .str),.list (hs.map Ha.v)]):=Y2 (bQ (cV (aa (af rfl) (aa (af rfl) ag)) rfl))
  refine aQ (eq_nil_or_concat hs) (λF=>?_) (λq=>dZ q λd h A=>?_)
  ·clear o s;subst F
   exact ah (bF (gz (aE e (ao rfl) (c:=false) rfl) sG) b0) w
  ·clear q;clear o j;subst A
   have g:Za h=true:=s h (by simp)
   rw [concat_eq_append] at *
   have B:Ev (a0 (n+14) hd) (some (.ref 0)::some (.ref 1)::some (vJ fin)::br) a9 (.idx (.idx (.loc 1) (.neg (.cst (.int 1)))) (.cst (.int 3))) [.list (Ws.map .str),.list ((d++[h]).map Ha.v)] (.str h.aB) [.list (Ws.map .str),.list ((d++[h]).map Ha.v)]:=by refine bB (bB (af rfl) rfl (v:=h.v) ?_) (ao rfl) (by trivial);rw [(show (d++[h]).map Ha.v=d.map Ha.v++[h.v] from by simp)];exact Lc (by simp at G |-;exact aA ‹_› (by decide))
   have g:aD h.aB "-"=false:=by
    unfold Za at g;cases E:aD h.aB "-" with
    |true=>rw [E] at g;exact eI g
    |false=>rfl
   exact ah (bF (gz (aE e (ao rfl) (gt_int (cQ (by simp)))) (kR (aE B (ao rfl) (eq_str g)) fU)) b0) w
 ·simp -iota only [oM,eW,bH,bz]
  have:bZ [k] S.length none 1=none:=rfl
  (simp -iota only [this,getElem?_cons_succ,getElem?_cons_zero,Option.map];dsimp only;simp -iota only [H])
  clear o t p;cases fin<;>rfl
end
structure Wr where
 more:List Str
 why:Str
 ec:List Str
noncomputable def c9:List Wr:=[
 ⟨["on"],"wrong # args to on clause: must be \"... on code variableList script\"",["TCL","OPERATION","TRY","ON","ARGUMENT"]⟩,
 ⟨["o","x","m"],"wrong # args to on clause: must be \"... on code variableList script\"",["TCL","OPERATION","TRY","ON","ARGUMENT"]⟩,
 ⟨["tr","A",""],"wrong # args to trap clause: must be \"... trap pattern variableList script\"",["TCL","OPERATION","TRY","TRAP","ARGUMENT"]⟩,
 ⟨["fin"],"wrong # args to finally clause: must be \"... finally script\"",["TCL","OPERATION","TRY","FINALLY","ARGUMENT"]⟩,
 ⟨["finally","f","on"],"finally clause must be last",["TCL","OPERATION","TRY","FINALLY","NONTERMINAL"]⟩,
 ⟨["f","f","finally","f"],"finally clause must be last",["TCL","OPERATION","TRY","FINALLY","NONTERMINAL"]⟩,
 ⟨["x","ok","","h"],"bad handler type \"x\": must be finally, on, or trap",["TCL","LOOKUP","INDEX","handler type","x"]⟩,
 ⟨["","ok"],"bad handler type \"\": must be finally, on, or trap",["TCL","LOOKUP","INDEX","handler type",""]⟩,
 ⟨["on","er","{","h"],"bad completion code \"er\": must be ok, error, return, break, continue, or an integer",["TCL","RESULT","ILLEGAL_CODE"]⟩,
 ⟨["trap","\"x","m","h"],"bad prefix '\"x': must be a list",["TCL","OPERATION","TRY","TRAP","EXNFORMAT"]⟩,
 ⟨["on","ok","\"x","h"],"unmatched open quote in list",["TCL","VALUE","LIST","QUOTE"]⟩,
 ⟨["on","ok","","-"],"last non-finally clause must not have a body of \"-\"",["TCL","OPERATION","TRY","BADFALLTHROUGH"]⟩,
 ⟨["trap","","m","-","finally","f"],"last non-finally clause must not have a body of \"-\"",["TCL","OPERATION","TRY","BADFALLTHROUGH"]⟩]
noncomputable def Wr.DU(x:Wr):V:=.tup (x.ec.map .str)
protected noncomputable def Wr.c (x:Wr):C:=.exc mw [.int 1,.str x.why,x.DU,.int 0,.int 0,.str "",.bool false,.int 0,.lst []]
noncomputable def xV(n M:Nat)(ls:bW)(S:List C):ci:=nn (xT n false M ls S) λls S=>aT (a0 (n+14) false) a9 RT ls S
noncomputable def pi(o:ci):Option (Option C×Option C×Bool):=match o with
 |some (.exc k,_,S)=>some (S.head?,S[k]?,Nat.blt 0 k)
 |_=>none
theorem XY(n:Nat)(a b:Str)(o4:Option V):(c9.map λx=>pi (xV n 5000 [rF 0,rF 1,some .none,iF 2,o4] [.list ((a::b::x.more).map .str),.list []]))=c9.map λx=>some (some (.list ((a::b::x.more).map .str)),some x.c,true):=by trivial
theorem XZ(n:Nat)(a b c d e f:Str)(g:V)(o4:Option V):(c9.map λx=>pi (xV n 4999 [rF 0,rF 1,some .none,iF 6,o4] [.list ((a::b::c::d::e::f::x.more).map .str),.list [g]]))=c9.map λx=>some (some (.list ((a::b::c::d::e::f::x.more).map .str)),some x.c,true):=by trivial
theorem X0(n:Nat)(a b c d e f c' h i g:Str)(j k:V)(o4:Option V):(c9.map λx=>pi (xV n 4998 [rF 0,rF 1,some .none,iF 10,o4] [.list ((a::b::c::d::e::f::c'::h::i::g::x.more).map .str),.list [j,k]]))=c9.map λx=>some (some (.list ((a::b::c::d::e::f::c'::h::i::g::x.more).map .str)),some x.c,true):=by trivial
theorem X1(n:Nat)(a b c d e f c' i l k h j e2 g:Str)(m p o:V)(o4:Option V):(c9.map λx=>pi (xV n 4997 [rF 0,rF 1,some .none,iF 14,o4] [.list ((a::b::c::d::e::f::c'::i::l::k::h::j::e2::g::x.more).map .str),.list [m,p,o]]))=c9.map λx=>some (some (.list ((a::b::c::d::e::f::c'::i::l::k::h::j::e2::g::x.more).map .str)),some x.c,true):=by trivial
theorem Ie{o:ci}{W c:C}(h:pi o=some (some W,some c,true)):∃k ls T,o=some (.exc (k+1),ls,W::T)/\T[k]? =some c:=by
 refine gl λg e=>?_;cases o with
 |none=>exact aG h
 |some r=>
  obtain ⟨r,ls,S⟩:=r;cases r with
  |ok _=>exact aG h
  |exc k=>
   have h:=aw (h);have a:=bA Prod.fst h;have d:=bA (λq=>q.2.1) h;have b:=bA (λq=>q.2.2) h;clear h;cases S with
   |nil=>exact aG a
   |cons f T=>clear h;cases k with
    |zero=>exact eI b
    |succ k=>have:=aw a;clear b a;subst this;exact e (vY k ls T rfl d)
section
variable {Ws:List Str}{x:Wr}
theorem OT{a b:Str}(q:x∈c9)(m:∀c∈cs,Cl c.1 c.2)(y:cs.length<=3)(B:Ws=a::b::(cs.flatMap (·.1)++x.more))(z:Ws.length<=100):∃j ls T,xV n 5000 [rF 0,rF 1,some .none,iF 2,nF] [.list (Ws.map .str),.list []]=some (.exc (j+1),ls,.list (Ws.map .str)::T)/\T[j]? =some x.c:=by
 refine ar (xU (n:=n) (hd:=false) (l2:=some .none) (M:=5000 - cs.length) z cs [a,b] B m [] none (by simp;exact aA ‹_› (by decide))) λo4 st=>?_;rw [show cs.length+(5000 - cs.length)=5000 by exact add_sub_of_le (aA ‹_› (by decide))] at st;refine Ie ?_;show pi (nn (xT n false 5000 [rF 0,rF 1,some .none,iF ([a,b].length:Nat),nF] [.list (Ws.map .str),.list []]) _)=_;refine st▸?_;have g:∀{c:List Str×Ha},Cl c.1 c.2->∃k i l,c.1=[k,i,l,c.2.aB]:=λh=>by refine gl λs o=>?_;refine tH h.ex λk i l A e _=>?_;refine o ?_;exact ro k i l e
 clear st z;subst B;rcases cs with _|⟨⟨c,h⟩,_|⟨⟨d,h'⟩,_|⟨⟨f,t⟩,_|⟨_,_⟩⟩⟩⟩
 ·exact eN (XY n a b o4) x q
 ·refine gl λs o=>?_;refine jT (g (m _ gJ)) λk i l e=>?_;simp only at e;subst e;refine o ?_;exact eN (XZ n a b k i l h.aB h.v o4) x q
 ·refine gl λs o=>?_;refine jT (g (m _ gJ)) λk i l e=>?_;refine jT (g (m (d,h') (by simp))) λr u w p=>?_;simp only at e p;clear m y;subst e p;refine o ?_;exact eN (X0 n a b k i l h.aB r u w h'.aB h.v h'.v o4) x q
 ·refine gl λs o=>?_;refine jT (g (m _ gJ)) λk i l e=>?_;refine jT (g (m (d,h') (by simp))) λr u w p=>?_;refine jT (g (m (f,t) (by simp))) λC E D e2=>?_;simp only at e p e2;clear m y;subst e p e2;refine o ?_;exact eN (X1 n a b k i l h.aB r u w h'.aB C E D t.aB h.v h'.v t.v o4) x q
 ·exact absurd y (Nat.not_le_of_gt (le_add_left 4 _))
theorem Ig{a b:Str}(d:S[k]? =some (.list (Ws.map .str)))(g:x∈c9)(u:∀c∈cs,Cl c.1 c.2)(l:cs.length<=3)(t:Ws=a::b::(cs.flatMap (·.1)++x.more))(m:Ws.length<=100):cG (n+15) false 406 [.ref k] S=some (.exc S.length,S++[x.c]):=by
 refine gl λy q=>?_;refine iW (OT (n:=n) g u l t m) λj ls T v e=>?_;have p:gy (defAt 43) (cG (n+14)) di 5000 false [.ref 0] [.list (Ws.map .str)]=some (.exc (j+1),.list (Ws.map .str)::T):=by refine bC (ds:=[]) (r:=.exc (j+1)) (br:=ls) (by trivial) ?_;rw [V2];refine ah (aI (dH ag rfl) aU) (ah (aI (ao rfl) aU) (ah (aI (ao rfl) aU) ?_));refine Eq.trans ?_ v;show nn (gC (a0 (n+14) false) a9 RS _ _) _=_;rw [HL rfl];rfl
 have hn:b7 1 (.exc (j+1)) (.list (Ws.map .str)::T)=some (j+1):=by show (match (.list (Ws.map .str)::T)[j+1]? with|some (.inst _ _ _)=>some (j+1)|some (.exc _ _)=>some (j+1)|_=>none)=_;rw [show (.list (Ws.map .str)::T)[j+1]? =some x.c from e];rfl
 have o:∀S' f,lW S' f 40 x.c=some x.c:=λS' f=>by delta Wr.c Wr.DU;simp only [GZ,bH,bz,oM,so,zx,iK,iL,jM,Option.map]
 have h:bZ [k] S.length (some (j+1)) (j+1)=some S.length:=by show (match beq (j+1) (j+1) with|true=>some S.length|false=>none)=_;rw [beq_refl]
 refine q ?_;refine cq (i:=43) (by trivial) ?_;have w:bT [.ref k] []=[k]:=rfl;have s:S.set k (.list (Ws.map .str))=S:=Ze d;simp -iota only [kO];simp only [w,bH,bz,eW,b9,Zg,d,(show∀S' f,lW S' f 40 (.list (Ws.map .str))=some (.list (Ws.map .str)) from λS' f=>by simp only [oN,jM,Option.map]),Option.map,p,cT,dQ,fL,hn,take_succ_cons,take_zero,fT,getElem?_cons_succ,e,o,bS,h,s]
theorem DV(n:Nat)(S:List C):cG (n+5) false 146 [.str "try body ?handler ...? ?finally script?"] S=some (.ok (.ref S.length),S++[Wr.c ⟨[],"wrong # args: should be \"try body ?handler ...? ?finally script?\"",["TCL","WRONGARGS"]⟩]):=by trivial
end
noncomputable def bu(p:Int×List Int):C:=.list ((p.1::p.2).map .int)
noncomputable def drawn(p:Int×List Int)(m:Int):Int:=(p.2.headD 0+p.1).fmod m
noncomputable def drew(p:Int×List Int)(m:Int):Int×List Int:=(p.1.fdiv m,p.2.tail)
theorem Ld{k:Nat->Option Nat}{m:Nat}:∀l:List Int,cM (fK S k (m+1)) (l.map .int)=some (l.map .int):=by
 intro b;induction b with
 |nil=>exact rfl
 |cons x r a=>simp only [List.map,bz,iK,a]
theorem kU{k:Nat->Option Nat}(p:Int×List Int):lW S k 40 (bu p)=some (bu p):=by (delta bu;simp -iota only [oN,Ld,Option.map];rfl)
noncomputable abbrev RY:dL:=Ez (.asg ⟨[.loc 3],none⟩ none (.bin .Mod (.bin .Add (.loc 2) tm) (.loc 1))) (.asg ⟨[.sub (.loc 0) (.cst (.int 0))],none⟩ none (.bin .FloorDiv tm (.loc 1))) (.ret (.loc 3))
theorem X2:(zB 80)=(.cons (.asg ⟨[.loc 2],none⟩ none (.ite (.cmp .Gt (.bi .len o0 (.loc 0)) (.cst (.int 1))) (.eB (.loc 0) .pop o0 (cN (.cst (.int 1)))) (.cst (.int 0)))) RY):=by trivial
noncomputable abbrev Ih:eS:=qR (.cst (.int 0)) (.cst (.int 0)) (.cst (.str "")) (.bw .nil)
noncomputable abbrev V3:dL:=yj (.ifs (.cmp .Lt (.loc 1) (.cst (.int 2))) (dO (.ret (.tup (.cons (.cst (.int 0)) (.cons (.loc 4) (.cons (.tup (cN (.cst (.str "NONE")))) Ih)))))) .nil) (.ifs (.cmp .Lt (.loc 1) (.cst (.int 5))) (nE (.asg ⟨[.loc 5],none⟩ none (.ite (.cmp .Gt (.loc 3) (.cst (.int 2))) (.bw (cA (.tup (cA (.cst (.str "-during")) (.cst (.str "old")))) (.tup (cA (.cst (.str "-k")) (.cst (.str "w")))))) (.bw .nil))) (.ret (.tup (.cons (.cst (.int 1)) (.cons (.loc 4) (.cons (.idx (.idx (.call 46 o0 .nil) (.loc 2)) (.cst (.int 0))) (qR (.cst (.int 0)) (.cst (.int 0)) (.idx (.bw (xy (.cst (.str "")) (.cst (.str "I")) (.cst (.str "I\nJ")))) (.bin .Mod (.loc 3) (.cst (.int 3)))) (.loc 5)))))))) .nil) (.ifs (.cmp .Eq (.loc 1) (.cst (.int 5))) (dO (.ret (.tup (.cons (.cst (.int 2)) (.cons (.loc 4) (.cons (.tup (cN (.cst (.str "NONE")))) (qR (.bin .Add (.cst (.int 1)) (.bin .Mod (.loc 2) (.cst (.int 2)))) (.idx (.bw (xy (.cst (.int 0)) (.cst (.int 1)) (.cst (.int 3)))) (.bin .Mod (.loc 3) (.cst (.int 3)))) (.cst (.str "")) (.bw .nil)))))))) .nil) (.ret (.tup (.cons (.idx (.bw (qR (.cst (.int 3)) (.cst (.int 4)) (.cst (.int 5)) (.neg (.cst (.int 1))))) (.bin .Add (.bin .Mod (.loc 2) (.cst (.int 2))) (.bin .Mult (.cst (.int 2)) (.bin .Sub (.loc 1) (.cst (.int 6)))))) (.cons (.loc 4) (.cons (.tup (cN (.cst (.str "NONE")))) Ih)))))
theorem X3:(zB 85)=(.cons (.asg ⟨[.loc 1,.loc 2,.loc 3],some (0,o0)⟩ (some [1,2,3]) (.tup (xy (.call 43 o0 (cA (.loc 0) (.cst (.int 8)))) (.call 43 o0 (cA (.loc 0) (.cst (.int 6)))) (.call 43 o0 (cA (.loc 0) (.cst (.int 6))))))) (.cons (.asg ⟨[.loc 4],none⟩ none (.idx (.call 45 o0 .nil) (.call 43 o0 (cA (.loc 0) (.cst (.int 6)))))) V3)):=by trivial
noncomputable abbrev Lf:Ex:=.call 43 o0 (cA (.loc 0) (.cst (.int 3)))
noncomputable abbrev V4:dL:=.cons (.asg ⟨[.loc 8],none⟩ none (.idx (.bw (.cons (.cst (.str "")) (.cons (.cst (.str "m")) (.cons (.cst (.str "m o")) (qR (.cst (.str "{m n} o")) (.cst (.str "m m")) (.cst (.str "o m x")) (.cst (.str " m\to "))))))) (.loc 5))) (.cons (.asg ⟨[.loc 9],none⟩ none (.idx (.bw (.cons (.bw .nil) (.cons (.bw (cN (.cst (.str "m")))) (.cons (.bw (cA (.cst (.str "m")) (.cst (.str "o")))) (qR (.bw (cA (.cst (.str "m n")) (.cst (.str "o")))) (.bw (cA (.cst (.str "m")) (.cst (.str "m")))) (.bw (cA (.cst (.str "o")) (.cst (.str "m")))) (.bw (cA (.cst (.str "m")) (.cst (.str "o"))))))))) (.loc 5))) (yj (.ifs (.cmp .Eq (.loc 3) (.cst (.int 0))) (nE (.asg ⟨[.loc 10],none⟩ none (.idx (.bw (.cons (.cst (.str "ok")) (.cons (.cst (.str "error")) (.cons (.cst (.str "return")) (.cons (.cst (.str "break")) (.cons (.cst (.str "continue")) (qR (.cst (.str "5")) (.cst (.str "-1")) (.cst (.str "0x1")) (.cst (.str " 0 "))))))))) (.loc 4))) (.ret (.tup (cA (.bw (qR (.idx (.bw (cA (.cst (.str "on")) (.cst (.str "o")))) (.loc 7)) (.loc 10) (.loc 8) (.loc 6))) (.tup (qR (.idx (.bw (.cons (.cst (.int 0)) (.cons (.cst (.int 1)) (.cons (.cst (.int 2)) (.cons (.cst (.int 3)) (.cons (.cst (.int 4)) (qR (.cst (.int 5)) (.neg (.cst (.int 1))) (.cst (.int 1)) (.cst (.int 0))))))))) (.loc 4)) (.bw .nil) (.loc 9) (.loc 6))))))) .nil) (.asg ⟨[.loc 10],none⟩ none (.idx (.bw (.cons (.cst (.str "")) (.cons (.cst (.str "A")) (.cons (.cst (.str "A B")) (qR (.cst (.str "A {b c}")) (.cst (.str "B")) (.cst (.str "NONE")) (.cst (.str "A B C"))))))) (.bin .Mod (.loc 4) (.cst (.int 7))))) (.asg ⟨[.loc 11],none⟩ none (.idx (.bw (.cons (.bw .nil) (.cons (.bw (cN (.cst (.str "A")))) (.cons (.bw (cA (.cst (.str "A")) (.cst (.str "B")))) (qR (.bw (cA (.cst (.str "A")) (.cst (.str "b c")))) (.bw (cN (.cst (.str "B")))) (.bw (cN (.cst (.str "NONE")))) (.bw (xy (.cst (.str "A")) (.cst (.str "B")) (.cst (.str "C"))))))))) (.bin .Mod (.loc 4) (.cst (.int 7))))) (.ret (.tup (cA (.bw (qR (.idx (.bw (cA (.cst (.str "trap")) (.cst (.str "t")))) (.loc 7)) (.loc 10) (.loc 8) (.loc 6))) (.tup (qR (.cst (.int 1)) (.loc 11) (.loc 9) (.loc 6))))))))
theorem X4:(zB 88)=(.cons (.asg ⟨[.loc 3,.loc 4,.loc 5],some (0,o0)⟩ (some [3,4,5]) (.tup (xy (.call 43 o0 (cA (.loc 0) (.cst (.int 2)))) (.call 43 o0 (cA (.loc 0) (.cst (.int 9)))) (.call 43 o0 (cA (.loc 0) (.cst (.int 7))))))) (.cons (.asg ⟨[.loc 6],none⟩ none (.ite (.lS .And (.cmp .Eq Lf (.cst (.int 2))) (cN (.nt (.loc 2)))) (.cst (.str "-")) (.loc 1))) (.cons (.asg ⟨[.loc 7],none⟩ none (.call 43 o0 (cA (.loc 0) (.cst (.int 2))))) V4))):=by trivial
section
variable {p:Int×List Int}{m:Nat}
theorem ZI{a b:V}(h:S[k]? =some (.list (a::b::l)))(c:l.length<=1000):i9 .pop (.ref k) [.int 1] S=some (b,S.set k (.list (a::l))):=by simp -iota only [Fk,(show gc (.ref k) S=some (k,a::b::l) from by (simp -iota only [gc,V.fQ,bq,h,C.v8,Option.map];rfl)),bq,AF,V.Jk];rw [show (decide ((0:Int)<=1)&&ble (a::b::l).length 65536)=true from Bool.and_eq_true_iff.mpr ⟨rfl,fA (by simp;exact aA ‹_› (by decide))⟩];rfl
theorem DW{a:V}(h:S[k]? =some (.list (a::l)))(b:l.length<=1000):wP (.ref k) (.int 0) v S=some (S.set k (.list (v::l))):=by show (match S[k]?.bind C.gr with|some l=>(match decide ((0:Int)<=0/\(0:Int)<l.length)&&ble l.length 65536 with|true=>some (S.set k (.list (l.set 0 v)))|false=>none)|none=>_)=_;rw [show S[k]?.bind C.gr=some (a::l) by rw [h];rfl];dsimp only;rw [show (decide ((0:Int)<=0/\(0:Int)<((a::l).length:Int))&&ble (a::l).length 65536)=true from Bool.and_eq_true_iff.mpr ⟨cQ ⟨Int.le_refl _,by simp⟩,fA (by simp;exact aA ‹_› (by decide))⟩];rfl
theorem mod_int'{a:Int}(b:m≠0):mm .Mod (.int a) (.int m) S=some (.int (a.fmod m)):=by
 have:((m:Int)!=0)=true:=by simp;exact b
 have:yI .Mod (.int a) (.int m)=some (.int (a.fmod m)):=by show (if ((m:Int)!=0)=true then _ else _)=_;exact (bx this)▸rfl
 delta mm;rw [this]
theorem Ii{a:Int}(b:m≠0)(c:m<=1000):mm .FloorDiv (.int a) (.int m) S=some (.int (a.fdiv m)):=by
 have:yI .FloorDiv (.int a) (.int m)=some (.int (a.fdiv m)):=by show (if (dJ (m:Int)&&((m:Int)!=0))=true then _ else _)=_;rw [bx (show (dJ (m:Int)&&((m:Int)!=0))=true from Bool.and_eq_true_iff.mpr ⟨cQ (by simp;exact fw (hY ‹_›) (by decide)),by simp;exact b⟩)]
 delta mm;rw [this]
theorem dm(e:m≠0):∃d:Nat,d<m/\drawn p m=d:=by
 have b:(0:Int)<m:=by exact Int.natCast_pos.mpr (Nat.pos_of_ne_zero ‹_›)
 have a:=Int.fmod_nonneg_of_pos (p.2.headD 0+p.1) b;have c:=Int.fmod_lt_of_pos (p.2.headD 0+p.1) b;refine ⟨(drawn p m).toNat,?_,(Int.toNat_of_nonneg a).symm⟩;have:((drawn p m).toNat:Int)=drawn p m:=Int.toNat_of_nonneg a;unfold drawn at this |-;exact Int.ofNat_lt.mp (ra (Int.le_of_eq this) c)
theorem Lh(d:S[k]? =some (bu p))(c:p.2.length<=100)(e:m≠0)(g:m<=1000):cG (n+1) hd 706 [.ref k,.int m] S=some (.ok (.int (drawn p m)),S.set k (bu (drew p m))):=by
 obtain ⟨a,ts⟩:=p;refine cq (i:=80) (by trivial) (jC (vs':=[.ref 0,.int m]) (aK:=[]) (v:=.int (drawn (a,ts) m)) rfl (by simp only [bH,bz,eW,iK,b9]) d (kU _) ?_ rfl (kU _) rfl);refine bC (ds:=[]) (r:=.ok (.ret (.int (drawn (a,ts) m)))) (br:=[rF 0,iF m,iF (ts.headD 0),iF (drawn (a,ts) m)]) (by trivial) ?_;refine X2▸?_;show aT (a0 n hd) a9 _ [rF 0,iF m,nF,nF] [bu (a,ts)]=_;have f:∀{l:List Int} {ls:bW} {q1 q2 q3:Pos},l.length<=100->ls[0]? =some (some (.ref 0))->Ev (a0 n hd) ls a9 (.idx (.loc 0 q1) (.cst (.int 0) 0 q2) q3) [bu (a,l)] (.int a) [bu (a,l)]:=λc h=>bB (af h) (ao rfl) (eG (l:=(a::_).map .int) rfl rfl (by simp;exact aA ‹_› (by decide)));have b:∀{l:List Int} {t:Int},l.length<=100->aT (a0 n hd) a9 RY [rF 0,iF m,iF t,nF] [bu (a,l)]=some (.ok (.ret (.int ((t+a).fmod m))),[rF 0,iF m,iF t,iF ((t+a).fmod m)],[bu (a.fdiv m,l)]):=λ{l t} c=>
  ah (aI (gd (gd (af rfl) (f c rfl) rfl) (af rfl) (mod_int' e)) aU) (ah (aI (gd (f c rfl) (af rfl) (Ii e g)) (jD (S3:=[bu (a.fdiv m,l)]) (af rfl) (ao rfl) (DW (l:=l.map .int) rfl (by simp;exact aA ‹_› (by decide))))) (Y2 (bQ (af rfl))))
 clear d;cases ts with
 |nil=>exact ah (aI (iP (aE (hU (af rfl) (len_list (l:=[.int a]) rfl (by simp))) (ao rfl) rfl) (ao rfl)) aU) (b (by simp))
 |cons t ts=>have j:ts.length+1<=100:=c;refine ah (aI (oQ (aE (hU (af rfl) (len_list (l:=((a::t::ts).map .int)) rfl (by simp;exact aA (px ‹_›) (by decide)))) (ao rfl) (gt_int (cQ (by simp;exact oD _)))) (iO (S3:=[bu (a,ts)]) (af rfl) rfl (aa (ao rfl) ag) (ZI (l:=ts.map .int) rfl (by simp;exact aA (px ‹_›) (by decide))))) aU) (b (by exact px ‹_›))
noncomputable def UH(w:Nat):Ec:=Oy.getD w .none
noncomputable def sS(m:Nat):Str:=(["","I","I\nJ"]:List Str).getD (m % 3) ""
noncomputable def Li(m:Nat):du:=match Nat.blt 2 m with
 |true=>jL
 |false=>[]
noncomputable def RZ(s w m:Nat):Option K3:=match Nat.blt s 2 with
 |true=>some (0,0,0)
 |false=>match Nat.blt s 5 with
  |true=>none
  |false=>match beq s 5 with
   |true=>some (2,1+((w % 2:Nat):Int),([0,1,3]:List Int).getD (m % 3) 0)
   |false=>some (([3,4,5,-1]:List Int).getD (w % 2+2 * (s - 6)) 0,0,0)
noncomputable def R4(x:Nat×Nat×Nat)(v:Str):En:=match RZ x.1 x.2.1 x.2.2 with
 |some k=>qF k v
 |none=>⟨1,v,UH x.2.1,0,0,sS x.2.2,Li x.2.2⟩
noncomputable def uy:List (Nat×Nat×Nat):=(range 8).flatMap λs=>(range 6).flatMap λw=>(range 6).map λm=>(s,w,m)
theorem xW{s w:Nat}(c:s<8)(a:w<6)(b:m<6):(s,w,m)∈uy:=
 mem_flatMap.mpr ⟨s,mem_range.mpr c,mem_flatMap.mpr ⟨w,mem_range.mpr a,iT (mem_range.mpr b)⟩⟩
theorem OU:∀x∈uy,∀k,RZ x.1 x.2.1 x.2.2=some k->k∈fy:=by
 have h:uy.all (λx=>match RZ x.1 x.2.1 x.2.2 with|some k=>decide (k∈fy)|none=>true)=true:=by trivial
 intro x b k a;have:=List.all_eq_true.mp h x b;replace this:=a▸this;exact f9 this
theorem Lj(m:Nat):sS m=""\/sS m="I"\/sS m="I\nJ":=by
 unfold sS;rcases (Vg (mod_lt m (by decide))) with h|h|h<;>rw [h]
 ·exact .inl rfl
 ·exact .inr (.inl rfl)
 ·exact .inr (.inr rfl)
theorem Lk{x:Nat×Nat×Nat}{v:Str}(b:x∈uy)(hv:v∈Zq):Zk (R4 x v):=by
 unfold R4;cases a:RZ x.1 x.2.1 x.2.2 with
 |some k=>exact .pl v (OU x b k a)
 |none=>
  refine .er ?_ ?_
  ·(delta En.ge;dsimp only);rcases Lj x.2.2 with h|h|h<;>rw [h]
   ·exact mI _ hv
   ·exact pp _ (.head _)
   ·exact pp _ (.tail _ (.head _))
  ·unfold Li;cases Nat.blt 2 x.2.2 with
   |true=>exact .inr rfl
   |false=>exact .inl rfl
noncomputable def OV(o:ci)(k N:Nat):Option (V×Option C):=match o with
 |some (.ok (.ret w),_,S2)=>(match b7 1 (.ok w) S2 with
  |none=>(fK S2 (bZ [k] N none) 40 w).map λv=>(v,S2.head?)
  |some _=>none)
 |_=>none
theorem BH{o:ci}{P:C}(h:OV o k N=some (v,some P)):∃br S2 w,o=some (.ok (.ret w),br,P::S2)/\b7 1 (.ok w) (P::S2)=none/\fK (P::S2) (bZ [k] N none) 40 w=some v:=by
 refine gl λe c=>?_;cases o with
 |none=>exact aG h
 |some r=>
  obtain ⟨r,br,S2⟩:=r;cases r with
  |exc k=>exact aG h
  |ok f=>cases f with
   |ret w=>
    have h:(match b7 1 (.ok w) S2 with|Option.none=>(fK S2 (bZ [k] N Option.none) 40 w).map λv=>(v,S2.head?)|some _=>Option.none)=some (v,some P):=h;cases a:b7 1 (.ok w) S2 with
    |some _=>rw [a] at h;exact aG h
    |none=>
     rw [a] at h
     refine ae (au h) λy d b=>?_
     have e1:y=v:=bA Prod.fst b
     have e2:S2.head? =some P:=bA Prod.snd b
     clear h b;cases S2 with
     |nil=>exact aG e2
     |cons g S2=>have e2:=aw e2;clear h;subst e1 e2;exact c (lQ br S2 w rfl a d)
   |_=>exact aG h
theorem Ll(n:Nat)(hd:Bool)(v:Str)(P:C)(k N:Nat):(uy.map λx=>OV (aT (a0 (n+3) hd) a9 V3 [rF 0,iF x.1,iF x.2.1,iF x.2.2,sF v,nF] [P]) k N)=uy.map λx=>some ((R4 x v).v,some P):=by trivial
theorem DX(n:Nat)(hd:Bool)(S:List C):cG (n+2) hd 720 [] S=some (.ok (aX Zq),S++[]):=by trivial
theorem cD(f:cf.fn cf.hd=cG (n+1) hd)(e:ls[i]? =some (some (.ref k)))(a:S[k]? =some (bu p))(d:p.2.length<=100)(c:m≠0)(b:m<=1000):Ev cf ls a9 (.call 43 q1 (cA (.loc i q2) (.cst (.int m) 0 q3)) q4) S (.int (drawn p m)) (S.set k (bu (drew p m))):=
 aM (x:=("_law_take",706)) (aa (af e) (aa (ao rfl) ag)) (by trivial) (by refine f▸?_;exact Lh a d c b)
theorem dC(h:p.2.length<=100):(drew p m).2.length<=100:=by unfold drew;refine length_tail▸?_;exact aA (sub_le _ _) ‹_›
theorem Ab(o:S[k]? =some (bu p))(d:p.2.length<=100):∃e p',Zk e/\e.extra.length<=2/\p'.2.length<=100/\cG (n+4) hd 739 [.ref k] S=some (.ok e.v,S.set k (bu p')):=by
 have l1:=dC (m:=8) d;have l2:=dC (m:=6) l1;have l3:=dC (m:=6) l2;refine gl λE z=>?_;refine ae (dm (p:=p) (m:=8) (by decide)) λs hs es=>?_;refine ae (dm (p:=drew p 8) (m:=6) (by decide)) λw b A=>?_;refine ae (dm (p:=drew (drew p 8) 6) (m:=6) (by decide)) λm c q=>?_;refine ae (dm (p:=drew (drew (drew p 8) 6) 6) (m:=6) (by decide)) λj C u=>?_;obtain ⟨v,hv⟩:∃v,Zq[j]? =some v:=⟨_,d9 (by exact C)⟩
 refine bg (BH (eN (Ll n hd v (bu (drew (drew (drew (drew p 8) 6) 6) 6)) k S.length) _ (xW hs b c))) λbr S2 x B y D=>?_;refine z ?_;refine lP (R4 (s,w,m) v) (drew (drew (drew (drew p 8) 6) 6) 6) (Lk (xW hs b c) (dP hv)) ?_ (dC l3) ?_
 ·unfold R4;cases RZ s w m with
  |some k=>exact zero_le _
  |none=>show (Li m).length<=2;unfold Li;cases Nat.blt 2 m<;>decide
 refine cq (i:=85) (by trivial) (jC (vs':=[.ref 0]) rfl (by simp only [bH,bz,eW,b9]) o (kU _) ?_ y (kU _) D);refine bC (ds:=[]) (r:=.ok (.ret x)) (br:=br) (by trivial) ?_;rw [X3];show aT (a0 (n+3) hd) a9 _ [rF 0,nF,nF,nF,nF,nF] [bu p]=_;have g:=cD (n:=n+2) (cf:=a0 (n+3) hd) (ls:=[rF 0,nF,nF,nF,nF,nF]) (i:=0) (S:=[bu p]) (m:=8) (q1:=o0) (q2:=o0) (q3:=o0) (q4:=o0) rfl rfl rfl d (by decide) (by decide);have h:=cD (n:=n+2) (cf:=a0 (n+3) hd) (ls:=[rF 0,nF,nF,nF,nF,nF]) (i:=0) (S:=[bu (drew p 8)]) (m:=6) (q1:=o0) (q2:=o0) (q3:=o0) (q4:=o0) rfl rfl rfl l1 (by decide) (by decide);have a:=cD (n:=n+2) (cf:=a0 (n+3) hd) (ls:=[rF 0,nF,nF,nF,nF,nF]) (i:=0) (S:=[bu (drew (drew p 8) 6)]) (k:=0) (p:=drew (drew p 8) 6) (m:=6) (q1:=o0) (q2:=o0) (q3:=o0) (q4:=o0) rfl rfl rfl l2 (by decide) (by decide);have f:=cD (n:=n+2) (hd:=hd) (cf:=a0 (n+3) hd) (ls:=[rF 0,iF s,iF w,iF m,nF,nF]) (i:=0) (S:=[bu (drew (drew (drew p 8) 6) 6)]) (k:=0) (p:=drew (drew (drew p 8) 6) 6) (m:=6) (q1:=o0) (q2:=o0) (q3:=o0) (q4:=o0) rfl rfl rfl l3 (by decide) (by decide);rw [es] at g;rw [A] at h;rw [q] at a;rw [u] at f;have t:∀S',lB (aX Zq) (.int j) S'=some (.str v):=λS'=>by have:dJ (j:Int)=true:=cQ (by simp;exact aA ‹_› (by decide));show (match dJ (j:Int) with|true=>(match gu S' (aX Zq) with|some l=>Et l j|Option.none=>Option.none)|false=>Option.none)=_;rw [this];show (Zq.map V.str)[j]? =_;rw [hZ,hv];rfl
 refine ah (aI (cV (aa g (aa h (aa a ag))) rfl) (ls2:=[rF 0,iF s,iF w,iF m,nF,nF]) rfl) ?_;exact ah (aI (bB (aM (x:=("_law_texts",720)) ag (by trivial) (DX (n+1) hd _)) f (t _)) aU) B
end
noncomputable abbrev Q4:=Nat×Nat×Nat×Nat
noncomputable def nO:List Q4:=(range 2).flatMap λk=>(range 9).flatMap λw=>(range 7).flatMap λl=>(range 2).map λc=>(k,w,l,c)
theorem xX{w l c:Nat}(e:k<2)(a:w<9)(b:l<7)(d:c<2):(k,w,l,c)∈nO:=
 mem_flatMap.mpr ⟨k,mem_range.mpr e,mem_flatMap.mpr ⟨w,mem_range.mpr a,mem_flatMap.mpr ⟨l,mem_range.mpr b,iT (mem_range.mpr d)⟩⟩⟩
noncomputable def Lm(x:Q4):Str×Str:=match beq x.1 0 with
 |true=>((["on","o"]:List Str).getD x.2.2.2 "on","on")
 |false=>((["trap","t"]:List Str).getD x.2.2.2 "trap","trap")
noncomputable def R5(x:Q4):Str×Int:=BF.getD x.2.1 ("ok",0)
noncomputable def OW(x:Q4):Str×List Str:=KZ.getD (x.2.1 % 7) ("",[])
noncomputable def MY(x:Q4):Str×List Str:=H9.getD x.2.2.1 ("",[])
noncomputable def pj(x:Q4)(aB:Str):Ha:=match beq x.1 0 with
 |true=>⟨(R5 x).2,[],(MY x).2,aB⟩
 |false=>⟨1,(OW x).2,(MY x).2,aB⟩
noncomputable def sU(x:Q4)(aB:Str):List Str:=[(Lm x).1,match beq x.1 0 with|true=>(R5 x).1|false=>(OW x).1,(MY x).1,aB]
noncomputable def Ha.cut(h:Ha):Ha:={h with names:=h.names.take 2}
theorem xY:∀x∈nO,Lm x∈ma/\R5 x∈BF/\OW x∈KZ/\MY x∈H9/\(OW x).2∈B7:=by
 have h:nO.all (λx=>decide (Lm x∈ma)&&(decide (R5 x∈BF)&&(decide (OW x∈KZ)&&(decide (MY x∈H9)&&decide ((OW x).2∈B7)))))=true:=by trivial
 intro x a;have:=List.all_eq_true.mp h x a;simp only [dD] at this;exact ⟨f9 this.1,f9 this.2.1,f9 this.2.2.1,f9 this.2.2.2.1,f9 this.2.2.2.2⟩
theorem UI{x:Q4}(d:x∈nO)(c:Str):Cl (sU x c) (pj x c):=by
 refine gl λi h=>?_;refine pP (xY x d) λb e f g j=>?_;refine h ?_;delta sU pj;have hn:=OR _ g;cases a:beq x.1 0 with
 |true=>exact ⟨(Lm x).1,(R5 x).1,(MY x).1,(Lm x).2,rfl,b,hn,.inl ⟨by unfold Lm;exact a▸rfl,rfl,K1 _ e⟩⟩
 |false=>exact ⟨(Lm x).1,(OW x).1,(MY x).1,(Lm x).2,rfl,b,hn,.inr ⟨by unfold Lm;exact a▸rfl,rfl,OQ _ f⟩⟩
theorem R6{x:Q4}(b:x∈nO)(a:Str):(pj x a).begun∈B7/\(pj x a).names.length<=3/\(pj x a).aB=a:=by
 refine gl λf e=>?_;refine pP (xY x b) λi g h d c=>?_;have hn:(MY x).2.length<=3:=by
  have:∀p∈H9,p.2.length<=3:=by decide
  exact this _ d
 refine e ?_;unfold pj;cases beq x.1 0 with
 |true=>exact ⟨.head _,hn,rfl⟩
 |false=>exact ⟨c,hn,rfl⟩
theorem Ij(n:Nat)(hd:Bool)(nm a:Str)(il:Bool)(P:C)(k N:Nat):(nO.map λx=>OV (aT (a0 (n+3) hd) a9 V4 [rF 0,sF nm,some (.bool il),iF x.1,iF x.2.1,iF x.2.2.1,sF a,iF x.2.2.2,nF,nF,nF,nF] [P]) k N)=nO.map λx=>some (.tup [aX (sU x a),(pj x a).cut.v],some P):=by trivial
section
variable {p:Int×List Int}{nm:Str}{il:Bool}
noncomputable abbrev Ik(n:Nat)(hd:Bool)(S:List C)(k:Nat)(nm:Str)(il:Bool):Prop:=∃x sc p',x∈nO/\(sc=nm\/(sc="-"/\il=false))/\p'.2.length<=100/\cG (n+4) hd 756 [.ref k,.str nm,.bool il] S=some (.ok (.tup [aX (sU x sc),(pj x sc).cut.v]),S.set k (bu p'))
theorem Ln(B:S[k]? =some (bu p))(l:p.2.length<=100):Ik n hd S k nm il:=by
 have l1:=dC (m:=2) l;have l2:=dC (m:=9) l1;have l3:=dC (m:=7) l2;have l4:=dC (m:=3) l3;have l5:=dC (m:=2) l4;refine gl λC h=>?_;refine ae (dm (p:=p) (m:=2) (by decide)) λa z N=>?_;refine ae (dm (p:=drew p 2) (m:=9) (by decide)) λb x F=>?_;refine ae (dm (p:=drew (drew p 2) 9) (m:=7) (by decide)) λc A O=>?_;refine ae (dm (p:=drew (drew (drew p 2) 9) 7) (m:=3) (by decide)) λd G q=>?_;refine ae (dm (p:=drew (drew (drew (drew p 2) 9) 7) 3) (m:=2) (by decide)) λe y J=>?_;refine h ?_;generalize E:drew p 2=p1 at *;generalize D:drew p1 9=p2 at *;generalize I:drew p2 7=p3 at *;generalize H:drew p3 3=p4 at *;generalize K:drew p4 2=p5 at *;refine gl λC h=>?_;obtain ⟨f,P,L⟩:∃f,(f=nm\/(f="-"/\il=false))/\Ev (a0 (n+3) hd) [rF 0,sF nm,some (.bool il),iF a,iF b,iF c,nF,nF,nF,nF,nF,nF] a9 (.ite (.lS .And (.cmp .Eq Lf (.cst (.int 2))) (cN (.nt (.loc 2)))) (.cst (.str "-")) (.loc 1)) [bu p3] (.str f) [bu p4]:=by
  have g:=cD (n:=n+2) (cf:=a0 (n+3) hd) (ls:=[rF 0,sF nm,some (.bool il),iF a,iF b,iF c,nF,nF,nF,nF,nF,nF]) (i:=0) (S:=[bu p3]) (m:=3) (q1:=o0) (q2:=o0) (q3:=o0) (q4:=o0) rfl rfl rfl l3 (by decide) (by decide);rw [q] at g;rw [show drew p3 ((3:Nat):Int)=p4 from H] at g;by_cases s:d=2
  ·clear h q G;subst s;have t:Ev (a0 (n+3) hd) [rF 0,sF nm,some (.bool il),iF a,iF b,iF c,nF,nF,nF,nF,nF,nF] a9 (.cmp .Eq Lf (.cst (.int 2))) [bu p3] (.bool true) [bu p4]:=aE g (ao rfl) rfl;clear g h;cases il with
   |true=>exact ⟨nm,.inl rfl,iP (gz t (kR (DG (af rfl)) fU)) (af rfl)⟩
   |false=>exact ⟨"-",.inr ⟨rfl,rfl⟩,oQ (gz t (kR (DG (af rfl)) fU)) (ao rfl)⟩
  ·skip;exact ⟨nm,.inl rfl,iP (gz (aE g (ao rfl) (fW (by exact λe=>s (Int.ofNat.inj e)))) sG) (af rfl)⟩
 refine bg (BH (eN (Ij n hd nm f il (bu p5) k S.length) _ (xX z x A y))) λbr S2 w Q M R=>?_;refine h ?_;refine ⟨(a,b,c,e),f,p5,xX z x A y,P,l5,?_⟩;refine cq (i:=88) (by trivial) (jC (vs':=[.ref 0,.str nm,.bool il]) rfl (by simp only [bH,bz,eW,zx,iL,b9]) B (kU _) ?_ M (kU _) R);refine bC (ds:=[]) (r:=.ok (.ret w)) (br:=br) (by trivial) ?_;rw [X4];show aT (a0 (n+3) hd) a9 _ [rF 0,sF nm,some (.bool il),nF,nF,nF,nF,nF,nF,nF,nF,nF] [bu p]=_;have o:=cD (n:=n+2) (cf:=a0 (n+3) hd) (ls:=[rF 0,sF nm,some (.bool il),nF,nF,nF,nF,nF,nF,nF,nF,nF]) (i:=0) (S:=[bu p]) (m:=2) (q1:=o0) (q2:=o0) (q3:=o0) (q4:=o0) rfl rfl rfl l (by decide) (by decide);have v:=cD (n:=n+2) (hd:=hd) (cf:=a0 (n+3) hd) (ls:=[rF 0,sF nm,some (.bool il),nF,nF,nF,nF,nF,nF,nF,nF,nF]) (i:=0) (S:=[bu p1]) (k:=0) (p:=p1) (m:=9) (q1:=o0) (q2:=o0) (q3:=o0) (q4:=o0) rfl rfl rfl l1 (by decide) (by decide);have j:=cD (n:=n+2) (hd:=hd) (cf:=a0 (n+3) hd) (ls:=[rF 0,sF nm,some (.bool il),nF,nF,nF,nF,nF,nF,nF,nF,nF]) (i:=0) (S:=[bu p2]) (k:=0) (p:=p2) (m:=7) (q1:=o0) (q2:=o0) (q3:=o0) (q4:=o0) rfl rfl rfl l2 (by decide) (by decide);have u:=cD (n:=n+2) (hd:=hd) (cf:=a0 (n+3) hd) (ls:=[rF 0,sF nm,some (.bool il),iF a,iF b,iF c,sF f,nF,nF,nF,nF,nF]) (i:=0) (S:=[bu p4]) (k:=0) (p:=p4) (m:=2) (q1:=o0) (q2:=o0) (q3:=o0) (q4:=o0) rfl rfl rfl l4 (by decide) (by decide);rw [N,show drew p ((2:Nat):Int)=p1 from E] at o;rw [F,show drew p1 ((9:Nat):Int)=p2 from D] at v;rw [O,show drew p2 ((7:Nat):Int)=p3 from I] at j;rw [J,show drew p4 ((2:Nat):Int)=p5 from K] at u;refine ah (aI (cV (aa o (aa v (aa j ag))) rfl) (ls2:=[rF 0,sF nm,some (.bool il),iF a,iF b,iF c,nF,nF,nF,nF,nF,nF]) rfl) ?_;exact ah (aI L aU) (ah (aI u aU) Q)
end
theorem Ac{f:V->V->Bool}{g:V->V->Option Bool}(h:∀a b,f a b=true->g a b≠some false):∀l m:List V,i8 f l m=true->qK g l m≠some false
 |[],m,q=>by
  simp only [Ax,Ay,qL] at q;simp only [Nr,Nt,E6,q];exact λe=>absurd e (by decide)
 |x::l,[],q=>eI q
 |x::l,y::m,q=>by
  simp only [Ax,Ay,qL,dD] at q;intro e;refine aP (i7 e) λd c e1 e2 i=>?_;cases d with
  |false=>exact (h x y q.1) e1
  |true=>cases c with
   |false=>exact (Ac h l m q.2) e2
   |true=>cases i
theorem Lo(h:cC S v=some l):iI S v=none:=by
 refine aQ (tM h) (λd=>?_) (λa=>ae a λk c b=>?_)
 ·clear h;subst d;rfl
 ·clear a;clear h;subst c;delta iI V.v7 V.eJ C.gM;dsimp only;(simp -iota only [bq,b];rfl)
theorem R7:∀(n:Nat) (a b:V),eqT S n a b=true->Au S n a b≠some false:=by
 intro j;induction j with
 |zero=>intro a b h;exact eI h
 |succ n i=>
  intro a b h;have c:∀a,(qq (i8 (eqT S n)) (cC S a) (cC S b)||qq yA (iI S a) (iI S b))=true->og S (Au S n) a b≠some false:=λa h e=>by
   unfold og at e;(revert e;cases _:mX a b;all_goals (intro e;dsimp only at e))
   ·cases e
   ·refine ae (Y6 e) λl d e=>?_;refine ae (Y6 e) λm f e=>?_;rw [d,f,Lo d] at h;exact Ac i l m (by simpa [qq] using h) e
  cases a with
  |int x=>
   refine aP (fh (show qq (λx y=>x==y) (some x) b.int? =true from h)) λ_ y d f g=>?_;cases d;show b.int?.map (λy=>x==y)≠some false;rw [f];simp only [Option.map,g];exact λe=>nomatch e
  |bool x=>
   refine aP (fh (show qq (λx y=>x==y) (some x) b.bool? =true from h)) λ_ y d f g=>?_;cases d;show b.bool?.map (λy=>x==y)≠some false;rw [f];simp only [Option.map,g];exact λe=>nomatch e
  |str x=>
   refine aP (fh (show qq aD (some x) b.fg=true from h)) λ_ y d f g=>?_;cases d;show Zo x b≠some false;(delta Zo;simp only [f,g]);exact λe=>nomatch e
  |tup l=>
   refine aP (fh (show qq (i8 (eqT S n)) (some l) b.gh=true from h)) λ_ m d f g=>?_;cases d;show wq (Au S n) l b≠some false;delta wq;rw [f];exact Ac i l m g
  |none=>exact c .none h
  |lst l=>exact c (.lst l) h
  |jm ks l=>exact c (.jm ks l) h
  |ref k=>exact c (.ref k) h
  |glob a=>exact c (.glob a) h
theorem M0{a b:V}(h:eqT S 30 a b=true):Pq a b S=some true:=by
 have:=R7 30 a b h;unfold Pq;cases e:Au S 30 a b with
 |none=>rw [h]
 |some c=>cases c with
  |true=>rfl
  |false=>exact absurd e this
theorem X6:(zB 65)=(yj (.exp (.ez (.glob 39) "__init__" o0 (.cons (.loc 0) Hp))) (.asg ⟨[.attr (.loc 0) "vars"],none⟩ none (.qO [] .nil)) (.asg ⟨[.attr (.loc 0) "commands"],none⟩ none (.qO [] .nil)) (.asg ⟨[.attr (.loc 0) "firsts"],none⟩ none (.qO [] .nil))):=by trivial
theorem X7:(zB 50)=(.cons (.asg ⟨[.attr (.loc 0) "tools"],none⟩ none (.qO [] .nil)) (.cons (.asg ⟨[.attr (.loc 0) "inline"],none⟩ none (.qO [] .nil)) (.cons (.asg ⟨[.attr (.loc 0) "limit"],none⟩ none (.loc 1)) (.cons (.asg ⟨[.attr (.loc 0) "fuel"],none⟩ none (.loc 2)) (.cons (.asg ⟨[.attr (.loc 0) "depth"],none⟩ none (.cst (.int 0))) (yj (.asg ⟨[.attr (.loc 0) "spent"],none⟩ none (.cst (.int 0))) (.asg ⟨[.attr (.loc 0) "epoch"],none⟩ none (.cst (.int 0))) (.asg ⟨[.attr (.loc 0) "frame"],none⟩ none (.cst .none)) (.asg ⟨[.attr (.loc 0) "coroutine"],none⟩ none (.cst .none)))))))):=by trivial
section
variable {T:List C}{c:Addr}{nm:Str}{p2:Pos}
theorem Lp(c c':C):(S++c::T).set S.length c'=S++c'::T:=by simp
theorem dN:(S++T)[S.length+i]? =T[i]? :=by rw [eO (bY _ _),tz]
theorem BI(c:C):(S++T).set (S.length+i) c=S++T.set i c:=by rw [set_append_right _ _ (bY _ _),tz]
theorem vK(h:ls[i]? =some (some (.ref S.length)))(a:((eU c nm&& !beq c bL)&&ble ks.length 4000)=true):nq cf gt ⟨[.attr (.loc i p) nm q],none⟩ none v ls (S++ .inst c ks vs::T)=some (ls,S++ .inst c (bX ks vs nm v).1 (bX ks vs nm v).2::T):=by have:=sI (p:=q) (af (cf:=cf) (gt:=gt) (p:=p) h) (gW (v:=v) (aY (.inst c ks vs) T) a rfl);rw [Lp] at this;exact this
theorem mz(h:ls[i]? =some (some (.ref S.length)))(a:((eU c nm&& !beq c bL)&&ble ks.length 4000)=true)(b:Ev cf ls gt e (S++ .inst c ks vs::T) v (S++ .inst c ks vs::T))(d: .inst c (bX ks vs nm v).1 (bX ks vs nm v).2=C'):Nx cf gt (.asg ⟨[.attr (.loc i p) nm q],none⟩ none e p1) ls (S++ .inst c ks vs::T) ls (S++C'::T):=by subst d;exact aI b (vK h a)
theorem sV(h:ls[i]? =some (some (.ref S.length)))(a:((eU c nm&& !beq c bL)&&ble ks.length 4000)=true)(b:j=T.length+1)(e: .inst c (bX ks vs nm (.ref (S.length+j))).1 (bX ks vs nm (.ref (S.length+j))).2=C'):Nx cf gt (.asg ⟨[.attr (.loc i p) nm q],none⟩ none (.qO [] .nil p2) p1) ls (S++ .inst c ks vs::T) ls (S++C'::(T++[.dict [] []])):=by
 subst e b;have d:Ev cf ls gt (.qO [] .nil p2) (S++ .inst c ks vs::T) (.ref (S.length+(T.length+1))) (S++ .inst c ks vs::(T++[.dict [] []])):=by
  have:ev cf ls gt (.qO [] .nil p2) (S++ .inst c ks vs::T)=some (.ok (.ref (S++ .inst c ks vs::T).length),(S++ .inst c ks vs::T)++[.dict [] []]):=by rw [rN];rfl
  simp only [de,cT,ff,mK] at this;exact this
 exact aI d (vK h a)
theorem DY:cG (n+1) hd 475 [.ref S.length,.int 40,.none] (S++[.inst 697 [] []])=some (.ok .none,S++[.inst 697 (jE.take 9) [.ref (S.length+1),.ref (S.length+2),.int 40,.none,.int 0,.int 0,.int 0,.none,.none],.dict [] [],.dict [] []]):=by refine bI (ds:=[]) (ls0:=[rF S.length,iF 40,some .none]) (r:=.ok .cY) (by trivial) (by trivial) (by trivial) X7 (by trivial) ⟨[rF S.length,iF 40,some .none],?_⟩;refine ah (sV rfl (by trivial) rfl rfl) (ah (sV rfl (by trivial) rfl rfl) ?_);refine ah (mz rfl (by trivial) (af rfl) rfl) (ah (mz rfl (by trivial) (af rfl) rfl) ?_);refine ah (mz rfl (by trivial) (ao rfl) rfl) (ah (mz rfl (by trivial) (ao rfl) rfl) (ah (mz rfl (by trivial) (ao rfl) rfl) ?_));refine ah (mz rfl (by trivial) (ao rfl) rfl) (Y2 ?_);exact mz rfl (by trivial) (ao rfl) (by trivial)
theorem Il{x:Str×Addr}(h:gt[j]? =some x):Ev cf ls gt (.glob j q) S (.glob x.2) S:=by simp only [Ev,JM,h];rfl
noncomputable def Fo(s b:Nat):HP:=⟨s,s+8,s+7,s+3,b,s+2,s+4,s+5⟩
noncomputable def kW(s:Nat):C:=.inst 697 jE [.ref (s+1),.ref (s+2),.int 40,.none,.int 0,.int 0,.int 0,.none,.none,.ref (s+3),.ref (s+4),.ref (s+5)]
theorem DZ:cG (n+3) hd 697 [] S=some (.ok (.ref S.length),S++[kW S.length,.dict [] [],.dict [] [],.dict [] [],.dict [] [],.dict [] []]):=by
 have h:gy (defAt 65) (cG (n+1)) di 5000 hd [.ref S.length] (S++[.inst 697 [] []])=some (.ok .none,S++[kW S.length,.dict [] [],.dict [] [],.dict [] [],.dict [] [],.dict [] []]):=by refine bC (ds:=[.int 40,.none]) (r:=.ok .cY) (br:=[rF S.length,iF 40,some .none]) (by trivial) ?_;rw [X6,show gn (defAt 65) ([.ref S.length]++[.int 40,.none])=[] by trivial,dA];refine ah (fV (fv (Il (x:=("Host",541)) (by trivial)) (q:=(475,[])) rfl (aa (af rfl) (aa (af rfl) (aa (af rfl) ag))) DY)) ?_;exact ah (sV rfl (by trivial) rfl rfl) (ah (sV rfl (by trivial) rfl rfl) (Y2 (sV rfl (by trivial) rfl (by trivial))))
 rw [sH,nB,show Y8 kinds 697=some (.cls 65 false) by trivial];show sz (gy (defAt 65) (cG (n+1)) di 5000) 697 hd [] S=_;unfold sz;rw [h]
end
noncomputable def Y9:List (Str×En)->Str->En->List (Str×En)
 |[],x,e=>[(x,e)]
 |a::r,x,e=>match aD a.1 x with
  |true=>(a.1,e)::r
  |false=>a::Y9 r x e
theorem Lq{x:Str}{a:En}:Y9 [] x a=[(x,a)]:=by rfl
theorem qX{x:Str}{b:En}{a:Str×En}{r:List (Str×En)}:
 Y9 (a::r) x b=
  match aD (Prod.fst a) x with
  |true=>(Prod.fst a,b)::r
  |false=>a::Y9 r x b:=by rfl
noncomputable def uz:List (Str×En)->Str->Option En
 |[],_=>none
 |a::r,x=>match aD a.1 x with
  |true=>some a.2
  |false=>uz r x
theorem xZ{x:Str}{a:Str×En}{r:List (Str×En)}:
 uz (a::r) x=
  match aD (Prod.fst a) x with
  |true=>some (Prod.snd a)
  |false=>uz r x:=by rfl
noncomputable def cW(bl:List (Str×En)):List Str:=bl.map (·.1)
theorem jj:cW bl=List.map (λx=>Prod.fst x) bl:=by rfl
noncomputable def fH(bl:List (Str×En)):List V:=bl.map (·.2.v)
theorem nP:fH bl=List.map (λx=>En.v (Prod.snd x)) bl:=by rfl
theorem BJ(x:Str)(e:En):∀bl:List (Str×En),bX (cW bl) (fH bl) x e.v=(cW (Y9 bl x e),fH (Y9 bl x e)):=by
 intro c;induction c with
 |nil=>exact rfl
 |cons a r b=>have b:=b;simp only [jj,nP] at b;simp -iota only [jj,nP,List.map,jo,qX,b];cases aD a.1 x<;>rfl
theorem Im(x:Str):∀bl:List (Str×En),fieldOf (cW bl) (fH bl) x=(uz bl x).map En.v:=by
 intro c;induction c with
 |nil=>exact rfl
 |cons a r b=>
  have b:=b;simp only [jj,nP] at b;simp -iota only [jj,nP,List.map,bO,xZ];cases aD a.1 x
  ·exact b
  ·rfl
theorem x8{x:Str}:∀{bl:List (Str×En)},x∈cW bl->∃e,uz bl x=some e/\∃y,(y,e)∈bl
 |a::r,h=>by
  simp -iota only [xZ];cases hs:aD a.1 x with
  |true=>exact ⟨a.2,rfl,a.1,.head _⟩
  |false=>
   refine aQ (nV h) (λh=>?_) (λh=>?_)
   ·exact absurd h.symm (dR.mp hs)
   ·refine ae (x8 (bl:=r) h) λe d b=>?_;refine ar b λy c=>?_;clear b
    exact ⟨e,d,y,.tail _ c⟩
theorem x9{P:En->Prop}{x:Str}{e:En}(f:P e):∀{bl:List (Str×En)},(∀b∈bl,P b.2)->∀b∈Y9 bl x e,P b.2:=by
 intro i;induction i with
 |nil=>intro j b c;simp only [Lq,mem_singleton] at c;subst c;exact f
 |cons a r g=>
  intro h b c;simp -iota only [qX] at c;(revert c;cases _:aD (Prod.fst a) x;rotate_left;all_goals (intro c;dsimp only at c))
  ·refine aQ (nV c) (λd=>?_) (λc=>?_)
   ·clear c;subst d;exact f
   ·exact h b (.tail _ c)
  ·refine aQ (nV c) (λd=>?_) (λc=>?_)
   ·clear c;subst d;exact h _ (.head _)
   ·exact g (λb c=>h b (.tail _ c)) b c
theorem gY{x:Str}{e:En}:∀{bl:List (Str×En)},x∈cW (Y9 bl x e)/\∀y∈cW bl,y∈cW (Y9 bl x e):=by
 intro f;induction f with
 |nil=>
  exact ⟨.head _,λ_ h=>nomatch h⟩
 |cons a r b=>
  refine aq b λd c=>?_;simp -iota only [qX];cases hs:aD a.1 x with
  |true=>exact ⟨by refine (aS (be.mp hs))▸?_;exact .head _,λy h=>h⟩
  |false=>exact ⟨.tail _ d,λy h=>by
    refine aQ (nV h) (λg=>?_) (λh=>?_)
    ·clear h;subst g;exact .head _
    ·exact .tail _ (c y h)⟩
theorem Io{x:Str}{e:En}:∀{bl:List (Str×En)},(Y9 bl x e).length<=bl.length+1:=by
 intro c;induction c with
 |nil=>exact cJ _
 |cons a r b=>
  simp only [qX];split
  ·simp
  ·simpa using b
noncomputable def hn(i:Nat):Str:="h"++Str.ofString (toString (i:Int))
noncomputable abbrev Cs:=List (List Str×Ha)
noncomputable def fZ(cs:Cs):List Str:="try"::"body"::cs.flatMap (·.1)
structure OX (m:Nat) (cs:Cs) (bl:List (Str×En)):Prop where
 cl:∀c∈cs,Cl c.1 c.2/\c.2.begun∈B7/\c.2.names.length<=3
 sc:∀c∈cs,c.2.aB="-"\/c.2.aB∈cW bl
 last:cs.length=m->∀h,(cs.map (·.2)).getLast? =some h->Za h=true
 raw:∀b∈bl,Zk b.2/\b.2.extra.length<=2
 body:("body":Str)∈cW bl
structure BS (m:Nat) (cs:Cs) (bl:List (Str×En)) (w:Nat) (S:List C):Prop where
 Ad:∃p,S[0]? =some (bu p)/\p.2.length<=100
 book:S[1]? =some (.dict (cW bl) (fH bl))
 words:S[w]? =some (.list ((fZ cs).map .str))
 hs:S[3]? =some (.list (cs.map λc=>c.2.cut.v))
 M1:w≠0/\w≠3
 ok:OX m cs bl
 len:cs.length<=3
 D0:bl.length<=1+cs.length
section
variable {m:Nat}{cs:Cs}{w:Nat}
theorem BS.push(B:BS m cs bl w S)(T:List C):BS m cs bl w (S++T):=by refine ae B.Ad λp b a=>?_;exact ⟨⟨p,aC b T,a⟩,aC B.book T,aC B.words T,aC B.hs T,B.M1,B.ok,B.len,B.D0⟩
theorem BS.Ae(B:BS m cs bl w S){p:Int×List Int}(a:p.2.length<=100):BS m cs bl w (S.set 0 (bu p)):=by refine ae B.Ad λp0 b c=>?_;exact ⟨⟨p,ca b,a⟩,az B.book (by decide),az B.words B.M1.1.symm,az B.hs (by decide),B.M1,B.ok,B.len,B.D0⟩
theorem BS.Ip(B:BS m cs bl w S){c:C}(h:k≠0/\k≠1/\k≠3/\k≠w):BS m cs bl w (S.set k c):=by refine ae B.Ad λp0 b a=>?_;exact ⟨⟨p0,az b h.1,a⟩,az B.book h.2.1,az B.words h.2.2.2,az B.hs h.2.2.1,B.M1,B.ok,B.len,B.D0⟩
theorem M2:∀i,i<3->(hn i).length<=10/\aD (hn i) "-"=false/\(Str.ofString (toString (i:Int))).length<=10:=λi h=>by
 match i,h with
 |0,_=>exact ⟨by decide,by decide,by decide⟩
 |1,_=>exact ⟨by decide,by decide,by decide⟩
 |2,_=>exact ⟨by decide,by decide,by decide⟩
theorem nQ{a b:V}(d:cC S a=some l)(c:cC S b=some l')(e:l.length+l'.length<=1000):yM a b S=some (.ok (.ref S.length),S++[.list (l++l')]):=by simp -iota only [yM,d,c,bq,fA (show l.length+l'.length<=65536 by exact aA ‹_› (by decide))];rfl
theorem sW{a b:V}(f:Ev cf ls gt e S a S1)(c:Ev cf ls gt e1 S1 b S2)(d:yM a b S2=some (.ok v,S3)):Ev cf ls gt (.kA e e1 q) S v S3:=by simp -iota only [Ev,AQ,f,c,cP];exact d
theorem Af(g:∀c∈cs,Cl c.1 c.2):(fZ cs).length=2+4 * cs.length:=by
 unfold fZ;have:∀cs:Cs,(∀c∈cs,Cl c.1 c.2)->(cs.flatMap (·.1)).length=4 * cs.length:=λcs=>by
  induction cs with
  |nil=>intro _;rfl
  |cons c r b=>
   intro h;refine gl λi f=>?_;refine tH ((h c gJ).ex) λk j l a e _=>?_;refine f ?_;rw [py,de,b λx d=>h x (.tail _ d),e];simp only [cT,dQ];exact me _ _
 simp only [cT,this cs g];exact me _ 2
theorem BS.more{x:Q4}{d:Str}{e:En}{g:Nat}(B:BS m cs bl w S)(r:cs.length=i)(u:i<m)(z:m<=3)(o:x∈nO)(t:d=hn i\/(d="-"/\decide ((i:Int)=(m:Int) - 1)=false))(C:Zk e)(k:e.extra.length<=2)
 (y:∃p,S1[0]? =some (bu p)/\p.2.length<=100) (f:S1[1]? =some (.dict (cW (Y9 bl (hn i) e)) (fH (Y9 bl (hn i) e)))) (a:S1[g]? =some (.list ((fZ cs++sU x d).map .str))) (hs:S1[3]? =some (.list ((cs.map λc=>c.2.cut.v)++[(pj x d).cut.v]))) (D:g≠0/\g≠3):BS m (cs++[(sU x d,pj x d)]) (Y9 bl (hn i) e) g S1:=by
 refine ck (R6 o d) λn j l=>?_
 refine ⟨y,f,by rw [a];simp [fZ],by rw [hs];simp,D,⟨λc b=>?_,λc b=>?_,λq h s=>?_,x9 (P:=λe=>Zk e/\e.extra.length<=2) ⟨C,k⟩ B.ok.raw,gY.2 _ B.ok.body⟩,by simp;exact n5 (fw (r▸u) z),aA Io (by simp;have:=B.D0;exact hY ‹_›)⟩
 ·rcases mem_append.mp b with b|b
  ·exact B.ok.cl c b
  ·rw [mem_singleton.mp b];exact ⟨UI o d,n,j⟩
 ·clear hs n j;rcases mem_append.mp b with b|b
  ·exact (B.ok.sc c b).imp id (gY.2 _)
  ·rw [mem_singleton.mp b]
   rw [l]
   clear a b l;clear b;rcases t with rfl|⟨rfl,_⟩
   ·exact .inr gY.1
   ·exact .inl rfl
 ·simp only [de,cT,dQ] at q
  simp only [j7,gg,map_nil,getLast?_append,getLast?_singleton,some_or,Option.some.injEq] at s
  clear a hs n j;subst s
  rcases t with rfl|⟨_,A⟩
  ·unfold Za
   rw [l,(M2 i (fw ‹_› ‹_›)).2.1];rfl
  ·exact absurd (pX r q) (of_decide_eq_false A)
theorem OY(h:i<3):uO hd .str (.int i) S=some (.str (Str.ofString (toString (i:Int))),S):=by
 match i,h with
 |0,_=>rfl
 |1,_=>rfl
 |2,_=>rfl
theorem R8(a:ls[j]? =some (some (.int i)))(h:i<3):Ev cf ls gt (.bin .Add (.cst (.str "h") 0 q1) (.bi .str q2 (.loc j q3) q4) q5) S (.str (hn i)) S:=
 gd (ao rfl) (hU (af a) (OY h)) (nN (by have:=(M2 i h).2.2;exact aA (eP ‹_› _) (by decide)))
noncomputable abbrev R9:St:=.asg ⟨[.loc 6,.loc 7],some (0,o0)⟩ none (.call 51 o0 (xy (.loc 0) (.bin .Add (.cst (.str "h")) (.bi .str o0 (.loc 5))) (.cmp .Eq (.loc 5) (.bin .Sub (.loc 4) (.cst (.int 1))))))
noncomputable abbrev D3:Ex:=.call 48 o0 (cN (.loc 0))
noncomputable abbrev UM:dL:=yj R9 (.asg ⟨[.loc 2],none⟩ none (.kA (.loc 2) (.loc 6))) (.exp (.eB (.loc 3) .append o0 (cN (.loc 7)))) (.asg ⟨[.sub (.loc 1) (.bin .Add (.cst (.str "h")) (.bi .str o0 (.loc 5)))],none⟩ none D3)
noncomputable abbrev M3:dL:=UM
noncomputable abbrev vR(w:Nat)(m:Nat)(o5 o6 o7:Option V):bW:=[rF 0,rF 1,rF w,rF 3,iF m,o5,o6,o7,nF,nF,nF,nF,nF,nF,nF,nF,nF,nF,nF,nF]
noncomputable abbrev Iq(n:Nat)(m:Nat)(S:List C)(w:Nat)(i:Nat)(c4:C)(o6:Option V)(o7:Option V):Prop:=∃OZ Sa w' Sb Sc S',aT (a0 (n+16) false) a9 M3 (vR w m (some (.int i)) o6 o7) S=some (.ok .cY,vR w' m (some (.int i)) Sb Sc,S')/\BS m OZ Sa w' S'/\OZ.length=i+1/\S'[4]? =some c4/\S.length<=S'.length
theorem Lr{f:C}(B:BS m cs bl w S)(q:cs.length=i)(A:i<m)(F:m<=3)(R:S[4]? =some f)(SO:∀l,f≠C.list l)(X8:∀a b,f≠C.dict a b):Iq n m S w i f o6 o7:=by
 refine gl λE k=>?_;refine ae B.Ad λp o O=>?_;refine tF (Ln (n:=n+12) (hd:=false) (il:=decide ((i:Int)=(m:Int) - 1)) (nm:=hn i) o O) λx d p1 D U K h1=>?_;have z:=B.Ae K;have l0:=(fx o)
 have lw:=(fx B.words)
 have y:=(fx B.hs)
 have N:Nx (a0 (n+16) false) a9 R9 (vR w m (some (.int i)) o6 o7) S (vR w m (some (.int i)) (some (aX (sU x d))) (some (pj x d).cut.v)) (S.set 0 (bu p1)):=
  aI (aM (x:=("_law_handler",756)) (aa (af rfl) (aa (R8 rfl (fw ‹_› ‹_›)) (aa (aE (af rfl) (gd (af rfl) (ao rfl) sub_int) (c:=decide ((i:Int)=(m:Int) - 1)) rfl) ag))) (by trivial) h1) rfl
 have Z:yM (.ref w) (aX (sU x d)) (S.set 0 (bu p1))=some (.ok (.ref S.length),S.set 0 (bu p1)++[.list ((fZ cs++sU x d).map .str)]):=by have:=nQ (d8 z.words) (show cC _ (aX (sU x d))=some _ from rfl) (by simp only [dG,(Af λc hc=>(B.ok.cl c hc).1),(show (sU x d).length=4 from rfl)];have:=B.len;exact aA (gD (eP (mul_le_mul_left _ ‹_›) _) _) (by decide));rw [length_set] at this;rw [this,j7]
 have P:Nx (a0 (n+16) false) a9 (.asg ⟨[.loc 2],none⟩ none (.kA (.loc 2) (.loc 6))) (vR w m (some (.int i)) (some (aX (sU x d))) (some (pj x d).cut.v)) (S.set 0 (bu p1)) (vR S.length m (some (.int i)) (some (aX (sU x d))) (some (pj x d).cut.v)) (S.set 0 (bu p1)++[.list ((fZ cs++sU x d).map .str)]):=
  aI (sW (af rfl) (af rfl) Z) rfl
 have g:=z.push [.list ((fZ cs++sU x d).map .str)];have u:=append_at (v:=(pj x d).cut.v) g.hs (by simp;have:=B.len;exact aA ‹_› (by decide));refine k ?_;generalize j:S.set 0 (bu p1)++[C.list ((fZ cs++sU x d).map V.str)]=S2 at *;have H:S2[S.length]? =some (.list ((fZ cs++sU x d).map .str)):=by rw [<-j];have:=aY (S:=S.set 0 (bu p1)) (C.list ((fZ cs++sU x d).map V.str)) [];rw [length_set] at this;exact this
 have G:S2[4]? =some f:=by rw [<-j];exact aC (az R (by decide)) _
 have L:Nx (a0 (n+16) false) a9 (.exp (.eB (.loc 3) .append o0 (cN (.loc 7)))) (vR S.length m (some (.int i)) (some (aX (sU x d))) (some (pj x d).cut.v)) S2 (vR S.length m (some (.int i)) (some (aX (sU x d))) (some (pj x d).cut.v)) (S2.set 3 (.list ((cs.map λc=>c.2.cut.v)++[(pj x d).cut.v]))):=
  fV (iO (af rfl) u.1 (aa (af rfl) ag) u.2)
 refine gl λE k=>?_;refine ae g.Ad λp2 I W=>?_;have s:(S2.set 3 (.list ((cs.map λc=>c.2.cut.v)++[(pj x d).cut.v])))[0]? =some (bu p2):=az I (by decide);refine gL (Ab (n:=n+12) (hd:=false) s W) λe p4 T h M h3=>?_;have b3:(S2.set 3 (.list ((cs.map λc=>c.2.cut.v)++[(pj x d).cut.v])))[1]? =some (.dict (cW bl) (fH bl)):=az g.book (by decide);have Y:(S2.set 3 (.list ((cs.map λc=>c.2.cut.v)++[(pj x d).cut.v])))[4]? =some f:=az G (by decide);have Q:(S2.set 3 (.list ((cs.map λc=>c.2.cut.v)++[(pj x d).cut.v])))[S.length]? =some (.list ((fZ cs++sU x d).map .str)):=az H (cc y);have X:(S2.set 3 (.list ((cs.map λc=>c.2.cut.v)++[(pj x d).cut.v])))[3]? =some (.list ((cs.map λc=>c.2.cut.v)++[(pj x d).cut.v])):=ca g.hs;refine k ?_;have l3:(S2.set 3 (.list ((cs.map λc=>c.2.cut.v)++[(pj x d).cut.v]))).length=S.length+1:=by rw [<-j];simp
 generalize S2.set 3 (.list ((cs.map λc=>c.2.cut.v)++[(pj x d).cut.v]))=S3 at *;have r:(S3.set 0 (bu p4))[1]? =some (.dict (cW bl) (fH bl)):=az b3 (by decide);have t:=ll (v:=e.v) (x:=hn i) r (fA (by simp [jj];have:=B.D0;have:=B.len;exact aA ‹_› (aA (eP ‹_› _) (by decide))));rw [BJ] at t;have J:Nx (a0 (n+16) false) a9 (.asg ⟨[.sub (.loc 1) (.bin .Add (.cst (.str "h")) (.bi .str o0 (.loc 5)))],none⟩ none D3) (vR S.length m (some (.int i)) (some (aX (sU x d))) (some (pj x d).cut.v)) S3 (vR S.length m (some (.int i)) (some (aX (sU x d))) (some (pj x d).cut.v)) ((S3.set 0 (bu p4)).set 1 (.dict (cW (Y9 bl (hn i) e)) (fH (Y9 bl (hn i) e)))):=
  aI (aM (x:=("_law_end",739)) (aa (af rfl) ag) (by trivial) h3) (jD (af rfl) (R8 rfl (by exact fw ‹_› ‹_›)) t)
 refine Md _ _ S.length _ _ _ (ah N (ah P (ah L (Y2 J)))) (B.more q A F D U T h ⟨p4,az (ca s) (by decide),M⟩ (ca r) (az (az Q (cc l0)) (cc (by exact ei (le_add_left _ _) ‹_›))) (az (az X (by decide)) (by decide)) ⟨g2 l0,g2 y⟩) (by simp [q]) (az (az Y (by decide)) (by decide)) (by simp [l3])
end
theorem Ls{a b:Pos}{n:Int}(h:0<=n/\n<1000000):J5 (.fM a b) (.int n) S=some (.iter (.fM 0 n)):=by unfold J5;exact MV (λb=>match b with|true=>some (C.iter (It.fM 0 n))|false=>none) (cQ h)
theorem O0{a b:Pos}{m:Nat}(h:m<=1000):J5 (.fM a b) (.int m) S=some (.iter (.fM 0 m)):=Ls (By h)
noncomputable abbrev Sd:St:=.asg ⟨[.loc 1,.loc 2,.loc 3],some (0,o0)⟩ (some [1,2,3]) (.tup (xy (.qO [("body",0,o0)] (cN D3)) (.bw (cA (.cst (.str "try")) (.cst (.str "body")))) (.bw .nil)))
noncomputable abbrev Se:St:=.asg ⟨[.loc 10,.loc 11],some (0,o0)⟩ (some [10,11]) (.tup (cA (.cmp .Eq (.call 43 o0 (cA (.loc 0) (.cst (.int 5)))) (.cst (.int 4))) (.call 43 o0 (cA (.loc 0) (.cst (.int 14))))))
noncomputable abbrev O1:Ex:=.tup (cA (.bw (cN (.cst (.str "try")))) (.tup (cA (.bw .nil) (.tup (.cons (.cst (.int 1)) (.cons (.cst (.str "wrong # args: should be \"try body ?handler ...? ?finally script?\"")) (.cons (.tup (cA (.cst (.str "TCL")) (.cst (.str "WRONGARGS")))) Ih)))))))
noncomputable abbrev O2:Ex:=.tup (cA (.kA (.loc 2) (.loc 14)) (.tup (cA (.bw .nil) (.tup (.cons (.cst (.int 1)) (.cons (.loc 15) (.cons (.loc 16) Ih)))))))
noncomputable abbrev Lu:eS:=cA (.idx (.bw (xy (.cst (.str "finally")) (.cst (.str "f")) (.cst (.str "fina")))) (.loc 9)) (.cst (.str "f"))
noncomputable abbrev UQ:St:=.ifs (.lS .And (.loc 10) (cN (.cmp .Eq (.loc 11) (.cst (.int 13))))) (dO (.asg ⟨[.loc 2,.loc 13],some (0,o0)⟩ (some [2,13]) O1)) (dO (.ifs (.loc 10) (nE (.asg ⟨[.loc 14,.loc 15,.loc 16],some (0,o0)⟩ none (.call 53 o0 (cN (.loc 11)))) (.asg ⟨[.loc 2,.loc 13],some (0,o0)⟩ (some [2,13]) O2)) (nE (.asg ⟨[.loc 2],none⟩ none (.kA (.loc 2) (.ite (.loc 8) (.bw Lu) (.bw .nil)))) (.asg ⟨[.loc 13],none⟩ none (.call 56 o0 (qR (.loc 1) (.loc 3) (.loc 8) (.loc 12)))))))
noncomputable abbrev Lv:Ex:=.qO [("run",0,o0),("book",0,o0),("ran",0,o0)] (xy (.glob 58) (.loc 1) (.bw .nil))
noncomputable abbrev UR:St:=.wS (dO (.asg ⟨[.loc 18],none⟩ none (.tup (.cons (.cst (.int 0)) (.cons (.call 37 o0 (cA (.loc 17) (.loc 2))) (.cons (.tup (cN (.cst (.str "NONE")))) Ih)))))) 0 o0 (some 19) (dO (.asg ⟨[.loc 18],none⟩ none (.tup (.cons (.attr (.loc 19) "code") (.cons (.attr (.loc 19) "value") (.cons (.attr (.loc 19) "errorcode") (qR (.attr (.loc 19) "level") (.attr (.loc 19) "ret") (.attr (.loc 19) "info") (.attr (.loc 19) "extra"))))))))
noncomputable abbrev Sf:St:=.ret (.lS .And (.cmp .Eq (.tup (cA (.idx (.attr (.loc 17) "tools") (.cst (.str "ran"))) (.loc 18))) (.loc 13)) (cA (.cmp .Eq (.call 57 o0 (cN (.loc 17))) (.loc 12)) (.cmp .Eq (.attr (.loc 17) "depth") (.cst (.int 0)))))
noncomputable abbrev US:dL:=.cons (.asg ⟨[.loc 17],none⟩ none (.call 42 o0 .nil)) (yj (.exp (.ez (.loc 17) "write" o0 (cA (.cst (.str "m")) (.cst (.str "old"))))) (.asg ⟨[.attr (.loc 17) "tools"],none⟩ none Lv) UR Sf)
theorem Yc:(zB 96)=(.cons Sd (.cons (.asg ⟨[.loc 4],none⟩ none (.call 43 o0 (cA (.loc 0) (.cst (.int 4))))) (.cons (.fr ⟨[.loc 5],none⟩ (.fM) (.loc 4) UM) (.cons (.asg ⟨[.loc 8,.loc 9],some (0,o0)⟩ (some [8,9]) (.tup (cA (.cmp .Eq (.call 43 o0 (cA (.loc 0) (.cst (.int 2)))) (.cst (.int 1))) Lf))) (.cons (.asg ⟨[.sub (.loc 1) (.cst (.str "f"))],none⟩ none D3) (.cons Se (.cons (.asg ⟨[.loc 12],none⟩ none (.qO [("m",0,o0)] (cN (.cst (.str "old"))))) (.cons UQ US)))))))):=by trivial
section
variable {m:Nat}{cs:Cs}{w:Nat}
theorem D4(A:m<=3):∀(j i:Nat) (cs:Cs) (bl:List (Str×En)) (w:Nat) (S:List C) (o5 o6 o7:Option V) (N:Nat),i+j=m->BS m cs bl w S->cs.length=i->S[4]? =some (.iter (.fM i j))->j<N->
 ∃f p g z q o S',fk (λls S=>aT (a0 (n+16) false) a9 M3 ls S) (λv ls S=>jc (a0 (n+16) false) a9 ⟨[.loc 5],none⟩ v ls S) false 4 N (vR w m o5 o6 o7) S=some (.ok .cY,vR g m z q o,S')/\BS m f p g S'/\f.length=m/\4<S'.length:=by
 intro F
 induction F with
 |zero=>
  intro i cs bl w S o5 o6 o7 N h B k d H
  cases N with
  |zero=>exact absurd H (et _)
  |succ N=>
   have l4:=(fx d)
   refine Me cs bl w o5 o6 o7 (S.set 4 .dead) ?_ (B.Ip ⟨by decide,by decide,by decide,aO d B.words (λe=>C.noConfusion e)⟩) (k.trans h) (by simpa using l4)
   simp -iota only [gx,jd,d,bq,C.nf]
   rfl
 |succ j x=>
  intro i cs bl w S o5 o6 o7 N h B k d s
  cases N with
  |zero=>exact absurd s (et _)
  |succ N=>
   have l4:=(fx d)
   have Q:=B.Ip (c:=.iter (.fM ((i+1:Nat):Int) (j:Int))) ⟨by decide,by decide,by decide,aO d B.words (λe=>C.noConfusion e)⟩
   refine LZ (Lr (n:=n) (o6:=o6) (o7:=o7) Q k (pG h) A (ca d) (λl e=>C.noConfusion e) (λa b e=>C.noConfusion e)) λI J G q o S1 t O L D _=>?_
   refine Ma (x (i+1) I J G S1 (some (.int i)) q o N (pH h) O L D (lt_of_succ_lt_succ s)) λf p g u y K S' r P c' M=>?_
   refine Me f p g u y K S' ?_ P c' M
   have st:qg false S 4=some (some (.int i,.iter (.fM ((i+1:Nat):Int) (j:Int)))):=by simp -iota only [jd,d,bq,C.nf];dsimp only;simp -iota only [wp];rw [cQ (by exact pI _)];rw [show ((j+1:Nat):Int) - 1=j by exact pD _];rfl
   have E:jc (a0 (n+16) false) a9 ⟨[.loc 5],none⟩ (.int i) (vR w m o5 o6 o7) (S.set 4 (.iter (.fM ((i+1:Nat):Int) (j:Int))))=some (vR w m (some (.int i)) o6 o7,S.set 4 (.iter (.fM ((i+1:Nat):Int) (j:Int)))):=rfl
   rw [gx,st]
   (simp -iota only [bq,qP];dsimp only;simp -iota only [bq,E,t,lj,qP])
   exact r
noncomputable def BK:du:=[("m","old")]
noncomputable abbrev mA(w m:Nat)(o5 o6 o7:Option V)(fin:Bool)(wh:Nat)(iw:Bool)(wr s:Nat)(Yg:Option V):bW:=[rF 0,rF 1,rF w,rF 3,iF m,o5,o6,o7,some (.bool fin),iF wh,some (.bool iw),iF wr,rF s,Yg,nF,nF,nF,nF,nF,nF]
structure Dr (m:Nat) (cs:Cs) (bl:List (Str×En)) (w s:Nat) (S:List C):Prop where
 Ad:∃p,S[0]? =some (bu p)
 book:S[1]? =some (.dict (cW bl) (fH bl))
 words:S[w]? =some (.list ((fZ cs).map .str))
 hs:S[3]? =some (.list (cs.map λc=>c.2.cut.v))
 st:S[s]? =some (stC BK)
 ok:OX m cs bl
 f:("f":Str)∈cW bl
 len:cs.length=m
 sb:s≠1
noncomputable abbrev Ir(n:Nat)(p:Int×List Int):Prop:=∃m cs bl w o5 o6 o7 fin wh iw wr s S,m<=3/\wh<3/\wr<14/\Dr m cs bl w s S/\∀o,aT (a0 (n+16) false) a9 (.cons UQ US) (mA w m o5 o6 o7 fin wh iw wr s none) S=o->aT (a0 (n+16) false) a9 (zB 96) [rF 0,nF,nF,nF,nF,nF,nF,nF,nF,nF,nF,nF,nF,nF,nF,nF,nF,nF,nF,nF] [bu p]=o
theorem Lw{p:Int×List Int}(hl:p.2.length<=100):Ir n p:=by
 refine gL (Ab (n:=n+12) (hd:=false) (S:=[bu p]) (k:=0) rfl hl) λj p1 r0 x0 l1 h1=>?_;have s1:Nx (a0 (n+16) false) a9 Sd [rF 0,nF,nF,nF,nF,nF,nF,nF,nF,nF,nF,nF,nF,nF,nF,nF,nF,nF,nF,nF] [bu p] [rF 0,rF 1,rF 2,rF 3,nF,nF,nF,nF,nF,nF,nF,nF,nF,nF,nF,nF,nF,nF,nF,nF] [bu p1,.dict ["body"] [j.v],.list [.str "try",.str "body"],.list []]:=by
  have d1:Ev (a0 (n+16) false) [rF 0,nF,nF,nF,nF,nF,nF,nF,nF,nF,nF,nF,nF,nF,nF,nF,nF,nF,nF,nF] a9 (.qO [("body",0,o0)] (cN D3)) [bu p] (.ref 1) [bu p1,.dict ["body"] [j.v]]:=by have:=aM (cf:=a0 (n+16) false) (ls:=[rF 0,nF,nF,nF,nF,nF,nF,nF,nF,nF,nF,nF,nF,nF,nF,nF,nF,nF,nF,nF]) (gt:=a9) (i:=48) (ip:=o0) (p:=o0) (x:=("_law_end",739)) (aa (af (p:=o0) (i:=0) rfl) ag) (by trivial) h1;simp only [Ev,rN,(aa this ag),cP];rfl
  exact aI (cV (aa d1 (aa (dH (aa (ao rfl) (aa (ao rfl) ag)) rfl) (aa (dH ag rfl) ag))) rfl) rfl
 refine ae (dm (p:=p1) (m:=4) (by decide)) λm q Z=>?_;have z:=cD (n:=n+15) (cf:=a0 (n+16) false) (ls:=[rF 0,rF 1,rF 2,rF 3,nF,nF,nF,nF,nF,nF,nF,nF,nF,nF,nF,nF,nF,nF,nF,nF]) (i:=0) (S:=[bu p1,.dict ["body"] [j.v],.list [.str "try",.str "body"],.list []]) (m:=4) (q1:=o0) (q2:=o0) (q3:=o0) (q4:=o0) rfl rfl rfl l1 (by decide) (by decide);replace z:=Z▸z;refine Ma (D4 (n:=n) (by exact n5 q) m 0 [] _ 2 _ none none none 5000 (fL m) (show BS m [] [("body",j)] 2 ([bu (drew p1 4),.dict ["body"] [j.v],.list [.str "try",.str "body"],.list []]++[.iter (.fM (0:Nat) m)]) from ⟨⟨_,rfl,(dC l1)⟩,rfl,rfl,rfl,by decide,⟨(λc h=>nomatch h),(λc h=>nomatch h),(λ_ h e=>aG e),λb hb=>by refine (mem_singleton.mp hb)▸?_;exact ⟨r0,x0⟩,.head _⟩,zero_le _,cJ _⟩) rfl rfl (Nat.lt_trans q (by decide))) λcs bl w o5 o6 o7 S3 K B Y l4=>?_;have L:Nx (a0 (n+16) false) a9 (.fr ⟨[.loc 5],none⟩ (.fM) (.loc 4) UM) (vR 2 m none none none) [bu (drew p1 4),.dict ["body"] [j.v],.list [.str "try",.str "body"],.list []] (vR w m o5 o6 o7) S3:=by exact vB (af rfl) (O0 (px (Nat.lt_trans q (by decide)))) K
 refine gl λE l=>?_;refine ae B.Ad λp3 u l3=>?_;refine ae (dm (p:=p3) (m:=2) (by decide)) λf hf T=>?_;have l5:=dC (m:=2) l3;refine ae (dm (p:=drew p3 ((2:Nat):Int)) (m:=3) (by decide)) λwh V Yh=>?_;have l6:=dC (m:=3) l5;refine ae (B.Ae l5).Ad λp4 S9 _=>?_;have r:=cD (n:=n+15) (cf:=a0 (n+16) false) (ls:=vR w m o5 o6 o7) (i:=0) (m:=2) (q1:=o0) (q2:=o0) (q3:=o0) (q4:=o0) rfl rfl u l3 (by decide) (by decide);have F:=cD (n:=n+15) (hd:=false) (cf:=a0 (n+16) false) (ls:=vR w m o5 o6 o7) (i:=0) (k:=0) (p:=drew p3 ((2:Nat):Int)) (m:=3) (q1:=o0) (q2:=o0) (q3:=o0) (q4:=o0) rfl rfl (ca u) l5 (by decide) (by decide);replace r:=T▸r;rw [Yh,set_set] at F;have y:=B.Ae l6;refine l ?_;generalize Yi:S3.set 0 (bu (drew (drew p3 ((2:Nat):Int)) ((3:Nat):Int)))=S5 at *;have C:S5[0]? =some (bu (drew (drew p3 ((2:Nat):Int)) ((3:Nat):Int))):=by refine (aS Yi)▸?_;exact ca u
 refine gl λE l=>?_;refine gL (Ab (n:=n+12) (hd:=false) C l6) λg d r6 x6 l7 h6=>?_;have H:(S5.set 0 (bu d))[1]? =some (.dict (cW bl) (fH bl)):=az y.book (by decide);have D:=ll (v:=g.v) (x:="f") H (fA (by simp [jj];have:=B.D0;have:=B.len;exact aA ‹_<=1+_› (aA (eP ‹_<=3› 1) (by decide))));rw [BJ] at D;have X:Nx (a0 (n+16) false) a9 (.asg ⟨[.sub (.loc 1) (.cst (.str "f"))],none⟩ none D3) [rF 0,rF 1,rF w,rF 3,iF m,o5,o6,o7,some (.bool (decide ((f:Int)=1))),iF wh,nF,nF,nF,nF,nF,nF,nF,nF,nF,nF] S5 [rF 0,rF 1,rF w,rF 3,iF m,o5,o6,o7,some (.bool (decide ((f:Int)=1))),iF wh,nF,nF,nF,nF,nF,nF,nF,nF,nF,nF] ((S5.set 0 (bu d)).set 1 (.dict (cW (Y9 bl "f" g)) (fH (Y9 bl "f" g)))):=
  aI (aM (x:=("_law_end",739)) (aa (af rfl) ag) (by trivial) h6) (jD (af rfl) (ao rfl) D)
 have Q:w≠1:=λe=>by have:=B.book;(replace this:=(aS e)▸this;replace this:=B.words▸this);cases this
 have s:((S5.set 0 (bu d)).set 1 (.dict (cW (Y9 bl "f" g)) (fH (Y9 bl "f" g))))[0]? =some (bu d):=az (ca C) (by decide);have W7:((S5.set 0 (bu d)).set 1 (.dict (cW (Y9 bl "f" g)) (fH (Y9 bl "f" g))))[w]? =some (.list ((fZ cs).map .str)):=az (az y.words B.M1.1.symm) Q.symm;have I:((S5.set 0 (bu d)).set 1 (.dict (cW (Y9 bl "f" g)) (fH (Y9 bl "f" g))))[3]? =some (.list (cs.map λc=>c.2.cut.v)):=az (az y.hs (by decide)) (by decide);have U:((S5.set 0 (bu d)).set 1 (.dict (cW (Y9 bl "f" g)) (fH (Y9 bl "f" g))))[1]? =some (.dict (cW (Y9 bl "f" g)) (fH (Y9 bl "f" g))):=ca H;refine l ?_;generalize (S5.set 0 (bu d)).set 1 (.dict (cW (Y9 bl "f" g)) (fH (Y9 bl "f" g)))=S7 at *;refine gl λE l=>?_;refine ae (dm (p:=d) (m:=5) (by decide)) λa ha O=>?_;have l8:=dC (m:=5) l7;refine ae (dm (p:=drew d ((5:Nat):Int)) (m:=14) (by decide)) λwr Si Yj=>?_;have t:=cD (n:=n+15) (hd:=false) (cf:=a0 (n+16) false) (ls:=[rF 0,rF 1,rF w,rF 3,iF m,o5,o6,o7,some (.bool (decide ((f:Int)=1))),iF wh,nF,nF,nF,nF,nF,nF,nF,nF,nF,nF]) (i:=0) (S:=S7) (k:=0) (p:=d) (m:=5) (q1:=o0) (q2:=o0) (q3:=o0) (q4:=o0) rfl rfl s l7 (by decide) (by decide);have G:=cD (n:=n+15) (hd:=false) (cf:=a0 (n+16) false) (ls:=[rF 0,rF 1,rF w,rF 3,iF m,o5,o6,o7,some (.bool (decide ((f:Int)=1))),iF wh,nF,nF,nF,nF,nF,nF,nF,nF,nF,nF]) (i:=0) (k:=0) (p:=drew d ((5:Nat):Int)) (m:=14) (q1:=o0) (q2:=o0) (q3:=o0) (q4:=o0) rfl rfl (ca s) l8 (by decide) (by decide);replace t:=O▸t;rw [Yj,set_set] at G;have N:Nx (a0 (n+16) false) a9 Se [rF 0,rF 1,rF w,rF 3,iF m,o5,o6,o7,some (.bool (decide ((f:Int)=1))),iF wh,nF,nF,nF,nF,nF,nF,nF,nF,nF,nF] S7 [rF 0,rF 1,rF w,rF 3,iF m,o5,o6,o7,some (.bool (decide ((f:Int)=1))),iF wh,some (.bool (decide ((a:Int)=4))),iF wr,nF,nF,nF,nF,nF,nF,nF,nF] _:=aI (cV (aa (aE t (ao rfl) (c:=decide ((a:Int)=4)) rfl) (aa G ag)) rfl) rfl;have M:(S7.set 0 (bu (drew (drew d ((5:Nat):Int)) ((14:Nat):Int))))[0]? =some (bu (drew (drew d ((5:Nat):Int)) ((14:Nat):Int))):=ca s;have W8:=az (c':=bu (drew (drew d ((5:Nat):Int)) ((14:Nat):Int))) W7 B.M1.1.symm;have W:=az (c':=bu (drew (drew d ((5:Nat):Int)) ((14:Nat):Int))) (k:=0) I (by decide);have A:=az (c':=bu (drew (drew d ((5:Nat):Int)) ((14:Nat):Int))) (k:=0) U (by decide);refine l ?_;generalize S7.set 0 (bu (drew (drew d ((5:Nat):Int)) ((14:Nat):Int)))=S8 at *;have J:Nx (a0 (n+16) false) a9 (.asg ⟨[.loc 12],none⟩ none (.qO [("m",0,o0)] (cN (.cst (.str "old"))))) [rF 0,rF 1,rF w,rF 3,iF m,o5,o6,o7,some (.bool (decide ((f:Int)=1))),iF wh,some (.bool (decide ((a:Int)=4))),iF wr,nF,nF,nF,nF,nF,nF,nF,nF] S8 (mA w m o5 o6 o7 (decide ((f:Int)=1)) wh (decide ((a:Int)=4)) wr S8.length none) (S8++[stC BK]):=by refine aI (v:=.ref S8.length) (S1:=S8++[stC BK]) ?_ rfl;simp -iota only [Ev,rN,FC,NH,rM,cP,Co,gk,Option.map];rfl
 refine ⟨m,cs,Y9 bl "f" g,w,o5,o6,o7,decide ((f:Int)=1),wh,decide ((a:Int)=4),wr,S8.length,S8++[stC BK],by exact n5 q,V,Si,⟨⟨_,aC M _⟩,aC A _,aC W8 _,aC W _,aY _ _,⟨B.ok.cl,λc hc=>(B.ok.sc c hc).imp id (gY.2 _),B.ok.last,x9 (P:=λe=>Zk e/\e.extra.length<=2) ⟨r6,x6⟩ B.ok.raw,gY.2 _ B.ok.body⟩,gY.1,Y,g2 (fx A)⟩,λo R=>?_⟩;refine Yc▸?_;exact ah s1 (ah (aI z rfl) (ah L (ah (aI (cV (aa (aE r (ao rfl) (c:=decide ((f:Int)=1)) rfl) (aa F ag)) rfl) rfl) (ah X (ah N (ah J R))))))
end
noncomputable def Lx:Nat->V->Bool
 |0,_=>false
 |n+1,v=>match v with
  |.int _=>true
  |.bool _=>true
  |.str _=>true
  |.tup l=>l.all (Lx n)
  |.lst l=>l.all (Lx n)
  |_=>false
theorem uA{f:V->V->Bool}:∀l:List V,(∀v∈l,f v v=true)->i8 f l l=true:=by
 intro b;induction b with
 |nil=>intro c;exact rfl
 |cons x r a=>
  intro h;simp only [qL,h x gJ,a λv hv=>h v (.tail _ hv),nY]
theorem yb:∀(n:Nat) (v:V),Lx n v=true->eqT S n v v=true:=by
 intro c;induction c with
 |zero=>intro d h;exact eI h
 |succ n b=>
  intro v h;cases v with
  |int x=>show (x==x)=true;simp
  |bool x=>show (x==x)=true;simp
  |str x=>exact be.mpr rfl
  |tup l=>exact uA l λv hv=>b v (List.all_eq_true.mp h v hv)
  |lst l=>
   show (i8 (eqT S n) l l||_)=true;rw [uA l λv hv=>b v (List.all_eq_true.mp h v hv)];rfl
  |none=>cases h
  |jm ks l=>cases h
  |ref k=>cases h
  |glob a=>cases h
theorem Sj(n:Nat)(e:En):Lx (n+5) e.v=true:=by
 have h:((e.extra.map jX).all (Lx (n+3)))=true:=by rw [List.all_map,List.all_eq_true];intro x _;rfl
 have a:Lx (n+4) e.ec.v=true:=by cases e.ec<;>rfl
 show (List.all [V.int e.code,.str e.value,e.ec.v,.int e.level,.int e.ret,.str e.info,vz e.extra] (Lx (n+4)))=true;simp only [all_cons,all_nil,a,nY];show (true&&(true&&(true&&(true&&(true&&((e.extra.map jX).all (Lx (n+3))))))))=true;rw [h];rfl
theorem D5:∀l:List Str,n9 l l=true:=by
 intro b;induction b with
 |nil=>exact rfl
 |cons x r a=>simp only [B8,be.mpr (rfl:x=x),a,nY]
theorem D6:∀l:du,qK gE (cB l) (cB l)=some true:=by
 intro b;induction b with
 |nil=>exact rfl
 |cons x r a=>have a:=a;simp only [cB] at a;simp only [cB,List.map,E6,gE,V.Jl,bq,Option.map,be.mpr (rfl:x.2=x.2),a];rfl
theorem Iu(l:du):yA (namesOf l,cB l) (namesOf l,cB l)=true:=by (delta yA;simp only [D5,D6]);rfl
section
variable {T:List C}{a b:V}{st:du}{p:HP}
theorem BL(d:iI S a=some (namesOf st,cB st))(c:iI S b=some (namesOf st,cB st))(hn:(match a with|.ref _=>true|_=>false)=true):eqT S (n+1) a b=true:=by
 cases a with
 |ref k=>show (qq (i8 (eqT S n)) (cC S (.ref k)) (cC S b)||qq yA (iI S (.ref k)) (iI S b))=true;rw [d,c,lJ];exact .inr (Iu st)
 |_=>exact eI hn
theorem vL(h:S[k]? =some (stC st)):iI S (.ref k)=some (namesOf st,cB st):=by delta iI V.v7 stC;dsimp only;(simp -iota only [V.fQ,bq,h];rfl)
theorem Ly:∀{l:List V},gP p S l cX->i8 (eqT S (n+3)) l (cX.map qE)=true:=by
 intro l r;induction r with
 |nil=>rfl
 | @cons j x st l cX h c r a=>
   have b:eqT S (n+3) (.tup [.str x,.ref j]) (qE (x,st))=true:=by show (eqT S (n+2) (.str x) (.str x)&&(eqT S (n+2) (.ref j) (.jm (namesOf st) (cB st))&&true))=true;rw [BL (vL h) rfl rfl,show eqT S (n+2) (.str x) (.str x)=true from be.mpr rfl];rfl
   simp only [List.map,qL,b,a,nY]
theorem O3{r:Nat}(c:S[k]? =some (.list l))(b:gP p S l cX)(a:S[r]? =some (.list (cX.map qE))):eqT S (n+4) (.ref k) (.ref r)=true:=by show (qq (i8 (eqT S (n+3))) (cC S (.ref k)) (cC S (.ref r))||_)=true;rw [d8 c,d8 a,lJ];exact .inl (Ly b)
theorem Zw{w:V}(hv:cC S v=some [])(hn:(match v with|.ref _=>true|.lst _=>true|_=>false)=true)(a:cC S w=some []):eqT S (n+1) v w=true:=by
 cases v with
 |ref k=>show (qq (i8 (eqT S n)) (cC S (.ref k)) (cC S w)||_)=true;rw [hv,a];rfl
 |lst l=>clear hn;(replace hv:=aw hv;subst hv);show (qq (i8 (eqT S n)) (cC S (.lst [])) (cC S w)||_)=true;refine a▸?_;rfl
 |_=>exact eI hn
theorem O4{c d:V}(e:eqT S n a c=true)(f:eqT S n b d=true):eqT S (n+1) (.tup [a,b]) (.tup [c,d])=true:=by show (eqT S n a c&&(eqT S n b d&&true))=true;rw [e,f];rfl
end
noncomputable def T7(s:Nat):List C:=[kW s,.dict [] [],.dict [] [],.dict ["m"] [.ref (s+6)],.dict [] [],.dict [] [],eF "scalar" (.str "old") 1]
noncomputable def T9(s:Nat):List C:=[iC (Fo s 1) 0,.dict [] [],.dict [] [],.dict ["m"] [.ref (s+6)],.dict [] [],.dict [] [],eF "scalar" (.str "old") 1,.list [],vy (Fo s 1)]
theorem Ag:cG (n+6) hd 637 [.ref S.length,.str "m",.str "old"] (S++[kW S.length,.dict [] [],.dict [] [],.dict [] [],.dict [] [],.dict [] []])=some (.ok (.str "old"),S++T7 S.length):=by have b:=sJ (n:=n) (hd:=hd) (S:=S++[kW S.length,.dict [] [],.dict [] [],.dict [] [],.dict [] [],.dict [] []]) (v:=S.length+3) (x:="m") dN rfl (zero_le _) rfl;rw [ff,BI,de] at b;have a:=oS (n:=n+3) (hd:=hd) (k:=S.length+6) (S:=S++[kW S.length,.dict [] [],.dict [] [],.dict ["m"] [.ref (S.length+6)],.dict [] [],.dict [] [],eF "none" (.str "") 0]) (y:=.str "old") dN;rw [BI] at a;exact oW (p:=⟨S.length,S.length+1,0,S.length+3,0,S.length+2,S.length+4,S.length+5⟩) (aY _ _) b a
theorem Lz:bf (Fo S.length 1) 0 BK [] (S++T9 S.length):=
 ⟨aY _ _,dN,⟨[],dN,.nil⟩,by decide,⟨[S.length+6],dN,.cons dN jS .nil⟩,by show S.length+8≠S.length+3;exact g2 (Nat.add_lt_add_left (by decide) _)⟩
noncomputable abbrev iR(w m:Nat)(o5 o6 o7:Option V)(fin:Bool)(wh:Nat)(iw:Bool)(wr s:Nat)(dv:V)(o14 o15 o16 V5 Yk Tc:Option V):bW:=[rF 0,rF 1,rF w,rF 3,iF m,o5,o6,o7,some (.bool fin),iF wh,some (.bool iw),iF wr,rF s,some dv,o14,o15,o16,V5,Yk,Tc]
noncomputable def Runs(n w s:Nat)(S:List C)(dv:V):Prop:=∀(S3:List C) (p:HP),bf p 0 BK [] S3->p.b=1->S.length<=p.v->S.length<=p.r->(∀(k:Nat) (c:C),S[k]? =some c->S3[k]? =some c)->
 ∃S4 st cX,bf p 0 st cX S4/\Fr p S3 S4/\S4[s]? =some (stC st)/\st.length<=900/\
  ((∃x,cG (n+16) false 439 [.ref p.h,.ref w] S3=some (.ok (.str x),S4)/\∀T:List C,(∀(k:Nat) (c:C),S4[k]? =some c->T[k]? =some c)->∀j:Nat,T[j]? =some (.list [])->eqT T 30 (.tup [.ref p.r,.tup [.int 0,.str x,.tup [.str "NONE"],.int 0,.int 0,.str "",.ref j]]) dv=true)\/
   (∃k f0 f1 f2 f3 f4 f5 f6 f7 f8,S4[k]? =some (.exc mw [f0,f1,f2,f3,f4,f5,f6,f7,f8])/\cG (n+16) false 439 [.ref p.h,.ref w] S3=some (.exc k,S4)/\∀T:List C,(∀(k:Nat) (c:C),S4[k]? =some c->T[k]? =some c)->eqT T 30 (.tup [.ref p.r,.tup [f0,f1,f2,f3,f4,f5,f8]]) dv=true))
section
variable {m w s wh wr:Nat}{S4:List C}{fin iw:Bool}{dv:V}{o5 o14 o15 o16 V5 Tc:Option V}{st:du}{p:HP}{got:V}
theorem O5(h:eqT S 30 (.tup l) dv=true):eg .Eq (.tup l) dv S=some true:=by have:=M0 h;show (match tg .Eq (.tup l) dv with|some c=>some c|none=>Pq (.tup l) dv S)=_;rw [show tg .Eq (.tup l) dv=none by clear h this;cases dv<;>rfl];exact this
theorem Ah(b:Ev cf ls gt e1 S v S1)(a:hM cf ls gt es S1=some (.exc k,S2)):hM cf ls gt (.cons e1 es) S=some (.exc k,S2):=by simp only [rM,b,cP,Fs,a]
theorem LA{a b:Nat}(h:eqT S 30 (.ref a) (.ref b)=true):eg .Eq (.ref a) (.ref b) S=some true:=M0 h
theorem yc(H:bf p 0 st cX S4)(hs:S4[s]? =some (stC st))(b:st.length<=900)(a:eqT S4 30 (.tup [.ref p.r,got]) dv=true):gC (a0 (n+16) false) a9 Sf (iR w m o5 o6 o7 fin wh iw wr s dv o14 o15 o16 (some (.ref p.h)) (some got) Tc) S4=some (.ok (.ret (.bool true)),iR w m o5 o6 o7 fin wh iw wr s dv o14 o15 o16 (some (.ref p.h)) (some got) Tc,S4++[.var (some (.ref p.h)),.dead,stC st]):=by refine bQ (gz (aE (cV (aa (bB (jh H rfl) (ao rfl) (eE H.t (by trivial))) (aa (af rfl) ag)) rfl) (af rfl) (O5 a)) (kR (aE (aM (x:=("_law_stands",792)) (aa (af rfl) ag) (by trivial) (un (n:=n+15) H (aA ‹_› (by decide)))) (af rfl) (LA (BL (vL dN) (vL (aC hs _)) rfl))) (kR (aE (b8 (af rfl) (bD (v:=.int 0) (H.push [.var (some (.ref p.h)),.dead,stC st]).h (by trivial))) (ao rfl) rfl) fU)))
noncomputable abbrev Iv(n:Nat)(m:Nat)(w:Nat)(s:Nat)(wh:Nat)(wr:Nat)(S:List C)(fin:Bool)(iw:Bool)(dv:V)(o5:Option V)(o6:Option V)(o7:Option V)(o14:Option V)(o15:Option V)(o16:Option V)(p0:C):Prop:=∃br S',aT (a0 (n+16) false) a9 US (iR w m o5 o6 o7 fin wh iw wr s dv o14 o15 o16 none none none) S=some (.ok (.ret (.bool true)),br,S')/\S'[0]? =some p0
theorem LB{p0:C}(G:Runs n w s S dv)(D:S[0]? =some p0)(M:p0.cls? =none):Iv n m w s wh wr S fin iw dv o5 o6 o7 o14 o15 o16 p0:=by
 have t:Nx (a0 (n+16) false) a9 (.asg ⟨[.loc 17],none⟩ none (.call 42 o0 .nil)) (iR w m o5 o6 o7 fin wh iw wr s dv o14 o15 o16 none none none) S (iR w m o5 o6 o7 fin wh iw wr s dv o14 o15 o16 (some (.ref S.length)) none none) (S++[kW S.length,.dict [] [],.dict [] [],.dict [] [],.dict [] [],.dict [] []]):=aI (aM (x:=("SmallHost",697)) ag (by trivial) (DZ (n:=n+13))) rfl;have F:ng di (.ref S.length) "write" (S++[kW S.length,.dict [] [],.dict [] [],.dict [] [],.dict [] [],.dict [] []])=some (637,[.ref S.length]):=by have e1:(S++[kW S.length,.dict [] [],.dict [] [],.dict [] [],.dict [] [],.dict [] []])[S.length]? =some (kW S.length):=aY _ _;simp -iota only [rK,V.fQ,bq,e1];rfl
 have z:Nx (a0 (n+16) false) a9 (.exp (.ez (.loc 17) "write" o0 (cA (.cst (.str "m")) (.cst (.str "old"))))) (iR w m o5 o6 o7 fin wh iw wr s dv o14 o15 o16 (some (.ref S.length)) none none) (S++[kW S.length,.dict [] [],.dict [] [],.dict [] [],.dict [] [],.dict [] []]) (iR w m o5 o6 o7 fin wh iw wr s dv o14 o15 o16 (some (.ref S.length)) none none) (S++T7 S.length):=
  fV (fv (af rfl) F (aa (ao rfl) (aa (ao rfl) ag)) (Ag (n:=n+10)))
 have v:Nx (a0 (n+16) false) a9 (.asg ⟨[.attr (.loc 17) "tools"],none⟩ none Lv) (iR w m o5 o6 o7 fin wh iw wr s dv o14 o15 o16 (some (.ref S.length)) none none) (S++T7 S.length) (iR w m o5 o6 o7 fin wh iw wr s dv o14 o15 o16 (some (.ref S.length)) none none) (S++T9 S.length):=by
  have K:hM (a0 (n+16) false) (iR w m o5 o6 o7 fin wh iw wr s dv o14 o15 o16 (some (.ref S.length)) none none) a9 (xy (.glob 58) (.loc 1) (.bw .nil)) (S++T7 S.length)=some (.ok [.glob 799,.ref 1,.ref (S.length+7)],S++T7 S.length++[.list []]):=by refine aa (Il (x:=("_law_run",799)) (by trivial)) (aa (af rfl) (aa ?_ ag));have:=dH (cf:=a0 (n+16) false) (ls:=iR w m o5 o6 o7 fin wh iw wr s dv o14 o15 o16 (some (.ref S.length)) none none) (gt:=a9) (p:=o0) (S1:=S++T7 S.length) ag rfl;rw [de] at this;exact this
  have hd:Ev (a0 (n+16) false) (iR w m o5 o6 o7 fin wh iw wr s dv o14 o15 o16 (some (.ref S.length)) none none) a9 Lv (S++T7 S.length) (.ref (S.length+8)) (S++(T7 S.length++[.list [],vy (Fo S.length 1)])):=by
   have:ev (a0 (n+16) false) (iR w m o5 o6 o7 fin wh iw wr s dv o14 o15 o16 (some (.ref S.length)) none none) a9 Lv (S++T7 S.length)=some (.ok (.ref (S++T7 S.length++[C.list []]).length),S++T7 S.length++[.list []]++[vy (Fo S.length 1)]):=by rw [rN,K];rfl
   simp only [de,ff] at this;exact this
  exact aI hd (vK rfl (by trivial))
 have E:=Lz (S:=S);refine gl λO J=>?_;refine mO (G (S++T9 S.length) (Fo S.length 1) E rfl (bY _ _) (bY _ _) (λk c h=>aC h _)) λb st N o I A i H=>?_;have l0:=(fx D)
 have l:b[0]? =some p0:=I.at_ 0 p0 (aC D _) (by show 0≠S.length+3;exact (succ_ne_zero _).symm) (by show 0≠S.length+7;exact (succ_ne_zero _).symm) M;refine J ?_;rcases H with ⟨x,d,e⟩|⟨k,r,y,g,u,B,j,Q,P,q,a,d,e⟩
 ·have L:(b++[C.list []])[b.length]? =some (.list []):=aY _ _;have f:Nx (a0 (n+16) false) a9 UR (iR w m o5 o6 o7 fin wh iw wr s dv o14 o15 o16 (some (.ref S.length)) none none) (S++T9 S.length) (iR w m o5 o6 o7 fin wh iw wr s dv o14 o15 o16 (some (.ref S.length)) (some (.tup [.int 0,.str x,.tup [.str "NONE"],.int 0,.int 0,.str "",.ref b.length])) none) (b++[.list []]):=
   nD (Y2 (aI (cV (aa (ao rfl) (aa (aM (x:=("run_try",439)) (aa (af rfl) (aa (af rfl) ag)) (by trivial) d) (aa (cV (aa (ao rfl) ag) rfl) (aa (ao rfl) (aa (ao rfl) (aa (ao rfl) (aa (dH ag rfl) ag))))))) rfl) rfl))
  exact gb _ _ (ah t (ah z (ah v (ah f (Y2 (yc (o.push [.list []]) (aC A _) i (e _ (λk c h=>aC h _) _ L))))))) (aC (aC l _) _)
 ·have f:Nx (a0 (n+16) false) a9 UR (iR w m o5 o6 o7 fin wh iw wr s dv o14 o15 o16 (some (.ref S.length)) none none) (S++T9 S.length) (iR w m o5 o6 o7 fin wh iw wr s dv o14 o15 o16 (some (.ref S.length)) (some (.tup [r,y,g,u,B,j,q])) none) b:=by
   refine vw (ls2:=iR w m o5 o6 o7 fin wh iw wr s dv o14 o15 o16 (some (.ref S.length)) (some (.tup [r,y,g,u,B,j,q])) (some (.ref k))) rfl (Y2 (Hm (zW (Ah (ao rfl) (oY (aM (x:=("run_try",439)) (aa (af rfl) (aa (af rfl) ag)) (by trivial) d)))))) ?_;exact Y2 (aI (cV (aa (b8 (af rfl) (bD a (by trivial))) (aa (b8 (af rfl) (bD a (by trivial))) (aa (b8 (af rfl) (bD a (by trivial))) (aa (b8 (af rfl) (bD a (by trivial))) (aa (b8 (af rfl) (bD a (by trivial))) (aa (b8 (af rfl) (bD a (by trivial))) (aa (b8 (af rfl) (bD a (by trivial))) ag))))))) rfl) rfl)
  exact gb _ _ (ah t (ah z (ah v (ah f (Y2 (yc o A i (e _ (λk c h=>h)))))))) (aC l _)
end
theorem D7(st:du)(l:List Str)(a b:Str):Zd st (l.take 2) a b=Zd st l a b:=by
 match l with
 |[]=>rfl
 |[x]=>rfl
 |x::y::r=>rfl
theorem LC(e:En):∀(b:Bool) (hs:List Ha),bU e b (hs.map Ha.cut)=(bU e b hs).map Ha.cut:=by
 intro b c;induction c generalizing b with
 |nil=>exact rfl
 |cons h r a=>have e2:h.cut.aB=h.aB:=rfl;simp -iota only [List.map,dk,(show dT h.cut e=dT h e from rfl),e2,a _];cases ((b||dT h e)&& !aD h.aB "-")<;>rfl
theorem yd(a:Str->En)(hs:List Ha)(st:du):fX a (hs.map Ha.cut) st=fX a hs st:=by
 unfold fX;rw [LC];cases bU (a "body") false hs with
 |none=>rfl
 |some h=>(delta Ha.cut;simp only [Option.map,D7])
theorem LD(a:Str->En)(hs:List Ha)(fin:Bool)(st:du):fY a (hs.map Ha.cut) fin st=fY a hs fin st:=by unfold fY;rw [yd]
theorem LF{e:En}(h:Zk e):gI (gf e)=true:=by
 refine List.all_eq_true.mp xL _ ?_;cases h with
 |pl v d=>
  rename_i k;have:=iT (f:=λk=>gf (qF k v)) d;rw [(show (fy.map λk=>gf (qF k v))=BA.map gf from by trivial)] at this;exact mI _ (pp _ this)
 |er b g=>
  rename_i v a c x;have e1:gf ⟨1,v,c,0,0,a,x⟩=gf ⟨1,En.ge ⟨1,v,c,0,0,a,x⟩,c,0,0,"",x⟩:=by delta gf En.items En.head;rfl
  rw [e1];refine pp _ (iT ?_);refine mem_flatMap.mpr ⟨c,by clear e1 b;cases c<;>simp [Oy],mem_flatMap.mpr ⟨_,b,?_⟩⟩;clear e1 b;rcases g with rfl|rfl
  ·exact .head _
  ·exact .tail _ (.head _)
theorem D8{l e:En}(a:Zk l)(i:Zk e):Zk (l.after e)\/HU (l.after e):=by
 cases a with
 |pl v d=>rw [kT (qo d)];exact .inl (.pl v d)
 |er g h=>
  rename_i v f c x;have b:=LF i;have a:=cZ (aV b);refine .inr ⟨rfl,rfl,qV _ (sR g),?_⟩;clear g;rcases h with rfl|rfl
  ·exact .inr ⟨gf e,a,b,.inl rfl⟩
  ·exact .inr ⟨gf e,a,b,.inr rfl⟩
theorem Iw{l e:En}(a:Zk l)(b:Zk e):oZ (l.after e)/\I9 (l.after e):=by
 refine aQ (D8 a b) (λh=>?_) (λh=>?_)
 ·exact ⟨h.op,h.SY⟩
 ·exact ⟨HV h,BD h⟩
noncomputable def tx(e:En):Prop:=(∃k∈fy,∃v,e=qF k v)\/e.code=1
theorem Zk.O6{e:En}(h:Zk e):tx e:=by
 cases h with
 |pl v a=>exact .inl ⟨_,a,v,rfl⟩
 |er c b=>exact .inr rfl
theorem tx.after{l:En}(h:tx l)(e:En):tx (l.after e):=by
 refine aQ h (λc=>ae c λk a b=>?_) (λh=>?_)
 ·clear c;refine ar b λv d=>?_;clear b;subst d;rw [kT (qo a)];exact .inl ⟨k,a,v,rfl⟩
 ·exact .inr ((En.jI l e).trans h)
theorem tx.zero{e:En}(h:tx e)(a:e.code=0):e=qF (0,0,0) e.value:=by
 refine aQ h (λc=>ae c λk d b=>?_) (λh=>?_)
 ·clear c;refine ar b λv f=>?_;clear b;subst f;have:∀k∈fy,k.1=0->k=(0,0,0):=by decide
  refine (this k d a)▸?_;rfl
 ·replace a:=h▸a;cases a
section
variable {m w s:Nat}{cs:Cs}{p:HP}
noncomputable def ty(bl:List (Str×En))(x:Str):En:=(uz bl x).getD (qF (0,0,0) "")
theorem qp{x:Str}(g:x∈cW bl)(f:∀b∈bl,Zk b.2/\b.2.extra.length<=2):fieldOf (cW bl) (fH bl) x=some (ty bl x).v/\Zk (ty bl x)/\(ty bl x).extra.length<=1000:=by refine gl λj i=>?_;refine ae (x8 g) λe c d=>?_;refine ar d λy h=>?_;clear d;have a:=f _ h;refine i ?_;unfold ty;refine c▸?_;exact ⟨by rw [Im,c];rfl,a.1,aA a.2 (by decide)⟩
theorem BM{st:du}(a:Zk (bk "body"))(g:∀h∈hs,Za h=true->Zk (bk h.aB)):(oZ (fX bk hs st).2.1/\I9 (fX bk hs st).2.1)/\tx (fX bk hs st).2.1:=by
 unfold fX;cases c:bU (bk "body") false hs with
 |none=>exact ⟨⟨a.op,a.SY⟩,a.O6⟩
 |some h=>
  have i:∀(l:List Ha) (b:Bool),bU (bk "body") b l=some h->Za h=true:=λl=>by
   clear c;induction l with
   |nil=>intro b q;exact aG q
   |cons x r e=>
    intro b q;simp -iota only [dk] at q;(revert q;cases _:(b||dT x (bk (PySem.Str.ofString "body")))&& !aD (Internal.Ha.aB x) (PySem.Str.ofString "-");rotate_left;all_goals intro q)
    ·rename_i f;clear e;(replace q:=aw q;subst q);exact (aH f)
    ·exact e _ q
  have d:=g h (nH c) (i hs false c);exact ⟨Iw d a,d.O6.after _⟩
theorem Ix{st:du}{fin:Bool}(a:tx (fX bk hs st).2.1)(b:fin=true->Zk (bk "f")):tx (fY bk hs fin st).2.1:=by
 unfold fY;cases fin with
 |false=>exact a
 |true=>
  show tx (nG bk (fX bk hs st)).2.1;unfold nG;cases decide ((bk "f").code=0) with
  |true=>exact a
  |false=>exact (b rfl).O6.after _
theorem LG(a:Str->En)(hs:List Ha)(fin:Bool)(st:du):(fY a hs fin st).2.2.length<=st.length+8:=by
 have b:(fX a hs st).2.2.length<=st.length+6:=by
  unfold fX;cases bU (a "body") false hs with
  |none=>exact aA (fG _ _) (gD (bY _ _) _)
  |some h=>exact aA (fG _ _) (gD (aA (o8 _ _ _ _) (gD (fG _ _) 2)) 2)
 unfold fY;cases fin with
 |false=>exact aA b (aA (eR _) (eR _))
 |true=>exact aA (fG _ _) (gD ‹_› _)
theorem jk{c:C}(h:S[k]? =some c):k<S.length:=(fx h)
theorem Iy{b:Option Str}{r:Nat}(d:OX m cs bl)(D:cs.length=m)(G:m<=3)(hf:("f":Str)∈cW bl)(o:∀x,b=some x->(x,("finally":Str))∈ma)(y:S[w]? =some (.list ((fZ cs++ph b).map .str)))(I:S[1]? =some (.dict (cW bl) (fH bl)))
 (A:S[r]? =some (.list ((fY (ty bl) (cs.map (·.2)) b.isSome BK).1.map qE))) (hs:S[s]? =some (stC (fY (ty bl) (cs.map (·.2)) b.isSome BK).2.2)):Runs n w s S (.tup [.ref r,(fY (ty bl) (cs.map (·.2)) b.isSome BK).2.1.v]):=by
 intro S3 p H E R Q6 z
 refine ck (qp d.body d.raw) λk0 B k2=>?_
 have K:(fZ cs++ph b).length<=20:=by
  refine de▸?_;refine (Af λc a=>(d.cl c a).1)▸?_;have:(ph b).length<=2:=by clear y A hs;clear o;cases b<;>simp [ph]
  exact pC D G (aA this (by decide)) (by decide)
 have V:∀h∈cs.map (·.2),∃c∈cs,c.2=h:=λh i=>by refine ae (Ap i) λc a e=>?_;exact ⟨c,a,e⟩
 have L:∀h∈cs.map (·.2),aD h.aB "-"=false->h.aB∈cW bl:=λh i f=>by
  refine ae (V h i) λc a t=>?_;subst t;refine aQ (d.sc c a) (λe=>?_) (λe=>?_)
  ·replace f:=e▸f;cases f
  ·exact e
 have UY:∀h∈cs.map (·.2),Za h=true->Zk (ty bl h.aB):=λh i f=>(qp (L h i (by
  unfold Za at f;cases e:aD h.aB "-" with
  |true=>replace f:=e▸f;exact eI f
  |false=>rfl)) d.raw).2.1
 refine aq (BM (st:=BK) B UY) λu eA=>?_;refine aq u λo1 o2=>?_;clear u
 refine ck (qp hf d.raw) λf0 Q W=>?_
 have UZ:cG (n+15) false 406 [.ref w] S3=some (.ok (.tup [.lst ((cs.map (·.2)).map Ha.v),match b.isSome with|true=>.str "f"|false=>.none]),S3):=by rw [(Aa (z _ _ y) (by rfl) (λc a=>(d.cl c a).1) (aA ‹_› (by decide)) (aA (c6 ‹_›) (aA ‹_› (by decide))) o (d.last D))];clear y A hs o K;cases b<;>rfl
 obtain ⟨U,N,M,E4⟩:=z5 H (by decide) (by refine E▸?_;exact cc (fw (jk I) R)) (by refine E▸?_;exact z _ _ I) k0 k2 B.op
  (λh i=>by refine ae (V h i) λc a t=>?_;subst t;exact ⟨OK (d.cl c a).2.1,(d.cl c a).2.2,λf=>by refine ck (qp (L _ i f) d.raw) λa1 a2 a3=>?_;exact ⟨a1,a3,H5 a2 B.op⟩⟩) (by simp;exact ei (pA D G) (by decide)) (z _ _ y) rfl (by simpa using aA K (by decide)) UZ (λ_=>⟨f0,W,H5 Q o1⟩)
 have g:=λk c h a=>M.at_ k c (z k c h) (cc (fw (jk h) R)) (cc (fw (jk h) Q6)) a
 refine Mb U _ _ N M (g _ _ hs rfl) (aA (LG _ _ _ _) (by decide)) ?_
 refine gl λGz P=>?_
 refine ae N.r λl Z hR=>?_
 have O:∀T:List C,(∀(k:Nat) (c:C),U[k]? =some c->T[k]? =some c)->eqT T 29 (.ref p.r) (.ref r)=true:=λT q=>O3 (q _ _ Z) (hR.mono λk ks vs h _=>q _ _ h) (q _ _ (g _ _ A rfl))
 refine aQ E4 (λu=>aq u λJ o=>?_) (λt=>aq t λJ F=>?_)
 ·clear u
  refine P ?_
  refine .inl ⟨_,o,λT q j hj=>O4 (O T q) ?_⟩
  have X:=(Ix eA (λ_=>Q)).zero J
  generalize hv:(fY (ty bl) (cs.map (·.2)) b.isSome BK).2.1=e at *
  refine X▸?_
  show (eqT T 28 (.int 0) (.int 0)&&(eqT T 28 (.str e.value) (.str e.value)&&(eqT T 28 (.tup [.str "NONE"]) (.tup [.str "NONE"])&&(eqT T 28 (.int 0) (.int 0)&&(eqT T 28 (.int 0) (.int 0)&&(eqT T 28 (.str "") (.str "")&&(eqT T 28 (.ref j) (.lst [])&&true)))))))=true
  rw [Zw (d8 hj) rfl rfl,show eqT T 28 (.str e.value) (.str e.value)=true from be.mpr rfl];rfl
 ·clear t;refine ae F λk Y o=>?_;clear F
  refine P ?_
  exact .inr ⟨k,_,_,_,_,_,_,_,_,_,Y,o,λT q=>O4 (O T q) (yb 29 _ (Sj 24 _))⟩
end
section
variable {m w s wr wh:Nat}{cs:Cs}{p:HP}{x:Wr}{fin iw:Bool}{o5:Option V}
theorem D9{W:List V}(a:S3[w]? =some (.list W))(d:2<=W.length)(b:W.length<=1000)(e:cG (n+15) false 406 [.ref w] S3=some (.exc S3.length,S3++[x.c])):cG (n+16) false 439 [.ref p.h,.ref w] S3=some (.exc S3.length,S3++[x.c]):=by refine bI (ds:=[]) (ls0:=[rF p.h,rF w,nF,nF,nF,nF,nF,nF]) (r:=.exc S3.length) (by trivial) (by trivial) (by trivial) Uw (by trivial) ⟨[rF p.h,rF w,nF,nF,nF,nF,nF,nF],?_⟩;exact ah (bF (aE (hU (af rfl) (len_list a b)) (ao rfl) (DN (df (pF d)))) b0) (eD (Hm (aM (x:=("clauses_of",406)) (aa (af rfl) ag) (by trivial) e)) trivial)
noncomputable def BN:Wr:=⟨[],"wrong # args: should be \"try body ?handler ...? ?finally script?\"",["TCL","WRONGARGS"]⟩
theorem vM{x:Str}{a:Addr}{o}(e:cf.fn cf.hd=cG n hd)(d:hM cf ls a9 es S=some (.ok vs,S1))(b:a9[i]? =some (x,a))(c:cG n hd a vs S1=o):ev cf ls a9 (.call i ip es q) S=o:=aM d b (by refine e▸?_;exact c)
theorem O7(x:Wr):eV (S3++[x.c]) S3.length=true:=by simp only [eV,aY,bq];rfl
theorem Iz(a:S3[w]? =some (.list [.str "try"])):cG (n+16) false 439 [.ref p.h,.ref w] S3=some (.exc S3.length,S3++[BN.c]):=by refine bI (ds:=[]) (ls0:=[rF p.h,rF w,nF,nF,nF,nF,nF,nF]) (r:=.exc S3.length) (by trivial) (by trivial) (by trivial) Uw (by trivial) ⟨[rF p.h,rF w,nF,nF,nF,nF,nF,nF],?_⟩;exact eD (cn (aE (hU (af rfl) (len_list a (by decide))) (ao rfl) (by trivial)) (Y2 (Br rfl (vM (x:="wrong_args") (n:=n+15) rfl (aa (gd (bB (af rfl) (ao rfl) (eG a rfl (by decide))) (ao rfl) (by trivial)) ag) (by trivial) (DV (n+10) S3)) (O7 BN)))) trivial
noncomputable def IA(r:Nat)(x:Wr):V:=.tup [.ref r,.tup [.int 1,.str x.why,x.DU,.int 0,.int 0,.str "",.ref (r+1)]]
theorem sX(d:∀(S3:List C) (p:HP),(∀(k:Nat) (c:C),S[k]? =some c->S3[k]? =some c)->cG (n+16) false 439 [.ref p.h,.ref w] S3=some (.exc S3.length,S3++[x.c])){r:Nat}(f:S[r]? =some (.list []))(i:S[r+1]? =some (.list []))(hs:S[s]? =some (stC BK)):Runs n w s S (IA r x):=by
 intro S3 p H m q o a;refine ⟨S3++[x.c],BK,[],H.push _,Fr.push _ _ _,aC (a _ _ hs) _,by decide,.inr ⟨S3.length,_,_,_,_,_,_,_,_,_,aY _ _,d S3 p a,λT b=>O4 ?_ ?_⟩⟩
 ·refine ae H.r λl e g=>?_;cases g;exact Zw (d8 (b _ _ (aC e _))) rfl (d8 (b _ _ (aC (a _ _ f) _)))
 ·have j:eqT T 28 x.DU x.DU=true:=by
   refine yb 28 _ ?_;show List.all (x.ec.map V.str) (Lx 27)=true;rw [List.all_map,List.all_eq_true];intro y _;rfl
  show (eqT T 28 (.int 1) (.int 1)&&(eqT T 28 (.str x.why) (.str x.why)&&(eqT T 28 x.DU x.DU&&(eqT T 28 (.int 0) (.int 0)&&(eqT T 28 (.int 0) (.int 0)&&(eqT T 28 (.str "") (.str "")&&(eqT T 28 (.lst []) (.ref (r+1))&&true)))))))=true
  rw [j,Zw rfl rfl (d8 (b _ _ (aC (a _ _ i) _))),show eqT T 28 (.str x.why) (.str x.why)=true from be.mpr rfl];rfl
theorem Ea(n:Nat)(hd:Bool)(S:List C):((range 13).map λj=>cG (n+2) hd 770 [.int (j:Nat)] S)=(range 13).map λj=>some (.ok (.tup [aX (c9.getD j ⟨[],"",[]⟩).more,.str (c9.getD j ⟨[],"",[]⟩).why,(c9.getD j ⟨[],"",[]⟩).DU]),S++[]):=by trivial
theorem IB(h:j<13):c9.getD j ⟨[],"",[]⟩∈c9:=by
 have:∀j∈range 13,c9.getD j ⟨[],"",[]⟩∈c9/\(c9.getD j ⟨[],"",[]⟩).more.length<=6:=by
  intro j b;have a:j<c9.length:=(mem_range.mp b)
  refine (eh)▸?_;refine (d9 a)▸?_;refine ⟨getElem_mem a,?_⟩;have:∀x∈c9,x.more.length<=6:=by decide
  exact this _ (getElem_mem a)
 exact (this j (mem_range.mpr h)).1
theorem IC:∀x∈c9,x.more.length<=6:=by decide
noncomputable abbrev LH(n:Nat)(m:Nat)(w:Nat)(s:Nat)(wr:Nat)(wh:Nat)(S:List C)(fin:Bool)(iw:Bool)(o5:Option V)(o6:Option V)(o7:Option V):Prop:=∃w' dv S' o14 o15 o16,Nx (a0 (n+16) false) a9 UQ (mA w m o5 o6 o7 fin wh iw wr s none) S (iR w' m o5 o6 o7 fin wh iw wr s dv o14 o15 o16 none none none) S'/\Runs n w' s S' dv/\S'[0]? =S[0]?
theorem ZG(t:m<=3)(Sh:wh<3)(Si:wr<14)(D:Dr m cs bl w s S):LH n m w s wr wh S fin iw o5 o6 o7:=by
 have v:=Af λc d=>(D.ok.cl c d).1;have l0:0<S.length:=by obtain ⟨p,h⟩:=D.Ad;exact jk h
 have ls:=jk D.st;have u:=D.len;refine gl λGz A=>?_;cases iw with
 |false=>
  obtain ⟨F,Yn,R,G,T,K,E,hT⟩:∃F:Option Str,F.isSome=fin/\(∀x,F=some x->(x,("finally":Str))∈ma)/\∃G T,Nx (a0 (n+16) false) a9 (.asg ⟨[.loc 2],none⟩ none (.kA (.loc 2) (.ite (.loc 8) (.bw Lu) (.bw .nil)))) (mA w m o5 o6 o7 fin wh false wr s none) S (mA G m o5 o6 o7 fin wh false wr s none) (S++T)/\(S++T)[G]? =some (.list ((fZ cs++ph F).map .str))/\True:=by
   cases fin with
   |false=>
    refine ⟨none,rfl,(λx h=>aG h),S.length+1,[.list [],.list ((fZ cs++ph none).map .str)],?_,dN,trivial⟩;have a:=nQ (S:=S++[.list []]) (d8 (aC D.words _)) (d8 (aY _ _)) (by simp [v];exact pB u t (by decide));rw [de,ff] at a;have e:(fZ cs).map V.str++[]=(fZ cs++ph none).map .str:=by simp [ph]
    replace a:=e▸a;exact aI (sW (af rfl) (iP (af rfl) (dH ag rfl)) a) rfl
   |true=>
    obtain ⟨x,R,g,ix⟩:∃x,(["finally","f","fina"]:List Str)[wh]? =some x/\(x,("finally":Str))∈ma/\∀S':List C,S'[S.length]? =some (.list [.str "finally",.str "f",.str "fina"])->lB (.ref S.length) (.int wh) S'=some (.str x):=by
     match wh,Sh with
     |0,_=>exact ⟨"finally",rfl,by decide,λS' h=>eG h rfl (by decide)⟩
     |1,_=>exact ⟨"f",rfl,by decide,λS' h=>eG h rfl (by decide)⟩
     |2,_=>exact ⟨"fina",rfl,by decide,λS' h=>eG h rfl (by decide)⟩
    refine ⟨some x,rfl,λy h=>by (replace h:=aw h;subst h);exact g,S.length+2,[.list [.str "finally",.str "f",.str "fina"],.list [.str x,.str "f"],.list ((fZ cs++ph (some x)).map .str)],?_,dN,trivial⟩;have a:=nQ (S:=S++[.list [.str "finally",.str "f",.str "fina"],.list [.str x,.str "f"]]) (b:=.ref (S.length+1)) (d8 (aC D.words _)) (d8 dN) (by simp [v];exact pB u t (by decide));rw [de,ff] at a;have e:(fZ cs).map V.str++[.str x,.str "f"]=(fZ cs++ph (some x)).map .str:=by simp [ph]
    replace a:=e▸a;have l1:Ev (a0 (n+16) false) (mA w m o5 o6 o7 true wh false wr s none) a9 (.bw Lu) S (.ref (S.length+1)) (S++[.list [.str "finally",.str "f",.str "fina"],.list [.str x,.str "f"]]):=by have:=dH (p:=o0) (es:=Lu) (aa (bB (dH (cf:=a0 (n+16) false) (ls:=mA w m o5 o6 o7 true wh false wr s none) (gt:=a9) (aa (ao rfl) (aa (ao rfl) (aa (ao rfl) ag))) rfl) (af rfl) (ix _ (aY _ _))) (aa (ao rfl) ag)) rfl;rw [de,ff] at this;exact this
    exact aI (sW (af rfl) (oQ (af rfl) l1) a) rfl
  have W:=aC D.book T;refine ck (qp D.ok.body D.ok.raw) λk0 H k2=>?_;refine ck (qp D.f D.ok.raw) λf0 f1 f2=>?_;have qy:∀h∈(cs.map (·.2)).map Ha.cut,∃c∈cs,c.2.cut=h:=λh o=>by refine gl λGz A=>?_;refine ae (Ap o) λh' Yo e=>?_;refine ae (Ap Yo) λc d e'=>?_;refine A ?_;exact ⟨c,d,by (refine e'▸?_;exact e▸rfl)⟩
  have P:∀c∈cs,aD c.2.aB "-"=false->c.2.aB∈cW bl:=λc d l=>by
   refine aQ (D.ok.sc c d) (λe=>?_) (λe=>?_)
   ·replace l:=e▸l;cases l
   ·exact e
  have UY:∀h∈cs.map (·.2),Za h=true->Zk (ty bl h.aB):=λh o l=>by
   refine ae (Ap o) λc d z=>?_;subst z;refine (qp (P c d ?_) D.ok.raw).2.1;unfold Za at l;cases e:aD c.2.aB "-" with
   |true=>replace l:=e▸l;exact eI l
   |false=>rfl
  refine aq (BM (st:=BK) H UY) λz eA=>?_;refine aq z λo1 o2=>?_;clear z;have Sl:∀j,j<((cs.map (·.2)).map Ha.cut).length->((((cs.map (·.2)).map Ha.cut).drop j).find? Za).isSome=true:=λj k=>by
   rw [find?_isSome];have J:cs.map (·.2)≠ []:=by intro e;replace k:=e▸k;simp at k
   refine ar (ER (getLast?_isSome.mpr J)) λh o=>?_;have Yp:j<(cs.map (·.2)).length:=by simpa using k
   refine ⟨h.cut,?_,(D.ok.last D.len h o)⟩;have h1:((cs.map (·.2)).map Ha.cut)[(cs.map (·.2)).length - 1]? =some h.cut:=by (refine (hZ)▸?_;refine (aS (getLast?_eq_getElem?))▸?_;refine o▸?_);rfl
   refine dP (i:=(cs.map (·.2)).length - 1 - j) ?_;rw [getElem?_drop,show j+((cs.map (·.2)).length - 1 - j)=(cs.map (·.2)).length - 1 by exact uF (le_sub_one_of_lt Yp),h1]
  obtain ⟨r,S2,hd,Y,Q,YX,I⟩:=Ox (n:=n+2) (fin:=fin) W (aC D.st T) (by rw [aC D.hs T,List.map_map,List.map_map];rfl) D.sb (by decide) (by simp;exact pA u t) k0 H.SY Sl
   (λh o=>by refine ae (qy h o) λc d z=>?_;subst z;refine ⟨KY (D.ok.cl c d).2.1,by show (c.2.names.take 2).length<=2;refine length_take▸?_;exact Nat.min_le_left _ _,λl=>?_⟩;refine ck (qp (P c d l) D.ok.raw) λa1 a2 a3=>?_;exact ⟨a1,H6 a2 H.SY⟩) (λ_=>⟨f0,by rw [yd];exact H6 f1 o2⟩)
  rw [LD] at hd Y Q;subst Yn;have lT:S.length<=(S++T).length:=by simp
  refine A ?_;refine ⟨G,_,S2,none,none,none,bF (gz (af rfl) sG) (Y2 (bF (af rfl) (ah K (Y2 (aI (aM (x:=("_law_due",787)) (aa (af rfl) (aa (af rfl) (aa (af rfl) (aa (af rfl) ag)))) (by trivial) hd) rfl))))),Iy D.ok D.len t D.f R (I _ _ E (λe=>?_)) (I _ _ W D.sb.symm) Y Q,?_⟩
  ·subst e;replace E:=(aC D.st T)▸E;cases E
  ·refine ar D.Ad λp g=>?_;refine g▸?_;exact I _ _ (aC g T) (λe=>by have h:=D.st;replace h:=(aS e)▸h;replace h:=g▸h;unfold bu stC at h;cases h)
 |true=>
  by_cases M:wr=13
  ·subst M;have K:Nx (a0 (n+16) false) a9 (.asg ⟨[.loc 2,.loc 13],some (0,o0)⟩ (some [2,13]) O1) (mA w m o5 o6 o7 fin wh true 13 s none) S (iR S.length m o5 o6 o7 fin wh true 13 s (IA (S.length+1) BN) none none none none none none) (S++[.list [.str "try"],.list [],.list []]):=by
    have O:Ev (a0 (n+16) false) (mA w m o5 o6 o7 fin wh true 13 s none) a9 O1 S (.tup [.ref S.length,IA (S.length+1) BN]) (S++[.list [.str "try"],.list [],.list []]):=by
     have l1:∀{q:Pos} {T:List C} {j:Nat},T.length=j->Ev (a0 (n+16) false) (mA w m o5 o6 o7 fin wh true 13 s none) a9 (.bw .nil q) (S++T) (.ref (S.length+j)) (S++(T++[.list []])):=λ{q T j} k=>by have:=dH (cf:=a0 (n+16) false) (ls:=mA w m o5 o6 o7 fin wh true 13 s none) (gt:=a9) (p:=q) (S1:=S++T) ag rfl;rw [de,ff,k] at this;exact this
     exact cV (aa (dH (aa (ao rfl) ag) rfl) (aa (cV (aa (l1 rfl) (aa (cV (aa (ao rfl) (aa (ao rfl) (aa (cV (aa (ao rfl) (aa (ao rfl) ag)) rfl) (aa (ao rfl) (aa (ao rfl) (aa (ao rfl) (aa (l1 rfl) ag))))))) rfl) ag)) rfl) ag)) rfl
    exact aI O rfl
   refine A ?_;refine ⟨S.length,_,_,none,none,none,cn (gz (af rfl) (kR (aE (af rfl) (ao rfl) rfl) fU)) (Y2 K),sX (λS3 p N=>Iz (N _ _ (aY _ _))) dN (dN (i:=2)) (aC D.st _),?_⟩;refine ar D.Ad λp g=>?_;refine g▸?_;exact aC g _
  ·have k:wr<13:=by exact Nat.lt_of_le_of_ne (n5 Si) M
   have Z:=(eN (Ea (n+14) false S) wr (mem_range.mpr k))
   have X:=IB k;refine A ?_;generalize c9.getD wr ⟨[],"",[]⟩=x at *;rw [dA] at Z;have L:=IC x X;have x2:Nx (a0 (n+16) false) a9 (.asg ⟨[.loc 2,.loc 13],some (0,o0)⟩ (some [2,13]) O2) ((mA w m o5 o6 o7 fin wh true wr s none).take 14++[some (aX x.more),sF x.why,some x.DU,nF,nF,nF]) S (iR S.length m o5 o6 o7 fin wh true wr s (IA (S.length+1) x) (some (aX x.more)) (some (.str x.why)) (some x.DU) none none none) (S++[.list ((fZ cs++x.more).map .str),.list [],.list []]):=by
    have a:=nQ (b:=aX x.more) (d8 D.words) rfl (by simp [v];exact aA (add_le_add (pB u t (cJ 14)) L) (by decide));replace a:=(aS j7)▸a;have O:Ev (a0 (n+16) false) ((mA w m o5 o6 o7 fin wh true wr s none).take 14++[some (aX x.more),sF x.why,some x.DU,nF,nF,nF]) a9 O2 S (.tup [.ref S.length,IA (S.length+1) x]) (S++[.list ((fZ cs++x.more).map .str),.list [],.list []]):=by
     have l1:∀{q:Pos} {T:List C} {j:Nat},T.length=j->Ev (a0 (n+16) false) ((mA w m o5 o6 o7 fin wh true wr s none).take 14++[some (aX x.more),sF x.why,some x.DU,nF,nF,nF]) a9 (.bw .nil q) (S++T) (.ref (S.length+j)) (S++(T++[.list []])):=λ{q T j} k=>by have:=dH (cf:=a0 (n+16) false) (ls:=(mA w m o5 o6 o7 fin wh true wr s none).take 14++[some (aX x.more),sF x.why,some x.DU,nF,nF,nF]) (gt:=a9) (p:=q) (S1:=S++T) ag rfl;rw [de,ff,k] at this;exact this
     exact cV (aa (sW (af rfl) (af rfl) a) (aa (cV (aa (l1 rfl) (aa (cV (aa (ao rfl) (aa (af rfl) (aa (af rfl) (aa (ao rfl) (aa (ao rfl) (aa (ao rfl) (aa (l1 rfl) ag))))))) rfl) ag)) rfl) ag)) rfl
    exact aI O rfl
   refine ⟨S.length,_,_,_,_,_,bF (gz (af rfl) (kR (aE (af rfl) (ao rfl) (fW (by exact λe=>M (Int.ofNat.inj e)))) fU)) (Y2 (cn (af rfl) (ah (aI (aM (x:=("_law_wrong",770)) (aa (af rfl) ag) (by trivial) Z) rfl) (Y2 x2)))),sX (λS3 p N=>?_) dN (dN (i:=2)) (aC D.st _),?_⟩
   ·have U:=N _ _ (aY (C.list ((fZ cs++x.more).map .str)) [.list [],.list []]);have B:(fZ cs++x.more).length<=50:=by (refine de▸?_;refine v▸?_);exact pC u t L (by decide)
    exact D9 U (by simp [v];exact aA (bY 2 _) (bY _ _)) (by simp [v];exact aA (add_le_add (pB u t (cJ 14)) L) (by decide)) (Ig (a:="try") (b:="body") U X (λc d=>(D.ok.cl c d).1) (pA u t) (by simp [fZ]) (aA B (by decide)))
   ·refine ar D.Ad λp g=>?_;refine g▸?_;exact aC g _
theorem O8{p:Int×List Int}(d:S[k]? =some (bu p))(f:p.2.length<=100):∃p',cG (n+17) false 806 [.ref k] S=some (.ok (.bool true),S.set k (bu p')):=by
 refine gl λx j=>?_;obtain ⟨m,cs,bl,w,o5,o6,o7,fin,wh,iw,wr,s,S1,e,l,q,D,step⟩:=Lw f;refine PK (ZG (n:=n) (o5:=o5) (o6:=o6) (o7:=o7) (fin:=fin) (iw:=iw) e l q D) λy u S2 o14 o15 o16 t g b=>?_;refine ar D.Ad λp' h=>?_;refine bd (LB (m:=m) (o5:=o5) (o6:=o6) (o7:=o7) (fin:=fin) (wh:=wh) (iw:=iw) (wr:=wr) (o14:=o14) (o15:=o15) (o16:=o16) g (b.trans h) rfl) λbr S3 o a=>?_;cases S3 with
 |nil=>exact aG a
 |cons c T=>have:=aw a;subst this;refine j ?_;refine ⟨p',cq (i:=96) (by trivial) (jC (vs':=[.ref 0]) (aK:=T) (v:=.bool true) rfl (by simp only [bH,bz,eW,b9]) d (kU _) ?_ rfl (kU _) rfl)⟩;exact bC (ds:=[]) (r:=.ok (.ret (.bool true))) (by trivial) (step _ (ah t o))
end
noncomputable def kX:List (List Int):=[[2,0,1,0,3,0,0,1,0,0,0,0,0,1,1,1,2,2,1,0,0,0,0,0,3,3,0,0,3,1,4,1,1,0,4,2,0,2,0,0],[0,0,0,1,2,0,1,1,0,0,0,0,0,0,0,8,1,0,1,0,0,0,3,1,1,0,0,0,4,0,0],[5,1,1,0,2,1,0,0,0,0,0,0,0,0,0,2,4,0,0,6,0,0,0,1,2,1,0,0,0,0,0],[3,2,0,2,1,1,2,1,0,0,0,0,0,0,1,0,5,0,0,3,0,0],[4,3,5,1,1,1,1,1,0,1,2,5,2,0,0,0,0,0,0,0,0,0],[0,0,0,0,1,0,0,0,0,0,0,0,0,0,0,0,0,0,0,0,4,0]]
theorem ID(n:Nat)(hd:Bool)(S:List C):cG (n+1) hd 713 [] S=some (.ok (.lst (kX.map λl=>.lst (l.map .int))),S++[]):=by trivial
theorem IE:∀l∈kX,l.length<=100:=by decide
noncomputable abbrev BO:dL:=(dO (.ifs (.nt (.call 59 o0 (cN (.kA (.bw (cN (.bin .Mod (.bi .sum o0 (.vQ (.loc 0) (.loc 1) (.cst .none) (.cst (.int 6)) (true,false,true))) (.bin .Pow (.cst (.int 10)) (.cst (.int 40)))))) (.loc 2))))) (dO (.ret (.cst (.bool false)))) .nil))
theorem Yr:(zB 97)=(nE (.fr ⟨[.loc 1,.loc 2],some (0,o0)⟩ (.C9) (.call 44 o0 .nil) BO) (.ret (.cst (.bool true)))):=by trivial
theorem LI:∀l:List V,(∀v∈l,∃i,v=.int i)->∃is,Zm l=some is:=by
 intro b;induction b with
 |nil=>intro d;exact ⟨[],rfl⟩
 |cons v r a=>
  intro h;refine ar (h v gJ) λi c=>?_;subst c;refine ar (a λv hv=>h v (.tail _ hv)) λis e=>?_;refine ⟨i::is,?_⟩;simp only [Ck,e];rfl
theorem Eb(l:List Int)(lo b st:Option Int):∀v∈kf (l.map .int) lo b st,∃i,v=.int i:=λv hv=>by
 unfold kf at hv;refine ae (mem_filterMap.mp hv) λj _ a=>?_;replace a:=(hZ)▸a;cases h:l[j]? with
 |none=>replace a:=h▸a;exact aG a
 |some i=>replace a:=h▸a;exact ⟨i,(aw a).symm⟩
section
variable {l:List Int}
theorem O9(a:l.length<=1000)(t:Int):∃s,kg (.lst (l.map .int)) (.int t) .none (.int 6) S=some (.lst (kf (l.map .int) (some t) none (some 6)))/\uO false .sum (.lst (kf (l.map .int) (some t) none (some 6))) S=some (.int s,S):=by
 refine ar (LI _ (Eb l (some t) none (some 6))) λis e=>?_;refine ⟨preSum (λj=>is.getD j 0) is.length,?_,?_⟩
 ·skip;delta kg uK V.fg V.gh cC V.v0;dsimp only;(simp -iota only [bq,fA (show (l.map V.int).length<=65536 by simp;exact aA ‹_› (by decide))];rfl)
 ·have:Fq (.lst (kf (l.map .int) (some t) none (some 6))) S=some (.int (preSum (λj=>is.getD j 0) is.length)):=by
   delta Fq cC V.v0;dsimp only;rw [bq,e];rfl
  simp only [ND,(show Jw .sum (.lst (kf (l.map .int) (some t) none (some 6))) S=none from rfl),this,Option.map]
theorem Sm{a:Int}:∃b,mm .Mod (.int a) (.int (10 ^ 40)) S=some (.int b):=⟨a.fmod (10 ^ 40),by trivial⟩
theorem IF(e:l.length<=1000){t:Int}{c:List Int}(m:c.length<=100):∃b p',aT (a0 (n+17) false) a9 BO [some (.lst (l.map .int)),iF t,some (.lst (c.map .int))] S=some (.ok .cY,[some (.lst (l.map .int)),iF t,some (.lst (c.map .int))],(S++[.list [.int b],bu (b,c)]).set (S.length+1) (bu p')):=by
 refine gl λo i=>?_;refine ae (O9 (S:=S) e t) λs j d=>?_;refine ar (Sm (S:=S) (a:=s)) λb f=>?_;have a:=nQ (S:=S++[.list [.int b]]) (b:=.lst (c.map .int)) (d8 (aY _ _)) rfl (by simp;exact aA (eP ‹_› _) (by decide));rw [de,ff] at a;refine ar (O8 (n:=n) (S:=S++[.list [.int b],bu (b,c)]) (k:=S.length+1) dN m) λp' g=>?_;have h:Ev (a0 (n+17) false) [some (.lst (l.map .int)),iF t,some (.lst (c.map .int))] a9 (.bin .Mod (.bi .sum o0 (.vQ (.loc 0) (.loc 1) (.cst .none) (.cst (.int 6)) (true,false,true))) (.bin .Pow (.cst (.int 10)) (.cst (.int 40)))) S (.int b) S:=by exact gd (hU (MU (af rfl) (af rfl) (ao rfl) (ao rfl) j) d) (gd (ao rfl) (ao rfl) (by trivial)) f
 refine i ?_;exact iX b p' (Y2 (bF (DG (vM (x:="_law_try_is_right") rfl (aa (sW (dH (aa h ag) rfl) (af rfl) a) ag) (by trivial) g)) b0))
theorem IG(p:l.length<=1000):∀(a pre:List (List Int)),kX=pre++a->∀(S:List C) (e f:Option V) (N:Nat),S[k]? =some (.enum (.lst (kX.map λl=>.lst (l.map .int))) pre.length)->a.length<N->
 ∃i j S',fk (λls S=>aT (a0 (n+17) false) a9 BO ls S) (λv ls S=>jc (a0 (n+17) false) a9 ⟨[.loc 1,.loc 2],some (0,o0)⟩ v ls S) true k N [some (.lst (l.map .int)),e,f] S=some (.ok .cY,[some (.lst (l.map .int)),i,j],S'):=by
 intro r
 induction r with
 |nil=>
  intro pre c S e f N d w
  cases N with
  |zero=>exact absurd w (et _)
  |succ N=>
   have h:(kX.map λl=>V.lst (l.map .int))[pre.length]? =none:=by rw [c];simp
   exact ro e f _ (ln d h)
 |cons t a g=>
  intro pre c S e f N d m
  cases N with
  |zero=>exact absurd m (et _)
  |succ N=>
   have h:(kX.map λl=>V.lst (l.map .int))[pre.length]? =some (.lst (t.map .int)):=by rw [c];simp
   have x:=IE t (by rw [c];simp)
   have o:=ca (c':=C.enum (.lst (kX.map λl=>.lst (l.map .int))) (pre.length+1)) d
   generalize q:S.set k (.enum (.lst (kX.map λl=>.lst (l.map .int))) (pre.length+1))=S1 at *
   refine dZ (IF (n:=n) (S:=S1) (t:=(pre.length:Int)) p x) λb s y=>?_
   have u:=jk o
   refine jT (g (pre++[t]) (by rw [c];simp) ((S1++[.list [.int b],bu (b,t)]).set (S1.length+1) (bu s)) (some (.int pre.length)) (some (.lst (t.map .int))) N (by rw [de];exact az (aC o _) (g2 (pr u))) (by simpa using m)) λi j S' g=>?_
   exact ro i j S' (jK d h (by rw [q];rfl) y g)
theorem Pa(b:l.length<=1000):∃S',cG (n+18) false 813 [.lst (l.map .int)] S=some (.ok (.bool true),S'):=by
 refine gl λi d=>?_;refine jT (IG (n:=n) b kX [] rfl (S++[.enum (.lst (kX.map λl=>.lst (l.map .int))) 0]) none none 5000 (aY _ _) (by decide)) λf h S' e=>?_;have g:Nx (a0 (n+17) false) a9 (.fr ⟨[.loc 1,.loc 2],some (0,o0)⟩ (.C9) (.call 44 o0 .nil) BO) [some (.lst (l.map .int)),none,none] S [some (.lst (l.map .int)),f,h] S':=by have a:=ID (n+16) false S;rw [dA] at a;exact vB (c:=.enum (.lst (kX.map λl=>.lst (l.map .int))) 0) (vM (x:="_law_told") (n:=n+17) rfl ag (by trivial) a) rfl e
 refine d ?_;refine ⟨S',bI (ds:=[]) (by trivial) (by trivial) (by trivial) Yr (by trivial) ⟨_,ah g (Y2 (bQ (ao rfl)))⟩⟩
end
theorem yg.less(h:yg d' F A)(hd:d<=d'):yg d F A:=
 ⟨h.frames,ei (eP hd _) h.depth,ei (by have:=hd;exact gD (eP (mul_le_mul_left 8 hd) _) _) h.units,h.kinds,h.outs,h.hand⟩
theorem vP.more{X:Cx}{a:Addr}(h:vP X d a f)(hd:d<=d'):vP X d' a f:=
 λF A b c=>h F A b (c.less hd)
noncomputable def D2:g9:={defAt 2 with body:=.cons (.raw ((aZ.getD 2 ce).2.1.headD (.Pass ⟨0,0,0,0⟩))) (defAt 2).body.rest}
structure Pb (X:Cx):Prop where
 top:iA X
 tab:xg X a9
 mt:∀b C n a,di b C n=some a->rP b X.K C n a
 keep:∀a k,Y8 kinds a=some k->keepIn X.K (.ref a)=true
 fn:∀a i l,Y8 kinds a=some (.fn i l)->FnAt X a (defAt i)/\xf (defAt i)
 cls:∀a i l,Y8 kinds a=some (.cls i l)->makesIn X.K a=true/\∃fI,findIn X.K (.ref a) "__init__"=some (some (.ref fI))/\typeIn X.K (.ref fI)=some (.type "function")/\FnAt X fI (defAt i)/\xf (defAt i)
 exc:∃fI,FnAt X fI D2/\xf D2/\ExcInit X.base fI
 Sn:X.mg "Exception"=Option.none/\X.mb "Exception"=some (.type "Exception")
theorem pk{X:Cx}{a:Addr}{l:Bool}(h:vP X d a f):vP X d a (λhd=>loc l f hd):=by
 cases l with
 |true=>exact xd h
 |false=>exact h
theorem IH:Bm D2 (defAt 2).body.rest.rest:=
 ⟨⟨⟨17,8,17,39⟩,⟨17,8,17,39⟩,⟨17,8,17,17⟩,⟨17,8,17,26⟩,⟨17,27,17,31⟩,⟨17,33,17,38⟩,⟨18,8,18,12⟩,⟨18,8,18,17⟩,⟨18,20,18,24⟩,⟨18,8,18,24⟩,by trivial,by trivial⟩,⟨"self","code","value",["errorcode","level","ret"],by trivial⟩,by trivial,by decide+kernel,by trivial,by trivial,by trivial,by trivial,by trivial⟩
theorem jN{a:Addr}{k:Kd}:∀{l:List (Addr×Kd)},Y8 l a=some k->(a,k)∈l:=by
 intro c;induction c with
 |nil=>intro h;exact aG h
 |cons p r b=>
  intro h;simp -iota only [DB] at h;(revert h;cases _:beq (Prod.fst p) a;rotate_left;all_goals intro h)
  ·rename_i e;rw [<-aw h,<-c5 e];exact .head _
  ·exact .tail _ (b h)
noncomputable def So:Addr×Kd->Bool
 |(a,.exc i)=>beq a 84&&beq i 2
 |_=>true
theorem II{a:Nat}(h:Y8 kinds a=some (.exc i)):a=bL/\i=2:=by have:=List.all_eq_true.mp (show kinds.all So=true by trivial) _ (jN h);refine aq (nU this) λc b=>?_;exact ⟨c5 c,c5 b⟩
theorem Ed{X:Cx}(T:Pb X):∀(n:Nat) (b:Bool) (a:Addr) (vs:List V) (S:List C) (r:Rs V) (S':List C),cG n b a vs S=some (r,S')->keepIn X.K (.ref a)=true/\∃f,vP X (2 * n) a f/\f b vs S=some (r,S'):=by
 have g:∀n,(∀b a vs S r S',(ul 5000 n).1 b a vs S=some (r,S')->keepIn X.K (.ref a)=true/\∃f,vP X (2 * n) a f/\f b vs S=some (r,S'))/\(∀b a vs S r S',(ul 5000 n).2 b a vs S=some (r,S')->keepIn X.K (.ref a)=true/\∃f,vP X (2 * n) a f/\f b vs S=some (r,S')):=by
  intro n;induction n with
  |zero=>exact ⟨(λb a vs S r S' h=>aG h),(λb a vs S r S' h=>aG h)⟩
  |succ n m=>
   refine ⟨λb a vs S r S' h=>?_,λb a vs S r S' h=>?_⟩
   ·have h:Zz 5000 (ul 5000 n).1 (ul 5000 n).2 b a vs S=some (r,S'):=h;rw [nB] at h;refine gl λq p=>?_;(revert h;clear h;cases _:Y8 Internal.kinds a;all_goals (intro h;dsimp only at h))
    ·exact aG h
    ·rename_i k o;refine p ?_;refine ⟨T.keep a k o,?_⟩;(revert h;cases k;all_goals (intro h;dsimp only at h))
     ·rename_i i l;refine aq (T.fn a i l o) λe d=>?_;exact ⟨_,(pk (sD T.top e d T.tab T.mt m.1).Xa).more (eR _),h⟩
     ·rename_i i l;refine gl λq p=>?_;refine aq (T.cls a i l o) λe c=>?_;refine gK c λs d j u v=>?_;clear c;refine p ?_;exact ⟨_,(pk (zH T.top e d j (sD T.top u v T.tab T.mt m.2))).more (cJ _),h⟩
     ·rename_i i;refine aq (II o) λc t=>?_;subst c;subst t;refine bc T.exc λs e d j=>?_;exact ⟨_,(pk (Dx T.top e d T.tab T.mt m.2 j T.Sn IH)).more (cJ _),h⟩
   ·refine aq (m.1 b a vs S r S' h) λe c=>?_;refine ae c λf d j=>?_;clear c;exact ⟨e,f,d.more (bY _ _),j⟩
 intro n;exact (g n).1
theorem Ee{a:Addr}:∀{l:List Addr},(l.filterMap λa=>(h.get? a).map λo=>(a,o)).lookup a=some o->h.get? a=some o:=by
 intro f;induction f with
 |nil=>intro e;exact aG e
 |cons b l d=>
  intro e;rw [filterMap_cons] at e;cases c:h.get? b with
  |none=>rw [c] at e;exact d e
  |some g=>
   rw [c] at e;rw [Option.map,List.lookup] at e;(revert e;cases _:a==b;rotate_left;all_goals (intro e;dsimp only at e))
   ·rename_i q;cases e;refine (beq_iff_eq.mp q)▸?_;exact c▸rfl
   ·exact d e
theorem IJ(h:Heap):(BU h).In h:=λa o e=>Ee e
theorem IK(k:∀b o,h.get? b=some o->h'.get? b=some o):∀{l:List Addr},(∀a∈l,(h.get? a).isSome=true)->(l.filterMap λa=>(h'.get? a).map λo=>(a,o))=l.filterMap λa=>(h.get? a).map λo=>(a,o):=by
 intro g;induction g with
 |nil=>intro i;exact rfl
 |cons a l d=>
  intro e;refine ar (ER (e a gJ)) λo c=>?_;refine filterMap_cons▸?_;refine filterMap_cons▸?_;refine c▸?_;refine (k a o c)▸?_;exact (d λb f=>e b (.tail _ f))▸rfl
theorem Ef(k:∀b o,h.get? b=some o->h'.get? b=some o)(e:Ja h=true):BU h'=BU h/\Ja h'=true:=
 ⟨IK k (List.all_eq_true.mp e),List.all_eq_true.mpr λa d=>by refine ar (ER (List.all_eq_true.mp e a d)) λo c=>?_;refine (k a o c)▸?_;rfl⟩
theorem IL{K:Frag}{a:Addr}:
 yn K a name=
  match List.lookup a K with
  |some o=>
   match Obj.data o with
   |Data.dict es b=>nsFind es name
   |x=>none
  |none=>none:=by rfl
theorem IM{K:Frag}:
 Zy K fd=
  match FuncData.code fd with
  |Value.ref c=>
   match List.lookup c K with
   |some o=>
    match Obj.data o with
    |Data.fields vs=>
     match vs[1]? with
     |some (Value.str q a)=>q==FuncData.qualname fd
     |x=>false
    |x=>false
   |none=>false
  |x=>false:=by rfl
theorem Ai{K:Frag}{a:Addr}(X:K.In h)(N:h.Ns a m)(hs:pO K a=true)(n:Str):yn K a n=m n:=by
 refine gl λg e=>?_;refine tF N λo es i d hd _ c=>?_;clear N;unfold pO at hs;refine e ?_;simp -iota only [IL];cases b:K.lookup a with
 |none=>replace hs:=b▸hs;exact eI hs
 |some f=>have:=X a f b;replace this:=d▸this;clear b;(replace this:=aw this;subst this);simp only [hd,c]
theorem M4{K:Frag}{a:Addr}(X:K.In h)(hs:pO K a=true):h.Ns a (yn K a):=by
 unfold pO at hs;cases b:K.lookup a with
 |none=>replace hs:=b▸hs;exact eI hs
 |some o=>
  replace hs:=b▸hs;dsimp only at hs;cases hd:o.data with
  |dict es f=>
   replace hs:=hd▸hs;refine EO o es f (X a o b) hd (λe g=>?_) (λn=>?_)
   ·have c:=Array.all_eq_true_iff_forall_mem.mp hs e g;cases d:e.key<;>rw [d] at c<;>first|exact ⟨_,_,rfl⟩|exact eI c
   ·simp -iota only [IL];refine b▸?_;simp only [hd]
  |_=>replace hs:=hd▸hs;exact eI hs
theorem Pc{K:Frag}(X:K.In h)(hs:Jb K=true):AA h:=by
 unfold Jb at hs;cases a:K.lookup 1 with
 |none=>replace hs:=a▸hs;exact eI hs
 |some o=>
  replace hs:=a▸hs;dsimp only at hs;cases hd:o.data with
  |dict es b=>
   replace hs:=hd▸hs;refine ae (List.any_eq_true.mp hs) λe c q=>?_;refine EQ o es b e (X 1 o a) hd (by simpa using c) (λx t z=>?_);replace q:=z▸q;exact eI q
  |_=>replace hs:=hd▸hs;exact eI hs
theorem LJ{d:Data}{c:ClassData}(h:M9 d=some c):d=.cls c:=by cases d<;>first|exact aG h|exact bA _ (aw h)
theorem Eg{l:List α}(h:l.length=n+1):∃a r,l=a::r/\r.length=n:=by
 cases l with
 |nil=>exact Nat.noConfusion h
 |cons a r=>exact ⟨a,r,rfl,lM h⟩
theorem ZP{a:Array α}{x:α}(h:a.size=6)(n:a[4]? =some x):∃k0 k1 k2 k3 k5,a= #[k0,k1,k2,k3,x,k5]:=by obtain ⟨l⟩:=a;refine bd (Eg h) λk0 l0 g f=>?_;refine bd (Eg f) λk1 l1 e1 b=>?_;refine bd (Eg b) λk2 l2 e2 d=>?_;refine bd (Eg d) λk3 l3 k e=>?_;refine bd (Eg e) λo l4 i c=>?_;refine bd (Eg c) λk5 l5 j m=>?_;clear h c f d e b;subst g e1 e2 k i j;obtain rfl:=eq_nil_of_length_eq_zero m;exact PO k0 k1 k2 k3 k5 ((aw n)▸rfl)
noncomputable abbrev LK(h:Heap):Prop:=∃nm q bs sn sub ab col dd k0 k1 k2 k3 k5,h.get? bL=some (excClassObj nm q bL 83 bs [.type "Exception",.type "BaseException",.type "object"] true sn sub ab col dd k0 k1 k2 k3 k5 "Exception.__new__")
theorem IN{K:Frag}(X:K.In h)(hs:Jc K=true):LK h:=by
 unfold Jc at hs;refine gl λv g=>?_;cases a:(K.lookup 84).bind λo=>(M9 o.data).map λc=>(o,c) with
 |none=>refine g ?_
        replace hs:=a▸hs;exact eI hs
 |some p=>
  replace hs:=a▸hs;refine ae (Y6 a) λo b a=>?_;refine ae (au a) λc d q=>?_;clear a;subst q;have m:=LJ d;clear d;have j:=beq_iff_eq.mp (aV (aV hs));have k:=beq_iff_eq.mp (aV (aH (aV hs)));have i:=beq_iff_eq.mp (aH (aH (aV hs)));have f:=aV (aH hs);have l:=(ri _).mp (aV (aH (aH hs)));refine PI (ZP (beq_iff_eq.mp (aV (aH (aH (aH hs))))) (beq_iff_eq.mp (aH (aH (aH (aH hs)))))) λs t r u n e=>?_;refine g ?_;refine ⟨c.name,c.qualname,c.bases,c.slotNames,c.subclasses,c.abstract,c.collection,o.dict,s,t,r,u,n,(X _ _ b).trans ?_⟩;obtain ⟨x,od,w,y⟩:=o;clear a hs b;cases c;dsimp only at j k i f l e m;subst j k i f l e m;rfl
structure IP (K:Frag):Prop where
 keep:∀p∈kinds,keepIn K (.ref p.1)=true
 gt:∀x∈a9,yn K 3 x.1=some (.ref x.2)/\(x.1==("__debug__":Str))=false/\keepIn K (.ref x.2)=true
 blt:∀n∈Na,yn K 3 n=none
 attr:∀p∈attrL.filter (λp=> !beq p.1 84),rk K p.1 p.2=true
 store:∀p∈attrL.filter (λp=> !beq p.1 84),mL K p.1 p.2=true
 sys:Jb K=true
 exc:Jc K=true
 U4:∀n∈bJ,iU K 84 n=true
 We:pO K 83=true
 n3:pO K 3=true
 setattr:yn K 83 "__setattr__"=none
 init:yn K 83 "__init__"=some (.ref 81)
 Sp:∀n∈bJ,yn K 83 n=none
 i1:tD K 456 453=true
 i2:tD K 697 595=true
 ga:findIn K (.ref 697) "__getattribute__"=some (some (.builtin "object.__getattribute__"))
 Ys:findIn K (.ref 697) "__getattr__"=some none
 eB:∀p∈LW,findIn K (.ref 697) p.1=some (some (.ref p.2))/\typeIn K (.ref p.2)=some (.type "function")/\keepIn K (.ref p.2)=true
 sp:specialIn K (.ref 541) "__getattribute__"=some (some (.builtin "type.__getattribute__"))
 rd:readsIn K 541 (.type "type")=true
 fc:findCls K (.ref 541) (.type "type") "__init__"=some (.val (.ref 475))
 U5:keepIn K (.ref 475)=true
 Yt:typeIn K (.ref 81)=some (.type "function")
theorem Pd{K:Frag}(h:yo K=true):IP K:=by
 have a:=λ{α:Type} {l:List α} {p:α->Bool} (e:l.all p=true)=>List.all_eq_true.mp e;have o:=aH h;have s:=aH o;have j:=aH s;have k:=aH j;have r:=aH k;have c:=aH r;have t:=aH c;have g:=aH t;have m:=aH g;have f:=aH m;have b:=aV t;have d:=aV m;have i:=aH (aH f);refine ⟨a (aV h),λx u=>?_,λn hn=>beq_iff_eq.mp (a (aV s) n hn),a (aV j),a (aV k),aV r,aV (aV c),a (aH (aV c)),aV (aV b),aH (aV b),beq_iff_eq.mp (aV (aH b)),beq_iff_eq.mp (aV (aH (aH b))),λn hn=>beq_iff_eq.mp (a (aH (aH (aH b))) n hn),aV (aV g),aH (aV g),beq_iff_eq.mp (aV d),beq_iff_eq.mp (aV (aH d)),λp w=>?_,beq_iff_eq.mp (aV f),aV (aH f),?_,aV (aH i),beq_iff_eq.mp (aH (aH i))⟩
 ·have q:=a (aV o) x u;exact ⟨beq_iff_eq.mp (aV q),beq_iff_eq.mp (aV (aH q)),aH (aH q)⟩
 ·have q:=a (aH (aH d)) p w;exact ⟨beq_iff_eq.mp (aV q),beq_iff_eq.mp (aV (aH q)),aH (aH q)⟩
 ·have q:=aV i;cases e:findCls K (.ref 541) (.type "type") "__init__" with
  |none=>rw [e] at q;exact eI q
  |some v=>cases v with
   |val v=>rw [e] at q;rw [beq_iff_eq.mp q]
   |_=>rw [e] at q;exact eI q
theorem IQ{K:Frag}(X:K.In h)(e:Zy K fd=true):h.CodeRec fd.code fd.qualname:=by
 rw [IM] at e;refine gl λg f=>?_;cases d:fd.code with
 |ref c=>
  rw [d] at e;dsimp only at e;cases a:K.lookup c with
  |none=>rw [a] at e;exact eI e
  |some o=>
   rw [a] at e;dsimp only at e;cases hv:o.data with
   |fields vs=>
    rw [hv] at e;dsimp only at e;cases b:(vs[1]? :Option Value) with
    |none=>rw [b] at e;exact eI e
    |some w=>
     rw [b] at e;cases w with
     |str q t=>exact f (EQ c o vs t d (X c o a) hv (by rw [b,beq_iff_eq.mp e]))
     |_=>exact eI e
   |_=>rw [hv] at e;exact eI e
 |_=>rw [d] at e;exact eI e
theorem sY{K:Frag}{a:Addr}{d:Df}{b:Value}(X:K.In h)(e:n6 K a=rm d b):∃o fd,h.get? a=some o/\o.data=.func fd/\fd.params=d.1/\fd.body=.stmts d.2.1/\fd.scope=d.2.2/\fd.globals=mainGlobals/\fd.closure=[]/\fd.defaults=b/\fd.builtins=builtinsNs/\h.CodeRec fd.code fd.qualname:=by
 unfold n6 at e;refine gl λn m=>?_;(revert e;cases _:List.lookup a K;rotate_left;all_goals (intro e;dsimp only at e))
 ·rename_i o i;cases hd:o.data with
  |func fd=>
   rw [hd] at e;have e:some (fd.params,fd.body,fd.scope,fd.globals,fd.closure,fd.defaults,fd.kwdefaults,fd.builtins,Zy K fd)=rm d b:=e;delta rm at e;simp only [Option.some.injEq,nX] at e;refine PE e λe1 e2 j c g f p k l=>?_;clear e;refine m ?_;exact Ni o fd (X a o i) hd e1 e2 j c g f k (IQ X l)
  |_=>rw [hd] at e;exact aG e
 ·exact aG e
noncomputable def LL:List Str->Bool
 |[]=>true
 |x::r=> !(r.any (aD x))&&LL r
theorem BP:∀{l:List Str},LL l=true->l.Nodup:=by
 intro e;induction e with
 |nil=>intro f;exact nodup_nil
 |cons x r b=>
  intro h;refine aq (nU h) λa d=>?_;refine nodup_cons.mpr ⟨λc=>?_,b d⟩;have:r.any (aD x)=true:=List.any_eq_true.mpr ⟨x,c,be.mpr rfl⟩;rw [this] at a;cases a
theorem Eh{d:Df}(hd:d.1.defaults=[])(h:xw d n=some ds):n=d.1.args.length/\ds=[]:=by
 unfold xw at h;rw [hd] at h;refine gl λb a=>?_;(revert h;cases _:ble n (List.length (PySem.Arguments.args (Prod.fst d)))&&ble (List.length (PySem.Arguments.args (Prod.fst d))) (n+List.length []);rotate_left;all_goals (intro h;dsimp only at h))
 ·rename_i e;refine aq (nU e) λe1 e2=>?_;have e2:=cZ e2;simp only [dQ,Nat.add_zero] at e2;rw [drop_nil] at h;replace h:=aw h;subst h;refine a ?_;exact ⟨Nat.le_antisymm (cZ e1) e2,rfl⟩
 ·exact aG h
theorem uB(d:Df):(xu d).take d.1.args.length=jA d:=by unfold xu;have:d.1.args.length=(jA d).length:=(dG _).symm;rw [this,take_left]
noncomputable def kB(fd:FuncData)(xs:List Value):{k:Option (Array Value)->Sem (List (Str×Value)) // bindArgs fd ⟨xs,[]⟩=(seqItems? fd.defaults>>=k)}:=⟨_,rfl⟩
noncomputable def LM:List Nat:=(lx.filter λq=>q.2.2.isNone).map λq=>q.2.1
noncomputable def Pe:List (Nat×Nat×Nat):=[(5,1,0),(5,1,1),(29,1,0),(29,1,1),(50,2,0),(50,2,1),(50,2,2),(65,2,0),(65,2,1),(65,2,2),(2,3,0),(2,3,1),(2,3,2),(2,3,3)]
theorem Aj(nm a:Str)(b:FuncBody)(k:Scope)(g:Addr)(c:eY)(j f l:Value)(e:Option Addr)(h d:Value)(bl:Addr)(x:Nat->Value):
 (LM.map λi=>bindArgs ⟨nm,a,(aZ.getD i ce).1,b,k,g,c,.none,j,f,l,e,h,d,bl⟩ ⟨(range (aZ.getD i ce).1.args.length).map x,[]⟩)=LM.map λi=>pure ((jA (aZ.getD i ce)).zip ((range (aZ.getD i ce).1.args.length).map x)):=by trivial
theorem Ei(nm d:Str)(b:FuncBody)(k:Scope)(g:Addr)(c:eY)(a j h l:Value)(f:Option Addr)(i e:Value)(bl:Addr)(x y:Nat->Value):
 (Pe.map λq=>(kB ⟨nm,d,(aZ.getD q.1 ce).1,b,k,g,c,a,j,h,l,f,i,e,bl⟩ ((range ((aZ.getD q.1 ce).1.args.length - q.2.2)).map x)).1 (some ⟨(range q.2.1).map y⟩))=Pe.map λq=>pure ((jA (aZ.getD q.1 ce)).zip ((range ((aZ.getD q.1 ce).1.args.length - q.2.2)).map x++((range q.2.1).map y).drop (q.2.1 - q.2.2))):=by trivial
theorem sZ:∀xs:List Value,(range xs.length).map (λi=>xs.getD i .none)=xs:=by
 intro c;induction c with
 |nil=>exact rfl
 |cons a xs b=>rw [cT,range_succ_eq_map,gg,List.map_map];exact bA (a::·) (b)
theorem Ak:(LM.all λi=>(aZ.getD i ce).1.defaults.isEmpty)=true:=by trivial
theorem Al{X:Cx}{a:Addr}(h:i∈LM)(y:X.K.In X.base)(e:n6 X.K a=rm (aZ.getD i ce) .none)(D:b5 (defAt i).aj (defAt i).gt (defAt i).body=(aZ.getD i ce).2.1):FnAt X a (defAt i):=by refine EN (sY y e) λo f F m E n p l j B r q=>?_;refine ⟨o,f,F,m,by rw [n,D],p,l,j,r,q,λs C ds d J=>?_⟩;refine aq (Eh (isEmpty_iff.mp (List.all_eq_true.mp Ak i h)) d) λe1 A=>?_;clear m n p l q j r d;subst A;refine ⟨[],BindsTo.of_eq ?_,λg=>.nil,by rw [dA];exact e1⟩;obtain ⟨nm,t,L,b,G,g,c,I,z,w,x,v,H,u,bl⟩:=f;subst E;subst B;have k:=my (Aj nm t b G g c z w x v H u bl λi=>C.getD i .none) h;rw [<-e1,sZ] at k;rw [dA,show (defAt i).aj.take (defAt i).np=jA (aZ.getD i ce) from uB _];exact k
noncomputable def IR(i m:Nat):Bool:=(range (m+1)).all λj=>Pe.contains (i,m,j)
theorem Ej{X:Cx}{a:Addr}{T:Addr}{d:List Value}(t:X.K.In X.base)(e:n6 X.K a=rm (aZ.getD i ce) (.ref T))(hs:eH X.K T=some d)(W:b5 D.aj D.gt D.body=(aZ.getD i ce).2.1)(Bl:D.scope=(aZ.getD i ce).2.2)(V:D.np=(aZ.getD i ce).1.args.length)(hn:D.aj.take D.np=jA (aZ.getD i ce))(I:D.Ey=xw (aZ.getD i ce))(G:IR i d.length=true)
 (H:d.length=(aZ.getD i ce).1.defaults.length) (hv:∀j,j<=d.length->∀ds,Dz ((aZ.getD i ce).1.defaults.drop j)=some ds->∀g,cr g ds (d.drop j)):FnAt X a D:=by
 refine gl λC m=>?_
 obtain ⟨oT,n,O,P,Y,rfl⟩:∃o n f,X.base.get? T=some o/\o.data=.seq f n/\f.toList=d:=by
  unfold eH at hs;refine gl λC m=>?_;(revert hs;cases _:List.lookup T (Internal.Cx.K X);rotate_left;all_goals (intro hs;dsimp only at hs))
  ·rename_i o Q;cases l:o.data with
   |seq f n=>rw [l] at hs;exact m (lQ o n f (t T o Q) l (aw hs))
   |_=>rw [l] at hs;exact aG hs
  ·exact aG hs
 obtain ⟨d⟩:=O
 refine EN (sY t e) λo p h1 w h3 x y v r U q z=>?_
 refine m ?_
 refine ⟨o,p,h1,w,by rw [x,W],by rw [y,Bl],v,r,q,z,λs f ds h R=>?_⟩
 rw [I] at h
 refine aq (bM h) λu h=>?_
 have e1:=cZ (aV u)
 have e2:=cZ (aH u)
 rw [<-H] at e2 h
 have N:f.length+d.length - (aZ.getD i ce).1.args.length=d.length - ((aZ.getD i ce).1.args.length - f.length):=by have e2:(aZ.getD i ce).1.args.length<=f.length+d.length:=e2;rw [me];exact (sub_sub_right _ e1).symm
 have A:(aZ.getD i ce).1.args.length - f.length<=d.length:=sub_le_of_le_add (by rw [me];exact e2)
 have hd:Dz ((aZ.getD i ce).1.defaults.drop (d.length - ((aZ.getD i ce).1.args.length - f.length)))=some ds:=by rw [<-N];exact h
 refine ⟨d.drop (d.length - ((aZ.getD i ce).1.args.length - f.length)),?_,hv _ (sub_le _ _) ds hd,by rw [V,de,length_drop,Nat.sub_sub_self A,uF e1]⟩
 obtain ⟨nm,E,ps,b,sc,g,c,B,S,L,M,J,Z,F,bl⟩:=p
 clear x w y r z v q;subst h3
 have k:=my (Ei nm E b sc g c B S L M J Z F bl (λi=>f.getD i .none) λi=>d.getD i .none) (contains_iff_mem.mp (List.all_eq_true.mp G _ (mem_range.mpr (hY A))))
 dsimp only at k
 rw [<-((Nat.sub_sub_self e1).symm),sZ,sZ] at k
 rw [hn]
 exact BindsTo.of_defaults U (R _ _ P) Y (kB _ f).2 k
noncomputable def BQ(D:g9):Bool:=D.scope.kind== .function&&(!D.scope.isCoroutine&&(!D.scope.isGenerator&&(LL D.aj&&(D.aj.all (λn=> !(n==("__debug__":Str)))&&(ble D.np D.aj.length&&(nr D.scope D.aj D.gt D.body&&(((cellsFrom 0 D.scope.names []).map (·.1)==D.cells)&&(LL D.cells&&
 ((D.aj.take D.np).all (λn=>(jZ D.cells n).isSome||D.scope.names.lookup n==some .local)&&(D.cells.all (λn=>D.scope.names.lookup n==some .cell)&&(D.aj.take D.np).all (λn=>D.scope.names.lookup n==some .local||(D.scope.names.lookup n==some .cell&&D.cells.contains n))))))))))))
theorem BR(h:BQ D=true):xf D:=by
 delta BQ at h;simp only [dD,j6,List.all_eq_true,ri,lJ] at h;obtain ⟨p,i,o,k,l,g,e,j,b,m,f,c⟩:=h;refine ⟨p,i,o,BP k,l,cZ g,e,j,BP b,λn hn d=>?_,f,λn hn=>?_⟩
 ·refine aQ (m n hn) (λq=>?_) (λq=>?_)
  ·rw [d] at q;exact eI q
  ·exact q
 ·refine aQ (c n hn) (λq=>?_) (λa=>aq a λq1 q2=>?_)
  ·exact .inl q
  ·clear a;exact .inr ⟨q1,contains_iff_mem.mp q2⟩
theorem Pf:(lx.all λq=>BQ (defAt q.2.1))=true:=by trivial
theorem Sq:BQ D2=true:=by trivial
theorem LN:b5 D2.aj D2.gt D2.body=(aZ.getD 2 ce).2.1:=by trivial
noncomputable def Pg:List (Addr×Nat×Option Addr):=lx.filter λq=> !beq q.2.1 2
theorem IS:(Pg.map λq=>b5 (xu (aZ.getD q.2.1 ce)) a9 (defAt q.2.1).body)=Pg.map λq=>(aZ.getD q.2.1 ce).2.1:=by trivial
theorem IT:lx.filter (λq=>q.2.2.isSome)=[(139,5,some 132),(308,29,some 301),(475,50,some 468),(81,2,some 74),(595,65,some 588)]:=by trivial
noncomputable def Sr:Addr×Kd->Bool
 |(a,.fn i _)=>lx.any λq=>beq q.1 a&&(beq q.2.1 i&& !beq i 2)
 |_=>true
theorem Ph:kinds.all Sr=true:=by trivial
noncomputable def M5:Addr×Kd->Bool
 |(a,.cls i _)=>(beq a 456&&beq i 49)||(beq a 697&&beq i 65)
 |_=>true
theorem IU{x:Addr×Kd}:
 M5 x=
  match x with
  |(a,Kd.cls i l)=>beq a 456&&beq i 49||beq a 697&&beq i 65
  |x=>true:=by rfl
theorem Pj:kinds.all M5=true:=by trivial
structure Seen (X:Cx):Prop where
 tR:X.K.In X.base
 l:IP X.K
 mg:X.base.Ns mainGlobals X.mg
 mb:X.base.Ns builtinsNs X.mb
 blt:∀x:Str,x≠"__name__"->X.mb x=bootBuiltins x
 lim:X.base.NoLimit
 fns:uG X.K=qH
 IV:j9 X.K=iV
protected theorem Seen.fn {X:Cx} (H:Seen X):∀p∈lx,n6 X.K p.1=rm (aZ.getD p.2.1 ce) (PC p.2.2):=λp a=>eN H.fns p a
theorem nR{K:Frag}(h:j9 K=iV):(∃n o,eH K 74=some [.ref 73,.int 0 n,.int 0 o])/\eH K 132=some [.ref 131]/\eH K 301=some [.bool false]/\(∃t,eH K 468=some [.int 40 t,.none])/\(∃t,eH K 588=some [.int 40 t,.none]):=by
 delta j9 iV at h;simp only [gg,map_nil,List.cons.injEq,and_true] at h;refine gl λm f=>?_;refine pP h λC s B u A=>?_;clear h;have d:∀{v:Value} {i:Int},vT v=.int i 0->∃t,v=.int i t:=λ{v i} e=>by cases v<;>first|(cases e;done)|(cases e;exact ⟨_,rfl⟩)
 have same:∀{v w:Value},vT v=w->(∀i t,w≠ .int i t)->v=w:=λ{v w} e hn=>by cases v<;>first|exact e|exact absurd e.symm (hn _ _)
 have one:∀{a:Addr} {w:Value},(eH K a).map (λl=>l.map vT)=some [w]->(∀i t,w≠ .int i t)->eH K a=some [w]:=λ{a w} e hn=>by
  refine gl λm f=>?_;refine ae (au e) λl e1 e2=>?_;cases l with
  |nil=>cases e2
  |cons x r=>
   refine aq (cS e2) λg c=>?_;clear e2;cases r with
   |nil=>refine f ?_
         (refine e1▸?_;exact (same g hn)▸rfl)
   |cons=>cases c
 have ZB:∀{a:Addr},(eH K a).map (λl=>l.map vT)=some [.int 40 0,.none]->∃t,eH K a=some [.int 40 t,.none]:=λ{a} e=>by refine gl λm f=>?_;refine ae (au e) λl e1 e2=>?_;refine aP (map_eq_cons_iff.mp e2) λx l b g c=>?_;clear e2;subst b;refine aP (map_eq_cons_iff.mp c) λy l b k j=>?_;clear c;subst b;obtain rfl:=map_eq_nil_iff.mp j;refine ar (d g) λt b=>?_;clear g;subst b;refine f ?_;exact ⟨t,by rw [e1,same k (λ_ _ e=>Value.noConfusion e)]⟩
 refine f ?_;refine ⟨?_,one s (λ_ _ e=>Value.noConfusion e),one B (λ_ _ e=>Value.noConfusion e),ZB u,ZB A⟩;refine gl λm f=>?_;refine ae (au C) λl e1 e2=>?_;refine aP (map_eq_cons_iff.mp e2) λx l b g c=>?_;clear e2;subst b;refine aP (map_eq_cons_iff.mp c) λy l b k j=>?_;clear c;subst b;refine aP (map_eq_cons_iff.mp j) λz l b p q=>?_;clear j;subst b;obtain rfl:=map_eq_nil_iff.mp q;refine ar (d k) λn b=>?_;clear k;subst b;refine ar (d p) λo b=>?_;clear p;subst b;refine f ?_;exact ⟨n,o,by rw [e1,same g (λ_ _ e=>Value.noConfusion e)]⟩
variable {X:Cx}
theorem Seen.Ek(H:Seen X){n:Str}(hn:Na.any (aD n)=true):X.mg n=none:=by refine ae (List.any_eq_true.mp hn) λm a e=>?_;cases be.mp e;exact (Ai H.tR H.mg H.l.n3 _).symm.trans (H.l.blt _ a)
theorem Seen.uC(H:Seen X){n:Str}{v:Value}(hn:n≠"__name__")(e:bootBuiltins n=some v):X.mb n=some v:=(H.blt n hn).trans e
theorem vN{l:List Str}{n:Str}(h:l.any (aD n)=true):n∈l:=by refine ae (List.any_eq_true.mp h) λm a e=>?_;cases be.mp e;exact a
theorem uD{C:Addr}{n:Str}(h:eU C n=true)(a:C≠bL):(C,n)∈attrL.filter λp=> !beq p.1 84:=by
 delta eU at h;simp only [lJ,dD] at h;rw [mem_filter];rcases h with ⟨h,_⟩|⟨h,hn⟩|⟨h,hn⟩
 ·exact absurd (c5 h) a
 ·obtain rfl:=c5 h;exact ⟨mI _ (pp _ (iT (vN hn))),rfl⟩
 ·obtain rfl:=c5 h;exact ⟨pp _ (iT (vN hn)),rfl⟩
theorem Am{n:Str}(h:eU bL n=true):n∈bJ:=by
 delta eU at h;simp only [lJ,dD] at h;refine aQ h (λc=>aq c λ_ h=>?_) (λd=>aQ d (λa=>aq a λh _=>?_) (λb=>aq b λh _=>?_))
 ·clear c;exact vN h
 ·clear a;exact eI h
 ·clear b;exact eI h
theorem El:∀n∈bJ,typeLookup (.type "Exception") n=pure none:=by
 have e:(bJ.map λn=>fastLookup "Exception" n)=bJ.map λ_=>some none:=by trivial
 intro n hn;rw [typeLookup_type,builtinLookup_eq_fast,my e hn]
theorem Seen.tS(H:Seen X):rv X.base bJ:=by refine gl λo f=>?_;obtain ⟨nm,q,k,b,sub,m,a,c,g,i,e,j,d,h⟩:=IN H.tR H.l.exc;refine f ?_;exact ⟨nm,q,83,k,b,sub,m,a,c,g,i,e,j,d,_,_,h,M4 H.tR H.l.We,H.l.setattr,λn hn=>⟨H.l.Sp n hn,El n hn⟩⟩
theorem Seen.LO(H:Seen X):ExcInit X.base 81:=by refine gl λr g=>?_;obtain ⟨nm,q,m,b,sub,p,a,c,i,j,f,k,e,h⟩:=IN H.tR H.l.exc;refine g ?_;refine ⟨nm,q,83,m,b,sub,p,a,c,i,j,f,k,e,_,h,M4 H.tR H.l.We,H.l.setattr,H.l.init,H.l.Sp _ (vN (by trivial)),?_⟩;refine ae (map_eq_some_iff.mp (H.l.Yt)) λo d n=>?_;exact ⟨o,H.tR 81 o d,n⟩
theorem Seen.top(H:Seen X):iA X:=
 ⟨H.mg,H.mb,H.lim,H.tR,Pc H.tR H.l.sys,λb=>by cases b<;>exact ⟨H.Ek (by trivial),H.uC (by decide+kernel) (by trivial)⟩,
  ⟨H.Ek (by trivial),H.uC (by decide+kernel) (by trivial)⟩,⟨H.Ek (by trivial),H.uC (by decide+kernel) (by trivial)⟩,⟨H.Ek (by trivial),H.uC (by decide+kernel) (by trivial)⟩,⟨H.Ek (by trivial),H.uC (by decide+kernel) (by trivial)⟩,
  λC n h a=>H.l.attr _ (uD h a),λn h=>H.l.U4 n (Am h),H.tS,λC n h a=>H.l.store _ (uD h a)⟩
theorem Seen.tab(H:Seen X):xg X a9:=λi x a=>by refine ck (H.l.gt x (mem_iff_getElem?.mpr ⟨i,a⟩)) λd b c=>?_;exact ⟨⟨(Ai H.tR H.mg H.l.n3 _).symm.trans d,b⟩,c⟩
protected theorem Seen.mt (H:Seen X):∀b C n a,di b C n=some a->rP b X.K C n a:=by
 intro b C n a h;cases b with
 |true=>
  delta di at h;dsimp only at h;(revert h;cases _:beq C 541&&aD n (PySem.Str.ofString "__init__");rotate_left;all_goals intro h)
  ·rename_i e;refine aq (nU e) λe1 e2=>?_;clear e;cases c5 e1;cases be.mp e2;refine Su h ?_;exact ⟨H.l.sp,⟨_,H.l.rd,H.l.fc⟩,rfl,H.l.U5⟩
  ·exact aG h
 |false=>
  delta di at h;dsimp only at h;(revert h;cases _:beq C 697;rotate_left;all_goals (intro h;dsimp only at h))
  ·rename_i e;cases c5 e;refine ae (map_eq_some_iff.mp h) λp c d=>?_;clear h;subst d;have e2:=find?_some c;cases be.mp e2;obtain ⟨g,i,j⟩:=H.l.eB (Str.ofString p.1,p.2) (by
    have:=iT (f:=λp:String×Nat=>(Str.ofString p.1,p.2)) (mem_of_find?_eq_some c);exact this)
   exact ⟨H.l.ga,H.l.Ys,g,i,j⟩
  ·exact aG h
theorem LQ{a:Addr}{l:Option Addr}(h:(a,i,l)∈lx)(b:beq i 2=false):(a,i,l)∈Pg:=mem_filter.mpr ⟨h,by refine b▸?_;rfl⟩
theorem nT{a:Addr}{l:Option Addr}(h:(a,i,l)∈lx)(b:beq i 2=false):b5 (defAt i).aj (defAt i).gt (defAt i).body=(aZ.getD i ce).2.1:=my IS (LQ h b)
theorem IW{a:Addr}{l:Option Addr}(h:(a,i,l)∈lx):xf (defAt i):=BR (List.all_eq_true.mp Pf _ h)
theorem qG(e:some vs=some ds)(h:cr g vs xs):cr g ds xs:=by (replace e:=aw e;subst e);exact h
theorem Seen.dflt(H:Seen X){a:Addr}{T:Addr}{b:List Value}(e:(a,i,some T)∈lx)(hs:eH X.K T=some b)(c:(D.aj,D.gt,D.scope,D.np)=((defAt i).aj,(defAt i).gt,(defAt i).scope,(defAt i).np))(h:D.Ey=xw (aZ.getD i ce))(m:b5 D.aj D.gt D.body=(aZ.getD i ce).2.1)
 (f:IR i b.length=true) (k:beq b.length (aZ.getD i ce).1.defaults.length=true)
 (hv:∀j,j<=b.length->∀ds,Dz ((aZ.getD i ce).1.defaults.drop j)=some ds->∀g,cr g ds (b.drop j)):FnAt X a D:=by
 simp only [nX] at c
 refine eu c λe1 e2 l d=>?_;clear c
 refine Ej H.tR (H.fn _ e) hs m (by refine l▸?_;rfl) (by refine d▸?_;rfl) ?_ h f (c5 k) hv
 (refine e1▸?_;refine d▸?_);exact uB _
theorem jO{a:Addr}{l:Option Addr}(h:(lx.any λq=>beq q.1 a&&(beq q.2.1 i&&(match q.2.2,l with|none,none=>true|some x,some y=>beq x y|_,_=>false)))=true):(a,i,l)∈lx:=by refine ae (List.any_eq_true.mp h) λf b e=>?_;obtain ⟨g,j,d⟩:=f;refine aq (nU e) λe1 e2=>?_;refine aq (nU e2) λe2 c=>?_;clear h e;cases c5 e1;clear e1;cases c5 e2;clear e2;cases d<;>cases l<;>first|exact b|exact eI c|(clear e2;cases c5 c;exact b)
noncomputable def IX(i n:Nat):List (Option (List V)):=(range n).map λj=>Dz ((aZ.getD i ce).1.defaults.drop j)
theorem Seen.Yy(H:Seen X):FnAt X 139 (defAt 5):=by
 have m:=jO (a:=139) (i:=5) (l:=some 132) (by trivial);have e:IX 5 2=[none,some []]:=by trivial
 refine H.dflt m (nR H.IV).2.1 rfl rfl (nT m rfl) (by trivial) (by trivial) λj c ds b g=>?_;rcases j with _|_|j
 ·cases (cS e).1.symm.trans b
 ·exact qG ((cS (cS e).2).1.symm.trans b) .nil
 ·exact absurd (mH c) (rj _)
theorem Seen.U7(H:Seen X):FnAt X 308 (defAt 29):=by
 have m:=jO (a:=308) (i:=29) (l:=some 301) (by trivial);have e:IX 29 2=[some [.bool false],some []]:=by trivial
 refine H.dflt m (nR H.IV).2.2.1 rfl rfl (nT m rfl) (by trivial) (by trivial) λj c ds b g=>?_;rcases j with _|_|j
 ·exact qG ((cS e).1.symm.trans b) (.cons (.bool _) .nil)
 ·exact qG ((cS (cS e).2).1.symm.trans b) .nil
 ·exact absurd (mH c) (rj _)
theorem Seen.U8(H:Seen X):FnAt X 475 (defAt 50):=by
 have m:=jO (a:=475) (i:=50) (l:=some 468) (by trivial);have e:IX 50 3=[some [.int 40,.none],some [.none],some []]:=by trivial
 obtain ⟨t,d⟩:=(nR H.IV).2.2.2.1;refine H.dflt m d rfl rfl (nT m rfl) (by trivial) (by trivial) λj c ds b g=>?_;rcases j with _|_|_|j
 ·exact qG ((cS e).1.symm.trans b) (.cons (.int _ _) (.cons .none .nil))
 ·exact qG ((cS (cS e).2).1.symm.trans b) (.cons .none .nil)
 ·exact qG ((cS (cS (cS e).2).2).1.symm.trans b) .nil
 ·exact absurd (mH (mH c)) (rj _)
theorem Seen.U9(H:Seen X):FnAt X 595 (defAt 65):=by
 have m:=jO (a:=595) (i:=65) (l:=some 588) (by trivial);have e:IX 65 3=[some [.int 40,.none],some [.none],some []]:=by trivial
 obtain ⟨t,d⟩:=(nR H.IV).2.2.2.2;refine H.dflt m d rfl rfl (nT m rfl) (by trivial) (by trivial) λj c ds b g=>?_;rcases j with _|_|_|j
 ·exact qG ((cS e).1.symm.trans b) (.cons (.int _ _) (.cons .none .nil))
 ·exact qG ((cS (cS e).2).1.symm.trans b) (.cons .none .nil)
 ·exact qG ((cS (cS (cS e).2).2).1.symm.trans b) .nil
 ·exact absurd (mH (mH c)) (rj _)
theorem Seen.at2(H:Seen X):FnAt X 81 D2:=by
 have m:=jO (a:=81) (i:=2) (l:=some 74) (by trivial);have e:IX 2 4=[none,some [.int 0,.int 0],some [.int 0],some []]:=by trivial
 refine dZ ((nR H.IV).1) λf h d=>?_;refine H.dflt m d rfl rfl LN (by trivial) (by trivial) λj c ds b g=>?_;rcases j with _|_|_|_|j
 ·cases (cS e).1.symm.trans b
 ·exact qG ((cS (cS e).2).1.symm.trans b) (.cons (.int _ _) (.cons (.int _ _) .nil))
 ·exact qG ((cS (cS (cS e).2).2).1.symm.trans b) (.cons (.int _ _) .nil)
 ·exact qG ((cS (cS (cS (cS e).2).2).2).1.symm.trans b) .nil
 ·exact absurd (mH (mH (mH c))) (rj _)
theorem Seen.at(H:Seen X){a:Addr}{i:Nat}{l:Option Addr}(h:(a,i,l)∈lx)(b:beq i 2=false):FnAt X a (defAt i):=by
 cases l with
 |none=>exact Al (iT (mem_filter.mpr ⟨h,rfl⟩)) H.tR (H.fn _ h) (nT h b)
 |some T=>
  have:(a,i,some T)∈lx.filter (λq=>q.2.2.isSome):=mem_filter.mpr ⟨h,rfl⟩;rw [IT] at this;simp only [mem_cons,jS,or_false,nX,Option.some.injEq] at this;clear h;rcases this with ⟨rfl,rfl,rfl⟩|⟨rfl,rfl,rfl⟩|⟨rfl,rfl,rfl⟩|⟨rfl,rfl,rfl⟩|⟨rfl,rfl,rfl⟩
  ·exact H.Yy
  ·exact H.U7
  ·exact H.U8
  ·cases b
  ·exact H.U9
theorem Seen.init(H:Seen X){C f:Addr}(h:tD X.K C f=true):makesIn X.K C=true/\findIn X.K (.ref C) "__init__"=some (some (.ref f))/\typeIn X.K (.ref f)=some (.type "function"):=by simpa only [tD,dD,j6] using h
theorem Seen.tw(H:Seen X):Pb X where
 top:=H.top
 tab:=H.tab
 mt:=H.mt
 keep:=λa k h=>H.l.keep _ (jN h)
 fn:=λa i l h=>by have:=List.all_eq_true.mp Ph _ (jN h);obtain ⟨⟨g,j,T⟩,b,e⟩:=List.any_eq_true.mp this;refine aq (nU e) λe1 e2=>?_;refine aq (nU e2) λe2 d=>?_;clear h e this;cases c5 e1;cases c5 e2;exact ⟨H.at b (by simpa using d),IW b⟩
 cls:=λa i l h=>by
  have:=List.all_eq_true.mp Pj _ (jN h);simp only [IU,lJ,dD] at this;refine gl λf c=>?_;clear h;rcases this with ⟨e1,e2⟩|⟨e1,e2⟩
  ·cases c5 e1;cases c5 e2;have m:=jO (a:=453) (i:=49) (l:=none) (by trivial);refine ck (H.init H.l.i1) λq1 q2 q3=>?_;refine c ?_;exact ⟨q1,453,q2,q3,H.at m rfl,IW m⟩
  ·cases c5 e1;cases c5 e2;have m:=jO (a:=595) (i:=65) (l:=some 588) (by trivial);refine ck (H.init H.l.i2) λq1 q2 q3=>?_;refine c ?_;exact ⟨q1,595,q2,q3,H.at m rfl,IW m⟩
 exc:=⟨81,H.at2,BR Sq,H.LO⟩
 Sn:=⟨H.Ek (by trivial),H.uC (by decide+kernel) (by trivial)⟩
noncomputable def Fx.fixed(F:Fx):Fx:={F with P:=F.FP,FP:=λ_=>none}
theorem Y1.fix(f:F.hand=none)(R:Y1 F g ls S s)(j:∀b o,F.FP b=some o->s.heap.get? b=some o):Y1 F.fixed g ls S s:=by
 refine ar R.tb λts T=>?_;exact ⟨R.gw,R.base,j,(λb o e=>nomatch e),R.cm,R.len,R.cells,R.nodup,λb m=>let ⟨a,_,c,d⟩:=R.apart b m;⟨a,c,rfl,d⟩,R.locs,R.gens,R.os,(λb o e=>aG e),
  ⟨ts,T.len,T.one,λy i=>let ⟨p,r,k,q,n,l⟩:=T.obj y i;⟨p,r,k,n,rfl,l⟩,T.nd⟩,R.fN,λb o e=>(R.bh b o e).2.2,λh e=>by rw [show F.hand=some h from e] at f;exact aG (aS f)⟩
theorem Y1.M6(m:F.hand=none)(f:∀b,F.P b=none)(i:∀b o,F.FP b=some o->F.base.get? b=none)(R:Y1 F.fixed g ls S s):Y1 F g ls S s:=by
 refine gl λt q=>?_;obtain ⟨ts,T⟩:=R.tb;refine q ?_;exact ⟨R.gw,R.base,(λb o e=>by rw [f] at e;exact aG e),λb o e=>⟨o.slots,R.dI b o e⟩,R.cm,R.len,R.cells,R.nodup,λb i=>let ⟨a,c,_,d⟩:=R.apart b i;⟨a,f b,c,d⟩,R.locs,R.gens,R.os,λb o e=>⟨i b o e,f b,R.cw b o e⟩,
  ⟨ts,T.len,T.one,λy j=>let ⟨p,r,k,n,u,l⟩:=T.obj y j;⟨p,r,k,f y,n,l⟩,T.nd⟩,R.fN,λb o e=>(by rw [f] at e;exact aG e),λh e=>by rw [m] at e;exact aG e⟩
theorem LR(T:Pb X)(xh:F.toCx=X)(G:∀b,F.P b=none)(Yz:∀b,F.FP b=none)(Va:F.top=[])(m:F.hand=none)(R:Y1 F g ls S s)(Z:yg 35 F A){l:List Int}(hl:l.length<=1000)(hx:RV g (.lst (l.map .int)) x)
 {Q:cH} (hQ:∀g' a S',g.Le g'->Y1 F g' ls S' a->a.heap.get? F.env.locals=s.heap.get? F.env.locals->Q (.bool true) a):wpAny (model X.prog X.w) A (PySem.call (.ref 813) [x]) Q E s:=by
 refine gl λGz q=>?_
 refine ar (Pa (n:=0) (S:=S) hl) λS' h=>?_
 have e:cG 18 false 813 [.lst (l.map .int)] S=gy (defAt 97) (cG 17) di 5000 false [.lst (l.map .int)] S:=by trivial
 replace h:=e▸h
 refine aq (T.fn 813 97 false (by trivial)) λh1 I=>?_
 unfold gy at h
 (revert h;cases _:Internal.g9.Ey (Internal.defAt 97) (List.length [Internal.V.lst (List.map Internal.V.int l)]);all_goals (intro h;dsimp only at h))
 ·exact aG h
 rename_i ds t
 split at h
 ·exact aG h
 rename_i r₁ cz ay jY
 refine aq (Prod.mk.inj (aw h)) λhr u=>?_;clear h;subst u
 refine q ?_
 refine wpAny_call (vn (N:=5000) (P:=λ_ a=>a.heap.get? F.env.locals=s.heap.get? F.env.locals) (cz:=cz) (ay:=ay) T.top h1 I T.tab T.mt (Ed T 17) xh Z t (λeC K H xo M cv aL _ J j _=>?_) hr R (.cons hx .nil) (λv e g' a y L YA R' _ hy=>?_) (λk e=>nomatch e))
 ·refine aP M λc env aF e2 e3=>?_;clear M;clear xo;subst aF
  replace H:=m▸H
  have z:∀b o,(F.enter c env (defAt 97).aj).FP b=some o->b=F.env.locals/\o=c:=λb o e=>by
   simp only [Fx.enter] at e;refine Wh e (λ_ e=>?_) (λ_ e=>?_)
   ·rename_i C;(replace e:=aw e;subst e);exact ⟨C,rfl⟩
   ·rw [Yz] at e;exact aG e
  have D:∀b o,(F.enter c env (defAt 97).aj).FP b=some o->F.base.get? b=none:=λb o e=>by refine ((z b o e).1)▸?_;exact (R.apart _ (.head _)).1
  have aR:=Y1.fix (F:=F.enter c env (defAt 97).aj) m J λb o e=>by refine aq (z b o e) λNz u=>?_;clear J e D z H;subst Nz;subst u;exact j _ _ e2
  have d:∀e∈env::F.top,∃L,e.frame=some L/\(L=env.locals\/∃o,(F.enter c env (defAt 97).aj).fixed.FP L=some o/\∀vs,o.data≠ .fields vs):=λe r=>by replace r:=Va▸r;cases mem_singleton.mp r;exact ⟨_,H.ak.frame,.inl rfl⟩
  have HF:TC (F.enter c env (defAt 97).aj).fixed (defAt 97).gt:=by obtain ⟨q1,q2,q3,q4,q5,q6,q7⟩:=H.ev.ok;exact ⟨q1,q2,q3,q4,q5,q6,q7⟩
  have HA:yg (2 * 17) (F.enter c env (defAt 97).aj).fixed K:=by obtain ⟨q1,q2,q3,q4,q5,q6⟩:=H.ev.ak;exact ⟨q1,q2,q3,q4,d,q6⟩
  have H':Good (2 * 17) (defAt 97).scope (defAt 97).aj (defAt 97).gt (F.enter c env (defAt 97).aj).fixed K ⟨cG 17,false,5000,di⟩:=by refine gl λGz q=>?_;obtain ⟨⟨_,_,Y,U,v5,W⟩,⟨a1,a2,a3,a4,a5,a6,a7,O⟩,h3,h4,h5⟩:=H;refine q ?_;exact ⟨⟨HF,HA,Y,U,v5,W⟩,⟨a1,a2,a3,a4,a5,a6,d,O⟩,h3,h4,h5⟩
  intro Q₁ md B i
  exact sm I.wf H' jY aR
   (λf e g' a fl L p hf=>B f e g' a fl L ((p.dI _ _ (show (F.enter c env (defAt 97).aj).FP F.env.locals=some c from by simp [Fx.enter])).trans e2.symm) (Y1.M6 m G D p) hf)
   (λk e g' a b L p C=>i k e g' a b L (Y1.M6 m G D p) C)
 ·(injection e with e;subst e)
  cases hy
  exact hQ g' a ay L R' YA
theorem An{a:Addr}:∀{l:List Addr},(l.filterMap λa=>(h.get? a).map λo=>(a,o)).lookup a=some o->a∈l:=by
 intro f;induction f with
 |nil=>intro e;exact aG e
 |cons b l c=>
  intro e;rw [filterMap_cons] at e;cases d:h.get? b with
  |none=>rw [d] at e;exact .tail _ (c e)
  |some g=>
   rw [d] at e;rw [Option.map,List.lookup] at e;(revert e;cases _:a==b;rotate_left;all_goals intro e)
   ·rename_i q;rw [beq_iff_eq.mp q];exact .head _
   ·exact .tail _ (c e)
theorem LU:Te.contains 6=false:=by trivial
theorem IY(h:Heap):(BU h).In (h.hide 6):=λa o e=>by
 have:a≠6:=λq=>by subst q;have:=contains_iff_mem.mpr (An e);replace this:=LU▸this;exact eI this
 refine (Heap.hide_ne h this)▸?_;exact IJ h a o e
theorem ye(k:∀b o,h.get? b=some o->h'.get? b=some o)(e:tE h=true):tE h'=true:=by
 unfold tE at e |-;(revert e;cases _:PySem.Heap.get? h 6;rotate_left;all_goals intro e)
 ·rename_i o a;refine (k _ _ a)▸?_;exact e
 ·exact eI e
theorem IZ(e:tE h=true):∃m,h.Ns 6 m:=by
 refine gl λi f=>?_;have e:(match h.get? 6 with|some o=>(match o.data with|.dict es _=>es.all (λe=>match e.key with|.str _ _=>true|_=>false)|_=>false)|none=>false)=true:=e;cases a:h.get? 6 with
 |none=>rw [a] at e;exact eI e
 |some o=>
  rw [a] at e;dsimp only at e;cases hd:o.data with
  |dict es d=>
   rw [hd] at e;refine f (EQ _ o es d a hd (λx g=>?_) (λn=>rfl));have b:=Array.all_eq_true_iff_forall_mem.mp e x g;cases c:x.key<;>rw [c] at b<;>first|exact ⟨_,_,rfl⟩|exact eI b
  |_=>rw [hd] at e;exact eI e
theorem uE(e:ly h=fu):Ja h=true/\yn (BU h) 3 "law"=some (.ref 813)/\tE h=true/\yo (BU h)=true/\uG (BU h)=qH/\j9 (BU h)=iV:=by delta ly fu at e;simp only [nX,dD,j6] at e;exact ⟨e.1.1,e.1.2.1,e.1.2.2,e.2.1,e.2.2.1,e.2.2.2⟩
theorem Em(k:∀b o,h.get? b=some o->h'.get? b=some o)(e:ly h=fu):ly h'=fu:=by refine gl λi f=>?_;refine lO (uE e) λe1 e2 g a d c=>?_;refine aq (Ef k e1) λq1 q2=>?_;refine f ?_;delta ly fu;rw [q1,q2,e2,ye k g,a,d,c,rf];rfl
theorem vO{a:Addr}(N:h.Ns a m)(c:a≠6):(h.hide 6).Ns a m:=by refine iW N λo es b e r=>?_;clear N;exact vY o es b ((Heap.hide_ne h c).trans e) r
theorem Eo{P:Params}(l:List Int):∀{vs:List Value},WellAll P h vs (l.map .int)->cr g (l.map .int) vs:=by
 induction l with
 |nil=>intro vs w;cases w;exact .nil
 |cons i l b=>intro vs w;cases w with|cons a r=>cases a;exact .cons (.int i _) (b r)
theorem int_has{R:WRecords}{x:WData}(h:WShape.has R x .int=true):∃i,x=.int i:=by
 cases x with
 |int i=>exact ⟨i,rfl⟩
 |_=>exact eI h
theorem I0{R:WRecords}(a:List WData):WShape.hasItems R a .int=true->∃l:List Int,a=l.map .int:=by
 induction a with
 |nil=>exact λ_=>⟨[],rfl⟩
 |cons x a c=>
  intro h;refine aq (nU h) λe d=>?_;refine ar (int_has e) λi b=>?_;clear h e;subst b;refine ar (c d) λl b=>?_;clear c d;subst b;exact ⟨i::l,rfl⟩
theorem list_has{R:WRecords}{x:WData}(h:WShape.has R x (.list .int)=true):∃xs,x=.list xs/\WShape.hasItems R xs .int=true:=by
 cases x with
 |list xs=>exact ⟨xs,rfl,(lJ _ _▸h:_\/_).elim id (λh=>eI h)⟩
 |_=>exact eI h
theorem LV{args:List WData}(a:ka.claim.pre args=true):∃l:List Int,args=[.list (l.map .int)]/\l.length<=1000:=by
 refine aq (pre_splitW a) λg j=>?_;refine aP (hasAllW_cons (g)) λd r i hd h=>?_;clear a g;subst i;obtain rfl:=hasAllW_nil h;refine ae (list_has hd) λk b f=>?_;clear hd;subst b;refine ar (I0 _ f) λl b=>?_;clear f;subst b;refine ⟨l,rfl,?_⟩;have c:WTm.holds ka.records (.and (.not (.lt (.lit (.int 63)) (.len (.arg 0)))) (.lit (.bool true))) {args:=[.list (l.map .int)]}=true:=j;refine Nat.le_of_not_lt λq=>?_;have e:(WTm.and (.not (.lt (.lit (.int 63)) (.len (.arg 0)))) (.lit (.bool true))).value ka.records {args:=[.list (l.map .int)]}=match some (WData.bool (!decide ((63:Int)<(l.map WData.int).length))) with
  |some (.bool false)=>some (.bool false)
  |some (.bool true)=>some (.bool true)
  |_=>none:=rfl
 unfold WTm.holds at c;rw [e,dG,cQ (Int.lt_of_lt_of_le (by decide) (Int.ofNat_le.mpr (px q):((1000:Nat):Int)<=_))] at c;exact eI c
theorem I1{a:Addr}{vs:List Value}(h:g.cm a=some {cls:=.type "list",data:=.seq vs.toArray})(r:cr g l vs):RV g (.lst l) (.ref a):=.lst h (by simpa using r)
noncomputable def F6(X:Cx):Fx:=⟨X,λ_=>none,λ_=>none,{scope:=⟨.function,[],false,false,[]⟩,locals:=6,globals:=mainGlobals,cells:=[],code:=.none},[],[],none⟩
noncomputable def g6(w:World)(h:Heap):G:=⟨w,λb=>if b=6 then none else h.get? b,[]⟩
theorem I2{b:Addr}(a:b≠6)(e:h.get? b=some o):(g6 w h).cm b=some o:=(bj a).trans e
theorem Vb{d:Str->Option Value}(f:X.base=s.heap.hide 6)(p:s.os=X.os)(l:X.fN=λ_=>none)(q:s.heap.Ns 6 d)(m:s.gens= #[]):Y1 (F6 X) (g6 X.w s.heap) [] [] s:=by
 refine ⟨rfl,λb o e=>Heap.of_hide (f▸e),(λb o e=>aG e),(λb o e=>aG e),λb o e=>?_,rfl,(λk a c e=>aG e),nodup_cons.mpr ⟨jS,nodup_nil⟩,λb g=>?_,⟨d,q,λi n v e=>aG e⟩,m,p,(λb o e=>aG e),⟨[],rfl,(λk a ks vs e=>aG e),(λT e=>absurd e jS),λi j T e=>aG e⟩,(λb o e=>by replace e:=(l)▸e;exact aG e),(λb o e=>aG e),λh e=>aG e⟩
 ·have e:(if b=6 then none else s.heap.get? b)=some o:=e;split at e
  ·exact aG e
  ·exact e
 ·obtain rfl:=mem_singleton.mp (g);exact ⟨by show X.base.get? 6=none;refine f▸?_;exact Heap.hide_self _ _,rfl,rfl,(show (if (6:Addr)=6 then none else s.heap.get? 6)=none from bx rfl)⟩
theorem I3{q:Program}{XP:(Str->Option Value)->Heap->Prop}{d:DefRec}{E:List (Str×Expr)}(hn:d.name="law"):
 WalkO q loose XP (λ_ h=>ly h=fu) ka d E λf vs=>PySem.call f vs:=by
 intro w ym k W A G Y U o pm cd R dV kV M hd Qs hD j C args Zq as c F I B YY
 refine ae (LV c) λl O y=>?_;clear I M c F;subst O
 refine lO (uE Y) λe1 e2 N D K J=>?_
 refine ar (IZ N) λm6 r=>?_
 refine bg (id r) λo6 YZ Y0 g6 d6 _=>?_
 cases B with
 |cons V v=>
 cases v
 cases V with
 | @list a vs _ i u=>
 have t:=Pd D
 have x:U=813:=by have z:=Ai (IJ k.heap) G.T.g t.n3 "law";replace j:=hn▸j;replace z:=e2▸z;replace z:=j▸z;clear j;cases z;rfl
 clear j;subst x
 have Z:a≠6:=λz=>by subst z;replace i:=g6▸i;clear g6;(replace i:=aw i;subst i);cases d6
 let X:Cx:=⟨ka.prog,w,k.heap.hide 6,W,A,k.os,λ_=>none,BU k.heap⟩
 have H:Seen X:=⟨IY _,t,vO G.T.g (by decide),vO G.T.b (by decide),G.T.builtins,(let ⟨P,n,z⟩:=G.T.nolimit;⟨P,vO n (by decide),z⟩),K,J⟩
 refine LR H.tw rfl (λ_=>rfl) (λ_=>rfl) rfl rfl (Vb (X:=X) rfl rfl rfl r C) ⟨rfl,by decide+kernel,by decide+kernel,(λe p=>nomatch p),(λe p=>nomatch p),rfl⟩ y (I1 (I2 Z i) (Eo l u)) λg' S S' L m Q=>?_
 refine GoodW.toG ⟨.inl ⟨.bool true,.bool true,[],rfl,λ_=>rfl,.bool true,by trivial,λ_=>⟨nodup_nil,λa e=>nomatch e⟩⟩,λb o e=>?_,m.os,m.gens⟩
 by_cases s:b=6
 ·subst s;refine (show S.heap.get? 6=k.heap.get? 6 from Q)▸?_;exact e
 ·exact m.cm b o (L.cm b o (I2 s e))
end Internal
theorem PySem.Challenge.cw_np0153_01_holds : PySem.Challenge.rw_np0153_01.Holds :=
 Internal.Nh (λ_ _ e k=>Internal.Em k e) Internal.I3
