import PyProof.Rows.All
import Wide.All
import OpenK.AllK
import Wide.FinOn
import PySem.Challenge.RW_pq0117_01
open PySem PySem.Calls PyProof.Rows PySem.W
set_option Elab.async false
set_option maxRecDepth 100000
set_option linter.all false
set_option autoImplicit false
noncomputable section
namespace Pq
noncomputable def Acl(i:Nat):Stmt:=PySem.Challenge.pw_pq0117_01.main.body.getD i (.Pass ⟨0,0,0,0⟩)
noncomputable def stmD(s:Stmt):Str×Arguments×List Stmt×Scope:=match s with
 | .FunctionDef (name:=n) (args:=a) (body:=b) (scope:=c) ..=>(n,a,b,c)
 | .ClassDef (name:=n) (body:=b) ..=>(n,{ posonlyargs:=[],args:=[],vararg:=none,kwonlyargs:=[],kw_defaults:=[],kwarg:=none,defaults:=[] },b,default)
 | .For (body:=b) ..=>("",{ posonlyargs:=[],args:=[],vararg:=none,kwonlyargs:=[],kw_defaults:=[],kwarg:=none,defaults:=[] },b,default)
 | .If (body:=b) ..=>("",{ posonlyargs:=[],args:=[],vararg:=none,kwonlyargs:=[],kw_defaults:=[],kwarg:=none,defaults:=[] },b,default)
 | _=>("",{ posonlyargs:=[],args:=[],vararg:=none,kwonlyargs:=[],kw_defaults:=[],kwarg:=none,defaults:=[] },[],default)
noncomputable def Ah4(s:Stmt):Arguments:=(stmD s).2.1
noncomputable def AcO(s:Stmt):List Stmt:=(stmD s).2.2.1
noncomputable def AaB(s:Stmt):Scope:=(stmD s).2.2.2
noncomputable def AeR(i j:Nat):Stmt:=(AcO (Acl i)).getD j (.Pass ⟨0,0,0,0⟩)
noncomputable def Abi(K:Frag)(x:Str):Option Value:=Option.casesOn (nsIn K mainGlobals x) none fun o=>Option.casesOn o (bootBuiltins x) fun v=>some v
noncomputable def AaO(K:Frag)(v:Value):Bool:=Nat.beq v.ctorIdx 9||(Nat.beq v.ctorIdx 8||keepIn K v)
noncomputable def AfR(K:Frag)(C:Addr)(name:Str)(f:Addr):Bool:=plainGet K C name&&findIn K (.ref C) name==some (some (.ref f))&&isFn K (.ref f)
noncomputable def Afj(K:Frag)(C:Addr)(name:Str):Bool:=plainGet K C name&&hasDictIn K C&&findIn K (.ref C) name==some none
noncomputable def Ae2(K:Frag)(C:Addr)(name:Str):Bool:=plainOver K C&&takerIn K C name==some none&&(clsIn K C).any (·.hasDict)&&findIn K (.ref C) "__setattr__"==some (some (.builtin "object.__setattr__"))
noncomputable def Ai6(K:Frag)(C fI:Addr):Bool:=makesIn K C&&findIn K (.ref C) "__init__"==some (some (.ref fI))&&typeIn K (.ref fI)==some (.type "function")
noncomputable abbrev bmX(D:Addr):List Value:=[.ref D,.type "Exception",.type "BaseException",.type "object"]
noncomputable def heS:Stmt:=AeR 1 0
noncomputable def nameS(s:Stmt):Str:=(stmD s).1
noncomputable def refA(v:Value):Addr:=Value.casesOn v 0 0 0 (fun jj=>0) (fun jj jj=>0) (fun jj jj=>0) (fun jj jj=>0) (fun jj jj=>0) (fun jj=>0) (fun jj=>0) fun a=>a
noncomputable def gA(K:Frag)(x:Str):Addr:=Option.casesOn (Abi K x) 0 refA
noncomputable def mA(K:Frag)(C:Addr)(x:Str):Addr:=Option.casesOn (findIn K (.ref C) x) 0 fun v=>Option.casesOn v 0 refA
noncomputable def aK(K:Frag)(i:Nat):Addr:=gA K (nameS (Acl i))
noncomputable def mK(K:Frag)(i j:Nat):Addr:=mA K (aK K i) (nameS (AeR i j))
noncomputable def funD(o:Obj):Option FuncData:=Data.casesOn o.data none (fun jj=>none) (fun jj jj=>none) (fun jj jj=>none) (fun jj jj jj=>none) (fun jj jj=>none) (fun jj=>none) (fun f=>some f) (fun jj=>none) (fun jj=>none) none
noncomputable def stmB(fd:FuncData):Option (List Stmt):=FuncBody.casesOn fd.body (fun b=>some b) fun jj=>none
noncomputable def Aef(K:Frag)(f:Addr):Option (Arguments×List Stmt×Scope):=(K.lookup f).bind fun o=>(funD o).bind fun fd=>(stmB fd).bind fun b=>
 if(fd.globals==mainGlobals&&fd.closure.isEmpty&&fd.defaults==.none&&fd.builtins==builtinsNs&&codeIn K fd.code fd.qualname)=true then some (fd.params,b,fd.scope) else none
noncomputable def AfG(s:Stmt):Option (Arguments×List Stmt×Scope):=some (Ah4 s,AcO s,AaB s)
noncomputable def fdOf(K:Frag)(f:Addr):Option FuncData:=(K.lookup f).bind funD
noncomputable def Ahw(K:Frag)(f:Addr):Addr:=Option.casesOn (fdOf K f) 0 fun fd=>List.casesOn fd.closure 0 fun p jj=>p.2
noncomputable def Ahv(K:Frag)(f:Addr):Addr:=Option.casesOn (fdOf K f) 0 fun fd=>refA fd.code
noncomputable def Aed(K:Frag)(f:Addr):Option (Arguments×List Stmt×Scope):=(K.lookup f).bind fun o=>(funD o).bind fun fd=>(stmB fd).bind fun b=>
 if(o.cls==.type "function"&&fd.globals==mainGlobals&&fd.closure==[(("__class__":Str),Ahw K f)]&&fd.defaults==.none&&fd.builtins==builtinsNs&&fd.code==.ref (Ahv K f)&&codeIn K fd.code fd.qualname)=true then some (fd.params,b,fd.scope) else none
noncomputable def clsD(o:Obj):Option ClassData:=Data.casesOn o.data none (fun jj=>none) (fun jj jj=>none) (fun jj jj=>none) (fun jj jj jj=>none) (fun jj jj=>none) (fun jj=>none) (fun jj=>none) (fun c=>some c) (fun jj=>none) none
noncomputable def excO2(o:Obj)(C D:Addr):Bool:=Option.casesOn (clsD o) false fun cd=>o.cls==.type "type"&&(cd.mro==(.ref C::bmX D)&&cd.hasDict&&!cd.hasDel)&&(o.slots.toList.length==6&&o.slots.toList[4]?==some (some (.builtin "Exception.__new__")))
noncomputable def excC(K:Frag)(C D:Addr):Bool:=Option.casesOn (K.lookup C) false fun o=>excO2 o C D
noncomputable def fnI:List Nat:=[6,8,9,10,11,12,13,14,20,21,22,23,24,25,26,27,28,29,30,31,32]
noncomputable def mI:List (Nat×Nat):=[(16,0),(16,1),(16,2),(16,3),(16,4),(16,5),(16,6),(18,0)]
noncomputable def gI:List (Str×Nat):=[("turned_step",6),("is_variable",8),("variables",9),("placed",10),("parts",11),("part_at",12),("replaced",13),("matched",14),("Seeker",16),("Rule",18),("LimitFault",4),("_law_next",20),("_law_hand",21),("_law_sides",22),
  ("_law_term",23),("_law_fits",24),("_law_filled",25),("_law_names",26),("_law_here",27),("_law_near",28),("_law_far",29),("_law_is_walked",30),("_law_narrow",31)]
noncomputable def bI:List (Str×String):=[("len","len"),("sorted","sorted"),("abs","abs"),("sum","sum")]
noncomputable def tI:List (Str×String):=[("enumerate","enumerate"),("range","range"),("tuple","tuple"),("list","list"),("set","set"),("reversed","reversed"),("zip","zip")]
noncomputable def hI:List (Str×Nat):=[("turns",1),("beside",2),("grown",3),("back_from",4),("way",5),("through",6)]
noncomputable def AfF(K:Frag):List (Option (Arguments×List Stmt×Scope)):=Aed K (mA K (aK K 4) "__init__")::(fnI.map fun i=>Aef K (aK K i))++mI.map fun p=>Aef K (mK K p.1 p.2)
noncomputable def Ad5:List (Option (Arguments×List Stmt×Scope)):=AfG heS::(fnI.map fun i=>AfG (Acl i))++mI.map fun p=>AfG (AeR p.1 p.2)
noncomputable def chk1(K:Frag):Bool:=([6,8,9,10,11,12,13,14,16,18,20,21,22,23,24,25,26,27,28,29,30,31]:List Nat).all (fun i=>AaO K (.ref (aK K i)))&&gI.all (fun p=>Abi K p.1==some (.ref (aK K p.2))) &&
 bI.all (fun p=>Abi K p.1==some (.builtin p.2))&&tI.all (fun p=>Abi K p.1==some (.type p.2))&&([1,2,3,4,5,6]:List Nat).all (fun j=>AaO K (.ref (mK K 16 j)))&&hI.all (fun p=>AfR K (aK K 16) p.1 (mK K 16 p.2)) &&
 ([16,18]:List Nat).all (fun i=>Ai6 K (aK K i) (mK K i 0))&&(["sides","goes_back"]:List Str).all (fun x=>Afj K (aK K 16) x&&Ae2 K (aK K 16) x)&&(["name","left","right","needs"]:List Str).all fun x=>Afj K (aK K 18) x&&Ae2 K (aK K 18) x
noncomputable def fldD(o:Obj):Option (Array Value):=Data.casesOn o.data none (fun jj=>none) (fun jj jj=>none) (fun jj jj=>none) (fun jj jj jj=>none) (fun jj jj=>none) (fun jj=>none) (fun jj=>none) (fun jj=>none) (fun v=>some v) none
noncomputable def celD(o:Obj):Option Value:=Data.casesOn o.data none (fun jj=>none) (fun jj jj=>none) (fun jj jj=>none) (fun jj jj jj=>none) (fun jj jj=>none) (fun v=>v) (fun jj=>none) (fun jj=>none) (fun jj=>none) none
noncomputable def strD(v:Value):Option Str:=Value.casesOn v none none none (fun jj=>none) (fun jj jj=>none) (fun jj jj=>none) (fun x jj=>some x) (fun jj jj=>none) (fun jj=>none) (fun jj=>none) fun jj=>none
noncomputable def cdOk(K:Frag)(c:Addr)(file:Str):Bool:=(((K.lookup c).bind fldD).bind fun vs=>vs[2]?.bind strD)==some file
noncomputable def clOk(K:Frag)(c D:Addr):Bool:=((K.lookup c).bind celD)==some (.ref D)
noncomputable def chk2(K:Frag)(p:Program):Bool:=let C:=aK K 4;let D:=aK K 1;let f:=mA K C "__init__"
 excC K C D&&C != D&&findIn K (.ref C) "__init__"==some (some (.ref f))&&findIn K (.ref C) "__setattr__"==some (some (.builtin "object.__setattr__"))&&findIn K (.ref C) "what"==some none&&cdOk K (Ahv K f) p.main.file&&clOk K (Ahw K f) D &&
 ((K.lookup D).bind clsD).isSome&&Abi K "super"==some (.type "super")&&nsIn K cStatics "thirdparty.any"==some none&&!(p.main.scope.names.lookup ("super":Str)).isSome&&keepIn K (.ref C)&&exmOne K (.ref C) (.ref C)==some true&&decide (sysModules<aK K 16)&&(K.lookup (aK K 16)).isSome&&nsIn K mainGlobals "law"==some (some (.ref (aK K 32)))
noncomputable def Aid:Program:=PySem.Challenge.pw_pq0117_01
noncomputable def topV:Program:=view Aid [32]
noncomputable def Ahj:List Str:=["HeapError","TermFault","RuleFault","LimitFault","turned_step","is_variable","variables","placed","parts","part_at","replaced","matched","Seeker","Rule","_law_next","_law_hand","_law_sides","_law_term","_law_fits","_law_filled","_law_names","_law_here","_law_near","_law_far","_law_is_walked","_law_narrow"]
noncomputable def Ahq(h:Heap):Frag:=([2,3,18,29,30,39,40,76,77,85,86,92,93,97,98,102,103,107,108,114,115,121,122,128,129,140,141,147,148,154,155,161,162,168,169,173,174,178,179,181,182,197,198,207,208,218,219,223,224,230,231,237,238,242,243,247,248,252,253,259,260,266,267,273,274,278,279,285,286,290,291]:List Nat).filterMap fun a=>(h.get? a).map fun o=>(a,o)
theorem Afk{h:Heap}:∀ (l:List Nat) {a:Addr} {o:Obj},(l.filterMap fun a=>(h.get? a).map fun o=>(a,o)).lookup a=some o→h.get? a=some o
 | [],_,_,e=>by cases e
 | b::l,a,o,e=>by
  rw[List.filterMap_cons] at e
  cases hb:h.get? b with
  | none=>rw[hb] at e;exact Afk l e
  | some x=>
   rw[hb] at e
   simp only[Option.map_some,List.lookup] at e
   split at e
   ·rename_i q;cases e;rw[beq_iff_eq.mp q];exact hb
   ·exact Afk l e
noncomputable def Aex:Hook where
 α:=List (Option (Arguments×List Stmt×Scope))×Bool
 obs s:=(AfF (Ahq s.heap),chk1 (Ahq s.heap)&&chk2 (Ahq s.heap) Aid)
 val _:=(Ad5,true)
 says _ h:=∃ K:Frag,K.In h∧AfF K=Ad5∧chk1 K=true∧chk2 K Aid=true
 of _ s e:=⟨Ahq s.heap,fun jj jj q=>Afk _ q,(Prod.mk.inj e).1,Bool.and_eq_true_iff.mp (Prod.mk.inj e).2⟩
 keeps _ _ _:=fun ⟨K,a,b⟩ k=>⟨K,a.keeps k,b⟩
noncomputable def runT(p:Program)(w:World)(n₀:Nat)(ann:Option Value)(n:Nat):SharedT→Thread→Option SharedT:=
 Nat.rec (fun jj jj=>none) (fun jj ih s t=>Bool.casesOn (through t) (Bool.casesOn (stepOk n₀ ann t) none (Option.casesOn (stepT (denote treeTable) p w s t) none fun x=>ih x.1 x.2)) (some s)) n
theorem topRun_s(p:Program)(w:World)(n₀:Nat)(ann:Option Value)(n:Nat)(s:Shared)(t:Thread):PySem.W.topRun treeTable p w n₀ ann (n+1) s t =
  Bool.casesOn (through t) (Bool.casesOn (stepOk n₀ ann t) none (Step.casesOn (step (denote treeTable) p w s t) (fun s' t'=>PySem.W.topRun treeTable p w n₀ ann n s' t') fun jj jj=>none)) (some s):=by kernel_rfl
theorem runT_of{p:Program}{w:World}{n₀:Nat}{ann:Option Value}(n:Nat):∀ {s s':SharedT} {t:Thread},runT p w n₀ ann n s t=some s'→PySem.W.topRun treeTable p w n₀ ann n s.abs t=some s'.abs:=by
 induction n with
 | zero=>intro _ _ _ h;cases h
 | succ n ih=>
  intro s s' t h
  replace h:(Bool.casesOn (through t) (Bool.casesOn (stepOk n₀ ann t) none (Option.casesOn (stepT (denote treeTable) p w s t) none fun x=>runT p w n₀ ann n x.1 x.2)) (some s):Option SharedT)=some s':=h
  rw[topRun_s]
  generalize through t=a at h ⊢
  cases a with
  | true=>cases h;rfl
  | false=>
   replace h:(Bool.casesOn (stepOk n₀ ann t) none (Option.casesOn (stepT (denote treeTable) p w s t) none fun x=>runT p w n₀ ann n x.1 x.2):Option SharedT)=some s':=h
   generalize stepOk n₀ ann t=b at h ⊢
   cases b with
   | false=>cases h
   | true=>
    replace h:(Option.casesOn (stepT (denote treeTable) p w s t) none fun x=>runT p w n₀ ann n x.1 x.2:Option SharedT)=some s':=h
    cases e:stepT (denote treeTable) p w s t with
    | none=>rw[e] at h;cases h
    | some x=>rw[e] at h;rw[stepT_spec e];exact ih h
theorem left_of{p q:Program}{loose:List Str}{Xt:Shared→Bool}{α:Type}{Yf:Shared→α}{Ya:World→α}{N m₀:Nat}{ann:Option Value}{H₀:Params→Heap}{gs₀:Array GenState}{d₀:Drawn}{k₀:Nat}{S₀:World→OsState→SharedT}
  (open_:∀ w:World,(fencedOpening treeTable p w N).map (fun s=>(s.heap,s.gens,s.drawn,s.toks))=some (H₀ w.params,gs₀,d₀,k₀))
  (size:∀ w:World,((H₀ w.params).isNs mainGlobals&&gs₀.size==0,(H₀ w.params).objs.size,(H₀ w.params).nsMap mainGlobals "__annotations__")=(true,m₀,ann))
  (abs:∀ w os,(S₀ w os).abs=⟨H₀ w.params,gs₀,d₀,k₀,os⟩)
  (look:∀ w os,(runT p w m₀ ann N (S₀ w os) (topStub p)).map (fun s=>(staticsOk (importedModules p.main.body) (H₀ w.params) s.abs.heap&&namesBound p s.abs.heap&&gensDone s.abs&&laidKept (H₀ w.params) s.abs.heap,
   openSeen q loose (importedModules p.main.body) Xt true s.abs,Yf s.abs))=some (true,openGood q loose,Ya w)):LeftO p q loose Xt Yf Ya N:=fun w=>by
 obtain⟨⟨h,gs,d,k,os⟩,e,e'⟩:=Option.map_eq_some_iff.mp (open_ w)
 obtain⟨rfl,e1⟩:=Prod.mk.inj (show(h,gs,d,k)=_ from e')
 obtain⟨rfl,e2⟩:=Prod.mk.inj e1
 obtain⟨rfl,rfl⟩:=Prod.mk.inj e2
 obtain⟨s,hr,hl⟩:=Option.map_eq_some_iff.mp (look w os)
 obtain⟨l1,l2⟩:=Prod.mk.inj hl
 obtain⟨z1,z⟩:=Prod.mk.inj (size w)
 obtain⟨z2,z3⟩:=Prod.mk.inj z
 have r:=runT_of N hr
 rw[abs] at r
 have t:topFrom treeTable p w N ⟨H₀ w.params,gs,d,k,os⟩=some s.abs:=by
  unfold topFrom
  dsimp only
  rw[z1,z2,z3,r]
  show(match staticsOk (importedModules p.main.body) (H₀ w.params) s.abs.heap&&namesBound p s.abs.heap&&gensDone s.abs&&laidKept (H₀ w.params) s.abs.heap with | true=>_ | false=>_)=_
  rw[l1]
 unfold openEnds
 rw[e]
 show(topFrom treeTable p w N _).map _=_
 rw[t]
 exact congrArg some l2
noncomputable def bootT(P:Params):BT:=(List.foldl (fun x o=>(BT.ins x.1 x.2 o,Nat.succ x.2)) (BT.nil,0) (boot_heap P).objs.toList).1
noncomputable def bootL:Life:={ debug:=Int.ofNat 0,thresholds:=[Int.ofNat 2000,Int.ofNat 10,Int.ofNat 10] }
noncomputable def bootS(w:World)(os:OsState):SharedT:=⟨bootT w.params,11,bootL,#[],boot_drawn,boot_toks,os⟩
noncomputable def recsV(s:Shared):Bool:=xlAt topV [] s&&recOk (RowW.records (OpenRow.toRowW PySem.Challenge.rw_pq0117_01.row)) s
set_option maxRecDepth 1000000 in
set_option maxHeartbeats 80000000 in
theorem top_look(w:World)(os:OsState):(runT Aid w 11 (some (.ref 6)) 4684 (bootS w os) (topStub Aid)).map (fun s=>
  (staticsOk (importedModules Aid.main.body) (boot_heap w.params) s.abs.heap&&namesBound Aid s.abs.heap&&gensDone s.abs&&laidKept (boot_heap w.params) s.abs.heap,
   openSeen topV Ahj (importedModules Aid.main.body) recsV true s.abs,Aex.obs s.abs))=some (true,openGood topV Ahj,Aex.val w):=by kernel_rfl
theorem law_open(w:World):(fencedOpening treeTable Aid w 4684).map (fun s=>(s.heap,s.gens,s.drawn,s.toks))=some (boot_heap w.params,#[],boot_drawn,boot_toks):=
 boot_open (by kernel_rfl) rfl (fun jj=>rfl) w
theorem boot_all(w:World):((boot_heap w.params).isNs mainGlobals&&(#[]:Array GenState).size==0,(boot_heap w.params).objs.size,(boot_heap w.params).nsMap mainGlobals "__annotations__")=(true,11,some (.ref 6)):=by kernel_rfl
theorem Aje(w:World)(os:OsState):(bootS w os).abs=⟨boot_heap w.params,#[],boot_drawn,boot_toks,os⟩:=by kernel_rfl
theorem topRun:LeftO Aid topV Ahj recsV Aex.obs Aex.val 4684:=left_of law_open boot_all Aje top_look
set_option maxRecDepth 1000000 in
set_option maxHeartbeats 80000000 in
theorem law_said:OpenLaw.wellSaid PySem.Challenge.rw_pq0117_01=true:=by
 delta OpenLaw.wellSaid OpenRow.wellSaid OpenRow.partSaid looksOpen
 repeat' (with_reducible apply look_both)
 all_goals decide +kernel
end Pq
namespace Pq
set_option genSizeOf false in
set_option genInjectivity false in
inductive Ln where
 | n (k:Nat) | v (i:Nat) | a (x y:Ln) | m (k:Nat) (x:Ln) | w (x:Ln) (k:Nat) | p (i k:Nat) | b (i j:Nat)
set_option genSizeOf false in
set_option genInjectivity false in
inductive Ct where
 | g (m:Nat) (x y:Ln) | c (k:Nat) (x y:Ln) (t:Ct) | e (k j:Nat) (x y:Ln) (t:Ct)
noncomputable section
noncomputable def Ln.ev(s:List Nat)(e:Ln):Nat:=Ln.rec (fun k=>k) (fun i=>s.getD i 0) (fun jj jj x y=>x+y) (fun k jj x=>k * x) (fun jj k x=>x * k) (fun i k=>s.getD i 0+k) (fun i j=>s.getD i 0+s.getD j 0) e
noncomputable def Ln.cf(e:Ln):Nat→Nat:=Ln.rec (fun k j=>bif Nat.beq j 0 then k else 0) (fun i j=>bif Nat.beq j (i+1) then 1 else 0) (fun jj jj x y j=>x j+y j) (fun k jj x j=>k * x j) (fun jj k x j=>k * x j) (fun i k j=>(bif Nat.beq j (i+1) then 1 else 0)+bif Nat.beq j 0 then k else 0) (fun i k j=>(bif Nat.beq j (i+1) then 1 else 0)+bif Nat.beq j (k+1) then 1 else 0) e
noncomputable def Ct.P(s:List Nat)(c:Ct):Prop:=Ct.rec (fun jj x y=>x.ev s≤y.ev s) (fun jj x y jj t=>x.ev s≤y.ev s→t) (fun jj jj x y jj t=>x.ev s=y.ev s→t) c
noncomputable def Ct.l(c:Ct):Nat→Nat:=Ct.rec (fun m jj y j=>(m+1) * y.cf j+bif Nat.beq j 0 then m else 0) (fun k x jj jj t j=>k * x.cf j+t j) (fun k i x y jj t j=>k * x.cf j+(i * y.cf j+t j)) c
noncomputable def Ct.r(c:Ct):Nat→Nat:=Ct.rec (fun m x jj j=>(m+1) * x.cf j) (fun k jj y jj t j=>k * y.cf j+t j) (fun k i x y jj t j=>k * y.cf j+(i * x.cf j+t j)) c
noncomputable def dot(f:Nat→Nat)(s:List Nat):Nat:=List.rec (fun jj=>0) (fun x jj d f=>f 0 * x+d fun j=>f (j+1)) s f
noncomputable def les(f g:Nat→Nat)(n:Nat):Bool:=Nat.rec true (fun j b=>Nat.ble (f j) (g j)&&b) n
theorem Aib{a b c d:Nat}(h:a=b)(k:c=d):a+c=b+d:=h▸k▸rfl
theorem AbW(f g:Nat→Nat)(s:List Nat):dot (fun j=>f j+g j) s=dot f s+dot g s:=by
 induction s generalizing f g with
 | nil=>rfl
 | cons x s ih=>exact(Aib (Nat.add_mul ..) (ih _ _)).trans (Nat.add_add_add_comm ..)
theorem AcY(k:Nat)(f:Nat→Nat)(s:List Nat):dot (fun j=>k * f j) s=k * dot f s:=by
 induction s generalizing f with
 | nil=>rfl
 | cons x s ih=>exact(Aib (Nat.mul_assoc ..) (ih _)).trans (Nat.mul_add ..).symm
theorem Ahu(s:List Nat):dot (fun jj=>0) s=0:=by
 induction s with
 | nil=>rfl
 | cons x s ih=>exact Aib (Nat.zero_mul x) ih
theorem dot_n(k:Nat)(s:List Nat):dot (Ln.n k).cf (1::s)=k:=(Aib (Nat.mul_one k) (Ahu s)).trans (Nat.add_zero k)
theorem dot_v(i:Nat)(s:List Nat):dot (fun j=>bif Nat.beq j i then 1 else 0) s=s.getD i 0:=by
 induction s generalizing i with
 | nil=>rfl
 | cons x s ih=>
  cases i with
  | zero=>exact(Aib (Nat.one_mul x) (Ahu s)).trans (Nat.add_zero x)
  | succ i=>exact(Aib (Nat.zero_mul x) (ih i)).trans (Nat.zero_add _)
theorem dot_w(i:Nat)(s:List Nat):dot (Ln.v i).cf (1::s)=s.getD i 0:=(Aib (Nat.zero_mul 1) (dot_v i s)).trans (Nat.zero_add _)
theorem Ln.ev_dot(s:List Nat)(e:Ln):dot e.cf (1::s)=e.ev s:=by
 induction e with
 | n k=>exact dot_n k s
 | v i=>exact dot_w i s
 | p i k=>exact(AbW (Ln.v i).cf (Ln.n k).cf _).trans (Aib (dot_w i s) (dot_n k s))
 | b i j=>exact(AbW (Ln.v i).cf (Ln.v j).cf _).trans (Aib (dot_w i s) (dot_w j s))
 | a x y hx hy=>exact(AbW x.cf y.cf _).trans (Aib hx hy)
 | m k x h=>exact(AcY k x.cf _).trans (congrArg (k * ·) h)
 | w x k h=>exact(AcY k x.cf _).trans ((congrArg (k * ·) h).trans (Nat.mul_comm ..))
theorem les_at{f g:Nat→Nat}{n:Nat}(h:les f g n=true):∀ j,j<n→f j≤g j:=by
 induction n with
 | zero=>exact fun j h=>absurd h (Nat.not_lt_zero j)
 | succ n ih=>
  obtain⟨a,b⟩:=Bool.and_eq_true_iff.mp h
  intro j hj
  rcases Nat.lt_or_eq_of_le (Nat.le_of_lt_succ hj) with q | rfl
  ·exact ih b j q
  ·exact Nat.le_of_ble_eq_true a
theorem dot_le{s:List Nat}{f g:Nat→Nat}(h:∀ j,j<s.length→f j≤g j):dot f s≤dot g s:=by
 induction s generalizing f g with
 | nil=>exact Nat.le_refl _
 | cons x s ih=>exact Nat.add_le_add (Nat.mul_le_mul_right _ (h 0 (Nat.succ_pos _))) (ih fun j hj=>h (j+1) (Nat.succ_lt_succ hj))
theorem Ct.use{s:List Nat}(c:Ct)(h:dot c.r (1::s)≤dot c.l (1::s)):c.P s:=by
 induction c with
 | g m x y=>
  have e1:dot (Ct.g m x y).r (1::s)=(m+1) * x.ev s:=(AcY (m+1) x.cf _).trans (congrArg ((m+1) * ·) (x.ev_dot s))
  have e2:dot (Ct.g m x y).l (1::s)=(m+1) * y.ev s+m:=(AbW (fun j=>(m+1) * y.cf j) (Ln.n m).cf _).trans (Aib ((AcY (m+1) y.cf _).trans (congrArg ((m+1) * ·) (y.ev_dot s))) (dot_n m s))
  rw[e1,e2] at h
  refine Nat.le_of_lt_succ (Nat.lt_of_mul_lt_mul_left (a:=m+1) (Nat.lt_of_le_of_lt h ?_))
  rw[Nat.mul_succ]
  exact Nat.lt_succ_self _
 | c k x y t ih=>
  intro hxy
  have e1:dot (Ct.c k x y t).r (1::s)=k * y.ev s+dot t.r (1::s):=(AbW (fun j=>k * y.cf j) t.r _).trans (congrArg (·+_) ((AcY k y.cf _).trans (congrArg (k * ·) (y.ev_dot s))))
  have e2:dot (Ct.c k x y t).l (1::s)=k * x.ev s+dot t.l (1::s):=(AbW (fun j=>k * x.cf j) t.l _).trans (congrArg (·+_) ((AcY k x.cf _).trans (congrArg (k * ·) (x.ev_dot s))))
  rw[e1,e2] at h
  exact ih (Nat.le_of_add_le_add_left (a:=k * y.ev s) (Nat.le_trans h (Nat.add_le_add_right (Nat.mul_le_mul_left k hxy) _)))
 | e k i x y t ih=>
  intro hxy
  have e0:∀ (k:Nat) (z:Ln),dot (fun j=>k * z.cf j) (1::s)=k * z.ev s:=fun k z=>(AcY k z.cf _).trans (congrArg (k * ·) (z.ev_dot s))
  have e1:dot (Ct.e k i x y t).r (1::s)=k * y.ev s+(i * x.ev s+dot t.r (1::s)):=(AbW (fun j=>k * y.cf j) (fun j=>i * x.cf j+t.r j) _).trans (Aib (e0 k y) ((AbW (fun j=>i * x.cf j) t.r _).trans (congrArg (·+_) (e0 i x))))
  have e2:dot (Ct.e k i x y t).l (1::s)=k * x.ev s+(i * y.ev s+dot t.l (1::s)):=(AbW (fun j=>k * x.cf j) (fun j=>i * y.cf j+t.l j) _).trans (Aib (e0 k x) ((AbW (fun j=>i * y.cf j) t.l _).trans (congrArg (·+_) (e0 i y))))
  rw[e1,e2,hxy] at h
  exact ih (Nat.le_of_add_le_add_left (Nat.le_of_add_le_add_left h))
theorem Ct.run{s:List Nat}(c:Ct)(h:les c.r c.l (s.length+1)=true):c.P s:=c.use (dot_le (les_at h))
theorem lt2{a:Nat}(h:a<2):a=0∨a=1:=(Nat.lt_succ_iff_lt_or_eq.mp h).imp Nat.lt_one_iff.mp id
theorem lt3{a:Nat}(h:a<3):a=0∨a=1∨a=2:=(Nat.lt_succ_iff_lt_or_eq.mp h).elim (fun h=>(lt2 h).imp id .inl) fun h=>.inr (.inr h)
theorem lt4{a:Nat}(h:a<4):a=0∨a=1∨a=2∨a=3:=(Nat.lt_succ_iff_lt_or_eq.mp h).elim (fun h=>(lt3 h).imp id (Or.imp id .inl)) fun h=>.inr (.inr (.inr h))
theorem z1{a b c:Nat}(h:a≤1)(e:b+(c+1)=a):b=0∧c=0:=by subst e;exact Nat.add_eq_zero_iff.mp (Nat.le_zero.mp (Nat.le_of_succ_le_succ h))
theorem emp{α β:Type}{l:List α}{x:Array β}(h:l.length=x.size)(k:x.isEmpty=true):l=[]:=List.length_eq_zero_iff.mp (h.trans (Array.size_eq_zero_iff.mpr (Array.isEmpty_iff.mp k)))
theorem ln0(c:Ct)(h:les c.r c.l 1=true):c.P []:=c.run h
theorem ln1{x:Nat}(c:Ct)(h:les c.r c.l 2=true):c.P [x]:=c.run h
theorem ln2{x y:Nat}(c:Ct)(h:les c.r c.l 3=true):c.P [x,y]:=c.run h
theorem ln3{x y z:Nat}(c:Ct)(h:les c.r c.l 4=true):c.P [x,y,z]:=c.run h
theorem ln4{x y z u:Nat}(c:Ct)(h:les c.r c.l 5=true):c.P [x,y,z,u]:=c.run h
theorem ln5{x y z u v:Nat}(c:Ct)(h:les c.r c.l 6=true):c.P [x,y,z,u,v]:=c.run h
theorem ln6{x y z u v w:Nat}(c:Ct)(h:les c.r c.l 7=true):c.P [x,y,z,u,v,w]:=c.run h
theorem ar111:∀ {a b c:Nat},(↑(min a b):Int)=0∧min c b - min a b=b→b≤min c b - 0:=by intros;lia
end
end Pq
namespace Pq
theorem lnk{a b:Nat}(h:Nat.ble a b=true):a≤b:=Nat.le_of_ble_eq_true h
theorem lad{a b d:Nat}(h:Nat.ble a b=true):a≤d+b:=Nat.le_trans (lnk h) (Nat.le_add_left b d)
theorem lml{α β:Type}{f:α→β}{l:List α}{n:Nat}(h:l.length≤n):(l.map f).length≤n:=(List.length_map f).symm▸h
theorem Abh{c A B:Prop}[Decidable c](h:c)(a:A):if c then A else B:=(if_pos h).symm▸a
theorem AaV{c A B:Prop}[Decidable c](h:¬c)(b:B):if c then A else B:=(if_neg h).symm▸b
inductive AV where
 | none | bool (b:Bool) | int (i:Int) | str (s:Str) | tup (l:List AV) | obj (a:Addr) | raw (v:Value)
 deriving Inhabited
set_option genInjectivity false in
set_option genSizeOf false in
inductive AO where
 | list (l:List AV)
 | dict (kvs:List (AV×AV))
 | inst (c d:Addr)
 | attrs (kvs:List (Str×AV))
 | cdict (es:List DictEntry) (n:Nat) (kvs:List (AV×AV))
@[simp] theorem AO.list_inj{a b:List AV}:(AO.list a=AO.list b)=(a=b):=propext ⟨fun h=>by cases h;rfl,congrArg _⟩
@[simp] theorem AO.dict_inj{a b:List (AV×AV)}:(AO.dict a=AO.dict b)=(a=b):=propext ⟨fun h=>by cases h;rfl,congrArg _⟩
theorem nosn{α:Type}{x:Option α}{a:α}{P:Prop}(h:x=some a)(k:x=none):P:=absurd (h.symm.trans k) (Option.some_ne_none a)
theorem nos{α:Type}{a:α}{P:Prop}(h:none=some a):P:=nosn rfl h.symm
theorem nol{α:Type}{a:α}{l:List α}{P:Prop}(h:a::l=[]):P:=absurd h (List.cons_ne_nil a l)
inductive ConsM{α β:Type}(f:α→β):List α→β→List β→Prop
 | mk (p:α) (td:List α):ConsM f (p::td) (f p) (td.map f)
theorem Abb{α β:Type}{f:α→β}{y:β}{xs:List β}{l:List α}(h:y::xs=l.map f):ConsM f l y xs:=by
 cases l with
 | nil=>exact nol h
 | cons p td=>cases h;exact⟨p,td⟩
theorem Adk{α β:Type}{f:α→β}{l:List α}(h:[]=l.map f):l=[]:=List.map_eq_nil_iff.mp h.symm
theorem msn{α β:Type}{f:α→β}{l:List α}{a:α}:l.map f++[f a]=(l++[a]).map f:=(List.map_append (l₂:=[a])).symm
theorem asn{α:Type}{l m n:List α}{a:α}(h:l++a::m=n):(l++[a])++m=n:=(List.append_assoc ..).trans h
theorem sinj{α:Type}{x:Option α}{a b:α}(h:x=some a)(k:x=some b):a=b:=Option.some.inj (h.symm.trans k)
theorem noao{x:Option AO}{a b:AO}{P:Prop}(t:Nat.beq a.ctorIdx b.ctorIdx=false)(h:x=some a)(k:x=some b):P:=by
 rw[sinj h k,Nat.beq_refl] at t;exact absurd t.symm Bool.false_ne_true
theorem ne1{α β:Type}{σ:α→Option β}{a b:α}{o:β}(h:σ a=some o)(k:σ b=none):a≠b:=fun e=>nosn h (e▸k)
theorem ne2{α β:Type}{σ:α→Option β}{a b:α}{o:β}(h:σ a=some o)(k:σ b=none):b≠a:=(ne1 h k).symm
theorem ne3{α:Type}{σ:α→Option AO}{a b:α}{o p:AO}(t:Nat.beq o.ctorIdx p.ctorIdx=false)(h:σ a=some o)(k:σ b=some p):a≠b:=fun e=>noao t h (e▸k)
theorem ne4{α:Type}{σ:α→Option AO}{a b:α}{o p:AO}(t:Nat.beq o.ctorIdx p.ctorIdx=false)(h:σ a=some o)(k:σ b=some p):b≠a:=(ne3 t h k).symm
noncomputable abbrev AH:=Addr→Option AO
noncomputable abbrev Vars:=Str→Option AV
noncomputable def upd(σ:AH)(a:Addr)(o:AO):AH:=fun b=>if b=a then some o else σ b
theorem Aac(σ:AH)(a:Addr)(o:AO):upd σ a o a=some o:=if_pos rfl
theorem Aai(σ:AH){a b:Addr}(o:AO)(h:b≠a):upd σ a o b=σ b:=if_neg h
noncomputable def Abl(vars:Vars)(x:Str)(v:AV):Vars:=fun y=>if y=x then some v else vars y
noncomputable def All2{α β:Type}(R:α→β→Prop):List α→List β→Prop
 | [],bs=>bs=[]
 | a::l,bs=>∃ b r,bs=b::r∧R a b∧All2 R l r
section
variable{α β:Type}{R R':α→β→Prop}{l l':List α}{m m':List β}
theorem All2.length(h:All2 R l m):l.length=m.length:=by
 induction l generalizing m with
 | nil=>rw[show m=[] from h];rfl
 | cons x l ih=>
  obtain⟨b,r,rfl,_,t⟩:=h
  exact congrArg (·+1) (ih t)
theorem All2.nil:All2 R [] []:=rfl
theorem All2.cons{a:α}{b:β}(h:R a b)(t:All2 R l m):All2 R (a::l) (b::m):=⟨b,m,rfl,h,t⟩
theorem All2.mono(k:∀ a b,R a b→R' a b)(h:All2 R l m):All2 R' l m:=by
 induction l generalizing m with
 | nil=>exact h
 | cons x l ih=>
  obtain⟨b,r,e,h,t⟩:=h
  exact⟨b,r,e,k _ _ h,ih t⟩
theorem All2.append(h:All2 R l m)(h':All2 R l' m'):All2 R (l++l') (m++m'):=by
 induction l generalizing m with
 | nil=>rw[show m=[] from h];exact h'
 | cons x l ih=>
  obtain⟨b,r,rfl,h,t⟩:=h
  exact⟨b,r++m',rfl,h,ih t⟩
theorem All2.get(h:All2 R l m){k:Nat}{a:α}(e:l[k]?=some a):∃ b,m[k]?=some b∧R a b:=by
 induction l generalizing m k with
 | nil=>exact nos (List.getElem?_nil.symm.trans e)
 | cons x l ih=>
  obtain⟨b,r,rfl,h,t⟩:=h
  cases k with
  | zero=>cases e;exact⟨b,rfl,h⟩
  | succ k=>exact ih t e
theorem All2.take(n:Nat)(h:All2 R l m):All2 R (l.take n) (m.take n):=by
 induction l generalizing m n with
 | nil=>rw[show m=[] from h,List.take_nil,List.take_nil];rfl
 | cons x l ih=>
  obtain⟨b,r,rfl,h,t⟩:=h
  cases n with
  | zero=>rfl
  | succ n=>exact⟨b,_,rfl,h,ih n t⟩
theorem All2.drop(n:Nat)(h:All2 R l m):All2 R (l.drop n) (m.drop n):=by
 induction l generalizing m n with
 | nil=>rw[show m=[] from h,List.drop_nil,List.drop_nil];rfl
 | cons x l ih=>
  obtain⟨b,r,rfl,k,t⟩:=h
  cases n with
  | zero=>exact⟨b,r,rfl,k,t⟩
  | succ n=>exact ih n t
theorem All2.reverse(h:All2 R l m):All2 R l.reverse m.reverse:=by
 induction l generalizing m with
 | nil=>rw[show m=[] from h];rfl
 | cons x l ih=>
  obtain⟨b,r,rfl,h,t⟩:=h
  rw[List.reverse_cons,List.reverse_cons]
  exact All2.append (ih t) (All2.cons h All2.nil)
end
class Own where
 bad:Addr→Prop
variable[Own]
noncomputable def PT(h:Heap)(a:Addr)(items:Array Value):Prop:=∃ n,h.get? a=some { cls:=.type "tuple",data:=.seq items n }∧¬ Own.bad a
theorem PT.isTuple{h:Heap}{a:Addr}{items:Array Value}(x:PT h a items):h.IsTuple a items:=x.elim fun n e=>⟨_,e.1,rfl,n,rfl⟩
theorem PT.isTup{h:Heap}{a:Addr}{items:Array Value}(x:PT h a items):IsTup h a items:=x.elim fun n e=>⟨_,e.1,rfl,n,rfl⟩
theorem PT.new(h:Heap)(items:Array Value)(z:¬ Own.bad h.objs.size):PT (h.push { cls:=.type "tuple",data:=.seq items }) h.objs.size items:=⟨_,Heap.get?_push_size _ rfl,z⟩
mutual
noncomputable def VR(h:Heap):AV→Value→Prop
 | .none,v=>v=.none
 | .bool b,v=>v=.bool b
 | .int i,v=>∃ t,v=.int i t
 | .str x,v=>∃ t,v=.str x t
 | .tup l,v=>∃ a items,v=.ref a∧PT h a items∧VRs h l items.toList
 | .obj a,v=>v=.ref a
 | .raw u,v=>v=u
noncomputable def VRs(h:Heap):List AV→List Value→Prop
 | [],vs=>vs=[]
 | x::l,vs=>∃ v r,vs=v::r∧VR h x v∧VRs h l r
end
theorem Aao{h:Heap}{l:List AV}{vs:List Value}:VRs h l vs↔All2 (VR h) l vs:=by
 induction l generalizing vs with
 | nil=>exact Iff.rfl
 | cons x l ih=>exact exists_congr fun v=>exists_congr fun r=>and_congr_right fun jj=>and_congr_right fun jj=>ih
noncomputable def TupKeep(h h':Heap):Prop:=∀ a items,PT h a items→PT h' a items
theorem TupKeep.refl(h:Heap):TupKeep h h:=fun jj jj x=>x
theorem TupKeep.trans{h₁ h₂ h₃:Heap}(x:TupKeep h₁ h₂)(y:TupKeep h₂ h₃):TupKeep h₁ h₃:=fun a i t=>y a i (x a i t)
theorem TupKeep.of_keeps{h h':Heap}(k:∀ b o,h.get? b=some o→h'.get? b=some o):TupKeep h h':=
 fun jj jj x=>x.imp fun jj h=>⟨k _ _ h.1,h.2⟩
theorem TupKeep.of_ext{h h':Heap}{a:Addr}(hn:∀ items,¬ PT h a items)(k:Heap.ExtBut a h h'):TupKeep h h':=by
 intro b items x
 by_cases e:b=a
 ·subst e;exact absurd x (hn items)
 ·obtain⟨n,ho',z⟩:=x;exact⟨n,k b _ e ho',z⟩
theorem AaJ{h:Heap}{a:Addr}{o:Obj}(ho:h.get? a=some o)(hn:o.cls≠.type "tuple"):∀ items,¬ PT h a items:=by
 rintro items ⟨n,ho',_⟩
 rw[ho] at ho';cases ho';exact hn rfl
theorem Adq{h:Heap}{a:Addr}{o:Obj}(ho:h.get? a=some o)(hn:∀ i n,o.data≠.seq i n):∀ items,¬ PT h a items:=by
 rintro items ⟨n,ho',_⟩
 rw[ho] at ho';cases ho';exact hn _ _ rfl
theorem AcI{h:Heap}{a:Addr}{m:Str→Option Value}(x:h.Ns a m):∀ items,¬ PT h a items:=by
 obtain⟨o,es,ep,ho,hd,_⟩:=x
 exact Adq ho fun i n q=>by rw[hd] at q;cases q
theorem AeG{h:Heap}{a:Addr}{v:Option Value}(x:h.IsCell a v):∀ items,¬ PT h a items:=by
 obtain⟨o,ho,hd⟩:=x
 exact Adq ho fun i n q=>by rw[hd] at q;cases q
mutual
theorem VR.mono{h h':Heap}(k:TupKeep h h'){x:AV}{v:Value}(r:VR h x v):VR h' x v:=by
 cases x with
 | tup l=>
  obtain⟨a,items,e,t,r⟩:=r
  exact⟨a,items,e,k _ _ t,VRs.mono k r⟩
 | _=>exact r
theorem VRs.mono{h h':Heap}(k:TupKeep h h'){l:List AV}{vs:List Value}(r:VRs h l vs):VRs h' l vs:=by
 cases l with
 | nil=>exact r
 | cons x l=>
  obtain⟨v,r,e,a,b⟩:=r
  exact⟨v,r,e,VR.mono k a,VRs.mono k b⟩
end
noncomputable def OptR{α β:Type}(R:α→β→Prop)(x:Option α)(y:Option β):Prop:=Option.casesOn x (y=none) fun a=>Option.casesOn y False fun b=>R a b
omit [Own] in
theorem OptR.some_left{α β:Type}{R:α→β→Prop}{a:α}{y:Option β}(h:OptR R (some a) y):∃ b,y=some b∧R a b:=by
 cases y with
 | none=>exact h.elim
 | some b=>exact⟨b,rfl,h⟩
noncomputable def OptW{α β:Type}(R:α→β→Prop)(x:Option α)(y:Option β):Prop:=∀ a,x=some a→∃ b,y=some b∧R a b
omit [Own] in
theorem OptW.mono{α β:Type}{R R':α→β→Prop}(k:∀ a b,R a b→R' a b){x:Option α}{y:Option β}(h:OptW R x y):OptW R' x y:=fun a e=>(h a e).imp fun jj h=>⟨h.1,k _ _ h.2⟩
omit [Own] in
theorem OptW.none{α β:Type}{R:α→β→Prop}{y:Option β}:OptW R Option.none y:=fun jj e=>nos e
omit [Own] in
theorem OptW.some{α β:Type}{R:α→β→Prop}{a:α}{b:β}(h:R a b):OptW R (Option.some a) (Option.some b):=fun jj e=>by obtain rfl:=Option.some.inj e;exact⟨b,rfl,h⟩
end Pq
namespace Pq
variable[Own]
noncomputable def hashAV(w:World)(a:AV):Int:=@AV.rec (fun jj=>Int) (fun jj=>List Int) 0 (fun b=>hashInt (if b then 1 else 0)) (fun i=>hashInt i) (fun x=>hashStr w x) (fun jj l=>reduceHash (Builtin.Tuple.tupleHashOf l)) (fun jj=>0) (fun jj=>0) [] (fun jj jj i l=>i::l) a
noncomputable def AiW(w:World)(l:List AV):List Int:=@AV.rec_1 (fun jj=>Int) (fun jj=>List Int) 0 (fun b=>hashInt (if b then 1 else 0)) (fun i=>hashInt i) (fun x=>hashStr w x) (fun jj l=>reduceHash (Builtin.Tuple.tupleHashOf l)) (fun jj=>0) (fun jj=>0) [] (fun jj jj i l=>i::l) l
noncomputable def AV.items(a:AV):List AV:=AV.casesOn a [] (fun jj=>[]) (fun jj=>[]) (fun jj=>[]) (fun l=>l) (fun jj=>[]) (fun jj=>[])
noncomputable def isSc(a:AV):Bool:=Nat.ble 1 a.ctorIdx&&Nat.ble a.ctorIdx 3
noncomputable def AbH(a:AV):Bool:=Nat.beq a.ctorIdx 3
noncomputable def hdStr(l:List AV):Bool:=List.casesOn l false fun x jj=>AbH x
noncomputable def AaE(n:Nat):AV→Bool:=Nat.rec isSc (fun jj ih a=>isSc a||(Nat.beq a.ctorIdx 4&&a.items.all ih)) n
noncomputable def Abx(n:Nat):AV→Bool:=Nat.rec (fun jj=>false) (fun jj ih a=>hdStr a.items&&a.items.tail.all ih) n
omit [Own] in
theorem Aca(n:Nat)(l:List AV):AaE (n+1) (.tup l)=l.all (AaE n):=rfl
set_option genInjectivity false in
set_option genSizeOf false in
inductive KT where
 | term | key
inductive KeyC:AV→Prop
 | mk (p:List AV) (k n:Str) (pl:List AV) (b:Bool) (t:AV) (hp:∀ x∈p,∃ i,x=.int i) (hl:∀ x∈pl,∃ y u,x=.tup [.str y,u]∧Abx 4 u=true) (ht:Abx 7 t=true):KeyC (.tup [.tup [.tup p,.str k,.str n,.tup pl,.bool b],t])
noncomputable def AcX(τ:KT)(a:AV):Prop:=KT.casesOn τ (Abx 8 a=true) (KeyC a)
structure Ajo(kvs:List (AV×AV)):Prop where
 nodup:(kvs.map (·.1)).Nodup
 kind:(∀ kv∈kvs,AbH kv.1=true)∨∃ τ:KT,∀ kv∈kvs,AcX τ kv.1
structure Aie(w:World)(h:Heap)(e:DictEntry)(kv:AV×AV):Prop where
 hash:e.hash=hashAV w kv.1
 key:VR h kv.1 e.key
 val:VR h kv.2 e.val
noncomputable def Ajq(h:Heap)(e:DictEntry)(kv:Str×AV):Prop:=(∃ t,e.key=.str kv.1 t)∧VR h kv.2 e.val
noncomputable def OR(w:World)(h:Heap)(a:Addr):AO→Prop
 | .list l=>∃ items,h.PlainList a items∧VRs h l items.toList
 | .dict kvs=>∃ es n,h.get? a=some (dictOf es n)∧All2 (Aie w h) es kvs∧Ajo kvs
 | .inst c d=>h.get? a=some (instObj c d)
 | .attrs kvs=>∃ es n,h.get? a=some (dictOf es n)∧All2 (Ajq h) es kvs∧(kvs.map (·.1)).Nodup
 | .cdict es n kvs=>h.get? a=some (dictOf es n)∧All2 (Aie w h) es kvs∧Ajo kvs
theorem OR.at{w:World}{h:Heap}{a:Addr}{o:AO}(x:OR w h a o):∃ ob,h.get? a=some ob∧ob.cls≠.type "tuple":=by
 cases o with
 | list l=>obtain⟨items,⟨n,e⟩,_⟩:=x;exact⟨_,e,by simp⟩
 | dict kvs=>obtain⟨es,n,e,_⟩:=x;exact⟨_,e,by simp⟩
 | inst c d=>exact⟨_,x,by simp⟩
 | attrs kvs=>obtain⟨es,n,e,_⟩:=x;exact⟨_,e,by simp⟩
 | cdict es n kvs=>exact⟨_,x.1,by simp⟩
theorem OR.mono{w:World}{h h':Heap}{a:Addr}{o:AO}(x:OR w h a o)(k:∀ ob,h.get? a=some ob→h'.get? a=some ob)(t:TupKeep h h'):OR w h' a o:=by
 cases o with
 | list l=>obtain⟨items,⟨n,e⟩,r⟩:=x;exact⟨items,⟨n,k _ e⟩,r.mono t⟩
 | dict kvs=>obtain⟨es,n,e,r,q⟩:=x;exact⟨es,n,k _ e,r.mono fun jj jj z=>⟨z.hash,z.key.mono t,z.val.mono t⟩,q⟩
 | inst c d=>exact k _ x
 | attrs kvs=>obtain⟨es,n,e,r,q⟩:=x;exact⟨es,n,k _ e,r.mono fun jj jj z=>⟨z.1,z.2.mono t⟩,q⟩
 | cdict es n kvs=>exact⟨k _ x.1,x.2.1.mono fun jj jj z=>⟨z.hash,z.key.mono t,z.val.mono t⟩,x.2.2⟩
set_option genInjectivity false in
set_option genSizeOf false in
structure Aaj where
 prog:Program
 w:World
 K:Frag
 h₀:Heap
 os:OsState
 big:∃ b o,sysModules<b∧h₀.get? b=some o
structure St(B:Aaj)(σ:AH)(s:Shared):Prop where
 base:∀ b o,B.h₀.get? b=some o→s.heap.get? b=some o
 apart:∀ b,σ b≠none→B.h₀.get? b=none
 objs:∀ a o,σ a=some o→OR B.w s.heap a o
 gens:s.gens=#[]
 os:s.os=B.os
 lo:∀ b,σ b≠none→b≠sysModules
 bad:∀ b,Own.bad b→∃ o,s.heap.get? b=some o
theorem St.lt{B:Aaj}{σ:AH}{s:Shared}(S:St B σ s){a:Addr}{o:AO}(h:σ a=some o):a<s.heap.objs.size:=by
 obtain⟨ob,e,_⟩:=(S.objs a o h).at
 exact Heap.lt_size e
theorem St.tok{B:Aaj}{σ:AH}{s:Shared}(S:St B σ s)(t:Nat):St B σ { s with toks:=t }:=⟨S.base,S.apart,S.objs,S.gens,S.os,S.lo,S.bad⟩
structure Ext(B:Aaj)(X:Addr→Prop)(σ:AH)(s:Shared)(σ':AH)(s':Shared):Prop where
 st:St B σ' s'
 tup:TupKeep s.heap s'.heap
 keep:∀ b o,s.heap.get? b=some o→σ b=none→¬ X b→s'.heap.get? b=some o
 fresh:∀ b,σ b=none→σ' b≠none→s.heap.get? b=none
 live:∀ b o,s.heap.get? b=some o→∃ o',s'.heap.get? b=some o'
noncomputable abbrev noX:Addr→Prop:=fun jj=>False
section
variable{B:Aaj}{X Y:Addr→Prop}{σ σ₁ σ₂:AH}{s s₁ s₂:Shared}
theorem Ext.refl(S:St B σ s):Ext B X σ s σ s:=⟨S,TupKeep.refl _,fun jj jj e jj jj=>e,fun b h h'=>absurd h h',fun jj o e=>⟨o,e⟩⟩
theorem Ext.stay(x:Ext B X σ s σ₁ s₁){b:Addr}{o:Obj}(e:s.heap.get? b=some o)(h:σ b=none):σ₁ b=none:=by
 cases q:σ₁ b with
 | none=>rfl
 | some o'=>have:=x.fresh b h (by rw[q];simp);exact nosn e this
theorem Ext.trans(x:Ext B X σ s σ₁ s₁)(y:Ext B X σ₁ s₁ σ₂ s₂):Ext B X σ s σ₂ s₂:=by
 refine⟨y.st,x.tup.trans y.tup,fun b o e h1 h2=>y.keep b o (x.keep b o e h1 h2) (x.stay e h1) h2,fun b h1 h2=>?_,fun b o e=>(by obtain⟨o₁,e₁⟩:=x.live b o e;exact y.live b o₁ e₁)⟩
 cases e:σ₁ b with
 | none=>
  have h3:=y.fresh b e h2
  cases q:s.heap.get? b with
  | none=>rfl
  | some o=>obtain⟨o₁,e₁⟩:=x.live b o q;exact nosn e₁ h3
 | some o=>exact x.fresh b h1 (by rw[e];simp)
theorem Ext.weaken(x:Ext B X σ s σ₁ s₁)(h:∀ b,X b→Y b):Ext B Y σ s σ₁ s₁:=⟨x.st,x.tup,fun b o e h1 h2=>x.keep b o e h1 fun q=>h2 (h b q),x.fresh,x.live⟩
theorem Ext.narrow(x:Ext B X σ s σ₁ s₁)(h:∀ b,X b→Y b∨s.heap.get? b=none):Ext B Y σ s σ₁ s₁:=
 ⟨x.st,x.tup,fun b o e h1 h2=>x.keep b o e h1 fun q=>(h b q).elim h2 fun z=>(by exact nosn e z),x.fresh,x.live⟩
theorem Ext.tok(x:Ext B X σ s σ₁ s₁)(t:Nat):Ext B X σ s σ₁ { s₁ with toks:=t }:=⟨x.st.tok t,x.tup,x.keep,x.fresh,x.live⟩
theorem Ext.grow(S:St B σ s){h':Heap}{t:Nat}(k:∀ b o,s.heap.get? b=some o→h'.get? b=some o):Ext B X σ s σ { s with heap:=h',toks:=t }:=
 ⟨⟨fun b o e=>k b o (S.base b o e),S.apart,fun a o e=>(S.objs a o e).mono (fun jj q=>k _ _ q) (TupKeep.of_keeps k),S.gens,S.os,S.lo,fun b hb=>(by obtain⟨o,e⟩:=S.bad b hb;exact⟨o,k b o e⟩)⟩,TupKeep.of_keeps k,fun b o e jj jj=>k b o e,fun b h h'=>absurd h h',fun b o e=>⟨o,k b o e⟩⟩
theorem Ext.own(S:St B σ s){h':Heap}{t:Nat}{a:Addr}(hn:∀ items,¬ PT s.heap a items)(hσ:σ a=none)(hb:B.h₀.get? a=none)(k:Heap.ExtBut a s.heap h')(hl:∃ o,h'.get? a=some o)(hX:X a):
  Ext B X σ s σ { s with heap:=h',toks:=t }:=by
 have T:=TupKeep.of_ext hn k
 refine⟨⟨fun b o e=>k b o (fun q=>by subst q;rw[hb] at e;cases e) (S.base b o e),S.apart,fun b o e=>(S.objs b o e).mono (fun ob q=>k b ob (fun z=>by subst z;rw[hσ] at e;cases e) q) T,S.gens,S.os,S.lo,fun b hb=>(by
  obtain⟨o,e⟩:=S.bad b hb
  by_cases q:b=a
  ·exact q▸hl
  ·exact⟨o,k b o q e⟩)⟩,T,fun b o e jj hx=>k b o (fun q=>hx (q▸hX)) e,fun b h h'=>absurd h h',fun b o e=>?_⟩
 by_cases q:b=a
 ·exact q▸hl
 ·exact⟨o,k b o q e⟩
theorem Ext.new(S:St B σ s){h':Heap}{t:Nat}{a:Addr}{o:AO}(k:∀ b o,s.heap.get? b=some o→h'.get? b=some o)(ha:s.heap.get? a=none)(ho:OR B.w h' a o)(hm:a≠sysModules):
  Ext B X σ s (upd σ a o) { s with heap:=h',toks:=t }:=by
 refine⟨⟨fun b o e=>k b o (S.base b o e),fun b hb=>?_,fun b o' e=>?_,S.gens,S.os,fun b hb=>?_,fun b hb=>(by obtain⟨o,e⟩:=S.bad b hb;exact⟨o,k b o e⟩)⟩,TupKeep.of_keeps k,fun b o e jj jj=>k b o e,fun b h1 h2=>?_,fun b o e=>⟨o,k b o e⟩⟩
 ·by_cases q:b=a
  ·subst q
   cases e:B.h₀.get? b with
   | none=>rfl
   | some ob=>have:=S.base b ob e;exact nosn this ha
  ·rw[Aai _ _ q] at hb;exact S.apart b hb
 ·by_cases q:b=a
  ·subst q;obtain rfl:=sinj (Aac _ _ _) e;exact ho
  ·rw[Aai _ _ q] at e;exact(S.objs b o' e).mono (fun jj z=>k _ _ z) (TupKeep.of_keeps k)
 ·by_cases q:b=a
  ·exact q▸hm
  ·rw[Aai _ _ q] at hb;exact S.lo b hb
 ·by_cases q:b=a
  ·exact q▸ha
  ·rw[Aai _ _ q] at h2;exact absurd h1 h2
theorem St.none_size(S:St B σ s):σ s.heap.objs.size=none:=by
 cases e:σ s.heap.objs.size with
 | none=>rfl
 | some o=>exact absurd (S.lt e) (Nat.lt_irrefl _)
theorem St.nbs(S:St B σ s):¬ Own.bad s.heap.objs.size:=fun z=>by obtain⟨o,e⟩:=S.bad _ z;exact nosn e (Heap.get?_none_of_le (Nat.le_refl _))
theorem St.none_of(S:St B σ s){a:Addr}(h:s.heap.get? a=none):σ a=none:=by
 cases e:σ a with
 | none=>rfl
 | some o=>obtain⟨ob,q,_⟩:=(S.objs a o e).at;exact nosn q h
theorem St.size_lo(S:St B σ s):s.heap.objs.size≠sysModules:=by
 obtain⟨b,o,h,e⟩:=B.big
 exact Nat.ne_of_gt (Nat.lt_trans h (Heap.lt_size (S.base b o e)))
theorem St.nbad(S:St B σ s){a:Addr}(h:s.heap.get? a=none):¬ Own.bad a:=fun z=>by obtain⟨o,e⟩:=S.bad a z;exact nosn e h
omit [Own] in
theorem Aan(h:Heap):h.get? h.objs.size=none:=Heap.get?_none_of_le (Nat.le_refl _)
theorem Ext.set(S:St B σ s){h':Heap}{t:Nat}{a:Addr}{o o':AO}(hσ:σ a=some o)(k:Heap.ExtBut a s.heap h')(ho:OR B.w h' a o'):
  Ext B X σ s (upd σ a o') { s with heap:=h',toks:=t }:=by
 obtain⟨ob,hob,hn⟩:=(S.objs a o hσ).at
 have T:=TupKeep.of_ext (AaJ hob hn) k
 have hb:B.h₀.get? a=none:=S.apart a (by rw[hσ];simp)
 refine⟨⟨fun b o e=>k b o (fun q=>by subst q;rw[hb] at e;cases e) (S.base b o e),fun b h=>?_,fun b o₁ e=>?_,S.gens,S.os,fun b h=>?_,fun b h=>?_⟩,T,fun b o e h1 jj=>k b o (ne2 hσ h1) e,fun b h1 h2=>?_,fun b o e=>?_⟩
 ·by_cases q:b=a
  ·exact q▸hb
  ·rw[Aai _ _ q] at h;exact S.apart b h
 ·by_cases q:b=a
  ·subst q;obtain rfl:=sinj (Aac _ _ _) e;exact ho
  ·rw[Aai _ _ q] at e;exact(S.objs b o₁ e).mono (fun ob z=>k b ob q z) T
 ·by_cases q:b=a
  ·subst q;exact S.lo b (by rw[hσ];simp)
  ·rw[Aai _ _ q] at h;exact S.lo b h
 ·obtain⟨o,e⟩:=S.bad b h
  by_cases q:b=a
  ·subst q;obtain⟨ob',e',_⟩:=ho.at;exact⟨ob',e'⟩
  ·exact⟨o,k b o q e⟩
 ·by_cases q:b=a
  ·subst q;exact nosn hσ h1
  ·rw[Aai _ _ q] at h2;exact absurd h1 h2
 ·by_cases q:b=a
  ·subst q;obtain⟨ob',e',_⟩:=ho.at;exact⟨ob',e'⟩
  ·exact⟨o,k b o q e⟩
end
inductive WR{α β:Type}(B:Aaj)(X:Addr→Prop)(σ:AH)(s:Shared)(R:AH→Shared→β→α→Prop)(Q:β→AH→Prop)(v:α)(s':Shared):Prop
 | mk (b:β) (σ':AH) (q:Q b σ') (r:R σ' s' b v) (x:Ext B X σ s σ' s')
noncomputable def W{α β:Type}(B:Aaj)(A:Around)(X:Addr→Prop)(σ:AH)(s:Shared)(R:AH→Shared→β→α→Prop)(t:Sem α)(Q:β→AH→Prop):Prop:=
 wpAny (model B.prog B.w) A t (WR B X σ s R Q) (fun jj jj=>False) s
section
variable{α β γ δ:Type}{B:Aaj}{A:Around}{X:Addr→Prop}{σ:AH}{s:Shared}{R:AH→Shared→β→α→Prop}{R':AH→Shared→δ→γ→Prop}
theorem W.wp{t:Sem α}{Q:β→AH→Prop}(h:W B A X σ s R t Q){P:α→Shared→Prop}{E:Value→Shared→Prop}(k:∀ v s' b σ',Q b σ'→R σ' s' b v→Ext B X σ s σ' s'→P v s'):
  wpAny (model B.prog B.w) A t P E s:=wpAny_mono h (by rintro v s' ⟨b,σ',q,r,x⟩;exact k v s' b σ' q r x) fun jj jj f=>f.elim
theorem W.mono{t:Sem α}{Q Q':β→AH→Prop}(h:W B A X σ s R t Q)(k:∀ b σ',Q b σ'→Q' b σ'):W B A X σ s R t Q':=
 h.wp fun jj jj b σ' q r x=>⟨b,σ',k b σ' q,r,x⟩
end
end Pq
namespace Pq
variable[Own]
structure Room(A:Around)(d:Nat):Prop where
 handled:A.handled=none
 depth:A.depth+d<recursionLimit
 units:A.units+10 * d+200<cLine
theorem Room.deeper{A:Around}{d:Nat}(r:Room A (d+1))(env:Env):Room (A.deeper env) d:=by
 obtain⟨h,a,b⟩:=r
 exact⟨h,by show A.depth+1+d<_;exact ln3 (.c 1 (.a (.a (.v 0) (.p 1 1)) (.n 1)) (.v 2) (.g 0 (.a (.a (.p 0 1) (.v 1)) (.n 1)) (.v 2))) rfl a,by show A.units+3+10 * d+200<_;exact ln3 (.c 1 (.a (.a (.a (.v 0) (.m 10 (.p 1 1))) (.n 200)) (.n 1)) (.v 2) (.g 0 (.a (.a (.a (.p 0 3) (.m 10 (.v 1))) (.n 200)) (.n 1)) (.v 2))) rfl b⟩
theorem Room.less{A:Around}{d e:Nat}(r:Room A d)(h:e≤d):Room A e:=⟨r.handled,by have:=r.depth;exact ln4 (.c 1 (.v 0) (.v 1) (.c 1 (.a (.b 2 1) (.n 1)) (.v 3) (.g 0 (.a (.b 2 0) (.n 1)) (.v 3)))) rfl h this,by have:=r.units;exact ln4 (.c 10 (.v 0) (.v 1) (.c 1 (.a (.a (.a (.v 2) (.m 10 (.v 1))) (.n 200)) (.n 1)) (.v 3) (.g 0 (.a (.a (.a (.v 2) (.m 10 (.v 0))) (.n 200)) (.n 1)) (.v 3)))) rfl h this⟩
inductive NsR(h:Heap)(env:Env)(vars:Vars):Prop
 | mk (m:Str→Option Value) (hm:h.Ns env.locals m) (hv:∀ x,env.kindOf x=some .local→OptW (VR h) (vars x) (m x))
inductive CelR(h:Heap)(env:Env)(vars:Vars)(x:Str):Prop
 | mk (c:Addr) (v:Option Value) (h1:env.cells.lookup x=some c) (h2:h.IsCell c v) (h3:OptW (VR h) (vars x) v)
structure CelA(B:Aaj)(σ:AH)(h:Heap)(env:Env)(c:Addr):Prop where
 h1:σ c=none
 h2:B.h₀.get? c=none
 h3:c≠env.locals
 h4:∃ v,h.IsCell c v
structure EnvR(B:Aaj)(σ:AH)(h:Heap)(env:Env)(vars:Vars):Prop where
 kind:env.scope.kind=.function
 globals:env.globals=mainGlobals
 builtins:env.builtins=builtinsNs
 ns:NsR h env vars
 loc:σ env.locals=none∧B.h₀.get? env.locals=none
 cell:∀ x,env.kindOf x=some .cell→CelR h env vars x
 cells:∀ x c,(x,c)∈env.cells→CelA B σ h env c
 apart:env.cells.Pairwise fun x y=>x.2≠y.2
noncomputable def Abz(env:Env):Addr→Prop:=fun b=>b=env.locals∨∃ x,(x,b)∈env.cells
section
variable{B:Aaj}{X:Addr→Prop}{σ σ':AH}{s s':Shared}{env:Env}{vars:Vars}
theorem EnvR.kept{h h':Heap}(R:EnvR B σ h env vars)(T:TupKeep h h')(k:∀ b,Abz env b→σ b=none→∀ o,h.get? b=some o→h'.get? b=some o)(st:∀ b,Abz env b→∀ o,h.get? b=some o→σ b=none→σ' b=none):EnvR B σ' h' env vars:=by
 obtain⟨m,hm,hv⟩:=R.ns
 obtain⟨oL,es,ep,hL,r⟩:=hm
 refine⟨R.kind,R.globals,R.builtins,⟨m,⟨oL,es,ep,k _ (.inl rfl) R.loc.1 _ hL,r⟩,fun y hy=>(hv y hy).mono fun jj jj z=>z.mono T⟩,⟨st _ (.inl rfl) _ hL R.loc.1,R.loc.2⟩,fun y hy=>?_,fun y c hc=>?_,R.apart⟩
 ·obtain⟨c,v,h1,⟨o,ho,hd⟩,h3⟩:=R.cell y hy
  have hmem:=mem_of_lookup h1
  exact⟨c,v,h1,⟨o,k c (.inr ⟨y,hmem⟩) (R.cells y c hmem).1 o ho,hd⟩,h3.mono fun jj jj z=>z.mono T⟩
 ·obtain⟨h1,h2,h3,v,o,ho,hd⟩:=R.cells y c hc
  exact⟨st c (.inr ⟨y,hc⟩) o ho h1,h2,h3,v,o,k c (.inr ⟨y,hc⟩) h1 o ho,hd⟩
theorem EnvR.ext(R:EnvR B σ s.heap env vars)(x:Ext B X σ s σ' s')(h:∀ b,Abz env b→¬ X b):EnvR B σ' s'.heap env vars:=
 R.kept x.tup (fun b hb h1 o e=>x.keep b o e h1 (h b hb)) fun jj jj jj e=>x.stay e
end
theorem EnvR.forget{B:Aaj}{σ:AH}{h:Heap}{env:Env}{vars vars':Vars}(R:EnvR B σ h env vars)(k:∀ x a,vars' x=some a→vars x=some a):EnvR B σ h env vars':=by
 obtain⟨m,hm,hv⟩:=R.ns
 refine⟨R.kind,R.globals,R.builtins,⟨m,hm,fun x hx a e=>hv x hx a (k x a e)⟩,R.loc,fun x hx=>?_,R.cells,R.apart⟩
 obtain⟨c,v,h1,h2,h3⟩:=R.cell x hx
 exact⟨c,v,h1,h2,fun a e=>h3 a (k x a e)⟩
set_option genInjectivity false in
set_option genSizeOf false in
inductive AFl where
 | next | brk | cont | ret (v:AV)
noncomputable def FlowR(h:Heap):AFl→Flow→Prop
 | .next,f=>f=.next
 | .brk,f=>f=.brk
 | .cont,f=>f=.cont
 | .ret a,f=>∃ v,f=.ret v∧VR h a v
noncomputable abbrev RV:AH→Shared→AV→Value→Prop:=fun jj s' a v=>VR s'.heap a v
noncomputable abbrev RVs:AH→Shared→List AV→List Value→Prop:=fun jj s' a v=>VRs s'.heap a v
noncomputable abbrev REq{α:Type}:AH→Shared→α→α→Prop:=fun jj jj a v=>a=v
noncomputable def AE(B:Aaj)(d:Nat)(env:Env)(vars:Vars)(t:Sem Value)(σ:AH)(Q:AV→AH→Prop):Prop:=
 ∀ A s,Room A d→St B σ s→EnvR B σ s.heap env vars→W B A noX σ s RV t Q
noncomputable def AEs(B:Aaj)(d:Nat)(env:Env)(vars:Vars)(t:Sem (List Value))(σ:AH)(Q:List AV→AH→Prop):Prop:=
 ∀ A s,Room A d→St B σ s→EnvR B σ s.heap env vars→W B A noX σ s RVs t Q
noncomputable def AT(B:Aaj)(d:Nat)(env:Env)(vars:Vars)(t:Sem Bool)(σ:AH)(Q:Bool→AH→Prop):Prop:=
 ∀ A s,Room A d→St B σ s→EnvR B σ s.heap env vars→W B A noX σ s REq t Q
structure XR(B:Aaj)(env:Env)(σ':AH)(s':Shared)(b:AFl×Vars)(f:Flow):Prop where
 hf:FlowR s'.heap b.1 f
 R:EnvR B σ' s'.heap env b.2
noncomputable def AX(B:Aaj)(d:Nat)(env:Env)(vars:Vars)(t:Sem Flow)(σ:AH)(Q:AFl→Vars→AH→Prop):Prop:=
 ∀ A s,Room A d→St B σ s→EnvR B σ s.heap env vars →
  W B A (Abz env) σ s (XR B env) t (fun b σ'=>Q b.1 b.2 σ')
noncomputable def AA(B:Aaj)(d:Nat)(env:Env)(vars:Vars)(t:Value→Sem Unit)(a:AV)(σ:AH)(Q:Vars→AH→Prop):Prop:=
 ∀ A s v,Room A d→St B σ s→EnvR B σ s.heap env vars→VR s.heap a v →
  W B A (Abz env) σ s (fun σ' s' (b:Vars) _=>EnvR B σ' s'.heap env b) (t v) Q
noncomputable def AC(B:Aaj)(d:Nat)(f:Value)(args:List AV)(σ:AH)(Q:AV→AH→Prop):Prop:=
 ∀ A s vs,Room A d→St B σ s→VRs s.heap args vs→W B A noX σ s RV (call f vs) Q
section
variable{B:Aaj}{d:Nat}{env:Env}{vars:Vars}{σ:AH}
theorem AE.mono{t:Sem Value}{Q Q':AV→AH→Prop}(h:AE B d env vars t σ Q)(k:∀ a σ',Q a σ'→Q' a σ'):AE B d env vars t σ Q':=fun A s r S R=>(h A s r S R).mono k
theorem AEs.mono{t:Sem (List Value)}{Q Q':List AV→AH→Prop}(h:AEs B d env vars t σ Q)(k:∀ a σ',Q a σ'→Q' a σ'):AEs B d env vars t σ Q':=fun A s r S R=>(h A s r S R).mono k
theorem AT.mono{t:Sem Bool}{Q Q':Bool→AH→Prop}(h:AT B d env vars t σ Q)(k:∀ a σ',Q a σ'→Q' a σ'):AT B d env vars t σ Q':=fun A s r S R=>(h A s r S R).mono k
theorem AX.mono{t:Sem Flow}{Q Q':AFl→Vars→AH→Prop}(h:AX B d env vars t σ Q)(k:∀ f v σ',Q f v σ'→Q' f v σ'):AX B d env vars t σ Q':=fun A s r S R=>(h A s r S R).mono fun b σ'=>k b.1 b.2 σ'
theorem AC.mono{f:Value}{args:List AV}{Q Q':AV→AH→Prop}(h:AC B d f args σ Q)(k:∀ a σ',Q a σ'→Q' a σ'):AC B d f args σ Q':=fun A s vs r S V=>(h A s vs r S V).mono k
theorem AC.less{e:Nat}{f:Value}{args:List AV}{Q:AV→AH→Prop}(h:AC B e f args σ Q)(k:e≤d):AC B d f args σ Q:=fun A s vs r S V=>h A s vs (r.less k) S V
end
structure BOk(B:Aaj):Prop where
 K:B.K.In B.h₀
 g:∃ mg,B.h₀.Ns mainGlobals mg
 b:∃ mb,B.h₀.Ns builtinsNs mb∧∀ x:Str,x≠"__name__"→mb x=bootBuiltins x
 nolimit:B.h₀.NoLimit
omit [Own] in
theorem gval_of{K:Frag}{x:Str}{v:Value}(h:Abi K x=some v):nsIn K mainGlobals x=some (some v)∨(nsIn K mainGlobals x=some none∧bootBuiltins x=some v):=by
 unfold Abi at h
 cases e:nsIn K mainGlobals x with
 | none=>rw[e] at h;exact nos h
 | some o=>
  rw[e] at h
  cases o with
  | none=>exact .inr ⟨rfl,h⟩
  | some u=>cases h;exact .inl rfl
section
variable{B:Aaj}{d:Nat}{env:Env}{vars:Vars}{σ:AH}{Q:AV→AH→Prop}{x:Str}{pos:Pos}{a:AV}
noncomputable def isK(k:NameKind)(env:Env)(x:Str):Bool:=env.kindOf x==some k&&!(x==("__debug__":Str))
theorem AiP{k:NameKind}(h:isK k env x=true):env.kindOf x=some k∧(x==("__debug__":Str))=false:=by
 unfold isK at h
 rw[Bool.and_eq_true,beq_iff_eq,Bool.not_eq_true'] at h
 exact h
noncomputable def isG(env:Env)(x:Str):Bool:=isK .globalImplicit env x&&!(x==("__name__":Str))
theorem isG_at(h:isG env x=true):isK .globalImplicit env x=true∧x≠"__name__":=by
 unfold isG at h
 rw[Bool.and_eq_true,Bool.not_eq_true',beq_eq_false_iff_ne] at h
 exact h
theorem Aaa(hk:isK .local env x=true)(hv:vars x=some a)(q:Q a σ):AE B d env vars (eval (.Name x pos) env) σ Q:=by
 intro A s r S R
 obtain⟨hk,hd⟩:=AiP hk
 obtain⟨m,hm,h⟩:=R.ns
 obtain⟨v,e,hr⟩:=h x hk a hv
 exact wpAny_Name (wpAny_loadName_local R.kind hk hm e ⟨a,σ,q,hr,.refl S⟩) hd
theorem AaD(hk:isK .cell env x=true)(hv:vars x=some a)(q:Q a σ):AE B d env vars (eval (.Name x pos) env) σ Q:=by
 intro A s r S R
 obtain⟨hk,hd⟩:=AiP hk
 obtain⟨c,v,h1,h2,h3⟩:=R.cell x hk
 obtain⟨v,e,hr⟩:=h3 a hv
 exact wpAny_Name (wpAny_loadName_cell R.kind hk h1 (e▸h2) ⟨a,σ,q,hr,.refl S⟩) hd
theorem AbG(O:BOk B){v:Value}(hk:isG env x=true)(hg:Abi B.K x=some v)(q:Q (.raw v) σ):
  AE B d env vars (eval (.Name x pos) env) σ Q:=by
 intro A s r S R
 obtain⟨hk,hn⟩:=isG_at hk
 obtain⟨hk,hd⟩:=AiP hk
 obtain⟨mg,G⟩:=O.g
 obtain⟨mb,Gb,hb⟩:=O.b
 have Gs:s.heap.Ns env.globals mg:=R.globals▸G.keeps S.base
 have Bs:s.heap.Ns env.builtins mb:=R.builtins▸Gb.keeps S.base
 rcases gval_of hg with e | ⟨e,hb'⟩
 ·exact Name_function_global R.kind hk (loadGlobal_global Gs (mg_of O.K G e) ⟨.raw v,σ,q,rfl,.refl S⟩) hd
 ·exact Name_function_global R.kind hk (loadGlobal_builtin Gs (mg_none_of O.K G e) Bs ((hb x hn).trans hb') ⟨.raw v,σ,q,rfl,.refl S⟩) hd
theorem Aae{i:Int}{k:Nat}(q:Q (.int i) σ):AE B d env vars (eval (.Constant (.int i) k pos) env) σ Q:=fun jj jj jj S jj=>
 show wpAny _ _ (mkInt i) _ _ _ from wpAny_mkInt ⟨.int i,σ,q,⟨_,rfl⟩,(Ext.refl S).tok _⟩
theorem Aav{y:Str}{k:Nat}(q:Q (.str y) σ):AE B d env vars (eval (.Constant (.str y) k pos) env) σ Q:=fun jj jj jj S jj=>
 show wpAny _ _ (mkText y) _ _ _ from wpAny_mkText ⟨.str y,σ,q,⟨_,rfl⟩,(Ext.refl S).tok _⟩
theorem Aat{k:Nat}(q:Q .none σ):AE B d env vars (eval (.Constant .none k pos) env) σ Q:=fun jj jj jj S jj=>wpAny_pure ⟨.none,σ,q,rfl,.refl S⟩
theorem Abf{b:Bool}{k:Nat}(q:Q (.bool b) σ):AE B d env vars (eval (.Constant (.bool b) k pos) env) σ Q:=fun jj jj jj S jj=>wpAny_pure ⟨.bool b,σ,q,rfl,.refl S⟩
end
end Pq
namespace Pq
variable[Own]
noncomputable def PBin(B:Aaj)(d:Nat)(op:Operator)(a b:AV)(σ:AH)(Q:AV→AH→Prop):Prop:=
 ∀ A s va vb,Room A d→St B σ s→VR s.heap a va→VR s.heap b vb→W B A noX σ s RV (binaryOp op va vb) Q
noncomputable abbrev RB:AH→Shared→Bool→Value→Prop:=fun jj jj b v=>v=.bool b
noncomputable def Adl(B:Aaj)(d:Nat)(op:CmpOp)(a b:AV)(σ:AH)(Q:Bool→AH→Prop):Prop:=
 ∀ A s va vb,Room A d→St B σ s→VR s.heap a va→VR s.heap b vb→W B A noX σ s RB (compareOp op va vb) Q
noncomputable def Ajm(B:Aaj)(d:Nat)(a:AV)(σ:AH)(Q:Bool→AH→Prop):Prop:=
 ∀ A s va,Room A d→St B σ s→VR s.heap a va→W B A noX σ s REq (truthy va) Q
noncomputable def PGet(B:Aaj)(d:Nat)(o i:AV)(σ:AH)(Q:AV→AH→Prop):Prop:=
 ∀ A s vo vi,Room A d→St B σ s→VR s.heap o vo→VR s.heap i vi→∃ T id,s.TypeIs vo T∧typeLookup (.type T) "__getitem__"=pure (some (.builtin id))∧W B A noX σ s RV (getItem vo vi) Q
section
variable{B:Aaj}{d:Nat}{env:Env}{vars:Vars}{σ:AH}{pos:Pos}
noncomputable abbrev ConsK(Q:List AV→AH→Prop)(a:AV)(l:List AV)(σ:AH):Prop:=Q (a::l) σ
noncomputable abbrev ArgK(B:Aaj)(d:Nat)(env:Env)(vars:Vars)(t:Sem (List Value))(Q:List AV→AH→Prop)(a:AV)(σ:AH):Prop:=AEs B d env vars t σ (ConsK Q a)
noncomputable abbrev Snd(B:Aaj)(d:Nat)(env:Env)(vars:Vars)(e:Expr)(R:AV→AV→AH→Prop)(a:AV)(σ:AH):Prop:=AE B d env vars (eval e env) σ (R a)
noncomputable abbrev BinK(B:Aaj)(d:Nat)(op:Operator)(Q:AV→AH→Prop)(a b:AV)(σ:AH):Prop:=PBin B d op a b σ Q
noncomputable abbrev CmpK(B:Aaj)(d:Nat)(op:CmpOp)(Q:Bool→AH→Prop)(a b:AV)(σ:AH):Prop:=Adl B d op a b σ Q
noncomputable abbrev GetK(B:Aaj)(d:Nat)(Q:AV→AH→Prop)(a b:AV)(σ:AH):Prop:=PGet B d a b σ Q
noncomputable abbrev TruK(B:Aaj)(d:Nat)(Q:Bool→AH→Prop)(a:AV)(σ:AH):Prop:=Ajm B d a σ Q
noncomputable abbrev BoolK(Q:AV→AH→Prop)(c:Bool)(σ:AH):Prop:=Q (.bool c) σ
noncomputable abbrev NotK(Q:Bool→AH→Prop)(c:Bool)(σ:AH):Prop:=Q (!c) σ
noncomputable abbrev AndK(B:Aaj)(d:Nat)(env:Env)(vars:Vars)(t:Sem Bool)(Q:Bool→AH→Prop)(c:Bool)(σ:AH):Prop:=if c=true then AT B d env vars t σ Q else Q false σ
noncomputable abbrev OrK(B:Aaj)(d:Nat)(env:Env)(vars:Vars)(t:Sem Bool)(Q:Bool→AH→Prop)(c:Bool)(σ:AH):Prop:=if c=true then Q true σ else AT B d env vars t σ Q
noncomputable abbrev IfK(B:Aaj)(d:Nat)(env:Env)(vars:Vars)(e₁ e₂:Expr)(Q:AV→AH→Prop)(c:Bool)(σ:AH):Prop:=if c=true then AE B d env vars (eval e₁ env) σ Q else AE B d env vars (eval e₂ env) σ Q
theorem EnvR.go{σ':AH}{s s':Shared}(R:EnvR B σ s.heap env vars)(x:Ext B noX σ s σ' s'):EnvR B σ' s'.heap env vars:=R.ext x fun jj jj=>id
theorem Aaf{Q:List AV→AH→Prop}(q:Q [] σ):AEs B d env vars (spliced (backTo pos (starEach [] env))) σ Q:=fun jj jj jj S jj=>args_nil ⟨[],σ,q,rfl,.refl S⟩
noncomputable def AdW(e:Expr):Bool:=!(Nat.beq e.ctorIdx 7||(Nat.beq e.ctorIdx 22||Nat.beq e.ctorIdx 26))
structure EasyR(e:Expr):Prop where
 star:∀ env rest,starEach (e::rest) env=(false,eval e env)::starEach rest env
 subs:∀ o i,subscripted e false o i=operate [o,i] (getItem o i)
 set:∀ env x,foldedSetIterable e env x=pure x
 bm:∀ op,behindInMarks op e=false
theorem Aba{e:Expr}(h:AdW e=true):EasyR e:=by
 cases e<;>first | exact⟨fun jj jj=>rfl,fun jj jj=>rfl,fun jj jj=>rfl,fun jj=>rfl⟩ | exact absurd h Bool.false_ne_true
theorem Afl{es:List Expr}(h:es.all AdW=true):(backTo pos (starEach es env)).any (·.1)=false:=by
 induction es with
 | nil=>rfl
 | cons e es ih=>
  rw[List.all_cons,Bool.and_eq_true] at h
  rw[(Aba h.1).star];exact ih h.2
theorem Aab{e:Expr}{rest:List Expr}{Q:List AV→AH→Prop}
  (he:AdW e=true) (h:AE B d env vars (eval e env) σ (ArgK B d env vars (spliced (backTo pos (starEach rest env))) Q)):AEs B d env vars (spliced (backTo pos (starEach (e::rest) env))) σ Q:=by
 intro A s r S R
 exact args_cons ((h A s r S R).wp fun v s₁ a σ₁ q rv x=>(q A s₁ r x.st (R.go x)).wp fun vs s₂ l σ₂ q₂ rvs y=>⟨a::l,σ₂,q₂,⟨v,vs,rfl,rv.mono y.tup,rvs⟩,x.trans y⟩) ((Aba he).star _ _)
theorem VRs.length{h:Heap}{l:List AV}{vs:List Value}(x:VRs h l vs):l.length=vs.length:=(Aao.mp x).length
theorem AhT{A:Around}{s:Shared}{l:List AV}{vs:List Value}{Q:AV→AH→Prop}(S:St B σ s)(rv:VRs s.heap l vs)(hz:l.length≤sizeLine)(q:Q (.tup l) σ):W B A noX σ s RV (newTuple vs) Q:=by
 have k:∀ b o,s.heap.get? b=some o→(s.heap.push { cls:=.type "tuple",data:=.seq vs.toArray }).get? b=some o:=fun b o e=>Heap.get?_push_of_some _ e
 refine wpAny_newObj_type ⟨.tup l,σ,q,⟨_,vs.toArray,rfl,PT.new _ _ S.nbs,rv.mono (TupKeep.of_keeps k)⟩,Ext.grow S k⟩ ?_
 show vs.toArray.size≤sizeLine
 rw[List.size_toArray,← rv.length];exact hz
theorem AiC{A:Around}{s:Shared}{l:List AV}{vs:List Value}{Q:AV→AH→Prop}(S:St B σ s)(rv:VRs s.heap l vs)(hz:l.length≤sizeLine)(q:∀ a,σ a=none→Q (.obj a) (upd σ a (.list l))):W B A noX σ s RV (newList vs) Q:=by
 have k:∀ b o,s.heap.get? b=some o→(s.heap.push { cls:=.type "list",data:=.seq vs.toArray }).get? b=some o:=fun b o e=>Heap.get?_push_of_some _ e
 have hn:=S.none_size
 refine wpAny_newObj_type ⟨.obj _,_,q _ hn,rfl,Ext.new S k (Aan _) ⟨vs.toArray,⟨_,Heap.get?_push_size _ rfl⟩,rv.mono (TupKeep.of_keeps k)⟩ S.size_lo⟩ ?_
 show vs.toArray.size≤sizeLine
 rw[List.size_toArray,← rv.length];exact hz
inductive TupR(Q:AV→AH→Prop)(l:List AV)(σ₁:AH):Prop
 | mk (h:l.length≤1000) (q:Q (.tup l) σ₁)
inductive LisR(Q:AV→AH→Prop)(l:List AV)(σ₁:AH):Prop
 | mk (h:l.length≤1000) (q:∀ a,σ₁ a=none→Q (.obj a) (upd σ₁ a (.list l)))
inductive PL(env:Env)(vars:Vars):List Expr→List AV→Prop
 | nil:PL env vars [] []
 | loc {x:Str} {p:Pos} {a:AV} {es:List Expr} {l:List AV} (hk:isK .local env x=true) (hv:vars x=some a) (t:PL env vars es l):PL env vars (.Name x p::es) (a::l)
 | cell {x:Str} {p:Pos} {a:AV} {es:List Expr} {l:List AV} (hk:isK .cell env x=true) (hv:vars x=some a) (t:PL env vars es l):PL env vars (.Name x p::es) (a::l)
 | int {i:Int} {k:Nat} {p:Pos} {es:List Expr} {l:List AV} (t:PL env vars es l):PL env vars (.Constant (.int i) k p::es) (.int i::l)
 | str {y:Str} {k:Nat} {p:Pos} {es:List Expr} {l:List AV} (t:PL env vars es l):PL env vars (.Constant (.str y) k p::es) (.str y::l)
 | bool {b:Bool} {k:Nat} {p:Pos} {es:List Expr} {l:List AV} (t:PL env vars es l):PL env vars (.Constant (.bool b) k p::es) (.bool b::l)
 | none {k:Nat} {p:Pos} {es:List Expr} {l:List AV} (t:PL env vars es l):PL env vars (.Constant .none k p::es) (.none::l)
 | tup {k:Nat} {p:Pos} {el es:List Expr} {m l:List AV} (h:PL env vars el m) (hz:m.length≤1000) (t:PL env vars es l):PL env vars (.Tuple el k p::es) (.tup m::l)
theorem Aam{elts:List Expr}{k:Nat}{Q:AV→AH→Prop}(h:AEs B d env vars (spliced (backTo pos (starEach elts env))) σ (TupR Q)):AE B d env vars (eval (.Tuple elts k pos) env) σ Q:=by
 intro A s r S R
 exact Tuple_ ((h A s r S R).wp fun vs s₁ l σ₁ q rv x=>(AhT x.st rv (Nat.le_trans q.1 (by rw[sizeLine_eq];decide)) q.2).wp fun v s₂ b σ₂ q₂ r₂ y=>⟨b,σ₂,q₂,r₂,x.trans y⟩)
theorem Aag{es:List Expr}{l:List AV}{Q:List AV→AH→Prop}(h:PL env vars es l)(q:Q l σ):AEs B d env vars (spliced (backTo pos (starEach es env))) σ Q:=by
 induction h generalizing Q pos with
 | nil=>exact Aaf q
 | loc hk hv _ ih=>exact Aab rfl (Aaa hk hv (ih q))
 | cell hk hv _ ih=>exact Aab rfl (AaD hk hv (ih q))
 | int _ ih=>exact Aab rfl (Aae (ih q))
 | str _ ih=>exact Aab rfl (Aav (ih q))
 | bool _ ih=>exact Aab rfl (Abf (ih q))
 | none _ ih=>exact Aab rfl (Aat (ih q))
 | tup _ hz _ ih1 ih2=>exact Aab rfl (Aam (ih1 ⟨hz,ih2 q⟩))
theorem AaI{elts:List Expr}{Q:AV→AH→Prop}(h:AEs B d env vars (spliced (backTo pos (starEach elts env))) σ (LisR Q)):AE B d env vars (eval (.List elts pos) env) σ Q:=by
 intro A s r S R
 exact List_ ((h A s r S R).wp fun vs s₁ l σ₁ q rv x=>(AiC x.st rv (Nat.le_trans q.1 (by rw[sizeLine_eq];decide)) q.2).wp fun v s₂ b σ₂ q₂ r₂ y=>⟨b,σ₂,q₂,r₂,x.trans y⟩)
theorem Afm{Q:AV→AH→Prop}(q:∀ a,σ a=none→Q (.obj a) (upd σ a (.dict []))):AE B d env vars (eval (.Dict [] [] pos) env) σ Q:=by
 intro A s r S R
 have hn:=S.none_size
 exact wpAny_Dict_empty ⟨.obj _,_,q _ hn,rfl,Ext.new S (fun b o e=>Heap.get?_push_of_some _ e) (Aan _) (show OR B.w _ _ (.dict []) from⟨[],0,Heap.get?_push_size _ rfl,rfl,List.nodup_nil,.inl fun jj h=>nomatch h⟩) S.size_lo⟩
theorem AaN{l rt:Expr}{op:Operator}{Q:AV→AH→Prop}(h:AE B d env vars (eval l env) σ (Snd B d env vars rt (BinK B d op Q))):
  AE B d env vars (eval (.BinOp l op rt pos) env) σ Q:=by
 intro A s r S R
 exact wpAny_BinOp ((h A s r S R).wp fun va s₁ a σ₁ q rv x=>(q A s₁ r x.st (R.go x)).wp fun vb s₂ b σ₂ q₂ rv₂ y=>(q₂ A s₂ va vb r y.st (rv.mono y.tup) rv₂).wp fun v s₃ c σ₃ q₃ rv₃ z=>
  ⟨c,σ₃,q₃,rv₃,(x.trans y).trans z⟩)
theorem Aei{l rt:Expr}{op:CmpOp}{Q:AV→AH→Prop}(hm:AdW rt=true)(h:AE B d env vars (eval l env) σ (Snd B d env vars rt (CmpK B d op (BoolK Q)))):AE B d env vars (eval (.Compare l [op] [rt] pos) env) σ Q:=by
 intro A s r S R
 exact wpAny_Compare1 ((h A s r S R).wp fun va s₁ a σ₁ q rv x=>(q A s₁ r x.st (R.go x)).wp fun vb s₂ b σ₂ q₂ rv₂ y=>(q₂ A s₂ va vb r y.st (rv.mono y.tup) rv₂).wp fun v s₃ c σ₃ q₃ rv₃ z=>
  ⟨.bool c,σ₃,q₃,rv₃,(x.trans y).trans z⟩) ((Aba hm).bm _)
theorem Aax{l rt:Expr}{op:CmpOp}{whole:Sem Value}{Q:Bool→AH→Prop}(hm:AdW rt=true)(h:AE B d env vars (eval l env) σ (Snd B d env vars rt (CmpK B d op Q))):AT B d env vars (isTrue (.Compare l [op] [rt] pos) env whole) σ Q:=by
 intro A s r S R
 exact wpAny_isTrue_Compare1 ((h A s r S R).wp fun va s₁ a σ₁ q rv x=>(q A s₁ r x.st (R.go x)).wp fun vb s₂ b σ₂ q₂ rv₂ y=>(q₂ A s₂ va vb r y.st (rv.mono y.tup) rv₂).wp fun v s₃ c σ₃ q₃ rv₃ z=>by
  subst rv₃
  exact wpAny_truthy_bool ⟨c,σ₃,q₃,rfl,(x.trans y).trans z⟩) ((Aba hm).bm _)
theorem Ags{e:Expr}{whole:Sem Value}{Q:Bool→AH→Prop}(h:AT B d env vars (isTrue e env (eval e env)) σ (NotK Q)):AT B d env vars (isTrue (.UnaryOp .Not e pos) env whole) σ Q:=by
 intro A s r S R
 exact isTrue_not ((h A s r S R).wp fun c s₁ b σ₁ q rv x=>⟨!b,σ₁,q,by subst rv;rfl,x⟩)
theorem AdJ{e:Expr}{rest:List Expr}{whole:Sem Value}{Q:Bool→AH→Prop}
  (h:AT B d env vars (isTrue e env (eval e env)) σ (AndK B d env vars (isTrue (.BoolOp .And rest pos) env whole) Q)) :
  AT B d env vars (isTrue (.BoolOp .And (e::rest) pos) env whole) σ Q:=by
 intro A s r S R
 refine isTrue_and ((h A s r S R).wp fun c s₁ b σ₁ q rv x=>?_)
 subst rv
 cases b with
 | true=>
  exact(q A s₁ r x.st (R.go x)).wp fun c s₂ b σ₂ q₂ rv₂ y=>⟨b,σ₂,q₂,rv₂,x.trans y⟩
 | false=>
  exact⟨false,σ₁,q,rfl,x⟩
theorem Ail{whole:Sem Value}{Q:Bool→AH→Prop}(q:Q true σ):AT B d env vars (isTrue (.BoolOp .And [] pos) env whole) σ Q:=fun jj jj jj S jj=>isTrue_and_nil ⟨true,σ,q,rfl,.refl S⟩
theorem Ad2{e:Expr}{rest:List Expr}{whole:Sem Value}{Q:Bool→AH→Prop}
  (h:AT B d env vars (isTrue e env (eval e env)) σ (OrK B d env vars (isTrue (.BoolOp .Or rest pos) env whole) Q)) :
  AT B d env vars (isTrue (.BoolOp .Or (e::rest) pos) env whole) σ Q:=by
 intro A s r S R
 refine isTrue_or ((h A s r S R).wp fun c s₁ b σ₁ q rv x=>?_)
 subst rv
 cases b with
 | true=>
  exact⟨true,σ₁,q,rfl,x⟩
 | false=>
  exact(q A s₁ r x.st (R.go x)).wp fun c s₂ b σ₂ q₂ rv₂ y=>⟨b,σ₂,q₂,rv₂,x.trans y⟩
theorem Ad1{whole:Sem Value}{Q:Bool→AH→Prop}(q:Q false σ):AT B d env vars (isTrue (.BoolOp .Or [] pos) env whole) σ Q:=fun jj jj jj S jj=>isTrue_or_nil ⟨false,σ,q,rfl,.refl S⟩
theorem Aa9{e:Expr}{whole:Sem Value}{Q:Bool→AH→Prop}(he:isTrue e env whole=(do let v ← whole;standAt e.pos;holding [v] (truthy v)))(h:AE B d env vars whole σ (TruK B d Q)):AT B d env vars (isTrue e env whole) σ Q:=by
 intro A s r S R
 exact isTrue_plain ((h A s r S R).wp fun va s₁ a σ₁ q rv x=>(q A s₁ va r x.st rv).wp fun c s₂ b σ₂ q₂ rv₂ y=>⟨b,σ₂,q₂,rv₂,x.trans y⟩) he
theorem e_if{test body orelse:Expr}{Q:AV→AH→Prop}(h:AT B d env vars (isTrue test env (eval test env)) σ (IfK B d env vars body orelse Q)):
  AE B d env vars (eval (.IfExp test body orelse pos) env) σ Q:=by
 intro A s r S R
 refine wpAny_IfExp ((h A s r S R).wp fun c s₁ b σ₁ q rv x=>?_)
 subst rv
 cases b with
 | true=>
  exact(q A s₁ r x.st (R.go x)).wp fun c s₂ b σ₂ q₂ rv₂ y=>⟨b,σ₂,q₂,rv₂,x.trans y⟩
 | false=>
  exact(q A s₁ r x.st (R.go x)).wp fun c s₂ b σ₂ q₂ rv₂ y=>⟨b,σ₂,q₂,rv₂,x.trans y⟩
theorem e_not{e:Expr}{Q:AV→AH→Prop}(h:AE B d env vars (eval e env) σ (TruK B d (NotK (BoolK Q)))):AE B d env vars (eval (.UnaryOp .Not e pos) env) σ Q:=by
 intro A s r S R
 refine wpAny_UnaryOp ((h A s r S R).wp fun va s₁ a σ₁ q rv x=>?_)
 unfold unaryOp
 refine wpAny_holding ?_
 exact wpAny_bind ((q A s₁ va r x.st rv).wp fun c s₂ b σ₂ q₂ rv₂ y=>wpAny_pure ⟨.bool (!b),σ₂,q₂,by subst rv₂;rfl,x.trans y⟩)
theorem AaF{value slice:Expr}{Q:AV→AH→Prop}(hs:AdW slice=true)(h:AE B d env vars (eval value env) σ (Snd B d env vars slice (GetK B d Q))):AE B d env vars (eval (.Subscript value slice pos) env) σ Q:=by
 intro A s r S R
 refine Subscript_ ((h A s r S R).wp fun vo s₁ o σ₁ q rv x=>(q A s₁ r x.st (R.go x)).wp fun vi s₂ i σ₂ q₂ rv₂ y=>?_)
 obtain⟨T,id,hT,hl,hw⟩:=q₂ A s₂ vo vi r y.st (rv.mono y.tup) rv₂
 exact tail_any hT hl (hw.wp fun v s₃ c σ₃ q₃ rv₃ z=>⟨c,σ₃,q₃,rv₃,(x.trans y).trans z⟩) ((Aba hs).subs _ _)
end
end Pq
namespace Pq
variable[Own]
noncomputable abbrev REnv(B:Aaj)(env:Env):AH→Shared→Vars→Unit→Prop:=fun σ' s' b jj=>EnvR B σ' s'.heap env b
section
variable{B:Aaj}{d:Nat}{env:Env}{vars:Vars}{σ:AH}{pos:Pos}
theorem Agw{A:Around}{s:Shared}{x:Str}{a:AV}{v:Value}{Q:Vars→AH→Prop}(S:St B σ s)(R:EnvR B σ s.heap env vars)(rv:VR s.heap a v)
  (hk:env.kindOf x=some .local∨env.kindOf x=some .cell) (q:Q (Abl vars x a) σ):W B A (Abz env) σ s (REnv B env) (storeName env x v) Q:=by
 obtain⟨m,hm,hv⟩:=R.ns
 have hvr:∀ {h':Heap},TupKeep s.heap h'→OptW (VR h') (some a) (some v):=fun t=>OptW.some (rv.mono t)
 rcases hk with hk | hk
 ·refine wpAny_storeName_local hk hm (fun h' hn hs=>?_) (by rw[R.kind];rfl)
  have T:=TupKeep.of_ext (AcI hm) hs.extBut
  obtain⟨oL,_,_,hL,_⟩:=id hn
  refine⟨Abl vars x a,σ,q,⟨R.kind,R.globals,R.builtins,⟨_,hn,fun y hy=>?_⟩,R.loc,fun y hy=>?_,fun y c hc=>?_,R.apart⟩,Ext.own S (AcI hm) R.loc.1 R.loc.2 hs.extBut ⟨oL,hL⟩ (.inl rfl)⟩
  ·unfold Abl
   by_cases e:y=x
   ·simp only[e,if_true];exact hvr T
   ·simp only[e,if_false];exact(hv y hy).mono fun jj jj z=>z.mono T
  ·obtain⟨c,w,h1,h2,h3⟩:=R.cell y hy
   refine⟨c,w,h1,h2.sameBut hs (R.cells y c (mem_of_lookup h1)).3,?_⟩
   have:y≠x:=fun e=>by rw[e,hk] at hy;cases hy
   unfold Abl
   simp only[this,if_false]
   exact h3.mono fun jj jj z=>z.mono T
  ·obtain⟨h1,h2,h3,w,h4⟩:=R.cells y c hc
   exact⟨h1,h2,h3,w,h4.sameBut hs h3⟩
 ·obtain⟨c,w,h1,h2,h3⟩:=R.cell x hk
  have hmem:=mem_of_lookup h1
  obtain⟨k1,k2,k3,_⟩:=R.cells x c hmem
  refine wpAny_storeName_cell R.kind hk h1 h2 fun h' hc hs=>?_
  have T:=TupKeep.of_ext (AeG h2) hs.extBut
  obtain⟨oc,hoc,_⟩:=id hc
  refine⟨Abl vars x a,σ,q,⟨R.kind,R.globals,R.builtins,⟨m,hm.sameBut hs (Ne.symm k3),fun y hy=>?_⟩,R.loc,fun y hy=>?_,fun y c' hc'=>?_,R.apart⟩,Ext.own (t:=s.toks) S (AeG h2) k1 k2 hs.extBut ⟨oc,hoc⟩ (.inr ⟨x,hmem⟩)⟩
  ·have:y≠x:=fun e=>by rw[e,hk] at hy;cases hy
   unfold Abl
   simp only[this,if_false]
   exact(hv y hy).mono fun jj jj z=>z.mono T
  ·obtain⟨c',w',g1,g2,g3⟩:=R.cell y hy
   by_cases e:y=x
   ·subst e
    rw[h1] at g1;cases g1
    refine⟨c,some v,h1,hc,?_⟩
    unfold Abl
    simp only[if_true]
    exact hvr T
   ·have hcc:c'≠c:=fun q=>e (name_of_addr R.apart (mem_of_lookup g1) (q▸hmem))
    refine⟨c',w',g1,g2.sameBut hs hcc,?_⟩
    unfold Abl
    simp only[e,if_false]
    exact g3.mono fun jj jj z=>z.mono T
  ·obtain⟨g1,g2,g3,w',g4⟩:=R.cells y c' hc'
   by_cases e:c'=c
   ·subst e;exact⟨g1,g2,g3,_,hc⟩
   ·exact⟨g1,g2,g3,w',g4.sameBut hs e⟩
noncomputable def isVar(env:Env)(x:Str):Bool:=env.kindOf x==some .local||env.kindOf x==some .cell
omit [Own] in
theorem Afh{x:Str}(h:isVar env x=true):env.kindOf x=some .local∨env.kindOf x=some .cell:=by
 unfold isVar at h
 simp only[Bool.or_eq_true,beq_iff_eq] at h
 exact h
theorem AaA{x:Str}{a:AV}{Q:Vars→AH→Prop}(hk:isVar env x=true)(q:Q (Abl vars x a) σ):AA B d env vars (assign (.Name x pos) env) a σ Q:=
 fun jj jj jj jj S R rv=>wpAny_assign_Name (Agw S R rv (Afh hk) q)
theorem AdH{x:Str}{a:AV}{Q:Vars→AH→Prop}(hk:isVar env x=true)(q:Q (Abl vars x a) σ):AA B d env vars (bindName env x) a σ Q:=
 fun jj jj jj jj S R rv=>wpAny_bindName (Agw S R rv (Afh hk) q)
noncomputable def AAs(B:Aaj)(d:Nat)(env:Env)(vars:Vars)(ts:List (Value→Sem Unit))(as:List AV)(σ:AH)(Q:Vars→AH→Prop):Prop:=
 ∀ A s vs,Room A d→St B σ s→EnvR B σ s.heap env vars→VRs s.heap as vs→W B A (Abz env) σ s (REnv B env) (assignInOrder ts vs) Q
noncomputable abbrev AasK(B:Aaj)(d:Nat)(env:Env)(ts:List (Value→Sem Unit))(as:List AV)(Q:Vars→AH→Prop)(vars:Vars)(σ:AH):Prop:=AAs B d env vars ts as σ Q
theorem AbO{Q:Vars→AH→Prop}(q:Q vars σ):AAs B d env vars [] [] σ Q:=fun jj jj jj jj S R jj=>wpAny_pure ⟨vars,σ,q,R,.refl S⟩
theorem Aar{t:Value→Sem Unit}{ts:List (Value→Sem Unit)}{a:AV}{as:List AV}{Q:Vars→AH→Prop}(h:AA B d env vars t a σ (AasK B d env ts as Q)):AAs B d env vars (t::ts) (a::as) σ Q:=by
 rintro A s vs r S R ⟨v,rest,rfl,hv,hr⟩
 show wpAny _ _ (do holding rest (t v);assignInOrder ts rest) _ _ _
 exact wpAny_bind (wpAny_holding ((h A s v r S R hv).wp fun jj s₁ vars₁ σ₁ q R₁ x=>(q A s₁ rest r x.st R₁ (hr.mono x.tup)).wp fun jj s₂ vars₂ σ₂ q₂ R₂ y=>⟨vars₂,σ₂,q₂,R₂,x.trans y⟩))
theorem Ado{A:Around}{X:Addr→Prop}{s:Shared}{h':Heap}(S:St B σ s)(hs:Heap.ExtBut s.heap.objs.size s.heap h'):Ext B X σ s σ { s with heap:=h' }:=
 Ext.grow (t:=s.toks) S fun b o e=>hs b o (Nat.ne_of_lt (Heap.lt_size e)) e
theorem AbP{elts:List Expr}{k:Nat}{l:List AV}{Q:Vars→AH→Prop}(hn:(assignEach elts env).length=l.length)(hstar:(assignEach elts env).findIdx? (·.1)=none)(h:AAs B d env vars ((assignEach elts env).map (·.2)) l σ Q):AA B d env vars (assign (.Tuple elts k pos) env) (.tup l) σ Q:=by
 rintro A s v r S R ⟨a,items,rfl,ht,hr⟩
 have hlen:=VRs.length hr
 refine wpAny_assign_Tuple r.handled ht.isTuple (by rw[hn,hlen,Array.length_toList]) hstar fun h' hs=>?_
 have x:Ext B (Abz env) σ s σ { s with heap:=h' }:=Ado (A:=A) S hs
 have x0:Ext B noX σ s σ { s with heap:=h' }:=Ado (A:=A) S hs
 exact(h A _ items.toList r x.st (R.go x0) (hr.mono x.tup)).wp fun jj s₂ vars₂ σ₂ q₂ R₂ y=>⟨vars₂,σ₂,q₂,R₂,x.trans y⟩
noncomputable def Agf:List (Str×AV)→Vars→Vars
 | [],m=>m
 | (n,a)::r,m=>Agf r (Abl m n a)
theorem a_n2{x y:Str}{p p':Pos}{k:Nat}{a b:AV}{Q:Vars→AH→Prop}(hx:isVar env x=true)(hy:isVar env y=true)(q:Q (Abl (Abl vars x a) y b) σ):
  AA B d env vars (assign (.Tuple [.Name x p,.Name y p'] k pos) env) (.tup [a,b]) σ Q:=AbP rfl rfl (Aar (AaA hx (Aar (AaA hy (AbO q)))))
theorem a_n3{x y z:Str}{p p' p'':Pos}{k:Nat}{a b c:AV}{Q:Vars→AH→Prop}(hx:isVar env x=true)(hy:isVar env y=true)(hz:isVar env z=true)(q:Q (Abl (Abl (Abl vars x a) y b) z c) σ):
  AA B d env vars (assign (.Tuple [.Name x p,.Name y p',.Name z p''] k pos) env) (.tup [a,b,c]) σ Q:=AbP rfl rfl (Aar (AaA hx (Aar (AaA hy (Aar (AaA hz (AbO q)))))))
omit [Own] in
theorem if_c{c A B:Prop}[Decidable c](h:c→A)(k:¬c→B):if c then A else B:=if x:c then Abh x (h x) else AaV x (k x)
noncomputable abbrev RetV(Q:AFl→Vars→AH→Prop)(vars:Vars)(a:AV)(σ:AH):Prop:=Q (.ret a) vars σ
noncomputable abbrev ExpK(Q:AFl→Vars→AH→Prop)(vars:Vars)(_:AV)(σ:AH):Prop:=Q .next vars σ
noncomputable abbrev AsgK(Q:AFl→Vars→AH→Prop)(vars:Vars)(x:Str)(a:AV)(σ:AH):Prop:=Q .next (Abl vars x a) σ
noncomputable abbrev StoK(B:Aaj)(d:Nat)(env:Env)(vars:Vars)(t:Value→Sem Unit)(Q:Vars→AH→Prop)(a:AV)(σ:AH):Prop:=AA B d env vars t a σ Q
noncomputable abbrev IfX(B:Aaj)(d:Nat)(env:Env)(vars:Vars)(s₁ s₂:List Stmt)(Q:AFl→Vars→AH→Prop)(c:Bool)(σ:AH):Prop:=if c=true then AX B d env vars (execs s₁ env) σ Q else AX B d env vars (execs s₂ env) σ Q
theorem AaK{Q:AFl→Vars→AH→Prop}(q:Q .next vars σ):AX B d env vars (execs [] env) σ Q:=fun jj jj jj S R=>wpAny_execs_nil ⟨(.next,vars),σ,q,⟨rfl,R⟩,.refl S⟩
noncomputable def goOn(B:Aaj)(d:Nat)(env:Env)(rest:List Stmt)(Q:AFl→Vars→AH→Prop)(f:AFl)(vars:Vars)(σ:AH):Prop:=AFl.casesOn f (AX B d env vars (execs rest env) σ Q) (Q .brk vars σ) (Q .cont vars σ) fun a=>Q (.ret a) vars σ
theorem Aad{st:Stmt}{rest:List Stmt}{Q:AFl→Vars→AH→Prop}(h:AX B d env vars (exec st env) σ (goOn B d env rest Q)):AX B d env vars (execs (st::rest) env) σ Q:=by
 intro A s r S R
 refine wpAny_execs_cons ((h A s r S R).wp fun f s₁ b σ₁ q rf x=>?_)
 obtain⟨af,vars₁⟩:=b
 obtain⟨hf,R₁⟩:=rf
 cases af with
 | next=>subst hf;exact(q A s₁ r x.st R₁).wp fun f s₂ b₂ σ₂ q₂ rf₂ y=>⟨b₂,σ₂,q₂,rf₂,x.trans y⟩
 | brk=>subst hf;exact⟨(.brk,vars₁),σ₁,q,⟨rfl,R₁⟩,x⟩
 | cont=>subst hf;exact⟨(.cont,vars₁),σ₁,q,⟨rfl,R₁⟩,x⟩
 | ret a=>obtain⟨v,rfl,hv⟩:=hf;exact⟨(.ret a,vars₁),σ₁,q,⟨⟨v,rfl,hv⟩,R₁⟩,x⟩
theorem Aal{e:Expr}{Q:AFl→Vars→AH→Prop}(h:AE B d env vars (eval e env) σ (RetV Q vars)):AX B d env vars (exec (.Return (some e) pos) env) σ Q:=by
 intro A s r S R
 exact wpAny_Return_some ((h A s r S R).wp fun v s₁ a σ₁ q rv x=>⟨(.ret a,vars),σ₁,q,⟨⟨v,rfl,rv⟩,R.go x⟩,x.weaken fun jj f=>f.elim⟩)
theorem Ace{e:Expr}{Q:AFl→Vars→AH→Prop}(hi:interactive env=false)(hs:swapsWith e none pos.line env=pure false)(h:AE B d env vars (eval e env) σ (ExpK Q vars)):AX B d env vars (exec (.Expr e pos) env) σ Q:=by
 intro A s r S R
 exact wpAny_Expr_any ((h A s r S R).wp fun v s₁ a σ₁ q rv x=>⟨(.next,vars),σ₁,q,⟨rfl,R.go x⟩,x.weaken fun jj f=>f.elim⟩) hi hs
theorem Aak{x:Str}{p:Pos}{e:Expr}{Q:AFl→Vars→AH→Prop}(hk:isVar env x=true)(hs:swapsWith e (some (.Name x p)) pos.line env=pure false)(h:AE B d env vars (eval e env) σ (AsgK Q vars x)):AX B d env vars (exec (.Assign [.Name x p] e pos) env) σ Q:=by
 intro A s r S R
 exact wpAny_Assign_Name ((h A s r S R).wp fun v s₁ a σ₁ q rv y=>(Agw (Q:=fun vars₁ σ₂=>Q .next vars₁ σ₂) y.st (R.go y) rv (Afh hk) q).wp fun jj s₂ vars₂ σ₂ q₂ R₂ z=>
  ⟨(.next,vars₂),σ₂,q₂,⟨rfl,R₂⟩,(y.weaken fun jj f=>f.elim).trans z⟩) hs
theorem AaS{elts:List Expr}{k:Nat}{tpos:Pos}{e:Expr}{Q:AFl→Vars→AH→Prop}
  (hs:swapsWithSole [.Tuple elts k tpos] e pos.line env=pure false) (hw:swappedStores [.Tuple elts k tpos] e env=pure none) (h:AE B d env vars (eval e env) σ (StoK B d env vars (assign (.Tuple elts k tpos) env) (Q .next))):AX B d env vars (exec (.Assign [.Tuple elts k tpos] e pos) env) σ Q:=by
 intro A s r S R
 exact Assign_Tuple ((h A s r S R).wp fun v s₁ a σ₁ q rv y=>(q A s₁ v r y.st (R.go y) rv).wp fun jj s₂ vars₂ σ₂ q₂ R₂ z=>⟨(.next,vars₂),σ₂,q₂,⟨rfl,R₂⟩,(y.weaken fun jj f=>f.elim).trans z⟩) hs hw
inductive SwpR(B:Aaj)(d:Nat)(env:Env)(vars:Vars)(names:List Str)(Q:AFl→Vars→AH→Prop)(a:AV)(σ₁:AH):Prop
 | mk (l:List AV) (e:a=.tup l) (n:names.length=l.length) (h:AAs B d env vars (names.reverse.map fun n=>bindName env n) l.reverse σ₁ (Q .next))
theorem AbA{elts:List Expr}{k:Nat}{tpos:Pos}{e:Expr}{names:List Str}{Q:AFl→Vars→AH→Prop}
  (hs:swapsWithSole [.Tuple elts k tpos] e pos.line env=pure false) (hw:swappedStores [.Tuple elts k tpos] e env=pure (some names)) (h:AE B d env vars (eval e env) σ (SwpR B d env vars names Q)):AX B d env vars (exec (.Assign [.Tuple elts k tpos] e pos) env) σ Q:=by
 intro A s r S R
 refine Assign_Tuple_swapped ((h A s r S R).wp fun v s₁ a σ₁ q rv y=>?_) hs hw
 obtain⟨l,rfl,hn,q⟩:=q
 obtain⟨t,items,rfl,ht,hr⟩:=rv
 have hlen:=VRs.length hr
 rw[show names.length=items.size by rw[hn,hlen,Array.length_toList]]
 refine wpAny_unpackItems_tuple r.handled ht.isTuple fun h' hs=>?_
 have x:Ext B (Abz env) σ₁ s₁ σ₁ { s₁ with heap:=h' }:=Ado (A:=A) y.st hs
 have x0:Ext B noX σ₁ s₁ σ₁ { s₁ with heap:=h' }:=Ado (A:=A) y.st hs
 exact(q A _ items.toList.reverse r x.st ((R.go y).go x0) (Aao.mpr (Aao.mp (hr.mono x.tup)).reverse)).wp fun jj s₂ vars₂ σ₂ q₂ R₂ z=>⟨(.next,vars₂),σ₂,q₂,⟨rfl,R₂⟩,((y.weaken fun jj f=>f.elim).trans x).trans z⟩
theorem AbV{test:Expr}{body orelse:List Stmt}{Q:AFl→Vars→AH→Prop}
  (h:AT B d env vars (isTrue test env (eval test env)) σ (IfX B d env vars body orelse Q)):AX B d env vars (exec (.If test body orelse pos) env) σ Q:=by
 intro A s r S R
 refine wpAny_If ((h A s r S R).wp fun c s₁ b σ₁ q rv x=>?_)
 subst rv
 have x':Ext B (Abz env) σ s σ₁ s₁:=x.weaken fun jj f=>f.elim
 cases b with
 | true=>
  exact(q A s₁ r x.st (R.go x)).wp fun c s₂ b σ₂ q₂ rv₂ y=>⟨b,σ₂,q₂,rv₂,x'.trans y⟩
 | false=>
  exact(q A s₁ r x.st (R.go x)).wp fun c s₂ b σ₂ q₂ rv₂ y=>⟨b,σ₂,q₂,rv₂,x'.trans y⟩
noncomputable abbrev WhlQ(I:Nat→Vars→AH→Prop)(Q:AFl→Vars→AH→Prop)(n:Nat)(f:AFl)(vars:Vars)(σ:AH):Prop:=match f with
 | .next | .cont=>∃ m,m<n∧I m vars σ
 | .brk=>Q .next vars σ
 | .ret a=>Q (.ret a) vars σ
noncomputable abbrev WhlX(B:Aaj)(d:Nat)(env:Env)(vars:Vars)(body:List Stmt)(I:Nat→Vars→AH→Prop)(Q:AFl→Vars→AH→Prop)(n:Nat)(c:Bool)(σ:AH):Prop:=if c=true then AX B d env vars (execs body env) σ (WhlQ I Q n) else Q .next vars σ
theorem AeY{test:Expr}{body:List Stmt}{Q:AFl→Vars→AH→Prop}(I:Nat→Vars→AH→Prop)(n:Nat)(h0:I n vars σ)
  (turn:∀ n vars σ,I n vars σ→AT B d env vars (isTrue test env (eval test env)) σ (WhlX B d env vars body I Q n)):AX B d env vars (exec (.While test body [] pos) env) σ Q:=by
 intro A s r S R
 refine wpAny_While (codeAny_whileLoop (fun n s'=>∃ vars₁ σ₁,I n vars₁ σ₁∧EnvR B σ₁ s'.heap env vars₁∧Ext B (Abz env) σ s σ₁ s') (fun n s' hI=>?_) n ⟨vars,σ,h0,R,.refl S⟩)
 obtain⟨vars₁,σ₁,hI,R₁,x⟩:=hI
 refine(turn n vars₁ σ₁ hI A s' r x.st R₁).wp fun c s₁ b σ₂ q rv y=>?_
 subst rv
 have y':Ext B (Abz env) σ₁ s' σ₂ s₁:=y.weaken fun jj f=>f.elim
 cases b with
 | true=>
  refine(q A s₁ r y.st (R₁.go y)).wp fun f s₂ b₂ σ₃ q₂ rf z=>?_
  obtain⟨af,vars₃⟩:=b₂
  obtain⟨hf,R₃⟩:=rf
  cases af with
  | next=>subst hf;obtain⟨m,hm,hI'⟩:=q₂;exact⟨m,hm,vars₃,σ₃,hI',R₃,(x.trans y').trans z⟩
  | cont=>subst hf;obtain⟨m,hm,hI'⟩:=q₂;exact⟨m,hm,vars₃,σ₃,hI',R₃,(x.trans y').trans z⟩
  | brk=>subst hf;exact⟨(.next,vars₃),σ₃,q₂,⟨rfl,R₃⟩,(x.trans y').trans z⟩
  | ret a=>obtain⟨v,rfl,hv⟩:=hf;exact⟨(.ret a,vars₃),σ₃,q₂,⟨⟨v,rfl,hv⟩,R₃⟩,(x.trans y').trans z⟩
 | false=>
  exact wpAny_execs_nil ⟨(.next,vars₁),σ₂,q,⟨rfl,R₁.go y⟩,x.trans y'⟩
end
end Pq
namespace Pq
variable[Own]
theorem bind_R{h:Heap}(kindOf:Str→Option NameKind):∀ (names:List Str) (as:List AV) (vs:List Value),VRs h as vs→∀ (mv:Vars) (ml mc:Str→Option Value),
  (∀ x,kindOf x=some .local→OptW (VR h) (mv x) (ml x))→(∀ x,kindOf x=some .cell→OptW (VR h) (mv x) (mc x)) →
  (∀ x,kindOf x=some .local→OptW (VR h) (Agf (names.zip as) mv x) (bindL kindOf (names.zip vs) ml x))∧(∀ x,kindOf x=some .cell→OptW (VR h) (Agf (names.zip as) mv x) (bindC kindOf (names.zip vs) mc x))
 | [],_,_,_,_,_,_,h1,h2=>⟨h1,h2⟩
 | _::_,[],_,e,_,_,_,h1,h2=>by rw[show _=[] from e];exact⟨h1,h2⟩
 | n::names,a::as,_,⟨v,vs,e,ha,hr⟩,mv,ml,mc,h1,h2=>by
  subst e
  refine bind_R kindOf names as vs hr _ _ _ (fun x hx=>?_) fun x hx=>?_
  ·unfold Abl
   by_cases e:x=n
   ·subst e;simp only[hx,if_true];exact OptW.some ha
   ·by_cases hn:kindOf n=some .local
    ·simp only[e,hn,if_true,if_false];exact h1 x hx
    ·simp only[e,hn,if_false];exact h1 x hx
  ·unfold Abl
   by_cases e:x=n
   ·subst e
    have:¬ kindOf x=some .local:=by rw[hx];decide
    simp only[this,if_true,if_false];exact OptW.some ha
   ·by_cases hn:kindOf n=some .local
    ·simp only[e,hn,if_true,if_false];exact h2 x hx
    ·simp only[e,hn,if_false];exact h2 x hx
inductive FnK(K:Frag)(f:Addr)(params:Arguments)(body:List Stmt)(scope:Scope):Prop
 | mk (oc od osl name qual kV doc pm an cdv ct:_) (h:K.lookup f=some ⟨oc,od,.func (fnOf name qual params body scope .none kV doc pm an cdv ct),osl⟩) (c:codeIn K cdv qual=true)
noncomputable def retQ(Q:AV→AH→Prop)(f:AFl)(_:Vars)(σ:AH):Prop:=AFl.casesOn f (Q .none σ) (Q .none σ) (Q .none σ) fun a=>Q a σ
noncomputable def fE(scope:Scope)(f:Addr)(q:Str)(L:Addr)(cd:Value):Env:=envX q scope L f cd (cellsFrom (L+1) scope.names [])
noncomputable def fV(names:List Str)(args:List AV):Vars:=Agf (names.zip args) fun jj=>none
section
variable{B:Aaj}{d:Nat}{env:Env}{vars:Vars}{σ:AH}{pos:Pos}
noncomputable def AK(B:Aaj)(d:Nat)(f:Value)(args:List AV)(σ:AH)(Q:AV→AH→Prop):Prop:=
 ∀ A s vs,Room A d→St B σ s→VRs s.heap args vs→codeAny (model B.prog B.w) A (.call f ⟨vs,[]⟩) (fun r s'=>match r with | .ok (.ret v)=>WR B noX σ s RV Q v s' | .ok _=>False | .error _=>False) s
theorem AK.ac{f:Value}{args:List AV}{Q:AV→AH→Prop}(h:AK B d f args σ Q):AC B d f args σ Q:=fun A s vs r S rv=>wpAny_call (h A s vs r S rv)
theorem AK.use{f:Value}{args:List AV}{a b:Nat}{Q Q':AV→AH→Prop}(h:AK B a f args σ Q)(e:Nat.ble a b=true)(k:∀ v σ',Q v σ'→Q' v σ'):AC B (d+b) f args σ Q':=(h.ac.less (lad e)).mono k
noncomputable def fnB(scope:Scope)(names:List Str):Bool:=names.all (fun x=>scope.names.lookup x==some .local||scope.names.lookup x==some .cell)&&(decide (((cellsFrom 0 scope.names []).map (·.1)).Nodup)&&(!scope.isCoroutine&&(!scope.isGenerator&&decide (scope.kind=.function))))
omit [Own] in
theorem fnB_of{scope:Scope}{names:List Str}(h:fnB scope names=true):names.all (fun x=>scope.names.lookup x==some .local||scope.names.lookup x==some .cell)=true∧((cellsFrom 0 scope.names []).map (·.1)).Nodup∧scope.isCoroutine=false∧scope.isGenerator=false∧scope.kind=.function:=by
 obtain⟨h1,h⟩:=Bool.and_eq_true_iff.mp h
 obtain⟨h2,h⟩:=Bool.and_eq_true_iff.mp h
 obtain⟨h3,h⟩:=Bool.and_eq_true_iff.mp h
 obtain⟨h4,h⟩:=Bool.and_eq_true_iff.mp h
 exact⟨h1,of_decide_eq_true h2,(Bool.not_eq_true' _).mp h3,(Bool.not_eq_true' _).mp h4,of_decide_eq_true h⟩
theorem AgU{s s₁:Shared}{scope:Scope}{f:Addr}{q:Str}{cd:Value}{names:List Str}{args:List AV}{vs:List Value}(S:St B σ s)(rv:VRs s.heap args vs)(hk:scope.kind=.function)(hnd:((cellsFrom 0 scope.names []).map (·.1)).Nodup)
  (x:InCallC s (fE scope f q s.heap.objs.size cd).locals (bindL (fE scope f q s.heap.objs.size cd).kindOf (names.zip vs) fun jj=>none) (fE scope f q s.heap.objs.size cd).cells (bindC (fE scope f q s.heap.objs.size cd).kindOf (names.zip vs) fun jj=>none) s₁) :
  ∃ h₁ tk,s₁={ s with heap:=h₁,toks:=tk }∧(∀ b o,s.heap.get? b=some o→h₁.get? b=some o)∧EnvR B σ h₁ (fE scope f q s.heap.objs.size cd) (fV names args)∧∀ n c,(n,c)∈cellsFrom (s.heap.objs.size+1) scope.names []→s.heap.get? c=none:=by
 obtain⟨h₁,tk,rfl,hkeep⟩:=x.done
 have x1:Ext B noX σ s σ { s with heap:=h₁,toks:=tk }:=Ext.grow S hkeep
 have baseNone:∀ b,s.heap.get? b=none→B.h₀.get? b=none:=fun b hb'=>by
  cases e:B.h₀.get? b with
  | none=>rfl
  | some o=>rw[S.base b o e] at hb';cases hb'
 have above:∀ n c,(n,c)∈cellsFrom (s.heap.objs.size+1) scope.names []→s.heap.get? c=none:=fun n c hm=>Heap.get?_none_of_le (Nat.le_of_lt (x.above n c hm))
 have bb:=bind_R (h:=h₁) (fE scope f q s.heap.objs.size cd).kindOf names args vs (rv.mono x1.tup) (fun jj=>none) (fun jj=>none) (fun jj=>none) (fun jj jj=>OptW.none) fun jj jj=>OptW.none
 refine⟨h₁,tk,rfl,hkeep,⟨hk,rfl,rfl,⟨_,x.toInCall.ns,bb.1⟩,⟨S.none_size,baseNone _ (Aan _)⟩,fun y hy=>?_,fun y c hc'=>?_,x.apart⟩,above⟩
 ·have:=cellsFrom_some (x:=y) scope.names (s.heap.objs.size+1) [] (.inl hy)
  obtain⟨c,hc'⟩:=Option.isSome_iff_exists.mp this
  exact⟨c,_,hc',x.cell y c hc',bb.2 y hy⟩
 ·exact⟨S.none_of (above y c hc'),baseNone _ (above y c hc'),Nat.ne_of_gt (x.above y c hc'),_,x.cell y c (lookup_of_mem_nodup (cellsFrom_names scope.names 0 (s.heap.objs.size+1) [] [] rfl▸hnd) hc')⟩
theorem Abm(O:BOk B){f:Addr}{params:Arguments}{body:List Stmt}{scope:Scope}(F:FnK B.K f params body scope){names:List Str}{args:List AV}{Q:AV→AH→Prop}
  (hb:∀ name qual kV doc pm an cdv ct vs,vs.length=args.length→bindArgs (fnOf name qual params body scope .none kV doc pm an cdv ct) ⟨vs,[]⟩=pure (names.zip vs))
  (hc:fnB scope names=true)
  (h:∀ q L cd,AX B d (fE scope f q L cd) (fV names args) (execs body (fE scope f q L cd)) σ (retQ Q)) :
  AK B (d+1) (.ref f) args σ Q:=by
 intro A s vs r S rv
 obtain⟨hkind,hnd,hco,hgen,hk⟩:=fnB_of hc
 obtain⟨oc,od,osl,name,qual,kV,doc,pm,an,cdv,ct,hl,hc⟩:=F
 have X:B.K.In s.heap:=O.K.keeps S.base
 have hlen:=VRs.length rv
 have hkinds:∀ n,∀ x∈names.zip vs,scope.names.lookup x.1=some .local∨(scope.names.lookup x.1=some .cell∧((cellsFrom n scope.names []).lookup x.1).isSome=true):=by
  refine kindsX (List.all_eq_true.mpr fun x hx=>?_)
  have hm:x.1∈names:=(List.of_mem_zip (show(x.1,x.2)∈names.zip vs from hx)).1
  exact List.all_eq_true.mp hkind x.1 hm
 refine codeAny_call_cells (fd:=fnOf name qual params body scope .none kV doc pm an cdv ct) (binds:=names.zip vs) (by have:=r.depth;exact ln3 (.c 1 (.a (.a (.v 0) (.p 1 1)) (.n 1)) (.v 2) (.g 0 (.p 0 1) (.v 2))) rfl this) (X _ _ hl) rfl (O.nolimit.keeps S.base) (codeRec_of X hc) rfl
  (hb _ _ _ _ _ _ _ _ _ hlen.symm) rfl (hkinds _) (fun s₁ x=>?_) hco hgen hk
 have henv:callEnvC (fnOf name qual params body scope .none kV doc pm an cdv ct) s.heap.objs.size f=fE scope f qual s.heap.objs.size cdv:=rfl
 rw[henv] at x ⊢
 obtain⟨h₁,tk,rfl,hkeep,R₁,above⟩:=AgU S rv hk hnd x
 have x1:Ext B noX σ s σ { s with heap:=h₁,toks:=tk }:=Ext.grow S hkeep
 refine wpAny_mono (h qual s.heap.objs.size cdv _ { s with heap:=h₁,toks:=tk } (r.deeper _) x1.st R₁) (fun fl s' hq=>?_) fun jj jj f=>f.elim
 obtain⟨⟨af,vars'⟩,σ',q,⟨hf,_⟩,y⟩:=hq
 have z:Ext B noX σ s σ' s':=((x1.weaken fun jj f=>f.elim).trans y).narrow fun b hb'=>.inr (by
  rcases hb' with rfl | ⟨n,hm⟩
  ·exact Aan _
  ·exact above n b hm)
 cases af with
 | ret a=>obtain⟨v,rfl,hv⟩:=hf;exact⟨a,σ',q,hv,z⟩
 | next=>subst hf;exact⟨.none,σ',q,rfl,z⟩
 | brk=>subst hf;exact⟨.none,σ',q,rfl,z⟩
 | cont=>subst hf;exact⟨.none,σ',q,rfl,z⟩
noncomputable def Ahc(v:Value):Bool:=!Nat.beq v.ctorIdx 8
inductive Afx(K:Frag):Value→Prop
 | b (id:String):Afx K (.builtin id)
 | t (T:String):Afx K (.type T)
 | k (v:Value) (h:keepIn K v=true):Afx K v
omit [Own] in
theorem calleeC{K:Frag}{v:Value}(h:AaO K v=true):Afx K v:=by
 cases v with
 | builtin id=>exact .b id
 | type T=>exact .t T
 | _=>exact .k _ h
noncomputable abbrev CallK(B:Aaj)(d:Nat)(f:Value)(Q:AV→AH→Prop)(l:List AV)(σ:AH):Prop:=AC B d f l σ Q
inductive CalR0(B:Aaj)(d:Nat)(Q:AV→AH→Prop)(f:AV)(σ₁:AH):Prop
 | mk (v:Value) (e:f=.raw v) (c:keepIn B.K v=true) (h:AC B d v [] σ₁ Q)
noncomputable def gOk(env:Env)(x:Str)(es:List Expr):Bool:=isG env x&&es.all AdW
theorem gOk_at{x:Str}{e:Expr}{rest:List Expr}(h:gOk env x (e::rest)=true):isG env x=true∧starEach (e::rest) env=(false,eval e env)::starEach rest env∧(backTo pos (starEach rest env)).any (·.1)=false:=by
 unfold gOk at h
 rw[Bool.and_eq_true,List.all_cons,Bool.and_eq_true] at h
 exact⟨h.1,(Aba h.2.1).star _ _,Afl h.2.2⟩
theorem AeS{A:Around}{s:Shared}{f:Value}{pre:List Value}{e:Expr}{rest:List Expr}{P:Value→Shared→Prop}(hc:AaO B.K f=true)(hn:pre=[]∨Ahc f=true)(X:B.K.In s.heap)
  (he:starEach (e::rest) env=(false,eval e env)::starEach rest env) (hplain:(backTo pos (starEach rest env)).any (·.1)=false)
  (go:∀ {P':Shared→Prop},(∀ s₂,B.K.In s₂.heap→P' s₂)→wpAny (model B.prog B.w) A (spliced (backTo pos (starEach (e::rest) env))) (fun vs s₂=>P' s₂∧wpAny (model B.prog B.w) A (call f (pre++vs)) P (fun jj jj=>False) s₂) (fun jj jj=>False) s) :
  wpAny (model B.prog B.w) A (callWith pos f pre (backTo pos (starEach (e::rest) env)) []) P (fun jj jj=>False) s:=by
 cases calleeC hc with
 | k _ h=>exact callWith_K X h (go (P':=fun s₂=>B.K.In s₂.heap) fun jj z=>z) he hplain
 | b id=>
  have g:=wpAny_mono (go (P':=fun jj=>True) fun jj jj=>trivial) (fun jj jj z=>z.2) fun jj jj f=>f
  rw[he] at g ⊢
  exact callWith_builtin (show(false||(backTo pos (starEach rest env)).any (·.1))=false from hplain) (evalArgs_plain g)
 | t T=>
  rcases hn with rfl | hn
  ·have g:=wpAny_mono (go (P':=fun jj=>True) fun jj jj=>trivial) (fun jj jj z=>z.2) fun jj jj f=>f
   rw[he] at g ⊢
   exact PyProof.Rows.callWith_type (show(false||(backTo pos (starEach rest env)).any (·.1))=false from hplain) (evalArgs_plain g)
  ·exact absurd hn Bool.false_ne_true
noncomputable abbrev CrwK(B:Aaj)(A:Around)(v:Value)(P:Value→Shared→Prop)(σ:AH)(s:Shared)(l:List AV)(σ₂:AH):Prop:=∀ s₂ vs,St B σ₂ s₂→VRs s₂.heap l vs→Ext B noX σ s σ₂ s₂→wpAny (model B.prog B.w) A (call v vs) P (fun jj jj=>False) s₂
theorem Acd(O:BOk B){A:Around}{s:Shared}{f:Str}{fp:Pos}{e:Expr}{rest:List Expr}{P:Value→Shared→Prop}{v:Value}(r:Room A d)(S:St B σ s)(R:EnvR B σ s.heap env vars)
  (hk:gOk env f (e::rest)=true) (hg:Abi B.K f=some v) (hc:AaO B.K v=true)
  (h:AEs B d env vars (spliced (backTo pos (starEach (e::rest) env))) σ (CrwK B A v P σ s)) :
  wpAny (model B.prog B.w) A (eval (.Call (.Name f fp) (e::rest) [] pos) env) P (fun jj jj=>False) s:=by
 obtain⟨hk,he,hplain⟩:=gOk_at (pos:=pos) hk
 refine Call_ ((AbG (pos:=fp) (Q:=fun a σ₁=>a=.raw v∧AEs B d env vars (spliced (backTo pos (starEach (e::rest) env))) σ₁ (CrwK B A v P σ s)) O hk hg ⟨rfl,h⟩ A s r S R).wp fun fv s₁ fa σ₁ q rv x=>?_) rfl
 obtain⟨rfl,q⟩:=q
 obtain rfl:fv=v:=rv
 exact AeS hc (.inl rfl) (O.K.keeps x.st.base) he hplain fun hP=>(q A s₁ r x.st (R.go x)).wp fun vs s₂ l σ₂ q₂ rvs y=>⟨hP s₂ (O.K.keeps y.st.base),q₂ s₂ vs y.st rvs (x.trans y)⟩
theorem e_g(O:BOk B){x:Str}{p:Pos}{v:Value}{e:Expr}{rest:List Expr}{Q:AV→AH→Prop}(hk:gOk env x (e::rest)=true)(hg:Abi B.K x=some v)(hc:AaO B.K v=true)
  (h:AEs B d env vars (spliced (backTo pos (starEach (e::rest) env))) σ (CallK B d v Q)):AE B d env vars (eval (.Call (.Name x p) (e::rest) [] pos) env) σ Q:=
 fun A jj r S R=>Acd O r S R hk hg hc (h.mono fun jj jj q s₂ vs S₂ rv x=>(q A s₂ vs r S₂ rv).wp fun jj jj b σ₃ q₃ rv₃ z=>⟨b,σ₃,q₃,rv₃,x.trans z⟩)
theorem e_call0(O:BOk B){func:Expr}{Q:AV→AH→Prop}
  (hf:eval (.Call func [] [] pos) env=(do callWith pos (← eval func env) [] (backTo pos (starEach [] env)) (backToKw pos (keywordEach [] env))))
  (h:AE B d env vars (eval func env) σ (CalR0 B d Q)) :
  AE B d env vars (eval (.Call func [] [] pos) env) σ Q:=by
 intro A s r S R
 refine Call_ ((h A s r S R).wp fun fv s₁ fa σ₁ q rv x=>?_) hf
 obtain⟨v,rfl,hc,q⟩:=q
 obtain rfl:fv=v:=rv
 exact callWith_K0 (O.K.keeps x.st.base) hc ((q A s₁ [] r x.st rfl).wp fun v s₃ b σ₃ q₃ rv₃ z=>⟨b,σ₃,q₃,rv₃,x.trans z⟩)
end
section
variable{B:Aaj}{d:Nat}{σ:AH}{f:Value}{a a':AV}{b c:Addr}{Q:AV→AH→Prop}
theorem VRs.cs{h:Heap}{x:AV}{l:List AV}{P:List Value→Prop}(k:∀ v r,VR h x v→VRs h l r→P (v::r)){vs:List Value}(q:VRs h (x::l) vs):P vs:=by obtain⟨v,r,e,a,b⟩:=q;exact e▸k v r a b
theorem VRs.nl{h:Heap}{P:List Value→Prop}(k:P []){vs:List Value}(q:VRs h [] vs):P vs:=(show vs=[] from q)▸k
theorem VR.ob{h:Heap}{P:Value→Prop}(k:P (.ref b)){v:Value}(q:VR h (.obj b) v):P v:=(show v=.ref b from q)▸k
theorem ac_v(k:∀ A s v,Room A d→St B σ s→VR s.heap a v→W B A noX σ s RV (call f [v]) Q):AC B d f [a] σ Q:=
 fun A s jj r S q=>VRs.cs (q:=q) (P:=fun vs=>W B A noX σ s RV (call f vs) Q) fun v jj rv z=>VRs.nl (q:=z) (P:=fun r=>W B A noX σ s RV (call f (v::r)) Q) (k A s v r S rv)
theorem ac_vv(k:∀ A s v w,Room A d→St B σ s→VR s.heap a v→VR s.heap a' w→W B A noX σ s RV (call f [v,w]) Q):AC B d f [a,a'] σ Q:=
 fun A s jj r S q=>VRs.cs (q:=q) (P:=fun vs=>W B A noX σ s RV (call f vs) Q) fun v jj rv z=>VRs.cs (q:=z) (P:=fun r=>W B A noX σ s RV (call f (v::r)) Q) fun w jj rw z=>VRs.nl (q:=z) (P:=fun r=>W B A noX σ s RV (call f (v::w::r)) Q) (k A s v w r S rv rw)
theorem ac_o(k:∀ A s,Room A d→St B σ s→W B A noX σ s RV (call f [.ref b]) Q):AC B d f [.obj b] σ Q:=
 ac_v fun A s jj r S rv=>VR.ob (q:=rv) (P:=fun v=>W B A noX σ s RV (call f [v]) Q) (k A s r S)
theorem ac_ov(k:∀ A s v,Room A d→St B σ s→VR s.heap a v→W B A noX σ s RV (call f [.ref b,v]) Q):AC B d f [.obj b,a] σ Q:=
 ac_vv fun A s jj w r S rv rw=>VR.ob (q:=rv) (P:=fun v=>W B A noX σ s RV (call f [v,w]) Q) (k A s w r S rw)
theorem ac_t{l:List AV}(k:∀ A s t (items:Array Value),Room A d→St B σ s→PT s.heap t items→VRs s.heap l items.toList→W B A noX σ s RV (call f [.ref t]) Q):AC B d f [.tup l] σ Q:=
 ac_v (by rintro A s _ r S ⟨t,items,e,ht,rt⟩;exact e▸k A s t items r S ht rt)
end
end Pq
open scoped Classical
namespace Pq
variable[Own]
noncomputable def AbM(a:AV):AV→Bool:=@AV.rec (fun jj=>AV→Bool) (fun jj=>List AV→Bool) (fun jj=>false) (fun jj b=>Nat.beq b.ctorIdx 1) (fun jj b=>Nat.beq b.ctorIdx 2) (fun jj b=>Nat.beq b.ctorIdx 3) (fun jj ih b=>Nat.beq b.ctorIdx 4&&ih b.items) (fun jj jj=>false) (fun jj jj=>false) (fun jj=>true) (fun jj jj h ih m=>@List.casesOn _ (fun jj=>Bool) m true fun y m=>h y&&ih m) a
noncomputable def compats(l:List AV):List AV→Bool:=@AV.rec_1 (fun jj=>AV→Bool) (fun jj=>List AV→Bool) (fun jj=>false) (fun jj b=>Nat.beq b.ctorIdx 1) (fun jj b=>Nat.beq b.ctorIdx 2) (fun jj b=>Nat.beq b.ctorIdx 3) (fun jj ih b=>Nat.beq b.ctorIdx 4&&ih b.items) (fun jj jj=>false) (fun jj jj=>false) (fun jj=>true) (fun jj jj h ih m=>@List.casesOn _ (fun jj=>Bool) m true fun y m=>h y&&ih m) l
omit [Own] in
theorem Afo(l m:List AV):AbM (.tup l) (.tup m)=compats l m:=rfl
omit [Own] in
theorem Ab2(x y:AV)(l m:List AV):compats (x::l) (y::m)=(AbM x y&&compats l m):=rfl
omit [Own] in
theorem Adr{l m:List AV}(h:∀ x∈l,∀ y∈m,AbM x y=true):compats l m=true:=by
 induction l generalizing m with
 | nil=>rfl
 | cons x l ih=>
  cases m with
  | nil=>rfl
  | cons y m=>exact Bool.and_eq_true_iff.mpr ⟨h x (.head _) y (.head _),ih fun a ha b hb=>h a (.tail _ ha) b (.tail _ hb)⟩
omit [Own] in
theorem Ab1{n:Nat}{a:AV}(h:Abx n a=true):∃ m x l,n=m+1∧a=.tup (.str x::l)∧∀ y∈l,Abx m y=true:=by
 cases n with
 | zero=>exact absurd h Bool.false_ne_true
 | succ m=>
  cases a with
  | tup l=>
   cases l with
   | nil=>exact absurd h Bool.false_ne_true
   | cons x l=>
    cases x with
    | str x=>exact⟨m,x,l,rfl,rfl,List.all_eq_true.mp h⟩
    | _=>exact absurd h Bool.false_ne_true
  | _=>exact absurd h Bool.false_ne_true
theorem AbE(n m:Nat){a b:AV}(h:Abx n a=true)(h':Abx m b=true):AbM a b=true:=by
 induction n generalizing m a b with
 | zero=>exact absurd h Bool.false_ne_true
 | succ n ih=>
  obtain⟨n',x,l,e,rfl,hl⟩:=Ab1 h
  obtain⟨m',y,l',e',rfl,hl'⟩:=Ab1 h'
  cases e
  exact Adr (l:=l) (m:=l') fun u hu v hv=>ih m' (hl u hu) (hl' v hv)
theorem AcC(n:Nat){a:AV}(h:Abx n a=true):AaE n a=true:=by
 induction n generalizing a with
 | zero=>exact absurd h Bool.false_ne_true
 | succ n ih=>
  obtain⟨n',x,l,e,rfl,hl⟩:=Ab1 h
  cases e
  refine Bool.and_eq_true_iff.mpr ⟨by cases n<;>rfl,List.all_eq_true.mpr fun y hy=>ih (hl y hy)⟩
omit [Own] in
theorem AeJ(n:Nat){m:Nat}{a:AV}(h:AaE n a=true)(hm:n≤m):AaE m a=true:=by
 induction n generalizing m a with
 | zero=>cases a<;>first | exact absurd h Bool.false_ne_true | (cases m<;>rfl)
 | succ n ih=>
  cases m with
  | zero=>exact absurd hm (Nat.not_succ_le_zero _)
  | succ m=>
   cases a with
   | tup l=>exact List.all_eq_true.mpr fun y hy=>ih (List.all_eq_true.mp h y hy) (Nat.le_of_succ_le_succ hm)
   | _=>exact h
omit [Own] in
theorem AeB{a b:Bool}(h:a=true)(k:b=true):(a&&b)=true:=Bool.and_eq_true_iff.mpr ⟨h,k⟩
omit [Own] in
theorem ba{a b:Bool}(h:(a&&b)=true):a=true∧b=true:=Bool.and_eq_true_iff.mp h
theorem Aec(τ:KT){a b:AV}(h:AcX τ a)(h':AcX τ b):AbM a b=true:=by
 cases τ with
 | term=>exact AbE 8 8 h h'
 | key=>
  obtain⟨p,k,n,pl,bb,t,h1,h2,h3⟩:=h
  obtain⟨p',k',n',pl',bb',t',g1,g2,g3⟩:=h'
  have c1:compats p p'=true:=Adr fun x hx y hy=>by
   obtain⟨i,rfl⟩:=h1 x hx
   obtain⟨j,rfl⟩:=g1 y hy
   rfl
  have c2:compats pl pl'=true:=Adr fun x hx y hy=>by
   obtain⟨u,v,rfl,q⟩:=h2 x hx
   obtain⟨u',v',rfl,q'⟩:=g2 y hy
   exact(show(true&&(AbM v v'&&true))=true from AeB rfl (AeB (AbE _ _ q q') rfl))
  exact(show((compats p p'&&(true&&(true&&(compats pl pl'&&(true&&true)))))&&(AbM t t'&&true))=true from AeB (AeB c1 (AeB rfl (AeB rfl (AeB c2 rfl)))) (AeB (AbE _ _ h3 g3) rfl))
theorem AcS(τ:KT){a:AV}(h:AcX τ a):AaE 8 a=true:=by
 cases τ with
 | term=>exact AcC 8 h
 | key=>
  obtain⟨p,k,n,pl,bb,t,h1,h2,h3⟩:=h
  have c1:p.all (AaE 5)=true:=List.all_eq_true.mpr fun x hx=>by obtain⟨i,rfl⟩:=h1 x hx;rfl
  have c2:pl.all (AaE 5)=true:=List.all_eq_true.mpr fun x hx=>by
   obtain⟨u,v,rfl,q⟩:=h2 x hx
   exact(show(true&&(AaE 4 v&&true))=true from AeB rfl (AeB (AcC 4 q) rfl))
  exact(show((p.all (AaE 5)&&(true&&(true&&(pl.all (AaE 5)&&(true&&true)))))&&(AaE 7 t&&true))=true from AeB (AeB c1 (AeB rfl (AeB rfl (AeB c2 rfl)))) (AeB (AcC 7 h3) rfl))
theorem Ahl(τ:KT){a:AV}(h:AcX τ a):∃ l,a=.tup l:=by
 cases τ with
 | term=>obtain⟨_,x,l,_,rfl,_⟩:=Ab1 (n:=8) (a:=a) h;exact⟨_,rfl⟩
 | key=>obtain⟨p,k,n,pl,bb,t⟩:=h;exact⟨_,rfl⟩
theorem VR.key_ref{h:Heap}{a:AV}{b:Addr}{n:Nat}(k:AaE n a=true)(r:VR h a (.ref b)):∃ l items m,a=.tup l∧n=m+1∧PT h b items∧VRs h l items.toList∧∀ x∈l,AaE m x=true:=by
 cases a with
 | tup l=>
  obtain⟨b',items,e,ht,hr⟩:=r
  cases e
  cases n with
  | zero=>exact absurd k Bool.false_ne_true
  | succ m=>exact⟨l,items,m,rfl,rfl,ht,hr,List.all_eq_true.mp k⟩
 | bool _=>cases r
 | int _=>obtain⟨_,e⟩:=r;cases e
 | str _=>obtain⟨_,e⟩:=r;cases e
 | none=>cases n<;>exact absurd k Bool.false_ne_true
 | obj _=>cases n<;>exact absurd k Bool.false_ne_true
 | raw _=>cases n<;>exact absurd k Bool.false_ne_true
noncomputable def absV(v:Value):Option AV:=Value.casesOn v none none none (fun b=>some (.bool b)) (fun i jj=>some (.int i)) (fun jj jj=>none) (fun x jj=>some (.str x)) (fun jj jj=>none) (fun jj=>none) (fun jj=>none) fun jj=>none
theorem VR.absV{h:Heap}{x:AV}{v:Value}{n:Nat}(k:AaE n x=true)(r:VR h x v):absV v=some x∨∃ b,v=.ref b:=by
 cases x with
 | bool b=>cases (show v=_ from r);exact .inl rfl
 | int i=>obtain⟨t,rfl⟩:=r;exact .inl rfl
 | str s=>obtain⟨t,rfl⟩:=r;exact .inl rfl
 | tup l=>obtain⟨b,_,e,_⟩:=r;exact .inr ⟨b,e⟩
 | _=>cases n<;>cases k
theorem VR.inj(h:Heap):∀ (n m:Nat) {x y:AV} {v:Value},AaE n x=true→AaE m y=true→VR h x v→VR h y v→x=y:=by
 have all:∀ (n m:Nat),(∀ x y v,AaE n x=true→AaE m y=true→VR h x v→VR h y v→x=y)→∀ (l l':List AV) (vs:List Value),(∀ x∈l,AaE n x=true)→(∀ x∈l',AaE m x=true)→VRs h l vs→VRs h l' vs→l=l':=by
  intro n m ih l
  induction l with
  | nil=>
   intro l' vs _ _ e e'
   cases l' with
   | nil=>rfl
   | cons=>obtain⟨_,_,q,_⟩:=e';rw[show vs=[] from e] at q;cases q
  | cons x l hi=>
   rintro l' vs h1 h2 ⟨v,r,e,hx,hr⟩ e'
   cases l' with
   | nil=>rw[show vs=[] from e'] at e;cases e
   | cons y l'=>
    obtain⟨v',r',q,hy,hr'⟩:=e'
    subst e;cases q
    rw[ih x y v (h1 _ (.head _)) (h2 _ (.head _)) hx hy,hi l' r (fun z hz=>h1 z (.tail _ hz)) (fun z hz=>h2 z (.tail _ hz)) hr hr']
 intro n
 induction n with
 | zero=>
  intro m x y v k k' r r'
  rcases r.absV k with e | ⟨b,rfl⟩
  ·rcases r'.absV k' with e' | ⟨b,rfl⟩
   ·exact Option.some.inj (e.symm.trans e')
   ·cases e
  ·obtain⟨_,_,_,_,e,_⟩:=VR.key_ref k r;cases e
 | succ n ih=>
  intro m x y v k k' r r'
  rcases r.absV k with e | ⟨b,rfl⟩
  ·rcases r'.absV k' with e' | ⟨b,rfl⟩
   ·exact Option.some.inj (e.symm.trans e')
   ·cases e
  ·obtain⟨l,items,n',rfl,e,ht,hr,hk⟩:=VR.key_ref k r
   obtain⟨l',items',m',rfl,rfl,ht',hr',hk'⟩:=VR.key_ref k' r'
   cases e
   obtain⟨n1,e1,_⟩:=ht
   obtain⟨n2,e2,_⟩:=ht'
   rw[e1] at e2;cases e2
   rw[all n m' (fun x y v=>ih m') l l' _ hk hk' hr hr']
end Pq
namespace Pq
variable[Own]
section
variable{prog:Program}{w:World}{E:Value→Shared→Prop}
omit [Own] in
theorem Adn{A:Around}{s:Shared}{a b:Bool}{Q:Bool→Shared→Prop}(h:Q (a==b) s):wpAny (model prog w) A (eqBool (.bool a) (.bool b)) Q E s:=by
 unfold eqBool
 show wpAny _ _ (if(Value.bool a==Value.bool b)=true then _ else _) Q E s
 by_cases hab:(Value.bool a==Value.bool b)=true
 ·rw[if_pos hab]
  have e:a=b:=by have:=eq_of_beq hab;injection this
  subst e
  exact wpAny_bind (wpAny_rule (wpAny_pure (by simpa using h)))
 ·rw[if_neg hab]
  exact wpAny_bind (show wpAny _ _ (compareOp .Eq (.bool a) (.bool b)) _ _ _ from eq_bool (wpAny_truthy_bool h))
omit [Own] in
theorem Adm{A:Around}{s:Shared}{b:Bool}{Q:Int→Shared→Prop}(h:Q (hashInt (if b then 1 else 0)) { s with toks:=s.toks+1 }):wpAny (model prog w) A (pyHash (.bool b)) Q E s:=by
 have hr:=rawHash_range (if b then 1 else 0)
 unfold pyHash
 have hv:[Value.bool b].any Value.onHeap=false:=rfl
 refine wpAny_bind ?_
 rw[cRoomFor,if_neg (by rw[hv];exact Bool.false_ne_true)];refine wpAny_pure ?_
 refine wpAny_bind (wpAny_specialOf (PySem.typeIs_bool s b) F.slot_bool_hash.lookup ?_)
 show wpAny _ _ (if(some (Value.builtin "int.__hash__")==some Value.none)=true then _ else _) Q E s
 refine wpAny_bind (wpAny_specialOf (PySem.typeIs_bool s b) F.slot_bool_hash.lookup ?_)
 show wpAny _ _ (callSpecialIfBoundUnlessNone? (.bool b) "__hash__" _ >>= _) Q E s
 refine wpAny_bind (wpAny_callSpecialIfBoundUnlessNone?_slot (PySem.typeIs_bool s b) F.slot_bool_hash
  (wpAny_call_entry F.slot_bool_hash (PySem.typeIs_bool s b) entry_int_hash
   (show wpAny _ _ (do ret (← mkInt (rawHash (if b then 1 else 0)))) _ _ s from wpAny_ret_mkInt ?_) (args_int_hash _)))
 show wpAny _ _ (if(decide (-(2:Int) ^ 63≤rawHash (if b then 1 else 0))&&decide (rawHash (if b then 1 else 0)<2 ^ 63))=true then _ else _) Q E _
 rw[if_pos (by rw[decide_eq_true hr.1,decide_eq_true hr.2];rfl)]
 exact wpAny_pure h
omit [Own] in
theorem beq_dec{α:Type}[DecidableEq α](a b:α):(a==b)=decide (a=b):=by by_cases q:a=b<;>simp[q]
omit [Own] in
theorem AgW{x y:AV}{l m:List AV}:decide (x::l=y::m)=(decide (x=y)&&decide (l=m)):=by
 by_cases h1:x=y<;>by_cases h2:l=m<;>simp[h1,h2]
theorem Af6{n:Nat}{a b:AV}{va vb:Value}{A:Around}{s:Shared}{Q:Bool→Shared→Prop}(ka:AaE n a=true)(hc:AbM a b=true)(ra:VR s.heap a va)(rb:VR s.heap b vb)(h:Q (decide (a=b)) s)(k:∀ l m,a=.tup l→b=.tup m→wpAny (model prog w) A (eqBool va vb) Q E s):
  wpAny (model prog w) A (eqBool va vb) Q E s:=by
 cases a with
 | bool x=>
  cases b<;>first | cases hc | skip
  cases (show va=_ from ra);cases (show vb=_ from rb);exact Adn (by rw[beq_dec];simpa using h)
 | int x=>
  cases b<;>first | cases hc | skip
  obtain⟨_,rfl⟩:=ra;obtain⟨_,rfl⟩:=rb;exact wpAny_eqBool_int (by rw[beq_dec];simpa using h)
 | str x=>
  cases b<;>first | cases hc | skip
  obtain⟨_,rfl⟩:=ra;obtain⟨_,rfl⟩:=rb;exact wpAny_eqBool_str (by simpa using h)
 | tup l=>
  cases b<;>first | cases hc | skip
  exact k _ _ rfl rfl
 | _=>cases n<;>exact absurd ka Bool.false_ne_true
inductive EqJ(h:Heap)(n:Nat)(l m:List AV)(xs ys:Array Value)(rest:List (Value×Value)):Prop
 | mk (x' y':List AV) (xs' ys':List Value) (hz:rest=List.zip xs' ys') (hx:VRs h x' xs') (hy:VRs h y' ys') (k1:∀ z∈x',AaE n z=true) (k2:∀ z∈y',AaE n z=true) (hc:compats x' y'=true) (hd:decide (x'=y')=decide (l=m)) (hl:(xs'.length==ys'.length)=(xs.size==ys.size))
theorem Acv:∀ (n:Nat) {a b:AV} {va vb:Value} {A:Around} {s:Shared} {Q:Bool→Shared→Prop},AaE n a=true→AaE n b=true→AbM a b=true→VR s.heap a va→VR s.heap b vb→A.units+n<cLine →
  Q (decide (a=b)) s→wpAny (model prog w) A (eqBool va vb) Q E s:=by
 intro n
 induction n with
 | zero=>
  intro a b va vb A s Q ka kb hc ra rb hu h
  exact Af6 ka hc ra rb h fun l m e jj=>by subst e;exact absurd ka Bool.false_ne_true
 | succ n ih=>
  intro a b va vb A s Q ka kb hc ra rb hu h
  refine Af6 ka hc ra rb h fun l m e1 e2=>?_
  subst e1 e2
  rw[Afo] at hc
  have rra:=ra
  have rrb:=rb
  obtain⟨x,xs,rfl,hx,hxr⟩:=ra
  obtain⟨y,ys,rfl,hy,hyr⟩:=rb
  unfold eqBool
  try with_reducible refine wpAny_holding ?_
  show wpAny _ _ (if(Value.ref x==Value.ref y)=true then _ else _) Q E s
  by_cases hab:(Value.ref x==Value.ref y)=true
  ·rw[if_pos hab]
   have e:x=y:=by have:=eq_of_beq hab;injection this
   subst e
   have:=VR.inj s.heap _ _ ka kb rra rrb
   rw[decide_eq_true this] at h
   exact wpAny_bind (wpAny_rule (wpAny_pure h))
  ·rw[if_neg hab]
   rw[Aca] at ka kb
   have ka:=List.all_eq_true.mp ka
   have kb:=List.all_eq_true.mp kb
   refine wpAny_bind (wpAny_richCompare_same_room (op:=.Eq) hx.isTup.typeIs hy.isTup.typeIs F.slot_tuple_eq
    (wpAny_call_entry F.slot_tuple_eq hx.isTup.typeIs F.entry_tuple_eq ?_ (F.args_tuple_eq_2 _ _)) (ln3 (.c 1 (.a (.a (.v 0) (.p 1 1)) (.n 1)) (.v 2) (.g 0 (.p 0 1) (.v 2))) rfl hu))
   have fin:∀ c,c=decide (AV.tup l=AV.tup m)→(fun fin s'=>∃ v,fin=PySem.Fin.done (.ret v)∧(fun v s'=>v≠Value.notImplemented∧(fun v s'=>wpAny (model prog w) A (truthOfDropped v) Q E s') v s') v s') (.done (.ret (.bool c))) s:=by
    rintro c rfl
    exact⟨_,rfl,(fun e=>nomatch e),wpAny_truthy_bool h⟩
   show wpAny _ _ (isInstance (.ref y) (.type "tuple") >>= _) _ _ s
   refine wpAny_bind (wpAny_isInstance hy.isTup.typeIs isSubtype_tuple_tuple ?_)
   refine wpAny_bind (tupleItemsOf_ hx.isTup ?_)
   refine wpAny_bind (tupleItemsOf_ hy.isTup ?_)
   refine wpAny_bind ?_
   refine wpAny_forIn_list _
    (fun rest r s'=>r.1=none∧s'=s∧EqJ s.heap n l m xs ys rest)
    _ ?_ ?_ _ _ ⟨rfl,rfl,l,m,xs.toList,ys.toList,rfl,hxr,hyr,ka,kb,hc,rfl,by simp⟩
   ·rintro⟨u,v⟩ rest r s' ⟨hr,rfl,x',y',xs',ys',hz,hx',hy',k1,k2,hcc,hdec,hlen⟩
    cases x' with
    | nil=>rw[show xs'=[] from hx'] at hz;simp at hz
    | cons p x''=>
     obtain⟨u',xs'',rfl,hp,hx''⟩:=hx'
     cases y' with
     | nil=>rw[show ys'=[] from hy'] at hz;simp at hz
     | cons q y''=>
      obtain⟨v',ys'',rfl,hq,hy''⟩:=hy'
      simp only[List.zip_cons_cons,List.cons.injEq,Prod.mk.injEq] at hz
      obtain⟨⟨rfl,rfl⟩,rfl⟩:=hz
      rw[Ab2,Bool.and_eq_true] at hcc
      refine wpAny_bind (ih (k1 _ (.head _)) (k2 _ (.head _)) hcc.1 hp hq (by show A.units+1+n<cLine;exact ln3 (.c 1 (.a (.a (.v 0) (.p 1 1)) (.n 1)) (.v 2) (.g 0 (.a (.a (.p 0 1) (.v 1)) (.n 1)) (.v 2))) rfl hu) ?_)
      rw[AgW] at hdec
      by_cases hk:p=q
      ·rw[decide_eq_true hk] at hdec ⊢
       exact wpAny_pure ⟨rfl,rfl,x'',y'',xs'',ys'',rfl,hx'',hy'',fun z hz=>k1 z (.tail _ hz),fun z hz=>k2 z (.tail _ hz),hcc.2,by simpa using hdec,by simpa using hlen⟩
      ·rw[decide_eq_false hk] at hdec ⊢
       refine wpAny_bind (wpAny_pure (wpAny_pure (wpAny_pure (fin _ ?_))))
       have:¬ l=m:=by simpa using hdec.symm
       simp[this]
   ·rintro⟨r1,r2⟩ s' ⟨hr,rfl,x',y',xs',ys',hz,hx',hy',k1,k2,hcc,hdec,hlen⟩
    simp only at hr
    subst hr
    refine wpAny_pure ?_
    show(fun fin s'=>∃ v,fin=PySem.Fin.done (.ret v)∧(fun v s'=>v≠Value.notImplemented∧(fun v s'=>wpAny (model prog w) A (truthOfDropped v) Q E s') v s') v s') (.done (.ret (.bool (xs.size==ys.size)))) s'
    refine fin _ ?_
    rw[← hlen]
    have:decide (AV.tup l=AV.tup m)=decide (l=m):=by simp
    rw[this,← hdec]
    cases x' with
    | nil=>
     rw[show xs'=[] from hx'] at hz ⊢
     cases y' with
     | nil=>rw[show ys'=[] from hy'];simp
     | cons q y''=>obtain⟨v',ys'',rfl,_⟩:=hy';simp
    | cons p x''=>
     obtain⟨u',xs'',rfl,_⟩:=hx'
     cases y' with
     | nil=>rw[show ys'=[] from hy'];simp
     | cons q y''=>obtain⟨v',ys'',rfl,_⟩:=hy';simp at hz
noncomputable def Aej(a:AV):Nat:=@AV.rec (fun jj=>Nat) (fun jj=>Nat) 0 (fun jj=>1) (fun jj=>1) (fun jj=>1) (fun jj n=>n+1) (fun jj=>0) (fun jj=>0) 0 (fun jj jj n m=>n+m) a
noncomputable def AcM(l:List AV):Nat:=@AV.rec_1 (fun jj=>Nat) (fun jj=>Nat) 0 (fun jj=>1) (fun jj=>1) (fun jj=>1) (fun jj n=>n+1) (fun jj=>0) (fun jj=>0) 0 (fun jj jj n m=>n+m) l
omit [Own] in
theorem Afn(l:List AV)(k:AV):AcM (l++[k])=AcM l+Aej k:=by
 induction l with
 | nil=>exact(Nat.add_zero _).trans (Nat.zero_add _).symm
 | cons z l ih=>exact(congrArg (Aej z+·) ih).trans (Nat.add_assoc _ _ _).symm
omit [Own] in
theorem AgL(l:List AV):AiW w l=l.map (hashAV w):=by
 induction l with
 | nil=>rfl
 | cons x l ih=>exact congrArg (hashAV w x::·) ih
theorem Ac3{a:AV}{va:Value}{A:Around}{s:Shared}{Q:Int→Shared→Prop}(k:isSc a=true)(ra:VR s.heap a va)(h:Q (hashAV w a) { s with toks:=s.toks+Aej a }):wpAny (model prog w) A (pyHash va) Q E s:=by
 cases a with
 | bool x=>cases (show va=_ from ra);exact Adm h
 | int x=>obtain⟨_,rfl⟩:=ra;exact wpAny_pyHash_int h
 | str x=>obtain⟨_,rfl⟩:=ra;exact wpAny_pyHash_str h
 | _=>exact absurd k Bool.false_ne_true
theorem AfK:∀ (n:Nat) {a:AV} {va:Value} {A:Around} {s:Shared} {Q:Int→Shared→Prop},AaE n a=true→VR s.heap a va→A.units+n<cLine →
  Q (hashAV w a) { s with toks:=s.toks+Aej a }→wpAny (model prog w) A (pyHash va) Q E s:=by
 intro n
 induction n with
 | zero=>exact fun ka ra jj h=>Ac3 ka ra h
 | succ n ih=>
  intro a va A s Q ka ra hu h
  cases a with
  | bool x=>exact Ac3 rfl ra h
  | int x=>exact Ac3 rfl ra h
  | str x=>exact Ac3 rfl ra h
  | none=>exact absurd ka Bool.false_ne_true
  | obj _=>exact absurd ka Bool.false_ne_true
  | raw _=>exact absurd ka Bool.false_ne_true
  | tup l=>
   obtain⟨x,xs,rfl,hx,hxr⟩:=ra
   rw[Aca] at ka
   have ka:=List.all_eq_true.mp ka
   have hT:=hx.isTup.typeIs
   unfold pyHash
   first | unfold pyHashByItsType | skip
   first | refine wpAny_bind (wpAny_cRoomFor_or (.inr (ln3 (.c 1 (.a (.a (.v 0) (.p 1 1)) (.n 1)) (.v 2) (.g 0 (.p 0 1) (.v 2))) rfl hu)) ?_) | skip
   refine wpAny_bind (wpAny_specialOf hT F.slot_tuple_hash.lookup ?_)
   show wpAny _ _ (if(some (Value.builtin "tuple.__hash__")==some Value.none)=true then _ else _) Q E s
   refine wpAny_bind (wpAny_specialOf hT F.slot_tuple_hash.lookup ?_)
   show wpAny _ _ (callSpecialIfBoundUnlessNone? (.ref x) "__hash__" _ >>= _) Q E s
   refine wpAny_bind (wpAny_callSpecialIfBoundUnlessNone?_slot hT F.slot_tuple_hash (wpAny_call_entry F.slot_tuple_hash hT F.entry_tuple_hash ?_ (F.args_tuple_hash_1 _)))
   show wpAny _ _ (Builtin.Tuple.tupleItemsOf (.ref x) >>= _) _ _ s
   refine wpAny_bind (tupleItemsOf_ hx.isTup ?_)
   refine wpAny_bind ?_
   rw[← Array.forIn_toList]
   refine wpAny_forIn_list _
    (fun rest (b:Array Int) s'=>∃ done left,l=done++left∧VRs s.heap left rest∧b.toList=done.map (hashAV w)∧s'={ s with toks:=s.toks+AcM done })
    _ ?_ ?_ _ _ ⟨[],l,rfl,hxr,rfl,rfl⟩
   ·rintro v rest b s' ⟨done,left,rfl,hl,hb,rfl⟩
    cases left with
    | nil=>exact nol hl
    | cons k left=>
     obtain⟨v',r',e,hk,hl'⟩:=hl
     cases e
     have hd:=Afn done k
     refine wpAny_bind (ih (s:={ s with toks:=s.toks+AcM done }) (ka k (by simp)) hk (by show A.units+1+n<cLine;exact ln3 (.c 1 (.a (.a (.v 0) (.p 1 1)) (.n 1)) (.v 2) (.g 0 (.a (.a (.p 0 1) (.v 1)) (.n 1)) (.v 2))) rfl hu) ?_)
     first
      | exact wpAny_pure ⟨done++[k],left,by simp,hl',by simp[hb],by simp[hd,Nat.add_assoc]⟩
      | exact wpAny_bind (wpAny_pure (wpAny_pure ⟨done++[k],left,by simp,hl',by simp[hb],by simp[hd,Nat.add_assoc]⟩))
   ·rintro b s' ⟨done,left,rfl,hl,hb,rfl⟩
    cases left with
    | cons k left=>obtain⟨_,_,e,_⟩:=hl;exact nol e.symm
    | nil=>
     rw[List.append_nil] at h
     show wpAny _ _ (retInt (Builtin.Tuple.tupleHashOf b.toList)) _ _ _
     rw[hb]
     refine wpAny_ret_mkInt ?_
     show wpAny _ _ (if(decide (-(2:Int) ^ 63≤Builtin.Tuple.tupleHashOf (done.map (hashAV w)))&&decide (Builtin.Tuple.tupleHashOf (done.map (hashAV w))<2 ^ 63))=true then _ else _) Q E _
     rw[show hashAV w (.tup done)=reduceHash (Builtin.Tuple.tupleHashOf (AiW w done)) from rfl,AgL,reduceHash] at h
     by_cases hr:(decide (-(2:Int) ^ 63≤Builtin.Tuple.tupleHashOf (done.map (hashAV w)))&&decide (Builtin.Tuple.tupleHashOf (done.map (hashAV w))<2 ^ 63))=true
     ·rw[if_pos hr]
      rw[if_pos hr] at h
      exact wpAny_pure (show Q _ { s with toks:=s.toks+AcM done+1 } from h)
     ·rw[if_neg hr]
      rw[if_neg hr] at h
      exact wpAny_bind (wpAny_rule (wpAny_pure (show Q _ { s with toks:=s.toks+AcM done+1 } from h)))
theorem AdQ{n:Nat}{a:AV}{va:Value}{A:Around}{s:Shared}{Q:Bool→Shared→Prop}(k:isSc a=true)(ra:VR s.heap a va)(h:Q true s):wpAny (model prog w) A (eqIsQuiet n va) Q E s:=by
 cases a with
 | bool x=>cases (show va=_ from ra);rw[eqIsQuiet_byValue _ rfl];exact wpAny_pure h
 | int x=>obtain⟨_,rfl⟩:=ra;rw[eqIsQuiet_byValue _ rfl];exact wpAny_pure h
 | str x=>obtain⟨_,rfl⟩:=ra;rw[eqIsQuiet_byValue _ rfl];exact wpAny_pure h
 | _=>exact absurd k Bool.false_ne_true
theorem quiet_AV:∀ (n:Nat) {a:AV} {va:Value} {A:Around} {s:Shared} {Q:Bool→Shared→Prop},AaE n a=true→VR s.heap a va→Q true s→wpAny (model prog w) A (eqIsQuiet n va) Q E s:=by
 intro n
 induction n with
 | zero=>exact fun ka ra h=>AdQ ka ra h
 | succ n ih=>
  intro a va A s Q ka ra h
  cases a with
  | bool x=>exact AdQ rfl ra h
  | int x=>exact AdQ rfl ra h
  | str x=>exact AdQ rfl ra h
  | none=>exact absurd ka Bool.false_ne_true
  | obj _=>exact absurd ka Bool.false_ne_true
  | raw _=>exact absurd ka Bool.false_ne_true
  | tup l=>
   obtain⟨x,xs,rfl,hx,hxr⟩:=ra
   rw[Aca] at ka
   have ka:=List.all_eq_true.mp ka
   have hT:=hx.isTup.typeIs
   obtain⟨o,ho,_,nn,hd⟩:=id hx.isTup
   unfold eqIsQuiet
   refine wpAny_bind (wpAny_specialOf hT F.slot_tuple_eq.lookup ?_)
   show wpAny _ _ (isInstance (.ref x) (.type "tuple") >>= _) _ _ s
   refine wpAny_bind (wpAny_isInstance hT isSubtype_tuple_tuple ?_)
   refine wpAny_bind (wpAny_seqItems ho hd ?_)
   refine wpAny_bind ?_
   show wpAny _ _ (forIn xs _ _) _ _ s
   rw[← Array.forIn_toList]
   refine wpAny_forIn_list _ (fun rest r s'=>r.1=none∧s'=s∧∃ left,(∀ z∈left,AaE n z=true)∧VRs s.heap left rest) _ ?_ ?_ _ _ ⟨rfl,rfl,l,ka,hxr⟩
   ·rintro v rest r s' ⟨hr,rfl,left,hk,hl⟩
    cases left with
    | nil=>exact nol hl
    | cons k left=>
     obtain⟨v',r',e,hv,hl'⟩:=hl
     cases e
     refine wpAny_bind (ih (hk _ (.head _)) hv ?_)
     exact wpAny_pure ⟨rfl,rfl,left,fun z hz=>hk z (.tail _ hz),hl'⟩
   ·rintro⟨r1,r2⟩ s' ⟨hr,rfl,_⟩
    simp only at hr
    subst hr
    exact wpAny_pure h
noncomputable def Ajg(prog:Program)(w:World)(τ:KT):HeapKind prog w AV where
 is:=fun h k a=>AcX τ k∧VR h k (.ref a)
 hash:=hashAV w
 draws:=Aej
 room:=fun A=>A.units+8<cLine
 inj:=fun hx hy=>VR.inj _ 8 8 (AcS τ hx.1) (AcS τ hy.1) hx.2 hy.2
 keeps:=fun hk ho hd hs=>⟨hk.1,hk.2.mono (TupKeep.of_ext (Adq ho fun i n q=>by rw[hd] at q;cases q) hs.extBut)⟩
 pyHash:=fun hu hk h=>AfK 8 (AcS τ hk.1) hk.2 hu h
 eqBool:=fun hu hx hy h=>Acv 8 (AcS τ hx.1) (AcS τ hy.1) (Aec τ hx.1 hy.1) hx.2 hy.2 hu h
 quiet:=fun hk h=>quiet_AV 8 (AcS τ hk.1) hk.2 h
end
end Pq
namespace Pq
variable[Own]
theorem Acq(l m:List AV):((List.range (min l.length m.length)).all (fun j=>decide (l[j]?=m[j]?))&&l.length==m.length)=decide (l=m):=by
 by_cases h:l=m
 ·subst h;simp
 ·rw[decide_eq_false h]
  by_cases hl:l.length=m.length
  ·rw[Bool.and_eq_false_iff]
   left
   rw[Bool.eq_false_iff]
   intro hall
   apply h
   apply List.ext_getElem?
   intro j
   by_cases hj:j<l.length
   ·have:=List.all_eq_true.mp hall j (List.mem_range.mpr (Nat.lt_min.mpr ⟨hj,hl▸hj⟩))
    exact of_decide_eq_true this
   ·rw[List.getElem?_eq_none (Nat.le_of_not_lt hj),List.getElem?_eq_none (hl▸Nat.le_of_not_lt hj)]
  ·simp[hl]
theorem Ac2(l m:List AV)(hl:l.length=m.length):(List.range l.length).all (fun j=>decide (l[j]?=m[j]?))=decide (l=m):=by
 have:=Acq l m
 rw[← hl,Nat.min_self,beq_self_eq_true,Bool.and_true] at this
 exact this
theorem VRs.size{h:Heap}{l:List AV}{items:Array Value}(r:VRs h l items.toList):l.length=items.size:=by rw[VRs.length r,Array.length_toList]
theorem VRs.at{h:Heap}{l:List AV}{items:Array Value}(r:VRs h l items.toList){j:Nat}(hj:j<items.size):∃ a,l[j]?=some a∧VR h a items[j]:=by
 have hlen:=VRs.length r
 have hj':j<l.length:=by rw[hlen,Array.length_toList];exact hj
 obtain⟨v,e,hv⟩:=(Aao.mp r).get (List.getElem?_eq_getElem hj')
 refine⟨_,List.getElem?_eq_getElem hj',?_⟩
 have:items.toList[j]?=some items[j]:=by simp[hj]
 obtain rfl:=sinj this e;exact hv
theorem AeP:∀ {l m:List AV} {j:Nat} {a b:AV},compats l m=true→l[j]?=some a→m[j]?=some b→AbM a b=true
 | [],_,_,_,_,_,h,_=>by simp at h
 | _::_,[],_,_,_,_,_,h=>by simp at h
 | x::l,y::m,0,a,b,hc,h,h'=>by simp at h h';subst h h';rw[Ab2,Bool.and_eq_true] at hc;exact hc.1
 | x::l,y::m,j+1,a,b,hc,h,h'=>by rw[Ab2,Bool.and_eq_true] at hc;simp at h h';exact AeP hc.2 h h'
theorem Ai3{n:Nat}{a b:AV}{va vb:Value}{A:Around}{s:Shared}(ka:AaE n a=true)(kb:AaE n b=true)(hc:AbM a b=true)(ra:VR s.heap a va)(rb:VR s.heap b vb)(hu:A.units+n<cLine):
  SeqAt.EqAt A s va vb (decide (a=b)):=fun jj jj jj jj h=>Acv n ka kb hc ra rb hu h
theorem AcL{n:Nat}{l m:List AV}{xs ys:Array Value}{A:Around}{s:Shared}(ka:∀ x∈l,AaE n x=true)(kb:∀ x∈m,AaE n x=true)(hc:compats l m=true)(ra:VRs s.heap l xs.toList)(rb:VRs s.heap m ys.toList)(hu:A.units+n<cLine)
  (j:Nat) (h1:j<xs.size) (h2:j<ys.size):SeqAt.EqAt A s xs[j] ys[j] (decide (l[j]?=m[j]?)):=by
 obtain⟨a,e,ha⟩:=ra.at h1
 obtain⟨b,e',hb⟩:=rb.at h2
 have:=Ai3 (ka a (List.mem_of_getElem? e)) (kb b (List.mem_of_getElem? e')) (AeP hc e e') ha hb hu
 rw[e,e']
 simpa using this
section
variable{B:Aaj}{d:Nat}{σ:AH}{Q:AV→AH→Prop}{C:Bool→AH→Prop}{i j:Int}{x y:Str}{b c:Bool}
theorem AdO(q:Q (.int (i+j)) σ):PBin B d .Add (.int i) (.int j) σ Q:=by
 rintro A s _ _ r S ⟨_,rfl⟩ ⟨_,rfl⟩;exact add_int ⟨_,σ,q,⟨_,rfl⟩,(Ext.refl S).tok _⟩
theorem b_sub(q:Q (.int (i - j)) σ):PBin B d .Sub (.int i) (.int j) σ Q:=by
 rintro A s _ _ r S ⟨_,rfl⟩ ⟨_,rfl⟩;exact sub_int ⟨_,σ,q,⟨_,rfl⟩,(Ext.refl S).tok _⟩
theorem Ah8(hj:0<j)(q:Q (.int (i % j)) σ):PBin B d .Mod (.int i) (.int j) σ Q:=by
 rintro A s _ _ r S ⟨_,rfl⟩ ⟨_,rfl⟩
 exact mod_int' (by lia) ⟨_,σ,q,⟨_,by rw[Int.fmod_eq_emod_of_nonneg _ (Int.le_of_lt hj)]⟩,(Ext.refl S).tok _⟩
theorem b_mul(h1:0≤i∧i<2 ^ 30)(h2:0≤j∧j<2 ^ 30)(q:Q (.int (i * j)) σ):PBin B d .Mult (.int i) (.int j) σ Q:=by
 rintro A s _ _ r S ⟨_,rfl⟩ ⟨_,rfl⟩
 exact mul_int ⟨_,σ,q,⟨_,rfl⟩,(Ext.refl S).tok _⟩
theorem b_div(hj:0<j)(h1:0≤i∧i<2 ^ 30)(h2:j<2 ^ 30)(q:Q (.int (i / j)) σ):PBin B d .FloorDiv (.int i) (.int j) σ Q:=by
 rintro A s _ _ r S ⟨_,rfl⟩ ⟨_,rfl⟩
 exact floordiv_int (by lia) ⟨_,σ,q,⟨_,by rw[Int.fdiv_eq_ediv_of_nonneg _ (Int.le_of_lt hj)]⟩,(Ext.refl S).tok _⟩ (.inl (PyProof.noPylong_small (by omega)))
theorem AbU(q:C (decide (i=j)) σ):Adl B d .Eq (.int i) (.int j) σ C:=by
 rintro A s _ _ r S ⟨_,rfl⟩ ⟨_,rfl⟩;exact eq_int ⟨_,σ,q,by rw[beq_dec],.refl S⟩
theorem Afr(q:C (!decide (i=j)) σ):Adl B d .NotEq (.int i) (.int j) σ C:=by
 rintro A s _ _ r S ⟨_,rfl⟩ ⟨_,rfl⟩;exact ne_int ⟨_,σ,q,by rw[bne,beq_dec],.refl S⟩
theorem Afs(q:C (decide (i<j)) σ):Adl B d .Lt (.int i) (.int j) σ C:=by
 rintro A s _ _ r S ⟨_,rfl⟩ ⟨_,rfl⟩;exact lt_int ⟨_,σ,q,rfl,.refl S⟩
theorem AbD(q:C (decide (j<i)) σ):Adl B d .Gt (.int i) (.int j) σ C:=by
 rintro A s _ _ r S ⟨_,rfl⟩ ⟨_,rfl⟩;exact gt_int ⟨_,σ,q,rfl,.refl S⟩
theorem Aft(q:C (decide (i≤j)) σ):Adl B d .LtE (.int i) (.int j) σ C:=by
 rintro A s _ _ r S ⟨_,rfl⟩ ⟨_,rfl⟩;exact le_int ⟨_,σ,q,rfl,.refl S⟩
theorem AdY(q:C (decide (x=y)) σ):Adl B d .Eq (.str x) (.str y) σ C:=by
 rintro A s _ _ r S ⟨_,rfl⟩ ⟨_,rfl⟩;exact PyProof.Rows.eq_str ⟨_,σ,q,by rw[beq_dec],.refl S⟩
theorem Afq(q:C (!decide (x=y)) σ):Adl B d .NotEq (.str x) (.str y) σ C:=by
 rintro A s _ _ r S ⟨_,rfl⟩ ⟨_,rfl⟩;exact PyProof.Rows.ne_str ⟨_,σ,q,by rw[bne,beq_dec],.refl S⟩
theorem Ajb(q:C (b != c) σ):Adl B d .NotEq (.bool b) (.bool c) σ C:=by
 rintro A s _ _ r S rfl rfl;exact PyProof.Rows.ne_bool ⟨_,σ,q,rfl,.refl S⟩
theorem Ai9(q:C false σ):Adl B d .NotEq .none .none σ C:=by
 rintro A s _ _ r S rfl rfl;exact SeqAt.RcNeAt.none_none _ _ _ _ ⟨_,σ,q,rfl,.refl S⟩
noncomputable def AbI(a:AV):Bool:=AV.casesOn a true (fun jj=>false) (fun jj=>false) (fun jj=>false) (fun jj=>false) (fun jj=>false) fun jj=>false
theorem VR.none_iff{h:Heap}{a:AV}{v:Value}(r:VR h a v)(ha:∀ u,a≠.raw u):(v==Value.none)=AbI a:=by
 cases a with
 | none=>rw[show v=.none from r];rfl
 | bool _=>rw[show v=.bool _ from r];rfl
 | int _=>obtain⟨_,rfl⟩:=r;rfl
 | str _=>obtain⟨_,rfl⟩:=r;rfl
 | tup _=>obtain⟨_,_,rfl,_⟩:=r;rfl
 | obj _=>rw[show v=.ref _ from r];rfl
 | raw u=>exact absurd rfl (ha u)
theorem Acx{a:AV}(ha:∀ u,a≠.raw u)(q:C (AbI a) σ):Adl B d .Is a .none σ C:=by
 rintro A s va _ r S ra rfl
 have e:=ra.none_iff ha
 show wpAny _ _ (do return Value.bool (← isSame va .none)) _ _ _
 have h:isSame va .none=pure (va==.none):=by
  cases a with
  | none=>rw[show va=.none from ra];rfl
  | bool _=>rw[show va=.bool _ from ra];rfl
  | int _=>obtain⟨_,rfl⟩:=ra;rfl
  | str _=>obtain⟨_,rfl⟩:=ra;rfl
  | tup _=>obtain⟨_,_,rfl,_⟩:=ra;rfl
  | obj _=>rw[show va=.ref _ from ra];rfl
  | raw u=>exact absurd rfl (ha u)
 rw[h,e]
 exact wpAny_bind (wpAny_pure (wpAny_pure ⟨_,σ,q,rfl,.refl S⟩))
theorem Abg{a:AV}(ha:∀ u,a≠.raw u)(q:C (!AbI a) σ):Adl B d .IsNot a .none σ C:=by
 rintro A s va _ r S ra rfl
 have e:=ra.none_iff ha
 show wpAny _ _ (do return Value.bool (!(← isSame va .none))) _ _ _
 have h:isSame va .none=pure (va==.none):=by
  cases a with
  | none=>rw[show va=.none from ra];rfl
  | bool _=>rw[show va=.bool _ from ra];rfl
  | int _=>obtain⟨_,rfl⟩:=ra;rfl
  | str _=>obtain⟨_,rfl⟩:=ra;rfl
  | tup _=>obtain⟨_,_,rfl,_⟩:=ra;rfl
  | obj _=>rw[show va=.ref _ from ra];rfl
  | raw u=>exact absurd rfl (ha u)
 rw[h,e]
 exact wpAny_bind (wpAny_pure (wpAny_pure ⟨_,σ,q,rfl,.refl S⟩))
theorem Room.u{A:Around}(r:Room A d)(n:Nat)(h:n≤200):A.units+n<cLine:=by have:=r.units;exact ln4 (.c 1 (.v 0) (.n 200) (.c 1 (.a (.a (.a (.v 1) (.m 10 (.v 2))) (.n 200)) (.n 1)) (.v 3) (.g 0 (.a (.b 1 0) (.n 1)) (.v 3)))) rfl h this
theorem AdX{l m:List AV}(hl:AaE 9 (.tup l)=true)(hm:AaE 9 (.tup m)=true)(hc:compats l m=true)(q:C (decide (AV.tup l=AV.tup m)) σ):Adl B d .Eq (.tup l) (.tup m) σ C:=by
 rintro A s _ _ r S ⟨a,xs,rfl,ha,ra⟩ ⟨b,ys,rfl,hb,rb⟩
 rw[Aca] at hl hm
 refine SeqAt.eq_tupleAt (e:=fun j=>decide (l[j]?=m[j]?)) ha.isTuple hb.isTuple (r.u 0 (by exact lnk rfl)) (fun j h1 h2=>AcL (n:=8) (List.all_eq_true.mp hl) (List.all_eq_true.mp hm) hc ra rb (by show A.units+1+8<cLine;have:=r.u 9 (by exact lnk rfl);exact this) j h1 h2)
  ⟨_,σ,q,?_,.refl S⟩
 have e1:=VRs.size ra
 have e2:=VRs.size rb
 rw[← e1,← e2,Acq]
 simp
theorem c_ne_tup{l m:List AV}(hl:AaE 9 (.tup l)=true)(hm:AaE 9 (.tup m)=true)(hc:compats l m=true)(q:C (!decide (AV.tup l=AV.tup m)) σ):Adl B d .NotEq (.tup l) (.tup m) σ C:=by
 rintro A s _ _ r S ⟨a,xs,rfl,ha,ra⟩ ⟨b,ys,rfl,hb,rb⟩
 rw[Aca] at hl hm
 refine SeqAt.RcNeAt.tuples (e:=fun j=>decide (l[j]?=m[j]?)) ha.isTuple hb.isTuple (r.u 0 (by exact lnk rfl)) (fun j h1 h2=>AcL (n:=8) (List.all_eq_true.mp hl) (List.all_eq_true.mp hm) hc ra rb (by show A.units+1+8<cLine;have:=r.u 9 (by exact lnk rfl);exact this) j h1 h2) _ _ _ _
  ⟨_,σ,q,?_,.refl S⟩
 have e1:=VRs.size ra
 have e2:=VRs.size rb
 rw[← e1,← e2,Acq]
 simp
theorem Age{p q':Addr}{l m:List AV}(hp:σ p=some (.list l))(hq':σ q'=some (.list m))(hl:∀ x∈l,AaE 8 x=true)(hm:∀ x∈m,AaE 8 x=true)(hc:compats l m=true)(q:C (decide (l=m)) σ):Adl B d .Eq (.obj p) (.obj q') σ C:=by
 rintro A s _ _ r S rfl rfl
 obtain⟨xs,hx,rx⟩:=S.objs _ _ hp
 obtain⟨ys,hy,ry⟩:=S.objs _ _ hq'
 have e1:=VRs.size rx
 have e2:=VRs.size ry
 by_cases hsz:xs.size=ys.size
 ·refine SeqAt.eq_listAt (e:=fun j=>decide (l[j]?=m[j]?)) hx.isList hy.isList hsz (r.u 0 (by exact lnk rfl)) (fun j h1 h2=>AcL (n:=8) hl hm hc rx ry (by show A.units+1+8<cLine;have:=r.u 9 (by exact lnk rfl);exact this) j h1 h2) ⟨_,σ,q,?_,.refl S⟩
  rw[← e1,Ac2 _ _ (Nat.le_antisymm (ln4 (.e 1 0 (.v 0) (.v 1) (.e 0 1 (.v 2) (.v 3) (.e 1 0 (.v 1) (.v 3) (.g 0 (.v 0) (.v 2))))) rfl e1 e2 hsz) (ln4 (.e 0 1 (.v 0) (.v 1) (.e 1 0 (.v 2) (.v 3) (.e 0 1 (.v 1) (.v 3) (.g 0 (.v 2) (.v 0))))) rfl e1 e2 hsz))]
 ·refine SeqAt.eq_list_lengthsAt hx.isList hy.isList (by simp[hsz]) (r.u 0 (by exact lnk rfl)) ⟨_,σ,q,?_,.refl S⟩
  have:¬ l=m:=fun e=>hsz (by rw[← e1,← e2,e])
  rw[decide_eq_false this]
theorem Aja{p q':Addr}{l m:List AV}(hp:σ p=some (.list l))(hq':σ q'=some (.list m))(hl:∀ x∈l,AaE 8 x=true)(hm:∀ x∈m,AaE 8 x=true)(hc:compats l m=true)(q:C (!decide (l=m)) σ):Adl B d .NotEq (.obj p) (.obj q') σ C:=by
 rintro A s _ _ r S rfl rfl
 obtain⟨xs,hx,rx⟩:=S.objs _ _ hp
 obtain⟨ys,hy,ry⟩:=S.objs _ _ hq'
 have e1:=VRs.size rx
 have e2:=VRs.size ry
 by_cases hsz:xs.size=ys.size
 ·refine SeqAt.RcNeAt.lists (e:=fun j=>decide (l[j]?=m[j]?)) hx.isList hy.isList hsz (r.u 0 (by exact lnk rfl)) (fun j h1 h2=>AcL (n:=8) hl hm hc rx ry (by show A.units+1+8<cLine;have:=r.u 9 (by exact lnk rfl);exact this) j h1 h2) _ _ _ _ ⟨_,σ,q,?_,.refl S⟩
  rw[← e1,Ac2 _ _ (Nat.le_antisymm (ln4 (.e 1 0 (.v 0) (.v 1) (.e 0 1 (.v 2) (.v 3) (.e 1 0 (.v 1) (.v 3) (.g 0 (.v 0) (.v 2))))) rfl e1 e2 hsz) (ln4 (.e 0 1 (.v 0) (.v 1) (.e 1 0 (.v 2) (.v 3) (.e 0 1 (.v 1) (.v 3) (.g 0 (.v 2) (.v 0))))) rfl e1 e2 hsz))]
 ·refine SeqAt.RcNeAt.lists_lengths hx.isList hy.isList (by simp[hsz]) (r.u 0 (by exact lnk rfl)) _ _ _ _ ⟨_,σ,q,?_,.refl S⟩
  have:¬ l=m:=fun e=>hsz (by rw[← e1,← e2,e])
  rw[decide_eq_false this];rfl
theorem Adf{p q':Addr}{l:List AV}(hp:σ p=some (.list l))(hq':σ q'=some (.list []))(q:C (decide (l=[])) σ):Adl B d .Eq (.obj p) (.obj q') σ C:=by
 rintro A s _ _ r S rfl rfl
 obtain⟨xs,hx,rx⟩:=S.objs _ _ hp
 obtain⟨ys,hy,ry⟩:=S.objs _ _ hq'
 have e1:=VRs.size rx
 have e2:=VRs.size ry
 by_cases hsz:xs.size=ys.size
 ·have hl:l=[]:=List.length_eq_zero_iff.mp (by rw[e1,hsz,← e2];rfl)
  subst hl
  refine SeqAt.eq_listAt (e:=fun j=>false) hx.isList hy.isList hsz (r.u 0 (by exact lnk rfl)) (fun j h1 h2=>absurd h1 (by rw[← e1];exact Nat.not_lt_zero _)) ⟨_,σ,q,?_,.refl S⟩
  rw[← e1];simp
 ·refine SeqAt.eq_list_lengthsAt hx.isList hy.isList (by simp[hsz]) (r.u 0 (by exact lnk rfl)) ⟨_,σ,q,?_,.refl S⟩
  have:¬ l=[]:=fun e=>hsz (by rw[← e1,← e2,e])
  rw[decide_eq_false this]
theorem Ade{p q':Addr}{l:List AV}(hp:σ p=some (.list l))(hq':σ q'=some (.list []))(q:C (!decide (l=[])) σ):Adl B d .NotEq (.obj p) (.obj q') σ C:=by
 rintro A s _ _ r S rfl rfl
 obtain⟨xs,hx,rx⟩:=S.objs _ _ hp
 obtain⟨ys,hy,ry⟩:=S.objs _ _ hq'
 have e1:=VRs.size rx
 have e2:=VRs.size ry
 by_cases hsz:xs.size=ys.size
 ·have hl:l=[]:=List.length_eq_zero_iff.mp (by rw[e1,hsz,← e2];rfl)
  subst hl
  refine SeqAt.RcNeAt.lists (e:=fun j=>false) hx.isList hy.isList hsz (r.u 0 (by exact lnk rfl)) (fun j h1 h2=>absurd h1 (by rw[← e1];exact Nat.not_lt_zero _)) _ _ _ _ ⟨_,σ,q,?_,.refl S⟩
  rw[← e1];simp
 ·refine SeqAt.RcNeAt.lists_lengths hx.isList hy.isList (by simp[hsz]) (r.u 0 (by exact lnk rfl)) _ _ _ _ ⟨_,σ,q,?_,.refl S⟩
  have:¬ l=[]:=fun e=>hsz (by rw[← e1,← e2,e])
  rw[decide_eq_false this];rfl
theorem AaU(q:C b σ):Ajm B d (.bool b) σ C:=by
 rintro A s _ r S rfl;exact wpAny_truthy_bool ⟨b,σ,q,rfl,.refl S⟩
end
end Pq
namespace Pq
variable[Own]
noncomputable def slc{α:Type}(l:List α)(lo hi:Option Nat):List α:=(Option.casesOn hi l fun h=>l.take h:List α).drop (lo.getD 0)
theorem m4(h a n:Nat):min (h - a) (n - a)=min (min h n - min a n) (n - a):=by
 rcases Nat.le_total a n with q | q
 ·rw[Nat.min_eq_left q,← Nat.sub_min_sub_right,Nat.min_assoc,Nat.min_self]
 ·rw[Nat.sub_eq_zero_of_le q,Nat.min_zero,Nat.min_zero]
theorem slc_eq{α:Type}(l:List α)(lo hi:Option Nat):slc l lo hi=(l.drop (min (lo.getD 0) l.length)).take (min (hi.getD l.length) l.length - min (lo.getD 0) l.length):=by
 rw[← List.drop_eq_drop_min]
 cases hi with
 | none=>
  show l.drop (lo.getD 0)=(l.drop (lo.getD 0)).take (min l.length l.length - min (lo.getD 0) l.length)
  exact(List.take_of_length_le (by rw[List.length_drop,Nat.min_self];exact Nat.sub_le_sub_left (Nat.min_le_left _ _) _)).symm
 | some h=>exact List.drop_take.trans (List.take_eq_take_iff.mpr (by rw[List.length_drop];exact m4 _ _ _))
theorem AgB{α:Type}(l:List α)(lo hi:Option Nat):(slc l lo hi).length≤l.length:=by
 cases hi with
 | none=>exact List.length_drop▸Nat.sub_le _ _
 | some h=>exact Nat.le_trans (List.length_drop▸Nat.sub_le _ _) (List.length_take_le' h l)
noncomputable def partAV:Option Nat→AV
 | none=>.none
 | some k=>.int k
noncomputable def Agj(p:Option Nat)(v:Value):Prop:=match p with
 | none=>v=.none
 | some k=>∃ t,v=.int k t
theorem Aha{h:Heap}{p:Option Nat}{v:Value}(r:VR h (partAV p) v):Agj p v:=by
 cases p with
 | none=>exact r
 | some k=>exact r
theorem Adw{prog:Program}{w:World}{A:Around}{E:Value→Shared→Prop}{s:Shared}{p:Option Nat}{v:Value}{Q:Option Int→Shared→Prop}(hp:Agj p v)(h:Q (p.map fun (k:Nat)=>(k:Int)) s):
  wpAny (model prog w) A (Builtin.Slice.slicePartIndex v) Q E s:=by
 cases p with
 | none=>rw[show v=.none from hp];exact slicePart_none h
 | some k=>obtain⟨t,rfl⟩:=hp;exact slicePart_int h
theorem imin(k n:Nat):min (k:Int) (n:Int)=((min k n:Nat):Int):=by
 rcases Nat.le_total k n with h | h
 ·rw[Nat.min_eq_left h,Int.min_eq_left (Int.ofNat_le.mpr h)]
 ·rw[Nat.min_eq_right h,Int.min_eq_right (Int.ofNat_le.mpr h)]
theorem Aia(lo hi:Option Nat)(n:Nat):Builtin.Slice.sliceAdjust (lo.map fun (k:Nat)=>(k:Int)) (hi.map fun (k:Nat)=>(k:Int)) 1 (n:Int)=(((min (lo.getD 0) n:Nat):Int),((min (hi.getD n) n:Nat):Int)):=by
 have A:∀ k:Nat,(if(k:Int)<0 then max ((k:Int)+n) 0 else min (k:Int) n)=((min k n:Nat):Int):=fun k=>(if_neg (Int.not_lt.mpr (Int.natCast_nonneg k))).trans (imin k n)
 refine Prod.ext ?_ ?_
 ·cases lo with
  | none=>exact congrArg Int.ofNat (Nat.zero_min n).symm
  | some k=>exact A k
 ·cases hi with
  | none=>exact congrArg Int.ofNat (Nat.min_self n).symm
  | some k=>exact A k
theorem AhP(a b:Nat):Builtin.Slice.slicePlaces (a:Int) (b:Int) 1=b - a:=by
 unfold Builtin.Slice.slicePlaces
 have h1:(1:Int) > 0:=by decide
 simp only[h1,if_true,Int.ediv_one]
 split<;>lia
section
variable{prog:Program}{w:World}{A:Around}{E:Value→Shared→Prop}{s:Shared}
theorem AdK{sl:Addr}{vl vu:Value}{lo hi:Option Nat}{n:Nat}{Q:Int×Int×Nat→Shared→Prop}(hs:s.heap.IsSliceOf sl vl vu .none)(pl:Agj lo vl)(pu:Agj hi vu)
  (h:Q (((min (lo.getD 0) n:Nat):Int),1,min (hi.getD n) n - min (lo.getD 0) n) s):wpAny (model prog w) A (Builtin.Slice.sliceApplied (.ref sl) (pure (n:Int))) Q E s:=by
 obtain⟨os,hos,hcs,hds⟩:=id hs
 unfold Builtin.Slice.sliceApplied Builtin.Slice.sliceFields
 refine wpAny_bind (wpAny_bind (wpAny_field hos hds (x:=vl) rfl (wpAny_bind (wpAny_field hos hds (x:=vu) rfl (wpAny_bind (wpAny_field hos hds (x:=.none) rfl (wpAny_pure ?_)))))))
 refine wpAny_bind (slicePart_none ?_)
 show wpAny _ _ (if((1:Int)==0)=true then _ else _) _ _ s
 refine wpAny_bind (Adw pl (wpAny_bind (Adw pu (wpAny_bind (wpAny_pure ?_)))))
 show wpAny _ _ (match Builtin.Slice.sliceAdjust (lo.map fun (k:Nat)=>(k:Int)) (hi.map fun (k:Nat)=>(k:Int)) 1 (n:Int) with | (lo,hi)=>pure (lo,(1:Int),Builtin.Slice.slicePlaces lo hi 1)) _ _ s
 rw[Aia]
 show wpAny _ _ (pure (((min (lo.getD 0) n:Nat):Int),(1:Int),Builtin.Slice.slicePlaces ((min (lo.getD 0) n:Nat):Int) ((min (hi.getD n) n:Nat):Int) 1)) _ _ s
 rw[AhP]
 exact wpAny_pure h
theorem pick_nat(xs:Array Value)(a k:Nat):((List.range k).filterMap fun (j:Nat)=>xs[((a:Int)+(j:Int) * 1).toNat]?).toArray=((xs.toList.drop a).take k).toArray:=by
 have e:(fun (j:Nat)=>xs[((a:Int)+(j:Int) * 1).toNat]?)=(fun x=>xs[x]?)∘fun j=>a+j:=by
  funext j
  have:((a:Int)+(j:Int) * 1).toNat=a+j:=by lia
  show xs[((a:Int)+(j:Int) * 1).toNat]?=xs[a+j]?
  rw[this]
 rw[e,← List.filterMap_map,pick_run]
theorem Aij{t sl:Addr}{items:Array Value}{vl vu:Value}{lo hi:Option Nat}{Q:Value→Shared→Prop}(ht:PT s.heap t items)(hs:s.heap.IsSliceOf sl vl vu .none)(pl:Agj lo vl)(pu:Agj hi vu)(hsz:items.size≤sizeLine)
  (h1:slc items.toList lo hi=items.toList→Q (.ref t) s)
  (h2:Q (.ref s.heap.objs.size) { s with heap:=s.heap.push { cls:=.type "tuple",data:=.seq (slc items.toList lo hi).toArray } }):wpAny (model prog w) A (getItem (.ref t) (.ref sl)) Q E s:=by
 have hle:(slc items.toList lo hi).length≤items.size:=AgB ..
 have hdrop:sizeOk (.seq (slc items.toList lo hi).toArray):=by
  show(slc items.toList lo hi).toArray.size≤sizeLine
  rw[List.size_toArray];exact Nat.le_trans hle hsz
 obtain⟨os,hos,hcs,hds⟩:=id hs
 have hTs:s.TypeIs (.ref sl) "slice":=⟨os,hos,hcs⟩
 have hT:=ht.isTup.typeIs
 unfold getItem
 try with_reducible refine wpAny_holding ?_
 first | refine wpAny_bind (wpAny_pure ?_) | skip
 refine wpAny_bind (wpAny_sequenceKey hT (by decide) ?_)
 refine wpAny_bind (wpAny_callSpecial?_slot (name:=Str.ofString "__getitem__") hT PyProof.Rows.slot_tuple_getitem
  (wpAny_call_entry PyProof.Rows.slot_tuple_getitem hT PyProof.Rows.entry_tuple_getitem ?_ (PyProof.Rows.args_tuple_getitem _ _)))
 show wpAny _ _ (Builtin.Tuple.tupleItemsOf (.ref t) >>= _) _ _ s
 refine wpAny_bind (tupleItemsOf_ ht.isTup ?_)
 refine wpAny_bind (wpAny_typeOf hTs ?_)
 refine wpAny_bind (AdK hs pl pu ?_)
 have e:=slc_eq items.toList lo hi
 rw[Array.length_toList] at e
 show wpAny _ _ (if(((min (lo.getD 0) items.size:Nat):Int)==0&&(1:Int)==1&&(min (hi.getD items.size) items.size - min (lo.getD 0) items.size)==items.size)=true then _ else _) _ _ s
 by_cases hc:(((min (lo.getD 0) items.size:Nat):Int)==0&&(1:Int)==1&&(min (hi.getD items.size) items.size - min (lo.getD 0) items.size)==items.size)=true
 ·rw[if_pos hc]
  simp only[beq_self_eq_true,Bool.and_true,Bool.and_eq_true,beq_iff_eq] at hc
  have e0:min (lo.getD 0) items.size=0:=by lia
  have hw:slc items.toList lo hi=items.toList:=by
   rw[e,e0,List.drop_zero,List.take_of_length_le (by rw[Array.length_toList];exact ar111 hc)]
  obtain⟨n,hn⟩:=ht
  unfold Builtin.Tuple.tupleIsExact
  refine wpAny_bind (wpAny_bind (wpAny_typeOf hT (wpAny_pure ?_)))
  first
   | exact wpAny_bind (wpAny_rule (wpAny_pure ⟨_,rfl,wpAny_pure (h1 hw)⟩))
   | (rw[if_pos (by decide)];exact wpAny_bind (wpAny_rule (wpAny_pure ⟨_,rfl,wpAny_pure (h1 hw)⟩)))
   | (rw[if_pos (by decide)];exact wpAny_bind (wpAny_rule (wpAny_bind (wpAny_pure (wpAny_pure ⟨_,rfl,wpAny_pure (h1 hw)⟩)))))
 ·rw[if_neg hc,pick_nat,← e]
  first
   | exact wpAny_bind (m:=Builtin.Tuple.tupleExact _) (wpAny_newObj_type (wpAny_pure ⟨_,rfl,wpAny_pure h2⟩) hdrop)
   | exact wpAny_bind (m:=Builtin.Tuple.tupleExact _) (wpAny_newObj_type (wpAny_bind (wpAny_pure (wpAny_pure ⟨_,rfl,wpAny_pure h2⟩))) hdrop)
   | exact wpAny_bind (wpAny_bind (m:=Builtin.Tuple.tupleExact _) (wpAny_newObj_type (wpAny_pure (wpAny_pure ⟨_,rfl,wpAny_pure h2⟩)) hdrop))
   | exact wpAny_bind (wpAny_bind (m:=Builtin.Tuple.tupleExact _) (wpAny_newObj_type (wpAny_pure ⟨_,rfl,wpAny_pure h2⟩) hdrop))
end
inductive PrtR(Q:Option Nat→AH→Prop)(a:AV)(σ':AH):Prop
 | mk (p:Option Nat) (e:a=partAV p) (q:Q p σ')
inductive PrtS(Q:Option Nat→AH→Prop)(a:AV)(σ':AH):Prop
 | mk (k:Nat) (e:a=.int k) (q:Q (some k) σ')
noncomputable def AO'(B:Aaj)(d:Nat)(env:Env)(vars:Vars)(e:Option Expr)(σ:AH)(Q:Option Nat→AH→Prop):Prop:=
 AE B d env vars (evalPart e env) σ (PrtR Q)
noncomputable def AhB(B:Aaj)(d:Nat)(o:AV)(lo hi:Option Nat)(σ:AH)(Q:AV→AH→Prop):Prop:=
 ∀ A s vo vl vu sl,Room A d→St B σ s→VR s.heap o vo→Agj lo vl→Agj hi vu→s.heap.IsSliceOf sl vl vu .none →
  ∃ T id,s.TypeIs vo T∧typeLookup (.type T) "__getitem__"=pure (some (.builtin id))∧W B A noX σ s RV (getItem vo (.ref sl)) Q
section
variable{B:Aaj}{d:Nat}{env:Env}{vars:Vars}{σ:AH}{pos p:Pos}{Q:AV→AH→Prop}
theorem Aaz{Q:Option Nat→AH→Prop}(q:Q none σ):AO' B d env vars none σ Q:=fun jj jj jj S jj=>wpAny_pure ⟨.none,σ,⟨none,rfl,q⟩,rfl,.refl S⟩
theorem Aay{e:Expr}{Q:Option Nat→AH→Prop}(h:AE B d env vars (eval e env) σ (PrtS Q)):AO' B d env vars (some e) σ Q:=
 AE.mono (t:=eval e env) h (by rintro _ _ ⟨k,e,q⟩;exact⟨some k,e,q⟩)
noncomputable abbrev SliR(B:Aaj)(d:Nat)(o:AV)(lo:Option Nat)(Q:AV→AH→Prop)(hi:Option Nat)(σ:AH):Prop:=AhB B d o lo hi σ Q
noncomputable abbrev SliM(B:Aaj)(d:Nat)(env:Env)(vars:Vars)(u:Option Expr)(o:AV)(Q:AV→AH→Prop)(lo:Option Nat)(σ:AH):Prop:=AO' B d env vars u σ (SliR B d o lo Q)
noncomputable abbrev SliL(B:Aaj)(d:Nat)(env:Env)(vars:Vars)(l u:Option Expr)(Q:AV→AH→Prop)(o:AV)(σ:AH):Prop:=AO' B d env vars l σ (SliM B d env vars u o Q)
theorem AaL{value:Expr}{lower upper:Option Expr}
  (h:AE B d env vars (eval value env) σ (SliL B d env vars lower upper Q)) :
  AE B d env vars (eval (.Subscript value (.Slice lower upper none p) pos) env) σ Q:=by
 intro A s r S R
 refine Subscript_ ((h A s r S R).wp fun vo s₁ o σ₁ q rv x=>?_)
 refine wpAny_Slice ((q A s₁ r x.st (R.go x)).wp fun vl s₂ a σ₂ q₂ rl y=>(show wpAny _ _ _ _ _ _ from ?_))
 obtain⟨lo,rfl,q₂⟩:=q₂
 refine(q₂ A s₂ r y.st ((R.go x).go y)).wp fun vu s₃ b σ₃ q₃ ru z=>?_
 obtain⟨hi,rfl,q₃⟩:=q₃
 rw[evalPart_none]
 refine wpAny_pure ?_
 have k:∀ b o,s₃.heap.get? b=some o→(s₃.heap.push { cls:=.type "slice",data:=.fields #[vl,vu,.none] }).get? b=some o:=fun b o e=>Heap.get?_push_of_some _ e
 have g:Ext B noX σ₃ s₃ σ₃ { s₃ with heap:=s₃.heap.push { cls:=.type "slice",data:=.fields #[vl,vu,.none] } }:=Ext.grow (t:=s₃.toks) z.st k
 obtain⟨T,id,hT,hl,hw⟩:=q₃ A _ vo vl vu s₃.heap.objs.size r g.st (((rv.mono y.tup).mono z.tup).mono g.tup) (Aha rl) (Aha ru) (Heap.IsSliceOf.new ..)
 exact tail_any hT hl (hw.wp fun v s₄ c σ₄ q₄ rv₄ u=>⟨c,σ₄,q₄,rv₄,(((x.trans y).trans z).trans g).trans u⟩) (ops:=[.ref s₃.heap.objs.size,vo]) rfl
theorem VRs.slc{h:Heap}{l:List AV}{vs:List Value}(r:VRs h l vs)(lo hi:Option Nat):VRs h (slc l lo hi) (slc vs lo hi):=by
 unfold Pq.slc
 cases hi with
 | none=>exact Aao.mpr ((Aao.mp r).drop _)
 | some k=>exact Aao.mpr (((Aao.mp r).take _).drop _)
theorem AcN{l:List AV}{lo hi:Option Nat}(hz:l.length≤1000)(q:Q (.tup (slc l lo hi)) σ):AhB B d (.tup l) lo hi σ Q:=by
 rintro A s _ vl vu sl r S ⟨t,items,rfl,ht,rt⟩ pl pu hs
 have hsz:items.size≤sizeLine:=by rw[← VRs.size rt,sizeLine_eq];exact Nat.le_trans hz (lnk rfl)
 refine⟨"tuple",_,ht.isTup.typeIs,PyProof.Rows.slot_tuple_getitem.lookup,Aij ht hs pl pu hsz (fun e=>⟨_,σ,q,⟨t,items,rfl,ht,e▸rt.slc lo hi⟩,.refl S⟩) ?_⟩
 have k:∀ b o,s.heap.get? b=some o→(s.heap.push { cls:=.type "tuple",data:=.seq (slc items.toList lo hi).toArray }).get? b=some o:=fun b o e=>Heap.get?_push_of_some _ e
 exact⟨_,σ,q,⟨_,_,rfl,PT.new _ _ S.nbs,(rt.slc lo hi).mono (TupKeep.of_keeps k)⟩,Ext.grow (t:=s.toks) S k⟩
theorem seqIdx{k:Int}{n:Nat}(h0:0≤k)(h:k<n):seqIndex? k n=some k.toNat:=by
 unfold seqIndex?
 have:¬ k<0:=Int.not_lt.mpr h0
 simp[this,h0,h]
theorem Abu{l:List AV}{k:Int}{a:AV}(h0:0≤k)(hz:l.length≤1000)(ha:l[k.toNat]?=some a)(q:Q a σ):PGet B d (.tup l) (.int k) σ Q:=by
 rintro A s _ _ r S ⟨t,items,rfl,ht,rt⟩ ⟨u,rfl⟩
 have hk:k.toNat<l.length:=(List.getElem?_eq_some_iff.mp ha).1
 obtain⟨v,e,hv⟩:=(Aao.mp rt).get ha
 have hs:=VRs.size rt
 exact⟨"tuple",_,ht.isTup.typeIs,PyProof.Rows.slot_tuple_getitem.lookup,PyProof.Rows.getItem_tuple ht.isTup (by lia) (by lia) (seqIdx h0 ((Int.toNat_lt h0).mp (Nat.lt_of_lt_of_eq hk hs))) (by rw[← Array.getElem?_toList];exact e) ⟨a,σ,q,hv,.refl S⟩⟩
theorem g_list{b:Addr}{l:List AV}{k:Int}{a:AV}(hb:σ b=some (.list l))(h0:0≤k)(hk:k<1000)(ha:l[k.toNat]?=some a)(q:Q a σ):PGet B d (.obj b) (.int k) σ Q:=by
 rintro A s _ _ r S rfl ⟨u,rfl⟩
 obtain⟨items,ht,rt⟩:=S.objs _ _ hb
 obtain⟨v,e,hv⟩:=(Aao.mp rt).get ha
 exact⟨"list",_,ht.isList.typeIs,list_getitem_lookup,wpAny_getItem_list ht.isList h0 (by lia) (by rw[← Array.getElem?_toList];exact e) ⟨a,σ,q,hv,.refl S⟩⟩
theorem g_str{x:Str}{k:Int}{c:Nat}(h0:0≤k)(hk:k<1000)(hc:x.cps[k.toNat]?=some c)(q:Q (.str ⟨#[c]⟩) σ):PGet B d (.str x) (.int k) σ Q:=by
 rintro A s _ _ r S ⟨t,rfl⟩ ⟨u,rfl⟩
 have hlt:k.toNat<x.cps.size:=(Array.getElem?_eq_some_iff.mp hc).1
 refine⟨"str",_,PySem.typeIs_str s x t,PySem.F.slot_str_getitem.lookup,P.getItem_str (c:=c) ?_ ?_ ⟨_,σ,q,⟨_,rfl⟩,(Ext.refl S).tok _⟩⟩
 ·simp only[Bool.or_eq_false_iff,decide_eq_false_iff_not];lia
 ·have:k<((x.length:Nat):Int):=by show k<((x.cps.size:Nat):Int);exact(Int.toNat_lt h0).mp hlt
  rw[seqIdx h0 this];exact hc
theorem Ag6{x:Str}(hx:x.cps.size≤1000)(q:Q (.str ⟨(x.cps.toList.take 1).toArray⟩) σ):AhB B d (.str x) none (some 1) σ Q:=by
 rintro A s _ vl vu sl r S ⟨t,rfl⟩ pl ⟨u,rfl⟩ hs
 rw[show vl=.none from pl] at hs
 refine⟨"str",_,PySem.typeIs_str s x t,PySem.F.slot_str_getitem.lookup,wpAny_getItem_str_slice (l:=none) (u:=some (1,u)) (st:=none) hs rfl ?_⟩
 have ei:∀ n:Nat,Builtin.Str.strSliceIndices none (some 1) 1 n=if n=0 then [] else [0]:=by
  intro n
  unfold Builtin.Str.strSliceIndices sliceRange
  by_cases h:n=0
  ·subst h;rfl
  ·have h1:max 0 (min 1 (n:Int))=1:=by lia
   simp[h,h1]
 have e:slicePicked x none (some ((1:Int),u)) none=if x.length=0 then [] else [0]:=ei x.length
 rcases x with ⟨⟨l⟩⟩
 match l with
 | []=>
  have h0:sliceMade ⟨⟨[]⟩⟩ t none (some ((1:Int),u)) none=.val (.str ⟨⟨[]⟩⟩ t):=by
   unfold sliceMade;rw[e];rfl
  rw[h0]
  exact⟨_,σ,q,⟨_,rfl⟩,.refl S⟩
 | [c]=>
  have h0:sliceMade ⟨⟨[c]⟩⟩ t none (some ((1:Int),u)) none=.val (.str ⟨⟨[c]⟩⟩ t):=by
   unfold sliceMade;rw[e];rfl
  rw[h0]
  exact⟨_,σ,q,⟨_,rfl⟩,.refl S⟩
 | c::c'::r'=>
  have h0:sliceMade ⟨⟨c::c'::r'⟩⟩ t none (some ((1:Int),u)) none=.str ⟨#[c]⟩:=by
   unfold sliceMade;rw[e]
   have:(PySem.Str.length ⟨⟨c::c'::r'⟩⟩)=r'.length+2:=rfl
   simp[this]
  rw[h0]
  exact⟨(by show 1≤sizeLine;rw[sizeLine_eq];decide),⟨_,σ,q,⟨_,rfl⟩,(Ext.refl S).tok _⟩⟩
end
end Pq
namespace Pq
variable[Own]
omit [Own] in
theorem All2.imp_mem{α β:Type}{R R':α→β→Prop}{l:List α}{m:List β}(h:All2 R l m)(k:∀ a b,a∈l→b∈m→R a b→R' a b):All2 R' l m:=by
 induction l generalizing m with
 | nil=>exact h
 | cons x l ih=>
  obtain⟨b,r,rfl,h,t⟩:=h
  exact⟨b,r,rfl,k _ _ (.head _) (.head _) h,ih t fun a b ha hb=>k a b (.tail _ ha) (.tail _ hb)⟩
omit [Own] in
theorem All2.findIdx{α β:Type}{R:α→β→Prop}{p:α→Bool}{q:β→Bool}(hpq:∀ a b,R a b→p a=q b){l:List α}{m:List β}(h:All2 R l m):l.findIdx? p=m.findIdx? q:=by
 induction l generalizing m with
 | nil=>rw[show m=[] from h];rfl
 | cons x l ih=>
  obtain⟨b,r,rfl,h,t⟩:=h
  rw[List.findIdx?_cons,List.findIdx?_cons,hpq _ _ h,ih t]
omit [Own] in
theorem All2.modify{α β:Type}{R:α→β→Prop}{f:α→α}{g:β→β}(h:∀ a b,R a b→R (f a) (g b))(i:Nat){l:List α}{m:List β}(k:All2 R l m):All2 R (l.modify i f) (m.modify i g):=by
 induction l generalizing m i with
 | nil=>rw[show m=[] from k,List.modify_nil,List.modify_nil];exact All2.nil
 | cons x l ih=>
  obtain⟨b,r,rfl,hb,t⟩:=k
  cases i with
  | zero=>exact⟨_,_,rfl,h _ _ hb,t⟩
  | succ i=>exact⟨_,_,rfl,hb,ih i t⟩
section
variable{κ β:Type}[DecidableEq κ]{kvs:List (κ×β)}{k:κ}{a:β}
noncomputable def look(l:List (κ×β))(k:κ):Option β:=List.rec none (fun kv jj ih=>if kv.1=k then some kv.2 else ih) l
noncomputable def put(l:List (κ×β))(k:κ)(a:β):List (κ×β):=List.rec [(k,a)] (fun kv r ih=>if kv.1=k then(kv.1,a)::r else kv::ih) l
omit [Own] in
theorem AgE(kv:κ×β)(r:List (κ×β))(k:κ)(a:β):put (kv::r) k a=if kv.1=k then(kv.1,a)::r else kv::put r k a:=rfl
omit [Own] in
theorem Abn(kv:κ×β)(r:List (κ×β))(k:κ):look (kv::r) k=if kv.1=k then some kv.2 else look r k:=rfl
omit [Own] in
theorem Ahk(kvs:List (κ×β))(k:κ):look kvs k=(kvs.findIdx? fun kv=>decide (kv.1=k)).bind fun i=>(kvs[i]?).map (·.2):=by
 induction kvs with
 | nil=>rfl
 | cons kv r ih=>
  rw[List.findIdx?_cons]
  rw[Abn]
  by_cases h:kv.1=k
  ·simp[h]
  ·simp only[h,if_false,decide_false,ih,Bool.false_eq_true]
   cases r.findIdx? fun kv=>decide (kv.1=k)<;>simp
omit [Own] in
theorem Ag7{i:Nat}(h:(kvs.findIdx? fun kv=>decide (kv.1=k))=some i):put kvs k a=kvs.modify i fun kv=>(kv.1,a):=by
 induction kvs generalizing i with
 | nil=>exact nos h
 | cons kv r ih=>
  rw[List.findIdx?_cons] at h
  rw[AgE]
  by_cases hk:kv.1=k
  ·simp[hk] at h;subst h;simp[hk]
  ·simp only[hk,decide_false,Bool.false_eq_true,if_false] at h ⊢
   cases hi:r.findIdx? fun kv=>decide (kv.1=k) with
   | none=>rw[hi] at h;cases h
   | some j=>rw[hi] at h;cases h;rw[ih hi];rfl
omit [Own] in
theorem Ae6(h:(kvs.findIdx? fun kv=>decide (kv.1=k))=none):put kvs k a=kvs++[(k,a)]:=by
 induction kvs with
 | nil=>rfl
 | cons kv r ih=>
  rw[List.findIdx?_cons] at h
  rw[AgE]
  by_cases hk:kv.1=k
  ·simp[hk] at h
  ·simp only[hk,decide_false,Bool.false_eq_true,if_false] at h ⊢
   cases hi:r.findIdx? fun kv=>decide (kv.1=k) with
   | none=>rw[ih hi];rfl
   | some j=>rw[hi] at h;cases h
omit [Own] in
theorem AhO(kvs:List (κ×β))(k:κ)(a:β):(put kvs k a).length≤kvs.length+1:=by
 induction kvs with
 | nil=>exact Nat.le_refl _
 | cons kv r ih=>
  rw[AgE]
  by_cases e:kv.1=k
  ·rw[if_pos e];exact Nat.le_succ _
  ·rw[if_neg e];exact Nat.succ_le_succ ih
omit [Own] in
theorem put_mem{kv:κ×β}(h:kv∈put kvs k a):kv.1=k∨∃ kv'∈kvs,kv.1=kv'.1:=by
 induction kvs with
 | nil=>cases List.mem_singleton.mp h;exact .inl rfl
 | cons x r ih=>
  rw[AgE] at h
  by_cases e:x.1=k
  ·rw[if_pos e] at h
   rcases List.mem_cons.mp h with e | h
   ·subst e;exact .inr ⟨x,.head _,rfl⟩
   ·exact .inr ⟨kv,.tail _ h,rfl⟩
  ·rw[if_neg e] at h
   rcases List.mem_cons.mp h with e | h
   ·subst e;exact .inr ⟨_,.head _,rfl⟩
   ·rcases ih h with h | ⟨y,hy,e⟩
    ·exact .inl h
    ·exact .inr ⟨y,.tail _ hy,e⟩
theorem AfL(k:κ)(a:β)(h:(kvs.map (·.1)).Nodup):((put kvs k a).map (·.1)).Nodup:=by
 induction kvs with
 | nil=>exact List.nodup_cons.mpr ⟨List.not_mem_nil,List.nodup_nil⟩
 | cons x r ih=>
  rw[List.map_cons,List.nodup_cons] at h
  rw[AgE]
  by_cases e:x.1=k
  ·rw[if_pos e,List.map_cons,List.nodup_cons];exact h
  ·rw[if_neg e,List.map_cons,List.nodup_cons]
   refine⟨fun hm=>?_,ih h.2⟩
   obtain⟨y,hy,q⟩:=List.mem_map.mp hm
   rcases put_mem hy with h' | ⟨z,hz,h'⟩
   ·exact e (q.symm.trans h')
   ·exact h.1 (List.mem_map.mpr ⟨z,hz,h'.symm.trans q⟩)
omit [Own] in
theorem Afa{κ β γ:Type}[DecidableEq κ]{f:κ×β→AV×γ}{g:β→γ}{k:κ→AV}(hk:∀ a b,k a=k b→a=b)(hf:∀ e,f e=(k e.1,g e.2))(l:List (κ×β))(t:κ):look (l.map f) (k t)=(look l t).map g:=by
 induction l with
 | nil=>rfl
 | cons e l ih=>
  rw[List.map_cons,Abn,Abn,hf]
  by_cases h:e.1=t
  ·rw[if_pos h,if_pos (congrArg k h)];rfl
  ·rw[if_neg h,if_neg fun z=>h (hk _ _ z)];exact ih
omit [Own] in
theorem Abt{κ β:Type}[DecidableEq κ]{K:List (κ×β)}{t:κ}:look K t=none↔t∉K.map (·.1):=by
 induction K with
 | nil=>exact⟨fun jj=>List.not_mem_nil,fun jj=>rfl⟩
 | cons e l ih=>
  rw[Abn,List.map_cons,List.mem_cons,not_or]
  by_cases h:e.1=t
  ·rw[if_pos h];exact⟨fun z=>nos z.symm,fun z=>absurd h.symm z.1⟩
  ·rw[if_neg h,ih];exact⟨fun z=>⟨fun q=>h q.symm,z⟩,fun z=>z.2⟩
omit [Own] in
theorem Ab6{κ β:Type}[DecidableEq κ]{l:List (κ×β)}{k:κ}{a:β}(h:look l k=none):put l k a=l++[(k,a)]:=by
 induction l with
 | nil=>rfl
 | cons p l ih=>
  rw[Abn] at h
  by_cases e:p.1=k
  ·rw[if_pos e] at h;exact nos h.symm
  ·rw[if_neg e] at h;rw[AgE,if_neg e,ih h];rfl
omit [Own] in
theorem Ac9{κ β:Type}[DecidableEq κ]{l:List (κ×β)}{n:κ}{t:β}(h:look l n=some t):(n,t)∈l:=by
 induction l with
 | nil=>exact nos h
 | cons p l ih=>
  rw[Abn] at h
  by_cases e:p.1=n
  ·rw[if_pos e] at h;cases e;cases h;exact .head _
  ·rw[if_neg e] at h;exact .tail _ (ih h)
end
noncomputable def KeyFit(kvs:List (AV×AV))(k:AV):Prop:=(AbH k=true∧∀ kv∈kvs,AbH kv.1=true)∨∃ τ:KT,AcX τ k∧∀ kv∈kvs,AcX τ kv.1
theorem KeyFit.put{kvs:List (AV×AV)}{k a:AV}(hf:KeyFit kvs k)(hn:(kvs.map (·.1)).Nodup):Ajo (put kvs k a):=by
 refine⟨AfL k a hn,?_⟩
 rcases hf with ⟨h1,h2⟩ | ⟨τ,h1,h2⟩
 ·refine .inl fun kv hm=>?_
  rcases put_mem hm with e | ⟨y,hy,e⟩
  ·rw[e];exact h1
  ·rw[e];exact h2 y hy
 ·refine .inr ⟨τ,fun kv hm=>?_⟩
  rcases put_mem hm with e | ⟨y,hy,e⟩
  ·rw[e];exact h1
  ·rw[e];exact h2 y hy
section
variable{prog:Program}{w:World}{A:Around}{E:Value→Shared→Prop}{s:Shared}{d:Addr}{es:List DictEntry}{n:Nat}{kvs:List (AV×AV)}{k a:AV}{vk:Value}
omit [Own] in
theorem AcE{k:AV}(h:AbH k=true):∃ x,k=.str x:=by
 cases k<;>first | exact⟨_,rfl⟩ | exact absurd h Bool.false_ne_true
theorem Afi{Q:Int→Shared→Prop}(hu:A.units+8<cLine)(hf:KeyFit kvs k)(rk:VR s.heap k vk)(h:∀ t,Q (hashAV w k) { s with toks:=t }):wpAny (model prog w) A (pyHash vk) Q E s:=by
 rcases hf with ⟨h1,_⟩ | ⟨τ,h1,_⟩
 ·obtain⟨x,rfl⟩:=AcE h1
  obtain⟨t,rfl⟩:=rk
  exact wpAny_pyHash_str (h _)
 ·exact AfK 8 (AcS τ h1) rk hu (h _)
theorem xs_of{h:Heap}{τ:KT}:∀ {es:List DictEntry} {kvs:List (AV×AV)},All2 (Aie w h) es kvs→(∀ kv∈kvs,AcX τ kv.1) →
  ∃ xs:List (AV×Addr×Value),es=xs.map (entryOfKey (Ajg prog w τ))∧(∀ x∈xs,(Ajg prog w τ).is h x.1 x.2.1)∧xs.map (·.1)=kvs.map (·.1)
 | [],_,e,_=>by rw[show _=[] from e];exact⟨[],rfl,(fun jj h=>nomatch h),rfl⟩
 | e::es,_,⟨kv,r,q,he,t⟩,hk=>by
  subst q
  obtain⟨xs,h1,h2,h3⟩:=xs_of t fun x hx=>hk x (.tail _ hx)
  have hkv:=hk kv (.head _)
  obtain⟨l,hl⟩:=Ahl τ hkv
  have hv:=he.key
  rw[hl] at hv
  obtain⟨a,items,ea,_⟩:=id hv
  refine⟨(kv.1,a,e.val)::xs,?_,?_,by simp[h3]⟩
  ·rw[List.map_cons,← h1]
   congr 1
   have:=he.hash
   cases e
   simp only at ea this
   subst ea this
   rfl
  ·intro x hx
   rcases List.mem_cons.mp hx with q | hx
   ·subst q;exact⟨hkv,by show VR h kv.1 (.ref a);rw[hl,← ea];exact hv⟩
   ·exact h2 x hx
theorem AgS{Q:Option Nat→Shared→Prop}(hu:A.units+8<cLine)(ho:s.heap.get? d=some (dictOf es n))(he:All2 (Aie w s.heap) es kvs)(hn:(kvs.map (·.1)).Nodup)(hf:KeyFit kvs k)(rk:VR s.heap k vk)
  (h:Q (kvs.findIdx? fun kv=>decide (kv.1=k)) s):wpAny (model prog w) A (dictFind d vk (hashAV w k)) Q E s:=by
 rcases hf with ⟨h1,h2⟩ | ⟨τ,h1,h2⟩
 ·obtain⟨x,rfl⟩:=AcE h1
  obtain⟨t,rfl⟩:=rk
  have he':All2 (fun (e:DictEntry) (kv:AV×AV)=>∃ y u,kv.1=.str y∧e.key=.str y u∧e.hash=hashStr w y) es kvs:=he.imp_mem fun e kv jj hm r=>by
   obtain⟨y,hy⟩:=AcE (h2 kv hm)
   have h3:=r.key
   have h4:=r.hash
   rw[hy] at h3 h4
   obtain⟨u,h3⟩:=h3
   exact⟨y,u,hy,h3,h4⟩
  have e:=he'.findIdx (p:=fun e=>(PySem.strKind prog w).is x e.key) (q:=fun kv=>decide (kv.1=.str x)) fun e kv ⟨y,u,e1,e2,_⟩=>by
   rw[e1,e2]
   show Value.isStrOf x (.str y u)=_
   by_cases q:y=x
   ·subst q;simp[Value.isStrOf]
   ·have:¬ x=y:=fun z=>q z.symm
    simp[Value.isStrOf,q,this]
  refine wpAny_dictFind_of (knd:=PySem.strKind prog w) (k:=x) (by simp[PySem.strKind,Value.isStrOf]) ho rfl (fun e hm=>?_) ?_
  ·have hm':e∈es:=by simpa using hm
   obtain⟨i,hi⟩:=List.mem_iff_getElem?.mp hm'
   obtain⟨kv,_,y,u,_,e2,e3⟩:=he'.get hi
   exact⟨y,by rw[e2];simp[PySem.strKind,Value.isStrOf],e3⟩
  ·rw[show(es.toArray.findIdx? fun e=>(PySem.strKind prog w).is x e.key)=es.findIdx? fun e=>(PySem.strKind prog w).is x e.key by simp,e]
   exact h
 ·obtain⟨xs,e1,e2,e3⟩:=xs_of (prog:=prog) he h2
  obtain⟨l,hl⟩:=Ahl τ h1
  have rk':=rk
  rw[hl] at rk'
  obtain⟨b,items,rfl,_⟩:=rk'
  have ei:(kvs.findIdx? fun kv=>decide (kv.1=k))=xs.findIdx? fun x=>decide (x.1=k):=by
   have q1:∀ (l:List (AV×AV)),(l.findIdx? fun kv=>decide (kv.1=k))=(l.map (·.1)).findIdx? fun y=>decide (y=k):=fun l=>by rw[List.findIdx?_map];rfl
   have q2:∀ (l:List (AV×Addr×Value)),(l.findIdx? fun kv=>decide (kv.1=k))=(l.map (·.1)).findIdx? fun y=>decide (y=k):=fun l=>by rw[List.findIdx?_map];rfl
   rw[q1,q2,e3]
  rw[ei] at h
  refine wpAny_dictFind_heap (knd:=Ajg prog w τ) (xs:=xs) (k:=k) hu ⟨h1,rk⟩ ho rfl (by rw[← e1]) e2 (by rw[e3];exact hn) (fun hno=>?_) fun j p hj=>?_
  ·have:(xs.findIdx? fun x=>decide (x.1=k))=none:=by
    rw[List.findIdx?_eq_none_iff]
    intro x hx
    obtain⟨j,hj⟩:=List.mem_iff_getElem?.mp hx
    have:¬ x.1=k:=fun q=>hno j x.2 (by rw[hj,← q])
    simp[this]
   rw[this] at h;exact h
  ·have hnx:(xs.map (·.1)).Nodup:=by rw[e3];exact hn
   have:(xs.findIdx? fun x=>decide (x.1=k))=some j:=by
    cases q:xs.findIdx? fun x=>decide (x.1=k) with
    | none=>
     rw[List.findIdx?_eq_none_iff] at q
     have:=q _ (List.mem_of_getElem? hj)
     simp at this
    | some i=>
     obtain⟨hi,hp,_⟩:=List.findIdx?_eq_some_iff_getElem.mp q
     have hp':(xs[i]).1=k:=of_decide_eq_true hp
     have:xs[i]?=some (k,(xs[i]).2):=by rw[List.getElem?_eq_getElem hi,← hp']
     rw[idxH_unique hnx this hj]
   rw[this] at h;exact h
theorem AiX{Q:Option Value→Shared→Prop}(hu:A.units+8<cLine)(hd:OR w s.heap d (.dict kvs))(hf:KeyFit kvs k)(rk:VR s.heap k vk)
  (h:∀ o t,OptR (VR s.heap) (look kvs k) o→Q o { s with toks:=t }):wpAny (model prog w) A (dictGet d vk) Q E s:=by
 obtain⟨es,n,ho,he,hK⟩:=hd
 unfold dictGet
 try with_reducible refine wpAny_holding ?_
 refine wpAny_bind (Afi hu hf rk fun t=>wpAny_bind (AgS (s:={ s with toks:=t }) hu ho he hK.nodup hf rk ?_))
 have hl:=Ahk kvs k
 cases hi:kvs.findIdx? fun kv=>decide (kv.1=k) with
 | none=>
  rw[hi] at hl
  exact wpAny_pure (h none t (by rw[hl];rfl))
 | some i=>
  rw[hi] at hl
  obtain⟨hlt,_⟩:=List.findIdx?_eq_some_iff_getElem.mp hi
  have hlen:=he.length
  have hi1:kvs[i]?=some kvs[i]:=List.getElem?_eq_getElem hlt
  have hi2:es[i]?=some (es[i]'(by exact Nat.le_trans hlt (Nat.le_of_eq hlen.symm))):=List.getElem?_eq_getElem _
  obtain⟨kv,q,r⟩:=he.get hi2
  obtain rfl:=sinj hi1 q
  refine wpAny_bind (wpAny_dictEntries (s:={ s with toks:=t }) ho rfl ?_)
  refine wpAny_pure (h _ t ?_)
  rw[hl,show(es.toArray)[i]?=es[i]? by simp,hi2]
  simp only[Option.bind_some,hi1,Option.map_some]
  exact r.val
theorem Aii{h h':Heap}(T:TupKeep h h')(he:All2 (Aie w h) es kvs):All2 (Aie w h') es kvs:=he.mono fun jj jj z=>⟨z.hash,z.key.mono T,z.val.mono T⟩
theorem set_AV{Q:Unit→Shared→Prop}{v:Value}(hu:A.units+8<cLine)(hd:OR w s.heap d (.dict kvs))(hf:KeyFit kvs k)(rk:VR s.heap k vk)(rv:VR s.heap a v)(hz:kvs.length≤sizeLine)
  (h:∀ h' t,OR w h' d (.dict (put kvs k a))→Heap.SameBut d s.heap h'→Q () { s with heap:=h',toks:=t }):wpAny (model prog w) A (dictSet d vk v) Q E s:=by
 obtain⟨es,n,ho,he,hK⟩:=hd
 have hlen:=he.length
 unfold dictSet
 try with_reducible refine wpAny_holding ?_
 refine wpAny_bind (Afi hu hf rk fun t=>?_)
 unfold dictSetHashed
 try with_reducible refine wpAny_holding ?_
 refine wpAny_bind (AgS (s:={ s with toks:=t }) hu ho he hK.nodup hf rk ?_)
 have noT:∀ items,¬ PT s.heap d items:=AaJ ho (by simp)
 cases hi:kvs.findIdx? fun kv=>decide (kv.1=k) with
 | none=>
  refine wpAny_bind (wpAny_rule (wpAny_updateDictKeys (hz:=by simp;exact Nat.le_trans (Nat.le_of_eq hlen) hz) (s:={ s with toks:=t }) ho rfl (h _ t ?_ (Heap.SameBut.update ..))))
  have T:=TupKeep.of_ext noT (Heap.SameBut.update (h:=s.heap) (a:=d) (f:=Obj.mapDictKeys fun x=>x.push ⟨hashAV w k,vk,v⟩)).extBut
  refine⟨es++[⟨hashAV w k,vk,v⟩],n+1,?_,?_,hf.put hK.nodup⟩
  ·rw[Heap.get?_update_self _ ho (Obj.isFreed_of_dict (Obj.data_mapDictKeys rfl _))]
   exact congrArg (fun z:Array DictEntry=>some ({ dictOf es n with data:=.dict z (n+1) }:Obj)) (List.push_toArray es _)
  ·rw[Ae6 hi]
   exact(Aii T he).append (All2.cons ⟨rfl,rk.mono T,rv.mono T⟩ All2.nil)
 | some i=>
  refine wpAny_bind (wpAny_rule (wpAny_bind (wpAny_updateDict (s:={ s with toks:=t }) ho rfl (wpAny_point (h _ t ?_ (Heap.SameBut.update ..))))))
  have T:=TupKeep.of_ext noT (Heap.SameBut.update (h:=s.heap) (a:=d) (f:=Obj.mapDict fun x=>x.modify i fun e=>{ e with val:=v })).extBut
  refine⟨es.modify i fun e=>{ e with val:=v },n,?_,?_,hf.put hK.nodup⟩
  ·rw[Heap.get?_update_self _ ho (Obj.isFreed_of_dict (Obj.data_mapDict rfl _))]
   exact congrArg (fun z:Array DictEntry=>some ({ dictOf es n with data:=.dict z n }:Obj)) (List.modify_toArray ..)
  ·rw[Ag7 hi]
   exact All2.modify (R:=Aie w _) (f:=fun e:DictEntry=>{ e with val:=v }) (g:=fun kv:AV×AV=>(kv.1,a)) (fun e kv r=>⟨r.hash,r.key,rv.mono T⟩) i (Aii T he)
theorem Ain{Q:Value→Shared→Prop}{v:Value}(hu:A.units+8<cLine)(hd:OR w s.heap d (.dict kvs))(hf:KeyFit kvs k)(rk:VR s.heap k vk)(rv:VR s.heap a v)(hz:kvs.length≤sizeLine)
  (h1:∀ b u t,look kvs k=some b→VR s.heap b u→Q u { s with toks:=t })
  (h2:look kvs k=none→∀ h' t,OR w h' d (.dict (put kvs k a))→Heap.SameBut d s.heap h'→Q v { s with heap:=h',toks:=t }):wpAny (model prog w) A (dictSetDefault d vk v) Q E s:=by
 obtain⟨es,n,ho,he,hK⟩:=hd
 have hlen:=he.length
 unfold dictSetDefault
 try with_reducible refine wpAny_holding ?_
 refine wpAny_bind (Afi hu hf rk fun t=>?_)
 refine wpAny_bind (AgS (s:={ s with toks:=t }) hu ho he hK.nodup hf rk ?_)
 have noT:∀ items,¬ PT s.heap d items:=AaJ ho (by simp)
 have hl:=Ahk kvs k
 cases hi:kvs.findIdx? fun kv=>decide (kv.1=k) with
 | none=>
  rw[hi] at hl
  refine wpAny_bind (wpAny_rule (wpAny_bind (wpAny_updateDictKeys (hz:=by simp;exact Nat.le_trans (Nat.le_of_eq hlen) hz) (s:={ s with toks:=t }) ho rfl (wpAny_pure (h2 hl _ t ?_ (Heap.SameBut.update ..))))))
  have T:=TupKeep.of_ext noT (Heap.SameBut.update (h:=s.heap) (a:=d) (f:=Obj.mapDictKeys fun x=>x.push ⟨hashAV w k,vk,v⟩)).extBut
  refine⟨es++[⟨hashAV w k,vk,v⟩],n+1,?_,?_,hf.put hK.nodup⟩
  ·rw[Heap.get?_update_self _ ho (Obj.isFreed_of_dict (Obj.data_mapDictKeys rfl _))]
   exact congrArg (fun z:Array DictEntry=>some ({ dictOf es n with data:=.dict z (n+1) }:Obj)) (List.push_toArray es _)
  ·rw[Ae6 hi]
   exact(Aii T he).append (All2.cons ⟨rfl,rk.mono T,rv.mono T⟩ All2.nil)
 | some i=>
  rw[hi] at hl
  obtain⟨hlt,_⟩:=List.findIdx?_eq_some_iff_getElem.mp hi
  have hi1:kvs[i]?=some kvs[i]:=List.getElem?_eq_getElem hlt
  have hi2:es[i]?=some (es[i]'(by exact Nat.le_trans hlt (Nat.le_of_eq hlen.symm))):=List.getElem?_eq_getElem _
  obtain⟨kv,q,r⟩:=he.get hi2
  obtain rfl:=sinj hi1 q
  refine wpAny_bind (wpAny_dictEntries (s:={ s with toks:=t }) ho rfl ?_)
  rw[show(es.toArray)[i]?=es[i]? by simp,hi2]
  exact wpAny_bind (wpAny_rule (wpAny_pure (h1 _ _ t (by rw[hl];simp only[Option.bind_some,hi1,Option.map_some]) r.val)))
end
end Pq
namespace Pq
variable[Own]
theorem OR.dictT{w:World}{s:Shared}{d:Addr}{kvs:List (AV×AV)}(x:OR w s.heap d (.dict kvs)):s.TypeIs (.ref d) "dict":=by obtain⟨_,_,e,_⟩:=x;exact⟨_,e,rfl⟩
theorem OR.listL{w:World}{h:Heap}{d:Addr}{l:List AV}(x:OR w h d (.list l)):∃ items n,IsL h d items n∧VRs h l items.toList:=by obtain⟨items,⟨n,e⟩,r⟩:=x;exact⟨items,n,e,r⟩
section
variable{B:Aaj}{d:Nat}{env:Env}{vars:Vars}{σ:AH}{pos:Pos}{b:Addr}{kvs:List (AV×AV)}{k a:AV}{A:Around}{s:Shared}
theorem Room.u8(r:Room A d):A.in1.units+8<cLine:=by have:=r.units;show A.units+1+8<cLine;exact ln3 (.c 1 (.a (.a (.a (.v 0) (.m 10 (.v 1))) (.n 200)) (.n 1)) (.v 2) (.g 0 (.a (.a (.p 0 1) (.n 8)) (.n 1)) (.v 2))) rfl this
theorem St.ns(S:St B σ s){b:Addr}{o:AO}(h:σ b=some o):(b==sysModules)=false:=by
 have:=S.lo b (by rw[h];simp)
 simpa using this
theorem Aci{Q:AV→AH→Prop}(hb:σ b=some (.dict kvs))(hf:KeyFit kvs k)(hl:look kvs k=some a)(q:Q a σ):PGet B d (.obj b) k σ Q:=by
 rintro A s _ vi r S rfl rk
 have hd:=S.objs b _ hb
 refine⟨"dict",_,hd.dictT,slot_dict_getitem.lookup,?_⟩
 unfold W
 unfold getItem
 try with_reducible refine wpAny_holding ?_
 refine wpAny_bind (wpAny_sequenceKey hd.dictT (by decide) ?_)
 refine wpAny_bind (wpAny_callSpecial?_slot (name:=Str.ofString "__getitem__") hd.dictT slot_dict_getitem
  (wpAny_call_entry slot_dict_getitem hd.dictT entry_dict_getitem ?_ (args_dict_getitem _ _)))
 show wpAny _ _ (dictGet b vi >>= _) _ _ s
 refine wpAny_bind (AiX (w:=B.w) r.u8 hd hf rk fun o t ho=>?_)
 rw[hl] at ho
 obtain⟨v,rfl,hv⟩:=ho.some_left
 exact wpAny_pure ⟨v,rfl,wpAny_pure ⟨a,σ,q,hv,(Ext.refl S).tok t⟩⟩
theorem AeO{Q:Bool→AH→Prop}{vi:Value}(r:Room A d)(S:St B σ s)(hb:σ b=some (.dict kvs))(hf:KeyFit kvs k)(rk:VR s.heap k vi)(q:Q (look kvs k).isSome σ):
  W B A noX σ s REq (contains (.ref b) vi) Q:=by
 have hd:=S.objs b _ hb
 unfold W contains
 try with_reducible refine wpAny_holding ?_
 refine wpAny_bind (wpAny_specialOf hd.dictT slot_dict_contains.lookup ?_)
 refine wpAny_bind (wpAny_callSpecialUnlessNone?_slot (name:=Str.ofString "__contains__") hd.dictT slot_dict_contains
  (wpAny_call_entry slot_dict_contains hd.dictT entry_dict_contains ?_ (args_dict_contains _ _)))
 show wpAny _ _ (dictGet b vi >>= _) _ _ s
 refine wpAny_bind (AiX (w:=B.w) r.u8 hd hf rk fun o t ho=>?_)
 cases hl:look kvs k with
 | some c=>
  rw[hl] at ho q
  obtain⟨v,rfl,hv⟩:=ho.some_left
  exact wpAny_pure ⟨_,rfl,wpAny_truthy_bool ⟨true,σ,q,rfl,(Ext.refl S).tok t⟩⟩
 | none=>
  rw[hl] at ho q
  cases o with
  | some _=>exact(nos ho.symm)
  | none=>
  exact wpAny_bind (wpAny_pendingKey_other (S.ns hb) (wpAny_pure ⟨_,rfl,wpAny_truthy_bool ⟨false,σ,q,rfl,(Ext.refl S).tok t⟩⟩))
theorem c_in{Q:Bool→AH→Prop}(hb:σ b=some (.dict kvs))(hf:KeyFit kvs k)(q:Q (look kvs k).isSome σ):Adl B d .In k (.obj b) σ Q:=by
 rintro A s va _ r S rk rfl
 exact wpAny_bind ((AeO (Q:=fun c σ'=>Q c σ') r S hb hf rk q).wp fun c s' b' σ' q' e x=>wpAny_pure ⟨b',σ',q',by subst e;rfl,x⟩)
theorem Adt{Q:Bool→AH→Prop}(hb:σ b=some (.dict kvs))(hf:KeyFit kvs k)(q:Q (!(look kvs k).isSome) σ):Adl B d .NotIn k (.obj b) σ Q:=by
 rintro A s va _ r S rk rfl
 exact wpAny_bind ((AeO (Q:=fun c σ'=>Q (!c) σ') r S hb hf rk q).wp fun c s' b' σ' q' e x=>wpAny_pure ⟨!b',σ',q',by subst e;rfl,x⟩)
theorem Air{Q:Unit→AH→Prop}{vi v:Value}(r:Room A d)(S:St B σ s)(hb:σ b=some (.dict kvs))(hf:KeyFit kvs k)(hz:kvs.length≤1000)(rk:VR s.heap k vi)(rv:VR s.heap a v)
  (q:Q () (upd σ b (.dict (put kvs k a)))):W B A noX σ s REq (setItem (.ref b) vi v) Q:=by
 have hd:=S.objs b _ hb
 unfold W setItem
 try with_reducible refine wpAny_holding ?_
 refine wpAny_bind (wpAny_sequenceKey hd.dictT (by decide) ?_)
 refine wpAny_bind (wpAny_callSpecial?_slot (name:=Str.ofString "__setitem__") hd.dictT slot_dict_setitem
  (wpAny_call_entry slot_dict_setitem hd.dictT entry_dict_setitem ?_ (args_dict_setitem _ _ _)))
 refine wpAny_bind (wpAny_notOrdered_dict hd.dictT ?_)
 show wpAny _ _ (dictSet b vi v >>= _) _ _ s
 exact wpAny_bind (set_AV (w:=B.w) r.u8 hd hf rk rv (Nat.le_trans hz (by rw[sizeLine_eq];decide)) fun h' t hd' hs=>wpAny_pure ⟨.none,rfl,wpAny_pure ⟨(),_,q,rfl,Ext.set S hb hs.extBut hd'⟩⟩)
inductive PutR(Q:Vars→AH→Prop)(vars:Vars)(v ob k:AV)(σ₃:AH):Prop
 | mk (b:Addr) (kvs:List (AV×AV)) (e:ob=.obj b) (h:σ₃ b=some (.dict kvs)) (f:KeyFit kvs k) (z:kvs.length≤1000) (q:Q vars (upd σ₃ b (.dict (put kvs k v))))
noncomputable abbrev PutK(B:Aaj)(d:Nat)(env:Env)(vars:Vars)(o i:Expr)(Q:Vars→AH→Prop)(v:AV)(σ:AH):Prop:=AE B d env vars (eval o env) σ (Snd B d env vars i (PutR Q vars v))
theorem AbZ{o i value:Expr}{p:Pos}{Q:AFl→Vars→AH→Prop}
  (hs:swapsWith value (some (.Subscript o i p)) pos.line env=pure false) (h:AE B d env vars (eval value env) σ (PutK B d env vars o i (Q .next))):AX B d env vars (exec (.Assign [.Subscript o i p] value pos) env) σ Q:=by
 intro A s r S R
 refine wpAny_Assign_Subscript ((h A s r S R).wp fun v s₁ a σ₁ q rv x=>(q A s₁ r x.st (R.go x)).wp fun ov s₂ ob σ₂ q₂ ro y=>(q₂ A s₂ r y.st ((R.go x).go y)).wp fun iv s₃ k σ₃ q₃ rk z=>?_) hs
 obtain⟨b,kvs,rfl,hb,hf,hz,q₃⟩:=q₃
 obtain rfl:ov=.ref b:=ro
 exact(Air (Q:=fun jj σ'=>Q .next vars σ') r z.st hb hf hz rk ((rv.mono y.tup).mono z.tup) q₃).wp fun jj s₄ jj σ₄ q₄ jj u=>
  ⟨(.next,vars),σ₄,q₄,⟨rfl,(((R.go x).go y).go z).go u⟩,(((x.trans y).trans z).trans u).weaken fun jj f=>f.elim⟩
theorem Adi{Q:AV→AH→Prop}(hb:σ b=some (.dict kvs))(hf:KeyFit kvs k)(hz:kvs.length≤1000)
  (h1:∀ c,look kvs k=some c→Q c σ) (h2:look kvs k=none→Q a (upd σ b (.dict (put kvs k a)))):AC B d (.builtin "dict.setdefault") [.obj b,k,a] σ Q:=by
 rintro A s _ r S ⟨_,_,rfl,rfl,vk,_,rfl,rk,v,_,rfl,rv,rfl⟩
 have hd:=S.objs b _ hb
 refine wpAny_call_entry PySem.F.slot_dict_setdefault hd.dictT PySem.F.entry_dict_setdefault ?_ (PySem.F.args_dict_setdefault_3 _ _ _)
 unfold Builtin.«dict.setdefault»
 refine wpAny_bind ?_
 unfold Builtin.Dict.keyAndDefault
 refine wpAny_bind (wpAny_notOrdered_dict hd.dictT ?_)
 refine wpAny_pure ?_
 show wpAny _ _ (if(b==sysModules)=true then _ else(dictSetDefault b vk v >>= _)) _ _ s
 rw[if_neg (by rw[S.ns hb];exact Bool.false_ne_true)]
 exact wpAny_bind (Ain (w:=B.w) r.u8 hd hf rk rv (Nat.le_trans hz (by rw[sizeLine_eq];decide)) (fun c u t hc ru=>wpAny_pure ⟨u,rfl,c,σ,h1 c hc,ru,(Ext.refl S).tok t⟩)
  fun hn h' t hd' hs=>wpAny_pure ⟨v,rfl,a,_,h2 hn,rv.mono (Ext.set (X:=noX) (t:=t) S hb hs.extBut hd').tup,Ext.set S hb hs.extBut hd'⟩)
theorem two63{n:Nat}(h:n≤1000):(n:Int)<2 ^ 63:=by lia
theorem AgJ{l:List AV}{Q:AV→AH→Prop}(hz:l.length≤1000)(q:Q (.int l.length) σ):AC B d (.builtin "len") [.tup l] σ Q:=by
 refine ac_t fun A s t items r S ht rt=>?_
 have hs:=VRs.size rt
 exact len_tuple ht.isTup (by rw[← hs];exact two63 hz) ⟨_,σ,q,⟨_,by rw[hs]⟩,(Ext.refl S).tok _⟩
theorem Abo{l:List AV}{Q:AV→AH→Prop}(hb:σ b=some (.list l))(hz:l.length≤1000)(q:Q (.int l.length) σ):AC B d (.builtin "len") [.obj b] σ Q:=by
 refine ac_o fun A s r S=>?_
 obtain⟨items,n,hi,rt⟩:=(S.objs b _ hb).listL
 have hs:=VRs.size rt
 exact len_list hi.isList (by rw[← hs];exact two63 hz) ⟨_,σ,q,⟨_,by rw[hs]⟩,(Ext.refl S).tok _⟩
theorem AfX{Q:AV→AH→Prop}(hb:σ b=some (.dict kvs))(hz:kvs.length≤1000)(q:Q (.int kvs.length) σ):AC B d (.builtin "len") [.obj b] σ Q:=by
 refine ac_o fun A s r S=>?_
 have hd:=S.objs b _ hb
 obtain⟨es,n,ho,he,_⟩:=id hd
 have hs:=he.length
 have h1:=two63 hz
 refine Calls.call_function_entry kind_len plain_len entry_len (args_len1 _) ?_
 unfold Builtin.«len»
 refine wpAny_bind (m:=oneArg "len" _) (wpAny_pure ?_)
 refine wpAny_bind (m:=callSpecial? (.ref b) (Str.ofString "__len__")) (wpAny_callSpecial?_slot (name:=Str.ofString "__len__") hd.dictT PySem.F.slot_dict_len
  (wpAny_call_entry PySem.F.slot_dict_len hd.dictT PySem.F.entry_dict_len ?_ (PySem.F.args_dict_len_1 _)))
 ·show wpAny _ _ (dictSize b >>= _) _ _ s
  unfold dictSize
  refine wpAny_bind (wpAny_bind (wpAny_dictEntries ho rfl (wpAny_pure ?_)))
  refine wpAny_bind (wpAny_pendingCount_other (S.ns hb) ?_)
  refine wpAny_bind (wpAny_mkInt (wpAny_pure ⟨_,rfl,?_⟩))
  rw[show((es.toArray.size:Int)+((0:Nat):Int))=((kvs.length:Nat):Int) by simp[hs]]
  refine wpAny_bind (wpAny_holding (wpAny_pure ?_))
  refine wpAny_bind (wpAny_letGo ?_)
  show wpAny _ _ (if((kvs.length:Nat):Int)≥2 ^ 63 then _ else _) _ _ _
  rw[if_neg (Int.not_le.mpr (two63 hz))]
  exact wpAny_bind (wpAny_mkInt (wpAny_pure ⟨_,rfl,_,σ,q,⟨_,rfl⟩,(Ext.refl S).tok _⟩))
end
end Pq
namespace Pq
variable[Own]
theorem Aa7{n:Nat}(h:n≤1000):n≤sizeLine:=Nat.le_trans h (by rw[sizeLine_eq];decide)
section
variable{B:Aaj}{d:Nat}{env:Env}{vars:Vars}{σ:AH}{pos:Pos}{b c:Addr}{l m:List AV}{k a:AV}{A:Around}{s:Shared}{Q:AV→AH→Prop}
theorem Afb{X:Addr→Prop}{items:Array Value}{n:Nat}{t:Nat}(S:St B σ s)(hb:σ b=some (.list l))(hL:IsL s.heap b items n)(f:Array Value→Array Value)
  (hr:∀ h',TupKeep s.heap h'→VRs h' m (f items).toList):Ext B X σ s (upd σ b (.list m)) { s with heap:=s.heap.update b (Obj.mapSeq f),toks:=t }:=by
 have hs:Heap.SameBut b s.heap (s.heap.update b (Obj.mapSeq f)):=Heap.SameBut.update ..
 exact Ext.set S hb hs.extBut ⟨f items,⟨_,IsL.update hL f⟩,hr _ (TupKeep.of_ext (AaJ hL (by simp)) hs.extBut)⟩
theorem Aa6(hb:σ b=some (.list l))(hz:l.length≤1000)(q:Q .none (upd σ b (.list (l++[a])))):AC B d (.builtin "list.append") [.obj b,a] σ Q:=by
 refine ac_ov fun A s v r S rv=>?_
 obtain⟨items,n,hL,rt⟩:=(S.objs b _ hb).listL
 have hs:=VRs.size rt
 refine call_meets PySem.F.slot_list_append ⟨_,hL,rfl⟩ PySem.F.entry_list_append (PySem.F.args_list_append_2 _ _) (list_append b items n v (by rw[← hs];exact Aa7 hz)) ⟨hL,?_⟩
 exact⟨.none,_,q,rfl,Afb S hb hL (fun x=>x.push v) fun h' T=>by
  rw[Array.toList_push]
  exact Aao.mpr ((Aao.mp (rt.mono T)).append (All2.cons (rv.mono T) All2.nil))⟩
theorem ac_pop{z:AV}(hb:σ b=some (.list (l++[z])))(hz:l.length≤900)(q:Q z (upd σ b (.list l))):AC B d (.builtin "list.pop") [.obj b] σ Q:=by
 refine ac_o fun A s r S=>?_
 obtain⟨items,n,hL,rt⟩:=(S.objs b _ hb).listL
 have hs:=VRs.size rt
 rw[List.length_append,List.length_singleton] at hs
 obtain⟨y,hy,ry⟩:=(Aao.mp rt).get (show(l++[z])[l.length]?=some z by simp)
 have hy':items[items.size - 1]?=some y:=by rw[← hs,Nat.add_sub_cancel,← Array.getElem?_toList];exact hy
 refine call_meets PySem.F.slot_list_pop ⟨_,hL,rfl⟩ PySem.F.entry_list_pop (PySem.F.args_list_pop_1 _) (MeetsSeq.list_pop_last b items n y hy' (by rw[← hs];exact Aa7 (by exact Nat.le_trans (Nat.succ_le_succ (by assumption)) (lnk rfl)))) ⟨hL,?_⟩
 refine⟨z,_,q,?_,Afb S hb hL (fun xs=>xs.eraseIdxIfInBounds (items.size - 1)) fun h' T=>?_⟩
 ·exact ry.mono (TupKeep.of_ext (AaJ hL (by simp)) (Heap.SameBut.update ..).extBut)
 ·have e:(items.eraseIdxIfInBounds (items.size - 1)).toList=items.toList.take l.length:=by
   rw[← hs,Nat.add_sub_cancel]
   obtain⟨xs⟩:=items
   simp only[List.eraseIdxIfInBounds_toArray]
   have hl:xs.length=l.length+1:=by simpa using hs.symm
   rw[List.eraseIdx_eq_take_drop_succ,List.drop_of_length_le (by exact Nat.le_of_eq hl),List.append_nil]
  rw[e]
  have:=(Aao.mp (rt.mono T)).take l.length
  rw[List.take_left' rfl] at this
  exact Aao.mpr this
theorem Ajl(hb:σ b=some (.list l))(hc:σ c=some (.list m))(hz:l.length+m.length≤1000)(q:Q .none (upd σ b (.list (l++m)))):AC B d (.builtin "list.extend") [.obj b,.obj c] σ Q:=by
 refine ac_ov fun A s v r S rv=>?_
 obtain rfl:v=.ref c:=rv
 obtain⟨items,n,hL,rt⟩:=(S.objs b _ hb).listL
 obtain⟨items2,n2,hL2,rt2⟩:=(S.objs c _ hc).listL
 have hs:=VRs.size rt
 have hs2:=VRs.size rt2
 have h0:=Aa7 hz
 refine call_meets PySem.F.slot_list_extend ⟨_,hL,rfl⟩ PySem.F.entry_list_extend (PySem.F.args_list_extend_2 _ _) (AutoSeq1.list_extend_list_list_0 b items n c items2 n2 (extend_door (by lia)) (by lia) (by lia)) ⟨hL,hL2,?_⟩
 exact⟨.none,_,q,rfl,Afb S hb hL (fun x=>x++items2) fun h' T=>by
  rw[Array.toList_append]
  exact Aao.mpr ((Aao.mp (rt.mono T)).append (Aao.mp (rt2.mono T)))⟩
theorem AdS{items:Array Value}{t:Nat}(S:St B σ s)(rt:VRs s.heap l items.toList):
  Ext B noX σ s (upd σ s.heap.objs.size (.list l)) { s with heap:=s.heap.push { cls:=.type "list",data:=.seq items },toks:=t }:=by
 have k:∀ b o,s.heap.get? b=some o→(s.heap.push { cls:=.type "list",data:=.seq items }).get? b=some o:=fun b o e=>Heap.get?_push_of_some _ e
 exact Ext.new S k (Aan _) (show OR B.w _ _ (.list l) from⟨items,⟨_,Heap.get?_push_size _ rfl⟩,rt.mono (TupKeep.of_keeps k)⟩) S.size_lo
theorem Ab4(hb:σ b=some (.list l))(hc:σ c=some (.list m))(hz:l.length+m.length≤1000)(q:∀ e,σ e=none→Q (.obj e) (upd σ e (.list (l++m)))):PBin B d .Add (.obj b) (.obj c) σ Q:=by
 rintro A s _ _ r S rfl rfl
 obtain⟨items,n,hL,rt⟩:=(S.objs b _ hb).listL
 obtain⟨items2,n2,hL2,rt2⟩:=(S.objs c _ hc).listL
 have hs:=VRs.size rt
 have hs2:=VRs.size rt2
 have h0:=Aa7 hz
 exact P.add_list hL hL2 ⟨.obj _,_,q _ S.none_size,rfl,AdS (t:=s.toks) S (by rw[Array.toList_append];exact Aao.mpr ((Aao.mp rt).append (Aao.mp rt2)))⟩ (by lia)
theorem AaW(hz:l.length+m.length≤1000)(q:Q (.tup (l++m)) σ):PBin B d .Add (.tup l) (.tup m) σ Q:=by
 rintro A s _ _ r S ⟨t,items,rfl,ht,rt⟩ ⟨u,items2,rfl,hu,rt2⟩
 have hs:=VRs.size rt
 have hs2:=VRs.size rt2
 have h0:=Aa7 hz
 obtain⟨n,ho,_⟩:=id ht
 obtain⟨n2,ho2,_⟩:=id hu
 by_cases hv:items.isEmpty=true
 ·have e:l=[]:=by
   exact emp hs hv
  subst e
  exact concat_meets ⟨_,ho,rfl⟩ ⟨_,ho2,rfl⟩ noFill_tuple_add seq_tuple_add PySem.F.slot_tuple_add PySem.F.entry_tuple_add (PySem.F.args_tuple_add_2 _ _)
   (tuple_addW0 t u items items2 n n2 none none #[] #[] hv) ⟨ho,ho2,.tup m,σ,q,⟨u,items2,rfl,hu,rt2⟩,.refl S⟩
 ·by_cases hw:items2.isEmpty=true
  ·have e:m=[]:=by
    exact emp hs2 hw
   subst e
   rw[List.append_nil] at q
   exact concat_meets ⟨_,ho,rfl⟩ ⟨_,ho2,rfl⟩ noFill_tuple_add seq_tuple_add PySem.F.slot_tuple_add PySem.F.entry_tuple_add (PySem.F.args_tuple_add_2 _ _)
    (tuple_addW1 t u items items2 n n2 none none #[] #[] hv hw) ⟨ho,ho2,.tup l,σ,q,⟨t,items,rfl,ht,rt⟩,.refl S⟩
  ·have k:∀ b o,s.heap.get? b=some o→(s.heap.push { cls:=.type "tuple",data:=.seq (items++items2) }).get? b=some o:=fun b o e=>Heap.get?_push_of_some _ e
   exact concat_meets ⟨_,ho,rfl⟩ ⟨_,ho2,rfl⟩ noFill_tuple_add seq_tuple_add PySem.F.slot_tuple_add PySem.F.entry_tuple_add (PySem.F.args_tuple_add_2 _ _)
    (tuple_addW2 t u items items2 n n2 none none #[] #[] hv hw (by lia)) ⟨ho,ho2,.tup (l++m),σ,q,
     ⟨_,_,rfl,PT.new _ _ S.nbs,(by rw[Array.toList_append];exact Aao.mpr ((Aao.mp (rt.mono (TupKeep.of_keeps k))).append (Aao.mp (rt2.mono (TupKeep.of_keeps k)))))⟩,Ext.grow (t:=s.toks) S k⟩
theorem AhU{E:Value→Shared→Prop}{P:Value→Shared→Prop}{items:Array Value}{k:Nat}{x:Int}{u:Tok}(hL:IsL s.heap b items k)(f1:¬(!Builtin.List.listFitsIndex x)=true)
  (f2:¬ items.size * x.toNat > (2 ^ 63 - 1) / 8) (f3:¬ Builtin.List.listTooLong (items.size * x.toNat)=true)
  (h:P (.ref s.heap.objs.size) { s with heap:=s.heap.push { cls:=.type "list",data:=.seq (List.foldl (fun x1 x2=>x1++x2) #[] (List.replicate (if items.isEmpty=true then 0 else x.toNat) items)) } }) :
  wpAny (model B.prog B.w) A (binaryOp .Mult (.ref b) (.int x u)) P E s:=
 wpAny_binaryOp_repeat_ref (T:="list") (U:="int") (by decide) ⟨_,hL,rfl⟩ (fun s'=>typeIs_int s' x u) noFill_list_mul PySem.F.fills_int_mul PySem.F.slot_int_rmul repeat_list PySem.F.slot_int_index.lookup
  (call_meets PySem.F.slot_int_rmul (typeIs_int s x u) PySem.F.entry_int_rmul (PySem.F.args_int_rmul_2 _ _) (int___rmul___int_list x u b items k)
   ⟨hL,rfl,⟨_,hL,rfl⟩,call_meets PySem.F.slot_list_mul ⟨_,hL,rfl⟩ PySem.F.entry_list_mul (PySem.F.args_list_mul_2 _ _)
    (AutoListH.list___mul___list_int_3 b items k x u f1 f2 f3) ⟨hL,h⟩⟩)
theorem Ah7{n:Nat}(hb:σ b=some (.list l))(hz:l.length≤30)(hn:n≤30)(q:∀ e,σ e=none→Q (.obj e) (upd σ e (.list (List.replicate n l).flatten))):PBin B d .Mult (.obj b) (.int n) σ Q:=by
 rintro A s _ _ r S rfl ⟨u,rfl⟩
 obtain⟨items,k,hL,rt⟩:=(S.objs b _ hb).listL
 have hs:=VRs.size rt
 have hmul:items.size * n≤30 * 30:=Nat.mul_le_mul (by exact Nat.le_trans (Nat.le_of_eq hs.symm) hz) hn
 have e1:(n:Int).toNat=n:=Int.toNat_natCast n
 have f1:¬(!Builtin.List.listFitsIndex (n:Int))=true:=by simp[Builtin.List.listFitsIndex];lia
 have f2:¬ items.size * (n:Int).toNat > (2 ^ 63 - 1) / 8:=by rw[e1];exact Nat.not_lt.mpr (Nat.le_trans hmul (by decide))
 have f3:¬ Builtin.List.listTooLong (items.size * (n:Int).toNat)=true:=by
  rw[e1]
  unfold Builtin.List.listTooLong sizeLine
  lia
 refine AhU hL f1 f2 f3 ⟨.obj _,_,q _ S.none_size,rfl,AdS (t:=s.toks) S ?_⟩
 have go:∀ (j:Nat) (acc:Array Value) (al:List AV),VRs s.heap al acc.toList→VRs s.heap (al++(List.replicate j l).flatten) (List.foldl (fun x1 x2=>x1++x2) acc (List.replicate j items)).toList:=by
  intro j
  induction j with
  | zero=>intro acc al h;simpa using h
  | succ j ih=>
   intro acc al h
   rw[List.replicate_succ,List.replicate_succ,List.foldl_cons,List.flatten_cons,← List.append_assoc]
   exact ih _ _ (by rw[Array.toList_append];exact Aao.mpr ((Aao.mp h).append (Aao.mp rt)))
 by_cases hv:items.isEmpty=true
 ·have e:l=[]:=by
   exact emp hs hv
  subst e
  simp only[hv,if_true]
  have:(List.replicate n ([]:List AV)).flatten=[]:=by simp
  rw[this]
  exact rfl
 ·simp only[hv,if_false,e1,Bool.false_eq_true]
  simpa using go n #[] [] rfl
inductive RevR(Q:AV→AH→Prop)(o:AV)(σ₁:AH):Prop
 | mk (b:Addr) (l:List AV) (e:o=.obj b) (hb:σ₁ b=some (.list l)) (hz:l.length≤1000) (q:∀ e,σ₁ e=none→Q (.obj e) (upd σ₁ e (.list l.reverse)))
theorem e_rev{value:Expr}{p p1 p2:Pos}{kk:Nat}(h:AE B d env vars (eval value env) σ (RevR Q)):
  AE B d env vars (eval (.Subscript value (.Slice none none (some (.UnaryOp .USub (.Constant (.int 1) kk p1) p2)) p) pos) env) σ Q:=by
 intro A s r S R
 refine Subscript_ ((h A s r S R).wp fun vo s₁ o σ₁ q rv x=>?_)
 obtain⟨b,l,rfl,hb,hz,q⟩:=q
 obtain rfl:vo=.ref b:=rv
 refine wpAny_Slice ?_
 rw[evalPart_none]
 refine wpAny_pure ?_
 refine wpAny_pure ?_
 refine wpAny_UnaryOp (show wpAny _ _ (mkInt 1) _ _ _ from wpAny_mkInt (neg_int ?_))
 obtain⟨items,k,hL,rt⟩:=(x.st.objs b _ hb).listL
 have hsz:=VRs.size rt
 generalize htk:s₁.toks+1+1=tk
 have k:∀ c o,s₁.heap.get? c=some o→(s₁.heap.push { cls:=.type "slice",data:=.fields #[.none,.none,.int (-1) (s₁.toks+1)] }).get? c=some o:=fun b o e=>Heap.get?_push_of_some _ e
 have g:Ext B noX σ₁ s₁ σ₁ { s₁ with heap:=s₁.heap.push { cls:=.type "slice",data:=.fields #[.none,.none,.int (-1) (s₁.toks+1)] },toks:=tk }:=Ext.grow (t:=tk) x.st k
 have hL':=k _ _ hL
 refine tail_any (T:="list") ⟨_,hL',rfl⟩ list_getitem_lookup (wpAny_getItem_list_slice (IsL.isList hL') (Heap.IsSliceOf.new ..) IsPart.none IsPart.none (IsPart.int _ _) (by decide) ?_ (by rw[← hsz];exact Aa7 hz)) (ops:=[.ref b,.ref s₁.heap.objs.size]) rfl
 rw[krv_pick]
 exact⟨.obj _,_,q _ g.st.none_size,rfl,(x.trans g).trans (AdS (t:=tk) g.st (by simpa using Aao.mpr (Aao.mp (rt.mono g.tup)).reverse))⟩
end
end Pq
namespace Pq
variable[Own]
noncomputable def AbQ(B:Aaj)(o:AV)(name:Str)(f:Value)(σ:AH):Prop:=
 ∀ A s vo pl (P:Value×List Value→Shared→Prop) (E:Value→Shared→Prop),St B σ s→VR s.heap o vo→P (f,[vo]) s→wpAny (model B.prog B.w) A (getMethod vo name pl) P E s
section
variable{B:Aaj}{d:Nat}{env:Env}{vars:Vars}{σ:AH}{pos:Pos}{Q:AV→AH→Prop}
omit [Own] in
theorem Act{A:Around}{s:Shared}{o:Expr}{name:Str}{apos:Pos}{args:List Expr}{P:Value→Shared→Prop}{E:Value→Shared→Prop}
  (h:wpAny (model B.prog B.w) A (eval o env) (fun ov s₁=>∃ f,(∀ pl (P':Value×List Value→Shared→Prop) (E':Value→Shared→Prop),P' (f,[ov]) s₁→wpAny (model B.prog B.w) A (getMethod ov name pl) P' E' s₁) ∧
   wpAny (model B.prog B.w) A (callWith pos f [ov] (backTo pos (starEach args env)) []) P E s₁) E s)
  (hbase:attributeBase o name env (eval o env)=eval o env)
  (hfew:((backTo pos (starEach args env)).all (fun x=>!x.1)&&(backToKw pos (keywordEach [] env)).all (fun x=>x.1.isSome)
   && decide (args.length+([]:List Keyword).length+(if([]:List Keyword).isEmpty then 0 else 1)<30))=true)
  (hline:(apos.endLine==pos.line)=true):wpAny (model B.prog B.w) A (eval (.Call (.Attribute o name apos) args [] pos) env) P E s:=by
 rw[arm_eval_Call,hbase]
 refine wpAny_bind (wpAny_mono h (fun ov s₁ h₁=>?_) fun jj jj e=>e)
 obtain⟨f,hm,hc⟩:=h₁
 refine wpAny_bind (wpAny_standAt ?_)
 have hform:methodCallForm (args.length+([]:List Keyword).length) (backTo pos (starEach args env)) (backToKw pos (keywordEach [] env))=true:=hfew
 have hpos:methodCallPos true o env apos pos=pure pos:=by unfold methodCallPos;simp[hline]
 unfold methodCall
 rw[hform]
 refine wpAny_bind (wpAny_holding (hm _ _ _ ?_))
 exact wpAny_bind (wpAny_of_eq hpos hc)
noncomputable abbrev MetK(B:Aaj)(d:Nat)(f:Value)(o:AV)(Q:AV→AH→Prop)(l:List AV)(σ:AH):Prop:=AC B d f (o::l) σ Q
theorem AgY{A:Around}{s:Shared}(O:BOk B){f:Value}{e:Expr}{rest:List Expr}{ov:Value}{oa:AV}(hc:AaO B.K f=true)(hn:Ahc f=true)
  (h:AEs B d env vars (spliced (backTo pos (starEach (e::rest) env))) σ (MetK B d f oa Q)) (r:Room A d) (S:St B σ s) (R:EnvR B σ s.heap env vars) (ro:VR s.heap oa ov)
  (he:starEach (e::rest) env=(false,eval e env)::starEach rest env) (hplain:(backTo pos (starEach rest env)).any (·.1)=false) :
  W B A noX σ s RV (callWith pos f [ov] (backTo pos (starEach (e::rest) env)) []) Q:=by
 exact AeS (pre:=[ov]) hc (.inr hn) (O.K.keeps S.base) he hplain fun hP=>(h A s r S R).wp fun vs s₂ l σ₂ q₂ rvs y=>⟨hP s₂ (O.K.keeps y.st.base),(q₂ A s₂ _ r y.st ⟨ov,vs,rfl,ro.mono y.tup,rvs⟩).wp fun v s₃ b σ₃ q₃ rv₃ z=>⟨b,σ₃,q₃,rv₃,y.trans z⟩⟩
noncomputable def mOk(pos apos:Pos)(es:List Expr):Bool:=es.all AdW&&(apos.endLine==pos.line&&decide (es.length<30))
theorem mOk_at{apos:Pos}{e:Expr}{rest:List Expr}(h:mOk pos apos (e::rest)=true):
  ((backTo pos (starEach (e::rest) env)).all (fun x=>!x.1)&&(backToKw pos (keywordEach [] env)).all (fun x=>x.1.isSome)
   && decide ((e::rest).length+([]:List Keyword).length+(if([]:List Keyword).isEmpty then 0 else 1)<30))=true∧(apos.endLine==pos.line)=true ∧
  starEach (e::rest) env=(false,eval e env)::starEach rest env∧(backTo pos (starEach rest env)).any (·.1)=false:=by
 unfold mOk at h
 rw[Bool.and_eq_true,Bool.and_eq_true,List.all_cons,Bool.and_eq_true] at h
 refine⟨?_,h.2.1,(Aba h.1.1).star _ _,Afl h.1.2⟩
 have k:=Afl (pos:=pos) (env:=env) (es:=e::rest) (List.all_cons▸Bool.and_eq_true _ _▸h.1)
 rw[List.any_eq_not_all_not,Bool.not_eq_false'] at k
 rw[Bool.and_eq_true,Bool.and_eq_true]
 exact⟨⟨k,rfl⟩,h.2.2⟩
inductive MetR(B:Aaj)(d:Nat)(env:Env)(vars:Vars)(name:Str)(t:Sem (List Value))(Q:AV→AH→Prop)(ov:AV)(σ₁:AH):Prop
 | mk (f:Value) (m:AbQ B ov name f σ₁) (c:AaO B.K f=true) (n:Ahc f=true) (h:AEs B d env vars t σ₁ (MetK B d f ov Q))
inductive MetR0(B:Aaj)(d:Nat)(name:Str)(Q:AV→AH→Prop)(ov:AV)(σ₁:AH):Prop
 | mk (f:Value) (m:AbQ B ov name f σ₁) (c:AaO B.K f=true) (n:Ahc f=true) (h:AC B d f [ov] σ₁ Q)
theorem AaM(O:BOk B){o e:Expr}{name:Str}{apos:Pos}{rest:List Expr}
  (hbase:attributeBase o name env (eval o env)=eval o env) (hz:mOk pos apos (e::rest)=true)
  (h:AE B d env vars (eval o env) σ (MetR B d env vars name (spliced (backTo pos (starEach (e::rest) env))) Q)) :
  AE B d env vars (eval (.Call (.Attribute o name apos) (e::rest) [] pos) env) σ Q:=by
 intro A s r S R
 obtain⟨hfew,hline,he,hplain⟩:=mOk_at (env:=env) hz
 refine Act ((h A s r S R).wp fun ov s₁ oa σ₁ q ro x=>?_) hbase hfew hline
 obtain⟨f,hm,hc,hn,q⟩:=q
 exact⟨f,fun pl P E hp=>hm A s₁ ov pl P E x.st ro hp,(AgY O hc hn q r x.st (R.go x) ro he hplain).wp fun v s₂ b σ₂ q₂ rv y=>⟨b,σ₂,q₂,rv,x.trans y⟩⟩
theorem e_meth0(O:BOk B){o:Expr}{name:Str}{apos:Pos}
  (hbase:attributeBase o name env (eval o env)=eval o env) (hline:(apos.endLine==pos.line)=true)
  (h:AE B d env vars (eval o env) σ (MetR0 B d name Q)) :
  AE B d env vars (eval (.Call (.Attribute o name apos) [] [] pos) env) σ Q:=by
 intro A s r S R
 refine Act ((h A s r S R).wp fun ov s₁ oa σ₁ q ro x=>?_) hbase rfl hline
 obtain⟨f,hm,hc,hn,q⟩:=q
 refine⟨f,fun pl P E hp=>hm A s₁ ov pl P E x.st ro hp,?_⟩
 have g:=(q A s₁ [ov] r x.st ⟨ov,[],rfl,ro,rfl⟩).wp (E:=fun jj jj=>False) (P:=WR B noX σ s RV Q) fun v s₂ b σ₂ q₂ rv y=>⟨b,σ₂,q₂,rv,x.trans y⟩
 cases calleeC hc with
 | b id=>exact callWith_builtin rfl (PySem.evalArgs_none g)
 | t T=>exact absurd hn Bool.false_ne_true
 | k _ h=>exact callWith_K0 (O.K.keeps x.st.base) h g
theorem AgF{b:Addr}{l:List AV}{name:Str}{id:String}(hb:σ b=some (.list l))(slot:Slot "list" name id)(hty:typeOf (.builtin id)=pure (.type "method_descriptor")):AbQ B (.obj b) name (.builtin id) σ:=by
 rintro A s _ pl P E S rfl hp
 obtain⟨items,n,hL,_⟩:=(S.objs b _ hb).listL
 exact getMethod_builtin hL.isList.typeIs PySem.F.plainAttrs_list slot hty (fun a e=>by cases e;exact⟨_,hL,rfl⟩) hp
theorem Aiw{b:Addr}{kvs:List (AV×AV)}{name:Str}{id:String}(hb:σ b=some (.dict kvs))(slot:Slot "dict" name id)(hty:typeOf (.builtin id)=pure (.type "method_descriptor")):AbQ B (.obj b) name (.builtin id) σ:=by
 rintro A s _ pl P E S rfl hp
 have hd:=S.objs b _ hb
 have hd':=hd
 obtain⟨es,n,ho,_⟩:=hd'
 exact getMethod_builtin hd.dictT PySem.F.plainAttrs_dict slot hty (fun a e=>by cases e;exact⟨_,ho,rfl⟩) hp
theorem Aa3{b:Addr}{l:List AV}(hb:σ b=some (.list l)):AbQ B (.obj b) "append" (.builtin "list.append") σ:=AgF hb PySem.F.slot_list_append PySem.F.type_list_append
theorem AfM{b:Addr}{l:List AV}(hb:σ b=some (.list l)):AbQ B (.obj b) "extend" (.builtin "list.extend") σ:=AgF hb PySem.F.slot_list_extend PySem.F.type_list_extend
theorem pm_pop{b:Addr}{l:List AV}(hb:σ b=some (.list l)):AbQ B (.obj b) "pop" (.builtin "list.pop") σ:=AgF hb PySem.F.slot_list_pop PySem.F.type_list_pop
theorem Ac4{b:Addr}{kvs:List (AV×AV)}(hb:σ b=some (.dict kvs)):AbQ B (.obj b) "setdefault" (.builtin "dict.setdefault") σ:=Aiw hb PySem.F.slot_dict_setdefault PySem.F.type_dict_setdefault
theorem pm_items{b:Addr}{kvs:List (AV×AV)}(hb:σ b=some (.dict kvs)):AbQ B (.obj b) "items" (.builtin "dict.items") σ:=Aiw hb PySem.F.slot_dict_items PySem.F.type_dict_items
omit [Own] in
theorem Af1{x y:Str}{t:Tok}:(Value.str x t).isStr y=decide (x=y):=by
 by_cases q:x=y
 ·subst q;simp[Value.isStr]
 ·simp[Value.isStr,q]
theorem Ajh{h:Heap}{name:Str}{es:List DictEntry}{kvs:List (Str×AV)}(x:All2 (Ajq h) es kvs):OptR (VR h) (look kvs name) ((es.find? (·.key.isStr name)).map (·.val)):=by
 induction es generalizing kvs with
 | nil=>rw[show kvs=[] from x];rfl
 | cons e es ih=>
  obtain⟨kv,r,rfl,⟨⟨t,hk⟩,hv⟩,tl⟩:=x
  rw[List.find?_cons,show e.key.isStr name=decide (kv.1=name) from hk▸Af1,Abn]
  by_cases q:kv.1=name
  ·rw[if_pos q,decide_eq_true q];exact hv
  ·rw[if_neg q,decide_eq_false q];exact ih tl
theorem AeU{h:Heap}{es:List DictEntry}{kvs:List (Str×AV)}(x:All2 (Ajq h) es kvs):es.any (·.refKey)=false:=by
 induction es generalizing kvs with
 | nil=>rfl
 | cons e es ih=>
  obtain⟨kv,r,q,⟨⟨t,hk⟩,hv⟩,tl⟩:=x
  rw[List.any_cons,ih tl,Bool.or_false]
  unfold DictEntry.refKey
  rw[hk]
theorem Agh{h:Heap}{name:Str}{es:List DictEntry}{n:Nat}{kvs:List (Str×AV)}(x:All2 (Ajq h) es kvs):∃ o,lookIn name (dictOf es n)=some o∧OptR (VR h) (look kvs name) o:=by
 have h1:=Ajh (name:=name) x
 have h2:=AeU x
 have e1:lookIn name (dictOf es n)=@Option.casesOn _ (fun jj=>Option (Option Value)) (es.find? (·.key.isStr name)) (if es.any (·.refKey)=true then none else some none) fun e=>some (some e.val):=by kernel_rfl
 rw[e1]
 cases q:es.find? (·.key.isStr name) with
 | some e=>
  rw[q] at h1
  exact⟨some e.val,rfl,h1⟩
 | none=>
  rw[q] at h1
  exact⟨none,if_neg (by rw[h2];exact Bool.false_ne_true),h1⟩
theorem AgK{s:Shared}{x C dx:Addr}{kvs:List (Str×AV)}(S:St B σ s)(hx:σ x=some (.inst C dx))(hd:σ dx=some (.attrs kvs)):
  ∃ es n,InstAt s.heap x (instObj C dx) C (some (dictOf es n))∧s.heap.get? dx=some (dictOf es n)∧All2 (Ajq s.heap) es kvs∧(kvs.map (·.1)).Nodup:=by
 obtain⟨es,n,ho,he,hn⟩:=S.objs dx _ hd
 exact⟨es,n,⟨S.objs x _ hx,rfl,rfl,ho⟩,ho,he,hn⟩
theorem Aa1(O:BOk B){x C dx f:Addr}{kvs:List (Str×AV)}{name:Str}(hx:σ x=some (.inst C dx))(hd:σ dx=some (.attrs kvs))(hm:AfR B.K C name f=true)(hl:look kvs name=none):AbQ B (.obj x) name (.ref f) σ:=by
 rintro A s _ pl P E S rfl hp
 obtain⟨es,n,I,ho,he,_⟩:=AgK S hx hd
 unfold AfR at hm
 simp only[Bool.and_eq_true,beq_iff_eq] at hm
 obtain⟨o,h1,h2⟩:=Agh (n:=n) (name:=name) he
 rw[hl] at h2
 cases o with
 | some _=>exact nos h2.symm
 | none=>exact method_fn (O.K.keeps S.base) I (plainGet_of hm.1.1).1 (plainGet_of hm.1.1).2 hm.1.2 (beq_iff_eq.mp hm.2) (by show(lookIn name (dictOf es n)).map _=_;rw[h1];rfl) hp
end
end Pq
namespace Pq
variable[Own]
theorem attr_idx{h:Heap}{name:Str}{es:List DictEntry}{kvs:List (Str×AV)}(x:All2 (Ajq h) es kvs):(es.findIdx? (·.key.isStr name))=kvs.findIdx? fun kv=>decide (kv.1=name):=
 x.findIdx (p:=fun e=>e.key.isStr name) fun e kv r=>by
  obtain⟨⟨t,hk⟩,_⟩:=r
  exact hk▸Af1
section
variable{B:Aaj}{d:Nat}{env:Env}{vars:Vars}{σ:AH}{pos:Pos}{Q:AV→AH→Prop}
inductive AttQ(B:Aaj)(attr:Str)(Q:AV→AH→Prop)(ov:AV)(σ₁:AH):Prop
 | mk (x C dx:Addr) (kvs:List (Str×AV)) (a:AV) (e:ov=.obj x) (h1:σ₁ x=some (.inst C dx)) (h2:σ₁ dx=some (.attrs kvs)) (h3:Afj B.K C attr=true) (h4:look kvs attr=some a) (h5:∀ s v,St B σ₁ s→VR s.heap a v→handedIn v=true) (q:Q a σ₁)
noncomputable def AV.isRaw(a:AV):Bool:=Nat.beq a.ctorIdx 6
inductive SetQ(B:Aaj)(attr:Str)(v:AV)(Q:AH→Prop)(ov:AV)(σ₂:AH):Prop
 | mk (x C dx:Addr) (kvs:List (Str×AV)) (e:ov=.obj x) (h1:σ₂ x=some (.inst C dx)) (h2:σ₂ dx=some (.attrs kvs)) (h3:Ae2 B.K C attr=true) (h4:kvs.length≤100) (q:Q (upd σ₂ dx (.attrs (put kvs attr v))))
inductive NonQ(Q:AH→Prop)(a:AV)(σ':AH):Prop
 | mk (e:a=.none) (q:Q σ')
theorem e_attr(O:BOk B){value:Expr}{attr:Str}
  (he:eval (.Attribute value attr pos) env=(do
   let o ← eval value env
   standAt pos.atName
   let r ← holding [o] (getAttr o attr true)
   letTemporaryGo value o r
   pure r)) (h:AE B d env vars (eval value env) σ (AttQ B attr Q)):AE B d env vars (eval (.Attribute value attr pos) env) σ Q:=by
 intro A s r S R
 refine Attribute_any_ ((h A s r S R).wp fun ov s₁ oa σ₁ q ro y=>?_) he
 obtain⟨x,C,dx,kvs,a,rfl,hx,hd,hg,hl,hh,q⟩:=q
 obtain rfl:ov=.ref x:=ro
 obtain⟨es,n,I,ho,he',_⟩:=AgK y.st hx hd
 obtain⟨o,h1,h2⟩:=Agh (n:=n) (name:=attr) he'
 rw[hl] at h2
 obtain⟨v,rfl,hv⟩:=h2.some_left
 unfold Afj at hg
 simp only[Bool.and_eq_true,beq_iff_eq] at hg
 exact get_value (O.K.keeps y.st.base) I (plainGet_of hg.1.1).1 (findObj_own hg.1.2 hg.2 rfl h1) (hh s₁ v y.st hv) ⟨a,σ₁,q,hv,y.tok _⟩
theorem AgM{h:Heap}{a:AV}{v:Value}(hr:a.isRaw=false)(r:VR h a v):handedIn v=true:=by
 cases a
 ·cases (show v=_ from r);rfl
 ·cases (show v=_ from r);rfl
 ·obtain⟨_,rfl⟩:=r;rfl
 ·obtain⟨_,rfl⟩:=r;rfl
 ·obtain⟨_,_,rfl,_⟩:=r;rfl
 ·cases (show v=_ from r);rfl
 ·exact absurd hr.symm Bool.false_ne_true
theorem Ahs(O:BOk B){y attr:Str}{p:Pos}{x C dx:Addr}{kvs:List (Str×AV)}{a:AV}(hk:isK .local env y=true)(hv:vars y=some (.obj x))(h1:σ x=some (.inst C dx))(h2:σ dx=some (.attrs kvs))
  (h3:Afj B.K C attr=true) (h4:look kvs attr=some a) (h5:a.isRaw=false) (q:Q a σ):AE B d env vars (eval (.Attribute (.Name y p) attr pos) env) σ Q:=
 e_attr O rfl (Aaa hk hv ⟨x,C,dx,kvs,a,rfl,h1,h2,h3,h4,fun jj jj jj h=>AgM h5 h,q⟩)
theorem Aio(O:BOk B){A:Around}{s:Shared}{x C dx:Addr}{kvs:List (Str×AV)}{name:Str}{a:AV}{v:Value}{Q:Unit→AH→Prop}(S:St B σ s)(hx:σ x=some (.inst C dx))(hd:σ dx=some (.attrs kvs))
  (hi:Ae2 B.K C name=true) (hz:kvs.length≤100) (rv:VR s.heap a v) (q:Q () (upd σ dx (.attrs (put kvs name a)))):W B A noX σ s REq (setAttr (.ref x) name v) Q:=by
 obtain⟨es,n,I,ho,he,hn⟩:=AgK S hx hd
 have X:B.K.In s.heap:=O.K.keeps S.base
 unfold Ae2 at hi
 simp only[Bool.and_eq_true,beq_iff_eq] at hi
 obtain⟨⟨⟨hp,ht⟩,hh⟩,hs⟩:=hi
 have hlen:=he.length
 unfold W
 refine set_plain X I hs ?_
 refine osa_open (s:={ s with toks:=s.toks+1 }) X I hp ht fun b=>?_
 obtain⟨cd,hc,hd'⟩:=any_some hh
 refine wpAny_bind (wpAny_pure (wpAny_bind (wpAny_bind (wpAny_loadPart (S.objs x _ hx) (wpAny_bind (looks_clsIn X hc _ _ _ _ (fun jj jj e=>e) ?_))))))
 rw[hd']
 refine wpAny_pure (a:=some dx) (wpAny_bind (wpAny_pure (wpAny_bind ?_)))
 unfold nsSet
 refine wpAny_bind (wpAny_bind (wpAny_askSetting (wpAny_pure (wpAny_bind (wpAny_mkText (wpAny_bind (wpAny_loadPart ho ?_)))))))
 dsimp only
 have c:(!(es.toArray).any (·.key.isStr name)&&(es.toArray).any (·.refKey))=false:=by
  rw[← Array.any_toList,← Array.any_toList,AeU he,Bool.and_false]
 rw[aRefKeyMayBeTheName_at,c]
 refine wpAny_updatePart ho ?_
 have fin:∀ hsh:Int,∃ es' n',(s.heap.update dx (Obj.putName name hsh (.str name (s.toks+1)) v)).get? dx=some (dictOf es' n')∧es'.length≤200 ∧
   WR B noX σ s REq Q () { s with heap:=s.heap.update dx (Obj.putName name hsh (.str name (s.toks+1)) v),toks:=s.toks+1+1 }:=by
  intro hsh
  generalize hf:Obj.putName name hsh (.str name (s.toks+1)) v=f
  have hsame:Heap.SameBut dx s.heap (s.heap.update dx f):=Heap.SameBut.update ..
  have T:TupKeep s.heap (s.heap.update dx f):=TupKeep.of_ext (AaJ ho (by simp)) hsame.extBut
  have he2:All2 (Ajq (s.heap.update dx f)) es kvs:=he.mono fun jj jj z=>⟨z.1,z.2.mono T⟩
  have key:∃ es' n',f (dictOf es n)=dictOf es' n'∧All2 (Ajq (s.heap.update dx f)) es' (put kvs name a)∧es'.length≤es.length+1:=by
   have e:=attr_idx (name:=name) he
   generalize hH:s.heap.update dx f=H at he2 T ⊢
   rw[← hf,Obj.putName_eq]
   have ea:∀ (i:Option Nat),es.toArray.findIdx? (·.key.isStr name)=i→Obj.putNameByArray name hsh (.str name (s.toks+1)) v (dictOf es n)=Option.casesOn i (dictOf (es.toArray.push ⟨hsh,.str name (s.toks+1),v⟩).toList (n+1)) (fun i=>dictOf (es.toArray.modify i fun e=>{ e with val:=v }).toList n):=by
    rintro i rfl
    kernel_rfl
   rw[ea _ ((List.findIdx?_toArray ..).trans e)]
   cases hi:kvs.findIdx? fun kv=>decide (kv.1=name) with
   | none=>
    refine⟨es++[⟨hsh,.str name (s.toks+1),v⟩],n+1,by simp,?_,by simp⟩
    rw[Ae6 hi]
    exact he2.append (All2.cons ⟨⟨_,rfl⟩,rv.mono T⟩ All2.nil)
   | some i=>
    refine⟨es.modify i fun e=>{ e with val:=v },n,by simp,?_,by simp⟩
    rw[Ag7 hi]
    exact All2.modify (R:=Ajq _) (f:=fun e:DictEntry=>{ e with val:=v }) (g:=fun kv:Str×AV=>(kv.1,a)) (fun e kv r=>⟨r.1,rv.mono T⟩) i he2
  obtain⟨es',n',k1,k2,k3⟩:=key
  have D':(s.heap.update dx f).get? dx=some (dictOf es' n'):=by
   rw[Heap.get?_update_self f ho (by rw[k1];rfl),k1]
  exact⟨es',n',D',by exact Nat.le_trans (Nat.le_trans (Nat.le_trans k3 (Nat.add_le_add_right (Nat.le_of_eq hlen) 1)) (Nat.add_le_add_right hz 1)) (lnk rfl),(),_,q,rfl,Ext.set S hd hsame.extBut ⟨es',n',D',k2,AfL name a hn⟩⟩
 obtain⟨es',n',D',hl,b,σ',q',e',y⟩:=fin (if name.cps.isEmpty=true then 0 else reduceHash ((model B.prog B.w).w.params.strHash name.cps))
 refine wpAny_bind (wpAny_lookBehind D' (pastItsLine_dict (by rw[List.size_toArray,sizeLine_eq];exact Nat.le_trans hl (lnk rfl))) ?_)
 exact wpAny_pure ⟨b,σ',q',e',y⟩
noncomputable abbrev SetK(B:Aaj)(d:Nat)(env:Env)(vars:Vars)(o:Expr)(attr:Str)(Q:Vars→AH→Prop)(v:AV)(σ:AH):Prop:=AE B d env vars (eval o env) σ (SetQ B attr v (Q vars))
theorem Ab0(O:BOk B){o value:Expr}{attr:Str}{p:Pos}{Q:AFl→Vars→AH→Prop}
  (hs:swapsWith value (some (.Attribute o attr p)) pos.line env=pure false) (h:AE B d env vars (eval value env) σ (SetK B d env vars o attr (Q .next))):AX B d env vars (exec (.Assign [.Attribute o attr p] value pos) env) σ Q:=by
 intro A s r S R
 refine plainObj_wpAny_Assign_Attribute ((h A s r S R).wp fun v s₁ a σ₁ q rv y=>(q A s₁ r y.st (R.go y)).wp fun ov s₂ oa σ₂ q₂ ro z=>?_) hs
 obtain⟨x,C,dx,kvs,rfl,hx,hd,hi,hz,q₂⟩:=q₂
 obtain rfl:ov=.ref x:=ro
 exact(Aio (Q:=fun jj σ'=>Q .next vars σ') O z.st hx hd hi hz (rv.mono z.tup) q₂).wp fun jj s₃ jj σ₃ q₃ jj u=>
  ⟨(.next,vars),σ₃,q₃,⟨rfl,((R.go y).go z).go u⟩,((y.trans z).trans u).weaken fun jj f=>f.elim⟩
omit [Own] in
theorem AeF{A:Around}{C:Addr}{rest:List Value}(r:Room A (d+1)):Room (A.under (.builtin "type.__call__" ⟨.ref C::rest,[]⟩)) d:=by
 obtain⟨h1,h2,h3⟩:=r
 have hw:Code.weight (.builtin "type.__call__" ⟨.ref C::rest,[]⟩)≤1:=lnk (by rfl)
 have hu:Code.cUnits (.builtin "type.__call__" ⟨.ref C::rest,[]⟩)≤10:=lnk (by rfl)
 exact⟨h1,by show A.depth+Code.weight _+d<_;exact ln4 (.c 1 (.a (.a (.v 0) (.p 1 1)) (.n 1)) (.v 2) (.c 1 (.v 3) (.n 1) (.g 0 (.a (.a (.b 0 3) (.v 1)) (.n 1)) (.v 2)))) rfl h2 hw,by show A.units+Code.cUnits _+10 * d+200<_;exact ln4 (.c 1 (.a (.a (.a (.v 0) (.m 10 (.p 1 1))) (.n 200)) (.n 1)) (.v 2) (.c 1 (.v 3) (.n 10) (.g 0 (.a (.a (.a (.b 0 3) (.m 10 (.v 1))) (.n 200)) (.n 1)) (.v 2)))) rfl h3 hu⟩
theorem ac_cls(O:BOk B){C fI:Addr}{args:List AV}(hc:Ai6 B.K C fI=true)
  (h:∀ x dx,σ x=none→σ dx=none→x≠dx→AK B d (.ref fI) (.obj x::args) (upd (upd σ dx (.attrs [])) x (.inst C dx)) (NonQ (Q (.obj x)))):AC B (d+1) (.ref C) args σ Q:=by
 intro A s vs r S rv
 have X:B.K.In s.heap:=O.K.keeps S.base
 unfold Ai6 at hc
 simp only[Bool.and_eq_true,beq_iff_eq] at hc
 obtain⟨⟨hm,hi⟩,hf⟩:=hc
 refine wpAny_call ?_
 have k1:∀ b o,s.heap.get? b=some o→(s.heap.push emptyDict).get? b=some o:=fun b o e=>Heap.get?_push_of_some _ e
 have x1:Ext B noX σ s (upd σ s.heap.objs.size (.attrs [])) { s with heap:=s.heap.push emptyDict }:=
  Ext.new (t:=s.toks) S k1 (Aan _) (show OR B.w _ _ (.attrs []) from⟨[],0,Heap.get?_push_size _ rfl,rfl,List.nodup_nil⟩) S.size_lo
 have k2:∀ b o,(s.heap.push emptyDict).get? b=some o→((s.heap.push emptyDict).push (instObj C s.heap.objs.size)).get? b=some o:=fun b o e=>Heap.get?_push_of_some _ e
 have hsz:(s.heap.push emptyDict).objs.size=s.heap.objs.size+1:=Heap.size_push ..
 have x2:=Ext.new (X:=noX) (t:=s.toks) (o:=.inst C s.heap.objs.size) x1.st (h':=(s.heap.push emptyDict).push (instObj C s.heap.objs.size)) k2 (Aan _) (show OR B.w _ _ (.inst C _) from Heap.get?_push_size _ rfl) x1.st.size_lo
 have y:=x1.trans x2
 have n1:=S.none_size
 have n2:=x1.st.none_size
 rw[show(({ s with heap:=s.heap.push emptyDict }:Shared).heap.objs.size)=s.heap.objs.size+1 from hsz] at y n2
 have n3:σ (s.heap.objs.size+1)=none:=by rw[Aai _ _ (Nat.succ_ne_self _)] at n2;exact n2
 obtain⟨hh,g,dd,t,os⟩:=s
 refine make_core (makes_of X hm) (looks_findIn X hi) (fun self=>bind_fn X self hf) (.inl rfl) ?_
 refine codeAny_mono (h (hh.objs.size+1) hh.objs.size n3 n1 (Nat.succ_ne_self _) _ _ (.ref (hh.objs.size+1)::vs) (AeF r) y.st ⟨_,vs,rfl,rfl,rv.mono y.tup⟩) fun r s' z=>?_
 rcases r with e | (v | _ | _ | _)<;>first | exact z.elim | skip
 obtain⟨b,σ',⟨rfl,q⟩,rb,w⟩:=z
 exact⟨rb,.obj (hh.objs.size+1),σ',q,rfl,y.trans w⟩
end
end Pq
namespace Pq
variable[Own]
noncomputable def Sat(src:List (Addr×AO))(σ:AH):Prop:=∀ p∈src,σ p.1=some p.2
structure FpOk(B:Aaj)(fp:List Addr)(σ:AH)(h:Heap):Prop where
 nabs:∀ b∈fp,σ b=none
 base:∀ b∈fp,B.h₀.get? b=none
 notup:∀ b∈fp,∀ items,¬ PT h b items
 live:∀ b∈fp,∃ o,h.get? b=some o
omit [Own] in
theorem mem1{b c:Addr}(h:b∈[c]):b=c:=List.mem_singleton.mp h
theorem FpOk.tup{B:Aaj}{fp:List Addr}{σ:AH}{h h':Heap}(F:FpOk B fp σ h)(k:∀ b o,b∉fp→h.get? b=some o→h'.get? b=some o):TupKeep h h':=fun a items ht=>by
 have:a∉fp:=fun q=>F.notup a q items ht
 obtain⟨n,e,z⟩:=ht
 exact⟨n,k a _ this e,z⟩
omit [Own] in
theorem Ahy{α:Type}{P:α→Prop}:∀ x∈([]:List α),P x:=fun jj h=>nomatch h
omit [Own] in
theorem AaX{α:Type}{P:α→Prop}{a:α}{l:List α}(h:P a)(k:∀ x∈l,P x):∀ x∈a::l,P x:=List.forall_mem_cons.mpr ⟨h,k⟩
theorem Ext.fp{B:Aaj}{fp:List Addr}{σ:AH}{s:Shared}{h':Heap}{tk:Nat}(S:St B σ s)(F:FpOk B fp σ s.heap)(k:∀ b o,b∉fp→s.heap.get? b=some o→h'.get? b=some o)(nt:∀ b∈fp,∃ o,h'.get? b=some o∧∀ items,¬ PT h' b items):
  Ext B (·∈fp) σ s σ { s with heap:=h',toks:=tk }∧FpOk B fp σ h':=by
 have T:=F.tup k
 have live:∀ b o,s.heap.get? b=some o→∃ o',h'.get? b=some o':=fun b o e=>by
  by_cases hb:b∈fp
  ·exact(nt b hb).imp fun jj z=>z.1
  ·exact⟨o,k b o hb e⟩
 exact⟨⟨⟨fun b o e=>k b o (fun q=>nomatch (F.base b q).symm.trans e) (S.base b o e),S.apart,fun b o e=>(S.objs b o e).mono (fun ob=>k b ob fun z=>nomatch (F.nabs b z).symm.trans e) T,S.gens,S.os,S.lo,fun b hb=>(S.bad b hb).elim (live b)⟩,
  T,fun b o e jj hx=>k b o hx e,fun b h h'=>absurd h h',live⟩,F.nabs,F.base,fun b hb=>(nt b hb).elim fun jj z=>z.2,fun b hb=>(nt b hb).imp fun jj z=>z.1⟩
theorem Ahb{h:Heap}{b:Addr}{o:Obj}(e:h.get? b=some o)(hc:o.cls≠.type "tuple"):∃ o,h.get? b=some o∧∀ items,¬ PT h b items:=⟨o,e,AaJ e hc⟩
theorem AiB{h:Heap}{i t:Addr}{k:Nat}(g:h.IsTupleIter i t k):∃ o,h.get? i=some o∧∀ items,¬ PT h i items:=by
 obtain⟨o,e,hc,_⟩:=g
 exact Ahb e (by rw[hc];simp)
structure IR(B:Aaj)(fp:List Addr)(Z:List AV→Heap→Prop)(x:AV)(xs:List AV)(σ:AH)(s:Shared)(v:Value)(s':Shared):Prop where
 v:VR s'.heap x v
 z:Z xs s'.heap
 x:Ext B (·∈fp) σ s σ s'
 f:FpOk B fp σ s'.heap
inductive IN(B:Aaj)(A:Around)(fp:List Addr)(it:Addr)(Z:List AV→Heap→Prop)(x:AV)(xs:List AV)(σ:AH)(s:Shared)(tgt:Expr)(r:Option Value)(s₁:Shared):Prop
 | mk (v:Value) (e:r=some v) (h:wpAny (model B.prog B.w) A (letOwnedTupleGo tgt (.ref it) v) (fun jj s'=>IR B fp Z x xs σ s v s') (fun jj jj=>False) s₁)
structure Iter(B:Aaj)(it:Addr)(fp:List Addr)(tg:Expr→Prop)(src:List (Addr×AO))(Z:List AV→Heap→Prop):Prop where
 frame:∀ xs h h',Z xs h→(∀ b∈fp,∀ o,h.get? b=some o→h'.get? b=some o)→TupKeep h h'→Z xs h'
 item:∀ {A d σ s x xs tgt},tg tgt→Room A d→St B σ s→Sat src σ→FpOk B fp σ s.heap→Z (x::xs) s.heap →
  wpAny (model B.prog B.w) A (pyNext (.ref it)) (IN B A fp it Z x xs σ s tgt) (fun jj jj=>False) s
 self:∀ {A s xs} {P:Value→Shared→Prop},Z xs s.heap→P (.ref it) s→wpAny (model B.prog B.w) A (pyIter (.ref it)) P (fun jj jj=>False) s
 done:∀ {A d σ s} {P:Option Value→Shared→Prop},Room A d→St B σ s→Sat src σ→FpOk B fp σ s.heap→Z [] s.heap →
  (∀ h' tk,(∀ b o,b∉fp→s.heap.get? b=some o→h'.get? b=some o)→P none { s with heap:=h',toks:=tk })→wpAny (model B.prog B.w) A (pyNext (.ref it)) P (fun jj jj=>False) s
section
variable{B:Aaj}{X:Addr→Prop}{σ σ₀ σ':AH}{s s₀ s':Shared}{fp:List Addr}
theorem Ext.finish(S₀:St B σ₀ s₀)(x:Ext B X σ₀ s₀ σ s)(h0:∀ b∈fp,s₀.heap.get? b=none)(F:FpOk B fp σ s.heap){h':Heap}{tk:Nat}(k:∀ b o,b∉fp→s.heap.get? b=some o→h'.get? b=some o):
  Ext B X σ₀ s₀ σ { s with heap:=h',toks:=tk }:=by
 have T:=F.tup k
 have S:=x.st
 refine⟨⟨fun b o e=>k b o (fun q=>by exact nosn e (F.base b q)) (S.base b o e),S.apart,fun b o e=>(S.objs b o e).mono (fun ob q=>k b ob (fun z=>by exact nosn e (F.nabs b z)) q) T,S.gens,S.os,S.lo,fun b hb=>?_⟩,x.tup.trans T,fun b o e h1 h2=>?_,x.fresh,fun b o e=>?_⟩
 ·obtain⟨o,e⟩:=S₀.bad b hb
  obtain⟨o',e'⟩:=x.live b o e
  exact⟨o',k b o' (fun q=>by exact nosn e (h0 b q)) e'⟩
 ·exact k b o (fun q=>by exact nosn e (h0 b q)) (x.keep b o e h1 h2)
 ·obtain⟨o',e'⟩:=x.live b o e
  exact⟨o',k b o' (fun q=>by exact nosn e (h0 b q)) e'⟩
theorem FpOk.ext(F:FpOk B fp σ s.heap)(x:Ext B X σ s σ' s')(h:∀ b∈fp,¬ X b):FpOk B fp σ' s'.heap∧∀ b∈fp,∀ o,s.heap.get? b=some o→s'.heap.get? b=some o:=by
 have k:∀ b∈fp,∀ o,s.heap.get? b=some o→s'.heap.get? b=some o:=fun b hb o e=>x.keep b o e (F.nabs b hb) (h b hb)
 refine⟨⟨fun b hb=>?_,F.base,fun b hb items ht=>?_,fun b hb=>?_⟩,k⟩
 ·obtain⟨o,e⟩:=F.live b hb;exact x.stay e (F.nabs b hb)
 ·obtain⟨o,e⟩:=F.live b hb
  have e':=k b hb o e
  obtain⟨n,q,z⟩:=ht
  obtain rfl:=sinj e' q
  exact F.notup b hb items ⟨n,e,z⟩
 ·obtain⟨o,e⟩:=F.live b hb;exact⟨o,k b hb o e⟩
end
inductive AIR(B:Aaj)(tg:Expr→Prop)(σ:AH)(s:Shared)(Q:List AV→List (Addr×AO)→AH→Prop)(itv:Value)(s':Shared):Prop
 | mk (it:Addr) (fp:List Addr) (src:List (Addr×AO)) (Z:List AV→Heap→Prop) (xs:List AV) (σ':AH) (q:Q xs src σ') (e:itv=.ref it) (hit:Iter B it fp tg src Z) (hZ:Z xs s'.heap) (hs:Sat src σ') (F:FpOk B fp σ' s'.heap)
  (h0:∀ b∈fp,s.heap.get? b=none) (x:Ext B noX σ s σ' s')
noncomputable def AI(B:Aaj)(d:Nat)(env:Env)(vars:Vars)(iter:Expr)(tg:Expr→Prop)(σ:AH)(Q:List AV→List (Addr×AO)→AH→Prop):Prop:=
 ∀ A s,Room A d→St B σ s→EnvR B σ s.heap env vars →
  wpAny (model B.prog B.w) A (eval iter env) (fun x s₁=>wpAny (model B.prog B.w) A (pyIter x) (AIR B tg σ s Q) (fun jj jj=>False) s₁) (fun jj jj=>False) s
section
variable{B:Aaj}{d:Nat}{env:Env}{vars:Vars}{σ:AH}{pos:Pos}
theorem AcH{h:Heap}(R:EnvR B σ h env vars){b:Addr}(hb:Abz env b):∃ o,h.get? b=some o:=by
 rcases hb with rfl | ⟨x,hx⟩
 ·obtain⟨m,⟨o,_,_,e,_⟩,_⟩:=R.ns;exact⟨o,e⟩
 ·obtain⟨_,_,_,_,o,e,_⟩:=R.cells x b hx;exact⟨o,e⟩
noncomputable abbrev TrnQ(src:List (Addr×AO))(I:List AV→Vars→AH→Prop)(Q:AFl→Vars→AH→Prop)(xs:List AV)(f:AFl)(vars:Vars)(σ:AH):Prop:=match f with
 | .next | .cont=>Sat src σ∧I xs vars σ
 | .brk=>Q .next vars σ
 | .ret a=>Q (.ret a) vars σ
noncomputable abbrev NxtQ(src:List (Addr×AO))(I:List AV→Vars→AH→Prop)(xs:List AV)(f:AFl)(vars:Vars)(σ:AH):Prop:=match f with
 | .next | .cont=>Sat src σ∧I xs vars σ
 | _=>False
noncomputable abbrev BodK(B:Aaj)(d:Nat)(env:Env)(body:List Stmt)(Q:AFl→Vars→AH→Prop)(vars:Vars)(σ:AH):Prop:=AX B d env vars (execs body env) σ Q
noncomputable def Turns(B:Aaj)(d:Nat)(env:Env)(target:Expr)(body:List Stmt)(src:List (Addr×AO))(I:List AV→Vars→AH→Prop)(Q:AFl→Vars→AH→Prop):Prop:=
 ∀ x xs vars σ,Sat src σ→I (x::xs) vars σ→AA B d env vars (assign target env) x σ (BodK B d env body (TrnQ src I Q xs))
inductive ForR(B:Aaj)(d:Nat)(env:Env)(vars:Vars)(target:Expr)(body:List Stmt)(Q:AFl→Vars→AH→Prop)(xs:List AV)(src:List (Addr×AO))(σ₁:AH):Prop
 | mk (I:List AV→Vars→AH→Prop) (hI:I xs vars σ₁) (t:Turns B d env target body src I Q) (f:∀ vars σ,Sat src σ→I [] vars σ→Q .next vars σ)
inductive ForJ(B:Aaj)(env:Env)(I:List AV→Vars→AH→Prop)(fp:List Addr)(src:List (Addr×AO))(Z:List AV→Heap→Prop)(σ:AH)(s:Shared)(n:Nat)(s':Shared):Prop
 | mk (xs:List AV) (vars₁:Vars) (σ₁:AH) (hn:xs.length=n) (hI:I xs vars₁ σ₁) (hZ:Z xs s'.heap) (hs:Sat src σ₁) (F:FpOk B fp σ₁ s'.heap) (R:EnvR B σ₁ s'.heap env vars₁) (x:Ext B (Abz env) σ s σ₁ s')
theorem x_for{target iter:Expr}{body:List Stmt}{Q:AFl→Vars→AH→Prop}
  (hs:AdW iter=true) (h:AI B d env vars iter (·=target) σ (ForR B d env vars target body Q)):AX B d env vars (exec (.For target iter body [] pos) env) σ Q:=by
 intro A s r S R
 refine wpAny_For (wpAny_mono (h A s r S R) (fun x s₁ h₁=>wpAny_mono h₁ (fun itv s₂ h₂=>?_) fun jj jj f=>f.elim) fun jj jj f=>f.elim) ((Aba hs).set env)
 obtain⟨it,fp,src,Z,xs,σ',⟨I,hI,turn,fin⟩,rfl,hit,hZ,hsat,F,h0,x⟩:=h₂
 have hX:∀ b∈fp,¬ Abz env b:=fun b hb q=>by obtain⟨o,e⟩:=AcH R q;exact nosn e (h0 b hb)
 refine codeAny_forLoop_any (ForJ B env I fp src Z σ s) ?_ xs.length
  ⟨xs,vars,σ',rfl,hI,hZ,hsat,F,R.go x,x.weaken fun jj f=>f.elim⟩
 rintro n s' ⟨xs,vars₁,σ₁,rfl,hI,hZ,hsat,F,R₁,y⟩
 cases xs with
 | nil=>
  refine wpAny_mono (hit.done (P:=fun r s₁=>r=none∧WR B (Abz env) σ s (XR B env) (fun b σ'=>Q b.1 b.2 σ') .next s₁) r y.st hsat F hZ fun h' tk k=>⟨rfl,(.next,vars₁),σ₁,fin _ _ hsat hI,⟨rfl,R₁.kept (F.tup k) (fun b hb jj o e=>k b o (fun q=>hX b q hb) e) fun jj jj jj jj z=>z⟩,Ext.finish S y h0 F k⟩) (fun r s₁ hr=>?_) fun jj jj f=>f.elim
  obtain⟨rfl,hr⟩:=hr
  exact wpAny_execs_nil hr
 | cons a xs=>
  refine wpAny_mono (hit.item (tgt:=target) rfl r y.st hsat F hZ) (fun rr s₁ hr=>?_) fun jj jj f=>f.elim
  obtain⟨v,rfl,hr⟩:=hr
  refine wpAny_mono hr (fun jj s₂ h₂=>?_) fun jj jj f=>f.elim
  obtain⟨hv,hZ₂,z,F₂⟩:=h₂
  have R₂:EnvR B σ₁ s₂.heap env vars₁:=R₁.ext z fun b hb q=>hX b q hb
  refine(turn a xs vars₁ σ₁ hsat hI A s₂ v r z.st R₂ hv).wp fun jj s₃ vars₂ σ₂ q₂ R₃ u=>?_
  have u0:=(F₂.ext u fun b hb q=>hX b hb q)
  refine(q₂ A s₃ r u.st R₃).wp fun f s₄ b σ₃ q₃ rf w=>?_
  have w0:=(u0.1.ext w fun b hb q=>hX b hb q)
  have hZ₄:Z xs s₄.heap:=hit.frame _ _ _ (hit.frame _ _ _ hZ₂ u0.2 u.tup) w0.2 w.tup
  have yz:Ext B (Abz env) σ s σ₃ s₄:=((((y.weaken (Y:=fun b=>Abz env b∨b∈fp) fun b hb=>.inl hb).trans (z.weaken fun b hb=>.inr hb)).trans (u.weaken fun b hb=>.inl hb)).trans (w.weaken fun b hb=>.inl hb)).narrow fun b hb=>hb.imp id (h0 b)
  obtain⟨af,vars₃⟩:=b
  obtain⟨hf,R₄⟩:=rf
  cases af with
  | next=>obtain rfl:f=.next:=hf;exact⟨xs.length,Nat.lt_succ_self _,xs,vars₃,σ₃,rfl,q₃.2,hZ₄,q₃.1,w0.1,R₄,yz⟩
  | cont=>obtain rfl:f=.cont:=hf;exact⟨xs.length,Nat.lt_succ_self _,xs,vars₃,σ₃,rfl,q₃.2,hZ₄,q₃.1,w0.1,R₄,yz⟩
  | brk=>obtain rfl:f=.brk:=hf;exact⟨(.next,vars₃),σ₃,q₃,⟨rfl,R₄⟩,yz⟩
  | ret a=>obtain⟨v,rfl,hv⟩:=hf;exact⟨(.ret a,vars₃),σ₃,q₃,⟨⟨v,rfl,hv⟩,R₄⟩,yz⟩
inductive ForN(B:Aaj)(d:Nat)(env:Env)(vars:Vars)(target:Expr)(body:List Stmt)(Q:Vars→AH→Prop)(xs:List AV)(src:List (Addr×AO))(σ₁:AH):Prop
 | mk (I:List AV→Vars→AH→Prop) (hI:I xs vars σ₁) (t:∀ x xs vars σ,Sat src σ→I (x::xs) vars σ→AA B d env vars (assign target env) x σ (BodK B d env body (NxtQ src I xs))) (f:∀ vars σ,Sat src σ→I [] vars σ→Q vars σ)
theorem Abc{target iter:Expr}{body:List Stmt}{Q:AFl→Vars→AH→Prop}(hs:AdW iter=true)(h:AI B d env vars iter (·=target) σ (ForN B d env vars target body (Q .next))):AX B d env vars (exec (.For target iter body [] pos) env) σ Q:=by
 refine x_for hs (fun A s r S R=>wpAny_mono (h A s r S R) (fun x s₁ h₁=>wpAny_mono h₁ (fun itv s₂ h₂=>?_) fun jj jj f=>f) fun jj jj f=>f)
 obtain⟨it,fp,src,Z,xs,σ',⟨I,hI,t,f⟩,e,hit,hZ,hsat,F,h0,x⟩:=h₂
 refine⟨it,fp,src,Z,xs,σ',⟨I,hI,fun y ys v σ hs hi A s w r S R hv=>(t y ys v σ hs hi A s w r S R hv).mono fun v₂ σ₂ h=>h.mono fun fl v₃ σ₃ q=>?_,f⟩,e,hit,hZ,hsat,F,h0,x⟩
 cases fl with
 | next=>exact q
 | cont=>exact q
 | brk=>exact q.elim
 | ret a=>exact q.elim
end
end Pq
namespace Pq
variable[Own]
noncomputable def goesOwn:List String:=["enumerate","zip","dict_itemiterator","dict_reverseitemiterator","odict_iterator","itertools.zip_longest","itertools.pairwise"]
omit [Own] in
theorem lotg{prog:Program}{w:World}{A:Around}{E:Value→Shared→Prop}{s:Shared}{target:Expr}{I:Addr}{v:Value}{P:Unit→Shared→Prop}{o:Obj}{T:String}{vs:Array Value}(ho:s.heap.get? I=some o)(hc:o.cls=.type T)(hd:o.data=.fields vs)
    (hn:goesOwn.contains T=false) (h:P () s):wpAny (model prog w) A (letOwnedTupleGo target (.ref I) v) P E s:=by
  unfold letOwnedTupleGo
  cases target<;>first
    | exact wpAny_pure h
    | (cases v<;>first
        | exact wpAny_pure h
        | (refine wpAny_bind (wpAny_load ho ?_)
           rw[hc,hd]
           dsimp only
           rw[show(["enumerate","zip","dict_itemiterator","dict_reverseitemiterator","odict_iterator","itertools.zip_longest","itertools.pairwise"].contains T)=false from hn,Bool.false_and,if_neg Bool.false_ne_true]
           exact wpAny_pure h))
section
variable{B:Aaj}{d:Nat}{env:Env}{vars:Vars}{σ:AH}{pos:Pos}{A:Around}{s:Shared}{fp:List Addr}
theorem AeL{σ:AH}{it:Addr}{h':Heap}{tk:Nat}(S:St B σ s)(F:FpOk B fp σ s.heap)(hm:it∈fp)(hs:Heap.SameBut it s.heap h')(hl:∃ o,h'.get? it=some o∧o.cls≠.type "tuple"):
  Ext B (·∈fp) σ s σ { s with heap:=h',toks:=tk }∧FpOk B fp σ h':=by
 obtain⟨o,e,hc⟩:=hl
 refine⟨Ext.own S (F.notup it hm) (F.nabs it hm) (F.base it hm) hs.extBut ⟨o,e⟩ hm,F.nabs,F.base,fun b hb items ht=>?_,fun b hb=>?_⟩
 ·by_cases q:b=it
  ·subst q;exact AaJ e hc items ht
  ·obtain⟨n,e',z⟩:=ht
   rw[hs.2 b q] at e'
   exact F.notup b hb items ⟨n,e',z⟩
 ·by_cases q:b=it
  ·exact⟨o,q▸e⟩
  ·obtain⟨o',e'⟩:=F.live b hb
   exact⟨o',(hs.2 b q).trans e'⟩
inductive LstZ(it a:Addr)(l:List AV)(xs:List AV)(h:Heap):Prop
 | mk (i:Nat) (g:h.IsListIter it a i) (e:xs=l.drop i)
theorem AfZ{it a:Addr}{l:List AV}(hne:a≠it):Iter B it [it] (fun jj=>True) [(a,.list l)] (LstZ it a l) where
 frame:=by rintro xs h h' ⟨i,⟨o,ho,r⟩,e⟩ k _;exact⟨i,⟨o,k it (.head _) o ho,r⟩,e⟩
 self:=by
  rintro _ _ _ _ ⟨_,hi,_⟩ hp
  exact wpAny_pyIter_listiter hi hp
 item:=by
  rintro A d σ s x xs tgt - r S hsat F ⟨i,hi,e⟩
  obtain⟨items,n,hL,rt⟩:=(S.objs a _ (hsat _ (.head _))).listL
  have hx:l[i]?=some x:=by rw[← List.head?_drop,← e];rfl
  have hxs:xs=l.drop (i+1):=by rw[← List.tail_drop,← e];rfl
  obtain⟨v,ev,hv⟩:=(Aao.mp rt).get hx
  refine wpAny_pyNext_list_item hi hL.isList (by rw[← Array.getElem?_toList];exact ev) fun h' hi' hs=>⟨v,rfl,?_⟩
  obtain⟨o,ho,hc,hd⟩:=id hi'
  refine lotg ho hc hd (by decide) ?_
  have y:=AeL (tk:=s.toks) S F (.head _) hs ⟨o,ho,by rw[hc];simp⟩
  exact⟨hv.mono y.1.tup,⟨i+1,hi',hxs⟩,y.1,y.2⟩
 done:=by
  rintro A d σ s P r S hsat F ⟨i,hi,e⟩ k
  obtain⟨items,n,hL,rt⟩:=(S.objs a _ (hsat _ (.head _))).listL
  have hlen:l.length≤i:=List.drop_eq_nil_iff.mp e.symm
  exact wpAny_pyNext_list_end r.handled hi hL.isList (by rw[Array.getElem?_eq_none];rw[← VRs.size rt];exact hlen) fun h' hx=>k h' s.toks fun b o hb e=>hx b o (fun q=>hb (by simp[q])) e
inductive TplZ(it t:Addr)(l:List AV)(items:Array Value)(xs:List AV)(h:Heap):Prop
 | mk (i:Nat) (g:h.IsTupleIter it t i) (p:PT h t items) (r:VRs h l items.toList) (q:xs=l.drop i)
theorem Ahn{it t:Addr}{l:List AV}{items:Array Value}:Iter B it [it] (fun jj=>True) [] (TplZ it t l items) where
 frame:=by rintro xs h h' ⟨i,⟨o,ho,r⟩,ht,hr,e⟩ k T;exact⟨i,⟨o,k it (.head _) o ho,r⟩,T _ _ ht,hr.mono T,e⟩
 self:=by
  rintro _ _ _ _ ⟨_,hi,_,_,_⟩ hp
  exact wpAny_pyIter_tupleiter hi hp
 item:=by
  rintro A d σ s x xs tgt - r S hsat F ⟨i,hi,ht,rt,e⟩
  have hx:l[i]?=some x:=by rw[← List.head?_drop,← e];rfl
  have hxs:xs=l.drop (i+1):=by rw[← List.tail_drop,← e];rfl
  obtain⟨v,ev,hv⟩:=(Aao.mp rt).get hx
  refine wpAny_pyNext_tuple_item hi ht.isTuple (by rw[← Array.getElem?_toList];exact ev) fun h' hi' hs=>⟨v,rfl,?_⟩
  obtain⟨o,ho,hc,hd⟩:=id hi'
  refine lotg ho hc hd (by decide) ?_
  have y:=AeL (tk:=s.toks) S F (.head _) hs ⟨o,ho,by rw[hc];simp⟩
  exact⟨hv.mono y.1.tup,⟨i+1,hi',y.1.tup _ _ ht,rt.mono y.1.tup,hxs⟩,y.1,y.2⟩
 done:=by
  rintro A d σ s P r S hsat F ⟨i,hi,ht,rt,e⟩ k
  have hlen:l.length≤i:=List.drop_eq_nil_iff.mp e.symm
  exact wpAny_pyNext_tuple_end r.handled hi ht.isTuple (by rw[Array.getElem?_eq_none];rw[← VRs.size rt];exact hlen) fun h' hx=>k h' s.toks fun b o hb e=>hx b o (fun q=>hb (by simp[q])) e
noncomputable def AcW(a:Int)(n:Nat):List AV:=(List.range n).map fun (k:Nat)=>.int (a+(k:Int))
omit [Own] in
theorem AbS(a:Int)(n:Nat):AcW a (n+1)=.int a::AcW (a+1) n:=by
 unfold AcW
 rw[List.range_succ_eq_map,List.map_cons,List.map_map]
 simp only[List.cons.injEq]
 refine⟨by simp,List.map_congr_left fun k jj=>?_⟩
 simp only[Function.comp,AV.int.injEq]
 rw[Int.natCast_succ,Int.add_assoc,Int.add_comm 1]
inductive RngZ(it:Addr)(xs:List AV)(h:Heap):Prop
 | mk (a:Int) (n:Nat) (g:IsRangeIter h it a n 1) (e:xs=AcW a n)
theorem iter_range{it:Addr}:Iter B it [it] (fun jj=>True) [] (RngZ it) where
 frame:=by rintro xs h h' ⟨a,n,ho,e⟩ k T;exact⟨a,n,k it (.head _) _ ho,e⟩
 self:=by
  rintro _ _ _ _ ⟨_,_,hi,_⟩ hp
  exact wpAny_pyIter_rangeiter hi hp
 item:=by
  rintro A d σ s x xs tgt - r S hsat F ⟨a,n,hi,e⟩
  cases n with
  | zero=>exact nol e
  | succ n=>
   rw[AbS] at e
   cases e
   refine wpAny_pyNext_range_item hi (Int.natCast_pos.mpr (Nat.succ_pos _)) fun h' hi' hs=>⟨_,rfl,?_⟩
   refine lotg hi' rfl rfl (by decide) ?_
   have y:=AeL (tk:=s.toks+1) S F (.head _) hs ⟨_,hi',by simp⟩
   refine⟨⟨_,rfl⟩,⟨a+1,n,?_,rfl⟩,y.1,y.2⟩
   have e:((n+1:Nat):Int) - 1=(n:Int):=by lia
   rw[e] at hi';exact hi'
 done:=by
  rintro A d σ s P r S hsat F ⟨a,n,hi,e⟩ k
  cases n with
  | succ n=>rw[AbS] at e;cases e
  | zero=>exact wpAny_pyNext_range_end r.handled hi (by exact Int.natCast_nonneg _) fun h' hx=>k h' s.toks fun b o hb e=>hx b o (fun q=>hb (by simp[q])) e
theorem AeM{it:Addr}(S:St B σ s){h':Heap}{o:Obj}(hg:s.heap.get? it=none)(e:h'.get? it=some o)(hc:o.cls≠.type "tuple"):FpOk B [it] σ h':=by
 refine⟨fun b hb=>?_,fun b hb=>?_,fun b hb=>?_,fun b hb=>?_⟩<;>rw[List.mem_singleton.mp hb]
 ·exact S.none_of hg
 ·cases q:B.h₀.get? it with
  | none=>rfl
  | some o=>exact nosn (S.base it o q) hg
 ·exact AaJ e hc
 ·exact⟨o,e⟩
theorem AaR{X:Addr→Prop}{σ':AH}{s':Shared}(x:Ext B X σ s σ' s'){b:Addr}(h:s'.heap.get? b=none):s.heap.get? b=none:=by
 cases q:s.heap.get? b with
 | none=>rfl
 | some o=>obtain⟨o',e⟩:=x.live b o q;exact nosn e h
inductive LstQ(Q:List AV→List (Addr×AO)→AH→Prop)(v:AV)(σ₁:AH):Prop
 | mk (a:Addr) (l:List AV) (e:v=.obj a) (h:σ₁ a=some (.list l)) (q:Q l [(a,.list l)] σ₁)
inductive TplQ(Q:List AV→List (Addr×AO)→AH→Prop)(v:AV)(σ₁:AH):Prop
 | mk (l:List AV) (e:v=.tup l) (q:Q l [] σ₁)
inductive RngQ(Q:List AV→List (Addr×AO)→AH→Prop)(l:List AV)(σ₂:AH):Prop
 | mk (a b:Nat) (h:l=[.int a,.int b]∨(a=0∧l=[.int b])) (ha:a≤1000) (hb:b≤1000) (q:Q (AcW a (b - a)) [] σ₂)
theorem AaC{iter:Expr}{tg:Expr→Prop}{Q:List AV→List (Addr×AO)→AH→Prop}
  (h:AE B d env vars (eval iter env) σ (LstQ Q)):AI B d env vars iter tg σ Q:=by
 intro A s r S R
 refine(h A s r S R).wp fun v s₁ av σ₁ q rv x=>?_
 obtain⟨a,l,rfl,ha,q⟩:=q
 obtain rfl:v=.ref a:=rv
 obtain⟨items,n,hL,rt⟩:=(x.st.objs a _ ha).listL
 refine wpAny_pyIter_list hL.isList ?_
 have hn:=Aan s₁.heap
 have k:∀ b o,s₁.heap.get? b=some o→(s₁.heap.push { cls:=.type "list_iterator",data:=.fields #[.ref a,.int 0 0] }).get? b=some o:=fun b o e=>Heap.get?_push_of_some _ e
 have e:(s₁.heap.push { cls:=.type "list_iterator",data:=.fields #[.ref a,.int 0 0] }).get? s₁.heap.objs.size=some { cls:=.type "list_iterator",data:=.fields #[.ref a,.int 0 0] }:=Heap.get?_push_size _ rfl
 refine⟨_,[s₁.heap.objs.size],_,_,l,σ₁,q,rfl,{ AfZ (l:=l) (fun z=>?_) with item:=fun jj=>(AfZ (l:=l) (fun z=>?_)).item trivial },⟨0,⟨_,e,rfl,rfl⟩,rfl⟩,fun p hp=>by rw[List.mem_singleton.mp hp];exact ha,AeM x.st hn e (by simp),fun b hb=>by rw[List.mem_singleton.mp hb];exact AaR x hn,x.trans (Ext.grow (t:=s₁.toks) x.st k)⟩
 ·subst z;exact nosn hL hn
 ·subst z;exact nosn hL hn
theorem AeV{iter:Expr}{tg:Expr→Prop}{Q:List AV→List (Addr×AO)→AH→Prop}
  (h:AE B d env vars (eval iter env) σ (TplQ Q)):AI B d env vars iter tg σ Q:=by
 intro A s r S R
 refine(h A s r S R).wp fun v s₁ av σ₁ q rv x=>?_
 obtain⟨l,rfl,q⟩:=q
 obtain⟨t,items,rfl,ht,rt⟩:=rv
 refine wpAny_pyIter_tuple ht.isTuple ?_
 have hn:=Aan s₁.heap
 have k:∀ b o,s₁.heap.get? b=some o→(s₁.heap.push { cls:=.type "tuple_iterator",data:=.fields #[.ref t,.int 0 0] }).get? b=some o:=fun b o e=>Heap.get?_push_of_some _ e
 have T:=TupKeep.of_keeps k
 have e:(s₁.heap.push { cls:=.type "tuple_iterator",data:=.fields #[.ref t,.int 0 0] }).get? s₁.heap.objs.size=some { cls:=.type "tuple_iterator",data:=.fields #[.ref t,.int 0 0] }:=Heap.get?_push_size _ rfl
 exact⟨_,[s₁.heap.objs.size],_,_,l,σ₁,q,rfl,{ Ahn (t:=t) (l:=l) (items:=items) with item:=fun jj=>Ahn.item trivial },⟨0,⟨_,e,rfl,rfl⟩,T _ _ ht,rt.mono T,rfl⟩,(fun p hp=>nomatch hp),AeM x.st hn e (by simp),fun b hb=>by rw[List.mem_singleton.mp hb];exact AaR x hn,x.trans (Ext.grow (t:=s₁.toks) x.st k)⟩
theorem AhA(O:BOk B){f:Str}{fp:Pos}{e:Expr}{rest:List Expr}{tg:Expr→Prop}{Q:List AV→List (Addr×AO)→AH→Prop}(hk:gOk env f (e::rest)=true)(hg:Abi B.K f=some (.type "range"))
  (h:AEs B d env vars (spliced (backTo pos (starEach (e::rest) env))) σ (RngQ Q)):AI B d env vars (.Call (.Name f fp) (e::rest) [] pos) tg σ Q:=by
 intro A s r S R
 refine Acd O r S R hk hg rfl (h.mono fun l σ₂ q₂=>?_)
 obtain⟨a,b,hl,ha,hb,q₂⟩:=q₂
 intro s₂ vs S₂ rv x
 have fin:∀ (h₁:Heap) (tk:Nat) (rr:Addr) (t u v:Tok),IsRange h₁ rr a b 1 t u v→(∀ b o,s₂.heap.get? b=some o→h₁.get? b=some o)→wpAny (model B.prog B.w) A (pyIter (.ref rr)) (AIR B tg σ s Q) (fun jj jj=>False) { s₂ with heap:=h₁,toks:=tk }:=by
  intro h₁ tk rr t u v hr k
  have x₁:Ext B noX σ s σ₂ { s₂ with heap:=h₁,toks:=tk }:=x.trans (Ext.grow S₂ k)
  refine wpAny_pyIter_range hr (small_one (by exact Int.natCast_nonneg _) (by lia) (by exact Int.natCast_nonneg _) (by lia)) ?_
  have hn:=Aan h₁
  have e:(h₁.push { cls:=.type "range_iterator",data:=.fields #[rawInt a,rawInt (Builtin.Range.rangeSize a b 1),rawInt 1] }).get? h₁.objs.size=some { cls:=.type "range_iterator",data:=.fields #[rawInt a,rawInt (Builtin.Range.rangeSize a b 1),rawInt 1] }:=Heap.get?_push_size _ rfl
  have hz:Builtin.Range.rangeSize a b 1=((b - a:Nat):Int):=by rw[rangeSize_one];split<;>lia
  refine⟨_,[h₁.objs.size],_,_,_,σ₂,q₂,rfl,{ iter_range with item:=fun jj=>iter_range.item trivial },⟨a,b - a,by rw[← hz];exact e,rfl⟩,(fun p hp=>nomatch hp),AeM x₁.st hn e (by simp),fun b hb=>by rw[List.mem_singleton.mp hb];exact AaR x₁ hn,x₁.trans (Ext.grow (t:=tk) x₁.st fun b o e=>Heap.get?_push_of_some _ e)⟩
 rcases hl with rfl | ⟨rfl,rfl⟩
 ·obtain⟨_,_,rfl,⟨t,rfl⟩,_,_,rfl,⟨u,rfl⟩,rfl⟩:=rv
  exact call_range_2 (fin _ _ _ _ _ _ (IsRange.new ..) fun b o e=>Heap.get?_push_of_some _ e)
 ·obtain⟨_,_,rfl,⟨u,rfl⟩,rfl⟩:=rv
  exact call_range_1 (fin _ _ _ _ _ _ (IsRange.new ..) fun b o e=>Heap.get?_push_of_some _ e)
end
end Pq
namespace Pq
variable[Own]
section
omit [Own]
variable{prog:Program}{w:World}{A:Around}{E:Value→Shared→Prop}{s:Shared}
theorem Aeb{it t:Addr}{i:Nat}{items:Array Value}{x:Value}{Q:Value→Shared→Prop}(hit:s.heap.IsTupleIter it t i)(ht:s.heap.IsTuple t items)(hx:items[i]?=some x)
  (hQ:∀ h',h'.IsTupleIter it t (i+1)→Heap.SameBut it s.heap h'→Q x { s with heap:=h' }):wpAny (model prog w) A (Builtin.SmallTypes.nextOf (.ref it)) Q E s:=by
 obtain⟨o,ho,hc,hd⟩:=id hit
 obtain⟨ot,hot,_,nt,hdt⟩:=ht
 unfold Builtin.SmallTypes.nextOf
 refine wpAny_bind (wpAny_callSpecial?_slot (name:=Str.ofString "__next__") hit.typeIs PySem.F.slot_tuple_iterator_next
  (wpAny_call_entry PySem.F.slot_tuple_iterator_next hit.typeIs PySem.F.entry_tuple_iterator_next ?_ (PySem.F.args_tuple_iterator_next_1 _)))
 show wpAny _ _ (field (.ref it) 0 >>= _) _ _ s
 refine wpAny_bind (wpAny_field ho hd (x:=.ref t) rfl ?_)
 refine wpAny_bind (wpAny_field ho hd (x:=.int i 0) rfl ?_)
 refine wpAny_bind (wpAny_seqItems hot hdt ?_)
 simp only[Int.toNat_natCast,hx]
 refine wpAny_bind (wpAny_setField ho hd (lnk rfl) (wpAny_pure ⟨x,rfl,wpAny_pure (hQ _ ?_ (Heap.SameBut.update ..))⟩))
 exact⟨_,Heap.get?_update_self _ ho (Obj.isFreed_of_fields (Obj.data_mapFields hd _)),(Obj.cls_mapFields ..).trans hc,by
  rw[Obj.data_mapFields hd];simp[rawInt]⟩
theorem AcQ{it t:Addr}{i:Nat}{items:Array Value}{Q:Value→Shared→Prop}(hh:A.handled=none)(hit:s.heap.IsTupleIter it t i)(ht:s.heap.IsTuple t items)(hx:items[i]?=none)
  (hE:∀ h' e,Heap.ExtBut it s.heap h'→(∃ o,h'.get? e=some o∧o.cls=.type "StopIteration")→E (.ref e) { s with heap:=h' }):wpAny (model prog w) A (Builtin.SmallTypes.nextOf (.ref it)) Q E s:=by
 obtain⟨o,ho,hc,hd⟩:=id hit
 obtain⟨ot,hot,_,nt,hdt⟩:=ht
 unfold Builtin.SmallTypes.nextOf
 refine wpAny_bind (wpAny_callSpecial?_slot (name:=Str.ofString "__next__") hit.typeIs PySem.F.slot_tuple_iterator_next
  (wpAny_call_entry PySem.F.slot_tuple_iterator_next hit.typeIs PySem.F.entry_tuple_iterator_next ?_ (PySem.F.args_tuple_iterator_next_1 _)))
 show wpAny _ _ (field (.ref it) 0 >>= _) _ _ s
 refine wpAny_bind (wpAny_field ho hd (x:=.ref t) rfl ?_)
 refine wpAny_bind (wpAny_field ho hd (x:=.int i 0) rfl ?_)
 refine wpAny_bind (wpAny_seqItems hot hdt ?_)
 simp only[Int.toNat_natCast,hx]
 refine wpAny_bind (wpAny_rule (wpAny_bind (wpAny_setField ho hd (lnk rfl) ?_)))
 refine wpAny_bind ?_
 refine wpAny_bind (wpAny_newObj_type ?_ (by size_fits))
 refine wpAny_bind (m:=firstArgMember _ _) (wpAny_of_eq (a:=Value.none) (by first | rfl | (simp only[firstArgMember];rfl)) ?_)
 refine wpAny_newObj_type ?_ (by size_fits)
 refine wpAny_bind (wpAny_handled ?_)
 first | rw[show A.in1.handled=none from hh] | rw[hh]
 refine wpAny_bind (wpAny_pure (wpAny_throw ?_))
 exact hE _ _ (((Heap.SameBut.update ..).extBut.push _).push _) ⟨_,Heap.get?_push_size _ rfl,rfl⟩
end
omit [Own] in
theorem AbL{prog:Program}{w:World}{A:Around}(hh:A.handled=none)(it t:Addr)(hne:t≠it)(items:Array Value):
  Draws prog w A it [it,t] items.size (fun i v=>items[i]?=some v) (fun i h=>h.IsTupleIter it t i∧h.IsTuple t items) where
 live:=fun jj jj st=>st.1.imp fun jj h=>h.1
 frame:=fun jj jj jj st hk=>⟨st.1.at fun o e=>hk it (.head _) o e,st.2.imp fun jj h=>⟨hk t (.tail _ (.head _)) _ h.1,h.2⟩⟩
 item:=fun i s Q E hi st hQ=>by
  refine Aeb st.1 st.2 (x:=items[i]) (by simp[hi]) fun h' hit' hs'=>?_
  exact hQ _ h' s.toks (by simp[hi]) ⟨hit',st.2.imp fun jj h=>⟨(hs'.2 t hne).trans h.1,h.2⟩⟩ hs'
 done:=fun s Q E st hE=>AcQ hh st.1 st.2 (by simp) hE
open AutoSeq1 (wpAny_loadPart') in
omit [Own] in
theorem Aev(l:Addr)(items:Array Value)(n:Nat):
  Meets (Builtin.«enumerate.__new__» ⟨[.type "enumerate",.ref l],[]⟩) (fun jj R s=>s.heap.get? l=some { cls:=.type "tuple",dict:=none,data:=.seq items n,slots:=#[] } ∧
   R (.ok (.ret (.ref (s.heap.push { cls:=.type "tuple_iterator",data:=.fields #[.ref l,.int 0 0] }).objs.size)))
    { s with heap:=(s.heap.push { cls:=.type "tuple_iterator",data:=.fields #[.ref l,.int 0 0] }).push { cls:=.type "enumerate",data:=.fields #[.none,.bool false,.ref s.heap.objs.size,rawInt 0,.none,.none] } }):=
 .of_wp fun prog w A R s h=>by
  obtain⟨hp,g,d,tk,os⟩:=s;obtain⟨hl,h⟩:=h
  have hsub:=sub_enumerate
  have hL:Heap.IsTuple (Shared.heap ⟨hp,g,d,tk,os⟩) l items:=⟨_,hl,rfl,n,rfl⟩
  wp_walk using wpAny_loadPart' hl
  refine wpAny_stack_any fun st=>wpAny_pure ?_
  generalize Builtin.SmallTypes.calledThroughType.match_1 (fun jj=>Bool) (List.drop 1 st) (fun c jj jj jj jj=>c==Value.type "enumerate") (fun jj=>false)=short
  cases short
  ·wp_walk using wpAny_loadPart' hl,wpAny_pyIter_tuple hL
   exact⟨_,rfl,h⟩
  ·wp_walk using wpAny_loadPart' hl,wpAny_pyIter_tuple hL
   exact⟨_,rfl,h⟩
section
variable{B:Aaj}{d:Nat}{env:Env}{vars:Vars}{σ:AH}{pos:Pos}{A:Around}{s:Shared}{fp:List Addr}
noncomputable def Af7(i:Nat)(l:List AV):List AV:=List.rec (fun jj=>[]) (fun x jj go i=>.tup [.int i,x]::go (i+1)) l i
omit [Own] in
theorem enumAV_c(i:Nat)(x:AV)(l:List AV):Af7 i (x::l)=.tup [.int i,x]::Af7 (i+1) l:=rfl
inductive EnuZ(e it t:Addr)(l:List AV)(items:Array Value)(xs:List AV)(h:Heap):Prop
 | mk (i:Nat) (old:Value) (he:IsEnum h e it (i:Nat) old) (g:h.IsTupleIter it t i) (p:PT h t items) (r:VRs h l items.toList) (q:xs=Af7 i (l.drop i))
theorem AiO{e it t:Addr}{l:List AV}{items:Array Value}(hei:e≠it)(het:t≠e)(hit:t≠it):Iter B e [e,it] (fun tg=>∃ elts k p,tg=.Tuple elts k p) []
  (EnuZ e it t l items) where
 frame:=by
  rintro xs h h' ⟨i,old,he,⟨o,ho,r⟩,ht,hr,e⟩ k T
  exact⟨i,old,k _ (.head _) _ he,⟨o,k it (.tail _ (.head _)) o ho,r⟩,T _ _ ht,hr.mono T,e⟩
 self:=by
  rintro _ _ _ _ ⟨_,_,he,_,_,_,_⟩ hp
  exact wpAny_pyIter_enum he hp
 item:=by
  rintro A d σ s x xs _ ⟨elts,kk,p,rfl⟩ r S hsat F ⟨i,old,he,hi,ht,rt,e1⟩
  cases hdr:l.drop i with
  | nil=>rw[hdr] at e1;cases e1
  | cons y rest=>
   rw[hdr,enumAV_c] at e1
   cases e1
   have hx:l[i]?=some y:=by rw[← List.head?_drop,hdr];rfl
   have hxs:rest=l.drop (i+1):=by rw[← List.tail_drop,hdr];rfl
   obtain⟨v,ev,hv⟩:=(Aao.mp rt).get hx
   have ev':items[i]?=some v:=by rw[← Array.getElem?_toList];exact ev
   have hlt:i<items.size:=(Array.getElem?_eq_some_iff.mp ev').1
   have D:=AbL (prog:=B.prog) (w:=B.w) (A:=A.in1) r.handled it t hit items
   refine wpAny_pyNext_enum_itemD D he ⟨hi,ht.isTuple⟩ hlt hei (by simp;exact⟨hei,Ne.symm het⟩) fun u h' tk hP ho hs' hT hsz hk=>⟨_,rfl,?_⟩
   rw[ev'] at hP;cases hP
   refine wpAny_letOwnedTupleGo_enum ho fun h₂ he₂ hs₂=>?_
   have helt:e<s.heap.objs.size:=Heap.lt_size he
   have k2:∀ b o,b≠e→b≠it→s.heap.get? b=some o→h₂.get? b=some o:=fun b o h1 h2 q=>(hs₂.2 b h1).trans (hk b o h1 h2 q)
   have hi₂:h₂.IsTupleIter it t (i+1):=by
    obtain⟨o,q,rr⟩:=hs'.1
    exact⟨o,(hs₂.2 it (Ne.symm hei)).trans q,rr⟩
   have hpt:PT h₂ s.heap.objs.size #[.int i tk,v]:=⟨_,(hs₂.2 _ (Nat.ne_of_gt helt)).trans hT,S.nbs⟩
   have hx:=Ext.fp (tk:=tk+1) S F (fun b o hb=>k2 b o (fun c=>hb (c▸.head _)) fun c=>hb (c▸.tail _ (.head _))) (AaX (Ahb he₂ (by simp)) (AaX (AiB hi₂) Ahy))
   have T:=hx.1.tup
   exact⟨⟨_,_,rfl,hpt,⟨_,_,rfl,⟨_,rfl⟩,⟨_,_,rfl,hv.mono T,rfl⟩⟩⟩,⟨i+1,v,by simpa using he₂,hi₂,T _ _ ht,rt.mono T,by rw[hxs]⟩,hx.1,hx.2⟩
 done:=by
  rintro A d σ s P r S hsat F ⟨i,old,he,hi,ht,rt,e1⟩ k
  have hnil:l.drop i=[]:=by
   cases hdr:l.drop i with
   | nil=>rfl
   | cons y rest=>rw[hdr] at e1;cases e1
  have hlen:items.size≤i:=by rw[← VRs.size rt];exact List.drop_eq_nil_iff.mp hnil
  have hT:s.TypeIs (.ref e) "enumerate":=⟨_,he,rfl⟩
  unfold pyNext
  refine wpAny_bind (wpAny_attempt (wpAny_callSpecial?_slot (name:=Str.ofString "__next__") hT PySem.F.slot_enumerate_next
   (wpAny_call_entry PySem.F.slot_enumerate_next hT PySem.F.entry_enumerate_next ?_ (PySem.F.args_enumerate_next_1 _))))
  show wpAny _ _ (field (.ref e) 2 >>= _) _ _ _
  refine wpAny_bind (wpAny_field he rfl (x:=.ref it) rfl ?_)
  refine wpAny_bind (AcQ r.handled hi ht.isTuple (by rw[Array.getElem?_eq_none];exact hlen) fun h' x he' hx'=>?_)
  obtain⟨o,ho,hc⟩:=hx'
  refine wpAny_bind (wpAny_isInstance (T:="StopIteration") (b:=true) ⟨o,ho,hc⟩ isSubtype_stop ?_)
  exact wpAny_pure (k h' s.toks fun b o hb q=>he' b o (fun c=>hb (by simp[c])) q)
theorem ai_enum(O:BOk B){f:Str}{fp:Pos}{e:Expr}{tg:Expr→Prop}{Q:List AV→List (Addr×AO)→AH→Prop}(he:AdW e=true)(hk:gOk env f [e]=true)(hg:Abi B.K f=some (.type "enumerate"))
  (h:AE B d env vars (eval e env) σ (TplQ fun l=>Q (Af7 0 l)))
  (htg:∀ t,tg t→∃ elts k p,t=.Tuple elts k p):AI B d env vars (.Call (.Name f fp) [e] [] pos) tg σ Q:=by
 intro A s r S R
 refine Acd O r S R hk hg rfl (Aab he (h.mono fun v σ₂ q₂=>Aaf (show ∀ s₂ vs,St B σ₂ s₂→VRs s₂.heap [v] vs→Ext B noX σ s σ₂ s₂→_ from ?_)))
 obtain⟨l,rfl,q₂⟩:=q₂
 rintro s₂ _ S₂ ⟨_,_,rfl,⟨t,items,rfl,ht,rt⟩,rfl⟩ x
 obtain⟨n,ho,hz⟩:=id ht
 have hlt:=Heap.lt_size ho
 refine callType_new PySem.F.called_enumerate (by decide) (PySem.F.typeCall_enumerate_1 _) (PySem.F.newCall_enumerate_1 _) (fun obj=>PySem.F.args_object_init_2 obj _) PySem.F.entry_enumerate_new
  (Aev t items n) ⟨ho,?_⟩
 have hz1:(s₂.heap.push { cls:=.type "tuple_iterator",data:=.fields #[.ref t,.int 0 0] }).objs.size=s₂.heap.objs.size+1:=Heap.size_push ..
 rw[hz1]
 have he:IsEnum ((s₂.heap.push { cls:=.type "tuple_iterator",data:=.fields #[.ref t,.int 0 0] }).push
   { cls:=.type "enumerate",data:=.fields #[.none,.bool false,.ref s₂.heap.objs.size,rawInt 0,.none,.none] }) (s₂.heap.objs.size+1) s₂.heap.objs.size 0 .none:=by
  have:=Heap.get?_push_size (s₂.heap.push { cls:=.type "tuple_iterator",data:=.fields #[.ref t,.int 0 0] })
   (o:={ cls:=.type "enumerate",data:=.fields #[.none,.bool false,.ref s₂.heap.objs.size,rawInt 0,.none,.none] }) rfl
  rw[hz1] at this;exact this
 refine⟨⟨_,he,rfl⟩,wpAny_pyIter_enum he ?_⟩
 have k:∀ b o,s₂.heap.get? b=some o→((s₂.heap.push { cls:=.type "tuple_iterator",data:=.fields #[.ref t,.int 0 0] }).push { cls:=.type "enumerate",data:=.fields #[.none,.bool false,.ref s₂.heap.objs.size,rawInt 0,.none,.none] }).get? b=some o:=
  fun b o e=>Heap.get?_push_of_some _ (Heap.get?_push_of_some _ e)
 have hi:((s₂.heap.push { cls:=.type "tuple_iterator",data:=.fields #[.ref t,.int 0 0] }).push { cls:=.type "enumerate",data:=.fields #[.none,.bool false,.ref s₂.heap.objs.size,rawInt 0,.none,.none] }).get? s₂.heap.objs.size=some { cls:=.type "tuple_iterator",data:=.fields #[.ref t,.int 0 0] }:=
  Heap.get?_push_of_some _ (Heap.get?_push_size _ rfl)
 have T:=TupKeep.of_keeps k
 have n1:=Aan s₂.heap
 have n2:s₂.heap.get? (s₂.heap.objs.size+1)=none:=Heap.get?_none_of_le (Nat.le_succ _)
 have g:Ext B noX σ₂ s₂ σ₂ { s₂ with heap:=(s₂.heap.push { cls:=.type "tuple_iterator",data:=.fields #[.ref t,.int 0 0] }).push { cls:=.type "enumerate",data:=.fields #[.none,.bool false,.ref s₂.heap.objs.size,rawInt 0,.none,.none] } }:=Ext.grow (t:=s₂.toks) S₂ k
 have I:=AiO (B:=B) (e:=s₂.heap.objs.size+1) (it:=s₂.heap.objs.size) (t:=t) (l:=l) (items:=items) (Nat.succ_ne_self _) (Nat.ne_of_lt (Nat.lt_succ_of_lt hlt)) (Nat.ne_of_lt hlt)
 refine⟨_,[s₂.heap.objs.size+1,s₂.heap.objs.size],_,_,_,σ₂,q₂,rfl,{ I with item:=fun ht=>I.item (htg _ ht) },⟨0,.none,he,⟨_,hi,rfl,rfl⟩,T _ _ ht,rt.mono T,rfl⟩,(fun p hp=>nomatch hp),⟨fun b hb=>?_,fun b hb=>?_,fun b hb its=>?_,fun b hb=>?_⟩,fun b hb=>?_,x.trans g⟩
 all_goals
  simp only[List.mem_cons,List.not_mem_nil,or_false] at hb
 ·rcases hb with rfl | rfl
  ·exact S₂.none_of n2
  ·exact S₂.none_of n1
 ·rcases hb with rfl | rfl
  ·cases q:B.h₀.get? (s₂.heap.objs.size+1) with
   | none=>rfl
   | some o=>rw[S₂.base _ o q] at n2;cases n2
  ·cases q:B.h₀.get? s₂.heap.objs.size with
   | none=>rfl
   | some o=>rw[S₂.base _ o q] at n1;cases n1
 ·rcases hb with rfl | rfl
  ·exact AaJ he (by simp) its
  ·exact AaJ hi (by simp) its
 ·rcases hb with rfl | rfl
  ·exact⟨_,he⟩
  ·exact⟨_,hi⟩
 ·rcases hb with rfl | rfl
  ·exact AaR x n2
  ·exact AaR x n1
end
end Pq
namespace Pq
variable[Own]
structure LR(B:Aaj)(env:Env)(vars:Vars)(σ':AH)(s':Shared)(b:Vars)(u:Unit):Prop where
 R:EnvR B σ' s'.heap env b
 k:∀ y,env.kindOf y≠some .local→b y=vars y
noncomputable def AL(B:Aaj)(d:Nat)(env:Env)(vars:Vars)(t:Value→Sem Unit)(a:AV)(σ:AH)(Q:Vars→AH→Prop):Prop:=
 ∀ A s v,Room A d→St B σ s→EnvR B σ s.heap env vars→VR s.heap a v →
  W B A (·=env.locals) σ s (LR B env vars) (t v) Q
noncomputable def ALs(B:Aaj)(d:Nat)(env:Env)(vars:Vars)(ts:List (Value→Sem Unit))(as:List AV)(σ:AH)(Q:Vars→AH→Prop):Prop:=
 ∀ A s vs,Room A d→St B σ s→EnvR B σ s.heap env vars→VRs s.heap as vs →
  W B A (·=env.locals) σ s (LR B env vars) (assignInOrder ts vs) Q
section
variable{B:Aaj}{d:Nat}{env:Env}{vars:Vars}{σ:AH}{pos:Pos}{Q:Vars→AH→Prop}
theorem AaY{x:Str}{a:AV}(hk:env.kindOf x=some .local)(q:Q (Abl vars x a) σ):AL B d env vars (assign (.Name x pos) env) a σ Q:=by
 intro A s v r S R rv
 refine wpAny_assign_Name ?_
 obtain⟨m,hm,hv⟩:=R.ns
 refine wpAny_storeName_local hk hm (fun h' hn hs=>?_) (by rw[R.kind];rfl)
 have T:=TupKeep.of_ext (AcI hm) hs.extBut
 obtain⟨oL,_,_,hL,_⟩:=id hn
 refine⟨Abl vars x a,σ,q,⟨⟨R.kind,R.globals,R.builtins,⟨_,hn,fun y hy=>?_⟩,R.loc,fun y hy=>?_,fun y c hc=>?_,R.apart⟩,fun y hy=>?_⟩,Ext.own S (AcI hm) R.loc.1 R.loc.2 hs.extBut ⟨oL,hL⟩ rfl⟩
 ·unfold Abl
  by_cases e:y=x
  ·simp only[e,if_true];exact OptW.some (rv.mono T)
  ·simp only[e,if_false];exact(hv y hy).mono fun jj jj z=>z.mono T
 ·obtain⟨c,w,h1,h2,h3⟩:=R.cell y hy
  refine⟨c,w,h1,h2.sameBut hs (R.cells y c (mem_of_lookup h1)).3,?_⟩
  have:y≠x:=fun e=>by rw[e,hk] at hy;cases hy
  unfold Abl
  simp only[this,if_false]
  exact h3.mono fun jj jj z=>z.mono T
 ·obtain⟨h1,h2,h3,w,h4⟩:=R.cells y c hc
  exact⟨h1,h2,h3,w,h4.sameBut hs h3⟩
 ·have:y≠x:=fun e=>hy (by rw[e];exact hk)
  unfold Abl
  simp only[this,if_false]
noncomputable abbrev AlsK(B:Aaj)(d:Nat)(env:Env)(ts:List (Value→Sem Unit))(as:List AV)(Q:Vars→AH→Prop)(vars:Vars)(σ:AH):Prop:=ALs B d env vars ts as σ Q
theorem Ajj(q:Q vars σ):ALs B d env vars [] [] σ Q:=fun jj jj jj jj S R jj=>wpAny_pure ⟨vars,σ,q,⟨R,fun jj jj=>rfl⟩,.refl S⟩
theorem Adg{t:Value→Sem Unit}{ts:List (Value→Sem Unit)}{a:AV}{as:List AV}(h:AL B d env vars t a σ (AlsK B d env ts as Q)):ALs B d env vars (t::ts) (a::as) σ Q:=by
 rintro A s vs r S R ⟨v,rest,rfl,hv,hr⟩
 show wpAny _ _ (do holding rest (t v);assignInOrder ts rest) _ _ _
 exact wpAny_bind (wpAny_holding ((h A s v r S R hv).wp fun jj s₁ vars₁ σ₁ q R₁ x=>(q A s₁ rest r x.st R₁.1 (hr.mono x.tup)).wp fun jj s₂ vars₂ σ₂ q₂ R₂ y=>⟨vars₂,σ₂,q₂,⟨R₂.1,fun z hz=>(R₂.2 z hz).trans (R₁.2 z hz)⟩,x.trans y⟩))
theorem Ahz{elts:List Expr}{k:Nat}{l:List AV}(hn:(assignEach elts env).length=l.length)(hstar:(assignEach elts env).findIdx? (·.1)=none)(h:ALs B d env vars ((assignEach elts env).map (·.2)) l σ Q):AL B d env vars (assign (.Tuple elts k pos) env) (.tup l) σ Q:=by
 rintro A s v r S R ⟨a,items,rfl,ht,hr⟩
 have hlen:=VRs.length hr
 refine wpAny_assign_Tuple r.handled ht.isTuple (by rw[hn,hlen,Array.length_toList]) hstar fun h' hs=>?_
 have x:Ext B (·=env.locals) σ s σ { s with heap:=h' }:=Ado (A:=A) S hs
 have x0:Ext B noX σ s σ { s with heap:=h' }:=Ado (A:=A) S hs
 exact(h A _ items.toList r x.st (R.go x0) (hr.mono x.tup)).wp fun jj s₂ vars₂ σ₂ q₂ R₂ y=>⟨vars₂,σ₂,q₂,R₂,x.trans y⟩
theorem Ajk{x y:Str}{p p':Pos}{k:Nat}{a b:AV}(hx:env.kindOf x=some .local)(hy:env.kindOf y=some .local)(q:Q (Abl (Abl vars x a) y b) σ):
  AL B d env vars (assign (.Tuple [.Name x p,.Name y p'] k pos) env) (.tup [a,b]) σ Q:=Ahz rfl rfl (Adg (AaY hx (Adg (AaY hy (Ajj q)))))
theorem al_n3{x y z:Str}{p p' p'':Pos}{k:Nat}{a b c:AV}(hx:env.kindOf x=some .local)(hy:env.kindOf y=some .local)(hz:env.kindOf z=some .local)(q:Q (Abl (Abl (Abl vars x a) y b) z c) σ):
  AL B d env vars (assign (.Tuple [.Name x p,.Name y p',.Name z p''] k pos) env) (.tup [a,b,c]) σ Q:=Ahz rfl rfl (Adg (AaY hx (Adg (AaY hy (Adg (AaY hz (Ajj q)))))))
end
noncomputable def Aek(cenv:Env)(vars:Vars):Vars:=fun y=>if cenv.kindOf y=some .cell then vars y else none
structure Adj(env:Env)(scope:Scope)(cl:List (Str×Addr)):Prop where
 clos:closureFor scope env=pure cl
 cells:cl.map (fun p=>env.cells.lookup p.1)=cl.map fun p=>some p.2
 nodup:(cl.map (·.1)).Nodup
 kinds:((relabel scope env).names.all fun p=>p.2 != .cell||((cl.lookup p.1).isSome&&env.kindOf p.1==some .cell))=true
 nocell:∀ y∈scope.names,y.2≠.cell
 kind:scope.kind=.function
 names:∀ y∈scope.names,y.2=.local→scope.names.lookup y.1=some .local
theorem EnvR.comp{B:Aaj}{σ:AH}{h h':Heap}{env:Env}{vars:Vars}{scope:Scope}{cl:List (Str×Addr)}{C:Addr}(R:EnvR B σ h env vars)(K:Adj env scope cl)
  (hC:h'.Ns C fun jj=>none) (hCσ:σ C=none∧B.h₀.get? C=none) (fresh:h.get? C=none) (T:TupKeep h h') (k:∀ b,Abz env b→∀ o,h.get? b=some o→h'.get? b=some o) :
  EnvR B σ h' (compEnvC scope cl C env) (Aek (compEnvC scope cl C env) vars):=by
 have mem:∀ p∈cl,env.cells.lookup p.1=some p.2:=fun p hp=>by
  have:=K.cells
  rw[List.map_inj_left] at this
  exact this p hp
 have mem':∀ x c,(x,c)∈cl→(x,c)∈env.cells:=fun x c hp=>mem_of_lookup (mem _ hp)
 refine⟨K.kind,R.globals,R.builtins,⟨_,hC,fun x hx=>?_⟩,hCσ,fun x hx=>?_,fun x c hc=>?_,?_⟩
 ·unfold Aek
  rw[if_neg (by rw[hx];simp)]
  exact OptW.none
 ·have hm:(x,NameKind.cell)∈(relabel scope env).names:=mem_of_lookup hx
  have:=List.all_eq_true.mp K.kinds _ hm
  simp only[bne_self_eq_false,Bool.false_or,Bool.and_eq_true,beq_iff_eq] at this
  obtain⟨c,hc⟩:=Option.isSome_iff_exists.mp this.1
  have hmc:=mem_of_lookup hc
  have hl:=mem _ hmc
  obtain⟨c',v,h1,⟨o,ho,hd⟩,h3⟩:=R.cell x this.2
  have:c'=c:=by
   have:=h1.symm.trans hl
   exact Option.some.inj this
  subst this
  refine⟨c',v,hc,⟨o,k c' (.inr ⟨x,mem' _ _ hmc⟩) o ho,hd⟩,?_⟩
  unfold Aek
  rw[if_pos hx]
  exact h3.mono fun jj jj z=>z.mono T
 ·obtain⟨h1,h2,h3,v,o,ho,hd⟩:=R.cells x c (mem' _ _ hc)
  refine⟨h1,h2,fun e=>?_,v,o,k c (.inr ⟨x,mem' _ _ hc⟩) o ho,hd⟩
  rw[show c=C from e] at ho;rw[fresh] at ho;cases ho
 ·skip
  have hn:=K.nodup
  rw[List.Nodup,List.pairwise_map] at hn
  refine hn.imp_of_mem fun {p q} hp hq hne e=>hne ?_
  exact name_of_addr R.apart (mem' p.1 p.2 hp) (e▸mem' q.1 q.2 hq)
noncomputable def CTests(B:Aaj)(d:Nat)(env:Env)(vars:Vars):List Expr→AH→(Bool→AH→Prop)→Prop
 | [],σ,Q=>Q true σ
 | [c],σ,Q=>AT B d env vars (isTrue c env (eval c env)) σ Q
 | _,_,_=>False
noncomputable def Agm(B:Aaj)(d:Nat)(env:Env)(vars:Vars)(scope:Scope)(cl:List (Str×Addr))(target elt:Expr)(ifs:List Expr)(src:List (Addr×AO))(I:List AV→List AV→AH→Prop):Prop:=
 ∀ C x xs ys σ,Sat src σ→I (x::xs) ys σ→AL B d (compEnvC scope cl C env) (Aek (compEnvC scope cl C env) vars) (assign target (compEnvC scope cl C env)) x σ fun vars₂ σ₂=>
  CTests B d (compEnvC scope cl C env) vars₂ ifs σ₂ fun ok σ₃=>
   if ok=true then AE B d (compEnvC scope cl C env) vars₂ (eval elt (compEnvC scope cl C env)) σ₃ fun y σ₄=>Sat src σ₄∧I xs (ys++[y]) σ₄ else Sat src σ₃∧I xs ys σ₃
theorem CTests.wp{B:Aaj}{A:Around}{d:Nat}{env:Env}{vars:Vars}{ifs:List Expr}{σ:AH}{s:Shared}{Q:Bool→AH→Prop}(h:CTests B d env vars ifs σ Q)(r:Room A d)(S:St B σ s)(R:EnvR B σ s.heap env vars):
  W B A noX σ s REq (forIn ifs true fun c r=>if r=true then do let ok ← isTrue c env (eval c env);pure (ForInStep.yield ok) else pure (ForInStep.yield r)) Q:=by
 match ifs,h with
 | [],h=>exact wpAny_tests_nil ⟨true,σ,h,rfl,.refl S⟩
 | [c],h=>exact wpAny_tests_one (h A s r S R)
section
variable{B:Aaj}{d:Nat}{env:Env}{vars:Vars}{σ σ₀:AH}{pos:Pos}{A:Around}{s s₀:Shared}{fp:List Addr}
theorem Ah9{D:Addr}{items:Array Value}{n:Nat}{y:AV}{v:Value}{ys:List AV}{P:Value→Shared→Prop}{E:Value→Shared→Prop}(S:St B σ s)(F:FpOk B fp σ s.heap)(hm:D∈fp)(hD:IsL s.heap D items n)(hr:VRs s.heap ys items.toList)(hv:VR s.heap y v)
  (hz:ys.length≤1000)
  (k:∀ h' items' n',IsL h' D items' n'→VRs h' (ys++[y]) items'.toList→Ext B (·∈fp) σ s σ { s with heap:=h' }→FpOk B fp σ h'→Heap.SameBut D s.heap h'→P .none { s with heap:=h' }):wpAny (model B.prog B.w) A (call (.builtin "list.append") [.ref D,v]) P E s:=by
 have hs:=VRs.size hr
 refine call_meets PySem.F.slot_list_append ⟨_,hD,rfl⟩ PySem.F.entry_list_append (PySem.F.args_list_append_2 _ _) (list_append D items n v (by rw[← hs];exact Aa7 hz)) ⟨hD,?_⟩
 have hsame:Heap.SameBut D s.heap (s.heap.update D (Obj.mapSeq fun x=>x.push v)):=Heap.SameBut.update ..
 have e:=IsL.update hD (fun x=>x.push v)
 have y':=AeL (tk:=s.toks) S F hm hsame ⟨_,e,by simp⟩
 exact k _ _ _ e (by rw[Array.toList_push];exact Aao.mpr ((Aao.mp (hr.mono y'.1.tup)).append (All2.cons (hv.mono y'.1.tup) All2.nil))) y'.1 y'.2 hsame
noncomputable def Ab3(p:Pos)(target:Expr)(ifs:List Expr)(it:Value)(env:Env)(inner:Sem Unit)(ag:Sem Fin):Sem Fin:=do
 standAt p
 match ← pyNext it with
 | none=>pure (.done .next)
 | some v=>
  letOwnedTupleGo target it v
  assign target env v
  let mut ok:=true
  for c in ifs do
   if ok then ok ← isTrue c env (eval c env)
  if ok then inner
  ag
theorem Agb{elt:Expr}{gens:List Comprehension}{scope:Scope}{cp:Pos}{depth:Nat}{it acc:Value}{cenv:Env}{p:Pos}{target:Expr}{ifs:List Expr}{inner:Sem Unit}{R:Result→Shared→Prop}(J:Nat→Shared→Prop)
  (hsh:compTurn (.ListComp elt gens scope cp) depth it acc cenv=Ab3 p target ifs it cenv inner (again (.compLoop (.ListComp elt gens scope cp) depth it acc cenv)))
  (turn:∀ n s,J n s→wpAny (model B.prog B.w) A (pyNext it) (fun r s₁=>match r with
   | none=>R (.ok .next) s₁
   | some v=>wpAny (model B.prog B.w) A (letOwnedTupleGo target it v) (fun jj s₁'=>wpAny (model B.prog B.w) A (assign target cenv v) (fun jj s₂=>
     wpAny (model B.prog B.w) A (forIn ifs true fun c r=>if r=true then do let ok ← isTrue c cenv (eval c cenv);pure (ForInStep.yield ok) else pure (ForInStep.yield r)) (fun ok s₃=>
      if ok=true then wpAny (model B.prog B.w) A inner (fun jj s₅=>∃ m,m<n∧J m s₅) (fun jj jj=>False) s₃
      else ∃ m,m<n∧J m s₃) (fun jj jj=>False) s₂) (fun jj jj=>False) s₁') (fun jj jj=>False) s₁) (fun jj jj=>False) s)
  (n:Nat) (h:J n s):codeAny (model B.prog B.w) A (.compLoop (.ListComp elt gens scope cp) depth it acc cenv) R s:=by
 refine codeAny_loop rfl J (fun n s hI=>?_) n h
 show wpAny _ A ((compTurn (.ListComp elt gens scope cp) depth it acc cenv).onRaise (fun x=>do noteFrame x cenv;theTreesLotGoes x)) _ _ s
 refine wpAny_noted ?_
 rw[hsh]
 unfold Ab3
 refine wpAny_bind (wpAny_standAt (wpAny_bind (wpAny_mono (turn n s hI) (fun r s₁ h₁=>?_) (fun _ _ (h':False)=>h'.elim))))
 cases r with
 | none=>exact wpAny_pure h₁
 | some v=>
  refine wpAny_bind (wpAny_mono h₁ (fun jj s₁' h₁'=>?_) (fun _ _ (h':False)=>h'.elim))
  refine wpAny_bind (wpAny_mono h₁' (fun jj s₂ h₂=>wpAny_bind (wpAny_mono h₂ (fun ok s₃ h₃=>?_) (fun _ _ (h':False)=>h'.elim))) (fun _ _ (h':False)=>h'.elim))
  cases ok with
  | false=>exact wpAny_pure ⟨rfl,h₃⟩
  | true=>exact wpAny_bind (wpAny_mono h₃ (fun jj s₅ h₅=>wpAny_pure ⟨rfl,h₅⟩) (fun _ _ (h':False)=>h'.elim))
theorem AbC{elt target iter:Expr}{ifs:List Expr}{pre rest:List Comprehension}{scope:Scope}{cp:Pos}{it acc:Value}{cenv:Env}{R:Result→Shared→Prop}
  (h0:codeAny (model B.prog B.w) A (.compLoop (.ListComp elt (pre++⟨target,iter,ifs,0⟩::rest) scope cp) pre.length it acc cenv) R s)
  (h:wpAny (model B.prog B.w) A (pyIter it) (fun it' s'=>codeAny (model B.prog B.w) A (.compLoop (.ListComp elt (pre++⟨target,iter,ifs,0⟩::rest) scope cp) pre.length it' acc cenv) R s') (fun jj jj=>False) s) :
  codeAny (model B.prog B.w) A (.compStart (.ListComp elt (pre++⟨target,iter,ifs,0⟩::rest) scope cp) pre.length it acc cenv) R s:=by
 refine codeAny_of_tree ?_
 show wpAny _ A ((compStart (.ListComp elt (pre++⟨target,iter,ifs,0⟩::rest) scope cp) pre.length it acc cenv).onRaise (fun x=>do noteFrame x cenv;standAt theWindowsPlace)) _ _ s
 refine wpAny_notedAt ?_
 have e:(clausesOf (.ListComp elt (pre++⟨target,iter,ifs,0⟩::rest) scope cp))[pre.length]?=some ⟨target,iter,ifs,0⟩:=by
  show(pre++⟨target,iter,ifs,0⟩::rest)[pre.length]?=_
  simp
 unfold compStart
 rw[e]
 refine wpAny_bind (wpAny_askSetting (wpAny_ite ?_))
 split
 ·first
   | exact wpAny_bind (wpAny_pure (wpAny_pure (And.intro rfl h0)))
   | exact wpAny_pure (And.intro rfl h0)
 ·first
   | exact wpAny_bind (wpAny_rule (wpAny_bind (wpAny_standAt (wpAny_bind (wpAny_mono h (fun it' s' h'=>wpAny_pure (And.intro rfl h')) (fun _ _ (h':False)=>h'.elim))))))
   | (refine wpAny_bind (wpAny_rule ?_);show wpAny _ _ (standAt iter.pos >>= _) _ _ s;exact wpAny_bind (wpAny_standAt (wpAny_bind (wpAny_mono h (fun it' s' h'=>wpAny_pure (And.intro rfl h')) (fun _ _ (h':False)=>h'.elim)))))
end
end Pq
namespace Pq
variable[Own]
section
variable{B:Aaj}{d:Nat}{env:Env}{vars:Vars}{σ:AH}{pos:Pos}{A:Around}{s:Shared}{fp:List Addr}
theorem FpOk.not{D:Addr}(F:FpOk B fp σ s.heap)(h:s.heap.get? D=none):D∉fp:=fun q=>by obtain⟨o,e⟩:=F.live D q;exact nosn e h
theorem turn1(elt target iter:Expr)(ifs:List Expr)(scope:Scope)(cp:Pos)(it acc:Value)(env:Env):
  compTurn (.ListComp elt [⟨target,iter,ifs,0⟩] scope cp) 0 it acc env=Ab3 iter.pos target ifs it env (do let _ ← call (.builtin "list.append") [acc,← eval elt env]) (again (.compLoop (.ListComp elt [⟨target,iter,ifs,0⟩] scope cp) 0 it acc env)):=by rfl
inductive AccR(h:Heap)(D:Addr)(ys:List AV):Prop
 | mk (items n:_) (e:IsL h D items n) (r:VRs h ys items.toList)
inductive EnvM(B:Aaj)(σ:AH)(h:Heap)(env:Env)(vars:Vars):Prop
 | mk (v:Vars) (R:EnvR B σ h env v) (hv:∀ y,env.kindOf y≠some .local→v y=Aek env vars y)
structure Mid(B:Aaj)(env:Env)(vars:Vars)(scope:Scope)(cl:List (Str×Addr))(C D:Addr)(ys:List AV)(σ:AH)(h:Heap):Prop where
 fd:FpOk B [D] σ h
 acc:AccR h D ys
 env:EnvM B σ h (compEnvC scope cl C env) vars
noncomputable def cX(C D:Addr):Addr→Prop:=fun b=>b=C∨b=D
theorem Mid.go{scope:Scope}{cl:List (Str×Addr)}{C D:Addr}{ys:List AV}{X:Addr→Prop}{σ':AH}{s':Shared}(M:Mid B env vars scope cl C D ys σ s.heap)(x:Ext B X σ s σ' s')(hD:¬ X D)(hX:∀ b,Abz (compEnvC scope cl C env) b→¬ X b):
  Mid B env vars scope cl C D ys σ' s'.heap:=by
 obtain⟨items,n,e,r⟩:=M.acc
 obtain⟨v,R,hv⟩:=M.env
 have f:=M.fd.ext x fun b hb=>by rw[List.mem_singleton.mp hb];exact hD
 exact⟨f.1,⟨items,n,f.2 D (.head _) _ e,r.mono x.tup⟩,v,R.ext x hX,hv⟩
theorem Mid.kept{scope:Scope}{cl:List (Str×Addr)}{C D:Addr}{ys:List AV}{h h':Heap}(M:Mid B env vars scope cl C D ys σ h)(T:TupKeep h h')(kD:∀ o,h.get? D=some o→h'.get? D=some o)(kk:∀ b,Abz (compEnvC scope cl C env) b→∀ o,h.get? b=some o→h'.get? b=some o):
  Mid B env vars scope cl C D ys σ h':=by
 obtain⟨items,n,hD,hr⟩:=M.acc
 obtain⟨v,R₂,hv⟩:=M.env
 refine⟨⟨M.fd.nabs,M.fd.base,fun b hb'=>?_,fun b hb'=>?_⟩,⟨items,n,kD _ hD,hr.mono T⟩,v,R₂.kept T (fun b hb jj=>kk b hb) fun jj jj jj jj z=>z,hv⟩
 ·rw[mem1 hb'];exact AaJ (kD _ hD) (by simp)
 ·rw[mem1 hb'];exact⟨_,kD _ hD⟩
theorem ownC_live{C:Addr}{scope:Scope}{cl:List (Str×Addr)}{b:Addr}{h:Heap}(R:EnvR B σ h env vars)(K:Adj env scope cl)(hb:Abz (compEnvC scope cl C env) b):b=C∨∃ o,h.get? b=some o:=by
 rcases hb with hb | ⟨y,hy⟩
 ·exact .inl hb
 ·have:(y,b)∈env.cells:=by
   have:=K.cells
   rw[List.map_inj_left] at this
   exact mem_of_lookup (this _ hy)
  obtain⟨_,_,_,w,o',ho',_⟩:=R.cells y b this
  exact .inr ⟨o',ho'⟩
theorem Ael{D C:Addr}{ys:List AV}{σ':AH}{s':Shared}{m:Str→Option Value}{h':Heap}(S:St B σ s)(hD:s.heap.get? D=none)(hC:s.heap.get? C=none)(hDC:D≠C)(x:Ext B noX σ s (upd σ' D (.list ys)) s')(hm:s'.heap.Ns C m)(hc:σ' C=none)(hb:B.h₀.get? C=none)
  (hs:Heap.SameBut C s'.heap h'):Ext B noX σ s (upd σ' D (.list ys)) { s' with heap:=h' }:=by
 refine Ext.finish (fp:=[C]) (tk:=s'.toks) S x (fun b hb'=>by rw[List.mem_singleton.mp hb'];exact hC) ⟨fun b hb'=>?_,fun b hb'=>?_,fun b hb'=>?_,fun b hb'=>?_⟩ fun b o hb' e=>hs.extBut b o (fun q=>hb' (by simp[q])) e
 all_goals rw[List.mem_singleton.mp hb']
 ·rw[Aai _ _ (Ne.symm hDC)];exact hc
 ·exact hb
 ·exact AcI hm
 ·obtain⟨o,_,_,e,_⟩:=hm;exact⟨o,e⟩
structure CS(B:Aaj)(env:Env)(vars:Vars)(scope:Scope)(cl:List (Str×Addr))(C D:Addr)(σ:AH)(s s₄:Shared):Prop where
 dn:s.heap.get? D=none
 cn:s.heap.get? C=none
 dc:D≠C
 x:Ext B noX σ s σ s₄
 M:Mid B env vars scope cl C D [] σ s₄.heap
 hc:∀ y,(y,D)∉cl
 bd:B.h₀.get? D=none
 lo:D≠sysModules
theorem Ads{scope:Scope}{cl:List (Str×Addr)}{P:Value→Env→Shared→Prop}(K:Adj env scope cl)(S:St B σ s)(R:EnvR B σ s.heap env vars)(k:∀ C D s₄,CS B env vars scope cl C D σ s s₄→P (.ref D) (compEnvC scope cl C env) s₄):
  wpAny (model B.prog B.w) A (newList []) (fun acc s₃=>wpAny (model B.prog B.w) A (newFunctionEnv scope env.globals cl [] env.qual none .none (some env)) (fun cenv s₄=>P acc { cenv with scope:=relabel scope env } s₄) (fun jj jj=>False) s₃) (fun jj jj=>False) s:=by
 refine wpAny_newObj_type (wpAny_newFunctionEnv K.nocell (by intro y hy;simp at hy) (fun h₁ hns₁ hsb₁=>?_) K.kind)
 dsimp only at hns₁ hsb₁ ⊢
 generalize hH2:s.heap.push { cls:=.type "list",dict:=none,data:=.seq ([]:List Value).toArray }=H2 at hns₁ hsb₁ ⊢
 have hC:H2.objs.size=s.heap.objs.size+1:=by rw[← hH2,Heap.size_push]
 have hDC:s.heap.objs.size≠H2.objs.size:=by rw[hC];exact Nat.ne_of_lt (Nat.lt_succ_self _)
 have dn:=Aan s.heap
 have cn:s.heap.get? H2.objs.size=none:=Heap.get?_none_of_le (by rw[hC];exact Nat.le_succ _)
 have old:∀ b o,s.heap.get? b=some o→h₁.get? b=some o:=fun b o e=>hsb₁.extBut b o (fun q=>by subst q;rw[cn] at e;cases e) (Heap.get?_push_of_some _ (hH2▸Heap.get?_push_of_some _ e))
 have hacc:IsL h₁ s.heap.objs.size #[] 0:=hsb₁.extBut _ _ hDC (Heap.get?_push_of_some _ (hH2▸Heap.get?_push_size _ rfl))
 have hbase:∀ b,s.heap.get? b=none→B.h₀.get? b=none:=fun b e=>by
  cases q:B.h₀.get? b with
  | none=>rfl
  | some o=>exact nosn (S.base b o q) e
 have RC:EnvR B σ h₁ (compEnvC scope cl H2.objs.size env) (Aek (compEnvC scope cl H2.objs.size env) vars):=
  R.comp K hns₁ ⟨S.none_of cn,hbase _ cn⟩ cn (TupKeep.of_keeps old) fun b jj o e=>old b o e
 refine k H2.objs.size s.heap.objs.size _ ⟨dn,cn,hDC,Ext.grow S old,⟨AeM S dn hacc (by simp),⟨#[],0,hacc,rfl⟩,_,RC,fun jj jj=>rfl⟩,fun y hy=>?_,hbase _ dn,S.size_lo⟩
 rcases ownC_live (C:=H2.objs.size) R K (.inr ⟨y,hy⟩) with q | ⟨o,q⟩
 ·exact hDC q
 ·exact nosn q dn
theorem Ext.born{D:Addr}{ys:List AV}{σ':AH}{s':Shared}(x:Ext B noX σ s σ' s')(hb:B.h₀.get? D=none)(lo:D≠sysModules)(dn:s.heap.get? D=none)(a:AccR s'.heap D ys):Ext B noX σ s (upd σ' D (.list ys)) s':=by
 have S2:=x.st
 obtain⟨items,n,hD,hr⟩:=a
 refine⟨⟨S2.base,fun b h=>?_,fun b o q=>?_,S2.gens,S2.os,fun b h=>?_,S2.bad⟩,x.tup,x.keep,fun b h1 h2=>?_,x.live⟩
 ·by_cases c:b=D
  ·subst c;exact hb
  ·rw[Aai _ _ c] at h;exact S2.apart b h
 ·by_cases c:b=D
  ·subst c;obtain rfl:=sinj (Aac _ _ _) q;exact⟨items,⟨_,hD⟩,hr⟩
  ·rw[Aai _ _ c] at q;exact S2.objs b o q
 ·by_cases c:b=D
  ·subst c;exact lo
  ·rw[Aai _ _ c] at h;exact S2.lo b h
 ·by_cases c:b=D
  ·subst c;exact dn
  ·rw[Aai _ _ c] at h2;exact x.fresh b h1 h2
end
end Pq
namespace Pq
variable[Own]
section
variable{B:Aaj}{d:Nat}{env:Env}{vars:Vars}{σ:AH}{pos:Pos}{A:Around}{s:Shared}{fp:List Addr}
inductive CJ(B:Aaj)(env:Env)(vars:Vars)(scope:Scope)(cl:List (Str×Addr))(C D:Addr)(fp:List Addr)(src:List (Addr×AO))(Z:List AV→Heap→Prop)(I:List AV→List AV→AH→Prop)(Rel:AH→Shared→Prop)(n:Nat)(s':Shared):Prop
 | mk (xs ys:List AV) (σ':AH) (hn:xs.length=n) (hl:xs.length+ys.length≤1000) (hI:I xs ys σ') (hZ:Z xs s'.heap) (hs:Sat src σ') (F:FpOk B fp σ' s'.heap) (M:Mid B env vars scope cl C D ys σ' s'.heap) (S:St B σ' s') (r:Rel σ' s')
theorem AeQ{target elt:Expr}{ifs:List Expr}{gens:List Comprehension}{scope:Scope}{cp p:Pos}{depth:Nat}{cl:List (Str×Addr)}{C D it:Addr}{src:List (Addr×AO)}{Z:List AV→Heap→Prop}{I:List AV→List AV→AH→Prop}{R:Result→Shared→Prop}
  {xs ys:List AV} {σ₁:AH} {s₁:Shared} (Rel:AH→Shared→Prop) (r:Room A d)
  (hsh:∀ cenv,compTurn (.ListComp elt gens scope cp) depth (.ref it) (.ref D) cenv=Ab3 p target ifs (.ref it) cenv (do let _ ← call (.builtin "list.append") [.ref D,← eval elt cenv]) (again (.compLoop (.ListComp elt gens scope cp) depth (.ref it) (.ref D) cenv)))
  (hit:Iter B it fp (·=target) src Z) (hZ:Z xs s₁.heap) (hsat:Sat src σ₁) (F:FpOk B fp σ₁ s₁.heap) (M:Mid B env vars scope cl C D ys σ₁ s₁.heap) (S₁:St B σ₁ s₁)
  (hfp:∀ b∈fp,¬ Abz (compEnvC scope cl C env) b∧b≠D) (hCD:C≠D) (hDc:∀ y,(y,D)∉cl)
  (hRel:Rel σ₁ s₁) (hstep:∀ {σ₁ s₁ σ₂ s₂},Rel σ₁ s₁→Ext B (fun b=>b=C∨b=D∨b∈fp) σ₁ s₁ σ₂ s₂→Rel σ₂ s₂)
  (hl:xs.length+ys.length≤1000) (hI:I xs ys σ₁) (turn:Agm B d env vars scope cl target elt ifs src I)
  (fin:∀ ys' σ' s' h' tk,I [] ys' σ'→Sat src σ'→ys'.length≤1000→Mid B env vars scope cl C D ys' σ' s'.heap→FpOk B fp σ' s'.heap→Rel σ' s'→(∀ b o,b∉fp→s'.heap.get? b=some o→h'.get? b=some o)→R (.ok .next) { s' with heap:=h',toks:=tk }) :
  codeAny (model B.prog B.w) A (.compLoop (.ListComp elt gens scope cp) depth (.ref it) (.ref D) (compEnvC scope cl C env)) R s₁:=by
 refine Agb (CJ B env vars scope cl C D fp src Z I Rel) (hsh _) ?_ xs.length
  ⟨xs,ys,σ₁,rfl,hl,hI,hZ,hsat,F,M,S₁,hRel⟩
 rintro n s' ⟨xs,ys,σ',rfl,hl,hI,hZ,hsat,F,M,S',e⟩
 cases xs with
 | nil=>
  refine hit.done (P:=fun r s₁=>match r with | none=>R (.ok .next) s₁ | some v=>wpAny (model B.prog B.w) A (letOwnedTupleGo target (.ref it) v) _ _ s₁) r S' hsat F hZ fun h' tk k=>?_
  exact fin ys σ' s' h' tk hI hsat (by simpa using hl) M F e k
 | cons a xs=>
  refine wpAny_mono (hit.item (tgt:=target) rfl r S' hsat F hZ) (fun rr s₅ hr5=>?_) (fun _ _ (f:False)=>f.elim)
  obtain⟨v,rfl,hr5⟩:=hr5
  refine wpAny_mono hr5 (fun jj s₆ h₆=>?_) (fun _ _ (f:False)=>f.elim)
  obtain⟨hv,hZ₆,z,F₆⟩:=h₆
  have M₆:=M.go z (fun q=>(hfp D q).2 rfl) fun b hb q=>(hfp b q).1 hb
  obtain⟨vars₁,R₁,hv₁⟩:=M₆.env
  have R₆':=R₁.forget (vars':=Aek (compEnvC scope cl C env) vars) fun y a q=>by
   rw[hv₁ y (fun c=>by unfold Aek at q;exact nosn q (if_neg (by rw[c];simp)))];exact q
  refine(turn _ a xs ys σ' hsat hI A s₆ v r z.st R₆' hv).wp fun jj s₇ vars₂ σ₂ q₂ R₇ u=>?_
  have F₇:=F₆.ext u fun b hb q=>(hfp b hb).1 (.inl q)
  have hDC':¬ (D=(compEnvC scope cl C env).locals):=fun q=>hCD q.symm
  have FD₇:=M₆.fd.ext u fun b hb q=>by rw[List.mem_singleton.mp hb] at q;exact hDC' q
  refine(CTests.wp q₂ r u.st R₇.1).wp fun ok s₈ okb σ₃ q₃ eok w=>?_
  subst eok
  have F₈:=F₇.1.ext w fun b jj f=>f
  have FD₈:=FD₇.1.ext w fun b jj f=>f
  have R₈:=R₇.1.go w
  have ez:Rel σ₃ s₈:=hstep (hstep (hstep e (z.weaken fun b hb=>.inr (.inr hb))) (u.weaken fun b hb=>.inl hb)) (w.weaken fun jj f=>f.elim)
  have hZ₈:Z xs s₈.heap:=hit.frame _ _ _ (hit.frame _ _ _ hZ₆ F₇.2 u.tup) F₈.2 w.tup
  obtain⟨items,nn,hD₆,hr₆⟩:=M₆.acc
  have hD₈:IsL s₈.heap D items nn:=FD₈.2 _ (.head _) _ (FD₇.2 _ (.head _) _ hD₆)
  have hr₈:VRs s₈.heap ys items.toList:=(hr₆.mono u.tup).mono w.tup
  have hlen':xs.length+ys.length+1≤1000:=by simp only[List.length_cons] at hl;exact ln2 (.c 1 (.a (.p 0 1) (.v 1)) (.n 1000) (.g 0 (.a (.b 0 1) (.n 1)) (.n 1000))) rfl hl
  cases okb with
  | false=>
   rw[if_neg Bool.false_ne_true] at q₃ ⊢
   exact⟨xs.length,Nat.lt_succ_self _,xs,ys,σ₃,rfl,ln2 (.c 1 (.a (.b 0 1) (.n 1)) (.n 1000) (.g 0 (.b 0 1) (.n 1000))) rfl hlen',q₃.2,hZ₈,q₃.1,F₈.1,⟨FD₈.1,⟨items,nn,hD₈,hr₈⟩,vars₂,R₈,R₇.2⟩,w.st,ez⟩
  | true=>
   rw[if_pos rfl] at q₃ ⊢
   refine wpAny_bind (m:=eval elt (compEnvC scope cl C env)) ((q₃ A s₈ r w.st R₈).wp fun ev s₉ y σ₄ q₄ rv t=>wpAny_bind ?_)
   have F₉:=F₈.1.ext t fun b jj f=>f
   have FD₉:=FD₈.1.ext t fun b jj f=>f
   refine Ah9 t.st FD₉.1 (.head _) (FD₉.2 _ (.head _) _ hD₈) (hr₈.mono t.tup) rv (ln2 (.c 1 (.a (.b 0 1) (.n 1)) (.n 1000) (.g 0 (.v 1) (.n 1000))) rfl hlen') fun h' items' n' hD' hr' p FDp hsame=>wpAny_pure ?_
   have Fp:=F₉.1.ext p fun b hb q=>(hfp b hb).2 (List.mem_singleton.mp q)
   refine⟨xs.length,Nat.lt_succ_self _,xs,ys++[y],σ₄,rfl,by simp;exact ln2 (.c 1 (.a (.b 0 1) (.n 1)) (.n 1000) (.g 0 (.a (.v 0) (.p 1 1)) (.n 1000))) rfl hlen',q₄.2,hit.frame _ _ _ (hit.frame _ _ _ hZ₈ F₉.2 t.tup) Fp.2 p.tup,q₄.1,Fp.1,⟨FDp,⟨items',n',hD',hr'⟩,vars₂,?_,R₇.2⟩,p.st,?_⟩
   ·refine(R₈.go t).ext p fun b hb q=>?_
    rw[List.mem_singleton.mp q] at hb
    rcases hb with hb | ⟨y,hy⟩
    ·exact hDC' hb
    ·exact hDc y hy
   ·exact hstep (hstep ez (t.weaken fun jj f=>f.elim)) (p.weaken fun b hb=>.inr (.inl (List.mem_singleton.mp hb)))
theorem Af9{target elt:Expr}{ifs:List Expr}{gens:List Comprehension}{scope:Scope}{cp p:Pos}{depth:Nat}{cl:List (Str×Addr)}{C D it:Addr}{src:List (Addr×AO)}{Z:List AV→Heap→Prop}{I:List AV→List AV→AH→Prop}{R:Result→Shared→Prop}
  {xs ys:List AV} {σ₁:AH} {s₁:Shared} (r:Room A d) (S:St B σ s)
  (hsh:∀ cenv,compTurn (.ListComp elt gens scope cp) depth (.ref it) (.ref D) cenv=Ab3 p target ifs (.ref it) cenv (do let _ ← call (.builtin "list.append") [.ref D,← eval elt cenv]) (again (.compLoop (.ListComp elt gens scope cp) depth (.ref it) (.ref D) cenv)))
  (hit:Iter B it fp (·=target) src Z) (hZ:Z xs s₁.heap) (hsat:Sat src σ₁) (F:FpOk B fp σ₁ s₁.heap) (h0:∀ b∈fp,s.heap.get? b=none) (M:Mid B env vars scope cl C D ys σ₁ s₁.heap)
  (hfp:∀ b∈fp,¬ Abz (compEnvC scope cl C env) b∧b≠D) (hCD:C≠D) (hDc:∀ y,(y,D)∉cl)
  (x:Ext B noX σ s σ₁ s₁) (hl:xs.length+ys.length≤1000) (hI:I xs ys σ₁) (turn:Agm B d env vars scope cl target elt ifs src I)
  (fin:∀ ys' σ' s',I [] ys' σ'→Sat src σ'→ys'.length≤1000→Mid B env vars scope cl C D ys' σ' s'.heap→Ext B (cX C D) σ s σ' s'→R (.ok .next) s') :
  codeAny (model B.prog B.w) A (.compLoop (.ListComp elt gens scope cp) depth (.ref it) (.ref D) (compEnvC scope cl C env)) R s₁:=by
 refine AeQ (fun σ' s'=>Ext B (fun b=>b=C∨b=D∨b∈fp) σ s σ' s') r hsh hit hZ hsat F M x.st hfp hCD hDc (x.weaken fun jj f=>f.elim) (fun e z=>e.trans z) hl hI turn ?_
 intro ys' σ' s' h' tk hI' hsat' hl' M' F' e k
 exact fin ys' σ' _ hI' hsat' hl' (M'.kept (F'.tup k) (fun o=>k D o fun q=>(hfp D q).2 rfl) fun b hb o=>k b o fun q=>(hfp b q).1 hb) (Ext.finish S (e.narrow fun b hb=>hb.elim (fun q=>.inl (.inl q)) fun q=>q.elim (fun q=>.inl (.inr q)) fun q=>.inr (h0 b q)) h0 F' k)
end
end Pq
namespace Pq
variable[Own]
section
variable{B:Aaj}{d:Nat}{env:Env}{vars:Vars}{σ:AH}{pos:Pos}{A:Around}{s:Shared}{fp:List Addr}
theorem fpC{scope:Scope}{cl:List (Str×Addr)}{C D:Addr}{σ₁:AH}{s₂ s₄:Shared}(R:EnvR B σ s.heap env vars)(K:Adj env scope cl)(F:FpOk B fp σ₁ s₂.heap)(h0:∀ b∈fp,s.heap.get? b=none)(cs:CS B env vars scope cl C D σ₁ s₂ s₄):∀ b∈fp,¬ Abz (compEnvC scope cl C env) b∧b≠D:=fun b hb=>
 ⟨fun q=>(ownC_live R K q).elim (fun q=>F.not cs.cn (q▸hb)) (by rintro⟨_,q⟩;exact(nomatch (h0 b hb).symm.trans q)),fun q=>F.not cs.dn (q▸hb)⟩
inductive CompI(B:Aaj)(d:Nat)(env:Env)(vars:Vars)(scope:Scope)(cl:List (Str×Addr))(target elt:Expr)(ifs:List Expr)(Qf:List AV→AH→Prop)(xs:List AV)(src:List (Addr×AO))(σ₁:AH):Prop
 | mk (I:List AV→List AV→AH→Prop) (hI:I xs [] σ₁) (t:Agm B d env vars scope cl target elt ifs src I) (f:∀ ys σ',Sat src σ'→I [] ys σ'→ys.length≤1000→Qf ys σ')
inductive CompR(B:Aaj)(d:Nat)(env:Env)(vars:Vars)(scope:Scope)(cl:List (Str×Addr))(target elt:Expr)(ifs:List Expr)(Qf:List AV→AH→Prop)(xs:List AV)(src:List (Addr×AO))(σ₁:AH):Prop
 | mk (hl:xs.length≤1000) (q:CompI B d env vars scope cl target elt ifs Qf xs src σ₁)
theorem Aga{target iter elt:Expr}{ifs:List Expr}{scope:Scope}{cp:Pos}{cl:List (Str×Addr)}{Qf:List AV→AH→Prop}{RR:Value→Addr→Result→Shared→Prop}(r:Room A d)(S:St B σ s)(R:EnvR B σ s.heap env vars)(K:Adj env scope cl)
  (h:AI B d env vars iter (·=target) σ (CompR B d env vars scope cl target elt ifs Qf))
  (hRR:∀ D C ys σ' s' m,Qf ys σ'→s.heap.get? D=none→s.heap.get? C=none→D≠C→σ' D=none→Ext B noX σ s (upd σ' D (.list ys)) s'→s'.heap.Ns C m→σ' C=none→B.h₀.get? C=none→RR (.ref D) C (.ok .next) s') :
  wpAny (model B.prog B.w) A (eval iter env) (fun x s₁=>wpAny (model B.prog B.w) A (pyIter x) (fun it s₂=>wpAny (model B.prog B.w) A (newList []) (fun acc s₃=>
   wpAny (model B.prog B.w) A (newFunctionEnv scope env.globals cl [] env.qual none .none (some env)) (fun cenv s₄=>
    codeAny (model B.prog B.w) A (.compStart (.ListComp elt [⟨target,iter,ifs,0⟩] scope cp) 0 it acc { cenv with scope:=relabel scope env }) (RR acc cenv.locals) s₄) (fun jj jj=>False) s₃) (fun jj jj=>False) s₂) (fun jj jj=>False) s₁) (fun jj jj=>False) s:=by
 refine wpAny_mono (h A s r S R) (fun x s₁ h₁=>wpAny_mono h₁ (fun itv s₂ h₂=>?_) (fun _ _ (f:False)=>f.elim)) (fun _ _ (f:False)=>f.elim)
 obtain⟨it,fp,src,Z,xs,σ₁,⟨hlen,I,hI,turn,fin⟩,rfl,hit,hZ,hsat,F,h0,x⟩:=h₂
 refine Ads K x.st (R.go x) (P:=fun acc cenv s₄=>codeAny (model B.prog B.w) A (.compStart (.ListComp elt [⟨target,iter,ifs,0⟩] scope cp) 0 (.ref it) acc cenv) (RR acc cenv.locals) s₄) fun C D s₄ cs=>?_
 have F₄:=F.ext cs.x fun b jj f=>f
 have hZ₄:=hit.frame _ _ _ hZ F₄.2 cs.x.tup
 have loop:=Af9 (R:=RR (.ref D) C) r S (turn1 elt target iter ifs scope cp (.ref it) (.ref D)) hit hZ₄ hsat F₄.1 h0 cs.M (fpC R K F h0 cs) (Ne.symm cs.dc) cs.hc (x.trans cs.x) hlen hI turn fun ys σ' s' hI' hsat' hl' M' e=>by
  obtain⟨vars₁,R₁,_⟩:=M'.env
  obtain⟨m,hm,_⟩:=R₁.ns
  have hD:=AaR x cs.dn
  have hC:=AaR x cs.cn
  exact hRR D C ys σ' s' m (fin ys σ' hsat' hI' hl') hD hC cs.dc (M'.fd.nabs _ (.head _)) (Ext.born (e.narrow fun b hb=>.inr (hb.elim (fun q=>q▸hC) fun q=>q▸hD)) cs.bd cs.lo hD M'.acc) hm R₁.loc.1 R₁.loc.2
 exact AbC (pre:=[]) loop (hit.self hZ₄ loop)
noncomputable abbrev LisK(Q:AV→AH→Prop)(ys:List AV)(σ:AH):Prop:=∀ a,σ a=none→Q (.obj a) (upd σ a (.list ys))
noncomputable abbrev LisA(Q:Vars→AH→Prop)(vars:Vars)(y:Str)(ys:List AV)(σ:AH):Prop:=∀ a,σ a=none→Q (Abl vars y (.obj a)) (upd σ a (.list ys))
theorem AaT{target iter elt:Expr}{ifs:List Expr}{scope:Scope}{cl:List (Str×Addr)}{Q:AV→AH→Prop}
  (hs:AdW iter=true) (K:Adj env scope cl) (h:AI B d env vars iter (·=target) σ (CompR B d env vars scope cl target elt ifs (LisK Q))):AE B d env vars (eval (.ListComp elt [⟨target,iter,ifs,0⟩] scope pos) env) σ Q:=by
 intro A s r S R
 rw[eval_ListComp]
 refine wpAny_comprehension_free (use:=none) rfl ((Aba hs).set env) K.clos K.kind K.names ?_
 refine Aga (RR:=fun acc C=>compPost (model B.prog B.w) A (fun jj jj=>False) none _ acc C) r S R K h ?_
 intro D C ys σ' s' m hq hD hC hDC hn x hm hc hb
 exact⟨m,hm,fun h' hs'=>⟨.obj D,_,hq D hn,rfl,Ael S hD hC hDC x hm hc hb hs'⟩⟩
theorem AaG{y:Str}{py spos:Pos}{target iter elt:Expr}{ifs:List Expr}{scope:Scope}{cl:List (Str×Addr)}{Q:AFl→Vars→AH→Prop}
  (hs:AdW iter=true) (hsw:swapsWith (.ListComp elt [⟨target,iter,ifs,0⟩] scope pos) (some (.Name y py)) spos.line env=pure true) (hy:isVar env y=true) (K:Adj env scope cl) (h:AI B d env vars iter (·=target) σ (CompR B d env vars scope cl target elt ifs (LisA (Q .next) vars y))):AX B d env vars (exec (.Assign [.Name y py] (.ListComp elt [⟨target,iter,ifs,0⟩] scope pos) spos) env) σ Q:=by
 intro A s r S R
 rw[exec_Assign_Name_used _ _ _ _ hsw]
 refine wpAny_bind (wpAny_standAt (wpAny_bind ?_))
 refine wpAny_bind (wpAny_mono (wpAny_comprehension_free (use:=some (assign (.Name y py) env)) (Q:=fun jj=>WR B (Abz env) σ s (XR B env) (fun b σ'=>Q b.1 b.2 σ') .next) rfl ((Aba hs).set env) K.clos K.kind K.names ?_) (fun jj s' hq=>wpAny_pure (wpAny_pure hq)) fun jj jj e=>e)
 refine Aga (RR:=fun acc C=>compPost (model B.prog B.w) A (fun jj jj=>False) (some (assign (.Name y py) env)) _ acc C) r S R K h ?_
 intro D C ys σ' s' m hq hD hC hDC hn x hm hc hb
 have R':=R.go x
 refine(AaA (B:=B) (d:=d) (Q:=fun v σ₂=>v=Abl vars y (.obj D)∧σ₂=upd σ' D (.list ys)) hy ⟨rfl,rfl⟩ A s' (.ref D) r x.st R' rfl).wp fun jj s₂ vars₂ σ₂ q₂ R₂ z=>?_
 obtain⟨rfl,rfl⟩:=q₂
 have hCl:¬ Abz env C:=fun q=>by obtain⟨o,e⟩:=AcH R q;exact nosn e hC
 have hm₂:s₂.heap.Ns C m:=by
  obtain⟨o,es,ep,e,rr⟩:=hm
  exact⟨o,es,ep,z.keep C o e (by rw[Aai _ _ (Ne.symm hDC)];exact hc) hCl,rr⟩
 have FC:FpOk B [C] (upd σ' D (.list ys)) s₂.heap:=by
  obtain⟨o,e⟩:∃ o,s₂.heap.get? C=some o:=by obtain⟨o,_,_,e,_⟩:=hm₂;exact⟨o,e⟩
  exact⟨fun b hb'=>by rw[mem1 hb',Aai _ _ (Ne.symm hDC)];exact hc,fun b hb'=>by rw[mem1 hb'];exact hb,fun b hb'=>by rw[mem1 hb'];exact AcI hm₂,fun b hb'=>by rw[mem1 hb'];exact⟨o,e⟩⟩
 refine⟨m,hm₂,fun h' hs'=>?_⟩
 have k:∀ b o,b∉[C]→s₂.heap.get? b=some o→h'.get? b=some o:=fun b o hb' e=>hs'.extBut b o (fun q=>hb' (by simp[q])) e
 exact⟨(.next,Abl vars y (.obj D)),_,hq D hn,⟨rfl,R₂.kept (FC.tup k) (fun b hb' jj o e=>k b o (fun q=>hCl (by rw[← mem1 q];exact hb')) e) fun jj jj jj jj z=>z⟩,
  Ext.finish (fp:=[C]) (tk:=s₂.toks) S ((x.weaken fun jj f=>f.elim).trans z) (fun b hb'=>by rw[mem1 hb'];exact hC) FC k⟩
end
end Pq
namespace Pq
variable[Own]
section
variable{B:Aaj}{d:Nat}{env:Env}{vars:Vars}{σ:AH}{pos:Pos}{A:Around}{s:Shared}{fp:List Addr}
theorem turn2_1(elt t0 i0 t1 i1:Expr)(scope:Scope)(cp:Pos)(it acc:Value)(env:Env):
  compTurn (.ListComp elt [⟨t0,i0,[],0⟩,⟨t1,i1,[],0⟩] scope cp) 1 it acc env=Ab3 i1.pos t1 [] it env (do let _ ← call (.builtin "list.append") [acc,← eval elt env]) (again (.compLoop (.ListComp elt [⟨t0,i0,[],0⟩,⟨t1,i1,[],0⟩] scope cp) 1 it acc env)):=by rfl
theorem AiI{elt t0 i0 t1 i1:Expr}{scope:Scope}{cp:Pos}{it acc:Value}{cenv:Env}{R:Result→Shared→Prop}(J:Nat→Shared→Prop)
  (hs1:∀ x,foldedSetIterable i1 cenv x=pure x)
  (turn:∀ n s,J n s→wpAny (model B.prog B.w) A (pyNext it) (fun r s₁=>match r with
   | none=>R (.ok .next) s₁
   | some v=>wpAny (model B.prog B.w) A (letOwnedTupleGo t0 it v) (fun jj s₁'=>wpAny (model B.prog B.w) A (assign t0 cenv v) (fun jj s₂=>
     wpAny (model B.prog B.w) A (eval i1 cenv) (fun x s₃=>wpAny (model B.prog B.w) A (pyIter x) (fun it' s₄=>
      codeAny (model B.prog B.w) A (.compStart (.ListComp elt [⟨t0,i0,[],0⟩,⟨t1,i1,[],0⟩] scope cp) 1 it' acc cenv) (fun rr s₅=>rr=.ok .next∧∃ m,m<n∧J m s₅) s₄) (fun jj jj=>False) s₃) (fun jj jj=>False) s₂) (fun jj jj=>False) s₁') (fun jj jj=>False) s₁) (fun jj jj=>False) s)
  (n:Nat) (h:J n s):codeAny (model B.prog B.w) A (.compLoop (.ListComp elt [⟨t0,i0,[],0⟩,⟨t1,i1,[],0⟩] scope cp) 0 it acc cenv) R s:=by
 refine codeAny_loop rfl J (fun n s hI=>?_) n h
 show wpAny _ A ((compTurn (.ListComp elt [⟨t0,i0,[],0⟩,⟨t1,i1,[],0⟩] scope cp) 0 it acc cenv).onRaise (fun x=>do noteFrame x cenv;theTreesLotGoes x)) _ _ s
 refine wpAny_noted ?_
 unfold compTurn
 refine wpAny_bind (wpAny_standAt ?_)
 refine wpAny_bind (wpAny_mono (turn n s hI) (fun r s₁ h₁=>?_) (fun _ _ (h':False)=>h'.elim))
 cases r with
 | none=>exact wpAny_pure h₁
 | some v=>
  refine wpAny_bind (wpAny_mono h₁ (fun jj s₁' h₁'=>?_) (fun _ _ (h':False)=>h'.elim))
  refine wpAny_bind (wpAny_mono h₁' (fun jj s₂ h₂=>?_) (fun _ _ (h':False)=>h'.elim))
  refine wpAny_bind (wpAny_pure ?_)
  refine wpAny_bind (wpAny_mono h₂ (fun x s₃ h₃=>wpAny_bind (wpAny_standAt ?_)) (fun _ _ (h':False)=>h'.elim))
  refine wpAny_bind (wpAny_of_eq (hs1 x) ?_)
  refine wpAny_bind (wpAny_holding (wpAny_mono h₃ (fun it' s₄ h₄=>?_) (fun _ _ (h':False)=>h'.elim)))
  refine wpAny_bind (wpAny_runOwn (codeAny_mono h₄ fun rr s₅ h₅=>?_))
  obtain⟨rfl,m,hm,hJ⟩:=h₅
  exact wpAny_pure ⟨rfl,m,hm,hJ⟩
inductive C2I(B:Aaj)(d:Nat)(env:Env)(vars:Vars)(scope:Scope)(cl:List (Str×Addr))(t1 elt:Expr)(src:List (Addr×AO))(I:List AV→List AV→AH→Prop)(xs ys:List AV)(xs1:List AV)(src1:List (Addr×AO))(σ₃:AH):Prop
 | mk (I1:List AV→List AV→AH→Prop) (h1:I1 xs1 ys σ₃) (hl:xs1.length+ys.length≤1000) (t:Agm B d env vars scope cl t1 elt [] src1 I1) (f:∀ ys' σ',Sat src1 σ'→I1 [] ys' σ'→Sat src σ'∧I xs ys' σ')
inductive C2R(B:Aaj)(d:Nat)(env:Env)(vars:Vars)(scope:Scope)(cl:List (Str×Addr))(t0 t1 i1 elt:Expr)(Q:AV→AH→Prop)(xs:List AV)(src:List (Addr×AO))(σ₁:AH):Prop
 | mk (I:List AV→List AV→AH→Prop) (hI:I xs [] σ₁)
   (t:∀ C x xs ys σ,Sat src σ→I (x::xs) ys σ→AL B d (compEnvC scope cl C env) (Aek (compEnvC scope cl C env) vars) (assign t0 (compEnvC scope cl C env)) x σ fun vars₂ σ₂=>AI B d (compEnvC scope cl C env) vars₂ i1 (·=t1) σ₂ (C2I B d env vars scope cl t1 elt src I xs ys))
   (f:∀ ys σ',Sat src σ'→I [] ys σ'→∀ a,σ' a=none→Q (.obj a) (upd σ' a (.list ys)))
inductive C2J(B:Aaj)(env:Env)(vars:Vars)(scope:Scope)(cl:List (Str×Addr))(C D:Addr)(fp:List Addr)(src:List (Addr×AO))(Z:List AV→Heap→Prop)(I:List AV→List AV→AH→Prop)(σ:AH)(s:Shared)(n:Nat)(s':Shared):Prop
 | mk (xs ys:List AV) (σ':AH) (hn:xs.length=n) (hI:I xs ys σ') (hZ:Z xs s'.heap) (hs:Sat src σ') (F:FpOk B fp σ' s'.heap) (M:Mid B env vars scope cl C D ys σ' s'.heap) (x:Ext B (fun b=>b=C∨b=D∨b∈fp) σ s σ' s')
theorem AgV{t0 i0 t1 i1 elt:Expr}{scope:Scope}{cl:List (Str×Addr)}{Q:AV→AH→Prop}
  (hs:AdW i0=true) (hs1:AdW i1=true) (K:Adj env scope cl) (h:AI B d env vars i0 (·=t0) σ (C2R B d env vars scope cl t0 t1 i1 elt Q)):AE B d env vars (eval (.ListComp elt [⟨t0,i0,[],0⟩,⟨t1,i1,[],0⟩] scope pos) env) σ Q:=by
 intro A s r S R
 have hs1:=(Aba hs1).set
 rw[eval_ListComp]
 refine wpAny_comprehension_free (use:=none) rfl ((Aba hs).set env) K.clos K.kind K.names ?_
 refine wpAny_mono (h A s r S R) (fun x s₁ h₁=>wpAny_mono h₁ (fun itv s₂ h₂=>?_) (fun _ _ (f:False)=>f.elim)) (fun _ _ (f:False)=>f.elim)
 obtain⟨it,fp,src,Z,xs,σ₁,⟨I,hI,turn,fin⟩,rfl,hit,hZ,hsat,F,h0,x⟩:=h₂
 refine Ads K x.st (R.go x) (P:=fun acc cenv s₄=>codeAny (model B.prog B.w) A (.compStart (.ListComp elt [⟨t0,i0,[],0⟩,⟨t1,i1,[],0⟩] scope pos) 0 (.ref it) acc cenv) (compPost (model B.prog B.w) A (fun jj jj=>False) none (WR B noX σ s RV Q) acc cenv.locals) s₄) fun C D s₄ cs=>?_
 have F₄:=F.ext cs.x fun b jj f=>f
 have hXf:=fpC R K F h0 cs
 have dn:=AaR x cs.dn
 have cn:=AaR x cs.cn
 have hZ₄:=hit.frame _ _ _ hZ F₄.2 cs.x.tup
 have loop:codeAny (model B.prog B.w) A (.compLoop (.ListComp elt [⟨t0,i0,[],0⟩,⟨t1,i1,[],0⟩] scope pos) 0 (.ref it) (.ref D) (compEnvC scope cl C env)) (compPost (model B.prog B.w) A (fun jj jj=>False) none (WR B noX σ s RV Q) (.ref D) C) s₄:=by
  refine AiI (C2J B env vars scope cl C D fp src Z I σ s) (hs1 _) ?_ xs.length
   ⟨xs,[],σ₁,rfl,hI,hZ₄,hsat,F₄.1,cs.M,(x.trans cs.x).weaken fun jj f=>f.elim⟩
  rintro n s' ⟨xs,ys,σ',rfl,hI,hZ,hsat,F,M,e⟩
  cases xs with
  | nil=>
   have e':Ext B noX σ s σ' s':=e.narrow fun b hb=>.inr (hb.elim (fun q=>q▸cn) fun q=>q.elim (fun q=>q▸dn) (h0 b))
   refine hit.done (P:=fun r s₁=>match r with | none=>compPost (model B.prog B.w) A (fun jj jj=>False) none (WR B noX σ s RV Q) (.ref D) C (.ok .next) s₁ | some v=>wpAny (model B.prog B.w) A (letOwnedTupleGo t0 (.ref it) v) _ _ s₁) r e.st hsat F hZ fun h' tk k=>?_
   have M':=M.kept (F.tup k) (fun o=>k D o fun q=>(hXf D q).2 rfl) fun b hb o=>k b o fun q=>(hXf b q).1 hb
   obtain⟨vars₁,R₁,_⟩:=M'.env
   obtain⟨m,hm,_⟩:=R₁.ns
   exact⟨m,hm,fun h'' hs'=>⟨.obj _,_,fin ys σ' hsat hI _ (M.fd.nabs _ (.head _)),rfl,Ael S dn cn cs.dc (Ext.born (Ext.finish S e' h0 F k) cs.bd cs.lo dn M'.acc) hm R₁.loc.1 R₁.loc.2 hs'⟩⟩
  | cons a xs=>
   refine wpAny_mono (hit.item (tgt:=t0) rfl r e.st hsat F hZ) (fun rr s₅ hr5=>?_) (fun _ _ (f:False)=>f.elim)
   obtain⟨v,rfl,hr5⟩:=hr5
   refine wpAny_mono hr5 (fun jj s₆ h₆=>?_) (fun _ _ (f:False)=>f.elim)
   obtain⟨hv,hZ₆,z,F₆⟩:=h₆
   have M₆:=M.go z (fun q=>(hXf D q).2 rfl) fun b hb q=>(hXf b q).1 hb
   obtain⟨vars₁,R₁,hv₁⟩:=M₆.env
   have R₆':=R₁.forget (vars':=Aek (compEnvC scope cl C env) vars) fun y a q=>by
    rw[hv₁ y (fun c=>by unfold Aek at q;exact nosn q (if_neg (by rw[c];simp)))];exact q
   refine(turn _ a xs ys σ' hsat hI A s₆ v r z.st R₆' hv).wp fun jj s₇ vars₂ σ₂ q₂ R₇ u=>?_
   have F₇:=F₆.ext u fun b hb q=>(hXf b hb).1 (.inl q)
   have FD₇:=M₆.fd.ext u fun b hb q=>by rw[mem1 hb] at q;exact cs.dc q
   obtain⟨items,nn,hD₆,hr₆⟩:=M₆.acc
   have M₇:Mid B env vars scope cl C D ys σ₂ s₇.heap:=⟨FD₇.1,⟨items,nn,FD₇.2 _ (.head _) _ hD₆,hr₆.mono u.tup⟩,vars₂,R₇.1,R₇.2⟩
   have hZ₇:=hit.frame _ _ _ hZ₆ F₇.2 u.tup
   have e₇:=(e.trans (z.weaken fun b hb=>.inr (.inr hb))).trans (u.weaken fun b hb=>.inl hb)
   refine wpAny_mono (q₂ A s₇ r u.st R₇.1) (fun x1 s₈ h₈=>wpAny_mono h₈ (fun it1v s₉ h₉=>?_) (fun _ _ (f:False)=>f.elim)) (fun _ _ (f:False)=>f.elim)
   obtain⟨it1,fp1,src1,Z1,xs1,σ₃,⟨I1,hI1,hl1,turn1,fin1⟩,rfl,hit1,hZ1,hsat1,F1,h01,w⟩:=h₉
   have M₉:=M₇.go w (fun f=>f) fun jj jj f=>f
   have F₉:=F₇.1.ext w fun jj jj f=>f
   have hfp1:∀ b∈fp1,¬ Abz (compEnvC scope cl C env) b∧b≠D:=fun b hb=>by
    have hn:=h01 b hb
    refine⟨fun q=>?_,fun q=>?_⟩
    ·obtain⟨o,q⟩:=AcH R₇.1 q;exact nosn q hn
    ·obtain⟨o,q'⟩:=FD₇.1.live _ (.head _);rw[q] at hn;rw[hn] at q';cases q'
   have go:codeAny (model B.prog B.w) A (.compLoop (.ListComp elt [⟨t0,i0,[],0⟩,⟨t1,i1,[],0⟩] scope pos) 1 (.ref it1) (.ref D) (compEnvC scope cl C env))
     (fun rr s₅=>rr=.ok .next∧∃ m,m<(a::xs).length∧C2J B env vars scope cl C D fp src Z I σ s m s₅) s₉:=by
    refine Af9 (σ:=σ₂) (s:=s₇) r u.st (fun cenv=>turn2_1 ..) hit1 hZ1 hsat1 F1 h01 M₉ hfp1 (Ne.symm cs.dc) cs.hc w hl1 hI1 turn1 ?_
    intro ys' σ₄ s' hI' hsat' hl' M' e'
    obtain⟨k1,k2⟩:=fin1 ys' σ₄ hsat' hI'
    have F':=F₇.1.ext e' fun b hb q=>q.elim (fun q=>(hXf b hb).1 (.inl q)) (hXf b hb).2
    exact⟨rfl,xs.length,Nat.lt_succ_self _,xs,ys',σ₄,rfl,k2,hit.frame _ _ _ hZ₇ F'.2 e'.tup,k1,F'.1,M',e₇.trans (e'.weaken fun b hb=>hb.imp id .inl)⟩
   exact AbC (pre:=[⟨t0,i0,[],0⟩]) go (hit1.self hZ1 go)
 exact AbC (pre:=[]) loop (hit.self hZ₄ loop)
end
end Pq
namespace Pq
noncomputable abbrev Ack(h:Heap)(z TI TO:Addr)(f0 f1:Value):Prop:=
 h.get? z=some { cls:=.type "zip",dict:=none,data:=.fields #[f0,f1,.bool false,.ref TI,.ref TO],slots:=#[] }
structure AeW(z TI TO i1 i2:Addr)(fp1 fp2:List Addr):Prop where
 TIz:TI≠z
 TOz:TO≠z
 TITO:TI≠TO
 TIi1:TI≠i1
 TIi2:TI≠i2
 TOi1:TO≠i1
 TOi2:TO≠i2
 i1z:i1≠z
 i2z:i2≠z
 z1:z∉fp1
 z2:z∉fp2
 o1:TO∉fp1
 o2:TO∉fp2
 i12:i1∉fp2
 i21:i2∉fp1
noncomputable def Afw:Value→Addr
 | .ref a=>a
 | _=>0
section
variable{prog:Program}{w:World}{A:Around}{E:Value→Shared→Prop}{s:Shared}{z TI TO i1 i2:Addr}{fp1 fp2:List Addr}{n1 n2 k1 k2:Nat}{P1 P2:Nat→Value→Prop}{St1 St2:Nat→Heap→Prop}{a b:Value}
theorem sb{h h':Heap}{c:Addr}(hs:Heap.SameBut c h h'){d:Addr}(hd:d≠c){o:Obj}(e:h.get? d=some o):h'.get? d=some o:=(hs.2 d hd).trans e
theorem frm{it:Addr}{fp:List Addr}{n:Nat}{P:Nat→Value→Prop}{St:Nat→Heap→Prop}(D:Draws prog w A it fp n P St){i:Nat}{h h':Heap}{c:Addr}(hs:Heap.SameBut c h h')(hc:c∉fp)(st:St i h):St i h':=
 D.frame _ _ _ st fun d hd o e=>sb hs (fun q=>hc (q▸hd)) e
theorem AcZ{Q:Value→Shared→Prop}(D1:Draws prog w A i1 fp1 n1 P1 St1)(D2:Draws prog w A i2 fp2 n2 P2 St2)(X:AeW z TI TO i1 i2 fp1 fp2)
  (hz:Ack s.heap z TI TO .none (.bool false)) (hTI:IsPair s.heap TI (.ref i1) (.ref i2)) (hTO:IsPair s.heap TO a b) (h1:St1 k1 s.heap) (h2:St2 k2 s.heap) (l1:k1<n1) (l2:k2<n2)
  (hQ:∀ h' tk x y,P1 k1 x→P2 k2 y→Ack h' z TI TO (rawInt s.heap.objs.size) (.bool false)→IsPair h' TO x y→St1 (k1+1) h'→St2 (k2+1) h'→IsPair h' s.heap.objs.size x y→h'.objs.size=s.heap.objs.size+1 →
   (∀ c o,c≠z→c≠TO→c≠i1→c≠i2→s.heap.get? c=some o→h'.get? c=some o)→Q (.ref s.heap.objs.size) { s with heap:=h',toks:=tk }) :
  wpAny (model prog w) A (Builtin.«zip.__next__» ⟨[.ref z],[]⟩) (fun fin s'=>∃ v,fin=.done (.ret v)∧Q v s') E s:=by
 show wpAny _ _ (field (.ref z) 2 >>= _) _ _ _
 refine wpAny_bind (wpAny_field hz rfl (x:=.bool false) rfl ?_)
 refine wpAny_bind (wpAny_field hz rfl (x:=.ref TI) rfl ?_)
 refine wpAny_bind (wpAny_seqItems hTI rfl ?_)
 refine wpAny_bind ?_
 unfold Builtin.SmallTypes.ownedTupleIsFree
 refine wpAny_bind (wpAny_field hz rfl (x:=.none) rfl (wpAny_pure ?_))
 refine wpAny_bind (wpAny_rule ?_)
 refine wpAny_bind (wpAny_field hz rfl (x:=.ref TO) rfl ?_)
 refine wpAny_bind (wpAny_setField_rec hz (lnk rfl) fun h₁ hz₁ hs₁=>?_)
 replace hz₁:Ack h₁ z TI TO .ellipsis (.bool false):=hz₁
 refine wpAny_bind ?_
 refine wpAny_bind (wpAny_bind (wpAny_onRaise ?_))
 refine wpAny_bind (D1.item k1 _ _ _ l1 (frm D1 hs₁ X.z1 h1) fun x h₂ t₂ hx g1 hs₂=>wpAny_pure ?_)
 have hTO₂:IsPair h₂ TO a b:=sb hs₂ X.TOi1 (sb hs₁ X.TOz hTO)
 refine wpAny_bind (wpAny_seqItems hTO₂ rfl ?_)
 refine wpAny_bind (wpAny_updateSeq_pair hTO₂ fun h₃ hTO₃ hs₃=>?_)
 replace hTO₃:IsPair h₃ TO x b:=hTO₃
 refine wpAny_bind (wpAny_letGo (wpAny_pure ?_))
 refine wpAny_bind (wpAny_bind (wpAny_onRaise ?_))
 refine wpAny_bind (D2.item k2 _ _ _ l2 (frm D2 hs₃ X.o2 (frm D2 hs₂ X.i12 (frm D2 hs₁ X.z2 h2))) fun y h₄ t₄ hy g2 hs₄=>wpAny_pure ?_)
 have hTO₄:IsPair h₄ TO x b:=sb hs₄ X.TOi2 hTO₃
 refine wpAny_bind (wpAny_seqItems hTO₄ rfl ?_)
 refine wpAny_bind (wpAny_updateSeq_pair hTO₄ fun h₅ hTO₅ hs₅=>?_)
 replace hTO₅:IsPair h₅ TO x y:=hTO₅
 refine wpAny_bind (wpAny_letGo (wpAny_pure (wpAny_pure ?_)))
 refine wpAny_bind (wpAny_seqItems hTO₅ rfl ?_)
 refine wpAny_bind (wpAny_newTuple ?_)
 have hsz:h₅.objs.size=s.heap.objs.size:=by rw[hs₅.1,hs₄.1,hs₃.1,hs₂.1,hs₁.1]
 have hz₅:Ack h₅ z TI TO .ellipsis (.bool false):=sb hs₅ X.TOz.symm (sb hs₄ X.i2z.symm (sb hs₃ X.TOz.symm (sb hs₂ X.i1z.symm hz₁)))
 have hk₅:∀ c o,c≠z→c≠TO→c≠i1→c≠i2→s.heap.get? c=some o→h₅.get? c=some o:=fun c o c1 c2 c3 c4 e=>sb hs₅ c2 (sb hs₄ c4 (sb hs₃ c2 (sb hs₂ c3 (sb hs₁ c1 e))))
 have g1₅:St1 (k1+1) h₅:=frm D1 hs₅ X.o1 (frm D1 hs₄ X.i21 (frm D1 hs₃ X.o1 g1))
 have g2₅:St2 (k2+1) h₅:=frm D2 hs₅ X.o2 g2
 have hzlt:z<h₅.objs.size:=Heap.lt_size hz₅
 refine wpAny_bind ?_
 unfold Builtin.SmallTypes.ownedTupleHandOut
 have hz₆:Ack (h₅.push { cls:=.type "tuple",data:=.seq #[x,y] }) z TI TO .ellipsis (.bool false):=Heap.get?_push_of_some _ hz₅
 refine wpAny_bind (wpAny_setField_rec hz₆ (lnk rfl) fun h₇ hz₇ hs₇=>?_)
 replace hz₇:Ack h₇ z TI TO (rawInt h₅.objs.size) (.bool false):=hz₇
 refine wpAny_setField_rec hz₇ (lnk rfl) fun h₈ hz₈ hs₈=>?_
 replace hz₈:Ack h₈ z TI TO (rawInt h₅.objs.size) (.bool false):=hz₈
 have up:∀ c o,c≠z→h₅.get? c=some o→h₈.get? c=some o:=fun c o c1 e=>sb hs₈ c1 (sb hs₇ c1 (Heap.get?_push_of_some _ e))
 have hT₈:IsPair h₈ h₅.objs.size x y:=sb hs₈ (Nat.ne_of_gt hzlt) (sb hs₇ (Nat.ne_of_gt hzlt) (Heap.get?_push_size _ rfl))
 have hz8:h₈.objs.size=h₅.objs.size+1:=by rw[hs₈.1,hs₇.1,Heap.size_push]
 rw[hsz] at hz₈ hT₈ hz8
 refine wpAny_pure ⟨_,rfl,?_⟩
 rw[hsz]
 exact hQ h₈ _ x y hx hy hz₈ (up _ _ X.TOz hTO₅) (D1.frame _ _ _ g1₅ fun c hc o e=>up c o (fun q=>X.z1 (q▸hc)) e) (D2.frame _ _ _ g2₅ fun c hc o e=>up c o (fun q=>X.z2 (q▸hc)) e) hT₈ hz8 fun c o c1 c2 c3 c4 e=>up c o c1 (hk₅ c o c1 c2 c3 c4 e)
theorem Acu{M:Model}{a:Addr}{Q:Option Obj→Shared→Prop}(h:Q (s.heap.get? a) s):wpAny M A (loadIfAlive a) Q E s:=fun jj jj jj=>h
theorem AeX{Q:Value→Shared→Prop}{T:Addr}{f1:Bool}{oT:Obj}(D1:Draws prog w A i1 fp1 n1 P1 St1)(D2:Draws prog w A i2 fp2 n2 P2 St2)(X:AeW z TI TO i1 i2 fp1 fp2)
  (hz:Ack s.heap z TI TO (rawInt T) (.bool f1)) (hT:s.heap.get? T=some oT) (hTI:IsPair s.heap TI (.ref i1) (.ref i2)) (h1:St1 k1 s.heap) (h2:St2 k2 s.heap) (l1:k1<n1) (l2:k2<n2)
  (hQ:∀ h' tk x y,P1 k1 x→P2 k2 y→Ack h' z TI TO (rawInt T) (.bool true)→St1 (k1+1) h'→St2 (k2+1) h'→IsPair h' s.heap.objs.size x y →
   (∀ c o,c≠z→c≠i1→c≠i2→s.heap.get? c=some o→h'.get? c=some o)→Q (.ref s.heap.objs.size) { s with heap:=h',toks:=tk }) :
  wpAny (model prog w) A (Builtin.«zip.__next__» ⟨[.ref z],[]⟩) (fun fin s'=>∃ v,fin=.done (.ret v)∧Q v s') E s:=by
 show wpAny _ _ (field (.ref z) 2 >>= _) _ _ _
 refine wpAny_bind (wpAny_field hz rfl (x:=.bool false) rfl ?_)
 refine wpAny_bind (wpAny_field hz rfl (x:=.ref TI) rfl ?_)
 refine wpAny_bind (wpAny_seqItems hTI rfl ?_)
 refine wpAny_bind ?_
 unfold Builtin.SmallTypes.ownedTupleIsFree
 refine wpAny_bind (wpAny_field hz rfl (x:=rawInt T) rfl ?_)
 show wpAny _ _ (loadIfAlive T >>= _) _ _ _
 refine wpAny_bind (Acu ?_)
 rw[hT]
 refine wpAny_bind (wpAny_field hz rfl (x:=.bool f1) rfl ?_)
 have main:∀ h₁,Heap.SameBut z s.heap h₁→Ack h₁ z TI TO (rawInt T) (.bool true)→∀ (k:Value→Sem PySem.Fin) (hk:∀ v s',(∃ v',(PySem.Fin.done (.ret v):PySem.Fin)=.done (.ret v')∧Q v' s')→wpAny (model prog w) A (k v) (fun fin s'=>∃ v,fin=.done (.ret v)∧Q v s') E s'),
   wpAny (model prog w) A (Builtin.SmallTypes.nextOf (.ref i1)) (fun x s₂=>wpAny (model prog w) A (Builtin.SmallTypes.nextOf (.ref i2)) (fun y s₃=>wpAny (model prog w) A (newTuple [x,y] >>= k) (fun fin s'=>∃ v,fin=.done (.ret v)∧Q v s') E s₃) E s₂) E { s with heap:=h₁ }:=by
  intro h₁ hs₁ hz₁ k hk
  refine D1.item k1 _ _ _ l1 (frm D1 hs₁ X.z1 h1) fun x h₂ t₂ hx g1 hs₂=>?_
  refine D2.item k2 _ _ _ l2 (frm D2 hs₂ X.i12 (frm D2 hs₁ X.z2 h2)) fun y h₃ t₃ hy g2 hs₃=>?_
  refine wpAny_bind (wpAny_newTuple ?_)
  have hsz:h₃.objs.size=s.heap.objs.size:=by rw[hs₃.1,hs₂.1,hs₁.1]
  have up:∀ c o,h₃.get? c=some o→(h₃.push { cls:=.type "tuple",data:=.seq #[x,y] }).get? c=some o:=fun c o e=>Heap.get?_push_of_some _ e
  refine hk _ _ ⟨_,rfl,?_⟩
  have hT₈:IsPair (h₃.push { cls:=.type "tuple",data:=.seq #[x,y] }) h₃.objs.size x y:=Heap.get?_push_size _ rfl
  rw[hsz] at hT₈ ⊢
  exact hQ _ _ x y hx hy (up _ _ (sb hs₃ X.i2z.symm (sb hs₂ X.i1z.symm hz₁))) (D1.frame _ _ _ (frm D1 hs₃ X.i21 g1) fun c hc o e=>up c o e) (D2.frame _ _ _ g2 fun c hc o e=>up c o e) hT₈ fun c o c1 c3 c4 e=>up c o (sb hs₃ c4 (sb hs₂ c3 (sb hs₁ c1 e)))
 cases f1 with
 | true=>
  refine wpAny_pure ?_
  refine wpAny_bind ?_
  rw[← Array.forIn_toList]
  refine wpAny_bind (wpAny_bind (wpAny_holding ?_))
  refine wpAny_bind (wpAny_mono (main s.heap ⟨rfl,fun jj jj=>rfl⟩ hz (fun v=>ret v) fun v s' h=>wpAny_pure h) (fun x s₂ h₂=>wpAny_pure (wpAny_pure ?_)) fun jj jj e=>e)
  refine wpAny_bind (wpAny_bind (wpAny_holding ?_))
  refine wpAny_bind (wpAny_mono h₂ (fun y s₃ h₃=>wpAny_pure (wpAny_pure (wpAny_pure ?_))) fun jj jj e=>e)
  exact h₃
 | false=>
  refine wpAny_bind (wpAny_setField_rec hz (lnk rfl) fun h₁ hz₁ hs₁=>wpAny_pure ?_)
  refine wpAny_bind ?_
  rw[← Array.forIn_toList]
  refine wpAny_bind (wpAny_bind (wpAny_holding ?_))
  refine wpAny_bind (wpAny_mono (main h₁ hs₁ hz₁ (fun v=>ret v) fun v s' h=>wpAny_pure h) (fun x s₂ h₂=>wpAny_pure (wpAny_pure ?_)) fun jj jj e=>e)
  refine wpAny_bind (wpAny_bind (wpAny_holding ?_))
  refine wpAny_bind (wpAny_mono h₂ (fun y s₃ h₃=>wpAny_pure (wpAny_pure (wpAny_pure ?_))) fun jj jj e=>e)
  exact h₃
theorem Agp{Q:PySem.Fin→Shared→Prop}{T:Addr}{oT:Obj}{f0:Value}{f1:Bool}(hf:(f0=.none∧f1=false)∨(f0=rawInt T∧s.heap.get? T=some oT))(D1:Draws prog w A i1 fp1 n1 P1 St1)(X:AeW z TI TO i1 i2 fp1 fp2)
  (hz:Ack s.heap z TI TO f0 (.bool f1)) (hTI:IsPair s.heap TI (.ref i1) (.ref i2)) (h1:St1 n1 s.heap)
  (hE:∀ h' e,(∀ c o,c≠z→c≠i1→s.heap.get? c=some o→h'.get? c=some o)→(∃ o,h'.get? e=some o∧o.cls=.type "StopIteration")→E (.ref e) { s with heap:=h' }) :
  wpAny (model prog w) A (Builtin.«zip.__next__» ⟨[.ref z],[]⟩) Q E s:=by
 show wpAny _ _ (field (.ref z) 2 >>= _) _ _ _
 refine wpAny_bind (wpAny_field hz rfl (x:=.bool false) rfl ?_)
 refine wpAny_bind (wpAny_field hz rfl (x:=.ref TI) rfl ?_)
 refine wpAny_bind (wpAny_seqItems hTI rfl ?_)
 refine wpAny_bind ?_
 unfold Builtin.SmallTypes.ownedTupleIsFree
 refine wpAny_bind (wpAny_field hz rfl (x:=f0) rfl ?_)
 rcases hf with ⟨rfl,rfl⟩ | ⟨rfl,hT⟩
 ·refine wpAny_pure ?_
  refine wpAny_bind (wpAny_rule ?_)
  refine wpAny_bind (wpAny_field hz rfl (x:=.ref TO) rfl ?_)
  refine wpAny_bind (wpAny_setField_rec hz (lnk rfl) fun h₁ hz₁ hs₁=>?_)
  replace hz₁:Ack h₁ z TI TO .ellipsis (.bool false):=hz₁
  refine wpAny_bind ?_
  refine wpAny_bind (wpAny_bind (wpAny_onRaise ?_))
  refine wpAny_bind (D1.done _ _ _ (frm D1 hs₁ X.z1 h1) fun h₂ e hs₂ he=>?_)
  obtain⟨oe,hoe,hce⟩:=he
  have hz₂:Ack h₂ z TI TO .ellipsis (.bool false):=hs₂ _ _ X.i1z.symm hz₁
  have hez:e≠z:=fun x=>by subst x;rw[hz₂] at hoe;cases hoe;simp at hce
  exact wpAny_setField_rec hz₂ (lnk rfl) fun h₃ jj hs₃=>hE h₃ e (fun c o c1 c3 x=>hs₃.extBut _ _ c1 (hs₂ _ _ c3 (hs₁.extBut _ _ c1 x))) ⟨oe,hs₃.extBut _ _ hez hoe,hce⟩
 ·show wpAny _ _ (loadIfAlive T >>= _) _ _ _
  refine wpAny_bind (Acu ?_)
  rw[hT]
  refine wpAny_bind (wpAny_field hz rfl (x:=.bool f1) rfl ?_)
  have main:∀ h₁,Heap.SameBut z s.heap h₁→∀ P,wpAny (model prog w) A (Builtin.SmallTypes.nextOf (.ref i1)) P E { s with heap:=h₁ }:=by
   intro h₁ hs₁ P
   refine D1.done _ _ _ (frm D1 hs₁ X.z1 h1) fun h₂ e hs₂ he=>?_
   exact hE h₂ e (fun c o c1 c3 x=>hs₂ _ _ c3 (hs₁.extBut _ _ c1 x)) he
  cases f1 with
  | true=>
   refine wpAny_pure ?_
   refine wpAny_bind ?_
   rw[← Array.forIn_toList]
   refine wpAny_bind (wpAny_bind (wpAny_holding ?_))
   exact wpAny_bind (main s.heap ⟨rfl,fun jj jj=>rfl⟩ _)
  | false=>
   refine wpAny_bind (wpAny_setField_rec hz (lnk rfl) fun h₁ hz₁ hs₁=>wpAny_pure ?_)
   refine wpAny_bind ?_
   rw[← Array.forIn_toList]
   refine wpAny_bind (wpAny_bind (wpAny_holding ?_))
   exact wpAny_bind (main h₁ hs₁ _)
theorem AdT{Q:Option Value→Shared→Prop}{f0 f1:Value}(hz:Ack s.heap z TI TO f0 f1)
  (h:wpAny (model prog w) A.in1 (Builtin.«zip.__next__» ⟨[.ref z],[]⟩) (fun fin s'=>∃ v,fin=.done (.ret v)∧Q (some v) s') (fun e s'=>(∃ o,s'.heap.get? (Afw e)=some o∧o.cls=.type "StopIteration"∧e=.ref (Afw e))∧Q none s') s):wpAny (model prog w) A (pyNext (.ref z)) Q E s:=by
 have hT:s.TypeIs (.ref z) "zip":=⟨_,hz,rfl⟩
 unfold pyNext
 refine wpAny_bind (wpAny_attempt (wpAny_callSpecial?_slot (name:=Str.ofString "__next__") hT PySem.F.slot_zip_next
  (wpAny_call_entry PySem.F.slot_zip_next hT PySem.F.entry_zip_next (wpAny_mono h (fun fin s' ⟨v,e,q⟩=>⟨v,e,wpAny_pure q⟩) fun e s' ⟨⟨o,ho,hc,he⟩,q⟩=>?_) (PySem.F.args_zip_next_1 _))))
 rw[he]
 refine wpAny_bind (wpAny_isInstance (T:="StopIteration") (b:=true) ⟨o,ho,hc⟩ isSubtype_stop ?_)
 exact wpAny_pure q
end
end Pq
namespace Pq
section
noncomputable abbrev zH1(h:Heap)(l1:Addr):Heap:=h.push { cls:=.type "tuple_iterator",data:=.fields #[.ref l1,.int 0 0] }
noncomputable abbrev zH2(h:Heap)(l1 l2:Addr):Heap:=(zH1 h l1).push { cls:=.type "tuple_iterator",data:=.fields #[.ref l2,.int 0 0] }
noncomputable abbrev zH3(h:Heap)(l1 l2:Addr):Heap:=(zH2 h l1 l2).push { cls:=.type "tuple",data:=.seq #[.ref h.objs.size,.ref (zH1 h l1).objs.size] }
noncomputable abbrev zH4(h:Heap)(l1 l2:Addr):Heap:=(zH3 h l1 l2).push { cls:=.type "tuple",data:=.seq #[.none,.none] }
noncomputable abbrev zH5(h:Heap)(l1 l2:Addr):Heap:=(zH4 h l1 l2).push { cls:=.type "zip",data:=.fields #[.none,.bool false,.bool false,.ref (zH2 h l1 l2).objs.size,.ref (zH3 h l1 l2).objs.size] }
theorem Ae9(l1 l2:Addr)(xs ys:Array Value):
  Meets (Builtin.«zip.__new__» ⟨[.type "zip",.ref l1,.ref l2],[]⟩) (fun jj R s=>s.heap.IsTuple l1 xs∧s.heap.IsTuple l2 ys ∧
   R (.ok (.ret (.ref (zH4 s.heap l1 l2).objs.size))) { s with heap:=zH5 s.heap l1 l2 }):=
 .of_wp fun prog w A R s h=>by
  obtain⟨hp,g,d,tk,os⟩:=s;obtain⟨hl1,hl2,h⟩:=h
  have hsub:=sub_zip
  have hL1:Heap.IsTuple (Shared.heap ⟨hp,g,d,tk,os⟩) l1 xs:=hl1
  have hL2:Heap.IsTuple (Shared.heap ⟨hp.push { cls:=.type "tuple_iterator",data:=.fields #[.ref l1,.int 0 0] },g,d,tk,os⟩) l2 ys:=by obtain⟨o,ho,r⟩:=hl2;exact⟨o,Heap.get?_push_of_some _ ho,r⟩
  repeat (first | with_reducible apply wpAny_pyIter_tuple hL1 | with_reducible apply wpAny_pyIter_tuple hL2 | with_reducible (first | refine wpAny_pure ?_ | refine wpAny_bind ?_ | refine wpAny_holding ?_ | refine wpAny_standAt ?_ | refine wpAny_point ?_ | refine wpAny_rule ?_ | refine wpAny_letGo ?_ | refine wpAny_of_eq (by assumption) ?_ | refine wpAny_typeOf (by assumption) ?_ | refine wpAny_specialOf (by assumption) (by assumption) ?_ | refine wpAny_isInstance (by assumption) (by assumption) ?_ | refine wpAny_call ?_ | refine wpAny_runValue ?_ | refine wpAny_run ?_) | ((with_reducible apply wpAny_load');focus (heap_get;done)) | ((with_reducible apply wpAny_loadPart');focus (heap_get;done)) | ((with_reducible apply wpAny_ite_false);focus (rfl;done)) | ((with_reducible apply wpAny_ite_true);focus (rfl;done)) | wp_delta | wp_step)
  exact⟨_,rfl,h⟩
variable{prog:Program}{w:World}{A:Around}{E:Value→Shared→Prop}{s:Shared}
structure ZNew(h h':Heap)(l1 l2:Addr):Prop where
 z:Ack h' (h.objs.size+4) (h.objs.size+2) (h.objs.size+3) .none (.bool false)
 TI:IsPair h' (h.objs.size+2) (.ref h.objs.size) (.ref (h.objs.size+1))
 TO:IsPair h' (h.objs.size+3) .none .none
 i1:h'.IsTupleIter h.objs.size l1 0
 i2:h'.IsTupleIter (h.objs.size+1) l2 0
 keep:∀ c o,h.get? c=some o→h'.get? c=some o
theorem AdF{l1 l2:Addr}{xs ys:Array Value}{Q:Value→Shared→Prop}(hl1:s.heap.IsTuple l1 xs)(hl2:s.heap.IsTuple l2 ys)
  (h:∀ h',ZNew s.heap h' l1 l2→Q (.ref (s.heap.objs.size+4)) { s with heap:=h' }) :
  wpAny (model prog w) A (call (.type "zip") [.ref l1,.ref l2]) Q E s:=by
 refine callType_new PySem.F.called_zip (by decide) (PySem.F.typeCall_zip_2 _ _) (PySem.F.newCall_zip_2 _ _) (fun obj=>PySem.F.args_object_init_3 obj _ _) PySem.F.entry_zip_new
  (Ae9 l1 l2 xs ys) ⟨hl1,hl2,?_⟩
 have z1:(zH1 s.heap l1).objs.size=s.heap.objs.size+1:=Heap.size_push ..
 have z2:(zH2 s.heap l1 l2).objs.size=s.heap.objs.size+2:=by rw[Heap.size_push,z1]
 have z3:(zH3 s.heap l1 l2).objs.size=s.heap.objs.size+3:=by rw[Heap.size_push,z2]
 have z4:(zH4 s.heap l1 l2).objs.size=s.heap.objs.size+4:=by rw[Heap.size_push,z3]
 have g5:(zH5 s.heap l1 l2).get? (zH4 s.heap l1 l2).objs.size=some _:=Heap.get?_push_size _ rfl
 have g4:(zH5 s.heap l1 l2).get? (zH3 s.heap l1 l2).objs.size=some _:=Heap.get?_push_of_some _ (Heap.get?_push_size _ rfl)
 have g3:(zH5 s.heap l1 l2).get? (zH2 s.heap l1 l2).objs.size=some _:=Heap.get?_push_of_some _ (Heap.get?_push_of_some _ (Heap.get?_push_size _ rfl))
 have g2:(zH5 s.heap l1 l2).get? (zH1 s.heap l1).objs.size=some _:=Heap.get?_push_of_some _ (Heap.get?_push_of_some _ (Heap.get?_push_of_some _ (Heap.get?_push_size _ rfl)))
 have g1:(zH5 s.heap l1 l2).get? s.heap.objs.size=some _:=Heap.get?_push_of_some _ (Heap.get?_push_of_some _ (Heap.get?_push_of_some _ (Heap.get?_push_of_some _ (Heap.get?_push_size _ rfl))))
 rw[z2,z3,z4] at g5
 rw[z1,z2] at g3
 rw[z3] at g4
 rw[z1] at g2
 rw[z4]
 exact⟨⟨_,g5,rfl⟩,h _ ⟨g5,g3,g4,⟨_,g1,rfl,rfl⟩,⟨_,g2,rfl,rfl⟩,fun c o x=>Heap.get?_push_of_some _ (Heap.get?_push_of_some _ (Heap.get?_push_of_some _ (Heap.get?_push_of_some _ (Heap.get?_push_of_some _ x))))⟩⟩
theorem zapart{n l1 l2:Addr}(h1:l1<n)(h2:l2<n):AeW (n+4) (n+2) (n+3) n (n+1) [n,l1] [n+1,l2]:=by
 have n1:∀ k,l1≠n+k:=fun k=>Nat.ne_of_lt (Nat.lt_of_lt_of_le h1 (Nat.le_add_right _ _))
 have n2:∀ k,l2≠n+k:=fun k=>Nat.ne_of_lt (Nat.lt_of_lt_of_le h2 (Nat.le_add_right _ _))
 have e:∀ i j:Nat,i≠j→(n+i:Nat)≠n+j:=fun i j h q=>h (Nat.add_left_cancel q)
 have e0:∀ j:Nat,j≠0→(n:Nat)≠n+j:=fun j h q=>e 0 j (Ne.symm h) (by simpa using q)
 exact⟨e 2 4 (by decide),e 3 4 (by decide),e 2 3 (by decide),(e0 2 (by decide)).symm,e 2 1 (by decide),(e0 3 (by decide)).symm,e 3 1 (by decide),e0 4 (by decide),e 1 4 (by decide),
  by simp only[List.mem_cons,List.not_mem_nil,or_false,not_or];exact⟨(e0 4 (by decide)).symm,(n1 4).symm⟩,
  by simp only[List.mem_cons,List.not_mem_nil,or_false,not_or];exact⟨e 4 1 (by decide),(n2 4).symm⟩,
  by simp only[List.mem_cons,List.not_mem_nil,or_false,not_or];exact⟨(e0 3 (by decide)).symm,(n1 3).symm⟩,
  by simp only[List.mem_cons,List.not_mem_nil,or_false,not_or];exact⟨e 3 1 (by decide),(n2 3).symm⟩,
  by simp only[List.mem_cons,List.not_mem_nil,or_false,not_or];exact⟨e0 1 (by decide),(Nat.ne_of_gt h2)⟩,
  by simp only[List.mem_cons,List.not_mem_nil,or_false,not_or];exact⟨(e0 1 (by decide)).symm,(n1 1).symm⟩⟩
end
section
variable{prog:Program}{w:World}{A:Around}{E:Value→Shared→Prop}{s:Shared}
inductive AccP(h h₀:Heap)(b z TO i1 i2:Addr)(p:Value×Value)(v:Value):Prop
 | mk (a:Addr) (e:v=.ref a) (h1:IsPair h a p.1 p.2) (h2:h₀.get? a=none) (h3:a≠b) (h4:a≠z) (h5:a≠TO) (h6:a≠i1) (h7:a≠i2)
structure ZMid(h₀:Heap)(b z TI TO i1 i2 t1 t2:Addr)(xs ys:Array Value)(k:Nat)(acc:List Value)(base:List Value)(prs:List (Value×Value))(h:Heap):Prop where
 lst:∃ n,IsL h b (base++acc).toArray n
 lz:∃ f0 f1,Ack h z TI TO f0 (.bool f1)∧((f0=.none∧f1=false)∨∃ (T:Addr) (oT:Obj),f0=rawInt T∧h.get? T=some oT∧T≠z∧T≠i1∧T≠i2∧T≠b)
 lTI:IsPair h TI (.ref i1) (.ref i2)
 lTO:∃ a c,IsPair h TO a c
 j1:h.IsTupleIter i1 t1 k
 j2:h.IsTupleIter i2 t2 k
 u1:h.IsTuple t1 xs
 u2:h.IsTuple t2 ys
 accs:All2 (AccP h h₀ b z TO i1 i2) prs acc
 keep:∀ c o,c≠b→h₀.get? c=some o→h.get? c=some o
theorem Aeh{R:Result→Shared→Prop}{h₀:Heap}{b z TI TO i1 i2 t1 t2:Addr}{xs ys:Array Value}{base:List Value}(hh:A.handled=none)(X:AeW z TI TO i1 i2 [i1,t1] [i2,t2])
  (hn:∀ c,c=z∨c=TI∨c=TO∨c=i1∨c=i2→h₀.get? c=none) (hb:∃ o,h₀.get? b=some o) (hbt:b≠t1∧b≠t2) (ht:t1≠i1∧t2≠i2) (hsz:xs.size=ys.size) (hbig:base.length+xs.size≤1000)
  (hR:∀ h' acc,ZMid h₀ b z TI TO i1 i2 t1 t2 xs ys xs.size acc base (List.zip xs.toList ys.toList) h'→∀ h'' tk',(∀ c o,c≠z→c≠i1→h'.get? c=some o→h''.get? c=some o)→R (.ok (.ret .none)) { s with heap:=h'',toks:=tk' }) :
  ∀ (m k:Nat) (acc:List Value) (h:Heap) (tk:Nat),xs.size - k=m→k≤xs.size→ZMid h₀ b z TI TO i1 i2 t1 t2 xs ys k acc base ((List.zip xs.toList ys.toList).take k) h→acc.length=k →
   codeAny (model prog w) A (.builtin "list.extend.loop" ⟨[.ref b,.ref z,.none],[]⟩) R { s with heap:=h,toks:=tk }:=by
 have nb:∀ c,c=z∨c=TI∨c=TO∨c=i1∨c=i2→b≠c:=fun c hc q=>by
  obtain⟨o,e⟩:=hb
  rw[q,hn c hc] at e;exact nos e
 intro m
 induction m with
 | zero=>
  intro k acc h tk hm hk M hl
  have hkn:k=xs.size:=Nat.le_antisymm hk (Nat.le_of_sub_eq_zero hm)
  subst hkn
  refine codeAny_builtin PySem.F.entry_extend_loop ?_
  rw[Around.under_plainId PySem.F.plain_extend_loop _]
  obtain⟨f0,f1,hz,hf⟩:=M.lz
  have D1:=AbL (prog:=prog) (w:=w) (A:=A.in1.in1) hh i1 t1 ht.1 xs
  have hlz:(List.zip xs.toList ys.toList).take xs.size=List.zip xs.toList ys.toList:=List.take_of_length_le (Nat.le_trans (Nat.le_of_eq List.length_zip) (Nat.le_trans (Nat.min_le_left ..) (Nat.le_of_eq Array.length_toList)))
  have hM:=M
  rw[hlz] at hM
  refine wpAny_bind (AdT hz ?_)
  have he:∀ h' e,(∀ c o,c≠z→c≠i1→h.get? c=some o→h'.get? c=some o)→(∃ o,h'.get? e=some o∧o.cls=.type "StopIteration") →
    (∃ o,h'.get? (Afw (.ref e))=some o∧o.cls=.type "StopIteration"∧(Value.ref e)=.ref (Afw (.ref e)))∧wpAny (model prog w) A.in1 (ret Value.none) (fun fin s'=>match fin with | .done f=>R (.ok f) s' | .again c'=>c'.quiet=true∧codeAny (model prog w) A c' R s') (fun e s'=>R (.error e) s') { s with heap:=h',toks:=tk }:=
   (by rintro h' e hk ⟨o,ho,hc⟩;exact⟨⟨o,ho,hc,rfl⟩,wpAny_pure (hR h acc hM h' tk hk)⟩)
  rcases hf with ⟨rfl,rfl⟩ | ⟨T,oT,rfl,hT,_⟩
  ·exact Agp (T:=0) (oT:=default) (.inl ⟨rfl,rfl⟩) D1 X hz M.lTI ⟨M.j1,M.u1⟩ he
  ·exact Agp (.inr ⟨rfl,hT⟩) D1 X hz M.lTI ⟨M.j1,M.u1⟩ he
 | succ m ih=>
  intro k acc h tk hm hk M hl
  have hlt:k<xs.size:=Nat.lt_of_sub_eq_succ hm
  refine codeAny_builtin PySem.F.entry_extend_loop ?_
  rw[Around.under_plainId PySem.F.plain_extend_loop _]
  obtain⟨f0,f1,hz,hf⟩:=M.lz
  have D1:=AbL (prog:=prog) (w:=w) (A:=A.in1.in1) hh i1 t1 ht.1 xs
  have D2:=AbL (prog:=prog) (w:=w) (A:=A.in1.in1) hh i2 t2 ht.2 ys
  refine wpAny_bind (AdT hz ?_)
  have hzlt:=Heap.lt_size hz
  have step:∀ h' tk' x y (f0':Value) (f1':Bool),xs[k]?=some x→ys[k]?=some y→Ack h' z TI TO f0' (.bool f1')→((f0'=.none∧f1'=false)∨∃ (T:Addr) (oT:Obj),f0'=rawInt T∧h'.get? T=some oT∧T≠z∧T≠i1∧T≠i2∧T≠b)→h'.IsTupleIter i1 t1 (k+1)→h'.IsTupleIter i2 t2 (k+1)→IsPair h' h.objs.size x y →
    (∀ c o,c≠z→c≠TO→c≠i1→c≠i2→h.get? c=some o→h'.get? c=some o)→(∃ a c,IsPair h' TO a c) →
    ∃ v,(PySem.Fin.done (.ret (.ref h.objs.size)):PySem.Fin)=.done (.ret v)∧wpAny (model prog w) A.in1 (Builtin.List.listUpdate (.ref b) (·.push v) >>= fun jj=>again (.builtin "list.extend.loop" ⟨[.ref b,.ref z,.none],[]⟩)) (fun fin s'=>match fin with | .done f=>R (.ok f) s' | .again c'=>c'.quiet=true∧codeAny (model prog w) A c' R s') (fun e s'=>R (.error e) s') { s with heap:=h',toks:=tk' }:=by
   intro h' tk' x y f0' f1' hx hy hz' hf' j1' j2' hp hkeep hTO'
   refine⟨_,rfl,?_⟩
   obtain⟨n,hL⟩:=M.lst
   have hL':IsL h' b (base++acc).toArray n:=hkeep b _ (nb z (.inl rfl)) (nb TO (.inr (.inr (.inl rfl)))) (nb i1 (.inr (.inr (.inr (.inl rfl))))) (nb i2 (.inr (.inr (.inr (.inr rfl))))) hL
   have hsl:((base++acc).toArray).size≤sizeLine:=by rw[List.size_toArray,List.length_append,hl,sizeLine_eq];exact ln3 (.c 1 (.b 0 1) (.n 1000) (.c 1 (.p 2 1) (.v 1) (.g 0 (.b 0 2) (.n 16777216)))) rfl hbig hlt
   refine wpAny_bind ?_
   refine wpAny_updateSeq hL' rfl (hz:=hsl) (_hz':=by rw[Array.size_push];exact Nat.add_le_add_right hsl 1) (wpAny_pure ⟨plainId_quiet PySem.F.plain_extend_loop _,ih (k+1) (acc++[.ref h.objs.size]) _ tk' (congrArg Nat.pred hm) hlt ?_ (by simp[hl])⟩)
   have hsame:Heap.SameBut b h' (h'.update b (Obj.mapSeq fun v=>v.push (.ref h.objs.size))):=Heap.SameBut.update ..
   have kb:∀ c o,c≠b→h'.get? c=some o→(h'.update b (Obj.mapSeq fun v=>v.push (.ref h.objs.size))).get? c=some o:=fun c o hc e=>sb hsame hc e
   have hfresh:∀ c,(∃ o,h.get? c=some o)→h.objs.size≠c:=by rintro c ⟨o,e⟩ q;exact Nat.lt_irrefl _ (q▸Heap.lt_size e)
   obtain⟨o1,e1,r1⟩:=M.j1
   obtain⟨o2,e2,r2⟩:=M.j2
   obtain⟨ot1,et1,rt1⟩:=M.u1
   obtain⟨ot2,et2,rt2⟩:=M.u2
   obtain⟨a0,c0,eTO⟩:=M.lTO
   have nz1:t1≠z:=fun q=>X.z1 (by simp[q])
   have nz2:t2≠z:=fun q=>X.z2 (by simp[q])
   have no1:t1≠TO:=fun q=>X.o1 (by simp[q])
   have no2:t2≠TO:=fun q=>X.o2 (by simp[q])
   have n21:t1≠i2:=fun q=>X.i21 (by simp[q])
   have n12:t2≠i1:=fun q=>X.i12 (by simp[q])
   refine⟨⟨_,by simpa using IsL.update hL' (fun v=>v.push (.ref h.objs.size))⟩,⟨f0',f1',kb _ _ (nb z (.inl rfl)).symm hz',hf'.imp id (by rintro⟨T,oT,a,e,r1,r2,r3,r4⟩;exact⟨T,oT,a,kb T oT r4 e,r1,r2,r3,r4⟩)⟩,
    kb _ _ (nb TI (.inr (.inl rfl))).symm (hkeep _ _ X.TIz X.TITO X.TIi1 X.TIi2 M.lTI),?_,?_,?_,⟨ot1,kb _ _ hbt.1.symm (hkeep _ _ nz1 no1 ht.1 n21 et1),rt1⟩,⟨ot2,kb _ _ hbt.2.symm (hkeep _ _ nz2 no2 n12 ht.2 et2),rt2⟩,?_,fun c o hc e=>?_⟩
   ·obtain⟨a,c,e⟩:=hTO';exact⟨a,c,kb _ _ (nb TO (.inr (.inr (.inl rfl)))).symm e⟩
   ·obtain⟨o,e,r⟩:=j1';exact⟨o,kb _ _ (nb i1 (.inr (.inr (.inr (.inl rfl))))).symm e,r⟩
   ·obtain⟨o,e,r⟩:=j2';exact⟨o,kb _ _ (nb i2 (.inr (.inr (.inr (.inr rfl))))).symm e,r⟩
   ·have htk:(List.zip xs.toList ys.toList).take (k+1)=(List.zip xs.toList ys.toList).take k++[(x,y)]:=by
     have hg:(List.zip xs.toList ys.toList)[k]?=some (x,y):=List.getElem?_zip_eq_some.mpr ⟨(Array.getElem?_toList ..).trans hx,(Array.getElem?_toList ..).trans hy⟩
     rw[List.take_add_one,hg];rfl
    rw[htk]
    refine(M.accs.mono (by rintro p v ⟨a,ev,hp,q1,q2,q3,q4,q5,q6⟩;exact⟨a,ev,kb _ _ q2 (hkeep _ _ q3 q4 q5 q6 hp),q1,q2,q3,q4,q5,q6⟩)).append (All2.cons ⟨_,rfl,kb _ _ (hfresh b ⟨_,hL⟩) hp,?_,hfresh b ⟨_,hL⟩,hfresh z ⟨_,hz⟩,hfresh TO ⟨_,eTO⟩,hfresh i1 ⟨_,e1⟩,hfresh i2 ⟨_,e2⟩⟩ All2.nil)
    cases q:h₀.get? h.objs.size with
    | none=>rfl
    | some o=>
     have hbn:=hfresh b ⟨_,hL⟩
     have:=Heap.lt_size (M.keep _ o hbn q)
     exact absurd this (Nat.lt_irrefl _)
   ·exact kb c o hc (hkeep c o (fun q=>by rw[q,hn z (.inl rfl)] at e;exact nos e) (fun q=>by rw[q,hn TO (.inr (.inr (.inl rfl)))] at e;exact nos e) (fun q=>by rw[q,hn i1 (.inr (.inr (.inr (.inl rfl))))] at e;exact nos e) (fun q=>by rw[q,hn i2 (.inr (.inr (.inr (.inr rfl))))] at e;exact nos e) (M.keep c o hc e))
  have fin:∀ {P:Value→Shared→Prop},wpAny (model prog w) A.in1.in1 (Builtin.«zip.__next__» ⟨[.ref z],[]⟩) (fun fin s'=>∃ v,fin=.done (.ret v)∧P v s') (fun jj jj=>False) { s with heap:=h,toks:=tk }→∀ {P':PySem.Fin→Shared→Prop} {E':Value→Shared→Prop},(∀ v s',P v s'→P' (.done (.ret v)) s') →
    wpAny (model prog w) A.in1.in1 (Builtin.«zip.__next__» ⟨[.ref z],[]⟩) P' E' { s with heap:=h,toks:=tk }:=by
   intro P h1 P' E' k
   exact wpAny_mono h1 (by rintro fin s' ⟨v,e,q⟩;subst e;exact k v s' q) fun _ _ (f:False)=>f.elim
  rcases hf with ⟨rfl,rfl⟩ | ⟨T,oT,rfl,hT,hTz,hT1,hT2,hTb⟩
  ·obtain⟨a0,c0,eTO⟩:=M.lTO
   refine fin (P:=fun v s'=>∃ h' tk',v=.ref h.objs.size∧s'={ s with heap:=h',toks:=tk' }∧∃ v',(PySem.Fin.done (.ret v):PySem.Fin)=.done (.ret v')∧wpAny (model prog w) A.in1 (Builtin.List.listUpdate (.ref b) (·.push v') >>= fun jj=>again (.builtin "list.extend.loop" ⟨[.ref b,.ref z,.none],[]⟩)) (fun fin s'=>match fin with | .done f=>R (.ok f) s' | .again c'=>c'.quiet=true∧codeAny (model prog w) A c' R s') (fun e s'=>R (.error e) s') s')
    (AcZ D1 D2 X hz M.lTI eTO ⟨M.j1,M.u1⟩ ⟨M.j2,M.u2⟩ hlt (by exact Nat.le_trans hlt (Nat.le_of_eq hsz)) fun h' tk' x y hx hy hz' hTO' g1 g2 hp hs' hkeep=>⟨h',tk',rfl,rfl,step h' tk' x y _ false hx hy hz' (.inr ⟨h.objs.size,_,rfl,hp,?_,?_,?_,?_⟩) g1.1 g2.1 hp hkeep ⟨x,y,hTO'⟩⟩) (by rintro v s' ⟨h',tk',e1,e2,v',e3,q⟩;exact⟨v',e3,q⟩)
   ·exact fun q=>Nat.lt_irrefl _ (q▸Heap.lt_size hz)
   ·obtain⟨o,e,_⟩:=M.j1;exact fun q=>Nat.lt_irrefl _ (q▸Heap.lt_size e)
   ·obtain⟨o,e,_⟩:=M.j2;exact fun q=>Nat.lt_irrefl _ (q▸Heap.lt_size e)
   ·obtain⟨n,e⟩:=M.lst;exact fun q=>Nat.lt_irrefl _ (q▸Heap.lt_size e)
  ·obtain⟨a0,c0,eTO⟩:=M.lTO
   refine fin (P:=fun v s'=>∃ h' tk',v=.ref h.objs.size∧s'={ s with heap:=h',toks:=tk' }∧∃ v',(PySem.Fin.done (.ret v):PySem.Fin)=.done (.ret v')∧wpAny (model prog w) A.in1 (Builtin.List.listUpdate (.ref b) (·.push v') >>= fun jj=>again (.builtin "list.extend.loop" ⟨[.ref b,.ref z,.none],[]⟩)) (fun fin s'=>match fin with | .done f=>R (.ok f) s' | .again c'=>c'.quiet=true∧codeAny (model prog w) A c' R s') (fun e s'=>R (.error e) s') s')
    (AeX D1 D2 X hz hT M.lTI ⟨M.j1,M.u1⟩ ⟨M.j2,M.u2⟩ hlt (by exact Nat.le_trans hlt (Nat.le_of_eq hsz)) fun h' tk' x y hx hy hz' g1 g2 hp hkeep=>⟨h',tk',rfl,rfl,step h' tk' x y _ true hx hy hz' (.inr ⟨T,oT,rfl,hkeep T oT hTz hT1 hT2 hT,hTz,hT1,hT2,hTb⟩) g1.1 g2.1 hp (fun c o c1 c2 c3 c4 e=>hkeep c o c1 c3 c4 e) ⟨a0,c0,hkeep _ _ X.TOz X.TOi1 X.TOi2 eTO⟩⟩) (by rintro v s' ⟨h',tk',e1,e2,v',e3,q⟩;exact⟨v',e3,q⟩)
end
end Pq
namespace Pq
theorem AhD:typeLookup (.type "zip") "__len__"=pure none:=by rw[typeLookup_type,builtinLookup_eq_fast];kernel_rfl
theorem Ago:typeLookup (.type "zip") (Str.ofString "__length_hint__")=pure none:=by rw[typeLookup_type,builtinLookup_eq_fast];kernel_rfl
section
variable{prog:Program}{w:World}{A:Around}{E:Value→Shared→Prop}{s:Shared}
theorem Ah2{P:Value→Shared→Prop}{h₀:Heap}{b t1 t2:Addr}{xs ys:Array Value}{base:List Value}{n:Nat}(hh:A.handled=none)(hb:h₀.get? b=some { cls:=.type "list",data:=.seq base.toArray n })
  (ht1:h₀.IsTuple t1 xs) (ht2:h₀.IsTuple t2 ys) (hbt:b≠t1∧b≠t2) (hsz:xs.size=ys.size) (hbig:base.length+xs.size≤1000) (hN:ZNew h₀ s.heap t1 t2)
  (hP:∀ h' tk acc,(∃ m,IsL h' b (base++acc).toArray m)→All2 (fun (p:Value×Value) v=>∃ a,v=.ref a∧IsPair h' a p.1 p.2∧h₀.get? a=none) (List.zip xs.toList ys.toList) acc→(∀ c o,c≠b→h₀.get? c=some o→h'.get? c=some o)→P .none { s with heap:=h',toks:=tk }) :
  wpAny (model prog w) A (call (.builtin "list.extend") [.ref b,.ref (h₀.objs.size+4)]) P E s:=by
 obtain⟨ot1,et1,rt1⟩:=id ht1
 obtain⟨ot2,et2,rt2⟩:=id ht2
 have l1:=Heap.lt_size et1
 have l2:=Heap.lt_size et2
 have lb:=Heap.lt_size hb
 have hL:IsL s.heap b base.toArray n:=hN.keep _ _ hb
 have hbne:∀ k,b≠h₀.objs.size+k:=fun k=>Nat.ne_of_lt (Nat.lt_of_lt_of_le lb (Nat.le_add_right _ _))
 have hbne0:b≠h₀.objs.size:=Nat.ne_of_lt lb
 have hz:IsZip s.heap (h₀.objs.size+4) (h₀.objs.size+2) (h₀.objs.size+3) .none:=hN.z
 have hT:s.TypeIs (.ref (h₀.objs.size+4)) "zip":=⟨_,hz,rfl⟩
 refine wpAny_call (codeAny_call_builtin PySem.F.slot_list_extend.plain PySem.F.entry_list_extend (PySem.F.slot_list_extend.check _ _ _ _ _ _ _ _ ⟨_,hL,rfl⟩ (PySem.F.args_list_extend_2 _ _) ?_))
 show wpAny _ A.in1 (Builtin.List.listExtendWith (.ref b) (.ref (h₀.objs.size+4)) .none) _ _ s
 unfold Builtin.List.listExtendWith
 refine wpAny_bind (wpAny_typeOf hT ?_)
 have h1:Builtin.List.listSameRef (.ref b) (.ref (h₀.objs.size+4))=false:=by
  exact beq_false_of_ne (hbne 4)
 have h2:(Value.type "zip"==Value.type "list")=false:=by decide
 have h3:(Value.type "zip"==Value.type "tuple")=false:=by decide
 rw[h1,h2,h3,if_neg (show ¬ (false||false||false)=true from Bool.false_ne_true)]
 refine wpAny_bind (wpAny_pyIter_zip hz ?_)
 refine wpAny_bind (wpAny_holding ?_)
 unfold Builtin.List.listLengthHint
 refine wpAny_bind (wpAny_specialOf hT AhD ?_)
 refine wpAny_bind (wpAny_specialOf hT Ago ?_)
 refine wpAny_pure ?_
 refine wpAny_bind (wpAny_rule ?_)
 refine wpAny_bind ?_
 have hs1:base.toArray.size≤sizeLine:=by rw[List.size_toArray,sizeLine_eq];exact ln2 (.c 1 (.b 0 1) (.n 1000) (.g 0 (.v 0) (.n 16777216))) rfl hbig
 refine wpAny_bind (wpAny_updateSeq hL rfl (hz:=hs1) (_hz':=by rw[Array.size_push];exact Nat.add_le_add_right hs1 1) ?_)
 have hL2:IsL (s.heap.update b (Obj.mapSeq (·.push Value.none))) b (base.toArray.push .none) _:=IsL.update hL (·.push Value.none)
 refine wpAny_updateSeq hL2 rfl (hz:=by rw[Array.size_push,List.size_toArray,sizeLine_eq];exact ln2 (.c 1 (.b 0 1) (.n 1000) (.g 0 (.p 0 1) (.n 16777216))) rfl hbig) (_hz':=by rw[Array.size_pop,Array.size_push,List.size_toArray,sizeLine_eq];lia) ?_
 have hL3:=IsL.update hL2 (·.pop)
 have oth:∀ c o,c≠b→s.heap.get? c=some o→((s.heap.update b (Obj.mapSeq (·.push Value.none))).update b (Obj.mapSeq (·.pop))).get? c=some o:=
  fun c o hc e=>(Heap.get?_update_other _ _ (Ne.symm hc)).trans ((Heap.get?_update_other _ _ (Ne.symm hc)).trans e)
 generalize hG:(s.heap.update b (Obj.mapSeq (·.push Value.none))).update b (Obj.mapSeq (·.pop))=G at hL3 oth
 have hn:∀ c,c=h₀.objs.size+4∨c=h₀.objs.size+2∨c=h₀.objs.size+3∨c=h₀.objs.size∨c=h₀.objs.size+1→h₀.get? c=none:=by
  rintro c (rfl | rfl | rfl | rfl | rfl)<;>exact Heap.get?_none_of_le (by lia)
 have M:ZMid h₀ b (h₀.objs.size+4) (h₀.objs.size+2) (h₀.objs.size+3) h₀.objs.size (h₀.objs.size+1) t1 t2 xs ys 0 [] base ((List.zip xs.toList ys.toList).take 0) G:=by
  obtain⟨o1,e1,r1⟩:=hN.i1
  obtain⟨o2,e2,r2⟩:=hN.i2
  exact⟨⟨_,by simpa using hL3⟩,⟨.none,false,oth _ _ (hbne 4).symm hN.z,.inl ⟨rfl,rfl⟩⟩,oth _ _ (hbne 2).symm hN.TI,⟨_,_,oth _ _ (hbne 3).symm hN.TO⟩,⟨o1,oth _ _ hbne0.symm e1,r1⟩,⟨o2,oth _ _ (hbne 1).symm e2,r2⟩,
   ⟨ot1,oth _ _ hbt.1.symm (hN.keep _ _ et1),rt1⟩,⟨ot2,oth _ _ hbt.2.symm (hN.keep _ _ et2),rt2⟩,rfl,fun c o hc e=>oth c o hc (hN.keep _ _ e)⟩
 refine wpAny_pure ⟨plainId_quiet PySem.F.plain_extend_loop _,?_⟩
 have X:=zapart l1 l2
 refine Aeh (s:=s) hh X hn ⟨_,hb⟩ hbt ⟨Nat.ne_of_lt l1,Nat.ne_of_lt (Nat.lt_of_lt_of_le l2 (Nat.le_succ _))⟩ hsz hbig (fun h' acc M' h'' tk' k=>?_) xs.size 0 [] G s.toks (by lia) (ln1 (.g 0 (.n 0) (.v 0)) rfl) M rfl
 obtain⟨m,e⟩:=M'.lst
 refine hP h'' tk' acc ⟨m,k _ _ (hbne 4) hbne0 e⟩ (M'.accs.mono (by rintro p v ⟨a,ev,hp,q1,q2,q3,q4,q5,q6⟩;exact⟨a,ev,k _ _ q3 q5 hp,q1⟩)) fun c o hc e=>k c o (fun q=>by rw[q,hn _ (.inl rfl)] at e;exact nos e) (fun q=>by rw[q,hn _ (.inr (.inr (.inr (.inl rfl))))] at e;exact nos e) (M'.keep c o hc e)
end
variable[Own]
noncomputable def AdI(l m:List AV):List AV:=List.zipWith (fun x y=>.tup [x,y]) l m
theorem zip_vals{h h':Heap}(T:TupKeep h h'){l1 l2:List AV}{xs ys acc:List Value}(h1:VRs h l1 xs)(h2:VRs h l2 ys)(h3:All2 (fun (p:Value×Value) v=>∃ a,v=.ref a∧IsPair h' a p.1 p.2∧¬ Own.bad a) (List.zip xs ys) acc):VRs h' (AdI l1 l2) acc:=by
 induction l1 generalizing l2 xs ys acc with
 | nil=>rw[show xs=[] from h1] at h3;exact h3
 | cons x l1 ih=>
  obtain⟨v,r,rfl,hv,hr⟩:=h1
  cases l2 with
  | nil=>rw[show ys=[] from h2] at h3;exact h3
  | cons y l2=>
   obtain⟨v',r',rfl,hv',hr'⟩:=h2
   obtain⟨u,acc',rfl,⟨a,rfl,hp,hb⟩,ht⟩:=h3
   exact⟨_,acc',rfl,⟨a,#[v,v'],rfl,⟨_,hp,hb⟩,⟨_,_,rfl,hv.mono T,⟨_,_,rfl,hv'.mono T,rfl⟩⟩⟩,ih hr hr' ht⟩
section
variable{B:Aaj}{d:Nat}{env:Env}{vars:Vars}{σ:AH}{pos:Pos}{A:Around}{s:Shared}
inductive EzQ(b:Addr)(v1 v2:AV)(Q:AV→AH→Prop)(σ₄:AH):Prop
 | mk (l l1 l2:List AV) (hb:σ₄ b=some (.list l)) (e1:v1=.tup l1) (e2:v2=.tup l2) (hl:l1.length=l2.length) (hz:l.length+l1.length≤1000) (q:Q .none (upd σ₄ b (.list (l++AdI l1 l2))))
inductive EzA(B:Aaj)(d:Nat)(env:Env)(vars:Vars)(e1 e2:Expr)(Q:AV→AH→Prop)(ov:AV)(σ₁:AH):Prop
 | mk (b:Addr) (l:List AV) (e:ov=.obj b) (h1:σ₁ b=some (.list l)) (h:AE B d env vars (eval e1 env) σ₁ (Snd B d env vars e2 fun v1 v2=>EzQ b v1 v2 Q))
theorem Af8(O:BOk B){zf:Str}{fp:Pos}{o e1 e2:Expr}{apos zpos:Pos}{Q:AV→AH→Prop}
  (hbase:attributeBase o "extend" env (eval o env)=eval o env)
  (hline:(apos.endLine==pos.line)=true) (he:AdW e1=true) (he2:AdW e2=true) (hk:gOk env zf [e1,e2]=true) (hg:Abi B.K zf=some (.type "zip")) (h:AE B d env vars (eval o env) σ (EzA B d env vars e1 e2 Q)) :
  AE B d env vars (eval (.Call (.Attribute o "extend" apos) [.Call (.Name zf fp) [e1,e2] [] zpos] [] pos) env) σ Q:=by
 intro A s r S R
 refine Act ((h A s r S R).wp fun ov s₁ oa σ₁ q ro x=>?_) hbase rfl hline
 obtain⟨b,lb,rfl,hb1,q⟩:=q
 obtain rfl:ov=.ref b:=ro
 refine⟨.builtin "list.extend",fun pl P E hp=>AfM hb1 A s₁ _ pl P E x.st rfl hp,?_⟩
 refine callWith_builtin rfl (evalArgs_plain (spliced_cons ?_))
 refine Acd O r x.st (R.go x) hk hg rfl (Aab he (q.mono fun v1 σ₃ q₃=>Aab he2 (AE.mono (t:=eval e2 env) q₃ fun v2 σ₄ q₄=>Aaf ?_)))
 intro s₂ vs S₂ rv y
 obtain⟨l,l1,l2,hb,rfl,rfl,hl12,hbig,q₄⟩:=q₄
 obtain⟨_,_,rfl,⟨t1,xs,rfl,ht1,rt1⟩,_,_,rfl,⟨t2,ys,rfl,ht2,rt2⟩,rfl⟩:=rv
 obtain⟨items,n,hL,rt⟩:=(S₂.objs b _ hb).listL
 have hsz:=VRs.size rt
 have hs1:=VRs.size rt1
 have hs2:=VRs.size rt2
 refine AdF ht1.isTuple ht2.isTuple fun h' hN=>spliced_nil ?_
 have hbt:b≠t1∧b≠t2:=by
  refine⟨fun q=>?_,fun q=>?_⟩
  ·obtain⟨nn,e,_⟩:=ht1;rw[← q,hL] at e;simp at e
  ·obtain⟨nn,e,_⟩:=ht2;rw[← q,hL] at e;simp at e
 have hL':s₂.heap.get? b=some { cls:=.type "list",data:=.seq items.toList.toArray n }:=by simpa using hL
 refine Ah2 (s:={ s₂ with heap:=h' }) (base:=items.toList) r.handled hL' ht1.isTuple ht2.isTuple hbt (Nat.le_antisymm (ln4 (.e 1 0 (.v 0) (.v 1) (.e 0 1 (.v 0) (.v 2) (.e 1 0 (.v 1) (.v 3) (.g 0 (.v 2) (.v 3))))) rfl hl12 hs1 hs2) (ln4 (.e 0 1 (.v 0) (.v 1) (.e 1 0 (.v 0) (.v 2) (.e 0 1 (.v 1) (.v 3) (.g 0 (.v 3) (.v 2))))) rfl hl12 hs1 hs2)) (by rw[Array.length_toList];exact ln4 (.c 1 (.b 0 1) (.n 1000) (.e 0 1 (.v 0) (.v 2) (.e 0 1 (.v 1) (.v 3) (.g 0 (.b 2 3) (.n 1000))))) rfl hbig hsz hs1) hN fun h₃ tk acc ⟨m,e⟩ hacc hk=>?_
 have T:TupKeep s₂.heap h₃:=fun a its ⟨nn,e,z⟩=>⟨nn,hk a _ (fun q=>by rw[q,hL] at e;simp at e) e,z⟩
 have fin:Ext B noX σ₄ s₂ (upd σ₄ b (.list (l++AdI l1 l2))) { s₂ with heap:=h₃,toks:=tk }:=by
  refine Ext.set S₂ hb (fun c o hc e=>hk c o hc e) ⟨(items.toList++acc).toArray,⟨m,e⟩,?_⟩
  refine Aao.mpr ((Aao.mp (rt.mono T)).append (Aao.mp ?_))
  exact zip_vals T rt1 rt2 (hacc.mono (by rintro p v ⟨a,ev,hp,hn⟩;exact⟨a,ev,hp,S₂.nbad hn⟩))
 exact⟨.none,_,q₄,rfl,(x.trans y).trans fin⟩
end
end Pq
namespace Pq
section
variable{i j:Own}{h h':Heap}
mutual
theorem VR.sw(k:∀ a items,@PT i h a items→@PT j h' a items):∀ {x:AV} {v:Value},@VR i h x v→@VR j h' x v
 | .none,_,e=>e
 | .bool _,_,e=>e
 | .int _,_,e=>e
 | .str _,_,e=>e
 | .tup _,_,⟨a,items,e,t,r⟩=>⟨a,items,e,k _ _ t,VRs.sw k r⟩
 | .obj _,_,e=>e
 | .raw _,_,e=>e
theorem VRs.sw(k:∀ a items,@PT i h a items→@PT j h' a items):∀ {l:List AV} {vs:List Value},@VRs i h l vs→@VRs j h' l vs
 | [],_,e=>e
 | _::_,_,⟨v,r,e,a,b⟩=>⟨v,r,e,VR.sw k a,VRs.sw k b⟩
end
theorem OR.sw{w:World}{a:Addr}{o:AO}(k:∀ a items,@PT i h a items→@PT j h' a items)(x:@OR i w h a o)(q:∀ ob,h.get? a=some ob→h'.get? a=some ob):@OR j w h' a o:=by
 cases o with
 | list l=>obtain⟨items,⟨n,e⟩,r⟩:=x;exact⟨items,⟨n,q _ e⟩,VRs.sw k r⟩
 | dict kvs=>obtain⟨es,n,e,r,z⟩:=x;exact⟨es,n,q _ e,All2.mono (R:=@Aie i w h) (R':=@Aie j w h') (fun jj jj z=>by obtain⟨z1,z2,z3⟩:=z;exact⟨z1,VR.sw k z2,VR.sw k z3⟩) r,z⟩
 | inst c d=>exact q _ x
 | cdict es n kvs=>obtain⟨e,r,z⟩:=x;exact⟨q _ e,All2.mono (R:=@Aie i w h) (R':=@Aie j w h') (fun jj jj z=>by obtain⟨z1,z2,z3⟩:=z;exact⟨z1,VR.sw k z2,VR.sw k z3⟩) r,z⟩
 | attrs kvs=>obtain⟨es,n,e,r,z⟩:=x;exact⟨es,n,q _ e,All2.mono (R:=@Ajq i h) (R':=@Ajq j h') (fun jj jj z=>by obtain⟨z1,z2⟩:=z;exact⟨z1,VR.sw k z2⟩) r,z⟩
theorem EnvR.sw{B:Aaj}{σ:AH}{env:Env}{vars:Vars}(k:∀ a items,@PT i h a items→@PT j h' a items)(R:@EnvR i B σ h env vars)(q:∀ b,Abz env b→∀ o,h.get? b=some o→h'.get? b=some o):@EnvR j B σ h' env vars:=by
 obtain⟨r1,r2,r3,⟨mm,hmm,hv⟩,r5,r6,r7,r8⟩:=R
 refine⟨r1,r2,r3,⟨mm,(by obtain⟨oL,es,ep,hL,rr⟩:=hmm;exact⟨oL,es,ep,q _ (.inl rfl) _ hL,rr⟩),fun x hx=>(hv x hx).mono fun jj jj z=>VR.sw k z⟩,r5,fun x hx=>?_,fun x c hc=>?_,r8⟩
 ·obtain⟨c,v,h1,⟨o,ho,hd⟩,h3⟩:=r6 x hx
  exact⟨c,v,h1,⟨o,q c (.inr ⟨x,mem_of_lookup h1⟩) o ho,hd⟩,h3.mono fun jj jj z=>VR.sw k z⟩
 ·obtain⟨h1,h2,h3,v,o,ho,hd⟩:=r7 x c hc
  exact⟨h1,h2,h3,v,o,q c (.inr ⟨x,hc⟩) o ho,hd⟩
end
structure Ext2(i j:Own)(B:Aaj)(X:Addr→Prop)(σ:AH)(s:Shared)(σ':AH)(s':Shared):Prop where
 st:@St j B σ' s'
 tup:∀ a items,@PT i s.heap a items→@PT j s'.heap a items
 keep:∀ b o,s.heap.get? b=some o→σ b=none→¬ X b→s'.heap.get? b=some o
 fresh:∀ b,σ b=none→σ' b≠none→s.heap.get? b=none
 live:∀ b o,s.heap.get? b=some o→∃ o',s'.heap.get? b=some o'
section
variable{i j:Own}{B:Aaj}{X Y:Addr→Prop}{σ σ₁ σ₂:AH}{s s₁ s₂:Shared}{fp:List Addr}
theorem Ext2.stay(x:Ext2 i j B X σ s σ₁ s₁){b:Addr}{o:Obj}(e:s.heap.get? b=some o)(h:σ b=none):σ₁ b=none:=by
 cases q:σ₁ b with
 | none=>rfl
 | some o'=>have:=x.fresh b h (by rw[q];simp);exact nosn e this
theorem Ext2.step(x:Ext2 i j B X σ s σ₁ s₁)(y:@Ext j B X σ₁ s₁ σ₂ s₂):Ext2 i j B X σ s σ₂ s₂:=by
 refine⟨y.st,fun a items t=>y.tup _ _ (x.tup _ _ t),fun b o e h1 h2=>y.keep b o (x.keep b o e h1 h2) (x.stay e h1) h2,fun b h1 h2=>?_,fun b o e=>(by obtain⟨o₁,e₁⟩:=x.live b o e;exact y.live b o₁ e₁)⟩
 cases e:σ₁ b with
 | none=>
  have h3:=y.fresh b e h2
  cases q:s.heap.get? b with
  | none=>rfl
  | some o=>obtain⟨o₁,e₁⟩:=x.live b o q;exact nosn e₁ h3
 | some o=>exact x.fresh b h1 (by rw[e];simp)
theorem Ext2.start(S:@St i B σ s){h':Heap}{t:Nat}(k:∀ b o,s.heap.get? b=some o→h'.get? b=some o)(hb:∀ b,@Own.bad j b→@Own.bad i b∨(s.heap.get? b=none∧∃ o,h'.get? b=some o)):
  Ext2 i j B X σ s σ { s with heap:=h',toks:=t }:=by
 have T:∀ a items,@PT i s.heap a items→@PT j h' a items:=by rintro a items ⟨n,e,z⟩;exact⟨n,k _ _ e,fun q=>(hb a q).elim z fun ⟨q,_⟩=>by exact nosn e q⟩
 obtain⟨s1,s2,s3,s4,s5,s6,s7⟩:=S
 exact⟨⟨fun b o e=>k b o (s1 b o e),s2,fun a o e=>OR.sw T (s3 a o e) (fun jj q=>k _ _ q),s4,s5,s6,fun b q=>(hb b q).elim (fun z=>(by obtain⟨o,e⟩:=s7 b z;exact⟨o,k b o e⟩)) fun z=>z.2⟩,T,fun b o e jj jj=>k b o e,fun b h h'=>absurd h h',fun b o e=>⟨o,k b o e⟩⟩
end
section
variable{j i:Own}{B:Aaj}{X Y:Addr→Prop}{σ σ₁ σ₂:AH}{s s₁ s₂:Shared}{fp:List Addr}
theorem Ext2.finish(S₀:@St i B σ s)(x:Ext2 i j B X σ s σ₁ s₁)(h0:∀ b∈fp,s.heap.get? b=none)(F:@FpOk j B fp σ₁ s₁.heap){h':Heap}{tk:Nat}(k:∀ b o,b∉fp→s₁.heap.get? b=some o→h'.get? b=some o)(hij:∀ b,@Own.bad i b→@Own.bad j b):
  @Ext i B X σ s σ₁ { s₁ with heap:=h',toks:=tk }:=by
 obtain⟨f1,f2,f3,f4⟩:=F
 have T:∀ a items,@PT j s₁.heap a items→@PT i h' a items:=fun a items ht=>by
  have:a∉fp:=fun q=>f3 a q items ht
  obtain⟨n,e,z⟩:=ht
  exact⟨n,k a _ this e,fun q=>z (hij a q)⟩
 obtain⟨⟨s1,s2,s3,s4,s5,s6,s7⟩,x2,x3,x4,x5⟩:=x
 refine⟨⟨fun b o e=>k b o (fun q=>by exact nosn e (f2 b q)) (s1 b o e),s2,fun b o e=>OR.sw T (s3 b o e) (fun ob q=>k b ob (fun z=>by exact nosn e (f1 b z)) q),s4,s5,s6,fun b hb=>?_⟩,fun a items t=>T _ _ (x2 a items t),fun b o e h1 h2=>?_,x4,fun b o e=>?_⟩
 ·obtain⟨o,e⟩:=S₀.bad b hb
  obtain⟨o',e'⟩:=x5 b o e
  exact⟨o',k b o' (fun q=>by exact nosn e (h0 b q)) e'⟩
 ·exact k b o (fun q=>by exact nosn e (h0 b q)) (x3 b o e h1 h2)
 ·obtain⟨o',e'⟩:=x5 b o e
  exact⟨o',k b o' (fun q=>by exact nosn e (h0 b q)) e'⟩
end
variable[Own]
end Pq
namespace Pq
variable[Own]
section
variable{B:Aaj}{d:Nat}{env:Env}{vars:Vars}{σ:AH}{pos:Pos}{A:Around}{s:Shared}
theorem AeC{l1 l2:List AV}{k:Nat}{x y:AV}(hx:l1[k]?=some x)(hy:l2[k]?=some y):AdI (l1.drop k) (l2.drop k)=.tup [x,y]::AdI (l1.drop (k+1)) (l2.drop (k+1)):=by
 have e1:l1.drop k=x::l1.drop (k+1):=by
  obtain⟨h,rfl⟩:=List.getElem?_eq_some_iff.mp hx;exact(List.drop_eq_getElem_cons h)
 have e2:l2.drop k=y::l2.drop (k+1):=by
  obtain⟨h,rfl⟩:=List.getElem?_eq_some_iff.mp hy;exact(List.drop_eq_getElem_cons h)
 rw[e1,e2];rfl
inductive ZipZ(z TI TO i1 i2 t1 t2:Addr)(l1 l2:List AV)(xs ys:Array Value)(zs:List AV)(h:Heap):Prop
 | mk (k:Nat) (a c:Value) (hk:k≤l1.length) (hz:Ack h z TI TO .none (.bool false)) (h1:IsPair h TI (.ref i1) (.ref i2)) (h2:IsPair h TO a c) (g1:h.IsTupleIter i1 t1 k) (g2:h.IsTupleIter i2 t2 k) (p1:PT h t1 xs) (q1:VRs h l1 xs.toList) (p2:PT h t2 ys) (q2:VRs h l2 ys.toList)
   (e:zs=AdI (l1.drop k) (l2.drop k))
theorem iter_zip{z TI TO i1 i2 t1 t2:Addr}{l1 l2:List AV}{xs ys:Array Value}(X:AeW z TI TO i1 i2 [i1,t1] [i2,t2])(ht:t1≠i1∧t2≠i2)(hbad:Own.bad TI∧Own.bad TO)(hlen:l1.length=l2.length):
  Iter B z [z,TI,TO,i1,i2] (fun tg=>∃ elts k p,tg=.Tuple elts k p) [] (ZipZ z TI TO i1 i2 t1 t2 l1 l2 xs ys) where
 frame:=by
  rintro zs h h' ⟨k,a,c,hkl,hz,h1,h2,⟨o1,e1,r1⟩,⟨o2,e2,r2⟩,p1,q1,p2,q2,e⟩ kp T
  exact⟨k,a,c,hkl,kp _ (by simp) _ hz,kp _ (by simp) _ h1,kp _ (by simp) _ h2,⟨o1,kp _ (by simp) _ e1,r1⟩,⟨o2,kp _ (by simp) _ e2,r2⟩,T _ _ p1,q1.mono T,T _ _ p2,q2.mono T,e⟩
 self:=by
  rintro _ _ _ _ ⟨_,_,_,_,hz,_,_,_,_,_,_,_,_,_⟩ hp
  exact wpAny_pyIter_zip hz hp
 item:=by
  rintro A d σ s x zs _ ⟨elts,kk,p,rfl⟩ r S hsat F ⟨k,a,c,hkl,hz,hTI,hTO,g1,g2,p1,q1,p2,q2,e⟩
  have hs1:=VRs.size q1
  have hs2:=VRs.size q2
  have hk:k<l1.length:=by
   rcases Nat.lt_or_ge k l1.length with h | h
   ·exact h
   ·rw[List.drop_of_length_le h] at e;exact nol e
  obtain⟨x1,hx1⟩:∃ x1,l1[k]?=some x1:=⟨_,List.getElem?_eq_getElem hk⟩
  obtain⟨x2,hx2⟩:∃ x2,l2[k]?=some x2:=⟨_,List.getElem?_eq_getElem (by exact Nat.le_trans hk (Nat.le_of_eq hlen))⟩
  rw[AeC hx1 hx2] at e
  cases e
  obtain⟨v1,ev1,hv1⟩:=(Aao.mp q1).get hx1
  obtain⟨v2,ev2,hv2⟩:=(Aao.mp q2).get hx2
  have D1:=AbL (prog:=B.prog) (w:=B.w) (A:=A.in1) r.handled i1 t1 ht.1 xs
  have D2:=AbL (prog:=B.prog) (w:=B.w) (A:=A.in1) r.handled i2 t2 ht.2 ys
  refine AdT hz (wpAny_mono (AcZ (E:=fun jj jj=>False) (Q:=fun v=>IN B A [z,TI,TO,i1,i2] z (ZipZ z TI TO i1 i2 t1 t2 l1 l2 xs ys) (.tup [x1,x2]) (AdI (l1.drop (k+1)) (l2.drop (k+1))) σ s (.Tuple elts kk p) (some v)) D1 D2 X hz hTI hTO ⟨g1,p1.isTuple⟩ ⟨g2,p2.isTuple⟩ (by exact Nat.le_trans hk (Nat.le_of_eq hs1)) (by exact Nat.le_trans (Nat.le_trans hk (Nat.le_of_eq hlen)) (Nat.le_of_eq hs2)) fun h' tk u1 u2 hu1 hu2 hz' hTO' g1' g2' hp hsz hkeep=>⟨_,rfl,?_⟩) (fun jj jj z=>z) fun _ _ (f:False)=>f.elim)
  rw[← Array.getElem?_toList,ev1] at hu1
  rw[← Array.getElem?_toList,ev2] at hu2
  cases hu1;cases hu2
  refine wpAny_letOwnedTupleGo_zip hz' fun h₂ hz₂ hs₂=>?_
  have lz:=Heap.lt_size hz
  have up:∀ c o,c≠z→h'.get? c=some o→h₂.get? c=some o:=fun c o hc e=>sb hs₂ hc e
  have k2:∀ c o,c≠z→c≠TO→c≠i1→c≠i2→s.heap.get? c=some o→h₂.get? c=some o:=fun c o c1 c2 c3 c4 e=>up c o c1 (hkeep c o c1 c2 c3 c4 e)
  have hT1:h₂.IsTupleIter i1 t1 (k+1):=g1'.1.imp fun jj h=>⟨up _ _ X.i1z h.1,h.2⟩
  have hT2:h₂.IsTupleIter i2 t2 (k+1):=g2'.1.imp fun jj h=>⟨up _ _ X.i2z h.1,h.2⟩
  have hTO2:IsPair h₂ TO v1 v2:=up _ _ X.TOz hTO'
  have hTI2:IsPair h₂ TI (.ref i1) (.ref i2):=k2 _ _ X.TIz X.TITO X.TIi1 X.TIi2 hTI
  have hx:=Ext.fp (tk:=tk) S F (fun c o hc=>k2 c o (fun q=>hc (q▸.head _)) (fun q=>hc (q▸.tail _ (.tail _ (.head _)))) (fun q=>hc (q▸.tail _ (.tail _ (.tail _ (.head _))))) fun q=>hc (q▸.tail _ (.tail _ (.tail _ (.tail _ (.head _))))))
   (AaX (Ahb hz₂ (by simp)) (AaX ⟨_,hTI2,fun jj q=>q.choose_spec.2 hbad.1⟩ (AaX ⟨_,hTO2,fun jj q=>q.choose_spec.2 hbad.2⟩ (AaX (AiB hT1) (AaX (AiB hT2) Ahy)))))
  have T:=hx.1.tup
  exact⟨⟨_,_,rfl,⟨_,up _ _ (Nat.ne_of_gt lz) hp,S.nbs⟩,⟨_,_,rfl,hv1.mono T,⟨_,_,rfl,hv2.mono T,rfl⟩⟩⟩,⟨k+1,v1,v2,hk,hz₂,hTI2,hTO2,hT1,hT2,T _ _ p1,q1.mono T,T _ _ p2,q2.mono T,rfl⟩,hx.1,hx.2⟩
 done:=by
  rintro A d σ s P r S hsat F ⟨k,a,c,hkl,hz,hTI,hTO,g1,g2,p1,q1,p2,q2,e⟩ kP
  have hs1:=VRs.size q1
  have hk:xs.size≤k:=by
   rcases Nat.lt_or_ge k l1.length with h | h
   ·obtain⟨x1,hx1⟩:∃ x1,l1[k]?=some x1:=⟨_,List.getElem?_eq_getElem h⟩
    obtain⟨x2,hx2⟩:∃ x2,l2[k]?=some x2:=⟨_,List.getElem?_eq_getElem (by exact Nat.le_trans h (Nat.le_of_eq hlen))⟩
    rw[AeC hx1 hx2] at e;cases e
   ·exact Nat.le_trans (Nat.le_of_eq hs1.symm) h
  have hkx:k=xs.size:=Nat.le_antisymm (Nat.le_trans hkl (Nat.le_of_eq hs1)) hk
  subst hkx
  have D1:=AbL (prog:=B.prog) (w:=B.w) (A:=A.in1) r.handled i1 t1 ht.1 xs
  refine AdT hz (Agp (T:=0) (oT:=default) (.inl ⟨rfl,rfl⟩) D1 X hz hTI ⟨g1,p1.isTuple⟩ (by rintro h' e hk' ⟨o,ho,hc⟩;exact⟨⟨o,ho,hc,rfl⟩,kP h' s.toks fun b o hb q=>hk' b o (fun c=>hb (by simp[c])) (fun c=>hb (by simp[c])) q⟩))
end
end Pq
namespace Pq
inductive ZpI(B:Aaj)(d:Nat)(env:Env)(vars:Vars)(scope:Scope)(cl:List (Str×Addr))(target elt:Expr)(ifs:List Expr)(Q:AV→AH→Prop)(zs:List AV)(σ₃:AH):Prop
 | mk (I:List AV→List AV→AH→Prop) (hI:I zs [] σ₃) (t:∀ j:Own,@Agm j B d env vars scope cl target elt ifs [] I) (f:∀ ys σ',I [] ys σ'→ys.length≤1000→∀ a,σ' a=none→Q (.obj a) (upd σ' a (.list ys)))
inductive ZpQ(B:Aaj)(d:Nat)(env:Env)(vars:Vars)(scope:Scope)(cl:List (Str×Addr))(target elt:Expr)(ifs:List Expr)(Q:AV→AH→Prop)(v1 v2:AV)(σ₃:AH):Prop
 | mk (l1 l2:List AV) (e1:v1=.tup l1) (e2:v2=.tup l2) (hl:l1.length=l2.length) (hz:l1.length≤900) (q:ZpI B d env vars scope cl target elt ifs Q (AdI l1 l2) σ₃)
theorem zip_len(a b:List AV):(AdI a b).length≤a.length:=Nat.le_trans (Nat.le_of_eq List.length_zipWith) (Nat.min_le_left ..)
variable[i:Own]
section
variable{B:Aaj}{d:Nat}{env:Env}{vars:Vars}{σ:AH}{pos:Pos}{A:Around}{s:Shared}
theorem Aez(O:BOk B){zf:Str}{fp:Pos}{target e1 e2 elt:Expr}{ifs:List Expr}{zpos:Pos}{scope:Scope}{cl:List (Str×Addr)}{Q:AV→AH→Prop}(K:Adj env scope cl)
  (htg:∃ elts k p,target=.Tuple elts k p)
  (he:AdW e1=true) (he2:AdW e2=true) (hk:gOk env zf [e1,e2]=true) (hg:Abi B.K zf=some (.type "zip"))
  (h:AE B d env vars (eval e1 env) σ (Snd B d env vars e2 (ZpQ B d env vars scope cl target elt ifs Q))):AE B d env vars (eval (.ListComp elt [⟨target,.Call (.Name zf fp) [e1,e2] [] zpos,ifs,0⟩] scope pos) env) σ Q:=by
 intro A s r S R
 rw[eval_ListComp]
 refine wpAny_comprehension_free (use:=none) rfl (fun jj=>rfl) K.clos K.kind K.names ?_
 refine Acd O r S R hk hg rfl (Aab he (h.mono fun v1 σ₂ q₂=>Aab he2 (AE.mono (t:=eval e2 env) q₂ fun v2 σ₃ q₃=>Aaf ?_)))
 intro s₂ vs S₂ rv y
 obtain⟨l1,l2,rfl,rfl,hl12,hbig,⟨I,hI,turn,fin⟩⟩:=q₃
 obtain⟨_,_,rfl,⟨t1,xs,rfl,ht1,rt1⟩,_,_,rfl,⟨t2,ys,rfl,ht2,rt2⟩,rfl⟩:=rv
 refine AdF ht1.isTuple ht2.isTuple fun h' hN=>wpAny_pyIter_zip (f0:=.none) hN.z ?_
 have back:∀ b,h'.get? b=none→s₂.heap.get? b=none:=fun b e=>by
  cases q:s₂.heap.get? b with
  | none=>rfl
  | some o=>exact nosn (hN.keep b o q) e
 obtain⟨n1,et1,_⟩:=id ht1
 obtain⟨n2,et2,_⟩:=id ht2
 have lt1:=Heap.lt_size et1
 have lt2:=Heap.lt_size et2
 generalize hNN:s₂.heap.objs.size=N at *
 have fpn:∀ b∈[N+4,N+2,N+3,N,N+1],s₂.heap.get? b=none:=by
  have g:∀ b,N≤b→s₂.heap.get? b=none:=fun b hb=>Heap.get?_none_of_le (hNN.symm▸hb)
  exact AaX (g _ (Nat.le_add_right ..)) (AaX (g _ (Nat.le_add_right ..)) (AaX (g _ (Nat.le_add_right ..)) (AaX (g _ (Nat.le_refl _)) (AaX (g _ (Nat.le_add_right ..)) Ahy))))
 have hz:=hN.z
 have hTI:=hN.TI
 have hTO:=hN.TO
 have hi1:=hN.i1
 have hi2:=hN.i2
 rw[hNN] at hz hTI hTO hi1 hi2
 have nab:∀ b∈[N+4,N+2,N+3,N,N+1],σ₃ b=none∧B.h₀.get? b=none:=fun b hb=>⟨S₂.none_of (fpn b hb),by
  cases q:B.h₀.get? b with
  | none=>rfl
  | some o=>exact nomatch (fpn b hb).symm.trans (S₂.base b o q)⟩
 have own:∀ C b,Abz (compEnvC scope cl C env) b→b=C∨∃ o,s₂.heap.get? b=some o:=fun C b=>ownC_live (R.go y) K
 have R₂:=R.go y
 have Sfin:∀ (X:Addr→Prop) (C D:Addr) (ys':List AV) (σ':AH) (s':Shared) (items:Array Value) (nn:Nat) (m:Str→Option Value),Ext B X σ₃ s₂ σ' s'→(∀ b,X b→s₂.heap.get? b=none)→s₂.heap.get? D=none→s₂.heap.get? C=none→D≠C→B.h₀.get? D=none→D≠sysModules→σ' D=none→σ' C=none→B.h₀.get? C=none →
   IsL s'.heap D items nn→VRs s'.heap ys' items.toList→s'.heap.Ns C m→I [] ys' σ'→ys'.length≤1000→compPost (model B.prog B.w) A (fun jj jj=>False) none (WR B noX σ s RV Q) (.ref D) C (.ok .next) s':=fun X C D ys' σ' s' items nn m e hX dn cn dc bd lo hD hC hCb hL hr hm hI' hl=>
  ⟨m,hm,fun h'' hs'=>⟨.obj D,_,fin ys' σ' hI' hl _ hD,rfl,y.trans (Ael S₂ dn cn dc (Ext.born (e.narrow fun b hb=>.inr (hX b hb)) bd lo dn ⟨_,_,hL,hr⟩) hm hC hCb hs')⟩⟩
 obtain⟨j,hj⟩:∃ j:Own,∀ b,@Own.bad j b↔(@Own.bad i b∨b=N+2∨b=N+3):=⟨⟨fun b=>@Own.bad i b∨b=N+2∨b=N+3⟩,fun jj=>Iff.rfl⟩
 have E0:∀ X,Ext2 i j B X σ₃ s₂ σ₃ { s₂ with heap:=h' }:=fun X=>Ext2.start (t:=s₂.toks) S₂ hN.keep fun b hb=>by
  rcases (hj b).mp hb with q | rfl | rfl
  ·exact .inl q
  ·exact .inr ⟨fpn _ (.tail _ (.head _)),_,hTI⟩
  ·exact .inr ⟨fpn _ (.tail _ (.tail _ (.head _))),_,hTO⟩
 have T3:=(E0 noX).tup
 have Rj:@EnvR j B σ₃ h' env vars:=EnvR.sw T3 R₂ fun b jj o e=>hN.keep b o e
 have F3:@FpOk j B [N+4,N+2,N+3,N,N+1] σ₃ h':=by
  have g:∀ b∈[N+4,N+2,N+3,N,N+1],∃ o,h'.get? b=some o∧∀ items,¬ @PT j h' b items:=
   AaX (Ahb hz (by simp)) (AaX ⟨_,hTI,fun jj q=>q.choose_spec.2 ((hj _).mpr (.inr (.inl rfl)))⟩ (AaX ⟨_,hTO,fun jj q=>q.choose_spec.2 ((hj _).mpr (.inr (.inr rfl)))⟩ (AaX (AiB hi1) (AaX (AiB hi2) Ahy))))
  exact⟨fun b hb=>(nab b hb).1,fun b hb=>(nab b hb).2,fun b hb=>(g b hb).elim fun jj z=>z.2,fun b hb=>(g b hb).imp fun jj z=>z.1⟩
 refine @Ads j B env vars σ₃ A { s₂ with heap:=h' } scope cl (fun acc cenv s₄=>codeAny (model B.prog B.w) A (.compStart (.ListComp elt [⟨target,.Call (.Name zf fp) [e1,e2] [] zpos,ifs,0⟩] scope pos) 0 (.ref (N+4)) acc cenv) (compPost (model B.prog B.w) A (fun jj jj=>False) none (@WR i _ _ B noX σ s (@RV i) Q) acc cenv.locals) s₄) K (E0 noX).st Rj fun C D s₄ cs=>?_
 have dn:=back _ cs.dn
 have cn:=back _ cs.cn
 have E4:Ext2 i j B (fun b=>b=C∨b=D∨b∈[N+4,N+2,N+3,N,N+1]) σ₃ s₂ σ₃ s₄:=(E0 _).step (cs.x.weaken fun jj f=>f.elim)
 have F4:=F3.ext cs.x fun jj jj f=>f
 have hDf:D∉[N+4,N+2,N+3,N,N+1]:=F3.not (s:={ s₂ with heap:=h' }) cs.dn
 have hCf:C∉[N+4,N+2,N+3,N,N+1]:=F3.not (s:={ s₂ with heap:=h' }) cs.cn
 have hit:=@iter_zip j B (N+4) (N+2) (N+3) N (N+1) t1 t2 l1 l2 xs ys (zapart lt1 lt2) ⟨Nat.ne_of_lt lt1,Nat.ne_of_lt (Nat.lt_succ_of_lt lt2)⟩ ⟨(hj _).mpr (.inr (.inl rfl)),(hj _).mpr (.inr (.inr rfl))⟩ hl12
 have hZ:=hit.frame _ _ _ (⟨0,_,_,Nat.zero_le _,hz,hTI,hTO,hi1,hi2,T3 _ _ ht1,VRs.sw T3 rt1,T3 _ _ ht2,VRs.sw T3 rt2,rfl⟩:@ZipZ j (N+4) (N+2) (N+3) N (N+1) t1 t2 l1 l2 xs ys (AdI l1 l2) h') F4.2 cs.x.tup
 have loop:codeAny (model B.prog B.w) A (.compLoop (.ListComp elt [⟨target,.Call (.Name zf fp) [e1,e2] [] zpos,ifs,0⟩] scope pos) 0 (.ref (N+4)) (.ref D) (compEnvC scope cl C env)) (compPost (model B.prog B.w) A (fun jj jj=>False) none (@WR i _ _ B noX σ s (@RV i) Q) (.ref D) C) s₄:=by
  refine @AeQ j B d env vars A [N+4,N+2,N+3,N,N+1] target elt ifs _ scope pos _ 0 cl C D (N+4) [] _ I _ (AdI l1 l2) [] σ₃ s₄ (fun σ' s'=>Ext2 i j B (fun b=>b=C∨b=D∨b∈[N+4,N+2,N+3,N,N+1]) σ₃ s₂ σ' s') r (fun cenv=>turn1 ..)
   { hit with item:=fun ht=>hit.item (by rw[ht];exact htg) } hZ (fun p hp=>nomatch hp) F4.1 cs.M E4.st (fun b hb=>⟨fun q=>?_,fun q=>hDf (q▸hb)⟩) (Ne.symm cs.dc) cs.hc E4 (fun x y=>Ext2.step x y) (Nat.le_trans (zip_len _ _) (Nat.le_trans hbig (by decide))) hI (turn j) ?_
  ·rcases own C b q with q | ⟨o,q⟩
   ·exact hCf (q▸hb)
   ·exact nomatch (fpn b hb).symm.trans q
  intro ys' σ' s' hh tk hI' _ hl' M F E k
  obtain⟨⟨f1,_,_,_⟩,⟨items,nn,hL,hr⟩,vars₁,⟨_,_,_,⟨m,hm,_⟩,r5,_⟩,_⟩:=M
  have T:∀ a items,@PT j s'.heap a items→@PT i hh a items:=fun a items ht=>by
   have:a∉[N+4,N+2,N+3,N,N+1]:=fun q=>F.notup a q items ht
   obtain⟨n,e,z⟩:=ht
   exact⟨n,k a _ this e,fun q=>z ((hj a).mpr (.inl q))⟩
  obtain⟨o,es,ep,q,rr⟩:=hm
  have hm':hh.Ns C m:=⟨o,es,ep,k _ _ hCf q,rr⟩
  exact Sfin _ C D ys' σ' _ items nn m (Ext2.finish (tk:=tk) S₂ E fpn F k fun b q=>(hj b).mpr (.inl q)) (fun b hb=>hb.elim (fun q=>q▸cn) fun q=>q.elim (fun q=>q▸dn) (fpn b)) dn cn cs.dc cs.bd cs.lo (f1 _ (.head _)) r5.1 r5.2 (k _ _ hDf hL) (VRs.sw T hr) hm' hI' hl'
 exact AbC (pre:=[]) loop (wpAny_pyIter_zip (f0:=.none) (by obtain⟨_,_,_,_,hz,_⟩:=hZ;exact hz) loop)
end
end Pq
namespace Pq
variable[Own]
section
variable{B:Aaj}{d:Nat}{env:Env}{vars:Vars}{σ σ':AH}{pos:Pos}{A:Around}{s s':Shared}
theorem Ext.become{D:Addr}{ao:AO}(S:St B σ s)(e:Ext B noX σ s σ' s')(hD:s.heap.get? D=none)(hm:D≠sysModules)(ho:OR B.w s'.heap D ao):Ext B noX σ s (upd σ' D ao) s':=by
 have S2:=e.st
 have hb:B.h₀.get? D=none:=by
  cases q:B.h₀.get? D with
  | none=>rfl
  | some o=>exact nosn (S.base D o q) hD
 refine⟨⟨S2.base,fun b hb'=>?_,fun b o q=>?_,S2.gens,S2.os,fun b hb'=>?_,S2.bad⟩,e.tup,e.keep,fun b h1 h2=>?_,e.live⟩
 ·by_cases c:b=D
  ·subst c;exact hb
  ·rw[Aai _ _ c] at hb';exact S2.apart b hb'
 ·by_cases c:b=D
  ·subst c;obtain rfl:=sinj (Aac _ _ _) q;exact ho
  ·rw[Aai _ _ c] at q;exact S2.objs b o q
 ·by_cases c:b=D
  ·subst c;exact hm
  ·rw[Aai _ _ c] at hb';exact S2.lo b hb'
 ·by_cases c:b=D
  ·subst c;exact hD
  ·rw[Aai _ _ c] at h2;exact e.fresh b h1 h2
noncomputable def APs(B:Aaj)(d:Nat)(env:Env)(vars:Vars)(t:Sem (List (Value×Value)))(σ:AH)(Q:List (AV×AV)→AH→Prop):Prop:=
 ∀ A s,Room A d→St B σ s→EnvR B σ s.heap env vars→W B A noX σ s (fun _ s' (l:List (AV×AV)) vs=>All2 (fun (a:AV×AV) (v:Value×Value)=>VR s'.heap a.1 v.1∧VR s'.heap a.2 v.2) l vs) t Q
theorem AcB{Q:List (AV×AV)→AH→Prop}(q:Q [] σ):APs B d env vars (evalPairs (pairTrees [] [] env pos)) σ Q:=fun jj jj jj S jj=>evalPairs_nil ⟨[],σ,q,rfl,.refl S⟩
noncomputable abbrev ApsC(Q:List (AV×AV)→AH→Prop)(a b:AV)(l:List (AV×AV))(σ:AH):Prop:=Q ((a,b)::l) σ
noncomputable abbrev ApsK(B:Aaj)(d:Nat)(env:Env)(vars:Vars)(t:Sem (List (Value×Value)))(Q:List (AV×AV)→AH→Prop)(a b:AV)(σ:AH):Prop:=APs B d env vars t σ (ApsC Q a b)
theorem Abr{k v:Expr}{ks:List (Option Expr)}{vs:List Expr}{Q:List (AV×AV)→AH→Prop}
  (h:AE B d env vars (eval k env) σ (Snd B d env vars v (ApsK B d env vars (evalPairs (pairTrees ks vs env pos)) Q))) :
  APs B d env vars (evalPairs (pairTrees (some k::ks) (v::vs) env pos)) σ Q:=by
 intro A s r S R
 exact pairTrees_cons_walk ((h A s r S R).wp fun kv s₁ a σ₁ q ra x=>(q A s₁ r x.st (R.go x)).wp fun vv s₂ b σ₂ q₂ rb y=>(q₂ A s₂ r y.st ((R.go x).go y)).wp fun l s₃ m σ₃ q₃ rm z=>
  ⟨_,σ₃,q₃,All2.cons ⟨(ra.mono y.tup).mono z.tup,rb.mono z.tup⟩ rm,(x.trans y).trans z⟩)
noncomputable def AdR(acc l:List (AV×AV)):List (AV×AV):=List.rec (fun acc=>acc) (fun p jj go acc=>go (put acc p.1 p.2)) l acc
noncomputable def Fits(acc l:List (AV×AV)):Prop:=List.rec (fun jj=>True) (fun p jj go acc=>KeyFit acc p.1∧go (put acc p.1 p.2)) l acc
theorem Agx{prog:Program}{w:World}{E:Value→Shared→Prop}{D:Addr}(hu:A.units+8<cLine){l:List (AV×AV)}{vs:List (Value×Value)}{acc:List (AV×AV)}{s:Shared}{P:PUnit→Shared→Prop}
  (h:All2 (fun (a:AV×AV) (v:Value×Value)=>VR s.heap a.1 v.1∧VR s.heap a.2 v.2) l vs) (ho:OR w s.heap D (.dict acc)) (hf:Fits acc l) (hz:acc.length+l.length≤1000)
  (k:∀ h' t,OR w h' D (.dict (AdR acc l))→Heap.SameBut D s.heap h'→TupKeep s.heap h'→P PUnit.unit { s with heap:=h',toks:=t }):wpAny (model prog w) A (storeAll D vs) P E s:=by
 induction l generalizing vs acc s P with
 | nil=>
  rw[show vs=[] from h]
  exact wpAny_pure (k s.heap s.toks ho ⟨rfl,fun jj jj=>rfl⟩ (TupKeep.refl _))
 | cons p l ih=>
  obtain⟨v,r,rfl,⟨ra,rb⟩,hr⟩:=h
  unfold storeAll
  rw[List.forIn_cons]
  rw[List.length_cons] at hz
  have hno:∀ items,¬ PT s.heap D items:=by obtain⟨ob,e,hc⟩:=ho.at;exact AaJ e hc
  refine wpAny_bind (wpAny_bind (set_AV (w:=w) hu ho hf.1 ra rb (Aa7 (Nat.le_trans (Nat.le_add_right ..) hz)) fun h' t ho' hs=>wpAny_pure ?_))
  have T:=TupKeep.of_ext hno hs.extBut
  exact ih (hr.mono fun x y z=>⟨z.1.mono T,z.2.mono T⟩) ho' hf.2 (Nat.le_trans (Nat.add_le_add_right (AhO acc p.1 p.2) _) (Nat.le_trans (Nat.le_of_eq (by rw[Nat.add_assoc,Nat.add_comm 1])) hz)) fun h'' t' ho'' hs' T'=>k h'' t' ho'' (hs.trans hs') (T.trans T')
inductive DicQ(Q:AV→AH→Prop)(l:List (AV×AV))(σ₁:AH):Prop
 | mk (h:Fits [] l) (hz:l.length≤900) (q:∀ a,σ₁ a=none→Q (.obj a) (upd σ₁ a (.dict (AdR [] l))))
theorem AdB{keys:List (Option Expr)}{values:List Expr}{Q:AV→AH→Prop}
  (hk:(keys.all (·.isSome)&&(Nat.beq keys.length values.length&&(!keys.isEmpty&&Nat.ble keys.length 15)))=true) (h:APs B d env vars (evalPairs (pairTrees keys values env pos)) σ (DicQ Q)):AE B d env vars (eval (.Dict keys values pos) env) σ Q:=by
 intro A s r S R
 have dn:=Aan s.heap
 have g:Ext B noX σ s σ { s with heap:=s.heap.push { cls:=.type "dict",data:=.dict #[] } }:=Ext.grow (t:=s.toks) S fun b o e=>Heap.get?_push_of_some _ e
 have e0:(s.heap.push { cls:=.type "dict",data:=.dict #[] }).get? s.heap.objs.size=some (dictOf [] 0):=Heap.get?_push_size _ rfl
 have hσ:=S.none_size
 rw[Bool.and_eq_true,Bool.and_eq_true,Bool.and_eq_true,Bool.not_eq_true',List.isEmpty_eq_false_iff] at hk
 refine wpAny_Dict_any hk.1 (Nat.eq_of_beq_eq_true hk.2.1) hk.2.2.1 (lnk hk.2.2.2) ((h A _ r g.st (R.go g)).wp fun vs s₁ l σ₁ q rl x=>?_)
 have e1:s₁.heap.get? s.heap.objs.size=some (dictOf [] 0):=x.keep _ _ e0 hσ fun f=>f
 have hσ₁:σ₁ s.heap.objs.size=none:=x.stay e0 hσ
 refine Agx (w:=B.w) (by have:=r.units;exact ln3 (.c 1 (.a (.a (.a (.v 0) (.m 10 (.v 1))) (.n 200)) (.n 1)) (.v 2) (.g 0 (.a (.p 0 8) (.n 1)) (.v 2))) rfl this) rl (show OR B.w s₁.heap s.heap.objs.size (.dict []) from⟨[],0,e1,rfl,List.nodup_nil,.inl fun jj h=>nomatch h⟩) q.1 (by have:=q.2;simp;exact ln1 (.c 1 (.v 0) (.n 900) (.g 0 (.v 0) (.n 1000))) rfl this) fun h' t ho hs T=>?_
 have hno:∀ items,¬ PT s₁.heap s.heap.objs.size items:=AaJ e1 (by decide)
 obtain⟨ob,eo,_⟩:=ho.at
 have hb:B.h₀.get? s.heap.objs.size=none:=by
  cases q:B.h₀.get? s.heap.objs.size with
  | none=>rfl
  | some o=>exact nosn (S.base _ o q) dn
 have y:Ext B (·=s.heap.objs.size) σ₁ s₁ σ₁ { s₁ with heap:=h',toks:=t }:=Ext.own x.st hno hσ₁ hb hs.extBut ⟨ob,eo⟩ rfl
 have z:Ext B noX σ s σ₁ { s₁ with heap:=h',toks:=t }:=(((g.trans x).weaken fun jj f=>f.elim).trans y).narrow fun b hb=>.inr (by rw[hb];exact dn)
 exact⟨.obj _,_,q.3 _ hσ₁,rfl,Ext.become S z dn S.size_lo ho⟩
noncomputable abbrev AndE(B:Aaj)(d:Nat)(env:Env)(vars:Vars)(e:Expr)(Q:AV→AH→Prop)(a:AV)(c:Bool)(σ:AH):Prop:=if c=true then AE B d env vars (eval e env) σ Q else Q a σ
noncomputable abbrev AndL(B:Aaj)(d:Nat)(env:Env)(vars:Vars)(e:Expr)(Q:AV→AH→Prop)(a:AV)(σ:AH):Prop:=Ajm B d a σ (AndE B d env vars e Q a)
theorem e_and{e₁ e₂:Expr}{Q:AV→AH→Prop}(h:AE B d env vars (eval e₁ env) σ (AndL B d env vars e₂ Q)):AE B d env vars (eval (.BoolOp .And [e₁,e₂] pos) env) σ Q:=by
 intro A s r S R
 refine BoolOp_and ((h A s r S R).wp fun v s₁ a σ₁ q ra x=>(q A s₁ v r x.st ra).wp fun c s₂ b σ₂ q₂ eb y=>?_)
 subst eb
 cases b with
 | true=>
  exact BoolOp_one ((q₂ A s₂ r y.st ((R.go x).go y)).wp fun v s₃ b σ₃ q₃ rb z=>⟨b,σ₃,q₃,rb,(x.trans y).trans z⟩)
 | false=>
  exact⟨a,σ₂,q₂,ra.mono y.tup,x.trans y⟩
noncomputable abbrev ChnK(B:Aaj)(d:Nat)(env:Env)(vars:Vars)(r:Expr)(op:CmpOp)(Q:Bool→AH→Prop)(b:AV)(c:Bool)(σ:AH):Prop:=if c=true then AE B d env vars (eval r env) σ (CmpK B d op Q b) else Q false σ
noncomputable abbrev ChnL(B:Aaj)(d:Nat)(env:Env)(vars:Vars)(r:Expr)(op₁ op₂:CmpOp)(Q:Bool→AH→Prop)(a b:AV)(σ:AH):Prop:=Adl B d op₁ a b σ (ChnK B d env vars r op₂ Q b)
theorem t_chain{l r₁ r₂:Expr}{op₁ op₂:CmpOp}{whole:Sem Value}{Q:Bool→AH→Prop}(hm:AdW r₂=true)
  (h:AE B d env vars (eval l env) σ (Snd B d env vars r₁ (ChnL B d env vars r₂ op₁ op₂ Q)))
: AT B d env vars (isTrue (.Compare l [op₁,op₂] [r₁,r₂] pos) env whole) σ Q:=by
 intro A s r S R
 refine isTrue_chain ((h A s r S R).wp fun va s₁ a σ₁ q ra x=>?_) ((Aba hm).bm _)
 refine test_link ((q A s₁ r x.st (R.go x)).wp fun vb s₂ b σ₂ q₂ rb y=>(q₂ A s₂ va vb r y.st (ra.mono y.tup) rb).wp fun vc s₃ c σ₃ q₃ ec z=>?_)
 subst ec
 refine wpAny_truthy_bool ?_
 cases c with
 | false=>
  exact⟨false,σ₃,q₃,rfl,(x.trans y).trans z⟩
 | true=>
  refine PyProof.Rows.test_last ((q₃ A s₃ r z.st (((R.go x).go y).go z)).wp fun ve s₄ e σ₄ q₄ re u=>(q₄ A s₄ vb ve r u.st ((rb.mono z.tup).mono u.tup) re).wp fun vf s₅ f σ₅ q₅ ef w=>?_)
  subst ef
  exact wpAny_truthy_bool ⟨f,σ₅,q₅,rfl,((((x.trans y).trans z).trans u).trans w)⟩
noncomputable def Agv(x:Str)(v:Value):Bool:=Value.casesOn v false false false (fun jj=>false) (fun jj jj=>false) (fun jj jj=>false) (fun y jj=>decide (y=x)) (fun jj jj=>false) (fun jj=>false) (fun jj=>false) fun jj=>false
theorem Ae1{h:Heap}{x:Str}{l:List AV}{vs:List Value}(hl:∀ a∈l,AbH a=true)(r:VRs h l vs):vs.any (Agv x)=l.any fun a=>decide (a=.str x):=by
 induction l generalizing vs with
 | nil=>rw[show vs=[] from r];rfl
 | cons a l ih=>
  obtain⟨v,r,rfl,hv,hr⟩:=r
  obtain⟨y,rfl⟩:=AcE (hl a (.head _))
  obtain⟨t,rfl⟩:=hv
  rw[List.any_cons,List.any_cons,ih (fun a h=>hl a (.tail _ h)) hr,decide_eq_decide.mpr (show AV.str y=AV.str x↔y=x from⟨AV.str.inj,congrArg _⟩)]
  rfl
theorem Ad3{h:Heap}{x:Str}{t:Tok}{l:List AV}{items:Array Value}(hl:∀ a∈l,AbH a=true)(rt:VRs s.heap l items.toList)(hu:A.units+8<cLine)(y:Value)(hy:y∈items):SeqAt.EqAt A s y (.str x t) (Agv x y):=by
 obtain⟨k,hk⟩:=List.mem_iff_getElem?.mp (Array.mem_toList_iff.mpr hy)
 have hkl:k<l.length:=by rw[VRs.length rt];exact(List.getElem?_eq_some_iff.mp hk).1
 obtain⟨a,ha⟩:∃ a,l[k]?=some a:=⟨_,List.getElem?_eq_getElem hkl⟩
 obtain⟨v,ev,hv⟩:=(Aao.mp rt).get ha
 obtain rfl:=sinj hk ev
 obtain⟨z,rfl⟩:=AcE (hl a (List.mem_of_getElem? ha))
 obtain⟨u,rfl⟩:=hv
 have:=Ai3 (n:=8) (A:=A) (s:=s) (a:=.str z) (b:=.str x) (va:=.str z u) (vb:=.str x t) rfl rfl rfl ⟨u,rfl⟩ ⟨t,rfl⟩ hu
 rw[show Agv x (.str z u)=decide (AV.str z=.str x) by simp[Agv]]
 exact this
theorem Ajc{b:Addr}{x:Str}{l:List AV}{Q:Bool→AH→Prop}(hb:σ b=some (.list l))(hl:∀ a∈l,AbH a=true)(q:Q (l.any fun a=>decide (a=.str x)) σ):Adl B d .In (.str x) (.obj b) σ Q:=by
 rintro A s _ _ r S ⟨t,rfl⟩ rfl
 obtain⟨items,n,hL,rt⟩:=(S.objs b _ hb).listL
 refine SeqAt.in_listAt (Agv x) hL.isList (Ad3 (h:=s.heap) hl rt r.u8) ⟨_,σ,q,?_,.refl S⟩
 rw[← Ae1 hl rt,Array.any_toList]
theorem Agd{b:Addr}{x:Str}{l:List AV}{Q:Bool→AH→Prop}(hb:σ b=some (.list l))(hl:∀ a∈l,AbH a=true)(q:Q (!(l.any fun a=>decide (a=.str x))) σ):Adl B d .NotIn (.str x) (.obj b) σ Q:=by
 rintro A s _ _ r S ⟨t,rfl⟩ rfl
 obtain⟨items,n,hL,rt⟩:=(S.objs b _ hb).listL
 refine SeqAt.notIn_listAt (Agv x) hL.isList (Ad3 (h:=s.heap) hl rt r.u8) ⟨_,σ,q,?_,.refl S⟩
 rw[← Ae1 hl rt,Array.any_toList]
theorem AgZ{x:Str}{l:List AV}{Q:Bool→AH→Prop}(hl:∀ a∈l,AbH a=true)(q:Q (!(l.any fun a=>decide (a=.str x))) σ):Adl B d .NotIn (.str x) (.tup l) σ Q:=by
 rintro A s _ _ r S ⟨t,rfl⟩ ⟨a,items,rfl,ht,rt⟩
 refine SeqAt.notIn_tupleAt (Agv x) ht.isTuple (Ad3 (h:=s.heap) hl rt r.u8) ⟨_,σ,q,?_,.refl S⟩
 rw[← Ae1 hl rt,Array.any_toList]
theorem ac_abs{i:Int}{Q:AV→AH→Prop}(q:Q (.int (if i<0 then -i else i)) σ):AC B d (.builtin "abs") [.int i] σ Q:=by
 rintro A s _ r S ⟨_,_,rfl,⟨t,rfl⟩,rfl⟩
 exact call_abs_int fun u tk=>⟨_,σ,q,⟨u,rfl⟩,(Ext.refl S).tok tk⟩
theorem AdZ{b:Addr}{l:List AV}{Q:AV→AH→Prop}(hb:σ b=some (.list l))(hz:l.length≤1000)(q:Q (.tup l) σ):AC B d (.type "tuple") [.obj b] σ Q:=by
 refine ac_o fun A s r S=>?_
 obtain⟨items,n,hL,rt⟩:=(S.objs b _ hb).listL
 refine call_tuple_list hL.isList (fun h' k=>?_) (by rw[← VRs.size rt];exact Aa7 hz)
 have g:Ext B noX σ s σ { s with heap:=h' }:=Ext.grow (t:=s.toks) S k
 have k2:∀ c o,h'.get? c=some o→(h'.push { cls:=.type "tuple",data:=.seq items }).get? c=some o:=fun c o e=>Heap.get?_push_of_some _ e
 have g2:Ext B noX σ { s with heap:=h' } σ { s with heap:=h'.push { cls:=.type "tuple",data:=.seq items } }:=Ext.grow (t:=s.toks) g.st k2
 exact⟨_,σ,q,⟨_,items,rfl,PT.new _ _ g.st.nbs,(rt.mono g.tup).mono g2.tup⟩,g.trans g2⟩
theorem ac_list{l:List AV}{Q:AV→AH→Prop}(hz:l.length≤1000)(q:∀ a,σ a=none→Q (.obj a) (upd σ a (.list l))):AC B d (.type "list") [.tup l] σ Q:=by
 refine ac_t fun A s t items r S ht rt=>?_
 obtain⟨n,ho,_⟩:=id ht
 refine call_list_seq t (.inr rfl) ho rfl rfl (fun h' c' k e=>?_) (by rw[← VRs.size rt];exact Aa7 hz)
 have T:=TupKeep.of_keeps k
 exact⟨.obj _,_,q _ S.none_size,rfl,Ext.new (t:=s.toks) S k (Aan _) (show OR B.w _ _ (.list l) from⟨items,⟨_,e⟩,rt.mono T⟩) S.size_lo⟩
end
end Pq
namespace Pq
section
variable{prog:Program}{w:World}{A:Around}{E:Value→Shared→Prop}{s:Shared}{d it:Addr}{es:List DictEntry}{ep:Nat}
theorem Ad9{Q:Value→Shared→Prop}(hd:(d==sysModules)=false)(ho:s.heap.get? d=some (dictOf es ep))
  (hQ:Q (.ref s.heap.objs.size) { s with heap:=s.heap.push { cls:=.type "dict_keyiterator",data:=.fields #[.ref d,.int 0 0,.int es.length 0,.int ep 0] } }):wpAny (model prog w) A (pyIter (.ref d)) Q E s:=by
 have hT:s.TypeIs (.ref d) "dict":=⟨_,ho,rfl⟩
 refine wpAny_pyIter_slot hT PySem.F.slot_dict_iter (wpAny_call_entry PySem.F.slot_dict_iter hT PySem.F.entry_dict_iter ?_ (PySem.F.args_dict_iter_1 _))
 unfold Builtin.«dict.__iter__»
 refine wpAny_bind ?_
 unfold Builtin.Dict.dictSlotNone
 refine wpAny_bind (wpAny_notOrdered_dict hT ?_)
 refine wpAny_pure ?_
 show wpAny _ _ (Builtin.Dict.showsAll d >>= _) _ _ s
 unfold Builtin.Dict.showsAll
 rw[if_neg (by rw[hd];exact Bool.false_ne_true)]
 refine wpAny_bind (wpAny_pure ?_)
 refine wpAny_bind (wpAny_dictEntries ho rfl ?_)
 refine wpAny_bind (wpAny_dictEpoch ho rfl ?_)
 refine wpAny_bind (wpAny_newObj_type (wpAny_pure ⟨_,rfl,"dict_keyiterator",_,⟨_,Heap.get?_push_size _ rfl,rfl⟩,PySem.F.slot_dict_keyiterator_next.lookup,?_⟩))
 simpa[rawInt] using hQ
theorem AcP{i:Nat}{e:DictEntry}{Q:Option Value→Shared→Prop}(hit:s.heap.IsKeyIter it d i es.length ep)(hod:s.heap.get? d=some (dictOf es ep))(hx:es[i]?=some e)
  (hQ:∀ h',h'.IsKeyIter it d (i+1) es.length ep→Heap.SameBut it s.heap h'→Q (some e.key) { s with heap:=h' }):wpAny (model prog w) A (pyNext (.ref it)) Q E s:=by
 obtain⟨o,ho,hc,hd⟩:=id hit
 unfold pyNext
 refine wpAny_bind (wpAny_attempt (wpAny_callSpecial?_slot (name:=Str.ofString "__next__") hit.typeIs PySem.F.slot_dict_keyiterator_next
  (wpAny_call_entry PySem.F.slot_dict_keyiterator_next hit.typeIs PySem.F.entry_dict_keyiterator_next ?_ (PySem.F.args_dict_keyiterator_next_1 _))))
 refine wpAny_bind (wpAny_pure ?_)
 refine wpAny_bind ?_
 refine wpAny_bind ?_
 first | refine wpAny_bind (wpAny_typeNameOfWhole_keyiter hit.typeIs (wpAny_pure ?_)) | refine wpAny_bind (wpAny_typeNameOf_keyiter hit.typeIs (wpAny_pure ?_))
 refine wpAny_bind (wpAny_fieldsOf ho hd ?_)
 refine wpAny_bind (wpAny_pure ?_)
 refine wpAny_bind (wpAny_dictEntries hod rfl ?_)
 rw[if_neg (by simp)]
 refine wpAny_bind (wpAny_pure ?_)
 refine wpAny_bind (wpAny_dictEpoch hod rfl ?_)
 rw[if_neg (by simp)]
 refine wpAny_pure ?_
 have hlt:i<es.length:=(List.getElem?_eq_some_iff.mp hx).1
 have hk:es.toArray[i]?=some e:=by simpa using hx
 simp only[show ¬ ((i:Int)<0) from Int.not_lt.mpr (Int.natCast_nonneg i),if_false,Int.toNat_natCast,hk]
 refine wpAny_bind ?_
 first | refine wpAny_bind (wpAny_typeNameOfWhole_keyiter hit.typeIs (wpAny_pure ?_)) | refine wpAny_bind (wpAny_typeNameOf_keyiter hit.typeIs (wpAny_pure ?_))
 refine wpAny_bind (wpAny_isOneOf_keyiter hit.typeIs ?_)
 refine wpAny_bind (wpAny_setField ho hd (lnk rfl) ?_)
 have hit':(s.heap.update it (Obj.mapFields (·.setIfInBounds 1 (rawInt ((i:Int)+1))))).IsKeyIter it d (i+1) es.length ep:=
  ⟨_,Heap.get?_update_self _ ho (Obj.isFreed_of_fields (Obj.data_mapFields hd _)),(Obj.cls_mapFields ..).trans hc,by rw[Obj.data_mapFields hd];simp[rawInt]⟩
 refine wpAny_bind (wpAny_holding ?_)
 refine wpAny_bind (wpAny_isOneOf_keyiter (s:={ s with heap:=s.heap.update it (Obj.mapFields (·.setIfInBounds 1 (rawInt ((i:Int)+1)))) }) hit'.typeIs ?_)
 exact wpAny_pure (wpAny_pure ⟨_,rfl,wpAny_pure (hQ _ hit' (Heap.SameBut.update ..))⟩)
theorem Ac7{i:Nat}{Q:Option Value→Shared→Prop}(hh:A.handled=none)(hit:s.heap.IsKeyIter it d i es.length ep)(hod:s.heap.get? d=some (dictOf es ep))(hx:es[i]?=none)
  (hQ:∀ h',Heap.ExtBut it s.heap h'→Q none { s with heap:=h' }):wpAny (model prog w) A (pyNext (.ref it)) Q E s:=by
 obtain⟨o,ho,hc,hd⟩:=id hit
 unfold pyNext
 refine wpAny_bind (wpAny_attempt (wpAny_callSpecial?_slot (name:=Str.ofString "__next__") hit.typeIs PySem.F.slot_dict_keyiterator_next
  (wpAny_call_entry PySem.F.slot_dict_keyiterator_next hit.typeIs PySem.F.entry_dict_keyiterator_next ?_ (PySem.F.args_dict_keyiterator_next_1 _))))
 refine wpAny_bind (wpAny_pure ?_)
 refine wpAny_bind ?_
 refine wpAny_bind ?_
 first | refine wpAny_bind (wpAny_typeNameOfWhole_keyiter hit.typeIs (wpAny_pure ?_)) | refine wpAny_bind (wpAny_typeNameOf_keyiter hit.typeIs (wpAny_pure ?_))
 refine wpAny_bind (wpAny_fieldsOf ho hd ?_)
 refine wpAny_bind (wpAny_pure ?_)
 refine wpAny_bind (wpAny_dictEntries hod rfl ?_)
 rw[if_neg (by simp)]
 refine wpAny_bind (wpAny_pure ?_)
 refine wpAny_bind (wpAny_dictEpoch hod rfl ?_)
 rw[if_neg (by simp)]
 refine wpAny_pure ?_
 have hk:es.toArray[i]?=none:=by simpa using hx
 simp only[show ¬ ((i:Int)<0) from Int.not_lt.mpr (Int.natCast_nonneg i),if_false,Int.toNat_natCast,hk]
 refine wpAny_bind ?_
 first | refine wpAny_bind (wpAny_typeNameOfWhole_keyiter hit.typeIs (wpAny_pure ?_)) | refine wpAny_bind (wpAny_typeNameOf_keyiter hit.typeIs (wpAny_pure ?_))
 refine wpAny_bind (wpAny_setField ho hd (lnk rfl) ?_)
 refine wpAny_bind ?_
 refine wpAny_bind (wpAny_newObj_type ?_ (by size_fits))
 refine wpAny_bind (m:=firstArgMember _ _) (wpAny_of_eq (a:=Value.none) (by first | rfl | (simp only[firstArgMember];rfl)) ?_)
 refine wpAny_newObj_type ?_ (by size_fits)
 refine wpAny_bind (wpAny_handled ?_)
 rw[show A.in1.handled=none from hh]
 refine wpAny_bind (wpAny_pure (wpAny_throw ?_))
 refine wpAny_bind (wpAny_isInstance (T:="StopIteration") (b:=true) ⟨_,Heap.get?_push_size _ rfl,rfl⟩ isSubtype_stop ?_)
 exact wpAny_pure (hQ _ (((Heap.SameBut.update ..).extBut.push _).push _))
theorem AhF(hh:A.handled=none)(I:Addr)(hne:d≠I):
  Walks prog w A I [I,d] [I] es.length (fun i v=>∃ e,es[i]?=some e∧v=e.key) (fun i h=>h.IsKeyIter I d i es.length ep∧h.get? d=some (dictOf es ep)) where
 sub:=fun b hb=>by simp at hb;simp[hb]
 frame:=fun jj jj jj st hk=>⟨st.1.at fun o e=>hk I (by simp) o e,hk d (by simp) _ st.2⟩
 item:=fun i s Q E hi st hQ=>by
  obtain⟨e,hx⟩:∃ e,es[i]?=some e:=⟨es[i],by simp[hi]⟩
  refine AcP st.1 st.2 hx fun h' hit' hs'=>?_
  exact hQ e.key h' s.toks ⟨e,hx,rfl⟩ ⟨hit',(hs'.2 d hne).trans st.2⟩ fun b o hb e=>hs'.extBut b o (fun h=>hb (by simp[h])) e
 done:=fun s Q E st hQ=>Ac7 hh st.1 st.2 (by simp) fun h' he'=>hQ h' s.toks fun b o hb e=>he' b o (fun h=>hb (by simp[h])) e
 self:=fun jj jj jj jj st hQ=>wpAny_pyIter_keyiter st.1 hQ
theorem src_keys(lo:(d==sysModules)=false):KdlSrc prog w "dict" d d es.length (fun i v=>∃ e,es[i]?=some e∧v=e.key) (fun h=>h.get? d=some (dictOf es ep)) where
 type:=fun jj hm=>⟨_,hm,rfl⟩
 there:=fun jj hm=>⟨Heap.lt_size hm,Heap.lt_size hm⟩
 keep:=fun jj jj hm hk=>hk d (.inl rfl) _ hm
 notList:=by decide
 notTuple:=by decide
 hint:=fun jj jj jj jj hm hq=>kdl_hint_dict ⟨_,hm,rfl⟩ hq
 iter:=fun jj jj hh hm=>⟨_,_,(fun jj jj hq=>Ad9 lo hm hq),AhF hh _ (Nat.ne_of_lt (Heap.lt_size hm)),⟨⟨_,Heap.get?_push_size _ rfl,rfl,rfl⟩,Heap.get?_push_of_some _ hm⟩⟩
end
variable[Own]
section
variable{B:Aaj}{d:Nat}{env:Env}{vars:Vars}{σ σ':AH}{pos:Pos}{A:Around}{s s':Shared}{b:Addr}{kvs:List (AV×AV)}
theorem Adu{α β:Type}{R:α→β→Prop}:∀ {l:List α} {m:List β},All2 R l m→∀ {k:Nat} {y:β},m[k]?=some y→∃ x,l[k]?=some x∧R x y
 | [],_,h,_,_,e=>by rw[show _=[] from h] at e;simp at e
 | x::l,_,⟨b,r,q,h,t⟩,0,y,e=>by subst q;simp at e;subst e;exact⟨x,rfl,h⟩
 | x::l,_,⟨b,r,q,h,t⟩,k+1,y,e=>by subst q;simp at e;simpa using Adu t e
theorem OR.cd{w:World}{h:Heap}{a:Addr}{es:List DictEntry}{n:Nat}{kvs:List (AV×AV)}(x:OR w h a (.cdict es n kvs)):OR w h a (.dict kvs):=⟨es,n,x⟩
inductive KeyZ(it a:Addr)(es:List DictEntry)(n:Nat)(kvs:List (AV×AV))(xs:List AV)(h:Heap):Prop
 | mk (i:Nat) (g:h.IsKeyIter it a i es.length n) (e:xs=(kvs.map (·.1)).drop i)
theorem Af0{it a:Addr}{es:List DictEntry}{n:Nat}(hne:a≠it):Iter B it [it] (fun jj=>True) [(a,.cdict es n kvs)] (KeyZ it a es n kvs) where
 frame:=by rintro xs h h' ⟨i,⟨o,ho,r⟩,e⟩ k _;exact⟨i,⟨o,k it (.head _) o ho,r⟩,e⟩
 self:=fun ⟨_,hi,_⟩ hp=>wpAny_pyIter_keyiter hi hp
 item:=by
  rintro A d σ s x xs tgt - r S hsat F ⟨i,hi,e⟩
  obtain⟨ho,he,_⟩:=S.objs a _ (hsat _ (.head _))
  have hx:(kvs.map (·.1))[i]?=some x:=by rw[← List.head?_drop,← e];rfl
  have hxs:xs=(kvs.map (·.1)).drop (i+1):=by rw[← List.tail_drop,← e];rfl
  rw[List.getElem?_map] at hx
  obtain⟨kv,hkv,rfl⟩:=Option.map_eq_some_iff.mp hx
  obtain⟨en,hen,hr⟩:=Adu he hkv
  refine AcP hi ho hen fun h' hi' hs=>⟨en.key,rfl,?_⟩
  obtain⟨o,ho',hc,hd⟩:=id hi'
  refine lotg ho' hc hd (by decide) ?_
  have y:=AeL (tk:=s.toks) S F (.head _) hs ⟨o,ho',by rw[hc];simp⟩
  exact⟨hr.key.mono y.1.tup,⟨i+1,hi',hxs⟩,y.1,y.2⟩
 done:=by
  rintro A d σ s P r S hsat F ⟨i,hi,e⟩ k
  obtain⟨ho,he,_⟩:=S.objs a _ (hsat _ (.head _))
  have hlen:kvs.length≤i:=by simpa using List.drop_eq_nil_iff.mp e.symm
  exact Ac7 r.handled hi ho (by rw[List.getElem?_eq_none];rw[he.length];exact hlen) fun h' hx=>k h' s.toks fun b o hb e=>hx b o (fun q=>hb (by simp[q])) e
inductive CdQ(Q:List AV→List (Addr×AO)→AH→Prop)(v:AV)(σ₁:AH):Prop
 | mk (a:Addr) (es:List DictEntry) (n:Nat) (kvs:List (AV×AV)) (e:v=.obj a) (h:σ₁ a=some (.cdict es n kvs)) (q:Q (kvs.map (·.1)) [(a,.cdict es n kvs)] σ₁)
theorem ai_dict{iter:Expr}{tg:Expr→Prop}{Q:List AV→List (Addr×AO)→AH→Prop}
  (h:AE B d env vars (eval iter env) σ (CdQ Q)):AI B d env vars iter tg σ Q:=by
 intro A s r S R
 refine(h A s r S R).wp fun v s₁ av σ₁ q rv x=>?_
 obtain⟨a,es,n,kvs,rfl,ha,q⟩:=q
 obtain rfl:v=.ref a:=rv
 obtain⟨ho,he,_⟩:=x.st.objs a _ ha
 refine Ad9 (x.st.ns ha) ho ?_
 have hn:=Aan s₁.heap
 have k:∀ b o,s₁.heap.get? b=some o→(s₁.heap.push { cls:=.type "dict_keyiterator",data:=.fields #[.ref a,.int 0 0,.int es.length 0,.int n 0] }).get? b=some o:=fun b o e=>Heap.get?_push_of_some _ e
 have e:(s₁.heap.push { cls:=.type "dict_keyiterator",data:=.fields #[.ref a,.int 0 0,.int es.length 0,.int n 0] }).get? s₁.heap.objs.size=some { cls:=.type "dict_keyiterator",data:=.fields #[.ref a,.int 0 0,.int es.length 0,.int n 0] }:=Heap.get?_push_size _ rfl
 refine⟨_,[s₁.heap.objs.size],_,_,_,σ₁,q,rfl,{ Af0 (es:=es) (n:=n) (kvs:=kvs) (fun z=>?_) with item:=fun jj=>(Af0 (es:=es) (n:=n) (kvs:=kvs) (fun z=>?_)).item trivial },⟨0,⟨_,e,rfl,rfl⟩,rfl⟩,fun p hp=>by rw[List.mem_singleton.mp hp];exact ha,AeM x.st hn e (by simp),fun b hb=>by rw[List.mem_singleton.mp hb];exact AaR x hn,x.trans (Ext.grow (t:=s₁.toks) x.st k)⟩
 ·subst z;exact nosn ho hn
 ·subst z;exact nosn ho hn
theorem AdD{R:List Value→Shared→Prop}(hh:A.handled=none)(S:St B σ s)(hns:(b==sysModules)=false)(hO:OR B.w s.heap b (.dict kvs))(hz:kvs.length≤1000)
  (k:∀ vs s',VRs s'.heap (kvs.map (·.1)) vs→Ext B noX σ s σ s'→R vs s'):wpAny (model B.prog B.w) A (collect (.ref b)) R (fun jj jj=>False) s:=by
 obtain⟨es,n,ho,he,hK⟩:=hO
 have hlen:=he.length
 refine kdu_collect (src_keys hns) hh ho (Aa7 (ln2 (.c 1 (.v 0) (.n 1000) (.e 1 0 (.v 1) (.v 0) (.g 0 (.v 1) (.n 1000)))) rfl hz hlen)) fun h' tk acc hk hacc=>?_
 have g:Ext B noX σ s σ { s with heap:=h',toks:=tk }:=Ext.grow S hk
 refine k acc.toList _ (Aao.mpr ?_) g
 have h1:=hacc.1
 have h2:=hacc.2
 have key:∀ (es:List DictEntry) (kvs:List (AV×AV)) (l:List Value),All2 (Aie B.w s.heap) es kvs→l.length=es.length→(∀ (j:Nat) (v:Value),l[j]?=some v→∃ e:DictEntry,es[j]?=some e∧v=e.key)→All2 (VR h') (kvs.map (·.1)) l:=by
  intro es
  induction es with
  | nil=>
   intro kvs l h hl _
   rw[show kvs=[] from h]
   exact List.length_eq_zero_iff.mp hl
  | cons e es ih=>
   rintro _ l ⟨kv,r,rfl,hkv,ht⟩ hl hj
   cases l with
   | nil=>simp at hl
   | cons v l=>
    obtain⟨e',h3,h4⟩:=hj 0 v rfl
    simp at h3
    subst h3 h4
    exact All2.cons (hkv.key.mono g.tup) (ih r l ht (by simpa using hl) fun j v e=>hj (j+1) v (by simpa using e))
 exact key es kvs acc.toList he (by rw[Array.length_toList];exact h1) fun j v e=>h2 j v (by rw[← Array.getElem?_toList];exact e)
end
end Pq
namespace Pq
noncomputable def KOk{α:Type}(n:Nat)(P:α→Prop):KasT α→Prop
 | .ret a=>P a
 | .ask i j k=>i<n∧j<n∧∀ b,KOk n P (k b)
noncomputable def runK{α:Type}(lt:Nat→Nat→Bool):KasT α→α
 | .ret a=>a
 | .ask i j k=>runK lt (k (lt i j))
theorem KOk.bind{α β:Type}{n:Nat}{P:α→Prop}{P':β→Prop}{f:α→KasT β}(hf:∀ a,P a→KOk n P' (f a)){t:KasT α}(h:KOk n P t):KOk n P' (t.bind f):=by
 induction t with
 | ret _=>exact hf _ h
 | ask _ _ _ ih=>exact⟨h.1,h.2.1,fun b=>ih b (h.2.2 b)⟩
theorem KOk.run{α:Type}{n:Nat}{P:α→Prop}{lt:Nat→Nat→Bool}{t:KasT α}(h:KOk n P t):P (runK lt t):=by
 induction t with
 | ret _=>exact h
 | ask _ _ _ ih=>exact ih _ (h.2.2 _)
theorem wp_any{α:Type}{n:Nat}{P:α→Prop}{cmp:Nat→Nat→(Bool→Shared→Prop)→Shared→Prop}{Q:α→Shared→Prop}{s:Shared}(hc:∀ i j C,i<n→j<n→(∀ b,C b s)→cmp i j C s)(hq:∀ a,P a→Q a s):
  ∀ {t:KasT α},KOk n P t→t.kasWp cmp Q s:=by
 intro t h
 induction t with
 | ret _=>exact hq _ h
 | ask _ _ _ ih=>exact hc _ _ _ h.1 h.2.1 fun b=>ih b (h.2.2 b)
theorem wp_run{α:Type}{n:Nat}{P:α→Prop}{cmp:Nat→Nat→(Bool→Shared→Prop)→Shared→Prop}{Q:α→Shared→Prop}{s:Shared}{lt:Nat→Nat→Bool}(hc:∀ i j C,i<n→j<n→C (lt i j) s→cmp i j C s):
  ∀ {t:KasT α},KOk n P t→Q (runK lt t) s→t.kasWp cmp Q s:=by
 intro t h hq
 induction t with
 | ret _=>exact hq
 | ask _ _ _ ih=>exact hc _ _ _ h.1 h.2.1 (ih _ (h.2.2 _) hq)
noncomputable def KInv(n:Nat)(p:Array Nat):Prop:=p.toList.Perm (List.range n)
theorem KInv.at{n:Nat}{p:Array Nat}(h:KInv n p)(hn:0<n)(i:Nat):p.getD i 0<n:=by
 by_cases hi:i<p.size
 ·have e:p.getD i 0=p[i]:=by simp[Array.getD,hi]
  rw[e]
  have:p[i]∈p.toList:=by simp
  exact List.mem_range.mp (h.mem_iff.mp this)
 ·have e:p.getD i 0=0:=by simp[Array.getD,hi]
  rw[e];exact hn
theorem KInv.of{n:Nat}{p q:Array Nat}(h:KInv n p)(e:q.Perm p):KInv n q:=(Array.perm_iff_toList_perm.mp e).trans h
section
variable{n:Nat}(hn:0<n)
include hn
theorem AiN{p:Array Nat}(h:KInv n p)(f k:Nat):KOk n (fun jj=>True) (kas_asc p f k):=by
 induction f generalizing k with
 | zero=>exact trivial
 | succ f ih=>exact⟨h.at hn _,h.at hn _,fun b=>by cases b<;>first | exact ih (k+1) | exact trivial⟩
theorem kok_desc(f:Nat){p:Array Nat}(k q:Nat)(h:KInv n p):KOk n (fun r=>KInv n r.1) (kas_desc f p k q):=by
 induction f generalizing p k q with
 | zero=>exact h
 | succ f ih=>
  refine⟨h.at hn _,h.at hn _,fun b=>?_⟩
  cases b with
  | true=>
   show KOk n _ (if q > 0 then _ else _)
   by_cases hq:q > 0
   ·rw[if_pos hq];exact ih _ _ (h.of (mirror_perm _ _ _ _))
   ·rw[if_neg hq];exact ih _ _ h
  | false=>exact⟨h.at hn _,h.at hn _,fun c=>by cases c<;>first | exact ih _ _ h | exact h⟩
theorem AfY{p:Array Nat}(h:KInv n p)(m r:Nat):KOk n (fun r=>KInv n r.2) (kas_tail3 m r p):=by
 have h2:KInv n (kas_rev p 0 m):=h.of (mirror_perm _ _ _ _)
 refine KOk.bind (P:=fun jj=>True) (fun jj jj=>?_) (AiN hn h2 _ _)
 exact h2
theorem Adz{p:Array Nat}(h:KInv n p)(m r:Nat):KOk n (fun r=>KInv n r.2) (kas_descPart m r p):=by
 refine KOk.bind (fun a ha=>?_) (kok_desc hn _ _ _ h)
 by_cases hq:a.2.2 > 0
 ·rw[if_pos hq];exact AfY hn (ha.of (mirror_perm _ _ _ _)) _ _
 ·rw[if_neg hq];exact AfY hn ha _ _
theorem AiM{p:Array Nat}(h:KInv n p)(r:Nat):KOk n (fun r=>KInv n r.2) (kas_count r p):=by
 refine KOk.bind (fun m jj=>?_) (AiN hn h _ _)
 by_cases e:(m==r)=true
 ·rw[if_pos e];exact h
 ·rw[if_neg e]
  by_cases e2:m > 1
  ·rw[if_pos e2]
   exact⟨h.at hn _,h.at hn _,fun b=>by
    cases b with
    | true=>exact h
    | false=>exact Adz hn (h.of (mirror_perm _ _ _ _)) _ _⟩
  ·rw[if_neg e2];exact Adz hn h _ _
theorem AiL{p:Array Nat}(h:KInv n p)(k:Nat)(f l r:Nat):KOk n (fun jj=>True) (kas_place p k f l r):=by
 induction f generalizing l r with
 | zero=>exact trivial
 | succ f ih=>
  unfold kas_place
  by_cases e:l≥r
  ·rw[if_pos e];exact trivial
  ·rw[if_neg e]
   exact⟨h.at hn _,h.at hn _,fun b=>by cases b<;>exact ih _ _⟩
theorem kok_bin(f:Nat){p:Array Nat}(k:Nat)(h:KInv n p):KOk n (KInv n) (kas_bin f p k):=by
 induction f generalizing p k with
 | zero=>exact h
 | succ f ih=>exact KOk.bind (fun jj jj=>ih _ (h.of (bubble_perm _ _ _))) (AiL hn h _ _ _ _)
theorem Afd:KOk n (KInv n) (kas_sort n):=by
 refine KOk.bind (fun a ha=>?_) (AiM hn (by show(List.toArray (List.range n)).toList.Perm _;exact List.Perm.refl _) n)
 by_cases e:a.1<n
 ·rw[if_pos e];exact kok_bin hn _ _ ha
 ·rw[if_neg e];exact ha
end
theorem Abq{α:Type}(vs:List α)(x:α):(List.range vs.length).map (fun i=>vs.getD i x)=vs:=by
 apply List.ext_getElem (by simp)
 intro i h1 h2
 simp at h1
 simp[h1]
theorem KInv.out{α:Type}{vs:List α}{p:Array Nat}(h:KInv vs.length p)(x:α):(p.toList.map fun i=>vs.getD i x).Perm vs:=by
 have:=h.map (fun i=>vs.getD i x)
 rwa [Abq] at this
noncomputable def Sorts(prog:Program)(w:World)(A:Around)[Own](h:Heap)(vs:List Value)(Out:List Value→Prop):Prop:=
 (vs.length<2→Out vs)∧(2≤vs.length→∀ s:Shared,TupKeep h s.heap→wpAny (model prog w) A (keyKind' vs.toArray) (fun κ s'=>s'=s∧(kas_sort vs.length).kasWp (kas_ask prog w A κ vs) (fun p s''=>s''=s∧KInv vs.length p∧Out (p.toList.map fun i=>vs.getD i Value.none)) s) (fun jj jj=>False) s)
theorem Ahx{prog:Program}{w:World}{A:Around}{κ:SortKind}{vs:List Value}{α:Type}{Q Q':α→Shared→Prop}(hq:∀ a s',Q a s'→Q' a s'):∀ {t:KasT α} {s:Shared},t.kasWp (kas_ask prog w A κ vs) Q s→t.kasWp (kas_ask prog w A κ vs) Q' s
 | .ret a,s,h=>hq a s h
 | .ask _ _ _,_,h=>wpAny_mono h (fun jj jj hb=>Ahx hq hb) fun jj jj e=>e
theorem Sorts.mono{prog:Program}{w:World}{A:Around}[Own]{h:Heap}{vs:List Value}{Out Out':List Value→Prop}(x:Sorts prog w A h vs Out)(k:∀ o,Out o→Out' o):Sorts prog w A h vs Out':=
 ⟨fun h=>k _ (x.1 h),fun h2 s T=>wpAny_mono (x.2 h2 s T) (fun jj jj z=>⟨z.1,Ahx (fun jj jj y=>⟨y.1,y.2.1,k _ y.2.2⟩) z.2⟩) fun jj jj e=>e⟩
variable[Own]
theorem Afc{prog:Program}{w:World}{A:Around}{E:Value→Shared→Prop}{s:Shared}{a:Addr}{vs:List Value}{n:Nat}{Out:List Value→Prop}{P:PySem.Fin→Shared→Prop}
  (ho:s.heap.get? a=some (seqObj "list" vs.toArray n)) (h64:vs.length<64) (hs:Sorts prog w A s.heap vs Out)
  (h:∀ out c h',Out out→out.length=vs.length→h'.get? a=some (seqObj "list" out.toArray c)→(∀ b o,b≠a→s.heap.get? b=some o→h'.get? b=some o)→P (.done (.ret .none)) { s with heap:=h' }) :
  wpAny (model prog w) A (Builtin.«list.sort» ⟨[.ref a],[]⟩) P E s:=by
 have ha:a<s.heap.objs.size:=Heap.lt_size ho
 have s1:=Heap.SameBut.update s.heap a (Obj.mapSeq fun jj=>(#[]:Array Value))
 obtain⟨e1,ho1⟩:∃ e1,(s.heap.update a (Obj.mapSeq fun jj=>(#[]:Array Value))).get? a=some (seqObj "list" #[] e1):=⟨_,get?_update_seq ho fun jj=>#[]⟩
 rw[list_sort_plain]
 refine wpAny_bind (listItems_at ho rfl ?_)
 refine wpAny_bind (listUpdate_at ho rfl ?_ (by rw[List.size_toArray,sizeLine_eq];exact ln1 (.c 1 (.p 0 1) (.n 64) (.g 0 (.v 0) (.n 16777216))) rfl h64) (Nat.zero_le _))
 refine wpAny_bind (seqEpoch_at ho1 rfl ?_)
 refine wpAny_bind (wpAny_newTuple ?_ (by show vs.length≤_;rw[sizeLine_eq];exact ln1 (.c 1 (.p 0 1) (.n 64) (.g 0 (.v 0) (.n 16777216))) rfl h64))
 refine wpAny_bind (wpAny_newList ?_ (Nat.zero_le _))
 refine wpAny_holding ?_
 show wpAny (model prog w) A _ P E { s with heap:=((s.heap.update a (Obj.mapSeq fun jj=>(#[]:Array Value))).push (seqObj "tuple" vs.toArray 0)).push (seqObj "list" #[] 0) }
 dsimp only
 generalize hh3:((s.heap.update a (Obj.mapSeq fun jj=>(#[]:Array Value))).push (seqObj "tuple" vs.toArray 0)).push (seqObj "list" #[] 0)=h3
 have ho3:h3.get? a=some (seqObj "list" #[] e1):=by rw[← hh3];exact Heap.get?_push_of_some _ (Heap.get?_push_of_some _ ho1)
 have k3:∀ b o,b≠a→s.heap.get? b=some o→h3.get? b=some o:=fun b o hb e=>by
  rw[← hh3];exact Heap.get?_push_of_some _ (Heap.get?_push_of_some _ ((s1.2 b hb).trans e))
 have T3:TupKeep s.heap h3:=by
  rintro b items ⟨c,e,z⟩
  refine⟨c,k3 b _ (fun q=>?_) e,z⟩
  subst q;rw[ho] at e;simp at e
 clear hh3
 have fin:∀ out,Out out→out.length=vs.length→P (.done (.ret .none)) { s with heap:=h3.update a (Obj.mapSeq fun jj=>out.toArray) }:=by
  intro out hO hl
  exact h out _ _ hO hl (get?_update_seq ho3 fun jj=>out.toArray) fun b o hb e=>(Heap.get?_update_other _ _ (Ne.symm hb)).trans (k3 b o hb e)
 by_cases h2:vs.toArray.size<2
 ·have h2':vs.length<2:=by simpa using h2
  rw[if_pos h2,if_pos h2]
  refine wpAny_bind (wpAny_pure ?_)
  rw[StateT.run_pure]
  refine wpAny_bind (wpAny_pure ?_)
  dsimp only
  have hsnd:Array.map (·.2) (arrOf (SortSt.mk' general' (vs.toArray.zip vs.toArray) #[] 7 none))=vs.toArray:=by
   show Array.map (·.2) (vs.toArray.zip vs.toArray)=_
   exact Array.map_snd_zip (Nat.le_refl _)
  refine wpAny_bind (seqEpoch_at ho3 rfl ?_)
  rw[hsnd]
  refine wpAny_bind (listUpdate_at ho3 rfl ?_ (Nat.zero_le _) (by rw[List.size_toArray,sizeLine_eq];exact ln1 (.c 1 (.p 0 1) (.n 2) (.g 0 (.v 0) (.a (.n 16777216) (.n 1)))) rfl h2'))
  simp only[bne_self_eq_false,Bool.false_eq_true,if_false]
  exact wpAny_pure (fin vs (hs.1 h2') rfl)
 ·have h2':2≤vs.length:=by simpa using h2
  rw[if_neg h2,if_neg h2]
  refine wpAny_bind (wpAny_mono (hs.2 h2' { s with heap:=h3 } T3) (fun κ s0 hk=>?_) fun jj jj x=>x.elim)
  obtain⟨rfl,hk⟩:=hk
  refine wpAny_bind (wpAny_mono (kat_run (Q:=fun st' s'=>s'={ s with heap:=h3 }∧∃ p:Array Nat,arrOf st'=p.map (kas_item (vs.toArray.zip vs.toArray))∧failedOf st'=none∧KInv vs.length p∧Out (p.toList.map fun i=>vs.getD i Value.none))
   rfl h2' h64 (fun p' st' s' jj a2 a3 a4=>⟨a4.1,p',a2,a3,a4.2⟩) hk) ?_ fun jj jj e=>e)
  rintro⟨⟨⟩,st'⟩ s' ⟨rfl,p,har,hf,hI,hO⟩
  dsimp only
  refine wpAny_bind (seqEpoch_at ho3 rfl ?_)
  rw[kat_snds rfl har]
  have hlen:(p.toList.map fun i=>vs.getD i Value.none).length=vs.length:=(hI.out Value.none).length_eq
  refine wpAny_bind (listUpdate_at ho3 rfl ?_ (Nat.zero_le _) (by rw[List.size_toArray,hlen,sizeLine_eq];exact ln1 (.c 1 (.p 0 1) (.n 64) (.g 0 (.v 0) (.a (.n 16777216) (.n 1)))) rfl h64))
  rw[hf]
  simp only[bne_self_eq_false,Bool.false_eq_true,if_false]
  exact wpAny_pure (fin _ hO hlen)
end Pq
namespace Pq
variable[Own]
section
variable{prog:Program}{w:World}{E:Value→Shared→Prop}
inductive LtJ(h:Heap)(n:Nat)(rest:List (Value×Value)):Prop
 | mk (x' y':List AV) (xs' ys':List Value) (hz:rest=List.zip xs' ys') (hx:VRs h x' xs') (hy:VRs h y' ys') (k1:∀ z∈x',AaE n z=true) (k2:∀ z∈y',AaE n z=true) (hc:compats x' y'=true)
theorem lt_AV:∀ (n:Nat) {a b:AV} {va vb:Value} {A:Around} {s:Shared} {Q:Value→Shared→Prop},AaE n a=true→AaE n b=true→AbM a b=true→VR s.heap a va→VR s.heap b vb→A.units+n<cLine →
  (∀ c,Q (.bool c) s)→wpAny (model prog w) A (richCompare .Lt va vb) Q E s:=by
 have base:∀ {a b:AV} {va vb:Value} {A:Around} {s:Shared} {Q:Value→Shared→Prop},(∀ l,a≠.tup l)→AbM a b=true→VR s.heap a va→VR s.heap b vb→(∀ c,Q (.bool c) s)→wpAny (model prog w) A (richCompare .Lt va vb) Q E s:=by
  intro a b va vb A s Q ht hc ra rb h
  cases a<;>cases b<;>first | exact absurd hc Bool.false_ne_true | skip
  ·cases (show va=_ from ra);cases (show vb=_ from rb);exact PyProof.Rows.lt_bool (h _)
  ·obtain⟨_,rfl⟩:=ra;obtain⟨_,rfl⟩:=rb;exact PyProof.Rows.lt_int (h _)
  ·obtain⟨_,rfl⟩:=ra;obtain⟨_,rfl⟩:=rb;exact PySem.P.lt_str (h _)
  ·exact absurd rfl (ht _)
 intro n
 induction n with
 | zero=>
  intro a b va vb A s Q ka kb hc ra rb hu h
  exact base (fun l e=>by subst e;exact absurd ka Bool.false_ne_true) hc ra rb h
 | succ n ih=>
  intro a b va vb A s Q ka kb hc ra rb hu h
  by_cases ht:∀ l,a≠.tup l
  ·exact base ht hc ra rb h
  ·obtain⟨l,rfl⟩:∃ l,a=.tup l:=by
    cases a with
    | tup l=>exact⟨l,rfl⟩
    | _=>exact absurd (fun l e=>nomatch e) ht
   cases b<;>first | exact absurd hc Bool.false_ne_true | skip
   rename_i m
   replace hc:compats l m=true:=hc
   obtain⟨x,xs,rfl,hx,hxr⟩:=ra
   obtain⟨y,ys,rfl,hy,hyr⟩:=rb
   rw[Aca] at ka kb
   have ka:=List.all_eq_true.mp ka
   have kb:=List.all_eq_true.mp kb
   refine wpAny_richCompare_same_room (op:=.Lt) hx.isTup.typeIs hy.isTup.typeIs F.slot_tuple_lt
     (wpAny_call_entry F.slot_tuple_lt hx.isTup.typeIs F.entry_tuple_lt ?_ (F.args_tuple_lt_2 _ _)) (ln3 (.c 1 (.a (.a (.v 0) (.p 1 1)) (.n 1)) (.v 2) (.g 0 (.p 0 1) (.v 2))) rfl hu)
   have fin:∀ c,(fun fin s'=>∃ v,fin=PySem.Fin.done (.ret v)∧(fun v s'=>v≠Value.notImplemented∧Q v s') v s') (.done (.ret (.bool c))) s:=fun c=>⟨_,rfl,(fun e=>nomatch e),h c⟩
   show wpAny _ _ (isInstance (.ref y) (.type "tuple") >>= _) _ _ s
   refine wpAny_bind (wpAny_isInstance hy.isTup.typeIs isSubtype_tuple_tuple ?_)
   refine wpAny_bind (tupleItemsOf_ hx.isTup ?_)
   refine wpAny_bind (tupleItemsOf_ hy.isTup ?_)
   refine wpAny_bind ?_
   refine wpAny_forIn_list _
     (fun rest r s'=>r.1=none∧s'=s∧LtJ s.heap n rest)
     _ ?_ ?_ _ _ ⟨rfl,rfl,l,m,xs.toList,ys.toList,rfl,hxr,hyr,ka,kb,hc⟩
   ·rintro⟨u,v⟩ rest r s' ⟨hr,rfl,x',y',xs',ys',hz,hx',hy',k1,k2,hcc⟩
    cases x' with
    | nil=>rw[show xs'=[] from hx'] at hz;simp at hz
    | cons p x''=>
     obtain⟨u',xs'',rfl,hp,hx''⟩:=hx'
     cases y' with
     | nil=>rw[show ys'=[] from hy'] at hz;simp at hz
     | cons q y''=>
      obtain⟨v',ys'',rfl,hq,hy''⟩:=hy'
      simp only[List.zip_cons_cons,List.cons.injEq,Prod.mk.injEq] at hz
      obtain⟨⟨rfl,rfl⟩,rfl⟩:=hz
      rw[Ab2,Bool.and_eq_true] at hcc
      refine wpAny_bind (Acv n (k1 _ (.head _)) (k2 _ (.head _)) hcc.1 hp hq (by show A.units+1+n<cLine;exact ln3 (.c 1 (.a (.a (.v 0) (.p 1 1)) (.n 1)) (.v 2) (.g 0 (.a (.a (.p 0 1) (.v 1)) (.n 1)) (.v 2))) rfl hu) ?_)
      by_cases hk:p=q
      ·rw[decide_eq_true hk]
       exact wpAny_pure ⟨rfl,rfl,x'',y'',xs'',ys'',rfl,hx'',hy'',fun z hz=>k1 z (.tail _ hz),fun z hz=>k2 z (.tail _ hz),hcc.2⟩
      ·rw[decide_eq_false hk]
       refine wpAny_bind (wpAny_rule ?_)
       refine wpAny_bind (ih (k1 _ (.head _)) (k2 _ (.head _)) hcc.1 hp hq (by show A.units+1+n<cLine;exact ln3 (.c 1 (.a (.a (.v 0) (.p 1 1)) (.n 1)) (.v 2) (.g 0 (.a (.a (.p 0 1) (.v 1)) (.n 1)) (.v 2))) rfl hu) fun c=>?_)
       exact wpAny_bind (wpAny_pure (wpAny_pure (wpAny_pure (fin c))))
   ·rintro⟨r1,r2⟩ s' ⟨hr,rfl,_⟩
    simp only at hr
    subst hr
    exact wpAny_pure (fin _)
theorem AgT{a b:AV}{n:Nat}{p q:Value}{A:Around}{s:Shared}{Q:Bool→Shared→Prop}(ka:AaE n a=true)(kb:AaE n b=true)(hc:AbM a b=true)(ra:VR s.heap a p)(rb:VR s.heap b q)(hu:A.units+n<cLine)(h:∀ c,Q c s):
  wpAny (model prog w) A (eqBool p q) Q E s:=Acv n ka kb hc ra rb hu (h _)
theorem lex_any{A:Around}{s:Shared}{fin:Bool}{C:Bool→Shared→Prop}{n:Nat}(b:Bool)(hu:A.units+n<cLine)(hC:∀ c,C c s){l m:List AV}{vs ws:List Value}(i:Nat)
  (h1:VRs s.heap l vs) (h2:VRs s.heap m ws) (k1:∀ x∈l,AaE n x=true) (k2:∀ x∈m,AaE n x=true) (hc:compats l m=true) (hb:b=true→i=0→∀ x∈l.head?,AbH x=true):KatLex prog w A b fin C (vs.zip ws) i s:=by
 induction l generalizing m vs ws i with
 | nil=>rw[show vs=[] from h1,List.zip_nil_left];exact kat_nil (hC _)
 | cons x l ih=>
  obtain⟨p,vs,rfl,rp,h1⟩:=h1
  cases m with
  | nil=>rw[show ws=[] from h2,List.zip_nil_right];exact kat_nil (hC _)
  | cons y m=>
   obtain⟨q,ws,rfl,rq,h2⟩:=h2
   rw[List.zip_cons_cons]
   rw[Ab2,Bool.and_eq_true] at hc
   refine kat_cons (AgT (k1 _ (.head _)) (k2 _ (.head _)) hc.1 rp rq hu fun c=>?_)
   cases c with
   | true=>exact kat_yes (ih (i+1) h1 h2 (fun z hz=>k1 z (.tail _ hz)) (fun z hz=>k2 z (.tail _ hz)) hc.2 fun jj e=>absurd e (Nat.succ_ne_zero _))
   | false=>
    refine kat_no ?_
    by_cases hbi:(b&&i==0)=true
    ·rw[hbi]
     rw[Bool.and_eq_true] at hbi
     obtain⟨_,rfl⟩:=AcE (hb hbi.1 (eq_of_beq hbi.2) x rfl)
     cases y<;>first | exact absurd hc.1 Bool.false_ne_true | skip
     obtain⟨_,rfl⟩:=rp;obtain⟨_,rfl⟩:=rq
     exact oneLt_str (hC _)
    ·rw[Bool.not_eq_true] at hbi
     rw[hbi]
     exact kat_one _ _ (show wpAny _ _ (richCompare .Lt p q) _ _ _ from lt_AV n (k1 _ (.head _)) (k2 _ (.head _)) hc.1 rp rq hu fun c=>hC c)
theorem Agr{h:Heap}{l:List AV}{vs:List Value}(hx:∀ x∈l,∃ y r,x=.tup (y::r))(rl:VRs h l vs):∃ fs,KatTups h vs fs∧fs.length=l.length∧∀ f∈fs,∃ x∈l,∃ y r,x=.tup (y::r)∧VR h y f:=by
 induction l generalizing vs with
 | nil=>rw[show vs=[] from rl];exact⟨[],.nil,rfl,fun jj h=>absurd h List.not_mem_nil⟩
 | cons x l ih=>
  obtain⟨v,vs,rfl,rv,rl⟩:=rl
  obtain⟨y,r,rfl⟩:=hx x (.head _)
  obtain⟨a,items,rfl,⟨n,ho,hz⟩,ri⟩:=rv
  obtain⟨f,fr,e,rf,_⟩:=ri
  obtain⟨fs,T,hl,hf⟩:=ih (fun x h=>hx x (.tail _ h)) rl
  have e0:items[0]?=some f:=by rw[← Array.getElem?_toList,e];rfl
  exact⟨f::fs,.cons ho rfl rfl e0 T,congrArg (·+1) hl,fun g hg=>by
   rcases List.mem_cons.mp hg with rfl | hg
   ·exact⟨_,.head _,y,r,rfl,rf⟩
   ·obtain⟨x',h1,h2⟩:=hf g hg;exact⟨x',.tail _ h1,h2⟩⟩
theorem VRs.getD{h:Heap}{l:List AV}{vs:List Value}(r:VRs h l vs){i:Nat}(hi:i<l.length):VR h (l.getD i .none) (vs.getD i .none):=by
 obtain⟨b,e,x⟩:=(Aao.mp r).get (k:=i) (a:=l[i]) (by simp[hi])
 have e1:l.getD i .none=l[i]:=by simp[hi]
 have e2:vs.getD i .none=b:=by rw[List.getD_eq_getElem?_getD,e];rfl
 rw[e1,e2];exact x
theorem VRs.sel{h:Heap}{l:List AV}{vs:List Value}(r:VRs h l vs)(ps:List Nat)(hp:∀ i∈ps,i<l.length):VRs h (ps.map fun i=>l.getD i .none) (ps.map fun i=>vs.getD i .none):=by
 induction ps with
 | nil=>rfl
 | cons i ps ih=>exact⟨_,_,rfl,r.getD (hp i (.head _)),ih fun j hj=>hp j (.tail _ hj)⟩
omit [Own] in
theorem KInv.lt{n:Nat}{p:Array Nat}(h:KInv n p):∀ i∈p.toList,i<n:=fun jj hi=>List.mem_range.mp (h.mem_iff.mp hi)
theorem AhJ{A:Around}(τ:KT){h:Heap}{l:List AV}{vs:List Value}(hk:∀ x∈l,AcX τ x)(r:VRs h l vs)(hu:A.units+16<cLine):
  Sorts prog w A h vs fun out=>∃ l',l'.Perm l∧VRs h l' out:=by
 have hlen:=VRs.length r
 refine⟨fun jj=>⟨l,.refl _,r⟩,fun h2 s T=>?_⟩
 have rs:=r.mono T
 have key:∃ b T',(τ=.term→b=true)∧(∃ fs,KatTups s.heap vs fs∧0<fs.length∧(∀ f∈fs,Looks (model prog w) s.heap (typeOf f) T')∧(T'==T')=true∧(T' != Value.type "tuple")=b)∧(b=true→∀ x∈l,∃ y r,x=.tup (.str y::r)):=by
  cases τ with
  | term=>
   have hx:∀ x∈l,∃ y r,x=.tup (.str y::r):=fun x hx=>by
    obtain⟨m,y,r,_,rfl,_⟩:=Ab1 (n:=8) (a:=x) (hk x hx)
    exact⟨y,r,rfl⟩
   obtain⟨fs,h1,h3,h4⟩:=Agr (fun x h=>((hx x h).elim fun jj h=>⟨_,h⟩)) rs
   refine⟨true,.type "str",fun jj=>rfl,⟨fs,h1,by exact Nat.le_of_lt (Nat.le_trans (Nat.le_trans h2 (Nat.le_of_eq hlen.symm)) (Nat.le_of_eq h3.symm)),fun f hf=>?_,by rfl,by rfl⟩,fun jj=>hx⟩
   obtain⟨x,hxl,y,r',e,rf⟩:=h4 f hf
   obtain⟨y',r'',e'⟩:=hx x hxl
   rw[e'] at e
   cases e
   obtain⟨_,rfl⟩:=rf
   exact .now
  | key=>
   have hx:∀ x∈l,∃ y r,x=.tup (.tup y::r):=fun x hx=>by
    obtain⟨p,k,n,pl,bb,t⟩:=show KeyC x from hk x hx
    exact⟨_,_,rfl⟩
   obtain⟨fs,h1,h3,h4⟩:=Agr (fun x h=>((hx x h).elim fun jj h=>⟨_,h⟩)) rs
   refine⟨false,.type "tuple",(fun e=>nomatch e),⟨fs,h1,by exact Nat.le_of_lt (Nat.le_trans (Nat.le_trans h2 (Nat.le_of_eq hlen.symm)) (Nat.le_of_eq h3.symm)),fun f hf=>?_,by rfl,by rfl⟩,fun e=>nomatch e⟩
   obtain⟨x,hxl,y,r',e,rf⟩:=h4 f hf
   obtain⟨y',r'',e'⟩:=hx x hxl
   rw[e'] at e
   cases e
   obtain⟨a,items,rfl,⟨n,ho,_⟩,_⟩:=rf
   exact(Looks.ld ho).andThen .now
 obtain⟨b,T',_,⟨fs,h1,h3,h4,h5,h6⟩,hstr⟩:=key
 refine kat_kind h1 h3 h4 h5 ?_
 rw[h6]
 refine⟨rfl,?_⟩
 have hn:0<vs.length:=by lia
 refine wp_any (fun i j C hi hj hC=>?_) (fun p hp=>⟨rfl,hp,_,?_,(r.sel p.toList fun i hi=>by have:=hp.lt i hi;exact Nat.le_trans this (Nat.le_of_eq hlen.symm))⟩) (Afd hn)
 ·have rx:=rs.getD (i:=i) (by exact Nat.le_trans hi (Nat.le_of_eq hlen.symm))
  have ry:=rs.getD (i:=j) (by exact Nat.le_trans hj (Nat.le_of_eq hlen.symm))
  have mx:l.getD i .none∈l:=by rw[show l.getD i .none=l[i]'(by exact Nat.le_trans hi (Nat.le_of_eq hlen.symm)) by simp[show i<l.length by exact Nat.le_trans hi (Nat.le_of_eq hlen.symm)]];exact List.getElem_mem _
  have my:l.getD j .none∈l:=by rw[show l.getD j .none=l[j]'(by exact Nat.le_trans hj (Nat.le_of_eq hlen.symm)) by simp[show j<l.length by exact Nat.le_trans hj (Nat.le_of_eq hlen.symm)]];exact List.getElem_mem _
  have kx:=AcS τ (hk _ mx)
  have ky:=AcS τ (hk _ my)
  have kc:=Aec τ (hk _ mx) (hk _ my)
  have hst:=fun e=>hstr e _ mx
  unfold kas_ask
  generalize l.getD i .none=x at *
  generalize l.getD j .none=y at *
  obtain⟨xl,rfl⟩:=Ahl τ (hk _ mx)
  obtain⟨yl,rfl⟩:=Ahl τ (hk _ my)
  obtain⟨ax,ix,ex,⟨nx,ox,_⟩,rix⟩:=rx
  obtain⟨ay,iy,ey,⟨ny,oy,_⟩,riy⟩:=ry
  rw[ex,ey]
  rw[Aca] at kx ky
  refine kat_lt ox rfl oy rfl (lex_any (n:=7) b (ln2 (.c 1 (.a (.p 0 16) (.n 1)) (.v 1) (.g 0 (.a (.p 0 7) (.n 1)) (.v 1))) rfl hu) hC 0 rix riy (List.all_eq_true.mp kx) (List.all_eq_true.mp ky) kc fun hb jj z hz=>?_)
  obtain⟨s',r',e⟩:=hst hb
  cases e
  simp at hz
  subst hz
  rfl
 ·exact KInv.out (vs:=l) (by rw[hlen];exact hp) AV.none
end
end Pq
namespace Pq
variable[Own]
noncomputable def Agu(a b:Str):Bool:=decide (a.cps.toList<b.cps.toList)
noncomputable def Aa0(ks:List Str):List Nat:=
 if ks.length<2 then List.range ks.length else(runK (fun i j=>Agu (ks.getD i default) (ks.getD j default)) (kas_sort ks.length)).toList
noncomputable def Aa2(ks:List Str):List Str:=(Aa0 ks).map fun i=>ks.getD i default
noncomputable def AbF(ks:List Str)(l:List AV):List AV:=(Aa0 ks).map fun i=>l.getD i .none
omit [Own] in
theorem Adv(ks:List Str):(Aa0 ks).Perm (List.range ks.length):=by
 unfold Aa0
 by_cases h:ks.length<2
 ·rw[if_pos h]
 ·rw[if_neg h]
  exact KOk.run (P:=KInv ks.length) (Afd (ln1 (.c 1 (.n 2) (.v 0) (.g 0 (.a (.n 0) (.n 1)) (.v 0))) rfl (Nat.le_of_not_lt h)))
omit [Own] in
theorem AgA(ks:List Str):AbF ks (ks.map .str)=(Aa2 ks).map .str:=by
 unfold AbF Aa2
 rw[List.map_map]
 refine List.map_congr_left fun i hi=>?_
 have:i<ks.length:=List.mem_range.mp ((Adv ks).mem_iff.mp hi)
 simp[this]
omit [Own] in
theorem Ad4(ks:List Str)(l:List AV)(h:l.length=ks.length):(AbF ks l).Perm l:=by
 have:=(Adv ks).map (fun i=>l.getD i .none)
 rw[← h,Abq] at this
 exact this
section
variable{prog:Program}{w:World}{A:Around}
theorem AfC{h:Heap}{l:List AV}{vs:List Value}{ks:List Str}{κ₀:SortKind}(hl:l.length=ks.length)(r:VRs h l vs)
  (hkind:2≤vs.length→∀ s:Shared,TupKeep h s.heap→∀ Q:SortKind→Shared→Prop,Q κ₀ s→wpAny (model prog w) A (keyKind' vs.toArray) Q (fun jj jj=>False) s)
  (hask:∀ s:Shared,TupKeep h s.heap→∀ i j (C:Bool→Shared→Prop),i<ks.length→j<ks.length→C (Agu (ks.getD i default) (ks.getD j default)) s→kas_ask prog w A κ₀ vs i j C s) :
  Sorts prog w A h vs fun out=>VRs h (AbF ks l) out:=by
 have hlen:=VRs.length r
 refine⟨fun h2=>?_,fun h2 s T=>?_⟩
 ·have e:AbF ks l=l:=by
   unfold AbF Aa0
   rw[if_pos (by exact Nat.le_trans (Nat.add_le_add_right (Nat.le_trans (Nat.le_of_eq hl.symm) (Nat.le_of_eq hlen)) 1) h2),← hl,Abq]
  rw[e];exact r
 ·refine hkind h2 s T _ ⟨rfl,?_⟩
  have hn:0<vs.length:=by lia
  have hk:=Afd hn
  refine wp_run (lt:=fun i j=>Agu (ks.getD i default) (ks.getD j default)) (fun i j C hi hj hC=>hask s T i j C (by exact Nat.le_trans (Nat.le_trans hi (Nat.le_of_eq hlen.symm)) (Nat.le_of_eq hl)) (by exact Nat.le_trans (Nat.le_trans hj (Nat.le_of_eq hlen.symm)) (Nat.le_of_eq hl)) hC) hk ⟨rfl,KOk.run (P:=KInv vs.length) hk,?_⟩
  have hp:=KOk.run (P:=KInv vs.length) (lt:=fun i j=>Agu (ks.getD i default) (ks.getD j default)) hk
  have e:Aa0 ks=(runK (fun i j=>Agu (ks.getD i default) (ks.getD j default)) (kas_sort vs.length)).toList:=by
   unfold Aa0
   rw[if_neg (by lia),← hl,hlen]
  unfold AbF
  rw[e]
  exact r.sel _ fun i hi=>by have:=hp.lt i hi;exact Nat.le_trans this (Nat.le_of_eq hlen.symm)
theorem AeE{h:Heap}{ks:List Str}{vs:List Value}(r:VRs h (ks.map .str) vs):Sorts prog w A h vs fun out=>VRs h ((Aa2 ks).map .str) out:=by
 have hlen:=VRs.length r
 rw[List.length_map] at hlen
 rw[← AgA]
 refine AfC (κ₀:=oneType') (by simp) r (fun h2 s T Q q=>?_) fun s T i j C hi hj hC=>?_
 ·refine kas_kind h2 (T:=.type "str") (fun v hv=>?_) (by rfl) (by rfl) q
  have rs:=Aao.mp (r.mono T)
  obtain⟨k,hk⟩:=List.mem_iff_getElem?.mp hv
  obtain⟨a,ha,ra⟩:=Adu rs hk
  rw[List.getElem?_map] at ha
  obtain⟨x,_,rfl⟩:=Option.map_eq_some_iff.mp ha
  obtain⟨t,rfl⟩:=ra
  exact .now
 ·have rx:=(r.mono T).getD (i:=i) (by simpa using hi)
  have ry:=(r.mono T).getD (i:=j) (by simpa using hj)
  have e1:(ks.map AV.str).getD i .none=.str (ks.getD i default):=by simp[hi]
  have e2:(ks.map AV.str).getD j .none=.str (ks.getD j default):=by simp[hj]
  rw[e1] at rx
  rw[e2] at ry
  obtain⟨t,et⟩:=rx
  obtain⟨u,eu⟩:=ry
  unfold kas_ask
  rw[et,eu,keyLt'_oneType]
  exact oneLt_str hC
noncomputable def AbT(kt:Str×AV):AV:=.tup [.str kt.1,kt.2]
theorem Agz{h:Heap}{kts:List (Str×AV)}{vs:List Value}(hu:A.units+16<cLine)(r:VRs h (kts.map AbT) vs)(hk:∀ kt∈kts,Abx 8 kt.2=true)(hnd:(kts.map (·.1)).Nodup):
  Sorts prog w A h vs fun out=>VRs h (AbF (kts.map (·.1)) (kts.map AbT)) out:=by
 have hlen:=VRs.length r
 rw[List.length_map] at hlen
 refine AfC (κ₀:=tuples' true) (by simp) r (fun h2 s T Q q=>?_) fun s T i j C hi hj hC=>?_
 ·have rs:=r.mono T
  obtain⟨fs,h1,h3,h4⟩:=Agr (fun x hx=>by obtain⟨kt,_,rfl⟩:=List.mem_map.mp hx;exact⟨_,_,rfl⟩) rs
  rw[List.length_map] at h3
  refine kat_kind (T:=.type "str") h1 (by exact Nat.le_of_lt (Nat.le_trans (Nat.le_trans h2 (Nat.le_of_eq hlen.symm)) (Nat.le_of_eq h3.symm))) (fun f hf=>?_) (by rfl) q
  obtain⟨x,hxl,y,r',e,rf⟩:=h4 f hf
  obtain⟨kt,_,rfl⟩:=List.mem_map.mp hxl
  cases e
  obtain⟨_,rfl⟩:=rf
  exact .now
 ·rw[List.length_map] at hi hj
  have rx:=(r.mono T).getD (i:=i) (by simpa using hi)
  have ry:=(r.mono T).getD (i:=j) (by simpa using hj)
  have e1:(kts.map AbT).getD i .none=AbT kts[i]:=by simp[hi]
  have e2:(kts.map AbT).getD j .none=AbT kts[j]:=by simp[hj]
  have g1:(kts.map (·.1)).getD i default=kts[i].1:=by simp[hi]
  have g2:(kts.map (·.1)).getD j default=kts[j].1:=by simp[hj]
  rw[e1] at rx
  rw[e2] at ry
  rw[g1,g2] at hC
  have kx:=hk _ (List.getElem_mem hi)
  have ky:=hk _ (List.getElem_mem hj)
  have hne:i≠j→kts[i].1≠kts[j].1:=fun q e=>by
   have z:=List.pairwise_iff_getElem.mp hnd
   rcases Nat.lt_trichotomy i j with h | h | h
   ·exact z i j (by simpa using hi) (by simpa using hj) h (by simpa using e)
   ·exact q h
   ·exact z j i (by simpa using hj) (by simpa using hi) h (by simpa using e.symm)
  obtain⟨ax,ix,ex,⟨nx,ox,_⟩,x1,xr,ex1,rx1,x2,xr2,ex2,rx2,exr⟩:=rx
  obtain⟨ay,iy,ey,⟨ny,oy,_⟩,y1,yr,ey1,ry1,y2,yr2,ey2,ry2,eyr⟩:=ry
  subst ex2 ey2 exr eyr
  obtain⟨t,rfl⟩:=rx1
  obtain⟨u,rfl⟩:=ry1
  unfold kas_ask
  rw[ex,ey]
  refine kat_lt ox rfl oy rfl ?_
  rw[ex1,ey1]
  refine kat_cons (wpAny_eqBool_str ?_)
  by_cases hij:i=j
  ·subst hij
   rw[decide_eq_true rfl]
   refine kat_yes (kat_cons (Acv 8 (AcC 8 kx) (AcC 8 ky) (AbE 8 8 kx ky) rx2 ry2 (ln2 (.c 1 (.a (.p 0 16) (.n 1)) (.v 1) (.g 0 (.a (.p 0 8) (.n 1)) (.v 1))) rfl hu) ?_))
   rw[decide_eq_true rfl]
   refine kat_yes (kat_nil ?_)
   have z:Agu kts[i].1 kts[i].1=false:=by unfold Agu;simp[List.lt_irrefl]
   rw[z] at hC
   have zs:(ix.size<iy.size)=False:=by
    have h1:ix.size=2:=by rw[← Array.length_toList,ex1];rfl
    have h2:iy.size=2:=by rw[← Array.length_toList,ey1];rfl
    rw[h1,h2];simp
   simp only[zs,decide_false]
   exact hC
  ·rw[decide_eq_false (hne hij)]
   refine kat_no ?_
   show wpAny _ _ (oneLt' true _ _) _ _ _
   exact oneLt_str hC
end
section
variable{B:Aaj}{d:Nat}{env:Env}{vars:Vars}{σ σ':AH}{pos:Pos}{A:Around}{s s':Shared}{b:Addr}{kvs:List (AV×AV)}
theorem AcG{x:Value}{L:List AV→Prop}{P:List AV→List AV→Prop}(S:St B σ s)
  (hcol:∀ (R:List Value→Shared→Prop),(∀ l vs s',L l→VRs s'.heap l vs→Ext B noX σ s σ s'→R vs s')→wpAny (model B.prog B.w) A.in1 (collect x) R (fun jj jj=>False) s)
  (hz:∀ l,L l→l.length<64) (hs:∀ l,L l→∀ s' vs,St B σ s'→VRs s'.heap l vs→Sorts B.prog B.w A.in1.in1 s'.heap vs fun out=>∃ l',P l l'∧VRs s'.heap l' out) :
  wpAny (model B.prog B.w) A (call (.builtin "sorted") [x]) (fun v s'=>∃ c l l',L l∧P l l'∧v=.ref c∧σ c=none∧Ext B noX σ s (upd σ c (.list l')) s') (fun jj jj=>False) s:=by
 refine Calls.call_function_entry kind_sorted plain_sorted entry_sorted (args_sorted1 _) ?_
 unfold Builtin.«sorted»
 refine wpAny_bind (m:=checkCount "sorted" 1 1 _) (wpAny_pure ?_)
 refine wpAny_bind (hcol _ fun l vs s₁ hL r x₁=>?_)
 have hlen:=VRs.length r
 have h64:=hz l hL
 refine wpAny_bind (wpAny_newList ?_ (by rw[sizeLine_eq];exact Nat.le_trans (Nat.le_of_lt (Nat.le_trans (Nat.add_le_add_right (Nat.le_of_eq hlen.symm) 1) h64)) (lnk rfl)))
 have k:∀ b o,s₁.heap.get? b=some o→(s₁.heap.push (seqObj "list" vs.toArray 0)).get? b=some o:=fun b o e=>Heap.get?_push_of_some _ e
 have g:Ext B noX σ s₁ σ { s₁ with heap:=s₁.heap.push (seqObj "list" vs.toArray 0) }:=Ext.grow (t:=s₁.toks) x₁.st k
 have hoL:(s₁.heap.push (seqObj "list" vs.toArray 0)).get? s₁.heap.objs.size=some (seqObj "list" vs.toArray 0):=Heap.get?_push_size _ rfl
 show wpAny _ _ _ _ _ { s₁ with heap:=s₁.heap.push (seqObj "list" vs.toArray 0) }
 refine wpAny_bind (wpAny_holding (wpAny_call_entry slot_list_sort ⟨_,hoL,rfl⟩ entry_list_sort ?body (args_list_sort _)))
 case body=>
  have so:=hs l hL _ vs g.st (r.mono g.tup)
  refine Afc hoL (by exact Nat.le_trans (Nat.add_le_add_right (Nat.le_of_eq hlen.symm) 1) h64) so fun out c h' ⟨l',hP,hr⟩ hlo ho' hk=>?_
  refine⟨_,rfl,wpAny_pure ⟨_,rfl,?_⟩⟩
  have hn:=Aan s₁.heap
  have k2:∀ b o,s₁.heap.get? b=some o→h'.get? b=some o:=fun b o e=>hk b o (fun q=>by subst q;rw[hn] at e;cases e) (k b o e)
  have T2:TupKeep (s₁.heap.push (seqObj "list" vs.toArray 0)) h':=by
   rintro b items ⟨c,e,z⟩
   refine⟨c,hk b _ (fun q=>?_) e,z⟩
   subst q;rw[hoL] at e;simp at e
  exact⟨_,l,l',hL,hP,rfl,x₁.st.none_size,x₁.trans (Ext.new (t:=s₁.toks) x₁.st k2 hn (show OR B.w _ _ (.list l') from⟨out.toArray,⟨_,ho'⟩,hr.mono T2⟩) x₁.st.size_lo)⟩
theorem AbX{ks:List Str}{Q:AV→AH→Prop}(hns:σ b=some (.dict kvs)∨∃ es n,σ b=some (.cdict es n kvs))(hk:kvs.map (·.1)=ks.map .str)(hz:ks.length<64)
  (q:∀ c,σ c=none→Q (.obj c) (upd σ c (.list ((Aa2 ks).map .str)))):AC B d (.builtin "sorted") [.obj b] σ Q:=by
 refine ac_o fun A s r S=>?_
 have hO:OR B.w s.heap b (.dict kvs)∧(b==sysModules)=false:=by
  rcases hns with h | ⟨es,n,h⟩
  ·exact⟨S.objs b _ h,S.ns h⟩
  ·exact⟨(S.objs b _ h).cd,S.ns h⟩
 have hl:kvs.length=ks.length:=by have:=congrArg List.length hk;simpa using this
 refine wpAny_mono (AcG (L:=fun l=>l=ks.map .str) (P:=fun jj l'=>l'=(Aa2 ks).map .str) S (fun R k=>AdD (A:=A.in1) r.handled S hO.2 hO.1 (by exact Nat.le_trans (Nat.le_of_lt (Nat.le_trans (Nat.add_le_add_right (Nat.le_of_eq hl) 1) hz)) (lnk rfl)) fun vs s' rv x=>k _ vs s' rfl (by rw[← hk];exact rv) x)
  (fun l e=>by rw[e];simpa using hz) fun l e s' vs jj rv=>?_) ?_ fun jj jj e=>e
 ·subst e
  exact(AeE rv).mono fun o h=>⟨_,rfl,h⟩
 ·rintro v s' ⟨c,l,l',rfl,rfl,rfl,hc,x⟩
  exact⟨.obj c,_,q c hc,rfl,x⟩
theorem AbY{τ:KT}{Q:AV→AH→Prop}(hb:σ b=some (.dict kvs))(hk:∀ kv∈kvs,AcX τ kv.1)(hz:kvs.length<64)
  (q:∀ c l,σ c=none→l.Perm (kvs.map (·.1))→Q (.obj c) (upd σ c (.list l))):AC B d (.builtin "sorted") [.obj b] σ Q:=by
 refine ac_o fun A s r S=>?_
 refine wpAny_mono (AcG (L:=fun l=>l=kvs.map (·.1)) (P:=fun l l'=>l'.Perm l) S (fun R k=>AdD (A:=A.in1) r.handled S (S.ns hb) (S.objs b _ hb) (by exact Nat.le_trans (Nat.le_of_lt hz) (lnk rfl)) fun vs s' rv x=>k _ vs s' rfl rv x)
  (fun l e=>by rw[e];simpa using hz) fun l e s' vs jj rv=>?_) ?_ fun jj jj e=>e
 ·subst e
  exact AhJ τ (fun x hx=>by obtain⟨kv,hm,rfl⟩:=List.mem_map.mp hx;exact hk kv hm) rv (by have:=r.units;show A.units+1+1+16<_;exact ln3 (.c 1 (.a (.a (.a (.v 0) (.m 10 (.v 1))) (.n 200)) (.n 1)) (.v 2) (.g 0 (.a (.a (.a (.p 0 1) (.n 1)) (.n 16)) (.n 1)) (.v 2))) rfl this)
 ·rintro v s' ⟨c,l,l',rfl,hp,rfl,hc,x⟩
  exact⟨.obj c,_,q c l' hc hp,rfl,x⟩
end
end Pq
namespace Pq
noncomputable def SEnt(w:World)(k:Str)(e:Int×Value):Prop:=∃ tk,e=(hashStr w k,.str k tk)
noncomputable def AaP(es:Array (Int×Value))(ep:Nat)(t:SetTable):Obj:={ cls:=.type "set",dict:=none,data:=.set es ep t,slots:=#[] }
inductive SPm(w:World)(σ:List Str)(es:Array (Int×Value)):Prop
 | mk (ks:List Str) (p:ks.Perm σ) (a:All2 (SEnt w) ks es.toList)
inductive SS(w:World)(h:Heap)(a:Addr)(led:Bool)(σ:List Str):Prop
 | mk (es ep t:_) (h1:h.get? a=some (AaP es ep t)) (h2:SPm w σ es) (h3:t.fits es.size=true) (h4:t.led=led) (h5:σ≠[]→t.plain=false)
open Classical in
noncomputable def addS(σ:List Str)(k:Str):List Str:=if k∈σ then σ else σ++[k]
theorem Ae7(t:SetTable)(n:Nat):(t.orStandIn n).led=t.led:=by unfold SetTable.orStandIn;split<;>rfl
theorem AhW(t:SetTable)(es:Array (Int×Value))(h:Int)(x:Value):(layNew t es h x).2.1.led=t.led:=by
 delta layNew
 generalize t.freeSlot h=o
 cases o with
 | some q=>exact Ae7 _ _
 | none=>rfl
theorem AhL{t:SetTable}{es:Array Int}{n:Nat}{q:SetTable×Array Nat}(heq:t.relaid es n=some q):q.1.led=t.led∧(t.plain=false→q.1.plain=false):=by
 unfold SetTable.relaid SetTable.laid at heq
 simp only[Option.bind_eq_bind,Option.bind_eq_some_iff] at heq
 obtain⟨_,_,e⟩:=heq
 rw[← Option.some.inj e]
 exact⟨rfl,id⟩
theorem Ady(t:SetTable)(es:Array (Int×Value))(n:Nat):(relayAll t es n).2.1.led=t.led∧(t.plain=false→(relayAll t es n).2.1.plain=false):=by
 delta relayAll
 cases heq:t.relaid (es.map (·.1)) n with
 | some q=>
  have e:∀ r:Array (Int×Value)×SetTable×Bool,r=(if(coversAll q.2 es.size&&q.1.fits (q.2.filterMap (es[·]?)).size)=true then(q.2.filterMap (es[·]?),q.1,false) else(es,t.standIn es.size,true))→r.2.1.led=t.led∧(t.plain=false→r.2.1.plain=false):=by
   rintro r rfl
   split
   ·exact AhL heq
   ·exact⟨rfl,fun jj=>rfl⟩
  exact e _ rfl
 | none=>exact⟨rfl,fun jj=>rfl⟩
theorem AfJ(t:SetTable)(es:Array (Int×Value))(n:Nat):(relayAll t es n).2.1.led=t.led:=(Ady t es n).1
theorem Aes(t:SetTable)(es:Array (Int×Value))(n:Nat)(h:t.plain=false):(relayAll t es n).2.1.plain=false:=(Ady t es n).2 h
theorem Adh{α β:Type}{R:α→β→Prop}:∀ {m m':List β},m'.Perm m→∀ {l:List α},All2 R l m→∃ l',l'.Perm l∧All2 R l' m':=by
 intro m m' p
 induction p with
 | nil=>intro l h;exact⟨l,.refl _,h⟩
 | @cons b l₁ l₂ _ ih=>
  intro l h
  cases l with
  | nil=>exact absurd (show _::_=[] from h) (by simp)
  | cons a l=>
   obtain⟨b',r,e,hab,hr⟩:=h
   cases e
   obtain⟨l',p',h'⟩:=ih hr
   exact⟨a::l',p'.cons a,.cons hab h'⟩
 | @swap b c l₁=>
  intro l h
  cases l with
  | nil=>obtain⟨_,_,e,_⟩:=h
  | cons a l=>
   obtain⟨b',r,e,hab,hr⟩:=h
   cases l with
   | nil=>cases e;obtain⟨_,_,e,_⟩:=hr
   | cons a' l=>
    obtain⟨c',r',e',hab',hr'⟩:=hr
    cases e;cases e'
    exact⟨a'::a::l,.swap _ _ _,.cons hab' (.cons hab hr')⟩
 | trans _ _ ih1 ih2=>
  intro l h
  obtain⟨l',p1,h1⟩:=ih2 h
  obtain⟨l'',p2,h2⟩:=ih1 h1
  exact⟨l'',p2.trans p1,h2⟩
variable[Own]
section
variable{prog:Program}{w:World}{A:Around}{E:Value→Shared→Prop}{s:Shared}{a:Addr}{led:Bool}{σ:List Str}{k:Str}{tk:Tok}
theorem SEnt.elems{ks:List Str}{l:List (Int×Value)}(h:All2 (SEnt w) ks l):ElemsOf (PySem.strKind prog w) l:=by
 intro e he
 obtain⟨i,hi⟩:=List.mem_iff_getElem?.mp he
 obtain⟨k,_,tk,rfl⟩:=Adu h hi
 exact⟨⟨k,strKind_is _ _ _ _,rfl⟩,rfl⟩
theorem SS.add{Q:Bool→Shared→Prop}(hS:SS w s.heap a led σ)(hb:σ.length+1<scanBound)(h:∀ b h',Heap.SameBut a s.heap h'→SS w h' a led (addS σ k)→Q b { s with heap:=h' }):
  wpAny (model prog w) A (setAddHashed a (.str k tk) (hashStr w k)) Q E s:=by
 obtain⟨es,ep,t,ho,⟨ks,hp,hks⟩,hf,hl,hpl⟩:=hS
 have hkl:ks.length=es.size:=by rw[hks.length,Array.length_toList]
 have hsz:es.size=σ.length:=by rw[← hkl,hp.length_eq]
 have hel:=SEnt.elems (prog:=prog) hks
 have hkey:(PySem.strKind prog w).is k (.str k tk)=true:=strKind_is _ _ _ _
 unfold setAddHashed setAddHashedIn
 refine wpAny_holding (wpAny_bind (wpAny_setState_of ho rfl hf ?_))
 dsimp only
 rw[byScan_of (knd:=PySem.strKind prog w) rfl (by exact Nat.le_of_lt (Nat.le_trans (Nat.add_le_add_right (Nat.le_of_eq hsz) 2) hb)) hel]
 unfold setAddByScan
 refine wpAny_bind ?_
 refine wpAny_bind (wpAny_rule ?_)
 refine wpAny_bind (wpAny_setScan_of (knd:=PySem.strKind prog w) (k:=k) hkey ho rfl hf hel ?_)
 have hidx:∀ {r},List.findIdx? (fun e:Int×Value=>(PySem.strKind prog w).is k e.2) es.toList=r→(r.isSome=true↔k∈σ):=by
  rintro r rfl
  rw[← hp.mem_iff,List.findIdx?_isSome,List.any_eq_true]
  constructor
  ·rintro⟨e,he,q⟩
   obtain⟨i,hi⟩:=List.mem_iff_getElem?.mp he
   obtain⟨k',hk',tk',rfl⟩:=Adu hks hi
   obtain⟨t',e'⟩:=Value.isStrOf_shape (show Value.isStrOf k (.str k' tk')=true from q)
   injection e' with e1 _
   subst e1
   exact List.mem_of_getElem? hk'
  ·intro hm
   obtain⟨i,hi⟩:=List.mem_iff_getElem?.mp hm
   obtain⟨e,he,tk',rfl⟩:=hks.get hi
   exact⟨_,List.mem_of_getElem? he,strKind_is _ _ _ _⟩
 cases hr:List.findIdx? (fun e:Int×Value=>(PySem.strKind prog w).is k e.2) es.toList with
 | some j=>
  have hm:=(hidx hr).mp rfl
  refine wpAny_pure (wpAny_pure ?_)
  have e:s={ s with heap:=s.heap }:=by cases s;rfl
  rw[e]
  refine h false s.heap (Heap.SameBut.refl a s.heap) ?_
  unfold addS
  rw[if_pos hm]
  exact⟨es,ep,t,ho,⟨ks,hp,hks⟩,hf,hl,hpl⟩
 | none=>
  have hm:k∉σ:=fun z=>by have:=(hidx hr).mpr z;simp at this
  have hgw:∀ (b:Bool) {s₁:Shared} {Q':Unit→Shared→Prop},Q' () s₁→wpAny (model prog w) A (match b with | true=>rule "set.scan.the-table-gave-way" | false=>pure ()) Q' E s₁:=
   fun b s₁ Q' hq=>by cases b<;>first | exact wpAny_pure hq | exact wpAny_rule hq
  have hperm:=layNew_perm t es (hashStr w k) (.str k tk)
  have hfits:=layNew_fits t es (hashStr w k) (.str k tk)
  have hled:=AhW t es (hashStr w k) (.str k tk)
  generalize hL:layNew t es (hashStr w k) (.str k tk)=L at hperm hfits hled ⊢
  obtain⟨es1,t1,wasDummy,gave⟩:=L
  rw[Array.toList_push] at hperm
  obtain⟨ks1,hp1,hks1⟩:=Adh hperm (hks.append (.cons ⟨tk,rfl⟩ .nil):All2 (SEnt w) (ks++[k]) _)
  have hσ:ks1.Perm (addS σ k):=by
   unfold addS
   rw[if_neg hm]
   exact hp1.trans (hp.append_right [k])
  have hsz1:es1.size=es.size+1:=by rw[← Array.length_toList,hperm.length_eq];simp
  refine wpAny_bind (hgw _ ?_)
  have tail:∀ t2:SetTable,t2.fits es1.size=true→t2.led=led→t2.plain=false →
    wpAny (model prog w) A (do
     storeSet a es1 t2
     if(!wasDummy&&t2.tooFull)=true then do
       (match (relayAll t2 es1 (SetTable.grown es1.size)).2.2 with | true=>rule "set.scan.the-table-gave-way" | false=>pure ())
       storeSet a (relayAll t2 es1 (SetTable.grown es1.size)).1 (relayAll t2 es1 (SetTable.grown es1.size)).2.1
       pure (some true)
      else pure (some true)) (fun r s'=>wpAny (model prog w) A (match r with | some added=>pure added | none=>setAddHashedIn a (.str k tk) (hashStr w k) 99999) Q E s') E s:=by
   intro t2 f2 l2 p2
   have g1:(s.heap.update a (Obj.putSet es1 t2)).get? a=some (AaP es1 (ep+1) t2):=by
    have:=Heap.get?_update_self (Obj.putSet es1 t2) ho (by rw[putSet_of es1 t2 rfl];rfl)
    rw[putSet_of es1 t2 rfl] at this;exact this
   have b1:=Heap.SameBut.update s.heap a (Obj.putSet es1 t2)
   refine wpAny_bind (wpAny_storeSet_of ho rfl ?_ (fits_of_scanBound (by exact Nat.le_trans (Nat.add_le_add_right (Nat.le_trans (Nat.le_of_eq hsz1) (Nat.add_le_add_right (Nat.le_of_eq hsz) 1)) 1) hb)))
   split
   ·refine wpAny_bind (hgw _ ?_)
    have hp2:=relayAll_perm t2 es1 (SetTable.grown es1.size)
    have hf2:=relayAll_fits t2 es1 (SetTable.grown es1.size)
    have hl2:=AfJ t2 es1 (SetTable.grown es1.size)
    have hq2:=Aes t2 es1 (SetTable.grown es1.size) p2
    obtain⟨ks2,hp3,hks2⟩:=Adh hp2 hks1
    have hsz2:(relayAll t2 es1 (SetTable.grown es1.size)).1.size=es1.size:=by rw[← Array.length_toList,hp2.length_eq,Array.length_toList]
    generalize relayAll t2 es1 (SetTable.grown es1.size)=Rl at *
    refine wpAny_bind (wpAny_storeSet_of g1 rfl ?_ (fits_of_scanBound (by exact Nat.le_trans (Nat.add_le_add_right (Nat.le_trans (Nat.le_trans (Nat.le_of_eq hsz2) (Nat.le_of_eq hsz1)) (Nat.add_le_add_right (Nat.le_of_eq hsz) 1)) 1) hb)))
    refine wpAny_pure (wpAny_pure (h true _ (b1.trans (Heap.SameBut.update _ a _)) ⟨Rl.1,ep+1+1,Rl.2.1,?_,⟨ks2,hp3.trans hσ,hks2⟩,hf2,hl2.trans l2,fun jj=>hq2⟩))
    have:=Heap.get?_update_self (Obj.putSet Rl.1 Rl.2.1) g1 (by rw[putSet_of Rl.1 Rl.2.1 rfl];rfl)
    rw[putSet_of Rl.1 Rl.2.1 rfl] at this
    exact this
   ·exact wpAny_pure (wpAny_pure (h true _ b1 ⟨es1,ep+1,t2,g1,⟨ks1,hσ,hks1⟩,f2,l2,fun jj=>p2⟩))
  by_cases hpt:t1.plain=true
  ·rw[if_pos hpt]
   refine wpAny_bind ?_
   rw[hashByValue_scannable 8 (x:=.str k tk) rfl]
   refine wpAny_pure ?_
   exact tail { t1 with plain:=false } (SetTable.fits_plain_off hfits) (hled.trans hl) rfl
  ·rw[if_neg hpt]
   refine wpAny_bind (wpAny_pure ?_)
   exact tail t1 hfits (hled.trans hl) (by simpa using hpt)
end
end Pq
namespace Pq
variable[Own]
noncomputable def Aby(ks:List Str):List Str:=ks.foldl addS []
omit [Own] in
theorem AgC(ks:List Str)(k:Str):Aby (ks++[k])=addS (Aby ks) k:=by simp[Aby]
omit [Own] in
theorem Adp(ks:List Str):(Aby ks).length≤ks.length:=by
 have:∀ (ks acc:List Str),(ks.foldl addS acc).length≤acc.length+ks.length:=by
  intro ks
  induction ks with
  | nil=>intro acc;simp
  | cons k ks ih=>
   intro acc
   have h1:=ih (addS acc k)
   have h2:(addS acc k).length≤acc.length+1:=by unfold addS;split<;>simp
   simp only[List.foldl_cons,List.length_cons]
   exact ln4 (.c 1 (.v 0) (.b 1 2) (.c 1 (.v 1) (.p 3 1) (.g 0 (.v 0) (.a (.v 3) (.p 2 1))))) rfl h1 h2
 have:=this ks []
 simpa[Aby] using this
section
variable{prog:Program}{w:World}{A:Around}{R:Result→Shared→Prop}{I S l:Addr}{items:Array Value}{ks:List Str}{led:Bool}
theorem set_loop(hh:A.handled=none)(hne:l≠I)(hSI:S≠I)(hSl:S≠l)(hv:∀ (i:Nat) (v:Value),items[i]?=some v→∃ k t,ks[i]?=some k∧v=Value.str k t)(hkl:ks.length=items.size)(hb:items.size+1<scanBound):
  ∀ (k i:Nat) (s:Shared),items.size - i=k→i≤items.size→s.heap.IsListIter I l i→s.heap.IsList l items→SS w s.heap S led (Aby (ks.take i)) →
   (∀ h' tk,(∀ b o,b≠S→b≠I→s.heap.get? b=some o→h'.get? b=some o)→SS w h' S led (Aby ks)→R (.ok (.ret .none)) { s with heap:=h',toks:=tk }) →
   codeAny (model prog w) A (.builtin "set.update.loop" ⟨[.ref S,.ref I],[]⟩) R s:=by
 have W:=Walks.list (prog:=prog) (w:=w) (A:=A.in1) (I:=I) hh l hne items
 intro k
 induction k with
 | zero=>
  intro i s hk hi hit hl hS hR
  have hin:i=items.size:=Nat.le_antisymm hi (Nat.le_of_sub_eq_zero hk)
  subst hin
  refine codeAny_builtin F.entry_set_update_loop ?_
  rw[Around.under_plainId F.plain_set_update_loop _]
  show wpAny _ A.in1 (pyNext (.ref I) >>= _) _ _ s
  refine wpAny_bind (W.done s _ _ ⟨hit,hl⟩ fun h' tk hm=>?_)
  refine wpAny_pure (hR h' tk (fun b o jj h2 e=>hm b o (by simpa using h2) e) ?_)
  rw[← hkl,List.take_length] at hS
  obtain⟨es,ep,t,ho,r2,r3,r4,r5⟩:=hS
  exact⟨es,ep,t,hm S _ (by simpa using hSI) ho,r2,r3,r4,r5⟩
 | succ k ih=>
  intro i s hk hi hit hl hS hR
  have hlt:i<items.size:=Nat.lt_of_sub_eq_succ hk
  refine codeAny_builtin F.entry_set_update_loop ?_
  rw[Around.under_plainId F.plain_set_update_loop _]
  show wpAny _ A.in1 (pyNext (.ref I) >>= _) _ _ s
  refine wpAny_bind (W.item i s _ _ hlt ⟨hit,hl⟩ fun v h' tk hP st hm=>?_)
  obtain⟨x,t,hx,rfl⟩:=hv i v hP
  show wpAny _ A.in1 (holding [Value.str x t] (setAdd S (.str x t)) >>= _) _ _ _
  refine wpAny_bind (wpAny_holding ?_)
  unfold setAdd
  refine wpAny_holding (wpAny_bind (wpAny_pyHash_str ?_))
  have hS':SS w h' S led (Aby (ks.take i)):=by
   obtain⟨es,ep,t,ho,r2,r3,r4,r5⟩:=hS
   exact⟨es,ep,t,hm S _ (by simpa using hSI) ho,r2,r3,r4,r5⟩
  have hsm:(Aby (ks.take i)).length+1<scanBound:=by
   have h1:=Adp (ks.take i)
   have h2:(ks.take i).length≤i:=by simp;lia
   exact Nat.le_trans (Nat.add_le_add_right (Nat.le_trans (Nat.le_trans h1 h2) hi) 2) hb
  refine SS.add (k:=x) (tk:=t) hS' hsm fun b h'' hs hS2=>?_
  rw[← AgC,show ks.take i++[x]=ks.take (i+1) by rw[List.take_succ,hx];rfl] at hS2
  refine wpAny_pure ⟨plainId_quiet F.plain_set_update_loop _,ih (i+1) _ (congrArg Nat.pred hk) hlt ?_ ?_ hS2 fun h3 tk3 hk3 hS3=>?_⟩
  ·obtain⟨o,ho,r⟩:=st.1;exact⟨o,(hs.2 I hSI.symm).trans ho,r⟩
  ·obtain⟨o,ho,r⟩:=st.2;exact⟨o,(hs.2 l hSl.symm).trans ho,r⟩
  ·exact hR h3 tk3 (fun b o h1 h2 e=>hk3 b o h1 h2 ((hs.2 b h1).trans (hm b o (by simpa using h2) e))) hS3
end
section
variable{prog:Program}{w:World}{A:Around}{E:Value→Shared→Prop}{s:Shared}
omit [Own] in
theorem AdN(a:Value){Q₁:Value→Shared→Prop}
  (h:Q₁ (.ref s.heap.objs.size) { s with heap:=s.heap.push (AaP #[] 0 (.fresh 0 0 (!w.params.followText "set-order"))) }) :
  codeAny (model prog w) A (.call (.builtin "set.__new__") ⟨[.type "set",a],[]⟩) (wants Q₁ E) s:=by
 refine codeAny_of_tree ?_
 show wpAny _ A.in1 (do checkBuiltinCall "set.__new__" ⟨[.type "set",a],[]⟩;again (.builtin "set.__new__" ⟨[.type "set",a],[]⟩)) _ _ s
 refine wpAny_bind (wpAny_of_eq (F.newCall_set_1 a) (wpAny_pure ⟨plainId_quiet F.plain_set_new _,codeAny_builtin F.entry_set_new ?_⟩))
 rw[Around.under_plainId F.plain_set_new _]
 unfold Builtin.«set.__new__» Builtin.Frozenset.newClass
 have hsub:=PySem.sub_set_self
 obtain⟨hp,g,d,tk,os⟩:=s
 dsimp only
 wp_walk
 refine wpAny_askSetting (wpAny_pure ?_)
 dsimp only
 refine wpAny_bind (wpAny_alloc (wpAny_pure ?_))
 exact wpAny_pure h
set_option maxHeartbeats 3200000 in
theorem Afp{l:Addr}{items:Array Value}{ks:List Str}{Q:Value→Shared→Prop}
  (hh:A.handled=none) (hl:s.heap.IsList l items) (hv:∀ (i:Nat) (v:Value),items[i]?=some v→∃ k t,ks[i]?=some k∧v=Value.str k t) (hkl:ks.length=items.size) (hb:items.size+1<scanBound)
  (h:∀ (h':Heap) (tk:Nat),(∀ b o,s.heap.get? b=some o→h'.get? b=some o)→SS w h' s.heap.objs.size (!w.params.followText "set-order") (Aby ks)→Q (.ref s.heap.objs.size) { s with heap:=h',toks:=tk }) :
  wpAny (model prog w) A (call (.type "set") [.ref l]) Q E s:=by
 generalize hled:(!w.params.followText "set-order")=led at h
 obtain⟨c,tl,hmro⟩:=F.called_set.mro
 have hmade:=F.called_set.made
 have hsub:=F.called_set.sub
 refine wpAny_call (codeAny_of_tree ?_)
 show wpAny _ _ (callAny (.type "set") _) _ _ _
 refine wpAny_pure ⟨Code.quiet_builtin _ (by decide +kernel),codeAny_builtin F.entry_type_call ?_⟩
 rw[Around.under_plain (weight_type_call_type "set" [.ref l] []) rfl]
 have h1:=F.called_set.notType
 have h2:=F.called_set.canCreate
 have hct:=F.typeCall_set_1 (.ref l)
 repeat (any_goals (first | (with_reducible assumption) | with_reducible (first | refine wpAny_pure ?_ | refine wpAny_bind ?_ | refine wpAny_holding ?_ | refine wpAny_standAt ?_ | refine wpAny_point ?_ | refine wpAny_rule ?_ | refine wpAny_letGo ?_ | refine wpAny_of_eq (by assumption) ?_ | refine wpAny_typeOf (by assumption) ?_ | refine wpAny_specialOf (by assumption) (by assumption) ?_ | refine wpAny_isInstance (by assumption) (by assumption) ?_ | refine wpAny_call ?_ | refine wpAny_runValue ?_ | refine wpAny_run ?_) | ((with_reducible apply wpAny_load');focus (heap_get;done)) | ((with_reducible apply wpAny_loadPart');focus (heap_get;done)) | ((with_reducible apply wpAny_ite_false);focus (rfl;done)) | ((with_reducible apply wpAny_ite_true);focus (rfl;done)) | wp_delta | wp_step))
 refine codeAny_mono (AdN (.ref l) (E:=E) (Q₁:=fun obj s₁=>obj=.ref s.heap.objs.size∧s₁={ s with heap:=s.heap.push (AaP #[] 0 (.fresh 0 0 led)) }) ⟨rfl,by rw[← hled]⟩) fun r s₁ hr=>?_
 cases r with
 | error e=>exact hr
 | ok fl=>
  cases fl with
  | ret obj=>
   obtain⟨rfl,rfl⟩:=hr
   have hS:(s.heap.push (AaP #[] 0 (.fresh 0 0 led))).get? s.heap.objs.size=some (AaP #[] 0 (.fresh 0 0 led)):=Heap.get?_push_size _ rfl
   have hT:Shared.TypeIs { s with heap:=s.heap.push (AaP #[] 0 (.fresh 0 0 led)) } (.ref s.heap.objs.size) "set":=⟨_,hS,rfl⟩
   have hli:=F.called_set.init.lookup
   have hbi:=F.called_set.init.bind (.ref s.heap.objs.size)
   repeat (any_goals (first | (with_reducible assumption) | with_reducible (first | refine wpAny_pure ?_ | refine wpAny_bind ?_ | refine wpAny_holding ?_ | refine wpAny_standAt ?_ | refine wpAny_point ?_ | refine wpAny_rule ?_ | refine wpAny_letGo ?_ | refine wpAny_of_eq (by assumption) ?_ | refine wpAny_typeOf (by assumption) ?_ | refine wpAny_specialOf (by assumption) (by assumption) ?_ | refine wpAny_isInstance (by assumption) (by assumption) ?_ | refine wpAny_call ?_ | refine wpAny_runValue ?_ | refine wpAny_run ?_) | ((with_reducible apply wpAny_load');focus (heap_get;done)) | ((with_reducible apply wpAny_loadPart');focus (heap_get;done)) | ((with_reducible apply wpAny_ite_false);focus (rfl;done)) | ((with_reducible apply wpAny_ite_true);focus (rfl;done)) | wp_delta | wp_step))
   refine codeAny_mono (codeAny_call_builtin (R:=wants (fun r s₂=>r=.none∧∃ h' tk,s₂={ s with heap:=h',toks:=tk }∧SS w h' s.heap.objs.size led (Aby ks) ∧
     (∀ b o,s.heap.get? b=some o→h'.get? b=some o)) E) F.called_set.init.plain F.entry_set_init (check_set_init_1 hT ?_)) fun r₂ s₂ hr₂=>?_
   ·have hlS:l<s.heap.objs.size:=by obtain⟨o,ho,_⟩:=hl;exact Heap.lt_size ho
    have hl1:(s.heap.push (AaP #[] 0 (.fresh 0 0 led))).IsList l items:=by obtain⟨o,ho,r⟩:=hl;exact⟨o,Heap.get?_push_of_some _ ho,r⟩
    obtain⟨ol,hol,hcl,nl,hdl⟩:=id hl
    obtain⟨ocls,odict,odata,oslots⟩:=ol
    simp only at hcl hdl
    subst hcl;subst hdl
    have hol':(s.heap.push (AaP #[] 0 (.fresh 0 0 led))).get? l=some { cls:=.type "list",dict:=odict,data:=.seq items nl,slots:=oslots }:=Heap.get?_push_of_some _ hol
    have hsls:=F.sub_list_set
    have hslf:=F.sub_list_frozenset
    have hne:(Value.type "list"==Value.type "dict")=false:=by decide
    unfold Builtin.«set.__init__» noKeywords Builtin.Frozenset.updateFrom
    generalize hPI:pyIter=PI
    repeat (first | with_reducible (first | refine wpAny_pure ?_ | refine wpAny_bind ?_ | refine wpAny_holding ?_ | refine wpAny_standAt ?_ | refine wpAny_point ?_ | refine wpAny_rule ?_ | refine wpAny_letGo ?_ | refine wpAny_of_eq (by assumption) ?_ | refine wpAny_typeOf (by assumption) ?_ | refine wpAny_specialOf (by assumption) (by assumption) ?_ | refine wpAny_isInstance (by assumption) (by assumption) ?_ | refine wpAny_call ?_ | refine wpAny_runValue ?_ | refine wpAny_run ?_) | ((with_reducible apply wpAny_load');focus (heap_get;done)) | ((with_reducible apply wpAny_loadPart');focus (heap_get;done)) | ((with_reducible apply wpAny_ite_false);focus (rfl;done)) | ((with_reducible apply wpAny_ite_true);focus (rfl;done)) | wp_delta | wp_step)
    subst hPI
    refine wpAny_pyIter_list hl1 ?_
    refine wpAny_bind (wpAny_runValue ?_)
    have hh3:A.in1.in1.handled=none:=hh
    have hsz:(s.heap.push (AaP #[] 0 (.fresh 0 0 led))).objs.size=s.heap.objs.size+1:=Heap.size_push ..
    have hget:=Heap.get?_push_of_some { cls:=.type "list_iterator",data:=.fields #[.ref l,.int 0 0] } hS
    refine set_loop (led:=led) (ks:=ks) (items:=items) (I:=(s.heap.push (AaP #[] 0 (.fresh 0 0 led))).objs.size) hh3 (l:=l) (by rw[hsz];exact Nat.ne_of_lt (Nat.lt_succ_of_lt hlS)) (by rw[hsz];exact Nat.ne_of_lt (Nat.lt_succ_self _)) (Nat.ne_of_gt hlS) hv hkl hb (items.size - 0) 0 _ rfl (Nat.zero_le _) ?hit ?hlst ?hS0 ?hR
    case hit=>exact⟨_,Heap.get?_push_size _ rfl,rfl,rfl⟩
    case hlst=>exact hl1.push _
    case hS0=>
     exact⟨#[],0,_,hget,⟨[],.refl _,rfl⟩,by rfl,rfl,fun z=>absurd rfl z⟩
    case hR=>
     intro h' tk hk hS'
     refine wpAny_pure ?_
     show wpAny _ _ (ret Value.none) _ _ _
     refine wpAny_pure ⟨rfl,h',tk,rfl,hS',fun b o e=>?_⟩
     have hbl:=Heap.lt_size e
     exact hk b o (Nat.ne_of_lt hbl) (by rw[hsz];exact Nat.ne_of_lt (Nat.lt_succ_of_lt hbl)) (Heap.get?_push_of_some _ (Heap.get?_push_of_some _ e))
   ·cases r₂ with
    | error e=>exact hr₂
    | ok fl₂=>
     cases fl₂ with
     | ret r=>
      obtain⟨rfl,h',tk,rfl,hS',hk'⟩:=hr₂
      repeat (any_goals (first | (with_reducible assumption) | with_reducible (first | refine wpAny_pure ?_ | refine wpAny_bind ?_ | refine wpAny_holding ?_ | refine wpAny_standAt ?_ | refine wpAny_point ?_ | refine wpAny_rule ?_ | refine wpAny_letGo ?_ | refine wpAny_of_eq (by assumption) ?_ | refine wpAny_typeOf (by assumption) ?_ | refine wpAny_specialOf (by assumption) (by assumption) ?_ | refine wpAny_isInstance (by assumption) (by assumption) ?_ | refine wpAny_call ?_ | refine wpAny_runValue ?_ | refine wpAny_run ?_) | ((with_reducible apply wpAny_load');focus (heap_get;done)) | ((with_reducible apply wpAny_loadPart');focus (heap_get;done)) | ((with_reducible apply wpAny_ite_false);focus (rfl;done)) | ((with_reducible apply wpAny_ite_true);focus (rfl;done)) | wp_delta | wp_step))
      exact h _ _ hk' hS'
     | _=>exact hr₂.elim
  | _=>exact hr.elim
end
end Pq
namespace Pq
theorem Abj:Slot "set_iterator" "__next__" "set_iterator.__next__":=
 .of (owner:="set_iterator") (n:="__next__") (by rw[typeLookup_type,builtinLookup_eq_fast];kernel_rfl) (by decide +kernel) (by decide +kernel) (by decide +kernel)
  (by first | exact .inl (by decide +kernel) | exact .inr (by decide +kernel)) (by rw[isSubtype_type];kernel_rfl)
theorem AdL:entryFor table "set_iterator.__next__"=some Builtin.«set_iterator.__next__»:=entryFor_of_tree (by kernel_rfl)
theorem Aem(a:Value):argsOk "set_iterator.__next__" ⟨[a],[]⟩:=by unfold argsOk;kernel_rfl
theorem Aey:entryFor table "set.__iter__"=some Builtin.«frozenset.__iter__»:=
 entryFor_alias (id':="frozenset.__iter__") (by kernel_rfl) rfl (by decide +kernel) (by kernel_rfl)
theorem Acw{α:Type}{l:List α}{i:Nat}(h:i<l.length):(l[i]::l.eraseIdx i).Perm l:=by
 induction l generalizing i with
 | nil=>exact absurd h (Nat.not_lt_zero _)
 | cons x l ih=>
  cases i with
  | zero=>exact .refl _
  | succ i=>exact(List.Perm.swap _ _ _).trans ((ih (Nat.lt_of_succ_lt_succ h)).cons x)
theorem Af5{α:Type}{l:List α}{i f:Nat}(hp:i<l.length)(h:l.length=f+1):(l.eraseIdx i).length=f:=by
 rw[List.length_eraseIdx,if_pos hp,h];rfl
theorem Aiy{α:Type}(next:Nat→Nat)(f k:Nat)(l:List α)(out:Array α)(h:l.length=f):((pickOrder.go next f k l out).toList).Perm (out.toList++l):=by
 induction f generalizing k l out with
 | zero=>rw[List.length_eq_zero_iff.mp h,List.append_nil];exact .refl _
 | succ f ih=>
  have hp:next k % l.length<l.length:=Nat.mod_lt _ (h▸Nat.succ_pos f)
  have e:pickOrder.go next (f+1) k l out=Option.casesOn (l[next k % l.length]?) out fun x=>pickOrder.go next f (k+1) (l.eraseIdx (next k % l.length)) (out.push x):=by kernel_rfl
  rw[e,List.getElem?_eq_getElem hp]
  refine(ih (k+1) _ _ (Af5 hp h)).trans ?_
  rw[Array.toList_push,List.append_assoc]
  exact List.Perm.append_left _ (Acw hp)
theorem Aet{α:Type}(next:Nat→Nat)(xs:Array α):(pickOrder next xs).toList.Perm xs.toList:=Aiy next xs.size 0 xs.toList #[] Array.length_toList
section
variable{prog:Program}{w:World}{A:Around}{E:Value→Shared→Prop}{s:Shared}{α:Type}
theorem AfA{src:Source}{n:Nat}{Q:Nat→Shared→Prop}(hn:n≠0)(h:∀ i d,i<n→Q i { s with drawn:=d }):wpAny (model prog w) A (choose src n) Q E s:=by
 intro Γ p hΓ
 unfold choose
 rw[Sem.wp_choose]
 exact⟨hn,h _ _ (Nat.mod_lt _ (Nat.pos_of_ne_zero hn))⟩
theorem Ad0(n:Nat)(l:List α){s:Shared}{Q:List α→Shared→Prop}(hl:l.length=n)(h:∀ l' d,l'.Perm l→Q l' { s with drawn:=d }):wpAny (model prog w) A (drawOrder n l) Q E s:=by
 induction n generalizing l s Q with
 | zero=>
  rw[List.length_eq_zero_iff.mp hl] at h ⊢
  exact wpAny_pure (h [] s.drawn (.refl _))
 | succ n ih=>
  cases l with
  | nil=>cases hl
  | cons x l=>
   show wpAny _ _ (choose .order (x::l).length >>= _) _ _ _
   refine wpAny_bind (AfA (Nat.succ_ne_zero _) fun i d hi=>?_)
   rw[List.getElem?_eq_getElem hi]
   dsimp only
   exact wpAny_bind (ih _ (Af5 hi hl) fun l' d' hp=>wpAny_pure (h _ d' ((hp.cons _).trans (Acw hi))))
noncomputable def SIt(h:Heap)(I:Addr)(first:Value)(i n ep:Nat)(r:Addr):Prop:=
 h.get? I=some { cls:=.type "set_iterator",data:=.fields #[first,rawInt i,.ref r,rawInt n,rawInt ep] }
section
variable{prog:Program}{w:World}{A:Around}{E:Value→Shared→Prop}{s:Shared}{I r p:Addr}{es:Array (Int×Value)}{ep:Nat}{t:SetTable}{i:Nat}
theorem SIt.typeIs{first:Value}{n:Nat}(h:SIt s.heap I first i n ep r):s.TypeIs (.ref I) "set_iterator":=⟨_,h,rfl⟩
noncomputable def Ahd(I r:Addr)(i ep:Nat)(first:Value):Sem Fin:=do
 match first with
 | .int slot _=>
  match ← setNext r slot.toNat ((i:Int)).toNat ((ep:Int)).toNat with
  | some (x,next)=>
   setField (.ref I) 0 (rawInt next)
   setField (.ref I) 1 (rawInt ((i:Int)+1))
   ret x
  | none=>setField (.ref I) 2 .none;raiseNew (← newExc (.type "StopIteration") [])
 | _=>
  let some places ← seqItems? first | unsupported "internal:set_iterator"
  match places[((i:Int)).toNat]? with
  | some (.int place _)=>
   let x ← setNextDrawn r place.toNat ((ep:Int)).toNat
   setField (.ref I) 1 (rawInt ((i:Int)+1))
   ret x
  | some _=>unsupported "internal:set_iterator"
  | none=>setField (.ref I) 0 (rawInt 0);setField (.ref I) 2 .none;raiseNew (← newExc (.type "StopIteration") [])
theorem Ac6{first:Value}{Q:Option Value→Shared→Prop}(hit:SIt s.heap I first i es.size ep r)(hr:s.heap.get? r=some (AaP es ep t))(hf:t.fits es.size=true)
  (h:wpAny (model prog w) A.in1 (Ahd I r i ep first) (fun f s'=>∃ v,f=.done (.ret v)∧Q (some v) s') (fun e s'=>s'.TypeIs e "StopIteration"∧Q none s') s) :
  wpAny (model prog w) A (pyNext (.ref I)) Q E s:=by
 unfold pyNext
 refine wpAny_bind (wpAny_attempt (wpAny_callSpecial?_slot (name:=Str.ofString "__next__") hit.typeIs Abj
  (wpAny_call_entry Abj hit.typeIs AdL ?_ (Aem _))))
 refine wpAny_bind (wpAny_pure ?_)
 refine wpAny_bind (wpAny_fieldsOf hit rfl ?_)
 dsimp only
 refine wpAny_bind (wpAny_setEntries_of hr rfl hf ?_)
 have hne:((↑es.size:Int) != ↑es.size)=false:=by simp
 rw[hne]
 show wpAny _ _ (Ahd I r i ep first) _ _ _
 refine wpAny_mono h (fun f s' x=>?_) fun e s' x=>?_
 ·obtain⟨v,rfl,hq⟩:=x
  exact⟨v,rfl,wpAny_pure hq⟩
 ·refine wpAny_bind (wpAny_isInstance (T:="StopIteration") (b:=true) x.1 isSubtype_stop ?_)
  exact wpAny_pure x.2
theorem Ag4{Q:Option Value→Shared→Prop}{R:Fin→Shared→Prop}(hh:A.handled=none){first:Value}{n:Nat}(hit:SIt s.heap I first i n ep r)
  (hQ:∀ h',Heap.ExtBut I s.heap h'→Q none { s with heap:=h' }) :
  wpAny (model prog w) A (do setField (.ref I) 2 .none;raiseNew (← newExc (.type "StopIteration") []):Sem Fin) R (fun e s'=>s'.TypeIs e "StopIteration"∧Q none s') s:=by
 refine wpAny_bind (wpAny_setField hit rfl (by simp) ?_)
 refine wpAny_bind ?_
 refine wpAny_bind (wpAny_newObj_type ?_ (by size_fits))
 refine wpAny_bind (m:=firstArgMember _ _) (wpAny_of_eq (a:=Value.none) (by first | rfl | (simp only[firstArgMember];rfl)) ?_)
 refine wpAny_newObj_type ?_ (by size_fits)
 refine wpAny_bind (wpAny_handled ?_)
 rw[hh]
 refine wpAny_bind (wpAny_pure (wpAny_throw ?_))
 exact⟨⟨_,Heap.get?_push_size _ rfl,rfl⟩,hQ _ (((Heap.SameBut.update ..).extBut.push _).push _)⟩
theorem AfN{k k':Nat}{x:Value}{Q:Option Value→Shared→Prop}(hit:SIt s.heap I (rawInt k) i es.size ep r)(hr:s.heap.get? r=some (AaP es ep t))(hf:t.fits es.size=true)
  (hn:∀ (A:Around) (E:Value→Shared→Prop) (Q:Option (Value×Nat)→Shared→Prop),Q (some (x,k')) s→wpAny (model prog w) A (setNext r k i ep) Q E s)
  (hQ:∀ h',SIt h' I (rawInt k') (i+1) es.size ep r→Heap.SameBut I s.heap h'→Q (some x) { s with heap:=h' }):wpAny (model prog w) A (pyNext (.ref I)) Q E s:=by
 refine Ac6 hit hr hf ?_
 show wpAny _ _ (setNext r ((k:Int)).toNat ((i:Int)).toNat ((ep:Int)).toNat >>= _) _ _ _
 rw[Int.toNat_natCast,Int.toNat_natCast,Int.toNat_natCast]
 refine wpAny_bind (hn _ _ _ ?_)
 dsimp only
 refine wpAny_bind (wpAny_setField_rec hit (by simp) fun h₁ he₁ hs₁=>?_)
 refine wpAny_bind (wpAny_setField_rec he₁ (by simp) fun h₂ he₂ hs₂=>?_)
 refine wpAny_pure ⟨x,rfl,hQ h₂ ?_ (Heap.SameBut.trans hs₁ hs₂)⟩
 unfold SIt
 rw[he₂]
 simp
theorem AfO{k:Nat}{Q:Option Value→Shared→Prop}(hh:A.handled=none)(hit:SIt s.heap I (rawInt k) i es.size ep r)(hr:s.heap.get? r=some (AaP es ep t))(hf:t.fits es.size=true)
  (hn:∀ (A:Around) (E:Value→Shared→Prop) (Q:Option (Value×Nat)→Shared→Prop),Q none s→wpAny (model prog w) A (setNext r k i ep) Q E s)
  (hQ:∀ h',Heap.ExtBut I s.heap h'→Q none { s with heap:=h' }):wpAny (model prog w) A (pyNext (.ref I)) Q E s:=by
 refine Ac6 hit hr hf ?_
 show wpAny _ _ (setNext r ((k:Int)).toNat ((i:Int)).toNat ((ep:Int)).toNat >>= _) _ _ _
 rw[Int.toNat_natCast,Int.toNat_natCast,Int.toNat_natCast]
 refine wpAny_bind (hn _ _ _ ?_)
 exact Ag4 (A:=A.in1) hh hit hQ
theorem AhS{places:Array Value}{n j:Nat}{e:Int×Value}{Q:Option Value→Shared→Prop}(hit:SIt s.heap I (.ref p) i es.size ep r)(hr:s.heap.get? r=some (AaP es ep t))(hf:t.fits es.size=true)
  (hp:s.heap.get? p=some { cls:=.type "tuple",data:=.seq places n }) (hj:places[i]?=some (rawInt j)) (he:es[j]?=some e)
  (hQ:∀ h',SIt h' I (.ref p) (i+1) es.size ep r→Heap.SameBut I s.heap h'→Q (some e.2) { s with heap:=h' }):wpAny (model prog w) A (pyNext (.ref I)) Q E s:=by
 refine Ac6 hit hr hf ?_
 show wpAny _ _ (seqItems? (.ref p) >>= _) _ _ _
 refine wpAny_bind ?_
 unfold seqItems?
 refine wpAny_bind (wpAny_load hp ?_)
 refine wpAny_pure ?_
 dsimp only
 rw[Int.toNat_natCast,hj]
 show wpAny _ _ (setNextDrawn r ((j:Int)).toNat ((ep:Int)).toNat >>= _) _ _ _
 rw[Int.toNat_natCast,Int.toNat_natCast]
 refine wpAny_bind ?_
 unfold setNextDrawn
 refine wpAny_bind (wpAny_setState_of hr rfl hf ?_)
 dsimp only
 rw[if_neg (by simp),he]
 refine wpAny_pure ?_
 refine wpAny_bind (wpAny_setField_rec hit (by simp) fun h₂ he₂ hs₂=>?_)
 refine wpAny_pure ⟨e.2,rfl,hQ h₂ ?_ hs₂⟩
 unfold SIt
 rw[he₂]
 simp
theorem Aeu{places:Array Value}{n:Nat}{Q:Option Value→Shared→Prop}(hh:A.handled=none)(hit:SIt s.heap I (.ref p) i es.size ep r)(hr:s.heap.get? r=some (AaP es ep t))(hf:t.fits es.size=true)
  (hp:s.heap.get? p=some { cls:=.type "tuple",data:=.seq places n }) (hj:places[i]?=none)
  (hQ:∀ h',Heap.ExtBut I s.heap h'→Q none { s with heap:=h' }):wpAny (model prog w) A (pyNext (.ref I)) Q E s:=by
 refine Ac6 hit hr hf ?_
 show wpAny _ _ (seqItems? (.ref p) >>= _) _ _ _
 refine wpAny_bind ?_
 unfold seqItems?
 refine wpAny_bind (wpAny_load hp ?_)
 refine wpAny_pure ?_
 dsimp only
 rw[Int.toNat_natCast,hj]
 show wpAny _ _ (setField (.ref I) 0 (rawInt 0) >>= fun jj=>_) _ _ _
 refine wpAny_bind (wpAny_setField_rec hit (by simp) fun h₁ he₁ hs₁=>?_)
 refine Ag4 (s:={ s with heap:=h₁ }) (first:=rawInt 0) (n:=es.size) (i:=i) (r:=r) (ep:=ep) (A:=A.in1) hh (by unfold SIt;rw[he₁];simp) fun h' hx=>hQ h' fun b o hb e=>hx b o hb (hs₁.extBut b o hb e)
structure SetWalk(prog:Program)(w:World)(A:Around)(s:Shared)(r:Addr)(es:Array (Int×Value))(h':Heap)(I:Addr):Prop where
 keeps:∀ b o,s.heap.get? b=some o→h'.get? b=some o
 fresh:s.heap.get? I=none
 type:∃ o,h'.get? I=some o∧o.cls=.type "set_iterator"
 walks:∃ (fp:List Addr) (xs:List (Int×Value)) (St:Nat→Heap→Prop),(∀ b∈fp,b=r∨s.heap.get? b=none)∧xs.Perm es.toList∧Walks prog w A I fp [I] xs.length (fun i v=>∃ e,xs[i]?=some e∧v=e.2) St∧St 0 h'
theorem Abs{b:Bool}{Q:Bool→Shared→Prop}(hb:w.params.followText "set-order"=b)(h:Q b s):wpAny (model prog w) A setsByText Q E s:=by
 unfold setsByText
 subst hb
 exact wpAny_bind (wpAny_askSetting (wpAny_pure h))
theorem Acp:Slot "set_iterator" "__iter__" "set_iterator.__iter__":=
 .of (owner:="set_iterator") (n:="__iter__") (by rw[typeLookup_type,builtinLookup_eq_fast];kernel_rfl) (by decide +kernel) (by decide +kernel) (by decide +kernel)
  (by first | exact .inl (by decide +kernel) | exact .inr (by decide +kernel)) (by rw[isSubtype_type];kernel_rfl)
theorem AdM:entryFor table "set_iterator.__iter__"=some Builtin.«dict_keyiterator.__iter__»:=
 entryFor_alias (id':="dict_keyiterator.__iter__") (by kernel_rfl) rfl (by decide +kernel) (by kernel_rfl)
theorem Aen(a:Value):argsOk "set_iterator.__iter__" ⟨[a],[]⟩:=by unfold argsOk;kernel_rfl
theorem setit_self{first:Value}{n:Nat}{Q:Value→Shared→Prop}(hit:SIt s.heap I first i n ep r)(h:Q (.ref I) s):wpAny (model prog w) A (pyIter (.ref I)) Q E s:=by
 refine wpAny_pyIter_slot hit.typeIs Acp (wpAny_call_entry Acp hit.typeIs AdM ?_ (Aen _))
 show wpAny _ _ (ret (.ref I)) _ _ s
 exact wpAny_pure ⟨_,rfl,"set_iterator",_,hit.typeIs,Abj.lookup,h⟩
theorem Adx{k:Nat}{Q:Option (Value×Nat)→Shared→Prop}(hf:t.fits es.size=true)(hw:w.params.followText "set-order"=true)(h2:s.heap.get? r=some (AaP es ep t))
  (q:Q (((pickOrder (w.params.setOrder r ep) es)[i]?).map fun e=>(e.2,k)) s):wpAny (model prog w) A (setNext r k i ep) Q E s:=by
 unfold setNext
 refine wpAny_bind (wpAny_setState_of h2 rfl hf ?_)
 dsimp only
 refine wpAny_bind (Abs hw ?_)
 rw[if_pos rfl,if_neg (by simp)]
 refine wpAny_bind ?_
 unfold setWalk
 refine wpAny_bind (wpAny_setState_of h2 rfl hf ?_)
 dsimp only
 refine wpAny_bind (Abs hw ?_)
 rw[if_pos rfl]
 exact wpAny_bind (wpAny_askSetting (wpAny_pure (wpAny_pure q)))
theorem AhE(hh:A.handled=none)(hf:t.fits es.size=true)(hw:w.params.followText "set-order"=true)(hrI:r≠I):
  Walks prog w A I [I,r] [I] (pickOrder (w.params.setOrder r ep) es).toList.length (fun i v=>∃ e,(pickOrder (w.params.setOrder r ep) es).toList[i]?=some e∧v=e.2) (fun i h=>∃ k:Nat,SIt h I (rawInt k) i es.size ep r∧h.get? r=some (AaP es ep t)) where
 sub:=fun b hb=>by simp at hb;simp[hb]
 frame:=by rintro _ _ _ ⟨k,h1,h2⟩ hk;exact⟨k,hk I (by simp) _ h1,hk r (by simp) _ h2⟩
 item:=fun i s Q E hi ⟨k,h1,h2⟩ hQ=>by
  have hx:(pickOrder (w.params.setOrder r ep) es).toList[i]?=some (pickOrder (w.params.setOrder r ep) es).toList[i]:=List.getElem?_eq_getElem hi
  generalize (pickOrder (w.params.setOrder r ep) es).toList[i]=e at hx
  refine AfN (k':=k) (x:=e.2) h1 h2 hf (fun A' E' Q' q=>?_) fun h' st hs=>hQ e.2 h' s.toks ⟨e,hx,rfl⟩ ⟨k,st,(hs.2 r hrI).trans h2⟩ fun b o hb eo=>hs.extBut b o (fun z=>hb (by simp[z])) eo
  refine Adx hf hw h2 ?_
  rw[Array.getElem?_toList] at hx
  rw[hx]
  exact q
 done:=fun s Q E ⟨k,h1,h2⟩ hQ=>by
  have hx:(pickOrder (w.params.setOrder r ep) es)[(pickOrder (w.params.setOrder r ep) es).toList.length]?=none:=by simp
  refine AfO hh h1 h2 hf (fun A' E' Q' q=>?_) fun h' hs=>hQ h' s.toks fun b o hb eo=>hs b o (fun z=>hb (by simp[z])) eo
  refine Adx hf hw h2 ?_
  rw[hx]
  exact q
 self:=by rintro i s Q E ⟨k,h1,h2⟩ hQ;exact setit_self h1 hQ
theorem Agq{ord:List Nat}(hh:A.handled=none)(hf:t.fits es.size=true)(ho:ord.Perm (List.range es.size))(hrI:r≠I)(hpI:p≠I):
  Walks prog w A I [I,r,p] [I] (ord.map fun j=>es.getD j default).length (fun i v=>∃ e,(ord.map fun j=>es.getD j default)[i]?=some e∧v=e.2)
   (fun i h=>SIt h I (.ref p) i es.size ep r∧h.get? r=some (AaP es ep t)∧∃ n,h.get? p=some { cls:=.type "tuple",data:=.seq ((ord.map fun (i:Nat)=>rawInt i)).toArray n }) where
 sub:=fun b hb=>by simp at hb;simp[hb]
 frame:=by rintro _ _ _ ⟨h1,h2,n,h3⟩ hk;exact⟨hk I (by simp) _ h1,hk r (by simp) _ h2,n,hk p (by simp) _ h3⟩
 item:=fun i s Q E hi ⟨h1,h2,n,h3⟩ hQ=>by
  have hi':i<ord.length:=by simpa using hi
  have hj:ord[i]<es.size:=List.mem_range.mp (ho.mem_iff.mp (List.getElem_mem hi'))
  refine AhS (j:=ord[i]) (e:=es[ord[i]]) h1 h2 hf h3 (by simp[hi']) (by simp[hj]) fun h' st hs=>?_
  exact hQ _ h' s.toks ⟨es[ord[i]],by simp[hi',hj],rfl⟩ ⟨st,(hs.2 r hrI).trans h2,n,(hs.2 p hpI).trans h3⟩ fun b o hb eo=>hs.extBut b o (fun z=>hb (by simp[z])) eo
 done:=fun s Q E ⟨h1,h2,n,h3⟩ hQ=>by
  exact Aeu hh h1 h2 hf h3 (by simp) fun h' hs=>hQ h' s.toks fun b o hb eo=>hs b o (fun z=>hb (by simp[z])) eo
 self:=by rintro i s Q E ⟨h1,_⟩ hQ;exact setit_self h1 hQ
theorem Ad6{k:Nat}{Q:Option (Value×Nat)→Shared→Prop}(hf:t.fits es.size=true)(hw:w.params.followText "set-order"=false)(hl:t.led=true)(h1:¬ es.size > 1)(h2:s.heap.get? r=some (AaP es ep t))
  (q:Q (match es[SetTable.below t.place k]?,t.place[SetTable.below t.place k]? with | some (_,x),some j=>some (x,j+1) | _,_=>none) s):wpAny (model prog w) A (setNext r k i ep) Q E s:=by
 unfold setNext
 refine wpAny_bind (wpAny_setState_of h2 rfl hf ?_)
 dsimp only
 refine wpAny_bind (Abs hw ?_)
 rw[if_neg Bool.false_ne_true]
 show wpAny _ _ (if(!t.plain&&decide (es.size > 1))=true then _ else _) _ _ _
 rw[if_neg (by simp[h1])]
 refine wpAny_bind ?_
 show wpAny _ _ (if(!t.led&&!es.isEmpty)=true then _ else _) _ _ _
 rw[if_neg (by simp[hl])]
 exact wpAny_pure (wpAny_pure q)
theorem below0{xs:Array Nat}:SetTable.below xs 0=0:=by
 have go:∀ f hi,SetTable.below.go xs 0 f 0 hi=0:=by
  intro f
  induction f with
  | zero=>exact fun jj=>rfl
  | succ f ih=>
   intro hi
   have e:SetTable.below.go xs 0 (f+1) 0 hi=if 0<hi then(if xs.getD ((0+hi) / 2) 0<0 then SetTable.below.go xs 0 f ((0+hi) / 2+1) hi else SetTable.below.go xs 0 f 0 ((0+hi) / 2)) else 0:=by kernel_rfl
   rw[e]
   by_cases q:0<hi
   ·rw[if_pos q]
    exact(if_neg (Nat.not_lt_zero _)).trans (ih _)
   ·exact if_neg q
 exact go _ _
theorem below1{j:Nat}:SetTable.below #[j] (j+1)=1:=by
 have e:SetTable.below #[j] (j+1)=if j<j+1 then 1 else 0:=by kernel_rfl
 rw[e,if_pos (Nat.lt_succ_self j)]
theorem Aig(hh:A.handled=none)(hf:t.fits es.size=true)(hw:w.params.followText "set-order"=false)(hl:t.led=true)(h1:¬ es.size > 1)(hrI:r≠I):
  Walks prog w A I [I,r] [I] es.toList.length (fun i v=>∃ e,es.toList[i]?=some e∧v=e.2) (fun i h=>∃ k:Nat,SIt h I (rawInt k) i es.size ep r∧h.get? r=some (AaP es ep t)∧(i=0→k=0)∧(i=1→∃ j,t.place=#[j]∧k=j+1)) where
 sub:=fun b hb=>by simp at hb;simp[hb]
 frame:=by rintro _ _ _ ⟨k,h1,h2,h3⟩ hk;exact⟨k,hk I (by simp) _ h1,hk r (by simp) _ h2,h3⟩
 item:=fun i s Q E hi ⟨k,g1,g2,g3,g4⟩ hQ=>by
  have hs1:es.size=1∧i=0:=by simp at hi;lia
  obtain⟨hs1,rfl⟩:=hs1
  obtain rfl:=g3 rfl
  have hps:t.place.size=1:=by simp only[SetTable.fits,Bool.and_eq_true,beq_iff_eq] at hf;lia
  obtain⟨j,hj⟩:∃ j,t.place=#[j]:=Array.size_eq_one_iff.mp hps
  obtain⟨e,he⟩:∃ e,es=#[e]:=Array.size_eq_one_iff.mp hs1
  refine AfN (k':=j+1) (x:=e.2) g1 g2 hf (fun A' E' Q' q=>?_) fun h' st hs=>hQ e.2 h' s.toks ⟨e,by simp[he],rfl⟩ ⟨j+1,st,(hs.2 r hrI).trans g2,fun z=>by lia,fun jj=>⟨j,hj,rfl⟩⟩ fun b o hb eo=>hs.extBut b o (fun z=>hb (by simp[z])) eo
  refine Ad6 hf hw hl h1 g2 ?_
  rw[below0,he,hj]
  exact q
 done:=fun s Q E ⟨k,g1,g2,g3,g4⟩ hQ=>by
  refine AfO hh g1 g2 hf (fun A' E' Q' q=>?_) fun h' hs=>hQ h' s.toks fun b o hb eo=>hs b o (fun z=>hb (by simp[z])) eo
  refine Ad6 hf hw hl h1 g2 ?_
  by_cases hz:es.size=0
  ·have he:es=#[]:=Array.size_eq_zero_iff.mp hz
   rw[he]
   simpa using q
  ·have hs1:es.size=1:=by lia
   obtain⟨j,hj,rfl⟩:=g4 (by simp[hs1])
   rw[hj,below1,show es[1]?=none by simp[hs1]]
   exact q
 self:=by rintro i s Q E ⟨k,g1,_⟩ hQ;exact setit_self g1 hQ
end
end
end Pq
namespace Pq
section
variable{prog:Program}{w:World}{A:Around}{E:Value→Shared→Prop}{s:Shared}{r:Addr}{es:Array (Int×Value)}{ep:Nat}{t:SetTable}
theorem AhN{Q:Value→Shared→Prop}(hh:A.handled=none)(hr:s.heap.get? r=some (AaP es ep t))(hf:t.fits es.size=true)(hl:t.led=!w.params.followText "set-order")(hpl:1<es.size→t.plain=false)
  (hsz:es.size≤1000)
  (hQ:∀ h' dr I,SetWalk prog w A s r es h' I→Q (.ref I) { s with heap:=h',drawn:=dr }):wpAny (model prog w) A (pyIter (.ref r)) Q E s:=by
 have hT:s.TypeIs (.ref r) "set":=⟨_,hr,rfl⟩
 have hrl:r<s.heap.objs.size:=Heap.lt_size hr
 refine wpAny_pyIter_slot hT PySem.F.slot_set_iter (wpAny_call_entry PySem.F.slot_set_iter hT Aey ?_ (PySem.F.args_set_iter_1 _))
 unfold Builtin.«frozenset.__iter__»
 refine wpAny_bind (wpAny_pure ?_)
 refine wpAny_bind (wpAny_bind (wpAny_setEntries_of hr rfl hf (wpAny_pure ?_)))
 have fin:∀ (s₁:Shared) (first:Value),s₁.heap.get? r=some (AaP es ep t)→Q (.ref s₁.heap.objs.size) { s₁ with heap:=s₁.heap.push { cls:=.type "set_iterator",data:=.fields #[first,rawInt 0,.ref r,rawInt es.size,rawInt ep] } } →
   wpAny (model prog w) A.in1 (do ret (← newFields "set_iterator" [first,rawInt 0,.ref r,rawInt es.size,rawInt (← setEpoch r)]))
    (fun fin s'=>∃ v,fin=PySem.Fin.done (.ret v)∧∃ T' r,s'.TypeIs v T'∧typeLookup (.type T') (Str.ofString "__next__")=pure (some r)∧Q v s') E s₁:=by
  intro s₁ first hr₁ hq
  refine wpAny_bind (wpAny_setEpoch_of hr₁ rfl hf ?_)
  exact wpAny_bind (wpAny_newObj_type (wpAny_pure ⟨_,rfl,"set_iterator",_,⟨_,Heap.get?_push_size _ rfl,rfl⟩,Abj.lookup,hq⟩))
 refine wpAny_bind ?_
 unfold setDrawn
 refine wpAny_bind (wpAny_setState_of hr rfl hf ?_)
 dsimp only
 have hn:=Aan s.heap
 have push1:∀ (o:Obj) b ob,s.heap.get? b=some ob→(s.heap.push o).get? b=some ob:=fun o b ob e=>Heap.get?_push_of_some _ e
 cases hw:w.params.followText "set-order" with
 | true=>
  refine wpAny_bind (Abs hw ?_)
  refine wpAny_pure ?_
  refine wpAny_bind (wpAny_pure ?_)
  refine fin s (rawInt 0) hr (hQ _ s.drawn _ ⟨push1 _,hn,⟨_,Heap.get?_push_size _ rfl,rfl⟩,[s.heap.objs.size,r],_,_,fun b hb=>?_,Aet (w.params.setOrder r ep) es,AhE hh hf hw (Nat.ne_of_lt hrl),0,Heap.get?_push_size _ rfl,push1 _ _ _ hr⟩)
  rcases List.mem_cons.mp hb with rfl | hb
  ·exact .inr hn
  ·exact .inl (by simpa using hb)
 | false=>
  refine wpAny_bind (Abs hw ?_)
  refine wpAny_pure ?_
  have hled:t.led=true:=by rw[hl,hw];rfl
  by_cases h1:es.size > 1
  ·show wpAny _ _ (if(!false&&(!t.plain&&decide (es.size > 1)))=true then _ else _) _ _ _
   rw[if_pos (by simp[hpl h1,h1])]
   refine wpAny_bind (Ad0 _ _ (by simp) fun ord d hp=>?_)
   have hol:ord.length=es.size:=by rw[hp.length_eq];simp
   refine wpAny_bind (wpAny_newTuple ?_ (by rw[List.length_map,hol,sizeLine_eq];exact ln1 (.c 1 (.v 0) (.n 1000) (.g 0 (.v 0) (.n 16777216))) rfl hsz))
   have e1:∀ b ob,s.heap.get? b=some ob→(s.heap.push { cls:=.type "tuple",data:=.seq (ord.map fun (i:Nat)=>rawInt i).toArray }).get? b=some ob:=push1 _
   have z1:(s.heap.push { cls:=.type "tuple",data:=.seq (ord.map fun (i:Nat)=>rawInt i).toArray }).objs.size=s.heap.objs.size+1:=Heap.size_push ..
   refine fin { s with heap:=s.heap.push { cls:=.type "tuple",data:=.seq (ord.map fun (i:Nat)=>rawInt i).toArray },drawn:=d } (.ref s.heap.objs.size) (e1 _ _ hr) ?_
   dsimp only
   refine hQ _ d _ ⟨fun b ob e=>Heap.get?_push_of_some _ (e1 b ob e),?_,⟨_,Heap.get?_push_size _ rfl,rfl⟩,[(s.heap.push { cls:=.type "tuple",data:=.seq (ord.map fun (i:Nat)=>rawInt i).toArray }).objs.size,r,s.heap.objs.size],ord.map fun j=>es.getD j default,_,fun b hb=>?_,?_,
    Agq hh hf hp (by rw[z1];exact Nat.ne_of_lt (Nat.lt_succ_of_lt hrl)) (by rw[z1];exact Nat.ne_of_lt (Nat.lt_succ_self _)),Heap.get?_push_size _ rfl,Heap.get?_push_of_some _ (e1 _ _ hr),0,Heap.get?_push_of_some _ (Heap.get?_push_size _ rfl)⟩
   ·exact Heap.get?_none_of_le (by rw[z1];exact Nat.le_succ _)
   ·rcases List.mem_cons.mp hb with rfl | hb
    ·exact .inr (Heap.get?_none_of_le (by rw[z1];exact Nat.le_succ _))
    ·rcases List.mem_cons.mp hb with rfl | hb
     ·exact .inl rfl
     ·rw[List.mem_singleton.mp hb];exact .inr hn
   ·have:=hp.map (fun j=>es.getD j default)
    have e2:(List.range es.size).map (fun j=>es.getD j default)=es.toList:=by
     apply List.ext_getElem (by simp)
     intro i h1 h2
     simp at h1
     simp[h1]
    rwa [e2] at this
  ·show wpAny _ _ (if(!false&&(!t.plain&&decide (es.size > 1)))=true then _ else _) _ _ _
   rw[if_neg (by simp[h1])]
   refine wpAny_bind (wpAny_pure ?_)
   refine fin s (rawInt 0) hr (hQ _ s.drawn _ ⟨push1 _,hn,⟨_,Heap.get?_push_size _ rfl,rfl⟩,[s.heap.objs.size,r],_,_,fun b hb=>?_,.refl _,Aig hh hf hw hled h1 (Nat.ne_of_lt hrl),0,Heap.get?_push_size _ rfl,push1 _ _ _ hr,fun jj=>rfl,fun z=>by lia⟩)
   rcases List.mem_cons.mp hb with rfl | hb
   ·exact .inr hn
   ·exact .inl (by simpa using hb)
theorem hint_set{Q:Bool→Shared→Prop}(hT:s.TypeIs (.ref r) "set")(h:Q false s):wpAny (model prog w) A (Builtin.List.listLengthHint (.ref r)) Q E s:=by
 unfold Builtin.List.listLengthHint
 refine wpAny_bind (wpAny_specialOf hT PySem.F.slot_set_len.lookup ?_)
 generalize hid:("set.__len__":String)=id0
 wp_delta
 rw[show splitId id0=some ("set","__len__") from by subst hid;decide +kernel]
 subst hid
 refine wpAny_bind (wpAny_isInstance (T:="set") (b:=true) hT (by rw[isSubtype_type];kernel_rfl) ?_)
 refine wpAny_ite_split (fun hab=>absurd hab (by decide)) (fun jj=>?_)
 refine wpAny_ite_split (fun jj=>?_) (fun hab=>absurd (by decide +kernel) hab)
 refine wpAny_bind (wpAny_typeOf hT ?_)
 exact wpAny_pure h
end
end Pq
namespace Pq
section
variable{prog:Program}{w:World}{A:Around}{E:Value→Shared→Prop}{s:Shared}{r:Addr}{es:Array (Int×Value)}{ep:Nat}{t:SetTable}
theorem AhK{R:Result→Shared→Prop}(hh:A.handled=none)(hr:s.heap.get? r=some (AaP es ep t))(hf:t.fits es.size=true)(hl:t.led=!w.params.followText "set-order")(hpl:1<es.size→t.plain=false)
  (hsz:es.size≤1000) (S:Addr) (hSr:S≠r) (res:Value) (c₀:Nat) (hS:s.heap.get? S=some { cls:=.type "list",data:=.seq #[] c₀ })
  (hR:∀ h' tk dr acc' c' (xs:List (Int×Value)),(∀ b o,b≠S→s.heap.get? b=some o→h'.get? b=some o)→h'.get? S=some { cls:=.type "list",dict:=none,data:=.seq acc' c',slots:=#[] }→xs.Perm es.toList→acc'.toList=xs.map (·.2) →
   R (.ok (.ret res)) { s with heap:=h',toks:=tk,drawn:=dr }) :
  wpAny (model prog w) A.in1 (Builtin.List.listExtendWith (.ref S) (.ref r) res)
   (fun fin s'=>match fin with | .done f=>R (.ok f) s' | .again c'=>c'.quiet=true∧codeAny (model prog w) A c' R s') (fun e s'=>R (.error e) s') s:=by
 unfold Builtin.List.listExtendWith
 refine wpAny_bind (wpAny_typeOf (T:="set") ⟨_,hr,rfl⟩ ?_)
 have h1:Builtin.List.listSameRef (.ref S) (.ref r)=false:=by simp[Builtin.List.listSameRef,hSr]
 rw[h1,show(Value.type "set"==Value.type "list")=false by decide,show(Value.type "set"==Value.type "tuple")=false by decide,if_neg (show ¬ (false||false||false)=true from Bool.false_ne_true)]
 refine wpAny_bind (AhN (A:=A.in1) hh hr hf hl hpl hsz fun h₁ dr I W=>?_)
 obtain⟨kp,hI,_,fp,xs,St,hfp,hperm,W,st⟩:=W
 have hSI:S≠I:=fun z=>by rw[z,hI] at hS;exact nos hS
 have hSf:S∉fp:=fun hm=>by
  rcases hfp S hm with e | e
  ·exact hSr e
  ·exact nosn hS e
 have hxl:xs.length≤sizeLine:=by rw[hperm.length_eq,Array.length_toList,sizeLine_eq];exact ln1 (.c 1 (.v 0) (.n 1000) (.g 0 (.v 0) (.n 16777216))) rfl hsz
 have key:∀ (h:Heap) (c₁ tk:Nat),St 0 h→(∀ b o,b≠S→h₁.get? b=some o→h.get? b=some o) →
   h.get? S=some { cls:=.type "list",data:=.seq #[] c₁ }→codeAny (model prog w) A (.builtin "list.extend.loop" ⟨[.ref S,.ref I,res],[]⟩) R { s with heap:=h,toks:=tk,drawn:=dr }:=by
  intro h c₁ tk hst hk hS₁
  refine codeAny_extend_loopS W.toS hxl S hSf res xs.length 0 _ #[] c₁ rfl (Nat.zero_le _) hst hS₁ (ItemsOf.nil _) fun s' acc' c' hm hS' hacc=>?_
  rw[Moved.eq_with hm]
  refine hR s'.heap s'.toks dr acc' c' xs (fun b o hb e=>hm.heap b o (fun hmem=>?_) (hk b o hb (kp b o e))) hS' hperm ?_
  ·rcases List.mem_cons.mp hmem with e' | hmem
   ·exact hb e'
   ·rw[List.mem_singleton.mp hmem,hI] at e;exact nos e
  ·apply List.ext_getElem?
   intro j
   by_cases hj:j<xs.length
   ·have hj':j<acc'.size:=by rw[hacc.1];exact hj
    obtain⟨e,h1,h2⟩:=hacc.2 j acc'[j] (by simp[hj'])
    rw[Array.getElem?_toList,List.getElem?_map,h1,Array.getElem?_eq_getElem hj',h2];rfl
   ·rw[List.getElem?_eq_none (by rw[Array.length_toList,hacc.1];exact ln2 (.c 1 (.v 1) (.v 0) (.g 0 (.v 1) (.v 0))) rfl (Nat.le_of_not_lt hj)),List.getElem?_eq_none (by rw[List.length_map];exact ln2 (.c 1 (.v 1) (.v 0) (.g 0 (.v 1) (.v 0))) rfl (Nat.le_of_not_lt hj))]
 have hS₁:=kp _ _ hS
 refine wpAny_bind (wpAny_holding (hint_set ⟨_,kp _ _ hr,rfl⟩ ?_))
 refine wpAny_ite_split (fun jj=>?_) (fun jj=>wpAny_pure ⟨plainId_quiet PySem.F.plain_extend_loop _,key _ c₀ _ st (fun b o jj e=>e) hS₁⟩)
 refine wpAny_bind (wpAny_rule ?_)
 refine wpAny_bind ?_
 refine wpAny_bind (wpAny_updateSeq hS₁ rfl ?_)
 have hS₂:=Heap.get?_update_self (Obj.mapSeq (·.push Value.none)) hS₁ rfl
 refine wpAny_updateSeq (hz:=by seq_fits) hS₂ rfl ?_
 have hS₃:=Heap.get?_update_self (Obj.mapSeq (·.pop)) hS₂ rfl
 refine wpAny_pure ⟨plainId_quiet PySem.F.plain_extend_loop _,key _ _ _ ?_ (fun b o hb e=>?_) hS₃⟩
 ·refine W.frame 0 _ _ st fun b hb o e=>?_
  have hbS:b≠S:=fun h=>hSf (h▸hb)
  exact(Heap.get?_update_other _ _ (Ne.symm hbS)).trans ((Heap.get?_update_other _ _ (Ne.symm hbS)).trans e)
 ·exact(Heap.get?_update_other _ _ (Ne.symm hb)).trans ((Heap.get?_update_other _ _ (Ne.symm hb)).trans e)
theorem AeA{R:List Value→Shared→Prop}(hh:A.handled=none)(hr:s.heap.get? r=some (AaP es ep t))(hf:t.fits es.size=true)(hl:t.led=!w.params.followText "set-order")(hpl:1<es.size→t.plain=false)
  (hsz:es.size≤1000)
  (h:∀ (h':Heap) (tk:Nat) dr (xs:List (Int×Value)),(∀ b o,s.heap.get? b=some o→h'.get? b=some o)→xs.Perm es.toList→R (xs.map (·.2)) { s with heap:=h',toks:=tk,drawn:=dr }) :
  wpAny (model prog w) A (collect (.ref r)) R E s:=by
 have hrl:r<s.heap.objs.size:=Heap.lt_size hr
 unfold collect
 refine wpAny_bind (wpAny_runValue (codeAny_builtin entry_proto_collect' ?_))
 rw[Around.under_plainId PySem.F.plain_proto_collect _]
 refine wpAny_bind (wpAny_newObj_type ?_)
 refine wpAny_pure ⟨plainId_quiet PySem.F.plain_list_iadd _,codeAny_builtin entry_list_iadd' ?_⟩
 rw[Around.under_plainId PySem.F.plain_list_iadd _]
 have hS₁:(s.heap.push { cls:=.type "list",data:=.seq ([]:List Value).toArray }).get? s.heap.objs.size=some { cls:=.type "list",data:=.seq #[] }:=Heap.get?_push_size _ rfl
 have key:=AhK (prog:=prog) (w:=w) (A:=A) (s:={ s with heap:=s.heap.push { cls:=.type "list",data:=.seq ([]:List Value).toArray } })
  (R:=fun (q:Result) (s':Shared)=>∃ (h':Heap) (tk:Nat) (dr:_) (acc':Array Value) (c':Nat) (xs:List (Int×Value)),q=.ok (.ret (.ref s.heap.objs.size))∧s'={ s with heap:=h',toks:=tk,drawn:=dr } ∧
   (∀ b o,s.heap.get? b=some o→h'.get? b=some o)∧h'.get? s.heap.objs.size=some { cls:=.type "list",dict:=none,data:=.seq acc' c',slots:=#[] }∧xs.Perm es.toList∧acc'.toList=xs.map (·.2))
  hh (Heap.get?_push_of_some _ hr) hf hl hpl hsz s.heap.objs.size (Nat.ne_of_gt hrl) (.ref s.heap.objs.size) 0 hS₁
  (fun h' tk dr acc' c' xs hk hS' hp hacc=>⟨h',tk,dr,acc',c',xs,rfl,rfl,fun b o e=>hk b o (Nat.ne_of_lt (Heap.lt_size e)) (Heap.get?_push_of_some _ e),hS',hp,hacc⟩)
 refine wpAny_mono key (fun fin s' x=>?_) fun e s' x=>?_
 ·cases fin with
  | done f=>
   obtain⟨h',tk,dr,acc',c',xs,e,rfl,hk,hS',hp,hacc⟩:=x
   cases e
   refine wpAny_bind (wpAny_load hS' (wpAny_pure ?_))
   rw[hacc]
   exact h h' tk dr xs hk hp
  | again c₁=>
   refine⟨x.1,codeAny_mono x.2 fun q s₂ y=>?_⟩
   obtain⟨h',tk,dr,acc',c',xs,rfl,rfl,hk,hS',hp,hacc⟩:=y
   refine wpAny_bind (wpAny_load hS' (wpAny_pure ?_))
   rw[hacc]
   exact h h' tk dr xs hk hp
 ·obtain⟨_,_,_,_,_,_,e',_⟩:=x
  cases e'
end
end Pq
namespace Pq
variable[Own]
section
variable{B:Aaj}{d:Nat}{env:Env}{vars:Vars}{σ σ':AH}{pos:Pos}{A:Around}{s s':Shared}
theorem St.drawn(S:St B σ s)(dr:_):St B σ { s with drawn:=dr }:=⟨S.base,S.apart,S.objs,S.gens,S.os,S.lo,S.bad⟩
theorem Ext.drawn{X:Addr→Prop}(x:Ext B X σ s σ' s')(dr:_):Ext B X σ s σ' { s' with drawn:=dr }:=⟨x.st.drawn dr,x.tup,x.keep,x.fresh,x.live⟩
inductive SsQ(Q:AV→AH→Prop)(v:AV)(σ₃:AH):Prop
 | mk (b:Addr) (ks:List Str) (e:v=.obj b) (hb:σ₃ b=some (.list (ks.map .str))) (hz:ks.length≤50) (out:List Str) (ho:∀ ks',ks'.Perm (Aby ks)→Aa2 ks'=out) (q:∀ c,σ₃ c=none→Q (.obj c) (upd σ₃ c (.list (out.map .str))))
inductive SiQ(Q:AV→AH→Prop)(v:AV)(σ₂:AH):Prop
 | mk (b:Addr) (kts:List (Str×AV)) (e:v=.obj b) (hb:σ₂ b=some (.dict (kts.map fun kt=>(.str kt.1,kt.2)))) (hz:kts.length≤50) (ht:∀ kt∈kts,Abx 8 kt.2=true) (q:∀ c,σ₂ c=none→Q (.obj c) (upd σ₂ c (.list (AbF (kts.map (·.1)) (kts.map AbT)))))
inductive SrtR(P:AH→Prop)(fv:AV)(σ₁:AH):Prop
 | mk (e:fv=.raw (.builtin "sorted")) (h:P σ₁)
theorem AdA(O:BOk B){f sf:Str}{p1 p2:Pos}{e:Expr}{spos:Pos}{Q:AV→AH→Prop}(hk1:isG env f=true)(hg1:Abi B.K f=some (.builtin "sorted"))(he:AdW e=true)(hk:gOk env sf [e]=true)(hg:Abi B.K sf=some (.type "set"))
  (h:AE B d env vars (eval e env) σ (SsQ Q)) :
  AE B d env vars (eval (.Call (.Name f p1) [.Call (.Name sf p2) [e] [] spos] [] pos) env) σ Q:=by
 intro A s r S R
 refine Call_ ((AbG (pos:=p1) (Q:=SrtR fun σ₁=>AE B d env vars (eval e env) σ₁ (SsQ Q)) O hk1 hg1 ⟨rfl,h⟩ A s r S R).wp fun fv s₁ fa σ₁ q rv x=>?_) rfl
 obtain⟨rfl,q⟩:=q
 obtain rfl:fv=.builtin "sorted":=rv
 refine callWith_builtin rfl (evalArgs_plain (spliced_cons ?_))
 refine Acd O r x.st (R.go x) hk hg rfl (Aab he (AE.mono (t:=eval e env) q fun v σ₃ q₃=>Aaf ?_))
 intro s₂ vs S₂ rv y
 obtain⟨b,ks,rfl,hb,hz,out,hout,q₃⟩:=q₃
 obtain⟨_,_,rfl,rfl,rfl⟩:=rv
 obtain⟨items,n,hL,rt⟩:=(S₂.objs b _ hb).listL
 have hkl:ks.length=items.size:=by have:=VRs.size rt;simpa using this
 refine Afp (ks:=ks) r.handled hL.isList (fun i v hi=>?_) hkl (by unfold scanBound;exact Nat.le_trans (Nat.add_le_add_right (Nat.le_trans (Nat.le_of_eq hkl.symm) hz) 2) (lnk rfl)) fun h' tk hk hS=>?_
 ·rw[← Array.getElem?_toList] at hi
  obtain⟨a,ha,ra⟩:=Adu (Aao.mp rt) hi
  rw[List.getElem?_map] at ha
  obtain⟨k,hk,rfl⟩:=Option.map_eq_some_iff.mp ha
  obtain⟨t,rfl⟩:=ra
  exact⟨k,t,hk,rfl⟩
 have g:Ext B noX σ₃ s₂ σ₃ { s₂ with heap:=h',toks:=tk }:=Ext.grow S₂ hk
 refine spliced_nil ?_
 obtain⟨es,ep,t,ho,⟨ks',hp,hks⟩,hf',hl,hpl⟩:=hS
 have hlen:es.size≤50:=by
  have h1:ks'.length=es.size:=by rw[hks.length,Array.length_toList]
  have h2:=hp.length_eq
  have h3:=Adp ks
  exact Nat.le_trans (Nat.le_trans (Nat.le_trans (Nat.le_of_eq h1.symm) (Nat.le_of_eq h2)) h3) hz
 refine wpAny_mono (AcG (A:=A) (L:=fun l=>∃ k2:List Str,k2.Perm (Aby ks)∧l=k2.map .str) (P:=fun jj l'=>l'=out.map .str) g.st (fun R k=>AeA (A:=A.in1) r.handled ho hf' hl (fun z=>hpl fun e=>?_) (by exact Nat.le_trans hlen (lnk rfl)) fun h'' tk' dr xs kp hxs=>?_)
  (fun l e=>?_) fun l e s' vs jj rv=>?_) ?_ fun jj jj e=>e
 ·have h1:ks'.length=es.size:=by rw[hks.length,Array.length_toList]
  have h2:=hp.length_eq
  rw[e,List.length_nil] at h2
  lia
 ·obtain⟨k2,hk2,h2⟩:=Adh hxs hks
  have g2:Ext B noX σ₃ { s₂ with heap:=h',toks:=tk } σ₃ { s₂ with heap:=h'',toks:=tk' }:=Ext.grow (s:={ s₂ with heap:=h',toks:=tk }) g.st kp
  refine k (k2.map .str) (xs.map (·.2)) { s₂ with heap:=h'',toks:=tk',drawn:=dr } ⟨k2,hk2.trans hp,rfl⟩ (Aao.mpr ?_) (g2.drawn dr)
  have:∀ (l:List Str) (m:List (Int×Value)),All2 (SEnt B.w) l m→All2 (VR h'') (l.map .str) (m.map (·.2)):=by
   intro l
   induction l with
   | nil=>intro m hm;rw[show m=[] from hm];rfl
   | cons k l ih=>
    rintro _ ⟨e,m,rfl,⟨tk,rfl⟩,ht⟩
    exact .cons ⟨tk,rfl⟩ (ih m ht)
  exact this k2 xs h2
 ·obtain⟨k2,hk2,rfl⟩:=e
  have h3:=Adp ks
  have:=hk2.length_eq
  simp only[List.length_map]
  exact Nat.le_trans (Nat.add_le_add_right (Nat.le_trans (Nat.le_trans (Nat.le_of_eq this) h3) hz) 1) (lnk rfl)
 ·obtain⟨k2,hk2,rfl⟩:=e
  exact(AeE rv).mono fun o h=>⟨_,by rw[hout k2 hk2],h⟩
 ·rintro v s' ⟨c,l,l',_,rfl,rfl,hc,z⟩
  exact⟨.obj c,_,q₃ c hc,rfl,((x.trans y).trans g).trans z⟩
theorem AcT(O:BOk B){f:Str}{p1:Pos}{o:Expr}{apos ipos:Pos}{Q:AV→AH→Prop}(hk1:isG env f=true)(hg1:Abi B.K f=some (.builtin "sorted"))
  (hbase:attributeBase o "items" env (eval o env)=eval o env)
  (hline:(apos.endLine==ipos.line)=true) (h:AE B d env vars (eval o env) σ (SiQ Q)) :
  AE B d env vars (eval (.Call (.Name f p1) [.Call (.Attribute o "items" apos) [] [] ipos] [] pos) env) σ Q:=by
 intro A s r S R
 refine Call_ ((AbG (pos:=p1) (Q:=SrtR fun σ₁=>AE B d env vars (eval o env) σ₁ (SiQ Q)) O hk1 hg1 ⟨rfl,h⟩ A s r S R).wp fun fv s₁ fa σ₁ q rv x=>?_) rfl
 obtain⟨rfl,q⟩:=q
 obtain rfl:fv=.builtin "sorted":=rv
 refine callWith_builtin rfl (evalArgs_plain (spliced_cons ?_))
 refine Act ((q A s₁ r x.st (R.go x)).wp fun ov s₂ oa σ₂ q₂ ro y=>?_) hbase rfl hline
 obtain⟨b,kts,rfl,hb,hz,ht,q₂⟩:=q₂
 obtain rfl:ov=.ref b:=ro
 refine⟨.builtin "dict.items",fun pl P E hp=>pm_items hb A s₂ _ pl P E y.st rfl hp,?_⟩
 refine callWith_builtin rfl (PySem.evalArgs_none ?_)
 obtain⟨es,ep,ho,he,hK⟩:=y.st.objs b _ hb
 have hlen:es.length=kts.length:=by rw[he.length];simp
 obtain⟨kvs,hkv1,hkv2,hkv3⟩:∃ kvs:List (Str×Value),Pairs (PySem.strKind B.prog B.w) es kvs∧kvs.map (·.1)=kts.map (·.1)∧All2 (fun (kt:Str×AV) (kv:Str×Value)=>kt.1=kv.1∧VR s₂.heap kt.2 kv.2) kts kvs:=by
  clear hb hz q₂ hlen hK ho
  induction kts generalizing es with
  | nil=>rw[show es=[] from List.length_eq_zero_iff.mp he.length];exact⟨[],.nil,rfl,rfl⟩
  | cons kt kts ih=>
   cases es with
   | nil=>have:=he.length;simp at this
   | cons e es=>
    obtain⟨_,_,eq,hr,ht'⟩:=he
    simp only[List.map_cons,List.cons.injEq] at eq
    obtain⟨rfl,rfl⟩:=eq
    obtain⟨kvs,h1,h2,h3⟩:=ih (fun kt hm=>ht kt (.tail _ hm)) es ht'
    obtain⟨tk,hk⟩:=hr.key
    exact⟨(kt.1,e.val)::kvs,.cons (by rw[hk];exact strKind_is _ _ _ _) rfl h1,by simp[h2],.cons ⟨rfl,hr.val⟩ h3⟩
 have hkl:kvs.length=kts.length:=by have:=congrArg List.length hkv2;simpa using this
 have hnd:(kts.map (·.1)).Nodup:=by
  have:=hK.nodup
  rw[List.map_map] at this
  have e:(kts.map (·.1)).map AV.str=kts.map ((fun kv:AV×AV=>kv.1)∘fun kt=>(AV.str kt.1,kt.2)):=by rw[List.map_map];rfl
  rw[← e] at this
  exact List.Pairwise.imp (fun h z=>h (by rw[z])) (List.pairwise_map.mp this)
 have hAt:∀ h':Heap,h'.get? b=some (dictOf es ep)→h'.DictAt (PySem.strKind B.prog B.w) b kvs ep:=fun h' e'=>
  ⟨_,es.toArray,e',⟨rfl,rfl,rfl⟩,rfl,fun en hen=>by
   have hen':en∈es:=by simpa using hen
   obtain⟨i,hi⟩:=List.mem_iff_getElem?.mp hen'
   obtain⟨kv,hkv,hr⟩:=he.get hi
   rw[List.getElem?_map] at hkv
   obtain⟨kt,_,rfl⟩:=Option.map_eq_some_iff.mp hkv
   obtain⟨tk,hk⟩:=hr.key
   exact⟨kt.1,by rw[hk];exact strKind_is _ _ _ _,hr.hash⟩,by simpa using hkv1,by rw[hkv2];exact hnd⟩
 have hD:=(hAt _ ho).dictOf
 refine call_meetsIn PySem.F.slot_dict_items hD.typeIs PySem.F.entry_dict_items (PySem.F.args_dict_items_1 _) (meets_dict_items (PySem.strKind B.prog B.w) b (y.st.ns hb)) ⟨⟨kvs,hD⟩,?_⟩
 refine spliced_nil ?_
 have k:∀ b' o,s₂.heap.get? b'=some o→(s₂.heap.push { cls:=.type "dict_items",data:=.fields #[.ref b] }).get? b'=some o:=fun b' o e=>Heap.get?_push_of_some _ e
 have g:Ext B noX σ₂ s₂ σ₂ { s₂ with heap:=s₂.heap.push { cls:=.type "dict_items",data:=.fields #[.ref b] } }:=Ext.grow (t:=s₂.toks) y.st k
 have hview:(s₂.heap.push { cls:=.type "dict_items",data:=.fields #[.ref b] }).IsItemsView s₂.heap.objs.size b:=⟨_,Heap.get?_push_size _ rfl,rfl,rfl⟩
 refine wpAny_mono (AcG (A:=A) (L:=fun l=>l=kts.map AbT) (P:=fun jj l'=>l'=AbF (kts.map (·.1)) (kts.map AbT)) g.st (fun R kk=>?_)
  (fun l e=>by rw[e,List.length_map];exact Nat.le_trans (Nat.add_le_add_right hz 1) (lnk rfl)) fun l e s' vs jj rv=>?_) ?_ fun jj jj e=>e
 ·refine kdx_collect (A:=A.in1) (s:={ s₂ with heap:=s₂.heap.push { cls:=.type "dict_items",data:=.fields #[.ref b] } }) (knd:=PySem.strKind B.prog B.w) r.handled hview (hAt _ (k _ _ ho)) (by rw[sizeLine_eq];exact Nat.le_trans (Nat.le_trans (Nat.le_of_eq hkl) hz) (lnk rfl)) fun h' tk as hk hl hG=>?_
  have g2:Ext B noX σ₂ { s₂ with heap:=s₂.heap.push { cls:=.type "dict_items",data:=.fields #[.ref b] } } σ₂ { s₂ with heap:=h',toks:=tk }:=Ext.grow (s:={ s₂ with heap:=s₂.heap.push { cls:=.type "dict_items",data:=.fields #[.ref b] } }) g.st hk
  refine kk _ _ _ rfl (Aao.mpr ?_) g2
  have T:=(g.trans g2).tup
  have key:∀ (kts:List (Str×AV)) (kvs:List (Str×Value)) (as:List Addr),All2 (fun (kt:Str×AV) (kv:Str×Value)=>kt.1=kv.1∧VR s₂.heap kt.2 kv.2) kts kvs→as.length=kvs.length →
    (∀ a∈as,¬ Own.bad a)→(∀ (j:Nat) (a:Addr),as[j]?=some a→∃ key k x,kvs[j]?=some (k,x)∧(PySem.strKind B.prog B.w).is k key=true∧h'.get? a=some { cls:=.type "tuple",data:=.seq #[key,x] }) →
    All2 (VR h') (kts.map AbT) (as.map Value.ref):=by
   intro kts
   induction kts with
   | nil=>intro kvs as h3 h4 _ _;rw[show kvs=[] from h3] at h4;rw[List.length_eq_zero_iff.mp h4];rfl
   | cons kt kts ih=>
    rintro _ as ⟨kv,kvs,rfl,⟨e1,e2⟩,h3⟩ h4 hb' hj
    cases as with
    | nil=>simp at h4
    | cons a as=>
     obtain⟨key,k0,x0,f1,f2,f3⟩:=hj 0 a rfl
     simp at f1
     subst f1
     obtain⟨tk',rfl⟩:=Value.isStrOf_shape f2
     refine .cons ⟨a,#[.str k0 tk',x0],rfl,⟨_,f3,hb' a (.head _)⟩,?_⟩ (ih kvs as h3 (by simpa using h4) (fun a ha=>hb' a (.tail _ ha)) fun j a' e=>by simpa using hj (j+1) a' (by simpa using e))
     exact⟨.str k0 tk',[x0],rfl,⟨tk',by rw[e1]⟩,x0,[],rfl,e2.mono T,rfl⟩
  refine key kts kvs as hkv3 (by rw[hl]) (fun a ha hbad=>?_) hG.pairs
  obtain⟨o,eo⟩:=g.st.bad a hbad
  exact absurd (hG.above a ha) (by have:=Heap.lt_size eo;exact Nat.not_lt.mpr (Nat.le_of_lt this))
 ·subst e
  have hu:=r.units
  exact(Agz (by show A.units+1+1+16<_;exact ln3 (.c 1 (.a (.a (.a (.v 0) (.m 10 (.v 1))) (.n 200)) (.n 1)) (.v 2) (.g 0 (.a (.a (.a (.p 0 1) (.n 1)) (.n 16)) (.n 1)) (.v 2))) rfl hu) rv ht hnd).mono fun o h=>⟨_,rfl,h⟩
 ·rintro v s' ⟨c,l,l',rfl,rfl,rfl,hc,z⟩
  exact⟨.obj c,_,q₂ c hc,rfl,((x.trans y).trans g).trans z⟩
end
end Pq
namespace Pq
variable[Own]
section
variable{B:Aaj}{d:Nat}{env:Env}{vars:Vars}{σ σ':AH}{pos:Pos}{A:Around}{s s':Shared}{b:Addr}{kvs:List (AV×AV)}{k a:AV}
theorem St.freeze(S:St B σ s){b:Addr}(hb:σ b=some (.dict kvs)):∃ es n,St B (upd σ b (.cdict es n kvs)) s:=by
 obtain⟨es,n,ho,he,hK⟩:=S.objs b _ hb
 refine⟨es,n,S.base,fun c hc=>?_,fun c o hc=>?_,S.gens,S.os,fun c hc=>?_,S.bad⟩
 ·by_cases q:c=b
  ·subst q;exact S.apart c (by rw[hb];simp)
  ·rw[Aai _ _ q] at hc;exact S.apart c hc
 ·by_cases q:c=b
  ·subst q;rw[Aac] at hc;cases hc;exact⟨ho,he,hK⟩
  ·rw[Aai _ _ q] at hc;exact S.objs c o hc
 ·by_cases q:c=b
  ·subst q;exact S.lo c (by rw[hb];simp)
  ·rw[Aai _ _ q] at hc;exact S.lo c hc
theorem Ext.freeze{X:Addr→Prop}(x:Ext B X σ s σ' s'){b:Addr}(hb:σ' b=some (.dict kvs)):∃ es n,Ext B X σ s (upd σ' b (.cdict es n kvs)) s':=by
 obtain⟨es,n,S⟩:=x.st.freeze hb
 refine⟨es,n,S,x.tup,x.keep,fun c h1 h2=>x.fresh c h1 ?_,x.live⟩
 by_cases q:c=b
 ·subst q;rw[hb];simp
 ·rwa [Aai _ _ q] at h2
inductive FrzQ(Q:AV→AH→Prop)(v:AV)(σ':AH):Prop
 | mk (b:Addr) (kvs:List (AV×AV)) (e:v=.obj b) (h:σ' b=some (.dict kvs)) (q:∀ es n,Q v (upd σ' b (.cdict es n kvs)))
theorem Aeo{t:Sem Value}{Q:AV→AH→Prop}(h:AE B d env vars t σ (FrzQ Q)):AE B d env vars t σ Q:=by
 intro A s r S R
 refine wpAny_mono (h A s r S R) (fun v s' ⟨a,σ',⟨b,kvs,e,hb,q⟩,rv,x⟩=>?_) fun jj jj e=>e
 obtain⟨es,n,y⟩:=x.freeze hb
 exact⟨a,_,q es n,rv,y⟩
theorem AgO{es:List DictEntry}{n:Nat}{Q:AV→AH→Prop}(hb:σ b=some (.cdict es n kvs))(hf:KeyFit kvs k)(hl:look kvs k=some a)(q:Q a σ):PGet B d (.obj b) k σ Q:=by
 rintro A s _ vi r S rfl rk
 have hd:=(S.objs b _ hb).cd
 refine⟨"dict",_,hd.dictT,slot_dict_getitem.lookup,?_⟩
 unfold W
 unfold getItem
 try with_reducible refine wpAny_holding ?_
 refine wpAny_bind (wpAny_sequenceKey hd.dictT (by decide) ?_)
 refine wpAny_bind (wpAny_callSpecial?_slot (name:=Str.ofString "__getitem__") hd.dictT slot_dict_getitem
  (wpAny_call_entry slot_dict_getitem hd.dictT entry_dict_getitem ?_ (args_dict_getitem _ _)))
 show wpAny _ _ (dictGet b vi >>= _) _ _ s
 refine wpAny_bind (AiX (w:=B.w) r.u8 hd hf rk fun o t ho=>?_)
 rw[hl] at ho
 obtain⟨v,rfl,hv⟩:=ho.some_left
 exact wpAny_pure ⟨v,rfl,wpAny_pure ⟨a,σ,q,hv,(Ext.refl S).tok t⟩⟩
theorem Agi{l:List AV}{Q:AV→AH→Prop}(q:Q (.tup l) σ):AC B d (.type "tuple") [.tup l] σ Q:=by
 refine ac_t fun A s t items r S ht rt=>?_
 refine call_tuple_tup ht.isTup ?_
 exact⟨.tup l,σ,q,⟨t,items,rfl,ht,rt⟩,.refl S⟩
inductive RvZ(it a:Addr)(l:List AV)(xs:List AV)(h:Heap):Prop
 | mk (i:Nat) (g:h.IsRevIter it a ((i:Int) - 1)) (hi:i≤l.length) (e:xs=(l.take i).reverse)
theorem Aho{it a:Addr}{l:List AV}(hne:a≠it):Iter B it [it] (fun jj=>True) [(a,.list l)] (RvZ it a l) where
 frame:=by rintro xs h h' ⟨i,⟨o,ho,r⟩,hi,e⟩ k _;exact⟨i,⟨o,k it (.head _) o ho,r⟩,hi,e⟩
 self:=fun ⟨_,hi,_,_⟩ hp=>wpAny_pyIter_revIter hi hp
 item:=by
  rintro A d σ s x xs tgt - r S hsat F ⟨i,hi,hle,e⟩
  obtain⟨items,n,hL,rt⟩:=(S.objs a _ (hsat _ (.head _))).listL
  obtain⟨j,rfl⟩:∃ j,i=j+1:=by
   cases i with
   | zero=>simp at e
   | succ j=>exact⟨j,rfl⟩
  have hj:j<l.length:=by lia
  rw[List.take_add_one,List.getElem?_eq_getElem hj] at e
  simp only[Option.toList_some,List.reverse_append,List.reverse_cons,List.reverse_nil,List.nil_append,List.singleton_append,List.cons.injEq] at e
  obtain⟨rfl,rfl⟩:=e
  obtain⟨v,ev,hv⟩:=(Aao.mp rt).get (List.getElem?_eq_getElem hj)
  have hi':s.heap.IsRevIter it a (j:Int):=by
   have e:((j+1:Nat):Int) - 1=(j:Int):=by lia
   rw[e] at hi;exact hi
  refine wpAny_pyNext_rev_item hi' hL.isList (by rw[← Array.getElem?_toList];exact ev) fun h' hi2 hs=>⟨v,rfl,?_⟩
  obtain⟨o,ho,hc,hd⟩:=id hi2
  refine lotg ho hc hd (by decide) ?_
  have y:=AeL (tk:=s.toks) S F (.head _) hs ⟨o,ho,by rw[hc];simp⟩
  exact⟨hv.mono y.1.tup,⟨j,hi2,ln2 (.c 1 (.p 0 1) (.v 1) (.g 0 (.v 0) (.v 1))) rfl hj,rfl⟩,y.1,y.2⟩
 done:=by
  rintro A d σ s P r S hsat F ⟨i,hi,hle,e⟩ k
  have h0:i=0:=by
   have:=congrArg List.length e
   simp at this
   lia
  subst h0
  exact wpAny_pyNext_rev_end r.handled hi fun h' hx=>k h' s.toks fun b o hb e=>hx b o (fun q=>hb (by simp[q])) e
inductive RvlQ(Q:List AV→List (Addr×AO)→AH→Prop)(v:AV)(σ₂:AH):Prop
 | mk (a:Addr) (l:List AV) (e:v=.obj a) (h:σ₂ a=some (.list l)) (q:Q l.reverse [(a,.list l)] σ₂)
theorem ai_rev(O:BOk B){f:Str}{fp:Pos}{e:Expr}{tg:Expr→Prop}{Q:List AV→List (Addr×AO)→AH→Prop}(he:AdW e=true)(hk:gOk env f [e]=true)(hg:Abi B.K f=some (.type "reversed"))
  (h:AE B d env vars (eval e env) σ (RvlQ Q)):AI B d env vars (.Call (.Name f fp) [e] [] pos) tg σ Q:=by
 intro A s r S R
 refine Acd O r S R hk hg rfl (Aab he (h.mono fun v σ₂ q₂=>Aaf ?_))
 intro s₁ vs S₁ rv x
 obtain⟨a,l,rfl,ha,q₂⟩:=q₂
 obtain⟨_,_,rfl,rfl,rfl⟩:=rv
 obtain⟨items,n,hL,rt⟩:=(S₁.objs a _ ha).listL
 have hlen:=VRs.size rt
 refine call_reversed_list hL.isList ?_
 have hn:=Aan s₁.heap
 have k:∀ b o,s₁.heap.get? b=some o→(s₁.heap.push (revObj a ((items.size:Int) - 1))).get? b=some o:=fun b o e=>Heap.get?_push_of_some _ e
 have e:(s₁.heap.push (revObj a ((items.size:Int) - 1))).get? s₁.heap.objs.size=some (revObj a ((items.size:Int) - 1)):=Heap.get?_push_size _ rfl
 have hit:(s₁.heap.push (revObj a ((items.size:Int) - 1))).IsRevIter s₁.heap.objs.size a ((l.length:Int) - 1):=⟨_,e,rfl,by rw[hlen];rfl⟩
 refine wpAny_pyIter_revIter (s:={ s₁ with heap:=s₁.heap.push (revObj a ((items.size:Int) - 1)) }) hit ?_
 refine⟨_,[s₁.heap.objs.size],_,_,_,_,q₂,rfl,{ Aho (l:=l) (fun z=>?_) with item:=fun jj=>(Aho (l:=l) (fun z=>?_)).item trivial },⟨l.length,hit,Nat.le_refl _,by rw[List.take_length]⟩,fun p hp=>by rw[List.mem_singleton.mp hp];exact ha,AeM S₁ hn e (by simp[revObj]),fun b hb=>by rw[List.mem_singleton.mp hb];exact AaR x hn,x.trans (Ext.grow (t:=s₁.toks) S₁ k)⟩
 ·subst z;rw[hL] at hn;cases hn
 ·subst z;rw[hL] at hn;cases hn
theorem ac_sum{ns:List Int}{Q:AV→AH→Prop}(hb:σ b=some (.list (ns.map .int)))(q:Q (.int ns.sum) σ):AC B d (.builtin "sum") [.obj b] σ Q:=by
 refine ac_o fun A s r S=>?_
 obtain⟨items,n,hL,rt⟩:=(S.objs b _ hb).listL
 have hI:∀ (ns:List Int) (vs:List Value),VRs s.heap (ns.map .int) vs→∃ ts:List (Int×Tok),vs=ts.map (fun p=>Value.int p.1 p.2)∧ts.map (·.1)=ns:=by
  intro ns
  induction ns with
  | nil=>intro vs h;rw[show vs=[] from h];exact⟨[],rfl,rfl⟩
  | cons i ns ih=>
   rintro _ ⟨v,vs,rfl,⟨t,rfl⟩,h⟩
   obtain⟨ts,rfl,rfl⟩:=ih vs h
   exact⟨(i,t)::ts,rfl,rfl⟩
 obtain⟨ts,e1,e2⟩:=hI ns _ rt
 have e3:items=intItems ts.toArray:=by
  apply Array.toList_inj.mp
  rw[e1];simp[intItems]
 subst e3
 refine sum_intListG (xs:=ts.toArray) r.handled hL.isList fun h' tk t' hk=>?_
 rw[preSum_eq]
 have e4:((ts.toArray.toList.map (·.1)).take ts.toArray.size).sum=ns.sum:=by rw[← e2];simp[List.take_of_length_le]
 rw[e4]
 exact⟨.int ns.sum,σ,q,⟨t',rfl⟩,Ext.grow S hk⟩
end
end Pq
namespace Pq
variable[Own]
noncomputable def FnS(K:Frag)(f:Addr)(s:Stmt):Prop:=FnK K f (Ah4 s) (AcO s) (AaB s)
set_option genInjectivity false in
set_option genSizeOf false in
structure Prg(B:Aaj)where
 O:BOk B
 a:Nat→Addr
 m:Nat→Nat→Addr
 fn:∀ i∈[6,8,9,10,11,12,13,14,20,21,22,23,24,25,26,27,28,29,30,31,32],FnS B.K (a i) (Acl i)
 keep:∀ i∈[6,8,9,10,11,12,13,14,16,18,20,21,22,23,24,25,26,27,28,29,30,31],AaO B.K (.ref (a i))=true
 gfn:∀ p∈([("turned_step",6),("is_variable",8),("variables",9),("placed",10),("parts",11),("part_at",12),("replaced",13),("matched",14),("Seeker",16),("Rule",18),("LimitFault",4),("_law_next",20),("_law_hand",21),("_law_sides",22),
  ("_law_term",23),("_law_fits",24),("_law_filled",25),("_law_names",26),("_law_here",27),("_law_near",28),("_law_far",29),("_law_is_walked",30),("_law_narrow",31)]:List (Str×Nat)),Abi B.K p.1=some (.ref (a p.2))
 gbi:∀ p∈([("len","len"),("sorted","sorted"),("abs","abs"),("sum","sum")]:List (Str×String)),Abi B.K p.1=some (.builtin p.2)
 gty:∀ p∈([("enumerate","enumerate"),("range","range"),("tuple","tuple"),("list","list"),("set","set"),("reversed","reversed"),("zip","zip")]:List (Str×String)),Abi B.K p.1=some (.type p.2)
 mfn:∀ p∈([(16,0),(16,1),(16,2),(16,3),(16,4),(16,5),(16,6),(18,0)]:List (Nat×Nat)),FnS B.K (m p.1 p.2) (AeR p.1 p.2)
 mkeep:∀ j∈[1,2,3,4,5,6],AaO B.K (.ref (m 16 j))=true
 meth:∀ p∈([("turns",1),("beside",2),("grown",3),("back_from",4),("way",5),("through",6)]:List (Str×Nat)),AfR B.K (a 16) p.1 (m 16 p.2)=true
 cls:∀ i∈[16,18],Ai6 B.K (a i) (m i 0)=true
 sget:∀ x∈(["sides","goes_back"]:List Str),Afj B.K (a 16) x=true∧Ae2 B.K (a 16) x=true
 rget:∀ x∈(["name","left","right","needs"]:List Str),Afj B.K (a 18) x=true∧Ae2 B.K (a 18) x=true
theorem Prg.g_LimitFault{B:Aaj}(P:Prg B):Abi B.K "LimitFault"=some (.ref (P.a 4)):=P.gfn ("LimitFault",4) (by decide +kernel)
theorem Prg.g_Rule{B:Aaj}(P:Prg B):Abi B.K "Rule"=some (.ref (P.a 18)):=P.gfn ("Rule",18) (by decide +kernel)
theorem Prg.g_Seeker{B:Aaj}(P:Prg B):Abi B.K "Seeker"=some (.ref (P.a 16)):=P.gfn ("Seeker",16) (by decide +kernel)
theorem Prg.g_abs{B:Aaj}(P:Prg B):Abi B.K "abs"=some (.builtin "abs"):=P.gbi ("abs","abs") (by decide +kernel)
theorem Prg.g_enumerate{B:Aaj}(P:Prg B):Abi B.K "enumerate"=some (.type "enumerate"):=P.gty ("enumerate","enumerate") (by decide +kernel)
theorem Prg.g_is_variable{B:Aaj}(P:Prg B):Abi B.K "is_variable"=some (.ref (P.a 8)):=P.gfn ("is_variable",8) (by decide +kernel)
theorem Prg.g_law_far{B:Aaj}(P:Prg B):Abi B.K "_law_far"=some (.ref (P.a 29)):=P.gfn ("_law_far",29) (by decide +kernel)
theorem Prg.g_law_filled{B:Aaj}(P:Prg B):Abi B.K "_law_filled"=some (.ref (P.a 25)):=P.gfn ("_law_filled",25) (by decide +kernel)
theorem Prg.g_law_fits{B:Aaj}(P:Prg B):Abi B.K "_law_fits"=some (.ref (P.a 24)):=P.gfn ("_law_fits",24) (by decide +kernel)
theorem Prg.g_law_hand{B:Aaj}(P:Prg B):Abi B.K "_law_hand"=some (.ref (P.a 21)):=P.gfn ("_law_hand",21) (by decide +kernel)
theorem Prg.g_law_here{B:Aaj}(P:Prg B):Abi B.K "_law_here"=some (.ref (P.a 27)):=P.gfn ("_law_here",27) (by decide +kernel)
theorem Prg.g_law_is_walked{B:Aaj}(P:Prg B):Abi B.K "_law_is_walked"=some (.ref (P.a 30)):=P.gfn ("_law_is_walked",30) (by decide +kernel)
theorem Prg.g_law_names{B:Aaj}(P:Prg B):Abi B.K "_law_names"=some (.ref (P.a 26)):=P.gfn ("_law_names",26) (by decide +kernel)
theorem Prg.g_law_narrow{B:Aaj}(P:Prg B):Abi B.K "_law_narrow"=some (.ref (P.a 31)):=P.gfn ("_law_narrow",31) (by decide +kernel)
theorem Prg.g_law_near{B:Aaj}(P:Prg B):Abi B.K "_law_near"=some (.ref (P.a 28)):=P.gfn ("_law_near",28) (by decide +kernel)
theorem Prg.g_law_next{B:Aaj}(P:Prg B):Abi B.K "_law_next"=some (.ref (P.a 20)):=P.gfn ("_law_next",20) (by decide +kernel)
theorem Prg.g_law_sides{B:Aaj}(P:Prg B):Abi B.K "_law_sides"=some (.ref (P.a 22)):=P.gfn ("_law_sides",22) (by decide +kernel)
theorem Prg.g_law_term{B:Aaj}(P:Prg B):Abi B.K "_law_term"=some (.ref (P.a 23)):=P.gfn ("_law_term",23) (by decide +kernel)
theorem Prg.g_len{B:Aaj}(P:Prg B):Abi B.K "len"=some (.builtin "len"):=P.gbi ("len","len") (by decide +kernel)
theorem Prg.g_list{B:Aaj}(P:Prg B):Abi B.K "list"=some (.type "list"):=P.gty ("list","list") (by decide +kernel)
theorem Prg.g_matched{B:Aaj}(P:Prg B):Abi B.K "matched"=some (.ref (P.a 14)):=P.gfn ("matched",14) (by decide +kernel)
theorem Prg.g_part_at{B:Aaj}(P:Prg B):Abi B.K "part_at"=some (.ref (P.a 12)):=P.gfn ("part_at",12) (by decide +kernel)
theorem Prg.g_parts{B:Aaj}(P:Prg B):Abi B.K "parts"=some (.ref (P.a 11)):=P.gfn ("parts",11) (by decide +kernel)
theorem Prg.g_placed{B:Aaj}(P:Prg B):Abi B.K "placed"=some (.ref (P.a 10)):=P.gfn ("placed",10) (by decide +kernel)
theorem Prg.g_range{B:Aaj}(P:Prg B):Abi B.K "range"=some (.type "range"):=P.gty ("range","range") (by decide +kernel)
theorem Prg.g_replaced{B:Aaj}(P:Prg B):Abi B.K "replaced"=some (.ref (P.a 13)):=P.gfn ("replaced",13) (by decide +kernel)
theorem Prg.g_reversed{B:Aaj}(P:Prg B):Abi B.K "reversed"=some (.type "reversed"):=P.gty ("reversed","reversed") (by decide +kernel)
theorem Prg.g_set{B:Aaj}(P:Prg B):Abi B.K "set"=some (.type "set"):=P.gty ("set","set") (by decide +kernel)
theorem Prg.g_sorted{B:Aaj}(P:Prg B):Abi B.K "sorted"=some (.builtin "sorted"):=P.gbi ("sorted","sorted") (by decide +kernel)
theorem Prg.g_sum{B:Aaj}(P:Prg B):Abi B.K "sum"=some (.builtin "sum"):=P.gbi ("sum","sum") (by decide +kernel)
theorem Prg.g_tuple{B:Aaj}(P:Prg B):Abi B.K "tuple"=some (.type "tuple"):=P.gty ("tuple","tuple") (by decide +kernel)
theorem Prg.g_turned_step{B:Aaj}(P:Prg B):Abi B.K "turned_step"=some (.ref (P.a 6)):=P.gfn ("turned_step",6) (by decide +kernel)
theorem Prg.g_variables{B:Aaj}(P:Prg B):Abi B.K "variables"=some (.ref (P.a 9)):=P.gfn ("variables",9) (by decide +kernel)
theorem Prg.g_zip{B:Aaj}(P:Prg B):Abi B.K "zip"=some (.type "zip"):=P.gty ("zip","zip") (by decide +kernel)
section
variable{B:Aaj}{d:Nat}{σ:AH}
theorem Aew(P:Prg B){x:Str}{l:List AV}{Q:AV→AH→Prop}(hz:l.length≤900)(hx:x.cps.size≤1000)(q:Q (.bool (decide (l=[])&&decide ((⟨(x.cps.toList.take 1).toArray⟩:Str)="?"))) σ):
  AK B (d+1) (.ref (P.a 8)) [.tup (.str x::l)] σ Q:=by
 have F:=P.fn 8 (by decide)
 refine Abm P.O F (names:=["t"]) (fun jj jj jj jj jj jj jj jj vs hv=>?_) (by decide +kernel) fun qn L cd=>?_
 ·obtain⟨v,rfl⟩:∃ v,vs=[v]:=List.length_eq_one_iff.mp hv
  rfl
 ·refine Aad (Aal ?_)
  refine e_and ?_
  refine Aei rfl ?_
  refine e_g P.O (by rfl) P.g_len rfl ?_
  refine Aag (.loc (by rfl) (by rfl) .nil) ?_
  refine AgJ (by simp;exact ln1 (.c 1 (.v 0) (.n 900) (.g 0 (.v 0) (.n 999))) rfl hz) ?_
  refine Aae ?_
  refine AbU ?_
  refine AaU ?_
  have e1:decide (((AV.str x::l).length:Int)=1)=decide (l=[]):=by
   cases l with
   | nil=>rfl
   | cons y l=>simp only[List.length_cons,reduceCtorEq,decide_false,decide_eq_false_iff_not];lia
  rw[e1]
  by_cases hl:l=[]
  ·subst hl
   refine Abh (by rfl) ?_
   refine Aei rfl (AaL ?_)
   refine AaF rfl (Aaa (by rfl) (by rfl) (Aae (Abu (a:=.str x) (by decide) (lnk rfl) (by rfl) ?_)))
   refine Aaz (Aay (Aae ⟨1,rfl,Ag6 hx ?_⟩))
   refine Aav (AdY ?_)
   simpa[goOn,retQ] using q
  ·refine AaV (by simp[hl]) ?_
   simpa[goOn,retQ,hl] using q
end
end Pq
namespace Pq
inductive Nm where
 | a | b | c | x | y | z | g | h | f
 deriving DecidableEq
noncomputable def Nm.str:Nm→Str
 | .a=>"a" | .b=>"b" | .c=>"c" | .x=>"?x" | .y=>"?y" | .z=>"?z" | .g=>"g" | .h=>"h" | .f=>"f"
noncomputable def Nm.of(s:Str):Nm:=if s="a" then .a else if s="b" then .b else if s="c" then .c else if s="?x" then .x else if s="?y" then .y else if s="?z" then .z else if s="g" then .g else if s="h" then .h else .f
theorem Nm.of_str(n:Nm):Nm.of n.str=n:=by cases n<;>decide
theorem Nm.inj{m n:Nm}(e:m.str=n.str):m=n:=(Nm.of_str m).symm.trans ((congrArg Nm.of e).trans (Nm.of_str n))
theorem Nm.str_eq{m n:Nm}:(m.str=n.str)=(m=n):=propext ⟨Nm.inj,fun e=>by rw[e]⟩
noncomputable def Nm.isVar(n:Nm):Bool:=n=.x||(n=.y||n=.z)
theorem Nm.var_str(n:Nm):decide ((⟨(n.str.cps.toList.take 1).toArray⟩:Str)="?")=n.isVar:=by cases n<;>decide
inductive Tm where
 | lf (n:Nm)
 | un (n:Nm) (k:Tm)
 | bi (n:Nm) (l r:Tm)
 deriving DecidableEq
noncomputable def Tm.av:Tm→AV
 | .lf n=>.tup [.str n.str]
 | .un n k=>.tup [.str n.str,k.av]
 | .bi n l r=>.tup [.str n.str,l.av,r.av]
noncomputable def Tm.hd(t:Tm):Nm:=Tm.casesOn t (fun n=>n) (fun n jj=>n) fun n jj jj=>n
noncomputable def Tm.kids(t:Tm):List Tm:=Tm.casesOn t (fun jj=>[]) (fun jj k=>[k]) fun jj l r=>[l,r]
noncomputable def Tm.depth:Tm→Nat
 | .lf _=>1
 | .un _ k=>k.depth+1
 | .bi _ l r=>max l.depth r.depth+1
noncomputable def Tm.isVar(t:Tm):Bool:=Tm.casesOn t (fun n=>n.isVar) (fun jj jj=>false) fun jj jj jj=>false
theorem Tm.depth_pos(t:Tm):1≤t.depth:=by cases t<;>exact Nat.succ_le_succ (Nat.zero_le _)
theorem Tm.kids_le(t:Tm):t.kids.length≤2:=by cases t<;>exact lnk rfl
theorem Tm.av_eq(t:Tm):t.av=.tup (.str t.hd.str::t.kids.map Tm.av):=by cases t<;>rfl
theorem Tm.kav_le(t:Tm):(t.kids.map Tm.av).length≤2:=by cases t<;>exact lnk rfl
theorem Tm.av_k(t:Tm):(AV.str t.hd.str::t.kids.map Tm.av).length≤1000:=by cases t<;>exact lnk rfl
theorem Tm.kid_d{t k:Tm}{n:Nat}(h:t.depth≤n+1)(hm:k∈t.kids):k.depth≤n:=by
 cases t with
 | lf m=>cases hm
 | un m a=>cases List.mem_singleton.mp hm;exact Nat.le_of_succ_le_succ h
 | bi m l r=>
  have h:=Nat.max_le.mp (Nat.le_of_succ_le_succ h)
  rcases List.mem_cons.mp hm with rfl | hm
  ·exact h.1
  ·cases List.mem_singleton.mp hm;exact h.2
theorem Tm.inj{s t:Tm}(e:s.av=t.av):s=t:=by
 induction s generalizing t with
 | lf m=>
  cases t with
  | lf n=>exact congrArg Tm.lf (Nm.inj (AV.str.inj (List.cons.inj (AV.tup.inj e)).1))
  | un n k=>cases (List.cons.inj (AV.tup.inj e)).2
  | bi n l r=>cases (List.cons.inj (AV.tup.inj e)).2
 | un m k ih=>
  cases t with
  | lf n=>cases (List.cons.inj (AV.tup.inj e)).2
  | un n k'=>
   have h:=List.cons.inj (AV.tup.inj e)
   rw[Nm.inj (AV.str.inj h.1),ih (List.cons.inj h.2).1]
  | bi n l r=>cases (List.cons.inj (List.cons.inj (AV.tup.inj e)).2).2
 | bi m l r ih1 ih2=>
  cases t with
  | lf n=>cases (List.cons.inj (AV.tup.inj e)).2
  | un n k=>cases (List.cons.inj (List.cons.inj (AV.tup.inj e)).2).2
  | bi n l' r'=>
   have h:=List.cons.inj (AV.tup.inj e)
   have g:=List.cons.inj h.2
   rw[Nm.inj (AV.str.inj h.1),ih1 g.1,ih2 (List.cons.inj g.2).1]
theorem Tm.av_inj{s t:Tm}:(s.av=t.av)=(s=t):=propext ⟨Tm.inj,fun e=>by rw[e]⟩
theorem Tm.ok{t:Tm}{n:Nat}(h:t.depth≤n):Abx n t.av=true:=by
 induction t generalizing n with
 | lf m=>
  cases n with
  | zero=>exact absurd h (Nat.not_succ_le_zero _)
  | succ n=>rfl
 | un m k ih=>
  cases n with
  | zero=>exact absurd h (Nat.not_succ_le_zero _)
  | succ n=>exact(show(Abx n k.av&&true)=true from AeB (ih (Nat.le_of_succ_le_succ h)) rfl)
 | bi m l r ih1 ih2=>
  cases n with
  | zero=>exact absurd h (Nat.not_succ_le_zero _)
  | succ n=>
   have h:=Nat.max_le.mp (Nat.le_of_succ_le_succ h)
   exact(show(Abx n l.av&&(Abx n r.av&&true))=true from AeB (ih1 h.1) (AeB (ih2 h.2) rfl))
variable[Own]
section
variable{B:Aaj}{d:Nat}{σ:AH}
theorem AbB(P:Prg B)(t:Tm){Q:AV→AH→Prop}(q:Q (.bool t.isVar) σ):AK B (d+1) (.ref (P.a 8)) [t.av] σ Q:=by
 rw[Tm.av_eq]
 have h1:t.hd.str.cps.size≤1000:=by cases t.hd<;>decide
 refine Aew P (by cases t<;>simp[Tm.kids]) h1 ?_
 rw[Nm.var_str]
 cases t<;>simpa[Tm.kids,Tm.isVar,Tm.hd] using q
end
end Pq
namespace Pq
variable[Own]
noncomputable def Keep(σ σ':AH):Prop:=∀ a o,σ a=some o→σ' a=some o
theorem Keep.refl(σ:AH):Keep σ σ:=fun jj jj e=>e
theorem Keep.trans{σ σ' σ'':AH}(h:Keep σ σ')(k:Keep σ' σ''):Keep σ σ'':=fun a o e=>k a o (h a o e)
theorem Keep.upd{σ σ':AH}(h:Keep σ σ'){a:Addr}(ha:σ' a=none∨σ a=none)(o:AO):Keep σ (upd σ' a o):=fun b p e=>by
 by_cases q:b=a
 ·subst q
  rcases ha with ha | ha
  ·exact nosn (h b p e) ha
  ·exact nosn e ha
 ·rw[Aai _ _ q];exact h b p e
theorem Keep.none{σ σ':AH}(h:Keep σ σ'){a:Addr}(ha:σ' a=none):σ a=none:=by
 cases e:σ a with
 | none=>rfl
 | some o=>exact nosn (h a o e) ha
inductive NewL(σ:AH)(l:List AV)(v:AV)(σ':AH):Prop
 | mk (b:Addr) (h1:v=.obj b) (h2:σ b=none) (h3:Keep σ σ') (h4:σ' b=some (.list l))
inductive RetK(σ:AH)(a:AV)(v:AV)(σ':AH):Prop
 | mk (h1:v=a) (h2:Keep σ σ')
section
variable{B:Aaj}{d:Nat}{σ:AH}{f:Value}{args:List AV}
theorem AK.mono{Q Q':AV→AH→Prop}(h:AK B d f args σ Q)(k:∀ a σ',Q a σ'→Q' a σ'):AK B d f args σ Q':=fun A s vs r S rv=>codeAny_mono (h A s vs r S rv) fun r s' x=>by
 cases r with
 | error e=>exact x
 | ok fl=>
  cases fl with
  | ret v=>obtain⟨b,σ',q,y,z⟩:=x;exact⟨b,σ',k _ _ q,y,z⟩
  | _=>exact x
omit [Own] in
theorem vs1{α:Type}{vs:List α}(h:vs.length=1):∃ v,vs=[v]:=List.length_eq_one_iff.mp h
omit [Own] in
theorem vs_s{α:Type}{n:Nat}{vs:List α}(h:vs.length=n+1):∃ u r,vs=u::r∧r.length=n:=by
 cases vs with
 | nil=>cases h
 | cons u r=>exact⟨u,r,rfl,Nat.succ.inj h⟩
omit [Own] in
theorem vs2{α:Type}{vs:List α}(h:vs.length=2):∃ u v,vs=[u,v]:=by
 obtain⟨u,r,rfl,k⟩:=vs_s h;obtain⟨v,rfl⟩:=vs1 k;exact⟨u,v,rfl⟩
omit [Own] in
theorem vs3{α:Type}{vs:List α}(h:vs.length=3):∃ u v w,vs=[u,v,w]:=by
 obtain⟨u,r,rfl,k⟩:=vs_s h;obtain⟨v,w,rfl⟩:=vs2 k;exact⟨u,v,w,rfl⟩
omit [Own] in
theorem vs4{α:Type}{vs:List α}(h:vs.length=4):∃ u v w x,vs=[u,v,w,x]:=by
 obtain⟨u,r,rfl,k⟩:=vs_s h;obtain⟨v,w,x,rfl⟩:=vs3 k;exact⟨u,v,w,x,rfl⟩
omit [Own] in
theorem vs5{α:Type}{vs:List α}(h:vs.length=5):∃ u v w x y,vs=[u,v,w,x,y]:=by
 obtain⟨u,r,rfl,k⟩:=vs_s h;obtain⟨v,w,x,y,rfl⟩:=vs4 k;exact⟨u,v,w,x,y,rfl⟩
omit [Own] in
theorem hb1{params:Arguments}{body:List Stmt}{scope:Scope}{x:Str}{a0:AV}(h:∀ name qual kV doc pm an cdv ct p0,bindArgs (fnOf name qual params body scope .none kV doc pm an cdv ct) ⟨[p0],[]⟩=pure [(x,p0)])(name qual kV doc pm an cdv ct vs)(hv:vs.length=[a0].length):bindArgs (fnOf name qual params body scope .none kV doc pm an cdv ct) ⟨vs,[]⟩=pure ([x].zip vs):=by
 obtain⟨p0,rfl⟩:=vs1 hv
 exact h ..
omit [Own] in
theorem hb2{params:Arguments}{body:List Stmt}{scope:Scope}{x y:Str}{a0 a1:AV}(h:∀ name qual kV doc pm an cdv ct p0 p1,bindArgs (fnOf name qual params body scope .none kV doc pm an cdv ct) ⟨[p0,p1],[]⟩=pure [(x,p0),(y,p1)])(name qual kV doc pm an cdv ct vs)(hv:vs.length=[a0,a1].length):bindArgs (fnOf name qual params body scope .none kV doc pm an cdv ct) ⟨vs,[]⟩=pure ([x,y].zip vs):=by
 obtain⟨p0,p1,rfl⟩:=vs2 hv
 exact h ..
omit [Own] in
theorem hb3{params:Arguments}{body:List Stmt}{scope:Scope}{x y z:Str}{a0 a1 a2:AV}(h:∀ name qual kV doc pm an cdv ct p0 p1 p2,bindArgs (fnOf name qual params body scope .none kV doc pm an cdv ct) ⟨[p0,p1,p2],[]⟩=pure [(x,p0),(y,p1),(z,p2)])(name qual kV doc pm an cdv ct vs)(hv:vs.length=[a0,a1,a2].length):bindArgs (fnOf name qual params body scope .none kV doc pm an cdv ct) ⟨vs,[]⟩=pure ([x,y,z].zip vs):=by
 obtain⟨p0,p1,p2,rfl⟩:=vs3 hv
 exact h ..
omit [Own] in
theorem hb4{params:Arguments}{body:List Stmt}{scope:Scope}{x y z u:Str}{a0 a1 a2 a3:AV}(h:∀ name qual kV doc pm an cdv ct p0 p1 p2 p3,bindArgs (fnOf name qual params body scope .none kV doc pm an cdv ct) ⟨[p0,p1,p2,p3],[]⟩=pure [(x,p0),(y,p1),(z,p2),(u,p3)])(name qual kV doc pm an cdv ct vs)(hv:vs.length=[a0,a1,a2,a3].length):bindArgs (fnOf name qual params body scope .none kV doc pm an cdv ct) ⟨vs,[]⟩=pure ([x,y,z,u].zip vs):=by
 obtain⟨p0,p1,p2,p3,rfl⟩:=vs4 hv
 exact h ..
omit [Own] in
theorem hb5{params:Arguments}{body:List Stmt}{scope:Scope}{x y z u v:Str}{a0 a1 a2 a3 a4:AV}(h:∀ name qual kV doc pm an cdv ct p0 p1 p2 p3 p4,bindArgs (fnOf name qual params body scope .none kV doc pm an cdv ct) ⟨[p0,p1,p2,p3,p4],[]⟩=pure [(x,p0),(y,p1),(z,p2),(u,p3),(v,p4)])(name qual kV doc pm an cdv ct vs)(hv:vs.length=[a0,a1,a2,a3,a4].length):bindArgs (fnOf name qual params body scope .none kV doc pm an cdv ct) ⟨vs,[]⟩=pure ([x,y,z,u,v].zip vs):=by
 obtain⟨p0,p1,p2,p3,p4,rfl⟩:=vs5 hv
 exact h ..
omit [Own] in
theorem sat1{σ:AH}{a:Addr}{o:AO}(h:σ a=some o):Sat [(a,o)] σ:=fun p hp=>by rw[List.mem_singleton.mp hp];exact h
theorem AhY{p A B:Prop}[Decidable p](h:p)(a:A):if decide p=true then A else B:=Abh (decide_eq_true h) a
theorem Af3{p A B:Prop}[Decidable p](h:¬p)(b:B):if decide p=true then A else B:=AaV (fun e=>h (of_decide_eq_true e)) b
theorem AiT{p A B:Prop}[Decidable p](h:p)(b:B):if(!decide p)=true then A else B:=AaV (fun e=>by rw[decide_eq_true h] at e;exact Bool.false_ne_true e) b
theorem AiU{p A B:Prop}[Decidable p](h:¬p)(a:A):if(!decide p)=true then A else B:=Abh (by rw[decide_eq_false h];rfl) a
theorem AcA{env:Env}{vars:Vars}{t:Sem Flow}{Q:AFl→Vars→AH→Prop}(h:let V:=vars;AX B d env V t σ Q):AX B d env vars t σ Q:=h
theorem Aah{env:Env}{vars:Vars}{rest:List Stmt}{Q:AFl→Vars→AH→Prop}(h:AX B d env vars (execs rest env) σ Q):goOn B d env rest Q .next vars σ:=h
theorem Aaq{env:Env}{vars:Vars}{Q:AFl→Vars→AH→Prop}(h:Q .next vars σ):goOn B d env [] Q .next vars σ:=AaK h
theorem Aap{env:Env}{vars:Vars}{rest:List Stmt}{a:AV}{Q:AFl→Vars→AH→Prop}(h:Q (.ret a) vars σ):goOn B d env rest Q (.ret a) vars σ:=h
theorem AcU{env:Env}{vars:Vars}{P₁ P₂:AH→Prop}(h:P₁ σ):CTests B d env vars [] σ (fun ok σ₃=>if ok=true then P₁ σ₃ else P₂ σ₃):=by
 show(if true=true then P₁ σ else P₂ σ)
 rw[if_pos rfl];exact h
noncomputable def v2a(a:AV)(b:AV)(c:AV)(e:AV)(t:Bool):Vars:=fV ["step"] [.tup [a,b,c,e,.bool t]]
theorem Aeq(P:Prg B){a b c e:AV}{t:Bool}{Q:AV→AH→Prop}(q:Q (.tup [a,b,c,e,.bool (!t)]) σ):
  AK B (d+1) (.ref (P.a 6)) [.tup [a,b,c,e,.bool t]] σ Q:=by
 have F:=P.fn 6 (by decide)
 refine Abm P.O F (names:=["step"]) (hb1 fun jj jj jj jj jj jj jj jj jj=>rfl) (by decide +kernel) fun qn L cd=>?_
 let E:=fE (AaB (Acl 6)) (P.a 6) qn L cd
 let V:=v2a a b c e t
 show AX B _ E V (execs _ E) _ _
 refine Aad (Aal ?_)
 refine AaN (AaL (Aaa (by rfl) (by rfl) (Aaz (Aay (Aae ⟨4,rfl,AcN (lnk rfl) ?_⟩)))))
 refine Aam (Aab rfl (e_not (AaF rfl (Aaa (by rfl) (by rfl) (Aae (Abu (a:=.bool t) (by decide) (lnk rfl) (by rfl) (AaU (Aaf ⟨lnk rfl,?_⟩))))))))
 exact AaW (by simp[slc]) (by simpa[goOn,retQ,slc] using q)
end
end Pq
namespace Pq
variable[Own]
noncomputable def Aa4(p:List Nat):AV:=.tup (p.map fun (k:Nat)=>.int k)
noncomputable def Ab7(p:List Nat×Tm):AV:=.tup [Aa4 p.1,p.2.av]
noncomputable def Tm.parts:Tm→List (List Nat×Tm)
 | .lf n=>[([],.lf n)]
 | .un n k=>([],.un n k)::(k.parts.map fun p=>(0::p.1,p.2))
 | .bi n l r=>([],.bi n l r)::((l.parts.map fun p=>(0::p.1,p.2))++(r.parts.map fun p=>(1::p.1,p.2)))
noncomputable def AgG(i:Nat)(l:List Tm):List (List Nat×Tm):=List.rec (fun jj=>[]) (fun k jj go i=>(k.parts.map fun p=>(i::p.1,p.2))++go (i+1)) l i
omit [Own] in
theorem Tm.parts_eq(t:Tm):t.parts=([],t)::AgG 0 t.kids:=by
 cases t with
 | lf n=>rfl
 | un n k=>exact congrArg (_::·) (List.append_nil _).symm
 | bi n l r=>exact congrArg (_::·) (congrArg (HAppend.hAppend _) (List.append_nil _).symm)
omit [Own] in
theorem Tm.part_ind{M:Tm→List Nat×Tm→Prop}(h0:∀ t,M t ([],t))(hu:∀ n k p,M k p→M (.un n k) (0::p.1,p.2))(hl:∀ n l r p,M l p→M (.bi n l r) (0::p.1,p.2))(hr:∀ n l r p,M r p→M (.bi n l r) (1::p.1,p.2))
  {t:Tm} {p:List Nat×Tm} (h:p∈t.parts):M t p:=by
 induction t generalizing p with
 | lf n=>rw[List.mem_singleton.mp h];exact h0 _
 | un n k ih=>
  rcases List.mem_cons.mp h with rfl | h
  ·exact h0 _
  ·obtain⟨q,hq,rfl⟩:=List.mem_map.mp h;exact hu _ _ _ (ih hq)
 | bi n l r ih1 ih2=>
  rcases List.mem_cons.mp h with rfl | h
  ·exact h0 _
  ·rcases List.mem_append.mp h with h | h
   ·obtain⟨q,hq,rfl⟩:=List.mem_map.mp h;exact hl _ _ _ _ (ih1 hq)
   ·obtain⟨q,hq,rfl⟩:=List.mem_map.mp h;exact hr _ _ _ _ (ih2 hq)
theorem Tm.parts_len(t:Tm)(p:List Nat×Tm)(h:p∈t.parts):p.1.length<t.depth:=
 Tm.part_ind (M:=fun t p=>p.1.length<t.depth) Tm.depth_pos (fun jj jj jj h=>Nat.succ_lt_succ h) (fun jj jj jj jj h=>Nat.succ_lt_succ (Nat.lt_of_lt_of_le h (Nat.le_max_left ..))) (fun jj jj jj jj h=>Nat.succ_lt_succ (Nat.lt_of_lt_of_le h (Nat.le_max_right ..))) h
omit [Own] in
theorem Tm.parts_lt{t k:Tm}(h:k∈t.kids):k.parts.length<t.parts.length:=by
 have m:∀ (k:Tm) (i:Nat),(k.parts.map fun p=>(i::p.1,p.2)).length=k.parts.length:=fun k i=>List.length_map _
 cases t with
 | lf n=>cases h
 | un n a=>rw[List.mem_singleton.mp h];exact Nat.lt_succ_of_le (Nat.le_of_eq (m ..).symm)
 | bi n l r=>
  have e:(Tm.bi n l r).parts.length=l.parts.length+r.parts.length+1:=congrArg (·+1) (List.length_append.trans (by rw[m,m]))
  rw[e]
  rcases List.mem_cons.mp h with rfl | h
  ·exact Nat.lt_succ_of_le (Nat.le_add_right ..)
  ·rw[List.mem_singleton.mp h];exact Nat.lt_succ_of_le (Nat.le_add_left ..)
section
variable{B:Aaj}{d:Nat}{σ:AH}
inductive R3b(b:Addr)(σ:AH)(t:Tm)(xs:List AV)(vars:Vars)(σ':AH):Prop
 | mk (j:Nat) (ks:List Tm) (ps:List (List Nat×Tm)) (h1:xs=Af7 j (ks.map Tm.av)) (h2:vars "found"=some (.obj b)) (h3:Keep σ σ') (h4:(∀ k∈ks,k∈t.kids)) (h5:σ' b=some (.list (ps.map Ab7))) (h6:ps++AgG j ks=t.parts)
inductive R3c(σ₂:AH)(j:Nat)(k:Tm)(xs:List AV)(ys:List AV)(σ'':AH):Prop
 | mk (h1:σ''=σ₂) (done todo:_) (h2:xs=todo.map Ab7) (h3:ys=(done.map fun p:List Nat×Tm=>Ab7 (j::p.1,p.2))) (h4:done++todo=k.parts)
theorem Ag9(P:Prg B):∀ (n:Nat) (t:Tm),n≤100→t.depth≤n→t.parts.length≤100→∀ σ,AK B (d+n) (.ref (P.a 11)) [t.av] σ (NewL σ (t.parts.map Ab7)):=by
 intro n
 induction n with
 | zero=>exact fun t jj h jj jj=>absurd h (Nat.not_le_of_gt t.depth_pos)
 | succ n ih=>
  intro t hn h hz σ
  have F:=P.fn 11 (by decide)
  refine Abm (d:=d+n) P.O F (names:=["t"]) (hb1 fun jj jj jj jj jj jj jj jj jj=>rfl) (by decide +kernel) fun qn L cd=>?_
  refine Aad ?_
  refine Aak rfl rfl ?_
  refine AaI ?_
  refine Aab rfl ?_
  refine Aam ?_
  refine Aab rfl ?_
  refine Aam ?_
  refine Aaf ⟨lnk rfl,?_⟩
  refine Aag (.loc (by rfl) (by rfl) .nil) ⟨lnk rfl,Aaf ⟨lnk rfl,fun b hb=>?_⟩⟩
  refine Aad ?_
  refine Abc rfl ?_
  refine ai_enum P.O rfl (by rfl) P.g_enumerate ?_ (fun t e=>⟨_,_,_,e⟩)
  rw[Tm.av_eq t]
  refine AaL ?_
  refine Aaa (by rfl) (by rfl) ?_
  refine Aay ?_
  refine Aae ⟨1,rfl,Aaz (AcN t.av_k ?_)⟩
  refine⟨t.kids.map Tm.av,by cases t<;>rfl,?_⟩
  refine⟨(R3b b σ t),?_,?_,?_⟩
  ·exact⟨0,t.kids,[([],t)],rfl,by rfl,(Keep.refl σ).upd (.inl hb) _,fun jj h=>h,by rw[Aac,← Tm.av_eq];rfl,(Tm.parts_eq t).symm⟩
  ·rintro x xs vars σ' _ ⟨j,ks,ps,hx,hv,hK,hks,hb',hp⟩
   cases ks with
   | nil=>exact nol hx
   | cons k ks=>
    obtain⟨rfl,rfl⟩:=List.cons.inj hx
    have hkd:k.depth≤n:=by
     have hm:=hks k (.head _)
     exact Tm.kid_d h hm
    have hkz:=Tm.parts_lt (hks k (.head _))
    have hpz:ps.length≤100:=by have:=congrArg List.length hp;simp at this;exact ln3 (.c 1 (.v 0) (.n 100) (.e 1 0 (.b 1 2) (.v 0) (.g 0 (.v 1) (.n 100)))) rfl hz this
    refine a_n2 rfl rfl ?_
    refine Aad ?_
    refine Ace rfl rfl ?_
    refine AaM P.O rfl rfl ?_
    refine Aaa (by rfl) (by exact hv) ⟨_,AfM hb',rfl,rfl,?_⟩
    refine Aab rfl ?_
    refine AaT rfl (cl:=[("k",L+1)]) ⟨by rfl,by rfl,by simp,by rfl,by decide,by rfl,by decide⟩ ?_
    refine AaC ((e_g P.O (by rfl) P.g_parts (P.keep 11 (by decide)) (Aag (.loc (by rfl) (by rfl) .nil) (ih k (by exact Nat.le_of_lt hn) hkd (by exact Nat.le_of_lt (Nat.le_trans hkz hz)) σ').ac)).mono ?_)
    rintro v σ₂ ⟨b2,rfl,hb2,hK2,hl2⟩
    refine⟨b2,_,rfl,hl2,by rw[List.length_map];exact Nat.le_trans (Nat.le_of_lt (Nat.le_trans hkz hz)) (lnk rfl),?_⟩
    refine⟨(R3c σ₂ j k),⟨rfl,[],k.parts,rfl,rfl,rfl⟩,?_,?_⟩
    ·rintro C x xs ys σ'' hsat ⟨rfl,done,todo,hx,rfl,hd⟩
     obtain⟨p,todo⟩:=Abb hx
     refine Ajk rfl rfl ?_
     refine AcU ?_
     refine Aam ?_
     refine Aab rfl ?_
     refine AaN ?_
     refine Aam ?_
     refine Aag (.cell (a:=.int j) (by rfl) (by rfl) .nil) ⟨lnk rfl,?_⟩
     refine Aaa (a:=Aa4 p.1) (by rfl) (by rfl) ?_
     refine AaW (by have:=Tm.parts_len k p (by rw[← hd];simp);simp;exact ln3 (.c 1 (.p 0 1) (.n 100) (.c 1 (.v 1) (.v 0) (.c 1 (.p 2 1) (.v 1) (.g 0 (.a (.n 1) (.v 2)) (.n 1000))))) rfl hn hkd this) ?_
     refine Aag (.loc (a:=p.2.av) (by rfl) (by rfl) .nil) ⟨lnk rfl,hsat,rfl,done++[p],todo,rfl,?_,by simp[← hd]⟩
     simp[Ab7,Aa4]
    ·rintro ys σ'' hsat ⟨rfl,done,todo,hx,rfl,hd⟩ hlen a ha
     obtain rfl:todo=[]:=Adk hx
     rw[List.append_nil] at hd
     subst hd
     refine Aaf ?_
     have hba:b≠a:=ne1 (hK2 _ _ hb') ha
     refine Ajl (by rw[Aai _ _ hba];exact hK2 _ _ hb') (Aac _ _ _) (by simp;exact ln3 (.c 1 (.v 0) (.n 100) (.c 1 (.p 1 1) (.v 0) (.c 1 (.v 2) (.n 100) (.g 0 (.b 2 1) (.n 1000))))) rfl hz hkz hpz) ?_
     refine Aaq ⟨(fun jj h=>nomatch h),j+1,ks,ps++(k.parts.map fun p:List Nat×Tm=>(j::p.1,p.2)),rfl,by exact hv,?_,fun k' hk'=>hks k' (.tail _ hk'),?_,?_⟩
     ·exact((hK.trans hK2).upd (.inl ha) _).upd (.inr hb) _
     ·rw[Aac];simp
     ·rw[← hp,List.append_assoc];rfl
  ·rintro vars σ' _ ⟨j,ks,ps,hx,hv,hK,hks,hb',hp⟩
   have ht0:ks=[]:=by cases ks with
    | nil=>rfl
    | cons k ks=>exact nol hx.symm
   subst ht0
   refine Aad ?_
   refine Aal ?_
   refine Aaa (by rfl) hv ?_
   exact⟨b,rfl,hb,hK,by rw[hb',← hp,show AgG j []=[] from rfl,List.append_nil]⟩
end
end Pq
namespace Pq
variable[Own]
section
variable{B:Aaj}{d:Nat}{σ:AH}
inductive R4a(σ:AH)(k:Nat)(t:Tm)(kid:Tm)(xs:List AV)(vars:Vars)(σ':AH):Prop
 | mk (h1:σ'=σ) (h2:((xs=[.int k]∧vars "t"=some t.av)∨(xs=[]∧vars "t"=some kid.av)))
noncomputable def v4a(t:Tm)(k:Nat):Vars:=fV ["t","path"] [t.av,.tup [.int k]]
theorem AhQ(P:Prg B){t kid:Tm}{k:Nat}(hk:t.kids[k]?=some kid){Q:AV→AH→Prop}(q:Q kid.av σ):AK B (d+1) (.ref (P.a 12)) [t.av,.tup [.int k]] σ Q:=by
 have F:=P.fn 12 (by decide)
 have hk2:t.kids.length≤2:=t.kids_le
 have hkl:k<t.kids.length:=(List.getElem?_eq_some_iff.mp hk).1
 refine Abm P.O F (names:=["t","path"]) (hb2 fun jj jj jj jj jj jj jj jj jj jj=>rfl) (by decide +kernel) fun qn L cd=>?_
 let E:=fE (AaB (Acl 12)) (P.a 12) qn L cd
 let V:=v4a t k
 show AX B _ E V (execs _ E) _ _
 refine Aad (Abc rfl (AeV (Aaa (by rfl) (by rfl) ⟨_,rfl,?_⟩)))
 refine⟨(R4a σ k t kid),⟨rfl,.inl ⟨rfl,by rfl⟩⟩,?_,?_⟩
 ·rintro x xs vars σ' _ ⟨rfl,⟨hx,hv⟩ | ⟨hx,_⟩⟩
  ·cases hx
   refine AaA rfl ?_
   refine Aad (AbV (Ags (t_chain rfl (Aae ?_))))
   refine Aaa (a:=.int k) (by rfl) (by rfl) (Aft ?_)
   refine Abh rfl ?_
   refine AaN (e_g P.O (by rfl) P.g_len rfl (Aag (.loc (by rfl) (by exact hv) .nil) ?_))
   rw[Tm.av_eq]
   refine AgJ (by simp;exact Nat.le_trans hk2 (lnk rfl)) (Aae (b_sub (Afs ?_)))
   have e1:decide ((k:Int)<((AV.str t.hd.str::List.map Tm.av t.kids).length:Int) - 1)=true:=by simp;exact hkl
   rw[e1]
   refine AaV (by decide) ?_
   refine AaK ?_
   refine Aah ?_
   refine Aad (Aak rfl rfl (AaF rfl ?_))
   refine Aaa (a:=t.av) (by rfl) (by exact hv) (AaN (Aaa (a:=.int k) (by rfl) (by rfl) (Aae (AdO ?_))))
   rw[Tm.av_eq]
   refine Abu (a:=kid.av) (by lia) (by simp;exact Nat.le_trans hk2 (lnk rfl)) ?_ ?_
   ·have e2:((k:Int)+1).toNat=k+1:=by lia
    rw[e2];simp[hk]
   ·exact Aaq ⟨(fun jj h=>nomatch h),rfl,.inr ⟨rfl,rfl⟩⟩
  ·exact nol hx
 ·rintro vars σ' _ ⟨rfl,⟨hx,_⟩ | ⟨_,hv⟩⟩
  ·exact nol hx.symm
  ·exact Aad (Aal (Aaa (by rfl) hv q))
end
end Pq
namespace Pq
variable[Own]
section
variable{B:Aaj}{d:Nat}
noncomputable def Tm.setKid(t:Tm)(k:Nat)(v:Tm):Tm:=match t,k with
 | .un n _,0=>.un n v
 | .bi n _ r,0=>.bi n v r
 | .bi n l _,1=>.bi n l v
 | t,_=>t
noncomputable def Tm.put:Tm→List Nat→Tm→Tm
 | _,[],u=>u
 | .lf n,_::_,_=>.lf n
 | .un n k,0::p,u=>.un n (k.put p u)
 | .un n k,_::_,_=>.un n k
 | .bi n l r,0::p,u=>.bi n (l.put p u) r
 | .bi n l r,1::p,u=>.bi n l (r.put p u)
 | .bi n l r,_::_,_=>.bi n l r
noncomputable def Tm.has:Tm→List Nat→Bool
 | _,[]=>true
 | .lf _,_::_=>false
 | .un _ k,0::p=>k.has p
 | .un _ _,_::_=>false
 | .bi _ l _,0::p=>l.has p
 | .bi _ _ r,1::p=>r.has p
 | .bi _ _ _,_::_=>false
omit [Own] in
theorem Tm.has_kid{t:Tm}{k:Nat}{p:List Nat}(h:t.has (k::p)=true):∃ kid,t.kids[k]?=some kid∧kid.has p=true ∧
  ∀ u,(t.put (k::p) u).av=.tup (slc (.str t.hd.str::t.kids.map Tm.av) none (some (k+1))++[(kid.put p u).av]++slc (.str t.hd.str::t.kids.map Tm.av) (some (k+2)) none):=by
 cases t with
 | lf n=>exact absurd h Bool.false_ne_true
 | un n a=>
  match k,h with
  | 0,h=>exact⟨a,rfl,h,fun u=>rfl⟩
  | k+1,h=>exact absurd h Bool.false_ne_true
 | bi n a b=>
  match k,h with
  | 0,h=>exact⟨a,rfl,h,fun u=>rfl⟩
  | 1,h=>exact⟨b,rfl,h,fun u=>rfl⟩
  | k+2,h=>exact absurd h Bool.false_ne_true
theorem Ad7(P:Prg B):∀ (p:List Nat) (t u:Tm) (n:Nat),t.has p=true→p.length≤100→p.length<n→∀ {σ:AH} {Q:AV→AH→Prop},Q (t.put p u).av σ→AK B (d+n) (.ref (P.a 13)) [t.av,Aa4 p,u.av] σ Q
 | p,t,u,0,_,_,hn,_,_,_=>absurd hn (Nat.not_lt_zero _)
 | p,t,u,n+1,hh,hz,hn,σ,Q,q=>by
  have F:=P.fn 13 (by decide)
  refine Abm (d:=d+n) P.O F (names:=["t","path","u"]) (hb3 fun jj jj jj jj jj jj jj jj jj jj jj=>rfl) (by decide +kernel) fun qn L cd=>?_
  refine Aad (AbV (Aax rfl (Aaa (by rfl) (by rfl) (Aam (Aaf ⟨lnk rfl,?_⟩)))))
  have hke:∀ (p:List Nat),AaE 9 (Aa4 p)=true:=fun p=>by
   simp only[Aa4,Aca,List.all_eq_true,List.mem_map]
   rintro x ⟨k,_,rfl⟩;rfl
  refine AdX (hke p) (by rfl) (by cases p<;>rfl) ?_
  have e1:decide (AV.tup (p.map fun (k:Nat)=>AV.int k)=AV.tup [])=decide (p=[]):=by cases p<;>simp
  rw[e1]
  cases p with
  | nil=>
   refine Abh (by rfl) ?_
   exact Aad (Aal (Aaa (by rfl) (by rfl) (by cases t<;>exact q)))
  | cons k p=>
   refine AaV (by simp) ?_
   refine AaK (Aah ?_)
   obtain⟨kid,h1,h2,h3⟩:=Tm.has_kid hh
   have hk2:k<2:=by
    have:=(List.getElem?_eq_some_iff.mp h1).1
    cases t<;>simp[Tm.kids] at this<;>lia
   have hkl:(t.kids.map Tm.av).length≤2:=t.kav_le
   obtain⟨n',rfl⟩:∃ n',n=n'+1:=⟨n - 1,by simp at hn;exact(Nat.sub_add_cancel (Nat.le_trans (Nat.le_add_left 1 _) hn)).symm⟩
   refine Aad (Aak rfl rfl (e_g P.O (by rfl) P.g_part_at (P.keep 12 (by decide)) ?_))
   refine Aab rfl (Aaa (by rfl) (by rfl) (Aab rfl (AaL (Aaa (a:=Aa4 (k::p)) (by rfl) (by rfl) (Aaz (Aay (Aae ⟨1,rfl,AcN (by simp at hz ⊢;exact Nat.le_trans hz (lnk rfl)) ?_⟩)))))))
   refine Aaf ?_
   have e2:AV.tup (slc ((k::p).map fun (k:Nat)=>AV.int k) none (some 1))=.tup [.int k]:=by simp[slc]
   rw[e2]
   refine((AhQ (d:=d+n') P h1 ?_).ac)
   refine Aah ?_
   refine Aad (Aal (AaN (AaN (AaL (Aaa (by rfl) (by rfl) ?_)))))
   have hc:((k::p).map fun (k:Nat)=>AV.int k)[(0:Int).toNat]?=some (.int k):=by rfl
   have hpl:((k::p).map fun (k:Nat)=>AV.int k).length≤1000:=by simp at hz ⊢;exact Nat.le_trans hz (lnk rfl)
   have hL:(AV.str t.hd.str::t.kids.map Tm.av).length≤1000:=by simp at hkl ⊢;exact Nat.le_trans hkl (lnk rfl)
   rw[Tm.av_eq t]
   refine Aaz (Aay (AaN (AaF rfl (Aaa (a:=Aa4 (k::p)) (by rfl) (by rfl) (Aae (Abu (by decide) hpl hc (Aae (AdO ⟨k+1,by simp,AcN hL ?_⟩))))))))
   refine Aam (Aab rfl (e_g P.O (by rfl) P.g_replaced (P.keep 13 (by decide)) ?_))
   refine Aab rfl (Aaa (a:=kid.av) (by rfl) (by rfl) (Aab rfl (AaL (Aaa (a:=Aa4 (k::p)) (by rfl) (by rfl) (Aay (Aae ⟨1,rfl,Aaz (AcN hpl ?_)⟩))))))
   refine Aag (.loc (a:=u.av) (by rfl) (by rfl) .nil) ?_
   have e3:AV.tup (slc ((k::p).map fun (k:Nat)=>AV.int k) (some 1) none)=Aa4 p:=by simp[slc,Aa4]
   rw[e3]
   refine(Ad7 P p kid u (n'+1) h2 (by simp at hz;exact Nat.le_trans hz (lnk rfl)) (by simp at hn;exact hn) ?_).ac
   refine Aaf ⟨lnk rfl,?_⟩
   have hs1:∀ lo hi,(slc (AV.str t.hd.str::t.kids.map Tm.av) lo hi).length≤3:=fun lo hi=>Nat.le_trans (AgB ..) (Nat.succ_le_succ t.kav_le)
   refine AaW (by have:=hs1 none (some (k+1));simp;exact Nat.le_trans this (lnk rfl)) ?_
   refine AaL (Aaa (a:=.tup (.str t.hd.str::t.kids.map Tm.av)) (by rfl) (by rfl) ?_)
   refine Aay (AaN (AaF rfl (Aaa (a:=Aa4 (k::p)) (by rfl) (by rfl) (Aae (Abu (by decide) hpl hc (Aae (AdO ⟨k+2,by simp,Aaz (AcN hL ?_)⟩)))))))
   refine AaW (by have:=hs1 none (some (k+1));have:=hs1 (some (k+2)) none;simp;lia) ?_
   have:=h3 u
   rw[this] at q
   exact Aap (by exact q)
end
end Pq
namespace Pq
variable[Own]
noncomputable abbrev Tab:=List (Nm×Tm)
noncomputable def AeI(p:Nm×Tm):AV×AV:=(.str p.1.str,p.2.av)
omit [Own] in
theorem Ab9(l:Tab)(n:Nm):look (l.map AeI) (.str n.str)=(look l n).map Tm.av:=Afa (k:=fun n=>AV.str (Nm.str n)) (fun jj jj e=>Nm.inj (AV.str.inj e)) (fun jj=>rfl) l n
omit [Own] in
theorem Aeg(l:Tab)(n:Nm):KeyFit (l.map AeI) (.str n.str):=.inl ⟨rfl,fun kv h=>by obtain⟨p,_,rfl⟩:=List.mem_map.mp h;rfl⟩
noncomputable def Tm.fill(t:Tm)(l:Tab):Option Tm:=Tm.rec (fun n=>if n.isVar=true then look l n else some (.lf n)) (fun n jj a=>a.map (.un n)) (fun n jj jj a b=>a.bind fun a=>b.map (.bi n a)) t
noncomputable def fills(ks:List Tm)(l:Tab)(rs:List Tm):Prop:=ks.map (fun k=>k.fill l)=rs.map some
omit [Own] in
theorem Tm.fill_v{n:Nm}{l:Tab}(h:n.isVar=true):(Tm.lf n).fill l=look l n:=if_pos h
omit [Own] in
theorem Tm.fill_kids{t r:Tm}{l:Tab}(hv:t.isVar=false)(h:t.fill l=some r):∃ rs,fills t.kids l rs∧r.av=.tup (.str t.hd.str::rs.map Tm.av):=by
 cases t with
 | lf n=>
  cases Option.some.inj ((if_neg fun e=>Bool.false_ne_true (hv.symm.trans e)).symm.trans h)
  exact⟨[],rfl,rfl⟩
 | un n a=>
  obtain⟨a',h1,rfl⟩:=Option.map_eq_some_iff.mp h
  exact⟨[a'],congrArg (fun x=>[x]) h1,rfl⟩
 | bi n a b=>
  obtain⟨a',h1,h⟩:=Option.bind_eq_some_iff.mp h
  obtain⟨b',h2,rfl⟩:=Option.map_eq_some_iff.mp h
  exact⟨[a',b'],(congrArg (fun x=>[x,b.fill l]) h1).trans (congrArg (fun x=>[some a',x]) h2),rfl⟩
section
variable{B:Aaj}{d:Nat}
inductive R6b(σ:AH)(rs:List Tm)(l:Tab)(t:Tm)(xs:List AV)(ys:List AV)(σ':AH):Prop
 | mk (h1:Keep σ σ') (ks done rest:_) (h2:xs=ks.map Tm.av) (h3:ys=done.map Tm.av) (h4:done++rest=rs) (h5:fills ks l rest) (h6:∀ k∈ks,k∈t.kids)
noncomputable def v6a(t:Tm)(tb:Addr):Vars:=fV ["pattern","table"] [t.av,.obj tb]
theorem Aix(P:Prg B){tb:Addr}{l:Tab}:∀ (n:Nat) (t r:Tm),t.depth≤n→t.fill l=some r→∀ σ,σ tb=some (.dict (l.map AeI))→AK B (d+n+1) (.ref (P.a 10)) [t.av,.obj tb] σ (RetK σ r.av):=by
 intro n
 induction n with
 | zero=>exact fun t jj h jj jj jj=>absurd h (Nat.not_le_of_gt t.depth_pos)
 | succ n ih=>
  intro t r h hf σ htb
  have F:=P.fn 10 (by decide)
  refine Abm (d:=d+(n+1)) P.O F (names:=["pattern","table"]) (hb2 fun jj jj jj jj jj jj jj jj jj jj=>rfl) (by decide +kernel) fun qn L cd=>?_
  let E:=fE (AaB (Acl 10)) (P.a 10) qn L cd
  let V:=v6a t tb
  show AX B _ E V (execs _ E) _ _
  refine Aad ?_
  refine AbV ?_
  refine Ags ?_
  refine Aa9 rfl ?_
  refine e_g P.O (by rfl) P.g_is_variable (P.keep 8 (by decide)) ?_
  refine Aag (.loc (a:=t.av) (by rfl) (by rfl) .nil) ((AbB (d:=d+n) P t (AaU ?_)).ac)
  cases hv:t.isVar with
  | true=>
   refine AaV (by decide) ?_
   obtain⟨m,rfl⟩:∃ m,t=.lf m:=by cases t<;>first | exact⟨_,rfl⟩ | cases hv
   have hm:m.isVar=true:=hv
   rw[Tm.fill_v hm] at hf
   have hlk:look (l.map AeI) (.str m.str)=some r.av:=by rw[Ab9,hf];rfl
   refine AaK ?_
   refine Aah ?_
   refine Aad ?_
   refine AbV ?_
   refine Aax rfl ?_
   refine AaF rfl ?_
   refine Aaa (a:=.tup [.str m.str]) (by rfl) (by rfl) ?_
   refine Aae ?_
   refine Abu (a:=.str m.str) (by decide) (lnk rfl) (by rfl) ?_
   refine AaD (a:=.obj tb) (by rfl) (by rfl) ?_
   refine Adt htb (Aeg l m) ?_
   rw[hlk]
   refine AaV (by simp) ?_
   refine AaK ?_
   refine Aah ?_
   refine Aad ?_
   refine Aal ?_
   refine AaF rfl ?_
   refine AaD (a:=.obj tb) (by rfl) (by rfl) ?_
   refine AaF rfl ?_
   refine Aaa (a:=.tup [.str m.str]) (by rfl) (by rfl) ?_
   refine Aae ?_
   refine Abu (a:=.str m.str) (by decide) (lnk rfl) (by rfl) ?_
   refine Aci htb (Aeg l m) hlk ?_
   exact⟨rfl,Keep.refl σ⟩
  | false=>
   refine Abh (by rfl) ?_
   obtain⟨rs,hrs,hr⟩:=Tm.fill_kids hv hf
   have hkl:(t.kids.map Tm.av).length≤2:=t.kav_le
   have hL:(AV.str t.hd.str::t.kids.map Tm.av).length≤1000:=by simp at hkl ⊢;exact Nat.le_trans hkl (lnk rfl)
   have hrl:rs.length=t.kids.length:=by have:=congrArg List.length hrs;simpa using this.symm
   refine Aad ?_
   refine Aal ?_
   refine AaN ?_
   refine Aam ?_
   refine Aab rfl ?_
   refine AaF rfl ?_
   refine Aaa (a:=.tup (.str t.hd.str::t.kids.map Tm.av)) (by rfl) (by exact congrArg some (Tm.av_eq t)) ?_
   refine Aae ?_
   refine Abu (a:=.str t.hd.str) (by decide) hL (by rfl) ?_
   refine Aaf ⟨lnk rfl,?_⟩
   refine e_g P.O (by rfl) P.g_tuple rfl ?_
   refine Aab rfl ?_
   refine AaT rfl (cl:=[("table",L+1)]) ⟨by rfl,by rfl,by simp,by rfl,by decide,by rfl,by decide⟩ ?_
   refine AeV ?_
   refine AaL ?_
   refine Aaa (a:=.tup (.str t.hd.str::t.kids.map Tm.av)) (by rfl) (by exact congrArg some (Tm.av_eq t)) ?_
   refine Aay ?_
   refine Aae ⟨1,rfl,Aaz (AcN hL ?_)⟩
   have e1:slc (AV.str t.hd.str::t.kids.map Tm.av) (some 1) none=t.kids.map Tm.av:=by simp[slc]
   rw[e1]
   refine⟨_,rfl,by exact Nat.le_trans hkl (lnk rfl),?_⟩
   refine⟨(R6b σ rs l t),⟨Keep.refl σ,t.kids,[],rs,rfl,rfl,rfl,hrs,fun jj h=>h⟩,?_,?_⟩
   ·rintro C x xs ys σ' hsat ⟨hK,ks,done,rest,hx,rfl,hd,hfl,hks⟩
    obtain⟨k,ks⟩:=Abb hx
    cases rest with
    | nil=>cases hfl
    | cons r' rest=>
     replace hfl:=List.cons.inj hfl
     have hkd:k.depth≤n:=by
      have hm:=hks k (.head _)
      exact Tm.kid_d h hm
     refine AaY rfl ?_
     refine AcU ?_
     refine e_g P.O (by rfl) P.g_placed (P.keep 10 (by decide)) ?_
     refine Aag (.loc (a:=k.av) (by rfl) (by rfl) (.cell (a:=.obj tb) (by rfl) (by rfl) .nil)) ?_
     refine((ih k r' hkd hfl.1 σ' (hK _ _ htb)).ac).mono ?_
     rintro v σ₂ ⟨rfl,hK2⟩
     exact⟨(fun jj h=>nomatch h),hK.trans hK2,ks,done++[r'],rest,rfl,msn,asn hd,hfl.2,fun k' hk'=>hks k' (.tail _ hk')⟩
   ·rintro ys σ' hsat ⟨hK,ks,done,rest,hx,rfl,hd,hfl,hks⟩ hlen a ha
    obtain rfl:ks=[]:=Adk hx
    have hr0:rest=[]:=by cases rest with
     | nil=>rfl
     | cons k ks=>cases hfl
    subst hr0
    rw[List.append_nil] at hd
    subst hd
    refine Aaf ?_
    refine AdZ (Aac _ _ _) hlen ?_
    refine AaW (by simp at hkl hrl ⊢;exact ln2 (.e 1 0 (.v 0) (.v 1) (.c 1 (.v 1) (.n 2) (.g 0 (.a (.n 1) (.v 0)) (.n 1000)))) rfl hrl hkl) ?_
    exact Aap ⟨by rw[hr];rfl,hK.upd (.inl ha) _⟩
end
end Pq
namespace Pq
variable[Own]
noncomputable def Tm.vnames(t:Tm):List Nm:=(t.parts.filter fun p=>p.2.isVar).map fun p=>p.2.hd
section
variable{B:Aaj}{d:Nat}{σ:AH}
theorem AdC{env:Env}{vars:Vars}{c:Expr}{Q:Bool→AH→Prop}(h:AT B d env vars (isTrue c env (eval c env)) σ Q):CTests B d env vars [c] σ Q:=h
inductive R7b(σ₂:AH)(t:Tm)(xs:List AV)(ys:List AV)(σ'':AH):Prop
 | mk (h1:σ''=σ₂) (done todo:_) (h2:xs=todo.map Ab7) (h3:ys=((done.filter fun p:List Nat×Tm=>p.2.isVar).map fun p=>AV.str p.2.hd.str)) (h4:done++todo=t.parts)
noncomputable def v7a(t:Tm):Vars:=fV ["t"] [t.av]
theorem Abd(P:Prg B){t:Tm}{n:Nat}(hn:n≤100)(hd:t.depth≤n)(hz:t.parts.length≤50){out:List Str}(hout:∀ ks',ks'.Perm (Aby (t.vnames.map Nm.str))→Aa2 ks'=out):
  AK B (d+n+1) (.ref (P.a 9)) [t.av] σ (NewL σ (out.map .str)):=by
 have F:=P.fn 9 (by decide)
 have hd1:=t.depth_pos
 refine Abm (d:=d+n) P.O F (names:=["t"]) (hb1 fun jj jj jj jj jj jj jj jj jj=>rfl) (by decide +kernel) fun qn L cd=>?_
 let E:=fE (AaB (Acl 9)) (P.a 9) qn L cd
 let V:=v7a t
 show AX B _ E V (execs _ E) _ _
 refine Aad (Aal (AdA P.O (by rfl) P.g_sorted rfl (by rfl) P.g_set ?_))
 refine AaT rfl (cl:=[]) ⟨by rfl,by rfl,by simp,by rfl,by decide,by rfl,by decide⟩ ?_
 refine AaC ((e_g P.O (by rfl) P.g_parts (P.keep 11 (by decide)) (Aag (.loc (a:=t.av) (by rfl) (by rfl) .nil) (Ag9 (d:=d) P n t hn hd (by exact Nat.le_trans hz (lnk rfl)) σ).ac)).mono ?_)
 rintro v σ₂ ⟨b2,rfl,hb2,hK2,hl2⟩
 refine⟨b2,_,rfl,hl2,by rw[List.length_map];exact Nat.le_trans hz (lnk rfl),?_⟩
 refine⟨(R7b σ₂ t),⟨rfl,[],t.parts,rfl,rfl,rfl⟩,?_,?_⟩
 ·rintro C x xs ys σ'' hsat ⟨rfl,done,todo,hx,rfl,hdn⟩
  obtain⟨p,todo⟩:=Abb hx
  refine Ajk rfl rfl (AdC ?_)
  refine Aa9 rfl (e_g P.O (by rfl) P.g_is_variable (P.keep 8 (by decide)) (Aag (.loc (a:=p.2.av) (by rfl) (by rfl) .nil) (AC.less (AbB (d:=0) P p.2 (AaU ?_)).ac (ln3 (.c 1 (.v 0) (.v 1) (.c 1 (.n 1) (.v 0) (.g 0 (.a (.n 0) (.n 1)) (.b 2 1)))) rfl hd hd1))))
  cases hv:p.2.isVar with
  | false=>
   refine AaV (by simp) ?_
   exact⟨hsat,rfl,done++[p],todo,rfl,by simp[hv],by simp[← hdn]⟩
  | true=>
   refine Abh rfl ?_
   refine AaF rfl (Aaa (a:=p.2.av) (by rfl) (by rfl) (Aae ?_))
   rw[Tm.av_eq]
   refine Abu (a:=.str p.2.hd.str) (by decide) (by cases p.2<;>simp[Tm.kids]) (by rfl) ?_
   exact⟨hsat,rfl,done++[p],todo,rfl,by simp[hv],by simp[← hdn]⟩
 ·rintro ys σ'' hsat ⟨rfl,done,todo,hx,rfl,hdn⟩ hlen a ha
  obtain rfl:todo=[]:=Adk hx
  rw[List.append_nil] at hdn
  subst hdn
  refine⟨a,t.vnames.map Nm.str,rfl,by rw[Aac];simp[Tm.vnames],by have:=List.length_filter_le (fun p:List Nat×Tm=>p.2.isVar) t.parts;simp[Tm.vnames];exact Nat.le_trans this hz,out,hout,fun c hc=>?_⟩
  exact Aap ⟨c,rfl,(hK2.upd (.inl ha) _).none hc,(hK2.upd (.inl ha) _).upd (.inl hc) _,Aac _ _ _⟩
end
end Pq
namespace Pq
variable[Own]
noncomputable def Tm.size:Tm→Nat
 | .lf _=>1
 | .un _ k=>k.size+1
 | .bi _ l r=>l.size+r.size+1
noncomputable def wt(l:List (Tm×Tm)):Nat:=List.rec 0 (fun p jj n=>p.1.size+n) l
noncomputable def mStep(go:Tab→List (Tm×Tm)→Option Tab)(tab:Tab)(q:Tm×Tm)(st:List (Tm×Tm)):Option Tab:=
 if q.1.isVar=true then Option.casesOn (look tab q.1.hd) (go (tab++[(q.1.hd,q.2)]) st) fun t=>if t=q.2 then go tab st else none
 else if q.1.hd=q.2.hd∧q.1.kids.length=q.2.kids.length then go tab ((q.1.kids.zip q.2.kids).reverse++st) else none
noncomputable def Abe(f:Nat):Tab→List (Tm×Tm)→Option Tab:=Nat.rec (fun tab st=>List.casesOn st (some tab) fun jj jj=>none) (fun jj go tab st=>List.casesOn st (some tab) fun q st=>mStep go tab q st) f
section
omit [Own]
variable{f:Nat}{go:Tab→List (Tm×Tm)→Option Tab}{tab:Tab}{q u t:Tm}{st:List (Tm×Tm)}
theorem mStep_n(h:q.isVar=true)(k:look tab q.hd=some t):mStep go tab (q,u) st=if t=u then go tab st else none:=(if_pos h).trans (by rw[k])
theorem mStep_v(h:q.isVar=true)(k:look tab q.hd=none):mStep go tab (q,u) st=go (tab++[(q.hd,u)]) st:=(if_pos h).trans (by rw[k])
theorem matchS_n(h:q.isVar=true)(k:look tab q.hd=some t):Abe (f+1) tab ((q,u)::st)=if t=u then Abe f tab st else none:=mStep_n h k
theorem matchS_v(h:q.isVar=true)(k:look tab q.hd=none):Abe (f+1) tab ((q,u)::st)=Abe f (tab++[(q.hd,u)]) st:=mStep_v h k
theorem Ahh(h:q.isVar=false):Abe (f+1) tab ((q,u)::st)=if q.hd=u.hd∧q.kids.length=u.kids.length then Abe f tab ((q.kids.zip u.kids).reverse++st) else none:=if_neg fun e=>Bool.false_ne_true (h.symm.trans e)
end
noncomputable def Acf(p:Tm×Tm):AV:=.tup [p.1.av,p.2.av]
omit [Own] in
theorem zip_av(l m:List Tm):AdI (l.map Tm.av) (m.map Tm.av)=(l.zip m).map Acf:=by
 induction l generalizing m with
 | nil=>rfl
 | cons x l ih=>
  cases m with
  | nil=>rfl
  | cons y m=>exact congrArg (Acf (x,y)::·) (ih m)
omit [Own] in
theorem Aiv(l:Tab)(n:Nm)(t:Tm)(h:look l n=none):put (l.map AeI) (.str n.str) t.av=(l++[(n,t)]).map AeI:=by
 rw[Ab6 (by rw[Ab9,h];rfl),List.map_append];rfl
section
variable{B:Aaj}{d:Nat}{σ:AH}{C:Bool→AH→Prop}
theorem Tm.key{t:Tm}(h:t.depth≤8):AaE 9 t.av=true:=AeJ 8 (AcC 8 (Tm.ok h)) (by exact lnk rfl)
theorem Tm.compats{s t:Tm}(hs:s.depth≤8)(ht:t.depth≤8):Pq.compats (.str s.hd.str::s.kids.map Tm.av) (.str t.hd.str::t.kids.map Tm.av)=true:=by
 have:=AbE 8 8 (Tm.ok hs) (Tm.ok ht)
 rw[Tm.av_eq,Tm.av_eq,Afo] at this
 exact this
theorem AeT{s t:Tm}(hs:s.depth≤8)(ht:t.depth≤8)(q:C (!decide (s=t)) σ):Adl B d .NotEq s.av t.av σ C:=by
 have h1:=Tm.key hs
 have h2:=Tm.key ht
 have h3:=Tm.compats hs ht
 rw[Tm.av_eq] at h1 h2
 rw[Tm.av_eq s,Tm.av_eq t]
 refine c_ne_tup h1 h2 h3 ?_
 rw[← Tm.av_eq,← Tm.av_eq,decide_eq_decide.mpr (iff_of_eq (Tm.av_inj (s:=s) (t:=t)))]
 exact q
theorem Ajd{s t:Tm}(hs:s.depth≤8)(ht:t.depth≤8)(q:C (decide (s=t)) σ):Adl B d .Eq s.av t.av σ C:=by
 have h1:=Tm.key hs
 have h2:=Tm.key ht
 have h3:=Tm.compats hs ht
 rw[Tm.av_eq] at h1 h2
 rw[Tm.av_eq s,Tm.av_eq t]
 refine AdX h1 h2 h3 ?_
 rw[← Tm.av_eq,← Tm.av_eq,decide_eq_decide.mpr (iff_of_eq (Tm.av_inj (s:=s) (t:=t)))]
 exact q
end
omit [Own] in
theorem Tm.size_pos(t:Tm):1≤t.size:=by cases t<;>first | exact Nat.le_refl _ | exact Nat.succ_le_succ (Nat.zero_le _)
omit [Own] in
theorem wt_len(st:List (Tm×Tm)):st.length≤wt st:=by
 induction st with
 | nil=>exact Nat.le_refl _
 | cons p l ih=>exact Nat.le_trans (Nat.add_le_add ih p.1.size_pos) (Nat.le_of_eq (Nat.add_comm _ _))
omit [Own] in
theorem wt_app(s t:List (Tm×Tm)):wt (s++t)=wt s+wt t:=by
 induction s with
 | nil=>exact(Nat.zero_add _).symm
 | cons p l ih=>exact(congrArg (p.1.size+·) ih).trans (Nat.add_assoc _ _ _).symm
omit [Own] in
theorem wt_rev(s:List (Tm×Tm)):wt s.reverse=wt s:=by
 induction s with
 | nil=>rfl
 | cons p l ih=>rw[List.reverse_cons,wt_app,ih];exact Nat.add_comm _ _
omit [Own] in
theorem Aif{q u:Tm}:wt (q.kids.zip u.kids)+1≤q.size:=by
 cases q with
 | lf n=>exact Nat.le_refl _
 | un n a=>cases u<;>first | exact Nat.succ_le_succ (Nat.zero_le _) | exact Nat.le_refl _
 | bi n a b=>cases u<;>first | exact Nat.succ_le_succ (Nat.zero_le _) | exact Nat.succ_le_succ (Nat.le_add_right ..) | exact Nat.le_refl _
omit [Own] in
theorem Tm.kid_depth{t k:Tm}(h:k∈t.kids):k.depth<t.depth:=Nat.lt_of_succ_le (by
 cases t with
 | lf _=>cases h
 | un _ a=>rw[List.mem_singleton.mp h];exact Nat.le_refl _
 | bi _ a b=>
  rcases List.mem_cons.mp h with rfl | h
  ·exact Nat.succ_le_succ (Nat.le_max_left ..)
  ·rw[List.mem_singleton.mp h];exact Nat.succ_le_succ (Nat.le_max_right ..))
end Pq
namespace Pq
variable[Own]
noncomputable def MOut(σ:AH)(o:Option Tab)(v:AV)(σ':AH):Prop:=Keep σ σ'∧Option.casesOn o (v=.none) fun tab=>∃ b,v=.obj b∧σ b=none∧σ' b=some (.dict (tab.map AeI))
section
variable{B:Aaj}{d:Nat}{σ:AH}
inductive R9a(tb:Addr)(wb:Addr)(σ:AH)(p:Tm)(t:Tm)(f:Nat)(vars:Vars)(σ':AH):Prop
 | mk (tab st:_) (h1:vars "table"=some (.obj tb)) (h2:vars "waiting"=some (.obj wb)) (h3:Keep σ σ') (h4:σ' tb=some (.dict (tab.map AeI))) (h5:σ' wb=some (.list (st.reverse.map Acf))) (h6:wt st≤f) (h7:tab.length+f≤p.size) (h8:(∀ x∈st,x.2.depth≤8)) (h9:(∀ x∈tab,x.2.depth≤8)) (h10:Abe f tab st=Abe p.size [] [(p,t)])
theorem AhV(P:Prg B){p t:Tm}(hz:p.size≤50)(hdt:t.depth≤8):AK B (d+2) (.ref (P.a 14)) [p.av,t.av] σ (MOut σ (Abe p.size [] [(p,t)])):=by
 have F:=P.fn 14 (by decide)
 refine Abm (d:=d+1) P.O F (names:=["pattern","t"]) (hb2 fun jj jj jj jj jj jj jj jj jj jj=>rfl) (by decide +kernel) fun qn L cd=>?_
 refine Aad ?_
 refine AbA rfl rfl (names:=["table","waiting"]) ?_
 refine Aam ?_
 refine Aab rfl ?_
 refine Afm fun tb htb=>?_
 refine Aab rfl ?_
 refine AaI ?_
 refine Aab rfl ?_
 refine Aam ?_
 refine Aag (.loc (a:=p.av) (by rfl) (by rfl) (.loc (a:=t.av) (by rfl) (by rfl) .nil)) ⟨lnk rfl,?_⟩
 refine Aaf ⟨lnk rfl,fun wb hwb=>Aaf ⟨lnk rfl,_,rfl,rfl,?_⟩⟩
 refine Aar ?_
 refine AdH rfl ?_
 refine Aar ?_
 refine AdH rfl ?_
 refine AbO ?_
 have hne:tb≠wb:=ne1 (Aac _ _ _) hwb
 have hwb0:σ wb=none:=by rw[Aai _ _ (Ne.symm hne)] at hwb;exact hwb
 refine Aah ?_;refine AcA ?_;intro V
 refine Aad ?_
 refine AeY ((R9a tb wb σ p t)) p.size ?_ ?_
 ·refine⟨[],[(p,t)],by rfl,by rfl,?_,?_,by rw[Aac];rfl,Nat.le_refl _,by simp,?_,(fun jj h=>nomatch h),rfl⟩
  ·exact((Keep.refl σ).upd (.inl htb) _).upd (.inr hwb0) _
  ·rw[Aai _ _ hne,Aac];rfl
  ·intro x hx;simp at hx;subst hx;exact hdt
 ·rintro f vars σ' ⟨tab,st,h1,h2,hK,ht,hw,hwt,htl,hds,hdb,hm⟩
  have hst:st.length≤f:=Nat.le_trans (wt_len st) hwt
  refine Aax rfl ?_
  refine e_g P.O (by rfl) P.g_len rfl ?_
  refine Aag (.loc (by rfl) h2 .nil) ?_
  refine Abo hw ?_ (Aae (AbD ?_))
  ·rw[List.length_map,List.length_reverse];exact ln4 (.c 1 (.v 0) (.n 50) (.c 1 (.b 1 2) (.v 0) (.c 1 (.v 3) (.v 2) (.g 0 (.v 3) (.n 1000))))) rfl hz htl hst
  ·cases st with
   | nil=>
    refine AaV (by decide) ?_
    refine Aah ?_;refine AcA ?_;intro V
    refine Aad ?_
    refine Aal ?_
    refine Aaa (by rfl) h1 ?_
    refine Aap ⟨hK,?_⟩
    rw[← hm]
    have:Abe f tab []=some tab:=by cases f<;>rfl
    rw[this]
    exact⟨tb,rfl,htb,ht⟩
   | cons qu st=>
    obtain⟨q,u⟩:=qu
    refine Abh (by simp) ?_
    have hw':σ' wb=some (.list (st.reverse.map Acf++[Acf (q,u)])):=by rw[hw];simp
    obtain⟨f,rfl⟩:∃ g,f=g+1:=⟨f - 1,by simp at hst;exact(Nat.sub_add_cancel (Nat.le_trans (Nat.le_add_left 1 _) hst)).symm⟩
    have hud:u.depth≤8:=hds (q,u) (.head _)
    have hds':∀ x∈st,x.2.depth≤8:=fun x hx=>hds x (.tail _ hx)
    refine Aad ?_
    refine AaS rfl rfl ?_
    refine e_meth0 P.O rfl rfl ?_
    refine Aaa (by rfl) h2 ⟨_,pm_pop hw',rfl,rfl,ac_pop hw' (by simp at hst ⊢;exact ln4 (.c 1 (.v 0) (.n 50) (.c 1 (.a (.v 1) (.p 2 1)) (.v 0) (.c 1 (.v 3) (.v 2) (.g 0 (.v 3) (.n 900))))) rfl hz htl hst) ?_⟩
    refine a_n2 rfl rfl ?_
    refine Aah ?_;refine AcA ?_;intro V
    have hK1:Keep σ (upd σ' wb (.list (st.reverse.map Acf))):=hK.upd (.inr hwb0) _
    have ht1:upd σ' wb (.list (st.reverse.map Acf)) tb=some (.dict (tab.map AeI)):=by rw[Aai _ _ hne];exact ht
    have hw1:upd σ' wb (.list (st.reverse.map Acf)) wb=some (.list (st.reverse.map Acf)):=Aac _ _ _
    generalize upd σ' wb (.list (st.reverse.map Acf))=σ₁ at hK1 ht1 hw1
    have hws:wt st+q.size≤f+1:=Nat.le_trans (Nat.le_of_eq (Nat.add_comm ..)) hwt
    have hq1:=q.size_pos
    have hL:∀ z:Tm,(AV.str z.hd.str::z.kids.map Tm.av).length≤1000:=fun z=>z.av_k
    refine Aad ?_
    refine AbV ?_
    refine Aa9 rfl ?_
    refine e_g P.O (by rfl) P.g_is_variable (P.keep 8 (by decide)) ?_
    refine Aag (.loc (a:=q.av) (by rfl) (by rfl) .nil) ((AbB (d:=d) P q (AaU ?_)).ac)
    cases hv:q.isVar with
    | true=>
     refine Abh rfl ?_
     have hav:q.av=.tup [.str q.hd.str]:=by cases q<;>first | rfl | cases hv
     have go:∀ (t':Tm) (σ₂:AH) (env:Env) (vars':Vars) (Q:Bool→AH→Prop),t'.depth≤8→Q (!decide (t'=u)) σ₂→Adl B (d+1) .NotEq t'.av u.av σ₂ Q:=fun t' σ₂ env vars' Q hd' hq=>AeT hd' hud hq
     refine Aad ?_
     refine AbV ?_
     refine Aax rfl ?_
     refine AaM P.O rfl rfl ?_
     refine Aaa (by rfl) (by exact h1) ?_
     refine⟨_,Ac4 ht1,rfl,rfl,?_⟩
     refine Aab rfl ?_
     refine AaF rfl ?_
     refine Aaa (a:=q.av) (by rfl) (by rfl) ?_
     refine Aae ?_
     rw[hav]
     refine Abu (a:=.str q.hd.str) (by decide) (by simp) (by rfl) ?_
     refine Aag (.loc (a:=u.av) (by rfl) (by rfl) .nil) ?_
     refine Adi ht1 (Aeg tab q.hd) (lml (ln3 (.c 1 (.v 0) (.n 50) (.c 1 (.a (.v 1) (.p 2 1)) (.v 0) (.g 0 (.v 1) (.n 1000)))) rfl hz htl)) ?_ ?_
     ·intro c hc
      rw[Ab9] at hc
      cases hg:look tab q.hd with
      | none=>rw[hg] at hc;cases hc
      | some t'=>
       rw[hg] at hc;cases hc
       refine Aaa (a:=u.av) (by rfl) (by rfl) ?_
       refine AeT (hdb _ (Ac9 hg)) hud ?_
       have hm':Abe (f+1) tab ((q,u)::st)=if t'=u then Abe f tab st else none:=matchS_n hv hg
       by_cases e:t'=u
       ·refine AaV (by simp[e]) ?_
        rw[if_pos e] at hm'
        refine AaK ?_
        refine Aaq ?_
        exact Aaq ⟨f,by exact Nat.le_refl _,tab,st,h1,h2,hK1,ht1,hw1,ln3 (.c 1 (.b 0 1) (.p 2 1) (.c 1 (.n 1) (.v 1) (.g 0 (.v 0) (.v 2)))) rfl hws hq1,ln3 (.c 1 (.a (.v 0) (.p 1 1)) (.v 2) (.g 0 (.b 0 1) (.v 2))) rfl htl,hds',hdb,hm'▸hm⟩
       ·refine Abh (by simp[e]) ?_
        rw[if_neg e] at hm'
        refine Aad ?_
        refine Aal ?_
        refine Aat ?_
        refine Aap ?_
        refine Aap ?_
        refine Aap ⟨hK1,?_⟩
        rw[← hm,hm']
     ·intro hc
      rw[Ab9] at hc
      cases hg:look tab q.hd with
      | some t'=>rw[hg] at hc;cases hc
      | none=>
       refine Aaa (a:=u.av) (by rfl) (by rfl) ?_
       refine AeT hud hud ?_
       have hm':Abe (f+1) tab ((q,u)::st)=Abe f (tab++[(q.hd,u)]) st:=matchS_v hv hg
       refine AaV (by simp) ?_
       rw[Aiv _ _ _ hg]
       refine AaK ?_
       refine Aaq ?_
       refine Aaq ⟨f,by exact Nat.le_refl _,tab++[(q.hd,u)],st,h1,h2,hK1.upd (.inr htb) _,Aac _ _ _,by rw[Aai _ _ (Ne.symm hne)];exact hw1,ln3 (.c 1 (.b 0 1) (.p 2 1) (.c 1 (.n 1) (.v 1) (.g 0 (.v 0) (.v 2)))) rfl hws hq1,by simp;exact ln3 (.c 1 (.a (.v 0) (.p 1 1)) (.v 2) (.g 0 (.a (.p 0 1) (.v 1)) (.v 2))) rfl htl,hds',?_,hm'▸hm⟩
       intro x hx
       rcases List.mem_append.mp hx with hx | hx
       ·exact hdb x hx
       ·simp at hx;subst hx;exact hud
    | false=>
     refine AaV (by decide) ?_
     refine Aad ?_
     refine AbV ?_
     refine Ad2 ?_
     refine Aax rfl ?_
     refine AaF rfl ?_
     refine Aaa (a:=.tup (.str q.hd.str::q.kids.map Tm.av)) (by rfl) (by exact congrArg some (Tm.av_eq q)) ?_
     refine Aae ?_
     refine Abu (a:=.str q.hd.str) (by decide) (hL q) (by rfl) ?_
     refine AaF rfl ?_
     refine Aaa (a:=.tup (.str u.hd.str::u.kids.map Tm.av)) (by rfl) (by exact congrArg some (Tm.av_eq u)) ?_
     refine Aae ?_
     refine Abu (a:=.str u.hd.str) (by decide) (hL u) (by rfl) ?_
     refine Afq ?_
     have hm0:Abe (f+1) tab ((q,u)::st)=if q.hd=u.hd∧q.kids.length=u.kids.length then Abe f tab ((q.kids.zip u.kids).reverse++st) else none:=Ahh hv
     have out:¬ (q.hd=u.hd∧q.kids.length=u.kids.length)→MOut σ (Abe p.size [] [(p,t)]) .none σ₁:=fun hn=>by
      rw[if_neg hn] at hm0
      refine⟨hK1,?_⟩
      rw[← hm,hm0]
     by_cases e1:q.hd=u.hd
     ·refine AiT (by rw[e1]) ?_
      refine Ad2 ?_
      refine Aax rfl ?_
      refine e_g P.O (by rfl) P.g_len rfl ?_
      refine Aag (.loc (a:=.tup (.str q.hd.str::q.kids.map Tm.av)) (by rfl) (by exact congrArg some (Tm.av_eq q)) .nil) ?_
      refine AgJ (hL q) ?_
      refine e_g P.O (by rfl) P.g_len rfl ?_
      refine Aag (.loc (a:=.tup (.str u.hd.str::u.kids.map Tm.av)) (by rfl) (by exact congrArg some (Tm.av_eq u)) .nil) ?_
      refine AgJ (hL u) ?_
      refine Afr ?_
      by_cases e2:q.kids.length=u.kids.length
      ·refine AiT (by simp[e2]) ?_
       refine Ad1 ?_
       refine AaV (by decide) ?_
       rw[if_pos ⟨e1,e2⟩] at hm0
       refine Aad ?_
       refine Ace rfl rfl ?_
       refine Af8 P.O rfl rfl rfl rfl (by rfl) P.g_zip ?_
       refine Aaa (by rfl) (by exact h2) ⟨wb,_,rfl,hw1,?_⟩
       refine AaL ?_
       refine Aaa (a:=.tup (.str q.hd.str::q.kids.map Tm.av)) (by rfl) (by exact congrArg some (Tm.av_eq q)) ?_
       refine Aay ?_
       refine Aae ⟨1,rfl,Aaz (AcN (hL q) ?_)⟩
       refine AaL ?_
       refine Aaa (a:=.tup (.str u.hd.str::u.kids.map Tm.av)) (by rfl) (by exact congrArg some (Tm.av_eq u)) ?_
       refine Aay ?_
       refine Aae ⟨1,rfl,Aaz (AcN (hL u) ?_)⟩
       have es:∀ z:Tm,slc (AV.str z.hd.str::z.kids.map Tm.av) (some 1) none=z.kids.map Tm.av:=fun z=>by simp[slc]
       rw[es,es]
       have hk2:q.kids.length≤2:=q.kids_le
       refine⟨_,_,_,hw1,rfl,rfl,by simp[e2],by simp at hst ⊢;exact ln5 (.c 1 (.v 0) (.n 50) (.c 1 (.a (.v 1) (.p 2 1)) (.v 0) (.c 1 (.v 3) (.n 2) (.c 1 (.v 4) (.v 2) (.g 0 (.b 4 3) (.n 1000)))))) rfl hz htl hk2 hst,?_⟩
       refine Aaq ?_
       refine Aaq ?_
       refine Aaq ?_
       refine⟨f,by exact Nat.le_refl _,tab,(q.kids.zip u.kids).reverse++st,h1,h2,hK1.upd (.inr hwb0) _,by rw[Aai _ _ hne];exact ht1,?_,?_,ln3 (.c 1 (.a (.v 0) (.p 1 1)) (.v 2) (.g 0 (.b 0 1) (.v 2))) rfl htl,?_,hdb,hm0▸hm⟩
       ·rw[Aac,zip_av];simp
       ·rw[wt_app,wt_rev];have:=Aif (q:=q) (u:=u);exact ln4 (.c 1 (.b 0 1) (.p 2 1) (.c 1 (.p 3 1) (.v 1) (.g 0 (.b 3 0) (.v 2)))) rfl hws this
       ·intro x hx
        rcases List.mem_append.mp hx with hx | hx
        ·have:=Tm.kid_depth (List.of_mem_zip (List.mem_reverse.mp hx)).2;exact Nat.le_of_lt (Nat.le_trans this hud)
        ·exact hds' x hx
      ·refine AiU (by simp;exact fun e=>e2 (Int.ofNat.inj e)) ?_
       refine Abh rfl ?_
       refine Aad ?_
       refine Aal ?_
       refine Aat ?_
       exact Aap (Aap (Aap (out fun h=>e2 h.2)))
     ·refine AiU (by rw[Nm.str_eq];exact e1) ?_
      refine Abh rfl ?_
      refine Aad ?_
      refine Aal ?_
      refine Aat ?_
      exact Aap (Aap (Aap (out fun h=>e1 h.1)))
end
end Pq
namespace Pq
inductive Sk where
 | turn | move | drop | told
 deriving DecidableEq
inductive Sd where
 | turn | move | drop | told1 | told2
 deriving DecidableEq
noncomputable def Sd.sk:Sd→Sk
 | .turn=>.turn | .move=>.move | .drop=>.drop | .told1=>.told | .told2=>.told
noncomputable def Sk.kind(k:Sk):Str:=Sk.casesOn k "rule" "rule" "rule" "told"
noncomputable def Sk.name:Sk→Str
 | .turn=>"turn" | .move=>"move" | .drop=>"drop" | .told=>"t"
theorem Sk.inj{m n:Sk}(e:m.name=n.name):m=n:=by
 revert e
 cases m<;>cases n<;>first | exact fun jj=>rfl | exact fun e=>absurd e (by decide)
noncomputable def Sd.left:Sd→Tm
 | .turn=>.bi .g (.lf .x) (.lf .y)
 | .move=>.bi .g (.bi .g (.lf .x) (.lf .y)) (.lf .z)
 | .drop=>.bi .h (.lf .x) (.lf .y)
 | .told1=>.lf .a
 | .told2=>.bi .g (.lf .a) (.lf .b)
noncomputable def Sd.right:Sd→Tm
 | .turn=>.bi .g (.lf .y) (.lf .x)
 | .move=>.bi .g (.lf .x) (.bi .g (.lf .y) (.lf .z))
 | .drop=>.lf .x
 | .told1=>.lf .b
 | .told2=>.bi .h (.lf .b) (.lf .c)
noncomputable def Sd.av(s:Sd):AV:=.tup [.str s.sk.kind,.str s.sk.name,s.left.av,s.right.av]
noncomputable def Sd.one(s:Sd)(b:Bool):Tm:=if b then s.right else s.left
noncomputable def Sd.other(s:Sd)(b:Bool):Tm:=if b then s.left else s.right
noncomputable def Sd.vs:Sd→List Str
 | .turn=>["?x","?y"] | .move=>["?x","?y","?z"] | .drop=>["?x","?y"] | .told1=>[] | .told2=>[]
noncomputable def Sd.vsR:Sd→List Str
 | .turn=>["?x","?y"] | .move=>["?x","?y","?z"] | .drop=>["?x"] | .told1=>[] | .told2=>[]
noncomputable def asB(n:Nm)(t:Tm):Option (Tm×Tm):=Tm.casesOn t (fun jj=>none) (fun jj jj=>none) fun m l r=>if m=n then some (l,r) else none
theorem asB_some{n:Nm}{t l r:Tm}(h:asB n t=some (l,r)):t=.bi n l r:=by
 cases t with
 | bi m a b=>
  by_cases e:m=n
  ·subst e;rw[show asB m (.bi m a b)=some (a,b) from if_pos rfl] at h;cases h;rfl
  ·rw[show asB n (.bi m a b)=none from if_neg e] at h;cases h
 | _=>cases h
noncomputable def Fit(p t:Tm):Prop:=p.hd=t.hd∧p.kids.length=t.kids.length
theorem AaH{n:Nm}{t p q:Tm}(h:asB n t=none):¬ Fit (.bi n p q) t:=by
 rintro⟨a,b⟩
 cases t with
 | bi m l r=>rw[show asB n (.bi m l r)=some (l,r) from if_pos a.symm] at h;cases h
 | lf m=>cases b
 | un m k=>cases b
theorem Ach{c:Nm}{t:Tm}(h:t≠.lf c):¬ Fit (.lf c) t:=by
 rintro⟨a,b⟩
 cases t with
 | lf n=>exact h (congrArg Tm.lf a.symm)
 | un m k=>cases b
 | bi m l r=>cases b
theorem mno{f:Nat}{tab:Tab}{p t:Tm}{st:List (Tm×Tm)}(v:p.isVar=false)(h:¬ Fit p t):Abe (f+1) tab ((p,t)::st)=none:=by
 rw[Ahh v];exact if_neg h
noncomputable def tn:Sd→Bool→Tm→Option (Tab×Tm)
 | .turn,false,t=>(asB .g t).map fun p=>([(.x,p.1),(.y,p.2)],.bi .g p.2 p.1)
 | .turn,true,t=>(asB .g t).map fun p=>([(.x,p.2),(.y,p.1)],.bi .g p.2 p.1)
 | .move,false,t=>(asB .g t).bind fun p=>(asB .g p.1).map fun q=>([(.x,q.1),(.y,q.2),(.z,p.2)],.bi .g q.1 (.bi .g q.2 p.2))
 | .move,true,t=>(asB .g t).bind fun p=>(asB .g p.2).map fun q=>([(.x,p.1),(.y,q.1),(.z,q.2)],.bi .g (.bi .g p.1 q.1) q.2)
 | .drop,false,t=>(asB .h t).map fun p=>([(.x,p.1),(.y,p.2)],p.1)
 | .drop,true,_=>none
 | .told1,false,t=>if t=.lf .a then some ([],.lf .b) else none
 | .told1,true,t=>if t=.lf .b then some ([],.lf .a) else none
 | .told2,false,t=>if t=.bi .g (.lf .a) (.lf .b) then some ([],.bi .h (.lf .b) (.lf .c)) else none
 | .told2,true,t=>if t=.bi .h (.lf .b) (.lf .c) then some ([],.bi .g (.lf .a) (.lf .b)) else none
theorem AcR{α β:Type}{f:α→β}{o:Option α}(h:o=none):o.map f=none:=by subst h;rfl
theorem Afu{α β:Type}{f:α→Option β}{o:Option α}(h:o=none):o.bind f=none:=by subst h;rfl
theorem AcK{α:Type}{c:Prop}[Decidable c]{a b:α}(h:(if c then some a else none)=some b):c∧a=b:=by
 by_cases q:c
 ·rw[if_pos q] at h;exact⟨q,Option.some.inj h⟩
 ·rw[if_neg q] at h;cases h
theorem Ac8{α β:Type}{f:α→β}{o:Option α}{b:β}(h:o.map f=some b):∃ a,o=some a∧f a=b:=Option.map_eq_some_iff.mp h
inductive TnC:Sd→Bool→Tm→Tab→Tm→Prop
 | turn (l r:Tm):TnC .turn false (.bi .g l r) [(.x,l),(.y,r)] (.bi .g r l)
 | turnB (l r:Tm):TnC .turn true (.bi .g l r) [(.x,r),(.y,l)] (.bi .g r l)
 | move (a b c:Tm):TnC .move false (.bi .g (.bi .g a b) c) [(.x,a),(.y,b),(.z,c)] (.bi .g a (.bi .g b c))
 | moveB (a b c:Tm):TnC .move true (.bi .g a (.bi .g b c)) [(.x,a),(.y,b),(.z,c)] (.bi .g (.bi .g a b) c)
 | drop (a b:Tm):TnC .drop false (.bi .h a b) [(.x,a),(.y,b)] a
 | told1:TnC .told1 false (.lf .a) [] (.lf .b)
 | told1B:TnC .told1 true (.lf .b) [] (.lf .a)
 | told2:TnC .told2 false (.bi .g (.lf .a) (.lf .b)) [] (.bi .h (.lf .b) (.lf .c))
 | told2B:TnC .told2 true (.bi .h (.lf .b) (.lf .c)) [] (.bi .g (.lf .a) (.lf .b))
theorem tn_c{s:Sd}{b:Bool}{t r:Tm}{pl:Tab}(h:tn s b t=some (pl,r)):TnC s b t pl r:=by
 cases s<;>cases b
 ·obtain⟨⟨l,m⟩,e,q⟩:=Ac8 h;cases q;cases asB_some e;exact .turn ..
 ·obtain⟨⟨l,m⟩,e,q⟩:=Ac8 h;cases q;cases asB_some e;exact .turnB ..
 ·obtain⟨⟨l,m⟩,e,q⟩:=Option.bind_eq_some_iff.mp h
  obtain⟨⟨a,b⟩,e2,q⟩:=Ac8 q
  cases q;cases asB_some e;cases asB_some e2;exact .move ..
 ·obtain⟨⟨l,m⟩,e,q⟩:=Option.bind_eq_some_iff.mp h
  obtain⟨⟨a,b⟩,e2,q⟩:=Ac8 q
  cases q;cases asB_some e;cases asB_some e2;exact .moveB ..
 ·obtain⟨⟨l,m⟩,e,q⟩:=Ac8 h;cases q;cases asB_some e;exact .drop ..
 ·cases h
 ·obtain⟨rfl,q⟩:=AcK h;cases q;exact .told1
 ·obtain⟨rfl,q⟩:=AcK h;cases q;exact .told1B
 ·obtain⟨rfl,q⟩:=AcK h;cases q;exact .told2
 ·obtain⟨rfl,q⟩:=AcK h;cases q;exact .told2B
noncomputable def AaZ(p:Nm×Tm):AV:=.tup [.str p.1.str,p.2.av]
noncomputable def TabOk(s:Sd)(b:Bool)(t:Tm)(tab:Tab):Prop:=
 tab.length≤3∧(∀ p∈tab,p.2.depth≤t.depth)∧((Aa2 (tab.map fun p=>p.1.str)=s.vs∧∃ pl r,(s.other b).fill tab=some r∧tn s b t=some (pl,r)∧AbF (tab.map fun p=>p.1.str) (tab.map AaZ)=pl.map AaZ) ∨
  (Aa2 (tab.map fun p=>p.1.str)≠s.vs∧tn s b t=none))
noncomputable def TnOk(s:Sd)(b:Bool)(t:Tm)(o:Option Tab):Prop:=Option.casesOn o (tn s b t=none) fun tab=>TabOk s b t tab
theorem i1:Aa0 (["?y","?x"]:List Str)=[1,0]:=by decide +kernel
theorem i2:Aa0 (["?x","?y"]:List Str)=[0,1]:=by decide +kernel
theorem i3:Aa0 (["?z","?y","?x"]:List Str)=[2,1,0]:=by decide +kernel
theorem i4:Aa0 (["?x","?y","?z"]:List Str)=[0,1,2]:=by decide +kernel
theorem i0:Aa0 ([]:List Str)=[]:=by decide +kernel
theorem i5:Aa0 (["?x"]:List Str)=[0]:=by decide +kernel
theorem Ac5{s:Sd}{b:Bool}{t:Tm}{tab:Tab}{pl:Tab}{r:Tm}{m:Option Tab}(e:m=some tab)(h1:tab.length≤3)(h2:∀ p∈tab,p.2.depth≤t.depth)(h3:Aa2 (tab.map fun p=>p.1.str)=s.vs)(h4:(s.other b).fill tab=some r)(h5:tn s b t=some (pl,r))
  (h6:AbF (tab.map fun p=>p.1.str) (tab.map AaZ)=pl.map AaZ):TnOk s b t m:=by
 subst e;exact⟨h1,h2,.inl ⟨h3,pl,r,h4,h5,h6⟩⟩
theorem Acs{s:Sd}{b:Bool}{t:Tm}{m:Option Tab}(e:m=none)(h:tn s b t=none):TnOk s b t m:=by subst e;exact h
theorem ss{ks:List Str}{is:List Nat}{out:List Str}(h:Aa0 ks=is)(h2:(is.map fun i=>ks.getD i default)=out):Aa2 ks=out:=by unfold Aa2;rw[h,h2]
theorem Afy{ks:List Str}{is:List Nat}{l out:List AV}(h:Aa0 ks=is)(h2:(is.map fun i=>l.getD i .none)=out):AbF ks l=out:=by unfold AbF;rw[h,h2]
theorem AaQ{t:Tm}:∀ p∈([]:Tab),p.2.depth≤t.depth:=fun jj h=>nomatch h
theorem Aau{t u:Tm}{n:Nm}{l:Tab}(h:u.depth≤t.depth)(k:∀ p∈l,p.2.depth≤t.depth):∀ p∈(n,u)::l,p.2.depth≤t.depth:=List.forall_mem_cons.mpr ⟨h,k⟩
theorem dl(n:Nm)(l r:Tm):l.depth≤(Tm.bi n l r).depth:=Nat.le_succ_of_le (Nat.le_max_left ..)
theorem dr(n:Nm)(l r:Tm):r.depth≤(Tm.bi n l r).depth:=Nat.le_succ_of_le (Nat.le_max_right ..)
theorem Aht{tab:Tab}{t:Tm}(e:tab=[(.x,t)]):TnOk .drop true t (some tab):=by
 subst e
 refine⟨Nat.le_of_ble_eq_true rfl,Aau (Nat.le_refl _) AaQ,.inr ⟨?_,rfl⟩⟩
 show Aa2 (["?x"]:List Str)≠_
 rw[ss (out:=["?x"]) i5 rfl];decide
theorem tn_match(s:Sd)(b:Bool)(t:Tm):TnOk s b t (Abe (s.one b).size [] [(s.one b,t)]):=by
 cases s<;>cases b
 ·cases e:asB .g t with
  | none=>exact Acs (mno rfl (AaH e)) (AcR e)
  | some p=>cases asB_some e;exact Ac5 (tab:=[(.y,p.2),(.x,p.1)]) rfl (Nat.le_of_ble_eq_true rfl) (Aau (dr ..) (Aau (dl ..) AaQ)) (ss i1 rfl) rfl rfl (Afy i1 rfl)
 ·cases e:asB .g t with
  | none=>exact Acs (mno rfl (AaH e)) (AcR e)
  | some p=>cases asB_some e;exact Ac5 (tab:=[(.x,p.2),(.y,p.1)]) rfl (Nat.le_of_ble_eq_true rfl) (Aau (dr ..) (Aau (dl ..) AaQ)) (ss i2 rfl) rfl rfl (Afy i2 rfl)
 ·cases e:asB .g t with
  | none=>exact Acs (mno rfl (AaH e)) (Afu e)
  | some p=>
   obtain⟨l,r⟩:=p
   cases asB_some e
   cases e2:asB .g l with
   | none=>exact Acs (mno (f:=2) (tab:=[(.z,r)]) (p:=.bi .g (.lf .x) (.lf .y)) (t:=l) (st:=[]) rfl (AaH e2)) (AcR e2)
   | some q=>cases asB_some e2;exact Ac5 (tab:=[(.z,r),(.y,q.2),(.x,q.1)]) rfl (Nat.le_of_ble_eq_true rfl) (Aau (dr ..) (Aau (Nat.le_trans (dr ..) (dl ..)) (Aau (Nat.le_trans (dl ..) (dl ..)) AaQ))) (ss i3 rfl) rfl rfl (Afy i3 rfl)
 ·cases e:asB .g t with
  | none=>exact Acs (mno rfl (AaH e)) (Afu e)
  | some p=>
   obtain⟨l,r⟩:=p
   cases asB_some e
   cases e2:asB .g r with
   | none=>exact Acs (mno (f:=3) (tab:=[]) (p:=.bi .g (.lf .y) (.lf .z)) (t:=r) (st:=[(.lf .x,l)]) rfl (AaH e2)) (AcR e2)
   | some q=>cases asB_some e2;exact Ac5 (tab:=[(.z,q.2),(.y,q.1),(.x,l)]) rfl (Nat.le_of_ble_eq_true rfl) (Aau (Nat.le_trans (dr ..) (dr ..)) (Aau (Nat.le_trans (dl ..) (dr ..)) (Aau (dl ..) AaQ))) (ss i3 rfl) rfl rfl (Afy i3 rfl)
 ·cases e:asB .h t with
  | none=>exact Acs (mno rfl (AaH e)) (AcR e)
  | some p=>cases asB_some e;exact Ac5 (tab:=[(.y,p.2),(.x,p.1)]) rfl (Nat.le_of_ble_eq_true rfl) (Aau (dr ..) (Aau (dl ..) AaQ)) (ss i1 rfl) rfl rfl (Afy i1 rfl)
 ·exact Aht rfl
 ·by_cases e:t=.lf .a
  ·subst e;exact Ac5 (tab:=[]) rfl (by decide) AaQ (ss i0 rfl) rfl rfl (Afy i0 rfl)
  ·exact Acs (mno rfl (Ach e)) (if_neg e)
 ·by_cases e:t=.lf .b
  ·subst e;exact Ac5 (tab:=[]) rfl (by decide) AaQ (ss i0 rfl) rfl rfl (Afy i0 rfl)
  ·exact Acs (mno rfl (Ach e)) (if_neg e)
 ·by_cases e:t=.bi .g (.lf .a) (.lf .b)
  ·subst e;exact Ac5 (tab:=[]) rfl (by decide) AaQ (ss i0 rfl) rfl rfl (Afy i0 rfl)
  ·refine Acs ?_ (if_neg e)
   cases e1:asB .g t with
   | none=>exact mno rfl (AaH e1)
   | some p=>
    obtain⟨l,r⟩:=p
    cases asB_some e1
    by_cases e2:r=.lf .b
    ·subst e2;exact mno (f:=0) (tab:=[]) (p:=.lf .a) (t:=l) (st:=[]) rfl (Ach fun q=>e (by rw[q]))
    ·exact mno (f:=1) (tab:=[]) (p:=.lf .b) (t:=r) (st:=[(.lf .a,l)]) rfl (Ach e2)
 ·by_cases e:t=.bi .h (.lf .b) (.lf .c)
  ·subst e;exact Ac5 (tab:=[]) rfl (by decide) AaQ (ss i0 rfl) rfl rfl (Afy i0 rfl)
  ·refine Acs ?_ (if_neg e)
   cases e1:asB .h t with
   | none=>exact mno rfl (AaH e1)
   | some p=>
    obtain⟨l,r⟩:=p
    cases asB_some e1
    by_cases e2:r=.lf .c
    ·subst e2;exact mno (f:=0) (tab:=[]) (p:=.lf .b) (t:=l) (st:=[]) rfl (Ach fun q=>e (by rw[q]))
    ·exact mno (f:=1) (tab:=[]) (p:=.lf .c) (t:=r) (st:=[(.lf .b,l)]) rfl (Ach e2)
end Pq
namespace Pq
theorem perm2{α:Type}{l:List α}{a b:α}(h:l.Perm [a,b]):l=[a,b]∨l=[b,a]:=by
 obtain⟨x,l,rfl,hl⟩:=vs_s h.length_eq
 obtain⟨y,rfl⟩:=List.length_eq_one_iff.mp hl
 ·have hx:x∈[a,b]:=h.mem_iff.mp (.head _)
  rcases List.mem_cons.mp hx with rfl | hx
  ·have:=List.perm_singleton.mp (List.Perm.cons_inv h)
   simp at this;left;rw[this]
  ·rw[List.mem_singleton] at hx;subst hx
   have h2:[x,y].Perm [x,a]:=h.trans (.swap ..)
   have:=List.perm_singleton.mp (List.Perm.cons_inv h2)
   simp at this;right;rw[this]
theorem perm3{α:Type}{l:List α}{a b c:α}(h:l.Perm [a,b,c]):l=[a,b,c]∨l=[a,c,b]∨l=[b,a,c]∨l=[b,c,a]∨l=[c,a,b]∨l=[c,b,a]:=by
 cases l with
 | nil=>exact absurd h.length_eq (by simp)
 | cons x l=>
  have hx:x∈[a,b,c]:=h.mem_iff.mp (.head _)
  simp only[List.mem_cons,List.not_mem_nil,or_false] at hx
  rcases hx with rfl | rfl | rfl
  ·rcases perm2 (List.Perm.cons_inv h) with rfl | rfl
   ·exact .inl rfl
   ·exact .inr (.inl rfl)
  ·have h2:(x::l).Perm [x,a,c]:=h.trans (.swap ..)
   rcases perm2 (List.Perm.cons_inv h2) with rfl | rfl
   ·exact .inr (.inr (.inl rfl))
   ·exact .inr (.inr (.inr (.inl rfl)))
  ·have h2:(x::l).Perm [x,a,b]:=h.trans ((List.Perm.cons _ (.swap ..)).trans (.swap ..))
   rcases perm2 (List.Perm.cons_inv h2) with rfl | rfl
   ·exact .inr (.inr (.inr (.inr (.inl rfl))))
   ·exact .inr (.inr (.inr (.inr (.inr rfl))))
theorem srt2{x y:Str}{out:List Str}(h1:Aa2 [x,y]=out)(h2:Aa2 [y,x]=out):∀ ks:List Str,ks.Perm [x,y]→Aa2 ks=out:=fun ks h=>by
 rcases perm2 h with rfl | rfl<;>assumption
theorem Sd.vs_ok(s:Sd):∀ ks',ks'.Perm (Aby (s.left.vnames.map Nm.str))→Aa2 ks'=s.vs:=by
 have h2:∀ ks',ks'.Perm (["?x","?y"]:List Str)→Aa2 ks'=(["?x","?y"]:List Str):=srt2 (by decide +kernel) (by decide +kernel)
 have h3:∀ ks',ks'.Perm (["?x","?y","?z"]:List Str)→Aa2 ks'=(["?x","?y","?z"]:List Str):=fun ks h=>by
  rcases perm3 h with rfl | rfl | rfl | rfl | rfl | rfl<;>decide +kernel
 have h0:∀ ks',ks'.Perm ([]:List Str)→Aa2 ks'=([]:List Str):=fun ks h=>by
  rw[List.perm_nil.mp h];decide +kernel
 cases s
 ·exact h2
 ·exact h3
 ·exact h2
 ·exact h0
 ·exact h0
theorem Sd.vsR_ok(s:Sd):∀ ks',ks'.Perm (Aby (s.right.vnames.map Nm.str))→Aa2 ks'=s.vsR:=by
 have h2:∀ ks',ks'.Perm (["?y","?x"]:List Str)→Aa2 ks'=(["?x","?y"]:List Str):=srt2 (by decide +kernel) (by decide +kernel)
 have h3:∀ ks',ks'.Perm (["?x","?y","?z"]:List Str)→Aa2 ks'=(["?x","?y","?z"]:List Str):=fun ks h=>by
  rcases perm3 h with rfl | rfl | rfl | rfl | rfl | rfl<;>decide +kernel
 have h0:∀ ks',ks'.Perm ([]:List Str)→Aa2 ks'=([]:List Str):=fun ks h=>by
  rw[List.perm_nil.mp h];decide +kernel
 have h1:∀ ks',ks'.Perm (["?x"]:List Str)→Aa2 ks'=(["?x"]:List Str):=fun ks h=>by
  rw[List.perm_singleton.mp h];decide +kernel
 cases s
 ·exact h2
 ·exact h3
 ·exact h1
 ·exact h0
 ·exact h0
structure Turn where
 sk:Sk
 places:Tab
 back:Bool
 late:Tm
 deriving DecidableEq
noncomputable def Turn.av(u:Turn):AV:=.tup [.str u.sk.kind,.str u.sk.name,.tup (u.places.map AaZ),.bool u.back,u.late.av]
noncomputable def turnB(s:Sd)(t:Tm)(b:Bool):List Turn:=Option.casesOn (tn s b t) [] fun p=>[⟨s.sk,p.1,b,p.2⟩]
noncomputable def Aa8(sds:List Sd)(t:Tm):List Turn:=sds.flatMap fun s=>turnB s t false++turnB s t true
theorem Ae0{s:Sd}{t:Tm}{b:Bool}(h:tn s b t=none):turnB s t b=[]:=by unfold turnB;rw[h]
theorem AeZ{s:Sd}{t:Tm}{b:Bool}{p:Tab×Tm}(h:tn s b t=some p):turnB s t b=[⟨s.sk,p.1,b,p.2⟩]:=by unfold turnB;rw[h]
theorem Ac1(s:Sd)(t:Tm)(b:Bool):(turnB s t b).length≤1:=by
 cases h:tn s b t with
 | none=>rw[Ae0 h];exact Nat.zero_le _
 | some p=>rw[AeZ h];exact Nat.le_refl _
theorem Ahi{α β:Type}{f:α→β}{l m:List α}{a:α}:(l++(m++[a])).map f=(l++m).map f++[f a]:=by rw[← List.append_assoc,List.map_append];rfl
theorem Ahr{α β:Type}{f:α→List β}(h:∀ a,(f a).length≤1)(l:List α):(l.flatMap f).length≤l.length:=by
 induction l with
 | nil=>exact Nat.le_refl _
 | cons a l ih=>exact Nat.le_trans (Nat.le_of_eq List.length_append) (Nat.le_trans (Nat.add_le_add (h a) ih) (Nat.le_of_eq (Nat.add_comm ..)))
theorem Ac0(sds:List Sd)(t:Tm):(Aa8 sds t).length≤2 * sds.length:=by
 induction sds with
 | nil=>exact Nat.le_refl _
 | cons s l ih=>exact Nat.le_trans (Nat.le_of_eq (List.length_append.trans (congrArg (·+_) List.length_append))) (Nat.le_trans (Nat.add_le_add (Nat.add_le_add (Ac1 ..) (Ac1 ..)) ih) (Nat.le_of_eq (Nat.add_comm ..)))
variable[Own]
inductive IsSeeker{B:Aaj}(P:Prg B)(σ:AH)(x:Addr)(sds:List Sd)(gb:Bool):Prop
 | mk (dx sb:Addr) (h1:σ x=some (.inst (P.a 16) dx)) (h2:σ dx=some (.attrs [("sides",.obj sb),("goes_back",.bool gb)])) (h3:σ sb=some (.list (sds.map Sd.av)))
theorem IsSeeker.keep{B:Aaj}{P:Prg B}{σ σ':AH}{x:Addr}{sds:List Sd}{gb:Bool}(h:IsSeeker P σ x sds gb)(k:Keep σ σ'):IsSeeker P σ' x sds gb:=by
 obtain⟨dx,sb,h1,h2,h3⟩:=h
 exact⟨dx,sb,k _ _ h1,k _ _ h2,k _ _ h3⟩
end Pq
namespace Pq
variable[Own]
section
omit [Own]
theorem Agt{l m:List Str}:(l.map AV.str=m.map AV.str)=(l=m):=by
 refine propext ⟨fun h=>?_,fun h=>by rw[h]⟩
 exact(List.map_inj_right (fun a b e=>AV.str.inj e)).mp h
theorem Aco(l m:List Str):compats (l.map .str) (m.map .str)=true:=by
 induction l generalizing m with
 | nil=>rfl
 | cons x l ih=>
  cases m with
  | nil=>rfl
  | cons y m=>exact ih m
end
omit [Own] in
theorem AcD{l:List Str}:∀ x∈l.map AV.str,AaE 8 x=true:=fun x h=>by
 obtain⟨y,_,rfl⟩:=List.mem_map.mp h;rfl
omit [Own] in
theorem Sd.depth(s:Sd)(b:Bool):(s.other b).depth≤3∧(s.one b).depth≤3∧s.left.depth≤3∧s.left.parts.length≤50∧(s.one b).size≤50:=by cases s<;>cases b<;>decide
section
variable{B:Aaj}{d:Nat}{σ:AH}
inductive R12b(b:Addr)(t:Tm)(σ:AH)(sds:List Sd)(xs:List AV)(vars:Vars)(σ':AH):Prop
 | mk (done todo:_) (h1:xs=todo.map Sd.av) (h2:vars "found"=some (.obj b)) (h3:vars "part"=some t.av) (h4:Keep σ σ') (h5:σ' b=some (.list ((Aa8 done t).map Turn.av))) (h6:done++todo=sds)
inductive R12c(s:Sd)(b:Addr)(t:Tm)(σ:AH)(done:List Sd)(xs:List AV)(vars:Vars)(σ'':AH):Prop
 | mk (dn td:_) (h1:xs=td.map (fun q=>AV.tup [(s.one q).av,(s.other q).av,.bool q])) (h2:vars "found"=some (.obj b)) (h3:vars "part"=some t.av) (h4:vars "kind"=some (.str s.sk.kind)) (h5:vars "name"=some (.str s.sk.name)) (h6:vars "left"=some s.left.av) (h7:Keep σ σ'') (h8:σ'' b=some (.list ((Aa8 done t++dn.flatMap (turnB s t)).map Turn.av))) (h9:dn++td=[false,true]) (h10:dn.length≤2)
noncomputable def v12a(x:Addr)(t:Tm):Vars:=fV ["self","part"] [.obj x,t.av]
theorem turns_AK(P:Prg B){x:Addr}{sds:List Sd}{gb:Bool}{t:Tm}(hS:IsSeeker P σ x sds gb)(hn:sds.length≤5)(hdt:t.depth≤8):
  AK B (d+6) (.ref (P.m 16 1)) [.obj x,t.av] σ (NewL σ ((Aa8 sds t).map Turn.av)):=by
 have F:=P.mfn (16,1) (by decide)
 refine Abm (d:=d+5) P.O F (names:=["self","part"]) (hb2 fun jj jj jj jj jj jj jj jj jj jj=>rfl) (by decide +kernel) fun qn L cd=>?_
 let E:=fE (AaB (AeR 16 1)) (P.m 16 1) qn L cd
 let V:=v12a x t
 show AX B _ E V (execs _ E) _ _
 refine Aad ?_
 refine Aak rfl rfl ?_
 refine AaI ?_
 refine Aaf ⟨lnk rfl,fun b hb=>?_⟩
 have hK0:Keep σ (upd σ b (.list [])):=(Keep.refl σ).upd (.inl hb) _
 obtain⟨dx,sb,y1,y2,y3⟩:=hS
 have hx1:=hK0 _ _ y1
 have hx2:=hK0 _ _ y2
 have hx3:=hK0 _ _ y3
 refine Aad ?_
 refine Abc rfl ?_
 refine AaC ?_
 refine Ahs P.O (by rfl) (by rfl) hx1 hx2 (P.sget "sides" (by decide)).1 (by rfl) rfl ⟨sb,_,rfl,hx3,?_⟩
 refine⟨(R12b b t σ sds),⟨[],sds,rfl,by rfl,by rfl,hK0,by rw[Aac];rfl,rfl⟩,?_,?_⟩
 ·rintro y xs vars σ' hsat ⟨done,todo,hx,h1,h2,hK,hb',hd⟩
  obtain⟨s,todo⟩:=Abb hx
  have hlen:=Ac0 done t
  have hdl:done.length+1≤5:=by have:=congrArg List.length hd;simp at this;exact ln3 (.c 1 (.v 0) (.n 5) (.e 1 0 (.a (.v 1) (.p 2 1)) (.v 0) (.g 0 (.p 1 1) (.n 5)))) rfl hn this
  refine AbP rfl rfl ?_
  refine Aar ?_
  refine AaA rfl ?_
  refine Aar ?_
  refine AaA rfl ?_
  refine Aar ?_
  refine AaA rfl ?_
  refine Aar ?_
  refine AaA rfl ?_
  refine AbO ?_
  refine Aad ?_
  refine Abc rfl ?_
  refine AeV ?_
  refine Aam ?_
  refine Aab rfl ?_
  refine Aam ?_
  refine Aag (.loc (a:=s.left.av) (by rfl) (by rfl) (.loc (a:=s.right.av) (by rfl) (by rfl) (.bool .nil))) ⟨lnk rfl,?_⟩
  refine Aab rfl ?_
  refine Aam ?_
  refine Aag (.loc (a:=s.right.av) (by rfl) (by rfl) (.loc (a:=s.left.av) (by rfl) (by rfl) (.bool .nil))) ⟨lnk rfl,?_⟩
  refine Aaf ⟨lnk rfl,_,rfl,?_⟩
  refine⟨(R12c s b t σ done),⟨[],[false,true],rfl,by exact h1,by exact h2,by rfl,by rfl,by rfl,hK,by simpa using hb',rfl,by simp⟩,?_,?_⟩
  ·rintro y xs vars σ'' hsat2 ⟨dn,td,hx,h1,h2,h3,h4,h5,hK2,hb2,hdn,hl⟩
   obtain⟨q,td⟩:=Abb hx
   obtain⟨g1,g2,g3,g4,g5⟩:=s.depth q
   have hdn2:dn.length≤1:=by have:=congrArg List.length hdn;simp at this;exact ln2 (.e 1 0 (.a (.v 0) (.p 1 1)) (.n 2) (.g 0 (.v 0) (.n 1))) rfl this
   refine a_n3 rfl rfl rfl ?_
   refine Aad ?_
   refine Aak rfl rfl ?_
   refine e_g P.O (by rfl) P.g_matched (P.keep 14 (by decide)) ?_
   refine Aag (.loc (a:=(s.one q).av) (by rfl) (by rfl) (.loc (a:=t.av) (by rfl) (by exact h2) .nil)) ((AhV (d:=0) P g5 hdt).use rfl ?_)
   rintro v σ₂ ⟨hK3,hm⟩
   have ht:=tn_match s q t
   have hb3:=hK3 _ _ hb2
   have key:∀ (σ₃:AH),Keep σ₂ σ₃→tn s q t=none→∃ dn' td',td.map (fun q=>AV.tup [(s.one q).av,(s.other q).av,.bool q])=td'.map (fun q=>AV.tup [(s.one q).av,(s.other q).av,.bool q])∧Keep σ σ₃ ∧
     σ₃ b=some (.list ((Aa8 done t++dn'.flatMap (turnB s t)).map Turn.av))∧dn'++td'=[false,true]∧dn'.length≤2:=fun σ₃ hk hno=>
    ⟨dn++[q],td,rfl,(hK2.trans hK3).trans hk,by rw[hk _ _ hb3,List.flatMap_append,List.flatMap_singleton,Ae0 hno,List.append_nil],by simp[← hdn],by simp;exact hdn2⟩
   generalize Abe (s.one q).size [] [(s.one q,t)]=mo at hm ht
   refine Aah ?_;refine AcA ?_;intro V
   cases mo with
   | none=>
    subst hm
    refine Aad ?_
    refine AbV ?_
    refine AdJ ?_
    refine Aax rfl ?_
    refine Aaa (a:=.none) (by rfl) (by rfl) ?_
    refine Aat ?_
    refine Abg (fun u e=>by cases e) ?_
    refine AaV (by simp[AbI]) ?_
    refine AaV (by decide) ?_
    obtain⟨dn',td',k1,k2,k3,k4,k5⟩:=key σ₂ (Keep.refl _) ht
    refine AaK ?_
    refine Aaq ?_
    exact⟨(fun jj h=>nomatch h),dn',td',k1,by exact h1,by exact h2,by exact h3,by exact h4,by exact h5,k2,k3,k4,k5⟩
   | some tab=>
    obtain⟨tb,rfl,htb,hd2⟩:=hm
    obtain⟨hl3,hdp,ht⟩:=ht
    refine Aad ?_
    refine AbV ?_
    refine AdJ ?_
    refine Aax rfl ?_
    refine Aaa (a:=.obj tb) (by rfl) (by rfl) ?_
    refine Aat ?_
    refine Abg (fun u e=>by cases e) ?_
    refine Abh (by simp[AbI]) ?_
    refine AdJ ?_
    refine Aax rfl ?_
    refine e_g P.O (by rfl) P.g_sorted rfl ?_
    refine Aag (.loc (a:=.obj tb) (by rfl) (by rfl) .nil) ?_
    refine AbX (ks:=tab.map fun p=>p.1.str) (.inl hd2) (by simp[AeI]) (by simp;exact Nat.le_trans (Nat.add_le_add_right hl3 1) (lnk rfl)) fun c hc=>?_
    have hK4:Keep σ₂ (upd σ₂ c (.list ((Aa2 (tab.map fun p=>p.1.str)).map .str))):=(Keep.refl _).upd (.inl hc) _
    refine e_g P.O (by rfl) P.g_variables (P.keep 9 (by decide)) ?_
    refine Aag (.loc (a:=s.left.av) (by rfl) (by exact h5) .nil) ((Abd (d:=0) (n:=3) P (by exact lnk rfl) g3 g4 s.vs_ok).use rfl ?_)
    rintro v σ₃ ⟨e,rfl,he,hK5,he2⟩
    refine Age (hK5 _ _ (Aac _ _ _)) he2 AcD AcD (Aco _ _) ?_
    rw[decide_eq_decide.mpr (iff_of_eq (Agt (l:=Aa2 (tab.map fun p=>p.1.str)) (m:=s.vs)))]
    rcases ht with ⟨hv,pl,r,hf,htn,hsrt⟩ | ⟨hv,htn⟩
    ·refine AhY hv ?_
     refine Ail ?_
     refine Abh rfl ?_
     have hd3:σ₃ tb=some (.dict (tab.map AeI)):=hK5 _ _ (hK4 _ _ hd2)
     refine Aad ?_
     refine Aak rfl rfl ?_
     refine e_g P.O (by rfl) P.g_tuple rfl ?_
     refine Aab rfl ?_
     refine AcT P.O (by rfl) P.g_sorted rfl rfl ?_
     refine Aaa (a:=.obj tb) (by rfl) (by rfl) ?_
     refine⟨tb,tab.map fun p=>(p.1.str,p.2.av),rfl,by rw[hd3];simp[AeI],by simp;exact Nat.le_trans hl3 (lnk rfl),?_,fun f hf2=>?_⟩
     ·intro kt hkt
      obtain⟨p,hp,rfl⟩:=List.mem_map.mp hkt
      have:=hdp p hp
      exact Tm.ok (by exact Nat.le_trans this hdt)
     refine Aaf ?_
     refine AdZ (Aac _ _ _) ?_ ?_
     ·rw[List.map_map,List.map_map]
      rw[show((fun kt:Str×AV=>kt.1)∘fun p:Nm×Tm=>(p.1.str,p.2.av))=(fun p:Nm×Tm=>p.1.str) from rfl,show(AbT∘fun p:Nm×Tm=>(p.1.str,p.2.av))=AaZ from rfl]
      rw[(Ad4 _ _ (by simp)).length_eq]
      simp;exact Nat.le_trans hl3 (lnk rfl)
     ·rw[List.map_map,List.map_map]
      rw[show((fun kt:Str×AV=>kt.1)∘fun p:Nm×Tm=>(p.1.str,p.2.av))=(fun p:Nm×Tm=>p.1.str) from rfl,show(AbT∘fun p:Nm×Tm=>(p.1.str,p.2.av))=AaZ from rfl,hsrt]
      have hK6:Keep σ₃ (upd σ₃ f (.list (pl.map AaZ))):=(Keep.refl _).upd (.inl hf2) _
      refine Aad ?_
      refine Ace rfl rfl ?_
      refine AaM P.O rfl rfl ?_
      refine Aaa (a:=.obj b) (by rfl) (by exact h1) ⟨_,Aa3 (hK6 _ _ (hK5 _ _ (hK4 _ _ hb3))),rfl,rfl,?_⟩
      refine Aab rfl ?_
      refine Aam ?_
      refine Aab rfl ?_
      refine Aaa (a:=.str s.sk.kind) (by rfl) (by exact h3) ?_
      refine Aab rfl ?_
      refine Aaa (a:=.str s.sk.name) (by rfl) (by exact h4) ?_
      refine Aab rfl ?_
      refine Aaa (a:=.tup (pl.map AaZ)) (by rfl) (by rfl) ?_
      refine Aab rfl ?_
      refine Aaa (a:=.bool q) (by rfl) (by rfl) ?_
      refine Aab rfl ?_
      refine e_g P.O (by rfl) P.g_placed (P.keep 10 (by decide)) ?_
      refine Aag (.loc (a:=(s.other q).av) (by rfl) (by rfl) (.loc (a:=.obj tb) (by rfl) (by rfl) .nil)) ((Aix (d:=0) P 3 (s.other q) r g1 hf _ (hK6 _ _ hd3)).use rfl ?_)
      rintro v σ₄ ⟨rfl,hK7⟩
      refine Aaf ⟨lnk rfl,Aaf ?_⟩
      have hb4:=hK7 _ _ (hK6 _ _ (hK5 _ _ (hK4 _ _ hb3)))
      have hf1:=Ahr (Ac1 s t) dn
      refine Aa6 hb4 (by rw[List.length_map,List.length_append];exact ln4 (.c 1 (.v 0) (.m 2 (.v 1)) (.c 2 (.p 1 1) (.n 5) (.c 1 (.v 2) (.n 1) (.c 1 (.v 3) (.v 2) (.g 0 (.b 0 3) (.n 1000)))))) rfl hlen hdl hdn2 hf1) ?_
      refine Aaq ?_
      refine Aaq ⟨(fun jj h=>nomatch h),dn++[q],td,rfl,by exact h1,by exact h2,by exact h3,by exact h4,by exact h5,?_,?_,by simp[← hdn],by simp;exact hdn2⟩
      ·exact((((hK2.trans hK3).trans hK4).trans hK5).trans (hK6.trans hK7)).upd (.inr hb) _
      ·rw[Aac,List.flatMap_append,List.flatMap_singleton,AeZ htn,Ahi];rfl
    ·refine Af3 hv ?_
     refine AaV (by decide) ?_
     obtain⟨dn',td',k1,k2,k3,k4,k5⟩:=key σ₃ (hK4.trans hK5) htn
     refine AaK ?_
     refine Aaq ?_
     exact⟨(fun jj h=>nomatch h),dn',td',k1,by exact h1,by exact h2,by exact h3,by exact h4,by exact h5,k2,k3,k4,k5⟩
  ·rintro vars σ'' _ ⟨dn,td,hx,h1,h2,h3,h4,h5,hK2,hb2,hdn,hl⟩
   obtain rfl:td=[]:=Adk hx
   rw[List.append_nil] at hdn
   subst hdn
   refine Aaq ⟨fun p hp=>?_,done++[s],todo,rfl,by exact h1,by exact h2,hK2,?_,by simp[← hd]⟩
   ·rw[List.mem_singleton.mp hp]
    exact hK2 _ _ y3
   ·rw[hb2];simp[Aa8]
 ·rintro vars σ' _ ⟨done,todo,hx,h1,h2,hK,hb',hd⟩
  obtain rfl:todo=[]:=Adk hx
  rw[List.append_nil] at hd
  subst hd
  refine Aad ?_
  refine Aal ?_
  refine Aaa (by rfl) h1 ?_
  exact Aap ⟨b,rfl,hb,hK,hb'⟩
end
end Pq
namespace Pq
structure Step where
 path:List Nat
 sk:Sk
 places:Tab
 back:Bool
 deriving DecidableEq
noncomputable def Step.av(s:Step):AV:=.tup [Aa4 s.path,.str s.sk.kind,.str s.sk.name,.tup (s.places.map AaZ),.bool s.back]
noncomputable def AcF(p:Step×Tm):AV:=.tup [p.1.av,p.2.av]
noncomputable def Step.push(k:Nat)(s:Step):Step:={ s with path:=k::s.path }
noncomputable def Step.turn(s:Step):Step:={ s with back:=!s.back }
theorem AhR{p q:Nm×Tm}(h:AaZ p=AaZ q):p=q:=by
 obtain⟨m,t⟩:=p
 obtain⟨n,u⟩:=q
 simp only[AaZ,AV.tup.injEq,List.cons.injEq,AV.str.injEq,and_true] at h
 rw[Nm.inj h.1,Tm.inj h.2]
theorem Step.inj{s u:Step}(h:s.av=u.av):s=u:=by
 obtain⟨p,k,pl,b⟩:=s
 obtain⟨p',k',pl',b'⟩:=u
 simp only[Step.av,Aa4,AV.tup.injEq,List.cons.injEq,AV.str.injEq,AV.bool.injEq,and_true] at h
 obtain⟨h1,h2,h3,h4,h5⟩:=h
 have e1:p=p':=(List.map_inj_right (fun a b e=>by injection e with e;exact Int.ofNat_inj.mp e)).mp h1
 have e2:k=k':=Sk.inj h3
 have e3:pl=pl':=(List.map_inj_right (fun a b e=>AhR e)).mp h4
 rw[e1,e2,e3,h5]
theorem spAV_inj{p q:Step×Tm}(h:AcF p=AcF q):p=q:=by
 obtain⟨s,t⟩:=p
 obtain⟨u,v⟩:=q
 simp only[AcF,AV.tup.injEq,List.cons.injEq,and_true] at h
 rw[Step.inj h.1,Tm.inj h.2]
noncomputable def AbJ(sds:List Sd)(t:Tm):List (Step×Tm):=(Aa8 sds t).map fun u=>(⟨[],u.sk,u.places,u.back⟩,u.late)
noncomputable def Aas(sds:List Sd):Tm→List (Step×Tm)
 | .lf n=>AbJ sds (.lf n)
 | .un n k=>AbJ sds (.un n k)++(Aas sds k).map fun p=>(p.1.push 0,.un n p.2)
 | .bi n l r=>AbJ sds (.bi n l r)++((Aas sds l).map (fun p=>(p.1.push 0,.bi n p.2 r))++(Aas sds r).map fun p=>(p.1.push 1,.bi n l p.2))
noncomputable def Acz(sds:List Sd)(t:Tm)(p:List Nat×Tm):List (Step×Tm):=(Aa8 sds p.2).map fun u=>(⟨p.1,u.sk,u.places,u.back⟩,t.put p.1 u.late)
theorem Acy(sds:List Sd)(t:Tm):Acz sds t ([],t)=AbJ sds t:=by
 cases t<;>rfl
theorem Afv(sds:List Sd)(f:Tm→Tm)(k t:Tm)(i:Nat)(h:∀ p u,t.put (i::p) u=f (k.put p u))(ih:k.parts.flatMap (Acz sds k)=Aas sds k):
  (k.parts.map fun p=>(i::p.1,p.2)).flatMap (Acz sds t)=(Aas sds k).map fun p=>(p.1.push i,f p.2):=by
 rw[← ih,List.flatMap_map,List.map_flatMap]
 refine congrArg (fun g=>List.flatMap g k.parts) (funext fun p=>?_)
 unfold Acz
 rw[List.map_map]
 exact congrArg (fun g=>List.map g (Aa8 sds p.2)) (funext fun u=>congrArg (Prod.mk _) (h p.1 u.late))
theorem nearL_l{sds:List Sd}{n:Nm}:Aas sds (.lf n)=AbJ sds (.lf n):=rfl
theorem AbN(sds:List Sd)(t:Tm):t.parts.flatMap (Acz sds t)=Aas sds t:=by
 induction t with
 | lf n=>exact(List.append_nil _).trans (Acy ..)
 | un n k ih=>exact List.flatMap_cons.trans (congr (congrArg HAppend.hAppend (Acy ..)) (Afv sds (.un n) k _ 0 (fun jj jj=>rfl) ih))
 | bi n l r ihl ihr=>exact List.flatMap_cons.trans (congr (congrArg HAppend.hAppend (Acy ..)) (List.flatMap_append.trans (congr (congrArg HAppend.hAppend (Afv sds (fun o=>.bi n o r) l _ 0 (fun jj jj=>rfl) ihl)) (Afv sds (.bi n l) r _ 1 (fun jj jj=>rfl) ihr))))
noncomputable def Tm.w:Tm→Nat
 | .lf _=>1
 | .un _ k=>k.w+1
 | .bi _ l r=>l.w+r.w
theorem Tm.w_pos(t:Tm):1≤t.w:=by
 induction t with
 | lf _=>exact Nat.le_refl _
 | un _ k=>exact Nat.succ_le_succ (Nat.zero_le _)
 | bi _ l r ih=>exact Nat.le_trans ih (Nat.le_add_right ..)
theorem Tm.depth_w(t:Tm):t.depth≤t.w:=by
 induction t with
 | lf _=>exact Nat.le_refl _
 | un _ k ih=>exact Nat.succ_le_succ ih
 | bi _ l r ih1 ih2=>exact Nat.succ_le_of_lt (Nat.max_lt.mpr ⟨Nat.lt_of_le_of_lt ih1 (Nat.lt_add_of_pos_right r.w_pos),Nat.lt_of_le_of_lt ih2 (Nat.lt_add_of_pos_left l.w_pos)⟩)
theorem ab2{a b c d:Nat}(h:a+1≤2 * c)(k:b+1≤2 * d):a+b+1+1≤2 * (c+d):=ln4 (.c 1 (.p 0 1) (.m 2 (.v 1)) (.c 1 (.p 2 1) (.m 2 (.v 3)) (.g 0 (.a (.a (.b 0 2) (.n 1)) (.n 1)) (.m 2 (.b 1 3))))) rfl h k
theorem Tm.parts_w(t:Tm):t.parts.length+1≤2 * t.w:=by
 have m:∀ (k:Tm) (i:Nat),(k.parts.map fun p=>(i::p.1,p.2)).length=k.parts.length:=fun k i=>List.length_map _
 induction t with
 | lf _=>exact lnk rfl
 | un _ k ih=>exact Nat.succ_le_succ (Nat.le_trans (Nat.le_of_eq (congrArg (·+1) (m k 0))) (Nat.le_succ_of_le ih))
 | bi _ l r ih1 ih2=>exact Nat.le_trans (Nat.le_of_eq (congrArg (·+1+1) (List.length_append.trans (by rw[m,m])))) (ab2 ih1 ih2)
theorem tn_w{s:Sd}{b:Bool}{t r:Tm}{pl:Tab}(h:tn s b t=some (pl,r)):r.w≤t.w∧∀ p∈pl,p.2.depth≤t.depth:=by
 cases tn_c h
 ·exact⟨Nat.le_of_eq (Nat.add_comm ..),Aau (dl ..) (Aau (dr ..) AaQ)⟩
 ·exact⟨Nat.le_of_eq (Nat.add_comm ..),Aau (dr ..) (Aau (dl ..) AaQ)⟩
 ·exact⟨Nat.le_of_eq (Nat.add_assoc ..).symm,Aau (Nat.le_trans (dl ..) (dl ..)) (Aau (Nat.le_trans (dr ..) (dl ..)) (Aau (dr ..) AaQ))⟩
 ·exact⟨Nat.le_of_eq (Nat.add_assoc ..),Aau (dl ..) (Aau (Nat.le_trans (dl ..) (dr ..)) (Aau (Nat.le_trans (dr ..) (dr ..)) AaQ))⟩
 ·exact⟨Nat.le_add_right ..,Aau (dl ..) (Aau (dr ..) AaQ)⟩
 all_goals exact⟨Nat.le_refl _,AaQ⟩
theorem AfS{sds:List Sd}{t:Tm}{u:Turn}:u∈Aa8 sds t↔∃ s∈sds,∃ b,u.sk=s.sk∧u.back=b∧tn s b t=some (u.places,u.late):=by
 have hB:∀ s b,u∈turnB s t b↔u.sk=s.sk∧u.back=b∧tn s b t=some (u.places,u.late):=by
  intro s b
  cases h:tn s b t with
  | none=>rw[Ae0 h];exact⟨fun h=>absurd h List.not_mem_nil,fun h=>nos h.2.2⟩
  | some p=>
   rw[AeZ h,List.mem_singleton]
   constructor
   ·rintro rfl;exact⟨rfl,rfl,rfl⟩
   ·obtain⟨a1,a2,a3,a4⟩:=u;rintro⟨rfl,rfl,h2⟩;obtain rfl:=Option.some.inj h2;rfl
 simp only[Aa8,List.mem_flatMap,List.mem_append,hB]
 constructor
 ·rintro⟨s,hs,h | h⟩
  ·exact⟨s,hs,_,h.1,h.2.1,h.2.1▸h.2.2⟩
  ·exact⟨s,hs,_,h.1,h.2.1,h.2.1▸h.2.2⟩
 ·rintro⟨s,hs,b,h1,h2,h3⟩
  cases b
  ·exact⟨s,hs,.inl ⟨h1,h2,h3⟩⟩
  ·exact⟨s,hs,.inr ⟨h1,h2,h3⟩⟩
theorem Ab8{sds:List Sd}{t:Tm}{st:Step}{o:Tm}:(st,o)∈AbJ sds t↔st.path=[]∧∃ s∈sds,st.sk=s.sk∧tn s st.back t=some (st.places,o):=by
 unfold AbJ
 rw[List.mem_map]
 constructor
 ·rintro⟨u,hu,e⟩
  obtain⟨s,hs,b,h1,h2,h3⟩:=AfS.mp hu
  cases e
  exact⟨rfl,s,hs,h1,by rw[h2];exact h3⟩
 ·rintro⟨h1,s,hs,h2,h3⟩
  obtain⟨p,k,pl,b⟩:=st
  simp at h1 h2 h3;subst h1
  exact⟨⟨k,pl,b,o⟩,AfS.mpr ⟨s,hs,b,h2,rfl,h3⟩,rfl⟩
theorem AiH{α β:Type}{f:α→β}{l:List α}{C:β→Prop}(k:∀ x,x∈l→C (f x)){y:β}(h:y∈l.map f):C y:=by
 obtain⟨x,hx,rfl⟩:=List.mem_map.mp h
 exact k x hx
theorem AdV{sds:List Sd}{P:Tm→Step→Tm→Prop}(hH:∀ {t st o},(st,o)∈AbJ sds t→P t st o)(hU:∀ {n k st o},(st,o)∈Aas sds k→P k st o→P (.un n k) (st.push 0) (.un n o))
  (hL:∀ {n l r st o},(st,o)∈Aas sds l→P l st o→P (.bi n l r) (st.push 0) (.bi n o r)) (hR:∀ {n l r st o},(st,o)∈Aas sds r→P r st o→P (.bi n l r) (st.push 1) (.bi n l o)) :
  ∀ {t:Tm} {st:Step} {o:Tm},(st,o)∈Aas sds t→P t st o:=by
 intro t
 induction t with
 | lf n=>exact hH
 | un n k ih=>exact fun h=>(List.mem_append.mp h).elim hH (AiH (C:=fun q:Step×Tm=>P (.un n k) q.1 q.2) fun p hm=>hU hm (ih hm))
 | bi n l r ihl ihr=>
  exact fun h=>(List.mem_append.mp h).elim hH fun h=>(List.mem_append.mp h).elim (AiH (C:=fun q:Step×Tm=>P (.bi n l r) q.1 q.2) fun p hm=>hL hm (ihl hm)) (AiH (C:=fun q:Step×Tm=>P (.bi n l r) q.1 q.2) fun p hm=>hR hm (ihr hm))
theorem Ahe{sds:List Sd}{t:Tm}{st:Step}{o:Tm}(h:(st,o)∈Aas sds t):o.w≤t.w∧(∀ p∈st.places,p.2.depth≤t.depth):=
 AdV (P:=fun t st o=>o.w≤t.w∧∀ p∈st.places,p.2.depth≤t.depth) (fun h=>let ⟨_,_,_,_,h3⟩:=Ab8.mp h;tn_w h3) (fun jj i=>⟨Nat.succ_le_succ i.1,fun p hp=>Nat.le_succ_of_le (i.2 p hp)⟩)
  (fun jj i=>⟨Nat.add_le_add_right i.1 _,fun p hp=>Nat.le_trans (i.2 p hp) (dl ..)⟩) (fun jj i=>⟨Nat.add_le_add_left i.1 _,fun p hp=>Nat.le_trans (i.2 p hp) (dr ..)⟩) h
noncomputable def Uniq(sds:List Sd):Prop:=∀ s∈sds,∀ s'∈sds,s.sk=s'.sk→s=s'
noncomputable def outN(s:Sd)(b:Bool):List Nat→Tm→Option Tm
 | [],t=>(tn s b t).map (·.2)
 | _::p,.un n x=>(outN s b p x).map (.un n)
 | 0::p,.bi n l r=>(outN s b p l).map fun o=>.bi n o r
 | _::p,.bi n l r=>(outN s b p r).map (.bi n l)
 | _::_,.lf _=>none
inductive OutR(sds:List Sd)(t:Tm)(st:Step)(o:Tm):Prop
 | mk (s:Sd) (hs:s∈sds) (e:st.sk=s.sk) (h:outN s st.back st.path t=some o)
theorem Ahf{sds:List Sd}{t:Tm}{st:Step}{o:Tm}(h:(st,o)∈Aas sds t):OutR sds t st o:=
 AdV (P:=OutR sds) (fun h=>let ⟨e0,s,hs,e,h3⟩:=Ab8.mp h;⟨s,hs,e,e0▸congrArg (Option.map fun q:Tab×Tm=>q.2) h3⟩) (fun {n _ _ _} _ ⟨s,hs,e,h⟩=>⟨s,hs,e,congrArg (Option.map (Tm.un n)) h⟩)
  (fun {n _ r _ _} _ ⟨s,hs,e,h⟩=>⟨s,hs,e,congrArg (Option.map fun o:Tm=>Tm.bi n o r) h⟩) (fun {n l _ _ _} _ ⟨s,hs,e,h⟩=>⟨s,hs,e,congrArg (Option.map (Tm.bi n l)) h⟩) h
theorem near_one{sds:List Sd}(hu:Uniq sds){t:Tm}{st:Step}{o o':Tm}(h:(st,o)∈Aas sds t)(h':(st,o')∈Aas sds t):o=o':=by
 obtain⟨s,hs,e,h⟩:=Ahf h
 obtain⟨s',hs',e',h'⟩:=Ahf h'
 exact Option.some.inj (h.symm.trans ((congrArg (fun s=>outN s st.back st.path t) (hu s hs s' hs' (e.symm.trans e'))).trans h'))
theorem tn_back{s:Sd}(hs:s≠.drop){b:Bool}{t r:Tm}{pl:Tab}(h:tn s b t=some (pl,r)):tn s (!b) r=some (pl,t):=by
 cases tn_c h<;>first | rfl | exact absurd rfl hs
theorem AfP{sds:List Sd}{t:Tm}{p:Step×Tm}(h:p∈AbJ sds t):p∈Aas sds t:=by
 cases t
 ·exact h
 ·exact List.mem_append.mpr (.inl h)
 ·exact List.mem_append.mpr (.inl h)
theorem AiD{sds:List Sd}(hd:Sd.drop∉sds){t:Tm}{st:Step}{o:Tm}(h:(st,o)∈Aas sds t):(st.turn,t)∈Aas sds o:=by
 have H:∀ {t:Tm} {st:Step} {o:Tm},(st,o)∈AbJ sds t→(st.turn,t)∈AbJ sds o:=fun h=>by
  obtain⟨e0,s,hs,e,h3⟩:=Ab8.mp h
  exact Ab8.mpr ⟨e0,s,hs,e,tn_back (fun q=>hd (q▸hs)) h3⟩
 exact AdV (P:=fun t st o=>(st.turn,t)∈Aas sds o) (fun h=>AfP (H h)) (fun jj i=>List.mem_append.mpr (.inr (List.mem_map.mpr ⟨_,i,rfl⟩)))
  (fun jj i=>List.mem_append.mpr (.inr (List.mem_append.mpr (.inl (List.mem_map.mpr ⟨_,i,rfl⟩))))) (fun jj i=>List.mem_append.mpr (.inr (List.mem_append.mpr (.inr (List.mem_map.mpr ⟨_,i,rfl⟩))))) h
end Pq
namespace Pq
variable[Own]
section
omit [Own]
theorem all2_map{α β:Type}{f:α→β}{l:List α}{m:List β}(h:All2 (fun x y=>y=f x) l m):m=l.map f:=by
 induction l generalizing m with
 | nil=>exact h
 | cons x l ih=>
  obtain⟨y,r,rfl,rfl,h⟩:=h
  rw[ih h];rfl
theorem Ag1{α β:Type}(f:α→β)(l:List α):All2 (fun x y=>y=f x) l (l.map f):=by
 induction l with
 | nil=>rfl
 | cons x l ih=>exact⟨f x,l.map f,rfl,rfl,ih⟩
theorem Ag8{α β:Type}{f:α→β}{l:List α}{m:List β}(h:m.Perm (l.map f)):∃ l':List α,l'.Perm l∧m=l'.map f:=by
 obtain⟨l',h1,h2⟩:=Adh h (Ag1 f l)
 exact⟨l',h1,all2_map h2⟩
noncomputable def spT(p:Step×Tm):AV×AV:=(AcF p,.bool true)
theorem put_sp(acc:List (Step×Tm))(p:Step×Tm):put (acc.map spT) (AcF p) (.bool true)=(if p∈acc then acc else acc++[p]).map spT:=by
 induction acc with
 | nil=>rfl
 | cons q l ih=>
  rw[List.map_cons,AgE]
  by_cases e:q=p
  ·subst e;rw[if_pos (show(spT q).1=AcF q from rfl),if_pos (.head _)];rfl
  ·rw[if_neg (show ¬ (spT q).1=_ from fun z=>e (spAV_inj z)),ih]
   by_cases h:p∈l
   ·rw[if_pos h,if_pos (.tail _ h)];rfl
   ·rw[if_neg h,if_neg fun z=>(List.mem_cons.mp z).elim (fun z=>e z.symm) h];rfl
theorem Aiz{t:Tm}{p:List Nat×Tm}(h:p∈t.parts):t.has p.1=true∧p.2.depth≤t.depth:=
 Tm.part_ind (M:=fun t p=>t.has p.1=true∧p.2.depth≤t.depth) (fun t=>⟨by cases t<;>rfl,Nat.le_refl _⟩) (fun jj jj jj h=>⟨h.1,Nat.le_succ_of_le h.2⟩) (fun jj l r jj h=>⟨h.1,Nat.le_trans h.2 (dl ..)⟩) (fun jj l r jj h=>⟨h.1,Nat.le_trans h.2 (dr ..)⟩) h
end
omit [Own] in
theorem sp_key{p:Step×Tm}(h1:p.2.w≤4)(h2:∀ q∈p.1.places,q.2.depth≤4):AcX .key (AcF p):=by
 refine⟨_,_,_,_,_,_,fun x hx=>?_,fun x hx=>?_,Tm.ok (Nat.le_trans (Nat.le_trans p.2.depth_w h1) (lnk rfl))⟩
 ·obtain⟨k,_,rfl⟩:=List.mem_map.mp hx
  exact⟨_,rfl⟩
 ·obtain⟨q,hq,rfl⟩:=List.mem_map.mp hx
  exact⟨_,_,rfl,Tm.ok (h2 q hq)⟩
omit [Own] in
theorem AcJ{sds:List Sd}{t:Tm}(hw:t.w≤4){p:Step×Tm}(h:p∈Aas sds t):AcX .key (AcF p):=by
 obtain⟨st,o⟩:=p
 obtain⟨h1,h2⟩:=Ahe h
 have:=Tm.depth_w t
 exact sp_key (by show o.w≤4;exact Nat.le_trans h1 hw) fun q hq=>by have:=h2 q hq;lia
section
variable{B:Aaj}{d:Nat}{σ:AH}
inductive R14a(σ:AH)(sds:List Sd)(t:Tm)(v:AV)(σ':AH):Prop
 | mk (b:Addr) (l:List (Step×Tm)) (h1:v=.obj b) (h2:σ b=none) (h3:Keep σ σ') (h4:σ' b=some (.list (l.map AcF))) (h5:(∀ p,p∈l↔p∈Aas sds t)) (h6:l.length≤50)
inductive R14b(fb:Addr)(t:Tm)(x:Addr)(σ:AH)(pb:Addr)(sds:List Sd)(xs:List AV)(vars:Vars)(σ':AH):Prop
 | mk (done:List (List Nat×Tm)) (todo:List (List Nat×Tm)) (acc:List (Step×Tm)) (h1:xs=todo.map Ab7) (h2:vars "found"=some (.obj fb)) (h3:vars "term"=some t.av) (h4:vars "self"=some (.obj x)) (h5:Keep σ σ') (h6:σ' pb=some (.list (t.parts.map Ab7))) (h7:σ' fb=some (.dict (acc.map spT))) (h8:(∀ p,p∈acc↔p∈done.flatMap (Acz sds t))) (h9:acc.length≤6 * done.length) (h10:done++todo=t.parts)
inductive R14c(fb:Addr)(t:Tm)(x:Addr)(p:List Nat×Tm)(σ:AH)(pb:Addr)(tb:Addr)(sds:List Sd)(done:List (List Nat×Tm))(xs:List AV)(vars:Vars)(σ'':AH):Prop
 | mk (dn:List Turn) (td:List Turn) (acc':List (Step×Tm)) (h1:xs=td.map Turn.av) (h2:vars "found"=some (.obj fb)) (h3:vars "term"=some t.av) (h4:vars "self"=some (.obj x)) (h5:vars "path"=some (Aa4 p.1)) (h6:Keep σ σ'') (h7:σ'' pb=some (.list (t.parts.map Ab7))) (h8:σ'' tb=some (.list ((Aa8 sds p.2).map Turn.av))) (h9:σ'' fb=some (.dict (acc'.map spT))) (h10:(∀ q,q∈acc'↔q∈done.flatMap (Acz sds t)∨q∈dn.map fun u:Turn=>((⟨p.1,u.sk,u.places,u.back⟩:Step),t.put p.1 u.late))) (h11:acc'.length≤6 * done.length+dn.length) (h12:dn++td=Aa8 sds p.2)
noncomputable def v14a(x:Addr)(t:Tm):Vars:=fV ["self","term"] [.obj x,t.av]
theorem Agg(P:Prg B){x:Addr}{sds:List Sd}{gb:Bool}{t:Tm}(hS:IsSeeker P σ x sds gb)(hn:sds.length≤3)(hw:t.w≤4):
  AK B (d+8) (.ref (P.m 16 2)) [.obj x,t.av] σ (R14a σ sds t):=by
 have F:=P.mfn (16,2) (by decide)
 have hdw:=Tm.depth_w t
 have hpw:=Tm.parts_w t
 refine Abm (d:=d+7) P.O F (names:=["self","term"]) (hb2 fun jj jj jj jj jj jj jj jj jj jj=>rfl) (by decide +kernel) fun qn L cd=>?_
 let E:=fE (AaB (AeR 16 2)) (P.m 16 2) qn L cd
 let V:=v14a x t
 show AX B _ E V (execs _ E) _ _
 refine Aad (Aak rfl rfl (Afm fun fb hfb=>?_))
 have hK0:Keep σ (upd σ fb (.dict [])):=(Keep.refl σ).upd (.inl hfb) _
 refine Aad (Abc rfl (AaC (e_g P.O (by rfl) P.g_parts (P.keep 11 (by decide)) ?_)))
 refine Aag (.loc (a:=t.av) (by rfl) (by rfl) .nil) ((Ag9 (d:=0) P 4 t (by exact lnk rfl) (by exact Nat.le_trans hdw hw) (ln2 (.c 2 (.v 0) (.n 4) (.c 1 (.p 1 1) (.m 2 (.v 0)) (.g 0 (.v 1) (.n 100)))) rfl hw hpw) (upd σ fb (.dict []))).use rfl ?_)
 rintro v σ₁ ⟨pb,rfl,hpb,hK1,hpl⟩
 have hK01:Keep σ σ₁:=hK0.trans hK1
 refine⟨pb,_,rfl,hpl,?_⟩
 have hf1:σ₁ fb=some (.dict []):=hK1 _ _ (Aac _ _ _)
 have hne:pb≠fb:=ne2 (Aac _ _ _) hpb
 refine⟨(R14b fb t x σ pb sds),
  ⟨[],t.parts,[],rfl,by rfl,by rfl,by rfl,hK01,hpl,hf1,by simp,by simp,rfl⟩,?_,?_⟩
 ·rintro y xs vars σ' hsat ⟨done,todo,acc,hx,h1,h2,h3,hK,hpb',hfb',hacc,hal,hd⟩
  obtain⟨p,todo⟩:=Abb hx
  have hpm:p∈t.parts:=by rw[← hd];simp
  obtain⟨hh1,hh2⟩:=Aiz hpm
  have hpl2:=Tm.parts_len t p hpm
  have hdl:done.length+1≤7:=by have:=congrArg List.length hd;simp at this;exact ln4 (.c 2 (.v 0) (.n 4) (.c 1 (.p 1 1) (.m 2 (.v 0)) (.e 1 0 (.a (.v 2) (.p 3 1)) (.v 1) (.g 0 (.p 2 1) (.n 7))))) rfl hw hpw this
  have htl:=Ac0 sds p.2
  refine a_n2 rfl rfl ?_
  refine Aad (Abc rfl (AaC (AaM P.O rfl rfl (Aaa (a:=.obj x) (by rfl) (by exact h3) ?_))))
  obtain⟨dx,sb,hx1,hx2,hx3⟩:=hS.keep hK
  refine⟨_,Aa1 P.O hx1 hx2 (P.meth ("turns",1) (by decide)) (by rfl),P.mkeep 1 (by decide),rfl,?_⟩
  refine Aag (.loc (a:=p.2.av) (by rfl) (by rfl) .nil) ((turns_AK (d:=0) P (hS.keep hK) (by exact Nat.le_trans hn (lnk rfl)) (by exact Nat.le_trans (Nat.le_trans (Nat.le_trans hh2 hdw) hw) (lnk rfl))).use rfl ?_)
  rintro v σ₂ ⟨tb,rfl,htb,hK2,htl2⟩
  refine⟨tb,_,rfl,htl2,?_⟩
  have hnt:tb≠fb:=ne2 hfb' htb
  have hnp:tb≠pb:=ne2 hpb' htb
  refine⟨(R14c fb t x p σ pb tb sds done),
   ⟨[],Aa8 sds p.2,acc,rfl,by exact h1,by exact h2,by exact h3,by rfl,hK.trans hK2,hK2 _ _ hpb',htl2,hK2 _ _ hfb',by simpa using hacc,by simpa using hal,rfl⟩,?_,?_⟩
  ·rintro y xs vars σ'' hsat2 ⟨dn,td,acc',hx,g1,g2,g3,g4,hK3,hpb2,htb2,hfb2,hacc',hal',hd'⟩
   obtain⟨u,td⟩:=Abb hx
   have hdn:dn.length+1≤6:=by have:=congrArg List.length hd';simp at this;exact ln4 (.c 2 (.v 0) (.n 3) (.c 1 (.v 1) (.m 2 (.v 0)) (.e 1 0 (.a (.v 2) (.p 3 1)) (.v 1) (.g 0 (.p 2 1) (.n 6))))) rfl hn htl this
   refine AbP rfl rfl (Aar (AaA rfl (Aar (AaA rfl (Aar (AaA rfl (Aar (AaA rfl (Aar (AaA rfl (AbO ?_)))))))))))
   refine Aad (AbZ rfl (Abf (Aaa (a:=.obj fb) (by rfl) (by exact g1) (Aam ?_))))
   refine Aab rfl (Aam ?_)
   refine Aag (.loc (a:=Aa4 p.1) (by rfl) (by exact g4) (.loc (a:=.str u.sk.kind) (by rfl) (by rfl) (.loc (a:=.str u.sk.name) (by rfl) (by rfl) (.loc (a:=.tup (u.places.map AaZ)) (by rfl) (by rfl) (.loc (a:=.bool u.back) (by rfl) (by rfl) .nil))))) ⟨lnk rfl,?_⟩
   refine Aab rfl (e_g P.O (by rfl) P.g_replaced (P.keep 13 (by decide)) ?_)
   refine Aag (.loc (a:=t.av) (by rfl) (by exact g2) (.loc (a:=Aa4 p.1) (by rfl) (by exact g4) (.loc (a:=u.late.av) (by rfl) (by rfl) .nil))) (AC.less (Ad7 (d:=0) P p.1 t u.late 7 hh1 (by exact Nat.le_trans (Nat.le_of_lt (Nat.le_trans (Nat.le_trans hpl2 hdw) hw)) (lnk rfl)) (by exact Nat.le_trans (Nat.le_trans (Nat.le_trans hpl2 hdw) hw) (lnk rfl)) ?_).ac (lad rfl))
   refine Aaf ⟨lnk rfl,?_⟩
   have hq0:((⟨p.1,u.sk,u.places,u.back⟩:Step),t.put p.1 u.late)∈Aas sds t:=by
    rw[← AbN]
    refine List.mem_flatMap.mpr ⟨p,hpm,List.mem_map.mpr ⟨u,?_,rfl⟩⟩
    rw[← hd'];simp
   have hin:∀ q∈acc',q∈Aas sds t:=fun q hq=>by
    rw[← AbN,← hd,List.flatMap_append,List.flatMap_cons]
    rcases (hacc' q).mp hq with h | h
    ·exact List.mem_append.mpr (.inl h)
    ·refine List.mem_append.mpr (.inr (List.mem_append.mpr (.inl ?_)))
     obtain⟨u',hu',rfl⟩:=List.mem_map.mp h
     exact List.mem_map.mpr ⟨u',by rw[← hd'];exact List.mem_append.mpr (.inl hu'),rfl⟩
   refine⟨fb,_,rfl,hfb2,.inr ⟨.key,AcJ hw hq0,fun kv hkv=>?_⟩,?_,?_⟩
   ·obtain⟨q,hq,rfl⟩:=List.mem_map.mp hkv
    exact AcJ hw (hin q hq)
   ·rw[List.length_map];exact ln3 (.c 6 (.p 0 1) (.n 7) (.c 1 (.v 1) (.a (.m 6 (.v 0)) (.v 2)) (.c 1 (.p 2 1) (.n 6) (.g 0 (.v 1) (.n 1000))))) rfl hdl hal' hdn
   ·show goOn _ _ _ _ _ _ _ (upd σ'' fb (.dict (Pq.put (acc'.map spT) (AcF ((⟨p.1,u.sk,u.places,u.back⟩:Step),t.put p.1 u.late)) (.bool true))))
    rw[put_sp]
    refine Aaq ⟨?_,dn++[u],td,_,rfl,by exact g1,by exact g2,by exact g3,by exact g4,hK3.upd (.inr hfb) _,by rw[Aai _ _ hne];exact hpb2,by rw[Aai _ _ hnt];exact htb2,Aac _ _ _,?_,?_,by simp[← hd']⟩
    ·intro p' hp'
     rw[List.mem_singleton.mp hp']
     show upd _ _ _ tb=_
     rw[Aai _ _ hnt];exact htb2
    ·intro q
     by_cases hm:((⟨p.1,u.sk,u.places,u.back⟩:Step),t.put p.1 u.late)∈acc'
     ·rw[if_pos hm,hacc',List.map_append,List.mem_append]
      constructor
      ·rintro (h | h)
       ·exact .inl h
       ·exact .inr (.inl h)
      ·rintro (h | h | h)
       ·exact .inl h
       ·exact .inr h
       ·simp at h;subst h;exact(hacc' _).mp hm
     ·rw[if_neg hm,List.mem_append,hacc',List.map_append,List.mem_append,or_assoc];rfl
    ·split<;>simp<;>lia
  ·rintro vars σ'' _ ⟨dn,td,acc',hx,g1,g2,g3,g4,hK3,hpb2,htb2,hfb2,hacc',hal',hd'⟩
   obtain rfl:td=[]:=Adk hx
   rw[List.append_nil] at hd'
   subst hd'
   refine Aaq ⟨sat1 hpb2,done++[p],todo,acc',rfl,by exact g1,by exact g2,by exact g3,hK3,hpb2,hfb2,fun q=>?_,?_,by simp[← hd]⟩
   ·rw[hacc' q,List.flatMap_append,List.mem_append];simp[Acz]
   ·rw[List.length_append,List.length_singleton];exact ln4 (.c 2 (.v 0) (.n 3) (.c 1 (.v 1) (.m 2 (.v 0)) (.c 1 (.v 2) (.a (.m 6 (.v 3)) (.v 1)) (.g 0 (.v 2) (.m 6 (.p 3 1)))))) rfl hn htl hal'
 ·rintro vars σ' _ ⟨done,todo,acc,hx,h1,h2,h3,hK,hpb',hfb',hacc,hal,hd⟩
  obtain rfl:todo=[]:=Adk hx
  rw[List.append_nil] at hd
  subst hd
  rw[AbN] at hacc
  refine Aad (Aal (e_g P.O (by rfl) P.g_sorted rfl ?_))
  refine Aag (.loc (a:=.obj fb) (by rfl) (by exact h1) .nil) (AbY (τ:=.key) hfb' (fun kv hkv=>?_) (by simp;exact ln3 (.c 12 (.v 0) (.n 4) (.c 6 (.p 1 1) (.m 2 (.v 0)) (.c 1 (.v 2) (.m 6 (.v 1)) (.g 0 (.p 2 1) (.n 64))))) rfl hw hpw hal) fun c l hc hp=>?_)
  ·obtain⟨q,hq,rfl⟩:=List.mem_map.mp hkv
   exact AcJ hw ((hacc q).mp hq)
  ·rw[List.map_map] at hp
   obtain⟨l',hl',rfl⟩:=Ag8 (f:=AcF) (l:=acc) (m:=l) hp
   exact Aap ⟨c,l',rfl,hK.none hc,hK.upd (.inl hc) _,Aac _ _ _,fun q=>by rw[hl'.mem_iff];exact hacc q,by rw[hl'.length_eq];exact ln3 (.c 12 (.v 0) (.n 4) (.c 6 (.p 1 1) (.m 2 (.v 0)) (.c 1 (.v 2) (.m 6 (.v 1)) (.g 0 (.v 2) (.n 50))))) rfl hw hpw hal⟩
end
end Pq
namespace Pq
variable[Own]
noncomputable abbrev Ab5:=List (Tm×Option (Tm×Step))
noncomputable def AiA(o:Option (Tm×Step)):AV:=Option.casesOn o .none fun p=>.tup [p.1.av,p.2.av]
noncomputable def kAV(e:Tm×Option (Tm×Step)):AV×AV:=(e.1.av,AiA e.2)
noncomputable abbrev New:=List (Tm×Tm×Step)
noncomputable def ent(e:Tm×Tm×Step):Tm×Option (Tm×Step):=(e.1,some (e.2.1,e.2.2))
section
omit [Own]
theorem Ada(K:Ab5)(t:Tm):look (K.map kAV) t.av=(look K t).map AiA:=Afa (fun jj jj=>Tm.inj) (fun jj=>rfl) K t
theorem Acr{α:Type}[DecidableEq α]{l S:List α}(hn:l.Nodup)(hs:∀ x∈l,x∈S):l.length≤S.length:=by
 induction l generalizing S with
 | nil=>exact Nat.zero_le _
 | cons x l ih=>
  have hx:=hs x (.head _)
  rw[List.nodup_cons] at hn
  have h:=ih (S:=S.erase x) hn.2 fun y hy=>(List.mem_erase_of_ne (fun e=>hn.1 (by rw[← e];exact hy))).mpr (hs y (.tail _ hy))
  rw[List.length_erase_of_mem hx] at h
  exact Nat.le_trans (Nat.succ_le_succ h) (Nat.le_of_eq (Nat.sub_add_cancel (List.length_pos_of_mem hx)))
end
omit [Own] in
theorem AgR{K:Ab5}{t:Tm}(hK:∀ e∈K,e.1.w≤4)(ht:t.w≤4):KeyFit (K.map kAV) t.av:=by
 have ok:∀ u:Tm,u.w≤4→AcX .term u.av:=fun u h=>by
  have:=u.depth_w
  show Abx 8 u.av=true
  exact Tm.ok (by exact Nat.le_trans (Nat.le_trans this h) (lnk rfl))
 exact .inr ⟨.term,ok t ht,fun kv hkv=>by obtain⟨e,he,rfl⟩:=List.mem_map.mp hkv;exact ok _ (hK e he)⟩
noncomputable def KeepX(k:Addr)(σ σ':AH):Prop:=∀ a o,a≠k→σ a=some o→σ' a=some o
omit [Own] in
theorem KeepX.trans{k:Addr}{σ σ' σ'':AH}(h:KeepX k σ σ')(h':KeepX k σ' σ''):KeepX k σ σ'':=fun a o e x=>h' a o e (h a o e x)
theorem Keep.x{k:Addr}{σ σ':AH}(h:Keep σ σ'):KeepX k σ σ':=fun a o jj x=>h a o x
theorem KeepX.set{k:Addr}{σ:AH}(o:AO):KeepX k σ (upd σ k o):=fun a o' e x=>by rw[Aai _ _ e];exact x
theorem IsSeeker.keepX{B:Aaj}{P:Prg B}{σ σ':AH}{x k:Addr}{sds:List Sd}{gb:Bool}{kvs:List (AV×AV)}(h:IsSeeker P σ x sds gb)(hk:σ k=some (.dict kvs))(q:KeepX k σ σ'):IsSeeker P σ' x sds gb:=by
 obtain⟨dx,sb,h1,h2,h3⟩:=h
 exact⟨dx,sb,q _ _ (fun e=>by subst e;rw[hk] at h1;cases h1) h1,q _ _ (ne4 rfl hk h2) h2,q _ _ (ne4 rfl hk h3) h3⟩
structure AhC(sds:List Sd)(K:Ab5)(ends done:List Tm)(new:New):Prop where
 nodup:(K.map (·.1)++new.map (·.1)).Nodup
 step:∀ e∈new,e.2.1∈ends∧(e.2.2,e.1)∈Aas sds e.2.1
 full:∀ p∈done,∀ q∈Aas sds p,q.2∈K.map (·.1)∨q.2∈new.map (·.1)
section
variable{B:Aaj}{d:Nat}{σ:AH}
inductive R15a(σ:AH)(kb:Addr)(K:Ab5)(sds:List Sd)(ends:List Tm)(v:AV)(σ':AH):Prop
 | mk (b:Addr) (new:New) (h1:v=.obj b) (h2:σ b=none) (h3:KeepX kb σ σ') (h4:σ' kb=some (.dict ((K++new.map ent).map kAV))) (h5:σ' b=some (.list (new.map fun e=>e.1.av))) (h6:AhC sds K ends ends new)
inductive R15b(x:Addr)(kb:Addr)(most:Nat)(lb:Addr)(σ:AH)(K:Ab5)(sds:List Sd)(ends:List Tm)(xs:List AV)(vars:Vars)(σ':AH):Prop
 | mk (done todo:List Tm) (new:New) (h1:xs=todo.map Tm.av) (h2:vars "self"=some (.obj x)) (h3:vars "known"=some (.obj kb)) (h4:vars "most"=some (.int most)) (h5:vars "late"=some (.obj lb)) (h6:KeepX kb σ σ') (h7:σ' kb=some (.dict ((K++new.map ent).map kAV))) (h8:σ' lb=some (.list (new.map fun e=>e.1.av))) (h9:AhC sds K ends done new) (h10:done++todo=ends)
inductive R15c(x:Addr)(kb:Addr)(most:Nat)(lb:Addr)(t:Tm)(σ:AH)(bb:Addr)(l:List (Step×Tm))(K:Ab5)(new:New)(ends:List Tm)(sds:List Sd)(xs:List AV)(vars:Vars)(σ'':AH):Prop
 | mk (dn td:List (Step×Tm)) (new':New) (h1:xs=td.map AcF) (h2:vars "self"=some (.obj x)) (h3:vars "known"=some (.obj kb)) (h4:vars "most"=some (.int most)) (h5:vars "late"=some (.obj lb)) (h6:vars "term"=some t.av) (h7:KeepX kb σ σ'') (h8:σ'' bb=some (.list (l.map AcF))) (h9:σ'' kb=some (.dict ((K++new'.map ent).map kAV))) (h10:σ'' lb=some (.list (new'.map fun e=>e.1.av))) (h11:(∀ e∈new,e∈new')) (h12:(K.map (·.1)++new'.map (·.1)).Nodup) (h13:(∀ e∈new',e.2.1∈ends∧(e.2.2,e.1)∈Aas sds e.2.1)) (h14:(∀ q∈dn,q.2∈K.map (·.1)∨q.2∈new'.map (·.1))) (h15:dn++td=l)
noncomputable def v15a(x:Addr)(kb:Addr)(eb:Addr)(most:Nat):Vars:=fV ["self","known","ends","most"] [.obj x,.obj kb,.obj eb,.int most]
theorem Ahp(P:Prg B){x kb eb:Addr}{sds:List Sd}{gb:Bool}{K:Ab5}{ends S:List Tm}{most:Nat}(hS:IsSeeker P σ x sds gb)(hn:sds.length≤3)
  (hk:σ kb=some (.dict (K.map kAV))) (he:σ eb=some (.list (ends.map Tm.av))) (hKn:(K.map (·.1)).Nodup) (hKS:∀ t∈K.map (·.1),t∈S) (hSw:∀ t∈S,t.w≤4) (heS:∀ p∈ends,p∈S) (hcl:∀ p∈ends,∀ q∈Aas sds p,q.2∈S) (hm:S.length≤most) (hS9:S.length≤900) :
  AK B (d+10) (.ref (P.m 16 3)) [.obj x,.obj kb,.obj eb,.int most] σ (R15a σ kb K sds ends):=by
 have F:=P.mfn (16,3) (by decide)
 refine Abm (d:=d+9) P.O F (names:=["self","known","ends","most"]) (hb4 fun jj jj jj jj jj jj jj jj jj jj jj jj=>rfl) (by decide +kernel) fun qn L cd=>?_
 let E:=fE (AaB (AeR 16 3)) (P.m 16 3) qn L cd
 let V:=v15a x kb eb most
 show AX B _ E V (execs _ E) _ _
 refine Aad ?_
 refine Aak rfl rfl ?_
 refine AaI ?_
 refine Aaf ⟨lnk rfl,fun lb hlb=>?_⟩
 have hne:lb≠kb:=ne2 hk hlb
 have hnb:lb≠eb:=ne2 he hlb
 have hkeb:eb≠kb:=ne4 rfl hk he
 have hK0:Keep σ (upd σ lb (.list [])):=(Keep.refl σ).upd (.inl hlb) _
 refine Aad ?_
 refine Abc rfl ?_
 refine AaC ?_
 refine Aaa (a:=.obj eb) (by rfl) (by rfl) ⟨eb,_,rfl,hK0 _ _ he,?_⟩
 refine⟨(R15b x kb most lb σ K sds ends),
  ⟨[],ends,[],rfl,by rfl,by rfl,by rfl,by rfl,hK0.x,by rw[hK0 _ _ hk];simp,by rw[Aac];rfl,⟨by simpa using hKn,(fun jj h=>nomatch h),(fun jj h=>nomatch h)⟩,rfl⟩,?_,?_⟩
 ·rintro y xs vars σ' hsat ⟨done,todo,new,hx,h1,h2,h3,h4,hK,hk',hl',hG,hd⟩
  obtain⟨t,todo⟩:=Abb hx
  have htm:t∈ends:=by rw[← hd];simp
  refine AaA rfl ?_
  refine Aad ?_
  refine Abc rfl ?_
  refine AaC ?_
  refine AaM P.O rfl rfl ?_
  refine Aaa (a:=.obj x) (by rfl) (by exact h1) ?_
  have hS':=hS.keepX hk hK
  obtain⟨dx,sb,hx1,hx2,hx3⟩:=hS'
  refine⟨_,Aa1 P.O hx1 hx2 (P.meth ("beside",2) (by decide)) (by rfl),P.mkeep 2 (by decide),rfl,?_⟩
  refine Aag (.loc (a:=t.av) (by rfl) (by rfl) .nil) ((Agg (d:=0) P (hS.keepX hk hK) hn (hSw t (heS t htm))).use rfl ?_)
  rintro v σ₁ ⟨bb,l,rfl,hbb,hK1,hbl,hl,hll⟩
  refine⟨bb,_,rfl,hbl,?_⟩
  have nbk:bb≠kb:=ne2 hk' hbb
  have nbl:bb≠lb:=ne2 hl' hbb
  refine⟨(R15c x kb most lb t σ bb l K new ends sds),
   ⟨[],l,new,rfl,by exact h1,by exact h2,by exact h3,by exact h4,by rfl,hK.trans hK1.x,hbl,hK1 _ _ hk',hK1 _ _ hl',fun jj h=>h,hG.nodup,hG.step,(fun jj h=>nomatch h),rfl⟩,?_,?_⟩
  ·rintro y xs vars σ'' hsat2 ⟨dn,td,new',hx,g1,g2,g3,g4,g5,hK2,hbb2,hk2,hl2,hsub,hnd,hst,hfl,hd'⟩
   obtain⟨q,td⟩:=Abb hx
   have hqn:q∈Aas sds t:=(hl q).mp (by rw[← hd'];simp)
   have hall:∀ u∈K.map (·.1)++new'.map (·.1),u∈S:=fun u hu=>by
    rcases List.mem_append.mp hu with h | h
    ·exact hKS u h
    ·obtain⟨e,he',rfl⟩:=List.mem_map.mp h
     obtain⟨z1,z2⟩:=hst e he'
     exact hcl _ z1 _ z2
   have hkeys:(K++new'.map ent).map (·.1)=K.map (·.1)++new'.map (·.1):=by simp[ent]
   have hlen:K.length+new'.length≤S.length:=by have:=Acr hnd hall;simpa using this
   have hqS:q.2∈S:=hcl t htm q hqn
   have hf:KeyFit ((K++new'.map ent).map kAV) q.2.av:=AgR (fun e he'=>hSw _ (hall _ (by rw[← hkeys];exact List.mem_map.mpr ⟨e,he',rfl⟩))) (hSw _ hqS)
   refine a_n2 rfl rfl ?_
   refine Aad ?_
   refine AbV ?_
   refine Aax rfl ?_
   refine Aaa (a:=q.2.av) (by rfl) (by rfl) ?_
   refine Aaa (a:=.obj kb) (by rfl) (by exact g2) ?_
   refine Adt hk2 hf ?_
   have e3:(dn++[q])++td=l:=by simp[← hd']
   have big:∀ new3:New,(K.map (·.1)++new3.map (·.1)).Nodup→(∀ e∈new3,e.2.1∈ends∧(e.2.2,e.1)∈Aas sds e.2.1)→((K++new3.map ent).map kAV).length≤S.length:=fun new3 z1 z2=>by
    have:=Acr (S:=S) z1 fun u hu=>by
     rcases List.mem_append.mp hu with h | h
     ·exact hKS u h
     ·obtain⟨e,he',rfl⟩:=List.mem_map.mp h
      obtain⟨w1,w2⟩:=z2 e he'
      exact hcl _ w1 _ w2
    simpa using this
   rw[Ada]
   cases hg:look (K++new'.map ent) q.2 with
   | some o=>
    refine AaV (by simp) ?_
    have hin:q.2∈K.map (·.1)++new'.map (·.1):=by
     rw[← hkeys]
     exact Classical.byContradiction fun h=>by rw[Abt.mpr h] at hg;cases hg
    refine AaK ?_
    refine Aah ?_
    have hb:=big new' hnd hst
    refine Aad ?_
    refine AbV ?_
    refine Aax rfl ?_
    refine e_g P.O (by rfl) P.g_len rfl ?_
    refine Aag (.loc (a:=.obj kb) (by rfl) (by exact g2) .nil) ?_
    refine AfX hk2 (by exact Nat.le_trans (Nat.le_trans hb hS9) (lnk rfl)) ?_
    refine Aaa (a:=.int most) (by rfl) (by exact g3) ?_
    refine AbD ?_
    refine Af3 (Int.not_lt.mpr (Int.ofNat_le.mpr (Nat.le_trans hb hm))) ?_
    refine AaK ?_
    refine Aaq ⟨sat1 hbb2,?_⟩
    refine R15c.mk (dn++[q]) td new' rfl (by exact g1) (by exact g2) (by exact g3) (by exact g4) (by exact g5) hK2 hbb2 hk2 hl2 hsub hnd hst (fun q' hq'=>?_) e3
    rcases List.mem_append.mp hq' with h | h
    ·exact hfl q' h
    ·rw[List.mem_singleton.mp h];exact List.mem_append.mp hin
   | none=>
    refine Abh rfl ?_
    have hnin:q.2∉K.map (·.1)++new'.map (·.1):=by rw[← hkeys];exact Abt.mp hg
    have hnd3:(K.map (·.1)++(new'++[(q.2,t,q.1)]).map (·.1)).Nodup:=by
     rw[List.map_append,← List.append_assoc,List.nodup_append]
     refine⟨hnd,by simp,fun a ha b hb=>?_⟩
     simp at hb
     subst hb
     exact fun e=>hnin (e▸ha)
    have hst3:∀ e∈new'++[(q.2,t,q.1)],e.2.1∈ends∧(e.2.2,e.1)∈Aas sds e.2.1:=fun e he'=>by
     rcases List.mem_append.mp he' with h | h
     ·exact hst e h
     ·rw[List.mem_singleton.mp h];exact⟨htm,hqn⟩
    have hb:=big _ hnd3 hst3
    have hb0:=big _ hnd hst
    refine Aad ?_
    refine AbZ rfl ?_
    refine Aam ?_
    refine Aag (.loc (a:=t.av) (by rfl) (by exact g5) (.loc (a:=q.1.av) (by rfl) (by rfl) .nil)) ⟨lnk rfl,?_⟩
    refine Aaa (a:=.obj kb) (by rfl) (by exact g2) ?_
    refine Aaa (a:=q.2.av) (by rfl) (by rfl) ⟨kb,_,rfl,hk2,hf,by exact Nat.le_trans (Nat.le_trans hb0 hS9) (lnk rfl),?_⟩
    refine Aah ?_
    rw[Ab6 (by rw[Ada,hg];rfl)]
    have e1:(K++new'.map ent).map kAV++[(q.2.av,AV.tup [t.av,q.1.av])]=(K++(new'++[(q.2,t,q.1)]).map ent).map kAV:=by simp[kAV,AiA,ent]
    rw[e1]
    have hk3:upd σ'' kb (.dict ((K++(new'++[(q.2,t,q.1)]).map ent).map kAV)) kb=some (.dict ((K++(new'++[(q.2,t,q.1)]).map ent).map kAV)):=Aac _ _ _
    have hl3:upd σ'' kb (.dict ((K++(new'++[(q.2,t,q.1)]).map ent).map kAV)) lb=some (.list (new'.map fun e=>e.1.av)):=by rw[Aai _ _ hne];exact hl2
    refine Aad ?_
    refine Ace rfl rfl ?_
    refine AaM P.O rfl rfl ?_
    refine Aaa (a:=.obj lb) (by rfl) (by exact g4) ⟨_,Aa3 hl3,rfl,rfl,?_⟩
    refine Aag (.loc (a:=q.2.av) (by rfl) (by rfl) .nil) ?_
    refine Aa6 hl3 (by rw[List.length_map];exact ln3 (.c 1 (.v 0) (.n 900) (.c 1 (.b 1 2) (.v 0) (.g 0 (.v 2) (.n 1000)))) rfl hS9 hlen) ?_
    refine Aaq ?_
    refine Aah ?_
    have e2:(new'.map fun e:Tm×Tm×Step=>e.1.av)++[q.2.av]=(new'++[(q.2,t,q.1)]).map fun e=>e.1.av:=by simp
    rw[e2]
    have hl4:=Aac (upd σ'' kb (.dict ((K++(new'++[(q.2,t,q.1)]).map ent).map kAV))) lb (.list ((new'++[(q.2,t,q.1)]).map fun e=>e.1.av))
    have hk4:upd (upd σ'' kb (.dict ((K++(new'++[(q.2,t,q.1)]).map ent).map kAV))) lb (.list ((new'++[(q.2,t,q.1)]).map fun e=>e.1.av)) kb=some (.dict ((K++(new'++[(q.2,t,q.1)]).map ent).map kAV)):=by rw[Aai _ _ (Ne.symm hne)];exact hk3
    have hbb4:upd (upd σ'' kb (.dict ((K++(new'++[(q.2,t,q.1)]).map ent).map kAV))) lb (.list ((new'++[(q.2,t,q.1)]).map fun e=>e.1.av)) bb=some (.list (l.map AcF)):=by rw[Aai _ _ nbl,Aai _ _ nbk];exact hbb2
    have hK4:KeepX kb σ (upd (upd σ'' kb (.dict ((K++(new'++[(q.2,t,q.1)]).map ent).map kAV))) lb (.list ((new'++[(q.2,t,q.1)]).map fun e=>e.1.av))):=fun a o ha h=>by
     rw[Aai _ _ (fun e=>by subst e;rw[hlb] at h;cases h),Aai _ _ ha]
     exact hK2 a o ha h
    generalize upd (upd σ'' kb (.dict ((K++(new'++[(q.2,t,q.1)]).map ent).map kAV))) lb (.list ((new'++[(q.2,t,q.1)]).map fun e=>e.1.av))=σ₃ at hl4 hk4 hbb4 hK4
    refine Aad ?_
    refine AbV ?_
    refine Aax rfl ?_
    refine e_g P.O (by rfl) P.g_len rfl ?_
    refine Aag (.loc (a:=.obj kb) (by rfl) (by exact g2) .nil) ?_
    refine AfX hk4 (by exact Nat.le_trans (Nat.le_trans hb hS9) (lnk rfl)) ?_
    refine Aaa (a:=.int most) (by rfl) (by exact g3) ?_
    refine AbD ?_
    refine Af3 (Int.not_lt.mpr (Int.ofNat_le.mpr (Nat.le_trans hb hm))) ?_
    refine AaK ?_
    refine Aaq ⟨sat1 hbb4,?_⟩
    refine R15c.mk (dn++[q]) td _ rfl (by exact g1) (by exact g2) (by exact g3) (by exact g4) (by exact g5) hK4 hbb4 hk4 hl4 (fun e he'=>List.mem_append.mpr (.inl (hsub e he'))) hnd3 hst3 (fun q' hq'=>?_) e3
    rcases List.mem_append.mp hq' with h | h
    ·rcases hfl q' h with z | z
     ·exact .inl z
     ·exact .inr (by rw[List.map_append];exact List.mem_append.mpr (.inl z))
    ·rw[List.mem_singleton.mp h];exact .inr (by simp)
  ·rintro vars σ'' _ ⟨dn,td,new',hx,g1,g2,g3,g4,g5,hK2,hbb2,hk2,hl2,hsub,hnd,hst,hfl,hd'⟩
   obtain rfl:td=[]:=Adk hx
   rw[List.append_nil] at hd'
   subst hd'
   refine Aaq ⟨sat1 (hK2 _ _ hkeb he),done++[t],todo,new',rfl,by exact g1,by exact g2,by exact g3,by exact g4,hK2,hk2,hl2,⟨hnd,hst,fun p hp q hq=>?_⟩,by simp[← hd]⟩
   rcases List.mem_append.mp hp with h | h
   ·rcases hG.full p h q hq with z | z
    ·exact .inl z
    ·obtain⟨e,he',z'⟩:=List.mem_map.mp z
     exact .inr (List.mem_map.mpr ⟨e,hsub e he',z'⟩)
   ·rw[List.mem_singleton.mp h] at hq
    exact hfl q ((hl q).mpr hq)
 ·rintro vars σ' _ ⟨done,todo,new,hx,h1,h2,h3,h4,hK,hk',hl',hG,hd⟩
  obtain rfl:todo=[]:=Adk hx
  rw[List.append_nil] at hd
  subst hd
  refine Aad ?_
  refine Aal ?_
  refine Aaa (by rfl) h4 ?_
  exact Aap ⟨lb,new,rfl,hlb,hK,hk',hl',hG⟩
end
end Pq
namespace Pq
variable[Own]
inductive Abp(K:Ab5):Tm→List Step→Prop where
 | root {t:Tm} (h:look K t=some none):Abp K t []
 | step {t p:Tm} {s:Step} {l:List Step} (h:look K t=some (some (p,s))) (r:Abp K p l):Abp K t (s::l)
section
variable{B:Aaj}{d:Nat}{σ:AH}
inductive R16b(kb:Addr)(fb:Addr)(σ:AH)(K:Ab5)(l:List Step)(n:Nat)(vars:Vars)(σ':AH):Prop
 | mk (u:Tm) (dn td:List Step) (h1:n=td.length) (h2:vars "known"=some (.obj kb)) (h3:vars "term"=some u.av) (h4:vars "found"=some (.obj fb)) (h5:Keep σ σ') (h6:σ' fb=some (.list (dn.map Step.av))) (h7:Abp K u td) (h8:dn++td=l)
noncomputable def v16a(x:Addr)(kb:Addr)(t:Tm):Vars:=fV ["self","known","term"] [.obj x,.obj kb,t.av]
theorem AdG(P:Prg B){x kb:Addr}{K:Ab5}{t:Tm}{l:List Step}(hk:σ kb=some (.dict (K.map kAV)))(hKw:∀ e∈K,e.1.w≤4)(htw:∀ u o,look K u=some o→u.w≤4)(hc:Abp K t l)(hl:l.length≤200):
  AK B (d+1) (.ref (P.m 16 4)) [.obj x,.obj kb,t.av] σ (NewL σ (l.reverse.map Step.av)):=by
 have F:=P.mfn (16,4) (by decide)
 refine Abm (d:=d) P.O F (names:=["self","known","term"]) (hb3 fun jj jj jj jj jj jj jj jj jj jj jj=>rfl) (by decide +kernel) fun qn L cd=>?_
 let E:=fE (AaB (AeR 16 4)) (P.m 16 4) qn L cd
 let V:=v16a x kb t
 show AX B _ E V (execs _ E) _ _
 refine Aad ?_
 refine Aak rfl rfl ?_
 refine AaI ?_
 refine Aaf ⟨lnk rfl,fun fb hfb=>?_⟩
 have hK0:Keep σ (upd σ fb (.list [])):=(Keep.refl σ).upd (.inl hfb) _
 refine Aad (AeY ((R16b kb fb σ K l)) l.length
  ⟨t,[],l,rfl,by rfl,by rfl,by rfl,hK0,by rw[Aac];rfl,hc,rfl⟩ ?_)
 rintro n vars σ' ⟨u,dn,td,rfl,h1,h2,h3,hK,hf,hc',hd⟩
 have hdl:dn.length+td.length=l.length:=by rw[← hd];simp
 cases hc' with
 | root h=>
  refine Aax rfl ?_
  refine AaF rfl ?_
  refine Aaa (a:=.obj kb) (by rfl) h1 ?_
  refine Aaa (a:=u.av) (by rfl) h2 ?_
  refine Aci (hK _ _ hk) (AgR hKw (htw _ _ h)) (by rw[Ada,h];rfl) ?_
  refine Aat ?_
  refine Abg (fun v e=>by cases e) ?_
  refine AaV (by simp[AbI,AiA]) ?_
  refine Aah ?_;refine AcA ?_;intro V
  refine Aad ?_
  refine Aal ?_
  refine e_rev ?_
  refine Aaa (a:=.obj fb) (by rfl) h3 ⟨fb,_,rfl,hf,by rw[List.length_map];exact ln3 (.c 1 (.v 0) (.n 200) (.e 1 0 (.b 1 2) (.v 0) (.g 0 (.v 1) (.n 1000)))) rfl hl hdl,fun e he=>?_⟩
  refine Aap ⟨e,rfl,hK.none he,hK.upd (.inl he) _,?_⟩
  rw[Aac,← hd];simp
 | @step _ p s td h r=>
  refine Aax rfl ?_
  refine AaF rfl ?_
  refine Aaa (a:=.obj kb) (by rfl) h1 ?_
  refine Aaa (a:=u.av) (by rfl) h2 ?_
  refine Aci (hK _ _ hk) (AgR hKw (htw _ _ h)) (by rw[Ada,h];rfl) ?_
  refine Aat ?_
  refine Abg (fun v e=>by cases e) ?_
  refine Abh (by simp[AbI,AiA]) ?_
  refine Aad ?_
  refine AaS rfl rfl ?_
  refine AaF rfl ?_
  refine Aaa (a:=.obj kb) (by rfl) h1 ?_
  refine Aaa (a:=u.av) (by rfl) h2 ?_
  refine Aci (hK _ _ hk) (AgR hKw (htw _ _ h)) (by rw[Ada,h];rfl) ?_
  refine a_n2 rfl rfl ?_
  refine Aah ?_;refine AcA ?_;intro V
  refine Aad ?_
  refine Ace rfl rfl ?_
  refine AaM P.O rfl rfl ?_
  refine Aaa (a:=.obj fb) (by rfl) (by exact h3) ⟨_,Aa3 hf,rfl,rfl,?_⟩
  refine Aag (.loc (a:=s.av) (by rfl) (by rfl) .nil) ?_
  refine Aa6 hf (by rw[List.length_map];exact ln3 (.c 1 (.v 0) (.n 200) (.e 1 0 (.b 1 2) (.v 0) (.g 0 (.v 1) (.n 1000)))) rfl hl hdl) ?_
  refine Aaq ⟨td.length,by simp,p,dn++[s],td,rfl,by exact h1,by rfl,by exact h3,hK.upd (.inr hfb) _,?_,r,by simp[← hd]⟩
  rw[Aac];simp
inductive R16c(σ:AH)(ms:List Tm)(Kh:Ab5)(Kt:Ab5)(v:AV)(σ':AH):Prop
 | mk (b:_) (h1:v=.obj b) (h2:σ b=none) (h3:Keep σ σ') (h4:∃ m∈ms,∃ l1 l2,Abp Kh m l1∧Abp Kt m l2∧σ' b=some (.list ((l1.reverse++l2.map Step.turn).map Step.av)))
inductive R16d(ms:List Tm)(x:Addr)(ha:Addr)(ta:Addr)(σ:AH)(Kh:Ab5)(Kt:Ab5)(xs:List AV)(vars:Vars)(σ':AH):Prop
 | mk (todo:List Tm) (h1:xs=todo.map Tm.av) (h2:(∀ m∈todo,m∈ms)) (h3:vars "self"=some (.obj x)) (h4:vars "here"=some (.obj ha)) (h5:vars "there"=some (.obj ta)) (h6:Keep σ σ') (h7:((vars "best"=some .none∧todo≠[])∨∃ b,vars "best"=some (.obj b)∧σ b=none∧∃ m∈ms,∃ l1 l2,Abp Kh m l1∧Abp Kt m l2∧l1.length≤200∧l2.length≤200∧σ' b=some (.list ((l1.reverse++l2.map Step.turn).map Step.av))))
inductive R16e(σ₂:AH)(l2:List Step)(xs:List AV)(ys:List AV)(σ'':AH):Prop
 | mk (h1:σ''=σ₂) (dn td:List Step) (h2:xs=td.map Step.av) (h3:ys=dn.map (fun s=>s.turn.av)) (h4:dn++td=l2)
noncomputable def v16b(x:Addr)(ha:Addr)(ta:Addr)(mb:Addr):Vars:=fV ["self","here","there","meeting"] [.obj x,.obj ha,.obj ta,.obj mb]
theorem AhI(P:Prg B){x ha ta mb:Addr}{sds:List Sd}{gb:Bool}{Kh Kt:Ab5}{ms:List Tm}(hS:IsSeeker P σ x sds gb)(hh:σ ha=some (.dict (Kh.map kAV)))(ht:σ ta=some (.dict (Kt.map kAV)))(hm:σ mb=some (.list (ms.map Tm.av)))
  (hhw:∀ e∈Kh,e.1.w≤4) (htw:∀ e∈Kt,e.1.w≤4) (hhw':∀ u o,look Kh u=some o→u.w≤4) (htw':∀ u o,look Kt u=some o→u.w≤4) (hne:ms≠[])
  (hch:∀ m∈ms,∃ l,Abp Kh m l∧l.length≤200) (hct:∀ m∈ms,∃ l,Abp Kt m l∧l.length≤200) :
  AK B (d+3) (.ref (P.m 16 6)) [.obj x,.obj ha,.obj ta,.obj mb] σ (R16c σ ms Kh Kt):=by
 have F:=P.mfn (16,6) (by decide)
 refine Abm (d:=d+2) P.O F (names:=["self","here","there","meeting"]) (hb4 fun jj jj jj jj jj jj jj jj jj jj jj jj=>rfl) (by decide +kernel) fun qn L cd=>?_
 let E:=fE (AaB (AeR 16 6)) (P.m 16 6) qn L cd
 let V:=v16b x ha ta mb
 show AX B _ E V (execs _ E) _ _
 refine Aad ?_
 refine Aak rfl rfl ?_
 refine Aat ?_
 refine Aad ?_
 refine Abc rfl ?_
 refine AaC ?_
 refine Aaa (a:=.obj mb) (by rfl) (by rfl) ⟨mb,_,rfl,hm,?_⟩
 refine⟨(R16d ms x ha ta σ Kh Kt),
  ⟨ms,rfl,fun jj h=>h,by rfl,by rfl,by rfl,Keep.refl σ,.inl ⟨by rfl,hne⟩⟩,?_,?_⟩
 ·rintro y xs vars σ' hsat ⟨todo,hx,hsub,h1,h2,h3,hK,hb⟩
  obtain⟨m,todo⟩:=Abb hx
  have hmm:=hsub m (.head _)
  obtain⟨l1,c1,e1⟩:=hch m hmm
  obtain⟨l2,c2,e2⟩:=hct m hmm
  refine AaA rfl ?_
  obtain⟨dx,sb,hx1,hx2,hx3⟩:=hS.keep hK
  refine Aad ?_
  refine Aak rfl rfl ?_
  refine AaM P.O rfl rfl ?_
  refine Aaa (a:=.obj x) (by rfl) (by exact h1) ⟨_,Aa1 P.O hx1 hx2 (P.meth ("back_from",4) (by decide)) (by rfl),P.mkeep 4 (by decide),rfl,?_⟩
  refine Aag (.loc (a:=.obj ha) (by rfl) (by exact h2) (.loc (a:=m.av) (by rfl) (by rfl) .nil)) ((AdG (d:=0) P (hK _ _ hh) hhw hhw' c1 e1).use rfl ?_)
  rintro v σ₁ ⟨b1,rfl,hb1,hK1,hl1⟩
  refine Aah ?_;refine AcA ?_;intro V
  refine Aad ?_
  refine Aak rfl rfl ?_
  refine AaN ?_
  refine Aaa (a:=.obj b1) (by rfl) (by rfl) ?_
  refine AaT rfl (cl:=[]) ⟨by rfl,by rfl,by simp,by rfl,by decide,by rfl,by decide⟩ ?_
  refine ai_rev P.O rfl (by rfl) P.g_reversed ?_
  have hx1':=hK1 _ _ hx1
  have hx2':=hK1 _ _ hx2
  refine AaM P.O rfl rfl ?_
  refine Aaa (a:=.obj x) (by rfl) (by exact h1) ⟨_,Aa1 P.O hx1' hx2' (P.meth ("back_from",4) (by decide)) (by rfl),P.mkeep 4 (by decide),rfl,?_⟩
  refine Aag (.loc (a:=.obj ta) (by rfl) (by exact h3) (.loc (a:=m.av) (by rfl) (by rfl) .nil)) ((AdG (d:=0) P ((hK.trans hK1) _ _ ht) htw htw' c2 e2).use rfl ?_)
  rintro v σ₂ ⟨b2,rfl,hb2,hK2,hl2⟩
  refine⟨b2,_,rfl,hl2,?_⟩
  rw[← List.map_reverse,List.reverse_reverse]
  refine⟨by rw[List.length_map];exact Nat.le_trans e2 (lnk rfl),?_⟩
  refine⟨(R16e σ₂ l2),⟨rfl,[],l2,rfl,rfl,rfl⟩,?_,?_⟩
  ·rintro C z xs ys σ'' hsat2 ⟨rfl,dn,td,hx,rfl,hd⟩
   obtain⟨s,td⟩:=Abb hx
   refine AaY rfl ?_
   refine AcU ?_
   refine e_g P.O (by rfl) P.g_turned_step (P.keep 6 (by decide)) ?_
   refine Aag (.loc (a:=s.av) (by rfl) (by rfl) .nil) (AC.less (Aeq (d:=0) P ?_).ac (lad rfl))
   exact⟨hsat2,rfl,dn++[s],td,rfl,by simp[Step.av,Step.turn],by simp[← hd]⟩
  ·rintro ys σ'' hsat2 ⟨rfl,dn,td,hx,rfl,hd⟩ hlen c0 hc0
   obtain rfl:td=[]:=Adk hx
   rw[List.append_nil] at hd
   subst hd
   have n1:b1≠c0:=ne1 (hK2 _ _ hl1) hc0
   refine Ab4 (by rw[Aai _ _ n1];exact hK2 _ _ hl1) (Aac _ _ _) (by simp;exact ln2 (.c 1 (.v 0) (.n 200) (.c 1 (.v 1) (.n 200) (.g 0 (.b 0 1) (.n 1000)))) rfl e1 e2) fun e he=>?_
   refine Aah ?_;refine AcA ?_;intro V
   have K3:Keep σ'' (upd (upd σ'' c0 (.list (dn.map fun s=>s.turn.av))) e (.list (l1.reverse.map Step.av++dn.map fun s=>s.turn.av))):=((Keep.refl σ'').upd (.inl hc0) _).upd (.inl he) _
   have he3:upd (upd σ'' c0 (.list (dn.map fun s=>s.turn.av))) e (.list (l1.reverse.map Step.av++dn.map fun s=>s.turn.av)) e=some (.list ((l1.reverse++dn.map Step.turn).map Step.av)):=by
    rw[Aac,List.map_append,List.map_map];rfl
   have hKe:Keep σ (upd (upd σ'' c0 (.list (dn.map fun s=>s.turn.av))) e (.list (l1.reverse.map Step.av++dn.map fun s=>s.turn.av))):=((hK.trans hK1).trans hK2).trans K3
   have hbk:∀ b o,σ' b=some o→upd (upd σ'' c0 (.list (dn.map fun s=>s.turn.av))) e (.list (l1.reverse.map Step.av++dn.map fun s=>s.turn.av)) b=some o:=fun b o h=>K3 _ _ (hK2 _ _ (hK1 _ _ h))
   have he0:σ e=none:=by
    have k2:Keep σ (upd σ'' c0 (.list (dn.map fun s=>s.turn.av))):=((hK.trans hK1).trans hK2).upd (.inl hc0) _
    exact k2.none he
   generalize upd (upd σ'' c0 (.list (dn.map fun s=>s.turn.av))) e (.list (l1.reverse.map Step.av++dn.map fun s=>s.turn.av))=σ₃ at K3 he3 hKe hbk
   have out:∀ vars':Vars,vars' "self"=some (.obj x)→vars' "here"=some (.obj ha)→vars' "there"=some (.obj ta)→vars' "best"=some (.obj e)→Sat [(mb,AO.list (ms.map Tm.av))] σ₃∧R16d ms x ha ta σ Kh Kt (todo.map Tm.av) vars' σ₃:=
    fun vars' a1 a2 a3 a4=>⟨sat1 (hKe _ _ hm),todo,rfl,fun m hm=>hsub m (.tail _ hm),a1,a2,a3,hKe,.inr ⟨e,a4,he0,m,hmm,l1,dn,c1,c2,e1,e2,he3⟩⟩
   rcases hb with ⟨hb,_⟩ | ⟨b,hb,hb0,m',hm',k1,k2,z1,z2,z3,z4,hbl⟩
   ·refine Aad ?_
    refine AbV ?_
    refine Ad2 ?_
    refine Aax rfl ?_
    refine Aaa (a:=.none) (by rfl) (by exact hb) ?_
    refine Aat ?_
    refine Acx (fun u e=>by cases e) ?_
    refine Abh (by simp[AbI]) ?_
    refine Abh rfl ?_
    refine Aad ?_
    refine Aak rfl rfl ?_
    refine Aaa (a:=.obj e) (by rfl) (by rfl) ?_
    refine Aaq (Aaq (out _ ?_ ?_ ?_ ?_))<;>first | exact h1 | exact h2 | exact h3 | rfl
   ·refine Aad ?_
    refine AbV ?_
    refine Ad2 ?_
    refine Aax rfl ?_
    refine Aaa (a:=.obj b) (by rfl) (by exact hb) ?_
    refine Aat ?_
    refine Acx (fun u e=>by cases e) ?_
    refine AaV (by simp[AbI]) ?_
    refine Ad2 ?_
    refine Aax rfl ?_
    refine e_g P.O (by rfl) P.g_len rfl ?_
    refine Aag (.loc (a:=.obj e) (by rfl) (by rfl) .nil) ?_
    refine Abo he3 (by simp;exact ln2 (.c 1 (.v 0) (.n 200) (.c 1 (.v 1) (.n 200) (.g 0 (.b 0 1) (.n 1000)))) rfl e1 e2) ?_
    refine e_g P.O (by rfl) P.g_len rfl ?_
    refine Aag (.loc (a:=.obj b) (by rfl) (by exact hb) .nil) ?_
    refine Abo (hbk _ _ hbl) (by simp;exact ln2 (.c 1 (.v 0) (.n 200) (.c 1 (.v 1) (.n 200) (.g 0 (.b 0 1) (.n 1000)))) rfl z3 z4) ?_
    refine Afs ?_
    refine if_c (fun jj=>?_) fun jj=>?_
    ·refine Abh rfl ?_
     refine Aad ?_
     refine Aak rfl rfl ?_
     refine Aaa (a:=.obj e) (by rfl) (by rfl) ?_
     refine Aaq (Aaq (out _ ?_ ?_ ?_ ?_))<;>first | exact h1 | exact h2 | exact h3 | rfl
    ·refine Ad1 ?_
     refine AaV (by decide) ?_
     refine AaK (Aaq ⟨sat1 (hKe _ _ hm),todo,rfl,fun m hm=>hsub m (.tail _ hm),by exact h1,by exact h2,by exact h3,hKe,.inr ⟨b,by exact hb,hb0,m',hm',k1,k2,z1,z2,z3,z4,hbk _ _ hbl⟩⟩)
 ·rintro vars σ' _ ⟨todo,hx,hsub,h1,h2,h3,hK,hb⟩
  have ht0:todo=[]:=Adk hx
  rcases hb with ⟨_,hb⟩ | ⟨b,hb,hb0,m',hm',k1,k2,z1,z2,z3,z4,hbl⟩
  ·exact absurd ht0 hb
  ·refine Aad ?_
   refine Aal ?_
   refine Aaa (a:=.obj b) (by rfl) hb ?_
   exact Aap ⟨b,rfl,hb0,hK,m',hm',k1,k2,z1,z2,hbl⟩
end
end Pq
namespace Pq
noncomputable def Ag2(sds:List Sd):Tm→List Step→Tm→Prop
 | t,[],u=>t=u
 | t,s::l,u=>∃ o,(s,o)∈Aas sds t∧Ag2 sds o l u
noncomputable def Rch(sds:List Sd)(n:Nat)(t u:Tm):Prop:=∃ l,l.length=n∧Ag2 sds t l u
section
variable{sds:List Sd}
theorem AdP{t u v:Tm}{l m:List Step}(h:Ag2 sds t l u)(k:Ag2 sds u m v):Ag2 sds t (l++m) v:=by
 induction l generalizing t with
 | nil=>rw[show t=u from h];exact k
 | cons s l ih=>obtain⟨o,h1,h2⟩:=h;exact⟨o,h1,ih h2⟩
theorem AeD{t v:Tm}{l m:List Step}(h:Ag2 sds t (l++m) v):∃ u,Ag2 sds t l u∧Ag2 sds u m v:=by
 induction l generalizing t with
 | nil=>exact⟨t,rfl,h⟩
 | cons s l ih=>obtain⟨o,h1,h2⟩:=h;obtain⟨u,k1,k2⟩:=ih h2;exact⟨u,⟨o,h1,k1⟩,k2⟩
theorem AfB(hd:Sd.drop∉sds){t u:Tm}{l:List Step}(h:Ag2 sds t l u):Ag2 sds u (l.reverse.map Step.turn) t:=by
 induction l generalizing t with
 | nil=>exact Eq.symm h
 | cons s l ih=>
  obtain⟨o,h1,h2⟩:=h
  rw[List.reverse_cons,List.map_append]
  exact AdP (ih h2) ⟨t,AiD hd h1,rfl⟩
theorem Ad8(hd:Sd.drop∉sds){n:Nat}{t u:Tm}(h:Rch sds n t u):Rch sds n u t:=by
 obtain⟨l,rfl,h⟩:=h
 exact⟨_,by simp,AfB hd h⟩
theorem Ae3{n:Nat}{t u v:Tm}{s:Step}(h:Rch sds n t u)(k:(s,v)∈Aas sds u):Rch sds (n+1) t v:=by
 obtain⟨l,rfl,h⟩:=h
 exact⟨l++[s],by simp,AdP h ⟨v,k,rfl⟩⟩
theorem Ae4{n:Nat}{t v:Tm}(h:Rch sds (n+1) t v):∃ u s,Rch sds n t u∧(s,v)∈Aas sds u:=by
 obtain⟨l,hl,h⟩:=h
 obtain⟨m,s,rfl⟩:∃ m s,l=m++[s]:=by
  rcases List.eq_nil_or_concat l with rfl | ⟨m,s,rfl⟩
  ·simp at hl
  ·exact⟨m,s,by simp⟩
 obtain⟨u,h1,o,h2,h3⟩:=AeD h
 exact⟨u,s,⟨m,by simpa using hl,h1⟩,by rw[← show o=v from h3];exact h2⟩
theorem rch_mid{i j:Nat}{t v:Tm}(h:Rch sds (i+j) t v):∃ u,Rch sds i t u∧Rch sds j u v:=by
 obtain⟨l,hl,h⟩:=h
 rw[← List.take_append_drop i l] at h
 obtain⟨u,h1,h2⟩:=AeD h
 exact⟨u,⟨_,by rw[List.length_take,hl];exact Nat.min_eq_left (Nat.le_add_right ..),h1⟩,⟨_,by rw[List.length_drop,hl];exact Nat.add_sub_cancel_left ..,h2⟩⟩
theorem Ahm{K L:Ab5}{t:Tm}{o:Option (Tm×Step)}(h:look K t=some o):look (K++L) t=some o:=by
 induction K with
 | nil=>exact nos h
 | cons e l ih=>
  by_cases q:e.1=t
  ·simp[Abn,q] at h ⊢;exact h
  ·simp only[Abn,if_neg q,List.cons_append] at h ⊢;exact ih h
theorem Afg{K L:Ab5}{t:Tm}(h:t∉K.map (·.1)):look (K++L) t=look L t:=by
 induction K with
 | nil=>rfl
 | cons e l ih=>
  simp only[List.map_cons,List.mem_cons,not_or] at h
  simp only[List.cons_append,Abn,if_neg (Ne.symm h.1)]
  exact ih h.2
theorem Aff{K:Ab5}{t:Tm}{o:Option (Tm×Step)}(h:look K t=some o):t∈K.map (·.1):=
 Classical.byContradiction fun q=>by rw[Abt.mpr q] at h;cases h
theorem Afe{L:Ab5}(hn:(L.map (·.1)).Nodup){e:Tm×Option (Tm×Step)}(h:e∈L):look L e.1=some e.2:=by
 induction L with
 | nil=>cases h
 | cons f l ih=>
  rw[List.map_cons,List.nodup_cons] at hn
  rcases List.mem_cons.mp h with rfl | h
  ·simp[Abn]
  ·have:f.1≠e.1:=fun q=>hn.1 (by rw[q];exact List.mem_map.mpr ⟨e,h,rfl⟩)
   simp only[Abn,if_neg this];exact ih hn.2 h
theorem Agc{K L:Ab5}{t:Tm}{l:List Step}(h:Abp K t l):Abp (K++L) t l:=by
 induction h with
 | root h=>exact .root (Ahm h)
 | step h _ ih=>exact .step (Ahm h) ih
theorem Adc{K:Ab5}{t:Tm}{l m:List Step}(h:Abp K t l)(k:Abp K t m):l=m:=by
 induction h generalizing m with
 | root h=>
  cases k with
  | root _=>rfl
  | step k _=>rw[h] at k;cases k
 | step h _ ih=>
  cases k with
  | root k=>rw[h] at k;cases k
  | step k r=>rw[h] at k;cases k;rw[ih r]
inductive ChnR(sds:List Sd)(r:Tm)(i:Nat)(K:Ab5)(m:Tm):Prop
 | mk (l:List Step) (h1:Abp K m l) (h2:Ag2 sds r l.reverse m) (h3:l.length≤i) (h4:∀ n,n<l.length→¬ Rch sds n r m)
structure Ball(sds:List Sd)(r:Tm)(i:Nat)(K:Ab5)(ends:List Tm):Prop where
 nodup:(K.map (·.1)).Nodup
 enodup:ends.Nodup
 ball:∀ m,m∈K.map (·.1)↔∃ n,n≤i∧Rch sds n r m
 sphere:∀ m,m∈ends↔m∈K.map (·.1)∧∀ n,n<i→¬ Rch sds n r m
 chain:∀ m∈K.map (·.1),ChnR sds r i K m
theorem Ball.start(r:Tm):Ball sds r 0 [(r,none)] [r]:=by
 refine⟨by simp,by simp,fun m=>?_,fun m=>?_,fun m hm=>?_⟩
 ·simp only[List.map_cons,List.map_nil,List.mem_singleton]
  constructor
  ·rintro rfl;exact⟨0,Nat.le_refl _,[],rfl,rfl⟩
  ·rintro⟨n,hn,l,hl,h⟩
   have:l=[]:=List.length_eq_zero_iff.mp (by lia)
   subst this;exact Eq.symm h
 ·simp
 ·simp at hm
  subst hm
  exact⟨[],.root (by simp[Abn,show look ([]:Ab5) _=none from rfl]),rfl,Nat.le_refl _,fun n hn=>absurd hn (by simp)⟩
theorem Ball.next{r:Tm}{i:Nat}{K:Ab5}{ends:List Tm}{new:New}(b:Ball sds r i K ends)(g:AhC sds K ends ends new):Ball sds r (i+1) (K++new.map ent) (new.map (·.1)):=by
 have hkeys:(K++new.map ent).map (·.1)=K.map (·.1)++new.map (·.1):=by simp[ent]
 have hnd:=g.nodup
 have hdis:∀ m∈new.map (·.1),m∉K.map (·.1):=fun m hm hk=>(List.nodup_append.mp hnd).2.2 m hk m hm rfl
 have hend:∀ p∈ends,Rch sds i r p:=fun p hp=>by
  obtain⟨h1,h2⟩:=(b.sphere p).mp hp
  obtain⟨n,hn,h⟩:=(b.ball p).mp h1
  by_cases e:n=i
  ·exact e▸h
  ·exact absurd h (h2 n (Nat.lt_of_le_of_ne hn e))
 have hball:∀ m,m∈K.map (·.1)++new.map (·.1)↔∃ n,n≤i+1∧Rch sds n r m:=fun m=>by
  rw[List.mem_append]
  constructor
  ·rintro (h | h)
   ·obtain⟨n,hn,h⟩:=(b.ball m).mp h
    exact⟨n,by exact Nat.le_trans hn (Nat.le_add_right _ _),h⟩
   ·obtain⟨e,he,rfl⟩:=List.mem_map.mp h
    obtain⟨h1,h2⟩:=g.step e he
    exact⟨i+1,Nat.le_refl _,Ae3 (hend _ h1) h2⟩
  ·rintro⟨n,hn,h⟩
   by_cases e:n=i+1
   ·subst e
    obtain⟨p,s,h1,h2⟩:=Ae4 h
    have hp:p∈K.map (·.1):=(b.ball p).mpr ⟨i,Nat.le_refl _,h1⟩
    by_cases q:p∈ends
    ·exact g.full p q _ h2
    ·have:∃ n,n<i∧Rch sds n r p:=Classical.byContradiction fun z=>q ((b.sphere p).mpr ⟨hp,fun n hn hr=>z ⟨n,hn,hr⟩⟩)
     obtain⟨k,hk,hr⟩:=this
     exact .inl ((b.ball m).mpr ⟨k+1,by exact hk,Ae3 hr h2⟩)
   ·exact .inl ((b.ball m).mpr ⟨n,by lia,h⟩)
 refine⟨by rw[hkeys];exact hnd,(List.nodup_append.mp hnd).2.1,fun m=>by rw[hkeys];exact hball m,fun m=>?_,fun m hm=>?_⟩
 ·rw[hkeys]
  constructor
  ·intro h
   refine⟨List.mem_append.mpr (.inr h),fun n hn hr=>hdis m h ((b.ball m).mpr ⟨n,ln2 (.c 1 (.p 0 1) (.p 1 1) (.g 0 (.v 0) (.v 1))) rfl hn,hr⟩)⟩
  ·rintro⟨h,k⟩
   rcases List.mem_append.mp h with h | h
   ·obtain⟨n,hn,hr⟩:=(b.ball m).mp h
    exact absurd hr (k n (by exact Nat.add_le_add_right hn 1))
   ·exact h
 ·rw[hkeys] at hm
  rcases List.mem_append.mp hm with h | h
  ·obtain⟨l,h1,h2,h3,h4⟩:=b.chain m h
   exact⟨l,Agc h1,h2,by exact Nat.le_trans h3 (Nat.le_add_right _ _),h4⟩
  ·have hdm:=hdis m h
   obtain⟨e,he,rfl⟩:=List.mem_map.mp h
   obtain⟨z1,z2⟩:=g.step e he
   obtain⟨k1,k2⟩:=(b.sphere _).mp z1
   obtain⟨l,h1,h2,h3,h4⟩:=b.chain _ k1
   have hl:l.length=i:=by
    by_cases q:l.length=i
    ·exact q
    ·exact absurd ⟨l.reverse,by simp,h2⟩ (k2 l.length (Nat.lt_of_le_of_ne h3 q))
   have hn2:((new.map ent).map (·.1)).Nodup:=by
    have:=(List.nodup_append.mp hnd).2.1
    rw[List.map_map];exact this
   have hg:look (K++new.map ent) e.1=some (some (e.2.1,e.2.2)):=by
    rw[Afg hdm]
    exact Afe (e:=ent e) hn2 (List.mem_map.mpr ⟨e,he,rfl⟩)
   refine⟨e.2.2::l,.step hg (Agc h1),?_,by simp;exact h3,fun n hn hr=>hdm ((b.ball _).mpr ⟨n,by simp at hn;exact ln3 (.e 1 0 (.v 0) (.v 1) (.c 1 (.p 2 1) (.p 0 1) (.g 0 (.v 2) (.v 1)))) rfl hl hn,hr⟩)⟩
   rw[List.reverse_cons]
   exact AdP h2 ⟨e.1,z2,rfl⟩
theorem Ball.all{r:Tm}{i:Nat}{K:Ab5}(b:Ball sds r i K []){n:Nat}{m:Tm}(h:Rch sds n r m):m∈K.map (·.1):=by
 induction n generalizing m with
 | zero=>exact(b.ball m).mpr ⟨0,Nat.zero_le _,h⟩
 | succ n ih=>
  obtain⟨p,s,h1,h2⟩:=Ae4 h
  have hp:=ih h1
  have:∃ n,n<i∧Rch sds n r p:=Classical.byContradiction fun z=>(List.not_mem_nil) ((b.sphere p).mpr ⟨hp,fun n hn hr=>z ⟨n,hn,hr⟩⟩)
  obtain⟨k,hk,hr⟩:=this
  exact(b.ball m).mpr ⟨k+1,by exact hk,Ae3 hr h2⟩
structure Closed(sds:List Sd)(S:List Tm):Prop where
 near:∀ p∈S,∀ q∈Aas sds p,q.2∈S
 w:∀ t∈S,t.w≤4
theorem Closed.rch{S:List Tm}(c:Closed sds S){n:Nat}{r m:Tm}(hr:r∈S)(h:Rch sds n r m):m∈S:=by
 induction n generalizing m with
 | zero=>
  obtain⟨l,hl,h⟩:=h
  rw[List.length_eq_zero_iff.mp hl] at h
  rw[← show r=m from h];exact hr
 | succ n ih=>
  obtain⟨p,s,h1,h2⟩:=Ae4 h
  exact c.near p (ih h1) _ h2
theorem Ball.sub{S:List Tm}(c:Closed sds S){r:Tm}{i:Nat}{K:Ab5}{ends:List Tm}(b:Ball sds r i K ends)(hr:r∈S):∀ t∈K.map (·.1),t∈S:=fun t ht=>by
 obtain⟨n,_,h⟩:=(b.ball t).mp ht
 exact c.rch hr h
theorem Ball.len{S:List Tm}(c:Closed sds S){r:Tm}{i:Nat}{K:Ab5}{ends:List Tm}(b:Ball sds r i K ends)(hr:r∈S):K.length≤S.length:=by
 have:=Acr b.nodup (b.sub c hr)
 simpa using this
theorem Ball.esub{S:List Tm}(c:Closed sds S){r:Tm}{i:Nat}{K:Ab5}{ends:List Tm}(b:Ball sds r i K ends)(hr:r∈S):∀ t∈ends,t∈S:=fun t ht=>b.sub c hr t ((b.sphere t).mp ht).1
theorem Ball.elen{S:List Tm}(c:Closed sds S){r:Tm}{i:Nat}{K:Ab5}{ends:List Tm}(b:Ball sds r i K ends)(hr:r∈S):ends.length≤S.length:=Acr b.enodup (b.esub c hr)
noncomputable def Short(sds:List Sd)(t u:Tm)(l:List Step):Prop:=Ag2 sds t l u∧∀ n,n<l.length→¬ Rch sds n t u
theorem meet{t u m:Tm}{i j:Nat}{Kt Ku:Ab5}{et eu:List Tm}{l1 l2:List Step}(bt:Ball sds t i Kt et)(bu:Ball sds u j Ku eu)(hsym:j=0∨Sd.drop∉sds)(hno:∀ n,n<i+j→¬ Rch sds n t u)
  (hm1:m∈Kt.map (·.1)) (hm2:m∈Ku.map (·.1)) (c1:Abp Kt m l1) (c2:Abp Ku m l2):Short sds t u (l1.reverse++l2.map Step.turn):=by
 obtain⟨k1,a1,a2,a3,a4⟩:=bt.chain m hm1
 obtain⟨k2,b1,b2,b3,b4⟩:=bu.chain m hm2
 obtain rfl:=Adc a1 c1
 obtain rfl:=Adc b1 c2
 have w2:Ag2 sds m (k2.map Step.turn) u:=by
  rcases hsym with rfl | hd
  ·have:k2=[]:=List.length_eq_zero_iff.mp (Nat.le_antisymm (ln1 (.c 1 (.v 0) (.n 0) (.g 0 (.v 0) (.n 0))) rfl b3) (ln1 (.g 0 (.n 0) (.v 0)) rfl))
   subst this;exact Eq.symm b2
  ·have:=AfB hd b2
   rwa [List.reverse_reverse] at this
 refine⟨AdP a2 w2,fun n hn=>hno n ?_⟩
 simp at hn;exact ln5 (.c 1 (.v 0) (.v 1) (.c 1 (.v 2) (.v 3) (.c 1 (.p 4 1) (.b 0 2) (.g 0 (.p 4 1) (.b 1 3))))) rfl a3 b3 hn
theorem no_meet{t u:Tm}{i j:Nat}{Kt Ku:Ab5}{et eu:List Tm}(bt:Ball sds t i Kt et)(bu:Ball sds u j Ku eu)(hsym:j=0∨Sd.drop∉sds)(hno:∀ n,n<i+j→¬ Rch sds n t u)
  (hm:∀ m,m∈Kt.map (·.1)→m∉Ku.map (·.1)):∀ n,n≤i+j→¬ Rch sds n t u:=fun n hn hr=>by
 by_cases e:n=i+j
 ·subst e
  obtain⟨m,h1,h2⟩:=rch_mid hr
  refine hm m ((bt.ball m).mpr ⟨i,Nat.le_refl _,h1⟩) ((bu.ball m).mpr ⟨j,Nat.le_refl _,?_⟩)
  rcases hsym with rfl | hd
  ·obtain⟨l,hl,h⟩:=h2
   rw[List.length_eq_zero_iff.mp hl] at h
   exact⟨[],rfl,Eq.symm h⟩
  ·exact Ad8 hd h2
 ·exact hno n (by lia) hr
end
end Pq
namespace Pq
variable[Own]
noncomputable def WayR(sds:List Sd)(t u:Tm)(σ:AH)(v:AV)(σ':AH):Prop:=
 (v=.none∧∀ n,¬ Rch sds n t u)∨∃ b l,v=.obj b∧σ b=none∧σ' b=some (.list (l.map Step.av))∧Short sds t u l∧l.length≤200
omit [Own] in
theorem AcV{t:Tm}(h:t.w≤4):AcX .term t.av:=by
 have:=t.depth_w
 show Abx 8 t.av=true
 exact Tm.ok (ln2 (.c 1 (.v 0) (.n 4) (.c 1 (.v 1) (.v 0) (.g 0 (.v 1) (.n 8)))) rfl h this)
noncomputable def one?{α:Type}(l:List α):Nat:=List.casesOn l 0 fun jj jj=>1
omit [Own] in
theorem AgH{α:Type}{l:List α}(h:l≠[]):one? l=1:=by
 cases l with
 | nil=>exact absurd rfl h
 | cons=>rfl
omit [Own] in
theorem Aea{α β:Type}(f:α→β)(l:List α):one? (l.map f)≤l.length:=by
 cases l with
 | nil=>exact Nat.le_refl _
 | cons=>exact Nat.succ_le_succ (Nat.zero_le _)
omit [Own] in
theorem meas1{S k w b:Nat}(h:k+w≤S)(hb:b≤w):S - (k+w)+b<S - k+1:=by
 rw[Nat.sub_add_eq]
 exact Nat.lt_succ_of_le (Nat.le_trans (Nat.add_le_add_left hb _) (Nat.le_of_eq (Nat.sub_add_cancel (Nat.le_sub_of_add_le' h))))
omit [Own] in
theorem meas2{S k w b c p:Nat}(h:k+w≤S)(hb:b≤w):S - (k+w)+c+b+p<S - k+c+1+p:=by
 rw[Nat.add_right_comm _ c b,Nat.add_right_comm _ c 1]
 exact Nat.add_lt_add_right (Nat.add_lt_add_right (meas1 h hb) c) p
omit [Own] in
theorem meas3{S k w b c o:Nat}(h:k+w≤S)(hb:b≤w):c+(S - (k+w))+o+b<c+(S - k)+o+1:=by
 rw[Nat.add_right_comm c _ o,Nat.add_right_comm c _ o,Nat.add_assoc,Nat.add_assoc (c+o)]
 exact Nat.add_lt_add_left (meas1 h hb) _
omit [Own] in
theorem lt64{k i o K S:Nat}(h1:k≤i)(h2:i+o≤K)(h3:K≤S)(h4:S<64):k≤100:=
 Nat.le_trans h1 (Nat.le_trans (Nat.le_trans (Nat.le_add_right _ _) h2) (Nat.le_trans h3 (Nat.le_of_lt (Nat.lt_trans h4 (by decide)))))
structure WayI{B:Aaj}(P:Prg B)(sds:List Sd)(gb:Bool)(t u:Tm)(St Su:List Tm)(most:Nat)(x ha ta:Addr)(σ:AH)(n:Nat)(vars:Vars)(σ':AH)(i j:Nat)(Kh Kt:Ab5)(ends others:List Tm)(eb ob:Addr):Prop where
 v1:vars "self"=some (.obj x)
 v2:vars "here"=some (.obj ha)
 v3:vars "there"=some (.obj ta)
 v4:vars "ends"=some (.obj eb)
 v5:vars "others"=some (.obj ob)
 v6:vars "most"=some (.int most)
 keep:Keep σ σ'
 dh:σ' ha=some (.dict (Kh.map kAV))
 dt:σ' ta=some (.dict (Kt.map kAV))
 le:σ' eb=some (.list (ends.map Tm.av))
 lo:σ' ob=some (.list (others.map Tm.av))
 bt:Ball sds t i Kh ends
 bu:Ball sds u j Kt others
 sym:j=0∨gb=true
 no:∀ n,n<i+j→¬ Rch sds n t u
 ci:i+one? ends≤Kh.length
 cj:j+one? others≤Kt.length
 meas:n=(St.length - Kh.length)+(Su.length - Kt.length)+one? ends+one? others
section
variable{B:Aaj}{d:Nat}{σ:AH}
inductive R18b{B:Aaj}(P:Prg B)(sds:List Sd)(gb:Bool)(t:Tm)(u:Tm)(St:List Tm)(Su:List Tm)(most:Nat)(x:Addr)(ha:Addr)(ta:Addr)(σ:AH)(n:Nat)(vars:Vars)(σ':AH):Prop
 | mk (i j Kh Kt ends others eb ob:_) (h1:WayI P sds gb t u St Su most x ha ta σ n vars σ' i j Kh Kt ends others eb ob)
inductive R18c(σc:AH)(l':List (Tm×Option (Tm×Step)))(Kt:Ab5)(xs:List AV)(ys:List AV)(σ'':AH):Prop
 | mk (h1:σ''=σc) (dn td:List (Tm×Option (Tm×Step))) (ms:List Tm) (h2:xs=td.map (fun e=>e.1.av)) (h3:ys=ms.map Tm.av) (h4:dn++td=l') (h5:(∀ m,m∈ms↔m∈dn.map (·.1)∧m∈Kt.map (·.1)))
inductive R18d{B:Aaj}(n:Nat)(P:Prg B)(sds:List Sd)(gb:Bool)(t:Tm)(u:Tm)(St:List Tm)(Su:List Tm)(most:Nat)(x:Addr)(ha:Addr)(ta:Addr)(σ:AH)(vars':Vars)(v:AV)(σ₂:AH):Prop
 | mk (m:_) (h1:m<n) (i j Kh Kt ends others eb ob:_) (h2:v=.obj eb) (h3:WayI P sds gb t u St Su most x ha ta σ m (Abl vars' "ends" v) σ₂ i j Kh Kt ends others eb ob)
inductive R18e{B:Aaj}(n:Nat)(P:Prg B)(sds:List Sd)(gb:Bool)(t:Tm)(u:Tm)(St:List Tm)(Su:List Tm)(most:Nat)(x:Addr)(ha:Addr)(ta:Addr)(σ:AH)(vars':Vars)(v:AV)(σ₂:AH):Prop
 | mk (m:_) (h1:m<n) (i j Kh Kt ends others eb ob:_) (h2:v=.obj ob) (h3:WayI P sds gb t u St Su most x ha ta σ m (Abl vars' "others" v) σ₂ i j Kh Kt ends others eb ob)
noncomputable def v18a(x:Addr)(t:Tm)(u:Tm)(most:Nat):Vars:=fV ["self","t","u","most"] [.obj x,t.av,u.av,.int most]
set_option maxHeartbeats 2000000 in
theorem way_AK(P:Prg B){x:Addr}{sds:List Sd}{gb:Bool}{t u:Tm}{St Su:List Tm}{most:Nat}(hS:IsSeeker P σ x sds gb)(hn:sds.length≤3)(hgb:gb=true→Sd.drop∉sds)
  (cS:Closed sds St) (cU:Closed sds Su) (htS:t∈St) (huS:u∈Su) (hS63:St.length<64) (hU63:Su.length<64) (hmost:t≠u→St.length≤most∧(Su.length≤most∨St.length≤1)) :
  AK B (d+12) (.ref (P.m 16 5)) [.obj x,t.av,u.av,.int most] σ fun v σ'=>Keep σ σ'∧WayR sds t u σ v σ':=by
 have F:=P.mfn (16,5) (by decide)
 have hw1:=cS.w t htS
 have hw2:=cU.w u huS
 refine Abm (d:=d+11) P.O F (names:=["self","t","u","most"]) (hb4 fun jj jj jj jj jj jj jj jj jj jj jj jj=>rfl) (by decide +kernel) fun qn L cd=>?_
 let E:=fE (AaB (AeR 16 5)) (P.m 16 5) qn L cd
 let V:=v18a x t u most
 show AX B _ E V (execs _ E) _ _
 refine Aad ?_
 refine AaS rfl rfl ?_
 refine Aam ?_
 have fit0:∀ v:Tm,v.w≤4→Fits [] [(v.av,AV.none)]:=fun v hv=>⟨.inr ⟨.term,AcV hv,fun jj h=>nomatch h⟩,trivial⟩
 refine Aab rfl ?_
 refine AdB rfl ?_
 refine Abr ?_
 refine Aaa (a:=t.av) (by rfl) (by rfl) ?_
 refine Aat ?_
 refine AcB ⟨fit0 t hw1,by simp,fun ha hha=>?_⟩
 refine Aab rfl ?_
 refine AdB rfl ?_
 refine Abr ?_
 refine Aaa (a:=u.av) (by rfl) (by rfl) ?_
 refine Aat ?_
 refine AcB ⟨fit0 u hw2,by simp,fun ta hta=>?_⟩
 refine Aaf ⟨lnk rfl,?_⟩
 refine a_n2 rfl rfl ?_
 have hne:ha≠ta:=ne1 (Aac _ _ _) hta
 have hta0:σ ta=none:=by rw[Aai _ _ (Ne.symm hne)] at hta;exact hta
 refine Aah ?_
 have d1:upd (upd σ ha (.dict (AdR [] [(t.av,AV.none)]))) ta (.dict (AdR [] [(u.av,AV.none)])) ha=some (.dict ([(t,none)].map kAV)):=by rw[Aai _ _ hne,Aac];rfl
 have d2:upd (upd σ ha (.dict (AdR [] [(t.av,AV.none)]))) ta (.dict (AdR [] [(u.av,AV.none)])) ta=some (.dict ([(u,none)].map kAV)):=by rw[Aac];rfl
 have hK0:Keep σ (upd (upd σ ha (.dict (AdR [] [(t.av,AV.none)]))) ta (.dict (AdR [] [(u.av,AV.none)]))):=((Keep.refl σ).upd (.inl hha) _).upd (.inl hta) _
 generalize upd (upd σ ha (.dict (AdR [] [(t.av,AV.none)]))) ta (.dict (AdR [] [(u.av,AV.none)]))=σ₁ at d1 d2 hK0
 refine Aad ?_
 refine AbA rfl rfl (names:=["ends","others"]) ?_
 refine Aam ?_
 refine Aab rfl ?_
 refine AaI ?_
 refine Aag (.loc (a:=t.av) (by rfl) (by rfl) .nil) ⟨lnk rfl,fun eb heb=>?_⟩
 refine Aab rfl ?_
 refine AaI ?_
 refine Aag (.loc (a:=u.av) (by rfl) (by rfl) .nil) ⟨lnk rfl,fun ob hob=>?_⟩
 refine Aaf ⟨lnk rfl,_,rfl,rfl,?_⟩
 refine Aar ?_
 refine AdH rfl ?_
 refine Aar ?_
 refine AdH rfl ?_
 refine AbO ?_
 refine Aah ?_
 have hneb:eb≠ob:=ne1 (Aac _ _ _) hob
 refine Aad ?_
 refine AeY ((R18b P sds gb t u St Su most x ha ta σ)) ((St.length - 1)+(Su.length - 1)+1+1) ?_ ?_
 ·refine⟨0,0,[(t,none)],[(u,none)],[t],[u],eb,ob,by rfl,by rfl,by rfl,by rfl,by rfl,by rfl,(hK0.upd (.inl heb) _).upd (.inl hob) _,?_,?_,?_,Aac _ _ _,Ball.start t,Ball.start u,.inl rfl,fun n hn=>absurd hn (Nat.not_lt_zero _),by simp[one?],by simp[one?],rfl⟩
  ·exact(((Keep.refl σ₁).upd (.inl heb) _).upd (.inl hob) _) _ _ d1
  ·exact(((Keep.refl σ₁).upd (.inl heb) _).upd (.inl hob) _) _ _ d2
  ·rw[Aai _ _ hneb,Aac];rfl
 ·rintro n vars σ' ⟨i,j,Kh,Kt,ends,others,eb,ob,I⟩
  have hKhS:∀ m∈Kh.map (·.1),m∈St:=I.bt.sub cS htS
  have hKtS:∀ m∈Kt.map (·.1),m∈Su:=I.bu.sub cU huS
  have hKhl:=I.bt.len cS htS
  have hKtl:=I.bu.len cU huS
  have hel:=I.bt.elen cS htS
  have hol:=I.bu.elen cU huS
  have hKhw:∀ e∈Kh,e.1.w≤4:=fun e he=>cS.w _ (hKhS _ (List.mem_map.mpr ⟨e,he,rfl⟩))
  have hKtw:∀ e∈Kt,e.1.w≤4:=fun e he=>cU.w _ (hKtS _ (List.mem_map.mpr ⟨e,he,rfl⟩))
  refine Aa9 rfl ?_
  refine Abf ?_
  refine AaU ?_
  refine Abh rfl ?_
  refine Aad ?_
  refine AaG rfl rfl rfl (cl:=[("there",L+1)]) ⟨by rfl,by rfl,by simp,by rfl,by decide,by rfl,by decide⟩ ?_
  refine AaC ?_
  refine e_g P.O (by rfl) P.g_sorted rfl ?_
  refine Aag (.loc (a:=.obj ha) (by rfl) I.v2 .nil) ?_
  refine AbY (τ:=.term) I.dh (fun kv hkv=>?_) (by simp;exact ln2 (.c 1 (.p 0 1) (.n 64) (.c 1 (.v 1) (.v 0) (.g 0 (.p 1 1) (.n 64)))) rfl hS63 hKhl) fun c l hc hp=>?_
  ·obtain⟨e,he,rfl⟩:=List.mem_map.mp hkv
   exact AcV (hKhw e he)
  rw[List.map_map] at hp
  obtain⟨l',hl',rfl⟩:=Ag8 (f:=fun e:Tm×Option (Tm×Step)=>e.1.av) (l:=Kh) (m:=l) hp
  refine⟨c,_,rfl,Aac _ _ _,by rw[List.length_map,hl'.length_eq];exact ln2 (.c 1 (.p 0 1) (.n 64) (.c 1 (.v 1) (.v 0) (.g 0 (.v 1) (.n 1000)))) rfl hS63 hKhl,?_⟩
  have hKc:Keep σ' (upd σ' c (.list (l'.map fun e=>e.1.av))):=(Keep.refl σ').upd (.inl hc) _
  generalize upd σ' c (.list (l'.map fun e=>e.1.av))=σc at hKc
  refine⟨(R18c σc l' Kt),⟨rfl,[],l',[],rfl,rfl,rfl,by simp⟩,?_,?_⟩
  ·rintro C y xs ys σ'' hsat ⟨rfl,dn,td,ms,hx,rfl,hd,hms⟩
   obtain⟨e,td⟩:=Abb hx
   have heK:e∈Kh:=hl'.mem_iff.mp (by rw[← hd];simp)
   refine AaY rfl ?_
   refine AdC ?_
   refine Aax rfl ?_
   refine Aaa (a:=e.1.av) (by rfl) (by rfl) ?_
   refine AaD (a:=.obj ta) (by rfl) (by exact I.v3) ?_
   refine c_in (hKc _ _ I.dt) (AgR hKtw (hKhw e heK)) ?_
   rw[Ada]
   cases hg:look Kt e.1 with
   | none=>
    have hnk:=Abt.mp hg
    refine AaV (by decide) ?_
    refine⟨hsat,rfl,dn++[e],td,ms,rfl,rfl,by simp[← hd],fun m=>?_⟩
    rw[hms,List.map_append,List.mem_append]
    constructor
    ·rintro⟨a,b⟩;exact⟨.inl a,b⟩
    ·rintro⟨a | a,b⟩
     ·exact⟨a,b⟩
     ·simp at a;subst a;exact absurd b hnk
   | some o=>
    have hk:=Aff hg
    refine Abh rfl ?_
    refine Aaa (a:=e.1.av) (by rfl) (by rfl) ⟨hsat,rfl,dn++[e],td,ms++[e.1],rfl,by simp,by simp[← hd],fun m=>?_⟩
    rw[List.mem_append,hms,List.map_append,List.mem_append]
    constructor
    ·rintro (⟨a,b⟩ | a)
     ·exact⟨.inl a,b⟩
     ·simp at a;subst a;exact⟨.inr (by simp),hk⟩
    ·rintro⟨a | a,b⟩
     ·exact .inl ⟨a,b⟩
     ·exact .inr (by simpa using a)
  ·rintro ys σ'' hsat ⟨rfl,dn,td,ms,hx,rfl,hd,hms⟩ hlen mb hmb
   obtain rfl:td=[]:=Adk hx
   rw[List.append_nil] at hd
   subst hd
   have hms':∀ m,m∈ms↔m∈Kh.map (·.1)∧m∈Kt.map (·.1):=fun m=>by rw[hms,(hl'.map (·.1)).mem_iff]
   refine Aah ?_
   have hKm:Keep σ' (upd σ'' mb (.list (ms.map Tm.av))):=hKc.upd (.inl hmb) _
   have hmbl:upd σ'' mb (.list (ms.map Tm.av)) mb=some (.list (ms.map Tm.av)):=Aac _ _ _
   generalize upd σ'' mb (.list (ms.map Tm.av))=σm at hKm hmbl
   have hKall:=I.keep.trans hKm
   have hSm:=hS.keep hKall
   refine Aad ?_
   refine AbV ?_
   refine Aax rfl ?_
   refine e_g P.O (by rfl) P.g_len rfl ?_
   refine Aag (.loc (a:=.obj mb) (by rfl) (by rfl) .nil) ?_
   refine Abo hmbl hlen ?_
   refine Aae ?_
   refine AbD ?_
   by_cases hmn:ms=[]
   ·subst hmn
    refine AaV (by decide) ?_
    refine AaK ?_
    refine Aah ?_
    have hdis:∀ m,m∈Kh.map (·.1)→m∉Kt.map (·.1):=fun m h1 h2=>absurd ((hms' m).mpr ⟨h1,h2⟩) (List.not_mem_nil)
    have hsymD:j=0∨Sd.drop∉sds:=I.sym.imp id hgb
    have hno2:=no_meet I.bt I.bu hsymD I.no hdis
    have ht0:t∈Kh.map (·.1):=(I.bt.ball t).mpr ⟨0,Nat.zero_le _,[],rfl,rfl⟩
    have hu0:u∈Kt.map (·.1):=(I.bu.ball u).mpr ⟨0,Nat.zero_le _,[],rfl,rfl⟩
    have htu:t≠u:=fun e=>hdis t ht0 (e▸hu0)
    obtain⟨hm1,hm2⟩:=hmost htu
    obtain⟨dx,sb,hx1,hx2,hx3⟩:=id hSm
    have leC:=hKm _ _ I.le
    have loC:=hKm _ _ I.lo
    have dhC:=hKm _ _ I.dh
    have dtC:=hKm _ _ I.dt
    have none1:ends=[]→∀ n,¬ Rch sds n t u:=fun e n hr=>by
     have b:=I.bt;rw[e] at b
     exact hdis u (b.all hr) hu0
    have none2:gb=true→others=[]→∀ n,¬ Rch sds n t u:=fun hg e n hr=>by
     have b:=I.bu;rw[e] at b
     exact hdis t ht0 (b.all (Ad8 (hgb hg) hr))
    have out:(∀ n,¬ Rch sds n t u)→Keep σ σm∧WayR sds t u σ .none σm:=fun h=>⟨hKall,.inl ⟨rfl,h⟩⟩
    refine Aad ?_
    refine AbV ?_
    refine Ad2 ?_
    refine Aax rfl ?_
    refine e_g P.O (by rfl) P.g_len rfl ?_
    refine Aag (.loc (a:=.obj eb) (by rfl) (by exact I.v4) .nil) ?_
    refine Abo leC (by simp;exact ln2 (.c 1 (.p 0 1) (.n 64) (.c 1 (.v 1) (.v 0) (.g 0 (.v 1) (.n 1000)))) rfl hS63 hel) ?_
    refine Aae ?_
    refine AbU ?_
    by_cases hE:ends=[]
    ·refine AhY (by simp[hE]) ?_
     refine Abh rfl ?_
     refine Aad ?_
     refine Aal ?_
     refine Aat ?_
     exact Aap (Aap (Aap (out (none1 hE))))
    ·have hE1:1≤ends.length:=List.length_pos_iff.mpr hE
     have hoE:=AgH hE
     refine Af3 (by simp;lia) ?_
     have growE:∀ vars':Vars,vars' "self"=some (.obj x)→vars' "here"=some (.obj ha)→vars' "there"=some (.obj ta)→vars' "ends"=some (.obj eb)→vars' "others"=some (.obj ob)→vars' "most"=some (.int most) →
       AC B (d+11) (.ref (P.m 16 3)) [.obj x,.obj ha,.obj eb,.int most] σm (R18d n P sds gb t u St Su most x ha ta σ vars'):=by
      intro vars' a1 a2 a3 a4 a5 a6
      refine(Ahp (d:=0) P (S:=St) hSm hn dhC leC I.bt.nodup hKhS cS.w (I.bt.esub cS htS) (fun p hp=>cS.near p (I.bt.esub cS htS p hp)) hm1 (ln1 (.c 1 (.p 0 1) (.n 64) (.g 0 (.v 0) (.n 900))) rfl hS63)).use rfl ?_
      rintro v σ₂ ⟨b,new,rfl,hb,hKX,hd2,hl2,hG⟩
      have hlen2:Kh.length+new.length≤St.length:=by
       have:=(I.bt.next hG).len cS htS
       simpa using this
      have hKo:∀ a o,σ' a=some o→a≠ha→σ₂ a=some o:=fun a o h1 h2=>hKX a o h2 (hKm a o h1)
      refine⟨(St.length - (Kh++new.map ent).length)+(Su.length - Kt.length)+one? (new.map (·.1))+one? others,?_,i+1,j,Kh++new.map ent,Kt,new.map (·.1),others,b,ob,rfl,a1,a2,a3,by rfl,a5,a6,fun a o h=>hKX a o (fun e=>by subst e;rw[hha] at h;cases h) (hKall a o h),hd2,hKo _ _ I.dt (Ne.symm hne),by rw[hl2];simp,hKo _ _ I.lo (fun e=>by have:=I.lo;rw[e,I.dh] at this;cases this),I.bt.next hG,I.bu,I.sym,fun n hn=>hno2 n (ln3 (.c 1 (.p 0 1) (.a (.p 1 1) (.v 2)) (.g 0 (.v 0) (.b 1 2))) rfl hn),?_,I.cj,rfl⟩
      ·rw[I.meas,hoE,List.length_append,List.length_map];exact meas2 hlen2 (Aea _ _)
      ·rw[List.length_append,List.length_map];exact Nat.add_le_add (hoE▸I.ci) (Aea _ _)
     have growO:gb=true→others≠[]→others.length<ends.length→∀ vars':Vars,vars' "self"=some (.obj x)→vars' "here"=some (.obj ha)→vars' "there"=some (.obj ta)→vars' "ends"=some (.obj eb)→vars' "others"=some (.obj ob)→vars' "most"=some (.int most) →
       AC B (d+11) (.ref (P.m 16 3)) [.obj x,.obj ta,.obj ob,.int most] σm (R18e n P sds gb t u St Su most x ha ta σ vars'):=by
      intro hg hO hlt vars' a1 a2 a3 a4 a5 a6
      have hO1:1≤others.length:=List.length_pos_iff.mpr hO
      have hoO:=AgH hO
      have hm3:Su.length≤most:=by
       rcases hm2 with h | h
       ·exact h
       ·lia
      refine(Ahp (d:=0) P (S:=Su) hSm hn dtC loC I.bu.nodup hKtS cU.w (I.bu.esub cU huS) (fun p hp=>cU.near p (I.bu.esub cU huS p hp)) hm3 (ln1 (.c 1 (.p 0 1) (.n 64) (.g 0 (.v 0) (.n 900))) rfl hU63)).use rfl ?_
      rintro v σ₂ ⟨b,new,rfl,hb,hKX,hd2,hl2,hG⟩
      have hlen2:Kt.length+new.length≤Su.length:=by
       have:=(I.bu.next hG).len cU huS
       simpa using this
      have hKo:∀ a o,σ' a=some o→a≠ta→σ₂ a=some o:=fun a o h1 h2=>hKX a o h2 (hKm a o h1)
      refine⟨(St.length - Kh.length)+(Su.length - (Kt++new.map ent).length)+one? ends+one? (new.map (·.1)),?_,i,j+1,Kh,Kt++new.map ent,ends,new.map (·.1),eb,b,rfl,a1,a2,a3,a4,by rfl,a6,fun a o h=>hKX a o (fun e=>by subst e;rw[hta0] at h;cases h) (hKall a o h),hKo _ _ I.dh hne,hd2,hKo _ _ I.le (fun e=>by have:=I.le;rw[e,I.dt] at this;cases this),by rw[hl2];simp,I.bt,I.bu.next hG,.inr hg,fun n hn=>hno2 n (ln3 (.c 1 (.p 0 1) (.a (.v 1) (.p 2 1)) (.g 0 (.v 0) (.b 1 2))) rfl hn),I.ci,?_,rfl⟩
      ·rw[I.meas,hoO,List.length_append,List.length_map];exact meas3 hlen2 (Aea _ _)
      ·rw[List.length_append,List.length_map];exact Nat.add_le_add (hoO▸I.cj) (Aea _ _)
     cases hg:gb with
     | false=>
      subst hg
      refine Ad2 ?_
      refine AdJ ?_
      refine Aa9 rfl ?_
      refine Ahs P.O (by rfl) (by exact I.v1) hx1 hx2 (P.sget "goes_back" (by decide)).1 (by rfl) rfl ?_
      refine AaU ?_
      refine AaV (by decide) ?_
      refine AaV (by decide) ?_
      refine Ad1 ?_
      refine AaV (by decide) ?_
      refine AaK ?_
      refine Aah ?_
      refine Aad ?_
      refine AbV ?_
      refine Ad2 ?_
      refine Ags ?_
      refine Aa9 rfl ?_
      refine Ahs P.O (by rfl) (by exact I.v1) hx1 hx2 (P.sget "goes_back" (by decide)).1 (by rfl) rfl ?_
      refine AaU ?_
      refine Abh rfl ?_
      refine Abh rfl ?_
      refine Aad ?_
      refine Aak rfl rfl ?_
      refine AaM P.O rfl rfl ?_
      refine Aaa (a:=.obj x) (by rfl) (by exact I.v1) ⟨_,Aa1 P.O hx1 hx2 (P.meth ("grown",3) (by decide)) (by rfl),P.mkeep 3 (by decide),rfl,?_⟩
      refine Aag (.loc (a:=.obj ha) (by rfl) (by exact I.v2) (.loc (a:=.obj eb) (by rfl) (by exact I.v4) (.loc (a:=.int most) (by rfl) (by exact I.v6) .nil))) ((growE (Abl vars "meeting" (.obj mb)) (by exact I.v1) (by exact I.v2) (by exact I.v3) (by exact I.v4) (by exact I.v5) (by exact I.v6)).mono ?_)
      rintro v σ₂ ⟨m,hm,i,j,Kh,Kt,ends,others,eb,ob,rfl,I'⟩
      exact Aaq (Aaq ⟨m,hm,i,j,Kh,Kt,ends,others,eb,ob,I'⟩)
     | true=>
      subst hg
      refine Ad2 ?_
      refine AdJ ?_
      refine Aa9 rfl ?_
      refine Ahs P.O (by rfl) (by exact I.v1) hx1 hx2 (P.sget "goes_back" (by decide)).1 (by rfl) rfl ?_
      refine AaU ?_
      refine Abh rfl ?_
      refine AdJ ?_
      refine Aax rfl ?_
      refine e_g P.O (by rfl) P.g_len rfl ?_
      refine Aag (.loc (a:=.obj ob) (by rfl) (by exact I.v5) .nil) ?_
      refine Abo loC (by simp;exact ln2 (.c 1 (.p 0 1) (.n 64) (.c 1 (.v 1) (.v 0) (.g 0 (.v 1) (.n 1000)))) rfl hU63 hol) ?_
      refine Aae ?_
      refine AbU ?_
      by_cases hO:others=[]
      ·refine AhY (by simp[hO]) ?_
       refine Ail ?_
       refine Abh rfl ?_
       refine Abh rfl ?_
       refine Aad ?_
       refine Aal ?_
       refine Aat ?_
       exact Aap (Aap (Aap (out (none2 rfl hO))))
      ·have hO1:1≤others.length:=List.length_pos_iff.mpr hO
       refine Af3 (by simp;lia) ?_
       refine AaV (by decide) ?_
       refine Ad1 ?_
       refine AaV (by decide) ?_
       refine AaK ?_
       refine Aah ?_
       refine Aad ?_
       refine AbV ?_
       refine Ad2 ?_
       refine Ags ?_
       refine Aa9 rfl ?_
       refine Ahs P.O (by rfl) (by exact I.v1) hx1 hx2 (P.sget "goes_back" (by decide)).1 (by rfl) rfl ?_
       refine AaU ?_
       refine AaV (by decide) ?_
       refine Ad2 ?_
       refine Aax rfl ?_
       refine e_g P.O (by rfl) P.g_len rfl ?_
       refine Aag (.loc (a:=.obj eb) (by rfl) (by exact I.v4) .nil) ?_
       refine Abo leC (by simp;exact ln2 (.c 1 (.p 0 1) (.n 64) (.c 1 (.v 1) (.v 0) (.g 0 (.v 1) (.n 1000)))) rfl hS63 hel) ?_
       refine e_g P.O (by rfl) P.g_len rfl ?_
       refine Aag (.loc (a:=.obj ob) (by rfl) (by exact I.v5) .nil) ?_
       refine Abo loC (by simp;exact ln2 (.c 1 (.p 0 1) (.n 64) (.c 1 (.v 1) (.v 0) (.g 0 (.v 1) (.n 1000)))) rfl hU63 hol) ?_
       refine Aft ?_
       by_cases hlt:others.length<ends.length
       ·refine Af3 (by simp;exact ln2 (.c 1 (.p 0 1) (.v 1) (.g 0 (.p 0 1) (.v 1))) rfl hlt) ?_
        refine Ad1 ?_
        refine AaV (by decide) ?_
        refine Aad ?_
        refine Aak rfl rfl ?_
        refine AaM P.O rfl rfl ?_
        refine Aaa (a:=.obj x) (by rfl) (by exact I.v1) ⟨_,Aa1 P.O hx1 hx2 (P.meth ("grown",3) (by decide)) (by rfl),P.mkeep 3 (by decide),rfl,?_⟩
        refine Aag (.cell (a:=.obj ta) (by rfl) (by exact I.v3) (.loc (a:=.obj ob) (by rfl) (by exact I.v5) (.loc (a:=.int most) (by rfl) (by exact I.v6) .nil))) ((growO rfl hO hlt (Abl vars "meeting" (.obj mb)) (by exact I.v1) (by exact I.v2) (by exact I.v3) (by exact I.v4) (by exact I.v5) (by exact I.v6)).mono ?_)
        rintro v σ₂ ⟨m,hm,i,j,Kh,Kt,ends,others,eb,ob,rfl,I'⟩
        exact Aaq (Aaq ⟨m,hm,i,j,Kh,Kt,ends,others,eb,ob,I'⟩)
       ·refine AhY (by simp;exact ln2 (.c 1 (.v 1) (.v 0) (.g 0 (.v 1) (.v 0))) rfl (Nat.le_of_not_lt hlt)) ?_
        refine Abh rfl ?_
        refine Aad ?_
        refine Aak rfl rfl ?_
        refine AaM P.O rfl rfl ?_
        refine Aaa (a:=.obj x) (by rfl) (by exact I.v1) ⟨_,Aa1 P.O hx1 hx2 (P.meth ("grown",3) (by decide)) (by rfl),P.mkeep 3 (by decide),rfl,?_⟩
        refine Aag (.loc (a:=.obj ha) (by rfl) (by exact I.v2) (.loc (a:=.obj eb) (by rfl) (by exact I.v4) (.loc (a:=.int most) (by rfl) (by exact I.v6) .nil))) ((growE (Abl vars "meeting" (.obj mb)) (by exact I.v1) (by exact I.v2) (by exact I.v3) (by exact I.v4) (by exact I.v5) (by exact I.v6)).mono ?_)
        rintro v σ₂ ⟨m,hm,i,j,Kh,Kt,ends,others,eb,ob,rfl,I'⟩
        exact Aaq (Aaq ⟨m,hm,i,j,Kh,Kt,ends,others,eb,ob,I'⟩)
   ·have hpos:0<ms.length:=List.length_pos_iff.mpr hmn
    refine Abh (by simp;exact hpos) ?_
    obtain⟨dx,sb,hx1,hx2,hx3⟩:=id hSm
    refine Aad ?_
    refine Aal ?_
    refine AaM P.O rfl rfl ?_
    refine Aaa (a:=.obj x) (by rfl) (by exact I.v1) ⟨_,Aa1 P.O hx1 hx2 (P.meth ("through",6) (by decide)) (by rfl),P.mkeep 6 (by decide),rfl,?_⟩
    refine Aag (.loc (a:=.obj ha) (by rfl) (by exact I.v2) (.cell (a:=.obj ta) (by rfl) (by exact I.v3) (.loc (a:=.obj mb) (by rfl) (by rfl) .nil))) ((AhI (d:=0) P hSm (hKm _ _ I.dh) (hKm _ _ I.dt) hmbl hKhw hKtw (fun v o h=>cS.w _ (hKhS _ (Aff h))) (fun v o h=>cU.w _ (hKtS _ (Aff h))) hmn (fun m hm=>?_) (fun m hm=>?_)).use rfl ?_)
    ·obtain⟨l,h1,_,h3,h4⟩:=I.bt.chain m ((hms' m).mp hm).1
     exact⟨l,h1,Nat.le_trans (lt64 h3 I.ci hKhl hS63) (lnk rfl)⟩
    ·obtain⟨l,h1,_,h3,h4⟩:=I.bu.chain m ((hms' m).mp hm).2
     exact⟨l,h1,Nat.le_trans (lt64 h3 I.cj hKtl hU63) (lnk rfl)⟩
    ·rintro v σ₂ ⟨b,rfl,hb,hK2,m,hm,l1,l2,c1,c2,hbl⟩
     have hmm:=(hms' m).mp hm
     have hlen2:(l1.reverse++l2.map Step.turn).length≤200:=by
      obtain⟨k1,a1,a2,a3,a4⟩:=I.bt.chain m hmm.1
      obtain⟨k2,b1,b2,b3,b4⟩:=I.bu.chain m hmm.2
      obtain rfl:=Adc a1 c1
      obtain rfl:=Adc b1 c2
      rw[List.length_append,List.length_reverse,List.length_map]
      exact Nat.add_le_add (lt64 a3 I.ci hKhl hS63) (lt64 b3 I.cj hKtl hU63)
     refine Aap (Aap (Aap ⟨hKall.trans hK2,.inr ⟨b,_,rfl,hKall.none hb,hbl,meet I.bt I.bu (I.sym.imp id hgb) I.no hmm.1 hmm.2 c1 c2,hlen2⟩⟩))
end
end Pq
namespace Pq
variable[Own]
inductive IsRule{B:Aaj}(P:Prg B)(σ:AH)(s:Sd)(a:AV):Prop
 | mk (r dr:Addr) (e:a=.obj r) (h1:σ r=some (.inst (P.a 18) dr)) (h2:σ dr=some (.attrs [("name",.str s.sk.name),("left",s.left.av),("right",s.right.av),("needs",.tup [])]))
noncomputable def AreRules{B:Aaj}(P:Prg B)(σ:AH):List Sd→List AV→Prop
 | [],l=>l=[]
 | s::sds,l=>∃ a r,l=a::r∧IsRule P σ s a∧AreRules P σ sds r
theorem IsRule.keepX{B:Aaj}{P:Prg B}{σ σ':AH}{s:Sd}{a:AV}{k:Addr}(h:IsRule P σ s a)(hk:∀ c e,σ k≠some (.inst c e))(hk2:∀ l,σ k≠some (.attrs (("name",l)::[("left",s.left.av),("right",s.right.av),("needs",.tup [])])))(q:KeepX k σ σ'):IsRule P σ' s a:=by
 obtain⟨r,dr,e,h1,h2⟩:=h
 exact⟨r,dr,e,q _ _ (fun z=>hk _ _ (z▸h1)) h1,q _ _ (fun z=>hk2 _ (z▸h2)) h2⟩
theorem IsRule.keep{B:Aaj}{P:Prg B}{σ σ':AH}{s:Sd}{a:AV}(h:IsRule P σ s a)(q:Keep σ σ'):IsRule P σ' s a:=by
 obtain⟨r,dr,e,h1,h2⟩:=h
 exact⟨r,dr,e,q _ _ h1,q _ _ h2⟩
theorem AreRules.keep{B:Aaj}{P:Prg B}{σ σ':AH}(q:Keep σ σ'):∀ {sds:List Sd} {l:List AV},AreRules P σ sds l→AreRules P σ' sds l
 | [],_,h=>h
 | _::_,_,⟨a,r,e,h1,h2⟩=>⟨a,r,e,h1.keep q,AreRules.keep q h2⟩
noncomputable def Sd.isTold:Sd→Bool
 | .told1 | .told2=>true
 | _=>false
noncomputable def Abw:List Sd→List (AV×AV):=List.map fun s=>(.str s.sk.name,.tup [s.left.av,s.right.av])
noncomputable def AgN(sds:List Sd):Bool:=decide (∀ s∈sds,s.vs=s.vsR)
omit [Own] in
theorem AeK{sds:List Sd}(h:AgN sds=true):Sd.drop∉sds:=fun hm=>by
 have:=of_decide_eq_true h Sd.drop hm
 exact absurd this (by decide)
omit [Own] in
theorem Sd.depthR(s:Sd):s.left.depth≤3∧s.left.parts.length≤50∧s.right.depth≤3∧s.right.parts.length≤50:=by cases s<;>decide
section
variable{B:Aaj}{d:Nat}{σ:AH}
inductive R19a{B:Aaj}(dx:Addr)(σ:AH)(P:Prg B)(x:Addr)(rs:List Sd)(ts:List Sd)(v:AV)(σ':AH):Prop
 | mk (h1:v=.none) (h2:KeepX dx σ σ') (h3:IsSeeker P σ' x (rs++ts) (AgN (rs++ts)))
inductive R19b{B:Aaj}(P:Prg B)(σ:AH)(x:Addr)(tb:Addr)(dx:Addr)(sb:Addr)(rs:List Sd)(xs:List AV)(vars:Vars)(σ':AH):Prop
 | mk (dn td:_) (h1:AreRules P σ td xs) (h2:vars "self"=some (.obj x)) (h3:vars "told"=some (.obj tb)) (h4:KeepX dx σ σ') (h5:σ' dx=some (.attrs [("sides",.obj sb)])) (h6:σ' sb=some (.list (dn.map Sd.av))) (h7:dn++td=rs)
inductive R19c(x:Addr)(tb:Addr)(dx:Addr)(σ:AH)(sb:Addr)(c:Addr)(ts:List Sd)(dn:List Sd)(xs:List AV)(vars:Vars)(σ'':AH):Prop
 | mk (dn2 td2:List Sd) (h1:xs=td2.map (fun s=>AV.str s.sk.name)) (h2:vars "self"=some (.obj x)) (h3:vars "told"=some (.obj tb)) (h4:KeepX dx σ σ'') (h5:σ'' dx=some (.attrs [("sides",.obj sb)])) (h6:σ'' c=some (.list ((ts.map fun s=>s.sk.name).map .str))) (h7:σ'' sb=some (.list ((dn++dn2).map Sd.av))) (h8:dn2++td2=ts)
inductive R19d(σ'':AH)(sds:List Sd)(xs:List AV)(ys:List AV)(σ₄:AH):Prop
 | mk (d4 t4:List Sd) (h1:xs=t4.map Sd.av) (h2:Keep σ'' σ₄) (h3:d4++t4=sds) (h4:(ys=[]↔∀ s∈d4,s.vs=s.vsR))
noncomputable def v19a(x:Addr)(rb:Addr)(tb:Addr):Vars:=fV ["self","rules","told"] [.obj x,.obj rb,.obj tb]
set_option maxHeartbeats 1000000 in
theorem Aer(P:Prg B){x dx rb tb:Addr}{rs ts:List Sd}{ras:List AV}{es:List DictEntry}{n:Nat}(hx:σ x=some (.inst (P.a 16) dx))(hdx:σ dx=some (.attrs []))(hr:σ rb=some (.list ras))(hrs:AreRules P σ rs ras)
  (hrl:rs.length≤2) (htl:ts.length≤1) (hrr:∀ s∈rs,s.isTold=false) (htt:∀ s∈ts,s.isTold=true) (ht:σ tb=some (.cdict es n (Abw ts))) :
  AK B (d+6) (.ref (P.m 16 0)) [.obj x,.obj rb,.obj tb] σ (R19a dx σ P x rs ts):=by
 have F:=P.mfn (16,0) (by decide)
 refine Abm (d:=d+5) P.O F (names:=["self","rules","told"]) (hb3 fun jj jj jj jj jj jj jj jj jj jj jj=>rfl) (by decide +kernel) fun qn L cd=>?_
 let E:=fE (AaB (AeR 16 0)) (P.m 16 0) qn L cd
 let V:=v19a x rb tb
 show AX B _ E V (execs _ E) _ _
 refine Aad (Ab0 P.O rfl (AaI (Aaf ⟨lnk rfl,fun sb hsb=>?_⟩)))
 have nxd:x≠dx:=fun e=>by subst e;rw[hx] at hdx;cases hdx
 have nsd:sb≠dx:=fun e=>by subst e;rw[hdx] at hsb;cases hsb
 have hK1:Keep σ (upd σ sb (.list [])):=(Keep.refl σ).upd (.inl hsb) _
 refine Aaa (a:=.obj x) (by rfl) (by rfl) ⟨x,_,dx,_,rfl,hK1 _ _ hx,hK1 _ _ hdx,(P.sget "sides" (by decide)).2,by simp,?_⟩
 refine Aah ?_
 have hK2:KeepX dx σ (upd (upd σ sb (.list [])) dx (.attrs (put [] "sides" (.obj sb)))):=hK1.x.trans (KeepX.set _)
 have hd2:upd (upd σ sb (.list [])) dx (.attrs (put [] "sides" (.obj sb))) dx=some (.attrs [("sides",.obj sb)]):=by rw[Aac];rfl
 have hs2:upd (upd σ sb (.list [])) dx (.attrs (put [] "sides" (.obj sb))) sb=some (.list (([]:List Sd).map Sd.av)):=by rw[Aai _ _ nsd,Aac];rfl
 generalize upd (upd σ sb (.list [])) dx (.attrs (put [] "sides" (.obj sb)))=σ₂ at hK2 hd2 hs2
 have nrd:rb≠dx:=fun e=>by subst e;rw[hdx] at hr;cases hr
 have ntd:tb≠dx:=fun e=>by subst e;rw[hdx] at ht;cases ht
 have hx2:=hK2 _ _ nxd hx
 have hrule:∀ {s:Sd} {a:AV} {σ':AH},KeepX dx σ σ'→IsRule P σ s a→IsRule P σ' s a:=fun hk h=>h.keepX (k:=dx) (fun c e=>by rw[hdx];simp) (fun l e=>by rw[hdx] at e;cases e) hk
 refine Aad (Abc rfl (AaC (Aaa (a:=.obj rb) (by rfl) (by rfl) ⟨rb,_,rfl,hK2 _ _ nrd hr,?_⟩)))
 refine⟨(R19b P σ x tb dx sb rs),⟨[],rs,hrs,by rfl,by rfl,hK2,hd2,hs2,rfl⟩,?_,?_⟩
 ·rintro y xs vars σ' hsat ⟨dn,td,hA,h1,h2,hK,hd,hs,he⟩
  cases td with
  | nil=>cases hA
  | cons s td=>
   obtain⟨a,r,e,hR,hA'⟩:=hA
   cases e
   have hsr:=hrr s (by rw[← he];simp)
   have hkind:s.sk.kind="rule":=by cases s<;>first | rfl | cases hsr
   obtain⟨ra,dr,rfl,hr1,hr2⟩:=hrule hK hR
   have hdl:dn.length≤2:=by have:=congrArg List.length he;simp at this;exact ln3 (.c 1 (.v 0) (.n 2) (.e 1 0 (.a (.v 1) (.p 2 1)) (.v 0) (.g 0 (.v 1) (.n 2)))) rfl hrl this
   refine AaA rfl ?_
   refine Aad (AbV (Aax rfl (Ahs P.O (by rfl) (by rfl) hr1 hr2 (P.rget "needs" (by decide)).1 (by rfl) rfl (Aam (Aaf ⟨lnk rfl,AdX (by rfl) (by rfl) (by rfl) ?_⟩)))))
   refine Abh (by simp) ?_
   refine Aad (Ace rfl rfl (AaM P.O rfl rfl (Ahs P.O (by rfl) (by exact h1) (hK _ _ nxd hx) hd (P.sget "sides" (by decide)).1 (by rfl) rfl ⟨_,Aa3 hs,rfl,rfl,?_⟩)))
   refine Aab rfl (Aam (Aab rfl (Aav ?_)))
   refine Aab rfl (Ahs P.O (by rfl) (by rfl) hr1 hr2 (P.rget "name" (by decide)).1 (by rfl) rfl ?_)
   refine Aab rfl (Ahs P.O (by rfl) (by rfl) hr1 hr2 (P.rget "left" (by decide)).1 (by rfl) (by cases s<;>rfl) ?_)
   refine Aab rfl (Ahs P.O (by rfl) (by rfl) hr1 hr2 (P.rget "right" (by decide)).1 (by rfl) (by cases s<;>rfl) ?_)
   refine Aaf ⟨lnk rfl,Aaf (Aa6 hs (lml (by exact Nat.le_trans hdl (lnk rfl))) ?_)⟩
   have hK':KeepX dx σ (upd σ' sb (.list (dn.map Sd.av++[.tup [.str "rule",.str s.sk.name,s.left.av,s.right.av]]))):=fun a o h q=>by
    rw[Aai _ _ (fun e=>by subst e;rw[hsb] at q;cases q)];exact hK a o h q
   refine Aaq (Aaq ⟨fun p hp=>?_,dn++[s],td,hA',by exact h1,by exact h2,hK',by rw[Aai _ _ (Ne.symm nsd)];exact hd,?_,by simp[← he]⟩)
   ·rw[List.mem_singleton.mp hp];exact hK' _ _ nrd hr
   ·rw[Aac];simp[Sd.av,hkind]
 ·rintro vars σ' _ ⟨dn,td,hA,h1,h2,hK,hd,hs,he⟩
  have ht0:td=[]:=by cases td with
   | nil=>rfl
   | cons k ks=>obtain⟨_,_,e,_⟩:=hA;cases e
  subst ht0
  rw[List.append_nil] at he
  subst he
  refine Aah ?_
  have hsrt:Aa2 (ts.map fun s=>s.sk.name)=ts.map fun s=>s.sk.name:=by
   unfold Aa2 Aa0
   rw[if_pos (by simp;exact Nat.add_le_add_right htl 1),Abq]
  refine Aad (Abc rfl (AaC (e_g P.O (by rfl) P.g_sorted rfl ?_)))
  refine Aag (.loc (a:=.obj tb) (by rfl) (by exact h2) .nil) (AbX (ks:=ts.map fun s=>s.sk.name) (.inr ⟨es,n,hK _ _ ntd ht⟩) (by simp[Abw]) (by simp;exact Nat.le_trans (Nat.add_le_add_right htl 1) (lnk rfl)) fun c hc=>⟨c,_,rfl,Aac _ _ _,?_⟩)
  rw[hsrt]
  have hKc:Keep σ' (upd σ' c (.list ((ts.map fun s=>s.sk.name).map .str))):=(Keep.refl σ').upd (.inl hc) _
  have hcl:upd σ' c (.list ((ts.map fun s=>s.sk.name).map .str)) c=some (.list ((ts.map fun s=>s.sk.name).map .str)):=Aac _ _ _
  have ncd:c≠dx:=fun e=>by subst e;rw[hd] at hc;cases hc
  have ncs:c≠sb:=fun e=>by subst e;rw[hs] at hc;cases hc
  generalize upd σ' c (.list ((ts.map fun s=>s.sk.name).map .str))=σ₃ at hKc hcl
  refine⟨(R19c x tb dx σ sb c ts dn),
   ⟨[],ts,by simp,by exact h1,by exact h2,hK.trans hKc.x,hKc _ _ hd,hcl,by rw[List.append_nil];exact hKc _ _ hs,rfl⟩,?_,?_⟩
  ·rintro y xs vars σ'' hsat ⟨dn2,td2,hx',g1,g2,gK,gd,gc,gs,ge⟩
   cases td2 with
   | nil=>cases hx'
   | cons s td2=>
    simp only[List.map_cons,List.cons.injEq] at hx'
    obtain⟨rfl,rfl⟩:=hx'
    have hts:ts=[s]∧dn2=[]∧td2=[]:=by
     have hl:=congrArg List.length ge
     simp at hl
     have e1:dn2=[]:=List.length_eq_zero_iff.mp (z1 htl hl).1
     have e2:td2=[]:=List.length_eq_zero_iff.mp (z1 htl hl).2
     subst e1 e2
     exact⟨ge.symm,rfl,rfl⟩
    obtain⟨rfl,rfl,rfl⟩:=hts
    have hst:=htt s (by simp)
    have hkind:s.sk.kind="told":=by cases s<;>first | rfl | cases hst
    refine AaA rfl ?_
    have lk:look (Abw [s]) (.str s.sk.name)=some (.tup [s.left.av,s.right.av]):=by simp[Abw,Abn]
    have fk:KeyFit (Abw [s]) (.str s.sk.name):=.inl ⟨rfl,fun kv h=>by simp[Abw] at h;subst h;rfl⟩
    refine Aad (Ace rfl rfl (AaM P.O rfl rfl (Ahs P.O (by rfl) (by exact g1) (gK _ _ nxd hx) gd (P.sget "sides" (by decide)).1 (by rfl) rfl ⟨_,Aa3 gs,rfl,rfl,?_⟩)))
    refine Aab rfl (Aam (Aab rfl (Aav ?_)))
    refine Aab rfl (Aaa (a:=.str s.sk.name) (by rfl) (by rfl) ?_)
    refine Aab rfl (AaF rfl (AaF rfl (Aaa (a:=.obj tb) (by rfl) (by exact g2) (Aaa (a:=.str s.sk.name) (by rfl) (by rfl) (AgO (gK _ _ ntd ht) fk lk ?_)))))
    refine Aae (Abu (a:=s.left.av) (by decide) (by simp) (by rfl) ?_)
    refine Aab rfl (AaF rfl (AaF rfl (Aaa (a:=.obj tb) (by rfl) (by exact g2) (Aaa (a:=.str s.sk.name) (by rfl) (by rfl) (AgO (gK _ _ ntd ht) fk lk ?_)))))
    refine Aae (Abu (a:=s.right.av) (by decide) (by simp) (by rfl) ?_)
    refine Aaf ⟨lnk rfl,Aaf (Aa6 gs (by simp;exact Nat.le_trans hrl (lnk rfl)) ?_)⟩
    have gK':KeepX dx σ (upd σ'' sb (.list ((dn++[]).map Sd.av++[.tup [.str "told",.str s.sk.name,s.left.av,s.right.av]]))):=fun a o h q=>by
     rw[Aai _ _ (fun e=>by subst e;rw[hsb] at q;cases q)];exact gK a o h q
    refine Aaq ⟨fun p hp=>?_,[s],[],rfl,by exact g1,by exact g2,gK',by rw[Aai _ _ (Ne.symm nsd)];exact gd,by rw[Aai _ _ ncs];exact gc,?_,rfl⟩
    ·rw[List.mem_singleton.mp hp]
     show upd σ'' sb _ c=_
     rw[Aai _ _ ncs];exact gc
    ·rw[Aac];simp[Sd.av,hkind]
  ·rintro vars σ'' _ ⟨dn2,td2,hx',g1,g2,gK,gd,gc,gs,ge⟩
   have ht0:td2=[]:=by cases td2 with
    | nil=>rfl
    | cons k ks=>cases hx'
   subst ht0
   rw[List.append_nil] at ge
   subst ge
   have hall:(dn++dn2).length≤3:=by simp;exact ln2 (.c 1 (.v 0) (.n 2) (.c 1 (.v 1) (.n 1) (.g 0 (.b 0 1) (.n 3)))) rfl hrl htl
   obtain⟨sds,hsd⟩:∃ z,z=dn++dn2:=⟨_,rfl⟩
   rw[← hsd] at gs hall
   refine Aah ?_
   refine Aad (Ab0 P.O rfl (Aei rfl ?_))
   refine AaT rfl (cl:=[]) ⟨by rfl,by rfl,by simp,by rfl,by decide,by rfl,by decide⟩ ?_
   refine AaC (Ahs P.O (by rfl) (by exact g1) (gK _ _ nxd hx) gd (P.sget "sides" (by decide)).1 (by rfl) rfl ⟨sb,_,rfl,gs,by simp;exact Nat.le_trans hall (lnk rfl),?_⟩)
   refine⟨(R19d σ'' sds),⟨[],sds,rfl,Keep.refl _,rfl,by simp⟩,?_,?_⟩
   ·rintro C y xs ys σ₄ hsat ⟨d4,t4,hx4,k4,e4,hys⟩
    obtain⟨s,t4⟩:=Abb hx4
    obtain⟨z1,z2,z3,z4⟩:=s.depthR
    refine AaY rfl (AdC ?_)
    refine Aax rfl ?_
    refine e_g P.O (by rfl) P.g_variables (P.keep 9 (by decide)) ?_
    refine Aab rfl (AaF rfl (Aaa (a:=s.av) (by rfl) (by rfl) (Aae (Abu (a:=s.left.av) (by decide) (by simp) (by rfl) ?_))))
    refine Aaf ((Abd (d:=0) (n:=3) P (by exact lnk rfl) z1 z2 s.vs_ok).use rfl ?_)
    rintro v σ₅ ⟨b5,rfl,hb5,k5,l5⟩
    refine e_g P.O (by rfl) P.g_variables (P.keep 9 (by decide)) ?_
    refine Aab rfl (AaF rfl (Aaa (a:=s.av) (by rfl) (by rfl) (Aae (Abu (a:=s.right.av) (by decide) (by simp) (by rfl) ?_))))
    refine Aaf ((Abd (d:=0) (n:=3) P (by exact lnk rfl) z3 z4 s.vsR_ok).use rfl ?_)
    rintro v σ₆ ⟨b6,rfl,hb6,k6,l6⟩
    refine Aja (k6 _ _ l5) l6 AcD AcD (Aco _ _) ?_
    rw[decide_eq_decide.mpr (iff_of_eq (Agt (l:=s.vs) (m:=s.vsR)))]
    have hsat6:Sat [(sb,AO.list (sds.map Sd.av))] σ₆:=fun p hp=>by rw[List.mem_singleton.mp hp];exact k6 _ _ (k5 _ _ (k4 _ _ gs))
    by_cases hv:s.vs=s.vsR
    ·refine AiT hv ?_
     exact⟨hsat6,d4++[s],t4,rfl,(k4.trans k5).trans k6,by simp[← e4],hys.trans ⟨fun h q hq=>(List.mem_append.mp hq).elim (h q) (fun z=>by rw[List.mem_singleton.mp z];exact hv),fun h q hq=>h q (List.mem_append.mpr (.inl hq))⟩⟩
    ·refine AiU hv ?_
     exact Aae ⟨hsat6,d4++[s],t4,rfl,(k4.trans k5).trans k6,by simp[← e4],by simp[hv]⟩
   ·rintro ys σ₄ hsat ⟨d4,t4,hx4,k4,e4,hys⟩ hlen a ha
    obtain rfl:t4=[]:=Adk hx4
    rw[List.append_nil] at e4
    subst e4
    refine AaI (Aaf ⟨lnk rfl,fun eb heb=>?_⟩)
    have nae:a≠eb:=fun e=>by subst e;rw[Aac] at heb;cases heb
    refine Adf (by rw[Aai _ _ nae];exact Aac _ _ _) (Aac _ _ _) ?_
    have kE:Keep σ'' (upd (upd σ₄ a (.list ys)) eb (.list [])):=(k4.upd (.inl ha) _).upd (.inl heb) _
    have hgB:decide (ys=[])=AgN d4:=decide_eq_decide.mpr hys
    rw[hgB]
    refine Aaa (a:=.obj x) (by rfl) (by exact g1) ⟨x,_,dx,_,rfl,kE _ _ (gK _ _ nxd hx),kE _ _ gd,(P.sget "goes_back" (by decide)).2,by simp,?_⟩
    refine Aaq ⟨rfl,(gK.trans kE.x).trans (KeepX.set _),dx,sb,?_,?_,?_⟩
    ·rw[Aai _ _ nxd];exact kE _ _ (gK _ _ nxd hx)
    ·rw[Aac,hsd];rfl
    ·rw[Aai _ _ nsd,← hsd];exact kE _ _ gs
end
end Pq
namespace Pq
variable[Own]
omit [Own] in
theorem Sd.vsR_sub(s:Sd):∀ y∈s.vsR,y∈s.vs:=by cases s<;>decide
section
variable{B:Aaj}{d:Nat}{σ:AH}
inductive R20a{B:Aaj}(dx:Addr)(σ:AH)(P:Prg B)(s:Sd)(x:Addr)(v:AV)(σ':AH):Prop
 | mk (h1:v=.none) (h2:KeepX dx σ σ') (h3:IsRule P σ' s (.obj x))
noncomputable def v20a(x:Addr)(s:Sd):Vars:=fV ["self","name","left","right","needs"] [.obj x,.str s.sk.name,s.left.av,s.right.av,.tup []]
set_option maxHeartbeats 1000000 in
theorem AfI(P:Prg B){x dx:Addr}{s:Sd}(hx:σ x=some (.inst (P.a 18) dx))(hdx:σ dx=some (.attrs [])):
  AK B (d+6) (.ref (P.m 18 0)) [.obj x,.str s.sk.name,s.left.av,s.right.av,.tup []] σ (R20a dx σ P s x):=by
 have F:=P.mfn (18,0) (by decide)
 have hlv:s.left.isVar=false:=by cases s<;>rfl
 obtain⟨z1,z2,z3,z4⟩:=s.depthR
 have nxd:x≠dx:=ne3 rfl hx hdx
 refine Abm (d:=d+5) P.O F (names:=["self","name","left","right","needs"]) (hb5 fun jj jj jj jj jj jj jj jj jj jj jj jj jj=>rfl) (by decide +kernel) fun qn L cd=>?_
 let E:=fE (AaB (AeR 18 0)) (P.m 18 0) qn L cd
 let V:=v20a x s
 show AX B _ E V (execs _ E) _ _
 refine Aad ?_
 refine AbV ?_
 refine Aa9 rfl ?_
 refine e_g P.O (by rfl) P.g_is_variable (P.keep 8 (by decide)) ?_
 refine Aag (.loc (a:=s.left.av) (by rfl) (by rfl) .nil) (AC.less (AbB (d:=0) P s.left (AaU ?_)).ac (lad rfl))
 rw[hlv]
 refine AaV (by decide) ?_
 refine AaK ?_
 refine Aah ?_
 refine Aad ?_
 refine Aak rfl rfl ?_
 refine e_g P.O (by rfl) P.g_variables (P.keep 9 (by decide)) ?_
 refine Aag (.loc (a:=s.left.av) (by rfl) (by rfl) .nil) ((Abd (d:=0) (n:=3) P (by exact lnk rfl) z1 z2 s.vs_ok).use rfl ?_)
 rintro v σ₁ ⟨kb,rfl,hkb,K1,kl⟩
 refine Aah ?_
 refine Aad ?_
 refine Aak rfl rfl ?_
 refine AaN ?_
 refine AaI ?_
 refine Aab rfl ?_
 refine Aam ?_
 refine Aag (.str (.loc (a:=s.right.av) (by rfl) (by rfl) (.loc (a:=s.right.av) (by rfl) (by rfl) .nil))) ⟨lnk rfl,?_⟩
 refine Aaf ⟨lnk rfl,fun lb hlb=>?_⟩
 refine e_g P.O (by rfl) P.g_list rfl ?_
 refine Aag (.loc (a:=.tup []) (by rfl) (by rfl) .nil) ?_
 refine ac_list (by decide) fun nb hnb=>?_
 have nln:lb≠nb:=ne1 (Aac _ _ _) hnb
 refine Ab4 (by rw[Aai _ _ nln];exact Aac _ _ _) (Aac _ _ _) (by simp) fun ab hab=>?_
 refine Aah ?_
 have K2:Keep σ₁ (upd (upd (upd σ₁ lb (.list [.tup [.str "alike",s.right.av,s.right.av]])) nb (.list [])) ab (.list ([.tup [.str "alike",s.right.av,s.right.av]]++[]))):=(((Keep.refl σ₁).upd (.inl hlb) _).upd (.inl hnb) _).upd (.inl hab) _
 have ha2:upd (upd (upd σ₁ lb (.list [.tup [.str "alike",s.right.av,s.right.av]])) nb (.list [])) ab (.list ([.tup [.str "alike",s.right.av,s.right.av]]++[])) ab=some (.list [.tup [.str "alike",s.right.av,s.right.av]]):=by rw[Aac];rfl
 generalize upd (upd (upd σ₁ lb (.list [.tup [.str "alike",s.right.av,s.right.av]])) nb (.list [])) ab (.list ([.tup [.str "alike",s.right.av,s.right.av]]++[]))=σ₂ at K2 ha2
 have K12:=K1.trans K2
 refine Aad ?_
 refine Abc rfl ?_
 refine AaC ?_
 refine Aaa (a:=.obj ab) (by rfl) (by rfl) ⟨ab,_,rfl,ha2,?_⟩
 refine⟨fun xs vars σ'=>(xs=[.tup [.str "alike",s.right.av,s.right.av]]∨xs=[])∧vars "self"=some (.obj x)∧vars "name"=some (.str s.sk.name)∧vars "left"=some s.left.av∧vars "right"=some s.right.av∧vars "needs"=some (.tup [])∧vars "known"=some (.obj kb)∧Keep σ₂ σ',
  ⟨.inl rfl,by rfl,by rfl,by rfl,by rfl,by rfl,by rfl,Keep.refl _⟩,?_,?_⟩
 ·rintro y xs vars σ' hsat ⟨hx',g1,g2,g3,g4,g5,g6,gK⟩
  rcases hx' with hx' | hx'<;>cases hx'
  refine a_n3 rfl rfl rfl ?_
  refine Aad ?_
  refine AbV ?_
  refine Aax rfl ?_
  refine Aaa (a:=.str "alike") (by rfl) (by rfl) ?_
  refine Aam ?_
  refine Aag (.str (.str .nil)) ⟨lnk rfl,AgZ (List.forall_mem_cons.mpr ⟨rfl,List.forall_mem_cons.mpr ⟨rfl,fun jj h=>nomatch h⟩⟩) ?_⟩
  refine AaV (by simp) ?_
  refine AaK ?_
  refine Aah ?_
  refine Aad ?_
  refine AaG rfl rfl rfl (cl:=[("known",L+1)]) ⟨by rfl,by rfl,by simp,by rfl,by decide,by rfl,by decide⟩ ?_
  refine AaC ?_
  refine AaN ?_
  refine e_g P.O (by rfl) P.g_variables (P.keep 9 (by decide)) ?_
  refine Aag (.loc (a:=s.right.av) (by rfl) (by rfl) .nil) ((Abd (d:=0) (n:=3) P (by exact lnk rfl) z3 z4 s.vsR_ok).use rfl ?_)
  rintro v σ₅ ⟨b5,rfl,hb5,k5,l5⟩
  refine e_g P.O (by rfl) P.g_variables (P.keep 9 (by decide)) ?_
  refine Aag (.loc (a:=s.right.av) (by rfl) (by rfl) .nil) ((Abd (d:=0) (n:=3) P (by exact lnk rfl) z3 z4 s.vsR_ok).use rfl ?_)
  rintro v σ₆ ⟨b6,rfl,hb6,k6,l6⟩
  have hvl:s.vsR.length≤3:=by cases s<;>decide
  refine Ab4 (k6 _ _ l5) l6 (by simp;exact ln1 (.c 2 (.v 0) (.n 3) (.g 0 (.b 0 0) (.n 1000))) rfl hvl) fun cb hcb=>⟨cb,_,rfl,Aac _ _ _,by simp;exact ln1 (.c 2 (.v 0) (.n 3) (.g 0 (.b 0 0) (.n 1000))) rfl hvl,?_⟩
  have K7:Keep σ' (upd σ₆ cb (.list (s.vsR.map AV.str++s.vsR.map AV.str))):=(k5.trans k6).upd (.inl hcb) _
  refine⟨fun xs ys σ''=>σ''=upd σ₆ cb (.list (s.vsR.map AV.str++s.vsR.map AV.str))∧ys=[]∧∃ l:List Str,xs=l.map .str∧∀ y∈l,y∈s.vs,⟨rfl,rfl,s.vsR++s.vsR,by simp,fun y hy=>(List.mem_append.mp hy).elim (s.vsR_sub y) (s.vsR_sub y)⟩,?_,?_⟩
  ·rintro C y xs ys σ'' hsat2 ⟨rfl,rfl,l,hxl,hl⟩
   obtain⟨w,l⟩:=Abb hxl
   refine AaY rfl ?_
   refine AdC ?_
   refine Aax rfl ?_
   refine Aaa (a:=.str w) (by rfl) (by rfl) ?_
   refine AaD (a:=.obj kb) (by rfl) (by exact g6) ?_
   refine Agd (K7 _ _ (gK _ _ (K2 _ _ kl))) (fun a ha=>by obtain⟨_,_,rfl⟩:=List.mem_map.mp ha;rfl) ?_
   have:((s.vs.map AV.str).any fun a=>decide (a=AV.str w))=true:=by
    simp only[List.any_map,List.any_eq_true]
    exact⟨w,hl w (.head _),by simp⟩
   rw[this]
   refine AaV (by decide) ?_
   exact⟨hsat2,rfl,rfl,l,rfl,fun y hy=>hl y (.tail _ hy)⟩
  ·rintro ys σ'' hsat2 ⟨rfl,rfl,l,hxl,hl⟩ hlen a ha
   refine Aah ?_
   refine Aad ?_
   refine AbV ?_
   refine Aax rfl ?_
   refine Aaa (a:=.obj a) (by rfl) (by rfl) ?_
   refine AaI ?_
   refine Aaf ⟨lnk rfl,fun eb heb=>?_⟩
   have nae:a≠eb:=ne1 (Aac _ _ _) heb
   refine Ade (by rw[Aai _ _ nae];exact Aac _ _ _) (Aac _ _ _) ?_
   refine AaV (by decide) ?_
   have K8:Keep σ' (upd (upd (upd σ₆ cb (.list (s.vsR.map AV.str++s.vsR.map AV.str))) a (.list [])) eb (.list [])):=(K7.upd (.inl ha) _).upd (.inl heb) _
   refine AaK ?_
   refine Aaq ⟨fun p hp=>?_,.inr rfl,by exact g1,by exact g2,by exact g3,by exact g4,by exact g5,by exact g6,gK.trans K8⟩
   rw[List.mem_singleton.mp hp]
   exact K8 _ _ (gK _ _ ha2)
 ·rintro vars σ' _ ⟨_,g1,g2,g3,g4,g5,g6,gK⟩
  have K:=K12.trans gK
  have stp:∀ {σ₃:AH} (o:AO),KeepX dx σ σ₃→KeepX dx σ (upd σ₃ dx o):=fun o h=>h.trans (KeepX.set o)
  refine Aah ?_
  refine Aad ?_
  refine Ab0 P.O rfl ?_
  refine Aaa (a:=.str s.sk.name) (by rfl) g2 ?_
  refine Aaa (a:=.obj x) (by rfl) g1 ⟨x,_,dx,_,rfl,K _ _ hx,K _ _ hdx,(P.rget "name" (by decide)).2,by simp,?_⟩
  refine Aah ?_
  refine Aad ?_
  refine Ab0 P.O rfl ?_
  refine Aaa (a:=s.left.av) (by rfl) g3 ?_
  refine Aaa (a:=.obj x) (by rfl) g1 ⟨x,_,dx,_,rfl,by rw[Aai _ _ nxd];exact K _ _ hx,Aac _ _ _,(P.rget "left" (by decide)).2,Nat.le_of_ble_eq_true (by rfl),?_⟩
  refine Aah ?_
  refine Aad ?_
  refine Ab0 P.O rfl ?_
  refine Aaa (a:=s.right.av) (by rfl) g4 ?_
  refine Aaa (a:=.obj x) (by rfl) g1 ⟨x,_,dx,_,rfl,by rw[Aai _ _ nxd,Aai _ _ nxd];exact K _ _ hx,Aac _ _ _,(P.rget "right" (by decide)).2,Nat.le_of_ble_eq_true (by rfl),?_⟩
  refine Aah ?_
  refine Aad ?_
  refine Ab0 P.O rfl ?_
  refine e_g P.O (by rfl) P.g_tuple rfl ?_
  refine Aag (.loc (a:=.tup []) (by rfl) g5 .nil) ?_
  refine Agi ?_
  refine Aaa (a:=.obj x) (by rfl) g1 ⟨x,_,dx,_,rfl,by rw[Aai _ _ nxd,Aai _ _ nxd,Aai _ _ nxd];exact K _ _ hx,Aac _ _ _,(P.rget "needs" (by decide)).2,Nat.le_of_ble_eq_true (by rfl),?_⟩
  refine Aaq ⟨rfl,stp _ (stp _ (stp _ (stp _ K.x))),x,dx,rfl,?_,?_⟩
  ·rw[Aai _ _ nxd,Aai _ _ nxd,Aai _ _ nxd,Aai _ _ nxd];exact K _ _ hx
  ·rw[Aac];rfl
end
end Pq
namespace Pq
noncomputable def AbK(f:Tm→Tm→Tab→Bool×Tab)(l:List (Tm×Tm)):Tab→Bool×Tab:=List.rec (fun tab=>(true,tab)) (fun q jj go tab=>((f q.1 q.2 tab).1&&(go (f q.1 q.2 tab).2).1,(go (f q.1 q.2 tab).2).2)) l
noncomputable def fitG(go:Tm→Tm→Tab→Bool×Tab)(p t:Tm)(tab:Tab):Bool×Tab:=if p.hd.isVar=true then Option.casesOn (look tab p.hd) (true,tab++[(p.hd,t)]) fun u=>(decide (u=t),tab) else if p.hd=t.hd∧p.kids.length=t.kids.length then AbK go (p.kids.zip t.kids) tab else(false,tab)
noncomputable def Aa5(n:Nat):Tm→Tm→Tab→Bool×Tab:=Nat.rec (fun jj jj tab=>(false,tab)) (fun jj go p t tab=>fitG go p t tab) n
section
variable{n:Nat}{go:Tm→Tm→Tab→Bool×Tab}{p t u:Tm}{tab:Tab}
theorem fitG_n(h:p.hd.isVar=true)(k:look tab p.hd=some u):fitG go p t tab=(decide (u=t),tab):=(if_pos h).trans (by rw[k])
theorem fitG_v(h:p.hd.isVar=true)(k:look tab p.hd=none):fitG go p t tab=(true,tab++[(p.hd,t)]):=(if_pos h).trans (by rw[k])
theorem Ai1(h:p.hd.isVar=true)(k:look tab p.hd=some u):Aa5 (n+1) p t tab=(decide (u=t),tab):=fitG_n h k
theorem Ai0(h:p.hd.isVar=true)(k:look tab p.hd=none):Aa5 (n+1) p t tab=(true,tab++[(p.hd,t)]):=fitG_v h k
theorem AgQ(h:p.hd.isVar=false):Aa5 (n+1) p t tab=if p.hd=t.hd∧p.kids.length=t.kids.length then AbK (Aa5 n) (p.kids.zip t.kids) tab else(false,tab):=if_neg fun e=>Bool.false_ne_true (h.symm.trans e)
end
noncomputable def Agl(tab:Tab):Prop:=∀ p∈tab,p.2.depth≤8
theorem fits_ks{f:Tm→Tm→Tab→Bool×Tab}(hf:∀ p t tab,Agl tab→t.depth≤8→Agl (f p t tab).2∧(f p t tab).2.length≤tab.length+p.size){l:List (Tm×Tm)}{tab:Tab}(h:Agl tab)(hd:∀ q∈l,q.2.depth≤8):
  Agl (AbK f l tab).2∧(AbK f l tab).2.length≤tab.length+wt l:=by
 induction l generalizing tab with
 | nil=>exact⟨h,Nat.le_refl _⟩
 | cons q l ih=>
  have h1:=hf q.1 q.2 tab h (hd q (.head _))
  have h2:=ih h1.1 fun q hq=>hd q (.tail _ hq)
  exact⟨h2.1,Nat.le_trans h2.2 (Nat.le_trans (Nat.add_le_add_right h1.2 _) (Nat.le_of_eq (Nat.add_assoc _ _ _)))⟩
theorem fits_dep(n:Nat)(p t:Tm)(tab:Tab)(h:Agl tab)(ht:t.depth≤8):Agl (Aa5 n p t tab).2∧(Aa5 n p t tab).2.length≤tab.length+p.size:=by
 induction n generalizing p t tab with
 | zero=>exact⟨h,Nat.le_add_right _ _⟩
 | succ n ih=>
  cases hv:p.hd.isVar with
  | true=>
   cases hg:look tab p.hd with
   | none=>
    rw[Ai0 hv hg]
    refine⟨fun q hq=>?_,Nat.le_trans (Nat.le_of_eq List.length_append) (Nat.add_le_add_left p.size_pos _)⟩
    rcases List.mem_append.mp hq with hq | hq
    ·exact h q hq
    ·rw[List.mem_singleton.mp hq];exact ht
   | some u=>rw[Ai1 hv hg];exact⟨h,Nat.le_add_right _ _⟩
  | false=>
   rw[AgQ hv]
   by_cases e:p.hd=t.hd∧p.kids.length=t.kids.length
   ·rw[if_pos e]
    have k:=fits_ks ih h fun q (hq:q∈p.kids.zip t.kids)=>Nat.le_of_lt (Nat.le_trans (Tm.kid_depth (List.of_mem_zip (show(q.1,q.2)∈_ from hq)).2) ht)
    exact⟨k.1,Nat.le_trans k.2 (Nat.add_le_add_left (Nat.le_of_succ_le Aif) _)⟩
   ·rw[if_neg e];exact⟨h,Nat.le_add_right _ _⟩
section
variable{B:Aaj}{d:Nat}
inductive R21a(tb:Addr)(σ:AH)(n:Nat)(p:Tm)(t:Tm)(tab:Tab)(xs:List AV)(ys:List AV)(σ':AH):Prop
 | mk (td:List (Tm×Tm)) (tab':Tab) (ok:Bool) (h1:xs=td.map Acf) (h2:(ys=[]↔ok=true)) (h3:KeepX tb σ σ') (h4:σ' tb=some (.dict (tab'.map AeI))) (h5:Agl tab') (h6:tab'.length+wt td≤900) (h7:(∀ q∈td,q.1.depth≤n∧q.2.depth≤8)) (h8:AbK (Aa5 n) (p.kids.zip t.kids) tab=(ok&&(AbK (Aa5 n) td tab').1,(AbK (Aa5 n) td tab').2))
theorem fits_AK(P:Prg B){tb:Addr}:∀ (n:Nat) [Own] (p t:Tm) (tab:Tab) (σ:AH),p.depth≤n→t.depth≤8→Agl tab→tab.length+p.size≤900→σ tb=some (.dict (tab.map AeI)) →
  AK B (d+n+1) (.ref (P.a 24)) [p.av,t.av,.obj tb] σ fun v σ'=>v=.bool (Aa5 n p t tab).1∧KeepX tb σ σ'∧σ' tb=some (.dict ((Aa5 n p t tab).2.map AeI)):=by
 intro n
 induction n with
 | zero=>exact fun p jj jj jj h jj jj jj jj=>absurd h (Nat.not_le_of_gt p.depth_pos)
 | succ n ih=>
  intro _ p t tab σ hpd htd hdo hsz htb
  have F:=P.fn 24 (by decide)
  refine Abm (d:=d+(n+1)) P.O F (names:=["pattern","t","table"]) (hb3 fun jj jj jj jj jj jj jj jj jj jj jj=>rfl) (by decide +kernel) fun qn L cd=>?_
  have hL:∀ z:Tm,(AV.str z.hd.str::z.kids.map Tm.av).length≤1000:=fun z=>z.av_k
  have hS:∀ z:Tm,z.hd.str.cps.size≤1000:=fun z=>by cases z.hd<;>decide
  have hsp:=p.size_pos
  rw[Tm.av_eq p,Tm.av_eq t]
  refine Aad (AbV (Aax rfl (AaL (AaF rfl (Aaa (by rfl) (by rfl) (Aae (Abu (a:=.str p.hd.str) (by decide) (hL p) (by rfl) ?_)))))))
  refine Aaz (Aay (Aae ⟨1,rfl,Ag6 (hS p) ?_⟩))
  refine Aav (AdY ?_)
  rw[Nm.var_str]
  cases hv:p.hd.isVar with
  | true=>
   refine Abh rfl ?_
   refine Aad (Aal (Aei rfl (AaM P.O rfl rfl (AaD (a:=.obj tb) (by rfl) (by rfl) ⟨_,Ac4 htb,rfl,rfl,?_⟩))))
   refine Aab rfl (AaF rfl (Aaa (by rfl) (by rfl) (Aae (Abu (a:=.str p.hd.str) (by decide) (hL p) (by rfl) ?_))))
   refine Aag (.loc (by rfl) (by rfl) .nil) ?_
   refine Adi htb (Aeg tab p.hd) (lml (ln2 (.c 1 (.b 0 1) (.n 900) (.g 0 (.v 0) (.n 1000))) rfl hsz)) ?_ ?_
   ·intro c hc
    rw[Ab9] at hc
    cases hg:look tab p.hd with
    | none=>rw[hg] at hc;cases hc
    | some t'=>
     rw[hg] at hc;cases hc
     refine Aaa (by rfl) (by rfl) ?_
     rw[← Tm.av_eq t]
     refine Ajd (hdo _ (Ac9 hg)) htd ?_
     rw[Ai1 hv hg]
     exact Aap (Aap ⟨rfl,fun jj jj jj h=>h,htb⟩)
   ·intro hc
    rw[Ab9] at hc
    cases hg:look tab p.hd with
    | some t'=>rw[hg] at hc;cases hc
    | none=>
     refine Aaa (by rfl) (by rfl) ?_
     rw[← Tm.av_eq t]
     refine Ajd htd htd ?_
     rw[Ai0 hv hg]
     refine Aap (Aap ⟨by simp,KeepX.set _,?_⟩)
     rw[Aac,Aiv _ _ _ hg]
  | false=>
   refine AaV (by decide) ?_
   refine AaK (Aah ?_);refine AcA ?_;intro V
   refine Aad (AbV (Ad2 (Aax rfl (AaF rfl (Aaa (by rfl) (by rfl) (Aae (Abu (a:=.str p.hd.str) (by decide) (hL p) (by rfl) ?_)))))))
   refine AaF rfl (Aaa (by rfl) (by rfl) (Aae (Abu (a:=.str t.hd.str) (by decide) (hL t) (by rfl) (Afq ?_))))
   have e0:=AgQ (n:=n) (t:=t) (tab:=tab) hv
   by_cases e1:p.hd=t.hd
   ·refine AiT (by rw[e1]) ?_
    refine Ad2 (Aax rfl ?_)
    refine e_g P.O (by rfl) P.g_len rfl (Aag (.loc (by rfl) (by rfl) .nil) (AgJ (hL p) ?_))
    refine e_g P.O (by rfl) P.g_len rfl (Aag (.loc (by rfl) (by rfl) .nil) (AgJ (hL t) (Afr ?_)))
    by_cases e2:p.kids.length=t.kids.length
    ·refine AiT (by simp[e2]) ?_
     refine Ad1 ?_
     refine AaV (by decide) ?_
     rw[if_pos ⟨e1,e2⟩] at e0
     refine AaK (Aah ?_);refine AcA ?_;intro V
     refine Aad (Aal (Aei rfl ?_))
     refine Aez P.O (cl:=[("table",L+1)]) ⟨by rfl,by rfl,by simp,by rfl,by decide,by rfl,by decide⟩ ⟨_,_,_,rfl⟩ rfl rfl (by rfl) P.g_zip ?_
     refine AaL (Aaa (by rfl) (by rfl) (Aay (Aae ⟨1,rfl,Aaz (AcN (hL p) ?_)⟩)))
     refine AaL (Aaa (by rfl) (by rfl) (Aay (Aae ⟨1,rfl,Aaz (AcN (hL t) ?_)⟩)))
     have es:∀ z:Tm,slc (AV.str z.hd.str::z.kids.map Tm.av) (some 1) none=z.kids.map Tm.av:=fun z=>by simp[slc]
     rw[es,es]
     have hk2:p.kids.length≤2:=p.kids_le
     have hwz:=Aif (q:=p) (u:=t)
     refine⟨_,_,rfl,rfl,by simp[e2],by simp;exact Nat.le_trans hk2 (lnk rfl),?_⟩
     rw[zip_av]
     refine⟨(R21a tb σ n p t tab),⟨p.kids.zip t.kids,tab,true,rfl,by simp,fun jj jj jj h=>h,htb,hdo,ln3 (.c 1 (.b 0 1) (.n 900) (.c 1 (.p 2 1) (.v 1) (.g 0 (.b 0 2) (.n 900)))) rfl hsz hwz,fun q hq=>?_,by simp⟩,?_,?_⟩
     ·have h1:=Tm.kid_depth (List.of_mem_zip (show(q.1,q.2)∈_ from hq)).1
      have h2:=Tm.kid_depth (List.of_mem_zip (show(q.1,q.2)∈_ from hq)).2
      exact⟨ln3 (.c 1 (.v 0) (.p 1 1) (.c 1 (.p 2 1) (.v 0) (.g 0 (.v 2) (.v 1)))) rfl hpd h1,by exact Nat.le_of_lt (Nat.le_trans h2 htd)⟩
     ·rintro j C x xs ys σ' hsat ⟨td,tab',ok,hx,hys,hK,ht',hdo',hle,hdp,hfk⟩
      obtain⟨q,td⟩:=Abb hx
      obtain⟨q1,q2⟩:=hdp q (.head _)
      have hq:=q.1.size_pos
      replace hle:tab'.length+(q.1.size+wt td)≤900:=hle
      refine Ajk rfl rfl (AdC ?_)
      refine Ags (Aa9 rfl (e_g P.O (by rfl) P.g_law_fits (P.keep 24 (by decide)) ?_))
      refine Aag (.loc (a:=q.1.av) (by rfl) (by rfl) (.loc (a:=q.2.av) (by rfl) (by rfl) (.cell (a:=.obj tb) (by rfl) (by rfl) .nil))) (((ih q.1 q.2 tab' σ' q1 q2 hdo' (ln3 (.c 1 (.a (.v 0) (.b 1 2)) (.n 900) (.g 0 (.b 0 1) (.n 900))) rfl hle) ht').ac).mono ?_)
      rintro v σ₂ ⟨rfl,hK2,ht2⟩
      have hfd:=fits_dep n q.1 q.2 tab' hdo' q2
      refine AaU ?_
      have hrec:AbK (Aa5 n) (p.kids.zip t.kids) tab=((ok&&(Aa5 n q.1 q.2 tab').1)&&(AbK (Aa5 n) td (Aa5 n q.1 q.2 tab').2).1,(AbK (Aa5 n) td (Aa5 n q.1 q.2 tab').2).2):=by
       rw[hfk,Bool.and_assoc];rfl
      have rest:∀ ys':List AV,(ys'=[]↔(ok&&(Aa5 n q.1 q.2 tab').1)=true)→Sat [] σ₂∧R21a tb σ n p t tab (td.map Acf) ys' σ₂:=
       fun ys' hy=>⟨(fun jj h=>nomatch h),td,_,_,rfl,hy,hK.trans hK2,ht2,hfd.1,by lia,fun q hq=>hdp q (.tail _ hq),hrec⟩
      cases hf:(Aa5 n q.1 q.2 tab').1 with
      | true=>
       refine AaV (by decide) ?_
       exact rest ys (by rw[hf,Bool.and_true];exact hys)
      | false=>
       refine Abh rfl ?_
       exact Aae (rest _ (by rw[hf,Bool.and_false];simp))
     ·rintro ys σ' ⟨td,tab',ok,hx,hys,hK,ht',hdo',hle,hdp,hfk⟩ hlen a ha
      obtain rfl:td=[]:=Adk hx
      refine AaI (Aaf ⟨lnk rfl,fun eb heb=>?_⟩)
      have nae:a≠eb:=ne1 (Aac _ _ _) heb
      have nta:tb≠a:=ne1 ht' ha
      have nte:tb≠eb:=fun e=>by subst e;rw[Aai _ _ nta,ht'] at heb;exact nos heb.symm
      refine Adf (by rw[Aai _ _ nae];exact Aac _ _ _) (Aac _ _ _) ?_
      rw[e0,hfk]
      refine Aap ⟨?_,fun b o hb h=>?_,?_⟩
      ·rw[show AbK (Aa5 n) [] tab'=(true,tab') from rfl,Bool.and_true]
       have:decide (ys=[])=ok:=Bool.eq_iff_iff.mpr (decide_eq_true_iff.trans hys)
       rw[this]
      ·have h1:=hK b o hb h
       have kE:Keep σ' (upd (upd σ' a (.list ys)) eb (.list [])):=((Keep.refl σ').upd (.inl ha) _).upd (.inl heb) _
       exact kE _ _ h1
      ·rw[Aai _ _ nte,Aai _ _ nta];exact ht'
    ·refine AiU (by simp;exact fun e=>e2 (Int.ofNat.inj e)) ?_
     refine Abh rfl ?_
     rw[if_neg (fun h=>e2 h.2)] at e0
     rw[e0]
     refine Aad (Aal (Abf ?_))
     exact Aap (Aap ⟨rfl,fun jj jj jj h=>h,htb⟩)
   ·refine AiU (by rw[Nm.str_eq];exact e1) ?_
    refine Abh rfl ?_
    rw[if_neg (fun h=>e1 h.1)] at e0
    rw[e0]
    refine Aad (Aal (Abf ?_))
    exact Aap (Aap ⟨rfl,fun jj jj jj h=>h,htb⟩)
end
end Pq
namespace Pq
noncomputable def Ajp(s:Sd)(b:Bool)(t:Tm)(o:Bool×Tab):Prop:=Bool.casesOn o.1 (tn s b t=none) (TabOk s b t o.2)
theorem fok{s:Sd}{b:Bool}{t:Tm}{tab:Tab}{pl:Tab}{r:Tm}{m:Bool×Tab}(e:m=(true,tab))(h1:tab.length≤3)(h2:∀ p∈tab,p.2.depth≤t.depth)(h3:Aa2 (tab.map fun p=>p.1.str)=s.vs)(h4:(s.other b).fill tab=some r)(h5:tn s b t=some (pl,r))
  (h6:AbF (tab.map fun p=>p.1.str) (tab.map AaZ)=pl.map AaZ):Ajp s b t m:=by
 subst e;exact⟨h1,h2,.inl ⟨h3,pl,r,h4,h5,h6⟩⟩
theorem fno{s:Sd}{b:Bool}{t:Tm}{m:Bool×Tab}(e:m.1=false)(h:tn s b t=none):Ajp s b t m:=by unfold Ajp;rw[e];exact h
theorem AgP{n:Nat}{p t:Tm}{tab:Tab}(v:p.hd.isVar=false)(h:¬ Fit p t):Aa5 (n+1) p t tab=(false,tab):=by
 rw[AgQ v];exact if_neg h
theorem fks1{f:Tm→Tm→Tab→Bool×Tab}{q:Tm×Tm}{l:List (Tm×Tm)}{tab:Tab}(h:(f q.1 q.2 tab).1=false):(AbK f (q::l) tab).1=false:=by
 show((f q.1 q.2 tab).1&&_)=false
 rw[h];rfl
theorem fks2{f:Tm→Tm→Tab→Bool×Tab}{q:Tm×Tm}{l:List (Tm×Tm)}{tab:Tab}(h:(AbK f l (f q.1 q.2 tab).2).1=false):(AbK f (q::l) tab).1=false:=by
 show((f q.1 q.2 tab).1&&(AbK f l (f q.1 q.2 tab).2).1)=false
 rw[h,Bool.and_false]
theorem drop_fit{m:Bool×Tab}{t:Tm}(e:m=(true,[(.x,t)])):Ajp .drop true t m:=by
 subst e;exact Aht rfl
theorem tn_fits(s:Sd)(b:Bool)(t:Tm):Ajp s b t (Aa5 3 (s.one b) t []):=by
 cases s<;>cases b
 ·cases e:asB .g t with
  | none=>exact fno (congrArg Prod.fst (AgP rfl (AaH e))) (AcR e)
  | some p=>cases asB_some e;exact fok (tab:=[(.x,p.1),(.y,p.2)]) rfl (Nat.le_of_ble_eq_true rfl) (Aau (dl ..) (Aau (dr ..) AaQ)) (ss i2 rfl) rfl rfl (Afy i2 rfl)
 ·cases e:asB .g t with
  | none=>exact fno (congrArg Prod.fst (AgP rfl (AaH e))) (AcR e)
  | some p=>cases asB_some e;exact fok (tab:=[(.y,p.1),(.x,p.2)]) rfl (Nat.le_of_ble_eq_true rfl) (Aau (dl ..) (Aau (dr ..) AaQ)) (ss i1 rfl) rfl rfl (Afy i1 rfl)
 ·cases e:asB .g t with
  | none=>exact fno (congrArg Prod.fst (AgP rfl (AaH e))) (Afu e)
  | some p=>
   obtain⟨l,r⟩:=p
   cases asB_some e
   cases e2:asB .g l with
   | none=>exact fno (fks1 (f:=Aa5 2) (q:=(.bi .g (.lf .x) (.lf .y),l)) (l:=[(.lf .z,r)]) (congrArg Prod.fst (AgP rfl (AaH e2)))) (AcR e2)
   | some q=>cases asB_some e2;exact fok (tab:=[(.x,q.1),(.y,q.2),(.z,r)]) rfl (Nat.le_of_ble_eq_true rfl) (Aau (Nat.le_trans (dl ..) (dl ..)) (Aau (Nat.le_trans (dr ..) (dl ..)) (Aau (dr ..) AaQ))) (ss i4 rfl) rfl rfl (Afy i4 rfl)
 ·cases e:asB .g t with
  | none=>exact fno (congrArg Prod.fst (AgP rfl (AaH e))) (Afu e)
  | some p=>
   obtain⟨l,r⟩:=p
   cases asB_some e
   cases e2:asB .g r with
   | none=>exact fno (fks2 (f:=Aa5 2) (q:=(.lf .x,l)) (l:=[(.bi .g (.lf .y) (.lf .z),r)]) (fks1 (f:=Aa5 2) (q:=(.bi .g (.lf .y) (.lf .z),r)) (congrArg Prod.fst (AgP rfl (AaH e2))))) (AcR e2)
   | some q=>cases asB_some e2;exact fok (tab:=[(.x,l),(.y,q.1),(.z,q.2)]) rfl (Nat.le_of_ble_eq_true rfl) (Aau (dl ..) (Aau (Nat.le_trans (dl ..) (dr ..)) (Aau (Nat.le_trans (dr ..) (dr ..)) AaQ))) (ss i4 rfl) rfl rfl (Afy i4 rfl)
 ·cases e:asB .h t with
  | none=>exact fno (congrArg Prod.fst (AgP rfl (AaH e))) (AcR e)
  | some p=>cases asB_some e;exact fok (tab:=[(.x,p.1),(.y,p.2)]) rfl (Nat.le_of_ble_eq_true rfl) (Aau (dl ..) (Aau (dr ..) AaQ)) (ss i2 rfl) rfl rfl (Afy i2 rfl)
 ·exact drop_fit rfl
 ·by_cases e:t=.lf .a
  ·subst e;exact fok (tab:=[]) rfl (by decide) AaQ (ss i0 rfl) rfl rfl (Afy i0 rfl)
  ·exact fno (congrArg Prod.fst (AgP rfl (Ach e))) (if_neg e)
 ·by_cases e:t=.lf .b
  ·subst e;exact fok (tab:=[]) rfl (by decide) AaQ (ss i0 rfl) rfl rfl (Afy i0 rfl)
  ·exact fno (congrArg Prod.fst (AgP rfl (Ach e))) (if_neg e)
 ·by_cases e:t=.bi .g (.lf .a) (.lf .b)
  ·subst e;exact fok (tab:=[]) rfl (by decide) AaQ (ss i0 rfl) rfl rfl (Afy i0 rfl)
  ·refine fno ?_ (if_neg e)
   cases e1:asB .g t with
   | none=>exact congrArg Prod.fst (AgP rfl (AaH e1))
   | some p=>
    obtain⟨l,r⟩:=p
    cases asB_some e1
    by_cases e2:l=.lf .a
    ·subst e2;exact fks2 (f:=Aa5 2) (q:=(.lf .a,.lf .a)) (l:=[(.lf .b,r)]) (fks1 (f:=Aa5 2) (q:=(.lf .b,r)) (congrArg Prod.fst (AgP rfl (Ach fun q=>e (congrArg (Tm.bi _ _) q)))))
    ·exact fks1 (f:=Aa5 2) (q:=(.lf .a,l)) (l:=[(.lf .b,r)]) (congrArg Prod.fst (AgP rfl (Ach e2)))
 ·by_cases e:t=.bi .h (.lf .b) (.lf .c)
  ·subst e;exact fok (tab:=[]) rfl (by decide) AaQ (ss i0 rfl) rfl rfl (Afy i0 rfl)
  ·refine fno ?_ (if_neg e)
   cases e1:asB .h t with
   | none=>exact congrArg Prod.fst (AgP rfl (AaH e1))
   | some p=>
    obtain⟨l,r⟩:=p
    cases asB_some e1
    by_cases e2:l=.lf .b
    ·subst e2;exact fks2 (f:=Aa5 2) (q:=(.lf .b,.lf .b)) (l:=[(.lf .c,r)]) (fks1 (f:=Aa5 2) (q:=(.lf .c,r)) (congrArg Prod.fst (AgP rfl (Ach fun q=>e (congrArg (Tm.bi _ _) q)))))
    ·exact fks1 (f:=Aa5 2) (q:=(.lf .b,l)) (l:=[(.lf .c,r)]) (congrArg Prod.fst (AgP rfl (Ach e2)))
end Pq
namespace Pq
variable[Own]
noncomputable def Tm.pat(t:Tm):Bool:=Tm.rec (fun jj=>true) (fun n jj k=>!n.isVar&&k) (fun n jj jj l r=>!n.isVar&&(l&&r)) t
noncomputable def Acg(n:Nat):Tm→List Nm:=Nat.rec (fun jj=>[]) (fun jj go p=>if p.hd.isVar=true then [p.hd] else p.kids.flatMap go) n
omit [Own] in
theorem Tm.pat_kid{t k:Tm}(h:t.pat=true)(hk:k∈t.kids):k.pat=true:=by
 cases t with
 | lf _=>cases hk
 | un n a=>rw[List.mem_singleton.mp hk];exact(ba h).2
 | bi n a b=>
  rcases List.mem_cons.mp hk with rfl | hk
  ·exact(ba (ba h).2).1
  ·rw[List.mem_singleton.mp hk];exact(ba (ba h).2).2
omit [Own] in
theorem Tm.pat_var{t:Tm}(h:t.pat=true)(hv:t.hd.isVar=true):∃ m,t=.lf m:=by
 cases t with
 | lf m=>exact⟨m,rfl⟩
 | un n a=>exact absurd ((congrArg (!·) hv).symm.trans (ba h).1) Bool.false_ne_true
 | bi n a b=>exact absurd ((congrArg (!·) hv).symm.trans (ba h).1) Bool.false_ne_true
omit [Own] in
theorem Tm.hd_var{t:Tm}(hv:t.hd.isVar=false):t.isVar=false:=by cases t<;>first | exact hv | rfl
omit [Own] in
theorem Tm.hd_size(z:Tm):z.hd.str.cps.size≤1000:=by cases z.hd<;>decide
omit [Own] in
theorem Tm.av_len(z:Tm):(AV.str z.hd.str::z.kids.map Tm.av).length≤1000:=z.av_k
omit [Own] in
theorem Tm.av_slc(z:Tm):slc (AV.str z.hd.str::z.kids.map Tm.av) (some 1) none=z.kids.map Tm.av:=by simp[slc]
section
variable{B:Aaj}{d:Nat}
inductive R23b(σ:AH)(rs:List Tm)(l:Tab)(t:Tm)(xs:List AV)(ys:List AV)(σ':AH):Prop
 | mk (h1:Keep σ σ') (ks done rest:_) (h2:xs=ks.map Tm.av) (h3:ys=done.map Tm.av) (h4:done++rest=rs) (h5:fills ks l rest) (h6:∀ k∈ks,k∈t.kids)
theorem Ai2(P:Prg B){tb:Addr}{l:Tab}:∀ (n:Nat) (t r:Tm),t.depth≤n→t.pat=true→t.fill l=some r→∀ σ,σ tb=some (.dict (l.map AeI))→AK B (d+n+1) (.ref (P.a 25)) [t.av,.obj tb] σ (RetK σ r.av):=by
 intro n
 induction n with
 | zero=>exact fun t jj h jj jj jj jj=>absurd h (Nat.not_le_of_gt t.depth_pos)
 | succ n ih=>
  intro t r h hpt hf σ htb
  have F:=P.fn 25 (by decide)
  refine Abm (d:=d+(n+1)) P.O F (names:=["pattern","table"]) (hb2 fun jj jj jj jj jj jj jj jj jj jj=>rfl) (by decide +kernel) fun qn L cd=>?_
  rw[Tm.av_eq t]
  refine Aad (AbV (Aax rfl (AaL (AaF rfl (Aaa (by rfl) (by rfl) (Aae (Abu (a:=.str t.hd.str) (by decide) t.av_len (by rfl) ?_)))))))
  refine Aaz (Aay (Aae ⟨1,rfl,Ag6 t.hd_size ?_⟩))
  refine Aav (AdY ?_)
  rw[Nm.var_str]
  cases hv:t.hd.isVar with
  | true=>
   refine Abh rfl ?_
   obtain⟨m,rfl⟩:=Tm.pat_var hpt hv
   have hm:m.isVar=true:=hv
   rw[Tm.fill_v hm] at hf
   have hlk:look (l.map AeI) (.str m.str)=some r.av:=by rw[Ab9,hf];rfl
   refine Aad (Aal (AaF rfl (AaD (a:=.obj tb) (by rfl) (by rfl) ?_)))
   refine AaF rfl (Aaa (by rfl) (by rfl) (Aae (Abu (a:=.str m.str) (by decide) (by simp[Tm.kids]) (by rfl) (Aci htb (Aeg l m) hlk ?_))))
   exact Aap (Aap ⟨rfl,Keep.refl σ⟩)
  | false=>
   refine AaV (by decide) ?_
   obtain⟨rs,hrs,hr⟩:=Tm.fill_kids (Tm.hd_var hv) hf
   have hkl:(t.kids.map Tm.av).length≤2:=t.kav_le
   have hrl:rs.length=t.kids.length:=by have:=congrArg List.length hrs;simpa using this.symm
   refine AaK (Aah ?_);refine AcA ?_;intro V
   refine Aad (Aal (AaN ?_))
   refine AaL (Aaa (by rfl) (by rfl) (Aaz (Aay (Aae ⟨1,rfl,AcN t.av_len ?_⟩))))
   have e0:slc (AV.str t.hd.str::t.kids.map Tm.av) none (some 1)=[AV.str t.hd.str]:=by simp[slc]
   rw[e0]
   refine e_g P.O (by rfl) P.g_tuple rfl ?_
   refine Aab rfl (AaT rfl (cl:=[("table",L+1)]) ⟨by rfl,by rfl,by simp,by rfl,by decide,by rfl,by decide⟩ ?_)
   refine AeV (AaL (Aaa (by rfl) (by rfl) (Aay (Aae ⟨1,rfl,Aaz (AcN t.av_len ?_)⟩))))
   rw[t.av_slc]
   refine⟨_,rfl,by exact Nat.le_trans hkl (lnk rfl),?_⟩
   refine⟨(R23b σ rs l t),⟨Keep.refl σ,t.kids,[],rs,rfl,rfl,rfl,hrs,fun jj h=>h⟩,?_,?_⟩
   ·rintro C x xs ys σ' hsat ⟨hK,ks,done,rest,hx,rfl,hd,hfl,hks⟩
    obtain⟨k,ks⟩:=Abb hx
    cases rest with
    | nil=>cases hfl
    | cons r' rest=>
     replace hfl:=List.cons.inj hfl
     have hm:=hks k (.head _)
     have hkd:k.depth≤n:=by have:=Tm.kid_depth hm;exact ln3 (.c 1 (.v 0) (.p 1 1) (.c 1 (.p 2 1) (.v 0) (.g 0 (.v 2) (.v 1)))) rfl h this
     refine AaY rfl (AcU ?_)
     refine e_g P.O (by rfl) P.g_law_filled (P.keep 25 (by decide)) ?_
     refine Aag (.loc (a:=k.av) (by rfl) (by rfl) (.cell (a:=.obj tb) (by rfl) (by rfl) .nil)) ?_
     refine((ih k r' hkd (Tm.pat_kid hpt hm) hfl.1 σ' (hK _ _ htb)).ac).mono ?_
     rintro v σ₂ ⟨rfl,hK2⟩
     exact⟨(fun jj h=>nomatch h),hK.trans hK2,ks,done++[r'],rest,rfl,msn,asn hd,hfl.2,fun k' hk'=>hks k' (.tail _ hk')⟩
   ·rintro ys σ' hsat ⟨hK,ks,done,rest,hx,rfl,hd,hfl,hks⟩ hlen a ha
    obtain rfl:ks=[]:=Adk hx
    have hr0:rest=[]:=by cases rest with
     | nil=>rfl
     | cons k ks=>cases hfl
    subst hr0
    rw[List.append_nil] at hd
    subst hd
    refine Aaf ?_
    refine AdZ (Aac _ _ _) hlen ?_
    refine AaW (by simp at hkl hrl ⊢;exact ln2 (.e 1 0 (.v 0) (.v 1) (.c 1 (.v 1) (.n 2) (.g 0 (.a (.n 1) (.v 0)) (.n 1000)))) rfl hrl hkl) ?_
    exact Aap ⟨by rw[hr];rfl,hK.upd (.inl ha) _⟩
inductive R23c(σ:AH)(n:Nat)(p:Tm)(v:AV)(σ':AH):Prop
 | mk (b:_) (h1:v=.obj b) (h2:σ b=none) (h3:Keep σ σ') (h4:σ' b=some (.list ((Acg n p).map fun m=>.str m.str))) (h5:(Acg n p).length≤2 ^ n)
inductive R23d(σ:AH)(n:Nat)(p:Tm)(xs:List AV)(ys:List AV)(σ':AH):Prop
 | mk (h1:Keep σ σ') (dn td:_) (h2:xs=td.map Tm.av) (h3:ys=(dn.flatMap (Acg n)).map (fun m=>AV.str m.str)) (h4:dn++td=p.kids) (h5:(dn.flatMap (Acg n)).length≤dn.length * 2 ^ n)
inductive R23e(σ₂:AH)(dn:List Tm)(n:Nat)(k:Tm)(xs1:List AV)(ys1:List AV)(σ'':AH):Prop
 | mk (h1:σ''=σ₂) (d1 t1:List Nm) (h2:xs1=t1.map (fun m=>AV.str m.str)) (h3:ys1=((dn.flatMap (Acg n))++d1).map (fun m=>AV.str m.str)) (h4:d1++t1=Acg n k)
theorem names_AK(P:Prg B):∀ (n:Nat) (p:Tm) (σ:AH),p.depth≤n→n≤4→AK B (d+n) (.ref (P.a 26)) [p.av] σ (R23c σ n p):=by
 intro n
 induction n with
 | zero=>exact fun p jj h jj=>absurd h (Nat.not_le_of_gt p.depth_pos)
 | succ n ih=>
  intro p σ h hn4
  have F:=P.fn 26 (by decide)
  refine Abm (d:=d+n) P.O F (names:=["pattern"]) (hb1 fun jj jj jj jj jj jj jj jj jj=>rfl) (by decide +kernel) fun qn L cd=>?_
  have hpow:2 ^ n≤8:=by
   have:n≤3:=Nat.le_of_succ_le_succ hn4
   calc 2 ^ n≤2 ^ 3:=Nat.pow_le_pow_right (by exact lnk rfl) this
    _=8:=rfl
  rw[Tm.av_eq p]
  refine Aad (AbV (Aax rfl (AaL (AaF rfl (Aaa (by rfl) (by rfl) (Aae (Abu (a:=.str p.hd.str) (by decide) p.av_len (by rfl) ?_)))))))
  refine Aaz (Aay (Aae ⟨1,rfl,Ag6 p.hd_size ?_⟩))
  refine Aav (AdY ?_)
  rw[Nm.var_str]
  cases hv:p.hd.isVar with
  | true=>
   refine Abh rfl ?_
   have e:Acg (n+1) p=[p.hd]:=if_pos hv
   refine Aad (Aal (AaI (Aab rfl (AaF rfl (Aaa (by rfl) (by rfl) (Aae (Abu (a:=.str p.hd.str) (by decide) p.av_len (by rfl) ?_)))))))
   refine Aaf ⟨lnk rfl,fun a ha=>?_⟩
   exact Aap (Aap ⟨a,rfl,ha,(Keep.refl σ).upd (.inl ha) _,by rw[Aac,e];rfl,by rw[e];exact Nat.one_le_two_pow⟩)
  | false=>
   refine AaV (by decide) ?_
   refine AaK (Aah ?_);refine AcA ?_;intro V
   have e:Acg (n+1) p=p.kids.flatMap (Acg n):=if_neg fun e=>Bool.false_ne_true (hv.symm.trans e)
   have hk2:p.kids.length≤2:=p.kids_le
   refine Aad (Aal (AgV rfl rfl (cl:=[]) ⟨by rfl,by rfl,by simp,by rfl,by decide,by rfl,by decide⟩ ?_))
   refine AeV (AaL (Aaa (by rfl) (by rfl) (Aay (Aae ⟨1,rfl,Aaz (AcN p.av_len ?_)⟩))))
   rw[p.av_slc]
   refine⟨_,rfl,?_⟩
   refine⟨(R23d σ n p),⟨Keep.refl σ,[],p.kids,rfl,rfl,rfl,by simp⟩,?_,?_⟩
   ·rintro C x xs ys σ' hsat ⟨hK,dn,td,hx,rfl,hd,hl⟩
    obtain⟨k,td⟩:=Abb hx
    have hkm:k∈p.kids:=by rw[← hd];simp
    have hkd:k.depth≤n:=by have:=Tm.kid_depth hkm;exact ln3 (.c 1 (.v 0) (.p 1 1) (.c 1 (.p 2 1) (.v 0) (.g 0 (.v 2) (.v 1)))) rfl h this
    have hdl:dn.length+1≤2:=by have:=congrArg List.length hd;simp at this;exact ln3 (.c 1 (.v 0) (.n 2) (.e 1 0 (.a (.v 1) (.p 2 1)) (.v 0) (.g 0 (.p 1 1) (.n 2)))) rfl hk2 this
    have hdl2:dn.length * 2 ^ n≤1 * 8:=Nat.mul_le_mul (ln1 (.c 1 (.p 0 1) (.n 2) (.g 0 (.v 0) (.n 1))) rfl hdl) hpow
    refine AaY rfl ?_
    refine AaC (e_g P.O (by rfl) P.g_law_names (P.keep 26 (by decide)) ?_)
    refine Aag (.loc (a:=k.av) (by rfl) (by rfl) .nil) ?_
    refine((ih k σ' hkd (by exact Nat.le_of_lt hn4)).ac).mono ?_
    rintro v σ₂ ⟨b,rfl,hb,hK2,hbl,hlen⟩
    refine⟨b,_,rfl,hbl,?_⟩
    refine⟨(R23e σ₂ dn n k),⟨rfl,[],Acg n k,rfl,by simp,rfl⟩,by simp only[List.length_map];exact ln4 (.c 1 (.v 0) (.n 8) (.c 1 (.v 1) (.v 2) (.c 1 (.v 2) (.m 1 (.n 8)) (.c 1 (.v 3) (.v 0) (.g 0 (.b 3 1) (.n 1000)))))) rfl hpow hl hdl2 hlen,?_,?_⟩
    ·rintro C' x xs ys σ'' hsat2 ⟨rfl,d1,t1,hx1,rfl,hd1⟩
     obtain⟨m,t1⟩:=Abb hx1
     refine AaY rfl (AcU ?_)
     exact Aaa (a:=.str m.str) (by rfl) (by rfl) ⟨hsat2,rfl,d1++[m],t1,rfl,by simp,by simp[← hd1]⟩
    ·rintro ys' σ'' hsat2 ⟨rfl,d1,t1,hx1,rfl,hd1⟩
     obtain rfl:t1=[]:=Adk hx1
     rw[List.append_nil] at hd1
     subst hd1
     exact⟨(fun jj h=>nomatch h),hK.trans hK2,dn++[k],td,rfl,by simp,by simp[← hd],by simp[Nat.add_mul] at hl ⊢;exact ln4 (.c 1 (.v 0) (.v 1) (.c 1 (.v 2) (.v 3) (.g 0 (.b 2 0) (.b 3 1)))) rfl hlen hl⟩
   ·rintro ys σ' hsat ⟨hK,dn,td,hx,rfl,hd,hl⟩ a ha
    obtain rfl:td=[]:=Adk hx
    rw[List.append_nil] at hd
    subst hd
    refine Aap ⟨a,rfl,hK.none ha,hK.upd (.inl ha) _,by rw[Aac,e],?_⟩
    rw[e,Nat.pow_succ]
    have:p.kids.length * 2 ^ n≤2 * 2 ^ n:=Nat.mul_le_mul_right _ hk2
    exact ln3 (.c 1 (.v 0) (.v 1) (.c 1 (.v 1) (.m 2 (.v 2)) (.g 0 (.v 0) (.w (.v 2) 2)))) rfl hl this
end
end Pq
namespace Pq
variable[Own]
omit [Own] in
theorem Sd.depthB(s:Sd)(b:Bool):(s.one b).depth≤3∧(s.one b).size≤50∧(s.other b).depth≤3∧(s.other b).pat=true∧s.left.depth≤3∧(Acg 3 s.left).map Nm.str=s.left.vnames.map Nm.str:=by cases s<;>cases b<;>decide
noncomputable def AhZ(s:Sd)(t:Tm)(b:Bool):List (Step×Tm):=(turnB s t b).map fun u=>(⟨[],u.sk,u.places,u.back⟩,u.late)
omit [Own] in
theorem AiV(s:Sd)(t:Tm)(b:Bool):(AhZ s t b).length≤1:=lml (Ac1 ..)
omit [Own] in
theorem hereT_n{s:Sd}{t:Tm}{b:Bool}(h:tn s b t=none):AhZ s t b=[]:=congrArg _ (Ae0 h)
omit [Own] in
theorem hereT_s{s:Sd}{t:Tm}{b:Bool}{p:Tab×Tm}(h:tn s b t=some p):AhZ s t b=[(⟨[],s.sk,p.1,b⟩,p.2)]:=congrArg _ (AeZ h)
section
variable{B:Aaj}{d:Nat}{σ:AH}
inductive R24b(b:Addr)(t:Tm)(σ:AH)(sds:List Sd)(xs:List AV)(vars:Vars)(σ':AH):Prop
 | mk (done todo:_) (h1:xs=todo.map Sd.av) (h2:vars "found"=some (.obj b)) (h3:vars "t"=some t.av) (h4:Keep σ σ') (h5:σ' b=some (.list ((AbJ done t).map AcF))) (h6:done++todo=sds)
inductive R24c(s:Sd)(b:Addr)(t:Tm)(σ:AH)(done:List Sd)(xs:List AV)(vars:Vars)(σ'':AH):Prop
 | mk (dn td:_) (h1:xs=td.map (fun q=>AV.tup [(s.one q).av,(s.other q).av,.bool q])) (h2:vars "found"=some (.obj b)) (h3:vars "t"=some t.av) (h4:vars "kind"=some (.str s.sk.kind)) (h5:vars "name"=some (.str s.sk.name)) (h6:vars "left"=some s.left.av) (h7:Keep σ σ'') (h8:σ'' b=some (.list ((AbJ done t++dn.flatMap (AhZ s t)).map AcF))) (h9:dn++td=[false,true]) (h10:dn.length≤2)
noncomputable def v24a(sb:Addr)(t:Tm):Vars:=fV ["sides","t"] [.obj sb,t.av]
set_option maxHeartbeats 1000000 in
theorem here_AK(P:Prg B){sb:Addr}{sds:List Sd}{t:Tm}(hs:σ sb=some (.list (sds.map Sd.av)))(hn:sds.length≤5)(hdt:t.depth≤8):
  AK B (d+6) (.ref (P.a 27)) [.obj sb,t.av] σ (NewL σ ((AbJ sds t).map AcF)):=by
 have F:=P.fn 27 (by decide)
 refine Abm (d:=d+5) P.O F (names:=["sides","t"]) (hb2 fun jj jj jj jj jj jj jj jj jj jj=>rfl) (by decide +kernel) fun qn L cd=>?_
 let E:=fE (AaB (Acl 27)) (P.a 27) qn L cd
 let V:=v24a sb t
 show AX B _ E V (execs _ E) _ _
 refine Aad ?_
 refine Aak rfl rfl ?_
 refine AaI ?_
 refine Aaf ⟨lnk rfl,fun b hb=>?_⟩
 have hK0:Keep σ (upd σ b (.list [])):=(Keep.refl σ).upd (.inl hb) _
 refine Aad ?_
 refine Abc rfl ?_
 refine AaC ?_
 refine Aaa (a:=.obj sb) (by rfl) (by rfl) ⟨sb,_,rfl,hK0 _ _ hs,?_⟩
 refine⟨(R24b b t σ sds),⟨[],sds,rfl,by rfl,by rfl,hK0,by rw[Aac];rfl,rfl⟩,?_,?_⟩
 ·rintro y xs vars σ' hsat ⟨done,todo,hx,h1,h2,hK,hb',hd⟩
  obtain⟨s,todo⟩:=Abb hx
  have hlen:(AbJ done t).length≤2 * done.length:=by unfold AbJ;rw[List.length_map];exact Ac0 done t
  have hdl:done.length+1≤5:=by have:=congrArg List.length hd;simp at this;exact ln3 (.c 1 (.v 0) (.n 5) (.e 1 0 (.a (.v 1) (.p 2 1)) (.v 0) (.g 0 (.p 1 1) (.n 5)))) rfl hn this
  refine AbP rfl rfl ?_
  refine Aar ?_
  refine AaA rfl ?_
  refine Aar ?_
  refine AaA rfl ?_
  refine Aar ?_
  refine AaA rfl ?_
  refine Aar ?_
  refine AaA rfl ?_
  refine AbO ?_
  refine Aad ?_
  refine Abc rfl ?_
  refine AeV ?_
  refine Aam ?_
  refine Aab rfl ?_
  refine Aam ?_
  refine Aag (.loc (a:=s.left.av) (by rfl) (by rfl) (.loc (a:=s.right.av) (by rfl) (by rfl) (.bool .nil))) ⟨lnk rfl,?_⟩
  refine Aab rfl ?_
  refine Aam ?_
  refine Aag (.loc (a:=s.right.av) (by rfl) (by rfl) (.loc (a:=s.left.av) (by rfl) (by rfl) (.bool .nil))) ⟨lnk rfl,?_⟩
  refine Aaf ⟨lnk rfl,_,rfl,?_⟩
  refine⟨(R24c s b t σ done),⟨[],[false,true],rfl,by exact h1,by exact h2,by rfl,by rfl,by rfl,hK,by simpa using hb',rfl,by simp⟩,?_,?_⟩
  ·rintro y xs vars σ'' hsat2 ⟨dn,td,hx,h1,h2,h3,h4,h5,hK2,hb2,hdn,hl⟩
   obtain⟨q,td⟩:=Abb hx
   obtain⟨g1,g2,g3,g4,g5,g6⟩:=s.depthB q
   have hdn2:dn.length≤1:=by have:=congrArg List.length hdn;simp at this;exact ln2 (.e 1 0 (.a (.v 0) (.p 1 1)) (.n 2) (.g 0 (.v 0) (.n 1))) rfl this
   refine a_n3 rfl rfl rfl ?_
   refine Aad ?_
   refine Aak rfl rfl ?_
   refine Afm fun tb htb=>?_
   refine Aah ?_;refine AcA ?_;intro V
   have hbt:tb≠b:=ne2 hb2 htb
   have hKt:Keep σ'' (upd σ'' tb (.dict [])):=(Keep.refl σ'').upd (.inl htb) _
   refine Aad ?_
   refine AbV ?_
   refine AdJ ?_
   refine Aa9 rfl ?_
   refine e_g P.O (by rfl) P.g_law_fits (P.keep 24 (by decide)) ?_
   refine Aag (.loc (a:=(s.one q).av) (by rfl) (by rfl) (.loc (a:=t.av) (by rfl) (by exact h2) (.loc (a:=.obj tb) (by rfl) (by rfl) .nil))) ((fits_AK (d:=0) P (tb:=tb) 3 (s.one q) t [] (upd σ'' tb (.dict [])) g1 hdt (fun jj h=>nomatch h) (by simp;exact Nat.le_trans g2 (lnk rfl)) (Aac _ _ _)).use rfl ?_)
   rintro v σ₂ ⟨rfl,hKX,hd2⟩
   have hK3:Keep σ'' σ₂:=fun a o h=>hKX a o (fun e=>by subst e;rw[htb] at h;cases h) (hKt a o h)
   have hb3:=hK3 _ _ hb2
   have ht:=tn_fits s q t
   have key:∀ (σ₃:AH),Keep σ₂ σ₃→tn s q t=none→∃ dn' td',td.map (fun q=>AV.tup [(s.one q).av,(s.other q).av,.bool q])=td'.map (fun q=>AV.tup [(s.one q).av,(s.other q).av,.bool q])∧Keep σ σ₃ ∧
     σ₃ b=some (.list ((AbJ done t++dn'.flatMap (AhZ s t)).map AcF))∧dn'++td'=[false,true]∧dn'.length≤2:=fun σ₃ hk hno=>
    ⟨dn++[q],td,rfl,(hK2.trans hK3).trans hk,by rw[hk _ _ hb3,List.flatMap_append,List.flatMap_singleton,hereT_n hno,List.append_nil],by simp[← hdn],by simp;exact hdn2⟩
   generalize Aa5 3 (s.one q) t []=mo at hd2 ht
   obtain⟨ok,tab⟩:=mo
   refine AaU ?_
   cases ok with
   | false=>
    refine AaV (by simp) ?_
    refine AaV (by decide) ?_
    obtain⟨dn',td',k1,k2,k3,k4,k5⟩:=key σ₂ (Keep.refl _) ht
    refine AaK ?_
    refine Aaq ?_
    exact⟨(fun jj h=>nomatch h),dn',td',k1,by exact h1,by exact h2,by exact h3,by exact h4,by exact h5,k2,k3,k4,k5⟩
   | true=>
    obtain⟨hl3,hdp,ht⟩:=ht
    replace hl3:tab.length≤3:=hl3
    replace hdp:∀ p∈tab,p.2.depth≤t.depth:=hdp
    refine Abh rfl ?_
    refine AdJ ?_
    refine Aax rfl ?_
    refine e_g P.O (by rfl) P.g_sorted rfl ?_
    refine Aag (.loc (a:=.obj tb) (by rfl) (by rfl) .nil) ?_
    refine AbX (ks:=tab.map fun p=>p.1.str) (.inl hd2) (by simp[AeI]) (by simp;exact Nat.le_trans (Nat.add_le_add_right hl3 1) (lnk rfl)) fun c hc=>?_
    have hK4:Keep σ₂ (upd σ₂ c (.list ((Aa2 (tab.map fun p=>p.1.str)).map .str))):=(Keep.refl _).upd (.inl hc) _
    refine AdA P.O (by rfl) P.g_sorted rfl (by rfl) P.g_set ?_
    refine e_g P.O (by rfl) P.g_law_names (P.keep 26 (by decide)) ?_
    refine Aag (.loc (a:=s.left.av) (by rfl) (by exact h5) .nil) ?_
    refine(names_AK (d:=0) P 3 s.left _ g5 (by exact lnk rfl)).use rfl ?_
    rintro v σ₃ ⟨e,rfl,he,hK5,he2,hel⟩
    refine⟨e,(Acg 3 s.left).map Nm.str,rfl,by rw[he2];simp,by simp;lia,s.vs,by rw[g6];exact s.vs_ok,fun f hf3=>?_⟩
    have hK6:Keep σ₃ (upd σ₃ f (.list (s.vs.map .str))):=(Keep.refl _).upd (.inl hf3) _
    have ncf:c≠f:=ne1 (hK5 _ _ (Aac _ _ _)) hf3
    refine Age (hK6 _ _ (hK5 _ _ (Aac _ _ _))) (Aac _ _ _) AcD AcD (Aco _ _) ?_
    rw[decide_eq_decide.mpr (iff_of_eq (Agt (l:=Aa2 (tab.map fun p=>p.1.str)) (m:=s.vs)))]
    have hK36:Keep σ₂ (upd σ₃ f (.list (s.vs.map .str))):=(hK4.trans hK5).trans hK6
    generalize upd σ₃ f (.list (s.vs.map .str))=σ₄ at hK36
    rcases ht with ⟨hv,pl,r,hf,htn,hsrt⟩ | ⟨hv,htn⟩
    ·refine AhY hv ?_
     refine Ail ?_
     refine Abh rfl ?_
     have hd3:σ₄ tb=some (.dict (tab.map AeI)):=hK36 _ _ hd2
     refine Aad ?_
     refine Ace rfl rfl ?_
     refine AaM P.O rfl rfl ?_
     refine Aaa (a:=.obj b) (by rfl) (by exact h1) ⟨_,Aa3 (hK36 _ _ hb3),rfl,rfl,?_⟩
     refine Aab rfl ?_
     refine Aam ?_
     refine Aab rfl ?_
     refine Aam ?_
     refine Aab rfl ?_
     refine Aam ?_
     refine Aaf ⟨lnk rfl,?_⟩
     refine Aab rfl ?_
     refine Aaa (a:=.str s.sk.kind) (by rfl) (by exact h3) ?_
     refine Aab rfl ?_
     refine Aaa (a:=.str s.sk.name) (by rfl) (by exact h4) ?_
     refine Aab rfl ?_
     refine e_g P.O (by rfl) P.g_tuple rfl ?_
     refine Aab rfl ?_
     refine AcT P.O (by rfl) P.g_sorted rfl rfl ?_
     refine Aaa (a:=.obj tb) (by rfl) (by rfl) ?_
     refine⟨tb,tab.map fun p=>(p.1.str,p.2.av),rfl,by rw[hd3];simp[AeI],by simp;exact Nat.le_trans hl3 (lnk rfl),?_,fun f hf2=>?_⟩
     ·intro kt hkt
      obtain⟨p,hp,rfl⟩:=List.mem_map.mp hkt
      have:=hdp p hp
      exact Tm.ok (by exact Nat.le_trans this hdt)
     refine Aaf ?_
     refine AdZ (Aac _ _ _) ?_ ?_
     ·rw[List.map_map,List.map_map]
      rw[show((fun kt:Str×AV=>kt.1)∘fun p:Nm×Tm=>(p.1.str,p.2.av))=(fun p:Nm×Tm=>p.1.str) from rfl,show(AbT∘fun p:Nm×Tm=>(p.1.str,p.2.av))=AaZ from rfl]
      rw[(Ad4 _ _ (by simp)).length_eq]
      simp;exact Nat.le_trans hl3 (lnk rfl)
     ·rw[List.map_map,List.map_map]
      rw[show((fun kt:Str×AV=>kt.1)∘fun p:Nm×Tm=>(p.1.str,p.2.av))=(fun p:Nm×Tm=>p.1.str) from rfl,show(AbT∘fun p:Nm×Tm=>(p.1.str,p.2.av))=AaZ from rfl,hsrt]
      have hK7:Keep σ₄ (upd σ₄ f (.list (pl.map AaZ))):=(Keep.refl _).upd (.inl hf2) _
      refine Aag (.loc (a:=.bool q) (by rfl) (by rfl) .nil) ⟨lnk rfl,?_⟩
      refine Aab rfl ?_
      refine e_g P.O (by rfl) P.g_law_filled (P.keep 25 (by decide)) ?_
      refine Aag (.loc (a:=(s.other q).av) (by rfl) (by rfl) (.loc (a:=.obj tb) (by rfl) (by rfl) .nil)) ((Ai2 (d:=0) P 3 (s.other q) r g3 g4 hf _ (hK7 _ _ hd3)).use rfl ?_)
      rintro v σ₅ ⟨rfl,hK8⟩
      have hb4:=hK8 _ _ (hK7 _ _ (hK36 _ _ hb3))
      have hf1:=Ahr (AiV s t) dn
      refine Aaf ⟨lnk rfl,Aaf (Aa6 hb4 (by rw[List.length_map,List.length_append];exact ln4 (.c 1 (.v 0) (.m 2 (.v 1)) (.c 2 (.p 1 1) (.n 5) (.c 1 (.v 2) (.n 1) (.c 1 (.v 3) (.v 2) (.g 0 (.b 0 3) (.n 1000)))))) rfl hlen hdl hdn2 hf1) ?_)⟩
      refine Aaq ?_
      refine Aaq ⟨(fun jj h=>nomatch h),dn++[q],td,rfl,by exact h1,by exact h2,by exact h3,by exact h4,by exact h5,?_,?_,by simp[← hdn],by simp;exact hdn2⟩
      ·exact(((hK2.trans hK3).trans hK36).trans (hK7.trans hK8)).upd (.inr hb) _
      ·rw[Aac,List.flatMap_append,List.flatMap_singleton,hereT_s htn,Ahi];rfl
    ·refine Af3 hv ?_
     refine AaV (by decide) ?_
     obtain⟨dn',td',k1,k2,k3,k4,k5⟩:=key σ₄ hK36 htn
     refine AaK ?_
     refine Aaq ?_
     exact⟨(fun jj h=>nomatch h),dn',td',k1,by exact h1,by exact h2,by exact h3,by exact h4,by exact h5,k2,k3,k4,k5⟩
  ·rintro vars σ'' _ ⟨dn,td,hx,h1,h2,h3,h4,h5,hK2,hb2,hdn,hl⟩
   obtain rfl:td=[]:=Adk hx
   rw[List.append_nil] at hdn
   subst hdn
   refine Aaq ⟨fun p hp=>?_,done++[s],todo,rfl,by exact h1,by exact h2,hK2,?_,by simp[← hd]⟩
   ·rw[List.mem_singleton.mp hp]
    exact hK2 _ _ hs
   ·rw[hb2];simp[AbJ,Aa8,AhZ]
 ·rintro vars σ' _ ⟨done,todo,hx,h1,h2,hK,hb',hd⟩
  obtain rfl:todo=[]:=Adk hx
  rw[List.append_nil] at hd
  subst hd
  refine Aad ?_
  refine Aal ?_
  refine Aaa (by rfl) h1 ?_
  exact Aap ⟨b,rfl,hb,hK,hb'⟩
end
end Pq
namespace Pq
variable[Own]
noncomputable def AfQ(sds:List Sd)(t:Tm)(i:Nat)(l:List Tm):List (Step×Tm):=List.rec (fun jj=>[]) (fun k jj go i=>(Aas sds k).map (fun p=>(p.1.push i,t.setKid i p.2))++go (i+1)) l i
omit [Own] in
theorem near_eq(sds:List Sd)(t:Tm):Aas sds t=AbJ sds t++AfQ sds t 0 t.kids:=by
 cases t with
 | lf n=>exact(List.append_nil _).symm
 | un n a=>exact congrArg (AbJ sds _++·) (List.append_nil _).symm
 | bi n a b=>
  show AbJ sds (.bi n a b)++(_++_)=AbJ sds (.bi n a b)++(_++(_++[]))
  rw[List.append_nil];rfl
omit [Own] in
theorem AdU(sds:List Sd)(t:Tm):(Aas sds t).length≤2 * sds.length * t.parts.length:=by
 rw[← AbN]
 generalize t.parts=l
 induction l with
 | nil=>exact Nat.zero_le _
 | cons p l ih=>exact Nat.le_trans (Nat.le_of_eq List.length_append) (Nat.le_trans (Nat.add_le_add (lml (Ac0 sds p.2)) ih) (Nat.le_of_eq (Nat.add_comm ..)))
omit [Own] in
theorem Aiq{t k v:Tm}{i:Nat}(h:t.kids[i]?=some k):(t.setKid i v).av=.tup (slc (.str t.hd.str::t.kids.map Tm.av) none (some (i+1))++[v.av]++slc (.str t.hd.str::t.kids.map Tm.av) (some (i+2)) none):=by
 cases t with
 | lf n=>cases h
 | un n a=>
  cases i with
  | zero=>rfl
  | succ i=>cases h
 | bi n a b=>
  cases i with
  | zero=>rfl
  | succ i=>
   cases i with
   | zero=>rfl
   | succ i=>cases h
omit [Own] in
theorem kid_w{t k:Tm}(h:k∈t.kids):k.w≤t.w:=by
 cases t with
 | lf _=>cases h
 | un n a=>rw[List.mem_singleton.mp h];exact Nat.le_succ _
 | bi n a b=>
  rcases List.mem_cons.mp h with rfl | h
  ·exact Nat.le_add_right ..
  ·rw[List.mem_singleton.mp h];exact Nat.le_add_left ..
section
variable{B:Aaj}{d:Nat}
inductive R25b(t:Tm)(sb:Addr)(b:Addr)(σ:AH)(sds:List Sd)(xs:List AV)(vars:Vars)(σ':AH):Prop
 | mk (i:Nat) (ks:List Tm) (acc:List (Step×Tm)) (h1:xs=AcW ((i+1:Nat):Int) ks.length) (h2:t.kids.drop i=ks) (h3:vars "sides"=some (.obj sb)) (h4:vars "t"=some t.av) (h5:vars "found"=some (.obj b)) (h6:Keep σ σ') (h7:σ' b=some (.list (acc.map AcF))) (h8:acc++AfQ sds t i ks=Aas sds t)
inductive R25c(sb:Addr)(t:Tm)(b:Addr)(i:Nat)(σ:AH)(nb:Addr)(sds:List Sd)(k:Tm)(acc:List (Step×Tm))(xs:List AV)(vars:Vars)(σ'':AH):Prop
 | mk (dn td:List (Step×Tm)) (h1:xs=td.map AcF) (h2:vars "sides"=some (.obj sb)) (h3:vars "t"=some t.av) (h4:vars "found"=some (.obj b)) (h5:vars "k"=some (.int ((i+1:Nat):Int))) (h6:Keep σ σ'') (h7:σ'' nb=some (.list ((Aas sds k).map AcF))) (h8:σ'' b=some (.list ((acc++dn.map fun p=>(p.1.push i,t.setKid i p.2)).map AcF))) (h9:dn++td=Aas sds k)
noncomputable def v25a(sb:Addr)(t:Tm):Vars:=fV ["sides","t"] [.obj sb,t.av]
set_option maxHeartbeats 1000000 in
theorem Ae8(P:Prg B){sb:Addr}{sds:List Sd}:∀ (n:Nat) (t:Tm) (σ:AH),t.depth≤n→t.w≤4→sds.length≤3→σ sb=some (.list (sds.map Sd.av)) →
  AK B (d+6+n) (.ref (P.a 28)) [.obj sb,t.av] σ (NewL σ ((Aas sds t).map AcF)):=by
 intro n
 induction n with
 | zero=>exact fun t jj h jj jj jj=>absurd h (Nat.not_le_of_gt t.depth_pos)
 | succ n ih=>
  intro t σ h hw hn hs
  have F:=P.fn 28 (by decide)
  have hdw:=t.depth_w
  have hpw:=t.parts_w
  refine Abm (d:=d+6+n) P.O F (names:=["sides","t"]) (hb2 fun jj jj jj jj jj jj jj jj jj jj=>rfl) (by decide +kernel) fun qn L cd=>?_
  let E:=fE (AaB (Acl 28)) (P.a 28) qn L cd
  let V:=v25a sb t
  show AX B _ E V (execs _ E) _ _
  refine Aad (Aak rfl rfl (e_g P.O (by rfl) P.g_law_here (P.keep 27 (by decide)) ?_))
  refine Aag (.loc (a:=.obj sb) (by rfl) (by rfl) (.loc (a:=t.av) (by rfl) (by rfl) .nil)) ((AC.less (here_AK (d:=0) P hs (by exact Nat.le_trans hn (lnk rfl)) (by exact Nat.le_trans (Nat.le_trans hdw hw) (lnk rfl))).ac (ln2 (.g 0 (.a (.n 0) (.n 6)) (.a (.p 0 6) (.v 1))) rfl)).mono ?_)
  rintro v σ₁ ⟨b,rfl,hb,K1,hl1⟩
  refine Aah ?_
  have hkl:t.kids.length≤2:=t.kids_le
  have hnl:=AdU sds t
  have hnl2:(Aas sds t).length≤42:=by
   have:2 * sds.length * t.parts.length≤6 * 7:=Nat.mul_le_mul (ln1 (.c 2 (.v 0) (.n 3) (.g 0 (.m 2 (.v 0)) (.n 6))) rfl hn) (ln2 (.c 2 (.v 0) (.n 4) (.c 1 (.p 1 1) (.m 2 (.v 0)) (.g 0 (.v 1) (.n 7)))) rfl hw hpw)
   exact ln2 (.c 1 (.v 0) (.v 1) (.c 1 (.v 1) (.m 6 (.n 7)) (.g 0 (.v 0) (.n 42)))) rfl hnl this
  refine Aad (Abc rfl (AhA P.O (by rfl) P.g_range ?_))
  refine Aab rfl (Aae ?_)
  refine Aab rfl (e_g P.O (by rfl) P.g_len rfl ?_)
  refine Aag (.loc (a:=.tup (.str t.hd.str::t.kids.map Tm.av)) (by rfl) (by exact congrArg some (Tm.av_eq t)) .nil) (AgJ t.av_len ?_)
  refine Aaf ⟨1,_,.inl rfl,by exact lnk rfl,t.av_len,?_⟩
  refine⟨(R25b t sb b σ sds),
   ⟨0,t.kids,AbJ sds t,by simp,rfl,by rfl,by rfl,by rfl,K1,hl1,(near_eq sds t).symm⟩,?_,?_⟩
  ·rintro y xs vars σ' hsat ⟨i,ks,acc,hx,hdr,h1,h2,h3,hK,hb',hac⟩
   cases ks with
   | nil=>exact nol hx
   | cons k ks=>
    rw[List.length_cons,AbS] at hx
    simp only[List.cons.injEq] at hx
    obtain⟨rfl,rfl⟩:=hx
    have hki:t.kids[i]?=some k:=by rw[← List.head?_drop,hdr];rfl
    have hkm:k∈t.kids:=List.mem_of_getElem? hki
    have hkd:=Tm.kid_depth hkm
    have hkw:=kid_w hkm
    have hil:i<t.kids.length:=(List.getElem?_eq_some_iff.mp hki).1
    have hgk:(AV.str t.hd.str::t.kids.map Tm.av)[((i+1:Nat):Int).toNat]?=some k.av:=by
     rw[Int.toNat_natCast,List.getElem?_cons_succ,List.getElem?_map,hki];rfl
    refine AaA rfl ?_
    refine Aad (Abc rfl (AaC (e_g P.O (by rfl) P.g_law_near (P.keep 28 (by decide)) ?_)))
    refine Aab rfl (Aaa (a:=.obj sb) (by rfl) (by exact h1) ?_)
    refine Aab rfl (AaF rfl (Aaa (a:=.tup (.str t.hd.str::t.kids.map Tm.av)) (by rfl) (by exact h2.trans (congrArg some (Tm.av_eq t))) (Aaa (a:=.int ((i+1:Nat):Int)) (by rfl) (by rfl) (Abu (a:=k.av) (Int.natCast_nonneg _) t.av_len hgk ?_))))
    refine Aaf ((AC.less (ih k σ' (ln3 (.c 1 (.v 0) (.p 1 1) (.c 1 (.p 2 1) (.v 0) (.g 0 (.v 2) (.v 1)))) rfl h hkd) (by exact Nat.le_trans hkw hw) hn (hK _ _ hs)).ac (by exact Nat.le_refl _)).mono ?_)
    rintro v σ₂ ⟨nb,rfl,hnb,K2,hnl3⟩
    refine⟨nb,_,rfl,hnl3,?_⟩
    have nbb:nb≠b:=ne2 hb' hnb
    refine⟨(R25c sb t b i σ nb sds k acc),
     ⟨[],Aas sds k,rfl,by exact h1,by exact h2,by exact h3,by rfl,hK.trans K2,hnl3,by simpa using K2 _ _ hb',rfl⟩,?_,?_⟩
    ·rintro y xs vars σ'' hsat2 ⟨dn,td,hx,g1,g2,g3,g4,gK,gn,gb,gd⟩
     obtain⟨p,td⟩:=Abb hx
     have hsz:acc.length+dn.length≤42:=by
      have e1:=congrArg List.length hac
      have e2:=congrArg List.length gd
      simp only[AfQ,List.length_append,List.length_map,List.length_cons] at e1 e2
      exact ln6 (.c 1 (.v 0) (.n 42) (.e 1 0 (.a (.v 1) (.b 2 3)) (.v 0) (.e 1 0 (.a (.v 4) (.p 5 1)) (.v 2) (.g 0 (.b 1 4) (.n 42))))) rfl hnl2 e1 e2
     have hpth:p.1.path.length<10:=by
      have hm:p∈Aas sds k:=by rw[← gd];simp
      rw[← AbN] at hm
      obtain⟨q,hq,hm⟩:=List.mem_flatMap.mp hm
      obtain⟨u,_,rfl⟩:=List.mem_map.mp hm
      have:=Tm.parts_len k q hq
      show q.1.length<10
      exact Nat.le_trans (Nat.le_of_lt (Nat.le_trans (Nat.le_trans (Nat.le_trans (Nat.add_le_add_right this 1) hkd) hdw) hw)) (lnk rfl)
     have T2:vars "t"=some (.tup (.str t.hd.str::t.kids.map Tm.av)):=g2.trans (congrArg some (Tm.av_eq t))
     refine AbP rfl rfl (Aar (AbP rfl rfl (k:=0) (Aar (AaA rfl (Aar (AaA rfl (Aar (AaA rfl (Aar (AaA rfl (Aar (AaA rfl (AbO ?_)))))))))))))
     refine Aar (AaA rfl (AbO ?_))
     refine Aad (Ace rfl rfl (AaM P.O rfl rfl (Aaa (a:=.obj b) (by rfl) (by exact g3) ⟨_,Aa3 gb,rfl,rfl,?_⟩)))
     refine Aab rfl (Aam ?_)
     refine Aab rfl (Aam ?_)
     refine Aab rfl (AaN (Aam (Aab rfl (AaN (Aaa (a:=.int ((i+1:Nat):Int)) (by rfl) (by exact g4) (Aae (b_sub ?_)))))))
     refine Aaf ⟨lnk rfl,?_⟩
     refine Aaa (a:=Aa4 p.1.path) (by rfl) (by rfl) (AaW (by simp;exact ln1 (.c 1 (.p 0 1) (.n 10) (.g 0 (.a (.n 1) (.v 0)) (.n 1000))) rfl hpth) ?_)
     refine Aag (.loc (a:=.str p.1.sk.kind) (by rfl) (by rfl) (.loc (a:=.str p.1.sk.name) (by rfl) (by rfl) (.loc (a:=.tup (p.1.places.map AaZ)) (by rfl) (by rfl) (.loc (a:=.bool p.1.back) (by rfl) (by rfl) .nil)))) ⟨lnk rfl,?_⟩
     have hs1:∀ lo hi,(slc (AV.str t.hd.str::t.kids.map Tm.av) lo hi).length≤3:=fun lo hi=>Nat.le_trans (AgB ..) (Nat.succ_le_succ t.kav_le)
     have s1:=hs1 none (some (i+1))
     have s2:=hs1 (some (i+2)) none
     refine Aab rfl (AaN (AaN (AaL (Aaa (a:=.tup (.str t.hd.str::t.kids.map Tm.av)) (by rfl) (by exact T2) (Aaz (Aay (Aaa (a:=.int ((i+1:Nat):Int)) (by rfl) (by exact g4) ⟨i+1,rfl,AcN t.av_len ?_⟩)))))))
     refine Aam (Aag (.loc (a:=p.2.av) (by rfl) (by rfl) .nil) ⟨lnk rfl,AaW (by simp;exact Nat.le_trans s1 (lnk rfl)) ?_⟩)
     refine AaL (Aaa (a:=.tup (.str t.hd.str::t.kids.map Tm.av)) (by rfl) (by exact T2) (Aay (AaN (Aaa (a:=.int ((i+1:Nat):Int)) (by rfl) (by exact g4) (Aae (AdO ⟨i+2,by simp;exact Int.add_assoc _ 1 1,Aaz (AcN t.av_len ?_)⟩))))))
     refine AaW (by simp;exact ln2 (.c 1 (.v 0) (.n 3) (.c 1 (.v 1) (.n 3) (.g 0 (.a (.p 0 1) (.v 1)) (.n 1000)))) rfl s1 s2) ?_
     refine Aaf ⟨lnk rfl,Aaf (Aa6 gb (by rw[List.length_map,List.length_append,List.length_map];exact Nat.le_trans hsz (lnk rfl)) ?_)⟩
     refine Aaq ⟨fun p' hp'=>?_,dn++[p],td,rfl,by exact g1,by exact g2,by exact g3,by exact g4,gK.upd (.inr hb) _,by rw[Aai _ _ nbb];exact gn,?_,by simp[← gd]⟩
     ·rw[List.mem_singleton.mp hp']
      show upd σ'' b _ nb=_
      rw[Aai _ _ nbb];exact gn
     ·rw[Aac,← Aiq hki]
      simp[AcF,Step.av,Step.push,Aa4]
    ·rintro vars σ'' _ ⟨dn,td,hx,g1,g2,g3,g4,gK,gn,gb,gd⟩
     obtain rfl:td=[]:=Adk hx
     rw[List.append_nil] at gd
     subst gd
     refine Aaq ⟨(fun jj h=>nomatch h),i+1,ks,_,by simp,?_,by exact g1,by exact g2,by exact g3,gK,gb,?_⟩
     ·rw[← List.drop_drop,hdr];rfl
     ·rw[← hac];simp[AfQ]
  ·rintro vars σ' _ ⟨i,ks,acc,hx,hdr,h1,h2,h3,hK,hb',hac⟩
   have hk0:ks=[]:=by cases ks with
    | nil=>rfl
    | cons k ks=>rw[List.length_cons,AbS] at hx;exact nol hx.symm
   subst hk0
   refine Aad (Aal (Aaa (by rfl) h3 ?_))
   simp only[AfQ,List.append_nil] at hac
   subst hac
   exact Aap ⟨b,rfl,hb,hK,hb'⟩
end
end Pq
namespace Pq
variable[Own]
noncomputable def fAV(e:Tm×Nat):AV×AV:=(e.1.av,.int e.2)
section
omit [Own]
theorem AfV(L:List (Tm×Nat))(t:Tm):look (L.map fAV) t.av=(look L t).map fun (n:Nat)=>AV.int n:=Afa (f:=fAV) (g:=fun n=>AV.int (Int.ofNat n)) (fun jj jj=>Tm.inj) (fun jj=>rfl) L t
end
omit [Own] in
theorem fit_f{L:List (Tm×Nat)}{t:Tm}(hK:∀ e∈L,e.1.w≤4)(ht:t.w≤4):KeyFit (L.map fAV) t.av:=
 .inr ⟨.term,AcV ht,fun kv hkv=>by obtain⟨e,he,rfl⟩:=List.mem_map.mp hkv;exact AcV (hK e he)⟩
noncomputable def Dist(sds:List Sd)(r m:Tm)(n:Nat):Prop:=Rch sds n r m∧∀ k,k<n→¬ Rch sds k r m
structure FarI(sds:List Sd)(St:List Tm)(r:Tm)(n i:Nat)(K:Ab5)(L:List (Tm×Nat))(ends:List Tm):Prop where
 b:Ball sds r i K ends
 keys:L.map (·.1)=K.map (·.1)
 dist:∀ e∈L,Dist sds r e.1 e.2
 meas:n=(St.length - K.length)+one? ends
omit [Own] in
theorem Ball.end_dist{sds:List Sd}{r p:Tm}{i:Nat}{K:Ab5}{ends:List Tm}(b:Ball sds r i K ends)(h:p∈ends):Dist sds r p i:=by
 obtain⟨h1,h2⟩:=(b.sphere p).mp h
 obtain⟨n,hn,hr⟩:=(b.ball p).mp h1
 by_cases e:n=i
 ·exact⟨e▸hr,h2⟩
 ·exact absurd hr (h2 n (Nat.lt_of_le_of_ne hn e))
omit [Own] in
theorem Dist.one{sds:List Sd}{r p:Tm}{i j:Nat}(h:Dist sds r p i)(k:Dist sds r p j):i=j:=by
 rcases Nat.lt_trichotomy i j with q | q | q
 ·exact absurd h.1 (k.2 i q)
 ·exact q
 ·exact absurd k.1 (h.2 j q)
section
variable{B:Aaj}{d:Nat}{σ:AH}
inductive R26a(σ:AH)(St:List Tm)(sds:List Sd)(t:Tm)(v:AV)(σ':AH):Prop
 | mk (b:Addr) (L:List (Tm×Nat)) (h1:v=.obj b) (h2:σ b=none) (h3:Keep σ σ') (h4:σ' b=some (.dict (L.map fAV))) (h5:(L.map (·.1)).Nodup) (h6:L.length≤St.length) (h7:(∀ e∈L,Dist sds t e.1 e.2∧e.1.w≤4)) (h8:∀ m n,Rch sds n t m→m∈L.map (·.1))
inductive R26b(sb:Addr)(fb:Addr)(σ:AH)(sds:List Sd)(St:List Tm)(t:Tm)(n:Nat)(vars:Vars)(σ':AH):Prop
 | mk (i K L ends eb:_) (h1:vars "sides"=some (.obj sb)) (h2:vars "found"=some (.obj fb)) (h3:vars "ends"=some (.obj eb)) (h4:Keep σ σ') (h5:σ' fb=some (.dict (L.map fAV))) (h6:σ' eb=some (.list (ends.map Tm.av))) (h7:FarI sds St t n i K L ends)
inductive R26c(sb:Addr)(fb:Addr)(lb:Addr)(σ:AH)(eb:Addr)(ends:List Tm)(L:List (Tm×Nat))(i:Nat)(sds:List Sd)(K:Ab5)(xs:List AV)(vars:Vars)(σ'':AH):Prop
 | mk (done todo:List Tm) (new:New) (h1:xs=todo.map Tm.av) (h2:vars "sides"=some (.obj sb)) (h3:vars "found"=some (.obj fb)) (h4:vars "late"=some (.obj lb)) (h5:Keep σ σ'') (h6:σ'' eb=some (.list (ends.map Tm.av))) (h7:σ'' fb=some (.dict ((L++new.map fun e=>(e.1,i+1)).map fAV))) (h8:σ'' lb=some (.list (new.map fun e=>e.1.av))) (h9:AhC sds K ends done new) (h10:done++todo=ends)
inductive R26d(sb:Addr)(fb:Addr)(lb:Addr)(p:Tm)(σ:AH)(eb:Addr)(ends:List Tm)(nb:Addr)(sds:List Sd)(L:List (Tm×Nat))(i:Nat)(new:New)(K:Ab5)(xs:List AV)(vars:Vars)(σ3:AH):Prop
 | mk (dn td:List (Step×Tm)) (new':New) (h1:xs=td.map AcF) (h2:vars "sides"=some (.obj sb)) (h3:vars "found"=some (.obj fb)) (h4:vars "late"=some (.obj lb)) (h5:vars "one"=some p.av) (h6:Keep σ σ3) (h7:σ3 eb=some (.list (ends.map Tm.av))) (h8:σ3 nb=some (.list ((Aas sds p).map AcF))) (h9:σ3 fb=some (.dict ((L++new'.map fun e=>(e.1,i+1)).map fAV))) (h10:σ3 lb=some (.list (new'.map fun e=>e.1.av))) (h11:(∀ e∈new,e∈new')) (h12:(K.map (·.1)++new'.map (·.1)).Nodup) (h13:(∀ e∈new',e.2.1∈ends∧(e.2.2,e.1)∈Aas sds e.2.1)) (h14:(∀ q∈dn,q.2∈K.map (·.1)∨q.2∈new'.map (·.1))) (h15:dn++td=Aas sds p)
set_option maxHeartbeats 2000000 in
theorem far_AK(P:Prg B){sb:Addr}{sds:List Sd}{t:Tm}{St:List Tm}(hs:σ sb=some (.list (sds.map Sd.av)))(hn:sds.length≤3)(cS:Closed sds St)(htS:t∈St)(hS63:St.length<64):
  AK B (d+12) (.ref (P.a 29)) [.obj sb,t.av] σ (R26a σ St sds t):=by
 have F:=P.fn 29 (by decide)
 have hw1:=cS.w t htS
 refine Abm (d:=d+11) P.O F (names:=["sides","t"]) (hb2 fun jj jj jj jj jj jj jj jj jj jj=>rfl) (by decide +kernel) fun qn Lo cd=>?_
 refine Aad ?_
 refine AbA rfl rfl (names:=["found","ends"]) ?_
 refine Aam ?_
 refine Aab rfl ?_
 refine AdB rfl ?_
 refine Abr ?_
 refine Aaa (a:=t.av) (by rfl) (by rfl) ?_
 refine Aae ?_
 refine AcB ⟨⟨.inr ⟨.term,AcV hw1,fun jj h=>nomatch h⟩,trivial⟩,by simp,fun fb hfb=>?_⟩
 refine Aab rfl ?_
 refine AaI ?_
 refine Aag (.loc (a:=t.av) (by rfl) (by rfl) .nil) ⟨lnk rfl,fun eb heb=>?_⟩
 refine Aaf ⟨lnk rfl,_,rfl,rfl,?_⟩
 refine Aar ?_
 refine AdH rfl ?_
 refine Aar ?_
 refine AdH rfl ?_
 refine AbO ?_
 refine Aah ?_
 have nfe:fb≠eb:=ne1 (Aac _ _ _) heb
 refine Aad ?_
 refine AeY ((R26b sb fb σ sds St t)) (St.length - 1+1) ?_ ?_
 ·refine⟨0,[(t,none)],[(t,0)],[t],eb,by rfl,by rfl,by rfl,((Keep.refl σ).upd (.inl hfb) _).upd (.inl heb) _,?_,Aac _ _ _,Ball.start t,rfl,fun e he=>?_,rfl⟩
  ·rw[Aai _ _ nfe,Aac];rfl
  ·rw[List.mem_singleton.mp he];exact⟨⟨[],rfl,rfl⟩,fun k hk=>absurd hk (Nat.not_lt_zero k)⟩
 ·rintro n vars σ' ⟨i,K,L,ends,eb,h1,h2,h3,hK,hf,he,I⟩
  have hKS:=I.b.sub cS htS
  have hKl:=I.b.len cS htS
  have hLl:L.length=K.length:=by have:=congrArg List.length I.keys;simpa using this
  have hLw:∀ e∈L,e.1.w≤4:=fun e he=>cS.w _ (hKS _ (by rw[← I.keys];exact List.mem_map.mpr ⟨e,he,rfl⟩))
  refine Aax rfl ?_
  refine Aaa (a:=.obj eb) (by rfl) h3 ?_
  refine AaI ?_
  refine Aaf ⟨lnk rfl,fun zb hzb=>?_⟩
  have kz:Keep σ' (upd σ' zb (.list [])):=(Keep.refl σ').upd (.inl hzb) _
  refine Ade (kz _ _ he) (Aac _ _ _) ?_
  by_cases hE:ends=[]
  ·subst hE
   refine AaV (by decide) ?_
   refine Aah ?_
   refine Aad ?_
   refine Aal ?_
   refine Aaa (a:=.obj fb) (by rfl) h2 ?_
   refine Aap ⟨fb,L,rfl,hfb,hK.trans kz,kz _ _ hf,by rw[I.keys];exact I.b.nodup,by exact Nat.le_trans (Nat.le_of_eq hLl) hKl,fun e he=>⟨I.dist e he,hLw e he⟩,fun m n hr=>by rw[I.keys];exact I.b.all hr⟩
  ·refine Abh (by simp[hE]) ?_
   have hoE:=AgH hE
   refine Aad ?_
   refine Aak rfl rfl ?_
   refine AaI ?_
   refine Aaf ⟨lnk rfl,fun lb hlb=>?_⟩
   refine Aah ?_
   have kl:Keep σ' (upd (upd σ' zb (.list [])) lb (.list [])):=kz.upd (.inl hlb) _
   have hll:upd (upd σ' zb (.list [])) lb (.list []) lb=some (.list []):=Aac _ _ _
   have nlf:lb≠fb:=ne2 (kz _ _ hf) hlb
   have nle:lb≠eb:=ne2 (kz _ _ he) hlb
   have nef:eb≠fb:=ne3 rfl he hf
   have hlb0:σ lb=none:=(hK.trans kz).none hlb
   generalize upd (upd σ' zb (.list [])) lb (.list [])=σ₁ at kl hll
   refine Aad ?_
   refine Abc rfl ?_
   refine AaC ?_
   refine Aaa (a:=.obj eb) (by rfl) (by exact h3) ⟨eb,_,rfl,kl _ _ he,?_⟩
   refine⟨(R26c sb fb lb σ eb ends L i sds K),
    ⟨[],ends,[],rfl,by exact h1,by exact h2,by rfl,hK.trans kl,kl _ _ he,by simpa using kl _ _ hf,hll,⟨by simpa using I.b.nodup,(fun jj h=>nomatch h),(fun jj h=>nomatch h)⟩,rfl⟩,?_,?_⟩
   ·rintro y xs vars σ'' hsat ⟨done,todo,new,hx,g1,g2,g3,gK,ge,gf,gl,hG,hd⟩
    obtain⟨p,todo⟩:=Abb hx
    have hpe:p∈ends:=by rw[← hd];simp
    have hpS:=I.b.esub cS htS p hpe
    have hpw:=cS.w p hpS
    have hpd:=p.depth_w
    refine AaA rfl ?_
    refine Aad ?_
    refine Abc rfl ?_
    refine AaC ?_
    refine e_g P.O (by rfl) P.g_law_near (P.keep 28 (by decide)) ?_
    refine Aag (.loc (a:=.obj sb) (by rfl) (by exact g1) (.loc (a:=p.av) (by rfl) (by rfl) .nil)) ((Ae8 (d:=0) P 4 p σ'' (by exact Nat.le_trans hpd hpw) hpw hn (gK _ _ hs)).use rfl ?_)
    rintro v σ₂ ⟨nb,rfl,hnb,K2,hnl⟩
    refine⟨nb,_,rfl,hnl,?_⟩
    have nnf:nb≠fb:=ne2 gf hnb
    have nnl:nb≠lb:=ne2 gl hnb
    refine⟨(R26d sb fb lb p σ eb ends nb sds L i new K),
     ⟨[],Aas sds p,new,rfl,by exact g1,by exact g2,by exact g3,by rfl,gK.trans K2,K2 _ _ ge,hnl,K2 _ _ gf,K2 _ _ gl,fun jj h=>h,hG.nodup,hG.step,(fun jj h=>nomatch h),rfl⟩,?_,?_⟩
    ·rintro y xs vars σ3 hsat3 ⟨dn,td,new',hx,w1,w2,w3,w4,wK,we,wn,wf,wl,hsub,hnd,hst,hfl,hd'⟩
     obtain⟨q,td⟩:=Abb hx
     have hqn:q∈Aas sds p:=by rw[← hd'];simp
     have hqS:=cS.near p hpS q hqn
     have hkeys:(L++new'.map fun e=>(e.1,i+1)).map (·.1)=K.map (·.1)++new'.map (·.1):=by rw[List.map_append,I.keys,List.map_map];rfl
     have hall:∀ u∈K.map (·.1)++new'.map (·.1),u∈St:=fun u hu=>by
      rcases List.mem_append.mp hu with h | h
      ·exact hKS u h
      ·obtain⟨e,he',rfl⟩:=List.mem_map.mp h
       obtain⟨z1,z2⟩:=hst e he'
       exact cS.near _ (I.b.esub cS htS _ z1) _ z2
     have hlen:K.length+new'.length≤St.length:=by have:=Acr hnd hall;simpa using this
     have hfit:∀ u:Tm,u.w≤4→KeyFit ((L++new'.map fun e=>(e.1,i+1)).map fAV) u.av:=fun u hu=>fit_f (fun e he'=>cS.w _ (hall _ (by rw[← hkeys];exact List.mem_map.mpr ⟨e,he',rfl⟩))) hu
     refine a_n2 rfl rfl ?_
     refine Aad ?_
     refine AbV ?_
     refine Aax rfl ?_
     refine Aaa (a:=q.2.av) (by rfl) (by rfl) ?_
     refine Aaa (a:=.obj fb) (by rfl) (by exact w2) ?_
     refine Adt wf (hfit _ (cS.w _ hqS)) ?_
     rw[AfV]
     cases hg:look (L++new'.map fun e=>(e.1,i+1)) q.2 with
     | some o=>
      refine AaV (by simp) ?_
      have hin:q.2∈K.map (·.1)++new'.map (·.1):=by
       rw[← hkeys]
       exact Classical.byContradiction fun h=>by exact nosn hg (Abt.mpr h)
      refine AaK ?_
      refine Aaq ⟨sat1 wn,dn++[q],td,new',rfl,by exact w1,by exact w2,by exact w3,by exact w4,wK,we,wn,wf,wl,hsub,hnd,hst,fun q' hq'=>?_,by simp[← hd']⟩
      rcases List.mem_append.mp hq' with h | h
      ·exact hfl q' h
      ·rw[List.mem_singleton.mp h];exact List.mem_append.mp hin
     | none=>
      refine Abh rfl ?_
      have hnin:q.2∉K.map (·.1)++new'.map (·.1):=by rw[← hkeys];exact Abt.mp hg
      have hnd3:(K.map (·.1)++(new'++[(q.2,p,q.1)]).map (·.1)).Nodup:=by
       rw[List.map_append,← List.append_assoc,List.nodup_append]
       refine⟨hnd,by simp,fun a ha b hb=>?_⟩
       simp at hb
       subst hb
       exact fun e=>hnin (e▸ha)
      have hst3:∀ e∈new'++[(q.2,p,q.1)],e.2.1∈ends∧(e.2.2,e.1)∈Aas sds e.2.1:=fun e he'=>by
       rcases List.mem_append.mp he' with h | h
       ·exact hst e h
       ·rw[List.mem_singleton.mp h];exact⟨hpe,hqn⟩
      have hpi:look (L++new'.map fun e=>(e.1,i+1)) p=some i:=by
       cases hgp:look (L++new'.map fun e=>(e.1,i+1)) p with
       | none=>
        have:=Abt.mp hgp
        rw[hkeys] at this
        exact absurd (List.mem_append.mpr (.inl ((I.b.sphere p).mp hpe).1)) this
       | some n'=>
        have hm:=Ac9 hgp
        rcases List.mem_append.mp hm with h | h
        ·have:=I.dist _ h
         rw[(I.b.end_dist hpe).one this]
        ·obtain⟨e,he',e2⟩:=List.mem_map.mp h
         cases e2
         exact absurd rfl ((List.nodup_append.mp hnd).2.2 e.1 ((I.b.sphere _).mp hpe).1 e.1 (List.mem_map.mpr ⟨e,he',rfl⟩))
      refine Aad ?_
      refine AbZ rfl ?_
      refine AaN ?_
      refine AaF rfl ?_
      refine Aaa (a:=.obj fb) (by rfl) (by exact w2) ?_
      refine Aaa (a:=p.av) (by rfl) (by exact w4) ?_
      refine Aci wf (hfit p hpw) (by rw[AfV,hpi];rfl) ?_
      refine Aae ?_
      refine AdO ?_
      refine Aaa (a:=.obj fb) (by rfl) (by exact w2) ?_
      refine Aaa (a:=q.2.av) (by rfl) (by rfl) ⟨fb,_,rfl,wf,hfit _ (cS.w _ hqS),by simp;exact ln4 (.c 1 (.p 0 1) (.n 64) (.e 1 0 (.v 1) (.v 2) (.c 1 (.b 2 3) (.v 0) (.g 0 (.b 1 3) (.n 1000))))) rfl hS63 hLl hlen,?_⟩
      refine Aah ?_
      rw[Ab6 (by rw[AfV,hg];rfl)]
      have e1:(L++new'.map fun e=>(e.1,i+1)).map fAV++[(q.2.av,AV.int ((i:Int)+1))]=(L++(new'++[(q.2,p,q.1)]).map fun e=>(e.1,i+1)).map fAV:=by simp[fAV]
      rw[e1]
      have wl3:upd σ3 fb (.dict ((L++(new'++[(q.2,p,q.1)]).map fun e=>(e.1,i+1)).map fAV)) lb=some (.list (new'.map fun e=>e.1.av)):=by rw[Aai _ _ nlf];exact wl
      refine Aad ?_
      refine Ace rfl rfl ?_
      refine AaM P.O rfl rfl ?_
      refine Aaa (a:=.obj lb) (by rfl) (by exact w3) ⟨_,Aa3 wl3,rfl,rfl,?_⟩
      refine Aag (.loc (a:=q.2.av) (by rfl) (by rfl) .nil) ?_
      refine Aa6 wl3 (by rw[List.length_map];exact ln3 (.c 1 (.p 0 1) (.n 64) (.c 1 (.b 1 2) (.v 0) (.g 0 (.v 2) (.n 1000)))) rfl hS63 hlen) ?_
      have e2:(new'.map fun e:Tm×Tm×Step=>e.1.av)++[q.2.av]=(new'++[(q.2,p,q.1)]).map fun e=>e.1.av:=by simp
      rw[e2]
      have hfb0:σ fb=none:=hfb
      refine Aaq ?_
      refine Aaq ⟨fun p' hp'=>?_,dn++[q],td,new'++[(q.2,p,q.1)],rfl,by exact w1,by exact w2,by exact w3,by exact w4,(wK.upd (.inr hfb0) _).upd (.inr hlb0) _,?_,?_,?_,Aac _ _ _,fun e he'=>List.mem_append.mpr (.inl (hsub e he')),hnd3,hst3,fun q' hq'=>?_,by simp[← hd']⟩
      ·rw[List.mem_singleton.mp hp']
       rw[Aai _ _ nnl,Aai _ _ nnf];exact wn
      ·rw[Aai _ _ (Ne.symm nle),Aai _ _ nef];exact we
      ·rw[Aai _ _ nnl,Aai _ _ nnf];exact wn
      ·rw[Aai _ _ (Ne.symm nlf),Aac]
      ·rcases List.mem_append.mp hq' with h | h
       ·rcases hfl q' h with z | z
        ·exact .inl z
        ·exact .inr (by rw[List.map_append];exact List.mem_append.mpr (.inl z))
       ·rw[List.mem_singleton.mp h];exact .inr (by simp)
    ·rintro vars σ3 _ ⟨dn,td,new',hx,w1,w2,w3,w4,wK,we,wn,wf,wl,hsub,hnd,hst,hfl,hd'⟩
     obtain rfl:td=[]:=Adk hx
     rw[List.append_nil] at hd'
     refine Aaq ⟨sat1 we,done++[p],todo,new',rfl,by exact w1,by exact w2,by exact w3,wK,we,wf,wl,⟨hnd,hst,fun p' hp' q hq=>?_⟩,by simp[← hd]⟩
     rcases List.mem_append.mp hp' with h | h
     ·rcases hG.full p' h q hq with z | z
      ·exact .inl z
      ·obtain⟨e,he',z'⟩:=List.mem_map.mp z
       exact .inr (List.mem_map.mpr ⟨e,hsub e he',z'⟩)
     ·rw[List.mem_singleton.mp h] at hq
      exact hfl q (by rw[hd'];exact hq)
   ·rintro vars σ'' _ ⟨done,todo,new,hx,g1,g2,g3,gK,ge,gf,gl,hG,hd⟩
    obtain rfl:todo=[]:=Adk hx
    rw[List.append_nil] at hd
    subst hd
    have b2:=I.b.next hG
    have hlen2:K.length+new.length≤St.length:=by have:=b2.len cS htS;simpa using this
    refine Aah ?_
    refine Aad ?_
    refine Aak rfl rfl ?_
    refine Aaa (a:=.obj lb) (by rfl) (by exact g3) ?_
    refine Aaq ⟨(St.length - (K++new.map ent).length)+one? (new.map (·.1)),?_,i+1,K++new.map ent,L++new.map (fun e=>(e.1,i+1)),new.map (·.1),lb,by exact g1,by exact g2,by rfl,gK,gf,by rw[gl];simp,b2,?_,fun e he'=>?_,rfl⟩
    ·rw[I.meas,hoE,List.length_append,List.length_map];exact meas1 hlen2 (Aea _ _)
    ·rw[List.map_append,List.map_append,I.keys,List.map_map,List.map_map];rfl
    ·rcases List.mem_append.mp he' with h | h
     ·exact I.dist e h
     ·obtain⟨z,hz,rfl⟩:=List.mem_map.mp h
      exact b2.end_dist (List.mem_map.mpr ⟨z,hz,rfl⟩)
end
end Pq
namespace Pq
variable[Own]
theorem Ag5{sds:List Sd}{t:Tm}(hw:t.w≤4){p:Step×Tm}(h:p∈Aas sds t):AaE 9 p.1.av=true:=by
 have:=AcS .key (AcJ hw h)
 rw[AcF,Aca,List.all_cons,Bool.and_eq_true] at this
 exact AeJ 7 this.1 (by exact lnk rfl)
theorem Agy{sds:List Sd}{t u:Tm}(hw:t.w≤4)(hu:u.w≤4){p q:Step×Tm}(h:p∈Aas sds t)(h':q∈Aas sds u):AbM p.1.av q.1.av=true:=by
 have:=Aec .key (AcJ hw h) (AcJ hu h')
 rw[AcF,AcF,Afo,Ab2,Bool.and_eq_true] at this
 exact this.1
section
variable{B:Aaj}{d:Nat}{σ:AH}
inductive R27b(sb:Addr)(u:Tm)(σ:AH)(sds:List Sd)(xs:List AV)(vars:Vars)(σ':AH):Prop
 | mk (td:List Step) (p:Tm) (h1:xs=td.map Step.av) (h2:vars "sides"=some (.obj sb)) (h3:vars "t"=some p.av) (h4:vars "u"=some u.av) (h5:Keep σ σ') (h6:Ag2 sds p td u) (h7:p.w≤4)
inductive R27c(σ₂:AH)(o:Tm)(sds:List Sd)(p:Tm)(s:Step)(xs:List AV)(ys:List AV)(σ'':AH):Prop
 | mk (h1:σ''=σ₂) (dn td':List (Step×Tm)) (m:Nat) (h2:xs=td'.map AcF) (h3:ys=List.replicate m o.av) (h4:dn++td'=Aas sds p) (h5:((s,o)∈dn→1≤m))
noncomputable def v27a(sb:Addr)(t:Tm)(u:Tm)(lb:Addr):Vars:=fV ["sides","t","u","steps"] [.obj sb,t.av,u.av,.obj lb]
theorem Aih(P:Prg B){sb lb:Addr}{sds:List Sd}{t u:Tm}{l:List Step}(hs:σ sb=some (.list (sds.map Sd.av)))(hl:σ lb=some (.list (l.map Step.av)))(hn:sds.length≤3)(hu:Uniq sds)(htw:t.w≤4)(hW:Ag2 sds t l u):
  AK B (d+12) (.ref (P.a 30)) [.obj sb,t.av,u.av,.obj lb] σ (RetK σ (.bool true)):=by
 have F:=P.fn 30 (by decide)
 refine Abm (d:=d+11) P.O F (names:=["sides","t","u","steps"]) (hb4 fun jj jj jj jj jj jj jj jj jj jj jj jj=>rfl) (by decide +kernel) fun qn L cd=>?_
 let E:=fE (AaB (Acl 30)) (P.a 30) qn L cd
 let V:=v27a sb t u lb
 show AX B _ E V (execs _ E) _ _
 refine Aad (Abc rfl (AaC (Aaa (a:=.obj lb) (by rfl) (by rfl) ⟨lb,_,rfl,hl,?_⟩)))
 refine⟨(R27b sb u σ sds),⟨l,t,rfl,by rfl,by rfl,by rfl,Keep.refl σ,hW,htw⟩,?_,?_⟩
 ·rintro y xs vars σ' hsat ⟨td,p,hx,h1,h2,h3,hK,hW,hpw⟩
  obtain⟨s,td⟩:=Abb hx
  obtain⟨o,ho,hW⟩:=hW
  have hpd:=p.depth_w
  have how:o.w≤4:=by have:=(Ahe ho).1;exact Nat.le_trans this hpw
  refine AaA rfl ?_
  refine Aad (AaG rfl rfl rfl (cl:=[("step",L+1)]) ⟨by rfl,by rfl,by simp,by rfl,by decide,by rfl,by decide⟩ ?_)
  refine AaC (e_g P.O (by rfl) P.g_law_near (P.keep 28 (by decide)) ?_)
  refine Aag (.loc (a:=.obj sb) (by rfl) (by exact h1) (.loc (a:=p.av) (by rfl) (by exact h2) .nil)) ((Ae8 (d:=0) P 4 p σ' (by exact Nat.le_trans hpd hpw) hpw hn (hK _ _ hs)).use rfl ?_)
  rintro v σ₂ ⟨nb,rfl,hnb,K2,hnl⟩
  have hpp:=p.parts_w
  have hnl1:=AdU sds p
  have hnl2:(Aas sds p).length≤42:=by
   have:2 * sds.length * p.parts.length≤6 * 7:=Nat.mul_le_mul (ln1 (.c 2 (.v 0) (.n 3) (.g 0 (.m 2 (.v 0)) (.n 6))) rfl hn) (ln2 (.c 2 (.v 0) (.n 4) (.c 1 (.p 1 1) (.m 2 (.v 0)) (.g 0 (.v 1) (.n 7)))) rfl hpw hpp)
   exact ln2 (.c 1 (.v 0) (.v 1) (.c 1 (.v 1) (.m 6 (.n 7)) (.g 0 (.v 0) (.n 42)))) rfl hnl1 this
  refine⟨nb,_,rfl,hnl,by rw[List.length_map];exact Nat.le_trans hnl2 (lnk rfl),?_⟩
  refine⟨(R27c σ₂ o sds p s),⟨rfl,[],Aas sds p,0,rfl,rfl,rfl,fun h=>nomatch h⟩,?_,?_⟩
  ·rintro C y xs ys σ'' hsat2 ⟨rfl,dn,td',m,hx,rfl,hd,hm⟩
   cases td' with
   | nil=>exact nol hx
   | cons q td'=>
    simp only[List.map_cons,List.cons.injEq] at hx
    obtain⟨rfl,rfl⟩:=hx
    have hq:q∈Aas sds p:=by rw[← hd];simp
    refine Ajk rfl rfl (AdC ?_)
    refine Aax rfl (Aaa (a:=q.1.av) (by rfl) (by rfl) (AaD (a:=s.av) (by rfl) (by rfl) ?_))
    have k1:=Ag5 hpw hq
    have k2:=Ag5 hpw ho
    have k3:=Agy hpw hpw hq ho
    refine AdX k1 k2 k3 ?_
    have e1:decide (AV.tup [Aa4 q.1.path,.str q.1.sk.kind,.str q.1.sk.name,.tup (q.1.places.map AaZ),.bool q.1.back]=AV.tup [Aa4 s.path,.str s.sk.kind,.str s.sk.name,.tup (s.places.map AaZ),.bool s.back])=decide (q.1=s):=decide_eq_decide.mpr ⟨fun h=>Step.inj h,fun h=>by rw[h]⟩
    rw[e1]
    by_cases e:q.1=s
    ·refine AhY e ?_
     have:q.2=o:=near_one hu (st:=s) (by rw[← e];exact hq) ho
     refine Aaa (a:=q.2.av) (by rfl) (by rfl) ⟨hsat2,rfl,dn++[q],td',m+1,rfl,by rw[List.replicate_succ',this],by simp[← hd],fun jj=>ln1 (.g 0 (.n 1) (.p 0 1)) rfl⟩
    ·refine Af3 e ?_
     refine⟨hsat2,rfl,dn++[q],td',m,rfl,rfl,by simp[← hd],fun h=>?_⟩
     rcases List.mem_append.mp h with h | h
     ·exact hm h
     ·rw[List.mem_singleton] at h;rw[← h] at e;exact absurd rfl e
  ·rintro ys σ'' hsat2 ⟨rfl,dn,td',m,hx,rfl,hd,hm⟩ hlen a ha
   have ht0:td'=[]:=by cases td' with
    | nil=>rfl
    | cons k ks=>exact nol hx.symm
   subst ht0
   rw[List.append_nil] at hd
   subst hd
   obtain⟨m,rfl⟩:∃ k,m=k+1:=⟨m - 1,by have:=hm ho;lia⟩
   refine Aah ?_
   refine Aad (AbV (Aax rfl (Aaa (a:=.obj a) (by rfl) (by rfl) (AaI (Aaf ⟨lnk rfl,fun zb hzb=>?_⟩)))))
   have naz:a≠zb:=ne1 (Aac _ _ _) hzb
   refine Adf (by rw[Aai _ _ naz];exact Aac _ _ _) (Aac _ _ _) ?_
   refine AaV (by simp[List.replicate_succ]) ?_
   refine AaK (Aah ?_)
   refine Aad (Aak rfl rfl (AaF rfl (Aaa (a:=.obj a) (by rfl) (by rfl) (Aae (g_list (a:=o.av) (by rw[Aai _ _ naz];exact Aac _ _ _) (by decide) (by decide) (by simp[List.replicate_succ]) ?_)))))
   have K3:Keep σ (upd (upd σ'' a (.list (List.replicate (m+1) o.av))) zb (.list [])):=(((hK.trans K2)).upd (.inl ha) _).upd (.inl hzb) _
   exact Aaq ⟨sat1 (K3 _ _ hl),td,o,rfl,by exact h1,by rfl,by exact h3,K3,hW,how⟩
 ·rintro vars σ' _ ⟨td,p,hx,h1,h2,h3,hK,hW,hpw⟩
  obtain rfl:td=[]:=Adk hx
  have e:p=u:=hW
  subst e
  have hpd:=p.depth_w
  refine Aad (Aal (Aei rfl (Aaa (a:=p.av) (by rfl) h2 (Aaa (a:=p.av) (by rfl) h3 (Ajd (by exact Nat.le_trans (Nat.le_trans hpd hpw) (lnk rfl)) (by exact Nat.le_trans (Nat.le_trans hpd hpw) (lnk rfl)) ?_)))))
  exact Aap ⟨by simp,hK⟩
end
end Pq
namespace Pq
variable[Own]
structure Hnd(σ:AH)(h:Addr)(cb:Addr)(ns:List Nat)(spot stir:Nat):Prop where
 d:σ h=some (.dict [(.str "cells",.obj cb),(.str "spot",.int spot),(.str "stir",.int stir)])
 c:σ cb=some (.list (ns.map fun (k:Nat)=>.int k))
 len:ns.length≤40
 lt:stir<1009
inductive IsHand(σ:AH)(h:Addr):Prop
 | mk (cb ns spot stir:_) (H:Hnd σ h cb ns spot stir)
noncomputable def Abk(cb:Addr)(spot stir:Nat):List (AV×AV):=[(.str "cells",.obj cb),(.str "spot",.int spot),(.str "stir",.int stir)]
theorem Acb(cb:Addr)(spot stir:Nat)(x:Str):KeyFit (Abk cb spot stir) (.str x):=.inl ⟨rfl,List.forall_mem_cons.mpr ⟨rfl,List.forall_mem_cons.mpr ⟨rfl,List.forall_mem_cons.mpr ⟨rfl,List.forall_mem_nil _⟩⟩⟩⟩
theorem kne{x y:Str}(h:decide (x=y)=false):¬ AV.str x=AV.str y:=fun e=>of_decide_eq_false h (AV.str.inj e)
theorem AeH(cb:Addr)(spot stir:Nat):look (Abk cb spot stir) (.str "cells")=some (.obj cb):=if_pos rfl
theorem AiJ(cb:Addr)(spot stir:Nat):look (Abk cb spot stir) (.str "spot")=some (.int spot):=(if_neg (kne rfl)).trans (if_pos rfl)
theorem AfU(cb:Addr)(spot stir:Nat):look (Abk cb spot stir) (.str "stir")=some (.int stir):=(if_neg (kne rfl)).trans ((if_neg (kne rfl)).trans (if_pos rfl))
theorem put_spot(cb:Addr)(spot stir v:Nat):put (Abk cb spot stir) (.str "spot") (.int v)=Abk cb v stir:=(if_neg (kne rfl)).trans (congrArg (_::·) (if_pos rfl))
theorem put_stir(cb:Addr)(spot stir v:Nat):put (Abk cb spot stir) (.str "stir") (.int v)=Abk cb spot v:=(if_neg (kne rfl)).trans (congrArg (_::·) ((if_neg (kne rfl)).trans (congrArg (_::·) (if_pos rfl))))
section
variable{B:Aaj}{d:Nat}{σ:AH}
inductive R28a(many:Nat)(h:Addr)(σ:AH)(v:AV)(σ':AH):Prop
 | mk (r:Nat) (h1:v=.int r) (h2:r<many) (h3:KeepX h σ σ') (h4:IsHand σ' h)
noncomputable def v28a(h:Addr)(many:Nat):Vars:=fV ["hand","many"] [.obj h,.int many]
set_option maxHeartbeats 1000000 in
theorem Abv(P:Prg B){h:Addr}{many:Nat}(hh:IsHand σ h)(hm:1≤many)(hm2:many≤100):
  AK B (d+1) (.ref (P.a 20)) [.obj h,.int many] σ (R28a many h σ):=by
 have F:=P.fn 20 (by decide)
 obtain⟨cb,ns,spot,stir,H⟩:=hh
 have hd:σ h=some (.dict (Abk cb spot stir)):=H.d
 have ncb:cb≠h:=fun e=>by subst e;have:=H.c;rw[hd] at this;cases this
 refine Abm (d:=d) P.O F (names:=["hand","many"]) (hb2 fun jj jj jj jj jj jj jj jj jj jj=>rfl) (by decide +kernel) fun qn L cd=>?_
 let E:=fE (AaB (Acl 20)) (P.a 20) qn L cd
 let V:=v28a h many
 show AX B _ E V (execs _ E) _ _
 refine Aad ?_
 refine Aak rfl rfl ?_
 refine AaF rfl ?_
 refine Aaa (a:=.obj h) (by rfl) (by rfl) ?_
 refine Aav ?_
 refine Aci hd (Acb _ _ _ _) (AiJ _ _ _) ?_
 refine Aah ?_
 refine Aad ?_
 refine AbZ rfl ?_
 refine AaN ?_
 refine Aaa (a:=.int spot) (by rfl) (by rfl) ?_
 refine Aae ?_
 refine AdO ?_
 refine Aaa (a:=.obj h) (by rfl) (by rfl) ?_
 refine Aav ⟨h,_,rfl,hd,Acb _ _ _ _,by simp[Abk],?_⟩
 rw[show((spot:Int)+1)=((spot+1:Nat):Int) from rfl,put_spot]
 refine Aah ?_
 have hd1:upd σ h (.dict (Abk cb (spot+1) stir)) h=some (.dict (Abk cb (spot+1) stir)):=Aac _ _ _
 have hc1:upd σ h (.dict (Abk cb (spot+1) stir)) cb=some (.list (ns.map fun (k:Nat)=>.int k)):=by rw[Aai _ _ ncb];exact H.c
 have hK1:KeepX h σ (upd σ h (.dict (Abk cb (spot+1) stir))):=KeepX.set _
 generalize upd σ h (.dict (Abk cb (spot+1) stir))=σ₁ at hd1 hc1 hK1
 have hl:=H.len
 refine Aad ?_
 refine AbV ?_
 refine Aax rfl ?_
 refine Aaa (a:=.int spot) (by rfl) (by rfl) ?_
 refine e_g P.O (by rfl) P.g_len rfl ?_
 refine Aab rfl ?_
 refine AaF rfl ?_
 refine Aaa (a:=.obj h) (by rfl) (by rfl) ?_
 refine Aav ?_
 refine Aci hd1 (Acb _ _ _ _) (AeH _ _ _) ?_
 refine Aaf ?_
 refine Abo hc1 (lml (by exact Nat.le_trans hl (lnk rfl))) ?_
 refine Afs ?_
 by_cases hs:spot<ns.length
 ·refine Abh (by simp[hs]) ?_
  refine Aad ?_
  refine Aal ?_
  refine AaN ?_
  refine AaF rfl ?_
  refine AaF rfl ?_
  refine Aaa (a:=.obj h) (by rfl) (by rfl) ?_
  refine Aav ?_
  refine Aci hd1 (Acb _ _ _ _) (AeH _ _ _) ?_
  refine Aaa (a:=.int spot) (by rfl) (by rfl) ?_
  refine g_list (a:=.int (ns[spot]:Nat)) hc1 (Int.natCast_nonneg _) (Int.ofNat_lt.mpr (ln2 (.c 1 (.v 0) (.n 40) (.c 1 (.p 1 1) (.v 0) (.g 0 (.p 1 1) (.n 1000)))) rfl hl hs)) ?_ ?_
  ·rw[Int.toNat_natCast,List.getElem?_map,List.getElem?_eq_getElem hs];rfl
  ·refine Aaa (a:=.int many) (by rfl) (by rfl) ?_
   refine Ah8 (Int.natCast_pos.mpr hm) ?_
   refine Aap (Aap ⟨ns[spot] % many,by simp,Nat.mod_lt _ (by exact hm),hK1,cb,ns,spot+1,stir,hd1,hc1,hl,H.lt⟩)
 ·refine AaV (by simp;exact ln2 (.c 1 (.v 1) (.v 0) (.g 0 (.v 1) (.v 0))) rfl (Nat.le_of_not_lt hs)) ?_
  refine AaK ?_
  refine Aah ?_
  have hlt:=H.lt
  refine Aad ?_
  refine AbZ rfl ?_
  refine AaN ?_
  refine AaN ?_
  refine AaN ?_
  refine AaF rfl ?_
  refine Aaa (a:=.obj h) (by rfl) (by rfl) ?_
  refine Aav ?_
  refine Aci hd1 (Acb _ _ _ _) (AfU _ _ _) ?_
  refine Aae ?_
  refine b_mul ⟨Int.natCast_nonneg _,by lia⟩ ⟨by decide,by lia⟩ ?_
  refine Aae ?_
  refine AdO ?_
  refine Aae ?_
  refine Ah8 (by decide) ?_
  refine Aaa (a:=.obj h) (by rfl) (by rfl) ?_
  refine Aav ⟨h,_,rfl,hd1,Acb _ _ _ _,by simp[Abk],?_⟩
  have e1:((stir:Int) * 37+11) % 1009=(((stir * 37+11) % 1009:Nat):Int):=by simp
  rw[e1,put_stir]
  have hst:(stir * 37+11) % 1009<1009:=Nat.mod_lt _ (by exact lnk rfl)
  generalize (stir * 37+11) % 1009=st' at hst
  refine Aah ?_
  have hd2:upd σ₁ h (.dict (Abk cb (spot+1) st')) h=some (.dict (Abk cb (spot+1) st')):=Aac _ _ _
  have hc2:upd σ₁ h (.dict (Abk cb (spot+1) st')) cb=some (.list (ns.map fun (k:Nat)=>.int k)):=by rw[Aai _ _ ncb];exact hc1
  refine Aad ?_
  refine Aal ?_
  refine AaN ?_
  refine AaN ?_
  refine AaF rfl ?_
  refine Aaa (a:=.obj h) (by rfl) (by rfl) ?_
  refine Aav ?_
  refine Aci hd2 (Acb _ _ _ _) (AfU _ _ _) ?_
  refine Aae ?_
  refine b_div (by decide) ⟨Int.natCast_nonneg _,by lia⟩ (by lia) ?_
  refine Aaa (a:=.int many) (by rfl) (by rfl) ?_
  refine Ah8 (Int.natCast_pos.mpr hm) ?_
  refine Aap ⟨st' / 3 % many,by simp,Nat.mod_lt _ (by exact hm),hK1.trans (KeepX.set _),cb,ns,spot+1,st',hd2,hc2,hl,hst⟩
noncomputable def Tm.gnd(t:Tm):Bool:=Tm.rec (fun n=>n==.a||n==.b||n==.c) (fun jj jj jj=>false) (fun n jj jj l r=>(n==.g||n==.h)&&l&&r) t
inductive R28b(many:Nat)(h:Addr)(σ:AH)(v:AV)(σ':AH):Prop
 | mk (t:Tm) (h1:v=t.av) (h2:t.gnd=true) (h3:t.w=many) (h4:KeepX h σ σ') (h5:IsHand σ' h)
noncomputable def v28b(h:Addr)(many:Nat):Vars:=fV ["hand","many"] [.obj h,.int many]
omit [Own] in
theorem tm1{m r:Nat}(h:r<m - 1):1+r<m:=Nat.add_comm r 1▸Nat.add_lt_of_lt_sub h
omit [Own] in
theorem tm2{m r:Nat}(h1:1≤m):m - (1+r)<m:=Nat.sub_lt h1 (Nat.lt_of_lt_of_le Nat.zero_lt_one (Nat.le_add_right 1 r))
omit [Own] in
theorem tm3{k m d:Nat}(h:k<m):0+k+1≤d+m:=by rw[Nat.zero_add];exact Nat.le_trans h (Nat.le_add_left m d)
omit [Own] in
theorem tm4{m:Nat}(h:1≤m)(e:m≠1):1≤m - 1:=Nat.le_sub_of_add_le (Nat.lt_of_le_of_ne h (Ne.symm e))
set_option maxHeartbeats 1000000 in
theorem Aik(P:Prg B){h:Addr}:∀ (many:Nat) (σ:AH),IsHand σ h→1≤many→many≤3→∀ {d:Nat},AK B (d+many+1) (.ref (P.a 23)) [.obj h,.int many] σ (R28b many h σ):=by
 intro many
 induction many using Nat.strongRecOn with
 | ind many ih=>
  intro σ hh h1 h3 d
  have F:=P.fn 23 (by decide)
  refine Abm (d:=d+many) P.O F (names:=["hand","many"]) (hb2 fun jj jj jj jj jj jj jj jj jj jj=>rfl) (by decide +kernel) fun qn L cd=>?_
  let E:=fE (AaB (Acl 23)) (P.a 23) qn L cd
  let V:=v28b h many
  show AX B _ E V (execs _ E) _ _
  refine Aad ?_
  refine AbV ?_
  refine Aax rfl ?_
  refine Aaa (a:=.int many) (by rfl) (by rfl) ?_
  refine Aae ?_
  refine AbU ?_
  by_cases e1:many=1
  ·subst e1
   refine Abh rfl ?_
   refine Aad ?_
   refine Aal ?_
   refine Aam ?_
   refine Aab rfl ?_
   refine AaF rfl ?_
   refine Aav ?_
   refine e_g P.O (by rfl) P.g_law_next (P.keep 20 (by decide)) ?_
   refine Aag (.loc (a:=.obj h) (by rfl) (by rfl) (.int .nil)) ?_
   refine(AC.less (Abv (d:=0) (many:=3) P hh (lnk rfl) (lnk rfl)).ac (lad rfl)).mono ?_
   rintro v σ₁ ⟨r,rfl,hr,hK,hh1⟩
   obtain⟨n,hn,hc⟩:∃ n:Nm,(n=.a∨n=.b∨n=.c)∧∃ c,("abc":Str).cps[(r:Int).toNat]?=some c∧(⟨#[c]⟩:Str)=n.str:=by
    rw[Int.toNat_natCast]
    have:=lt3 hr
    rcases this with rfl | rfl | rfl
    ·exact⟨.a,by simp,_,rfl,by decide⟩
    ·exact⟨.b,by simp,_,rfl,by decide⟩
    ·exact⟨.c,by simp,_,rfl,by decide⟩
   obtain⟨c,hc1,hc2⟩:=hc
   refine g_str (Int.natCast_nonneg _) (Int.ofNat_lt.mpr (ln1 (.c 1 (.p 0 1) (.n 3) (.g 0 (.p 0 1) (.n 1000))) rfl hr)) hc1 ?_
   rw[hc2]
   refine Aaf ⟨lnk rfl,?_⟩
   exact Aap (Aap ⟨.lf n,rfl,by rcases hn with rfl | rfl | rfl<;>rfl,rfl,hK,hh1⟩)
  ·refine AaV (by simp;exact fun e=>e1 (Int.ofNat.inj e)) ?_
   refine AaK ?_
   refine Aah ?_
   refine Aad ?_
   refine Aak rfl rfl ?_
   refine AaN ?_
   refine Aae ?_
   refine e_g P.O (by rfl) P.g_law_next (P.keep 20 (by decide)) ?_
   refine Aab rfl ?_
   refine Aaa (a:=.obj h) (by rfl) (by rfl) ?_
   refine Aab rfl ?_
   refine AaN ?_
   refine Aaa (a:=.int many) (by rfl) (by rfl) ?_
   refine Aae ?_
   refine b_sub ?_
   rw[show((many:Int) - 1)=((many - 1:Nat):Int) from(Int.ofNat_sub h1).symm]
   refine Aaf ((AC.less (Abv (d:=0) (many:=many - 1) P hh (tm4 h1 e1) (Nat.le_trans (Nat.sub_le _ _) (Nat.le_trans h3 (lnk rfl)))).ac (Nat.le_trans h1 (Nat.le_add_left _ _))).mono ?_)
   rintro v σ₁ ⟨r,rfl,hr,hK1,hh1⟩
   refine AdO ?_
   rw[show((1:Int)+(r:Int))=((1+r:Nat):Int) from rfl]
   refine Aah ?_
   refine Aad ?_
   refine Aak rfl rfl ?_
   refine AaF rfl ?_
   refine Aav ?_
   refine e_g P.O (by rfl) P.g_law_next (P.keep 20 (by decide)) ?_
   refine Aag (.loc (a:=.obj h) (by rfl) (by rfl) (.int .nil)) ?_
   refine(AC.less (Abv (d:=0) (many:=4) P hh1 (lnk rfl) (lnk rfl)).ac (Nat.le_trans h1 (Nat.le_add_left _ _))).mono ?_
   rintro v σ₂ ⟨r2,rfl,hr2,hK2,hh2⟩
   obtain⟨n,hn,hc⟩:∃ n:Nm,(n=.g∨n=.h)∧∃ c,("gggh":Str).cps[(r2:Int).toNat]?=some c∧(⟨#[c]⟩:Str)=n.str:=by
    rw[Int.toNat_natCast]
    have:=lt4 hr2
    rcases this with rfl | rfl | rfl | rfl
    ·exact⟨.g,by simp,_,rfl,by decide⟩
    ·exact⟨.g,by simp,_,rfl,by decide⟩
    ·exact⟨.g,by simp,_,rfl,by decide⟩
    ·exact⟨.h,by simp,_,rfl,by decide⟩
   obtain⟨c,hc1,hc2⟩:=hc
   refine g_str (Int.natCast_nonneg _) (Int.ofNat_lt.mpr (ln1 (.c 1 (.p 0 1) (.n 4) (.g 0 (.p 0 1) (.n 1000))) rfl hr2)) hc1 ?_
   rw[hc2]
   refine Aah ?_
   refine Aad ?_
   refine Aal ?_
   refine Aam ?_
   refine Aab rfl ?_
   refine Aaa (a:=.str n.str) (by rfl) (by rfl) ?_
   refine Aab rfl ?_
   refine e_g P.O (by rfl) P.g_law_term (P.keep 23 (by decide)) ?_
   refine Aag (.loc (a:=.obj h) (by rfl) (by rfl) (.loc (a:=.int ((1+r:Nat):Int)) (by rfl) (by rfl) .nil)) ?_
   refine(AC.less (ih (1+r) (tm1 hr) σ₂ hh2 (Nat.le_add_right 1 r) (Nat.le_trans (Nat.le_of_lt (tm1 hr)) h3) (d:=0)).ac (tm3 (tm1 hr))).mono ?_
   rintro v σ₃ ⟨t1,rfl,ht1,hw1,hK3,hh3⟩
   refine Aab rfl ?_
   refine e_g P.O (by rfl) P.g_law_term (P.keep 23 (by decide)) ?_
   refine Aab rfl ?_
   refine Aaa (a:=.obj h) (by rfl) (by rfl) ?_
   refine Aab rfl ?_
   refine AaN ?_
   refine Aaa (a:=.int many) (by rfl) (by rfl) ?_
   refine Aaa (a:=.int ((1+r:Nat):Int)) (by rfl) (by rfl) ?_
   refine b_sub ?_
   rw[show((many:Int) - ((1+r:Nat):Int))=((many - (1+r):Nat):Int) from(Int.ofNat_sub (Nat.le_of_lt (tm1 hr))).symm]
   refine Aaf ((AC.less (ih (many - (1+r)) (tm2 h1) σ₃ hh3 (Nat.le_sub_of_add_le (Nat.add_comm 1 (1+r)▸tm1 hr)) (Nat.le_trans (Nat.sub_le _ _) h3) (d:=0)).ac (tm3 (tm2 h1))).mono ?_)
   rintro v σ₄ ⟨t2,rfl,ht2,hw2,hK4,hh4⟩
   refine Aaf ⟨lnk rfl,?_⟩
   exact Aap ⟨.bi n t1 t2,rfl,AeB (AeB (by rcases hn with rfl | rfl<;>rfl) ht1) ht2,(show t1.w+t2.w=_ by rw[hw1,hw2];exact Nat.add_sub_of_le (Nat.le_of_lt (tm1 hr))),((hK1.trans hK2).trans hK3).trans hK4,hh4⟩
end
end Pq
namespace Pq
variable[Own]
noncomputable def Aic(B:Aaj)(a:Addr)(l:List Int):Prop:=∃ items,B.h₀.IsList a items∧All2 (fun (i:Int) (v:Value)=>∃ t,v=.int i t) l items.toList
section
variable{B:Aaj}{d:Nat}{σ:AH}{Q:AV→AH→Prop}
theorem s_base{a:Addr}{l:List Int}{hi:Nat}(hb:Aic B a l)(hz:l.length≤1000)(q:∀ e,σ e=none→Q (.obj e) (upd σ e (.list ((l.take hi).map .int)))):AhB B d (.raw (.ref a)) none (some hi) σ Q:=by
 rintro A s _ vl vu sl r S rfl pl ⟨u,rfl⟩ hs
 rw[show vl=.none from pl] at hs
 obtain⟨items,⟨o,ho,hc,n,hd⟩,rt⟩:=hb
 have hL:s.heap.IsList a items:=⟨o,S.base _ _ ho,hc,n,hd⟩
 have hsz:l.length=items.size:=by rw[rt.length,Array.length_toList]
 refine⟨"list",_,hL.typeIs,list_getitem_lookup,wpAny_getItem_list_slice hL hs IsPart.none (IsPart.int _ _) IsPart.none (by decide) ?_ (by rw[← hsz];exact Aa7 hz)⟩
 rw[slicePick_upto' items hi]
 refine⟨.obj _,_,q _ S.none_size,rfl,AdS (t:=s.toks) S ?_⟩
 have:∀ (l:List Int) (m:List Value),All2 (fun (i:Int) (v:Value)=>∃ t,v=.int i t) l m→All2 (VR s.heap) (l.map .int) m:=by
  intro l
  induction l with
  | nil=>intro m hm;exact hm
  | cons i l ih=>rintro _ ⟨v,m,rfl,h,hr⟩;exact⟨v,m,rfl,h,ih m hr⟩
 have h2:=this _ _ (rt.take hi)
 exact Aao.mpr (by simpa using h2)
inductive R29a(σ:AH)(v:AV)(σ':AH):Prop
 | mk (h:_) (h1:v=.obj h) (h2:σ h=none) (h3:Keep σ σ') (h4:IsHand σ' h)
inductive R29b(σ₁:AH)(xs:List AV)(ys:List AV)(σ':AH):Prop
 | mk (h1:σ'=σ₁) (td:List Int) (ns:List Nat) (h2:xs=td.map .int) (h3:ys=ns.map (fun (k:Nat)=>.int k)) (h4:ns.length+td.length≤40)
noncomputable def v29a(sa:Addr):Vars:=fV ["script"] [.raw (.ref sa)]
set_option maxHeartbeats 1000000 in
theorem hand_AK(P:Prg B){sa:Addr}{l:List Int}(hb:Aic B sa l)(hz:l.length≤1000):
  AK B (d+1) (.ref (P.a 21)) [.raw (.ref sa)] σ (R29a σ):=by
 have F:=P.fn 21 (by decide)
 refine Abm (d:=d) P.O F (names:=["script"]) (hb1 fun jj jj jj jj jj jj jj jj jj=>rfl) (by decide +kernel) fun qn L cd=>?_
 let E:=fE (AaB (Acl 21)) (P.a 21) qn L cd
 let V:=v29a sa
 show AX B _ E V (execs _ E) _ _
 refine Aad ?_
 refine AaG rfl rfl rfl (cl:=[]) ⟨by rfl,by rfl,by simp,by rfl,by decide,by rfl,by decide⟩ ?_
 refine AaC ?_
 refine AaL ?_
 refine Aaa (a:=.raw (.ref sa)) (by rfl) (by rfl) ?_
 refine Aaz ?_
 refine Aay ?_
 refine Aae ⟨40,rfl,s_base hb hz fun e he=>?_⟩
 refine⟨e,_,rfl,Aac _ _ _,by simp;exact Nat.le_trans (Nat.min_le_left ..) (lnk rfl),?_⟩
 have hK:Keep σ (upd σ e (.list ((l.take 40).map .int))):=(Keep.refl σ).upd (.inl he) _
 generalize upd σ e (.list ((l.take 40).map .int))=σ₁ at hK
 refine⟨(R29b σ₁),⟨rfl,l.take 40,[],rfl,rfl,by simp;exact Nat.min_le_left ..⟩,?_,?_⟩
 ·rintro C y xs ys σ' hsat ⟨rfl,td,ns,hx,rfl,hl⟩
  obtain⟨i,td⟩:=Abb hx
  refine AaY rfl ?_
  refine AcU ?_
  refine AaN ?_
  refine e_g P.O (by rfl) P.g_abs rfl ?_
  refine Aag (.loc (a:=.int i) (by rfl) (by rfl) .nil) ?_
  refine ac_abs ?_
  refine Aae ?_
  refine Ah8 (by decide) ?_
  refine⟨hsat,rfl,td,ns++[((if i<0 then -i else i) % 1000003).toNat],rfl,?_,by simp at hl ⊢;exact ln2 (.c 1 (.a (.v 0) (.p 1 1)) (.n 40) (.g 0 (.a (.p 0 1) (.v 1)) (.n 40))) rfl hl⟩
  rw[List.map_append]
  congr 1
  simp only[List.map_cons,List.map_nil,List.cons.injEq,and_true,AV.int.injEq]
  rw[Int.toNat_of_nonneg (Int.emod_nonneg _ (by decide))]
 ·rintro ys σ' hsat ⟨rfl,td,ns,hx,rfl,hl⟩ hlen a ha
  have hns:ns.length≤40:=by lia
  refine Aah ?_;refine AcA ?_;intro V
  have hK2:Keep σ (upd σ' a (.list (ns.map fun (k:Nat)=>.int k))):=hK.upd (.inl ha) _
  have hal:upd σ' a (.list (ns.map fun (k:Nat)=>.int k)) a=some (.list (ns.map fun (k:Nat)=>.int k)):=Aac _ _ _
  generalize upd σ' a (.list (ns.map fun (k:Nat)=>.int k))=σ₂ at hK2 hal
  refine Aad ?_
  refine Aal ?_
  refine AdB rfl ?_
  refine Abr ?_
  refine Aav ?_
  refine Aaa (a:=.obj a) (by rfl) (by rfl) ?_
  refine Abr ?_
  refine Aav ?_
  refine Aae ?_
  refine Abr ?_
  refine Aav ?_
  refine AaN ?_
  refine AaN ?_
  refine Aae ?_
  refine e_g P.O (by rfl) P.g_sum rfl ?_
  refine Aag (.loc (a:=.obj a) (by rfl) (by rfl) .nil) ?_
  refine ac_sum (ns:=ns.map fun (k:Nat)=>(k:Int)) (by rw[hal,List.map_map];rfl) ?_
  refine AdO ?_
  refine Aae ?_
  refine Ah8 (by decide) ?_
  refine AcB ⟨?_,by simp,fun h hh=>?_⟩
  ·exact⟨.inl ⟨rfl,fun jj h=>nomatch h⟩,.inl ⟨rfl,fun kv h=>by simp[Pq.put] at h;subst h;rfl⟩,.inl ⟨rfl,fun kv h=>by
    have:=put_mem h
    rcases this with h | ⟨kv',h',e⟩
    ·rw[h];rfl
    ·simp[Pq.put] at h';rw[e,h'];rfl⟩,trivial⟩
  ·have e0:∀ st:Int,AdR [] [(.str "cells",.obj a),(.str "spot",.int 0),(.str "stir",.int st)]=[((.str "cells":AV),AV.obj a),(.str "spot",.int 0),(.str "stir",.int st)]:=fun st=>by
    have h1:¬ (("cells":Str)="spot"):=by decide
    have h2:¬ (("cells":Str)="stir"):=by decide
    have h3:¬ (("spot":Str)="stir"):=by decide
    simp[AdR,Pq.put,h1,h2,h3]
   rw[e0]
   have hge:0≤(ns.map fun (k:Nat)=>(k:Int)).sum:=by
    clear hal hns hl hlen hx
    induction ns with
    | nil=>simp
    | cons n l ih=>simp at ih ⊢;exact Int.add_nonneg (Int.natCast_nonneg _) ih
   obtain⟨m,hm⟩:∃ m:Nat,(7+(ns.map fun (k:Nat)=>(k:Int)).sum) % 1009=(m:Int):=⟨((7+(ns.map fun (k:Nat)=>(k:Int)).sum) % 1009).toNat,by rw[Int.toNat_of_nonneg (Int.emod_nonneg _ (by decide))]⟩
   have hm2:=Int.emod_lt_of_pos (7+(ns.map fun (k:Nat)=>(k:Int)).sum) (show(0:Int)<1009 by decide)
   rw[hm] at hm2 ⊢
   have nah:a≠h:=ne1 hal hh
   refine Aap ⟨h,rfl,hK2.none hh,hK2.upd (.inl hh) _,a,ns,0,m,?_,?_,hns,Int.ofNat_lt.mp hm2⟩
   ·rw[Aac];rfl
   ·rw[Aai _ _ nah];exact hal
end
end Pq
namespace Pq
variable[Own]
noncomputable def Aaw(s:Sd):AV:=.tup [.str s.sk.name,s.left.av,s.right.av]
inductive Acj(σ:AH)(b:Addr)(ts:List Sd):Prop
 | mk (es n:_) (h:σ b=some (.cdict es n (Abw ts)))
section
variable{B:Aaj}{d:Nat}{σ:AH}{Q:AV→AH→Prop}
inductive R30a(σ:AH)(v:AV)(σ':AH):Prop
 | mk (rb lb d0 d1 d2:_) (h1:v=.tup [.obj rb,.obj lb]) (h2:Keep σ σ') (h3:σ' rb=some (.list [Aaw .turn,Aaw .move,Aaw .drop])) (h4:σ' lb=some (.list [.obj d0,.obj d1,.obj d2])) (h5:Acj σ' d0 []) (h6:Acj σ' d1 [.told1]) (h7:Acj σ' d2 [.told2])
noncomputable def v30a  : Vars:=fV [] []
set_option maxHeartbeats 1000000 in
theorem sides_AK(P:Prg B):
  AK B (d+1) (.ref (P.a 22)) [] σ (R30a σ):=by
 have F:=P.fn 22 (by decide)
 refine Abm (d:=d) P.O F (names:=[]) (fun jj jj jj jj jj jj jj jj vs hv=>by cases List.length_eq_zero_iff.mp hv;rfl) (by decide +kernel) fun qn L cd=>?_
 let E:=fE (AaB (Acl 22)) (P.a 22) qn L cd
 let V:=v30a
 show AX B _ E V (execs _ E) _ _
 refine Aad ?_
 refine AaS ?_ ?_ ?_
 ·rfl
 ·rfl
 refine Aam ?_
 refine Aag (l:=[(Tm.lf .x).av,(Tm.lf .y).av,(Tm.lf .z).av]) ?_ ?_
 ·exact(.tup (.str .nil) (lnk rfl) (.tup (.str .nil) (lnk rfl) (.tup (.str .nil) (lnk rfl) .nil)))
 refine⟨lnk rfl,?_⟩
 refine AbP ?_ ?_ ?_
 ·rfl
 ·rfl
 refine Aar ?_
 refine AaA ?_ ?_
 ·rfl
 refine Aar ?_
 refine AaA ?_ ?_
 ·rfl
 refine Aar ?_
 refine AaA ?_ ?_
 ·rfl
 refine AbO ?_
 refine Aah ?_;refine AcA ?_;intro V
 refine Aad ?_
 refine Aak ?_ ?_ ?_
 ·rfl
 ·rfl
 refine AaI ?_
 refine Aag (l:=[Aaw .turn,Aaw .move]) ?_ ?_
 ·exact(.tup (.str (.tup (.str (.loc (by rfl) (by rfl) (.loc (by rfl) (by rfl) .nil))) (lnk rfl) (.tup (.str (.loc (by rfl) (by rfl) (.loc (by rfl) (by rfl) .nil))) (lnk rfl) .nil))) (lnk rfl) (.tup (.str (.tup (.str (.tup (.str (.loc (by rfl) (by rfl) (.loc (by rfl) (by rfl) .nil))) (lnk rfl) (.loc (by rfl) (by rfl) .nil))) (lnk rfl) (.tup (.str (.loc (by rfl) (by rfl) (.tup (.str (.loc (by rfl) (by rfl) (.loc (by rfl) (by rfl) .nil))) (lnk rfl) .nil))) (lnk rfl) .nil))) (lnk rfl) .nil))
 refine⟨lnk rfl,fun rb hrb=>?_⟩
 refine Aah ?_;refine AcA ?_;intro V
 have hK1:Keep σ (upd σ rb (.list [Aaw .turn,Aaw .move])):=(Keep.refl σ).upd (.inl hrb) _
 have hr1:upd σ rb (.list [Aaw .turn,Aaw .move]) rb=some (.list [Aaw .turn,Aaw .move]):=Aac _ _ _
 refine Aad ?_
 refine Ace ?_ ?_ ?_
 ·rfl
 ·rfl
 refine AaM P.O ?_ ?_ ?_
 ·rfl
 ·rfl
 refine Aaa (a:=.obj rb) ?_ ?_ ?_
 ·rfl
 ·rfl
 refine⟨_,Aa3 hr1,rfl,rfl,?_⟩
 refine Aag (l:=[Aaw .drop]) ?_ ?_
 ·exact(.tup (.str (.tup (.str (.loc (by rfl) (by rfl) (.loc (by rfl) (by rfl) .nil))) (lnk rfl) (.loc (by rfl) (by rfl) .nil))) (lnk rfl) .nil)
 refine Aa6 hr1 (lnk rfl) ?_
 refine Aah ?_;refine AcA ?_;intro V
 have hK2:Keep σ (upd (upd σ rb (.list [Aaw .turn,Aaw .move])) rb (.list [Aaw .turn,Aaw .move,Aaw .drop])):=hK1.upd (.inr hrb) _
 have hr2:upd (upd σ rb (.list [Aaw .turn,Aaw .move])) rb (.list [Aaw .turn,Aaw .move,Aaw .drop]) rb=some (.list [Aaw .turn,Aaw .move,Aaw .drop]):=Aac _ _ _
 show AX B _ _ _ _ (upd (upd σ rb (.list [Aaw .turn,Aaw .move])) rb (.list [Aaw .turn,Aaw .move,Aaw .drop])) _
 generalize upd (upd σ rb (.list [Aaw .turn,Aaw .move])) rb (.list [Aaw .turn,Aaw .move,Aaw .drop])=σ₁ at hK2 hr2
 refine Aad ?_
 refine Aak ?_ ?_ ?_
 ·rfl
 ·rfl
 refine AaI ?_
 refine Aab ?_ ?_
 ·rfl
 refine Aeo ?_
 refine Afm fun d0 h0=>?_
 refine⟨d0,[],rfl,Aac _ _ _,fun es0 n0=>?_⟩
 have K0:Keep σ₁ (upd (upd σ₁ d0 (.dict [])) d0 (.cdict es0 n0 [])):=((Keep.refl σ₁).upd (.inl h0) _).upd (.inr h0) _
 have t0:upd (upd σ₁ d0 (.dict [])) d0 (.cdict es0 n0 []) d0=some (.cdict es0 n0 (Abw [])):=Aac _ _ _
 generalize upd (upd σ₁ d0 (.dict [])) d0 (.cdict es0 n0 [])=σ₂ at K0 t0
 refine Aab ?_ ?_
 ·rfl
 refine Aeo ?_
 refine AdB ?_ ?_
 ·rfl
 refine Abr ?_
 refine Aav ?_
 refine Aam ?_
 refine Aag (l:=[.tup [.str "a"],.tup [.str "b"]]) ?_ ?_
 ·exact(.tup (.str .nil) (lnk rfl) (.tup (.str .nil) (lnk rfl) .nil))
 refine⟨lnk rfl,?_⟩
 refine AcB ?_
 refine⟨⟨.inl ⟨rfl,fun jj h=>nomatch h⟩,trivial⟩,by simp,fun d1 h1=>?_⟩
 refine⟨d1,_,rfl,Aac _ _ _,fun es1 n1=>?_⟩
 have K1:Keep σ₂ (upd (upd σ₂ d1 (.dict (AdR [] [(.str "t",.tup [.tup [.str "a"],.tup [.str "b"]])]))) d1 (.cdict es1 n1 (AdR [] [(.str "t",.tup [.tup [.str "a"],.tup [.str "b"]])]))):=((Keep.refl σ₂).upd (.inl h1) _).upd (.inr h1) _
 have t1:upd (upd σ₂ d1 (.dict (AdR [] [(.str "t",.tup [.tup [.str "a"],.tup [.str "b"]])]))) d1 (.cdict es1 n1 (AdR [] [(.str "t",.tup [.tup [.str "a"],.tup [.str "b"]])])) d1=some (.cdict es1 n1 (Abw [.told1])):=Aac _ _ _
 generalize upd (upd σ₂ d1 (.dict (AdR [] [(.str "t",.tup [.tup [.str "a"],.tup [.str "b"]])]))) d1 (.cdict es1 n1 (AdR [] [(.str "t",.tup [.tup [.str "a"],.tup [.str "b"]])]))=σ₃ at K1 t1
 refine Aab ?_ ?_
 ·rfl
 refine Aeo ?_
 refine AdB ?_ ?_
 ·rfl
 refine Abr ?_
 refine Aav ?_
 refine Aam ?_
 refine Aag (l:=[.tup [.str "g",.tup [.str "a"],.tup [.str "b"]],.tup [.str "h",.tup [.str "b"],.tup [.str "c"]]]) ?_ ?_
 ·exact(.tup (.str (.tup (.str .nil) (lnk rfl) (.tup (.str .nil) (lnk rfl) .nil))) (lnk rfl) (.tup (.str (.tup (.str .nil) (lnk rfl) (.tup (.str .nil) (lnk rfl) .nil))) (lnk rfl) .nil))
 refine⟨lnk rfl,?_⟩
 refine AcB ?_
 refine⟨⟨.inl ⟨rfl,fun jj h=>nomatch h⟩,trivial⟩,by simp,fun d2 h2=>?_⟩
 refine⟨d2,_,rfl,Aac _ _ _,fun es2 n2=>?_⟩
 have K2:Keep σ₃ (upd (upd σ₃ d2 (.dict (AdR [] [(.str "t",.tup [.tup [.str "g",.tup [.str "a"],.tup [.str "b"]],.tup [.str "h",.tup [.str "b"],.tup [.str "c"]]])]))) d2 (.cdict es2 n2 (AdR [] [(.str "t",.tup [.tup [.str "g",.tup [.str "a"],.tup [.str "b"]],.tup [.str "h",.tup [.str "b"],.tup [.str "c"]]])]))):=((Keep.refl σ₃).upd (.inl h2) _).upd (.inr h2) _
 have t2:upd (upd σ₃ d2 (.dict (AdR [] [(.str "t",.tup [.tup [.str "g",.tup [.str "a"],.tup [.str "b"]],.tup [.str "h",.tup [.str "b"],.tup [.str "c"]]])]))) d2 (.cdict es2 n2 (AdR [] [(.str "t",.tup [.tup [.str "g",.tup [.str "a"],.tup [.str "b"]],.tup [.str "h",.tup [.str "b"],.tup [.str "c"]]])])) d2=some (.cdict es2 n2 (Abw [.told2])):=Aac _ _ _
 generalize upd (upd σ₃ d2 (.dict (AdR [] [(.str "t",.tup [.tup [.str "g",.tup [.str "a"],.tup [.str "b"]],.tup [.str "h",.tup [.str "b"],.tup [.str "c"]]])]))) d2 (.cdict es2 n2 (AdR [] [(.str "t",.tup [.tup [.str "g",.tup [.str "a"],.tup [.str "b"]],.tup [.str "h",.tup [.str "b"],.tup [.str "c"]]])]))=σ₄ at K2 t2
 refine Aaf ?_
 refine⟨by simp,fun lb hlb=>?_⟩
 refine Aah ?_;refine AcA ?_;intro V
 have K3:Keep σ₄ (upd σ₄ lb (.list [.obj d0,.obj d1,.obj d2])):=(Keep.refl σ₄).upd (.inl hlb) _
 refine Aad ?_
 refine Aal ?_
 refine Aam ?_
 refine Aab ?_ ?_
 ·rfl
 refine Aaa (a:=.obj rb) (by rfl) (by rfl) ?_
 refine Aab ?_ ?_
 ·rfl
 refine Aaa (a:=.obj lb) (by rfl) (by rfl) ?_
 refine Aaf ?_
 refine⟨by simp,?_⟩
 exact Aap ⟨rb,lb,d0,d1,d2,rfl,(((hK2.trans K0).trans K1).trans K2).trans K3,K3 _ _ (K2 _ _ (K1 _ _ (K0 _ _ hr2))),Aac _ _ _,⟨es0,n0,K3 _ _ (K2 _ _ (K1 _ _ t0))⟩,⟨es1,n1,K3 _ _ (K2 _ _ t1)⟩,⟨es2,n2,K3 _ _ t2⟩⟩
end
end Pq
namespace Pq
noncomputable def T1:List Tm:=[.lf .a,.lf .b,.lf .c]
noncomputable def T2:List Tm:=[Nm.g,Nm.h].flatMap fun o=>T1.flatMap fun l=>T1.map fun r=>.bi o l r
noncomputable def T3:List Tm:=[Nm.g,Nm.h].flatMap fun o=>(T1.flatMap fun l=>T2.map fun r=>.bi o l r)++(T2.flatMap fun l=>T1.map fun r=>.bi o l r)
noncomputable def TS:List Tm:=T1++T2
noncomputable def cfg(b:Bool):List Sd:=Bool.casesOn b [.turn,.move,.drop,.told1] [.turn,.move,.drop,.told2]
noncomputable def cntN(n:Nm):Tm→Nat
 | .lf m=>if m=n then 1 else 0
 | .un m k=>(if m=n then 1 else 0)+cntN n k
 | .bi m l r=>(if m=n then 1 else 0)+cntN n l+cntN n r
noncomputable def biN(t:Tm)(a b:Nat):Nat:=Tm.casesOn t (fun jj=>b) (fun jj jj=>b) fun n jj jj=>if n=.h then 1 else a
noncomputable def innerN(t:Tm):Nat:=Tm.casesOn t (fun jj=>0) (fun jj jj=>0) fun jj l r=>biN l 0 (biN r 0 0)
noncomputable def invT(b:Bool)(t:Tm):Nat:=Bool.casesOn b (cntN .c t * 4+innerN t * 2+(if t.hd=.h then 1 else 0)) (cntN .b t * 6+(cntN .c t+2 - cntN .h t))
noncomputable def goodQ(b:Bool)(u v:Tm):Bool:=v.gnd&&(Nat.beq v.w 3&&Nat.beq (invT b v) (invT b u)||Nat.ble v.w 2)
theorem close3:∀ b,(T3.all fun u=>(Aas (cfg b) u).all fun q=>goodQ b u q.2)=true:=by decide +kernel
theorem close2:∀ b,(TS.all fun u=>(Aas (cfg b) u).all fun q=>q.2.gnd&&Nat.ble q.2.w 2)=true:=by decide +kernel
theorem size3:∀ b,((List.range 26).all fun v=>Nat.ble (T3.filter fun u=>Nat.beq (invT b u) v).length 42)=true:=by decide +kernel
theorem range3:∀ b,(T3.all fun u=>Nat.blt (invT b u) 26)=true:=by decide +kernel
theorem AfT{t:Tm}(h:t.gnd=true)(hw:t.w=1):t∈T1:=by
 cases t with
 | lf n=>cases n<;>first | exact .head _ | exact .tail _ (.head _) | exact .tail _ (.tail _ (.head _)) | cases h
 | un n k=>cases h
 | bi n l r=>exact absurd (show l.w+r.w=1 from hw) (Nat.ne_of_gt (Nat.add_le_add l.w_pos r.w_pos))
theorem gnd_bi{n:Nm}{l r:Tm}(h:(Tm.bi n l r).gnd=true):n∈[Nm.g,Nm.h]∧l.gnd=true∧r.gnd=true:=by
 obtain⟨h,h3⟩:=ba h
 obtain⟨h1,h2⟩:=ba h
 exact⟨(by cases n<;>first | exact .head _ | exact .tail _ (.head _) | cases h1),h2,h3⟩
theorem AiG{t:Tm}(h:t.gnd=true)(hw:t.w=2):t∈T2:=by
 cases t with
 | lf n=>exact absurd hw (show ¬ (1:Nat)=2 by decide)
 | un n k=>cases h
 | bi n l r=>
  obtain⟨h1,h2,h3⟩:=gnd_bi h
  have a:=l.w_pos;have b:=r.w_pos;replace hw:l.w+r.w=2:=hw
  exact List.mem_flatMap.mpr ⟨n,h1,List.mem_flatMap.mpr ⟨l,AfT h2 (by lia),List.mem_map.mpr ⟨r,AfT h3 (by lia),rfl⟩⟩⟩
theorem AiF{t:Tm}(h:t.gnd=true)(hw:t.w=3):t∈T3:=by
 cases t with
 | lf n=>exact absurd hw (show ¬ (1:Nat)=3 by decide)
 | un n k=>cases h
 | bi n l r=>
  obtain⟨h1,h2,h3⟩:=gnd_bi h
  have a:=l.w_pos;have b:=r.w_pos;replace hw:l.w+r.w=3:=hw
  refine List.mem_flatMap.mpr ⟨n,h1,List.mem_append.mpr ?_⟩
  by_cases e:l.w=1
  ·exact .inl (List.mem_flatMap.mpr ⟨l,AfT h2 e,List.mem_map.mpr ⟨r,AiG h3 (Nat.le_antisymm (ln2 (.e 1 0 (.b 0 1) (.n 3) (.e 0 1 (.v 0) (.n 1) (.g 0 (.v 1) (.n 2)))) rfl hw e) (ln2 (.e 0 1 (.b 0 1) (.n 3) (.e 1 0 (.v 0) (.n 1) (.g 0 (.n 2) (.v 1)))) rfl hw e)),rfl⟩⟩)
  ·exact .inr (List.mem_flatMap.mpr ⟨l,AiG h2 (by lia),List.mem_map.mpr ⟨r,AfT h3 (by lia),rfl⟩⟩)
theorem Ahg{t:Tm}(h:t.gnd=true)(hw:t.w≤2):t∈TS:=by
 have:=t.w_pos
 by_cases e:t.w=1
 ·exact List.mem_append.mpr (.inl (AfT h e))
 ·exact List.mem_append.mpr (.inr (AiG h (by lia)))
theorem T3_w:(T3.all fun u=>u.gnd&&Nat.ble u.w 4)=true:=by decide +kernel
theorem TS_w:(TS.all fun u=>u.gnd&&Nat.ble u.w 2)=true:=by decide +kernel
noncomputable def Aip(b:Bool)(t:Tm):List Tm:=(T3.filter fun u=>Nat.beq (invT b u) (invT b t))++TS
theorem Adb(b:Bool):Closed (cfg b) TS:=by
 refine⟨fun p hp q hq=>?_,fun t ht=>?_⟩
 ·have:=List.all_eq_true.mp (List.all_eq_true.mp (close2 b) p hp) q hq
  simp only[Bool.and_eq_true,Nat.ble_eq] at this
  exact Ahg this.1 this.2
 ·have:=List.all_eq_true.mp TS_w t ht
  simp only[Bool.and_eq_true,Nat.ble_eq] at this
  exact Nat.le_trans this.2 (lnk rfl)
theorem AdE(b:Bool)(t:Tm):Closed (cfg b) (Aip b t):=by
 refine⟨fun p hp q hq=>?_,fun u hu=>?_⟩
 ·rcases List.mem_append.mp hp with hp | hp
  ·obtain⟨hp1,hp2⟩:=List.mem_filter.mp hp
   have:=List.all_eq_true.mp (List.all_eq_true.mp (close3 b) p hp1) q hq
   simp only[goodQ,Bool.and_eq_true,Bool.or_eq_true,Nat.ble_eq,Nat.beq_eq] at this hp2
   obtain⟨h1,⟨h2,h3⟩ | h2⟩:=this
   ·refine List.mem_append.mpr (.inl (List.mem_filter.mpr ⟨AiF h1 h2,?_⟩))
    simp only[Nat.beq_eq];exact h3.trans hp2
   ·exact List.mem_append.mpr (.inr (Ahg h1 h2))
  ·exact List.mem_append.mpr (.inr ((Adb b).near p hp q hq))
 ·rcases List.mem_append.mp hu with hu | hu
  ·have:=List.all_eq_true.mp T3_w u (List.mem_filter.mp hu).1
   simp only[Bool.and_eq_true,Nat.ble_eq] at this
   exact this.2
  ·exact(Adb b).w u hu
theorem AfH(b:Bool){t:Tm}(h:t∈T3):(Aip b t).length<64:=by
 have h1:=List.all_eq_true.mp (range3 b) t h
 have h2:=List.all_eq_true.mp (size3 b) (invT b t) (List.mem_range.mpr (Nat.le_of_ble_eq_true h1))
 rw[Nat.ble_eq] at h2
 have:TS.length=21:=by decide
 rw[Aip,List.length_append,this];exact Nat.succ_le_succ (Nat.add_le_add_right h2 21)
theorem AhH{sds sds':List Sd}(h:∀ s∈sds,s∈sds'){t:Tm}{p:Step×Tm}(hp:p∈Aas sds t):p∈Aas sds' t:=
 AdV (P:=fun t st o=>(st,o)∈Aas sds' t) (fun hp=>AfP (by
   obtain⟨h1,s,hs,h2⟩:=Ab8.mp hp
   exact Ab8.mpr ⟨h1,s,h s hs,h2⟩))
  (fun jj i=>List.mem_append.mpr (.inr (List.mem_map.mpr ⟨_,i,rfl⟩))) (fun jj i=>List.mem_append.mpr (.inr (List.mem_append.mpr (.inl (List.mem_map.mpr ⟨_,i,rfl⟩))))) (fun jj i=>List.mem_append.mpr (.inr (List.mem_append.mpr (.inr (List.mem_map.mpr ⟨_,i,rfl⟩))))) hp
theorem Closed.mono{sds sds':List Sd}(h:∀ s∈sds,s∈sds'){S:List Tm}(c:Closed sds' S):Closed sds S:=⟨fun p hp q hq=>c.near p hp q (AhH h hq),c.w⟩
inductive InS(sds:List Sd)(t:Tm):Prop
 | mk (S:List Tm) (c:Closed sds S) (h:t∈S) (l:S.length<64)
noncomputable def SdsOk(sds:List Sd):Prop:=∃ b,∀ s∈sds,s∈cfg b
theorem AiS{sds:List Sd}(h:SdsOk sds){t:Tm}(hg:t.gnd=true)(hw:t.w≤3):InS sds t:=by
 obtain⟨b,hb⟩:=h
 by_cases e:t.w=3
 ·have:=AiF hg e
  exact⟨Aip b t,(AdE b t).mono hb,List.mem_append.mpr (.inl (List.mem_filter.mpr ⟨this,by simp only[Nat.beq_eq]⟩)),AfH b this⟩
 ·exact⟨TS,(Adb b).mono hb,Ahg hg (by lia),by decide⟩
theorem inS_un{sds:List Sd}(h:SdsOk sds){t:Tm}(hg:t.gnd=true)(hw:t.w≤3):InS sds (.un .f t):=by
 obtain⟨b,hb⟩:=h
 have hT:∀ (S:List Tm),Closed sds S→(∀ u∈S,u.w≤3)→Closed sds (S.map (.un .f)):=fun S c h3=>by
  refine⟨fun p hp q hq=>?_,fun u hu=>?_⟩
  ·obtain⟨k,hk,rfl⟩:=List.mem_map.mp hp
   rcases List.mem_append.mp hq with hq | hq
   ·obtain⟨st,o⟩:=q
    obtain⟨_,s,_,_,h3⟩:=Ab8.mp hq
    obtain⟨_,sk,_,bk⟩:=st
    cases s<;>cases bk<;>cases h3
   ·obtain⟨q',hq',rfl⟩:=List.mem_map.mp hq
    exact List.mem_map.mpr ⟨q'.2,c.near k hk q' hq',rfl⟩
  ·obtain⟨k,hk,rfl⟩:=List.mem_map.mp hu
   have:=h3 k hk
   exact Nat.succ_le_succ this
 have w3:(T3.all fun u=>Nat.ble u.w 3)=true:=by decide +kernel
 by_cases e:t.w=3
 ·have:=AiF hg e
  refine⟨(Aip b t).map (.un .f),hT _ ((AdE b t).mono hb) (fun u hu=>?_),List.mem_map.mpr ⟨t,List.mem_append.mpr (.inl (List.mem_filter.mpr ⟨this,by simp only[Nat.beq_eq]⟩)),rfl⟩,by rw[List.length_map];exact AfH b this⟩
  rcases List.mem_append.mp hu with hu | hu
  ·have:=List.all_eq_true.mp w3 u (List.mem_filter.mp hu).1
   simpa[Nat.ble_eq] using this
  ·have:=List.all_eq_true.mp TS_w u hu
   simp only[Bool.and_eq_true,Nat.ble_eq] at this
   lia
 ·refine⟨TS.map (.un .f),hT _ ((Adb b).mono hb) (fun u hu=>?_),List.mem_map.mpr ⟨t,Ahg hg (by lia),rfl⟩,by decide⟩
  have:=List.all_eq_true.mp TS_w u hu
  simp only[Bool.and_eq_true,Nat.ble_eq] at this
  lia
theorem InS.near{sds:List Sd}{t:Tm}(h:InS sds t){q:Step×Tm}(hq:q∈Aas sds t):InS sds q.2:=by
 obtain⟨S,c,ht,hl⟩:=h
 exact⟨S,c,c.near t ht q hq,hl⟩
theorem InS.w{sds:List Sd}{t:Tm}(h:InS sds t):t.w≤4:=by
 obtain⟨S,c,ht,_⟩:=h
 exact c.w t ht
end Pq
namespace Pq
variable[Own]
noncomputable abbrev LE(q:Str)(L f:Addr)(cd:Value):Env:=fE (AaB (Acl 32)) f q L cd
noncomputable def rl:Nat→Sd
 | 0=>.turn | 1=>.move | _=>.drop
noncomputable def tl:Nat→List Sd
 | 0=>[] | 1=>[.told1] | _=>[.told2]
noncomputable def Ae5(r:Nat)(s:Sd):List Sd:=if r=0 then [] else [s]
structure LawI{B:Aaj}(P:Prg B)(ks ts:List Sd)(hb kb tb sb x:Addr)(vars:Vars)(σ:AH):Prop where
 v1:vars "hand"=some (.obj hb)
 v2:vars "kept"=some (.obj kb)
 v3:vars "told"=some (.obj tb)
 v4:vars "sides"=some (.obj sb)
 v5:vars "seeker"=some (.obj x)
 h:IsHand σ hb
 k:σ kb=some (.list (ks.map Aaw))
 s:σ sb=some (.list ((ks++ts).map Sd.av))
 sk:IsSeeker P σ x (ks++ts) (AgN (ks++ts))
theorem AreRules.snoc{B:Aaj}{P:Prg B}{σ:AH}:∀ {sds:List Sd} {l:List AV} {s:Sd} {a:AV},AreRules P σ sds l→IsRule P σ s a→AreRules P σ (sds++[s]) (l++[a])
 | [],l,s,a,h,h2=>by rw[show l=[] from h];exact⟨a,[],rfl,h2,rfl⟩
 | _::_,_,s,a,⟨b,r,e,h1,h2⟩,h3=>by subst e;exact⟨b,r++[a],rfl,h1,AreRules.snoc h2 h3⟩
section
variable{B:Aaj}{d:Nat}{σ:AH}
inductive R32a{B:Aaj}(σ:AH)(P:Prg B)(s:Sd)(v:AV)(σ':AH):Prop
 | mk (h1:Keep σ σ') (h2:IsRule P σ' s v)
theorem rule_AC(P:Prg B)(s:Sd):AC B (d+7) (.ref (P.a 18)) [.str s.sk.name,s.left.av,s.right.av,.tup []] σ (R32a σ P s):=by
 refine ac_cls P.O (P.cls 18 (by decide)) fun x dx hx hdx hne=>?_
 have k0:Keep σ (upd (upd σ dx (.attrs [])) x (.inst (P.a 18) dx)):=((Keep.refl σ).upd (.inl hdx) _).upd (.inr hx) _
 refine(AfI (d:=d) P (s:=s) (x:=x) (dx:=dx) (Aac _ _ _) (by rw[Aai _ _ (Ne.symm hne)];exact Aac _ _ _)).mono ?_
 rintro v σ' ⟨rfl,hK,hR⟩
 exact⟨rfl,fun a o h=>hK a o (fun e=>by subst e;rw[hdx] at h;cases h) (k0 a o h),hR⟩
inductive R32b{B:Aaj}(σ:AH)(P:Prg B)(rs:List Sd)(ts:List Sd)(v:AV)(σ':AH):Prop
 | mk (x:_) (h1:v=.obj x) (h2:Keep σ σ') (h3:IsSeeker P σ' x (rs++ts) (AgN (rs++ts)))
theorem Ais(P:Prg B){rb tb:Addr}{rs ts:List Sd}{ras:List AV}(hr:σ rb=some (.list ras))(hrs:AreRules P σ rs ras)
  (hrl:rs.length≤2) (htl:ts.length≤1) (hrr:∀ s∈rs,s.isTold=false) (htt:∀ s∈ts,s.isTold=true) (ht:Acj σ tb ts) :
  AC B (d+7) (.ref (P.a 16)) [.obj rb,.obj tb] σ (R32b σ P rs ts):=by
 refine ac_cls P.O (P.cls 16 (by decide)) fun x dx hx hdx hne=>?_
 have k0:Keep σ (upd (upd σ dx (.attrs [])) x (.inst (P.a 16) dx)):=((Keep.refl σ).upd (.inl hdx) _).upd (.inr hx) _
 obtain⟨es,n,ht⟩:=ht
 refine(Aer (d:=d) P (x:=x) (dx:=dx) (Aac _ _ _) (by rw[Aai _ _ (Ne.symm hne)];exact Aac _ _ _) (k0 _ _ hr) (hrs.keep k0) hrl htl hrr htt (k0 _ _ ht)).mono ?_
 rintro v σ' ⟨rfl,hK,hS⟩
 exact⟨rfl,x,rfl,fun a o h=>hK a o (fun e=>by subst e;rw[hdx] at h;cases h) (k0 a o h),hS⟩
end
end Pq
namespace Pq
variable[Own]
noncomputable def ksOf(r0 r1:Nat):List Sd:=rl r0::Ae5 r1 (rl ((r0+1) % 3))
structure LawK(ks ts:List Sd):Prop where
 ok:SdsOk (ks++ts)
 uniq:Uniq (ks++ts)
 kl:ks.length≤2
 tl:ts.length≤1
 kt:∀ s∈ks,s.isTold=false
 tt:∀ s∈ts,s.isTold=true
omit [Own] in
theorem lawK(r0 r1 r2:Nat)(h0:r0<3)(h1:r1<2)(h2:r2<3):LawK (ksOf r0 r1) (tl r2):=by
 have a0:=lt3 h0
 have a1:=lt2 h1
 have a2:=lt3 h2
 rcases a0 with rfl | rfl | rfl<;>rcases a1 with rfl | rfl<;>rcases a2 with rfl | rfl | rfl <;>
  first | exact⟨⟨false,by decide⟩,by unfold Uniq;decide,by decide,by decide,by decide,by decide⟩ | exact⟨⟨true,by decide⟩,by unfold Uniq;decide,by decide,by decide,by decide,by decide⟩
section
variable{B:Aaj}{d:Nat}{σ:AH}
noncomputable def LB:List Stmt:=(AcO (Acl 32)).take 15
inductive R33a(σ₇:AH)(ks:List Sd)(xs:List AV)(ys:List AV)(σ':AH):Prop
 | mk (h1:σ'=σ₇) (dn td:List Sd) (h2:xs=td.map Aaw) (h3:ys=dn.map Sd.av) (h4:dn++td=ks)
inductive R33b(σ₈:AH)(ts:List Sd)(xs:List AV)(ys:List AV)(σ'':AH):Prop
 | mk (h1:σ''=σ₈) (d2 td2:List Sd) (h2:xs=td2.map (fun s=>AV.str s.sk.name)) (h3:ys=d2.map Sd.av) (h4:d2++td2=ts)
inductive R33c{B:Aaj}(σ₉:AH)(P:Prg B)(dn:List Sd)(xs:List AV)(ys:List AV)(s1:AH):Prop
 | mk (h1:Keep σ₉ s1) (d3 td3:List Sd) (h2:xs=td3.map Aaw) (h3:AreRules P s1 d3 ys) (h4:d3++td3=dn)
set_option maxHeartbeats 2000000 in
theorem law_seg1(P:Prg B){sa:Addr}{l:List Int}(hb:Aic B sa l)(hz:l.length≤1000){q:Str}{L f:Addr}{cd:Value}{Q:AFl→Vars→AH→Prop}
  (K:∀ ks ts hb kb tb sb x vars σ',LawI P ks ts hb kb tb sb x vars σ'→Acj σ' tb ts→LawK ks ts→Sd.drop∈ks∨Sd.drop∉ks→AX B (d+20) (LE q L f cd) vars (execs (LB.drop 6) (LE q L f cd)) σ' Q) :
  AX B (d+20) (LE q L f cd) (Agf ((["script"]:List Str).zip [AV.raw (.ref sa)]) fun jj=>none) (execs LB (LE q L f cd)) σ Q:=by
 refine Aad ?_
 refine AaS rfl rfl ?_
 refine Aam ?_
 refine Aab rfl ?_
 refine e_g P.O (by rfl) P.g_law_hand (P.keep 21 (by decide)) ?_
 refine Aag (.loc (a:=.raw (.ref sa)) (by rfl) (by rfl) .nil) ((hand_AK (d:=0) P hb hz).use rfl ?_)
 rintro v σ₁ ⟨h,rfl,hh0,K1,hh⟩
 refine Aab rfl ?_
 refine e_call0 P.O rfl ?_
 refine AbG P.O (by rfl) P.g_law_sides ?_
 refine⟨_,rfl,P.keep 22 (by decide),?_⟩
 refine(sides_AK (d:=0) P).use rfl ?_
 rintro v σ₂ ⟨rb,lb,d0,d1,d2,rfl,K2,hrb,hlb,t0,t1,t2⟩
 have hh2:IsHand σ₂ h:=by
  obtain⟨cb,ns,sp,st,H⟩:=hh
  exact⟨cb,ns,sp,st,K2 _ _ H.d,K2 _ _ H.c,H.len,H.lt⟩
 refine Aaf ⟨lnk rfl,?_⟩
 refine AbP rfl rfl ?_
 refine Aar ?_
 refine AaA rfl ?_
 refine Aar ?_
 refine AbP rfl rfl (k:=0) ?_
 refine Aar ?_
 refine AaA rfl ?_
 refine Aar ?_
 refine AaA rfl ?_
 refine AbO ?_
 refine AbO ?_
 refine Aah ?_;refine AcA ?_;intro V
 refine Aad ?_
 refine Aak rfl rfl ?_
 refine e_g P.O (by rfl) P.g_law_next (P.keep 20 (by decide)) ?_
 refine Aag (.loc (a:=.obj h) (by rfl) (by rfl) (.int .nil)) ((Abv (d:=0) (many:=3) P hh2 (by exact lnk rfl) (by exact lnk rfl)).use rfl ?_)
 rintro v σ₃ ⟨r0,rfl,hr0,K3,hh3⟩
 refine Aah ?_;refine AcA ?_;intro V
 have ne:∀ {a:Addr} {l:List AV} {s:AH},s a=some (.list l)→IsHand s h→a≠h:=fun h1 h2 e=>by
  subst e;obtain⟨cb,ns,sp,st,H⟩:=h2;rw[H.d] at h1;cases h1
 have net:∀ {a:Addr} {ts:List Sd} {s:AH},Acj s a ts→IsHand s h→a≠h:=fun h1 h2 e=>by
  subst e;obtain⟨cb,ns,sp,st,H⟩:=h2;obtain⟨es,n,h1⟩:=h1;rw[H.d] at h1;cases h1
 have kx:∀ {s s':AH} {a:Addr} {ts:List Sd},KeepX h s s'→IsHand s h→Acj s a ts→Acj s' a ts:=fun k h1 h2=>by
  have:=net h2 h1
  obtain⟨es,n,h2⟩:=h2
  exact⟨es,n,k _ _ this h2⟩
 have hrb3:=K3 _ _ (ne hrb hh2) hrb
 have hlb3:=K3 _ _ (ne hlb hh2) hlb
 have t03:=kx K3 hh2 t0
 have t13:=kx K3 hh2 t1
 have t23:=kx K3 hh2 t2
 have hrow:∀ n<3,([Aaw .turn,Aaw .move,Aaw .drop]:List AV)[((n:Nat):Int).toNat]?=some (Aaw (rl n)):=fun n hn=>by
  rw[Int.toNat_natCast]
  have:=lt3 hn
  rcases this with rfl | rfl | rfl<;>rfl
 refine Aad ?_
 refine Aak rfl rfl ?_
 refine AaN ?_
 refine AaI ?_
 refine Aab rfl ?_
 refine AaF rfl ?_
 refine Aaa (a:=.obj rb) (by rfl) (by rfl) ?_
 refine Aaa (a:=.int r0) (by rfl) (by rfl) ?_
 refine g_list (a:=Aaw (rl r0)) hrb3 (Int.natCast_nonneg _) (Int.ofNat_lt.mpr (ln1 (.c 1 (.p 0 1) (.n 3) (.g 0 (.p 0 1) (.n 1000))) rfl hr0)) (hrow r0 hr0) ?_
 refine Aaf ⟨lnk rfl,fun a1 ha1=>?_⟩
 have na1:rb≠a1:=fun e=>by subst e;rw[hrb3] at ha1;cases ha1
 refine AaN ?_
 refine AaI ?_
 refine Aab rfl ?_
 refine AaF rfl ?_
 refine Aaa (a:=.obj rb) (by rfl) (by rfl) ?_
 refine AaN ?_
 refine AaN ?_
 refine Aaa (a:=.int r0) (by rfl) (by rfl) ?_
 refine Aae (AdO ?_)
 refine Aae (Ah8 (by decide) ?_)
 rw[show((r0:Int)+1) % 3=(((r0+1) % 3:Nat):Int) by simp]
 refine g_list (a:=Aaw (rl ((r0+1) % 3))) (by rw[Aai _ _ na1];exact hrb3) (Int.natCast_nonneg _) (Int.ofNat_lt.mpr (Nat.lt_trans (Nat.mod_lt _ (by decide)) (by decide))) (hrow _ (Nat.mod_lt _ (by exact lnk rfl))) ?_
 refine Aaf ⟨lnk rfl,fun a2 ha2=>?_⟩
 have na12:a1≠a2:=fun e=>by subst e;rw[Aac] at ha2;cases ha2
 refine e_g P.O (by rfl) P.g_law_next (P.keep 20 (by decide)) ?_
 refine Aab rfl (Aaa (a:=.obj h) (by rfl) (by rfl) ?_)
 refine Aab rfl (Aae ?_)
 have K4:Keep σ₃ (upd (upd σ₃ a1 (.list [Aaw (rl r0)])) a2 (.list [Aaw (rl ((r0+1) % 3))])):=((Keep.refl σ₃).upd (.inl ha1) _).upd (.inl ha2) _
 have hl1:upd (upd σ₃ a1 (.list [Aaw (rl r0)])) a2 (.list [Aaw (rl ((r0+1) % 3))]) a1=some (.list [Aaw (rl r0)]):=by rw[Aai _ _ na12];exact Aac _ _ _
 have hl2:upd (upd σ₃ a1 (.list [Aaw (rl r0)])) a2 (.list [Aaw (rl ((r0+1) % 3))]) a2=some (.list [Aaw (rl ((r0+1) % 3))]):=Aac _ _ _
 generalize upd (upd σ₃ a1 (.list [Aaw (rl r0)])) a2 (.list [Aaw (rl ((r0+1) % 3))])=σ₄ at K4 hl1 hl2
 have hk:∀ {s s':AH},Keep s s'→IsHand s h→IsHand s' h:=fun k ⟨cb,ns,sp,st,H⟩=>⟨cb,ns,sp,st,k _ _ H.d,k _ _ H.c,H.len,H.lt⟩
 have hkt:∀ {s s':AH} {a:Addr} {ts:List Sd},Keep s s'→Acj s a ts→Acj s' a ts:=fun k ⟨es,n,h⟩=>⟨es,n,k _ _ h⟩
 have hh4:=hk K4 hh3
 refine Aaf ((Abv (d:=0) (many:=2) P hh4 (by exact lnk rfl) (by exact lnk rfl)).use rfl ?_)
 rintro v σ₅ ⟨r1,rfl,hr1,K5,hh5⟩
 refine Ah7 (K5 _ _ (ne hl2 hh4) hl2) (lnk rfl) (by exact Nat.le_trans (Nat.le_of_lt hr1) (lnk rfl)) fun a3 ha3=>?_
 have e3:(List.replicate r1 [Aaw (rl ((r0+1) % 3))]).flatten=(Ae5 r1 (rl ((r0+1) % 3))).map Aaw:=by
  have:=lt2 hr1
  rcases this with rfl | rfl<;>rfl
 rw[e3]
 have hl15:=K5 _ _ (ne hl1 hh4) hl1
 have na13:a1≠a3:=fun e=>by subst e;rw[hl15] at ha3;cases ha3
 refine Ab4 (by rw[Aai _ _ na13];exact hl15) (Aac _ _ _) (by unfold Ae5;split<;>simp) fun kb hkb=>?_
 have K6:Keep σ₅ (upd (upd σ₅ a3 (.list ((Ae5 r1 (rl ((r0+1) % 3))).map Aaw))) kb (.list ([Aaw (rl r0)]++(Ae5 r1 (rl ((r0+1) % 3))).map Aaw))):=((Keep.refl σ₅).upd (.inl ha3) _).upd (.inl hkb) _
 have hk6:upd (upd σ₅ a3 (.list ((Ae5 r1 (rl ((r0+1) % 3))).map Aaw))) kb (.list ([Aaw (rl r0)]++(Ae5 r1 (rl ((r0+1) % 3))).map Aaw)) kb=some (.list ((ksOf r0 r1).map Aaw)):=by rw[Aac];rfl
 generalize upd (upd σ₅ a3 (.list ((Ae5 r1 (rl ((r0+1) % 3))).map Aaw))) kb (.list ([Aaw (rl r0)]++(Ae5 r1 (rl ((r0+1) % 3))).map Aaw))=σ₆ at K6 hk6
 have hh6:=hk K6 hh5
 have hlb6:=K6 _ _ (K5 _ _ (ne (K4 _ _ hlb3) hh4) (K4 _ _ hlb3))
 have t06:=hkt K6 (kx K5 hh4 (hkt K4 t03))
 have t16:=hkt K6 (kx K5 hh4 (hkt K4 t13))
 have t26:=hkt K6 (kx K5 hh4 (hkt K4 t23))
 refine Aah ?_;refine AcA ?_;intro V
 refine Aad ?_
 refine Aak rfl rfl ?_
 refine AaF rfl ?_
 refine Aaa (a:=.obj lb) (by rfl) (by rfl) ?_
 refine e_g P.O (by rfl) P.g_law_next (P.keep 20 (by decide)) ?_
 refine Aag (.loc (a:=.obj h) (by rfl) (by rfl) (.int .nil)) ((Abv (d:=0) (many:=3) P hh6 (by exact lnk rfl) (by exact lnk rfl)).use rfl ?_)
 rintro v σ₇ ⟨r2,rfl,hr2,K7,hh7⟩
 obtain⟨tb,htb,htold⟩:∃ tb,([AV.obj d0,.obj d1,.obj d2]:List AV)[((r2:Nat):Int).toNat]?=some (.obj tb)∧Acj σ₇ tb (tl r2):=by
  rw[Int.toNat_natCast]
  have:=lt3 hr2
  rcases this with rfl | rfl | rfl
  ·exact⟨d0,rfl,kx K7 hh6 t06⟩
  ·exact⟨d1,rfl,kx K7 hh6 t16⟩
  ·exact⟨d2,rfl,kx K7 hh6 t26⟩
 refine g_list (K7 _ _ (ne hlb6 hh6) hlb6) (Int.natCast_nonneg _) (Int.ofNat_lt.mpr (ln1 (.c 1 (.p 0 1) (.n 3) (.g 0 (.p 0 1) (.n 1000))) rfl hr2)) htb ?_
 refine Aah ?_;refine AcA ?_;intro V
 have hk7:=K7 _ _ (ne hk6 hh6) hk6
 have LK:=lawK r0 r1 r2 hr0 hr1 hr2
 generalize hks:ksOf r0 r1=ks at hk7 LK
 generalize tl r2=ts at htold LK
 have kl:=LK.kl
 have tl':=LK.tl
 obtain⟨tes,tn',htc⟩:=htold
 refine Aad ?_
 refine Aak rfl rfl ?_
 refine AaN ?_
 refine AaT rfl (cl:=[]) ⟨by rfl,by rfl,by simp,by rfl,by decide,by rfl,by decide⟩ ?_
 refine AaC ?_
 refine Aaa (a:=.obj kb) (by rfl) (by rfl) ?_
 refine⟨kb,_,rfl,hk7,by rw[List.length_map];exact Nat.le_trans kl (lnk rfl),?_⟩
 refine⟨(R33a σ₇ ks),⟨rfl,[],ks,rfl,rfl,rfl⟩,?_,?_⟩
 ·rintro C y xs ys σ' hsat ⟨rfl,dn,td,hx,rfl,hd⟩
  obtain⟨s,td⟩:=Abb hx
  have hsk:s.sk.kind="rule":=by have:=LK.kt s (by rw[← hd];simp);cases s<;>first | rfl | cases this
  refine AaY rfl (AcU ?_)
  refine AaN ?_
  refine Aam ?_
  refine Aag (.str .nil) ⟨lnk rfl,?_⟩
  refine Aaa (a:=Aaw s) (by rfl) (by rfl) ?_
  refine AaW (lnk rfl) ?_
  exact⟨hsat,rfl,dn++[s],td,rfl,by simp[Sd.av,hsk],by simp[← hd]⟩
 ·rintro ys σ' hsat ⟨rfl,dn,td,hx,rfl,hd⟩ hlen a4 ha4
  obtain rfl:td=[]:=Adk hx
  rw[List.append_nil] at hd
  subst hd
  have K8:Keep σ' (upd σ' a4 (.list (dn.map Sd.av))):=(Keep.refl σ').upd (.inl ha4) _
  have h48:upd σ' a4 (.list (dn.map Sd.av)) a4=some (.list (dn.map Sd.av)):=Aac _ _ _
  generalize upd σ' a4 (.list (dn.map Sd.av))=σ₈ at K8 h48
  have htc8:=K8 _ _ htc
  refine AaT rfl (cl:=[("told",L+1)]) ⟨by rfl,by rfl,by simp,by rfl,by decide,by rfl,by decide⟩ ?_
  refine ai_dict ?_
  refine AaD (a:=.obj tb) (by rfl) (by rfl) ?_
  refine⟨tb,_,_,_,rfl,htc8,by simp[Abw];exact Nat.le_trans tl' (lnk rfl),?_⟩
  refine⟨(R33b σ₈ ts),⟨rfl,[],ts,by simp[Abw],rfl,rfl⟩,?_,?_⟩
  ·rintro C y xs ys σ'' hsat2 ⟨rfl,d2',td2,hx2,rfl,hd2⟩
   obtain⟨s,td2⟩:=Abb hx2
   have hts:ts=[s]∧d2'=[]∧td2=[]:=by
    have hl:=congrArg List.length hd2
    simp at hl
    have e1:d2'=[]:=List.length_eq_zero_iff.mp (z1 tl' hl).1
    have e2:td2=[]:=List.length_eq_zero_iff.mp (z1 tl' hl).2
    subst e1 e2
    exact⟨hd2.symm,rfl,rfl⟩
   obtain⟨rfl,rfl,rfl⟩:=hts
   have hst:=LK.tt s (by simp)
   have hkind:s.sk.kind="told":=by cases s<;>first | rfl | cases hst
   have lk:look (Abw [s]) (.str s.sk.name)=some (.tup [s.left.av,s.right.av]):=by simp[Abw,Abn]
   have fk:KeyFit (Abw [s]) (.str s.sk.name):=.inl ⟨rfl,fun kv h=>by simp[Abw] at h;subst h;rfl⟩
   refine AaY rfl (AcU ?_)
   refine AaN ?_
   refine Aam ?_
   refine Aag (.str (.loc (a:=.str s.sk.name) (by rfl) (by rfl) .nil)) ⟨lnk rfl,?_⟩
   refine AaF rfl ?_
   refine AaD (a:=.obj tb) (by rfl) (by rfl) ?_
   refine Aaa (a:=.str s.sk.name) (by rfl) (by rfl) ?_
   refine AgO htc8 fk lk ?_
   refine AaW (lnk rfl) ?_
   exact⟨hsat2,rfl,[s],[],rfl,by simp[Sd.av,hkind],rfl⟩
  ·rintro ys σ'' hsat2 ⟨rfl,d2',td2,hx2,rfl,hd2⟩ hlen2 a5 ha5
   obtain rfl:td2=[]:=Adk hx2
   rw[List.append_nil] at hd2
   subst hd2
   have n45:a4≠a5:=fun e=>by subst e;rw[h48] at ha5;cases ha5
   refine Ab4 (by rw[Aai _ _ n45];exact h48) (Aac _ _ _) (by simp;exact ln2 (.c 1 (.v 0) (.n 2) (.c 1 (.v 1) (.n 1) (.g 0 (.b 0 1) (.n 1000)))) rfl kl tl') fun sb hsb=>?_
   have K9:Keep σ'' (upd (upd σ'' a5 (.list (d2'.map Sd.av))) sb (.list (dn.map Sd.av++d2'.map Sd.av))):=((Keep.refl σ'').upd (.inl ha5) _).upd (.inl hsb) _
   have hs9:upd (upd σ'' a5 (.list (d2'.map Sd.av))) sb (.list (dn.map Sd.av++d2'.map Sd.av)) sb=some (.list ((dn++d2').map Sd.av)):=by rw[Aac,List.map_append]
   generalize upd (upd σ'' a5 (.list (d2'.map Sd.av))) sb (.list (dn.map Sd.av++d2'.map Sd.av))=σ₉ at K9 hs9
   have K79:=K8.trans K9
   refine Aah ?_;refine AcA ?_;intro V
   refine Aad ?_
   refine Aak rfl rfl ?_
   refine e_g P.O (by rfl) P.g_Seeker (P.keep 16 (by decide)) ?_
   refine Aab rfl ?_
   refine AaT rfl (cl:=[]) ⟨by rfl,by rfl,by simp,by rfl,by decide,by rfl,by decide⟩ ?_
   refine AaC ?_
   refine Aaa (a:=.obj kb) (by rfl) (by rfl) ?_
   refine⟨kb,_,rfl,K79 _ _ hk7,by rw[List.length_map];exact Nat.le_trans kl (lnk rfl),?_⟩
   refine⟨(R33c σ₉ P dn),⟨Keep.refl _,[],dn,rfl,rfl,rfl⟩,?_,?_⟩
   ·rintro C y xs ys s1 hsat3 ⟨k3,d3,td3,hx3,hA,hd3⟩
    obtain⟨s,td3⟩:=Abb hx3
    refine al_n3 rfl rfl rfl (AcU ?_)
    refine e_g P.O (by rfl) P.g_Rule (P.keep 18 (by decide)) ?_
    refine Aab rfl (Aaa (a:=.str s.sk.name) (by rfl) (by rfl) ?_)
    refine Aab rfl (Aaa (a:=s.left.av) (by rfl) (by rfl) ?_)
    refine Aab rfl (Aaa (a:=s.right.av) (by rfl) (by rfl) ?_)
    refine Aab rfl (Aam (Aaf ⟨lnk rfl,?_⟩))
    refine Aaf ((AC.less (rule_AC (d:=0) P s) (ln1 (.g 0 (.a (.n 0) (.n 7)) (.p 0 20)) rfl)).mono ?_)
    rintro v s2 ⟨k4,hR⟩
    exact⟨fun p hp=>by rw[List.mem_singleton.mp hp];exact k4 _ _ (k3 _ _ (K79 _ _ hk7)),k3.trans k4,d3++[s],td3,rfl,(hA.keep k4).snoc hR,by simp[← hd3]⟩
   ·rintro ys s1 hsat3 ⟨k3,d3,td3,hx3,hA,hd3⟩ hlen3 a6 ha6
    obtain rfl:td3=[]:=Adk hx3
    rw[List.append_nil] at hd3
    subst hd3
    have K10:Keep s1 (upd s1 a6 (.list ys)):=(Keep.refl s1).upd (.inl ha6) _
    refine Aab rfl (AaD (a:=.obj tb) (by rfl) (by rfl) ?_)
    have ht10:Acj (upd s1 a6 (.list ys)) tb d2':=⟨_,_,K10 _ _ (k3 _ _ (K9 _ _ htc8))⟩
    refine Aaf ((AC.less (Ais (d:=0) P (Aac _ _ _) (hA.keep K10) kl tl' LK.kt LK.tt ht10) (ln1 (.g 0 (.a (.n 0) (.n 7)) (.p 0 20)) rfl)).mono ?_)
    rintro v s2 ⟨x,rfl,K11,hSk⟩
    refine Aah ?_;refine AcA ?_;intro V
    have KA:Keep σ₉ s2:=(k3.trans K10).trans K11
    have KB:Keep σ' s2:=(K79.trans KA)
    refine K d3 d2' h kb tb sb x _ s2 ⟨by rfl,by rfl,by rfl,by rfl,by rfl,hk KB hh7,KB _ _ hk7,KA _ _ hs9,hSk⟩ (hkt K11 ht10) LK (Classical.em _)
end
end Pq
namespace Pq
variable[Own]
theorem LawI.go{B:Aaj}{P:Prg B}{ks ts:List Sd}{hb kb tb sb x:Addr}{vars vars':Vars}{σ σ':AH}(I:LawI P ks ts hb kb tb sb x vars σ)(k:KeepX hb σ σ')(h:IsHand σ' hb)
  (v1:vars' "hand"=some (.obj hb)) (v2:vars' "kept"=some (.obj kb)) (v3:vars' "told"=some (.obj tb)) (v4:vars' "sides"=some (.obj sb)) (v5:vars' "seeker"=some (.obj x)):LawI P ks ts hb kb tb sb x vars' σ':=by
 obtain⟨cb,ns,sp,st,H⟩:=I.h
 refine⟨v1,v2,v3,v4,v5,h,k _ _ (fun e=>?_) I.k,k _ _ (fun e=>?_) I.s,I.sk.keepX H.d k⟩
 ·have:=I.k;rw[e,H.d] at this;cases this
 ·have:=I.s;rw[e,H.d] at this;cases this
theorem IsHand.keep{σ σ':AH}{h:Addr}(k:Keep σ σ')(H:IsHand σ h):IsHand σ' h:=by
 obtain⟨cb,ns,sp,st,H⟩:=H
 exact⟨cb,ns,sp,st,k _ _ H.d,k _ _ H.c,H.len,H.lt⟩
section
variable{B:Aaj}{d:Nat}{σ:AH}
set_option maxHeartbeats 2000000 in
theorem law_seg2(P:Prg B){ks ts:List Sd}{hb kb tb sb x:Addr}{vars:Vars}(I:LawI P ks ts hb kb tb sb x vars σ)(LK:LawK ks ts){q:Str}{L f:Addr}{cd:Value}{Q:AFl→Vars→AH→Prop}
  (K:∀ (t u:Tm) vars σ',LawI P ks ts hb kb tb sb x vars σ'→vars "t"=some t.av→vars "u"=some u.av→InS (ks++ts) t→InS (ks++ts) u→AX B (d+20) (LE q L f cd) vars (execs (LB.drop 10) (LE q L f cd)) σ' Q) :
  AX B (d+20) (LE q L f cd) vars (execs (LB.drop 6) (LE q L f cd)) σ Q:=by
 have hkl:(ks++ts).length≤3:=Nat.le_trans (Nat.le_of_eq List.length_append) (Nat.add_le_add LK.kl LK.tl)
 refine Aad ?_
 refine Aak rfl rfl ?_
 refine e_g P.O (by rfl) P.g_law_term (P.keep 23 (by decide)) ?_
 refine Aab rfl (Aaa (a:=.obj hb) (by rfl) I.v1 ?_)
 refine Aab rfl ?_
 refine AaN ?_
 refine Aae ?_
 refine e_g P.O (by rfl) P.g_law_next (P.keep 20 (by decide)) ?_
 refine Aag (.loc (a:=.obj hb) (by rfl) I.v1 (.int .nil)) ((Abv (d:=0) (many:=2) P I.h (by exact lnk rfl) (by exact lnk rfl)).use rfl ?_)
 rintro v σ₁ ⟨r,rfl,hr,K1,h1⟩
 refine AdO ?_
 rw[show((2:Int)+(r:Int))=((2+r:Nat):Int) from(Int.natCast_add 2 r).symm]
 refine Aaf ((AC.less (Aik P (2+r) σ₁ h1 (ln1 (.g 0 (.n 1) (.a (.n 2) (.v 0))) rfl) (ln1 (.c 1 (.p 0 1) (.n 2) (.g 0 (.a (.n 2) (.v 0)) (.n 3))) rfl hr) (d:=0)).ac (ln2 (.c 1 (.p 0 1) (.n 2) (.g 0 (.a (.a (.n 0) (.a (.n 2) (.v 0))) (.n 1)) (.p 1 20))) rfl hr)).mono ?_)
 rintro v σ₂ ⟨t0,rfl,hg0,hw0,K2,h2⟩
 refine Aah ?_;refine AcA ?_;intro V
 refine Aad ?_
 refine Aak rfl rfl ?_
 refine e_if ?_
 refine Aax rfl ?_
 refine e_g P.O (by rfl) P.g_law_next (P.keep 20 (by decide)) ?_
 refine Aag (.loc (a:=.obj hb) (by rfl) (by exact I.v1) (.int .nil)) ((Abv (d:=0) (many:=4) P h2 (by exact lnk rfl) (by exact lnk rfl)).use rfl ?_)
 rintro v σ₃ ⟨r2,rfl,hr2,K3,h3⟩
 refine Aae (AbU ?_)
 have K13:=(K1.trans K2).trans K3
 have rest:∀ t:Tm,InS (ks++ts) t→goOn B (d+20) (LE q L f cd) (LB.drop 8) Q .next (Abl (Abl vars "t" t0.av) "t" t.av) σ₃:=by
  intro t hti
  refine Aah ?_;refine AcA ?_;intro V
  refine Aad ?_
  refine Aak rfl rfl ?_
  refine e_g P.O (by rfl) P.g_law_term (P.keep 23 (by decide)) ?_
  refine Aab rfl (Aaa (a:=.obj hb) (by rfl) (by exact I.v1) ?_)
  refine Aab rfl ?_
  refine AaN ?_
  refine Aae ?_
  refine e_g P.O (by rfl) P.g_law_next (P.keep 20 (by decide)) ?_
  refine Aag (.loc (a:=.obj hb) (by rfl) (by exact I.v1) (.int .nil)) ((Abv (d:=0) (many:=2) P h3 (by exact lnk rfl) (by exact lnk rfl)).use rfl ?_)
  rintro v σ₄ ⟨r3,rfl,hr3,K4,h4⟩
  refine AdO ?_
  rw[show((2:Int)+(r3:Int))=((2+r3:Nat):Int) from(Int.natCast_add 2 r3).symm]
  refine Aaf ((AC.less (Aik P (2+r3) σ₄ h4 (ln1 (.g 0 (.n 1) (.a (.n 2) (.v 0))) rfl) (ln1 (.c 1 (.p 0 1) (.n 2) (.g 0 (.a (.n 2) (.v 0)) (.n 3))) rfl hr3) (d:=0)).ac (ln2 (.c 1 (.p 0 1) (.n 2) (.g 0 (.a (.a (.n 0) (.a (.n 2) (.v 0))) (.n 1)) (.p 1 20))) rfl hr3)).mono ?_)
  rintro v σ₅ ⟨u0,rfl,hgu,hwu,K5,h5⟩
  have hui:InS (ks++ts) u0:=AiS LK.ok hgu (ln2 (.c 1 (.p 0 1) (.n 2) (.e 1 0 (.v 1) (.a (.n 2) (.v 0)) (.g 0 (.v 1) (.n 3)))) rfl hr3 hwu)
  refine Aah ?_;refine AcA ?_;intro V
  refine Aad ?_
  refine AbV ?_
  refine Aax rfl ?_
  refine e_g P.O (by rfl) P.g_law_next (P.keep 20 (by decide)) ?_
  refine Aag (.loc (a:=.obj hb) (by rfl) (by exact I.v1) (.int .nil)) ((Abv (d:=0) (many:=4) P h5 (by exact lnk rfl) (by exact lnk rfl)).use rfl ?_)
  rintro v σ₆ ⟨r4,rfl,hr4,K6,h6⟩
  refine Aae (AbD ?_)
  have K16:=((K13.trans K4).trans K5).trans K6
  by_cases hz:0<r4
  ·refine Abh (by simp;exact hz) ?_
   refine Aad ?_
   refine Aak rfl rfl ?_
   refine AaD (a:=t.av) (by rfl) (by rfl) ?_
   refine Aah ?_;refine AcA ?_;intro V
   refine Aad ?_
   refine Abc rfl ?_
   refine AhA P.O (by rfl) P.g_range ?_
   refine Aab rfl ?_
   refine e_g P.O (by rfl) P.g_law_next (P.keep 20 (by decide)) ?_
   refine Aag (.loc (a:=.obj hb) (by rfl) (by exact I.v1) (.int .nil)) ((Abv (d:=0) (many:=4) P h6 (by exact lnk rfl) (by exact lnk rfl)).use rfl ?_)
   rintro v σ₇ ⟨r5,rfl,hr5,K7,h7⟩
   refine Aaf ⟨0,r5,.inr ⟨rfl,rfl⟩,by exact lnk rfl,by exact Nat.le_trans (Nat.le_of_lt hr5) (lnk rfl),?_⟩
   refine⟨fun xs vars' σ'=>(∀ y∈xs,∃ i,y=AV.int i)∧LawI P ks ts hb kb tb sb x vars' σ'∧vars' "t"=some t.av∧∃ u:Tm,vars' "u"=some u.av∧InS (ks++ts) u,
    ⟨?_,I.go (K16.trans K7) h7 (by exact I.v1) (by exact I.v2) (by exact I.v3) (by exact I.v4) (by exact I.v5),by rfl,t,by rfl,hti⟩,?_,?_⟩
   ·intro y hy
    unfold AcW at hy
    obtain⟨k,_,rfl⟩:=List.mem_map.mp hy
    exact⟨_,rfl⟩
   ·rintro y xs vars' σ' hsat ⟨hint,I',hvt,u,hvu,hui⟩
    have huw:=hui.w
    have hud:=u.depth_w
    have hup:=u.parts_w
    refine AaA rfl ?_
    refine Aad ?_
    refine Aak rfl rfl ?_
    refine e_g P.O (by rfl) P.g_law_near (P.keep 28 (by decide)) ?_
    refine Aag (.loc (a:=.obj sb) (by rfl) (by exact I'.v4) (.loc (a:=u.av) (by rfl) (by exact hvu) .nil)) ((Ae8 (d:=0) P 4 u σ' (by exact Nat.le_trans hud huw) huw hkl I'.s).use rfl ?_)
    rintro v σ₈ ⟨nb,rfl,hnb,K8,hnl⟩
    have h8:=I'.h.keep K8
    refine Aah ?_;refine AcA ?_;intro V
    refine Aad ?_
    refine Aak rfl rfl ?_
    refine e_if ?_
    refine Aax rfl ?_
    refine Aaa (a:=.obj nb) (by rfl) (by rfl) ?_
    refine AaI (Aaf ⟨lnk rfl,fun zb hzb=>?_⟩)
    have K9:Keep σ₈ (upd σ₈ zb (.list [])):=(Keep.refl σ₈).upd (.inl hzb) _
    have hn9:=K9 _ _ hnl
    refine Ade hn9 (Aac _ _ _) ?_
    generalize upd σ₈ zb (.list [])=σ₉ at K9 hn9
    have h9:=h8.keep K9
    have hxs:∀ y∈xs,∃ i,y=AV.int i:=fun y hy=>hint y (.tail _ hy)
    by_cases hne:Aas (ks++ts) u=[]
    ·refine AaV (by simp[hne]) ?_
     refine Aaa (a:=u.av) (by rfl) (by exact hvu) ?_
     refine Aaq ⟨(fun jj h=>nomatch h),hxs,I'.go (K8.trans K9).x h9 (by exact I'.v1) (by exact I'.v2) (by exact I'.v3) (by exact I'.v4) (by exact I'.v5),by exact hvt,u,by rfl,hui⟩
    ·refine Abh (by simp[hne]) ?_
     have hnl1:=AdU (ks++ts) u
     have hnl2:(Aas (ks++ts) u).length≤42:=by
      have:2 * (ks++ts).length * u.parts.length≤6 * 7:=Nat.mul_le_mul (ln1 (.c 2 (.v 0) (.n 3) (.g 0 (.m 2 (.v 0)) (.n 6))) rfl hkl) (ln2 (.c 2 (.v 0) (.n 4) (.c 1 (.p 1 1) (.m 2 (.v 0)) (.g 0 (.v 1) (.n 7)))) rfl huw hup)
      exact ln2 (.c 1 (.v 0) (.v 1) (.c 1 (.v 1) (.m 6 (.n 7)) (.g 0 (.v 0) (.n 42)))) rfl hnl1 this
     have hpos:1≤(Aas (ks++ts) u).length:=List.length_pos_iff.mpr hne
     refine AaF rfl ?_
     refine AaF rfl ?_
     refine Aaa (a:=.obj nb) (by rfl) (by rfl) ?_
     refine e_g P.O (by rfl) P.g_law_next (P.keep 20 (by decide)) ?_
     refine Aab rfl (Aaa (a:=.obj hb) (by rfl) (by exact I'.v1) ?_)
     refine Aab rfl ?_
     refine e_g P.O (by rfl) P.g_len rfl ?_
     refine Aag (.loc (a:=.obj nb) (by rfl) (by rfl) .nil) (Abo hn9 (by rw[List.length_map];exact Nat.le_trans hnl2 (lnk rfl)) ?_)
     rw[List.length_map]
     refine Aaf ((Abv (d:=0) (many:=(Aas (ks++ts) u).length) P h9 (by exact hpos) (by exact Nat.le_trans hnl2 (lnk rfl))).use rfl ?_)
     rintro v σ10 ⟨r6,rfl,hr6,K10,h10⟩
     have hnh:nb≠hb:=fun e=>by subst e;obtain⟨_,_,_,_,H⟩:=h9;rw[H.d] at hn9;cases hn9
     have hel:((Aas (ks++ts) u).map AcF)[((r6:Nat):Int).toNat]?=some (AcF (Aas (ks++ts) u)[r6]):=by rw[Int.toNat_natCast,List.getElem?_map,List.getElem?_eq_getElem hr6];rfl
     refine g_list (K10 _ _ hnh hn9) (Int.natCast_nonneg _) (Int.ofNat_lt.mpr (ln2 (.c 1 (.v 0) (.n 42) (.c 1 (.p 1 1) (.v 0) (.g 0 (.p 1 1) (.n 1000)))) rfl hnl2 hr6)) hel ?_
     refine Aae ?_
     refine Abu (a:=(Aas (ks++ts) u)[r6].2.av) (by decide) (lnk rfl) (by rfl) ?_
     refine Aaq ⟨(fun jj h=>nomatch h),hxs,I'.go ((K8.trans K9).x.trans K10) h10 (by exact I'.v1) (by exact I'.v2) (by exact I'.v3) (by exact I'.v4) (by exact I'.v5),by exact hvt,_,by rfl,hui.near (List.getElem_mem hr6)⟩
   ·rintro vars' σ' _ ⟨hint,I',hvt,u,hvu,hui⟩
    exact Aaq (Aah (K t u _ _ I' hvt hvu hti hui))
  ·refine AaV (by simp;exact Nat.le_antisymm (ln1 (.c 1 (.v 0) (.n 0) (.g 0 (.v 0) (.n 0))) rfl (Nat.le_of_not_lt hz)) (ln1 (.g 0 (.n 0) (.v 0)) rfl)) ?_
   refine AaK (Aah ?_);refine AcA ?_;intro V
   exact K t u0 _ _ (I.go K16 h6 (by exact I.v1) (by exact I.v2) (by exact I.v3) (by exact I.v4) (by exact I.v5)) (by rfl) (by rfl) hti hui
 by_cases e:r2=3
 ·refine Abh (by simp[e]) ?_
  refine Aam ?_
  refine Aag (.str (.cell (a:=t0.av) (by rfl) (by rfl) .nil)) ⟨lnk rfl,?_⟩
  exact rest (.un .f t0) (inS_un LK.ok hg0 (ln2 (.c 1 (.p 0 1) (.n 2) (.e 1 0 (.v 1) (.a (.n 2) (.v 0)) (.g 0 (.v 1) (.n 3)))) rfl hr hw0))
 ·refine AaV (by simp;exact fun z=>e (Int.ofNat.inj z)) ?_
  refine AaD (a:=t0.av) (by rfl) (by rfl) ?_
  exact rest t0 (AiS LK.ok hg0 (ln2 (.c 1 (.p 0 1) (.n 2) (.e 1 0 (.v 1) (.a (.n 2) (.v 0)) (.g 0 (.v 1) (.n 3)))) rfl hr hw0))
end
end Pq
namespace Pq
variable[Own]
noncomputable def StepsR(sds:List Sd)(t u:Tm)(v:AV)(σ:AH):Prop:=
 (v=.none∧∀ n,¬ Rch sds n t u)∨∃ b l,v=.obj b∧σ b=some (.list (l.map Step.av))∧Short sds t u l∧l.length≤200
theorem WayR.steps{sds:List Sd}{t u:Tm}{σ σ':AH}{v:AV}(h:WayR sds t u σ v σ'):StepsR sds t u v σ':=by
 rcases h with h | ⟨b,l,e,_,h1,h2,h3⟩
 ·exact .inl h
 ·exact .inr ⟨b,l,e,h1,h2,h3⟩
theorem StepsR.keep{sds:List Sd}{t u:Tm}{σ σ':AH}{v:AV}(h:StepsR sds t u v σ)(k:Keep σ σ'):StepsR sds t u v σ':=by
 rcases h with h | ⟨b,l,e,h1,h2,h3⟩
 ·exact .inl h
 ·exact .inr ⟨b,l,e,k _ _ h1,h2,h3⟩
structure FarR(sds:List Sd)(t:Tm)(L:List (Tm×Nat)):Prop where
 dist:∀ e∈L,Dist sds t e.1 e.2∧e.1.w≤4
 all:∀ m n,Rch sds n t m→m∈L.map (·.1)
 len:L.length≤63
section
variable{B:Aaj}{d:Nat}{σ:AH}
theorem Ag3(P:Prg B){x:Addr}{sds:List Sd}{t u:Tm}{most:Nat}(hS:IsSeeker P σ x sds (AgN sds))(hn:sds.length≤3)(ht:InS sds t)(hu:InS sds u)(hmost:t≠u→63≤most):
  AC B (d+12) (.ref (P.m 16 5)) [.obj x,t.av,u.av,.int most] σ fun v σ'=>Keep σ σ'∧StepsR sds t u v σ':=by
 obtain⟨S1,c1,m1,l1⟩:=ht
 obtain⟨S2,c2,m2,l2⟩:=hu
 exact((way_AK (d:=d) P hS hn AeK c1 c2 m1 m2 l1 l2 (fun h=>by have:=hmost h;exact⟨ln2 (.c 1 (.p 0 1) (.n 64) (.c 1 (.n 63) (.v 1) (.g 0 (.v 0) (.v 1)))) rfl l1 this,.inl (ln2 (.c 1 (.p 0 1) (.n 64) (.c 1 (.n 63) (.v 1) (.g 0 (.v 0) (.v 1)))) rfl l2 this)⟩)).ac).mono fun v σ' ⟨a,b⟩=>⟨a,b.steps⟩
set_option maxHeartbeats 2000000 in
theorem law_seg3(P:Prg B){ks ts:List Sd}{hb kb tb sb x:Addr}{vars:Vars}{t u:Tm}(I:LawI P ks ts hb kb tb sb x vars σ)(LK:LawK ks ts)(hvt:vars "t"=some t.av)(hvu:vars "u"=some u.av)(hti:InS (ks++ts) t)(hui:InS (ks++ts) u)
  {q:Str} {L f:Addr} {cd:Value} {Q:AFl→Vars→AH→Prop}
  (K:∀ (fb:Addr) (F:List (Tm×Nat)) (w:AV) vars σ',LawI P ks ts hb kb tb sb x vars σ'→vars "t"=some t.av→vars "u"=some u.av→vars "far"=some (.obj fb)→vars "steps"=some w→σ' fb=some (.dict (F.map fAV))→FarR (ks++ts) t F→StepsR (ks++ts) t u w σ' →
   AX B (d+20) (LE q L f cd) vars (execs (LB.drop 15) (LE q L f cd)) σ' Q) :
  AX B (d+20) (LE q L f cd) vars (execs (LB.drop 10) (LE q L f cd)) σ Q:=by
 have hkl:(ks++ts).length≤3:=Nat.le_trans (Nat.le_of_eq List.length_append) (Nat.add_le_add LK.kl LK.tl)
 have htw:=hti.w
 have huw:=hui.w
 have hkk:∀ {σ':AH} {vars':Vars},Keep σ σ'→(vars' "hand"=some (.obj hb))→(vars' "kept"=some (.obj kb))→(vars' "told"=some (.obj tb))→(vars' "sides"=some (.obj sb))→(vars' "seeker"=some (.obj x))→LawI P ks ts hb kb tb sb x vars' σ':=fun k a1 a2 a3 a4 a5=>I.go k.x (I.h.keep k) a1 a2 a3 a4 a5
 refine Aad ?_
 refine Aak rfl rfl ?_
 refine e_g P.O (by rfl) P.g_law_far (P.keep 29 (by decide)) ?_
 refine Aab rfl (Aaa (a:=.obj sb) (by rfl) I.v4 ?_)
 refine Aab rfl (AaD (a:=t.av) (by rfl) hvt ?_)
 obtain⟨St,cS,mS,lS⟩:=id hti
 refine Aaf ((far_AK (d:=0) P I.s hkl cS mS lS).use rfl ?_)
 rintro v σ₁ ⟨fb,F,rfl,hfb,K1,hF,hFn,hFl,hFd,hFa⟩
 have FR:FarR (ks++ts) t F:=⟨hFd,hFa,ln2 (.c 1 (.p 0 1) (.n 64) (.c 1 (.v 1) (.v 0) (.g 0 (.v 1) (.n 63)))) rfl lS hFl⟩
 refine Aah ?_;refine AcA ?_;intro V
 refine Aad ?_
 refine Aak rfl rfl ?_
 refine AaM P.O rfl rfl ?_
 refine Aaa (a:=.obj x) (by rfl) (by exact I.v5) ?_
 obtain⟨dx,sb',hx1,hx2,hx3⟩:=I.sk.keep K1
 refine⟨_,Aa1 P.O hx1 hx2 (P.meth ("way",5) (by decide)) (by rfl),P.mkeep 5 (by decide),rfl,?_⟩
 refine Aag (.cell (a:=t.av) (by rfl) (by exact hvt) (.loc (a:=u.av) (by rfl) (by exact hvu) (.int .nil))) ((AC.less (Ag3 (d:=0) (most:=1000) P (I.sk.keep K1) hkl hti hui (fun jj=>by exact lnk rfl)) (ln1 (.g 0 (.a (.n 0) (.n 12)) (.p 0 20)) rfl)).mono ?_)
 rintro w σ₂ ⟨K2,hW⟩
 have K12:=K1.trans K2
 refine Aah ?_;refine AcA ?_;intro V
 have hF2:=K2 _ _ hF
 have hfit:KeyFit (F.map fAV) u.av:=fit_f (fun e he=>(hFd e he).2) huw
 have hiff:((look F u).isSome=true)↔∃ n,Rch (ks++ts) n t u:=by
  constructor
  ·intro h
   obtain⟨n,hn⟩:=Option.isSome_iff_exists.mp h
   exact⟨n,(hFd _ (Ac9 hn)).1.1⟩
  ·rintro⟨n,hr⟩
   have:=hFa u n hr
   cases hg:look F u with
   | none=>exact absurd this (Abt.mp hg)
   | some m=>rfl
 have hwn:∀ z,w≠.raw z:=fun z e=>by rcases hW with ⟨rfl,_⟩ | ⟨b,l,rfl,_⟩<;>cases e
 refine Aad ?_
 refine AbV ?_
 refine Aax rfl ?_
 refine Aei rfl ?_
 refine Aaa (a:=w) (by rfl) (by rfl) ?_
 refine Aat (Acx hwn ?_)
 refine Aei rfl ?_
 refine Aaa (a:=u.av) (by rfl) (by exact hvu) ?_
 refine Aaa (a:=.obj fb) (by rfl) (by rfl) ?_
 refine Adt hF2 hfit ?_
 refine Ajb ?_
 rw[AfV]
 have e12:AbI w=!((look F u).map fun (n:Nat)=>AV.int n).isSome:=by
  rw[Option.isSome_map]
  rcases hW with ⟨rfl,hno⟩ | ⟨b,l,rfl,_,hs,_⟩
  ·have:(look F u).isSome=false:=by
    cases h:(look F u).isSome with
    | false=>rfl
    | true=>obtain⟨n,hr⟩:=hiff.mp h;exact absurd hr (hno n)
   rw[this];rfl
  ·rw[hiff.mpr ⟨l.length,l,rfl,hs.1⟩];rfl
 rw[← e12]
 refine AaV (by simp) ?_
 refine AaK (Aah ?_);refine AcA ?_;intro V
 refine Aad ?_
 refine AbV ?_
 refine AdJ ?_
 refine Aax rfl ?_
 refine Aaa (a:=w) (by rfl) (by rfl) ?_
 refine Aat (Abg hwn ?_)
 have go14:∀ σ₃:AH,Keep σ₂ σ₃→goOn B (d+20) (LE q L f cd) (LB.drop 14) Q .next (Abl (Abl vars "far" (.obj fb)) "steps" w) σ₃:=by
  intro σ₃ K3
  have K13:=K12.trans K3
  refine Aah ?_;refine AcA ?_;intro V
  refine Aad ?_
  refine AbV ?_
  have one:∀ (p:Tm) (σ₄:AH) (v:AV),StepsR (ks++ts) p p v σ₄→∃ b,v=.obj b∧σ₄ b=some (.list []):=by
   rintro p σ₄ v (⟨_,h⟩ | ⟨b,l,rfl,h1,h2,_⟩)
   ·exact absurd ⟨[],rfl,rfl⟩ (h 0)
   ·refine⟨b,rfl,?_⟩
    have:l=[]:=by
     cases l with
     | nil=>rfl
     | cons s l=>exact absurd ⟨[],rfl,rfl⟩ (h2.2 0 (by simp))
    rw[h1,this];rfl
  refine Ad2 ?_
  refine Aax rfl ?_
  refine AaM P.O rfl rfl ?_
  refine Aaa (a:=.obj x) (by rfl) (by exact I.v5) ?_
  obtain⟨dx,sb',hx1,hx2,hx3⟩:=I.sk.keep K13
  refine⟨_,Aa1 P.O hx1 hx2 (P.meth ("way",5) (by decide)) (by rfl),P.mkeep 5 (by decide),rfl,?_⟩
  refine Aag (.cell (a:=t.av) (by rfl) (by exact hvt) (.cell (a:=t.av) (by rfl) (by exact hvt) (.int .nil))) ((AC.less (Ag3 (d:=0) (most:=1) P (I.sk.keep K13) hkl hti hti (fun h=>absurd rfl h)) (ln1 (.g 0 (.a (.n 0) (.n 12)) (.p 0 20)) rfl)).mono ?_)
  rintro v σ₄ ⟨K4,hW4⟩
  obtain⟨b4,rfl,hb4⟩:=one t σ₄ v hW4
  refine AaI (Aaf ⟨lnk rfl,fun z1 hz1=>?_⟩)
  have K5:Keep σ₄ (upd σ₄ z1 (.list [])):=(Keep.refl σ₄).upd (.inl hz1) _
  refine Ade (K5 _ _ hb4) (Aac _ _ _) ?_
  generalize upd σ₄ z1 (.list [])=σ₅ at K5
  refine AaV (by decide) ?_
  have K15:=(K13.trans K4).trans K5
  refine Ad2 ?_
  refine Aax rfl ?_
  refine AaM P.O rfl rfl ?_
  refine Aaa (a:=.obj x) (by rfl) (by exact I.v5) ?_
  obtain⟨dx,sb',hx1,hx2,hx3⟩:=I.sk.keep K15
  refine⟨_,Aa1 P.O hx1 hx2 (P.meth ("way",5) (by decide)) (by rfl),P.mkeep 5 (by decide),rfl,?_⟩
  refine Aag (.loc (a:=u.av) (by rfl) (by exact hvu) (.loc (a:=u.av) (by rfl) (by exact hvu) (.int .nil))) ((AC.less (Ag3 (d:=0) (most:=1) P (I.sk.keep K15) hkl hui hui (fun h=>absurd rfl h)) (ln1 (.g 0 (.a (.n 0) (.n 12)) (.p 0 20)) rfl)).mono ?_)
  rintro v σ₆ ⟨K6,hW6⟩
  obtain⟨b6,rfl,hb6⟩:=one u σ₆ v hW6
  refine AaI (Aaf ⟨lnk rfl,fun z2 hz2=>?_⟩)
  have K7:Keep σ₆ (upd σ₆ z2 (.list [])):=(Keep.refl σ₆).upd (.inl hz2) _
  refine Ade (K7 _ _ hb6) (Aac _ _ _) ?_
  generalize upd σ₆ z2 (.list [])=σ₇ at K7
  refine AaV (by decide) ?_
  refine Ad1 ?_
  refine AaV (by decide) ?_
  refine AaK (Aah ?_);refine AcA ?_;intro V
  have K37:=((K4.trans K5).trans K6).trans K7
  exact K fb F w _ σ₇ (hkk (K13.trans K37) (by exact I.v1) (by exact I.v2) (by exact I.v3) (by exact I.v4) (by exact I.v5)) (by exact hvt) (by exact hvu) (by rfl) (by rfl) (K37 _ _ (K3 _ _ hF2)) FR (hW.keep (K3.trans K37))
 rcases id hW with ⟨rfl,hno⟩ | ⟨b,l,rfl,hbl,hs,hl200⟩
 ·refine AaV (by simp[AbI]) ?_
  refine AaV (by decide) ?_
  exact AaK (go14 σ₂ (Keep.refl _))
 ·refine Abh (by simp[AbI]) ?_
  refine AdJ ?_
  refine Ad2 ?_
  refine Aax rfl ?_
  refine e_g P.O (by rfl) P.g_len rfl ?_
  refine Aag (.loc (a:=.obj b) (by rfl) (by rfl) .nil) (Abo hbl (by rw[List.length_map];exact Nat.le_trans hl200 (lnk rfl)) ?_)
  refine AaF rfl ?_
  refine Aaa (a:=.obj fb) (by rfl) (by rfl) ?_
  refine Aaa (a:=u.av) (by rfl) (by exact hvu) ?_
  have hfg:look F u=some l.length:=by
   cases hg:look F u with
   | none=>have:=hiff.mpr ⟨l.length,l,rfl,hs.1⟩;rw[hg] at this;cases this
   | some n=>
    have h1:Dist (ks++ts) t u n:=(hFd _ (Ac9 hg)).1
    rw[Dist.one h1 ⟨⟨l,rfl,hs.1⟩,hs.2⟩]
  refine Aci hF2 hfit (by rw[AfV,hfg];rfl) ?_
  refine Afr ?_
  rw[List.length_map]
  refine AaV (by simp) ?_
  refine Ad2 ?_
  refine Ags ?_
  refine Aa9 rfl ?_
  refine e_g P.O (by rfl) P.g_law_is_walked (P.keep 30 (by decide)) ?_
  refine Aag (.loc (a:=.obj sb) (by rfl) (by exact I.v4) (.cell (a:=t.av) (by rfl) (by exact hvt) (.loc (a:=u.av) (by rfl) (by exact hvu) (.loc (a:=.obj b) (by rfl) (by rfl) .nil)))) ((Aih (d:=0) P (K12 _ _ I.s) hbl hkl LK.uniq htw hs.1).use rfl ?_)
  rintro v σ₃ ⟨rfl,K3⟩
  refine AaU ?_
  refine AaV (by decide) ?_
  refine Ad1 ?_
  refine AaV (by decide) ?_
  refine AaV (by decide) ?_
  exact AaK (go14 σ₃ K3)
end
end Pq
namespace Pq
variable[Own]
omit [Own] in
theorem Ai4(s:Sd):(s.sk.name=("drop":Str))↔s=.drop:=by cases s<;>decide
section
variable{B:Aaj}{d:Nat}{σ:AH}
inductive R36a(σ:AH)(ks:List Sd)(xs:List AV)(ys:List AV)(σ':AH):Prop
 | mk (h1:σ'=σ) (dn td:List Sd) (h2:xs=td.map Aaw) (h3:ys=dn.map (fun s=>AV.str s.sk.name)) (h4:dn++td=ks)
set_option maxHeartbeats 2000000 in
theorem law_seg5(P:Prg B){ks ts:List Sd}{hb kb tb sb x fb:Addr}{F:List (Tm×Nat)}{w:AV}{vars:Vars}{t u:Tm}(I:LawI P ks ts hb kb tb sb x vars σ)(LK:LawK ks ts)(hvt:vars "t"=some t.av)(hvu:vars "u"=some u.av)(hti:InS (ks++ts) t)(hui:InS (ks++ts) u)
  (hvf:vars "far"=some (.obj fb)) (hvs:vars "steps"=some w) (hF:σ fb=some (.dict (F.map fAV))) (FR:FarR (ks++ts) t F) (hW:StepsR (ks++ts) t u w σ)
  {q:Str} {L f:Addr} {cd:Value} {Q:AFl→Vars→AH→Prop} (K:∀ vars σ',Q (.ret (.bool true)) vars σ') :
  AX B (d+20) (LE q L f cd) vars (execs ((AcO (Acl 32)).drop 16) (LE q L f cd)) σ Q:=by
 have hkl:(ks++ts).length≤3:=Nat.le_trans (Nat.le_of_eq List.length_append) (Nat.add_le_add LK.kl LK.tl)
 have kl:=LK.kl
 refine Aad ?_
 refine AbV ?_
 refine Ad2 ?_
 refine Aax rfl ?_
 refine Aav ?_
 refine AaT rfl (cl:=[]) ⟨by rfl,by rfl,by simp,by rfl,by decide,by rfl,by decide⟩ ?_
 refine AaC ?_
 refine Aaa (a:=.obj kb) (by rfl) I.v2 ?_
 refine⟨kb,_,rfl,I.k,by rw[List.length_map];exact Nat.le_trans kl (lnk rfl),?_⟩
 refine⟨(R36a σ ks),⟨rfl,[],ks,rfl,rfl,rfl⟩,?_,?_⟩
 ·rintro C y xs ys σ' hsat ⟨rfl,dn,td,hx,rfl,hd⟩
  obtain⟨s,td⟩:=Abb hx
  refine al_n3 rfl rfl rfl (AcU ?_)
  exact Aaa (a:=.str s.sk.name) (by rfl) (by rfl) ⟨hsat,rfl,dn++[s],td,rfl,by simp,by simp[← hd]⟩
 ·rintro ys σ' hsat ⟨rfl,dn,td,hx,rfl,hd⟩ hlen a ha
  obtain rfl:td=[]:=Adk hx
  rw[List.append_nil] at hd
  subst hd
  have K1:Keep σ' (upd σ' a (.list (dn.map fun s=>AV.str s.sk.name))):=(Keep.refl σ').upd (.inl ha) _
  refine Ajc (Aac _ _ _) (fun y hy=>by obtain⟨_,_,rfl⟩:=List.mem_map.mp hy;rfl) ?_
  generalize upd σ' a (.list (dn.map fun s=>AV.str s.sk.name))=σ₁ at K1
  have hany:((dn.map fun s=>AV.str s.sk.name).any fun y=>decide (y=AV.str "drop"))=true↔Sd.drop∈dn:=by
   rw[List.any_map,List.any_eq_true]
   constructor
   ·rintro⟨s,hs,h⟩
    have:s.sk.name=("drop":Str):=by simpa using h
    rw[(Ai4 s).mp this] at hs;exact hs
   ·intro h
    exact⟨.drop,h,by simp;rfl⟩
  by_cases hdrop:Sd.drop∈dn
  ·rw[hany.mpr hdrop]
   refine Abh rfl ?_
   refine Abh rfl ?_
   refine Aad ?_
   refine Aal ?_
   refine Abf ?_
   exact Aap (Aap (K _ _))
  ·have hf:((dn.map fun s=>AV.str s.sk.name).any fun y=>decide (y=AV.str "drop"))=false:=by
    cases h:((dn.map fun s=>AV.str s.sk.name).any fun y=>decide (y=AV.str "drop")) with
    | false=>rfl
    | true=>exact absurd (hany.mp h) hdrop
   rw[hf]
   refine AaV (by decide) ?_
   have hnd:Sd.drop∉dn++ts:=fun h=>by
    rcases List.mem_append.mp h with h | h
    ·exact hdrop h
    ·have:=LK.tt _ h;cases this
   have hFl:=FR.len
   refine Ad2 ?_
   refine Aax rfl ?_
   refine e_g P.O (by rfl) P.g_len rfl ?_
   refine Aag (.loc (a:=.obj fb) (by rfl) hvf .nil) (AfX (K1 _ _ hF) (lml (by exact Nat.le_trans hFl (lnk rfl))) ?_)
   refine Aae (AbD ?_)
   by_cases h12:12<F.length
   ·refine Abh (by simp;lia) ?_
    refine Abh rfl ?_
    refine Aad ?_
    refine Aal ?_
    refine Abf ?_
    exact Aap (Aap (K _ _))
   ·refine AaV (by simp;exact Int.ofNat_le.mpr (ln1 (.c 1 (.v 0) (.n 12) (.g 0 (.v 0) (.n 12))) rfl (Nat.le_of_not_lt h12))) ?_
    refine Ad1 ?_
    refine AaV (by decide) ?_
    refine AaK (Aah ?_)
    refine Aad ?_
    refine Aak rfl rfl ?_
    refine AaM P.O rfl rfl ?_
    refine Aaa (a:=.obj x) (by rfl) (by exact I.v5) ?_
    obtain⟨dx,sb',hx1,hx2,hx3⟩:=I.sk.keep K1
    refine⟨_,Aa1 P.O hx1 hx2 (P.meth ("way",5) (by decide)) (by rfl),P.mkeep 5 (by decide),rfl,?_⟩
    refine Aag (.loc (a:=u.av) (by rfl) (by exact hvu) (.cell (a:=t.av) (by rfl) (by exact hvt) (.int .nil))) ((AC.less (Ag3 (d:=0) (most:=1000) P (I.sk.keep K1) hkl hui hti (fun jj=>by exact lnk rfl)) (ln1 (.g 0 (.a (.n 0) (.n 12)) (.p 0 20)) rfl)).mono ?_)
    rintro z σ₂ ⟨K2,hZ⟩
    refine Aah ?_
    have hW2:=(hW.keep K1).keep K2
    have hwn:∀ y,w≠.raw y:=fun y e=>by rcases hW with ⟨rfl,_⟩ | ⟨b,l,rfl,_⟩<;>cases e
    have hzn:∀ y,z≠.raw y:=fun y e=>by rcases hZ with ⟨rfl,_⟩ | ⟨b,l,rfl,_⟩<;>cases e
    refine Aad ?_
    refine Aal ?_
    refine e_if ?_
    refine Aax rfl ?_
    refine Aaa (a:=w) (by rfl) (by exact hvs) ?_
    refine Aat (Acx hwn ?_)
    rcases hW2 with ⟨rfl,hno⟩ | ⟨b,l,rfl,hbl,hs,hl⟩
    ·refine Abh (by simp[AbI]) ?_
     refine Aei rfl ?_
     refine Aaa (a:=z) (by rfl) (by rfl) ?_
     refine Aat (Acx hzn ?_)
     rcases hZ with ⟨rfl,_⟩ | ⟨b2,l2,rfl,_,hs2,_⟩
     ·exact Aap (K _ _)
     ·exact absurd (Ad8 hnd ⟨l2,rfl,hs2.1⟩) (hno _)
    ·refine AaV (by simp[AbI]) ?_
     have hr:=Ad8 hnd (⟨l,rfl,hs.1⟩:Rch (dn++ts) l.length t u)
     rcases hZ with ⟨rfl,hno⟩ | ⟨b2,l2,rfl,hbl2,hs2,hl2⟩
     ·exact absurd hr (hno _)
     ·refine e_and ?_
      refine Aei rfl ?_
      refine Aaa (a:=.obj b2) (by rfl) (by rfl) ?_
      refine Aat (Abg (fun y e=>by cases e) ?_)
      refine AaU ?_
      refine Abh (by simp[AbI]) ?_
      refine Aei rfl ?_
      refine e_g P.O (by rfl) P.g_len rfl ?_
      refine Aag (.loc (a:=.obj b2) (by rfl) (by rfl) .nil) (Abo hbl2 (by rw[List.length_map];exact Nat.le_trans hl2 (lnk rfl)) ?_)
      refine e_g P.O (by rfl) P.g_len rfl ?_
      refine Aag (.loc (a:=.obj b) (by rfl) (by exact hvs) .nil) (Abo hbl (by rw[List.length_map];exact Nat.le_trans hl (lnk rfl)) ?_)
      refine AbU ?_
      have:l2.length=l.length:=Dist.one (⟨⟨l2,rfl,hs2.1⟩,hs2.2⟩:Dist (dn++ts) u t l2.length) ⟨hr,fun k hk h=>hs.2 k hk (Ad8 hnd h)⟩
      rw[List.length_map,List.length_map,this,decide_eq_true rfl]
      exact Aap (K _ _)
end
end Pq
namespace Pq
section
variable{M:Model}{A:Around}{E:Value→Shared→Prop}{s:Shared}{Hb:Heap}{env:Env}{outer l:List Env}{L e:Addr}{cls a0:Value}
theorem Afz{oe:Obj}{vs:Array Value}{Q:Unit→Shared→Prop}(hfr:A.frames=some (env::outer))(hf:env.frame=some L)(hkb:Hb.StaysIn s.heap)(hl:s.heap.FunFrames Hb (env::outer))
  (he:s.heap.get? e=some oe) (hen:Hb.get? e=none) (hd:oe.data=.fields vs) (h1:vs[1]?=some .none) (h0:vs[0]?=some a0)
  (hQ:∀ h',Heap.HeldW Hb (env::outer) e oe.cls a0 L h'→s.heap.UpToSlots h'→Q () { s with heap:=h' }):wpAny M A (noteFrame (.ref e) env) Q E s:=by
 unfold noteFrame
 simp only[hf]
 refine wpAny_bind (wpAny_field he hd h1 ?_)
 refine wpAny_entryW hfr hl hf he hkb hen hd (Array.getElem?_eq_some_iff.mp h1).1 h0 fun h' hN=>?_
 obtain⟨k1,k2,k3,k4⟩:=hN
 exact hQ h' ⟨k1,hen,k2,k3⟩ k4
theorem z_came{E':Value→Shared→Prop}(hf:env.frame=some L)(hh:Heap.HeldW Hb l e cls a0 L s.heap)(hQ:∀ h',Heap.HeldW Hb l e cls a0 L h'→s.heap.UpToSlots h'→E' (.ref e) { s with heap:=h' }):cameBackBy M A env E' (.ref e) s:=by
 obtain⟨k1,k2,k3,oe,vs,T,oT,ts,he,⟨hcls,h0⟩,hd,h1,hnT,hTe,hT,hdT,h3⟩:=hh
 unfold cameBackBy
 refine wpAny_bind (wpAny_field he hd h1 ?_)
 rw[hf]
 unfold setFlight
 refine wpAny_bind (wpAny_field he hd h1 ?_)
 have other:∀ b,b≠T→(s.heap.update T (Obj.mapFields (·.setIfInBounds 3 ((some L:Option Addr).elim Value.none fun f=>rawInt f)))).get? b=s.heap.get? b:=fun b hb=>Heap.get?_update_other _ _ (Ne.symm hb)
 have noRecord:∀ b o,s.heap.get? b=some o→(∀ vs,o.data≠.fields vs)→b≠T:=fun b o hb hnf q=>by
  rw[q,hT] at hb;injection hb with hb;subst hb;exact hnf ts hdT
 have hsz3:3<ts.size:=(Array.getElem?_eq_some_iff.mp h3).1
 refine wpAny_setField hT hdT hsz3 (hQ _ ⟨fun b o hbo=>(other b fun q=>by rw[q,hnT] at hbo;cases hbo).trans (k1 b o hbo),k2,k3.of_keeps fun b o hb hnf=>⟨o,(other b (noRecord b o hb hnf)).trans hb,rfl⟩,?_⟩ fun b o hb hn=>⟨o.slots,(other b (noRecord b o hb hn)).trans hb⟩)
 exact⟨oe,vs,T,_,_,(other e (Ne.symm hTe)).trans he,⟨hcls,h0⟩,hd,h1,hnT,hTe,Heap.get?_update_self _ hT (Obj.isFreed_of_fields (Obj.data_mapFields hdT _)),Obj.data_mapFields hdT _,by simp[hsz3]⟩
end
end Pq
namespace Pq
section
variable{prog:Program}{w:World}{A:Around}{E:Value→Shared→Prop}{s:Shared}{Hb:Heap}{env:Env}{outer:List Env}{L e:Addr}{cls a0:Value}
theorem z_catch{Q:Flow→Shared→Prop}{K:Frag}{LF:Addr}{t:Expr}{x:Str}{k:Nat}{p1 p2 pos:Pos}(hesc:Heap.FlyingW Hb (env::outer) e cls a0 s.heap)(hfr:A.frames=some (env::outer))(hf:env.frame=some L)
  (hK:∀ h',Hb.StaysIn h'→K.In h') (hx:exmOne K cls (.ref LF)=some true)
  (hname:∀ (A':Around) (s':Shared) (Q':Value→Shared→Prop) (E':Value→Shared→Prop),Hb.StaysIn s'.heap→Q' (.ref LF) s'→wpAny (model prog w) A' (eval t env) Q' E' s')
  (hQ:∀ h' tk v,Heap.FlyingW Hb (env::outer) e cls a0 h'→s.heap.UpToSlots h'→v=.str x tk→Q (.ret v) { s with heap:=h',toks:=s.toks+1 }) :
  wpAny (model prog w) A (noteFrame (.ref e) env) (fun jj s₂=>wpAny (model prog w) A (setFlight (.ref e) none) (fun jj s₃=>wpAny (model prog w) A (handleBy (.ref e) env [.ExceptHandler (some t) none [.Return (some (.Constant (.str x) k p1)) p2] pos]) Q E s₃) E s₂) E s:=by
 refine wpAny_looks_onW hfr hf hesc fun h₄ hh₄ hu₄=>?_
 refine wpAny_landsW hh₄ fun h₅ hf₅ hu₅=>?_
 refine wpAny_handleBy_cons (codeAny_handlers_test (hname _ _ _ _ hf₅.1 ?_)) (by intro q;cases q)
 obtain⟨ob,hob,hc⟩:=hf₅.there
 have LT:Looks (model prog w) h₅ (typeOf (.ref e)) cls:=by subst hc;exact(Looks.ld hob).andThen .now
 refine(exm_one (hK _ hf₅.1) LT hx) _ _ _ _ (fun jj jj e=>e) ?_
 refine codeAny_handlers_suite ?_
 refine wpAny_setFlight_noneW hf₅.1 hf₅.2.2.1 hf₅.2.2.2.at fun h₆ k1 k2 k3 k4=>?_
 refine wpAny_execs_cons (wpAny_Return_some ?_)
 refine wpAny_mkText ?_
 exact hQ h₆ _ _ ⟨k1,hf₅.2.1,k2,k3⟩ ((hu₄.trans hu₅).trans fun b o hb hn=>⟨o.slots,k4 b o hb hn⟩) rfl
end
end Pq
namespace Pq
variable[Own]
structure RS(B:Aaj)(σ₀:AH)(s₀:Shared)(el:Env)(vl:Vars)(l:List Env)(σ:AH)(s:Shared):Prop where
 st:St B σ s
 ext:Ext B noX σ₀ s₀ σ s
 keep:Keep σ₀ σ
 law:EnvR B σ s.heap el vl
 outs:∀ o∈l,o.frame=some o.locals∧∃ v,EnvR B σ s.heap o v
section
variable{B:Aaj}{σ₀ σ σ':AH}{s₀ s s':Shared}{el env:Env}{vl vars:Vars}{l outer:List Env}{X:Addr→Prop}{A:Around}{LF L:Addr}
theorem RS.go(R:RS B σ₀ s₀ el vl l σ s)(y:Ext B X σ s σ' s')(hX:∀ b,X b→s₀.heap.get? b=none)(hd:∀ o∈el::l,∀ b,Abz o b→¬ X b)(k:Keep σ₀ σ'):RS B σ₀ s₀ el vl l σ' s':=
 ⟨y.st,((R.ext.weaken (Y:=X) fun jj f=>f.elim).trans y).narrow fun b hb=>.inr (hX b hb),k,R.law.ext y (hd el (.head _)),fun o ho=>⟨(R.outs o ho).1,let ⟨v,h⟩:=(R.outs o ho).2;⟨v,h.ext y (hd o (.tail _ ho))⟩⟩⟩
inductive EscA(B:Aaj)(σ₀:AH)(s₀:Shared)(el:Env)(vl:Vars)(Hb:Heap)(s':Shared):Prop
 | mk (σ₁ s₁ la:_) (R:RS B σ₀ s₀ el vl la σ₁ s₁) (h1:el∈la) (h2:Hb=hideAll s₁.heap (la.map (·.locals))) (h3:s₁.heap.UpToSlots s'.heap) (h4:s'.gens=s₁.gens) (h5:s'.os=s₁.os)
structure Esc(B:Aaj)(σ₀:AH)(s₀:Shared)(el:Env)(vl:Vars)(Hb:Heap)(s':Shared):Prop where
 at_:EscA B σ₀ s₀ el vl Hb s'
theorem Esc.up{Hb:Heap}(E:Esc B σ₀ s₀ el vl Hb s){h':Heap}(u:s.heap.UpToSlots h'):Esc B σ₀ s₀ el vl Hb { s with heap:=h' }:=by
 obtain⟨σ₁,s₁,la,a,b,c,d,e,f⟩:=E.at_
 exact⟨σ₁,s₁,la,a,b,c,d.trans u,e,f⟩
inductive RawE(B:Aaj)(σ₀:AH)(s₀:Shared)(el:Env)(vl:Vars)(LF:Addr)(l:List Env)(x:Value)(s':Shared):Prop
 | mk (e oe vs a0 Hb:_) (h0:x=.ref e) (E:Esc B σ₀ s₀ el vl Hb s') (h1:Hb.StaysIn s'.heap) (h2:Hb.get? e=none) (h3:s'.heap.FunFrames Hb l) (h4:s'.heap.get? e=some oe) (h5:oe.cls=.ref LF) (h6:oe.data=.fields vs) (h7:vs[1]?=some .none) (h8:vs[0]?=some a0)
inductive Agk(B:Aaj)(σ₀:AH)(s₀:Shared)(el:Env)(vl:Vars)(LF:Addr)(l:List Env)(L:Addr)(x:Value)(s':Shared):Prop
 | mk (e a0 Hb:_) (h0:x=.ref e) (E:Esc B σ₀ s₀ el vl Hb s') (h1:Heap.HeldW Hb l e (.ref LF) a0 L s'.heap)
inductive FlyE(B:Aaj)(σ₀:AH)(s₀:Shared)(el:Env)(vl:Vars)(LF:Addr)(l:List Env)(x:Value)(s':Shared):Prop
 | mk (e a0 Hb:_) (h0:x=.ref e) (E:Esc B σ₀ s₀ el vl Hb s') (h1:Heap.FlyingW Hb l e (.ref LF) a0 s'.heap)
variable{M:Model}{EE:Value→Shared→Prop}{x:Value}
theorem Aiu(h:RawE B σ₀ s₀ el vl LF (env::outer) x s)(hfr:A.frames=some (env::outer))(hf:env.frame=some L)(k:∀ s',Agk B σ₀ s₀ el vl LF (env::outer) L x s'→EE x s'):notedBy M A env EE x s:=by
 obtain⟨e,oe,vs,a0,Hb,rfl,E,h1,h2,h3,h4,h5,h6,h7,h8⟩:=h
 exact Afz hfr hf h1 h3 h4 h2 h6 h7 h8 fun h' hh hu=>k _ ⟨e,a0,Hb,rfl,E.up hu,h5▸hh⟩
theorem Ah0(h:Agk B σ₀ s₀ el vl LF l L x s)(hf:env.frame=some L)(k:EE x s):notedBy M A env EE x s:=by
 obtain⟨e,a0,Hb,rfl,E,hh⟩:=h
 exact wpAny_noteFrame_againW hf hh.2.2.2 k
theorem AiZ(h:FlyE B σ₀ s₀ el vl LF (env::outer) x s)(hfr:A.frames=some (env::outer))(hf:env.frame=some L)(k:∀ s',Agk B σ₀ s₀ el vl LF (env::outer) L x s'→EE x s'):notedBy M A env EE x s:=by
 obtain⟨e,a0,Hb,rfl,E,hh⟩:=h
 exact wpAny_looks_onW hfr hf hh fun h' hh hu=>k _ ⟨e,a0,Hb,rfl,E.up hu,hh⟩
theorem Aee(h:Agk B σ₀ s₀ el vl LF l L x s)(hf:env.frame=some L)(k:∀ s',Agk B σ₀ s₀ el vl LF l L x s'→EE x s'):cameBackBy M A env EE x s:=by
 obtain⟨e,a0,Hb,rfl,E,hh⟩:=h
 exact z_came hf hh fun h' hh hu=>k _ ⟨e,a0,Hb,rfl,E.up hu,hh⟩
theorem Ah1{E':Value→Shared→Prop}(h:Agk B σ₀ s₀ el vl LF (env::outer) L x s)(hf:env.frame=some L)(k:∀ s',FlyE B σ₀ s₀ el vl LF outer x s'→EE x s'):wpAny M A (leaving env x) (fun jj s''=>EE x s'') E' s:=by
 obtain⟨e,a0,Hb,rfl,E,hh⟩:=h
 unfold leaving
 refine wpAny_bind (wpAny_noteFrame_againW hf hh.2.2.2 ?_)
 refine wpAny_landsW hh fun h' hfl hu=>?_
 obtain⟨k1,k2,⟨_,_,k3⟩,k4⟩:=hfl
 exact k _ ⟨e,a0,Hb,rfl,E.up hu,k1,k2,k3,k4⟩
theorem Acm{d:Nat}{st:Stmt}{rest:List Stmt}{QQ:Flow→Shared→Prop}{Q:Vars→AH→Prop}(r:Room A d)(S:St B σ s)(R:EnvR B σ s.heap env vars)(h:AX B d env vars (exec st env) σ (fun f v σ'=>f=.next∧Q v σ'))
  (k:∀ v σ' s',Q v σ'→St B σ' s'→EnvR B σ' s'.heap env v→Ext B (Abz env) σ s σ' s'→wpAny (model B.prog B.w) A (execs rest env) QQ EE s'):wpAny (model B.prog B.w) A (execs (st::rest) env) QQ EE s:=by
 refine wpAny_execs_cons ((h A s r S R).wp fun f s₁ b σ₁ q rf y=>?_)
 obtain⟨af,v⟩:=b
 obtain⟨rfl,q⟩:=q
 obtain⟨hf,R₁⟩:=rf
 obtain rfl:f=.next:=hf
 exact k v σ₁ s₁ q y.st R₁ y
theorem AbR{st:Stmt}{rest:List Stmt}{QQ:Flow→Shared→Prop}(h:wpAny (model B.prog B.w) A (exec st env) (fun jj jj=>False) EE s):wpAny (model B.prog B.w) A (execs (st::rest) env) QQ EE s:=
 wpAny_execs_cons (wpAny_mono h (fun jj jj f=>f.elim) fun jj jj e=>e)
theorem z_for{d:Nat}{pos:Pos}{target iter:Expr}{body:List Stmt}{E0:Value→Shared→Prop}(hs:AdW iter=true)(r:Room A d)(S:St B σ s)(R:EnvR B σ s.heap env vars)
  (hE:∀ x s',E0 x s'→notedBy (model B.prog B.w) A env (cameBackBy (model B.prog B.w) A env EE) x s')
  (h:AI B d env vars iter (·=target) σ fun xs src σ₁=>∃ I:List AV→Vars→AH→Prop,I xs vars σ₁∧(∀ v σ',I [] v σ'→False) ∧
   ∀ x xs vars₁ σ₁,Sat src σ₁→I (x::xs) vars₁ σ₁→AA B d env vars₁ (assign target env) x σ₁ fun vars₂ σ₂=>∀ s₂,St B σ₂ s₂→EnvR B σ₂ s₂.heap env vars₂→Ext B (Abz env) σ s σ₂ s₂ →
    wpAny (model B.prog B.w) A (execs body env) (fun f s₃=>f=.next∧∃ vars₃ σ₃,Sat src σ₃∧I xs vars₃ σ₃∧EnvR B σ₃ s₃.heap env vars₃∧Ext B (Abz env) σ₂ s₂ σ₃ s₃) E0 s₂):wpAny (model B.prog B.w) A (exec (.For target iter body [] pos) env) (fun jj jj=>False) EE s:=by
 refine wpAny_For (wpAny_mono (h A s r S R) (fun x s₁ h₁=>wpAny_mono h₁ (fun itv s₂ h₂=>?_) fun jj jj f=>f.elim) fun jj jj f=>f.elim) ((Aba hs).set env)
 obtain⟨it,fp,src,Z,xs,σ',⟨I,hI,fin,turn⟩,rfl,hit,hZ,hsat,F,h0,x⟩:=h₂
 have hX:∀ b∈fp,¬ Abz env b:=fun b hb q=>by obtain⟨o,e⟩:=AcH R q;rw[h0 b hb] at e;cases e
 refine codeAny_forLoop_any (fun n s'=>∃ xs vars₁ σ₁,xs.length=n∧I xs vars₁ σ₁∧Z xs s'.heap∧Sat src σ₁∧FpOk B fp σ₁ s'.heap∧EnvR B σ₁ s'.heap env vars₁∧Ext B (Abz env) σ s σ₁ s') ?_ xs.length
  ⟨xs,vars,σ',rfl,hI,hZ,hsat,F,R.go x,x.weaken fun jj f=>f.elim⟩
 rintro n s' ⟨xs,vars₁,σ₁,rfl,hI,hZ,hsat,F,R₁,y⟩
 cases xs with
 | nil=>exact(fin _ _ hI).elim
 | cons a xs=>
  refine wpAny_mono (hit.item (tgt:=target) rfl r y.st hsat F hZ) (fun rr s₁ hr=>?_) fun jj jj f=>f.elim
  obtain⟨v,rfl,hr⟩:=hr
  refine wpAny_mono hr (fun jj s₂ h₂=>?_) fun jj jj f=>f.elim
  obtain⟨hv,hZ₂,z,F₂⟩:=h₂
  have R₂:EnvR B σ₁ s₂.heap env vars₁:=R₁.ext z fun b hb q=>hX b q hb
  refine(turn a xs vars₁ σ₁ hsat hI A s₂ v r z.st R₂ hv).wp fun jj s₃ vars₂ σ₂ q₂ R₃ u=>?_
  have u0:=(F₂.ext u fun b hb q=>hX b hb q)
  have yzu:Ext B (Abz env) σ s σ₂ s₃:=(((y.weaken (Y:=fun b=>Abz env b∨b∈fp) fun b hb=>.inl hb).trans (z.weaken fun b hb=>.inr hb)).trans (u.weaken fun b hb=>.inl hb)).narrow fun b hb=>hb.imp id (h0 b)
  refine wpAny_mono (q₂ s₃ u.st R₃ yzu) (fun f s₄ q₃=>?_) fun x s₄ e=>hE x s₄ e
  obtain⟨rfl,vars₃,σ₃,hsat₃,hI₃,R₄,w⟩:=q₃
  have w0:=(u0.1.ext w fun b hb q=>hX b hb q)
  have hZ₄:Z xs s₄.heap:=hit.frame _ _ _ (hit.frame _ _ _ hZ₂ u0.2 u.tup) w0.2 w.tup
  exact⟨xs.length,Nat.lt_succ_self _,xs,vars₃,σ₃,rfl,hI₃,hZ₄,hsat₃,w0.1,R₄,yzu.trans w⟩
theorem z_while{d:Nat}{pos:Pos}{test:Expr}{body:List Stmt}{E0:Value→Shared→Prop}(r:Room A d)(S:St B σ s)(R:EnvR B σ s.heap env vars)
  (hE:∀ x s',E0 x s'→notedBy (model B.prog B.w) A env (cameBackBy (model B.prog B.w) A env EE) x s')
  (h:AT B d env vars (isTrue test env (eval test env)) σ fun c σ₁=>c=true∧∀ s₁,St B σ₁ s₁→EnvR B σ₁ s₁.heap env vars→Ext B (Abz env) σ s σ₁ s₁→wpAny (model B.prog B.w) A (execs body env) (fun jj jj=>False) E0 s₁) :
  wpAny (model B.prog B.w) A (exec (.While test body [] pos) env) (fun jj jj=>False) EE s:=by
 refine wpAny_While (codeAny_whileLoop (fun n s'=>s'=s) (fun n s' hI=>?_) 0 rfl)
 subst hI
 refine(h A s' r S R).wp fun c s₁ b σ₁ q rv y=>?_
 subst rv
 obtain⟨rfl,q⟩:=q
 refine Abh rfl ?_
 exact wpAny_mono (q s₁ y.st (R.go y) (y.weaken fun jj f=>f.elim)) (fun jj jj f=>f.elim) fun x s' e=>hE x s' e
end
end Pq
namespace Pq
variable[Own]
section
variable{B:Aaj}{σ₀ σ σ':AH}{s₀ s s':Shared}{el:Env}{vl vars:Vars}{l outer:List Env}{A:Around}{LF:Addr}{d:Nat}
theorem z_code(O:BOk B){f:Addr}{params:Arguments}{body:List Stmt}{scope:Scope}(F:FnK B.K f params body scope){names:List Str}{args:List AV}{RR:Result→Shared→Prop}{vs:List Value}
  (r:Room A (d+1)) (hfr:A.frames=some l) (R:RS B σ₀ s₀ el vl l σ s) (rv:VRs s.heap args vs)
  (hb:∀ name qual kV doc pm an cdv ct vs,vs.length=args.length→bindArgs (fnOf name qual params body scope .none kV doc pm an cdv ct) ⟨vs,[]⟩=pure (names.zip vs))
  (hc:fnB scope names=true)
  (h:∀ q L cd s₁,Room (A.deeper (fE scope f q L cd)) d→(A.deeper (fE scope f q L cd)).frames=some (fE scope f q L cd::l) →
   EnvR B σ s₁.heap (fE scope f q L cd) (fV names args)→RS B σ₀ s₀ el vl l σ s₁→(∀ b,Abz (fE scope f q L cd) b→s₀.heap.get? b=none) →
   (∀ o∈el::l,∀ b,Abz o b→¬ Abz (fE scope f q L cd) b) →
   wpAny (model B.prog B.w) (A.deeper (fE scope f q L cd)) (execs body (fE scope f q L cd)) (fun f s'=>RR (.ok (.ret (match f with | .ret v=>v | _=>.none))) s')
    (fun e s'=>wpAny (model B.prog B.w) (A.deeper (fE scope f q L cd)) (leaving (fE scope f q L cd) e) (fun jj s''=>RR (.error e) s'') (fun e' s''=>RR (.error e') s'') s') s₁) :
  codeAny (model B.prog B.w) A (.call (.ref f) ⟨vs,[]⟩) RR s:=by
 obtain⟨hkind,hnd,hco,hgen,hk⟩:=fnB_of hc
 obtain⟨oc,od,osl,name,qual,kV,doc,pm,an,cdv,ct,hl,hc⟩:=F
 have S:=R.st
 have X:B.K.In s.heap:=O.K.keeps S.base
 have hlen:=VRs.length rv
 have Lnone:=S.none_size
 have hkinds:∀ n,∀ x∈names.zip vs,scope.names.lookup x.1=some .local∨(scope.names.lookup x.1=some .cell∧((cellsFrom n scope.names []).lookup x.1).isSome=true):=by
  refine kindsX (List.all_eq_true.mpr fun x hx=>?_)
  have hm:x.1∈names:=(List.of_mem_zip (show(x.1,x.2)∈names.zip vs from hx)).1
  exact List.all_eq_true.mp hkind x.1 hm
 refine codeAny_call_cells (fd:=fnOf name qual params body scope .none kV doc pm an cdv ct) (binds:=names.zip vs) (by have:=r.depth;exact ln3 (.c 1 (.a (.a (.v 0) (.p 1 1)) (.n 1)) (.v 2) (.g 0 (.p 0 1) (.v 2))) rfl this) (X _ _ hl) rfl (O.nolimit.keeps S.base) (codeRec_of X hc) rfl
  (hb _ _ _ _ _ _ _ _ _ hlen.symm) rfl (hkinds _) (fun s₁ x=>?_) hco hgen hk
 have henv:callEnvC (fnOf name qual params body scope .none kV doc pm an cdv ct) s.heap.objs.size f=fE scope f qual s.heap.objs.size cdv:=rfl
 rw[henv] at x ⊢
 obtain⟨h₁,tk,rfl,hkeep,R₁,above⟩:=AgU S rv hk hnd x
 have x1:Ext B noX σ s σ { s with heap:=h₁,toks:=tk }:=Ext.grow S hkeep
 have own:∀ b,Abz (fE scope f qual s.heap.objs.size cdv) b→s.heap.get? b=none:=fun b hb'=>by
  rcases hb' with rfl | ⟨n,hm⟩
  ·exact Aan _
  ·exact above n b hm
 refine h qual s.heap.objs.size cdv _ (r.deeper _) (Around.frames_deeper hfr) R₁ (R.go x1 (fun jj f=>f.elim) (fun jj jj jj jj f=>f) R.keep) (fun b hb'=>AaR R.ext (own b hb')) fun o ho b h1 h2=>?_
 obtain⟨ob,e⟩:∃ ob,s.heap.get? b=some ob:=by
  rcases List.mem_cons.mp ho with rfl | ho
  ·exact AcH R.law h1
  ·obtain⟨_,v,hv⟩:=R.outs o ho
   exact AcH hv h1
 rw[own b h2] at e
 cases e
theorem z_call(O:BOk B){f:Addr}{params:Arguments}{body:List Stmt}{scope:Scope}(F:FnK B.K f params body scope){names:List Str}{args:List AV}{vs:List Value}
  (r:Room A (d+1)) (hfr:A.frames=some l) (R:RS B σ₀ s₀ el vl l σ s) (rv:VRs s.heap args vs)
  (hb:∀ name qual kV doc pm an cdv ct vs,vs.length=args.length→bindArgs (fnOf name qual params body scope .none kV doc pm an cdv ct) ⟨vs,[]⟩=pure (names.zip vs))
  (hc:fnB scope names=true)
  (h:∀ q L cd s₁,Room (A.deeper (fE scope f q L cd)) d→(A.deeper (fE scope f q L cd)).frames=some (fE scope f q L cd::l) →
   EnvR B σ s₁.heap (fE scope f q L cd) (fV names args)→RS B σ₀ s₀ el vl l σ s₁→(∀ b,Abz (fE scope f q L cd) b→s₀.heap.get? b=none) →
   (∀ o∈el::l,∀ b,Abz o b→¬ Abz (fE scope f q L cd) b) →
   wpAny (model B.prog B.w) (A.deeper (fE scope f q L cd)) (execs body (fE scope f q L cd)) (fun jj jj=>False)
    (Agk B σ₀ s₀ el vl LF (fE scope f q L cd::l) L) s₁) :
  wpAny (model B.prog B.w) A (call (.ref f) vs) (fun jj jj=>False) (FlyE B σ₀ s₀ el vl LF l) s:=by
 refine wpAny_call (z_code O F (RR:=fun r s'=>match r with | .ok (.ret _)=>False | .ok _=>False | .error e=>FlyE B σ₀ s₀ el vl LF l e s') r hfr R rv hb hc fun q L cd s₁ r₁ hfr₁ R₁ RS₁ ho hd=>?_)
 exact wpAny_mono (h q L cd s₁ r₁ hfr₁ R₁ RS₁ ho hd) (fun jj jj f=>f.elim) fun x s' hh=>Ah1 hh rfl fun jj h=>h
end
end Pq
namespace Pq
variable[Own]
structure Ajn(LF:Addr)(s:Shared)(x:Value)(s':Shared):Prop where
 at_:∃ e oe vs a0,x=.ref e∧(∀ b o,s.heap.get? b=some o→s'.heap.get? b=some o)∧s'.gens=s.gens∧s'.os=s.os∧s.heap.get? e=none∧s'.heap.get? e=some oe∧oe.cls=.ref LF∧oe.data=.fields vs∧vs[1]?=some .none∧vs[0]?=some a0
section
variable{B:Aaj}{σ₀ σ σ':AH}{s₀ s s':Shared}{el env:Env}{vl vars:Vars}{l outer:List Env}{A:Around}{LF:Addr}{d:Nat}{x:Value}
theorem raw_of(h:Ajn LF s x s')(R:RS B σ₀ s₀ el vl l σ s)(hel:el∈l):RawE B σ₀ s₀ el vl LF l x s':=by
 obtain⟨e,oe,vs,a0,rfl,hk,hg,ho,hn,he,hc,hd,h1,h0⟩:=h.at_
 have Hk:∀ b o,(hideAll s.heap (l.map (·.locals))).get? b=some o→s.heap.get? b=some o:=fun b o q=>of_hideAll _ q
 refine⟨e,oe,vs,a0,hideAll s.heap (l.map (·.locals)),rfl,⟨σ,s,l,R,hel,rfl,Heap.UpToSlots.of_keeps hk,hg,ho⟩,fun b o q=>hk b o (Hk b o q),?_,?_,he,hc,hd,h1,h0⟩
 ·cases q:(hideAll s.heap (l.map (·.locals))).get? e with
  | none=>rfl
  | some o=>rw[Hk _ _ q] at hn;cases hn
 ·have:∀ l':List Env,(∀ o∈l',o∈l)→s'.heap.FunFrames (hideAll s.heap (l.map (·.locals))) l':=by
   intro l'
   induction l' with
   | nil=>intro _;trivial
   | cons o l' ih=>
    intro hs
    obtain⟨hf,v,hv⟩:=R.outs o (hs o (.head _))
    obtain⟨m,⟨ob,es,ep,hob,hdb,_⟩,_⟩:=hv.ns
    refine⟨by rw[hv.kind];decide,⟨o.locals,ob,hf,hideAll_none _ (List.mem_map.mpr ⟨o,hs o (.head _),rfl⟩),hk _ _ hob,fun vs q=>by rw[hdb] at q;cases q⟩,ih fun o ho=>hs o (.tail _ ho)⟩
  exact this l fun jj h=>h
theorem z_if{test:Expr}{body orelse:List Stmt}{pos:Pos}{EE:Value→Shared→Prop}{QQ:Flow→Shared→Prop}(r:Room A d)(S:St B σ s)(R:EnvR B σ s.heap env vars)
  (h:AT B d env vars (isTrue test env (eval test env)) σ fun c σ₁=>c=true∧∀ s₁,St B σ₁ s₁→EnvR B σ₁ s₁.heap env vars→Ext B (Abz env) σ s σ₁ s₁→wpAny (model B.prog B.w) A (execs body env) QQ EE s₁) :
  wpAny (model B.prog B.w) A (exec (.If test body orelse pos) env) QQ EE s:=by
 refine wpAny_If ((h A s r S R).wp fun c s₁ b σ₁ q rv y=>?_)
 subst rv
 obtain⟨rfl,q⟩:=q
 refine Abh rfl ?_
 exact q s₁ y.st (R.go y) (y.weaken fun jj f=>f.elim)
end
noncomputable def raiseG:Stmt:=let f:=fun (s:Stmt) k=>(AcO s).getD k (.Pass ⟨0,0,0,0⟩);f (f (f (f (AeR 16 3) 1) 0) 1) 0
noncomputable def Aep{B:Aaj}(P:Prg B)(d:Nat):Prop:=∀ (A:Around) (s:Shared) (σ:AH) (q:Str) (L:Addr) (cd:Value) (vars:Vars),
 Room A d→St B σ s→EnvR B σ s.heap (fE (AaB (AeR 16 3)) (P.m 16 3) q L cd) vars→vars "most"=some (.int 1) →
  wpAny (model B.prog B.w) A (exec raiseG (fE (AaB (AeR 16 3)) (P.m 16 3) q L cd)) (fun jj jj=>False) (Ajn (P.a 4) s) s
end Pq
namespace Pq
variable[Own]
section
variable{B:Aaj}{σ₀ σ σ':AH}{s₀ s s':Shared}{el env:Env}{vl vars:Vars}{l outer:List Env}{A:Around}{LF:Addr}{d:Nat}{x:Value}
theorem Ajf{t:Sem Flow}{Q:AFl→Vars→AH→Prop}{PP:Flow→Shared→Prop}{EE:Value→Shared→Prop}(h:AX B d env vars t σ Q)(r:Room A d)(S:St B σ s)(R:EnvR B σ s.heap env vars)
  (k:∀ f s' b v' σ',Q b v' σ'→FlowR s'.heap b f→EnvR B σ' s'.heap env v'→Ext B (Abz env) σ s σ' s'→PP f s'):wpAny (model B.prog B.w) A t PP EE s:=
 (h A s r S R).wp fun f s' b σ' q rf y=>k f s' b.1 b.2 σ' q rf.1 rf.2 y
inductive G6a(x kb eb:Addr)(σ:AH)(v:Vars)(σ':AH):Prop
 | mk (lb:Addr) (e:v=Abl (Agf ((["self","known","ends","most"]:List Str).zip [.obj x,.obj kb,.obj eb,.int 1]) fun jj=>none) "late" (.obj lb)) (h:σ lb=none) (q:σ'=upd σ lb (.list []))
inductive G6b(t:Tm)(x kb lb:Addr)(σ₂:AH)(xs:List AV)(v:Vars)(σ':AH):Prop
 | mk (hx:xs=[t.av]) (h1:v "self"=some (.obj x)) (h2:v "known"=some (.obj kb)) (h3:v "most"=some (.int 1)) (h4:v "late"=some (.obj lb)) (k:Keep σ₂ σ')
inductive G6c(sds:List Sd)(t:Tm)(x kb lb:Addr)(σ₄:AH)(xs:List AV)(v:Vars)(σ':AH):Prop
 | mk (td:List (Step×Tm)) (hx:xs=td.map AcF) (he:∃ q∈td,q.2≠t) (hn:∀ q∈td,q∈Aas sds t) (h1:v "self"=some (.obj x)) (h2:v "known"=some (.obj kb)) (h3:v "most"=some (.int 1)) (h4:v "late"=some (.obj lb)) (h5:v "term"=some t.av) (q:σ'=σ₄)
inductive G6d(v:Vars)(q:Step×Tm)(σ':AH)(f:AFl)(v':Vars)(σ'':AH):Prop
 | mk (h:f=.next) (e:v'=Abl (Abl v "step" q.1.av) "other" q.2.av) (k:σ''=σ')
inductive G6e(v:Vars)(q:Step×Tm)(kb:Addr)(t:Tm)(σ₀:AH)(v':Vars)(σ'':AH):Prop
 | mk (e:v'=Abl (Abl v "step" q.1.av) "other" q.2.av) (h:σ'' kb=some (.dict ([(t,none),(q.2,some (t,q.1))].map kAV))) (k:Keep σ₀ σ'')
set_option maxHeartbeats 2000000 in
theorem grown_Z(P:Prg B)(LO:Aep P (d+9)){vs:List Value}{x kb eb:Addr}{sds:List Sd}{gb:Bool}{t:Tm}(r:Room A (d+10))(hfr:A.frames=some l)(hel:el∈l)(R:RS B σ₀ s₀ el vl l σ s)
  (rv:VRs s.heap [.obj x,.obj kb,.obj eb,.int 1] vs) (hS:IsSeeker P σ x sds gb) (hn:sds.length≤3) (hk:σ kb=some (.dict ([(t,none)].map kAV))) (he:σ eb=some (.list ([t].map Tm.av))) (hkb0:σ₀ kb=none) (htw:t.w≤4)
  (hq:∃ q∈Aas sds t,q.2≠t):wpAny (model B.prog B.w) A (call (.ref (P.m 16 3)) vs) (fun jj jj=>False) (FlyE B σ₀ s₀ el vl (P.a 4) l) s:=by
 have F:=P.mfn (16,3) (by decide)
 refine z_call (d:=d+9) P.O F (names:=["self","known","ends","most"]) (args:=[.obj x,.obj kb,.obj eb,.int 1]) r hfr R rv (hb4 fun jj jj jj jj jj jj jj jj jj jj jj jj=>rfl) (by decide +kernel) fun qn L cd s₁ r₁ hfr₁ R₁ RS₁ hown hdis=>?_
 have nel:eb≠kb:=fun e=>by subst e;rw[hk] at he;cases he
 refine Acm (d:=d+9) (Q:=G6a x kb eb σ) r₁ RS₁.st R₁ ?_ ?_
 ·refine Aak rfl rfl ?_
  refine AaI ?_
  exact Aaf ⟨lnk rfl,fun lb hlb=>⟨rfl,lb,rfl,hlb,rfl⟩⟩
 rintro v σ₁ s₂ ⟨lb,rfl,hlb,rfl⟩ S₂ E₂ y₂
 have K2:Keep σ (upd σ lb (.list [])):=(Keep.refl σ).upd (.inl hlb) _
 have nlk:lb≠kb:=fun e=>by subst e;rw[hk] at hlb;cases hlb
 have hll:upd σ lb (.list []) lb=some (.list []):=Aac _ _ _
 generalize upd σ lb (.list [])=σ₂ at K2 hll S₂ E₂ y₂
 refine AbR ?_
 refine z_for rfl (d:=d+9) (E0:=Agk B σ₀ s₀ el vl (P.a 4) (fE (AaB (AeR 16 3)) (P.m 16 3) qn L cd::l) L) r₁ S₂ E₂ (fun x s' h=>Ah0 h rfl (Aee h rfl fun s'' h=>h)) ?_
 refine AaC ?_
 refine Aaa (a:=.obj eb) (by rfl) (by rfl) ⟨eb,_,rfl,K2 _ _ he,?_⟩
 refine⟨G6b t x kb lb σ₂,⟨rfl,by rfl,by rfl,by rfl,by rfl,Keep.refl _⟩,(fun v σ' h=>by obtain⟨q,_⟩:=h;cases q),?_⟩
 rintro y xs v σ' hsat ⟨hx,h1,h2,h3,h4,hK⟩
 cases hx
 refine AaA rfl ?_
 intro s₃ S₃ E₃ y₃
 have K3:=K2.trans hK
 have hk3:=K3 _ _ hk
 refine AbR ?_
 refine z_for rfl (d:=d+9) (E0:=RawE B σ₀ s₀ el vl (P.a 4) (fE (AaB (AeR 16 3)) (P.m 16 3) qn L cd::l)) r₁ S₃ E₃ (fun x s' h=>Aiu h hfr₁ rfl fun s'' h=>Aee h rfl fun jj h=>h) ?_
 refine AaC ?_
 refine AaM P.O rfl rfl ?_
 refine Aaa (a:=.obj x) (by rfl) (by exact h1) ?_
 obtain⟨dx,sb,hx1,hx2,hx3⟩:=hS.keep K3
 refine⟨_,Aa1 P.O hx1 hx2 (P.meth ("beside",2) (by decide)) (by rfl),P.mkeep 2 (by decide),rfl,?_⟩
 refine Aag (.loc (a:=t.av) (by rfl) (by rfl) .nil) ((Agg (d:=0) P (hS.keep K3) hn htw).use rfl ?_)
 rintro v₂ σ₄ ⟨bb,bl,rfl,hbb,K4,hbl,hmem,hbll⟩
 refine⟨bb,_,rfl,hbl,?_⟩
 have nbl:bb≠lb:=fun e=>by subst e;rw[hK _ _ hll] at hbb;cases hbb
 have nbk:bb≠kb:=fun e=>by subst e;rw[hk3] at hbb;cases hbb
 have K04:Keep σ₀ σ₄:=(RS₁.keep.trans K3).trans K4
 have hlb0:σ₀ lb=none:=RS₁.keep.none hlb
 refine⟨G6c sds t x kb lb σ₄,
  ⟨bl,rfl,?_,fun q hq=>(hmem q).mp hq,by exact h1,by exact h2,by exact h3,by exact h4,by rfl,rfl⟩,?_,?_⟩
 ·obtain⟨q,hq1,hq2⟩:=hq
  exact⟨q,(hmem q).mpr hq1,hq2⟩
 ·rintro v σ' ⟨td,hx,⟨q,hq1,_⟩,_⟩
  cases td with
  | nil=>cases hq1
  | cons _ _=>cases hx
 ·rintro y xs v σ' hsat2 ⟨td,hx,hex,hnear,g1,g2,g3,g4,g5,rfl⟩
  obtain⟨q,td⟩:=Abb hx
  have hk4:=K4 _ _ hk3
  have hl4:=K4 _ _ (hK _ _ hll)
  have hqw:q.2.w≤4:=by
   have:=(Ahe (show(q.1,q.2)∈Aas sds t from hnear q (.head _))).1
   exact Nat.le_trans this htw
  have hfit:KeyFit ([(t,(none:Option (Tm×Step)))].map kAV) q.2.av:=AgR (fun p hp=>by rw[List.mem_singleton.mp hp];exact htw) hqw
  refine AbP rfl rfl ?_
  refine Aar ?_
  refine AaA rfl ?_
  refine Aar ?_
  refine AaA rfl ?_
  refine AbO ?_
  intro s₅ S₅ E₅ y₅
  by_cases e:q.2=t
  ·
   refine Ajf (d:=d+9) (Q:=G6d v q σ') ?_ r₁ S₅ E₅ ?_
   ·refine Aad ?_
    refine AbV ?_
    refine Aax rfl ?_
    refine Aaa (a:=q.2.av) (by rfl) (by rfl) ?_
    refine Aaa (a:=.obj kb) (by rfl) (by exact g2) (Adt hk4 hfit ?_)
    have:(look ([(t,(none:Option (Tm×Step)))].map kAV) q.2.av).isSome=true:=by rw[Ada,e];simp[Abn,show look ([]:Ab5) _=none from rfl]
    rw[this]
    refine AaV (by decide) ?_
    refine AaK (Aah ?_)
    refine Aad ?_
    refine AbV ?_
    refine Aax rfl ?_
    refine e_g P.O (by rfl) P.g_len rfl ?_
    refine Aag (.loc (a:=.obj kb) (by rfl) (by exact g2) .nil) (AfX hk4 (lnk rfl) ?_)
    refine Aaa (a:=.int 1) (by rfl) (by exact g3) (AbD ?_)
    refine AaV (by simp) ?_
    exact AaK (Aaq ⟨rfl,rfl,rfl⟩)
   ·rintro f s₆ b v' σ'' ⟨rfl,rfl,rfl⟩ hf E₆ y₆
    obtain rfl:f=.next:=hf
    refine⟨rfl,_,_,sat1 hbl,⟨td,rfl,?_,fun q' hq'=>hnear q' (.tail _ hq'),by exact g1,by exact g2,by exact g3,by exact g4,by exact g5,rfl⟩,E₆,y₆⟩
    obtain⟨q',hq1,hq2⟩:=hex
    rcases List.mem_cons.mp hq1 with rfl | h
    ·exact absurd e hq2
    ·exact⟨q',h,hq2⟩
  ·
   refine Acm (d:=d+9) (Q:=G6e v q kb t σ₀) r₁ S₅ E₅ ?_ ?_
   ·refine AbV ?_
    refine Aax rfl ?_
    refine Aaa (a:=q.2.av) (by rfl) (by rfl) ?_
    refine Aaa (a:=.obj kb) (by rfl) (by exact g2) (Adt hk4 hfit ?_)
    have hln:look ([(t,(none:Option (Tm×Step)))].map kAV) q.2.av=none:=by rw[Ada];simp[Abn,show look ([]:Ab5) _=none from rfl,Ne.symm e]
    rw[hln]
    refine Abh (by decide) ?_
    refine Aad ?_
    refine AbZ rfl ?_
    refine Aam ?_
    refine Aag (.loc (a:=t.av) (by rfl) (by exact g5) (.loc (a:=q.1.av) (by rfl) (by rfl) .nil)) ⟨lnk rfl,?_⟩
    refine Aaa (a:=.obj kb) (by rfl) (by exact g2) ?_
    refine Aaa (a:=q.2.av) (by rfl) (by rfl) ⟨kb,_,rfl,hk4,hfit,by simp,?_⟩
    refine Aah ?_
    rw[Ab6 hln]
    have hl5:upd σ' kb (.dict ([(t,(none:Option (Tm×Step)))].map kAV++[(q.2.av,.tup [t.av,q.1.av])])) lb=some (.list []):=by rw[Aai _ _ nlk];exact hl4
    refine Aad ?_
    refine Ace rfl rfl ?_
    refine AaM P.O rfl rfl ?_
    refine Aaa (a:=.obj lb) (by rfl) (by exact g4) ?_
    refine⟨_,Aa3 hl5,rfl,rfl,?_⟩
    refine Aag (.loc (a:=q.2.av) (by rfl) (by rfl) .nil) (Aa6 hl5 (lnk rfl) ?_)
    refine Aaq ⟨rfl,rfl,?_,(K04.upd (.inr hkb0) _).upd (.inr hlb0) _⟩
    rw[Aai _ _ (Ne.symm nlk),Aac]
    rfl
   ·rintro v' σ₆ s₆ ⟨rfl,hk6,K06⟩ S₆ E₆ y₆
    refine AbR ?_
    refine z_if (d:=d+9) r₁ S₆ E₆ ?_
    refine Aax rfl ?_
    refine e_g P.O (by rfl) P.g_len rfl ?_
    refine Aag (.loc (a:=.obj kb) (by rfl) (by exact g2) .nil) (AfX hk6 (lnk rfl) ?_)
    refine Aaa (a:=.int 1) (by rfl) (by exact g3) (AbD ?_)
    refine⟨by simp,?_⟩
    intro s₇ S₇ E₇ y₇
    refine AbR ?_
    have yy:=(((y₂.trans y₃).trans y₅).trans y₆).trans y₇
    have RS₇:=RS₁.go yy hown (fun o ho b h1 h2=>hdis o ho b h1 h2) K06
    refine wpAny_mono (LO _ _ _ _ _ _ _ r₁ S₇ E₇ (by exact g3)) (fun jj jj f=>f.elim) fun x s' h=>raw_of h (l:=fE (AaB (AeR 16 3)) (P.m 16 3) qn L cd::l) ⟨RS₇.st,RS₇.ext,RS₇.keep,RS₇.law,fun o ho=>?_⟩ (.tail _ hel)
    rcases List.mem_cons.mp ho with rfl | ho
    ·exact⟨rfl,_,E₇⟩
    ·exact RS₇.outs o ho
end
end Pq
namespace Pq
variable[Own]
section
variable{B:Aaj}{σ₀ σ σ':AH}{s₀ s s':Shared}{el env:Env}{vl vars:Vars}{l outer:List Env}{A:Around}{LF:Addr}{d:Nat}
theorem z_meth(O:BOk B){o e:Expr}{name:Str}{apos pos:Pos}{rest:List Expr}{QQ EE:Value→Shared→Prop}(r:Room A d)(S:St B σ s)(R:EnvR B σ s.heap env vars)
  (h:AE B d env vars (eval o env) σ fun ov σ₁=>∃ f,AbQ B ov name (.ref f) σ₁∧AaO B.K (.ref f)=true∧AEs B d env vars (spliced (backTo pos (starEach (e::rest) env))) σ₁ fun l' σ₂=>
   ∀ s₂ vs,St B σ₂ s₂→EnvR B σ₂ s₂.heap env vars→Ext B (Abz env) σ s σ₂ s₂→VRs s₂.heap (ov::l') vs→wpAny (model B.prog B.w) A (call (.ref f) vs) QQ EE s₂)
  (hbase:attributeBase o name env (eval o env)=eval o env) (hz:mOk pos apos (e::rest)=true) :
  wpAny (model B.prog B.w) A (eval (.Call (.Attribute o name apos) (e::rest) [] pos) env) QQ EE s:=by
 obtain⟨hfew,hline,he,hplain⟩:=mOk_at (env:=env) hz
 refine Act ((h A s r S R).wp fun ov s₁ oa σ₁ q ro x=>?_) hbase hfew hline
 obtain⟨f,hm,hc,q⟩:=q
 refine⟨.ref f,fun pl P E hp=>hm A s₁ ov pl P E x.st ro hp,?_⟩
 refine callWith_K (O.K.keeps x.st.base) hc ((q A s₁ r x.st (R.go x)).wp fun vs s₂ l' σ₂ q₂ rvs y=>⟨O.K.keeps y.st.base,?_⟩) he hplain
 exact q₂ s₂ _ y.st ((R.go x).go y) ((x.trans y).weaken fun jj f=>f.elim) ⟨ov,vs,rfl,ro.mono y.tup,rvs⟩
theorem z_if2{test:Expr}{body orelse:List Stmt}{pos:Pos}{EE:Value→Shared→Prop}{QQ:Flow→Shared→Prop}(r:Room A d)(S:St B σ s)(R:EnvR B σ s.heap env vars)
  (h:AT B d env vars (isTrue test env (eval test env)) σ fun c σ₁=>c=true∧σ₁=σ) (k:∀ s₁,St B σ s₁→EnvR B σ s₁.heap env vars→Ext B (Abz env) σ s σ s₁→wpAny (model B.prog B.w) A (execs body env) QQ EE s₁) :
  wpAny (model B.prog B.w) A (exec (.If test body orelse pos) env) QQ EE s:=
 z_if r S R (h.mono fun c σ₁ ⟨a,b⟩=>⟨a,by subst b;exact k⟩)
noncomputable def y2(x:Addr)(t u:Tm)(ha ta:Addr):Vars:=Abl (Abl (Agf ((["self","t","u","most"]:List Str).zip [.obj x,t.av,u.av,.int 1]) fun jj=>none) "here" (.obj ha)) "there" (.obj ta)
noncomputable def y4(x:Addr)(t u:Tm)(ha ta ob eb:Addr):Vars:=Abl (Abl (y2 x t u ha ta) "others" (.obj ob)) "ends" (.obj eb)
noncomputable def y5(x:Addr)(t u:Tm)(ha ta ob eb mb:Addr):Vars:=Abl (y4 x t u ha ta ob eb) "meeting" (.obj mb)
inductive Y7a(x:Addr)(t u:Tm)(σ:AH)(v:Vars)(σ':AH):Prop
 | mk (ha ta:Addr) (e:v=y2 x t u ha ta) (n:ha≠ta) (h1:σ ha=none) (h2:σ ta=none) (k:Keep σ σ') (h3:σ' ha=some (.dict ([(t,none)].map kAV))) (h4:σ' ta=some (.dict ([(u,none)].map kAV)))
inductive Y7b(x:Addr)(t u:Tm)(ha ta:Addr)(σ₁:AH)(v:Vars)(σ':AH):Prop
 | mk (eb ob:Addr) (e:v=y4 x t u ha ta ob eb) (k:Keep σ₁ σ') (h1:σ' eb=some (.list ([t].map Tm.av))) (h2:σ' ob=some (.list ([u].map Tm.av)))
inductive Y7c(x:Addr)(t u:Tm)(ha ta ob eb:Addr)(σ₂:AH)(v:Vars)(σ':AH):Prop
 | mk (mb:Addr) (e:v=y5 x t u ha ta ob eb mb) (k:Keep σ₂ σ') (h:σ' mb=some (.list []))
inductive Y7d(v0:Vars)(σ0:AH)(v:Vars)(σ':AH):Prop
 | mk (e:v=v0) (k:σ'=σ0)
inductive Y7e(t:Tm)(σ₂:AH)(c:Addr)(xs ys:List AV)(σ'':AH):Prop
 | mk (e:σ''=upd σ₂ c (.list [(kAV (t,none)).1])) (h:ys=[]) (k:xs=[t.av]∨xs=[])
set_option maxHeartbeats 4000000 in
theorem way_Z(P:Prg B)(LO:Aep P 9){vs:List Value}{x:Addr}{sds:List Sd}{gb:Bool}{t u:Tm}(r:Room A (d+12))(hfr:A.frames=some l)(hel:el∈l)(R:RS B σ₀ s₀ el vl l σ s)
  (rv:VRs s.heap [.obj x,t.av,u.av,.int 1] vs) (hS:IsSeeker P σ x sds gb) (hn:sds.length≤3) (htw:t.w≤4) (huw:u.w≤4) (htu:t≠u)
  (hq:∃ q∈Aas sds t,q.2≠t):wpAny (model B.prog B.w) A (call (.ref (P.m 16 5)) vs) (fun jj jj=>False) (FlyE B σ₀ s₀ el vl (P.a 4) l) s:=by
 have F:=P.mfn (16,5) (by decide)
 refine z_call (d:=d+11) P.O F (names:=["self","t","u","most"]) (args:=[.obj x,t.av,u.av,.int 1]) r hfr R rv (hb4 fun jj jj jj jj jj jj jj jj jj jj jj jj=>rfl) (by decide +kernel) fun qn L cd s₁ r₁ hfr₁ R₁ RS₁ hown hdis=>?_
 have fit0:∀ v:Tm,v.w≤4→Fits [] [(v.av,AV.none)]:=fun v hv=>⟨.inr ⟨.term,AcV hv,fun jj h=>nomatch h⟩,trivial⟩
 refine Acm (d:=d+11) (Q:=Y7a x t u σ) r₁ RS₁.st R₁ ?_ ?_
 ·refine AaS rfl rfl ?_
  refine Aam ?_
  refine Aab rfl (AdB rfl (Abr (Aaa (a:=t.av) (by rfl) (by rfl) (Aat (AcB ⟨fit0 t htw,by simp,fun ha hha=>?_⟩)))))
  refine Aab rfl (AdB rfl (Abr (Aaa (a:=u.av) (by rfl) (by rfl) (Aat (AcB ⟨fit0 u huw,by simp,fun ta hta=>?_⟩)))))
  refine Aaf ⟨lnk rfl,?_⟩
  refine a_n2 rfl rfl ?_
  have hne:ha≠ta:=fun q=>by subst q;rw[Aac] at hta;cases hta
  refine⟨rfl,ha,ta,rfl,hne,hha,by rw[Aai _ _ (Ne.symm hne)] at hta;exact hta,((Keep.refl σ).upd (.inl hha) _).upd (.inl hta) _,?_,?_⟩
  ·rw[Aai _ _ hne,Aac];rfl
  ·rw[Aac];rfl
 rintro v σ₁ s₂ ⟨ha,ta,rfl,hne,hha,hta,K1,d1,d2⟩ S₂ E₂ y₂
 refine Acm (d:=d+11) (Q:=Y7b x t u ha ta σ₁) r₁ S₂ E₂ ?_ ?_
 ·refine AbA rfl rfl (names:=["ends","others"]) ?_
  refine Aam ?_
  refine Aab rfl (AaI (Aag (.loc (a:=t.av) (by rfl) (by rfl) .nil) ⟨lnk rfl,fun eb heb=>?_⟩))
  refine Aab rfl (AaI (Aag (.loc (a:=u.av) (by rfl) (by rfl) .nil) ⟨lnk rfl,fun ob hob=>?_⟩))
  refine Aaf ⟨lnk rfl,_,rfl,rfl,?_⟩
  refine Aar (AdH rfl (Aar (AdH rfl (AbO ?_))))
  have hneb:eb≠ob:=fun q=>by subst q;rw[Aac] at hob;cases hob
  refine⟨rfl,eb,ob,rfl,((Keep.refl σ₁).upd (.inl heb) _).upd (.inl hob) _,?_,Aac _ _ _⟩
  rw[Aai _ _ hneb,Aac];rfl
 rintro v σ₂ s₃ ⟨eb,ob,rfl,K2,le,lo⟩ S₃ E₃ y₃
 have K12:=K1.trans K2
 have hha0:σ₀ ha=none:=RS₁.keep.none hha
 refine AbR ?_
 refine z_while (d:=d+11) (E0:=FlyE B σ₀ s₀ el vl (P.a 4) (fE (AaB (AeR 16 5)) (P.m 16 5) qn L cd::l)) r₁ S₃ E₃ (fun x s' h=>AiZ h hfr₁ rfl fun s'' h=>Aee h rfl fun jj h=>h) ?_
 refine Aa9 rfl (Abf (AaU ⟨rfl,?_⟩))
 intro s₄ S₄ E₄ y₄
 refine Acm (d:=d+11) (Q:=Y7c x t u ha ta ob eb σ₂) r₁ S₄ E₄ ?_ ?_
 ·refine AaG rfl rfl rfl (cl:=[("there",L+1)]) ⟨by rfl,by rfl,by simp,by rfl,by decide,by rfl,by decide⟩ ?_
  refine AaC ?_
  refine e_g P.O (by rfl) P.g_sorted rfl ?_
  refine Aag (.loc (a:=.obj ha) (by rfl) (by rfl) .nil) ?_
  refine AbY (τ:=.term) (K2 _ _ d1) (fun kv hkv=>?_) (by simp) fun c l hc hp=>?_
  ·simp[kAV] at hkv;subst hkv;exact AcV htw
  obtain rfl:=List.perm_singleton.mp hp
  refine⟨c,_,rfl,Aac _ _ _,by simp,?_⟩
  have Kc:Keep σ₂ (upd σ₂ c (.list [(kAV (t,none)).1])):=(Keep.refl σ₂).upd (.inl hc) _
  refine⟨Y7e t σ₂ c,⟨rfl,rfl,.inl rfl⟩,?_,?_⟩
  ·rintro C y xs ys σ'' hsat ⟨rfl,rfl,hx | hx⟩
   ·cases hx
    refine AaY rfl (AdC ?_)
    refine Aax rfl (Aaa (a:=t.av) (by rfl) (by rfl) (AaD (a:=.obj ta) (by rfl) (by rfl) (c_in (Kc _ _ (K2 _ _ d2)) (AgR (fun p hp=>by rw[List.mem_singleton.mp hp];exact huw) htw) ?_)))
    rw[Ada]
    have:look [(u,(none:Option (Tm×Step)))] t=none:=by simp[Abn,show look ([]:Ab5) _=none from rfl,Ne.symm htu]
    rw[this]
    refine AaV (by decide) ?_
    exact⟨hsat,rfl,rfl,.inr rfl⟩
   ·cases hx
  ·rintro ys σ'' hsat ⟨rfl,rfl,_⟩ hlen a ha'
   exact⟨rfl,a,rfl,Kc.upd (.inl ha') _,Aac _ _ _⟩
 rintro v σ₃ s₅ ⟨mb,rfl,K3,hm⟩ S₅ E₅ y₅
 have le3:=K3 _ _ le
 have lo3:=K3 _ _ lo
 have d13:=K3 _ _ (K2 _ _ d1)
 have KK:=K12.trans K3
 obtain⟨dx,sb,hx1,hx2,hx3⟩:=hS.keep KK
 refine Acm (d:=d+11) (Q:=Y7d (y5 x t u ha ta ob eb mb) σ₃) r₁ S₅ E₅ ?_ ?_
 ·refine AbV ?_
  refine Aax rfl ?_
  refine e_g P.O (by rfl) P.g_len rfl ?_
  refine Aag (.loc (a:=.obj mb) (by rfl) (by rfl) .nil) (Abo hm (by decide) ?_)
  refine Aae (AbD ?_)
  refine AaV (by decide) ?_
  exact AaK ⟨rfl,rfl,rfl⟩
 rintro v σ' s₆ ⟨rfl,rfl⟩ S₆ E₆ y₆
 refine Acm (d:=d+11) (Q:=Y7d (y5 x t u ha ta ob eb mb) σ') r₁ S₆ E₆ ?_ ?_
 ·refine AbV ?_
  refine Ad2 ?_
  refine Aax rfl ?_
  refine e_g P.O (by rfl) P.g_len rfl ?_
  refine Aag (.loc (a:=.obj eb) (by rfl) (by rfl) .nil) (Abo le3 (by simp) ?_)
  refine Aae (AbU ?_)
  refine AaV (by simp) ?_
  refine Ad2 ?_
  refine AdJ ?_
  refine Aa9 rfl ?_
  refine Ahs P.O (by rfl) (by rfl) hx1 hx2 (P.sget "goes_back" (by decide)).1 (by rfl) rfl (AaU ?_)
  cases gb with
  | false=>
   refine Ad1 ?_
   refine AaV (by decide) ?_
   exact AaK ⟨rfl,rfl,rfl⟩
  | true=>
   refine Abh rfl ?_
   refine AdJ ?_
   refine Aax rfl ?_
   refine e_g P.O (by rfl) P.g_len rfl ?_
   refine Aag (.loc (a:=.obj ob) (by rfl) (by rfl) .nil) (Abo lo3 (by simp) ?_)
   refine Aae (AbU ?_)
   refine Ad1 ?_
   refine AaV (by decide) ?_
   exact AaK ⟨rfl,rfl,rfl⟩
 rintro v σ'' s₇ ⟨rfl,rfl⟩ S₇ E₇ y₇
 refine AbR ?_
 refine z_if2 (d:=d+11) r₁ S₇ E₇ ?_ ?_
 ·refine Ad2 ?_
  refine Ags ?_
  refine Aa9 rfl ?_
  refine Ahs P.O (by rfl) (by rfl) hx1 hx2 (P.sget "goes_back" (by decide)).1 (by rfl) rfl (AaU ?_)
  cases gb with
  | false=>
   refine Abh rfl ?_
   exact⟨rfl,rfl⟩
  | true=>
   refine AaV (by decide) ?_
   refine Ad2 ?_
   refine Aax rfl ?_
   refine e_g P.O (by rfl) P.g_len rfl ?_
   refine Aag (.loc (a:=.obj eb) (by rfl) (by rfl) .nil) (Abo le3 (by simp) ?_)
   refine e_g P.O (by rfl) P.g_len rfl ?_
   refine Aag (.loc (a:=.obj ob) (by rfl) (by rfl) .nil) (Abo lo3 (by simp) ?_)
   refine Aft ?_
   refine Abh rfl ?_
   exact⟨rfl,rfl⟩
 intro s₈ S₈ E₈ y₈
 refine AbR ?_
 refine wpAny_Assign_Name ?_
 refine wpAny_mono (Q:=fun jj jj=>False) ?_ (fun jj jj f=>f.elim) fun jj jj e=>e
 refine z_meth (d:=d+11) P.O r₁ S₈ E₈ ?_ rfl rfl
 refine Aaa (a:=.obj x) (by rfl) (by rfl) ?_
 refine⟨_,Aa1 P.O hx1 hx2 (P.meth ("grown",3) (by decide)) (by rfl),P.mkeep 3 (by decide),?_⟩
 refine Aag (.loc (a:=.obj ha) (by rfl) (by rfl) (.loc (a:=.obj eb) (by rfl) (by rfl) (.loc (a:=.int 1) (by rfl) (by rfl) .nil))) ?_
 intro s₉ vs₉ S₉ E₉ y₉ rv₉
 have yy:=(((((((y₂.trans y₃).trans y₄).trans y₅).trans y₆).trans y₇).trans y₈).trans y₉)
 have RS₉:=RS₁.go yy hown (fun o ho b h1 h2=>hdis o ho b h1 h2) (RS₁.keep.trans KK)
 refine grown_Z (d:=0) P LO (r₁.less (ln1 (.g 0 (.a (.n 0) (.n 10)) (.p 0 11)) rfl)) hfr₁ (.tail _ hel) ⟨RS₉.st,RS₉.ext,RS₉.keep,RS₉.law,fun o ho=>?_⟩ rv₉ (hS.keep KK) hn d13 le3 hha0 htw hq
 rcases List.mem_cons.mp ho with rfl | ho
 ·exact⟨rfl,_,E₉⟩
 ·exact RS₉.outs o ho
end
end Pq
namespace Pq
variable[Own]
section
variable{B:Aaj}{σ₀ σ σ':AH}{s₀ s s':Shared}{el env:Env}{vl vars:Vars}{l outer:List Env}{A:Around}{LF:Addr}{d:Nat}{Hb:Heap}
theorem RS.dict(R:RS B σ₀ s₀ el vl l σ s){b:Addr}(h:b∈l.map (·.locals)):σ b=none∧B.h₀.get? b=none∧∃ ob es ep,s.heap.get? b=some ob∧ob.data=.dict es ep:=by
 obtain⟨o,ho,rfl⟩:=List.mem_map.mp h
 obtain⟨_,v,hv⟩:=R.outs o ho
 obtain⟨m,⟨ob,es,ep,h1,h2,_⟩,_⟩:=hv.ns
 exact⟨hv.loc.1,hv.loc.2,ob,es,ep,h1,h2⟩
theorem Esc.base(E:Esc B σ₀ s₀ el vl Hb s):∀ b o,B.h₀.get? b=some o→Hb.get? b=some o:=fun b o e=>by
 obtain⟨σ₁,s₁,la,R,_,rfl,_,_,_⟩:=E.at_
 refine hideAll_get _ (R.st.base b o e) fun hm=>?_
 have:=(R.dict hm).2.1
 rw[this] at e;cases e
theorem Esc.done(E:Esc B σ₀ s₀ el vl Hb s)(hs:Hb.StaysIn s.heap):∃ σ',Keep σ₀ σ'∧St B σ' s∧EnvR B σ' s.heap el vl:=by
 have hbase:=E.base
 obtain⟨σ₁,s₁,la,R,hel,rfl,up,hg,ho⟩:=E.at_
 have keep:∀ b o,s₁.heap.get? b=some o→b∉la.map (·.locals)→s.heap.get? b=some o:=fun b o e hn=>hs b o (hideAll_get _ e hn)
 have T:TupKeep s₁.heap s.heap:=fun a items ⟨n,e,hb⟩=>⟨n,keep a _ e (fun hm=>by
  obtain⟨_,_,ob,es,ep,h1,h2⟩:=R.dict hm
  rw[e] at h1;cases h1;cases h2),hb⟩
 refine⟨σ₁,R.keep,⟨fun b o e=>hs b o (hbase b o e),R.st.apart,fun a o e=>(R.st.objs a o e).mono (fun ob q=>keep a ob q fun hm=>?_) T,hg.trans R.st.gens,ho.trans R.st.os,R.st.lo,fun b hb=>?_⟩,?_⟩
 ·rw[(R.dict hm).1] at e;cases e
 ·obtain⟨o,e⟩:=R.st.bad b hb
  by_cases hm:b∈la.map (·.locals)
  ·obtain⟨_,_,ob,es,ep,h1,h2⟩:=R.dict hm
   obtain⟨sl,h⟩:=up b ob h1 fun vs q=>by rw[h2] at q;cases q
   exact⟨_,h⟩
  ·exact⟨o,keep b o e hm⟩
 ·have L:=R.law
  obtain⟨m,hm,hv⟩:=L.ns
  have cellUp:∀ c v,s₁.heap.IsCell c v→s.heap.IsCell c v:=fun c v ⟨o,e,hd⟩=>by
   obtain⟨sl,h⟩:=up c o e fun vs q=>by rw[hd] at q;cases q
   exact⟨_,h,hd⟩
  refine⟨L.kind,L.globals,L.builtins,⟨m,up.ns hm,fun x hx=>(hv x hx).mono fun jj jj z=>z.mono T⟩,L.loc,fun x hx=>?_,fun x c hc=>?_,L.apart⟩
  ·obtain⟨c,v,h1,h2,h3⟩:=L.cell x hx
   exact⟨c,v,h1,cellUp c v h2,h3.mono fun jj jj z=>z.mono T⟩
  ·obtain⟨h1,h2,h3,v,h4⟩:=L.cells x c hc
   exact⟨h1,h2,h3,v,cellUp c v h4⟩
set_option maxHeartbeats 2000000 in
theorem narrow_Z(P:Prg B)(LO:Aep P 9)(hLF:exmOne B.K (.ref (P.a 4)) (.ref (P.a 4))=some true){vs:List Value}{x:Addr}{sds:List Sd}{gb:Bool}{t u:Tm}(r:Room A (d+14))(hfr:A.frames=some [el])(hfl:el.frame=some el.locals)(S:St B σ s)(E:EnvR B σ s.heap el vl)
  (rv:VRs s.heap [.obj x,t.av,u.av] vs) (hS:IsSeeker P σ x sds gb) (hn:sds.length≤3) (htw:t.w≤4) (huw:u.w≤4) (htu:t≠u) (hq:∃ q∈Aas sds t,q.2≠t) :
  wpAny (model B.prog B.w) A (call (.ref (P.a 31)) vs) (fun v s'=>(∃ tk,v=.str "limit" tk)∧∃ σ',Keep σ σ'∧St B σ' s'∧EnvR B σ' s'.heap el vl) (fun jj jj=>False) s:=by
 have F:=P.fn 31 (by decide)
 have R:RS B σ s el vl [el] σ s:=⟨S,.refl S,Keep.refl σ,E,fun o ho=>by rw[List.mem_singleton.mp ho];exact⟨hfl,vl,E⟩⟩
 refine wpAny_call ?_
 refine z_code (d:=d+13) P.O F (names:=["seeker","t","u"]) (args:=[.obj x,t.av,u.av]) (RR:=fun r s'=>match r with | .ok (.ret v)=>(∃ tk,v=.str "limit" tk)∧∃ σ',Keep σ σ'∧St B σ' s'∧EnvR B σ' s'.heap el vl | .ok _=>False | .error _=>False) r hfr R rv (hb3 fun jj jj jj jj jj jj jj jj jj jj jj=>rfl) (by decide +kernel) fun qn L cd s₁ r₁ hfr₁ R₁ RS₁ hown hdis=>?_
 refine wpAny_execs_cons ?_
 refine wpAny_mono (Q:=fun f s'=>∃ v,f=.ret v∧(∃ tk,v=.str "limit" tk)∧∃ σ',Keep σ σ'∧St B σ' s'∧EnvR B σ' s'.heap el vl) (E:=fun jj jj=>False) ?_ (fun f s' ⟨v,e,h⟩=>by subst e;exact h) fun jj jj f=>f.elim
 refine(arm_exec_Try _ _ _ _ _ _).symm▸?_
 refine wpAny_bind (wpAny_standAt (wpAny_tryStmt_except ?_))
 refine wpAny_mono (Q:=fun jj jj=>False) (E:=FlyE B σ s el vl (P.a 4) (fE (AaB (Acl 31)) (P.a 31) qn L cd::[el])) ?_ (fun jj jj f=>f.elim) ?_
 ·refine AbR ?_
  refine wpAny_Return_some ?_
  obtain⟨dx,sb,hx1,hx2,hx3⟩:=id hS
  refine z_meth (d:=d+13) P.O r₁ RS₁.st R₁ ?_ rfl rfl
  refine Aaa (a:=.obj x) (by rfl) (by rfl) ?_
  refine⟨_,Aa1 P.O hx1 hx2 (P.meth ("way",5) (by decide)) (by rfl),P.mkeep 5 (by decide),?_⟩
  refine Aag (.loc (a:=t.av) (by rfl) (by rfl) (.loc (a:=u.av) (by rfl) (by rfl) (.int .nil))) ?_
  intro s₉ vs₉ S₉ E₉ y₉ rv₉
  have RS₉:=RS₁.go y₉ hown (fun o ho b h1 h2=>hdis o ho b h1 h2) RS₁.keep
  refine way_Z (d:=d+1) P LO r₁ hfr₁ (.tail _ (.head _)) ⟨RS₉.st,RS₉.ext,RS₉.keep,RS₉.law,fun o ho=>?_⟩ rv₉ hS hn htw huw htu hq
  rcases List.mem_cons.mp ho with rfl | ho
  ·exact⟨rfl,_,E₉⟩
  ·exact RS₉.outs o ho
 ·rintro z s₂ ⟨e,a0,Hb,rfl,Es,hfly⟩
  have hbase:=Es.base
  refine z_catch (K:=B.K) (LF:=P.a 4) (w:=B.w) (prog:=B.prog) hfly hfr₁ rfl (fun h' st=>P.O.K.keeps fun b o q=>st b o (hbase b o q)) hLF ?_ ?_
  ·intro A' s' Q' E' st q'
   obtain⟨mg,G⟩:=P.O.g
   have Gs:s'.heap.Ns mainGlobals mg:=G.keeps fun b o q=>st b o (hbase b o q)
   have hg:=P.gfn ("LimitFault",4) (by decide)
   rcases gval_of hg with ev | ⟨_,hb⟩
   ·exact Name_function_global (env:=fE (AaB (Acl 31)) (P.a 31) qn L cd) rfl (by rfl) (loadGlobal_global Gs (mg_of P.O.K G ev) q') (by decide)
   ·exact nosn hb (show bootBuiltins ("LimitFault":Str)=none by decide +kernel)
  ·intro h' tk v hf hu hv
   refine⟨v,rfl,⟨tk,hv⟩,?_⟩
   have E2:Esc B σ s el vl Hb { s₂ with heap:=h',toks:=s₂.toks+1 }:=by
    obtain⟨σ₁,s₁',la,a,b,c,d',e',f'⟩:=Es.at_
    exact⟨σ₁,s₁',la,a,b,c,d'.trans hu,e',f'⟩
   exact E2.done hf.1
end
end Pq
namespace Pq
variable[Own]
section
variable{B:Aaj}{σ:AH}{env:Env}{vars:Vars}{d:Nat}{pos:Pos}
theorem x_try{body:List Stmt}{h0:ExceptHandler}{hs:List ExceptHandler}{Q:AFl→Vars→AH→Prop}(h:AX B d env vars (execs body env) σ Q):AX B d env vars (exec (.Try body (h0::hs) [] [] pos) env) σ Q:=by
 intro A s r S R
 unfold W
 rw[arm_exec_Try]
 refine wpAny_bind (wpAny_standAt (wpAny_tryStmt_except ((h A s r S R).wp fun f s₁ b σ₁ q rf y=>?_)))
 obtain⟨af,v⟩:=b
 obtain⟨hf,R₁⟩:=rf
 cases af with
 | next=>subst hf;exact wpAny_execs_nil ⟨(.next,v),σ₁,q,⟨rfl,R₁⟩,y⟩
 | brk=>subst hf;exact⟨(.brk,v),σ₁,q,⟨rfl,R₁⟩,y⟩
 | cont=>subst hf;exact⟨(.cont,v),σ₁,q,⟨rfl,R₁⟩,y⟩
 | ret a=>obtain⟨w,rfl,hw⟩:=hf;exact⟨(.ret a,v),σ₁,q,⟨⟨w,rfl,hw⟩,R₁⟩,y⟩
theorem AiE(P:Prg B){x:Addr}{sds:List Sd}{t u:Tm}(hS:IsSeeker P σ x sds (AgN sds))(hn:sds.length≤3)(htw:t.w≤4)(hu:InS sds u)(htu:t≠u)(hq:∀ q∈Aas sds t,q.2=t):
  AK B (d+14) (.ref (P.a 31)) [.obj x,t.av,u.av] σ fun v σ'=>v=.none∧Keep σ σ':=by
 have F:=P.fn 31 (by decide)
 refine Abm (d:=d+13) P.O F (names:=["seeker","t","u"]) (hb3 fun jj jj jj jj jj jj jj jj jj jj jj=>rfl) (by decide +kernel) fun qn L cd=>?_
 refine Aad ?_
 refine x_try ?_
 refine Aad ?_
 refine Aal ?_
 refine AaM P.O rfl rfl ?_
 refine Aaa (a:=.obj x) (by rfl) (by rfl) ?_
 obtain⟨dx,sb,hx1,hx2,hx3⟩:=id hS
 refine⟨_,Aa1 P.O hx1 hx2 (P.meth ("way",5) (by decide)) (by rfl),P.mkeep 5 (by decide),rfl,?_⟩
 refine Aab rfl (Aaa (a:=t.av) (by rfl) (by rfl) ?_)
 refine Aab rfl (Aaa (a:=u.av) (by rfl) (by rfl) ?_)
 refine Aab rfl (Aae ?_)
 obtain⟨S2,c2,m2,l2⟩:=hu
 have c1:Closed sds [t]:=⟨fun p hp q hq'=>by rw[List.mem_singleton.mp hp] at hq';rw[hq q hq'];exact .head _,fun p hp=>by rw[List.mem_singleton.mp hp];exact htw⟩
 refine Aaf ((way_AK (d:=0) (most:=1) P hS hn AeK c1 c2 (.head _) m2 (lnk rfl) l2 (fun jj=>⟨by simp,.inr (lnk rfl)⟩)).use rfl ?_)
 rintro v σ' ⟨K,hW⟩
 rcases hW with ⟨rfl,_⟩ | ⟨b,l,rfl,_,_,hs,_⟩
 ·exact Aap (Aap ⟨rfl,K⟩)
 ·have:=c1.rch (.head _) (⟨l,rfl,hs.1⟩:Rch sds l.length t u)
  exact absurd (List.mem_singleton.mp this).symm htu
theorem z_cmp{l rt:Expr}{op:CmpOp}{A:Around}{s:Shared}{whole:Sem Value}{QQ:Bool→AH→Prop}(hm:AdW rt=true)(r:Room A d)
  (h:wpAny (model B.prog B.w) A (eval l env) (fun va s₁=>∃ a σ₁,VR s₁.heap a va∧St B σ₁ s₁∧EnvR B σ₁ s₁.heap env vars∧AE B d env vars (eval rt env) σ₁ fun b σ₂=>Adl B d op a b σ₂ QQ) (fun jj jj=>False) s) :
  wpAny (model B.prog B.w) A (isTrue (.Compare l [op] [rt] pos) env whole) (fun c s'=>∃ σ',QQ c σ'∧St B σ' s'∧EnvR B σ' s'.heap env vars) (fun jj jj=>False) s:=by
 refine wpAny_isTrue_Compare1 (wpAny_mono h (fun va s₁ h₁=>?_) fun jj jj e=>e) ((Aba hm).bm _)
 obtain⟨a,σ₁,rv,S₁,R₁,q⟩:=h₁
 refine(q A s₁ r S₁ R₁).wp fun vb s₂ b σ₂ q₂ rv₂ y=>(q₂ A s₂ va vb r y.st (rv.mono y.tup) rv₂).wp fun v s₃ c σ₃ q₃ rv₃ z=>?_
 subst rv₃
 exact wpAny_truthy_bool ⟨σ₃,q₃,z.st,(R₁.go y).go z⟩
theorem z_ecall(O:BOk B){func e:Expr}{rest:List Expr}{A:Around}{s:Shared}{QQ EE:Value→Shared→Prop}(r:Room A d)(S:St B σ s)(R:EnvR B σ s.heap env vars)
  (h:AE B d env vars (eval func env) σ fun f σ₁=>∃ a,f=.raw (.ref a)∧AaO B.K (.ref a)=true∧AEs B d env vars (spliced (backTo pos (starEach (e::rest) env))) σ₁ fun l σ₂=>
   ∀ s₂ vs,St B σ₂ s₂→EnvR B σ₂ s₂.heap env vars→VRs s₂.heap l vs→wpAny (model B.prog B.w) A (call (.ref a) vs) QQ EE s₂)
  (hf:eval (.Call func (e::rest) [] pos) env=(do callWith pos (← eval func env) [] (backTo pos (starEach (e::rest) env)) (backToKw pos (keywordEach [] env))))
  (he:starEach (e::rest) env=(false,eval e env)::starEach rest env) (hplain:(backTo pos (starEach rest env)).any (·.1)=false) :
  wpAny (model B.prog B.w) A (eval (.Call func (e::rest) [] pos) env) QQ EE s:=by
 refine Call_ ((h A s r S R).wp fun fv s₁ fa σ₁ q rv x=>?_) hf
 obtain⟨a,rfl,hc,q⟩:=q
 obtain rfl:fv=.ref a:=rv
 refine callWith_K (O.K.keeps x.st.base) hc ((q A s₁ r x.st (R.go x)).wp fun vs s₂ l' σ₂ q₂ rvs y=>⟨O.K.keeps y.st.base,q₂ s₂ vs y.st ((R.go x).go y) rvs⟩) he hplain
set_option maxHeartbeats 2000000 in
theorem AhX(P:Prg B)(LO:Aep P 9)(hLF:exmOne B.K (.ref (P.a 4)) (.ref (P.a 4))=some true){A:Around}{s:Shared}{ks ts:List Sd}{hb kb tb sb x:Addr}{t u:Tm}{q:Str}{L f:Addr}{cd:Value}
  (r:Room A (d+20)) (hfr:A.frames=some [LE q L f cd]) (S:St B σ s) (E:EnvR B σ s.heap (LE q L f cd) vars) (I:LawI P ks ts hb kb tb sb x vars σ) (LK:LawK ks ts) (hvt:vars "t"=some t.av) (hvu:vars "u"=some u.av) (hti:InS (ks++ts) t) (hui:InS (ks++ts) u) :
  wpAny (model B.prog B.w) A (exec ((AcO (Acl 32)).getD 15 (.Pass ⟨0,0,0,0⟩)) (LE q L f cd)) (fun f' s'=>f'=.next∧∃ vars' σ',St B σ' s'∧EnvR B σ' s'.heap (LE q L f cd) vars'∧Keep σ σ'∧∀ y:Str,y≠"others"→vars' y=vars y) (fun jj jj=>False) s:=by
 have hkl:(ks++ts).length≤3:=Nat.le_trans (Nat.le_of_eq List.length_append) (Nat.add_le_add LK.kl LK.tl)
 have htw:=hti.w
 have huw:=hui.w
 have htd:=t.depth_w
 have hud:=u.depth_w
 by_cases htu:t=u
 ·subst htu
  refine Ajf (d:=d+20) (Q:=fun f v σ'=>f=.next∧v=vars∧σ'=σ) ?_ r S E ?_
  ·refine AbV ?_
   refine Aax rfl ?_
   refine AaD (a:=t.av) (by rfl) hvt ?_
   refine Aaa (a:=t.av) (by rfl) hvu (AeT (by exact Nat.le_trans (Nat.le_trans htd htw) (lnk rfl)) (by exact Nat.le_trans (Nat.le_trans htd htw) (lnk rfl)) ?_)
   refine AaV (by simp) ?_
   exact AaK ⟨rfl,rfl,rfl⟩
  ·rintro f' s' b v σ' ⟨rfl,rfl,rfl⟩ hf E' y
   exact⟨hf,_,_,y.st,E',Keep.refl _,fun jj jj=>rfl⟩
 ·refine z_if2 (d:=d+20) r S E ?_ ?_
  ·refine Aax rfl ?_
   refine AaD (a:=t.av) (by rfl) hvt ?_
   refine Aaa (a:=u.av) (by rfl) hvu (AeT (by exact Nat.le_trans (Nat.le_trans htd htw) (lnk rfl)) (by exact Nat.le_trans (Nat.le_trans hud huw) (lnk rfl)) ?_)
   exact⟨by simp[htu],rfl⟩
  intro s₁ S₁ E₁ y₁
  refine Acm (d:=d+20) (Q:=fun v σ'=>∃ ob ys,v=Abl vars "others" (.obj ob)∧Keep σ σ'∧σ' ob=some (.list ys)∧(ys=[]↔∀ q'∈Aas (ks++ts) t,q'.2=t)) r S₁ E₁ ?_ ?_
  ·refine AaG rfl rfl rfl (cl:=[("t",L+1+1)]) ⟨by rfl,by rfl,by simp,by rfl,by decide,by rfl,by decide⟩ ?_
   refine AaC ?_
   refine e_g P.O (by rfl) P.g_law_near (P.keep 28 (by decide)) ?_
   refine Aag (.loc (a:=.obj sb) (by rfl) I.v4 (.cell (a:=t.av) (by rfl) hvt .nil)) ((Ae8 (d:=0) P 4 t σ (by exact Nat.le_trans htd htw) htw hkl I.s).use rfl ?_)
   rintro v σ₂ ⟨nb,rfl,hnb,K2,hnl⟩
   have hpw:=t.parts_w
   have hnl1:=AdU (ks++ts) t
   have hnl2:(Aas (ks++ts) t).length≤42:=by
    have:2 * (ks++ts).length * t.parts.length≤6 * 7:=Nat.mul_le_mul (ln1 (.c 2 (.v 0) (.n 3) (.g 0 (.m 2 (.v 0)) (.n 6))) rfl hkl) (ln2 (.c 2 (.v 0) (.n 4) (.c 1 (.p 1 1) (.m 2 (.v 0)) (.g 0 (.v 1) (.n 7)))) rfl htw hpw)
    exact ln2 (.c 1 (.v 0) (.v 1) (.c 1 (.v 1) (.m 6 (.n 7)) (.g 0 (.v 0) (.n 42)))) rfl hnl1 this
   refine⟨nb,_,rfl,hnl,by rw[List.length_map];exact Nat.le_trans hnl2 (lnk rfl),?_⟩
   refine⟨fun xs ys σ'=>σ'=σ₂∧∃ dn td:List (Step×Tm),xs=td.map AcF∧dn++td=Aas (ks++ts) t∧(ys=[]↔∀ q'∈dn,q'.2=t),⟨rfl,[],Aas (ks++ts) t,rfl,rfl,by simp⟩,?_,?_⟩
   ·rintro C y xs ys σ' hsat ⟨rfl,dn,td,hx,hd,hys⟩
    obtain⟨p,td⟩:=Abb hx
    have hp:p∈Aas (ks++ts) t:=by rw[← hd];simp
    have hpw2:=(Ahe (show(p.1,p.2)∈Aas (ks++ts) t from hp)).1
    have hpd:=p.2.depth_w
    refine Ajk rfl rfl (AdC ?_)
    refine Aax rfl ?_
    refine Aaa (a:=p.2.av) (by rfl) (by rfl) ?_
    refine AaD (a:=t.av) (by rfl) (by exact hvt) (AeT (by exact Nat.le_trans (Nat.le_trans (Nat.le_trans hpd hpw2) htw) (lnk rfl)) (by exact Nat.le_trans (Nat.le_trans htd htw) (lnk rfl)) ?_)
    by_cases e:p.2=t
    ·refine AaV (by simp[e]) ?_
     exact⟨hsat,rfl,dn++[p],td,rfl,by simp[← hd],hys.trans ⟨fun h q' hq'=>(List.mem_append.mp hq').elim (h q') (fun z=>by rw[List.mem_singleton.mp z];exact e),fun h q' hq'=>h q' (List.mem_append.mpr (.inl hq'))⟩⟩
    ·refine Abh (by simp[e]) ?_
     refine Aaa (a:=p.2.av) (by rfl) (by rfl) ⟨hsat,rfl,dn++[p],td,rfl,by simp[← hd],⟨fun h=>absurd h (by simp),fun h=>absurd (h p (by simp)) e⟩⟩
   ·rintro ys σ' hsat ⟨rfl,dn,td,hx,hd,hys⟩ hlen a ha
    obtain rfl:td=[]:=Adk hx
    rw[List.append_nil] at hd
    subst hd
    exact⟨rfl,a,ys,rfl,K2.upd (.inl ha) _,Aac _ _ _,hys⟩
  rintro v σ₂ s₂ ⟨ob,ys,rfl,K2,ho,hys⟩ S₂ E₂ y₂
  have right:∀ {σ':AH} {QQ:AV→AH→Prop} {e1 e2:Expr} {p1 p2 p3 p4:Pos} {kk:Nat},True:=trivial
  by_cases hys0:ys=[]
  ·have hall:=hys.mp hys0
   refine Ajf (d:=d+20) (Q:=fun f v σ'=>f=.next∧v=Abl vars "others" (.obj ob)∧Keep σ σ') ?_ r S₂ E₂ ?_
   ·refine Aad ?_
    refine AbV ?_
    refine Aax rfl ?_
    refine e_g P.O (by rfl) P.g_law_narrow (P.keep 31 (by decide)) ?_
    refine Aag (.loc (a:=.obj x) (by rfl) (by exact I.v5) (.cell (a:=t.av) (by rfl) (by exact hvt) (.loc (a:=u.av) (by rfl) (by exact hvu) .nil))) ((AiE (d:=0) P (I.sk.keep K2) hkl htw hui htu hall).use rfl ?_)
    rintro v σ₃ ⟨rfl,K3⟩
    refine e_if ?_
    refine Aax rfl ?_
    refine Aaa (a:=.obj ob) (by rfl) (by rfl) ?_
    refine AaI (Aaf ⟨lnk rfl,fun zb hzb=>?_⟩)
    have K4:Keep σ₃ (upd σ₃ zb (.list [])):=(Keep.refl σ₃).upd (.inl hzb) _
    refine Adf (K4 _ _ (K3 _ _ ho)) (Aac _ _ _) ?_
    refine Abh (by simp[hys0]) ?_
    refine Aat ?_
    refine Ai9 ?_
    exact AaK (Aaq ⟨rfl,rfl,(K2.trans K3).trans K4⟩)
   ·rintro f' s' b v σ' ⟨rfl,rfl,hK⟩ hf E' y
    exact⟨hf,_,_,y.st,E',hK,fun y hy=>by unfold Abl;rw[if_neg hy]⟩
  ·have hex:∃ q'∈Aas (ks++ts) t,q'.2≠t:=Classical.byContradiction fun h=>hys0 (hys.mpr fun q' hq'=>Classical.byContradiction fun hne=>h ⟨q',hq',hne⟩)
   refine wpAny_execs_cons ?_
   refine wpAny_mono (Q:=fun f' s'=>f'=.next∧∃ σ',St B σ' s'∧EnvR B σ' s'.heap (LE q L f cd) (Abl vars "others" (.obj ob))∧Keep σ σ') (E:=fun jj jj=>False) ?_ (fun f' s' h=>?_) fun jj jj f=>f.elim
   ·refine wpAny_If ?_
    refine wpAny_mono (z_cmp rfl (d:=d+20) (vars:=Abl vars "others" (.obj ob)) (QQ:=fun c σ'=>c=false∧Keep σ σ') r ?_) (fun c s' h=>?_) fun jj jj f=>f.elim
    ·refine z_ecall (d:=d+20) P.O r S₂ E₂ ?_ rfl rfl rfl
     refine AbG P.O (by rfl) P.g_law_narrow ?_
     refine⟨_,rfl,P.keep 31 (by decide),?_⟩
     refine Aag (.loc (a:=.obj x) (by rfl) (by exact I.v5) (.cell (a:=t.av) (by rfl) (by exact hvt) (.loc (a:=u.av) (by rfl) (by exact hvu) .nil))) ?_
     intro s₃ vs S₃ E₃ rv
     refine wpAny_mono (narrow_Z (d:=d+6) P LO hLF r hfr rfl S₃ E₃ rv (I.sk.keep K2) hkl htw huw htu hex) (fun va s₄ h₄=>?_) fun jj jj f=>f
     obtain⟨⟨tk,rfl⟩,σ',K3,S₄,E₄⟩:=h₄
     refine⟨.str "limit",σ',⟨tk,rfl⟩,S₄,E₄,?_⟩
     refine e_if ?_
     refine Aax rfl ?_
     refine Aaa (a:=.obj ob) (by rfl) (by rfl) ?_
     refine AaI (Aaf ⟨lnk rfl,fun zb hzb=>?_⟩)
     have K4:Keep σ' (upd σ' zb (.list [])):=(Keep.refl σ').upd (.inl hzb) _
     refine Adf (K4 _ _ (K3 _ _ ho)) (Aac _ _ _) ?_
     refine AaV (by simp[hys0]) ?_
     refine Aav ?_
     refine Afq ?_
     exact⟨by simp,(K2.trans K3).trans K4⟩
    ·obtain⟨σ',⟨rfl,hK⟩,S',E'⟩:=h
     exact wpAny_execs_nil ⟨rfl,σ',S',E',hK⟩
   ·obtain⟨rfl,σ',S',E',hK⟩:=h
    exact wpAny_execs_nil ⟨rfl,_,σ',S',E',hK,fun y hy=>by unfold Abl;rw[if_neg hy]⟩
end
end Pq
namespace Pq
theorem AfD:Slot "wrapper_descriptor" "__get__" "wrapper_descriptor.__get__":=.of (owner:="wrapper_descriptor") (n:="__get__") (by rw[typeLookup_type,builtinLookup_eq_fast];kernel_rfl) (by decide +kernel) (by decide +kernel) (by decide +kernel)
 (by first | exact .inl (by decide +kernel) | exact .inr (by decide +kernel)) (by rw[isSubtype_type];kernel_rfl)
theorem Ah3:entryFor table "wrapper_descriptor.__get__"=some Builtin.«wrapper_descriptor.__get__»:=entryFor_of_tree (by kernel_rfl)
theorem Aji(a b c:Value):argsOk "wrapper_descriptor.__get__" ⟨[a,b,c],[]⟩:=by unfold argsOk;kernel_rfl
theorem AhG:∀ s:Shared,s.TypeIs (.builtin "Exception.__init__") "wrapper_descriptor":=fun jj=>by
 show builtinType "Exception.__init__"=_
 rw[builtinType_eq_fast];kernel_rfl
theorem Ag0(K:Frag):alongIn K "__init__" [.type "Exception",.type "BaseException",.type "object"]=some (some (.builtin "Exception.__init__")):=by rfl
section
variable{prog:Program}{w:World}{A:Around}{E:Value→Shared→Prop}{h:Heap}{g:Array GenState}{d:Drawn}{t:Nat}{os:OsState}
variable{nm q:Str}{C D N x so:Addr}{bs:List Value}{sn:List Str}{sub:List Value}{ab:Bool}{col:Option Bool}{dd:Option Addr}{k0 k1 k2 k3 k5:Option Value}
theorem run_wget{Q:Fin→Shared→Prop}{ox:Obj}(hC:h.get? C=some (excClassObj nm q C N bs (bmX D) true sn sub ab col dd k0 k1 k2 k3 k5 "Exception.__new__"))(hx:h.get? x=some ox)(hc:ox.cls=.ref C)
  (hq:Q (.done (.ret (.ref h.objs.size))) ⟨h.push { cls:=.type "method-wrapper",data:=.fields #[.builtin "Exception.__init__",.ref x] },g,d,t,os⟩) :
  wpAny (model prog w) A (Builtin.«wrapper_descriptor.__get__» ⟨[.builtin "Exception.__init__",.ref x,.ref C],[]⟩) Q E ⟨h,g,d,t,os⟩:=by
 have hcB:(Value.ref C::bmX D).contains (.type "Exception")=true:=by simp[bmX]
 unfold Builtin.«wrapper_descriptor.__get__»
 refine wpAny_bind (wpAny_pure ?_)
 refine wpAny_bind (wpAny_bind (wpAny_pure ?_))
 have eo:".".intercalate ("Exception.__init__".cutAt '.').dropLast="Exception":=by decide +kernel
 rw[eo]
 unfold isInstance
 repeat (first | (with_reducible refine wpAny_loadPart_at hx ?_;rw[hc]) | (with_reducible refine wpAny_isSubtype_exc hC ?_;rw[hcB]) | with_reducible (first | refine wpAny_pure ?_ | refine wpAny_bind ?_ | refine wpAny_holding ?_ | refine wpAny_standAt ?_ | refine wpAny_point ?_ | refine wpAny_rule ?_ | refine wpAny_letGo ?_ | refine wpAny_of_eq (by assumption) ?_ | refine wpAny_typeOf (by assumption) ?_ | refine wpAny_specialOf (by assumption) (by assumption) ?_ | refine wpAny_isInstance (by assumption) (by assumption) ?_ | refine wpAny_call ?_ | refine wpAny_runValue ?_ | refine wpAny_run ?_) | ((with_reducible apply wpAny_load');focus (heap_get;done)) | ((with_reducible apply wpAny_loadPart');focus (heap_get;done)) | ((with_reducible apply wpAny_ite_false);focus (rfl;done)) | ((with_reducible apply wpAny_ite_true);focus (rfl;done)) | wp_delta | wp_step)
 exact hq
noncomputable abbrev supO(D x C:Addr):Obj:={ cls:=.type "super",dict:=none,data:=.fields #[.ref D,.ref x,.ref C],slots:=#[] }
noncomputable abbrev mwO(x:Addr):Obj:={ cls:=.type "method-wrapper",data:=.fields #[.builtin "Exception.__init__",.ref x] }
theorem run_sga{K:Frag}{ox:Obj}{tk:Tok}{name:Str}(hal:alongIn K name [.type "Exception",.type "BaseException",.type "object"]=some (some (.builtin "Exception.__init__")))(hn:(name==("__class__":Str))=false){Q:Fin→Shared→Prop}(X:K.In h)(hC:h.get? C=some (excClassObj nm q C N bs (bmX D) true sn sub ab col dd k0 k1 k2 k3 k5 "Exception.__new__"))(hx:h.get? x=some ox)(hc:ox.cls=.ref C)
  (hso:h.get? so=some (supO D x C)) (hno:Looks (model prog w) h (opaqueClassAbove (.ref C)) none) (hxC:x≠C) (hCD:C≠D)
  (hq:Q (.done (.ret (.ref h.objs.size))) ⟨h.push (mwO x),g,d,t,os⟩) :
  wpAny (model prog w) A (Builtin.«super.__getattribute__» ⟨[.ref so,.str name tk],[]⟩) Q E ⟨h,g,d,t,os⟩:=by
 have hlk:=AfD.lookup
 have hne:(Value.ref x==Value.ref C)=false:=by simp[hxC]
 have hT:=AhG
 have hdt:(supO D x C).data=.fields #[.ref D,.ref x,.ref C]:=rfl
 have f0:(#[.ref D,.ref x,.ref C]:Array Value)[0]?=some (.ref D):=rfl
 have f1:(#[.ref D,.ref x,.ref C]:Array Value)[1]?=some (.ref x):=rfl
 have f2:(#[.ref D,.ref x,.ref C]:Array Value)[2]?=some (.ref C):=rfl
 have hl:((Value.ref C::bmX D).dropWhile (· != .ref D)).drop 1=[.type "Exception",.type "BaseException",.type "object"]:=by
  simp[bmX,hCD]
 unfold Builtin.«super.__getattribute__»
 repeat (first
  | (with_reducible refine wpAny_field hso hdt f0 ?_) | (with_reducible refine wpAny_field hso hdt f1 ?_) | (with_reducible refine wpAny_field hso hdt f2 ?_)
  | (with_reducible refine ks_wpAny_notOpaque hno ?_)
  | (with_reducible refine wpAny_mroOf_exc hC ?_;rw[hl])
  | (refine ks_forIn_along X (fun jj jj=>rfl) rfl ?_ hal)
  | (with_reducible refine wpAny_typeOf (hT _) ?_)
  | (with_reducible refine wpAny_call_entry AfD (hT _) Ah3 ?_ (Aji _ _ _))
  | (with_reducible refine run_wget hC hx hc ?_)
  | (with_reducible refine⟨_,rfl,?_⟩)
  | (simp only[hn,hne,Bool.or_false,Bool.false_eq_true,if_false])
  | with_reducible (first | refine wpAny_pure ?_ | refine wpAny_bind ?_ | refine wpAny_holding ?_ | refine wpAny_standAt ?_ | refine wpAny_point ?_ | refine wpAny_rule ?_ | refine wpAny_letGo ?_ | refine wpAny_of_eq (by assumption) ?_ | refine wpAny_typeOf (by assumption) ?_ | refine wpAny_specialOf (by assumption) (by assumption) ?_ | refine wpAny_isInstance (by assumption) (by assumption) ?_ | refine wpAny_call ?_ | refine wpAny_runValue ?_ | refine wpAny_run ?_) | ((with_reducible apply wpAny_load');focus (heap_get;done)) | ((with_reducible apply wpAny_loadPart');focus (heap_get;done)) | ((with_reducible apply wpAny_ite_false);focus (rfl;done)) | ((with_reducible apply wpAny_ite_true);focus (rfl;done)) | wp_delta | wp_step
  | dsimp only)
 all_goals exact hq
theorem gm_super{K:Frag}{ox:Obj}{name:Str}{pl:Sem Bool}{Q:Value×List Value→Shared→Prop}(hal:alongIn K name [.type "Exception",.type "BaseException",.type "object"]=some (some (.builtin "Exception.__init__")))(hn:(name==("__class__":Str))=false)
  (X:K.In h) (hC:h.get? C=some (excClassObj nm q C N bs (bmX D) true sn sub ab col dd k0 k1 k2 k3 k5 "Exception.__new__")) (hx:h.get? x=some ox) (hc:ox.cls=.ref C)
  (hso:h.get? so=some (supO D x C)) (hno:Looks (model prog w) h (opaqueClassAbove (.ref C)) none) (hxC:x≠C) (hCD:C≠D)
  (hq:Q (.ref h.objs.size,[]) ⟨h.push (mwO x),g,d,t+1,os⟩) :
  wpAny (model prog w) A (getMethod (.ref so) name pl) Q E ⟨h,g,d,t,os⟩:=by
 have hlk:=F.ks_slot_super_ga.lookup
 have hcan:=F.ks_canon_super_ga
 have hT:∀ t',(⟨h,g,d,t',os⟩:Shared).TypeIs (.ref so) "super":=fun jj=>⟨_,hso,rfl⟩
 unfold getMethod
 refine wpAny_bind (wpAny_specialOf (hT _) hlk ?_)
 unfold getAttr getAttrBy
 refine wpAny_bind (wpAny_bind (wpAny_mkText (wpAny_holding (wpAny_bind (wpAny_typeOf (hT _) (wpAny_bind (wpAny_of_eq hlk ?_)))))))
 unfold getAttrByItsOwn hookBefore callGetattribute boundAndCalled
 refine wpAny_bind (wpAny_of_eq (show(if onTheHeap (.type "super") then typeLookup (.type "super") "__getattr__" else pure none)=pure none from rfl) ?_)
 refine wpAny_bind (wpAny_attempt (wpAny_holding ?_))
 refine wpAny_bind (wpAny_of_eq (F.ks_slot_super_ga.bind _) ?_)
 refine wpAny_mono (Q:=fun v s'=>v=.ref h.objs.size∧s'=⟨h.push (mwO x),g,d,t+1,os⟩) (E:=fun jj jj=>False)
  (wpAny_call_entry F.ks_slot_super_ga (hT _) F.ks_entry_super_ga (run_sga hal hn X hC hx hc hso hno hxC hCD ⟨_,rfl,rfl,rfl⟩) (F.ks_gaArgs_super _ _)) (fun v s' hv=>?_) fun jj jj z=>z.elim
 obtain⟨rfl,rfl⟩:=hv
 exact wpAny_pure (wpAny_pure hq)
theorem AgX{ox:Obj}{b:Value}{Q:Unit→Shared→Prop}(hC:h.get? C=some (excClassObj nm q C N bs (bmX D) true sn sub ab col dd k0 k1 k2 k3 k5 "Exception.__new__"))(hx:h.get? x=some ox)(hc:ox.cls=.ref C)
  (hq:Q () ⟨h,g,d,t,os⟩):wpAny (model prog w) A (checkBoundCall "Exception.__init__" ⟨[.ref x,b],[]⟩) Q E ⟨h,g,d,t,os⟩:=by
 have F:=PySem.F.excBase_Exception
 repeat (first | (with_reducible refine wpAny_loadPart_at hx ?_;rw[hc]) | with_reducible refine wpAny_loadPart_at hC ?_ | with_reducible (first | refine wpAny_pure ?_ | refine wpAny_bind ?_ | refine wpAny_holding ?_ | refine wpAny_standAt ?_ | refine wpAny_point ?_ | refine wpAny_rule ?_ | refine wpAny_letGo ?_ | refine wpAny_of_eq (by assumption) ?_ | refine wpAny_typeOf (by assumption) ?_ | refine wpAny_specialOf (by assumption) (by assumption) ?_ | refine wpAny_isInstance (by assumption) (by assumption) ?_ | refine wpAny_call ?_ | refine wpAny_runValue ?_ | refine wpAny_run ?_) | ((with_reducible apply wpAny_load');focus (heap_get;done)) | ((with_reducible apply wpAny_loadPart');focus (heap_get;done)) | ((with_reducible apply wpAny_ite_false);focus (rfl;done)) | ((with_reducible apply wpAny_ite_true);focus (rfl;done)) | wp_delta | wp_step)
 exact hq
theorem AgD(a b:Value):(Code.builtin "Exception.__init__" ⟨[a,b],[]⟩).quiet=true:=Code.quiet_builtin _ (by decide +kernel)
theorem Ait{t0:Addr}{msg:Value}{Q:Fin→Shared→Prop}(hx:h.get? x=some { cls:=.ref C,data:=.fields #[.ref t0,.none,.none,.none,.bool false,.none] })
  (hq:∀ h',(∀ b o,b≠x→h.get? b=some o→h'.get? b=some o)→(∃ t1,h'.get? x=some { cls:=.ref C,data:=.fields #[.ref t1,.none,.none,.none,.bool false,.none] })→Q (.done (.ret .none)) ⟨h',g,d,t,os⟩) :
  wpAny (model prog w) A (Builtin.«BaseException.__init__» ⟨[.ref x,msg],[]⟩) Q E ⟨h,g,d,t,os⟩:=by
 unfold Builtin.«BaseException.__init__»
 repeat (first | with_reducible (first | refine wpAny_pure ?_ | refine wpAny_bind ?_ | refine wpAny_holding ?_ | refine wpAny_standAt ?_ | refine wpAny_point ?_ | refine wpAny_rule ?_ | refine wpAny_letGo ?_ | refine wpAny_of_eq (by assumption) ?_ | refine wpAny_typeOf (by assumption) ?_ | refine wpAny_specialOf (by assumption) (by assumption) ?_ | refine wpAny_isInstance (by assumption) (by assumption) ?_ | refine wpAny_call ?_ | refine wpAny_runValue ?_ | refine wpAny_run ?_) | ((with_reducible apply wpAny_load');focus (heap_get;done)) | ((with_reducible apply wpAny_loadPart');focus (heap_get;done)) | ((with_reducible apply wpAny_ite_false);focus (rfl;done)) | ((with_reducible apply wpAny_ite_true);focus (rfl;done)) | wp_delta | wp_step)
 refine hq _ (fun b o hb e=>?_) ⟨h.objs.size,?_⟩
 ·rw[Heap.get?_update_other _ _ (Ne.symm hb)]
  exact Heap.get?_push_of_some _ e
 ·rw[Heap.get?_update_self _ (Heap.get?_push_of_some _ hx) rfl]
  rfl
theorem Ah6{u t0:Addr}{msg:Value}{Q:Value→Shared→Prop}(hC:h.get? C=some (excClassObj nm q C N bs (bmX D) true sn sub ab col dd k0 k1 k2 k3 k5 "Exception.__new__"))(hu:h.get? u=some (mwO x))(hx:h.get? x=some { cls:=.ref C,data:=.fields #[.ref t0,.none,.none,.none,.bool false,.none] })
  (hq:∀ h',(∀ b o,b≠x→h.get? b=some o→h'.get? b=some o)→(∃ t1,h'.get? x=some { cls:=.ref C,data:=.fields #[.ref t1,.none,.none,.none,.bool false,.none] })→Q .none ⟨h',g,d,t,os⟩) :
  wpAny (model prog w) A (call (.ref u) [msg]) Q E ⟨h,g,d,t,os⟩:=by
 refine wpAny_call (codeAny_of_tree ?_)
 refine wpAny_bind (wpAny_load hu ?_)
 show wpAny _ A.in1 (do checkBoundCall "Exception.__init__" ⟨[.ref x,msg],[]⟩;again (.builtin "Exception.__init__" ⟨[.ref x,msg],[]⟩)) _ _ _
 refine wpAny_bind (AgX hC hx rfl ?_)
 refine wpAny_bind (wpAny_pure (wpAny_pure ?_))
 exact⟨AgD _ _,codeAny_builtin PySem.F.excBase_Exception.initEntry (Ait hx fun h' k e=>hq h' k e)⟩
end
end Pq
namespace Pq
inductive LCls(K:Frag)(C D:Addr):Prop
 | mk (nm q N bs sn sub ab col dd k0 k1 k2 k3 k5:_) (h:K.lookup C=some (excClassObj nm q C N bs (bmX D) true sn sub ab col dd k0 k1 k2 k3 k5 "Exception.__new__"))
inductive LFn(K:Frag)(fI cda cc:Addr)(p:Arguments)(b:List Stmt)(sc:Scope):Prop
 | mk (od osl name qual kV doc pm an ct:_) (h:K.lookup fI=some ⟨.type "function",od,.func (ksFn name qual p b sc .none kV doc pm an (.ref cda) ct cc),osl⟩) (c:codeIn K (.ref cda) qual=true)
inductive LCod(B:Aaj)(cda:Addr):Prop
 | mk (ccl cdd vs ccs file tf:_) (h:B.K.lookup cda=some ⟨ccl,cdd,.fields vs,ccs⟩) (h2:vs[2]?=some (.str file tf)) (h3:((B.prog.main.file:Str)==file)=true)
set_option genInjectivity false in
set_option genSizeOf false in
structure LFx(B:Aaj)(C:Addr)where
 D:Addr
 fI:Addr
 cc:Addr
 cda:Addr
 cls:LCls B.K C D
 ne:C≠D
 init:findIn B.K (.ref C) "__init__"=some (some (.ref fI))
 sat:findIn B.K (.ref C) "__setattr__"=some (some (.builtin "object.__setattr__"))
 what:findIn B.K (.ref C) "what"=some none
 fn:LFn B.K fI cda cc (Ah4 heS) (AcO heS) (AaB heS)
 code:LCod B cda
 cell:∃ cl cld csl,B.K.lookup cc=some ⟨cl,cld,.cell (some (.ref D)),csl⟩
 cD:∃ oD cdD,B.K.lookup D=some oD∧oD.data=.cls cdD
 sup:Abi B.K "super"=some (.type "super")
 nost:nsIn B.K cStatics "thirdparty.any"=some none
 htop:(B.prog.main.scope.names.lookup ("super":Str)).isSome=false
section
variable{B:Aaj}{A:Around}{E:Value→Shared→Prop}{h:Heap}{g:Array GenState}{d:Drawn}{t:Nat}{os:OsState}{C x:Addr}
theorem AfW(O:BOk B){s:Shared}{env:Env}{n:Str}{v:Value}{Q:Value→Shared→Prop}(k:∀ b o,B.h₀.get? b=some o→s.heap.get? b=some o)(hk:env.scope.kind=.function)(hx:env.kindOf n=some .globalImplicit)(hgl:env.globals=mainGlobals)
  (hbl:env.builtins=builtinsNs) (hg:Abi B.K n=some v) (q:Q v s) (hn:n≠"__name__"):wpAny (model B.prog B.w) A (loadName env n) Q E s:=by
 obtain⟨mg,G⟩:=O.g
 obtain⟨mb,Gb,hb⟩:=O.b
 have Gs:s.heap.Ns env.globals mg:=hgl▸G.keeps k
 have Bs:s.heap.Ns env.builtins mb:=hbl▸Gb.keeps k
 refine ks_loadName_global hk hx ?_
 rcases gval_of hg with e | ⟨e,hb'⟩
 ·exact loadGlobal_global Gs (mg_of O.K G e) q
 ·exact loadGlobal_builtin Gs (mg_none_of O.K G e) Bs ((hb n hn).trans hb') q
noncomputable abbrev Agn(C t:Addr)(dx:Option Addr):Obj:={ cls:=.ref C,dict:=dx,data:=.fields #[.ref t,.none,.none,.none,.bool false,.none],slots:=#[] }
open Builtin Builtin.ObjectAttr in
theorem store_X{t1:Addr}{v:Value}{Q:Unit→Shared→Prop}{name:Str}(F:LFx B C)(X:B.K.In h)(hx:h.get? x=some (Agn C t1 none))(hw:findIn B.K (.ref C) name=some none)
  (hq:∀ h' tk',(∃ dx,h'.get? x=some (Agn C t1 (some dx)))→(∀ b o,b≠x→h.get? b=some o→h'.get? b=some o)→Q () ⟨h',g,d,tk',os⟩) :
  wpAny (model B.prog B.w) A (setAttr (.ref x) name v) Q E ⟨h,g,d,t,os⟩:=by
 obtain⟨nm,q,N,bs,sn,sub,ab,col,dd,k0,k1,k2,k3,k5,hC⟩:=F.cls
 have hC:=X _ _ hC
 have SF:=PySem.F.store_Exception
 have f3:=SF.slot.bind (.ref x)
 have hpass:=SF.passes (.ref x)
 have hcB:(Value.ref C::bmX F.D).contains (.type "object")=true:=by simp[bmX]
 unfold setAttr callSpecial? specialOf
 repeat (any_goals (first | (with_reducible assumption) | (with_reducible refine wpAny_loadPart_at hx ?_) | (with_reducible refine Looks.at (looks_findIn X F.sat) ?_) | with_reducible (first | refine wpAny_pure ?_ | refine wpAny_bind ?_ | refine wpAny_holding ?_ | refine wpAny_standAt ?_ | refine wpAny_point ?_ | refine wpAny_rule ?_ | refine wpAny_letGo ?_ | refine wpAny_of_eq (by assumption) ?_ | refine wpAny_typeOf (by assumption) ?_ | refine wpAny_specialOf (by assumption) (by assumption) ?_ | refine wpAny_isInstance (by assumption) (by assumption) ?_ | refine wpAny_call ?_ | refine wpAny_runValue ?_ | refine wpAny_run ?_) | ((with_reducible apply wpAny_load');focus (heap_get;done)) | ((with_reducible apply wpAny_loadPart');focus (heap_get;done)) | ((with_reducible apply wpAny_ite_false);focus (rfl;done)) | ((with_reducible apply wpAny_ite_true);focus (rfl;done)) | wp_delta | wp_step))
 refine codeAny_call_builtin SF.slot.plain SF.entry ?_
 have e1:∀ {Q':Unit→Shared→Prop} {E':Value→Shared→Prop} {tk:Tok},Q' () ⟨h,g,d,t+1,os⟩→wpAny (model B.prog B.w) A.in1 (checkBuiltinCall "object.__setattr__" ⟨[.ref x,.str name tk,v],[]⟩) Q' E' ⟨h,g,d,t+1,os⟩:=by
  intro Q' E' tk hq'
  delta checkBuiltinCall
  rw[SF.kind,SF.split]
  refine wpAny_bind ?_
  unfold isInstance
  repeat (first | with_reducible refine wpAny_loadPart_at hx ?_ | (with_reducible refine wpAny_isSubtype_exc hC ?_;rw[hcB]) | with_reducible (first | refine wpAny_pure ?_ | refine wpAny_bind ?_ | refine wpAny_holding ?_ | refine wpAny_standAt ?_ | refine wpAny_point ?_ | refine wpAny_rule ?_ | refine wpAny_letGo ?_ | refine wpAny_of_eq (by assumption) ?_ | refine wpAny_typeOf (by assumption) ?_ | refine wpAny_specialOf (by assumption) (by assumption) ?_ | refine wpAny_isInstance (by assumption) (by assumption) ?_ | refine wpAny_call ?_ | refine wpAny_runValue ?_ | refine wpAny_run ?_) | ((with_reducible apply wpAny_load');focus (heap_get;done)) | ((with_reducible apply wpAny_loadPart');focus (heap_get;done)) | ((with_reducible apply wpAny_ite_false);focus (rfl;done)) | ((with_reducible apply wpAny_ite_true);focus (rfl;done)) | wp_delta | wp_step)
  exact hq'
 refine e1 ?_
 unfold Builtin.«object.__setattr__»
 repeat (first | rw[refuse_eq] | (rw[refuseLoop_ref,refuseLoop_ref,hpass]) | (with_reducible refine wpAny_loadPart_at hx ?_) | with_reducible refine wpAny_mroOf_exc hC ?_ | (with_reducible refine Looks.at (looks_findIn X hw) ?_) | with_reducible (first | refine wpAny_pure ?_ | refine wpAny_bind ?_ | refine wpAny_holding ?_ | refine wpAny_standAt ?_ | refine wpAny_point ?_ | refine wpAny_rule ?_ | refine wpAny_letGo ?_ | refine wpAny_of_eq (by assumption) ?_ | refine wpAny_typeOf (by assumption) ?_ | refine wpAny_specialOf (by assumption) (by assumption) ?_ | refine wpAny_isInstance (by assumption) (by assumption) ?_ | refine wpAny_call ?_ | refine wpAny_runValue ?_ | refine wpAny_run ?_) | ((with_reducible apply wpAny_load');focus (heap_get;done)) | ((with_reducible apply wpAny_loadPart');focus (heap_get;done)) | ((with_reducible apply wpAny_ite_false);focus (rfl;done)) | ((with_reducible apply wpAny_ite_true);focus (rfl;done)) | wp_delta | wp_step)
 have hx₁:(h.push { cls:=.type "dict",data:=.dict #[] }).get? x=some (Agn C t1 none):=Heap.get?_push_of_some _ hx
 have hxs:x≠h.objs.size:=Nat.ne_of_lt (Heap.lt_size hx)
 have hgd:((h.push { cls:=.type "dict",data:=.dict #[] }).update x fun o=>{ cls:=o.cls,dict:=some h.objs.size,data:=o.data,slots:=o.slots }).get? h.objs.size
   = some { cls:=.type "dict",data:=.dict #[] }:=(Heap.get?_update_ne _ _ _ _ hxs.symm).trans (Heap.get?_push_at rfl rfl)
 have hgx:((h.push { cls:=.type "dict",data:=.dict #[] }).update x fun o=>{ cls:=o.cls,dict:=some h.objs.size,data:=o.data,slots:=o.slots }).get? x
   = some (Agn C t1 (some h.objs.size)):=by rw[Heap.get?_update_self _ hx₁ rfl]
 have hgo:∀ b o,b≠x→h.get? b=some o→((h.push { cls:=.type "dict",data:=.dict #[] }).update x fun o=>{ cls:=o.cls,dict:=some h.objs.size,data:=o.data,slots:=o.slots }).get? b=some o:=fun b o hb e=>by
  rw[Heap.get?_update_ne _ _ _ _ hb];exact Heap.get?_push_of_some _ e
 generalize (h.push { cls:=.type "dict",data:=.dict #[] }).update x (fun o=>{ cls:=o.cls,dict:=some h.objs.size,data:=o.data,slots:=o.slots })=H at hgd hgx hgo ⊢
 have hlt:∀ b o,h.get? b=some o→b≠h.objs.size:=fun b o e=>Nat.ne_of_lt (Heap.lt_size e)
 refine wpAny_askSetting (wpAny_pure (wpAny_bind (wpAny_mkText (wpAny_bind (wpAny_loadPart hgd ?_)))))
 dsimp only
 have c:(!(#[]:Array DictEntry).any (·.key.isStr name)&&(#[]:Array DictEntry).any (·.refKey))=false:=by simp
 rw[aRefKeyMayBeTheName_at,c]
 refine wpAny_updatePart hgd ?_
 have fin:∀ (hsh:Int) (key:Value),∃ es' n',(H.update h.objs.size (Obj.putName name hsh key v)).get? h.objs.size=some (dictOf es' n')∧es'.length≤200:=by
  intro hsh key
  have e:Obj.putName name hsh key v { cls:=.type "dict",data:=.dict #[] }=dictOf [⟨hsh,key,v⟩] 1:=by
   rw[Obj.putName_eq];unfold Obj.putNameByArray;simp
  refine⟨[⟨hsh,key,v⟩],1,?_,by simp⟩
  rw[Heap.get?_update_self _ hgd (by rw[e];rfl),e]
 generalize hf:Obj.putName name _ _ v=f
 obtain⟨es',n',hD,hz⟩:=fin (if name.cps.isEmpty=true then 0 else reduceHash ((model B.prog B.w).w.params.strHash name.cps)) (.str name (t+1))
 rw[hf] at hD
 refine wpAny_bind (wpAny_lookBehind hD (pastItsLine_dict (by rw[List.size_toArray,sizeLine_eq];exact ln1 (.c 1 (.v 0) (.n 200) (.g 0 (.v 0) (.a (.n 16777216) (.n 1)))) rfl hz)) ?_)
 refine wpAny_pure ?_
 refine wpAny_pure ?_
 refine wpAny_pure ?_
 exact hq _ _ ⟨h.objs.size,by rw[Heap.get?_update_ne _ _ _ _ hxs];exact hgx⟩ fun b o hb e=>by rw[Heap.get?_update_ne _ _ _ _ (hlt b o e)];exact hgo b o hb e
end
end Pq
namespace Pq
section
variable{B:Aaj}{A:Around}{E:Value→Shared→Prop}{h:Heap}{g:Array GenState}{d:Drawn}{t:Nat}{os:OsState}{C x:Addr}
theorem AgI{M:Model}{s:Shared}{pos:Pos}{u:Addr}{args:List (Bool×Sem Value)}{Q:Value→Shared→Prop}(hplain:args.any (·.1)=false)
  (h:wpAny M A (evalArgs (.ref u) true args []) (fun a s₁=>∃ x,s₁.heap.get? u=some (mwO x)∧wpAny M A (call (.ref u) a.pos a.kw) Q E s₁) E s):wpAny M A (callWith pos (.ref u) [] args []) Q E s:=by
 refine wpAny_bind (wpAny_holding (wpAny_mono h (fun x s₁ h₁=>wpAny_bind (wpAny_standAt ?_)) fun jj jj x=>x))
 obtain⟨x,ho,hcall⟩:=h₁
 rw[hplain]
 refine wpAny_bind (m:=keeperOf (.ref u)) ?_
 show wpAny _ _ (load u >>= _) _ _ _
 refine wpAny_bind (wpAny_load ho ?_)
 show wpAny _ _ (pure Keeper.machine) _ _ _
 refine wpAny_pure ?_
 exact wpAny_bind (wpAny_mono hcall (fun r s₂ hr=>wpAny_bind (wpAny_holding (wpAny_point (wpAny_pure hr)))) fun jj jj x=>x)
theorem AiR(O:BOk B)(F:LFx B C){s:Shared}{t0:Addr}{msg:Value}{R:Result→Shared→Prop}(hroom:A.depth<recursionLimit)(k:∀ b o,B.h₀.get? b=some o→s.heap.get? b=some o)
  (hx:s.heap.get? x=some (Agn C t0 none)) (hxB:B.h₀.get? x=none)
  (hq:∀ h' tk',(∃ t1 dx,h'.get? x=some (Agn C t1 dx))→(∀ b o,b≠x→s.heap.get? b=some o→h'.get? b=some o)→R (.ok (.ret .none)) { s with heap:=h',toks:=tk' }) :
  codeAny (model B.prog B.w) A (.call (.ref F.fI) ⟨[.ref x,msg],[]⟩) R s:=by
 have X:B.K.In s.heap:=O.K.keeps k
 obtain⟨nm,q,N,bs,sn,sub,ab,col,dd,k0,k1,k2,k3,k5,hC⟩:=F.cls
 obtain⟨od,osl,name,qual,kV,doc,pm,an,ct,hfn,hcd⟩:=F.fn
 obtain⟨ccl,cdd,vs,ccs,file,tf,hco,hv2,hfile⟩:=F.code
 obtain⟨cl,cld,csl,hcell⟩:=F.cell
 obtain⟨oD,cdD,hD1,hD2⟩:=F.cD
 refine ks_codeAny_call_defAt (fd:=ksFn name qual (Ah4 heS) (AcO heS) (AaB heS) .none kV doc pm an (.ref F.cda) ct F.cc) (body:=AcO heS) (binds:=[("self",.ref x),("what",msg)]) hroom (X _ _ hfn) rfl (O.nolimit.keeps k) (codeRec_of X hcd) rfl
  (BindsTo.of_eq (by rfl)) (show ∀ y∈(AaB heS).names,y.2≠.cell by decide) (by intro y hy;simp only[List.mem_cons,List.not_mem_nil,or_false] at hy;rcases hy with rfl | rfl<;>rfl) (fun h₁ hns hk₁=>?_) (by rfl) (by rfl) (by rfl)
 have hxC:x≠C:=fun q=>by have e:=O.K _ _ hC;have e2:=hxB;rw[q] at e2;rw[e2] at e;cases e
 have X₁:B.K.In h₁:=X.keeps hk₁
 have k₁:∀ b o,B.h₀.get? b=some o→h₁.get? b=some o:=fun b o e=>hk₁ b o (k b o e)
 refine ks_wpAt_execs_cons (ks_wpAt_Expr_any ?_)
 refine ks_wpAt_MethodCall ?_
 refine ks_wpAt_super_base (env:=ksEnv qual (AaB heS) s.heap.objs.size F.fI (.ref F.cda) F.cc) (by rfl) (by rfl) (by decide) rfl (X₁ _ _ hfn) rfl (ar:=⟨"self",none,⟨4,17,4,21⟩⟩) (by rfl) rfl (X₁ _ _ hco) rfl hv2 hfile F.htop ?_
 refine AfW O k₁ (by rfl) (by rfl) (by rfl) (by rfl) F.sup ⟨rfl,?_⟩ (by decide)
 refine wpAny_loadName_free (by rfl) (by rfl) (by rfl) ⟨_,X₁ _ _ hcell,rfl⟩ ?_
 refine wpAny_loadName_local (by rfl) (by rfl) hns (by rfl) ?_
 have hx₁:h₁.get? x=some (Agn C t0 none):=hk₁ _ _ hx
 have hCh:h₁.get? C=_:=X₁ _ _ hC
 replace hD1:=X₁ _ _ hD1
 refine ks_wpAny_isType_cls hD1 hD2 ⟨rfl,?_⟩
 have hsub:Looks (model B.prog B.w) h₁ (isSubtype (.ref C) (.ref F.D)) true:=fun A Q E s' hs hq=>by
  obtain⟨h',g',d',t',os'⟩:=s'
  refine wpAny_isSubtype_exc (hs _ _ hCh) ?_
  rw[show(Value.ref C::bmX F.D).contains (.ref F.D)=true by simp[bmX]]
  exact hq
 refine ks_wpAny_call_super hD1 hD2 hx₁ rfl (fun c e=>by cases e) hsub (fun h₂ e₂ k₂=>?_)
 have X₂:=X₁.keeps k₂
 refine gm_super (Ag0 B.K) (by decide) X₂ (X₂ _ _ hC) (k₂ _ _ hx₁) rfl e₂ (looks_opaque X₂ F.nost) hxC F.ne ?_
 have k₃:∀ b o,h₂.get? b=some o→(h₂.push (mwO x)).get? b=some o:=fun b o e=>Heap.get?_push_of_some _ e
 have hu:(h₂.push (mwO x)).get? h₂.objs.size=some (mwO x):=Heap.get?_push_size _ rfl
 generalize h₂.push (mwO x)=h₃ at k₃ hu ⊢
 have X₃:=X₂.keeps k₃
 have hns₃:h₃.Ns s.heap.objs.size _:=hns.imp fun jj h=>h.imp fun jj h=>h.imp fun jj h=>⟨k₃ _ _ (k₂ _ _ h.1),h.2⟩
 refine AgI (by rfl) (evalArgs_plain (spliced_cons ?_))
 refine wpAny_Name (wpAny_loadName_local (by rfl) (by rfl) hns₃ (by rfl) ?_) (by decide)
 refine spliced_nil ⟨x,hu,?_⟩
 refine Ah6 (X₃ _ _ hC) hu (k₃ _ _ (k₂ _ _ hx₁)) fun h₄ k₄ ⟨t1,hx₄⟩=>?_
 have X₄:B.K.In h₄:=O.K.keeps fun b o e=>k₄ b o (fun q=>by subst q;rw[hxB] at e;cases e) (k₃ _ _ (k₂ _ _ (k₁ b o e)))
 have nL:s.heap.objs.size≠x:=fun q=>Nat.lt_irrefl _ (q▸Heap.lt_size hx)
 have hns₄:h₄.Ns s.heap.objs.size _:=hns₃.imp fun jj h=>h.imp fun jj h=>h.imp fun jj h=>⟨k₄ _ _ nL h.1,h.2⟩
 refine ks_wpAt_execs_cons (wpAt_of_wpAny (plainObj_wpAny_Assign_Attribute ?_))
 refine wpAny_Name (wpAny_loadName_local (by rfl) (by rfl) hns₄ (by rfl) ?_) (by decide)
 refine wpAny_Name (wpAny_loadName_local (by rfl) (by rfl) hns₄ (by rfl) ?_) (by decide)
 refine store_X F X₄ hx₄ F.what fun h₅ tk' ⟨dx,hx₅⟩ k₅=>?_
 refine wpAt_of_wpAny (wpAny_pure ?_)
 exact hq h₅ tk' ⟨t1,some dx,hx₅⟩ fun b o hb e=>k₅ b o hb (k₄ b o hb (k₃ b o (k₂ b o (hk₁ b o e))))
theorem Ah5{nm q:Str}{N:Addr}{bs:List Value}{sn:List Str}{sub:List Value}{ab:Bool}{col:Option Bool}{dd:Option Addr}{k0 k1 k2 k3 k5:Option Value}{D:Addr}{M:Model}{rest:List Value}{Q:Unit→Shared→Prop}
  (hC:h.get? C=some (excClassObj nm q C N bs (bmX D) true sn sub ab col dd k0 k1 k2 k3 k5 "Exception.__new__")) (hq:Q () ⟨h,g,d,t,os⟩):wpAny M A (checkBuiltinCall "Exception.__new__" ⟨.ref C::rest,[]⟩) Q E ⟨h,g,d,t,os⟩:=by
 have F:=PySem.F.excBase_Exception
 have hcont:(Value.ref C::bmX D).contains (.type "Exception")=true:=by simp[bmX]
 have hstar:=F.noStar
 delta checkBuiltinCall
 rw[F.newKind,F.newSplit]
 repeat (first | refine wpAny_loadPart_at hC ?_ | (refine wpAny_isSubtype_exc hC ?_;rw[hcont]) | refine wpAny_staticBase_exc hC ?_ | refine wpAny_madeBy_exc hC ?_ | rw[bne_self_eq_false] | with_reducible (first | refine wpAny_pure ?_ | refine wpAny_bind ?_ | refine wpAny_holding ?_ | refine wpAny_standAt ?_ | refine wpAny_point ?_ | refine wpAny_rule ?_ | refine wpAny_letGo ?_ | refine wpAny_of_eq (by assumption) ?_ | refine wpAny_typeOf (by assumption) ?_ | refine wpAny_specialOf (by assumption) (by assumption) ?_ | refine wpAny_isInstance (by assumption) (by assumption) ?_ | refine wpAny_call ?_ | refine wpAny_runValue ?_ | refine wpAny_run ?_) | ((with_reducible apply wpAny_load');focus (heap_get;done)) | ((with_reducible apply wpAny_loadPart');focus (heap_get;done)) | ((with_reducible apply wpAny_ite_false);focus (rfl;done)) | ((with_reducible apply wpAny_ite_true);focus (rfl;done)) | wp_delta | wp_step)
 exact hq
theorem Ai5{nm q:Str}{N:Addr}{bs:List Value}{sn:List Str}{sub:List Value}{ab:Bool}{col:Option Bool}{dd:Option Addr}{k0 k1 k2 k3 k5:Option Value}{D:Addr}{rest:List Value}{R:Result→Shared→Prop}
  (hC:h.get? C=some (excClassObj nm q C N bs (bmX D) true sn sub ab col dd k0 k1 k2 k3 k5 "Exception.__new__"))
  (hq:R (.ok (.ret (.ref (h.objs.size+1)))) ⟨(h.push { cls:=.type "tuple",data:=.seq rest.toArray }).push (Agn C h.objs.size none),g,d,t,os⟩) (hrest:rest.length≤sizeLine) :
  codeAny (model B.prog B.w) A (.builtin "Exception.__new__" ⟨.ref C::rest,[]⟩) R ⟨h,g,d,t,os⟩:=by
 have F:=PySem.F.excBase_Exception
 have hends:=F.ends
 have hcB:(Value.ref C::bmX D).contains (.type "Exception")=true:=by simp[bmX]
 have hcA:(Value.ref C::bmX D).contains (.type "AttributeError")=false:=by simp[bmX]
 have hcN:(Value.ref C::bmX D).contains (.type "NameError")=false:=by simp[bmX]
 refine codeAny_builtinAt F.entry ?_
 unfold Builtin.«BaseException.__new__»
 refine PySem.wpAt_bind ?_
 refine PySem.wpAt_bind (PySem.wpAt_stack fun p below=>PySem.wpAt_of_wpAny ?_)
 repeat (first | with_reducible (first | refine wpAny_pure ?_ | refine wpAny_bind ?_ | refine wpAny_holding ?_ | refine wpAny_standAt ?_ | refine wpAny_point ?_ | refine wpAny_rule ?_ | refine wpAny_letGo ?_ | refine wpAny_of_eq (by assumption) ?_ | refine wpAny_typeOf (by assumption) ?_ | refine wpAny_specialOf (by assumption) (by assumption) ?_ | refine wpAny_isInstance (by assumption) (by assumption) ?_ | refine wpAny_call ?_ | refine wpAny_runValue ?_ | refine wpAny_run ?_) | ((with_reducible apply wpAny_load');focus (heap_get;done)) | ((with_reducible apply wpAny_loadPart');focus (heap_get;done)) | ((with_reducible apply wpAny_ite_false);focus (rfl;done)) | ((with_reducible apply wpAny_ite_true);focus (rfl;done)) | wp_delta | wp_step)
 refine PySem.wpAt_of_wpAny ?_
 rw[F.owner]
 repeat (first | with_reducible refine wpAny_madeHere_exc F.canon hC ?_ | with_reducible refine wpAny_loadPart_at hC ?_ | (with_reducible refine wpAny_isSubtype_exc hC ?_;first | rw[hcB] | rw[hcA] | rw[hcN]) | with_reducible (first | refine wpAny_pure ?_ | refine wpAny_bind ?_ | refine wpAny_holding ?_ | refine wpAny_standAt ?_ | refine wpAny_point ?_ | refine wpAny_rule ?_ | refine wpAny_letGo ?_ | refine wpAny_of_eq (by assumption) ?_ | refine wpAny_typeOf (by assumption) ?_ | refine wpAny_specialOf (by assumption) (by assumption) ?_ | refine wpAny_isInstance (by assumption) (by assumption) ?_ | refine wpAny_call ?_ | refine wpAny_runValue ?_ | refine wpAny_run ?_) | ((with_reducible apply wpAny_load');focus (heap_get;done)) | ((with_reducible apply wpAny_loadPart');focus (heap_get;done)) | ((with_reducible apply wpAny_ite_false);focus (rfl;done)) | ((with_reducible apply wpAny_ite_true);focus (rfl;done)) | wp_delta | wp_step)
 rw[Heap.size_push]
 exact hq
theorem exc_call[Own](O:BOk B)(F:LFx B C){s:Shared}{msg:Value}{Q:Value→Shared→Prop}{n:Nat}(r:Room A (n+1))(k:∀ b o,B.h₀.get? b=some o→s.heap.get? b=some o)
  (hq:∀ h' tk' e,s.heap.get? e=none→(∃ t1 dx,h'.get? e=some (Agn C t1 dx))→(∀ b o,s.heap.get? b=some o→h'.get? b=some o)→Q (.ref e) { s with heap:=h',toks:=tk' }) :
  wpAny (model B.prog B.w) A (call (.ref C) [msg]) Q E s:=by
 have X:B.K.In s.heap:=O.K.keeps k
 obtain⟨nm,q,N,bs,sn,sub,ab,col,dd,k0,k1,k2,k3,k5,hC'⟩:=id F.cls
 have hC:=X _ _ hC'
 obtain⟨od,osl,name,qual,kV,doc,pm,an,ct,hfn,hcd⟩:=id F.fn
 obtain⟨h,g,d,t,os⟩:=s
 have f1:=tc_lookup
 have f2:=tc_bind (.ref C)
 have hT:(⟨h,g,d,t,os⟩:Shared).TypeIs (.ref C) "type":=⟨_,hC,rfl⟩
 refine wpAny_call (codeAny_of_tree ?_)
 repeat (any_goals (first | (with_reducible assumption) | with_reducible refine wpAny_loadPart_at hC ?_ | with_reducible (first | refine wpAny_pure ?_ | refine wpAny_bind ?_ | refine wpAny_holding ?_ | refine wpAny_standAt ?_ | refine wpAny_point ?_ | refine wpAny_rule ?_ | refine wpAny_letGo ?_ | refine wpAny_of_eq (by assumption) ?_ | refine wpAny_typeOf (by assumption) ?_ | refine wpAny_specialOf (by assumption) (by assumption) ?_ | refine wpAny_isInstance (by assumption) (by assumption) ?_ | refine wpAny_call ?_ | refine wpAny_runValue ?_ | refine wpAny_run ?_) | ((with_reducible apply wpAny_load');focus (heap_get;done)) | ((with_reducible apply wpAny_loadPart');focus (heap_get;done)) | ((with_reducible apply wpAny_ite_false);focus (rfl;done)) | ((with_reducible apply wpAny_ite_true);focus (rfl;done)) | wp_delta | wp_step))
 refine⟨rfl,?_⟩
 refine codeAny_call_builtin_at (Code.quiet_builtin _ (by decide +kernel)) entry_typeCall (wpAny_check_type_call_sub hC ?_)
 repeat (first | with_reducible refine wpAny_loadPart_at hC ?_ | with_reducible refine wpAny_madeBy_exc hC ?_ | with_reducible (first | refine wpAny_pure ?_ | refine wpAny_bind ?_ | refine wpAny_holding ?_ | refine wpAny_standAt ?_ | refine wpAny_point ?_ | refine wpAny_rule ?_ | refine wpAny_letGo ?_ | refine wpAny_of_eq (by assumption) ?_ | refine wpAny_typeOf (by assumption) ?_ | refine wpAny_specialOf (by assumption) (by assumption) ?_ | refine wpAny_isInstance (by assumption) (by assumption) ?_ | refine wpAny_call ?_ | refine wpAny_runValue ?_ | refine wpAny_run ?_) | ((with_reducible apply wpAny_load');focus (heap_get;done)) | ((with_reducible apply wpAny_loadPart');focus (heap_get;done)) | ((with_reducible apply wpAny_ite_false);focus (rfl;done)) | ((with_reducible apply wpAny_ite_true);focus (rfl;done)) | wp_delta | wp_step)
 refine codeAny_call_builtin_code (Code.quiet_builtin _ PySem.F.excBase_Exception.quiet) (Ah5 hC ?_)
 refine Ai5 hC ?_ (by simp[sizeLine_eq])
 show wpAny _ _ _ _ _ ⟨(h.push { cls:=.type "tuple",data:=.seq [msg].toArray }).push (Agn C h.objs.size none),g,d,t,os⟩
 have k':∀ b o,h.get? b=some o→((h.push { cls:=.type "tuple",data:=.seq [msg].toArray }).push (Agn C h.objs.size none)).get? b=some o:=fun b o e=>Heap.get?_push_of_some _ (Heap.get?_push_of_some _ e)
 have hget:((h.push { cls:=.type "tuple",data:=.seq [msg].toArray }).push (Agn C h.objs.size none)).get? (h.objs.size+1)=some (Agn C h.objs.size none):=by heap_get
 have hnone:h.get? (h.objs.size+1)=none:=Heap.get?_none_of_le (Nat.le_succ _)
 generalize (h.push { cls:=.type "tuple",data:=.seq [msg].toArray }).push (Agn C h.objs.size none)=H at k' hget ⊢
 have hC₁:=k' _ _ hC
 have X₁:=X.keeps k'
 have hcC:(Value.ref C::bmX F.D).contains (.ref C)=true:=by simp
 unfold isInstance
 repeat (first | with_reducible refine wpAny_loadPart_at hget ?_ | (with_reducible refine wpAny_isSubtype_exc hC₁ ?_;rw[hcC]) | with_reducible (first | refine wpAny_pure ?_ | refine wpAny_bind ?_ | refine wpAny_holding ?_ | refine wpAny_standAt ?_ | refine wpAny_point ?_ | refine wpAny_rule ?_ | refine wpAny_letGo ?_ | refine wpAny_of_eq (by assumption) ?_ | refine wpAny_typeOf (by assumption) ?_ | refine wpAny_specialOf (by assumption) (by assumption) ?_ | refine wpAny_isInstance (by assumption) (by assumption) ?_ | refine wpAny_call ?_ | refine wpAny_runValue ?_ | refine wpAny_run ?_) | ((with_reducible apply wpAny_load');focus (heap_get;done)) | ((with_reducible apply wpAny_loadPart');focus (heap_get;done)) | ((with_reducible apply wpAny_ite_false);focus (rfl;done)) | ((with_reducible apply wpAny_ite_true);focus (rfl;done)) | wp_delta | wp_step | (show wpAny _ _ (isSubtype (.ref C) _) _ _ _;refine wpAny_isSubtype_exc hC₁ ?_;rw[hcC]))
 show wpAny _ _ (typeLookup (.ref C) _) _ _ _
 refine Looks.at (looks_findIn X₁ F.init) ?_
 refine wpAny_holding (wpAny_bind ?_)
 unfold bindSpecial
 refine wpAny_bind (wpAny_typeOf (T:="function") ⟨_,X₁ _ _ hfn,rfl⟩ ?_)
 have hb:B.h₀.get? (h.objs.size+1)=none:=by
  cases q:B.h₀.get? (h.objs.size+1) with
  | none=>rfl
  | some o=>have:=k _ _ q;rw[hnone] at this;cases this
 refine wpAny_pure (wpAny_bind (wpAny_call (AiR O F (by have:=(AeF (C:=C) (rest:=[msg]) r).depth;exact Nat.lt_of_le_of_lt (Nat.le_add_right _ _) this) (fun b o e=>k' b o (k b o e)) hget hb fun h' tk' hx hk=>?_)))
 repeat (first | with_reducible (first | refine wpAny_pure ?_ | refine wpAny_bind ?_ | refine wpAny_holding ?_ | refine wpAny_standAt ?_ | refine wpAny_point ?_ | refine wpAny_rule ?_ | refine wpAny_letGo ?_ | refine wpAny_of_eq (by assumption) ?_ | refine wpAny_typeOf (by assumption) ?_ | refine wpAny_specialOf (by assumption) (by assumption) ?_ | refine wpAny_isInstance (by assumption) (by assumption) ?_ | refine wpAny_call ?_ | refine wpAny_runValue ?_ | refine wpAny_run ?_) | ((with_reducible apply wpAny_load');focus (heap_get;done)) | ((with_reducible apply wpAny_loadPart');focus (heap_get;done)) | ((with_reducible apply wpAny_ite_false);focus (rfl;done)) | ((with_reducible apply wpAny_ite_true);focus (rfl;done)) | wp_delta | wp_step)
 exact hq _ _ _ hnone hx fun b o e=>hk b o (fun q=>by rw[q,hnone] at e;cases e) (k' b o e)
end
end Pq
namespace Pq
variable[Own]
section
variable{B:Aaj}{d:Nat}{env:Env}{vars:Vars}{σ:AH}{pos:Pos}{A:Around}{C:Addr}
theorem e_told{a b x:Str}{k1 k2:Nat}{p1 p2 np fp:Pos}{s:Shared}{E:Value→Shared→Prop}{Q:Value→Shared→Prop}(R:EnvR B σ s.heap env vars)(hk:env.kindOf x=some .local)(hv:vars x=some (.int 1))(hd:(x==("__debug__":Str))=false)
  (h1:(Str.empty++a).length≤sizeLine) (h2:(Str.empty++a++((toString (1:Int):String):Str)).length≤sizeLine) (h3:(Str.empty++a++((toString (1:Int):String):Str)++b).length≤sizeLine) (q:∀ y n,Q y { s with toks:=n }) :
  wpAny (model B.prog B.w) A (eval (.JoinedStr [.Constant (.str a) k1 p1,.FormattedValue (.Name x np) (-1) none fp,.Constant (.str b) k2 p2] pos) env) Q E s:=by
 obtain⟨m,hm,h⟩:=R.ns
 obtain⟨v,e,hr⟩:=h x hk _ hv
 obtain⟨t,rfl⟩:=hr
 refine wpAny_JoinedStr ?_
 refine wpAny_mkText ⟨a,_,rfl,h1,?_⟩
 refine wpAny_FormattedValue_plain ?_
 refine wpAny_Name (wpAny_loadName_local R.kind hk hm e ?_) hd
 refine PySem.wpAny_formatField_int (by decide) ⟨_,_,rfl,h2,?_⟩
 refine wpAny_mkText ⟨b,_,rfl,h3,h3,?_⟩
 exact q _ _
omit [Own] in
theorem AhM{M:Model}{E:Value→Shared→Prop}{nm q:Str}{D N:Addr}{bs:List Value}{sn:List Str}{sub:List Value}{ab:Bool}{col:Option Bool}{dd:Option Addr}{k0 k1 k2 k3 k5:Option Value}{s:Shared}{x:Sem Value}{Q:Flow→Shared→Prop}(hh:A.handled=none)
  (h:wpAny M A x (fun v s₁=>∃ e t dx,v=.ref e∧s₁.heap.get? C=some (excClassObj nm q C N bs (bmX D) true sn sub ab col dd k0 k1 k2 k3 k5 "Exception.__new__") ∧
   s₁.heap.get? e=some (Agn C t dx)∧E (.ref e) s₁) E s) :
  wpAny M A (raiseStmt env (some x) none) Q E s:=by
 have hcB:(Value.ref C::bmX D).contains (.type "BaseException")=true:=by simp[bmX]
 unfold raiseStmt
 refine wpAny_bind (wpAny_mono h (fun v s₁ h₁=>?_) fun jj jj x=>x)
 obtain⟨e,t,dx,rfl,hC,he,hE⟩:=h₁
 obtain⟨hp,g,d,tk,os⟩:=s₁
 repeat (first | with_reducible refine wpAny_loadPart_at he ?_ | with_reducible refine wpAny_loadPart_at hC ?_ | (with_reducible refine wpAny_isSubtype_exc hC ?_;rw[hcB]) | wp_step | (show wpAny _ _ (isSubtype (.ref C) _) _ _ _;refine wpAny_isSubtype_exc hC ?_;rw[hcB]))
 exact wpAny_raiseNew_none hh hE
theorem limit_ok(P:Prg B)(F:LFx B (P.a 4))(hk:keepIn B.K (.ref (P.a 4))=true):Aep P (d+1):=by
 intro A s σ q L cd vars r S R hm
 have O:=P.O
 obtain⟨nm,q',N,bs,sn,sub,ab,col,dd,k0,k1,k2,k3,k5,hC⟩:=id F.cls
 show wpAny _ _ (exec (.Raise (some (.Call (.Name "LimitFault" _) [.JoinedStr [_,_,_] _] [] _)) none _) _) _ _ _
 rw[arm_exec_Raise]
 refine wpAny_bind (wpAny_standAt (AhM (C:=P.a 4) (D:=F.D) (nm:=nm) (q:=q') (N:=N) (bs:=bs) (sn:=sn) (sub:=sub) (ab:=ab) (col:=col) (dd:=dd) (k0:=k0) (k1:=k1) (k2:=k2) (k3:=k3) (k5:=k5) r.handled ?_))
 refine wpAny_bind (wpAny_mono (Q:=fun v s'=>Ajn (P.a 4) s v s'∧∃ e t dx,v=.ref e∧s'.heap.get? (P.a 4)=some (excClassObj nm q' (P.a 4) N bs (bmX F.D) true sn sub ab col dd k0 k1 k2 k3 k5 "Exception.__new__")∧s'.heap.get? e=some (Agn (P.a 4) t dx)) (E:=fun jj jj=>False) ?_ (fun v s' h=>wpAny_bind (wpAny_standAt (wpAny_pure ?_))) fun jj jj f=>f.elim)
 ·refine Call_ (wpAny_Name (AfW O S.base (by rfl) (by rfl) (by rfl) (by rfl) P.g_LimitFault ?_ (by decide)) (by decide)) (by rfl)
  refine callWith_K (O.K.keeps S.base) hk ?_ (by rfl) (by rfl)
  refine args_cons (e_told R (by rfl) hm (by decide) (by decide) (by decide) (by decide) fun y n=>args_nil ⟨O.K.keeps S.base,?_⟩) (by rfl)
  refine exc_call O F r S.base fun h' tk' e hn hx hkp=>?_
  obtain⟨t1,dx,hx⟩:=hx
  exact⟨⟨e,_,_,.ref t1,rfl,hkp,rfl,rfl,hn,hx,rfl,rfl,rfl,rfl⟩,e,t1,dx,rfl,hkp _ _ (S.base _ _ (O.K _ _ hC)),hx⟩
 ·obtain⟨h0,e,t,dx,h1,h2,h3⟩:=h
  exact⟨e,t,dx,h1,h2,h3,h1▸h0⟩
end
end Pq
namespace Pq
variable[Own]
omit [Own] in
theorem Acn{M:Model}{Γ:Ctx}{E:Value→Pos→Shared→Prop}{env:Env}{rest:List Stmt}{Q:Flow→Pos→Shared→Prop}:∀ (pre:List Stmt) {p:Pos} {s:Shared},
  Sem.wp M Γ (execs pre env) (fun f p' s'=>match f with | .next=>Sem.wp M Γ (execs rest env) Q E p' s' | f=>Q f p' s') E p s→Sem.wp M Γ (execs (pre++rest) env) Q E p s
 | [],_,_,h=>h
 | st::pre,p,s,h=>by
  show Sem.wp M Γ (execs (st::(pre++rest)) env) _ _ _ _
  rw[execs_cons,Sem.wp_bind'] at h ⊢
  refine Sem.wp_mono M Γ _ (fun f p' s' h'=>?_) (fun jj jj jj h'=>h') _ _ h
  cases f with
  | next=>exact Acn pre h'
  | _=>exact h'
omit [Own] in
theorem Af4{M:Model}{A:Around}{E:Value→Shared→Prop}{env:Env}{s:Shared}{rest:List Stmt}{Q:Flow→Shared→Prop}(pre:List Stmt)
  (h:wpAny M A (execs pre env) (fun f s'=>match f with | .next=>wpAny M A (execs rest env) Q E s' | f=>Q f s') E s):wpAny M A (execs (pre++rest) env) Q E s:=fun Γ p hΓ=>by
 refine Acn pre (Sem.wp_mono M Γ _ (fun f p' s' h'=>?_) (fun jj jj jj h'=>h') _ _ (h Γ p hΓ))
 cases f with
 | next=>exact h' Γ p' hΓ
 | _=>exact h'
theorem AiK:AcO (Acl 32)=LB++((AcO (Acl 32)).getD 15 (.Pass ⟨0,0,0,0⟩)::(AcO (Acl 32)).drop 16):=by rfl
section
variable{B:Aaj}{σ:AH}{A:Around}{s:Shared}{d:Nat}
structure LMid(P:Prg B)(v:Vars)(σ:AH)(ks ts:List Sd)(hb kb tb sb x fb:Addr)(t u:Tm)(F:List (Tm×Nat))(w:AV):Prop where
 I:LawI P ks ts hb kb tb sb x v σ
 LK:LawK ks ts
 vt:v "t"=some t.av
 vu:v "u"=some u.av
 ti:InS (ks++ts) t
 ui:InS (ks++ts) u
 f:v "far"=some (.obj fb)
 s:v "steps"=some w
 hF:σ fb=some (.dict (F.map fAV))
 FR:FarR (ks++ts) t F
 st:StepsR (ks++ts) t u w σ
set_option maxHeartbeats 2000000 in
theorem law_Z(P:Prg B)(LF:LFx B (P.a 4))(hk:keepIn B.K (.ref (P.a 4))=true)(hLF:exmOne B.K (.ref (P.a 4)) (.ref (P.a 4))=some true){sa:Addr}{l:List Int}(hb:Aic B sa l)(hz:l.length≤1000){q:Str}{L f:Addr}{cd:Value}
  (r:Room A 20) (hfr:A.frames=some [LE q L f cd]) (S:St B σ s) (E:EnvR B σ s.heap (LE q L f cd) (Agf ((["script"]:List Str).zip [AV.raw (.ref sa)]) fun jj=>none)) :
  wpAny (model B.prog B.w) A (execs (AcO (Acl 32)) (LE q L f cd)) (fun f s'=>f=.ret (.bool true)∧∃ σ',St B σ' s') (fun jj jj=>False) s:=by
 rw[AiK]
 refine Af4 LB ?_
 refine Ajf (d:=20) (Q:=fun f v σ'=>f=.next∧∃ ks ts hb kb tb sb x fb t u F w,LMid P v σ' ks ts hb kb tb sb x fb t u F w)
  (law_seg1 (d:=0) P hb hz fun ks ts hb kb tb sb x v σ' I IT LK jj=>law_seg2 P I LK fun t u v σ' I ht hu ti ui=>law_seg3 P I LK ht hu ti ui fun fb F w v σ' I ht hu hf hs hF FR SR=>AaK ⟨rfl,ks,ts,hb,kb,tb,sb,x,fb,t,u,F,w,I,LK,ht,hu,ti,ui,hf,hs,hF,FR,SR⟩) r S E ?_
 rintro f s' b v' σ' ⟨rfl,ks,ts,hb,kb,tb,sb,x,fb,t,u,F,w,H⟩ hf R' y
 obtain rfl:f=.next:=hf
 refine wpAny_execs_cons (wpAny_mono (AhX (d:=0) P (limit_ok (d:=8) P LF hk) hLF r hfr y.st R' H.I H.LK H.vt H.vu H.ti H.ui) (fun f s₂ h=>?_) fun jj jj f=>f)
 obtain⟨rfl,v₂,σ₂,S₂,R₂,k,hv⟩:=h
 have I₂:LawI P ks ts hb kb tb sb x v₂ σ₂:=H.I.go k.x (H.I.h.keep k) ((hv _ (by decide)).trans H.I.v1) ((hv _ (by decide)).trans H.I.v2) ((hv _ (by decide)).trans H.I.v3) ((hv _ (by decide)).trans H.I.v4) ((hv _ (by decide)).trans H.I.v5)
 refine Ajf (d:=20) (Q:=fun f jj jj=>f=.ret (.bool true)) (law_seg5 (d:=0) P I₂ H.LK ((hv _ (by decide)).trans H.vt) ((hv _ (by decide)).trans H.vu) H.ti H.ui ((hv _ (by decide)).trans H.f) ((hv _ (by decide)).trans H.s) (k _ _ H.hF) H.FR (H.st.keep k) fun jj jj=>rfl) r S₂ R₂ ?_
 rintro f s₃ b v₃ σ₃ rfl ⟨_,rfl,rfl⟩ _ y
 exact⟨rfl,_,y.st⟩
theorem law_call(P:Prg B)(LF:LFx B (P.a 4))(hk:keepIn B.K (.ref (P.a 4))=true)(hLF:exmOne B.K (.ref (P.a 4)) (.ref (P.a 4))=some true){sa:Addr}{l:List Int}(hb:Aic B sa l)(hz:l.length≤1000)(r:Room A 21)(hfr:A.frames=some [])(S:St B σ s):
  codeAny (model B.prog B.w) A (.call (.ref (P.a 32)) ⟨[.ref sa],[]⟩) (fun r s'=>r=.ok (.ret (.bool true))∧∃ σ',St B σ' s') s:=by
 have O:=P.O
 obtain⟨oc,od,osl,name,qual,kV,doc,pm,an,cdv,ct,hl,hc⟩:=P.fn 32 (by decide)
 have X:B.K.In s.heap:=O.K.keeps S.base
 have hkinds:∀ n,∀ x∈([("script",.ref sa)]:List (Str×Value)),(AaB (Acl 32)).names.lookup x.1=some .local∨((AaB (Acl 32)).names.lookup x.1=some .cell∧((cellsFrom n (AaB (Acl 32)).names []).lookup x.1).isSome=true):=fun n x hx=>.inl (by
  rw[List.mem_singleton.mp hx];rfl)
 refine codeAny_call_cells (fd:=fnOf name qual (Ah4 (Acl 32)) (AcO (Acl 32)) (AaB (Acl 32)) .none kV doc pm an cdv ct) (binds:=[("script",.ref sa)]) (by have:=r.depth;exact ln2 (.c 1 (.a (.p 0 21) (.n 1)) (.v 1) (.g 0 (.p 0 1) (.v 1))) rfl this) (X _ _ hl) rfl (O.nolimit.keeps S.base) (codeRec_of X hc) rfl
  (by rfl) rfl (hkinds _) (fun s₁ x=>?_) (by rfl) (by rfl) (by rfl)
 have henv:callEnvC (fnOf name qual (Ah4 (Acl 32)) (AcO (Acl 32)) (AaB (Acl 32)) .none kV doc pm an cdv ct) s.heap.objs.size (P.a 32)=LE qual s.heap.objs.size (P.a 32) cdv:=rfl
 rw[henv] at x ⊢
 obtain⟨h₁,tk,rfl,hkeep,R₁,_⟩:=AgU (scope:=AaB (Acl 32)) (names:=["script"]) (args:=[.raw (.ref sa)]) (vs:=[.ref sa]) S ⟨_,_,rfl,rfl,rfl⟩ (by rfl) (by decide +kernel) x
 have x1:Ext B noX σ s σ { s with heap:=h₁,toks:=tk }:=Ext.grow S hkeep
 refine wpAny_mono (law_Z P LF hk hLF hb hz (r.deeper _) (by show A.frames.map _=_;rw[hfr];rfl) x1.st R₁) (fun fl s' hq=>?_) fun jj jj f=>f.elim
 obtain⟨rfl,σ',S'⟩:=hq
 exact⟨rfl,σ',S'⟩
end
end Pq
namespace Pq
theorem ba2{a b:Bool}(h:(a&&b)=true):a=true∧b=true:=Bool.and_eq_true_iff.mp h
theorem AiY{o:Obj}{fd:FuncData}(h:funD o=some fd):∃ c d s,o=⟨c,d,.func fd,s⟩:=by
 obtain⟨c,d,dat,s⟩:=o
 cases dat with
 | func f=>cases h;exact⟨c,d,s,rfl⟩
 | _=>cases h
theorem Aim{fd:FuncData}{b:List Stmt}(h:stmB fd=some b):fd.body=.stmts b:=by
 unfold stmB at h
 cases e:fd.body with
 | stmts b'=>rw[e] at h;cases h;rfl
 | expr _=>rw[e] at h;cases h
theorem fd_eq{fd:FuncData}{b:List Stmt}(h1:fd.globals=mainGlobals)(h2:fd.closure=[])(h3:fd.defaults=.none)(h4:fd.builtins=builtinsNs)(hb:fd.body=.stmts b):
  fd=fnOf fd.name fd.qualname fd.params b fd.scope .none fd.kwdefaults fd.doc fd.pyModule fd.annotations fd.code fd.closureTuple:=by
 obtain⟨name,qual,params,body,scope,gl,cl,dV,kV,doc,pm,an,cdv,ct,bl⟩:=fd
 dsimp only at h1 h2 h3 h4 hb
 subst h1 h2 h3 h4 hb
 rfl
theorem AeN{K:Frag}{f:Addr}{p:Arguments}{b:List Stmt}{sc:Scope}(h:Aef K f=some (p,b,sc)):FnK K f p b sc:=by
 obtain⟨o,ho,h⟩:=Option.bind_eq_some_iff.mp h
 obtain⟨fd,hf,hx⟩:=Option.bind_eq_some_iff.mp h
 obtain⟨b',hb,hy⟩:=Option.bind_eq_some_iff.mp hx
 clear h hx
 obtain⟨hc,h⟩:=AcK hy
 clear hy
 obtain⟨oc,od,osl,rfl⟩:=AiY hf
 obtain⟨hc,h5⟩:=ba2 hc
 obtain⟨hc,h4⟩:=ba2 hc
 obtain⟨hc,h3⟩:=ba2 hc
 obtain⟨h1,h2⟩:=ba2 hc
 cases h
 exact⟨oc,od,osl,fd.name,fd.qualname,fd.kwdefaults,fd.doc,fd.pyModule,fd.annotations,fd.code,fd.closureTuple,ho.trans (congrArg (fun x=>some (Obj.mk oc od (.func x) osl)) (fd_eq (eq_of_beq h1) (List.isEmpty_iff.mp h2) (eq_of_beq h3) (eq_of_beq h4) (Aim hb))),h5⟩
theorem fd_eq2{fd:FuncData}{b:List Stmt}{c l:Addr}(h1:fd.globals=mainGlobals)(h2:fd.closure=[(("__class__":Str),l)])(h3:fd.defaults=.none)(h4:fd.builtins=builtinsNs)(h6:fd.code=.ref c)(hb:fd.body=.stmts b):
  fd=ksFn fd.name fd.qualname fd.params b fd.scope .none fd.kwdefaults fd.doc fd.pyModule fd.annotations (.ref c) fd.closureTuple l:=by
 obtain⟨name,qual,params,body,scope,gl,cl,dV,kV,doc,pm,an,cdv,ct,bl⟩:=fd
 dsimp only at h1 h2 h3 h4 h6 hb
 subst h1 h2 h3 h4 h6 hb
 rfl
theorem Af2{K:Frag}{f:Addr}{p:Arguments}{b:List Stmt}{sc:Scope}(h:Aed K f=some (p,b,sc)):
  LFn K f (Ahv K f) (Ahw K f) p b sc:=by
 unfold Aed at h
 generalize Ahv K f=c at h ⊢
 generalize Ahw K f=l at h ⊢
 obtain⟨o,ho,h⟩:=Option.bind_eq_some_iff.mp h
 obtain⟨fd,hf,hx⟩:=Option.bind_eq_some_iff.mp h
 obtain⟨b',hb,hy⟩:=Option.bind_eq_some_iff.mp hx
 clear h hx
 obtain⟨hc,h⟩:=AcK hy
 clear hy
 obtain⟨oc,od,osl,rfl⟩:=AiY hf
 obtain⟨hc,h5⟩:=ba2 hc
 obtain⟨hc,h6⟩:=ba2 hc
 obtain⟨hc,h4⟩:=ba2 hc
 obtain⟨hc,h3⟩:=ba2 hc
 obtain⟨hc,h2⟩:=ba2 hc
 obtain⟨h0,h1⟩:=ba2 hc
 cases h
 obtain rfl:=eq_of_beq h0
 have h6:=eq_of_beq h6
 exact⟨od,osl,fd.name,fd.qualname,fd.kwdefaults,fd.doc,fd.pyModule,fd.annotations,fd.closureTuple,ho.trans (congrArg (fun x=>some (Obj.mk (.type "function") od (.func x) osl)) (fd_eq2 (eq_of_beq h1) (eq_of_beq h2) (eq_of_beq h3) (eq_of_beq h4) h6 (Aim hb))),h6▸h5⟩
theorem Ai7{o:Obj}{cd}(h:clsD o=some cd):∃ c d s,o=⟨c,d,.cls cd,s⟩:=by
 obtain⟨c,d,dat,s⟩:=o
 cases dat with
 | cls f=>cases h;exact⟨c,d,s,rfl⟩
 | _=>cases h
theorem cd_eq{cd:ClassData}{C D:Addr}{dd:Option Addr}{k0 k1 k2 k3 k5:Option Value}(h1:cd.mro=.ref C::bmX D)(h2:cd.hasDict=true)(h3:cd.hasDel=false):
  (⟨.type "type",dd,.cls cd,⟨[k0,k1,k2,k3,some (.builtin "Exception.__new__"),k5]⟩⟩:Obj)=excClassObj cd.name cd.qualname C cd.ns cd.bases (bmX D) true cd.slotNames cd.subclasses cd.abstract cd.collection dd k0 k1 k2 k3 k5 "Exception.__new__":=by
 obtain⟨nm,bs,mro,ns,qn,hasD,sn,sub,ab,col,del⟩:=cd
 dsimp only at h1 h2 h3
 subst h1 h2 h3
 rfl
theorem slots6{l:List (Option Value)}(hl:(l.length==6)=true)(h4:(l[4]?==some (some (.builtin "Exception.__new__")))=true):∃ k0 k1 k2 k3 k5,l=[k0,k1,k2,k3,some (.builtin "Exception.__new__"),k5]:=by
 obtain⟨k0,l,rfl,hm⟩:=vs_s (show l.length=6 from eq_of_beq hl)
 obtain⟨k1,k2,k3,k4,k5,rfl⟩:=vs5 hm
 obtain rfl:=Option.some.inj (eq_of_beq (show(some k4==some (some (Value.builtin "Exception.__new__")))=true from h4))
 exact⟨k0,k1,k2,k3,k5,rfl⟩
theorem excC_of{K:Frag}{C D:Addr}(h:excC K C D=true):LCls K C D:=by
 unfold excC at h
 cases r:K.lookup C with
 | none=>rw[r] at h;cases h
 | some o=>
  rw[r] at h
  replace h:excO2 o C D=true:=h
  unfold excO2 at h
  cases hd:clsD o with
  | none=>rw[hd] at h;cases h
  | some cd=>
   rw[hd] at h
   obtain⟨h,hs⟩:=ba2 h
   obtain⟨h0,h⟩:=ba2 h
   obtain⟨h,h3⟩:=ba2 h
   obtain⟨h1,h2⟩:=ba2 h
   obtain⟨hl,h4⟩:=ba2 hs
   obtain⟨k0,k1,k2,k3,k5,e⟩:=slots6 hl h4
   obtain⟨c,dd,⟨l⟩,rfl⟩:=Ai7 hd
   obtain rfl:l=_:=e
   obtain rfl:c=_:=eq_of_beq h0
   exact⟨_,_,_,_,_,_,_,_,_,_,_,_,_,_,r.trans (congrArg some (cd_eq (eq_of_beq h1) h2 ((Bool.not_eq_true' _).mp h3)))⟩
theorem fldD_of{o:Obj}{vs:Array Value}(h:fldD o=some vs):∃ c d s,o=⟨c,d,.fields vs,s⟩:=by
 obtain⟨c,d,dat,s⟩:=o
 cases dat with
 | fields f=>cases h;exact⟨c,d,s,rfl⟩
 | _=>cases h
theorem celD_of{o:Obj}{v:Value}(h:celD o=some v):∃ c d s,o=⟨c,d,.cell (some v),s⟩:=by
 obtain⟨c,d,dat,s⟩:=o
 cases dat with
 | cell f=>cases (show f=some v from h);exact⟨c,d,s,rfl⟩
 | _=>cases h
theorem strD_of{v:Value}{x:Str}(h:strD v=some x):∃ t,v=.str x t:=by
 cases v with
 | str y t=>cases h;exact⟨t,rfl⟩
 | _=>cases h
section
variable[Own]{B:Aaj}
theorem Acc{K:Frag}(h:chk1 K=true):(∀ i∈([6,8,9,10,11,12,13,14,16,18,20,21,22,23,24,25,26,27,28,29,30,31]:List Nat),AaO K (.ref (aK K i))=true)∧(∀ p∈gI,Abi K p.1=some (.ref (aK K p.2))) ∧
  (∀ p∈bI,Abi K p.1=some (.builtin p.2))∧(∀ p∈tI,Abi K p.1=some (.type p.2))∧(∀ j∈([1,2,3,4,5,6]:List Nat),AaO K (.ref (mK K 16 j))=true)∧(∀ p∈hI,AfR K (aK K 16) p.1 (mK K 16 p.2)=true) ∧
  (∀ i∈([16,18]:List Nat),Ai6 K (aK K i) (mK K i 0)=true)∧(∀ x∈(["sides","goes_back"]:List Str),Afj K (aK K 16) x=true∧Ae2 K (aK K 16) x=true)∧∀ x∈(["name","left","right","needs"]:List Str),Afj K (aK K 18) x=true∧Ae2 K (aK K 18) x=true:=by
 simp only[chk1,Bool.and_eq_true,List.all_eq_true,beq_iff_eq] at h
 obtain⟨⟨⟨⟨⟨⟨⟨⟨h1,h2⟩,h3⟩,h4⟩,h5⟩,h6⟩,h7⟩,h8⟩,h9⟩:=h
 exact⟨h1,h2,h3,h4,h5,h6,h7,h8,h9⟩
theorem AfE{K:Frag}(hs:AfF K=Ad5):(∀ i∈fnI,Aef K (aK K i)=AfG (Acl i))∧∀ p∈mI,Aef K (mK K p.1 p.2)=AfG (AeR p.1 p.2):=by
 have e:=List.append_inj (List.cons.inj hs).2 (by rw[List.length_map,List.length_map])
 exact⟨List.map_inj_left.mp e.1,List.map_inj_left.mp e.2⟩
noncomputable def prgOf(O:BOk B)(h:chk1 B.K=true)(hs:AfF B.K=Ad5):Prg B where
 O:=O
 a:=aK B.K
 m:=mK B.K
 fn:=fun i hi=>AeN ((AfE hs).1 i hi)
 keep:=(Acc h).1
 gfn:=(Acc h).2.1
 gbi:=(Acc h).2.2.1
 gty:=(Acc h).2.2.2.1
 mfn:=fun p hp=>AeN ((AfE hs).2 p hp)
 mkeep:=(Acc h).2.2.2.2.1
 meth:=(Acc h).2.2.2.2.2.1
 cls:=(Acc h).2.2.2.2.2.2.1
 sget:=(Acc h).2.2.2.2.2.2.2.1
 rget:=(Acc h).2.2.2.2.2.2.2.2
theorem lfx_of(h:chk2 B.K B.prog=true)(hs:AfF B.K=Ad5):Nonempty (LFx B (aK B.K 4))∧keepIn B.K (.ref (aK B.K 4))=true∧exmOne B.K (.ref (aK B.K 4)) (.ref (aK B.K 4))=some true:=by
 simp only[chk2,Bool.and_eq_true,beq_iff_eq,bne_iff_ne,ne_eq,Bool.not_eq_true',decide_eq_true_eq] at h
 obtain⟨⟨⟨⟨⟨⟨⟨⟨⟨⟨⟨⟨⟨⟨⟨h1,h2⟩,h3⟩,h4⟩,h5⟩,h6⟩,h7⟩,h8⟩,h9⟩,h10⟩,h11⟩,h12⟩,h13⟩,h14⟩,h15⟩,h16⟩:=h
 refine⟨⟨{ D:=aK B.K 1,fI:=_,cc:=_,cda:=_,cls:=excC_of h1,ne:=h2,init:=h3,sat:=h4,what:=h5,fn:=Af2 (List.cons.inj hs).1,code:=?_,cell:=?_,cD:=?_,sup:=h9,nost:=h10,htop:=h11 }⟩,h12,h13⟩
 ·obtain⟨vs,hv,h6⟩:=Option.bind_eq_some_iff.mp (eq_of_beq h6)
  obtain⟨o,ho,hf⟩:=Option.bind_eq_some_iff.mp hv
  obtain⟨v,hv,hs⟩:=Option.bind_eq_some_iff.mp h6
  obtain⟨a,b,c,rfl⟩:=fldD_of hf
  obtain⟨t,rfl⟩:=strD_of hs
  exact⟨a,b,vs,c,_,t,ho,hv,beq_iff_eq.mpr rfl⟩
 ·obtain⟨o,ho,hc⟩:=Option.bind_eq_some_iff.mp (eq_of_beq h7)
  obtain⟨a,b,c,rfl⟩:=celD_of hc
  exact⟨a,b,c,ho⟩
 ·obtain⟨cd,h8⟩:=Option.isSome_iff_exists.mp h8
  obtain⟨o,ho,hc⟩:=Option.bind_eq_some_iff.mp h8
  obtain⟨a,b,c,rfl⟩:=Ai7 hc
  exact⟨_,cd,ho,rfl⟩
theorem Ai8{K:Frag}{p:Program}(h:chk2 K p=true):(∃ b o,sysModules<b∧K.lookup b=some o)∧nsIn K mainGlobals "law"=some (some (.ref (aK K 32))):=by
 simp only[chk2,Bool.and_eq_true,beq_iff_eq,decide_eq_true_eq] at h
 obtain⟨o,e⟩:=Option.isSome_iff_exists.mp h.1.2
 exact⟨⟨_,o,h.1.1.2,e⟩,h.2⟩
end
end Pq
set_option maxHeartbeats 8000000
namespace Pq
theorem AiQ{vs:List Value}{xs:List Int}(h:IntsAre vs xs):All2 (fun (i:Int) (v:Value)=>∃ t,v=.int i t) xs vs:=by
 induction h with
 | nil=>exact All2.nil
 | cons n t _ ih=>exact All2.cons ⟨t,rfl⟩ ih
theorem law_ends{w:World}{s:Shared}{mg mb:Str→Option Value}{fa sa:Addr}{vs:List Value}{xs:List Int}(G:s.heap.Ns mainGlobals mg)(Gb:s.heap.Ns builtinsNs mb)(hb:∀ x:Str,x≠"__name__"→mb x=bootBuiltins x)(hl:s.heap.NoLimit)
  (Y:Aex.says w s.heap) (hmg:mg "law"=some (.ref fa)) (hg:s.gens=#[]) (hL:s.heap.IsList sa vs.toArray) (hI:IntsAre vs xs) (hz:¬ ((63:Nat):Int)<(xs.length:Int)) :
  codeAny (model Aid w) callerA (.call (.ref fa) ⟨[.ref sa],[]⟩) (fun r s'=>r=.ok (.ret (.bool true))∧(∀ b o,s.heap.get? b=some o→s'.heap.get? b=some o)∧s'.os=s.os∧s'.gens=#[]) s:=by
 letI:Own:=⟨fun jj=>False⟩
 obtain⟨K,X,hs,h1,h2⟩:=Y
 obtain⟨⟨b,o,hb1,hb2⟩,hlaw⟩:=Ai8 h2
 let B:Aaj:=⟨Aid,w,K,s.heap,s.os,b,o,hb1,X _ _ hb2⟩
 have O:BOk B:=⟨X,⟨mg,G⟩,⟨mb,Gb,hb⟩,hl⟩
 obtain⟨⟨LF⟩,hk,hx⟩:=lfx_of (B:=B) h2 hs
 have hfa:mg "law"=some (.ref (aK K 32)):=mg_of X G hlaw
 obtain rfl:fa=aK K 32:=by rw[hmg] at hfa;cases hfa;rfl
 have S:St B (fun jj=>none) s:=⟨fun jj jj e=>e,fun jj h=>absurd rfl h,fun jj jj h=>(nomatch h),hg,rfl,fun jj h=>absurd rfl h,fun jj h=>h.elim⟩
 have hB:Aic B sa xs:=⟨vs.toArray,hL,AiQ hI⟩
 refine codeAny_mono (law_call (prgOf O h1 hs) LF hk hx hB (by lia) (show Room callerA 21 from⟨rfl,by decide,by decide⟩) rfl S) fun r s' h=>?_
 obtain⟨rfl,σ',S'⟩:=h
 exact⟨rfl,S'.base,S'.os,S'.gens⟩
theorem fin:PySem.Challenge.rw_pq0117_01.Holds:=by
 w_on
 refine holds_law law_said fun said=>?_
 refine holds_open (q:=topV) (loose:=Ahj) (Xt:=recsV) (XP:=XL topV []) (Yf:=Aex.obs) (Ya:=Aex.val) (YP:=Aex.says) (N:=4684) topRun Aex.of Aex.keeps (fun s e=>xl_of s (Bool.and_eq_true_iff.mp e).1) XL.keeps (by rfl) (by rfl) (by rfl) (fun s e=>recFacts_of (Bool.and_eq_true_iff.mp e).2) (by rfl) (by first | assumption | decide +kernel) (by decide +kernel) ⟨rfl,rfl,rfl,rfl,rfl,by decide +kernel⟩ ?hw ?hc
 case hw=>w_witness2
 intro w s₀ s₁ mg mb G Y fa o pm cd doc dV kV ho hd hcd hD hmg hg args vals as hpre hlay hrd hwl hlo
 refine Ground.open G ?_
 intro T B D TE TW
 clear B D TE TW ho hd hcd hD
 wrow_args hpre hlay hrd hwl hlo
 rename_i xs hs hlay0 hL1 hr1 hl2 w4 w3 sa vs w0 hL ra w1 r0 hI hr hc1 hc2
 refine wpAny_call (codeAny_mono (law_ends T.g T.b (fun x hx=>T.builtins x hx) T.nolimit Y hmg hg hL hI hc1) fun r s' h=>?_)
 obtain⟨rfl,h1,h2,h3⟩:=h
 exact GoodW.toG ⟨.inl ⟨.bool true,.bool true,[],rfl,fun jj=>rfl,.bool true,by wrow_post,fun jj=>⟨List.nodup_nil,fun jj h=>nomatch h⟩⟩,h1,h2,h3⟩
end Pq
end
theorem PySem.Challenge.cw_pq0117_01_holds : PySem.Challenge.rw_pq0117_01.Holds := by
  exact Pq.fin
