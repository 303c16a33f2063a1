import PyProof.Rows.All
import Wide.All
import Wide.FinOn
import OpenK.Peek
import OpenK.KGet
import OpenK.KMore
import OpenK.KWalk
import OpenK.KCall
import OpenK.KMake
import OpenK.KLine
import OpenK.KList
import OpenK.TopRead
import KE.KItem
import OpenK.KOwn
import PyProof.NsDelKeeps
import Lean
import PySem.Challenge.RW_nz0515_01
set_option Elab.async false
set_option bootstrap.genMatcherCode false
set_option linter.all false
set_option tactic.hygienic false
set_option backward.match.sparseCases false
set_option genSizeOf false
set_option genSizeOfSpec false
set_option genInjectivity false
set_option genCtorIdx false
set_option maxRecDepth 100000
set_option maxHeartbeats 8000000
namespace NH.Internal
open PySem PySem.W PyProof.Rows
noncomputable def ofL:BT->Nat->List Obj->BT:=fun O U V=>match O,U,V with
 |t,O,[]=>t
 |t,n,o::os=>ofL (t.ins n o) (n+1) os
noncomputable def okL:BT->Nat->List Obj->Bool:=fun O U V=>match O,U,V with
 |O,U,[]=>true
 |t,n,o::os=>((t.ins n o).get n).isSome&&okL (t.ins n o) (n+1) os
theorem Z2r(life:Life):∀ (os:List Obj) (t:BT) (n:Nat),okL t n os=true->absHeap (ofL t n os) (n+os.length) life=⟨(absHeap t n life).objs++os.toArray,life⟩:=fun O U V O1=>match O,U,V,O1 with
 |[],t,n,O=>by show (⟨(t.list n).toArray,life⟩:Heap)=⟨(t.list n).toArray++#[],life⟩;rw[Array.append_empty]
 |o::os,t,n,h=>by
  have h:=Bool.and_eq_true_iff.mp h
  have e:=Z2r life os (t.ins n o) (n+1) h.2
  rw[absHeap_ins h.1] at e
  rw[show n+(o::os).length=n+1+os.length by simp;omega]
  show absHeap (ofL (t.ins n o) (n+1) os) _ _=_
  rw[e]
  simp[Heap.push]
noncomputable def ofH(s:Shared):SharedT:=⟨ofL .nil 0 s.heap.objs.toList,s.heap.objs.toList.length,s.heap.life,s.gens,s.drawn,s.toks,s.os⟩
theorem Z2s{s:Shared}(h:okL .nil 0 s.heap.objs.toList=true):(ofH s).abs=s:=by
 obtain ⟨⟨objs,life⟩,gens,drawn,toks,os⟩:=s
 have e:=Z2r life objs.toList .nil 0 h
 unfold ofH SharedT.abs
 dsimp only at e ⊢
 rw[Nat.zero_add] at e
 rw[e,show (absHeap .nil 0 life).objs++objs.toList.toArray=objs from Array.empty_append.trans Array.toArray_toList]
noncomputable def Km{α:Type}(b:Bool)(o:Option α):Option α:=cond b o none
theorem YQ{α:Type}{b:Bool}{o:Option α}{x:α}(h:Km b o=some x):b=true/\o=some x:=by
 cases b with
 |false=>exact nomatch h
 |true=>exact ⟨rfl,h⟩
theorem X6{α:Type}{o:Option α}:Km true o=o:=rfl
noncomputable def Z6I(tb:String->Option Builtin)(p:Program)(w:World):Nat->SharedT->Thread->Option SharedT:=fun O U V=>match O,U,V with
 |0,O,U=>none
 |n+1,s,t=>match t.atExitBegin with
  |some l=>Km l.isEmpty (some s)
  |none=>(stepT (denote tb) p w s t).bind fun q=>Z6I tb p w n q.1 q.2
theorem Z6J{tb:String->Option Builtin}{p:Program}{w:World}{n:Nat}:∀ {s s':SharedT} {t:Thread},Z6I tb p w n s t=some s'->importEnds tb p w n s.abs t=some s'.abs:=by
 induction n with
 |zero=>intro s s' t h;exact nomatch h
 |succ n ih=>
  intro s s' t h
  change (match t.atExitBegin with
   |some l=>Km l.isEmpty (some s)
   |none=>(stepT (denote tb) p w s t).bind fun q=>Z6I tb p w n q.1 q.2)=_ at h
  unfold importEnds
  generalize t.atExitBegin=b at h
  cases b with
  |some l=>cases l with
   |nil=>exact congrArg (fun x:SharedT=>some x.abs) (Option.some.inj h)
   |cons=>exact nomatch h
  |none=>
   obtain ⟨q,e,h⟩:=Option.bind_eq_some_iff.mp h
   dsimp only
   rw[stepT_spec e]
   exact ih h
noncomputable def Z6K(tb:String->Option Builtin)(p:Program)(w:World)(n₀:Nat)(ann:Option Value):Nat->SharedT->Thread->Option SharedT:=fun O U V=>match O,U,V with
 |0,O,U=>none
 |n+1,s,t=>match through t with
  |true=>some s
  |false=>Km (stepOk n₀ ann t) ((stepT (denote tb) p w s t).bind fun q=>Z6K tb p w n₀ ann n q.1 q.2)
theorem Z6L{tb:String->Option Builtin}{p:Program}{w:World}{n₀:Nat}{ann:Option Value}{n:Nat}:∀ {s s':SharedT} {t:Thread},Z6K tb p w n₀ ann n s t=some s'->topRun tb p w n₀ ann n s.abs t=some s'.abs:=by
 induction n with
 |zero=>intro s s' t h;exact nomatch h
 |succ n ih=>
  intro s s' t h
  change (match through t with
   |true=>some s
   |false=>Km (stepOk n₀ ann t) ((stepT (denote tb) p w s t).bind fun q=>Z6K tb p w n₀ ann n q.1 q.2))=_ at h
  unfold topRun
  generalize through t=b at h
  cases b with
  |true=>exact congrArg (fun x:SharedT=>some x.abs) (Option.some.inj h)
  |false=>
   obtain ⟨k,h⟩:=YQ h
   obtain ⟨q,e,h⟩:=Option.bind_eq_some_iff.mp h
   rw[k]
   dsimp only
   rw[stepT_spec e]
   exact ih h
noncomputable def XZ{β:Type}(p:Program)(w:World)(N:Nat)(f:Shared->Shared->β):Option β:=
 Km (okL .nil 0 (start (opening p)).1.heap.objs.toList) ((Z6I treeTable (opening p) w N (ofH (start (opening p)).1) (start (opening p)).2).bind fun a=>(fenceModules? p a.abs).bind fun s0=>
  Km (okL .nil 0 s0.heap.objs.toList) (Km (s0.heap.isNs mainGlobals&&s0.gens.size == 0)
   ((Z6K treeTable p w s0.heap.objs.size (s0.heap.nsMap mainGlobals "__annotations__") N (ofH s0) (topStub p)).map fun q0=>f s0 q0.abs)))
theorem Z4i{β:Type}{p:Program}{w:World}{N:Nat}{f:Shared->Shared->β}{x:β}(h:XZ p w N f=some x):∃ s0 q0,openEnds treeTable p w N=(match staticsOk (importedModules p.main.body) s0.heap q0.heap&&namesBound p q0.heap&&gensDone q0&&laidKept s0.heap q0.heap with
   |true=>some q0
   |false=>none)/\f s0 q0=x:=by
 obtain ⟨h0,h⟩:=YQ h
 obtain ⟨a,h1,h⟩:=Option.bind_eq_some_iff.mp h
 obtain ⟨s0,h2,h⟩:=Option.bind_eq_some_iff.mp h
 obtain ⟨h3,h⟩:=YQ h
 obtain ⟨h4,h⟩:=YQ h
 obtain ⟨q0,h5,h⟩:=Option.map_eq_some_iff.mp h
 refine ⟨s0,q0.abs,?_,h⟩
 have a1:=Z6J h1
 rw[Z2s h0] at a1
 have a5:=Z6L h5
 rw[Z2s h3] at a5
 unfold openEnds fencedOpening
 rw[a1]
 show ((fenceModules? p a.abs).bind _)=_
 rw[h2]
 show topFrom treeTable p w N s0=_
 unfold topFrom
 rw[h4]
 dsimp only
 rw[a5]
 rfl
theorem Ws{β:Type}{p:Program}{w:World}{N:Nat}{f:Shared->Shared->β}{x:β}(h:XZ p w N f=some x):∃ q,XZ p w N Prod.mk=some q/\f q.1 q.2=x:=by
 obtain ⟨h0,h⟩:=YQ h
 obtain ⟨a,h1,h⟩:=Option.bind_eq_some_iff.mp h
 obtain ⟨s0,h2,h⟩:=Option.bind_eq_some_iff.mp h
 obtain ⟨h3,h⟩:=YQ h
 obtain ⟨h4,h⟩:=YQ h
 obtain ⟨q0,h5,h⟩:=Option.map_eq_some_iff.mp h
 refine ⟨(s0,q0.abs),?_,h⟩
 unfold XZ
 rw[h0,X6,h1,Option.bind_some,h2,Option.bind_some,h3,X6,h4,X6,h5]
 rfl
theorem Z4j{β:Type}{p:Program}{w:World}{N:Nat}{f:Shared->Shared->β}{q:Shared × Shared}(h:XZ p w N Prod.mk=some q):XZ p w N f=some (f q.1 q.2):=by
 obtain ⟨h0,h⟩:=YQ h
 obtain ⟨a,h1,h⟩:=Option.bind_eq_some_iff.mp h
 obtain ⟨s0,h2,h⟩:=Option.bind_eq_some_iff.mp h
 obtain ⟨h3,h⟩:=YQ h
 obtain ⟨h4,h⟩:=YQ h
 obtain ⟨q0,h5,h⟩:=Option.map_eq_some_iff.mp h
 obtain rfl:=h
 unfold XZ
 rw[h0,X6,h1,Option.bind_some,h2,Option.bind_some,h3,X6,h4,X6,h5]
 rfl
theorem Z6M{p q:Program}{loose:List Str}{Xt:Shared->Bool}{α:Type}{Yf:Shared->α}{Ya:World->α}{N:Nat}{g0:Bool}
  (h:∀ w:World,XZ p w N (fun s0 q0=>(staticsOk (importedModules p.main.body) s0.heap q0.heap&&namesBound p q0.heap&&gensDone q0&&laidKept s0.heap q0.heap,openSeen q loose (importedModules p.main.body) Xt g0 q0,Yf q0))=some (true,openGood q loose,Ya w)) :
  LeftO p q loose Xt Yf Ya N g0:=fun w=>by
 obtain ⟨s0,q0,e,e'⟩:=Z4i (h w)
 obtain ⟨z1,z2,z3⟩:_/\_/\_:=by simpa only[Prod.mk.injEq] using e'
 rw[e,z1]
 exact congrArg some (Prod.ext z2 z3)
end NH.Internal
namespace NZ.Internal
open PySem PySem.Calls PyProof.Rows PySem.W
noncomputable def PR:List Stmt:=PySem.Challenge.pw_nz0515_01.main.body
noncomputable abbrev bmE:List Value:=[.type "Exception",.type "BaseException",.type "object"]
noncomputable def Z6N(t:String):Value->Bool:=fun O=>match O with
 |.type a=>a == t
 |O=>false
noncomputable def ZaR:List Value->Bool:=fun O=>match O with
 |[a,b,d]=>Z6N "Exception" a&&Z6N "BaseException" b&&Z6N "object" d
 |O=>false
noncomputable def XJ:List Value->Bool:=fun O=>match O with
 |[]=>false
 |v::r=>match v with
  |.ref O=>XJ r
  |O=>ZaR (v::r)
noncomputable def Z4k(n:Str):Option (Arguments × List Stmt × Scope):=PR.findSome? fun st=>match st with
 |.ClassDef m O U b V O1 O2 O3 O4 O5 O6=>if m=n then (b.findSome? fun st=>match st with
  |.FunctionDef f a body O U V sc O1 O2 O3=>if f="__init__" then some (a,body,sc) else none
  |O=>none) else none
 |O=>none
noncomputable def Xz(n:Str):List Stmt:=match Z4k n with
 |some (O,b,U)=>b
 |none=>[]
noncomputable def Z1g(n q:Str)(df md:Value)(cd:Addr):FuncData:=match Z4k n with
 |some (a,b,sc)=>{name:="__init__",qualname:=q,params:=a,body:=.stmts b,scope:=sc,globals:=mainGlobals,closure:=[],defaults:=df,kwdefaults:=.none,pyModule:=md,code:=.ref cd}
 |none=>default
noncomputable def Ua(fd:FuncData):Obj:={cls:=.type "function",data:=.func fd}
noncomputable def Jy:FuncData:=Z1g "Vector" "Vector.__init__" (.ref 241) (.str "vectorcove.values" 471) 247
noncomputable def Kn:FuncData:=Z1g "Null" "Null.__init__" .none (.str "vectorcove.values" 471) 225
noncomputable def Z2t:FuncData:=Z1g "Refusal" "Refusal.__init__" .none (.str "vectorcove.errors" 640) 373
noncomputable def Z1h:Obj:={cls:=.type "tuple",data:=.seq #[.none]}
noncomputable def Z4l:Obj:=excClassObj "Refusal" "Refusal" 377 376 [.ref 357] [.ref 357,.type "Exception",.type "BaseException",.type "object"] true [] [] false none none (some (.ref 361)) none (some (.str "Refusal" 662)) (some (.str "Refusal" 670)) (some (.bool true)) "Exception.__new__"
noncomputable def Ko(K:Frag)(C fI:Addr)(fd:FuncData)(sets:List Str):Bool:=
 keepIn K (.ref C)&&findIn K (.ref C) "__init__"== some (some (.ref fI))&&codeIn K fd.code fd.qualname&&findIn K (.ref C) "__setattr__"== some (some (.builtin "object.__setattr__")) &&
  (clsIn K C).any (fun O=>O.hasDict)&&sets.all fun x=>takerIn K C x == some none
noncomputable def V0:List Str:=["kind","items","attrs","shared","loose"]
noncomputable def Z4m(K:Frag):Bool:=Ko K 258 248 Jy V0&&makesIn K 258&&plainOver K 258
noncomputable def Z2u(K:Frag):Bool:=Ko K 229 226 Kn ["kind","attrs"]&&makesIn K 229&&plainOver K 229
noncomputable def Z4n(K:Frag):Bool:=Ko K 377 374 Z2t ["message"]&&(clsIn K 377).any (fun cd=>XJ cd.mro)&&tailIn K bmE [.ref 357,.type "Exception",.type "BaseException",.type "object"] &&
 findIn K (.ref 377) "__getattribute__"== some (some (.builtin "BaseException.__getattribute__"))&&findIn K (.ref 377) "message"== some none&&findIn K (.ref 377) "__getattr__"== some none&&mroIn K 377 (.type "BaseException") == some true
end NZ.Internal
namespace NZ.Internal
open PySem PySem.Calls PyProof.Rows PySem.W NH.Internal
noncomputable abbrev HP:Program:=PySem.Challenge.rw_nz0515_01.row.toRowW.prog
noncomputable def Z91:List Nat:=(List.range 111).filter fun i=>match PR[i]? with
 |some (.Assign [.Name x _] _ _)=>x !="__name__"
 |some (.FunctionDef n ..)=>n !="number_text"
 |_=>true
noncomputable def HVw:Program:=view PySem.Challenge.pw_nz0515_01 Z91
noncomputable def HL:List Str:=[Str.ofString "number_text"]
noncomputable def HX:Shared->Bool:=fun s=>xlAt HVw [] s&&recOk PySem.Challenge.rw_nz0515_01.row.toRowW.records s
noncomputable def Ub(h:Heap)(as:List Addr):Frag:=as.filterMap fun a=>(h.get? a).map (a,·)
theorem Vn(h:Heap):∀ as,(Ub h as).In h
 |[],a,o,e=>by cases e
 |b::as,a,o,e=>by
  unfold Ub at e
  cases hb:h.get? b with
  |none=>rw[List.filterMap_cons,hb] at e;exact Vn h as a o e
  |some o'=>
   rw[List.filterMap_cons,hb] at e
   change List.lookup a ((b,o')::Ub h as)=some o at e
   rw[List.lookup_cons] at e
   by_cases q:a=b
   ·subst q;simp at e;rw[hb,e]
   ·have:(a == b)=false:=by simpa using q
    rw[this] at e
    exact Vn h as a o e
noncomputable def Z92(K:Frag)(C:Addr)(names:List Str):Bool:=findIn K (.ref C) "__getattribute__"== some (some (.builtin "object.__getattribute__"))&&hasDictIn K C&&names.all fun x=>findIn K (.ref C) x == some none
noncomputable def Z1i(K:Frag):Bool:=
 Z4m K&&Z2u K&&Z4n K&&Z92 K 258 ["kind","items","attrs"]&&Z92 K 229 ["kind","attrs"] &&
 nsIn K mainGlobals "Vector"== some (some (.ref 258))&&nsIn K mainGlobals "Null"== some (some (.ref 229))&&nsIn K mainGlobals "Refusal"== some (some (.ref 377))
noncomputable def Z93:List Addr:=[248,241,226,374,377]
noncomputable def Z94:List (Option Obj):=[some (Ua Jy),some Z1h,some (Ua Kn),some (Ua Z2t),some Z4l]
noncomputable def HH:Hook where
 α:=Bool × List (Option Obj)
 obs s:=(Z1i (Ub s.heap (List.range s.heap.objs.size)),Z93.map (fun a=>(Ub s.heap (List.range s.heap.objs.size)).lookup a))
 val _:=(true,Z94)
 says _ h:=∃ K:Frag,K.In h/\Z1i K=true/\Z93.map (fun a=>K.lookup a)=Z94
 of _ s e:=⟨_,Vn _ _,congrArg Prod.fst e,congrArg Prod.snd e⟩
 keeps _ h h':=fun ⟨K,i,e⟩ k=>⟨K,fun a o q=>k a o (i a o q),e⟩
noncomputable def ZaS:Stmt->Option DefRec
 |.FunctionDef name a b _ _ _ sc _ _ pos=>if a.defaults.isEmpty then some ⟨name,a,b,sc,pos⟩ else none
 |_=>none
noncomputable def R0h:List DefRec:=PR.filterMap ZaS
noncomputable def Z1j:List Str:=["number_text","Vector","NAN","INF","ZERO"]
noncomputable def Z4o:Program:=view PySem.Challenge.pw_nz0515_01 [2,3,4,15,35,36,52,53,55]
noncomputable def HMh:List Str:=importedModules HP.main.body
noncomputable def LGh:List Str:=["MOST_EXPONENT","MOST_INTEGER"]
noncomputable def CGh:List Str:=["Null","CoveError","Refusal"]
theorem Z4p:recsOf HVw=R0h:=by kernel_rfl
theorem Z2v:looseW HVw HL=Z1j:=by kernel_rfl
theorem Z95:(litsOf HVw).map (·.1)=LGh:=by kernel_rfl
theorem Z96:(clssOf HVw Z1j).map (·.name)=CGh:=by kernel_rfl
theorem Z4q:drecsOf HVw=[]:=by kernel_rfl
theorem Z4r:wdefsOf HVw=[]:=by kernel_rfl
theorem Z97:wlitsOf HVw=wlitsOf Z4o:=by kernel_rfl
theorem Z2w:plainsOf HVw Z1j=plainsOf Z4o Z1j:=by kernel_rfl
noncomputable def R0a:List DefRec:=R0h.take 45
noncomputable def R0b:List DefRec:=R0h.drop 45
theorem Z8u:R0a++R0b=R0h:=List.take_append_drop 45 R0h
noncomputable def g1h(a s:Shared):=(staticsOk HMh a.heap s.heap&&namesBound HP s.heap&&gensDone s&&laidKept a.heap s.heap,s.heap.bltView)
noncomputable def g5h(s:Shared):=(R0a.map fun d=>s.heap.shapeAt mainGlobals d.name,(ownsOf HVw).all fun o=>s.heap.ownExcOk o.name o.chain o.bm o.newId&&s.heap.quietOk o.name,s.heap.isNs mainGlobals,s.heap.isNs builtinsNs,s.heap.noLimitOk&&s.heap.noDigitsOk)
noncomputable def v5h:=(R0a.map fun d=>some d.shape,true,true,true,true)
noncomputable def g6h(s:Shared):=R0b.map fun d=>s.heap.shapeAt mainGlobals d.name
noncomputable def v6h:=R0b.map fun d=>some d.shape
theorem Z6O{s:Shared}(e5:g5h s=v5h)(e6:g6h s=v6h):seen (R0h.map (·.name)) (ownsOf HVw) [] {s with gens:=#[]}=⟨R0h.map fun d=>some d.shape,true,[],true,true,true,0⟩:=by
 have k:(R0h.map (·.name)).map (s.heap.shapeAt mainGlobals)=R0h.map fun d=>some d.shape:=by
  have e0:(R0a.map fun d=>s.heap.shapeAt mainGlobals d.name)=R0a.map fun d=>some d.shape:=congrArg (fun x=>x.1) e5
  have e6:(R0b.map fun d=>s.heap.shapeAt mainGlobals d.name)=R0b.map fun d=>some d.shape:=e6
  rw[List.map_map,<-Z8u,List.map_append,List.map_append,<-e0,<-e6]
  rfl
 have o1:((ownsOf HVw).all fun o=>s.heap.ownExcOk o.name o.chain o.bm o.newId&&s.heap.quietOk o.name)=true:=congrArg (fun x=>x.2.1) e5
 have o2:s.heap.isNs mainGlobals=true:=congrArg (fun x=>x.2.2.1) e5
 have o3:s.heap.isNs builtinsNs=true:=congrArg (fun x=>x.2.2.2.1) e5
 have o4:(s.heap.noLimitOk&&s.heap.noDigitsOk)=true:=congrArg (fun x=>x.2.2.2.2) e5
 unfold seen
 dsimp only
 rw[k,o1,o2,o3,o4]
 rfl
noncomputable def g2h(s:Shared):Bool:=s.heap.keysOk Z1j (R0h.map (·.name)) LGh CGh&&s.heap.accountedOkI HMh&&s.heap.isNs mainGlobals&&s.heap.isNs builtinsNs&&tablesOk HVw s.heap&&HX s&&(if true then s.gens.size == 0 else !leftWithCleanup s.gens)
noncomputable def g4h(s:Shared):Bool:=(R0a.all fun d=>s.heap.tab0Ok d.name)&&s.heap.bmainOk&&valsOk HVw s.heap
noncomputable def g7h(s:Shared):Bool:=(R0b.all fun d=>s.heap.tab0Ok d.name)&&(!importsNone HVw||s.heap.noSeerOk)
theorem Z6P{s:Shared}(e4:g4h s=true)(e7:g7h s=true):(((R0h.all fun d=>s.heap.tab0Ok d.name)&&s.heap.bmainOk&&valsOk HVw s.heap)&&(!importsNone HVw||s.heap.noSeerOk))=true:=by
 obtain ⟨a,a3⟩:=Bool.and_eq_true_iff.mp e4
 obtain ⟨a1,a2⟩:=Bool.and_eq_true_iff.mp a
 obtain ⟨b1,b2⟩:=Bool.and_eq_true_iff.mp e7
 rw[<-Z8u,List.all_append,a1,b1,a2,a3,b2]
 rfl
noncomputable abbrev WDh:=List (DefRec × List (Str × Expr))
noncomputable def g3h(s:Shared):=
 (pinSeenD HVw [] s,(plainsOf Z4o Z1j).map fun c=>s.heap.plainShapeAt c.withCmp,plainSeenD HVw HL s,
  ((([]:WDh).map fun d=>shapeAtK s.heap d.1.name,(([]:WDh).all fun d=>s.heap.restOk (HVw.nameAt false d.1.name) d.1.name&&dfltAt s.heap d)&&(wlitsOf Z4o).all (constAt s.heap)):List (Option FnShape) × Bool),clsSeenW HVw HL s)
noncomputable def v3h:=
 (pinGoodD ([]:List (DefRec × List PyData)),(plainsOf Z4o Z1j).map fun c=>some c.withCmp.plainShape,plainGoodD HVw HL,(((([]:WDh).map fun d=>some d.1.shape),true):List (Option FnShape) × Bool),clsGoodW HVw HL)
theorem Z6Q(s:Shared):openSeen HVw HL HMh HX true s=(seen (R0h.map (·.name)) (ownsOf HVw) [] {s with gens:=#[]},s.heap.bltView,g2h s,((R0h.all fun d=>s.heap.tab0Ok d.name)&&s.heap.bmainOk&&valsOk HVw s.heap)&&(!importsNone HVw||s.heap.noSeerOk),g3h s):=by
 unfold openSeen tabsOk plainSeenE wideSeen
 rw[Z4p,Z2v,Z95,Z96,Z4q,Z4r,Z97,Z2w]
 rfl
theorem Z6R:openGood HVw HL=((⟨R0h.map fun d=>some d.shape,true,[],true,true,true,0⟩:Seen),bltViewBooted,true,true,v3h):=by
 unfold openGood expectedOf plainGoodE wideGood
 rw[Z4p,Z2v,Z4q,Z4r,Z2w]
 rfl
theorem h1h(w:World):XZ HP w 7688 (fun _ s=>g7h s)=some true:=by kernel_rfl
theorem h2h(w:World):XZ HP w 7688 (fun a s=>(g6h s,g1h a s))=some (v6h,true,bltViewBooted):=by kernel_rfl
theorem h3h(w:World):XZ HP w 7688 (fun _ s=>(g3h s,HH.obs s))=some (v3h,HH.val w):=by kernel_rfl
theorem h4h(w:World):XZ HP w 7688 (fun _ s=>(g2h s,g4h s,g5h s))=some (true,true,v5h):=by kernel_rfl
theorem same{q q':Shared × Shared}{o:Option (Shared × Shared)}(e:o=some q)(k:o=some q'):q'=q:=Option.some.inj (k.symm.trans e)
theorem Z98:LeftO HP HVw HL HX HH.obs HH.val 7688:=Z6M fun w=>by
 obtain ⟨q,e,e7⟩:=Ws (h1h w)
 obtain ⟨q2,k2,a2⟩:=Ws (h2h w)
 obtain ⟨q3,k3,e3⟩:=Ws (h3h w)
 obtain ⟨q4,k4,a4⟩:=Ws (h4h w)
 obtain rfl:=same e k2
 obtain rfl:=same e k3
 obtain rfl:=same e k4
 obtain ⟨e6,e1⟩:=Prod.mk.inj a2
 obtain ⟨e2,a4⟩:=Prod.mk.inj a4
 obtain ⟨e4,e5⟩:=Prod.mk.inj a4
 rw[Z4j e]
 refine congrArg some (Prod.ext (congrArg (fun x=>x.1) e1) (Prod.ext ?_ (congrArg (fun x=>x.2) e3)))
 show openSeen HVw HL HMh HX true _=openGood HVw HL
 rw[Z6Q,Z6R]
 exact Prod.ext (Z6O e5 e6) (Prod.ext (congrArg (fun x=>x.2) e1) (Prod.ext e2 (Prod.ext (Z6P e4 e7) (congrArg (fun x=>x.1) e3))))
theorem ZcE:PySem.Challenge.rw_nz0515_01.wellSaid=true:=by
 unfold OpenLaw.wellSaid OpenRow.wellSaid OpenRow.partSaid looksOpen
 repeat' with_reducible refine look_both ?_ ?_
 all_goals decide +kernel
end NZ.Internal
namespace NZ.Internal
open PySem
theorem Jz{M}{Γ}{p}{t}{fs}{s s'}{e}(h:Runs M Γ p t fs s e s'):s.heap.objs.size<=s'.heap.objs.size:=by
 induction h<;>(try simp only[Shared.setGen,Heap.size_push,Heap.size_after_update] at *)<;>lia
theorem Kp{M}{Γ}{p}{s s'}{r}(h:Returns M Γ p s r s'):s.heap.objs.size<=s'.heap.objs.size:=Jz h
theorem Z1k{M}{Γ}{p}{g}{r:Resume}{s s'}{res:GenResult}(h:Wakes M Γ p g r s res s'):s.heap.objs.size<=s'.heap.objs.size:=by
 unfold Wakes at h
 have run:∀ {Γ p t fs} {X:_->Prop},(∃ e1_ q0,Runs M Γ p t fs (s.setGen g .running) e1_ q0/\e1_.quiet=true/\X e1_/\s'=q0.setGen g e1_.genState)->s.heap.objs.size<=s'.heap.objs.size:=by
  rintro Γ p t fs X ⟨e1_,q0,hr,O,O,rfl⟩;exact (Jz hr:(s.setGen g .running).heap.objs.size<=q0.heap.objs.size)
 have same:∀ {P:Prop},P/\s'=s->s.heap.objs.size<=s'.heap.objs.size:=fun h=>by rw[h.2];exact Nat.le_refl _
 generalize s.gens[g]?=w at h
 cases w with
 |none=>exact h.elim
 |some G=>cases G with
  |fresh=>cases r with
   |send v=>cases v with
    |none=>exact run (X:=fun e=>res=e.result) h
    |_=>exact same h
   |throw=>rw[h.2];exact Nat.le_refl _
  |suspended=>exact run (X:=fun e=>res=e.result) h
  |running=>exact same h
  |finished=>exact same h
theorem Z6S{α:Type}(M)(Γ)(n)(t:Sem α):∀ (Q:α->Pos->Shared->Prop) (E:Value->Pos->Shared->Prop) (p:Pos) (s:Shared),n<=s.heap.objs.size->Sem.wp M Γ t Q E p s ->
  Sem.wp M Γ t (fun a p' s'=>n<=s'.heap.objs.size/\Q a p' s') (fun e p' s'=>n<=s'.heap.objs.size/\E e p' s') p s:=by
 induction t with
 |pure a=>intro Q E p s hn h;exact ⟨hn,h⟩
 |raise e=>intro Q E p s hn h;exact ⟨hn,h⟩
 |unsupported O=>intro Q E p s O h;exact h
 |finish O=>intro Q E p s O h;exact h
 |rule O k ih=>intro Q E p s hn h;exact ih () Q E p s hn h
 |«at» p' k ih=>intro Q E p s hn h;exact ih () Q E p' s hn h
 |load a O k ih=>intro Q E p s hn h;obtain ⟨o,ho,h⟩:=h;exact ⟨o,ho,ih o Q E p s hn h⟩
 |update a O f k ih=>intro Q E p s hn h;exact ⟨h.1,ih () Q E p _ (by show n<=(s.heap.update a f).objs.size;rw[Heap.size_after_update];exact hn) h.2⟩
 |loadIfAlive a k ih=>intro Q E p s hn h;exact ih _ Q E p s hn h
 |point O k ih=>intro Q E p s hn h;exact ih () Q E p s hn h
 |register O U=>intro Q E p s O h;exact h
 |alloc o k ih=>intro Q E p s hn h;exact ih _ Q E p _ (by show n<=(s.heap.push o).objs.size;rw[Heap.size_push];lia) h
 |fresh k ih=>intro Q E p s hn h;exact ih _ Q E p _ hn h
 |ask k ih=>intro Q E p s hn h;exact ih _ Q E p s hn h
 |choose src m k ih=>intro Q E p s hn h;exact ⟨h.1,ih _ Q E p _ hn h.2⟩
 |os q O k ih=>intro Q E p s hn h;exact ih _ Q E p _ hn h
 |call c hd O U k ih=>intro Q E p s hn h;obtain ⟨r,s',hr,h⟩:=h;exact ⟨r,s',hr,ih r Q E p s' (Nat.le_trans hn (Kp hr)) h⟩
 |handled own k ih=>intro Q E p s hn h;exact ih _ Q E p s hn h
 |genState g k ih=>intro Q E p s hn h;obtain ⟨st,hs,h⟩:=h;exact ⟨st,hs,ih _ Q E p s hn h⟩
 |newGen c k ih=>intro Q E p s hn h;exact ih _ Q E p _ hn h
 |resume g r O k ih=>intro Q E p s hn h;obtain ⟨res,s',hw,h⟩:=h;exact ⟨res,s',hw,ih res Q E p s' (Nat.le_trans hn (Z1k hw)) h⟩
 |yield O U V O1=>intro Q E p s O h;exact h
 |stack k ih=>intro Q E p s hn h;exact ih _ Q E p s hn h
 |fork O U=>intro Q E p s O h;exact h
 |thread k ih=>intro Q E p s hn h;exact ih _ Q E p s hn h
 |await O U V O1 O2=>intro Q E p s O h;exact h
theorem Zn{α:Type}{M}{A}{s}{t:Sem α}{Q:α->Shared->Prop}{E}
  (h:wpAny M A t (fun a s'=>s.heap.objs.size<=s'.heap.objs.size->Q a s') (fun e s'=>s.heap.objs.size<=s'.heap.objs.size->E e s') s):wpAny M A t Q E s:=
 fun Γ p hΓ=>Sem.wp_mono M Γ _ (fun O O O q=>q.2 q.1) (fun O O O q=>q.2 q.1) _ _ (Z6S M Γ _ t _ _ p s (Nat.le_refl _) (h Γ p hΓ))
inductive D where
 |none
 |bool (b:Bool)
 |int (i:Int)
 |str (s:Str)
 |list (xs:List D)
 |tup (xs:List D)
 |dict (kvs:List (Str × D))
 |vec (k i a:D)
 |null
 |rng (a b:Int)
 |pool
 |poolc
 deriving Inhabited
noncomputable def D.ctorIdx(x:D):Nat:=by cases x;exact 0;exact 1;exact 2;exact 3;exact 4;exact 5;exact 6;exact 7;exact 8;exact 9;exact 10;exact 11
inductive LV where
 |fr (d:D)
 |ol (xs:List D)
 |od (kvs:List (Str × D))
 |ov (k i a:D) (own:Bool)
 deriving Inhabited
noncomputable def LV.ctorIdx(x:LV):Nat:=by cases x;exact 0;exact 1;exact 2;exact 3
noncomputable def LV.d:LV->D:=fun O=>match O with
 |.fr d=>d
 |.ol xs=>.list xs
 |.od kvs=>.dict kvs
 |.ov k i a O=>.vec k i a
structure Z8 where
 cells:List Int
 a:Int
 b:Int
noncomputable abbrev Zc:=List (Str × LV)
structure St where
 vars:Zc
 up:Zc
 loc:List Str
 pl:Option Z8
inductive Out(α:Type) where
 |ok (a:α) (σ:St)
 |exc (m:Str) (σ:St)
 |stuck
noncomputable def Out.ctorIdx{α:Type}(x:Out α):Nat:=by cases x;exact 0;exact 1;exact 2
noncomputable def Out.bind{α β:Type}(o:Out α)(f:α->St->Out β):Out β:=
 match o with
 |.ok a σ=>f a σ
 |.exc m σ=>.exc m σ
 |.stuck=>.stuck
noncomputable def opt{α:Type}(o:Option α)(σ:St):Out α:=
 match o with
 |some a=>.ok a σ
 |none=>.stuck
noncomputable def ZM(x:Str):Zc->Option LV:=fun O=>match O with
 |[]=>none
 |(y,v)::r=>if x=y then some v else ZM x r
theorem Uc{x y v r}:ZM x ((y,v)::r)=if x=y then some v else ZM x r:=rfl
noncomputable def ZA(x:Str)(v:LV):Zc->Zc:=fun O=>match O with
 |[]=>[(x,v)]
 |(y,w)::r=>if x=y then (x,v)::r else (y,w)::ZA x v r
theorem Z4s{x v y w r}:ZA x v ((y,w)::r)=if x=y then (x,v)::r else (y,w)::ZA x v r:=rfl
noncomputable abbrev R:=LV × Option Str
noncomputable def X7(x:Str)(σ:St):Out R:=
 match ZM x σ.vars with
 |some (.fr d)=>.ok (.fr d,none) σ
 |some lv=>.ok (lv,some x) σ
 |none=>if x∈σ.loc then .stuck else match ZM x σ.up with
  |some (.fr d)=>.ok (.fr d,none) σ
  |some lv=>.ok (lv,some x) σ
  |none=>.stuck
noncomputable def Zo(r:R)(σ:St):St:=
 match r.2 with
 |none=>σ
 |some x=>match ZM x σ.vars with
  |some O=>{σ with vars:=ZA x (.fr r.1.d) σ.vars}
  |none=>{σ with up:=ZA x (.fr r.1.d) σ.up}
noncomputable def frz(o:Out R):Out D:=o.bind fun r σ=>.ok r.1.d (Zo r σ)
noncomputable def LIM:Nat:=1048576
noncomputable def strs?:List D->Option (List Str):=fun O=>match O with
 |[]=>some []
 |.str s::r=>(strs? r).map (s::·)
 |O::U=>none
noncomputable def ints?:List D->Option (List Int):=fun O=>match O with
 |[]=>some []
 |.int s::r=>(ints? r).map (s::·)
 |O::U=>none
noncomputable def D.i?:D->Option Int:=fun O=>match O with
 |.int i=>some i
 |O=>Option.none
noncomputable def D.s?:D->Option Str:=fun O=>match O with
 |.str s=>some s
 |O=>Option.none
noncomputable def D.l?:D->Option (List D):=fun O=>match O with
 |.list l=>some l
 |O=>Option.none
noncomputable def D.t?:D->Option (List D):=fun O=>match O with
 |.tup l=>some l
 |O=>Option.none
noncomputable def D.k?:D->Option (List (Str × D)):=fun O=>match O with
 |.dict l=>some l
 |O=>Option.none
noncomputable def D.isPool:D->Bool:=fun O=>match O with
 |.pool=>true
 |O=>false
noncomputable def D.isPoolc:D->Bool:=fun O=>match O with
 |.poolc=>true
 |O=>false
theorem gG{P:Prop}(h:∀ G:Prop,(P->G)->G):P:=h P id
theorem ite_el{α:Type}{p:Prop} [Decidable p] {a b x:α} {P:Prop} (h:(if p then a else b)=x) (h1:p->a=x->P) (h2:¬p->b=x->P):P:=
 if q:p then h1 q ((if_pos q).symm.trans h) else h2 q ((if_neg q).symm.trans h)
theorem b2{a b:Bool}(h:(a&&b)=true):a=true/\b=true:=Bool.and_eq_true_iff.mp h
theorem Z3{P:Prop}{α:Type}{a:α}(h:none=some a):P:=nomatch h
theorem Z4{P:Prop}(h:false=true):P:=nomatch h
theorem D.i?_of{d:D}{i:Int}(e:d.i?=some i):d=.int i:=by
 cases d with
 |int x=>exact congrArg D.int (Option.some.inj e)
 |_=>exact Z3 e
theorem D.s?_of{d:D}{i:Str}(e:d.s?=some i):d=.str i:=by
 cases d with
 |str x=>exact congrArg D.str (Option.some.inj e)
 |_=>exact Z3 e
theorem D.l?_of{d:D}{i:List D}(e:d.l?=some i):d=.list i:=by
 cases d with
 |list x=>exact congrArg D.list (Option.some.inj e)
 |_=>exact Z3 e
theorem D.t?_of{d:D}{i:List D}(e:d.t?=some i):d=.tup i:=by
 cases d with
 |tup x=>exact congrArg D.tup (Option.some.inj e)
 |_=>exact Z3 e
theorem D.k?_of{d:D}{i:List (Str × D)}(e:d.k?=some i):d=.dict i:=by
 cases d with
 |dict x=>exact congrArg D.dict (Option.some.inj e)
 |_=>exact Z3 e
theorem D.isPool_of{d:D}(e:d.isPool=true):d=.pool:=by
 cases d with
 |pool=>rfl
 |_=>exact Z4 e
theorem D.isPoolc_of{d:D}(e:d.isPoolc=true):d=.poolc:=by
 cases d with
 |poolc=>rfl
 |_=>exact Z4 e
noncomputable def D.v?:D->Option (D × D × D):=fun O=>match O with
 |.vec k i a=>some (k,i,a)
 |O=>Option.none
theorem D.v?_of{d:D}{p:D × D × D}(h:d.v?=some p):d=.vec p.1 p.2.1 p.2.2:=by
 cases d with
 |vec k i a=>exact Option.some.inj h▸rfl
 |_=>exact Z3 h
inductive FD where
 |n
 |i (x:Int)
 |s (x:Str)
noncomputable def FD.ctorIdx(x:FD):Nat:=by cases x;exact 0;exact 1;exact 2
noncomputable def D.f?:D->Option FD:=fun O=>match O with
 |.none=>some .n
 |.int i=>some (.i i)
 |.str s=>some (.s s)
 |O=>Option.none
noncomputable def FD.d:FD->D:=fun O=>match O with
 |.n=>.none
 |.i x=>.int x
 |.s x=>.str x
theorem D.f?_of{d:D}{f:FD}(e:d.f?=some f):d=f.d:=by
 cases d<;>first|exact Z3 e|(cases e;rfl)
noncomputable def FD.eq:FD->FD->Bool:=fun O U=>match O,U with
 |.n,.n=>true
 |.n,.i O=>false
 |.n,.s O=>false
 |.i O,.n=>false
 |.i a,.i b=>decide (a=b)
 |.i O,.s U=>false
 |.s O,.n=>false
 |.s O,.i U=>false
 |.s a,.s b=>decide (a=b)
noncomputable def eqF(a b:D):Option Bool:=match a.f?,b.f? with
 |some x,some y=>some (x.eq y)
 |O,U=>none
noncomputable def Z4t:List D->List D->Option Bool:=fun O U=>match O,U with
 |[],[]=>some true
 |x::xs,y::ys=>(eqF x y).bind fun b=>(Z4t xs ys).map (b&&·)
 |O,U=>none
noncomputable def eqL(xs ys:List D):Option Bool:=if xs.length=ys.length then Z4t xs ys else some false
noncomputable def eqD(σ:St)(a b:D):Option Bool:=match b.l? with
 |some ys=>(match a.l? with
  |some xs=>eqL xs ys
  |none=>if a.isPoolc=true/\ys=[] then σ.pl.map fun p=>p.cells.isEmpty else none)
 |none=>eqF a b
noncomputable def inD(a b:D):Option Bool:=a.s?.bind fun s=>match b.l? with
 |some xs=>(strs? xs).map (decide <| s∈·)
 |none=>match b.t? with
  |some xs=>(strs? xs).map (decide <| s∈·)
  |none=>b.k?.map fun kvs=>decide (s∈kvs.map (fun O=>O.1))
noncomputable def isNone:D->Bool:=fun O=>match O with
 |.none=>true
 |O=>false
theorem JA{d:D}(e:isNone d=true):d=.none:=by
 cases d with
 |none=>rfl
 |_=>exact Z4 e
noncomputable def iiB(a b:D)(f:Int->Int->Bool):Option Bool:=a.i?.bind fun x=>b.i?.map (f x)
noncomputable def YT(σ:St)(op:CmpOp)(a b:D):Option Bool:=
 match op with
 |.Eq=>eqD σ a b
 |.NotEq=>(eqD σ a b).map (!·)
 |.Lt=>iiB a b fun x y=>decide (x < y)
 |.LtE=>iiB a b fun x y=>decide (x<=y)
 |.Gt=>iiB a b fun x y=>decide (x > y)
 |.GtE=>iiB a b fun x y=>decide (x>=y)
 |.Is=>if isNone b=true then some (isNone a) else none
 |.IsNot=>if isNone b=true then some (!isNone a) else none
 |.In=>inD a b
 |.NotIn=>(inD a b).map (!·)
noncomputable def Z99(op:Operator)(x y:Int):Option LV:=match op with
 |.Add=>some (.fr (.int (x+y)))
 |.Sub=>some (.fr (.int (x - y)))
 |.Mult=>if x.natAbs < 2 ^ 200/\y.natAbs < 2 ^ 200 then some (.fr (.int (x*y))) else none
 |.FloorDiv=>if 0 < y/\y < 1000000 then some (.fr (.int (x.fdiv y))) else none
 |.Mod=>if 0 < y then some (.fr (.int (x.fmod y))) else none
 |.Pow=>if x=10/\0<=y/\y < 60 then some (.fr (.int (x ^ y.toNat))) else none
 |O=>none
noncomputable def ZcF(op:Operator)(x:Str)(b:D):Option LV:=match op with
 |.Add=>b.s?.bind fun y=>if x.length+y.length<=LIM then some (.fr (.str (x++y))) else none
 |.Mult=>b.i?.bind fun y=>if x.length=1/\0<=y/\y < 1000 then some (.fr (.str (Txt.mul x y))) else none
 |O=>none
noncomputable def ZcG(op:Operator)(x:List D)(b:D):Option LV:=match op with
 |.Add=>b.l?.bind fun y=>if x.length+y.length<=LIM then some (.ol (x++y)) else none
 |O=>none
noncomputable def XA(op:Operator)(a b:D):Option LV:=match a.i? with
 |some x=>b.i?.bind (Z99 op x)
 |none=>match a.s? with
  |some x=>ZcF op x b
  |none=>a.l?.bind fun x=>ZcG op x b
noncomputable def Zf:D->Option Bool:=fun O=>match O with
 |.bool b=>some b
 |O=>none
theorem Z1l{d:D}{b:Bool}(e:Zf d=some b):d=.bool b:=by
 cases d with
 |bool x=>exact congrArg D.bool (Option.some.inj e)
 |_=>exact Z3 e
noncomputable def Z9a:D->Option Nat:=fun O=>match O with
 |.list xs=>some xs.length
 |.tup xs=>some xs.length
 |.dict kvs=>some kvs.length
 |.str s=>if s.length<=LIM then some s.length else none
 |O=>none
noncomputable def W4:List (Str × Nat):=[(Str.ofString "from_int",7),(Str.ofString "nearest_whole",12),(Str.ofString "exponent",13),(Str.ofString "whole_text",16),(Str.ofString "special_text",17),(Str.ofString "scaled",18),(Str.ofString "significant",19),(Str.ofString "without_tail",20),(Str.ofString "fixed_text",22),(Str.ofString "measures",23),(Str.ofString "chosen_form",24),(Str.ofString "formed",25),(Str.ofString "common_texts",26),(Str.ofString "integer",37),(Str.ofString "character",38),(Str.ofString "is_atomic",40),(Str.ofString "share",41),(Str.ofString "get_attr",43),(Str.ofString "label_text",44),(Str.ofString "level_at",45),(Str.ofString "label_texts",46),(Str.ofString "names_of",47),(Str.ofString "dim_of",48),(Str.ofString "class_attr",50),(Str.ofString "kind_order",56),(Str.ofString "common_kind",57),(Str.ofString "item_as",66),(Str.ofString "to_text",65),(Str.ofString "is_atomic_kind",67),(Str.ofString "with_names",71),(Str.ofString "as_kind",72),(Str.ofString "make_unique",75),(Str.ofString "is_lacking",77),(Str.ofString "is_factor",79),(Str.ofString "new_frame",80),(Str.ofString "frame_rows",81),(Str.ofString "column_names",82),(Str.ofString "row_names",83),(Str.ofString "has_plain_rows",84),(Str.ofString "kept_attrs",85),(Str.ofString "dimnames_list",87),(Str.ofString "new_array",88),(Str.ofString "new_matrix",89),(Str.ofString "joined_factor",91),(Str.ofString "joined_column",92),(Str.ofString "matched_columns",93),(Str.ofString "joined_labels",94),(Str.ofString "bind_frames_rows",95),(Str.ofString "padded_numbers",96),(Str.ofString "column_texts",97),(Str.ofString "is_text_column",98),(Str.ofString "frame_matrix",99),(Str.ofString "_law_draw",101),(Str.ofString "_law_column",102),(Str.ofString "_law_value",103),(Str.ofString "_law_texts",104),(Str.ofString "_law_joined",105),(Str.ofString "_law_same",106),(Str.ofString "_law_unique",107),(Str.ofString "_law_labels",108),(Str.ofString "_law_matrix_holds",109),(Str.ofString "law",110)]
noncomputable def Xf:Int->List Int->Int:=fun O U=>match O,U with
 |m,[]=>m
 |m,x::r=>Xf (if m < x then x else m) r
noncomputable def Zi(a b:Int):List D:=(List.range (b - a).toNat).map fun (k:Nat)=>.int (a+(k:Int))
noncomputable def YY:List Nat->List Nat->Bool:=fun O U=>match O,U with
 |[],[]=>false
 |[],O::U=>true
 |O::U,[]=>false
 |a::r,b::s=>if a < b then true else if b < a then false else YY r s
theorem VY{a b r s}:YY (a::r) (b::s)=if a < b then true else if b < a then false else YY r s:=rfl
noncomputable def Vo(s:Str):List Str->List Str:=fun O=>match O with
 |[]=>[s]
 |t::r=>if YY s.cps.toList t.cps.toList then s::t::r else t::Vo s r
theorem Z0d{s t r}:Vo s (t::r)=if YY s.cps.toList t.cps.toList then s::t::r else t::Vo s r:=rfl
noncomputable def W6:List Str->List Str:=fun O=>match O with
 |[]=>[]
 |s::r=>Vo s (W6 r)
noncomputable def one?:List D->Option D:=fun O=>match O with
 |[d]=>some d
 |O=>none
noncomputable def two?:List D->Option (D × D):=fun O=>match O with
 |[d,e]=>some (d,e)
 |O=>none
theorem one?_of{l:List D}{d:D}(e:one? l=some d):l=[d]:=by
 cases l with
 |nil=>cases e
 |cons a l=>cases l with
  |nil=>cases e;rfl
  |cons O U=>cases e
theorem two?_of{l:List D}{d:D × D}(e:two? l=some d):l=[d.1,d.2]:=by
 cases l with
 |nil=>cases e
 |cons a l=>cases l with
  |nil=>cases e
  |cons b l=>cases l with
   |nil=>cases e;rfl
   |cons O U=>cases e
noncomputable def D.r?:D->Option (Int × Int):=fun O=>match O with
 |.rng a b=>some (a,b)
 |O=>Option.none
theorem D.r?_of{d:D}{p:Int × Int}(e:d.r?=some p):d=.rng p.1 p.2:=by
 cases d with
 |rng a b=>cases e;rfl
 |_=>exact Z3 e
noncomputable def ZaT:List Int->Option LV:=fun O=>match O with
 |m::r=>some (.fr (.int (Xf m r)))
 |[]=>none
noncomputable def ZaU(ds:List D):Option LV:=(one? ds).bind fun d=>d.i?.bind fun i=>some (.fr (.int i.natAbs))
noncomputable def Z9b(ds:List D):Option LV:=match two? ds with
 |some (d,e)=>d.i?.bind fun i=>e.i?.bind fun j=>some (.fr (.int (if i < j then j else i)))
 |none=>(one? ds).bind fun d=>d.l?.bind fun xs=>(ints? xs).bind ZaT
noncomputable def ZaV(ds:List D):Option LV:=(one? ds).bind fun d=>match d.i? with
 |some i=>if i.natAbs < 10 ^ 30 then some (.fr (.str (Str.ofString (toString i)))) else none
 |none=>d.s?.map fun s=>.fr (.str s)
noncomputable def Z8v(ds:List D):Option LV:=(one? ds).bind fun d=>match d.l? with
 |some xs=>some (.ol xs)
 |none=>d.r?.bind fun p=>if p.2 - p.1<=LIM then some (.ol (Zi p.1 p.2)) else none
noncomputable def Z1m(ds:List D):Option LV:=match two? ds with
 |some (d,e)=>d.i?.bind fun a=>e.i?.bind fun b=>if a.natAbs < LIM/\b.natAbs < LIM then some (.fr (.rng a b)) else none
 |none=>(one? ds).bind fun d=>d.i?.bind fun b=>if b.natAbs < LIM then some (.fr (.rng 0 b)) else none
noncomputable def ZaW(ds:List D):Option LV:=(one? ds).bind fun d=>d.l?.bind fun xs=>(ints? xs).map fun ns=>.fr (.int ns.sum)
noncomputable def ZaX(ds:List D):Option LV:=(one? ds).bind fun d=>d.i?.bind fun i=>some (.fr (.int i))
noncomputable def Z2x(ds:List D):Option LV:=(one? ds).bind fun d=>d.l?.bind fun xs=>(strs? xs).bind fun ss=>if ss.length<=8 then some (.ol ((W6 ss).map .str)) else none
noncomputable def ZaY(ds:List D):Option LV:=match ds with
 |[k,i]=>some (.ov k i .none false)
 |[k,i,a]=>some (.ov k i a false)
 |O=>none
noncomputable def Z8w(ds:List D):Option LV:=match ds with
 |[]=>some (.fr .null)
 |O=>none
noncomputable def blt(f:Str)(ds:List D):Option LV:=
 if f="abs" then ZaU ds
 else if f="max" then Z9b ds
 else if f="sum" then ZaW ds
 else if f="sorted" then Z2x ds
 else if f="str" then ZaV ds
 else if f="list" then Z8v ds
 else if f="range" then Z1m ds
 else if f="int" then ZaX ds
 else if f="Vector" then ZaY ds
 else if f="Null" then Z8w ds
 else none
noncomputable def Vp(d:D)(c:Str):Option Bool:=
 if c="Vector" then d.v?.map fun O=>true
 else if c="list" then (match d.l? with|some O=>some true|none=>d.i?.map fun O=>false)
 else none
noncomputable def YA(k:Str):List (Str × D)->Option D:=fun O=>match O with
 |[]=>none
 |(y,v)::r=>if k=y then some v else YA k r
theorem V1{x y v r}:YA x ((y,v)::r)=if x=y then some v else YA x r:=rfl
noncomputable def YC(k:Str)(v:D):List (Str × D)->List (Str × D):=fun O=>match O with
 |[]=>[(k,v)]
 |(y,w)::r=>if k=y then (y,v)::r else (y,w)::YC k v r
theorem Vq{k v y w r}:YC k v ((y,w)::r)=if k=y then (y,v)::r else (y,w)::YC k v r:=rfl
noncomputable def W7(s:Str):List Str->Option Nat:=fun O=>match O with
 |[]=>none
 |t::r=>if s=t then some 0 else (W7 s r).map (fun O=>O+1)
noncomputable def Z9c(kvs:List (Str × D))(ds:List D)(σ:St):Out R:=match two? ds with
 |some (k,e)=>(opt k.s? σ).bind fun k σ=>.ok (.fr ((YA k kvs).getD e),none) σ
 |none=>(opt ((one? ds).bind D.s?) σ).bind fun k σ=>.ok (.fr ((YA k kvs).getD .none),none) σ
noncomputable def Z1n(xs ds:List D)(σ:St):Out R:=(opt ((one? ds).bind fun d=>d.s?.bind fun s=>(strs? xs).bind (W7 s)) σ).bind fun i σ=>.ok (.fr (.int i),none) σ
noncomputable def Z1o(s:Str)(ds:List D)(σ:St):Out R:=match two? ds with
 |some (w,f)=>(opt w.i? σ).bind fun w σ=>(opt f.s? σ).bind fun f σ=>if w.natAbs < 1000/\f.length=1 then .ok (.fr (.str (Txt.rjustF s w (f.cps.getD 0 0))),none) σ else .stuck
 |none=>(opt ((one? ds).bind D.i?) σ).bind fun w σ=>if w.natAbs < 1000 then .ok (.fr (.str (Txt.rjust s w)),none) σ else .stuck
noncomputable def Z8x(s:Str)(ds:List D)(σ:St):Out R:=(opt ((one? ds).bind fun d=>d.l?.bind strs?) σ).bind fun ss σ=>
 if s.length=0/\(ss.map (fun O=>O.length)).sum<=100000/\ss.length<=1000 then .ok (.fr (.str (Txt.join s ss)),none) σ else .stuck
noncomputable def ZaZ(ds:List D)(σ:St):Out R:=(opt ((one? ds).bind D.i?) σ).bind fun n σ=>if n=0 then (match σ.pl with
 |some ⟨c::cs,a,b⟩=>.ok (.fr (.int c),none) {σ with pl:=some ⟨cs,a,b⟩}
 |O=>.stuck) else .stuck
inductive MD' where
 |k (kvs:List (Str × D))
 |l (xs:List D)
 |t (xs:List D)
 |s (s:Str)
 |p
 |no
noncomputable def D.m:D->MD':=fun O=>match O with
 |.dict kvs=>.k kvs
 |.list xs=>.l xs
 |.tup xs=>.t xs
 |.str s=>.s s
 |.poolc=>.p
 |O=>.no
noncomputable def W8(m:Str)(d:D)(ds:List D)(σ:St):Out R:=match d.m with
 |.k kvs=>Z9c kvs ds σ
 |.l xs=>Z1n xs ds σ
 |.t xs=>Z1n xs ds σ
 |.s s=>if m="rjust" then Z1o s ds σ else Z8x s ds σ
 |.p=>ZaZ ds σ
 |.no=>.stuck
noncomputable def W9(m:Str)(d:D):Bool:=match d.m with
 |.k O=>decide (m="get")
 |.l O=>decide (m="index")
 |.t O=>decide (m="index")
 |.s O=>decide (m="rjust")||decide (m="join")
 |.p=>decide (m="pop")
 |.no=>false
noncomputable def WO(lv:LV)(x:Str):Option D:=
 match lv with
 |.fr (.vec k i a)=>if x="kind" then some k else if x="items" then some i else if x="attrs" then some a else none
 |.ov k i a own=>if x="kind" then some k else if x="items" then some i else if x="attrs"/\own=false then some a else none
 |.fr .null=>if x="kind" then some (.str "NULL") else if x="attrs" then some .none else none
 |O=>none
noncomputable def Zb0(xs:List D)(i:D):Option D:=i.i?.bind fun k=>if 0<=k then xs[k.toNat]? else none
noncomputable def ZcH(s:Str)(i:D):Option D:=i.i?.bind fun k=>if 0<=k/\k < 100000 then (s.cps[k.toNat]?).map fun c=>.str ⟨#[c]⟩ else none
noncomputable def ZcI(i:D)(σ:St):Option D:=i.i?.bind fun k=>σ.pl.bind fun p=>if k=0 then some .poolc else if k=1 then some (.int p.a) else if k=2 then some (.int p.b) else none
inductive SD where
 |l (xs:List D)
 |t (xs:List D)
 |s (s:Str)
 |k (kvs:List (Str × D))
 |p
 |no
noncomputable def D.sd:D->SD:=fun O=>match O with
 |.list xs=>.l xs
 |.tup xs=>.t xs
 |.str s=>.s s
 |.dict kvs=>.k kvs
 |.pool=>.p
 |O=>.no
noncomputable def Xg(d i:D)(σ:St):Option D:=match d.sd with
 |.l xs=>Zb0 xs i
 |.t xs=>Zb0 xs i
 |.s s=>ZcH s i
 |.k kvs=>i.s?.bind fun s=>YA s kvs
 |.p=>ZcI i σ
 |.no=>none
noncomputable def toL(k:Int)(xs:List D):Option LV:=if 0<=k/\k < LIM then some (.ol (xs.take k.toNat)) else none
noncomputable def toS(k:Int)(s:Str):Option LV:=if 0<=k/\k < LIM/\s.length<=LIM then some (.fr (.str (Txt.slice s none (some k)))) else none
noncomputable def Z1p(d i:D):Option LV:=i.i?.bind fun k=>match d.l? with
 |some xs=>toL k xs
 |none=>d.s?.bind (toS k)
theorem Z9d(xs:List D)(k:Int):Z1p (.list xs) (.int k)=toL k xs:=rfl
noncomputable def Z1q(d i:D):Option LV:=i.i?.bind fun k=>d.l?.bind fun xs=>if 0<=k/\k < LIM then some (.ol (xs.drop k.toNat)) else none
noncomputable def Z2y(d:D):Option LV:=
 d.l?.map fun xs=>.ol xs.reverse
noncomputable def Kq:Const->Option D:=fun O=>match O with
 |.none=>some .none
 |.bool b=>some (.bool b)
 |.int i=>some (.int i)
 |.str s=>some (.str s)
 |O=>none
noncomputable def ci?:Const->Option Int:=fun O=>match O with
 |.int i=>some i
 |O=>none
noncomputable def cs?:Const->Option Str:=fun O=>match O with
 |.str s=>some s
 |O=>none
noncomputable def ct?:Const->Option Unit:=fun O=>match O with
 |.bool b=>cond b (some ()) none
 |O=>none
theorem ci?_of{c:Const}{i:Int}(h:ci? c=some i):c=.int i:=by
 cases c with
 |int j=>exact congrArg Const.int (Option.some.inj h)
 |_=>exact Z3 h
theorem cs?_of{c:Const}{i:Str}(h:cs? c=some i):c=.str i:=by
 cases c with
 |str j=>exact congrArg Const.str (Option.some.inj h)
 |_=>exact Z3 h
theorem ct?_of{c:Const}{u:Unit}(h:ct? c=some u):c=.bool true:=by
 cases c with
 |bool j=>cases j with
  |true=>rfl
  |false=>exact Z3 h
 |_=>exact Z3 h
noncomputable def LV.fr?:LV->Option D:=fun O=>match O with
 |.fr d=>some d
 |O=>Option.none
noncomputable def LV.l?:LV->Option (List D):=fun O=>match O with
 |.ol xs=>some xs
 |O=>Option.none
noncomputable def LV.k?:LV->Option (List (Str × D)):=fun O=>match O with
 |.od kvs=>some kvs
 |O=>Option.none
noncomputable def LV.v0?:LV->Option (D × D):=fun O=>match O with
 |.ov k i O b=>cond b Option.none (some (k,i))
 |O=>Option.none
noncomputable def LV.v1?:LV->Option (D × D × List (Str × D)):=fun O=>match O with
 |.ov k i a b=>cond b (a.k?.map fun kvs=>(k,i,kvs)) Option.none
 |O=>Option.none
theorem LV.fr?_of{v:LV}{d:D}(h:v.fr?=some d):v=.fr d:=by
 cases v with
 |fr j=>exact congrArg LV.fr (Option.some.inj h)
 |_=>exact Z3 h
theorem LV.l?_of{v:LV}{d:List D}(h:v.l?=some d):v=.ol d:=by
 cases v with
 |ol j=>exact congrArg LV.ol (Option.some.inj h)
 |_=>exact Z3 h
theorem LV.k?_of{v:LV}{d:List (Str × D)}(h:v.k?=some d):v=.od d:=by
 cases v with
 |od j=>exact congrArg LV.od (Option.some.inj h)
 |_=>exact Z3 h
inductive Zb1(p:D × D):LV->Prop
 |mk (a:D):Zb1 p (.ov p.1 p.2 a false)
theorem LV.v0?_of{v:LV}{p:D × D}(h:v.v0?=some p):Zb1 p v:=by
 cases v with
 |ov k i a b=>cases b with
  |false=>exact Option.some.inj h▸.mk a
  |true=>exact Z3 h
 |_=>exact Z3 h
theorem LV.v1?_of{v:LV}{p:D × D × List (Str × D)}(h:v.v1?=some p):v=.ov p.1 p.2.1 (.dict p.2.2) true:=by
 cases v with
 |ov k i a b=>cases b with
  |false=>exact Z3 h
  |true=>
   obtain ⟨kvs,e,h⟩:=Option.map_eq_some_iff.mp h
   rw[D.k?_of e,<-h]
 |_=>exact Z3 h
noncomputable def rk?(r:R):Option (List (Str × D)):=match r.2 with
 |none=>r.1.k?
 |some O=>none
noncomputable def rl?(r:R):Option (List D):=match r.2 with
 |none=>r.1.l?
 |some O=>none
theorem rk?_of{r:R}{d:List (Str × D)}(h:rk? r=some d):r=(.od d,none):=by
 obtain ⟨v,o⟩:=r
 cases o with
 |none=>exact congrArg (·,none) (LV.k?_of h)
 |some O=>exact Z3 h
theorem rl?_of{r:R}{d:List D}(h:rl? r=some d):r=(.ol d,none):=by
 obtain ⟨v,o⟩:=r
 cases o with
 |none=>exact congrArg (·,none) (LV.l?_of h)
 |some O=>exact Z3 h
inductive CO where
 |ok (lv:LV) (pl:Option Z8)
 |exc (m:Str) (pl:Option Z8)
 |stuck
noncomputable def CO.ctorIdx(x:CO):Nat:=by cases x;exact 0;exact 1;exact 2
inductive Fl where
 |next
 |brk
 |cont
 |ret (lv:LV)
noncomputable def Fl.ctorIdx(x:Fl):Nat:=by cases x;exact 0;exact 1;exact 2;exact 3
structure Itp where
 ev:Expr->St->Out R
 exs:List Stmt->St->Out Fl
 call:Nat->List D->Option Z8->CO
noncomputable def names?:List Expr->Option (List Str):=fun O=>match O with
 |[]=>some []
 |.Name x O::r=>(names? r).map (x::·)
 |O::U=>none
inductive BV:Expr->Type where
 |nam (x:Str) (p:Pos):BV (.Name x p)
 |con (c:Const) (k:Nat) (p:Pos):BV (.Constant c k p)
 |tup (es:List Expr) (k:Nat) (p:Pos):BV (.Tuple es k p)
 |bad (e:Expr):BV e
noncomputable def bv:(e:Expr)->BV e:=fun O=>match O with
 |.Name x p=>.nam x p
 |.Constant c k p=>.con c k p
 |.Tuple es k p=>.tup es k p
 |e=>.bad e
noncomputable def Kr:{e:Expr}->BV e->Option Const
 |_,.nam U V=>none
 |_,.con c U V=>some c
 |_,.tup U V O1=>none
 |O,.bad _=>none
inductive Z8y(c:Const):Expr->Prop
 |mk (k:Nat) (p:Pos):Z8y c (.Constant c k p)
theorem VZ{e:Expr}{v:BV e}{c:Const}(h:Kr v=some c):Z8y c e:=by
 induction v with
 |con d k p=>exact Option.some.inj h▸.mk k p
 |_=>exact Z3 h
noncomputable def tnV:{t:Expr}->BV t->List Str
 |_,.nam x U=>[x]
 |_,.con U V O1=>[]
 |_,.tup es U V=>(names? es).getD []
 |O,.bad _=>[]
noncomputable def ZE(t:Expr):List Str:=tnV (bv t)
noncomputable def YU:List Str->List D->Zc->Zc:=fun O U V=>match O,U,V with
 |x::xs,d::ds,vs=>YU xs ds (ZA x (.fr d) vs)
 |O,U,vs=>vs
noncomputable def seq?:D->Option (List D):=fun O=>match O with
 |.list xs=>some xs
 |.tup xs=>some xs
 |O=>none
noncomputable def Zb2:{t:Expr}->BV t->D->St->Out Unit
 |_,.nam x U,d,σ=>.ok () {σ with vars:=ZA x (.fr d) σ.vars}
 |_,.con U V O1,O2,O3=>.stuck
 |_,.tup es U V,d,σ=>(opt (names? es) σ).bind fun xs σ=>(opt (seq? d) σ).bind fun ds σ=>if xs.length=ds.length/\xs.Nodup then .ok () {σ with vars:=YU xs ds σ.vars} else .stuck
 |O,.bad _,V,O1=>.stuck
noncomputable def Zl(t:Expr)(d:D)(σ:St):Out Unit:=Zb2 (bv t) d σ
noncomputable def YD:D->Option (List D):=fun O=>match O with
 |.list xs=>some xs
 |.rng a b=>if b - a<=LIM then some (Zi a b) else none
 |.dict kvs=>some (kvs.map fun p=>.str p.1)
 |O=>none
noncomputable def Z1r:Expr->Bool:=fun O=>match O with
 |.Tuple ..=>true
 |O=>false
noncomputable def U0:Expr->Bool:=fun O=>match O with
 |.Slice O U V O1=>true
 |O=>false
inductive SV:Stmt->Type where
 |ret0 (p:Pos):SV (.Return none p)
 |retI (t a b:Expr) (q p:Pos):SV (.Return (some (.IfExp t a b q)) p)
 |ret (e:Expr) (p:Pos):SV (.Return (some e) p)
 |asgL (x:Str) (px:Pos) (es:List Expr) (q p:Pos):SV (.Assign [.Name x px] (.List es q) p)
 |asgN (x:Str) (px:Pos) (e:Expr) (p:Pos):SV (.Assign [.Name x px] e p)
 |asgT (ts:List Expr) (k:Nat) (q:Pos) (e:Expr) (p:Pos) (h:Z1r e=false):SV (.Assign [.Tuple ts k q] e p)
 |asgS (x:Str) (px:Pos) (i:Expr) (sp:Pos) (e:Expr) (p:Pos):SV (.Assign [.Subscript (.Name x px) i sp] e p)
 |asgA (x:Str) (px:Pos) (a:Str) (ap:Pos) (e:Expr) (p:Pos):SV (.Assign [.Attribute (.Name x px) a ap] e p)
 |asgB (x:Str) (px:Pos) (a:Str) (ap:Pos) (i:Expr) (sp:Pos) (e:Expr) (p:Pos):SV (.Assign [.Subscript (.Attribute (.Name x px) a ap) i sp] e p)
 |aug (x:Str) (px:Pos) (op:Operator) (e:Expr) (p:Pos):SV (.AugAssign (.Name x px) op e p)
 |for (t it:Expr) (b:List Stmt) (p:Pos):SV (.For t it b [] p)
 |whl (t:Expr) (b:List Stmt) (p:Pos):SV (.While t b [] p)
 |ite (t:Expr) (a b:List Stmt) (p:Pos):SV (.If t a b p)
 |rai (cn:Str) (np:Pos) (e:Expr) (q p:Pos):SV (.Raise (some (.Call (.Name cn np) [e] [] q)) none p)
 |try (b:List Stmt) (h:ExceptHandler) (p:Pos):SV (.Try b [h] [] [] p)
 |mut (x:Str) (px:Pos) (m:Str) (ap:Pos) (args:List Expr) (q p:Pos):SV (.Expr (.Call (.Attribute (.Name x px) m ap) args [] q) p)
 |pass (p:Pos):SV (.Pass p)
 |cont (p:Pos):SV (.Continue p)
 |bad (s:Stmt):SV s
inductive XV:Expr->Type where
 |nam (x:Str) (p:Pos):XV (.Name x p)
 |tup (ts:List Expr) (k:Nat) (p:Pos):XV (.Tuple ts k p)
 |list (es:List Expr) (p:Pos):XV (.List es p)
 |ite (t a b:Expr) (p:Pos):XV (.IfExp t a b p)
 |sub (o i:Expr) (p:Pos):XV (.Subscript o i p)
 |atr (o:Expr) (a:Str) (p:Pos):XV (.Attribute o a p)
 |cal (f:Expr) (args:List Expr) (kw:List Keyword) (p:Pos):XV (.Call f args kw p)
 |bad (e:Expr):XV e
noncomputable def xv(e:Expr):XV e:=by
 cases e with
 |Name x p=>exact .nam x p
 |Tuple ts k p=>exact .tup ts k p
 |List es p=>exact .list es p
 |IfExp t a b p=>exact .ite t a b p
 |Subscript o i p=>exact .sub o i p
 |Attribute o a p=>exact .atr o a p
 |Call f args kw p=>exact .cal f args kw p
 |_=>exact .bad _
noncomputable def Zb3(e:Expr)(p:Pos):SV (.Return (some e) p):=by
 cases xv e with
 |ite t a b q=>exact .retI t a b q p
 |_=>exact .ret _ p
noncomputable def Zb4(x:Str)(px:Pos)(e:Expr)(p:Pos):SV (.Assign [.Name x px] e p):=by
 cases xv e with
 |list es q=>exact .asgL x px es q p
 |_=>exact .asgN x px _ p
noncomputable def Zb5(o i:Expr)(sp:Pos)(e:Expr)(p:Pos):SV (.Assign [.Subscript o i sp] e p):=by
 cases xv o with
 |nam x px=>exact .asgS x px i sp e p
 |atr b a ap=>cases xv b with
  |nam x px=>exact .asgB x px a ap i sp e p
  |_=>exact .bad _
 |_=>exact .bad _
noncomputable def Zb6(o:Expr)(a:Str)(ap:Pos)(e:Expr)(p:Pos):SV (.Assign [.Attribute o a ap] e p):=by
 cases xv o with
 |nam x px=>exact .asgA x px a ap e p
 |_=>exact .bad _
noncomputable def Zb7(t e:Expr)(p:Pos):SV (.Assign [t] e p):=by
 cases xv t with
 |nam x px=>exact Zb4 x px e p
 |tup ts k q=>exact if h:Z1r e=false then .asgT ts k q e p h else .bad _
 |sub o i sp=>exact Zb5 o i sp e p
 |atr o a ap=>exact Zb6 o a ap e p
 |_=>exact .bad _
noncomputable def Zb8(t:Expr)(op:Operator)(e:Expr)(p:Pos):SV (.AugAssign t op e p):=by
 cases xv t with
 |nam x px=>exact .aug x px op e p
 |_=>exact .bad _
noncomputable def Zb9(f:Expr)(args:List Expr)(kw:List Keyword)(q p:Pos):SV (.Expr (.Call f args kw q) p):=by
 cases kw with
 |nil=>cases xv f with
  |atr o m ap=>cases xv o with
   |nam x px=>exact .mut x px m ap args q p
   |_=>exact .bad _
  |_=>exact .bad _
 |cons=>exact .bad _
noncomputable def Zba(e:Expr)(p:Pos):SV (.Expr e p):=by
 cases xv e with
 |cal f args kw q=>exact Zb9 f args kw q p
 |_=>exact .bad _
noncomputable def Z9e(f:Expr)(args:List Expr)(kw:List Keyword)(q p:Pos):SV (.Raise (some (.Call f args kw q)) none p):=by
 cases xv f with
 |nam cn np=>cases args with
  |nil=>exact .bad _
  |cons e es=>cases es with
   |nil=>cases kw with
    |nil=>exact .rai cn np e q p
    |cons=>exact .bad _
   |cons=>exact .bad _
 |_=>exact .bad _
noncomputable def Zbb(e:Expr)(p:Pos):SV (.Raise (some e) none p):=by
 cases xv e with
 |cal f args kw q=>exact Z9e f args kw q p
 |_=>exact .bad _
noncomputable def sv(s:Stmt):SV s:=by
 cases s with
 |Return v p=>cases v with
  |none=>exact .ret0 p
  |some e=>exact Zb3 e p
 |Assign ts e p=>cases ts with
  |nil=>exact .bad _
  |cons t r=>cases r with
   |nil=>exact Zb7 t e p
   |cons=>exact .bad _
 |AugAssign t op e p=>exact Zb8 t op e p
 |For t it b o p=>cases o with
  |nil=>exact .for t it b p
  |cons=>exact .bad _
 |While t b o p=>cases o with
  |nil=>exact .whl t b p
  |cons=>exact .bad _
 |If t a b p=>exact .ite t a b p
 |Raise e c p=>cases e with
  |none=>exact .bad _
  |some e=>cases c with
   |none=>exact Zbb e p
   |some=>exact .bad _
 |Try b hs a f p=>cases hs with
  |nil=>exact .bad _
  |cons h r=>cases r with
   |nil=>cases a with
    |nil=>cases f with
     |nil=>exact .try b h p
     |cons=>exact .bad _
    |cons=>exact .bad _
   |cons=>exact .bad _
 |Expr e p=>exact Zba e p
 |Pass p=>exact .pass p
 |Continue p=>exact .cont p
 |_=>exact .bad _
inductive EV:Expr->Type where
 |con (c:Const) (x:Nat) (p:Pos):EV (.Constant c x p)
 |nam (x:Str) (p:Pos):EV (.Name x p)
 |and (es:List Expr) (p:Pos):EV (.BoolOp .And es p)
 |or (es:List Expr) (p:Pos):EV (.BoolOp .Or es p)
 |bin (l:Expr) (op:Operator) (r:Expr) (p:Pos):EV (.BinOp l op r p)
 |not (e:Expr) (p:Pos):EV (.UnaryOp .Not e p)
 |neg (e:Expr) (p:Pos):EV (.UnaryOp .USub e p)
 |ite (t a b:Expr) (p:Pos):EV (.IfExp t a b p)
 |dict (ks:List (Option Expr)) (es:List Expr) (p:Pos):EV (.Dict ks es p)
 |comp (elt:Expr) (gens:List Comprehension) (sc:Scope) (p:Pos):EV (.ListComp elt gens sc p)
 |cmp (l:Expr) (op:CmpOp) (r:Expr) (p:Pos):EV (.Compare l [op] [r] p)
 |cal (f:Str) (q:Pos) (args:List Expr) (p:Pos):EV (.Call (.Name f q) args [] p)
 |met (o:Expr) (m:Str) (q:Pos) (args:List Expr) (p:Pos):EV (.Call (.Attribute o m q) args [] p)
 |atr (o:Expr) (x:Str) (p:Pos):EV (.Attribute o x p)
 |to (o e:Expr) (sp p:Pos):EV (.Subscript o (.Slice none (some e) none sp) p)
 |from (o e:Expr) (sp p:Pos):EV (.Subscript o (.Slice (some e) none none sp) p)
 |rev (o:Expr) (k:Nat) (p0 p1 sp p:Pos):EV (.Subscript o (.Slice none none (some (.UnaryOp .USub (.Constant (.int 1) k p0) p1)) sp) p)
 |sub (o i:Expr) (p:Pos) (h:U0 i=false):EV (.Subscript o i p)
 |list (es:List Expr) (p:Pos):EV (.List es p)
 |tup (es:List Expr) (k:Nat) (p:Pos):EV (.Tuple es k p)
 |bad (e:Expr):EV e
noncomputable def ev1:(e:Expr)->EV e:=fun O=>match O with
 |.Constant c x p=>.con c x p
 |.Name x p=>.nam x p
 |.BoolOp .And es p=>.and es p
 |.BoolOp .Or es p=>.or es p
 |.BinOp l op r p=>.bin l op r p
 |.UnaryOp .Not e p=>.not e p
 |.UnaryOp .USub e p=>.neg e p
 |.IfExp t a b p=>.ite t a b p
 |.Dict ks es p=>.dict ks es p
 |.ListComp elt gens sc p=>.comp elt gens sc p
 |.Compare l [op] [r] p=>.cmp l op r p
 |.Call (.Name f q) args [] p=>.cal f q args p
 |.Call (.Attribute o m q) args [] p=>.met o m q args p
 |.Attribute o x p=>.atr o x p
 |.Subscript o (.Slice none (some e) none sp) p=>.to o e sp p
 |.Subscript o (.Slice (some e) none none sp) p=>.from o e sp p
 |.Subscript o (.Slice none none (some (.UnaryOp .USub (.Constant (.int 1) k p0) p1)) sp) p=>.rev o k p0 p1 sp p
 |.Subscript o i p=>if h:U0 i=false then .sub o i p h else .bad _
 |.List es p=>.list es p
 |.Tuple es k p=>.tup es k p
 |e=>.bad e
inductive GV:List Comprehension->Type where
 |one (t it:Expr) (ifs:List Expr):GV [⟨t,it,ifs,0⟩]
 |two (t it t2 it2:Expr):GV [⟨t,it,[],0⟩,⟨t2,it2,[],0⟩]
 |bad (g:List Comprehension):GV g
noncomputable def gv:(g:List Comprehension)->GV g:=fun O=>match O with
 |[⟨t,it,ifs,0⟩]=>.one t it ifs
 |[⟨t,it,[],0⟩,⟨t2,it2,[],0⟩]=>.two t it t2 it2
 |g=>.bad g
inductive HV:ExceptHandler->Type where
 |mk (cn:Str) (p:Pos) (err y:Str) (p1:Pos) (err':Str) (p2:Pos) (a:Str) (p3 p4 p5:Pos):HV (.ExceptHandler (some (.Name cn p)) (some err) [.Assign [.Name y p1] (.Attribute (.Name err' p2) a p3) p4] p5)
 |bad (h:ExceptHandler):HV h
noncomputable def hvA(cn:Str)(p:Pos)(err:Str)(t e:Expr)(p4 p5:Pos):HV (.ExceptHandler (some (.Name cn p)) (some err) [.Assign [t] e p4] p5):=by
 cases xv t with
 |nam y p1=>cases xv e with
  |atr o a p3=>cases xv o with
   |nam err' p2=>exact .mk cn p err y p1 err' p2 a p3 p4 p5
   |_=>exact .bad _
  |_=>exact .bad _
 |_=>exact .bad _
noncomputable def hvS(cn:Str)(p:Pos)(err:Str)(s:Stmt)(p5:Pos):HV (.ExceptHandler (some (.Name cn p)) (some err) [s] p5):=by
 cases s with
 |Assign ts e p4=>cases ts with
  |nil=>exact .bad _
  |cons t r=>cases r with
   |nil=>exact hvA cn p err t e p4 p5
   |cons=>exact .bad _
 |_=>exact .bad _
noncomputable def hvN(c:Expr)(n:Option Str)(b:List Stmt)(p5:Pos):HV (.ExceptHandler (some c) n b p5):=by
 cases xv c with
 |nam cn p=>cases n with
  |none=>exact .bad _
  |some err=>cases b with
   |nil=>exact .bad _
   |cons s r=>cases r with
    |nil=>exact hvS cn p err s p5
    |cons=>exact .bad _
 |_=>exact .bad _
noncomputable def hv(h:ExceptHandler):HV h:=by
 cases h with
 |ExceptHandler c n b p5=>cases c with
  |none=>exact .bad _
  |some c=>exact hvN c n b p5
inductive AV:List Expr->Type where
 |isi (e:Expr) (c:Str) (p:Pos):AV [e,.Name c p]
 |one (e:Expr):AV [e]
 |bad (es:List Expr):AV es
noncomputable def av:(es:List Expr)->AV es:=fun O=>match O with
 |[e,.Name c p]=>.isi e c p
 |[e]=>.one e
 |es=>.bad es
noncomputable def Z9f(k:Option Expr):Option Str:=k.bind fun e=>(Kr (bv e)).bind cs?
section
variable (I:Itp)
noncomputable def Y3:List Expr->St->Out (List D):=fun O U=>match O,U with
 |[],σ=>.ok [] σ
 |e::r,σ=>(frz (I.ev e σ)).bind fun d σ=>(Y3 r σ).bind fun ds σ=>.ok (d::ds) σ
noncomputable def tr(e:Expr)(σ:St):Out Bool:=(I.ev e σ).bind fun r σ=>opt (Zf r.1.d) σ
noncomputable def Xh:List Expr->St->Out R:=fun O U=>match O,U with
 |[],O=>.stuck
 |[e],σ=>I.ev e σ
 |e::r,σ=>(I.ev e σ).bind fun v σ=>(opt (Zf v.1.d) σ).bind fun b σ=>if b then Xh r σ else .ok v σ
noncomputable def V2:List Expr->St->Out R:=fun O U=>match O,U with
 |[],O=>.stuck
 |[e],σ=>I.ev e σ
 |e::r,σ=>(I.ev e σ).bind fun v σ=>(opt (Zf v.1.d) σ).bind fun b σ=>if b then .ok v σ else V2 r σ
noncomputable def bltNames:List Str:=[Str.ofString "abs",Str.ofString "max",Str.ofString "sum",Str.ofString "sorted",Str.ofString "str",Str.ofString "list",Str.ofString "range",Str.ofString "int",Str.ofString "len",Str.ofString "Vector",Str.ofString "Null"]
noncomputable def VU(f:Str):Bool:=(W4.lookup f).isSome||bltNames.contains f
noncomputable def Wa(i:Nat)(ds:List D)(σ:St):Out R:=
 match I.call i ds σ.pl with
 |.ok lv pl=>.ok (lv,none) {σ with pl:=pl}
 |.exc m pl=>.exc m {σ with pl:=pl}
 |.stuck=>.stuck
noncomputable def Z2z(f:Str)(ds:List D)(σ:St):Out R:=(opt (blt f ds) σ).bind fun lv σ=>.ok (lv,none) σ
noncomputable def X8(f:Str)(ds:List D)(σ:St):Out R:=
 match W4.lookup f with
 |some i=>Wa I i ds σ
 |none=>Z2z f ds σ
noncomputable def Ud(args:List Expr)(σ:St):Out R:=
 match av args with
 |.isi e c O=>(I.ev e σ).bind fun r σ=>(opt (Vp r.1.d c) σ).bind fun b σ=>.ok (.fr (.bool b),none) σ
 |O=>.stuck
noncomputable def Ue(args:List Expr)(σ:St):Out R:=
 match av args with
 |.one e=>(I.ev e σ).bind fun r σ=>(opt (Z9a r.1.d) σ).bind fun n σ=>.ok (.fr (.int n),none) σ
 |O=>.stuck
noncomputable def Z4u(f:Str)(args:List Expr)(σ:St):Out R:=(Y3 I args σ).bind fun ds σ=>X8 I f ds σ
noncomputable def XK(f:Str)(args:List Expr)(σ:St):Out R:=
 if f="isinstance" then Ud I args σ
 else if f="len" then Ue I args σ
 else if VU f=true then Z4u I f args σ else .stuck
noncomputable def ZcJ(o e:Expr)(σ:St):Out R:=(I.ev o σ).bind fun r σ=>(I.ev e σ).bind fun k σ=>(opt (Z1p r.1.d k.1.d) σ).bind fun lv σ=>.ok (lv,none) σ
noncomputable def Z9g(o e:Expr)(σ:St):Out R:=(I.ev o σ).bind fun r σ=>(I.ev e σ).bind fun k σ=>(opt (Z1q r.1.d k.1.d) σ).bind fun lv σ=>.ok (lv,none) σ
noncomputable def Zbc(o:Expr)(σ:St):Out R:=(I.ev o σ).bind fun r σ=>(opt (Z2y r.1.d) σ).bind fun lv σ=>.ok (lv,none) σ
noncomputable def Zbd(o i:Expr)(σ:St):Out R:=(I.ev o σ).bind fun r σ=>(I.ev i σ).bind fun k σ=>(opt (Xg r.1.d k.1.d σ) σ).bind fun d σ=>.ok (.fr d,none) σ
noncomputable def X9:List Expr->St->Out Bool:=fun O U=>match O,U with
 |[],σ=>.ok true σ
 |[e],σ=>tr I e σ
 |O,U=>.stuck
noncomputable def c1c(k:St->Out (List D))(d:D)(σ:St):Out (List D):=(k σ).bind fun ds σ=>.ok (d::ds) σ
noncomputable def c1b(elt:Expr)(k:St->Out (List D))(b:Bool)(σ:St):Out (List D):=if b then (frz (I.ev elt σ)).bind (c1c k) else k σ
noncomputable def c1a(ifs:List Expr)(elt:Expr)(k:St->Out (List D))(σ:St):Out (List D):=(X9 I ifs σ).bind (c1b I elt k)
noncomputable def Zh(t:Expr)(ifs:List Expr)(elt:Expr):List D->St->Out (List D):=fun O U=>match O,U with
 |[],σ=>.ok [] σ
 |x::xs,σ=>(Zl t x σ).bind fun O=>c1a I ifs elt (Zh t ifs elt xs)
noncomputable def c2d(k:St->Out (List D))(ds:List D)(σ:St):Out (List D):=(k σ).bind fun es σ=>.ok (ds++es) σ
noncomputable def c2c(t2 elt:Expr)(k:St->Out (List D))(ys:List D)(σ:St):Out (List D):=(Zh I t2 [] elt ys σ).bind (c2d k)
noncomputable def c2b(t2 elt:Expr)(k:St->Out (List D))(d:D)(σ:St):Out (List D):=(opt (YD d) σ).bind (c2c I t2 elt k)
noncomputable def c2a(t2 it2 elt:Expr)(k:St->Out (List D))(σ:St):Out (List D):=(frz (I.ev it2 σ)).bind (c2b I t2 elt k)
noncomputable def YB(t t2 it2 elt:Expr):List D->St->Out (List D):=fun O U=>match O,U with
 |[],σ=>.ok [] σ
 |x::xs,σ=>(Zl t x σ).bind fun O=>c2a I t2 it2 elt (YB t t2 it2 elt xs)
noncomputable def Yy(o:Out (List D)):Out R:=
 match o with
 |.ok ds σ=>if ds.length<=LIM then .ok (.ol ds,none) ⟨σ.up,[],[],σ.pl⟩ else .stuck
 |.exc m σ=>.exc m ⟨σ.up,[],[],σ.pl⟩
 |.stuck=>.stuck
noncomputable def Z6T(elt t it:Expr)(ifs:List Expr)(σ:St):Out R:=(frz (I.ev it σ)).bind fun d σ=>(opt (YD d) σ).bind fun xs σ=>
 match σ.up with
 |[]=>Yy (Zh I t ifs elt xs ⟨[],σ.vars,ZE t,σ.pl⟩)
 |O=>.stuck
noncomputable def Z6U(elt t it t2 it2:Expr)(σ:St):Out R:=(frz (I.ev it σ)).bind fun d σ=>(opt (YD d) σ).bind fun xs σ=>
 match σ.up with
 |[]=>Yy (if xs.length<=10 then YB I t t2 it2 elt xs ⟨[],σ.vars,ZE t++ZE t2,σ.pl⟩ else .stuck)
 |O=>.stuck
noncomputable def Xq(elt:Expr)(gens:List Comprehension)(σ:St):Out R:=
 match gv gens with
 |.one t it ifs=>Z6T I elt t it ifs σ
 |.two t it t2 it2=>Z6U I elt t it t2 it2 σ
 |.bad O=>.stuck
noncomputable def WP:List (Option Expr)->List Expr->St->Out (List (Str × D)):=fun O U V=>match O,U,V with
 |[],[],σ=>.ok [] σ
 |k::ks,e::es,σ=>(opt (Z9f k) σ).bind fun k σ=>(frz (I.ev e σ)).bind fun d σ=>(WP ks es σ).bind fun r σ=>.ok ((k,d)::r) σ
 |O,U,σ=>.stuck
noncomputable def Z9h(e:Expr):Option Int:=(Kr (bv e)).bind fun c=>(ci? c).map fun i=>-i
noncomputable def Z8z(l:Expr)(op:Operator)(r:Expr)(σ:St):Out R:=(I.ev l σ).bind fun a σ=>(I.ev r σ).bind fun b σ=>(opt (XA op a.1.d b.1.d) σ).bind fun lv σ=>.ok (lv,none) σ
noncomputable def Zbe(l:Expr)(op:CmpOp)(r:Expr)(σ:St):Out R:=(I.ev l σ).bind fun a σ=>(I.ev r σ).bind fun b σ=>(opt (YT σ op a.1.d b.1.d) σ).bind fun b σ=>.ok (.fr (.bool b),none) σ
noncomputable def Zbf(t a b:Expr)(σ:St):Out R:=(tr I t σ).bind fun c σ=>if c then I.ev a σ else I.ev b σ
noncomputable def Z8A(ks:List (Option Expr))(es:List Expr)(σ:St):Out R:=(WP I ks es σ).bind fun kvs σ=>if (kvs.map (fun O=>O.1)).Nodup/\kvs.length<=10 then .ok (.od kvs,none) σ else .stuck
noncomputable def Zbg(o:Expr)(m:Str)(args:List Expr)(σ:St):Out R:=(I.ev o σ).bind fun r σ=>(opt (if W9 m r.1.d then some () else none) σ).bind fun O σ=>(Y3 I args σ).bind fun ds σ=>W8 m r.1.d ds σ
noncomputable def Z4v(o:Expr)(x:Str)(σ:St):Out R:=if x="attrs" then (frz (I.ev o σ)).bind fun d σ=>(opt (WO (.fr d) x) σ).bind fun d σ=>.ok (.fr d,none) σ else (I.ev o σ).bind fun r σ=>(opt (WO r.1 x) σ).bind fun d σ=>.ok (.fr d,none) σ
noncomputable def Z9i(es:List Expr)(σ:St):Out R:=(Y3 I es σ).bind fun ds σ=>if ds.length<=LIM then .ok (.ol ds,none) σ else .stuck
noncomputable def Zbh(es:List Expr)(σ:St):Out R:=(Y3 I es σ).bind fun ds σ=>if ds.length<=LIM then .ok (.fr (.tup ds),none) σ else .stuck
noncomputable def Zbi(e:Expr)(σ:St):Out R:=(tr I e σ).bind fun b σ=>.ok (.fr (.bool (!b)),none) σ
noncomputable def evV{e:Expr}(v:EV e)(σ:St):Out R:=by
 induction v with
 |con c O U=>exact (opt (Kq c) σ).bind fun d σ=>.ok (.fr d,none) σ
 |nam x O=>exact X7 x σ
 |and es O=>exact Xh I es σ
 |or es O=>exact V2 I es σ
 |bin l op r O=>exact Z8z I l op r σ
 |not e O=>exact Zbi I e σ
 |neg e O=>exact (opt (Z9h e) σ).bind fun i σ=>.ok (.fr (.int i),none) σ
 |ite t a b O=>exact Zbf I t a b σ
 |dict ks es O=>exact Z8A I ks es σ
 |comp elt gens O U=>exact Xq I elt gens σ
 |cmp l op r O=>exact Zbe I l op r σ
 |cal f O args U=>exact XK I f args σ
 |met o m O args U=>exact Zbg I o m args σ
 |atr o x O=>exact Z4v I o x σ
 |to o e O U=>exact ZcJ I o e σ
 |«from» o e _ _=>exact Z9g I o e σ
 |rev o=>exact Zbc I o σ
 |sub o i O U=>exact Zbd I o i σ
 |list es O=>exact Z9i I es σ
 |tup es O U=>exact Zbh I es σ
 |bad O=>exact .stuck
noncomputable def XM(e:Expr)(σ:St):Out R:=evV I (ev1 e) σ
noncomputable def Wt(x:Str)(e:Expr)(σ:St):Out Fl:=
 (I.ev e σ).bind fun r σ=>match r.2 with
  |none=>.ok .next {σ with vars:=ZA x r.1 σ.vars}
  |some O=>let σ:=Zo r σ;.ok .next {σ with vars:=ZA x (.fr r.1.d) σ.vars}
noncomputable def three?:List Expr->Option (Expr × Expr × Expr):=fun O=>match O with
 |[a,b,c]=>some (a,b,c)
 |O=>none
noncomputable def noP?:Option Z8->Option Unit:=fun O=>match O with
 |none=>some ()
 |some O=>none
theorem noP?_of{o:Option Z8}{u:Unit}(h:noP? o=some u):o=none:=by
 cases o with
 |none=>rfl
 |some O=>exact Z3 h
theorem three?_of{l:List Expr}{p:Expr × Expr × Expr}(h:three? l=some p):l=[p.1,p.2.1,p.2.2]:=by
 cases l with
 |nil=>exact Z3 h
 |cons a l=>cases l with
  |nil=>exact Z3 h
  |cons b l=>cases l with
   |nil=>exact Z3 h
   |cons c l=>cases l with
    |nil=>exact Option.some.inj h▸rfl
    |cons O U=>exact Z3 h
noncomputable def Zbj(x:Str)(xs:List D)(r1 r2:R)(σ:St):Out Fl:=(opt r1.1.d.i? σ).bind fun a σ=>(opt r2.1.d.i? σ).bind fun b σ=>(opt (noP? σ.pl) σ).bind fun O σ=>(opt (ints? xs) σ).bind fun ns σ=>.ok .next {σ with vars:=ZA x (.fr .pool) σ.vars,pl:=some ⟨ns,a,b⟩}
noncomputable def Zbk(x:Str)(e1 e2:Expr)(r0:R)(σ:St):Out Fl:=(opt (rl? r0) σ).bind fun xs σ=>(I.ev e1 σ).bind fun r1 σ=>(I.ev e2 σ).bind (Zbj x xs r1)
noncomputable def Xi(x:Str)(es:List Expr)(σ:St):Out Fl:=(opt (three? es) σ).bind fun p σ=>(opt (noP? σ.pl) σ).bind fun O σ=>(I.ev p.1 σ).bind (Zbk I x p.2.1 p.2.2)
noncomputable def ZcK:{i:Expr}->BV i->St->Option D
 |_,.con c U V,O1=>Kq c
 |_,.nam y U,σ=>(ZM y σ.vars).bind LV.fr?
 |_,.tup U V O1,O2=>none
 |O,.bad _,V=>none
noncomputable def Z6V(i:Expr)(σ:St):Option D:=ZcK (bv i) σ
noncomputable def asgL(x:Str)(xs:List D)(k d:D)(σ:St):Out Fl:=(opt k.i? σ).bind fun n σ=>if 0<=n/\n < xs.length then .ok .next {σ with vars:=ZA x (.ol (xs.set n.toNat d)) σ.vars} else .stuck
noncomputable def Zbl(x:Str)(kvs:List (Str × D))(k d:D)(σ:St):Out Fl:=(opt k.s? σ).bind fun s σ=>if kvs.length < LIM/\s≠"shared" then .ok .next {σ with vars:=ZA x (.od (YC s d kvs)) σ.vars} else .stuck
noncomputable def Z9j(k d:D)(σ:St):Out Fl:=(opt k.i? σ).bind fun n σ=>(opt d.i? σ).bind fun v σ=>(opt σ.pl σ).bind fun p σ=>if n=1 then .ok .next {σ with pl:=some {p with a:=v}} else if n=2 then .ok .next {σ with pl:=some {p with b:=v}} else .stuck
noncomputable def Zbm(x:Str)(k d:D)(lv:LV)(σ:St):Out Fl:=match lv with
 |.ol xs=>asgL x xs k d σ
 |.od kvs=>Zbl x kvs k d σ
 |.fr v=>if v.isPool=true then Z9j k d σ else .stuck
 |.ov O U V O1=>.stuck
noncomputable def Z8B(x:Str)(i:Expr)(d:D)(σ:St):Out Fl:=(opt (ZM x σ.vars) σ).bind fun lv σ=>(opt (Z6V i σ) σ).bind fun k σ=>Zbm x k d lv σ
noncomputable def Kt(x:Str)(i e:Expr)(σ:St):Out Fl:=(frz (I.ev e σ)).bind (Z8B x i)
noncomputable def Z8C(x:Str)(r:R)(σ:St):Out Fl:=(opt ((ZM x σ.vars).bind LV.v0?) σ).bind fun p σ=>(opt (rk? r) σ).bind fun kvs σ=>.ok .next {σ with vars:=ZA x (.ov p.1 p.2 (.dict kvs) true) σ.vars}
noncomputable def Zbn(x:Str)(e:Expr)(σ:St):Out Fl:=(opt ((ZM x σ.vars).bind fun v=>v.fr?.bind D.v?) σ).bind fun O σ=>(opt ((Kr (bv e)).bind ct?) σ).bind fun O σ=>.ok .next σ
noncomputable def XN(x a:Str)(e:Expr)(σ:St):Out Fl:=if a="attrs" then (I.ev e σ).bind (Z8C x) else if a="shared" then Zbn x e σ else .stuck
noncomputable def Zbo(x:Str)(i:Expr)(d:D)(σ:St):Out Fl:=(opt ((ZM x σ.vars).bind LV.v1?) σ).bind fun p σ=>(opt ((Kr (bv i)).bind cs?) σ).bind fun s σ=>if p.2.2.length < LIM/\s≠"shared" then .ok .next {σ with vars:=ZA x (.ov p.1 p.2.1 (.dict (YC s d p.2.2)) true) σ.vars} else .stuck
noncomputable def Yz(x a:Str)(i e:Expr)(σ:St):Out Fl:=if a="attrs" then (frz (I.ev e σ)).bind (Zbo x i) else .stuck
noncomputable def Uf(x:Str)(σ:St):Option (List D):=(ZM x σ.vars).bind LV.l?
theorem Ug{x:Str}{σ:St}{xs:List D}(e:Uf x σ=some xs):ZM x σ.vars=some (.ol xs):=by
 obtain ⟨lv,h,e⟩:=Option.bind_eq_some_iff.mp e
 rw[h,LV.l?_of e]
noncomputable def Z9k(xs ds:List D):Option (List D):=(one? ds).bind fun d=>if xs.length < LIM then some (xs++[d]) else none
noncomputable def Z9l(xs ds:List D):Option (List D):=(one? ds).bind fun d=>d.l?.bind fun ys=>if xs.length+ys.length<=LIM then some (xs++ys) else none
noncomputable def Zbp(xs ds:List D):Option (List D):=if ds=[] then some xs.reverse else none
noncomputable def Z2A(m:Str)(xs:List D)(ds:List D):Option (List D):=
 if m="append" then Z9k xs ds
 else if m="extend" then Z9l xs ds
 else if m="reverse" then Zbp xs ds
 else none
noncomputable def Z4w(m:Str):Bool:=decide (m="append")||decide (m="extend")||decide (m="reverse")
noncomputable def ZcL(x m:Str)(ds:List D)(σ:St):Out Fl:=(opt (Uf x σ) σ).bind fun xs σ=>(opt (Z2A m xs ds) σ).bind fun ys σ=>.ok .next {σ with vars:=ZA x (.ol ys) σ.vars}
noncomputable def Uh(x m:Str)(args:List Expr)(σ:St):Out Fl:=(opt (Uf x σ) σ).bind fun O σ=>if Z4w m=true then (Y3 I args σ).bind (ZcL x m) else .stuck
noncomputable def Zbq(op:Operator)(a b:Int):Option Int:=match op with
 |.Add=>some (a+b)
 |.Sub=>some (a - b)
 |O=>none
noncomputable def ZcM(x:Str)(op:Operator)(a:Int)(r:R)(σ:St):Out Fl:=(opt (r.1.d.i?.bind (Zbq op a)) σ).bind fun n σ=>.ok .next {σ with vars:=ZA x (.fr (.int n)) σ.vars}
noncomputable def Z9m(x:Str)(d:D)(σ:St):Out Fl:=(opt (Uf x σ) σ).bind fun xs σ=>(opt d.l? σ).bind fun ys σ=>if xs.length+ys.length<=LIM then .ok .next {σ with vars:=ZA x (.ol (xs++ys)) σ.vars} else .stuck
noncomputable def Z0e(x:Str)(op:Operator)(e:Expr)(σ:St):Out Fl:=(opt (ZM x σ.vars) σ).bind fun lv σ=>match lv with
 |.fr d=>(opt d.i? σ).bind fun a σ=>(I.ev e σ).bind (ZcM x op a)
 |.ol O=>if op=.Add then (frz (I.ev e σ)).bind (Z9m x) else .stuck
 |.od O=>.stuck
 |.ov O U V O1=>.stuck
noncomputable def Z0f(k:St->Out Fl):Fl->St->Out Fl:=fun O U=>match O,U with
 |.next,σ=>k σ
 |.cont,σ=>k σ
 |.brk,σ=>.ok .next σ
 |.ret lv,σ=>.ok (.ret lv) σ
noncomputable def ZJ(body:St->Out Fl)(t:Expr):List D->St->Out Fl:=fun O U=>match O,U with
 |[],σ=>.ok .next σ
 |x::xs,σ=>(Zl t x σ).bind fun O σ=>(body σ).bind (Z0f fun σ=>ZJ body t xs σ)
noncomputable def whl(test:St->Out Bool)(body:St->Out Fl):Nat->St->Out Fl:=fun O U=>match O,U with
 |0,O=>.stuck
 |k+1,σ=>(test σ).bind fun b σ=>if b then (body σ).bind (Z0f fun σ=>whl test body k σ) else .ok .next σ
noncomputable def Z9n(err y:Str):Out Fl->Out Fl:=fun O=>match O with
 |.exc m σ=>if ZM err σ.vars=none then .ok .next {σ with vars:=ZA y (.fr (.str m)) σ.vars} else .stuck
 |.ok f σ=>.ok f σ
 |.stuck=>.stuck
noncomputable def JB(body:List Stmt)(h:ExceptHandler)(σ:St):Out Fl:=
 match hv h with
 |.mk c O err y U err' V a O1 O2 O3=>
  if c="Refusal"/\err'=err/\a="message"/\y≠err then Z9n err y (I.exs body σ) else .stuck
 |.bad O=>.stuck
noncomputable def JC(e:Expr)(σ:St):Out Fl:=(I.ev e σ).bind fun r σ=>.ok (.ret r.1) σ
noncomputable def Z4x(t a b:Expr)(σ:St):Out Fl:=(tr I t σ).bind fun c σ=>JC I (if c then a else b) σ
noncomputable def Ku(x:Str)(es:List Expr)(σ:St):Out Fl:=(Y3 I es σ).bind fun ds σ=>if ds.length<=LIM then .ok .next {σ with vars:=ZA x (.ol ds) σ.vars} else .stuck
noncomputable def Z4y(t e:Expr)(σ:St):Out Fl:=(frz (I.ev e σ)).bind fun d σ=>(Zl t d σ).bind fun O σ=>.ok .next σ
noncomputable def Zbr(t it:Expr)(b:List Stmt)(σ:St):Out Fl:=(frz (I.ev it σ)).bind fun d σ=>(opt (YD d) σ).bind fun xs σ=>ZJ (I.exs b) t xs σ
noncomputable def Z8D(t:Expr)(a b:List Stmt)(σ:St):Out Fl:=(tr I t σ).bind fun c σ=>if c then I.exs a σ else I.exs b σ
noncomputable def Z8E(e:Expr)(σ:St):Out Fl:=(frz (I.ev e σ)).bind fun d σ=>match d with|.str m=>.exc m σ|O=>.stuck
noncomputable def exV{s:Stmt}(v:SV s)(σ:St):Out Fl:=by
 induction v with
 |ret0 O=>exact .ok (.ret (.fr .none)) σ
 |retI t a b O U=>exact Z4x I t a b σ
 |ret e O=>exact JC I e σ
 |asgL x O es U V=>exact if x="pool" then Xi I x es σ else Ku I x es σ
 |asgN x O e U=>exact Wt I x e σ
 |asgT ts k p e O U=>exact Z4y I (.Tuple ts k p) e σ
 |asgS x O i U e V=>exact Kt I x i e σ
 |asgA x O a U e V=>exact XN I x a e σ
 |asgB x O a U i V e O1=>exact Yz I x a i e σ
 |aug x O op e U=>exact Z0e I x op e σ
 |«for» t it b O=>exact Zbr I t it b σ
 |whl t b O=>exact whl (tr I t) (I.exs b) 64 σ
 |ite t a b O=>exact Z8D I t a b σ
 |rai c O e U V=>exact if c="Refusal" then Z8E I e σ else .stuck
 |«try» b h O=>exact JB I b h σ
 |«mut» x O m U args V O1=>exact Uh I x m args σ
 |pass O=>exact .ok .next σ
 |cont O=>exact .ok .cont σ
 |bad O=>exact .stuck
noncomputable def Yd(s:Stmt)(σ:St):Out Fl:=exV I (sv s) σ
noncomputable def ZB:List Stmt->St->Out Fl:=fun O U=>match O,U with
 |[],σ=>.ok .next σ
 |s::r,σ=>(Yd I s σ).bind fun f σ=>match f with
  |.next=>ZB r σ
  |f=>.ok f σ
end
structure Fn where
 params:List Str
 body:List Stmt
 scope:Scope
noncomputable def Zbs:Stmt->Option Fn:=fun O=>match O with
 |.FunctionDef O a body U V O1 scope O2 O3 O4=>some ⟨a.args.map (fun O=>O.arg),body,scope⟩
 |O=>none
noncomputable def fn(i:Nat):Option Fn:=(PR[i]?).bind Zbs
noncomputable def Yg(I:Itp)(i:Nat)(ds:List D)(pl:Option Z8):CO:=
 match fn i with
 |some F=>if F.params.length=ds.length then
   match I.exs F.body ⟨YU F.params ds [],[],[],pl⟩ with
   |.ok (.ret lv) σ=>.ok lv σ.pl
   |.ok .next σ=>.ok (.fr .none) σ.pl
   |.ok O U=>.stuck
   |.exc m σ=>.exc m σ.pl
   |.stuck=>.stuck
  else .stuck
 |none=>.stuck
noncomputable def step(I:Itp):Itp:=⟨XM I,ZB I,Yg I⟩
noncomputable def itp:Nat->Itp:=fun O=>match O with
 |0=>⟨fun O O=>.stuck,fun O O=>.stuck,fun O O O=>.stuck⟩
 |n+1=>step (itp n)
def wpO{α:Type}(o:Out α)(Q:α->St->Prop):Prop:=match o with
 |.ok a σ=>Q a σ
 |O=>False
theorem ZF{α:Type}{a:α}{σ}{Q:α->St->Prop}(h:Q a σ):wpO (.ok a σ) Q:=h
theorem Z1{α β:Type}{o:Out α}{f:α->St->Out β}{Q:β->St->Prop}(h:wpO o fun a σ=>wpO (f a σ) Q):wpO (o.bind f) Q:=by
 induction o with
 |ok a σ=>exact h
 |exc O U=>exact h.elim
 |stuck=>exact h.elim
theorem Z0{α:Type}{o:Out α}{Q Q':α->St->Prop}(h:wpO o Q)(k:∀ a σ,Q a σ->Q' a σ):wpO o Q':=by
 induction o with
 |ok a σ=>exact k a σ h
 |exc O U=>exact h.elim
 |stuck=>exact h.elim
theorem Zq{α:Type}{o:Option α}{σ}{a:α}{Q:α->St->Prop}(e:o=some a)(h:Q a σ):wpO (opt o σ) Q:=by subst e;exact h
theorem Kv{α:Type}{o:Out α}{Q:α->St->Prop}(h:wpO o Q):∃ a σ,o=.ok a σ/\Q a σ:=by
 induction o with
 |ok a σ=>exact ⟨a,σ,rfl,h⟩
 |exc O U=>exact h.elim
 |stuck=>exact h.elim
variable {k:Nat}{σ:St}{Q:R->St->Prop}{QF:Fl->St->Prop}
theorem Xj{o}{Qd}(h:wpO o fun r σ=>Qd r.1.d (Zo r σ)):wpO (frz o) Qd:=Z1 h
theorem Z8F{test}{body}{n}(h:wpO (test σ) fun b σ=>(b=false->QF .next σ)/\(b=true->wpO (body σ) fun f σ=>(f=.next\/f=.cont->wpO (whl test body n σ) QF)/\(f=.brk->QF .next σ)/\∀ lv,f=.ret lv->QF (.ret lv) σ)):wpO (whl test body (n+1) σ) QF:=by
 refine Z1 (Z0 h fun b σ h=>?_)
 induction b with
 |false=>exact h.1 rfl
 |true=>
  refine Z1 (Z0 (h.2 rfl) fun f σ h=>?_)
  induction f with
  |next=>exact h.1 (.inl rfl)
  |cont=>exact h.1 (.inr rfl)
  |brk=>exact h.2.1 rfl
  |ret lv=>exact h.2.2 lv rfl
theorem Z6W{t elt}{ifs}{Qs}(h:Qs [] σ):wpO (Zh (itp k) t ifs elt [] σ) Qs:=h
theorem XB{t elt}{ifs}{x}{xs}{Qs}(h:wpO (Zl t x σ) fun O σ=>wpO (X9 (itp k) ifs σ) fun b σ=>(b=true->wpO ((itp k).ev elt σ) fun r σ=>wpO (Zh (itp k) t ifs elt xs (Zo r σ)) fun ds σ=>Qs (r.1.d::ds) σ)/\(b=false->wpO (Zh (itp k) t ifs elt xs σ) Qs)):wpO (Zh (itp k) t ifs elt (x::xs) σ) Qs:=by
 refine Z1 (Z0 h fun O σ h=>Z1 (Z0 h fun b σ h=>?_))
 induction b with
 |true=>exact Z1 (Xj (Z0 (h.1 rfl) fun r σ h=>Z1 (Z0 h fun O O h=>h)))
 |false=>exact h.2 rfl
theorem Kw{Qb}(h:Qb true σ):wpO (X9 (itp k) [] σ) Qb:=h
theorem Z6X{x}{p}{d}{Qu}(h:Qu () {σ with vars:=ZA x (.fr d) σ.vars}):wpO (Zl (.Name x p) d σ) Qu:=h
def Zb(p:Z8):Prop:=p.b.natAbs < 2 ^ 200
def OLe{α:Type}(o o':Out α):Prop:=o=.stuck\/o=o'
def CLe(o o':CO):Prop:=o=.stuck\/o=o'
theorem OLe.rfl{α:Type}{o:Out α}:OLe o o:=.inr (Eq.refl _)
theorem OLe.st{α:Type}{o:Out α}:OLe (.stuck:Out α) o:=.inl (Eq.refl _)
theorem OLe.bind{α β:Type}{o o':Out α}{f g:α->St->Out β}(h:OLe o o')(k:∀ a σ,OLe (f a σ) (g a σ)):OLe (o.bind f) (o'.bind g):=by
 rcases h with rfl|rfl
 ·exact .inl (Eq.refl _)
 ·induction o with
  |ok a σ=>exact k a σ
  |exc m σ=>exact .inr (Eq.refl _)
  |stuck=>exact .inl (Eq.refl _)
theorem Yx{α:Type}{p} [Decidable p] {a b a' b':Out α} (h:OLe a a') (k:OLe b b'):OLe (if p then a else b) (if p then a' else b'):=by
 by_cases q:p
 ·rw[if_pos q,if_pos q];exact h
 ·rw[if_neg q,if_neg q];exact k
structure ILe(I J:Itp):Prop where
 ev:∀ e σ,OLe (I.ev e σ) (J.ev e σ)
 exs:∀ b σ,OLe (I.exs b σ) (J.exs b σ)
 call:∀ i ds pl,CLe (I.call i ds pl) (J.call i ds pl)
section
variable {I J:Itp}(h:ILe I J)
include h
theorem YK{o o'}(k:OLe o o'):OLe (frz o) (frz o'):=k.bind fun O O=>.rfl
theorem Wu(es):∀ (σ:St),OLe (Y3 I es σ) (Y3 J es σ):=by
 induction es with
 |nil=>intro O;exact .rfl
 |cons e r ih=>
  intro O
  exact (YK h (h.ev e _)).bind fun O O=>(ih _).bind fun O O=>.rfl
theorem VH(e)(σ):OLe (tr I e σ) (tr J e σ):=(h.ev _ _).bind fun O O=>.rfl
theorem Z4z:∀ (es:List Expr) (σ:St),OLe (Xh I es σ) (Xh J es σ):=fun O U=>match O,U with
 |[],O=>.rfl
 |[e],O=>h.ev _ _
 |e::e'::r,O=>(h.ev _ _).bind fun O O=>OLe.rfl.bind fun b O=>by cases b;exact .rfl;exact Z4z (e'::r) _
theorem Z8G:∀ (es:List Expr) (σ:St),OLe (V2 I es σ) (V2 J es σ):=fun O U=>match O,U with
 |[],O=>.rfl
 |[e],O=>h.ev _ _
 |e::e'::r,O=>(h.ev _ _).bind fun O O=>OLe.rfl.bind fun b O=>by cases b;exact Z8G (e'::r) _;exact .rfl
theorem Z3e(f)(ds)(σ):OLe (X8 I f ds σ) (X8 J f ds σ):=by
 unfold X8
 cases W4.lookup f with
 |some i=>
  show OLe (Wa I i ds σ) (Wa J i ds σ)
  unfold Wa
  rcases h.call i ds σ.pl with e|e
  ·rw[e];exact .st
  ·rw[e];exact .rfl
 |none=>exact .rfl
theorem Z4A(f)(args)(σ):OLe (XK I f args σ) (XK J f args σ):=by
 have k1:OLe (Ud I args σ) (Ud J args σ):=by
  unfold Ud
  generalize av args=v
  induction v with
  |isi=>exact (h.ev _ _).bind fun O O=>.rfl
  |_=>exact .rfl
 have k2:OLe (Ue I args σ) (Ue J args σ):=by
  unfold Ue
  generalize av args=v
  induction v with
  |one=>exact (h.ev _ _).bind fun O O=>.rfl
  |_=>exact .rfl
 have k3:OLe (Z4u I f args σ) (Z4u J f args σ):=(Wu h _ _).bind fun O O=>Z3e h _ _ _
 exact Yx k1 (Yx k2 (Yx k3 .rfl))
theorem Z9o(es)(σ):OLe (X9 I es σ) (X9 J es σ):=by
 unfold X9
 split
 ·exact .rfl
 ·exact VH h _ _
 ·exact .rfl
theorem Yj(t)(ifs)(elt)(xs):∀ (σ:St),OLe (Zh I t ifs elt xs σ) (Zh J t ifs elt xs σ):=by
 induction xs with
 |nil=>intro O;exact .rfl
 |cons x xs ih=>
  intro O
  exact OLe.rfl.bind fun O O=>(Z9o h _ _).bind fun b O=>by
   cases b
   ·exact ih _
   ·exact (YK h (h.ev _ _)).bind fun O O=>(ih _).bind fun O O=>.rfl
theorem Ui(t t2 it2 elt)(xs):∀ (σ:St),OLe (YB I t t2 it2 elt xs σ) (YB J t t2 it2 elt xs σ):=by
 induction xs with
 |nil=>intro O;exact .rfl
 |cons x xs ih=>
  intro O
  exact OLe.rfl.bind fun O O=>(YK h (h.ev _ _)).bind fun O O=>OLe.rfl.bind fun O O=>(Yj h _ _ _ _ _).bind fun O O=>(ih _).bind fun O O=>.rfl
theorem JD{o o'}(k:OLe o o'):OLe (Yy o) (Yy o'):=by
 rcases k with rfl|rfl
 ·exact .st
 ·exact .rfl
theorem Z6Y(elt)(gens)(σ):OLe (Xq I elt gens σ) (Xq J elt gens σ):=by
 unfold Xq
 generalize gv gens=v
 induction v with
 |bad=>exact .rfl
 |one t it ifs=>
  refine (YK h (h.ev _ _)).bind fun O σ=>OLe.rfl.bind fun O σ=>?_
  cases σ.up with
  |nil=>exact JD h (Yj h _ _ _ _ _)
  |cons O U=>exact .rfl
 |two t it t2 it2=>
  refine (YK h (h.ev _ _)).bind fun O σ=>OLe.rfl.bind fun O σ=>?_
  cases σ.up with
  |nil=>exact JD h (Yx (Ui h _ _ _ _ _ _) .rfl)
  |cons O U=>exact .rfl
theorem Z2B:∀ (ks:List (Option Expr)) (es:List Expr) (σ:St),OLe (WP I ks es σ) (WP J ks es σ):=fun O U V=>match O,U,V with
 |[],[],O=>.rfl
 |[],O::U,V=>.rfl
 |O::U,[],V=>.rfl
 |k::ks,e::es,O=>OLe.rfl.bind fun O O=>(YK h (h.ev _ _)).bind fun O O=>(Z2B ks es _).bind fun O O=>.rfl
theorem Z3f(e)(σ):OLe (XM I e σ) (XM J e σ):=by
 unfold XM
 generalize ev1 e=v
 induction v with
 |con=>exact .rfl
 |nam=>exact .rfl
 |and=>exact Z4z h _ _
 |or=>exact Z8G h _ _
 |bin=>exact (h.ev _ _).bind fun O O=>(h.ev _ _).bind fun O O=>.rfl
 |not=>exact (VH h _ _).bind fun O O=>.rfl
 |neg=>exact .rfl
 |ite=>
  refine (VH h _ _).bind fun b O=>?_
  cases b
  ·exact h.ev _ _
  ·exact h.ev _ _
 |dict=>exact (Z2B h _ _ _).bind fun O O=>.rfl
 |comp=>exact Z6Y h _ _ _
 |cmp=>exact (h.ev _ _).bind fun O O=>(h.ev _ _).bind fun O O=>.rfl
 |cal=>exact Z4A h _ _ _
 |met=>exact (h.ev _ _).bind fun O O=>OLe.rfl.bind fun O O=>(Wu h _ _).bind fun O O=>.rfl
 |atr=>exact Yx ((YK h (h.ev _ _)).bind fun O O=>.rfl) ((h.ev _ _).bind fun O O=>.rfl)
 |to=>exact (h.ev _ _).bind fun O O=>(h.ev _ _).bind fun O O=>.rfl
 |«from»=>exact (h.ev _ _).bind fun O O=>(h.ev _ _).bind fun O O=>.rfl
 |rev=>exact (h.ev _ _).bind fun O O=>.rfl
 |sub=>exact (h.ev _ _).bind fun O O=>(h.ev _ _).bind fun O O=>.rfl
 |list=>exact (Wu h _ _).bind fun O O=>.rfl
 |tup=>exact (Wu h _ _).bind fun O O=>.rfl
 |bad=>exact .rfl
theorem Z4B(e)(σ):OLe (JC I e σ) (JC J e σ):=(h.ev _ _).bind fun O O=>.rfl
theorem Z1s(x)(e)(σ):OLe (Wt I x e σ) (Wt J x e σ):=(h.ev _ _).bind fun O O=>.rfl
theorem Z1t(x)(es)(σ):OLe (Xi I x es σ) (Xi J x es σ):=OLe.rfl.bind fun O O=>OLe.rfl.bind fun O O=>(h.ev _ _).bind fun O O=>OLe.rfl.bind fun O O=>(h.ev _ _).bind fun O O=>(h.ev _ _).bind fun O O=>.rfl
theorem Z3g(x)(i e)(σ):OLe (Kt I x i e σ) (Kt J x i e σ):=(YK h (h.ev _ _)).bind fun O O=>.rfl
theorem Z1u(x a)(e)(σ):OLe (XN I x a e σ) (XN J x a e σ):=Yx ((h.ev _ _).bind fun O O=>.rfl) .rfl
theorem Jf(x a)(i e)(σ):OLe (Yz I x a i e σ) (Yz J x a i e σ):=Yx ((YK h (h.ev _ _)).bind fun O O=>.rfl) .rfl
theorem Z3h(x m)(args)(σ):OLe (Uh I x m args σ) (Uh J x m args σ):=OLe.rfl.bind fun O O=>Yx ((Wu h _ _).bind fun O O=>.rfl) .rfl
theorem Z4C(x)(op)(e)(σ):OLe (Z0e I x op e σ) (Z0e J x op e σ):=OLe.rfl.bind fun lv O=>by
 induction lv with
 |fr=>exact OLe.rfl.bind fun O O=>(h.ev _ _).bind fun O O=>.rfl
 |ol=>exact Yx ((YK h (h.ev _ _)).bind fun O O=>.rfl) .rfl
 |od=>exact .rfl
 |ov=>exact .rfl
theorem XO{b b'}(hb:∀ σ,OLe (b σ) (b' σ))(t)(xs):∀ (σ:St),OLe (ZJ b t xs σ) (ZJ b' t xs σ):=by
 induction xs with
 |nil=>intro O;exact .rfl
 |cons x xs ih=>
  intro O
  exact OLe.rfl.bind fun O O=>(hb _).bind fun f O=>by
   cases f
   ·exact ih _
   ·exact .rfl
   ·exact ih _
   ·exact .rfl
theorem Uj{b b'}{q q'}(hb:∀ σ,OLe (b σ) (b' σ))(hq:∀ σ,OLe (q σ) (q' σ)):∀ (n:Nat) (σ:St),OLe (whl q b n σ) (whl q' b' n σ):=fun O U=>match O,U with
 |0,O=>.rfl
 |n+1,O=>(hq _).bind fun c O=>by
   cases c
   ·exact .rfl
   ·refine (hb _).bind fun f O=>?_
    cases f
    ·exact Uj hb hq n _
    ·exact .rfl
    ·exact Uj hb hq n _
    ·exact .rfl
theorem Z4D(b)(hd)(σ):OLe (JB I b hd σ) (JB J b hd σ):=by
 unfold JB
 generalize hv hd=v
 induction v with
 |bad=>exact .rfl
 |mk=>
  refine Yx ?_ .rfl
  rcases h.exs b σ with e|e
  ·rw[e];exact .st
  ·rw[e];exact .rfl
theorem Z3i(s)(σ):OLe (Yd I s σ) (Yd J s σ):=by
 unfold Yd
 generalize sv s=v
 induction v with
 |ret0=>exact .rfl
 |retI=>exact (VH h _ _).bind fun O O=>Z4B h _ _
 |ret=>exact Z4B h _ _
 |asgL=>exact Yx (Z1t h _ _ _) ((Wu h _ _).bind fun O O=>.rfl)
 |asgN=>exact Z1s h _ _ _
 |asgT=>exact (YK h (h.ev _ _)).bind fun O O=>.rfl
 |asgS=>exact Z3g h _ _ _ _
 |asgA=>exact Z1u h _ _ _ _
 |asgB=>exact Jf h _ _ _ _ _
 |aug=>exact Z4C h _ _ _ _
 |«for»=>exact (YK h (h.ev _ _)).bind fun O O=>OLe.rfl.bind fun O O=>XO h (h.exs _) _ _ _
 |whl=>exact Uj h (h.exs _) (VH h _) _ _
 |ite=>
  refine (VH h _ _).bind fun b O=>?_
  cases b
  ·exact h.exs _ _
  ·exact h.exs _ _
 |rai=>exact Yx ((YK h (h.ev _ _)).bind fun O O=>.rfl) .rfl
 |«try»=>exact Z4D h _ _ _
 |«mut»=>exact Z3h h _ _ _ _
 |pass=>exact .rfl
 |cont=>exact .rfl
 |bad=>exact .rfl
theorem Z1v(b):∀ (σ:St),OLe (ZB I b σ) (ZB J b σ):=by
 induction b with
 |nil=>intro O;exact .rfl
 |cons s r ih=>
  intro O
  exact (Z3i h s _).bind fun f O=>by
   cases f
   ·exact ih _
   ·exact .rfl
   ·exact .rfl
   ·exact .rfl
theorem Z0g(i)(ds)(pl):CLe (Yg I i ds pl) (Yg J i ds pl):=by
 unfold Yg
 cases fn i with
 |none=>exact .inr rfl
 |some F=>
  dsimp only
  by_cases q:F.params.length=ds.length
  ·rw[if_pos q,if_pos q]
   rcases h.exs F.body ⟨YU F.params ds [],[],[],pl⟩ with e|e
   ·rw[e];exact .inl rfl
   ·rw[e];exact .inr rfl
  ·rw[if_neg q,if_neg q];exact .inr rfl
theorem Z6Z:ILe (step I) (step J):=⟨Z3f h,Z1v h,Z0g h⟩
end
theorem Z0h:∀ n,ILe (itp n) (itp (n+1)):=fun O=>match O with
 |0=>⟨fun O O=>.inl rfl,fun O O=>.inl rfl,fun O O O=>.inl rfl⟩
 |n+1=>Z6Z (Z0h n)
theorem ILe.trans{I J K}(h:ILe I J)(k:ILe J K):ILe I K:=
 ⟨fun e σ=>(h.ev e σ).elim .inl fun q=>(k.ev e σ).elim (fun q'=>.inl (q.trans q')) fun q'=>.inr (q.trans q'),
  fun e σ=>(h.exs e σ).elim .inl fun q=>(k.exs e σ).elim (fun q'=>.inl (q.trans q')) fun q'=>.inr (q.trans q'),
  fun i e σ=>(h.call i e σ).elim .inl fun q=>(k.call i e σ).elim (fun q'=>.inl (q.trans q')) fun q'=>.inr (q.trans q')⟩
theorem ILe.refl(I):ILe I I:=⟨fun O O=>.rfl,fun O O=>.rfl,fun O O O=>.inr rfl⟩
theorem Zr{m n}(h:m<=n):ILe (itp m) (itp n):=by
 induction h with
 |refl=>exact .refl _
 |step O ih=>exact ih.trans (Z0h _)
theorem Zg{m n}(h:m<=n){i}{ds}{pl pl'}{lv}(e:(itp m).call i ds pl=.ok lv pl'):(itp n).call i ds pl=.ok lv pl':=by
 rcases (Zr h).call i ds pl with q|q
 ·rw[e] at q;cases q
 ·rw[<-q];exact e
theorem Zs{α:Type}{o o':Out α}{Q:α->St->Prop}(k:OLe o o')(h:wpO o Q):wpO o' Q:=by
 rcases k with rfl|rfl
 ·exact h.elim
 ·exact h
def cnd(b:Bool)(P P':Prop):Prop:=match b with
 |true=>P
 |false=>P'
def Ze{α:Type}(o:Option α)(Q:α->Prop):Prop:=match o with
 |some a=>Q a
 |none=>False
def Uk:Nat->(Nat->Prop)->Prop:=fun O U=>match O,U with
 |0,O=>True
 |n+1,f=>Uk n f/\f n
def Zbt(lim:Int)(pl:Option Z8)(Q:LV->Option Z8->Prop):Prop:=match pl with
 |some p=>Zb p/\cnd (decide (0 < lim/\lim < 1000000)) (Uk lim.toNat fun d=>∀ p',Zb p'->Q (.fr (.int d)) (some p')) False
 |none=>False
noncomputable def code(s:Str):Nat:=s.cps.toList.foldl (fun h c=>h*1114112+c+1) 0
noncomputable def eqS(a b:Str):Bool:=cond (Nat.beq (code a) (code b)) (decide (a=b)) false
theorem Z9p(a b:Str):eqS a b=decide (a=b):=by
 unfold eqS
 by_cases h:a=b
 ·subst h;rw[Nat.beq_refl];rfl
 ·rw[decide_eq_false h];cases Nat.beq (code a) (code b)<;>rfl
noncomputable def Z70(f:Str):List (Str × Nat)->Option Nat:=fun O=>match O with
 |[]=>none
 |(n,i)::r=>cond (eqS f n) (some i) (Z70 f r)
theorem Z2C(f:Str):∀ (l:List (Str × Nat)),Z70 f l=l.lookup f:=fun O=>match O with
 |[]=>rfl
 |(n,i)::r=>by
  show cond (eqS f n) (some i) (Z70 f r)=_;rw[Z9p,List.lookup_cons,Z2C f r]
  by_cases h:f=n
  ·rw[decide_eq_true h,beq_iff_eq.mpr h];rfl
  ·rw[decide_eq_false h,beq_eq_false_iff_ne.mpr h];rfl
structure WI where
 ev:Expr->St->(R->St->Prop)->Prop
 exs:List Stmt->St->(Fl->St->Prop)->Prop
 call:Nat->List D->Option Z8->(LV->Option Z8->Prop)->Prop
structure Ask where
 c:Nat
 dr:Bool:=true
 S:Nat->List D->Option LV:=fun O O=>none
 L:List Nat:=[]
 C:Nat->Option (Zc->List D->List D × Zc):=fun O=>none
 F:Nat->Option (St->List D->List ((Nat->D)->St)):=fun O=>none
def Wb(σ:St):List ((Nat->D)->St)->Prop:=fun O=>match O with
 |[]=>False
 |τ::r=>(∃ g,σ=τ g)\/Wb σ r
def Z71(P:St->Prop):List ((Nat->D)->St)->Prop:=fun O=>match O with
 |[]=>True
 |τ::r=>(∀ g,P (τ g))/\Z71 P r
section
variable (A:Ask)(I:WI)
def V3:List Expr->St->(List D->St->Prop)->Prop:=fun O U V=>match O,U,V with
 |[],σ,Q=>Q [] σ
 |e::es,σ,Q=>I.ev e σ fun r σ=>V3 es (Zo r σ) fun ds σ=>Q (r.1.d::ds) σ
def wtr(e:Expr)(σ:St)(Q:Bool->St->Prop):Prop:=I.ev e σ fun r σ=>Ze (Zf r.1.d) fun b=>Q b σ
def Z9q:List Expr->St->(R->St->Prop)->Prop:=fun O U V=>match O,U,V with
 |[],O,U=>False
 |[e],σ,Q=>I.ev e σ Q
 |e::r,σ,Q=>I.ev e σ fun v σ=>Ze (Zf v.1.d) fun b=>cnd b (Z9q r σ Q) (Q v σ)
def wOr:List Expr->St->(R->St->Prop)->Prop:=fun O U V=>match O,U,V with
 |[],O,U=>False
 |[e],σ,Q=>I.ev e σ Q
 |e::r,σ,Q=>I.ev e σ fun v σ=>Ze (Zf v.1.d) fun b=>cnd b (Q v σ) (wOr r σ Q)
def Z9r(i:Nat)(ds:List D)(pl:Option Z8)(Q:LV->Option Z8->Prop):Prop:=
 if i=101 then Ze (two? ds) fun p=>cnd p.1.isPool (Ze p.2.i? fun lim=>cnd A.dr (Zbt lim pl Q) False) False
 else match A.S i ds with
  |some lv=>(itp A.c).call i ds pl=.ok lv pl/\Q lv pl
  |none=>I.call i ds pl Q
def wFn(f:Str)(ds:List D)(σ:St)(Q:R->St->Prop):Prop:=
 match Z70 f W4 with
 |some i=>Z9r A I i ds σ.pl fun lv pl=>Q (lv,none) {σ with pl:=pl}
 |none=>cnd (bltNames.contains f) (Ze (blt f ds) fun lv=>Q (lv,none) σ) False
def Z9s(args:List Expr)(σ:St)(Q:R->St->Prop):Prop:=
 match av args with
 |.isi e c O=>I.ev e σ fun r σ=>Ze (Vp r.1.d c) fun b=>Q (.fr (.bool b),none) σ
 |O=>False
def Z9t(args:List Expr)(σ:St)(Q:R->St->Prop):Prop:=
 match av args with
 |.one e=>I.ev e σ fun r σ=>Ze (Z9a r.1.d) fun n=>Q (.fr (.int n),none) σ
 |O=>False
def Z1w(f:Str)(args:List Expr)(σ:St)(Q:R->St->Prop):Prop:=
 if f="isinstance" then Z9s I args σ Q
 else if f="len" then Z9t I args σ Q
 else V3 I args σ fun ds σ=>wFn A I f ds σ Q
def Z72(o i:Expr)(op:St->D->D->Option LV)(σ:St)(Q:R->St->Prop):Prop:=
 I.ev o σ fun r σ=>I.ev i σ fun k σ=>Ze (op σ r.1.d k.1.d) fun lv=>Q (lv,none) σ
noncomputable def Z9u:D->Option Int:=fun O=>match O with
 |.int x=>some x
 |O=>none
noncomputable def Z9v(op:Operator)(x y:Int):Option (Bool × Int):=match op with
 |.Add=>some (true,x+y)
 |.Sub=>some (true,x - y)
 |.Mult=>some (decide (x.natAbs < 2 ^ 200/\y.natAbs < 2 ^ 200),x*y)
 |.FloorDiv=>some (decide (0 < y/\y < 1000000),x.fdiv y)
 |.Mod=>some (decide (0 < y),x.fmod y)
 |O=>none
def Z8H(l:Expr)(op:Operator)(r:Expr)(σ:St)(Q:R->St->Prop):Prop:=
 I.ev l σ fun a σ=>I.ev r σ fun b σ=>Ze (Z9u a.1.d) fun x=>Ze (Z9u b.1.d) fun y=>Ze (Z9v op x y) fun g=>cnd g.1 (Q (.fr (.int g.2),none) σ) False
def Z73:List Expr->St->(Bool->St->Prop)->Prop:=fun O U V=>match O,U,V with
 |[],σ,Q=>Q true σ
 |[e],σ,Q=>wtr I e σ Q
 |O,U,V=>False
def Kx(t:Expr)(ifs:List Expr)(elt:Expr):List D->St->(List D->St->Prop)->Prop:=fun O U V=>match O,U,V with
 |[],σ,Q=>Q [] σ
 |x::xs,σ,Q=>wpO (Zl t x σ) fun O σ=>Z73 I ifs σ fun b σ=>
   cnd b (I.ev elt σ fun r σ=>Kx t ifs elt xs (Zo r σ) fun ds σ=>Q (r.1.d::ds) σ) (Kx t ifs elt xs σ Q)
def cQ(σ:St)(xs:List D)(f:Zc->List D->List D × Zc)(ds:List D)(τ:St):Prop:=ds=(f σ.vars xs).1/\τ.up=(f σ.vars xs).2/\τ.pl=σ.pl
def cK(σ:St)(xs:List D)(f:Zc->List D->List D × Zc)(Q:R->St->Prop):Prop:=(f σ.vars xs).1.length<=LIM/\Q (.ol (f σ.vars xs).1,none) ⟨(f σ.vars xs).2,[],[],σ.pl⟩
def Ky(elt t:Expr)(ifs:List Expr)(p:Pos)(xs:List D)(σ:St)(Q:R->St->Prop):Prop:=
 match σ.up with
 |[]=>match A.C p.line with
  |some f=>wpO (Zh (itp A.c) t ifs elt xs ⟨[],σ.vars,ZE t,σ.pl⟩) (cQ σ xs f)/\cK σ xs f Q
  |none=>if A.L.contains p.line then wpO (Zh (itp A.c) t ifs elt xs ⟨[],σ.vars,ZE t,σ.pl⟩) fun ds σ=>ds.length<=LIM/\Q (.ol ds,none) ⟨σ.up,[],[],σ.pl⟩
  else Kx I t ifs elt xs ⟨[],σ.vars,ZE t,σ.pl⟩ fun ds σ=>cnd (decide (ds.length<=LIM)) (Q (.ol ds,none) ⟨σ.up,[],[],σ.pl⟩) False
 |O::U=>False
def Kz(elt t t2 it2:Expr)(p:Pos)(xs:List D)(σ:St)(Q:R->St->Prop):Prop:=
 match σ.up with
 |[]=>match A.C p.line with
  |some f=>wpO (YB (itp A.c) t t2 it2 elt xs ⟨[],σ.vars,ZE t++ZE t2,σ.pl⟩) (cQ σ xs f)/\xs.length<=10/\cK σ xs f Q
  |none=>False
 |O::U=>False
def Z4E(elt:Expr)(gens:List Comprehension)(p:Pos)(σ:St)(Q:R->St->Prop):Prop:=
 match gv gens with
 |.one t it ifs=>I.ev it σ fun r σ=>Ze (YD r.1.d) fun xs=>Ky A I elt t ifs p xs (Zo r σ) Q
 |.two t it t2 it2=>I.ev it σ fun r σ=>Ze (YD r.1.d) fun xs=>Kz A elt t t2 it2 p xs (Zo r σ) Q
 |.bad O=>False
def Z4F:List (Option Expr)->List Expr->St->(List (Str × D)->St->Prop)->Prop:=fun O U V O1=>match O,U,V,O1 with
 |[],[],σ,Q=>Q [] σ
 |k::ks,e::es,σ,Q=>Ze (Z9f k) fun k=>I.ev e σ fun r σ=>Z4F ks es (Zo r σ) fun kvs σ=>Q ((k,r.1.d)::kvs) σ
 |O,U,V,O1=>False
def wEV{e:Expr}(v:EV e)(σ:St)(Q:R->St->Prop):Prop:=by
 induction v with
 |con c O U=>exact Ze (Kq c) fun d=>Q (.fr d,none) σ
 |nam x O=>exact wpO (X7 x σ) Q
 |and es O=>exact Z9q I es σ Q
 |or es O=>exact wOr I es σ Q
 |bin l op r O=>exact cond A.dr (Z72 I l r (fun O=>XA op) σ Q) (Z8H I l op r σ Q)
 |not e O=>exact wtr I e σ fun b σ=>Q (.fr (.bool (!b)),none) σ
 |neg e O=>exact Ze (Z9h e) fun i=>Q (.fr (.int i),none) σ
 |ite t a b O=>exact wtr I t σ fun c σ=>cnd c (I.ev a σ Q) (I.ev b σ Q)
 |dict ks es O=>exact Z4F I ks es σ fun kvs σ=>cnd (decide ((kvs.map (fun O=>O.1)).Nodup/\kvs.length<=10)) (Q (.od kvs,none) σ) False
 |comp elt gens O p=>exact Z4E A I elt gens p σ Q
 |cmp l op r O=>exact I.ev l σ fun a σ=>I.ev r σ fun b σ=>Ze (YT σ op a.1.d b.1.d) fun b=>Q (.fr (.bool b),none) σ
 |cal f O args U=>exact Z1w A I f args σ Q
 |met o m O args U=>exact I.ev o σ fun r σ=>cnd (W9 m r.1.d) (V3 I args σ fun ds σ=>wpO (W8 m r.1.d ds σ) Q) False
 |atr o x O=>exact if x="attrs" then I.ev o σ fun r σ=>Ze (WO (.fr r.1.d) x) fun d=>Q (.fr d,none) (Zo r σ) else I.ev o σ fun r σ=>Ze (WO r.1 x) fun d=>Q (.fr d,none) σ
 |to o e O U=>exact Z72 I o e (fun O=>Z1p) σ Q
 |«from» o e _ _=>exact Z72 I o e (fun O=>Z1q) σ Q
 |rev o=>exact I.ev o σ fun r σ=>Ze (Z2y r.1.d) fun lv=>Q (lv,none) σ
 |sub o i O U=>exact I.ev o σ fun r σ=>I.ev i σ fun k σ=>Ze (Xg r.1.d k.1.d σ) fun d=>Q (.fr d,none) σ
 |list es O=>exact V3 I es σ fun ds σ=>cnd (decide (ds.length<=LIM)) (Q (.ol ds,none) σ) False
 |tup es O U=>exact V3 I es σ fun ds σ=>cnd (decide (ds.length<=LIM)) (Q (.fr (.tup ds),none) σ) False
 |bad O=>exact False
def wEv(e:Expr)(σ:St)(Q:R->St->Prop):Prop:=wEV A I (ev1 e) σ Q
def Z74(body:List Stmt)(t:Expr):List D->St->(Fl->St->Prop)->Prop:=fun O U V=>match O,U,V with
 |[],σ,Q=>Q .next σ
 |x::xs,σ,Q=>wpO (Zl t x σ) fun O σ=>I.exs body σ fun f σ=>match f with
  |.next=>Z74 body t xs σ Q
  |.cont=>Z74 body t xs σ Q
  |.brk=>Q .next σ
  |.ret lv=>Q (.ret lv) σ
def Z75(t:Expr)(body:List Stmt):Nat->St->(Fl->St->Prop)->Prop:=fun O U V=>match O,U,V with
 |0,O,U=>False
 |k+1,σ,Q=>wtr I t σ fun b σ=>cnd b (I.exs body σ fun f σ=>match f with
   |.next=>Z75 t body k σ Q
   |.cont=>Z75 t body k σ Q
   |.brk=>Q .next σ
   |.ret lv=>Q (.ret lv) σ) (Q .next σ)
def Z9w(x m:Str)(xs ds:List D)(σ:St)(Q:Fl->St->Prop):Prop:=
 if m="append" then Ze (one? ds) fun d=>cnd (decide (xs.length < LIM)) (Q .next {σ with vars:=ZA x (.ol (xs++[d])) σ.vars}) False
 else if m="extend" then Ze (one? ds) fun d=>Ze d.l? fun ys=>cnd (decide (xs.length+ys.length<=LIM)) (Q .next {σ with vars:=ZA x (.ol (xs++ys)) σ.vars}) False
 else if m="reverse" then (match ds with
  |[]=>Q .next {σ with vars:=ZA x (.ol xs.reverse) σ.vars}
  |O::U=>False)
 else False
def Z9x(x:Str)(k d:D)(σ:St)(Q:Fl->St->Prop)(lv:LV):Prop:=match lv with
 |.ol xs=>Ze k.i? fun n=>cnd (decide (0<=n/\n < xs.length)) (Q .next {σ with vars:=ZA x (.ol (xs.set n.toNat d)) σ.vars}) False
 |.od kvs=>Ze k.s? fun s=>cnd (decide (kvs.length < LIM)) (cnd (decide (s="shared")) False (Q .next {σ with vars:=ZA x (.od (YC s d kvs)) σ.vars})) False
 |.fr v=>cnd v.isPool (Ze k.i? fun n=>Ze d.i? fun v=>Ze σ.pl fun p=>cnd (decide (n=1)) (Q .next {σ with pl:=some {p with a:=v}}) (cnd (decide (n=2)) (Q .next {σ with pl:=some {p with b:=v}}) False)) False
 |.ov O U V O1=>False
def Z2D(x:Str)(i:Expr)(d:D)(σ:St)(Q:Fl->St->Prop):Prop:=Ze (ZM x σ.vars) fun lv=>Ze (Z6V i σ) fun k=>Z9x x k d σ Q lv
def Zbu(x:Str)(op:Operator)(e:Expr)(σ:St)(Q:Fl->St->Prop):Prop:=Ze (ZM x σ.vars) fun lv=>match lv with
 |.fr d=>Ze d.i? fun a=>I.ev e σ fun r σ=>Ze (r.1.d.i?.bind (Zbq op a)) fun n=>Q .next {σ with vars:=ZA x (.fr (.int n)) σ.vars}
 |.ol O=>cnd (decide (op=.Add)) (I.ev e σ fun r σ=>Ze (Uf x (Zo r σ)) fun xs=>Ze r.1.d.l? fun ys=>cnd (decide (xs.length+ys.length<=LIM)) (Q .next {Zo r σ with vars:=ZA x (.ol (xs++ys)) (Zo r σ).vars}) False) False
 |.od O=>False
 |.ov O U V O1=>False
def ZcN(x:Str)(r:R)(σ:St)(Q:Fl->St->Prop):Prop:=match r.2 with
 |none=>Q .next {σ with vars:=ZA x r.1 σ.vars}
 |some O=>Q .next {Zo r σ with vars:=ZA x (.fr r.1.d) (Zo r σ).vars}
def Z4G(x a:Str)(e:Expr)(σ:St)(Q:Fl->St->Prop):Prop:=
 if a="attrs" then I.ev e σ fun r σ=>Ze ((ZM x σ.vars).bind LV.v0?) fun p=>Ze (rk? r) fun kvs=>Q .next {σ with vars:=ZA x (.ov p.1 p.2 (.dict kvs) true) σ.vars}
 else if a="shared" then Ze ((ZM x σ.vars).bind fun v=>v.fr?.bind D.v?) fun O=>Ze ((Kr (bv e)).bind ct?) fun O=>Q .next σ
 else False
def Z4H(x a:Str)(i e:Expr)(σ:St)(Q:Fl->St->Prop):Prop:=
 if a="attrs" then I.ev e σ fun r σ=>Ze ((ZM x (Zo r σ).vars).bind LV.v1?) fun p=>Ze ((Kr (bv i)).bind cs?) fun s=>cnd (decide (p.2.2.length < LIM/\s≠"shared")) (Q .next {Zo r σ with vars:=ZA x (.ov p.1 p.2.1 (.dict (YC s r.1.d p.2.2)) true) (Zo r σ).vars}) False
 else False
def Z4I(t:Expr)(body:List Stmt)(p:Pos)(xs:List D)(σ:St)(Q:Fl->St->Prop):Prop:=
 match A.F p.line with
 |some f=>wpO (ZJ ((itp A.c).exs body) t xs σ) (fun g τ=>g=.next/\Wb τ (f σ xs))/\Z71 (fun τ=>Q .next τ) (f σ xs)
 |none=>if A.L.contains p.line then wpO (ZJ ((itp A.c).exs body) t xs σ) Q else Z74 I body t xs σ Q
def Z4J(t:Expr)(body:List Stmt)(p:Pos)(σ:St)(Q:Fl->St->Prop):Prop:=
 match A.F p.line with
 |some f=>wpO (whl (tr (itp A.c) t) ((itp A.c).exs body) 64 σ) (fun g τ=>g=.next/\Wb τ (f σ []))/\Z71 (fun τ=>Q .next τ) (f σ [])
 |none=>if A.L.contains p.line then wpO (whl (tr (itp A.c) t) ((itp A.c).exs body) 64 σ) Q else Z75 I t body 64 σ Q
def Z8I(x m:Str)(args:List Expr)(σ:St)(Q:Fl->St->Prop):Prop:=Ze (Uf x σ) fun O=>cnd (Z4w m) (V3 I args σ fun ds σ=>Ze (Uf x σ) fun xs=>Z9w x m xs ds σ Q) False
def wSV{s:Stmt}(v:SV s)(σ:St)(Q:Fl->St->Prop):Prop:=by
 induction v with
 |ret0 O=>exact Q (.ret (.fr .none)) σ
 |retI t a b O U=>exact wtr I t σ fun c σ=>cnd c (I.ev a σ fun r σ=>Q (.ret r.1) σ) (I.ev b σ fun r σ=>Q (.ret r.1) σ)
 |ret e O=>exact I.ev e σ fun r σ=>Q (.ret r.1) σ
 |asgL x O es U V=>exact if x="pool" then False else V3 I es σ fun ds σ=>cnd (decide (ds.length<=LIM)) (Q .next {σ with vars:=ZA x (.ol ds) σ.vars}) False
 |asgN x O e U=>exact I.ev e σ fun r σ=>ZcN x r σ Q
 |asgT ts k p e O U=>exact I.ev e σ fun r σ=>wpO (Zl (.Tuple ts k p) r.1.d (Zo r σ)) fun O σ=>Q .next σ
 |asgS x O i U e V=>exact I.ev e σ fun r σ=>Z2D x i r.1.d (Zo r σ) Q
 |asgA x O a U e V=>exact Z4G I x a e σ Q
 |asgB x O a U i V e O1=>exact Z4H I x a i e σ Q
 |aug x O op e U=>exact Zbu I x op e σ Q
 |«for» t it body p=>exact I.ev it σ fun r σ=>Ze (YD r.1.d) fun xs=>Z4I A I t body p xs (Zo r σ) Q
 |whl t body p=>exact Z4J A I t body p σ Q
 |ite t a b O=>exact wtr I t σ fun c σ=>cnd c (I.exs a σ Q) (I.exs b σ Q)
 |«mut» x O m U args V O1=>exact Z8I I x m args σ Q
 |pass O=>exact Q .next σ
 |cont O=>exact Q .cont σ
 |rai=>exact False
 |«try»=>exact False
 |bad O=>exact False
def Z4K(s:Stmt)(σ:St)(Q:Fl->St->Prop):Prop:=wSV A I (sv s) σ Q
def fcV:Zc->(Zc->Prop)->Prop:=fun O U=>match O,U with
 |[],K=>K []
 |(x,lv)::r,K=>fcV r fun r'=>K ((x,lv)::r')
def Vr(σ:St)(K:St->Prop):Prop:=match σ with
 |⟨vs,up,loc,pl⟩=>fcV vs fun vs'=>K ⟨vs',up,loc,pl⟩
def Z9y:List Stmt->St->(Fl->St->Prop)->Prop:=fun O U V=>match O,U,V with
 |[],σ,Q=>Q .next σ
 |s::r,σ,Q=>Z4K A I s σ fun f σ=>match f with
  |.next=>Vr σ fun σ=>Z9y r σ Q
  |f=>Q f σ
def Z4L(i:Nat)(ds:List D)(pl:Option Z8)(Q:LV->Option Z8->Prop):Prop:=
 match fn i with
 |some F=>if F.params.length=ds.length then
   I.exs F.body ⟨YU F.params ds [],[],[],pl⟩ fun f σ=>match f with
    |.ret lv=>Q lv σ.pl
    |.next=>Q (.fr .none) σ.pl
    |O=>False
  else False
 |none=>False
noncomputable def Z8J:WI:=⟨wEv A I,Z9y A I,Z4L I⟩
end
noncomputable def W(A:Ask):Nat->WI:=fun O=>match O with
 |0=>⟨fun O O O=>False,fun O O O=>False,fun O O O O=>False⟩
 |n+1=>Z8J A (W A n)
def U1:Prop:=∀ lim,0 < lim/\lim < 1000000->∀ p,Zb p->∃ d p',(itp 20).call 101 [.pool,.int lim] (some p)=.ok (.fr (.int d)) (some p')/\Zb p'/\0<=d/\d < lim
structure WOk(I:WI)(J:Itp):Prop where
 ev:∀ {e σ Q},I.ev e σ Q->wpO (J.ev e σ) Q
 exs:∀ {b σ Q},I.exs b σ Q->wpO (J.exs b σ) Q
 call:∀ {i ds pl Q},I.call i ds pl Q->∃ lv pl',J.call i ds pl=.ok lv pl'/\Q lv pl'
theorem Yp{b}{P}(h:cnd b P False):b=true/\P:=by
 cases b
 ·exact h.elim
 ·exact ⟨rfl,h⟩
theorem ZW{p} [Decidable p] {P} (h:cnd (decide p) P False):p/\P:=⟨of_decide_eq_true (Yp h).1,(Yp h).2⟩
theorem Z4M{p} [Decidable p] {P} (h:cnd (decide p) False P):¬ p/\P:=by
 by_cases hp:p
 ·rw[decide_eq_true hp] at h;exact h.elim
 ·rw[decide_eq_false hp] at h;exact ⟨hp,h⟩
theorem Z9{α:Type}{o:Option α}{Q:α->Prop}(h:Ze o Q):∃ a,o=some a/\Q a:=by
 induction o with
 |none=>exact h.elim
 |some a=>exact ⟨a,rfl,h⟩
theorem Yk{α β:Type}{o:Option α}{σ}{f:α->St->Out β}{Q:β->St->Prop}(h:Ze o fun a=>wpO (f a σ) Q):wpO ((opt o σ).bind f) Q:=by
 obtain ⟨a,rfl,h⟩:=Z9 h
 exact h
theorem Ul{P}{σ}:∀ {l:List ((Nat->D)->St)},Wb σ l->Z71 P l->P σ
 |[],h,O=>h.elim
 |O::U,.inl ⟨g,e⟩,k=>e▸k.1 g
 |O::U,.inr h,k=>Ul h k.2
theorem Z0i{f}:∀ {n:Nat},Uk n f->∀ d,d < n->f d
 |n+1,h,d,hd=>by
  by_cases e:d=n
  ·subst e;exact h.2
  ·exact Z0i h.1 d (by lia)
section
variable {A:Ask}{I:WI}{J:Itp}(h:WOk I J)(hl:ILe (itp A.c) J)(hc:A.dr=true->20<=A.c/\U1)
include h
theorem XC(es):∀ {σ:St} {Q:List D->St->Prop},V3 I es σ Q->wpO (Y3 J es σ) Q:=by
 induction es with
 |nil=>intro O O q;exact q
 |cons e es ih=>
  intro O O q
  exact Z1 (Xj (Z0 (h.ev q) fun r σ q=>Z1 (Z0 (ih q) fun O O q=>q)))
theorem WQ{e}{σ}{Q}(q:wtr I e σ Q):wpO (tr J e σ) Q:=Z1 (Z0 (h.ev q) fun r σ q=>by obtain ⟨a,e,q⟩:=Z9 q;exact Zq e q)
theorem Z2E:∀ (es:List Expr) {σ:St} {Q:R->St->Prop},Z9q I es σ Q->wpO (Xh J es σ) Q:=fun O U V O1=>match O,U,V,O1 with
 |[],O,U,q=>q.elim
 |[e],O,U,q=>h.ev q
 |e::e'::r,O,U,q=>Z1 (Z0 (h.ev q) fun v σ q=>by
   obtain ⟨b,e,q⟩:=Z9 q
   refine Z1 (Zq e ?_)
   cases b
   ·exact q
   ·exact Z2E (e'::r) q)
theorem Z4N:∀ (es:List Expr) {σ:St} {Q:R->St->Prop},wOr I es σ Q->wpO (V2 J es σ) Q:=fun O U V O1=>match O,U,V,O1 with
 |[],O,U,q=>q.elim
 |[e],O,U,q=>h.ev q
 |e::e'::r,O,U,q=>Z1 (Z0 (h.ev q) fun v σ q=>by
   obtain ⟨b,e,q⟩:=Z9 q
   refine Z1 (Zq e ?_)
   cases b
   ·exact Z4N (e'::r) q
   ·exact q)
include hl hc
theorem Z76{i}{ds}{pl}{Q}(q:Z9r A I i ds pl Q):∃ lv pl',J.call i ds pl=.ok lv pl'/\Q lv pl':=by
 unfold Z9r at q
 by_cases e:i=101
 ·rw[if_pos e] at q
  subst e
  obtain ⟨pr,e1,q1⟩:=Z9 q
  obtain ⟨e2,q2⟩:=Yp q1
  obtain ⟨lim,e3,q3⟩:=Z9 q2
  clear q q1 q2
  obtain rfl:=two?_of e1
  rw[D.isPool_of e2,D.i?_of e3]
  obtain ⟨hD,q⟩:=Yp q3
  obtain ⟨hc,hdr⟩:=hc hD
  induction pl with
  |none=>exact q.elim
  |some p=>
   refine gG fun G gk=>?_
   obtain ⟨hp,q⟩:=q
   obtain ⟨hlim,q⟩:=ZW q
   obtain ⟨d,p',e,hp',h0,h1⟩:=hdr lim hlim p hp
   refine gk ?_
   have e':=Zg hc e
   refine ⟨.fr (.int d),some p',?_,?_⟩
   ·rcases hl.call 101 [.pool,.int lim] (some p) with k|k
    ·rw[e'] at k;exact nomatch k
    ·rw[<-k];exact e'
   ·have:=Z0i q d.toNat (by lia) p' hp'
    rwa [Int.toNat_of_nonneg h0] at this
 ·rw[if_neg e] at q
  generalize A.S i ds=w at q
  cases w with
  |some lv=>
   refine ⟨_,_,?_,q.2⟩
   rcases hl.call i ds pl with k|k
   ·rw[q.1] at k;exact nomatch k
   ·rw[<-k];exact q.1
  |none=>exact h.call q
theorem ZcB{f}{i}(e:W4.lookup f=some i):VU f=true:=by unfold VU;rw[e];rfl
theorem Z4O{f}{ds}{σ}{Q}(q:wFn A I f ds σ Q):VU f=true/\wpO (X8 J f ds σ) Q:=by
 unfold wFn at q
 rw[Z2C] at q
 cases e:W4.lookup f with
 |some i=>
  rw[e] at q
  refine ⟨by unfold VU;rw[e];rfl,?_⟩
  obtain ⟨lv,pl',e1,q⟩:=Z76 h hl hc q
  unfold X8
  rw[e]
  show wpO (Wa J i ds σ) Q
  unfold Wa
  rw[e1]
  exact q
 |none=>
  rw[e] at q
  obtain ⟨hb,q⟩:=Yp q
  refine ⟨by unfold VU;rw[hb,Bool.or_true],?_⟩
  unfold X8
  rw[e]
  refine gG fun G gk=>?_
  obtain ⟨lv,e1,q⟩:=Z9 q
  refine gk ?_
  exact Z1 (Zq e1 q)
theorem Z4P{f}{ds}{σ}{Q}(q:wFn A I f ds σ Q):VU f=true:=(Z4O h hl hc q).1
end
theorem Z4Q:∀ (vs:Zc) (K:Zc->Prop),fcV vs K=K vs:=fun O U=>match O,U with
 |[],O=>rfl
 |(x,lv)::r,K=>Z4Q r _
theorem Vs(σ)(K):Vr σ K=K σ:=Z4Q _ _
theorem Z4R{α:Type}{o:Out α}{P}(h:wpO o fun O O=>P):P:=by
 induction o with
 |ok O U=>exact h
 |exc O U=>exact h.elim
 |stuck=>exact h.elim
section
variable {A:Ask}{I:WI}{J:Itp}(h:WOk I J)(hl:ILe (itp A.c) J)(hc:A.dr=true->20<=A.c/\U1)
include h hl hc
theorem Z77{args}{σ}{Q}(q:Z9s I args σ Q):wpO (Ud J args σ) Q:=by
 unfold Z9s at q
 unfold Ud
 generalize av args=v at q ⊢
 induction v with
 |isi=>exact Z1 (Z0 (h.ev q) fun r σ q=>Yk q)
 |_=>exact q.elim
theorem Z78{args}{σ}{Q}(q:Z9t I args σ Q):wpO (Ue J args σ) Q:=by
 unfold Z9t at q
 unfold Ue
 generalize av args=v at q ⊢
 induction v with
 |one=>exact Z1 (Z0 (h.ev q) fun r σ q=>Yk q)
 |_=>exact q.elim
theorem Z3j{f}{args}{σ}{Q}(q:Z1w A I f args σ Q):wpO (XK J f args σ) Q:=by
 unfold Z1w at q
 unfold XK
 by_cases e1:f="isinstance"
 ·rw[if_pos e1] at q ⊢;exact Z77 h hl hc q
 rw[if_neg e1] at q ⊢
 by_cases e2:f="len"
 ·rw[if_pos e2] at q ⊢;exact Z78 h hl hc q
 rw[if_neg e2] at q ⊢
 have k:=XC h args q
 rw[if_pos (Z4R (Z0 k fun ds σ q=>Z4P h hl hc q))]
 exact Z1 (Z0 k fun ds σ q=>(Z4O h hl hc q).2)
theorem KC{o i}{op}{σ}{Q}(q:Z72 I o i op σ Q):wpO ((J.ev o σ).bind fun r σ=>(J.ev i σ).bind fun k σ=>(opt (op σ r.1.d k.1.d) σ).bind fun lv σ=>.ok (lv,none) σ) Q:=
 Z1 (Z0 (h.ev q) fun r σ q=>Z1 (Z0 (h.ev q) fun k σ q=>Yk q))
omit h hl hc in
theorem Z79{op}{x y z}(e:Z9v op x y=some (true,z)):XA op (.int x) (.int y)=some (.fr (.int z)):=by
 unfold Z9v at e
 cases op<;>first|(cases e;done)|skip
 ·cases e;rfl
 ·cases e;rfl
 ·injection e with e;injection e with e1 e2;subst e2;exact if_pos (of_decide_eq_true e1)
 ·injection e with e;injection e with e1 e2;subst e2;exact if_pos (of_decide_eq_true e1)
 ·injection e with e;injection e with e1 e2;subst e2;exact if_pos (of_decide_eq_true e1)
omit h hl hc in
theorem Z2F{d}{x}(e:Z9u d=some x):d=.int x:=by cases d<;>cases e;rfl
theorem Z4S{l r}{op}{σ}{Q}(q:Z8H I l op r σ Q):wpO (Z8z J l op r σ) Q:=by
 refine Z1 (Z0 (h.ev q) fun a σ q=>Z1 (Z0 (h.ev q) fun b σ q=>?_))
 refine gG fun G gk=>?_
 obtain ⟨x,e1,q⟩:=Z9 q
 obtain ⟨y,e2,q⟩:=Z9 q
 obtain ⟨⟨g,z⟩,e3,q⟩:=Z9 q
 obtain ⟨rfl,q⟩:=Yp (b:=g) q
 refine gk ?_
 rw[Z2F e1,Z2F e2,Z79 e3]
 exact q
theorem Z2G:∀ {es:List Expr} {σ:St} {Q:Bool->St->Prop},Z73 I es σ Q->wpO (X9 J es σ) Q
 |[],O,U,q=>q
 |[e],O,U,q=>WQ h q
 |O::U::V,O1,O2,q=>q.elim
theorem Z3k(t)(ifs)(elt)(xs):∀ {σ:St} {Q:List D->St->Prop},Kx I t ifs elt xs σ Q->wpO (Zh J t ifs elt xs σ) Q:=by
 induction xs with
 |nil=>intro O O q;exact q
 |cons x xs ih=>
  intro O O q
  exact Z1 (Z0 q fun O σ q=>Z1 (Z0 (Z2G h hl hc q) fun b σ q=>by
   cases b
   ·exact ih q
   ·exact Z1 (Xj (Z0 (h.ev q) fun r σ q=>Z1 (Z0 (ih q) fun O O q=>q)))))
omit h hl hc in
theorem XD{o}{Q}(k:wpO o fun ds σ=>ds.length<=LIM/\Q (.ol ds,none) ⟨σ.up,[],[],σ.pl⟩):wpO (Yy o) Q:=by
 induction o with
 |ok ds σ=>show wpO (if _ then _ else _) Q;rw[if_pos k.1];exact k.2
 |exc=>exact k.elim
 |stuck=>exact k.elim
theorem Z8K{xs}{σ}{f}{o}{Q}(k:wpO o (cQ σ xs f))(q:cK σ xs f Q):wpO (Yy o) Q:=
 XD (Z0 k fun ds τ k=>by rw[k.1,k.2.1,k.2.2];exact q)
theorem Z1x{elt t}{ifs}{p}{xs}{σ}{Q}(q:Ky A I elt t ifs p xs σ Q):wpO (match σ.up with
  |[]=>Yy (Zh J t ifs elt xs ⟨[],σ.vars,ZE t,σ.pl⟩)
  |O=>.stuck) Q:=by
 unfold Ky at q
 cases hu:σ.up with
 |cons O U=>rw[hu] at q;exact q.elim
 |nil=>
 rw[hu] at q
 generalize A.C p.line=ww at q
 cases ww with
 |some f=>exact Z8K h hl hc (Zs (Yj hl _ _ _ _ _) q.1) q.2
 |none=>
  dsimp only at q ⊢
  split at q
  ·exact XD (Zs (Yj hl _ _ _ _ _) q)
  ·exact XD (Z0 (Z3k h hl hc _ _ _ _ q) fun ds σ q=>ZW q)
theorem Z1y{elt t t2 it2}{p}{xs}{σ}{Q}(q:Kz A elt t t2 it2 p xs σ Q):wpO (match σ.up with
  |[]=>Yy (if xs.length<=10 then YB J t t2 it2 elt xs ⟨[],σ.vars,ZE t++ZE t2,σ.pl⟩ else .stuck)
  |O=>.stuck) Q:=by
 unfold Kz at q
 cases hu:σ.up with
 |cons O U=>rw[hu] at q;exact q.elim
 |nil=>
 rw[hu] at q
 generalize A.C p.line=ww at q
 induction ww with
 |some f=>dsimp only;rw[if_pos q.2.1];exact Z8K h hl hc (Zs (Ui hl _ _ _ _ _ _) q.1) q.2.2
 |none=>exact q.elim
theorem Z4T{elt}{gens}{p}{σ}{Q}(q:Z4E A I elt gens p σ Q):wpO (Xq J elt gens σ) Q:=by
 unfold Z4E at q
 unfold Xq
 generalize gv gens=v at q ⊢
 induction v with
 |bad=>exact q.elim
 |one t it ifs=>exact Z1 (Xj (Z0 (h.ev q) fun r σ q=>let ⟨xs,e1,q⟩:=Z9 q;Z1 (Zq e1 (Z1x h hl hc q))))
 |two t it t2 it2=>exact Z1 (Xj (Z0 (h.ev q) fun r σ q=>let ⟨xs,e1,q⟩:=Z9 q;Z1 (Zq e1 (Z1y h hl hc q))))
theorem Z0j:∀ (ks:List (Option Expr)) (es:List Expr) {σ:St} {Q:List (Str × D)->St->Prop},Z4F I ks es σ Q->wpO (WP J ks es σ) Q:=fun O U V O1 O2=>match O,U,V,O1,O2 with
 |[],[],O,U,q=>q
 |[],O::U,V,O1,q=>q.elim
 |O::U,[],V,O1,q=>q.elim
 |k::ks,e::es,O,U,q=>let ⟨_,e1,q⟩:=Z9 q;Z1 (Zq e1 (Z1 (Xj (Z0 (h.ev q) fun r σ q=>Z1 (Z0 (Z0j ks es q) fun O O q=>q)))))
theorem Z4U{ds:List D}{σ:St}{lv:LV}{Q:R->St->Prop}(q:cnd (decide (ds.length<=LIM)) (Q (lv,none) σ) False):wpO (if ds.length<=LIM then (.ok (lv,none) σ:Out R) else .stuck) Q:=by rw[if_pos (ZW q).1];exact (ZW q).2
theorem Z9z{e:Expr}{σ:St}{Q:R->St->Prop}(q:wEv A I e σ Q):wpO (XM J e σ) Q:=by
 unfold wEv at q
 unfold XM
 generalize ev1 e=v at q ⊢
 induction v with
 |con=>exact Yk q
 |nam=>exact q
 |and=>exact Z2E h _ q
 |or=>exact Z4N h _ q
 |bin l op r p=>
  cases hd:A.dr with
  |true=>have q:=(show cond A.dr _ _ from q);rw[hd] at q;exact KC h hl hc q
  |false=>have q:=(show cond A.dr _ _ from q);rw[hd] at q;exact Z4S h hl hc q
 |not=>exact Z1 (Z0 (WQ h q) fun O O q=>q)
 |neg=>exact Yk q
 |ite=>
  refine Z1 (Z0 (WQ h q) fun c σ q=>?_)
  cases c
  ·exact h.ev q
  ·exact h.ev q
 |dict=>exact Z1 (Z0 (Z0j h hl hc _ _ q) fun kvs σ q=>by rw[if_pos (ZW q).1];exact (ZW q).2)
 |comp=>exact Z4T h hl hc q
 |cmp=>exact Z1 (Z0 (h.ev q) fun a σ q=>Z1 (Z0 (h.ev q) fun b σ q=>Yk q))
 |cal=>exact Z3j h hl hc q
 |met=>
  refine Z1 (Z0 (h.ev q) fun r σ q=>?_)
  obtain ⟨hm,q⟩:=Yp q
  rw[if_pos hm]
  exact Z1 (Zq rfl (Z1 (XC h _ q)))
 |atr o x p=>
  show wpO (Z4v J o x σ) Q
  unfold Z4v
  by_cases e:x="attrs"
  ·rw[if_pos e]
   have q:=(show (if x="attrs" then _ else _:Prop) from q);rw[if_pos e] at q
   exact Z1 (Xj (Z0 (h.ev q) fun r σ q=>Yk q))
  ·rw[if_neg e]
   have q:=(show (if x="attrs" then _ else _:Prop) from q);rw[if_neg e] at q
   exact Z1 (Z0 (h.ev q) fun r σ q=>Yk q)
 |to=>exact KC h hl hc q
 |«from»=>exact KC h hl hc q
 |rev=>exact Z1 (Z0 (h.ev q) fun r σ q=>Yk q)
 |sub=>exact Z1 (Z0 (h.ev q) fun a σ q=>Z1 (Z0 (h.ev q) fun b σ q=>Yk q))
 |list=>exact Z1 (Z0 (XC h _ q) fun ds σ q=>Z4U h hl hc q)
 |tup=>exact Z1 (Z0 (XC h _ q) fun ds σ q=>Z4U h hl hc q)
 |bad=>exact q.elim
theorem Z7a{body}{t}(xs):∀ {σ:St} {Q:Fl->St->Prop},Z74 I body t xs σ Q->wpO (ZJ (J.exs body) t xs σ) Q:=by
 induction xs with
 |nil=>intro O O q;exact q
 |cons x xs ih=>
  intro O O q
  exact Z1 (Z0 q fun O σ q=>Z1 (Z0 (h.exs q) fun f σ q=>by
   cases f
   ·exact ih q
   ·exact q
   ·exact ih q
   ·exact q))
theorem KD{t}{body}:∀ (n:Nat) {σ:St} {Q:Fl->St->Prop},Z75 I t body n σ Q->wpO (whl (tr J t) (J.exs body) n σ) Q:=fun O U V O1=>match O,U,V,O1 with
 |0,O,U,q=>q.elim
 |n+1,O,U,q=>Z1 (Z0 (WQ h q) fun b σ q=>by
   cases b
   ·exact q
   ·exact Z1 (Z0 (h.exs q) fun f σ q=>by
     cases f
     ·exact KD n q
     ·exact q
     ·exact KD n q
     ·exact q))
theorem Z1z{p} [Decidable p] {σ} {f} {Q} (q:cnd (decide p) (Q f σ) False):wpO (if p then (.ok f σ:Out Fl) else .stuck) Q:=by rw[if_pos (ZW q).1];exact (ZW q).2
theorem Z7b{x}{op}{e}{σ}{Q}(q:Zbu I x op e σ Q):wpO (Z0e J x op e σ) Q:=by
 obtain ⟨lv,e1,q⟩:=Z9 q
 refine Z1 (Zq e1 ?_)
 induction lv with
 |fr d=>
  obtain ⟨a,e2,q⟩:=Z9 q
  exact Z1 (Zq e2 (Z1 (Z0 (h.ev q) fun r σ q=>Yk q)))
 |ol xs0=>
  obtain ⟨ho,q⟩:=ZW q
  subst ho
  refine Z1 (Xj (Z0 (h.ev q) fun r σ q=>?_))
  obtain ⟨xs,e2,q⟩:=Z9 q
  obtain ⟨ys,e3,q⟩:=Z9 q
  exact Z1 (Zq e2 (Z1 (Zq e3 (Z1z h hl hc q))))
 |od=>exact q.elim
 |ov=>exact q.elim
theorem Z7c{x m}{xs ds}{σ}{Q}(q:Z9w x m xs ds σ Q):∃ ys,Z2A m xs ds=some ys/\Q .next {σ with vars:=ZA x (.ol ys) σ.vars}:=by
 unfold Z9w at q
 unfold Z2A
 by_cases e1:m="append"
 ·rw[if_pos e1] at q ⊢
  refine gG fun G gk=>?_
  obtain ⟨d,e,q⟩:=Z9 q
  refine gk ?_
  exact ⟨_,by unfold Z9k;rw[e];exact if_pos (ZW q).1,(ZW q).2⟩
 rw[if_neg e1] at q ⊢
 by_cases e2:m="extend"
 ·rw[if_pos e2] at q ⊢
  refine gG fun G gk=>?_
  obtain ⟨d,e,q⟩:=Z9 q
  obtain ⟨ys,e',q⟩:=Z9 q
  refine gk ?_
  exact ⟨_,by unfold Z9l;rw[e];show D.l? d >>= _=_;rw[e'];exact if_pos (ZW q).1,(ZW q).2⟩
 rw[if_neg e2] at q ⊢
 by_cases e3:m="reverse"
 ·rw[if_pos e3] at q ⊢
  induction ds with
  |nil=>exact ⟨_,rfl,q⟩
  |cons O U=>exact q.elim
 ·rw[if_neg e3] at q;exact q.elim
theorem Z1A{x}{i}{d}{σ}{Q}(q:Z2D x i d σ Q):wpO (Z8B x i d σ) Q:=by
 obtain ⟨lv,e1,q⟩:=Z9 q
 obtain ⟨k,e2,q⟩:=Z9 q
 refine Z1 (Zq e1 (Z1 (Zq e2 ?_)))
 induction lv with
 |ol xs=>obtain ⟨n,e3,q⟩:=Z9 q;exact Z1 (Zq e3 (Z1z h hl hc q))
 |od kvs=>
  obtain ⟨s,e3,q⟩:=Z9 q
  refine Z1 (Zq e3 ?_)
  obtain ⟨k1,q⟩:=ZW q
  obtain ⟨k2,q⟩:=Z4M q
  rw[if_pos ⟨k1,k2⟩];exact q
 |fr v=>
  refine gG fun G gk=>?_
  obtain ⟨hv,q⟩:=Yp q
  obtain ⟨n,e3,q⟩:=Z9 q
  obtain ⟨w,e4,q⟩:=Z9 q
  obtain ⟨p,e5,q⟩:=Z9 q
  refine gk ?_
  show wpO (if v.isPool=true then Z9j k d σ else .stuck) Q
  rw[if_pos hv]
  refine Z1 (Zq e3 (Z1 (Zq e4 (Z1 (Zq e5 ?_)))))
  by_cases h1:n=1
  ·rw[decide_eq_true h1] at q;rw[if_pos h1];exact q
  ·rw[decide_eq_false h1] at q
   rw[if_neg h1];exact Z1z h hl hc q
 |ov=>exact q.elim
theorem Z4V{x a}{e}{σ}{Q}(q:Z4G I x a e σ Q):wpO (XN J x a e σ) Q:=by
 unfold Z4G at q
 unfold XN
 by_cases e1:a="attrs"
 ·rw[if_pos e1] at q ⊢
  refine Z1 (Z0 (h.ev q) fun r σ q=>?_)
  obtain ⟨p,e2,q⟩:=Z9 q
  obtain ⟨kvs,e3,q⟩:=Z9 q
  exact Z1 (Zq e2 (Z1 (Zq e3 q)))
 rw[if_neg e1] at q ⊢
 by_cases e2:a="shared"
 ·rw[if_pos e2] at q ⊢
  obtain ⟨p,e2,q⟩:=Z9 q
  obtain ⟨kvs,e3,q⟩:=Z9 q
  exact Z1 (Zq e2 (Z1 (Zq e3 q)))
 ·rw[if_neg e2] at q;exact q.elim
theorem Z4W{x a}{i e}{σ}{Q}(q:Z4H I x a i e σ Q):wpO (Yz J x a i e σ) Q:=by
 unfold Z4H at q
 unfold Yz
 by_cases e1:a="attrs"
 ·rw[if_pos e1] at q ⊢
  refine Z1 (Xj (Z0 (h.ev q) fun r σ q=>?_))
  obtain ⟨p,e2,q⟩:=Z9 q
  obtain ⟨sk,e3,q⟩:=Z9 q
  refine Z1 (Zq e2 (Z1 (Zq e3 ?_)))
  rw[if_pos (ZW q).1];exact (ZW q).2
 ·rw[if_neg e1] at q;exact q.elim
theorem Z4X{t}{body}{p}{xs}{σ}{Q}(q:Z4I A I t body p xs σ Q):wpO (ZJ (J.exs body) t xs σ) Q:=by
 unfold Z4I at q
 generalize A.F p.line=ww at q
 induction ww with
 |some f=>exact Z0 (Zs (XO hl (hl.exs _) _ _ _) q.1) fun g τ k=>by rw[k.1];exact Ul k.2 q.2
 |none=>
  dsimp only at q
  split at q
  ·exact Zs (XO hl (hl.exs _) _ _ _) q
  ·exact Z7a h hl hc _ q
theorem Z4Y{t}{body}{p}{σ}{Q}(q:Z4J A I t body p σ Q):wpO (whl (tr J t) (J.exs body) 64 σ) Q:=by
 unfold Z4J at q
 generalize A.F p.line=ww at q
 induction ww with
 |some f=>exact Z0 (Zs (Uj hl (hl.exs _) (VH hl _) _ _) q.1) fun g τ k=>by rw[k.1];exact Ul k.2 q.2
 |none=>
  dsimp only at q
  split at q
  ·exact Zs (Uj hl (hl.exs _) (VH hl _) _ _) q
  ·exact KD h hl hc _ q
theorem Z4Z{x m}{args}{σ}{Q}(q:Z8I I x m args σ Q):wpO (Uh J x m args σ) Q:=by
 refine gG fun G gk=>?_
 obtain ⟨O,e1,q⟩:=Z9 q
 obtain ⟨hm,q⟩:=Yp q
 refine gk ?_
 refine Z1 (Zq e1 ?_)
 rw[if_pos hm]
 refine Z1 (Z0 (XC h _ q) fun ds σ q=>?_)
 obtain ⟨xs,e2,q⟩:=Z9 q
 obtain ⟨ys,e3,q⟩:=Z7c h hl hc q
 exact Z1 (Zq e2 (Z1 (Zq e3 q)))
theorem Z50{s}{σ}{Q}(q:Z4K A I s σ Q):wpO (Yd J s σ) Q:=by
 unfold Z4K at q
 unfold Yd
 generalize sv s=v at q ⊢
 induction v with
 |ret0=>exact q
 |retI=>
  refine Z1 (Z0 (WQ h q) fun c σ q=>?_)
  cases c
  ·exact Z1 (Z0 (h.ev q) fun O O q=>q)
  ·exact Z1 (Z0 (h.ev q) fun O O q=>q)
 |ret=>exact Z1 (Z0 (h.ev q) fun O O q=>q)
 |asgL x px es=>
  change (if x="pool" then False else V3 I es σ fun ds σ=>cnd (decide (ds.length<=LIM)) (Q .next {σ with vars:=ZA x (.ol ds) σ.vars}) False) at q
  show wpO (if x="pool" then Xi J x es σ else Ku J x es σ) Q
  by_cases e:x="pool"
  ·rw[if_pos e] at q;exact q.elim
  ·rw[if_neg e] at q ⊢
   exact Z1 (Z0 (XC h _ q) fun ds σ q=>by rw[if_pos (ZW q).1];exact (ZW q).2)
 |asgN=>
  refine Z1 (Z0 (h.ev q) fun r σ q=>?_)
  obtain ⟨lv,o⟩:=r
  cases o<;>exact q
 |asgT=>exact Z1 (Xj (Z0 (h.ev q) fun r σ q=>Z1 (Z0 q fun O O q=>q)))
 |asgS=>exact Z1 (Xj (Z0 (h.ev q) fun r σ q=>Z1A h hl hc q))
 |asgA=>exact Z4V h hl hc q
 |asgB=>exact Z4W h hl hc q
 |aug=>exact Z7b h hl hc q
 |«for»=>exact Z1 (Xj (Z0 (h.ev q) fun r σ q=>let ⟨xs,e1,q⟩:=Z9 q;Z1 (Zq e1 (Z4X h hl hc q))))
 |whl=>exact Z4Y h hl hc q
 |ite=>
  refine Z1 (Z0 (WQ h q) fun c σ q=>?_)
  cases c
  ·exact h.exs q
  ·exact h.exs q
 |«mut»=>exact Z4Z h hl hc q
 |pass=>exact q
 |cont=>exact q
 |_=>exact q.elim
theorem Z7d(b):∀ {σ:St} {Q:Fl->St->Prop},Z9y A I b σ Q->wpO (ZB J b σ) Q:=by
 induction b with
 |nil=>intro O O q;exact q
 |cons s r ih=>
  intro O O q
  exact Z1 (Z0 (Z50 h hl hc q) fun f σ q=>by
   cases f
   ·exact ih (cast (Vs _ _) q)
   ·exact q
   ·exact q
   ·exact q)
theorem Z51{i}{ds}{pl}{Q}(q:Z4L I i ds pl Q):∃ lv pl',Yg J i ds pl=.ok lv pl'/\Q lv pl':=by
 unfold Z4L at q
 unfold Yg
 generalize fn i=w at q
 cases w with
 |none=>exact q.elim
 |some F=>
  dsimp only at q ⊢
  by_cases e2:F.params.length=ds.length
  ·rw[if_pos e2] at q ⊢
   obtain ⟨f,σ,e3,q⟩:=Kv (h.exs q)
   rw[e3]
   cases f
   ·exact ⟨_,_,rfl,q⟩
   ·exact q.elim
   ·exact q.elim
   ·exact ⟨_,_,rfl,q⟩
  ·rw[if_neg e2] at q;exact q.elim
theorem Z52:WOk (Z8J A I) (step J):=⟨Z9z h hl hc,Z7d h hl hc _,Z51 h hl hc⟩
end
theorem Z53{A}(hc:A.dr=true->20<=A.c/\U1):∀ n,WOk (W A n) (itp (A.c+n)):=fun O=>match O with
 |0=>⟨fun q=>q.elim,fun q=>q.elim,fun q=>q.elim⟩
 |n+1=>Z52 (Z53 hc n) (Zr (Nat.le_add_right _ _)) hc
noncomputable def A0:Ask:={c:=0,dr:=false}
def QD(lim:Int)(lv:LV)(pl:Option Z8):Prop:=∃ d p',lv=.fr (.int d)/\pl=some p'/\Zb p'/\0<=d/\d < lim
def Z2H(lim a b:Int)(cs:List Int):Prop:=cnd (decide (a - 2>=lim))
 (cnd (decide (0 < lim/\lim < 1000000)) (cnd (decide (0 < lim)) (QD lim (.fr (.int ((a - 2).fmod lim))) (some ⟨cs,(a - 2).fdiv lim+2,b⟩)) False) False)
 (cnd (decide (0 < lim)) (QD lim (.fr (.int ((a - 2).fmod lim))) (some ⟨cs,0,b⟩)) False)
theorem Z3l{p:Prop} [Decidable p] {P P':Prop} (h:p) (q:P):cnd (decide p) P P':=by rw[decide_eq_true h];exact q
theorem Z9A{p:Prop} [Decidable p] {P P':Prop} (q:p->P) (q':¬ p->P'):cnd (decide p) P P':=by
 by_cases h:p
 ·exact Z3l h (q h)
 ·rw[decide_eq_false h];exact q' h
theorem qd{lim x b:Int}{cs:List Int}(a:Int)(h:0 < lim)(hb:b.natAbs < 2 ^ 200):QD lim (.fr (.int (x.fmod lim))) (some ⟨cs,a,b⟩):=⟨_,_,rfl,rfl,hb,Int.fmod_nonneg_of_pos _ h,Int.fmod_lt_of_pos _ h⟩
theorem Um{lim b:Int}(h:0 < lim/\lim < 1000000)(hb:b.natAbs < 2 ^ 200)(a:Int)(cs:List Int):Z2H lim a b cs:=Z9A (fun O=>Z3l h (Z3l h.1 (qd _ h.1 hb))) fun O=>Z3l h.1 (qd _ h.1 hb)
theorem Z8L{lim:Int}{p:Z8}{P:Prop}(e:P=(W A0 20).call 101 [.pool,.int lim] (some p) (QD lim))(q:P):∃ d p',(itp 20).call 101 [.pool,.int lim] (some p)=.ok (.fr (.int d)) (some p')/\Zb p'/\0<=d/\d < lim:=by
 subst e
 refine gG fun G gk=>?_
 obtain ⟨O,O,e,d,p',rfl,rfl,k⟩:=(Z53 (A:=A0) nofun 20).call q
 refine gk ?_
 exact ⟨d,p',e,k⟩
theorem Z0k:U1:=by
 intro lim h ⟨cells,a,b⟩ hb
 induction cells with
 |nil=>exact Z8L (P:=cnd (decide (a < 2)) (cnd (decide (b.natAbs < 2 ^ 200/\Int.natAbs 16807 < 2 ^ 200)) (cnd (decide (0 < lim)) (QD lim (.fr (.int ((((b*16807+13).fmod 2147483647).fdiv 5).fmod lim))) (some ⟨[],a,(b*16807+13).fmod 2147483647⟩)) False) False) (Z2H lim a b [])) (by kernel_rfl) (Z9A (fun O=>Z3l ⟨hb,by decide⟩ (Z3l h.1 (qd _ h.1 (by
    have h1:=Int.fmod_nonneg_of_pos (b*16807+13) (show (0:Int) < 2147483647 by decide)
    have h2:=Int.fmod_lt_of_pos (b*16807+13) (show (0:Int) < 2147483647 by decide)
    have h3:((b*16807+13).fmod 2147483647).natAbs < 2147483647:=by omega
    exact Nat.lt_trans h3 (by decide))))) fun O=>Um h hb a [])
 |cons c cs=>exact Z8L (P:=cnd (decide (a < 2)) (Z2H lim (c.natAbs+2) b cs) (Z2H lim a b (c::cs))) (by kernel_rfl) (Z9A (fun O=>Um h hb _ cs) fun O=>Um h hb a (c::cs))
theorem Z3m{A:Ask}(hc:20<=A.c):∀ n,WOk (W A n) (itp (A.c+n)):=Z53 fun O=>⟨hc,Z0k⟩
noncomputable def Y4:Nat->Nat->Expr->Option Expr:=fun O U V=>match O,U,V with
 |0,O,U=>none
 |n+1,l,e=>match e with
  |.ListComp elt gs s p=>if p.line=l then some (.ListComp elt gs s p) else (Y4 n l elt).or (gs.findSome? fun ⟨O,it,ifs,U⟩=>(Y4 n l it).or (ifs.findSome? (Y4 n l)))
  |.BoolOp O es U=>es.findSome? (Y4 n l)
  |.BinOp a O b U=>(Y4 n l a).or (Y4 n l b)
  |.UnaryOp O a U=>Y4 n l a
  |.IfExp a b c O=>((Y4 n l a).or (Y4 n l b)).or (Y4 n l c)
  |.Dict O es U=>es.findSome? (Y4 n l)
  |.Compare a O bs U=>(Y4 n l a).or (bs.findSome? (Y4 n l))
  |.Call f as O U=>(Y4 n l f).or (as.findSome? (Y4 n l))
  |.Attribute a O U=>Y4 n l a
  |.Subscript a i O=>(Y4 n l a).or (Y4 n l i)
  |.List es O=>es.findSome? (Y4 n l)
  |.Tuple es O U=>es.findSome? (Y4 n l)
  |O=>none
noncomputable def Z0l(l:Nat):Nat->List Stmt->Option Expr:=fun O U=>match O,U with
 |0,O=>none
 |n+1,b=>b.findSome? fun s=>match s with
  |.Return (some e) O=>Y4 30 l e
  |.Assign O e U=>Y4 30 l e
  |.AugAssign O U e V=>Y4 30 l e
  |.For O it b U V=>(Y4 30 l it).or (Z0l l n b)
  |.While t b O U=>(Y4 30 l t).or (Z0l l n b)
  |.If t a b O=>((Y4 30 l t).or (Z0l l n a)).or (Z0l l n b)
  |.Expr e O=>Y4 30 l e
  |O=>none
noncomputable def Z0m(l:Nat):Nat->List Stmt->Option Stmt:=fun O U=>match O,U with
 |0,O=>none
 |n+1,b=>b.findSome? fun s=>match s with
  |.For t it b o p=>if p.line=l then some (.For t it b o p) else Z0m l n b
  |.While t b o p=>if p.line=l then some (.While t b o p) else Z0m l n b
  |.If t a b p=>if p.line=l then some (.If t a b p) else (Z0m l n a).or (Z0m l n b)
  |O=>none
noncomputable def Za(i:Nat):List Stmt:=match fn i with
 |some F=>F.body
 |none=>[]
noncomputable def Zbv(i l:Nat):Option Stmt:=Z0m l 6 (Za i)
noncomputable def Z3n(i l:Nat):Option Expr:=Z0l l 6 (Za i)
noncomputable def Z0n:Expr:=.Constant .none 0 ⟨0,0,0,0⟩
noncomputable def sB(i l:Nat):List Stmt:=match Zbv i l with
 |some (.For O U b V O1)=>b
 |some (.While O b U V)=>b
 |O=>[]
noncomputable def sT(i l:Nat):Expr:=match Zbv i l with
 |some (.For t O U V O1)=>t
 |some (.While t O U V)=>t
 |O=>Z0n
noncomputable def cT(i l:Nat):Expr:=match Z3n i l with
 |some (.ListComp O [⟨t,U,V,O1⟩] O2 O3)=>t
 |O=>Z0n
noncomputable def cE(i l:Nat):Expr:=match Z3n i l with
 |some (.ListComp e O U V)=>e
 |O=>Z0n
noncomputable def c2T(i l:Nat):Expr:=match Z3n i l with
 |some (.ListComp O [U,⟨t,V,O1,O2⟩] O3 O4)=>t
 |O=>Z0n
noncomputable def c2I(i l:Nat):Expr:=match Z3n i l with
 |some (.ListComp O [U,⟨V,it,O1,O2⟩] O3 O4)=>it
 |O=>Z0n
noncomputable def c1T(i l:Nat):Expr:=match Z3n i l with
 |some (.ListComp O [⟨t,U,V,O1⟩,O2] O3 O4)=>t
 |O=>Z0n
noncomputable def cF(i l:Nat):List Expr:=match Z3n i l with
 |some (.ListComp O [⟨U,V,fs,O1⟩] O2 O3)=>fs
 |O=>[]
def Zt(lv:LV)(pl:Option Z8):LV->Option Z8->Prop:=fun l p=>l=lv/\p=pl
theorem ZX{A}(hc:20<=A.c){n i}{ds}{pl pl'}{lv}{P}(e:P=(W A n).call i ds pl (Zt lv pl'))(h:P):(itp (A.c+n)).call i ds pl=.ok lv pl':=by
 subst e
 obtain ⟨l,p,e,rfl,rfl⟩:=(Z3m hc n).call h
 exact e
theorem Zj{A}(hc:20<=A.c){n}{b}{σ}{Q}{P}(e:P=(W A n).exs b σ Q)(h:P):wpO ((itp (A.c+n)).exs b σ) Q:=by
 subst e
 exact (Z3m hc n).exs h
theorem KE{A}(hc:20<=A.c){n}{b}{σ}{Q}{P}(e:P=(W A n).ev b σ Q)(h:P):wpO ((itp (A.c+n)).ev b σ) Q:=by
 subst e
 exact (Z3m hc n).ev h
theorem YI(m){b}{σ σ'}{r}(e:(r=r/\σ'=σ')=(W {c:=20} m).ev b σ fun r' τ=>r'=r/\τ=σ'):wpO ((itp (20+m)).ev b σ) fun r' τ=>r'=r/\τ=σ':=KE (A:={c:=20}) (Nat.le_refl _) e ⟨rfl,rfl⟩
theorem Z8M(m){b}{σ σ'}{r}(e:(r=r/\σ'=σ')=(W {c:=20} m).exs b σ fun r' τ=>r'=r/\τ=σ'):wpO ((itp (20+m)).exs b σ) fun r' τ=>r'=r/\τ=σ':=Zj (A:={c:=20}) (Nat.le_refl _) e ⟨rfl,rfl⟩
theorem Yi(m){i}{ds}{pl pl'}{lv}(e:(lv=lv/\pl'=pl')=(W {c:=20} m).call i ds pl (Zt lv pl')):(itp (20+m)).call i ds pl=.ok lv pl':=ZX (A:={c:=20}) (Nat.le_refl _) e ⟨rfl,rfl⟩
theorem Un{b}{P P'}(h:b=true)(p:P):cnd b P P':=by subst h;exact p
theorem Uo{b}{P P'}(h:b=false)(p:P'):cnd b P P':=by subst h;exact p
theorem ZP{p} [Decidable p] {P P'} (h:p) (q:P):cnd (decide p) P P':=Un (decide_eq_true h) q
theorem Z8N{p} [Decidable p] {P P'} (h:¬ p) (q:P'):cnd (decide p) P P':=Uo (decide_eq_false h) q
theorem ZG{α β:Type}{body}{t}(e:β->D)(J:α->St->Prop)(f:α->β->α)(ok:α->List β->Prop)
  (step:∀ a b bs σ,ok a (b::bs)->J a σ->ok (f a b) bs/\wpO (Zl t (e b) σ) fun O σ=>wpO (body σ) fun g σ=>(g=.next\/g=.cont)/\J (f a b) σ) :
  ∀ (bs:List β) (a:α) (σ:St),ok a bs->J a σ->wpO (ZJ body t (bs.map e) σ) fun g σ=>g=.next/\J (bs.foldl f a) σ:=fun O U V O1 O2=>match O,U,V,O1,O2 with
 |[],a,σ,O,h=>⟨rfl,h⟩
 |b::bs,a,σ,o,h=>by
  obtain ⟨o',h1⟩:=step a b bs σ o h
  refine Z1 (Z0 h1 fun O σ h2=>Z1 (Z0 h2 fun g σ h3=>?_))
  rcases h3.1 with rfl|rfl
  ·exact ZG e J f ok step bs _ σ o' h3.2
  ·exact ZG e J f ok step bs _ σ o' h3.2
theorem Z3o{k}{t elt}(J:St->Prop)(f:D->D)(xs:List D):∀ (σ:St),(∀ d∈xs,∀ σ,J σ->wpO (Zl t d σ) fun O σ=>wpO ((itp k).ev elt σ) fun r σ=>r.1.d=f d/\J (Zo r σ))->J σ ->
  wpO (Zh (itp k) t [] elt xs σ) fun ds σ=>ds=xs.map f/\J σ:=by
 induction xs with
 |nil=>intro O O j;exact ⟨rfl,j⟩
 |cons d xs ih=>
  intro σ h j
  refine XB (Z0 (h d List.mem_cons_self σ j) fun O σ h1=>Kw ⟨fun O=>Z0 h1 fun r σ h2=>?_,nofun⟩)
  refine Z0 (ih _ (fun d hd=>h d (List.mem_cons_of_mem _ hd)) h2.2) fun ds σ h3=>?_
  exact ⟨by rw[List.map_cons,<-h2.1,<-h3.1],h3.2⟩
theorem Z3p{k}{t t2 it2 elt}(J:St->Prop)(g:D->List D)(xs:List D):∀ (σ:St),
  (∀ x∈xs,∀ σ,J σ->wpO (Zl t x σ) fun O σ=>wpO ((itp k).ev it2 σ) fun r σ=>YD r.1.d=some (g x)/\wpO (Zh (itp k) t2 [] elt (g x) (Zo r σ)) fun ds σ=>ds=g x/\J σ)->J σ ->
  wpO (YB (itp k) t t2 it2 elt xs σ) fun ds σ=>ds=xs.flatMap g/\J σ:=by
 induction xs with
 |nil=>intro O O j;exact ⟨rfl,j⟩
 |cons x xs ih=>
  intro σ h j
  refine Z1 (Z0 (h x List.mem_cons_self σ j) fun O σ h1=>Z1 (Xj (Z0 h1 fun r σ h2=>Z1 (Zq h2.1 (Z1 (Z0 h2.2 fun ds σ h3=>Z1 (Z0 (ih σ (fun d hd=>h d (List.mem_cons_of_mem _ hd)) h3.2) fun es σ h4=>?_)))))))
  exact ⟨by rw[List.flatMap_cons,h3.1,h4.1],h4.2⟩
theorem JE{k}{x}{p}{elt}{pl}(P:Zc->Prop)(f:D->D):∀ (xs:List D) (vs up:Zc),(vs=[]\/∃ d,vs=[(x,.fr d)])->P up ->
  (∀ d∈xs,∀ up,P up->wpO ((itp k).ev elt ⟨[(x,.fr d)],up,[x],pl⟩) fun r σ=>r.1.d=f d/\∃ up',P up'/\Zo r σ=⟨[(x,.fr d)],up',[x],pl⟩) ->
  wpO (Zh (itp k) (.Name x p) [] elt xs ⟨vs,up,[x],pl⟩) fun ds σ=>ds=xs.map f/\P σ.up/\σ.pl=pl:=fun O U V O1 O2 O3=>match O,U,V,O1,O2,O3 with
 |[],O,U,V,hp,O1=>Z6W ⟨rfl,hp,rfl⟩
 |d::xs,vs,up,hv,hp,h=>by
  refine XB (Z6X ?_)
  have e:ZA x (.fr d) vs=[(x,.fr d)]:=by
   rcases hv with rfl|⟨d',rfl⟩
   ·rfl
   ·exact if_pos rfl
  dsimp only
  rw[e]
  refine Kw ⟨fun O=>Z0 (h d List.mem_cons_self up hp) fun r σ hr=>?_,nofun⟩
  refine gG fun G gk=>?_
  obtain ⟨h1,up',h2,h3⟩:=hr
  refine gk ?_
  rw[h3]
  refine Z0 (JE P f xs _ up' (.inr ⟨d,rfl⟩) h2 fun d' hd=>h d' (List.mem_cons_of_mem _ hd)) fun ds σ' hq=>?_
  exact ⟨by rw[List.map_cons,<-h1,<-hq.1],hq.2⟩
@[elab_as_elim] theorem pl1{α:Type}{P:List α->Prop}(f:∀ a,P [a])(l:List α)(h:l.length=1):P l:=by
 obtain ⟨a,rfl⟩:=List.length_eq_one_iff.mp h
 exact f a
@[elab_as_elim] theorem pl2{α:Type}{P:List α->Prop}(f:∀ a b,P [a,b])(l:List α)(h:l.length=2):P l:=by
 cases l with
 |nil=>exact nomatch h
 |cons a l=>exact pl1 (f a) l (Nat.succ.inj h)
@[elab_as_elim] theorem pl3{α:Type}{P:List α->Prop}(f:∀ a b c,P [a,b,c])(l:List α)(h:l.length=3):P l:=by
 cases l with
 |nil=>exact nomatch h
 |cons a l=>exact pl2 (f a) l (Nat.succ.inj h)
@[elab_as_elim] theorem Xk{α:Type}{P:List α->Prop}(f:∀ a,P [a])(g:∀ a b,P [a,b])(k:∀ a b c,P [a,b,c])(l:List α)(h:1<=l.length/\l.length<=3):P l:=by
 cases l with
 |nil=>exact absurd h.1 (Nat.not_succ_le_zero 0)
 |cons a l=>cases l with
  |nil=>exact f a
  |cons b l=>cases l with
   |nil=>exact g a b
   |cons c l=>induction l with
    |nil=>exact k a b c
    |cons d l=>exact absurd (Nat.le_of_succ_le_succ (Nat.le_of_succ_le_succ (Nat.le_of_succ_le_succ h.2))) (Nat.not_succ_le_zero _)
@[elab_as_elim] theorem JF{α:Type}{P:List α->Prop}(f:P [])(g:∀ a,P [a])(k:∀ a b,P [a,b])(l:List α)(h:l.length<=2):P l:=by
 cases l with
 |nil=>exact f
 |cons a l=>cases l with
  |nil=>exact g a
  |cons b l=>cases l with
   |nil=>exact k a b
   |cons c l=>exact absurd (Nat.le_of_succ_le_succ (Nat.le_of_succ_le_succ h)) (Nat.not_succ_le_zero _)
noncomputable abbrev vC(xs:List D):D:=.vec (.str "character") (.list xs) .none
noncomputable abbrev vI(xs:List D):D:=.vec (.str "integer") (.list xs) .none
noncomputable abbrev fA(lv:List D):D:=.dict [("levels",vC lv),("class",vC [.str "factor"])]
noncomputable abbrev vF(lv xs:List D):D:=.vec (.str "integer") (.list xs) (fA lv)
noncomputable def YJ:D->D:=fun O=>match O with
 |.int n=>.str (Str.ofString (toString n))
 |d=>d
inductive Yl:D->Prop
 |n:Yl .none
 |a:Yl (.int 3)
 |b:Yl (.int 7)
 |c:Yl (.int 12)
 |d:Yl (.int 0)
 |e:Yl (.int (-4))
inductive V4:D->Prop
 |n:V4 .none
 |a:V4 (.str "s")
 |b:V4 (.str "t")
 |c:V4 (.str "u")
 |d:V4 (.str "v")
 |e:V4 (.str "w")
inductive Lv:List D->Prop
 |a:Lv [.str "s",.str "t"]
 |b:Lv [.str "t",.str "u",.str "s"]
 |c:Lv [.str "7",.str "u"]
 |d:Lv []
inductive Col where
 |ci (xs:List D)
 |cs (xs:List D)
 |cf (lv xs:List D)
noncomputable def YV(s:Str):List D->Nat:=fun O=>match O with
 |[]=>0
 |.str t::r=>if s=t then 0 else YV s r+1
 |O::r=>YV s r+1
noncomputable def Zd(lv:List D):D->D:=fun O=>match O with
 |.str s=>.int ((YV s lv:Nat)+1)
 |O=>.none
noncomputable def JG(lv:List D):D->D:=fun O=>match O with
 |.int i=>(lv[(i - 1).toNat]?).getD .none
 |O=>.none
def WH(lv:List D)(d:D):Prop:=d=.none\/∃ s,d=.str s/\d∈lv
def Col.ok:Col->Prop:=fun O=>match O with
 |.ci xs=>∀ d∈xs,Yl d
 |.cs xs=>∀ d∈xs,V4 d
 |.cf lv xs=>Lv lv/\∀ d∈xs,WH lv d
noncomputable def Col.items:Col->List D:=fun O=>match O with
 |.ci xs=>xs
 |.cs xs=>xs
 |.cf O xs=>xs
noncomputable def Col.raw:Col->D:=fun O=>match O with
 |.ci xs=>.list [.int 0,.list xs,.none]
 |.cs xs=>.list [.int 1,.list xs,.none]
 |.cf lv xs=>.list [.int 2,.list xs,.list lv]
noncomputable def Col.val:Col->D:=fun O=>match O with
 |.ci xs=>vI xs
 |.cs xs=>vC xs
 |.cf lv xs=>vF lv (xs.map (Zd lv))
noncomputable def Col.texts:Col->List D:=fun O=>match O with
 |.ci xs=>xs.map YJ
 |.cs xs=>xs
 |.cf O xs=>xs
noncomputable def Zbw:Expr->Pos:=fun O=>match O with
 |.Name O p=>p
 |O=>⟨0,0,0,0⟩
theorem Z0o{k}{t elt}{x}{pl}(ht:t=.Name x (Zbw t))(P:Zc->Prop)(f:D->D){xs}{up}(hp:P up)
  (h:∀ d∈xs,∀ up,P up->wpO ((itp k).ev elt ⟨[(x,.fr d)],up,[x],pl⟩) fun r σ=>r.1.d=f d/\∃ up',P up'/\Zo r σ=⟨[(x,.fr d)],up',[x],pl⟩)
  {Q:List D->St->Prop} (hq:∀ σ:St,P σ.up->σ.pl=pl->Q (xs.map f) σ):wpO (Zh (itp k) t [] elt xs ⟨[],up,[x],pl⟩) Q:=by
 rw[ht]
 exact Z0 (JE P f xs [] up (.inl rfl) hp h) fun ds σ q=>by rw[q.1];exact hq σ q.2.1 q.2.2
theorem Y5{k}{t elt}{x}{pl}(ht:t=.Name x (Zbw t))(f:D->D){xs}{up}
  (h:∀ d∈xs,wpO ((itp k).ev elt ⟨[(x,.fr d)],up,[x],pl⟩) fun r σ=>r=(.fr (f d),none)/\σ=⟨[(x,.fr d)],up,[x],pl⟩)
  {Q:List D->St->Prop} (hq:∀ σ:St,σ.up=up->σ.pl=pl->Q (xs.map f) σ):wpO (Zh (itp k) t [] elt xs ⟨[],up,[x],pl⟩) Q:=by
 refine Z0o ht (fun O=>O=up) f rfl (fun d hd up' e=>?_) hq
 subst e
 exact Z0 (h d hd) fun r σ q=>by rw[q.1,q.2];exact ⟨rfl,_,rfl,rfl⟩
theorem Z9B{α:Type}{o:Out α}{a:α}{σ}(e:o=.ok a σ):wpO o fun b τ=>b=a/\τ=σ:=by rw[e];exact ⟨rfl,rfl⟩
theorem Z3q(d)(lv)(v)(pl):wpO ((itp 40).ev (cE 46 289) ⟨[("item",.fr d)],[("value",.fr (.vec (.str "character") v .none)),("levels",lv)],["item"],pl⟩) fun r σ=>r=(.fr (id d),none)/\σ=⟨[("item",.fr d)],[("value",.fr (.vec (.str "character") v .none)),("levels",lv)],["item"],pl⟩:=by
 cases h:isNone d
 ·cases d<;>first|exact YI 20 (by kernel_rfl)|cases h
 ·cases d<;>first|exact YI 20 (by kernel_rfl)|cases h
theorem Z3r{d}(hd:Yl d)(lv)(v)(pl):wpO ((itp 40).ev (cE 46 289) ⟨[("item",.fr d)],[("value",.fr (.vec (.str "integer") v .none)),("levels",lv)],["item"],pl⟩) fun r σ=>r=(.fr (YJ d),none)/\σ=⟨[("item",.fr d)],[("value",.fr (.vec (.str "integer") v .none)),("levels",lv)],["item"],pl⟩:=by
 cases hd<;>exact YI 20 (by kernel_rfl)
theorem Z2I(xs)(hl:xs.length<=LIM)(pl):(itp 60).call 46 [vC xs] pl=.ok (.ol xs) pl:=by
 refine ZX (A:={c:=40,L:=[289]}) (n:=20) (Nat.le_of_ble_eq_true rfl) (P:=wpO (Zh (itp 40) (cT 46 289) [] (cE 46 289) xs ⟨[],[("value",.fr (vC xs)),("levels",.fr .none)],["item"],pl⟩) fun ds σ=>ds.length<=LIM/\Zt (.ol xs) pl (.ol ds) σ.pl) (by kernel_rfl) ?_
 refine Y5 (by kernel_rfl) id (fun d O=>Z3q d _ _ pl) fun σ O hp=>?_
 rw[List.map_id]
 exact ⟨hl,rfl,hp⟩
theorem Zbx(xs)(hx:∀ d∈xs,Yl d)(hl:xs.length<=LIM)(pl):(itp 60).call 46 [vI xs] pl=.ok (.ol (xs.map YJ)) pl:=by
 refine ZX (A:={c:=40,L:=[289]}) (n:=20) (Nat.le_of_ble_eq_true rfl) (P:=wpO (Zh (itp 40) (cT 46 289) [] (cE 46 289) xs ⟨[],[("value",.fr (vI xs)),("levels",.fr .none)],["item"],pl⟩) fun ds σ=>ds.length<=LIM/\Zt (.ol (xs.map YJ)) pl (.ol ds) σ.pl) (by kernel_rfl) ?_
 refine Y5 (by kernel_rfl) YJ (fun d hd=>Z3r (hx d hd) _ _ pl) fun σ O hp=>?_
 exact ⟨by rw[List.length_map];exact hl,rfl,hp⟩
inductive Xr:List D->D->Prop
 |n {lv:List D}:Lv lv->Xr lv .none
 |a1:Xr [.str "s",.str "t"] (.str "s")
 |a2:Xr [.str "s",.str "t"] (.str "t")
 |b1:Xr [.str "t",.str "u",.str "s"] (.str "t")
 |b2:Xr [.str "t",.str "u",.str "s"] (.str "u")
 |b3:Xr [.str "t",.str "u",.str "s"] (.str "s")
 |c1:Xr [.str "7",.str "u"] (.str "7")
 |c2:Xr [.str "7",.str "u"] (.str "u")
theorem Up{lv}(hv:Lv lv){d}(hd:WH lv d):Xr lv d:=by
 rcases hd with rfl|⟨s,rfl,hd⟩
 ·exact .n hv
 ·cases hv<;>simp only[List.mem_cons,List.not_mem_nil,or_false] at hd
  ·rcases hd with h|h<;>rw[h]<;>constructor
  ·rcases hd with h|h|h<;>rw[h]<;>constructor
  ·rcases hd with h|h<;>rw[h]<;>constructor
noncomputable abbrev vsL(v l:D)(t:LV):Zc:=[("value",.fr v),("levels",.fr l),("texts",t)]
theorem JH{lv}(hv:Lv lv){d}(hd:WH lv d)(v l)(t)(ht:t=.ol lv\/t=.fr (.list lv))(pl) :
  wpO ((itp 40).ev (cE 46 288) ⟨[("item",.fr (Zd lv d))],[("value",.fr v),("levels",.fr l),("texts",t)],["item"],pl⟩) fun r σ=>r.1.d=d/\∃ up',(up'=vsL v l (.ol lv)\/up'=vsL v l (.fr (.list lv)))/\Zo r σ=⟨[("item",.fr (Zd lv d))],up',["item"],pl⟩:=by
 have key:∀ {d},Xr lv d->wpO ((itp 40).ev (cE 46 288) ⟨[("item",.fr (Zd lv d))],[("value",.fr v),("levels",.fr l),("texts",t)],["item"],pl⟩) fun r σ=>r=(.fr d,none)/\σ=⟨[("item",.fr (Zd lv d))],[("value",.fr v),("levels",.fr l),("texts",.fr (.list lv))],["item"],pl⟩:=fun {d} h=>by
  rcases ht with rfl|rfl
  ·induction h with
   |n hv=>cases hv<;>exact YI 20 (by kernel_rfl)
   |_=>exact YI 20 (by kernel_rfl)
  ·induction h with
   |n hv=>cases hv<;>exact YI 20 (by kernel_rfl)
   |_=>exact YI 20 (by kernel_rfl)
 refine Z0 (key (Up hv hd)) fun r σ q=>?_
 rw[q.1,q.2]
 exact ⟨rfl,_,.inr rfl,rfl⟩
theorem Z9C{lv}(hv:Lv lv):lv.length<=LIM:=by cases hv<;>decide
theorem Zby{lv xs}(hv:Lv lv)(hx:∀ d∈xs,WH lv d)(hl:xs.length<=LIM)(pl):(itp 80).call 46 [vF lv (xs.map (Zd lv))] pl=.ok (.ol xs) pl:=by
 refine ZX (A:={c:=60,S:=fun i O=>if i=46 then some (.ol lv) else none,L:=[288]}) (n:=20) (Nat.le_of_ble_eq_true rfl)
  (P:=(itp 60).call 46 [vC lv] pl=.ok (.ol lv) pl/\wpO (Zh (itp 60) (cT 46 288) [] (cE 46 288) (xs.map (Zd lv)) ⟨[],[("value",.fr (vF lv (xs.map (Zd lv)))),("levels",.fr (vC lv)),("texts",.ol lv)],["item"],pl⟩) fun ds σ=>ds.length<=LIM/\Zt (.ol xs) pl (.ol ds) σ.pl) (by kernel_rfl) ⟨Z2I lv (Z9C hv) pl,?_⟩
 have e:∀ xs:List D,(∀ d∈xs,WH lv d)->(xs.map (Zd lv)).map (JG lv)=xs:=fun xs h=>by
  rw[List.map_map]
  refine (List.map_congr_left fun d hd=>?_).trans (List.map_id _)
  have:=Up hv (h d hd)
  cases this<;>rfl
 refine Z0o (by kernel_rfl) (fun up=>up=vsL (vF lv (xs.map (Zd lv))) (vC lv) (.ol lv)\/up=vsL (vF lv (xs.map (Zd lv))) (vC lv) (.fr (.list lv))) (JG lv) (.inl rfl) (fun d hd up hu=>?_) fun σ O hp=>?_
 ·obtain ⟨d,hm,rfl⟩:=List.mem_map.mp hd
  have hd:=hx d hm
  have:JG lv (Zd lv d)=d:=by
   have:=Up hv hd
   cases this<;>rfl
  rw[this]
  refine Zs ((Zr (by decide:40<=60)).ev _ _) ?_
  rcases hu with rfl|rfl
  ·exact JH hv hd _ _ _ (.inl rfl) pl
  ·exact JH hv hd _ _ _ (.inr rfl) pl
 ·rw[e xs hx]
  exact ⟨hl,rfl,hp⟩
theorem Zbz{lv}{d}(hd:WH lv d):WH lv d:=hd
theorem L46{c:Col}(hc:c.ok)(hl:c.items.length<=LIM)(pl:Option Z8):(itp 80).call 46 [c.val] pl=.ok (.ol c.texts) pl:=by
 induction c with
 |ci xs=>exact Zg (by decide) (Zbx xs hc hl pl)
 |cs xs=>exact Zg (by decide) (Z2I xs hl pl)
 |cf lv xs=>exact Zby hc.1 hc.2 hl pl
def Z2J(d:D):Prop:=Yl d\/(d=.none\/∃ s,d=.str s)
theorem Z9D(xs)(hx:∀ d∈xs,Z2J d)(hl:xs.length<=LIM)(pl):(itp 60).call 104 [.list xs] pl=.ok (.ol (xs.map YJ)) pl:=by
 refine ZX (A:={c:=40,L:=[654]}) (n:=20) (Nat.le_of_ble_eq_true rfl) (P:=wpO (Zh (itp 40) (cT 104 654) [] (cE 104 654) xs ⟨[],[("items",.fr (.list xs))],["item"],pl⟩) fun ds σ=>ds.length<=LIM/\Zt (.ol (xs.map YJ)) pl (.ol ds) σ.pl) (by kernel_rfl) ?_
 refine Y5 (by kernel_rfl) YJ (fun d hd=>?_) fun σ O hp=>⟨by rw[List.length_map];exact hl,rfl,hp⟩
 rcases hx d hd with h|rfl|⟨s,rfl⟩
 ·cases h<;>exact YI 20 (by kernel_rfl)
 ·exact YI 20 (by kernel_rfl)
 ·exact YI 20 (by kernel_rfl)
theorem Z9E(xs)(hl:xs.length<=LIM)(pl):(itp 60).call 103 [(Col.ci xs).raw] pl=.ok (.ov (.str "integer") (.list xs) .none false) pl:=Yi 40 (by kernel_rfl)
theorem Z9F(xs)(hl:xs.length<=LIM)(pl):(itp 60).call 103 [(Col.cs xs).raw] pl=.ok (.ov (.str "character") (.list xs) .none false) pl:=Yi 40 (by kernel_rfl)
theorem Z9G{lv xs}(hv:Lv lv)(hx:∀ d∈xs,WH lv d)(hl:xs.length<=LIM)(pl):(itp 60).call 103 [(Col.cf lv xs).raw] pl=.ok (.ov (.str "integer") (.list (xs.map (Zd lv))) (fA lv) true) pl:=by
 refine ZX (A:={c:=40,C:=fun l=>if l=650 then some fun up xs=>(xs.map (Zd lv),up) else none}) (n:=20) (Nat.le_of_ble_eq_true rfl)
  (P:=wpO (Zh (itp 40) (cT 103 650) [] (cE 103 650) xs ⟨[],[("column",.fr (Col.cf lv xs).raw),("form",.fr (.int 2)),("items",.fr (.list xs)),("levels",.fr (.list lv))],["item"],pl⟩) (fun ds σ=>ds=xs.map (Zd lv)/\σ.up=([("column",.fr (Col.cf lv xs).raw),("form",.fr (.int 2)),("items",.fr (.list xs)),("levels",.fr (.list lv))]:Zc)/\σ.pl=pl)/\(xs.map (Zd lv)).length<=LIM/\Zt (.ov (.str "integer") (.list (xs.map (Zd lv))) (fA lv) true) pl (.ov (.str "integer") (.list (xs.map (Zd lv))) (fA lv) true) pl) (by kernel_rfl) ⟨?_,by rw[List.length_map];exact hl,rfl,rfl⟩
 refine Y5 (by kernel_rfl) (Zd lv) (fun d hd=>?_) fun σ hu hp=>⟨rfl,hu,hp⟩
 have:=Up hv (hx d hd)
 induction this with
 |n hv=>exact YI 20 (by kernel_rfl)
 |_=>exact YI 20 (by kernel_rfl)
theorem ZcO{c:Col}(hc:c.ok)(hl:c.items.length<=LIM)(pl:Option Z8):∃ lv,(itp 60).call 103 [c.raw] pl=.ok lv pl/\lv.d=c.val:=by
 induction c with
 |ci xs=>exact ⟨_,Z9E xs hl pl,rfl⟩
 |cs xs=>exact ⟨_,Z9F xs hl pl,rfl⟩
 |cf lv xs=>exact ⟨_,Z9G hc.1 hc.2 hl pl,rfl⟩
noncomputable def Xu(ls:List Str)(d:D):List Str:=match d.s? with
 |some s=>if s∈ls then ls else ls++[s]
 |none=>ls
noncomputable def Zp(ls:List Str)(ts:List D):List Str:=ts.foldl Xu ls
noncomputable def knF(n:Nat):List Str->List (Str × D):=fun O=>match O with
 |[]=>[]
 |s::r=>(s,.int ((n+1:Nat):Int))::knF (n+1) r
theorem Z2K{n s r}:knF n (s::r)=(s,.int ((n+1:Nat):Int))::knF (n+1) r:=rfl
theorem Uq:∀ (n:Nat) (ls:List Str),(knF n ls).map (fun O=>O.1)=ls:=fun O U=>match O,U with
 |O,[]=>rfl
 |n,s::r=>by rw[Z2K,List.map_cons,Uq]
theorem Z2L:∀ (n:Nat) (ls:List Str),(knF n ls).length=ls.length:=fun O U=>match O,U with
 |O,[]=>rfl
 |n,s::r=>by simp only[Z2K,List.length_cons,Z2L]
theorem Z0p(s)(v):∀ (kvs:List (Str × D)),s∉kvs.map (fun O=>O.1)->YC s v kvs=kvs++[(s,v)]:=fun O U=>match O,U with
 |[],O=>rfl
 |(y,w)::r,h=>by
  rw[List.map_cons,List.mem_cons,not_or] at h
  rw[Vq,if_neg h.1,Z0p s v r h.2,List.cons_append]
theorem Z0q(s):∀ (n:Nat) (ls:List Str),knF n (ls++[s])=knF n ls++[(s,.int ((n+ls.length+1:Nat):Int))]:=fun O U=>match O,U with
 |O,[]=>rfl
 |n,t::r=>by
  simp only[List.cons_append,Z2K,Z0q s (n+1) r,List.length_cons]
  rw[show n+1+r.length+1=n+(r.length+1)+1 by lia]
noncomputable def sD(ls:List Str):List D:=ls.map .str
theorem ZT(ls):(sD ls).length=ls.length:=List.length_map _
theorem WR(s):∀ (n:Nat) (ls:List Str),s∈ls->YA s (knF n ls)=some (.int ((n+YV s (sD ls)+1:Nat):Int)):=fun O U V=>match O,U,V with
 |O,[],h=>by cases h
 |n,t::r,h=>by
  rw[Z2K,V1]
  show _=some (D.int ((n+(if s=t then 0 else YV s (sD r)+1)+1:Nat):Int))
  by_cases e:s=t
  ·rw[if_pos e,if_pos e]
  ·rw[if_neg e,if_neg e,WR s (n+1) r (by rcases List.mem_cons.mp h with h|h;exact absurd h e;exact h)]
   rw[show n+1+YV s (sD r)+1=n+(YV s (sD r)+1)+1 by lia]
noncomputable abbrev v1(pv p ts:D)(ls:List Str):Zc:=[("parts",.fr pv),("levels",.ol (sD ls)),("known",.od (knF 0 ls)),("part",.fr p),("texts",.fr ts)]
noncomputable abbrev v2(pv p ts:D)(ls:List Str)(q:D):Zc:=[("parts",.fr pv),("levels",.ol (sD ls)),("known",.od (knF 0 ls)),("part",.fr p),("texts",.fr ts),("one",.fr q)]
def YR(d:D):Prop:=d=.none\/∃ s,d=.str s/\s≠Str.ofString "shared"
theorem Z7e(pv p ts)(ls)(d)(hd:YR d)(hl:ls.length < LIM)(pl) :
  wpO ((itp 40).exs (sB 91 524) ⟨v2 pv p ts ls d,[],[],pl⟩) fun g σ=>g=.next/\σ=⟨v2 pv p ts (Xu ls d) d,[],[],pl⟩:=by
 rcases hd with rfl|⟨s,rfl,hs⟩
 ·exact Z9B (by kernel_rfl)
 ·refine Zj (A:={c:=20}) (n:=20) (Nat.le_of_ble_eq_true rfl) (P:=cnd (!(decide (s∈(knF 0 ls).map (fun O=>O.1)))) (cnd (decide ((sD ls).length < LIM)) (cnd (decide ((knF 0 ls).length < LIM)) (cnd (decide (s=Str.ofString "shared")) False
   (Fl.next=Fl.next/\(⟨[("parts",.fr pv),("levels",.ol (sD ls++[D.str s])),("known",.od (YC s (.int ((sD ls++[D.str s]).length:Nat)) (knF 0 ls))),("part",.fr p),("texts",.fr ts),("one",.fr (.str s))],[],[],pl⟩:St)=⟨v2 pv p ts (Xu ls (.str s)) (.str s),[],[],pl⟩)) False) False)
   (Fl.next=Fl.next/\(⟨v2 pv p ts ls (.str s),[],[],pl⟩:St)=⟨v2 pv p ts (Xu ls (.str s)) (.str s),[],[],pl⟩)) (by kernel_rfl) ?_
  rw[Uq]
  by_cases h:s∈ls
  ·refine Uo (by rw[decide_eq_true h];rfl) ⟨rfl,?_⟩
   rw[show Xu ls (.str s)=ls from if_pos h]
  ·refine Un (by rw[decide_eq_false h];rfl) (ZP (by rw[ZT];exact hl) (ZP (by rw[Z2L];exact hl) (Z8N hs ⟨rfl,?_⟩)))
   rw[show Xu ls (.str s)=ls++[s] from if_neg h]
   unfold v2
   rw[Z0p _ _ _ (by rw[Uq];exact h),Z0q,List.length_append,ZT]
   rw[show sD (ls++[s])=sD ls++[D.str s] from List.map_append]
   rw[show 0+ls.length+1=ls.length+[D.str s].length by rw[Nat.zero_add];rfl]
theorem Ur(ls)(d):(Xu ls d).length<=ls.length+1:=by
 unfold Xu
 cases d.s? with
 |none=>exact Nat.le_succ _
 |some s=>
  dsimp only
  split
  ·exact Nat.le_succ _
  ·rw[List.length_append];exact Nat.le_refl _
theorem Us(ts):∀ (ls:List Str),(Zp ls ts).length<=ls.length+ts.length:=by
 induction ts with
 |nil=>intro ls;exact Nat.le_refl _
 |cons d ts ih=>
  intro ls
  have h1:=ih (Xu ls d)
  have h2:=Ur ls d
  show (Zp (Xu ls d) ts).length<=_
  rw[List.length_cons]
  lia
theorem Z54(pv p ts)(pl)(ds)(ls)(σ)(hd:∀ d∈ds,YR d)(hl:ls.length+ds.length < LIM)
  (hσ:σ=⟨v1 pv p ts ls,[],[],pl⟩\/∃ q,σ=⟨v2 pv p ts ls q,[],[],pl⟩) :
  wpO (ZJ ((itp 40).exs (sB 91 524)) (sT 91 524) ds σ) fun g τ=>g=.next/\(τ=⟨v1 pv p ts (Zp ls ds),[],[],pl⟩\/∃ q,τ=⟨v2 pv p ts (Zp ls ds) q,[],[],pl⟩):=by
 have k:=ZG (α:=List Str) (β:=D) (body:=(itp 40).exs (sB 91 524)) (t:=sT 91 524) id (fun ls σ=>σ=⟨v1 pv p ts ls,[],[],pl⟩\/∃ q,σ=⟨v2 pv p ts ls q,[],[],pl⟩) Xu
  (fun ls ds=>(∀ d∈ds,YR d)/\ls.length+ds.length < LIM) (fun ls d ds σ ok h=>?_) ds ls σ ⟨hd,hl⟩ hσ
 ·rw[List.map_id] at k;exact k
 ·obtain ⟨hd,hl⟩:=ok
  rw[List.length_cons] at hl
  have h2:=Ur ls d
  refine ⟨⟨fun d h=>hd d (List.mem_cons_of_mem _ h),by lia⟩,?_⟩
  have e:Zl (sT 91 524) (id d) σ=.ok () ⟨v2 pv p ts ls d,[],[],pl⟩:=by
   rcases h with rfl|⟨q,rfl⟩<;>kernel_rfl
  rw[e]
  exact ZF (Z0 (Z7e pv p ts ls d (hd d List.mem_cons_self) (by lia) pl) fun g σ q=>⟨.inl q.1,.inr ⟨_,q.2⟩⟩)
noncomputable def Col.marks:Col->List D:=fun O=>match O with
 |.cf lv O=>lv
 |c=>c.texts
theorem ZbA{d}(h:Yl d):YR (YJ d):=by cases h<;>first|exact .inl rfl|exact .inr ⟨_,rfl,by decide +kernel⟩
theorem ZbB{d}(h:V4 d):YR d:=by cases h<;>first|exact .inl rfl|exact .inr ⟨_,rfl,by decide +kernel⟩
theorem ZbC{lv}(hv:Lv lv){d}(h:d∈lv):YR d:=by
 cases hv<;>simp only[List.mem_cons,List.not_mem_nil,or_false] at h
 ·rcases h with h|h<;>rw[h]<;>exact .inr ⟨_,rfl,by decide +kernel⟩
 ·rcases h with h|h|h<;>rw[h]<;>exact .inr ⟨_,rfl,by decide +kernel⟩
 ·rcases h with h|h<;>rw[h]<;>exact .inr ⟨_,rfl,by decide +kernel⟩
theorem Wv{c:Col}(hc:c.ok):∀ d∈c.marks,YR d:=by
 induction c with
 |ci xs=>intro d h;obtain ⟨e,he,rfl⟩:=List.mem_map.mp h;exact ZbA (hc e he)
 |cs xs=>intro d h;exact ZbB (hc d h)
 |cf lv xs=>intro d h;exact ZbC hc.1 h
theorem Z7f{lv}(hv:Lv lv):lv.length<=3:=by cases hv<;>decide
theorem Ww{c:Col}(hc:c.ok)(hl:c.items.length<=10):c.marks.length<=10:=by
 induction c with
 |ci xs=>show (xs.map YJ).length<=10;rw[List.length_map];exact hl
 |cs xs=>exact hl
 |cf lv xs=>exact Nat.le_trans (Z7f hc.1) (by decide)
theorem Wx(c:Col):c.texts.length=c.items.length:=by
 induction c with
 |ci xs=>exact List.length_map _
 |_=>rfl
noncomputable abbrev v0(pv:D)(ls:List Str):Zc:=[("parts",.fr pv),("levels",.ol (sD ls)),("known",.od (knF 0 ls))]
noncomputable abbrev b0(pv p:D)(ls:List Str):Zc:=[("parts",.fr pv),("levels",.ol (sD ls)),("known",.od (knF 0 ls)),("part",.fr p)]
noncomputable abbrev KF(pv p ts:D)(ls:List Str):Nat->Option (St->List D->List ((Nat->D)->St)):=fun l=>if l=524 then some fun σ O=>[fun O=>⟨v1 pv p ts ls,[],[],σ.pl⟩,fun f=>⟨v2 pv p ts ls (f 0),[],[],σ.pl⟩] else none
def Qm(pv:D)(ls:List Str)(pl:Option Z8):Fl->St->Prop:=fun g σ=>g=.next/\((∃ p ts,σ=⟨v1 pv p ts ls,[],[],pl⟩)\/∃ p ts q,σ=⟨v2 pv p ts ls q,[],[],pl⟩)
theorem Z55(pv:D)(c:Col)(hc:c.ok)(hl:c.items.length<=10)(ls:List Str)(hls:ls.length+10 < LIM)(b:Zc)(hb:b=b0 pv c.val ls\/(∃ ts,b=v1 pv c.val ts ls)\/∃ ts q,b=v2 pv c.val ts ls q)(pl:Option Z8) :
  wpO ((itp 120).exs (sB 91 522) ⟨b,[],[],pl⟩) (Qm pv (Zp ls c.marks) pl):=by
 have hm:=Ww hc hl
 have run:∀ σ:St,(σ=⟨v1 pv c.val (.list c.marks) ls,[],[],pl⟩\/∃ q,σ=⟨v2 pv c.val (.list c.marks) ls q,[],[],pl⟩)->wpO (ZJ ((itp 80).exs (sB 91 524)) (sT 91 524) c.marks σ) fun g τ=>g=.next/\Wb τ [fun O=>⟨v1 pv c.val (.list c.marks) (Zp ls c.marks),[],[],pl⟩,fun f=>⟨v2 pv c.val (.list c.marks) (Zp ls c.marks) (f 0),[],[],pl⟩]:=fun σ h=>
  Zs (XO (Zr (by decide:40<=80)) ((Zr (by decide:40<=80)).exs _) _ _ _) (Z0 (Z54 pv c.val (.list c.marks) pl c.marks ls σ (Wv hc) (by lia) h) fun g τ q=>⟨q.1,by
   rcases q.2 with e|⟨q,e⟩
   ·exact .inl ⟨fun O=>.none,e⟩
   ·exact .inr (.inl ⟨fun O=>q,e⟩)⟩)
 have fin:∀ R:Prop,R->R/\(∀ f:Nat->D,Qm pv (Zp ls c.marks) pl Fl.next ⟨v1 pv c.val (.list c.marks) (Zp ls c.marks),[],[],pl⟩) /\
   (∀ f:Nat->D,Qm pv (Zp ls c.marks) pl Fl.next ⟨v2 pv c.val (.list c.marks) (Zp ls c.marks) (f 0),[],[],pl⟩)/\True:=fun R r=>⟨r,fun f=>⟨rfl,.inl ⟨_,_,rfl⟩⟩,fun f=>⟨rfl,.inr ⟨_,_,_,rfl⟩⟩,trivial⟩
 induction c with
 |ci xs=>
  have hs:=L46 (c:=.ci xs) hc (Nat.le_trans hl (by decide)) pl
  rcases hb with rfl|⟨ts,rfl⟩|⟨ts,q,rfl⟩
  ·exact Zj (A:={c:=80,S:=fun i O=>if i=46 then some (.ol (Col.ci xs).marks) else none,F:=KF pv (Col.ci xs).val (.list (Col.ci xs).marks) (Zp ls (Col.ci xs).marks)}) (n:=40) (Nat.le_of_ble_eq_true rfl)
    (P:=_/\(_/\_)) (by kernel_rfl) ⟨hs,fin _ (run ⟨v1 pv (Col.ci xs).val (.list (Col.ci xs).marks) ls,[],[],pl⟩ (.inl rfl))⟩
  ·exact Zj (A:={c:=80,S:=fun i O=>if i=46 then some (.ol (Col.ci xs).marks) else none,F:=KF pv (Col.ci xs).val (.list (Col.ci xs).marks) (Zp ls (Col.ci xs).marks)}) (n:=40) (Nat.le_of_ble_eq_true rfl)
    (P:=_/\(_/\_)) (by kernel_rfl) ⟨hs,fin _ (run ⟨v1 pv (Col.ci xs).val (.list (Col.ci xs).marks) ls,[],[],pl⟩ (.inl rfl))⟩
  ·exact Zj (A:={c:=80,S:=fun i O=>if i=46 then some (.ol (Col.ci xs).marks) else none,F:=KF pv (Col.ci xs).val (.list (Col.ci xs).marks) (Zp ls (Col.ci xs).marks)}) (n:=40) (Nat.le_of_ble_eq_true rfl)
    (P:=_/\(_/\_)) (by kernel_rfl) ⟨hs,fin _ (run ⟨v2 pv (Col.ci xs).val (.list (Col.ci xs).marks) ls q,[],[],pl⟩ (.inr ⟨_,rfl⟩))⟩
 |cs xs=>
  have hs:=L46 (c:=.cs xs) hc (Nat.le_trans hl (by decide)) pl
  rcases hb with rfl|⟨ts,rfl⟩|⟨ts,q,rfl⟩
  ·exact Zj (A:={c:=80,S:=fun i O=>if i=46 then some (.ol (Col.cs xs).marks) else none,F:=KF pv (Col.cs xs).val (.list (Col.cs xs).marks) (Zp ls (Col.cs xs).marks)}) (n:=40) (Nat.le_of_ble_eq_true rfl)
    (P:=_/\(_/\_)) (by kernel_rfl) ⟨hs,fin _ (run ⟨v1 pv (Col.cs xs).val (.list (Col.cs xs).marks) ls,[],[],pl⟩ (.inl rfl))⟩
  ·exact Zj (A:={c:=80,S:=fun i O=>if i=46 then some (.ol (Col.cs xs).marks) else none,F:=KF pv (Col.cs xs).val (.list (Col.cs xs).marks) (Zp ls (Col.cs xs).marks)}) (n:=40) (Nat.le_of_ble_eq_true rfl)
    (P:=_/\(_/\_)) (by kernel_rfl) ⟨hs,fin _ (run ⟨v1 pv (Col.cs xs).val (.list (Col.cs xs).marks) ls,[],[],pl⟩ (.inl rfl))⟩
  ·exact Zj (A:={c:=80,S:=fun i O=>if i=46 then some (.ol (Col.cs xs).marks) else none,F:=KF pv (Col.cs xs).val (.list (Col.cs xs).marks) (Zp ls (Col.cs xs).marks)}) (n:=40) (Nat.le_of_ble_eq_true rfl)
    (P:=_/\(_/\_)) (by kernel_rfl) ⟨hs,fin _ (run ⟨v2 pv (Col.cs xs).val (.list (Col.cs xs).marks) ls q,[],[],pl⟩ (.inr ⟨_,rfl⟩))⟩
 |cf lw xs=>
  rcases hb with rfl|⟨ts,rfl⟩|⟨ts,q,rfl⟩
  ·exact Zj (A:={c:=80,F:=KF pv (Col.cf lw xs).val (.list lw) (Zp ls lw)}) (n:=40) (Nat.le_of_ble_eq_true rfl)
    (P:=_/\_) (by kernel_rfl) (fin _ (run ⟨v1 pv (Col.cf lw xs).val (.list lw) ls,[],[],pl⟩ (.inl rfl)))
  ·exact Zj (A:={c:=80,F:=KF pv (Col.cf lw xs).val (.list lw) (Zp ls lw)}) (n:=40) (Nat.le_of_ble_eq_true rfl)
    (P:=_/\_) (by kernel_rfl) (fin _ (run ⟨v1 pv (Col.cf lw xs).val (.list lw) ls,[],[],pl⟩ (.inl rfl)))
  ·exact Zj (A:={c:=80,F:=KF pv (Col.cf lw xs).val (.list lw) (Zp ls lw)}) (n:=40) (Nat.le_of_ble_eq_true rfl)
    (P:=_/\_) (by kernel_rfl) (fin _ (run ⟨v2 pv (Col.cf lw xs).val (.list lw) ls q,[],[],pl⟩ (.inr ⟨_,rfl⟩)))
noncomputable abbrev cA(pv p ts:D)(ls:List Str)(q:D)(cd:List D):Zc:=[("parts",.fr pv),("levels",.ol (sD ls)),("known",.od (knF 0 ls)),("part",.fr p),("texts",.fr ts),("one",.fr q),("codes",.ol cd)]
noncomputable abbrev cB(pv p ts:D)(ls:List Str)(cd:List D):Zc:=[("parts",.fr pv),("levels",.ol (sD ls)),("known",.od (knF 0 ls)),("part",.fr p),("texts",.fr ts),("codes",.ol cd)]
noncomputable abbrev cC(pv p ts:D)(ls:List Str)(cd:List D)(q:D):Zc:=[("parts",.fr pv),("levels",.ol (sD ls)),("known",.od (knF 0 ls)),("part",.fr p),("texts",.fr ts),("codes",.ol cd),("one",.fr q)]
def InL(ls:List Str)(d:D):Prop:=d=.none\/∃ s,d=.str s/\s∈ls
theorem Z56(pv p ts)(ls)(d)(hd:InL ls d)(cd)(hl:cd.length < LIM)(pl) :
  wpO ((itp 40).exs (sB 91 530) ⟨cA pv p ts ls d cd,[],[],pl⟩) fun g σ=>g=.next/\σ=⟨cA pv p ts ls d (cd++[Zd (sD ls) d]),[],[],pl⟩:=by
 rcases hd with rfl|⟨s,rfl,hs⟩
 ·refine Zj (A:={c:=20}) (n:=20) (Nat.le_of_ble_eq_true rfl) (P:=cnd (decide (cd.length < LIM)) (Fl.next=Fl.next/\(⟨cA pv p ts ls .none (cd++[.none]),[],[],pl⟩:St)=⟨cA pv p ts ls .none (cd++[Zd (sD ls) .none]),[],[],pl⟩) False) (by kernel_rfl) (ZP hl ⟨rfl,rfl⟩)
 ·refine Zj (A:={c:=20}) (n:=20) (Nat.le_of_ble_eq_true rfl) (P:=Ze (YA s (knF 0 ls)) fun v=>cnd (decide (cd.length < LIM)) (Fl.next=Fl.next/\(⟨cA pv p ts ls (.str s) (cd++[v]),[],[],pl⟩:St)=⟨cA pv p ts ls (.str s) (cd++[Zd (sD ls) (.str s)]),[],[],pl⟩) False) (by kernel_rfl) ?_
  rw[WR s 0 ls hs,Nat.zero_add]
  exact ZP hl ⟨rfl,rfl⟩
theorem Z57(pv p ts)(ls)(d)(hd:InL ls d)(cd)(hl:cd.length < LIM)(pl) :
  wpO ((itp 40).exs (sB 91 530) ⟨cC pv p ts ls cd d,[],[],pl⟩) fun g σ=>g=.next/\σ=⟨cC pv p ts ls (cd++[Zd (sD ls) d]) d,[],[],pl⟩:=by
 rcases hd with rfl|⟨s,rfl,hs⟩
 ·refine Zj (A:={c:=20}) (n:=20) (Nat.le_of_ble_eq_true rfl) (P:=cnd (decide (cd.length < LIM)) (Fl.next=Fl.next/\(⟨cC pv p ts ls (cd++[.none]) .none,[],[],pl⟩:St)=⟨cC pv p ts ls (cd++[Zd (sD ls) .none]) .none,[],[],pl⟩) False) (by kernel_rfl) (ZP hl ⟨rfl,rfl⟩)
 ·refine Zj (A:={c:=20}) (n:=20) (Nat.le_of_ble_eq_true rfl) (P:=Ze (YA s (knF 0 ls)) fun v=>cnd (decide (cd.length < LIM)) (Fl.next=Fl.next/\(⟨cC pv p ts ls (cd++[v]) (.str s),[],[],pl⟩:St)=⟨cC pv p ts ls (cd++[Zd (sD ls) (.str s)]) (.str s),[],[],pl⟩) False) (by kernel_rfl) ?_
  rw[WR s 0 ls hs,Nat.zero_add]
  exact ZP hl ⟨rfl,rfl⟩
def Jc(pv p ts:D)(ls:List Str)(pl:Option Z8)(a:Bool)(cd:List D)(σ:St):Prop:=match a with
 |true=>∃ q,σ=⟨cA pv p ts ls q cd,[],[],pl⟩
 |false=>σ=⟨cB pv p ts ls cd,[],[],pl⟩\/∃ q,σ=⟨cC pv p ts ls cd q,[],[],pl⟩
theorem WS{α β:Type}(f:α->β)(xs:List α):∀ (a:List β),xs.foldl (fun a x=>a++[f x]) a=a++xs.map f:=by
 induction xs with
 |nil=>intro a;exact (List.append_nil a).symm
 |cons x xs ih=>
  intro a
  simp only[List.foldl_cons,ih,List.map_cons,List.append_assoc];rfl
theorem Z58(pv p ts)(pl)(a)(ds)(ls)(cd)(σ)(hd:∀ d∈ds,InL ls d)(hl:cd.length+ds.length < LIM)(hσ:Jc pv p ts ls pl a cd σ) :
  wpO (ZJ ((itp 40).exs (sB 91 530)) (sT 91 530) ds σ) fun g τ=>g=.next/\Jc pv p ts ls pl a (cd++ds.map (Zd (sD ls))) τ:=by
 have k:=ZG (α:=List D) (β:=D) (body:=(itp 40).exs (sB 91 530)) (t:=sT 91 530) id (fun cd σ=>Jc pv p ts ls pl a cd σ) (fun cd d=>cd++[Zd (sD ls) d])
  (fun cd ds=>(∀ d∈ds,InL ls d)/\cd.length+ds.length < LIM) (fun cd d ds σ ok h=>?_) ds cd σ ⟨hd,hl⟩ hσ
 ·rw[List.map_id,WS] at k;exact k
 ·obtain ⟨hd,hl⟩:=ok
  rw[List.length_cons] at hl
  refine ⟨⟨fun d h=>hd d (List.mem_cons_of_mem _ h),by rw[List.length_append];show _+1+_ < _;lia⟩,?_⟩
  induction a with
  |true=>
   obtain ⟨q,rfl⟩:=h
   have e:Zl (sT 91 530) (id d) ⟨cA pv p ts ls q cd,[],[],pl⟩=.ok () ⟨cA pv p ts ls d cd,[],[],pl⟩:=by kernel_rfl
   rw[e]
   exact ZF (Z0 (Z56 pv p ts ls d (hd d List.mem_cons_self) cd (by lia) pl) fun g σ q=>⟨.inl q.1,_,q.2⟩)
  |false=>
   have e:Zl (sT 91 530) (id d) σ=.ok () ⟨cC pv p ts ls cd d,[],[],pl⟩:=by
    rcases h with rfl|⟨q,rfl⟩<;>kernel_rfl
   rw[e]
   exact ZF (Z0 (Z57 pv p ts ls d (hd d List.mem_cons_self) cd (by lia) pl) fun g σ q=>⟨.inl q.1,.inr ⟨_,q.2⟩⟩)
noncomputable abbrev ZbD(pv p ts:D)(ls:List Str)(cd:List D):Nat->Option (St->List D->List ((Nat->D)->St)):=fun l=>if l=530 then some fun σ O=>[fun f=>⟨cA pv p ts ls (f 0) cd,[],[],σ.pl⟩] else none
noncomputable abbrev Z8O(pv p ts:D)(ls:List Str)(cd:List D):Nat->Option (St->List D->List ((Nat->D)->St)):=fun l=>if l=530 then some fun σ O=>[fun f=>⟨cB pv p ts ls cd,[],[],σ.pl⟩,fun f=>⟨cC pv p ts ls cd (f 0),[],[],σ.pl⟩] else none
theorem Z7g(pv ts:D)(c:Col)(hc:c.ok)(hl:c.items.length<=10)(ls:List Str)(hi:∀ d∈c.texts,InL ls d)(cd:List D)(hcd:cd.length+10 < LIM)(a:Bool)(b:St)(pl:Option Z8)(hb:Jc pv c.val ts ls pl a cd b) :
  wpO ((itp 120).exs (sB 91 529) b) fun g σ=>g=.next/\Jc pv c.val ts ls pl a (cd++c.texts.map (Zd (sD ls))) σ:=by
 have hs:=L46 hc (Nat.le_trans hl (by decide)) pl
 have ht:=Wx c
 have run:∀ σ:St,Jc pv c.val ts ls pl a cd σ->wpO (ZJ ((itp 80).exs (sB 91 530)) (sT 91 530) c.texts σ) fun g τ=>g=.next/\Jc pv c.val ts ls pl a (cd++c.texts.map (Zd (sD ls))) τ:=fun σ h=>
  Zs (XO (Zr (by decide:40<=80)) ((Zr (by decide:40<=80)).exs _) _ _ _) (Z58 pv c.val ts pl a c.texts ls cd σ hi (by lia) h)
 induction a with
 |true=>
  obtain ⟨q,rfl⟩:=hb
  refine Zj (A:={c:=80,S:=fun i O=>if i=46 then some (.ol c.texts) else none,F:=ZbD pv c.val ts ls (cd++c.texts.map (Zd (sD ls)))}) (n:=40) (Nat.le_of_ble_eq_true rfl)
   (P:=(itp 80).call 46 [c.val] pl=.ok (.ol c.texts) pl/\wpO (ZJ ((itp 80).exs (sB 91 530)) (sT 91 530) c.texts ⟨cA pv c.val ts ls q cd,[],[],pl⟩) (fun g τ=>g=.next/\Wb τ [fun f=>⟨cA pv c.val ts ls (f 0) (cd++c.texts.map (Zd (sD ls))),[],[],pl⟩]) /\
    (∀ f:Nat->D,Fl.next=Fl.next/\Jc pv c.val ts ls pl true (cd++c.texts.map (Zd (sD ls))) ⟨cA pv c.val ts ls (f 0) (cd++c.texts.map (Zd (sD ls))),[],[],pl⟩)/\True) (by kernel_rfl) ?_
  refine ⟨hs,Z0 (run _ ⟨_,rfl⟩) fun g τ h=>⟨h.1,?_⟩,fun f=>⟨rfl,_,rfl⟩,trivial⟩
  obtain ⟨q,e⟩:=h.2
  exact .inl ⟨fun O=>q,e⟩
 |false=>
  have mem:∀ τ,Jc pv c.val ts ls pl false (cd++c.texts.map (Zd (sD ls))) τ->Wb τ [fun O=>⟨cB pv c.val ts ls (cd++c.texts.map (Zd (sD ls))),[],[],pl⟩,fun f=>⟨cC pv c.val ts ls (cd++c.texts.map (Zd (sD ls))) (f 0),[],[],pl⟩]:=fun τ h=>by
   rcases h with e|⟨q,e⟩
   ·exact .inl ⟨fun O=>.none,e⟩
   ·exact .inr (.inl ⟨fun O=>q,e⟩)
  have fin:∀ R:Prop,R->R/\(∀ f:Nat->D,Fl.next=Fl.next/\Jc pv c.val ts ls pl false (cd++c.texts.map (Zd (sD ls))) ⟨cB pv c.val ts ls (cd++c.texts.map (Zd (sD ls))),[],[],pl⟩) /\
    (∀ f:Nat->D,Fl.next=Fl.next/\Jc pv c.val ts ls pl false (cd++c.texts.map (Zd (sD ls))) ⟨cC pv c.val ts ls (cd++c.texts.map (Zd (sD ls))) (f 0),[],[],pl⟩)/\True:=fun R r=>⟨r,fun f=>⟨rfl,.inl rfl⟩,fun f=>⟨rfl,.inr ⟨_,rfl⟩⟩,trivial⟩
  have run2:∀ σ:St,Jc pv c.val ts ls pl false cd σ->wpO (ZJ ((itp 80).exs (sB 91 530)) (sT 91 530) c.texts σ) (fun g τ=>g=.next/\Wb τ [fun O=>⟨cB pv c.val ts ls (cd++c.texts.map (Zd (sD ls))),[],[],pl⟩,fun f=>⟨cC pv c.val ts ls (cd++c.texts.map (Zd (sD ls))) (f 0),[],[],pl⟩]):=fun σ h=>Z0 (run σ h) fun g τ h=>⟨h.1,mem τ h.2⟩
  rcases hb with rfl|⟨q,rfl⟩
  ·exact Zj (A:={c:=80,S:=fun i O=>if i=46 then some (.ol c.texts) else none,F:=Z8O pv c.val ts ls (cd++c.texts.map (Zd (sD ls)))}) (n:=40) (Nat.le_of_ble_eq_true rfl)
    (P:=_/\(_/\_)) (by kernel_rfl) ⟨hs,fin _ (run2 ⟨cB pv c.val ts ls cd,[],[],pl⟩ (.inl rfl))⟩
  ·exact Zj (A:={c:=80,S:=fun i O=>if i=46 then some (.ol c.texts) else none,F:=Z8O pv c.val ts ls (cd++c.texts.map (Zd (sD ls)))}) (n:=40) (Nat.le_of_ble_eq_true rfl)
    (P:=_/\(_/\_)) (by kernel_rfl) ⟨hs,fin _ (run2 ⟨cC pv c.val ts ls cd q,[],[],pl⟩ (.inr ⟨_,rfl⟩))⟩
def Col.small(c:Col):Prop:=c.ok/\c.items.length<=10
noncomputable def Ym(ls:List Str)(cols:List Col):List Str:=cols.foldl (fun ls c=>Zp ls c.marks) ls
def Jm(pv:D)(pl:Option Z8)(a:Bool × List Str)(σ:St):Prop:=match a with
 |(false,ls)=>σ=⟨v0 pv ls,[],[],pl⟩
 |(true,ls)=>(∃ p ts,σ=⟨v1 pv p ts ls,[],[],pl⟩)\/∃ p ts q,σ=⟨v2 pv p ts ls q,[],[],pl⟩
theorem VI(cols):∀ (b:Bool) (ls:List Str),cols.foldl (fun (a:Bool × List Str) c=>(true,Zp a.2 c.marks)) (b,ls)=(b||!cols.isEmpty,Ym ls cols):=by
 induction cols with
 |nil=>intro b ls;rw[List.foldl_nil];simp[Ym]
 |cons c cols ih=>
  intro b ls
  simp only[List.foldl_cons,ih];simp[Ym]
theorem Z59(pv)(pl)(cols)(hc:∀ c∈cols,c.small)(hn:cols.length<=100)(b)(ls)(hls:ls.length+10*cols.length+10 < LIM)(σ)(hσ:Jm pv pl (b,ls) σ) :
  wpO (ZJ ((itp 120).exs (sB 91 522)) (sT 91 522) (cols.map Col.val) σ) fun g τ=>g=.next/\Jm pv pl (b||!cols.isEmpty,Ym ls cols) τ:=by
 have k:=ZG (α:=Bool × List Str) (β:=Col) (body:=(itp 120).exs (sB 91 522)) (t:=sT 91 522) Col.val (Jm pv pl) (fun a c=>(true,Zp a.2 c.marks))
  (fun a cols=>(∀ c∈cols,c.small)/\a.2.length+10*cols.length+10 < LIM) (fun a c cols σ ok h=>?_) cols (b,ls) σ ⟨hc,hls⟩ hσ
 ·rw[VI] at k;exact k
 ·obtain ⟨hc,hl⟩:=ok
  rw[List.length_cons] at hl
  obtain ⟨h1,h2⟩:=hc c List.mem_cons_self
  have h3:=Us c.marks a.2
  have h4:=Ww h1 h2
  refine ⟨⟨fun d h=>hc d (List.mem_cons_of_mem _ h),by show (Zp a.2 c.marks).length+_+_ < _;lia⟩,?_⟩
  obtain ⟨b,ls⟩:=a
  have key:∃ v,Zl (sT 91 522) c.val σ=.ok () ⟨v,[],[],pl⟩/\(v=b0 pv c.val ls\/(∃ ts,v=v1 pv c.val ts ls)\/∃ ts q,v=v2 pv c.val ts ls q):=by
   induction b with
   |false=>subst h;exact ⟨b0 pv c.val ls,by kernel_rfl,.inl rfl⟩
   |true=>
    rcases h with ⟨p,ts,rfl⟩|⟨p,ts,q,rfl⟩
    ·exact ⟨v1 pv c.val ts ls,by kernel_rfl,.inr (.inl ⟨_,rfl⟩)⟩
    ·exact ⟨v2 pv c.val ts ls q,by kernel_rfl,.inr (.inr ⟨_,_,rfl⟩)⟩
  obtain ⟨v,e,hv⟩:=key
  have hl:ls.length+10*(cols.length+1)+10 < LIM:=hl
  rw[e]
  exact ZF (Z0 (Z55 pv c h1 h2 ls (by show ls.length+_ < _;lia) v hv pl) fun g σ q=>⟨.inl q.1,q.2⟩)
theorem Z5a(pv ts:D)(pl:Option Z8)(a:Bool)(cols:List Col)(hc:∀ c∈cols,c.small)(ls:List Str)(hi:∀ c∈cols,∀ d∈c.texts,InL ls d)(hn:cols.length<=100)(cd:List D)(hcd:cd.length+10*cols.length+10 < LIM)(σ:St)(hσ:∃ p,Jc pv p ts ls pl a cd σ) :
  wpO (ZJ ((itp 120).exs (sB 91 529)) (sT 91 529) (cols.map Col.val) σ) fun g τ=>g=.next/\∃ p,Jc pv p ts ls pl a (cd++(cols.flatMap Col.texts).map (Zd (sD ls))) τ:=by
 have k:=ZG (α:=List D) (β:=Col) (body:=(itp 120).exs (sB 91 529)) (t:=sT 91 529) Col.val (fun cd σ=>∃ p,Jc pv p ts ls pl a cd σ) (fun cd c=>cd++c.texts.map (Zd (sD ls)))
  (fun cd cols=>(∀ c∈cols,c.small)/\(∀ c∈cols,∀ d∈c.texts,InL ls d)/\cd.length+10*cols.length+10 < LIM) (fun cd c cols σ ok h=>?_) cols cd σ ⟨hc,hi,hcd⟩ hσ
 ·have e:∀ (cols:List Col) (cd:List D),cols.foldl (fun cd c=>cd++c.texts.map (Zd (sD ls))) cd=cd++(cols.flatMap Col.texts).map (Zd (sD ls)):=fun cols=>by
   induction cols with
   |nil=>intro cd;simp
   |cons c cols ih=>intro cd;simp only[List.foldl_cons,ih,List.flatMap_cons,List.map_append,List.append_assoc]
  rw[e] at k;exact k
 ·obtain ⟨hc,hi,hl⟩:=ok
  rw[List.length_cons] at hl
  obtain ⟨h1,h2⟩:=hc c List.mem_cons_self
  have h3:=Wx c
  refine ⟨⟨fun d h=>hc d (List.mem_cons_of_mem _ h),fun d h=>hi d (List.mem_cons_of_mem _ h),by rw[List.length_append,List.length_map];lia⟩,?_⟩
  obtain ⟨p,h⟩:=h
  have key:∃ v,Zl (sT 91 529) c.val σ=.ok () v/\Jc pv c.val ts ls pl a cd v:=by
   induction a with
   |true=>obtain ⟨q,rfl⟩:=h;exact ⟨⟨cA pv c.val ts ls q cd,[],[],pl⟩,by kernel_rfl,_,rfl⟩
   |false=>
    rcases h with rfl|⟨q,rfl⟩
    ·exact ⟨⟨cB pv c.val ts ls cd,[],[],pl⟩,by kernel_rfl,.inl rfl⟩
    ·exact ⟨⟨cC pv c.val ts ls cd q,[],[],pl⟩,by kernel_rfl,.inr ⟨_,rfl⟩⟩
  obtain ⟨v,e,hv⟩:=key
  rw[e]
  exact ZF (Z0 (Z7g pv ts c h1 h2 ls (hi c List.mem_cons_self) cd (by lia) a v pl hv) fun g σ q=>⟨.inl q.1,_,q.2⟩)
theorem Z5b(ls)(d):(∀ s∈ls,s∈Xu ls d)/\∀ s,d=.str s->s∈Xu ls d:=by
 unfold Xu
 cases q:d.s? with
 |none=>exact ⟨fun O h=>h,fun s e=>by subst e;exact Z3 q.symm⟩
 |some t=>
  dsimp only
  have z:∀ s,d=.str s->s=t:=fun s e=>by subst e;exact Option.some.inj q
  by_cases h:t∈ls
  ·rw[if_pos h];exact ⟨fun O h=>h,fun s e=>z s e▸h⟩
  ·rw[if_neg h];exact ⟨fun O h=>List.mem_append_left _ h,fun s e=>z s e▸List.mem_append_right _ List.mem_cons_self⟩
theorem Z1B(ts):∀ (ls:List Str),(∀ s∈ls,s∈Zp ls ts)/\∀ s,D.str s∈ts->s∈Zp ls ts:=by
 induction ts with
 |nil=>intro ls;exact ⟨fun O h=>h,fun s h=>by cases h⟩
 |cons d ts ih=>
  intro ls
  obtain ⟨h1,h2⟩:=ih (Xu ls d)
  obtain ⟨h3,h4⟩:=Z5b ls d
  refine ⟨fun s h=>h1 s (h3 s h),fun s h=>?_⟩
  rcases List.mem_cons.mp h with h|h
  ·exact h1 s (h4 s h.symm)
  ·exact h2 s h
theorem V5(cols):∀ (ls:List Str),(∀ s∈ls,s∈Ym ls cols)/\∀ c∈cols,∀ s,D.str s∈c.marks->s∈Ym ls cols:=by
 induction cols with
 |nil=>intro ls;exact ⟨fun O h=>h,fun s h=>by cases h⟩
 |cons c cols ih=>
  intro ls
  obtain ⟨h1,h2⟩:=ih (Zp ls c.marks)
  obtain ⟨h3,h4⟩:=Z1B c.marks ls
  refine ⟨fun s h=>h1 s (h3 s h),fun e he s h=>?_⟩
  rcases List.mem_cons.mp he with rfl|he
  ·exact h1 s (h4 s h)
  ·exact h2 e he s h
theorem Z0r{c:Col}(hc:c.ok){ls:List Str}(h:∀ s,D.str s∈c.marks->s∈ls):∀ d∈c.texts,InL ls d:=by
 induction c with
 |ci xs=>
  intro d hd
  rcases Wv (c:=.ci xs) hc d hd with rfl|⟨s,rfl,O⟩
  ·exact .inl rfl
  ·exact .inr ⟨s,rfl,h s hd⟩
 |cs xs=>
  intro d hd
  rcases Wv (c:=.cs xs) hc d hd with rfl|⟨s,rfl,O⟩
  ·exact .inl rfl
  ·exact .inr ⟨s,rfl,h s hd⟩
 |cf lv xs=>
  intro d hd
  rcases hc.2 d hd with rfl|⟨s,rfl,h2⟩
  ·exact .inl rfl
  ·exact .inr ⟨s,rfl,h s h2⟩
noncomputable abbrev F91(pv:D)(ls:List Str)(cd:List D):Nat->Option (St->List D->List ((Nat->D)->St)):=fun l=>
 if l=522 then some fun σ O=>[fun f=>⟨v1 pv (f 0) (f 1) ls,[],[],σ.pl⟩,fun f=>⟨v2 pv (f 0) (f 1) ls (f 2),[],[],σ.pl⟩]
 else if l=529 then some fun σ O=>(match ZM "one" σ.vars with
  |some O=>[fun f=>⟨cA pv (f 0) (f 1) ls (f 2) cd,[],[],σ.pl⟩]
  |none=>[fun f=>⟨cB pv (f 0) (f 1) ls cd,[],[],σ.pl⟩,fun f=>⟨cC pv (f 0) (f 1) ls cd (f 2),[],[],σ.pl⟩])
 else none
noncomputable def Z5c(a b c:D):Nat->D:=fun O=>match O with
 |0=>a
 |1=>b
 |O=>c
theorem L91{lw xs}{cols}(hc:∀ c∈Col.cf lw xs::cols,c.small)(hn:cols.length<=5){ls}(els:ls=Ym [] (.cf lw xs::cols)){cd}(ecd:cd=((Col.cf lw xs::cols).flatMap Col.texts).map (Zd (sD ls)))(pl:Option Z8) :
  (itp 160).call 91 [.list ((Col.cf lw xs::cols).map Col.val)] pl=.ok (.ov (.str "integer") (.list cd) (fA (sD ls)) false) pl:=by
 have hi:∀ c∈Col.cf lw xs::cols,∀ d∈c.texts,InL ls d:=fun c h=>Z0r (hc c h).1 (fun s hs=>by rw[els];exact (V5 _ []).2 c h s hs)
 have hb:∀ k,k<=200->k < LIM:=fun k h=>Nat.lt_of_le_of_lt h (by decide)
 have run1:=Z59 (.list ((Col.cf lw xs::cols).map Col.val)) pl (Col.cf lw xs::cols) hc (by rw[List.length_cons];lia) false [] (hb _ (by simp only[List.length_cons,List.length_nil];lia)) ⟨v0 (.list ((Col.cf lw xs::cols).map Col.val)) [],[],[],pl⟩ rfl
 rw[<-els] at run1
 have run2:=fun (a:Bool) ts σ h=>Z5a (.list ((Col.cf lw xs::cols).map Col.val)) ts pl a (Col.cf lw xs::cols) hc ls hi (by rw[List.length_cons];lia) [] (hb _ (by simp only[List.length_cons,List.length_nil];lia)) σ h
 rw[<-ecd,List.nil_append] at run2
 refine ZX (A:={c:=120,F:=F91 (.list ((Col.cf lw xs::cols).map Col.val)) ls cd}) (n:=40) (Nat.le_of_ble_eq_true rfl)
  (P:=wpO (ZJ ((itp 120).exs (sB 91 522)) (sT 91 522) ((Col.cf lw xs::cols).map Col.val) ⟨v0 (.list ((Col.cf lw xs::cols).map Col.val)) [],[],[],pl⟩) (fun g τ=>g=.next/\Wb τ [fun f=>⟨v1 (.list ((Col.cf lw xs::cols).map Col.val)) (f 0) (f 1) ls,[],[],pl⟩,fun f=>⟨v2 (.list ((Col.cf lw xs::cols).map Col.val)) (f 0) (f 1) ls (f 2),[],[],pl⟩]) /\
   (∀ f:Nat->D,wpO (ZJ ((itp 120).exs (sB 91 529)) (sT 91 529) ((Col.cf lw xs::cols).map Col.val) ⟨cB (.list ((Col.cf lw xs::cols).map Col.val)) (f 0) (f 1) ls [],[],[],pl⟩) (fun g τ=>g=.next/\Wb τ [fun f=>⟨cB (.list ((Col.cf lw xs::cols).map Col.val)) (f 0) (f 1) ls cd,[],[],pl⟩,fun f=>⟨cC (.list ((Col.cf lw xs::cols).map Col.val)) (f 0) (f 1) ls cd (f 2),[],[],pl⟩]) /\
    (∀ f:Nat->D,Zt (.ov (.str "integer") (.list cd) (fA (sD ls)) false) pl (.ov (.str "integer") (.list cd) (fA (sD ls)) false) pl)/\(∀ f:Nat->D,Zt (.ov (.str "integer") (.list cd) (fA (sD ls)) false) pl (.ov (.str "integer") (.list cd) (fA (sD ls)) false) pl)/\True) /\
   (∀ f:Nat->D,wpO (ZJ ((itp 120).exs (sB 91 529)) (sT 91 529) ((Col.cf lw xs::cols).map Col.val) ⟨cA (.list ((Col.cf lw xs::cols).map Col.val)) (f 0) (f 1) ls (f 2) [],[],[],pl⟩) (fun g τ=>g=.next/\Wb τ [fun f=>⟨cA (.list ((Col.cf lw xs::cols).map Col.val)) (f 0) (f 1) ls (f 2) cd,[],[],pl⟩]) /\
    (∀ f:Nat->D,Zt (.ov (.str "integer") (.list cd) (fA (sD ls)) false) pl (.ov (.str "integer") (.list cd) (fA (sD ls)) false) pl)/\True)/\True) (by kernel_rfl) ?_
 refine ⟨Z0 run1 fun g τ q=>⟨q.1,?_⟩,fun f=>⟨Z0 (run2 false (f 1) _ ⟨f 0,.inl rfl⟩) fun g τ q=>⟨q.1,?_⟩,fun O=>⟨rfl,rfl⟩,fun O=>⟨rfl,rfl⟩,trivial⟩,fun f=>⟨Z0 (run2 true (f 1) _ ⟨f 0,_,rfl⟩) fun g τ q=>⟨q.1,?_⟩,fun O=>⟨rfl,rfl⟩,trivial⟩,trivial⟩
 ·rcases q.2 with ⟨p,ts,e⟩|⟨p,ts,k,e⟩
  ·exact .inl ⟨Z5c p ts ts,e⟩
  ·exact .inr (.inl ⟨Z5c p ts k,e⟩)
 ·obtain ⟨p,e|⟨k,e⟩⟩:=q.2
  ·exact .inl ⟨Z5c p (f 1) p,e⟩
  ·exact .inr (.inl ⟨Z5c p (f 1) k,e⟩)
 ·obtain ⟨p,k,e⟩:=q.2
  exact .inl ⟨Z5c p (f 1) k,e⟩
theorem L72(xs)(hx:∀ d∈xs,Yl d)(hl:xs.length<=LIM)(pl):(itp 80).call 72 [vI xs,.str "character",.list []] pl=.ok (.fr (vC (xs.map YJ))) pl:=by
 refine ZX (A:={c:=40,C:=fun l=>if l=443 then some fun up xs=>(xs.map YJ,up) else none}) (n:=40) (Nat.le_of_ble_eq_true rfl)
  (P:=wpO (Zh (itp 40) (cT 72 443) [] (cE 72 443) xs ⟨[],[("v",.fr (vI xs)),("kind",.fr (.str "character")),("notes",.fr (.list [])),("items",.fr (.list xs))],["item"],pl⟩) (fun ds σ=>ds=xs.map YJ/\σ.up=([("v",.fr (vI xs)),("kind",.fr (.str "character")),("notes",.fr (.list [])),("items",.fr (.list xs))]:Zc)/\σ.pl=pl)/\(xs.map YJ).length<=LIM/\Zt (.fr (vC (xs.map YJ))) pl (.fr (vC (xs.map YJ))) pl) (by kernel_rfl) ⟨?_,by rw[List.length_map];exact hl,rfl,rfl⟩
 refine Y5 (by kernel_rfl) YJ (fun d hd=>?_) fun σ hu hp=>⟨rfl,hu,hp⟩
 have hd:=hx d hd
 cases hd<;>exact YI 20 (by kernel_rfl)
noncomputable def Z7h(cs:List D):D->List D:=fun O=>match O with
 |.dict ((O,.vec U (.list lv) V)::O1)=>cs.map (JG lv)
 |O=>[]
theorem Z3s{lv xs:List D}(hv:Lv lv)(hx:∀ d∈xs,WH lv d):(xs.map (Zd lv)).map (JG lv)=xs:=by
 rw[List.map_map]
 refine (List.map_congr_left fun d hd=>?_).trans (List.map_id _)
 have:=Up hv (hx d hd)
 cases this<;>rfl
noncomputable def S92:Nat->List D->Option LV:=fun i ds=>
 if i=46 then (match ds with
  |[.vec O (.list cs) a]=>some (.ol (Z7h cs a))
  |O=>none)
 else if i=72 then (match ds with
  |[.vec O (.list cs) U,V,O1]=>some (.fr (vC (cs.map YJ)))
  |O=>none)
 else none
noncomputable def Col.txs:Col->List D:=fun O=>match O with
 |.ci xs=>xs.map YJ
 |.cs xs=>xs
 |.cf lv xs=>(xs.map (Zd lv)).map (JG lv)
def o46(c:Nat)(pl:Option Z8):List Col->Prop->Prop:=fun O U=>match O,U with
 |[],R=>R
 |.cf lv xs::r,R=>(itp c).call 46 [(Col.cf lv xs).val] pl=.ok (.ol (Col.cf lv xs).txs) pl/\o46 c pl r R
 |O::r,R=>o46 c pl r R
def Z5d(c:Nat)(pl:Option Z8):List D->List Col->(List D->Prop)->Prop:=fun O U V=>match O,U,V with
 |acc,[],R=>R acc
 |acc,.ci xs::r,R=>(itp c).call 72 [(Col.ci xs).val,.str "character",.list []] pl=.ok (.fr (vC (Col.ci xs).txs)) pl/\cnd (decide (acc.length+(Col.ci xs).txs.length<=LIM)) (Z5d c pl (acc++(Col.ci xs).txs) r R) False
 |acc,c'::r,R=>cnd (decide (acc.length+c'.txs.length<=LIM)) (Z5d c pl (acc++c'.txs) r R) False
def Z7i:List D->List Col->(List D->Prop)->Prop:=fun O U V=>match O,U,V with
 |acc,[],R=>R acc
 |acc,c'::r,R=>cnd (decide (acc.length+c'.items.length<=LIM)) (Z7i (acc++c'.items) r R) False
theorem Z5e{c:Col}(hc:c.ok):c.txs=c.texts:=by
 induction c with
 |cf lv xs=>exact Z3s hc.1 hc.2
 |_=>rfl
theorem KG{c}(h:80<=c){pl}{R}(r:R):∀ {cols:List Col},(∀ c∈cols,c.small)->o46 c pl cols R
 |[],O=>r
 |.ci xs::cols,hc=>KG h (cols:=cols) r fun c k=>hc c (List.mem_cons_of_mem _ k)
 |.cs xs::cols,hc=>KG h (cols:=cols) r fun c k=>hc c (List.mem_cons_of_mem _ k)
 |.cf lv xs::cols,hc=>⟨by
   obtain ⟨h1,h2⟩:=hc _ List.mem_cons_self
   rw[Z5e h1]
   exact Zg h (L46 h1 (Nat.le_trans h2 (by decide)) pl),KG h (cols:=cols) r fun c k=>hc c (List.mem_cons_of_mem _ k)⟩
theorem Z2M{c}(h:80<=c){pl}{R:List D->Prop}:∀ {cols:List Col} {acc:List D},(∀ c∈cols,c.small)->acc.length+10*cols.length<=LIM->R (acc++cols.flatMap Col.texts)->Z5d c pl acc cols R
 |[],acc,O,U,r=>by rw[List.flatMap_nil,List.append_nil] at r;exact r
 |c'::cols,acc,hc,hl,r=>by
  obtain ⟨h1,h2⟩:=hc _ List.mem_cons_self
  have e:=Z5e h1
  have h3:=Wx c'
  rw[List.length_cons] at hl
  have next:cnd (decide (acc.length+c'.txs.length<=LIM)) (Z5d c pl (acc++c'.txs) cols R) False:=by
   rw[e]
   refine ZP (by lia) (Z2M h (fun c k=>hc c (List.mem_cons_of_mem _ k)) (by rw[List.length_append];lia) ?_)
   rw[List.flatMap_cons,<-List.append_assoc] at r
   exact r
  cases c' with
  |ci xs=>exact ⟨Zg h (L72 xs h1 (Nat.le_trans h2 (by decide)) pl),next⟩
  |cs xs=>exact next
  |cf lv xs=>exact next
theorem Z2N{R}:∀ {cols:List Col} {acc:List D},(∀ c∈cols,c.small)->acc.length+10*cols.length<=LIM->R (acc++cols.flatMap Col.items)->Z7i acc cols R
 |[],acc,O,U,r=>by rw[List.flatMap_nil,List.append_nil] at r;exact r
 |c'::cols,acc,hc,hl,r=>by
  obtain ⟨h1,h2⟩:=hc _ List.mem_cons_self
  rw[List.length_cons] at hl
  refine ZP (by lia) (Z2N (fun c k=>hc c (List.mem_cons_of_mem _ k)) (by rw[List.length_append];lia) ?_)
  rw[List.flatMap_cons,<-List.append_assoc] at r
  exact r
noncomputable def Col.isI:Col->Bool:=fun O=>match O with
 |.ci O=>true
 |O=>false
noncomputable def Col.isF:Col->Bool:=fun O=>match O with
 |.cf O U=>true
 |O=>false
abbrev ZbE(R:LV)(pl:Option Z8)(cols:List Col):Prop:=cols.all Col.isI=false->(cols.head?.map Col.isF)=some false->o46 100 pl cols (Z5d 100 pl [] cols fun acc=>Zt R pl (.ov (.str "character") (.list acc) .none false) pl)=(W {c:=100,S:=S92} 60).call 92 [.list (cols.map Col.val)] pl (Zt R pl)
abbrev ZcP(R:LV)(pl:Option Z8)(cols:List Col):Prop:=cols.all Col.isI=true->Z7i [] cols (fun acc=>Zt R pl (.ov (.str "integer") (.list acc) .none false) pl)=(W {c:=100,S:=S92} 60).call 92 [.list (cols.map Col.val)] pl (Zt R pl)
theorem Z5f(R)(pl)(cols)(h:cols.length<=3):ZbE R pl cols:=by
 induction cols with
 |nil=>exact fun O h=>Z3 h
 |cons c cs=>exact Xk (P:=ZbE R pl) (fun a=>by cases a<;>intro h1 h2<;>first|exact Z4 h1.symm|exact Z4 (Option.some.inj h2).symm|kernel_rfl) (fun a b=>by cases a<;>first|exact fun O h=>Z4 (Option.some.inj h).symm|(cases b<;>intro h1 h2<;>first|exact Z4 h1.symm|kernel_rfl)) (fun a b c=>by cases a<;>first|exact fun O h=>Z4 (Option.some.inj h).symm|(cases b<;>cases c<;>intro h1 h2<;>first|exact Z4 h1.symm|kernel_rfl)) (c::cs) ⟨Nat.succ_le_succ (Nat.zero_le _),h⟩
theorem Z7j(R)(pl)(cols)(h:cols.length<=3)(h1:cols.all Col.isI=true)(h0:cols≠[]):Z7i [] cols (fun acc=>Zt R pl (.ov (.str "integer") (.list acc) .none false) pl)=(W {c:=100,S:=S92} 60).call 92 [.list (cols.map Col.val)] pl (Zt R pl):=by
 revert h1
 exact Xk (P:=ZcP R pl) (fun a=>by cases a<;>first|exact fun h=>Z4 h|exact fun O=>by kernel_rfl) (fun a b=>by cases a<;>first|exact fun h=>Z4 h|(cases b<;>first|exact fun h=>Z4 h|exact fun O=>by kernel_rfl)) (fun a b c=>by cases a<;>first|exact fun h=>Z4 h|(cases b<;>first|exact fun h=>Z4 h|(cases c<;>first|exact fun h=>Z4 h|exact fun O=>by kernel_rfl))) cols ⟨List.length_pos_iff.mpr h0,h⟩
noncomputable def jn(cols:List Col):Col:=
 if (cols.head?.map Col.isF)=some true then .cf (sD (Ym [] cols)) (cols.flatMap Col.texts)
 else if cols.all Col.isI=true then .ci (cols.flatMap Col.items)
 else .cs (cols.flatMap Col.texts)
theorem Z7k(R)(lw xs)(cols)(pl) :
  ((itp 160).call 91 [.list ((Col.cf lw xs::cols).map Col.val)] pl=.ok R pl/\Zt R pl R pl)=(W {c:=160,S:=fun i O=>if i=91 then some R else none} 60).call 92 [.list ((Col.cf lw xs::cols).map Col.val)] pl (Zt R pl):=by kernel_rfl
theorem L92(cols)(hc:∀ c∈cols,c.small)(hn:cols.length<=3)(h0:cols≠[])(pl):∃ lv,(itp 220).call 92 [.list (cols.map Col.val)] pl=.ok lv pl/\lv.d=(jn cols).val:=by
 have hb:∀ k,k<=200->k<=LIM:=fun k h=>Nat.le_trans h (by decide)
 cases hf:cols.head?.map Col.isF with
 |none=>induction cols with
  |nil=>exact absurd rfl h0
  |cons O U=>cases hf
 |some b=>
  induction b with
  |true=>
   induction cols with
   |nil=>exact Z3 hf
   |cons c cols=>
    induction c with
    |ci xs=>cases hf
    |cs xs=>cases hf
    |cf lw xs=>
     refine ⟨_,ZX (A:={c:=160,S:=fun i O=>if i=91 then some _ else none}) (n:=60) (Nat.le_of_ble_eq_true rfl) (Z7k _ lw xs cols pl) ⟨L91 hc (by rw[List.length_cons] at hn;lia) rfl rfl pl,rfl,rfl⟩,?_⟩
     unfold jn
     rw[if_pos hf]
     rfl
  |false=>
   cases hi:cols.all Col.isI with
   |true=>
    refine ⟨_,Zg (m:=160) (by decide) (ZX (A:={c:=100,S:=S92}) (n:=60) (Nat.le_of_ble_eq_true rfl) (Z7j (.ov (.str "integer") (.list (cols.flatMap Col.items)) .none false) pl cols hn hi h0) (Z2N hc (hb _ (by rw[List.length_nil];lia)) ⟨rfl,rfl⟩)),?_⟩
    unfold jn
    rw[if_neg (by rw[hf];decide),if_pos hi]
    rfl
   |false=>
    refine ⟨_,Zg (m:=160) (by decide) (ZX (A:={c:=100,S:=S92}) (n:=60) (Nat.le_of_ble_eq_true rfl) (Z5f (.ov (.str "character") (.list (cols.flatMap Col.texts)) .none false) pl cols hn hi hf) (KG (by decide) (Z2M (by decide) hc (hb _ (by rw[List.length_nil];lia)) ⟨rfl,rfl⟩) hc)),?_⟩
    unfold jn
    rw[if_neg (by rw[hf];decide),if_neg (by rw[hi];decide)]
    rfl
theorem U2:∀ ls:List Str,strs? (sD ls)=some ls:=fun O=>match O with
 |[]=>rfl
 |s::r=>by show (strs? (sD r)).map _=_;rw[U2 r];rfl
noncomputable abbrev jw0(C:D)(it:List D)(ls:List Str):Zc:=[("columns",.fr C),("items",.ol it),("levels",.ol (sD ls))]
noncomputable abbrev jw1(C:D)(it:List D)(ls:List Str)(f i m:D):Zc:=[("columns",.fr C),("items",.ol it),("levels",.ol (sD ls)),("form",.fr f),("its_own",.fr i),("marks",.fr m)]
noncomputable abbrev jw2(C:D)(it:List D)(ls:List Str)(f i m q:D):Zc:=[("columns",.fr C),("items",.ol it),("levels",.ol (sD ls)),("form",.fr f),("its_own",.fr i),("marks",.fr m),("mark",.fr q)]
theorem Z7l(C)(it)(f i m)(ls)(d)(hd:YR d)(hl:ls.length < LIM)(pl) :
  wpO ((itp 40).exs (sB 105 660) ⟨jw2 C it ls f i m d,[],[],pl⟩) fun g σ=>g=.next/\σ=⟨jw2 C it (Xu ls d) f i m d,[],[],pl⟩:=by
 rcases hd with rfl|⟨s,rfl,hs⟩
 ·exact Z8M 20 (by kernel_rfl)
 ·refine Zj (A:={c:=20}) (n:=20) (Nat.le_of_ble_eq_true rfl) (P:=Ze (((strs? (sD ls)).map fun l=>decide (s∈l)).map fun b=>!b) fun b=>cnd b (cnd (decide ((sD ls).length < LIM))
   (Fl.next=Fl.next/\(⟨[("columns",.fr C),("items",.ol it),("levels",.ol (sD ls++[D.str s])),("form",.fr f),("its_own",.fr i),("marks",.fr m),("mark",.fr (.str s))],[],[],pl⟩:St)=⟨jw2 C it (Xu ls (.str s)) f i m (.str s),[],[],pl⟩) False)
   (Fl.next=Fl.next/\(⟨jw2 C it ls f i m (.str s),[],[],pl⟩:St)=⟨jw2 C it (Xu ls (.str s)) f i m (.str s),[],[],pl⟩)) (by kernel_rfl) ?_
  rw[U2]
  show cnd (!(decide (s∈ls))) _ _
  by_cases h:s∈ls
  ·refine Uo (by rw[decide_eq_true h];rfl) ⟨rfl,?_⟩
   rw[show Xu ls (.str s)=ls from if_pos h]
  ·refine Un (by rw[decide_eq_false h];rfl) (ZP (by rw[ZT];exact hl) ⟨rfl,?_⟩)
   rw[show Xu ls (.str s)=ls++[s] from if_neg h]
   unfold jw2
   rw[show sD (ls++[s])=sD ls++[D.str s] from List.map_append]
def Jw(C:D)(it:List D)(f i m:D)(pl:Option Z8)(ls:List Str)(σ:St):Prop:=σ=⟨jw1 C it ls f i m,[],[],pl⟩\/∃ q,σ=⟨jw2 C it ls f i m q,[],[],pl⟩
theorem Z5g(C)(it)(f i m)(pl)(ds)(ls)(σ)(hd:∀ d∈ds,YR d)(hl:ls.length+ds.length < LIM)(hσ:Jw C it f i m pl ls σ) :
  wpO (ZJ ((itp 40).exs (sB 105 660)) (sT 105 660) ds σ) fun g τ=>g=.next/\Jw C it f i m pl (Zp ls ds) τ:=by
 have k:=ZG (α:=List Str) (β:=D) (body:=(itp 40).exs (sB 105 660)) (t:=sT 105 660) id (Jw C it f i m pl) Xu
  (fun ls ds=>(∀ d∈ds,YR d)/\ls.length+ds.length < LIM) (fun ls d ds σ ok h=>?_) ds ls σ ⟨hd,hl⟩ hσ
 ·rw[List.map_id] at k;exact k
 ·obtain ⟨hd,hl⟩:=ok
  rw[List.length_cons] at hl
  have h2:=Ur ls d
  refine ⟨⟨fun d h=>hd d (List.mem_cons_of_mem _ h),by lia⟩,?_⟩
  have e:Zl (sT 105 660) (id d) σ=.ok () ⟨jw2 C it ls f i m d,[],[],pl⟩:=by
   rcases h with rfl|⟨q,rfl⟩<;>kernel_rfl
  rw[e]
  exact ZF (Z0 (Z7l C it f i m ls d (hd d List.mem_cons_self) (by lia) pl) fun g σ q=>⟨.inl q.1,.inr ⟨_,q.2⟩⟩)
noncomputable def ZbF:Nat->List D->Option LV:=fun i ds=>if i=104 then (match ds with
 |[.list xs]=>some (.ol (xs.map YJ))
 |O=>none) else none
noncomputable abbrev Z3t(C:D)(it:List D)(f i m:D)(ls:List Str):Nat->Option (St->List D->List ((Nat->D)->St)):=fun l=>if l=660 then some fun σ O=>[fun O=>⟨jw1 C it ls f i m,[],[],σ.pl⟩,fun g=>⟨jw2 C it ls f i m (g 0),[],[],σ.pl⟩] else none
noncomputable def Col.formD:Col->D:=fun O=>match O with
 |.ci O=>.int 0
 |.cs O=>.int 1
 |.cf O U=>.int 2
noncomputable def Col.lvD:Col->D:=fun O=>match O with
 |.cf lv O=>.list lv
 |O=>.none
def Qw(C:D)(it:List D)(ls:List Str)(pl:Option Z8):Fl->St->Prop:=fun g σ=>g=.next/\∃ f i m,Jw C it f i m pl ls σ
theorem U3{c:Col}(hc:c.ok):∀ d∈c.items,Z2J d:=by
 cases c with
 |ci xs=>exact fun d h=>.inl (hc d h)
 |cs xs=>exact fun d h=>.inr (by have:=hc d h;cases this<;>first|exact .inl rfl|exact .inr ⟨_,rfl⟩)
 |cf lv xs=>exact fun d h=>.inr (by rcases hc.2 d h with h|⟨s,h,O⟩;exact .inl h;exact .inr ⟨s,h⟩)
theorem U4{c:Col}(hc:c.ok):c.items.map YJ=c.texts:=by
 have key:∀ xs:List D,(∀ d∈xs,d=.none\/∃ s,d=.str s)->xs.map YJ=xs:=fun xs h=>by
  refine (List.map_congr_left fun d hd=>?_).trans (List.map_id _)
  rcases h d hd with rfl|⟨s,rfl⟩<;>rfl
 cases c with
 |ci xs=>rfl
 |cs xs=>exact key xs fun d h=>by have:=hc d h;cases this<;>first|exact .inl rfl|exact .inr ⟨_,rfl⟩
 |cf lv xs=>exact key xs fun d h=>by rcases hc.2 d h with h|⟨s,h,O⟩;exact .inl h;exact .inr ⟨s,h⟩
theorem Z7m(C:D)(it:List D)(c:Col)(hc:c.ok)(hl:c.items.length<=10)(ls:List Str)(hls:ls.length+10 < LIM)(b:St)(pl:Option Z8)(hb:Jw C it c.formD (.list c.items) c.lvD pl ls b) :
  wpO ((itp 120).exs (sB 105 659) b) (Qw C it (Zp ls c.marks) pl):=by
 have hm:=Ww hc hl
 have run:∀ σ:St,Jw C it c.formD (.list c.items) c.lvD pl ls σ->wpO (ZJ ((itp 80).exs (sB 105 660)) (sT 105 660) c.marks σ) fun g τ=>g=.next/\Wb τ [fun O=>⟨jw1 C it (Zp ls c.marks) c.formD (.list c.items) c.lvD,[],[],pl⟩,fun g=>⟨jw2 C it (Zp ls c.marks) c.formD (.list c.items) c.lvD (g 0),[],[],pl⟩]:=fun σ h=>
  Zs (XO (Zr (by decide:40<=80)) ((Zr (by decide:40<=80)).exs _) _ _ _) (Z0 (Z5g C it _ _ _ pl c.marks ls σ (Wv hc) (by lia) h) fun g τ q=>⟨q.1,by
   rcases q.2 with e|⟨q,e⟩
   ·exact .inl ⟨fun O=>.none,e⟩
   ·exact .inr (.inl ⟨fun O=>q,e⟩)⟩)
 have fin:∀ R:Prop,R->R/\(∀ g:Nat->D,Qw C it (Zp ls c.marks) pl .next ⟨jw1 C it (Zp ls c.marks) c.formD (.list c.items) c.lvD,[],[],pl⟩)/\(∀ g:Nat->D,Qw C it (Zp ls c.marks) pl .next ⟨jw2 C it (Zp ls c.marks) c.formD (.list c.items) c.lvD (g 0),[],[],pl⟩)/\True:=
  fun R r=>⟨r,fun g=>⟨rfl,_,_,_,.inl rfl⟩,fun g=>⟨rfl,_,_,_,.inr ⟨_,rfl⟩⟩,trivial⟩
 have ht:=Z9D c.items (U3 hc) (Nat.le_trans hl (by decide)) pl
 induction c with
 |ci xs=>
  rcases hb with rfl|⟨q,rfl⟩
  ·exact Zj (A:={c:=80,S:=ZbF,F:=Z3t C it (Col.ci xs).formD (.list xs) (Col.ci xs).lvD (Zp ls (xs.map YJ))}) (n:=40) (Nat.le_of_ble_eq_true rfl) (P:=_/\(_/\_)) (by kernel_rfl) ⟨Zg (by decide:60<=80) ht,fin _ (run ⟨jw1 C it ls (Col.ci xs).formD (.list xs) (Col.ci xs).lvD,[],[],pl⟩ (.inl rfl))⟩
  ·exact Zj (A:={c:=80,S:=ZbF,F:=Z3t C it (Col.ci xs).formD (.list xs) (Col.ci xs).lvD (Zp ls (xs.map YJ))}) (n:=40) (Nat.le_of_ble_eq_true rfl) (P:=_/\(_/\_)) (by kernel_rfl) ⟨Zg (by decide:60<=80) ht,fin _ (run ⟨jw2 C it ls (Col.ci xs).formD (.list xs) (Col.ci xs).lvD q,[],[],pl⟩ (.inr ⟨_,rfl⟩))⟩
 |cs xs=>
  have e:=U4 (c:=.cs xs) hc
  rw[e] at ht
  rcases hb with rfl|⟨q,rfl⟩
  ·exact Zj (A:={c:=80,S:=fun i ds=>if i=104 then some (LV.ol xs) else none,F:=Z3t C it (Col.cs xs).formD (.list xs) (Col.cs xs).lvD (Zp ls xs)}) (n:=40) (Nat.le_of_ble_eq_true rfl) (P:=_/\(_/\_)) (by kernel_rfl) ⟨Zg (by decide:60<=80) ht,fin _ (run ⟨jw1 C it ls (Col.cs xs).formD (.list xs) (Col.cs xs).lvD,[],[],pl⟩ (.inl rfl))⟩
  ·exact Zj (A:={c:=80,S:=fun i ds=>if i=104 then some (LV.ol xs) else none,F:=Z3t C it (Col.cs xs).formD (.list xs) (Col.cs xs).lvD (Zp ls xs)}) (n:=40) (Nat.le_of_ble_eq_true rfl) (P:=_/\(_/\_)) (by kernel_rfl) ⟨Zg (by decide:60<=80) ht,fin _ (run ⟨jw2 C it ls (Col.cs xs).formD (.list xs) (Col.cs xs).lvD q,[],[],pl⟩ (.inr ⟨_,rfl⟩))⟩
 |cf lw xs=>
  rcases hb with rfl|⟨q,rfl⟩
  ·exact Zj (A:={c:=80,F:=Z3t C it (Col.cf lw xs).formD (.list xs) (Col.cf lw xs).lvD (Zp ls lw)}) (n:=40) (Nat.le_of_ble_eq_true rfl) (P:=_/\_) (by kernel_rfl) (fin _ (run ⟨jw1 C it ls (Col.cf lw xs).formD (.list xs) (Col.cf lw xs).lvD,[],[],pl⟩ (.inl rfl)))
  ·exact Zj (A:={c:=80,F:=Z3t C it (Col.cf lw xs).formD (.list xs) (Col.cf lw xs).lvD (Zp ls lw)}) (n:=40) (Nat.le_of_ble_eq_true rfl) (P:=_/\_) (by kernel_rfl) (fin _ (run ⟨jw2 C it ls (Col.cf lw xs).formD (.list xs) (Col.cf lw xs).lvD q,[],[],pl⟩ (.inr ⟨_,rfl⟩)))
def Jo(C:D)(it:List D)(pl:Option Z8)(a:Bool × List Str)(σ:St):Prop:=match a with
 |(false,ls)=>σ=⟨jw0 C it ls,[],[],pl⟩
 |(true,ls)=>∃ f i m,Jw C it f i m pl ls σ
theorem Z0s(C:D)(it:List D)(pl:Option Z8)(cols:List Col)(hc:∀ c∈cols,c.small)(b:Bool)(ls:List Str)(hls:ls.length+10*cols.length+10 < LIM)(σ:St)(hσ:Jo C it pl (b,ls) σ) :
  wpO (ZJ ((itp 120).exs (sB 105 659)) (sT 105 659) (cols.map Col.raw) σ) fun g τ=>g=.next/\Jo C it pl (b||!cols.isEmpty,Ym ls cols) τ:=by
 have k:=ZG (α:=Bool × List Str) (β:=Col) (body:=(itp 120).exs (sB 105 659)) (t:=sT 105 659) Col.raw (Jo C it pl) (fun a c=>(true,Zp a.2 c.marks))
  (fun a cols=>(∀ c∈cols,c.small)/\a.2.length+10*cols.length+10 < LIM) (fun a c cols σ ok h=>?_) cols (b,ls) σ ⟨hc,hls⟩ hσ
 ·rw[VI] at k;exact k
 ·obtain ⟨hc,hl⟩:=ok
  rw[List.length_cons] at hl
  obtain ⟨h1,h2⟩:=hc c List.mem_cons_self
  have h3:=Us c.marks a.2
  have h4:=Ww h1 h2
  refine ⟨⟨fun d h=>hc d (List.mem_cons_of_mem _ h),by show (Zp a.2 c.marks).length+_+_ < _;lia⟩,?_⟩
  obtain ⟨b,ls⟩:=a
  have key:∃ v,Zl (sT 105 659) c.raw σ=.ok () v/\Jw C it c.formD (.list c.items) c.lvD pl ls v:=by
   induction b with
   |false=>subst h;exact ⟨⟨jw1 C it ls c.formD (.list c.items) c.lvD,[],[],pl⟩,by cases c<;>kernel_rfl,.inl rfl⟩
   |true=>
    obtain ⟨f,i,m,rfl|⟨q,rfl⟩⟩:=h
    ·exact ⟨⟨jw1 C it ls c.formD (.list c.items) c.lvD,[],[],pl⟩,by cases c<;>kernel_rfl,.inl rfl⟩
    ·exact ⟨⟨jw2 C it ls c.formD (.list c.items) c.lvD q,[],[],pl⟩,by cases c<;>kernel_rfl,.inr ⟨_,rfl⟩⟩
  obtain ⟨v,e,hv⟩:=key
  have hl:ls.length+10*(cols.length+1)+10 < LIM:=hl
  rw[e]
  exact ZF (Z0 (Z7m C it c h1 h2 ls (by lia) v pl hv) fun g σ q=>⟨.inl q.1,q.2⟩)
noncomputable def Z0t:D->List D:=fun O=>match O with
 |.list [O,.list xs,U]=>xs
 |O=>[]
noncomputable abbrev u1(c:D):Zc:=[("column",.fr c)]
noncomputable abbrev u2(c i:D):Zc:=[("column",.fr c),("item",.fr i)]
def Ji(up:Zc)(pl:Option Z8)(σ:St):Prop:=(∃ vs:Zc,(vs=[]\/(∃ c,vs=u1 c)\/∃ c i,vs=u2 c i)/\σ=⟨vs,up,["column","item"],pl⟩)
theorem Z5h(cols:List Col)(up:Zc)(pl:Option Z8) :
  wpO (YB (itp 40) (c1T 105 656) (c2T 105 656) (c2I 105 656) (cE 105 656) (cols.map Col.raw) ⟨[],up,["column","item"],pl⟩) fun ds τ=>ds=cols.flatMap Col.items/\τ.up=up/\τ.pl=pl:=by
 have k:=Z3p (k:=40) (t:=c1T 105 656) (t2:=c2T 105 656) (it2:=c2I 105 656) (elt:=cE 105 656) (Ji up pl) Z0t (cols.map Col.raw) ⟨[],up,["column","item"],pl⟩ (fun x hx σ hσ=>?_) ⟨[],.inl rfl,rfl⟩
 ·refine Z0 k fun ds τ q=>⟨?_,?_⟩
  ·rw[q.1,List.flatMap_map]
   congr 1
   funext c
   cases c<;>rfl
  ·obtain ⟨vs,O,rfl⟩:=q.2;exact ⟨rfl,rfl⟩
 ·obtain ⟨c,O,rfl⟩:=List.mem_map.mp hx
  have e1:∃ vs:Zc,Zl (c1T 105 656) c.raw σ=.ok () ⟨vs,up,["column","item"],pl⟩/\(vs=u1 c.raw\/∃ i,vs=u2 c.raw i):=by
   obtain ⟨vs,h,rfl⟩:=hσ
   rcases h with rfl|⟨c',rfl⟩|⟨c',i,rfl⟩
   ·exact ⟨[("column",.fr c.raw)],by kernel_rfl,.inl rfl⟩
   ·exact ⟨[("column",.fr c.raw)],by kernel_rfl,.inl rfl⟩
   ·exact ⟨[("column",.fr c.raw),("item",.fr i)],by kernel_rfl,.inr ⟨_,rfl⟩⟩
  obtain ⟨vs,e1,hvs⟩:=e1
  rw[e1]
  refine ZF ?_
  have e2:wpO ((itp 40).ev (c2I 105 656) ⟨vs,up,["column","item"],pl⟩) fun r τ=>r=(.fr (.list c.items),none)/\τ=⟨vs,up,["column","item"],pl⟩:=by
   rcases hvs with rfl|⟨i,rfl⟩<;>cases c<;>exact YI 20 (by kernel_rfl)
  refine Z0 e2 fun r τ q=>?_
  obtain ⟨rfl,rfl⟩:=q
  refine ⟨by cases c<;>rfl,?_⟩
  have e3:Z0t c.raw=c.items:=by cases c<;>rfl
  rw[e3]
  have k1:=Z3o (k:=40) (t:=c2T 105 656) (elt:=cE 105 656) (fun σ=>∃ vs:Zc,(vs=u1 c.raw\/∃ i,vs=u2 c.raw i)/\σ=⟨vs,up,["column","item"],pl⟩) id c.items ⟨vs,up,["column","item"],pl⟩ (fun d hd σ hσ=>?_) ⟨vs,hvs,rfl⟩
  ·refine Z0 k1 fun ds τ q=>⟨by rw[q.1,List.map_id],?_⟩
   obtain ⟨vs,h,rfl⟩:=q.2
   rcases h with rfl|⟨i,rfl⟩
   ·exact ⟨_,.inr (.inl ⟨_,rfl⟩),rfl⟩
   ·exact ⟨_,.inr (.inr ⟨_,_,rfl⟩),rfl⟩
  ·have e4:Zl (c2T 105 656) d σ=.ok () ⟨[("column",.fr c.raw),("item",.fr d)],up,["column","item"],pl⟩:=by
    obtain ⟨vs,h,rfl⟩:=hσ
    rcases h with rfl|⟨i,rfl⟩<;>kernel_rfl
   rw[e4]
   refine ZF (Z0 (YI 20 (r:=(.fr d,none)) (σ':=⟨[("column",.fr c.raw),("item",.fr d)],up,["column","item"],pl⟩) (by kernel_rfl)) fun r τ q=>?_)
   obtain ⟨rfl,rfl⟩:=q
   exact ⟨rfl,_,.inr ⟨_,rfl⟩,rfl⟩
noncomputable abbrev upC(cols:List Col):Zc:=[("columns",.fr (.list (cols.map Col.raw)))]
abbrev Z5i(cols:List Col)(its:List D)(pl:Option Z8)(R:Prop):Prop:=
 wpO (YB (itp 120) (c1T 105 656) (c2T 105 656) (c2I 105 656) (cE 105 656) (cols.map Col.raw) ⟨[],upC cols,["column","item"],pl⟩) (fun ds τ=>ds=its/\τ.up=upC cols/\τ.pl=pl)/\(cols.map Col.raw).length<=10/\its.length<=LIM/\R
noncomputable abbrev Jg(its:List D):Nat->Option (Zc->List D->List D × Zc):=fun l=>if l=656 then some fun up O=>(its,up) else none
theorem X0{cols}(hc:∀ c∈cols,c.small)(hn:cols.length<=3){pl}{R}(r:R):Z5i cols (cols.flatMap Col.items) pl R:=by
 refine ⟨Zs (Ui (Zr (by decide:40<=120)) _ _ _ _ _ _) (Z5h cols (upC cols) pl),by rw[List.length_map];lia,?_,r⟩
 have:∀ (cols:List Col),(∀ c∈cols,c.small)->(cols.flatMap Col.items).length<=10*cols.length:=fun cols=>by
  induction cols with
  |nil=>intro O;exact Nat.le_refl _
  |cons c cols ih=>
   intro h
   have:=ih fun c k=>h c (List.mem_cons_of_mem _ k)
   have:=(h c List.mem_cons_self).2
   simp only[List.flatMap_cons,List.length_append,List.length_cons]
   lia
 have:=this cols hc
 have h:30<=LIM:=by decide
 lia
abbrev Z8P(its ts:List D)(R:LV)(pl:Option Z8)(cols:List Col):Prop:=cols.all Col.isI=false->(cols.head?.map Col.isF)=some false->Z5i cols its pl ((itp 120).call 104 [.list its] pl=.ok (.ol ts) pl/\Zt R pl (.ol [.int 1,.list ts,.none]) pl)=(W {c:=120,S:=fun i O=>if i=104 then some (.ol ts) else none,C:=Jg its} 40).call 105 [.list (cols.map Col.raw)] pl (Zt R pl)
abbrev ZbG(its:List D)(R:LV)(pl:Option Z8)(cols:List Col):Prop:=cols.all Col.isI=true->Z5i cols its pl (Zt R pl (.ol [.int 0,.list its,.none]) pl)=(W {c:=120,C:=Jg its} 40).call 105 [.list (cols.map Col.raw)] pl (Zt R pl)
theorem JI(its ts)(R)(pl)(cols)(h:cols.length<=3):Z8P its ts R pl cols:=by
 induction cols with
 |nil=>exact fun O h=>Z3 h
 |cons c cs=>exact Xk (P:=Z8P its ts R pl) (fun a=>by cases a<;>intro h1 h2<;>first|exact Z4 h1.symm|exact Z4 (Option.some.inj h2).symm|kernel_rfl) (fun a b=>by cases a<;>first|exact fun O h=>Z4 (Option.some.inj h).symm|(cases b<;>intro h1 h2<;>first|exact Z4 h1.symm|kernel_rfl)) (fun a b c=>by cases a<;>first|exact fun O h=>Z4 (Option.some.inj h).symm|(cases b<;>cases c<;>intro h1 h2<;>first|exact Z4 h1.symm|kernel_rfl)) (c::cs) ⟨Nat.succ_le_succ (Nat.zero_le _),h⟩
theorem Z0u(its)(R)(pl)(cols)(h:cols.length<=3)(h1:cols.all Col.isI=true)(h0:cols≠[]):Z5i cols its pl (Zt R pl (.ol [.int 0,.list its,.none]) pl)=(W {c:=120,C:=Jg its} 40).call 105 [.list (cols.map Col.raw)] pl (Zt R pl):=by
 revert h1
 exact Xk (P:=ZbG its R pl) (fun a=>by cases a<;>first|exact fun h=>Z4 h|exact fun O=>by kernel_rfl) (fun a b=>by cases a<;>first|exact fun h=>Z4 h|(cases b<;>first|exact fun h=>Z4 h|exact fun O=>by kernel_rfl)) (fun a b c=>by cases a<;>first|exact fun h=>Z4 h|(cases b<;>first|exact fun h=>Z4 h|(cases c<;>first|exact fun h=>Z4 h|exact fun O=>by kernel_rfl))) cols ⟨List.length_pos_iff.mpr h0,h⟩
noncomputable abbrev Z9H(C:D)(it:List D)(ls:List Str):Nat->Option (St->List D->List ((Nat->D)->St)):=fun l=>if l=659 then some fun σ O=>[fun g=>⟨jw1 C it ls (g 0) (g 1) (g 2),[],[],σ.pl⟩,fun g=>⟨jw2 C it ls (g 0) (g 1) (g 2) (g 3),[],[],σ.pl⟩] else none
abbrev ZcQ(cols:List Col)(its:List D)(ls:List Str)(pl:Option Z8)(R:Prop):Prop:=
 wpO (ZJ ((itp 120).exs (sB 105 659)) (sT 105 659) (cols.map Col.raw) ⟨jw0 (.list (cols.map Col.raw)) its [],[],[],pl⟩) (fun g τ=>g=.next/\Wb τ [fun g=>⟨jw1 (.list (cols.map Col.raw)) its ls (g 0) (g 1) (g 2),[],[],pl⟩,fun g=>⟨jw2 (.list (cols.map Col.raw)) its ls (g 0) (g 1) (g 2) (g 3),[],[],pl⟩]) /\
  (∀ O:Nat->D,R)/\(∀ O:Nat->D,R)/\True
theorem Z0v(its ts lw xs)(ls)(R)(cols)(pl) :
  Z5i (.cf lw xs::cols) its pl (ZcQ (.cf lw xs::cols) its ls pl ((itp 120).call 104 [.list its] pl=.ok (.ol ts) pl/\Zt R pl (.ol [.int 2,.list ts,.list (sD ls)]) pl))=(W {c:=120,S:=fun i O=>if i=104 then some (.ol ts) else none,C:=Jg its,F:=Z9H (.list ((Col.cf lw xs::cols).map Col.raw)) its ls} 40).call 105 [.list ((Col.cf lw xs::cols).map Col.raw)] pl (Zt R pl):=by kernel_rfl
noncomputable def Z3u(a b c d:D):Nat->D:=fun O=>match O with
 |0=>a
 |1=>b
 |2=>c
 |O=>d
theorem ZdT(cols)(hc:∀ c∈cols,c.small)(hn:cols.length<=3)(h0:cols≠[])(pl):∃ lv,(itp 160).call 105 [.list (cols.map Col.raw)] pl=.ok lv pl/\lv.d=(jn cols).raw:=by
 have hb:∀ k,k<=200->k < LIM:=fun k h=>Nat.lt_of_le_of_lt h (by decide)
 have cells:∀ d∈cols.flatMap Col.items,Z2J d:=fun d h=>by
  obtain ⟨c,h1,h2⟩:=List.mem_flatMap.mp h
  exact U3 (hc c h1).1 d h2
 have len:=(X0 hc hn (pl:=pl) trivial).2.2.1
 have txt:(cols.flatMap Col.items).map YJ=cols.flatMap Col.texts:=by
  rw[List.map_flatMap]
  have:∀ cols:List Col,(∀ c∈cols,c.small)->cols.flatMap (fun c=>c.items.map YJ)=cols.flatMap Col.texts:=fun cols=>by
   induction cols with
   |nil=>intro O;rfl
   |cons c cols ih=>intro h;simp only[List.flatMap_cons,List.flatMap_cons,U4 (h c List.mem_cons_self).1,ih fun c k=>h c (List.mem_cons_of_mem _ k)]
  exact this cols hc
 have call:=Z9D _ cells len pl
 rw[txt] at call
 have call:=Zg (by decide:60<=120) call
 cases hf:cols.head?.map Col.isF with
 |none=>induction cols with
  |nil=>exact absurd rfl h0
  |cons O U=>cases hf
 |some b=>
  cases b with
  |true=>
   induction cols with
   |nil=>exact Z3 hf
   |cons c cols=>
    induction c with
    |ci xs=>cases hf
    |cs xs=>cases hf
    |cf lw xs=>
     have run:=Z0s (.list ((Col.cf lw xs::cols).map Col.raw)) ((Col.cf lw xs::cols).flatMap Col.items) pl (.cf lw xs::cols) hc false [] (hb _ (by rw[List.length_nil];lia)) ⟨jw0 _ _ [],[],[],pl⟩ rfl
     refine ⟨_,ZX (A:={c:=120,S:=_,C:=Jg _,F:=Z9H _ _ _}) (n:=40) (Nat.le_of_ble_eq_true rfl) (Z0v _ _ lw xs (Ym [] (.cf lw xs::cols)) _ cols pl) (X0 hc hn ⟨Z0 run fun g τ q=>⟨q.1,?_⟩,fun O=>⟨call,rfl,rfl⟩,fun O=>⟨call,rfl,rfl⟩,trivial⟩),?_⟩
     ·obtain ⟨f,i,m,e|⟨k,e⟩⟩:=q.2
      ·exact .inl ⟨Z3u f i m m,e⟩
      ·exact .inr (.inl ⟨Z3u f i m k,e⟩)
     ·unfold jn
      rw[if_pos hf]
      rfl
  |false=>
   cases hi:cols.all Col.isI with
   |true=>
    refine ⟨_,ZX (A:={c:=120,C:=Jg _}) (n:=40) (Nat.le_of_ble_eq_true rfl) (Z0u _ _ pl cols hn hi h0) (X0 hc hn ⟨rfl,rfl⟩),?_⟩
    unfold jn
    rw[if_neg (by rw[hf];decide),if_pos hi]
    rfl
   |false=>
    refine ⟨_,ZX (A:={c:=120,S:=_,C:=Jg _}) (n:=40) (Nat.le_of_ble_eq_true rfl) (JI _ _ _ pl cols hn hi hf) (X0 hc hn ⟨call,rfl,rfl⟩),?_⟩
    unfold jn
    rw[if_neg (by rw[hf];decide),if_neg (by rw[hi];decide)]
    rfl
def V6(d:D):Prop:=d=.none\/(∃ i,d=.int i)\/∃ s,d=.str s
theorem Z5j{d}(h:V6 d):eqF d d=some true:=by
 rcases h with rfl|⟨i,rfl⟩|⟨s,rfl⟩
 ·rfl
 ·show some (decide (i=i))=_;rw[decide_eq_true rfl]
 ·show some (decide (s=s))=_;rw[decide_eq_true rfl]
theorem JJ:∀ {xs:List D},(∀ d∈xs,V6 d)->Z4t xs xs=some true
 |[],O=>rfl
 |d::xs,h=>by
  show (eqF d d).bind _=_;rw[Z5j (h d List.mem_cons_self)]
  show (Z4t xs xs).map _=_
  rw[JJ fun d k=>h d (List.mem_cons_of_mem _ k)]
  rfl
theorem Yt{xs}(h:∀ d∈xs,V6 d):eqL xs xs=some true:=by
 unfold eqL
 rw[if_pos rfl,JJ h]
theorem Xa{c:Col}(hc:c.ok):∀ d∈c.items,V6 d:=fun d h=>by
 rcases U3 hc d h with h|h|h
 ·cases h<;>first|exact .inl rfl|exact .inr (.inl ⟨_,rfl⟩)
 ·exact .inl h
 ·exact .inr (.inr h)
theorem Z1C{c:Col}(hc:c.ok):∀ d∈c.texts,V6 d:=fun d h=>by
 rw[<-U4 hc] at h
 obtain ⟨e,he,rfl⟩:=List.mem_map.mp h
 rcases Xa hc e he with rfl|⟨i,rfl⟩|⟨s,rfl⟩
 ·exact .inl rfl
 ·exact .inr (.inr ⟨_,rfl⟩)
 ·exact .inr (.inr ⟨_,rfl⟩)
theorem Xl(ls):∀ d∈sD ls,V6 d:=fun d h=>by
 obtain ⟨s,O,rfl⟩:=List.mem_map.mp h
 exact .inr (.inr ⟨_,rfl⟩)
theorem Vt(s):∀ ls:List Str,s∈ls->(sD ls)[YV s (sD ls)]?=some (.str s):=fun O U=>match O,U with
 |[],h=>by cases h
 |t::r,h=>by
  show (D.str t::sD r)[if s=t then 0 else YV s (sD r)+1]?=_
  by_cases e:s=t
  ·rw[if_pos e,e];rfl
  ·rw[if_neg e,List.getElem?_cons_succ]
   exact Vt s r (by rcases List.mem_cons.mp h with h|h;exact absurd h e;exact h)
theorem Z9I(xs)(h:∀ d∈xs,V6 d)(pl):(itp 60).call 106 [(Col.ci xs).val,(Col.ci xs).raw] pl=.ok (.fr (.bool true)) pl:=by
 refine ZX (A:={c:=20}) (n:=40) (Nat.le_of_ble_eq_true rfl) (P:=Ze (eqL xs xs) fun b=>Zt (.fr (.bool true)) pl (.fr (.bool b)) pl) (by kernel_rfl) ?_
 rw[Yt h]
 exact ⟨rfl,rfl⟩
theorem Z9J(xs)(h:∀ d∈xs,V6 d)(pl):(itp 60).call 106 [(Col.cs xs).val,(Col.cs xs).raw] pl=.ok (.fr (.bool true)) pl:=by
 refine ZX (A:={c:=20}) (n:=40) (Nat.le_of_ble_eq_true rfl) (P:=Ze (eqL xs xs) fun b=>Zt (.fr (.bool true)) pl (.fr (.bool b)) pl) (by kernel_rfl) ?_
 rw[Yt h]
 exact ⟨rfl,rfl⟩
noncomputable abbrev upS(ls:List Str)(xs:List D):Zc:=[("v",.fr (Col.cf (sD ls) xs).val),("column",.fr (Col.cf (sD ls) xs).raw),("form",.fr (.int 2)),("items",.fr (.list xs)),("levels",.fr (.list (sD ls)))]
abbrev ZbH(ls:List Str)(xs:List D)(pl:Option Z8):Prop:=
 wpO (Zh (itp 40) (cT 106 673) [] (cE 106 673) (xs.map (Zd (sD ls))) ⟨[],upS ls xs,["code"],pl⟩) (fun ds τ=>ds=xs/\τ.up=upS ls xs/\τ.pl=pl)/\xs.length<=LIM/\Ze (eqL xs xs) fun b=>Zt (.fr (.bool true)) pl (.fr (.bool b)) pl
theorem Z9K(ls)(xs)(h:∀ d∈xs,InL ls d)(hl:xs.length<=LIM)(pl):(itp 80).call 106 [(Col.cf (sD ls) xs).val,(Col.cf (sD ls) xs).raw] pl=.ok (.fr (.bool true)) pl:=by
 refine ZX (A:={c:=40,C:=fun l=>if l=673 then some fun up O=>(xs,up) else none}) (n:=40) (Nat.le_of_ble_eq_true rfl)
  (P:=Ze ((eqL (sD ls) (sD ls)).map fun b=>!b) fun b=>cnd b (cnd b (Zt (.fr (.bool true)) pl (.fr (.bool false)) pl) (ZbH ls xs pl)) (ZbH ls xs pl)) (by kernel_rfl) ?_
 rw[Yt (Xl ls)]
 refine ⟨?_,hl,?_⟩
 ·have e:(xs.map (Zd (sD ls))).map (fun d=>match d with|.int i=>((sD ls)[(i - 1).toNat]?).getD .none|O=>.none)=xs:=by
   rw[List.map_map]
   refine (List.map_congr_left fun d hd=>?_).trans (List.map_id _)
   rcases h d hd with rfl|⟨s,rfl,hs⟩
   ·rfl
   ·show ((sD ls)[(((YV s (sD ls):Nat):Int)+1 - 1).toNat]?).getD .none=_
    rw[show (((YV s (sD ls):Nat):Int)+1 - 1).toNat=YV s (sD ls) by omega,Vt s ls hs]
    rfl
  refine Y5 (by kernel_rfl) (fun d=>match d with|.int i=>((sD ls)[(i - 1).toNat]?).getD .none|O=>.none) (fun d hd=>?_) fun σ hu hp=>⟨e,hu,hp⟩
  obtain ⟨d,hm,rfl⟩:=List.mem_map.mp hd
  rcases h d hm with rfl|⟨s,rfl,hs⟩
  ·exact YI 20 (by kernel_rfl)
  ·refine KE (A:={c:=20}) (n:=20) (Nat.le_of_ble_eq_true rfl) (P:=Ze (if (0:Int)<=((YV s (sD ls):Nat):Int)+1 - 1 then (sD ls)[(((YV s (sD ls):Nat):Int)+1 - 1).toNat]? else none) fun v=>
    (((.fr v,none):R)=(.fr (((sD ls)[(((YV s (sD ls):Nat):Int)+1 - 1).toNat]?).getD .none),none)/\(⟨[("code",.fr (Zd (sD ls) (.str s)))],upS ls xs,["code"],pl⟩:St)=⟨[("code",.fr (Zd (sD ls) (.str s)))],upS ls xs,["code"],pl⟩)) (by kernel_rfl) ?_
   rw[if_pos (by omega),show (((YV s (sD ls):Nat):Int)+1 - 1).toNat=YV s (sD ls) by omega,Vt s ls hs]
   exact ⟨rfl,rfl⟩
 ·rw[Yt fun d hd=>by
   rcases h d hd with h|⟨s,h,O⟩
   ·exact .inl h
   ·exact .inr (.inr ⟨s,h⟩)]
  exact ⟨rfl,rfl⟩
theorem ZcR(cols:List Col)(hc:∀ c∈cols,c.small)(hn:cols.length<=3)(h0:cols≠[])(pl:Option Z8):(itp 80).call 106 [(jn cols).val,(jn cols).raw] pl=.ok (.fr (.bool true)) pl:=by
 unfold jn
 split
 ·refine Z9K _ _ (fun d hd=>?_) ?_ pl
  ·obtain ⟨c,h1,h2⟩:=List.mem_flatMap.mp hd
   exact Z0r (hc c h1).1 (fun s hs=>(V5 _ []).2 c h1 s hs) d h2
  ·have:=(X0 hc hn (pl:=pl) trivial).2.2.1
   have e:∀ cols:List Col,(cols.flatMap Col.texts).length=(cols.flatMap Col.items).length:=fun cols=>by
    induction cols with
    |nil=>rfl
    |cons c cols ih=>simp only[List.flatMap_cons,List.flatMap_cons,List.length_append,List.length_append,ih,Wx]
   rw[e];exact this
 ·split
  ·exact Zg (by decide) (Z9I _ (fun d hd=>by obtain ⟨c,h1,h2⟩:=List.mem_flatMap.mp hd;exact Xa (hc c h1).1 d h2) pl)
  ·exact Zg (by decide) (Z9J _ (fun d hd=>by obtain ⟨c,h1,h2⟩:=List.mem_flatMap.mp hd;exact Z1C (hc c h1).1 d h2) pl)
theorem Z2O{k}(n){b}{σ}{Q}(h:wpO ((itp (k+1)).exs (b.take n) σ) fun f τ=>f=.next/\wpO ((itp (k+1)).exs (b.drop n) τ) Q):wpO ((itp (k+1)).exs b σ) Q:=by
 have key:∀ (a r:List Stmt) (σ:St),(wpO (ZB (itp k) a σ) fun f τ=>f=.next/\wpO (ZB (itp k) r τ) Q)->wpO (ZB (itp k) (a++r) σ) Q:=fun a r=>by
  induction a with
  |nil=>intro σ h;exact h.2
  |cons s a ih=>
   intro σ h
   show wpO ((Yd (itp k) s σ).bind fun f σ=>match f with
    |.next=>ZB (itp k) (a++r) σ
    |f=>.ok f σ) Q
   have h:wpO ((Yd (itp k) s σ).bind fun f σ=>match f with
    |.next=>ZB (itp k) a σ
    |f=>.ok f σ) fun f τ=>f=.next/\wpO (ZB (itp k) r τ) Q:=h
   cases e:Yd (itp k) s σ with
   |ok f τ=>
    rw[e] at h
    induction f with
    |next=>exact ih τ h
    |brk=>exact absurd h.1 nofun
    |cont=>exact absurd h.1 nofun
    |ret O=>exact absurd h.1 nofun
   |exc m τ=>rw[e] at h;exact h.elim
   |stuck=>rw[e] at h;exact h.elim
 have:=key (b.take n) (b.drop n) σ h
 rw[List.take_append_drop] at this
 exact this
noncomputable def Wc(i:Nat):List Str:=match fn i with
 |some F=>F.params
 |none=>[]
theorem YW{k i}{ds}{pl}{Q:LV->Option Z8->Prop}{vs}(hf:(fn i).isSome=true)(hl:(Wc i).length=ds.length)(hv:YU (Wc i) ds []=vs)
  (h:wpO ((itp k).exs (Za i) ⟨vs,[],[],pl⟩) fun f σ=>∃ lv,f=.ret lv/\Q lv σ.pl):∃ lv pl',(itp (k+1)).call i ds pl=.ok lv pl'/\Q lv pl':=by
 subst hv
 obtain ⟨F,e⟩:=Option.isSome_iff_exists.mp hf
 have e1:Wc i=F.params:=by unfold Wc;rw[e]
 have e2:Za i=F.body:=by unfold Za;rw[e]
 rw[e1] at hl h
 rw[e2] at h
 show ∃ lv pl',Yg (itp k) i ds pl=_/\_
 unfold Yg
 rw[e]
 dsimp only
 rw[if_pos hl]
 refine gG fun G gk=>?_
 obtain ⟨f,σ,e3,lv,rfl,q⟩:=Kv h
 refine gk ?_
 rw[e3]
 exact ⟨lv,σ.pl,rfl,q⟩
theorem YS{f}:∀ {n:Nat},(∀ d,d < n->f d)->Uk n f
 |0,O=>trivial
 |n+1,h=>⟨YS fun d k=>h d (Nat.lt_succ_of_lt k),h n (Nat.lt_succ_self n)⟩
noncomputable abbrev lc0(t:Nat)(c:Col):Zc:=[("pool",.fr .pool),("tall",.fr (.int t)),("form",.fr c.formD),("items",.ol c.items),("levels",.fr c.lvD)]
noncomputable abbrev lc1(t:Nat)(c:Col)(i:D):Zc:=[("pool",.fr .pool),("tall",.fr (.int t)),("form",.fr c.formD),("items",.ol c.items),("levels",.fr c.lvD),("_",.fr i)]
noncomputable abbrev lc2(t:Nat)(c:Col)(i f:D):Zc:=[("pool",.fr .pool),("tall",.fr (.int t)),("form",.fr c.formD),("items",.ol c.items),("levels",.fr c.lvD),("_",.fr i),("figure",.fr f)]
noncomputable def Z2P:Col->Nat->D:=fun O U=>match O,U with
 |.ci O,d=>([D.int 3,.int 7,.int 12,.int 0,.int (-4)][d]?).getD .none
 |.cs O,d=>([D.str "s",.str "t",.str "u",.str "v",.str "w"][d]?).getD .none
 |.cf lv O,d=>(lv[d]?).getD .none
noncomputable def Col.add:Col->D->Col:=fun O U=>match O,U with
 |.ci xs,d=>.ci (xs++[d])
 |.cs xs,d=>.cs (xs++[d])
 |.cf lv xs,d=>.cf lv (xs++[d])
theorem lt6{P:Nat->Prop}(a:P 0)(b:P 1)(c:P 2)(d:P 3)(e:P 4)(f:P 5)(n:Nat)(h:n < 6):P n:=by
 cases n with
 |zero=>exact a
 |succ n=>cases n with
  |zero=>exact b
  |succ n=>cases n with
   |zero=>exact c
   |succ n=>cases n with
    |zero=>exact d
    |succ n=>cases n with
     |zero=>exact e
     |succ n=>cases n with
      |zero=>exact f
      |succ n=>exact absurd h (by lia)
theorem Z9L{c:Col}(hc:c.ok)(d:Nat)(hd:d < 6):(c.add (Z2P c d)).ok:=by
 induction c with
 |ci xs=>
  intro e he
  rcases List.mem_append.mp he with he|he
  ·exact hc e he
  ·rw[List.mem_singleton.mp he]
   exact lt6 (P:=fun d=>Yl (([D.int 3,.int 7,.int 12,.int 0,.int (-4)][d]?).getD .none)) .a .b .c .d .e .n d hd
 |cs xs=>
  intro e he
  rcases List.mem_append.mp he with he|he
  ·exact hc e he
  ·rw[List.mem_singleton.mp he]
   exact lt6 (P:=fun d=>V4 (([D.str "s",.str "t",.str "u",.str "v",.str "w"][d]?).getD .none)) .a .b .c .d .e .n d hd
 |cf lv xs=>
  refine ⟨hc.1,fun e he=>?_⟩
  rcases List.mem_append.mp he with he|he
  ·exact hc.2 e he
  ·rw[List.mem_singleton.mp he]
   show WH lv ((lv[d]?).getD .none)
   cases h:lv[d]? with
   |none=>exact .inl rfl
   |some v=>
    have hm:=List.mem_of_getElem? h
    have:∃ s,v=.str s:=by
     have h1:=hc.1
     cases h1<;>simp only[List.mem_cons,List.not_mem_nil,or_false] at hm
     ·rcases hm with h|h<;>exact ⟨_,h⟩
     ·rcases hm with h|h|h<;>exact ⟨_,h⟩
     ·rcases hm with h|h<;>exact ⟨_,h⟩
    obtain ⟨s,rfl⟩:=this
    exact .inr ⟨s,rfl,hm⟩
theorem Z7n(c:Col)(d:D):(c.add d).items.length=c.items.length+1:=by
 cases c<;>exact List.length_append
def Jl(t:Nat)(n:Nat)(σ:St):Prop:=∃ c p,Col.ok c/\c.items.length=n/\Zb p/\(σ=⟨lc0 t c,[],[],some p⟩\/∃ i f,σ=⟨lc2 t c i f,[],[],some p⟩)
abbrev ZcS(t:Nat)(c:Col)(i:D)(p:Z8)(Q:Fl->St->Prop):Prop:=Zb p/\Uk 6 fun d=>∀ p',Zb p'->cnd (decide (c.items.length < LIM)) (Q .next ⟨lc2 t (c.add (Z2P c d)) i (.int d),[],[],some p'⟩) False
theorem Z7o(t:Nat)(c:Col)(hc:c.ok)(hl:c.items.length < LIM)(p:Z8)(hp:Zb p)(i:D)(b:Zc)(hb:b=lc1 t c i\/∃ f,b=lc2 t c i f) :
  wpO ((itp 60).exs (sB 102 637) ⟨b,[],[],some p⟩) fun g σ=>(g=.next\/g=.cont)/\Jl t (c.items.length+1) σ:=by
 have fin:ZcS t c i p fun g σ=>(g=.next\/g=.cont)/\Jl t (c.items.length+1) σ:=⟨hp,YS fun d hd p' hp'=>ZP hl ⟨.inl rfl,_,p',Z9L hc d hd,Z7n _ _,hp',.inr ⟨_,_,rfl⟩⟩⟩
 rcases hb with rfl|⟨f,rfl⟩
 ·refine Zj (A:={c:=20}) (n:=40) (Nat.le_of_ble_eq_true rfl) ?_ fin
  cases c with
  |ci xs=>kernel_rfl
  |cs xs=>kernel_rfl
  |cf lv xs=>obtain ⟨hv,O⟩:=hc;cases hv<;>kernel_rfl
 ·refine Zj (A:={c:=20}) (n:=40) (Nat.le_of_ble_eq_true rfl) ?_ fin
  cases c with
  |ci xs=>kernel_rfl
  |cs xs=>kernel_rfl
  |cf lv xs=>obtain ⟨hv,O⟩:=hc;cases hv<;>kernel_rfl
theorem Z7p(t)(ds)(n)(σ)(hl:n+ds.length < LIM)(h:Jl t n σ):wpO (ZJ ((itp 60).exs (sB 102 637)) (sT 102 637) ds σ) fun g τ=>g=.next/\Jl t (n+ds.length) τ:=by
 have k:=ZG (α:=Nat) (β:=D) (body:=(itp 60).exs (sB 102 637)) (t:=sT 102 637) id (Jl t) (fun n O=>n+1) (fun n ds=>n+ds.length < LIM) (fun n d ds σ ok h=>?_) ds n σ hl h
 ·rw[List.map_id] at k
  have:∀ (ds:List D) (n:Nat),ds.foldl (fun n O=>n+1) n=n+ds.length:=fun ds=>by
   induction ds with
   |nil=>intro n;rfl
   |cons d ds ih=>intro n;simp only[List.foldl_cons,ih,List.length_cons];lia
  rw[this] at k
  exact k
 ·rw[List.length_cons] at ok
  refine ⟨by lia,?_⟩
  obtain ⟨c,p,hc,hn,hp,h⟩:=h
  have key:∃ b,Zl (sT 102 637) (id d) σ=.ok () ⟨b,[],[],some p⟩/\(b=lc1 t c d\/∃ f,b=lc2 t c d f):=by
   rcases h with rfl|⟨i,f,rfl⟩
   ·exact ⟨lc1 t c d,by kernel_rfl,.inl rfl⟩
   ·exact ⟨lc2 t c d f,by kernel_rfl,.inr ⟨_,rfl⟩⟩
  obtain ⟨b,e,hb⟩:=key
  rw[e]
  rw[<-hn]
  exact ZF (Z7o t c hc (by lia) p hp d b hb)
def ZbI(Q:Fl->St->Prop)(f:Fl)(σ:St):Prop:=match f with
 |.next=>Vr σ fun σ=>Q .next σ
 |f=>Q f σ
theorem Z5k(t:Nat)(ht:t<=3){c}{p'}{τ}{Q:Fl->St->Prop}(hτ:τ=⟨lc0 t c,[],[],some p'⟩\/∃ i f,τ=⟨lc2 t c i f,[],[],some p'⟩)(h:wpO (ZJ ((itp 60).exs (sB 102 637)) (sT 102 637) (Zi 0 t) τ) (ZbI Q)) :
  wpO ((itp 101).exs (((Za 102).drop 4).take 1) τ) Q:=by
 have key:∀ n:Nat,(n=0\/n=1\/n=2\/n=3)->∀ v f,wpO (ZJ ((itp 60).exs (sB 102 637)) (sT 102 637) (Zi 0 n) ⟨("pool",.fr .pool)::("tall",.fr (.int n))::("form",f)::v,[],[],some p'⟩) (ZbI Q)->wpO ((itp 101).exs (((Za 102).drop 4).take 1) ⟨("pool",.fr .pool)::("tall",.fr (.int n))::("form",f)::v,[],[],some p'⟩) Q:=by
  rintro n (rfl|rfl|rfl|rfl) v f h
  all_goals exact Zj (A:={c:=60,L:=[637]}) (n:=41) (Nat.le_of_ble_eq_true rfl) (by kernel_rfl) h
 have hn:t=0\/t=1\/t=2\/t=3:=by lia
 rcases hτ with rfl|⟨i,f,rfl⟩
 ·exact key t hn _ _ h
 ·exact key t hn _ _ h
theorem ZcT(t:Nat)(ht:t<=3)(p:Z8)(hp:Zb p):∃ lv pl',(itp 102).call 102 [.pool,.int t] (some p)=.ok lv pl'/\∃ c p',Col.ok c/\c.items.length=t/\Zb p'/\lv.d=c.raw/\pl'=some p':=by
 refine YW (k:=101) (Q:=fun lv pl'=>∃ c p',Col.ok c/\c.items.length=t/\Zb p'/\lv.d=c.raw/\pl'=some p') (vs:=[("pool",.fr .pool),("tall",.fr (.int t))]) (by kernel_rfl) (by kernel_rfl) (by kernel_rfl) ?_
 refine Z2O (k:=100) 4 ?_
 have hj:∀ c p',Col.ok c->c.items=[]->Zb p'->Jl t 0 ⟨lc0 t c,[],[],some p'⟩:=fun c p' h1 h2 h3=>⟨c,p',h1,by rw[h2];rfl,h3,.inl rfl⟩
 have seg1:wpO ((itp 101).exs ((Za 102).take 4) ⟨[("pool",.fr .pool),("tall",.fr (.int t))],[],[],some p⟩) fun f τ=>f=.next/\Jl t 0 τ:=by
  refine Zj (A:={c:=20}) (n:=81) (Nat.le_of_ble_eq_true rfl) (P:=Zb p/\((True/\∀ p',Zb p'->Fl.next=Fl.next/\Jl t 0 ⟨lc0 t (.ci []),[],[],some p'⟩)/\∀ p',Zb p'->Fl.next=Fl.next/\Jl t 0 ⟨lc0 t (.cs []),[],[],some p'⟩)/\∀ p',Zb p'->Zb p' /\
   (((True/\∀ p',Zb p'->Fl.next=Fl.next/\Jl t 0 ⟨lc0 t (.cf [.str "s",.str "t"] []),[],[],some p'⟩)/\∀ p',Zb p'->Fl.next=Fl.next/\Jl t 0 ⟨lc0 t (.cf [.str "t",.str "u",.str "s"] []),[],[],some p'⟩)/\∀ p',Zb p'->Fl.next=Fl.next/\Jl t 0 ⟨lc0 t (.cf [.str "7",.str "u"] []),[],[],some p'⟩)/\∀ p',Zb p'->Fl.next=Fl.next/\Jl t 0 ⟨lc0 t (.cf [] []),[],[],some p'⟩) (by kernel_rfl) ?_
  exact ⟨hp,⟨⟨trivial,fun p' h=>⟨rfl,hj _ p' (fun O h=>by cases h) rfl h⟩⟩,fun p' h=>⟨rfl,hj _ p' (fun O h=>by cases h) rfl h⟩⟩,fun p' h=>⟨h,⟨⟨⟨trivial,fun p' h=>⟨rfl,hj _ p' ⟨.a,fun O h=>by cases h⟩ rfl h⟩⟩,fun p' h=>⟨rfl,hj _ p' ⟨.b,fun O h=>by cases h⟩ rfl h⟩⟩,fun p' h=>⟨rfl,hj _ p' ⟨.c,fun O h=>by cases h⟩ rfl h⟩⟩,fun p' h=>⟨rfl,hj _ p' ⟨.d,fun O h=>by cases h⟩ rfl h⟩⟩⟩
 refine Z0 seg1 fun f τ q=>⟨q.1,?_⟩
 have hJ:=q.2
 refine Z2O (k:=100) 1 ?_
 have hlen:(Zi 0 t).length=t:=by unfold Zi;rw[List.length_map,List.length_range];lia
 have hL:10 < LIM:=by decide
 have loop:=Z7p t (Zi 0 t) 0 τ (by rw[hlen];lia) hJ
 rw[hlen,Nat.zero_add] at loop
 have seg2:wpO ((itp 101).exs (((Za 102).drop 4).take 1) τ) fun f τ=>f=.next/\Jl t t τ:=by
  obtain ⟨c,p',O,O,O,hτ⟩:=hJ
  refine Z5k t ht (by rcases hτ with rfl|⟨i,f,rfl⟩;exact .inl rfl;exact .inr ⟨i,f,rfl⟩) (Z0 loop fun f σ q=>?_)
  rw[q.1]
  show Vr σ _
  rw[Vs]
  exact ⟨rfl,q.2⟩
 refine Z0 seg2 fun f τ q=>⟨q.1,?_⟩
 obtain ⟨c,p',hc,hn,hp',hτ⟩:=q.2
 have fin:∃ lv,Fl.ret (.ol [c.formD,.list c.items,c.lvD])=Fl.ret lv/\∃ c' p'',Col.ok c'/\c'.items.length=t/\Zb p''/\lv.d=c'.raw/\(some p':Option Z8)=some p'':=⟨_,rfl,c,p',hc,hn,hp',by cases c<;>rfl,rfl⟩
 rcases hτ with rfl|⟨i,f,rfl⟩
 ·exact Zj (A:={c:=20}) (n:=81) (Nat.le_of_ble_eq_true rfl) (by kernel_rfl) fin
 ·exact Zj (A:={c:=20}) (n:=81) (Nat.le_of_ble_eq_true rfl) (by kernel_rfl) fin
noncomputable abbrev frV(its nm rn:D):D:=.vec (.str "list") its (.dict [("names",.vec (.str "character") nm .none),("class",vC [.str "data.frame"]),("row.names",rn)])
theorem L80(cols:List Col)(hl:cols.length<=LIM)(nm:List D)(k i a:D)(pl:Option Z8) :
  (itp 80).call 80 [.list (cols.map Col.val),.list nm,.vec k i a] pl=.ok (.ov (.str "list") (.list (cols.map Col.val)) (.dict [("names",vC nm),("class",vC [.str "data.frame"]),("row.names",.vec k i a)]) true) pl:=by
 refine ZX (A:={c:=40,C:=fun l=>if l=476 then some fun up xs=>(xs,up) else none}) (n:=40) (Nat.le_of_ble_eq_true rfl)
  (P:=wpO (Zh (itp 40) (cT 80 476) [] (cE 80 476) (cols.map Col.val) ⟨[],[("columns",.fr (.list (cols.map Col.val))),("names",.fr (.list nm)),("row_labels",.fr (.vec k i a))],["column"],pl⟩) (fun ds σ=>ds=cols.map Col.val/\σ.up=([("columns",.fr (.list (cols.map Col.val))),("names",.fr (.list nm)),("row_labels",.fr (.vec k i a))]:Zc)/\σ.pl=pl)/\(cols.map Col.val).length<=LIM /\
   Zt (.ov (.str "list") (.list (cols.map Col.val)) (.dict [("names",vC nm),("class",vC [.str "data.frame"]),("row.names",.vec k i a)]) true) pl (.ov (.str "list") (.list (cols.map Col.val)) (.dict [("names",vC nm),("class",vC [.str "data.frame"]),("row.names",.vec k i a)]) true) pl) (by kernel_rfl) ⟨?_,by rw[List.length_map];exact hl,rfl,rfl⟩
 refine Y5 (by kernel_rfl) id (fun d hd=>?_) fun σ hu hp=>⟨List.map_id _,hu,hp⟩
 obtain ⟨c,_,rfl⟩:=List.mem_map.mp hd
 cases c<;>exact YI 20 (by kernel_rfl)
inductive Nm:Nat->List Str->Prop
 |a:Nm 1 ["g"]
 |b:Nm 1 ["k"]
 |c:Nm 1 ["g","m"]
 |d:Nm 2 ["g","h"]
 |e:Nm 2 ["h","g"]
 |f:Nm 2 ["k","h"]
 |g:Nm 2 ["k","g"]
 |h:Nm 2 ["g","h","m"]
 |i:Nm 2 ["h","g","m"]
noncomputable def Xb(s:Str):List Str->Nat:=fun O=>match O with
 |[]=>0
 |t::r=>if s=t then 0 else Xb s r+1
theorem Z5l{s t r}:Xb s (t::r)=if s=t then 0 else Xb s r+1:=rfl
noncomputable def Y8(heads own:List Str):Option Str:=
 if own.length≠heads.length then some "numbers of columns of arguments do not match"
 else if heads.all (fun h=>decide (h∈own)) then none else some "names do not match previous names"
noncomputable def Z5m{α:Type}(heads own:List Str)(xs:List α)(e:α):List α:=heads.map fun h=>(xs[Xb h own]?).getD e
def Z7q(o:CO)(d:D)(pl:Option Z8):Prop:=∃ lv,o=.ok lv pl/\lv.d=d
theorem Z9M{A}(hc:20<=A.c){n i}{ds}{pl}{d}{P}(e:P=(W A n).call i ds pl (fun l p=>l.d=d/\p=pl))(h:P):Z7q ((itp (A.c+n)).call i ds pl) d pl:=by
 subst e
 obtain ⟨l,p,e,h1,rfl⟩:=(Z3m hc n).call h
 exact ⟨l,e,h1⟩
theorem Z5n(m){i}{ds}{pl}{d}(e:(d=d/\pl=pl)=(W {c:=20} m).call i ds pl (fun l p=>l.d=d/\p=pl)):Z7q ((itp (20+m)).call i ds pl) d pl:=Z9M (A:={c:=20}) (Nat.le_refl _) e ⟨rfl,rfl⟩
def Ut(heads own:List Str)(its:List D)(rn:D)(pl:Option Z8):Prop:=match Y8 heads own with
 |none=>Z7q ((itp 80).call 93 [.list (sD heads),frV (.list its) (.list (sD own)) rn] pl) (.list (Z5m heads own its .none)) pl
 |some m=>(itp 80).call 93 [.list (sD heads),frV (.list its) (.list (sD own)) rn] pl=.exc m pl
theorem Z2Q{heads own}{its}{rn}{pl}(e:Y8 heads own=none)(h:Z7q ((itp 80).call 93 [.list (sD heads),frV (.list its) (.list (sD own)) rn] pl) (.list (Z5m heads own its .none)) pl):Ut heads own its rn pl:=by
 unfold Ut;rw[e];exact h
theorem V7{heads own}{its}{rn}{pl}(m)(e:Y8 heads own=some m)(h:(itp 80).call 93 [.list (sD heads),frV (.list its) (.list (sD own)) rn] pl=.exc m pl):Ut heads own its rn pl:=by
 unfold Ut;rw[e];exact h
@[elab_as_elim] theorem Nm.e1{P:List Str->Prop}(a:P ["g"])(b:P ["k"])(c:P ["g","m"]){l:List Str}(h:Nm 1 l):P l:=by
 cases h
 ·exact a
 ·exact b
 ·exact c
@[elab_as_elim] theorem Nm.e2{P:List Str->Prop}(a:P ["g","h"])(b:P ["h","g"])(c:P ["k","h"])(d:P ["k","g"])(e:P ["g","h","m"])(f:P ["h","g","m"]){l:List Str}(h:Nm 2 l):P l:=by
 cases h
 ·exact a
 ·exact b
 ·exact c
 ·exact d
 ·exact e
 ·exact f
theorem Z2R(heads own)(its rn)(pl)(h:(heads.length=1/\own.length=2)\/(heads.length=2/\own.length=1)\/(heads.length=2/\own.length=3)\/(heads.length=3/\own.length=2)) :
  (itp 80).call 93 [.list (sD heads),frV its (.list (sD own)) rn] pl=.exc "numbers of columns of arguments do not match" pl:=by
 rcases h with ⟨h,k⟩|⟨h,k⟩|⟨h,k⟩|⟨h,k⟩
 ·exact pl1 (fun a=>pl2 (fun b c=>by kernel_rfl) own k) heads h
 ·exact pl2 (fun a d=>pl1 (fun b=>by kernel_rfl) own k) heads h
 ·exact pl2 (fun a d=>pl3 (fun b c e=>by kernel_rfl) own k) heads h
 ·exact pl3 (fun a d f=>pl2 (fun b c=>by kernel_rfl) own k) heads h
theorem ZbJ{heads own}(hh:Nm 1 heads)(ho:Nm 1 own){its}(hl:its.length=own.length)(rn)(pl):Ut heads own its rn pl:=by
 refine Nm.e1 (P:=fun own=>∀ its:List D,its.length=own.length->Ut heads own its rn pl) ?_ ?_ ?_ ho its hl<;>intro its hl<;>(first|refine pl1 (fun x=>?_) its hl|refine pl2 (fun x y=>?_) its hl)<;>refine Nm.e1 ?_ ?_ ?_ hh<;>first|exact V7 "numbers of columns of arguments do not match" (by decide +kernel) (Z2R _ _ _ _ _ (by decide))|exact Z2Q (by decide +kernel) (Z5n 60 (by kernel_rfl))|exact V7 "names do not match previous names" (by decide +kernel) (by kernel_rfl)
theorem ZbK{heads own}(hh:Nm 2 heads)(ho:Nm 2 own){its}(hl:its.length=own.length)(rn)(pl):Ut heads own its rn pl:=by
 refine Nm.e2 (P:=fun own=>∀ its:List D,its.length=own.length->Ut heads own its rn pl) ?_ ?_ ?_ ?_ ?_ ?_ ho its hl<;>intro its hl<;>(first|refine pl2 (fun x y=>?_) its hl|refine pl3 (fun x y z=>?_) its hl)<;>refine Nm.e2 ?_ ?_ ?_ ?_ ?_ ?_ hh<;>first|exact V7 "numbers of columns of arguments do not match" (by decide +kernel) (Z2R _ _ _ _ _ (by decide))|exact Z2Q (by decide +kernel) (Z5n 60 (by kernel_rfl))|exact V7 "names do not match previous names" (by decide +kernel) (by kernel_rfl)
structure Fr where
 names:List Str
 cols:List Col
 rows:D
 side:D
noncomputable def Fr.val(f:Fr):D:=frV (.list (f.cols.map Col.val)) (.list (sD f.names)) f.rows
def Fr.ok(w:Nat)(f:Fr):Prop:=Nm w f.names/\f.cols.length=f.names.length/\∀ c∈f.cols,c.small
theorem Wd{w}{ns}(h:Nm w ns):1<=ns.length/\ns.length<=3:=by cases h<;>decide
theorem L93{w:Nat}{heads:List Str}{f:Fr}(hh:Nm w heads)(hf:f.ok w)(pl:Option Z8):Ut heads f.names (f.cols.map Col.val) f.rows pl:=by
 obtain ⟨h1,h2,O⟩:=hf
 have hl:(f.cols.map Col.val).length=f.names.length:=by rw[List.length_map];exact h2
 have hw:w=1\/w=2:=by cases hh<;>first|exact .inl rfl|exact .inr rfl
 rcases hw with rfl|rfl
 ·exact ZbJ hh h1 hl _ pl
 ·exact ZbK hh h1 hl _ pl
theorem Z8Q{A}(hc:20<=A.c){n}{es}{σ}{Q}{P}(e:P=Z73 (W A n) es σ Q)(h:P):wpO (X9 (itp (A.c+n)) es σ) Q:=by
 subst e
 exact Z2G (Z3m hc n) (Zr (Nat.le_add_right _ _)) (fun O=>⟨hc,Z0k⟩) h
theorem JK{k}{t elt}{ifs}(J:St->Prop)(f:D->D):∀ (xs:List D) (σ:St),(∀ d∈xs,∀ σ,J σ->wpO (Zl t d σ) fun O σ=>wpO (X9 (itp k) ifs σ) fun b σ=>b=true/\wpO ((itp k).ev elt σ) fun r σ=>r.1.d=f d/\J (Zo r σ))->J σ ->
  wpO (Zh (itp k) t ifs elt xs σ) fun ds σ=>ds=xs.map f/\J σ:=fun O U V O1=>match O,U,V,O1 with
 |[],O,U,j=>⟨rfl,j⟩
 |d::xs,σ,h,j=>by
  refine XB (Z0 (h d List.mem_cons_self σ j) fun O σ h1=>Z0 h1 fun b σ h1=>⟨fun O=>Z0 h1.2 fun r σ h2=>?_,fun e=>absurd (h1.1.symm.trans e) nofun⟩)
  refine Z0 (JK J f xs _ (fun d hd=>h d (List.mem_cons_of_mem _ hd)) h2.2) fun ds σ h3=>?_
  exact ⟨by rw[List.map_cons,<-h2.1,<-h3.1],h3.2⟩
noncomputable abbrev u0(F:D):Zc:=[("frames",.fr F)]
theorem Z0w{w}(fs:List Fr)(hf:∀ f∈fs,f.ok w)(F:D)(pl:Option Z8) :
  wpO (Zh (itp 60) (cT 95 579) (cF 95 579) (cE 95 579) (fs.map Fr.val) ⟨[],u0 F,["df"],pl⟩) fun ds τ=>ds=fs.map Fr.val/\τ.up=u0 F/\τ.pl=pl:=by
 have k:=JK (k:=60) (t:=cT 95 579) (ifs:=cF 95 579) (elt:=cE 95 579) (fun σ=>σ=⟨[],u0 F,["df"],pl⟩\/∃ d,σ=⟨[("df",.fr d)],u0 F,["df"],pl⟩) id (fs.map Fr.val) ⟨[],u0 F,["df"],pl⟩ (fun d hd σ hσ=>?_) (.inl rfl)
 ·refine Z0 k fun ds τ q=>⟨by rw[q.1,List.map_id],?_⟩
  rcases q.2 with rfl|⟨d,rfl⟩<;>exact ⟨rfl,rfl⟩
 ·obtain ⟨f,hm,rfl⟩:=List.mem_map.mp hd
  have e:Zl (cT 95 579) f.val σ=.ok () ⟨[("df",.fr f.val)],u0 F,["df"],pl⟩:=by
   rcases hσ with rfl|⟨d,rfl⟩<;>kernel_rfl
  rw[e]
  refine ZF ?_
  obtain ⟨h1,h2,O⟩:=hf f hm
  have h3:=(Wd h1).1
  have h4:decide ((((f.cols.map Col.val).length:Nat):Int) > 0)=true:=decide_eq_true (by rw[List.length_map];lia)
  refine Z8Q (A:={c:=20}) (n:=40) (Nat.le_refl _) (P:=decide ((((f.cols.map Col.val).length:Nat):Int) > 0)=true/\wpO ((itp 60).ev (cE 95 579) ⟨[("df",.fr f.val)],u0 F,["df"],pl⟩) fun r σ=>r.1.d=id f.val/\((Zo r σ)=⟨[],u0 F,["df"],pl⟩\/∃ d,(Zo r σ)=⟨[("df",.fr d)],u0 F,["df"],pl⟩)) (by kernel_rfl) ⟨h4,?_⟩
  refine Z0 (YI 40 (r:=(.fr f.val,none)) (σ':=⟨[("df",.fr f.val)],u0 F,["df"],pl⟩) (by kernel_rfl)) fun r σ q=>?_
  obtain ⟨rfl,rfl⟩:=q
  exact ⟨rfl,.inr ⟨_,rfl⟩⟩
noncomputable abbrev u3(F:D)(n:LV):Zc:=[("frames",.fr F),("kept",.fr F),("names",n)]
theorem Xm{k}{t elt}{β:Type}(e:β->D)(J0 J1:St->Prop)(f:β->D)(xs:List β)(h:∀ d∈xs,∀ σ,J0 σ\/J1 σ->wpO (Zl t (e d) σ) fun O σ=>wpO ((itp k).ev elt σ) fun r σ=>r.1.d=f d/\J1 (Zo r σ)) :
  ∀ (ys:List β) (σ:St),(∀ y∈ys,y∈xs)->J0 σ\/J1 σ->wpO (Zh (itp k) t [] elt (ys.map e) σ) fun ds τ=>ds=ys.map f/\(ys≠[]\/J1 σ->J1 τ):=fun O U V O1=>match O,U,V,O1 with
 |[],σ,O,U=>⟨rfl,fun h=>h.elim (fun h=>absurd rfl h) id⟩
 |y::ys,σ,m,j=>by
  refine XB (Z0 (h y (m y List.mem_cons_self) σ j) fun O σ h1=>Kw ⟨fun O=>Z0 h1 fun r σ h2=>?_,nofun⟩)
  refine Z0 (Xm e J0 J1 f xs h ys _ (fun d hd=>m d (List.mem_cons_of_mem _ hd)) (.inr h2.2)) fun ds σ h3=>?_
  exact ⟨by rw[List.map_cons,<-h2.1,<-h3.1],fun O=>h3.2 (.inr h2.2)⟩
theorem Z5o{w:Nat}{heads:List Str}(hh:Nm w heads)(fs:List Fr)(h0:fs≠[])(hf:∀ f∈fs,f.ok w)(he:∀ f∈fs,Y8 heads f.names=none)(F:D)(pl:Option Z8) :
  wpO (Zh (itp 120) (cT 95 583) [] (cE 95 583) (fs.map Fr.val) ⟨[],u3 F (.ol (sD heads)),["df"],pl⟩) fun ds τ=>ds=fs.map (fun f=>.list (Z5m heads f.names (f.cols.map Col.val) .none))/\τ.up=u3 F (.fr (.list (sD heads)))/\τ.pl=pl:=by
 have k:=Xm (k:=120) (t:=cT 95 583) (elt:=cE 95 583) Fr.val (fun σ=>σ=⟨[],u3 F (.ol (sD heads)),["df"],pl⟩) (fun σ=>∃ d,σ=⟨[("df",.fr d)],u3 F (.fr (.list (sD heads))),["df"],pl⟩) (fun f=>.list (Z5m heads f.names (f.cols.map Col.val) .none)) fs (fun f hm σ hσ=>?_) fs ⟨[],u3 F (.ol (sD heads)),["df"],pl⟩ (fun O h=>h) (.inl rfl)
 ·refine Z0 k fun ds τ q=>⟨q.1,?_⟩
  obtain ⟨d,rfl⟩:=q.2 (.inl h0)
  exact ⟨rfl,rfl⟩
 ·have hok:=L93 hh (hf f hm) pl
  unfold Ut at hok
  rw[he f hm] at hok
  obtain ⟨lv,hcall,hlv⟩:=hok
  have hcall:=Zg (by decide:80<=80) hcall
  rcases hσ with rfl|⟨d,rfl⟩
  ·rw[show Zl (cT 95 583) f.val ⟨[],u3 F (.ol (sD heads)),["df"],pl⟩=.ok () ⟨[("df",.fr f.val)],u3 F (.ol (sD heads)),["df"],pl⟩ by kernel_rfl]
   refine ZF (Z0 (KE (A:={c:=80,S:=fun i O=>if i=93 then some lv else none}) (n:=40) (Nat.le_of_ble_eq_true rfl) (Q:=fun r τ=>r=(lv,none)/\τ=⟨[("df",.fr f.val)],u3 F (.fr (.list (sD heads))),["df"],pl⟩)
    (P:=(itp 80).call 93 [.list (sD heads),frV (.list (f.cols.map Col.val)) (.list (sD f.names)) f.rows] pl=.ok lv pl/\((lv,none):R)=(lv,none)/\(⟨[("df",.fr f.val)],u3 F (.fr (.list (sD heads))),["df"],pl⟩:St)=⟨[("df",.fr f.val)],u3 F (.fr (.list (sD heads))),["df"],pl⟩) (by kernel_rfl) ⟨hcall,rfl,rfl⟩) fun r τ q=>?_)
   obtain ⟨rfl,rfl⟩:=q
   exact ⟨hlv,_,rfl⟩
  ·rw[show Zl (cT 95 583) f.val ⟨[("df",.fr d)],u3 F (.fr (.list (sD heads))),["df"],pl⟩=.ok () ⟨[("df",.fr f.val)],u3 F (.fr (.list (sD heads))),["df"],pl⟩ by kernel_rfl]
   refine ZF (Z0 (KE (A:={c:=80,S:=fun i O=>if i=93 then some lv else none}) (n:=40) (Nat.le_of_ble_eq_true rfl) (Q:=fun r τ=>r=(lv,none)/\τ=⟨[("df",.fr f.val)],u3 F (.fr (.list (sD heads))),["df"],pl⟩)
    (P:=(itp 80).call 93 [.list (sD heads),frV (.list (f.cols.map Col.val)) (.list (sD f.names)) f.rows] pl=.ok lv pl/\((lv,none):R)=(lv,none)/\(⟨[("df",.fr f.val)],u3 F (.fr (.list (sD heads))),["df"],pl⟩:St)=⟨[("df",.fr f.val)],u3 F (.fr (.list (sD heads))),["df"],pl⟩) (by kernel_rfl) ⟨hcall,rfl,rfl⟩) fun r τ q=>?_)
   obtain ⟨rfl,rfl⟩:=q
   exact ⟨hlv,_,rfl⟩
noncomputable def Z5p:CO->LV:=fun O=>match O with
 |.ok lv O=>lv
 |O=>.fr .none
def oJ(JV:D->LV)(pl:Option Z8):List (List D)->Prop->Prop:=fun O U=>match O,U with
 |[],R=>R
 |p::r,R=>(itp 300).call 92 [.list p] pl=.ok (JV (.list p)) pl/\oJ JV pl r R
noncomputable abbrev WT(heads:List Str)(fs:List Fr):List (List D):=heads.map fun h=>fs.map fun f=>(((f.cols.map Col.val)[Xb h f.names]?).getD .none)
noncomputable abbrev W5(cs nm k i a:D):LV:=.ov (.str "list") cs (.dict [("names",.vec (.str "character") nm .none),("class",vC [.str "data.frame"]),("row.names",.vec k i a)]) true
noncomputable def S95(JV:D->LV)(k i a:D):Nat->List D->Option LV:=fun n ds=>
 if n=92 then (match ds with
  |[p]=>some (JV p)
  |O=>none)
 else if n=94 then some (.ov k i a false)
 else if n=80 then (match ds with
  |[cs,nm,O]=>some (W5 cs nm k i a)
  |O=>none)
 else none
noncomputable abbrev Z5q(heads:List Str)(fs:List Fr):List D:=fs.map fun f=>.list (Z5m heads f.names (f.cols.map Col.val) .none)
noncomputable abbrev A95(JV:D->LV)(k i a:D)(heads:List Str)(fs:List Fr):Ask:={c:=300,S:=S95 JV k i a,C:=fun l=>if l=579 then some fun up xs=>(xs,up) else if l=583 then some fun up xs=>(Z5q heads fs,u3 (.list (fs.map Fr.val)) (.fr (.list (sD heads)))) else none}
abbrev o95(JV:D->LV)(k i a:D)(heads:List Str)(fs:List Fr)(R:LV)(pl:Option Z8):Prop:=
 wpO (Zh (itp 300) (cT 95 579) (cF 95 579) (cE 95 579) (fs.map Fr.val) ⟨[],u0 (.list (fs.map Fr.val)),["df"],pl⟩) (fun ds τ=>ds=fs.map Fr.val/\τ.up=u0 (.list (fs.map Fr.val))/\τ.pl=pl)/\(fs.map Fr.val).length<=LIM /\
 wpO (Zh (itp 300) (cT 95 583) [] (cE 95 583) (fs.map Fr.val) ⟨[],u3 (.list (fs.map Fr.val)) (.ol (sD heads)),["df"],pl⟩) (fun ds τ=>ds=Z5q heads fs/\τ.up=u3 (.list (fs.map Fr.val)) (.fr (.list (sD heads)))/\τ.pl=pl)/\(Z5q heads fs).length<=LIM /\
 oJ JV pl (WT heads fs) ((itp 300).call 94 [.list (fs.map Fr.val)] pl=.ok (.ov k i a false) pl /\
  (itp 300).call 80 [.list ((WT heads fs).map fun p=>(JV (.list p)).d),.list (sD heads),.vec k i a] pl=.ok (W5 (.list ((WT heads fs).map fun p=>(JV (.list p)).d)) (.list (sD heads)) k i a) pl /\
  Zt R pl (W5 (.list ((WT heads fs).map fun p=>(JV (.list p)).d)) (.list (sD heads)) k i a) pl)
abbrev T95(JV:D->LV)(k i a:D)(R:LV)(pl:Option Z8)(cols:List Col)(rn sd:D)(heads:List Str)(r:List Fr):Prop:=o95 JV k i a heads (⟨heads,cols,rn,sd⟩::r) R pl=(W (A95 JV k i a heads (⟨heads,cols,rn,sd⟩::r)) 60).call 95 [.list ((⟨heads,cols,rn,sd⟩::r:List Fr).map Fr.val)] pl (Zt R pl)
theorem k95(JV)(k i a)(R)(pl)(heads)(cols)(rn sd)(r)(h:1<=heads.length/\heads.length<=3)(hr:r.length<=2):T95 JV k i a R pl cols rn sd heads r:=
 Xk (P:=fun hs=>T95 JV k i a R pl cols rn sd hs r) (fun x=>JF (P:=T95 JV k i a R pl cols rn sd [x]) (by kernel_rfl) (fun O=>by kernel_rfl) (fun O O=>by kernel_rfl) r hr) (fun x y=>JF (P:=T95 JV k i a R pl cols rn sd [x,y]) (by kernel_rfl) (fun O=>by kernel_rfl) (fun O O=>by kernel_rfl) r hr) (fun x y z=>JF (P:=T95 JV k i a R pl cols rn sd [x,y,z]) (by kernel_rfl) (fun O=>by kernel_rfl) (fun O O=>by kernel_rfl) r hr) heads h
noncomputable def ZQ(h:Str)(f:Fr):Col:=(f.cols[Xb h f.names]?).getD (.ci [])
noncomputable def VJ(heads:List Str)(fs:List Fr):List Col:=heads.map fun h=>jn (fs.map (ZQ h))
theorem KH{s}:∀ {l:List Str},s∈l->Xb s l < l.length
 |t::r,h=>by
  rw[Z5l]
  by_cases e:s=t
  ·rw[if_pos e];exact Nat.succ_pos _
  ·rw[if_neg e];exact Nat.succ_lt_succ (KH (by rcases List.mem_cons.mp h with h|h;exact absurd h e;exact h))
theorem Uu{heads own}(h:Y8 heads own=none):∀ s∈heads,s∈own:=by
 unfold Y8 at h
 refine ite_el h (fun q_ h=>?_) fun q_ h=>?_
 ·cases h
 ·refine ite_el h (fun q h=>?_) fun q_ h=>?_
  ·intro s hs
   exact of_decide_eq_true (List.all_eq_true.mp q s hs)
  ·exact nomatch h
theorem Vu{w}{heads}{f}(hf:f.ok w)(he:Y8 heads f.names=none){h}(hh:h∈heads):f.cols[Xb h f.names]?=some (ZQ h f)/\ZQ h f∈f.cols:=by
 have h1:=KH (Uu he h hh)
 rw[<-hf.2.1] at h1
 have e:f.cols[Xb h f.names]?=some (f.cols[Xb h f.names]):=List.getElem?_eq_getElem h1
 unfold ZQ
 rw[e]
 exact ⟨rfl,List.getElem_mem h1⟩
theorem L95{w}(f0)(r)(hr:r.length<=2)(hf:∀ f∈f0::r,f.ok w)(he:∀ f∈f0::r,Y8 f0.names f.names=none)(k i a)(pl)(h94:(itp 300).call 94 [.list ((f0::r).map Fr.val)] pl=.ok (.ov k i a false) pl) :
  (itp 360).call 95 [.list ((f0::r).map Fr.val)] pl=.ok (W5 (.list ((VJ f0.names (f0::r)).map Col.val)) (.list (sD f0.names)) k i a) pl:=by
 have hh:Nm w f0.names:=(hf f0 List.mem_cons_self).1
 have hlim:∀ n,n<=200->n<=LIM:=fun n h=>Nat.le_trans h (by decide)
 have small:∀ h∈f0.names,∀ c∈(f0::r).map (ZQ h),c.small:=fun h hm c hc=>by
  obtain ⟨f,hfm,rfl⟩:=List.mem_map.mp hc
  exact (hf f hfm).2.2 _ (Vu (hf f hfm) (he f hfm) hm).2
 have parts:∀ h∈f0.names,(f0::r).map (fun f=>(((f.cols.map Col.val)[Xb h f.names]?).getD .none))=((f0::r).map (ZQ h)).map Col.val:=fun h hm=>by
  rw[List.map_map]
  refine List.map_congr_left fun f hfm=>?_
  rw[List.getElem?_map,(Vu (hf f hfm) (he f hfm) hm).1]
  rfl
 have j92:∀ h∈f0.names,∃ lv,(itp 300).call 92 [.list (((f0::r).map (ZQ h)).map Col.val)] pl=.ok lv pl/\lv.d=(jn ((f0::r).map (ZQ h))).val:=fun h hm=>by
  obtain ⟨lv,e1,e2⟩:=L92 ((f0::r).map (ZQ h)) (small h hm) (by simp only[List.length_map,List.length_cons];lia) (by simp) pl
  exact ⟨lv,Zg (by decide) e1,e2⟩
 have JVd:((WT f0.names (f0::r)).map fun p=>(Z5p ((itp 300).call 92 [.list p] pl)).d)=(VJ f0.names (f0::r)).map Col.val:=by
  unfold VJ
  simp only[List.map_map,List.map_map]
  refine List.map_congr_left fun h hm=>?_
  obtain ⟨lv,e1,e2⟩:=j92 h hm
  show (Z5p ((itp 300).call 92 [.list ((f0::r).map (fun f=>(((f.cols.map Col.val)[Xb h f.names]?).getD .none)))] pl)).d=(jn ((f0::r).map (ZQ h))).val
  rw[parts h hm,e1]
  exact e2
 obtain ⟨nm,cols,rn,sd⟩:=f0
 refine ZX (A:=A95 (fun p=>Z5p ((itp 300).call 92 [p] pl)) k i a nm (⟨nm,cols,rn,sd⟩::r)) (n:=60) (Nat.le_of_ble_eq_true rfl) (k95 _ k i a _ pl nm cols rn sd r (Wd hh) hr) ?_
 refine ⟨Zs (Yj (Zr (by decide:60<=300)) _ _ _ _ _) (Z0w _ hf _ pl),hlim _ (by rw[List.length_map,List.length_cons];lia),Zs (Yj (Zr (by decide:120<=300)) _ _ _ _ _) (Z5o hh _ (by simp) hf he _ pl),hlim _ (by rw[List.length_map,List.length_cons];lia),?_⟩
 have oj:∀ (R:Prop),R->∀ (hs:List Str),(∀ h∈hs,h∈nm)->oJ (fun p=>Z5p ((itp 300).call 92 [p] pl)) pl (WT hs (⟨nm,cols,rn,sd⟩::r)) R:=fun R q hs=>by
  induction hs with
  |nil=>intro O;exact q
  |cons h hs ih=>
   intro hm
   refine ⟨?_,ih fun x hx=>hm x (List.mem_cons_of_mem _ hx)⟩
   have hm:=hm h List.mem_cons_self
   obtain ⟨lv,e1,e2⟩:=j92 h hm
   dsimp only
   rw[parts h hm,e1]
   rfl
 refine oj _ ?_ nm fun O h=>h
 have JVd':((WT nm (⟨nm,cols,rn,sd⟩::r)).map fun p=>(Z5p ((itp 300).call 92 [.list p] pl)).d)=(VJ nm (⟨nm,cols,rn,sd⟩::r)).map Col.val:=JVd
 dsimp only
 rw[JVd']
 have h80:=L80 (VJ nm (⟨nm,cols,rn,sd⟩::r)) (hlim _ (by unfold VJ;rw[List.length_map];have:=(Wd hh).2;show nm.length<=200;exact Nat.le_trans this (by decide))) (sD nm) k i a pl
 exact ⟨h94,Zg (by decide) h80,rfl,rfl⟩
def YZ{α:Type}(o:Out α)(m:Str)(pl:Option Z8):Prop:=∃ σ,o=.exc m σ/\σ.pl=pl
theorem We{α β:Type}{o:Out α}{f:α->St->Out β}{m}{pl}(h:YZ o m pl):YZ (o.bind f) m pl:=by
 obtain ⟨σ,rfl,h⟩:=h;exact ⟨σ,rfl,h⟩
theorem Z5r{α β:Type}{o:Out α}{f:α->St->Out β}{m}{pl}(h:wpO o fun a σ=>YZ (f a σ) m pl):YZ (o.bind f) m pl:=by
 obtain ⟨a,σ,rfl,h⟩:=Kv h;exact h
theorem Z0x{k}(n){b}{σ}{m}{pl}(h:wpO ((itp (k+1)).exs (b.take n) σ) fun f τ=>f=.next/\YZ ((itp (k+1)).exs (b.drop n) τ) m pl):YZ ((itp (k+1)).exs b σ) m pl:=by
 have key:∀ (a r:List Stmt) (σ:St),(wpO (ZB (itp k) a σ) fun f τ=>f=.next/\YZ (ZB (itp k) r τ) m pl)->YZ (ZB (itp k) (a++r) σ) m pl:=fun a r=>by
  induction a with
  |nil=>intro σ h;exact h.2
  |cons s a ih=>
   intro σ h
   show YZ ((Yd (itp k) s σ).bind fun f σ=>match f with
    |.next=>ZB (itp k) (a++r) σ
    |f=>.ok f σ) m pl
   have h:wpO ((Yd (itp k) s σ).bind fun f σ=>match f with
    |.next=>ZB (itp k) a σ
    |f=>.ok f σ) fun f τ=>f=.next/\YZ (ZB (itp k) r τ) m pl:=h
   cases e:Yd (itp k) s σ with
   |ok f τ=>
    rw[e] at h
    induction f with
    |next=>exact ih τ h
    |brk=>exact absurd h.1 nofun
    |cont=>exact absurd h.1 nofun
    |ret O=>exact absurd h.1 nofun
   |exc m τ=>rw[e] at h;exact h.elim
   |stuck=>rw[e] at h;exact h.elim
 have:=key (b.take n) (b.drop n) σ h
 rw[List.take_append_drop] at this
 exact this
theorem Z5s{k i}{ds}{pl pl'}{m}{vs}(hf:(fn i).isSome=true)(hl:(Wc i).length=ds.length)(hv:YU (Wc i) ds []=vs)
  (h:YZ ((itp k).exs (Za i) ⟨vs,[],[],pl⟩) m pl'):(itp (k+1)).call i ds pl=.exc m pl':=by
 subst hv
 obtain ⟨F,e⟩:=Option.isSome_iff_exists.mp hf
 have e1:Wc i=F.params:=by unfold Wc;rw[e]
 have e2:Za i=F.body:=by unfold Za;rw[e]
 rw[e1] at hl h
 rw[e2] at h
 show Yg (itp k) i ds pl=_
 unfold Yg
 rw[e]
 dsimp only
 rw[if_pos hl]
 obtain ⟨σ,e3,h⟩:=h
 rw[e3]
 dsimp only
 rw[h]
noncomputable def Yu(heads:List Str)(fs:List Fr):Option Str:=fs.findSome? fun f=>Y8 heads f.names
theorem ZcU{α:Type}{o o':Out α}{m}{pl}(k:OLe o o')(h:YZ o m pl):YZ o' m pl:=by
 obtain ⟨σ,rfl,h⟩:=h
 rcases k with k|rfl
 ·cases k
 ·exact ⟨σ,rfl,h⟩
theorem Uv{m n}(h:m<=n){i}{ds}{pl pl'}{s}(e:(itp m).call i ds pl=.exc s pl'):(itp n).call i ds pl=.exc s pl':=by
 rcases (Zr h).call i ds pl with q|q
 ·rw[e] at q;cases q
 ·rw[<-q];exact e
theorem Z5t{w}{heads}(hh:Nm w heads)(F)(pl)(m)(fs):∀ (σ:St),(∀ f∈fs,f.ok w)->Yu heads fs=some m ->
  (σ=⟨[],u3 F (.ol (sD heads)),["df"],pl⟩\/∃ d,σ=⟨[("df",.fr d)],u3 F (.fr (.list (sD heads))),["df"],pl⟩) ->
  YZ (Zh (itp 120) (cT 95 583) [] (cE 95 583) (fs.map Fr.val) σ) m pl:=by
 induction fs with
 |nil=>intro O O h O;exact Z3 h
 |cons f fs ih=>
  intro σ hf hm hσ
  have hok:=L93 hh (hf f List.mem_cons_self) pl
  unfold Ut at hok
  have bnd:∃ n,Zl (cT 95 583) f.val σ=.ok () ⟨[("df",.fr f.val)],u3 F n,["df"],pl⟩/\(n=.ol (sD heads)\/n=.fr (.list (sD heads))):=by
   rcases hσ with rfl|⟨d,rfl⟩
   ·exact ⟨.ol (sD heads),by kernel_rfl,.inl rfl⟩
   ·exact ⟨.fr (.list (sD heads)),by kernel_rfl,.inr rfl⟩
  obtain ⟨n,e,hn⟩:=bnd
  show YZ ((Zl (cT 95 583) f.val σ).bind fun O σ=>(X9 (itp 120) [] σ).bind fun b σ=>_) m pl
  rw[e]
  show YZ ((frz ((itp 120).ev (cE 95 583) ⟨[("df",.fr f.val)],u3 F n,["df"],pl⟩)).bind fun d σ=>(Zh (itp 120) (cT 95 583) [] (cE 95 583) (fs.map Fr.val) σ).bind fun ds σ=>.ok (d::ds) σ) m pl
  unfold Yu at hm
  rw[List.findSome?_cons] at hm
  cases herr:Y8 heads f.names with
  |none=>
   rw[herr] at hok hm
   obtain ⟨lv,hcall,hlv⟩:=hok
   refine Z5r (Xj ?_)
   have run:wpO ((itp 120).ev (cE 95 583) ⟨[("df",.fr f.val)],u3 F n,["df"],pl⟩) fun r τ=>r=(lv,none)/\τ=⟨[("df",.fr f.val)],u3 F (.fr (.list (sD heads))),["df"],pl⟩:=by
    rcases hn with rfl|rfl
    ·exact KE (A:={c:=80,S:=fun i O=>if i=93 then some lv else none}) (n:=40) (Nat.le_of_ble_eq_true rfl) (Q:=fun r τ=>r=(lv,none)/\τ=⟨[("df",.fr f.val)],u3 F (.fr (.list (sD heads))),["df"],pl⟩)
      (P:=(itp 80).call 93 [.list (sD heads),frV (.list (f.cols.map Col.val)) (.list (sD f.names)) f.rows] pl=.ok lv pl/\((lv,none):R)=(lv,none)/\(⟨[("df",.fr f.val)],u3 F (.fr (.list (sD heads))),["df"],pl⟩:St)=⟨[("df",.fr f.val)],u3 F (.fr (.list (sD heads))),["df"],pl⟩) (by kernel_rfl) ⟨hcall,rfl,rfl⟩
    ·exact KE (A:={c:=80,S:=fun i O=>if i=93 then some lv else none}) (n:=40) (Nat.le_of_ble_eq_true rfl) (Q:=fun r τ=>r=(lv,none)/\τ=⟨[("df",.fr f.val)],u3 F (.fr (.list (sD heads))),["df"],pl⟩)
      (P:=(itp 80).call 93 [.list (sD heads),frV (.list (f.cols.map Col.val)) (.list (sD f.names)) f.rows] pl=.ok lv pl/\((lv,none):R)=(lv,none)/\(⟨[("df",.fr f.val)],u3 F (.fr (.list (sD heads))),["df"],pl⟩:St)=⟨[("df",.fr f.val)],u3 F (.fr (.list (sD heads))),["df"],pl⟩) (by kernel_rfl) ⟨hcall,rfl,rfl⟩
   refine Z0 run fun r τ q=>?_
   obtain ⟨rfl,rfl⟩:=q
   exact We (ih _ (fun g hg=>hf g (List.mem_cons_of_mem _ hg)) hm (.inr ⟨_,rfl⟩))
  |some m'=>
   rw[herr] at hok hm
   obtain rfl:=Option.some.inj hm
   refine We (We ?_)
   have hcall:=Uv (by decide:80<=119) hok
   have:(itp 120).ev (cE 95 583) ⟨[("df",.fr f.val)],u3 F n,["df"],pl⟩=(match (itp 119).call 93 [.list (sD heads),frV (.list (f.cols.map Col.val)) (.list (sD f.names)) f.rows] pl with
     |.ok lv pl=>.ok (lv,none) ⟨[("df",.fr f.val)],u3 F (.fr (.list (sD heads))),["df"],pl⟩
     |.exc m pl=>.exc m ⟨[("df",.fr f.val)],u3 F (.fr (.list (sD heads))),["df"],pl⟩
     |.stuck=>.stuck):=by
    rcases hn with rfl|rfl<;>kernel_rfl
   rw[this,hcall]
   exact ⟨_,rfl,rfl⟩
noncomputable abbrev u3o(F:List D)(n:LV):Zc:=[("frames",.fr (.list F)),("kept",.ol F),("names",n)]
noncomputable abbrev ZbL:Ask:={c:=60,C:=fun l=>if l=579 then some fun up xs=>(xs,up) else none}
abbrev ZcV(heads:List Str)(fs:List Fr)(pl:Option Z8)(R:Prop):Prop:=
 wpO (Zh (itp 60) (cT 95 579) (cF 95 579) (cE 95 579) (fs.map Fr.val) ⟨[],u0 (.list (fs.map Fr.val)),["df"],pl⟩) (fun ds τ=>ds=fs.map Fr.val/\τ.up=u0 (.list (fs.map Fr.val))/\τ.pl=pl)/\(fs.map Fr.val).length<=LIM/\R
abbrev Z5u(pl:Option Z8)(Q:Fl->St->Prop)(cols:List Col)(rn sd:D)(heads:List Str)(r:List Fr):Prop:=ZcV heads (⟨heads,cols,rn,sd⟩::r) pl (Q .next ⟨u3o ((⟨heads,cols,rn,sd⟩::r:List Fr).map Fr.val) (.ol (sD heads)),[],[],pl⟩)=(W ZbL 62).exs ((Za 95).take 3) ⟨u0 (.list ((⟨heads,cols,rn,sd⟩::r:List Fr).map Fr.val)),[],[],pl⟩ Q
theorem ZcW(pl)(Q)(heads)(cols)(rn sd)(r)(h:1<=heads.length/\heads.length<=3)(hr:r.length<=2):Z5u pl Q cols rn sd heads r:=
 Xk (P:=fun hs=>Z5u pl Q cols rn sd hs r) (fun x=>JF (P:=Z5u pl Q cols rn sd [x]) (by kernel_rfl) (fun O=>by kernel_rfl) (fun O O=>by kernel_rfl) r hr) (fun x y=>JF (P:=Z5u pl Q cols rn sd [x,y]) (by kernel_rfl) (fun O=>by kernel_rfl) (fun O O=>by kernel_rfl) r hr) (fun x y z=>JF (P:=Z5u pl Q cols rn sd [x,y,z]) (by kernel_rfl) (fun O=>by kernel_rfl) (fun O O=>by kernel_rfl) r hr) heads h
theorem ZcX(F)(n)(pl):(itp 122).exs ((Za 95).drop 3) ⟨u3o F n,[],[],pl⟩ =
  ((Yy (Zh (itp 120) (cT 95 583) [] (cE 95 583) F ⟨[],u3 (.list F) n,["df"],pl⟩)).bind (fun r σ=>match r.2 with
   |none=>(.ok .next {σ with vars:=ZA "rows" r.1 σ.vars}:Out Fl)
   |some O=>let σ:=Zo r σ;.ok .next {σ with vars:=ZA "rows" (.fr r.1.d) σ.vars})).bind (fun f σ=>match f with
   |.next=>(itp 122).exs ((Za 95).drop 4) σ
   |f=>.ok f σ):=by kernel_rfl
theorem ZcY{w}(f0)(r)(hr:r.length<=2)(hf:∀ f∈f0::r,f.ok w)(m)(he:Yu f0.names (f0::r)=some m)(pl) :
  (itp 123).call 95 [.list ((f0::r).map Fr.val)] pl=.exc m pl:=by
 have hh:Nm w f0.names:=(hf f0 List.mem_cons_self).1
 obtain ⟨nm,cols,rn,sd⟩:=f0
 refine Z5s (k:=122) (vs:=u0 (.list ((⟨nm,cols,rn,sd⟩::r:List Fr).map Fr.val))) (by kernel_rfl) (by kernel_rfl) (by kernel_rfl) ?_
 refine Z0x (k:=121) 3 ?_
 refine Z0 (Zj (A:=ZbL) (n:=62) (Nat.le_of_ble_eq_true rfl) (Q:=fun f τ=>f=.next/\τ=⟨u3o ((⟨nm,cols,rn,sd⟩::r:List Fr).map Fr.val) (.ol (sD nm)),[],[],pl⟩) (ZcW pl _ nm cols rn sd r (Wd hh) hr) ⟨Z0w _ hf _ pl,?_,rfl,rfl⟩) fun f τ q=>?_
 ·rw[List.length_map,List.length_cons]
  exact Nat.le_trans (show r.length+1<=3 by lia) (by decide)
 ·obtain ⟨rfl,rfl⟩:=q
  refine ⟨rfl,?_⟩
  rw[ZcX]
  refine We (We ?_)
  obtain ⟨σ,e1,e2⟩:=Z5t hh (.list ((⟨nm,cols,rn,sd⟩::r:List Fr).map Fr.val)) pl m (⟨nm,cols,rn,sd⟩::r) ⟨[],u3 _ (.ol (sD nm)),["df"],pl⟩ hf he (.inl rfl)
  rw[e1]
  exact ⟨_,rfl,e2⟩
inductive Sd where
 |cn (t:Nat)
 |tx (ls:List Str)
noncomputable def Sd.rows:Sd->D:=fun O=>match O with
 |.cn t=>vI (Zi 1 ((t:Int)+1))
 |.tx ls=>vC (sD ls)
noncomputable def Sd.side:Sd->D:=fun O=>match O with
 |.cn t=>.int t
 |.tx ls=>.list (sD ls)
noncomputable def Sd.tall:Sd->Nat:=fun O=>match O with
 |.cn t=>t
 |.tx ls=>ls.length
noncomputable def Sd.isN:Sd->Bool:=fun O=>match O with
 |.cn O=>true
 |.tx O=>false
inductive Tx:List Str->Prop
 |a:Tx ["p"]
 |b:Tx ["p","2"]
 |c:Tx ["p","2","q"]
 |d:Tx ["q"]
 |e:Tx ["q","p"]
 |f:Tx ["q","p","1"]
def Sd.ok:Sd->Prop:=fun O=>match O with
 |.cn t=>t<=3
 |.tx ls=>Tx ls
structure G where
 names:List Str
 cols:List Col
 sd:Sd
noncomputable def G.fr(g:G):Fr:=⟨g.names,g.cols,g.sd.rows,g.sd.side⟩
noncomputable def G.raw(g:G):D:=.list [.list (sD g.names),.list (g.cols.map Col.raw),g.sd.side]
noncomputable def lab(n:Nat):Str:=Str.ofString (toString (n:Int))
noncomputable def seg(T:Nat):Sd->List Str:=fun O=>match O with
 |.cn t=>(List.range t).map fun j=>lab (T+j+1)
 |.tx ls=>ls
noncomputable def fJ(a:Nat × Bool × List Str)(s:Sd):Nat × Bool × List Str:=(a.1+s.tall,a.2.1&&s.isN,a.2.2++seg a.1 s)
def oS(f:Nat->Int):Nat->Nat->List D->(List D->Prop)->Prop:=fun O U V O1=>match O,U,V,O1 with
 |0,O,acc,R=>R acc
 |n+1,j,acc,R=>Ze (blt (Str.ofString "str") [.int (f j)]) fun v=>oS f n (j+1) (acc++[v.d]) R
theorem Z7r{i}(h:i.natAbs < 10 ^ 30):blt (Str.ofString "str") [.int i]=some (.fr (.str (Str.ofString (toString i)))):=by
 show (if i.natAbs < 10 ^ 30 then some (LV.fr (.str (Str.ofString (toString i)))) else none)=_
 rw[if_pos h]
theorem Z5v{f}{T}(hT:T < 1000)(hf:∀ j,f j=((T+j+1:Nat):Int)){R}:∀ (n j:Nat) (acc:List D),j+n < 1000->R (acc++(List.range' j n).map fun j=>.str (lab (T+j+1)))->oS f n j acc R:=fun O U V O1 O2=>match O,U,V,O1,O2 with
 |0,O,acc,U,r=>by
  have r:R (acc++[]):=r
  rw[List.append_nil] at r
  exact r
 |n+1,j,acc,h,r=>by
  have hb:(f j).natAbs < 10 ^ 30:=by
   simp only[hf,Int.natAbs_natCast]
   exact Nat.lt_of_lt_of_le (show T+j+1 < 3000 by lia) (by decide)
  show Ze (blt (Str.ofString "str") [.int (f j)]) _
  rw[Z7r hb]
  refine Z5v hT hf n (j+1) _ (by lia) ?_
  rw[hf]
  rw[List.range'_succ,List.map_cons] at r
  rw[List.append_assoc]
  exact r
theorem Z5w(T t):sD (seg T (.cn t))=(List.range' 0 t).map fun j=>D.str (lab (T+j+1)):=by
 show ((List.range t).map fun j=>lab (T+j+1)).map D.str=_
 rw[List.map_map,<-List.range_eq_range']
 rfl
noncomputable def S46:Nat->List D->Option LV:=fun i ds=>if i=46 then (match ds with
 |[.vec O (.list xs) U]=>some (.ol xs)
 |O=>none) else none
noncomputable abbrev jl0(F:D)(T:Nat)(b:Bool)(ts:List D):Zc:=[("frames",.fr F),("total",.fr (.int T)),("plain",.fr (.bool b)),("texts",.ol ts)]
noncomputable abbrev jl1(F:D)(T:Nat)(b:Bool)(ts:List D)(df:D):Zc:=[("frames",.fr F),("total",.fr (.int T)),("plain",.fr (.bool b)),("texts",.ol ts),("df",.fr df)]
noncomputable abbrev jl2(F:D)(T:Nat)(b:Bool)(ts:List D)(df c:D):Zc:=[("frames",.fr F),("total",.fr (.int T)),("plain",.fr (.bool b)),("texts",.ol ts),("df",.fr df),("count",.fr c)]
theorem Z9N(F its nm:D)(T:Nat)(b:Bool)(ts:List D)(pl:Option Z8)(Q:Fl->St->Prop):∀ t:Nat,t<=3 ->
  oS (fun j=>(T:Int)+(0+(j:Int))+1) t 0 [] (fun acc=>cnd (decide (ts.length+acc.length<=LIM)) (Q .next ⟨jl2 F (T+t) b (ts++acc) (frV its nm (Sd.cn t).rows) (.int t),[],[],pl⟩) False) =
  (W {c:=20} 60).exs (sB 94 567) ⟨jl1 F T b ts (frV its nm (Sd.cn t).rows),[],[],pl⟩ Q:=fun O U=>match O,U with
 |0,O=>by kernel_rfl
 |1,O=>by kernel_rfl
 |2,O=>by kernel_rfl
 |3,O=>by kernel_rfl
 |n+4,h=>absurd h (by lia)
theorem Z9O(F its nm c:D)(T:Nat)(b:Bool)(ts:List D)(pl:Option Z8)(Q:Fl->St->Prop):∀ t:Nat,t<=3 ->
  oS (fun j=>(T:Int)+(0+(j:Int))+1) t 0 [] (fun acc=>cnd (decide (ts.length+acc.length<=LIM)) (Q .next ⟨jl2 F (T+t) b (ts++acc) (frV its nm (Sd.cn t).rows) (.int t),[],[],pl⟩) False) =
  (W {c:=20} 60).exs (sB 94 567) ⟨jl2 F T b ts (frV its nm (Sd.cn t).rows) c,[],[],pl⟩ Q:=fun O U=>match O,U with
 |0,O=>by kernel_rfl
 |1,O=>by kernel_rfl
 |2,O=>by kernel_rfl
 |3,O=>by kernel_rfl
 |n+4,h=>absurd h (by lia)
abbrev oTx(F its nm:D)(T:Nat)(ts:List D)(ls:List Str)(pl:Option Z8)(Q:Fl->St->Prop):Prop:=
 (itp 80).call 46 [vC (sD ls)] pl=.ok (.ol (sD ls)) pl/\cnd (decide (ts.length+(sD ls).length<=LIM)) (Q .next ⟨jl2 F (T+ls.length) false (ts++sD ls) (frV its nm (Sd.tx ls).rows) (.int ls.length),[],[],pl⟩) False
theorem Z9P(F its nm)(T)(b)(ts)(pl)(Q):∀ ls:List Str,1<=ls.length/\ls.length<=3 ->
  oTx F its nm T ts ls pl Q=(W {c:=80,S:=S46} 40).exs (sB 94 567) ⟨jl1 F T b ts (frV its nm (Sd.tx ls).rows),[],[],pl⟩ Q:=fun O U=>match O,U with
 |[O],U=>by kernel_rfl
 |[O,U],V=>by kernel_rfl
 |[O,U,V],O1=>by kernel_rfl
 |[],h=>by simp at h
 |O::U::V::O1::O2,h=>by simp at h
theorem Z9Q(F its nm c)(T)(b)(ts)(pl)(Q):∀ ls:List Str,1<=ls.length/\ls.length<=3 ->
  oTx F its nm T ts ls pl Q=(W {c:=80,S:=S46} 40).exs (sB 94 567) ⟨jl2 F T b ts (frV its nm (Sd.tx ls).rows) c,[],[],pl⟩ Q:=fun O U=>match O,U with
 |[O],U=>by kernel_rfl
 |[O,U],V=>by kernel_rfl
 |[O,U,V],O1=>by kernel_rfl
 |[],h=>by simp at h
 |O::U::V::O1::O2,h=>by simp at h
noncomputable abbrev ll0(F:D)(ts:List D)(n c s:D):Zc:=[("frames",.fr F),("texts",.ol ts),("names",.fr n),("columns",.fr c),("sidelines",.fr s)]
noncomputable abbrev ll1(F:D)(ts:List D)(n c s st:D):Zc:=[("frames",.fr F),("texts",.ol ts),("names",.fr n),("columns",.fr c),("sidelines",.fr s),("start",.fr st)]
theorem Z9R(F n c)(ts)(pl)(Q):∀ t:Nat,t<=3 ->
  oS (fun j=>((ts.length:Nat):Int)+1+(0+(j:Int))) t 0 [] (fun acc=>cnd (decide (ts.length+acc.length<=LIM)) (Q .next ⟨ll1 F (ts++acc) n c (.int t) (.int (((ts.length:Nat):Int)+1)),[],[],pl⟩) False) =
  (W {c:=20} 60).exs (sB 108 689) ⟨ll0 F ts n c (.int t),[],[],pl⟩ Q:=fun O U=>match O,U with
 |0,O=>by kernel_rfl
 |1,O=>by kernel_rfl
 |2,O=>by kernel_rfl
 |3,O=>by kernel_rfl
 |n+4,h=>absurd h (by lia)
theorem Z9S(F n c st)(ts)(pl)(Q):∀ t:Nat,t<=3 ->
  oS (fun j=>((ts.length:Nat):Int)+1+(0+(j:Int))) t 0 [] (fun acc=>cnd (decide (ts.length+acc.length<=LIM)) (Q .next ⟨ll1 F (ts++acc) n c (.int t) (.int (((ts.length:Nat):Int)+1)),[],[],pl⟩) False) =
  (W {c:=20} 60).exs (sB 108 689) ⟨ll1 F ts n c (.int t) st,[],[],pl⟩ Q:=fun O U=>match O,U with
 |0,O=>by kernel_rfl
 |1,O=>by kernel_rfl
 |2,O=>by kernel_rfl
 |3,O=>by kernel_rfl
 |n+4,h=>absurd h (by lia)
theorem Z9T(F n c)(ts ls)(pl)(Q) :
  cnd (decide (ts.length+ls.length<=LIM)) (Q .next ⟨ll0 F (ts++ls) n c (.list ls),[],[],pl⟩) False=(W {c:=20} 60).exs (sB 108 689) ⟨ll0 F ts n c (.list ls),[],[],pl⟩ Q:=by kernel_rfl
theorem Z9U(F n c st)(ts ls)(pl)(Q) :
  cnd (decide (ts.length+ls.length<=LIM)) (Q .next ⟨ll1 F (ts++ls) n c (.list ls) st,[],[],pl⟩) False=(W {c:=20} 60).exs (sB 108 689) ⟨ll1 F ts n c (.list ls) st,[],[],pl⟩ Q:=by kernel_rfl
theorem Vv{ls}(h:Tx ls):1<=ls.length/\ls.length<=3:=by cases h<;>decide
theorem V8{s:Sd}(h:s.ok):s.tall<=3:=by
 induction s with
 |cn t=>exact h
 |tx ls=>exact (Vv h).2
theorem V9(T)(s):(seg T s).length=s.tall:=by
 induction s with
 |cn t=>show ((List.range t).map _).length=t;rw[List.length_map,List.length_range]
 |tx ls=>rfl
noncomputable abbrev L3:=Nat × Bool × List Str
def Jjl(F:D)(pl:Option Z8)(a:Bool × L3)(σ:St):Prop:=match a with
 |(false,T,b,ts)=>σ=⟨jl0 F T b (sD ts),[],[],pl⟩
 |(true,T,b,ts)=>∃ d c,σ=⟨jl2 F T b (sD ts) d c,[],[],pl⟩
theorem Z7s(F)(pl)(its nm)(s)(hs:s.ok)(T)(b)(ts)(hT:T < 900)(hl:ts.length=T)(v)(hv:v=jl1 F T b (sD ts) (frV its nm s.rows)\/∃ c,v=jl2 F T b (sD ts) (frV its nm s.rows) c) :
  wpO ((itp 120).exs (sB 94 567) ⟨v,[],[],pl⟩) fun g σ=>(g=.next\/g=.cont)/\Jjl F pl (true,fJ (T,b,ts) s) σ:=by
 have hL:1000<=LIM:=by decide
 cases s with
 |cn t=>
  have ht:t<=3:=hs
  have fin:oS (fun j=>(T:Int)+(0+(j:Int))+1) t 0 [] (fun acc=>cnd (decide ((sD ts).length+acc.length<=LIM)) ((fun g σ=>(g=Fl.next\/g=Fl.cont)/\Jjl F pl (true,fJ (T,b,ts) (.cn t)) σ) .next ⟨jl2 F (T+t) b (sD ts++acc) (frV its nm (Sd.cn t).rows) (.int t),[],[],pl⟩) False):=by
   refine Z5v (T:=T) (by lia) (fun j=>by lia) t 0 [] (by lia) ?_
   rw[List.nil_append,<-Z5w]
   refine ZP (by rw[ZT,ZT,V9];show ts.length+t<=LIM;lia) ⟨.inl rfl,frV its nm (Sd.cn t).rows,.int t,?_⟩
   rw[show sD ts++sD (seg T (.cn t))=sD (ts++seg T (.cn t)) from List.map_append.symm]
   show (⟨jl2 F (T+t) b _ _ _,[],[],pl⟩:St)=⟨jl2 F (T+t) (b&&true) _ _ _,[],[],pl⟩
   rw[Bool.and_true]
  refine Zs ((Zr (by decide:80<=120)).exs _ _) ?_
  rcases hv with rfl|⟨c,rfl⟩
  ·exact Zj (A:={c:=20}) (n:=60) (Nat.le_refl _) (Z9N F its nm T b (sD ts) pl _ t ht) fin
  ·exact Zj (A:={c:=20}) (n:=60) (Nat.le_refl _) (Z9O F its nm c T b (sD ts) pl _ t ht) fin
 |tx ls=>
  have ht:=Vv hs
  have fin:oTx F its nm T (sD ts) ls pl (fun g σ=>(g=Fl.next\/g=Fl.cont)/\Jjl F pl (true,fJ (T,b,ts) (.tx ls)) σ):=by
   refine ⟨Zg (by decide) (Z2I (sD ls) (by rw[ZT];lia) pl),ZP (by rw[ZT,ZT];lia) ⟨.inl rfl,frV its nm (Sd.tx ls).rows,.int ls.length,?_⟩⟩
   rw[show sD ts++sD ls=sD (ts++ls) from List.map_append.symm]
   show (⟨jl2 F (T+ls.length) false _ _ _,[],[],pl⟩:St)=⟨jl2 F (T+ls.length) (b&&false) _ _ _,[],[],pl⟩
   rw[Bool.and_false]
   rfl
  rcases hv with rfl|⟨c,rfl⟩
  ·exact Zj (A:={c:=80,S:=S46}) (n:=40) (Nat.le_of_ble_eq_true rfl) (Z9P F its nm T b (sD ts) pl _ ls ht) fin
  ·exact Zj (A:={c:=80,S:=S46}) (n:=40) (Nat.le_of_ble_eq_true rfl) (Z9Q F its nm c T b (sD ts) pl _ ls ht) fin
theorem JM(gs:List G):∀ (s:Bool) (a:L3),gs.foldl (fun (a:Bool × L3) g=>(true,fJ a.2 g.sd)) (s,a)=(s||!gs.isEmpty,gs.foldl (fun a g=>fJ a g.sd) a):=by
 induction gs with
 |nil=>intro s a;simp
 |cons g gs ih=>intro s a;simp only[List.foldl_cons,ih,List.foldl_cons];simp
theorem Z7t(F:D)(pl:Option Z8)(gs:List G)(hg:∀ g∈gs,g.sd.ok)(hn:gs.length<=3)(σ:St)(hσ:Jjl F pl (false,0,true,[]) σ) :
  wpO (ZJ ((itp 120).exs (sB 94 567)) (sT 94 567) (gs.map fun g=>g.fr.val) σ) fun g τ=>g=.next/\Jjl F pl (!gs.isEmpty,gs.foldl (fun a g=>fJ a g.sd) (0,true,[])) τ:=by
 have k:=ZG (α:=Bool × L3) (β:=G) (body:=(itp 120).exs (sB 94 567)) (t:=sT 94 567) (fun g=>g.fr.val) (Jjl F pl) (fun a g=>(true,fJ a.2 g.sd))
  (fun a gs=>(∀ g∈gs,g.sd.ok)/\a.2.1+3*gs.length < 900/\a.2.2.2.length=a.2.1) (fun a g gs σ ok h=>?_) gs (false,0,true,[]) σ ⟨hg,by show 0+3*gs.length < 900;lia,rfl⟩ hσ
 ·rw[JM,Bool.false_or] at k;exact k
 ·obtain ⟨h1,h2,h3⟩:=ok
  obtain ⟨s,T,b,ts⟩:=a
  have h4:=V8 (h1 g List.mem_cons_self)
  have h2:T+3*(gs.length+1) < 900:=h2
  have h3:ts.length=T:=h3
  refine ⟨⟨fun x hx=>h1 x (List.mem_cons_of_mem _ hx),by show T+g.sd.tall+_ < _;lia,by show (ts++seg T g.sd).length=T+g.sd.tall;rw[List.length_append,V9,h3]⟩,?_⟩
  have key:∃ v,Zl (sT 94 567) g.fr.val σ=.ok () ⟨v,[],[],pl⟩/\(v=jl1 F T b (sD ts) g.fr.val\/∃ c,v=jl2 F T b (sD ts) g.fr.val c):=by
   cases s with
   |false=>have h:σ=⟨jl0 F T b (sD ts),[],[],pl⟩:=h;subst h;exact ⟨jl1 F T b (sD ts) g.fr.val,by kernel_rfl,.inl rfl⟩
   |true=>obtain ⟨d,c,rfl⟩:=h;exact ⟨jl2 F T b (sD ts) g.fr.val c,by kernel_rfl,.inr ⟨_,rfl⟩⟩
  obtain ⟨v,e,hv⟩:=key
  rw[e]
  exact ZF (Z7s F pl (.list (g.cols.map Col.val)) (.list (sD g.names)) g.sd (h1 g List.mem_cons_self) T b ts (by lia) h3 v hv)
def Jll(F:D)(pl:Option Z8)(a:Bool × L3)(σ:St):Prop:=match a with
 |(false,O,U,ts)=>σ=⟨[("frames",.fr F),("texts",.ol (sD ts))],[],[],pl⟩
 |(true,O,U,ts)=>(∃ n c s,σ=⟨ll0 F (sD ts) n c s,[],[],pl⟩)\/∃ n c s st,σ=⟨ll1 F (sD ts) n c s st,[],[],pl⟩
theorem Z7u(F)(pl)(n c)(s)(hs:s.ok)(T)(b)(ts)(hT:T < 900)(hl:ts.length=T)(v)(hv:v=ll0 F (sD ts) n c s.side\/∃ st,v=ll1 F (sD ts) n c s.side st) :
  wpO ((itp 80).exs (sB 108 689) ⟨v,[],[],pl⟩) fun g σ=>(g=.next\/g=.cont)/\Jll F pl (true,fJ (T,b,ts) s) σ:=by
 have hL:1000<=LIM:=by decide
 cases s with
 |cn t=>
  have ht:t<=3:=hs
  have fin:oS (fun j=>(((sD ts).length:Nat):Int)+1+(0+(j:Int))) t 0 [] (fun acc=>cnd (decide ((sD ts).length+acc.length<=LIM)) ((fun g σ=>(g=Fl.next\/g=Fl.cont)/\Jll F pl (true,fJ (T,b,ts) (.cn t)) σ) .next ⟨ll1 F (sD ts++acc) n c (.int t) (.int ((((sD ts).length:Nat):Int)+1)),[],[],pl⟩) False):=by
   refine Z5v (T:=T) (by lia) (fun j=>by rw[ZT];lia) t 0 [] (by lia) ?_
   rw[List.nil_append,<-Z5w]
   refine ZP (by rw[ZT,ZT,V9];show ts.length+t<=LIM;lia) ⟨.inl rfl,.inr ⟨n,c,.int t,.int ((((sD ts).length:Nat):Int)+1),?_⟩⟩
   rw[show sD ts++sD (seg T (.cn t))=sD (ts++seg T (.cn t)) from List.map_append.symm]
  rcases hv with rfl|⟨c,rfl⟩
  ·exact Zj (A:={c:=20}) (n:=60) (Nat.le_refl _) (Z9R F n c (sD ts) pl _ t ht) fin
  ·exact Zj (A:={c:=20}) (n:=60) (Nat.le_refl _) (Z9S F n _ _ (sD ts) pl _ t ht) fin
 |tx ls=>
  have ht:=Vv hs
  have hc:(sD ts).length+(sD ls).length<=LIM:=by rw[ZT,ZT];lia
  have e:sD ts++sD ls=sD (ts++ls):=List.map_append.symm
  rcases hv with rfl|⟨st,rfl⟩
  ·refine Zj (A:={c:=20}) (n:=60) (Nat.le_refl _) (Z9T F n c (sD ts) (sD ls) pl _) (ZP hc ⟨.inl rfl,.inl ⟨n,c,.list (sD ls),?_⟩⟩)
   rw[e];rfl
  ·refine Zj (A:={c:=20}) (n:=60) (Nat.le_refl _) (Z9U F n c st (sD ts) (sD ls) pl _) (ZP hc ⟨.inl rfl,.inr ⟨n,c,.list (sD ls),st,?_⟩⟩)
   rw[e];rfl
theorem Z7v(F:D)(pl:Option Z8)(gs:List G)(hg:∀ g∈gs,g.sd.ok)(hn:gs.length<=3)(σ:St)(hσ:Jll F pl (false,0,true,[]) σ) :
  wpO (ZJ ((itp 80).exs (sB 108 689)) (sT 108 689) (gs.map G.raw) σ) fun g τ=>g=.next/\Jll F pl (!gs.isEmpty,gs.foldl (fun a g=>fJ a g.sd) (0,true,[])) τ:=by
 have k:=ZG (α:=Bool × L3) (β:=G) (body:=(itp 80).exs (sB 108 689)) (t:=sT 108 689) G.raw (Jll F pl) (fun a g=>(true,fJ a.2 g.sd))
  (fun a gs=>(∀ g∈gs,g.sd.ok)/\a.2.1+3*gs.length < 900/\a.2.2.2.length=a.2.1) (fun a g gs σ ok h=>?_) gs (false,0,true,[]) σ ⟨hg,by show 0+3*gs.length < 900;lia,rfl⟩ hσ
 ·rw[JM,Bool.false_or] at k;exact k
 ·obtain ⟨h1,h2,h3⟩:=ok
  obtain ⟨s,T,b,ts⟩:=a
  have h4:=V8 (h1 g List.mem_cons_self)
  have h2:T+3*(gs.length+1) < 900:=h2
  have h3:ts.length=T:=h3
  refine ⟨⟨fun x hx=>h1 x (List.mem_cons_of_mem _ hx),by show T+g.sd.tall+_ < _;lia,by show (ts++seg T g.sd).length=T+g.sd.tall;rw[List.length_append,V9,h3]⟩,?_⟩
  have key:∃ v,Zl (sT 108 689) g.raw σ=.ok () ⟨v,[],[],pl⟩/\(v=ll0 F (sD ts) (.list (sD g.names)) (.list (g.cols.map Col.raw)) g.sd.side\/∃ st,v=ll1 F (sD ts) (.list (sD g.names)) (.list (g.cols.map Col.raw)) g.sd.side st):=by
   cases s with
   |false=>
    have h:σ=⟨[("frames",.fr F),("texts",.ol (sD ts))],[],[],pl⟩:=h
    subst h
    exact ⟨ll0 F (sD ts) (.list (sD g.names)) (.list (g.cols.map Col.raw)) g.sd.side,by kernel_rfl,.inl rfl⟩
   |true=>
    rcases h with ⟨n,c,s,rfl⟩|⟨n,c,s,st,rfl⟩
    ·exact ⟨ll0 F (sD ts) (.list (sD g.names)) (.list (g.cols.map Col.raw)) g.sd.side,by kernel_rfl,.inl rfl⟩
    ·exact ⟨ll1 F (sD ts) (.list (sD g.names)) (.list (g.cols.map Col.raw)) g.sd.side st,by kernel_rfl,.inr ⟨_,rfl⟩⟩
  obtain ⟨v,e,hv⟩:=key
  rw[e]
  exact ZF (Z7u F pl _ _ g.sd (h1 g List.mem_cons_self) T b ts (by lia) h3 v hv)
def One(s:Str):Prop:=∃ c,s=⟨#[c]⟩
noncomputable def fr'(s:Str)(j:Nat):Str:=s++Str.ofString "."++Str.ofString (toString ((j:Nat):Int))
noncomputable def cnt(s:Str):List Str->Nat:=fun O=>match O with
 |[]=>0
 |t::r=>(if s=t then 1 else 0)+cnt s r
theorem Z5x{s t r}:cnt s (t::r)=(if s=t then 1 else 0)+cnt s r:=rfl
noncomputable def uq1(done:List Str)(s:Str):Str:=if cnt s done=0 then s else fr' s (cnt s done)
noncomputable def uqG(done:List Str):List Str->List Str:=fun O=>match O with
 |[]=>[]
 |s::r=>uq1 done s::uqG (done++[s]) r
theorem Z8R{d s r}:uqG d (s::r)=uq1 d s::uqG (d++[s]) r:=rfl
theorem XQ(s):∀ l r:List Str,cnt s (l++r)=cnt s l+cnt s r:=fun O U=>match O,U with
 |[],r=>(Nat.zero_add _).symm
 |t::l,r=>by simp only[List.cons_append,Z5x,XQ s l r,Nat.add_assoc]
theorem Wy(s):∀ l:List Str,cnt s l<=l.length:=fun O=>match O with
 |[]=>Nat.le_refl _
 |t::l=>by
  have:=Wy s l
  simp only[Z5x,List.length_cons]
  split<;>lia
theorem Va(s):∀ l:List Str,cnt s l≠0↔s∈l:=fun O=>match O with
 |[]=>⟨fun h=>absurd rfl h,fun h=>by cases h⟩
 |t::l=>by
  have:=Va s l
  rw[Z5x,List.mem_cons]
  by_cases e:s=t
  ·rw[if_pos e];exact ⟨fun O=>.inl e,fun O=>by lia⟩
  ·rw[if_neg e,Nat.zero_add,this];exact ⟨.inr,fun h=>h.elim (fun h=>absurd h e) id⟩
theorem Vb(s t):cnt s [t]=if s=t then 1 else 0:=Nat.add_zero _
theorem Wf(s):∀ (l d:List Str),uqG d (l++[s])=uqG d l++[uq1 (d++l) s]:=fun O U=>match O,U with
 |[],d=>by rw[List.append_nil];rfl
 |t::l,d=>by simp only[List.cons_append,Z8R,Wf s l,List.append_assoc];rfl
theorem U5:∀ (l d:List Str),(uqG d l).length=l.length:=fun O U=>match O,U with
 |[],O=>rfl
 |t::l,d=>by simp only[Z8R,List.length_cons,U5 l]
theorem Z5y(c):∀ j,j<=9->fr' ⟨#[c]⟩ j=⟨#[c,46,48+j]⟩:=fun O U=>match O,U with
 |0,O=>by kernel_rfl
 |1,O=>by kernel_rfl
 |2,O=>by kernel_rfl
 |3,O=>by kernel_rfl
 |4,O=>by kernel_rfl
 |5,O=>by kernel_rfl
 |6,O=>by kernel_rfl
 |7,O=>by kernel_rfl
 |8,O=>by kernel_rfl
 |9,O=>by kernel_rfl
 |n+10,h=>absurd h (by lia)
theorem Z5z{s t}(hs:One s)(ht:One t){j k}(hj:j<=9)(hk:k<=9)(h:fr' s j=fr' t k):s=t/\j=k:=by
 obtain ⟨c,rfl⟩:=hs
 obtain ⟨d,rfl⟩:=ht
 simp only[Z5y c j hj,Z5y d k hk] at h
 injection h with h
 have h:=congrArg Array.toList h
 injection h with h1 h2
 injection h2 with _ h2
 injection h2 with h2 _
 subst h1
 exact ⟨rfl,by lia⟩
theorem KI{s t}(hs:One s)(ht:One t){j}(hj:j<=9):fr' s j≠t:=by
 obtain ⟨c,rfl⟩:=hs
 obtain ⟨d,rfl⟩:=ht
 rw[Z5y c j hj]
 intro h
 injection h with h
 have h:=congrArg Array.size h
 exact absurd (show 3=1 from h) (by decide)
def YE(done:List Str)(x:Str):Prop:=∃ s j,One s/\1<=j/\j < cnt s done/\x=fr' s j
theorem Uw{done}(hl:done.length<=8){s}(hs:One s)(x):YE (done++[s]) x↔YE done x\/(cnt s done≠0/\x=fr' s (cnt s done)):=by
 constructor
 ·rintro ⟨t,j,h1,h2,h3,rfl⟩
  rw[XQ,Vb] at h3
  by_cases e:t=s
  ·subst e
   rw[if_pos rfl] at h3
   by_cases e2:j=cnt t done
   ·subst e2;exact .inr ⟨by lia,rfl⟩
   ·exact .inl ⟨t,j,h1,h2,by lia,rfl⟩
  ·rw[if_neg e] at h3
   exact .inl ⟨t,j,h1,h2,h3,rfl⟩
 ·rintro (⟨t,j,h1,h2,h3,rfl⟩|⟨h,rfl⟩)
  ·exact ⟨t,j,h1,h2,by rw[XQ];lia,rfl⟩
  ·exact ⟨s,cnt s done,hs,by lia,by rw[XQ,Vb,if_pos rfl];lia,rfl⟩
theorem Z3v{done}(hl:done.length<=9){x}(hx:One x):¬ YE done x:=by
 rintro ⟨t,j,h1,h2,h3,rfl⟩
 have:=Wy t done
 exact KI h1 hx (show j<=9 by lia) rfl
theorem Z5A{done}(hl:done.length<=9){s}(hs:One s){j}(hj:j<=9):YE done (fr' s j)↔1<=j/\j < cnt s done:=by
 constructor
 ·rintro ⟨t,k,h1,h2,h3,e⟩
  have:=Wy t done
  obtain ⟨rfl,rfl⟩:=Z5z hs h1 hj (by lia) e
  exact ⟨h2,h3⟩
 ·rintro ⟨h1,h2⟩
  exact ⟨s,j,hs,h1,h2,rfl⟩
theorem XE(k)(v):∀ (kvs:List (Str × D)) (x:Str),x∈(YC k v kvs).map (fun O=>O.1)↔x=k\/x∈kvs.map (fun O=>O.1):=fun O U=>match O,U with
 |[],x=>by show x∈[k]↔_;simp
 |(y,w)::r,x=>by
  rw[Vq]
  by_cases e:k=y
  ·rw[if_pos e];subst e;simp
  ·rw[if_neg e,List.map_cons,List.mem_cons,XE k v r x,List.map_cons,List.mem_cons]
   constructor
   ·rintro (h|h|h)
    ·exact .inr (.inl h)
    ·exact .inl h
    ·exact .inr (.inr h)
   ·rintro (h|h|h)
    ·exact .inr (.inl h)
    ·exact .inl h
    ·exact .inr (.inr h)
theorem XF(k)(v):∀ (kvs:List (Str × D)),(YC k v kvs).length<=kvs.length+1:=fun O=>match O with
 |[]=>Nat.le_refl _
 |(y,w)::r=>by
  rw[Vq]
  have:=XF k v r
  split
  ·exact Nat.le_succ _
  ·simp only[List.length_cons,List.length_cons];lia
theorem JN(k)(v):∀ (kvs:List (Str × D)) (x:Str),YA x (YC k v kvs)=if x=k then some v else YA x kvs:=fun O U=>match O,U with
 |[],x=>rfl
 |(y,w)::r,x=>by
  rw[Vq]
  by_cases e:k=y
  ·rw[if_pos e]
   subst e
   rw[V1,V1]
   by_cases e2:x=k
   ·rw[if_pos e2,if_pos e2]
   ·rw[if_neg e2,if_neg e2,if_neg e2]
  ·rw[if_neg e,V1,JN k v r x,V1]
   by_cases e2:x=y
   ·rw[if_pos e2,if_pos e2,if_neg (by rintro rfl;exact e e2)]
   ·rw[if_neg e2,if_neg e2]
noncomputable abbrev muA(N:D)(T:List (Str × D))(nm:D)(S C:List (Str × D))(f:List D):Zc:=[("names",.fr N),("sep",.fr (.str ".")),("taken",.od T),("name",.fr nm),("seen",.od S),("counts",.od C),("found",.ol f)]
noncomputable abbrev muB(N:D)(T:List (Str × D))(nm:D)(S C:List (Str × D))(f:List D)(n fr:D):Zc:=[("names",.fr N),("sep",.fr (.str ".")),("taken",.od T),("name",.fr nm),("seen",.od S),("counts",.od C),("found",.ol f),("number",.fr n),("fresh",.fr fr)]
noncomputable abbrev muC(N:D)(T:List (Str × D))(nm:D)(S C:List (Str × D))(f:List D)(n:D):Zc:=[("names",.fr N),("sep",.fr (.str ".")),("taken",.od T),("name",.fr nm),("seen",.od S),("counts",.od C),("found",.ol f),("number",.fr n)]
noncomputable abbrev mu0(N:D)(T:List (Str × D)):Zc:=[("names",.fr N),("sep",.fr (.str ".")),("taken",.od T)]
noncomputable abbrev mu1(N:D)(T:List (Str × D))(nm:D):Zc:=[("names",.fr N),("sep",.fr (.str ".")),("taken",.od T),("name",.fr nm)]
def Z1D(T:List (Str × D))(p:Str->Prop):Prop:=∀ x,x∈T.map (fun O=>O.1)↔p x
def Jt(N:D)(pl:Option Z8)(done:List Str)(σ:St):Prop:=∃ T,Z1D T (fun O=>O∈done)/\T.length<=done.length/\((done=[]/\σ=⟨mu0 N T,[],[],pl⟩)\/(done≠[]/\∃ nm,σ=⟨mu1 N T nm,[],[],pl⟩))
theorem Z7w(N)(pl)(ts)(hs:∀ s∈ts,s≠Str.ofString "shared")(hl:ts.length<=100):∀ (σ:St),Jt N pl [] σ ->
  wpO (ZJ ((itp 60).exs (sB 75 450)) (sT 75 450) (ts.map D.str) σ) fun g τ=>g=.next/\Jt N pl ts τ:=fun σ h=>by
 have hL:1000<=LIM:=by decide
 have k:=ZG (α:=List Str) (β:=Str) (body:=(itp 60).exs (sB 75 450)) (t:=sT 75 450) D.str (Jt N pl) (fun d s=>d++[s]) (fun d r=>(∀ s∈r,s≠Str.ofString "shared")/\d.length+r.length<=100) (fun d s r σ ok h=>?_) ts [] σ ⟨hs,by rw[List.length_nil];lia⟩ h
 ·rw[WS (fun x=>x),List.map_id',List.nil_append] at k;exact k
 ·obtain ⟨h1,h2⟩:=ok
  rw[List.length_cons] at h2
  refine ⟨⟨fun x hx=>h1 x (List.mem_cons_of_mem _ hx),by rw[List.length_append];show _+1+_<=_;lia⟩,?_⟩
  obtain ⟨T,hT,hTl,hσ⟩:=h
  have e:Zl (sT 75 450) (.str s) σ=.ok () ⟨mu1 N T (.str s),[],[],pl⟩:=by
   rcases hσ with ⟨O,rfl⟩|⟨O,nm,rfl⟩<;>kernel_rfl
  rw[e]
  refine ZF (Zj (A:={c:=20}) (n:=40) (Nat.le_refl _) (P:=cnd (decide (T.length < LIM)) (cnd (decide (s=Str.ofString "shared")) False ((fun g σ=>(g=Fl.next\/g=.cont)/\Jt N pl (d++[s]) σ) .next ⟨mu1 N (YC s (.bool true) T) (.str s),[],[],pl⟩)) False) (by kernel_rfl) ?_)
  refine ZP (by lia) (Z8N (h1 s List.mem_cons_self) ⟨.inl rfl,_,fun x=>?_,?_,.inr ⟨by simp,_,rfl⟩⟩)
  ·rw[XE,hT x]
   show x=s\/x∈d↔x∈d++[s]
   rw[List.mem_append,List.mem_singleton];exact Or.comm
  ·have:=XF s (.bool true) T
   rw[List.length_append];show _<=_+1;lia
structure Imu(ts done:List Str)(T S C:List (Str × D))(f:List D):Prop where
 t:Z1D T fun x=>x∈ts\/YE done x
 s:Z1D S fun x=>x∈done\/YE done x
 c:∀ x,YA x C=if 2<=cnt x done then some (.int ((cnt x done:Nat):Int)) else none
 f:f=sD (uqG [] done)
 lt:T.length<=ts.length+done.length
 ls:S.length<=done.length
 lc:C.length<=done.length
def Jmu(N:D)(pl:Option Z8)(ts done:List Str)(σ:St):Prop:=∃ T S C f,Imu ts done T S C f/\((∃ nm,σ=⟨muA N T nm S C f,[],[],pl⟩)\/∃ nm n fr,σ=⟨muB N T nm S C f n fr,[],[],pl⟩)
noncomputable abbrev Z7x(m:Nat):Nat->Option (St->List D->List ((Nat->D)->St)):=fun l=>if l=461 then some fun σ O=>[fun O=>σ] else none
abbrev ZbM(N:D)(T S C:List (Str × D))(f:List D)(s:Str)(m:Nat)(pl:Option Z8)(v:Zc)(Q:Fl->St->Prop):Prop:=
 wpO (whl (tr (itp 60) (sT 75 461)) ((itp 60).exs (sB 75 461)) 64 ⟨v,[],[],pl⟩) (fun g τ=>g=.next/\Wb τ [fun O=>⟨v,[],[],pl⟩]) /\
 (∀ O:Nat->D,cnd (decide (C.length < LIM)) (cnd (decide (T.length < LIM)) (cnd (decide (S.length < LIM)) (cnd (decide (f.length < LIM))
  (Q .next ⟨muB N (YC (fr' s m) (.bool true) T) (.str s) (YC (fr' s m) (.bool true) S) (YC s (.int (((m:Nat):Int)+1)) C) (f++[.str (fr' s m)]) (.int m) (.str (fr' s m)),[],[],pl⟩) False) False) False) False)/\True
theorem ZbN(N)(T S C)(f)(c)(pl)(Q):∀ m,1<=m/\m<=8 ->
  ZbM N T S C f ⟨#[c]⟩ m pl (muC N T (.str ⟨#[c]⟩) S C f (.int m)) Q=(W {c:=60,F:=Z7x m} 60).exs ((sB 75 455).drop 2) ⟨muC N T (.str ⟨#[c]⟩) S C f (.int m),[],[],pl⟩ Q:=fun O U=>match O,U with
 |1,O=>by kernel_rfl
 |2,O=>by kernel_rfl
 |3,O=>by kernel_rfl
 |4,O=>by kernel_rfl
 |5,O=>by kernel_rfl
 |6,O=>by kernel_rfl
 |7,O=>by kernel_rfl
 |8,O=>by kernel_rfl
 |0,h=>absurd h.1 (by decide)
 |n+9,h=>absurd h.2 (by lia)
theorem ZbO(N)(T S C)(f)(c)(fr)(pl)(Q):∀ m,1<=m/\m<=8 ->
  ZbM N T S C f ⟨#[c]⟩ m pl (muB N T (.str ⟨#[c]⟩) S C f (.int m) fr) Q=(W {c:=60,F:=Z7x m} 60).exs ((sB 75 455).drop 2) ⟨muB N T (.str ⟨#[c]⟩) S C f (.int m) fr,[],[],pl⟩ Q:=fun O U=>match O,U with
 |1,O=>by kernel_rfl
 |2,O=>by kernel_rfl
 |3,O=>by kernel_rfl
 |4,O=>by kernel_rfl
 |5,O=>by kernel_rfl
 |6,O=>by kernel_rfl
 |7,O=>by kernel_rfl
 |8,O=>by kernel_rfl
 |0,h=>absurd h.1 (by decide)
 |n+9,h=>absurd h.2 (by lia)
theorem Z9V{A}(hc:20<=A.c){n}{e}{σ}{Q}{P}(k:P=wtr (W A n) e σ Q)(h:P):wpO (tr (itp (A.c+n)) e σ) Q:=by
 subst k
 exact WQ (Z3m hc n) h
theorem ZbP(N:D)(T S C:List (Str × D))(f:List D)(c:Nat)(pl:Option Z8)(Q:Bool->St->Prop):∀ m,1<=m/\m<=8 ->
  Q (decide (fr' ⟨#[c]⟩ m∈T.map (fun O=>O.1))) ⟨muC N T (.str ⟨#[c]⟩) S C f (.int m),[],[],pl⟩=wtr (W {c:=20} 40) (sT 75 461) ⟨muC N T (.str ⟨#[c]⟩) S C f (.int m),[],[],pl⟩ Q:=fun O U=>match O,U with
 |1,O=>by kernel_rfl
 |2,O=>by kernel_rfl
 |3,O=>by kernel_rfl
 |4,O=>by kernel_rfl
 |5,O=>by kernel_rfl
 |6,O=>by kernel_rfl
 |7,O=>by kernel_rfl
 |8,O=>by kernel_rfl
 |0,h=>absurd h.1 (by decide)
 |n+9,h=>absurd h.2 (by lia)
theorem ZbQ(N:D)(T S C:List (Str × D))(f:List D)(c:Nat)(fr:D)(pl:Option Z8)(Q:Bool->St->Prop):∀ m,1<=m/\m<=8 ->
  Q (decide (fr' ⟨#[c]⟩ m∈T.map (fun O=>O.1))) ⟨muB N T (.str ⟨#[c]⟩) S C f (.int m) fr,[],[],pl⟩=wtr (W {c:=20} 40) (sT 75 461) ⟨muB N T (.str ⟨#[c]⟩) S C f (.int m) fr,[],[],pl⟩ Q:=fun O U=>match O,U with
 |1,O=>by kernel_rfl
 |2,O=>by kernel_rfl
 |3,O=>by kernel_rfl
 |4,O=>by kernel_rfl
 |5,O=>by kernel_rfl
 |6,O=>by kernel_rfl
 |7,O=>by kernel_rfl
 |8,O=>by kernel_rfl
 |0,h=>absurd h.1 (by decide)
 |n+9,h=>absurd h.2 (by lia)
theorem Z1E{test}{body}{n}{σ}(h:wpO (test σ) fun b τ=>b=false/\τ=σ):wpO (whl test body (n+1) σ) fun g τ=>g=.next/\τ=σ:=
 Z8F (Z0 h fun b τ q=>⟨fun O=>⟨rfl,q.2⟩,fun e=>absurd (q.1.symm.trans e) nofun⟩)
theorem Yv{k}(n){b}{σ}{Q}(h:wpO ((itp (k+1)).exs (b.take n) σ) fun f τ=>(f=.next->wpO ((itp (k+1)).exs (b.drop n) τ) Q)/\(f≠.next->Q f τ)):wpO ((itp (k+1)).exs b σ) Q:=by
 have key:∀ (a r:List Stmt) (σ:St),(wpO (ZB (itp k) a σ) fun f τ=>(f=.next->wpO (ZB (itp k) r τ) Q)/\(f≠.next->Q f τ))->wpO (ZB (itp k) (a++r) σ) Q:=fun a r=>by
  induction a with
  |nil=>intro σ h;exact h.1 rfl
  |cons s a ih=>
   intro σ h
   show wpO ((Yd (itp k) s σ).bind fun f σ=>match f with
    |.next=>ZB (itp k) (a++r) σ
    |f=>.ok f σ) Q
   have h:wpO ((Yd (itp k) s σ).bind fun f σ=>match f with
    |.next=>ZB (itp k) a σ
    |f=>.ok f σ) fun f τ=>(f=.next->wpO (ZB (itp k) r τ) Q)/\(f≠.next->Q f τ):=h
   cases e:Yd (itp k) s σ with
   |ok f τ=>
    rw[e] at h
    induction f with
    |next=>exact ih τ h
    |brk=>exact h.2 nofun
    |cont=>exact h.2 nofun
    |ret O=>exact h.2 nofun
   |exc m τ=>rw[e] at h;exact h.elim
   |stuck=>rw[e] at h;exact h.elim
 have:=key (b.take n) (b.drop n) σ h
 rw[List.take_append_drop] at this
 exact this
theorem Z7y{ts done}{T S C}{f}(I:Imu ts done T S C f)(hd:done.length<=8){s}(hs:One s)(h0:cnt s done=0):Imu ts (done++[s]) T (YC s (.bool true) S) C (f++[.str s]):=by
 have fr:∀ x,YE (done++[s]) x↔YE done x:=fun x=>by rw[Uw hd hs];exact ⟨fun h=>h.elim id fun h=>absurd h0 h.1,.inl⟩
 refine ⟨fun x=>?_,fun x=>?_,fun x=>?_,?_,?_,?_,?_⟩
 ·rw[I.t x];show (x∈ts\/YE done x)↔(x∈ts\/YE (done++[s]) x);rw[fr]
 ·rw[XE,I.s x];show (x=s\/(x∈done\/YE done x))↔(x∈done++[s]\/YE (done++[s]) x)
  rw[fr,List.mem_append,List.mem_singleton]
  exact ⟨fun h=>h.elim (fun h=>.inl (.inr h)) fun h=>h.elim (fun h=>.inl (.inl h)) .inr,fun h=>h.elim (fun h=>h.elim (fun h=>.inr (.inl h)) .inl) fun h=>.inr (.inr h)⟩
 ·rw[I.c x,XQ,Vb]
  by_cases e:x=s
  ·subst e;rw[h0,if_pos rfl];rfl
  ·rw[if_neg e,Nat.add_zero]
 ·rw[I.f,Wf,List.nil_append]
  show sD (uqG [] done)++[.str s]=(uqG [] done++[uq1 done s]).map D.str
  rw[List.map_append,show uq1 done s=s from if_pos h0]
  rfl
 ·have:=I.lt;rw[List.length_append];show _<=_+(_+1);lia
 ·have:=I.ls;have:=XF s (.bool true) S;rw[List.length_append];show _<=_+1;lia
 ·have:=I.lc;rw[List.length_append];show _<=_+1;lia
theorem Z7z{ts done}{T S C}{f}(I:Imu ts done T S C f)(hd:done.length<=8){s}(hs:One s)(h0:cnt s done≠0) :
  Imu ts (done++[s]) (YC (fr' s (cnt s done)) (.bool true) T) (YC (fr' s (cnt s done)) (.bool true) S) (YC s (.int (((cnt s done:Nat):Int)+1)) C) (f++[.str (fr' s (cnt s done))]):=by
 have fr:∀ x,YE (done++[s]) x↔(x=fr' s (cnt s done)\/YE done x):=fun x=>by
  rw[Uw hd hs]
  exact ⟨fun h=>h.elim .inr fun h=>.inl h.2,fun h=>h.elim (fun h=>.inr ⟨h0,h⟩) .inl⟩
 refine ⟨fun x=>?_,fun x=>?_,fun x=>?_,?_,?_,?_,?_⟩
 ·rw[XE,I.t x];show (x=_\/(x∈ts\/YE done x))↔(x∈ts\/YE (done++[s]) x);rw[fr]
  exact ⟨fun h=>h.elim (fun h=>.inr (.inl h)) fun h=>h.elim .inl fun h=>.inr (.inr h),fun h=>h.elim (fun h=>.inr (.inl h)) fun h=>h.elim .inl fun h=>.inr (.inr h)⟩
 ·rw[XE,I.s x];show (x=_\/(x∈done\/YE done x))↔(x∈done++[s]\/YE (done++[s]) x)
  rw[fr,List.mem_append,List.mem_singleton]
  have hm:s∈done:=(Va s done).mp h0
  exact ⟨fun h=>h.elim (fun h=>.inr (.inl h)) fun h=>h.elim (fun h=>.inl (.inl h)) fun h=>.inr (.inr h),fun h=>h.elim (fun h=>h.elim (fun h=>.inr (.inl h)) fun h=>.inr (.inl (h▸hm))) fun h=>h.elim .inl fun h=>.inr (.inr h)⟩
 ·rw[JN,I.c x,XQ,Vb]
  by_cases e:x=s
  ·subst e
   rw[if_pos rfl,if_pos rfl,if_pos (by lia)]
   rfl
  ·rw[if_neg e,if_neg e,Nat.add_zero]
 ·rw[I.f,Wf,List.nil_append]
  show sD (uqG [] done)++[.str (fr' s (cnt s done))]=(uqG [] done++[uq1 done s]).map D.str
  rw[List.map_append,show uq1 done s=fr' s (cnt s done) from if_neg h0]
  rfl
 ·have:=I.lt;have:=XF (fr' s (cnt s done)) (.bool true) T;rw[List.length_append];show _<=_+(_+1);lia
 ·have:=I.ls;have:=XF (fr' s (cnt s done)) (.bool true) S;rw[List.length_append];show _<=_+1;lia
 ·have:=I.lc;have:=XF s (.int (((cnt s done:Nat):Int)+1)) C;rw[List.length_append];show _<=_+1;lia
theorem KJ{σ τ}(h:τ=σ):Wb τ [fun O=>σ]:=.inl ⟨fun O=>.none,h⟩
theorem ZbR(N)(T S C)(f)(c)(pl)(Q) :
  cnd (!(decide ((⟨#[c]⟩:Str)∈S.map (fun O=>O.1)))) (cnd (decide (S.length < LIM)) (cnd (decide (f.length < LIM)) (Q .cont ⟨muA N T (.str ⟨#[c]⟩) (YC ⟨#[c]⟩ (.bool true) S) C (f++[.str ⟨#[c]⟩]),[],[],pl⟩) False) False) (Q .next ⟨muA N T (.str ⟨#[c]⟩) S C f,[],[],pl⟩) =
  (W {c:=20} 100).exs ((sB 75 455).take 1) ⟨muA N T (.str ⟨#[c]⟩) S C f,[],[],pl⟩ Q:=by kernel_rfl
theorem ZbS(N)(T S C)(f)(c)(n fr)(pl)(Q) :
  cnd (!(decide ((⟨#[c]⟩:Str)∈S.map (fun O=>O.1)))) (cnd (decide (S.length < LIM)) (cnd (decide (f.length < LIM)) (Q .cont ⟨muB N T (.str ⟨#[c]⟩) (YC ⟨#[c]⟩ (.bool true) S) C (f++[.str ⟨#[c]⟩]) n fr,[],[],pl⟩) False) False) (Q .next ⟨muB N T (.str ⟨#[c]⟩) S C f n fr,[],[],pl⟩) =
  (W {c:=20} 100).exs ((sB 75 455).take 1) ⟨muB N T (.str ⟨#[c]⟩) S C f n fr,[],[],pl⟩ Q:=by kernel_rfl
theorem ZbT(N)(T S C)(f)(c)(pl)(Q) :
  Q .next ⟨muC N T (.str ⟨#[c]⟩) S C f ((YA ⟨#[c]⟩ C).getD (.int 1)),[],[],pl⟩=(W {c:=20} 100).exs (((sB 75 455).drop 1).take 1) ⟨muA N T (.str ⟨#[c]⟩) S C f,[],[],pl⟩ Q:=by kernel_rfl
theorem ZbU(N)(T S C)(f)(c)(n fr)(pl)(Q) :
  Q .next ⟨muB N T (.str ⟨#[c]⟩) S C f ((YA ⟨#[c]⟩ C).getD (.int 1)) fr,[],[],pl⟩=(W {c:=20} 100).exs (((sB 75 455).drop 1).take 1) ⟨muB N T (.str ⟨#[c]⟩) S C f n fr,[],[],pl⟩ Q:=by kernel_rfl
theorem Z7A(N)(pl)(ts done)(s)(T S C)(f)(I:Imu ts done T S C f)(hts:∀ t∈ts,One t)(hs:s∈ts)(hd:done.length<=8)(hl:ts.length<=9)
  (v) (hv:v=muA N T (.str s) S C f\/∃ n fr,v=muB N T (.str s) S C f n fr) :
  wpO ((itp 120).exs (sB 75 455) ⟨v,[],[],pl⟩) fun g σ=>(g=.next\/g=.cont)/\Jmu N pl ts (done++[s]) σ:=by
 have h1s:=hts s hs
 have hL:1000<=LIM:=by decide
 have i1:=I.lt;have i2:=I.ls;have i3:=I.lc
 have i4:f.length<=8:=by rw[I.f,ZT,U5];exact hd
 have hone:=h1s
 refine Yv (k:=119) 1 ?_
 by_cases h0:cnt s done=0
 ·have hnot:¬ s∈S.map (fun O=>O.1):=fun h=>by
   rcases (I.s s).mp h with h|h
   ·exact absurd h0 ((Va s done).mpr h)
   ·exact Z3v (by lia) h1s h
  have I':=Z7y I hd h1s h0
  obtain ⟨c,rfl⟩:=h1s
  rcases hv with rfl|⟨n,fr,rfl⟩
  ·refine Zj (A:={c:=20}) (n:=100) (Nat.le_refl _) (ZbR N T S C f c pl _) ?_
   exact Un (by rw[decide_eq_false hnot];rfl) (ZP (by lia) (ZP (by lia) ⟨nofun,fun O=>⟨.inr rfl,_,_,_,_,I',.inl ⟨_,rfl⟩⟩⟩))
  ·refine Zj (A:={c:=20}) (n:=100) (Nat.le_refl _) (ZbS N T S C f c n fr pl _) ?_
   exact Un (by rw[decide_eq_false hnot];rfl) (ZP (by lia) (ZP (by lia) ⟨nofun,fun O=>⟨.inr rfl,_,_,_,_,I',.inr ⟨_,_,_,rfl⟩⟩⟩))
 ·have hin:s∈S.map (fun O=>O.1):=(I.s s).mpr (.inl ((Va s done).mp h0))
  have I':=Z7z I hd h1s h0
  have hm:=Wy s done
  have hnum:(YA s C).getD (.int 1)=.int ((cnt s done:Nat):Int):=by
   rw[I.c s]
   by_cases h2:2<=cnt s done
   ·rw[if_pos h2];rfl
   ·rw[if_neg h2,show cnt s done=1 by lia];rfl
  have hfree:¬ fr' s (cnt s done)∈T.map (fun O=>O.1):=fun h=>by
   rcases (I.t _).mp h with h|h
   ·exact KI hone (hts _ h) (by lia) rfl
   ·have:=(Z5A (by lia) hone (by lia)).mp h
    lia
  generalize hmm:cnt s done=m at *
  have hrange:1<=m/\m<=8:=by lia
  obtain ⟨c,rfl⟩:=h1s
  have fin:∀ (P:Prop),P->cnd (decide (C.length < LIM)) (cnd (decide (T.length < LIM)) (cnd (decide (S.length < LIM)) (cnd (decide (f.length < LIM)) P False) False) False) False:=fun P q=>
   ZP (by lia) (ZP (by lia) (ZP (by lia) (ZP (by lia) q)))
  have e2:∀ l:List Stmt,(l.drop 1).drop 1=l.drop 2:=fun l=>by rw[List.drop_drop]
  rcases hv with rfl|⟨n,fr,rfl⟩
  ·refine Zj (A:={c:=20}) (n:=100) (Nat.le_refl _) (ZbR N T S C f c pl _) (Uo (by rw[decide_eq_true hin];rfl) ⟨fun O=>?_,fun h=>absurd rfl h⟩)
   refine Yv (k:=119) 1 (Zj (A:={c:=20}) (n:=100) (Nat.le_refl _) (ZbT N T S C f c pl _) ⟨fun O=>?_,fun h=>absurd rfl h⟩)
   rw[hnum,e2]
   refine Zj (A:={c:=60,F:=Z7x m}) (n:=60) (Nat.le_of_ble_eq_true rfl) (ZbN N T S C f c pl _ m hrange) ?_
   refine ⟨?_,fun O=>fin _ ?_,trivial⟩
   rotate_left
   ·exact ⟨.inl rfl,_,_,_,_,I',.inr ⟨_,_,_,rfl⟩⟩
   have ht:=Z9V (A:={c:=20}) (n:=40) (Nat.le_refl _) (ZbP N T S C f c pl (fun b τ=>b=false/\τ=⟨muC N T (.str ⟨#[c]⟩) S C f (.int m),[],[],pl⟩) m hrange) ⟨decide_eq_false hfree,rfl⟩
   refine Z0 (Z1E (n:=63) ht) fun g τ q=>⟨q.1,KJ q.2⟩
  ·refine Zj (A:={c:=20}) (n:=100) (Nat.le_refl _) (ZbS N T S C f c n fr pl _) (Uo (by rw[decide_eq_true hin];rfl) ⟨fun O=>?_,fun h=>absurd rfl h⟩)
   refine Yv (k:=119) 1 (Zj (A:={c:=20}) (n:=100) (Nat.le_refl _) (ZbU N T S C f c n fr pl _) ⟨fun O=>?_,fun h=>absurd rfl h⟩)
   rw[hnum,e2]
   refine Zj (A:={c:=60,F:=Z7x m}) (n:=60) (Nat.le_of_ble_eq_true rfl) (ZbO N T S C f c fr pl _ m hrange) ?_
   refine ⟨?_,fun O=>fin _ ?_,trivial⟩
   rotate_left
   ·exact ⟨.inl rfl,_,_,_,_,I',.inr ⟨_,_,_,rfl⟩⟩
   have ht:=Z9V (A:={c:=20}) (n:=40) (Nat.le_refl _) (ZbQ N T S C f c fr pl (fun b τ=>b=false/\τ=⟨muB N T (.str ⟨#[c]⟩) S C f (.int m) fr,[],[],pl⟩) m hrange) ⟨decide_eq_false hfree,rfl⟩
   refine Z0 (Z1E (n:=63) ht) fun g τ q=>⟨q.1,KJ q.2⟩
theorem Z7B(N)(pl)(ts)(hts:∀ t∈ts,One t)(hl:ts.length<=9)(σ)(h:Jmu N pl ts [] σ) :
  wpO (ZJ ((itp 120).exs (sB 75 455)) (sT 75 455) (ts.map D.str) σ) fun g τ=>g=.next/\Jmu N pl ts ts τ:=by
 have k:=ZG (α:=List Str) (β:=Str) (body:=(itp 120).exs (sB 75 455)) (t:=sT 75 455) D.str (Jmu N pl ts) (fun d s=>d++[s]) (fun d r=>(∀ s∈r,s∈ts)/\d.length+r.length<=9) (fun d s r σ ok h=>?_) ts [] σ ⟨fun O h=>h,by rw[List.length_nil];lia⟩ h
 ·rw[WS (fun x=>x),List.map_id',List.nil_append] at k;exact k
 ·obtain ⟨h1,h2⟩:=ok
  rw[List.length_cons] at h2
  refine ⟨⟨fun x hx=>h1 x (List.mem_cons_of_mem _ hx),by rw[List.length_append];show _+1+_<=_;lia⟩,?_⟩
  obtain ⟨T,S,C,f,I,hσ⟩:=h
  have key:∃ v,Zl (sT 75 455) (.str s) σ=.ok () ⟨v,[],[],pl⟩/\(v=muA N T (.str s) S C f\/∃ n fr,v=muB N T (.str s) S C f n fr):=by
   rcases hσ with ⟨nm,rfl⟩|⟨nm,n,fr,rfl⟩
   ·exact ⟨muA N T (.str s) S C f,by kernel_rfl,.inl rfl⟩
   ·exact ⟨muB N T (.str s) S C f n fr,by kernel_rfl,.inr ⟨_,_,rfl⟩⟩
  obtain ⟨v,e,hv⟩:=key
  rw[e]
  exact ZF (Z7A N pl ts d s T S C f I hts (h1 s List.mem_cons_self) (by lia) hl v hv)
def Qmu(N:D)(pl:Option Z8)(ts:List Str):Fl->St->Prop:=fun f σ=>∃ lv,f=Fl.ret lv/\(lv=.ol (sD (uqG [] ts))/\σ.pl=pl)
def nx(Q:Fl->St->Prop):Fl->St->Prop:=fun f τ=>match f with
 |.next=>Vr τ fun τ=>Q .next τ
 |f=>Q f τ
theorem ZbV(N:D)(pl:Option Z8)(xs:List D)(Q:Fl->St->Prop):Q .next ⟨mu0 (.list xs) [],[],[],pl⟩=(W {c:=20} 101).exs ((Za 75).take 1) ⟨[("names",.fr (.list xs)),("sep",.fr (.str "."))],[],[],pl⟩ Q:=by kernel_rfl
theorem ZbW(N)(T)(nm)(pl)(Q):Q .next ⟨muA N T nm [] [] [],[],[],pl⟩=(W {c:=20} 101).exs (((Za 75).drop 2).take 3) ⟨mu1 N T nm,[],[],pl⟩ Q:=by kernel_rfl
theorem Z9W(xs)(T)(pl)(Q):wpO (ZJ ((itp 60).exs (sB 75 450)) (sT 75 450) xs ⟨mu0 (.list xs) T,[],[],pl⟩) (nx Q)=(W {c:=60,L:=[450]} 61).exs (((Za 75).drop 1).take 1) ⟨mu0 (.list xs) T,[],[],pl⟩ Q:=by kernel_rfl
theorem Z9X(xs)(T S C)(f)(nm)(pl)(Q):wpO (ZJ ((itp 120).exs (sB 75 455)) (sT 75 455) xs ⟨muA (.list xs) T nm S C f,[],[],pl⟩) (nx Q)=(W {c:=120,L:=[455]} 61).exs (((Za 75).drop 5).take 1) ⟨muA (.list xs) T nm S C f,[],[],pl⟩ Q:=by kernel_rfl
theorem ZbX(N)(T S C)(f)(nm)(pl)(Q):Q (.ret (.ol f)) ⟨muA N T nm S C f,[],[],pl⟩=(W {c:=20} 161).exs ((Za 75).drop 6) ⟨muA N T nm S C f,[],[],pl⟩ Q:=by kernel_rfl
theorem ZbY(N)(T S C)(f)(nm n fr)(pl)(Q):Q (.ret (.ol f)) ⟨muB N T nm S C f n fr,[],[],pl⟩=(W {c:=20} 161).exs ((Za 75).drop 6) ⟨muB N T nm S C f n fr,[],[],pl⟩ Q:=by kernel_rfl
theorem Yq{o}{Q R:Fl->St->Prop}(h:wpO o fun g τ=>g=.next/\R g τ)(k:∀ τ,R .next τ->Q .next τ):wpO o (nx Q):=Z0 h fun f τ q=>by
  obtain ⟨rfl,q⟩:=q
  show Vr τ fun τ=>Q .next τ
  rw[Vs]
  exact k τ q
theorem L75(ts:List Str)(h0:ts≠[])(hts:∀ t∈ts,One t)(hl:ts.length<=9)(pl:Option Z8):(itp 182).call 75 [.list (sD ts),.str "."] pl=.ok (.ol (sD (uqG [] ts))) pl:=by
 have hns:∀ s∈ts,s≠Str.ofString "shared":=fun s h e=>by
  obtain ⟨c,rfl⟩:=hts s h
  have:=congrArg (fun s:Str=>s.cps.size) e
  have e6:(Str.ofString "shared").cps.size=6:=by decide +kernel
  rw[e6] at this
  exact absurd (show (1:Nat)=6 from this) (by decide)
 have main:∃ lv pl',(itp 182).call 75 [.list (sD ts),.str "."] pl=.ok lv pl'/\(lv=.ol (sD (uqG [] ts))/\pl'=pl):=by
  refine YW (k:=181) (vs:=[("names",.fr (.list (sD ts))),("sep",.fr (.str "."))]) (by kernel_rfl) (by kernel_rfl) (by kernel_rfl) ?_
  refine Yv (k:=180) 1 (Zs ((Zr (by decide:121<=181)).exs _ _) (Zj (A:={c:=20}) (n:=101) (Nat.le_refl _) (ZbV .none pl (sD ts) _) ⟨fun O=>?_,fun h=>absurd rfl h⟩))
  refine Yv (k:=180) 1 (Zs ((Zr (by decide:121<=181)).exs _ _) (Zj (A:={c:=60,L:=[450]}) (n:=61) (Nat.le_of_ble_eq_true rfl) (Z9W (sD ts) [] pl _) (Yq (R:=fun O τ=>Jt (.list (sD ts)) pl ts τ) (Z7w (.list (sD ts)) pl ts hns (by lia) _ ⟨[],fun x=>⟨fun h=>(by cases h),fun h=>(by cases h)⟩,Nat.le_refl _,.inl ⟨rfl,rfl⟩⟩) fun τ hτ=>⟨fun O=>?_,fun h=>absurd rfl h⟩)))
  obtain ⟨T,hT,hTl,⟨e,O⟩|⟨O,nm,rfl⟩⟩:=hτ
  ·exact absurd e h0
  have e2:∀ l:List Stmt,(l.drop 1).drop 1=l.drop 2:=fun l=>by rw[List.drop_drop]
  have e5:∀ l:List Stmt,(l.drop 2).drop 3=l.drop 5:=fun l=>by rw[List.drop_drop]
  have e6:∀ l:List Stmt,(l.drop 5).drop 1=l.drop 6:=fun l=>by rw[List.drop_drop]
  rw[e2]
  refine Yv (k:=180) 3 (Zs ((Zr (by decide:121<=181)).exs _ _) (Zj (A:={c:=20}) (n:=101) (Nat.le_refl _) (ZbW (.list (sD ts)) T nm pl _) ⟨fun O=>?_,fun h=>absurd rfl h⟩))
  rw[e5]
  have I0:Imu ts [] T [] [] []:=⟨fun x=>by rw[hT x];show x∈ts↔x∈ts\/YE [] x;exact ⟨.inl,fun h=>h.elim id fun ⟨s,j,O,U,h,V⟩=>absurd h (Nat.not_lt_zero _)⟩,
   fun x=>⟨fun h=>(by cases h),fun h=>h.elim (fun h=>by cases h) fun ⟨s,j,O,U,h,V⟩=>absurd h (Nat.not_lt_zero _)⟩,fun x=>rfl,rfl,by show T.length<=ts.length+0;omega,Nat.le_refl _,Nat.le_refl _⟩
  refine Yv (k:=180) 1 (Zj (A:={c:=120,L:=[455]}) (n:=61) (Nat.le_of_ble_eq_true rfl) (Z9X (sD ts) T [] [] [] nm pl _) (Yq (R:=fun O τ=>Jmu (.list (sD ts)) pl ts ts τ) (Z7B (.list (sD ts)) pl ts hts hl _ ⟨T,[],[],[],I0,.inl ⟨nm,rfl⟩⟩) fun τ hτ=>⟨fun O=>?_,fun h=>absurd rfl h⟩))
  rw[e6]
  obtain ⟨T',S,C,f,I,hσ⟩:=hτ
  rcases hσ with ⟨nm,rfl⟩|⟨nm,n,fr,rfl⟩
  ·exact Zj (A:={c:=20}) (n:=161) (Nat.le_refl _) (ZbX (.list (sD ts)) T' S C f nm pl _) ⟨_,rfl,by rw[I.f],rfl⟩
  ·exact Zj (A:={c:=20}) (n:=161) (Nat.le_refl _) (ZbY (.list (sD ts)) T' S C f nm n fr pl _) ⟨_,rfl,by rw[I.f],rfl⟩
 obtain ⟨lv,pl',e,rfl,rfl⟩:=main
 exact e
theorem Z5B{α:Type}{P:List α->Prop}(h0:P [])(h1:∀ l a,P l->P (l++[a]))(l:List α):P l:=by
 have key:∀ r:List α,P r.reverse:=fun r=>by
  induction r with
  |nil=>exact h0
  |cons a r ih=>rw[List.reverse_cons];exact h1 _ _ ih
 have:=key l.reverse
 rwa [List.reverse_reverse] at this
theorem ZbZ{s}(hs:One s){j}(hj:j<=9):∀ done:List Str,(∀ t∈done,One t)->done.length<=9->(fr' s j∈uqG [] done↔1<=j/\j < cnt s done):=by
 refine Z5B (fun O O=>⟨fun h=>(by cases h),fun h=>absurd h.2 (Nat.not_lt_zero _)⟩) fun l t ih h1 h2=>?_
 have ht:One t:=h1 t (List.mem_append_right _ List.mem_cons_self)
 rw[List.length_append] at h2
 have h2:l.length+1<=9:=h2
 have ih:=ih (fun x hx=>h1 x (List.mem_append_left _ hx)) (by lia)
 rw[Wf,List.mem_append,List.mem_singleton,ih,List.nil_append,XQ,Vb]
 have hc:=Wy t l
 unfold uq1
 by_cases h0:cnt t l=0
 ·rw[if_pos h0]
  constructor
  ·rintro (h|h)
   ·exact ⟨h.1,by lia⟩
   ·exact absurd h (KI hs ht hj)
  ·rintro ⟨h,h3⟩
   refine .inl ⟨h,?_⟩
   by_cases e:s=t
   ·subst e;rw[if_pos rfl,h0] at h3;lia
   ·rw[if_neg e] at h3;exact h3
 ·rw[if_neg h0]
  constructor
  ·rintro (h|h)
   ·exact ⟨h.1,by lia⟩
   ·obtain ⟨rfl,rfl⟩:=Z5z hs ht hj (by lia) h
    rw[if_pos rfl]
    lia
  ·rintro ⟨h,h3⟩
   by_cases e:s=t
   ·subst e
    rw[if_pos rfl] at h3
    by_cases e2:j=cnt s l
    ·subst e2;exact .inr rfl
    ·exact .inl ⟨h,by lia⟩
   ·rw[if_neg e] at h3;exact .inl ⟨h,h3⟩
theorem JO{test:St->Out Bool}{body:St->Out Fl}(S:Nat->St)(m:Nat)(ht:∀ j,1<=j->j < m->wpO (test (S j)) fun b τ=>b=true/\τ=S j)(hb:∀ j,1<=j->j < m->wpO (body (S j)) fun g τ=>g=.next/\τ=S (j+1))(hm:wpO (test (S m)) fun b τ=>b=false/\τ=S m) :
  ∀ (k j n:Nat),j+k=m->1<=j->k < n->wpO (whl test body n (S j)) fun g τ=>g=.next/\τ=S m:=fun O U V O1 O2 O3=>match O,U,V,O1,O2,O3 with
 |O,U,0,V,O1,h=>absurd h (Nat.not_lt_zero _)
 |0,j,n+1,h,O,U=>by
  have:j=m:=h
  subst this
  exact Z1E hm
 |k+1,j,n+1,h,h1,h2=>by
  refine Z8F (Z0 (ht j h1 (by lia)) fun b τ q=>⟨fun e=>absurd (q.1.symm.trans e) nofun,fun O=>?_⟩)
  rw[q.2]
  refine Z0 (hb j h1 (by lia)) fun g τ q=>⟨fun O=>?_,fun e=>absurd (q.1.symm.trans e) nofun,fun lv e=>absurd (q.1.symm.trans e) nofun⟩
  rw[q.2]
  exact JO S m ht hb hm k (j+1) n (by lia) (by lia) (by lia)
theorem Zy{A}{o}(hc:20<=A.c){n}{b}{σ}{Q}{P}(ho:(itp (A.c+n)).exs b σ=o)(e:P=(W A n).exs b σ Q)(h:P):wpO o Q:=by
 subst ho
 exact Zj hc e h
theorem Yh{k}(n){b}{σ}{o}{Q}(ho:(itp (k+1)).exs (b.take n) σ=o)(h:wpO o fun f τ=>(f=.next->∀ o,(itp (k+1)).exs (b.drop n) τ=o->wpO o Q)/\(f≠.next->Q f τ)):wpO ((itp (k+1)).exs b σ) Q:=by
 subst ho
 exact Yv n (Z0 h fun f τ q=>⟨fun e=>q.1 e _ rfl,q.2⟩)
noncomputable abbrev luS(X told:List D):Zc:=[("texts",.fr (.list X)),("told",.ol told)]
noncomputable abbrev luA(X told:List D)(e:D):Zc:=[("texts",.fr (.list X)),("told",.ol told),("each",.fr e)]
noncomputable abbrev luB(X told:List D)(e n:D):Zc:=[("texts",.fr (.list X)),("told",.ol told),("each",.fr e),("name",.fr n)]
noncomputable abbrev luC(X told:List D)(e n g:D):Zc:=[("texts",.fr (.list X)),("told",.ol told),("each",.fr e),("name",.fr n),("figure_at",.fr g)]
theorem ku1(X told)(e)(pl)(Q):(Ze (Xg (.list X) (.int e) ⟨luA X told (.int e),[],[],pl⟩) fun v=>Q .next ⟨luB X told (.int e) v,[],[],pl⟩)=(W {c:=20} 100).exs ((sB 107 676).take 1) ⟨luA X told (.int e),[],[],pl⟩ Q:=by kernel_rfl
theorem ku2(X told)(e)(n)(pl)(Q):(Ze (Xg (.list X) (.int e) ⟨luB X told (.int e) n,[],[],pl⟩) fun v=>Q .next ⟨luB X told (.int e) v,[],[],pl⟩)=(W {c:=20} 100).exs ((sB 107 676).take 1) ⟨luB X told (.int e) n,[],[],pl⟩ Q:=by kernel_rfl
theorem ku3(X told)(e)(n g)(pl)(Q):(Ze (Xg (.list X) (.int e) ⟨luC X told (.int e) n g,[],[],pl⟩) fun v=>Q .next ⟨luC X told (.int e) v g,[],[],pl⟩)=(W {c:=20} 100).exs ((sB 107 676).take 1) ⟨luC X told (.int e) n g,[],[],pl⟩ Q:=by kernel_rfl
noncomputable abbrev Z3w(X told:List D)(e:Int)(s:Str)(m:Nat):Nat->Option (St->List D->List ((Nat->D)->St)):=fun l=>if l=680 then some fun σ O=>[fun O=>⟨luC X told (.int e) (.str s) (.int m),[],[],σ.pl⟩] else none
abbrev Z9Y(X told:List D)(e:Int)(s:Str)(m:Nat)(pl:Option Z8)(Q:Fl->St->Prop):Prop:=
 wpO (whl (tr (itp 60) (sT 107 680)) ((itp 60).exs (sB 107 680)) 64 ⟨luC X told (.int e) (.str s) (.int 1),[],[],pl⟩) (fun g τ=>g=.next/\Wb τ [fun O=>⟨luC X told (.int e) (.str s) (.int m),[],[],pl⟩]) /\
 (∀ O:Nat->D,cnd (decide (told.length < LIM)) (Q .next ⟨luC X (told++[.str (fr' s m)]) (.int e) (.str (fr' s m)) (.int m),[],[],pl⟩) False)/\True
theorem ku4(X told)(e)(c)(pl)(Q):∀ m,1<=m/\m<=8 ->
  (Ze (Z1p (.list X) (.int e)) fun lv=>Ze (YT ⟨luB X told (.int e) (.str ⟨#[c]⟩),[],[],pl⟩ .In (.str ⟨#[c]⟩) lv.d) fun b=>cnd b (Z9Y X told e ⟨#[c]⟩ m pl Q) (cnd (decide (told.length < LIM)) (Q .next ⟨luB X (told++[.str ⟨#[c]⟩]) (.int e) (.str ⟨#[c]⟩),[],[],pl⟩) False)) =
  (W {c:=60,F:=Z3w X told e ⟨#[c]⟩ m} 60).exs ((sB 107 676).drop 1) ⟨luB X told (.int e) (.str ⟨#[c]⟩),[],[],pl⟩ Q:=fun O U=>match O,U with
 |1,O=>by kernel_rfl
 |2,O=>by kernel_rfl
 |3,O=>by kernel_rfl
 |4,O=>by kernel_rfl
 |5,O=>by kernel_rfl
 |6,O=>by kernel_rfl
 |7,O=>by kernel_rfl
 |8,O=>by kernel_rfl
 |0,h=>absurd h.1 (by decide)
 |n+9,h=>absurd h.2 (by lia)
theorem ku5(X told)(e)(c)(g)(pl)(Q):∀ m,1<=m/\m<=8 ->
  (Ze (Z1p (.list X) (.int e)) fun lv=>Ze (YT ⟨luC X told (.int e) (.str ⟨#[c]⟩) g,[],[],pl⟩ .In (.str ⟨#[c]⟩) lv.d) fun b=>cnd b (Z9Y X told e ⟨#[c]⟩ m pl Q) (cnd (decide (told.length < LIM)) (Q .next ⟨luC X (told++[.str ⟨#[c]⟩]) (.int e) (.str ⟨#[c]⟩) g,[],[],pl⟩) False)) =
  (W {c:=60,F:=Z3w X told e ⟨#[c]⟩ m} 60).exs ((sB 107 676).drop 1) ⟨luC X told (.int e) (.str ⟨#[c]⟩) g,[],[],pl⟩ Q:=fun O U=>match O,U with
 |1,O=>by kernel_rfl
 |2,O=>by kernel_rfl
 |3,O=>by kernel_rfl
 |4,O=>by kernel_rfl
 |5,O=>by kernel_rfl
 |6,O=>by kernel_rfl
 |7,O=>by kernel_rfl
 |8,O=>by kernel_rfl
 |0,h=>absurd h.1 (by decide)
 |n+9,h=>absurd h.2 (by lia)
theorem ku6(X told)(e)(c)(pl)(Q):∀ j:Nat,1<=j/\j<=8 ->
  (Ze (XA .Add (.list X) (.list told)) fun lv=>Ze (YT ⟨luC X told (.int e) (.str ⟨#[c]⟩) (.int j),[],[],pl⟩ .In (.str (fr' ⟨#[c]⟩ j)) lv.d) fun b=>Q b ⟨luC X told (.int e) (.str ⟨#[c]⟩) (.int j),[],[],pl⟩) =
  wtr (W {c:=20} 40) (sT 107 680) ⟨luC X told (.int e) (.str ⟨#[c]⟩) (.int j),[],[],pl⟩ Q:=fun O U=>match O,U with
 |1,O=>by kernel_rfl
 |2,O=>by kernel_rfl
 |3,O=>by kernel_rfl
 |4,O=>by kernel_rfl
 |5,O=>by kernel_rfl
 |6,O=>by kernel_rfl
 |7,O=>by kernel_rfl
 |8,O=>by kernel_rfl
 |0,h=>absurd h.1 (by decide)
 |n+9,h=>absurd h.2 (by lia)
theorem ku7(X told:List D)(e:Int)(n:D)(j:Nat)(pl:Option Z8):wpO ((itp 60).exs (sB 107 680) ⟨luC X told (.int e) n (.int j),[],[],pl⟩) fun g τ=>g=.next/\τ=⟨luC X told (.int e) n (.int ((j+1:Nat):Int)),[],[],pl⟩:=Z8M 40 (by kernel_rfl)
def Jlu(ts:List Str)(pl:Option Z8)(i:Nat)(σ:St):Prop:=
 σ=⟨luS (sD ts) (sD (uqG [] (ts.take i))),[],[],pl⟩\/(∃ e n,σ=⟨luB (sD ts) (sD (uqG [] (ts.take i))) e n,[],[],pl⟩)\/∃ e n g,σ=⟨luC (sD ts) (sD (uqG [] (ts.take i))) e n g,[],[],pl⟩
theorem U6(ts:List Str){i:Nat}(hi:i<=100):Z1p (.list (sD ts)) (.int ((0:Int)+(i:Int)))=some (.ol (sD (ts.take i))):=by
 have hL:1000<=LIM:=by decide
 rw[Z9d]
 unfold toL
 rw[if_pos (by lia),show ((0:Int)+(i:Int)).toNat=i by lia]
 show some (LV.ol ((ts.map D.str).take i))=some (LV.ol ((ts.take i).map D.str))
 rw[List.map_take]
theorem Ux{ts:List Str}{i:Nat}{s:Str}(h:ts[i]?=some s)(σ:St):Xg (.list (sD ts)) (.int ((0:Int)+(i:Int))) σ=some (.str s):=by
 show (if (0:Int)<=0+(i:Int) then (sD ts)[((0:Int)+(i:Int)).toNat]? else none)=_
 rw[if_pos (by lia),show ((0:Int)+(i:Int)).toNat=i by lia]
 show (ts.map D.str)[i]?=_
 rw[List.getElem?_map,h]
 rfl
theorem Vc(ls)(x)(σ):YT σ .In (.str x) (.list (sD ls))=some (decide (x∈ls)):=by
 show (strs? (sD ls)).map (fun l=>decide (x∈l))=_
 rw[U2]
 rfl
theorem Z5C(a b)(h:a.length+b.length<=1000):XA .Add (.list (sD a)) (.list (sD b))=some (.ol (sD (a++b))):=by
 have hL:1000<=LIM:=by decide
 show (if (sD a).length+(sD b).length<=LIM then some (LV.ol (sD a++sD b)) else none)=_
 rw[if_pos (by rw[ZT,ZT];lia),show sD a++sD b=sD (a++b) from List.map_append.symm]
theorem Z7C(ts:List Str)(hts:∀ t∈ts,One t)(hl:ts.length<=9)(i:Nat)(s:Str)(hi:ts[i]?=some s)(pl:Option Z8)(v:Zc)
  (hv:v=luA (sD ts) (sD (uqG [] (ts.take i))) (.int ((0:Int)+(i:Int)))\/(∃ n,v=luB (sD ts) (sD (uqG [] (ts.take i))) (.int ((0:Int)+(i:Int))) n)\/∃ n g,v=luC (sD ts) (sD (uqG [] (ts.take i))) (.int ((0:Int)+(i:Int))) n g) :
  wpO ((itp 120).exs (sB 107 676) ⟨v,[],[],pl⟩) fun g σ=>(g=.next\/g=.cont)/\Jlu ts pl (i+1) σ:=by
 have hlt:i < ts.length:=(List.getElem?_eq_some_iff.mp hi).1
 have hmem:s∈ts:=List.mem_of_getElem? hi
 have h1s:=hts s hmem
 have hone:=h1s
 have htk:ts.take (i+1)=ts.take i++[s]:=by rw[List.take_add_one,hi];rfl
 have hdl:(ts.take i).length<=8:=by rw[List.length_take];lia
 have hd1:∀ t∈ts.take i,One t:=fun t h=>hts t (List.mem_of_mem_take h)
 have hL:1000<=LIM:=by decide
 have hul:(sD (uqG [] (ts.take i))).length < LIM:=by rw[ZT,U5];lia
 have hout:uqG [] (ts.take (i+1))=uqG [] (ts.take i)++[uq1 (ts.take i) s]:=by simp only[htk,Wf,List.nil_append]
 have hout':sD (uqG [] (ts.take (i+1)))=sD (uqG [] (ts.take i))++[D.str (uq1 (ts.take i) s)]:=by rw[hout];exact List.map_append
 have hcl:=Wy s (ts.take i)
 generalize hm:cnt s (ts.take i)=m at *
 have tail:∀ v:Zc,(v=luB (sD ts) (sD (uqG [] (ts.take i))) (.int ((0:Int)+(i:Int))) (.str s)\/∃ g,v=luC (sD ts) (sD (uqG [] (ts.take i))) (.int ((0:Int)+(i:Int))) (.str s) g) ->
   ∀ o,(itp 120).exs ((sB 107 676).drop 1) ⟨v,[],[],pl⟩=o->wpO o fun g σ=>(g=.next\/g=.cont)/\Jlu ts pl (i+1) σ:=by
  intro v hv o ho
  have hold:m≠0->Z9Y (sD ts) (sD (uqG [] (ts.take i))) ((0:Int)+(i:Int)) s m pl (fun g σ=>(g=Fl.next\/g=.cont)/\Jlu ts pl (i+1) σ):=fun h0=>by
   have hr:1<=m/\m<=8:=by lia
   refine ⟨?_,fun O=>ZP hul ⟨.inl rfl,.inr (.inr ⟨.int ((0:Int)+(i:Int)),.str (fr' s m),.int m,?_⟩)⟩,trivial⟩
   ·have tst:∀ j:Nat,1<=j/\j<=8->wpO (tr (itp 60) (sT 107 680) ⟨luC (sD ts) (sD (uqG [] (ts.take i))) (.int ((0:Int)+(i:Int))) (.str s) (.int j),[],[],pl⟩) fun b τ=>b=decide (j < m)/\τ=⟨luC (sD ts) (sD (uqG [] (ts.take i))) (.int ((0:Int)+(i:Int))) (.str s) (.int j),[],[],pl⟩:=fun j hj=>by
     have hb:decide (fr' s j∈ts++uqG [] (ts.take i))=decide (j < m):=by
      have h1:=ZbZ hone (show j<=9 by lia) (ts.take i) hd1 (by lia)
      rw[hm] at h1
      by_cases hjm:j < m
      ·rw[decide_eq_true hjm]
       exact decide_eq_true (List.mem_append_right _ (h1.mpr ⟨hj.1,hjm⟩))
      ·rw[decide_eq_false hjm]
       refine decide_eq_false fun h=>?_
       rcases List.mem_append.mp h with h|h
       ·exact KI hone (hts _ h) (show j<=9 by lia) rfl
       ·exact hjm (h1.mp h).2
     obtain ⟨c,rfl⟩:=h1s
     refine Z9V (A:={c:=20}) (n:=40) (Nat.le_refl _) (ku6 _ _ _ c pl _ j hj) ?_
     rw[Z5C _ _ (by rw[U5];lia)]
     show Ze (YT _ .In (.str (fr' ⟨#[c]⟩ j)) (.list (sD (ts++uqG [] (ts.take i))))) _
     rw[Vc,hb]
     exact ⟨rfl,rfl⟩
    have k:=JO (test:=tr (itp 60) (sT 107 680)) (body:=(itp 60).exs (sB 107 680)) (fun j=>⟨luC (sD ts) (sD (uqG [] (ts.take i))) (.int ((0:Int)+(i:Int))) (.str s) (.int j),[],[],pl⟩) m
     (fun j h1 h2=>Z0 (tst j ⟨h1,by lia⟩) fun b τ q=>⟨q.1.trans (decide_eq_true h2),q.2⟩) (fun j h1 h2=>ku7 _ _ _ _ j pl)
     (Z0 (tst m hr) fun b τ q=>⟨q.1.trans (decide_eq_false (Nat.lt_irrefl m)),q.2⟩) (m - 1) 1 64 (by lia) (Nat.le_refl _) (by lia)
    exact Z0 k fun g τ q=>⟨q.1,KJ q.2⟩
   ·rw[hout',show uq1 (ts.take i) s=fr' s m by unfold uq1;rw[hm,if_neg h0]]
  have hnew:m=0->sD (uqG [] (ts.take (i+1)))=sD (uqG [] (ts.take i))++[D.str s]:=fun h0=>by
   rw[hout',show uq1 (ts.take i) s=s by unfold uq1;rw[hm,if_pos h0]]
  have hin:decide (s∈ts.take i)=decide (m≠0):=by
   have:=Va s (ts.take i)
   rw[hm] at this
   by_cases h0:m=0
   ·rw[decide_eq_false (fun h=>(this.mpr h) h0),decide_eq_false (fun h=>h h0)]
   ·rw[decide_eq_true (this.mp h0),decide_eq_true h0]
  have hone':=h1s
  obtain ⟨c,rfl⟩:=h1s
  by_cases h0:m=0
  ·rcases hv with rfl|⟨g,rfl⟩
   ·refine Zy (A:={c:=60,F:=Z3w (sD ts) (sD (uqG [] (ts.take i))) ((0:Int)+(i:Int)) ⟨#[c]⟩ 1}) (n:=60) (Nat.le_of_ble_eq_true rfl) ho (ku4 _ _ _ c pl _ 1 (by lia)) ?_
    rw[U6 ts (by lia)]
    show Ze (YT _ .In (.str ⟨#[c]⟩) (.list (sD (ts.take i)))) _
    rw[Vc,hin]
    refine Uo (decide_eq_false (fun h=>h h0)) (ZP hul ⟨.inl rfl,.inr (.inl ⟨.int ((0:Int)+(i:Int)),.str ⟨#[c]⟩,?_⟩)⟩)
    rw[hnew h0]
   ·refine Zy (A:={c:=60,F:=Z3w (sD ts) (sD (uqG [] (ts.take i))) ((0:Int)+(i:Int)) ⟨#[c]⟩ 1}) (n:=60) (Nat.le_of_ble_eq_true rfl) ho (ku5 _ _ _ c g pl _ 1 (by lia)) ?_
    rw[U6 ts (by lia)]
    show Ze (YT _ .In (.str ⟨#[c]⟩) (.list (sD (ts.take i)))) _
    rw[Vc,hin]
    refine Uo (decide_eq_false (fun h=>h h0)) (ZP hul ⟨.inl rfl,.inr (.inr ⟨.int ((0:Int)+(i:Int)),.str ⟨#[c]⟩,g,?_⟩)⟩)
    rw[hnew h0]
  ·have hr:1<=m/\m<=8:=by lia
   rcases hv with rfl|⟨g,rfl⟩
   ·refine Zy (A:={c:=60,F:=Z3w (sD ts) (sD (uqG [] (ts.take i))) ((0:Int)+(i:Int)) ⟨#[c]⟩ m}) (n:=60) (Nat.le_of_ble_eq_true rfl) ho (ku4 _ _ _ c pl _ m hr) ?_
    rw[U6 ts (by lia)]
    show Ze (YT _ .In (.str ⟨#[c]⟩) (.list (sD (ts.take i)))) _
    rw[Vc,hin]
    exact Un (decide_eq_true h0) (hold h0)
   ·refine Zy (A:={c:=60,F:=Z3w (sD ts) (sD (uqG [] (ts.take i))) ((0:Int)+(i:Int)) ⟨#[c]⟩ m}) (n:=60) (Nat.le_of_ble_eq_true rfl) ho (ku5 _ _ _ c g pl _ m hr) ?_
    rw[U6 ts (by lia)]
    show Ze (YT _ .In (.str ⟨#[c]⟩) (.list (sD (ts.take i)))) _
    rw[Vc,hin]
    exact Un (decide_eq_true h0) (hold h0)
 generalize ho:(itp (119+1)).exs ((sB 107 676).take 1) ⟨v,[],[],pl⟩=o
 refine Yh (k:=119) 1 ho ?_
 rcases hv with rfl|⟨n,rfl⟩|⟨n,g,rfl⟩
 ·refine Zy (A:={c:=20}) (n:=100) (Nat.le_refl _) ho (ku1 _ _ _ pl _) ?_
  rw[Ux hi]
  exact ⟨fun O o ho=>tail _ (.inl rfl) o ho,fun h=>absurd rfl h⟩
 ·refine Zy (A:={c:=20}) (n:=100) (Nat.le_refl _) ho (ku2 _ _ _ n pl _) ?_
  rw[Ux hi]
  exact ⟨fun O o ho=>tail _ (.inl rfl) o ho,fun h=>absurd rfl h⟩
 ·refine Zy (A:={c:=20}) (n:=100) (Nat.le_refl _) ho (ku3 _ _ _ n g pl _) ?_
  rw[Ux hi]
  exact ⟨fun O o ho=>tail _ (.inr ⟨_,rfl⟩) o ho,fun h=>absurd rfl h⟩
theorem Z7D(ts)(hts:∀ t∈ts,One t)(hl:ts.length<=9)(pl)(σ)(h:Jlu ts pl 0 σ) :
  wpO (ZJ ((itp 120).exs (sB 107 676)) (sT 107 676) ((List.range ts.length).map fun (i:Nat)=>D.int ((0:Int)+(i:Int))) σ) fun g τ=>g=.next/\Jlu ts pl ts.length τ:=by
 have k:=ZG (α:=Nat) (β:=Nat) (body:=(itp 120).exs (sB 107 676)) (t:=sT 107 676) (fun (i:Nat)=>D.int ((0:Int)+(i:Int))) (Jlu ts pl) (fun i O=>i+1) (fun i bs=>bs=List.range' i (ts.length - i)/\i<=ts.length) (fun i b bs σ ok h=>?_) (List.range ts.length) 0 σ ⟨by rw[List.range_eq_range'];rfl,Nat.zero_le _⟩ h
 ·have:∀ (bs:List Nat) (n:Nat),bs.foldl (fun n O=>n+1) n=n+bs.length:=fun bs=>by
   induction bs with
   |nil=>intro n;rfl
   |cons d ds ih=>intro n;simp only[List.foldl_cons,ih,List.length_cons];lia
  rw[this,List.length_range,Nat.zero_add] at k
  exact k
 ·obtain ⟨h1,h2⟩:=ok
  have hlt:i < ts.length:=by
   rcases Nat.lt_or_ge i ts.length with h|h
   ·exact h
   ·rw[show ts.length - i=0 by lia] at h1;cases h1
  rw[show ts.length - i=(ts.length - (i+1))+1 by lia,List.range'_succ] at h1
  injection h1 with e1 e2
  subst e1
  refine ⟨⟨e2,hlt⟩,?_⟩
  have hi:ts[b]?=some ts[b]:=List.getElem?_eq_getElem hlt
  have key:∃ v,Zl (sT 107 676) (.int ((0:Int)+(b:Int))) σ=.ok () ⟨v,[],[],pl⟩/\(v=luA (sD ts) (sD (uqG [] (ts.take b))) (.int ((0:Int)+(b:Int)))\/(∃ n,v=luB (sD ts) (sD (uqG [] (ts.take b))) (.int ((0:Int)+(b:Int))) n)\/∃ n g,v=luC (sD ts) (sD (uqG [] (ts.take b))) (.int ((0:Int)+(b:Int))) n g):=by
   rcases h with rfl|⟨e,n,rfl⟩|⟨e,n,g,rfl⟩
   ·exact ⟨luA (sD ts) (sD (uqG [] (ts.take b))) (.int ((0:Int)+(b:Int))),by kernel_rfl,.inl rfl⟩
   ·exact ⟨luB (sD ts) (sD (uqG [] (ts.take b))) (.int ((0:Int)+(b:Int))) n,by kernel_rfl,.inr (.inl ⟨_,rfl⟩)⟩
   ·exact ⟨luC (sD ts) (sD (uqG [] (ts.take b))) (.int ((0:Int)+(b:Int))) n g,by kernel_rfl,.inr (.inr ⟨_,_,rfl⟩)⟩
  obtain ⟨v,e,hv⟩:=key
  rw[e]
  exact ZF (Z7C ts hts hl b ts[b] hi pl v hv)
theorem ku8(X)(pl)(Q):Q .next ⟨luS X [],[],[],pl⟩=(W {c:=20} 161).exs ((Za 107).take 1) ⟨[("texts",.fr (.list X))],[],[],pl⟩ Q:=by kernel_rfl
theorem ku9(X)(pl)(Q):(Ze (blt (Str.ofString "range") [.int ((X.length:Nat):Int)]) fun v=>Ze (YD v.d) fun xs=>wpO (ZJ ((itp 120).exs (sB 107 676)) (sT 107 676) xs ⟨luS X [],[],[],pl⟩) (nx Q)) =
  (W {c:=120,L:=[676]} 61).exs (((Za 107).drop 1).take 1) ⟨luS X [],[],[],pl⟩ Q:=by kernel_rfl
theorem kuS(X told)(pl)(Q):Q (.ret (.ol told)) ⟨luS X told,[],[],pl⟩=(W {c:=20} 161).exs ((Za 107).drop 2) ⟨luS X told,[],[],pl⟩ Q:=by kernel_rfl
theorem kuB(X told)(e n)(pl)(Q):Q (.ret (.ol told)) ⟨luB X told e n,[],[],pl⟩=(W {c:=20} 161).exs ((Za 107).drop 2) ⟨luB X told e n,[],[],pl⟩ Q:=by kernel_rfl
theorem kuC(X told)(e n g)(pl)(Q):Q (.ret (.ol told)) ⟨luC X told e n g,[],[],pl⟩=(W {c:=20} 161).exs ((Za 107).drop 2) ⟨luC X told e n g,[],[],pl⟩ Q:=by kernel_rfl
theorem Z3x{n}(h:n<=1000):blt (Str.ofString "range") [.int ((n:Nat):Int)]=some (.fr (.rng 0 ((n:Nat):Int))):=by
 have hL:1000 < LIM:=by decide
 show (if ((n:Nat):Int).natAbs < LIM then some (LV.fr (.rng 0 ((n:Nat):Int))) else none)=_
 rw[if_pos (by rw[Int.natAbs_natCast];lia)]
theorem Z5D{n}(h:n<=1000):YD (.rng 0 ((n:Nat):Int))=some ((List.range n).map fun (i:Nat)=>D.int ((0:Int)+(i:Int))):=by
 have hL:1000 < LIM:=by decide
 show (if ((n:Nat):Int) - 0<=LIM then some (Zi 0 ((n:Nat):Int)) else none)=_
 rw[if_pos (by lia)]
 unfold Zi
 rw[show (((n:Nat):Int) - 0).toNat=n by lia]
theorem ZcZ(ts)(hts:∀ t∈ts,One t)(hl:ts.length<=9)(pl):(itp 182).call 107 [.list (sD ts)] pl=.ok (.ol (sD (uqG [] ts))) pl:=by
 have main:∃ lv pl',(itp 182).call 107 [.list (sD ts)] pl=.ok lv pl'/\(lv=.ol (sD (uqG [] ts))/\pl'=pl):=by
  refine YW (k:=181) (vs:=[("texts",.fr (.list (sD ts)))]) (by kernel_rfl) (by kernel_rfl) (by kernel_rfl) ?_
  generalize ho:(itp (180+1)).exs ((Za 107).take 1) ⟨[("texts",.fr (.list (sD ts)))],[],[],pl⟩=o
  refine Yh (k:=180) 1 ho (Zy (A:={c:=20}) (n:=161) (Nat.le_refl _) ho (ku8 (sD ts) pl _) ⟨fun O o ho=>?_,fun h=>absurd rfl h⟩)
  subst ho
  generalize ho:(itp (180+1)).exs (((Za 107).drop 1).take 1) ⟨luS (sD ts) [],[],[],pl⟩=o
  refine Yh (k:=180) 1 ho (Zy (A:={c:=120,L:=[676]}) (n:=61) (Nat.le_of_ble_eq_true rfl) ho (ku9 (sD ts) pl _) ?_)
  rw[ZT,Z3x (by lia)]
  show Ze (YD (.rng 0 ((ts.length:Nat):Int))) _
  rw[Z5D (by lia)]
  refine Yq (R:=fun O τ=>Jlu ts pl ts.length τ) (Z7D ts hts hl pl _ (.inl rfl)) fun τ hτ=>⟨fun O o ho=>?_,fun h=>absurd rfl h⟩
  have e2:∀ l:List Stmt,(l.drop 1).drop 1=l.drop 2:=fun l=>by rw[List.drop_drop]
  rw[e2] at ho
  unfold Jlu at hτ
  rw[List.take_length] at hτ
  rcases hτ with rfl|⟨e,n,rfl⟩|⟨e,n,g,rfl⟩
  ·exact Zy (A:={c:=20}) (n:=161) (Nat.le_refl _) ho (kuS _ _ pl _) ⟨_,rfl,rfl,rfl⟩
  ·exact Zy (A:={c:=20}) (n:=161) (Nat.le_refl _) ho (kuB _ _ e n pl _) ⟨_,rfl,rfl,rfl⟩
  ·exact Zy (A:={c:=20}) (n:=161) (Nat.le_refl _) ho (kuC _ _ e n g pl _) ⟨_,rfl,rfl,rfl⟩
 obtain ⟨lv,pl',e,rfl,rfl⟩:=main
 exact e
theorem Z7E:∀ n,n<=9->One (lab n):=fun O U=>match O,U with
 |0,O=>⟨48,by kernel_rfl⟩
 |1,O=>⟨49,by kernel_rfl⟩
 |2,O=>⟨50,by kernel_rfl⟩
 |3,O=>⟨51,by kernel_rfl⟩
 |4,O=>⟨52,by kernel_rfl⟩
 |5,O=>⟨53,by kernel_rfl⟩
 |6,O=>⟨54,by kernel_rfl⟩
 |7,O=>⟨55,by kernel_rfl⟩
 |8,O=>⟨56,by kernel_rfl⟩
 |9,O=>⟨57,by kernel_rfl⟩
 |n+10,h=>absurd h (by lia)
theorem Z0y:One "p":=⟨112,by kernel_rfl⟩
theorem Z2S:One "q":=⟨113,by kernel_rfl⟩
theorem Zc0:One "1":=⟨49,by kernel_rfl⟩
theorem Z8S:One "2":=⟨50,by kernel_rfl⟩
theorem Z9Z{ls}(h:Tx ls):∀ t∈ls,One t:=by
 intro t ht
 cases h<;>simp only[List.mem_cons,List.not_mem_nil,or_false] at ht
 ·rw[ht];exact Z0y
 ·rcases ht with h|h<;>rw[h];exact Z0y;exact Z8S
 ·rcases ht with h|h|h<;>rw[h];exact Z0y;exact Z8S;exact Z2S
 ·rw[ht];exact Z2S
 ·rcases ht with h|h<;>rw[h];exact Z2S;exact Z0y
 ·rcases ht with h|h|h<;>rw[h];exact Z2S;exact Z0y;exact Zc0
theorem Z7F{T}{s}(hs:s.ok)(hT:T+s.tall<=9):∀ t∈seg T s,One t:=by
 induction s with
 |cn t=>
  intro x hx
  obtain ⟨j,hj,rfl⟩:=List.mem_map.mp hx
  have:=List.mem_range.mp hj
  have hT:T+t<=9:=hT
  exact Z7E _ (by lia)
 |tx ls=>exact Z9Z hs
noncomputable def ZH(gs:List G)(a:L3):L3:=gs.foldl (fun a g=>fJ a g.sd) a
theorem KL:∀ (gs:List G) (a:L3),(∀ g∈gs,g.sd.ok)->a.1+3*gs.length<=9->a.2.2.length=a.1->(∀ t∈a.2.2,One t) ->
  (ZH gs a).2.2.length=(ZH gs a).1/\(ZH gs a).1<=9/\(∀ t∈(ZH gs a).2.2,One t)/\(ZH gs a).2.1=(a.2.1&&gs.all fun g=>g.sd.isN)/\a.1<=(ZH gs a).1/\((gs.all fun g=>g.sd.isN)=false->a.1 < (ZH gs a).1)/\((ZH gs a).1:Int)=(a.1:Int)+(gs.map fun g=>((g.sd.tall:Nat):Int)).sum:=fun O U V O1 O2 O3=>match O,U,V,O1,O2,O3 with
 |[],a,O,h2,h3,h4=>⟨h3,by show a.1<=9;rw[List.length_nil] at h2;omega,h4,(Bool.and_true _).symm,Nat.le_refl _,nofun,by show (a.1:Int)=a.1+0;lia⟩
 |g::gs,a,h1,h2,h3,h4=>by
  have hg:=h1 g List.mem_cons_self
  have ht:=V8 hg
  rw[List.length_cons] at h2
  have hT:a.1+g.sd.tall<=9:=by lia
  obtain ⟨k1,k2,k3,k4,k5,k6,k7⟩:=KL gs (fJ a g.sd) (fun x hx=>h1 x (List.mem_cons_of_mem _ hx)) (by show a.1+g.sd.tall+_<=9;lia) (by show (a.2.2++seg a.1 g.sd).length=a.1+g.sd.tall;rw[List.length_append,V9,h3]) (fun t ht=>by
   rcases List.mem_append.mp (show t∈a.2.2++seg a.1 g.sd from ht) with h|h
   ·exact h4 t h
   ·exact Z7F hg hT t h)
  have e1:(fJ a g.sd).1=a.1+g.sd.tall:=rfl
  rw[e1] at k5 k6 k7
  refine ⟨k1,k2,k3,?_,by show a.1<=(ZH gs (fJ a g.sd)).1;lia,fun h=>?_,?_⟩
  ·show (ZH gs (fJ a g.sd)).2.1=_
   rw[k4]
   show ((a.2.1&&g.sd.isN)&&_)=_
   simp only[List.all_cons,Bool.and_assoc]
  ·show a.1 < (ZH gs (fJ a g.sd)).1
   rw[List.all_cons] at h
   cases hn:g.sd.isN with
   |true=>rw[hn,Bool.true_and] at h;have:=k6 h;lia
   |false=>
    have:1<=g.sd.tall:=by
     generalize g.sd=sd at hn hg
     induction sd with
     |cn t=>cases hn
     |tx ls=>exact (Vv hg).1
    lia
  ·show ((ZH gs (fJ a g.sd)).1:Int)=_
   simp only[k7,List.map_cons,List.sum_cons]
   push_cast
   lia
noncomputable abbrev Zd0(F:D)(T:Nat)(b:Bool)(ts:List D)(df c:D):Zc:=[("frames",.fr F),("total",.fr (.int T)),("plain",.fr (.bool b)),("texts",.fr (.list ts)),("df",.fr df),("count",.fr c)]
theorem Zd1(F)(pl)(Q):Q .next ⟨jl0 F 0 true [],[],[],pl⟩=(W {c:=20} 161).exs ((Za 94).take 3) ⟨[("frames",.fr F)],[],[],pl⟩ Q:=by kernel_rfl
theorem Zd2(xs)(pl)(Q):wpO (ZJ ((itp 120).exs (sB 94 567)) (sT 94 567) xs ⟨jl0 (.list xs) 0 true [],[],[],pl⟩) (nx Q)=(W {c:=120,L:=[567]} 61).exs (((Za 94).drop 3).take 1) ⟨jl0 (.list xs) 0 true [],[],[],pl⟩ Q:=by kernel_rfl
theorem Zd3(F:D)(T:Nat)(ts:List D)(d c:D)(pl:Option Z8)(Q:Fl->St->Prop) :
  (Ze (blt (Str.ofString "range") [.int 1,.int ((T:Int)+1)]) fun v=>Ze (blt (Str.ofString "list") [v.d]) fun v2=>Ze (blt (Str.ofString "list") [v2.d]) fun v3=>Q (.ret (.ov (.str "integer") v3.d .none false)) ⟨jl2 F T true ts d c,[],[],pl⟩) =
  (W {c:=20} 161).exs ((Za 94).drop 4) ⟨jl2 F T true ts d c,[],[],pl⟩ Q:=by kernel_rfl
theorem Zd4(F)(T)(ts us)(d c)(pl)(Q) :
  ((itp 200).call 75 [.list ts,.str "."] pl=.ok (.ol us) pl/\Q (.ret (.ov (.str "character") (.list us) .none false)) ⟨Zd0 F T false ts d c,[],[],pl⟩) =
  (W {c:=200,S:=fun i O=>if i=75 then some (.ol us) else none} 60).exs ((Za 94).drop 4) ⟨jl2 F T false ts d c,[],[],pl⟩ Q:=by kernel_rfl
theorem Uy{n:Nat}(h:n<=1000):blt (Str.ofString "range") [.int 1,.int ((n:Int)+1)]=some (.fr (.rng 1 ((n:Int)+1))):=by
 have hL:1001 < LIM:=by decide
 show (if (1:Int).natAbs < LIM/\((n:Int)+1).natAbs < LIM then some (LV.fr (.rng 1 ((n:Int)+1))) else none)=_
 rw[if_pos ⟨by decide,by lia⟩]
theorem JP{n}(h:n<=1000):blt (Str.ofString "list") [.rng 1 ((n:Int)+1)]=some (.ol (Zi 1 ((n:Int)+1))):=by
 have hL:1001 < LIM:=by decide
 show (if ((n:Int)+1) - 1<=LIM then some (LV.ol (Zi 1 ((n:Int)+1))) else none)=_
 rw[if_pos (by lia)]
noncomputable def Z0z(gs:List G):LV:=if (gs.all fun g=>g.sd.isN)=true then .ov (.str "integer") (.list (Zi 1 (((ZH gs (0,true,[])).1:Int)+1))) .none false
 else .ov (.str "character") (.list (sD (uqG [] (ZH gs (0,true,[])).2.2))) .none false
theorem L94(gs)(h0:gs≠[])(hg:∀ g∈gs,g.sd.ok)(hn:gs.length<=3)(pl):(itp 262).call 94 [.list (gs.map fun g=>g.fr.val)] pl=.ok (Z0z gs) pl:=by
 obtain ⟨f1,f2,f3,f4,O,f6,O⟩:=KL gs (0,true,[]) hg (by show 0+3*gs.length<=9;lia) rfl (fun t h=>by cases h)
 rw[Bool.true_and] at f4
 have main:∃ lv pl',(itp 262).call 94 [.list (gs.map fun g=>g.fr.val)] pl=.ok lv pl'/\(lv=Z0z gs/\pl'=pl):=by
  refine YW (k:=261) (vs:=[("frames",.fr (.list (gs.map fun g=>g.fr.val)))]) (by kernel_rfl) (by kernel_rfl) (by kernel_rfl) ?_
  refine Zs ((Zr (by decide:260<=261)).exs _ _) ?_
  generalize ho:(itp (259+1)).exs ((Za 94).take 3) ⟨[("frames",.fr (.list (gs.map fun g=>g.fr.val)))],[],[],pl⟩=o
  refine Yh (k:=259) 3 ho ?_
  have e1:wpO o fun f τ=>f=.next/\τ=⟨jl0 (.list (gs.map fun g=>g.fr.val)) 0 true [],[],[],pl⟩:=by
   have h:=Zj (A:={c:=20}) (n:=161) (Nat.le_refl _) (Zd1 (.list (gs.map fun g=>g.fr.val)) pl (fun f τ=>f=.next/\τ=⟨jl0 (.list (gs.map fun g=>g.fr.val)) 0 true [],[],[],pl⟩)) ⟨rfl,rfl⟩
   rw[<-ho]
   exact Zs ((Zr (by decide:181<=260)).exs _ _) h
  refine Z0 e1 fun f τ q=>⟨fun O o ho=>?_,fun h=>absurd q.1 h⟩
  obtain ⟨O,rfl⟩:=q
  subst ho
  generalize ho:(itp (259+1)).exs (((Za 94).drop 3).take 1) ⟨jl0 (.list (gs.map fun g=>g.fr.val)) 0 true [],[],[],pl⟩=o
  refine Yh (k:=259) 1 ho ?_
  have e2:wpO o fun f τ=>f=.next/\∃ d c,τ=⟨jl2 (.list (gs.map fun g=>g.fr.val)) (ZH gs (0,true,[])).1 (ZH gs (0,true,[])).2.1 (sD (ZH gs (0,true,[])).2.2) d c,[],[],pl⟩:=by
   have h:=Zj (A:={c:=120,L:=[567]}) (n:=61) (Nat.le_of_ble_eq_true rfl) (Zd2 (gs.map fun g=>g.fr.val) pl (fun f τ=>f=.next/\∃ d c,τ=⟨jl2 (.list (gs.map fun g=>g.fr.val)) (ZH gs (0,true,[])).1 (ZH gs (0,true,[])).2.1 (sD (ZH gs (0,true,[])).2.2) d c,[],[],pl⟩))
    (Yq (R:=fun O τ=>Jjl _ pl (!gs.isEmpty,gs.foldl (fun a g=>fJ a g.sd) (0,true,[])) τ) (Z7t (.list (gs.map fun g=>g.fr.val)) pl gs hg hn _ rfl) fun τ hτ=>⟨rfl,by
     induction gs with
     |nil=>exact absurd rfl h0
     |cons g gs=>exact hτ⟩)
   rw[<-ho]
   exact Zs ((Zr (by decide:181<=260)).exs _ _) h
  refine Z0 e2 fun f τ q=>⟨fun O o ho=>?_,fun h=>absurd q.1 h⟩
  obtain ⟨O,d,c,rfl⟩:=q
  have e4:∀ l:List Stmt,(l.drop 3).drop 1=l.drop 4:=fun l=>by rw[List.drop_drop]
  rw[e4] at ho
  unfold Z0z
  rw[f4] at ho
  cases hb:gs.all fun g=>g.sd.isN with
  |true=>
   rw[hb] at ho
   have h:=Zj (A:={c:=20}) (n:=161) (Nat.le_refl _) (Zd3 (.list (gs.map fun g=>g.fr.val)) (ZH gs (0,true,[])).1 (sD (ZH gs (0,true,[])).2.2) d c pl (fun f σ=>∃ lv,f=Fl.ret lv/\(lv=LV.ov (.str "integer") (.list (Zi 1 (((ZH gs (0,true,[])).1:Int)+1))) .none false/\σ.pl=pl))) (by
    rw[Uy (by lia)]
    show Ze (blt (Str.ofString "list") [.rng 1 (((ZH gs (0,true,[])).1:Int)+1)]) _
    rw[JP (by lia)]
    exact ⟨_,rfl,rfl,rfl⟩)
   rw[<-ho,if_pos rfl]
   exact Zs ((Zr (by decide:181<=260)).exs _ _) h
  |false=>
   rw[hb] at ho
   have f6:=f6 hb
   have hne:(ZH gs (0,true,[])).2.2≠[]:=fun h=>by rw[h] at f1;have:(0:Nat) < (ZH gs (0,true,[])).1:=f6;rw[<-f1] at this;exact absurd this (Nat.lt_irrefl 0)
   have h75:=Zg (by decide:182<=200) (L75 (ZH gs (0,true,[])).2.2 hne f3 (by lia) pl)
   have h:=Zj (A:={c:=200,S:=fun i O=>if i=75 then some (.ol (sD (uqG [] (ZH gs (0,true,[])).2.2))) else none}) (n:=60) (Nat.le_of_ble_eq_true rfl) (Zd4 (.list (gs.map fun g=>g.fr.val)) (ZH gs (0,true,[])).1 (sD (ZH gs (0,true,[])).2.2) (sD (uqG [] (ZH gs (0,true,[])).2.2)) d c pl (fun f σ=>∃ lv,f=Fl.ret lv/\(lv=LV.ov (.str "character") (.list (sD (uqG [] (ZH gs (0,true,[])).2.2))) .none false/\σ.pl=pl))) ⟨h75,_,rfl,rfl,rfl⟩
   rw[<-ho,if_neg (by decide)]
   exact h
 obtain ⟨lv,pl',e,rfl,rfl⟩:=main
 exact e
noncomputable def Z2T(gs:List G):Int:=(gs.map fun g=>((g.sd.tall:Nat):Int)).sum
abbrev Z8T(gs:List G)(R:LV)(pl:Option Z8):Prop:=
 Ze (blt (Str.ofString "range") [.int 1,.int (Z2T gs+1)]) fun v=>Ze (blt (Str.ofString "list") [v.d]) fun v2=>Zt R pl v2 pl
@[elab_as_elim] theorem Gn{P:G->Prop}(f:∀ n c t,P ⟨n,c,.cn t⟩)(g:G)(h:g.sd.isN=true):P g:=by
 obtain ⟨n,c,sd⟩:=g
 induction sd with
 |cn t=>exact f n c t
 |tx=>exact Z4 h
@[elab_as_elim] theorem Gc{P:G->Prop}(f:∀ n c t,P ⟨n,c,.cn t⟩)(k:∀ n c t,P ⟨n,c,.tx t⟩)(g:G):P g:=by
 obtain ⟨n,c,sd⟩:=g
 induction sd with
 |cn t=>exact f n c t
 |tx t=>exact k n c t
theorem Zc1(R)(pl):∀ gs:List G,gs≠[]->gs.length<=3->(gs.all fun g=>g.sd.isN)=true ->
  Z8T gs R pl=(W {c:=20} 60).call 108 [.list (gs.map G.raw)] pl (Zt R pl):=by
 intro gs h0 hl hN
 revert hN
 refine Xk ?_ ?_ ?_ gs ⟨List.length_pos_iff.mpr h0,hl⟩
 ·exact fun a h=>Gn (fun O O O=>by kernel_rfl) a (b2 h).1
 ·exact fun a b h=>Gn (fun O O O=>Gn (fun O O O=>by kernel_rfl) b (b2 (b2 h).2).1) a (b2 h).1
 ·exact fun a b c h=>Gn (fun O O O=>Gn (fun O O O=>Gn (fun O O O=>by kernel_rfl) c (b2 (b2 (b2 h).2).2).1) b (b2 (b2 h).2).1) a (b2 h).1
noncomputable abbrev Zc2(F:D)(ts:List D):Nat->Option (St->List D->List ((Nat->D)->St)):=fun l=>if l=689 then some fun σ O=>[fun g=>⟨ll0 F ts (g 0) (g 1) (g 2),[],[],σ.pl⟩,fun g=>⟨ll1 F ts (g 0) (g 1) (g 2) (g 3),[],[],σ.pl⟩] else none
abbrev Zc3(gs:List G)(ts us:List D)(R:LV)(pl:Option Z8):Prop:=
 wpO (ZJ ((itp 200).exs (sB 108 689)) (sT 108 689) (gs.map G.raw) ⟨[("frames",.fr (.list (gs.map G.raw))),("texts",.ol [])],[],[],pl⟩) (fun g τ=>g=.next/\Wb τ [fun g=>⟨ll0 (.list (gs.map G.raw)) ts (g 0) (g 1) (g 2),[],[],pl⟩,fun g=>⟨ll1 (.list (gs.map G.raw)) ts (g 0) (g 1) (g 2) (g 3),[],[],pl⟩]) /\
 (∀ O:Nat->D,(itp 200).call 107 [.list ts] pl=.ok (.ol us) pl/\Zt R pl (.ol us) pl)/\(∀ O:Nat->D,(itp 200).call 107 [.list ts] pl=.ok (.ol us) pl/\Zt R pl (.ol us) pl)/\True
theorem Zc4(ts us)(R)(pl):∀ gs:List G,gs.length<=3->(gs.all fun g=>g.sd.isN)=false ->
  Zc3 gs ts us R pl=(W {c:=200,S:=fun i O=>if i=107 then some (.ol us) else none,F:=Zc2 (.list (gs.map G.raw)) ts} 60).call 108 [.list (gs.map G.raw)] pl (Zt R pl):=by
 intro gs hl hN
 induction gs with
 |nil=>exact nomatch hN
 |cons g gs=>
  revert hN
  refine Xk ?_ ?_ ?_ (g::gs) ⟨Nat.succ_le_succ (Nat.zero_le _),hl⟩
  ·exact fun a=>Gc (fun O O O h=>nomatch h) (fun O O O O=>by kernel_rfl) a
  ·exact fun a b=>Gc (fun O O O=>Gc (fun O O O h=>nomatch h) (fun O O O O=>by kernel_rfl) b) (fun O O O=>Gc (fun O O O O=>by kernel_rfl) (fun O O O O=>by kernel_rfl) b) a
  ·exact fun a b c=>Gc (fun O O O=>Gc (fun O O O=>Gc (fun O O O h=>nomatch h) (fun O O O O=>by kernel_rfl) c) (fun O O O=>Gc (fun O O O O=>by kernel_rfl) (fun O O O O=>by kernel_rfl) c) b) (fun O O O=>Gc (fun O O O=>Gc (fun O O O O=>by kernel_rfl) (fun O O O O=>by kernel_rfl) c) (fun O O O=>Gc (fun O O O O=>by kernel_rfl) (fun O O O O=>by kernel_rfl) c) b) a
noncomputable def Vd(gs:List G):List D:=if (gs.all fun g=>g.sd.isN)=true then Zi 1 (((ZH gs (0,true,[])).1:Int)+1)
 else sD (uqG [] (ZH gs (0,true,[])).2.2)
theorem Z5E(gs):∃ k,Z0z gs=.ov k (.list (Vd gs)) .none false:=by
 unfold Z0z Vd
 split
 ·exact ⟨_,rfl⟩
 ·exact ⟨_,rfl⟩
theorem Zd5(gs)(h0:gs≠[])(hg:∀ g∈gs,g.sd.ok)(hn:gs.length<=3)(pl):(itp 260).call 108 [.list (gs.map G.raw)] pl=.ok (.ol (Vd gs)) pl:=by
 obtain ⟨f1,f2,f3,f4,O,f6,f7⟩:=KL gs (0,true,[]) hg (by show 0+3*gs.length<=9;lia) rfl (fun t h=>by cases h)
 have f7:((ZH gs (0,true,[])).1:Int)=0+Z2T gs:=f7
 rw[Int.zero_add] at f7
 unfold Vd
 cases hb:gs.all fun g=>g.sd.isN with
 |true=>
  rw[if_pos rfl]
  refine Zg (m:=80) (by decide) (ZX (A:={c:=20}) (n:=60) (Nat.le_refl _) (Zc1 _ pl gs h0 hn hb) ?_)
  unfold Z8T
  rw[<-f7,Uy (by lia)]
  show Ze (blt (Str.ofString "list") [.rng 1 (((ZH gs (0,true,[])).1:Int)+1)]) _
  rw[JP (by lia)]
  exact ⟨rfl,rfl⟩
 |false=>
  rw[if_neg (by decide)]
  have h107:=Zg (by decide:182<=200) (ZcZ (ZH gs (0,true,[])).2.2 f3 (by lia) pl)
  have run:=Z7v (.list (gs.map G.raw)) pl gs hg hn ⟨[("frames",.fr (.list (gs.map G.raw))),("texts",.ol [])],[],[],pl⟩ rfl
  refine ZX (A:={c:=200,S:=_,F:=Zc2 (.list (gs.map G.raw)) (sD (ZH gs (0,true,[])).2.2)}) (n:=60) (Nat.le_of_ble_eq_true rfl) (Zc4 (sD (ZH gs (0,true,[])).2.2) _ _ pl gs hn hb) ⟨Zs (XO (Zr (by decide:80<=200)) ((Zr (by decide:80<=200)).exs _) _ _ _) (Z0 run fun g τ q=>⟨q.1,?_⟩),fun O=>⟨h107,rfl,rfl⟩,fun O=>⟨h107,rfl,rfl⟩,trivial⟩
  have hτ:=q.2
  induction gs with
  |nil=>exact absurd rfl h0
  |cons g gs=>
   rcases hτ with ⟨n,c,s,e⟩|⟨n,c,s,st,e⟩
   ·exact .inl ⟨Z3u n c s s,e⟩
   ·exact .inr (.inl ⟨Z3u n c s st,e⟩)
inductive Wg:D->Int->Int->Int->Int->Prop
 |a:Wg (.tup [.int 3,.int 1]) 1 1 0 0
 |b:Wg (.tup [.int 7,.int 1]) 1 1 0 0
 |c:Wg (.tup [.int 12,.int 1]) 2 2 1 0
 |d:Wg (.tup [.int 0,.int 1]) 1 1 0 0
 |e:Wg (.tup [.int (-4),.int 1]) 1 2 0 1
theorem L23{x}{c l e m}(h:Wg x c l e m)(pl):(itp 80).call 23 [x,.int 15] pl=.ok (.fr (.tup [.int c,.int l,.int 0,.int e])) pl:=by
 cases h<;>exact Yi 60 (by kernel_rfl)
noncomputable abbrev cf0(X:List D)(c l m:Int):Zc:=[("xs",.fr (.list X)),("digits",.fr (.int 15)),("count",.fr (.int c)),("left",.fr (.int l)),("places",.fr (.int 0)),("wide",.fr (.int 0)),("minus",.fr (.int m))]
noncomputable abbrev cf1(X:List D)(c l m:Int)(x:D):Zc:=[("xs",.fr (.list X)),("digits",.fr (.int 15)),("count",.fr (.int c)),("left",.fr (.int l)),("places",.fr (.int 0)),("wide",.fr (.int 0)),("minus",.fr (.int m)),("x",.fr x)]
noncomputable abbrev cf2(X:List D)(c l m:Int)(x r:D):Zc:=[("xs",.fr (.list X)),("digits",.fr (.int 15)),("count",.fr (.int c)),("left",.fr (.int l)),("places",.fr (.int 0)),("wide",.fr (.int 0)),("minus",.fr (.int m)),("x",.fr x),("row",.fr r)]
def Bd(c l m:Int):Prop:=(c=1\/c=2)/\(l=1\/l=2)/\(m=0\/m=1)
def Jcf(X:List D)(pl:Option Z8)(σ:St):Prop:=∃ c l m,Bd c l m/\(σ=⟨cf0 X c l m,[],[],pl⟩\/∃ x r,σ=⟨cf2 X c l m x r,[],[],pl⟩)
theorem Zd6(X)(c l m)(pl)(Q){x}{c' l' e' m'}(h:Wg x c' l' e' m') :
  ((itp 80).call 23 [x,.int 15] pl=.ok (.fr (.tup [.int c',.int l',.int 0,.int e'])) pl/\Q .next ⟨cf2 X (if c < c' then c' else c) (if l < l' then l' else l) (if m'=1 then 1 else m) x (.tup [.int c',.int l',.int 0,.int e']),[],[],pl⟩) =
  (W {c:=80,S:=fun i O=>if i=23 then some (.fr (.tup [.int c',.int l',.int 0,.int e'])) else none} 40).exs (sB 24 124) ⟨cf1 X c l m x,[],[],pl⟩ Q:=by
 cases h<;>kernel_rfl
theorem Zd7(X)(c l m)(r)(pl)(Q){x}{c' l' e' m'}(h:Wg x c' l' e' m') :
  ((itp 80).call 23 [x,.int 15] pl=.ok (.fr (.tup [.int c',.int l',.int 0,.int e'])) pl/\Q .next ⟨cf2 X (if c < c' then c' else c) (if l < l' then l' else l) (if m'=1 then 1 else m) x (.tup [.int c',.int l',.int 0,.int e']),[],[],pl⟩) =
  (W {c:=80,S:=fun i O=>if i=23 then some (.fr (.tup [.int c',.int l',.int 0,.int e'])) else none} 40).exs (sB 24 124) ⟨cf2 X c l m x r,[],[],pl⟩ Q:=by
 cases h<;>kernel_rfl
theorem Z7G(X)(pl)(ds)(hd:∀ d∈ds,∃ c l e m,Wg d c l e m)(σ)(h:Jcf X pl σ) :
  wpO (ZJ ((itp 120).exs (sB 24 124)) (sT 24 124) ds σ) fun g τ=>g=.next/\Jcf X pl τ:=by
 have k:=ZG (α:=Unit) (β:=D) (body:=(itp 120).exs (sB 24 124)) (t:=sT 24 124) id (fun O=>Jcf X pl) (fun O O=>()) (fun O ds=>∀ d∈ds,∃ c l e m,Wg d c l e m) (fun O d ds σ ok h=>?_) ds () σ hd h
 ·rw[List.map_id] at k;exact k
 ·refine ⟨fun x hx=>ok x (List.mem_cons_of_mem _ hx),?_⟩
  obtain ⟨c',l',e',m',hd⟩:=ok d List.mem_cons_self
  obtain ⟨c,l,m,hb,hσ⟩:=h
  have fin:Jcf X pl ⟨cf2 X (if c < c' then c' else c) (if l < l' then l' else l) (if m'=1 then 1 else m) d (.tup [.int c',.int l',.int 0,.int e']),[],[],pl⟩:=by
   refine ⟨_,_,_,?_,.inr ⟨_,_,rfl⟩⟩
   obtain ⟨h1,h2,h3⟩:=hb
   have hc':c'=1\/c'=2:=by cases hd<;>lia
   have hl':l'=1\/l'=2:=by cases hd<;>lia
   refine ⟨?_,?_,?_⟩
   ·split<;>assumption
   ·split<;>assumption
   ·split
    ·exact .inr rfl
    ·exact h3
  rcases hσ with rfl|⟨x,r,rfl⟩
  ·rw[show Zl (sT 24 124) (id d) ⟨cf0 X c l m,[],[],pl⟩=.ok () ⟨cf1 X c l m d,[],[],pl⟩ by kernel_rfl]
   refine ZF ?_
   generalize ho:(itp 120).exs (sB 24 124) ⟨cf1 X c l m d,[],[],pl⟩=o
   exact Zy (A:={c:=80,S:=_}) (n:=40) (Nat.le_of_ble_eq_true rfl) ho (Zd6 X c l m pl _ hd) ⟨L23 hd pl,.inl rfl,fin⟩
  ·rw[show Zl (sT 24 124) (id d) ⟨cf2 X c l m x r,[],[],pl⟩=.ok () ⟨cf2 X c l m d r,[],[],pl⟩ by kernel_rfl]
   refine ZF ?_
   generalize ho:(itp 120).exs (sB 24 124) ⟨cf2 X c l m d r,[],[],pl⟩=o
   exact Zy (A:={c:=80,S:=_}) (n:=40) (Nat.le_of_ble_eq_true rfl) ho (Zd7 X c l m r pl _ hd) ⟨L23 hd pl,.inl rfl,fin⟩
theorem Zd8(X)(pl)(Q):Q .next ⟨cf0 X 1 1 0,[],[],pl⟩=(W {c:=20} 161).exs ((Za 24).take 5) ⟨[("xs",.fr (.list X)),("digits",.fr (.int 15))],[],[],pl⟩ Q:=by kernel_rfl
theorem Zd9(X)(c l m)(pl)(Q):wpO (ZJ ((itp 120).exs (sB 24 124)) (sT 24 124) X ⟨cf0 X c l m,[],[],pl⟩) (nx Q)=(W {c:=120,L:=[124]} 61).exs (((Za 24).drop 5).take 1) ⟨cf0 X c l m,[],[],pl⟩ Q:=by kernel_rfl
theorem Zda(X)(c l m)(hb:Bd c l m)(pl):wpO ((itp 181).exs ((Za 24).drop 6) ⟨cf0 X c l m,[],[],pl⟩) fun f σ=>∃ lv,f=.ret lv/\(lv=.fr (.tup [.str "fixed",.int 0])/\σ.pl=pl):=by
 obtain ⟨rfl|rfl,rfl|rfl,rfl|rfl⟩:=hb<;>exact Zj (A:={c:=20}) (n:=161) (P:=∃ lv,Fl.ret (.fr (.tup [.str "fixed",.int 0]))=.ret lv/\(lv=.fr (.tup [.str "fixed",.int 0])/\pl=pl)) (Nat.le_refl _) (by kernel_rfl) ⟨_,rfl,rfl,rfl⟩
theorem Zdb(X)(c l m)(x r)(hb:Bd c l m)(pl):wpO ((itp 181).exs ((Za 24).drop 6) ⟨cf2 X c l m x r,[],[],pl⟩) fun f σ=>∃ lv,f=.ret lv/\(lv=.fr (.tup [.str "fixed",.int 0])/\σ.pl=pl):=by
 obtain ⟨rfl|rfl,rfl|rfl,rfl|rfl⟩:=hb<;>exact Zj (A:={c:=20}) (n:=161) (P:=∃ lv,Fl.ret (.fr (.tup [.str "fixed",.int 0]))=.ret lv/\(lv=.fr (.tup [.str "fixed",.int 0])/\pl=pl)) (Nat.le_refl _) (by kernel_rfl) ⟨_,rfl,rfl,rfl⟩
theorem L24(X)(hX:∀ d∈X,∃ c l e m,Wg d c l e m)(pl):(itp 182).call 24 [.list X,.int 15] pl=.ok (.fr (.tup [.str "fixed",.int 0])) pl:=by
 have main:∃ lv pl',(itp 182).call 24 [.list X,.int 15] pl=.ok lv pl'/\(lv=.fr (.tup [.str "fixed",.int 0])/\pl'=pl):=by
  refine YW (k:=181) (vs:=[("xs",.fr (.list X)),("digits",.fr (.int 15))]) (by kernel_rfl) (by kernel_rfl) (by kernel_rfl) ?_
  generalize ho:(itp (180+1)).exs ((Za 24).take 5) ⟨[("xs",.fr (.list X)),("digits",.fr (.int 15))],[],[],pl⟩=o
  refine Yh (k:=180) 5 ho (Zy (A:={c:=20}) (n:=161) (Nat.le_refl _) ho (Zd8 X pl _) ⟨fun O o ho=>?_,fun h=>absurd rfl h⟩)
  subst ho
  generalize ho:(itp (180+1)).exs (((Za 24).drop 5).take 1) ⟨cf0 X 1 1 0,[],[],pl⟩=o
  refine Yh (k:=180) 1 ho (Zy (A:={c:=120,L:=[124]}) (n:=61) (Nat.le_of_ble_eq_true rfl) ho (Zd9 X 1 1 0 pl _) ?_)
  refine Yq (R:=fun O τ=>Jcf X pl τ) (Z7G X pl X hX _ ⟨1,1,0,⟨.inl rfl,.inl rfl,.inl rfl⟩,.inl rfl⟩) fun τ hτ=>⟨fun O o ho=>?_,fun h=>absurd rfl h⟩
  have e6:∀ l:List Stmt,(l.drop 5).drop 1=l.drop 6:=fun l=>by rw[List.drop_drop]
  rw[e6] at ho
  subst ho
  obtain ⟨c,l,m,hb,rfl|⟨x,r,rfl⟩⟩:=hτ
  ·exact Zda X c l m hb pl
  ·exact Zdb X c l m x r hb pl
 obtain ⟨lv,pl',e,rfl,rfl⟩:=main
 exact e
theorem WU{k}{t elt}{ifs}(J:St->Prop)(p:D->Bool):∀ (xs:List D) (σ:St),(∀ d∈xs,∀ σ,J σ->wpO (Zl t d σ) fun O σ=>wpO (X9 (itp k) ifs σ) fun b σ=>b=p d/\(p d=true->wpO ((itp k).ev elt σ) fun r σ=>r.1.d=d/\J (Zo r σ))/\(p d=false->J σ))->J σ ->
  wpO (Zh (itp k) t ifs elt xs σ) fun ds σ=>ds=xs.filter p/\J σ:=fun O U V O1=>match O,U,V,O1 with
 |[],O,U,j=>⟨rfl,j⟩
 |d::xs,σ,h,j=>by
  refine XB (Z0 (h d List.mem_cons_self σ j) fun O σ h1=>Z0 h1 fun b σ h1=>⟨fun e=>?_,fun e=>?_⟩)
  ·have hp:p d=true:=h1.1.symm.trans e
   refine Z0 (h1.2.1 hp) fun r σ h2=>Z0 (WU J p xs _ (fun d hd=>h d (List.mem_cons_of_mem _ hd)) h2.2) fun ds σ h3=>?_
   exact ⟨by rw[List.filter_cons,if_pos hp,h2.1,h3.1],h3.2⟩
  ·have hp:p d=false:=h1.1.symm.trans e
   refine Z0 (WU J p xs _ (fun d hd=>h d (List.mem_cons_of_mem _ hd)) (h1.2.2 hp)) fun ds σ h3=>?_
   exact ⟨by rw[List.filter_cons,if_neg (by rw[hp];decide),h3.1],h3.2⟩
noncomputable def WE:D->D:=fun O=>match O with
 |.int n=>.tup [.int n,.int 1]
 |d=>d
noncomputable def Z7H:D->Str:=fun O=>match O with
 |.int n=>Str.ofString (toString n)
 |O=>"NA"
noncomputable def VV(d:D):D:=.str (Z7H d)
noncomputable def VK:D->Bool:=fun O=>match O with
 |.tup O=>true
 |O=>false
noncomputable abbrev ct0(X:List D):Zc:=[("xs",.fr (.list X)),("digits",.fr (.int 15))]
noncomputable abbrev ct1(X F:List D):Zc:=[("xs",.fr (.list X)),("digits",.fr (.int 15)),("fractions",.fr (.list F)),("form",.fr (.tup [.str "fixed",.int 0]))]
theorem Z7I(xs:List D)(hx:∀ d∈xs,Yl d)(up:Zc)(pl:Option Z8) :
  wpO (Zh (itp 60) (cT 26 146) (cF 26 146) (cE 26 146) (xs.map WE) ⟨[],up,["x"],pl⟩) fun ds τ=>ds=(xs.map WE).filter VK/\τ.up=up/\τ.pl=pl:=by
 have k:=WU (k:=60) (t:=cT 26 146) (ifs:=cF 26 146) (elt:=cE 26 146) (fun σ=>σ=⟨[],up,["x"],pl⟩\/∃ d,σ=⟨[("x",.fr d)],up,["x"],pl⟩) VK (xs.map WE) ⟨[],up,["x"],pl⟩ (fun d hd σ hσ=>?_) (.inl rfl)
 ·refine Z0 k fun ds τ q=>⟨q.1,?_⟩
  rcases q.2 with rfl|⟨d,rfl⟩<;>exact ⟨rfl,rfl⟩
 ·have e:Zl (cT 26 146) d σ=.ok () ⟨[("x",.fr d)],up,["x"],pl⟩:=by
   rcases hσ with rfl|⟨d,rfl⟩<;>kernel_rfl
  rw[e]
  refine ZF ?_
  obtain ⟨d,hm,rfl⟩:=List.mem_map.mp hd
  have hd:=hx d hm
  have el:∀ x,wpO ((itp 60).ev (cE 26 146) ⟨[("x",.fr x)],up,["x"],pl⟩) fun r σ=>r.1.d=x/\(Zo r σ=⟨[],up,["x"],pl⟩\/∃ d,Zo r σ=⟨[("x",.fr d)],up,["x"],pl⟩):=fun x=>by
   refine Z0 (YI 40 (r:=(.fr x,none)) (σ':=⟨[("x",.fr x)],up,["x"],pl⟩) (by kernel_rfl)) fun r σ q=>?_
   obtain ⟨rfl,rfl⟩:=q
   exact ⟨rfl,.inr ⟨_,rfl⟩⟩
  have ifs:∀ (b:Bool) (x:D),((b=b/\(⟨[("x",.fr x)],up,["x"],pl⟩:St)=⟨[("x",.fr x)],up,["x"],pl⟩)=Z73 (W {c:=20} 40) (cF 26 146) ⟨[("x",.fr x)],up,["x"],pl⟩ fun b' τ=>b'=b/\τ=⟨[("x",.fr x)],up,["x"],pl⟩)->VK x=b ->
    wpO (X9 (itp 60) (cF 26 146) ⟨[("x",.fr x)],up,["x"],pl⟩) fun b σ=>b=VK x/\(VK x=true->wpO ((itp 60).ev (cE 26 146) σ) fun r σ=>r.1.d=x/\(Zo r σ=⟨[],up,["x"],pl⟩\/∃ d,Zo r σ=⟨[("x",.fr d)],up,["x"],pl⟩))/\(VK x=false->(σ=⟨[],up,["x"],pl⟩\/∃ d,σ=⟨[("x",.fr d)],up,["x"],pl⟩)):=fun b x h hb=>by
   refine Z0 (Z8Q (A:={c:=20}) (n:=40) (Nat.le_refl _) h ⟨rfl,rfl⟩) fun b' σ q=>?_
   obtain ⟨rfl,rfl⟩:=q
   exact ⟨hb.symm,fun O=>el x,fun O=>.inr ⟨_,rfl⟩⟩
  cases hd
  ·exact ifs false _ (by kernel_rfl) rfl
  all_goals exact ifs true _ (by kernel_rfl) rfl
theorem k26(X F R)(pl)(Z) :
  (wpO (Zh (itp 200) (cT 26 146) (cF 26 146) (cE 26 146) X ⟨[],ct0 X,["x"],pl⟩) (fun ds τ=>ds=F/\τ.up=ct0 X/\τ.pl=pl)/\F.length<=LIM/\(itp 200).call 24 [.list F,.int 15] pl=.ok (.fr (.tup [.str "fixed",.int 0])) pl /\
   wpO (Zh (itp 200) (cT 26 148) [] (cE 26 148) X ⟨[],ct1 X F,["x"],pl⟩) (fun ds τ=>ds=R/\τ.up=ct1 X F/\τ.pl=pl)/\R.length<=LIM/\Zt Z pl (.ol R) pl) =
  (W {c:=200,C:=fun l=>if l=146 then some fun up O=>(F,up) else if l=148 then some fun up O=>(R,up) else none,S:=fun i O=>if i=24 then some (.fr (.tup [.str "fixed",.int 0])) else none} 40).call 26 [.list X,.int 15] pl (Zt Z pl):=by kernel_rfl
theorem Z7J{d}(hd:Yl d)(X F)(pl):wpO ((itp 100).ev (cE 26 148) ⟨[("x",.fr (WE d))],ct1 X F,["x"],pl⟩) fun r σ=>r=(.fr (VV d),none)/\σ=⟨[("x",.fr (WE d))],ct1 X F,["x"],pl⟩:=by
 cases hd<;>exact YI 80 (by kernel_rfl)
theorem L26(xs:List D)(hx:∀ d∈xs,Yl d)(hl:xs.length<=10)(pl:Option Z8):(itp 240).call 26 [.list (xs.map WE),.int 15] pl=.ok (.ol (xs.map VV)) pl:=by
 have hlim:∀ n,n<=10->n<=LIM:=fun n h=>Nat.le_trans h (by decide)
 refine ZX (A:={c:=200,C:=_,S:=_}) (n:=40) (Nat.le_of_ble_eq_true rfl) (k26 (xs.map WE) ((xs.map WE).filter VK) (xs.map VV) pl _) ⟨Zs (Yj (Zr (by decide:60<=200)) _ _ _ _ _) (Z7I xs hx _ pl),hlim _ (Nat.le_trans (List.length_filter_le _ _) (by rw[List.length_map];exact hl)),Zg (by decide:182<=200) (L24 _ (fun d hd=>?_) pl),?_,hlim _ (by rw[List.length_map];exact hl),rfl,rfl⟩
 ·obtain ⟨h1,h2⟩:=List.mem_filter.mp hd
  obtain ⟨e,he,rfl⟩:=List.mem_map.mp h1
  have h3:=hx e he
  cases h3
  ·exact Z4 h2
  ·exact ⟨_,_,_,_,.a⟩
  ·exact ⟨_,_,_,_,.b⟩
  ·exact ⟨_,_,_,_,.c⟩
  ·exact ⟨_,_,_,_,.d⟩
  ·exact ⟨_,_,_,_,.e⟩
 ·refine Zs (Yj (Zr (by decide:100<=200)) _ _ _ _ _) ?_
  have e:xs.map VV=(xs.map WE).map (fun x=>match x with|.tup [.int n,O]=>VV (.int n)|O=>VV .none):=by
   rw[List.map_map]
   refine List.map_congr_left fun d hd=>?_
   have:=hx d hd
   cases this<;>rfl
  rw[e]
  refine Y5 (by kernel_rfl) (fun x=>match x with|.tup [.int n,O]=>VV (.int n)|O=>VV .none) (fun d hd=>?_) fun σ hu hp=>⟨rfl,hu,hp⟩
  obtain ⟨d,hm,rfl⟩:=List.mem_map.mp hd
  have hd:=hx d hm
  have k:=Z7J hd (xs.map WE) ((xs.map WE).filter VK) pl
  have e2:(match WE d with|.tup [.int n,O]=>VV (.int n)|O=>VV .none)=VV d:=by cases hd<;>rfl
  rw[e2]
  exact k
inductive Cl where
 |n
 |o (v:Int) (a:Nat)
 |t (v:Int) (a b:Nat)
noncomputable def Cl.cell:Cl->D:=fun O=>match O with
 |.n=>.none
 |.o v O=>.int v
 |.t v O U=>.int v
noncomputable def Cl.txt:Cl->Str:=fun O=>match O with
 |.n=>"NA"
 |.o O a=>⟨#[a]⟩
 |.t O a b=>⟨#[a,b]⟩
noncomputable def Cl.len:Cl->Int:=fun O=>match O with
 |.n=>2
 |.o O U=>1
 |.t O U V=>2
noncomputable def Cl.pad(w:Int):Cl->D:=fun O=>match O with
 |.n=>.none
 |.o O a=>.str (Txt.rjust ⟨#[a]⟩ w)
 |.t O a b=>.str (Txt.rjust ⟨#[a,b]⟩ w)
abbrev o96(cs:List Cl)(R:LV)(pl:Option Z8):Prop:=
 (itp 240).call 26 [.list (cs.map fun c=>WE c.cell),.int 15] pl=.ok (.ol (cs.map fun c=>.str c.txt)) pl/\Zt R pl (.ol (cs.map (Cl.pad (Xf 0 (cs.map Cl.len))))) pl
abbrev T96(R:LV)(pl:Option Z8)(cs:List Cl):Prop:=o96 cs R pl=(W {c:=240,S:=fun i O=>if i=26 then some (.ol (cs.map fun c=>.str c.txt)) else none} 60).call 96 [vI (cs.map Cl.cell)] pl (Zt R pl)
theorem k96(R)(pl)(cs)(h:cs.length<=3):T96 R pl cs:=by
 induction cs with
 |nil=>kernel_rfl
 |cons c cs=>exact Xk (P:=T96 R pl) (fun a=>by cases a<;>kernel_rfl) (fun a b=>by cases a<;>cases b<;>kernel_rfl) (fun a b c=>by cases a<;>cases b<;>cases c<;>kernel_rfl) (c::cs) ⟨Nat.succ_le_succ (Nat.zero_le _),h⟩
noncomputable def XR(d:D):Int:=((Z7H d).length:Nat)
noncomputable def Jh(w:Int)(d:D):D:=match d.i? with
 |some n=>.str (Txt.rjust (Z7H (.int n)) w)
 |none=>.none
noncomputable def Uz(xs:List D):Int:=Xf 0 (xs.map XR)
noncomputable def Jj:D->Cl:=fun O=>match O with
 |.int n=>if n=12 then .t 12 49 50 else if n=-4 then .t (-4) 45 52 else .o n (48+n.toNat)
 |O=>.n
theorem Z0A{d}(h:Yl d):(Jj d).cell=d/\(Jj d).txt=Z7H d/\(Jj d).len=XR d/\∀ w,(Jj d).pad w=Jh w d:=by
 cases h
 ·exact ⟨by kernel_rfl,by kernel_rfl,by kernel_rfl,fun w=>by kernel_rfl⟩
 ·exact ⟨by kernel_rfl,by kernel_rfl,by kernel_rfl,fun w=>by kernel_rfl⟩
 ·exact ⟨by kernel_rfl,by kernel_rfl,by kernel_rfl,fun w=>by kernel_rfl⟩
 ·exact ⟨by kernel_rfl,by kernel_rfl,by kernel_rfl,fun w=>by kernel_rfl⟩
 ·exact ⟨by kernel_rfl,by kernel_rfl,by kernel_rfl,fun w=>by kernel_rfl⟩
 ·exact ⟨by kernel_rfl,by kernel_rfl,by kernel_rfl,fun w=>by kernel_rfl⟩
theorem L96(xs)(hx:∀ d∈xs,Yl d)(hl:xs.length<=3)(pl):(itp 300).call 96 [vI xs] pl=.ok (.ol (xs.map (Jh (Uz xs)))) pl:=by
 have m1:(xs.map Jj).map Cl.cell=xs:=by
  rw[List.map_map];exact (List.map_congr_left fun d hd=>(Z0A (hx d hd)).1).trans (List.map_id _)
 have m2:(xs.map Jj).map (fun c=>WE c.cell)=xs.map WE:=by
  rw[List.map_map];exact List.map_congr_left fun d hd=>congrArg WE (Z0A (hx d hd)).1
 have m3:(xs.map Jj).map (fun c=>D.str c.txt)=xs.map VV:=by
  rw[List.map_map];exact List.map_congr_left fun d hd=>congrArg D.str (Z0A (hx d hd)).2.1
 have m4:(xs.map Jj).map Cl.len=xs.map XR:=by
  rw[List.map_map];exact List.map_congr_left fun d hd=>(Z0A (hx d hd)).2.2.1
 have m5:∀ w,(xs.map Jj).map (Cl.pad w)=xs.map (Jh w):=fun w=>by
  rw[List.map_map];exact List.map_congr_left fun d hd=>(Z0A (hx d hd)).2.2.2 w
 have k:=k96 (.ol (xs.map (Jh (Uz xs)))) pl (xs.map Jj) (by rw[List.length_map];exact hl)
 unfold T96 o96 at k
 rw[m1,m2,m3,m4,m5] at k
 exact ZX (A:={c:=240,S:=_}) (n:=60) (Nat.le_of_ble_eq_true rfl) k ⟨L26 xs hx (by lia) pl,rfl,rfl⟩
noncomputable def Col.mtx:Col->List D:=fun O=>match O with
 |.ci xs=>xs.map (Jh (Uz xs))
 |.cs xs=>xs
 |.cf O xs=>xs
def Col.three(c:Col):Prop:=c.ok/\c.items.length<=3
theorem Zdc(xs X)(R)(pl):((itp 300).call 96 [vI xs] pl=.ok (.ol X) pl/\Zt R pl (.ol X) pl)=(W {c:=300,S:=fun i O=>if i=96 then some (.ol X) else none} 40).call 97 [vI xs] pl (Zt R pl):=by kernel_rfl
theorem Zdd(xs X)(R)(pl):((itp 300).call 46 [vC xs] pl=.ok (.ol X) pl/\Zt R pl (.ol X) pl)=(W {c:=300,S:=fun i O=>if i=46 then some (.ol X) else none} 40).call 97 [vC xs] pl (Zt R pl):=by kernel_rfl
theorem Zde(xs lv X)(R)(pl):((itp 300).call 46 [vF lv xs] pl=.ok (.ol X) pl/\Zt R pl (.ol X) pl)=(W {c:=300,S:=fun i O=>if i=46 then some (.ol X) else none} 40).call 97 [vF lv xs] pl (Zt R pl):=by kernel_rfl
theorem L97{c:Col}(hc:c.three)(pl:Option Z8):(itp 340).call 97 [c.val] pl=.ok (.ol c.mtx) pl:=by
 have hl:c.items.length<=LIM:=Nat.le_trans hc.2 (by decide)
 have h46:=Zg (by decide:80<=300) (L46 hc.1 hl pl)
 induction c with
 |ci xs=>exact ZX (A:={c:=300,S:=_}) (n:=40) (Nat.le_of_ble_eq_true rfl) (Zdc xs _ _ pl) ⟨L96 xs hc.1 hc.2 pl,rfl,rfl⟩
 |cs xs=>exact ZX (A:={c:=300,S:=_}) (n:=40) (Nat.le_of_ble_eq_true rfl) (Zdd xs _ _ pl) ⟨h46,rfl,rfl⟩
 |cf lv xs=>exact ZX (A:={c:=300,S:=_}) (n:=40) (Nat.le_of_ble_eq_true rfl) (Zde _ lv _ _ pl) ⟨h46,rfl,rfl⟩
theorem L82(its rn)(pl):∀ nm:List Str,1<=nm.length/\nm.length<=3->(itp 80).call 82 [frV its (.list (sD nm)) rn] pl=.ok (.ol (sD nm)) pl:=fun O U=>match O,U with
 |[O],U=>Yi 60 (by kernel_rfl)
 |[O,U],V=>Yi 60 (by kernel_rfl)
 |[O,U,V],O1=>Yi 60 (by kernel_rfl)
 |[],h=>by simp at h
 |O::U::V::O1::O2,h=>by simp at h
theorem Za0(its nm)(pl):∀ ls:List Str,1<=ls.length/\ls.length<=3->(itp 80).call 81 [frV its nm (vC (sD ls))] pl=.ok (.fr (.int ((ls.length:Nat):Int))) pl:=fun O U=>match O,U with
 |[O],U=>Yi 60 (by kernel_rfl)
 |[O,U],V=>Yi 60 (by kernel_rfl)
 |[O,U,V],O1=>Yi 60 (by kernel_rfl)
 |[],h=>by simp at h
 |O::U::V::O1::O2,h=>by simp at h
theorem Za1(its nm)(pl):∀ t:Nat,t<=3->(itp 80).call 81 [frV its nm (Sd.cn t).rows] pl=.ok (.fr (.int ((t:Nat):Int))) pl:=fun O U=>match O,U with
 |0,O=>Yi 60 (by kernel_rfl)
 |1,O=>Yi 60 (by kernel_rfl)
 |2,O=>Yi 60 (by kernel_rfl)
 |3,O=>Yi 60 (by kernel_rfl)
 |n+4,h=>absurd h (by lia)
theorem L81(its nm:D)(pl:Option Z8)(s:Sd)(hs:s.ok):(itp 80).call 81 [frV its nm s.rows] pl=.ok (.fr (.int ((s.tall:Nat):Int))) pl:=by
 induction s with
 |cn t=>exact Za1 its nm pl t hs
 |tx ls=>exact Za0 its nm pl ls (Vv hs)
theorem Za2(its nm)(pl):∀ t:Nat,t<=3->(itp 80).call 84 [frV its nm (Sd.cn t).rows] pl=.ok (.fr (.bool true)) pl:=fun O U=>match O,U with
 |0,O=>Yi 60 (by kernel_rfl)
 |1,O=>Yi 60 (by kernel_rfl)
 |2,O=>Yi 60 (by kernel_rfl)
 |3,O=>Yi 60 (by kernel_rfl)
 |n+4,h=>absurd h (by lia)
theorem Za3(its nm)(ls)(pl):(itp 80).call 84 [frV its nm (vC ls)] pl=.ok (.fr (.bool false)) pl:=Yi 60 (by kernel_rfl)
theorem k83(its nm)(pl)(R):∀ ls:List Str,1<=ls.length/\ls.length<=3->((itp 80).call 46 [vC (sD ls)] pl=.ok (.ol (sD ls)) pl/\Zt R pl (.ol (sD ls)) pl)=(W {c:=80,S:=fun i O=>if i=46 then some (.ol (sD ls)) else none} 40).call 83 [frV its nm (vC (sD ls))] pl (Zt R pl):=fun O U=>match O,U with
 |[O],U=>by kernel_rfl
 |[O,U],V=>by kernel_rfl
 |[O,U,V],O1=>by kernel_rfl
 |[],h=>by simp at h
 |O::U::V::O1::O2,h=>by simp at h
theorem L83(its nm)(ls)(h:1<=ls.length/\ls.length<=3)(pl):(itp 120).call 83 [frV its nm (vC (sD ls))] pl=.ok (.ol (sD ls)) pl:=
 ZX (A:={c:=80,S:=_}) (n:=40) (Nat.le_of_ble_eq_true rfl) (k83 its nm pl _ ls h) ⟨Zg (by decide) (Z2I (sD ls) (by rw[ZT];exact Nat.le_trans h.2 (by decide)) pl),rfl,rfl⟩
noncomputable abbrev fm0(DF:D)(t:Int)(n:LV)(b:Bool)(k:Str)(acc:List D):Zc:=[("df",.fr DF),("rows",.fr (.int t)),("names",n),("texts",.fr (.bool b)),("kind",.fr (.str k)),("items",.ol acc)]
noncomputable abbrev fm1(DF:D)(t:Int)(n:LV)(b:Bool)(k:Str)(acc:List D)(c:D):Zc:=[("df",.fr DF),("rows",.fr (.int t)),("names",n),("texts",.fr (.bool b)),("kind",.fr (.str k)),("items",.ol acc),("column",.fr c)]
noncomputable def S99(t:Int)(p:Bool)(ls:List D):Nat->List D->Option LV:=fun i O=>if i=81 then some (.fr (.int t)) else if i=84 then some (.fr (.bool p)) else if i=83 then some (.ol ls) else none
noncomputable abbrev X1(cols:List Col)(nm rn:D):D:=frV (.list (cols.map Col.val)) nm rn
noncomputable abbrev ZR(cols:List Col):Bool:=!cols.all Col.isI
noncomputable abbrev kindOf(b:Bool):Str:=match b with
 |true=>"character"
 |false=>"integer"
abbrev Zdf(cols:List Col)(nm rn:D)(t:Int)(pl:Option Z8)(Q:Fl->St->Prop):Prop:=
 (itp 200).call 81 [X1 cols nm rn] pl=.ok (.fr (.int t)) pl/\(itp 200).call 84 [X1 cols nm rn] pl=.ok (.fr (.bool true)) pl/\Q .next ⟨fm0 (X1 cols nm rn) t (.fr .none) (ZR cols) (kindOf (ZR cols)) [],[],[],pl⟩
abbrev Zdg(cols:List Col)(nm rn:D)(t:Int)(ls:List D)(pl:Option Z8)(Q:Fl->St->Prop):Prop:=
 (itp 200).call 81 [X1 cols nm rn] pl=.ok (.fr (.int t)) pl/\(itp 200).call 84 [X1 cols nm rn] pl=.ok (.fr (.bool false)) pl/\(itp 200).call 83 [X1 cols nm rn] pl=.ok (.ol ls) pl/\Q .next ⟨fm0 (X1 cols nm rn) t (.ol ls) (ZR cols) (kindOf (ZR cols)) [],[],[],pl⟩
abbrev Zc5(nm rn:D)(t:Int)(ls:List D)(pl:Option Z8)(Q:Fl->St->Prop)(cols:List Col):Prop:=Zdf cols nm rn t pl Q=(W {c:=200,S:=S99 t true ls} 60).exs ((Za 99).take 5) ⟨[("df",.fr (X1 cols nm rn))],[],[],pl⟩ Q
abbrev Zc6(nm rn:D)(t:Int)(ls:List D)(pl:Option Z8)(Q:Fl->St->Prop)(cols:List Col):Prop:=Zdg cols nm rn t ls pl Q=(W {c:=200,S:=S99 t false ls} 60).exs ((Za 99).take 5) ⟨[("df",.fr (X1 cols nm rn))],[],[],pl⟩ Q
theorem Zdh(nm rn)(t)(ls)(pl)(Q)(cols)(h:1<=cols.length/\cols.length<=3):Zc5 nm rn t ls pl Q cols:=
 Xk (P:=Zc5 nm rn t ls pl Q) (fun a=>by cases a<;>kernel_rfl) (fun a b=>by cases a<;>cases b<;>kernel_rfl) (fun a b c=>by cases a<;>cases b<;>cases c<;>kernel_rfl) cols h
theorem Zdi(nm rn)(t)(ls)(pl)(Q)(cols)(h:1<=cols.length/\cols.length<=3):Zc6 nm rn t ls pl Q cols:=
 Xk (P:=Zc6 nm rn t ls pl Q) (fun a=>by cases a<;>kernel_rfl) (fun a b=>by cases a<;>cases b<;>kernel_rfl) (fun a b c=>by cases a<;>cases b<;>cases c<;>kernel_rfl) cols h
def Jfm(DF:D)(t:Int)(n:LV)(b:Bool)(pl:Option Z8)(a:Bool × List D)(σ:St):Prop:=match a with
 |(false,acc)=>σ=⟨fm0 DF t n b (kindOf b) acc,[],[],pl⟩
 |(true,acc)=>∃ c,σ=⟨fm1 DF t n b (kindOf b) acc c,[],[],pl⟩
theorem Zc7(DF)(t)(n)(acc X)(c)(pl)(Q) :
  ((itp 340).call 97 [c] pl=.ok (.ol X) pl/\cnd (decide (acc.length+X.length<=LIM)) (Q .next ⟨fm1 DF t n true (kindOf true) (acc++X) c,[],[],pl⟩) False) =
  (W {c:=340,S:=fun i O=>if i=97 then some (.ol X) else none} 40).exs (sB 99 611) ⟨fm1 DF t n true (kindOf true) acc c,[],[],pl⟩ Q:=by kernel_rfl
theorem Zc8(DF)(t)(n)(acc X)(pl)(Q) :
  (cnd (decide (acc.length+X.length<=LIM)) (Q .next ⟨fm1 DF t n false (kindOf false) (acc++X) (vI X),[],[],pl⟩) False) =
  (W {c:=340} 40).exs (sB 99 611) ⟨fm1 DF t n false (kindOf false) acc (vI X),[],[],pl⟩ Q:=by kernel_rfl
noncomputable def Col.mx(b:Bool)(c:Col):List D:=match b with
 |true=>c.mtx
 |false=>c.items
theorem Z2U(c:Col):c.mtx.length=c.items.length:=by
 induction c with
 |ci xs=>exact List.length_map _
 |_=>rfl
theorem Z5F(b:Bool)(c:Col):(c.mx b).length=c.items.length:=by
 cases b
 ·rfl
 ·exact Z2U c
theorem Z7K(DF:D)(t:Int)(n:LV)(b:Bool)(pl:Option Z8)(cols:List Col)(hc:∀ c∈cols,c.three)(hb:b=false->∀ c∈cols,c.isI=true)(hn:cols.length<=10)(σ:St)(h:Jfm DF t n b pl (false,[]) σ) :
  wpO (ZJ ((itp 380).exs (sB 99 611)) (sT 99 611) (cols.map Col.val) σ) fun g τ=>g=.next/\Jfm DF t n b pl (!cols.isEmpty,cols.flatMap (Col.mx b)) τ:=by
 have hL:1000<=LIM:=by decide
 have k:=ZG (α:=Bool × List D) (β:=Col) (body:=(itp 380).exs (sB 99 611)) (t:=sT 99 611) Col.val (Jfm DF t n b pl) (fun a c=>(true,a.2++c.mx b)) (fun a cs=>(∀ c∈cs,c.three)/\(b=false->∀ c∈cs,c.isI=true)/\a.2.length+3*cs.length<=100) (fun a c cs σ ok h=>?_) cols (false,[]) σ ⟨hc,hb,by show 0+3*cols.length<=100;lia⟩ h
 ·have e:∀ (cols:List Col) (s:Bool) (a:List D),cols.foldl (fun (a:Bool × List D) c=>(true,a.2++c.mx b)) (s,a)=(s||!cols.isEmpty,a++cols.flatMap (Col.mx b)):=fun cols=>by
   induction cols with
   |nil=>intro s a;simp
   |cons c cols ih=>intro s a;simp only[List.foldl_cons,ih,List.flatMap_cons,List.append_assoc];simp
  simp only[e,List.nil_append,Bool.false_or] at k
  exact k
 ·obtain ⟨h1,h2,h3⟩:=ok
  obtain ⟨st,a⟩:=a
  rw[List.length_cons] at h3
  have hc:=h1 c List.mem_cons_self
  have hl:=Z5F b c
  have h4:=hc.2
  refine ⟨⟨fun x hx=>h1 x (List.mem_cons_of_mem _ hx),fun e x hx=>h2 e x (List.mem_cons_of_mem _ hx),by show (a++c.mx b).length+_<=_;rw[List.length_append];lia⟩,?_⟩
  have e:Zl (sT 99 611) c.val σ=.ok () ⟨fm1 DF t n b (kindOf b) a c.val,[],[],pl⟩:=by
   induction st with
   |false=>have h:σ=⟨fm0 DF t n b (kindOf b) a,[],[],pl⟩:=h;subst h;kernel_rfl
   |true=>obtain ⟨x,rfl⟩:=h;kernel_rfl
  rw[e]
  refine ZF ?_
  generalize ho:(itp 380).exs (sB 99 611) ⟨fm1 DF t n b (kindOf b) a c.val,[],[],pl⟩=o
  induction b with
  |true=>exact Zy (A:={c:=340,S:=_}) (n:=40) (Nat.le_of_ble_eq_true rfl) ho (Zc7 DF t n a c.mtx c.val pl _) ⟨L97 hc pl,ZP (by rw[Z2U];lia) ⟨.inl rfl,_,rfl⟩⟩
  |false=>
   have hi:=h2 rfl c List.mem_cons_self
   induction c with
   |ci xs=>
    have h4:xs.length<=3:=h4
    exact Zy (A:={c:=340}) (n:=40) (Nat.le_of_ble_eq_true rfl) ho (Zc8 DF t n a xs pl _) (ZP (by lia) ⟨.inl rfl,_,rfl⟩)
   |cs xs=>cases hi
   |cf lv xs=>exact Z4 hi
noncomputable abbrev Jk(k:Str)(items:List D)(t:Int)(n:Nat)(side:D)(nm:List D):LV:=.ov (.str k) (.list items) (.dict [("dim",vI [.int t,.int ((n:Nat):Int)]),("dimnames",.vec (.str "list") (.list [side,vC nm]) .none)]) true
theorem Zc9(its)(nm0 rn)(t)(b)(k)(acc nm)(c)(pl)(Q) :
  ((itp 340).call 82 [frV (.list its) nm0 rn] pl=.ok (.ol nm) pl/\Q (.ret (Jk k acc t its.length .null nm)) ⟨[("df",.fr (frV (.list its) nm0 rn)),("rows",.fr (.int t)),("names",.fr .none),("texts",.fr (.bool b)),("kind",.fr (.str k)),("items",.fr (.list acc)),("column",.fr c)],[],[],pl⟩) =
  (W {c:=340,S:=fun i O=>if i=82 then some (.ol nm) else none} 60).exs ((Za 99).drop 6) ⟨fm1 (frV (.list its) nm0 rn) t (.fr .none) b k acc c,[],[],pl⟩ Q:=by kernel_rfl
theorem Zca(its)(nm0 rn)(t)(b)(k)(acc nm ls)(c)(pl)(Q) :
  ((itp 340).call 82 [frV (.list its) nm0 rn] pl=.ok (.ol nm) pl/\Q (.ret (Jk k acc t its.length (vC ls) nm)) ⟨[("df",.fr (frV (.list its) nm0 rn)),("rows",.fr (.int t)),("names",.fr (.list ls)),("texts",.fr (.bool b)),("kind",.fr (.str k)),("items",.fr (.list acc)),("column",.fr c)],[],[],pl⟩) =
  (W {c:=340,S:=fun i O=>if i=82 then some (.ol nm) else none} 60).exs ((Za 99).drop 6) ⟨fm1 (frV (.list its) nm0 rn) t (.ol ls) b k acc c,[],[],pl⟩ Q:=by kernel_rfl
theorem Z7L(xs)(nm0 rn)(t)(n)(b)(k)(pl)(Q):wpO (ZJ ((itp 380).exs (sB 99 611)) (sT 99 611) xs ⟨fm0 (frV (.list xs) nm0 rn) t n b k [],[],[],pl⟩) (nx Q)=(W {c:=380,L:=[611]} 20).exs (((Za 99).drop 5).take 1) ⟨fm0 (frV (.list xs) nm0 rn) t n b k [],[],[],pl⟩ Q:=by kernel_rfl
noncomputable def UA:Sd->D:=fun O=>match O with
 |.cn O=>.null
 |.tx ls=>vC (sD ls)
noncomputable def Z0B(cols:List Col)(s:Sd)(nm:List Str):LV:=Jk (kindOf (ZR cols)) (cols.flatMap (Col.mx (ZR cols))) ((s.tall:Nat):Int) cols.length (UA s) (sD nm)
theorem L99(cols:List Col)(hcl:1<=cols.length/\cols.length<=3)(hc:∀ c∈cols,c.three)(s:Sd)(hs:s.ok)(nm:List Str)(hnm:1<=nm.length/\nm.length<=3)(pl:Option Z8) :
  (itp 402).call 99 [X1 cols (.list (sD nm)) s.rows] pl=.ok (Z0B cols s nm) pl:=by
 have hb:ZR cols=false->∀ c∈cols,c.isI=true:=fun h c hm=>by
  have h:cols.all Col.isI=true:=by cases e:cols.all Col.isI;(· unfold ZR at h;rw[e] at h;cases h);rfl
  exact List.all_eq_true.mp h c hm
 have e6:∀ l:List Stmt,(l.drop 5).drop 1=l.drop 6:=fun l=>by rw[List.drop_drop]
 have hv:cols.map Col.val≠[]:=by
  induction cols with
  |nil=>simp at hcl
  |cons c cs=>simp
 have main:∃ lv pl',(itp 402).call 99 [X1 cols (.list (sD nm)) s.rows] pl=.ok lv pl'/\(lv=Z0B cols s nm/\pl'=pl):=by
  refine YW (k:=401) (vs:=[("df",.fr (X1 cols (.list (sD nm)) s.rows))]) (by kernel_rfl) (by kernel_rfl) (by kernel_rfl) ?_
  have first:∃ n:LV,(n=.fr .none/\UA s=.null\/∃ ls,n=.ol ls/\UA s=vC ls)/\wpO ((itp 260).exs ((Za 99).take 5) ⟨[("df",.fr (X1 cols (.list (sD nm)) s.rows))],[],[],pl⟩) fun f τ=>f=.next/\τ=⟨fm0 (X1 cols (.list (sD nm)) s.rows) ((s.tall:Nat):Int) n (ZR cols) (kindOf (ZR cols)) [],[],[],pl⟩:=by
   have h81:=Zg (by decide:80<=200) (L81 (.list (cols.map Col.val)) (.list (sD nm)) pl s hs)
   induction s with
   |cn t=>
    refine ⟨.fr .none,.inl ⟨rfl,rfl⟩,?_⟩
    generalize ho:(itp 260).exs ((Za 99).take 5) ⟨[("df",.fr (X1 cols (.list (sD nm)) (Sd.cn t).rows))],[],[],pl⟩=o
    exact Zy (A:={c:=200,S:=S99 (((Sd.cn t).tall:Nat):Int) true []}) (n:=60) (Nat.le_of_ble_eq_true rfl) ho (Zdh (.list (sD nm)) (Sd.cn t).rows _ [] pl _ cols hcl) ⟨h81,Zg (by decide) (Za2 _ _ pl t hs),rfl,rfl⟩
   |tx ls=>
    refine ⟨.ol (sD ls),.inr ⟨_,rfl,rfl⟩,?_⟩
    generalize ho:(itp 260).exs ((Za 99).take 5) ⟨[("df",.fr (X1 cols (.list (sD nm)) (Sd.tx ls).rows))],[],[],pl⟩=o
    exact Zy (A:={c:=200,S:=S99 (((Sd.tx ls).tall:Nat):Int) false (sD ls)}) (n:=60) (Nat.le_of_ble_eq_true rfl) ho (Zdi (.list (sD nm)) (Sd.tx ls).rows _ (sD ls) pl _ cols hcl) ⟨h81,Zg (by decide) (Za3 _ _ _ pl),Zg (by decide) (L83 _ _ ls (Vv hs) pl),rfl,rfl⟩
  obtain ⟨n,hn,first⟩:=first
  refine Zs ((Zr (by decide:400<=401)).exs _ _) ?_
  generalize ho:(itp (399+1)).exs ((Za 99).take 5) ⟨[("df",.fr (X1 cols (.list (sD nm)) s.rows))],[],[],pl⟩=o
  refine Yh (k:=399) 5 ho ?_
  have first:=Zs ((Zr (by decide:260<=399+1)).exs _ _) first
  rw[ho] at first
  refine Z0 first fun f τ q=>⟨fun O o ho=>?_,fun h=>absurd q.1 h⟩
  obtain ⟨O,rfl⟩:=q
  subst ho
  generalize ho:(itp (399+1)).exs (((Za 99).drop 5).take 1) ⟨fm0 (X1 cols (.list (sD nm)) s.rows) ((s.tall:Nat):Int) n (ZR cols) (kindOf (ZR cols)) [],[],[],pl⟩=o
  refine Yh (k:=399) 1 ho (Zy (A:={c:=380,L:=[611]}) (n:=20) (Nat.le_of_ble_eq_true rfl) ho (Z7L (cols.map Col.val) (.list (sD nm)) s.rows _ n _ _ pl _) ?_)
  refine Yq (R:=fun O τ=>∃ c,τ=⟨fm1 (X1 cols (.list (sD nm)) s.rows) ((s.tall:Nat):Int) n (ZR cols) (kindOf (ZR cols)) (cols.flatMap (Col.mx (ZR cols))) c,[],[],pl⟩) ?_ fun τ hτ=>⟨fun O o ho=>?_,fun h=>absurd rfl h⟩
  ·refine Z0 (Z7K (X1 cols (.list (sD nm)) s.rows) ((s.tall:Nat):Int) n (ZR cols) pl cols hc hb (by lia) _ rfl) fun g τ q=>⟨q.1,?_⟩
   have h:=q.2
   induction cols with
   |nil=>simp at hcl
   |cons c cs=>exact h
  ·rw[e6] at ho
   obtain ⟨c,rfl⟩:=hτ
   have h82:=Zg (by decide:80<=340) (L82 (.list (cols.map Col.val)) s.rows pl nm hnm)
   unfold Z0B
   rcases hn with ⟨rfl,e⟩|⟨ls,rfl,e⟩
   ·rw[e]
    exact Zy (A:={c:=340,S:=_}) (n:=60) (Nat.le_of_ble_eq_true rfl) ho (Zc9 (cols.map Col.val) _ _ _ _ _ _ (sD nm) c pl _) ⟨h82,_,rfl,by rw[List.length_map],rfl⟩
   ·rw[e]
    exact Zy (A:={c:=340,S:=_}) (n:=60) (Nat.le_of_ble_eq_true rfl) ho (Zca (cols.map Col.val) _ _ _ _ _ _ (sD nm) ls c pl _) ⟨h82,_,rfl,by rw[List.length_map],rfl⟩
 obtain ⟨lv,pl',e,rfl,rfl⟩:=main
 exact e
noncomputable abbrev mh0(DF:D)(nm:List D)(C sd:D)(TL:LV)(t:Int)(acc:List D)(b:Bool):Zc:=[("frame",.fr DF),("names",.fr (.list nm)),("columns",.fr C),("sidelines",.fr sd),("told",TL),("tall",.fr (.int t)),("items",.ol acc),("mixed",.fr (.bool b))]
noncomputable abbrev mh1(DF:D)(nm:List D)(C sd:D)(TL:LV)(t:Int)(acc:List D)(b:Bool)(f i l:D):Zc:=[("frame",.fr DF),("names",.fr (.list nm)),("columns",.fr C),("sidelines",.fr sd),("told",TL),("tall",.fr (.int t)),("items",.ol acc),("mixed",.fr (.bool b)),("form",.fr f),("its_own",.fr i),("levels",.fr l)]
noncomputable abbrev mh2(DF:D)(nm:List D)(C sd:D)(TL:LV)(t:Int)(acc:List D)(b:Bool)(f i l:D)(w:LV):Zc:=[("frame",.fr DF),("names",.fr (.list nm)),("columns",.fr C),("sidelines",.fr sd),("told",TL),("tall",.fr (.int t)),("items",.ol acc),("mixed",.fr (.bool b)),("form",.fr f),("its_own",.fr i),("levels",.fr l),("width",w)]
abbrev Tmh(DF sd:D)(t:Int)(nm:List D)(k i a:D)(pl:Option Z8)(Q:Fl->St->Prop)(cols:List Col):Prop:=((itp 410).call 99 [DF] pl=.ok (.ov k i a true) pl/\Q .next ⟨mh0 DF nm (.list (cols.map Col.raw)) sd (.ov k i a true) t [] (ZR cols),[],[],pl⟩) =
  (W {c:=410,S:=fun n O=>if n=99 then some (.ov k i a true) else none} 20).exs ((Za 109).take 4) ⟨[("frame",.fr DF),("names",.fr (.list nm)),("columns",.fr (.list (cols.map Col.raw))),("sidelines",.fr sd)],[],[],pl⟩ Q
theorem Za4(DF)(nm)(t)(k i a)(pl)(Q)(cols)(h:1<=cols.length/\cols.length<=3):Tmh DF (.int t) t nm k i a pl Q cols:=
 Xk (P:=Tmh DF (.int t) t nm k i a pl Q) (fun a=>by cases a<;>kernel_rfl) (fun a b=>by cases a<;>cases b<;>kernel_rfl) (fun a b c=>by cases a<;>cases b<;>cases c<;>kernel_rfl) cols h
theorem Za5(DF)(nm ls)(k i a)(pl)(Q)(cols)(h:1<=cols.length/\cols.length<=3):Tmh DF (.list ls) ((ls.length:Nat):Int) nm k i a pl Q cols:=
 Xk (P:=Tmh DF (.list ls) ((ls.length:Nat):Int) nm k i a pl Q) (fun a=>by cases a<;>kernel_rfl) (fun a b=>by cases a<;>cases b<;>kernel_rfl) (fun a b c=>by cases a<;>cases b<;>cases c<;>kernel_rfl) cols h
noncomputable def KM(b:Bool):Col->Bool:=fun O=>match O with
 |.ci O=>!b
 |O=>true
theorem Zdj(DF)(nm)(C sd)(TL)(t)(acc)(b)(c)(h:KM b c=true)(pl)(Q) :
  cnd (decide (acc.length+c.items.length<=LIM)) (Q .next ⟨mh1 DF nm C sd TL t (acc++c.items) b c.formD (.list c.items) c.lvD,[],[],pl⟩) False =
  (W {c:=20} 40).exs (sB 109 701) ⟨mh1 DF nm C sd TL t acc b c.formD (.list c.items) c.lvD,[],[],pl⟩ Q:=by
 induction c with
 |ci xs=>cases b with
  |false=>kernel_rfl
  |true=>exact Z4 h
 |cs xs=>kernel_rfl
 |cf lv xs=>kernel_rfl
theorem Zdk(DF)(nm)(C sd)(TL)(t)(acc)(b)(c)(w)(h:KM b c=true)(pl)(Q) :
  cnd (decide (acc.length+c.items.length<=LIM)) (Q .next ⟨mh2 DF nm C sd TL t (acc++c.items) b c.formD (.list c.items) c.lvD w,[],[],pl⟩) False =
  (W {c:=20} 40).exs (sB 109 701) ⟨mh2 DF nm C sd TL t acc b c.formD (.list c.items) c.lvD w,[],[],pl⟩ Q:=by
 induction c with
 |ci xs=>cases b with
  |false=>kernel_rfl
  |true=>exact Z4 h
 |cs xs=>kernel_rfl
 |cf lv xs=>kernel_rfl
noncomputable abbrev Cmh(L R:List D):Nat->Option (Zc->List D->List D × Zc):=fun l=>if l=705 then some fun up O=>(L,up) else if l=706 then some fun up O=>(R,up) else none
abbrev omh(DF:D)(nm:List D)(C sd:D)(TL:LV)(t:Int)(acc xs L R:List D)(up0:Zc)(pl:Option Z8)(Q:Fl->St->Prop):Prop:=
 wpO (Zh (itp 100) (cT 109 705) [] (cE 109 705) xs ⟨[],up0,["item"],pl⟩) (fun ds τ=>ds=L/\τ.up=up0/\τ.pl=pl)/\L.length<=LIM /\
 Ze (XA .Add (.list [.int 0]) (.list L)) fun v=>Ze (blt (Str.ofString "max") [v.d]) fun w=>
  wpO (Zh (itp 100) (cT 109 706) [] (cE 109 706) xs ⟨[],mh2 DF nm C sd TL t acc true (.int 0) (.list xs) .none w,["item"],pl⟩) (fun ds τ=>ds=R/\τ.up=mh2 DF nm C sd TL t acc true (.int 0) (.list xs) .none w/\τ.pl=pl)/\R.length<=LIM /\
  cnd (decide (acc.length+R.length<=LIM)) (Q .next ⟨mh2 DF nm C sd TL t (acc++R) true (.int 0) (.list xs) .none w,[],[],pl⟩) False
theorem Zdl(DF)(nm)(C sd)(TL)(t)(acc xs L R)(pl)(Q) :
  omh DF nm C sd TL t acc xs L R (mh1 DF nm C sd TL t acc true (.int 0) (.list xs) .none) pl Q =
  (W {c:=100,C:=Cmh L R} 40).exs (sB 109 701) ⟨mh1 DF nm C sd TL t acc true (.int 0) (.list xs) .none,[],[],pl⟩ Q:=by kernel_rfl
theorem Zdm(DF)(nm)(C sd)(TL w)(t)(acc xs L R)(pl)(Q) :
  omh DF nm C sd TL t acc xs L R (mh2 DF nm C sd TL t acc true (.int 0) (.list xs) .none w) pl Q =
  (W {c:=100,C:=Cmh L R} 40).exs (sB 109 701) ⟨mh2 DF nm C sd TL t acc true (.int 0) (.list xs) .none w,[],[],pl⟩ Q:=by kernel_rfl
theorem Za6{d}(hd:Yl d)(up)(pl):wpO ((itp 60).ev (cE 109 705) ⟨[("item",.fr d)],up,["item"],pl⟩) fun r σ=>r=(.fr (.int (XR d)),none)/\σ=⟨[("item",.fr d)],up,["item"],pl⟩:=by
 cases hd<;>exact YI 40 (by kernel_rfl)
theorem Za7{d}(hd:Yl d)(DF)(nm)(C sd)(TL)(t)(acc xs)(w)(hw:w=1\/w=2)(hl:XR d<=w)(pl) :
  wpO ((itp 60).ev (cE 109 706) ⟨[("item",.fr d)],mh2 DF nm C sd TL t acc true (.int 0) (.list xs) .none (.fr (.int w)),["item"],pl⟩) fun r σ=>r=(.fr (Jh w d),none)/\σ=⟨[("item",.fr d)],mh2 DF nm C sd TL t acc true (.int 0) (.list xs) .none (.fr (.int w)),["item"],pl⟩:=by
 rcases hw with rfl|rfl
 ·cases hd
  ·exact absurd hl (by decide +kernel)
  ·exact YI 40 (by kernel_rfl)
  ·exact YI 40 (by kernel_rfl)
  ·exact absurd hl (by decide +kernel)
  ·exact YI 40 (by kernel_rfl)
  ·exact absurd hl (by decide +kernel)
 ·cases hd<;>exact YI 40 (by kernel_rfl)
theorem Z2V:∀ (l:List Int) (m:Int),m<=Xf m l/\∀ x∈l,x<=Xf m l:=fun O U=>match O,U with
 |[],m=>⟨Int.le_refl _,fun x h=>by cases h⟩
 |y::l,m=>by
  obtain ⟨h1,h2⟩:=Z2V l (if m < y then y else m)
  have e:Xf m (y::l)=Xf (if m < y then y else m) l:=rfl
  rw[e]
  have h3:m<=(if m < y then y else m)/\y<=(if m < y then y else m):=by split<;>lia
  refine ⟨Int.le_trans h3.1 h1,fun x hx=>?_⟩
  rcases List.mem_cons.mp hx with rfl|hx
  ·exact Int.le_trans h3.2 h1
  ·exact h2 x hx
theorem Z2W(B):∀ (l:List Int) (m:Int),m<=B->(∀ x∈l,x<=B)->Xf m l<=B:=fun O U V O1=>match O,U,V,O1 with
 |[],m,h,O=>h
 |y::l,m,h,k=>by
  have e:Xf m (y::l)=Xf (if m < y then y else m) l:=rfl
  rw[e]
  refine Z2W B l _ ?_ fun x hx=>k x (List.mem_cons_of_mem _ hx)
  have:=k y List.mem_cons_self
  split<;>omega
theorem JQ{d}(h:Yl d):1<=XR d/\XR d<=2:=by cases h<;>decide +kernel
theorem Z3y{xs}(hx:∀ d∈xs,Yl d){d}(hd:d∈xs):(Uz xs=1\/Uz xs=2)/\XR d<=Uz xs:=by
 have h1:=(Z2V (xs.map XR) 0).2 (XR d) (List.mem_map.mpr ⟨d,hd,rfl⟩)
 have h2:=Z2W 2 (xs.map XR) 0 (by decide) (fun x hx'=>by obtain ⟨e,he,rfl⟩:=List.mem_map.mp hx';exact (JQ (hx e he)).2)
 have h3:=(JQ (hx d hd)).1
 have h1:XR d<=Uz xs:=h1
 have h2:Uz xs<=2:=h2
 exact ⟨by lia,h1⟩
theorem Ve:∀ l:List Int,ints? (l.map D.int)=some l:=fun O=>match O with
 |[]=>rfl
 |i::r=>by show (ints? (r.map D.int)).map _=_;rw[Ve r];rfl
theorem Z7M(m)(l):blt (Str.ofString "max") [.list (D.int m::l.map D.int)]=some (.fr (.int (Xf m l))):=by
 show (ints? ((m::l).map D.int)).bind (fun ns=>match ns with|m::r=>some (LV.fr (.int (Xf m r)))|[]=>none)=_
 rw[Ve]
 rfl
def Jmh(DF:D)(nm:List D)(C sd:D)(TL:LV)(t:Int)(b:Bool)(pl:Option Z8)(a:Bool × List D)(σ:St):Prop:=match a with
 |(false,acc)=>σ=⟨mh0 DF nm C sd TL t acc b,[],[],pl⟩
 |(true,acc)=>∃ f i l,σ=⟨mh1 DF nm C sd TL t acc b f i l,[],[],pl⟩\/∃ w,σ=⟨mh2 DF nm C sd TL t acc b f i l w,[],[],pl⟩
theorem Z5G{b}{c}(h:KM b c=true):c.mx b=c.items:=by
 induction b with
 |false=>rfl
 |true=>cases c with
  |ci xs=>exact Z4 h
  |cs xs=>rfl
  |cf lv xs=>rfl
theorem Z7N(DF:D)(nm:List D)(C sd:D)(TL:LV)(t:Int)(b:Bool)(pl:Option Z8)(acc:List D)(c:Col)(hc:c.three)(hl:acc.length<=100)(v:Zc)
  (hv:v=mh1 DF nm C sd TL t acc b c.formD (.list c.items) c.lvD\/∃ w,v=mh2 DF nm C sd TL t acc b c.formD (.list c.items) c.lvD w) :
  wpO ((itp 140).exs (sB 109 701) ⟨v,[],[],pl⟩) fun g σ=>(g=.next\/g=.cont)/\Jmh DF nm C sd TL t b pl (true,acc++c.mx b) σ:=by
 have hL:1000<=LIM:=by decide
 have hc2:=hc.2
 generalize ho:(itp 140).exs (sB 109 701) ⟨v,[],[],pl⟩=o
 by_cases hp:KM b c=true
 ·rw[Z5G hp]
  have ho':OLe ((itp 60).exs (sB 109 701) ⟨v,[],[],pl⟩) o:=by rw[<-ho];exact (Zr (by decide:60<=140)).exs _ _
  refine Zs ho' ?_
  generalize ho2:(itp 60).exs (sB 109 701) ⟨v,[],[],pl⟩=o2
  rcases hv with rfl|⟨w,rfl⟩
  ·exact Zy (A:={c:=20}) (n:=40) (Nat.le_refl _) ho2 (Zdj DF nm C sd TL t acc b c hp pl _) (ZP (by lia) ⟨.inl rfl,_,_,_,.inl rfl⟩)
  ·exact Zy (A:={c:=20}) (n:=40) (Nat.le_refl _) ho2 (Zdk DF nm C sd TL t acc b c w hp pl _) (ZP (by lia) ⟨.inl rfl,_,_,_,.inr ⟨_,rfl⟩⟩)
 ·induction c with
  |cs xs=>exact absurd rfl hp
  |cf lv xs=>exact absurd rfl hp
  |ci xs=>
   induction b with
   |false=>exact absurd rfl hp
   |true=>
    have hx:∀ d∈xs,Yl d:=hc.1
    have hc2:xs.length<=3:=hc2
    have fin:∀ up0:Zc,omh DF nm C sd TL t acc xs (xs.map fun d=>D.int (XR d)) (xs.map (Jh (Uz xs))) up0 pl (fun g σ=>(g=Fl.next\/g=.cont)/\Jmh DF nm C sd TL t true pl (true,acc++(Col.ci xs).mx true) σ):=fun up0=>by
     refine ⟨Zs (Yj (Zr (by decide:60<=100)) _ _ _ _ _) (Y5 (by kernel_rfl) (fun d=>D.int (XR d)) (fun d hd=>Za6 (hx d hd) up0 pl) fun σ hu hp=>⟨rfl,hu,hp⟩),by rw[List.length_map];lia,?_⟩
     have e1:XA .Add (.list [.int 0]) (.list (xs.map fun d=>D.int (XR d)))=some (.ol (D.int 0::(xs.map XR).map D.int)):=by
      show (if 1+(xs.map fun d=>D.int (XR d)).length<=LIM then some (LV.ol (D.int 0::xs.map fun d=>D.int (XR d))) else none)=_
      rw[if_pos (by rw[List.length_map];lia),List.map_map]
      rfl
     rw[e1]
     show Ze (blt (Str.ofString "max") [.list (D.int 0::(xs.map XR).map D.int)]) _
     rw[Z7M]
     refine ⟨Zs (Yj (Zr (by decide:60<=100)) _ _ _ _ _) (Y5 (by kernel_rfl) (Jh (Uz xs)) (fun d hd=>?_) fun σ hu hp=>⟨rfl,hu,hp⟩),by rw[List.length_map];lia,ZP (by rw[List.length_map];lia) ⟨.inl rfl,_,_,_,.inr ⟨_,rfl⟩⟩⟩
     obtain ⟨h1,h2⟩:=Z3y hx hd
     exact Za7 (hx d hd) DF nm C sd TL t acc xs (Uz xs) h1 h2 pl
    rcases hv with rfl|⟨w,rfl⟩
    ·exact Zy (A:={c:=100,C:=Cmh _ _}) (n:=40) (Nat.le_of_ble_eq_true rfl) ho (Zdl DF nm C sd TL t acc xs _ _ pl _) (fin _)
    ·exact Zy (A:={c:=100,C:=Cmh _ _}) (n:=40) (Nat.le_of_ble_eq_true rfl) ho (Zdm DF nm C sd TL w t acc xs _ _ pl _) (fin _)
theorem Z7O(DF:D)(nm:List D)(C sd:D)(TL:LV)(t:Int)(b:Bool)(pl:Option Z8)(cols:List Col)(hc:∀ c∈cols,c.three)(hn:cols.length<=10)(σ:St)(h:Jmh DF nm C sd TL t b pl (false,[]) σ) :
  wpO (ZJ ((itp 140).exs (sB 109 701)) (sT 109 701) (cols.map Col.raw) σ) fun g τ=>g=.next/\Jmh DF nm C sd TL t b pl (!cols.isEmpty,cols.flatMap (Col.mx b)) τ:=by
 have k:=ZG (α:=Bool × List D) (β:=Col) (body:=(itp 140).exs (sB 109 701)) (t:=sT 109 701) Col.raw (Jmh DF nm C sd TL t b pl) (fun a c=>(true,a.2++c.mx b)) (fun a cs=>(∀ c∈cs,c.three)/\a.2.length+3*cs.length<=100) (fun a c cs σ ok h=>?_) cols (false,[]) σ ⟨hc,by show 0+3*cols.length<=100;lia⟩ h
 ·have e:∀ (cols:List Col) (s:Bool) (a:List D),cols.foldl (fun (a:Bool × List D) c=>(true,a.2++c.mx b)) (s,a)=(s||!cols.isEmpty,a++cols.flatMap (Col.mx b)):=fun cols=>by
   induction cols with
   |nil=>intro s a;simp
   |cons c cols ih=>intro s a;simp only[List.foldl_cons,ih,List.flatMap_cons,List.append_assoc];simp
  simp only[e,List.nil_append,Bool.false_or] at k
  exact k
 ·obtain ⟨h1,h3⟩:=ok
  obtain ⟨st,a⟩:=a
  rw[List.length_cons] at h3
  have hc:=h1 c List.mem_cons_self
  have hl:=Z5F b c
  have h4:=hc.2
  refine ⟨⟨fun x hx=>h1 x (List.mem_cons_of_mem _ hx),by show (a++c.mx b).length+_<=_;rw[List.length_append];lia⟩,?_⟩
  have key:∃ v,Zl (sT 109 701) c.raw σ=.ok () ⟨v,[],[],pl⟩/\(v=mh1 DF nm C sd TL t a b c.formD (.list c.items) c.lvD\/∃ w,v=mh2 DF nm C sd TL t a b c.formD (.list c.items) c.lvD w):=by
   induction st with
   |false=>
    have h:σ=⟨mh0 DF nm C sd TL t a b,[],[],pl⟩:=h
    subst h
    exact ⟨mh1 DF nm C sd TL t a b c.formD (.list c.items) c.lvD,by cases c<;>kernel_rfl,.inl rfl⟩
   |true=>
    obtain ⟨f,i,l,rfl|⟨w,rfl⟩⟩:=h
    ·exact ⟨mh1 DF nm C sd TL t a b c.formD (.list c.items) c.lvD,by cases c<;>kernel_rfl,.inl rfl⟩
    ·exact ⟨mh2 DF nm C sd TL t a b c.formD (.list c.items) c.lvD w,by cases c<;>kernel_rfl,.inr ⟨_,rfl⟩⟩
  obtain ⟨v,e,hv⟩:=key
  rw[e]
  exact ZF (Z7N DF nm C sd TL t b pl a c hc (by lia) v hv)
def Qr(pl:Option Z8):Fl->St->Prop:=fun f σ=>f=.ret (.fr (.bool true))/\σ.pl=pl
abbrev Vw(b:Bool)(pl:Option Z8):Prop:=(Fl.ret (.fr (.bool b))=Fl.ret (.fr (.bool true))/\pl=pl)
abbrev Z0C(nm:List D)(pl:Option Z8)(FIN:Prop):Prop:=Ze ((eqL nm nm).map fun b=>!b) fun b3=>cnd b3 (Vw false pl) FIN
abbrev Z3z(M nm:List D)(t:Int)(pl:Option Z8)(FIN:Prop):Prop:=
 Ze ((eqL M M).map fun b=>!b) fun b1=>cnd b1 (cnd b1 (Vw false pl) (Z0C nm pl FIN)) (Ze ((eqL [.int t,.int ((nm.length:Nat):Int)] [.int t,.int ((nm.length:Nat):Int)]).map fun b=>!b) fun b2=>cnd b2 (Vw false pl) (Z0C nm pl FIN))
theorem Zdn(DF)(nm M)(C)(t u)(b)(f i l)(pl) :
  Z3z M nm t pl (Vw true pl)=(W {c:=20} 120).exs ((Za 109).drop 5) ⟨mh1 DF nm C (.int u) (Jk (kindOf b) M t nm.length .null nm) t M b f i l,[],[],pl⟩ (Qr pl):=by
 cases b<;>kernel_rfl
theorem Zdo(DF)(nm M)(C)(t u)(b)(f i l)(w)(pl) :
  Z3z M nm t pl (Vw true pl)=(W {c:=20} 120).exs ((Za 109).drop 5) ⟨mh2 DF nm C (.int u) (Jk (kindOf b) M t nm.length .null nm) t M b f i l w,[],[],pl⟩ (Qr pl):=by
 cases b<;>kernel_rfl
theorem Zdp(DF)(nm M ls)(C)(t)(b)(f i l)(pl) :
  Z3z M nm t pl (Ze (eqL ls ls) fun b=>Vw b pl)=(W {c:=20} 120).exs ((Za 109).drop 5) ⟨mh1 DF nm C (.list ls) (Jk (kindOf b) M t nm.length (vC ls) nm) t M b f i l,[],[],pl⟩ (Qr pl):=by
 cases b<;>kernel_rfl
theorem Zdq(DF)(nm M ls)(C)(t)(b)(f i l)(w)(pl) :
  Z3z M nm t pl (Ze (eqL ls ls) fun b=>Vw b pl)=(W {c:=20} 120).exs ((Za 109).drop 5) ⟨mh2 DF nm C (.list ls) (Jk (kindOf b) M t nm.length (vC ls) nm) t M b f i l w,[],[],pl⟩ (Qr pl):=by
 cases b<;>kernel_rfl
theorem U7{M nm}{t}{pl}{FIN}(hM:∀ d∈M,V6 d)(hn:∀ d∈nm,V6 d)(f:FIN):Z3z M nm t pl FIN:=by
 unfold Z3z
 rw[Yt hM]
 show Ze ((eqL [.int t,.int ((nm.length:Nat):Int)] [.int t,.int ((nm.length:Nat):Int)]).map fun b=>!b) fun b2=>cnd b2 (Vw false pl) (Z0C nm pl FIN)
 rw[Yt (xs:=[.int t,.int ((nm.length:Nat):Int)]) (fun d hd=>by
  rcases List.mem_cons.mp hd with h|hd
  ·exact .inr (.inl ⟨_,h⟩)
  ·exact .inr (.inl ⟨_,List.mem_singleton.mp hd⟩))]
 show Z0C nm pl FIN
 unfold Z0C
 rw[Yt hn]
 exact f
theorem Za8(DF)(nm xs)(sd)(TL)(t)(b)(pl)(Q):wpO (ZJ ((itp 140).exs (sB 109 701)) (sT 109 701) xs ⟨mh0 DF nm (.list xs) sd TL t [] b,[],[],pl⟩) (nx Q)=(W {c:=140,L:=[701]} 20).exs (((Za 109).drop 4).take 1) ⟨mh0 DF nm (.list xs) sd TL t [] b,[],[],pl⟩ Q:=by kernel_rfl
theorem Z3A(w)(d):V6 (Jh w d):=by
 unfold Jh
 cases d.i? with
 |some O=>exact .inr (.inr ⟨_,rfl⟩)
 |none=>exact .inl rfl
theorem Z7P{b:Bool}{c:Col}(hc:c.ok):∀ d∈c.mx b,V6 d:=by
 cases b with
 |false=>exact Xa hc
 |true=>induction c with
  |ci xs=>intro d hd;obtain ⟨e,O,rfl⟩:=List.mem_map.mp hd;exact Z3A _ _
  |cs xs=>exact Xa hc
  |cf lv xs=>exact Xa hc
theorem Zdr(cols:List Col)(hcl:1<=cols.length/\cols.length<=3)(hc:∀ c∈cols,c.three)(s:Sd)(hs:s.ok)(nm:List Str)(hnm:nm.length=cols.length)(pl:Option Z8) :
  (itp 432).call 109 [X1 cols (.list (sD nm)) s.rows,.list (sD nm),.list (cols.map Col.raw),s.side] pl=.ok (.fr (.bool true)) pl:=by
 have h99:=Zg (by decide:402<=410) (L99 cols hcl hc s hs nm (by omega) pl)
 have e5:∀ l:List Stmt,(l.drop 4).drop 1=l.drop 5:=fun l=>by rw[List.drop_drop]
 have hM:∀ d∈cols.flatMap (Col.mx (ZR cols)),V6 d:=fun d hd=>by
  obtain ⟨c,h1,h2⟩:=List.mem_flatMap.mp hd
  exact Z7P (hc c h1).1 d h2
 have hlv:Z0B cols s nm=Jk (kindOf (ZR cols)) (cols.flatMap (Col.mx (ZR cols))) ((s.tall:Nat):Int) (sD nm).length (UA s) (sD nm):=by
  unfold Z0B;rw[ZT,hnm]
 rw[hlv] at h99
 have main:∃ lv pl',(itp 432).call 109 [X1 cols (.list (sD nm)) s.rows,.list (sD nm),.list (cols.map Col.raw),s.side] pl=.ok lv pl'/\(lv=.fr (.bool true)/\pl'=pl):=by
  refine YW (k:=431) (vs:=[("frame",.fr (X1 cols (.list (sD nm)) s.rows)),("names",.fr (.list (sD nm))),("columns",.fr (.list (cols.map Col.raw))),("sidelines",.fr s.side)]) (by kernel_rfl) (by kernel_rfl) (by kernel_rfl) ?_
  refine Zs ((Zr (by decide:430<=431)).exs _ _) ?_
  generalize hDF:X1 cols (.list (sD nm)) s.rows=DF at *
  generalize ho:(itp (429+1)).exs ((Za 109).take 4) ⟨[("frame",.fr DF),("names",.fr (.list (sD nm))),("columns",.fr (.list (cols.map Col.raw))),("sidelines",.fr s.side)],[],[],pl⟩=o
  refine Yh (k:=429) 4 ho ?_
  generalize hTL:Jk (kindOf (ZR cols)) (cols.flatMap (Col.mx (ZR cols))) ((s.tall:Nat):Int) (sD nm).length (UA s) (sD nm)=TL at *
  have first:wpO o fun f τ=>f=.next/\τ=⟨mh0 DF (sD nm) (.list (cols.map Col.raw)) s.side TL ((s.tall:Nat):Int) [] (ZR cols),[],[],pl⟩:=by
   subst hTL
   induction s with
   |cn t=>exact Zy (A:={c:=410,S:=fun n O=>if n=99 then some _ else none}) (n:=20) (Nat.le_of_ble_eq_true rfl) ho (Za4 DF (sD nm) t _ _ _ pl _ cols hcl) ⟨h99,rfl,rfl⟩
   |tx ls=>
    have k:=Za5 DF (sD nm) (sD ls) (.str (kindOf (ZR cols))) (.list (cols.flatMap (Col.mx (ZR cols)))) (.dict [("dim",vI [.int (((Sd.tx ls).tall:Nat):Int),.int (((sD nm).length:Nat):Int)]),("dimnames",.vec (.str "list") (.list [UA (.tx ls),vC (sD nm)]) .none)]) pl (fun f τ=>f=.next/\τ=⟨mh0 DF (sD nm) (.list (cols.map Col.raw)) (Sd.tx ls).side (Jk (kindOf (ZR cols)) (cols.flatMap (Col.mx (ZR cols))) (((Sd.tx ls).tall:Nat):Int) (sD nm).length (UA (.tx ls)) (sD nm)) (((Sd.tx ls).tall:Nat):Int) [] (ZR cols),[],[],pl⟩) cols hcl
    exact Zy (A:={c:=410,S:=fun n O=>if n=99 then some _ else none}) (n:=20) (Nat.le_of_ble_eq_true rfl) ho k ⟨h99,rfl,by rw[ZT ls];rfl⟩
  refine Z0 first fun f τ q=>⟨fun O o ho=>?_,fun h=>absurd q.1 h⟩
  obtain ⟨O,rfl⟩:=q
  subst ho
  refine Zs ((Zr (by decide:160<=429+1)).exs _ _) ?_
  generalize ho:(itp (159+1)).exs (((Za 109).drop 4).take 1) ⟨mh0 DF (sD nm) (.list (cols.map Col.raw)) s.side TL ((s.tall:Nat):Int) [] (ZR cols),[],[],pl⟩=o
  refine Yh (k:=159) 1 ho (Zy (A:={c:=140,L:=[701]}) (n:=20) (Nat.le_of_ble_eq_true rfl) ho (Za8 DF (sD nm) (cols.map Col.raw) s.side TL _ _ pl _) ?_)
  refine Yq (R:=fun O τ=>∃ f i l,τ=⟨mh1 DF (sD nm) (.list (cols.map Col.raw)) s.side TL ((s.tall:Nat):Int) (cols.flatMap (Col.mx (ZR cols))) (ZR cols) f i l,[],[],pl⟩\/∃ w,τ=⟨mh2 DF (sD nm) (.list (cols.map Col.raw)) s.side TL ((s.tall:Nat):Int) (cols.flatMap (Col.mx (ZR cols))) (ZR cols) f i l w,[],[],pl⟩) ?_ fun τ hτ=>⟨fun O o ho=>?_,fun h=>absurd rfl h⟩
  ·refine Z0 (Z7O DF (sD nm) (.list (cols.map Col.raw)) s.side TL ((s.tall:Nat):Int) (ZR cols) pl cols hc (by omega) _ rfl) fun g τ q=>⟨q.1,?_⟩
   have h:=q.2
   induction cols with
   |nil=>simp at hcl
   |cons c cs=>exact h
  ·rw[e5] at ho
   have toQ:wpO o (Qr pl)->wpO o fun f σ=>∃ lv,f=Fl.ret lv/\(lv=.fr (.bool true)/\σ.pl=pl):=fun h=>Z0 h fun f σ q=>⟨_,q.1,rfl,q.2⟩
   refine toQ ?_
   have ho':OLe ((itp 140).exs ((Za 109).drop 5) τ) o:=by rw[<-ho];exact (Zr (by decide:140<=159+1)).exs _ _
   refine Zs ho' ?_
   generalize ho2:(itp 140).exs ((Za 109).drop 5) τ=o2
   subst hTL
   obtain ⟨f,i,l,hτ⟩:=hτ
   induction s with
   |cn t=>
    rcases hτ with rfl|⟨w,rfl⟩
    ·exact Zy (A:={c:=20}) (n:=120) (Nat.le_refl _) ho2 (Zdn DF (sD nm) _ _ _ _ _ f i l pl) (U7 hM (Xl nm) ⟨rfl,rfl⟩)
    ·exact Zy (A:={c:=20}) (n:=120) (Nat.le_refl _) ho2 (Zdo DF (sD nm) _ _ _ _ _ f i l w pl) (U7 hM (Xl nm) ⟨rfl,rfl⟩)
   |tx ls=>
    have hls:Ze (eqL (sD ls) (sD ls)) fun b=>Vw b pl:=by rw[Yt (Xl ls)];exact ⟨rfl,rfl⟩
    rcases hτ with rfl|⟨w,rfl⟩
    ·exact Zy (A:={c:=20}) (n:=120) (Nat.le_refl _) ho2 (Zdp DF (sD nm) _ (sD ls) _ _ _ f i l pl) (U7 hM (Xl nm) hls)
    ·exact Zy (A:={c:=20}) (n:=120) (Nat.le_refl _) ho2 (Zdq DF (sD nm) _ (sD ls) _ _ _ f i l w pl) (U7 hM (Xl nm) hls)
 obtain ⟨lv,pl',e,rfl,rfl⟩:=main
 exact e
noncomputable abbrev lb0(s c:D)(w:Nat)(fs vs:List D):Zc:=[("script",.fr s),("cells",.fr c),("pool",.fr .pool),("wide",.fr (.int (w:Int))),("frames",.ol fs),("values",.ol vs)]
noncomputable abbrev la1(s c:D)(w:Nat)(fs vs:List D)(u:D):Zc:=[("script",.fr s),("cells",.fr c),("pool",.fr .pool),("wide",.fr (.int (w:Int))),("frames",.ol fs),("values",.ol vs),("_",.fr u)]
noncomputable abbrev lj(s c:D)(w:Nat)(fs vs:List D)(u:D)(t n o c' d r:LV):Zc:=[("script",.fr s),("cells",.fr c),("pool",.fr .pool),("wide",.fr (.int (w:Int))),("frames",.ol fs),("values",.ol vs),("_",.fr u),("tall",t),("names",n),("oddity",o),("columns",c'),("sidelines",d),("rows",r)]
noncomputable abbrev lb1(s c:D)(w:Nat)(fs vs:List D)(u:D)(t:LV):Zc:=[("script",.fr s),("cells",.fr c),("pool",.fr .pool),("wide",.fr (.int (w:Int))),("frames",.ol fs),("values",.ol vs),("_",.fr u),("tall",t)]
noncomputable abbrev Z5H(s c:D)(w:Nat)(fs vs:List D)(u:D)(t n o:LV):Zc:=[("script",.fr s),("cells",.fr c),("pool",.fr .pool),("wide",.fr (.int (w:Int))),("frames",.ol fs),("values",.ol vs),("_",.fr u),("tall",t),("names",n),("oddity",o)]
noncomputable abbrev ld1(s c:D)(w:Nat)(fs vs:List D)(u:D)(t n o c':LV):Zc:=[("script",.fr s),("cells",.fr c),("pool",.fr .pool),("wide",.fr (.int (w:Int))),("frames",.ol fs),("values",.ol vs),("_",.fr u),("tall",t),("names",n),("oddity",o),("columns",c')]
noncomputable abbrev LB:List Stmt:=sB 110 719
noncomputable def UB(d:Nat):Nat:=([2,1,3,0][d]?).getD 0
noncomputable def KN(w d e:Nat):List Str:=
 let n0:List Str:=if w=1 then ["g"] else ["g","h"]
 let n1:=if d=1 then n0.reverse else n0
 let n2:=if e=9 then n1.set 0 "k" else n1
 if e=8 then n2++[("m":Str)] else n2
theorem Z2X{w}(hw:w=1\/w=2):∀ d e,d < 2->e < 10->Nm w (KN w d e):=by
 intro d e hd he
 have hd:d=0\/d=1:=by lia
 have he:e=8\/e=9\/(e≠8/\e≠9):=by lia
 rcases hw with rfl|rfl
 ·rcases hd with rfl|rfl
  ·rcases he with rfl|rfl|⟨h1,h2⟩
   ·exact .c
   ·exact .b
   ·unfold KN;simp only[if_neg h1,if_neg h2];exact .a
  ·rcases he with rfl|rfl|⟨h1,h2⟩
   ·exact .c
   ·exact .b
   ·unfold KN;simp only[if_neg h1,if_neg h2];exact .a
 ·rcases hd with rfl|rfl
  ·rcases he with rfl|rfl|⟨h1,h2⟩
   ·exact .h
   ·exact .f
   ·unfold KN;simp only[if_neg h1,if_neg h2];exact .d
  ·rcases he with rfl|rfl|⟨h1,h2⟩
   ·exact .i
   ·exact .g
   ·unfold KN;simp only[if_neg h1,if_neg h2];exact .e
section
variable (s c:D)(w:Nat)(fs vs:List D)(u:D)
theorem Zds(p)(Q):(Zb p/\Uk 4 fun d=>∀ p',Zb p'->Q .next ⟨lb1 s c w fs vs u (.fr (.int ((UB d:Nat):Int))),[],[],some p'⟩) =
  (W {c:=20} 100).exs (LB.take 1) ⟨la1 s c w fs vs u,[],[],some p⟩ Q:=by kernel_rfl
theorem Zdt(t n o c' d' r)(p)(Q):(Zb p/\Uk 4 fun d=>∀ p',Zb p'->Q .next ⟨lj s c w fs vs u (.fr (.int ((UB d:Nat):Int))) n o c' d' r,[],[],some p'⟩) =
  (W {c:=20} 100).exs (LB.take 1) ⟨lj s c w fs vs u t n o c' d' r,[],[],some p⟩ Q:=by kernel_rfl
abbrev oB(w:Nat)(p:Z8)(R:Nat->Nat->Z8->Prop):Prop:=Zb p/\Uk 2 fun d=>∀ p',Zb p'->Zb p'/\Uk 10 fun e=>∀ p'',Zb p''->R d e p''
theorem Zdu(t)(p)(Q)(hw:w=1\/w=2):oB w p (fun d e p''=>Q .next ⟨Z5H s c w fs vs u t (.ol (sD (KN w d e))) (.fr (.int ((e:Nat):Int))),[],[],some p''⟩) =
  (W {c:=20} 100).exs ((LB.drop 1).take 5) ⟨lb1 s c w fs vs u t,[],[],some p⟩ Q:=by
 rcases hw with rfl|rfl<;>kernel_rfl
theorem Zdv(t n o c' d' r)(p)(Q)(hw:w=1\/w=2):oB w p (fun d e p''=>Q .next ⟨lj s c w fs vs u t (.ol (sD (KN w d e))) (.fr (.int ((e:Nat):Int))) c' d' r,[],[],some p''⟩) =
  (W {c:=20} 100).exs ((LB.drop 1).take 5) ⟨lj s c w fs vs u t n o c' d' r,[],[],some p⟩ Q:=by
 rcases hw with rfl|rfl<;>kernel_rfl
end
noncomputable def KA(x:Str):R->St->Out Fl:=fun r σ=>match r.2 with
 |none=>.ok .next {σ with vars:=ZA x r.1 σ.vars}
 |some O=>let σ:=Zo r σ;.ok .next {σ with vars:=ZA x (.fr r.1.d) σ.vars}
noncomputable def KB:Fl->St->Out Fl:=fun f σ=>match f with
 |.next=>.ok .next σ
 |f=>.ok f σ
noncomputable def Z2Y(t:Nat)(p:Z8)(up:Zc)(i:D):Out R:=match (itp 139).call 102 [.pool,.int (t:Int)] (some p) with
 |.ok lv pl=>.ok (lv,none) ⟨[("_",.fr i)],up,["_"],pl⟩
 |.exc m pl=>.exc m ⟨[("_",.fr i)],up,["_"],pl⟩
 |.stuck=>.stuck
def KO(t n:Nat)(cols:List Col):Prop:=cols.length=n/\∀ c∈cols,c.ok/\c.items.length=t
theorem KP(t)(ht:t<=3)(up)(hE:∀ i p,(itp 140).ev (cE 110 729) ⟨[("_",.fr i)],up,["_"],some p⟩=Z2Y t p up i):∀ (xs:List D) (v:Zc) (p:Z8),Zb p->(v=[]\/∃ i,v=[(("_":Str),LV.fr i)]) ->
  wpO (Zh (itp 140) (cT 110 729) [] (cE 110 729) xs ⟨v,up,["_"],some p⟩) fun ds τ=>∃ cols,ds=cols.map Col.raw/\KO t xs.length cols/\τ.up=up/\∃ p',Zb p'/\τ.pl=some p':=fun O U V O1 O2=>match O,U,V,O1,O2 with
 |[],v,p,hp,O=>⟨[],rfl,⟨rfl,fun c h=>by cases h⟩,rfl,p,hp,rfl⟩
 |x::xs,v,p,hp,hv=>by
  have e:Zl (cT 110 729) x ⟨v,up,["_"],some p⟩=.ok () ⟨[("_",.fr x)],up,["_"],some p⟩:=by
   rcases hv with rfl|⟨i,rfl⟩<;>kernel_rfl
  refine XB ?_
  rw[e]
  refine ZF (Kw ⟨fun O=>?_,nofun⟩)
  rw[hE]
  refine gG fun G gk=>?_
  obtain ⟨lv,pl',e1,c,p',h1,h2,h3,h4,rfl⟩:=ZcT t ht p hp
  refine gk ?_
  unfold Z2Y
  rw[Zg (by decide:102<=139) e1]
  refine ZF (Z0 (KP t ht up hE xs [("_",.fr x)] p' h3 (.inr ⟨x,rfl⟩)) fun ds τ q=>?_)
  obtain ⟨cols,rfl,⟨k1,k2⟩,k3⟩:=q
  refine ⟨c::cols,by rw[List.map_cons,<-h4],⟨by simp only[List.length_cons,k1,List.length_cons],fun c' hc'=>?_⟩,k3⟩
  rcases List.mem_cons.mp hc' with rfl|hc'
  ·exact ⟨h1,h2⟩
  ·exact k2 c' hc'
section
variable (s c:D)(w:Nat)(fs vs:List D)(u:D)
theorem Zdw(t)(o)(p):∀ nm:List Str,1<=nm.length/\nm.length<=3 ->
  (itp 142).exs ((LB.drop 6).take 1) ⟨Z5H s c w fs vs u t (.ol (sD nm)) o,[],[],some p⟩=((Yy (Zh (itp 140) (cT 110 729) [] (cE 110 729) (Zi 0 ((nm.length:Nat):Int)) ⟨[],Z5H s c w fs vs u t (.ol (sD nm)) o,["_"],some p⟩)).bind (KA "columns")).bind KB:=fun O U=>match O,U with
 |[O],U=>by kernel_rfl
 |[O,U],V=>by kernel_rfl
 |[O,U,V],O1=>by kernel_rfl
 |[],h=>by simp at h
 |O::U::V::O1::O2,h=>by simp at h
theorem Zdx(t o c' d' r)(p):∀ nm:List Str,1<=nm.length/\nm.length<=3 ->
  (itp 142).exs ((LB.drop 6).take 1) ⟨lj s c w fs vs u t (.ol (sD nm)) o c' d' r,[],[],some p⟩=((Yy (Zh (itp 140) (cT 110 729) [] (cE 110 729) (Zi 0 ((nm.length:Nat):Int)) ⟨[],lj s c w fs vs u t (.ol (sD nm)) o c' d' r,["_"],some p⟩)).bind (KA "columns")).bind KB:=fun O U=>match O,U with
 |[O],U=>by kernel_rfl
 |[O,U],V=>by kernel_rfl
 |[O,U,V],O1=>by kernel_rfl
 |[],h=>by simp at h
 |O::U::V::O1::O2,h=>by simp at h
theorem Zcb(t:Nat)(ht:t<=3)(o:LV)(p:Z8)(hp:Zb p)(nm:List Str)(hn:1<=nm.length/\nm.length<=3) :
  wpO ((itp 142).exs ((LB.drop 6).take 1) ⟨Z5H s c w fs vs u (.fr (.int (t:Int))) (.ol (sD nm)) o,[],[],some p⟩) fun f τ=>f=.next/\∃ cols p',KO t nm.length cols/\Zb p'/\τ=⟨ld1 s c w fs vs u (.fr (.int (t:Int))) (.ol (sD nm)) o (.ol (cols.map Col.raw)),[],[],some p'⟩:=by
 rw[Zdw s c w fs vs u _ o p nm hn]
 have hlen:(Zi 0 ((nm.length:Nat):Int)).length=nm.length:=by unfold Zi;rw[List.length_map,List.length_range];lia
 refine Z1 (Z1 (XD (Z0 (KP t ht _ (fun i p=>by kernel_rfl) _ [] p hp (.inl rfl)) fun ds τ q=>?_)))
 obtain ⟨cols,rfl,hc,hu,p',hp',hpl⟩:=q
 rw[hlen] at hc
 refine ⟨by rw[List.length_map,hc.1];exact Nat.le_trans hn.2 (by decide),?_⟩
 rw[hu,hpl]
 have e:KA "columns" (.ol (cols.map Col.raw),none) ⟨Z5H s c w fs vs u (.fr (.int (t:Int))) (.ol (sD nm)) o,[],[],some p'⟩=.ok .next ⟨ld1 s c w fs vs u (.fr (.int (t:Int))) (.ol (sD nm)) o (.ol (cols.map Col.raw)),[],[],some p'⟩:=by kernel_rfl
 rw[e]
 exact ⟨rfl,cols,p',hc,hp',rfl⟩
theorem Zcc(t:Nat)(ht:t<=3)(o c' d' r:LV)(p:Z8)(hp:Zb p)(nm:List Str)(hn:1<=nm.length/\nm.length<=3) :
  wpO ((itp 142).exs ((LB.drop 6).take 1) ⟨lj s c w fs vs u (.fr (.int (t:Int))) (.ol (sD nm)) o c' d' r,[],[],some p⟩) fun f τ=>f=.next/\∃ cols p',KO t nm.length cols/\Zb p'/\τ=⟨lj s c w fs vs u (.fr (.int (t:Int))) (.ol (sD nm)) o (.ol (cols.map Col.raw)) d' r,[],[],some p'⟩:=by
 rw[Zdx s c w fs vs u _ o c' d' r p nm hn]
 have hlen:(Zi 0 ((nm.length:Nat):Int)).length=nm.length:=by unfold Zi;rw[List.length_map,List.length_range];lia
 refine Z1 (Z1 (XD (Z0 (KP t ht _ (fun i p=>by kernel_rfl) _ [] p hp (.inl rfl)) fun ds τ q=>?_)))
 obtain ⟨cols,rfl,hc,hu,p',hp',hpl⟩:=q
 rw[hlen] at hc
 refine ⟨by rw[List.length_map,hc.1];exact Nat.le_trans hn.2 (by decide),?_⟩
 rw[hu,hpl]
 have e:KA "columns" (.ol (cols.map Col.raw),none) ⟨lj s c w fs vs u (.fr (.int (t:Int))) (.ol (sD nm)) o c' d' r,[],[],some p'⟩=.ok .next ⟨lj s c w fs vs u (.fr (.int (t:Int))) (.ol (sD nm)) o (.ol (cols.map Col.raw)) d' r,[],[],some p'⟩:=by kernel_rfl
 rw[e]
 exact ⟨rfl,cols,p',hc,hp',rfl⟩
noncomputable def Za9(e t:Nat):List Str:=(([[("p":Str),"2","q"],["q","p","1"]][e]?).getD []).take t
noncomputable def KQ:Sd->LV:=fun O=>match O with
 |.cn t=>.ov (.str "integer") (.list (Zi 1 ((t:Int)+1))) .none false
 |.tx ls=>.ov (.str "character") (.list (sD ls)) .none false
def oD(t:Nat)(p:Z8)(R:Sd->Z8->Prop):Prop:=match t with
 |0=>R (.cn 0) p
 |t+1=>Zb p/\Uk 3 fun d=>∀ p',Zb p'->(match d with
  |1=>Zb p'/\Uk 2 fun e=>∀ p'',Zb p''->R (.tx (Za9 e (t+1))) p''
  |O=>R (.cn (t+1)) p')
theorem Zdy(n o c')(p)(Q):∀ t:Nat,t<=3 ->
  oD t p (fun sd p'=>Q .next ⟨lj s c w fs vs u (.fr (.int (t:Int))) n o c' (.fr sd.side) (KQ sd),[],[],some p'⟩) =
  (W {c:=20} 100).exs ((LB.drop 7).take 3) ⟨ld1 s c w fs vs u (.fr (.int (t:Int))) n o c',[],[],some p⟩ Q:=fun O U=>match O,U with
 |0,O=>by kernel_rfl
 |1,O=>by kernel_rfl
 |2,O=>by kernel_rfl
 |3,O=>by kernel_rfl
 |n+4,h=>absurd h (by lia)
theorem Zdz(n o c' d' r)(p)(Q):∀ t:Nat,t<=3 ->
  oD t p (fun sd p'=>Q .next ⟨lj s c w fs vs u (.fr (.int (t:Int))) n o c' (.fr sd.side) (KQ sd),[],[],some p'⟩) =
  (W {c:=20} 100).exs ((LB.drop 7).take 3) ⟨lj s c w fs vs u (.fr (.int (t:Int))) n o c' d' r,[],[],some p⟩ Q:=fun O U=>match O,U with
 |0,O=>by kernel_rfl
 |1,O=>by kernel_rfl
 |2,O=>by kernel_rfl
 |3,O=>by kernel_rfl
 |n+4,h=>absurd h (by lia)
end
theorem Z2Z:∀ e t,e < 2->1<=t/\t<=3->Tx (Za9 e t)/\(Za9 e t).length=t:=by
 intro e t he ht
 have he:e=0\/e=1:=by lia
 have ht:t=1\/t=2\/t=3:=by lia
 rcases he with rfl|rfl<;>rcases ht with rfl|rfl|rfl
 ·exact ⟨.a,rfl⟩
 ·exact ⟨.b,rfl⟩
 ·exact ⟨.c,rfl⟩
 ·exact ⟨.d,rfl⟩
 ·exact ⟨.e,rfl⟩
 ·exact ⟨.f,rfl⟩
theorem Z8U{t}(ht:t<=3){p}(hp:Zb p){R}(h:∀ sd p',sd.ok->sd.tall=t->Zb p'->R sd p'):oD t p R:=by
 induction t with
 |zero=>exact h (.cn 0) p (Nat.zero_le _) rfl hp
 |succ t=>
  refine ⟨hp,YS fun d hd p' hp'=>?_⟩
  have:d=0\/d=1\/d=2:=by lia
  rcases this with rfl|rfl|rfl
  ·exact h (.cn (t+1)) p' ht rfl hp'
  ·exact ⟨hp',YS fun e he p'' hp''=>h _ _ (Z2Z e (t+1) he ⟨by lia,ht⟩).1 (Z2Z e (t+1) he ⟨by lia,ht⟩).2 hp''⟩
  ·exact h (.cn (t+1)) p' ht rfl hp'
theorem Z3B{k}(n){b}{σ}{o o'}{Q}(ho':(itp (k+1)).exs b σ=o')(ho:(itp (k+1)).exs (b.take n) σ=o)(h:wpO o fun f τ=>(f=.next->∀ o,(itp (k+1)).exs (b.drop n) τ=o->wpO o Q)/\(f≠.next->Q f τ)):wpO o' Q:=by
 subst ho'
 exact Yh n ho h
theorem Wz{A}(hc:20<=A.c){n k}(i)(hle:A.c+n<=k+1){b}{σ}{o}{Q}{P}(ho:(itp (k+1)).exs b σ=o)
  (e:P=(W A n).exs (b.take i) σ fun f τ=>(f=.next->∀ o,(itp (k+1)).exs (b.drop i) τ=o->wpO o Q)/\(f≠.next->Q f τ)) (h:P):wpO o Q:=by
 subst ho
 exact Yv i (Z0 (Zs ((Zr hle).exs _ _) (Zj hc e h)) fun f τ q=>⟨fun e=>q.1 e _ rfl,q.2⟩)
theorem Z0D{k m}(i)(hle:m<=k+1){b}{σ}{o}{Q R}(ho:(itp (k+1)).exs b σ=o)(hC:wpO ((itp m).exs (b.take i) σ) R)
  (h:∀ f τ,R f τ->(f=.next->∀ o,(itp (k+1)).exs (b.drop i) τ=o->wpO o Q)/\(f≠.next->Q f τ)):wpO o Q:=by
 subst ho
 exact Yv i (Z0 (Zs ((Zr hle).exs _ _) hC) fun f τ q=>⟨fun e=>(h f τ q).1 e _ rfl,(h f τ q).2⟩)
theorem Z30{d}(hd:d < 4):UB d<=3:=by
 have:d=0\/d=1\/d=2\/d=3:=by lia
 rcases this with rfl|rfl|rfl|rfl<;>decide
theorem Z0E(cols)(h0:cols≠[])(hc:∀ c∈cols,c.ok/\c.items.length<=LIM)(up)(pl) :
  wpO (Zh (itp 100) (cT 110 736) [] (cE 110 736) (cols.map Col.raw) ⟨[],up,["column"],pl⟩) fun ds τ=>ds=cols.map Col.val/\τ.up=up/\τ.pl=pl:=by
 have k:=Xm (k:=100) (t:=cT 110 736) (elt:=cE 110 736) Col.raw (fun σ=>σ=⟨[],up,["column"],pl⟩) (fun σ=>∃ d,σ=⟨[("column",.fr d)],up,["column"],pl⟩) Col.val cols (fun c hm σ hσ=>?_) cols ⟨[],up,["column"],pl⟩ (fun O h=>h) (.inl rfl)
 ·refine Z0 k fun ds τ q=>⟨q.1,?_⟩
  obtain ⟨d,rfl⟩:=q.2 (.inl h0)
  exact ⟨rfl,rfl⟩
 ·have e:Zl (cT 110 736) c.raw σ=.ok () ⟨[("column",.fr c.raw)],up,["column"],pl⟩:=by
   rcases hσ with rfl|⟨d,rfl⟩<;>kernel_rfl
  rw[e]
  obtain ⟨lv,e1,e2⟩:=ZcO (hc c hm).1 (hc c hm).2 pl
  refine ZF (Z0 (KE (A:={c:=60,S:=fun i O=>if i=103 then some lv else none}) (n:=40) (Nat.le_of_ble_eq_true rfl) (Q:=fun r τ=>r=(lv,none)/\τ=⟨[("column",.fr c.raw)],up,["column"],pl⟩)
   (P:=(itp 60).call 103 [c.raw] pl=.ok lv pl/\((lv,none):R)=(lv,none)/\(⟨[("column",.fr c.raw)],up,["column"],pl⟩:St)=⟨[("column",.fr c.raw)],up,["column"],pl⟩) (by kernel_rfl) ⟨e1,rfl,rfl⟩) fun r τ q=>?_)
  obtain ⟨rfl,rfl⟩:=q
  exact ⟨e2,_,rfl⟩
section
variable (s c:D)(w:Nat)(fs vs:List D)(u:D)
noncomputable abbrev upE(s c:D)(w:Nat)(fs vs:List D)(u:D)(t o:LV)(nm CR:List D)(sd:D)(rk ri:D):Zc:=lj s c w (fs++[.list [.list nm,.list CR,sd]]) vs u t (.fr (.list nm)) o (.fr (.list CR)) (.fr sd) (.ov rk ri .none false)
theorem klE(t o)(nm CR CV)(sd rk ri)(p)(Q) :
  cnd (decide (fs.length < LIM)) (wpO (Zh (itp 100) (cT 110 736) [] (cE 110 736) CR ⟨[],upE s c w fs vs u t o nm CR sd rk ri,["column"],some p⟩) (fun ds τ=>ds=CV/\τ.up=upE s c w fs vs u t o nm CR sd rk ri/\τ.pl=some p)/\CV.length<=LIM /\
   (itp 100).call 80 [.list CV,.list nm,.vec rk ri .none] (some p)=.ok (W5 (.list CV) (.list nm) rk ri .none) (some p) /\
   cnd (decide (vs.length < LIM)) (Q .next ⟨lj s c w (fs++[.list [.list nm,.list CR,sd]]) (vs++[frV (.list CV) (.list nm) (.vec rk ri .none)]) u t (.fr (.list nm)) o (.fr (.list CR)) (.fr sd) (.fr (.vec rk ri .none)),[],[],some p⟩) False) False =
  (W {c:=100,C:=fun l=>if l=736 then some fun up O=>(CV,up) else none,S:=fun i O=>if i=80 then some (W5 (.list CV) (.list nm) rk ri .none) else none} 60).exs (LB.drop 10) ⟨lj s c w fs vs u t (.ol nm) o (.ol CR) (.fr sd) (.ov rk ri .none false),[],[],some p⟩ Q:=by kernel_rfl
end
def G.okw(w:Nat)(g:G):Prop:=Nm w g.names/\g.cols.length=g.names.length/\(∀ c∈g.cols,c.ok/\c.items.length=g.sd.tall)/\g.sd.ok
noncomputable def Y2(gs:List G):List D:=gs.map G.raw
noncomputable def ZC(gs:List G):List D:=gs.map fun g=>g.fr.val
def JL(s c:D)(w:Nat)(n:Nat)(σ:St):Prop:=∃ gs p,gs.length=n/\(∀ g∈gs,G.okw w g)/\Zb p /\
 ((n=0/\σ=⟨lb0 s c w [] [],[],[],some p⟩)\/∃ u t nm o cc d r,σ=⟨lj s c w (Y2 gs) (ZC gs) u (.fr t) (.fr nm) (.fr o) (.fr cc) (.fr d) (.fr r),[],[],some p⟩)
theorem Z5I(s c)(w)(hw:w=1\/w=2)(n)(hn:n<=10)(u)(gs)(hg:gs.length=n)(hok:∀ g∈gs,G.okw w g)(p)(hp:Zb p)(v)
  (hv:v=la1 s c w (Y2 gs) (ZC gs) u\/∃ t nm o cc d r,v=lj s c w (Y2 gs) (ZC gs) u (.fr t) nm o cc d r) :
  wpO ((itp 200).exs LB ⟨v,[],[],some p⟩) fun f σ=>(f=.next\/f=.cont)/\JL s c w (n+1) σ:=by
 have hL:1000<=LIM:=by decide
 have hl1:(Y2 gs).length<=10:=by unfold Y2;rw[List.length_map];lia
 have hl2:(ZC gs).length<=10:=by unfold ZC;rw[List.length_map];lia
 have d1:∀ l:List Stmt,(l.drop 1).drop 5=l.drop 6:=fun l=>by rw[List.drop_drop]
 have d2:∀ l:List Stmt,(l.drop 6).drop 1=l.drop 7:=fun l=>by rw[List.drop_drop]
 have d3:∀ l:List Stmt,(l.drop 7).drop 3=l.drop 10:=fun l=>by rw[List.drop_drop]
 have fin:∀ (t:Nat) (o:LV) (od:D) (nm:List Str) (cols:List Col) (sd:Sd) (p:Z8),o=.fr od->t<=3->Nm w nm->KO t nm.length cols->sd.ok->sd.tall=t->Zb p ->
   ∀ o',(itp 200).exs (LB.drop 10) ⟨lj s c w (Y2 gs) (ZC gs) u (.fr (.int (t:Int))) (.ol (sD nm)) o (.ol (cols.map Col.raw)) (.fr sd.side) (KQ sd),[],[],some p⟩=o' ->
   wpO o' fun f σ=>(f=.next\/f=.cont)/\JL s c w (n+1) σ:=by
  intro t o od nm cols sd p ho ht hnm hcols hsd hst hp o' ho'
  subst ho
  have e1:∃ rk ri,KQ sd=.ov rk ri .none false/\sd.rows=.vec rk ri .none:=by cases sd<;>exact ⟨_,_,rfl,rfl⟩
  obtain ⟨rk,ri,e1,e2⟩:=e1
  rw[e1] at ho'
  have hlim:∀ c∈cols,c.ok/\c.items.length<=LIM:=fun c hc=>⟨(hcols.2 c hc).1,by rw[(hcols.2 c hc).2];lia⟩
  have hlen:=hcols.1
  have hnl:=Wd hnm
  have hne:cols≠[]:=fun h=>by rw[h,List.length_nil] at hlen;lia
  have h80:=Zg (by decide:80<=100) (L80 cols (by lia) (sD nm) rk ri .none (some p))
  have ho2:OLe ((itp 160).exs (LB.drop 10) ⟨lj s c w (Y2 gs) (ZC gs) u (.fr (.int (t:Int))) (.ol (sD nm)) (.fr od) (.ol (cols.map Col.raw)) (.fr sd.side) (.ov rk ri .none false),[],[],some p⟩) o':=by rw[<-ho'];exact (Zr (by decide:160<=200)).exs _ _
  refine Zs ho2 ?_
  generalize ho3:(itp 160).exs (LB.drop 10) ⟨lj s c w (Y2 gs) (ZC gs) u (.fr (.int (t:Int))) (.ol (sD nm)) (.fr od) (.ol (cols.map Col.raw)) (.fr sd.side) (.ov rk ri .none false),[],[],some p⟩=o3
  refine Zy (A:={c:=100,C:=_,S:=_}) (n:=60) (Nat.le_of_ble_eq_true rfl) ho3 (klE s c w (Y2 gs) (ZC gs) u _ _ (sD nm) (cols.map Col.raw) (cols.map Col.val) sd.side rk ri p _) (ZP (by lia) ⟨Z0E cols hne hlim _ _,by rw[List.length_map];lia,h80,ZP (by lia) ⟨.inl rfl,gs++[⟨nm,cols,sd⟩],p,by rw[List.length_append,hg];rfl,fun g hgm=>?_,hp,.inr ⟨u,.int (t:Int),.list (sD nm),od,.list (cols.map Col.raw),sd.side,.vec rk ri .none,?_⟩⟩⟩)
  ·rcases List.mem_append.mp hgm with h|h
   ·exact hok g h
   ·rw[List.mem_singleton.mp h]
    exact ⟨hnm,hlen,fun c hc=>⟨(hcols.2 c hc).1,(hcols.2 c hc).2.trans hst.symm⟩,hsd⟩
  ·have f1:Y2 gs++[.list [.list (sD nm),.list (cols.map Col.raw),sd.side]]=Y2 (gs++[⟨nm,cols,sd⟩]):=by unfold Y2;rw[List.map_append];rfl
   have f2:ZC gs++[frV (.list (cols.map Col.val)) (.list (sD nm)) (.vec rk ri .none)]=ZC (gs++[⟨nm,cols,sd⟩]):=by
    unfold ZC
    rw[List.map_append,<-e2]
    rfl
   rw[f1,f2]
 generalize hob:(itp (199+1)).exs LB ⟨v,[],[],some p⟩=ob
 rcases hv with rfl|⟨t0,nm0,o0,cc0,dd0,r0,rfl⟩
 ·refine Wz (A:={c:=20}) (n:=100) (Nat.le_refl _) 1 (by decide) hob (Zds s c w (Y2 gs) (ZC gs) u p _) ⟨hp,YS fun d hd p1 hp1=>⟨fun O o2 ho2=>?_,fun h=>absurd rfl h⟩⟩
  have ht:=Z30 hd
  generalize UB d=t at *
  refine Wz (A:={c:=20}) (n:=100) (Nat.le_refl _) 5 (by decide) ho2 (Zdu s c w (Y2 gs) (ZC gs) u _ p1 _ hw) ⟨hp1,YS fun d hd p2 hp2=>⟨hp2,YS fun e he p3 hp3=>⟨fun O o2 ho2=>?_,fun h=>absurd rfl h⟩⟩⟩
  have hnm:=Z2X hw d e hd he
  generalize KN w d e=nm at *
  rw[d1] at ho2
  refine Z0D 1 (by decide) ho2 (Zcb s c w (Y2 gs) (ZC gs) u t ht (.fr (.int ((e:Nat):Int))) p3 hp3 nm (Wd hnm)) fun f τ q=>⟨fun O o2 ho2=>?_,fun h=>absurd q.1 h⟩
  obtain ⟨O,cols,p4,hcols,hp4,rfl⟩:=q
  rw[d2] at ho2
  refine Wz (A:={c:=20}) (n:=100) (Nat.le_refl _) 3 (by decide) ho2 (Zdy s c w (Y2 gs) (ZC gs) u _ _ _ p4 _ t ht) (Z8U ht hp4 fun sd p5 h1 h2 h3=>⟨fun O o2 ho2=>?_,fun h=>absurd rfl h⟩)
  rw[d3] at ho2
  exact fin t _ _ nm cols sd p5 rfl ht hnm hcols h1 h2 h3 o2 ho2
 ·refine Wz (A:={c:=20}) (n:=100) (Nat.le_refl _) 1 (by decide) hob (Zdt s c w (Y2 gs) (ZC gs) u _ _ _ _ _ _ p _) ⟨hp,YS fun d hd p1 hp1=>⟨fun O o2 ho2=>?_,fun h=>absurd rfl h⟩⟩
  have ht:=Z30 hd
  generalize UB d=t at *
  refine Wz (A:={c:=20}) (n:=100) (Nat.le_refl _) 5 (by decide) ho2 (Zdv s c w (Y2 gs) (ZC gs) u _ _ _ _ _ _ p1 _ hw) ⟨hp1,YS fun d hd p2 hp2=>⟨hp2,YS fun e he p3 hp3=>⟨fun O o2 ho2=>?_,fun h=>absurd rfl h⟩⟩⟩
  have hnm:=Z2X hw d e hd he
  generalize KN w d e=nm at *
  rw[d1] at ho2
  refine Z0D 1 (by decide) ho2 (Zcc s c w (Y2 gs) (ZC gs) u t ht (.fr (.int ((e:Nat):Int))) cc0 dd0 r0 p3 hp3 nm (Wd hnm)) fun f τ q=>⟨fun O o2 ho2=>?_,fun h=>absurd q.1 h⟩
  obtain ⟨O,cols,p4,hcols,hp4,rfl⟩:=q
  rw[d2] at ho2
  refine Wz (A:={c:=20}) (n:=100) (Nat.le_refl _) 3 (by decide) ho2 (Zdz s c w (Y2 gs) (ZC gs) u _ _ _ _ _ p4 _ t ht) (Z8U ht hp4 fun sd p5 h1 h2 h3=>⟨fun O o2 ho2=>?_,fun h=>absurd rfl h⟩)
  rw[d3] at ho2
  exact fin t _ _ nm cols sd p5 rfl ht hnm hcols h1 h2 h3 o2 ho2
theorem Z5J(s c:D)(w:Nat)(hw:w=1\/w=2)(ds:List D)(hl:ds.length<=5)(σ:St)(h:JL s c w 0 σ) :
  wpO (ZJ ((itp 200).exs LB) (sT 110 719) ds σ) fun g τ=>g=.next/\JL s c w ds.length τ:=by
 have k:=ZG (α:=Nat) (β:=D) (body:=(itp 200).exs LB) (t:=sT 110 719) id (JL s c w) (fun n O=>n+1) (fun n ds=>n+ds.length<=5) (fun n d ds σ ok h=>?_) ds 0 σ (by lia) h
 ·rw[List.map_id] at k
  have:∀ (ds:List D) (n:Nat),ds.foldl (fun n O=>n+1) n=n+ds.length:=fun ds=>by
   induction ds with
   |nil=>intro n;rfl
   |cons d ds ih=>intro n;simp only[List.foldl_cons,ih,List.length_cons];lia
  rw[this,Nat.zero_add] at k
  exact k
 ·rw[List.length_cons] at ok
  refine ⟨by lia,?_⟩
  obtain ⟨gs,p,h1,h2,h3,hσ⟩:=h
  have key:∃ v,Zl (sT 110 719) (id d) σ=.ok () ⟨v,[],[],some p⟩/\(v=la1 s c w (Y2 gs) (ZC gs) d\/∃ t nm o cc d' r,v=lj s c w (Y2 gs) (ZC gs) d (.fr t) nm o cc d' r):=by
   rcases hσ with ⟨rfl,rfl⟩|⟨u,t,nm,o,cc,d',r,rfl⟩
   ·have:gs=[]:=List.length_eq_zero_iff.mp h1
    subst this
    exact ⟨la1 s c w (Y2 []) (ZC []) d,by kernel_rfl,.inl rfl⟩
   ·exact ⟨lj s c w (Y2 gs) (ZC gs) d (.fr t) (.fr nm) (.fr o) (.fr cc) (.fr d') (.fr r),by kernel_rfl,.inr ⟨_,_,_,_,_,_,rfl⟩⟩
  obtain ⟨v,e,hv⟩:=key
  rw[e]
  exact ZF (Z5I s c w hw n (by lia) d gs h1 h2 p h3 v hv)
noncomputable abbrev LW:List Stmt:=Za 110
noncomputable abbrev lw1(X Y:List D):Zc:=[("script",.fr (.list X)),("cells",.ol Y)]
theorem kL0(X:List D)(pl:Option Z8)(Q:Fl->St->Prop) :
  (wpO (Zh (itp 60) (cT 110 714) [] (cE 110 714) (X.take 63) ⟨[],[("script",.fr (.list X))],["cell"],pl⟩) (fun ds τ=>ds=X.take 63/\τ.up=([("script",.fr (.list X))]:Zc)/\τ.pl=pl)/\(X.take 63).length<=LIM/\Q .next ⟨lw1 X (X.take 63),[],[],pl⟩) =
  (W {c:=60,C:=fun l=>if l=714 then some fun up xs=>(xs,up) else none} 40).exs (LW.take 1) ⟨[("script",.fr (.list X))],[],[],pl⟩ Q:=by kernel_rfl
noncomputable def JS(i:Nat):Expr:=match (LW[1]?:Option Stmt) with
 |some (.Assign O (.List es U) V)=>(es[i]?).getD Z0n
 |O=>Z0n
theorem kL1(X Y:List D):(itp 100).exs ((LW.drop 1).take 1) ⟨lw1 X Y,[],[],none⟩=(Xi (itp 99) "pool" [JS 0,JS 1,JS 2] ⟨lw1 X Y,[],[],none⟩).bind KB:=by kernel_rfl
noncomputable abbrev lw2(X Y:List D):Zc:=[("script",.fr (.list X)),("cells",.fr (.list Y)),("pool",.fr .pool)]
theorem Z5K(X:List D)(ns:List Int)(hb:ns.length<=63):wpO ((itp 100).exs ((LW.drop 1).take 1) ⟨lw1 X (ns.map D.int),[],[],none⟩) fun f τ=>f=.next/\∃ p,Zb p/\τ=⟨lw2 X (ns.map D.int),[],[],some p⟩:=by
 rw[kL1]
 refine Z1 ?_
 have e0:wpO ((itp 99).ev (JS 0) ⟨lw1 X (ns.map D.int),[],[],none⟩) fun r τ=>r=(.ol (ns.map D.int),none)/\τ=⟨[("script",.fr (.list X)),("cells",.fr (.list (ns.map D.int)))],[],[],none⟩:=YI 79 (by kernel_rfl)
 have e1:wpO ((itp 99).ev (JS 1) ⟨[("script",.fr (.list X)),("cells",.fr (.list (ns.map D.int)))],[],[],none⟩) fun r τ=>r=(.fr (.int 0),none)/\τ=⟨[("script",.fr (.list X)),("cells",.fr (.list (ns.map D.int)))],[],[],none⟩:=YI 79 (by kernel_rfl)
 have e2:wpO ((itp 99).ev (JS 2) ⟨[("script",.fr (.list X)),("cells",.fr (.list (ns.map D.int)))],[],[],none⟩) fun r τ=>r=(.fr (.int ((ns.sum).fmod 99991+7)),none)/\τ=⟨[("script",.fr (.list X)),("cells",.fr (.list (ns.map D.int)))],[],[],none⟩:=by
  refine KE (A:={c:=20}) (n:=79) (Nat.le_refl _) (P:=Ze (blt (Str.ofString "sum") [.list (ns.map D.int)]) fun v=>Ze (XA .Mod v.d (.int 99991)) fun v2=>Ze (XA .Add v2.d (.int 7)) fun v3=>(((v3,none):R)=(.fr (.int ((ns.sum).fmod 99991+7)),none)/\(⟨[("script",.fr (.list X)),("cells",.fr (.list (ns.map D.int)))],[],[],none⟩:St)=⟨[("script",.fr (.list X)),("cells",.fr (.list (ns.map D.int)))],[],[],none⟩)) (by kernel_rfl) ?_
  have hs:blt (Str.ofString "sum") [.list (ns.map D.int)]=some (.fr (.int ns.sum)):=by
   show (ints? (ns.map D.int)).map (fun ns=>LV.fr (.int ns.sum))=_
   rw[Ve];rfl
  rw[hs]
  show Ze (if (0:Int) < 99991 then some (LV.fr (.int (ns.sum.fmod 99991))) else none) fun v2=>Ze (XA .Add v2.d (.int 7)) fun v3=>_
  rw[if_pos (by decide)]
  exact ⟨rfl,rfl⟩
 unfold Xi
 refine Z1 (Zq rfl (Z1 (Zq rfl (Z1 (Z0 e0 fun r τ q=>?_)))))
 obtain ⟨rfl,rfl⟩:=q
 refine Z1 (Zq rfl ?_)
 refine Z1 (Z0 e1 fun r τ q=>?_)
 obtain ⟨rfl,rfl⟩:=q
 refine Z1 (Z0 e2 fun r τ q=>?_)
 obtain ⟨rfl,rfl⟩:=q
 show wpO ((opt (ints? (ns.map D.int)) _).bind _) _
 rw[Ve]
 refine ⟨rfl,⟨ns,0,ns.sum.fmod 99991+7⟩,?_,rfl⟩
 have h1:=Int.fmod_nonneg_of_pos ns.sum (show (0:Int) < 99991 by decide)
 have h2:=Int.fmod_lt_of_pos ns.sum (show (0:Int) < 99991 by decide)
 show (ns.sum.fmod 99991+7).natAbs < 2 ^ 200
 have:(ns.sum.fmod 99991+7).natAbs < 100000:=by lia
 exact Nat.lt_trans this (by decide)
theorem kL2(X Y:List D)(p:Z8)(Q:Fl->St->Prop):(Zb p/\(True/\∀ p',Zb p'->Q .next ⟨lb0 (.list X) (.list Y) 1 [] [],[],[],some p'⟩)/\∀ p',Zb p'->Q .next ⟨lb0 (.list X) (.list Y) 2 [] [],[],[],some p'⟩) =
  (W {c:=20} 100).exs ((LW.drop 2).take 3) ⟨lw2 X Y,[],[],some p⟩ Q:=by kernel_rfl
theorem kL5(s c:D)(w:Nat)(p:Z8)(Q:Fl->St->Prop) :
  (Zb p/\((True/\∀ p',Zb p'->wpO (ZJ ((itp 200).exs LB) (sT 110 719) (Zi 0 1) ⟨lb0 s c w [] [],[],[],some p'⟩) (nx Q)) /\
   (∀ p',Zb p'->wpO (ZJ ((itp 200).exs LB) (sT 110 719) (Zi 0 2) ⟨lb0 s c w [] [],[],[],some p'⟩) (nx Q))) /\
   (∀ p',Zb p'->wpO (ZJ ((itp 200).exs LB) (sT 110 719) (Zi 0 3) ⟨lb0 s c w [] [],[],[],some p'⟩) (nx Q))) =
  (W {c:=200,L:=[719]} 40).exs ((LW.drop 5).take 1) ⟨lb0 s c w [] [],[],[],some p⟩ Q:=by kernel_rfl
noncomputable abbrev lk(s c:D)(w:Nat)(fs vs:LV)(u t n o cc d r:D)(hs:D)(due:Str):Zc:=[("script",.fr s),("cells",.fr c),("pool",.fr .pool),("wide",.fr (.int (w:Int))),("frames",fs),("values",vs),("_",.fr u),("tall",.fr t),("names",.fr n),("oddity",.fr o),("columns",.fr cc),("sidelines",.fr d),("rows",.fr r),("heads",.fr hs),("due",.fr (.str due))]
theorem kL6(s c:D)(w:Nat)(hs C0 d0:D)(fs vs:List D)(u t n o cc d r:D)(pl:Option Z8)(Q:Fl->St->Prop) :
  Q .next ⟨lk s c w (.ol (.list [hs,C0,d0]::fs)) (.ol vs) u t n o cc d r hs "",[],[],pl⟩ =
  (W {c:=20} 180).exs ((LW.drop 6).take 2) ⟨lj s c w (.list [hs,C0,d0]::fs) vs u (.fr t) (.fr n) (.fr o) (.fr cc) (.fr d) (.fr r),[],[],pl⟩ Q:=by kernel_rfl
theorem kL8(s c:D)(w:Nat)(hs f0:D)(fs:List D)(vs:LV)(u t n o cc d r:D)(pl:Option Z8)(Q:Fl->St->Prop) :
  wpO (ZJ ((itp 80).exs (sB 110 739)) (sT 110 739) fs ⟨lk s c w (.ol (f0::fs)) vs u t n o cc d r hs "",[],[],pl⟩) (nx Q) =
  (W {c:=80,L:=[739]} 120).exs ((LW.drop 8).take 1) ⟨lk s c w (.ol (f0::fs)) vs u t n o cc d r hs "",[],[],pl⟩ Q:=by kernel_rfl
theorem ZdA(s c:D)(w:Nat)(fs vs:LV)(u t o cc d r:D)(pl:Option Z8)(Q:Fl->St->Prop){wd:Nat}{heads own:List Str}(hh:Nm wd heads)(ho:Nm wd own) :
  Q .next ⟨lk s c w fs vs u t (.list (sD own)) o cc d r (.list (sD heads)) ((Y8 heads own).getD ""),[],[],pl⟩ =
  (W {c:=20} 60).exs (sB 110 739) ⟨lk s c w fs vs u t (.list (sD own)) o cc d r (.list (sD heads)) "",[],[],pl⟩ Q:=by
 cases hh<;>cases ho<;>kernel_rfl
theorem Zcd(s c:D)(w:Nat)(fs vs:LV)(u t n o cc d r hs:D)(pl:Option Z8)(Q:Fl->St->Prop)(m:Str)(hm:m="numbers of columns of arguments do not match"\/m="names do not match previous names") :
  Q .next ⟨lk s c w fs vs u t n o cc d r hs m,[],[],pl⟩=(W {c:=20} 60).exs (sB 110 739) ⟨lk s c w fs vs u t n o cc d r hs m,[],[],pl⟩ Q:=by
 rcases hm with rfl|rfl<;>kernel_rfl
noncomputable def m1:Str:="numbers of columns of arguments do not match"
noncomputable def m2:Str:="names do not match previous names"
noncomputable def VW(heads:List Str)(due:Str)(g:G):Str:=if due="" then (Y8 heads g.names).getD "" else due
def Z8V(d:Str):Prop:=d=""\/d=m1\/d=m2
theorem Z31(heads own):Z8V ((Y8 heads own).getD ""):=by
 unfold Y8
 split
 ·exact .inr (.inl rfl)
 ·split
  ·exact .inl rfl
  ·exact .inr (.inr rfl)
theorem Vx:m1≠""/\m2≠"":=by decide +kernel
theorem Z5L(s c:D)(w:Nat)(fs vs:LV)(u t o r:D)(pl:Option Z8){wd}{heads}(hh:Nm wd heads)(gs:List G)(hg:∀ g∈gs,Nm wd g.names)(n cc d:D) :
  wpO (ZJ ((itp 80).exs (sB 110 739)) (sT 110 739) (gs.map G.raw) ⟨lk s c w fs vs u t n o cc d r (.list (sD heads)) "",[],[],pl⟩) fun f τ=>f=.next/\∃ n cc d,τ=⟨lk s c w fs vs u t n o cc d r (.list (sD heads)) (gs.foldl (VW heads) ""),[],[],pl⟩:=by
 have k:=ZG (α:=Str) (β:=G) (body:=(itp 80).exs (sB 110 739)) (t:=sT 110 739) G.raw (fun due σ=>Z8V due/\∃ n cc d,σ=⟨lk s c w fs vs u t n o cc d r (.list (sD heads)) due,[],[],pl⟩) (VW heads) (fun O gs=>∀ g∈gs,Nm wd g.names) (fun due g gs σ ok h=>?_) gs "" _ hg ⟨.inl rfl,n,cc,d,rfl⟩
 ·exact Z0 k fun f τ q=>⟨q.1,q.2.2⟩
 ·refine ⟨fun x hx=>ok x (List.mem_cons_of_mem _ hx),?_⟩
  have hn:=ok g List.mem_cons_self
  obtain ⟨hd,n,cc,d,rfl⟩:=h
  rw[show Zl (sT 110 739) g.raw ⟨lk s c w fs vs u t n o cc d r (.list (sD heads)) due,[],[],pl⟩=.ok () ⟨lk s c w fs vs u t (.list (sD g.names)) o (.list (g.cols.map Col.raw)) g.sd.side r (.list (sD heads)) due,[],[],pl⟩ by kernel_rfl]
  refine ZF ?_
  generalize ho:(itp 80).exs (sB 110 739) ⟨lk s c w fs vs u t (.list (sD g.names)) o (.list (g.cols.map Col.raw)) g.sd.side r (.list (sD heads)) due,[],[],pl⟩=o'
  rcases hd with rfl|hd
  ·refine Zy (A:={c:=20}) (n:=60) (Nat.le_refl _) ho (ZdA s c w fs vs u t o _ _ r pl _ hh hn) ⟨.inl rfl,?_,.list (sD g.names),.list (g.cols.map Col.raw),g.sd.side,?_⟩
   ·unfold VW;rw[if_pos rfl];exact Z31 _ _
   ·unfold VW;rw[if_pos rfl]
  ·have hne:due≠"":=by rcases hd with rfl|rfl;exact Vx.1;exact Vx.2
   refine Zy (A:={c:=20}) (n:=60) (Nat.le_refl _) ho (Zcd s c w fs vs u t _ o _ _ r _ pl _ due hd) ⟨.inl rfl,?_,.list (sD g.names),.list (g.cols.map Col.raw),g.sd.side,?_⟩
   ·unfold VW;rw[if_neg hne];exact .inr hd
   ·unfold VW;rw[if_neg hne]
theorem Z5M(heads):∀ (gs:List G),gs.foldl (VW heads) ""=(gs.findSome? fun g=>Y8 heads g.names).getD "":=by
 have stay:∀ (gs:List G) (m:Str),m≠""->gs.foldl (VW heads) m=m:=fun gs=>by
  induction gs with
  |nil=>intro m O;rfl
  |cons g gs ih=>intro m h;rw[List.foldl_cons,show VW heads m g=m from if_neg h];exact ih m h
 intro gs
 induction gs with
 |nil=>rfl
 |cons g gs ih=>
  rw[List.foldl_cons,List.findSome?_cons,show VW heads "" g=(Y8 heads g.names).getD "" from if_pos rfl]
  cases he:Y8 heads g.names with
  |none=>exact ih
  |some m=>
   refine stay gs m ?_
   have:=Z31 heads g.names
   rw[he] at this
   rcases this with h|h|h
   ·exfalso
    unfold Y8 at he
    refine ite_el he (fun q_ he=>?_) fun q_ he=>?_
    ·injection he with he;subst he;exact Vx.1 h
    ·refine ite_el he (fun q_ he=>?_) fun q_ he=>?_
     ·cases he
     ·injection he with he;subst he;exact Vx.2 h
   ·show m≠"";rw[show m=m1 from h];exact Vx.1
   ·show m≠"";rw[show m=m2 from h];exact Vx.2
noncomputable def Z3C:List Stmt:=match (LW[9]?:Option Stmt) with
 |some (.Try b O U V O1)=>b
 |O=>[]
theorem kT(σ):(itp 402).exs ((LW.drop 9).take 1) σ=(Z9n (Str.ofString "error") (Str.ofString "word") ((itp 401).exs Z3C σ)).bind KB:=by kernel_rfl
noncomputable abbrev lt(s c:D)(w:Nat)(fs vs:LV)(u t n o cc d r:D)(hs:D)(due:Str)(told:LV)(word:Str):Zc:=[("script",.fr s),("cells",.fr c),("pool",.fr .pool),("wide",.fr (.int (w:Int))),("frames",fs),("values",vs),("_",.fr u),("tall",.fr t),("names",.fr n),("oddity",.fr o),("columns",.fr cc),("sidelines",.fr d),("rows",.fr r),("heads",.fr hs),("due",.fr (.str due)),("told",told),("word",.fr (.str word))]
noncomputable abbrev le'(s c:D)(w:Nat)(fs vs:LV)(u t n o cc d r:D)(hs:D)(due:Str)(word:Str):Zc:=[("script",.fr s),("cells",.fr c),("pool",.fr .pool),("wide",.fr (.int (w:Int))),("frames",fs),("values",vs),("_",.fr u),("tall",.fr t),("names",.fr n),("oddity",.fr o),("columns",.fr cc),("sidelines",.fr d),("rows",.fr r),("heads",.fr hs),("due",.fr (.str due)),("word",.fr (.str word))]
theorem ZdB(s c)(w)(fs)(vs)(u t n o cc d r hs)(due)(cs nm k i a)(pl)(Q) :
  ((itp 361).call 95 [.list vs] pl=.ok (W5 cs nm k i a) pl/\Q .next ⟨lt s c w fs (.fr (.list vs)) u t n o cc d r hs due (W5 cs nm k i a) "",[],[],pl⟩) =
  (W {c:=361,S:=fun n O=>if n=95 then some (W5 cs nm k i a) else none} 40).exs Z3C ⟨lk s c w fs (.ol vs) u t n o cc d r hs due,[],[],pl⟩ Q:=by kernel_rfl
theorem Zce(s c)(w)(fs)(vs)(u t n o cc d r hs)(due)(pl) :
  (itp 401).exs Z3C ⟨lk s c w fs (.ol vs) u t n o cc d r hs due,[],[],pl⟩=(((match (itp 399).call 95 [.list vs] pl with
   |.ok lv pl=>(.ok (lv,none) ⟨lk s c w fs (.fr (.list vs)) u t n o cc d r hs due,[],[],pl⟩:Out R)
   |.exc m pl=>.exc m ⟨lk s c w fs (.fr (.list vs)) u t n o cc d r hs due,[],[],pl⟩
   |.stuck=>.stuck).bind (KA "told")).bind (fun f σ=>match f with
   |.next=>(itp 401).exs (Z3C.drop 1) σ
   |f=>.ok f σ)):=by kernel_rfl
theorem ZdC(s c)(w)(hs C0 d0 v0)(fs vs)(u t n o cc d r)(m)(hm:m=m1\/m=m2)(pl) :
  ((itp 433).call 109 [v0,hs,C0,d0] pl=.ok (.fr (.bool true)) pl/\Vw true pl) =
  (W {c:=433,S:=fun n O=>if n=109 then some (.fr (.bool true)) else none} 20).exs (LW.drop 10) ⟨le' s c w (.ol (.list [hs,C0,d0]::fs)) (.fr (.list (v0::vs))) u t n o cc d r hs m m,[],[],pl⟩ (Qr pl):=by
 rcases hm with rfl|rfl<;>kernel_rfl
theorem Zcf(cols)(hc:∀ c∈cols,c.small)(hn:cols.length<=3)(h0:cols≠[])(pl):∃ xs,(itp 160).call 105 [.list (cols.map Col.raw)] pl=.ok (.ol xs) pl/\D.list xs=(jn cols).raw:=by
 have hb:∀ k,k<=200->k < LIM:=fun k h=>Nat.lt_of_le_of_lt h (by decide)
 have cells:∀ d∈cols.flatMap Col.items,Z2J d:=fun d h=>by
  obtain ⟨c,h1,h2⟩:=List.mem_flatMap.mp h
  exact U3 (hc c h1).1 d h2
 have len:=(X0 hc hn (pl:=pl) trivial).2.2.1
 have txt:(cols.flatMap Col.items).map YJ=cols.flatMap Col.texts:=by
  rw[List.map_flatMap]
  have:∀ cols:List Col,(∀ c∈cols,c.small)->cols.flatMap (fun c=>c.items.map YJ)=cols.flatMap Col.texts:=fun cols=>by
   induction cols with
   |nil=>intro O;rfl
   |cons c cols ih=>intro h;simp only[List.flatMap_cons,List.flatMap_cons,U4 (h c List.mem_cons_self).1,ih fun c k=>h c (List.mem_cons_of_mem _ k)]
  exact this cols hc
 have call:=Z9D _ cells len pl
 rw[txt] at call
 have call:=Zg (by decide:60<=120) call
 cases hf:cols.head?.map Col.isF with
 |none=>induction cols with
  |nil=>exact absurd rfl h0
  |cons O U=>cases hf
 |some b=>
  cases b with
  |true=>
   induction cols with
   |nil=>exact Z3 hf
   |cons c cols=>
    induction c with
    |ci xs=>cases hf
    |cs xs=>cases hf
    |cf lw xs=>
     have run:=Z0s (.list ((Col.cf lw xs::cols).map Col.raw)) ((Col.cf lw xs::cols).flatMap Col.items) pl (.cf lw xs::cols) hc false [] (hb _ (by rw[List.length_nil];lia)) ⟨jw0 _ _ [],[],[],pl⟩ rfl
     refine ⟨_,ZX (A:={c:=120,S:=_,C:=Jg _,F:=Z9H _ _ _}) (n:=40) (Nat.le_of_ble_eq_true rfl) (Z0v _ _ lw xs (Ym [] (.cf lw xs::cols)) _ cols pl) (X0 hc hn ⟨Z0 run fun g τ q=>⟨q.1,?_⟩,fun O=>⟨call,rfl,rfl⟩,fun O=>⟨call,rfl,rfl⟩,trivial⟩),?_⟩
     ·obtain ⟨f,i,m,e|⟨k,e⟩⟩:=q.2
      ·exact .inl ⟨Z3u f i m m,e⟩
      ·exact .inr (.inl ⟨Z3u f i m k,e⟩)
     ·unfold jn
      rw[if_pos hf]
      rfl
  |false=>
   cases hi:cols.all Col.isI with
   |true=>
    refine ⟨_,ZX (A:={c:=120,C:=Jg _}) (n:=40) (Nat.le_of_ble_eq_true rfl) (Z0u _ _ pl cols hn hi h0) (X0 hc hn ⟨rfl,rfl⟩),?_⟩
    unfold jn
    rw[if_neg (by rw[hf];decide),if_pos hi]
    rfl
   |false=>
    refine ⟨_,ZX (A:={c:=120,S:=_,C:=Jg _}) (n:=40) (Nat.le_of_ble_eq_true rfl) (JI _ _ _ pl cols hn hi hf) (X0 hc hn ⟨call,rfl,rfl⟩),?_⟩
    unfold jn
    rw[if_neg (by rw[hf];decide),if_neg (by rw[hi];decide)]
    rfl
noncomputable abbrev cv(n c s:D):Zc:=[("names",.fr n),("columns",.fr c),("sidelines",.fr s)]
noncomputable abbrev WF:List Str:=["names","columns","sidelines"]
abbrev Z5N(H own CR:List D)(j:Int)(sd:D)(up:Zc)(pl:Option Z8)(Q:R->St->Prop):Prop:=
 Ze (Xg (.list H) (.int j) ⟨cv (.list own) (.list CR) sd,up,WF,pl⟩) fun h=>wpO (W8 (Str.ofString "index") (.list own) [h] ⟨cv (.list own) (.list CR) sd,up,WF,pl⟩) fun k τ=>Ze (Xg (.list CR) k.1.d τ) fun d=>Q (.fr d,none) τ
noncomputable abbrev lu0(s c:D)(w:Nat)(fs vs:LV)(u t n o cc d r:D)(hs:D)(due:Str)(told:LV)(word:Str)(j:Int):Zc:=[("script",.fr s),("cells",.fr c),("pool",.fr .pool),("wide",.fr (.int (w:Int))),("frames",fs),("values",vs),("_",.fr u),("tall",.fr t),("names",.fr n),("oddity",.fr o),("columns",.fr cc),("sidelines",.fr d),("rows",.fr r),("heads",.fr hs),("due",.fr (.str due)),("told",told),("word",.fr (.str word)),("spot",.fr (.int j))]
noncomputable abbrev luj(s c:D)(w:Nat)(fs vs:LV)(u t n o cc d r:D)(hs:D)(due:Str)(told:LV)(word:Str)(j:Int)(cl:D):Zc:=[("script",.fr s),("cells",.fr c),("pool",.fr .pool),("wide",.fr (.int (w:Int))),("frames",fs),("values",vs),("_",.fr u),("tall",.fr t),("names",.fr n),("oddity",.fr o),("columns",.fr cc),("sidelines",.fr d),("rows",.fr r),("heads",.fr hs),("due",.fr (.str due)),("told",told),("word",.fr (.str word)),("spot",.fr (.int j)),("column",.fr cl)]
theorem Zcg(s c)(w)(fs vs)(u t n o cc d r)(H own CR)(due word)(told)(j)(sd)(pl)(Q) :
  Z5N H own CR j sd (lu0 s c w fs vs u t n o cc d r (.list H) due told word j) pl Q=(W {c:=20} 40).ev (cE 110 755) ⟨cv (.list own) (.list CR) sd,lu0 s c w fs vs u t n o cc d r (.list H) due told word j,WF,pl⟩ Q:=by kernel_rfl
theorem Zch(s c)(w)(fs vs)(u t n o cc d r)(H own CR)(due word)(told)(j)(cl)(sd)(pl)(Q) :
  Z5N H own CR j sd (luj s c w fs vs u t n o cc d r (.list H) due told word j cl) pl Q=(W {c:=20} 40).ev (cE 110 755) ⟨cv (.list own) (.list CR) sd,luj s c w fs vs u t n o cc d r (.list H) due told word j cl,WF,pl⟩ Q:=by kernel_rfl
theorem JT{h}:∀ {own:List Str},h∈own->W7 h own=some (Xb h own)
 |t::r,hm=>by
  show (if h=t then some 0 else (W7 h r).map (fun O=>O+1))=_
  rw[Z5l]
  by_cases e:h=t
  ·rw[if_pos e,if_pos e]
  ·rw[if_neg e,if_neg e,JT (by rcases List.mem_cons.mp hm with h|h;exact absurd h e;exact h)]
   rfl
theorem Zci{w:Nat}{heads:List Str}{g:G}(hg:g.okw w){h:Str}(hm:h∈heads)(he:Y8 heads g.names=none)(H:List D)(j:Nat)(hH:H[j]?=some (.str h))(up:Zc)(pl:Option Z8){Q:R->St->Prop}
  (q:Q (.fr ((ZQ h g.fr).raw),none) ⟨cv (.list (sD g.names)) (.list (g.cols.map Col.raw)) g.sd.side,up,WF,pl⟩):Z5N H (sD g.names) (g.cols.map Col.raw) (j:Int) g.sd.side up pl Q:=by
 have hown:=Uu he h hm
 have h1:=KH hown
 have e1:Xg (.list H) (.int (j:Int)) ⟨cv (.list (sD g.names)) (.list (g.cols.map Col.raw)) g.sd.side,up,WF,pl⟩=some (.str h):=by
  show (if (0:Int)<=(j:Int) then H[((j:Nat):Int).toNat]? else none)=_
  rw[if_pos (by lia),Int.toNat_natCast,hH]
 unfold Z5N
 rw[e1]
 show wpO (W8 (Str.ofString "index") (.list (sD g.names)) [.str h] _) _
 have e2:W8 (Str.ofString "index") (.list (sD g.names)) [.str h] ⟨cv (.list (sD g.names)) (.list (g.cols.map Col.raw)) g.sd.side,up,WF,pl⟩=.ok (.fr (.int ((Xb h g.names:Nat):Int)),none) ⟨cv (.list (sD g.names)) (.list (g.cols.map Col.raw)) g.sd.side,up,WF,pl⟩:=by
  show ((opt ((strs? (sD g.names)).bind (W7 h)) _).bind fun i σ=>(.ok (.fr (.int i),none) σ:Out R))=_
  rw[U2]
  show ((opt (W7 h g.names) _).bind _)=_
  rw[JT hown]
  rfl
 rw[e2]
 show Ze (Xg (.list (g.cols.map Col.raw)) (.int ((Xb h g.names:Nat):Int)) _) _
 have e3:Xg (.list (g.cols.map Col.raw)) (.int ((Xb h g.names:Nat):Int)) ⟨cv (.list (sD g.names)) (.list (g.cols.map Col.raw)) g.sd.side,up,WF,pl⟩=some ((ZQ h g.fr).raw):=by
  show (if (0:Int)<=((Xb h g.names:Nat):Int) then (g.cols.map Col.raw)[((Xb h g.names:Nat):Int).toNat]? else none)=_
  rw[if_pos (by lia),Int.toNat_natCast,List.getElem?_map]
  have hl:Xb h g.names < g.cols.length:=by rw[hg.2.1];exact h1
  have e:g.cols[Xb h g.names]?=some (g.cols[Xb h g.names]):=List.getElem?_eq_getElem hl
  unfold ZQ
  show (g.cols[Xb h g.names]?).map Col.raw=some ((g.cols[Xb h g.names]?).getD (.ci [])).raw
  rw[e]
  rfl
 rw[e3]
 exact q
theorem Z1F{w:Nat}{heads:List Str}{h:Str}(hm:h∈heads)(gs:List G)(hg:∀ g∈gs,g.okw w)(he:∀ g∈gs,Y8 heads g.names=none)(H:List D)(j:Nat)(hH:H[j]?=some (.str h))(up:Zc)(pl:Option Z8)
  (hE:∀ (own CR:List D) (sd:D) (Q:R->St->Prop),Z5N H own CR (j:Int) sd up pl Q=(W {c:=20} 40).ev (cE 110 755) ⟨cv (.list own) (.list CR) sd,up,WF,pl⟩ Q) (h0:gs≠[]) :
  wpO (Zh (itp 60) (cT 110 755) [] (cE 110 755) (gs.map G.raw) ⟨[],up,WF,pl⟩) fun ds τ=>ds=gs.map (fun g=>(ZQ h g.fr).raw)/\τ.up=up/\τ.pl=pl:=by
 have k:=Xm (k:=60) (t:=cT 110 755) (elt:=cE 110 755) G.raw (fun σ=>σ=⟨[],up,WF,pl⟩) (fun σ=>∃ a b c,σ=⟨cv a b c,up,WF,pl⟩) (fun g=>(ZQ h g.fr).raw) gs (fun g hmg σ hσ=>?_) gs ⟨[],up,WF,pl⟩ (fun O h=>h) (.inl rfl)
 ·refine Z0 k fun ds τ q=>⟨q.1,?_⟩
  obtain ⟨a,b,c,rfl⟩:=q.2 (.inl h0)
  exact ⟨rfl,rfl⟩
 ·have e:Zl (cT 110 755) g.raw σ=.ok () ⟨cv (.list (sD g.names)) (.list (g.cols.map Col.raw)) g.sd.side,up,WF,pl⟩:=by
   rcases hσ with rfl|⟨a,b,c,rfl⟩<;>kernel_rfl
  rw[e]
  refine ZF ?_
  exact KE (A:={c:=20}) (n:=40) (Nat.le_refl _) (hE _ _ _ _) (Zci (hg g hmg) hm (he g hmg) H j hH up pl ⟨rfl,_,_,_,rfl⟩)
noncomputable def Zcj(PT:List (List D))(up:Zc):List D:=match ZM (Str.ofString "spot") up with
 |some (.fr (.int j))=>(PT[j.toNat]?).getD []
 |O=>[]
noncomputable def Sok(JR:D->List D)(labs:List D):Nat->List D->Option LV:=fun n ds=>
 if n=105 then (match ds with
  |[p]=>some (.ol (JR p))
  |O=>none)
 else if n=106 then some (.fr (.bool true))
 else if n=108 then some (.ol labs)
 else if n=109 then some (.fr (.bool true))
 else none
noncomputable def Cok(PT:List (List D)):Nat->Option (Zc->List D->List D × Zc):=fun l=>if l=755 then some (fun up O=>(Zcj PT up,up)) else none
noncomputable abbrev Aok(JR:D->List D)(labs:List D)(PT:List (List D)):Ask:={c:=433,S:=Sok JR labs,C:=Cok PT}
section
variable (s c:D)(w:Nat)(F:List D)(v0:D)(vs:List D)(u t n o cc d r:D)(hs TI:List D)(rk ra:D)(labs:List D)(JR:D->List D)(pl:Option Z8)
noncomputable abbrev upj(j:Nat)(prev:Option D):Zc:=match prev with
 |none=>lu0 s c w (.fr (.list F)) (.fr (.list (v0::vs))) u t n o cc d r (.list hs) "" (.fr (W5 (.list TI) (.list hs) rk (.list labs) ra).d) "" (j:Int)
 |some cl=>luj s c w (.fr (.list F)) (.fr (.list (v0::vs))) u t n o cc d r (.list hs) "" (.fr (W5 (.list TI) (.list hs) rk (.list labs) ra).d) "" (j:Int) cl
def oSp(R:Prop):Nat->List (List D)->List D->Option D->Prop:=fun O U V O1=>match O,U,V,O1 with
 |j,P::PS,x::xs,prev=>wpO (Zh (itp 433) (cT 110 755) [] (cE 110 755) F ⟨[],upj s c w F v0 vs u t n o cc d r hs TI rk ra labs j prev,WF,pl⟩) (fun ds τ=>ds=P/\τ.up=upj s c w F v0 vs u t n o cc d r hs TI rk ra labs j prev/\τ.pl=pl)/\P.length<=LIM /\
   (itp 433).call 105 [.list P] pl=.ok (.ol (JR (.list P))) pl/\(itp 433).call 106 [x,.list (JR (.list P))] pl=.ok (.fr (.bool true)) pl/\oSp R (j+1) PS xs (some (.list (JR (.list P))))
 |O,U,V,O1=>R
abbrev Zaa(C0 d0:D):Prop:=(itp 433).call 108 [.list F] pl=.ok (.ol labs) pl/\Ze ((eqL labs labs).map fun b=>!b) fun b=>cnd b (Vw false pl) ((itp 433).call 109 [v0,.list hs,C0,d0] pl=.ok (.fr (.bool true)) pl/\Vw true pl)
abbrev oOk(C0 d0:D)(PT:List (List D)):Prop:=
 Ze ((eqL hs hs).map fun b=>!b) fun b1=>cnd b1 (cnd b1 (Vw false pl) (oSp s c w F v0 vs u t n o cc d r hs TI rk ra labs JR pl (Zaa F v0 hs labs pl C0 d0) 0 PT TI none)) (oSp s c w F v0 vs u t n o cc d r hs TI rk ra labs JR pl (Zaa F v0 hs labs pl C0 d0) 0 PT TI none)
end
theorem kOk(s c)(w)(C0 d0)(fs)(v0)(vs)(u t n o cc d r)(rk ra)(labs)(JR)(pl) :
  ∀ (hs TI:List D) (PT:List (List D)),1<=hs.length/\hs.length<=3->TI.length=hs.length->PT.length=hs.length ->
  oOk s c w (.list [.list hs,C0,d0]::fs) v0 vs u t n o cc d r hs TI rk ra labs JR pl C0 d0 PT =
  (W (Aok JR labs PT) 20).exs (LW.drop 10) ⟨lt s c w (.ol (.list [.list hs,C0,d0]::fs)) (.fr (.list (v0::vs))) u t n o cc d r (.list hs) "" (W5 (.list TI) (.list hs) rk (.list labs) ra) "",[],[],pl⟩ (Qr pl):=by
 intro hs TI PT h h1 h2
 revert TI PT
 refine Xk (P:=fun hs=>∀ (TI:List D) (PT:List (List D)),TI.length=hs.length->PT.length=hs.length->oOk s c w (.list [.list hs,C0,d0]::fs) v0 vs u t n o cc d r hs TI rk ra labs JR pl C0 d0 PT=(W (Aok JR labs PT) 20).exs (LW.drop 10) ⟨lt s c w (.ol (.list [.list hs,C0,d0]::fs)) (.fr (.list (v0::vs))) u t n o cc d r (.list hs) "" (W5 (.list TI) (.list hs) rk (.list labs) ra) "",[],[],pl⟩ (Qr pl)) ?_ ?_ ?_ hs h
 ·exact fun a TI PT h1 h2=>pl1 (fun b=>pl1 (fun c=>by kernel_rfl) PT h2) TI h1
 ·exact fun a a' TI PT h1 h2=>pl2 (fun b b'=>pl2 (fun c c'=>by kernel_rfl) PT h2) TI h1
 ·exact fun a a' a'' TI PT h1 h2=>pl3 (fun b b' b''=>pl3 (fun c c' c''=>by kernel_rfl) PT h2) TI h1
def QFn:Fl->St->Prop:=fun f O=>f=Fl.ret (.fr (.bool true))
theorem Xn{m k n}{b}{σ}{o}{R:St->Prop}(hm:m<=k+1)(h:wpO ((itp m).exs (b.take n) σ) fun f τ=>f=.next/\R τ)(hob:(itp (k+1)).exs b σ=o)
  (next:∀ τ,R τ->∀ o,(itp (k+1)).exs (b.drop n) τ=o->wpO o QFn):wpO o QFn:=by
 refine Z3B n hob rfl (Z0 (Zs ((Zr hm).exs _ _) h) fun f τ q=>⟨fun O o ho=>next τ q.2 o ho,fun h=>absurd q.1 h⟩)
theorem Z1G{w}{h}(hh:Nm w h):Y8 h h=none:=by cases hh<;>decide +kernel
theorem Z3D{heads own}{m}(h:Y8 heads own=some m):m=m1\/m=m2:=by
 unfold Y8 at h
 split at h
 ·injection h with h;subst h;exact .inl rfl
 ·refine ite_el h (fun q_ h=>?_) fun q_ h=>?_
  ·cases h
  ·injection h with h;subst h;exact .inr rfl
theorem Z1H{w:Nat}{g:G}(h:g.okw w):g.fr.ok w:=⟨h.1,h.2.1,fun c hc=>⟨(h.2.2.1 c hc).1,by rw[(h.2.2.1 c hc).2];exact Nat.le_trans (V8 h.2.2.2) (by decide)⟩⟩
theorem Z3E{w:Nat}{g:G}(h:g.okw w):∀ c∈g.cols,c.three:=fun c hc=>⟨(h.2.2.1 c hc).1,by rw[(h.2.2.1 c hc).2];exact V8 h.2.2.2⟩
theorem Z3F(gs):∀ d∈Vd gs,V6 d:=by
 intro d hd
 unfold Vd at hd
 split at hd
 ·unfold Zi at hd
  obtain ⟨k,O,rfl⟩:=List.mem_map.mp hd
  exact .inr (.inl ⟨_,rfl⟩)
 ·exact Xl _ d hd
theorem Z5O(s c:D)(w:Nat)(v0:D)(vs:List D)(u t n o cc d r:D)(rk ra:D)(labs:List D)(pl:Option Z8)(gs:List G)(h0:gs≠[])(hn:gs.length<=3){heads}(hg:∀ g∈gs,g.okw w)(he:∀ g∈gs,Y8 heads g.names=none)(TI0:List D){R}(hR:R) :
  ∀ (hs pre:List Str) (j:Nat) (prev:Option D),heads=pre++hs->j=pre.length ->
  oSp s c w (Y2 gs) v0 vs u t n o cc d r (sD heads) TI0 rk ra labs (fun p=>match (itp 160).call 105 [p] pl with|.ok (.ol xs) O=>xs|O=>[]) pl R j (hs.map fun h=>gs.map fun g=>(ZQ h g.fr).raw) (hs.map fun h=>(jn (gs.map fun g=>ZQ h g.fr)).val) prev:=fun O U V O1 O2 O3=>match O,U,V,O1,O2,O3 with
 |[],O,U,V,O1,O2=>hR
 |h::hs,pre,j,prev,e,ej=>by
  have hm:h∈heads:=by rw[e];exact List.mem_append_right _ List.mem_cons_self
  have hH:(sD heads)[j]?=some (.str h):=by
   rw[e,ej]
   show ((pre++h::hs).map D.str)[pre.length]?=_
   rw[List.getElem?_map,List.getElem?_append_right (Nat.le_refl _),Nat.sub_self]
   rfl
  have hcols:∀ x∈gs.map (fun g=>ZQ h g.fr),x.small:=fun x hx=>by
   obtain ⟨g,hgm,rfl⟩:=List.mem_map.mp hx
   exact (Z1H (hg g hgm)).2.2 _ (Vu (Z1H (hg g hgm)) (he g hgm) hm).2
  have hne:gs.map (fun g=>ZQ h g.fr)≠[]:=by simpa using h0
  have hlen:(gs.map fun g=>ZQ h g.fr).length<=3:=by rw[List.length_map];exact hn
  obtain ⟨xs,e1,e2⟩:=Zcf (gs.map fun g=>ZQ h g.fr) hcols hlen hne pl
  have ep:(gs.map fun g=>(ZQ h g.fr).raw)=(gs.map fun g=>ZQ h g.fr).map Col.raw:=by rw[List.map_map];rfl
  have h106:=Zg (by decide:80<=433) (ZcR (gs.map fun g=>ZQ h g.fr) hcols hlen hne pl)
  have eJ:(match (itp 160).call 105 [.list (gs.map fun g=>(ZQ h g.fr).raw)] pl with|.ok (.ol xs) O=>xs|O=>[])=xs:=by rw[ep,e1]
  refine ⟨Zs (Yj (Zr (by decide:60<=433)) _ _ _ _ _) (Z1F hm gs hg he (sD heads) j hH _ pl ?_ h0),by rw[List.length_map];exact Nat.le_trans hn (by decide),?_,?_,Z5O s c w v0 vs u t n o cc d r rk ra labs pl gs h0 hn hg he TI0 hR hs (pre++[h]) (j+1) _ (by simp only[e,List.append_assoc];rfl) (by rw[List.length_append,ej];rfl)⟩
  ·intro own CR sd Q
   induction prev with
   |none=>exact Zcg s c w _ _ u t n o cc d r (sD heads) own CR _ _ _ _ sd pl Q
   |some cl=>exact Zch s c w _ _ u t n o cc d r (sD heads) own CR _ _ _ _ cl sd pl Q
  ·show (itp 433).call 105 [.list (gs.map fun g=>(ZQ h g.fr).raw)] pl=.ok (.ol (match (itp 160).call 105 [.list (gs.map fun g=>(ZQ h g.fr).raw)] pl with|.ok (.ol xs) O=>xs|O=>[])) pl
   rw[eJ,ep]
   exact Zg (by decide) e1
  ·show (itp 433).call 106 [_,.list (match (itp 160).call 105 [.list (gs.map fun g=>(ZQ h g.fr).raw)] pl with|.ok (.ol xs) O=>xs|O=>[])] pl=_
   rw[eJ,e2]
   exact h106
theorem Z3G(ns:List Int)(hb:ns.length<=63):wpO ((itp 100).exs (LW.take 1) ⟨[("script",.fr (.list (ns.map D.int)))],[],[],none⟩) fun f τ=>f=.next/\τ=⟨lw1 (ns.map D.int) (ns.map D.int),[],[],none⟩:=by
 have ht:(ns.map D.int).take 63=ns.map D.int:=List.take_of_length_le (by rw[List.length_map];exact hb)
 generalize ho:(itp 100).exs (LW.take 1) ⟨[("script",.fr (.list (ns.map D.int)))],[],[],none⟩=o
 refine Zy (A:={c:=60,C:=fun l=>if l=714 then some fun up xs=>(xs,up) else none}) (n:=40) (Nat.le_of_ble_eq_true rfl) ho (kL0 (ns.map D.int) none _) ?_
 rw[ht]
 refine ⟨Y5 (by kernel_rfl) id (fun d hd=>?_) fun σ hu hp=>⟨List.map_id _,hu,hp⟩,by rw[List.length_map];exact Nat.le_trans hb (by decide),rfl,rfl⟩
 obtain ⟨n,O,rfl⟩:=List.mem_map.mp hd
 exact YI 40 (by kernel_rfl)
theorem Z5P(X Y)(p)(hp:Zb p):wpO ((itp 120).exs ((LW.drop 2).take 3) ⟨lw2 X Y,[],[],some p⟩) fun f τ=>f=.next/\∃ w p',(w=1\/w=2)/\Zb p'/\τ=⟨lb0 (.list X) (.list Y) w [] [],[],[],some p'⟩:=by
 generalize ho:(itp 120).exs ((LW.drop 2).take 3) ⟨lw2 X Y,[],[],some p⟩=o
 exact Zy (A:={c:=20}) (n:=100) (Nat.le_refl _) ho (kL2 X Y p _) ⟨hp,⟨trivial,fun p' h=>⟨rfl,1,p',.inl rfl,h,rfl⟩⟩,fun p' h=>⟨rfl,2,p',.inr rfl,h,rfl⟩⟩
theorem Z1I(s c)(w)(hw:w=1\/w=2)(p)(hp:Zb p):wpO ((itp 240).exs ((LW.drop 5).take 1) ⟨lb0 s c w [] [],[],[],some p⟩) fun f τ=>f=.next/\∃ n,(1<=n/\n<=3)/\JL s c w n τ:=by
 generalize ho:(itp 240).exs ((LW.drop 5).take 1) ⟨lb0 s c w [] [],[],[],some p⟩=o
 have run:∀ (n:Nat) (xs:List D),xs.length=n->1<=n/\n<=3->∀ p',Zb p'->wpO (ZJ ((itp 200).exs LB) (sT 110 719) xs ⟨lb0 s c w [] [],[],[],some p'⟩) (nx fun f τ=>f=.next/\∃ n,(1<=n/\n<=3)/\JL s c w n τ):=fun n xs hx hn p' hp'=>
  Yq (R:=fun O τ=>JL s c w n τ) (by rw[<-hx];exact Z5J s c w hw xs (by lia) _ ⟨[],p',rfl,fun g h=>(by cases h),hp',.inl ⟨rfl,rfl⟩⟩) fun τ hτ=>⟨rfl,n,hn,hτ⟩
 exact Zy (A:={c:=200,L:=[719]}) (n:=40) (Nat.le_of_ble_eq_true rfl) ho (kL5 s c w p _) ⟨hp,⟨⟨trivial,fun p' h=>run 1 _ rfl (by decide) p' h⟩,fun p' h=>run 2 _ rfl (by decide) p' h⟩,fun p' h=>run 3 _ rfl (by decide) p' h⟩
theorem Z3H(s c)(w)(g0)(gs)(u t n o cc d r)(pl):wpO ((itp 200).exs ((LW.drop 6).take 2) ⟨lj s c w (Y2 (g0::gs)) (ZC (g0::gs)) u (.fr t) (.fr n) (.fr o) (.fr cc) (.fr d) (.fr r),[],[],pl⟩) fun f τ=>f=.next/\τ=⟨lk s c w (.ol (Y2 (g0::gs))) (.ol (ZC (g0::gs))) u t n o cc d r (.list (sD g0.names)) "",[],[],pl⟩:=by
 generalize ho:(itp 200).exs ((LW.drop 6).take 2) ⟨lj s c w (Y2 (g0::gs)) (ZC (g0::gs)) u (.fr t) (.fr n) (.fr o) (.fr cc) (.fr d) (.fr r),[],[],pl⟩=o'
 exact Zy (A:={c:=20}) (n:=180) (Nat.le_refl _) ho (kL6 s c w (.list (sD g0.names)) (.list (g0.cols.map Col.raw)) g0.sd.side (Y2 gs) (ZC (g0::gs)) u t n o cc d r pl _) ⟨rfl,rfl⟩
theorem Z7Q(s c)(w)(g0)(gs)(hg:∀ g∈g0::gs,G.okw w g)(u t n o cc d r)(pl):wpO ((itp 200).exs ((LW.drop 8).take 1) ⟨lk s c w (.ol (Y2 (g0::gs))) (.ol (ZC (g0::gs))) u t n o cc d r (.list (sD g0.names)) "",[],[],pl⟩) fun f τ=>f=.next/\∃ n cc d,τ=⟨lk s c w (.ol (Y2 (g0::gs))) (.ol (ZC (g0::gs))) u t n o cc d r (.list (sD g0.names)) ((Yu g0.names ((g0::gs).map G.fr)).getD ""),[],[],pl⟩:=by
 have hh:=(hg g0 List.mem_cons_self).1
 have e:(Yu g0.names ((g0::gs).map G.fr)).getD ""=gs.foldl (VW g0.names) "":=by
  rw[Z5M]
  unfold Yu
  simp only[List.map_cons,List.findSome?_cons,show Y8 g0.names g0.fr.names=none from Z1G hh,List.findSome?_map]
  rfl
 rw[e]
 generalize ho:(itp 200).exs ((LW.drop 8).take 1) ⟨lk s c w (.ol (Y2 (g0::gs))) (.ol (ZC (g0::gs))) u t n o cc d r (.list (sD g0.names)) "",[],[],pl⟩=o'
 refine Zy (A:={c:=80,L:=[739]}) (n:=120) (Nat.le_of_ble_eq_true rfl) ho (kL8 s c w (.list (sD g0.names)) g0.raw (Y2 gs) (.ol (ZC (g0::gs))) u t n o cc d r pl _) ?_
 exact Yq (R:=fun O τ=>∃ n cc d,τ=⟨lk s c w (.ol (Y2 (g0::gs))) (.ol (ZC (g0::gs))) u t n o cc d r (.list (sD g0.names)) (gs.foldl (VW g0.names) ""),[],[],pl⟩) (Z5L s c w _ _ u t o r pl hh gs (fun g h=>(hg g (List.mem_cons_of_mem _ h)).1) n cc d) fun τ hτ=>⟨rfl,hτ⟩
theorem Zab(s c)(w)(fs)(vs)(u t n o cc d r hs)(due)(cs nm k i a)(pl)(h95:(itp 361).call 95 [.list vs] pl=.ok (W5 cs nm k i a) pl) :
  wpO ((itp 402).exs ((LW.drop 9).take 1) ⟨lk s c w fs (.ol vs) u t n o cc d r hs due,[],[],pl⟩) fun f τ=>f=.next/\τ=⟨lt s c w fs (.fr (.list vs)) u t n o cc d r hs due (W5 cs nm k i a) "",[],[],pl⟩:=by
 rw[kT]
 have h:wpO ((itp 401).exs Z3C ⟨lk s c w fs (.ol vs) u t n o cc d r hs due,[],[],pl⟩) fun f τ=>f=.next/\τ=⟨lt s c w fs (.fr (.list vs)) u t n o cc d r hs due (W5 cs nm k i a) "",[],[],pl⟩:=by
  generalize ho:(itp 401).exs Z3C ⟨lk s c w fs (.ol vs) u t n o cc d r hs due,[],[],pl⟩=o'
  exact Zy (A:={c:=361,S:=_}) (n:=40) (Nat.le_of_ble_eq_true rfl) ho (ZdB s c w fs vs u t n o cc d r hs due cs nm k i a pl _) ⟨h95,rfl,rfl⟩
 obtain ⟨f,τ,e,rfl,rfl⟩:=Kv h
 rw[e]
 exact ⟨rfl,rfl⟩
theorem Z7R(s c)(w)(fs)(vs)(u t n o cc d r hs)(due m)(pl)(h95:(itp 399).call 95 [.list vs] pl=.exc m pl) :
  wpO ((itp 402).exs ((LW.drop 9).take 1) ⟨lk s c w fs (.ol vs) u t n o cc d r hs due,[],[],pl⟩) fun f τ=>f=.next/\τ=⟨le' s c w fs (.fr (.list vs)) u t n o cc d r hs due m,[],[],pl⟩:=by
 rw[kT,Zce,h95]
 show wpO ((if ZM (Str.ofString "error") (lk s c w fs (.fr (.list vs)) u t n o cc d r hs due)=none then .ok .next ⟨ZA (Str.ofString "word") (.fr (.str m)) (lk s c w fs (.fr (.list vs)) u t n o cc d r hs due),[],[],pl⟩ else .stuck:Out Fl).bind KB) _
 have e:ZM (Str.ofString "error") (lk s c w fs (.fr (.list vs)) u t n o cc d r hs due)=none:=by kernel_rfl
 rw[if_pos e]
 have e2:ZA (Str.ofString "word") (.fr (.str m)) (lk s c w fs (.fr (.list vs)) u t n o cc d r hs due)=le' s c w fs (.fr (.list vs)) u t n o cc d r hs due m:=by kernel_rfl
 rw[e2]
 exact ⟨rfl,rfl⟩
theorem Z7S(s c)(w)(g0)(gs)(hg:∀ g∈g0::gs,G.okw w g)(hn:gs.length<=2)(u t n o cc d r)(pl)(oo)
  (ho:(itp (459+1)).exs (LW.drop 9) ⟨lk s c w (.ol (Y2 (g0::gs))) (.ol (ZC (g0::gs))) u t n o cc d r (.list (sD g0.names)) ((Yu g0.names ((g0::gs).map G.fr)).getD ""),[],[],pl⟩=oo):wpO oo QFn:=by
 have hh:=(hg g0 List.mem_cons_self).1
 have hnl:=Wd hh
 have hsd:∀ g∈g0::gs,g.sd.ok:=fun g h=>(hg g h).2.2.2
 have hfr:∀ f∈g0.fr::gs.map G.fr,f.ok w:=fun f hf=>by
  have hf:f∈(g0::gs).map G.fr:=hf
  obtain ⟨g,hgm,rfl⟩:=List.mem_map.mp hf
  exact Z1H (hg g hgm)
 have hvals:ZC (g0::gs)=(g0.fr::gs.map G.fr).map Fr.val:=by
  show _=((g0::gs).map G.fr).map Fr.val
  rw[List.map_map];rfl
 have h109:=Zg (by decide:432<=433) (Zdr g0.cols (by rw[(hg g0 List.mem_cons_self).2.1];exact hnl) (Z3E (hg g0 List.mem_cons_self)) g0.sd (hsd g0 List.mem_cons_self) g0.names (hg g0 List.mem_cons_self).2.1.symm pl)
 have e10:∀ l:List Stmt,(l.drop 9).drop 1=l.drop 10:=fun l=>by rw[List.drop_drop]
 have toQFn:∀ {o:Out Fl},wpO o (Qr pl)->wpO o QFn:=fun h=>Z0 h fun f σ q=>q.1
 cases hE:Yu g0.names ((g0::gs).map G.fr) with
 |none=>
  rw[hE] at ho
  have he:∀ g∈g0::gs,Y8 g0.names g.names=none:=fun g hgm=>by
   unfold Yu at hE
   exact List.findSome?_eq_none_iff.mp hE g.fr (List.mem_map.mpr ⟨g,hgm,rfl⟩)
  obtain ⟨kk,hk⟩:=Z5E (g0::gs)
  have h94:=Zg (by decide:262<=300) (L94 (g0::gs) (by simp) hsd (by rw[List.length_cons];lia) pl)
  rw[hk] at h94
  have h94:(itp 300).call 94 [.list ((g0.fr::gs.map G.fr).map Fr.val)] pl=.ok (.ov kk (.list (Vd (g0::gs))) .none false) pl:=by rw[<-hvals];exact h94
  have h95:=L95 (w:=w) g0.fr (gs.map G.fr) (by rw[List.length_map];exact hn) hfr (fun f hf=>by
   have hf:f∈(g0::gs).map G.fr:=hf
   obtain ⟨g,hgm,rfl⟩:=List.mem_map.mp hf
   exact he g hgm) kk (.list (Vd (g0::gs))) .none pl h94
  have h95:=Zg (by decide:360<=361) h95
  rw[<-hvals] at h95
  have hTI:(VJ g0.fr.names (g0.fr::gs.map G.fr)).map Col.val=g0.names.map fun h=>(jn ((g0::gs).map fun g=>ZQ h g.fr)).val:=by
   unfold VJ
   rw[List.map_map]
   refine List.map_congr_left fun h O=>?_
   show (jn (((g0::gs).map G.fr).map (ZQ h))).val=_
   rw[List.map_map]
   rfl
  rw[hTI] at h95
  refine Xn (m:=402) (by decide) (Zab s c w _ _ u t n o cc d r _ _ _ _ _ _ _ pl h95) ho fun τ hτ o2 ho2=>?_
  subst hτ
  rw[e10] at ho2
  have ho3:OLe ((itp 453).exs (LW.drop 10) ⟨lt s c w (.ol (Y2 (g0::gs))) (.fr (.list (ZC (g0::gs)))) u t n o cc d r (.list (sD g0.names)) "" (W5 (.list (g0.names.map fun h=>(jn ((g0::gs).map fun g=>ZQ h g.fr)).val)) (.list (sD g0.fr.names)) kk (.list (Vd (g0::gs))) .none) "",[],[],pl⟩) o2:=by rw[<-ho2];exact (Zr (by decide:453<=459+1)).exs _ _
  refine Zs ho3 (toQFn ?_)
  generalize ho4:(itp 453).exs (LW.drop 10) ⟨lt s c w (.ol (Y2 (g0::gs))) (.fr (.list (ZC (g0::gs)))) u t n o cc d r (.list (sD g0.names)) "" (W5 (.list (g0.names.map fun h=>(jn ((g0::gs).map fun g=>ZQ h g.fr)).val)) (.list (sD g0.fr.names)) kk (.list (Vd (g0::gs))) .none) "",[],[],pl⟩=o4
  have hR:Zaa (Y2 (g0::gs)) g0.fr.val (sD g0.names) (Vd (g0::gs)) pl (.list (g0.cols.map Col.raw)) g0.sd.side:=by
   refine ⟨Zg (by decide) (Zd5 (g0::gs) (by simp) hsd (by rw[List.length_cons];lia) pl),?_⟩
   rw[Yt (Z3F _)]
   exact ⟨h109,rfl,rfl⟩
  have hS:=Z5O s c w g0.fr.val (ZC gs) u t n o cc d r kk .none (Vd (g0::gs)) pl (g0::gs) (by simp) (by rw[List.length_cons];lia) hg he (g0.names.map fun h=>(jn ((g0::gs).map fun g=>ZQ h g.fr)).val) hR g0.names [] 0 none rfl rfl
  refine Zy (A:=Aok _ (Vd (g0::gs)) (g0.names.map fun h=>(g0::gs).map fun g=>(ZQ h g.fr).raw)) (n:=20) (Nat.le_of_ble_eq_true rfl) ho4 (kOk s c w (.list (g0.cols.map Col.raw)) g0.sd.side (Y2 gs) g0.fr.val (ZC gs) u t n o cc d r kk .none (Vd (g0::gs)) (fun p=>match (itp 160).call 105 [p] pl with|.ok (.ol xs) O=>xs|O=>[]) pl (sD g0.names) _ _ (by rw[ZT];exact hnl) (by rw[List.length_map,ZT]) (by rw[List.length_map,ZT])) ?_
  unfold oOk
  rw[Yt (Xl _)]
  exact hS
 |some m=>
  rw[hE] at ho
  have hm:m=m1\/m=m2:=by
   unfold Yu at hE
   obtain ⟨f,O,hf⟩:=List.exists_of_findSome?_eq_some hE
   exact Z3D hf
  have h95:=Uv (by decide:123<=399) (ZcY (w:=w) g0.fr (gs.map G.fr) (by rw[List.length_map];exact hn) hfr m hE pl)
  rw[<-hvals] at h95
  refine Xn (m:=402) (by decide) (Z7R s c w _ _ u t n o cc d r _ _ m pl h95) ho fun τ hτ o2 ho2=>?_
  subst hτ
  rw[e10] at ho2
  have ho3:OLe ((itp 453).exs (LW.drop 10) ⟨le' s c w (.ol (Y2 (g0::gs))) (.fr (.list (ZC (g0::gs)))) u t n o cc d r (.list (sD g0.names)) m m,[],[],pl⟩) o2:=by rw[<-ho2];exact (Zr (by decide:453<=459+1)).exs _ _
  refine Zs ho3 (toQFn ?_)
  generalize ho4:(itp 453).exs (LW.drop 10) ⟨le' s c w (.ol (Y2 (g0::gs))) (.fr (.list (ZC (g0::gs)))) u t n o cc d r (.list (sD g0.names)) m m,[],[],pl⟩=o4
  exact Zy (A:={c:=433,S:=fun n O=>if n=109 then some (.fr (.bool true)) else none}) (n:=20) (Nat.le_of_ble_eq_true rfl) ho4 (ZdC s c w (.list (sD g0.names)) (.list (g0.cols.map Col.raw)) g0.sd.side g0.fr.val (Y2 gs) (ZC gs) u t n o cc d r m hm pl) ⟨h109,rfl,rfl⟩
theorem Z5Q(ns:List Int)(h:ns.length<=63):∃ n pl',n<=500/\(itp n).call 110 [.list (ns.map .int)] none=.ok (.fr (.bool true)) pl':=by
 have main:∃ lv pl',(itp 461).call 110 [.list (ns.map .int)] none=.ok lv pl'/\lv=.fr (.bool true):=by
  refine YW (k:=460) (Q:=fun lv O=>lv=.fr (.bool true)) (vs:=[("script",.fr (.list (ns.map D.int)))]) (by kernel_rfl) (by kernel_rfl) (by kernel_rfl) ?_
  generalize ho:(itp 460).exs (Za 110) ⟨[("script",.fr (.list (ns.map D.int)))],[],[],none⟩=o
  have fin:wpO o QFn->wpO o fun f σ=>∃ lv,f=Fl.ret lv/\lv=.fr (.bool true):=fun h=>Z0 h fun f σ q=>⟨_,q,rfl⟩
  refine fin ?_
  have d1:∀ l:List Stmt,(l.drop 1).drop 1=l.drop 2:=fun l=>by rw[List.drop_drop]
  have d2:∀ l:List Stmt,(l.drop 2).drop 3=l.drop 5:=fun l=>by rw[List.drop_drop]
  have d3:∀ l:List Stmt,(l.drop 5).drop 1=l.drop 6:=fun l=>by rw[List.drop_drop]
  have d4:∀ l:List Stmt,(l.drop 6).drop 2=l.drop 8:=fun l=>by rw[List.drop_drop]
  have d5:∀ l:List Stmt,(l.drop 8).drop 1=l.drop 9:=fun l=>by rw[List.drop_drop]
  refine Xn (k:=459) (m:=100) (n:=1) (by decide) (Z3G ns h) ho fun τ hτ o ho=>?_
  subst hτ
  refine Xn (k:=459) (m:=100) (n:=1) (by decide) (Z5K _ ns h) ho fun τ hτ o ho=>?_
  obtain ⟨p,hp,rfl⟩:=hτ
  rw[d1] at ho
  refine Xn (k:=459) (m:=120) (n:=3) (by decide) (Z5P _ _ p hp) ho fun τ hτ o ho=>?_
  obtain ⟨w,p,hw,hp,rfl⟩:=hτ
  rw[d2] at ho
  refine Xn (k:=459) (m:=240) (n:=1) (by decide) (Z1I _ _ w hw p hp) ho fun τ hτ o ho=>?_
  rw[d3] at ho
  obtain ⟨n,hn,gs,p,hgl,hgs,hp,⟨h0,O⟩|⟨u,t,nm,od,cc,d,r,rfl⟩⟩:=hτ
  ·lia
  induction gs with
  |nil=>rw[List.length_nil] at hgl;lia
  |cons g0 gs=>
   rw[List.length_cons] at hgl
   refine Xn (k:=459) (m:=200) (n:=2) (by decide) (Z3H _ _ w g0 gs u t nm od cc d r (some p)) ho fun τ hτ o ho=>?_
   subst hτ
   rw[d4] at ho
   refine Xn (k:=459) (m:=200) (n:=1) (by decide) (Z7Q _ _ w g0 gs hgs u t nm od cc d r (some p)) ho fun τ hτ o ho=>?_
   obtain ⟨nm,cc,d,rfl⟩:=hτ
   rw[d5] at ho
   exact Z7S _ _ w g0 gs hgs (by lia) u t nm od cc d r (some p) o ho
 obtain ⟨lv,pl',e,rfl⟩:=main
 exact ⟨461,pl',by decide,e⟩
end NZ.Internal
namespace NZ.Internal
open PySem PySem.Calls PyProof.Rows PySem.W
set_option genInjectivity true in
set_option genCtorIdx true in
inductive Own where
 |frozen
 |foreign
 |tmp
 |slot (x:Str)
 |poolP
 |poolC
 deriving DecidableEq
noncomputable abbrev Z5:=Addr->Own
def VD(es:Array DictEntry):Prop:=StrKeys es/\(nsFind es "shared").isSome=true/\es.size<=1000
def WV(v:Value):Prop:=v=.type "traceback"\/∃ a,v=.ref a
theorem X2{T}(h:T≠"traceback"):¬ WV (.type T):=by
 rintro (q|⟨O,q⟩)
 ·injection q with q;exact h q
 ·cases q
def Z3I(od:Obj):Prop:=od.cls=.type "dict"/\∃ es n,od.data=.dict es n/\es.size<=1000
inductive Sim:Obj->Obj->Prop where
 |refl (o:Obj):Sim o o
 |slots {o:Obj} (sl:Array (Option Value)):o.cls=.type "frame"->Sim o {o with slots:=sl}
 |vd {o o':Obj} {es es':Array DictEntry} {n n':Nat}:o.cls=.type "dict"->o'.cls=.type "dict"->o'.dict=o.dict->o.data=.dict es n->o'.data=.dict es' n'->VD es->VD es' ->
   (∀ x,x≠("shared":Str)->nsFind es' x=nsFind es x)->Sim o o'
 |fld {o o':Obj} {vs vs':Array Value}:o.cls≠.type "frame"->o.cls≠.type "dict"->WV o.cls->o'.cls=o.cls->o'.dict=o.dict->o.data=.fields vs->o'.data=.fields vs'->vs'.size=vs.size->Sim o o'
theorem Sim.cls{o o'}(h:Sim o o'):o'.cls=o.cls:=by
 induction h with
 |refl=>rfl
 |slots=>rfl
 |vd h1 h2=>rw[h1,h2]
 |fld O U V h=>exact h
theorem Sim.trans{a b d}(x:Sim a b)(y:Sim b d):Sim a d:=by
 induction x with
 |refl=>exact y
 |slots sl hc=>induction y with
  |refl=>exact .slots sl hc
  |slots sl' O=>exact .slots sl' hc
  |vd h1=>exact absurd (hc.symm.trans h1) (by decide)
  |fld h1=>exact absurd hc h1
 |vd h1 h2 hd h3 h4 h5 h6 h7=>induction y with
  |refl=>exact .vd h1 h2 hd h3 h4 h5 h6 h7
  |slots sl hc=>exact absurd (h2.symm.trans hc) (by decide)
  |vd g1 g2 gd g3 g4 g5 g6 g7=>
   rw[h4] at g3;cases g3
   exact .vd h1 g2 (gd.trans hd) h3 g4 h5 g6 fun x hx=>(g7 x hx).trans (h7 x hx)
  |fld h1' h2'=>exact absurd h2 h2'
 |fld h1 h2 h3 h4 h5 h6 h7 h8=>induction y with
  |refl=>exact .fld h1 h2 h3 h4 h5 h6 h7 h8
  |slots O hc=>exact absurd (h4.symm.trans hc) h1
  |vd hc=>exact absurd (h4.symm.trans hc) h2
  |fld g1 g2 g3 g4 g5 g6 g7 g8=>
   rw[h7] at g6;cases g6
   exact .fld h1 h2 h3 (g4.trans h4) (g5.trans h5) h6 g7 (g8.trans h8)
theorem Sim.eq_of{o o'}(h:Sim o o')(h1:o.cls≠.type "frame")(h2:o.cls≠.type "dict")(h3:(∀ vs,o.data≠.fields vs)\/¬ WV o.cls):o'=o:=by
 induction h with
 |refl=>rfl
 |slots O hc=>exact absurd hc h1
 |vd hc=>exact absurd hc h2
 |fld O U k3 V O1 k6=>
  rcases h3 with h3|h3
  ·exact absurd k6 (h3 _)
  ·exact absurd k3 h3
theorem Sim.eq_dict{o o'}{es}{n}(h:Sim o o')(h1:o.cls=.type "dict")(hd:o.data=.dict es n)(hs:nsFind es "shared"=none):o'=o:=by
 induction h with
 |refl=>rfl
 |slots O hc=>exact absurd (h1.symm.trans hc) (by decide)
 |vd O U V h3 O1 h5=>rw[hd] at h3;injection h3 with h3;subst h3;rw[VD,hs] at h5;cases h5.2.1
 |fld O hc=>exact absurd h1 hc
theorem Sim.ns{h h':Heap}{a:Addr}{o o':Obj}{m:Str->Option Value}(x:Sim o o')(e:h.get? a=some o)(e':h'.get? a=some o')(hn:h.Ns a m)(hm:m "shared"=none):h'.Ns a m:=by
 obtain ⟨p,es,ep,hp,hd,hk,hf⟩:=hn
 rw[e] at hp;cases hp
 induction x with
 |refl=>exact ⟨_,_,_,e',hd,hk,hf⟩
 |slots=>exact ⟨_,_,_,e',hd,hk,hf⟩
 |vd O U V h3 O1 h5=>rw[hd] at h3;injection h3 with h3;subst h3;have:=h5.2.1;rw[hf,hm] at this;exact Z4 this
 |fld O U V O1 O2 h3=>rw[hd] at h3;cases h3
theorem Sim.nsV{h h':Heap}{a:Addr}{o o':Obj}{m:Str->Option Value}(x:Sim o o')(e:h.get? a=some o)(e':h'.get? a=some o')(hn:h.Ns a m) :
  ∃ m',h'.Ns a m'/\(∀ y,y≠("shared":Str)->m' y=m y)/\((m "shared").isSome=true->(m' "shared").isSome=true):=by
 refine gG fun G gk=>?_
 obtain ⟨p,es,ep,hp,hd,hk,hf⟩:=hn
 refine gk ?_
 rw[e] at hp;obtain rfl:=Option.some.inj hp
 induction x with
 |refl=>exact ⟨m,⟨_,_,_,e',hd,hk,hf⟩,fun O O=>rfl,id⟩
 |slots=>exact ⟨m,⟨_,_,_,e',hd,hk,hf⟩,fun O O=>rfl,id⟩
 |vd O U V h3 h4 h5 h6 h7=>
  rw[hd] at h3;cases h3
  exact ⟨nsFind _,⟨_,_,_,e',h4,h6.1,fun O=>rfl⟩,fun y hy=>(h7 y hy).trans (hf y),fun O=>h6.2.1⟩
 |fld O U V O1 O2 h3=>rw[hd] at h3;cases h3
theorem Z3I.sim{o o'}(x:Z3I o)(s:Sim o o'):Z3I o':=by
 obtain ⟨h1,es,n,h2,h3⟩:=x
 induction s with
 |refl=>exact ⟨h1,es,n,h2,h3⟩
 |slots=>exact ⟨h1,es,n,h2,h3⟩
 |vd O k2 U V k5 O1 k7=>exact ⟨k2,_,_,k5,k7.2.2⟩
 |fld O U V O1 O2 k6=>rw[h2] at k6;cases k6
structure Cx where
 w:World
 K:Frag
 h₀:Heap
 CV:Addr
 CN:Addr
 CR:Addr
 p:Program
 loose:List Str
 mg:Str->Option Value
 mb:Str->Option Value
 X:K.In h₀
 T:TopRead p loose mg mb h₀
variable (c:Cx)
noncomputable def Cx.n₀:Nat:=c.h₀.objs.size
def VX(ow:Z5)(h h':Heap):Prop:=
 h.objs.size<=h'.objs.size/\∀ a o,h.get? a=some o->ow a≠.poolP->ow a≠.poolC->∃ o',h'.get? a=some o'/\Sim o o'/\(a < c.n₀->o'=o)
variable {c}
theorem VX.refl{ow}(h):VX c ow h h:=⟨Nat.le_refl _,fun O o e O O=>⟨o,e,.refl _,fun O=>rfl⟩⟩
theorem VX.trans{ow ow'}{h1_ h2_ h3_}(x:VX c ow h1_ h2_)(y:VX c ow' h2_ h3_)(ho:∀ a,a < h1_.objs.size->ow a≠.poolP->ow a≠.poolC->ow' a≠.poolP/\ow' a≠.poolC):VX c ow h1_ h3_:=
 ⟨Nat.le_trans x.1 y.1,fun a o e n1 n2=>by
  refine gG fun G gk=>?_
  obtain ⟨o2_,e2_,s2_,k2_⟩:=x.2 a o e n1 n2
  obtain ⟨p1,p2⟩:=ho a (Heap.lt_size e) n1 n2
  obtain ⟨o3_,e3_,s3_,k3_⟩:=y.2 a o2_ e2_ p1 p2
  refine gk ?_
  exact ⟨o3_,e3_,s2_.trans s3_,fun hl=>(k3_ hl).trans (k2_ hl)⟩⟩
theorem VX.of_keeps{ow}{h h'}(hs:h.objs.size<=h'.objs.size)(k:∀ a o,h.get? a=some o->h'.get? a=some o):VX c ow h h':=
 ⟨hs,fun a o e O O=>⟨o,k a o e,.refl _,fun O=>rfl⟩⟩
variable (c)
def UC(ob:Obj)(vs:Array Value):Prop:=ob.cls=.type "list"/\(ob.dict=none/\ob.slots=#[])/\∃ n,ob.data=.seq vs n
def Z5R(ob:Obj)(vs:Array Value):Prop:=ob.cls=.type "tuple"/\(ob.dict=none/\ob.slots=#[])/\∃ n,ob.data=.seq vs n
def KR(es:Array DictEntry)(kvs:List (Str × D)):Prop:=
 es.size=kvs.length/\kvs.length<=LIM/\(kvs.map (fun O=>O.1)).Nodup/\(∀ (i:Nat) (e:DictEntry) (p:Str × D),es[i]?=some e->kvs[i]?=some p->(∃ t,e.key=.str p.1 t)/\e.hash=hashStr c.w p.1/\p.1≠("shared":Str))
def ExD(a:Addr)(ob:Obj):Prop:=ob.ExactDict/\(a == sysModules)=false
def Z5S(ob:Obj)(a b:Int):Prop:=∃ t1 t2 t3,ob={cls:=.type "range",data:=.fields #[.int a t1,.int b t2,.int 1 t3]}
inductive Rep(h:Heap)(ow:Z5):Value->D->Prop where
 |none:Rep h ow .none .none
 |bool (b:Bool):Rep h ow (.bool b) (.bool b)
 |int (i:Int) (t:Tok):Rep h ow (.int i t) (.int i)
 |str (s:Str) (t:Tok):Rep h ow (.str s t) (.str s)
 |list {a:Addr} {ob:Obj} {vs:Array Value} {ds:List D}:ow a=.frozen->h.get? a=some ob->UC ob vs->vs.size=ds.length->ds.length<=LIM ->
   (∀ (i:Nat) (v:Value) (d:D),vs[i]?=some v->ds[i]?=some d->Rep h ow v d)->Rep h ow (.ref a) (.list ds)
 |tup {a:Addr} {ob:Obj} {vs:Array Value} {ds:List D}:ow a=.frozen->h.get? a=some ob->Z5R ob vs->vs.size=ds.length->ds.length<=LIM ->
   (∀ (i:Nat) (v:Value) (d:D),vs[i]?=some v->ds[i]?=some d->Rep h ow v d)->Rep h ow (.ref a) (.tup ds)
 |dict {a:Addr} {ob:Obj} {es:Array DictEntry} {n:Nat} {kvs:List (Str × D)}:ow a=.frozen->h.get? a=some ob->ExD a ob->ob.data=.dict es n->KR c es kvs ->
   (∀ (i:Nat) (e:DictEntry) (p:Str × D),es[i]?=some e->kvs[i]?=some p->Rep h ow e.val p.2)->Rep h ow (.ref a) (.dict kvs)
 |vec {a dx:Addr} {od:Obj} {m:Str->Option Value} {vk vi va:Value} {k i t:D}:ow a=.frozen->ow dx=.frozen->c.n₀<=dx->h.get? a=some (instObj c.CV dx)->h.get? dx=some od->Z3I od ->
   h.Ns dx m->(m "shared").isSome=true->m "kind"=some vk->m "items"=some vi->m "attrs"=some va->Rep h ow vk k->Rep h ow vi i->Rep h ow va t->Rep h ow (.ref a) (.vec k i t)
 |null {a dx:Addr} {od:Obj} {m:Str->Option Value} {t:Tok}:ow a=.frozen->ow dx=.frozen->h.get? a=some (instObj c.CN dx)->h.get? dx=some od->od.cls=.type "dict"->h.Ns dx m ->
   m "shared"=none->m "kind"=some (.str "NULL" t)->m "attrs"=some .none->Rep h ow (.ref a) .null
 |rng {a:Addr} {ob:Obj} {x y:Int}:ow a=.frozen->h.get? a=some ob->Z5S ob x y->x.natAbs < LIM->y.natAbs < LIM->Rep h ow (.ref a) (.rng x y)
 |pool {a:Addr}:ow a=.poolP->Rep h ow (.ref a) .pool
 |poolc {a:Addr}:ow a=.poolC->Rep h ow (.ref a) .poolc
def YF(ow ow':Z5):Prop:=∀ a,(ow a=.frozen->ow' a=.frozen)/\(ow a=.poolP->ow' a=.poolP)/\(ow a=.poolC->ow' a=.poolC)
theorem YF.refl(ow):YF ow ow:=fun O=>⟨id,id,id⟩
theorem YF.trans{a b d}(x:YF a b)(y:YF b d):YF a d:=fun z=>⟨fun e=>(y z).1 ((x z).1 e),fun e=>(y z).2.1 ((x z).2.1 e),fun e=>(y z).2.2 ((x z).2.2 e)⟩
theorem YL{es}{kvs}(K:KR c es kvs):nsFind es "shared"=none:=by
 refine gG fun G gk=>?_
 obtain ⟨hsz,O,O,hk⟩:=K
 refine gk ?_
 unfold nsFind findBy
 have:es.find? (fun e=>e.key.isStr "shared")=none:=by
  rw[Array.find?_eq_none]
  intro e he
  obtain ⟨i,hi,rfl⟩:=Array.mem_iff_getElem.mp he
  have hi':i < kvs.length:=hsz▸hi
  obtain ⟨⟨t,hkey⟩,O,hne⟩:=hk i es[i] kvs[i] (by simp[hi]) (by simp[hi'])
  rw[hkey]
  simpa [Value.isStr] using hne
 rw[this];rfl
theorem Rep.mono{h h':Heap}{ow ow':Z5}{v:Value}{d:D}(x:Rep c h ow v d)
  (hp:∀ a o,ow a=.frozen->h.get? a=some o->∃ o',h'.get? a=some o'/\Sim o o') (ho:YF ow ow'):Rep c h' ow' v d:=by
 induction x with
 |none=>exact .none
 |bool b=>exact .bool b
 |int i t=>exact .int i t
 |str s t=>exact .str s t
 |list hw hg hl hs hz O ih=>
  obtain ⟨o',hg',hs'⟩:=hp _ _ hw hg
  obtain rfl:=hs'.eq_of (by rw[hl.1];decide) (by rw[hl.1];decide) (.inl fun O q=>by obtain ⟨O,O,O,q'⟩:=hl;rw[q'] at q;cases q)
  exact .list ((ho _).1 hw) hg' hl hs hz ih
 |tup hw hg hl hs hz O ih=>
  obtain ⟨o',hg',hs'⟩:=hp _ _ hw hg
  obtain rfl:=hs'.eq_of (by rw[hl.1];decide) (by rw[hl.1];decide) (.inl fun O q=>by obtain ⟨O,O,O,q'⟩:=hl;rw[q'] at q;cases q)
  exact .tup ((ho _).1 hw) hg' hl hs hz ih
 |dict hw hg he hd hk O ih=>
  refine gG fun G gk=>?_
  obtain ⟨o',hg',hs'⟩:=hp _ _ hw hg
  refine gk ?_
  obtain rfl:=hs'.eq_dict he.1.1 hd (YL c hk)
  exact .dict ((ho _).1 hw) hg' he hd hk ih
 |vec hw hwd hn hg hgd hc hns hsh hk hi ha O U V ih1 ih2 ih3=>
  refine gG fun G gk=>?_
  obtain ⟨o',hg',hs'⟩:=hp _ _ hw hg
  refine gk ?_
  obtain rfl:=hs'.eq_of (fun q=>by cases q) (fun q=>by cases q) (.inl fun O q=>by cases q)
  refine gG fun G gk=>?_
  obtain ⟨od',hgd',hsd'⟩:=hp _ _ hwd hgd
  obtain ⟨m',hns',hm',hsh'⟩:=hsd'.nsV hgd hgd' hns
  refine gk ?_
  exact .vec ((ho _).1 hw) ((ho _).1 hwd) hn hg' hgd' (hc.sim hsd') hns' (hsh' hsh) ((hm' _ (by decide +kernel)).trans hk) ((hm' _ (by decide +kernel)).trans hi) ((hm' _ (by decide +kernel)).trans ha) ih1 ih2 ih3
 |null hw hwd hg hgd hc hns hsh hk ha=>
  obtain ⟨o',hg',hs'⟩:=hp _ _ hw hg
  obtain rfl:=hs'.eq_of (fun q=>by cases q) (fun q=>by cases q) (.inl fun O q=>by cases q)
  obtain ⟨od',hgd',hsd'⟩:=hp _ _ hwd hgd
  exact .null ((ho _).1 hw) ((ho _).1 hwd) hg' hgd' (hsd'.cls.trans hc) (hsd'.ns hgd hgd' hns hsh) hsh hk ha
 |rng hw hg hl h1 h2=>
  refine gG fun G gk=>?_
  obtain ⟨o',hg',hs'⟩:=hp _ _ hw hg
  obtain ⟨t1,t2,t3,rfl⟩:=hl
  refine gk ?_
  obtain rfl:=hs'.eq_of (show Value.type "range"≠.type "frame" by decide) (show Value.type "range"≠.type "dict" by decide) (.inr (X2 (by decide)))
  exact .rng ((ho _).1 hw) hg' ⟨t1,t2,t3,rfl⟩ h1 h2
 |pool hw=>exact .pool ((ho _).2.1 hw)
 |poolc hw=>exact .poolc ((ho _).2.2 hw)
theorem Rep.pres{h h'}{ow ow'}{v}{d}(x:Rep c h ow v d)(hp:VX c ow h h')(ho:YF ow ow'):Rep c h' ow' v d:=
 x.mono c (fun a o hw e=>let ⟨o',e',s,_⟩:=hp.2 a o e (by rw[hw];decide) (by rw[hw];decide);⟨o',e',s⟩) ho
inductive Y6(h:Heap)(ow:Z5)(a:Addr)(ds:List D):Prop
 |mk (ob:Obj) (vs:Array Value) (O:h.get? a=some ob) (O:UC ob vs) (O:vs.size=ds.length) (O:ds.length<=LIM) (O:∀ (i:Nat) (v:Value) (d:D),vs[i]?=some v->ds[i]?=some d->Rep c h ow v d)
inductive DictAt(h:Heap)(ow:Z5)(a:Addr)(kvs:List (Str × D)):Prop
 |mk (ob:Obj) (es:Array DictEntry) (n:Nat) (O:h.get? a=some ob) (O:ExD a ob) (O:ob.data=.dict es n) (O:KR c es kvs) (O:∀ (i:Nat) (e:DictEntry) (p:Str × D),es[i]?=some e->kvs[i]?=some p->Rep c h ow e.val p.2)
inductive Z8W(h:Heap)(ow:Z5)(v:Value)(ds:List D):Prop
 |mk (a:Addr) (ob:Obj) (vs:Array Value) (O:v=.ref a) (O:h.get? a=some ob) (O:Z5R ob vs) (O:vs.size=ds.length) (O:ds.length<=LIM) (O:∀ (i:Nat) (v:Value) (d:D),vs[i]?=some v->ds[i]?=some d->Rep c h ow v d)
inductive Zck(h:Heap)(ow:Z5)(v:Value)(k i t:D):Prop
 |mk (a dx:Addr) (od:Obj) (m:Str->Option Value) (vk vi va:Value) (O:v=.ref a) (O:ow a=.frozen) (O:ow dx=.frozen) (O:c.n₀<=dx) (O:h.get? a=some (instObj c.CV dx)) (O:h.get? dx=some od) (O:Z3I od) (O:h.Ns dx m) (O:(m "shared").isSome=true)
   (O:m "kind"=some vk) (O:m "items"=some vi) (O:m "attrs"=some va) (O:Rep c h ow vk k) (O:Rep c h ow vi i) (O:Rep c h ow va t)
inductive Zac(h:Heap)(ow:Z5)(v:Value):Prop
 |mk (a dx:Addr) (od:Obj) (m:Str->Option Value) (t:Tok) (O:v=.ref a) (O:ow a=.frozen) (O:ow dx=.frozen) (O:h.get? a=some (instObj c.CN dx)) (O:h.get? dx=some od) (O:od.cls=.type "dict") (O:h.Ns dx m) (O:m "shared"=none) (O:m "kind"=some (.str "NULL" t)) (O:m "attrs"=some .none)
def Zcl(h:Heap)(ow:Z5)(v:Value):D->Prop:=fun O=>match O with
 |.none=>v=.none
 |.bool b=>v=.bool b
 |.int i=>∃ t,v=.int i t
 |.str s=>∃ t,v=.str s t
 |.list ds=>∃ a,v=.ref a/\ow a=.frozen/\Y6 c h ow a ds
 |.tup ds=>Z8W c h ow v ds
 |.dict kvs=>∃ a,v=.ref a/\ow a=.frozen/\DictAt c h ow a kvs
 |.vec k i t=>Zck c h ow v k i t
 |.null=>Zac c h ow v
 |.rng x y=>∃ a ob,v=.ref a/\h.get? a=some ob/\Z5S ob x y/\x.natAbs < LIM/\y.natAbs < LIM
 |.pool=>∃ a,v=.ref a/\ow a=.poolP
 |.poolc=>∃ a,v=.ref a/\ow a=.poolC
theorem Rep.out{h}{ow}{v}{d}(x:Rep c h ow v d):Zcl c h ow v d:=by
 induction x with
 |none=>rfl
 |bool=>rfl
 |int=>exact ⟨_,rfl⟩
 |str=>exact ⟨_,rfl⟩
 |list a1 a2 a3 a4 a5 a6=>exact ⟨_,rfl,a1,_,_,a2,a3,a4,a5,a6⟩
 |tup O a2 a3 a4 a5 a6=>exact ⟨_,_,_,rfl,a2,a3,a4,a5,a6⟩
 |dict a1 a2 a3 a4 a5 a6=>exact ⟨_,rfl,a1,_,_,_,a2,a3,a4,a5,a6⟩
 |vec a1 a2 a3 a4 a5 a6 a7 a8 a9 a10 a11 a12 a13 a14=>exact ⟨_,_,_,_,_,_,_,rfl,a1,a2,a3,a4,a5,a6,a7,a8,a9,a10,a11,a12,a13,a14⟩
 |null a1 a2 a3 a4 a5 a6 a7 a8 a9=>exact ⟨_,_,_,_,_,rfl,a1,a2,a3,a4,a5,a6,a7,a8,a9⟩
 |rng O a2 a3 a4 a5=>exact ⟨_,_,rfl,a2,a3,a4,a5⟩
 |pool a1=>exact ⟨_,rfl,a1⟩
 |poolc a1=>exact ⟨_,rfl,a1⟩
inductive ZdD(h:Heap)(ow:Z5)(o:Own)(v:Value)(k i t:D)(own:Bool):Prop
 |mk (a dx:Addr) (od:Obj) (m:Str->Option Value) (vk vi va:Value) (O:v=.ref a) (O:ow a=o) (O:ow dx=o) (O:c.n₀<=dx) (O:h.get? a=some (instObj c.CV dx)) (O:h.get? dx=some od) (O:Z3I od) (O:h.Ns dx m) (O:(m "shared").isSome=true)
   (O:m "kind"=some vk) (O:m "items"=some vi) (O:m "attrs"=some va) (O:Rep c h ow vk k) (O:Rep c h ow vi i)
   (O:if own=true then ∃ da kvs,va=.ref da/\t=.dict kvs/\ow da=o/\DictAt c h ow da kvs else Rep c h ow va t)
def ZK(h:Heap)(ow:Z5)(o:Own)(v:Value):LV->Prop:=fun O=>match O with
 |.fr d=>Rep c h ow v d
 |.ol ds=>∃ a,v=.ref a/\ow a=o/\Y6 c h ow a ds
 |.od kvs=>∃ a,v=.ref a/\ow a=o/\DictAt c h ow a kvs
 |.ov k i t own=>ZdD c h ow o v k i t own
theorem Y6.mono{h h'}{ow ow'}{a}{ds}(x:Y6 c h ow a ds)(ha:∀ o,h.get? a=some o->∃ o',h'.get? a=some o'/\Sim o o')
  (hp:∀ a o,ow a=.frozen->h.get? a=some o->∃ o',h'.get? a=some o'/\Sim o o') (ho:YF ow ow'):Y6 c h' ow' a ds:=by
 obtain ⟨ob,vs,hg,hl,hs,hz,hr⟩:=x
 obtain ⟨o',hg',hs'⟩:=ha _ hg
 obtain rfl:=hs'.eq_of (by rw[hl.1];decide) (by rw[hl.1];decide) (.inl fun O q=>by obtain ⟨O,O,O,q'⟩:=hl;rw[q'] at q;cases q)
 exact ⟨_,vs,hg',hl,hs,hz,fun i v d e1 e2=>(hr i v d e1 e2).mono c hp ho⟩
theorem DictAt.mono{h h'}{ow ow'}{a}{kvs}(x:DictAt c h ow a kvs)(ha:∀ o,h.get? a=some o->∃ o',h'.get? a=some o'/\Sim o o')
  (hp:∀ a o,ow a=.frozen->h.get? a=some o->∃ o',h'.get? a=some o'/\Sim o o') (ho:YF ow ow'):DictAt c h' ow' a kvs:=by
 obtain ⟨ob,es,n,hg,he,hd,hk,hr⟩:=x
 obtain ⟨o',hg',hs'⟩:=ha _ hg
 obtain rfl:=hs'.eq_dict he.1.1 hd (YL c hk)
 exact ⟨_,es,n,hg',he,hd,hk,fun i e p e1 e2=>(hr i e p e1 e2).mono c hp ho⟩
theorem ZK.mono{h h':Heap}{ow ow':Z5}{o o':Own}{v:Value}{lv:LV}(x:ZK c h ow o v lv)(ha:∀ a ob,ow a=o->h.get? a=some ob->∃ ob',h'.get? a=some ob'/\Sim ob ob')
  (hp:∀ a o,ow a=.frozen->h.get? a=some o->∃ o',h'.get? a=some o'/\Sim o o') (ho:YF ow ow') (hoo:∀ a,ow a=o->(h.get? a).isSome=true->ow' a=o'):ZK c h' ow' o' v lv:=by
 induction lv with
 |fr d=>exact Rep.mono c x hp ho
 |ol ds=>
  obtain ⟨a,rfl,hw,hl⟩:=x
  refine ⟨a,rfl,hoo a hw ?_,hl.mono c (fun ob e=>ha a ob hw e) hp ho⟩
  obtain ⟨O,O,e,O⟩:=hl;rw[e];rfl
 |od kvs=>
  obtain ⟨a,rfl,hw,hl⟩:=x
  refine ⟨a,rfl,hoo a hw ?_,hl.mono c (fun ob e=>ha a ob hw e) hp ho⟩
  obtain ⟨O,O,O,e,O⟩:=hl;rw[e];rfl
 |ov k i t own=>
  obtain ⟨a,dx,od,m,vk,vi,va,rfl,hw,hwd,hn,hg,hgd,hc,hns,hsh,hk,hi,hat,r1,r2,r3⟩:=x
  obtain ⟨o1_,hg',hs'⟩:=ha _ _ hw hg
  obtain rfl:=hs'.eq_of (fun q=>by cases q) (fun q=>by cases q) (.inl fun O q=>by cases q)
  obtain ⟨od',hgd',hsd'⟩:=ha _ _ hwd hgd
  obtain ⟨m',hns',hm',hsh'⟩:=hsd'.nsV hgd hgd' hns
  refine ⟨a,dx,od',m',vk,vi,va,rfl,hoo a hw (by rw[hg];rfl),hoo dx hwd (by rw[hgd];rfl),hn,hg',hgd',hc.sim hsd',hns',hsh' hsh,(hm' _ (by decide +kernel)).trans hk,(hm' _ (by decide +kernel)).trans hi,(hm' _ (by decide +kernel)).trans hat,
   r1.mono c hp ho,r2.mono c hp ho,?_⟩
  induction own with
  |false=>exact Rep.mono c r3 hp ho
  |true=>
   obtain ⟨da,kvs,rfl,rfl,hwa,hl⟩:=r3
   refine ⟨da,kvs,rfl,rfl,hoo da hwa ?_,hl.mono c (fun ob e=>ha da ob hwa e) hp ho⟩
   obtain ⟨O,O,O,e,O⟩:=hl;rw[e];rfl
theorem ZK.freeze{h}{ow}{v}{lv}(x:ZK c h ow .frozen v lv):Rep c h ow v lv.d:=by
 induction lv with
 |fr d=>exact x
 |ol ds=>
  obtain ⟨a,rfl,hw,ob,vs,hg,hl,hs,hz,hr⟩:=x
  exact .list hw hg hl hs hz hr
 |od kvs=>
  obtain ⟨a,rfl,hw,ob,es,n,hg,he,hd,hk,hr⟩:=x
  exact .dict hw hg he hd hk hr
 |ov k i t own=>
  obtain ⟨a,dx,od,m,vk,vi,va,rfl,hw,hwd,hn,hg,hgd,hc,hns,hsh,hk,hi,hat,r1,r2,r3⟩:=x
  refine .vec hw hwd hn hg hgd hc hns hsh hk hi hat r1 r2 ?_
  induction own with
  |false=>exact r3
  |true=>
   obtain ⟨da,kvs,rfl,rfl,hwa,ob,es,n,hg',he,hd,hk',hr⟩:=r3
   exact .dict hwa hg' he hd hk' hr
end NZ.Internal
namespace NZ.Internal
open PySem PySem.Calls PyProof.Rows PySem.W
variable (c:Cx)
structure Frm where
 fenv:Env
 cenv:Option Env
 hb:Heap
 owb:Z5
 frames:List Env
noncomputable def Frm.env(F:Frm):Env:=F.cenv.getD F.fenv
structure Z0F(env:Env):Prop where
 kind:env.scope.kind=.function
 globals:env.globals=mainGlobals
 builtins:env.builtins=builtinsNs
 cells:∀ x,env.kindOf x=some .cell->(env.cells.lookup x).isSome=true
def Z32(h:Heap)(env:Env)(m:Str->Option Value)(x:Str)(v:Value):Prop:=
 (env.kindOf x=some .local/\m x=some v)\/(env.kindOf x=some .cell/\∃ k,env.cells.lookup x=some k/\h.IsCell k (some v))
inductive Zad(h:Heap)(ow:Z5)(env:Env)(m:Str->Option Value)(x:Str)(lv:LV):Prop
 |mk (v:Value) (O:Z32 h env m x v) (O:ZK c h ow (.slot x) v lv)
structure Scp(lo:Nat)(env:Env)(h:Heap)(ow:Z5)(m:Str->Option Value)(vars:Zc):Prop where
 ns:h.Ns env.locals m
 nsh:m "shared"=none
 low:lo<=env.locals
 own:ow env.locals=.foreign
 cells:∀ x k,env.cells.lookup x=some k->lo<=k/\k≠env.locals/\ow k=.foreign/\∃ v,h.IsCell k v
 apart:∀ x y k,env.cells.lookup x=some k->env.cells.lookup y=some k->x=y
 vars:∀ x lv,ZM x vars=some lv->Zad c h ow env m x lv
def W0(x:Str):Prop:=x≠("shared":Str)/\x≠("message":Str)
structure Z1J(lo:Nat)(fenv env:Env)(h:Heap)(ow:Z5)(m:Str->Option Value)(σ:St):Prop where
 ns:h.Ns env.locals m
 nsh:m "shared"=none/\m "message"=none
 low:lo<=env.locals
 own:ow env.locals=.foreign
 ne:env.locals≠fenv.locals
 nec:∀ x k,fenv.cells.lookup x=some k->k≠env.locals
 frame:env.frame=fenv.frame
 link:∀ x,env.kindOf x=some .cell->fenv.kindOf x=some .cell/\∃ k,fenv.cells.lookup x=some k/\env.cells.lookup x=some k
 loc:∀ x,x∈σ.loc↔(env.kindOf x=some .local/\x≠(".0":Str))
 vars:∀ x lv,ZM x σ.vars=some lv->x∈σ.loc/\∃ d v,lv=.fr d/\m x=some v/\Rep c h ow v d
inductive Zcm(h:Heap)(e:Env):Prop
 |mk (O:e.scope.kind≠.module) (L:Addr) (o:Obj) (es:Array DictEntry) (n:Nat) (O:e.frame=some L) (O:h.get? L=some o) (O:o.cls=.type "frame") (O:o.data=.dict es n) (O:c.n₀<=L)
def YX(h:Heap)(fr:List Env):Prop:=
 ∀ e∈fr,Zcm c h e
inductive Zae(h:Heap)(ow:Z5)(p:Z8):Prop
 |mk (P C:Addr) (oP oC:Obj) (t1 t2:Tok) (vs:List Value) (O:ow P=.poolP) (O:ow C=.poolC) (O:∀ a,ow a=.poolP->a=P) (O:∀ a,ow a=.poolC->a=C) (O:c.n₀<=P) (O:c.n₀<=C)
   (O:h.get? P=some oP) (O:UC oP #[.ref C,.int p.a t1,.int p.b t2]) (O:h.get? C=some oC) (O:UC oC (List.toArray vs)) (O:IntsAre vs p.cells) (O:p.cells.length<=LIM)
def XS(h:Heap)(ow:Z5):Option Z8->Prop:=fun O=>match O with
 |none=>∀ a,ow a≠.poolP/\ow a≠.poolC
 |some p=>Zae c h ow p
inductive Z7T(F:Frm)(h:Heap)(ow:Z5)(σ:St):Prop
 |mk (O:σ.up=[]) (O:σ.loc=[]) (m:Str->Option Value) (O:Scp c F.hb.objs.size F.fenv h ow m σ.vars)
theorem Z7T.of{F}{h}{ow}{σ}(h1:σ.up=[])(h2:σ.loc=[])(h3:∃ m,Scp c F.hb.objs.size F.fenv h ow m σ.vars):Z7T c F h ow σ:=let ⟨m,h⟩:=h3;⟨h1,h2,m,h⟩
inductive Zaf(F:Frm)(ce:Env)(h:Heap)(ow:Z5)(σ:St):Prop
 |mk (mf m:Str->Option Value) (O:Scp c F.hb.objs.size F.fenv h ow mf σ.up) (O:Z1J c F.hb.objs.size F.fenv ce h ow m σ)
structure Act(F:Frm)(h:Heap)(ow:Z5)(σ:St):Prop where
 pres:VX c ow F.hb h
 h0:∀ a o,c.h₀.get? a=some o->h.get? a=some o
 n0:c.n₀<=F.hb.objs.size
 new:∀ a,h.objs.size<=a->ow a=.foreign
 fix:∀ a,a < F.hb.objs.size->ow a=F.owb a
 pool:XS c h ow σ.pl
 frames:YX c h F.frames
 head:∃ e r,F.frames=e::r/\e.frame=F.fenv.frame
 ok:Z0F F.fenv/\Z0F F.env
 scp:match F.cenv with
  |none=>Z7T c F h ow σ
  |some ce=>Zaf c F ce h ow σ
noncomputable def Zx:Own->Bool:=fun O=>match O with
 |.tmp=>true
 |.slot O=>true
 |O=>false
def XT(n:Nat)(ow ow':Z5):Prop:=
 (∀ a,a < n->(ow a=.frozen->ow' a=.frozen)/\(ow a=.poolP↔ow' a=.poolP)/\(ow a=.poolC↔ow' a=.poolC)/\(ow a=.foreign->ow' a=.foreign)) /\
 ∀ o,Zx o=true->(∀ a,a < n->ow a=o->ow' a=o)\/(∀ a,a < n->ow a=o->ow' a=.frozen)
def Z7(h:Heap)(ow:Z5)(h':Heap)(ow':Z5):Prop:=VX c ow h h'/\XT h.objs.size ow ow'
variable {c}
theorem XT.refl(n)(ow):XT n ow ow:=⟨fun O O=>⟨id,Iff.rfl,Iff.rfl,id⟩,fun O O=>.inl fun O O e=>e⟩
theorem XT.trans{n n'}{a b d}(x:XT n a b)(y:XT n' b d)(hn:n<=n'):XT n a d:=by
 refine ⟨fun z hz=>?_,fun o ho=>?_⟩
 ·have p:=x.1 z hz
  have q:=y.1 z (Nat.lt_of_lt_of_le hz hn)
  exact ⟨fun e=>q.1 (p.1 e),p.2.1.trans q.2.1,p.2.2.1.trans q.2.2.1,fun e=>q.2.2.2 (p.2.2.2 e)⟩
 ·rcases x.2 o ho with p|p
  ·rcases y.2 o ho with q|q
   ·exact .inl fun z hz e=>q z (Nat.lt_of_lt_of_le hz hn) (p z hz e)
   ·exact .inr fun z hz e=>q z (Nat.lt_of_lt_of_le hz hn) (p z hz e)
  ·exact .inr fun z hz e=>(y.1 z (Nat.lt_of_lt_of_le hz hn)).1 (p z hz e)
theorem Z7.refl(h)(ow):Z7 c h ow h ow:=⟨.refl h,.refl _ ow⟩
theorem Z7.trans{h1_ h2_ h3_}{a b d}(x:Z7 c h1_ a h2_ b)(y:Z7 c h2_ b h3_ d):Z7 c h1_ a h3_ d:=
 ⟨x.1.trans y.1 (fun z hz n1 n2=>⟨fun e=>n1 ((x.2.1 z hz).2.1.mpr e),fun e=>n2 ((x.2.1 z hz).2.2.1.mpr e)⟩),x.2.trans y.2 x.1.1⟩
theorem XT.le{h:Heap}{ow ow':Z5}(x:XT h.objs.size ow ow')(hn:∀ a,h.objs.size<=a->ow a=.foreign):YF ow ow':=fun a=>by
 by_cases q:a < h.objs.size
 ·have p:=x.1 a q
  exact ⟨p.1,p.2.1.mp,p.2.2.1.mp⟩
 ·have:=hn a (Nat.le_of_not_lt q)
  rw[this]
  exact ⟨(nomatch ·),(nomatch ·),(nomatch ·)⟩
theorem Rep.step{h h':Heap}{ow ow':Z5}{v:Value}{d:D}(x:Rep c h ow v d)(s:Z7 c h ow h' ow')(hn:∀ a,h.objs.size<=a->ow a=.foreign):Rep c h' ow' v d:=
 x.pres c s.1 (s.2.le hn)
inductive ZS(c:Cx)(h:Heap)(ow:Z5)(v:Value)(lv:LV):Prop
 |mk (o:Own) (O:o=.frozen\/Zx o=true) (O:ZK c h ow o v lv)
theorem ZK.step{h h':Heap}{ow ow':Z5}{o:Own}{v:Value}{lv:LV}(x:ZK c h ow o v lv)(s:Z7 c h ow h' ow')(hn:∀ a,h.objs.size<=a->ow a=.foreign)(ho:Zx o=true) :
  ZK c h' ow' o v lv\/ZK c h' ow' .frozen v lv:=by
 have hp:∀ a o,ow a=.frozen->h.get? a=some o->∃ o',h'.get? a=some o'/\Sim o o':=fun a o hw e=>let ⟨o',e',q,_⟩:=s.1.2 a o e (by rw[hw];decide) (by rw[hw];decide);⟨o',e',q⟩
 have ha:∀ a ob,ow a=o->h.get? a=some ob->∃ ob',h'.get? a=some ob'/\Sim ob ob':=fun a ob hw e=>by
  obtain ⟨o',e',q,O⟩:=s.1.2 a ob e (by rw[hw];rintro rfl;exact Z4 ho) (by rw[hw];rintro rfl;cases ho)
  exact ⟨o',e',q⟩
 have lt:∀ a,(h.get? a).isSome=true->a < h.objs.size:=fun a e=>by
  cases q:h.get? a with
  |none=>rw[q] at e;exact Z4 e
  |some O=>exact Heap.lt_size q
 rcases s.2.2 o ho with q|q
 ·exact .inl (x.mono c ha hp (s.2.le hn) fun a e i=>q a (lt a i) e)
 ·exact .inr (x.mono c ha hp (s.2.le hn) fun a e i=>q a (lt a i) e)
theorem ZS.step{h h':Heap}{ow ow':Z5}{v:Value}{lv:LV}(x:ZS c h ow v lv)(s:Z7 c h ow h' ow')(hn:∀ a,h.objs.size<=a->ow a=.foreign):ZS c h' ow' v lv:=by
 obtain ⟨o,ho,x⟩:=x
 rcases ho with rfl|ho
 ·have hp:∀ a o,ow a=.frozen->h.get? a=some o->∃ o',h'.get? a=some o'/\Sim o o':=fun a o hw e=>let ⟨o',e',q,_⟩:=s.1.2 a o e (by rw[hw];decide) (by rw[hw];decide);⟨o',e',q⟩
  exact ⟨.frozen,.inl rfl,x.mono c (fun a ob hw e=>hp a ob hw e) hp (s.2.le hn) fun a e O=>(s.2.le hn a).1 e⟩
 ·rcases x.step s hn ho with y|y
  ·exact ⟨o,.inr ho,y⟩
  ·exact ⟨.frozen,.inl rfl,y⟩
noncomputable def Z33:Option Str->Own:=fun O=>match O with
 |none=>.tmp
 |some x=>.slot x
theorem UD(x):Zx (Z33 x)=true:=by cases x<;>rfl
variable (c)
noncomputable def Zcn:LV->Bool:=fun O=>match O with
 |.fr O=>false
 |O=>true
def Zv(h:Heap)(ow:Z5)(σ:St)(v:Value)(r:R):Prop:=
 ZK c h ow (Z33 r.2) v r.1/\∀ x,r.2=some x->Zcn r.1=true/\(ZM x σ.vars=some r.1\/(ZM x σ.vars=none/\ZM x σ.up=some r.1))
def ZdU(h:Heap)(ow:Z5)(O:St)(v:Value)(d:D):Prop:=Rep c h ow v d
def Zm(h:Heap)(ow:Z5)(O:St)(vs:List Value)(ds:List D):Prop:=vs.length=ds.length/\∀ (i:Nat) (v:Value) (d:D),vs[i]?=some v->ds[i]?=some d->Rep c h ow v d
def Jn(O:Heap)(O:Z5)(O:St)(b:Bool)(b':Bool):Prop:=b=b'
variable {c}
theorem Zv.v{h}{ow}{σ}{v}{r}(x:Zv c h ow σ v r):ZS c h ow v r.1:=⟨_,.inr (UD _),x.1⟩
theorem ZS.of_rep{h}{ow}{v}{d}(x:Rep c h ow v d):ZS c h ow v (.fr d):=⟨.frozen,.inl rfl,x⟩
variable (c)
def Z5T(h:Heap)(tb:Value):Prop:=tb=.none\/∃ T oT ts,tb=.ref T/\c.n₀<=T/\h.get? T=some oT/\oT.cls=.type "traceback"/\oT.data=.fields ts/\3 < ts.size
inductive Yn(h:Heap)(e:Addr)(msg:Str)(tb:Value):Prop
 |mk (oe:Obj) (vs:Array Value) (dx:Addr) (od:Obj) (m:Str->Option Value) (t:Tok) (O:c.n₀<=e) (O:h.get? e=some oe) (O:oe.cls=.ref c.CR) (O:oe.dict=some dx) (O:oe.data=.fields vs) (O:vs[1]?=some tb) (O:h.get? dx=some od) (O:od.cls=.type "dict")
   (O:h.Ns dx m) (O:m "shared"=none) (O:m "message"=some (.str msg t)) (O:Z5T c h tb)
def Fly(h:Heap)(v:Value)(msg:Str):Prop:=∃ e tb,v=.ref e/\Yn c h e msg tb
def Z34(F:Frm)(h:Heap)(ow:Z5)(h':Heap)(ow':Z5):Prop:=
 h.objs.size<=h'.objs.size/\(∀ a,a < h.objs.size->(ow a=.frozen\/(ow a=.foreign/\a≠F.env.locals/\∀ x,F.env.cells.lookup x≠some a)) ->
  ow' a=ow a/\∀ o,h.get? a=some o->∃ o',h'.get? a=some o'/\Sim o o')/\YF ow ow'
noncomputable abbrev Z5U:=Heap->Z5->Heap->Z5->Prop
def Z2{α β:Type}(F:Frm)(S:Z5U)(Rv:Heap->Z5->St->β->α->Prop)(h:Heap)(ow:Z5)(s:Shared)(o:Out α)(Q:β->Shared->Prop)(E:Value->Shared->Prop):Prop:=
 match o with
 |.ok a σ'=>∀ b h' ow' tk,Act c F h' ow' σ'->S h ow h' ow'->Rv h' ow' σ' b a->Q b {s with heap:=h',toks:=tk}
 |.exc m σ'=>∀ e h' ow' tk,Act c F h' ow' σ'->S h ow h' ow'->Fly c h' e m->E e {s with heap:=h',toks:=tk}
 |.stuck=>False
def UE(S1 S2:Z5U):Prop:=∀ h1_ a h2_ b h3_ d,S1 h1_ a h2_ b->S2 h2_ b h3_ d->S2 h1_ a h3_ d
variable {c}
theorem Z2.ite_el{α β:Type}{F:Frm}{S:Z5U}{Rv:Heap->Z5->St->β->α->Prop}{h:Heap}{ow:Z5}{s:Shared}{p:Prop} [Decidable p] {o1 o2:Out α} {Q:β->Shared->Prop} {E:Value->Shared->Prop} {P:Prop}
  (x:Z2 c F S Rv h ow s (if p then o1 else o2) Q E) (h1:p->Z2 c F S Rv h ow s o1 Q E->P) (h2:¬p->Z2 c F S Rv h ow s o2 Q E->P):P:=
 if q:p then h1 q (by rw[if_pos q] at x;exact x) else h2 q (by rw[if_neg q] at x;exact x)
theorem Z2.bind{α α' β β':Type}{F}{S1 S2}{R1:Heap->Z5->St->β->α->Prop}{R2:Heap->Z5->St->β'->α'->Prop}{h}{ow}{s}{o:Out α}{f:α->St->Out α'}{Q1:β->Shared->Prop}{Q2:β'->Shared->Prop}{E}
  (hP:Z2 c F S2 R2 h ow s (o.bind f) Q2 E) (hc:UE S1 S2) (hi:∀ h a h' b,S1 h a h' b->S2 h a h' b)
  (k:∀ a σ' b h' ow' tk,o=.ok a σ'->Act c F h' ow' σ'->S1 h ow h' ow'->R1 h' ow' σ' b a->Z2 c F S2 R2 h' ow' {s with heap:=h',toks:=tk} (f a σ') Q2 E->Q1 b {s with heap:=h',toks:=tk}) :
  Z2 c F S1 R1 h ow s o Q1 E:=by
 induction o with
 |ok a σ'=>
  intro b h' ow' tk hA hS hR
  refine k a σ' b h' ow' tk rfl hA hS hR ?_
  have hP':Z2 c F S2 R2 h ow s (f a σ') Q2 E:=hP
  generalize f a σ'=ww at hP'
  induction ww with
  |ok a' s''=>exact fun b h2_ ow2_ tk2 g1 g2 g3=>hP' b h2_ ow2_ tk2 g1 (hc _ _ _ _ _ _ hS g2) g3
  |exc m s''=>exact fun b h2_ ow2_ tk2 g1 g2 g3=>hP' b h2_ ow2_ tk2 g1 (hc _ _ _ _ _ _ hS g2) g3
  |stuck=>exact hP'
 |exc m σ'=>exact fun e h' ow' tk g1 g2 g3=>hP e h' ow' tk g1 (hi _ _ _ _ g2) g3
 |stuck=>exact hP
theorem Z6:UE (Z7 c) (Z7 c):=fun O O O O O O x y=>x.trans y
theorem Z2.opt{α β' α':Type}{F}{S2}{R2:Heap->Z5->St->β'->α'->Prop}{h}{ow}{s}{o:Option α}{σ}{f:α->St->Out α'}{Q2:β'->Shared->Prop}{E}
  (hP:Z2 c F S2 R2 h ow s ((opt o σ).bind f) Q2 E):∃ a,o=some a/\Z2 c F S2 R2 h ow s (f a σ) Q2 E:=by
 induction o with
 |none=>exact hP.elim
 |some a=>exact ⟨a,rfl,hP⟩
theorem Z2.mono{α β:Type}{F}{S}{R1:Heap->Z5->St->β->α->Prop}{h}{ow}{s}{o:Out α}{Q Q':β->Shared->Prop}{E E'}(hP:Z2 c F S R1 h ow s o Q E)
  (hq:∀ b s,Q b s->Q' b s) (he:∀ e s,E e s->E' e s):Z2 c F S R1 h ow s o Q' E':=by
 induction o with
 |ok a σ'=>exact fun b h' ow' tk g1 g2 g3=>hq _ _ (hP b h' ow' tk g1 g2 g3)
 |exc m σ'=>exact fun b h' ow' tk g1 g2 g3=>he _ _ (hP b h' ow' tk g1 g2 g3)
 |stuck=>exact hP
theorem IsCell.sim{h h':Heap}{k:Addr}{v:Option Value}(x:h.IsCell k v)(hp:∀ o,h.get? k=some o->∃ o',h'.get? k=some o'/\Sim o o'):h'.IsCell k v:=by
 obtain ⟨o,ho,hd⟩:=x
 obtain ⟨o',ho',hs⟩:=hp o ho
 induction hs with
 |refl=>exact ⟨_,ho',hd⟩
 |slots=>exact ⟨_,ho',hd⟩
 |vd O U V h3=>rw[hd] at h3;cases h3
 |fld O U V O1 O2 h3=>rw[hd] at h3;cases h3
theorem YX.sim{h h'}{fr}(x:YX c h fr)(hp:∀ a o,c.n₀<=a->h.get? a=some o->o.cls=.type "frame"->∃ o',h'.get? a=some o'/\Sim o o'):YX c h' fr:=fun e he=>by
 obtain ⟨hk,L,o,es,n,hf,hg,hc,hd,hn⟩:=x e he
 obtain ⟨o',hg',hs⟩:=hp L o hn hg hc
 refine ⟨hk,L,o',es,n,hf,hg',hs.cls.trans hc,?_,hn⟩
 induction hs with
 |refl=>exact hd
 |slots=>exact hd
 |vd h1=>exact absurd (h1.symm.trans hc) (by decide)
 |fld h1=>exact absurd hc h1
theorem Z5V{h:Heap}{a:Addr}(ha:h.objs.size<=a):h.get? a=none:=by
 cases e:h.get? a with
 |none=>rfl
 |some o=>exact absurd (Heap.lt_size e) (Nat.not_lt.mpr ha)
end NZ.Internal
namespace NZ.Internal
open PySem PySem.Calls PyProof.Rows PySem.W
variable {c:Cx}
theorem Scp.grow{lo}{env}{h h'}{ow ow'}{m}{vars}(x:Scp c lo env h ow m vars)
  (hp:∀ a o,h.get? a=some o->ow a≠.poolP->ow a≠.poolC->∃ o',h'.get? a=some o'/\Sim o o') (ho:∀ a,a < h.objs.size->ow' a=ow a) (hn:∀ a,h.objs.size<=a->ow a=.foreign):Scp c lo env h' ow' m vars:=by
 have le:YF ow ow':=fun a=>by
  by_cases q:a < h.objs.size
  ·rw[ho a q];exact ⟨id,id,id⟩
  ·have:=hn a (Nat.le_of_not_lt q);rw[this];exact ⟨(nomatch ·),(nomatch ·),(nomatch ·)⟩
 have hf:∀ a o,ow a=.frozen->h.get? a=some o->∃ o',h'.get? a=some o'/\Sim o o':=fun a o hw e=>hp a o e (by rw[hw];decide) (by rw[hw];decide)
 have hfo:∀ a o,ow a=.foreign->h.get? a=some o->∃ o',h'.get? a=some o'/\Sim o o':=fun a o hw e=>hp a o e (by rw[hw];decide) (by rw[hw];decide)
 refine ⟨?_,x.nsh,x.low,?_,fun y k e=>?_,x.apart,fun y lv e=>?_⟩
 ·obtain ⟨o,es,ep,ho',r⟩:=id x.ns
  obtain ⟨o',e',s⟩:=hfo _ _ x.own ho'
  exact s.ns ho' e' x.ns x.nsh
 ·rw[ho _ x.ns.lt];exact x.own
 ·refine gG fun G gk=>?_
  obtain ⟨h1,h2,h3,v,h4⟩:=x.cells y k e
  refine gk ?_
  exact ⟨h1,h2,by rw[ho _ h4.lt];exact h3,v,IsCell.sim h4 fun o e=>hfo _ _ h3 e⟩
 ·obtain ⟨v,hv,hr⟩:=x.vars y lv e
  refine ⟨v,?_,hr.mono c (fun a ob hw e=>hp a ob e (by rw[hw];nofun) (by rw[hw];nofun)) hf le fun a hw hs=>?_⟩
  ·rcases hv with hv|⟨hk,k,hl,hc⟩
   ·exact .inl hv
   ·exact .inr ⟨hk,k,hl,IsCell.sim hc fun o e=>hfo _ _ (x.cells y k hl).2.2.1 e⟩
  ·rw[ho a ?_];exact hw
   cases q:h.get? a with
   |none=>rw[q] at hs;exact Z4 hs
   |some O=>exact Heap.lt_size q
theorem Z1J.grow{lo}{fenv env}{h h'}{ow ow'}{m}{σ}(x:Z1J c lo fenv env h ow m σ)
  (hp:∀ a o,h.get? a=some o->ow a≠.poolP->ow a≠.poolC->∃ o',h'.get? a=some o'/\Sim o o') (le:YF ow ow') (hL:ow' env.locals=.foreign):Z1J c lo fenv env h' ow' m σ:=by
 have hf:∀ a o,ow a=.frozen->h.get? a=some o->∃ o',h'.get? a=some o'/\Sim o o':=fun a o hw e=>hp a o e (by rw[hw];decide) (by rw[hw];decide)
 refine ⟨?_,x.nsh,x.low,hL,x.ne,x.nec,x.frame,x.link,x.loc,fun y lv e=>?_⟩
 ·refine gG fun G gk=>?_
  obtain ⟨o,es,ep,ho',r⟩:=id x.ns
  obtain ⟨o',e',s⟩:=hp _ _ ho' (by rw[x.own];decide) (by rw[x.own];decide)
  refine gk ?_
  exact s.ns ho' e' x.ns x.nsh.1
 ·refine gG fun G gk=>?_
  obtain ⟨hl,d,v,h1,h2,h3⟩:=x.vars y lv e
  refine gk ?_
  exact ⟨hl,d,v,h1,h2,h3.mono c hf le⟩
theorem XS.grow{h h'}{ow ow'}{pl}(x:XS c h ow pl)(hp:∀ a o,h.get? a=some o->(ow a=.poolP\/ow a=.poolC)->h'.get? a=some o)
  (ho:∀ a,(ow' a=.poolP↔ow a=.poolP)/\(ow' a=.poolC↔ow a=.poolC)):XS c h' ow' pl:=by
 induction pl with
 |none=>exact fun a=>⟨fun e=>(x a).1 ((ho a).1.mp e),fun e=>(x a).2 ((ho a).2.mp e)⟩
 |some p=>
  obtain ⟨P,C,oP,oC,t1,t2,vs,h1,h2,h3,h4,h5,h6,h7,h8,h9,h10,h11,h12⟩:=x
  exact ⟨P,C,oP,oC,t1,t2,vs,(ho P).1.mpr h1,(ho C).2.mpr h2,fun a e=>h3 a ((ho a).1.mp e),fun a e=>h4 a ((ho a).2.mp e),h5,h6,hp _ _ h7 (.inl h1),h8,hp _ _ h9 (.inr h2),h10,h11,h12⟩
theorem Act.grow{F}{h h'}{ow ow'}{σ}(hA:Act c F h ow σ)(hsz:h.objs.size<=h'.objs.size)
  (hp:∀ a o,h.get? a=some o->∃ o',h'.get? a=some o'/\Sim o o'/\((a < c.n₀\/ow a=.poolP\/ow a=.poolC)->o'=o)) (ho:∀ a,a < h.objs.size->ow' a=ow a)
  (hn:∀ a,h.objs.size<=a->ow' a≠.poolP/\ow' a≠.poolC) (hnew:∀ a,h'.objs.size<=a->ow' a=.foreign):Act c F h' ow' σ/\Z7 c h ow h' ow':=by
 have hP:VX c ow h h':=⟨hsz,fun a o e O O=>let ⟨o',e',s,k⟩:=hp a o e;⟨o',e',s,fun q=>k (.inl q)⟩⟩
 have hb:=hA.pres.1
 have hp':∀ a o,h.get? a=some o->ow a≠.poolP->ow a≠.poolC->∃ o',h'.get? a=some o'/\Sim o o':=fun a o e O O=>let ⟨o',e',s,_⟩:=hp a o e;⟨o',e',s⟩
 have iffP:∀ a,(ow' a=.poolP↔ow a=.poolP)/\(ow' a=.poolC↔ow a=.poolC):=fun a=>by
  by_cases q:a < h.objs.size
  ·rw[ho a q];exact ⟨Iff.rfl,Iff.rfl⟩
  ·have q':=Nat.le_of_not_lt q
   have:=hA.new a q'
   exact ⟨⟨fun e=>absurd e (hn a q').1,fun e=>by rw[this] at e;exact nomatch e⟩,⟨fun e=>absurd e (hn a q').2,fun e=>by rw[this] at e;exact nomatch e⟩⟩
 have le:YF ow ow':=fun a=>by
  by_cases q:a < h.objs.size
  ·rw[ho a q];exact ⟨id,id,id⟩
  ·have:=hA.new a (Nat.le_of_not_lt q);rw[this];exact ⟨(nomatch ·),(nomatch ·),(nomatch ·)⟩
 refine ⟨⟨?_,fun a o e=>?_,hA.n0,hnew,fun a ha=>?_,hA.pool.grow (fun a o e q=>?_) iffP,hA.frames.sim (fun a o O e O=>?_),hA.head,hA.ok,?_⟩,hP,⟨fun a ha=>?_,fun o O=>.inl fun a ha e=>by rw[ho a ha];exact e⟩⟩
 ·refine ⟨Nat.le_trans hb hsz,fun a o e n1 n2=>?_⟩
  have ha:=Nat.lt_of_lt_of_le (Heap.lt_size e) hb
  rw[ho a ha] at n1 n2
  refine gG fun G gk=>?_
  obtain ⟨o2_,e2_,s2_,k2_⟩:=hA.pres.2 a o e n1 n2
  obtain ⟨o3_,e3_,s3_,k3_⟩:=hp a o2_ e2_
  refine gk ?_
  exact ⟨o3_,e3_,s2_.trans s3_,fun q=>(k3_ (.inl q)).trans (k2_ q)⟩
 ·refine gG fun G gk=>?_
  obtain ⟨o',e',O,k⟩:=hp a o (hA.h0 a o e)
  refine gk ?_
  rw[e',k (.inl (Heap.lt_size e))]
 ·rw[ho a (Nat.lt_of_lt_of_le ha hb)];exact hA.fix a ha
 ·obtain ⟨o',e',O,k⟩:=hp a o e
  rw[e',k (.inr q)]
 ·obtain ⟨o',e',s,O⟩:=hp a o e;exact ⟨o',e',s⟩
 ·have S:=hA.scp
  generalize F.cenv=ww at S
  induction ww with
  |none=>
   obtain ⟨s1,s2,m,s3⟩:=S
   exact ⟨s1,s2,m,s3.grow hp' ho hA.new⟩
  |some ce=>
   obtain ⟨mf,m,s1,s2⟩:=S
   exact ⟨mf,m,s1.grow hp' ho hA.new,s2.grow hp' le (by rw[ho _ s2.ns.lt];exact s2.own)⟩
 ·rw[ho a ha];exact ⟨id,Iff.rfl,Iff.rfl,id⟩
noncomputable def upd(ow:Z5)(a:Addr)(o:Own):Z5:=fun b=>if b=a then o else ow b
theorem Y7(ow)(a)(o):upd ow a o a=o:=if_pos rfl
theorem ZD{ow}{a b}{o}(h:b≠a):upd ow a o b=ow b:=if_neg h
theorem Act.push{F}{h}{ow}{σ}(hA:Act c F h ow σ)(ob){o}(ho:o≠.poolP/\o≠.poolC) :
  Act c F (h.push ob) (upd ow h.objs.size o) σ/\Z7 c h ow (h.push ob) (upd ow h.objs.size o):=by
 refine hA.grow (by rw[Heap.size_push];exact Nat.le_succ _) (fun a o e=>⟨o,Heap.get?_push_of_some _ e,.refl _,fun O=>rfl⟩) (fun a ha=>ZD (Nat.ne_of_lt ha)) (fun a ha=>?_) (fun a ha=>?_)
 ·unfold upd
  split
  ·exact ho
  ·rw[hA.new a ha];exact ⟨nofun,nofun⟩
 ·rw[Heap.size_push] at ha
  rw[ZD (Nat.ne_of_gt ha)];exact hA.new a (Nat.le_of_succ_le ha)
theorem Act.keeps{F}{h h'}{ow}{σ}(hA:Act c F h ow σ)(hsz:h.objs.size<=h'.objs.size)(k:∀ a o,h.get? a=some o->h'.get? a=some o) :
  Act c F h' ow σ/\Z7 c h ow h' ow:=
 hA.grow hsz (fun a o e=>⟨o,k a o e,.refl _,fun O=>rfl⟩) (fun O O=>rfl) (fun a ha=>by rw[hA.new a ha];exact ⟨nofun,nofun⟩) fun a ha=>hA.new a (Nat.le_trans hsz ha)
theorem ZU(x)(lv):∀ vs:Zc,ZM x (ZA x lv vs)=some lv:=fun O=>match O with
 |[]=>if_pos rfl
 |(y,w)::r=>by
  rw[Z4s]
  by_cases q:x=y
  ·rw[if_pos q];exact if_pos rfl
  ·rw[if_neg q,Uc,if_neg q];exact ZU x lv r
theorem Ye{x y}(lv)(hne:y≠x):∀ vs:Zc,ZM y (ZA x lv vs)=ZM y vs:=fun O=>match O with
 |[]=>if_neg hne
 |(z,w)::r=>by
  rw[Z4s]
  by_cases q:x=z
  ·rw[if_pos q];subst q;rw[Uc,Uc,if_neg hne,if_neg hne]
  ·rw[if_neg q,Uc,Uc,Ye lv hne r]
noncomputable def give(ow:Z5)(o o':Own):Z5:=fun a=>if ow a=o then o' else ow a
theorem ZK.give{h}{ow}{o o'}{v}{lv}(x:ZK c h ow o v lv)(ho:Zx o=true):ZK c h (give ow o o') o' v lv:=
 x.mono c (fun O ob O e=>⟨ob,e,.refl _⟩) (fun O ob O e=>⟨ob,e,.refl _⟩) (fun a=>by
  unfold Internal.give
  by_cases q:ow a=o
  ·rw[q];exact ⟨(by rintro rfl;exact Z4 ho),(by rintro rfl;exact Z4 ho),(by rintro rfl;cases ho)⟩
  ·rw[if_neg q];exact ⟨id,id,id⟩) fun a e O=>if_pos e
theorem Vf{ow}{o o'}(ho:Zx o=true):YF ow (give ow o o'):=fun a=>by
 unfold Internal.give
 by_cases q:ow a=o
 ·rw[q];exact ⟨(by rintro rfl;exact Z4 ho),(by rintro rfl;exact Z4 ho),(by rintro rfl;cases ho)⟩
 ·rw[if_neg q];exact ⟨id,id,id⟩
theorem ZK.giveOther{h}{ow}{o o' p}{v}{lv}(x:ZK c h ow p v lv)(ho:Zx o=true)(hp:p≠o):ZK c h (Internal.give ow o o') p v lv:=
 x.mono c (fun O ob O e=>⟨ob,e,.refl _⟩) (fun O ob O e=>⟨ob,e,.refl _⟩) (Vf ho) fun a e O=>by
  unfold Internal.give;rw[if_neg (by rw[e];exact hp)];exact e
theorem Scp.give{lo}{env}{h}{ow}{m}{vars}{o o'}(x:Scp c lo env h ow m vars)(ho:Zx o=true)
  (hv:∀ y lv v,ZM y vars=some lv->ZK c h ow (.slot y) v lv->ZK c h (Internal.give ow o o') (.slot y) v lv):Scp c lo env h (Internal.give ow o o') m vars:=by
 have fo:∀ a,ow a=.foreign->Internal.give ow o o' a=.foreign:=fun a e=>by
  unfold Internal.give;rw[if_neg (by rw[e];rintro rfl;exact Z4 ho)];exact e
 refine ⟨x.ns,x.nsh,x.low,fo _ x.own,fun y k e=>?_,x.apart,fun y lv e=>?_⟩
 ·obtain ⟨h1,h2,h3,r⟩:=x.cells y k e
  exact ⟨h1,h2,fo _ h3,r⟩
 ·obtain ⟨v,h1,h2⟩:=x.vars y lv e
  exact ⟨v,h1,hv y lv v e h2⟩
theorem Z1J.le{lo}{fenv env}{h}{ow ow'}{m}{σ}(x:Z1J c lo fenv env h ow m σ)(le:YF ow ow')(fo:∀ a,ow a=.foreign->ow' a=.foreign):Z1J c lo fenv env h ow' m σ:=
 x.grow (fun O ob e O O=>⟨ob,e,.refl _⟩) le (fo _ x.own)
theorem Act.giveTo{F}{h}{ow}{σ σ'}{o o'}(hA:Act c F h ow σ)(ho:Zx o=true)(ho':o'≠.poolP/\o'≠.poolC)(hup:σ'.pl=σ.pl)
  (hscp:∀ m,match F.cenv with
   |none=>Scp c F.hb.objs.size F.fenv h ow m σ.vars->σ'.up=σ.up/\σ'.loc=σ.loc/\Scp c F.hb.objs.size F.fenv h (Internal.give ow o o') m σ'.vars
   |some ce=>(Scp c F.hb.objs.size F.fenv h ow m σ.up->Scp c F.hb.objs.size F.fenv h (Internal.give ow o o') m σ'.up)/\σ'.vars=σ.vars/\σ'.loc=σ.loc)
  (hfix:∀ a,a < F.hb.objs.size->F.owb a≠o):Act c F h (Internal.give ow o o') σ':=by
 have fo:∀ a,ow a=.foreign->Internal.give ow o o' a=.foreign:=fun a e=>by
  unfold Internal.give;rw[if_neg (by rw[e];rintro rfl;exact Z4 ho)];exact e
 have iffP:∀ a,(Internal.give ow o o' a=.poolP↔ow a=.poolP)/\(Internal.give ow o o' a=.poolC↔ow a=.poolC):=fun a=>by
  unfold Internal.give
  by_cases q:ow a=o
  ·rw[if_pos q,q]
   exact ⟨⟨fun e=>absurd e ho'.1,fun e=>by rw[e] at ho;exact Z4 ho⟩,⟨fun e=>absurd e ho'.2,fun e=>by rw[e] at ho;exact Z4 ho⟩⟩
  ·rw[if_neg q];exact ⟨Iff.rfl,Iff.rfl⟩
 refine ⟨⟨hA.pres.1,fun a ob e n1 n2=>hA.pres.2 a ob e (fun q=>n1 ((iffP a).1.mpr q)) (fun q=>n2 ((iffP a).2.mpr q))⟩,hA.h0,hA.n0,fun a ha=>fo a (hA.new a ha),fun a ha=>?_,?_,hA.frames,hA.head,hA.ok,?_⟩
 ·unfold Internal.give
  have:=hA.fix a ha
  rw[if_neg (by rw[this];exact hfix a ha)];exact this
 ·rw[hup];exact hA.pool.grow (fun O O e O=>e) iffP
 ·have S:=hA.scp
  cases hc:F.cenv with
  |none=>
   rw[hc] at S
   obtain ⟨s1,s2,m,s3⟩:=S
   have:=hscp m
   rw[hc] at this
   obtain ⟨k1,k2,k3⟩:=this s3
   exact ⟨k1.trans s1,k2.trans s2,m,k3⟩
  |some ce=>
   rw[hc] at S
   obtain ⟨mf,m,s1,s2⟩:=S
   have:=hscp mf
   rw[hc] at this
   obtain ⟨k1,k2,k3⟩:=this
   refine ⟨mf,m,k1 s1,?_⟩
   have z:=s2.le (ow':=Internal.give ow o o') (Vf ho) fo
   exact ⟨z.ns,z.nsh,z.low,z.own,z.ne,z.nec,z.frame,z.link,by rw[k3];exact z.loc,by rw[k2,k3];exact z.vars⟩
theorem JU{h}{ow}{o}(ho:Zx o=true):Z7 c h ow h (Internal.give ow o .frozen):=by
 refine ⟨.refl h,fun a O=>?_,fun p hp=>?_⟩
 ·unfold Internal.give
  by_cases q:ow a=o
  ·rw[if_pos q,q]
   exact ⟨fun O=>rfl,⟨(by rintro rfl;exact Z4 ho),nofun⟩,⟨(by rintro rfl;exact Z4 ho),nofun⟩,(by rintro rfl;exact Z4 ho)⟩
  ·rw[if_neg q];exact ⟨id,Iff.rfl,Iff.rfl,id⟩
 ·by_cases q:p=o
  ·subst q;exact .inr fun a O e=>if_pos e
  ·exact .inl fun a O e=>by unfold Internal.give;rw[if_neg (by rw[e];exact q)];exact e
def FOk(F:Frm):Prop:=∀ a,Zx (F.owb a)=false
theorem Act.freeze{F}{h}{ow}{σ}{v}{r}(hF:FOk F)(hA:Act c F h ow σ)(hR:Zv c h ow σ v r) :
  ∃ ow',Act c F h ow' (Zo r σ)/\Z7 c h ow h ow'/\Rep c h ow' v r.1.d:=by
 obtain ⟨lv,org⟩:=r
 obtain ⟨hR,hx⟩:=hR
 have ne:∀ o,Zx o=true->∀ a,a < F.hb.objs.size->F.owb a≠o:=fun o ho a O e=>by have:=hF a;rw[e,ho] at this;exact nomatch this
 induction org with
 |none=>
  have ho:Zx .tmp=true:=rfl
  refine ⟨Internal.give ow .tmp .frozen,?_,JU ho,(hR.give (o':=.frozen) ho).freeze⟩
  refine hA.giveTo ho ⟨nofun,nofun⟩ rfl (fun m=>?_) (ne _ ho)
  cases F.cenv with
  |none=>exact fun S=>⟨rfl,rfl,S.give ho fun y lv v O z=>z.giveOther ho nofun⟩
  |some ce=>exact ⟨fun S=>S.give ho fun y lv v O z=>z.giveOther ho nofun,rfl,rfl⟩
 |some x=>
  have ho:Zx (.slot x)=true:=rfl
  have hfr:=(ZK.give (o':=.frozen) hR ho).freeze
  have S:=hA.scp
  refine ⟨Internal.give ow (.slot x) .frozen,?_,JU ho,hfr⟩
  refine hA.giveTo ho ⟨nofun,nofun⟩ (by unfold Zo;dsimp only;cases ZM x σ.vars<;>rfl) (fun m=>?_) (ne _ ho)
  have key:∀ (m:Str->Option Value) (vars:Zc),ZM x vars=some lv->Scp c F.hb.objs.size F.fenv h ow m vars->Scp c F.hb.objs.size F.fenv h (Internal.give ow (.slot x) .frozen) m (ZA x (.fr lv.d) vars):=by
   intro m vars hl S
   have fo:∀ a,ow a=.foreign->Internal.give ow (.slot x) .frozen a=.foreign:=fun a e=>by
    unfold Internal.give;rw[if_neg (by rw[e];nofun)];exact e
   refine ⟨S.ns,S.nsh,S.low,fo _ S.own,fun y k e=>?_,S.apart,fun y lw e=>?_⟩
   ·obtain ⟨h1,h2,h3,r⟩:=S.cells y k e
    exact ⟨h1,h2,fo _ h3,r⟩
   ·by_cases q:y=x
    ·subst q
     rw[ZU] at e;obtain rfl:=Option.some.inj e
     obtain ⟨v',h1,h2⟩:=S.vars y lv hl
     exact ⟨v',h1,(ZK.give (o':=.frozen) h2 ho).freeze⟩
    ·rw[Ye _ q] at e
     obtain ⟨v',h1,h2⟩:=S.vars y lw e
     exact ⟨v',h1,h2.giveOther ho (by rintro ⟨⟩;exact q rfl)⟩
  obtain ⟨nf,hx'⟩:=hx x rfl
  generalize F.cenv=ww at S
  induction ww with
  |none=>
   obtain ⟨s1,s2,O⟩:=S
   intro S'
   rcases hx' with e1|⟨O,e2⟩
   ·unfold Zo
    dsimp only at e1 ⊢
    rw[e1]
    exact ⟨rfl,rfl,key m _ e1 S'⟩
   ·rw[s1] at e2;exact Z3 e2
  |some ce=>
   obtain ⟨mf,mc,s1,s2⟩:=S
   rcases hx' with e1|⟨e1,e2⟩
   ·refine gG fun G gk=>?_
    obtain ⟨O,d,v',e3,O⟩:=s2.vars x _ e1
    refine gk ?_
    dsimp only at e3 nf
    subst e3;exact Z4 nf
   ·unfold Zo
    dsimp only
    rw[e1]
    exact ⟨fun S'=>key m _ e2 S',rfl,rfl⟩
end NZ.Internal
namespace NZ.Internal
open PySem PySem.Calls PyProof.Rows PySem.W
variable {c:Cx}{M:Model}{A:Around}{s:Shared}{E:Value->Shared->Prop}
theorem WJ(name)(k)(key v)(o):(Obj.putName name k key v o).cls=o.cls/\(Obj.putName name k key v o).dict=o.dict/\(Obj.putName name k key v o).slots=o.slots /\
  ((∃ es n,o.data=.dict es n)->∃ es n,(Obj.putName name k key v o).data=.dict es n):=by
 rw[Obj.putName_eq]
 obtain ⟨cl,d,dt,sl⟩:=o
 induction dt with
 |dict es n=>
  unfold Obj.putNameByArray
  dsimp only
  generalize es.findIdx? _=w
  cases w<;>exact ⟨rfl,rfl,rfl,fun O=>⟨_,_,rfl⟩⟩
 |_=>exact ⟨rfl,rfl,rfl,fun ⟨O,U,h⟩=>nomatch h⟩
noncomputable def Zco(s:Shared)(M:Model)(a:Addr)(name:Str)(v:Value):Heap:=
 s.heap.update a (Obj.putName name (if name.cps.isEmpty then 0 else reduceHash (M.w.params.strHash name.cps)) (.str name s.toks) v)
theorem Xo{Γ}{E}{p}{a}{m}(hn:s.heap.Ns a m)(name)(v)(Q) :
  Sem.wp M Γ (nsSet a name v) Q E p s=Q () p {s with heap:=Zco s M a name v,toks:=s.toks+1}:=by
 refine gG fun G gk=>?_
 obtain ⟨⟨cl,di,da,sl⟩,es,ep,ho,hd,hk,hm⟩:=hn
 obtain rfl:da=.dict es ep:=hd
 refine gk ?_
 have hany:es.any (fun O=>O.refKey)=false:=by
  rw[Array.any_eq_false'];intro e he;obtain ⟨n,t,h⟩:=hk e he;simp[DictEntry.refKey,h]
 simp only[nsSet,strHash,Sem.wp_bind',Sem.wp_cmd_ask,Sem.wp_pure',Sem.wp_cmd_mkText]
 rw[Sem.wp_loadPart_of M Γ E p {s with toks:=s.toks+1} _ ho]
 simp only[aRefKeyMayBeTheName_eq,aRefKeyMayBeTheNameByArray,hany,Bool.and_false,Bool.false_eq_true,if_false,Sem.wp_cmd_updatePart,ho,Option.isSome_some,true_and]
 rfl
theorem Zag{a}{m}{name}{v}{Q}(hn:s.heap.Ns a m)
  (hQ:∀ h',h'.Ns a (fun x=>if x=name then some v else m x)->Heap.SameBut a s.heap h'->(∀ o,s.heap.get? a=some o->∃ o',h'.get? a=some o'/\o'.cls=o.cls/\o'.dict=o.dict/\o'.slots=o.slots/\∃ es n,o'.data=.dict es n) ->
   Q () {s with heap:=h',toks:=s.toks+1}):wpAny M A (nsSet a name v) Q E s:=fun Γ p O=>by
 rw[Xo hn]
 have key:=Sem.wp_nsSet M Γ (fun O O O=>True) p s hn name v (fun O O s'=>s'.heap.Ns a (fun x=>if x=name then some v else m x)/\Heap.SameBut a s.heap s'.heap) (fun h' x y=>⟨x,y⟩)
 rw[Xo hn] at key
 refine hQ _ key.1 key.2 fun o ho=>?_
 obtain ⟨o',es,ep,ho',hd,O⟩:=hn
 rw[ho] at ho';obtain rfl:=Option.some.inj ho'
 obtain ⟨h1,h2,h3,h4⟩:=WJ name (if name.cps.isEmpty then 0 else reduceHash (M.w.params.strHash name.cps)) (.str name s.toks) v o
 obtain ⟨es',n',h5⟩:=h4 ⟨es,ep,hd⟩
 exact ⟨_,Heap.get?_update_self _ ho (Obj.isFreed_of_dict h5),h1,h2,h3,es',n',h5⟩
theorem Xp{env}{name}{m}{v}{Q}(hk:env.scope.kind=.function)(hl:env.kindOf name=some .local)(hn:s.heap.Ns env.locals m)
  (h:∀ h',h'.Ns env.locals (fun x=>if x=name then some v else m x)->Heap.SameBut env.locals s.heap h'->(∀ o,s.heap.get? env.locals=some o->∃ o',h'.get? env.locals=some o'/\o'.cls=o.cls/\o'.dict=o.dict/\o'.slots=o.slots/\∃ es n,o'.data=.dict es n) ->
   Q () {s with heap:=h',toks:=s.toks+1}):wpAny M A (storeName env name v) Q E s:=by
 rw[storeName_local hl (by rw[hk];rfl)]
 exact Zag hn h
theorem UF{env}{name}{k}{v0_}{v}{Q}(hk:env.scope.kind=.function)(hl:env.kindOf name=some .cell)
  (hc:env.cells.lookup name=some k) (hv:s.heap.IsCell k v0_)
  (h:∀ h',h'.IsCell k (some v)->Heap.SameBut k s.heap h'->(∀ o,s.heap.get? k=some o->∃ o',h'.get? k=some o'/\o'.cls=o.cls/\(∀ es n,o.data≠.dict es n))->Q () {s with heap:=h'}):wpAny M A (storeName env name v) Q E s:=by
 have e:storeName env name v=(do cellSet (<-cellOf env name) (some v)):=by
  unfold storeName
  rw[hl]
  exact if_neg (by rw[hk];decide)
 rw[e]
 refine wpAny_bind (wpAny_cellOf hc ?_)
 obtain ⟨o,ho,hd⟩:=hv
 unfold cellSet
 refine wpAny_bind (wpAny_load ho ?_)
 rw[hd]
 refine wpAny_update ho (h _ ⟨{o with data:=.cell (some v)},Heap.get?_update_self _ ho rfl,rfl⟩ (Heap.SameBut.update ..) fun o' ho'=>?_)
 rw[ho] at ho';obtain rfl:=Option.some.inj ho'
 exact ⟨_,Heap.get?_update_self _ ho rfl,rfl,fun es n q=>by rw[hd] at q;cases q⟩
end NZ.Internal
namespace NZ.Internal
open PySem PySem.Calls PyProof.Rows PySem.W
variable {c:Cx}{M:Model}{A:Around}{F:Frm}{s:Shared}{ow:Z5}{σ:St}{E:Value->Shared->Prop}
theorem Z2.frzBind{α' β':Type}{S2}{R2:Heap->Z5->St->β'->α'->Prop}{h}{o}{f:D->St->Out α'}{Q1}{Q2:β'->Shared->Prop}
  (hF:FOk F) (hP:Z2 c F S2 R2 h ow s ((frz o).bind f) Q2 E) (hc:UE (Z7 c) S2) (hi:∀ h a h' b,Z7 c h a h' b->S2 h a h' b)
  (k:∀ d σ' v h' ow' tk,Act c F h' ow' σ'->Z7 c h ow h' ow'->Rep c h' ow' v d->Z2 c F S2 R2 h' ow' {s with heap:=h',toks:=tk} (f d σ') Q2 E->Q1 v {s with heap:=h',toks:=tk}) :
  Z2 c F (Z7 c) (Zv c) h ow s o Q1 E:=by
 induction o with
 |ok r σ'=>
  intro v h' ow' tk hA hS hR
  refine gG fun G gk=>?_
  obtain ⟨ow2_,hA2,hS2,hr⟩:=hA.freeze hF hR
  refine gk ?_
  have hS':=hS.trans hS2
  refine k r.1.d (Zo r σ') v h' ow2_ tk hA2 hS' hr ?_
  have hP':Z2 c F S2 R2 h ow s (f r.1.d (Zo r σ')) Q2 E:=hP
  generalize f r.1.d (Zo r σ')=ww at hP'
  induction ww with
  |ok a' s''=>exact fun b h2_ ow2_ tk2 g1 g2 g3=>hP' b h2_ ow2_ tk2 g1 (hc _ _ _ _ _ _ hS' g2) g3
  |exc m s''=>exact fun b h2_ ow2_ tk2 g1 g2 g3=>hP' b h2_ ow2_ tk2 g1 (hc _ _ _ _ _ _ hS' g2) g3
  |stuck=>exact hP'
 |exc m σ'=>exact fun e h' ow' tk g1 g2 g3=>hP e h' ow' tk g1 (hi _ _ _ _ g2) g3
 |stuck=>exact hP
def Z1K(env:Env)(x:Str):Prop:=x≠(".0":Str)/\(x == ("__debug__":Str))=false/\(env.kindOf x=some .local\/env.kindOf x=some .cell)
theorem KS{x}{Q}(hA:Act c F s.heap ow σ)(hk:Z1K F.env x)(hP:Z2 c F (Z7 c) (Zv c) s.heap ow s (X7 x σ) Q E):wpAny M A (loadName F.env x) Q E s:=by
 have S:=hA.scp
 have okE:=hA.ok.2
 have fin:∀ lv v,ZK c s.heap ow (.slot x) v lv->(ZM x σ.vars=some lv\/(ZM x σ.vars=none/\ZM x σ.up=some lv)) ->
   (X7 x σ=match lv with|.fr d=>.ok (.fr d,none) σ|lv=>.ok (lv,some x) σ)->Q v s:=by
  intro lv v hr hl he
  rw[he] at hP
  induction lv with
  |fr d=>exact hP v s.heap ow s.toks hA (.refl _ _) ⟨hr,nofun⟩
  |ol ds=>exact hP v s.heap ow s.toks hA (.refl _ _) ⟨hr,fun y e=>by injection e with e;subst e;exact ⟨rfl,hl⟩⟩
  |od kvs=>exact hP v s.heap ow s.toks hA (.refl _ _) ⟨hr,fun y e=>by injection e with e;subst e;exact ⟨rfl,hl⟩⟩
  |ov k i t own=>exact hP v s.heap ow s.toks hA (.refl _ _) ⟨hr,fun y e=>by injection e with e;subst e;exact ⟨rfl,hl⟩⟩
 cases hc:F.cenv with
 |none=>
  have he:F.env=F.fenv:=by unfold Frm.env;rw[hc];rfl
  rw[he] at okE ⊢
  rw[hc] at S
  refine gG fun G gk=>?_
  obtain ⟨s1,s2,m,S⟩:=S
  refine gk ?_
  cases hl:ZM x σ.vars with
  |none=>unfold X7 at hP;rw[hl] at hP;rw[s1,s2] at hP;exact hP.elim
  |some lv=>
   obtain ⟨v,hv,hr⟩:=S.vars x lv hl
   have q:=fin lv v hr (.inl hl) (by unfold X7;rw[hl];cases lv<;>rfl)
   rcases hv with ⟨h1,h2⟩|⟨h1,k,h2,h3⟩
   ·exact wpAny_loadName_local okE.kind h1 S.ns h2 q
   ·exact wpAny_loadName_cell okE.kind h1 h2 h3 q
 |some ce=>
  have he:F.env=ce:=by unfold Frm.env;rw[hc];rfl
  rw[he] at okE hk ⊢
  rw[hc] at S
  obtain ⟨mf,m,S,C⟩:=S
  cases hl:ZM x σ.vars with
  |some lv=>
   refine gG fun G gk=>?_
   obtain ⟨hlo,d,v,rfl,hm,hr⟩:=C.vars x lv hl
   refine gk ?_
   exact wpAny_loadName_local okE.kind ((C.loc x).mp hlo).1 C.ns hm (fin (.fr d) v hr (.inl hl) (by unfold X7;rw[hl]))
  |none=>
   by_cases hlo:x∈σ.loc
   ·unfold X7 at hP;rw[hl] at hP;dsimp only at hP;rw[if_pos hlo] at hP;exact hP.elim
   ·rcases hk.2.2 with q|q
    ·exact absurd ((C.loc x).mpr ⟨q,hk.1⟩) hlo
    ·obtain ⟨l1,k,l2,l3⟩:=C.link x q
     cases hu:ZM x σ.up with
     |none=>unfold X7 at hP;rw[hl] at hP;dsimp only at hP;rw[if_neg hlo,hu] at hP;exact hP.elim
     |some lv=>
      obtain ⟨v,hv,hr⟩:=S.vars x lv hu
      have q':=fin lv v hr (.inr ⟨hl,hu⟩) (by unfold X7;rw[hl];dsimp only;rw[if_neg hlo,hu];cases lv<;>rfl)
      rcases hv with ⟨h1,h2⟩|⟨h1,k',h2,h3⟩
      ·rw[l1] at h1;exact nomatch h1
      ·rw[l2] at h2;obtain rfl:=Option.some.inj h2
       exact wpAny_loadName_cell okE.kind q l3 h3 q'
theorem Z5W{x}{pos}{Q}(hA:Act c F s.heap ow σ)(hk:Z1K F.env x)(hP:Z2 c F (Z7 c) (Zv c) s.heap ow s (X7 x σ) Q E):wpAny M A (eval (.Name x pos) F.env) Q E s:=
 wpAny_Name (KS hA hk hP) hk.2.1
def Wh(env:Env)(x:Str):Prop:=x≠("shared":Str)/\(env.kindOf x=some .local\/(env.kindOf x=some .cell/\(env.cells.lookup x).isSome=true))
noncomputable def taken(ow:Z5)(x:Str):Z5:=Internal.give (Internal.give ow (.slot x) .foreign) .tmp (.slot x)
theorem ZL{ow}{x}{a}(h:ow a=.foreign):taken ow x a=.foreign:=by unfold taken Internal.give;simp[h]
theorem KT{ow}{x}{a}(h:ow a=.frozen):taken ow x a=.frozen:=by unfold taken Internal.give;simp[h]
theorem WW{ow}{x}(a):(taken ow x a=.poolP↔ow a=.poolP)/\(taken ow x a=.poolC↔ow a=.poolC):=by
 unfold taken Internal.give
 by_cases q:ow a=.slot x
 ·simp[q]
 ·by_cases q':ow a=.tmp
  ·simp[q']
  ·simp[q,q']
theorem Z0G(ow)(x):YF ow (taken ow x):=(Vf rfl).trans (Vf rfl)
theorem Scp.store{lo}{env}{h h'}{ow}{m}{vars}{x}{v}{lv}(S:Scp c lo env h ow m vars)(hx:Wh env x)(hR:ZK c h ow .tmp v lv)
  (hh:(env.kindOf x=some .local/\h'.Ns env.locals (fun y=>if y=x then some v else m y)/\Heap.SameBut env.locals h h') \/
   (env.kindOf x=some .cell/\∃ k,env.cells.lookup x=some k/\h'.IsCell k (some v)/\Heap.SameBut k h h')) :
  ∃ m',Scp c lo env h' (taken ow x) m' (ZA x lv vars):=by
 have same:∃ a,ow a=.foreign/\Heap.SameBut a h h':=by
  rcases hh with ⟨O,O,q⟩|⟨O,k,l,O,q⟩
  ·exact ⟨_,S.own,q⟩
  ·exact ⟨k,(S.cells x k l).2.2.1,q⟩
 obtain ⟨a0,hw0,hs0⟩:=same
 have hp:∀ a o,ow a≠.foreign->h.get? a=some o->∃ o',h'.get? a=some o'/\Sim o o':=fun a o hw e=>⟨o,(hs0.2 a (by rintro rfl;exact hw hw0)).trans e,.refl _⟩
 have hf:∀ a o,ow a=.frozen->h.get? a=some o->∃ o',h'.get? a=some o'/\Sim o o':=fun a o hw=>hp a o (by rw[hw];nofun)
 have varsT:∀ y lw v',y≠x->ZK c h ow (.slot y) v' lw->ZK c h' (taken ow x) (.slot y) v' lw:=fun y lw v' hne r=>
  r.mono c (fun a o hw=>hp a o (by rw[hw];nofun)) hf (Z0G ow x) fun a hw O=>by
   unfold taken Internal.give
   simp[hw,hne]
 have newT:ZK c h' (taken ow x) (.slot x) v lv:=by
  have r1:ZK c h (Internal.give ow (.slot x) .foreign) .tmp v lv:=hR.giveOther rfl (by nofun)
  have r2:ZK c h (taken ow x) (.slot x) v lv:=ZK.give r1 rfl
  exact r2.mono c (fun a o hw e=>by
    by_cases q:ow a=.foreign
    ·rw[ZL q] at hw;exact nomatch hw
    ·exact hp a o q e) (fun a o hw e=>by
    by_cases q:ow a=.foreign
    ·rw[ZL q] at hw;cases hw
    ·exact hp a o q e) (.refl _) fun a e O=>e
 rcases hh with ⟨hk,hns,hsb⟩|⟨hk,k,hl,hce,hsb⟩
 ·refine ⟨fun y=>if y=x then some v else m y,hns,?_,S.low,ZL S.own,fun y k e=>?_,S.apart,fun y lw e=>?_⟩
  ·exact (if_neg (Ne.symm hx.1)).trans S.nsh
  ·refine gG fun G gk=>?_
   obtain ⟨h1,h2,h3,w,h4⟩:=S.cells y k e
   refine gk ?_
   exact ⟨h1,h2,ZL h3,w,h4.sameBut hsb h2⟩
  ·by_cases q:y=x
   ·subst q
    rw[ZU] at e;obtain rfl:=Option.some.inj e
    exact ⟨v,.inl ⟨hk,if_pos rfl⟩,newT⟩
   ·rw[Ye _ q] at e
    obtain ⟨v',hv,hr⟩:=S.vars y lw e
    refine ⟨v',?_,varsT y lw v' q hr⟩
    rcases hv with ⟨h1,h2⟩|⟨h1,k,h2,h3⟩
    ·exact .inl ⟨h1,(if_neg q).trans h2⟩
    ·exact .inr ⟨h1,k,h2,h3.sameBut hsb (S.cells y k h2).2.1⟩
 ·obtain ⟨k1,k2,k3,O⟩:=S.cells x k hl
  refine ⟨m,S.ns.sameBut hsb (Ne.symm k2),S.nsh,S.low,ZL S.own,fun y k' e=>?_,S.apart,fun y lw e=>?_⟩
  ·obtain ⟨h1,h2,h3,w,h4⟩:=S.cells y k' e
   by_cases q:y=x
   ·subst q;rw[hl] at e;obtain rfl:=Option.some.inj e
    exact ⟨h1,h2,ZL h3,_,hce⟩
   ·exact ⟨h1,h2,ZL h3,w,h4.sameBut hsb (by rintro rfl;exact q (S.apart y x _ e hl))⟩
  ·by_cases q:y=x
   ·subst q
    rw[ZU] at e;obtain rfl:=Option.some.inj e
    exact ⟨v,.inr ⟨hk,k,hl,hce⟩,newT⟩
   ·rw[Ye _ q] at e
    obtain ⟨v',hv,hr⟩:=S.vars y lw e
    refine ⟨v',?_,varsT y lw v' q hr⟩
    rcases hv with ⟨h1,h2⟩|⟨h1,k',h2,h3⟩
    ·exact .inl ⟨h1,h2⟩
    ·exact .inr ⟨h1,k',h2,h3.sameBut hsb (by rintro rfl;exact q (S.apart y x _ h2 hl))⟩
theorem Act.taken{F}{h h'}{x}{σ'}{a0}(hF:FOk F)(hA:Act c F h ow σ)(hlo:F.hb.objs.size<=a0)(hs:Heap.SameBut a0 h h')(hfo:ow a0=.foreign)
  (hfr:∀ o,h.get? a0=some o->∃ o',h'.get? a0=some o'/\o'.cls=o.cls/\((∃ es n,o.data=.dict es n)->∃ es n,o'.data=.dict es n)) (hpl:σ'.pl=σ.pl)
  (hscp:match F.cenv with
   |none=>Z7T c F h' (Internal.taken ow x) σ'
   |some ce=>Zaf c F ce h' (Internal.taken ow x) σ'):Act c F h' (Internal.taken ow x) σ':=by
 refine ⟨⟨by rw[hs.1];exact hA.pres.1,fun a ob e n1 n2=>?_⟩,fun a ob e=>?_,hA.n0,fun a ha=>ZL (hA.new a (by rw[hs.1] at ha;exact ha)),fun a ha=>?_,?_,fun e he=>?_,hA.head,hA.ok,hscp⟩
 ·obtain ⟨o',e',s,k⟩:=hA.pres.2 a ob e (fun q=>n1 ((WW a).1.mpr q)) (fun q=>n2 ((WW a).2.mpr q))
  have:a≠a0:=Nat.ne_of_lt (Nat.lt_of_lt_of_le (Heap.lt_size e) hlo)
  exact ⟨o',(hs.2 a this).trans e',s,k⟩
 ·have:a≠a0:=Nat.ne_of_lt (Nat.lt_of_lt_of_le (Heap.lt_size e) (Nat.le_trans hA.n0 hlo))
  exact (hs.2 a this).trans (hA.h0 a ob e)
 ·have:=hA.fix a ha
  have hne:∀ o,Zx o=true->ow a≠o:=fun o ho q=>by rw[this] at q;have z:=hF a;rw[q,ho] at z;exact nomatch z
  unfold Internal.taken Internal.give
  rw[if_neg (hne _ rfl),if_neg (hne _ rfl)]
  exact this
 ·rw[hpl]
  exact hA.pool.grow (fun a o e q=>(hs.2 a (by rintro rfl;rw[hfo] at q;rcases q with q|q<;>cases q)).trans e) WW
 ·obtain ⟨hk,L,o,es,n,hf,hg,hc,hd,hn⟩:=hA.frames e he
  by_cases q:L=a0
  ·subst q
   obtain ⟨o',hg',h1,h2⟩:=hfr o hg
   obtain ⟨es',n',h3⟩:=h2 ⟨es,n,hd⟩
   exact ⟨hk,L,o',es',n',hf,hg',h1.trans hc,h3,hn⟩
  ·exact ⟨hk,L,o,es,n,hf,(hs.2 L q).trans hg,hc,hd,hn⟩
theorem UG{h h'}{x}{a0}(hA:Act c F h ow σ)(hs:Heap.SameBut a0 h h')(hx:a0=F.env.locals\/∃ y,F.env.cells.lookup y=some a0)(hfo:ow a0=.foreign):Z34 F h ow h' (Internal.taken ow x):=by
 refine ⟨Nat.le_of_eq hs.1.symm,fun a O q=>⟨?_,fun o e=>⟨o,(hs.2 a ?_).trans e,.refl _⟩⟩,Z0G ow x⟩
 ·rcases q with q|⟨q,O⟩
  ·rw[KT q,q]
  ·rw[ZL q,q]
 ·rintro rfl
  rcases q with q|⟨O,q1,q2⟩
  ·rw[hfo] at q;cases q
  ·rcases hx with hx|⟨y,hx⟩
   ·exact q1 hx
   ·exact q2 y hx
theorem JW{x}{v}{lv}{Q}(hF:FOk F)(hA:Act c F s.heap ow σ)(hcn:F.cenv=none)(hx:Wh F.fenv x)(hR:ZK c s.heap ow .tmp v lv)
  (k:∀ h' ow' tk,Act c F h' ow' {σ with vars:=ZA x lv σ.vars}->Z34 F s.heap ow h' ow'->Q () {s with heap:=h',toks:=tk}):wpAny M A (storeName F.env x v) Q E s:=by
 have he:F.env=F.fenv:=by unfold Frm.env;rw[hcn];rfl
 have S:=hA.scp
 rw[hcn] at S
 obtain ⟨s1,s2,m,S⟩:=S
 have okE:=hA.ok.1
 rw[he]
 rcases hx.2 with q|⟨q,q'⟩
 ·refine Xp okE.kind q S.ns fun h' hn hs ho=>k h' (taken ow x) _ ?_ (UG hA hs (.inl (by rw[he])) S.own)
  refine hA.taken (a0:=F.fenv.locals) hF S.low hs S.own (fun o e=>?_) rfl (by rw[hcn];exact .of c s1 s2 (S.store hx hR (.inl ⟨q,hn,hs⟩)))
  refine gG fun G gk=>?_
  obtain ⟨o',e',c1,O,O,es,n,d⟩:=ho o e
  refine gk ?_
  exact ⟨o',e',c1,fun O=>⟨es,n,d⟩⟩
 ·cases hl:F.fenv.cells.lookup x with
  |none=>rw[hl] at q';exact Z4 q'
  |some kk=>
   refine gG fun G gk=>?_
   obtain ⟨k1,k2,k3,w,k4⟩:=S.cells x kk hl
   refine gk ?_
   refine UF okE.kind q hl k4 fun h' hn hs ho=>k h' (taken ow x) _ ?_ (UG hA hs (.inr ⟨x,by rw[he];exact hl⟩) k3)
   refine hA.taken (a0:=kk) hF k1 hs k3 (fun o e=>?_) rfl (by rw[hcn];exact .of c s1 s2 (S.store hx hR (.inr ⟨q,kk,hl,hn,hs⟩)))
   obtain ⟨o',e',c1,d⟩:=ho o e
   exact ⟨o',e',c1,fun ⟨es,n,hd⟩=>absurd hd (d es n)⟩
theorem Z1L{ce}{x}{v}{d}{Q}(hA:Act c F s.heap ow σ)(hcn:F.cenv=some ce)(hx:W0 x)(hl:x∈σ.loc)(hR:Rep c s.heap ow v d)
  (k:∀ h' tk,Act c F h' ow {σ with vars:=ZA x (.fr d) σ.vars}->Heap.SameBut F.env.locals s.heap h'->Q () {s with heap:=h',toks:=tk}):wpAny M A (storeName F.env x v) Q E s:=by
 have he:F.env=ce:=by unfold Frm.env;rw[hcn];rfl
 have S:=hA.scp
 rw[hcn] at S
 obtain ⟨mf,m,S,C⟩:=S
 have okE:=hA.ok.2
 rw[he] at okE ⊢
 have hkx:=((C.loc x).mp hl).1
 refine Xp okE.kind hkx C.ns fun h' hn hs ho=>k h' _ ?_ ?_
 ·have hp:∀ a o,a≠ce.locals->s.heap.get? a=some o->h'.get? a=some o:=fun a o hne e=>(hs.2 a hne).trans e
  have hf:∀ a o,ow a=.frozen->s.heap.get? a=some o->∃ o',h'.get? a=some o'/\Sim o o':=fun a o hw e=>⟨o,hp a o (by rintro rfl;rw[C.own] at hw;exact nomatch hw) e,.refl _⟩
  refine ⟨⟨by rw[hs.1];exact hA.pres.1,fun a ob e n1 n2=>?_⟩,fun a ob e=>?_,hA.n0,fun a ha=>hA.new a (by rw[hs.1] at ha;exact ha),hA.fix,?_,fun e' he'=>?_,hA.head,hA.ok,?_⟩
  ·obtain ⟨o',e',s,k⟩:=hA.pres.2 a ob e n1 n2
   exact ⟨o',hp a _ (Nat.ne_of_lt (Nat.lt_of_lt_of_le (Heap.lt_size e) C.low)) e',s,k⟩
  ·exact hp a _ (Nat.ne_of_lt (Nat.lt_of_lt_of_le (Heap.lt_size e) (Nat.le_trans hA.n0 C.low))) (hA.h0 a ob e)
  ·exact hA.pool.grow (fun a o e q=>hp a o (by rintro rfl;rw[C.own] at q;rcases q with q|q<;>cases q) e) fun O=>⟨Iff.rfl,Iff.rfl⟩
  ·obtain ⟨hk,L,o,es,n,hf',hg,hc,hd,hn'⟩:=hA.frames e' he'
   by_cases q:L=ce.locals
   ·subst q
    refine gG fun G gk=>?_
    obtain ⟨o',hg',h1,O,O,es',n',h2⟩:=ho o hg
    refine gk ?_
    exact ⟨hk,_,o',es',n',hf',hg',h1.trans hc,h2,hn'⟩
   ·exact ⟨hk,L,o,es,n,hf',hp L o q hg,hc,hd,hn'⟩
  ·rw[hcn]
   refine ⟨mf,fun y=>if y=x then some v else m y,⟨S.ns.sameBut hs (Ne.symm C.ne),S.nsh,S.low,S.own,fun y kk e=>?_,S.apart,fun y lv e=>?_⟩,⟨hn,⟨(if_neg (Ne.symm hx.1)).trans C.nsh.1,(if_neg (Ne.symm hx.2)).trans C.nsh.2⟩,C.low,C.own,C.ne,C.nec,C.frame,C.link,C.loc,fun y lv e=>?_⟩⟩
   ·refine gG fun G gk=>?_
    obtain ⟨h1,h2,h3,w,h4⟩:=S.cells y kk e
    refine gk ?_
    exact ⟨h1,h2,h3,w,h4.sameBut hs (C.nec y kk e)⟩
   ·obtain ⟨v',hv,hr⟩:=S.vars y lv e
    refine ⟨v',?_,hr.mono c (fun a ob hw e=>⟨ob,hp a ob (by rintro rfl;rw[C.own] at hw;exact nomatch hw) e,.refl _⟩) hf (.refl _) fun a e O=>e⟩
    rcases hv with hv|⟨h1,k,h2,h3⟩
    ·exact .inl hv
    ·exact .inr ⟨h1,k,h2,h3.sameBut hs (C.nec y k h2)⟩
   ·by_cases q:y=x
    ·subst q
     dsimp only at e
     rw[ZU] at e;obtain rfl:=Option.some.inj e
     exact ⟨hl,d,v,rfl,if_pos rfl,hR.mono c hf (.refl _)⟩
    ·dsimp only at e
     rw[Ye _ q] at e
     refine gG fun G gk=>?_
     obtain ⟨h1,d',v',h2,h3,h4⟩:=C.vars y lv e
     refine gk ?_
     exact ⟨h1,d',v',h2,(if_neg q).trans h3,h4.mono c hf (.refl _)⟩
 ·rw[he];exact hs
end NZ.Internal
namespace NZ.Internal
open PySem PySem.Calls PyProof.Rows PySem.W
variable {c:Cx}{M:Model}{A:Around}{F:Frm}{s:Shared}{ow:Z5}{σ:St}{E:Value->Shared->Prop}{e:Addr}{m:Str}{tb:Value}
theorem WK:(Value.type "traceback"≠.type "frame")/\(Value.type "traceback"≠.type "dict")/\(WV (Value.type "traceback")):=⟨by decide,by decide,.inl rfl⟩
theorem Z5T.sim{h h'}(x:Z5T c h tb)(k:∀ T o ts,h.get? T=some o->o.data=.fields ts->∃ o' ts',h'.get? T=some o'/\o'.cls=o.cls/\o'.data=.fields ts'/\ts'.size=ts.size):Z5T c h' tb:=by
 rcases x with x|⟨T,oT,ts,e1,e2,e3,e4,e5,e6⟩
 ·exact .inl x
 ·obtain ⟨o',ts',g1,g2,g3,g4⟩:=k T oT ts e3 e5
  exact .inr ⟨T,o',ts',e1,e2,g1,g2.trans e4,g3,by rw[g4];exact e6⟩
theorem Yn.sim{h h'}{tb'}(x:Yn c h e m tb)(hs:∀ a o,h.get? a=some o->∃ o',h'.get? a=some o'/\Sim o o')
  (hr:∀ o vs,h.get? e=some o->o.data=.fields vs->∃ o' vs',h'.get? e=some o'/\o'.cls=o.cls/\o'.dict=o.dict/\o'.data=.fields vs'/\(vs[1]?=some tb->vs'[1]?=some tb')) (ht:Z5T c h' tb'):Yn c h' e m tb':=by
 refine gG fun G gk=>?_
 obtain ⟨oe,vs,dx,od,md,t,e1,e2,e3,e4,e5,e6,e7,e7',e8,e9,e10,e11⟩:=x
 obtain ⟨o',vs',g1,g2,g3,g4,g5⟩:=hr oe vs e2 e5
 obtain ⟨od',k1,k2⟩:=hs dx od e7
 refine gk ?_
 exact ⟨o',vs',dx,od',md,t,e1,g1,g2.trans e3,g3.trans e4,g4,g5 e6,k1,k2.cls.trans e7',k2.ns e7 k1 e8 e9,e9,e10,ht⟩
theorem ZcC{h:Heap}{a:Addr}{o:Obj}{m:Str->Option Value}(hn:h.Ns a m)(e:h.get? a=some o):∃ es n,o.data=.dict es n:=by
 refine gG fun G gk=>?_
 obtain ⟨o',es,n,e',hd,O⟩:=hn
 refine gk ?_
 rw[e] at e';injection e' with e';subst e';exact ⟨es,n,hd⟩
theorem Act.slots{S}{h h'}(hA:Act c F h ow σ)(hS:∀ b∈S,c.n₀<=b/\∃ o,h.get? b=some o/\o.cls=.type "frame")(x:Heap.SlotsOnly S h h'):Act c F h' ow σ/\Z7 c h ow h' ow:=by
 refine hA.grow (Nat.le_of_eq x.1.symm) (fun a o e=>?_) (fun O O=>rfl) (fun a ha=>by rw[hA.new a ha];exact ⟨nofun,nofun⟩) fun a ha=>hA.new a (by rw[x.1] at ha;exact ha)
 by_cases q:a∈S
 ·refine gG fun G gk=>?_
  obtain ⟨hn,o1_,e1_,hc⟩:=hS a q
  refine gk ?_
  rw[e] at e1_;obtain rfl:=Option.some.inj e1_
  obtain ⟨sl,e'⟩:=x.2.2 a o e
  refine ⟨_,e',.slots sl hc,?_⟩
  rintro (z|z|z)
  ·exact absurd z (Nat.not_lt.mpr hn)
  ·have P:=hA.pool
   cases hp:σ.pl with
   |none=>rw[hp] at P;exact absurd z (P a).1
   |some p=>
    rw[hp] at P
    obtain ⟨Pa,C,oP,oC,t1,t2,vs,O,O,h3,O,O,O,h7,h8,O⟩:=P
    have:=h3 a z;subst this
    rw[e] at h7;obtain rfl:=Option.some.inj h7
    rw[h8.1] at hc;exact absurd hc (by decide)
  ·have P:=hA.pool
   cases hp:σ.pl with
   |none=>rw[hp] at P;exact absurd z (P a).2
   |some p=>
    rw[hp] at P
    obtain ⟨Pa,C,oP,oC,t1,t2,vs,O,O,O,h4,O,O,O,O,h9,h10,O⟩:=P
    have:=h4 a z;subst this
    rw[e] at h9;obtain rfl:=Option.some.inj h9
    rw[h10.1] at hc;exact absurd hc (by decide)
 ·exact ⟨o,(x.2.1 a q).trans e,.refl _,fun O=>rfl⟩
theorem Act.fields{h}{a}{o}{vs}{i}{v}(hA:Act c F h ow σ)(e:h.get? a=some o)(hn:c.n₀<=a)(h1:o.cls≠.type "frame")(h2:o.cls≠.type "dict")(h3:WV o.cls)(hd:o.data=.fields vs) :
  ∃ o',(h.update a (Obj.mapFields (fun O=>O.setIfInBounds i v))).get? a=some o'/\o'.cls=o.cls/\o'.dict=o.dict/\o'.data=.fields (vs.setIfInBounds i v)/\(∀ b,b≠a->(h.update a (Obj.mapFields (fun O=>O.setIfInBounds i v))).get? b=h.get? b) /\
  Act c F (h.update a (Obj.mapFields (fun O=>O.setIfInBounds i v))) ow σ/\Z7 c h ow (h.update a (Obj.mapFields (fun O=>O.setIfInBounds i v))) ow:=by
 have hd':=Obj.data_mapFields hd (fun O=>O.setIfInBounds i v)
 have e':=Heap.get?_update_self (Obj.mapFields (fun O=>O.setIfInBounds i v)) e (Obj.isFreed_of_fields hd')
 have hdict:(Obj.mapFields (fun O=>O.setIfInBounds i v) o).dict=o.dict:=by obtain ⟨cl,d,dt,sl⟩:=o;subst hd;rfl
 have hot:∀ b,b≠a->(h.update a (Obj.mapFields (fun O=>O.setIfInBounds i v))).get? b=h.get? b:=fun b hb=>Heap.get?_update_other _ _ (Ne.symm hb)
 have hsz:(h.update a (Obj.mapFields (fun O=>O.setIfInBounds i v))).objs.size=h.objs.size:=(Heap.SameBut.update ..).1
 refine ⟨_,e',Obj.cls_mapFields _ _,hdict,hd',hot,hA.grow (Nat.le_of_eq hsz.symm) (fun b ob eb=>?_) (fun O O=>rfl) (fun b hb=>by rw[hA.new b hb];exact ⟨nofun,nofun⟩) fun b hb=>hA.new b (by rw[hsz] at hb;exact hb)⟩
 by_cases q:b=a
 ·subst q
  rw[e] at eb;obtain rfl:=Option.some.inj eb
  refine ⟨_,e',.fld h1 h2 h3 (Obj.cls_mapFields _ _) hdict hd hd' (by simp),?_⟩
  rintro (z|z|z)
  ·exact absurd z (Nat.not_lt.mpr hn)
  ·have P:=hA.pool
   cases hp:σ.pl with
   |none=>rw[hp] at P;exact absurd z (P b).1
   |some p=>
    rw[hp] at P
    obtain ⟨Pa,C,oP,oC,t1,t2,vs,O,O,h3,O,O,O,h7,⟨O,O,O,h8⟩,O⟩:=P
    have:=h3 b z;subst this
    rw[e] at h7;obtain rfl:=Option.some.inj h7
    rw[h8] at hd;cases hd
  ·have P:=hA.pool
   cases hp:σ.pl with
   |none=>rw[hp] at P;exact absurd z (P b).2
   |some p=>
    rw[hp] at P
    obtain ⟨Pa,C,oP,oC,t1,t2,vs,O,O,O,h4,O,O,O,O,h9,⟨O,O,O,h10⟩,O⟩:=P
    have:=h4 b z;subst this
    rw[e] at h9;obtain rfl:=Option.some.inj h9
    rw[h10] at hd;cases hd
 ·exact ⟨ob,(hot b q).trans eb,.refl _,fun O=>rfl⟩
theorem YX.fun{h}{fr}(x:YX c h fr):h.FunFrames c.h₀ fr/\∀ b∈fr.filterMap (fun O=>O.frame),c.n₀<=b/\∃ o,h.get? b=some o/\o.cls=.type "frame":=by
 induction fr with
 |nil=>exact ⟨trivial,fun b hb=>by cases hb⟩
 |cons env r ih=>
  obtain ⟨hk,L,o,es,n,hf,hg,hc,hd,hn⟩:=x env List.mem_cons_self
  obtain ⟨i1,i2⟩:=ih fun e he=>x e (List.mem_cons_of_mem _ he)
  refine ⟨⟨hk,⟨L,o,hf,Z5V hn,hg,fun vs q=>by rw[hd] at q;cases q⟩,i1⟩,fun b hb=>?_⟩
  simp only[List.filterMap_cons,hf] at hb
  rcases List.mem_cons.mp hb with q|hb
  ·subst q;exact ⟨hn,o,hg,hc⟩
  ·exact i2 b hb
theorem Z0H{env}{Q}(hfr:A.frames=some F.frames)(hA:Act c F s.heap ow σ)(hf:env.frame=F.fenv.frame)
  (k:∀ L h',env.frame=some L->Act c F h' ow σ->Z7 c s.heap ow h' ow->(∀ b o,s.heap.get? b=some o->o.cls≠.type "frame"->h'.get? b=some o)->h'.objs.size=s.heap.objs.size->Q (.ref L) {s with heap:=h'}):wpAny M A (PySem.frameOf env) Q E s:=by
 refine gG fun G gk=>?_
 obtain ⟨e0,r,hF,he⟩:=hA.head
 obtain ⟨f1,f2⟩:=hA.frames.fun
 obtain ⟨hk,L,o,es,n,hL,hg,hc,hd,hn⟩:=hA.frames e0 (by rw[hF];exact List.mem_cons_self)
 refine gk ?_
 unfold PySem.frameOf
 refine wpAny_bind (wpAny_frameEnvs hfr ?_)
 have hdw:(F.frames.dropWhile fun x=>x.frame != env.frame)=e0::r:=by rw[hF,hf,<-he];simp[List.dropWhile]
 rw[hdw]
 unfold frameObject
 refine wpAny_bind (wpAny_bind (wpAny_readyFrames_fun (base:=c.h₀) (hF▸f1) fun h1_ hs1=>wpAny_pure ?_))
 rw[hL]
 rw[<-hF] at hs1
 obtain ⟨a1,a2⟩:=hA.slots f2 hs1
 refine wpAny_pure (k L h1_ (by rw[hf,<-he];exact hL) a1 a2 (fun b o e hnc=>?_) hs1.1)
 by_cases q:b∈F.frames.filterMap (fun O=>O.frame)
 ·obtain ⟨O,o',e',hc'⟩:=f2 b q
  rw[e] at e';injection e' with e';subst e';exact absurd hc' hnc
 ·exact (hs1.2.1 b q).trans e
theorem Z7.sims{h h'}{ow'}(x:Z7 c h ow h' ow')(np:∀ a o,h.get? a=some o->ow a≠.poolP/\ow a≠.poolC)(a)(o)(e:h.get? a=some o):∃ o',h'.get? a=some o'/\Sim o o':=
 let ⟨o',e',k,_⟩:=x.1.2 a o e (np a o e).1 (np a o e).2;⟨o',e',k⟩
theorem Yw{f}{Q}(hA:Act c F s.heap ow σ)(hfl:Yn c s.heap e m tb)
  (k:∀ h',Act c F h' ow σ->Z7 c s.heap ow h' ow->Yn c h' e m tb->Q () {s with heap:=h'}):wpAny M A (setFlight (.ref e) f) Q E s:=by
 obtain ⟨oe,vs,dx,od,md,t,e1,e2,e3,e4,e5,e6,e7,e7',e8,e9,e10,e11⟩:=id hfl
 unfold setFlight
 refine wpAny_bind (wpAny_field e2 e5 e6 ?_)
 rcases e11 with q|⟨T,oT,ts,q,g1,g2,g3,g4,g5⟩
 ·subst q
  rw[if_neg (by decide)]
  exact wpAny_pure (k s.heap hA (.refl _ _) hfl)
 ·subst q
  rw[if_pos (show (Value.ref T != Value.none)=true from by simp)]
  refine wpAny_setField g2 g4 g5 ?_
  refine gG fun G gk=>?_
  obtain ⟨t1,t2,t3⟩:=WK
  obtain ⟨o',k1,k2,k3,k4,k5,k6,k7⟩:=hA.fields (i:=3) (v:=f.elim .none fun f=>rawInt f) g2 g1 (by rw[g3];exact t1) (by rw[g3];exact t2) (by rw[g3];exact t3) g4
  refine gk ?_
  have hTe:e≠T:=by rintro rfl;rw[e2] at g2;injection g2 with g2;subst g2;rw[e3] at g3;cases g3
  have hTd:dx≠T:=by rintro rfl;rw[e7] at g2;injection g2 with g2;subst g2;rw[e7'] at g3;exact absurd g3 (by decide)
  refine k _ k6 k7 ⟨oe,vs,dx,od,md,t,e1,(k5 e hTe).trans e2,e3,e4,e5,e6,(k5 dx hTd).trans e7,e7',?_,e9,e10,.inr ⟨T,o',_,rfl,g1,k1,k2.trans g3,k4,by simpa using g5⟩⟩
  obtain ⟨o1_,es,ep,p1,p2⟩:=e8
  exact ⟨o1_,es,ep,(k5 dx hTd).trans p1,p2⟩
theorem VL{env}{L}{head}{b}{Q}(hfr:A.frames=some F.frames)(hA:Act c F s.heap ow σ)(hf:env.frame=F.fenv.frame)(hfl:Yn c s.heap e m tb)
  (k:∀ h' ow' T,Act c F h' ow' σ->Z7 c s.heap ow h' ow'->Yn c h' e m (.ref T)->Q () {s with heap:=h'}) :
  wpAny M A (do let a <-PySem.frameOf env;let pl <-entryPlaceOf L b;let t <-EntryCells.newEntry head a .none (rawInt L) .none pl;setField (.ref e) 1 t) Q E s:=by
 obtain ⟨oe,vs,dx,od,md,t,e1,e2,e3,e4,e5,e6,e7,e7',e8,e9,e10,e11⟩:=id hfl
 refine wpAny_bind (Z0H hfr hA hf fun L' h1_ O hA1 hS1 keep hsz=>?_)
 refine wpAny_bind (wpAny_entryPlaceOf fun pl hpl=>?_)
 unfold EntryCells.newEntry newFields
 refine wpAny_bind (wpAny_newObj_type ?_ (hpl.sizeOk5 _ _ _ _ _))
 have hecls:oe.cls≠.type "frame":=by rw[e3];nofun
 have he1:=keep e oe e2 hecls
 have hd1_:=keep dx od e7 (by rw[e7'];decide)
 generalize hob:({cls:=.type "traceback",dict:=none,data:=.fields ([head,.ref L',.none,rawInt L,.none]++(if pl.isEmpty then List.replicate 6 Value.none else pl)).toArray}:Obj)=ob
 obtain ⟨hA2,hS2⟩:=hA1.push ob (o:=.foreign) ⟨nofun,nofun⟩
 have he2:=Heap.get?_push_of_some (h:=h1_) ob he1
 have hd2:=Heap.get?_push_of_some (h:=h1_) ob hd1_
 have hlt:1 < vs.size:=(Array.getElem?_eq_some_iff.mp e6).1
 refine wpAny_setField he2 e5 hlt ?_
 refine gG fun G gk=>?_
 obtain ⟨o',k1,k2,k3,k4,k5,k6,k7⟩:=hA2.fields (i:=1) (v:=.ref h1_.objs.size) he2 e1 hecls (by rw[e3];nofun) (by rw[e3];exact .inr ⟨_,rfl⟩) e5
 refine gk ?_
 have hTe:h1_.objs.size≠e:=Nat.ne_of_gt (Heap.lt_size he1)
 have hde:dx≠e:=by rintro rfl;rw[e2] at e7;injection e7 with e7;subst e7;rw[e3] at e7';exact nomatch e7'
 refine k _ _ h1_.objs.size k6 ((hS1.trans hS2).trans k7) ⟨o',_,dx,od,md,t,e1,k1,k2.trans e3,k3.trans e4,k4,by simp[hlt],(k5 dx hde).trans hd2,e7',?_,e9,e10,.inr ⟨h1_.objs.size,ob,_,rfl,?_,(k5 _ hTe).trans (Heap.get?_push_size h1_ (by rw[<-hob];rfl)),by rw[<-hob],by rw[<-hob],?_⟩⟩
 ·obtain ⟨o1_,es,ep,p1,p2⟩:=e8
  rw[e7] at p1;obtain rfl:=Option.some.inj p1
  exact ⟨od,es,ep,(k5 dx hde).trans hd2,p2⟩
 ·exact Nat.le_of_lt (Nat.lt_of_le_of_lt e1 (Heap.lt_size he1))
 ·simp only[List.size_toArray,List.length_append,List.length_cons,List.length_nil];lia
theorem Xv{env}{Q}(hfr:A.frames=some F.frames)(hA:Act c F s.heap ow σ)(hf:env.frame=F.fenv.frame)(hfl:Yn c s.heap e m tb)
  (k:∀ h' ow' T,Act c F h' ow' σ->Z7 c s.heap ow h' ow'->Yn c h' e m (.ref T)->Q () {s with heap:=h'}):wpAny M A (noteFrame (.ref e) env) Q E s:=by
 obtain ⟨oe,vs,dx,od,md,t,e1,e2,e3,e4,e5,e6,e7,e7',e8,e9,e10,e11⟩:=id hfl
 obtain ⟨e0,r,hF,he⟩:=hA.head
 obtain ⟨O,L,o,es,n,hL,O⟩:=hA.frames e0 (by rw[hF];exact List.mem_cons_self)
 have hL':env.frame=some L:=by rw[hf,<-he];exact hL
 unfold noteFrame
 simp only[hL']
 refine wpAny_bind (wpAny_field e2 e5 e6 ?_)
 rcases e11 with q|⟨T,oT,ts,q,g1,g2,g3,g4,g5⟩
 ·subst q
  rw[if_neg (by decide)]
  exact VL hfr hA hf hfl k
 ·subst q
  rw[if_pos (show (Value.ref T != Value.none)=true from by simp)]
  refine wpAny_bind (wpAny_field g2 g4 (x:=ts[3]) (by simp[g5]) ?_)
  split
  ·exact wpAny_pure (k _ _ T hA (.refl _ _) hfl)
  ·refine gG fun G gk=>?_
   obtain ⟨t1,t2,t3⟩:=WK
   obtain ⟨o',k1,k2,k3,k4,k5,k6,k7⟩:=hA.fields (i:=3) (v:=.none) g2 g1 (by rw[g3];exact t1) (by rw[g3];exact t2) (by rw[g3];exact t3) g4
   refine gk ?_
   refine wpAny_bind (wpAny_setField g2 g4 g5 ?_)
   have hTe:e≠T:=by rintro rfl;rw[e2] at g2;injection g2 with g2;subst g2;rw[e3] at g3;cases g3
   have hTd:dx≠T:=by rintro rfl;rw[e7] at g2;injection g2 with g2;subst g2;rw[e7'] at g3;exact absurd g3 (by decide)
   refine VL (tb:=.ref T) (s:={s with heap:=s.heap.update T (Obj.mapFields (fun O=>O.setIfInBounds 3 .none))}) hfr k6 hf ⟨oe,vs,dx,od,md,t,e1,(k5 e hTe).trans e2,e3,e4,e5,e6,(k5 dx hTd).trans e7,e7',?_,e9,e10,.inr ⟨T,o',_,rfl,g1,k1,k2.trans g3,k4,by simpa using g5⟩⟩ fun h' ow' T' a1 a2 a3=>k h' ow' T' a1 (k7.trans a2) a3
   refine gG fun G gk=>?_
   obtain ⟨o1_,es,ep,p1,p2⟩:=e8
   refine gk ?_
   exact ⟨o1_,es,ep,(k5 dx hTd).trans p1,p2⟩
theorem Z0I{env}{Q}(hfr:A.frames=some F.frames)(hA:Act c F s.heap ow σ)(hf:env.frame=F.fenv.frame)(hfl:Yn c s.heap e m tb)
  (k:∀ h' ow' T,Act c F h' ow' σ->Z7 c s.heap ow h' ow'->Yn c h' e m (.ref T)->Q () {s with heap:=h'}):wpAny M A (leaving env (.ref e)) Q E s:=by
 unfold leaving
 refine wpAny_bind (Xv hfr hA hf hfl fun h' ow' T a1 a2 a3=>?_)
 exact Yw (s:={s with heap:=h'}) a1 a3 fun h'' b1 b2 b3=>k h'' ow' T b1 (a2.trans b2) b3
theorem Vg{env}(hA:Act c F s.heap ow σ)(hfl:Yn c s.heap e m tb)(htb:tb≠.none)
  (k:∀ h',Act c F h' ow σ->Z7 c s.heap ow h' ow->Yn c h' e m tb->E (.ref e) {s with heap:=h'}):cameBackBy M A env E (.ref e) s:=by
 obtain ⟨oe,vs,dx,od,md,t,e1,e2,e3,e4,e5,e6,e7,e7',e8,e9,e10,e11⟩:=id hfl
 unfold cameBackBy
 refine wpAny_bind (wpAny_field e2 e5 e6 ?_)
 rw[if_neg (by simpa using htb)]
 exact Yw hA hfl k
theorem XG{env}(hfr:A.frames=some F.frames)(hA:Act c F s.heap ow σ)(hf:env.frame=F.fenv.frame)(hfl:Yn c s.heap e m tb)
  (k:∀ h' ow' T,Act c F h' ow' σ->Z7 c s.heap ow h' ow'->Yn c h' e m (.ref T)->E (.ref e) {s with heap:=h'}):notedBy M A env E (.ref e) s:=by
 unfold notedBy
 exact Xv hfr hA hf hfl k
end NZ.Internal
namespace NZ.Internal
open PySem PySem.Calls PyProof.Rows PySem.W PySem.SeqAt
variable {c:Cx}{h:Heap}{ow:Z5}
noncomputable abbrev PRG:Program:=PySem.Challenge.pw_nz0515_01
theorem ZK.anyRep{o}{v}{lv}{d}(x:ZK c h ow o v lv)(e:lv=.fr d):Rep c h ow v d:=by subst e;exact x
noncomputable def Zah:D->Bool:=fun O=>match O with
 |.list O=>false
 |.dict O=>false
 |.vec O U V=>false
 |O=>true
theorem ZS.rep{v}{lv}{d}(x:ZS c h ow v lv)(e:lv.d=d)(hn:Zah d=true):Zcl c h ow v d:=by
 obtain ⟨o,O,x⟩:=x
 subst e
 induction lv with
 |fr d=>exact x.out
 |_=>first|exact Z3 hn|exact Z4 hn|cases hn
theorem ZS.int{v}{lv}{i}(x:ZS c h ow v lv)(e:lv.d=.int i):∃ t,v=.int i t:=x.rep e rfl
theorem ZS.str{v}{lv}{i}(x:ZS c h ow v lv)(e:lv.d=.str i):∃ t,v=.str i t:=x.rep e rfl
theorem ZS.bool{v}{lv}{b}(x:ZS c h ow v lv)(e:lv.d=.bool b):v=.bool b:=x.rep e rfl
theorem ZS.none{v}{lv}(x:ZS c h ow v lv)(e:lv.d=.none):v=.none:=x.rep e rfl
theorem ZS.list{v}{lv}{ds}(x:ZS c h ow v lv)(e:lv.d=.list ds):∃ a,v=.ref a/\Y6 c h ow a ds:=by
 obtain ⟨o,O,x⟩:=x
 cases lv with
 |fr d=>subst e;obtain ⟨a,h1,O,h2⟩:=x.out;exact ⟨a,h1,h2⟩
 |ol ds=>injection e with e;subst e;obtain ⟨a,h1,O,h2⟩:=x;exact ⟨a,h1,h2⟩
 |_=>first|exact Z3 e|exact Z4 e|cases e
theorem ZS.dict{v}{lv}{ds}(x:ZS c h ow v lv)(e:lv.d=.dict ds):∃ a,v=.ref a/\DictAt c h ow a ds:=by
 obtain ⟨o,O,x⟩:=x
 cases lv with
 |fr d=>subst e;obtain ⟨a,h1,O,h2⟩:=x.out;exact ⟨a,h1,h2⟩
 |od ds=>injection e with e;subst e;obtain ⟨a,h1,O,h2⟩:=x;exact ⟨a,h1,h2⟩
 |_=>first|exact Z3 e|exact Z4 e|cases e
theorem ZS.tup{v}{lv}{ds}(x:ZS c h ow v lv)(e:lv.d=.tup ds):Z8W c h ow v ds:=x.rep e rfl
theorem ZS.rng{v}{lv}{i j}(x:ZS c h ow v lv)(e:lv.d=.rng i j):∃ a ob,v=.ref a/\h.get? a=some ob/\Z5S ob i j/\i.natAbs < LIM/\j.natAbs < LIM:=x.rep e rfl
theorem ZS.pool{v}{lv}(x:ZS c h ow v lv)(e:lv.d=.pool):∃ a,v=.ref a/\ow a=.poolP:=x.rep e rfl
theorem ZS.poolc{v}{lv}(x:ZS c h ow v lv)(e:lv.d=.poolc):∃ a,v=.ref a/\ow a=.poolC:=x.rep e rfl
theorem Zu{a}{ob}{vs}(e:h.get? a=some ob)(x:UC ob vs):h.IsList a vs:=⟨ob,e,x.1,x.2.2⟩
variable {A:Around}{F:Frm}{s:Shared}{σ:St}{E:Value->Shared->Prop}{Q:Value->Shared->Prop}
theorem Z2.val{d}{v}{tk}(hP:Z2 c F (Z7 c) (Zv c) s.heap ow s (.ok (.fr d,none) σ) Q E)(hA:Act c F s.heap ow σ)(hr:Rep c s.heap ow v d):Q v {s with toks:=tk}:=
 hP v s.heap ow tk hA (.refl _ _) ⟨hr,nofun⟩
theorem Z2.valH{d}{v}{h'}{tk}(hP:Z2 c F (Z7 c) (Zv c) s.heap ow s (.ok (.fr d,none) σ) Q E)(hA:Act c F s.heap ow σ)(hk:∀ a o,s.heap.get? a=some o->h'.get? a=some o)(hs:s.heap.objs.size<=h'.objs.size)
  (hr:Rep c h' ow v d):Q v {s with heap:=h',toks:=tk}:=
 hP v h' ow tk (hA.keeps hs hk).1 (hA.keeps hs hk).2 ⟨hr,nofun⟩
theorem Z2.newList{ds}{h'}{vs}{n tk}{a}(hP:Z2 c F (Z7 c) (Zv c) s.heap ow s (.ok (.ol ds,none) σ) Q E)(hA:Act c F s.heap ow σ)(hs:s.heap.objs.size<=a)(hlt:a < h'.objs.size)(hk:∀ a o,s.heap.get? a=some o->h'.get? a=some o)
  (ha:h'.get? a=some {cls:=.type "list",dict:=none,data:=.seq vs n,slots:=#[]}) (hsz:vs.size=ds.length) (hl:ds.length<=LIM) (hr:∀ (i:Nat) (v:Value) (d:D),vs[i]?=some v->ds[i]?=some d->Rep c s.heap ow v d) :
  Q (.ref a) {s with heap:=h',toks:=tk}:=by
 have hsize:s.heap.objs.size<=h'.objs.size:=Nat.le_of_lt (Nat.lt_of_le_of_lt hs hlt)
 obtain ⟨a1,a2⟩:=hA.grow (ow':=upd ow a .tmp) hsize (fun b o e=>⟨o,hk b o e,.refl _,fun O=>rfl⟩) (fun b hb=>ZD (Nat.ne_of_lt (Nat.lt_of_lt_of_le hb hs)))
  (fun b hb=>by unfold upd;split;exact ⟨nofun,nofun⟩;rw[hA.new b hb];exact ⟨nofun,nofun⟩) (fun b hb=>by rw[ZD (Nat.ne_of_gt (Nat.lt_of_lt_of_le hlt hb))];exact hA.new b (Nat.le_trans hsize hb))
 exact hP (.ref a) h' _ tk a1 a2 ⟨⟨a,rfl,Y7 _ _ _,_,vs,ha,⟨rfl,⟨rfl,rfl⟩,n,rfl⟩,hsz,hl,fun i v d e1 e2=>(hr i v d e1 e2).step a2 hA.new⟩,nofun⟩
theorem Z7U(a b:Int):decide (a=b)=(a == b):=by rw[Bool.eq_iff_iff];simp
theorem Z7V(a b:Str):decide (a=b)=(a == b):=by rw[Bool.eq_iff_iff];simp
inductive FV:Value->FD->Prop where
 |n:FV .none .n
 |i (x:Int) (t:Tok):FV (.int x t) (.i x)
 |s (x:Str) (t:Tok):FV (.str x t) (.s x)
theorem Rep.fv{a}{d}{f}(hx:Rep c h ow a d)(e:d.f?=some f):FV a f:=by
 cases D.f?_of e
 induction f with
 |n=>obtain rfl:=hx.out;exact .n
 |i=>obtain ⟨O,rfl⟩:=hx.out;exact .i _ _
 |s=>obtain ⟨O,rfl⟩:=hx.out;exact .s _ _
theorem Z7W{a b:Value}{x y:FD}(hx:FV a x)(hy:FV b y):EqAt A s a b (x.eq y)/\RcAt A s a b (x.eq y)/\RcNeAt A s a b (!x.eq y):=by
 induction hx with
 |n=>induction hy with
  |n=>exact ⟨EqAt.same _,RcAt.none_none,RcNeAt.none_none⟩
  |i=>exact ⟨EqAt.none_int _ _,RcAt.none_int _ _,RcNeAt.none_int _ _⟩
  |s=>exact ⟨EqAt.none_str _ _,RcAt.none_str _ _,RcNeAt.none_str _ _⟩
 |i=>induction hy with
  |n=>exact ⟨EqAt.int_none _ _,RcAt.int_none _ _,RcNeAt.int_none _ _⟩
  |i=>show EqAt A s _ _ (decide _)/\RcAt A s _ _ (decide _)/\RcNeAt A s _ _ (!decide _);rw[Z7U];exact ⟨EqAt.int_int _ _ _ _,RcAt.int_int _ _ _ _,RcNeAt.int_int _ _ _ _⟩
  |s=>exact ⟨EqAt.int_str _ _ _ _,RcAt.int_str _ _ _ _,RcNeAt.int_str _ _ _ _⟩
 |s=>induction hy with
  |n=>exact ⟨EqAt.str_none _ _,RcAt.str_none _ _,RcNeAt.str_none _ _⟩
  |i=>exact ⟨EqAt.str_int _ _ _ _,RcAt.str_int _ _ _ _,RcNeAt.str_int _ _ _ _⟩
  |s=>show EqAt A s _ _ (decide _)/\RcAt A s _ _ (decide _)/\RcNeAt A s _ _ (!decide _);rw[Z7V];exact ⟨EqAt.str_str _ _ _ _,RcAt.str_str _ _ _ _,RcNeAt.str_str _ _ _ _⟩
theorem Z5X{x y}{k}(e:eqF x y=some k):∃ f g,x.f?=some f/\y.f?=some g/\k=f.eq g:=by
 unfold eqF at e
 cases hx:x.f? with
 |none=>rw[hx] at e;exact Z3 e
 |some f=>cases hy:y.f? with
  |none=>rw[hx,hy] at e;cases e
  |some g=>rw[hx,hy] at e;injection e with e;subst e;exact ⟨f,g,rfl,rfl,rfl⟩
theorem Z5Y{a b}{x y}{k}(hx:Rep c h ow a x)(hy:Rep c h ow b y)(e:eqF x y=some k):EqAt A s a b k/\RcAt A s a b k/\RcNeAt A s a b (!k):=by
 obtain ⟨f,g,e1,e2,rfl⟩:=Z5X e
 exact Z7W (hx.fv e1) (hy.fv e2)
theorem Z5Z{xs}:∀ {ys:List D} {k:Bool},Z4t xs ys=some k->∃ e:Nat->Bool,(∀ j (x y:D),xs[j]?=some x->ys[j]?=some y->eqF x y=some (e j))/\(List.range xs.length).all e=k:=by
 induction xs with
 |nil=>
  intro ys k h
  induction ys with
  |nil=>exact ⟨fun O=>true,fun O O O e=>Z3 e,Option.some.inj h⟩
  |cons=>exact Z3 h
 |cons x xs ih=>
  intro ys k h
  cases ys with
  |nil=>exact Z3 h
  |cons y ys=>
   refine gG fun G gk=>?_
   obtain ⟨b,hb,h⟩:=Option.bind_eq_some_iff.mp h
   obtain ⟨b',hb',rfl⟩:=Option.map_eq_some_iff.mp h
   obtain ⟨e,he,hk⟩:=ih hb'
   refine gk ?_
   refine ⟨fun j=>Nat.rec b (fun j O=>e j) j,fun j x' y' e1 e2=>?_,?_⟩
   ·induction j with
    |zero=>exact Option.some.inj e1▸Option.some.inj e2▸hb
    |succ j=>exact he j x' y' e1 e2
   ·simp only[List.length_cons,List.range_succ_eq_map,List.all_cons,List.all_map,<-hk];rfl
theorem Zai{a b}{xs ys}{k}(hu:A.units < cLine)(hx:Y6 c s.heap ow a xs)(hy:Y6 c s.heap ow b ys)(e:eqL xs ys=some k) :
  RcAt A s (.ref a) (.ref b) k/\RcNeAt A s (.ref a) (.ref b) (!k):=by
 obtain ⟨oa,va,ga,la,sa,za,ra⟩:=hx
 obtain ⟨ob,vb,gb,lb,sb,zb,rb⟩:=hy
 unfold eqL at e
 refine ite_el e (fun hl e=>?_) fun hl e=>?_
 ·obtain ⟨e',he,rfl⟩:=Z5Z e
  have hsz:va.size=vb.size:=by simp only[sa,sb,hl]
  have hall:∀ j (h1:j < va.size) (h2:j < vb.size),EqAt A.in1 s va[j] vb[j] (e' j):=fun j h1 h2=>by
   have h1':j < xs.length:=sa▸h1
   have h2':j < ys.length:=sb▸h2
   exact (Z5Y (ra j _ xs[j] (by simp[h1]) (by simp[h1'])) (rb j _ ys[j] (by simp[h2]) (by simp[h2'])) (he j _ _ (by simp[h1']) (by simp[h2']))).1
  rw[<-sa]
  exact ⟨RcAt.lists (Zu ga la) (Zu gb lb) hsz hu hall,RcNeAt.lists (Zu ga la) (Zu gb lb) hsz hu hall⟩
 ·obtain rfl:=Option.some.inj e
  have hsz:(va.size != vb.size)=true:=by simp only[sa,sb];simpa using hl
  exact ⟨RcAt.lists_lengths (Zu ga la) (Zu gb lb) hsz hu,RcNeAt.lists_lengths (Zu ga la) (Zu gb lb) hsz hu⟩
theorem Zaj{vs}{ns}(x:IntsAre vs ns):vs.length=ns.length:=x.length
theorem ZS.flat{v}{lv}{f}{h}(x:ZS c h ow v lv)(e:lv.d.f?=some f):Rep c h ow v lv.d:=by
 obtain ⟨o,O,x⟩:=x
 induction lv with
 |fr d=>exact x
 |_=>first|exact Z3 e|exact Z4 e|cases e
theorem Z60{a b}{x y}{k}(hu:A.units < cLine)(hA:Act c F s.heap ow σ)(hx:ZS c s.heap ow a x)(hy:ZS c s.heap ow b y)(e:eqD σ x.d y.d=some k):RcAt A s a b k/\RcNeAt A s a b (!k):=by
 unfold eqD at e
 cases hl:y.d.l? with
 |none=>
  rw[hl] at e
  refine gG fun G gk=>?_
  obtain ⟨f,g,e1,e2,O⟩:=Z5X e
  refine gk ?_
  exact (Z5Y (hx.flat e1) (hy.flat e2) e).2
 |some ys=>
 rw[hl] at e
 obtain ⟨q,rfl,hq⟩:=hy.list (D.l?_of hl)
 cases hk:x.d.l? with
 |some xs=>
  rw[hk] at e
  obtain ⟨p,rfl,hp⟩:=hx.list (D.l?_of hk)
  exact Zai hu hp hq e
 |none=>
  rw[hk] at e
  dsimp only at e
  split at e
  case isFalse=>exact Z3 e
  rename_i hc
  obtain ⟨hc,rfl⟩:=hc
  obtain ⟨p,rfl,hp⟩:=hx.poolc (D.isPoolc_of hc)
  obtain ⟨ob,vb,gb,lb,sb,O⟩:=hq
  obtain ⟨pl,hpl,rfl⟩:=Option.map_eq_some_iff.mp e
  have P:=hA.pool
  rw[hpl] at P
  obtain ⟨Pa,C,oP,oC,t1,t2,vs,O,O,O,h4,O,O,O,O,h9,h10,h11,O⟩:=P
  have:=h4 p hp;subst this
  have hsb:vb.size=0:=sb
  have hlen:=h11.length
  cases hcs:pl.cells with
  |nil=>
   have hv:vs=[]:=List.length_eq_zero_iff.mp (by simp only[hlen,hcs];rfl)
   subst hv
   have hall:∀ j (h1:j < (List.toArray ([]:List Value)).size) (h2:j < vb.size),EqAt A.in1 s (List.toArray ([]:List Value))[j] vb[j] ((fun O=>true) j):=fun j h1 O=>by simp at h1
   have r1:=RcAt.lists (Zu h9 h10) (Zu gb lb) (by simp[hsb]) hu hall
   have r2:=RcNeAt.lists (Zu h9 h10) (Zu gb lb) (by simp[hsb]) hu hall
   exact ⟨by simpa using r1,by simpa using r2⟩
  |cons z zs=>
   have hne:((List.toArray vs).size != vb.size)=true:=by rw[hsb];simp[hlen,hcs]
   exact ⟨by simpa using RcAt.lists_lengths (Zu h9 h10) (Zu gb lb) hne hu,by simpa using RcNeAt.lists_lengths (Zu h9 h10) (Zu gb lb) hne hu⟩
end NZ.Internal
namespace NZ.Internal
open PySem PySem.Calls PyProof.Rows PySem.W PySem.SeqAt
variable {c:Cx}{ow:Z5}{A:Around}{F:Frm}{s:Shared}{σ:St}{E:Value->Shared->Prop}{Q:Value->Shared->Prop}
noncomputable abbrev MD(c:Cx):Model:=model PRG c.w
theorem YM:LIM<=sizeLine:=by rw[sizeLine_eq];decide
inductive ZdE(c:Cx)(h:Heap)(ow:Z5)(a:Addr)(ds:List D):Prop
 |mk (vs:Array Value) (n:Nat) (O:IsL h a vs n) (O:vs.size=ds.length) (O:ds.length<=LIM) (O:∀ (i:Nat) (v:Value) (d:D),vs[i]?=some v->ds[i]?=some d->Rep c h ow v d)
theorem Y6.isL{h}{a}{ds}(x:Y6 c h ow a ds):ZdE c h ow a ds:=by
 obtain ⟨⟨cl,dd,dt,sl⟩,vs,hg,⟨h1,⟨h2,h3⟩,n,h4⟩,hs,hz,hr⟩:=x
 dsimp only at h1 h2 h3 h4
 subst h1 h2 h3 h4
 exact ⟨vs,n,hg,hs,hz,hr⟩
theorem Y6.of_isL{h}{a}{ds}{vs}{n}(x:IsL h a vs n)(hs:vs.size=ds.length)(hz:ds.length<=LIM)(hr:∀ (i:Nat) (v:Value) (d:D),vs[i]?=some v->ds[i]?=some d->Rep c h ow v d):Y6 c h ow a ds:=
 ⟨_,vs,x,⟨rfl,⟨rfl,rfl⟩,n,rfl⟩,hs,hz,hr⟩
def X3(c:Cx)(h:Heap)(ow:Z5)(vs:Array Value)(ds:List D):Prop:=vs.size=ds.length/\∀ (i:Nat) (v:Value) (d:D),vs[i]?=some v->ds[i]?=some d->Rep c h ow v d
theorem WA:∀ {ds:List D} {ss:List Str},strs? ds=some ss->ds=ss.map .str
 |[],ss,h=>by injection h with h;subst h;rfl
 |d::r,ss,h=>by
  cases d with
  |str s=>
   obtain ⟨t,ht,rfl⟩:=Option.map_eq_some_iff.mp h
   rw[List.map_cons,WA ht]
  |_=>first|exact Z3 h|exact Z4 h|cases h
theorem Vh:∀ {ds:List D} {ss:List Int},ints? ds=some ss->ds=ss.map .int
 |[],ss,h=>by injection h with h;subst h;rfl
 |d::r,ss,h=>by
  cases d with
  |int s=>
   obtain ⟨t,ht,rfl⟩:=Option.map_eq_some_iff.mp h
   rw[List.map_cons,Vh ht]
  |_=>first|exact Z3 h|exact Z4 h|cases h
theorem XU{h:Heap}{vs:Array Value}{ss:List Str}(hs:vs.size=(ss.map D.str).length)(hr:∀ (i:Nat) (v:Value) (d:D),vs[i]?=some v->(ss.map D.str)[i]?=some d->Rep c h ow v d){i:Nat}(hi:i < vs.size) :
  ∃ (hi':i < ss.length) (t:Tok),vs[i]=.str ss[i] t:=by
 have hi':i < ss.length:=by rw[hs,List.length_map] at hi;exact hi
 have:=hr i vs[i] (.str ss[i]) (by simp[hi]) (by simp[hi'])
 exact ⟨hi',this.out⟩
theorem ZcD{h:Heap}{vs:Array Value}{ss:List Int}(hs:vs.size=(ss.map D.int).length)(hr:∀ (i:Nat) (v:Value) (d:D),vs[i]?=some v->(ss.map D.int)[i]?=some d->Rep c h ow v d){i:Nat}(hi:i < vs.size) :
  ∃ (hi':i < ss.length) (t:Tok),vs[i]=.int ss[i] t:=by
 have hi':i < ss.length:=by rw[hs,List.length_map] at hi;exact hi
 have:=hr i vs[i] (.int ss[i]) (by simp[hi]) (by simp[hi'])
 exact ⟨hi',this.out⟩
noncomputable def VM(x:Str):Value->Bool:=fun O=>match O with
 |.str y O=>y == x
 |O=>false
theorem Vi{h:Heap}{vs:Array Value}{ss:List Str}{x:Str}(hs:vs.size=(ss.map D.str).length)(hr:∀ (i:Nat) (v:Value) (d:D),vs[i]?=some v->(ss.map D.str)[i]?=some d->Rep c h ow v d) :
  (∀ y,y∈vs->∀ (A:Around) (s:Shared) (t:Tok),EqAt A s y (.str x t) (VM x y))/\vs.any (VM x)=decide (x∈ss):=by
 refine ⟨fun y hy A s t=>?_,?_⟩
 ·obtain ⟨i,hi,rfl⟩:=Array.mem_iff_getElem.mp hy
  obtain ⟨hi',u,e⟩:=XU hs hr hi
  rw[e]
  exact EqAt.str_str _ _ _ _
 ·rw[Bool.eq_iff_iff,Array.any_eq_true,decide_eq_true_iff]
  constructor
  ·rintro ⟨i,hi,e⟩
   refine gG fun G gk=>?_
   obtain ⟨hi',u,q⟩:=XU hs hr hi
   refine gk ?_
   rw[q] at e
   have:ss[i]=x:=eq_of_beq (show (ss[i] == x)=true from e)
   exact this▸List.getElem_mem hi'
  ·intro hm
   obtain ⟨i,hi,rfl⟩:=List.mem_iff_getElem.mp hm
   have hi':i < vs.size:=by simp only[hs,List.length_map];exact hi
   obtain ⟨O,u,q⟩:=XU hs hr hi'
   exact ⟨i,hi',by rw[q];exact beq_self_eq_true _⟩
inductive Z7X(c:Cx)(h:Heap)(ow:Z5)(a:Addr)(kvs:List (Str × D)):Prop
 |mk (vvs:List (Str × Value)) (O:h.DictOf (strKind PRG c.w) a vvs) (O:(a == sysModules)=false) (O:vvs.map (fun O=>O.1)=kvs.map (fun O=>O.1)) (O:kvs.length<=LIM) (O:∀ k,k∈kvs.map (fun O=>O.1)->k≠("shared":Str))
   (O:∀ (i:Nat) (p:Str × Value) (q:Str × D),vvs[i]?=some p->kvs[i]?=some q->p.1=q.1/\Rep c h ow p.2 q.2)
theorem DictAt.pairs{h}{a}{kvs}(x:DictAt c h ow a kvs) :
  Z7X c h ow a kvs:=by
 refine gG fun G gk=>?_
 obtain ⟨ob,es,n,hg,⟨he,hm⟩,hd,⟨hsz,hz,hnd,hk⟩,hr⟩:=x
 obtain ⟨l⟩:=es
 refine gk ?_
 have key:∀ (l:List DictEntry) (kvs:List (Str × D)),l.length=kvs.length->(∀ (i:Nat) (e:DictEntry) (p:Str × D),l[i]?=some e->kvs[i]?=some p->∃ t,e.key=.str p.1 t) ->
   Pairs (strKind PRG c.w) l ((l.zip kvs).map fun q=>(q.2.1,q.1.val))/\((l.zip kvs).map fun q=>(q.2.1,q.1.val)).map (fun O=>O.1)=kvs.map (fun O=>O.1):=by
  intro l
  induction l with
  |nil=>intro kvs hl O;induction kvs with
   |nil=>exact ⟨.nil,rfl⟩
   |cons O U=>cases hl
  |cons e l ih=>intro kvs hl hk;induction kvs with
   |nil=>cases hl
   |cons p kvs=>
    obtain ⟨t,ht⟩:=hk 0 e p rfl rfl
    obtain ⟨i1,i2⟩:=ih kvs (by simpa using hl) fun i e' p' q1 q2=>hk (i+1) e' p' (by simpa using q1) (by simpa using q2)
    refine ⟨.cons ?_ rfl i1,by simp[i2]⟩
    rw[ht];exact strKind_is _ _ _ _
 have hsz':l.length=kvs.length:=hsz
 obtain ⟨k1,k2⟩:=key l kvs hsz' fun i e p q1 q2=>(hk i e p (by simpa using q1) q2).1
 refine ⟨(l.zip kvs).map fun q=>(q.2.1,q.1.val),⟨ob,⟨l⟩,n,hg,he,hd,fun e hm=>?_,k1,by rw[k2];exact hnd⟩,hm,k2,hz,fun k hk'=>?_,fun i p q q1 q2=>?_⟩
 ·obtain ⟨i,hi,q⟩:=Array.mem_iff_getElem.mp hm
  have hi':i < kvs.length:=by rw[<-hsz'];exact hi
  obtain ⟨⟨t,ht⟩,h2,O⟩:=hk i e kvs[i] (by simp only[Array.getElem?_eq_getElem hi,q]) (by simp[hi'])
  exact ⟨kvs[i].1,by rw[ht];exact strKind_is _ _ _ _,h2⟩
 ·obtain ⟨p,hp,rfl⟩:=List.mem_map.mp hk'
  obtain ⟨i,hi,rfl⟩:=List.mem_iff_getElem.mp hp
  exact (hk i l[i] kvs[i] (by simp[hsz',hi]) (by simp[hi])).2.2
 ·rw[List.getElem?_map] at q1
  obtain ⟨z,hz',rfl⟩:=Option.map_eq_some_iff.mp q1
  rw[List.getElem?_zip_eq_some] at hz'
  obtain ⟨z1,z2⟩:=hz'
  rw[z2] at q2;obtain rfl:=Option.some.inj q2
  exact ⟨rfl,hr i z.1 z.2 (by simpa using z1) z2⟩
theorem DictAt.of_pairs{h}{a}{kvs}{vvs}(x:h.DictOf (strKind PRG c.w) a vvs)(hm:(a == sysModules)=false)(hk:vvs.map (fun O=>O.1)=kvs.map (fun O=>O.1))(hz:kvs.length<=LIM)(hsh:∀ k,k∈kvs.map (fun O=>O.1)->k≠("shared":Str))
  (hr:∀ (i:Nat) (p:Str × Value) (q:Str × D),vvs[i]?=some p->kvs[i]?=some q->Rep c h ow p.2 q.2):DictAt c h ow a kvs:=by
 refine gG fun G gk=>?_
 obtain ⟨o,es,ep,hg,he,hd,hks,hp,hn⟩:=x
 obtain ⟨l⟩:=es
 refine gk ?_
 have hlen:l.length=vvs.length:=hp.length
 have hlen2:vvs.length=kvs.length:=by have:=congrArg List.length hk;simpa using this
 have at_:∀ {l:List DictEntry} {vvs:List (Str × Value)},Pairs (strKind PRG c.w) l vvs->∀ (i:Nat) (e:DictEntry) (p:Str × Value),l[i]?=some e->vvs[i]?=some p->(strKind PRG c.w).is p.1 e.key=true/\e.val=p.2:=by
  intro l vvs hp
  induction hp with
  |nil=>intro i e p h;exact Z3 h
  |cons h1 h2 O ih=>intro i e p q1 q2;induction i with
   |zero=>simp at q1 q2;subst q1 q2;exact ⟨h1,h2⟩
   |succ i=>exact ih i e p (by simpa using q1) (by simpa using q2)
 have fact:∀ (i:Nat) (e:DictEntry) (q:Str × D),l[i]?=some e->kvs[i]?=some q->∃ p,vvs[i]?=some p/\p.1=q.1/\(strKind PRG c.w).is q.1 e.key=true/\e.val=p.2:=by
  intro i e q q1 q2
  have hi:i < vvs.length:=by rw[<-hlen];exact (List.getElem?_eq_some_iff.mp q1).1
  have e1:(vvs.map (fun O=>O.1))[i]?=(kvs.map (fun O=>O.1))[i]?:=by rw[hk]
  simp only[List.getElem?_map,List.getElem?_map,q2,List.getElem?_eq_getElem hi] at e1
  have e2:vvs[i].1=q.1:=by simpa using e1
  obtain ⟨a1,a2⟩:=at_ hp i e vvs[i] q1 (by simp[hi])
  exact ⟨vvs[i],by simp[hi],e2,e2▸a1,a2⟩
 refine ⟨o,⟨l⟩,ep,hg,⟨he,hm⟩,hd,⟨by simp[hlen,hlen2],hz,by rw[<-hk];exact hn,fun i e q q1 q2=>?_⟩,fun i e q q1 q2=>?_⟩
 ·obtain ⟨p,O,O,hi,O⟩:=fact i e q (by simpa using q1) q2
  obtain ⟨t,ht⟩:=Value.isStrOf_shape hi
  refine ⟨⟨t,ht⟩,?_,hsh _ (List.mem_map.mpr ⟨q,List.mem_of_getElem? q2,rfl⟩)⟩
  obtain ⟨k,hk1,hk2⟩:=hks e (by rw[<-Array.mem_toList_iff];exact List.mem_of_getElem? (by simpa using q1))
  have:=(strKind PRG c.w).inj e.key k q.1 hk1 hi
  subst this;exact hk2
 ·obtain ⟨p,h1,O,O,h2⟩:=fact i e q (by simpa using q1) q2
  rw[h2];exact hr i p q h1 q2
theorem UH{kvs:List (Str × Value)}{k:Str}:(valueAt kvs k).isSome=decide (k∈kvs.map (fun O=>O.1)):=by
 rw[valueAt,Option.isSome_map,Bool.eq_iff_iff,List.find?_isSome,decide_eq_true_iff,List.mem_map]
 constructor
 ·rintro ⟨x,hx,e⟩;exact ⟨x,hx,of_decide_eq_true e⟩
 ·rintro ⟨x,hx,e⟩;exact ⟨x,hx,decide_eq_true e⟩
theorem Zak{x y}{k}(e:inD x y=some k):∃ st,x=.str st/\((∃ ss:List Str,y=.list (ss.map .str)/\k=decide (st∈ss))\/(∃ ss:List Str,y=.tup (ss.map .str)/\k=decide (st∈ss))\/∃ kvs,y=.dict kvs/\k=decide (st∈kvs.map (fun O=>O.1))):=by
 obtain ⟨st,h1,e⟩:=Option.bind_eq_some_iff.mp e
 refine ⟨st,D.s?_of h1,?_⟩
 cases hl:y.l? with
 |some xs=>
  rw[hl] at e
  refine gG fun G gk=>?_
  obtain ⟨ss,hss,rfl⟩:=Option.map_eq_some_iff.mp e
  refine gk ?_
  exact .inl ⟨ss,WA hss▸D.l?_of hl,rfl⟩
 |none=>cases ht:y.t? with
  |some xs=>
   rw[hl,ht] at e
   obtain ⟨ss,hss,rfl⟩:=Option.map_eq_some_iff.mp e
   exact .inr (.inl ⟨ss,WA hss▸D.t?_of ht,rfl⟩)
  |none=>
   rw[hl,ht] at e
   obtain ⟨kvs,hk,rfl⟩:=Option.map_eq_some_iff.mp e
   exact .inr (.inr ⟨kvs,D.k?_of hk,rfl⟩)
theorem Z8X{a b:Value}{x y:LV}{k:Bool}(hx:ZS c s.heap ow a x)(hy:ZS c s.heap ow b y)(e:inD x.d y.d=some k):((∀ tk,Q (.bool k) {s with toks:=tk})->wpAny (MD c) A (compareOp .In a b) Q E s)/\((∀ tk,Q (.bool (!k)) {s with toks:=tk})->wpAny (MD c) A (compareOp .NotIn a b) Q E s):=by
 obtain ⟨st,e1,⟨ss,e2,rfl⟩|⟨ss,e2,rfl⟩|⟨kvs,e2,rfl⟩⟩:=Zak e
 ·obtain ⟨t,rfl⟩:=hx.str e1
  obtain ⟨p,rfl,ob,vs,hg,hl,hs,O,hr⟩:=hy.list e2
  obtain ⟨q1,q2⟩:=Vi (x:=st) hs hr
  exact ⟨fun hQ=>in_listAt (VM st) (Zu hg hl) (fun y hy=>q1 y hy _ _ _) (by rw[q2];exact hQ s.toks),fun hQ=>notIn_listAt (VM st) (Zu hg hl) (fun y hy=>q1 y hy _ _ _) (by rw[q2];exact hQ s.toks)⟩
 ·obtain ⟨t,rfl⟩:=hx.str e1
  obtain ⟨p,ob,vs,rfl,hg,hl,hs,O,hr⟩:=hy.tup e2
  obtain ⟨q1,q2⟩:=Vi (x:=st) hs hr
  exact ⟨fun hQ=>in_tupleAt (VM st) ⟨ob,hg,hl.1,hl.2.2⟩ (fun y hy=>q1 y hy _ _ _) (by rw[q2];exact hQ s.toks),fun hQ=>notIn_tupleAt (VM st) ⟨ob,hg,hl.1,hl.2.2⟩ (fun y hy=>q1 y hy _ _ _) (by rw[q2];exact hQ s.toks)⟩
 ·obtain ⟨t,rfl⟩:=hx.str e1
  obtain ⟨p,rfl,hd⟩:=hy.dict e2
  obtain ⟨vvs,h1,h2,h3,O⟩:=hd.pairs
  rw[<-h3,<-UH]
  exact ⟨fun hQ=>wpAny_in_of (k:=st) (strKind_is _ _ _ _) h2 h1.mapOf (hQ _),fun hQ=>wpAny_notIn_of (k:=st) (strKind_is _ _ _ _) h2 h1.mapOf (hQ _)⟩
theorem JX{v}{lv}{h}(x:ZS c h ow v lv):(v == Value.none)=isNone lv.d:=by
 obtain ⟨o,O,x⟩:=x
 induction lv with
 |fr d=>
  induction x<;>rfl
 |ol ds=>obtain ⟨a,rfl,O⟩:=x;rfl
 |od ds=>obtain ⟨a,rfl,O⟩:=x;rfl
 |ov k i t own=>obtain ⟨a,O,O,O,O,O,O,rfl,O⟩:=x;rfl
theorem Z35{h}{a b}{x y}{k}{f}(hx:ZS c h ow a x)(hy:ZS c h ow b y)(e:iiB x.d y.d f=some k):∃ i j t u,a=.int i t/\b=.int j u/\k=f i j:=by
 obtain ⟨i,h1,e⟩:=Option.bind_eq_some_iff.mp e
 obtain ⟨j,h2,rfl⟩:=Option.map_eq_some_iff.mp e
 obtain ⟨t,rfl⟩:=hx.int (D.i?_of h1)
 obtain ⟨u,rfl⟩:=hy.int (D.i?_of h2)
 exact ⟨i,j,t,u,rfl,rfl,rfl⟩
theorem JY{op}{a b}{x y}{k}(hu:A.units < cLine)(hA:Act c F s.heap ow σ)(hx:ZS c s.heap ow a x)(hy:ZS c s.heap ow b y)(e:YT σ op x.d y.d=some k)
  (hP:Z2 c F (Z7 c) (Zv c) s.heap ow s (.ok (.fr (.bool k),none) σ) Q E):wpAny (MD c) A (compareOp op a b) Q E s:=by
 have hQ:∀ tk,Q (.bool k) {s with toks:=tk}:=fun tk=>hP.val (tk:=tk) hA (.bool k)
 unfold YT at e
 induction op with
 |Eq=>exact cmp_ofEq ((Z60 hu hA hx hy e).1 _ _ _ _ (hQ s.toks))
 |NotEq=>
  dsimp only at e
  obtain ⟨k',e',rfl⟩:=Option.map_eq_some_iff.mp e
  exact cmp_ofNotEq ((Z60 hu hA hx hy e').2 _ _ _ _ (hQ s.toks))
 |Lt=>obtain ⟨i,j,t,u,rfl,rfl,rfl⟩:=Z35 hx hy e;exact P.lt_int (hQ s.toks)
 |LtE=>obtain ⟨i,j,t,u,rfl,rfl,rfl⟩:=Z35 hx hy e;exact P.le_int (hQ s.toks)
 |Gt=>obtain ⟨i,j,t,u,rfl,rfl,rfl⟩:=Z35 hx hy e;exact P.gt_int (hQ s.toks)
 |GtE=>obtain ⟨i,j,t,u,rfl,rfl,rfl⟩:=Z35 hx hy e;exact P.ge_int (hQ s.toks)
 |Is=>
  dsimp only at e
  split at e
  ·rename_i e2
   obtain rfl:=hy.none (JA e2)
   obtain rfl:=Option.some.inj e
   refine is_none_gen ?_
   rw[JX hx];exact hQ s.toks
  ·exact Z3 e
 |IsNot=>
  dsimp only at e
  split at e
  ·rename_i e2
   obtain rfl:=hy.none (JA e2)
   obtain rfl:=Option.some.inj e
   refine isnot_none_gen ?_
   rw[JX hx];exact hQ s.toks
  ·exact Z3 e
 |In=>exact (Z8X hx hy e).1 hQ
 |NotIn=>
  dsimp only at e
  obtain ⟨k',e',rfl⟩:=Option.map_eq_some_iff.mp e
  exact (Z8X hx hy e').2 hQ
theorem Z36{x}(h:x.natAbs < 2 ^ 200):Builtin.Int.intBits x<=200:=by
 unfold Builtin.Int.intBits
 split
 ·lia
 ·rename _=>h0
  have h1:x.natAbs≠0:=by simpa using h0
  have:=(Nat.log2_lt h1).mpr h
  lia
theorem Z61{x y}(hx:x.natAbs < 2 ^ 200)(hy:y.natAbs < 2 ^ 200):IntMulOk x y:=by
 unfold IntMulOk Builtin.Int.intTooBig
 have h1:=Z36 hx
 have h2:=Z36 hy
 have:decide (((Builtin.Int.intBits x:Nat):Int)+(Builtin.Int.intBits y:Nat) > (PySem.bitsLine:Nat))=false:=by
  rw[decide_eq_false_iff_not]
  have:PySem.bitsLine=134217728:=by decide
  rw[this];lia
 intro q
 simp only[Bool.and_eq_true] at q
 have q2:=q.2
 first
  |(rw[this] at q2;exact Z4 q2)
  |(simp at q2;have:PySem.bitsLine=134217728:=by decide
    lia)
theorem X3.append{h:Heap}{vs ws:Array Value}{xs ys:List D}(hs:vs.size=xs.length)(hr:∀ (i:Nat) (v:Value) (d:D),vs[i]?=some v->xs[i]?=some d->Rep c h ow v d)
  (hs':ws.size=ys.length) (hr':∀ (i:Nat) (v:Value) (d:D),ws[i]?=some v->ys[i]?=some d->Rep c h ow v d) :
  (vs++ws).size=(xs++ys).length/\∀ (i:Nat) (v:Value) (d:D),(vs++ws)[i]?=some v->(xs++ys)[i]?=some d->Rep c h ow v d:=by
 refine ⟨by simp[hs,hs'],fun i v d e1 e2=>?_⟩
 by_cases q:i < vs.size
 ·rw[Array.getElem?_append_left q] at e1
  rw[List.getElem?_append_left (hs▸q)] at e2
  exact hr i v d e1 e2
 ·have q':=Nat.le_of_not_lt q
  rw[Array.getElem?_append_right q'] at e1
  rw[List.getElem?_append_right (hs▸q'),<-hs] at e2
  exact hr' _ v d e1 e2
theorem one_mul{x}{n}(h1:x.length=1)(h0:0<=n)(h2:n < 1000):MulOk x n:=by
 refine ⟨by rw[Bool.or_eq_false_iff];constructor<;>(rw[decide_eq_false_iff_not];lia),fun h3 O=>?_,fun h3 O=>?_⟩
 ·rw[h1]
  have:(2 ^ 63 - 1:Int) / n>=1:=by
   rw[ge_iff_le,Int.le_ediv_iff_mul_le (by lia)];lia
  lia
 ·rw[h1]
  unfold Builtin.Str.tooLong
  rw[decide_eq_false_iff_not,sizeLine_eq]
  lia
theorem ZN{α:Type}{p} [Decidable p] {a b:α} (e:(if p then some a else none)=some b):p/\a=b:=by
 by_cases h:p
 ·rw[if_pos h] at e;exact ⟨h,Option.some.inj e⟩
 ·rw[if_neg h] at e;exact Z3 e
theorem Z1M{α:Type}{p} [Decidable p] {a:Option α} {b:α} (e:(if p then a else none)=some b):p/\a=some b:=by
 by_cases h:p
 ·rw[if_pos h] at e;exact ⟨h,e⟩
 ·rw[if_neg h] at e;exact Z3 e
theorem Z1N{op}{i j}{t u}{lv}(hA:Act c F s.heap ow σ)(e:Z99 op i j=some lv)(hP:Z2 c F (Z7 c) (Zv c) s.heap ow s (.ok (lv,none) σ) Q E):wpAny (MD c) A (binaryOp op (.int i t) (.int j u)) Q E s:=by
 unfold Z99 at e
 induction op with
 |Add=>injection e with e;subst e;exact P.add_int (hP.val (tk:=s.toks+1) hA (.int _ _))
 |Sub=>injection e with e;subst e;exact P.sub_int (hP.val (tk:=s.toks+1) hA (.int _ _))
 |Mult=>
  obtain ⟨hb,rfl⟩:=ZN e
  exact P.mul_int (hP.val (tk:=s.toks+1) hA (.int _ _)) (Z61 hb.1 hb.2)
 |FloorDiv=>
  obtain ⟨hb,rfl⟩:=ZN e
  exact PyProof.Rows.floordiv_int (by lia) (hP.val (tk:=s.toks+1) hA (.int _ _)) (.inl (PyProof.noPylong_small (by lia)))
 |Mod=>
  obtain ⟨hb,rfl⟩:=ZN e
  exact PyProof.Rows.mod_int' (by lia) (hP.val (tk:=s.toks+1) hA (.int _ _))
 |Pow=>
  obtain ⟨⟨rfl,h0,h1⟩,rfl⟩:=ZN e
  by_cases q:j=0
  ·subst q
   exact AutoIntOps.pow_0 (by lia) rfl (hP.val (tk:=s.toks+1) hA (.int _ _))
  ·refine AutoIntOps.pow_4 (by lia) (by simpa using q) (by decide) (by decide) ?_ (hP.val (tk:=s.toks+1) hA (.int _ _))
   have:Builtin.Int.intBits 10=4:=by decide
   rw[this]
   unfold Builtin.Int.intTooBig
   have hb:PySem.bitsLine=134217728:=by decide
   simp only[decide_eq_true_eq,hb]
   lia
 |_=>first|exact Z3 e|exact Z4 e|cases e
theorem Z3J{op:Operator}{a b:Value}{x y:LV}{lv:LV}(hA:Act c F s.heap ow σ)(hx:ZS c s.heap ow a x)(hy:ZS c s.heap ow b y)(e:XA op x.d y.d=some lv)
  (hP:Z2 c F (Z7 c) (Zv c) s.heap ow s (.ok (lv,none) σ) Q E):wpAny (MD c) A (binaryOp op a b) Q E s:=by
 unfold XA at e
 cases h1:x.d.i? with
 |some i=>
  rw[h1] at e
  obtain ⟨j,h2,e⟩:=Option.bind_eq_some_iff.mp e
  obtain ⟨t,rfl⟩:=hx.int (D.i?_of h1)
  obtain ⟨u,rfl⟩:=hy.int (D.i?_of h2)
  exact Z1N hA e hP
 |none=>
 cases h2:x.d.s? with
 |some i=>
  simp only[h1,h2] at e
  obtain ⟨t,rfl⟩:=hx.str (D.s?_of h2)
  induction op with
  |Add=>
   obtain ⟨j,h3,e⟩:=Option.bind_eq_some_iff.mp e
   obtain ⟨u,rfl⟩:=hy.str (D.s?_of h3)
   obtain ⟨hb,rfl⟩:=ZN e
   exact SB.add (fun t' k=>hP.val (tk:=k) hA (.str _ _)) (Nat.le_trans hb YM)
  |Mult=>
   obtain ⟨j,h3,e⟩:=Option.bind_eq_some_iff.mp e
   obtain ⟨u,rfl⟩:=hy.int (D.i?_of h3)
   obtain ⟨hb,rfl⟩:=ZN e
   exact SB.mul (one_mul hb.1 hb.2.1 hb.2.2) fun t' k=>hP.val (tk:=k) hA (.str _ _)
  |_=>first|exact Z3 e|exact Z4 e|cases e
 |none=>
  simp only[h1,h2] at e
  obtain ⟨i,h3,e⟩:=Option.bind_eq_some_iff.mp e
  obtain ⟨p,rfl,hp⟩:=hx.list (D.l?_of h3)
  induction op with
  |Add=>
   refine gG fun G gk=>?_
   obtain ⟨j,h4,e⟩:=Option.bind_eq_some_iff.mp e
   obtain ⟨q,rfl,hq⟩:=hy.list (D.l?_of h4)
   obtain ⟨hb,rfl⟩:=ZN e
   obtain ⟨vs,n,g1,g2,O,g4⟩:=hp.isL
   obtain ⟨ws,n',k1,k2,O,k4⟩:=hq.isL
   obtain ⟨r1,r2⟩:=X3.append g2 g4 k2 k4
   refine gk ?_
   refine P.add_list g1 k1 ?_ (by simp only[g2,k2];exact Nat.le_trans hb YM)
   exact hP.newList (tk:=s.toks) (n:=0) hA (Nat.le_refl _) (by rw[Heap.size_push];exact Nat.lt_succ_self _) (fun b o e=>Heap.get?_push_of_some _ e) (Heap.get?_push_size _ rfl) r1 (by simpa using hb) r2
  |_=>first|exact Z3 e|exact Z4 e|cases e
theorem X4{v}{lv}{b}{Q}(hx:ZS c s.heap ow v lv)(e:Zf lv.d=some b)(hQ:Q b s):wpAny (MD c) A (truthy v) Q E s:=by
 obtain rfl:=hx.bool (Z1l e)
 exact wpAny_truthy_bool hQ
theorem Z7Y{k:Str}{v:Value}{r:List (Str × Value)}:valueAt ((k,v)::r) k=some v:=by
 unfold valueAt
 rw[List.find?_cons_of_pos (a:=(k,v)) (decide_eq_true rfl)]
 rfl
theorem Z62{a k:Str}{v:Value}{r:List (Str × Value)}(q:¬ k=a):valueAt ((a,v)::r) k=valueAt r k:=by
 unfold valueAt
 rw[List.find?_cons_of_neg (a:=(a,v)) (fun e=>q (of_decide_eq_true e).symm)]
theorem UI{h:Heap}{k:Str}{vvs:List (Str × Value)}:∀ {kvs:List (Str × D)},vvs.map (fun O=>O.1)=kvs.map (fun O=>O.1)->(∀ (i:Nat) (p:Str × Value) (q:Str × D),vvs[i]?=some p->kvs[i]?=some q->p.1=q.1/\Rep c h ow p.2 q.2) ->
  (YA k kvs=none/\valueAt vvs k=none)\/∃ d v,YA k kvs=some d/\valueAt vvs k=some v/\Rep c h ow v d:=by
 induction vvs with
 |nil=>
  intro kvs hk O
  induction kvs with
  |nil=>exact .inl ⟨rfl,rfl⟩
  |cons=>exact nomatch hk
 |cons p vr ih=>
  intro kvs hk hr
  cases kvs with
  |nil=>exact nomatch hk
  |cons q kr=>
   obtain ⟨a,v⟩:=p
   obtain ⟨b,d⟩:=q
   obtain ⟨rfl,h0⟩:=hr 0 (a,v) (b,d) rfl rfl
   by_cases q:k=a
   ·subst q;exact .inr ⟨d,v,if_pos rfl,Z7Y,h0⟩
   ·rw[show YA k ((a,d)::kr)=YA k kr from if_neg q,Z62 q]
    exact ih (List.cons.inj hk).2 fun i=>hr (i+1)
theorem Z3K{h}{k}{vvs}{kvs}{d}(hk:vvs.map (fun O=>O.1)=kvs.map (fun O=>O.1))(hr:∀ (i:Nat) (p:Str × Value) (q:Str × D),vvs[i]?=some p->kvs[i]?=some q->p.1=q.1/\Rep c h ow p.2 q.2)
  (e:YA k kvs=some d):∃ v,valueAt vvs k=some v/\Rep c h ow v d:=by
 rcases UI (k:=k) hk hr with ⟨e',O⟩|⟨d',v,e1,e2,e3⟩
 ·rw[e] at e';cases e'
 ·rw[e] at e1;injection e1 with e1;subst e1;exact ⟨v,e2,e3⟩
def ZdF(d:D):SD->Prop:=fun O=>match O with
 |.l xs=>d=.list xs
 |.t xs=>d=.tup xs
 |.s s=>d=.str s
 |.k kvs=>d=.dict kvs
 |.p=>d=.pool
 |.no=>True
theorem D.sd_of(d):ZdF d d.sd:=by cases d<;>first|rfl|trivial
theorem Z3L{o i}{x k}{d}(hA:Act c F s.heap ow σ)(hx:ZS c s.heap ow o x)(hk:ZS c s.heap ow i k)(e:Xg x.d k.d σ=some d)
  (hP:Z2 c F (Z7 c) (Zv c) s.heap ow s (.ok (.fr d,none) σ) Q E):SubscriptOn (MD c) A o i Q E s:=by
 unfold Xg at e
 have big:LIM < 2 ^ 63:=by decide
 have sdo:=D.sd_of x.d
 generalize x.d.sd=v at e sdo
 induction v with
 |no=>exact Z3 e
 |l xs=>
  obtain ⟨p,rfl,hp⟩:=hx.list sdo
  obtain ⟨j,e2,e⟩:=Option.bind_eq_some_iff.mp e
  obtain ⟨t,rfl⟩:=hk.int (D.i?_of e2)
  obtain ⟨h0,e⟩:=Z1M e
  obtain ⟨vs,n,g1,g2,g3,g4⟩:=hp.isL
  have hlt:=(List.getElem?_eq_some_iff.mp e).1
  have hlt':j.toNat < vs.size:=g2▸hlt
  refine ⟨"list","list.__getitem__",slot_list_getitem.lookup,g1.isList.typeIs,wpAny_getItem_list g1.isList h0 (by lia) (x:=vs[j.toNat]) (by simp[hlt']) ?_⟩
  exact hP.val (tk:=s.toks) hA (g4 _ _ _ (by simp[hlt']) e)
 |t xs=>
  obtain ⟨p,ob,vs,rfl,hg,hl,hs,hz,hr⟩:=hx.tup sdo
  obtain ⟨j,e2,e⟩:=Option.bind_eq_some_iff.mp e
  obtain ⟨t,rfl⟩:=hk.int (D.i?_of e2)
  obtain ⟨h0,e⟩:=Z1M e
  have hlt:=(List.getElem?_eq_some_iff.mp e).1
  have hlt':j.toNat < vs.size:=hs▸hlt
  have ht:IsTup s.heap p vs:=⟨ob,hg,hl.1,hl.2.2⟩
  refine ⟨"tuple","tuple.__getitem__",slot_tuple_getitem.lookup,ht.typeIs,PyProof.Rows.getItem_tuple ht (j:=j.toNat) (by lia) (by lia) (seqIndex_of h0 (by lia)) (x:=vs[j.toNat]) (by simp[hlt']) ?_⟩
  exact hP.val (tk:=s.toks) hA (hr _ _ _ (by simp[hlt']) e)
 |s st=>
  obtain ⟨t,rfl⟩:=hx.str sdo
  obtain ⟨j,e2,e⟩:=Option.bind_eq_some_iff.mp e
  obtain ⟨u,rfl⟩:=hk.int (D.i?_of e2)
  obtain ⟨h0,e⟩:=Z1M e
  obtain ⟨ch,hc,rfl⟩:=Option.map_eq_some_iff.mp e
  have hlt:=(Array.getElem?_eq_some_iff.mp hc).1
  refine ⟨"str","str.__getitem__",slot_str_getitem.lookup,typeIs_str s st t,PyProof.Rows.getItem_str (c:=ch) (by rw[Bool.or_eq_false_iff];constructor<;>(rw[decide_eq_false_iff_not];lia)) ?_ (hP.val (tk:=s.toks+1) hA (.str _ _))⟩
  have:j < st.length:=by
   have:j.toNat < st.cps.size:=hlt
   show j < (st.cps.size:Nat)
   lia
  rw[seqIndex_of h0.1 this]
  exact hc
 |k kvs=>
  obtain ⟨p,rfl,hd⟩:=hx.dict sdo
  obtain ⟨st,e2,e⟩:=Option.bind_eq_some_iff.mp e
  obtain ⟨u,rfl⟩:=hk.str (D.s?_of e2)
  obtain ⟨vvs,h1,h2,h3,O,O,h4⟩:=hd.pairs
  obtain ⟨v,hv,hr⟩:=Z3K h3 h4 e
  exact ⟨"dict","dict.__getitem__",slot_dict_getitem.lookup,h1.typeIs,wpAny_getItem_of (strKind_is _ _ _ _) h1.mapOf hv (hP.val (tk:=s.toks+1) hA hr)⟩
 |p=>
  obtain ⟨p,rfl,hp⟩:=hx.pool sdo
  obtain ⟨j,e2,e⟩:=Option.bind_eq_some_iff.mp e
  obtain ⟨u,rfl⟩:=hk.int (D.i?_of e2)
  obtain ⟨pl,hpl,e'⟩:=Option.bind_eq_some_iff.mp e
  clear e
  have P:=hA.pool
  rw[hpl] at P
  obtain ⟨Pa,C,oP,oC,t1,t2,vs,w1,w2,h3,h4,O,O,h7,h8,h9,h10,h11,O⟩:=P
  have:=h3 p hp;subst this
  have hl:=Zu h7 h8
  have go:∀ (x:Value),#[Value.ref C,.int pl.a t1,.int pl.b t2][j.toNat]?=some x->0<=j->j < 3->Rep c s.heap ow x d->SubscriptOn (MD c) A (.ref p) (.int j u) Q E s:=fun x hx h0 h1 hr=>
   ⟨"list","list.__getitem__",slot_list_getitem.lookup,hl.typeIs,wpAny_getItem_list hl h0 (by lia) hx (hP.val (tk:=s.toks) hA hr)⟩
  split at e'
  ·rename_i q;subst q;injection e' with e';subst e';exact go (.ref C) rfl (by lia) (by lia) (.poolc w2)
  ·refine ite_el e' (fun q e'=>?_) fun q_ e'=>?_
   ·subst q;injection e' with e';subst e';exact go _ rfl (by lia) (by lia) (.int _ _)
   ·refine ite_el e' (fun q e'=>?_) fun q_ e'=>?_
    ·subst q;injection e' with e';subst e';exact go _ rfl (by lia) (by lia) (.int _ _)
    ·exact Z3 e'
end NZ.Internal
namespace NZ.Internal
open PySem PySem.Calls PyProof.Rows PySem.W PySem.SeqAt
open AutoSeq1 (wpAny_loadPart')
open MeetsSeq MeetsSeq2 MeetsSeq3
theorem Jp(l:Addr)(items:Array Value)(n:Nat)(dd:Option Addr)(sl:Array (Option Value))(x:Value)(e:Value->Bool)(j:Nat)(hj:j < items.size)(hit:e items[j]=true)(hno:∀ m (hm:m < items.size),m < j->e items[m]=false) :
  Meets (Builtin.«tuple.index» ⟨[.ref l,x],[]⟩)
   (fun A R s=>s.heap.get? l=some {cls:=.type "tuple",dict:=dd,data:=.seq items n,slots:=sl}/\(∀ y,y∈items->EqAt A.in1 s y x (e y))/\R (.ok (.ret (.int j s.toks))) {s with toks:=s.toks+1}):=
 .of_wp fun prog w A R s h=>by
  obtain ⟨hp,g,d,tk,os⟩:=s;obtain ⟨hl,he,h⟩:=h
  unfold Builtin.«tuple.index»
  conv in forIn _ _ _=>rw[Std.Legacy.Range.forIn_eq_forIn_range']
  wp_walk using wpAny_loadPart' hl,wpAny_forIn_list _ (fun rest b s'=>b.1=none/\s'=⟨hp,g,d,tk,os⟩/\∃ i,rest=List.range' i (items.size - i)/\i<=j) _
  case turn=>
   rintro k rest b s' ⟨hb,rfl,i,hr,hi⟩
   have hij:=Nat.lt_of_le_of_lt hi hj
   have h1:items.size - i=(items.size - i - 1)+1:=(Nat.sub_add_cancel (Nat.sub_pos_of_lt hij)).symm
   rw[h1,List.range'_succ] at hr
   obtain ⟨rfl,hr⟩:=List.cons.inj hr
   have hlt:k < items.size:=Nat.lt_of_le_of_lt hi hj
   have hk:items[k]?=some items[k]:=Array.getElem?_eq_getElem hlt
   rw[hk]
   dsimp only
   refine wpAny_bind (he _ (Array.getElem_mem hlt) prog w _ _ ?_)
   cases hy:e items[k] with
   |true=>
    have hkj:k=j:=by
     rcases Nat.lt_or_ge k j with q|q
     ·rw[hno k hlt q] at hy;exact Z4 hy
     ·exact Nat.le_antisymm hi q
    subst hkj
    wp_walk
    exact ⟨_,rfl,h⟩
   |false=>
    have hkj:k≠j:=by rintro rfl;rw[hit] at hy;cases hy
    wp_walk
    exact ⟨rfl,rfl,k+1,by rw[hr];rfl,Nat.lt_of_le_of_ne hi hkj⟩
  case fin=>
   rintro ⟨b1,b2⟩ s' ⟨hb,rfl,i,hr,hi⟩
   exfalso
   have:=congrArg List.length hr
   rw[List.length_range'] at this
   exact absurd (Nat.sub_eq_zero_iff_le.mp this.symm) (Nat.not_le.mpr (Nat.lt_of_le_of_lt hi hj))
  case h=>
   refine ⟨rfl,rfl,0,?_,Nat.zero_le _⟩
   first
    |simp
    |(simp[Std.Legacy.Range.size])
end NZ.Internal
namespace NZ.Internal
open PySem PySem.Calls PyProof.Rows PySem.W PySem.SeqAt
variable {c:Cx}{ow:Z5}{A:Around}{F:Frm}{s:Shared}{σ:St}{E:Value->Shared->Prop}{Q:Value->Shared->Prop}
theorem Z2.newFr{d}{h'}{tk}{a}(hP:Z2 c F (Z7 c) (Zv c) s.heap ow s (.ok (.fr d,none) σ) Q E)(hA:Act c F s.heap ow σ)(hs:s.heap.objs.size<=a)(hlt:a < h'.objs.size)(hk:∀ a o,s.heap.get? a=some o->h'.get? a=some o)
  (hr:∀ ow',(∀ v d,Rep c s.heap ow v d->Rep c h' ow' v d)->ow' a=.frozen->Rep c h' ow' (.ref a) d):Q (.ref a) {s with heap:=h',toks:=tk}:=by
 have hsize:s.heap.objs.size<=h'.objs.size:=Nat.le_of_lt (Nat.lt_of_le_of_lt hs hlt)
 obtain ⟨a1,a2⟩:=hA.grow (ow':=upd ow a .frozen) hsize (fun b o e=>⟨o,hk b o e,.refl _,fun O=>rfl⟩) (fun b hb=>ZD (Nat.ne_of_lt (Nat.lt_of_lt_of_le hb hs)))
  (fun b hb=>by unfold upd;split;exact ⟨nofun,nofun⟩;rw[hA.new b hb];exact ⟨nofun,nofun⟩) (fun b hb=>by rw[ZD (Nat.ne_of_gt (Nat.lt_of_lt_of_le hlt hb))];exact hA.new b (Nat.le_trans hsize hb))
 exact hP (.ref a) h' _ tk a1 a2 ⟨hr _ (fun v d r=>r.step a2 hA.new) (Y7 _ _ _),nofun⟩
theorem Act.poolTurn{h h'}{C}{pl'}(hA:Act c F h ow σ)(hs:Heap.SameBut C h h')(hC:ow C=.poolC\/ow C=.poolP)(hn:c.n₀<=C)(hcl:∀ o,h.get? C=some o->o.cls≠.type "frame")(hp:XS c h' ow pl') :
  Act c F h' ow {σ with pl:=pl'}/\Z7 c h ow h' ow:=by
 have hot:∀ a o,h.get? a=some o->ow a≠.poolP->ow a≠.poolC->∃ o',h'.get? a=some o'/\Sim o o':=fun a o e n1 n2=>⟨o,(hs.2 a (by rintro rfl;rcases hC with q|q;exact n2 q;exact n1 q)).trans e,.refl _⟩
 have le:YF ow ow:=.refl ow
 refine ⟨⟨⟨by rw[hs.1];exact hA.pres.1,fun a o e n1 n2=>?_⟩,fun a o e=>?_,hA.n0,fun a ha=>hA.new a (by rw[hs.1] at ha;exact ha),hA.fix,hp,hA.frames.sim fun a o O e hc=>?_,hA.head,hA.ok,?_⟩,⟨Nat.le_of_eq hs.1.symm,fun a o e n1 n2=>?_⟩,.refl _ ow⟩
 ·obtain ⟨o',e',x1,x2⟩:=hA.pres.2 a o e n1 n2
  exact ⟨o',(hs.2 a (by rintro rfl;rcases hC with q|q;exact n2 q;exact n1 q)).trans e',x1,x2⟩
 ·exact (hs.2 a (Nat.ne_of_lt (Nat.lt_of_lt_of_le (Heap.lt_size e) hn))).trans (hA.h0 a o e)
 ·by_cases q:a=C
  ·subst q;exact absurd hc (hcl o e)
  ·exact ⟨o,(hs.2 a q).trans e,.refl _⟩
 ·have S:=hA.scp
  generalize F.cenv=ww at S
  induction ww with
  |none=>
   obtain ⟨s1,s2,m,s3⟩:=S
   exact ⟨s1,s2,m,s3.grow hot (fun O O=>rfl) hA.new⟩
  |some ce=>
   obtain ⟨mf,m,s1,s2⟩:=S
   have z:=s2.grow (h':=h') hot le s2.own
   exact ⟨mf,m,s1.grow hot (fun O O=>rfl) hA.new,⟨z.ns,z.nsh,z.low,z.own,z.ne,z.nec,z.frame,z.link,z.loc,z.vars⟩⟩
 ·exact ⟨o,(hs.2 a (by rintro rfl;rcases hC with q|q;exact n2 q;exact n1 q)).trans e,.refl _,fun O=>rfl⟩
theorem X3.strs:∀ {vs:List Value} {ss:List Str} {h:Heap},vs.length=ss.length->(∀ (i:Nat) (v:Value) (d:D),vs[i]?=some v->(ss.map D.str)[i]?=some d->Rep c h ow v d)->StrsAre vs ss
 |[],[],O,U,V=>.nil
 |v::vs,x::ss,h,hl,hr=>by
  obtain ⟨t,rfl⟩:=(hr 0 v (.str x) rfl rfl).out
  exact .cons _ _ (X3.strs (by simpa using hl) fun i v d e1 e2=>hr (i+1) v d (by simpa using e1) (by simpa using e2))
 |[],O::U,V,hl,O1=>by simp at hl
 |O::U,[],V,hl,O1=>by simp at hl
theorem X3.ints:∀ {vs:List Value} {ss:List Int} {h:Heap},vs.length=ss.length->(∀ (i:Nat) (v:Value) (d:D),vs[i]?=some v->(ss.map D.int)[i]?=some d->Rep c h ow v d)->IntsAre vs ss
 |[],[],O,U,V=>.nil
 |v::vs,x::ss,h,hl,hr=>by
  obtain ⟨t,rfl⟩:=(hr 0 v (.int x) rfl rfl).out
  exact .cons _ _ (X3.ints (by simpa using hl) fun i v d e1 e2=>hr (i+1) v d (by simpa using e1) (by simpa using e2))
 |[],O::U,V,hl,O1=>by simp at hl
 |O::U,[],V,hl,O1=>by simp at hl
theorem X3.of_strs{vs}{ss}{h}(x:StrsAre vs ss):vs.length=ss.length/\∀ (i:Nat) (v:Value) (d:D),vs[i]?=some v->(ss.map D.str)[i]?=some d->Rep c h ow v d:=by
 induction x with
 |nil=>exact ⟨rfl,fun i v d e=>by exact Z3 e⟩
 |cons y t O ih=>exact ⟨by simp[ih.1],fun i v d e1 e2=>by
   induction i with
   |zero=>simp at e1 e2;subst e1 e2;exact .str _ _
   |succ i=>exact ih.2 i v d (by simpa using e1) (e2)⟩
noncomputable def UJ(m:Str)(d:D):String × String:=match d.m with
 |.k O=>("dict","dict.get")
 |.l O=>("list","list.index")
 |.t O=>("tuple","tuple.index")
 |.s O=>if m="rjust" then ("str","str.rjust") else ("str","str.join")
 |.p=>("list","list.pop")
 |.no=>("list","list.pop")
def ZdG(d:D):MD'->Prop:=fun O=>match O with
 |.k kvs=>d=.dict kvs
 |.l xs=>d=.list xs
 |.t xs=>d=.tup xs
 |.s s=>d=.str s
 |.p=>d=.poolc
 |.no=>True
theorem D.m_of(d):ZdG d d.m:=by cases d<;>first|rfl|trivial
structure Zal(s:Shared)(o:Value)(m:Str)(T id:String):Prop where
 attrs:PlainAttrs T
 slot:Slot T m id
 type:typeOf (.builtin id)=pure (.type "method_descriptor")
 is:s.TypeIs o T
 noDict:∀ a,o=.ref a->∃ ob,s.heap.get? a=some ob/\ob.dict=none
theorem Zam{o}{x}{m}(hA:Act c F s.heap ow σ)(hx:ZS c s.heap ow o x)(hm:W9 m x.d=true):Zal s o m (UJ m x.d).1 (UJ m x.d).2:=by
 unfold W9 at hm
 unfold UJ
 have e:=D.m_of x.d
 generalize x.d.m=v at hm e ⊢
 induction v with
 |no=>exact Z4 hm
 |k=>
  obtain rfl:=of_decide_eq_true hm
  obtain ⟨a,rfl,hd⟩:=hx.dict e
  obtain ⟨vvs,h1,O⟩:=hd.pairs
  exact ⟨PySem.F.plainAttrs_dict,PySem.F.slot_dict_get,PySem.F.type_dict_get,h1.typeIs,h1.mapOf.noDict⟩
 |l=>
  obtain rfl:=of_decide_eq_true hm
  obtain ⟨a,rfl,ob,vs,hg,hl,O⟩:=hx.list e
  exact ⟨PySem.F.plainAttrs_list,PySem.F.slot_list_index,PySem.F.type_list_index,⟨ob,hg,hl.1⟩,fun b q=>by injection q with q;subst q;exact ⟨ob,hg,hl.2.1.1⟩⟩
 |t=>
  obtain rfl:=of_decide_eq_true hm
  obtain ⟨a,ob,vs,rfl,hg,hl,O⟩:=hx.tup e
  exact ⟨PySem.F.plainAttrs_tuple,PySem.F.slot_tuple_index,PySem.F.type_tuple_index,⟨ob,hg,hl.1⟩,fun b q=>by injection q with q;subst q;exact ⟨ob,hg,hl.2.1.1⟩⟩
 |s=>
  obtain ⟨t,rfl⟩:=hx.str e
  rcases Bool.or_eq_true_iff.mp hm with q|q
  ·obtain rfl:=of_decide_eq_true q
   exact ⟨PySem.F.plainAttrs_str,PySem.F.slot_str_rjust,PySem.F.type_str_rjust,typeIs_str _ _ _,nofun⟩
  ·obtain rfl:=of_decide_eq_true q
   exact ⟨PySem.F.plainAttrs_str,PySem.F.slot_str_join,PySem.F.type_str_join,typeIs_str _ _ _,nofun⟩
 |p=>
  obtain rfl:=of_decide_eq_true hm
  obtain ⟨a,rfl,hp⟩:=hx.poolc e
  have P:=hA.pool
  generalize σ.pl=ww at P
  induction ww with
  |none=>exact absurd hp (P a).2
  |some p=>
   obtain ⟨Pa,C,oP,oC,t1,t2,vs,O,O,O,h4,O,O,O,O,h9,h10,O⟩:=P
   have:=h4 a hp;subst this
   exact ⟨PySem.F.plainAttrs_list,PySem.F.slot_list_pop,PySem.F.type_list_pop,⟨oC,h9,h10.1⟩,fun b q=>by injection q with q;subst q;exact ⟨oC,h9,h10.2.1.1⟩⟩
theorem ZdH{α:Type}{vs:List Value}{a:α}(h:vs.length=[a].length):∃ v,vs=[v]:=List.length_eq_one_iff.mp h
theorem Zm.one{h}{vs}{d}(x:Zm c h ow σ vs [d]):∃ v,vs=[v]/\Rep c h ow v d:=by
 obtain ⟨v,rfl⟩:=List.length_eq_one_iff.mp x.1
 exact ⟨v,rfl,x.2 0 v d rfl rfl⟩
theorem uncons{α:Type}{l:List α}{n}(h:l.length=n+1):∃ a r,l=a::r/\r.length=n:=by
 induction l with
 |nil=>cases h
 |cons a r=>exact ⟨a,r,rfl,Nat.succ.inj h⟩
theorem Zm.two{h}{vs}{d e}(x:Zm c h ow σ vs [d,e]):∃ v u,vs=[v,u]/\Rep c h ow v d/\Rep c h ow u e:=by
 obtain ⟨v,r,rfl,h1⟩:=uncons x.1
 obtain ⟨u,rfl⟩:=List.length_eq_one_iff.mp h1
 exact ⟨v,u,rfl,x.2 0 v d rfl rfl,x.2 1 u e rfl rfl⟩
theorem Zm.three{h}{vs}{d e f}(x:Zm c h ow σ vs [d,e,f]):∃ v u w,vs=[v,u,w]/\Rep c h ow v d/\Rep c h ow u e/\Rep c h ow w f:=by
 obtain ⟨v,r,rfl,h1⟩:=uncons x.1
 obtain ⟨u,r,rfl,h2⟩:=uncons h1
 obtain ⟨w,rfl⟩:=List.length_eq_one_iff.mp h2
 exact ⟨v,u,w,rfl,x.2 0 v d rfl rfl,x.2 1 u e rfl rfl,x.2 2 w f rfl rfl⟩
theorem Zm.nil{h}{vs}(x:Zm c h ow σ vs []):vs=[]:=List.length_eq_zero_iff.mp x.1
theorem Z0J{ss}:∀ {x:Str} {i:Nat},W7 x ss=some i->∃ (hi:i < ss.length),ss[i]=x/\∀ j (hj:j < ss.length),j < i->ss[j]≠x:=by
 induction ss with
 |nil=>intro x i h;exact Z3 h
 |cons t r ih=>
  intro x i h
  refine ite_el (show (if x=t then some 0 else (W7 x r).map (fun O=>O+1))=some i from h) (fun q h=>?_) fun q h=>?_
  ·obtain rfl:=Option.some.inj h
   exact ⟨Nat.succ_pos _,q.symm,fun j O hj=>absurd hj (Nat.not_lt_zero _)⟩
  ·obtain ⟨k,hk,rfl⟩:=Option.map_eq_some_iff.mp h
   obtain ⟨hi,e,hn⟩:=ih hk
   refine ⟨Nat.succ_lt_succ hi,e,fun j hj hlt=>?_⟩
   induction j with
   |zero=>exact fun e=>q e.symm
   |succ j=>exact hn j (Nat.lt_of_succ_lt_succ hj) (Nat.lt_of_succ_lt_succ hlt)
theorem Z0K{w}(h:w.natAbs < 1000):PadOk w=true:=by
 unfold PadOk fitsSsize Builtin.Str.tooLong
 rw[Bool.and_eq_true,Bool.not_eq_true',Bool.not_eq_true',Bool.or_eq_false_iff,decide_eq_false_iff_not,decide_eq_false_iff_not,decide_eq_false_iff_not,sizeLine_eq]
 have a:w < 1000:=Int.lt_of_le_of_lt Int.le_natAbs (Int.ofNat_lt.mpr h)
 have b:-w < 1000:=Int.lt_of_le_of_lt Int.le_natAbs (Int.ofNat_lt.mpr ((Int.natAbs_neg w).symm▸h))
 exact ⟨⟨fun q=>absurd (Int.lt_trans (Int.neg_lt_neg q) b) (by decide),fun q=>absurd (Int.lt_of_le_of_lt q a) (by decide)⟩,Nat.not_lt.mpr (Int.toNat_le.mpr (Int.le_of_lt (Int.lt_trans a (by decide))))⟩
theorem Z63{a}{x}{t}{vs}{n}{ss}{k}(hl:IsL s.heap a vs n)(hs:vs.size=(ss.map D.str).length)(hr:∀ (i:Nat) (v:Value) (d:D),vs[i]?=some v->(ss.map D.str)[i]?=some d->Rep c s.heap ow v d)
  (hz:vs.size<=LIM) (hi:W7 x ss=some k) (hQ:Q (.int (k:Int) s.toks) {s with toks:=s.toks+1}):wpAny (MD c) A (call (.builtin "list.index") [.ref a,.str x t]) Q E s:=by
 obtain ⟨q1,q2⟩:=Vi (x:=x) hs hr
 obtain ⟨hlt,he,hn⟩:=Z0J hi
 have hj:k < vs.size:=by simp only[hs,List.length_map];exact hlt
 refine call_meets PySem.F.slot_list_index ⟨_,hl,rfl⟩ PySem.F.entry_list_index (PySem.F.args_list_index_2 _ _) (list_indexAt a vs n none #[] (.str x t) (VM x) k hj (by unfold LIM at hz;omega) ?_ fun j hj' hlt'=>?_) ⟨hl,fun y hy=>q1 y hy _ _ _,hQ⟩
 ·obtain ⟨O,u,e⟩:=XU hs hr hj
  rw[e];exact beq_iff_eq.mpr he
 ·obtain ⟨hj2,u,e⟩:=XU hs hr hj'
  rw[e]
  exact beq_eq_false_iff_ne.mpr (hn j hj2 hlt')
theorem YG{β:Type}{ds}{f:D->Option β}{r:β}(e:(one? ds).bind f=some r):∃ d,ds=[d]/\f d=some r:=by
 obtain ⟨d,h,e⟩:=Option.bind_eq_some_iff.mp e
 exact ⟨d,one?_of h,e⟩
theorem Zm.str1{h}{vs}{ds}{k}(x:Zm c h ow σ vs ds)(e:(one? ds).bind D.s?=some k):∃ t,vs=[.str k t]:=by
 obtain ⟨d,rfl,e⟩:=YG e
 obtain ⟨v,rfl,hv⟩:=x.one
 obtain rfl:=D.s?_of e
 obtain ⟨t,rfl⟩:=hv.out
 exact ⟨t,rfl⟩
theorem Zm.int1{h}{vs}{ds}{k}(x:Zm c h ow σ vs ds)(e:(one? ds).bind D.i?=some k):∃ t,vs=[.int k t]:=by
 obtain ⟨d,rfl,e⟩:=YG e
 obtain ⟨v,rfl,hv⟩:=x.one
 obtain rfl:=D.i?_of e
 obtain ⟨t,rfl⟩:=hv.out
 exact ⟨t,rfl⟩
theorem Z3M{kvs}{ds}{vs}{a}(hA:Act c F s.heap ow σ)(hd:DictAt c s.heap ow a kvs)(hds:Zm c s.heap ow σ vs ds)
  (hP:Z2 c F (Z7 c) (Zv c) s.heap ow s (Z9c kvs ds σ) Q E):wpAny (MD c) A (call (.builtin "dict.get") (.ref a::vs)) Q E s:=by
 obtain ⟨vvs,h1,h2,h3,O,O,h4⟩:=hd.pairs
 unfold Z9c at hP
 cases h2?:two? ds with
 |some p=>
  rw[h2?] at hP
  obtain rfl:=two?_of h2?
  obtain ⟨v,u,rfl,hv,hu⟩:=hds.two
  obtain ⟨k,e,hP⟩:=Z2.opt hP
  rw[D.s?_of e] at hv
  obtain ⟨t,rfl⟩:=hv.out
  refine call_meetsIn PySem.F.slot_dict_get h1.typeIs PySem.F.entry_dict_get (PySem.F.args_dict_get_3 _ _ _) (meets_dict_get_default (PySem.strKind PRG c.w) a (strKind_is _ _ _ _) h2 u) ⟨_,h1.mapOf,?_⟩
  rcases UI (k:=k) h3 h4 with ⟨e1,e2⟩|⟨d',v',e1,e2,e3⟩
  ·rw[e2];rw[e1] at hP;exact hP.val (tk:=s.toks+1) hA hu
  ·rw[e2];rw[e1] at hP;exact hP.val (tk:=s.toks+1) hA e3
 |none=>
  rw[h2?] at hP
  refine gG fun G gk=>?_
  obtain ⟨k,e,hP⟩:=Z2.opt hP
  obtain ⟨t,rfl⟩:=hds.str1 e
  refine gk ?_
  refine call_meetsIn PySem.F.slot_dict_get h1.typeIs PySem.F.entry_dict_get (PySem.F.args_dict_get_2 _ _) (meets_dict_get (PySem.strKind PRG c.w) a (strKind_is _ _ _ _) h2) ⟨_,h1.mapOf,?_⟩
  rcases UI (k:=k) h3 h4 with ⟨e1,e2⟩|⟨d',v',e1,e2,e3⟩
  ·rw[e2];rw[e1] at hP;exact hP.val (tk:=s.toks+1) hA .none
  ·rw[e2];rw[e1] at hP;exact hP.val (tk:=s.toks+1) hA e3
theorem JZ{xs ds}{vs}(hds:Zm c s.heap ow σ vs ds)(hP:Z2 c F (Z7 c) (Zv c) s.heap ow s (Z1n xs ds σ) Q E):∃ st t ss k,vs=[.str st t]/\xs=ss.map .str/\W7 st ss=some k/\Z2 c F (Z7 c) (Zv c) s.heap ow s (.ok (.fr (.int k),none) σ) Q E:=by
 obtain ⟨k,e0,hP'⟩:=Z2.opt hP
 clear hP
 obtain ⟨d,rfl,e⟩:=YG e0
 clear e0
 obtain ⟨st,e1,e2⟩:=Option.bind_eq_some_iff.mp e
 obtain ⟨ss,hss,e3⟩:=Option.bind_eq_some_iff.mp e2
 obtain ⟨v,rfl,hv⟩:=hds.one
 rw[D.s?_of e1] at hv
 obtain ⟨t,rfl⟩:=hv.out
 exact ⟨st,t,ss,k,rfl,WA hss,e3,hP'⟩
theorem KU{ss}{st}{t}{a}{ob}{vs'}{k}(hA:Act c F s.heap ow σ)(hg:s.heap.get? a=some ob)(hl:Z5R ob vs')(hs:vs'.size=(ss.map D.str).length)(hr:∀ (i:Nat) (v:Value) (d:D),vs'[i]?=some v->(ss.map D.str)[i]?=some d->Rep c s.heap ow v d)(hk2:W7 st ss=some k)
  (hP:Z2 c F (Z7 c) (Zv c) s.heap ow s (.ok (.fr (.int k),none) σ) Q E):wpAny (MD c) A (call (.builtin "tuple.index") [.ref a,.str st t]) Q E s:=by
 obtain ⟨q1,q2⟩:=Vi (x:=st) hs hr
 obtain ⟨hlt,he,hn⟩:=Z0J hk2
 have hj:k < vs'.size:=by simp only[hs,List.length_map];exact hlt
 refine gG fun G gk=>?_
 obtain ⟨cl,dd,dt,sl⟩:=ob
 obtain ⟨h1,⟨h2,h3⟩,n,h4⟩:=hl
 refine gk ?_
 dsimp only at h1 h2 h3 h4
 subst h1 h2 h3 h4
 refine call_meets PySem.F.slot_tuple_index ⟨_,hg,rfl⟩ PySem.F.entry_tuple_index (PySem.F.args_tuple_index_2 _ _) (Jp a vs' n none #[] (.str st _) (VM st) k hj ?_ fun j hj' hlt'=>?_) ⟨hg,fun y hy=>q1 y hy _ _ _,hP.val (tk:=s.toks+1) hA (.int _ _)⟩
 ·obtain ⟨O,u,e⟩:=XU hs hr hj
  rw[e];exact beq_iff_eq.mpr he
 ·obtain ⟨hj2,u,e⟩:=XU hs hr hj'
  rw[e]
  exact beq_eq_false_iff_ne.mpr (hn j hj2 hlt')
theorem Z2.ite{p} [Decidable p] {o} (hP:Z2 c F (Z7 c) (Zv c) s.heap ow s (if p then o else .stuck) Q E):p/\Z2 c F (Z7 c) (Zv c) s.heap ow s o Q E:=by
 by_cases h:p
 ·rw[if_pos h] at hP;exact ⟨h,hP⟩
 ·rw[if_neg h] at hP;exact hP.elim
theorem Z0L{st}{t}{ds}{vs}(hA:Act c F s.heap ow σ)(hds:Zm c s.heap ow σ vs ds)(hP:Z2 c F (Z7 c) (Zv c) s.heap ow s (Z1o st ds σ) Q E):wpAny (MD c) A (call (.builtin "str.rjust") (.str st t::vs)) Q E s:=by
 unfold Z1o at hP
 cases h2?:two? ds with
 |some p=>
  rw[h2?] at hP
  obtain rfl:=two?_of h2?
  obtain ⟨v,u,rfl,hv,hu⟩:=hds.two
  obtain ⟨w,e,hP⟩:=Z2.opt hP
  rw[D.i?_of e] at hv
  obtain ⟨t,rfl⟩:=hv.out
  obtain ⟨f,e,hP⟩:=Z2.opt hP
  rw[D.s?_of e] at hu
  obtain ⟨t,rfl⟩:=hu.out
  obtain ⟨hw,hP⟩:=hP.ite
  exact rjust_fill (Z0K hw.1) hw.2 fun t' k=>hP.val (tk:=k) hA (.str _ _)
 |none=>
  rw[h2?] at hP
  refine gG fun G gk=>?_
  obtain ⟨w,e,hP⟩:=Z2.opt hP
  obtain ⟨t,rfl⟩:=hds.int1 e
  obtain ⟨hw,hP⟩:=hP.ite
  refine gk ?_
  exact SC.rjust (Z0K hw) fun t' k=>hP.val (tk:=k) hA (.str _ _)
theorem Z1O{st}{t}{ds}{vs}(hA:Act c F s.heap ow σ)(hds:Zm c s.heap ow σ vs ds)(hP:Z2 c F (Z7 c) (Zv c) s.heap ow s (Z8x st ds σ) Q E):wpAny (MD c) A (call (.builtin "str.join") (.str st t::vs)) Q E s:=by
 obtain ⟨ss,e0,hP'⟩:=Z2.opt hP
 clear hP
 obtain ⟨d,rfl,e2⟩:=YG e0
 clear e0
 obtain ⟨xs,e1,e⟩:=Option.bind_eq_some_iff.mp e2
 obtain ⟨v,rfl,hv⟩:=hds.one
 obtain ⟨hw,hP⟩:=hP'.ite
 simp only[D.l?_of e1,WA e] at hv
 obtain ⟨a,rfl,O,hd⟩:=hv.out
 obtain ⟨vs',n,g1,g2,g3,g4⟩:=Y6.isL hd
 refine PyProof.Rows.join_list g1.isList (X3.strs (by simpa using g2) fun i v d e1 e2=>g4 i v d (by simpa using e1) e2) (by rw[hw.1];omega) fun t' k=>?_
 exact hP.val (tk:=k) hA (.str _ _)
set_option tactic.hygienic true in
theorem Z3N{ds}{vs}{a}(hA:Act c F s.heap ow σ)(hp:ow a=.poolC)(hds:Zm c s.heap ow σ vs ds)(hP:Z2 c F (Z7 c) (Zv c) s.heap ow s (ZaZ ds σ) Q E):wpAny (MD c) A (call (.builtin "list.pop") (.ref a::vs)) Q E s:=by
  obtain ⟨n0,e,hP⟩:=Z2.opt hP
  obtain ⟨tt,rfl⟩:=hds.int1 e
  obtain ⟨rfl,hP⟩:=hP.ite
  cases hpl:σ.pl with
  |none=>rw[hpl] at hP;exact hP.elim
  |some p=>
  obtain ⟨cells,pa,pb⟩:=p
  cases cells with
  |nil=>rw[hpl] at hP;exact hP.elim
  |cons c0 cs=>
   rw[hpl] at hP
   have P:=hA.pool
   rw[hpl] at P
   obtain ⟨Pa,C,oP,oC,t1,t2,vs',w1,w2,h3,h4,h5,h6,h7,h8,h9,h10,h11,h12⟩:=P
   have:=h4 a hp;subst this
   obtain ⟨cl,dd,dt,sl⟩:=oC
   obtain ⟨k1,⟨k2,k3⟩,n,k4⟩:=h10
   dsimp only at k1 k2 k3 k4
   subst k1 k2 k3 k4
   cases h11 with
   |cons i0 u0 hr=>
   rename_i vr
   have hL:IsL s.heap a (List.toArray (.int c0 u0::vr)) n:=h9
   refine call_meets PySem.F.slot_list_pop ⟨_,hL,rfl⟩ PySem.F.entry_list_pop (PySem.F.args_list_pop_2 _ _) (MeetsSeq.list_pop_at a _ n 0 _ 0 (.int c0 u0) (by decide) (by simp[seqIndex?]) rfl ?_) ⟨hL,?_⟩
   ·have:=YM
    simp at h12
    simp only[List.size_toArray,List.length_cons]
    have:=hr.length
    omega
   ·have hup:=IsL.update hL (fun xs=>xs.eraseIdxIfInBounds 0)
    have hsb:=Heap.SameBut.update (h:=s.heap) (a:=a) (f:=Obj.mapSeq fun xs=>xs.eraseIdxIfInBounds 0)
    have her:(List.toArray (Value.int c0 u0::vr)).eraseIdxIfInBounds 0=vr.toArray:=by simp
    rw[her] at hup
    obtain ⟨a1,a2⟩:=hA.poolTurn (pl':=some ⟨cs,pa,pb⟩) hsb (.inl hp) h6 (fun o e=>by rw[h9] at e;injection e with e;subst e;exact (show Value.type "list"≠.type "frame" by decide))
     ⟨Pa,a,oP,_,t1,t2,vr,w1,w2,h3,h4,h5,h6,(hsb.2 Pa (by rintro rfl;rw[w1] at w2;cases w2)).trans h7,h8,hup,⟨rfl,⟨rfl,rfl⟩,_,rfl⟩,hr,by show cs.length<=LIM;simp at h12;omega⟩
    exact hP (.int c0 u0) _ ow s.toks a1 a2 ⟨.int _ _,nofun⟩
theorem Z1P{o}{x}{m}{ds}{vs}(hA:Act c F s.heap ow σ)(hx:ZS c s.heap ow o x)(hm:W9 m x.d=true)(hds:Zm c s.heap ow σ vs ds)
  (hP:Z2 c F (Z7 c) (Zv c) s.heap ow s (W8 m x.d ds σ) Q E):wpAny (MD c) A (call (.builtin (UJ m x.d).2) (o::vs)) Q E s:=by
 unfold W9 at hm
 unfold UJ
 unfold W8 at hP
 have e:=D.m_of x.d
 generalize x.d.m=v at hm hP e ⊢
 induction v with
 |no=>exact hP.elim
 |k=>obtain ⟨a,rfl,hd⟩:=hx.dict e;exact Z3M hA hd hds hP
 |l=>
  obtain ⟨a,rfl,hd⟩:=hx.list e
  obtain ⟨vs',n,g1,g2,g3,g4⟩:=hd.isL
  obtain ⟨st,t,ss,k,rfl,rfl,hk,hP⟩:=JZ hds hP
  exact Z63 g1 g2 g4 (by rw[g2];exact g3) hk (hP.val (tk:=s.toks+1) hA (.int _ _))
 |t=>
  obtain ⟨a,ob,vs',rfl,hg,hl,hs,hz,hr⟩:=hx.tup e
  obtain ⟨st,t,ss,k,rfl,rfl,hk,hP⟩:=JZ hds hP
  exact KU hA hg hl hs hr hk hP
 |s=>
  obtain ⟨t,rfl⟩:=hx.str e
  dsimp only at hP ⊢
  by_cases q:m="rjust"
  ·rw[if_pos q] at hP ⊢;exact Z0L hA hds hP
  ·rw[if_neg q] at hP ⊢;exact Z1O hA hds hP
 |p=>obtain ⟨a,rfl,hp⟩:=hx.poolc e;exact Z3N hA hp hds hP
theorem Z3O(r):∀ (m:Int),Xf m r∈m::r/\∀ a∈m::r,a<=Xf m r:=by
 induction r with
 |nil=>intro m;exact ⟨List.mem_cons_self,fun a ha=>by simp at ha;subst ha;exact Int.le_refl _⟩
 |cons x r ih=>
  intro m
  by_cases q:m < x
  ·obtain ⟨h1,h2⟩:=ih x
   rw[show Xf m (x::r)=Xf x r from congrArg (Xf · r) (if_pos q)]
   refine ⟨List.mem_cons_of_mem _ h1,fun a ha=>?_⟩
   have hm:=h2 _ (List.mem_cons_self ..)
   rcases List.mem_cons.mp ha with rfl|ha
   ·lia
   ·exact h2 a ha
  ·obtain ⟨h1,h2⟩:=ih m
   rw[show Xf m (x::r)=Xf m r from congrArg (Xf · r) (if_neg q)]
   refine ⟨?_,fun a ha=>?_⟩
   ·rcases List.mem_cons.mp h1 with e|e
    ·rw[e];exact List.mem_cons_self ..
    ·exact List.mem_cons_of_mem _ (List.mem_cons_of_mem _ e)
   ·have hm:=h2 _ (List.mem_cons_self ..)
    rcases List.mem_cons.mp ha with rfl|ha
    ·exact hm
    ·rcases List.mem_cons.mp ha with rfl|ha
     ·lia
     ·exact h2 a (List.mem_cons_of_mem _ ha)
theorem Y6.ints{h}{a}{ns}(x:Y6 c h ow a (ns.map .int)):∃ vs:List Value,h.IsList a vs.toArray/\IntsAre vs ns:=by
 obtain ⟨vs,n,g1,g2,g3,g4⟩:=x.isL
 exact ⟨vs.toList,by simpa using g1.isList,X3.ints (by simpa using g2) fun i v d e1 e2=>g4 i v d (by simpa using e1) e2⟩
theorem Y6.strs{h}{a}{ns}(x:Y6 c h ow a (ns.map .str)):∃ vs:List Value,h.IsList a vs.toArray/\StrsAre vs ns:=by
 obtain ⟨vs,n,g1,g2,g3,g4⟩:=x.isL
 exact ⟨vs.toList,by simpa using g1.isList,X3.strs (by simpa using g2) fun i v d e1 e2=>g4 i v d (by simpa using e1) e2⟩
theorem Z7Z{x}(h:x < 10 ^ 30):x.log2 < 1920:=by
 by_cases h0:x=0
 ·subst h0;decide
 ·exact Nat.lt_of_lt_of_le ((Nat.log2_lt h0).mpr (Nat.lt_of_lt_of_le h (by decide:10 ^ 30<=2 ^ 100))) (by decide)
theorem Vj:∀ a:List Nat,YY a a=false:=fun O=>match O with
 |[]=>rfl
 |x::r=>by rw[VY,if_neg (Nat.lt_irrefl x),if_neg (Nat.lt_irrefl x)];exact Vj r
theorem Wi:∀ {a b d:List Nat},YY a b=true->YY b d=true->YY a d=true
 |[],[],O,h,U=>by exact Z4 h
 |[],O::U,[],V,h=>by exact Z4 h
 |[],O::U,V::O1,O2,O3=>rfl
 |O::U,[],V,h,O1=>by exact Z4 h
 |O::U,V::O1,[],O2,h=>by exact Z4 h
 |x::a,y::b,z::d,h1,h2=>by
  rw[VY] at h1 h2 ⊢
  split at h1
  ·refine ite_el h2 (fun q_ h2=>?_) fun q_ h2=>?_
   ·rw[if_pos (by lia)]
   ·refine ite_el h2 (fun q_ h2=>?_) fun q_ h2=>?_
    ·exact Z4 h2
    ·rw[if_pos (by lia)]
  ·refine ite_el h1 (fun q_ h1=>?_) fun q_ h1=>?_
   ·exact Z4 h1
   ·split at h2
    ·rw[if_pos (by lia)]
    ·refine ite_el h2 (fun q_ h2=>?_) fun q_ h2=>?_
     ·exact Z4 h2
     ·rw[if_neg (by lia),if_neg (by lia)];exact Wi h1 h2
theorem Wj:∀ {a b:List Nat},YY a b=false->YY b a=false->a=b
 |[],[],O,U=>rfl
 |[],O::U,h,V=>by cases h
 |O::U,[],V,h=>by cases h
 |x::a,y::b,h1,h2=>by
  rw[VY] at h1 h2
  split at h1
  ·exact nomatch h1
  ·split at h1
   ·rename_i p q;rw[if_pos q] at h2;exact nomatch h2
   ·rename_i p q
    rw[if_neg q,if_neg p] at h2
    have:x=y:=by lia
    rw[this,Wj h1 h2]
theorem Z80{a b:Str}(h:a.cps.toList=b.cps.toList):a=b:=by
 obtain ⟨⟨a⟩⟩:=a;obtain ⟨⟨b⟩⟩:=b;simp at h;rw[h]
def leS(a b:Str):Prop:=YY b.cps.toList a.cps.toList=false
theorem K0{a b d}(h1:leS a b)(h2:leS b d):leS a d:=by
 unfold leS at *
 cases h:YY d.cps.toList a.cps.toList with
 |false=>rfl
 |true=>
  cases hb:YY a.cps.toList b.cps.toList with
  |true=>rw[Wi h hb] at h2;exact nomatch h2
  |false=>have:=Wj hb h1;rw[this] at h;rw[h] at h2;exact nomatch h2
theorem Wk(x):∀ l,(Vo x l).Perm (x::l):=fun O=>match O with
 |[]=>.refl _
 |y::r=>by
  rw[Z0d]
  split
  ·exact .refl _
  ·exact ((Wk x r).cons y).trans (.swap x y r)
theorem Xw:∀ l,(W6 l).Perm l:=fun O=>match O with
 |[]=>.refl _
 |x::r=>(Wk x _).trans ((Xw r).cons x)
theorem WL(x):∀ {l},l.Pairwise leS->(Vo x l).Pairwise leS
 |[],O=>List.pairwise_singleton _ _
 |y::r,h=>by
  obtain ⟨h1,h2⟩:=List.pairwise_cons.mp h
  rw[Z0d]
  split
  ·rename _=>q
   refine List.pairwise_cons.mpr ⟨fun z hz=>?_,h⟩
   have hxy:leS x y:=by
    unfold leS
    cases e:YY y.cps.toList x.cps.toList with
    |false=>rfl
    |true=>have:=Wi q e;rw[Vj] at this;exact Z4 this
   rcases List.mem_cons.mp hz with rfl|hz
   ·exact hxy
   ·exact K0 hxy (h1 z hz)
  ·rename _=>q
   refine List.pairwise_cons.mpr ⟨fun z hz=>?_,WL x h2⟩
   rcases List.mem_cons.mp ((Wk x r).mem_iff.mp hz) with rfl|hz
   ·simpa [leS] using q
   ·exact h1 z hz
theorem W1:∀ l,(W6 l).Pairwise leS:=fun O=>match O with
 |[]=>.nil
 |x::r=>WL x (W1 r)
theorem WM:∀ {l l':List Str},l.Perm l'->l.Pairwise leS->l'.Pairwise leS->l=l'
 |[],l',p,O,U=>(List.Perm.nil_eq p)
 |x::r,[],p,O,U=>by have:=p.length_eq;simp at this
 |x::r,y::r',p,h,h'=>by
  obtain ⟨h1,h2⟩:=List.pairwise_cons.mp h
  obtain ⟨h1',h2'⟩:=List.pairwise_cons.mp h'
  have e:x=y:=by
   have m1:x∈y::r':=p.mem_iff.mp (List.mem_cons_self ..)
   have m2:y∈x::r:=p.mem_iff.mpr (List.mem_cons_self ..)
   rcases List.mem_cons.mp m1 with e|m1
   ·exact e
   ·rcases List.mem_cons.mp m2 with e|m2
    ·exact e.symm
    ·exact Z80 (Wj (h1' x m1) (h1 y m2))
  subst e
  rw[WM ((List.perm_cons x).mp p) h2 h2']
theorem Z0M:∀ a b:List Nat,YY a b=decide (a < b):=fun O U=>match O,U with
 |[],[]=>rfl
 |[],O::U=>by show true=_;simp
 |O::U,[]=>by show false=_;simp
 |x::a,y::b=>by
  rw[VY,Bool.eq_iff_iff,decide_eq_true_iff,List.cons_lt_cons_iff]
  have ih:=Z0M a b
  split
  ·rename _=>q;simp[q]
  ·split
   ·rename _=>q;simp;lia
   ·rename _=>q
    have:x=y:=by lia
    simp[ih,this]
theorem Vk:∀ (p:Str) (l:List Str),risingS p l=true->(∀ a∈l,leS p a)/\l.Pairwise leS:=fun O U V=>match O,U,V with
 |p,[],O=>⟨by simp,.nil⟩
 |p,x::r,h=>by
  have h:(!Spec.ltCps x.cps.toList p.cps.toList&&risingS x r)=true:=h
  rw[Bool.and_eq_true] at h
  obtain ⟨i1,i2⟩:=Vk x r h.2
  have hpx:leS p x:=by
   unfold leS
   rw[Z0M,<-ltCps_eq]
   simpa using h.1
  refine ⟨fun a ha=>?_,List.pairwise_cons.mpr ⟨i1,i2⟩⟩
  rcases List.mem_cons.mp ha with rfl|ha
  ·exact hpx
  ·exact K0 hpx (i1 a ha)
theorem KV{l}(h:sortedS l=true):l.Pairwise leS:=by
 induction l with
 |nil=>exact .nil
 |cons x r=>obtain ⟨h1,h2⟩:=Vk x r h;exact List.pairwise_cons.mpr ⟨h1,h2⟩
noncomputable def Wl(f:Str):Option Value:=
 if f="abs" then some (.builtin "abs") else if f="max" then some (.builtin "max") else if f="sum" then some (.builtin "sum") else if f="sorted" then some (.builtin "sorted")
 else if f="str" then some (.type "str") else if f="list" then some (.type "list") else if f="range" then some (.type "range") else if f="int" then some (.type "int") else none
theorem X5(a b):(Zi a b).length=(b - a).toNat:=by simp[Zi]
theorem Zm.list1{h}{vs}{ds}{β:Type}{f:List D->Option β}{r:β}(x:Zm c h ow σ vs ds)(e:((one? ds).bind fun d=>d.l?.bind f)=some r):∃ a xs,vs=[.ref a]/\Y6 c h ow a xs/\f xs=some r:=by
 obtain ⟨d,rfl,e2⟩:=YG e
 obtain ⟨xs,e1,e3⟩:=Option.bind_eq_some_iff.mp e2
 obtain ⟨v,rfl,hv⟩:=x.one
 rw[D.l?_of e1] at hv
 obtain ⟨a,rfl,O,hd⟩:=hv.out
 exact ⟨a,xs,rfl,hd,e3⟩
theorem KW{h}{v}{d}{i}(hv:Rep c h ow v d)(e:d.i?=some i):∃ t,v=.int i t:=by rw[D.i?_of e] at hv;exact hv.out
theorem Zm.int1'{h}{vs}{ds}{β:Type}{f:Int->Option β}{r:β}(x:Zm c h ow σ vs ds)(e:((one? ds).bind fun d=>d.i?.bind f)=some r):∃ i t,vs=[.int i t]/\f i=some r:=by
 obtain ⟨d,rfl,e2⟩:=YG e
 obtain ⟨i,e1,e3⟩:=Option.bind_eq_some_iff.mp e2
 obtain ⟨v,rfl,hv⟩:=x.one
 obtain ⟨t,rfl⟩:=KW hv e1
 exact ⟨i,t,rfl,e3⟩
theorem Zm.int2{h}{vs}{ds}{p}{β:Type}{f:Int->Int->Option β}{r:β}(x:Zm c h ow σ vs ds)(h2:two? ds=some p)(e:(p.1.i?.bind fun i=>p.2.i?.bind fun j=>f i j)=some r):∃ i t j u,vs=[.int i t,.int j u]/\f i j=some r:=by
 obtain rfl:=two?_of h2
 refine gG fun G gk=>?_
 obtain ⟨v,u,rfl,hv,hu⟩:=x.two
 obtain ⟨i,e1,e2⟩:=Option.bind_eq_some_iff.mp e
 obtain ⟨j,e3,e4⟩:=Option.bind_eq_some_iff.mp e2
 obtain ⟨t,rfl⟩:=KW hv e1
 obtain ⟨t',rfl⟩:=KW hu e3
 refine gk ?_
 exact ⟨i,t,j,t',rfl,e4⟩
theorem Z1Q{vs}{ds}{lv}(hA:Act c F s.heap ow σ)(hds:Zm c s.heap ow σ vs ds)(e:ZaU ds=some lv)
  (hP:Z2 c F (Z7 c) (Zv c) s.heap ow s (.ok (lv,none) σ) Q E):wpAny (MD c) A (call (.builtin "abs") vs) Q E s:=by
 obtain ⟨i,t,rfl,e⟩:=hds.int1' e
 obtain rfl:=Option.some.inj e
 refine call_abs_int fun u tk=>?_
 have:(if i < 0 then -i else i)=((i.natAbs:Nat):Int):=by split<;>lia
 rw[this]
 exact hP.val (tk:=tk) hA (.int _ _)
theorem Z64{vs':List Value}{a:Addr}{m:Int}{r:List Int}{h:Heap}(hi:IntsAre vs' (m::r))(g1:h.IsList a vs'.toArray):∃ xs:Array (Int × Tok),vs'.toArray=intItems xs/\0 < xs.size/\numAt xs (argBest (fun i j=>decide (numAt xs i > numAt xs j)) (xs.size - 1))=Xf m r:=by
 obtain ⟨xs,ex⟩:=hi.allInts.items
 have hns':m::r=xs.toList.map (fun O=>O.1):=by rw[<-hi.numsOf,<-nums_intItems,<-ex]
 have hlen:(m::r).length=xs.size:=by simp only[hns',List.length_map,Array.length_toList]
 refine ⟨xs,ex,by rw[<-hlen];simp,?_⟩
 obtain ⟨h1,h2⟩:=argBest_gt (numAt xs) (xs.size - 1)
 obtain ⟨k1,k2⟩:=Z3O r m
 refine Int.le_antisymm (k2 _ ?_) ?_
 ·rw[hns',numAt_eq];exact PySem.getD_mem (by simp only[List.length_map,Array.length_toList];rw[<-hlen] at h1 ⊢;simp at h1 ⊢;lia)
 ·rw[hns'] at k1
  obtain ⟨j,hj,ej⟩:=mem_getD k1
  simp only[List.length_map,Array.length_toList] at hj
  rw[<-ej,<-numAt_eq];exact h2 j (by lia)
theorem Z1R{vs:List Value}{ds:List D}{lv:LV}(hh:A.handled=none)(hA:Act c F s.heap ow σ)(hds:Zm c s.heap ow σ vs ds)(e:Z9b ds=some lv)
  (hP:Z2 c F (Z7 c) (Zv c) s.heap ow s (.ok (lv,none) σ) Q E):wpAny (MD c) A (call (.builtin "max") vs) Q E s:=by
 unfold Z9b at e
 cases h2:two? ds with
 |some p=>
  rw[h2] at e
  obtain ⟨i,t,j,u,rfl,e'⟩:=hds.int2 h2 e
  obtain rfl:=Option.some.inj e'
  refine Zn (max_two_ints hh fun h' tk hk hs=>hP.valH hA hk hs ?_)
  split
  ·exact .int _ _
  ·exact .int _ _
 |none=>
  rw[h2] at e
  obtain ⟨a,xs,rfl,hd,e'⟩:=hds.list1 e
  obtain ⟨ns,hns,e2⟩:=Option.bind_eq_some_iff.mp e'
  obtain rfl:=Vh hns
  obtain ⟨vs',g1,hi⟩:=hd.ints
  cases ns with
  |nil=>exact Z3 e2
  |cons m r=>
   obtain rfl:=Option.some.inj e2
   obtain ⟨xs,ex,h0,hM⟩:=Z64 hi g1
   rw[ex] at g1
   refine Zn (max_intList hh g1 h0 fun v h' tk hv' hk hs=>?_)
   obtain ⟨t,rfl⟩:=intItems_at hv'
   rw[hM]
   exact hP.valH hA hk hs (.int _ _)
theorem Z1S{vs}{ds}{lv}(hh:A.handled=none)(hA:Act c F s.heap ow σ)(hds:Zm c s.heap ow σ vs ds)(e:ZaW ds=some lv)
  (hP:Z2 c F (Z7 c) (Zv c) s.heap ow s (.ok (lv,none) σ) Q E):wpAny (MD c) A (call (.builtin "sum") vs) Q E s:=by
 refine gG fun G gk=>?_
 obtain ⟨a,xs,rfl,hd,e'⟩:=hds.list1 e
 obtain ⟨ns,hns,rfl⟩:=Option.map_eq_some_iff.mp e'
 refine gk ?_
 obtain rfl:=Vh hns
 refine gG fun G gk=>?_
 obtain ⟨vs',g1,hi⟩:=hd.ints
 obtain ⟨xs,ex⟩:=hi.allInts.items
 refine gk ?_
 have hns':ns=xs.toList.map (fun O=>O.1):=by rw[<-hi.numsOf,<-nums_intItems,<-ex]
 rw[ex] at g1
 refine Zn (sum_intListG hh g1 fun h' tk t' hk hs=>?_)
 rw[preSum_eq,List.take_of_length_le (by simp),<-hns']
 exact hP.valH hA hk hs (.int _ _)
theorem Jq{vs}{ds}{lv}(hA:Act c F s.heap ow σ)(hds:Zm c s.heap ow σ vs ds)(e:Z2x ds=some lv)
  (hP:Z2 c F (Z7 c) (Zv c) s.heap ow s (.ok (lv,none) σ) Q E):wpAny (MD c) A (call (.builtin "sorted") vs) Q E s:=by
 refine gG fun G gk=>?_
 obtain ⟨a,xs,rfl,hd,e'⟩:=hds.list1 e
 obtain ⟨ns,hns,e2⟩:=Option.bind_eq_some_iff.mp e'
 refine gk ?_
 obtain rfl:=WA hns
 obtain ⟨h8,rfl⟩:=ZN e2
 obtain ⟨vs',g1,hi⟩:=hd.strs
 have hl:=hi.len_eq
 refine Zn (sorted_strs g1 hi (by rw[hl];lia) fun out ss' o1 o2 o3 hs=>?_)
 have:ss'=W6 ns:=WM (o2.trans (Xw ns).symm) (KV o3) (W1 ns)
 subst this
 obtain ⟨k,hk⟩:=sortedAll_at s.heap vs' out
 obtain ⟨r1,r2⟩:=X3.of_strs (c:=c) (ow:=ow) (h:=s.heap) o1
 refine hP.newList (tk:=s.toks) hA (Nat.le_succ _) (Heap.lt_size hk) (fun b o e=>sortedAll_old e) hk (by simpa using r1) ?_ fun i v d e1 e2=>r2 i v d (by simpa using e1) e2
 rw[List.length_map,(Xw ns).length_eq]
 exact Nat.le_trans h8 (by decide)
theorem Z1T{vs}{ds}{lv}(hA:Act c F s.heap ow σ)(hds:Zm c s.heap ow σ vs ds)(e:ZaV ds=some lv)
  (hP:Z2 c F (Z7 c) (Zv c) s.heap ow s (.ok (lv,none) σ) Q E):wpAny (MD c) A (call (.type "str") vs) Q E s:=by
 obtain ⟨d,rfl,e'⟩:=YG e
 obtain ⟨v,rfl,hv⟩:=hds.one
 cases hi:d.i? with
 |some i=>
  rw[hi] at e'
  obtain ⟨t,rfl⟩:=KW hv hi
  obtain ⟨hb,rfl⟩:=ZN e'
  exact P.str_of_int (Z7Z hb) (hP.val (tk:=s.toks+1) hA (.str _ _))
 |none=>
  rw[hi] at e'
  obtain ⟨x,hx,rfl⟩:=Option.map_eq_some_iff.mp e'
  rw[D.s?_of hx] at hv
  obtain ⟨t,rfl⟩:=hv.out
  exact P.str_of_str (hP.val (tk:=s.toks) hA (.str _ _))
theorem Z0N{vs}{ds}{lv}(hh:A.handled=none)(hA:Act c F s.heap ow σ)(hds:Zm c s.heap ow σ vs ds)(e:Z8v ds=some lv)
  (hP:Z2 c F (Z7 c) (Zv c) s.heap ow s (.ok (lv,none) σ) Q E):wpAny (MD c) A (call (.type "list") vs) Q E s:=by
 obtain ⟨d,rfl,e'⟩:=YG e
 obtain ⟨v,rfl,hv⟩:=hds.one
 cases hl:d.l? with
 |some xs=>
  rw[hl] at e'
  obtain rfl:=Option.some.inj e'
  rw[D.l?_of hl] at hv
  obtain ⟨a,rfl,O,hd⟩:=hv.out
  obtain ⟨vs',n,g1,g2,g3,g4⟩:=Y6.isL hd
  refine Zn (call_list_seq a (.inl rfl) g1 rfl rfl (fun h' c' hk hn hs=>?_) (by rw[g2];exact Nat.le_trans g3 YM))
  exact hP.newList (tk:=s.toks) hA (Nat.le_refl _) (Heap.lt_size hn) hk hn g2 g3 g4
 |none=>
  rw[hl] at e'
  obtain ⟨⟨i,j⟩,hp,e2⟩:=Option.bind_eq_some_iff.mp e'
  obtain ⟨hb,rfl⟩:=ZN e2
  rw[D.r?_of hp] at hv
  refine gG fun G gk=>?_
  obtain ⟨a,ob,rfl,hg,⟨t1,t2,t3,rfl⟩,h1,h2⟩:=hv.out
  refine gk ?_
  refine Zn (call_list_range (n:=(j - i).toNat) hh hg ?_ ?_ ?_ fun h' tk acc c' hk hn hacc hs=>?_)
  ·unfold LIM at h1 h2
   exact small_one (by lia) (by lia) (by lia) (by lia)
  ·exact rangeSize_nat i j
  ·unfold LIM at hb;lia
  ·obtain ⟨q1,q2⟩:=hacc
   refine hP.newList (tk:=tk) hA (Nat.le_refl _) (Heap.lt_size hn) hk hn (by rw[X5];exact q1) (by rw[X5];lia) fun k v d e1 e2=>?_
   have hk':k < (j - i).toNat:=by have:=(List.getElem?_eq_some_iff.mp e2).1;rwa [X5] at this
   simp only[Zi,List.getElem?_map,List.getElem?_range hk',Option.map_some,Option.some.injEq] at e2
   subst e2
   obtain ⟨t,rfl⟩:=q2 k v e1
   rw[Int.mul_one]
   exact .int _ _
theorem KY{vs}{ds}{lv}(hA:Act c F s.heap ow σ)(hds:Zm c s.heap ow σ vs ds)(e:Z1m ds=some lv)
  (hP:Z2 c F (Z7 c) (Zv c) s.heap ow s (.ok (lv,none) σ) Q E):wpAny (MD c) A (call (.type "range") vs) Q E s:=by
 unfold Z1m at e
 cases h2:two? ds with
 |some p=>
  rw[h2] at e
  refine gG fun G gk=>?_
  obtain ⟨i,t,j,u,rfl,e'⟩:=hds.int2 h2 e
  obtain ⟨hb,rfl⟩:=ZN e'
  refine gk ?_
  refine call_range_2 (hP.newFr (tk:=s.toks+1) hA (Nat.le_refl _) (by rw[Heap.size_push];exact Nat.lt_succ_self _) (fun b o e=>Heap.get?_push_of_some _ e) fun ow' O hw=>?_)
  exact .rng hw (Heap.get?_push_size _ rfl) ⟨_,_,_,rfl⟩ hb.1 hb.2
 |none=>
  rw[h2] at e
  refine gG fun G gk=>?_
  obtain ⟨j,t,rfl,e'⟩:=hds.int1' e
  obtain ⟨hb,rfl⟩:=ZN e'
  refine gk ?_
  refine call_range_1 (hP.newFr (tk:=s.toks+1+1) hA (Nat.le_refl _) (by rw[Heap.size_push];exact Nat.lt_succ_self _) (fun b o e=>Heap.get?_push_of_some _ e) fun ow' O hw=>?_)
  exact .rng hw (Heap.get?_push_size _ rfl) ⟨_,_,_,rfl⟩ (by decide) hb
theorem Z1U{vs}{ds}{lv}(hA:Act c F s.heap ow σ)(hds:Zm c s.heap ow σ vs ds)(e:ZaX ds=some lv)
  (hP:Z2 c F (Z7 c) (Zv c) s.heap ow s (.ok (lv,none) σ) Q E):wpAny (MD c) A (call (.type "int") vs) Q E s:=by
 obtain ⟨i,t,rfl,e'⟩:=hds.int1' e
 obtain rfl:=Option.some.inj e'
 exact call_int_int (hP.val (tk:=s.toks) hA (.int _ _))
theorem Z3P{f}{fv}{vs}{ds}{lv}(hh:A.handled=none)(hf:Wl f=some fv)(hA:Act c F s.heap ow σ)(hds:Zm c s.heap ow σ vs ds)(e:blt f ds=some lv)
  (hP:Z2 c F (Z7 c) (Zv c) s.heap ow s (.ok (lv,none) σ) Q E):wpAny (MD c) A (call fv vs) Q E s:=by
 unfold blt at e
 unfold Wl at hf
 by_cases f1:f="abs"
 ·rw[if_pos f1] at e hf;injection hf with hf;subst hf;exact Z1Q hA hds e hP
 rw[if_neg f1] at e hf
 by_cases f2:f="max"
 ·rw[if_pos f2] at e hf;injection hf with hf;subst hf;exact Z1R hh hA hds e hP
 rw[if_neg f2] at e hf
 by_cases f3:f="sum"
 ·rw[if_pos f3] at e hf;injection hf with hf;subst hf;exact Z1S hh hA hds e hP
 rw[if_neg f3] at e hf
 by_cases f4:f="sorted"
 ·rw[if_pos f4] at e hf;injection hf with hf;subst hf;exact Jq hA hds e hP
 rw[if_neg f4] at e hf
 by_cases f5:f="str"
 ·rw[if_pos f5] at e hf;injection hf with hf;subst hf;exact Z1T hA hds e hP
 rw[if_neg f5] at e hf
 by_cases f6:f="list"
 ·rw[if_pos f6] at e hf;injection hf with hf;subst hf;exact Z0N hh hA hds e hP
 rw[if_neg f6] at e hf
 by_cases f7:f="range"
 ·rw[if_pos f7] at e hf;injection hf with hf;subst hf;exact KY hA hds e hP
 rw[if_neg f7] at e hf
 by_cases f8:f="int"
 ·rw[if_pos f8] at e hf;injection hf with hf;subst hf;exact Z1U hA hds e hP
 rw[if_neg f8] at hf
 exact Z3 hf
end NZ.Internal
namespace NZ.Internal
open PySem PySem.Calls PyProof.Rows PySem.W
noncomputable def Z65:Stmt->Option DefRec:=fun O=>match O with
 |.FunctionDef name a b [] none [] scope O U pos=>some ⟨name,a,b,scope,pos⟩
 |O=>none
noncomputable def WN(i:Nat):Option DefRec:=(PR[i]?).bind Z65
noncomputable def ZdI:List Nat:=(List.range 111).filter fun i=>((PR[i]?).bind Z65).any fun d=>(W4.map (fun O=>O.1)).contains d.name
noncomputable def WB(a:Arguments):Bool:=a.posonlyargs.isEmpty&&a.vararg.isNone&&a.kwonlyargs.isEmpty&&a.kwarg.isNone&&a.defaults.isEmpty&&decide (a.args.map (fun O=>O.arg)).Nodup
noncomputable def Y0(a:Scope):Bool:=a.kind == .function&&!a.isCoroutine&&!a.isGenerator
noncomputable def Z0O(p:Str × Nat):Bool:=(WN p.2).any fun d=>d.name == p.1&&WB d.params&&Y0 d.scope
noncomputable def Z1V(f:Str):Option DefRec:=(recsOf PRG).find? fun d=>d.name == f
theorem Z1W:W4.all Z0O=true:=by kernel_rfl
theorem Z66:W4.map (fun p=>Z1V p.1)=W4.map (fun p=>WN p.2):=by kernel_rfl
end NZ.Internal
namespace NZ.Internal
open PySem PySem.Calls PyProof.Rows PySem.W
variable {c:Cx}{ow:Z5}{A:Around}{F:Frm}{s:Shared}{σ:St}{E:Value->Shared->Prop}
theorem Act.after{h h'}{ow'}{pl'}(hA:Act c F h ow σ)(hsz:h.objs.size<=h'.objs.size)
  (hp:∀ a o,h.get? a=some o->ow a≠.poolP->ow a≠.poolC->∃ o',h'.get? a=some o'/\Sim o o'/\(a < c.n₀->o'=o)) (h0:∀ a o,c.h₀.get? a=some o->h'.get? a=some o)
  (ho:∀ a,a < h.objs.size->ow' a=ow a) (hnew:∀ a,h'.objs.size<=a->ow' a=.foreign) (hpl:XS c h' ow' pl') (hfr:YX c h' F.frames) :
  Act c F h' ow' {σ with pl:=pl'}/\Z7 c h ow h' ow':=by
 have hp':∀ a o,h.get? a=some o->ow a≠.poolP->ow a≠.poolC->∃ o',h'.get? a=some o'/\Sim o o':=fun a o e n1 n2=>let ⟨o',e',s,_⟩:=hp a o e n1 n2;⟨o',e',s⟩
 have le:YF ow ow':=fun a=>by
  by_cases q:a < h.objs.size
  ·rw[ho a q];exact ⟨id,id,id⟩
  ·have:=hA.new a (Nat.le_of_not_lt q);rw[this];exact ⟨(nomatch ·),(nomatch ·),(nomatch ·)⟩
 refine ⟨⟨⟨Nat.le_trans hA.pres.1 hsz,fun a o e n1 n2=>?_⟩,h0,hA.n0,hnew,fun a ha=>?_,hpl,hfr,hA.head,hA.ok,?_⟩,⟨hsz,hp⟩,fun a ha=>?_,fun o O=>.inl fun a ha e=>by rw[ho a ha];exact e⟩
 ·have ha:=Nat.lt_of_lt_of_le (Heap.lt_size e) hA.pres.1
  rw[ho a ha] at n1 n2
  refine gG fun G gk=>?_
  obtain ⟨o2_,e2_,s2_,k2_⟩:=hA.pres.2 a o e n1 n2
  obtain ⟨o3_,e3_,s3_,k3_⟩:=hp a o2_ e2_ n1 n2
  refine gk ?_
  exact ⟨o3_,e3_,s2_.trans s3_,fun q=>(k3_ q).trans (k2_ q)⟩
 ·rw[ho a (Nat.lt_of_lt_of_le ha hA.pres.1)];exact hA.fix a ha
 ·have S:=hA.scp
  generalize F.cenv=ww at S
  induction ww with
  |none=>
   obtain ⟨s1,s2,m,s3⟩:=S
   exact ⟨s1,s2,m,s3.grow hp' ho hA.new⟩
  |some ce=>
   obtain ⟨mf,m,s1,s2⟩:=S
   have z:=s2.grow (h':=h') hp' le (by rw[ho _ s2.ns.lt];exact s2.own)
   exact ⟨mf,m,s1.grow hp' ho hA.new,⟨z.ns,z.nsh,z.low,z.own,z.ne,z.nec,z.frame,z.link,z.loc,z.vars⟩⟩
 ·rw[ho a ha];exact ⟨id,Iff.rfl,Iff.rfl,id⟩
noncomputable def hid(ow:Z5):Z5:=fun a=>if Zx (ow a) then .foreign else ow a
theorem Z67(ow)(a):Zx (hid ow a)=false:=by
 unfold hid
 split
 ·rfl
 ·rename _=>q;simpa using q
theorem UK{ow}{a}:hid ow a=.frozen↔ow a=.frozen:=by
 unfold hid
 split
 ·rename _=>q;exact ⟨nofun,fun e=>by rw[e] at q;cases q⟩
 ·exact Iff.rfl
theorem XH{ow}{a}:hid ow a=.poolP↔ow a=.poolP:=by
 unfold hid
 split
 ·rename _=>q;exact ⟨nofun,fun e=>by rw[e] at q;cases q⟩
 ·exact Iff.rfl
theorem XI{ow}{a}:hid ow a=.poolC↔ow a=.poolC:=by
 unfold hid
 split
 ·rename _=>q;exact ⟨nofun,fun e=>by rw[e] at q;exact Z4 q⟩
 ·exact Iff.rfl
theorem Z0P{ow}{a}(e:ow a=.foreign):hid ow a=.foreign:=by unfold hid;rw[e];rfl
theorem Zan(ow):YF ow (hid ow):=fun O=>⟨UK.mpr,XH.mpr,XI.mpr⟩
noncomputable def back(n:Nat)(ow ow2_:Z5)(o:Own):Z5:=fun a=>if a < n then ow a else if ow2_ a=o then .tmp else if Zx (ow2_ a) then .foreign else ow2_ a
theorem Z68{n}{ow ow2_}{o}{a}(h:a < n):back n ow ow2_ o a=ow a:=if_pos h
structure UL(n:Nat)(ow ow2_:Z5):Prop where
 fix:∀ a,a < n->ow2_ a=hid ow a
theorem Z81{n}{ow ow2_}{o}(hb:UL n ow ow2_)(ho:Zx o=true):YF ow2_ (back n ow ow2_ o):=fun a=>by
 unfold back
 by_cases q:a < n
 ·rw[if_pos q,hb.fix a q];exact ⟨UK.mp,XH.mp,XI.mp⟩
 ·rw[if_neg q]
  by_cases p:ow2_ a=o
  ·rw[if_pos p,p];exact ⟨(by rintro rfl;exact Z4 ho),(by rintro rfl;cases ho),(by rintro rfl;cases ho)⟩
  ·rw[if_neg p]
   by_cases r:Zx (ow2_ a)=true
   ·rw[if_pos r];exact ⟨(fun e=>by rw[e] at r;exact Z4 r),(fun e=>by rw[e] at r;cases r),(fun e=>by rw[e] at r;cases r)⟩
   ·rw[if_neg r];exact ⟨id,id,id⟩
theorem Z3Q{n}{ow ow2_}{o}(hb:UL n ow ow2_)(ho:Zx o=true)(a):(back n ow ow2_ o a=.poolP↔ow2_ a=.poolP)/\(back n ow ow2_ o a=.poolC↔ow2_ a=.poolC):=by
 unfold back
 by_cases q:a < n
 ·rw[if_pos q,hb.fix a q];exact ⟨XH.symm,XI.symm⟩
 ·rw[if_neg q]
  by_cases p:ow2_ a=o
  ·rw[if_pos p,p];exact ⟨⟨nofun,(by rintro rfl;cases ho)⟩,⟨nofun,(by rintro rfl;cases ho)⟩⟩
  ·rw[if_neg p]
   by_cases r:Zx (ow2_ a)=true
   ·rw[if_pos r];exact ⟨⟨nofun,fun e=>by rw[e] at r;cases r⟩,⟨nofun,fun e=>by rw[e] at r;cases r⟩⟩
   ·rw[if_neg r];exact ⟨Iff.rfl,Iff.rfl⟩
theorem ZK.back{h}{n}{ow ow2_}{o}{v}{lv}(x:ZK c h ow2_ o v lv)(hb:UL n ow ow2_)(ho:Zx o=true):ZK c h (Internal.back n ow ow2_ o) .tmp v lv:=
 x.mono c (fun O ob O e=>⟨ob,e,.refl _⟩) (fun O ob O e=>⟨ob,e,.refl _⟩) (Z81 hb ho) fun a e O=>by
  have hn:¬ a < n:=fun q=>by
   have:=hb.fix a q
   rw[e] at this
   have z:=Z67 ow a
   rw[<-this,ho] at z;exact nomatch z
  unfold Internal.back;rw[if_neg hn,if_pos e]
theorem Act.return{h h2_}{ow ow2_}{σ q7}{F'}{e}{o}(hA:Act c F h ow σ)(h2:Act c F' h2_ ow2_ q7)(hb:F'.hb=h)(hw:F'.owb=hid ow)(hfr:F'.frames=e::F.frames)(ho:Zx o=true) :
  Act c F h2_ (back h.objs.size ow ow2_ o) {σ with pl:=q7.pl}/\Z7 c h ow h2_ (back h.objs.size ow ow2_ o)/\UL h.objs.size ow ow2_:=by
 have hbk:UL h.objs.size ow ow2_:=⟨fun a ha=>by rw[h2.fix a (by rw[hb];exact ha),hw]⟩
 have hpr:=h2.pres
 rw[hb] at hpr
 obtain ⟨a1,a2⟩:=hA.after (pl':=q7.pl) (ow':=back h.objs.size ow ow2_ o) hpr.1 (fun a ob eb n1 n2=>hpr.2 a ob eb (by rw[hbk.fix a (Heap.lt_size eb)];exact fun q=>n1 (XH.mp q)) (by rw[hbk.fix a (Heap.lt_size eb)];exact fun q=>n2 (XI.mp q)))
  h2.h0 (fun a ha=>Z68 ha) (fun a ha=>by
   unfold back
   rw[if_neg (Nat.not_lt.mpr (Nat.le_trans hpr.1 ha)),h2.new a ha]
   rw[if_neg (by rintro rfl;exact Z4 ho)]
   rfl) (h2.pool.grow (fun O O e O=>e) (Z3Q hbk ho)) (fun x hx=>h2.frames x (by rw[hfr];exact List.mem_cons_of_mem _ hx))
 exact ⟨a1,a2,hbk⟩
end NZ.Internal
namespace NZ.Internal
open PySem PySem.Calls PyProof.Rows PySem.W
variable {c:Cx}{ow:Z5}{A:Around}{F:Frm}{M:Model}{s:Shared}{σ:St}{E:Value->Shared->Prop}
structure Gnd(c:Cx)(h:Heap)(ow:Z5)(pl:Option Z8)(fr:List Env):Prop where
 h0:∀ a o,c.h₀.get? a=some o->h.get? a=some o
 n0:c.n₀<=h.objs.size
 new:∀ a,h.objs.size<=a->ow a=.foreign
 pool:XS c h ow pl
 frames:YX c h fr
theorem Act.gnd{h}(hA:Act c F h ow σ):Gnd c h ow σ.pl F.frames:=⟨hA.h0,Nat.le_trans hA.n0 hA.pres.1,hA.new,hA.pool,hA.frames⟩
noncomputable def Xx(d:DefRec)(L a:Addr)(code:Value):Env:=newEnv d.scope L mainGlobals (cellsFrom (L+1) d.scope.names []) (d.name++".<locals>.") (some a) code none builtinsNs
noncomputable def Vy(env:Env)(hb:Heap)(ow:Z5)(fr:List Env):Frm:=⟨env,none,hb,hid ow,env::fr⟩
noncomputable def Xy(d:DefRec):List Str:=d.params.args.map (fun O=>O.arg)
noncomputable def KZ(sc:Scope)(x:Str):Bool:=x != ("shared":Str)&&(sc.names.lookup x == some .local||sc.names.lookup x == some .cell)
theorem Xc:∀ (names:List (Str × NameKind)) (h:Heap),h.objs.size<=(pushCells h names).objs.size:=fun O U=>match O,U with
 |[],O=>Nat.le_refl _
 |(O,kind)::r,h=>by
  unfold pushCells
  split
  ·have:=Xc r (h.push {cls:=.type "cell",data:=.cell none})
   rw[Heap.size_push] at this;lia
  ·exact Xc r h
theorem Z3R{d}{L a}{code}{x}(h:KZ d.scope x=true):Wh (Xx d L a code) x:=by
 unfold KZ at h
 simp only[Bool.and_eq_true,Bool.or_eq_true] at h
 refine ⟨by simpa using h.1,?_⟩
 rcases h.2 with q|q
 ·have q':d.scope.names.lookup x=some .local:=by simpa using q
  exact .inl q'
 ·have q':d.scope.names.lookup x=some .cell:=by simpa using q
  exact .inr ⟨q',cellsFrom_some _ _ _ (.inl q')⟩
theorem Zao{α:Type}{l:List (Str × α)}{n}{v:α}(h:l.lookup n=some v):(n,v)∈l:=mem_of_lookup h
theorem Z2.setvs_nil(xs)(vs):YU xs [] vs=vs:=by cases xs<;>rfl
theorem Z1X{F}(hF:FOk F)(hcn:F.cenv=none)(f:Str × Value->PUnit->Sem (ForInStep PUnit))(hf:∀ n v u,f (n,v) u=(do storeName F.env n v;pure (.yield ⟨⟩)))(xs) :
  ∀ (vs:List Value) (ds:List D) (vars:Zc) (s:Shared) (ow:Z5) (Q:PUnit->Shared->Prop),xs.length=vs.length->(∀ x∈xs,Wh F.fenv x)->Zm c s.heap ow ⟨vars,[],[],none⟩ vs ds->∀ pl,Act c F s.heap ow ⟨vars,[],[],pl⟩ ->
   (∀ h ow' tk,Act c F h ow' ⟨YU xs ds vars,[],[],pl⟩->Q ⟨⟩ {s with heap:=h,toks:=tk})->wpAny M A (forIn (xs.zip vs) ⟨⟩ f) Q E s:=by
 induction xs with
 |nil=>
  intro vs ds vars s ow Q O O O pl hA hQ
  simp only[List.zip_nil_left,List.forIn_nil]
  exact wpAny_pure (hQ s.heap ow s.toks (by cases ds<;>exact hA))
 |cons x xs ih=>
  intro vs ds vars s ow Q hl hx hr pl hA hQ
  cases vs with
  |nil=>exact nomatch hl
  |cons v vs=>
   obtain ⟨hlen,hr⟩:=hr
   induction ds with
   |nil=>exact nomatch hlen
   |cons d ds=>
    rw[List.zip_cons_cons,List.forIn_cons,hf]
    refine wpAny_bind (wpAny_bind (JW (σ:=⟨vars,[],[],pl⟩) (lv:=.fr d) hF hA hcn (hx x List.mem_cons_self) (hr 0 v d rfl rfl) fun h' ow' tk hA' hS=>?_))
    refine wpAny_pure (ih vs ds (ZA x (.fr d) vars) _ ow' Q (Nat.succ.inj hl) (fun y hy=>hx y (List.mem_cons_of_mem _ hy)) ⟨Nat.succ.inj hlen,fun i v' d' e1 e2=>?_⟩ pl hA' fun h ow2_ tk2 hA2=>hQ h ow2_ tk2 hA2)
    exact (hr (i+1) v' d' e1 e2).mono c (fun a o hw e=>(hS.2.1 a (Heap.lt_size e) (.inl hw)).2 o e) hS.2.2
theorem Z69{ow}(a):(hid ow a=.poolP↔ow a=.poolP)/\(hid ow a=.poolC↔ow a=.poolC):=⟨XH,XI⟩
theorem Z3S{h}{pl}{fr}{d}{a}{code}(hG:Gnd c h ow pl fr)(hsc:Y0 d.scope=true) :
  Act c (Vy (Xx d h.objs.size a code) h ow fr) (pushCells (h.push {cls:=.type "frame",data:=.dict #[]}) d.scope.names) (hid ow) ⟨[],[],[],pl⟩:=by
 have hk:d.scope.kind=.function:=by
  unfold Y0 at hsc
  rw[Bool.and_eq_true,Bool.and_eq_true] at hsc
  simpa using hsc.1.1
 have keep:∀ b o,h.get? b=some o->(pushCells (h.push {cls:=.type "frame",data:=.dict #[]}) d.scope.names).get? b=some o:=fun b o e=>pushCells_keeps _ _ b o (Heap.get?_push_of_some _ e)
 have hsz:h.objs.size+1<=(pushCells (h.push {cls:=.type "frame",data:=.dict #[]}) d.scope.names).objs.size:=by
  have:=Xc d.scope.names (h.push {cls:=.type "frame",data:=.dict #[]})
  rwa [Heap.size_push] at this
 have ok:=cellsFrom_ok d.scope.names (h.push {cls:=.type "frame",data:=.dict #[]}) (h.objs.size+1) [] ⟨fun O O hm=>(nomatch hm),List.Pairwise.nil⟩ (by rw[Heap.size_push];exact Nat.le_refl _)
 rw[Heap.size_push] at ok
 have fo:∀ b,h.objs.size<=b->hid ow b=.foreign:=fun b hb=>Z0P (hG.new b hb)
 have hok:Z0F (Xx d h.objs.size a code):=⟨hk,rfl,rfl,fun x e=>cellsFrom_some _ _ _ (.inl e)⟩
 refine ⟨.of_keeps (by show h.objs.size<=_;lia) keep,fun b o e=>keep b o (hG.h0 b o e),hG.n0,fun b hb=>fo b (by lia),fun O O=>rfl,hG.pool.grow (fun b o e O=>keep b o e) Z69,fun e he=>?_,⟨_,_,rfl,rfl⟩,⟨hok,hok⟩,rfl,rfl,fun O=>none,?_⟩
 ·rcases List.mem_cons.mp he with rfl|he
  ·exact ⟨by rw[hok.kind];decide,h.objs.size,_,#[],0,rfl,pushCells_keeps _ _ _ _ (Heap.get?_push_size _ rfl),rfl,rfl,hG.n0⟩
  ·exact (hG.frames.sim fun b o O e O=>⟨o,keep b o e,.refl _⟩) e he
 ·refine ⟨(Heap.Ns.new h (.type "frame")).keeps (pushCells_keeps _ _),rfl,Nat.le_refl _,fo _ (Nat.le_refl _),fun x k e=>?_,fun x y k e1 e2=>?_,fun x lv e=>by exact Z3 e⟩
  ·obtain ⟨h1,h2⟩:=ok.empty x k (mem_of_lookup e)
   exact ⟨by show h.objs.size<=k;lia,Nat.ne_of_gt h2,fo k (by lia),none,h1⟩
  ·exact name_of_addr ok.apart (mem_of_lookup e1) (mem_of_lookup e2)
theorem K1(env)(h)(ow)(fr):FOk (Vy env h ow fr):=fun a=>Z67 ow a
theorem Z3T{pl}{fr}{d}{a}{code}{vs}{ds}{Q}(hG:Gnd c s.heap ow pl fr)(hsc:Y0 d.scope=true)(hn:∀ x∈Xy d,KZ d.scope x=true)
  (hl:(Xy d).length=vs.length) (hr:Zm c s.heap ow σ vs ds)
  (hQ:∀ h ow' tk,Act c (Vy (Xx d s.heap.objs.size a code) s.heap ow fr) h ow' ⟨YU (Xy d) ds [],[],[],pl⟩->Q (Xx d s.heap.objs.size a code) {s with heap:=h,toks:=tk}) :
  wpAny M A (newFunctionEnv d.scope mainGlobals [] ((Xy d).zip vs) (d.name++".<locals>.") (some a) code none builtinsNs) Q E s:=by
 simp only[newFunctionEnv,Option.isSome_none,Bool.false_eq_true,if_false]
 refine wpAny_bind (wpAny_alloc ?_)
 refine wpAny_bind (wpAny_layCells _ (fun name kind cells=>by cases hkc:kind == NameKind.cell<;>simp[hkc]) _ _ _ _ ?_)
 rw[show ({s with heap:=s.heap.push {cls:=.type "frame",data:=.dict #[]}}:Shared).heap.objs.size=s.heap.objs.size+1 from Heap.size_push ..]
 have hA:=Z3S (a:=a) (code:=code) hG hsc
 refine wpAny_bind (Z1X (F:=Vy (Xx d s.heap.objs.size a code) s.heap ow fr) (ow:=hid ow) (K1 _ _ _ _) rfl _ (fun O O O=>rfl) (Xy d) vs ds [] _ _ hl (fun x hx=>Z3R (hn x hx)) ⟨hr.1,fun i v d' e1 e2=>?_⟩ pl hA fun h ow' tk hA'=>wpAny_pure (hQ h ow' tk hA'))
 have r:=hr.2 i v d' e1 e2
 exact r.mono c (fun b o O e=>⟨o,pushCells_keeps _ _ b o (Heap.get?_push_of_some _ e),.refl _⟩) (Zan ow)
end NZ.Internal
namespace NZ.Internal
open PySem PySem.Calls PyProof.Rows PySem.W
variable {c:Cx}{ow:Z5}{A:Around}{F:Frm}{s:Shared}{σ:St}{E:Value->Shared->Prop}{I:Itp}{n m:Nat}
noncomputable def ZI(kd:Str->Option NameKind)(x:Str):Bool:=x != (".0":Str)&&!(x == ("__debug__":Str))&&(kd x == some .local||kd x == some .cell)
noncomputable def Ys(kd:Str->Option NameKind)(f:Str):Bool:=!(f == ("__debug__":Str))&&kd f == some .globalImplicit
noncomputable def Zz:Expr->Bool:=fun O=>match O with
 |.Starred O U=>false
 |O=>true
noncomputable def XW:Expr->Bool:=fun O=>match O with
 |.Set O U V=>false
 |O=>true
noncomputable def UM:Expr->Bool:=fun O=>match O with
 |.Call (.Name id O) [] [] U=>id != ("super":Str)
 |O=>true
noncomputable def Vl(names:List (Str × NameKind))(kd:Str->Option NameKind):List (Str × NameKind):=names.map fun (n,k)=>if (k == .free&&kd n == some .cell) then (n,.cell) else (n,k)
noncomputable def kdC(sc:Scope)(kd:Str->Option NameKind):Str->Option NameKind:=fun x=>(Vl sc.names kd).lookup x
noncomputable def U8(sc:Scope)(kd:Str->Option NameKind)(ts:List Str):Bool:=
 sc.kind == .function&&decide (sc.names.map (fun O=>O.1)).Nodup&&sc.names.all (fun p=>(p.2 == .local&&p.1 != ("shared":Str)&&p.1 != ("message":Str)&&(p.1 == (".0":Str)||ts.contains p.1))||(p.2 == .free&&kd p.1 == some .cell)||p.2 == .globalImplicit) &&
  ts.all (fun x=>sc.names.lookup x == some .local&&x != (".0":Str))
noncomputable def UN:Expr->Bool:=fun O=>match O with
 |.Name O U=>true
 |.Tuple es O U=>(names? es).isSome&&decide (names? es).toList.flatten.Nodup&&(2<=es.length&&es.length<=3)
 |O=>false
noncomputable abbrev OkT:=Bool->(Str->Option NameKind)->Expr->Bool
noncomputable def Z37(k:Option Expr):Bool:=(Z9f k).any fun s=>s != ("shared":Str)
theorem Z0Q{k}(h:Z37 k=true):∃ x a p,k=some (.Constant (.str x) a p)/\x≠("shared":Str):=by
 induction k with
 |none=>exact Z4 h
 |some e=>
  have h:(((Kr (bv e)).bind cs?).any fun s=>s != ("shared":Str))=true:=h
  cases q:(Kr (bv e)).bind cs? with
  |none=>rw[q] at h;exact Z4 h
  |some x=>
   rw[q] at h
   obtain ⟨k,h1,h2⟩:=Option.bind_eq_some_iff.mp q
   obtain ⟨a,p⟩:=VZ h1
   obtain rfl:=cs?_of h2
   exact ⟨x,a,p,rfl,bne_iff_ne.mp h⟩
noncomputable def Zap(ok:OkT)(cm:Bool)(kd:Str->Option NameKind)(ks:List (Option Expr))(es:List Expr):Bool:=es.all (ok cm kd)&&ks.length == es.length&&decide (ks.length<=10)&&ks.all Z37
noncomputable def UO(ok:OkT)(cm:Bool)(kd:Str->Option NameKind)(elt:Expr)(gens:List Comprehension)(sc:Scope):Bool:=
 match gv gens with
 |.one t it ifs=>!cm&&ok cm kd it&&XW it&&UN t&&U8 sc kd (ZE t)&&ifs.all (ok true (kdC sc kd))&&ifs.length<=1&&ok true (kdC sc kd) elt
 |.two t it t2 it2=>!cm&&ok cm kd it&&XW it&&UN t&&UN t2&&U8 sc kd (ZE t++ZE t2)&&ok true (kdC sc kd) it2&&XW it2&&ok true (kdC sc kd) elt
 |.bad O=>false
noncomputable def Z6a(ok:OkT)(cm:Bool)(kd:Str->Option NameKind)(args:List Expr):Bool:=
 match av args with
 |.isi e cl O=>ok cm kd e&&Ys kd cl
 |O=>false
noncomputable def Zaq(ok:OkT)(cm:Bool)(kd:Str->Option NameKind)(f:Str)(args:List Expr):Bool:=Ys kd f&&args.all Zz&&(if f="isinstance" then Z6a ok cm kd args else !VU f||args.all (ok cm kd))
noncomputable def Zcp(ok:OkT)(cm:Bool)(kd:Str->Option NameKind)(o:Expr)(q:Pos)(args:List Expr)(p:Pos):Bool:=ok cm kd o&&UM o&&args.all Zz&&args.all (ok cm kd)&&args.length < 30&&q.endLine == p.line
noncomputable def ZdJ(ok:OkT)(cm:Bool)(kd:Str->Option NameKind){e:Expr}(v:EV e):Bool:=by
 induction v with
 |con=>exact true
 |nam x O=>exact ZI kd x
 |and es O=>exact es.all (ok cm kd)
 |or es O=>exact es.all (ok cm kd)
 |bin l O r U=>exact ok cm kd l&&ok cm kd r
 |not e O=>exact ok cm kd e
 |neg e O=>exact ok cm kd e
 |ite t a b O=>exact ok cm kd t&&ok cm kd a&&ok cm kd b
 |dict ks es O=>exact Zap ok cm kd ks es
 |comp elt gens sc O=>exact UO ok cm kd elt gens sc
 |cmp l op r O=>exact ok cm kd l&&ok cm kd r&&!behindInMarks op r
 |cal f O args U=>exact Zaq ok cm kd f args
 |met o O q args p=>exact Zcp ok cm kd o q args p
 |atr o O U=>exact ok cm kd o&&UM o
 |to o e O U=>exact ok cm kd o&&ok cm kd e
 |«from» o e _ _=>exact ok cm kd o&&ok cm kd e
 |rev o=>exact ok cm kd o
 |sub o i O U=>exact ok cm kd o&&ok cm kd i
 |list es O=>exact es.all Zz&&es.all (ok cm kd)
 |tup es O U=>exact es.all Zz&&es.all (ok cm kd)
 |bad O=>exact false
noncomputable def Zar(ok:OkT)(cm:Bool)(kd:Str->Option NameKind)(e:Expr):Bool:=ZdJ ok cm kd (ev1 e)
noncomputable def okE:Nat->OkT:=fun O=>match O with
 |0=>fun O O O=>false
 |m+1=>Zar (okE m)
structure AOk(n:Nat)(A:Around)(F:Frm):Prop where
 handled:A.handled=none
 frames:A.frames=some F.frames
 depth:A.depth+n<=900
 units:A.units+10*n<=9000
theorem AOk.le(h:AOk n A F)(hm:m<=n):AOk m A F:=⟨h.handled,h.frames,Nat.le_trans (Nat.add_le_add_left hm _) h.depth,by have:=h.units;lia⟩
theorem AOk.line(h:AOk n A F):A.units < cLine:=by have:=h.units;unfold cLine;lia
def EvS(c:Cx)(I:Itp)(n:Nat):Prop:=∀ m e A F s ow σ E Q,okE m F.cenv.isSome F.env.kindOf e=true->AOk n A F->FOk F->Act c F s.heap ow σ ->
 Z2 c F (Z7 c) (Zv c) s.heap ow s (I.ev e σ) Q E->wpAny (MD c) A (eval e F.env) Q E s
def TrS(c:Cx)(I:Itp)(n:Nat):Prop:=∀ m e A F s ow σ E Q,okE m F.cenv.isSome F.env.kindOf e=true->AOk n A F->FOk F->Act c F s.heap ow σ ->
 Z2 c F (Z7 c) Jn s.heap ow s (tr I e σ) Q E->wpAny (MD c) A (isTrue e F.env (eval e F.env)) Q E s
theorem Vz{kd}{x}(h:ZI kd.kindOf x=true):Z1K kd x:=by
 unfold ZI at h
 simp only[Bool.and_eq_true,Bool.or_eq_true,bne_iff_ne,beq_iff_eq,Bool.not_eq_true'] at h
 exact ⟨h.1.1,h.1.2,h.2⟩
theorem Z3U{e}{es}{env}(h:Zz e=true):starEach (e::es) env=(false,eval e env)::starEach es env:=by
 cases e with
 |Starred=>exact Z4 h
 |_=>rfl
theorem UP{es}{env}(h:es.all Zz=true):starEach es env=es.map fun e=>(false,eval e env):=by
 induction es with
 |nil=>rfl
 |cons e es ih=>
  have h:(Zz e&&es.all Zz)=true:=h
  rw[Bool.and_eq_true] at h
  exact (Z3U h.1).trans (congrArg _ (ih h.2))
theorem ZZ{es}{env}{pos}(h:es.all Zz=true):backTo pos (starEach es env)=es.map fun e=>(false,eval e env):=by
 rw[UP h]
 unfold backTo
 rw[List.map_map]
 rfl
theorem Zk:∀ (h:Heap) (a:Z5) (h':Heap) (b:Z5),Z7 c h a h' b->Z7 c h a h' b:=fun O O O O x=>x
theorem Xd(hE:EvS c I n)(hA:AOk n A F)(hF:FOk F)(es):∀ (s:Shared) (ow:Z5) (σ:St) (Q:List Value->Shared->Prop),es.all (okE m F.cenv.isSome F.env.kindOf)=true->Act c F s.heap ow σ ->
  Z2 c F (Z7 c) (Zm c) s.heap ow s (Y3 I es σ) Q E->wpAny (MD c) A (spliced (es.map fun e=>(false,eval e F.env))) Q E s:=by
 induction es with
 |nil=>intro s ow σ Q O hAct hP;exact spliced_nil (hP [] s.heap ow s.toks hAct (.refl _ _) ⟨rfl,fun O O O e=>Z3 e⟩)
 |cons e es ih=>
  intro s ow σ Q ho hAct hP
  obtain ⟨h1,h2⟩:=b2 ho
  refine spliced_cons (hE m e A F s ow σ E _ h1 hA hF hAct (Z2.frzBind hF hP Z6 Zk fun d s1_ v h1_ ow1 tk1 hA1 hS1 hr hP1_=>?_))
  refine ih {s with heap:=h1_,toks:=tk1} ow1 s1_ _ h2 hA1 (Z2.bind hP1_ Z6 Zk fun ds q7 vs h2_ ow2_ tk2 O hA2 hS2 hrs hP2_=>?_)
  refine hP2_ (v::vs) h2_ ow2_ tk2 hA2 (.refl _ _) ⟨congrArg Nat.succ hrs.1,fun i v' d' e1 e2=>?_⟩
  induction i with
  |zero=>exact Option.some.inj e1▸Option.some.inj e2▸hr.step hS2 hA1.new
  |succ i=>exact hrs.2 i v' d' e1 e2
theorem Z00{f:Value}{l:List (Sem Value)}{Q:Args->Shared->Prop}{M:Model}(h:wpAny M A (spliced (l.map fun t=>(false,t))) (fun vs s'=>Q ⟨vs,[]⟩ s') E s):wpAny M A (evalArgs f true (l.map fun t=>(false,t)) []) Q E s:=by
 induction l with
 |nil=>
  unfold evalArgs
  refine wpAny_bind (wpAny_mono h (fun vs s' h'=>?_) fun O O x=>x)
  refine wpAny_holding ?_
  exact wpAny_bind (wpAny_pure (wpAny_bind (wpAny_pure (wpAny_pure h'))))
 |cons x l=>exact Calls.evalArgs_plain h
theorem Z01{l r}{op}{pos}{Q}(hE:EvS c I n)(hA:AOk n A F)(hF:FOk F)(h1:okE m F.cenv.isSome F.env.kindOf l=true)(h2:okE m F.cenv.isSome F.env.kindOf r=true)(hAct:Act c F s.heap ow σ)
  (hP:Z2 c F (Z7 c) (Zv c) s.heap ow s ((I.ev l σ).bind fun a σ=>(I.ev r σ).bind fun b σ=>(opt (XA op a.1.d b.1.d) σ).bind fun lv σ=>.ok (lv,none) σ) Q E):wpAny (MD c) A (eval (.BinOp l op r pos) F.env) Q E s:=by
 refine wpAny_BinOp (hE m l A F s ow σ E _ h1 hA hF hAct (Z2.bind hP Z6 Zk fun a s1_ va h1_ ow1 tk1 O hA1 hS1 hr hP1_=>?_))
 refine hE m r A F _ ow1 s1_ E _ h2 hA hF hA1 (Z2.bind hP1_ Z6 Zk fun b q7 vb h2_ ow2_ tk2 O hA2 hS2 hr2 hP2_=>?_)
 obtain ⟨lv,e,hP3⟩:=Z2.opt hP2_
 exact Z3J hA2 (hr.v.step hS2 hA1.new) hr2.v e hP3
theorem Z0R{l r}{op}{pos}{Q}(hE:EvS c I n)(hA:AOk n A F)(hF:FOk F)(h1:okE m F.cenv.isSome F.env.kindOf l=true)(h2:okE m F.cenv.isSome F.env.kindOf r=true)(hb:behindInMarks op r=false)(hAct:Act c F s.heap ow σ)
  (hP:Z2 c F (Z7 c) (Zv c) s.heap ow s ((I.ev l σ).bind fun a σ=>(I.ev r σ).bind fun b σ=>(opt (YT σ op a.1.d b.1.d) σ).bind fun b σ=>.ok (.fr (.bool b),none) σ) Q E):wpAny (MD c) A (eval (.Compare l [op] [r] pos) F.env) Q E s:=by
 refine wpAny_Compare1 (hE m l A F s ow σ E _ h1 hA hF hAct (Z2.bind hP Z6 Zk fun a s1_ va h1_ ow1 tk1 O hA1 hS1 hr hP1_=>?_)) hb
 refine hE m r A F _ ow1 s1_ E _ h2 hA hF hA1 (Z2.bind hP1_ Z6 Zk fun b q7 vb h2_ ow2_ tk2 O hA2 hS2 hr2 hP2_=>?_)
 obtain ⟨lv,e,hP3⟩:=Z2.opt hP2_
 exact JY (s:={s with heap:=h2_,toks:=tk2}) hA.line hA2 (hr.v.step hS2 hA1.new) hr2.v e hP3
theorem Z1Y{l r}{op}{pos}{whole}{Q}(hE:EvS c I n)(hA:AOk n A F)(hF:FOk F)(h1:okE m F.cenv.isSome F.env.kindOf l=true)(h2:okE m F.cenv.isSome F.env.kindOf r=true)(hb:behindInMarks op r=false)(hAct:Act c F s.heap ow σ)
  (hP:Z2 c F (Z7 c) Jn s.heap ow s ((I.ev l σ).bind fun a σ=>(I.ev r σ).bind fun b σ=>(opt (YT σ op a.1.d b.1.d) σ).bind fun b σ=>.ok b σ) Q E):wpAny (MD c) A (isTrue (.Compare l [op] [r] pos) F.env whole) Q E s:=by
 refine wpAny_isTrue_Compare1 (hE m l A F s ow σ E _ h1 hA hF hAct (Z2.bind hP Z6 Zk fun a s1_ va h1_ ow1 tk1 O hA1 hS1 hr hP1_=>?_)) hb
 refine hE m r A F _ ow1 s1_ E _ h2 hA hF hA1 (Z2.bind hP1_ Z6 Zk fun b q7 vb h2_ ow2_ tk2 O hA2 hS2 hr2 hP2_=>?_)
 obtain ⟨b',e,hP3⟩:=Z2.opt hP2_
 refine JY (s:={s with heap:=h2_,toks:=tk2}) hA.line hA2 (hr.v.step hS2 hA1.new) hr2.v e ?_
 intro v h3_ ow3_ tk3 hA3 hS3 hr3
 obtain rfl:=hr3.v.bool rfl
 exact wpAny_truthy_bool (hP3 b' h3_ ow3_ tk3 hA3 hS3 rfl)
theorem Z3V{t a b}{pos}{Q}(hT:TrS c I n)(hE:EvS c I n)(hA:AOk n A F)(hF:FOk F)(h1:okE m F.cenv.isSome F.env.kindOf t=true)(h2:okE m F.cenv.isSome F.env.kindOf a=true)(h3:okE m F.cenv.isSome F.env.kindOf b=true)(hAct:Act c F s.heap ow σ)
  (hP:Z2 c F (Z7 c) (Zv c) s.heap ow s ((tr I t σ).bind fun c σ=>if c then I.ev a σ else I.ev b σ) Q E):wpAny (MD c) A (eval (.IfExp t a b pos) F.env) Q E s:=by
 refine wpAny_IfExp (hT m t A F s ow σ E _ h1 hA hF hAct (Z2.bind hP Z6 Zk fun b1_ s1_ b2_ h1_ ow1 tk1 O hA1 hS1 hr hP1_=>?_))
 subst hr
 induction b2_ with
 |true=>exact hE m a A F _ ow1 s1_ E _ h2 hA hF hA1 hP1_
 |false=>exact hE m b A F _ ow1 s1_ E _ h3 hA hF hA1 hP1_
theorem Z82{e}{pos}{Q}(hE:EvS c I n)(hA:AOk n A F)(hF:FOk F)(h1:okE m F.cenv.isSome F.env.kindOf e=true)(hAct:Act c F s.heap ow σ)
  (hP:Z2 c F (Z7 c) (Zv c) s.heap ow s ((tr I e σ).bind fun b σ=>.ok (.fr (.bool (!b)),none) σ) Q E):wpAny (MD c) A (eval (.UnaryOp .Not e pos) F.env) Q E s:=by
 refine UnaryOp_ (hE m e A F s ow σ E _ h1 hA hF hAct ?_)
 have hP':Z2 c F (Z7 c) (Zv c) s.heap ow s ((I.ev e σ).bind fun r σ=>((opt (Zf r.1.d) σ).bind fun b σ=>.ok (.fr (.bool (!b)),none) σ)) Q E:=by
  unfold tr at hP
  cases h:I.ev e σ<;>rw[h] at hP<;>exact hP
 refine Z2.bind hP' Z6 Zk fun r s1_ v h1_ ow1 tk1 O hA1 hS1 hr hP1_=>?_
 obtain ⟨b,e,hP2_⟩:=Z2.opt hP1_
 refine not_of (X4 (ow:=ow1) hr.v e ?_)
 exact hP2_ (.bool (!b)) h1_ ow1 tk1 hA1 (.refl _ _) ⟨.bool _,nofun⟩
theorem UQ{a}{Q}{v}(hAct:Act c F s.heap ow σ)(hr:Zv c s.heap ow σ v a)(hP:Z2 c F (Z7 c) (Zv c) s.heap ow s (.ok a σ) Q E):Q v s:=
 hP v s.heap ow s.toks hAct (.refl _ _) hr
theorem Z83(hE:EvS c I n)(hA:AOk n A F)(hF:FOk F){pos}(es):∀ (s:Shared) (ow:Z5) (σ:St) (Q:Value->Shared->Prop),es.all (okE m F.cenv.isSome F.env.kindOf)=true->Act c F s.heap ow σ ->
  Z2 c F (Z7 c) (Zv c) s.heap ow s (Xh I es σ) Q E->wpAny (MD c) A (eval (.BoolOp .And es pos) F.env) Q E s:=by
 induction es with
 |nil=>intro O O O O O O hP;exact hP.elim
 |cons e es ih=>
  intro s ow σ Q ho hAct hP
  obtain ⟨h1,h2⟩:=b2 ho
  cases es with
  |nil=>exact BoolOp_one (hE m e A F s ow σ E _ h1 hA hF hAct hP)
  |cons e' es=>
   refine BoolOp_and (hE m e A F s ow σ E _ h1 hA hF hAct (Z2.bind (f:=fun v σ=>(opt (Zf v.1.d) σ).bind fun b σ=>if b then Xh I (e'::es) σ else .ok v σ) hP Z6 Zk fun r s1_ v h1_ ow1 tk1 O hA1 hS1 hr hP1_=>?_))
   obtain ⟨b,e1_,hP2_⟩:=Z2.opt hP1_
   refine X4 (ow:=ow1) hr.v e1_ ?_
   cases b with
   |true=>exact ih _ ow1 s1_ Q h2 hA1 hP2_
   |false=>exact UQ hA1 hr hP2_
theorem Zas(hE:EvS c I n)(hA:AOk n A F)(hF:FOk F){pos}(es):∀ (s:Shared) (ow:Z5) (σ:St) (Q:Value->Shared->Prop),es.all (okE m F.cenv.isSome F.env.kindOf)=true->Act c F s.heap ow σ ->
  Z2 c F (Z7 c) (Zv c) s.heap ow s (V2 I es σ) Q E->wpAny (MD c) A (eval (.BoolOp .Or es pos) F.env) Q E s:=by
 induction es with
 |nil=>intro O O O O O O hP;exact hP.elim
 |cons e es ih=>
  intro s ow σ Q ho hAct hP
  obtain ⟨h1,h2⟩:=b2 ho
  cases es with
  |nil=>exact BoolOp_one (hE m e A F s ow σ E _ h1 hA hF hAct hP)
  |cons e' es=>
   refine BoolOp_or (hE m e A F s ow σ E _ h1 hA hF hAct (Z2.bind (f:=fun v σ=>(opt (Zf v.1.d) σ).bind fun b σ=>if b then .ok v σ else V2 I (e'::es) σ) hP Z6 Zk fun r s1_ v h1_ ow1 tk1 O hA1 hS1 hr hP1_=>?_))
   obtain ⟨b,e1_,hP2_⟩:=Z2.opt hP1_
   refine X4 (ow:=ow1) hr.v e1_ ?_
   cases b with
   |false=>exact ih _ ow1 s1_ Q h2 hA1 hP2_
   |true=>exact UQ hA1 hr hP2_
theorem Zat(e e')(es)(σ):((Xh I (e::e'::es) σ).bind fun r σ=>opt (Zf r.1.d) σ)=(tr I e σ).bind fun b σ=>if b then ((Xh I (e'::es) σ).bind fun r σ=>opt (Zf r.1.d) σ) else .ok false σ:=by
 show (((I.ev e σ).bind fun v σ=>(opt (Zf v.1.d) σ).bind fun b σ=>if b then Xh I (e'::es) σ else .ok v σ).bind fun r σ=>opt (Zf r.1.d) σ)=((I.ev e σ).bind fun r σ=>opt (Zf r.1.d) σ).bind fun b σ=>if b then ((Xh I (e'::es) σ).bind fun r σ=>opt (Zf r.1.d) σ) else .ok false σ
 cases I.ev e σ with
 |ok r σ=>
  show (((opt (Zf r.1.d) σ).bind fun b σ=>if b then Xh I (e'::es) σ else .ok r σ).bind fun r σ=>opt (Zf r.1.d) σ)=(opt (Zf r.1.d) σ).bind fun b σ=>if b then ((Xh I (e'::es) σ).bind fun r σ=>opt (Zf r.1.d) σ) else .ok false σ
  cases hb:Zf r.1.d with
  |none=>rfl
  |some b=>induction b with
   |true=>rfl
   |false=>exact congrArg (opt · σ) hb
 |_=>rfl
theorem Zau(hT:TrS c I n)(hA:AOk n A F)(hF:FOk F){pos}{whole}(es):∀ (s:Shared) (ow:Z5) (σ:St) (Q:Bool->Shared->Prop),es.all (okE m F.cenv.isSome F.env.kindOf)=true->Act c F s.heap ow σ ->
  Z2 c F (Z7 c) Jn s.heap ow s ((Xh I es σ).bind fun r σ=>opt (Zf r.1.d) σ) Q E->wpAny (MD c) A (isTrue (.BoolOp .And es pos) F.env whole) Q E s:=by
 induction es with
 |nil=>intro O O O O O O hP;exact hP.elim
 |cons e es ih=>
  intro s ow σ Q ho hAct hP
  obtain ⟨h1,h2⟩:=b2 ho
  cases es with
  |nil=>
   refine isTrue_and (hT m e A F s ow σ E _ h1 hA hF hAct (Z2.mono hP (fun b s' q=>?_) fun O O x=>x))
   induction b with
   |true=>exact isTrue_and_nil q
   |false=>exact q
  |cons e' es=>
   rw[Zat] at hP
   refine isTrue_and (hT m e A F s ow σ E _ h1 hA hF hAct (Z2.bind hP Z6 Zk fun b1_ s1_ b2_ h1_ ow1 tk1 O hA1 hS1 hr hP1_=>?_))
   obtain rfl:b2_=b1_:=hr
   cases b2_ with
   |true=>exact ih _ ow1 s1_ Q h2 hA1 hP1_
   |false=>exact hP1_ false h1_ ow1 tk1 hA1 (.refl _ _) rfl
theorem Zcq(e e')(es)(σ):((V2 I (e::e'::es) σ).bind fun r σ=>opt (Zf r.1.d) σ)=(tr I e σ).bind fun b σ=>if b then .ok true σ else ((V2 I (e'::es) σ).bind fun r σ=>opt (Zf r.1.d) σ):=by
 show (((I.ev e σ).bind fun v σ=>(opt (Zf v.1.d) σ).bind fun b σ=>if b then .ok v σ else V2 I (e'::es) σ).bind fun r σ=>opt (Zf r.1.d) σ)=((I.ev e σ).bind fun r σ=>opt (Zf r.1.d) σ).bind fun b σ=>if b then .ok true σ else ((V2 I (e'::es) σ).bind fun r σ=>opt (Zf r.1.d) σ)
 cases I.ev e σ with
 |ok r σ=>
  show (((opt (Zf r.1.d) σ).bind fun b σ=>if b then .ok r σ else V2 I (e'::es) σ).bind fun r σ=>opt (Zf r.1.d) σ)=(opt (Zf r.1.d) σ).bind fun b σ=>if b then .ok true σ else ((V2 I (e'::es) σ).bind fun r σ=>opt (Zf r.1.d) σ)
  cases hb:Zf r.1.d with
  |none=>rfl
  |some b=>induction b with
   |false=>rfl
   |true=>exact congrArg (opt · σ) hb
 |_=>rfl
theorem Zcr(hT:TrS c I n)(hA:AOk n A F)(hF:FOk F){pos}{whole}(es):∀ (s:Shared) (ow:Z5) (σ:St) (Q:Bool->Shared->Prop),es.all (okE m F.cenv.isSome F.env.kindOf)=true->Act c F s.heap ow σ ->
  Z2 c F (Z7 c) Jn s.heap ow s ((V2 I es σ).bind fun r σ=>opt (Zf r.1.d) σ) Q E->wpAny (MD c) A (isTrue (.BoolOp .Or es pos) F.env whole) Q E s:=by
 induction es with
 |nil=>intro O O O O O O hP;exact hP.elim
 |cons e es ih=>
  intro s ow σ Q ho hAct hP
  obtain ⟨h1,h2⟩:=b2 ho
  cases es with
  |nil=>
   refine isTrue_or (hT m e A F s ow σ E _ h1 hA hF hAct (Z2.mono hP (fun b s' q=>?_) fun O O x=>x))
   induction b with
   |false=>exact isTrue_or_nil q
   |true=>exact q
  |cons e' es=>
   rw[Zcq] at hP
   refine isTrue_or (hT m e A F s ow σ E _ h1 hA hF hAct (Z2.bind hP Z6 Zk fun b1_ s1_ b2_ h1_ ow1 tk1 O hA1 hS1 hr hP1_=>?_))
   obtain rfl:b2_=b1_:=hr
   cases b2_ with
   |false=>exact ih _ ow1 s1_ Q h2 hA1 hP1_
   |true=>exact hP1_ true h1_ ow1 tk1 hA1 (.refl _ _) rfl
theorem Z6b{e}{Q}(hw:isTrue e F.env (eval e F.env)=(do let v <-eval e F.env;standAt e.pos;holding [v] (truthy v)))(hev:∀ Q,Z2 c F (Z7 c) (Zv c) s.heap ow s (I.ev e σ) Q E->wpAny (MD c) A (eval e F.env) Q E s)
  (hP:Z2 c F (Z7 c) Jn s.heap ow s (tr I e σ) Q E):wpAny (MD c) A (isTrue e F.env (eval e F.env)) Q E s:=by
 refine isTrue_plain (hev _ (Z2.bind (R2:=Jn) hP Z6 Zk fun r s1_ v h1_ ow1 tk1 O hA1 hS1 hr hP1_=>?_)) hw
 cases hb:Zf r.1.d with
 |none=>rw[hb] at hP1_;exact hP1_.elim
 |some b=>
  rw[hb] at hP1_
  exact X4 (ow:=ow1) hr.v hb (hP1_ b h1_ ow1 tk1 hA1 (.refl _ _) rfl)
theorem YH{M}{x}{v}{pos}{Q}(hA:Act c F s.heap ow σ)(hk:Ys F.env.kindOf x=true)(hv:c.mg x=some v\/(c.mg x=none/\c.mb x=some v))(h:Q v s):wpAny M A (eval (.Name x pos) F.env) Q E s:=by
 unfold Ys at hk
 simp only[Bool.and_eq_true,Bool.not_eq_true',beq_iff_eq] at hk
 have okE:=hA.ok.2
 have hg:s.heap.Ns F.env.globals c.mg:=by rw[okE.globals];exact c.T.g.keeps hA.h0
 have hb:s.heap.Ns F.env.builtins c.mb:=by rw[okE.builtins];exact c.T.b.keeps hA.h0
 refine Name_function_global okE.kind hk.2 ?_ hk.1
 rcases hv with hv|⟨h1,h2⟩
 ·exact loadGlobal_global hg hv h
 ·exact loadGlobal_builtin hg h1 hb h2 h
def Z8Y(c:Cx)(fr:List Env)(s:Shared)(ow:Z5)(co:CO)(R:Result->Shared->Prop):Prop:=
 match co with
 |.ok lv pl'=>∀ F' e q7 v o h' ow2_ tk,Act c F' h' ow2_ q7->F'.hb=s.heap->F'.owb=hid ow->F'.frames=e::fr->q7.pl=pl'->Zx o=true->ZK c h' ow2_ o v lv->R (.ok (.ret v)) {s with heap:=h',toks:=tk}
 |.exc m pl'=>∀ F' e q7 x T h' ow2_ tk,Act c F' h' ow2_ q7->F'.hb=s.heap->F'.owb=hid ow->F'.frames=e::fr->q7.pl=pl'->Yn c h' x m (.ref T)->R (.error (.ref x)) {s with heap:=h',toks:=tk}
 |.stuck=>False
def Z0S(c:Cx)(I:Itp)(n:Nat):Prop:=∀ i d ds pl fr A s ow σ vs R a o pm code doc,WN i=some d->(∃ f,W4.lookup f=some i)->Gnd c s.heap ow pl fr->A.frames=some fr->A.handled=none->A.depth+n<=900->A.units+10*n<=9000 ->
 c.h₀.get? a=some o->o.data=.func (docDef d.name d.params d.body d.scope pm code doc)->c.h₀.CodeRec code d.name->Zm c s.heap ow σ vs ds ->
 Z8Y c fr s ow (I.call i ds pl) R->codeAny (MD c) A (.call (.ref a) ⟨vs,[]⟩) R s
structure Z6c(c:Cx):Prop where
 fns:∀ d∈recsOf PRG,∃ a o pm code doc,c.mg d.name=some (.ref a)/\c.h₀.get? a=some o/\o.data=.func (docDef d.name d.params d.body d.scope pm code doc)/\c.h₀.CodeRec code d.name
 blt:∀ f v,Wl f=some v->c.mg f=none/\c.mb f=some v
 len:c.mg "len"=none/\c.mb "len"=some (.builtin "len")
 isi:c.mg "isinstance"=none/\c.mb "isinstance"=some (.builtin "isinstance")
 vec:c.mg "Vector"=some (.ref c.CV)
 null:c.mg "Null"=some (.ref c.CN)
 ref:c.mg "Refusal"=some (.ref c.CR)
 lst:c.mg "list"=none/\c.mb "list"=some (.type "list")
theorem Z8Z{α:Type}:∀ {l:List (Str × α)} {x:Str} {v:α},l.lookup x=some v->(x,v)∈l:=mem_of_lookup
theorem Z1Z{f}{i}(h:W4.lookup f=some i):∃ d,WN i=some d/\d∈recsOf PRG/\d.name=f/\WB d.params=true/\Y0 d.scope=true:=by
 have hm:=mem_of_lookup h
 have h1:=List.all_eq_true.mp Z1W (f,i) hm
 unfold Z0O at h1
 obtain ⟨d,hd,h1⟩:=any_some h1
 simp only[Bool.and_eq_true,beq_iff_eq] at h1
 have h2:Z1V f=WN i:=by
  obtain ⟨k,hk,e⟩:=List.mem_iff_getElem.mp hm
  have e2:(W4.map (fun p=>Z1V p.1))[k]?=(W4.map (fun p=>WN p.2))[k]?:=by rw[Z66]
  simp only[List.getElem?_map,List.getElem?_map,List.getElem?_eq_getElem hk,e] at e2
  simpa using e2
 have hd:WN i=some d:=hd
 rw[hd] at h2
 exact ⟨d,hd,List.mem_of_find?_eq_some h2,h1.1.1,h1.1.2,h1.2⟩
theorem Yr{M}{f}{p pos}{args}{env}{Q}(hs:args.all Zz=true)
  (h:wpAny M A (eval (.Name f p) env) (fun f q0=>wpAny M A (callWith pos f [] (args.map fun e=>(false,eval e env)) []) Q E q0) E s):wpAny M A (eval (.Call (.Name f p) args [] pos) env) Q E s:=
 PyProof.Rows.Call_Name (ZZ hs) h
theorem Z6d(es:List Expr)(env:Env):(es.map fun e=>(false,eval e env))=((es.map fun e=>eval e env).map fun t=>(false,t)):=by rw[List.map_map];rfl
theorem Y9(es:List Expr)(env:Env):(es.map fun e=>(false,eval e env)).any (fun O=>O.1)=false:=by induction es with|nil=>rfl|cons e es ih=>simp only[List.map_cons,List.any_cons,ih];rfl
theorem Yb{M:Model}{f:Value}{es:List Expr}{env:Env}{Q:Args->Shared->Prop}(h:wpAny M A (spliced (es.map fun e=>(false,eval e env))) (fun vs s'=>Q ⟨vs,[]⟩ s') E s):wpAny M A (evalArgs f true (es.map fun e=>(false,eval e env)) []) Q E s:=by
 rw[Z6d] at h ⊢
 exact Z00 h
theorem Z0T{f:Str}{i:Nat}{p pos:Pos}{args:List Expr}{Q:Value->Shared->Prop}(hO:Z6c c)(hE:EvS c I n)(hC:Z0S c I n)(hA:AOk n A F)(hF:FOk F)(hi:W4.lookup f=some i)(hg:Ys F.env.kindOf f=true)(hs:args.all Zz=true)
  (ho:args.all (okE m F.cenv.isSome F.env.kindOf)=true) (hAct:Act c F s.heap ow σ)
  (hP:Z2 c F (Z7 c) (Zv c) s.heap ow s ((Y3 I args σ).bind (Wa I i)) Q E):wpAny (MD c) A (eval (.Call (.Name f p) args [] pos) F.env) Q E s:=by
 refine gG fun G gk=>?_
 obtain ⟨d,hd,hm,rfl,hpa,hps⟩:=Z1Z hi
 obtain ⟨a,o,pm,code,doc,e1,e2,e3,e4⟩:=hO.fns d hm
 refine gk ?_
 refine Yr hs (YH hAct hg (.inl e1) ?_)
 refine callWith_function (o:=o) (fd:=docDef d.name d.params d.body d.scope pm code doc) (Yb (Xd hE hA hF args s ow σ _ ho hAct (Z2.bind hP Z6 Zk fun ds s1_ vs h1_ ow1 tk1 O hA1 hS1 hr hP1_=>?_)))
 refine ⟨⟨hA1.h0 _ _ e2,e3⟩,wpAny_call ?_⟩
 refine hC i d ds s1_.pl F.frames A _ ow1 s1_ vs _ a o pm code doc hd ⟨_,hi⟩ hA1.gnd hA.frames hA.handled hA.depth hA.units e2 e3 e4 hr ?_
 cases hco:I.call i ds s1_.pl with
 |ok lv pl=>
  unfold Wa at hP1_;rw[hco] at hP1_
  intro F' e q7 v o' h' ow2_ tk hA2 k1 k2 k3 k4 k5 k6
  obtain ⟨r1,r2,r3⟩:=Act.return hA1 hA2 k1 k2 k3 k5
  rw[k4] at r1
  exact hP1_ v h' _ tk r1 r2 ⟨k6.back r3 k5,nofun⟩
 |exc m' pl=>
  unfold Wa at hP1_;rw[hco] at hP1_
  intro F' e q7 x T h' ow2_ tk hA2 k1 k2 k3 k4 k5
  obtain ⟨r1,r2,r3⟩:=Act.return (o:=.tmp) hA1 hA2 k1 k2 k3 rfl
  rw[k4] at r1
  exact hP1_ (.ref x) h' _ tk r1 r2 ⟨x,_,rfl,k5⟩
 |stuck=>unfold Wa at hP1_;rw[hco] at hP1_;exact hP1_.elim
theorem Z0U{f:Str}{fv:Value}{p pos:Pos}{args:List Expr}{Q:Value->Shared->Prop}(hO:Z6c c)(hE:EvS c I n)(hA:AOk n A F)(hF:FOk F)(hi:Wl f=some fv)(hg:Ys F.env.kindOf f=true)(hs:args.all Zz=true)
  (ho:args.all (okE m F.cenv.isSome F.env.kindOf)=true) (hAct:Act c F s.heap ow σ)
  (hP:Z2 c F (Z7 c) (Zv c) s.heap ow s ((Y3 I args σ).bind (Z2z f)) Q E):wpAny (MD c) A (eval (.Call (.Name f p) args [] pos) F.env) Q E s:=by
 refine Yr hs (YH hAct hg (.inr (hO.blt f fv hi)) ?_)
 have key:wpAny (MD c) A (evalArgs fv true (args.map fun e=>(false,eval e F.env)) []) (fun a q0=>wpAny (MD c) A (call fv ([]++a.pos) a.kw) Q E q0) E s:=by
  refine Yb (Xd hE hA hF args s ow σ _ ho hAct (Z2.bind hP Z6 Zk fun ds s1_ vs h1_ ow1 tk1 O hA1 hS1 hr hP1_=>?_))
  obtain ⟨lv,e,hP2_⟩:=Z2.opt hP1_
  exact Z3P (s:={s with heap:=h1_,toks:=tk1}) hA.handled hi hA1 hr e hP2_
 have hv:(∃ id,fv=.builtin id)\/∃ T,fv=.type T:=by
  unfold Wl at hi
  repeat' split at hi
  all_goals first|(cases hi;done)|(injection hi with hi;subst hi;first|exact .inl ⟨_,rfl⟩|exact .inr ⟨_,rfl⟩)
 rcases hv with ⟨id,rfl⟩|⟨T,rfl⟩
 ·exact callWith_builtin (Y9 _ _) key
 ·exact PySem.callWith_type (Y9 _ _) key
theorem Z84{e:Expr}{p pos:Pos}{Q:Value->Shared->Prop}(hO:Z6c c)(hE:EvS c I n)(hA:AOk n A F)(hF:FOk F)(hg:Ys F.env.kindOf "len"=true)(hs:Zz e=true)(ho:okE m F.cenv.isSome F.env.kindOf e=true)(hAct:Act c F s.heap ow σ)
  (hP:Z2 c F (Z7 c) (Zv c) s.heap ow s ((I.ev e σ).bind fun r σ=>(opt (Z9a r.1.d) σ).bind fun n σ=>.ok (.fr (.int n),none) σ) Q E):wpAny (MD c) A (eval (.Call (.Name "len" p) [e] [] pos) F.env) Q E s:=by
 refine Yr (by rw[List.all_cons,hs];rfl) (YH hAct hg (.inr hO.len) ?_)
 refine callWith_builtin (Y9 _ _) (Yb ?_)
 refine spliced_cons (hE m e A F s ow σ E _ ho hA hF hAct (Z2.bind hP Z6 Zk fun r s1_ v h1_ ow1 tk1 O hA1 hS1 hr hP1_=>spliced_nil ?_))
 obtain ⟨k,e',hP2_⟩:=Z2.opt hP1_
 show wpAny (MD c) A (call (.builtin "len") [v]) Q E {s with heap:=h1_,toks:=tk1}
 have fin:∀ tk t,Q (.int k t) {s with heap:=h1_,toks:=tk}:=fun tk t=>Z2.val (s:={s with heap:=h1_,toks:=tk1}) (tk:=tk) hP2_ hA1 (.int _ _)
 have big:LIM < 2 ^ 62:=by decide
 generalize q:r.1.d=dd at e'
 cases dd with
 |list xs=>
  obtain rfl:=Option.some.inj e'
  obtain ⟨a,rfl,hl⟩:=hr.v.list q
  obtain ⟨vs,n',g1,g2,g3,O⟩:=hl.isL
  exact call_len_list g1.isList (by rw[g2];lia) (g2▸fin _ _)
 |tup xs=>
  obtain rfl:=Option.some.inj e'
  obtain ⟨a,ob,vs,rfl,hg',hl,hs',hz,O⟩:=hr.v.tup q
  exact PyProof.Rows.len_tuple ⟨ob,hg',hl.1,hl.2.2⟩ (by rw[hs'];lia) (by rw[hs'];exact fin _ _)
 |dict xs=>
  obtain rfl:=Option.some.inj e'
  obtain ⟨a,rfl,hd⟩:=hr.v.dict q
  obtain ⟨vvs,g1,g2,g3,g4,O⟩:=hd.pairs
  have hl:vvs.length=xs.length:=by have:=congrArg List.length g3;simpa using this
  exact call_len_dict g2 g1 (by rw[hl];lia) (by rw[hl];exact fin _ _)
 |str x=>
  have e':(if x.length<=LIM then some x.length else none)=some k:=e'
  split at e'
  ·rename_i hb
   obtain rfl:=Option.some.inj e'
   obtain ⟨t,rfl⟩:=hr.v.str q
   exact PyProof.Rows.len_str (by lia) (fin _ _)
  ·exact Z3 e'
 |_=>exact Z3 e'
structure VN(K:Frag)(C:Addr)(names:List Str):Prop where
 get:findIn K (.ref C) "__getattribute__"=some (some (.builtin "object.__getattribute__"))
 dict:hasDictIn K C=true
 none:∀ x∈names,findIn K (.ref C) x=some none
theorem K2{h:Heap}{a:Addr}{od:Obj}{m:Str->Option Value}(hn:h.Ns a m)(e:h.get? a=some od)(x:Str):lookIn x od=some (m x):=by
 obtain ⟨o,es,ep,ho,hd,hk,hf⟩:=hn
 rw[e] at ho;obtain rfl:=Option.some.inj ho
 unfold lookIn
 rw[hd]
 dsimp only
 have h1:=hf x
 unfold nsFind findBy at h1
 rw[<-Array.find?_toList] at h1
 cases hx:es.toList.find? (fun e=>e.key.isStr x) with
 |some en=>rw[hx] at h1;dsimp only;rw[<-h1];rfl
 |none=>
  rw[hx] at h1
  dsimp only
  have:es.toList.any (fun O=>O.refKey)=false:=by
   rw[List.any_eq_false]
   intro e he
   obtain ⟨n,t,h⟩:=hk e (by simpa using he)
   simp[DictEntry.refKey,h]
  rw[this,<-h1]
  rfl
theorem Yc{C x dx:Addr}{od:Obj}{ox:Obj}{names:List Str}{name:Str}{mm:Str->Option Value}{v:Value}{Q:Value->Shared->Prop}(hA:Act c F s.heap ow σ)(hC:VN c.K C names)(hn:name∈names)(hx:s.heap.get? x=some ox)(hcl:ox.cls=.ref C)(hno:notCls ox=true)(hdd:ox.dict=some dx)
  (hd:s.heap.get? dx=some od) (hns:s.heap.Ns dx mm) (hv:mm name=some v) (hh:handedIn v=true) (h:Q v {s with toks:=s.toks+1}):wpAny (MD c) A (getAttr (.ref x) name true) Q E s:=by
 have X:c.K.In s.heap:=fun a o e=>hA.h0 a o (c.X a o e)
 have I:InstAt s.heap x ox C (some od):=⟨hx,hcl,hno,by rw[hdd];exact hd⟩
 exact get_value X I hC.get (findObj_own hC.dict (hC.none _ hn) rfl ((K2 hns hd name).trans (by rw[hv]))) hh h
theorem Rep.handed{h}{v}{d}(x:Rep c h ow v d):handedIn v=true:=by induction x<;>rfl
theorem ZK.handed{h}{o}{v}{lv}(x:ZK c h ow o v lv):handedIn v=true:=by
 induction lv with
 |fr d=>exact Rep.handed x
 |ol O=>obtain ⟨a,rfl,O⟩:=x;rfl
 |od O=>obtain ⟨a,rfl,O⟩:=x;rfl
 |ov O U V O1=>obtain ⟨a,O,O,O,O,O,O,rfl,O⟩:=x;rfl
theorem ZS.of{h}{v}{lv}{o}(ho:o=.frozen\/Zx o=true)(x:ZK c h ow o v lv):ZS c h ow v lv:=⟨o,ho,x⟩
theorem UR{o}{x}{name}{d}{Q}(hV:VN c.K c.CV ["kind","items","attrs"])(hN:VN c.K c.CN ["kind","attrs"])(hA:Act c F s.heap ow σ)(hx:ZS c s.heap ow o x)(e:WO x name=some d)(hna:name≠"attrs"\/∃ d',x=.fr d')
  (hP:Z2 c F (Z7 c) (Zv c) s.heap ow s (.ok (.fr d,none) σ) Q E):wpAny (MD c) A (getAttr o name true) Q E s:=by
 obtain ⟨ow',ho,hx⟩:=hx
 induction x with
 |fr d0=>
  clear hna
  induction hx with
  |@vec a dx od m vk vi va k i t w1 w2 hn hg hgd hc hns hsh hk hi hat r1 r2 r3=>
   refine ite_el e (fun q e=>?_) fun O e=>ite_el e (fun q e=>?_) fun O e=>ite_el e (fun q e=>?_) fun O e=>Z3 e
   ·subst q;obtain rfl:=Option.some.inj e
    exact Yc hA hV (by simp) hg rfl rfl rfl hgd hns hk r1.handed (hP.val (tk:=s.toks+1) hA r1)
   ·subst q;obtain rfl:=Option.some.inj e
    exact Yc hA hV (by simp) hg rfl rfl rfl hgd hns hi r2.handed (hP.val (tk:=s.toks+1) hA r2)
   ·subst q;obtain rfl:=Option.some.inj e
    exact Yc hA hV (by simp) hg rfl rfl rfl hgd hns hat r3.handed (hP.val (tk:=s.toks+1) hA r3)
  |null w1 w2 hg hgd hc hns hsh hk hat=>
   refine ite_el e (fun q e=>?_) fun O e=>ite_el e (fun q e=>?_) fun O e=>Z3 e
   ·subst q;obtain rfl:=Option.some.inj e
    exact Yc hA hN (by simp) hg rfl rfl rfl hgd hns hk rfl (hP.val (tk:=s.toks+1) hA (.str _ _))
   ·subst q;obtain rfl:=Option.some.inj e
    exact Yc hA hN (by simp) hg rfl rfl rfl hgd hns hat rfl (hP.val (tk:=s.toks+1) hA .none)
  |_=>exact Z3 e
 |ov k i t own=>
  refine gG fun G gk=>?_
  obtain ⟨a,dx,od,mm,vk,vi,va,rfl,hw,hwd,hn,hg,hgd,hc,hns,hsh,hk,hi,hat,r1,r2,r3⟩:=hx
  refine gk ?_
  refine ite_el e (fun q e=>?_) fun O e=>ite_el e (fun q e=>?_) fun O e=>ite_el e (fun q e=>?_) fun O e=>Z3 e
  ·subst q;obtain rfl:=Option.some.inj e
   exact Yc hA hV (by simp) hg rfl rfl rfl hgd hns hk r1.handed (hP.val (tk:=s.toks+1) hA r1)
  ·subst q;obtain rfl:=Option.some.inj e
   exact Yc hA hV (by simp) hg rfl rfl rfl hgd hns hi r2.handed (hP.val (tk:=s.toks+1) hA r2)
  ·rcases hna with q'|⟨d',q'⟩
   ·exact absurd q.1 q'
   ·cases q'
 |_=>exact Z3 e
inductive Z20:Expr->Prop
 |cal (id:Str) (q p:Pos):Z20 (.Call (.Name id q) [] [] p)
 |no (o:Expr) (O:∀ x env t,attributeBase o x env t=t):Z20 o
theorem Z85(o):Z20 o:=by
 cases o with
 |Call f as ks p=>cases f with
  |Name id q=>cases as with
   |nil=>cases ks with
    |nil=>exact .cal id q p
    |cons=>exact .no _ fun O O O=>rfl
   |cons=>exact .no _ fun O O O=>rfl
  |_=>exact .no _ fun O O O=>rfl
 |_=>exact .no _ fun O O O=>rfl
theorem Xe{o}{x}{env}{t}(h:UM o=true):attributeBase o x env t=t:=by
 induction Z85 o with
 |no o k=>exact k x env t
 |cal id q p=>
  have h':(id != ("super":Str))=true:=h
  unfold attributeBase
  dsimp only
  rw[h'];rfl
theorem Jr{o:Expr}{x:Str}{pos:Pos}{Q:Value->Shared->Prop}(hV:VN c.K c.CV ["kind","items","attrs"])(hN:VN c.K c.CN ["kind","attrs"])(hE:EvS c I n)(hA:AOk n A F)(hF:FOk F)(h1:okE m F.cenv.isSome F.env.kindOf o=true)(hb:UM o=true)(hAct:Act c F s.heap ow σ)
  (hP:Z2 c F (Z7 c) (Zv c) s.heap ow s (if x="attrs" then (frz (I.ev o σ)).bind fun d σ=>(opt (WO (.fr d) x) σ).bind fun d σ=>.ok (.fr d,none) σ else (I.ev o σ).bind fun r σ=>(opt (WO r.1 x) σ).bind fun d σ=>.ok (.fr d,none) σ) Q E) :
  wpAny (MD c) A (eval (.Attribute o x pos) F.env) Q E s:=by
 refine Attribute_any_ ?_ (by simp only[arm_eval_Attribute,Xe hb])
 refine hE m o A F s ow σ E _ h1 hA hF hAct ?_
 split at hP
 ·rename_i hx
  refine Z2.frzBind hF hP Z6 Zk fun d s1_ v h1_ ow1 tk1 hA1 hS1 hr hP1_=>?_
  obtain ⟨d',e,hP2_⟩:=Z2.opt hP1_
  exact UR (s:={s with heap:=h1_,toks:=tk1}) hV hN hA1 (.of_rep hr) e (.inr ⟨d,rfl⟩) hP2_
 ·rename_i hx
  refine Z2.bind hP Z6 Zk fun r s1_ v h1_ ow1 tk1 O hA1 hS1 hr hP1_=>?_
  obtain ⟨d',e,hP2_⟩:=Z2.opt hP1_
  exact UR (s:={s with heap:=h1_,toks:=tk1}) hV hN hA1 hr.v e (.inl hx) hP2_
theorem WG{value i}{pos}{env}{Q}(hi:U0 i=false)
  (h:wpAny (MD c) A (eval value env) (fun o q0=>wpAny (MD c) A (eval i env) (fun k s2_=>SubscriptOn (MD c) A o k Q E s2_) E q0) E s):wpAny (MD c) A (eval (.Subscript value i pos) env) Q E s:=by
 rw[PySem.eval_Subscript]
 refine wpAny_bind (wpAny_mono h (fun o q0 h1_=>wpAny_bind (wpAny_holding (wpAny_mono h1_ (fun k s2_ h2_=>wpAny_bind (wpAny_standAt ?_)) fun O O x=>x))) fun O O x=>x)
 obtain ⟨T,id,hl,hT,hg⟩:=h2_
 refine wpAny_bind ?_
 rw[getitemInPython_of_ne hT.not_modules]
 refine wpAny_bind (wpAny_specialOf hT hl ?_)
 have fin:wpAny (MD c) A (operate [o,k] (getItem o k)) (fun r s3_=>wpAny (MD c) A (letTemporaryGo value o r >>= fun O=>pure r) Q E s3_) E s2_:=
  wpAny_operating (wpAny_mono hg (fun r s3_ h3_=>wpAny_bind (wpAny_letTemporaryGo (wpAny_pure h3_))) fun O O x=>x)
 have hsub:subscripted i false o k=operate [o,k] (getItem o k):=by
  unfold subscripted
  cases i<;>first|rfl|(cases hi;done)
 refine wpAny_pure ?_
 rw[hsub]
 exact wpAny_bind fin
theorem Js{o i}{pos}{Q}(hE:EvS c I n)(hA:AOk n A F)(hF:FOk F)(h1:okE m F.cenv.isSome F.env.kindOf o=true)(h2:okE m F.cenv.isSome F.env.kindOf i=true)(hi:U0 i=false)(hAct:Act c F s.heap ow σ)
  (hP:Z2 c F (Z7 c) (Zv c) s.heap ow s ((I.ev o σ).bind fun r σ=>(I.ev i σ).bind fun k σ=>(opt (Xg r.1.d k.1.d σ) σ).bind fun d σ=>.ok (.fr d,none) σ) Q E):wpAny (MD c) A (eval (.Subscript o i pos) F.env) Q E s:=by
 refine WG hi (hE m o A F s ow σ E _ h1 hA hF hAct (Z2.bind hP Z6 Zk fun r s1_ v h1_ ow1 tk1 O hA1 hS1 hr hP1_=>?_))
 refine hE m i A F _ ow1 s1_ E _ h2 hA hF hA1 (Z2.bind hP1_ Z6 Zk fun k q7 v2_ h2_ ow2_ tk2 O hA2 hS2 hr2 hP2_=>?_)
 obtain ⟨d,e,hP3⟩:=Z2.opt hP2_
 exact Z3L hA2 (hr.v.step hS2 hA1.new) hr2.v e hP3
theorem WX{value}{lo up st}{p pos}{T id}{env}{Q}(hl:typeLookup (.type T) "__getitem__"=pure (some (.builtin id)))
  (h:wpAny (MD c) A (eval value env) (fun o q0=>wpAny (MD c) A (eval (.Slice lo up st p) env) (fun i s2_=>s2_.TypeIs o T/\wpAny (MD c) A (getItem o i) Q E s2_) E q0) E s):wpAny (MD c) A (eval (.Subscript value (.Slice lo up st p) pos) env) Q E s:=by
 rw[PySem.eval_Subscript]
 refine wpAny_bind (wpAny_mono h (fun o q0 h1_=>wpAny_bind (wpAny_holding (wpAny_mono h1_ (fun k s2_ h2_=>wpAny_bind (wpAny_standAt ?_)) fun O O x=>x))) fun O O x=>x)
 refine wpAny_bind ?_
 rw[getitemInPython_of_ne h2_.1.not_modules]
 refine wpAny_bind (wpAny_specialOf h2_.1 hl ?_)
 refine wpAny_pure (wpAny_bind ?_)
 have fin:∀ l,wpAny (MD c) A (operate l (getItem o k)) (fun r s3_=>wpAny (MD c) A (letTemporaryGo value o r >>= fun O=>pure r) Q E s3_) E s2_:=fun l=>
  wpAny_operating (wpAny_mono h2_.2 (fun r s3_ h3_=>wpAny_bind (wpAny_letTemporaryGo (wpAny_pure h3_))) fun O O x=>x)
 unfold subscripted
 cases st<;>exact fin _
theorem X3.take{h:Heap}{vs:Array Value}{ds:List D}{k:Nat}(hs:vs.size=ds.length)(hr:∀ (i:Nat) (v:Value) (d:D),vs[i]?=some v->ds[i]?=some d->Rep c h ow v d) :
  (vs.toList.take k).toArray.size=(ds.take k).length/\∀ (i:Nat) (v:Value) (d:D),(vs.toList.take k).toArray[i]?=some v->(ds.take k)[i]?=some d->Rep c h ow v d:=by
 refine ⟨by simp[hs],fun i v d e1 e2=>?_⟩
 simp only[List.getElem?_toArray,List.getElem?_take] at e1 e2
 refine ite_el e1 (fun q e1=>?_) fun q_ e1=>?_
 ·rw[if_pos q] at e2
  exact hr i v d (by simpa using e1) e2
 ·exact Z3 e1
theorem X3.drop{h:Heap}{vs:Array Value}{ds:List D}{k:Nat}(hs:vs.size=ds.length)(hr:∀ (i:Nat) (v:Value) (d:D),vs[i]?=some v->ds[i]?=some d->Rep c h ow v d) :
  (vs.toList.drop k).toArray.size=(ds.drop k).length/\∀ (i:Nat) (v:Value) (d:D),(vs.toList.drop k).toArray[i]?=some v->(ds.drop k)[i]?=some d->Rep c h ow v d:=by
 refine ⟨by simp[hs],fun i v d e1 e2=>?_⟩
 simp only[List.getElem?_toArray,List.getElem?_drop] at e1 e2
 exact hr (k+i) v d (by simpa using e1) e2
theorem X3.rev{h:Heap}{vs:Array Value}{ds:List D}(hs:vs.size=ds.length)(hr:∀ (i:Nat) (v:Value) (d:D),vs[i]?=some v->ds[i]?=some d->Rep c h ow v d) :
  vs.toList.reverse.toArray.size=ds.reverse.length/\∀ (i:Nat) (v:Value) (d:D),vs.toList.reverse.toArray[i]?=some v->ds.reverse[i]?=some d->Rep c h ow v d:=by
 refine ⟨by simp[hs],fun i v d e1 e2=>?_⟩
 have hi:i < ds.length:=by have:=(List.getElem?_eq_some_iff.mp e2).1;simpa using this
 simp only[List.getElem?_toArray] at e1
 rw[List.getElem?_reverse (by simpa [hs] using hi)] at e1
 rw[List.getElem?_reverse hi] at e2
 exact hr _ v d (by simpa [hs] using e1) e2
theorem Wm{α β:Type}{f:α->Option β}{g:α->β}:∀ {l:List α},(∀ x∈l,f x=some (g x))->l.filterMap f=l.map g
 |[],O=>rfl
 |x::l,h=>by simp only[List.filterMap_cons,h x List.mem_cons_self,List.map_cons,Wm fun y hy=>h y (List.mem_cons_of_mem _ hy)]
theorem US(n:Nat):sliceRange ((n:Int) - 1) (-1) (-1)=(List.range n).map fun k=>n - 1 - k:=by
 unfold sliceRange
 have h0:¬ ((-1:Int) > 0):=by decide
 have hc:(if (n:Int) - 1 > -1 then ((n:Int) - 1 - -1 - -1 - 1) / (- -1) else 0)=(n:Int):=by
  split
  ·simp only[show (- -1:Int)=1 from rfl,Int.ediv_one];lia
  ·lia
 simp only[h0,if_false,hc,Int.toNat_natCast]
 apply List.map_congr_left
 intro k hk
 have e:(n:Int) - 1+-1*(k:Int)=(n:Int) - ((1+k:Nat):Int):=by rw[Int.neg_mul,Int.one_mul,Int.natCast_add];exact (Int.sub_sub ..)
 rw[e,Int.toNat_sub,Nat.sub_sub]
theorem Ju(items:Array Value):slicePick items none none (some (-1))=items.toList.reverse.toArray:=by
 have hb:sliceBounds none none (some (-1)) items.size=((items.size:Int) - 1,-1,-1):=rfl
 unfold slicePick
 rw[hb]
 simp only[US]
 congr 1
 apply List.ext_getElem?
 intro i
 have:((List.range items.size).map fun k=>items.size - 1 - k).filterMap (items[·]?)=(List.range items.size).filterMap fun k=>items[items.size - 1 - k]?:=by rw[List.filterMap_map];rfl
 rw[this]
 have e:(List.range items.size).filterMap (fun k=>items[items.size - 1 - k]?)=(List.range items.size).map fun k=>items.getD (items.size - 1 - k) .none:=by
  apply Wm
  intro k hk
  have hk:=List.mem_range.mp hk
  have hl:items.size - 1 - k < items.size:=Nat.lt_of_le_of_lt (Nat.sub_le _ _) (Nat.sub_lt (Nat.zero_lt_of_lt hk) Nat.one_pos)
  simp[Array.getD,hl]
 rw[e,List.getElem?_map]
 by_cases hi:i < items.size
 ·rw[List.getElem?_range hi,List.getElem?_reverse (by simpa using hi)]
  have hl:items.size - 1 - i < items.size:=by omega
  simp[Array.getD,hl]
 ·rw[List.getElem?_eq_none (by simpa using hi),List.getElem?_eq_none (by simpa using hi)];rfl
theorem VA{k}(h:k<=LIM):k<=sizeLine:=Nat.le_trans h YM
theorem Z2.newList2{ob}{ds}{vs}{tk}{Q}(hP:Z2 c F (Z7 c) (Zv c) s.heap ow s (.ok (.ol ds,none) σ) Q E)(hA:Act c F s.heap ow σ)(hsz:vs.size=ds.length)(hl:ds.length<=LIM)(hr:∀ (i:Nat) (v:Value) (d:D),vs[i]?=some v->ds[i]?=some d->Rep c s.heap ow v d) :
  Q (.ref (s.heap.push ob).objs.size) {s with heap:=(s.heap.push ob).push {cls:=.type "list",data:=.seq vs},toks:=tk}:=
 hP.newList (h':=(s.heap.push ob).push {cls:=.type "list",data:=.seq vs}) (tk:=tk) (n:=0) hA (by rw[Heap.size_push];exact Nat.le_succ _) (by rw[Heap.size_push _ {cls:=.type "list",data:=.seq vs}];exact Nat.lt_succ_self _) (fun b o e=>Heap.get?_push_of_some _ (Heap.get?_push_of_some _ e)) (Heap.get?_push_size _ rfl) hsz hl hr
theorem Zav{o e}{p pos}{Q}(hE:EvS c I n)(hA:AOk n A F)(hF:FOk F)(h1:okE m F.cenv.isSome F.env.kindOf o=true)(h2:okE m F.cenv.isSome F.env.kindOf e=true)(hAct:Act c F s.heap ow σ)
  (hP:Z2 c F (Z7 c) (Zv c) s.heap ow s ((I.ev o σ).bind fun r σ=>(I.ev e σ).bind fun k σ=>(opt (Z1p r.1.d k.1.d) σ).bind fun lv σ=>.ok (lv,none) σ) Q E):wpAny (MD c) A (eval (.Subscript o (.Slice none (some e) none p) pos) F.env) Q E s:=by
 rw[PySem.eval_Subscript]
 refine wpAny_bind (hE m o A F s ow σ E _ h1 hA hF hAct (Z2.bind hP Z6 Zk fun r s1_ v h1_ ow1 tk1 O hA1 hS1 hr hP1_=>?_))
 refine wpAny_bind (wpAny_holding (wpAny_Slice ?_))
 simp only[evalPart_none,evalPart_some]
 refine wpAny_pure (hE m e A F _ ow1 s1_ E _ h2 hA hF hA1 (Z2.bind hP1_ Z6 Zk fun k q7 v2_ h2_ ow2_ tk2 O hA2 hS2 hr2 hP2_=>?_))
 refine wpAny_pure (wpAny_bind (wpAny_standAt ?_))
 obtain ⟨lv,e',hP3⟩:=Z2.opt hP2_
 have hv:=hr.v.step hS2 hA1.new
 have fin:∀ {T id:String},typeLookup (.type T) "__getitem__"=pure (some (.builtin id))->∀ st:Shared,st.TypeIs v T->wpAny (MD c) A (getItem v (.ref h2_.objs.size)) Q E st->wpAny (MD c) A (do
   let x <-getitemInPython v
   let r <-subscripted (.Slice none (some e) none p) x v (.ref h2_.objs.size)
   letTemporaryGo o v r
   pure r) Q E st:=by
  intro T id hl st hT hg
  refine wpAny_bind ?_
  rw[getitemInPython_of_ne hT.not_modules]
  refine wpAny_bind (wpAny_specialOf hT hl (wpAny_pure (wpAny_bind ?_)))
  exact wpAny_operating (wpAny_mono hg (fun r s3_ h3_=>wpAny_bind (wpAny_letTemporaryGo (wpAny_pure h3_))) fun O O x=>x)
 obtain ⟨j,q2,e'⟩:=Option.bind_eq_some_iff.mp e'
 obtain ⟨u,rfl⟩:=hr2.v.int (D.i?_of q2)
 cases q1:r.1.d.l? with
 |some xs=>
  rw[q1] at e'
  have e':(if 0<=j/\j < LIM then some (LV.ol (xs.take j.toNat)) else none)=some lv:=e'
  obtain ⟨a,rfl,hl⟩:=hv.list (D.l?_of q1)
  split at e'
  ·rename_i hb
   cases e'
   obtain ⟨vs,n',g1,g2,g3,g4⟩:=hl.isL
   have g1':=IsL.push g1 {cls:=.type "slice",data:=.fields #[.none,.int j u,.none]}
   refine fin slot_list_getitem.lookup _ g1'.isList.typeIs (wpAny_getItem_list_slice g1'.isList (Heap.IsSliceOf.new ..) .none (.int _ _) .none (by simp) ?_ (by rw[g2];exact VA g3))
   obtain ⟨j',rfl⟩:=Int.eq_ofNat_of_zero_le hb.1
   rw[slicePick_upto']
   obtain ⟨r1,r2⟩:=X3.take (k:=j') g2 g4
   refine Z2.newList2 (s:={s with heap:=h2_,toks:=tk2}) (tk:=tk2) hP3 hA2 (by simpa using r1) ?_ (r2)
   simp only[Int.toNat_natCast,List.length_take]
   lia
  ·exact Z3 e'
 |none=>
  rw[q1] at e'
  obtain ⟨xs,q1,e'⟩:=Option.bind_eq_some_iff.mp e'
  obtain ⟨t,rfl⟩:=hv.str (D.s?_of q1)
  unfold toS at e'
  split at e'
  ·rename_i hb
   obtain rfl:=Option.some.inj e'
   obtain ⟨T,id,k1,k2,k3⟩:=SBH.sliceItem_ns (prog:=PRG) (w:=c.w) (A:=A) (E:=E) (P:=fun h=>∀ a o,h2_.get? a=some o->h.get? a=some o) (s:={s with heap:=h2_,toks:=tk2}) (x:=xs) (t:=t) (j:=j) (uj:=u) (Q:=fun v' s'=>h2_.objs.size<=s'.heap.objs.size->Q v' s')
    (fun h ob hk b o e=>Heap.get?_push_of_some _ (hk b o e)) (fun O O e=>e) (fun h' t' k hk hs=>Z2.valH (s:={s with heap:=h2_,toks:=tk2}) hP3 hA2 hk hs (.str _ _)) (VA hb.2.2)
   refine fin k1 _ k2 (Zn (wpAny_mono k3 (fun v' s' q hs=>q ?_) fun O O x O=>x))
   have hs:(h2_.push {cls:=.type "slice",data:=.fields #[.none,.int j u,.none]}).objs.size<=s'.heap.objs.size:=hs
   rw[Heap.size_push] at hs;lia
  ·exact Z3 e'
theorem Z6e{o e}{p pos}{Q}(hE:EvS c I n)(hA:AOk n A F)(hF:FOk F)(h1:okE m F.cenv.isSome F.env.kindOf o=true)(h2:okE m F.cenv.isSome F.env.kindOf e=true)(hAct:Act c F s.heap ow σ)
  (hP:Z2 c F (Z7 c) (Zv c) s.heap ow s ((I.ev o σ).bind fun r σ=>(I.ev e σ).bind fun k σ=>(opt (Z1q r.1.d k.1.d) σ).bind fun lv σ=>.ok (lv,none) σ) Q E):wpAny (MD c) A (eval (.Subscript o (.Slice (some e) none none p) pos) F.env) Q E s:=by
 rw[PySem.eval_Subscript]
 refine wpAny_bind (hE m o A F s ow σ E _ h1 hA hF hAct (Z2.bind hP Z6 Zk fun r s1_ v h1_ ow1 tk1 O hA1 hS1 hr hP1_=>?_))
 refine wpAny_bind (wpAny_holding (wpAny_Slice ?_))
 rw[evalPart_some]
 refine hE m e A F _ ow1 s1_ E _ h2 hA hF hA1 (Z2.bind hP1_ Z6 Zk fun k q7 v2_ h2_ ow2_ tk2 O hA2 hS2 hr2 hP2_=>?_)
 rw[evalPart_none]
 refine wpAny_pure (wpAny_pure (wpAny_bind (wpAny_standAt ?_)))
 obtain ⟨lv,e',hP3⟩:=Z2.opt hP2_
 have hv:=hr.v.step hS2 hA1.new
 have fin:∀ {T id:String},typeLookup (.type T) "__getitem__"=pure (some (.builtin id))->∀ st:Shared,st.TypeIs v T->wpAny (MD c) A (getItem v (.ref h2_.objs.size)) Q E st->wpAny (MD c) A (do
   let x <-getitemInPython v
   let r <-subscripted (.Slice (some e) none none p) x v (.ref h2_.objs.size)
   letTemporaryGo o v r
   pure r) Q E st:=by
  intro T id hl st hT hg
  refine wpAny_bind ?_
  rw[getitemInPython_of_ne hT.not_modules]
  refine wpAny_bind (wpAny_specialOf hT hl (wpAny_pure (wpAny_bind ?_)))
  exact wpAny_operating (wpAny_mono hg (fun r s3_ h3_=>wpAny_bind (wpAny_letTemporaryGo (wpAny_pure h3_))) fun O O x=>x)
 obtain ⟨j,q2,e'⟩:=Option.bind_eq_some_iff.mp e'
 obtain ⟨u,rfl⟩:=hr2.v.int (D.i?_of q2)
 obtain ⟨xs,q1,e'⟩:=Option.bind_eq_some_iff.mp e'
 ·obtain ⟨a,rfl,hl⟩:=hv.list (D.l?_of q1)
  split at e'
  ·rename_i hb
   cases e'
   obtain ⟨vs,n',g1,g2,g3,g4⟩:=hl.isL
   have g1':=IsL.push g1 {cls:=.type "slice",data:=.fields #[.int j u,.none,.none]}
   refine fin slot_list_getitem.lookup _ g1'.isList.typeIs (wpAny_getItem_list_slice g1'.isList (Heap.IsSliceOf.new ..) (.int _ _) .none .none (by simp) ?_ (by rw[g2];exact VA g3))
   obtain ⟨j',rfl⟩:=Int.eq_ofNat_of_zero_le hb.1
   rw[slicePick_from']
   obtain ⟨r1,r2⟩:=X3.drop (k:=j') g2 g4
   refine Z2.newList2 (s:={s with heap:=h2_,toks:=tk2}) (tk:=tk2) hP3 hA2 (by simpa using r1) ?_ (r2)
   simp only[Int.toNat_natCast,List.length_drop]
   lia
  ·exact Z3 e'
set_option tactic.hygienic true in
theorem Z86{o}{k0}{p0 p1 p pos}{Q}(hE:EvS c I n)(hA:AOk n A F)(hF:FOk F)(h1:okE m F.cenv.isSome F.env.kindOf o=true)(hAct:Act c F s.heap ow σ)
  (hP:Z2 c F (Z7 c) (Zv c) s.heap ow s ((I.ev o σ).bind fun r σ=>(opt (Z2y r.1.d) σ).bind fun lv σ=>.ok (lv,none) σ) Q E):wpAny (MD c) A (eval (.Subscript o (.Slice none none (some (.UnaryOp .USub (.Constant (.int 1) k0 p0) p1)) p) pos) F.env) Q E s:=by
 refine WX slot_list_getitem.lookup (hE m o A F s ow σ E _ h1 hA hF hAct (Z2.bind hP Z6 Zk fun r s1_ v h1_ ow1 tk1 O hA1 hS1 hr hP1_=>?_))
 refine wpAny_Slice ?_
 simp only[evalPart_none,evalPart_some]
 refine wpAny_pure (wpAny_pure (UnaryOp_ (wpAny_Constant_int (P.neg_int ?_))))
 obtain ⟨lv,e',hP3⟩:=Z2.opt hP1_
 unfold Z2y at e'
 cases q1:r.1.d.l? with
 |some xs=>
  rw[q1] at e'
  obtain rfl:=Option.some.inj e'
  obtain ⟨a,rfl,hl⟩:=hr.v.list (D.l?_of q1)
  obtain ⟨vs,n',g1,g2,g3,g4⟩:=hl.isL
  have g1':=IsL.push g1 {cls:=.type "slice",data:=.fields #[.none,.none,.int (-1) (tk1+1)]}
  refine ⟨g1'.isList.typeIs,wpAny_getItem_list_slice g1'.isList (Heap.IsSliceOf.new ..) .none .none (.int _ _) (by decide) ?_ (by rw[g2];exact VA g3)⟩
  rw[Ju]
  obtain ⟨r1,r2⟩:=X3.rev g2 g4
  exact Z2.newList2 (s:={s with heap:=h1_,toks:=tk1}) (tk:=tk1+1+1) hP3 hA1 r1 (by simpa using g3) r2
 |none=>rw[q1] at e';exact Z3 e'
theorem Z0V{es}{pos}{Q}(hE:EvS c I n)(hA:AOk n A F)(hF:FOk F)(hs:es.all Zz=true)(ho:es.all (okE m F.cenv.isSome F.env.kindOf)=true)(hAct:Act c F s.heap ow σ)
  (hP:Z2 c F (Z7 c) (Zv c) s.heap ow s ((Y3 I es σ).bind fun ds σ=>if ds.length<=LIM then .ok (.ol ds,none) σ else .stuck) Q E):wpAny (MD c) A (eval (.List es pos) F.env) Q E s:=by
 rw[arm_eval_List,ZZ hs]
 refine wpAny_bind (wpAny_standAt (wpAny_bind (Xd hE hA hF es s ow σ _ ho hAct (Z2.bind hP Z6 Zk fun ds s1_ vs h1_ ow1 tk1 O hA1 hS1 hr hP1_=>?_))))
 split at hP1_
 ·rename_i hl
  unfold newList
  refine wpAny_newObj_type ?_ (by show vs.toArray.size<=sizeLine;rw[List.size_toArray,hr.1];exact VA hl)
  exact Z2.newList (s:={s with heap:=h1_,toks:=tk1}) (tk:=tk1) (n:=0) hP1_ hA1 (Nat.le_refl _) (by rw[Heap.size_push];exact Nat.lt_succ_self _) (fun b o e=>Heap.get?_push_of_some _ e) (Heap.get?_push_size _ rfl) (hr.1) hl fun i v d e1 e2=>hr.2 i v d (by simpa using e1) e2
 ·exact hP1_.elim
theorem Z3W{es}{x1}{pos}{Q}(hE:EvS c I n)(hA:AOk n A F)(hF:FOk F)(hs:es.all Zz=true)(ho:es.all (okE m F.cenv.isSome F.env.kindOf)=true)(hAct:Act c F s.heap ow σ)
  (hP:Z2 c F (Z7 c) (Zv c) s.heap ow s ((Y3 I es σ).bind fun ds σ=>if ds.length<=LIM then .ok (.fr (.tup ds),none) σ else .stuck) Q E):wpAny (MD c) A (eval (.Tuple es x1 pos) F.env) Q E s:=by
 rw[arm_eval_Tuple,ZZ hs]
 refine wpAny_bind (wpAny_standAt (wpAny_bind (Xd hE hA hF es s ow σ _ ho hAct (Z2.bind hP Z6 Zk fun ds s1_ vs h1_ ow1 tk1 O hA1 hS1 hr hP1_=>?_))))
 split at hP1_
 ·rename_i hl
  unfold newTuple
  refine wpAny_newObj_type ?_ (by show vs.toArray.size<=sizeLine;rw[List.size_toArray,hr.1];exact VA hl)
  exact Z2.newFr (s:={s with heap:=h1_,toks:=tk1}) (tk:=tk1) hP1_ hA1 (Nat.le_refl _) (by rw[Heap.size_push];exact Nat.lt_succ_self _) (fun b o e=>Heap.get?_push_of_some _ e) fun ow' hk hw=>
   .tup hw (Heap.get?_push_size _ rfl) ⟨rfl,⟨rfl,rfl⟩,0,rfl⟩ (hr.1) hl fun i v d e1 e2=>hk v d (hr.2 i v d (by simpa using e1) e2)
 ·exact hP1_.elim
theorem Z21{o}{mn}{apos pos}{args}{Q}(hE:EvS c I n)(hA:AOk n A F)(hF:FOk F)(h1:okE m F.cenv.isSome F.env.kindOf o=true)(hb:UM o=true)(hs:args.all Zz=true)(ho:args.all (okE m F.cenv.isSome F.env.kindOf)=true)
  (hlen:args.length < 30) (hline:(apos.endLine == pos.line)=true) (hAct:Act c F s.heap ow σ)
  (hP:Z2 c F (Z7 c) (Zv c) s.heap ow s ((I.ev o σ).bind fun r σ=>(opt (if W9 mn r.1.d then some () else none) σ).bind fun O σ=>(Y3 I args σ).bind fun ds σ=>W8 mn r.1.d ds σ) Q E) :
  wpAny (MD c) A (eval (.Call (.Attribute o mn apos) args [] pos) F.env) Q E s:=by
 refine wpAny_Call_method_late (Xe hb) ?_ hline (ZZ hs) (hE m o A F s ow σ E _ h1 hA hF hAct (Z2.bind hP Z6 Zk fun r s1_ v h1_ ow1 tk1 O hA1 hS1 hr hP1_=>?_))
 ·rw[ZZ hs]
  simp only[List.all_map,Function.comp_def,Bool.not_false,List.all_eq_true,Bool.and_eq_true,decide_eq_true_eq]
  simp[hlen]
  intro a b h
  have e:backToKw pos (keywordEach [] F.env)=[]:=rfl
  rw[e] at h
  exact nomatch h
 ·obtain ⟨u,hu,hP2_⟩:=Z2.opt hP1_
  have hm:W9 mn r.1.d=true:=by
   refine ite_el hu (fun q_ hu=>?_) fun q_ hu=>?_
   ·assumption
   ·exact Z3 hu
  have M:=Zam (s:={s with heap:=h1_,toks:=tk1}) hA1 hr.v hm
  refine ⟨_,_,M.attrs,M.slot,M.type,M.is,M.noDict,?_⟩
  refine callWith_builtin (Y9 _ _) (Yb (Xd hE hA hF args {s with heap:=h1_,toks:=tk1} ow1 s1_ _ ho hA1 (Z2.bind hP2_ Z6 Zk fun ds q7 vs h2_ ow2_ tk2 O hA2 hS2 hrs hP3=>?_)))
  exact Z1P (s:={s with heap:=h2_,toks:=tk2}) hA2 (hr.v.step hS2 hA1.new) hm hrs hP3
end NZ.Internal
namespace NZ.Internal
open PySem PySem.Calls PyProof.Rows PySem.W
variable {c:Cx}{ow:Z5}{M:Model}{A:Around}{F:Frm}{s:Shared}{σ:St}{E:Value->Shared->Prop}{I:Itp}{n m:Nat}
theorem Z02(name)(k)(key v)(o){es}{n}(hd:o.data=.dict es n) :
  ∃ es' n',(Obj.putName name k key v o).data=.dict es' n'/\es'.size<=es.size+1/\((nsFind es name).isSome=true->es'.size=es.size):=by
 rw[Obj.putName_eq]
 obtain ⟨cl,d,dt,sl⟩:=o
 cases hd
 unfold Obj.putNameByArray
 dsimp only
 cases q:es.findIdx? (·.key.isStr name) with
 |some=>exact ⟨_,_,rfl,by simp,by simp⟩
 |none=>
  refine ⟨_,_,rfl,by simp,fun h=>?_⟩
  unfold nsFind at h
  rw[findBy_of_findIdx?,q] at h
  exact Z4 h
theorem Z6f{a}{m}{name}{v}{o}{es}{n}{Q}(hn:s.heap.Ns a m)(ho:s.heap.get? a=some o)(hd:o.data=.dict es n)
  (hQ:∀ h' o' es' n',h'.Ns a (fun x=>if x=name then some v else m x)->Heap.SameBut a s.heap h'->h'.get? a=some o'->o'.cls=o.cls->o'.dict=o.dict->o'.slots=o.slots->o'.data=.dict es' n'->es'.size<=es.size+1 ->
   ((m name).isSome=true->es'.size=es.size)->Q () {s with heap:=h',toks:=s.toks+1}):wpAny M A (nsSet a name v) Q E s:=fun Γ p O=>by
 rw[Xo hn]
 have key:=Sem.wp_nsSet M Γ (fun O O O=>True) p s hn name v (fun O O s'=>s'.heap.Ns a (fun x=>if x=name then some v else m x)/\Heap.SameBut a s.heap s'.heap) (fun h' x y=>⟨x,y⟩)
 rw[Xo hn] at key
 obtain ⟨h1,h2,h3,O⟩:=WJ name (if name.cps.isEmpty then 0 else reduceHash (M.w.params.strHash name.cps)) (.str name s.toks) v o
 obtain ⟨es',n',h5,h6,h7⟩:=Z02 name (if name.cps.isEmpty then 0 else reduceHash (M.w.params.strHash name.cps)) (.str name s.toks) v o hd
 obtain ⟨o1_,es1,ep,ho1_,hd1_,O,hf⟩:=hn
 rw[ho] at ho1_;obtain rfl:=Option.some.inj ho1_
 rw[hd] at hd1_;cases hd1_
 exact hQ _ _ es' n' key.1 key.2 (Heap.get?_update_self _ ho (Obj.isFreed_of_dict h5)) h1 h2 h3 h5 h6 fun q=>h7 (by rw[hf];exact q)
structure WY(K:Frag)(C:Addr)(name:Str):Prop where
 set:findIn K (.ref C) "__setattr__"=some (some (.builtin "object.__setattr__"))
 plain:plainOver K C=true
 taker:takerIn K C name=some none
 dict:(clsIn K C).any (fun O=>O.hasDict)=true
theorem Z22{K}{C x dx}{ox od}{name}{v}{mm}{es}{n}{Q}(X:K.In s.heap)(hC:WY K C name)
  (hx:s.heap.get? x=some ox) (hcl:ox.cls=.ref C) (hno:notCls ox=true) (hdd:ox.dict=some dx) (hd:s.heap.get? dx=some od) (hns:s.heap.Ns dx mm) (hdat:od.data=.dict es n) (hz:es.size<=1000)
  (h:∀ h' od' es' n',h'.Ns dx (fun y=>if y=name then some v else mm y)->Heap.SameBut dx s.heap h'->h'.get? dx=some od'->od'.cls=od.cls->od'.dict=od.dict->od'.slots=od.slots->od'.data=.dict es' n'->es'.size<=es.size+1 ->
   ((mm name).isSome=true->es'.size=es.size)->Q () {s with heap:=h',toks:=s.toks+2}) :
  wpAny (MD c) A (setAttr (.ref x) name v) Q E s:=by
 have I:InstAt s.heap x ox C (some od):=⟨hx,hcl,hno,by rw[hdd];exact hd⟩
 refine set_plain X I hC.set (osa_open (s:={s with toks:=s.toks+1}) X I hC.plain hC.taker fun b=>?_)
 obtain ⟨cd,hc,hd'⟩:=any_some hC.dict
 obtain ⟨oc,odi,oda,osl⟩:=ox
 dsimp only at hcl hdd
 subst hcl hdd
 refine wpAny_bind (wpAny_pure (wpAny_bind (wpAny_bind (wpAny_loadPart hx (wpAny_bind (Looks.here (s:={s with toks:=s.toks+1}) (looks_clsIn X hc) ?_))))))
 rw[hd']
 refine wpAny_pure (a:=some dx) (wpAny_bind (wpAny_pure (wpAny_bind ?_)))
 refine Z6f (s:={s with toks:=s.toks+1}) hns hd hdat fun h' od' es' n' k1 k2 k3 k4 k5 k6 k7 k8 k9=>?_
 refine wpAny_bind (wpAny_lookBehind k3 (by rw[k7];exact pastItsLine_dict (by rw[sizeLine_eq];lia)) ?_)
 exact wpAny_pure (h h' od' es' n' k1 k2 k3 k4 k5 k6 k7 k8 k9)
end NZ.Internal
namespace NZ.Internal
open PySem PySem.Calls PyProof.Rows PySem.W
variable {c:Cx}{ow:Z5}{A:Around}{F:Frm}{s:Shared}{σ:St}{E:Value->Shared->Prop}{I:Itp}{n m:Nat}
noncomputable def Zcs{s:Stmt}(v:SV s):Option (Str × Expr):=by
 induction v with
 |asgA x O a U e V=>exact if x="self" then some (a,e) else none
 |_=>exact none
noncomputable def initStep?(s:Stmt):Option (Str × Expr):=Zcs (sv s)
inductive Src where
 |nam (x:Str)
 |con (c:Const)
 |bad
noncomputable def Z6g{e:Expr}(v:BV e):Src:=by
 induction v with
 |nam x O=>exact .nam x
 |con c O U=>exact .con c
 |_=>exact .bad
def Zaw:Const->Value->Prop:=fun O U=>match O,U with
 |.none,v=>v=.none
 |.bool b,v=>v=.bool b
 |.str x,v=>∃ t,v=.str x t
 |O,U=>False
noncomputable def Zct:Const->Bool:=fun O=>match O with
 |.none=>true
 |.bool O=>true
 |.str O=>true
 |O=>false
def Z03(m:Str->Option Value)(e:Expr)(v:Value):Prop:=match Z6g (bv e) with
 |.nam x=>m x=some v
 |.con c=>Zaw c v
 |.bad=>False
def K3(kd:Str->Option NameKind)(m:Str->Option Value)(e:Expr):Prop:=match Z6g (bv e) with
 |.nam x=>kd x=some .local/\(x == ("__debug__":Str))=false/\∃ v,m x=some v
 |.con c=>Zct c=true
 |.bad=>False
inductive Z38:Expr->Src->Prop
 |nam (x:Str) (p:Pos):Z38 (.Name x p) (.nam x)
 |con (c:Const) (k:Nat) (p:Pos):Z38 (.Constant c k p) (.con c)
 |bad (e:Expr):Z38 e .bad
theorem Z6h(e):Z38 e (Z6g (bv e)):=by
 generalize bv e=v
 induction v with
 |nam x p=>exact .nam x p
 |con c k p=>exact .con c k p
 |_=>exact .bad _
noncomputable def Z87(mm:Str->Option Value):List (Str × Value)->Str->Option Value:=fun O=>match O with
 |[]=>mm
 |(a,v)::r=>Z87 (fun y=>if y=a then some v else mm y) r
theorem Z0W{st}{q}(h:initStep? st=some q):∃ xp ap p,st=.Assign [.Attribute (.Name "self" xp) q.1 ap] q.2 p:=by
 unfold initStep? at h
 generalize sv st=v at h
 induction v with
 |asgA x xp a ap e p=>
  obtain ⟨rfl,h⟩:=Option.ite_none_right_eq_some.mp h
  obtain rfl:=Option.some.inj h
  exact ⟨_,_,_,rfl⟩
 |_=>first|exact Z3 h|exact Z4 h|cases h
theorem Z6i{M}{env}{mL}{e}{Q}(hk:env.scope.kind=.function)(hn:s.heap.Ns env.locals mL)(ho:K3 env.kindOf mL e)
  (h:∀ v tk,Z03 mL e v->Q v {s with toks:=tk}):wpAny M A (eval e env) Q E s:=by
 have q:=Z6h e
 unfold K3 at ho
 unfold Z03 at h
 generalize Z6g (bv e)=v at q ho h
 induction q with
 |nam x p=>
  obtain ⟨h1,h2,v,h3⟩:=ho
  exact wpAny_Name (wpAny_loadName_local hk h1 hn h3 (h v s.toks h3)) h2
 |con c k p=>
  induction c with
  |none=>exact wpAny_Constant_none (h _ s.toks rfl)
  |bool b=>exact wpAny_Constant_bool (h _ s.toks rfl)
  |str x=>exact wpAny_Constant_str (h _ (s.toks+1) ⟨_,rfl⟩)
  |_=>exact absurd ho Bool.false_ne_true
 |bad e=>exact ho.elim
theorem Z3X{kd}{mL}{e}(h:K3 kd mL e)(t)(l)(env):swapsWith e t l env=pure false:=by
 have q:=Z6h e
 unfold K3 at h
 generalize Z6g (bv e)=v at q h
 induction q with
 |nam x p=>rfl
 |con c k p=>rfl
 |bad e=>exact h.elim
def Zcu(l:List (Str × Expr))(mL mm:Str->Option Value)(es:Array DictEntry)(od:Obj)(dx:Addr)(s:Shared)(Q:Flow->Shared->Prop):Prop:=
 ∀ h' tk vs od' es' n',vs.length=l.length->(∀ (i:Nat) p v,l[i]?=some p->vs[i]?=some v->Z03 mL p.2 v)->Heap.SameBut dx s.heap h'->h'.get? dx=some od'->od'.cls=od.cls->od'.data=.dict es' n'->es'.size<=es.size+l.length ->
    h'.Ns dx (Z87 mm ((l.map (fun O=>O.1)).zip vs))->Q .next {s with heap:=h',toks:=tk}
theorem Z6j{env}{x dx C}{mL}(hk:env.scope.kind=.function)(hself:env.kindOf "self"=some .local)(hms:mL "self"=some (.ref x))(hL:env.locals≠dx)(hx:x≠dx)(hK:c.n₀<=dx){ox}(hcl:ox.cls=.ref C)(hno:notCls ox=true)(hdd:ox.dict=some dx)
  (body):∀ (l:List (Str × Expr)),body.map initStep?=l.map some->(∀ p∈l,WY c.K C p.1/\K3 env.kindOf mL p.2)->∀ (s:Shared) (mm:Str->Option Value) (es:Array DictEntry) (n:Nat) (od:Obj) (Q:Flow->Shared->Prop),
   (∀ a o,c.h₀.get? a=some o->s.heap.get? a=some o)->s.heap.Ns env.locals mL->s.heap.get? x=some ox->s.heap.get? dx=some od->s.heap.Ns dx mm->od.data=.dict es n->es.size+l.length<=1000->Zcu l mL mm es od dx s Q->wpAny (MD c) A (execs body env) Q E s:=by
 induction body with
 |nil=>
  intro l hl O s mm es n od Q O O O hd hn hdat O h
  obtain rfl:l=[]:=List.map_eq_nil_iff.mp hl.symm
  exact wpAny_execs_nil (h s.heap s.toks [] od es n rfl (fun i p v e=>by exact Z3 e) (.refl ..) hd rfl hdat (Nat.le_refl _) hn)
 |cons st body ih=>
  intro l hl hp s mm es n od Q h0 hnL hgx hd hn hdat hz h
  refine gG fun G gk=>?_
  obtain ⟨q,l,rfl,hl1,hl2⟩:=List.map_eq_cons_iff.mp hl.symm
  obtain ⟨hset,hsrc⟩:=hp q List.mem_cons_self
  obtain ⟨xp,ap,p,rfl⟩:=Z0W hl1.symm
  refine gk ?_
  have hz:es.size+(l.length+1)<=1000:=hz
  refine wpAny_execs_cons (plainObj_wpAny_Assign_Attribute (Z6i hk hnL hsrc fun v tk hv=>?_) (Z3X hsrc _ _ _))
  refine wpAny_Name (wpAny_loadName_local hk hself hnL hms ?_) (by decide)
  refine Z22 (s:={s with toks:=tk}) (fun a o e=>h0 a o (c.X a o e)) hset hgx hcl hno hdd hd hn hdat (by lia) fun h1_ od1 es1 n1_ k1 k2 k3 k4 k5 k6 k7 k8 k9=>?_
  dsimp only at k2
  refine ih l hl2.symm (fun p hp'=>hp p (List.mem_cons_of_mem _ hp')) {s with heap:=h1_,toks:=tk+2} _ es1 n1_ od1 Q (fun b o e=>(k2.2 b (Nat.ne_of_lt (Nat.lt_of_lt_of_le (Heap.lt_size e) hK))).trans (h0 b o e))
   (hnL.sameBut k2 hL) ((k2.2 x hx).trans hgx) k3 k1 k7 (by lia) fun h2_ tk2 vs od2 es2_ n2_ g1 g2 g3 g4 g5 g6 g7 g8=>?_
  refine h h2_ tk2 (v::vs) od2 es2_ n2_ (congrArg (fun O=>O+1) g1) (fun i p' v' e1 e2=>?_) (k2.trans g3) g4 (g5.trans k4) g6 (by rw[List.length_cons];lia) g8
  induction i with
  |zero=>cases e1;injection e2 with e2;subst e2;exact hv
  |succ i=>exact g2 i p' v' e1 e2
structure Z23(c:Cx)(C fI:Addr)(o:Obj)(fd:FuncData)(body:List Stmt)(l:List (Str × Expr)):Prop where
 makes:makesIn c.K C=true
 init:findIn c.K (.ref C) "__init__"=some (some (.ref fI))
 fn:typeIn c.K (.ref fI)=some (.type "function")
 obj:c.K.lookup fI=some o
 data:o.data=.func fd
 bodyIs:fd.body=.stmts body
 shape:body.map initStep?=l.map some
 code:codeIn c.K fd.code fd.qualname=true
 scope:Y0 fd.scope=true
 cells:∀ x∈fd.scope.names,x.2≠.cell
 self:fd.scope.names.lookup ("self":Str)=some .local
 sets:∀ p∈l,WY c.K C p.1
theorem K4{C fI}{o}{fd}{body}{l}{vs}{binds}{R}(hI:Z23 c C fI o fd body l)(h0:∀ a o,c.h₀.get? a=some o->s.heap.get? a=some o)(hn0:c.n₀<=s.heap.objs.size)
  (hroom:A.depth+1 < recursionLimit) (hb:∀ s':Shared,c.K.In s'.heap->BindsTo s' fd ⟨.ref (s.heap.objs.size+1)::vs,[]⟩ binds) (hloc:∀ x∈binds,fd.scope.names.lookup x.1=some .local) (hbs:binds.reverse.lookup ("self":Str)=some (.ref (s.heap.objs.size+1)))
  (hsrc:∀ p∈l,K3 (fun x=>fd.scope.names.lookup x) (fun x=>binds.reverse.lookup x) p.2) (hll:l.length<=1000)
  (hR:∀ h' tk us od' es' n',(∀ b o,s.heap.get? b=some o->h'.get? b=some o)->s.heap.objs.size+2<=h'.objs.size->h'.get? (s.heap.objs.size+1)=some (instObj C s.heap.objs.size)->h'.get? s.heap.objs.size=some od'->od'.cls=.type "dict"->od'.data=.dict es' n'->es'.size<=l.length ->
   h'.Ns s.heap.objs.size (Z87 (fun O=>none) ((l.map (fun O=>O.1)).zip us))->us.length=l.length->(∀ (i:Nat) p v,l[i]?=some p->us[i]?=some v->Z03 (fun x=>binds.reverse.lookup x) p.2 v)->R (.ok (.ret (.ref (s.heap.objs.size+1)))) {s with heap:=h',toks:=tk}) :
  codeAny (MD c) A (.call (.ref C) ⟨vs,[]⟩) R s:=by
 obtain ⟨hh,g,d,t,os⟩:=s
 dsimp only at *
 have X:c.K.In hh:=fun a o e=>h0 a o (c.X a o e)
 have hsc:fd.scope.kind=.function/\fd.scope.isCoroutine=false/\fd.scope.isGenerator=false:=by
  have:=hI.scope
  unfold Y0 at this
  simpa [and_assoc] using this
 refine make_core (makes_of X hI.makes) (looks_findIn X hI.init) (fun self=>bind_fn X self hI.fn) (.inl rfl) ?_
 have keep:∀ b o,hh.get? b=some o->((hh.push emptyDict).push (instObj C hh.objs.size)).get? b=some o:=fun b o e=>Heap.get?_push_of_some _ (Heap.get?_push_of_some _ e)
 have X':c.K.In ((hh.push emptyDict).push (instObj C hh.objs.size)):=X.keeps keep
 have h0':∀ a o,c.h₀.get? a=some o->((hh.push emptyDict).push (instObj C hh.objs.size)).get? a=some o:=fun a o e=>keep a o (h0 a o e)
 have gx:((hh.push emptyDict).push (instObj C hh.objs.size)).get? (hh.objs.size+1)=some (instObj C hh.objs.size):=by
  have:=Heap.get?_push_size (hh.push emptyDict) (o:=instObj C hh.objs.size) rfl
  rwa [Heap.size_push] at this
 have gd:((hh.push emptyDict).push (instObj C hh.objs.size)).get? hh.objs.size=some emptyDict:=Heap.get?_push_of_some _ (Heap.get?_push_size hh rfl)
 have hsz:((hh.push emptyDict).push (instObj C hh.objs.size)).objs.size=hh.objs.size+2:=by rw[Heap.size_push,Heap.size_push]
 refine codeAny_call_def (fd:=fd) (body:=body) (binds:=binds) (by rw[depth_under_make];exact hroom) (X' _ _ hI.obj) hI.data (c.T.nolimit.keeps h0') (codeRec_of X' hI.code) hI.bodyIs (hb _ X') hI.cells hloc (fun h1_ hns hk1_=>?_) hsc.2.1 hsc.2.2 hsc.1
 dsimp only at hns hk1_ ⊢
 rw[hsz] at hns ⊢
 refine Z6j (c:=c) (env:=callEnv fd (hh.objs.size+2) fI) (ox:=instObj C hh.objs.size) (x:=hh.objs.size+1) (dx:=hh.objs.size) (C:=C) (mL:=fun x=>binds.reverse.lookup x) hsc.1 hI.self hbs (show hh.objs.size+2≠hh.objs.size by lia) (show hh.objs.size+1≠hh.objs.size by lia) hn0 rfl rfl rfl body l hI.shape (fun p hp=>⟨hI.sets p hp,hsrc p hp⟩) _ (fun O=>none) #[] 0 emptyDict _
  (fun a o e=>hk1_ a o (h0' a o e)) hns (hk1_ _ _ gx) (hk1_ _ _ gd) ⟨_,_,_,hk1_ _ _ gd,rfl,fun e he=>by simp at he,fun O=>rfl⟩ rfl (by simpa using hll) fun h' tk us od' es' n' g1 g2 g3 g4 g5 g6 g7 g8=>?_
 refine ⟨rfl,hR h' tk us od' es' n' (fun b o e=>(g3.2 b (Nat.ne_of_lt (Heap.lt_size e))).trans (hk1_ b o (keep b o e))) ?_ ((g3.2 (hh.objs.size+1) (show hh.objs.size+1≠hh.objs.size by lia)).trans (hk1_ _ _ gx)) g4 g5 g6 (by simpa using g7) g8 g1 g2⟩
 rw[g3.1]
 exact Nat.le_of_lt hns.lt
inductive Zax(c:Cx):Prop
 |mk (fI:Addr) (o:Obj) (fd:FuncData) (body:List Stmt) (p1 p2 p3 p4 p5:Pos) (k4 k5:Nat) (O:Z23 c c.CV fI o fd body [("kind",.Name "kind" p1),("items",.Name "items" p2),("attrs",.Name "attrs" p3),("shared",.Constant (.bool false) k4 p4),("loose",.Constant (.bool false) k5 p5)])
  (O:∀ (s':Shared) x vk vi,c.K.In s'.heap->BindsTo s' fd ⟨[x,vk,vi],[]⟩ [("self",x),("kind",vk),("items",vi),("attrs",.none)])
  (O:∀ (s':Shared) x vk vi va,c.K.In s'.heap->BindsTo s' fd ⟨[x,vk,vi,va],[]⟩ [("self",x),("kind",vk),("items",vi),("attrs",va)])
  (O:fd.scope.names.lookup ("kind":Str)=some .local) (O:fd.scope.names.lookup ("items":Str)=some .local) (O:fd.scope.names.lookup ("attrs":Str)=some .local)
structure Z39(c:Cx):Prop where
 keep:keepIn c.K (.ref c.CV)=true
 ini:Zax c
theorem ZdK{α:Type}{l:List α}(h:l.length=5):∃ a b d e f,l=[a,b,d,e,f]:=by
 refine gG fun G gk=>?_
 obtain ⟨a,l1,rfl,h1⟩:=uncons h
 obtain ⟨b,l2,rfl,h2⟩:=uncons h1
 obtain ⟨d,l3,rfl,h3⟩:=uncons h2
 obtain ⟨e,l4,rfl,h4⟩:=uncons h3
 obtain ⟨f,l5,rfl,h5⟩:=uncons h4
 refine gk ?_
 obtain rfl:=List.length_eq_zero_iff.mp h5
 exact ⟨a,b,d,e,f,rfl⟩
theorem ZdL{α:Type}{P:α->Prop}{a b d e f:α}(h1:P a)(h2:P b)(h3:P d)(h4:P e)(h5:P f):∀ x∈[a,b,d,e,f],P x:=by
 simp only[List.forall_mem_cons,List.not_mem_nil,false_implies,implies_true,and_true]
 exact ⟨h1,h2,h3,h4,h5⟩
theorem ZdM{α:Type}{P:α->Prop}{a b d e:α}(h1:P a)(h2:P b)(h3:P d)(h4:P e):∀ x∈[a,b,d,e],P x:=by
 simp only[List.forall_mem_cons,List.not_mem_nil,false_implies,implies_true,and_true]
 exact ⟨h1,h2,h3,h4⟩
theorem Z0X{vs}{vk vi va}{k i t}{Q}(hV:Z39 c)(hroom:A.depth+1 < recursionLimit)(hAct:Act c F s.heap ow σ)(hvs:(vs=[vk,vi]/\va=.none)\/vs=[vk,vi,va])(hk:Rep c s.heap ow vk k)(hi:Rep c s.heap ow vi i)(ht:Rep c s.heap ow va t)
  (hP:Z2 c F (Z7 c) (Zv c) s.heap ow s (.ok (.ov k i t false,none) σ) Q E):wpAny (MD c) A (call (.ref c.CV) vs) Q E s:=by
 obtain ⟨fI,o,fd,body,p1,p2,p3,p4,p5,k4,k5,hI,hb2,hb3,lk,li,la⟩:=hV.ini
 have n0:c.n₀<=s.heap.objs.size:=Nat.le_trans hAct.n0 hAct.pres.1
 refine wpAny_call (K4 (binds:=[("self",.ref (s.heap.objs.size+1)),("kind",vk),("items",vi),("attrs",va)]) hI hAct.h0 n0 hroom ?_ ?_ ?_ ?_ (by simp) fun h' tk us od' es' n' g1 g2 g3 g4 g5 g6 g7 g8 g9 g10=>?_)
 ·intro s' X
  rcases hvs with ⟨rfl,rfl⟩|rfl
  ·exact hb2 s' _ _ _ X
  ·exact hb3 s' _ _ _ _ X
 ·exact ZdM hI.self lk li la
 ·kernel_rfl
 ·exact ZdL ⟨lk,by decide,vk,by kernel_rfl⟩ ⟨li,by decide,vi,by kernel_rfl⟩ ⟨la,by decide,va,by kernel_rfl⟩ rfl rfl
 ·refine gG fun G gk=>?_
  obtain ⟨u0,u1,u2,u3,u4,rfl⟩:=ZdK g9
  refine gk ?_
  have e0:u0=vk:=Option.some.inj ((g10 0 _ _ rfl rfl).symm.trans (by kernel_rfl))
  have e1:u1=vi:=Option.some.inj ((g10 1 _ _ rfl rfl).symm.trans (by kernel_rfl))
  have e2:u2=va:=Option.some.inj ((g10 2 _ _ rfl rfl).symm.trans (by kernel_rfl))
  subst e0 e1 e2
  have hsize:s.heap.objs.size<=h'.objs.size:=by lia
  obtain ⟨a1,a2⟩:=hAct.grow (h':=h') (ow':=upd (upd ow s.heap.objs.size .tmp) (s.heap.objs.size+1) .tmp) hsize (fun b o e=>⟨o,g1 b o e,.refl _,fun O=>rfl⟩)
   (fun b hb=>by rw[ZD (show b≠s.heap.objs.size+1 by lia),ZD (show b≠s.heap.objs.size by lia)])
   (fun b hb=>by unfold upd;split;exact ⟨nofun,nofun⟩;split;exact ⟨nofun,nofun⟩;rw[hAct.new b hb];exact ⟨nofun,nofun⟩)
   (fun b hb=>by rw[ZD (show b≠s.heap.objs.size+1 by lia),ZD (show b≠s.heap.objs.size by lia)];exact hAct.new b (by lia))
  refine hP _ h' _ tk a1 a2 ⟨⟨s.heap.objs.size+1,s.heap.objs.size,od',_,u0,u1,u2,rfl,Y7 _ _ _,?_,n0,g3,g4,⟨g5,es',n',g6,by simp at g7;lia⟩,g8,?_,by kernel_rfl,by kernel_rfl,by kernel_rfl,hk.step a2 hAct.new,hi.step a2 hAct.new,ht.step a2 hAct.new⟩,nofun⟩
  ·show upd _ _ _ _=Own.tmp
   rw[ZD (show s.heap.objs.size≠s.heap.objs.size+1 by lia)];exact Y7 _ _ _
  ·show (Z87 (fun O=>none) [("kind",u0),("items",u1),("attrs",u2),("shared",u3),("loose",u4)] "shared").isSome=true
   kernel_rfl
theorem Z88{ds}{lv}{vs}{Q}(hV:Z39 c)(hroom:A.depth+1 < recursionLimit)(hAct:Act c F s.heap ow σ)(hds:Zm c s.heap ow σ vs ds)(e:blt "Vector" ds=some lv)
  (hP:Z2 c F (Z7 c) (Zv c) s.heap ow s (.ok (lv,none) σ) Q E):wpAny (MD c) A (call (.ref c.CV) vs) Q E s:=by
 rw[show blt "Vector" ds=ZaY ds by kernel_rfl] at e
 cases ds with
 |nil=>exact Z3 e
 |cons k ds=>cases ds with
  |nil=>exact Z3 e
  |cons i ds=>cases ds with
   |nil=>
    obtain ⟨v,u,rfl,h1,h2⟩:=hds.two
    obtain rfl:=Option.some.inj e
    exact Z0X hV hroom hAct (.inl ⟨rfl,rfl⟩) h1 h2 .none hP
   |cons a ds=>induction ds with
    |nil=>
     obtain ⟨v,u,w,rfl,h1,h2,h3⟩:=hds.three
     obtain rfl:=Option.some.inj e
     exact Z0X hV hroom hAct (.inr rfl) h1 h2 h3 hP
    |cons=>exact Z3 e
inductive Z89(c:Cx):Prop
 |mk (fI:Addr) (o:Obj) (fd:FuncData) (body:List Stmt) (p1 p2:Pos) (k1 k2:Nat) (O:Z23 c c.CN fI o fd body [("kind",.Constant (.str "NULL") k1 p1),("attrs",.Constant .none k2 p2)])
  (O:∀ (s':Shared) x,c.K.In s'.heap->BindsTo s' fd ⟨[x],[]⟩ [("self",x)])
structure Z04(c:Cx):Prop where
 keep:keepIn c.K (.ref c.CN)=true
 ini:Z89 c
theorem Z3Y{Q}(hV:Z04 c)(hroom:A.depth+1 < recursionLimit)(hAct:Act c F s.heap ow σ)
  (hP:Z2 c F (Z7 c) (Zv c) s.heap ow s (.ok (.fr .null,none) σ) Q E):wpAny (MD c) A (call (.ref c.CN) []) Q E s:=by
 obtain ⟨fI,o,fd,body,p1,p2,k1,k2,hI,hb⟩:=hV.ini
 have n0:c.n₀<=s.heap.objs.size:=Nat.le_trans hAct.n0 hAct.pres.1
 refine wpAny_call (K4 (binds:=[("self",.ref (s.heap.objs.size+1))]) hI hAct.h0 n0 hroom (fun s' X=>hb s' _ X) ?_ rfl ?_ (by simp) fun h' tk us od' es' n' g1 g2 g3 g4 g5 g6 g7 g8 g9 g10=>?_)
 ·intro x hx
  simp only[List.mem_cons,List.not_mem_nil,or_false] at hx
  subst hx;exact hI.self
 ·intro p hp
  rcases List.mem_cons.mp hp with rfl|hp
  ·exact rfl
  ·obtain rfl:=List.mem_singleton.mp hp
   exact rfl
 ·refine gG fun G gk=>?_
  obtain ⟨u0,us1,rfl,i1⟩:=uncons g9
  obtain ⟨u1,us2,rfl,i2⟩:=uncons i1
  refine gk ?_
  obtain rfl:=List.length_eq_zero_iff.mp i2
  obtain ⟨t,e0⟩:∃ t,u0=.str "NULL" t:=g10 0 _ _ rfl rfl
  have e1:u1=.none:=g10 1 _ _ rfl rfl
  subst e0 e1
  have hsize:s.heap.objs.size<=h'.objs.size:=by lia
  obtain ⟨a1,a2⟩:=hAct.grow (h':=h') (ow':=upd (upd ow s.heap.objs.size .frozen) (s.heap.objs.size+1) .frozen) hsize (fun b o e=>⟨o,g1 b o e,.refl _,fun O=>rfl⟩)
   (fun b hb=>by rw[ZD (show b≠s.heap.objs.size+1 by lia),ZD (show b≠s.heap.objs.size by lia)])
   (fun b hb=>by unfold upd;split;exact ⟨nofun,nofun⟩;split;exact ⟨nofun,nofun⟩;rw[hAct.new b hb];exact ⟨nofun,nofun⟩)
   (fun b hb=>by rw[ZD (show b≠s.heap.objs.size+1 by lia),ZD (show b≠s.heap.objs.size by lia)];exact hAct.new b (by lia))
  refine hP _ h' _ tk a1 a2 ⟨Rep.null (t:=t) (Y7 _ _ _) ?_ g3 g4 g5 g8 (by kernel_rfl) (by kernel_rfl) (by kernel_rfl),nofun⟩
  show upd _ _ _ _=Own.frozen
  rw[ZD (show s.heap.objs.size≠s.heap.objs.size+1 by lia)];exact Y7 _ _ _
theorem Z6k{ds}{lv}{vs}{Q}(hV:Z04 c)(hroom:A.depth+1 < recursionLimit)(hAct:Act c F s.heap ow σ)(hds:Zm c s.heap ow σ vs ds)(e:blt "Null" ds=some lv)
  (hP:Z2 c F (Z7 c) (Zv c) s.heap ow s (.ok (lv,none) σ) Q E):wpAny (MD c) A (call (.ref c.CN) vs) Q E s:=by
 rw[show blt "Null" ds=Z8w ds by kernel_rfl] at e
 cases ds with
 |nil=>
  obtain rfl:=hds.nil
  obtain rfl:=Option.some.inj e
  exact Z3Y hV hroom hAct hP
 |cons=>exact Z3 e
theorem VO{f}{C}{p pos}{args}{Q}(hE:EvS c I n)(hA:AOk n A F)(hF:FOk F)(hg:Ys F.env.kindOf f=true)(hm:c.mg f=some (.ref C))(hk:keepIn c.K (.ref C)=true)(hs:args.all Zz=true)
  (ho:args.all (okE m F.cenv.isSome F.env.kindOf)=true) (hAct:Act c F s.heap ow σ)
  (hb:∀ (s:Shared) (ow:Z5) (σ:St) ds lv vs (Q:Value->Shared->Prop),Act c F s.heap ow σ->Zm c s.heap ow σ vs ds->blt f ds=some lv->Z2 c F (Z7 c) (Zv c) s.heap ow s (.ok (lv,none) σ) Q E->wpAny (MD c) A (call (.ref C) vs) Q E s)
  (hP:Z2 c F (Z7 c) (Zv c) s.heap ow s ((Y3 I args σ).bind (Z2z f)) Q E):wpAny (MD c) A (eval (.Call (.Name f p) args [] pos) F.env) Q E s:=by
 refine Yr hs (YH hAct hg (.inl hm) ?_)
 refine callWith_of (P:=c.K.In) (by rw[Y9];rfl) (keeps_K hk) ?_
 refine Yb (Xd hE hA hF args s ow σ _ ho hAct (Z2.bind hP Z6 Zk fun ds s1_ vs h1_ ow1 tk1 O hA1 hS1 hr hP1_=>?_))
 obtain ⟨lv,e,hP2_⟩:=Z2.opt hP1_
 exact ⟨fun a o e=>hA1.h0 a o (c.X a o e),hb {s with heap:=h1_,toks:=tk1} ow1 s1_ ds lv vs Q hA1 hr e hP2_⟩
theorem K5:typeOf (.type "list")=pure (.type "type"):=by kernel_rfl
theorem Z6l:isSubtype (.type "list") (.type "list")=pure true:=by rw[isSubtype_type];kernel_rfl
theorem Z05:isSubtype (.type "int") (.type "list")=pure false:=by rw[isSubtype_type];kernel_rfl
theorem Z6m{v cv}{lv}{cn}{b}{Q}(hAct:Act c F s.heap ow σ)(hv:ZS c s.heap ow v lv)(e:Vp lv.d cn=some b)(hc:(cn="Vector"->cv=.ref c.CV)/\(cn="list"->cv=.type "list"))
  (hQ:∀ tk,Q (.bool b) {s with toks:=tk}):wpAny (MD c) A (call (.builtin "isinstance") [v,cv]) Q E s:=by
 unfold Vp at e
 split at e
 ·rename_i q
  obtain rfl:=hc.1 q
  have X:c.K.In s.heap:=fun a o e=>hAct.h0 a o (c.X a o e)
  obtain ⟨p,q2,e⟩:=Option.map_eq_some_iff.mp e
  obtain rfl:=e
  have q2:=D.v?_of q2
  have hx:∃ a dx od,v=.ref a/\s.heap.get? a=some (instObj c.CV dx)/\s.heap.get? dx=some od:=by
   obtain ⟨o,ho,x⟩:=hv
   induction lv with
   |fr d=>obtain rfl:=q2;cases x with
    |vec O U V h1 h2=>exact ⟨_,_,_,rfl,h1,h2⟩
   |ov O U V O1=>obtain ⟨a,dx,od,O,O,O,O,rfl,O,O,O,h1,h2,O⟩:=x;exact ⟨a,dx,od,rfl,h1,h2⟩
   |ol O=>cases q2
   |od O=>cases q2
  obtain ⟨a,dx,od,rfl,h1,h2⟩:=hx
  have I:InstAt s.heap a (instObj c.CV dx) c.CV (some od):=⟨h1,rfl,rfl,h2⟩
  exact isi_call X (fun M=>I.type) (by unfold isIn;simp) nofun (hQ s.toks)
 ·refine ite_el e (fun q e=>?_) fun q_ e=>?_
  ·obtain rfl:=hc.2 q
   cases q2:lv.d.l? with
   |some xs=>
    rw[q2] at e
    obtain rfl:true=b:=Option.some.inj e
    obtain ⟨a,rfl,hl⟩:=hv.list (D.l?_of q2)
    obtain ⟨vs,n,g,O⟩:=hl.isL
    exact call_isinstance_yes g.isList.typeIs K5 Z6l (hQ s.toks)
   |none=>
    rw[q2] at e
    obtain ⟨i,q2,e⟩:=Option.map_eq_some_iff.mp e
    obtain rfl:=e
    obtain ⟨t,rfl⟩:=hv.int (D.i?_of q2)
    exact call_isinstance (isinstance_false_int (by decide) K5 Z05) (hQ _)
  ·exact Z3 e
theorem Z8a{e}{cn}{p pc pos}{Q}(hO:Z6c c)(hE:EvS c I n)(hA:AOk n A F)(hF:FOk F)(hg:Ys F.env.kindOf "isinstance"=true)(hgc:Ys F.env.kindOf cn=true)(hs:Zz e=true)(ho:okE m F.cenv.isSome F.env.kindOf e=true)(hAct:Act c F s.heap ow σ)
  (hP:Z2 c F (Z7 c) (Zv c) s.heap ow s ((I.ev e σ).bind fun r σ=>(opt (Vp r.1.d cn) σ).bind fun b σ=>.ok (.fr (.bool b),none) σ) Q E):wpAny (MD c) A (eval (.Call (.Name "isinstance" p) [e,.Name cn pc] [] pos) F.env) Q E s:=by
 refine Yr (by simp only[List.all_cons,hs];rfl) (YH hAct hg (.inr hO.isi) ?_)
 refine callWith_builtin (Y9 _ _) (Yb ?_)
 refine spliced_cons (hE m e A F s ow σ E _ ho hA hF hAct (Z2.bind hP Z6 Zk fun r s1_ v h1_ ow1 tk1 O hA1 hS1 hr hP1_=>?_))
 obtain ⟨b,e',hP2_⟩:=Z2.opt hP1_
 have fin:∀ cv,(cn="Vector"->cv=.ref c.CV)/\(cn="list"->cv=.type "list")->wpAny (MD c) A (call (.builtin "isinstance") [v,cv]) Q E {s with heap:=h1_,toks:=tk1}:=fun cv hc=>
  Z6m (s:={s with heap:=h1_,toks:=tk1}) hA1 hr.v e' hc fun tk=>Z2.val (s:={s with heap:=h1_,toks:=tk1}) (tk:=tk) hP2_ hA1 (.bool b)
 have hcn:cn="Vector"\/cn="list":=by
  unfold Vp at e'
  split at e'
  ·exact .inl ‹_›
  ·refine ite_el e' (fun q_ e'=>?_) fun q_ e'=>?_
   ·exact .inr ‹_›
   ·exact Z3 e'
 rcases hcn with rfl|rfl
 ·exact spliced_cons (YH hA1 hgc (.inl hO.vec) (spliced_nil (fin _ ⟨fun O=>rfl,fun q=>absurd q (by decide)⟩)))
 ·exact spliced_cons (YH hA1 hgc (.inr hO.lst) (spliced_nil (fin _ ⟨fun q=>absurd q (by decide),fun O=>rfl⟩)))
theorem Z8b{a}(h:c.n₀<=a):(a == sysModules)=false:=by
 have h3:(3:Nat) < c.h₀.objs.size:=c.T.g.lt
 have:(3:Nat) < a:=Nat.lt_of_lt_of_le h3 h
 rw[beq_eq_false_iff_ne]
 exact Nat.ne_of_gt (Nat.lt_trans (show (1:Nat) < 3 by decide) this)
theorem Act.older{h}(hA:Act c F h ow σ):F.fenv.locals < h.objs.size/\(∀ x k,F.fenv.cells.lookup x=some k->k < h.objs.size)/\F.env.locals < h.objs.size:=by
 have S:=hA.scp
 cases hc:F.cenv with
 |none=>
  rw[hc] at S
  obtain ⟨O,O,m,S⟩:=S
  refine ⟨S.ns.lt,fun x k e=>?_,?_⟩
  ·obtain ⟨O,O,O,v,h⟩:=S.cells x k e;exact h.lt
  ·have:F.env=F.fenv:=by unfold Frm.env;rw[hc];rfl
   rw[this];exact S.ns.lt
 |some ce=>
  rw[hc] at S
  obtain ⟨mf,m,S,C⟩:=S
  refine ⟨S.ns.lt,fun x k e=>?_,?_⟩
  ·obtain ⟨O,O,O,v,h⟩:=S.cells x k e;exact h.lt
  ·have:F.env=ce:=by unfold Frm.env;rw[hc];rfl
   rw[this];exact C.ns.lt
structure Y1(F:Frm)(a:Addr):Prop where
 hb:F.hb.objs.size<=a
 loc:a≠F.fenv.locals
 cell:∀ x,F.fenv.cells.lookup x≠some a
 cloc:a≠F.env.locals
 frm:∀ e∈F.frames,e.frame≠some a
theorem Act.apart{h}(hA:Act c F h ow σ){a}(ha:h.objs.size<=a):Y1 F a:=by
 obtain ⟨h1,h2,h3⟩:=hA.older
 exact ⟨Nat.le_trans hA.pres.1 ha,(Nat.ne_of_lt (Nat.lt_of_lt_of_le h1 ha)).symm,fun x e=>Nat.lt_irrefl _ (Nat.lt_of_lt_of_le (h2 x a e) ha),(Nat.ne_of_lt (Nat.lt_of_lt_of_le h3 ha)).symm,fun e he q=>by
  obtain ⟨O,L,o,O,O,hf,hg,O⟩:=hA.frames e he
  rw[hf] at q;obtain rfl:=Option.some.inj q
  exact Nat.lt_irrefl _ (Nat.lt_of_lt_of_le (Heap.lt_size hg) ha)⟩
theorem IsCell.keep{h h':Heap}{k:Addr}{v:Option Value}(x:h.IsCell k v)(e:∀ o,h.get? k=some o->h'.get? k=some o):h'.IsCell k v:=by
 obtain ⟨o,ho,r⟩:=x;exact ⟨o,e o ho,r⟩
theorem Act.adoptE{h h':Heap}{a:Addr}{o':Own}(hA:Act c F h ow σ)(ha:Y1 F a)(hsz:h.objs.size<=h'.objs.size)(hot:∀ b o,b≠a->h.get? b=some o->h'.get? b=some o)(hfo:ow a=.foreign)(hlt:a < h.objs.size)(ho':o'≠.poolP/\o'≠.poolC/\(∀ x,o'≠.slot x)):Act c F h' (upd ow a o') σ:=by
 have iffP:∀ b,(upd ow a o' b=.poolP↔ow b=.poolP)/\(upd ow a o' b=.poolC↔ow b=.poolC):=fun b=>by
  unfold upd
  split
  ·rename _=>q;subst q;rw[hfo];exact ⟨⟨fun e=>absurd e ho'.1,nofun⟩,⟨fun e=>absurd e ho'.2.1,nofun⟩⟩
  ·exact ⟨Iff.rfl,Iff.rfl⟩
 have le:YF ow (upd ow a o'):=fun b=>by
  unfold upd
  split
  ·rename _=>q;subst q;rw[hfo];exact ⟨nofun,nofun,nofun⟩
  ·exact ⟨id,id,id⟩
 have hfz:∀ b o,ow b=.frozen->h.get? b=some o->∃ o',h'.get? b=some o'/\Sim o o':=fun b o hw e=>⟨o,hot b o (by rintro rfl;rw[hfo] at hw;exact nomatch hw) e,.refl _⟩
 have lrep:∀ {x:Str} {v:Value} {lv:LV},ZK c h ow (.slot x) v lv->ZK c h' (upd ow a o') (.slot x) v lv:=fun r=>
  r.mono c (fun b o hw e=>⟨o,hot b o (by rintro rfl;rw[hfo] at hw;cases hw) e,.refl _⟩) hfz le fun b hw O=>by rw[ZD (by rintro rfl;rw[hfo] at hw;cases hw)];exact hw
 have scp:∀ {m:Str->Option Value} {vars:Zc},Scp c F.hb.objs.size F.fenv h ow m vars->Scp c F.hb.objs.size F.fenv h' (upd ow a o') m vars:=fun S=>by
  refine ⟨S.ns.at' fun o e=>hot _ o (Ne.symm ha.loc) e,S.nsh,S.low,by rw[ZD (Ne.symm ha.loc)];exact S.own,fun y k e=>?_,S.apart,fun y lv e=>?_⟩
  ·obtain ⟨h1,h2,h3,w,h4⟩:=S.cells y k e
   have hk:k≠a:=by rintro rfl;exact ha.cell y e
   exact ⟨h1,h2,by rw[ZD hk];exact h3,w,IsCell.keep h4 fun o e=>hot k o hk e⟩
  ·obtain ⟨v,hv,hr⟩:=S.vars y lv e
   refine ⟨v,?_,lrep hr⟩
   rcases hv with hv|⟨h1,k,h2,h3⟩
   ·exact .inl hv
   ·exact .inr ⟨h1,k,h2,IsCell.keep h3 fun o e=>hot k o (by rintro rfl;exact ha.cell y h2) e⟩
 refine ⟨⟨Nat.le_trans hA.pres.1 hsz,fun b o e n1 n2=>?_⟩,fun b o e=>?_,hA.n0,fun b hb=>?_,fun b hb=>?_,?_,fun e he=>?_,hA.head,hA.ok,?_⟩
 ·obtain ⟨o2_,e2_,s2_,k2_⟩:=hA.pres.2 b o e (fun q=>n1 ((iffP b).1.mpr q)) (fun q=>n2 ((iffP b).2.mpr q))
  exact ⟨o2_,hot b o2_ (Nat.ne_of_lt (Nat.lt_of_lt_of_le (Heap.lt_size e) ha.hb)) e2_,s2_,k2_⟩
 ·exact hot b o (Nat.ne_of_lt (Nat.lt_of_lt_of_le (Heap.lt_size e) (Nat.le_trans hA.n0 ha.hb))) (hA.h0 b o e)
 ·have hb:=Nat.le_trans hsz hb
  rw[ZD (Nat.ne_of_gt (Nat.lt_of_lt_of_le hlt hb))];exact hA.new b hb
 ·rw[ZD (Nat.ne_of_lt (Nat.lt_of_lt_of_le hb ha.hb))];exact hA.fix b hb
 ·exact hA.pool.grow (fun b o e q=>hot b o (by rintro rfl;rw[hfo] at q;rcases q with q|q<;>exact nomatch q) e) iffP
 ·obtain ⟨hk,L,o,es,n,hf,hg,hc,hd,hn⟩:=hA.frames e he
  exact ⟨hk,L,o,es,n,hf,hot L o (by rintro rfl;exact ha.frm e he hf) hg,hc,hd,hn⟩
 ·have S:=hA.scp
  cases hc:F.cenv with
  |none=>
   rw[hc] at S
   obtain ⟨s1,s2,m,s3⟩:=S
   exact ⟨s1,s2,m,scp s3⟩
  |some ce=>
   rw[hc] at S
   obtain ⟨mf,m,s1,C⟩:=S
   have he:F.env=ce:=by unfold Frm.env;rw[hc];rfl
   have hne:a≠ce.locals:=he▸ha.cloc
   refine ⟨mf,m,scp s1,⟨C.ns.at' fun o e=>hot _ o (Ne.symm hne) e,C.nsh,C.low,by rw[ZD (Ne.symm hne)];exact C.own,C.ne,C.nec,C.frame,C.link,C.loc,fun y lv e=>?_⟩⟩
   refine gG fun G gk=>?_
   obtain ⟨h1,d,v,h2,h3,h4⟩:=C.vars y lv e
   refine gk ?_
   exact ⟨h1,d,v,h2,h3,h4.mono c hfz le⟩
theorem Act.adopt{h h'}{a}{o'}(hA:Act c F h ow σ)(ha:Y1 F a)(hs:Heap.SameBut a h h')(hfo:ow a=.foreign)(hlt:a < h.objs.size)(O:∀ o,h.get? a=some o->o.cls≠.type "frame")(ho':o'≠.poolP/\o'≠.poolC/\(∀ x,o'≠.slot x)):Act c F h' (upd ow a o') σ:=
 hA.adoptE ha (Nat.le_of_eq hs.1.symm) (fun b o hb e=>(hs.2 b hb).trans e) hfo hlt ho'
theorem UT{ow}{a}{o}(h:ow a=o):upd ow a o=ow:=by
 funext b
 unfold upd
 split
 ·rename _=>q;subst q;exact h.symm
 ·rfl
theorem Act.turnE{h h'}{a}(hA:Act c F h ow σ)(ha:Y1 F a)(hsz:h.objs.size<=h'.objs.size)(hot:∀ b o,b≠a->h.get? b=some o->h'.get? b=some o)(hfo:ow a=.foreign)(hlt:a < h.objs.size)(O:∀ o,h.get? a=some o->o.cls≠.type "frame"):Act c F h' ow σ:=by
 have:=hA.adoptE (o':=.foreign) ha hsz hot hfo hlt ⟨nofun,nofun,nofun⟩
 rwa [UT hfo] at this
theorem Act.turnE'{h h'}{a}(hA:Act c F h ow σ)(ha:Y1 F a)(hsz:h.objs.size<=h'.objs.size)(hot:∀ b o,b≠a->h.get? b=some o->h'.get? b=some o)(hfo:ow a=.foreign)(hlt:a < h.objs.size):Act c F h' ow σ:=by
 have:=hA.adoptE (o':=.foreign) ha hsz hot hfo hlt ⟨nofun,nofun,nofun⟩
 rwa [UT hfo] at this
theorem Z7.adoptE{h₀ h h'}{ow0}{a}{o'}(hS:Z7 c h₀ ow0 h ow)(ha:h₀.objs.size<=a)(hsz:h.objs.size<=h'.objs.size)(hot:∀ b o,b≠a->h.get? b=some o->h'.get? b=some o):Z7 c h₀ ow0 h' (upd ow a o'):=by
 refine ⟨⟨Nat.le_trans hS.1.1 hsz,fun b o e n1 n2=>?_⟩,fun b hb=>?_,fun p hp=>?_⟩
 ·obtain ⟨o2_,e2_,s2_,k2_⟩:=hS.1.2 b o e n1 n2
  exact ⟨o2_,hot b o2_ (Nat.ne_of_lt (Nat.lt_of_lt_of_le (Heap.lt_size e) ha)) e2_,s2_,k2_⟩
 ·rw[ZD (Nat.ne_of_lt (Nat.lt_of_lt_of_le hb ha))];exact hS.2.1 b hb
 ·rcases hS.2.2 p hp with q|q
  ·exact .inl fun b hb e=>by rw[ZD (Nat.ne_of_lt (Nat.lt_of_lt_of_le hb ha))];exact q b hb e
  ·exact .inr fun b hb e=>by rw[ZD (Nat.ne_of_lt (Nat.lt_of_lt_of_le hb ha))];exact q b hb e
theorem Z7.adopt{h₀ h h'}{ow0}{a}{o'}(hS:Z7 c h₀ ow0 h ow)(ha:h₀.objs.size<=a)(hs:Heap.SameBut a h h'):Z7 c h₀ ow0 h' (upd ow a o'):=
 hS.adoptE ha (Nat.le_of_eq hs.1.symm) fun b o hb e=>(hs.2 b hb).trans e
theorem Z7.turnE{h₀ h h'}{ow0}{a}(hS:Z7 c h₀ ow0 h ow)(ha:h₀.objs.size<=a)(hfo:ow a=.foreign)(hsz:h.objs.size<=h'.objs.size)(hot:∀ b o,b≠a->h.get? b=some o->h'.get? b=some o):Z7 c h₀ ow0 h' ow:=by
 have:=hS.adoptE (o':=.foreign) ha hsz hot
 rwa [UT hfo] at this
theorem Z7.same{h h'}{ow'}{a}{o}(hS:Z7 c h ow h' ow')(hfo:ow a=.foreign)(e:h.get? a=some o)(h1:o.cls≠.type "frame")(h2:o.cls≠.type "dict"\/∃ es n,o.data=.dict es n/\nsFind es "shared"=none)(h3:¬ WV o.cls):h'.get? a=some o/\ow' a=.foreign:=by
 obtain ⟨o',e',k,O⟩:=hS.1.2 a o e (by rw[hfo];nofun) (by rw[hfo];nofun)
 refine ⟨?_,(hS.2.1 a (Heap.lt_size e)).2.2.2 hfo⟩
 rcases h2 with h2|⟨es,n,hd,hn⟩
 ·rw[e',k.eq_of h1 h2 (.inr h3)]
 ·induction k with
  |refl=>exact e'
  |slots O hc=>exact absurd hc h1
  |vd hc O U h3' V h5=>rw[hd] at h3';injection h3' with h3';subst h3';rw[VD,hn] at h5;cases h5.2.1
  |fld O U q=>exact absurd q h3
theorem Z06{k}{x}{pos}{Q}(hAct:Act c F s.heap ow σ)
  (hP:Z2 c F (Z7 c) (Zv c) s.heap ow s ((opt (Kq k) σ).bind fun d σ=>.ok (.fr d,none) σ) Q E):wpAny (MD c) A (eval (.Constant k x pos) F.env) Q E s:=by
 obtain ⟨d,e,hP'⟩:=Z2.opt hP
 induction k with
 |none=>obtain rfl:=Option.some.inj e;exact wpAny_Constant_none (hP'.val (tk:=s.toks) hAct .none)
 |bool b=>obtain rfl:=Option.some.inj e;exact wpAny_Constant_bool (hP'.val (tk:=s.toks) hAct (.bool _))
 |int b=>obtain rfl:=Option.some.inj e;exact wpAny_Constant_int (hP'.val (tk:=s.toks+1) hAct (.int _ _))
 |str b=>obtain rfl:=Option.some.inj e;exact wpAny_Constant_str (hP'.val (tk:=s.toks+1) hAct (.str _ _))
 |_=>exact Z3 e
theorem Z6n{e}{pos}{Q}(hAct:Act c F s.heap ow σ)
  (hP:Z2 c F (Z7 c) (Zv c) s.heap ow s ((opt (Z9h e) σ).bind fun i σ=>.ok (.fr (.int i),none) σ) Q E):wpAny (MD c) A (eval (.UnaryOp .USub e pos) F.env) Q E s:=by
 obtain ⟨i,q,hP'⟩:=Z2.opt hP
 obtain ⟨k,q1,q⟩:=Option.bind_eq_some_iff.mp q
 obtain ⟨j,q2,q3⟩:=Option.map_eq_some_iff.mp q
 obtain ⟨O,O⟩:=VZ q1
 obtain rfl:=ci?_of q2
 obtain rfl:=q3
 exact UnaryOp_ (wpAny_Constant_int (P.neg_int (hP'.val (tk:=s.toks+1+1) hAct (.int _ _))))
def Zay(c:Cx)(h:Heap)(ow:Z5)(O:St)(vs:List (Value × Value))(kvs:List (Str × D)):Prop:=
 vs.length=kvs.length/\∀ (i:Nat) p q,vs[i]?=some p->kvs[i]?=some q->(∃ t,p.1=.str q.1 t)/\q.1≠("shared":Str)/\Rep c h ow p.2 q.2
theorem Z3Z(hE:EvS c I n)(hA:AOk n A F)(hF:FOk F){pos}(ks):∀ (es:List Expr) (s:Shared) (ow:Z5) (σ:St) (Q:List (Value × Value)->Shared->Prop),ks.length=es.length->ks.all Z37=true->es.all (okE m F.cenv.isSome F.env.kindOf)=true->Act c F s.heap ow σ ->
  Z2 c F (Z7 c) (Zay c) s.heap ow s (WP I ks es σ) Q E->wpAny (MD c) A (evalPairs (pairTrees ks es F.env pos)) Q E s:=by
 induction ks with
 |nil=>
  intro es s ow σ Q hl O O hAct hP
  induction es with
  |nil=>exact pairTrees_nil_walk (hP [] s.heap ow s.toks hAct (.refl _ _) ⟨rfl,fun O O O e=>Z3 e⟩)
  |cons=>exact nomatch hl
 |cons k ks ih=>
  intro es s ow σ Q hl hk ho hAct hP
  cases es with
  |nil=>exact nomatch hl
  |cons e es=>
   obtain ⟨hk1,hk2⟩:=b2 hk
   obtain ⟨ho1,ho2⟩:=b2 ho
   obtain ⟨x,k0,p0,rfl,hne⟩:=Z0Q hk1
   have hP:Z2 c F (Z7 c) (Zay c) s.heap ow s ((frz (I.ev e σ)).bind fun d σ=>(WP I ks es σ).bind fun r σ=>.ok ((x,d)::r) σ) Q E:=hP
   refine pairTrees_cons_walk (wpAny_Constant_str ?_)
   refine hE m e A F _ ow σ E _ ho1 hA hF hAct (Z2.frzBind (s:={s with toks:=s.toks+1}) hF hP Z6 Zk fun d s1_ v h1_ ow1 tk1 hA1 hS1 hr hP1_=>?_)
   refine ih es {s with heap:=h1_,toks:=tk1} ow1 s1_ _ (Nat.succ.inj hl) hk2 ho2 hA1 (Z2.bind hP1_ Z6 Zk fun kvs q7 vs h2_ ow2_ tk2 O hA2 hS2 hrs hP2_=>?_)
   refine hP2_ ((.str x s.toks,v)::vs) h2_ ow2_ tk2 hA2 (.refl _ _) ⟨congrArg Nat.succ hrs.1,fun i p q e1 e2=>?_⟩
   induction i with
   |zero=>exact Option.some.inj e1▸Option.some.inj e2▸⟨⟨_,rfl⟩,hne,hr.step hS2 hA1.new⟩
   |succ i=>exact hrs.2 i p q e1 e2
theorem Z24{h}{vs}:∀ {kvs:List (Str × D)},Zay c h ow σ vs kvs->Carries (strKind PRG c.w) vs ((kvs.zip vs).map fun q=>(q.1.1,q.2.2)):=by
 induction vs with
 |nil=>
  intro kvs hr
  induction kvs with
  |nil=>trivial
  |cons=>exact nomatch hr.1
 |cons p vs ih=>
  intro kvs hr
  induction kvs with
  |nil=>exact nomatch hr.1
  |cons q kvs=>
   obtain ⟨key,v⟩:=p
   obtain ⟨x,d⟩:=q
   obtain ⟨⟨t,h1⟩,O,O⟩:=hr.2 0 _ _ rfl rfl
   refine ⟨?_,rfl,ih ⟨Nat.succ.inj hr.1,fun i=>hr.2 (i+1)⟩⟩
   have h1:key=.str x t:=h1
   exact h1▸strKind_is _ _ _ _
theorem Z2.bindAt{α α' β β':Type}{F}{R1:Heap->Z5->St->β->α->Prop}{R2:Heap->Z5->St->β'->α'->Prop}{h h1_}{ow ow1}{s}{o:Out α}{f:α->St->Out α'}{Q1:β->Shared->Prop}{Q2:β'->Shared->Prop}{E}
  (hP:Z2 c F (Z7 c) R2 h ow s (o.bind f) Q2 E) (h01:Z7 c h ow h1_ ow1)
  (k:∀ a σ' b h' ow' tk,o=.ok a σ'->Act c F h' ow' σ'->Z7 c h1_ ow1 h' ow'->R1 h' ow' σ' b a->Z2 c F (Z7 c) R2 h ow s (f a σ') Q2 E->Q1 b {s with heap:=h',toks:=tk}) :
  Z2 c F (Z7 c) R1 h1_ ow1 s o Q1 E:=by
 induction o with
 |ok a σ'=>exact fun b h' ow' tk g1 g2 g3=>k a σ' b h' ow' tk rfl g1 g2 g3 hP
 |exc m σ'=>exact fun e h' ow' tk g1 g2 g3=>hP e h' ow' tk g1 (h01.trans g2) g3
 |stuck=>exact hP
theorem Z6o{ks}{es}{pos}{Q}(hE:EvS c I n)(hA:AOk n A F)(hF:FOk F)(hl:ks.length=es.length)(hk:ks.all Z37=true)(hlen:ks.length<=10)(ho:es.all (okE m F.cenv.isSome F.env.kindOf)=true)(hAct:Act c F s.heap ow σ)
  (hP:Z2 c F (Z7 c) (Zv c) s.heap ow s (Z8A I ks es σ) Q E):wpAny (MD c) A (eval (.Dict ks es pos) F.env) Q E s:=by
 have n0:c.n₀<=s.heap.objs.size:=Nat.le_trans hAct.n0 hAct.pres.1
 have hap:=hAct.apart (Nat.le_refl s.heap.objs.size)
 obtain ⟨hA0,hS0⟩:=hAct.push {cls:=.type "dict",data:=.dict #[]} (o:=.foreign) ⟨nofun,nofun⟩
 have gD:(s.heap.push {cls:=.type "dict",data:=.dict #[]}).get? s.heap.objs.size=some {cls:=.type "dict",data:=.dict #[]}:=Heap.get?_push_size _ rfl
 have fin:∀ (h1_ h':Heap) ow1 s1_ tk kvs vvs,Act c F h1_ ow1 s1_->Z7 c (s.heap.push {cls:=.type "dict",data:=.dict #[]}) (upd ow s.heap.objs.size .foreign) h1_ ow1->Heap.SameBut s.heap.objs.size h1_ h'->h'.DictOf (strKind PRG c.w) s.heap.objs.size vvs ->
   vvs.map (fun O=>O.1)=kvs.map (fun O=>O.1)->kvs.length<=10->(∀ k,k∈kvs.map (fun O=>O.1)->k≠("shared":Str))->(∀ (i:Nat) (p:Str × Value) (q:Str × D),vvs[i]?=some p->kvs[i]?=some q->p.1=q.1/\Rep c h1_ ow1 p.2 q.2) ->
   Z2 c F (Z7 c) (Zv c) s.heap ow s (.ok (.od kvs,none) s1_) Q E->Q (.ref s.heap.objs.size) {s with heap:=h',toks:=tk}:=by
  intro h1_ h' ow1 s1_ tk kvs vvs hA1 hS1 hs hd hk1 hz hsh hr hP1_
  obtain ⟨gD1,fD1⟩:=hS1.same (Y7 _ _ _) gD (show Value.type "dict"≠.type "frame" by decide) (.inr ⟨_,_,rfl,rfl⟩) (X2 (by decide))
  have hA2:=hA1.adopt (o':=.tmp) hap hs fD1 (Heap.lt_size gD1) (fun o e=>by rw[gD1] at e;injection e with e;subst e;exact show Value.type "dict"≠.type "frame" by decide) ⟨nofun,nofun,nofun⟩
  refine hP1_ (.ref s.heap.objs.size) h' _ tk hA2 ((hS0.trans hS1).adopt (Nat.le_refl _) hs) ⟨⟨_,rfl,Y7 _ _ _,?_⟩,nofun⟩
  refine DictAt.of_pairs hd (Z8b n0) hk1 (Nat.le_trans hz (by decide)) hsh fun i p q e1 e2=>(hr i p q e1 e2).2.mono c (fun b o hw e=>⟨o,(hs.2 b (by rintro rfl;rw[fD1] at hw;exact nomatch hw)).trans e,.refl _⟩) fun b=>?_
  unfold upd
  split
  ·rename_i q;subst q;rw[fD1];exact ⟨nofun,nofun,nofun⟩
  ·exact ⟨id,id,id⟩
 induction ks with
 |nil=>
  induction es with
  |cons O U=>exact nomatch hl
  |nil=>exact wpAny_Dict_empty (fin _ _ _ σ s.toks [] [] hA0 (.refl _ _) (.refl ..) (Heap.DictOf.new _) rfl (by decide) (by simp) (fun i p q e=>by exact Z3 e) hP)
 |cons k ks=>
  have hall:(k::ks).all (fun O=>O.isSome)=true:=by
   rw[List.all_eq_true] at hk ⊢
   intro x hx
   obtain ⟨O,O,O,rfl,O⟩:=Z0Q (hk x hx)
   rfl
  refine wpAny_Dict_walk (knd:=strKind PRG c.w) hall hl (by simp) (by lia) ?_
  refine Z3Z hE hA hF (k::ks) es {s with heap:=s.heap.push {cls:=.type "dict",data:=.dict #[]}} _ σ _ hl hk ho hA0 (Z2.bindAt (s:={s with heap:=s.heap.push {cls:=.type "dict",data:=.dict #[]}}) hP hS0 fun kvs s1_ vs h1_ ow1 tk1 O hA1 hS1 hr hP1_=>?_)
  split at hP1_
  ·rename_i hnd
   have hkeys:((kvs.zip vs).map fun q=>(q.1.1,q.2.2)).map (fun O=>O.1)=kvs.map (fun O=>O.1):=by
    rw[List.map_map]
    have:((fun (x:Str × Value)=>x.1) ∘ fun (q:(Str × D) × (Value × Value))=>(q.1.1,q.2.2))=(fun q=>q.1) ∘ Prod.fst:=rfl
    rw[this,<-List.map_map,List.map_fst_zip]
    exact Nat.le_of_eq hr.1.symm
   obtain ⟨gD1,fD1⟩:=hS1.same (Y7 _ _ _) gD (show Value.type "dict"≠.type "frame" by decide) (.inr ⟨_,_,rfl,rfl⟩) (X2 (by decide))
   refine ⟨_,Z24 hr,⟨_,_,_,gD1,⟨rfl,rfl,rfl⟩,rfl,fun e he=>by simp at he,.nil,.nil⟩,fun h' hd hs=>?_⟩
   rw[merged_nil_of_nodup _ (hkeys▸hnd.1)] at hd
   refine fin h1_ h' ow1 s1_ _ kvs _ hA1 hS1 hs hd hkeys hnd.2 (fun k hk'=>?_) (fun i p q e1 e2=>?_) hP1_
   ·obtain ⟨q,hq,rfl⟩:=List.mem_map.mp hk'
    obtain ⟨i,hi,rfl⟩:=List.mem_iff_getElem.mp hq
    have hi':i < vs.length:=by rw[hr.1];exact hi
    exact (hr.2 i vs[i] kvs[i] (by simp[hi']) (by simp[hi])).2.1
   ·rw[List.getElem?_map] at e1
    obtain ⟨z,hz,rfl⟩:=Option.map_eq_some_iff.mp e1
    rw[List.getElem?_zip_eq_some] at hz
    rw[e2] at hz
    obtain ⟨hz1,hz2⟩:=hz
    obtain rfl:=Option.some.inj hz1
    exact ⟨rfl,(hr.2 i z.2 _ hz2 e2).2.2⟩
  ·exact hP1_.elim
def Z6p(o:Obj):Prop:=(∀ o',Sim o o'->o'=o)/\o.cls≠.type "frame"
theorem U9{o}(h1:o.cls≠.type "frame")(h2:o.cls≠.type "dict")(h3:¬ WV o.cls):Z6p o:=⟨fun O s=>s.eq_of h1 h2 (.inr h3),h1⟩
def VP(o:Obj):Prop:=o.cls=.type "list_iterator"\/o.cls=.type "range_iterator"\/o.cls=.type "dict_keyiterator"\/o.cls=.type "tuple_iterator"
theorem VP.firm{o}(h:VP o):Z6p o:=by
 rcases h with h|h|h|h<;>exact U9 (by rw[h];decide) (by rw[h];decide) (by rw[h];exact X2 (by decide))
structure Zcv(c:Cx)(A:Around)(h:Heap)(ow:Z5)(it:Addr)(fp:List Addr)(P:Nat->Value->Prop)(st:Nat->Heap->Prop)(xs:List D):Prop where
 W:Walks PRG c.w A it fp [it] xs.length P st
 firm:∀ i h,st i h->∀ b∈fp,∃ o,h.get? b=some o/\Z6p o
 cls:∀ i h,st i h->∃ o,h.get? it=some o/\VP o
 item:∀ i v,P i v->∃ d,xs[i]?=some d/\Rep c h ow v d
 own:∀ b∈fp,b≠it->ow b=.frozen
theorem UU{es}{kvs}(h:Pairs (strKind PRG c.w) es kvs)(hk:∀ k,k∈kvs.map (fun O=>O.1)->k≠("shared":Str)):es.find? (fun e=>e.key.isStr "shared")=none:=by
 induction h with
 |nil=>rfl
 |cons h1 h2 _ ih=>
  skip
  rw[List.find?_cons]
  obtain ⟨t,ht⟩:=Value.isStrOf_shape h1
  have hne:=hk kv.1 (.head _)
  have:e.key.isStr "shared"=false:=by rw[ht];simpa [Value.isStr] using hne
  rw[this]
  exact ih fun k hk'=>hk k (by simp at hk' ⊢;exact .inr hk')
theorem UV{v}{d}{xs}{Q}(hh:A.handled=none)(hr:Rep c s.heap ow v d)(hx:YD d=some xs)
  (hQ:∀ fp P st ob,Zcv c A s.heap ow s.heap.objs.size fp P st xs->st 0 (s.heap.push ob)->xs.length<=LIM->Q (.ref s.heap.objs.size) {s with heap:=s.heap.push ob}):wpAny (MD c) A (pyIter v) Q E s:=by
 induction hr with
 |@list a ob vs l hw hg hl hs hz hr O=>
   obtain rfl:=(Option.some.inj hx).symm
   have hl':=Zu hg hl
   have hne:a≠s.heap.objs.size:=Nat.ne_of_lt (Heap.lt_size hg)
   refine wpAny_pyIter_list hl' (hQ [s.heap.objs.size,a] (fun i v=>vs[i]?=some v) (fun i h=>h.IsListIter s.heap.objs.size a i/\h.IsList a vs) _ ⟨by rw[<-hs];exact Walks.list hh _ _ hne vs,?_,?_,?_,?_⟩ ⟨⟨_,Heap.get?_push_size _ rfl,rfl,rfl⟩,hl'.push _⟩ hz)
   ·rintro i h ⟨⟨o,g1,g2,g3⟩,⟨o',k1,k2,O⟩⟩ b hb
    simp only[List.mem_cons,List.not_mem_nil,or_false] at hb
    rcases hb with rfl|rfl
    ·exact ⟨o,g1,VP.firm (.inl g2)⟩
    ·exact ⟨o',k1,U9 (by rw[k2];decide) (by rw[k2];decide) (by rw[k2];exact X2 (by decide))⟩
   ·rintro i h ⟨⟨o,g1,g2,g3⟩,O⟩;exact ⟨o,g1,.inl g2⟩
   ·intro i v hv
    have hi:i < xs.length:=hs▸(Array.getElem?_eq_some_iff.mp hv).1
    exact ⟨xs[i],by simp[hi],hr i v xs[i] hv (by simp[hi])⟩
   ·intro b hb hbne
    simp only[List.mem_cons,List.not_mem_nil,or_false] at hb
    rcases hb with rfl|rfl
    ·exact absurd rfl hbne
    ·exact hw
 |@rng a ob x y hw hg hl h1 h2=>
  refine ite_el hx (fun hb hx=>?_) fun q_ hx=>?_
  ·obtain rfl:=Option.some.inj hx
   obtain ⟨t1,t2,t3,rfl⟩:=hl
   have hlen:(Zi x y).length=(y - x).toNat:=X5 x y
   refine wpAny_pyIter_range hg (by unfold LIM at h1 h2;exact small_one (by lia) (by lia) (by lia) (by lia)) (hQ [s.heap.objs.size] _ _ _ ⟨by rw[hlen];exact (Walks.range hh s.heap.objs.size x 1 (y - x).toNat).bound,?_,?_,?_,?_⟩ ?_ (by rw[hlen];lia))
   ·intro i h g b hb
    simp only[List.mem_cons,List.not_mem_nil,or_false] at hb
    subst hb
    exact ⟨_,g,VP.firm (.inr (.inl rfl))⟩
   ·intro i h g;exact ⟨_,g,.inr (.inl rfl)⟩
   ·rintro i v ⟨hi,t,rfl⟩
    refine ⟨.int (x+i),?_,by rw[Int.mul_one];exact .int _ _⟩
    simp[Zi,List.getElem?_range hi]
   ·intro b hb hbne
    simp only[List.mem_cons,List.not_mem_nil,or_false] at hb
    exact absurd hb hbne
   ·show IsRangeIter _ _ _ _ _
    have:=Heap.get?_push_size s.heap (o:={cls:=.type "range_iterator",data:=.fields #[rawInt x,rawInt (Builtin.Range.rangeSize x y 1),rawInt 1]}) rfl
    rw[rangeSize_nat] at this ⊢
    simpa using this
  ·exact Z3 hx
 |@dict a ob es nn kvs hw hg he hd hk hr O=>
   obtain rfl:=Option.some.inj hx
   have hA:DictAt c s.heap ow a kvs:=⟨_,_,_,hg,he,hd,hk,hr⟩
   obtain ⟨vvs,h1,h2,h3,h4,h5,h6⟩:=hA.pairs
   obtain ⟨o,es',ep,k1,k2,k3,k4,k5,k6⟩:=h1
   have hne:a≠s.heap.objs.size:=Nat.ne_of_lt (Heap.lt_size hg)
   have hlen:vvs.length=kvs.length:=by have:=congrArg List.length h3;simpa using this
   have hD:s.heap.DictAt (strKind PRG c.w) a vvs ep:=⟨o,es',k1,k2,k3,k4,k5,k6⟩
   refine wpAny_pyIter_dict (knd:=strKind PRG c.w) h2 hD (hQ [s.heap.objs.size,a] (fun i v=>∃ k x,vvs[i]?=some (k,x)/\(strKind PRG c.w).is k v=true) (fun i h=>h.IsKeyIter s.heap.objs.size a i vvs.length ep/\h.DictAt (strKind PRG c.w) a vvs ep) _ ⟨by simp only[List.length_map,<-hlen];exact Walks.dictKeys (knd:=strKind PRG c.w) hh s.heap.objs.size a hne vvs ep,?_,?_,?_,?_⟩ ⟨⟨_,Heap.get?_push_size _ rfl,rfl,rfl⟩,hD.at' fun o e=>Heap.get?_push_of_some _ e⟩ (by rw[List.length_map];exact h4))
   ·rintro i h ⟨⟨o,g1,g2,g3⟩,⟨o',es'',q1,q2,q3,q4,q5,q6⟩⟩ b hb
    simp only[List.mem_cons,List.not_mem_nil,or_false] at hb
    rcases hb with rfl|rfl
    ·exact ⟨o,g1,VP.firm (.inr (.inr (.inl g2)))⟩
    ·refine ⟨o',q1,fun o'' hs=>hs.eq_dict q2.1 q3 ?_,by rw[q2.1];decide⟩
     unfold nsFind findBy
     rw[<-Array.find?_toList,UU q5 (fun k hk=>h5 k (by rw[<-h3];exact hk))]
     rfl
   ·rintro i h ⟨⟨o,g1,g2,g3⟩,O⟩;exact ⟨o,g1,.inr (.inr (.inl g2))⟩
   ·rintro i v ⟨k,x,e1,e2⟩
    obtain ⟨t,rfl⟩:=Value.isStrOf_shape e2
    refine ⟨.str k,?_,.str _ _⟩
    have:(vvs.map (fun O=>O.1))[i]?=some k:=by rw[List.getElem?_map,e1];rfl
    rw[h3,List.getElem?_map] at this
    obtain ⟨p,hp,e⟩:=Option.map_eq_some_iff.mp this
    simp only[List.getElem?_map,hp,Option.map_some,e]
   ·intro b hb hbne
    simp only[List.mem_cons,List.not_mem_nil,or_false] at hb
    rcases hb with rfl|rfl
    ·exact absurd rfl hbne
    ·exact hw
 |_=>exact Z3 hx
set_option tactic.hygienic true in
set_option backward.match.sparseCases true in
theorem UW{M}{t}{it}{v}{Q}(h:∃ o,s.heap.get? it=some o/\VP o)(hQ:Q () s):wpAny M A (letOwnedTupleGo t (.ref it) v) Q E s:=by
 obtain ⟨o,ho,hc⟩:=h
 have load:∀ a,wpAny M A (do
   let o <-load it
   match o.cls,o.data with
   |.type n,.fields vs=>
    if ["enumerate","zip","dict_itemiterator","dict_reverseitemiterator","odict_iterator","itertools.zip_longest","itertools.pairwise"].contains n&&vs[0]? == some (rawInt a) then
     rule "for.unpacks-the-owned-tuple"
     updateField it 0 .none
   |O,U=>pure ()) Q E s:=by
  intro a
  refine wpAny_bind (wpAny_load ho ?_)
  obtain ⟨cl,di,da,sl⟩:=o
  have hn:∃ nn,cl=.type nn/\(["enumerate","zip","dict_itemiterator","dict_reverseitemiterator","odict_iterator","itertools.zip_longest","itertools.pairwise"].contains nn)=false:=by
   rcases hc with h|h|h|h<;>exact ⟨_,h,by decide⟩
  obtain ⟨nn,rfl,hn⟩:=hn
  cases da with
  |fields=>
   dsimp only
   rw[hn]
   exact wpAny_pure hQ
  |_=>exact wpAny_pure hQ
 cases t<;>first|exact wpAny_pure hQ|(cases v<;>first|exact wpAny_pure hQ|exact load _)
theorem K6{it}{fp}{P}{st}{N}(W:Walks PRG c.w A it fp [it] N P st):∀ (k i:Nat) (s:Shared) (Q:List Value->Shared->Prop),i+k<=N->st i s.heap ->
  (∀ vs h' tk,vs.length=k->(∀ (j:Nat) v,vs[j]?=some v->P (i+j) v)->st (i+k) h'->(∀ b o,b≠it->s.heap.get? b=some o->h'.get? b=some o)->Q vs {s with heap:=h',toks:=tk})->wpAny (MD c) A (draw (.ref it) k) Q E s:=fun O U V O1 O2 O3 O4=>match O,U,V,O1,O2,O3,O4 with
 |0,i,s,Q,O,hst,hQ=>wpAny_pure (hQ [] s.heap s.toks rfl (fun j v e=>by exact Z3 e) hst fun O O O e=>e)
 |k+1,i,s,Q,hle,hst,hQ=>by
  show wpAny _ _ (pyNext (.ref it) >>= _) Q E s
  refine wpAny_bind (W.item i _ _ _ (by lia) hst fun v h1_ tk1 hP hst1 hk1_=>?_)
  refine wpAny_bind (wpAny_holding (K6 W k (i+1) _ _ (by lia) hst1 fun vs h2_ tk2 hl hPs hst2_ hk2_=>wpAny_pure ?_))
  refine hQ (v::vs) h2_ tk2 (by simp[hl]) (fun j u e=>?_) (by rw[show i+(k+1)=i+1+k by lia];exact hst2_) fun b o hb e=>hk2_ b o hb (hk1_ b o (by simpa using hb) e)
  induction j with
  |zero=>simp at e;subst e;exact hP
  |succ j=>rw[show i+(j+1)=i+1+j by lia];exact hPs j u (by simpa using e)
theorem VQ{v}{it}{fp}{P}{st}{N}{ob}{T id}{Q}(W:Walks PRG c.w A it fp [it] N P st)(hT:s.TypeIs v T)(hl:typeLookup (.type T) "__iter__"=pure (some (.builtin id)))
  (hit:it=s.heap.objs.size) (hi:∀ Q E,Q (.ref it) {s with heap:=s.heap.push ob}->wpAny (MD c) A (pyIter v) Q E s) (h0:st 0 (s.heap.push ob))
  (hQ:∀ vs h' tk,vs.length=N->(∀ (j:Nat) v,vs[j]?=some v->P j v)->(∀ b o,s.heap.get? b=some o->h'.get? b=some o)->Q vs {s with heap:=h',toks:=tk}):wpAny (MD c) A (unpackItems v N none) Q E s:=by
 unfold unpackItems
 refine wpAny_bind ?_
 unfold notIterableAtAll
 refine wpAny_bind (wpAny_specialOf hT hl ?_)
 refine wpAny_pure ?_
 simp only[Bool.false_eq_true,if_false]
 refine wpAny_bind (wpAny_holding (hi _ _ ?_))
 refine wpAny_bind (wpAny_holding (K6 W N 0 _ _ (by lia) h0 fun vs h1_ tk1 hlen hP hst hk=>?_))
 rw[if_neg (by lia)]
 rw[Nat.zero_add] at hst
 refine wpAny_bind (wpAny_holding (W.done _ _ _ hst fun h2_ tk2 hk2_=>?_))
 simp only[Option.isSome_none,Bool.false_eq_true,if_false]
 refine wpAny_pure (hQ vs h2_ tk2 hlen (fun j v e=>by have:=hP j v e;rwa [Nat.zero_add] at this) fun b o e=>?_)
 have hb:b≠it:=by rw[hit];exact Nat.ne_of_lt (Heap.lt_size e)
 exact hk2_ b o (by simpa using hb) (hk b o hb (Heap.get?_push_of_some _ e))
theorem W2{v}{d}{xs}{Q}(hh:A.handled=none)(hr:Rep c s.heap ow v d)(hs:seq? d=some xs)
  (hQ:∀ vs h' tk,Zm c s.heap ow σ vs xs->s.heap.objs.size<=h'.objs.size->(∀ b o,s.heap.get? b=some o->h'.get? b=some o)->Q vs {s with heap:=h',toks:=tk}):wpAny (MD c) A (unpackItems v xs.length none) Q E s:=by
 refine Zn ?_
 induction hr with
 |@list a ob vs l hw hg hl hz0 hz hr O=>
   obtain rfl:=(Option.some.inj hs).symm
   clear hs
   have hs:=hz0
   have hl':=Zu hg hl
   rw[<-hs]
   refine VQ (Walks.list hh s.heap.objs.size a (Nat.ne_of_lt (Heap.lt_size hg)) vs) hl'.typeIs slot_list_iter.lookup rfl (fun Q E h=>wpAny_pyIter_list hl' h) ⟨⟨_,Heap.get?_push_size _ rfl,rfl,rfl⟩,hl'.push _⟩ fun us h' tk hlen hP hk hsz=>hQ us h' tk ⟨by rw[hlen,hs],fun i u d e1 e2=>?_⟩ hsz hk
   exact hr i u d (hP i u e1) e2
 |@tup a ob vs l hw hg hl hz0 hz hr O=>
   obtain rfl:=(Option.some.inj hs).symm
   clear hs
   have hs:=hz0
   have hl':s.heap.IsTuple a vs:=⟨ob,hg,hl.1,hl.2.2⟩
   rw[<-hs]
   refine VQ (Walks.tuple hh s.heap.objs.size a (Nat.ne_of_lt (Heap.lt_size hg)) vs) hl'.typeIs slot_tuple_iter.lookup rfl (fun Q E h=>wpAny_pyIter_tuple hl' h) ⟨⟨_,Heap.get?_push_size _ rfl,rfl,rfl⟩,hl'.at fun o e=>Heap.get?_push_of_some _ e⟩ fun us h' tk hlen hP hk hsz=>hQ us h' tk ⟨by rw[hlen,hs],fun i u d e1 e2=>?_⟩ hsz hk
   exact hr i u d (hP i u e1) e2
 |_=>exact Z3 hs
def SS(F:Frm)(h:Heap)(ow:Z5)(h':Heap)(ow':Z5):Prop:=
 h.objs.size<=h'.objs.size/\(∀ a,a < h.objs.size->(ow a=.frozen\/(ow a=.foreign/\a≠F.env.locals/\∀ x,F.env.cells.lookup x≠some a))->ow' a=ow a/\∀ o,h.get? a=some o->∃ o',h'.get? a=some o'/\Sim o o') /\
  ∀ a,a < h.objs.size->(ow a=.poolP->ow' a=.poolP)/\(ow a=.poolC->ow' a=.poolC)
theorem SS.refl(h)(ow):SS F h ow h ow:=⟨Nat.le_refl _,fun O O O=>⟨rfl,fun o e=>⟨o,e,.refl _⟩⟩,fun O O=>⟨id,id⟩⟩
theorem SS.trans{h1_ h2_ h3_}{a b d}(x:SS F h1_ a h2_ b)(y:SS F h2_ b h3_ d):SS F h1_ a h3_ d:=by
 refine ⟨Nat.le_trans x.1 y.1,fun z hz q=>?_,fun z hz=>⟨fun e=>(y.2.2 z (Nat.lt_of_lt_of_le hz x.1)).1 ((x.2.2 z hz).1 e),fun e=>(y.2.2 z (Nat.lt_of_lt_of_le hz x.1)).2 ((x.2.2 z hz).2 e)⟩⟩
 obtain ⟨x1,x2⟩:=x.2.1 z hz q
 obtain ⟨y1,y2⟩:=y.2.1 z (Nat.lt_of_lt_of_le hz x.1) (by rw[x1];exact q)
 refine ⟨y1.trans x1,fun o e=>?_⟩
 obtain ⟨o2_,e2_,s2_⟩:=x2 o e
 obtain ⟨o3_,e3_,s3_⟩:=y2 o2_ e2_
 exact ⟨o3_,e3_,s2_.trans s3_⟩
theorem Z7.ss{h h'}{ow'}(x:Z7 c h ow h' ow'):SS F h ow h' ow':=by
 refine ⟨x.1.1,fun a ha q=>?_,fun a ha=>⟨(x.2.1 a ha).2.1.mp,(x.2.1 a ha).2.2.1.mp⟩⟩
 have np:ow a≠.poolP/\ow a≠.poolC:=by rcases q with q|⟨q,O⟩<;>rw[q]<;>exact ⟨nofun,nofun⟩
 refine ⟨?_,fun o e=>let ⟨o',e',k,_⟩:=x.1.2 a o e np.1 np.2;⟨o',e',k⟩⟩
 rcases q with q|⟨q,O⟩
 ·rw[q];exact (x.2.1 a ha).1 q
 ·rw[q];exact (x.2.1 a ha).2.2.2 q
theorem Z34.ss{h h'}{ow'}(x:Z34 F h ow h' ow'):SS F h ow h' ow':=⟨x.1,x.2.1,fun a O=>⟨(x.2.2 a).2.1,(x.2.2 a).2.2⟩⟩
theorem ZaQ:UE (SS F) (SS F):=fun O O O O O O x y=>x.trans y
theorem Z6q:UE (Z7 c) (SS F):=fun O O O O O O x y=>(Z7.ss x).trans y
theorem Zaz:∀ (h:Heap) (a:Z5) (h':Heap) (b:Z5),Z7 c h a h' b->SS F h a h' b:=fun O O O O x=>x.ss
theorem ZdS:∀ (h:Heap) (a:Z5) (h':Heap) (b:Z5),SS F h a h' b->SS F h a h' b:=fun O O O O x=>x
theorem SS.le{h h'}{ow'}(x:SS F h ow h' ow')(hn:∀ a,h.objs.size<=a->ow a=.foreign):YF ow ow':=fun a=>by
 by_cases q:a < h.objs.size
 ·refine ⟨fun e=>?_,(x.2.2 a q).1,(x.2.2 a q).2⟩
  rw[(x.2.1 a q (.inl e)).1];exact e
 ·have:=hn a (Nat.le_of_not_lt q);rw[this];exact ⟨nofun,nofun,nofun⟩
theorem Rep.ss{h h'}{ow'}{v}{d}(r:Rep c h ow v d)(x:SS F h ow h' ow')(hn:∀ a,h.objs.size<=a->ow a=.foreign):Rep c h' ow' v d:=
 r.mono c (fun a o hw e=>(x.2.1 a (Heap.lt_size e) (.inl hw)).2 o e) (x.le hn)
def ZdN:Heap->Z5->St->Unit->Unit->Prop:=fun O O O O O=>True
noncomputable def Zw(kd:Str->Option NameKind)(x:Str):Bool:=x != ("shared":Str)&&(kd x == some .local||kd x == some .cell)
theorem Z0Y{env}{x}(he:Z0F env)(h:Zw env.kindOf x=true):Wh env x:=by
 unfold Zw at h
 simp only[Bool.and_eq_true,Bool.or_eq_true] at h
 refine ⟨by simpa using h.1,?_⟩
 rcases h.2 with q|q
 ·exact .inl (by simpa using q)
 ·have q':env.kindOf x=some .cell:=by simpa using q
  exact .inr ⟨q',he.cells x q'⟩
theorem Yo{x}{v}{lv}{Q}(hF:FOk F)(hA:Act c F s.heap ow σ)(hcn:F.cenv=none)(hx:Zw F.env.kindOf x=true)(hR:ZK c s.heap ow .tmp v lv)
  (k:∀ h' ow' tk,Act c F h' ow' {σ with vars:=ZA x lv σ.vars}->SS F s.heap ow h' ow'->Q () {s with heap:=h',toks:=tk}):wpAny (MD c) A (storeName F.env x v) Q E s:=by
 have he:F.env=F.fenv:=by unfold Frm.env;rw[hcn];rfl
 exact JW hF hA hcn (Z0Y hA.ok.1 (by rw[he] at hx;exact hx)) hR fun h' ow' tk a b=>k h' ow' tk a b.ss
theorem ZK.fr{h}{v}{d}{o}(r:Rep c h ow v d):ZK c h ow o v (.fr d):=r
inductive Vm:List Expr->List Str->Prop
 |nil:Vm [] []
 |cons (x:Str) (p:Pos) (es:List Expr) (xs:List Str) (O:Vm es xs):Vm (.Name x p::es) (x::xs)
theorem VB{es}:∀ {xs:List Str},names? es=some xs->Vm es xs:=by
 induction es with
 |nil=>intro xs h;injection h with h;subst h;exact .nil
 |cons e es ih=>
  intro xs h
  cases e with
  |Name x p=>
   obtain ⟨ys,hy,rfl⟩:=Option.map_eq_some_iff.mp h
   exact .cons x p es ys (ih hy)
  |_=>first|exact Z3 h|exact Z4 h|cases h
theorem UX{es}{xs}{env}(h:names? es=some xs):es.length=xs.length/\assignEach es env=es.map (fun e=>(false,assign e env))/\(assignEach es env).findIdx? (fun O=>O.1)=none:=by
 have q:=VB h
 clear h
 induction q with
 |nil=>exact ⟨rfl,rfl,rfl⟩
 |cons x p es xs O ih=>
  obtain ⟨h1,h2,h3⟩:=ih
  refine ⟨congrArg (fun O=>O+1) h1,congrArg (_::·) h2,?_⟩
  show List.findIdx? (fun O=>O.1) ((false,assign (.Name x p) env)::assignEach es env)=none
  rw[List.findIdx?_cons,h3];rfl
theorem Zm.uncons{h}{vs}{d}{ds}(x:Zm c h ow σ vs (d::ds)):∃ v r,vs=v::r/\Rep c h ow v d/\Zm c h ow σ r ds:=by
 refine gG fun G gk=>?_
 obtain ⟨v,r,rfl,h1⟩:=Internal.uncons x.1
 refine gk ?_
 exact ⟨v,r,rfl,x.2 0 v d rfl rfl,h1,fun i u e e1 e2=>x.2 (i+1) u e e1 e2⟩
theorem setvs_nil(ds)(vs):YU [] ds vs=vs:=by cases ds<;>rfl
theorem Z25(hF:FOk F)(hcn:F.cenv=none)(es)(xs)(vs)(ds)(s)(ow)(σ)(Q)(hn:names? es=some xs)(hok:xs.all (Zw F.env.kindOf)=true)(hl:xs.length=vs.length)(hr:Zm c s.heap ow σ vs ds)(hA:Act c F s.heap ow σ)
  (hQ:∀ h' ow' tk,Act c F h' ow' {σ with vars:=YU xs ds σ.vars}->SS F s.heap ow h' ow'->Q () {s with heap:=h',toks:=tk}):wpAny (MD c) A (assignInOrder (es.map fun e=>assign e F.env) vs) Q E s:=by
 have q:=VB hn
 clear hn
 induction q generalizing vs ds s ow σ with
 |nil=>
  obtain rfl:=List.length_eq_zero_iff.mp hl.symm
  exact assignInOrder_nil (hQ s.heap ow s.toks (by rw[setvs_nil];exact hA) (.refl _ _))
 |cons x p es ys O ih=>
  refine gG fun G gk=>?_
  obtain ⟨v,vs,rfl,hl2⟩:=Internal.uncons hl.symm
  obtain ⟨d,ds,rfl,O⟩:=Internal.uncons (hr.1.symm)
  obtain ⟨O,O,e,h0,hr⟩:=hr.uncons
  refine gk ?_
  cases e
  simp only[List.all_cons,Bool.and_eq_true] at hok
  exact assignInOrder_cons (wpAny_assign_Name (Yo hF hA hcn hok.1 (ZK.fr h0) fun h1_ ow1 tk1 hA1 hS1=>
   ih vs ds {s with heap:=h1_,toks:=tk1} ow1 _ hok.2 hl2.symm ⟨hr.1,fun i u d' e1 e2=>(hr.2 i u d' e1 e2).ss hS1 hA.new⟩ hA1 fun h2_ ow2_ tk2 hA2 hS2=>hQ h2_ ow2_ tk2 hA2 (hS1.trans hS2)))
inductive VC(d:D)(σ:St):Expr->Out Unit->Prop
 |stuck (t:Expr):VC d σ t .stuck
 |nam (x:Str) (p:Pos):VC d σ (.Name x p) (.ok () {σ with vars:=ZA x (.fr d) σ.vars})
 |tup (es:List Expr) (k:Nat) (p:Pos) (xs:List Str) (ds:List D) (O:names? es=some xs) (O:seq? d=some ds) (O:xs.length=ds.length/\xs.Nodup):VC d σ (.Tuple es k p) (.ok () {σ with vars:=YU xs ds σ.vars})
theorem UY(t)(d)(σ):VC d σ t (Zl t d σ):=by
 unfold Zl
 generalize bv t=v
 induction v with
 |nam x p=>exact .nam x p
 |con=>exact .stuck _
 |bad=>exact .stuck _
 |tup es k p=>
  show VC d σ _ ((opt (names? es) σ).bind fun xs σ=>(opt (seq? d) σ).bind fun ds σ=>if xs.length=ds.length/\xs.Nodup then .ok () {σ with vars:=YU xs ds σ.vars} else .stuck)
  cases h1:names? es with
  |none=>exact .stuck _
  |some xs=>cases h2:seq? d with
   |none=>exact .stuck _
   |some ds=>
    show VC d σ _ (if xs.length=ds.length/\xs.Nodup then .ok () {σ with vars:=YU xs ds σ.vars} else .stuck)
    split
    ·exact .tup es k p xs ds h1 h2 ‹_›
    ·exact .stuck _
theorem VE{t:Expr}{d:D}{σ σ':St}{m:Str}{P:Prop}(h:Zl t d σ=.exc m σ'):P:=by
 have b:=UY t d σ
 generalize Zl t d σ=o at b h
 induction b with
 |_=>exact nomatch h
theorem K8(hh:A.handled=none)(hF:FOk F)(hcn:F.cenv=none){t}{v}{d}{Q}(hst:(ZE t).all (Zw F.env.kindOf)=true)(hAct:Act c F s.heap ow σ)(hr:Rep c s.heap ow v d)
  (hP:Z2 c F (SS F) ZdN s.heap ow s (Zl t d σ) Q E):wpAny (MD c) A (assign t F.env v) Q E s:=by
 have b:=UY t d σ
 generalize Zl t d σ=o at b hP
 induction b with
 |stuck=>exact hP.elim
 |nam x p=>
  have hst:(Zw F.env.kindOf x&&true)=true:=hst
  exact wpAny_assign_Name (Yo hF hAct hcn ((Bool.and_true _).symm.trans hst) (ZK.fr hr) fun h' ow' tk a b=>hP () h' ow' tk a b trivial)
 |tup es k p xs ds hn hs hlen=>
  have hst:((names? es).getD []).all (Zw F.env.kindOf)=true:=hst
  rw[hn] at hst
  obtain ⟨e1,e2,e3⟩:=UX (env:=F.env) hn
  rw[PyProof.Rows.assign_Tuple]
  refine wpAny_bind (wpAny_standAt ?_)
  unfold unpack
  rw[e3,e2,List.length_map,e1,hlen.1,List.map_map]
  refine wpAny_bind (wpAny_holding (W2 (σ:=σ) hh hr hs fun vs h1_ tk1 hds hsz hk=>?_))
  obtain ⟨hA1,hS1⟩:=hAct.keeps hsz hk
  exact Z25 hF hcn es xs vs ds {s with heap:=h1_,toks:=tk1} ow σ Q hn hst (by rw[hds.1,hlen.1]) ⟨hds.1,fun i u d' q1 q2=>(hds.2 i u d' q1 q2).step hS1 hAct.new⟩ hA1 fun h2_ ow2_ tk2 hA2 hS2=>hP () h2_ ow2_ tk2 hA2 (hS1.ss.trans hS2) trivial
theorem Act.comp{ce}{h}(hA:Act c F h ow σ)(hcn:F.cenv=some ce):F.env=ce/\ow ce.locals=.foreign/\∃ mm,h.Ns ce.locals mm:=by
 have S:=hA.scp
 rw[hcn] at S
 obtain ⟨mf,mm,O,C⟩:=S
 exact ⟨by unfold Frm.env;rw[hcn];rfl,C.own,mm,C.ns⟩
theorem VR{ce}(hcn:F.cenv=some ce){x}{v}{d}{hB}{owB}{Q}(hx:x∈σ.loc/\W0 x)(hAct:Act c F s.heap ow σ)(hr:Rep c s.heap ow v d)(hbase:hB.objs.size<=ce.locals)(hS:Z7 c hB owB s.heap ow)
  (k:∀ h' tk,Act c F h' ow {σ with vars:=ZA x (.fr d) σ.vars}->Z7 c hB owB h' ow->(∀ v d,Rep c s.heap ow v d->Rep c h' ow v d)->Heap.SameBut ce.locals s.heap h'->Q () {s with heap:=h',toks:=tk}):wpAny (MD c) A (storeName F.env x v) Q E s:=by
 obtain ⟨he,ho,mm,hns⟩:=hAct.comp hcn
 refine Z1L hAct hcn hx.2 hx.1 hr fun h' tk a hs=>?_
 rw[he] at hs
 refine k h' tk a (hS.turnE hbase ho (Nat.le_of_eq hs.1.symm) fun b o hb e=>(hs.2 b hb).trans e) (fun v d r=>r.mono c (fun b o hw e=>⟨o,(hs.2 b (by rintro rfl;rw[ho] at hw;cases hw)).trans e,.refl _⟩) (.refl _)) hs
theorem Z0Z{ce}(hcn:F.cenv=some ce){hB}{owB}(hbase:hB.objs.size<=ce.locals)(es)(xs)(vs)(ds)(s)(ow)(σ)(Q)(hn:names? es=some xs)(hok:∀ x∈xs,x∈σ.loc/\W0 x)(hl:xs.length=vs.length)(hr:Zm c s.heap ow σ vs ds)(hA:Act c F s.heap ow σ)
  (hS:Z7 c hB owB s.heap ow) (hQ:∀ h' tk,Act c F h' ow {σ with vars:=YU xs ds σ.vars}->Z7 c hB owB h' ow->(∀ b o,b≠ce.locals->s.heap.get? b=some o->h'.get? b=some o)->Q () {s with heap:=h',toks:=tk}):wpAny (MD c) A (assignInOrder (es.map fun e=>assign e F.env) vs) Q E s:=by
 have q:=VB hn
 clear hn
 induction q generalizing vs ds s σ with
 |nil=>
  obtain rfl:=List.length_eq_zero_iff.mp hl.symm
  exact assignInOrder_nil (hQ s.heap s.toks (by rw[setvs_nil];exact hA) hS fun O O O e=>e)
 |cons x p es ys O ih=>
  refine gG fun G gk=>?_
  obtain ⟨v,vs,rfl,hl2⟩:=Internal.uncons hl.symm
  obtain ⟨d,ds,rfl,O⟩:=Internal.uncons (hr.1.symm)
  obtain ⟨O,O,e,h0,hr⟩:=hr.uncons
  refine gk ?_
  cases e
  exact assignInOrder_cons (wpAny_assign_Name (VR hcn (hok x List.mem_cons_self) hA h0 hbase hS fun h1_ tk1 hA1 hS1 hk1_ hs1=>
   ih vs ds {s with heap:=h1_,toks:=tk1} {σ with vars:=ZA x (.fr d) σ.vars} (fun y hy=>hok y (List.mem_cons_of_mem _ hy)) hl2.symm ⟨hr.1,fun i u d' e1 e2=>hk1_ _ _ (hr.2 i u d' e1 e2)⟩ hA1 hS1 fun h2_ tk2 hA2 hS2 hk2_=>hQ h2_ tk2 hA2 hS2 fun b o hb e=>hk2_ b o hb ((hs1.2 b hb).trans e)))
theorem K9(hh:A.handled=none){ce}(hcn:F.cenv=some ce){t}{v}{d}{hB}{owB}{Q}(hst:∀ x∈ZE t,x∈σ.loc/\W0 x)(hAct:Act c F s.heap ow σ)(hr:Rep c s.heap ow v d)(hbase:hB.objs.size<=ce.locals)(hS:Z7 c hB owB s.heap ow)
  (hP:match Zl t d σ with
   |.ok O σ'=>∀ h' tk,Act c F h' ow σ'->Z7 c hB owB h' ow->s.heap.objs.size<=h'.objs.size->(∀ b o,b≠ce.locals->s.heap.get? b=some o->h'.get? b=some o)->Q () {s with heap:=h',toks:=tk}
   |O=>False):wpAny (MD c) A (assign t F.env v) Q E s:=by
 refine Zn ?_
 have b:=UY t d σ
 generalize Zl t d σ=o at b hP
 induction b with
 |stuck=>exact hP.elim
 |nam x p=>exact wpAny_assign_Name (VR hcn (hst x List.mem_cons_self) hAct hr hbase hS fun h' tk a b O hs hsz=>hP h' tk a b hsz fun b o hb e=>(hs.2 b hb).trans e)
 |tup es k p xs ds hn hs hlen=>
  have hst:∀ x∈(names? es).getD [],x∈σ.loc/\W0 x:=hst
  rw[hn] at hst
  obtain ⟨e1,e2,e3⟩:=UX (env:=F.env) hn
  rw[PyProof.Rows.assign_Tuple]
  refine wpAny_bind (wpAny_standAt ?_)
  unfold unpack
  rw[e3,e2,List.length_map,e1,hlen.1,List.map_map]
  refine wpAny_bind (wpAny_holding (W2 (σ:=σ) hh hr hs fun vs h1_ tk1 hds hsz hk=>?_))
  obtain ⟨hA1,hS1⟩:=hAct.keeps hsz hk
  exact Z0Z hcn hbase es xs vs ds {s with heap:=h1_,toks:=tk1} ow σ _ hn hst (by rw[hds.1,hlen.1]) ⟨hds.1,fun i u d' q1 q2=>(hds.2 i u d' q1 q2).step hS1 hAct.new⟩ hA1 (hS.trans hS1) fun h2_ tk2 hA2 hS2 hk2_ hsz2_=>hP h2_ tk2 hA2 hS2 hsz2_ fun b o hb e=>hk2_ b o hb (hk b o e)
def KK(X:Addr->Prop)(h:Heap)(ow:Z5)(h':Heap)(ow':Z5):Prop:=
 h.objs.size<=h'.objs.size/\(∀ a,a < h.objs.size->(ow a=.frozen\/(ow a=.foreign/\¬ X a))->ow' a=ow a/\∀ o,h.get? a=some o->∃ o',h'.get? a=some o'/\Sim o o') /\
  ∀ a,a < h.objs.size->(ow a=.poolP->ow' a=.poolP)/\(ow a=.poolC->ow' a=.poolC)
theorem KK.refl(X)(h)(ow):KK X h ow h ow:=⟨Nat.le_refl _,fun O O O=>⟨rfl,fun o e=>⟨o,e,.refl _⟩⟩,fun O O=>⟨id,id⟩⟩
theorem KK.trans'{X Y}{h1_ h2_ h3_}{a b d}(x:KK X h1_ a h2_ b)(y:KK Y h2_ b h3_ d)(hXY:∀ z,z < h1_.objs.size->Y z->X z):KK X h1_ a h3_ d:=by
 refine ⟨Nat.le_trans x.1 y.1,fun z hz q=>?_,fun z hz=>⟨fun e=>(y.2.2 z (Nat.lt_of_lt_of_le hz x.1)).1 ((x.2.2 z hz).1 e),fun e=>(y.2.2 z (Nat.lt_of_lt_of_le hz x.1)).2 ((x.2.2 z hz).2 e)⟩⟩
 obtain ⟨x1,x2⟩:=x.2.1 z hz q
 obtain ⟨y1,y2⟩:=y.2.1 z (Nat.lt_of_lt_of_le hz x.1) (by rw[x1];exact q.imp id fun q=>⟨q.1,fun r=>q.2 (hXY z hz r)⟩)
 refine ⟨y1.trans x1,fun o e=>?_⟩
 obtain ⟨o2_,e2_,s2_⟩:=x2 o e
 obtain ⟨o3_,e3_,s3_⟩:=y2 o2_ e2_
 exact ⟨o3_,e3_,s2_.trans s3_⟩
theorem KK.trans{X}{h1_ h2_ h3_}{a b d}(x:KK X h1_ a h2_ b)(y:KK X h2_ b h3_ d):KK X h1_ a h3_ d:=x.trans' y fun O O z=>z
theorem Z7.kk{X}{h h'}{ow'}(x:Z7 c h ow h' ow'):KK X h ow h' ow':=by
 refine ⟨x.1.1,fun a ha q=>?_,fun a ha=>⟨(x.2.1 a ha).2.1.mp,(x.2.1 a ha).2.2.1.mp⟩⟩
 have np:ow a≠.poolP/\ow a≠.poolC:=by rcases q with q|⟨q,O⟩<;>rw[q]<;>exact ⟨nofun,nofun⟩
 refine ⟨?_,fun o e=>let ⟨o',e',k,_⟩:=x.1.2 a o e np.1 np.2;⟨o',e',k⟩⟩
 rcases q with q|⟨q,O⟩
 ·rw[q];exact (x.2.1 a ha).1 q
 ·rw[q];exact (x.2.1 a ha).2.2.2 q
theorem KK.turn{X}{h h'}{a}(hX:X a)(hfo:ow a=.foreign)(hsz:h.objs.size<=h'.objs.size)(hot:∀ b o,b≠a->h.get? b=some o->h'.get? b=some o):KK X h ow h' ow:=by
 refine ⟨hsz,fun b hb q=>⟨rfl,fun o e=>⟨o,hot b o ?_ e,.refl _⟩⟩,fun O O=>⟨id,id⟩⟩
 rintro rfl
 rcases q with q|⟨O,q⟩
 ·rw[hfo] at q;exact nomatch q
 ·exact q hX
theorem KK.le{X}{h h'}{ow'}(x:KK X h ow h' ow')(hn:∀ a,h.objs.size<=a->ow a=.foreign):YF ow ow':=fun a=>by
 by_cases q:a < h.objs.size
 ·refine ⟨fun e=>?_,(x.2.2 a q).1,(x.2.2 a q).2⟩
  rw[(x.2.1 a q (.inl e)).1];exact e
 ·have:=hn a (Nat.le_of_not_lt q);rw[this];exact ⟨nofun,nofun,nofun⟩
theorem KK.fz{X}{h h'}{ow'}(x:KK X h ow h' ow')(a)(o)(hw:ow a=.frozen)(e:h.get? a=some o):∃ o',h'.get? a=some o'/\Sim o o':=(x.2.1 a (Heap.lt_size e) (.inl hw)).2 o e
theorem Rep.kk{X}{h h'}{ow'}{v}{d}(r:Rep c h ow v d)(x:KK X h ow h' ow')(hn:∀ a,h.objs.size<=a->ow a=.foreign):Rep c h' ow' v d:=r.mono c x.fz (x.le hn)
theorem Zm.kk{X}{h h'}{ow'}{σ'}{vs}{ds}(r:Zm c h ow σ vs ds)(x:KK X h ow h' ow')(hn:∀ a,h.objs.size<=a->ow a=.foreign):Zm c h' ow' σ' vs ds:=
 ⟨r.1,fun i v d e1 e2=>(r.2 i v d e1 e2).kk x hn⟩
theorem KK.firm{X}{h h'}{ow'}{a}{o}(x:KK X h ow h' ow')(hX:¬ X a)(hfo:ow a=.foreign)(e:h.get? a=some o)(hf:Z6p o):h'.get? a=some o/\ow' a=.foreign:=by
 obtain ⟨x1,x2⟩:=x.2.1 a (Heap.lt_size e) (.inr ⟨hfo,hX⟩)
 obtain ⟨o',e',k⟩:=x2 o e
 exact ⟨by rw[e',hf.1 o' k],x1.trans hfo⟩
theorem UZ{h:Heap}{D:Addr}{ys:Array Value}(x:h.PlainList D ys):∃ o,h.get? D=some o/\Z6p o:=by
 obtain ⟨nn,e⟩:=x
 exact ⟨_,e,U9 (show Value.type "list"≠.type "frame" by decide) (show Value.type "list"≠.type "dict" by decide) (X2 (by decide))⟩
theorem KK.plainList{X}{h h'}{ow'}{D}{ys}(x:KK X h ow h' ow')(hX:¬ X D)(hfo:ow D=.foreign)(e:h.PlainList D ys):h'.PlainList D ys/\ow' D=.foreign:=by
 obtain ⟨nn,g⟩:=e
 obtain ⟨g',f'⟩:=x.firm hX hfo g (U9 (show Value.type "list"≠.type "frame" by decide) (show Value.type "list"≠.type "dict" by decide) (X2 (by decide)))
 exact ⟨⟨nn,g'⟩,f'⟩
structure ItS(c:Cx)(A:Around)(it:Addr)(fp:List Addr)(P:Nat->Value->Prop)(st:Nat->Heap->Prop)(xs:List D)(i:Nat)(h:Heap)(ow:Z5):Prop where
 walk:Zcv c A h ow it fp P st xs
 at_:st i h
 own:ow it=.foreign
theorem ItS.kk{X}{it}{fp}{P}{st}{xs}{i}{h h'}{ow'}(x:ItS c A it fp P st xs i h ow)(k:KK X h ow h' ow')(hX:¬ X it)(hn:∀ a,h.objs.size<=a->ow a=.foreign):ItS c A it fp P st xs i h' ow':=by
 obtain ⟨⟨w,w1,w2,w3,w4⟩,hst,ho⟩:=x
 obtain ⟨oi,ei,ci⟩:=w2 i h hst
 obtain ⟨ei',ho'⟩:=k.firm hX ho ei ci.firm
 refine ⟨⟨w,w1,w2,fun j v hp=>?_,fun b hb hne=>(k.le hn b).1 (w4 b hb hne)⟩,w.frame i h h' hst fun b hb o e=>?_,ho'⟩
 ·obtain ⟨d,e,r⟩:=w3 j v hp;exact ⟨d,e,r.kk k hn⟩
 ·by_cases q:b=it
  ·subst q;rw[ei] at e;injection e with e;subst e;exact ei'
  ·obtain ⟨o1_,e1_,f1_⟩:=w1 i h hst b hb
   rw[e] at e1_;obtain rfl:=Option.some.inj e1_
   obtain ⟨o',e',k'⟩:=k.fz b o (w4 b hb q) e
   rw[e',f1_.1 o' k']
theorem ItS.next{it}{fp}{P}{st}{xs}{i j}{h h'}(x:ItS c A it fp P st xs i h ow)(hst:st j h')(hot:∀ b o,b≠it->h.get? b=some o->h'.get? b=some o):ItS c A it fp P st xs j h' ow:=by
 obtain ⟨⟨w,w1,w2,w3,w4⟩,O,ho⟩:=x
 refine ⟨⟨w,w1,w2,fun k v hp=>?_,w4⟩,hst,ho⟩
 obtain ⟨d,e,r⟩:=w3 k v hp
 exact ⟨d,e,r.mono c (fun b o hw e=>⟨o,hot b o (by rintro rfl;rw[ho] at hw;exact nomatch hw) e,.refl _⟩) (.refl _)⟩
theorem ItS.obj{it}{fp}{P}{st}{xs}{i}{h}(x:ItS c A it fp P st xs i h ow):∃ o,h.get? it=some o/\VP o:=x.walk.cls i h x.at_
structure LA(c:Cx)(F:Frm)(ac:Addr)(hB:Heap)(owB:Z5)(h:Heap)(ow:Z5)(σ:St)(ys:Array Value)(ds:List D):Prop where
 act:Act c F h ow σ
 step:Z7 c hB owB h ow
 acc:h.PlainList ac ys
 own:ow ac=.foreign
 rep:Zm c h ow σ ys.toList ds
structure Wn(F:Frm)(ce:Env)(ac:Addr)(hB:Heap):Prop where
 cn:F.cenv=some ce
 bC:hB.objs.size<=ce.locals
 bD:hB.objs.size<=ac
 ap:Y1 F ac
theorem Wn.env{ce}{ac}{hB}(S:Wn F ce ac hB):F.env=ce:=by unfold Frm.env;rw[S.cn];rfl
theorem Wn.ne{ce}{ac}{hB}(S:Wn F ce ac hB):ac≠ce.locals:=by have:=S.ap.cloc;rwa [S.env] at this
theorem LA.expr{ac}{hB h h'}{owB ow'}{σ'}{ys}{ds}(x:LA c F ac hB owB h ow σ ys ds)(hA:Act c F h' ow' σ')(hS:Z7 c h ow h' ow'):LA c F ac hB owB h' ow' σ' ys ds:=by
 have k:KK (fun O=>False) h ow h' ow':=hS.kk
 obtain ⟨g,f⟩:=k.plainList id x.own x.acc
 exact ⟨hA,x.step.trans hS,g,f,x.rep.kk k x.act.new⟩
theorem LA.turn{ac a}{hB h h'}{owB}{ys}{ds}(x:LA c F ac hB owB h ow σ ys ds)(ha:Y1 F a)(hb:hB.objs.size<=a)(hne:a≠ac)(hfo:ow a=.foreign)(hlt:a < h.objs.size)(hcl:∀ o,h.get? a=some o->o.cls≠.type "frame")
  (hsz:h.objs.size<=h'.objs.size) (hot:∀ b o,b≠a->h.get? b=some o->h'.get? b=some o):LA c F ac hB owB h' ow σ ys ds:=by
 have k:KK (fun O=>O=a) h ow h' ow:=KK.turn rfl hfo hsz hot
 exact ⟨x.act.turnE ha hsz hot hfo hlt hcl,x.step.turnE hb hfo hsz hot,x.acc.at fun o e=>hot ac o (Ne.symm hne) e,x.own,x.rep.kk k x.act.new⟩
theorem LA.bind{ce:Env}{ac:Addr}{hB h h':Heap}{owB:Z5}{σ':St}{ys:Array Value}{ds:List D}(x:LA c F ac hB owB h ow σ ys ds)(hne:ac≠ce.locals)(hfo:ow ce.locals=.foreign)(hA:Act c F h' ow σ')(hS:Z7 c hB owB h' ow)
  (hsz:h.objs.size<=h'.objs.size) (hot:∀ b o,b≠ce.locals->h.get? b=some o->h'.get? b=some o):LA c F ac hB owB h' ow σ' ys ds:=by
 have k:KK (fun O=>O=ce.locals) h ow h' ow:=KK.turn rfl hfo hsz hot
 exact ⟨hA,hS,x.acc.at fun o e=>hot ac o hne e,x.own,x.rep.kk k x.act.new⟩
theorem LA.append{ce}{ac}{hB}{owB}{ys}{ds}{v}{d}{Q}(S:Wn F ce ac hB)(x:LA c F ac hB owB s.heap ow σ ys ds)(hr:Rep c s.heap ow v d)(hz:ds.length<=sizeLine)
  (k:∀ h',LA c F ac hB owB h' ow σ (ys.push v) (ds++[d])->s.heap.objs.size<=h'.objs.size->(∀ b o,b≠ac->s.heap.get? b=some o->h'.get? b=some o)->Q .none {s with heap:=h'}):wpAny (MD c) A (call (.builtin "list.append") [.ref ac,v]) Q E s:=by
 have hl:ys.size=ds.length:=by have:=x.rep.1;simpa using this
 refine wpAny_list_append_plain x.acc (fun h' hl' hs=>?_) (by rw[hl];exact hz)
 have hsz:=Nat.le_of_eq hs.1.symm
 have hot:∀ b o,b≠ac->s.heap.get? b=some o->h'.get? b=some o:=fun b o hb e=>(hs.2 b hb).trans e
 have kk:KK (fun O=>O=ac) s.heap ow h' ow:=KK.turn rfl x.own hsz hot
 obtain ⟨o,e,f⟩:=UZ x.acc
 refine k h' ⟨x.act.turnE S.ap hsz hot x.own (Heap.lt_size e) (fun o' e'=>by rw[e] at e';injection e' with e';subst e';exact f.2),x.step.turnE S.bD x.own hsz hot,hl',x.own,?_⟩ hsz hot
 refine ⟨by simp[hl],fun i u d' e1 e2=>?_⟩
 rw[Array.toList_push] at e1
 by_cases q:i < ys.toList.length
 ·rw[List.getElem?_append_left q] at e1
  rw[List.getElem?_append_left (by rw[<-x.rep.1];exact q)] at e2
  exact (x.rep.2 i u d' e1 e2).kk kk x.act.new
 ·have q':=Nat.le_of_not_lt q
  rw[List.getElem?_append_right q'] at e1
  rw[List.getElem?_append_right (by rw[<-x.rep.1];exact q'),<-x.rep.1] at e2
  have hi:i - ys.toList.length=0:=by
   have:=(List.getElem?_eq_some_iff.mp e1).1
   simp only[List.length_cons,List.length_nil] at this
   lia
  rw[hi] at e1 e2
  simp at e1 e2
  subst e1 e2
  exact hr.kk kk x.act.new
theorem Out.bind_ok{α β:Type}{o:Out α}{f:α->St->Out β}{b:β}{τ}(h:o.bind f=.ok b τ):∃ a σ,f a σ=.ok b τ:=by
 induction o with
 |ok a σ=>exact ⟨a,σ,h⟩
 |exc O U=>cases h
 |stuck=>cases h
theorem Z07(xs):∀ {t:Expr} {ifs:List Expr} {elt:Expr} {σ σ':St} {ds:List D},Zh I t ifs elt xs σ=.ok ds σ'->ds.length<=xs.length:=by
 induction xs with
 |nil=>intro t ifs elt σ σ' ds h;injection h with h;subst h;exact Nat.le_refl _
 |cons x xs ih=>
  intro t ifs elt σ σ' ds h
  obtain ⟨O,O,h⟩:=Out.bind_ok h
  obtain ⟨b,O,h⟩:=Out.bind_ok h
  induction b with
  |false=>exact Nat.le_succ_of_le (ih h)
  |true=>
   obtain ⟨d,q8,h⟩:=Out.bind_ok (show (frz _).bind (c1c _)=_ from h)
   unfold c1c at h
   cases h4:Zh I t ifs elt xs q8 with
   |exc O U=>rw[h4] at h;cases h
   |stuck=>rw[h4] at h;cases h
   |ok ds' s4_=>
    rw[h4] at h
    cases h
    exact Nat.succ_le_succ (ih h4)
def GR(c:Cx)(F:Frm)(ce:Env)(ac it:Addr)(hB:Heap)(owB:Z5)(R:Result->Shared->Prop)(s:Shared)(h:Heap)(ow:Z5)(ds:List D)(o:Out (List D)):Prop:=
 match o with
 |.ok ds' σ'=>∀ h' ow' tk ys',LA c F ac hB owB h' ow' σ' ys' (ds++ds')->KK (fun a=>a=ac\/a=ce.locals\/a=it) h ow h' ow'->R (.ok .next) {s with heap:=h',toks:=tk}
 |.exc m σ'=>∀ e h' ow' tk T,Act c F h' ow' σ'->Z7 c hB owB h' ow'->Yn c h' e m (.ref T)->R (.error (.ref e)) {s with heap:=h',toks:=tk}
 |.stuck=>False
inductive Zcw(c:Cx)(A:Around)(F:Frm)(ac it:Addr)(hB:Heap)(owB:Z5)(R:Result->Shared->Prop)(fp:List Addr)(P:Nat->Value->Prop)(st:Nat->Heap->Prop)(xs:List D)(K:List D->St->Out (List D))(B:Nat->Nat->Prop)(k:Nat)(s:Shared):Prop
 |mk (i:Nat) (ow:Z5) (σ:St) (ys:Array Value) (ds:List D) (O:k=xs.length+1 - i) (O:i<=xs.length) (O:LA c F ac hB owB s.heap ow σ ys ds) (O:ItS c A it fp P st xs i s.heap ow) (O:B i ds.length) (O:GR c F F.env ac it hB owB R s s.heap ow ds (K (xs.drop i) σ))
theorem GR.from{ce}{ac it}{hB}{owB}{R}{h h1_}{ow1}{tk}{ds}{o}(g:GR c F ce ac it hB owB R s h ow ds o)(k:KK (fun a=>a=ac\/a=ce.locals\/a=it) h ow h1_ ow1) :
  GR c F ce ac it hB owB R {s with heap:=h1_,toks:=tk} h1_ ow1 ds o:=by
 induction o with
 |ok ds' σ'=>exact fun h' ow' tk' ys' a b=>g h' ow' tk' ys' a (k.trans b)
 |exc m' σ'=>exact fun e h' ow' tk' T a b d=>g e h' ow' tk' T a b d
 |stuck=>exact g
theorem Z40(hT:TrS c I n)(hA:AOk n A F)(hF:FOk F){ifs}{Q}(ho:ifs.all (okE m F.cenv.isSome F.env.kindOf)=true)(hAct:Act c F s.heap ow σ)(hP:Z2 c F (Z7 c) Jn s.heap ow s (X9 I ifs σ) Q E) :
  wpAny (MD c) A (forIn ifs true fun c r=>if r=true then do let ok <-isTrue c F.env (eval c F.env);pure (ForInStep.yield ok) else pure (ForInStep.yield r)) Q E s:=by
 match ifs,hP,ho with
 |[],hP,O=>exact wpAny_tests_nil (hP true s.heap ow s.toks hAct (.refl _ _) rfl)
 |[e],hP,ho=>
  simp only[List.all_cons,Bool.and_eq_true] at ho
  exact wpAny_tests_one (hT m e A F s ow σ E _ ho.1 hA hF hAct hP)
 |O::U::V,hP,O1=>exact hP.elim
noncomputable def Wo(X:Code)(iter t elt:Expr)(ifs:List Expr)(it acc:Value)(env:Env):Sem PySem.Fin:=do
 standAt iter.pos
 match <-pyNext it with
 |none=>pure (.done .next)
 |some v=>
  letOwnedTupleGo t it v
  assign t env v
  let mut ok:=true
  for c in ifs do
   if ok then ok <-isTrue c env (eval c env)
  if ok then
   (do let _ <-call (.builtin "list.append") [acc,<-eval elt env])
  again X
theorem Act.loc{ce}{h}(hA:Act c F h ow σ)(hcn:F.cenv=some ce)(x):x∈σ.loc↔(ce.kindOf x=some .local/\x≠(".0":Str)):=by
 have S:=hA.scp
 rw[hcn] at S
 obtain ⟨O,O,O,C⟩:=S
 exact C.loc x
theorem Z3a{n i}(h:i < n):n+1 - (i+1) < n+1 - i:=by
 rw[Nat.add_sub_add_right,Nat.succ_sub (Nat.le_of_lt h)]
 exact Nat.lt_succ_self _
theorem ZaA{d n i z}(q:d+(n - i)<=z):d+(n - (i+1))<=z:=Nat.le_trans (Nat.add_le_add_left (Nat.sub_le_sub_left (Nat.le_succ i) n) d) q
theorem ZaB{d n i z:Nat}(h:i < n)(q:d+(n - i)<=z):d < z:=Nat.lt_of_lt_of_le (Nat.lt_add_of_pos_right (Nat.sub_pos_of_lt h)) q
theorem ZaC{d n i z}(h:i < n)(q:d+(n - i)<=z):d+1+(n - (i+1))<=z:=by
 have e:n - (i+1)+1=n - i:=Nat.succ_pred_eq_of_pos (Nat.sub_pos_of_lt h)
 rw[Nat.add_assoc,Nat.add_comm 1,e]
 exact q
theorem Z10{n i:Nat}(h:i<=n)(q:¬ i < n):i=n:=Nat.le_antisymm h (Nat.le_of_not_lt q)
theorem Z41(hT:TrS c I n)(hE:EvS c I n)(hA:AOk n A F)(hF:FOk F){ac it}{hB}{owB}(S:Wn F F.env ac hB)(hfr:F.env.frame=F.fenv.frame){iter t elt}{ifs}{X}
  (hst:∀ x∈ZE t,F.env.kindOf x=some .local/\x≠(".0":Str)/\W0 x) (hoi:ifs.all (okE m true F.env.kindOf)=true) (hoe:okE m true F.env.kindOf elt=true)
  (api:Y1 F it) (bI:hB.objs.size<=it) (hne:it≠ac) {fp} {P:Nat->Value->Prop} {st:Nat->Heap->Prop} {xs} {R:Result->Shared->Prop} {Q:PySem.Fin->Shared->Prop}
  {i} {ys} {ds} (hi:i<=xs.length) (L:LA c F ac hB owB s.heap ow σ ys ds) (T:ItS c A it fp P st xs i s.heap ow) (hz:ds.length+(xs.length - i)<=sizeLine) (g:GR c F F.env ac it hB owB R s s.heap ow ds (Zh I t ifs elt (xs.drop i) σ))
  (q1:i < xs.length->∀ (h':Heap) (tk:Nat) (ow:Z5) (σ:St) (ys:Array Value) (ds:List D),LA c F ac hB owB h' ow σ ys ds->ItS c A it fp P st xs (i+1) h' ow->ds.length+(xs.length - (i+1))<=sizeLine->GR c F F.env ac it hB owB R {s with heap:=h',toks:=tk} h' ow ds (Zh I t ifs elt (xs.drop (i+1)) σ)->Q (.again X) {s with heap:=h',toks:=tk})
  (q2:∀ s',R (.ok .next) s'->Q (.done .next) s') :
  wpAny (MD c) A (Wo X iter t elt ifs (.ref it) (.ref ac) F.env) Q (notedBy (MD c) A F.env fun e s'=>R (.error e) s') s:=by
 have hcb:F.cenv.isSome=true:=by rw[S.cn];rfl
 have hneC:it≠F.env.locals:=api.cloc
 unfold Wo
 refine wpAny_bind (wpAny_standAt (wpAny_bind (Zn ?_)))
 obtain ⟨oi,ei,ci⟩:=T.obj
 by_cases hlt:i < xs.length
 ·refine T.walk.W.item i _ _ _ hlt T.at_ fun v h1_ tk1 hP hst1 hk1_ hsz1_=>?_
  have hk1_:∀ b o,b≠it->s.heap.get? b=some o->h1_.get? b=some o:=fun b o hb e=>hk1_ b o (by simpa using hb) e
  have L1_:=L.turn api bI hne T.own (Heap.lt_size ei) (fun o e=>by rw[ei] at e;injection e with e;subst e;exact ci.firm.2) hsz1_ hk1_
  have T1:=T.next hst1 hk1_
  refine gG fun G gk=>?_
  obtain ⟨d,hd,hr⟩:=T1.walk.item i v hP
  refine gk ?_
  have K1_:KK (fun a=>a=ac\/a=F.env.locals\/a=it) s.heap ow h1_ ow:=KK.turn (.inr (.inr rfl)) T.own hsz1_ hk1_
  have hdr:xs.drop i=d::xs.drop (i+1):=by
   have:=(List.getElem?_eq_some_iff.mp hd).2
   simp only[List.drop_eq_getElem_cons hlt,this]
  rw[hdr] at g
  have g:GR c F F.env ac it hB owB R s s.heap ow ds ((Zl t d σ).bind fun O=>c1a I ifs elt (Zh I t ifs elt (xs.drop (i+1)))):=g
  refine wpAny_bind (UW (s:={s with heap:=h1_,toks:=tk1}) T1.obj ?_)
  refine gG fun G gk=>?_
  obtain ⟨O,hoC,mmC,hnsC⟩:=L1_.act.comp S.cn
  refine gk ?_
  have hltC:=hnsC.lt
  refine wpAny_bind (K9 (s:={s with heap:=h1_,toks:=tk1}) hA.handled S.cn (fun x hx=>⟨(L1_.act.loc S.cn x).mpr ⟨(hst x hx).1,(hst x hx).2.1⟩,(hst x hx).2.2⟩) L1_.act hr S.bC L1_.step ?_)
  cases hb:Zl t d σ with
  |exc m' σ'=>exact VE hb
  |stuck=>rw[hb] at g;exact g.elim
  |ok u s1_=>
   rw[hb] at g
   have g:GR c F F.env ac it hB owB R s s.heap ow ds ((X9 I ifs s1_).bind (c1b I elt (Zh I t ifs elt (xs.drop (i+1))))):=g
   intro h2_ tk2 hA2 hS2 hsz2_ hk2_
   have L2_:=L1_.bind S.ne hoC hA2 hS2 hsz2_ hk2_
   have Kc:KK (fun O=>O=F.env.locals) h1_ ow h2_ ow:=KK.turn rfl hoC hsz2_ hk2_
   have T2:=T1.kk Kc hneC L1_.act.new
   have K2_:KK (fun a=>a=ac\/a=F.env.locals\/a=it) s.heap ow h2_ ow:=K1_.trans' Kc fun z O q=>.inr (.inl q)
   refine wpAny_bind (Z40 (m:=m) (s:={s with heap:=h2_,toks:=tk2}) hT hA hF (by rw[hcb];exact hoi) hA2 ?_)
   generalize X9 I ifs s1_=ww at g
   induction ww with
   |stuck=>exact g.elim
   |exc m' q7=>
    intro x h' ow' tk' a1 a2 a3
    obtain ⟨xa,tb,rfl,hfl⟩:=a3
    refine XG (s:={s with heap:=h',toks:=tk'}) hA.frames a1 hfr hfl fun h'' ow'' T' b1 b2 b3=>?_
    exact g xa h'' ow'' tk' T' b1 ((hS2.trans a2).trans b2) b3
   |ok b q7=>
    intro b' h3_ ow3_ tk3 hA3 hS3 hb'
    have hb':b'=b:=hb'
    subst hb'
    have Ks:KK (fun a=>a=ac\/a=F.env.locals\/a=it) h2_ ow h3_ ow3_:=hS3.kk
    have L3_:=L2_.expr hA3 hS3
    have T3_:=T2.kk (hS3.kk (X:=fun O=>False)) id hA2.new
    have K3_:=K2_.trans Ks
    cases b' with
    |false=>
     rw[if_neg (by decide)]
     exact wpAny_pure (q1 hlt h3_ tk3 ow3_ q7 ys ds L3_ T3_ (ZaA hz) (g.from (tk:=tk3) K3_))
    |true=>
     rw[if_pos rfl]
     have g:GR c F F.env ac it hB owB R s s.heap ow ds ((frz (I.ev elt q7)).bind (c1c (Zh I t ifs elt (xs.drop (i+1))))):=g
     refine wpAny_bind (wpAny_bind (hE m elt A F {s with heap:=h3_,toks:=tk3} ow3_ q7 _ _ (by rw[hcb];exact hoe) hA hF hA3 ?_))
     cases hw:I.ev elt q7 with
     |stuck=>rw[hw] at g;exact g.elim
     |exc m' q8=>
      rw[hw] at g
      intro x h' ow' tk' a1 a2 a3
      obtain ⟨xa,tb,rfl,hfl⟩:=a3
      refine XG (s:={s with heap:=h',toks:=tk'}) hA.frames a1 hfr hfl fun h'' ow'' T' b1 b2 b3=>?_
      exact g xa h'' ow'' tk' T' b1 (((hS2.trans hS3).trans a2).trans b2) b3
     |ok r q8=>
      rw[hw] at g
      have g:GR c F F.env ac it hB owB R s s.heap ow ds (c1c (Zh I t ifs elt (xs.drop (i+1))) r.1.d (Zo r q8)):=g
      intro y h4_ ow4 tk4 hA4 hS4 hry
      refine gG fun G gk=>?_
      obtain ⟨ow5,hA5,hS5,hr5⟩:=hA4.freeze hF hry
      refine gk ?_
      have S45:=hS4.trans hS5
      have L5:=L3_.expr hA5 S45
      have T5:=T3_.kk (S45.kk (X:=fun O=>False)) id hA3.new
      have K5_:=K3_.trans (S45.kk (X:=fun a=>a=ac\/a=F.env.locals\/a=it))
      refine wpAny_bind (L5.append (s:={s with heap:=h4_,toks:=tk4}) S hr5 (Nat.le_of_lt (ZaB hlt hz)) fun h6_ L6 hsz6 hk6=>wpAny_pure (wpAny_pure ?_))
      have Ka:KK (fun O=>O=ac) h4_ ow5 h6_ ow5:=KK.turn rfl L5.own hsz6 hk6
      have T6:=T5.kk Ka hne hA5.new
      have K6_:KK (fun a=>a=ac\/a=F.env.locals\/a=it) s.heap ow h6_ ow5:=K5_.trans' Ka fun z O q=>.inl q
      refine q1 hlt h6_ tk4 ow5 (Zo r q8) (ys.push y) (ds++[r.1.d]) L6 T6 (by rw[List.length_append];exact ZaC hlt hz) ?_
      unfold c1c at g
      cases hc:Zh I t ifs elt (xs.drop (i+1)) (Zo r q8) with
      |stuck=>rw[hc] at g;exact g.elim
      |exc m' σ'=>rw[hc] at g;exact fun xa h' ow' tk' T' a b d=>g xa h' ow' tk' T' a b d
      |ok ds' σ'=>
       rw[hc] at g
       exact fun h' ow' tk' ys' a b=>g h' ow' tk' ys' (by rw[List.append_assoc] at a;exact a) (K6_.trans b)
 ·have hin:=Z10 hi hlt
  clear q1
  subst hin
  rw[List.drop_length] at g
  refine T.walk.W.done _ _ _ T.at_ fun h1_ tk1 hk1_ hsz1_=>wpAny_pure ?_
  have hk1_:∀ b o,b≠it->s.heap.get? b=some o->h1_.get? b=some o:=fun b o hb e=>hk1_ b o (by simpa using hb) e
  have L1_:=L.turn api bI hne T.own (Heap.lt_size ei) (fun o e=>by rw[ei] at e;injection e with e;subst e;exact ci.firm.2) hsz1_ hk1_
  exact q2 _ (g h1_ ow tk1 ys (by rw[List.append_nil];exact L1_) (KK.turn (.inr (.inr rfl)) T.own hsz1_ hk1_))
theorem Kb(hT:TrS c I n)(hE:EvS c I n)(hA:AOk n A F)(hF:FOk F){ce}{ac it}{hB}{owB}(S:Wn F ce ac hB)(hfr:ce.frame=F.fenv.frame){iter t elt}{gens}{sc}{lp}{dp}{ifs}
  (hturn:compTurn (.ListComp elt gens sc lp) dp (.ref it) (.ref ac) ce=Wo (.compLoop (.ListComp elt gens sc lp) dp (.ref it) (.ref ac) ce) iter t elt ifs (.ref it) (.ref ac) ce) (hst:∀ x∈ZE t,ce.kindOf x=some .local/\x≠(".0":Str)/\W0 x) (hoi:ifs.all (okE m true ce.kindOf)=true) (hoe:okE m true ce.kindOf elt=true)
  (api:Y1 F it) (bI:hB.objs.size<=it) (hne:it≠ac) {fp} {P} {st} {xs} {R}
  {i} {ys} {ds} (hi:i<=xs.length) (L:LA c F ac hB owB s.heap ow σ ys ds) (T:ItS c A it fp P st xs i s.heap ow) (hz:ds.length+(xs.length - i)<=sizeLine) (g:GR c F ce ac it hB owB R s s.heap ow ds (Zh I t ifs elt (xs.drop i) σ)) :
  codeAny (MD c) A (.compLoop (.ListComp elt gens sc lp) dp (.ref it) (.ref ac) ce) R s:=by
 obtain rfl:=S.env
 refine codeAny_loop rfl (Zcw c A F ac it hB owB R fp P st xs (Zh I t ifs elt) fun i l=>l+(xs.length - i)<=sizeLine) ?_ _ ⟨i,ow,σ,ys,ds,rfl,hi,L,T,hz,g⟩
 rintro k s ⟨i,ow,σ,ys,ds,rfl,hi,L,T,hz,g⟩
 refine wpAny_noted ?_
 rw[hturn]
 exact Z41 hT hE hA hF S hfr hst hoi hoe api bI hne hi L T hz g (fun hlt h' tk ow σ ys ds L T z g=>⟨rfl,xs.length+1 - (i+1),Z3a hlt,i+1,ow,σ,ys,ds,rfl,hlt,L,T,z,g⟩) fun O r=>r
noncomputable def J2(cells:List (Str × Addr)):List (Str × NameKind)->List (Str × Addr)->List (Str × Addr):=fun O U=>match O,U with
 |[],acc=>acc
 |(x,k)::r,acc=>if k == .free then J2 cells r ((x,(cells.lookup x).getD 0)::acc) else J2 cells r acc
theorem WC(cells)(x)(k)(r)(acc):J2 cells ((x,k)::r) acc=if k == .free then J2 cells r ((x,(cells.lookup x).getD 0)::acc) else J2 cells r acc:=rfl
theorem Z26{sc}{env}(h:∀ x,(x,NameKind.free)∈sc.names->(env.cells.lookup x).isSome=true):closureFor sc env=pure (J2 env.cells sc.names []):=by
 have key:∀ (names:List (Str × NameKind)) (acc:List (Str × Addr)),(∀ x,(x,NameKind.free)∈names->(env.cells.lookup x).isSome=true) ->
   (forIn names acc fun (x:Str × NameKind) (r:List (Str × Addr))=>(do
    let (name,kind):=x
    if kind == .free then do
     let a <-cellOf env name
     pure (ForInStep.yield ((name,a)::r))
    else pure (ForInStep.yield r):Sem (ForInStep (List (Str × Addr)))))=pure (J2 env.cells names acc):=by
  intro names
  induction names with
  |nil=>intro acc O;rfl
  |cons p r ih=>
   intro acc hp
   obtain ⟨x,k⟩:=p
   rw[List.forIn_cons]
   cases hk:k == NameKind.free with
   |true=>
    have hx:=hp x ((show k=.free by simpa using hk)▸List.mem_cons_self)
    have hcell:cellOf env x=pure ((env.cells.lookup x).getD 0):=by
     unfold cellOf
     generalize env.cells.lookup x=ww at hx
     induction ww with
     |none=>exact Z4 hx
     |some a=>rfl
    simp only[hk,if_true,hcell,pure_bind]
    rw[ih _ fun y hy=>hp y (List.mem_cons_of_mem _ hy)]
    rw[WC,if_pos hk]
   |false=>
    simp only[hk,Bool.false_eq_true,if_false,pure_bind]
    rw[ih _ fun y hy=>hp y (List.mem_cons_of_mem _ hy)]
    rw[WC,if_neg (by rw[hk];decide)]
 unfold closureFor
 have:=key sc.names [] h
 first
  |exact this
  |(simp only[pure_bind,bind_pure] at this ⊢;exact this)
  |(simpa using this)
theorem J3{cells}:∀ (names:List (Str × NameKind)) (acc:List (Str × Addr)) (x:Str),x∉names.map (fun O=>O.1)->(J2 cells names acc).lookup x=acc.lookup x:=fun O U V O1=>match O,U,V,O1 with
 |[],acc,x,O=>rfl
 |(y,k)::r,acc,x,h=>by
  have hne:x≠y:=fun e=>h (by simp[e])
  have hr:x∉r.map (fun O=>O.1):=fun e=>h (List.mem_cons_of_mem _ e)
  have hb:(x == y)=false:=by simpa using hne
  rw[WC]
  split
  ·simp only[J3 r _ x hr,List.lookup_cons,hb]
  ·exact J3 r acc x hr
theorem Z08{cells}:∀ (names:List (Str × NameKind)) (acc:List (Str × Addr)) (x:Str),(names.map (fun O=>O.1)).Nodup->(x,NameKind.free)∈names->(J2 cells names acc).lookup x=some ((cells.lookup x).getD 0):=fun O U V O1 O2=>match O,U,V,O1,O2 with
 |(y,k)::r,acc,x,hn,hm=>by
  rw[List.map_cons,List.nodup_cons] at hn
  rw[WC]
  rcases List.mem_cons.mp hm with e|hm
  ·have h1:x=y:=(Prod.mk.inj e).1
   have h2:k=.free:=(Prod.mk.inj e).2.symm
   rw[h1,h2,if_pos (by decide),J3 r _ y hn.1,List.lookup_cons]
   simp
  ·split
   ·exact Z08 r _ x hn.2 hm
   ·exact Z08 r _ x hn.2 hm
theorem XX(kd)(x):∀ names:List (Str × NameKind),(Vl names kd).lookup x=(names.lookup x).map fun k=>if (k == .free&&kd x == some .cell)=true then .cell else k:=fun O=>match O with
 |[]=>rfl
 |(y,k)::r=>by
  have ih:=XX kd x r
  have e:Vl ((y,k)::r) kd=(y,if (k == .free&&kd y == some .cell)=true then .cell else k)::Vl r kd:=by
   unfold Vl
   rw[List.map_cons]
   congr 1
   dsimp only
   split<;>rfl
  rw[e,List.lookup_cons,List.lookup_cons]
  cases hxy:x == y with
  |true=>
   have:x=y:=by simpa using hxy
   rw[this];rfl
  |false=>exact ih
structure Z8c(sc:Scope)(kd:Str->Option NameKind)(ts:List Str):Prop where
 kind:sc.kind=.function
 nodup:(sc.names.map (fun O=>O.1)).Nodup
 each:∀ p∈sc.names,(p.2=.local/\W0 p.1/\(p.1=(".0":Str)\/p.1∈ts))\/(p.2=.free/\kd p.1=some .cell)\/p.2=.globalImplicit
 ts:∀ x∈ts,sc.names.lookup x=some .local/\x≠(".0":Str)
theorem Z3b{sc}{kd}{ts}(h:U8 sc kd ts=true):Z8c sc kd ts:=by
 unfold U8 at h
 simp only[Bool.and_eq_true,decide_eq_true_eq,List.all_eq_true,Bool.or_eq_true,beq_iff_eq,bne_iff_ne] at h
 obtain ⟨⟨⟨h1,h2⟩,h3⟩,h4⟩:=h
 refine ⟨h1,h2,fun p hp=>?_,fun x hx=>h4 x hx⟩
 rcases h3 p hp with (⟨⟨⟨a,b⟩,b'⟩,d⟩|⟨a,b⟩)|a
 ·exact .inl ⟨a,⟨b,b'⟩,d.imp id fun q=>by simpa using q⟩
 ·exact .inr (.inl ⟨a,b⟩)
 ·exact .inr (.inr a)
theorem Z11{names:List (Str × NameKind)}(hn:(names.map (fun O=>O.1)).Nodup){x:Str}{k:NameKind}(h:(x,k)∈names):names.lookup x=some k:=by
 induction names with
 |nil=>cases h
 |cons p r ih=>
  obtain ⟨y,k'⟩:=p
  rw[List.map_cons,List.nodup_cons] at hn
  rcases List.mem_cons.mp h with e|hm
  ·have h1:x=y:=(Prod.mk.inj e).1
   have h2:k=k':=(Prod.mk.inj e).2
   rw[h1,h2,List.lookup_cons];simp
  ·have hne:x≠y:=fun q=>hn.1 (List.mem_map.mpr ⟨_,hm,q⟩)
   have hb:(x == y)=false:=by simpa using hne
   simp only[List.lookup_cons,hb];exact ih hn.2 hm
noncomputable def ZO(sc:Scope)(env:Env)(C:Addr):Env:=compEnvC sc (J2 env.cells sc.names []) C env
theorem Kd{sc}{env}{C}(hk:env.scope.kind=.function)(x):(ZO sc env C).kindOf x=kdC sc env.kindOf x:=by
 show (relabel sc env).names.lookup x=(Vl sc.names env.kindOf).lookup x
 have:(relabel sc env).names=Vl sc.names env.kindOf:=by
  unfold relabel Vl
  simp[hk]
 rw[this]
noncomputable def YN(F:Frm)(ce:Env):Frm:={F with cenv:=some ce}
theorem Act.enterComp{h}{sc}{ts}{C}(hA:Act c F h ow σ)(hcn:F.cenv=none)(hsc:Z8c sc F.env.kindOf ts)(hns:h.Ns C fun O=>none)(hC:Y1 F C)(hfo:ow C=.foreign) :
  Act c (YN F (ZO sc F.env C)) h ow ⟨[],σ.vars,ts,σ.pl⟩:=by
 have he:F.env=F.fenv:=by unfold Frm.env;rw[hcn];rfl
 have okF:=hA.ok.1
 have S:=hA.scp
 rw[hcn] at S
 obtain ⟨O,O,mf,S⟩:=S
 have hkd:∀ x,(ZO sc F.env C).kindOf x=(sc.names.lookup x).map fun k=>if (k == .free&&F.fenv.kindOf x == some .cell)=true then .cell else k:=fun x=>by
  rw[Kd (by rw[he];exact okF.kind)]
  unfold kdC
  rw[he]
  exact XX _ _ _
 have link:∀ x,(ZO sc F.env C).kindOf x=some .cell->F.fenv.kindOf x=some .cell/\∃ k,F.fenv.cells.lookup x=some k/\(ZO sc F.env C).cells.lookup x=some k:=by
  intro x hx
  rw[hkd] at hx
  refine gG fun G gk=>?_
  obtain ⟨k,hk,e⟩:=Option.map_eq_some_iff.mp hx
  refine gk ?_
  have hm:=mem_of_lookup hk
  rcases hsc.each _ hm with ⟨q,O⟩|⟨q,q2⟩|q
  ·dsimp only at q;subst q;cases e
  ·dsimp only at q q2
   subst q
   rw[he] at q2
   have hc:=okF.cells x q2
   obtain ⟨a,ha⟩:=Option.isSome_iff_exists.mp hc
   refine ⟨q2,a,ha,?_⟩
   show (J2 F.env.cells sc.names []).lookup x=some a
   rw[Z08 _ _ _ hsc.nodup hm,he,ha];rfl
  ·dsimp only at q;subst q;cases e
 refine ⟨hA.pres,hA.h0,hA.n0,hA.new,hA.fix,hA.pool,hA.frames,hA.head,⟨okF,?_⟩,?_⟩
 ·show Z0F (ZO sc F.env C)
  refine ⟨hsc.kind,by show F.env.globals=_;rw[he];exact okF.globals,by show F.env.builtins=_;rw[he];exact okF.builtins,fun x hx=>?_⟩
  obtain ⟨O,k,O,e⟩:=link x hx
  rw[e];rfl
 ·show Zaf c (YN F (ZO sc F.env C)) (ZO sc F.env C) h ow ⟨[],σ.vars,ts,σ.pl⟩
  refine ⟨mf,fun O=>none,S,⟨hns,⟨rfl,rfl⟩,hC.hb,hfo,hC.loc,fun x k e=>by rintro rfl;exact hC.cell x e,by show F.env.frame=_;rw[he];rfl,link,fun x=>?_,fun x lv e=>by exact Z3 e⟩⟩
  rw[hkd]
  constructor
  ·intro hx
   obtain ⟨h1,h2⟩:=hsc.ts x hx
   exact ⟨by rw[h1];rfl,h2⟩
  ·rintro ⟨hx,h0⟩
   obtain ⟨k,hk,e⟩:=Option.map_eq_some_iff.mp hx
   have hm:=mem_of_lookup hk
   rcases hsc.each _ hm with ⟨O,O,q⟩|⟨q,q2⟩|q
   ·rcases q with q|q
    ·exact absurd q h0
    ·exact q
   ·dsimp only at q q2
    subst q
    rw[he] at q2
    simp[q2] at e
   ·dsimp only at q;subst q;cases e
theorem Act.leaveComp{h}{ce}(hA:Act c (YN F ce) h ow σ)(hcn:F.cenv=none):Act c F h ow ⟨σ.up,[],[],σ.pl⟩:=by
 have S:=hA.scp
 obtain ⟨mf,O,S,O⟩:=S
 have he:F.env=F.fenv:=by unfold Frm.env;rw[hcn];rfl
 refine ⟨hA.pres,hA.h0,hA.n0,hA.new,hA.fix,hA.pool,hA.frames,hA.head,⟨hA.ok.1,by rw[he];exact hA.ok.1⟩,?_⟩
 rw[hcn]
 exact ⟨rfl,rfl,mf,S⟩
theorem Z27{α:Type}{what}{env}{xa}{msg}{T}{Q:α->Shared->Prop}(hAct:Act c F s.heap ow σ)(hfl:Yn c s.heap xa msg (.ref T))(k:∀ h',Act c F h' ow σ->Z7 c s.heap ow h' ow->Yn c h' xa msg (.ref T)->E (.ref xa) {s with heap:=h'}) :
  wpAny (MD c) A (PySem.passOn what (.ref xa) env:Sem α) Q E s:=by
 obtain ⟨oe,vs,dx,od,md,t,e1,e2,e3,e4,e5,e6,O⟩:=id hfl
 unfold PySem.passOn
 refine wpAny_bind (wpAny_field e2 e5 e6 ?_)
 rw[if_neg (by simp)]
 refine wpAny_bind (Yw hAct hfl fun h' a1 a2 a3=>?_)
 exact wpAny_throw (k h' a1 a2 a3)
noncomputable def VF(X:Code)(Y:Value->Code)(iter t t2 it2:Expr)(it acc:Value)(env:Env):Sem PySem.Fin:=do
 standAt iter.pos
 match <-pyNext it with
 |none=>pure (.done .next)
 |some v=>
  letOwnedTupleGo t it v
  assign t env v
  let x <-eval it2 env
  standAt it2.pos
  let x <-foldedSetIterable it2 env x
  let _ <-runOwn (Y (<-holding [x] (pyIter x))) env
  again X
theorem Z8d(elt t iter t2 it2)(sc)(pos)(it acc)(env) :
  compTurn (.ListComp elt [⟨t,iter,[],0⟩,⟨t2,it2,[],0⟩] sc pos) 0 it acc env=VF (.compLoop (.ListComp elt [⟨t,iter,[],0⟩,⟨t2,it2,[],0⟩] sc pos) 0 it acc env) (fun v=>.compStart (.ListComp elt [⟨t,iter,[],0⟩,⟨t2,it2,[],0⟩] sc pos) 1 v acc env) iter t t2 it2 it acc env:=by rfl
theorem Z8e(elt t iter t2 it2)(sc)(pos)(it acc)(env) :
  compTurn (.ListComp elt [⟨t,iter,[],0⟩,⟨t2,it2,[],0⟩] sc pos) 1 it acc env=Wo (.compLoop (.ListComp elt [⟨t,iter,[],0⟩,⟨t2,it2,[],0⟩] sc pos) 1 it acc env) it2 t2 elt [] it acc env:=by rfl
theorem Z8f(elt t iter)(ifs)(sc)(pos)(it acc)(env) :
  compTurn (.ListComp elt [⟨t,iter,ifs,0⟩] sc pos) 0 it acc env=Wo (.compLoop (.ListComp elt [⟨t,iter,ifs,0⟩] sc pos) 0 it acc env) iter t elt ifs it acc env:=by rfl
theorem Z28{R}{elt t iter t2 it2}{sc}{pos}{it acc}{env}
  (h0:codeAny (MD c) A (.compLoop (.ListComp elt [⟨t,iter,[],0⟩,⟨t2,it2,[],0⟩] sc pos) 1 it acc env) R s)
  (h:wpAny (MD c) A (pyIter it) (fun it' s'=>codeAny (MD c) A (.compLoop (.ListComp elt [⟨t,iter,[],0⟩,⟨t2,it2,[],0⟩] sc pos) 1 it' acc env) R s') (notedBy (MD c) A env fun x s'=>R (.error x) s') s) :
  codeAny (MD c) A (.compStart (.ListComp elt [⟨t,iter,[],0⟩,⟨t2,it2,[],0⟩] sc pos) 1 it acc env) R s:=by
 refine codeAny_of_tree ?_
 show wpAny _ _ ((compStart (.ListComp elt [⟨t,iter,[],0⟩,⟨t2,it2,[],0⟩] sc pos) 1 it acc env).onRaise (fun x=>do noteFrame x env;standAt theWindowsPlace)) _ _ s
 refine wpAny_notedAt ?_
 unfold compStart
 refine wpAny_bind (wpAny_askSetting (wpAny_ite ?_))
 split
 ·first
   |exact wpAny_bind (wpAny_pure (wpAny_pure (And.intro rfl h0)))
   |exact wpAny_pure (And.intro rfl h0)
 ·first
   |exact wpAny_bind (wpAny_rule (wpAny_bind (wpAny_standAt (wpAny_bind (wpAny_mono h (fun it' s' h'=>wpAny_pure (And.intro rfl h')) fun O O x=>x)))))
   |(refine wpAny_bind (wpAny_rule ?_);show wpAny _ _ (standAt it2.pos >>= _) _ _ s;exact wpAny_bind (wpAny_standAt (wpAny_bind (wpAny_mono h (fun it' s' h'=>wpAny_pure (And.intro rfl h')) fun O O x=>x))))
theorem WZ{e}(h:XW e=true)(env)(x):foldedSetIterable e env x=pure x:=by
 cases e<;>first|rfl|exact Z4 h
theorem Z29(hE:EvS c I n)(hA:AOk n A F)(hF:FOk F){ac it}{hB}{owB}(S:Wn F F.env ac hB)(hfr:F.env.frame=F.fenv.frame){iter t elt t2 it2}{X}{Y Z:Value->Code}
  (hst:∀ x∈ZE t,F.env.kindOf x=some .local/\x≠(".0":Str)/\W0 x) (hoi:okE m true F.env.kindOf it2=true) (hns:XW it2=true)
  (api:Y1 F it) (bI:hB.objs.size<=it) (hne:it≠ac) {fp} {P:Nat->Value->Prop} {st:Nat->Heap->Prop} {xs} {R:Result->Shared->Prop} {Q:PySem.Fin->Shared->Prop} (hx10:xs.length<=10)
  (hY:∀ {R':Result->Shared->Prop} {s:Shared} {v:Value},codeAny (MD c) A (Z v) R' s->wpAny (MD c) A (pyIter v) (fun v' s'=>codeAny (MD c) A (Z v') R' s') (notedBy (MD c) A F.env fun x s'=>R' (.error x) s') s->codeAny (MD c) A (Y v) R' s)
  (hZ:∀ {it2:Addr} {fp:List Addr} {P:Nat->Value->Prop} {st:Nat->Heap->Prop} {xs:List D} {R:Result->Shared->Prop} {s:Shared} {ow:Z5} {σ:St} {ys:Array Value} {ds:List D},Y1 F it2->hB.objs.size<=it2->it2≠ac->LA c F ac hB owB s.heap ow σ ys ds->ItS c A it2 fp P st xs 0 s.heap ow->ds.length+xs.length<=sizeLine->GR c F F.env ac it2 hB owB R s s.heap ow ds (Zh I t2 [] elt xs σ)->codeAny (MD c) A (Z (.ref it2)) R s)
  {i} {ys} {ds} (hi:i<=xs.length) (L:LA c F ac hB owB s.heap ow σ ys ds) (T:ItS c A it fp P st xs i s.heap ow) (hz:ds.length<=i*LIM) (g:GR c F F.env ac it hB owB R s s.heap ow ds (YB I t t2 it2 elt (xs.drop i) σ))
  (q1:i < xs.length->∀ (h':Heap) (tk:Nat) (ow:Z5) (σ:St) (ys:Array Value) (ds:List D),LA c F ac hB owB h' ow σ ys ds->ItS c A it fp P st xs (i+1) h' ow->ds.length<=(i+1)*LIM->GR c F F.env ac it hB owB R {s with heap:=h',toks:=tk} h' ow ds (YB I t t2 it2 elt (xs.drop (i+1)) σ)->Q (.again X) {s with heap:=h',toks:=tk})
  (q2:∀ s',R (.ok .next) s'->Q (.done .next) s') :
  wpAny (MD c) A (VF X Y iter t t2 it2 (.ref it) (.ref ac) F.env) Q (notedBy (MD c) A F.env fun e s'=>R (.error e) s') s:=by
 have hcb:F.cenv.isSome=true:=by rw[S.cn];rfl
 have hneC:it≠F.env.locals:=api.cloc
 unfold VF
 refine wpAny_bind (wpAny_standAt (wpAny_bind (Zn ?_)))
 obtain ⟨oi,ei,ci⟩:=T.obj
 by_cases hlt:i < xs.length
 ·refine T.walk.W.item i _ _ _ hlt T.at_ fun v h1_ tk1 hP hst1 hk1_ hsz1_=>?_
  have hk1_:∀ b o,b≠it->s.heap.get? b=some o->h1_.get? b=some o:=fun b o hb e=>hk1_ b o (by simpa using hb) e
  have L1_:=L.turn api bI hne T.own (Heap.lt_size ei) (fun o e=>by rw[ei] at e;injection e with e;subst e;exact ci.firm.2) hsz1_ hk1_
  have T1:=T.next hst1 hk1_
  obtain ⟨d,hd,hr⟩:=T1.walk.item i v hP
  have K1_:KK (fun a=>a=ac\/a=F.env.locals\/a=it) s.heap ow h1_ ow:=KK.turn (.inr (.inr rfl)) T.own hsz1_ hk1_
  have hdr:xs.drop i=d::xs.drop (i+1):=by
   have:=(List.getElem?_eq_some_iff.mp hd).2
   simp only[List.drop_eq_getElem_cons hlt,this]
  rw[hdr] at g
  have g:GR c F F.env ac it hB owB R s s.heap ow ds ((Zl t d σ).bind fun O=>c2a I t2 it2 elt (YB I t t2 it2 elt (xs.drop (i+1)))):=g
  refine wpAny_bind (UW (s:={s with heap:=h1_,toks:=tk1}) T1.obj ?_)
  obtain ⟨O,hoC,mmC,hnsC⟩:=L1_.act.comp S.cn
  refine wpAny_bind (K9 (s:={s with heap:=h1_,toks:=tk1}) hA.handled S.cn (fun x hx=>⟨(L1_.act.loc S.cn x).mpr ⟨(hst x hx).1,(hst x hx).2.1⟩,(hst x hx).2.2⟩) L1_.act hr S.bC L1_.step ?_)
  cases hb:Zl t d σ with
  |exc m' σ'=>exact VE hb
  |stuck=>rw[hb] at g;exact g.elim
  |ok u s1_=>
   rw[hb] at g
   have g:GR c F F.env ac it hB owB R s s.heap ow ds ((frz (I.ev it2 s1_)).bind (c2b I t2 elt (YB I t t2 it2 elt (xs.drop (i+1))))):=g
   intro h2_ tk2 hA2 hS2 hsz2_ hk2_
   have L2_:=L1_.bind S.ne hoC hA2 hS2 hsz2_ hk2_
   have Kc:KK (fun O=>O=F.env.locals) h1_ ow h2_ ow:=KK.turn rfl hoC hsz2_ hk2_
   have T2:=T1.kk Kc hneC L1_.act.new
   have K2_:KK (fun a=>a=ac\/a=F.env.locals\/a=it) s.heap ow h2_ ow:=K1_.trans' Kc fun z O q=>.inr (.inl q)
   refine wpAny_bind (hE m it2 A F {s with heap:=h2_,toks:=tk2} ow s1_ _ _ (by rw[hcb];exact hoi) hA hF hA2 ?_)
   cases hw:I.ev it2 s1_ with
   |stuck=>rw[hw] at g;exact g.elim
   |exc m' q8=>
    rw[hw] at g
    intro x h' ow' tk' a1 a2 a3
    obtain ⟨xa,tb,rfl,hfl⟩:=a3
    refine XG (s:={s with heap:=h',toks:=tk'}) hA.frames a1 hfr hfl fun h'' ow'' T' b1 b2 b3=>?_
    exact g xa h'' ow'' tk' T' b1 ((hS2.trans a2).trans b2) b3
   |ok r q8=>
    rw[hw] at g
    have g:GR c F F.env ac it hB owB R s s.heap ow ds ((opt (YD r.1.d) (Zo r q8)).bind (c2c I t2 elt (YB I t t2 it2 elt (xs.drop (i+1))))):=g
    cases hit:YD r.1.d with
    |none=>rw[hit] at g;exact g.elim
    |some ys2=>
    rw[hit] at g
    have g:GR c F F.env ac it hB owB R s s.heap ow ds ((Zh I t2 [] elt ys2 (Zo r q8)).bind (c2d (YB I t t2 it2 elt (xs.drop (i+1))))):=g
    intro y h4_ ow4 tk4 hA4 hS4 hry
    obtain ⟨ow5,hA5,hS5,hr5⟩:=hA4.freeze hF hry
    have S45:=hS4.trans hS5
    have L5:=L2_.expr hA5 S45
    have T5:=T2.kk (S45.kk (X:=fun O=>False)) id hA2.new
    have K5_:=K2_.trans (S45.kk (X:=fun a=>a=ac\/a=F.env.locals\/a=it))
    refine wpAny_bind (wpAny_standAt (wpAny_bind (wpAny_of_eq (WZ hns _ _) (wpAny_bind (wpAny_holding (UV (s:={s with heap:=h4_,toks:=tk4}) hA.handled hr5 hit fun fp2 P2 st2 ob I2 hst2' hl2=>?_))))))
    have hlt4:h4_.objs.size < (h4_.push ob).objs.size:=by rw[Heap.size_push];exact Nat.lt_succ_self _
    have keep:∀ b o,h4_.get? b=some o->(h4_.push ob).get? b=some o:=fun b o e=>Heap.get?_push_of_some _ e
    obtain ⟨hA6,hS6⟩:=hA5.keeps (h':=h4_.push ob) (Nat.le_of_lt hlt4) keep
    have L6:=L5.expr hA6 hS6
    have T6:=T5.kk (hS6.kk (X:=fun O=>False)) id hA5.new
    have K6_:=K5_.trans (hS6.kk (X:=fun a=>a=ac\/a=F.env.locals\/a=it))
    have I6:ItS c A h4_.objs.size fp2 P2 st2 ys2 0 (h4_.push ob) ow5:=by
     refine ⟨⟨I2.W,I2.firm,I2.cls,fun j w hp=>?_,I2.own⟩,hst2',hA5.new _ (Nat.le_refl _)⟩
     obtain ⟨dd,q1,q2⟩:=I2.item j w hp
     exact ⟨dd,q1,q2.step hS6 hA5.new⟩
    have ap2:Y1 F h4_.objs.size:=hA5.apart (Nat.le_refl _)
    have ltac:ac < h4_.objs.size:=by obtain ⟨O,q⟩:=L5.acc;exact Heap.lt_size q
    have ltit:it < h4_.objs.size:=by obtain ⟨O,q,O⟩:=T5.obj;exact Heap.lt_size q
    have ne2:h4_.objs.size≠ac:=Nat.ne_of_gt ltac
    have neit:it≠h4_.objs.size:=Nat.ne_of_lt ltit
    have hlimz:ds.length+ys2.length<=sizeLine:=by
     have h9:i<=9:=Nat.le_of_lt_succ (Nat.lt_of_lt_of_le hlt hx10)
     have h1:i*LIM<=9*LIM:=Nat.mul_le_mul_right _ h9
     have h2:9*LIM+LIM<=sizeLine:=by rw[sizeLine_eq];decide
     lia
    refine wpAny_bind (wpAny_runOwn (h:=none) (Q:=fun O s'=>wpAny (MD c) A (again _) _ _ s') ?_)
    have go:∀ s0:Shared,s0={s with heap:=h4_.push ob,toks:=tk4}->codeAny (MD c) A (Z (.ref h4_.objs.size)) (fun r s'=>match r with|.ok O=>wpAny (MD c) A (again X) Q (notedBy (MD c) A F.env fun e s'=>R (.error e) s') s'|.error e=>cameBackBy (MD c) A F.env (notedBy (MD c) A F.env fun e s'=>R (.error e) s') e s') s0:=by
     rintro s0 rfl
     refine hZ (s:={s with heap:=h4_.push ob,toks:=tk4}) ap2 (Nat.le_trans S.bD (Nat.le_of_lt ltac)) ne2 L6 I6 hlimz ?_
     cases hc:Zh I t2 [] elt ys2 (Zo r q8) with
     |stuck=>rw[hc] at g;exact g.elim
     |exc m' σ'=>
      rw[hc] at g
      intro xa h' ow' tk' T' a b d
      refine Vg (s:={s with heap:=h',toks:=tk'}) a d (by simp) fun h'' b1 b2 b3=>?_
      refine XG (s:={s with heap:=h'',toks:=tk'}) hA.frames b1 hfr b3 fun h3 ow3 T3 d1 d2 d3=>?_
      exact g xa h3 ow3 tk' T3 d1 ((b.trans b2).trans d2) d3
     |ok ds1 s4=>
      rw[hc] at g
      have g:GR c F F.env ac it hB owB R s s.heap ow ds (c2d (YB I t t2 it2 elt (xs.drop (i+1))) ds1 s4):=g
      intro h' ow' tk' ys' L' K'
      have hl1:=Z07 _ hc
      have K7:KK (fun a=>a=ac\/a=F.env.locals\/a=it) s.heap ow h' ow':=K6_.trans' K' fun z hz q=>by
       rcases q with q|q|q
       ·exact .inl q
       ·exact .inr (.inl q)
       ·exact .inr (.inr (absurd q (Nat.ne_of_lt (Nat.lt_of_lt_of_le hz (Nat.le_trans K5_.1 (Nat.le_refl _))))))
      have T7:=T6.kk K' (by rintro (q|q|q);exact hne q;exact hneC q;exact neit q) hA6.new
      have hmul:(i+1)*LIM=i*LIM+LIM:=Nat.succ_mul _ _
      refine wpAny_pure (q1 hlt h' tk' ow' s4 ys' (ds++ds1) L' T7 (by rw[List.length_append,hmul];lia) ?_)
      unfold c2d at g
      generalize YB I t t2 it2 elt (xs.drop (i+1)) s4=ww at g
      induction ww with
      |stuck=>exact g.elim
      |exc m' σ'=>exact fun xa h' ow' tk' T' a b d=>g xa h' ow' tk' T' a b d
      |ok ds' σ'=>
       exact fun h' ow' tk' ys' a b=>g h' ow' tk' ys' (by rw[List.append_assoc] at a;exact a) (K7.trans b)
    exact hY (go _ rfl) (I6.walk.W.self 0 _ _ _ I6.at_ (go _ rfl))
 ·have hin:=Z10 hi hlt
  clear q1
  subst hin
  rw[List.drop_length] at g
  refine T.walk.W.done _ _ _ T.at_ fun h1_ tk1 hk1_ hsz1_=>wpAny_pure ?_
  have hk1_:∀ b o,b≠it->s.heap.get? b=some o->h1_.get? b=some o:=fun b o hb e=>hk1_ b o (by simpa using hb) e
  have L1_:=L.turn api bI hne T.own (Heap.lt_size ei) (fun o e=>by rw[ei] at e;injection e with e;subst e;exact ci.firm.2) hsz1_ hk1_
  exact q2 _ (g h1_ ow tk1 ys (by rw[List.append_nil];exact L1_) (KK.turn (.inr (.inr rfl)) T.own hsz1_ hk1_))
theorem Z2a(hT:TrS c I n)(hE:EvS c I n)(hA:AOk n A F)(hF:FOk F){ce}{ac it}{hB}{owB}(S:Wn F ce ac hB)(hfr:ce.frame=F.fenv.frame){iter t elt t2 it2}{sc}{lp}
  (hst:∀ x∈ZE t,ce.kindOf x=some .local/\x≠(".0":Str)/\W0 x) (hst2:∀ x∈ZE t2,ce.kindOf x=some .local/\x≠(".0":Str)/\W0 x) (hoe:okE m true ce.kindOf elt=true) (hoi:okE m true ce.kindOf it2=true) (hns:XW it2=true)
  (api:Y1 F it) (bI:hB.objs.size<=it) (hne:it≠ac) {fp} {P:Nat->Value->Prop} {st:Nat->Heap->Prop} {xs} {R:Result->Shared->Prop} (hx10:xs.length<=10)
  {i} {ys} {ds} (hi:i<=xs.length) (L:LA c F ac hB owB s.heap ow σ ys ds) (T:ItS c A it fp P st xs i s.heap ow) (hz:ds.length<=i*LIM) (g:GR c F ce ac it hB owB R s s.heap ow ds (YB I t t2 it2 elt (xs.drop i) σ)) :
  codeAny (MD c) A (.compLoop (.ListComp elt [⟨t,iter,[],0⟩,⟨t2,it2,[],0⟩] sc lp) 0 (.ref it) (.ref ac) ce) R s:=by
 obtain rfl:=S.env
 refine codeAny_loop rfl (Zcw c A F ac it hB owB R fp P st xs (YB I t t2 it2 elt) fun i l=>l<=i*LIM) ?_ _ ⟨i,ow,σ,ys,ds,rfl,hi,L,T,hz,g⟩
 rintro k s ⟨i,ow,σ,ys,ds,rfl,hi,L,T,hz,g⟩
 refine wpAny_noted ?_
 rw[Z8d]
 exact Z29 hE hA hF S hfr hst hoi hns api bI hne hx10 Z28 (fun ap b n L T z g=>Kb (i:=0) hT hE hA hF S hfr (Z8e ..) hst2 rfl hoe ap b n (Nat.zero_le _) L T z (by rw[List.drop_zero];exact g)) hi L T hz g
  (fun hlt h' tk ow σ ys ds L T z g=>⟨rfl,xs.length+1 - (i+1),Z3a hlt,i+1,ow,σ,ys,ds,rfl,hlt,L,T,z,g⟩) fun O r=>r
theorem XY{h:Heap}{a:Addr}{m m':Str->Option Value}(x:h.Ns a m)(y:h.Ns a m')(k:Str):m k=m' k:=by
 refine gG fun G gk=>?_
 obtain ⟨o,es,n,e,d,O,f⟩:=x
 obtain ⟨o',es',n',e',d',O,f'⟩:=y
 refine gk ?_
 rw[e] at e';obtain rfl:=Option.some.inj e'
 rw[d] at d';cases d'
 rw[<-f,f']
theorem Zm.re{h}{σ'}{vs}{ds}(x:Zm c h ow σ vs ds):Zm c h ow σ' vs ds:=x
theorem Z12(hE:EvS c I n)(hA:AOk n A F)(hF:FOk F)(hcn:F.cenv=none){elt t it:Expr}{ifs:List Expr}{gs:List Comprehension}{sc:Scope}{pos pos':Pos}{ts:List Str}{use:Option (Value->Sem Unit)}{Q:Value->Shared->Prop}{PP:Out R->Prop}{Xs:List D->St->Out (List D)}(hstuck:¬ PP .stuck)(hexc:∀ m σ',PP (.exc m σ')->∀ e h' ow' tk,Act c F h' ow' σ'->Z7 c s.heap ow h' ow'->Fly c h' e m->E e {s with heap:=h',toks:=tk})
  (hsc:Z8c sc F.env.kindOf ts) (hit:okE m false F.env.kindOf it=true) (hns:XW it=true) (hAct:Act c F s.heap ow σ)
  (hrun:∀ (q0:Shared) ow1 s1_ C ac itA hB owB fp P st xs,Wn (YN F (ZO sc F.env C)) (ZO sc F.env C) ac hB->LA c (YN F (ZO sc F.env C)) ac hB owB q0.heap ow1 s1_ #[] []->ItS c A itA fp P st xs 0 q0.heap ow1->Y1 (YN F (ZO sc F.env C)) itA->hB.objs.size<=itA->itA≠ac->xs.length<=LIM ->
   ∀ R,GR c (YN F (ZO sc F.env C)) (ZO sc F.env C) ac itA hB owB R q0 q0.heap ow1 [] (Xs xs s1_)->codeAny (MD c) A (.compLoop (.ListComp elt (⟨t,it,ifs,0⟩::gs) sc pos) 0 (.ref itA) (.ref ac) (ZO sc F.env C)) R q0)
  (hK:∀ ac C h ow' tk vars pl ds ys mm,Act c F h ow' ⟨vars,[],[],pl⟩->Z7 c s.heap ow h ow'->h.PlainList ac ys->ow' ac=.foreign->Y1 F ac->s.heap.objs.size<=ac->Zm c h ow' σ ys.toList ds->h.Ns C mm->Y1 F C->s.heap.objs.size<=C->ow' C=.foreign->ac≠C->ds.length<=LIM ->
   PP (.ok (.ol ds,none) ⟨vars,[],[],pl⟩)->compPost (MD c) A E use Q (.ref ac) C (.ok .next) {s with heap:=h,toks:=tk})
  (hP:PP ((frz (I.ev it σ)).bind fun d σ=>(opt (YD d) σ).bind fun xs σ=>match σ.up with
   |[]=>Yy (Xs xs ⟨[],σ.vars,ts,σ.pl⟩)
   |O=>.stuck)) :
  wpAny (MD c) A (comprehension (.ListComp elt (⟨t,it,ifs,0⟩::gs) sc pos) sc F.env pos' (newList []) false (eval it F.env) use) Q E s:=by
 have hcell:∀ y∈sc.names,y.2≠.cell:=fun y hy q=>by
  rcases hsc.each y hy with ⟨a,O⟩|⟨a,O⟩|a<;>rw[a] at q<;>cases q
 have hclos:=Z26 (sc:=sc) (env:=F.env) (fun x hx=>by
  rcases hsc.each _ hx with ⟨a,O⟩|⟨O,a⟩|a
  ·cases a
  ·exact hAct.ok.2.cells x a
  ·cases a)
 refine wpAny_comprehension_free (use:=use) (g:=⟨t,it,ifs,0⟩) (gs:=gs) rfl (fun x=>WZ hns F.env x) hclos hsc.kind (fun x hx hl=>by have:=Z11 hsc.nodup (show (x.1,x.2)∈sc.names from hx);rw[this,hl]) ?_
 refine hE m it A F s ow σ _ _ (by rw[hcn];exact hit) hA hF hAct ?_
 cases hw:I.ev it σ with
 |stuck=>rw[hw] at hP;exact (hstuck hP).elim
 |exc m' q8=>rw[hw] at hP;exact hexc _ _ hP
 |ok r q8=>
  rw[hw] at hP
  have hP:PP ((opt (YD r.1.d) (Zo r q8)).bind fun xs σ=>match σ.up with
   |[]=>Yy (Xs xs ⟨[],σ.vars,ts,σ.pl⟩)
   |O=>.stuck):=hP
  cases hxs:YD r.1.d with
  |none=>rw[hxs] at hP;exact (hstuck hP).elim
  |some xs=>
  rw[hxs] at hP
  have hP:PP (match (Zo r q8).up with
   |[]=>Yy (Xs xs ⟨[],(Zo r q8).vars,ts,(Zo r q8).pl⟩)
   |O=>.stuck):=hP
  intro y h4_ ow4 tk4 hA4 hS4 hry
  obtain ⟨ow5,hA5,hS5,hr5⟩:=hA4.freeze hF hry
  have S45:=hS4.trans hS5
  generalize hσ:Zo r q8=s5 at hP hA5
  have hup:s5.up=[]:=by
   have SS:=hA5.scp
   rw[hcn] at SS
   exact SS.1
  rw[hup] at hP
  have hP:PP (Yy (Xs xs ⟨[],s5.vars,ts,s5.pl⟩)):=hP
  refine UV (s:={s with heap:=h4_,toks:=tk4}) hA.handled hr5 hxs fun fp P st ob I2 hst2 hl2=>?_
  refine wpAny_newObj_type (Zn (wpAny_newFunctionEnv hcell (by intro y hy;simp at hy) (fun h1_ hns1 hsb1 hsz1_=>?_) hsc.kind))
  dsimp only at hns1 hsb1 hsz1_ ⊢
  generalize hH2:(h4_.push ob).push {cls:=.type "list",dict:=none,data:=.seq ([]:List Value).toArray}=H2 at hns1 hsb1 hsz1_ ⊢
  have sz2:H2.objs.size=h4_.objs.size+2:=by rw[<-hH2,Heap.size_push,Heap.size_push]
  have szp:(h4_.push ob).objs.size=h4_.objs.size+1:=Heap.size_push ..
  have k2:∀ b o,h4_.get? b=some o->H2.get? b=some o:=fun b o e=>by rw[<-hH2];exact Heap.get?_push_of_some _ (Heap.get?_push_of_some _ e)
  have k1:∀ b o,b < H2.objs.size->H2.get? b=some o->h1_.get? b=some o:=fun b o hb e=>(hsb1.2 b (Nat.ne_of_lt hb)).trans (Heap.get?_push_of_some _ e)
  have keep:∀ b o,h4_.get? b=some o->h1_.get? b=some o:=fun b o e=>k1 b o (Heap.lt_size (k2 b o e)) (k2 b o e)
  have gac:h1_.PlainList (h4_.push ob).objs.size #[]:=⟨0,k1 _ _ (by simp only[sz2,szp];exact Nat.lt_succ_self _) (by rw[<-hH2];exact Heap.get?_push_size _ rfl)⟩
  obtain ⟨hA6,hS6⟩:=hA5.keeps (h':=h1_) (by lia) keep
  have fo:∀ a,h4_.objs.size<=a->ow5 a=.foreign:=hA5.new
  have apI:Y1 F h4_.objs.size:=hA5.apart (Nat.le_refl _)
  have apD:Y1 F (h4_.push ob).objs.size:=hA5.apart (by rw[szp];exact Nat.le_succ _)
  have apC:Y1 F H2.objs.size:=hA5.apart (by rw[sz2];lia)
  have hA7:=hA6.enterComp hcn hsc hns1 apC (fo _ (by rw[sz2];lia))
  have cl:(ZO sc F.env H2.objs.size).locals=H2.objs.size:=rfl
  have apD':Y1 (YN F (ZO sc F.env H2.objs.size)) (h4_.push ob).objs.size:=⟨apD.hb,apD.loc,apD.cell,by show (h4_.push ob).objs.size≠H2.objs.size;simp only[sz2,szp];lia,apD.frm⟩
  have apI':Y1 (YN F (ZO sc F.env H2.objs.size)) h4_.objs.size:=⟨apI.hb,apI.loc,apI.cell,by show h4_.objs.size≠H2.objs.size;rw[sz2];lia,apI.frm⟩
  have S:Wn (YN F (ZO sc F.env H2.objs.size)) (ZO sc F.env H2.objs.size) (h4_.push ob).objs.size h4_:=⟨rfl,by rw[cl,sz2];lia,by rw[szp];lia,apD'⟩
  have L:LA c (YN F (ZO sc F.env H2.objs.size)) (h4_.push ob).objs.size h4_ ow5 h1_ ow5 ⟨[],s5.vars,ts,s5.pl⟩ #[] []:=⟨hA7,hS6,gac,fo _ (by rw[szp];lia),⟨rfl,fun i v d e=>by exact Z3 e⟩⟩
  have T:ItS c A h4_.objs.size fp P st xs 0 h1_ ow5:=by
   refine ⟨⟨I2.W,I2.firm,I2.cls,fun j w hp=>?_,I2.own⟩,I2.W.frame 0 _ _ hst2 fun b hb o e=>?_,fo _ (Nat.le_refl _)⟩
   ·obtain ⟨dd,q1,q2⟩:=I2.item j w hp
    exact ⟨dd,q1,q2.step hS6 hA5.new⟩
   ·have hlt:=Heap.lt_size e
    have e2:H2.get? b=some o:=by rw[<-hH2];exact Heap.get?_push_of_some _ e
    exact k1 b o (Heap.lt_size e2) e2
  have run:∀ s3_:Shared,s3_.heap=h1_->s3_.gens=s.gens->s3_.drawn=s.drawn->s3_.os=s.os->codeAny (MD c) A (.compLoop (.ListComp elt (⟨t,it,ifs,0⟩::gs) sc pos) 0 (.ref h4_.objs.size) (.ref (h4_.push ob).objs.size) (ZO sc F.env H2.objs.size)) (compPost (MD c) A E use Q (.ref (h4_.push ob).objs.size) H2.objs.size) s3_:=by
   rintro s3_ rfl e1 e2 e3
   refine hrun s3_ ow5 _ H2.objs.size _ _ h4_ ow5 fp P st xs S L T apI' (Nat.le_refl _) (Nat.ne_of_lt (by rw[szp];exact Nat.lt_succ_self _)) hl2 _ ?_
   have fin:∀ (h':Heap) (tk:Nat),({s3_ with heap:=h',toks:=tk}:Shared)={s with heap:=h',toks:=tk}:=fun h' tk=>by
    cases s3_;cases s;dsimp only at e1 e2 e3;subst e1 e2 e3;rfl
   generalize Xs xs ⟨[],s5.vars,ts,s5.pl⟩=ww at hP
   induction ww with
   |stuck=>exact (hstuck hP).elim
   |exc m' σ'=>
    intro e h' ow' tk' T' a b d
    rw[fin]
    have aL:=a.leaveComp hcn
    obtain ⟨O,hoC,mmC,hnsC⟩:=a.comp (ce:=ZO sc F.env H2.objs.size) rfl
    have hoC:ow' H2.objs.size=.foreign:=hoC
    have hnsC:h'.Ns H2.objs.size mmC:=hnsC
    have key:∃ m,h'.Ns H2.objs.size m/\∀ h'',Heap.SameBut H2.objs.size h' h''->∀ cenv:Env,cenv.locals=H2.objs.size->wpAny (MD c) A (PySem.passOn "comprehension.variables-let-go" (.ref e) cenv:Sem Value) (fun O O=>False) E {s with heap:=h'',toks:=tk'}:=by
     refine ⟨mmC,hnsC,fun h'' hs'' cenv O=>?_⟩
     have hot:∀ b o,b≠H2.objs.size->h'.get? b=some o->h''.get? b=some o:=fun b o hb e=>(hs''.2 b hb).trans e
     refine gG fun G gk=>?_
     obtain ⟨oC,esC,epC,gC,dC,O⟩:=hnsC
     refine gk ?_
     have notC:∀ b o,h'.get? b=some o->(∀ es n,o.data≠.dict es n)->b≠H2.objs.size:=fun b o e q=>by rintro rfl;rw[gC] at e;injection e with e;subst e;exact q _ _ dC
     have A8:=aL.turnE' apC (Nat.le_of_eq hs''.1.symm) hot hoC (Heap.lt_size gC)
     have hsz45:=S45.1.1
     have S8:Z7 c s.heap ow h'' ow':=(S45.trans b).turnE (by rw[sz2];lia) hoC (Nat.le_of_eq hs''.1.symm) hot
     have d8:Yn c h'' e m' (.ref T'):=by
      obtain ⟨oe,vs,dx,od,md,t',e1,e2,e3,e4,e5,e6,e7,e7',e8,e9,e10,e11⟩:=id d
      have hdx:dx≠H2.objs.size:=by
       rintro rfl
       obtain ⟨mf2,m2,O,CC⟩:=a.scp
       have:m2 "message"=none:=CC.nsh.2
       rw[XY e8 CC.ns,this] at e10;exact Z3 e10
      refine ⟨oe,vs,dx,od,md,t',e1,hot e oe (notC e oe e2 fun O O q=>by rw[e5] at q;cases q) e2,e3,e4,e5,e6,hot dx od hdx e7,e7',e8.at' fun o e=>hot dx o hdx e,e9,e10,?_⟩
      rcases e11 with q|⟨T,oT,tts,q,g1,g2,g3,g4,g5⟩
      ·exact .inl q
      ·exact .inr ⟨T,oT,tts,q,g1,hot T oT (notC T oT g2 fun O O q=>by rw[g4] at q;cases q) g2,g3,g4,g5⟩
     exact Z27 (s:={s with heap:=h'',toks:=tk'}) A8 d8 fun h3 q1 q2 q3=>hexc _ _ hP (.ref e) h3 ow' tk' q1 (S8.trans q2) ⟨e,_,rfl,q3⟩
    cases use<;>exact key
   |ok ds σ'=>
    intro h' ow' tk' ys' L' K'
    rw[fin]
    have hP:PP (if ds.length<=LIM then .ok (.ol ds,none) ⟨σ'.up,[],[],σ'.pl⟩ else .stuck):=hP
    by_cases hlen:ds.length<=LIM
    ·rw[if_pos hlen] at hP
     refine gG fun G gk=>?_
     obtain ⟨O,hoC,mmC,hnsC⟩:=L'.act.comp (ce:=ZO sc F.env H2.objs.size) rfl
     refine gk ?_
     have hoC:ow' H2.objs.size=.foreign:=hoC
     have hnsC:h'.Ns H2.objs.size mmC:=hnsC
     have hsz45:=S45.1.1
     exact hK _ H2.objs.size h' ow' tk' σ'.up σ'.pl ds ys' mmC (L'.act.leaveComp hcn) (S45.trans L'.step) L'.acc L'.own apD (by rw[szp];lia) (by simpa using L'.rep.re) hnsC apC (show s.heap.objs.size<=H2.objs.size by rw[sz2];lia) hoC (Nat.ne_of_lt (by simp only[sz2,szp];exact Nat.lt_succ_self _)) hlen hP
    ·rw[if_neg hlen] at hP;exact (hstuck hP).elim
  exact codeAny_compStart_list (run _ rfl rfl rfl rfl) (T.walk.W.self 0 _ _ _ T.at_ (run _ rfl rfl rfl rfl))
theorem AOk.comp{ce}(h:AOk n A F):AOk n A (YN F ce):=⟨h.handled,h.frames,h.depth,h.units⟩
theorem FOk.comp{ce}(h:FOk F):FOk (YN F ce):=h
theorem Z13(hT:TrS c I n)(hE:EvS c I n)(hA:AOk n A F)(hF:FOk F)(hcn:F.cenv=none){elt}{gens}{sc}{pos}{use:Option (Value->Sem Unit)}{Q:Value->Shared->Prop}{PP:Out R->Prop}(hstuck:¬ PP .stuck)(hexc:∀ m σ',PP (.exc m σ')->∀ e h' ow' tk,Act c F h' ow' σ'->Z7 c s.heap ow h' ow'->Fly c h' e m->E e {s with heap:=h',toks:=tk})
  (hok:okE (m+1) false F.env.kindOf (.ListComp elt gens sc pos)=true) (hAct:Act c F s.heap ow σ)
  (hK:∀ ac C h ow' tk vars pl ds ys mm,Act c F h ow' ⟨vars,[],[],pl⟩->Z7 c s.heap ow h ow'->h.PlainList ac ys->ow' ac=.foreign->Y1 F ac->s.heap.objs.size<=ac->Zm c h ow' σ ys.toList ds->h.Ns C mm->Y1 F C->s.heap.objs.size<=C->ow' C=.foreign->ac≠C->ds.length<=LIM ->
   PP (.ok (.ol ds,none) ⟨vars,[],[],pl⟩)->compPost (MD c) A E use Q (.ref ac) C (.ok .next) {s with heap:=h,toks:=tk})
  (hP:PP (Xq I elt gens σ)) :
  wpAny (MD c) A (comprehension (.ListComp elt gens sc pos) sc F.env (firstIterPos gens pos) (newList []) (firstAsync gens) (firstIter gens F.env) use) Q E s:=by
 have he:F.env=F.fenv:=by unfold Frm.env;rw[hcn];rfl
 have hkd:∀ C,(ZO sc F.env C).kindOf=kdC sc F.env.kindOf:=fun C=>funext fun x=>Kd (by rw[he];exact hAct.ok.1.kind) x
 have hst:∀ {ts:List Str},Z8c sc F.env.kindOf ts->∀ C x,x∈ts->(ZO sc F.env C).kindOf x=some .local/\x≠(".0":Str)/\W0 x:=by
  intro ts hsc C x hx
  obtain ⟨h1,h2⟩:=hsc.ts x hx
  rw[hkd]
  refine ⟨?_,h2,?_⟩
  ·show (Vl sc.names F.env.kindOf).lookup x=_
   simp only[XX,h1];rfl
  ·rcases hsc.each _ (mem_of_lookup h1) with ⟨O,q,O⟩|⟨q,O⟩|q
   ·exact q
   ·cases q
   ·cases q
 have hok:UO (okE m) false F.env.kindOf elt gens sc=true:=hok
 unfold UO at hok
 unfold Xq at hP
 generalize gv gens=v at hok hP
 induction v with
 |bad=>exact Z4 hok
 |one t it ifs=>
  simp only[Bool.and_eq_true,Bool.not_false,true_and] at hok
  refine gG fun G gk=>?_
  obtain ⟨⟨⟨⟨⟨⟨h1,h2⟩,h3⟩,h4⟩,h5⟩,h6⟩,h7⟩:=hok
  refine gk ?_
  have hsc:=Z3b h4
  refine Z12 (PP:=PP) (m:=m) (t:=t) (it:=it) (ifs:=ifs) (gs:=[]) (ts:=ZE t) (Xs:=Zh I t ifs elt) hE hA hF hcn hstuck hexc hsc h1 h2 hAct (fun q0 ow1 s1_ C ac itA hB owB fp P st xs S L T api bI hne hlen R g=>?_) hK hP
  refine Kb (m:=m) (i:=0) hT hE hA.comp hF.comp S (by show F.env.frame=F.fenv.frame;rw[he]) (Z8f ..) (hst hsc C) (by rw[hkd];exact h5) (by rw[hkd];exact h7) api bI hne (Nat.zero_le _) L T ?_ (by rw[List.drop_zero];exact g)
  simpa using Nat.le_trans hlen YM
 |two t it t2 it2=>
  simp only[Bool.and_eq_true,Bool.not_false,true_and] at hok
  refine gG fun G gk=>?_
  obtain ⟨⟨⟨⟨⟨⟨⟨h1,h2⟩,h3⟩,h4⟩,h5⟩,h6⟩,h7⟩,h8⟩:=hok
  refine gk ?_
  have hsc:=Z3b h5
  refine Z12 (PP:=PP) (m:=m) (t:=t) (it:=it) (ifs:=[]) (gs:=[⟨t2,it2,[],0⟩]) (ts:=ZE t++ZE t2) (Xs:=fun xs σ=>if xs.length<=10 then YB I t t2 it2 elt xs σ else .stuck) hE hA hF hcn hstuck hexc hsc h1 h2 hAct (fun q0 ow1 s1_ C ac itA hB owB fp P st xs S L T api bI hne hlen R g=>?_) hK hP
  split at g
  ·rename_i h10
   exact Z2a (m:=m) (i:=0) hT hE hA.comp hF.comp S (by show F.env.frame=F.fenv.frame;rw[he]) (fun x hx=>hst hsc C x (List.mem_append_left _ hx)) (fun x hx=>hst hsc C x (List.mem_append_right _ hx)) (by rw[hkd];exact h8) (by rw[hkd];exact h6) h7 api bI hne h10 (Nat.zero_le _) L T (by decide) (by rw[List.drop_zero];exact g)
  ·exact g.elim
theorem Z14{h}{ow'}{ac}{vars}{pl}{ys}{ds}{h₀}{ow0}(hA:Act c F h ow' ⟨vars,[],[],pl⟩)(hS:Z7 c h₀ ow0 h ow')(hl:h.PlainList ac ys)(ho:ow' ac=.foreign)(ap:Y1 F ac)(hb:h₀.objs.size<=ac)(hr:Zm c h ow' σ ys.toList ds)(hz:ds.length<=LIM) :
  Act c F h (upd ow' ac .tmp) ⟨vars,[],[],pl⟩/\Z7 c h₀ ow0 h (upd ow' ac .tmp)/\ZK c h (upd ow' ac .tmp) .tmp (.ref ac) (.ol ds):=by
 obtain ⟨nn,g⟩:=hl
 have kk:KK (fun O=>O=ac) h ow' h ow':=.refl _ _ _
 refine ⟨hA.adoptE ap (Nat.le_refl _) (fun O O O e=>e) ho (Heap.lt_size g) ⟨nofun,nofun,nofun⟩,hS.adoptE hb (Nat.le_refl _) (fun O O O e=>e),ac,rfl,Y7 _ _ _,_,ys,g,⟨rfl,⟨rfl,rfl⟩,nn,rfl⟩,by simpa using hr.1,hz,fun i v d e1 e2=>?_⟩
 refine (hr.2 i v d (by simpa using e1) e2).mono c (fun O o O e=>⟨o,e,.refl _⟩) fun b=>?_
 unfold upd
 split
 ·rename _=>q;subst q;rw[ho];exact ⟨nofun,nofun,nofun⟩
 ·exact ⟨id,id,id⟩
theorem Z09(hT:TrS c I n)(hE:EvS c I n)(hA:AOk n A F)(hF:FOk F)(hcn:F.cenv=none){elt}{gens}{sc}{pos}{Q:Value->Shared->Prop}(hok:okE (m+1) false F.env.kindOf (.ListComp elt gens sc pos)=true)(hAct:Act c F s.heap ow σ)
  (hP:Z2 c F (Z7 c) (Zv c) s.heap ow s (Xq I elt gens σ) Q E):wpAny (MD c) A (eval (.ListComp elt gens sc pos) F.env) Q E s:=by
 rw[PySem.eval_ListComp]
 refine Z13 (PP:=fun o=>Z2 c F (Z7 c) (Zv c) s.heap ow s o Q E) hT hE hA hF hcn (fun h=>h) (fun m' σ' h=>h) hok hAct (fun ac C h ow' tk vars pl ds ys mm a1 a2 a3 a4 a5 a6 a7 a8 a9 a10 a11 a12 a13 hP=>?_) hP
 refine ⟨mm,a8,fun h' hs=>?_⟩
 have hsz:=Nat.le_of_eq hs.1.symm
 have hot:∀ b o,b≠C->h.get? b=some o->h'.get? b=some o:=fun b o hb e=>(hs.2 b hb).trans e
 refine gG fun G gk=>?_
 obtain ⟨oC,esC,epC,gC,O⟩:=id a8
 refine gk ?_
 have A2:=a1.turnE' a9 hsz hot a11 (Heap.lt_size gC)
 have S2:=a2.turnE a10 a11 hsz hot
 have kk:KK (fun O=>O=C) h ow' h' ow':=KK.turn rfl a11 hsz hot
 obtain ⟨r1,r2,r3⟩:=Z14 (σ:=σ) A2 S2 (a3.at fun o e=>hot ac o a12 e) a4 a5 a6 (a7.kk kk a1.new) a13
 exact hP (.ref ac) h' _ tk r1 r2 ⟨r3,nofun⟩
structure J4(c:Cx):Prop where
 o:Z6c c
 v:Z39 c
 nl:Z04 c
 av:VN c.K c.CV ["kind","items","attrs"]
 an:VN c.K c.CN ["kind","attrs"]
 sa:WY c.K c.CV "attrs"
 ss:WY c.K c.CV "shared"
theorem AOk.room(h:AOk (n+1) A F):A.depth+1 < recursionLimit:=by
 have:=h.depth
 unfold recursionLimit
 lia
theorem b3{a b d}(h:(a&&b&&d)=true):a=true/\b=true/\d=true:=⟨(b2 (b2 h).1).1,(b2 (b2 h).1).2,(b2 h).2⟩
theorem b4{a b d e}(h:(a&&b&&d&&e)=true):a=true/\b=true/\d=true/\e=true:=⟨(b3 (b2 h).1).1,(b3 (b2 h).1).2.1,(b3 (b2 h).1).2.2,(b2 h).2⟩
theorem Z42{ok:OkT}{cm}{kd}{elt}{gens}{sc}(h:UO ok cm kd elt gens sc=true):cm=false:=by
 induction cm with
 |false=>rfl
 |true=>unfold UO at h;generalize gv gens=v at h;induction v<;>exact Z4 h
theorem Z43(hX:J4 c)(hE:EvS c I n)(hC:Z0S c I n)(hA:AOk n A F)(hroom:A.depth+1 < recursionLimit)(hF:FOk F){f}{p pos}{args}{Q}(hg:Ys F.env.kindOf f=true)(hs:args.all Zz=true)
  (ho:(if f="isinstance" then Z6a (okE m) F.cenv.isSome F.env.kindOf args else !VU f||args.all (okE m F.cenv.isSome F.env.kindOf))=true) (hAct:Act c F s.heap ow σ)
  (hP:Z2 c F (Z7 c) (Zv c) s.heap ow s (XK I f args σ) Q E):wpAny (MD c) A (eval (.Call (.Name f p) args [] pos) F.env) Q E s:=by
 unfold XK at hP
 by_cases h1:f="isinstance"
 ·subst h1
  rw[if_pos rfl] at ho hP
  unfold Z6a at ho
  unfold Ud at hP
  generalize av args=v at ho hP
  induction v with
  |isi e cl pc=>
   rw[Bool.and_eq_true] at ho
   rw[List.all_cons,Bool.and_eq_true] at hs
   exact Z8a hX.o hE hA hF hg ho.2 hs.1 ho.1 hAct hP
  |_=>first|exact Z3 ho|exact Z4 ho|cases ho
 ·rw[if_neg h1] at ho hP
  by_cases h2:f="len"
  ·subst h2
   rw[if_pos rfl] at hP
   rw[show VU ("len":Str)=true by decide +kernel,Bool.not_true,Bool.false_or] at ho
   unfold Ue at hP
   generalize av args=v at hP
   induction v with
   |one e=>
    simp only[List.all_cons,Bool.and_eq_true] at hs ho
    exact Z84 hX.o hE hA hF hg hs.1 ho.1 hAct hP
   |_=>exact hP.elim
  ·rw[if_neg h2] at hP
   by_cases hfn:VU f=true
   case neg=>rw[if_neg hfn] at hP;exact hP.elim
   rw[if_pos hfn] at hP
   rw[hfn,Bool.not_true,Bool.false_or] at ho
   cases hi:W4.lookup f with
   |some i=>
    refine Z0T hX.o hE hC hA hF hi hg hs ho hAct ?_
    have e:X8 I f=Wa I i:=by funext ds σ;unfold X8;rw[hi]
    unfold Z4u at hP
    rw[e] at hP
    exact hP
   |none=>
    have e:X8 I f=Z2z f:=by funext ds σ;unfold X8;rw[hi]
    unfold Z4u at hP
    rw[e] at hP
    by_cases h3:f="Vector"
    ·subst h3
     exact VO hE hA hF hg hX.o.vec hX.v.keep hs ho hAct (fun s ow σ ds lv vs Q a1 a2 a3 a4=>Z88 hX.v hroom a1 a2 a3 a4) hP
    ·by_cases h4:f="Null"
     ·subst h4
      exact VO hE hA hF hg hX.o.null hX.nl.keep hs ho hAct (fun s ow σ ds lv vs Q a1 a2 a3 a4=>Z6k hX.nl hroom a1 a2 a3 a4) hP
     ·have hb:(Wl f).isSome=true:=by
       unfold VU at hfn
       simp only[hi,Option.isSome_none,Bool.false_or] at hfn
       unfold bltNames at hfn
       simp only[List.contains_cons,List.contains_nil,Bool.or_false,Bool.or_eq_true,beq_iff_eq] at hfn
       rcases hfn with q|q|q|q|q|q|q|q|q|q|q
       all_goals first|exact absurd q h2|exact absurd q h3|exact absurd q h4|(subst q;decide +kernel)
      obtain ⟨fv,hfv⟩:=Option.isSome_iff_exists.mp hb
      exact Z0U hX.o hE hA hF hfv hg hs ho hAct hP
theorem Z8g(hX:J4 c)(hE:EvS c I n)(hT:TrS c I n)(hC:Z0S c I n):EvS c (step I) (n+1):=by
 intro m e A F s ow σ E Q hok hA hF hAct hP
 have hA':AOk n A F:=hA.le (Nat.le_succ n)
 have hroom:=hA.room
 have hP:Z2 c F (Z7 c) (Zv c) s.heap ow s (XM I e σ) Q E:=hP
 cases m with
 |zero=>exact Z4 hok
 |succ m=>
 have hok:Zar (okE m) F.cenv.isSome F.env.kindOf e=true:=hok
 unfold Zar at hok
 unfold XM at hP
 generalize ev1 e=v at hok hP
 induction v with
 |con k x p=>exact Z06 hAct hP
 |nam x p=>exact Z5W hAct (Vz hok) hP
 |and es p=>exact Z83 hE hA' hF es s ow σ Q hok hAct hP
 |or es p=>exact Zas hE hA' hF es s ow σ Q hok hAct hP
 |bin l op r p=>obtain ⟨h1,h2⟩:=b2 hok;exact Z01 hE hA' hF h1 h2 hAct hP
 |not e p=>exact Z82 hE hA' hF hok hAct hP
 |neg e p=>exact Z6n hAct hP
 |ite t a b p=>obtain ⟨h1,h2,h3⟩:=b3 hok;exact Z3V hT hE hA' hF h1 h2 h3 hAct hP
 |dict ks es p=>
  obtain ⟨h1,h2,h3,h4⟩:=b4 hok
  exact Z6o hE hA' hF (beq_iff_eq.mp h2) h4 (of_decide_eq_true h3) h1 hAct hP
 |comp elt gens sc p=>
  have hcm:F.cenv.isSome=false:=Z42 hok
  have hcn:F.cenv=none:=by simpa using hcm
  have hok:okE (m+1) F.cenv.isSome F.env.kindOf (.ListComp elt gens sc p)=true:=hok
  rw[hcm] at hok
  exact Z09 hT hE hA' hF hcn hok hAct hP
 |cmp l op r p=>obtain ⟨h1,h2,h3⟩:=b3 hok;exact Z0R hE hA' hF h1 h2 (by simpa using h3) hAct hP
 |cal f pf args p=>obtain ⟨h1,h2,h3⟩:=b3 hok;exact Z43 hX hE hC hA' hroom hF h1 h2 h3 hAct hP
 |met o mn ap args p=>
  refine gG fun G gk=>?_
  obtain ⟨hok,h6⟩:=b2 hok
  obtain ⟨hok,h5⟩:=b2 hok
  obtain ⟨h1,h2,h3,h4⟩:=b4 hok
  refine gk ?_
  exact Z21 hE hA' hF h1 h2 h3 h4 (of_decide_eq_true h5) h6 hAct hP
 |atr o x p=>obtain ⟨h1,h2⟩:=b2 hok;exact Jr hX.av hX.an hE hA' hF h1 h2 hAct hP
 |to o e sp p=>obtain ⟨h1,h2⟩:=b2 hok;exact Zav hE hA' hF h1 h2 hAct hP
 |«from» o e sp p=>obtain ⟨h1,h2⟩:=b2 hok;exact Z6e hE hA' hF h1 h2 hAct hP
 |rev o k p0 p1 sp p=>exact Z86 hE hA' hF hok hAct hP
 |sub o i p h=>obtain ⟨h1,h2⟩:=b2 hok;exact Js hE hA' hF h1 h2 h hAct hP
 |list es p=>obtain ⟨h1,h2⟩:=b2 hok;exact Z0V hE hA' hF h1 h2 hAct hP
 |tup es k p=>obtain ⟨h1,h2⟩:=b2 hok;exact Z3W hE hA' hF h1 h2 hAct hP
 |bad=>exact hP.elim
theorem Out.bind_assoc{α β γ:Type}(o:Out α)(f:α->St->Out β)(g:β->St->Out γ):(o.bind f).bind g=o.bind fun a σ=>(f a σ).bind g:=by
 cases o<;>rfl
theorem Out.bind_congr{α β:Type}(o:Out α){f g:α->St->Out β}(h:∀ a σ,f a σ=g a σ):o.bind f=o.bind g:=by
 have:f=g:=funext fun a=>funext fun σ=>h a σ
 rw[this]
inductive Wp:Expr->Prop
 |and (es:List Expr) (p:Pos):Wp (.BoolOp .And es p)
 |or (es:List Expr) (p:Pos):Wp (.BoolOp .Or es p)
 |not (e:Expr) (p:Pos):Wp (.UnaryOp .Not e p)
 |ite (t a b:Expr) (p:Pos):Wp (.IfExp t a b p)
 |cmp (l:Expr) (op:CmpOp) (r:Expr) (p:Pos):Wp (.Compare l [op] [r] p)
 |bad (e:Expr) (O:∀ (I:Itp) (σ:St),XM I e σ=.stuck):Wp e
 |plain (e:Expr) (O:∀ env,isTrue e env (eval e env)=(do let v <-eval e env;standAt e.pos;holding [v] (truthy v))):Wp e
theorem Z8h(e):Wp e:=by
 cases e with
 |BoolOp op es p=>induction op with
  |And=>exact .and es p
  |Or=>exact .or es p
 |UnaryOp op e p=>induction op with
  |Not=>exact .not e p
  |_=>exact .plain _ fun O=>rfl
 |IfExp t a b p=>exact .ite t a b p
 |Compare l ops rs p=>cases ops with
  |nil=>exact .bad _ fun O O=>rfl
  |cons op ops=>induction ops with
   |nil=>cases rs with
    |nil=>exact .bad _ fun O O=>rfl
    |cons r rs=>induction rs with
     |nil=>exact .cmp l op r p
     |cons=>exact .bad _ fun O O=>rfl
   |cons=>exact .bad _ fun O O=>rfl
 |_=>exact .plain _ fun O=>rfl
theorem ZaD(l r)(op)(σ):((I.ev l σ).bind fun a σ=>(I.ev r σ).bind fun b σ=>(opt (YT σ op a.1.d b.1.d) σ).bind fun b σ=>(.ok (.fr (.bool b),none) σ:Out R)).bind (fun r σ=>opt (Zf r.1.d) σ) =
  ((I.ev l σ).bind fun a σ=>(I.ev r σ).bind fun b σ=>(opt (YT σ op a.1.d b.1.d) σ).bind fun b σ=>.ok b σ):=by
 rw[Out.bind_assoc]
 refine Out.bind_congr _ fun a σ=>?_
 rw[Out.bind_assoc]
 refine Out.bind_congr _ fun b σ=>?_
 rw[Out.bind_assoc]
 exact Out.bind_congr _ fun b σ=>rfl
theorem Z8i(hE':EvS c (step I) (n+1))(hE:EvS c I n)(hT:TrS c I n):TrS c (step I) (n+1):=by
 intro m e A F s ow σ E Q hok hA hF hAct hP
 have hA':AOk n A F:=hA.le (Nat.le_succ n)
 cases m with
 |zero=>exact Z4 hok
 |succ m=>
 induction Z8h e with
 |and es p=>exact Zau hT hA' hF es s ow σ Q hok hAct hP
 |or es p=>exact Zcr hT hA' hF es s ow σ Q hok hAct hP
 |not e p=>
  have hP:=(Out.bind_assoc ..)▸(show Z2 c F (Z7 c) Jn s.heap ow s (((tr I e σ).bind fun b σ=>(.ok (.fr (.bool (!b)),none) σ:Out R)).bind fun r σ=>opt (Zf r.1.d) σ) Q E from hP)
  refine isTrue_not (hT m e A F s ow σ E _ hok hA' hF hAct (Z2.bind hP Z6 Zk fun b s1_ b' h1_ ow1 tk1 O hA1 hS1 hr hP1_=>?_))
  obtain rfl:b'=b:=hr
  exact hP1_ (!b') h1_ ow1 tk1 hA1 (.refl _ _) rfl
 |ite t a b p=>
  obtain ⟨h1,h3⟩:=b2 hok
  obtain ⟨h1,h2⟩:=b2 h1
  have hP:=(Out.bind_assoc ..)▸(show Z2 c F (Z7 c) Jn s.heap ow s (((tr I t σ).bind fun c σ=>if c then I.ev a σ else I.ev b σ).bind fun r σ=>opt (Zf r.1.d) σ) Q E from hP)
  refine isTrue_IfExp (hT m t A F s ow σ E _ h1 hA' hF hAct (Z2.bind hP Z6 Zk fun b1_ s1_ b2_ h1_ ow1 tk1 O hA1 hS1 hr hP1_=>?_))
  obtain rfl:b2_=b1_:=hr
  induction b2_ with
  |true=>exact hT m a A F _ ow1 s1_ E Q h2 hA' hF hA1 hP1_
  |false=>exact hT m b A F _ ow1 s1_ E Q h3 hA' hF hA1 hP1_
 |cmp l op r p=>
  obtain ⟨h1,h3⟩:=b2 hok
  obtain ⟨h1,h2⟩:=b2 h1
  exact Z1Y hE hA' hF h1 h2 ((Bool.not_eq_true' _).mp h3) hAct (ZaD l r op σ▸hP)
 |bad e h=>exact (show Z2 c F (Z7 c) Jn s.heap ow s ((Out.stuck:Out R).bind fun r σ=>opt (Zf r.1.d) σ) Q E from h I σ▸hP).elim
 |plain e hw=>exact Z6b (I:=step I) (hw _) (fun Q hP=>hE' (m+1) e A F s ow σ E Q hok hA hF hAct hP) hP
def ZV(c:Cx)(h:Heap)(ow:Z5)(O:St)(f:Flow)(fl:Fl):Prop:=
 match fl with
 |.next=>f=.next
 |.brk=>f=.brk
 |.cont=>f=.cont
 |.ret lv=>∃ v o,f=.ret v/\Zx o=true/\ZK c h ow o v lv
noncomputable def Z6r(kd:Str->Option NameKind):Expr->Bool:=fun O=>match O with
 |.Constant O U V=>true
 |.Name x O=>ZI kd x
 |O=>false
noncomputable def okH(kd:Str->Option NameKind)(h:ExceptHandler):Bool:=match hv h with
 |.mk cn O err y U err' ..=>Ys kd cn&&Zw kd err&&Zw kd y&&ZI kd err'&&ZI kd err&&kd err == some .local&&err != y&&err != ("message":Str)
 |.bad O=>false
noncomputable def Zcx(ok:Expr->Bool)(kd:Str->Option NameKind)(x:Str)(ap:Pos)(args:List Expr)(p:Pos):Bool:=ZI kd x&&args.all Zz&&args.all ok&&decide (args.length < 30)&&ap.endLine == p.line
noncomputable def ZdO(ok:Expr->Bool)(os:Stmt->Bool)(kd:Str->Option NameKind){st:Stmt}(v:SV st):Bool:=by
 induction v with
 |ret0 O=>exact true
 |retI t a b q O=>exact ok (.IfExp t a b q)
 |ret e O=>exact ok e
 |asgL x O es q U=>exact ok (.List es q)&&Zw kd x
 |asgN x O e U=>exact ok e&&Zw kd x
 |asgT ts k p e O U=>exact ok e&&(ZE (.Tuple ts k p)).all (Zw kd)
 |asgS x O i U e V=>exact ok e&&ZI kd x&&Z6r kd i
 |asgA x O U V e O1=>exact ok e&&ZI kd x
 |asgB x O U V O1 O2 e O3=>exact ok e&&ZI kd x
 |aug x O U e V=>exact ok e&&ZI kd x&&Zw kd x
 |«for» t it b O=>exact ok it&&XW it&&(ZE t).all (Zw kd)&&b.all os
 |whl t b O=>exact ok t&&b.all os
 |ite t a b O=>exact ok t&&a.all os&&b.all os
 |rai cn O e U V=>exact ok e&&Ys kd cn&&Zz e
 |«try» b h O=>exact b.all os&&okH kd h
 |«mut» x O U ap args p V=>exact Zcx ok kd x ap args p
 |pass O=>exact true
 |cont O=>exact true
 |bad O=>exact false
noncomputable def ZaE(ok:Expr->Bool)(os:Stmt->Bool)(kd:Str->Option NameKind)(st:Stmt):Bool:=ZdO ok os kd (sv st)
noncomputable def okS:Nat->(Str->Option NameKind)->Stmt->Bool:=fun O U=>match O,U with
 |0,O=>fun O=>false
 |m+1,kd=>ZaE (okE (m+1) false kd) (okS m kd) kd
def J5(c:Cx)(I:Itp)(n:Nat):Prop:=∀ m body A F s ow σ E Q,body.all (okS m F.env.kindOf)=true->F.cenv=none->AOk n A F->FOk F->Act c F s.heap ow σ ->
 Z2 c F (SS F) (ZV c) s.heap ow s (I.exs body σ) Q E->wpAny (MD c) A (execs body F.env) Q E s
theorem SS.kk{h h'}{ow'}(x:SS F h ow h' ow'):KK (fun a=>a=F.env.locals\/∃ y,F.env.cells.lookup y=some a) h ow h' ow':=
 ⟨x.1,fun a ha q=>x.2.1 a ha (q.imp id fun q=>⟨q.1,fun e=>q.2 (.inl e),fun y e=>q.2 (.inr ⟨y,e⟩)⟩),x.2.2⟩
theorem SS.turnE{h₀ h h'}{ow0}{a}(x:SS F h₀ ow0 h ow)(ha:h₀.objs.size<=a)(hsz:h.objs.size<=h'.objs.size)(hot:∀ b o,b≠a->h.get? b=some o->h'.get? b=some o):SS F h₀ ow0 h' ow:=by
 refine ⟨Nat.le_trans x.1 hsz,fun b hb q=>?_,x.2.2⟩
 obtain ⟨x1,x2⟩:=x.2.1 b hb q
 refine ⟨x1,fun o e=>?_⟩
 obtain ⟨o',e',k⟩:=x2 o e
 exact ⟨o',hot b o' (Nat.ne_of_lt (Nat.lt_of_lt_of_le hb ha)) e',k⟩
theorem Y1.notX{a}(ap:Y1 F a)(hcn:F.cenv=none):¬ (a=F.env.locals\/∃ y,F.env.cells.lookup y=some a):=by
 have he:F.env=F.fenv:=by unfold Frm.env;rw[hcn];rfl
 rintro (q|⟨y,q⟩)
 ·exact ap.cloc q
 ·rw[he] at q;exact ap.cell y q
theorem Z2.ssAt{α β:Type}{R1:Heap->Z5->St->β->α->Prop}{h h1_}{ow1}{o:Out α}{Q:β->Shared->Prop}(hP:Z2 c F (SS F) R1 h ow s o Q E)(h01:SS F h ow h1_ ow1){tk}:Z2 c F (SS F) R1 h1_ ow1 {s with heap:=h1_,toks:=tk} o Q E:=by
 induction o with
 |ok a σ'=>exact fun b h' ow' tk' g1 g2 g3=>hP b h' ow' tk' g1 (h01.trans g2) g3
 |exc m' σ'=>exact fun e h' ow' tk' g1 g2 g3=>hP e h' ow' tk' g1 (h01.trans g2) g3
 |stuck=>exact hP
theorem Z2.exprAt{α α' β β':Type}{R1:Heap->Z5->St->β->α->Prop}{R2:Heap->Z5->St->β'->α'->Prop}{h}{o:Out α}{f:α->St->Out α'}{Q1:β->Shared->Prop}{Q2:β'->Shared->Prop}
  (hP:Z2 c F (SS F) R2 h ow s (o.bind f) Q2 E)
  (k:∀ a σ' b h' ow' tk,Act c F h' ow' σ'->Z7 c h ow h' ow'->R1 h' ow' σ' b a->Z2 c F (SS F) R2 h' ow' {s with heap:=h',toks:=tk} (f a σ') Q2 E->Q1 b {s with heap:=h',toks:=tk}) :
  Z2 c F (Z7 c) R1 h ow s o Q1 E:=by
 induction o with
 |ok a σ'=>exact fun b h' ow' tk g1 g2 g3=>k a σ' b h' ow' tk g1 g2 g3 (Z2.ssAt (o:=f a σ') hP g2.ss)
 |exc m σ'=>exact fun e h' ow' tk g1 g2 g3=>hP e h' ow' tk g1 g2.ss g3
 |stuck=>exact hP
theorem Z2.frzAt{α' β':Type}{R2:Heap->Z5->St->β'->α'->Prop}{h}{o}{f:D->St->Out α'}{Q1}{Q2:β'->Shared->Prop}(hF:FOk F)
  (hP:Z2 c F (SS F) R2 h ow s ((frz o).bind f) Q2 E)
  (k:∀ d σ' v h' ow' tk,Act c F h' ow' σ'->Z7 c h ow h' ow'->Rep c h' ow' v d->Z2 c F (SS F) R2 h' ow' {s with heap:=h',toks:=tk} (f d σ') Q2 E->Q1 v {s with heap:=h',toks:=tk}) :
  Z2 c F (Z7 c) (Zv c) h ow s o Q1 E:=by
 induction o with
 |ok r σ'=>
  intro v h' ow' tk g1 g2 g3
  obtain ⟨ow2_,hA2,hS2,hr⟩:=g1.freeze hF g3
  exact k r.1.d (Zo r σ') v h' ow2_ tk hA2 (g2.trans hS2) hr (Z2.ssAt (o:=f r.1.d (Zo r σ')) hP (g2.trans hS2).ss)
 |exc m σ'=>exact fun e h' ow' tk g1 g2 g3=>hP e h' ow' tk g1 g2.ss g3
 |stuck=>exact hP
theorem Z0a(hE:EvS c I n)(hA:AOk n A F)(hF:FOk F)(hcn:F.cenv=none){e}{Q}(ho:okE m false F.env.kindOf e=true)(hAct:Act c F s.heap ow σ)
  (hP:Z2 c F (SS F) (ZV c) s.heap ow s (JC I e σ) Q E):wpAny (MD c) A (eval e F.env) (fun v=>Q (.ret v)) E s:=
 hE m e A F s ow σ E _ (by rw[hcn];exact ho) hA hF hAct (Z2.exprAt hP fun r s1_ v h1_ ow1 tk1 hA1 hS1 hr hP1_=>hP1_ (.ret v) h1_ ow1 tk1 hA1 (.refl _ _) ⟨v,_,rfl,UD _,hr.1⟩)
theorem Z2b(hE:EvS c I n)(hA:AOk n A F)(hF:FOk F)(hcn:F.cenv=none){e}{pos}{Q}(ho:okE m false F.env.kindOf e=true)(hAct:Act c F s.heap ow σ)
  (hP:Z2 c F (SS F) (ZV c) s.heap ow s (JC I e σ) Q E):wpAny (MD c) A (exec (.Return (some e) pos) F.env) Q E s:=wpAny_Return_some (Z0a hE hA hF hcn ho hAct hP)
theorem Z15(hE:EvS c I n)(hT:TrS c I n)(hA:AOk n A F)(hF:FOk F)(hcn:F.cenv=none){t a b}{p pos}{Q}(h1:okE m false F.env.kindOf t=true)(h2:okE m false F.env.kindOf a=true)(h3:okE m false F.env.kindOf b=true)(hAct:Act c F s.heap ow σ)
  (hP:Z2 c F (SS F) (ZV c) s.heap ow s (Z4x I t a b σ) Q E):wpAny (MD c) A (exec (.Return (some (.IfExp t a b p)) pos) F.env) Q E s:=by
 refine wpAny_Return_some (wpAny_IfExp (hT m t A F s ow σ E _ (by rw[hcn];exact h1) hA hF hAct (Z2.exprAt hP fun b1_ s1_ b2_ h1_ ow1 tk1 hA1 hS1 hr hP1_=>?_)))
 have hr:b2_=b1_:=hr
 subst hr
 induction b2_ with
 |true=>exact Z0a (s:={s with heap:=h1_,toks:=tk1}) hE hA hF hcn h2 hA1 hP1_
 |false=>exact Z0a (s:={s with heap:=h1_,toks:=tk1}) hE hA hF hcn h3 hA1 hP1_
theorem ZaF(hT:TrS c I n)(hX:J5 c I n)(hA:AOk n A F)(hF:FOk F)(hcn:F.cenv=none){t}{a b}{pos}{Q}(h1:okE (m+1) false F.env.kindOf t=true)(h2:a.all (okS m F.env.kindOf)=true)(h3:b.all (okS m F.env.kindOf)=true)(hAct:Act c F s.heap ow σ)
  (hP:Z2 c F (SS F) (ZV c) s.heap ow s (Z8D I t a b σ) Q E):wpAny (MD c) A (exec (.If t a b pos) F.env) Q E s:=by
 have hcb:F.cenv.isSome=false:=by rw[hcn];rfl
 refine wpAny_If (hT (m+1) t A F s ow σ E _ (by rw[hcb];exact h1) hA hF hAct (Z2.exprAt hP fun b1_ s1_ b2_ h1_ ow1 tk1 hA1 hS1 hr hP1_=>?_))
 have hr:b2_=b1_:=hr
 subst hr
 induction b2_ with
 |true=>exact hX m a A F _ ow1 s1_ E Q h2 hcn hA hF hA1 hP1_
 |false=>exact hX m b A F _ ow1 s1_ E Q h3 hcn hA hF hA1 hP1_
theorem Z16(hE:EvS c I n)(hA:AOk n A F)(hF:FOk F)(hcn:F.cenv=none){ts}{k}{tp pos}{e}{Q}(h1:okE (m+1) false F.env.kindOf e=true)(h2:(ZE (.Tuple ts k tp)).all (Zw F.env.kindOf)=true)(hnt:Z1r e=false)(hAct:Act c F s.heap ow σ)
  (hP:Z2 c F (SS F) (ZV c) s.heap ow s (Z4y I (.Tuple ts k tp) e σ) Q E):wpAny (MD c) A (exec (.Assign [.Tuple ts k tp] e pos) F.env) Q E s:=by
 have hcb:F.cenv.isSome=false:=by rw[hcn];rfl
 have hsw:swapsWithSole [.Tuple ts k tp] e pos.line F.env=pure false:=by
  cases e<;>first|rfl|cases hnt
 have hss:swappedStores [.Tuple ts k tp] e F.env=pure none:=by
  cases e<;>first|rfl|cases hnt
 refine wpAny_Assign_stores (hE (m+1) e A F s ow σ E _ (by rw[hcb];exact h1) hA hF hAct (Z2.frzAt hF hP fun d s1_ v h1_ ow1 tk1 hA1 hS1 hr hP1_=>?_)) hsw hss
 have e1:(assignEach [.Tuple ts k tp] F.env).map (fun O=>O.2)=[assign (.Tuple ts k tp) F.env]:=rfl
 rw[e1]
 show wpAny (MD c) A (assign (.Tuple ts k tp) F.env v) _ E _
 refine K8 (s:={s with heap:=h1_,toks:=tk1}) hA.handled hF hcn h2 hA1 hr ?_
 generalize Zl (.Tuple ts k tp) d s1_=ww at hP1_
 induction ww with
 |stuck=>exact hP1_.elim
 |exc m' q7=>exact hP1_
 |ok u q7=>
  exact fun u h2_ ow2_ tk2 a1 a2 O=>hP1_ .next h2_ ow2_ tk2 a1 a2 rfl
def Z6s(c:Cx)(I:Itp)(n:Nat):Prop:=∀ m elt gens sc pos A F s ow σ E (Q:Flow->Shared->Prop) y py (spos:Pos),okE (m+1) false F.env.kindOf (.ListComp elt gens sc pos)=true->Zw F.env.kindOf y=true->F.cenv=none->AOk n A F->FOk F->Act c F s.heap ow σ ->
 swapsWith (.ListComp elt gens sc pos) (some (.Name y py)) spos.line F.env=pure true->Z2 c F (SS F) (ZV c) s.heap ow s (Wt I y (.ListComp elt gens sc pos) σ) Q E->wpAny (MD c) A (exec (.Assign [.Name y py] (.ListComp elt gens sc pos) spos) F.env) Q E s
noncomputable def WD(x:Str)(r:R)(σ:St):Out Fl:=match r.2 with
 |none=>.ok .next {σ with vars:=ZA x r.1 σ.vars}
 |some O=>let σ:=Zo r σ;.ok .next {σ with vars:=ZA x (.fr r.1.d) σ.vars}
theorem Z2c(x)(e)(σ):Wt I x e σ=(I.ev e σ).bind (WD x):=rfl
theorem VS(hF:FOk F)(hcn:F.cenv=none){x}{r}{v}{Q}(hx:Zw F.env.kindOf x=true)(hAct:Act c F s.heap ow σ)(hr:Zv c s.heap ow σ v r)
  (hP:Z2 c F (SS F) (ZV c) s.heap ow s (WD x r σ) Q E):wpAny (MD c) A (storeName F.env x v) (fun O=>Q .next) E s:=by
 unfold WD at hP
 cases hr2:r.2 with
 |none=>
  rw[hr2] at hP
  have h1:=hr.1
  rw[hr2] at h1
  exact Yo hF hAct hcn hx h1 fun h' ow' tk a b=>hP .next h' ow' tk a b rfl
 |some y=>
  rw[hr2] at hP
  refine gG fun G gk=>?_
  obtain ⟨ow2_,hA2,hS2,h2⟩:=hAct.freeze hF hr
  refine gk ?_
  exact Yo hF hA2 hcn hx (ZK.fr h2) fun h' ow' tk a b=>hP .next h' ow' tk a (hS2.ss.trans b) rfl
theorem Z6t(hE:EvS c I n)(hT:TrS c I n):Z6s c (step I) (n+1):=by
 intro m elt gens sc pos A F s ow σ E Q y py spos hok hy hcn hA hF hAct hsw hP
 have hA':AOk n A F:=hA.le (Nat.le_succ n)
 rw[exec_Assign_Name_used _ _ _ _ hsw]
 refine wpAny_bind (wpAny_standAt (wpAny_bind ?_))
 show wpAny _ A (do let _ <-comprehension (.ListComp elt gens sc pos) sc F.env (firstIterPos gens pos) (newList []) (firstAsync gens) (firstIter gens F.env) (some (assign (.Name y py) F.env))) _ _ s
 have hP:Z2 c F (SS F) (ZV c) s.heap ow s ((Xq I elt gens σ).bind (WD y)) Q E:=hP
 refine wpAny_bind (wpAny_mono (Z13 (Q:=fun O s'=>Q .next s') (PP:=fun o=>Z2 c F (SS F) (ZV c) s.heap ow s (o.bind (WD y)) Q E) hT hE hA' hF hcn (fun h=>h) (fun m' σ' h e h' ow' tk a1 a2 a3=>h e h' ow' tk a1 a2.ss a3) hok hAct (fun ac C h ow' tk vars pl ds ys mm a1 a2 a3 a4 a5 a6 a7 a8 a9 a10 a11 a12 a13 hP=>?_) hP) (fun O s' hq=>wpAny_pure (wpAny_pure hq)) fun O O e=>e)
 obtain ⟨r1,r2,r3⟩:=Z14 (σ:=σ) a1 a2 a3 a4 a5 a6 a7 a13
 have hP:Z2 c F (SS F) (ZV c) s.heap ow s (.ok .next {(⟨vars,[],[],pl⟩:St) with vars:=ZA y (.ol ds) vars}) Q E:=hP
 show wpAny (MD c) A (assign (.Name y py) F.env (.ref ac)) _ E _
 have foC:upd ow' ac .tmp C=.foreign:=by rw[ZD (Ne.symm a12)];exact a11
 refine wpAny_assign_Name (Yo (s:={s with heap:=h,toks:=tk}) hF r1 hcn hy r3 fun h'' ow'' tk'' b1 b2=>?_)
 refine gG fun G gk=>?_
 obtain ⟨oC,esC,epC,gC,O⟩:=id a8
 obtain ⟨f1,f2⟩:=b2.kk.2.1 C (Heap.lt_size gC) (.inr ⟨foC,a9.notX hcn⟩)
 obtain ⟨oC',gC',sC⟩:=f2 oC gC
 obtain ⟨m',n1,O⟩:=sC.nsV gC gC' a8
 refine gk ?_
 refine ⟨m',n1,fun h3 hs3=>?_⟩
 have hsz:=Nat.le_of_eq hs3.1.symm
 have hot:∀ b o,b≠C->h''.get? b=some o->h3.get? b=some o:=fun b o hb e=>(hs3.2 b hb).trans e
 exact hP .next h3 ow'' tk'' (b1.turnE' a9 hsz hot (f1.trans foC) (Heap.lt_size gC')) ((r2.ss.trans b2).turnE a10 hsz hot) rfl
theorem Z2d(elt)(gens)(sc)(pos py)(y)(l)(env):∃ b,swapsWith (.ListComp elt gens sc pos) (some (.Name y py)) l env=pure b:=⟨_,rfl⟩
theorem Z17(hE:EvS c I n)(hU:Z6s c I n)(hA:AOk n A F)(hF:FOk F)(hcn:F.cenv=none){x}{px pos}{e}{Q}(h1:okE (m+1) false F.env.kindOf e=true)(hx:Zw F.env.kindOf x=true)(hAct:Act c F s.heap ow σ)
  (hP:Z2 c F (SS F) (ZV c) s.heap ow s (Wt I x e σ) Q E):wpAny (MD c) A (exec (.Assign [.Name x px] e pos) F.env) Q E s:=by
 have hcb:F.cenv.isSome=false:=by rw[hcn];rfl
 have norm:swapsWith e (some (.Name x px)) pos.line F.env=pure false->wpAny (MD c) A (exec (.Assign [.Name x px] e pos) F.env) Q E s:=fun hs=>by
  rw[Z2c] at hP
  refine wpAny_Assign_Name (hE (m+1) e A F s ow σ E _ (by rw[hcb];exact h1) hA hF hAct (Z2.exprAt hP fun r s1_ v h1_ ow1 tk1 hA1 hS1 hr hP1_=>?_)) hs
  exact VS (s:={s with heap:=h1_,toks:=tk1}) hF hcn hx hA1 hr hP1_
 cases e with
 |ListComp elt gens sc p=>
  obtain ⟨b,hb⟩:=Z2d elt gens sc p px x pos.line F.env
  induction b with
  |true=>exact hU m elt gens sc p A F s ow σ E Q x px pos h1 hx hcn hA hF hAct hb hP
  |false=>exact norm hb
 |SetComp O U V O1=>exact absurd h1 Bool.false_ne_true
 |DictComp O U V O1 O2=>exact absurd h1 Bool.false_ne_true
 |_=>exact norm rfl
theorem Z18(hE:EvS c I n)(hA:AOk n A F)(hF:FOk F)(hcn:F.cenv=none){x}{px lp pos}{es}{Q}(h1:okE (m+1) false F.env.kindOf (.List es lp)=true)(hx:Zw F.env.kindOf x=true)(hAct:Act c F s.heap ow σ)
  (hP:Z2 c F (SS F) (ZV c) s.heap ow s ((Y3 I es σ).bind fun ds σ=>if ds.length<=LIM then .ok .next {σ with vars:=ZA x (.ol ds) σ.vars} else .stuck) Q E):wpAny (MD c) A (exec (.Assign [.Name x px] (.List es lp) pos) F.env) Q E s:=by
 have hcb:F.cenv.isSome=false:=by rw[hcn];rfl
 have h1:(es.all Zz&&es.all (okE m false F.env.kindOf))=true:=h1
 rw[Bool.and_eq_true] at h1
 have e1:((Y3 I es σ).bind fun ds σ=>if ds.length<=LIM then (.ok .next {σ with vars:=ZA x (.ol ds) σ.vars}:Out Fl) else .stuck)=((Y3 I es σ).bind fun ds σ=>if ds.length<=LIM then (.ok (.ol ds,none) σ:Out R) else .stuck).bind (WD x):=by
  rw[Out.bind_assoc]
  refine Out.bind_congr _ fun ds σ=>?_
  split<;>rfl
 rw[e1] at hP
 refine wpAny_Assign_Name (Z0V hE hA hF h1.1 (by rw[hcb];exact h1.2) hAct (Z2.exprAt hP fun r s1_ v h1_ ow1 tk1 hA1 hS1 hr hP1_=>?_)) rfl
 exact VS (s:={s with heap:=h1_,toks:=tk1}) hF hcn hx hA1 hr hP1_
theorem Z19{msg}{h'}{ow'}{tk}{v}{σ'}(hA:AOk n A F)(hcn:F.cenv=none)(ha:Act c F h' ow' σ')(hf:Fly c h' v msg)
  (hE:∀ h'' ow'' e,Act c F h'' ow'' σ'->Z7 c h' ow' h'' ow''->Fly c h'' e msg->E e {s with heap:=h'',toks:=tk}) :
  notedBy (MD c) A F.env (fun e s'=>cameBackBy (MD c) A F.env E e s') v {s with heap:=h',toks:=tk}:=by
 have he:F.env=F.fenv:=by unfold Frm.env;rw[hcn];rfl
 obtain ⟨xa,tb,rfl,hfl⟩:=hf
 refine XG (s:={s with heap:=h',toks:=tk}) hA.frames ha (by rw[he]) hfl fun h2 ow2 T b1 b2 b3=>?_
 refine Vg (s:={s with heap:=h2,toks:=tk}) b1 b3 (by simp) fun h3 d1 d2 d3=>?_
 exact hE h3 ow2 (.ref xa) d1 (b2.trans d2) ⟨xa,_,rfl,d3⟩
theorem Ke{h h1_}{ow1}{tk}{K}{Q P'}{body}(hX:J5 c I n)(hA:AOk n A F)(hF:FOk F)(hcn:F.cenv=none)(h3:body.all (okS m F.env.kindOf)=true)(hAct:Act c F h ow σ)(hS:SS F h1_ ow1 h ow)
  (hP:Z2 c F (SS F) (ZV c) h1_ ow1 s ((I.exs body σ).bind (Z0f K)) Q E)
  (q1:∀ f h' ow' tk' σ',f=.next\/f=.cont->Act c F h' ow' σ'->SS F h ow h' ow'->SS F h1_ ow1 h' ow'->Z2 c F (SS F) (ZV c) h1_ ow1 s (K σ') Q E->P' f {s with heap:=h',toks:=tk'})
  (q2:∀ s,Q .next s->P' .brk s) (q3:∀ v s,Q (.ret v) s->P' (.ret v) s) :
  wpAny (MD c) A (execs body F.env) P' (notedBy (MD c) A F.env fun e s'=>cameBackBy (MD c) A F.env E e s') {s with heap:=h,toks:=tk}:=by
 refine hX m body A F {s with heap:=h,toks:=tk} ow σ _ _ h3 hcn hA hF hAct ?_
 generalize I.exs body σ=ww at hP
 induction ww with
 |stuck=>exact hP.elim
 |exc m' s6=>
  exact fun e h6_ ow6_ tk6_ a1 a2 a3=>Z19 (s:=s) hA hcn a1 a3 fun h7 ow7 e7 b1 b2 b3=>hP e7 h7 ow7 tk6_ b1 ((hS.trans a2).trans b2.ss) b3
 |ok f s6=>
  intro fl h6_ ow6_ tk6_ hA6 hS6 hf
  induction f with
  |next=>
   obtain rfl:fl=.next:=hf
   exact q1 _ _ _ _ _ (.inl rfl) hA6 hS6 (hS.trans hS6) hP
  |cont=>
   obtain rfl:fl=.cont:=hf
   exact q1 _ _ _ _ _ (.inr rfl) hA6 hS6 (hS.trans hS6) hP
  |brk=>
   obtain rfl:fl=.brk:=hf
   exact q2 _ (hP .next h6_ ow6_ tk6_ hA6 (hS.trans hS6) rfl)
  |ret lv=>
   obtain ⟨w,o,rfl,ho,hl⟩:=hf
   exact q3 _ _ (hP (.ret w) h6_ ow6_ tk6_ hA6 (hS.trans hS6) ⟨w,o,rfl,ho,hl⟩)
inductive Z8j(c:Cx)(A:Around)(F:Frm)(K:List D->St->Out Fl)(it:Addr)(fp:List Addr)(P:Nat->Value->Prop)(st:Nat->Heap->Prop)(xs:List D)(h1_:Heap)(ow1:Z5)(Q:Flow->Shared->Prop)(E:Value->Shared->Prop)(k:Nat)(s:Shared):Prop
 |mk (i:Nat) (ow:Z5) (σ:St) (O:k=xs.length+1 - i) (O:i<=xs.length) (O:Act c F s.heap ow σ) (O:SS F h1_ ow1 s.heap ow) (O:ItS c A it fp P st xs i s.heap ow) (O:Z2 c F (SS F) (ZV c) h1_ ow1 s (K (xs.drop i) σ) Q E)
theorem Z6u{t}{body}{it}{fp}{P}{st}{xs}{h1_}{ow1}{Q P'}{k}{E2}(hX:J5 c I n)(hA:AOk n A F)(hF:FOk F)(hcn:F.cenv=none)
  (h2:(ZE t).all (Zw F.env.kindOf)=true) (h3:body.all (okS m F.env.kindOf)=true) (hit:it=h1_.objs.size) (api:Y1 F it) (hI:Z8j c A F (fun r=>ZJ (I.exs body) t r) it fp P st xs h1_ ow1 Q E k s)
  (q1:∀ f s,f=.next\/f=.cont->(∃ m,m < k/\Z8j c A F (fun r=>ZJ (I.exs body) t r) it fp P st xs h1_ ow1 Q E m s)->P' f s) (q2:∀ s,Q .next s->P' .brk s) (q3:∀ v s,Q (.ret v) s->P' (.ret v) s) (q4:∀ s,Q .next s->Q .next s) :
  wpAny (MD c) A (pyNext (.ref it)) (fun r q0=>match r with
   |none=>Q .next q0
   |some v=>wpAny (MD c) A (letOwnedTupleGo t (.ref it) v) (fun O s1'=>wpAny (MD c) A (assign t F.env v) (fun O s2_=>wpAny (MD c) A (execs body F.env) P' (notedBy (MD c) A F.env fun e s'=>cameBackBy (MD c) A F.env E e s') s2_) (notedBy (MD c) A F.env fun e s'=>cameBackBy (MD c) A F.env E e s') s1') (notedBy (MD c) A F.env fun e s'=>cameBackBy (MD c) A F.env E e s') q0) E2 s:=by
 refine gG fun G gk=>?_
 obtain ⟨i,ow,σ,rfl,hi,hA3,hS3,T,hP⟩:=hI
 obtain ⟨oi,ei,ci⟩:=T.obj
 refine gk ?_
 refine Zn ?_
 by_cases hlt:i < xs.length
 ·refine T.walk.W.item i _ _ _ hlt T.at_ fun v h4_ tk4 hPv hst4 hk4 hsz4=>?_
  have hk4:∀ b o,b≠it->s.heap.get? b=some o->h4_.get? b=some o:=fun b o hb e=>hk4 b o (by simpa using hb) e
  have hA4:=hA3.turnE' api hsz4 hk4 T.own (Heap.lt_size ei)
  have T4:=T.next hst4 hk4
  obtain ⟨d,hd,hr⟩:=T4.walk.item i v hPv
  rw[List.drop_eq_getElem_cons hlt,(List.getElem?_eq_some_iff.mp hd).2] at hP
  refine UW (s:={s with heap:=h4_,toks:=tk4}) T4.obj (K8 (s:={s with heap:=h4_,toks:=tk4}) hA.handled hF hcn h2 hA4 hr ?_)
  have hP:Z2 c F (SS F) (ZV c) h1_ ow1 s ((Zl t d σ).bind fun O σ=>(I.exs body σ).bind (Z0f (ZJ (I.exs body) t (xs.drop (i+1))))) Q E:=hP
  cases hb:Zl t d σ with
  |exc m' σ'=>exact VE hb
  |stuck=>rw[hb] at hP;exact hP.elim
  |ok u s5=>
   rw[hb] at hP
   intro u' h5_ ow5 tk5 hA5 hS5 O
   have T5:=T4.kk hS5.kk (api.notX hcn) hA4.new
   exact Ke (s:=s) hX hA hF hcn h3 hA5 ((hS3.turnE (Nat.le_of_eq hit.symm) hsz4 hk4).trans hS5) hP (fun f h6_ ow6_ tk6_ s6 e a1 a2 a3 a4=>q1 _ _ e ⟨_,Nat.sub_lt_sub_left (Nat.lt_succ_of_lt hlt) (Nat.lt_succ_self i),i+1,ow6_,s6,rfl,hlt,a1,a3,T5.kk a2.kk (api.notX hcn) hA5.new,a4⟩) q2 q3
 ·obtain rfl:i=xs.length:=Nat.le_antisymm hi (Nat.le_of_not_lt hlt)
  rw[List.drop_length] at hP
  refine T.walk.W.done _ _ _ T.at_ fun h4_ tk4 hk4 hsz4=>?_
  have hk4:∀ b o,b≠it->s.heap.get? b=some o->h4_.get? b=some o:=fun b o hb e=>hk4 b o (by simpa using hb) e
  exact hP .next h4_ ow tk4 (hA3.turnE' api hsz4 hk4 T.own (Heap.lt_size ei)) (hS3.turnE (Nat.le_of_eq hit.symm) hsz4 hk4) rfl
theorem Z8k(hE:EvS c I n)(hX:J5 c I n)(hA:AOk n A F)(hF:FOk F)(hcn:F.cenv=none){t it}{body}{pos}{Q}(h1:okE (m+1) false F.env.kindOf it=true)(hns:XW it=true)(h2:(ZE t).all (Zw F.env.kindOf)=true)(h3:body.all (okS m F.env.kindOf)=true)(hAct:Act c F s.heap ow σ)
  (hP:Z2 c F (SS F) (ZV c) s.heap ow s ((frz (I.ev it σ)).bind fun d σ=>(opt (YD d) σ).bind fun xs σ=>ZJ (I.exs body) t xs σ) Q E):wpAny (MD c) A (exec (.For t it body [] pos) F.env) Q E s:=by
 have hcb:F.cenv.isSome=false:=by rw[hcn];rfl
 refine wpAny_For (hE (m+1) it A F s ow σ E _ (by rw[hcb];exact h1) hA hF hAct (Z2.frzAt hF hP fun d s1_ v h1_ ow1 tk1 hA1 hS1 hr hP1_=>?_)) (fun x=>WZ hns F.env x)
 cases hit:YD d with
 |none=>rw[hit] at hP1_;exact hP1_.elim
 |some xs=>
 rw[hit] at hP1_
 refine UV (s:={s with heap:=h1_,toks:=tk1}) hA.handled hr hit fun fp P st ob I2 hst2 hl2=>?_
 obtain ⟨hA2,hS2⟩:=hA1.keeps (h':=h1_.push ob) (by rw[Heap.size_push];exact Nat.le_succ _) fun b o e=>Heap.get?_push_of_some _ e
 refine codeAny_forLoop_any (Z8j c A F (fun r=>ZJ (I.exs body) t r) h1_.objs.size fp P st xs h1_ ow1 Q E) (fun k s hI=>?_) (xs.length+1) ⟨0,ow1,s1_,rfl,Nat.zero_le _,hA2,hS2.ss,⟨⟨I2.W,I2.firm,I2.cls,fun j w hp=>(I2.item j w hp).imp fun dd q=>⟨q.1,q.2.step hS2 hA1.new⟩,I2.own⟩,hst2,hA1.new _ (Nat.le_refl _)⟩,hP1_⟩
 refine wpAny_mono (Z6u (P':=fun f s3_=>match f with|.next|.cont=>∃ m,m < k/\Z8j c A F (fun r=>ZJ (I.exs body) t r) h1_.objs.size fp P st xs h1_ ow1 Q E m s3_|.brk=>Q .next s3_|.ret v=>Q (.ret v) s3_) hX hA hF hcn h2 h3 rfl (hA1.apart (Nat.le_refl _)) hI (fun f s e h=>?_) (fun O h=>h) (fun O O h=>h) (fun O h=>h)) (fun r q0 h=>?_) fun O O h=>h
 ·rcases e with rfl|rfl<;>exact h
 ·induction r with
  |none=>exact wpAny_execs_nil h
  |some v=>exact h
theorem Z44(hT:TrS c I n)(hX:J5 c I n)(hA:AOk n A F)(hF:FOk F)(hcn:F.cenv=none){t}{body}{pos}{Q}(h1:okE (m+1) false F.env.kindOf t=true)(h3:body.all (okS m F.env.kindOf)=true)(hAct:Act c F s.heap ow σ){k}
  (hP:Z2 c F (SS F) (ZV c) s.heap ow s (whl (tr I t) (I.exs body) k σ) Q E):wpAny (MD c) A (exec (.While t body [] pos) F.env) Q E s:=by
 have hcb:F.cenv.isSome=false:=by rw[hcn];rfl
 generalize hh1:s.heap=h1_ at hP
 generalize how1:ow=ow1 at hP
 refine wpAny_While (codeAny_whileLoop (fun k s=>∃ ow σ,Act c F s.heap ow σ/\SS F h1_ ow1 s.heap ow/\Z2 c F (SS F) (ZV c) h1_ ow1 s (whl (tr I t) (I.exs body) k σ) Q E) ?_ k ⟨ow,σ,hAct,by rw[<-hh1,<-how1];exact .refl _ _,hP⟩)
 rintro k s ⟨ow,σ,hA3,hS3,hP⟩
 induction k with
 |zero=>exact hP.elim
 |succ k=>
 have hP:Z2 c F (SS F) (ZV c) h1_ ow1 s ((tr I t σ).bind fun b σ=>if b then (I.exs body σ).bind (Z0f (whl (tr I t) (I.exs body) k)) else .ok .next σ) Q E:=hP
 refine hT (m+1) t A F s ow σ _ _ (by rw[hcb];exact h1) hA hF hA3 ?_
 generalize tr I t σ=ww at hP
 induction ww with
 |stuck=>exact hP.elim
 |exc m' s6=>
  exact fun e h6_ ow6_ tk6_ a1 a2 a3=>Z19 (s:=s) hA hcn a1 a3 fun h7 ow7 e7 b1 b2 b3=>hP e7 h7 ow7 tk6_ b1 ((hS3.trans a2.ss).trans b2.ss) b3
 |ok b s4_=>
  intro b' h4_ ow4 tk4 hA4 hS4 hb'
  subst hb'
  have hS14:=hS3.trans hS4.ss
  cases b' with
  |false=>
   exact wpAny_execs_nil (hP .next h4_ ow4 tk4 hA4 hS14 rfl)
  |true=>
   refine Ke (s:=s) hX hA hF hcn h3 hA4 hS14 hP (fun f h6_ ow6_ tk6_ s6 e a1 a2 a3 a4=>?_) (fun O h=>h) (fun O O h=>h)
   rcases e with rfl|rfl<;>exact ⟨k,Nat.lt_succ_self _,ow6_,s6,a1,a3,a4⟩
def ZY(F:Frm)(h:Heap)(x:Str)(v:Value):Prop:=∃ m,h.Ns F.fenv.locals m/\m "shared"=none/\Z32 h F.fenv m x v
theorem Act.holds{h}(hA:Act c F h ow σ)(hcn:F.cenv=none){x}{lv}(hl:ZM x σ.vars=some lv):∃ v,ZY F h x v/\ZK c h ow (.slot x) v lv:=by
 have S:=hA.scp
 rw[hcn] at S
 refine gG fun G gk=>?_
 obtain ⟨O,O,m,S⟩:=S
 obtain ⟨v,h1,h2⟩:=S.vars x lv hl
 refine gk ?_
 exact ⟨v,⟨m,S.ns,S.nsh,h1⟩,h2⟩
theorem Kf{h:Heap}{k:Addr}{v v':Option Value}(x:h.IsCell k v)(y:h.IsCell k v'):v=v':=by
 obtain ⟨o,e,d⟩:=x
 obtain ⟨o',e',d'⟩:=y
 rw[e] at e';obtain rfl:=Option.some.inj e'
 rw[d] at d';cases d';rfl
theorem ZY.uniq{h:Heap}{x:Str}{v v':Value}(a:ZY F h x v)(b:ZY F h x v'):v=v':=by
 obtain ⟨m,n1,O,h1⟩:=a
 obtain ⟨m',n2,O,h2⟩:=b
 rcases h1 with ⟨k1,e1⟩|⟨k1,a1,l1,c1⟩
 ·rcases h2 with ⟨k2,e2⟩|⟨k2,O⟩
  ·rw[XY n1 n2 x,e2] at e1;injection e1 with e1;subst e1;rfl
  ·rw[k1] at k2;cases k2
 ·rcases h2 with ⟨k2,O⟩|⟨k2,a2,l2,c2⟩
  ·rw[k1] at k2;cases k2
  ·rw[l1] at l2;obtain rfl:=Option.some.inj l2
   have:=Kf c1 c2;cases this;rfl
theorem ZY.step{h h'}{ow'}(hA:Act c F h ow σ)(hcn:F.cenv=none)(hS:Z7 c h ow h' ow'){x}{v}(a:ZY F h x v):ZY F h' x v:=by
 have S:=hA.scp
 rw[hcn] at S
 obtain ⟨O,O,mm,S⟩:=S
 obtain ⟨m,n1,n0,h1⟩:=a
 have sim:∀ b o,ow b=.foreign->h.get? b=some o->∃ o',h'.get? b=some o'/\Sim o o':=fun b o hw e=>let ⟨o',e',k,_⟩:=hS.1.2 b o e (by rw[hw];nofun) (by rw[hw];nofun);⟨o',e',k⟩
 obtain ⟨o,es,ep,e0,O⟩:=id n1
 obtain ⟨o',e',k⟩:=sim _ o S.own e0
 refine ⟨m,k.ns e0 e' n1 n0,n0,?_⟩
 rcases h1 with h1|⟨k1,a1,l1,c1⟩
 ·exact .inl h1
 ·exact .inr ⟨k1,a1,l1,IsCell.sim c1 fun o e=>sim _ o (S.cells x a1 l1).2.2.1 e⟩
theorem YO{M}{x}{v}{p}{Q}(hAct:Act c F s.heap ow σ)(hcn:F.cenv=none)(ho:ZI F.env.kindOf x=true)(hv:ZY F s.heap x v)(h:Q v s):wpAny M A (eval (.Name x p) F.env) Q E s:=by
 have he:F.env=F.fenv:=by unfold Frm.env;rw[hcn];rfl
 have okE:=hAct.ok.1
 have hn:=Vz ho
 rw[he] at hn ⊢
 obtain ⟨m,n1,O,h1⟩:=hv
 refine wpAny_Name ?_ hn.2.1
 rcases h1 with ⟨k1,e1⟩|⟨k1,a1,l1,c1⟩
 ·exact wpAny_loadName_local okE.kind k1 n1 e1 h
 ·exact wpAny_loadName_cell okE.kind k1 l1 c1 h
theorem Wq{M}{x}{v}{Q}(hAct:Act c F s.heap ow σ)(hcn:F.cenv=none)(hv:ZY F s.heap x v)(h:Q v s):wpAny M A (loadName F.env x) Q E s:=by
 have he:F.env=F.fenv:=by unfold Frm.env;rw[hcn];rfl
 have okE:=hAct.ok.1
 rw[he]
 refine gG fun G gk=>?_
 obtain ⟨m,n1,O,h1⟩:=hv
 refine gk ?_
 rcases h1 with ⟨k1,e1⟩|⟨k1,a1,l1,c1⟩
 ·exact wpAny_loadName_local okE.kind k1 n1 e1 h
 ·exact wpAny_loadName_cell okE.kind k1 l1 c1 h
theorem Act.ownE{h h'}{ow'}{x}{v}{lv'}(hF:FOk F)(hA:Act c F h ow σ)(hcn:F.cenv=none)(hsz:h.objs.size<=h'.objs.size)(hot:∀ b o,ow b≠.slot x->ow b≠.tmp->h.get? b=some o->h'.get? b=some o)(hfm:∀ b o,h.get? b=some o->o.cls=.type "frame"->h'.get? b=some o)
  (how:∀ b,ow b≠.slot x->ow b≠.tmp->ow' b=ow b) (how2:∀ b,(ow b=.slot x\/ow b=.tmp)->(ow' b=.slot x\/ow' b=.tmp)) (hv:ZY F h x v) (hlv:ZK c h' ow' (.slot x) v lv') :
  Act c F h' ow' {σ with vars:=ZA x lv' σ.vars}/\SS F h ow h' ow':=by
 have iffP:∀ b,(ow' b=.poolP↔ow b=.poolP)/\(ow' b=.poolC↔ow b=.poolC):=fun b=>by
  by_cases q:ow b=.slot x\/ow b=.tmp
  ·have q':=how2 b q
   constructor
   ·constructor
    ·intro e;rcases q' with q'|q'<;>rw[e] at q'<;>cases q'
    ·intro e;rcases q with q|q<;>rw[e] at q<;>exact nomatch q
   ·constructor
    ·intro e;rcases q' with q'|q'<;>rw[e] at q'<;>cases q'
    ·intro e;rcases q with q|q<;>rw[e] at q<;>exact nomatch q
  ·rw[how b (fun e=>q (.inl e)) (fun e=>q (.inr e))];exact ⟨Iff.rfl,Iff.rfl⟩
 have le:YF ow ow':=fun b=>by
  by_cases q:ow b=.slot x\/ow b=.tmp
  ·rcases q with q|q<;>rw[q]<;>exact ⟨nofun,nofun,nofun⟩
  ·rw[how b (fun e=>q (.inl e)) (fun e=>q (.inr e))];exact ⟨id,id,id⟩
 have fo:∀ b,ow b=.foreign->ow' b=.foreign:=fun b e=>by rw[how b (by rw[e];nofun) (by rw[e];nofun)];exact e
 have kp:∀ b o,ow b=.foreign->h.get? b=some o->h'.get? b=some o:=fun b o e=>hot b o (by rw[e];nofun) (by rw[e];nofun)
 have hfz:∀ b o,ow b=.frozen->h.get? b=some o->∃ o',h'.get? b=some o'/\Sim o o':=fun b o hw e=>⟨o,hot b o (by rw[hw];nofun) (by rw[hw];nofun) e,.refl _⟩
 have S:=hA.scp
 rw[hcn] at S
 obtain ⟨s1,s2,mm,S⟩:=S
 refine ⟨⟨⟨Nat.le_trans hA.pres.1 hsz,fun b o e n1 n2=>?_⟩,fun b o e=>?_,hA.n0,fun b hb=>?_,fun b hb=>?_,?_,fun e he'=>?_,hA.head,hA.ok,?_⟩,hsz,fun b hb q=>?_,fun b hb=>⟨(iffP b).1.mpr,(iffP b).2.mpr⟩⟩
 ·obtain ⟨o2_,e2_,s2_,k2_⟩:=hA.pres.2 b o e (fun q=>n1 ((iffP b).1.mpr q)) (fun q=>n2 ((iffP b).2.mpr q))
  have hne:=hF b
  rw[<-hA.fix b (Heap.lt_size e)] at hne
  exact ⟨o2_,hot b o2_ (by rintro q;rw[q] at hne;cases hne) (by rintro q;rw[q] at hne;cases hne) e2_,s2_,k2_⟩
 ·have e2:=hA.h0 b o e
  have hlt:b < F.hb.objs.size:=Nat.lt_of_lt_of_le (Heap.lt_size e) hA.n0
  have hne:=hF b
  rw[<-hA.fix b hlt] at hne
  exact hot b o (by rintro q;rw[q] at hne;cases hne) (by rintro q;rw[q] at hne;cases hne) e2
 ·exact fo b (hA.new b (Nat.le_trans hsz hb))
 ·have hne:=hF b
  rw[<-hA.fix b hb] at hne
  rw[how b (by rintro q;rw[q] at hne;cases hne) (by rintro q;rw[q] at hne;cases hne)]
  exact hA.fix b hb
 ·exact hA.pool.grow (fun b o e q=>hot b o (by rcases q with q|q<;>rw[q]<;>nofun) (by rcases q with q|q<;>rw[q]<;>nofun) e) iffP
 ·obtain ⟨hk,L,o,es,n,hf,hg,hc,hd,hn⟩:=hA.frames e he'
  exact ⟨hk,L,o,es,n,hf,hfm L o hg hc,hc,hd,hn⟩
 ·rw[hcn]
  refine ⟨s1,s2,mm,S.ns.at' fun o e=>kp _ o S.own e,S.nsh,S.low,fo _ S.own,fun y k e=>?_,S.apart,fun y lw e=>?_⟩
  ·refine gG fun G gk=>?_
   obtain ⟨h1,h2,h3,w,h4⟩:=S.cells y k e
   refine gk ?_
   exact ⟨h1,h2,fo _ h3,w,IsCell.keep h4 fun o e=>kp _ o h3 e⟩
  ·by_cases q:y=x
   ·subst q
    dsimp only at e
    rw[ZU] at e;obtain rfl:=Option.some.inj e
    obtain ⟨m,n1,O,h1⟩:=hv
    refine ⟨v,?_,hlv⟩
    rcases h1 with ⟨k1,e1⟩|⟨k1,a1,l1,c1⟩
    ·exact .inl ⟨k1,by rw[<-e1];exact XY S.ns n1 y⟩
    ·exact .inr ⟨k1,a1,l1,IsCell.keep c1 fun o e=>kp _ o (S.cells y a1 l1).2.2.1 e⟩
   ·dsimp only at e
    rw[Ye _ q] at e
    obtain ⟨v',hv',hr⟩:=S.vars y lw e
    refine ⟨v',?_,hr.mono c (fun b o hw e=>⟨o,hot b o (by rw[hw];rintro ⟨⟩;exact q rfl) (by rw[hw];nofun) e,.refl _⟩) hfz le fun b hw O=>?_⟩
    ·rcases hv' with hv'|⟨h1,k,h2,h3⟩
     ·exact .inl hv'
     ·exact .inr ⟨h1,k,h2,IsCell.keep h3 fun o e=>kp _ o (S.cells y k h2).2.2.1 e⟩
    ·rw[how b (by rw[hw];rintro ⟨⟩;exact q rfl) (by rw[hw];nofun)];exact hw
 ·have q2:ow b≠.slot x/\ow b≠.tmp:=by rcases q with q|⟨q,O⟩<;>rw[q]<;>exact ⟨nofun,nofun⟩
  exact ⟨how b q2.1 q2.2,fun o e=>⟨o,hot b o q2.1 q2.2 e,.refl _⟩⟩
theorem Act.ownOne{h h'}{x}{v}{lv'}{a}{o}(hF:FOk F)(hA:Act c F h ow σ)(hcn:F.cenv=none)(hs:Heap.SameBut a h h')(ho:ow a=.slot x)(e:h.get? a=some o)(hc:o.cls≠.type "frame")(hv:ZY F h x v)(hlv:ZK c h' ow (.slot x) v lv') :
  Act c F h' ow {σ with vars:=ZA x lv' σ.vars}/\SS F h ow h' ow:=
 hA.ownE hF hcn (Nat.le_of_eq hs.1.symm) (fun b o' n1 O e'=>(hs.2 b (by rintro rfl;exact n1 ho)).trans e') (fun b o' e' hc'=>(hs.2 b (by rintro rfl;rw[e] at e';injection e' with e';subst e';exact hc hc')).trans e') (fun O O O=>rfl) (fun O q=>q) hv hlv
theorem Rep.one{h h'}{a}{w}{d}{o}(r:Rep c h ow w d)(hs:Heap.SameBut a h h')(ho:ow a=o)(hno:o≠.frozen):Rep c h' ow w d:=
 r.mono c (fun b ob hw e=>⟨ob,(hs.2 b (by rintro rfl;exact hno (ho.symm.trans hw))).trans e,.refl _⟩) (.refl _)
theorem Jv:seqSlot? (.type "list") (dunderI "add")=pure (some (.builtin "list.__iadd__")):=PySem.seqSlot_of PySem.F.slot_list_iadd.lookup (by decide +kernel)
theorem Z45{l b}{items items2}{n n2}{Q}(hl:IsL s.heap l items n)(hb:IsL s.heap b items2 n2)(hsz:items.size+items2.size<=sizeLine)
  (h:Q (.ref l) {s with heap:=s.heap.update l (Obj.mapSeq fun xs=>xs++items2)}):wpAny (MD c) A (inplaceOp .Add (.ref l) (.ref b)) Q E s:=by
 unfold inplaceOp
 refine wpAny_holding ?_
 have ha:s.TypeIs (.ref l) "list":=⟨_,hl,rfl⟩
 have hb':s.TypeIs (.ref b) "list":=⟨_,hb,rfl⟩
 have hfi:fillsInplaceSlot (.type "list") "add" (Operator.Add == .Add)=pure false:=by
  unfold fillsInplaceSlot
  show (typeLookup (.type "list") (dunderI "add") >>= fun fi=>pure (fi.isSome&&!isSeqSlot fi))=pure false
  rw[PySem.F.slot_list_iadd.lookup]
  show (pure (true&&!isSeqSlot (some (.builtin "list.__iadd__"))):Sem Bool)=pure false
  have:isSeqSlot (some (.builtin "list.__iadd__"))=true:=by decide +kernel
  rw[this];rfl
 refine wpAny_bind (wpAny_typeOf ha (wpAny_bind (wpAny_of_eq hfi ?_)))
 rw[if_neg Bool.false_ne_true]
 refine wpAny_bind (PySem.wpAny_binaryOp1_none (nm:="add") ha hb' PySem.noFill_list_add ?_)
 refine wpAny_bind (wpAny_of_eq Jv ?_)
 refine wpAny_bind (wpAny_rule (call_meets PySem.F.slot_list_iadd ha PySem.F.entry_list_iadd (PySem.F.args_list_iadd_2 _ _) (AutoSeq1.list___iadd___list_list_0 l items n b items2 n2 ?_ (by lia) (by lia)) ⟨hl,hb,h⟩))
 unfold Builtin.List.listTooLong
 simp only[Bool.and_eq_true,decide_eq_true_eq,not_and,Nat.not_lt]
 intro O
 first
  |lia
  |(rw[sizeLine_eq] at hsz;lia)
inductive Zcy(c:Cx)(h:Heap)(ow:Z5)(x:Str)(v:Value)(xs:List D):Prop
 |mk (a:Addr) (vs:Array Value) (n:Nat) (O:v=.ref a) (O:ow a=.slot x) (O:IsL h a vs n) (O:vs.size=xs.length) (O:xs.length<=LIM) (O:∀ (i:Nat) (v:Value) (d:D),vs[i]?=some v->xs[i]?=some d->Rep c h ow v d)
theorem ZY.list{h}{x}{v}{xs}(hA:Act c F h ow σ)(hcn:F.cenv=none)(hv:ZY F h x v)(hl:ZM x σ.vars=some (.ol xs)):Zcy c h ow x v xs:=by
 obtain ⟨v',h1,h2⟩:=hA.holds hcn hl
 cases hv.uniq h1
 obtain ⟨a,rfl,ho,hla⟩:=h2
 obtain ⟨vs,n,g1,g2,g3,g4⟩:=hla.isL
 exact ⟨a,vs,n,rfl,ho,g1,g2,g3,g4⟩
theorem Wr{h h'}{x}{a}{vs ws}{k k'}{ys}(hF:FOk F)(hA:Act c F h ow σ)(hcn:F.cenv=none)(hv:ZY F h x (.ref a))(ho:ow a=.slot x)(g:IsL h a vs k)(hs:Heap.SameBut a h h')(g':IsL h' a ws k')(hl:ws.size=ys.length)(hz:ys.length<=LIM)
  (hr:∀ (i:Nat) (v:Value) (d:D),ws[i]?=some v->ys[i]?=some d->Rep c h ow v d):Act c F h' ow {σ with vars:=ZA x (.ol ys) σ.vars}/\SS F h ow h' ow:=
 hA.ownOne hF hcn hs ho g (show Value.type "list"≠.type "frame" by decide) hv ⟨a,rfl,ho,.of_isL g' hl hz fun i v d e1 e2=>(hr i v d e1 e2).one hs ho nofun⟩
theorem X3.push{h:Heap}{vs:Array Value}{ds:List D}{v:Value}{d:D}(hs:vs.size=ds.length)(hr:∀ (i:Nat) (v:Value) (d:D),vs[i]?=some v->ds[i]?=some d->Rep c h ow v d)(hv:Rep c h ow v d) :
  (vs.push v).size=(ds++[d]).length/\∀ (i:Nat) (u:Value) (e:D),(vs.push v)[i]?=some u->(ds++[d])[i]?=some e->Rep c h ow u e:=by
 have:=X3.append (c:=c) (ow:=ow) (h:=h) (vs:=vs) (ws:=#[v]) (xs:=ds) (ys:=[d]) hs hr rfl fun i u e e1 e2=>by
  induction i with
  |zero=>simp at e1 e2;subst e1 e2;exact hv
  |succ i=>simp at e1
 exact this
theorem Z46(hA:Act c F s.heap ow σ)(hcn:F.cenv=none):interactive F.env=false:=by
 have he:F.env=F.fenv:=by unfold Frm.env;rw[hcn];rfl
 unfold interactive
 rw[he,hA.ok.1.kind];rfl
theorem Z2e{x}{a}{us}{ds xs ys}{Q:Flow->Shared->Prop}(hF:FOk F)(hcn:F.cenv=none)(hA:Act c F s.heap ow σ)(hv:ZY F s.heap x (.ref a))(hds:Zm c s.heap ow σ us ds)(hl:ZM x σ.vars=some (.ol xs))(hy:Z9k xs ds=some ys)
  (hP:Z2 c F (SS F) (ZV c) s.heap ow s (.ok .next {σ with vars:=ZA x (.ol ys) σ.vars}) Q E):wpAny (MD c) A (call (.builtin "list.append") (.ref a::us)) (fun O=>Q .next) E s:=by
 obtain ⟨a',vs,k,e,hoa,g1,g2,g3,g4⟩:=hv.list hA hcn hl
 cases e
 refine gG fun G gk=>?_
 obtain ⟨dd,rfl,e⟩:=YG hy
 obtain ⟨hlt,rfl⟩:=ZN e
 obtain ⟨v,rfl,hd⟩:=hds.one
 refine gk ?_
 have hz:vs.size<=sizeLine:=by rw[g2];exact Nat.le_trans (Nat.le_of_lt hlt) YM
 refine call_meets PySem.F.slot_list_append ⟨_,g1,rfl⟩ PySem.F.entry_list_append (PySem.F.args_list_append_2 _ _) (PySem.list_append a vs k v hz) ⟨g1,?_⟩
 refine gG fun G gk=>?_
 obtain ⟨r1,r2⟩:=X3.push g2 g4 hd
 obtain ⟨q1,q2⟩:=Wr (ys:=xs++[dd]) hF hA hcn hv hoa g1 (Heap.SameBut.update ..) (IsL.update g1 fun x=>x.push _) r1 (by rw[List.length_append];exact hlt) r2
 refine gk ?_
 exact hP .next _ ow s.toks q1 q2 rfl
theorem Z2f{x}{a}{us}{ds xs ys}{Q}(hF:FOk F)(hcn:F.cenv=none)(hA:Act c F s.heap ow σ)(hv:ZY F s.heap x (.ref a))(hds:Zm c s.heap ow σ us ds)(hl:ZM x σ.vars=some (.ol xs))(hy:Z9l xs ds=some ys)
  (hP:Z2 c F (SS F) (ZV c) s.heap ow s (.ok .next {σ with vars:=ZA x (.ol ys) σ.vars}) Q E):wpAny (MD c) A (call (.builtin "list.extend") (.ref a::us)) (fun O=>Q .next) E s:=by
 obtain ⟨a',vs,k,e,hoa,g1,g2,g3,g4⟩:=hv.list hA hcn hl
 cases e
 refine gG fun G gk=>?_
 obtain ⟨b,zs,rfl,hlb,e⟩:=hds.list1 hy
 obtain ⟨hlt,rfl⟩:=ZN e
 obtain ⟨ws,kb,w1,w2,w3,w4⟩:=hlb.isL
 refine gk ?_
 have hz2:vs.size+ws.size<=LIM:=by rw[g2,w2];exact hlt
 have hz:vs.size+ws.size<=sizeLine:=Nat.le_trans hz2 YM
 refine call_meets PySem.F.slot_list_extend ⟨_,g1,rfl⟩ PySem.F.entry_list_extend (PySem.F.args_list_extend_2 _ _) (AutoSeq1.list_extend_list_list_0 a vs k b ws kb ?_ (by lia) (by lia)) ⟨g1,w1,?_⟩
 ·unfold Builtin.List.listTooLong
  simp only[Bool.and_eq_true,decide_eq_true_eq,not_and,Nat.not_lt]
  intro O
  first
   |lia
   |(rw[sizeLine_eq] at hz;lia)
 ·obtain ⟨r1,r2⟩:=X3.append g2 g4 w2 w4
  obtain ⟨q1,q2⟩:=Wr (ys:=xs++zs) hF hA hcn hv hoa g1 (Heap.SameBut.update ..) (IsL.update g1 fun x=>x++ws) r1 (by rw[List.length_append];exact hlt) r2
  exact hP .next _ ow s.toks q1 q2 rfl
theorem Z2g{x}{a}{us}{ds xs ys}{Q}(hF:FOk F)(hcn:F.cenv=none)(hA:Act c F s.heap ow σ)(hv:ZY F s.heap x (.ref a))(hds:Zm c s.heap ow σ us ds)(hl:ZM x σ.vars=some (.ol xs))(hy:Zbp xs ds=some ys)
  (hP:Z2 c F (SS F) (ZV c) s.heap ow s (.ok .next {σ with vars:=ZA x (.ol ys) σ.vars}) Q E):wpAny (MD c) A (call (.builtin "list.reverse") (.ref a::us)) (fun O=>Q .next) E s:=by
 obtain ⟨a',vs,k,e,hoa,g1,g2,g3,g4⟩:=hv.list hA hcn hl
 cases e
 obtain ⟨rfl,rfl⟩:=ZN hy
 obtain rfl:=hds.nil
 have hz:vs.size<=sizeLine:=by rw[g2];exact Nat.le_trans g3 YM
 refine call_meets PySem.F.slot_list_reverse ⟨_,g1,rfl⟩ PySem.F.entry_list_reverse (PySem.F.args_list_reverse_1 _) (AutoListH.list_reverse_list_0 a vs k hz) ⟨g1,?_⟩
 obtain ⟨r1,r2⟩:=X3.rev g2 g4
 have er:vs.reverse=vs.toList.reverse.toArray:=by rw[<-Array.toList_reverse]
 obtain ⟨q1,q2⟩:=Wr hF hA hcn hv hoa g1 (Heap.SameBut.update ..) (IsL.update g1 fun x=>x.reverse) (by rw[er];exact r1) (by simpa using g3) (er▸r2)
 exact hP .next _ ow s.toks q1 q2 rfl
theorem Z6v(hE:EvS c I n)(hA:AOk n A F)(hF:FOk F)(hcn:F.cenv=none){x mn}{xp ap p pos}{args}{Q}(hx:ZI F.env.kindOf x=true)(hs:args.all Zz=true)(ho:args.all (okE m false F.env.kindOf)=true)(hlen:args.length < 30)(hline:(ap.endLine == p.line)=true)(hAct:Act c F s.heap ow σ)
  (hP:Z2 c F (SS F) (ZV c) s.heap ow s (Uh I x mn args σ) Q E):wpAny (MD c) A (exec (.Expr (.Call (.Attribute (.Name x xp) mn ap) args [] p) pos) F.env) Q E s:=by
 obtain ⟨xs0,hlx,hP⟩:=Z2.opt hP
 have hlx:=Ug hlx
 by_cases hmn:Z4w mn=true
 case neg=>rw[if_neg hmn] at hP;exact hP.elim
 rw[if_pos hmn] at hP
 refine wpAny_Expr_any ?_ (Z46 hAct hcn) rfl
 obtain ⟨v,hv,O⟩:=hAct.holds hcn hlx
 obtain ⟨a,vs,k,rfl,hoa,g1,g2,g3,g4⟩:=hv.list hAct hcn hlx
 refine wpAny_Call_method_late (Xe rfl) ?_ hline (ZZ hs) (YO hAct hcn hx hv ?_)
 ·rw[ZZ hs]
  simp only[List.all_map,Function.comp_def,Bool.not_false,List.all_eq_true,Bool.and_eq_true,decide_eq_true_eq]
  simp[hlen]
  intro a b h
  have e:backToKw p (keywordEach [] F.env)=[]:=rfl
  rw[e] at h
  exact nomatch h
 ·have fin:∀ id,Slot "list" mn id->typeOf (.builtin id)=pure (.type "method_descriptor") ->
    (∀ (q0:Shared) (ow1:Z5) (s1_:St) ds us xs ys,Act c F q0.heap ow1 s1_->ZY F q0.heap x (.ref a)->Zm c q0.heap ow1 s1_ us ds->ZM x s1_.vars=some (.ol xs)->Z2A mn xs ds=some ys->Z2 c F (SS F) (ZV c) q0.heap ow1 q0 (.ok .next {s1_ with vars:=ZA x (.ol ys) s1_.vars}) Q E ->
     wpAny (MD c) A (call (.builtin id) (.ref a::us)) (fun O=>Q .next) E q0)->MethodOn PRG c.w A mn p (.ref a) (args.map fun e=>(false,eval e F.env)) (fun O=>Q .next) E s:=by
   intro id slot hty hc
   refine ⟨"list",id,PySem.F.plainAttrs_list,slot,hty,⟨_,g1,rfl⟩,fun b q=>by injection q with q;subst q;exact ⟨_,g1,rfl⟩,?_⟩
   refine callWith_builtin (Y9 _ _) (Yb (Xd hE hA hF args s ow σ _ (by rw[hcn];exact ho) hAct (Z2.exprAt hP fun ds s1_ us h1_ ow1 tk1 hA1 hS1 hr hP1_=>?_)))
   obtain ⟨xs,hl1,hP2_⟩:=Z2.opt hP1_
   obtain ⟨ys,hy,hP3⟩:=Z2.opt hP2_
   exact hc {s with heap:=h1_,toks:=tk1} ow1 s1_ ds us xs ys hA1 (hv.step hAct hcn hS1) hr (Ug hl1) hy hP3
  rcases (Bool.or_eq_true_iff.mp hmn).imp_left Bool.or_eq_true_iff.mp with (q|q)|q
  ·obtain rfl:=of_decide_eq_true q
   exact fin "list.append" PySem.F.slot_list_append PySem.F.type_list_append fun q0 ow1 s1_ ds us xs ys hA1 hv1 hds hl1_ hy hP1_=>Z2e hF hcn hA1 hv1 hds hl1_ hy hP1_
  ·obtain rfl:=of_decide_eq_true q
   exact fin "list.extend" PySem.F.slot_list_extend PySem.F.type_list_extend fun q0 ow1 s1_ ds us xs ys hA1 hv1 hds hl1_ hy hP1_=>Z2f hF hcn hA1 hv1 hds hl1_ hy hP1_
  ·obtain rfl:=of_decide_eq_true q
   exact fin "list.reverse" PySem.F.slot_list_reverse PySem.F.type_list_reverse fun q0 ow1 s1_ ds us xs ys hA1 hv1 hds hl1_ hy hP1_=>Z2g hF hcn hA1 hv1 hds hl1_ hy hP1_
theorem Z1a{x}{v}{Q}(hAct:Act c F s.heap ow σ)(hcn:F.cenv=none)(hx:Zw F.env.kindOf x=true)(hv:ZY F s.heap x v)
  (k:∀ h' tk,Act c F h' ow σ->SS F s.heap ow h' ow->Q () {s with heap:=h',toks:=tk}):wpAny (MD c) A (storeName F.env x v) Q E s:=by
 have he:F.env=F.fenv:=by unfold Frm.env;rw[hcn];rfl
 have okE:=hAct.ok.1
 rw[he] at hx
 have hst:=Z0Y okE hx
 have S:=hAct.scp
 rw[hcn] at S
 obtain ⟨s1,s2,mm,S⟩:=S
 have turn:∀ {h':Heap} {a0:Addr} {m':Str->Option Value},Heap.SameBut a0 s.heap h'->F.hb.objs.size<=a0->ow a0=.foreign->(a0=F.fenv.locals\/∃ y,F.fenv.cells.lookup y=some a0)->(∀ o,s.heap.get? a0=some o->∃ o',h'.get? a0=some o'/\o'.cls=o.cls/\((∃ es n,o.data=.dict es n)->∃ es n,o'.data=.dict es n)) ->
   (∀ y w,Z32 s.heap F.fenv mm y w->Z32 h' F.fenv m' y w)->h'.Ns F.fenv.locals m'->m' "shared"=none->(∀ y k,F.fenv.cells.lookup y=some k->∃ w,h'.IsCell k w)->Act c F h' ow σ/\SS F s.heap ow h' ow:=by
  intro h' a0 m' hs hlo hfo hx hfr hva hns hsh hcl
  have hot:∀ b o,b≠a0->s.heap.get? b=some o->h'.get? b=some o:=fun b o hb e=>(hs.2 b hb).trans e
  refine ⟨⟨⟨by rw[hs.1];exact hAct.pres.1,fun b o e n1 n2=>?_⟩,fun b o e=>?_,hAct.n0,fun b hb=>hAct.new b (by rw[hs.1] at hb;exact hb),hAct.fix,?_,fun e he'=>?_,hAct.head,hAct.ok,?_⟩,Nat.le_of_eq hs.1.symm,fun b hb q=>?_,fun O O=>⟨id,id⟩⟩
  ·obtain ⟨o2_,e2_,s2_,k2_⟩:=hAct.pres.2 b o e n1 n2
   exact ⟨o2_,hot b o2_ (Nat.ne_of_lt (Nat.lt_of_lt_of_le (Heap.lt_size e) hlo)) e2_,s2_,k2_⟩
  ·exact hot b o (Nat.ne_of_lt (Nat.lt_of_lt_of_le (Heap.lt_size e) (Nat.le_trans hAct.n0 hlo))) (hAct.h0 b o e)
  ·exact hAct.pool.grow (fun b o e q=>hot b o (by rintro rfl;rw[hfo] at q;rcases q with q|q<;>cases q) e) fun O=>⟨Iff.rfl,Iff.rfl⟩
  ·obtain ⟨hk,L,o,es,n,hf,hg,hc,hd,hn⟩:=hAct.frames e he'
   by_cases q:L=a0
   ·subst q
    obtain ⟨o',hg',h1,h2⟩:=hfr o hg
    obtain ⟨es',n',h3⟩:=h2 ⟨es,n,hd⟩
    exact ⟨hk,L,o',es',n',hf,hg',h1.trans hc,h3,hn⟩
   ·exact ⟨hk,L,o,es,n,hf,hot L o q hg,hc,hd,hn⟩
  ·rw[hcn]
   refine ⟨s1,s2,m',hns,hsh,S.low,S.own,fun y k e=>?_,S.apart,fun y lw e=>?_⟩
   ·obtain ⟨h1,h2,h3,O⟩:=S.cells y k e
    exact ⟨h1,h2,h3,hcl y k e⟩
   ·refine gG fun G gk=>?_
    obtain ⟨w,hw,hr⟩:=S.vars y lw e
    refine gk ?_
    exact ⟨w,hva y w hw,hr.mono c (fun b o hw e=>⟨o,hot b o (by rintro rfl;rw[hfo] at hw;cases hw) e,.refl _⟩) (fun b o hw e=>⟨o,hot b o (by rintro rfl;rw[hfo] at hw;cases hw) e,.refl _⟩) (.refl _) fun b hw O=>hw⟩
  ·refine ⟨rfl,fun o e=>⟨o,hot b o ?_ e,.refl _⟩⟩
   rintro rfl
   rcases q with q|⟨O,q1,q2⟩
   ·rw[hfo] at q;cases q
   ·rw[he] at q1 q2
    rcases hx with hx|⟨y,hx⟩
    ·exact q1 hx
    ·exact q2 y hx
 rw[he]
 obtain ⟨m,n1,n0,hv⟩:=hv
 rcases hst.2 with q|⟨q,q'⟩
 ·rcases hv with ⟨O,e1⟩|⟨k1,O⟩
  case inr=>rw[q] at k1;cases k1
  refine Xp okE.kind q S.ns fun h' hn hs ho=>?_
  have hm:(fun y=>if y=x then some v else mm y)=mm:=by
   funext y
   split
   ·rename _=>e;subst e;rw[<-e1];exact (XY S.ns n1 y).symm
   ·rfl
  rw[hm] at hn
  obtain ⟨a,b⟩:=turn (m':=mm) hs S.low S.own (.inl rfl) (fun o e=>let ⟨o',e',c1,_,_,es,n,d⟩:=ho o e;⟨o',e',c1,fun O=>⟨es,n,d⟩⟩) (fun y w hw=>by
   rcases hw with hw|⟨h1,k,h2,h3⟩
   ·exact .inl hw
   ·exact .inr ⟨h1,k,h2,h3.sameBut hs (S.cells y k h2).2.1⟩) hn S.nsh (fun y k e=>by obtain ⟨O,h2,O,w,h4⟩:=S.cells y k e;exact ⟨w,h4.sameBut hs h2⟩)
  exact k h' _ a b
 ·obtain ⟨kk,hl⟩:=Option.isSome_iff_exists.mp q'
  rcases hv with ⟨k1,O⟩|⟨O,a1,l1,c1⟩
  ·rw[q] at k1;cases k1
  rw[hl] at l1;obtain rfl:=Option.some.inj l1
  obtain ⟨k1,k2,k3,w,k4⟩:=S.cells x kk hl
  refine UF okE.kind q hl k4 fun h' hn hs ho=>?_
  obtain ⟨a,b⟩:=turn (m':=mm) hs k1 k3 (.inr ⟨x,hl⟩) (fun o e=>let ⟨o',e',c1,d⟩:=ho o e;⟨o',e',c1,fun ⟨es,n,hd⟩=>absurd hd (d es n)⟩) (fun y w hw=>by
   rcases hw with hw|⟨h1,k,h2,h3⟩
   ·exact .inl hw
   ·by_cases qq:k=kk
    ·subst qq
     have:=Kf h3 c1;obtain rfl:=Option.some.inj this
     exact .inr ⟨h1,k,h2,hn⟩
    ·exact .inr ⟨h1,k,h2,h3.sameBut hs qq⟩) (S.ns.sameBut hs (Ne.symm k2)) S.nsh (fun y k e=>by
     obtain ⟨O,h2,O,w,h4⟩:=S.cells y k e
     by_cases qq:k=kk
     ·subst qq;exact ⟨_,hn⟩
     ·exact ⟨w,h4.sameBut hs qq⟩)
  exact k h' _ a b
theorem PostF.ite{p} [Decidable p] {o} {Q} (hP:Z2 c F (SS F) (ZV c) s.heap ow s (if p then o else .stuck) Q E):p/\Z2 c F (SS F) (ZV c) s.heap ow s o Q E:=by
 by_cases h:p
 ·rw[if_pos h] at hP;exact ⟨h,hP⟩
 ·rw[if_neg h] at hP;exact hP.elim
theorem Z8l(hE:EvS c I n)(hA:AOk n A F)(hF:FOk F)(hcn:F.cenv=none){x}{xp pos}{op}{e}{Q}(ho:okE (m+1) false F.env.kindOf e=true)(hx:Zw F.env.kindOf x=true)(hAct:Act c F s.heap ow σ)
  (hP:Z2 c F (SS F) (ZV c) s.heap ow s (Z0e I x op e σ) Q E):wpAny (MD c) A (exec (.AugAssign (.Name x xp) op e pos) F.env) Q E s:=by
 obtain ⟨lv,hl,hP⟩:=Z2.opt hP
 induction lv with
 |fr d=>
  obtain ⟨a,ha,hP⟩:=Z2.opt hP
  obtain ⟨v,hv,hr⟩:=hAct.holds hcn hl
  have hr:Rep c s.heap ow v d:=hr
  rw[D.i?_of ha] at hr
  obtain ⟨t,rfl⟩:=hr.out
  refine wpAny_AugAssign_Name (Wq hAct hcn hv (hE (m+1) e A F s ow σ E _ (by rw[hcn];exact ho) hA hF hAct (Z2.exprAt hP fun r s1_ w h1_ ow1 tk1 hA1 hS1 hw hP1_=>?_)))
  obtain ⟨nn,hn,hP2_⟩:=Z2.opt hP1_
  obtain ⟨b,hb,hn⟩:=Option.bind_eq_some_iff.mp hn
  obtain ⟨u,rfl⟩:=hw.v.int (D.i?_of hb)
  have st:=Yo (A:=A) (s:={s with heap:=h1_,toks:=tk1+1}) (Q:=fun O=>Q .next) (E:=E) (lv:=.fr (.int nn)) (v:=.int nn tk1) hF hA1 hcn hx (ZK.fr (.int _ _)) fun h' ow' tk q1 q2=>hP2_ .next h' ow' tk q1 q2 rfl
  induction op with
  |Add=>injection hn with hn;subst hn;exact P.iadd_int st
  |Sub=>cases hn;exact P.isub_int st
  |_=>first|exact Z3 hn|exact Z4 hn|cases hn
 |od=>exact hP.elim
 |ov=>exact hP.elim
 |ol xs0=>
  by_cases hop:op=.Add
  case neg=>have hP:=(show Z2 c F (SS F) (ZV c) s.heap ow s (if op=.Add then (frz (I.ev e σ)).bind (Z9m x) else .stuck) Q E from hP);rw[if_neg hop] at hP;exact hP.elim
  subst hop
  obtain ⟨v,hv,hr⟩:=hAct.holds hcn hl
  refine wpAny_AugAssign_Name (Wq hAct hcn hv (hE (m+1) e A F s ow σ E _ (by rw[hcn];exact ho) hA hF hAct (Z2.frzAt (f:=Z9m x) hF hP fun d s1_ w h1_ ow1 tk1 hA1 hS1 hw hP1_=>?_)))
  have hv1:=hv.step hAct hcn hS1
  obtain ⟨xs,hl1_,hP2_⟩:=Z2.opt hP1_
  have hl1_:=Ug hl1_
  obtain ⟨ys,hy,hP3⟩:=Z2.opt hP2_
  rw[D.l?_of hy] at hw
  obtain ⟨hlim,hP4⟩:=PostF.ite (s:={s with heap:=h1_,toks:=tk1}) hP3
  obtain ⟨a,vs,k,rfl,hoa,g1,g2,g3,g4⟩:=hv1.list hA1 hcn hl1_
  obtain ⟨b,rfl,O,hlb⟩:=hw.out
  obtain ⟨ws,kb,w1,w2,w3,w4⟩:=Y6.isL hlb
  have hz2:vs.size+ws.size<=LIM:=by rw[g2,w2];exact hlim
  refine Z45 (s:={s with heap:=h1_,toks:=tk1}) g1 w1 (Nat.le_trans hz2 YM) ?_
  obtain ⟨r1,r2⟩:=X3.append g2 g4 w2 w4
  obtain ⟨q1,q2⟩:=Wr (ys:=xs++ys) hF hA1 hcn hv1 hoa g1 (Heap.SameBut.update ..) (IsL.update g1 fun x=>x++ws) r1 (by rw[List.length_append];exact hlim) r2
  have hv2:ZY F (h1_.update a (Obj.mapSeq fun x=>x++ws)) x (.ref a):=by
   obtain ⟨v',hv',O⟩:=q1.holds hcn (ZU x (.ol (xs++ys)) s1_.vars)
   have hsb:=Heap.SameBut.update (h:=h1_) (a:=a) (f:=Obj.mapSeq fun x=>x++ws)
   obtain ⟨m,n1,n0,hva⟩:=hv1
   have S:=hA1.scp
   rw[hcn] at S
   obtain ⟨O,O,mm,S⟩:=S
   refine ⟨m,n1.sameBut hsb (by rintro rfl;rw[S.own] at hoa;exact nomatch hoa),n0,?_⟩
   rcases hva with hva|⟨z1,z2,z3,z4⟩
   ·exact .inl hva
   ·exact .inr ⟨z1,z2,z3,z4.sameBut hsb (by rintro rfl;have:=(S.cells x _ z3).2.2.1;rw[hoa] at this;cases this)⟩
  exact Z1a (s:={s with heap:=h1_.update a (Obj.mapSeq fun x=>x++ws),toks:=tk1}) q1 hcn hx hv2 fun h' tk p1 p2=>hP4 .next h' ow1 tk p1 (q2.trans p2) rfl
theorem Z6w{i}{d}{Q}(hAct:Act c F s.heap ow σ)(hcn:F.cenv=none)(ho:Z6r F.env.kindOf i=true)(hi:Z6V i σ=some d)
  (k:∀ v tk,Rep c s.heap ow v d->Q v {s with toks:=tk}):wpAny (MD c) A (eval i F.env) Q E s:=by
 unfold Z6V at hi
 generalize bv i=w at hi
 induction w with
 |con q O U=>
  induction q with
  |none=>obtain rfl:=Option.some.inj hi;exact wpAny_Constant_none (k _ s.toks .none)
  |bool b=>obtain rfl:=Option.some.inj hi;exact wpAny_Constant_bool (k _ s.toks (.bool _))
  |int b=>obtain rfl:=Option.some.inj hi;exact wpAny_Constant_int (k _ (s.toks+1) (.int _ _))
  |str b=>obtain rfl:=Option.some.inj hi;exact wpAny_Constant_str (k _ (s.toks+1) (.str _ _))
  |_=>exact Z3 hi
 |nam y p=>
  obtain ⟨lv,hl,h2⟩:=Option.bind_eq_some_iff.mp hi
  obtain rfl:=LV.fr?_of h2
  obtain ⟨v,hv,hr⟩:=hAct.holds hcn hl
  exact YO hAct hcn ho hv (k v s.toks hr)
 |_=>exact Z3 hi
theorem Kg{e}{o i}{p}{l}{env}:swapsWith e (some (.Subscript o i p)) l env=pure false:=by
 cases e<;>rfl
noncomputable def Z47(k:Str)(v:Value):List (Str × Value)->List (Str × Value):=fun O=>match O with
 |[]=>[(k,v)]
 |(y,w)::r=>if k=y then (y,v)::r else (y,w)::Z47 k v r
theorem Z6x{k v y w r}:Z47 k v ((y,w)::r)=if k=y then (y,v)::r else (y,w)::Z47 k v r:=rfl
theorem Kh(k)(v):∀ kvs:List (Str × Value),(kvs.map (fun O=>O.1)).Nodup->stored kvs k v=Z47 k v kvs:=fun O U=>match O,U with
 |[],O=>rfl
 |(y,w)::r,hn=>by
  rw[List.map_cons,List.nodup_cons] at hn
  have ih:=Kh k v r hn.2
  rw[Z6x]
  by_cases q:k=y
  ·subst q
   rw[if_pos rfl]
   unfold stored
   rw[if_pos (by simp)]
   rw[List.map_cons,if_pos rfl]
   congr 1
   have:∀ x∈r,(if x.1=k then (x.1,v) else x)=x:=fun x hx=>if_neg fun (e:x.1=k)=>hn.1 (List.mem_map.mpr ⟨x,hx,e⟩)
   simp only[List.map_congr_left this,List.map_id']
  ·rw[if_neg q,<-ih]
   have q':¬ y=k:=fun e=>q e.symm
   unfold stored
   simp only[List.any_cons,q',decide_false,Bool.false_or,List.map_cons,if_false,List.cons_append]
   split<;>rfl
theorem Z2h{P:Value->D->Prop}{k}{v}{d}(hv:P v d)(vvs:List (Str × Value)):∀ (kvs:List (Str × D)),vvs.map (fun O=>O.1)=kvs.map (fun O=>O.1)->(∀ (i:Nat) (p:Str × Value) (q:Str × D),vvs[i]?=some p->kvs[i]?=some q->P p.2 q.2) ->
  (Z47 k v vvs).map (fun O=>O.1)=(YC k d kvs).map (fun O=>O.1)/\∀ (i:Nat) (p:Str × Value) (q:Str × D),(Z47 k v vvs)[i]?=some p->(YC k d kvs)[i]?=some q->P p.2 q.2:=by
 induction vvs with
 |nil=>
  intro kvs h O
  obtain rfl:=List.map_eq_nil_iff.mp h.symm
  refine ⟨rfl,fun i p q e1 e2=>?_⟩
  induction i with
  |zero=>cases e1;injection e2 with e2;subst e2;exact hv
  |succ i=>cases e1
 |cons w vvs ih=>
  intro kvs h hr
  obtain ⟨e,kvs,rfl,h1,h2⟩:=List.map_eq_cons_iff.mp h.symm
  obtain ⟨i1,i2⟩:=ih kvs h2.symm fun i p q e1 e2=>hr (i+1) p q e1 e2
  obtain ⟨y,w⟩:=w
  obtain ⟨z,e⟩:=e
  obtain rfl:z=y:=h1
  rw[Z6x,Vq]
  by_cases q:k=z
  ·rw[if_pos q,if_pos q]
   refine ⟨congrArg (z::·) h2.symm,fun i p q e1 e2=>?_⟩
   induction i with
   |zero=>cases e1;injection e2 with e2;subst e2;exact hv
   |succ i=>exact hr (i+1) p q e1 e2
  ·rw[if_neg q,if_neg q]
   refine ⟨congrArg (z::·) i1,fun i p q e1 e2=>?_⟩
   induction i with
   |zero=>exact hr 0 p q e1 e2
   |succ i=>exact i2 i p q e1 e2
theorem Ki{k}{d}:∀ (kvs:List (Str × D)),(∀ x,x∈(YC k d kvs).map (fun O=>O.1)->x=k\/x∈kvs.map (fun O=>O.1))/\(YC k d kvs).length<=kvs.length+1:=fun O=>match O with
 |[]=>⟨fun x hx=>.inl (List.mem_singleton.mp hx),Nat.le_refl _⟩
 |(y,w)::r=>by
  obtain ⟨i1,i2⟩:=Ki (k:=k) (d:=d) r
  rw[Vq]
  by_cases q:k=y
  ·rw[if_pos q];exact ⟨fun x hx=>.inr hx,by simp⟩
  ·rw[if_neg q]
   refine ⟨fun x hx=>?_,by simpa using i2⟩
   simp only[List.map_cons,List.mem_cons] at hx ⊢
   rcases hx with hx|hx
   ·exact .inr (.inl hx)
   ·rcases i1 x hx with q|q
    ·exact .inl q
    ·exact .inr (.inr q)
theorem Z1b{a}{kvs}{key v}{t}{k}{d}{Q}(hd:DictAt c s.heap ow a kvs)(hlt:kvs.length < LIM)(hk:k≠("shared":Str))(hr:Rep c s.heap ow v d)(hkey:key=.str k t)
  (hna:ow a≠.frozen) (h:∀ h',DictAt c h' ow a (YC k d kvs)->Heap.SameBut a s.heap h'->Q () {s with heap:=h',toks:=s.toks+1}):wpAny (MD c) A (setItem (.ref a) key v) Q E s:=by
 obtain ⟨vvs,h1,h2,h3,h4,h5,h6⟩:=hd.pairs
 have hn:(vvs.map (fun O=>O.1)).Nodup:=by obtain ⟨O,O,O,O,O,O,O,O,hn⟩:=h1;exact hn
 have hlen:vvs.length=kvs.length:=by have:=congrArg List.length h3;simpa using this
 subst hkey
 refine wpAny_setItem_pairs (knd:=strKind PRG c.w) (k:=k) (strKind_is _ _ _ _) h1 (fun h' hd' hs=>?_) (Nat.le_trans (by rw[hlen];exact Nat.le_of_lt hlt) YM)
 rw[Kh k v vvs hn] at hd'
 obtain ⟨g1,g2⟩:=Z2h (P:=Rep c s.heap ow) (k:=k) hr vvs kvs h3 fun i p q e1 e2=>(h6 i p q e1 e2).2
 obtain ⟨g3,g4⟩:=Ki (k:=k) (d:=d) kvs
 refine h h' (DictAt.of_pairs hd' h2 g1 (Nat.le_trans g4 hlt) (fun x hx=>?_) fun i p q e1 e2=>(g2 i p q e1 e2).mono c (fun b o hw e=>⟨o,(hs.2 b (by rintro rfl;exact hna hw)).trans e,.refl _⟩) (.refl _)) hs
 rcases g3 x hx with q|q
 ·rw[q];exact hk
 ·exact h5 x q
theorem Z2i{x}{xs}{k d}{w iv v}{tk}{Q}(hF:FOk F)(hcn:F.cenv=none)(hA:Act c F s.heap ow σ)(hl:ZM x σ.vars=some (.ol xs))(hv:ZY F s.heap x w)(hiv:Rep c s.heap ow iv k)(hr:Rep c s.heap ow v d)
  (hP:Z2 c F (SS F) (ZV c) s.heap ow s (asgL x xs k d σ) Q E):wpAny (MD c) A (setItem w iv v) (fun O=>Q .next) E {s with toks:=tk}:=by
 obtain ⟨n,e,hP⟩:=Z2.opt hP
 rw[D.i?_of e] at hiv
 obtain ⟨t,rfl⟩:=hiv.out
 obtain ⟨hk,hP⟩:=PostF.ite hP
 obtain ⟨a,vs,kk,rfl,hoa,g1,g2,g3,g4⟩:=hv.list hA hcn hl
 have hlim:xs.length<=1048576:=g3
 refine ki_setAt (s:={s with toks:=tk}) g1 hk.1 (by lia) (by rw[g2];exact hk.2) ?_
 obtain ⟨q1,q2⟩:=Wr (ys:=xs.set n.toNat d) hF hA hcn hv hoa g1 (Heap.SameBut.update ..) (IsL.update g1 fun x=>x.setIfInBounds n.toNat v) (by simp[g2]) (by simpa using g3) (fun j u e e1 e2=>by
  rw[Array.getElem?_setIfInBounds] at e1
  rw[List.getElem?_set] at e2
  by_cases q:n.toNat=j
  ·rw[if_pos q] at e1 e2
   obtain ⟨O,rfl⟩:=ZN e1
   obtain ⟨O,rfl⟩:=ZN e2
   exact hr
  ·rw[if_neg q] at e1 e2
   exact g4 j u e e1 e2)
 exact hP .next _ ow tk q1 q2 rfl
theorem Z2j{x}{kvs}{k d}{w iv v}{tk}{Q}(hF:FOk F)(hcn:F.cenv=none)(hA:Act c F s.heap ow σ)(hv:ZY F s.heap x w)(hrep:ZK c s.heap ow (.slot x) w (.od kvs))(hiv:Rep c s.heap ow iv k)(hr:Rep c s.heap ow v d)
  (hP:Z2 c F (SS F) (ZV c) s.heap ow s (Zbl x kvs k d σ) Q E):wpAny (MD c) A (setItem w iv v) (fun O=>Q .next) E {s with toks:=tk}:=by
 obtain ⟨n,e,hP⟩:=Z2.opt hP
 rw[D.s?_of e] at hiv
 obtain ⟨t,rfl⟩:=hiv.out
 obtain ⟨hk,hP⟩:=PostF.ite hP
 obtain ⟨a,rfl,hoa,hda⟩:=hrep
 refine Z1b (s:={s with toks:=tk}) hda hk.1 hk.2 hr rfl (by rw[hoa];nofun) fun h' hd' hs=>?_
 obtain ⟨ob,O,O,e0,he0,O⟩:=id hda
 obtain ⟨q1,q2⟩:=hA.ownOne hF hcn hs hoa e0 (by rw[he0.1.1];decide) hv (lv':=.od (YC n d kvs)) ⟨a,rfl,hoa,hd'⟩
 exact hP .next _ ow _ q1 q2 rfl
theorem Z2k{k d}{w iv v}{tk}{Q}(hA:Act c F s.heap ow σ)(hrep:Rep c s.heap ow w .pool)(hiv:Rep c s.heap ow iv k)(hr:Rep c s.heap ow v d)
  (hP:Z2 c F (SS F) (ZV c) s.heap ow s (Z9j k d σ) Q E):wpAny (MD c) A (setItem w iv v) (fun O=>Q .next) E {s with toks:=tk}:=by
 obtain ⟨n,e1,hP⟩:=Z2.opt hP
 obtain ⟨u,e2,hP⟩:=Z2.opt hP
 obtain ⟨p,hpl,hP⟩:=Z2.opt hP
 rw[D.i?_of e1] at hiv
 obtain ⟨t,rfl⟩:=hiv.out
 rw[D.i?_of e2] at hr
 obtain ⟨tv,rfl⟩:=hr.out
 obtain ⟨P,rfl,hoP⟩:=hrep.out
 have hpr:=hA.pool
 rw[hpl] at hpr
 obtain ⟨P',C,oP,oC,t1,t2,vs,w1,w2,u1,u2,n1,n2,gP,lP,gC,lC,hi1,hi2⟩:=hpr
 obtain rfl:=u1 P hoP
 obtain ⟨oPc,⟨oPd,oPs⟩,nP,oPda⟩:=lP
 have gP':s.heap.get? P=some (listOf #[.ref C,.int p.a t1,.int p.b t2] nP):=by
  obtain ⟨a1,a2,a3,a4⟩:=oP
  dsimp only at oPc oPd oPs oPda
  simp only[gP,oPc,oPd,oPs,oPda]
 have hPC:C≠P:=by rintro rfl;rw[w1] at w2;cases w2
 have fin:∀ (j:Nat) (p':Z8),j < 3->(∃ z1 z2,(#[Value.ref C,.int p.a t1,.int p.b t2].setIfInBounds j (.int u tv))=#[Value.ref C,.int p'.a z1,.int p'.b z2])->p'.cells=p.cells->n=j->Z2 c F (SS F) (ZV c) s.heap ow s (.ok .next {σ with pl:=some p'}) Q E ->
   wpAny (MD c) A (setItem (.ref P) (.int n t) (.int u tv)) (fun O=>Q .next) E {s with toks:=tk}:=by
  intro j p' hj hh hcs hn hP2_
  subst hn
  obtain ⟨z1,z2,hh⟩:=hh
  refine ki_setAt (s:={s with toks:=tk}) gP' (by lia) (by lia) (show (j:Int) < 3 by lia) ?_
  have hsb:=Heap.SameBut.update (h:=s.heap) (a:=P) (f:=Obj.mapSeq fun x=>x.setIfInBounds j (.int u tv))
  have gN:=IsL.update gP' fun x=>x.setIfInBounds j (.int u tv)
  rw[hh] at gN
  obtain ⟨b1,b2⟩:=hA.poolTurn (pl':=some p') hsb (.inr w1) n1 (fun o e=>by rw[gP] at e;injection e with e;subst e;rw[oPc];decide)
   ⟨P,C,_,oC,z1,z2,vs,w1,w2,u1,u2,n1,n2,gN,⟨rfl,⟨rfl,rfl⟩,_,rfl⟩,(hsb.2 C hPC).trans gC,lC,by rw[hcs];exact hi1,by rw[hcs];exact hi2⟩
  exact hP2_ .next _ ow tk b1 b2.ss rfl
 by_cases h1:n=1
 ·rw[if_pos h1] at hP;exact fin 1 {p with a:=u} (by decide) ⟨_,_,rfl⟩ rfl h1 hP
 ·rw[if_neg h1] at hP
  obtain ⟨h2,hP⟩:=PostF.ite hP
  exact fin 2 {p with b:=u} (by decide) ⟨_,_,rfl⟩ rfl h2 hP
theorem Z2l(hE:EvS c I n)(hA:AOk n A F)(hF:FOk F)(hcn:F.cenv=none){x}{xp sp pos}{i e}{Q}(ho:okE (m+1) false F.env.kindOf e=true)(hx:ZI F.env.kindOf x=true)(hi:Z6r F.env.kindOf i=true)(hAct:Act c F s.heap ow σ)
  (hP:Z2 c F (SS F) (ZV c) s.heap ow s (Kt I x i e σ) Q E):wpAny (MD c) A (exec (.Assign [.Subscript (.Name x xp) i sp] e pos) F.env) Q E s:=by
 refine wpAny_Assign_Subscript (hE (m+1) e A F s ow σ E _ (by rw[hcn];exact ho) hA hF hAct (Z2.frzAt hF hP fun d s1_ v h1_ ow1 tk1 hA1 hS1 hr hP1_=>?_)) Kg
 refine gG fun G gk=>?_
 obtain ⟨lv,hl,hP1_⟩:=Z2.opt hP1_
 obtain ⟨k,hid,hP1_⟩:=Z2.opt hP1_
 obtain ⟨w,hv,hrep⟩:=hA1.holds hcn hl
 refine gk ?_
 refine YO (s:={s with heap:=h1_,toks:=tk1}) hA1 hcn hx hv (Z6w (s:={s with heap:=h1_,toks:=tk1}) hA1 hcn hi hid fun iv tk hiv=>?_)
 induction lv with
 |ol xs=>exact Z2i (s:={s with heap:=h1_,toks:=tk1}) hF hcn hA1 hl hv hiv hr hP1_
 |od kvs=>exact Z2j (s:={s with heap:=h1_,toks:=tk1}) hF hcn hA1 hv hrep hiv hr hP1_
 |fr p=>
  obtain ⟨hp,hP1_⟩:=PostF.ite (s:={s with heap:=h1_,toks:=tk1}) hP1_
  have hrep:Rep c h1_ ow1 w p:=hrep
  rw[D.isPool_of hp] at hrep
  exact Z2k (s:={s with heap:=h1_,toks:=tk1}) hA1 hrep hiv hr hP1_
 |ov=>exact hP1_.elim
theorem J6{e}{o}{x}{p}{l}{env}:swapsWith e (some (.Attribute o x p)) l env=pure false:=by
 cases e<;>rfl
theorem Z0b(cx:J4 c)(hE:EvS c I n)(hA:AOk n A F)(hF:FOk F)(hcn:F.cenv=none){x}{xp ap pos}{e}{Q}(ho:okE (m+1) false F.env.kindOf e=true)(hx:ZI F.env.kindOf x=true)(hAct:Act c F s.heap ow σ)
  (hP:Z2 c F (SS F) (ZV c) s.heap ow s ((I.ev e σ).bind (Z8C x)) Q E):wpAny (MD c) A (exec (.Assign [.Attribute (.Name x xp) "attrs" ap] e pos) F.env) Q E s:=by
 have hcb:F.cenv.isSome=false:=by rw[hcn];rfl
 refine plainObj_wpAny_Assign_Attribute (hE (m+1) e A F s ow σ E _ (by rw[hcb];exact ho) hA hF hAct (Z2.exprAt hP fun r s1_ v h1_ ow1 tk1 hA1 hS1 hr hP1_=>?_)) J6
 obtain ⟨p,hl,hP1_⟩:=Z2.opt (s:={s with heap:=h1_,toks:=tk1}) hP1_
 obtain ⟨kvs,hk,hP1_⟩:=Z2.opt (s:={s with heap:=h1_,toks:=tk1}) hP1_
 obtain rfl:=rk?_of hk
 obtain ⟨lv,hl,h2⟩:=Option.bind_eq_some_iff.mp hl
 obtain ⟨k,i⟩:=p
 obtain ⟨at0⟩:=LV.v0?_of h2
 ·refine gG fun G gk=>?_
  obtain ⟨w,hv,hrep⟩:=hA1.holds hcn hl
  obtain ⟨a,dx,od,mm,vk,vi,va,rfl,hw,hwd,hn,hg,hgd,hc,hns,hsh,hk,hi,hat,r1,r2,r3⟩:=hrep
  obtain ⟨da,rfl,hwa,hda⟩:=hr.1
  refine gk ?_
  have hwa:ow1 da=.tmp:=hwa
  refine YO (s:={s with heap:=h1_,toks:=tk1}) hA1 hcn hx hv ?_
  refine gG fun G gk=>?_
  obtain ⟨odc,es,en,odd,odz⟩:=hc
  refine gk ?_
  have X:c.K.In h1_:=fun a o e=>hA1.h0 a o (c.X a o e)
  refine Z22 (s:={s with heap:=h1_,toks:=tk1}) X cx.sa hg rfl rfl rfl hgd hns odd odz fun h' od' es' n' k1 k2 k3 k4 k5 k6 k7 k8 k9=>?_
  have hot:∀ b o,ow1 b≠.slot x->h1_.get? b=some o->h'.get? b=some o:=fun b o n1 e'=>(k2.2 b (by rintro rfl;exact n1 hwd)).trans e'
  have le:YF ow1 (give ow1 .tmp (.slot x)):=Vf rfl
  have gv:∀ b,ow1 b=.slot x->give ow1 .tmp (.slot x) b=.slot x:=fun b q=>by unfold Internal.give;rw[if_neg (by rw[q];nofun)];exact q
  have hfz:∀ b o,ow1 b=.frozen->h1_.get? b=some o->∃ o',h'.get? b=some o'/\Sim o o':=fun b o hw e=>⟨o,hot b o (by rw[hw];nofun) e,.refl _⟩
  have hadx:a≠dx:=by rintro rfl;rw[hg] at hgd;injection hgd with hgd;subst hgd;cases odc
  obtain ⟨q1,q2⟩:=hA1.ownE (h':=h') (ow':=give ow1 .tmp (.slot x)) (lv':=.ov k i (.dict kvs) true) hF hcn (Nat.le_of_eq k2.1.symm) (fun b o n1 O e'=>hot b o n1 e')
   (fun b o e' hc'=>(k2.2 b (by rintro rfl;have e':h1_.get? b=some o:=e';rw[hgd] at e';injection e' with e';subst e';rw[odc] at hc';exact absurd hc' (by decide))).trans e')
   (fun b O n2=>by unfold Internal.give;rw[if_neg n2]) (fun b q=>by
    unfold Internal.give
    split
    ·exact .inl rfl
    ·exact q) hv
   ⟨a,dx,od',_,vk,vi,.ref da,rfl,gv a hw,gv dx hwd,hn,(k2.2 a hadx).trans hg,k3,⟨k4.trans odc,es',n',k7,by have:=k9 (by rw[hat];rfl);lia⟩,k1,by rw[if_neg (by decide +kernel)];exact hsh,by rw[if_neg (by decide +kernel)];exact hk,by rw[if_neg (by decide +kernel)];exact hi,by rw[if_pos rfl],r1.mono c hfz le,r2.mono c hfz le,by
    rw[if_pos rfl]
    exact ⟨da,kvs,rfl,rfl,by unfold Internal.give;rw[if_pos hwa],hda.mono c (fun o e=>⟨o,hot da o (by rw[hwa];nofun) e,.refl _⟩) hfz le⟩⟩
  exact hP1_ .next h' _ _ q1 q2 rfl
theorem Jx(cx:J4 c)(hcn:F.cenv=none){x}{xp ap pos p0}{k0}{Q}(hx:ZI F.env.kindOf x=true)(hAct:Act c F s.heap ow σ){k i t}(hl:ZM x σ.vars=some (.fr (.vec k i t)))
  (hP:Z2 c F (SS F) (ZV c) s.heap ow s (.ok .next σ) Q E):wpAny (MD c) A (exec (.Assign [.Attribute (.Name x xp) "shared" ap] (.Constant (.bool true) k0 p0) pos) F.env) Q E s:=by
 refine plainObj_wpAny_Assign_Attribute (wpAny_Constant_bool ?_) J6
 obtain ⟨w,hv,hrep⟩:=hAct.holds hcn hl
 cases hrep with
 |vec w1 w2 hn hg hgd hc hns hsh hk hi hat r1 r2 r3=>
 rename _=>va
 refine YO hAct hcn hx hv ?_
 refine gG fun G gk=>?_
 obtain ⟨odc,es,en,odd,odz⟩:=hc
 refine gk ?_
 have X:c.K.In s.heap:=fun a o e=>hAct.h0 a o (c.X a o e)
 refine Z22 X cx.ss hg rfl rfl rfl hgd hns odd odz fun h' od' es' n' k1 k2 k3 k4 k5 k6 k7 k8 k9=>?_
 have hsim:Sim od od':=by
  obtain ⟨o2,es2,n2,g2,d2,sk2,f2⟩:=hns
  rw[hgd] at g2;obtain rfl:=Option.some.inj g2
  rw[odd] at d2;cases d2
  obtain ⟨o3,es3,n3,g3,d3,sk3,f3⟩:=k1
  rw[k3] at g3;obtain rfl:=Option.some.inj g3
  rw[k7] at d3;cases d3
  refine .vd odc (k4.trans odc) k5 odd k7 ⟨sk2,by rw[f2];exact hsh,odz⟩ ⟨sk3,by rw[f3];dsimp only;rw[if_pos rfl];rfl,by lia⟩ fun y hy=>?_
  simp only[f3,f2];exact if_neg hy
 obtain ⟨q1,q2⟩:=hAct.grow (h':=h') (ow':=ow) (Nat.le_of_eq k2.1.symm) (fun b o e'=>by
  by_cases q:b=dx
  ·subst q
   rw[hgd] at e';obtain rfl:=(Option.some.inj e').symm
   exact ⟨od',k3,hsim,fun q=>by
    rcases q with q|q|q
    ·exact absurd q (Nat.not_lt.mpr hn)
    ·rw[w2] at q;cases q
    ·rw[w2] at q;cases q⟩
  ·exact ⟨o,(k2.2 b q).trans e',.refl _,fun O=>rfl⟩) (fun O O=>rfl) (fun b hb=>by rw[hAct.new b hb];exact ⟨nofun,nofun⟩) fun b hb=>hAct.new b (by rw[k2.1] at hb;exact hb)
 exact hP .next h' ow _ q1 q2.ss rfl
theorem J7(cx:J4 c)(hE:EvS c I n)(hA:AOk n A F)(hF:FOk F)(hcn:F.cenv=none){x y}{xp ap sp pos}{i e}{Q}(ho:okE (m+1) false F.env.kindOf e=true)(hx:ZI F.env.kindOf x=true)(hAct:Act c F s.heap ow σ)
  (hP:Z2 c F (SS F) (ZV c) s.heap ow s (Yz I x y i e σ) Q E):wpAny (MD c) A (exec (.Assign [.Subscript (.Attribute (.Name x xp) y ap) i sp] e pos) F.env) Q E s:=by
 have hcb:F.cenv.isSome=false:=by rw[hcn];rfl
 unfold Yz at hP
 split at hP
 case isFalse=>exact hP.elim
 rename_i hy
 subst hy
 refine wpAny_Assign_Subscript (hE (m+1) e A F s ow σ E _ (by rw[hcb];exact ho) hA hF hAct (Z2.frzAt hF hP fun d s1_ v h1_ ow1 tk1 hA1 hS1 hr hP1_=>?_)) Kg
 obtain ⟨p,hl,hP1_⟩:=Z2.opt (s:={s with heap:=h1_,toks:=tk1}) hP1_
 obtain ⟨sk,hi,hP2_⟩:=Z2.opt (s:={s with heap:=h1_,toks:=tk1}) hP1_
 clear hP1_
 obtain ⟨lv,hl,h2⟩:=Option.bind_eq_some_iff.mp hl
 obtain ⟨kc,hi,h3⟩:=Option.bind_eq_some_iff.mp hi
 obtain ⟨k,it,kvs⟩:=p
 obtain rfl:=LV.v1?_of h2
 obtain ⟨O,O⟩:=VZ hi
 obtain rfl:=cs?_of h3
 ·split at hP2_
  ·rename_i hlt
   obtain ⟨w,hv,hrep⟩:=hA1.holds hcn hl
   obtain ⟨a,dx,od,mm,vk,vi,va,rfl,hw,hwd,hn,hg,hgd,hc,hns,hsh,hk,hi,hat,r1,r2,r3⟩:=hrep
   rw[if_pos rfl] at r3
   refine gG fun G gk=>?_
   obtain ⟨da,kvs',rfl,e0,hwa,hda⟩:=r3
   refine gk ?_
   cases e0
   refine Attribute_any_ (YO (s:={s with heap:=h1_,toks:=tk1}) hA1 hcn hx hv ?_) (by rw[arm_eval_Attribute,Xe rfl])
   refine Yc (s:={s with heap:=h1_,toks:=tk1}) hA1 cx.av (by decide) hg rfl rfl rfl hgd hns hat rfl ?_
   refine wpAny_Constant_str (Z1b (s:={s with heap:=h1_,toks:=tk1+1+1}) hda hlt.1 hlt.2 hr rfl (by rw[hwa];nofun) fun h' hd' hs=>?_)
   obtain ⟨ob,esa,na,ea,hea,hda2,hka,O⟩:=id hda
   have ne1:a≠da:=by rintro rfl;have ea:h1_.get? a=some ob:=ea;rw[hg] at ea;injection ea with ea;subst ea;exact absurd hea.1.1 (fun q=>by cases q)
   have ne2:dx≠da:=by
    rintro rfl
    rw[hgd] at ea;obtain rfl:=Option.some.inj ea
    obtain ⟨o2,es2,n2,g2,d2,sk2,f2⟩:=hns
    rw[hgd] at g2;obtain rfl:=Option.some.inj g2
    rw[hda2] at d2;cases d2
    rw[<-f2,YL c hka] at hsh
    exact Z4 hsh
   have hfz:∀ b o,ow1 b=.frozen->h1_.get? b=some o->∃ o',h'.get? b=some o'/\Sim o o':=fun b o hw e=>⟨o,(hs.2 b (by rintro rfl;rw[hwa] at hw;exact nomatch hw)).trans e,.refl _⟩
   obtain ⟨q1,q2⟩:=hA1.ownOne hF hcn hs hwa ea (by rw[hea.1.1];decide) hv (lv':=.ov k it (.dict (YC sk d kvs)) true)
    ⟨a,dx,od,mm,vk,vi,.ref da,rfl,hw,hwd,hn,(hs.2 a ne1).trans hg,(hs.2 dx ne2).trans hgd,hc,hns.sameBut hs ne2,hsh,hk,hi,hat,r1.mono c hfz (.refl _),r2.mono c hfz (.refl _),by rw[if_pos rfl];exact ⟨da,_,rfl,rfl,hwa,hd'⟩⟩
   exact hP2_ .next h' ow1 _ q1 q2 rfl
  ·exact hP2_.elim
theorem Z1c(cx:J4 c)(hE:EvS c I n)(hA:AOk n A F)(hF:FOk F)(hcn:F.cenv=none){x a}{xp ap pos}{e}{Q}(ho:okE (m+1) false F.env.kindOf e=true)(hx:ZI F.env.kindOf x=true)(hAct:Act c F s.heap ow σ)
  (hP:Z2 c F (SS F) (ZV c) s.heap ow s (XN I x a e σ) Q E):wpAny (MD c) A (exec (.Assign [.Attribute (.Name x xp) a ap] e pos) F.env) Q E s:=by
 unfold XN at hP
 split at hP
 ·rename_i q;subst q
  exact Z0b cx hE hA hF hcn ho hx hAct hP
 ·refine Z2.ite_el hP (fun q hP=>?_) fun q_ hP=>?_
  ·subst q
   obtain ⟨p,hl,hP⟩:=Z2.opt hP
   obtain ⟨u,he,hP⟩:=Z2.opt hP
   obtain ⟨lv,hl,h2⟩:=Option.bind_eq_some_iff.mp hl
   obtain ⟨d,h2,h3⟩:=Option.bind_eq_some_iff.mp h2
   obtain ⟨kc,he,h4⟩:=Option.bind_eq_some_iff.mp he
   obtain rfl:=LV.fr?_of h2
   obtain rfl:=D.v?_of h3
   obtain ⟨O,O⟩:=VZ he
   obtain rfl:=ct?_of h4
   exact Jx cx hcn hx hAct hl hP
  ·exact hP.elim
theorem Z2.exprFrom{α α' β β':Type}{R1:Heap->Z5->St->β->α->Prop}{R2:Heap->Z5->St->β'->α'->Prop}{h h1_}{ow1}{o:Out α}{f:α->St->Out α'}{Q1:β->Shared->Prop}{Q2:β'->Shared->Prop}
  (hP:Z2 c F (SS F) R2 h ow s (o.bind f) Q2 E) (h01:SS F h ow h1_ ow1)
  (k:∀ a σ' b h' ow' tk,Act c F h' ow' σ'->Z7 c h1_ ow1 h' ow'->R1 h' ow' σ' b a->Z2 c F (SS F) R2 h ow s (f a σ') Q2 E->Q1 b {s with heap:=h',toks:=tk}) :
  Z2 c F (Z7 c) R1 h1_ ow1 s o Q1 E:=by
 induction o with
 |ok a σ'=>exact fun b h' ow' tk g1 g2 g3=>k a σ' b h' ow' tk g1 g2 g3 hP
 |exc m σ'=>exact fun e h' ow' tk g1 g2 g3=>hP e h' ow' tk g1 (h01.trans g2.ss) g3
 |stuck=>exact hP
theorem Act.mkPool{h}(hA:Act c F h ow σ)(hcn:F.cenv=none)(hpl:σ.pl=none){a}{vs}{ns}{k}(g:IsL h a vs.toArray k)(hfo:ow a=.foreign)(hlo:F.hb.objs.size<=a)(hi:IntsAre vs ns)(hlen:ns.length<=LIM)(x y)(tx ty) :
  Act c F (h.push {cls:=.type "list",data:=.seq #[.ref a,.int x tx,.int y ty]}) (upd (upd ow a .poolC) h.objs.size .poolP) {σ with pl:=some ⟨ns,x,y⟩}:=by
 have hlt:a < h.objs.size:=Heap.lt_size g
 have hne:h.objs.size≠a:=(Nat.ne_of_lt hlt).symm
 have none':=hA.pool
 rw[hpl] at none'
 generalize how':upd (upd ow a .poolC) h.objs.size .poolP=ow'
 have hself:ow' h.objs.size=.poolP:=by rw[<-how'];exact Y7 _ _ _
 have hC:ow' a=.poolC:=by rw[<-how',ZD (Ne.symm hne)];exact Y7 _ _ _
 have hoth:∀ b,b≠a->b≠h.objs.size->ow' b=ow b:=fun b h1 h2=>by rw[<-how',ZD h2,ZD h1]
 have hnf:ow h.objs.size=.foreign:=hA.new _ (Nat.le_refl _)
 have oth:∀ b,ow b≠.foreign->ow' b=ow b:=fun b q=>hoth b (by rintro rfl;exact q hfo) (by rintro rfl;exact q hnf)
 have le:YF ow ow':=fun b=>⟨fun e=>by rw[oth b (by rw[e];nofun)];exact e,fun e=>absurd e (none' b).1,fun e=>absurd e (none' b).2⟩
 have kp:∀ b o,h.get? b=some o->(h.push {cls:=.type "list",data:=.seq #[.ref a,.int x tx,.int y ty]}).get? b=some o:=fun b o e=>Heap.get?_push_of_some _ e
 have hsz:h.objs.size<=(h.push {cls:=.type "list",data:=.seq #[.ref a,.int x tx,.int y ty]}).objs.size:=by rw[Heap.size_push];exact Nat.le_succ _
 have foD:∀ b,ow b=.foreign->b < h.objs.size->(∀ o,h.get? b=some o->∀ vs k,o.data≠.seq vs k)->ow' b=.foreign:=fun b q ql hd=>by
  rw[hoth b (by rintro rfl;exact hd _ g _ _ rfl) (Nat.ne_of_lt ql)];exact q
 refine ⟨⟨Nat.le_trans hA.pres.1 hsz,fun b o e n1 n2=>?_⟩,fun b o e=>kp b o (hA.h0 b o e),hA.n0,fun b hb=>?_,fun b hb=>?_,?_,fun e he=>?_,hA.head,hA.ok,?_⟩
 ·obtain ⟨o2_,e2_,s2_,k2_⟩:=hA.pres.2 b o e (none' b).1 (none' b).2
  exact ⟨o2_,kp b o2_ e2_,s2_,k2_⟩
 ·rw[Heap.size_push] at hb
  rw[hoth b (Nat.ne_of_gt (Nat.lt_of_lt_of_le (Nat.lt_succ_of_lt hlt) hb)) (Nat.ne_of_gt hb)]
  exact hA.new b (Nat.le_of_succ_le hb)
 ·rw[hoth b (Nat.ne_of_lt (Nat.lt_of_lt_of_le hb hlo)) (Nat.ne_of_lt (Nat.lt_of_lt_of_le hb hA.pres.1))]
  exact hA.fix b hb
 ·refine ⟨h.objs.size,a,_,_,tx,ty,vs,hself,hC,fun b q=>?_,fun b q=>?_,Nat.le_trans hA.n0 hA.pres.1,Nat.le_trans hA.n0 hlo,Heap.get?_push_size _ rfl,⟨rfl,⟨rfl,rfl⟩,_,rfl⟩,kp _ _ g,⟨rfl,⟨rfl,rfl⟩,_,rfl⟩,hi,hlen⟩
  ·by_cases q1:b=h.objs.size
   ·exact q1
   ·by_cases q2:b=a
    ·subst q2;rw[hC] at q;cases q
    ·rw[hoth b q2 q1] at q;exact absurd q (none' b).1
  ·by_cases q2:b=a
   ·exact q2
   ·by_cases q1:b=h.objs.size
    ·subst q1;rw[hself] at q;cases q
    ·rw[hoth b q2 q1] at q;exact absurd q (none' b).2
 ·obtain ⟨hk,L,o,es,n,hf,hg,hc,hd,hn⟩:=hA.frames e he
  exact ⟨hk,L,o,es,n,hf,kp _ _ hg,hc,hd,hn⟩
 ·have S:=hA.scp
  rw[hcn] at S ⊢
  obtain ⟨s1,s2,mm,S⟩:=S
  refine ⟨s1,s2,mm,S.ns.at' fun o e=>kp _ _ e,S.nsh,S.low,foD _ S.own S.ns.lt ?_,fun y kk e=>?_,S.apart,fun y lv e=>?_⟩
  ·intro o e vs k hd
   obtain ⟨o',es,ep,e',hd',O⟩:=S.ns
   rw[e] at e';obtain rfl:=Option.some.inj e'
   rw[hd] at hd';cases hd'
  ·obtain ⟨h1,h2,h3,w,h4⟩:=S.cells y kk e
   refine ⟨h1,h2,foD _ h3 h4.lt ?_,w,IsCell.keep h4 fun o e=>kp _ _ e⟩
   intro o e vs k hd
   obtain ⟨o',e',hd'⟩:=h4
   rw[e] at e';obtain rfl:=Option.some.inj e'
   rw[hd] at hd';cases hd'
  ·obtain ⟨v,hv,hr⟩:=S.vars y lv e
   refine ⟨v,?_,hr.mono c (fun b o O e=>⟨o,kp _ _ e,.refl _⟩) (fun b o O e=>⟨o,kp _ _ e,.refl _⟩) le fun b hw O=>by rw[oth b (by rw[hw];nofun)];exact hw⟩
   rcases hv with hv|⟨h1,kk,h2,h3⟩
   ·exact .inl hv
   ·exact .inr ⟨h1,kk,h2,IsCell.keep h3 fun o e=>kp _ _ e⟩
theorem Z6y{xs}{ns}{vs}{h}(h1:ints? xs=some ns)(h2:vs.length=xs.length)(h3:∀ (i:Nat) (v:Value) (d:D),vs[i]?=some v->xs[i]?=some d->Rep c h ow v d):IntsAre vs ns:=by
 obtain rfl:=Vh h1
 exact X3.ints (by rw[h2,List.length_map]) h3
theorem Z6z{xs}{ns}(h:ints? xs=some ns):ns.length=xs.length:=by rw[Vh h,List.length_map]
theorem Z1d(hE:EvS c I n)(hA:AOk n A F)(hF:FOk F)(hcn:F.cenv=none){x}{px lp pos}{es}{Q}(h1:okE (m+1) false F.env.kindOf (.List es lp)=true)(hx:Zw F.env.kindOf x=true)(hAct:Act c F s.heap ow σ)
  (hP:Z2 c F (SS F) (ZV c) s.heap ow s (Xi I x es σ) Q E):wpAny (MD c) A (exec (.Assign [.Name x px] (.List es lp) pos) F.env) Q E s:=by
 have hcb:F.cenv.isSome=false:=by rw[hcn];rfl
 have h1:(es.all Zz&&es.all (okE m false F.env.kindOf))=true:=h1
 rw[Bool.and_eq_true] at h1
 obtain ⟨p,he,hP1⟩:=Z2.opt hP
 obtain ⟨u,hpl,hP0⟩:=Z2.opt hP1
 clear hP hP1
 obtain rfl:=three?_of he
 obtain ⟨e0,e1,e2⟩:=p
 have hpl:=noP?_of hpl
 obtain ⟨hst,hok⟩:=h1
 simp only[List.all_cons,List.all_nil,Bool.and_true,Bool.and_eq_true] at hok
 refine wpAny_Assign_Name ?_ rfl
 simp only[arm_eval_List,ZZ hst]
 refine wpAny_bind (wpAny_standAt (wpAny_bind ?_))
 refine spliced_cons (hE m e0 A F s ow σ E _ (by rw[hcb];exact hok.1) hA hF hAct (Z2.exprAt hP0 fun r0 s1_ v0 h1_ ow1 tk1 hA1 hS1 hr0 hP1_=>?_))
 obtain ⟨xs,hx0,hP2⟩:=Z2.opt (s:={s with heap:=h1_,toks:=tk1}) hP1_
 clear hP1_
 obtain rfl:=rl?_of hx0
 obtain ⟨a,rfl,hoa,hla⟩:=hr0.1
 have hoa:ow1 a=.tmp:=hoa
 obtain ⟨vs,k,g1,g2,g3,g4⟩:=hla.isL
 have hA1':Act c F h1_ (give ow1 .tmp .foreign) s1_:=by
  have ho:Zx .tmp=true:=rfl
  refine hA1.giveTo ho ⟨nofun,nofun⟩ rfl (fun m=>?_) fun a O e=>by have:=hF a;rw[e] at this;cases this
  rw[hcn]
  exact fun S=>⟨rfl,rfl,S.give ho fun y lv v O z=>z.giveOther ho nofun⟩
 have hfo1:give ow1 .tmp .foreign a=.foreign:=if_pos hoa
 have hS1':SS F h1_ ow1 h1_ (give ow1 .tmp .foreign):=by
  refine ⟨Nat.le_refl _,fun b O q=>⟨?_,fun o e=>⟨o,e,.refl _⟩⟩,fun b O=>?_⟩
  ·unfold Internal.give
   rw[if_neg]
   rintro e
   rcases q with q|⟨q,O⟩<;>rw[e] at q<;>cases q
  ·unfold Internal.give
   by_cases q:ow1 b=.tmp
   ·rw[q];exact ⟨nofun,nofun⟩
   ·rw[if_neg q];exact ⟨id,id⟩
 have hlo:F.hb.objs.size<=a:=by
  refine Nat.le_of_not_lt fun q=>?_
  have:=hA1.fix a q
  rw[hoa] at this
  have h2:=hF a
  rw[<-this] at h2;exact nomatch h2
 refine spliced_cons (hE m e1 A F {s with heap:=h1_,toks:=tk1} _ s1_ E _ (by rw[hcb];exact hok.2.1) hA hF hA1' (Z2.exprFrom hP2 hS1' fun r1 q7 v1 h2_ ow2_ tk2 hA2 hS2 hr1 hP2_=>?_))
 obtain ⟨ga2,fa2⟩:=hS2.same hfo1 g1 (show Value.type "list"≠.type "frame" by decide) (.inl (show Value.type "list"≠.type "dict" by decide)) (X2 (by decide))
 refine spliced_cons (hE m e2 A F {s with heap:=h2_,toks:=tk2} ow2_ q7 E _ (by rw[hcb];exact hok.2.2) hA hF hA2 (Z2.exprFrom (s:={s with heap:=h2_,toks:=tk2}) hP2_ (hS1'.trans hS2.ss) fun r2 q8 v2 h3_ ow3_ tk3 hA3 hS3 hr2 hP3=>?_))
 obtain ⟨ga3,fa3⟩:=hS3.same fa2 ga2 (show Value.type "list"≠.type "frame" by decide) (.inl (show Value.type "list"≠.type "dict" by decide)) (X2 (by decide))
 obtain ⟨ia,e1,hP3⟩:=Z2.opt hP3
 obtain ⟨ib,e2,hP3⟩:=Z2.opt hP3
 obtain ⟨u,hpl3,hP3⟩:=Z2.opt hP3
 have hpl3:=noP?_of hpl3
 obtain ⟨ns,hns,hP4⟩:=Z2.opt hP3
 obtain ⟨t1,rfl⟩:=hr1.v.int (D.i?_of e1)
 obtain ⟨t2,rfl⟩:=hr2.v.int (D.i?_of e2)
 refine spliced_nil ?_
 unfold newList
 refine wpAny_newObj_type ?_ (show 3<=sizeLine from Nat.le_trans (show 3<=LIM by decide) YM)
 have gl:IsL h3_ a vs.toList.toArray k:=by simpa using ga3
 have hM:=hA3.mkPool hcn hpl3 gl fa3 hlo (Z6y (h:=h1_) hns (by simpa using g2) fun i v d e1 e2=>g4 i v d (by simpa using e1) e2) (by rw[Z6z hns];exact g3) ia ib t1 t2
 refine Yo (s:={s with heap:=h3_.push {cls:=.type "list",data:=.seq #[.ref a,.int ia t1,.int ib t2]},toks:=tk3}) (lv:=.fr .pool) hF hM hcn hx (.pool (Y7 _ _ _)) fun h' ow' tk b1 b2=>?_
 refine hP4 .next h' ow' tk b1 (SS.trans ?_ b2) rfl
 have T:=(hS1'.trans hS2.ss).trans hS3.ss
 have hlt3:h1_.objs.size<=h3_.objs.size:=T.1
 refine ⟨Nat.le_trans hlt3 (by rw[Heap.size_push];exact Nat.le_succ _),fun b hb q=>?_,fun b hb=>?_⟩
 ·obtain ⟨x1,x2⟩:=T.2.1 b hb q
  refine ⟨?_,fun o e=>let ⟨o',e',k⟩:=x2 o e;⟨o',Heap.get?_push_of_some _ e',k⟩⟩
  rw[ZD (Nat.ne_of_lt (Nat.lt_of_lt_of_le hb hlt3)),ZD,x1]
  rintro rfl
  rcases q with q|⟨q,O⟩<;>rw[hoa] at q<;>cases q
 ·have none':=hA3.pool
  rw[hpl3] at none'
  obtain ⟨x1,x2⟩:=T.2.2 b hb
  exact ⟨fun e=>absurd (x1 e) (none' b).1,fun e=>absurd (x2 e) (none' b).2⟩
end NZ.Internal
namespace NZ.Internal
open PySem PySem.Calls PyProof.Rows PySem.W PySem.Builtin PySem.Builtin.ObjectAttr PySem.Builtin.Getset_descriptor
variable {c:Cx}{ow:Z5}{A:Around}{F:Frm}{s:Shared}{σ:St}{E:Value->Shared->Prop}{I:Itp}{n m:Nat}
inductive Z6A:List Value->Prop
 |base:Z6A bmE
 |ref (c:Addr) (r:List Value) (O:Z6A r):Z6A (.ref c::r)
theorem Z0c{t}{v}(h:Z6N t v=true):v=.type t:=by
 induction v with
 |type a=>exact congrArg Value.type (eq_of_beq h)
 |_=>exact Z4 h
theorem Z8m{l}(h:ZaR l=true):Z6A l:=by
 cases l with
 |nil=>exact Z4 h
 |cons a l=>cases l with
  |nil=>exact Z4 h
  |cons b l=>cases l with
   |nil=>exact Z4 h
   |cons d l=>induction l with
    |nil=>
     obtain ⟨h1,h2⟩:=b2 h
     obtain ⟨h1,h3⟩:=b2 h1
     simp only[Z0c h1,Z0c h2,Z0c h3]
     exact .base
    |cons=>exact Z4 h
theorem Z3c{l}(h:XJ l=true):Z6A l:=by
 induction l with
 |nil=>exact Z4 h
 |cons v r ih=>induction v with
  |ref c=>exact .ref c r (ih h)
  |_=>exact Z8m h
theorem Z2m(self):refuseLoop self "__setattr__" bmE=pure ():=by kernel_rfl
theorem Z2n(self){l}(h:XJ l=true):refuseLoop self "__setattr__" l=pure ():=by
 have x:=Z3c h
 clear h
 induction x with
 |base=>exact Z2m self
 |ref c r O ih=>rw[refuseLoop_ref];exact ih
theorem Z8n{l}(h:XJ l=true):l.contains (.type "object")=true:=by
 have x:=Z3c h
 clear h
 induction x with
 |base=>decide
 |ref c r O ih=>simp only[List.contains_cons,ih,Bool.or_true]
structure Z6B(K:Frag)(C:Addr)(name:Str):Prop where
 set:findIn K (.ref C) "__setattr__"=some (some (.builtin "object.__setattr__"))
 over:((clsIn K C).any fun cd=>XJ cd.mro)=true
 taker:takerIn K C name=some none
 dict:(clsIn K C).any (fun O=>O.hasDict)=true
theorem Z48{K}{C x}{R}{ox}{od}{name}{tk}{v}{r}(X:K.In s.heap)(I:InstAt s.heap x ox C od)(hp:((clsIn K C).any fun cd=>XJ cd.mro)=true)(ht:takerIn K C name=some r)
  (h:∀ b,wpAny (MD c) A.in1 (match r with|some a=>setByDescriptor a (.ref x) v|none=>storeInOwnDict (.ref x) (.ref C) (.str name tk) name v b)
   (fun fin s'=>match fin with|.done f=>R (.ok f) s'|.again c'=>c'.quiet=true/\codeAny (MD c) A c' R s') (fun e s'=>R (.error e) s') s) :
  codeAny (MD c) A (.call (.builtin "object.__setattr__") ⟨[.ref x,.str name tk,v],[]⟩) R s:=by
 have SF:=PySem.F.store_object
 obtain ⟨cd,hc,ho⟩:=any_some hp
 have ne:cd.mro.isEmpty=false:=by cases q:cd.mro with|nil=>rw[q] at ho;cases ho|cons O U=>rfl
 have sub:Looks (MD c) s.heap (isInstance (.ref x) (.type "object")) true:=I.type.andThen (looks_mroIn X (by unfold mroIn;rw[hc,Option.bind_some,if_neg (by rw[ne];decide),Z8n ho]))
 refine codeAny_call_builtin SF.slot.plain SF.entry (@check_slot (MD c) _ _ s "object.__setattr__" "object" "__setattr__" (.ref x) [.str name tk,v] [] _ SF.kind SF.split sub (SF.args (.ref x) (.str name tk) v) ?_)
 refine gG fun G gk=>?_
 obtain ⟨attr,ha,hr⟩:=Option.bind_eq_some_iff.mp ht
 refine gk ?_
 have hm:Looks (MD c) s.heap (mroOf (.ref C)) cd.mro:=(looks_clsIn X hc).andThen .now
 have L3:Looks (MD c) s.heap (storeTaker? attr) r:=by
  induction attr with
  |none=>injection hr with hr;subst hr;exact .now
  |some a=>
   obtain ⟨b,hb,rfl⟩:=Option.map_eq_some_iff.mp hr
   refine (looks_takesIn X hb).andThen ?_
   cases b<;>exact .now
 rw[osa_eq,refuse_eq]
 refine wpAny_bind (wpAny_bind (I.type.here (wpAny_bind (hm.here ?_))))
 rw[Z2n _ ho]
 refine wpAny_pure (wpAny_bind (I.type.here (wpAny_bind ((looks_findIn X ha).here (wpAny_bind (L3.here ?_))))))
 exact h _
set_option tactic.hygienic true in
theorem Z8o{K}{C x}{ox}{name}{v}{Q}(X:K.In s.heap)(hC:Z6B K C name)
  (hx:s.heap.get? x=some ox) (hcl:ox.cls=.ref C) (hno:notCls ox=true) (hdd:ox.dict=none)
  (h:∀ h' od',(∀ b o,b≠x->s.heap.get? b=some o->h'.get? b=some o)->h'.get? x=some {ox with dict:=some s.heap.objs.size}->h'.get? s.heap.objs.size=some od'->od'.cls=.type "dict"->h'.Ns s.heap.objs.size (fun y=>if y=name then some v else none) ->
   s.heap.objs.size<=h'.objs.size->Q () {s with heap:=h',toks:=s.toks+2}) :
  wpAny (MD c) A (setAttr (.ref x) name v) Q E s:=by
 have I:InstAt s.heap x ox C none:=⟨hx,hcl,hno,by rw[hdd];trivial⟩
 refine set_plain X I hC.set (Z48 (s:={s with toks:=s.toks+1}) X I hC.over hC.taker fun b=>?_)
 obtain ⟨cd,hc,hd'⟩:=any_some hC.dict
 obtain ⟨oc,odi,oda,osl⟩:=ox
 dsimp only at hcl hdd
 subst hcl hdd
 refine wpAny_bind (wpAny_pure (wpAny_bind (wpAny_bind (wpAny_loadPart hx (wpAny_bind (Looks.here (s:={s with toks:=s.toks+1}) (looks_clsIn X hc) ?_))))))
 rw[hd']
 have hx1:(s.heap.push {cls:=.type "dict",data:=.dict #[]}).get? x=some ⟨.ref C,none,oda,osl⟩:=Heap.get?_push_of_some _ hx
 have hxs:x≠s.heap.objs.size:=Nat.ne_of_lt (Heap.lt_size hx)
 rw[if_neg (by decide)]
 dsimp only
 rw[if_neg (by simp[typeHasDict])]
 have hgd:((s.heap.push {cls:=.type "dict",data:=.dict #[]}).update x fun o=>{cls:=o.cls,dict:=some s.heap.objs.size,data:=o.data,slots:=o.slots}).get? s.heap.objs.size=some {cls:=.type "dict",data:=.dict #[]}:=
  (Heap.get?_update_ne _ _ _ _ hxs.symm).trans (Heap.get?_push_at rfl rfl)
 have hnd:((s.heap.push {cls:=.type "dict",data:=.dict #[]}).update x fun o=>{cls:=o.cls,dict:=some s.heap.objs.size,data:=o.data,slots:=o.slots}).Ns s.heap.objs.size (fun O=>none):=
  ⟨_,#[],_,hgd,rfl,fun e he=>absurd he (by simp),fun O=>rfl⟩
 have hgx:((s.heap.push {cls:=.type "dict",data:=.dict #[]}).update x fun o=>{cls:=o.cls,dict:=some s.heap.objs.size,data:=o.data,slots:=o.slots}).get? x=some ⟨.ref C,some s.heap.objs.size,oda,osl⟩:=by
  refine Heap.get?_update_self _ hx1 ?_
  have hfr:=(Heap.get?_some_iff.mp hx).2
  cases oda<;>first|rfl|exact hfr
 split
 ·rename_i q;cases q;exact Z4 hno
 ·show wpAny (MD c) A.in1 (alloc _ >>= fun d=>update x _ >>= fun O=>dictMade _ x d) _ _ _
  refine wpAny_bind (wpAny_alloc ?_)
  refine wpAny_bind (wpAny_update hx1 ?_)
  refine wpAny_pure (a:=some s.heap.objs.size) ?_
  show wpAny _ _ (storeInDict s.heap.objs.size (Value.str name s.toks) name v) _ _ _
  unfold storeInDict newKeyGuard
  refine wpAny_bind (wpAny_pure (wpAny_bind ?_))
  refine Z6f hnd hgd rfl fun h' od' es' n' k1 k2 k3 k4 k5 k6 k7 k8 k9=>?_
  refine wpAny_bind (wpAny_lookBehind k3 (by rw[k7];exact pastItsLine_dict (by rw[sizeLine_eq];simp at k8;lia)) ?_)
  refine wpAny_pure ?_
  refine h h' od' (fun b o hb e=>?_) ((k2.2 x hxs).trans hgx) k3 k4 k1 ?_
  ·exact (k2.2 b (Nat.ne_of_lt (Heap.lt_size e))).trans ((Heap.get?_update_ne _ _ _ _ hb).trans (Heap.get?_push_of_some _ e))
  ·rw[k2.1,Heap.size_update,Heap.size_push];exact Nat.le_succ _
end NZ.Internal
namespace NZ.Internal
open PySem PySem.Calls PyProof.Rows PySem.W
variable {c:Cx}{ow:Z5}{A:Around}{F:Frm}{s:Shared}{σ:St}{E:Value->Shared->Prop}{I:Itp}{n m:Nat}
structure Zcz(c:Cx)(fI:Addr)(o:Obj)(fd:FuncData)(px ap p1 p:Pos):Prop where
 init:findIn c.K (.ref c.CR) "__init__"=some (some (.ref fI))
 fn:typeIn c.K (.ref fI)=some (.type "function")
 obj:c.K.lookup fI=some o
 data:o.data=.func fd
 bodyIs:fd.body=.stmts [.Assign [.Attribute (.Name "self" px) "message" ap] (.Name "message" p1) p]
 code:codeIn c.K fd.code fd.qualname=true
 scope:Y0 fd.scope=true
 cells:∀ x∈fd.scope.names,x.2≠.cell
 self:fd.scope.names.lookup ("self":Str)=some .local
 msg:fd.scope.names.lookup ("message":Str)=some .local
 binds:∀ (s':Shared) x v,c.K.In s'.heap->BindsTo s' fd ⟨[x,v],[]⟩ [("self",x),("message",v)]
inductive ZaG(c:Cx):Prop
 |mk (fI:Addr) (o:Obj) (fd:FuncData) (px ap p1 p:Pos) (O:Zcz c fI o fd px ap p1 p)
inductive ZaH(c:Cx):Prop
 |mk (nm q:Str) (N:Addr) (bs bm:List Value) (hdct:Bool) (sn:List Str) (sub:List Value) (ab:Bool) (col:Option Bool) (dd:Option Addr) (k0 k1 k2 k3 k5:Option Value) (O:c.K.lookup c.CR=some (excClassObj nm q c.CR N bs bm hdct sn sub ab col dd k0 k1 k2 k3 k5 "Exception.__new__")) (O:tailIn c.K bmE bm=true)
structure J8(c:Cx):Prop where
 keep:keepIn c.K (.ref c.CR)=true
 glob:c.mg ("Refusal":Str)=some (.ref c.CR)
 set:Z6B c.K c.CR "message"
 cls:ZaH c
 fn:ZaG c
theorem Z6C{v}{Q}(hR:J8 c)(h0:∀ a o,c.h₀.get? a=some o->s.heap.get? a=some o)(hroom:A.depth+1 < recursionLimit)
  (hQ:∀ h' tk e oe vs dx od,(∀ b o,s.heap.get? b=some o->h'.get? b=some o)->s.heap.objs.size<=h'.objs.size->s.heap.objs.size<=e->h'.get? e=some oe->oe.cls=.ref c.CR->oe.dict=some dx->oe.data=.fields vs->vs[1]?=some .none->h'.get? dx=some od->od.cls=.type "dict"->
   h'.Ns dx (fun y=>if y="message" then some v else none)->Q (.ref e) {s with heap:=h',toks:=tk}):wpAny (MD c) A (call (.ref c.CR) [v]) Q E s:=by
 obtain ⟨nm,q,N,bs,bm,hdct,sn,sub,ab,col,dd,k0,k1,k2,k3,k5,hCK,hT⟩:=hR.cls
 obtain ⟨fI,oF,fd,px,ap,p1,p,hI⟩:=hR.fn
 obtain ⟨h,g,d,t,os⟩:=s
 dsimp only at h0 hQ
 have FB:=PySem.F.excBase_Exception
 have X:c.K.In h:=fun a o e=>h0 a o (c.X a o e)
 have hC:=X _ _ hCK
 have T:OwnTail h bmE bm:=tail_of_in X hT
 have f1:=tc_lookup
 have f2:=tc_bind (.ref c.CR)
 have hTI:(⟨h,g,d,t,os⟩:Shared).TypeIs (.ref c.CR) "type":=⟨_,hC,rfl⟩
 refine wpAny_call (codeAny_of_tree ?_)
 show wpAny _ _ (callAny (.ref c.CR) _) _ _ _
 repeat (any_goals (first|assumption|with_reducible refine wpAny_loadPart_at hC ?_|wp_step))
 refine ⟨rfl,?_⟩
 refine codeAny_call_builtin_at (Code.quiet_builtin _ (by decide +kernel)) entry_typeCall (wpAny_check_type_call_sub hC ?_)
 repeat (first|with_reducible refine wpAny_loadPart_at hC ?_|with_reducible refine wpAny_madeBy_exc hC ?_|wp_step)
 refine codeAny_call_builtin_code (Code.quiet_builtin _ FB.quiet) (wpAny_check_new_subT FB T hC ?_)
 refine codeAny_exc_new_subT (rest:=[v]) FB T hC ?_ (Nat.le_trans (show 1<=LIM by decide) YM)
 show wpAny _ _ _ _ _ _
 have keep:∀ b o,h.get? b=some o->((h.push {cls:=.type "tuple",data:=.seq [v].toArray}).push {cls:=.ref c.CR,data:=.fields #[.ref h.objs.size,.none,.none,.none,.bool false,.none]}).get? b=some o:=
  fun b o e=>Heap.get?_push_of_some _ (Heap.get?_push_of_some _ e)
 have hget:((h.push {cls:=.type "tuple",data:=.seq [v].toArray}).push
   {cls:=.ref c.CR,data:=.fields #[.ref h.objs.size,.none,.none,.none,.bool false,.none]}).get? (h.objs.size+1)=some
   {cls:=.ref c.CR,data:=.fields #[.ref h.objs.size,.none,.none,.none,.bool false,.none]}:=by heap_get
 have hsz1:((h.push {cls:=.type "tuple",data:=.seq [v].toArray}).push
   {cls:=.ref c.CR,data:=.fields #[.ref h.objs.size,.none,.none,.none,.bool false,.none]}).objs.size=h.objs.size+2:=by simp only[Heap.size_push]
 generalize ((h.push {cls:=.type "tuple",data:=.seq [v].toArray}).push {cls:=.ref c.CR,data:=.fields #[.ref h.objs.size,.none,.none,.none,.bool false,.none]})=h1_ at keep hget hsz1 ⊢
 have hC1:=keep _ _ hC
 have hcC:(Value.ref c.CR::bm).contains (.ref c.CR)=true:=by simp
 have X1_:c.K.In h1_:=X.keeps keep
 have I1:InstAt h1_ (h.objs.size+1) {cls:=.ref c.CR,data:=.fields #[.ref h.objs.size,.none,.none,.none,.bool false,.none]} c.CR none:=⟨hget,rfl,rfl,trivial⟩
 have isC:Looks (MD c) h1_ (isInstance (.ref (h.objs.size+1)) (.ref c.CR)) true:=I1.type.andThen fun A Q E s k z=>by
  obtain ⟨h2,g2,d2,t2,os2⟩:=s
  exact wpAny_isSubtype_exc (k _ _ hC1) (by rw[hcC];exact z)
 have hsc:fd.scope.kind=.function/\fd.scope.isCoroutine=false/\fd.scope.isGenerator=false:=by
  have:=hI.scope
  unfold Y0 at this
  simpa [and_assoc] using this
 have h0':∀ a o,c.h₀.get? a=some o->h1_.get? a=some o:=fun a o e=>keep a o (h0 a o e)
 refine wpAny_bind (isC.at ?_)
 rw[if_neg (by decide)]
 refine wpAny_bind (wpAny_holding ?_)
 refine special_fn (s:=⟨h1_,g,d,t,os⟩) (args:=[v]) X1_ I1 hI.init hI.fn (wpAny_call ?_)
 refine codeAny_call_def (fd:=fd) (body:=[.Assign [.Attribute (.Name "self" px) "message" ap] (.Name "message" p1) p]) (binds:=[("self",.ref (h.objs.size+1)),("message",v)]) (show (A.under (.builtin "type.__call__" {pos:=Value.ref c.CR::[v]})).depth < recursionLimit by rw[depth_under_make];exact hroom) (X1_ _ _ hI.obj) hI.data (c.T.nolimit.keeps h0') (codeRec_of X1_ hI.code) hI.bodyIs (hI.binds _ _ _ X1_) hI.cells ?_ (fun h2_ hns hk2_=>?_) hsc.2.1 hsc.2.2 hsc.1
 ·intro x hx
  simp only[List.mem_cons,List.not_mem_nil,or_false] at hx
  rcases hx with rfl|rfl
  ·exact hI.self
  ·exact hI.msg
 dsimp only at hns hk2_ ⊢
 have hsz2:h1_.objs.size<=h2_.objs.size:=Nat.le_of_lt hns.lt
 have X2_:c.K.In h2_:=X1_.keeps hk2_
 have e1:(("self":Str) == ("message":Str))=false:=by decide
 have lm:([("self",.ref (h.objs.size+1)),("message",v)]:List (Str × Value)).reverse.lookup ("message":Str)=some v:=by simp[List.lookup]
 have ls:([("self",.ref (h.objs.size+1)),("message",v)]:List (Str × Value)).reverse.lookup ("self":Str)=some (.ref (h.objs.size+1)):=by simp[List.lookup,e1]
 refine wpAny_execs_cons (plainObj_wpAny_Assign_Attribute (wpAny_Name (wpAny_loadName_local hsc.1 hI.msg hns lm ?_) (by decide)) rfl)
 refine wpAny_Name (wpAny_loadName_local hsc.1 hI.self hns ls ?_) (by decide)
 refine Z8o (s:=⟨h2_,g,d,_,os⟩) X2_ hR.set (hk2_ _ _ hget) rfl rfl rfl fun h3_ od k1 k2 k3 k4 k5 k6=>?_
 refine wpAny_execs_nil ?_
 rw[if_neg (by decide)]
 refine wpAny_pure ?_
 dsimp only at k1 k2 k3 k4 k5 k6 ⊢
 refine hQ h3_ _ (h.objs.size+1) _ _ h2_.objs.size od (fun b o e=>k1 b o (Nat.ne_of_lt (Nat.lt_succ_of_lt (Heap.lt_size e))) (hk2_ _ _ (keep _ _ e))) (by lia) (by lia) k2 rfl rfl rfl rfl k3 k4 k5
theorem Z49{env}{x}{Q}(hR:J8 c)(hh:A.handled=none)
  (h:wpAny (MD c) A x (fun v q0=>∃ e oe vs,v=.ref e/\c.K.In q0.heap/\q0.heap.get? e=some oe/\oe.cls=.ref c.CR/\oe.data=.fields vs/\vs[1]?=some .none/\E (.ref e) q0) E s) :
  wpAny (MD c) A (raiseStmt env (some x) none) Q E s:=by
 obtain ⟨nm,q,N,bs,bm,hdct,sn,sub,ab,col,dd,k0,k1,k2,k3,k5,hCK,hT⟩:=hR.cls
 unfold raiseStmt
 refine wpAny_bind (wpAny_mono h (fun v q0 h1_=>?_) fun O O x=>x)
 refine gG fun G gk=>?_
 obtain ⟨e,oe,vs,rfl,X,he,hc,hd,h1,hE⟩:=h1_
 obtain ⟨hp,g,d,tk,os⟩:=q0
 obtain ⟨oc,odi,oda,osl⟩:=oe
 refine gk ?_
 dsimp only at hc hd X he hE
 subst hc hd
 have hC:=X _ _ hCK
 have T:OwnTail hp bmE bm:=tail_of_in X hT
 have hcB:(Value.ref c.CR::bm).contains (.type "BaseException")=true:=by simp only[List.contains_cons,T.hasType PySem.F.excBase_Exception.hasBase,Bool.or_true]
 repeat (first|with_reducible refine wpAny_loadPart_at he ?_|with_reducible refine wpAny_loadPart_at hC ?_|(with_reducible refine wpAny_isSubtype_exc hC ?_;rw[hcB])|wp_step)
 rw[h1]
 repeat (first|with_reducible refine wpAny_loadPart_at he ?_|with_reducible refine wpAny_loadPart_at hC ?_|(with_reducible refine wpAny_isSubtype_exc hC ?_;rw[hcB])|wp_step)
 exact wpAny_raiseNew_none hh hE
set_option tactic.hygienic true in
theorem Z4a(hR:J8 c)(hE:EvS c I n)(hA:AOk (n+1) A F)(hF:FOk F)(hcn:F.cenv=none){e}{np cpos pos}{Q}(ho:okE (m+1) false F.env.kindOf e=true)(hg:Ys F.env.kindOf "Refusal"=true)(hst:Zz e=true)(hAct:Act c F s.heap ow σ)
  (hP:Z2 c F (SS F) (ZV c) s.heap ow s ((frz (I.ev e σ)).bind fun d σ=>(match d with|.str m=>.exc m σ|O=>.stuck:Out Fl)) Q E):wpAny (MD c) A (exec (.Raise (some (.Call (.Name "Refusal" np) [e] [] cpos)) none pos) F.env) Q E s:=by
 have hcb:F.cenv.isSome=false:=by rw[hcn];rfl
 have hA':AOk n A F:=hA.le (Nat.le_succ n)
 have hs:[e].all Zz=true:=by simp[hst]
 rw[arm_exec_Raise]
 refine wpAny_bind (wpAny_standAt (Z49 hR hA.handled ?_))
 refine wpAny_bind (wpAny_mono (E:=E) (Q:=fun v q0=>∃ e oe vs,v=.ref e/\c.K.In q0.heap/\q0.heap.get? e=some oe/\oe.cls=.ref c.CR/\oe.data=.fields vs/\vs[1]?=some .none/\E (.ref e) q0) ?_ (fun v s3_ h3_=>wpAny_bind (wpAny_standAt (wpAny_pure h3_))) fun O O x=>x)
 refine Yr hs (YH hAct hg (.inl hR.glob) ?_)
 refine callWith_of (P:=c.K.In) (by rw[Y9];rfl) (keeps_K hR.keep) ?_
 refine Yb ?_
 simp only[List.map_cons,List.map_nil]
 refine spliced_cons (hE (m+1) e A F s ow σ E _ (by rw[hcb];exact ho) hA' hF hAct (Z2.frzAt hF hP fun d s1_ v h1_ ow1 tk1 hA1 hS1 hr hP1_=>spliced_nil ?_))
 cases d with
 |str msg=>
  cases hr
  refine ⟨fun a o e=>hA1.h0 a o (c.X a o e),?_⟩
  have n0:c.n₀<=h1_.objs.size:=Nat.le_trans hA1.n0 hA1.pres.1
  refine Z6C (s:={s with heap:=h1_,toks:=tk1}) hR hA1.h0 hA.room fun h' tk e' oe vs dx od k1 k2 k3 k4 k5 k6 k7 k8 k9 k10 k11=>?_
  obtain ⟨a1,a2⟩:=hA1.keeps (h':=h') k2 k1
  exact ⟨e',oe,vs,rfl,fun a o e=>a1.h0 a o (c.X a o e),k4,k5,k7,k8,hP1_ (.ref e') h' ow1 tk a1 a2.ss ⟨e',.none,rfl,oe,vs,dx,od,_,_,Nat.le_trans n0 k3,k4,k5,k6,k7,k8,k9,k10,k11,by rw[if_neg (by decide)],by rw[if_pos rfl],.inl rfl⟩⟩
 |_=>exact hP1_.elim
structure J9(c:Cx):Prop where
 ga:findIn c.K (.ref c.CR) "__getattribute__"=some (some (.builtin "BaseException.__getattribute__"))
 no:findIn c.K (.ref c.CR) "message"=some none
 hook:findIn c.K (.ref c.CR) "__getattr__"=some none
 dict:hasDictIn c.K c.CR=true
 isBase:mroIn c.K c.CR (.type "BaseException")=some true
theorem Z8p{x dx}{ox od}{mm}{v}{Q}(hG:J9 c)(X:c.K.In s.heap)(hx:s.heap.get? x=some ox)(hcl:ox.cls=.ref c.CR)(hno:notCls ox=true)(hdd:ox.dict=some dx)
  (hd:s.heap.get? dx=some od) (hns:s.heap.Ns dx mm) (hv:mm "message"=some v) (hh:handedIn v=true) (h:Q v {s with toks:=s.toks+1}):wpAny (MD c) A (getAttr (.ref x) "message" true) Q E s:=by
 have I:InstAt s.heap x ox c.CR (some od):=⟨hx,hcl,hno,by rw[hdd];exact hd⟩
 obtain ⟨hp,g,d,t,os⟩:=s
 dsimp only at X hx hd hns I h
 have L0:=I.type (M:=MD c)
 have L1:=looks_findIn (M:=MD c) X hG.ga
 have L2:=looks_findIn (M:=MD c) X hG.hook
 have hkind:builtinKind "BaseException.__getattribute__"=some .slot:=by decide +kernel
 have hsplit:splitId "BaseException.__getattribute__"=some ("BaseException","__getattribute__"):=by decide +kernel
 have sub:Looks (MD c) hp (isInstance (.ref x) (.type "BaseException")) true:=L0.andThen (looks_mroIn X hG.isBase)
 have L3:=looks_find (M:=MD c) X I (findObj_own hG.dict hG.no rfl ((K2 hns hd "message").trans (by rw[hv])))
 unfold getAttr getAttrBy
 refine wpAny_bind (wpAny_mkText (wpAny_holding (wpAny_bind (L0.at (wpAny_bind (L1.at ?_))))))
 have hx2:(onTheHeap (Value.ref c.CR)&&Value.builtin "BaseException.__getattribute__"== Value.builtin "object.__getattribute__")=false:=by
  rw[show (Value.builtin "BaseException.__getattribute__"== Value.builtin "object.__getattribute__")=false by decide +kernel,Bool.and_false]
 dsimp only
 rw[if_neg (by rw[hx2];decide)]
 unfold getAttrByItsOwn
 have FB:ExcAttrFacts "Exception":=PySem.F.attr_Exception
 refine wpAny_bind ((show Looks (MD c) hp (hookBefore (.ref c.CR)) none from L2).at ?_)
 refine wpAny_bind (wpAny_attempt (wpAny_holding ?_))
 show wpAny _ _ (boundAndCalled (.builtin "BaseException.__getattribute__") (.ref x) (.str "message" t)) _ _ _
 unfold boundAndCalled
 rw[FB.ga.bind]
 refine wpAny_bind (wpAny_pure ?_)
 refine wpAny_call (codeAny_call_builtin FB.ga.plain PySem.F.entry_bexc_ga (@check_slot (MD c) _ _ ⟨hp,g,d,t+1,os⟩ "BaseException.__getattribute__" "BaseException" "__getattribute__" (.ref x) [.str "message" t] [] _ hkind hsplit sub (PySem.F.args_bexc_ga _ _) ?_))
 unfold Builtin.«object.__getattribute__»
 refine wpAny_bind (wpAny_pure (wpAny_bind (wpAny_pure (wpAny_bind (L0.at (wpAny_bind (L3.at ?_)))))))
 refine wpAny_pure ?_
 show wpAny _ _ (handedOut v) _ _ _
 rw[handedOut_of hh];exact wpAny_pure h
theorem Ja(name)(o):(Obj.dropName name o).cls=o.cls/\(Obj.dropName name o).dict=o.dict/\(Obj.dropName name o).slots=o.slots/\((∃ es n,o.data=.dict es n)->∃ es n,(Obj.dropName name o).data=.dict es n):=by
 rw[Obj.dropName_eq]
 obtain ⟨cl,d,dt,sl⟩:=o
 induction dt with
 |dict es n=>
  unfold Obj.dropNameByArray
  dsimp only
  generalize es.findIdx? _=w
  cases w<;>exact ⟨rfl,rfl,rfl,fun O=>⟨_,_,rfl⟩⟩
 |_=>exact ⟨rfl,rfl,rfl,fun ⟨O,U,h⟩=>nomatch h⟩
theorem ZaI{M}{a}{mm}{name}{Q}(hn:s.heap.Ns a mm)(hs:(mm name).isSome=true)
  (hQ:∀ h' v,h'.Ns a (fun x=>if x=name then v else mm x)->Heap.SameBut a s.heap h'->(∀ o,s.heap.get? a=some o->∃ o',h'.get? a=some o'/\o'.cls=o.cls/\o'.dict=o.dict/\o'.slots=o.slots/\∃ es n,o'.data=.dict es n)->Q true {s with heap:=h'}):wpAny M A (nsDel a name) Q E s:=by
 refine gG fun G gk=>?_
 obtain ⟨o,es,ep,ho,hd,hk,hm⟩:=id hn
 refine gk ?_
 have hany:es.any (fun O=>O.refKey)=false:=by
  rw[Array.any_eq_false'];intro e he;obtain ⟨n,t,h⟩:=hk e he;simp[DictEntry.refKey,h]
 have hsome:(mm name).isSome=es.any (fun O=>O.key.isStr name):=by
  rw[<-hm name];simp only[nsFind,findBy,Option.isSome_map]
  rw[Bool.eq_iff_iff];simp only[Array.find?_isSome,Array.any_eq_true]
  constructor
  ·rintro ⟨x,hx,hp⟩;obtain ⟨i,hi,rfl⟩:=Array.mem_iff_getElem.mp hx;exact ⟨i,hi,hp⟩
  ·rintro ⟨i,hi,hp⟩;exact ⟨_,Array.getElem_mem hi,hp⟩
 have hhas:nsHas name o=pure (es.any (fun O=>O.key.isStr name)):=by
  rw[nsHas_eq];unfold nsHasByArray;rw[hd]
  show (if (es.any fun x=>x.key.isStr name)=true then _ else _)=_
  generalize (es.any fun x=>x.key.isStr name)=b
  cases b<;>simp[hany]
 obtain ⟨q1,q2,q3,q4⟩:=Ja name o
 obtain ⟨es',n',hd'⟩:=q4 ⟨es,ep,hd⟩
 have hob:(s.heap.update a (Obj.dropName name)).get? a=some (Obj.dropName name o):=Heap.get?_update_self _ ho (Obj.isFreed_of_dict hd')
 have key:∃ v,(s.heap.update a (Obj.dropName name)).Ns a (fun x=>if x=name then v else mm x):=by
  obtain ⟨cl,d,dt,sl⟩:=o
  dsimp only at hd
  subst hd
  cases hi:es.findIdx? (fun O=>O.key.isStr name) with
  |some i=>
   exact ⟨nsFind (es.eraseIdxIfInBounds i) name,_,_,ep+1,Heap.get?_update_self _ ho (by rw[Obj.dropName_eq];unfold Obj.dropNameByArray;dsimp only;rw[hi]<;>rfl),(by rw[Obj.dropName_eq];unfold Obj.dropNameByArray;dsimp only;rw[hi]<;>rfl),hk.erase i,
    fun x=>by
     show nsFind (es.eraseIdxIfInBounds i) x=if x=name then nsFind (es.eraseIdxIfInBounds i) name else mm x
     by_cases hx:x=name
     ·rw[if_pos hx,hx]
     ·rw[if_neg hx,nsFind_erase_other hi hx,hm]⟩
  |none=>
   exact ⟨mm name,_,_,ep,Heap.get?_update_self _ ho (by rw[Obj.dropName_eq];unfold Obj.dropNameByArray;dsimp only;rw[hi]<;>rfl),(by rw[Obj.dropName_eq];unfold Obj.dropNameByArray;dsimp only;rw[hi]<;>rfl),hk,fun x=>by by_cases hx:x=name<;>simp[hx,hm]⟩
 obtain ⟨v,hv⟩:=key
 unfold nsDel
 refine wpAny_bind (wpAny_loadPart ho ?_)
 rw[hhas]
 refine wpAny_bind (wpAny_pure ?_)
 rw[<-hsome,hs]
 refine wpAny_bind (wpAny_updatePart ho (wpAny_pure ?_))
 exact hQ _ v hv (Heap.SameBut.update ..) fun o' e=>by rw[ho] at e;injection e with e;subst e;exact ⟨_,hob,q1,q2,q3,es',n',hd'⟩
theorem Act.raw{h h'}{mm m'}{x}(hAct:Act c F h ow σ)(hcn:F.cenv=none)(hx:ZM x σ.vars=none)(hxs:x≠("shared":Str))(hmm:h.Ns F.fenv.locals mm)(hs:Heap.SameBut F.fenv.locals h h')(hn:h'.Ns F.fenv.locals m')(hm:∀ y,y≠x->m' y=mm y)
  (hfr:∀ o,h.get? F.fenv.locals=some o->∃ o',h'.get? F.fenv.locals=some o'/\o'.cls=o.cls/\∃ es n,o'.data=.dict es n):Act c F h' ow σ/\SS F h ow h' ow:=by
 have he:F.env=F.fenv:=by unfold Frm.env;rw[hcn];rfl
 have S:=hAct.scp
 rw[hcn] at S
 obtain ⟨s1,s2,m0,S⟩:=S
 have hot:∀ b o,b≠F.fenv.locals->h.get? b=some o->h'.get? b=some o:=fun b o hb e=>(hs.2 b hb).trans e
 refine ⟨⟨⟨by rw[hs.1];exact hAct.pres.1,fun b o e n1 n2=>?_⟩,fun b o e=>?_,hAct.n0,fun b hb=>hAct.new b (by rw[hs.1] at hb;exact hb),hAct.fix,?_,fun e he'=>?_,hAct.head,hAct.ok,?_⟩,Nat.le_of_eq hs.1.symm,fun b hb q=>?_,fun O O=>⟨id,id⟩⟩
 ·obtain ⟨o2_,e2_,s2_,k2_⟩:=hAct.pres.2 b o e n1 n2
  exact ⟨o2_,hot b o2_ (Nat.ne_of_lt (Nat.lt_of_lt_of_le (Heap.lt_size e) S.low)) e2_,s2_,k2_⟩
 ·exact hot b o (Nat.ne_of_lt (Nat.lt_of_lt_of_le (Heap.lt_size e) (Nat.le_trans hAct.n0 S.low))) (hAct.h0 b o e)
 ·exact hAct.pool.grow (fun b o e q=>hot b o (by rintro rfl;rw[S.own] at q;rcases q with q|q<;>cases q) e) fun O=>⟨Iff.rfl,Iff.rfl⟩
 ·obtain ⟨hk,L,o,es,n,hf,hg,hc,hd,hn⟩:=hAct.frames e he'
  by_cases q:L=F.fenv.locals
  ·subst q
   obtain ⟨o',hg',h1,es',n',h3⟩:=hfr o hg
   exact ⟨hk,_,o',es',n',hf,hg',h1.trans hc,h3,hn⟩
  ·exact ⟨hk,L,o,es,n,hf,hot L o q hg,hc,hd,hn⟩
 ·rw[hcn]
  refine ⟨s1,s2,m',hn,by rw[hm _ (Ne.symm hxs),XY hmm S.ns];exact S.nsh,S.low,S.own,fun y k e=>?_,S.apart,fun y lw e=>?_⟩
  ·refine gG fun G gk=>?_
   obtain ⟨h1,h2,h3,w,h4⟩:=S.cells y k e
   refine gk ?_
   exact ⟨h1,h2,h3,w,h4.sameBut hs h2⟩
  ·obtain ⟨w,hw,hr⟩:=S.vars y lw e
   refine ⟨w,?_,hr.mono c (fun b o hw e=>⟨o,hot b o (by rintro rfl;rw[S.own] at hw;cases hw) e,.refl _⟩) (fun b o hw e=>⟨o,hot b o (by rintro rfl;rw[S.own] at hw;cases hw) e,.refl _⟩) (.refl _) fun b hw O=>hw⟩
   rcases hw with ⟨k1,hw⟩|⟨h1,k,h2,h3⟩
   ·exact .inl ⟨k1,by rw[hm y (by rintro rfl;rw[hx] at e;exact Z3 e),XY hmm S.ns];exact hw⟩
   ·exact .inr ⟨h1,k,h2,h3.sameBut hs (S.cells y k h2).2.1⟩
 ·refine ⟨rfl,fun o e=>⟨o,hot b o ?_ e,.refl _⟩⟩
  rintro rfl
  rcases q with q|⟨O,q1,O⟩
  ·rw[S.own] at q;cases q
  ·rw[he] at q1;exact q1 rfl
theorem Kj{M}{x}{v}{mm}{Q}(hAct:Act c F s.heap ow σ)(hcn:F.cenv=none)(hx:ZM x σ.vars=none)(hxs:x≠("shared":Str))(hk:F.env.kindOf x=some .local)(hmm:s.heap.Ns F.fenv.locals mm)
  (k:∀ h',Act c F h' ow σ->SS F s.heap ow h' ow->h'.Ns F.fenv.locals (fun y=>if y=x then some v else mm y)->Heap.SameBut F.fenv.locals s.heap h'->Q () {s with heap:=h',toks:=s.toks+1}):wpAny M A (storeName F.env x v) Q E s:=by
 have he:F.env=F.fenv:=by unfold Frm.env;rw[hcn];rfl
 rw[he] at hk ⊢
 refine Xp hAct.ok.1.kind hk hmm fun h' hn hs ho=>?_
 obtain ⟨a,b⟩:=hAct.raw hcn hx hxs hmm hs hn (fun y hy=>if_neg hy) fun o e=>let ⟨o',e',c1,_,_,es,n,d⟩:=ho o e;⟨o',e',c1,es,n,d⟩
 exact k h' a b hn hs
theorem Z6D{M}{x}{pos}{mm}{Q}(hAct:Act c F s.heap ow σ)(hcn:F.cenv=none)(hx:ZM x σ.vars=none)(hxs:x≠("shared":Str))(hk:F.env.kindOf x=some .local)(hmm:s.heap.Ns F.fenv.locals mm)
  (k:∀ h' tk,Act c F h' ow σ->SS F s.heap ow h' ow->Q () {s with heap:=h',toks:=tk}):wpAny M A (do bindName F.env x .none;unbindBehindTheSuite F.env x pos) Q E s:=by
 have he:F.env=F.fenv:=by unfold Frm.env;rw[hcn];rfl
 refine wpAny_bind (wpAny_bindName (Kj hAct hcn hx hxs hk hmm fun h1_ a1 b1 n1 s1=>?_))
 unfold unbindBehindTheSuite
 refine wpAny_onRaise ?_
 unfold unbindName
 refine wpAny_bind (wpAny_point (wpAny_bind ?_))
 unfold deleteName
 have hp:(F.env.scope.kind == .class||(F.env.scope.kind == .module&&F.env.locals != F.env.globals))=false:=by rw[he,hAct.ok.1.kind];rfl
 simp only[hk,hp]
 rw[if_neg (by decide)]
 rw[he]
 refine wpAny_bind (ZaI (s:={s with heap:=h1_,toks:=s.toks+1}) n1 (by rw[if_pos rfl];rfl) fun h2_ u n2 s2 o2=>?_)
 simp only[Bool.not_true,Bool.false_eq_true,if_false]
 obtain ⟨a2,b2⟩:=a1.raw hcn hx hxs n1 s2 n2 (fun y hy=>if_neg hy) fun o e=>let ⟨o',e',c1,_,_,es,n,d⟩:=o2 o e;⟨o',e',c1,es,n,d⟩
 exact wpAny_pure (wpAny_point (k h2_ _ a2 (b1.trans b2)))
theorem Z4b{M}{Q}{xa}{msg}{tb}(hR:J8 c)(X:c.K.In s.heap)(hf:Yn c s.heap xa msg tb)(hq:Q true s):wpAny M A (excMatches (.ref xa) (.ref c.CR)) Q E s:=by
 obtain ⟨h,g,d,t,os⟩:=s
 obtain ⟨O,O,O,O,O,O,O,O,O,O,O,O,O,O,O,O,hCK,hT⟩:=hR.cls
 obtain ⟨O,O,O,O,O,O,O,e2,e3⟩:=hf
 exact wpAny_excMatches_sub_self (X _ _ hCK) e2 e3 ((tail_of_in X hT).hasType PySem.F.excBase_Exception.hasBase) hq
theorem Z4c{E1 E2 E3}{Q}{xa}{msg err y}{tb}{p1 p2 p3 p4}(hG:J9 c)(hF:FOk F)(hcn:F.cenv=none)(hAct:Act c F s.heap ow σ)(hf:Yn c s.heap xa msg tb)
  (hle:ZM err σ.vars=none) (hes:err≠("shared":Str)) (k3:Zw F.env.kindOf y=true) (k4:ZI F.env.kindOf err=true) (k6:F.env.kindOf err=some .local) (k8:err≠("message":Str))
  (hQ:∀ h' ow' tk mm,Act c F h' ow' {σ with vars:=ZA y (.fr (.str msg)) σ.vars}->SS F s.heap ow h' ow'->h'.Ns F.fenv.locals mm->Q .next {s with heap:=h',toks:=tk}) :
  wpAny (MD c) A (setFlight (.ref xa) none) (fun O s=>wpAny (MD c) A (storeName F.env err (.ref xa)) (fun O s=>wpAny (MD c) A (execs [.Assign [.Name y p1] (.Attribute (.Name err p2) "message" p3) p4] F.env) Q E3 s) E2 s) E1 s:=by
 have he:F.env=F.fenv:=by unfold Frm.env;rw[hcn];rfl
 refine Yw hAct hf fun h4 g1 g2 g3=>?_
 obtain ⟨oe,vs,dx,od,md,t,e1,e2,e3,e4,e5,e6,e7,e8,e9,e10,e11,e12⟩:=g3
 have S:=g1.scp
 rw[hcn] at S
 obtain ⟨O,O,mm,S⟩:=S
 refine Kj (s:={s with heap:=h4}) g1 hcn hle hes k6 S.ns fun h5 r1 r2 r3 r4=>?_
 have hxl:xa≠F.fenv.locals:=by
  rintro rfl
  obtain ⟨o',es,ep,x1,x2,O⟩:=S.ns
  rw[e2] at x1;obtain rfl:=Option.some.inj x1
  rw[e5] at x2;cases x2
 have hdx:∃ od' md',h5.get? dx=some od'/\h5.Ns dx md'/\md' "message"=some (.str msg t):=by
  by_cases q:dx=F.fenv.locals
  ·subst q
   obtain ⟨o',es,ep,x1,x2⟩:=id r3
   refine ⟨o',_,x1,r3,?_⟩
   rw[if_neg (Ne.symm k8),XY S.ns e9]
   exact e11
  ·exact ⟨od,md,(r4.2 dx q).trans e7,e9.sameBut r4 q,e11⟩
 refine gG fun G gk=>?_
 obtain ⟨od',md',y1,y2,y3⟩:=hdx
 refine gk ?_
 have k6':=k6
 have k4':=k4
 have kk:=k3
 rw[he] at k4' k6' ⊢
 refine wpAny_execs_cons (wpAny_Assign_Name (Attribute_any_ (wpAny_Name (wpAny_loadName_local r1.ok.1.kind k6' r3 (by rw[if_pos rfl]) ?_) (Vz k4').2.1) (by rw[arm_eval_Attribute,Xe rfl])) rfl)
 refine Z8p (s:={s with heap:=h5,toks:=s.toks+1}) hG (fun a o e=>r1.h0 a o (c.X a o e)) ((r4.2 xa hxl).trans e2) e3 (by unfold notCls;rw[e5]) e4 y1 y2 y3 rfl ?_
 rw[<-he]
 refine Yo (s:={s with heap:=h5,toks:=s.toks+1+1}) hF r1 hcn kk (ZK.fr (.str msg t)) fun h6 ow6 tk6 u1 u2=>?_
 have S6:=u1.scp
 rw[hcn] at S6
 obtain ⟨O,O,mm6,S6⟩:=S6
 exact wpAny_execs_nil (hQ h6 ow6 tk6 mm6 u1 (g2.ss.trans (r2.trans u2)) S6.ns)
inductive ZaJ(kd:Str->Option NameKind)(cn err y:Str):Prop
 |mk (O:Ys kd cn=true) (O:Zw kd y=true) (O:ZI kd err=true) (O:kd err=some .local) (O:err≠y) (O:err≠("message":Str)) (O:err≠("shared":Str))
theorem ZaJ.of{kd}{cn err y err'}(h:(Ys kd cn&&Zw kd err&&Zw kd y&&ZI kd err'&&ZI kd err&&kd err == some .local&&err != y&&err != ("message":Str))=true):ZaJ kd cn err y:=by
 simp only[Bool.and_eq_true,beq_iff_eq,bne_iff_ne] at h
 obtain ⟨⟨⟨⟨⟨⟨⟨k1,k2⟩,k3⟩,k4⟩,k5⟩,k6⟩,k7⟩,k8⟩:=h
 unfold Zw at k2
 rw[Bool.and_eq_true] at k2
 exact ⟨k1,k3,k5,k6,k7,k8,by simpa using k2.1⟩
theorem Z8q(hR:J8 c)(hG:J9 c)(hX:J5 c I n)(hA:AOk n A F)(hF:FOk F)(hcn:F.cenv=none){body}{hd}{pos}{Q}(hb:body.all (okS m F.env.kindOf)=true)(hh:okH F.env.kindOf hd=true)(hAct:Act c F s.heap ow σ)
  (hP:Z2 c F (SS F) (ZV c) s.heap ow s (JB I body hd σ) Q E):wpAny (MD c) A (exec (.Try body [hd] [] [] pos) F.env) Q E s:=by
 have he:F.env=F.fenv:=by unfold Frm.env;rw[hcn];rfl
 unfold JB at hP
 unfold okH at hh
 generalize hv hd=v at hP hh
 induction v with
 |bad=>exact hP.elim
 |mk cn p0 err y p1 err' p2 a p3 p4 p5=>
 have hP2:Z2 c F (SS F) (ZV c) s.heap ow s (if cn="Refusal"/\err'=err/\a="message"/\y≠err then Z9n err y (I.exs body σ) else .stuck) Q E:=hP
 clear hP
 obtain ⟨⟨rfl,rfl,rfl,hye⟩,hP⟩:=PostF.ite hP2
 clear hP2
 obtain ⟨k1,k3,k5,k6,k7,k8,hes⟩:=ZaJ.of hh
 refine wpAny_Try_except (hX m body A F s ow σ _ _ hb hcn hA hF hAct ?_)
 cases hx:I.exs body σ with
 |stuck=>rw[hx] at hP;exact hP.elim
 |ok f σ'=>
  rw[hx] at hP
  intro fl h' ow' tk a1 a2 a3
  have:=hP fl h' ow' tk a1 a2 a3
  induction fl with
  |next=>exact wpAny_execs_nil this
  |_=>exact this
 |exc msg σ'=>
  rw[hx] at hP
  obtain ⟨hle,hP⟩:=PostF.ite hP
  rintro e h' ow' tk a1 a2 ⟨xa,tb,rfl,hfl⟩
  refine Xv (s:={s with heap:=h',toks:=tk}) hA.frames a1 (by rw[he]) hfl fun h2 ow2 T b1 b2 b3=>?_
  refine Yw (s:={s with heap:=h2,toks:=tk}) b1 b3 fun h3 d1 d2 d3=>?_
  refine wpAny_handleBy_cons (codeAny_handlers_test (YH (s:={s with heap:=h3,toks:=tk}) d1 k1 (.inl hR.glob) (Z4b (s:={s with heap:=h3,toks:=tk}) hR (fun a o e=>d1.h0 a o (c.X a o e)) d3 ?_))) (by intro q;cases q)
  refine codeAny_handlers_suite_as (Z4c (s:={s with heap:=h3,toks:=tk}) hG hF hcn d1 d3 hle hes k3 k5 k6 k8 fun h6 ow6 tk6 mm u1 u2 u3=>?_)
  refine Z6D (s:={s with heap:=h6,toks:=tk6}) u1 hcn (by dsimp only;rw[Ye _ k7];exact hle) hes (by rw[he] at k6 ⊢;exact k6) u3 fun h7 tk7 w1 w2=>?_
  exact hP .next h7 ow6 tk7 w1 (((a2.trans b2.ss).trans d2.ss).trans (u2.trans w2)) rfl
structure Jb(c:Cx):Prop where
 all:J4 c
 ref:J8 c
 get:J9 c
theorem Z8r(cx:Jb c)(hE:EvS c I n)(hT:TrS c I n)(hU:Z6s c I n)(hX:J5 c I n):∀ (m:Nat) (st:Stmt) (A:Around) (F:Frm) (s:Shared) (ow:Z5) (σ:St) (E:Value->Shared->Prop) (Q:Flow->Shared->Prop),okS m F.env.kindOf st=true->F.cenv=none->AOk (n+1) A F->FOk F->Act c F s.heap ow σ ->
  Z2 c F (SS F) (ZV c) s.heap ow s (Yd I st σ) Q E->wpAny (MD c) A (exec st F.env) Q E s:=by
 intro m st A F s ow σ E Q hok hcn hA hF hAct hP
 have hA':AOk n A F:=hA.le (Nat.le_succ n)
 cases m with
 |zero=>exact Z4 hok
 |succ m=>
 have hok:ZaE (okE (m+1) false F.env.kindOf) (okS m F.env.kindOf) F.env.kindOf st=true:=hok
 unfold ZaE at hok
 unfold Yd at hP
 generalize sv st=v at hok hP
 induction v with
 |ret0 p=>exact wpAny_Return_none (hP (.ret .none) s.heap ow s.toks hAct (.refl _ _) ⟨.none,.tmp,rfl,rfl,.none⟩)
 |retI t a b q p=>obtain ⟨h1,h2,h3⟩:=b3 hok;exact Z15 hE hT hA' hF hcn h1 h2 h3 hAct hP
 |ret e p=>exact Z2b hE hA' hF hcn hok hAct hP
 |asgL x px es q p=>
  obtain ⟨h1,h2⟩:=b2 hok
  have hP:=(show Z2 c F (SS F) (ZV c) s.heap ow s (if x="pool" then Xi I x es σ else Ku I x es σ) Q E from hP)
  refine Z2.ite_el hP (fun q_ hP=>?_) fun q_ hP=>?_
  ·exact Z1d hE hA' hF hcn h1 h2 hAct hP
  ·exact Z18 hE hA' hF hcn h1 h2 hAct hP
 |asgN x px e p=>obtain ⟨h1,h2⟩:=b2 hok;exact Z17 hE hU hA' hF hcn h1 h2 hAct hP
 |asgT ts k q e p h=>obtain ⟨h1,h2⟩:=b2 hok;exact Z16 hE hA' hF hcn h1 h2 h hAct hP
 |asgS x px i sp e p=>obtain ⟨h1,h2,h3⟩:=b3 hok;exact Z2l hE hA' hF hcn h1 h2 h3 hAct hP
 |asgA x px a ap e p=>obtain ⟨h1,h2⟩:=b2 hok;exact Z1c cx.all hE hA' hF hcn h1 h2 hAct hP
 |asgB x px a ap i sp e p=>obtain ⟨h1,h2⟩:=b2 hok;exact J7 cx.all hE hA' hF hcn h1 h2 hAct hP
 |aug x px op e p=>obtain ⟨h1,O,h3⟩:=b3 hok;exact Z8l hE hA' hF hcn h1 h3 hAct hP
 |«for» t it b p=>obtain ⟨h1,h2,h3,h4⟩:=b4 hok;exact Z8k hE hX hA' hF hcn h1 h2 h3 h4 hAct hP
 |whl t b p=>obtain ⟨h1,h2⟩:=b2 hok;exact Z44 hT hX hA' hF hcn h1 h2 hAct hP
 |ite t a b p=>obtain ⟨h1,h2,h3⟩:=b3 hok;exact ZaF hT hX hA' hF hcn h1 h2 h3 hAct hP
 |rai cn np e q p=>
  obtain ⟨h1,h2,h3⟩:=b3 hok
  have hP:=(show Z2 c F (SS F) (ZV c) s.heap ow s (if cn="Refusal" then Z8E I e σ else .stuck) Q E from hP)
  split at hP
  ·rename_i q;subst q
   exact Z4a cx.ref hE hA hF hcn h1 h2 h3 hAct hP
  ·exact hP.elim
 |«try» b h p=>obtain ⟨h1,h2⟩:=b2 hok;exact Z8q cx.ref cx.get hX hA' hF hcn h1 h2 hAct hP
 |«mut» x px m ap args q p=>
  refine gG fun G gk=>?_
  obtain ⟨hok,h5⟩:=b2 hok
  obtain ⟨h1,h2,h3,h4⟩:=b4 hok
  refine gk ?_
  exact Z6v hE hA' hF hcn h1 h2 h3 (of_decide_eq_true h4) h5 hAct hP
 |pass p=>exact wpAny_Pass (hP .next s.heap ow s.toks hAct (.refl _ _) rfl)
 |cont p=>exact wpAny_Continue (hP .cont s.heap ow s.toks hAct (.refl _ _) rfl)
 |bad=>exact Z4 hok
theorem Z6E(cx:Jb c)(hE:EvS c I n)(hT:TrS c I n)(hU:Z6s c I n)(hX:J5 c I n):J5 c (step I) (n+1):=by
 intro m body
 induction body with
 |nil=>
  intro A F s ow σ E Q O O O O hAct hP
  exact wpAny_execs_nil (hP .next s.heap ow s.toks hAct (.refl _ _) rfl)
 |cons st rest ih=>
  intro A F s ow σ E Q hok hcn hA hF hAct hP
  simp only[List.all_cons,Bool.and_eq_true] at hok
  have hP:Z2 c F (SS F) (ZV c) s.heap ow s ((Yd I st σ).bind fun f σ=>match f with
   |.next=>ZB I rest σ
   |f=>.ok f σ) Q E:=hP
  refine wpAny_execs_cons (Z8r cx hE hT hU hX m st A F s ow σ E _ hok.1 hcn hA hF hAct ?_)
  cases hx:Yd I st σ with
  |stuck=>rw[hx] at hP;exact hP.elim
  |exc m' σ'=>rw[hx] at hP;exact hP
  |ok f σ'=>
   rw[hx] at hP
   intro fl h' ow' tk a1 a2 a3
   induction f with
   |next=>
    have a3:fl=.next:=a3
    subst a3
    exact ih A F {s with heap:=h',toks:=tk} ow' σ' E Q hok.2 hcn hA hF a1 (Z2.ssAt (o:=ZB I rest σ') hP a2)
   |brk=>
    have a3:fl=.brk:=a3
    subst a3
    exact hP .brk h' ow' tk a1 a2 rfl
   |cont=>
    have a3:fl=.cont:=a3
    subst a3
    exact hP .cont h' ow' tk a1 a2 rfl
   |ret lv=>
    obtain ⟨w,o,rfl,ho,hl⟩:=a3
    exact hP (.ret w) h' ow' tk a1 a2 ⟨w,o,rfl,ho,hl⟩
theorem W3:∀ (xs:List Str) (vs:List Value),xs.length=vs.length->∀ x∈xs,((xs.zip vs).lookup x).isNone=false:=fun O U V O1 O2=>match O,U,V,O1,O2 with
 |[],O,U,x,hx=>by simp at hx
 |O::U,[],h,V,O1=>by simp at h
 |y::xs,v::vs,h,x,hx=>by
  simp only[List.zip_cons_cons,List.lookup_cons]
  by_cases q:x=y
  ·subst q;simp
  ·have q':(x == y)=false:=by simpa using q
   rw[q']
   exact W3 xs vs (by simpa using h) x ((List.mem_cons.mp hx).resolve_left q)
theorem Z1e{α β:Type}{f g:α->Option β}:∀ {l:List α},(∀ x∈l,f x=g x)->l.filterMap f=l.filterMap g
 |[],O=>rfl
 |x::l,h=>by
  rw[List.filterMap_cons,List.filterMap_cons,h x List.mem_cons_self,Z1e fun y hy=>h y (List.mem_cons_of_mem _ hy)]
theorem Jd:∀ (xs:List Str) (vs:List Value),xs.length=vs.length->xs.Nodup->xs.filterMap (fun n=>((xs.zip vs).lookup n).map fun v=>(n,v))=xs.zip vs:=fun O U V O1=>match O,U,V,O1 with
 |[],O,U,V=>rfl
 |O::U,[],h,V=>by simp at h
 |y::xs,v::vs,h,hn=>by
  rw[List.nodup_cons] at hn
  rw[List.zip_cons_cons,List.filterMap_cons]
  simp only[List.lookup_cons,beq_self_eq_true,Option.map_some]
  congr 1
  refine Eq.trans (Z1e fun x hx=>?_) (Jd xs vs (by simpa using h) hn.2)
  have q':(x == y)=false:=by
   rw[beq_eq_false_iff_ne]
   rintro rfl
   exact hn.1 hx
  rw[q']
theorem Z8s{α:Type}{L X Y Z R:α}{a b}(h:L=if a=true then X else if b=true then Y else Z)(h1:a=false)(h2:b=false)(h3:Z=R):L=R:=by
 subst h1 h2 h3
 exact h
theorem Z1f{p}{name}{body}{sc}{pm code doc}{vs}(hp:WB p=true)(hl:(p.args.map (fun O=>O.arg)).length=vs.length) :
  bindArgs (docDef name p body sc pm code doc) ⟨vs,[]⟩=pure ((p.args.map (fun O=>O.arg)).zip vs):=by
 unfold WB at hp
 simp only[Bool.and_eq_true,List.isEmpty_iff,Option.isNone_iff_eq_none,decide_eq_true_eq] at hp
 obtain ⟨⟨⟨⟨⟨h1,h2⟩,h3⟩,h4⟩,h5⟩,h6⟩:=hp
 obtain ⟨po,ar,va,ko,kd,kw,de⟩:=p
 dsimp only at *
 subst h1 h2 h3 h4 h5
 refine Z8s (a:=decide (vs.length > (ar.map (fun O=>O.arg)).length)&&true) rfl ?_ ?_ ?_
 ·rw[decide_eq_false (by lia)];rfl
 ·refine Eq.trans (b:=!((((ar.map (fun O=>O.arg)).take ((ar.map (fun O=>O.arg)).length - (List.drop (0 - (ar.map (fun O=>O.arg)).length) ([]:List Value)).length)).filter fun n=>(((ar.map (fun O=>O.arg)).zip vs).lookup n).isNone).isEmpty)) rfl ?_
  rw[List.drop_nil,List.length_nil,Nat.sub_zero,List.take_length,List.filter_eq_nil_iff.mpr fun x hx=>by rw[W3 _ _ hl x hx];decide]
  rfl
 ·show (forIn (List.zip _ (List.drop (0 - (ar.map (fun O=>O.arg)).length) ([]:List Value))) _ _ >>= _)=_
  rw[List.drop_nil,List.zip_nil_right]
  refine Eq.trans (b:=pure (((ar.map PySem.Arg.arg)++[]).filterMap fun n=>(((ar.map PySem.Arg.arg).zip vs).lookup n).map fun v=>(n,v))) rfl ?_
  simp only[List.append_nil,Jd _ _ hl h6]
noncomputable def Z2o(p:Str × Nat):Bool:=(WN p.2).any fun d=>d.body.all (okS 30 fun x=>d.scope.names.lookup x)&&(Xy d).all (KZ d.scope)
theorem Z4d:W4.all Z2o=true:=by kernel_rfl
theorem ZaK{st}{d}(h:Z65 st=some d):Zbs st=some ⟨Xy d,d.body,d.scope⟩:=by
 cases st with
 |FunctionDef n a b dl r t sc x y p=>cases dl with
  |nil=>cases r with
   |none=>cases t with
    |nil=>exact Option.some.inj h▸rfl
    |cons=>exact Z3 h
   |some=>exact Z3 h
  |cons=>exact Z3 h
 |_=>exact Z3 h
theorem ZcA{i}{d}(h:WN i=some d):fn i=some ⟨Xy d,d.body,d.scope⟩:=by
 unfold WN at h
 unfold fn
 obtain ⟨st,e,h⟩:=Option.bind_eq_some_iff.mp h
 rw[e]
 exact ZaK h
theorem Z4e(hX:J5 c I n):Z0S c (step I) (n+1):=by
 intro i d ds pl fr A s ow σ vs R a o pm code doc hd ⟨f,hf⟩ hG hfr hh hdep hun ho hdat hcr hds hP
 obtain ⟨d',hd',O,O,hpa,hps⟩:=Z1Z hf
 rw[hd] at hd';obtain rfl:=Option.some.inj hd'
 have hbo:Z2o (f,i)=true:=List.all_eq_true.mp Z4d _ (mem_of_lookup hf)
 unfold Z2o at hbo
 dsimp only at hbo
 simp only[hd,Option.any_some,Bool.and_eq_true] at hbo
 obtain ⟨hb1,hb2⟩:=hbo
 have hP:Z8Y c fr s ow (Yg I i ds pl) R:=hP
 unfold Yg at hP
 rw[ZcA hd] at hP
 dsimp only at hP
 split at hP
 case isFalse=>exact hP.elim
 rename_i hlen
 have hsc:d.scope.kind=.function/\d.scope.isCoroutine=false/\d.scope.isGenerator=false:=by
  have:=hps
  unfold Y0 at this
  simpa [and_assoc] using this
 have hlv:(Xy d).length=vs.length:=hlen.trans hds.1.symm
 refine codeAny_call_function (fd:=docDef d.name d.params d.body d.scope pm code doc) (body:=d.body) (by unfold recursionLimit;omega) (hG.h0 _ _ ho) hdat hsc.2.1 hsc.2.2 rfl (hcr.keeps hG.h0) ?_
 rw[Z1f hpa hlv]
 refine wpAny_pure ?_
 refine Z3T (s:=s) hG hps (List.all_eq_true.mp hb2) hlv hds fun h ow' tk hAct=>⟨c.T.nolimit.keeps hAct.h0,codeAny_func ?_⟩
 have hA':AOk n (A.deeper (Xx d s.heap.objs.size a code)) (Vy (Xx d s.heap.objs.size a code) s.heap ow fr):=by
  refine ⟨hh,Around.frames_deeper hfr,?_,?_⟩
  ·show A.depth+1+n<=900;omega
  ·show A.units+3+10*n<=9000;omega
 refine hX 30 d.body (A.deeper (Xx d s.heap.objs.size a code)) (Vy (Xx d s.heap.objs.size a code) s.heap ow fr) {s with heap:=h,toks:=tk} ow' _ _ _ hb1 rfl hA' (K1 _ _ _ _) hAct ?_
 generalize I.exs d.body ⟨YU (Xy d) ds [],[],[],pl⟩=ww at hP
 induction ww with
 |stuck=>exact hP.elim
 |exc msg σ'=>
  intro e h' ow'' tk' a1 a2 a3
  refine gG fun G gk=>?_
  obtain ⟨x,tb,rfl,hfl⟩:=a3
  refine gk ?_
  exact Z0I (s:={s with heap:=h',toks:=tk'}) (Around.frames_deeper hfr) a1 rfl hfl fun h2 ow2 T b1 b2 b3=>hP _ _ σ' x T h2 ow2 tk' b1 rfl rfl rfl rfl b3
 |ok fl σ'=>
  induction fl with
  |next=>
   intro f' h' ow'' tk' a1 a2 a3
   have a3:f'=.next:=a3
   subst a3
   exact hP _ _ σ' .none .tmp h' ow'' tk' a1 rfl rfl rfl rfl rfl .none
  |ret lv=>
   intro f' h' ow'' tk' a1 a2 a3
   obtain ⟨v,o',rfl,ho',hl⟩:=a3
   exact hP _ _ σ' v o' h' ow'' tk' a1 rfl rfl rfl rfl ho' hl
  |brk=>exact hP.elim
  |cont=>exact hP.elim
theorem Kk(cx:Jb c):∀ n,EvS c (itp n) n/\TrS c (itp n) n/\Z6s c (itp n) n/\J5 c (itp n) n/\Z0S c (itp n) n:=fun O=>match O with
 |0=>by
  refine ⟨?_,?_,?_,?_,?_⟩
  ·intro m e A F s ow σ E Q h1 h2 h3 h4 hP;exact hP.elim
  ·intro m e A F s ow σ E Q h1 h2 h3 h4 hP;exact hP.elim
  ·intro m elt gens sc pos A F s ow σ E Q y py spos h1 h2 h3 h4 h5 h6 h7 hP;exact hP.elim
  ·intro m body A F s ow σ E Q h1 h2 h3 h4 h5 hP;exact hP.elim
  ·intro i d ds pl fr A s ow σ vs R a o pm code doc h1 h2 h3 h4 h5 h6 h7 h8 h9 h10 h11 hP;exact hP.elim
 |n+1=>by
  obtain ⟨h1,h2,h3,h4,h5⟩:=Kk cx n
  have e1:=Z8g cx.all h1 h2 h5
  exact ⟨e1,Z8i e1 h1 h2,Z6t h1 h2,Z6E cx h1 h2 h3 h4,Z4e h4⟩
end NZ.Internal
namespace NZ.Internal
open PySem PySem.Calls PyProof.Rows PySem.W
structure ZaL(K:Frag)(C fI:Addr)(fd:FuncData)(sets:List Str):Prop where
 keep:keepIn K (.ref C)=true
 init:findIn K (.ref C) "__init__"=some (some (.ref fI))
 code:codeIn K fd.code fd.qualname=true
 set:findIn K (.ref C) "__setattr__"=some (some (.builtin "object.__setattr__"))
 dict:(clsIn K C).any (fun O=>O.hasDict)=true
 tak:∀ x∈sets,takerIn K C x=some none
theorem VG{K}{C fI}{fd}{sets}(h:Ko K C fI fd sets=true):ZaL K C fI fd sets:=by
 obtain ⟨h,h6⟩:=b2 h
 obtain ⟨h,h5⟩:=b2 h
 obtain ⟨h1,h2,h3,h4⟩:=b4 h
 exact ⟨h1,beq_iff_eq.mp h2,h3,beq_iff_eq.mp h4,h5,fun x hx=>beq_iff_eq.mp (List.all_eq_true.mp h6 x hx)⟩
theorem Z6F{K}{fI}{fd}(h:K.lookup fI=some (Ua fd)):typeIn K (.ref fI)=some (.type "function"):=by
 show (K.lookup fI).map (fun O=>O.cls)=_
 rw[h];rfl
theorem Z2p{l:List (Str × NameKind)}(h:l.all (fun x=>x.2 != .cell)=true){x:Str × NameKind}(hx:x∈l):x.2≠.cell:=bne_iff_ne.mp (List.all_eq_true.mp h x hx)
theorem ZdP{α β:Type}{a b d e f:α × β}{p:α × β}(h:p∈[a,b,d,e,f]):p.1∈[a.1,b.1,d.1,e.1,f.1]:=List.mem_map_of_mem (f:=(fun O=>O.1)) h
theorem ZdQ{α β:Type}{a b:α × β}{p:α × β}(h:p∈[a,b]):p.1∈[a.1,b.1]:=List.mem_map_of_mem (f:=(fun O=>O.1)) h
noncomputable def Z2q:Nat->Pos:=fun O=>match O with
 |0=>match Xz "Refusal" with|[.Assign [.Attribute (.Name O p) U V] O1 O2]=>p|O=>⟨0,0,0,0⟩
 |1=>match Xz "Refusal" with|[.Assign [.Attribute O U p] V O1]=>p|O=>⟨0,0,0,0⟩
 |O=>match Xz "Refusal" with|[.Assign O U p]=>p|O=>⟨0,0,0,0⟩
noncomputable def Kl{α:Type}(t:Sem α)(o:Obj):Sem α:=match t with
 |.load O U k=>k o
 |t=>t
theorem Je{s}{fd}{args}{binds}{T}{o}(h:s.heap.get? T=some o)(e1:bindArgs fd args=(load T).bind (Kl (bindArgs fd args)))(e2:Kl (bindArgs fd args) o=pure binds):BindsTo s fd args binds:=fun M A E Q q=>by
 rw[e1]
 exact wpAny_bind (wpAny_load h (by rw[e2];exact wpAny_pure q))
theorem Z4f{s'}(h:s'.heap.get? 241=some Z1h):(∀ x vk vi,BindsTo s' Jy ⟨[x,vk,vi],[]⟩ [("self",x),("kind",vk),("items",vi),("attrs",.none)])/\(∀ x vk vi va,BindsTo s' Jy ⟨[x,vk,vi,va],[]⟩ [("self",x),("kind",vk),("items",vi),("attrs",va)]):=
 ⟨fun x vk vi=>Je h (by kernel_rfl) (by kernel_rfl),fun x vk vi va=>Je h (by kernel_rfl) (by kernel_rfl)⟩
noncomputable def p0:Pos:=⟨0,0,0,0⟩
noncomputable def VT(n:Str)(i:Nat):Pos:=match (Xz n)[i]? with
 |some (.Assign O (.Name U p) V)=>p
 |some (.Assign O (.Constant U V p) O1)=>p
 |O=>p0
theorem ZaM{c:Cx}(hC:c.CV=258)(h:Z4m c.K=true)(hf:c.K.lookup 248=some (Ua Jy))(hd:c.K.lookup 241=some Z1h):Z39 c/\∀ x∈V0,WY c.K c.CV x:=by
 obtain ⟨h1,h2,h3⟩:=b3 h
 have G:=VG h1
 have st:∀ x∈V0,WY c.K c.CV x:=fun x hx=>by rw[hC];exact ⟨G.set,h3,G.tak x hx,G.dict⟩
 have bd:=fun (s':Shared) (X:c.K.In s'.heap)=>Z4f (X _ _ hd)
 refine ⟨⟨by rw[hC];exact G.keep,248,_,Jy,Xz "Vector",VT "Vector" 0,VT "Vector" 1,VT "Vector" 2,VT "Vector" 3,VT "Vector" 4,0,0,
  ⟨by rw[hC];exact h2,by rw[hC];exact G.init,Z6F hf,hf,rfl,by kernel_rfl,by kernel_rfl,G.code,by kernel_rfl,fun x hx=>?_,by kernel_rfl,fun p hp=>st _ (ZdP hp)⟩,fun s' x vk vi X=>(bd s' X).1 x vk vi,fun s' x vk vi va X=>(bd s' X).2 x vk vi va,by kernel_rfl,by kernel_rfl,by kernel_rfl⟩,st⟩
 exact Z2p (by kernel_rfl) hx
theorem Z8t{c:Cx}(hC:c.CN=229)(h:Z2u c.K=true)(hf:c.K.lookup 226=some (Ua Kn)):Z04 c:=by
 obtain ⟨h1,h2,h3⟩:=b3 h
 have G:=VG h1
 refine ⟨by rw[hC];exact G.keep,226,_,Kn,Xz "Null",VT "Null" 0,VT "Null" 1,0,0,⟨by rw[hC];exact h2,by rw[hC];exact G.init,Z6F hf,hf,rfl,by kernel_rfl,by kernel_rfl,G.code,by kernel_rfl,fun x hx=>Z2p (by kernel_rfl) hx,by kernel_rfl,fun p hp=>?_⟩,fun s' x X=>.of_eq (by kernel_rfl)⟩
 rw[hC];exact ⟨G.set,h3,G.tak _ (ZdQ hp),G.dict⟩
theorem ZaN{c:Cx}(hC:c.CR=377)(h:Z4n c.K=true)(hf:c.K.lookup 374=some (Ua Z2t))(ho:c.K.lookup 377=some Z4l)(hg:c.mg ("Refusal":Str)=some (.ref c.CR)):J8 c/\J9 c:=by
 obtain ⟨h,h7⟩:=b2 h
 obtain ⟨h,h6⟩:=b2 h
 obtain ⟨h,h5⟩:=b2 h
 obtain ⟨h1,h2,h3,h4⟩:=b4 h
 have G:=VG h1
 obtain ⟨w,K,h₀,CV,CN,CR,p,loose,mg,mb,X,T⟩:=c
 dsimp only at *
 subst hC
 exact ⟨⟨G.keep,hg,⟨G.set,h2,G.tak _ (List.mem_singleton.mpr rfl),G.dict⟩,⟨_,_,_,_,_,_,_,_,_,_,_,_,_,_,_,_,ho,h3⟩,⟨374,_,Z2t,Z2q 0,Z2q 1,VT "Refusal" 0,Z2q 2,⟨G.init,Z6F hf,hf,rfl,by kernel_rfl,G.code,by kernel_rfl,fun x hx=>Z2p (by kernel_rfl) hx,by kernel_rfl,by kernel_rfl,fun s' x v X=>.of_eq (by kernel_rfl)⟩⟩⟩,
  ⟨beq_iff_eq.mp h4,beq_iff_eq.mp h5,beq_iff_eq.mp h6,G.dict,beq_iff_eq.mp h7⟩⟩
theorem Z6G{c}{h}{ow}{vs}{ns}(x:IntsAre vs ns):vs.length=ns.length/\∀ (i:Nat) (v:Value) (d:D),vs[i]?=some v->(ns.map D.int)[i]?=some d->Rep c h ow v d:=by
 induction x with
 |nil=>exact ⟨rfl,fun O O O e=>Z3 e⟩
 |cons O U V ih=>
  refine ⟨congrArg Nat.succ ih.1,fun i v' d e1 e2=>?_⟩
  induction i with
  |zero=>exact Option.some.inj e1▸Option.some.inj e2▸.int _ _
  |succ i=>exact ih.2 i v' d e1 e2
theorem Z4g{c}(cx:Jb c){q0}(hs:q0.heap=c.h₀){fa a}{vs}{ns}{R}{A}{n}{pl'}
  (hfa:c.mg ("law":Str)=some (.ref fa)) (hg:q0.heap.get? a=some {cls:=.type "list",data:=.seq vs.toArray}) (hi:IntsAre vs ns) (hlen:ns.length<=63)
  (hfr:A.frames=some []) (hh:A.handled=none) (hd:A.depth+n<=900) (hu:A.units+10*n<=9000)
  (hlaw:(itp n).call 110 [.list (ns.map .int)] none=.ok (.fr (.bool true)) pl')
  (hR:∀ h' tk,(∀ b o,q0.heap.get? b=some o->h'.get? b=some o)->R (.ok (.ret (.bool true))) {q0 with heap:=h',toks:=tk}) :
  codeAny (MD c) A (.call (.ref fa) ⟨[.ref a],[]⟩) R q0:=by
 obtain ⟨O,O,O,O,hC⟩:=Kk cx n
 have hf:W4.lookup (Str.ofString "law")=some 110:=by decide +kernel
 refine gG fun G gk=>?_
 obtain ⟨d,hd',hm,hn,hpa,hps⟩:=Z1Z hf
 obtain ⟨fa',o,pm,code,doc,e1,e2,e3,e4⟩:=cx.all.o.fns d hm
 refine gk ?_
 rw[hn] at e1
 have:fa'=fa:=by
  have h2:=hfa.symm.trans e1
  injection h2 with h2;injection h2 with h2;exact h2.symm
 subst this
 obtain ⟨l1,l2⟩:=Z6G (c:=c) (h:=q0.heap) (ow:=fun b=>if b=a then .frozen else .foreign) hi
 have hlt:a < q0.heap.objs.size:=Heap.lt_size hg
 have hlim:ns.length<=LIM:=Nat.le_trans hlen (by decide)
 refine hC 110 d [.list (ns.map .int)] none [] A q0 (fun b=>if b=a then .frozen else .foreign) ⟨[],[],[],none⟩ [.ref a] R fa' o pm code doc hd' ⟨_,hf⟩ ?_ hfr hh hd hu e2 e3 e4 ?_ ?_
 ·refine ⟨fun b o e=>by rw[hs];exact e,by rw[hs];exact Nat.le_refl _,fun b hb=>if_neg (by rintro rfl;exact Nat.not_lt.mpr hb hlt),fun b=>?_,fun e he=>by simp at he⟩
  split<;>exact ⟨nofun,nofun⟩
 ·refine ⟨rfl,fun i v d' x1 x2=>?_⟩
  induction i with
  |succ i=>exact Z3 x1
  |zero=>
   simp at x1 x2
   subst x1 x2
   exact .list (if_pos rfl) hg ⟨rfl,⟨rfl,rfl⟩,_,rfl⟩ (by simpa using l1) (by simpa using hlim) fun i v d e1 e2=>l2 i v d (by simpa using e1) e2
 ·rw[hlaw]
  intro F' e q7 v o' h' ow2_ tk hA O O O O O hl
  have hl:Rep c h' ow2_ v (.bool true):=hl
  cases hl
  exact hR h' tk fun b o e=>hA.h0 b o (by rw[<-hs];exact e)
end NZ.Internal
namespace NZ.Internal
open PySem PySem.Calls PyProof.Rows PySem.W NH.Internal
theorem ZaO:recsOf HVw=recsOf PRG:=by kernel_rfl
noncomputable def Z90(x:Str):Bool:=!(startupNames.contains x)&&!((looseW HVw HL).contains x)&&!(((recsOf HVw).map (·.name)).contains x)&&!(((litsOf HVw).map (·.1)).contains x)&&!(((clssOf HVw (looseW HVw HL)).map (·.name)).contains x)
noncomputable def Z6H:List Str:=["abs","max","sum","sorted","str","list","range","int","len","isinstance"]
theorem ZaP:Z6H.all Z90=true:=by kernel_rfl
theorem Z3d{K:Frag}{C:Addr}{names:List Str}(h:Z92 K C names=true):VN K C names:=by
 obtain ⟨h1,h2,h3⟩:=b3 h
 exact ⟨beq_iff_eq.mp h1,h2,fun x hx=>beq_iff_eq.mp (List.all_eq_true.mp h3 x hx)⟩
theorem Z4h{P:Str->Value->Prop}(h0:P "abs" (.builtin "abs"))(h1:P "max" (.builtin "max"))(h2:P "sum" (.builtin "sum"))(h3:P "sorted" (.builtin "sorted"))(h4:P "str" (.type "str"))(h5:P "list" (.type "list"))(h6:P "range" (.type "range"))(h7:P "int" (.type "int")){f:Str}{v:Value}(e:Wl f=some v):P f v:=by
 unfold Wl at e
 refine ite_el e (fun q e=>?_) fun _ e=>ite_el e (fun q e=>?_) fun _ e=>ite_el e (fun q e=>?_) fun _ e=>ite_el e (fun q e=>?_) fun _ e=>ite_el e (fun q e=>?_) fun _ e=>ite_el e (fun q e=>?_) fun _ e=>ite_el e (fun q e=>?_) fun _ e=>ite_el e (fun q e=>?_) fun _ e=>Z3 e
 all_goals (subst q;obtain rfl:=Option.some.inj e;assumption)
set_option tactic.hygienic true in
theorem ZdR{w:World}{h:Heap}{mg mb:Str->Option Value}{mean:ExcName->Option Value}{K:Frag}(KX:K.In h)(hf:Z1i K=true)(ho:Z93.map (fun a=>K.lookup a)=Z94)(T:Top HVw (looseW HVw HL) mean mg mb h) :
  Jb ⟨w,K,h,258,229,377,HVw,looseW HVw HL,mg,mb,KX,topRead_of T⟩:=by
 have free:∀ x,x∈Z6H->mg x=none:=fun x hx=>by
  have h1:=List.all_eq_true.mp ZaP x hx
  unfold Z90 at h1
  simp only[Bool.and_eq_true,Bool.not_eq_true'] at h1
  obtain ⟨⟨⟨⟨a1,a2⟩,a3⟩,a4⟩,a5⟩:=h1
  exact T.free x (by simpa using a1) (by simpa using a2) (by simpa using a3) (by simpa using a4) (by simpa using a5)
 obtain ⟨hf,g3⟩:=b2 hf
 obtain ⟨hf,g2⟩:=b2 hf
 obtain ⟨hf,g1⟩:=b2 hf
 obtain ⟨hf,c2⟩:=b2 hf
 obtain ⟨k1,k2,k3,c1⟩:=b4 hf
 have m1:=mg_of KX T.g (beq_iff_eq.mp g1)
 have m2:=mg_of KX T.g (beq_iff_eq.mp g2)
 have m3:=mg_of KX T.g (beq_iff_eq.mp g3)
 injection ho with o1 ho
 injection ho with o2 ho
 injection ho with o3 ho
 injection ho with o4 ho
 injection ho with o5 ho
 generalize hc:(⟨w,K,h,258,229,377,HVw,looseW HVw HL,mg,mb,KX,topRead_of T⟩:Cx)=c
 have eK:c.K=K:=by rw[<-hc]
 have eV:c.CV=258:=by rw[<-hc]
 have eN:c.CN=229:=by rw[<-hc]
 have eR:c.CR=377:=by rw[<-hc]
 have n1:c.mg "Vector"=some (.ref c.CV):=by rw[<-hc];exact m1
 have n2:c.mg "Null"=some (.ref c.CN):=by rw[<-hc];exact m2
 have n3:c.mg "Refusal"=some (.ref c.CR):=by rw[<-hc];exact m3
 rw[<-eK] at k1 k2 k3 c1 c2 o1 o2 o3 o4 o5
 obtain ⟨v1,v2⟩:=ZaM eV k1 o1 o2
 obtain ⟨r1,r2⟩:=ZaN eR k3 o4 o5 n3
 have bb:∀ x:Str,x≠"__name__"->c.mb x=bootBuiltins x:=by rw[<-hc];exact T.builtins
 have fr:∀ x,x∈Z6H->c.mg x=none:=by rw[<-hc];exact free
 have fn:∀ d∈recsOf PRG,∃ a o pm code doc,c.mg d.name=some (.ref a)/\c.h₀.get? a=some o/\o.data=.func (docDef d.name d.params d.body d.scope pm code doc)/\c.h₀.CodeRec code d.name:=by
  rw[<-hc,<-ZaO];exact T.fn
 clear hc
 exact ⟨⟨⟨fn,fun f v e=>Z4h (P:=fun f v=>c.mg f=none/\c.mb f=some v) ⟨fr _ (by decide +kernel),(bb _ (by decide)).trans PyProof.Rows.Boot.«abs»⟩ ⟨fr _ (by decide +kernel),(bb _ (by decide)).trans PyProof.Rows.Boot.«max»⟩ ⟨fr _ (by decide +kernel),(bb _ (by decide)).trans PyProof.Rows.Boot.«sum»⟩ ⟨fr _ (by decide +kernel),(bb _ (by decide)).trans PyProof.Rows.Boot.«sorted»⟩ ⟨fr _ (by decide +kernel),(bb _ (by decide)).trans PyProof.Rows.Boot.«str»⟩ ⟨fr _ (by decide +kernel),(bb _ (by decide)).trans PyProof.Rows.Boot.«list»⟩ ⟨fr _ (by decide +kernel),(bb _ (by decide)).trans PyProof.Rows.Boot.«range»⟩ ⟨fr _ (by decide +kernel),(bb _ (by decide)).trans PyProof.Rows.Boot.«int»⟩ e,⟨fr _ (by decide +kernel),(bb _ (by decide)).trans PyProof.Rows.Boot.«len»⟩,⟨fr _ (by decide +kernel),(bb _ (by decide)).trans PyProof.Rows.Boot.«isinstance»⟩,n1,n2,n3,⟨fr _ (by decide +kernel),(bb _ (by decide)).trans PyProof.Rows.Boot.«list»⟩⟩,v1,Z8t eN k2 o3,eV▸Z3d c1,eN▸Z3d c2,v2 _ (by simp[V0]),v2 _ (by simp[V0])⟩,r1,r2⟩
set_option tactic.hygienic true in
theorem holds:PySem.Challenge.rw_nz0515_01.Holds:=by
 w_on
 refine holds_law ZcE fun said=>?_
 refine holds_open (q:=HVw) (loose:=HL) (Xt:=HX) (XP:=XL HVw []) (Yf:=HH.obs) (Ya:=HH.val) (YP:=HH.says) (N:=7688) Z98 HH.of HH.keeps (fun s e=>xl_of s (Bool.and_eq_true_iff.mp e).1) XL.keeps (by rfl) (by rfl) (by rfl) (fun s e=>recFacts_of (Bool.and_eq_true_iff.mp e).2) rfl said (by decide +kernel) ⟨rfl,rfl,rfl,rfl,rfl,by decide +kernel⟩ ?hw ?hc
 case hw=>w_witness2
 intro w s0 q0 mg mb G Y fa o pm cd doc dV kV ho hd hcd hD hmg hg args vals as hpre hlay hrd hwl hlo
 obtain ⟨K,KX,hf,hob⟩:=Y
 refine Ground.open G ?_
 intro T B D TE TW
 clear G B D TE TW hD hd
 wrow_args hpre hlay hrd hwl hlo
 all_goals (
  first|refine callC_kw (enter_call ?_)|refine enter_call ?_|refine callC_kw (enter_callW ?_)|refine enter_callW ?_|w_how
  w_top on
  try refine codeAny_mono ?_ (fun _ _ g=>GoodW.toG g))
 rename_i ns _ _ _ _ _ _ _ a vs _ hL ra w1 r0 hI hr hcond _
 obtain ⟨n,pl',hn,hlaw⟩:=Z5Q ns (by omega)
 have hget:∃ ws:List Value,q0.heap.get? a=some {cls:=.type "list",data:=.seq ws.toArray}/\ws=vs:=by
  cases w1 with
  |list e _=>
   rename_i ws _
   refine ⟨ws,e,?_⟩
   obtain ⟨ob,e2,_,k,hd⟩:=hL
   rw[e] at e2
   cases e2
   cases hd
   rfl
 obtain ⟨ws,hget,rfl⟩:=hget
 refine Z4g (c:=_) (ZdR KX hf hob T) rfl hmg hget hI (by omega) rfl rfl ?_ ?_ hlaw fun h' tk hk=>?_
 ·have:callerA.depth<=400:=by decide
  omega
 ·have:callerA.units<=500:=by decide
  omega
 ·refine ⟨.inl ⟨.bool true,.bool true,[],rfl,fun cls=>?_,?_,?_,?_⟩,hk,rfl,hg⟩
  ·rfl
  ·exact .bool true
  ·kernel_rfl
  ·intro _;exact ⟨List.nodup_nil,fun a ha=>by simp at ha⟩
end NZ.Internal
theorem PySem.Challenge.cw_nz0515_01_holds : PySem.Challenge.rw_nz0515_01.Holds := by
 exact NZ.Internal.holds
