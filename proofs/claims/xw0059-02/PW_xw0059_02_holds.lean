import PyProof.Rows.All
import Open.Pieces
import OpenK.ZHead
import OpenK.XOpen
import Open.Line
import KE.BytesMake
import KE.KAssignIn
import KE.KBoundM
import KE.KCat
import KE.KDictList
import KE.KDictSum
import KE.KEqDict
import KE.KExtendNil
import KE.KItem
import KE.KPop
import KE.KPopAny
import KE.KRevSl
import KE.KSortKey
import KE.KTup
import KE.KUnpack
import KE.KTryDeep
import KE.KDictAnyGet
import KE.KTryMore
import OpenK.KCall
import OpenK.KDescr
import OpenK.KGet
import OpenK.KLine
import OpenK.KList
import OpenK.KMake
import OpenK.KWalk
import OpenK.Peek
import OpenK.TopRead
import PyProof.AutoIntOps
import PyProof.AutoSeq1
import PyProof.Boot
import PyProof.BuiltinFast
import PyProof.CallStr
import PyProof.CallType
import PyProof.Calls
import PyProof.Calm
import PyProof.Cells
import PyProof.Claim2
import PyProof.CodeObj
import PyProof.Comp
import PyProof.CompFree
import PyProof.CompMap
import PyProof.CompUse
import PyProof.DefCall
import PyProof.Dict
import PyProof.DictDisplay
import PyProof.DictIter
import PyProof.DictKind
import PyProof.DictKinds
import PyProof.DictList
import PyProof.DictRoads
import PyProof.DictStraight
import PyProof.DictTable
import PyProof.DictUpdate
import PyProof.EqAt
import PyProof.EqKinds
import PyProof.EvalArms
import PyProof.FactsAll.list_3
import PyProof.FactsAll.range_iterator_1
import PyProof.FactsAll.tuple_iterator_1
import PyProof.FactsCmp
import PyProof.FactsDict
import PyProof.FactsIdx
import PyProof.FactsSeq
import PyProof.Fits
import PyProof.ForAny
import PyProof.Heap
import PyProof.IsRules
import PyProof.IsiPairs
import PyProof.Laws
import PyProof.ListCopy
import PyProof.ListIndex
import PyProof.ListIndexNeg
import PyProof.ListOps
import PyProof.Logic
import PyProof.Meets
import PyProof.Methods
import PyProof.NeKinds
import PyProof.Ops
import PyProof.PureInt
import PyProof.RaisesMany
import PyProof.RangeFor
import PyProof.RangeIter
import PyProof.Rows.AttrNodeAny
import PyProof.Rows.CellsFrame
import PyProof.Rows.CellsNews
import PyProof.Rows.Chain
import PyProof.Rows.DictMade
import PyProof.Rows.Exc
import PyProof.Rows.FactsTup
import PyProof.Rows.Frame
import PyProof.Rows.GenFrame
import PyProof.Rows.IntRules
import PyProof.Rows.ListCopyD
import PyProof.Rows.Many
import PyProof.Rows.News
import PyProof.Rows.NewsSeq
import PyProof.Rows.NewsSet
import PyProof.Rows.Nodes
import PyProof.Rows.Own
import PyProof.Rows.RuleIs
import PyProof.Rows.StrRules
import PyProof.Rows.StrTemp
import PyProof.Rows.Top
import PyProof.Rows.Tup
import PyProof.Rows.TupAdd
import PyProof.Rows.TupAssign
import PyProof.Rows.TupIn
import PyProof.Rows.TupIter
import PyProof.Rows.TupMore
import PyProof.Rows.TupReads
import PyProof.Rows.TupSub
import PyProof.Rules
import PyProof.Rules2
import PyProof.RulesAssignMore
import PyProof.Runs
import PyProof.Seq
import PyProof.SliceList
import PyProof.SliceMore
import PyProof.SliceSyntax
import PyProof.Slots
import PyProof.Start
import PyProof.TupleCall
import PyProof.TupleIter
import PyProof.TupleOfSeq
import PyProof.WalksMore
import Wide.BytesFacts
import Wide.BytesRules
import PySem.Challenge.RW_xw0059_02
open PySem PySem.W PyProof.Rows PySem.Calls
set_option Elab.async false
set_option linter.all false
set_option maxRecDepth 100000
set_option compiler.extract_closed false
set_option bootstrap.genMatcherCode false
set_option genSizeOf false
set_option tactic.hygienic false
set_option genInjectivity false
namespace Internal.N
noncomputable abbrev fO(as:List Arg)(df:List Expr):Arguments:=⟨[],as,none,[],[],none,df⟩
structure aV where
 name:Str
 qual:Str
 as:List Arg
 df:List Expr
 scope:Scope
 dV:Value
 kV:Value
 doc:Value
 pm:Value
 an:Option Addr
 cdv:Value
 ct:Value
 oc:Value
 od:Option Addr
 osl:Array (Option Value)
end Internal.N
namespace Internal
noncomputable section
abbrev DU:=PySem.W.Fast.tw11892475500146522536
abbrev Ia:=PySem.W.Fast.tw6613529449190102663
abbrev C7:=PySem.W.Fast.tw14364793385576792824
theorem wz:@treeTable=C7:=PySem.W.Fast.te14364793385576792824
theorem wZ:@denote=DU:=PySem.W.Fast.te11892475500146522536
theorem Bq:@stepOk=Ia:=PySem.W.Fast.te6613529449190102663
structure qT where
 p:Program
 w:World
 n₀:Nat
 ann:Option Value
 os:OsState
 life:Life
abbrev ww:=BT->Nat->Array GenState->Drawn->Nat->Sem Fin->Code->Pos->List Frame->Option SharedT
noncomputable def yw(code c:Code)(stack:List Frame):List Frame:=match code,c,stack with
 | .builtin ..,.call f a,.ret k h g l cd p kept::rest=>.ret k h g l cd p (kept++unmarked (f::a.refs))::rest
 | .call f _,.call ..,.ret k h g l cd p kept::rest=>.ret k h g l cd p (kept++.ellipsis::unmarked [f])::rest
 | .call f a,.builtin ..,.ret k h g l cd p kept::rest=>
  .ret k h g l cd p (if l.contains borrowed then kept.takeWhile (·!= .ellipsis)++unmarked a.refs else unmarked (kept++f::a.refs))::rest
 | .call ..,_,.ret k h g l cd p kept::rest=>.ret k h g l cd p (kept.takeWhile (·!= .ellipsis))::rest
 | _,_,_=>stack
noncomputable def ND(code c:Code)(l:List Value):List Value:=match c,code with
 | .builtin _ a,_=>unmarked a.refs
 | .call f a,.builtin .. | .call f a,.call ..=>unmarked (if l.contains borrowed then a.refs else f::a.refs)
 | _,_=>[]
abbrev KR:=BT->Option SharedT
def zj(o:Obj)(t:BT):Nat->KR->Option SharedT:=
 @BT.rec (fun q0=>Nat->KR->Option SharedT) (fun q0 k=>k (.node o .nil .nil))
  (fun v l r ihl ihr i k=>@Bool.rec (fun q0=>Option SharedT) (@Bool.rec (fun q0=>Option SharedT) (ihr (Nat.sub (Nat.div i 2) 1) fun r'=>k (.node v l r')) (ihl (Nat.div i 2) fun l'=>k (.node v l' r)) (Nat.beq (Nat.mod i 2) 1)) (k (.node o l r)) (Nat.beq i 0)) t
def xZ(f:Obj->Obj)(t:BT):Nat->KR->Option SharedT:=
 @BT.rec (fun q0=>Nat->KR->Option SharedT) (fun q0 k=>k .nil)
  (fun v l r ihl ihr i k=>@Bool.rec (fun q0=>Option SharedT) (@Bool.rec (fun q0=>Option SharedT) (ihr (Nat.sub (Nat.div i 2) 1) fun r'=>k (.node v l r')) (ihl (Nat.div i 2) fun l'=>k (.node v l' r)) (Nat.beq (Nat.mod i 2) 1)) (k (.node (f v) l r)) (Nat.beq i 0)) t
theorem ro(o:Obj):∀(t:BT) (i:Nat) (k:KR),zj o t i k=k (t.ins i o)
 | .nil,_,_=>rfl
 | .node v l r,i,k=>by
  show @Bool.rec (fun q0=>Option SharedT) (@Bool.rec (fun q0=>Option SharedT) (zj o r (Nat.sub (Nat.div i 2) 1) fun r'=>k (.node v l r')) (zj o l (Nat.div i 2) fun l'=>k (.node v l' r)) (Nat.beq (Nat.mod i 2) 1)) (k (.node o l r)) (Nat.beq i 0)=k (match Nat.beq i 0 with
   | true=>.node o l r
   | false=>match Nat.beq (i % 2) 1 with
    | true=>.node v (l.ins (i / 2) o) r
    | false=>.node v l (r.ins (i / 2 - 1) o))
  cases Nat.beq i 0 with
  | true=>rfl
  | false=>
   show @Bool.rec (fun q0=>Option SharedT) _ _ (Nat.beq (i % 2) 1)=_
   cases Nat.beq (i % 2) 1 with
   | true=>exact ro o l _ _
   | false=>exact ro o r _ _
theorem qf(f:Obj->Obj):∀(t:BT) (i:Nat) (k:KR),xZ f t i k=k (t.set i f)
 | .nil,_,_=>rfl
 | .node v l r,i,k=>by
  show @Bool.rec (fun q0=>Option SharedT) (@Bool.rec (fun q0=>Option SharedT) (xZ f r (Nat.sub (Nat.div i 2) 1) fun r'=>k (.node v l r')) (xZ f l (Nat.div i 2) fun l'=>k (.node v l' r)) (Nat.beq (Nat.mod i 2) 1)) (k (.node (f v) l r)) (Nat.beq i 0)=k (match Nat.beq i 0 with
   | true=>.node (f v) l r
   | false=>match Nat.beq (i % 2) 1 with
    | true=>.node v (l.set (i / 2) f) r
    | false=>.node v l (r.set (i / 2 - 1) f))
  cases Nat.beq i 0 with
  | true=>rfl
  | false=>
   show @Bool.rec (fun q0=>Option SharedT) _ _ (Nat.beq (i % 2) 1)=_
   cases Nat.beq (i % 2) 1 with
   | true=>exact qf f l _ _
   | false=>exact qf f r _ _
def jf(t:BT):Nat->Option Obj:=
 @BT.rec (fun q0=>Nat->Option Obj) (fun q0=>none)
  (fun v q0 q0 ihl ihr i=>@Bool.rec (fun q0=>Option Obj) (@Bool.rec (fun q0=>Option Obj) (ihr (Nat.sub (Nat.div i 2) 1)) (ihl (Nat.div i 2)) (Nat.beq (Nat.mod i 2) 1)) (some v) (Nat.beq i 0)) t
theorem iB:∀(t:BT) (i:Nat),jf t i=t.get i
 | .nil,_=>rfl
 | .node v l r,i=>by
  show @Bool.rec (fun q0=>Option Obj) (@Bool.rec (fun q0=>Option Obj) (jf r (Nat.sub (Nat.div i 2) 1)) (jf l (Nat.div i 2)) (Nat.beq (Nat.mod i 2) 1)) (some v) (Nat.beq i 0)=(match Nat.beq i 0 with
   | true=>some v
   | false=>match Nat.beq (i % 2) 1 with
    | true=>l.get (i / 2)
    | false=>r.get (i / 2 - 1))
  cases Nat.beq i 0 with
  | true=>rfl
  | false=>
   show @Bool.rec (fun q0=>Option Obj) _ _ (Nat.beq (i % 2) 1)=_
   cases Nat.beq (i % 2) 1 with
   | true=>exact iB l _
   | false=>exact iB r _
abbrev bR{β:Type}(b:Bool)(x:Option β):Option β:=@Bool.rec (fun q0=>Option β) none x b
abbrev oR{α β:Type}(o:Option α)(f:α->Option β):Option β:=@Option.rec α (fun q0=>Option β) none f o
def Bl(c₀:qT)(ih:ww):ww:=fun T n gens drawn toks cur code pos stack=>match cur with
 | .pure f=>(match f with
  | .done fl=>(match stack with
   | []=>some ⟨T,n,c₀.life,gens,drawn,toks,c₀.os⟩
   | .ret k _ _ _ c p _::rest=>ih T n gens drawn toks (k (.ok fl)) c p rest
   | .gen ..::_=>none)
  | .again c=>bR (Ia c₀.n₀ c₀.ann ⟨.pure (.again c),code,pos,stack⟩) (ih T n gens drawn toks (DU C7 c) c pos (yw code c stack)))
 | .raise e=>(match stack with
   | .ret k _ _ _ c p _::rest=>ih T n gens drawn toks (k (.error e)) c p rest
   | _=>none)
 | .rule _ k=>ih T n gens drawn toks (k ()) code pos stack
 | .at p k=>ih T n gens drawn toks (k ()) code p stack
 | .point _ k=>ih T n gens drawn toks (k ()) code pos stack
 | .load a _ k=>bR (Nat.blt a n) (oR (jf T a) fun o=>oR (alive o) fun o'=>ih T n gens drawn toks (k o') code pos stack)
 | .update a q f k=>bR (Ia c₀.n₀ c₀.ann ⟨.update a q f k,code,pos,stack⟩) (bR (Nat.blt a n) (oR (jf T a) fun o=>oR (alive o) fun q0=>xZ f T a fun T'=>ih T' n gens drawn toks (k ()) code pos stack))
 | .alloc o k=>zj o T n fun T'=>bR (jf T' n).isSome (ih T' (Nat.succ n) gens drawn toks (k n) code pos stack)
 | .loadIfAlive a k=>@Bool.rec (fun q0=>Option SharedT) (ih T n gens drawn toks (k none) code pos stack) (oR (jf T a) fun o=>ih T n gens drawn toks (k (alive o)) code pos stack) (Nat.blt a n)
 | .fresh k=>ih T n gens drawn (toks+1) (k toks) code pos stack
 | .ask k=>ih T n gens drawn toks (k ⟨c₀.p,c₀.w.params⟩) code pos stack
 | .call c h g l k=>ih T n gens drawn toks (DU C7 c) c pos (.ret k h g l code pos (ND code c l)::stack)
 | .handled own k=>ih T n gens drawn toks (k (topHandled (if own then (match splitAtGen stack with | some (fs,_,_)=>fs | none=>stack) else stack))) code pos stack
 | .stack k=>ih T n gens drawn toks (k ((code,pos)::stack.map Frame.where_)) code pos stack
 | _=>none
def UR(c₀:qT)(fuel:Nat):ww:=@Nat.rec (fun q0=>ww) (fun q0 q0 q0 q0 q0 q0 q0 q0 q0=>none) (fun q0 ih=>Bl c₀ ih) fuel
theorem bY{tb:String->Option Builtin}{p:Program}{w:World}{n₀:Nat}{ann:Option Value}{n:Nat}{s s' r:Shared}{t t':Thread}(ht:through t=false)(hk:stepOk n₀ ann t=true)
  (hs:step (denote tb) p w s t=.go s' t') (h:topRun tb p w n₀ ann n s' t'=some r):topRun tb p w n₀ ann (n+1) s t=some r:=by
 unfold topRun
 simp only [ht,hk,hs,h]
theorem bE{β:Type}{b:Bool}{x:Option β}{s:β}(h:@Bool.rec (fun q0=>Option β) none x b=some s):b=true/\x=some s:=by
 cases b with
 | false=>cases h
 | true=>exact ⟨rfl,h⟩
theorem oE{α β:Type}{o:Option α}{f:α->Option β}{s:β}(h:@Option.rec α (fun q0=>Option β) none f o=some s):∃a,o=some a/\f a=some s:=by
 cases o with
 | none=>cases h
 | some a=>exact ⟨a,rfl,h⟩
abbrev yR(c₀:qT)(fuel:Nat)(g:ww):Prop:=∀(T:BT) (n:Nat) (gens:Array GenState) (drawn:Drawn) (toks:Nat) (cur:Sem Fin) (code:Code) (pos:Pos) (stack:List Frame) (S':SharedT),
  g T n gens drawn toks cur code pos stack=some S'->
  topRun treeTable c₀.p c₀.w c₀.n₀ c₀.ann fuel ⟨absHeap T n c₀.life,gens,drawn,toks,c₀.os⟩ ⟨cur,code,pos,stack⟩=some S'.abs
theorem DK{c₀:qT}{fuel:Nat}{g:ww}(ih:yR c₀ fuel g):yR c₀ (fuel+1) (Bl c₀ g):=by
 intro T n gens drawn toks cur code pos stack S' h
 cases cur with
 | pure f=>
  cases f with
  | done fl=>
   cases stack with
   | nil=>cases h; rfl
   | cons fr rest=>
    cases fr with
    | ret k hd g l c p kept=>exact bY rfl rfl rfl (ih _ _ _ _ _ _ _ _ _ _ h)
    | gen=>cases h
  | again c=>
   obtain ⟨ok,h⟩:=bE h
   rw [<- wZ,<- wz] at h
   exact bY (Bool.and_false _) (Bq▸ok) rfl (ih _ _ _ _ _ _ _ _ _ _ h)
 | raise e=>
  cases stack with
  | nil=>cases h
  | cons fr rest=>
   cases fr with
   | ret k hd g l c p kept=>exact bY rfl rfl rfl (ih _ _ _ _ _ _ _ _ _ _ h)
   | gen=>cases h
 | rule t k=>exact bY (Bool.and_false _) rfl rfl (ih _ _ _ _ _ _ _ _ _ _ h)
 | «at» p k=>exact bY (Bool.and_false _) rfl rfl (ih _ _ _ _ _ _ _ _ _ _ h)
 | point l k=>exact bY (Bool.and_false _) rfl rfl (ih _ _ _ _ _ _ _ _ _ _ h)
 | fresh k=>exact bY (Bool.and_false _) rfl rfl (ih _ _ _ _ _ _ _ _ _ _ h)
 | ask k=>exact bY (Bool.and_false _) rfl rfl (ih _ _ _ _ _ _ _ _ _ _ h)
 | handled own k=>exact bY (Bool.and_false _) rfl rfl (ih _ _ _ _ _ _ _ _ _ _ h)
 | stack k=>exact bY (Bool.and_false _) rfl rfl (ih _ _ _ _ _ _ _ _ _ _ h)
 | call c hd g l k=>
  have h:=ih _ _ _ _ _ _ _ _ _ _ h
  rw [<- wZ,<- wz] at h
  exact bY (Bool.and_false _) rfl rfl h
 | load a q k=>
  obtain ⟨lt,h⟩:=bE h
  obtain ⟨o,g,h⟩:=oE h
  obtain ⟨o',al,h⟩:=oE h
  rw [iB] at g
  refine bY (s':=⟨absHeap T n c₀.life,gens,drawn,toks,c₀.os⟩) (t':=⟨k o',code,pos,stack⟩) (Bool.and_false _) rfl ?_ (ih _ _ _ _ _ _ _ _ _ _ h)
  simp only [step,abs_get (Nat.le_of_ble_eq_true lt) g,al]
 | update a q f k=>
  obtain ⟨ok,h⟩:=bE h
  obtain ⟨lt,h⟩:=bE h
  obtain ⟨o,g,h⟩:=oE h
  obtain ⟨o',al,h⟩:=oE h
  rw [iB] at g
  have h:=(qf _ _ _ _).symm.trans h
  refine bY (s':=⟨absHeap (T.set a f) n c₀.life,gens,drawn,toks,c₀.os⟩) (t':=⟨k (),code,pos,stack⟩) (Bool.and_false _) (Bq▸ok) ?_ (ih _ _ _ _ _ _ _ _ _ _ h)
  rw [absHeap_set g]
  simp only [step,abs_get (Nat.le_of_ble_eq_true lt) g,al,Option.isSome_some,if_true]
 | alloc o k=>
  obtain ⟨e,h⟩:=bE ((ro _ _ _ _).symm.trans h)
  rw [iB] at e
  refine bY (s':=⟨absHeap (T.ins n o) (n+1) c₀.life,gens,drawn,toks,c₀.os⟩) (t':=⟨k n,code,pos,stack⟩) (Bool.and_false _) rfl ?_ (ih _ _ _ _ _ _ _ _ _ _ h)
  rw [absHeap_ins e]
  simp only [step,absHeap_size]
 | loadIfAlive a k=>
  cases lt:Nat.blt a n with
  | true=>
   have h:@Bool.rec (fun q0=>Option SharedT) _ _ (Nat.blt a n)=some S':=h
   rw [lt] at h
   obtain ⟨o,g,h⟩:=oE h
   rw [iB] at g
   refine bY (s':=⟨absHeap T n c₀.life,gens,drawn,toks,c₀.os⟩) (t':=⟨k (alive o),code,pos,stack⟩) (Bool.and_false _) rfl ?_ (ih _ _ _ _ _ _ _ _ _ _ h)
   simp only [step,abs_get (Nat.le_of_ble_eq_true lt) g]
  | false=>
   have h:@Bool.rec (fun q0=>Option SharedT) _ _ (Nat.blt a n)=some S':=h
   rw [lt] at h
   refine bY (s':=⟨absHeap T n c₀.life,gens,drawn,toks,c₀.os⟩) (t':=⟨k none,code,pos,stack⟩) (Bool.and_false _) rfl ?_ (ih _ _ _ _ _ _ _ _ _ _ h)
   have:¬ a<n:=fun q=>by rw [show Nat.blt a n=true from Nat.ble_eq_true_of_le q] at lt; cases lt
   simp only [step,abs_get_none this]
 | _=>cases h
theorem Db{c₀:qT}(fuel:Nat):yR c₀ fuel (UR c₀ fuel):=by
 induction fuel with
 | zero=>intro _ _ _ _ _ _ _ _ _ _ h; cases h
 | succ fuel ih=>exact DK ih
def tu(P:Params):BT:=(boot_heap P).objs.toList.zipIdx.foldl (fun t (o,i)=>t.ins i o) .nil
def qd(P:Params):Option Value:=(boot_heap P).nsMap mainGlobals "__annotations__"
def Pp(p:Program)(w:World)(os:OsState):qT:=⟨p,w,(boot_heap w.params).objs.size,qd w.params,os,(boot_heap w.params).life⟩
def iL(fuel:Nat)(p:Program)(w:World)(os:OsState):Option SharedT:=
 UR (Pp p w os) fuel (tu w.params) (boot_heap w.params).objs.size #[] boot_drawn boot_toks (topStub p).cur (topStub p).code (topStub p).pos (topStub p).stack
theorem BH(P:Params):absHeap (tu P) (boot_heap P).objs.size (boot_heap P).life=boot_heap P:=by kernel_rfl
end
end Internal
namespace Internal
noncomputable section
abbrev y7:=PySem.W.Fast.tw4187177175401517315
theorem uh:@openSeen=y7:=PySem.W.Fast.te4187177175401517315
def jW(p:Program)(w:World)(S:SharedT):Bool:=
 staticsOk (importedModules p.main.body) (boot_heap w.params) S.abs.heap&&namesBound p S.abs.heap&&gensDone S.abs&&laidKept (boot_heap w.params) S.abs.heap
theorem yr{p q:Program}{loose:List Str}{Xt:Shared->Bool}{α:Type}{Yf:Shared->α}{Ya:World->α}{N:Nat}(M:Nat)
  (e:opening p=plainProg p.main.scope.names) (hN:Nat.ble 600 N=true) (f:∀s,fenceModules? p s=some s) (le:Nat.ble M N=true)
  (z:∀w:World,(boot_heap w.params).isNs mainGlobals=true)
  (h:∀(w:World),(fun os=>(iL M p w os).map fun S=>(jW p w S,y7 q loose (importedModules p.main.body) Xt true S.abs,Yf S.abs))=fun q0=>some (true,openGood q loose,Ya w)) :
  LeftO p q loose Xt Yf Ya N:=fun w=>by
 obtain ⟨⟨hp,gs,d,k,os⟩,e1,e'⟩:=Option.map_eq_some_iff.mp (boot_open e hN f w)
 obtain ⟨rfl,rfl,rfl,rfl⟩:hp=boot_heap w.params/\gs = #[]/\d=boot_drawn/\k=boot_toks:=by simpa using e'
 obtain ⟨S,hS,hl⟩:=Option.map_eq_some_iff.mp (congrFun (h w) os)
 rw [<- uh] at hl
 obtain ⟨l1,l2,l3⟩:_/\_/\_:=by simpa only [Prod.mk.injEq] using hl
 have r:=Db _ _ _ _ _ _ _ _ _ _ _ hS
 have r2:topRun treeTable p w (boot_heap w.params).objs.size (qd w.params) M ⟨boot_heap w.params,#[],boot_drawn,boot_toks,os⟩ (topStub p)=some S.abs:=by
  have:=r
  simp only [Pp] at this
  rw [BH] at this
  exact this
 have r3:=topRun_mono (N - M) _ _ _ _ r2
 rw [show M+(N - M)=N by have:=Nat.le_of_ble_eq_true le; omega] at r3
 have t:topFrom treeTable p w N ⟨boot_heap w.params,#[],boot_drawn,boot_toks,os⟩=some S.abs:=by
  unfold topFrom
  dsimp only
  rw [z w]
  show (match true with | true=>_ | false=>none)=_
  dsimp only
  show ((topRun treeTable p w (boot_heap w.params).objs.size (qd w.params) N ⟨boot_heap w.params,#[],boot_drawn,boot_toks,os⟩ (topStub p)).bind _)=_
  rw [r3]
  show (match jW p w S with | true=>some S.abs | false=>none)=_
  rw [l1]
 unfold openEnds
 rw [e1]
 show (topFrom treeTable p w N _).map _=_
 rw [t]
 exact congrArg some (Prod.ext l2 l3)
abbrev yV:=PySem.W.Fast.tw5160383126252970620
theorem CP:@seen=yV:=PySem.W.Fast.te5160383126252970620
abbrev CY:=PySem.W.Fast.tw14722251495701143533
theorem Gq:@Heap.accountedOkI=CY:=PySem.W.Fast.te14722251495701143533
abbrev xL:=PySem.W.Fast.tw479339242167458305
theorem Dz:@tabsOk=xL:=PySem.W.Fast.te479339242167458305
abbrev y6:=PySem.W.Fast.tw10994771534591457954
theorem Da:@tablesOk=y6:=PySem.W.Fast.te10994771534591457954
abbrev Cj:=PySem.W.Fast.tw16090120013241838585
theorem Gp:@pinSeenD=Cj:=PySem.W.Fast.te16090120013241838585
abbrev Nq:=PySem.W.Fast.tw2386780881361962483
theorem Kr:@plainSeenE=Nq:=PySem.W.Fast.te2386780881361962483
abbrev Ig:=PySem.W.Fast.tw11698064438423848299
theorem JI:@plainSeenD=Ig:=PySem.W.Fast.te11698064438423848299
abbrev Ec:=PySem.W.Fast.tw7317090234206586261
theorem Gy:@wideSeen=Ec:=PySem.W.Fast.te7317090234206586261
abbrev DE:=PySem.W.Fast.tw7369524293546568484
theorem Gz:@clsSeenW=DE:=PySem.W.Fast.te7369524293546568484
abbrev Vh:=PySem.W.Fast.tw10880121769531294198
theorem aaE:@Heap.keysOk=Vh:=PySem.W.Fast.te10880121769531294198
def k7(p q:Program)(loose:List Str)(w:World)(S:Shared):=
 (staticsOk (importedModules p.main.body) (boot_heap w.params) S.heap&&gensDone S&&laidKept (boot_heap w.params) S.heap&&CY S.heap (importedModules p.main.body)&&S.heap.isNs mainGlobals&&S.heap.isNs builtinsNs&&y6 q S.heap&&S.gens.size == 0,
  S.heap.nsKeys mainGlobals,yV ((recsOf q).map (·.name)) (ownsOf q) [] { S with gens:=#[] },S.heap.bltView,
  xL q S,Cj q (drecsOf q) S,Nq q (looseW q loose) S,Ig q loose S,Ec q S,DE q loose S)
noncomputable def mH(q:Program)(loose L:List Str):=(true,L,expectedOf q,bltViewBooted,true,pinGoodD (drecsOf q),plainGoodE q (looseW q loose),plainGoodD q loose,wideGood q,clsGoodW q loose)
theorem wg{p q:Program}{loose L:List Str}{w:World}{S:Shared}(e:k7 p q loose w S=mH q loose L)
  (k1:(L.all fun k=>startupNames.contains k||p.boundNames.contains k)=true)
  (k2:(L.all fun k=>startupNames.contains k||(looseW q loose).contains k||((recsOf q).map (·.name)).contains k||((litsOf q).map (·.1)).contains k||((clssOf q (looseW q loose)).map (·.name)).contains k)=true) :
  (staticsOk (importedModules p.main.body) (boot_heap w.params) S.heap&&namesBound p S.heap&&gensDone S&&laidKept (boot_heap w.params) S.heap)=true/\
  openSeen q loose (importedModules p.main.body) (fun q0=>true) true S=openGood q loose:=by
 unfold k7 mH at e
 rw [<- CP,<- Gq,<- Dz,<- Da,<- Gp,<- Kr,<- JI,<- Gy,<- Gz] at e
 simp only [Prod.mk.injEq,Bool.and_eq_true] at e
 obtain ⟨⟨⟨⟨⟨⟨⟨⟨a1,a2⟩,a3⟩,a4⟩,a5⟩,a6⟩,a7⟩,a8⟩,b,c1,c2,c3,c4,c5,c6,c7,c8⟩:=e
 have n1:namesBound p S.heap=true:=by
  unfold namesBound
  rw [a5,b,k1]; rfl
 have n2:S.heap.keysOk (looseW q loose) ((recsOf q).map (·.name)) ((litsOf q).map (·.1)) ((clssOf q (looseW q loose)).map (·.name))=true:=by
  unfold Heap.keysOk
  rw [b]; exact k2
 refine ⟨by rw [a1,n1,a2,a3]; rfl,?_⟩
 unfold openSeen openGood
 rw [c1,c2,n2,a4,a5,a6,a7,c3,c4,c5,c6,c7,c8]
 simp only [if_true,a8,Bool.and_self]
theorem wj{p q:Program}{loose:List Str}{α:Type}{Yf:Shared->α}{Ya:World->α}{N:Nat}(M:Nat)(L:List Str)
  (e:opening p=plainProg p.main.scope.names) (hN:Nat.ble 600 N=true) (f:∀s,fenceModules? p s=some s) (le:Nat.ble M N=true)
  (z:∀w:World,(boot_heap w.params).isNs mainGlobals=true)
  (k1:(L.all fun k=>startupNames.contains k||p.boundNames.contains k)=true)
  (k2:(L.all fun k=>startupNames.contains k||(looseW q loose).contains k||((recsOf q).map (·.name)).contains k||((litsOf q).map (·.1)).contains k||((clssOf q (looseW q loose)).map (·.name)).contains k)=true)
  (h:∀(w:World),(fun os=>(iL M p w os).map fun S=>(k7 p q loose w S.abs,Yf S.abs))=fun q0=>some (mH q loose L,Ya w)) :
  LeftO p q loose (fun q0=>true) Yf Ya N:=
 yr M e hN f le z fun w=>by
  funext os
  have hh:=congrFun (h w) os
  obtain ⟨S,hS,hl⟩:=Option.map_eq_some_iff.mp hh
  obtain ⟨l1,l2⟩:_/\_:=by simpa only [Prod.mk.injEq] using hl
  obtain ⟨g1,g2⟩:=wg l1 k1 k2
  rw [hS]
  show some (jW p w S,y7 q loose (importedModules p.main.body) (fun q0=>true) true S.abs,Yf S.abs)=_
  rw [<- uh,g2,l2]
  show some ((jW p w S),_)=_
  rw [show jW p w S=true from g1]
noncomputable def bnd(st:Stmt):List Str:=match st with
 | .FunctionDef n _ _ _ _ _ _ _ _ _=>[n]
 | .ClassDef n _ _ _ _ _ _ _ _ _ _=>[n]
 | .Assign [.Name n _] _ _=>[n]
 | _=>[]
noncomputable def z7:List Str:=["__name__","__doc__","__package__","__loader__","__spec__","__annotations__","__builtins__","__file__","__cached__"]
noncomputable def GY(p:Program):List Str:=z7++(p.main.body.flatMap bnd).filter (fun x=>x != ("__name__" : Str))
noncomputable def OM(p:Program)(k:Nat):Program:={ p with main:={ p.main with body:=p.main.body.drop k } }
noncomputable def FO(p:Program)(n:Str):List Str:=p.boundNames.filter (·!= n)
end
end Internal
namespace Internal.L
open Internal.N
noncomputable section
noncomputable def pp:Program:=PySem.Challenge.pw_xw0059_02
def cf(i:Nat):Stmt:=match pp.main.body[i]? with | some s=>s | none=>.Pass ⟨0,0,0,0⟩
def bA(i j:Nat):Stmt:=match cf i with | .ClassDef (body:=b) ..=>(match b[j]? with | some s=>s | none=>.Pass ⟨0,0,0,0⟩) | _=>.Pass ⟨0,0,0,0⟩
noncomputable def bh:Stmt->List Stmt | .FunctionDef (body:=b) ..=>b | _=>[]
noncomputable def asS:Stmt->List Arg | .FunctionDef (args:=a) ..=>a.args | _=>[]
noncomputable def dfS:Stmt->List Expr | .FunctionDef (args:=a) ..=>a.defaults | _=>[]
def scS:Stmt->Scope | .FunctionDef (scope:=s) ..=>s | _=>pp.main.scope
noncomputable def T:List Str:= ""::"T"::"e"::"f"::"g"::".0"::"Add"::"add"::"all"::"due"::"got"::"int"::"key"::"len"::"max"::"one"::"own"::"ptr"::"row"::"run"::"who"::"Done"::"Lock"::"Wait"::"bool"::"both"::"call"::"case"::"cell"::"chan"::"deed"::"done"::"face"::"fuel"::"func"::"gate"::"held"::"here"::"kind"::"left"::"lock"::"lost"::"many"::"maps"::"name"::"none"::"path"::"pick"::"recv"::"reel"::"room"::"rows"::"self"::"send"::"sent"::"size"::"some"::"spot"::"sync"::"take"::"task"::"text"::"told"::"turn"::"wait"::"want"::"work"::"zero"::"Error"::"PLAIN"::"World"::"array"::"ascii"::"begin"::"calls"::"cells"::"close"::"count"::"crowd"::"deeds"::"ended"::"error"::"files"::"found"::"funcs"::"gates"::"group"::"inits"::"inner"::"locks"::"named"::"order"::"panic"::"place"::"queue"::"range"::"ready"::"sends"::"state"::"store"::"taken"::"taker"::"takes"::"truth"::"tuple"::"typed"::"value"::"waits"::"world"::"Unlock"::"adding"::"answer"::"behind"::"bodies"::"closed"::"consts"::"counts"::"defers"::"do_now"::"groups"::"holder"::"let_go"::"may_do"::"number"::"prints"::"scopes"::"script"::"sender"::"serves"::"settle"::"sorted"::"starts"::"string"::"struct"::"takers"::"unlock"::"values"::"Choices"::"GoPanic"::"add_now"::"answers"::"base_of"::"channel"::"choices"::"do_send"::"globals"::"gosched"::"message"::"methods"::"new_one"::"outcome"::"package"::"receive"::"routine"::"runtime"::"senders"::"waiting"::"NamedRow"::"PlainRun"::"__init__"::"_law_one"::"_law_run"::"channels"::"function"::"is_whole"::"lock_now"::"make_one"::"may_send"::"may_take"::"measured"::"mentions"::"next_one"::"packages"::"pick_one"::"received"::"routines"::"send_now"::"take_now"::"wait_for"::"wait_now"::"wake_one"::"ChanError"::"Exception"::"NameFault"::"PlainCall"::"TypeFault"::"_law_gate"::"_law_reel"::"_law_sent"::"close_now"::"enumerate"::"goroutine"::"interface"::"is_closed"::"late_keys"::"pass_gate"::"wait_here"::"wake_rows"::"CLOSED_NIL"::"PlainGates"::"PlainStore"::"_law_taken"::"_law_wound"::"do_receive"::"is_through"::"known_rows"::"late_parts"::"late_sizes"::"sync.Mutex"::"underlying"::"unlock_now"::"zero_value"::"CLOSED_SEND"::"_law_closed"::"_law_passed"::"_law_stands"::"is_deferred"::"may_compare"::"sync.#count"::"sync.#state"::"CLOSED_TWICE"::"MachineFault"::"PlainChannel"::"PlainRoutine"::"_law_no_lock"::"_law_pointer"::"channel_type"::"meet_channel"::"PlainChannels"::"PlainRoutines"::"RUNTIME_ERROR"::"all_functions"::"first_waiting"::"received_told"::"runtime.Error"::"runtime_panic"::"underlying_of"::"sync.WaitGroup"::"_law_told_right"::"nil dereference"::"sync.Mutex.Lock"::"_law_gates_right"::"place_of_pointer"::"number_of_channel"::"sync.Mutex.Unlock"::"_law_channel_right"::"sync.WaitGroup.Add"::"runtime.Error.Error"::"sync.WaitGroup.Done"::"sync.WaitGroup.Wait"::"send on closed channel"::"unlock of unlocked mutex"::"negative WaitGroup counter"::[]
noncomputable def en(w:World)(k v:Value):DictEntry:=match k with | .str s _=>⟨PyData.keyHash w.params s,k,v⟩ | _=>⟨0,k,v⟩
noncomputable def cO(a b:Str)(t l i1 i2 i3 i4 r i5:Nat)(x y:Value)(r2 q:Nat):Obj:=⟨(.type "code"),none,(.fields #[(.str a t),(.str b (t+1)),(.str "/claim/cut.py" (t+2)),(.int l 0),(.int i1 0),(.int i2 0),(.int i3 0),(.int i4 0),(.ref r),(.bool true),(.int i5 0),(.ref (r+1)),.none,x,y,(.ref r2),(.int q 0),(.int l 0),(.str "/claim/cut.py" (q+1))]),#[]⟩
noncomputable def ml(a:Str)(r ns t1 t2:Nat):Obj:=⟨(.type "type"),none,(.cls { name:=a,bases:=[(.type "object")],mro:=[(.ref r),(.type "object")],ns:=ns,qualname:=a,hasDict:=true,slotNames:=[],subclasses:=[],abstract:=false,collection:=none,hasDel:=false }),#[none,none,(some (.str a t1)),(some (.str a t2)),(some (.builtin "object.__new__")),(some (.bool true))]⟩
noncomputable def es(w:World)(s:Str)(t:Nat)(v:Value):DictEntry:=en w (.str s t) v
noncomputable def er(w:World)(s:Str)(t r:Nat):DictEntry:=en w (.str s t) (.ref r)
noncomputable def dF(a b:Str)(s:Stmt)(dv:Value)(m:Str)(t r:Nat):aV:=⟨a,b,asS s,dfS s,scS s,dv,.none,.none,(.str m t),none,(.ref r),.none,(.type "function"),none,#[]⟩
def D0:aV:=dF "law" "law" (cf 228) .none "law_xw0059_02" 3224 2016
def B0:List Stmt:=bh (cf 228)
def D1:aV:=dF "_law_reel" "_law_reel" (cf 213) .none "law_xw0059_02" 3224 1917
def B1:List Stmt:=bh (cf 213)
def D2:aV:=dF "_law_wound" "_law_wound" (cf 214) .none "law_xw0059_02" 3224 1924
def B2:List Stmt:=bh (cf 214)
def D3:aV:=dF "_law_one" "_law_one" (cf 215) .none "law_xw0059_02" 3224 1931
def B3:List Stmt:=bh (cf 215)
def D4:aV:=dF "_law_run" "_law_run" (cf 216) .none "law_xw0059_02" 3224 1938
def B4:List Stmt:=bh (cf 216)
def D5:aV:=dF "_law_sent" "_law_sent" (cf 217) .none "law_xw0059_02" 3224 1943
def B5:List Stmt:=bh (cf 217)
def D6:aV:=dF "_law_taken" "_law_taken" (cf 218) .none "law_xw0059_02" 3224 1948
def B6:List Stmt:=bh (cf 218)
def D7:aV:=dF "_law_closed" "_law_closed" (cf 219) .none "law_xw0059_02" 3224 1955
def B7:List Stmt:=bh (cf 219)
def D8:aV:=dF "_law_stands" "_law_stands" (cf 220) .none "law_xw0059_02" 3224 1962
def B8:List Stmt:=bh (cf 220)
def D9:aV:=dF "_law_channel_right" "_law_channel_right" (cf 221) .none "law_xw0059_02" 3224 1967
def B9:List Stmt:=bh (cf 221)
def On:aV:=dF "_law_pointer" "_law_pointer" (cf 222) .none "law_xw0059_02" 3224 1974
def Bw:List Stmt:=bh (cf 222)
def Jm:aV:=dF "_law_gate" "_law_gate" (cf 223) .none "law_xw0059_02" 3224 1981
def AZ:List Stmt:=bh (cf 223)
def M9:aV:=dF "_law_passed" "_law_passed" (cf 224) .none "law_xw0059_02" 3224 1988
def EK:List Stmt:=bh (cf 224)
def UI:aV:=dF "_law_gates_right" "_law_gates_right" (cf 225) .none "law_xw0059_02" 3224 1995
def l7:List Stmt:=bh (cf 225)
def Ln:aV:=dF "_law_no_lock" "_law_no_lock" (cf 226) .none "law_xw0059_02" 3224 2002
def E2:List Stmt:=bh (cf 226)
def NW:aV:=dF "_law_told_right" "_law_told_right" (cf 227) .none "law_xw0059_02" 3224 2009
def Es:List Stmt:=bh (cf 227)
def LN:aV:=dF "known_rows" "known_rows" (cf 210) .none "chancore.world" 3107 1874
def AA:List Stmt:=bh (cf 210)
def Pu:aV:=dF "all_functions" "all_functions" (cf 205) .none "chancore.plain_reader" 2851 1738
def Av:List Stmt:=bh (cf 205)
def J4:aV:=dF "pass_gate" "pass_gate" (cf 71) .none "chancore.reader_builtins" 1209 756
def Ey:List Stmt:=bh (cf 71)
def LH:aV:=dF "do_send" "do_send" (cf 73) .none "chancore.reader_builtins" 1209 770
def zR:List Stmt:=bh (cf 73)
def Hi:aV:=dF "do_receive" "do_receive" (cf 74) .none "chancore.reader_builtins" 1209 777
def Ak:List Stmt:=bh (cf 74)
def Nf:aV:=dF "meet_channel" "meet_channel" (cf 75) .none "chancore.reader_builtins" 1209 784
def zQ:List Stmt:=bh (cf 75)
def M8:aV:=dF "number_of_channel" "number_of_channel" (cf 72) .none "chancore.reader_builtins" 1209 763
def Al:List Stmt:=bh (cf 72)
def IE:aV:=dF "received_told" "received_told" (cf 78) .none "chancore.reader_builtins" 1209 805
def Ae:List Stmt:=bh (cf 78)
def Ol:aV:=dF "zero_value" "zero_value" (cf 46) .none "chancore.types" 1056 625
def zG:List Stmt:=bh (cf 46)
def JL:aV:=dF "underlying_of" "underlying_of" (cf 44) .none "chancore.types" 1056 615
def z6:List Stmt:=bh (cf 44)
def Ls:aV:=dF "place_of_pointer" "place_of_pointer" (cf 37) .none "chancore.plain_store" 732 404
def Fi:List Stmt:=bh (cf 37)
def HU:aV:=dF "runtime_panic" "runtime_panic" (cf 9) .none "chancore.errors" 194 123
def zo:List Stmt:=bh (cf 9)
def Jt:aV:=dF "__init__" "NamedRow.__init__" (bA 209 0) .none "chancore.world" 3107 1860
def AR:List Stmt:=bh (bA 209 0)
def K9:aV:=dF "__init__" "World.__init__" (bA 211 0) (.ref 1883) "chancore.world" 3107 1889
def zO:List Stmt:=bh (bA 211 0)
def Jf:aV:=dF "base_of" "World.base_of" (bA 211 1) .none "chancore.world" 3107 1896
def Ao:List Stmt:=bh (bA 211 1)
def MJ:aV:=dF "__init__" "PlainRun.__init__" (bA 206 0) .none "chancore.plain_reader" 2851 1752
def Ai:List Stmt:=bh (bA 206 0)
def Iy:aV:=dF "wait_here" "PlainRun.wait_here" (bA 206 5) .none "chancore.plain_reader" 2851 1787
def z8:List Stmt:=bh (bA 206 5)
def HE:aV:=dF "next_one" "PlainRun.next_one" (bA 206 6) .none "chancore.plain_reader" 2851 1794
def BB:List Stmt:=bh (bA 206 6)
def Ld:aV:=dF "wake_rows" "PlainRun.wake_rows" (bA 206 8) .none "chancore.plain_reader" 2851 1808
def zI:List Stmt:=bh (bA 206 8)
def LK:aV:=dF "__init__" "PlainStore.__init__" (bA 41 0) .none "chancore.plain_store" 732 472
def zX:List Stmt:=bh (bA 41 0)
def Lz:aV:=dF "__init__" "PlainChannels.__init__" (bA 95 0) .none "chancore.plain_channels" 1505 915
def zY:List Stmt:=bh (bA 95 0)
def LI:aV:=dF "make_one" "PlainChannels.make_one" (bA 95 1) .none "chancore.plain_channels" 1505 922
def AT:List Stmt:=bh (bA 95 1)
def OH:aV:=dF "first_waiting" "PlainChannels.first_waiting" (bA 95 4) .none "chancore.plain_channels" 1505 943
def AX:List Stmt:=bh (bA 95 4)
def JO:aV:=dF "let_go" "PlainChannels.let_go" (bA 95 5) .none "chancore.plain_channels" 1505 948
def zy:List Stmt:=bh (bA 95 5)
def I8:aV:=dF "may_send" "PlainChannels.may_send" (bA 95 6) .none "chancore.plain_channels" 1505 955
def zE:List Stmt:=bh (bA 95 6)
def M2:aV:=dF "may_take" "PlainChannels.may_take" (bA 95 7) .none "chancore.plain_channels" 1505 962
def AE:List Stmt:=bh (bA 95 7)
def N4:aV:=dF "may_do" "PlainChannels.may_do" (bA 95 8) .none "chancore.plain_channels" 1505 969
def AY:List Stmt:=bh (bA 95 8)
def Ju:aV:=dF "send_now" "PlainChannels.send_now" (bA 95 9) .none "chancore.plain_channels" 1505 976
def Bf:List Stmt:=bh (bA 95 9)
def Mw:aV:=dF "take_now" "PlainChannels.take_now" (bA 95 10) .none "chancore.plain_channels" 1505 983
def As:List Stmt:=bh (bA 95 10)
def M4:aV:=dF "do_now" "PlainChannels.do_now" (bA 95 11) .none "chancore.plain_channels" 1505 990
def An:List Stmt:=bh (bA 95 11)
def Nl:aV:=dF "close_now" "PlainChannels.close_now" (bA 95 12) .none "chancore.plain_channels" 1505 997
def A8:List Stmt:=bh (bA 95 12)
def GX:aV:=dF "ended" "PlainChannels.ended" (bA 95 13) .none "chancore.plain_channels" 1505 1004
def Af:List Stmt:=bh (bA 95 13)
def Ll:aV:=dF "wait_for" "PlainChannels.wait_for" (bA 95 14) .none "chancore.plain_channels" 1505 1011
def Ba:List Stmt:=bh (bA 95 14)
def Iz:aV:=dF "__init__" "PlainChannel.__init__" (bA 94 0) .none "chancore.plain_channels" 1505 894
def Bh:List Stmt:=bh (bA 94 0)
def OZ:aV:=dF "__init__" "PlainGates.__init__" (bA 97 0) .none "chancore.plain_gates" 1706 1032
def AW:List Stmt:=bh (bA 97 0)
def Od:aV:=dF "lock_now" "PlainGates.lock_now" (bA 97 1) .none "chancore.plain_gates" 1706 1039
def AB:List Stmt:=bh (bA 97 1)
def Og:aV:=dF "unlock_now" "PlainGates.unlock_now" (bA 97 2) .none "chancore.plain_gates" 1706 1046
def Fn:List Stmt:=bh (bA 97 2)
def Kv:aV:=dF "add_now" "PlainGates.add_now" (bA 97 3) .none "chancore.plain_gates" 1706 1051
def E9:List Stmt:=bh (bA 97 3)
def Hz:aV:=dF "wait_now" "PlainGates.wait_now" (bA 97 4) .none "chancore.plain_gates" 1706 1058
def zC:List Stmt:=bh (bA 97 4)
def Jw:aV:=dF "__init__" "PlainRoutines.__init__" (bA 23 0) .none "chancore.plain_frames" 473 311
def AK:List Stmt:=bh (bA 23 0)
def NS:aV:=dF "new_one" "PlainRoutines.new_one" (bA 23 1) .none "chancore.plain_frames" 473 318
def Bu:List Stmt:=bh (bA 23 1)
def NL:aV:=dF "pick_one" "PlainRoutines.pick_one" (bA 23 2) .none "chancore.plain_frames" 473 323
def Aj:List Stmt:=bh (bA 23 2)
def Mn:aV:=dF "wake_one" "PlainRoutines.wake_one" (bA 23 3) .none "chancore.plain_frames" 473 330
def zW:List Stmt:=bh (bA 23 3)
def Jg:aV:=dF "__init__" "PlainRoutine.__init__" (bA 22 0) .none "chancore.plain_frames" 473 290
def Aw:List Stmt:=bh (bA 22 0)
def Kn:aV:=dF "__init__" "PlainCall.__init__" (bA 21 0) .none "chancore.plain_frames" 473 248
def A9:List Stmt:=bh (bA 21 0)
def Mx:aV:=dF "take" "PlainCall.take" (bA 21 2) .none "chancore.plain_frames" 473 262
def Bd:List Stmt:=bh (bA 21 2)
def Js:aV:=dF "__init__" "Choices.__init__" (bA 80 0) .none "chancore.choices" 1386 819
def zq:List Stmt:=bh (bA 80 0)
def MQ:aV:=dF "pick" "Choices.pick" (bA 80 1) .none "chancore.choices" 1386 826
def zS:List Stmt:=bh (bA 80 1)
def GU:aV:=dF "__init__" "GoPanic.__init__" (bA 7 0) .none "chancore.errors" 194 110
def zH:List Stmt:=bh (bA 7 0)
def IR:aV:=dF "__init__" "ChanError.__init__" (bA 2 0) (.ref 29) "chancore.errors" 194 35
def Ac:List Stmt:=bh (bA 2 0)
def PT:aV:=dF "may_compare" "PlainRun.may_compare" (bA 206 1) .none "chancore.plain_reader" 2851 1759
def QC:List Stmt:=bh (bA 206 1)
noncomputable def bT(D:aV)(b:List Stmt):Obj:=⟨D.oc,D.od,.func (fnOf D.name D.qual (fO D.as D.df) b D.scope D.dV D.kV D.doc D.pm D.an D.cdv D.ct),D.osl⟩
def O1(w:World):Obj:=⟨(.type "dict"),none,(.dict #[er w "builtins" 162 4,er w "__main__" 163 5] 2),#[]⟩
def O2(w:World):Obj:=⟨.none,none,(.dict #[es w "type.__subclasses__.Exception.0" 224 (.int 39 0),es w "type.__subclasses__.Exception.n" 225 (.int 1 0)] 2),#[]⟩
def O3(w:World):Obj:=⟨(.type "dict"),none,(.dict #[es w "__name__" 165 (.str "law_xw0059_02" 3224),es w "__doc__" 166 .none,es w "__package__" 167 .none,es w "__loader__" 168 (.builtin "__main__.__loader__#opaque"),es w "__spec__" 169 .none,er w "__annotations__" 170 6,er w "__builtins__" 171 4,es w "__file__" 173 (.str "/claim/cut.py" 172),es w "__cached__" 174 .none,er w "_wall" 193 21,er w "ChanError" 227 39,er w "NameFault" 243 52,er w "TypeFault" 259 64,er w "MachineFault" 285 83,er w "FuelFault" 301 95,er w "GoPanic" 326 114,er w "RUNTIME_ERROR" 329 117,er w "runtime_panic" 336 124,er w "Reached" 371 142,er w "without_pointer" 378 153,er w "own_methods" 386 160,er w "members_at" 392 165,er w "embedded_in" 406 172,er w "Levels" 448 196,er w "start_type" 458 207,er w "find_member" 472 214,er w "PlainPanic" 504 231,er w "PlainCall" 566 273,er w "PlainRoutine" 598 294,er w "PlainRoutines" 653 334,er w "LOOSE_TAGS" 659 339,es w "MOST_PARTS" 663 (.int 1048576 662),er w "need_few" 671 346,er w "value_tag" 678 353,er w "values_equal" 693 361,er w "value_key" 706 369,er w "leaf_text" 714 376,er w "value_text" 731 384,es w "MOST_ELEMENTS" 737 (.int 1048576 736),er w "part_along" 746 391,er w "with_part_along" 756 398,er w "place_of_pointer" 763 405,er w "pointer_to" 770 412,er w "inner_place" 778 419,er w "PlainMap" 833 455,er w "PlainStore" 1018 579,er w "MapRound" 1055 605,er w "underlying_of" 1065 616,er w "is_comparable" 1071 621,er w "zero_value" 1077 626,er w "POINTED_NAMES" 1087 627,er w "face_receiver" 1105 634,er w "part_of_receiver" 1120 641,er w "resolved_call" 1131 648,er w "begun_call" 1137 653,er w "begun_builtin" 1147 660,er w "enter_later" 1160 667,er w "run_defers" 1170 674,er w "results_of" 1176 679,er w "behind_deferred" 1186 686,er w "lead_on" 1201 693,er w "recovered_by" 1208 700,es w "MOST_ROOM" 1214 (.int 1048576 1213),er w "NOTHING_TOLD" 1216 702,er w "GATE_NAMES" 1223 703,er w "do_builtin" 1235 710,er w "builtin_value" 1248 717,er w "deed_done" 1254 722,er w "values_listed" 1262 729,er w "chosen_of" 1272 736,er w "size_told" 1282 743,er w "made_thing" 1294 750,er w "pass_gate" 1308 757,er w "number_of_channel" 1315 764,er w "do_send" 1327 771,er w "do_receive" 1338 778,er w "meet_channel" 1353 785,er w "do_sent" 1363 792,er w "do_got" 1376 799,er w "received_told" 1385 806,er w "Choices" 1426 830,er w "names_of_methods" 1442 841,er w "member_or_none" 1451 848,er w "is_in_set" 1457 853,er w "method_set" 1470 860,er w "lack_of" 1481 867,er w "implements" 1493 874,er w "face_fits" 1504 881,es w "CLOSED_SEND" 1508 (.str "send on closed channel" 1507),es w "CLOSED_TWICE" 1510 (.str "close of closed channel" 1509),es w "CLOSED_NIL" 1512 (.str "close of nil channel" 1511),er w "PlainChannel" 1543 898,er w "PlainChannels" 1705 1015,er w "PlainGates" 1770 1062,es w "WRONG_RUNE" 1774 (.int 65533 1773),es w "LAST_RUNE" 1776 (.int 1114111 1775),es w "FIRST_HALF" 1778 (.int 55296 1777),es w "LAST_HALF" 1780 (.int 57343 1779),er w "LONG_HEADS" 1790 1070,er w "is_right_rune" 1797 1077,er w "head_of" 1808 1084,er w "rune_at" 1822 1091,er w "runes_of" 1833 1098,er w "rune_places" 1844 1105,er w "octets_of_rune" 1850 1110,er w "octets_of" 1856 1115,er w "cut_text" 1865 1122,er w "CountedRound" 1918 1153,er w "ToldRound" 1966 1188,er w "round_over" 1976 1199,er w "KIND_BITS" 2009 1200,er w "SHIFTING_OPS" 2012 1201,er w "has_sign" 2019 1208,er w "least_int" 2026 1215,er w "wrapped_int" 2035 1222,er w "cut_quotient" 2044 1229,er w "shifted_int" 2054 1236,er w "exact_result" 2064 1243,er w "int_arithmetic" 2074 1250,er w "int_unary" 2083 1257,er w "is_ordered_so" 2092 1264,er w "is_place_at" 2103 1271,er w "way_of_place" 2114 1278,er w "begin_of_way" 2124 1285,er w "place_on_way" 2140 1292,er w "COMPARING_SIGNS" 2149 1293,er w "OCTET_KIND" 2152 1294,es w "MOST_OCTETS" 2156 (.int 1048576 2155),er w "asked_values" 2162 1299,er w "ask_value" 2174 1306,er w "told_value" 2180 1311,er w "parts_asked" 2186 1316,er w "parts_of_value" 2192 1321,er w "do_load" 2203 1328,er w "do_pointer" 2214 1335,er w "do_second" 2225 1342,er w "do_made" 2237 1349,er w "count_of_parts" 2243 1354,er w "made_of" 2255 1361,er w "part_of_value" 2264 1368,er w "joined_texts" 2272 1375,er w "plain_binary" 2283 1382,er w "plain_converted" 2295 1389,er w "plain_asserted" 2307 1396,er w "plain_looked_up" 2319 1403,er w "plain_cut" 2337 1410,er w "new_thing" 2343 1415,er w "bound_method" 2352 1422,er w "do_call" 2367 1429,er w "statements_told" 2376 1436,er w "do_rows" 2390 1443,er w "do_statement" 2402 1450,er w "plain_tasks" 2410 1457,er w "later_tasks" 2420 1464,er w "long_tasks" 2428 1471,er w "do_drop" 2438 1478,er w "do_either" 2449 1485,er w "do_behind" 2459 1492,er w "parts_of_target" 2467 1499,er w "assign_at" 2478 1506,er w "value_before" 2490 1513,er w "assigning_tasks" 2496 1518,er w "values_told" 2504 1525,er w "do_assign" 2510 1530,er w "do_before" 2521 1537,er w "do_update" 2539 1544,er w "do_let" 2555 1551,er w "do_give" 2568 1558,er w "do_given" 2581 1565,er w "do_return" 2594 1572,er w "read_callee" 2603 1579,er w "do_go" 2619 1586,er w "do_defer" 2632 1593,er w "do_turn" 2643 1600,er w "do_turned" 2653 1607,er w "begin_turn" 2661 1614,er w "do_again" 2673 1621,er w "do_walk" 2685 1628,er w "name_given" 2693 1635,er w "walk_on" 2707 1642,er w "do_item" 2721 1649,er w "do_take" 2734 1656,er w "do_taken" 2749 1663,er w "do_ask" 2764 1670,er w "do_asked" 2778 1677,er w "enter_row" 2789 1684,er w "do_typed" 2806 1691,er w "begin_named" 2817 1698,er w "select_parts" 2827 1705,er w "do_select" 2833 1710,er w "do_selected" 2850 1717,er w "do_point" 2862 1724,er w "do_defers" 2872 1731,er w "TASK_DEEDS" 2951 1732,er w "all_functions" 2957 1739,er w "PlainRun" 3106 1840,er w "PLAIN" 3110 1847,er w "NamedRow" 3145 1864,er w "known_rows" 3158 1875,er w "World" 3223 1907,er w "_law_reel" 3234 1918,er w "_law_wound" 3243 1925,er w "_law_one" 3251 1932,er w "_law_run" 3259 1939,er w "_law_sent" 3265 1944,er w "_law_taken" 3271 1949,er w "_law_closed" 3281 1956,er w "_law_stands" 3293 1963,er w "_law_channel_right" 3299 1968,er w "_law_pointer" 3306 1975,er w "_law_gate" 3316 1982,er w "_law_passed" 3328 1989,er w "_law_gates_right" 3342 1996,er w "_law_no_lock" 3350 2003,er w "_law_told_right" 3360 2010,er w "law" 3377 2017] 216),#[]⟩
def Qs(w:World):Obj:=ml "NamedRow" 1864 1863 3111 3119
def Sx(w:World):Obj:=⟨(.type "dict"),none,(.dict #[es w "__module__" 3118 (.str "chancore.world" 3107),es w "__firstlineno__" 3122 (.int 1614 3121),er w "__init__" 3133 1861,er w "__static_attributes__" 3138 1862,er w "__dict__" 3140 1865,er w "__weakref__" 3142 1866,es w "__doc__" 3143 .none] 4),#[]⟩
def QQ(w:World):Obj:=ml "World" 1907 1906 3159 3167
def Sm(w:World):Obj:=⟨(.type "dict"),none,(.dict #[es w "__module__" 3166 (.str "chancore.world" 3107),es w "__firstlineno__" 3170 (.int 1630 3169),er w "__init__" 3178 1890,er w "base_of" 3187 1897,er w "settled" 3195 1904,er w "__static_attributes__" 3216 1905,er w "__dict__" 3218 1908,er w "__weakref__" 3220 1909,es w "__doc__" 3221 .none] 4),#[]⟩
def Sy(w:World):Obj:=ml "PlainRun" 1840 1839 2958 2966
def Qr(w:World):Obj:=⟨(.type "dict"),none,(.dict #[es w "__module__" 2965 (.str "chancore.plain_reader" 2851),es w "__firstlineno__" 2969 (.int 1532 2968),er w "__init__" 2981 1753,er w "may_compare" 2989 1760,er w "run" 2997 1767,er w "step" 3009 1774,er w "caught" 3018 1781,er w "wait_here" 3026 1788,er w "next_one" 3033 1795,er w "routine_is_over" 3041 1802,er w "wake_rows" 3052 1809,er w "answer_of" 3060 1816,er w "walk_of" 3069 1823,er w "is_of_type" 3078 1830,er w "held_as" 3087 1837,er w "__static_attributes__" 3099 1838,er w "__dict__" 3101 1841,er w "__weakref__" 3103 1842,es w "__doc__" 3104 .none] 4),#[]⟩
def XY(w:World):Obj:=ml "PlainStore" 579 578 834 842
def WQ(w:World):Obj:=⟨(.type "dict"),none,(.dict #[es w "__module__" 841 (.str "chancore.plain_store" 732),es w "__firstlineno__" 845 (.int 301 844),er w "__init__" 853 473,er w "new_cell" 861 480,er w "new_row" 869 487,er w "load" 880 494,er w "store" 893 501,er w "whole_slice" 901 508,er w "element_place" 910 515,er w "slice_listed" 916 520,er w "put_listed" 928 527,er w "part_of_slice" 944 534,er w "joined_slice" 958 541,er w "new_map" 965 548,er w "map_of" 973 555,er w "looked_up" 985 562,er w "put_key" 995 569,er w "drop_key" 1006 576,er w "__static_attributes__" 1011 577,er w "__dict__" 1013 580,er w "__weakref__" 1015 581,es w "__doc__" 1016 .none] 4),#[]⟩
def Rh(w:World):Obj:=ml "PlainChannels" 1015 1014 1544 1552
def PM(w:World):Obj:=⟨(.type "dict"),none,(.dict #[es w "__module__" 1551 (.str "chancore.plain_channels" 1505),es w "__firstlineno__" 1555 (.int 747 1554),er w "__init__" 1562 916,er w "make_one" 1570 923,er w "size_of" 1578 930,er w "room_of" 1586 937,er w "first_waiting" 1596 944,er w "let_go" 1602 949,er w "may_send" 1611 956,er w "may_take" 1620 963,er w "may_do" 1629 970,er w "send_now" 1640 977,er w "take_now" 1651 984,er w "do_now" 1661 991,er w "close_now" 1670 998,er w "ended" 1682 1005,er w "wait_for" 1695 1012,er w "__static_attributes__" 1698 1013,er w "__dict__" 1700 1016,er w "__weakref__" 1702 1017,es w "__doc__" 1703 .none] 4),#[]⟩
def Vo(w:World):Obj:=ml "PlainChannel" 898 897 1513 1521
def Zz(w:World):Obj:=⟨(.type "dict"),none,(.dict #[es w "__module__" 1520 (.str "chancore.plain_channels" 1505),es w "__firstlineno__" 1524 (.int 741 1523),er w "__init__" 1532 895,er w "__static_attributes__" 1536 896,er w "__dict__" 1538 899,er w "__weakref__" 1540 900,es w "__doc__" 1541 .none] 4),#[]⟩
def SW(w:World):Obj:=ml "PlainGates" 1062 1061 1708 1716
def SI(w:World):Obj:=⟨(.type "dict"),none,(.dict #[es w "__module__" 1715 (.str "chancore.plain_gates" 1706),es w "__firstlineno__" 1719 (.int 833 1718),er w "__init__" 1726 1033,er w "lock_now" 1735 1040,er w "unlock_now" 1744 1047,er w "add_now" 1750 1052,er w "wait_now" 1759 1059,er w "__static_attributes__" 1763 1060,er w "__dict__" 1765 1063,er w "__weakref__" 1767 1064,es w "__doc__" 1768 .none] 4),#[]⟩
def Wy(w:World):Obj:=ml "PlainRoutines" 334 333 599 607
def YH(w:World):Obj:=⟨(.type "dict"),none,(.dict #[es w "__module__" 606 (.str "chancore.plain_frames" 473),es w "__firstlineno__" 610 (.int 150 609),er w "__init__" 618 312,er w "new_one" 626 319,er w "pick_one" 632 324,er w "wake_one" 642 331,er w "__static_attributes__" 646 332,er w "__dict__" 648 335,er w "__weakref__" 650 336,es w "__doc__" 651 .none] 4),#[]⟩
def Xp(w:World):Obj:=ml "PlainRoutine" 294 293 567 575
def VX(w:World):Obj:=⟨(.type "dict"),none,(.dict #[es w "__module__" 574 (.str "chancore.plain_frames" 473),es w "__firstlineno__" 578 (.int 143 577),er w "__init__" 586 291,er w "__static_attributes__" 591 292,er w "__dict__" 593 295,er w "__weakref__" 595 296,es w "__doc__" 596 .none] 4),#[]⟩
def Wr(w:World):Obj:=ml "PlainCall" 273 272 505 513
def V2(w:World):Obj:=⟨(.type "dict"),none,(.dict #[es w "__module__" 512 (.str "chancore.plain_frames" 473),es w "__firstlineno__" 516 (.int 115 515),er w "__init__" 524 249,er w "do_later" 532 256,er w "take" 542 263,er w "leave_to" 551 270,er w "__static_attributes__" 559 271,er w "__dict__" 561 274,er w "__weakref__" 563 275,es w "__doc__" 564 .none] 4),#[]⟩
def ZT(w:World):Obj:=ml "Choices" 830 829 1388 1396
def aav(w:World):Obj:=⟨(.type "dict"),none,(.dict #[es w "__module__" 1395 (.str "chancore.choices" 1386),es w "__firstlineno__" 1399 (.int 675 1398),er w "__init__" 1407 820,er w "pick" 1416 827,er w "__static_attributes__" 1419 828,er w "__dict__" 1421 831,er w "__weakref__" 1423 832,es w "__doc__" 1424 .none] 4),#[]⟩
noncomputable def Lc(w:World):Obj:=⟨(.type "type"),none,(.cls { name:= "GoPanic",bases:=[(.ref 39)],mro:=[(.ref 114),(.ref 39),(.type "Exception"),(.type "BaseException"),(.type "object")],ns:=113,qualname:= "GoPanic",hasDict:=true,slotNames:=[],subclasses:=[],abstract:=false,collection:=none,hasDel:=false }),#[(some (.ref 98)),none,(some (.str "GoPanic" 302)),(some (.str "GoPanic" 310)),(some (.builtin "Exception.__new__")),(some (.bool true))]⟩
def aaA(w:World):Obj:=⟨(.type "dict"),none,(.dict #[es w "__module__" 309 (.str "chancore.errors" 194),es w "__firstlineno__" 313 (.int 22 312),er w "__init__" 321 111,er w "__static_attributes__" 323 112,es w "__doc__" 324 .none] 2),#[]⟩
noncomputable def O39(w:World):Obj:=⟨(.type "type"),none,(.cls { name:= "ChanError",bases:=[(.type "Exception")],mro:=[(.ref 39),(.type "Exception"),(.type "BaseException"),(.type "object")],ns:=38,qualname:= "ChanError",hasDict:=true,slotNames:=[],subclasses:=[(.ref 52),(.ref 64),(.ref 83),(.ref 95),(.ref 114)],abstract:=false,collection:=none,hasDel:=false }),#[(some (.ref 22)),none,(some (.str "ChanError" 196)),(some (.str "ChanError" 204)),(some (.builtin "Exception.__new__")),(some (.bool true))]⟩
def O38(w:World):Obj:=⟨(.type "dict"),none,(.dict #[es w "__module__" 203 (.str "chancore.errors" 194),es w "__firstlineno__" 207 (.int 5 206),er w "__init__" 217 36,er w "__static_attributes__" 220 37,er w "__weakref__" 222 40,es w "__doc__" 223 .none] 3),#[]⟩
def QW(w:World):Obj:=cO "law" "law" 3361 1814 1 0 0 3 2011 181 (.ref 2013) (.ref 2014) 2015 3375
def PR(w:World):Obj:=cO "_law_reel" "_law_reel" 3226 1669 1 0 0 3 1912 181 (.ref 1914) (.ref 1915) 1916 3232
def QA(w:World):Obj:=cO "_law_wound" "_law_wound" 3235 1673 2 0 0 3 1919 181 (.ref 1921) (.ref 1922) 1923 3241
def PH(w:World):Obj:=cO "_law_one" "_law_one" 3244 1680 2 0 0 3 1926 181 (.ref 1928) (.ref 1929) 1930 3249
def QV(w:World):Obj:=cO "_law_run" "_law_run" 3252 1682 0 0 0 3 1933 181 (.ref 1935) (.ref 1936) 1937 3257
def Sg(w:World):Obj:=cO "_law_sent" "_law_sent" 3260 1687 3 0 0 3 1940 181 .none .none 1942 3263
def Tf(w:World):Obj:=cO "_law_taken" "_law_taken" 3266 1701 2 0 0 3 1945 181 .none .none 1947 3269
def QU(w:World):Obj:=cO "_law_closed" "_law_closed" 3272 1712 1 0 0 3 1950 181 (.ref 1952) (.ref 1953) 1954 3279
def Rk(w:World):Obj:=cO "_law_stands" "_law_stands" 3282 1716 3 0 0 3 1957 181 (.ref 1959) (.ref 1960) 1961 3291
def Sn(w:World):Obj:=cO "_law_channel_right" "_law_channel_right" 3294 1725 2 0 0 3 1964 181 .none .none 1966 3297
def Sc(w:World):Obj:=cO "_law_pointer" "_law_pointer" 3300 1754 1 0 0 3 1969 181 (.ref 1971) (.ref 1972) 1973 3304
def SR(w:World):Obj:=cO "_law_gate" "_law_gate" 3307 1756 4 0 0 3 1976 181 (.ref 1978) (.ref 1979) 1980 3314
def Rb(w:World):Obj:=cO "_law_passed" "_law_passed" 3317 1775 4 0 0 3 1983 181 (.ref 1985) (.ref 1986) 1987 3326
def RJ(w:World):Obj:=cO "_law_gates_right" "_law_gates_right" 3329 1782 1 0 0 3 1990 181 (.ref 1992) (.ref 1993) 1994 3340
def P5(w:World):Obj:=cO "_law_no_lock" "_law_no_lock" 3343 1794 0 0 0 3 1997 181 (.ref 1999) (.ref 2000) 2001 3348
def PU(w:World):Obj:=cO "_law_told_right" "_law_told_right" 3351 1801 0 0 0 3 2004 181 (.ref 2006) (.ref 2007) 2008 3358
def Re(w:World):Obj:=cO "known_rows" "known_rows" 3146 1621 0 0 0 3 1869 181 (.ref 1871) (.ref 1872) 1873 3156
def Sj(w:World):Obj:=cO "all_functions" "all_functions" 2952 1525 1 0 0 3 1735 181 .none .none 1737 2955
def Y3(w:World):Obj:=cO "pass_gate" "pass_gate" 1295 632 4 0 0 3 751 181 (.ref 753) (.ref 754) 755 1306
def ZF(w:World):Obj:=cO "do_send" "do_send" 1316 649 4 0 0 3 765 181 (.ref 767) (.ref 768) 769 1325
def Zh(w:World):Obj:=cO "do_receive" "do_receive" 1328 652 4 0 0 3 772 181 (.ref 774) (.ref 775) 776 1336
def Xl(w:World):Obj:=cO "meet_channel" "meet_channel" 1339 655 7 0 0 3 779 181 (.ref 781) (.ref 782) 783 1351
def WV(w:World):Obj:=cO "number_of_channel" "number_of_channel" 1309 647 1 0 0 3 758 181 (.ref 760) (.ref 761) 762 1313
def Xk(w:World):Obj:=cO "received_told" "received_told" 1377 670 3 0 0 3 800 181 (.ref 802) (.ref 803) 804 1383
def Yw(w:World):Obj:=cO "zero_value" "zero_value" 1072 424 2 0 0 3 622 181 .none .none 624 1075
def VS(w:World):Obj:=cO "underlying_of" "underlying_of" 1058 407 2 0 0 3 610 181 (.ref 612) (.ref 613) 614 1063
def YD(w:World):Obj:=cO "place_of_pointer" "place_of_pointer" 757 271 1 0 0 3 399 181 (.ref 401) (.ref 402) 403 761
def YE(w:World):Obj:=cO "runtime_panic" "runtime_panic" 330 28 1 0 0 3 118 181 (.ref 120) (.ref 121) 122 334
def Q8(w:World):Obj:=cO "__init__" "NamedRow.__init__" 3123 1616 5 0 0 3 1855 181 (.ref 1857) (.ref 1858) 1859 3131
def SN(w:World):Obj:=cO "__init__" "World.__init__" 3171 1632 2 0 0 3 1884 181 (.ref 1886) (.ref 1887) 1888 3176
noncomputable def RA(w:World):Obj:=⟨(.type "tuple"),none,(.seq #[.none] 0),#[]⟩
def Qy(w:World):Obj:=cO "base_of" "World.base_of" 3179 1654 2 0 0 3 1891 181 (.ref 1893) (.ref 1894) 1895 3185
def QM(w:World):Obj:=cO "__init__" "PlainRun.__init__" 2970 1534 5 0 0 3 1747 181 (.ref 1749) (.ref 1750) 1751 2979
def QN(w:World):Obj:=cO "wait_here" "PlainRun.wait_here" 3019 1576 2 0 0 3 1782 181 (.ref 1784) (.ref 1785) 1786 3024
def RD(w:World):Obj:=cO "next_one" "PlainRun.next_one" 3027 1580 1 0 0 3 1789 181 (.ref 1791) (.ref 1792) 1793 3031
def QZ(w:World):Obj:=cO "wake_rows" "PlainRun.wake_rows" 3042 1591 2 0 0 3 1803 181 (.ref 1805) (.ref 1806) 1807 3050
def ZK(w:World):Obj:=cO "__init__" "PlainStore.__init__" 846 303 2 0 0 3 467 181 (.ref 469) (.ref 470) 471 851
def Vx(w:World):Obj:=cO "__init__" "PlainChannels.__init__" 1556 749 1 0 0 3 910 181 (.ref 912) (.ref 913) 914 1560
def VH(w:World):Obj:=cO "make_one" "PlainChannels.make_one" 1563 753 2 0 0 3 917 181 (.ref 919) (.ref 920) 921 1568
def Xc(w:World):Obj:=cO "first_waiting" "PlainChannels.first_waiting" 1587 763 3 0 0 3 938 181 (.ref 940) (.ref 941) 942 1594
def V0(w:World):Obj:=cO "let_go" "PlainChannels.let_go" 1597 769 2 0 0 3 945 181 .none .none 947 1600
def ZZ(w:World):Obj:=cO "may_send" "PlainChannels.may_send" 1603 772 2 0 0 3 950 181 (.ref 952) (.ref 953) 954 1609
def ZU(w:World):Obj:=cO "may_take" "PlainChannels.may_take" 1612 778 2 0 0 3 957 181 (.ref 959) (.ref 960) 961 1618
def YX(w:World):Obj:=cO "may_do" "PlainChannels.may_do" 1621 784 3 0 0 3 964 181 (.ref 966) (.ref 967) 968 1627
def XR(w:World):Obj:=cO "send_now" "PlainChannels.send_now" 1630 787 3 0 0 3 971 181 (.ref 973) (.ref 974) 975 1638
def X4(w:World):Obj:=cO "take_now" "PlainChannels.take_now" 1641 798 2 0 0 3 978 181 (.ref 980) (.ref 981) 982 1649
def Xz(w:World):Obj:=cO "do_now" "PlainChannels.do_now" 1652 808 4 0 0 3 985 181 (.ref 987) (.ref 988) 989 1659
def Wp(w:World):Obj:=cO "close_now" "PlainChannels.close_now" 1662 811 2 0 0 3 992 181 (.ref 994) (.ref 995) 996 1668
def QP(w:World):Obj:=cO "ended" "PlainChannels.ended" 1671 820 4 0 0 3 999 181 (.ref 1001) (.ref 1002) 1003 1680
def Ty(w:World):Obj:=cO "wait_for" "PlainChannels.wait_for" 1683 828 3 0 0 3 1006 181 (.ref 1008) (.ref 1009) 1010 1693
def X6(w:World):Obj:=cO "__init__" "PlainChannel.__init__" 1525 743 2 0 0 3 889 181 (.ref 891) (.ref 892) 893 1530
def RT(w:World):Obj:=cO "__init__" "PlainGates.__init__" 1720 835 1 0 0 3 1027 181 (.ref 1029) (.ref 1030) 1031 1724
def QY(w:World):Obj:=cO "lock_now" "PlainGates.lock_now" 1727 840 3 0 0 3 1034 181 (.ref 1036) (.ref 1037) 1038 1733
def Tw(w:World):Obj:=cO "unlock_now" "PlainGates.unlock_now" 1736 847 2 0 0 3 1041 181 (.ref 1043) (.ref 1044) 1045 1742
def To(w:World):Obj:=cO "add_now" "PlainGates.add_now" 1745 857 3 0 0 3 1048 181 .none .none 1050 1748
def Tj(w:World):Obj:=cO "wait_now" "PlainGates.wait_now" 1751 868 3 0 0 3 1053 181 (.ref 1055) (.ref 1056) 1057 1757
def Wv(w:World):Obj:=cO "__init__" "PlainRoutines.__init__" 611 152 2 0 0 3 306 181 (.ref 308) (.ref 309) 310 616
def XA(w:World):Obj:=cO "new_one" "PlainRoutines.new_one" 619 157 1 0 0 3 313 181 (.ref 315) (.ref 316) 317 624
def W4(w:World):Obj:=cO "pick_one" "PlainRoutines.pick_one" 627 164 1 0 0 3 320 181 .none .none 322 630
def Ww(w:World):Obj:=cO "wake_one" "PlainRoutines.wake_one" 633 171 3 0 0 3 325 181 (.ref 327) (.ref 328) 329 640
def VG(w:World):Obj:=cO "__init__" "PlainRoutine.__init__" 579 145 2 0 0 3 285 181 (.ref 287) (.ref 288) 289 584
def Vq(w:World):Obj:=cO "__init__" "PlainCall.__init__" 517 117 2 0 0 3 243 181 (.ref 245) (.ref 246) 247 522
def Xr(w:World):Obj:=cO "take" "PlainCall.take" 533 129 2 0 0 3 257 181 (.ref 259) (.ref 260) 261 540
def Z6(w:World):Obj:=cO "__init__" "Choices.__init__" 1400 677 2 0 0 3 814 181 (.ref 816) (.ref 817) 818 1405
def aae(w:World):Obj:=cO "pick" "Choices.pick" 1408 681 2 0 0 3 821 181 (.ref 823) (.ref 824) 825 1414
def XO(w:World):Obj:=cO "__init__" "GoPanic.__init__" 314 24 2 0 0 3 105 181 (.ref 107) (.ref 108) 109 319
def O35(w:World):Obj:=cO "__init__" "ChanError.__init__" 209 7 3 0 0 3 30 181 (.ref 32) (.ref 33) 34 215
noncomputable def O29(w:World):Obj:=⟨(.type "tuple"),none,(.seq #[(.int 0 208)] 0),#[]⟩
def K(w:World):Frag:=[(1,O1 w),(2,O2 w),(3,O3 w),(1864,Qs w),(1863,Sx w),(1907,QQ w),(1906,Sm w),(1840,Sy w),(1839,Qr w),(579,XY w),(578,WQ w),(1015,Rh w),(1014,PM w),(898,Vo w),(897,Zz w),(1062,SW w),(1061,SI w),(334,Wy w),(333,YH w),(294,Xp w),(293,VX w),(273,Wr w),(272,V2 w),(830,ZT w),(829,aav w),(114,Lc w),(113,aaA w),(39,O39 w),(38,O38 w),(2016,QW w),(1917,PR w),(1924,QA w),(1931,PH w),(1938,QV w),(1943,Sg w),(1948,Tf w),(1955,QU w),(1962,Rk w),(1967,Sn w),(1974,Sc w),(1981,SR w),(1988,Rb w),(1995,RJ w),(2002,P5 w),(2009,PU w),(1874,Re w),(1738,Sj w),(756,Y3 w),(770,ZF w),(777,Zh w),(784,Xl w),(763,WV w),(805,Xk w),(625,Yw w),(615,VS w),(404,YD w),(123,YE w),(1860,Q8 w),(1889,SN w),(1883,RA w),(1896,Qy w),(1752,QM w),(1787,QN w),(1794,RD w),(1808,QZ w),(472,ZK w),(915,Vx w),(922,VH w),(943,Xc w),(948,V0 w),(955,ZZ w),(962,ZU w),(969,YX w),(976,XR w),(983,X4 w),(990,Xz w),(997,Wp w),(1004,QP w),(1011,Ty w),(894,X6 w),(1032,RT w),(1039,QY w),(1046,Tw w),(1051,To w),(1058,Tj w),(311,Wv w),(318,XA w),(323,W4 w),(330,Ww w),(290,VG w),(248,Vq w),(262,Xr w),(819,Z6 w),(826,aae w),(110,XO w),(35,O35 w),(29,O29 w),(2017,bT D0 B0),(1918,bT D1 B1),(1925,bT D2 B2),(1932,bT D3 B3),(1939,bT D4 B4),(1944,bT D5 B5),(1949,bT D6 B6),(1956,bT D7 B7),(1963,bT D8 B8),(1968,bT D9 B9),(1975,bT On Bw),(1982,bT Jm AZ),(1989,bT M9 EK),(1996,bT UI l7),(2003,bT Ln E2),(2010,bT NW Es),(1875,bT LN AA),(1739,bT Pu Av),(757,bT J4 Ey),(771,bT LH zR),(778,bT Hi Ak),(785,bT Nf zQ),(764,bT M8 Al),(806,bT IE Ae),(626,bT Ol zG),(616,bT JL z6),(405,bT Ls Fi),(124,bT HU zo),(1861,bT Jt AR),(1890,bT K9 zO),(1897,bT Jf Ao),(1753,bT MJ Ai),(1788,bT Iy z8),(1795,bT HE BB),(1809,bT Ld zI),(473,bT LK zX),(916,bT Lz zY),(923,bT LI AT),(944,bT OH AX),(949,bT JO zy),(956,bT I8 zE),(963,bT M2 AE),(970,bT N4 AY),(977,bT Ju Bf),(984,bT Mw As),(991,bT M4 An),(998,bT Nl A8),(1005,bT GX Af),(1012,bT Ll Ba),(895,bT Iz Bh),(1033,bT OZ AW),(1040,bT Od AB),(1047,bT Og Fn),(1052,bT Kv E9),(1059,bT Hz zC),(312,bT Jw AK),(319,bT NS Bu),(324,bT NL Aj),(331,bT Mn zW),(291,bT Jg Aw),(249,bT Kn A9),(263,bT Mx Bd),(820,bT Js zq),(827,bT MQ zS),(111,bT GU zH),(36,bT IR Ac),(1760,bT PT QC)]
noncomputable def KA:List Addr:=[1,2,3,1864,1863,1907,1906,1840,1839,579,578,1015,1014,898,897,1062,1061,334,333,294,293,273,272,830,829,114,113,39,38,2016,1917,1924,1931,1938,1943,1948,1955,1962,1967,1974,1981,1988,1995,2002,2009,1874,1738,756,770,777,784,763,805,625,615,404,123,1860,1889,1883,1896,1752,1787,1794,1808,472,915,922,943,948,955,962,969,976,983,990,997,1004,1011,894,1032,1039,1046,1051,1058,311,318,323,330,290,248,262,819,826,110,35,29,2017,1918,1925,1932,1939,1944,1949,1956,1963,1968,1975,1982,1989,1996,2003,2010,1875,1739,757,771,778,785,764,806,626,616,405,124,1861,1890,1897,1753,1788,1795,1809,473,916,923,944,949,956,963,970,977,984,991,998,1005,1012,895,1033,1040,1047,1052,1059,312,319,324,331,291,249,263,820,827,111,36,1760]
noncomputable def lw:OpenLaw:=PySem.Challenge.rw_xw0059_02
noncomputable def CT:List Addr:=[1864,1907,1840,579,1015,898,1062,334,294,273,830]
end
end Internal.L
namespace Internal
noncomputable section
def pP(p:Program)(q:Program)(w:World)(S:Shared):=
 (staticsOk (importedModules p.main.body) (boot_heap w.params) S.heap&&gensDone S&&laidKept (boot_heap w.params) S.heap&&CY S.heap (importedModules p.main.body)&&S.heap.isNs mainGlobals&&S.heap.isNs builtinsNs&&y6 q S.heap&&S.gens.size == 0,
  S.heap.nsKeys mainGlobals,S.heap.bltView)
def mY(q:Program)(loose:List Str)(S:Shared):=
 (yV ((recsOf q).map (·.name)) (ownsOf q) [] { S with gens:=#[] },xL q S,Cj q (drecsOf q) S,Nq q (looseW q loose) S,Ig q loose S,Ec q S,DE q loose S)
noncomputable def mP(q:Program)(loose:List Str):=(expectedOf q,true,pinGoodD (drecsOf q),plainGoodE q (looseW q loose),plainGoodD q loose,wideGood q,clsGoodW q loose)
theorem Sk{S:SharedT}{KK:List (Addr × Obj)}{n:Nat}{as:List Addr}(ea:as=KK.map (·.1))(hn:S.n=n)(lt:as.all (fun a=>Nat.blt a n)=true)(h:(KK.map fun e=>(jf S.tree e.1).bind alive)=KK.map fun e=>some e.2):as.map S.abs.heap.get?=KK.map fun e=>some e.2:=by
 subst ea
 rw [List.map_map]
 refine List.map_congr_left fun e he=>?_
 have h1:=List.map_inj_left.mp h e he
 have h2:=List.all_eq_true.mp lt _ (List.mem_map_of_mem he)
 have h2:e.1<S.n:=by rw [hn]; exact Nat.le_of_ble_eq_true h2
 rw [iB] at h1
 obtain ⟨o,g1,g2⟩:=Option.bind_eq_some_iff.mp h1
 show (absHeap S.tree S.n S.life).get? e.1=_
 rw [abs_get h2 g1,g2]
theorem wf{p q:Program}{loose:List Str}{N:Nat}(M:Nat)(L:List Str)(KK:World->List (Addr × Obj))(as:List Addr)(n:Nat)(ea:∀w,as=(KK w).map (·.1))(lt:as.all (fun a=>Nat.blt a n)=true)
  (e:opening p=plainProg p.main.scope.names) (hN:Nat.ble 600 N=true) (f:∀s,fenceModules? p s=some s) (le:Nat.ble M N=true)
  (z:∀w:World,(boot_heap w.params).isNs mainGlobals=true)
  (k1:(L.all fun k=>startupNames.contains k||p.boundNames.contains k)=true)
  (k2:(L.all fun k=>startupNames.contains k||(looseW q loose).contains k||((recsOf q).map (·.name)).contains k||((litsOf q).map (·.1)).contains k||((clssOf q (looseW q loose)).map (·.name)).contains k)=true)
  (hA:∀(w:World),(fun os=>(iL M p w os).map fun S=>(pP p q w S.abs,S.n,(KK w).map fun e=>(jf S.tree e.1).bind alive))=fun q0=>some ((true,L,bltViewBooted),n,(KK w).map fun e=>some e.2))
  (hB:∀(w:World),(fun os=>(iL M p w os).map fun S=>mY q loose S.abs)=fun q0=>some (mP q loose)) :
  LeftO p q loose (fun q0=>true) (fun s=>as.map s.heap.get?) (fun w=>(KK w).map fun e=>some e.2) N:=
 wj M L e hN f le z k1 k2 fun w=>by
  funext os
  have h1:=congrFun (hA w) os
  have h2:=congrFun (hB w) os
  obtain ⟨S,hS,hl⟩:=Option.map_eq_some_iff.mp h1
  rw [hS] at h2
  have h2:mY q loose S.abs=mP q loose:=Option.some.inj h2
  obtain ⟨l1,l2,l3⟩:_/\_/\_:=by simpa only [Prod.mk.injEq] using hl
  rw [hS]
  show some (k7 p q loose w S.abs,as.map S.abs.heap.get?)=_
  rw [Sk (ea w) l2 lt l3]
  have h3:k7 p q loose w S.abs=mH q loose L:=by
   unfold pP at l1
   unfold mY mP at h2
   unfold k7 mH
   simp only [Prod.mk.injEq] at l1 h2 ⊢
   obtain ⟨a1,a2,a3⟩:=l1
   obtain ⟨b1,b2,b3,b4,b5,b6,b7⟩:=h2
   exact ⟨a1,a2,b1,a3,b2,b3,b4,b5,b6,b7⟩
  rw [h3]
def qq:Program:=OM L.pp 228
def ll:List Str:=FO L.pp "law"
def kk:List Str:=GY L.pp
theorem Lj(w:World):(fun os=>(iL 14200 L.pp (w.withFollow "special-get-raises" false) os).map fun S=>(pP L.pp qq (w.withFollow "special-get-raises" false) S.abs,S.n,(L.K (w.withFollow "special-get-raises" false)).map fun e=>(jf S.tree e.1).bind alive))=fun q0=>some ((true,kk,bltViewBooted),2018,(L.K (w.withFollow "special-get-raises" false)).map fun e=>some e.2):=by kernel_rfl
theorem Ki(w:World):(fun os=>(iL 14200 L.pp (w.withFollow "special-get-raises" false) os).map fun S=>mY qq ll S.abs)=fun q0=>some (mP qq ll):=by kernel_rfl
theorem OE(w:World):(fun os=>(iL 14200 L.pp (w.withFollow "special-get-raises" true) os).map fun S=>(pP L.pp qq (w.withFollow "special-get-raises" true) S.abs,S.n,(L.K (w.withFollow "special-get-raises" true)).map fun e=>(jf S.tree e.1).bind alive))=fun q0=>some ((true,kk,bltViewBooted),2018,(L.K (w.withFollow "special-get-raises" true)).map fun e=>some e.2):=by kernel_rfl
theorem N6(w:World):(fun os=>(iL 14200 L.pp (w.withFollow "special-get-raises" true) os).map fun S=>mY qq ll S.abs)=fun q0=>some (mP qq ll):=by kernel_rfl
end
end Internal
namespace Internal
noncomputable section
def lawDef:DefRec × List (Str × Expr):=match defOf qq "law" with | some x=>x | none=>(⟨"",default,[],default,default⟩,[])
theorem Z0:defOf qq L.lw.row.name=some (lawDef.1,lawDef.2):=by kernel_rfl
theorem hp:L.lw.row.prog.theDef L.lw.row.name=some (lawDef.1.params,lawDef.1.body,lawDef.1.scope):=by kernel_rfl
theorem hk:kwWritten? lawDef.1.params.kwonlyargs lawDef.1.params.kw_defaults=some lawDef.2:=by kernel_rfl
theorem mu:(chainsOk qq&&opensWell L.lw.row.prog&&(frees L.lw.row.toRowW&&L.lw.row.toRowW.within.isEmpty))=true:=by kernel_rfl
theorem hw:L.lw.row.toRowW.promised:=⟨[.list []],by decide +kernel,by decide +kernel⟩
theorem QB:opening L.pp=plainProg L.pp.main.scope.names:=by kernel_rfl
theorem JY(s:Shared):fenceModules? L.pp s=some s:=by kernel_rfl
theorem Pf(w:World):(boot_heap w.params).isNs mainGlobals=true:=by kernel_rfl
theorem MR:(kk.all fun k=>startupNames.contains k||L.pp.boundNames.contains k)=true:=by kernel_rfl
theorem IB:(kk.all fun k=>startupNames.contains k||(looseW qq ll).contains k||((recsOf qq).map (·.name)).contains k||((litsOf qq).map (·.1)).contains k||((clssOf qq (looseW qq ll)).map (·.name)).contains k)=true:=by kernel_rfl
theorem left:LeftO L.pp qq ll (fun q0=>true) (fun s=>L.KA.map s.heap.get?) (fun w=>(L.K w).map fun e=>some e.2) 28400:=
 wf 14200 kk L.K L.KA 2018 (fun q0=>rfl) (by kernel_rfl) QB rfl JY rfl Pf MR IB
  (fun w=>byRow2 "special-get-raises" (P:=fun w=>(fun os=>(iL 14200 L.pp w os).map fun S=>(pP L.pp qq w S.abs,S.n,(L.K w).map fun e=>(jf S.tree e.1).bind alive))=fun q0=>some ((true,kk,bltViewBooted),2018,(L.K w).map fun e=>some e.2)) Lj OE w)
  (fun w=>byRow2 "special-get-raises" (P:=fun w=>(fun os=>(iL 14200 L.pp w os).map fun S=>mY qq ll S.abs)=fun q0=>some (mP qq ll)) Ki N6 w)
def mm:Module:=L.pp.main
noncomputable def w6(m:Module):TablesWhole.Ctx:=⟨m.scope,[],[],[],none⟩
noncomputable def dX(m:Module)(l:List Stmt):Bool:=TablesWhole.wSs TablesWhole.holds m.scope (w6 m) m.scope l
theorem yB(m:Module)(k:Nat)(l:List Stmt)(a:dX m (l.take k)=true)(b:dX m (l.drop k)=true):dX m l=true:=by
 induction k generalizing l with
 | zero=>exact b
 | succ k ih=>
  cases l with
  | nil=>rfl
  | cons s l=>
   obtain ⟨h1,h2⟩:=Bool.and_eq_true_iff.mp (show (TablesWhole.wS TablesWhole.holds m.scope (w6 m) m.scope s&&dX m (l.take k))=true from a)
   show (TablesWhole.wS TablesWhole.holds m.scope (w6 m) m.scope s&&dX m l)=true
   rw [h1,ih l h2 b]; rfl
theorem eC(m:Module)(a b:Nat)(h:b=a+30)(t:dX m ((m.body.drop a).take 30)=true)(r:dX m (m.body.drop b)=true):dX m (m.body.drop a)=true:=
 yB m 30 _ t (by rw [List.drop_drop,<- h]; exact r)
theorem CZ(m:Module)(DF:TablesWhole.wSs TablesWhole.gather m.scope (w6 m) m.scope m.body=[])(h1:TablesWhole.noTwice m.scope=true)(h2:dX m (m.body.drop 0)=true):m.tablesWhole=true:=by
 rw [List.drop_zero] at h2
 unfold Module.tablesWhole TablesWhole.wModule
 show (true&&(TablesWhole.noTwice m.scope&&(TablesWhole.wSs TablesWhole.holds m.scope ⟨m.scope,[],TablesWhole.wSs TablesWhole.gather m.scope (w6 m) m.scope m.body,[],none⟩ m.scope m.body&&true)))=true
 rw [DF]
 show (true&&(TablesWhole.noTwice m.scope&&(dX m m.body&&true)))=true
 rw [h1,h2]; rfl
theorem FI(p:Program)(h1:p.modules=[])(h2:p.parses=[])(h3:p.harvested=[])(h:p.main.tablesWhole=true):p.tablesWhole=true:=by
 unfold Program.tablesWhole TablesWhole.wProgram
 rw [h1,h2,h3]
 show (p.main.tablesWhole&&_)=true
 rw [h]; rfl
theorem DF:TablesWhole.wSs TablesWhole.gather mm.scope (w6 mm) mm.scope mm.body=[]:=by kernel_rfl
theorem Xn:dX mm ((mm.body.drop 0).take 30)=true:=by kernel_rfl
theorem QJ:dX mm ((mm.body.drop 30).take 30)=true:=by kernel_rfl
theorem Rj:dX mm ((mm.body.drop 60).take 30)=true:=by kernel_rfl
theorem TU:dX mm ((mm.body.drop 90).take 30)=true:=by kernel_rfl
theorem Hc:dX mm ((mm.body.drop 120).take 30)=true:=by kernel_rfl
theorem Kc:dX mm ((mm.body.drop 150).take 30)=true:=by kernel_rfl
theorem Pw:dX mm ((mm.body.drop 180).take 30)=true:=by kernel_rfl
theorem G6:dX mm ((mm.body.drop 210).take 30)=true:=by kernel_rfl
theorem NG:dX mm (mm.body.drop 240)=true:=by kernel_rfl
theorem Cr:TablesWhole.noTwice mm.scope=true:=by kernel_rfl
theorem Ds:L.pp.tablesWhole=true:=FI L.pp rfl rfl rfl (CZ mm DF Cr (eC mm 0 30 rfl Xn (eC mm 30 60 rfl QJ (eC mm 60 90 rfl Rj (eC mm 90 120 rfl TU (eC mm 120 150 rfl Hc (eC mm 150 180 rfl Kc (eC mm 180 210 rfl Pw (eC mm 210 240 rfl G6 NG)))))))))
theorem bare:L.pp.bare:=⟨rfl,rfl,rfl,rfl,rfl,Ds⟩
theorem BW(p:Program)(h1:(sreFenced p.main&&((moduleNames p.main.body).isEmpty||lookedIntoSs (moduleNames p.main.body) p.main.body))=true)(h2:namesResolve p=true)(h3:p.boundNames.all (fun n=>!worldNames.contains n)=true)
  (h4:(!(importedModules p.main.body).all cThrough.contains)=false) (h5:(["vars","dir","locals"]:List Str).filter (readsOut p p.main.body)=[]) (h6:noRoadLSs { strict:=false,foot:=none,bare:=[] } p.main.body=true)
  (h7:(namesMeet p p.main.body fun q0 n=>attrL n)=true):looksOpen p=true:=by
 unfold looksOpen
 rw [h1,h2,h3,h4,h5,h6,h7]; rfl
theorem Iu(l:OpenLaw)(h0:looksOpen l.prog=true)(h1:looksOpen l.prog=true->l.row.wellSaid=true)
  (a1:(decide (l.foot<=(behindTheImports l.prog).length))=true) (a2:l.footing.all footLine=true) (a3:noClassBlock l.prog l.footing=true)
  (a4:l.most.all (fun n=>decide (63<=n))=true) (a5:l.bound.all (fun n=>decide (2 ^ 63<=n))=true)
  (a6:noRoadLSs { strict:=true,foot:=some l.bound',writes:=l.writes,may:=l.may } l.footing=true)
  (a7:defStands l.about l.above=true) (a8:l.namesIt=true)
  (a9:(["type","isinstance","issubclass","getattr","hasattr"]:List Str).all (fun n=>l.about != [n])=true)
  (b1:l.bound'.all (fun n=>!builtinNamed n||l.about == [n]||!l.reads n)=true) (b2:(!l.writes||(l.prog.main.body.flatMap importedNames).all fun n=>!l.reads n)=true)
  (b3:(l.prog.main.body.flatMap importedNames).all (fun n=>!l.reads n||(drawsOf n l.prog.main.body).all fun mn=>mn.2 != ("attrgetter" : Str)&&mn.2 != ("methodcaller" : Str))=true)
  (b4:namesMeet l.prog l.footing (fun sc n=>(!(["type","isinstance","issubclass","getattr","hasattr"]:List Str).contains n||sc.names.lookup n == some .globalImplicit)&&
   (l.may != some n||sc.kind == .module||sc.names.lookup n == some .globalImplicit))=true)
  (b5:l.own.contains l.name=true) (b6:(l.own.eraseDups.length == l.own.length)=true) (b7:l.own.all (fun n=>!builtinNamed n)=true)
  (b8:namesMeet l.prog l.above (fun q0 n=>!l.own.contains n)=true) (b9:(namesMeet l.prog l.footing fun sc n=>sc.kind == .module||sc.names.lookup n != some .globalExplicit)=true):l.wellSaid=true:=by
 unfold OpenLaw.wellSaid
 rw [h1 h0,a1,a2,a3,a4,a5,a6,a7,a8,a9,b1,b2,b3,b4,b5,b6,b7,b8,b9]; rfl
theorem s1:(sreFenced L.pp.main&&((moduleNames L.pp.main.body).isEmpty||lookedIntoSs (moduleNames L.pp.main.body) L.pp.main.body))=true:=by kernel_rfl
theorem s2:namesResolve L.pp=true:=by kernel_rfl
theorem s3:L.pp.boundNames.all (fun n=>!worldNames.contains n)=true:=by kernel_rfl
theorem s4:(!(importedModules L.pp.main.body).all cThrough.contains)=false:=by kernel_rfl
theorem s5:(["vars","dir","locals"]:List Str).filter (readsOut L.pp L.pp.main.body)=[]:=by kernel_rfl
theorem s6:noRoadLSs { strict:=false,foot:=none,bare:=[] } L.pp.main.body=true:=by kernel_rfl
theorem s7:(namesMeet L.pp L.pp.main.body fun q0 n=>attrL n)=true:=by kernel_rfl
theorem P9:looksOpen L.lw.prog=true:=BW L.pp s1 s2 s3 s4 s5 s6 s7
theorem FU(h:looksOpen L.lw.prog=true):L.lw.row.wellSaid=true:=by
 have h':looksOpen L.lw.row.prog=true:=h
 unfold OpenRow.wellSaid OpenRow.partSaid
 rw [h']
 kernel_rfl
theorem w0:L.lw.wellSaid=true:=Iu L.lw P9 FU (by kernel_rfl) (by kernel_rfl) (by kernel_rfl) (by kernel_rfl) (by kernel_rfl) (by kernel_rfl) (by kernel_rfl) (by kernel_rfl) (by kernel_rfl) (by kernel_rfl) (by kernel_rfl) (by kernel_rfl) (by kernel_rfl) (by kernel_rfl) (by kernel_rfl) (by kernel_rfl) (by kernel_rfl) (by kernel_rfl)
theorem head(walk:WalkX qq ll (fun q0 q0=>True) (fun s=>L.KA.map s.heap.get?) (fun w=>(L.K w).map fun e=>some e.2) L.lw.row.toRowW lawDef.1 lawDef.2 fun f vs=>PySem.call f vs):PySem.Challenge.rw_xw0059_02.Holds:=
 ⟨w0,holds_openX (r:=L.lw.row) (Xt:=fun q0=>true) (XP:=fun q0 q0=>True) left (fun q0 q0=>trivial) (fun q0 q0 q0 q0 q0=>trivial) Z0 hp hk (fun q0 q0=>recFacts_nil rfl) rfl (row_said w0) mu bare hw walk⟩
end
end Internal
namespace Internal
theorem el02  {A0 A1:Prop} {P:Prop} (h:A0/\A1) (f:A0->A1->P):P:=f h.1 h.2
theorem el11{α0:Sort u0}{A0:α0->Prop}{P:Prop}(h:∃a0,A0 a0)(f:∀a0,A0 a0->P):P:=h.elim f
theorem el03  {A0 A1 A2:Prop} {P:Prop} (h:A0/\A1/\A2) (f:A0->A1->A2->P):P:=el02 h.2 (f h.1)
theorem el12{α0:Sort u0}{A0 A1:α0->Prop}{P:Prop}(h:∃a0,A0 a0/\A1 a0)(f:∀a0,A0 a0->A1 a0->P):P:=h.elim fun a h=>el02 h (f a)
theorem el21{α0:Sort u0}{α1:Sort u1}{A0:α0->α1->Prop}{P:Prop}(h:∃a0 a1,A0 a0 a1)(f:∀a0 a1,A0 a0 a1->P):P:=h.elim fun a h=>el11 h (f a)
theorem el04  {A0 A1 A2 A3:Prop} {P:Prop} (h:A0/\A1/\A2/\A3) (f:A0->A1->A2->A3->P):P:=el03 h.2 (f h.1)
theorem el13{α0:Sort u0}{A0 A1 A2:α0->Prop}{P:Prop}(h:∃a0,A0 a0/\A1 a0/\A2 a0)(f:∀a0,A0 a0->A1 a0->A2 a0->P):P:=h.elim fun a h=>el03 h (f a)
theorem el22{α0:Sort u0}{α1:Sort u1}{A0 A1:α0->α1->Prop}{P:Prop}(h:∃a0 a1,A0 a0 a1/\A1 a0 a1)(f:∀a0 a1,A0 a0 a1->A1 a0 a1->P):P:=h.elim fun a h=>el12 h (f a)
theorem el31{α0:Sort u0}{α1:Sort u1}{α2:Sort u2}{A0:α0->α1->α2->Prop}{P:Prop}(h:∃a0 a1 a2,A0 a0 a1 a2)(f:∀a0 a1 a2,A0 a0 a1 a2->P):P:=h.elim fun a h=>el21 h (f a)
theorem el05  {A0 A1 A2 A3 A4:Prop} {P:Prop} (h:A0/\A1/\A2/\A3/\A4) (f:A0->A1->A2->A3->A4->P):P:=el04 h.2 (f h.1)
theorem el14{α0:Sort u0}{A0 A1 A2 A3:α0->Prop}{P:Prop}(h:∃a0,A0 a0/\A1 a0/\A2 a0/\A3 a0)(f:∀a0,A0 a0->A1 a0->A2 a0->A3 a0->P):P:=h.elim fun a h=>el04 h (f a)
theorem el23{α0:Sort u0}{α1:Sort u1}{A0 A1 A2:α0->α1->Prop}{P:Prop}(h:∃a0 a1,A0 a0 a1/\A1 a0 a1/\A2 a0 a1)(f:∀a0 a1,A0 a0 a1->A1 a0 a1->A2 a0 a1->P):P:=h.elim fun a h=>el13 h (f a)
theorem el32{α0:Sort u0}{α1:Sort u1}{α2:Sort u2}{A0 A1:α0->α1->α2->Prop}{P:Prop}(h:∃a0 a1 a2,A0 a0 a1 a2/\A1 a0 a1 a2)(f:∀a0 a1 a2,A0 a0 a1 a2->A1 a0 a1 a2->P):P:=h.elim fun a h=>el22 h (f a)
theorem el41{α0:Sort u0}{α1:Sort u1}{α2:Sort u2}{α3:Sort u3}{A0:α0->α1->α2->α3->Prop}{P:Prop}(h:∃a0 a1 a2 a3,A0 a0 a1 a2 a3)(f:∀a0 a1 a2 a3,A0 a0 a1 a2 a3->P):P:=h.elim fun a h=>el31 h (f a)
theorem el06  {A0 A1 A2 A3 A4 A5:Prop} {P:Prop} (h:A0/\A1/\A2/\A3/\A4/\A5) (f:A0->A1->A2->A3->A4->A5->P):P:=el05 h.2 (f h.1)
theorem el15{α0:Sort u0}{A0 A1 A2 A3 A4:α0->Prop}{P:Prop}(h:∃a0,A0 a0/\A1 a0/\A2 a0/\A3 a0/\A4 a0)(f:∀a0,A0 a0->A1 a0->A2 a0->A3 a0->A4 a0->P):P:=h.elim fun a h=>el05 h (f a)
theorem el24{α0:Sort u0}{α1:Sort u1}{A0 A1 A2 A3:α0->α1->Prop}{P:Prop}(h:∃a0 a1,A0 a0 a1/\A1 a0 a1/\A2 a0 a1/\A3 a0 a1)(f:∀a0 a1,A0 a0 a1->A1 a0 a1->A2 a0 a1->A3 a0 a1->P):P:=h.elim fun a h=>el14 h (f a)
theorem el33{α0:Sort u0}{α1:Sort u1}{α2:Sort u2}{A0 A1 A2:α0->α1->α2->Prop}{P:Prop}(h:∃a0 a1 a2,A0 a0 a1 a2/\A1 a0 a1 a2/\A2 a0 a1 a2)(f:∀a0 a1 a2,A0 a0 a1 a2->A1 a0 a1 a2->A2 a0 a1 a2->P):P:=h.elim fun a h=>el23 h (f a)
theorem el42{α0:Sort u0}{α1:Sort u1}{α2:Sort u2}{α3:Sort u3}{A0 A1:α0->α1->α2->α3->Prop}{P:Prop}(h:∃a0 a1 a2 a3,A0 a0 a1 a2 a3/\A1 a0 a1 a2 a3)(f:∀a0 a1 a2 a3,A0 a0 a1 a2 a3->A1 a0 a1 a2 a3->P):P:=h.elim fun a h=>el32 h (f a)
theorem el51{α0:Sort u0}{α1:Sort u1}{α2:Sort u2}{α3:Sort u3}{α4:Sort u4}{A0:α0->α1->α2->α3->α4->Prop}{P:Prop}(h:∃a0 a1 a2 a3 a4,A0 a0 a1 a2 a3 a4)(f:∀a0 a1 a2 a3 a4,A0 a0 a1 a2 a3 a4->P):P:=h.elim fun a h=>el41 h (f a)
theorem el16{α0:Sort u0}{A0 A1 A2 A3 A4 A5:α0->Prop}{P:Prop}(h:∃a0,A0 a0/\A1 a0/\A2 a0/\A3 a0/\A4 a0/\A5 a0)(f:∀a0,A0 a0->A1 a0->A2 a0->A3 a0->A4 a0->A5 a0->P):P:=h.elim fun a h=>el06 h (f a)
theorem el25{α0:Sort u0}{α1:Sort u1}{A0 A1 A2 A3 A4:α0->α1->Prop}{P:Prop}(h:∃a0 a1,A0 a0 a1/\A1 a0 a1/\A2 a0 a1/\A3 a0 a1/\A4 a0 a1)(f:∀a0 a1,A0 a0 a1->A1 a0 a1->A2 a0 a1->A3 a0 a1->A4 a0 a1->P):P:=h.elim fun a h=>el15 h (f a)
theorem el34{α0:Sort u0}{α1:Sort u1}{α2:Sort u2}{A0 A1 A2 A3:α0->α1->α2->Prop}{P:Prop}(h:∃a0 a1 a2,A0 a0 a1 a2/\A1 a0 a1 a2/\A2 a0 a1 a2/\A3 a0 a1 a2)(f:∀a0 a1 a2,A0 a0 a1 a2->A1 a0 a1 a2->A2 a0 a1 a2->A3 a0 a1 a2->P):P:=h.elim fun a h=>el24 h (f a)
theorem el43{α0:Sort u0}{α1:Sort u1}{α2:Sort u2}{α3:Sort u3}{A0 A1 A2:α0->α1->α2->α3->Prop}{P:Prop}(h:∃a0 a1 a2 a3,A0 a0 a1 a2 a3/\A1 a0 a1 a2 a3/\A2 a0 a1 a2 a3)(f:∀a0 a1 a2 a3,A0 a0 a1 a2 a3->A1 a0 a1 a2 a3->A2 a0 a1 a2 a3->P):P:=h.elim fun a h=>el33 h (f a)
theorem el52{α0:Sort u0}{α1:Sort u1}{α2:Sort u2}{α3:Sort u3}{α4:Sort u4}{A0 A1:α0->α1->α2->α3->α4->Prop}{P:Prop}(h:∃a0 a1 a2 a3 a4,A0 a0 a1 a2 a3 a4/\A1 a0 a1 a2 a3 a4)(f:∀a0 a1 a2 a3 a4,A0 a0 a1 a2 a3 a4->A1 a0 a1 a2 a3 a4->P):P:=h.elim fun a h=>el42 h (f a)
theorem el61{α0:Sort u0}{α1:Sort u1}{α2:Sort u2}{α3:Sort u3}{α4:Sort u4}{α5:Sort u5}{A0:α0->α1->α2->α3->α4->α5->Prop}{P:Prop}(h:∃a0 a1 a2 a3 a4 a5,A0 a0 a1 a2 a3 a4 a5)(f:∀a0 a1 a2 a3 a4 a5,A0 a0 a1 a2 a3 a4 a5->P):P:=h.elim fun a h=>el51 h (f a)
theorem el26{α0:Sort u0}{α1:Sort u1}{A0 A1 A2 A3 A4 A5:α0->α1->Prop}{P:Prop}(h:∃a0 a1,A0 a0 a1/\A1 a0 a1/\A2 a0 a1/\A3 a0 a1/\A4 a0 a1/\A5 a0 a1)(f:∀a0 a1,A0 a0 a1->A1 a0 a1->A2 a0 a1->A3 a0 a1->A4 a0 a1->A5 a0 a1->P):P:=h.elim fun a h=>el16 h (f a)
theorem el35{α0:Sort u0}{α1:Sort u1}{α2:Sort u2}{A0 A1 A2 A3 A4:α0->α1->α2->Prop}{P:Prop}(h:∃a0 a1 a2,A0 a0 a1 a2/\A1 a0 a1 a2/\A2 a0 a1 a2/\A3 a0 a1 a2/\A4 a0 a1 a2)(f:∀a0 a1 a2,A0 a0 a1 a2->A1 a0 a1 a2->A2 a0 a1 a2->A3 a0 a1 a2->A4 a0 a1 a2->P):P:=h.elim fun a h=>el25 h (f a)
theorem el44{α0:Sort u0}{α1:Sort u1}{α2:Sort u2}{α3:Sort u3}{A0 A1 A2 A3:α0->α1->α2->α3->Prop}{P:Prop}(h:∃a0 a1 a2 a3,A0 a0 a1 a2 a3/\A1 a0 a1 a2 a3/\A2 a0 a1 a2 a3/\A3 a0 a1 a2 a3)(f:∀a0 a1 a2 a3,A0 a0 a1 a2 a3->A1 a0 a1 a2 a3->A2 a0 a1 a2 a3->A3 a0 a1 a2 a3->P):P:=h.elim fun a h=>el34 h (f a)
theorem el53{α0:Sort u0}{α1:Sort u1}{α2:Sort u2}{α3:Sort u3}{α4:Sort u4}{A0 A1 A2:α0->α1->α2->α3->α4->Prop}{P:Prop}(h:∃a0 a1 a2 a3 a4,A0 a0 a1 a2 a3 a4/\A1 a0 a1 a2 a3 a4/\A2 a0 a1 a2 a3 a4)(f:∀a0 a1 a2 a3 a4,A0 a0 a1 a2 a3 a4->A1 a0 a1 a2 a3 a4->A2 a0 a1 a2 a3 a4->P):P:=h.elim fun a h=>el43 h (f a)
theorem el62{α0:Sort u0}{α1:Sort u1}{α2:Sort u2}{α3:Sort u3}{α4:Sort u4}{α5:Sort u5}{A0 A1:α0->α1->α2->α3->α4->α5->Prop}{P:Prop}(h:∃a0 a1 a2 a3 a4 a5,A0 a0 a1 a2 a3 a4 a5/\A1 a0 a1 a2 a3 a4 a5)(f:∀a0 a1 a2 a3 a4 a5,A0 a0 a1 a2 a3 a4 a5->A1 a0 a1 a2 a3 a4 a5->P):P:=h.elim fun a h=>el52 h (f a)
theorem om0{k n:Nat}(h:k<n+1)(g:¬k=n):k<n:=Nat.lt_of_le_of_ne (Nat.le_of_lt_succ h) g
theorem om1{i k n:Nat}(h:i+(k+1)=n):i+1+k=n:=(Nat.succ_add_eq_add_succ i k).trans h
theorem om2{i k:Nat}:i+(k+1)=i+1+k:=(Nat.succ_add_eq_add_succ i k).symm
theorem om3{i k:Nat}:i+1+k=i+(k+1):=Nat.succ_add_eq_add_succ i k
theorem om4{a d r:Nat}(h:a+(d+1)<r):a+1+d<r:=Nat.lt_of_le_of_lt (Nat.le_of_eq om3) h
theorem om5{a d r:Nat}(h:a+(d+1)<r):a<r:=Nat.lt_of_le_of_lt (Nat.le_add_right a _) h
theorem om6{a r:Nat}(h:a+2<r):a+1<r:=Nat.lt_of_succ_lt h
theorem om8{a d d' r:Nat}(l:d<=d')(h:a+d'<r):a+d<r:=Nat.lt_of_le_of_lt (Nat.add_le_add_left l a) h
theorem om9{a d d' c:Nat}(l:d<=d')(h:a+4 * d'+40<c):a+4 * d+40<c:=Nat.lt_of_le_of_lt (Nat.add_le_add_right (Nat.add_le_add_left (Nat.mul_le_mul_left 4 l) a) 40) h
theorem om10{a d c k:Nat}(h:a+4 * (d+1)+40<c)(q:Nat.ble k 4=true):a+k+4 * d+40<c:=
 Nat.lt_of_le_of_lt (Nat.add_le_add_right (Nat.le_trans (Nat.le_of_eq (Nat.add_right_comm a k _)) (Nat.add_le_add_left (Nat.le_of_ble_eq_true q) _)) 40) h
theorem om11{a d c:Nat}(h:a+4 * (d+1)+40<c):a+3+4 * d+40<c:=om10 h rfl
theorem om12{a d c:Nat}(h:a+4 * (d+2)+40<c):a+1+4 * (d+1)+40<c:=om10 h rfl
theorem om13{a d c k:Nat}(h:a+4 * d+40<c)(q:Nat.ble k 40=true):a+k<c:=
 Nat.lt_of_le_of_lt (Nat.le_trans (Nat.add_le_add_right (Nat.le_add_right a (4 * d)) k) (Nat.add_le_add_left (Nat.le_of_ble_eq_true q) _)) h
theorem om14{a d c:Nat}(h:a+4 * d+40<c):a+9<c:=om13 h rfl
theorem om15{a d c:Nat}(h:a+4 * d+40<c):a+3<c:=om13 h rfl
theorem om16{k n:Nat}(h:¬k<n):n<=k:=Nat.le_of_not_lt h
theorem om17{k n:Nat}(h:¬k<=n):n<=k:=Nat.le_of_lt (Nat.lt_of_not_le h)
theorem om18{i j k:Nat}(h:j - i=k+1):j - (i+1)=k:=by rw [Nat.sub_succ,h]; rfl
theorem om19{i j k:Nat}(h:j - i=k+1):i+1<=j:=Nat.lt_of_sub_pos (h▸Nat.succ_pos k)
theorem om20{i j:Nat}(h:j - i=0)(l:i<=j):i=j:=Nat.le_antisymm l (Nat.le_of_sub_eq_zero h)
theorem om21{i j k:Nat}(l:i<=j)(h:j<k):i<k:=Nat.lt_of_le_of_lt l h
theorem om22{n:Nat}:(0:Int)<=n:=Int.natCast_nonneg n
theorem om23{n:Nat}:¬(n:Int)<0:=Int.not_lt.mpr (Int.natCast_nonneg n)
theorem om24{k n:Nat}(h:k<n):(k:Int)<n:=Int.ofNat_lt.mpr h
theorem om25{k n:Nat}(h:k<=n):(k:Int)<=n:=Int.ofNat_le.mpr h
theorem om26{n:Nat}(h:n<=255):(n:Int)<256:=Int.ofNat_lt.mpr (Nat.lt_succ_of_le h)
theorem om27{n:Nat}(h:0<n):(0:Int)<n:=Int.natCast_pos.mpr h
theorem om28{n:Nat}(h:n<=500):(n:Int)<1000:=Int.ofNat_lt.mpr (Nat.lt_of_le_of_lt h (by decide))
theorem om29{n:Nat}(h:n<=100000):(n:Int)<2 ^ 63:=Int.lt_of_le_of_lt (Int.ofNat_le.mpr h) (by decide)
theorem om30{n:Nat} : -2 ^ 62<=(n:Int):=Int.le_trans (by decide) (Int.natCast_nonneg n)
theorem om31{n:Nat}(h:n<=1000):(n:Int)<2 ^ 62:=Int.lt_of_le_of_lt (Int.ofNat_le.mpr h) (by decide)
theorem om32{k n:Nat}(h:k+1<=n):Int.negSucc k+(n:Int)=((n - (k+1):Nat):Int):=Int.subNatNat_of_le h
theorem om33{k n:Nat}(h:k+1<=n):n - (k+1)=(Int.negSucc k+(n:Int)).toNat:=by rw [om32 h]; rfl
theorem om34{k n:Nat}(h:k+1<=n):(Int.negSucc k+(n:Int)).toNat=n - (k+1):=(om33 h).symm
theorem om35{k n:Nat}(h:k+1<=n):0<=Int.negSucc k+(n:Int):=by rw [om32 h]; exact Int.natCast_nonneg _
theorem om36{k n:Nat}(h:k+1<=n):Int.negSucc k+(n:Int)<n:=by rw [om32 h]; exact Int.ofNat_lt.mpr (Nat.sub_lt (Nat.lt_of_lt_of_le (Nat.succ_pos k) h) (Nat.succ_pos k))
theorem om37{k n:Nat}(h:k+1<=n) : -(n:Int)<=Int.negSucc k:=Int.neg_le_neg (Int.ofNat_le.mpr h)
theorem om38{k:Nat}(h:k<=1000) : -2 ^ 62<=Int.negSucc k:=Int.le_trans (by decide) (Int.neg_le_neg (Int.ofNat_le.mpr (Nat.succ_le_succ h)))
theorem om39{k:Nat}:Int.negSucc k<2 ^ 62:=Int.lt_trans (Int.negSucc_lt_zero k) (by decide)
theorem om40{k:Nat}:Int.negSucc k<0:=Int.negSucc_lt_zero k
theorem om41{i:Int}(h : -2 ^ 62<=i) : -2 ^ 63<=i:=Int.le_trans (by decide) h
theorem om42{i:Int}(h:i<2 ^ 62):i<2 ^ 63:=Int.lt_trans h (by decide)
theorem om44{n:Nat}(h:n<=1000):n<=16777216:=Nat.le_trans h (by decide)
theorem om45{n:Nat}(h:n<=1000):n<=16777216+1:=Nat.le_trans h (by decide)
theorem om49{l v S:Nat}(e:l=v)(q:S=16777216)(h:l<=999):v+1<=S:=by rw [<- e,q]; exact Nat.le_trans (Nat.succ_le_succ h) (by decide)
theorem om51{m j:Nat}(h:m+1<j+1):m<j:=Nat.lt_of_succ_lt_succ h
theorem om52{m j:Nat}(h:m+1<=j+1):m<=j:=Nat.le_of_succ_le_succ h
theorem om53{i m:Nat}(h:i+1<=m):i<=m:=Nat.le_of_succ_le h
theorem om54{m:Nat}(h:m<=0):m=0:=Nat.le_zero.mp h
theorem om55{m:Nat}(h:m<0){p:Prop}:p:=absurd h (Nat.not_lt_zero m)
theorem om57{i j:Nat}(h:i<j)(e:i=j):False:=Nat.ne_of_lt h e
theorem om58{b:Int}(h:0<b)(e:b=0):False:=Int.ne_of_gt h e
theorem om59{b:Int}{p:Prop}(h:0<b/\p)(e:b=0):False:=Int.ne_of_gt h.1 e
theorem om60{i n m:Nat}(h:i+(n+1)=m)(e:u=m):i<u:=e▸h▸Nat.lt_add_of_pos_right (Nat.succ_pos n)
theorem om61{i n m:Nat}(h:i+(n+1)=m):i<m:=h▸Nat.lt_add_of_pos_right (Nat.succ_pos n)
theorem om64{a b c:Nat}(h:a<=b):a<=b+1:=Nat.le_succ_of_le h
theorem om65{a b:Nat}(h:a<=b):a+1<=b+1:=Nat.succ_le_succ h
theorem om68{x:Int}(h:0<=x):x=(x.toNat:Int):=(Int.toNat_of_nonneg h).symm
theorem om69{x:Int}(h:0<=x):0<=x/\x<=(x.toNat:Int):=⟨h,Int.le_of_eq (om68 h)⟩
theorem om70{x:Int}{t:Nat}(h:0<=x)(g:x<t):x.toNat<t:=Int.ofNat_lt.mp (by rw [Int.toNat_of_nonneg h]; exact g)
theorem om71{n b:Nat}(h:n=b):n<=b:=Nat.le_of_eq h
theorem om72{n b:Nat}(h:n=b):b - n=0:=by rw [h]; exact Nat.sub_self b
theorem om73{k n r:Nat}(h:k<n):k<n+r:=Nat.lt_add_right r h
theorem om74{k n b:Nat}(e:n=b)(h:k<b):k<n:=e▸h
theorem om75{k n b:Nat}(e:n=b)(h:k≥b):n<=k:=e▸h
theorem om76{n:Nat}:(0:Nat)+n=n:=Nat.zero_add n
theorem om77{p:Nat}(h:p<300):p<=299:=Nat.le_of_lt_succ h
theorem om79{z a:Int}:z=a+(z + -1 * a):=by rw [Int.neg_one_mul,Int.add_comm z,<- Int.add_assoc,Int.add_right_neg,Int.zero_add]
theorem om80{z j:Int}:z - j=z + -j:=rfl
theorem om81{z:Int}:z=0+z:=(Int.zero_add z).symm
theorem om82{i n:Nat}:(n:Int) - ((i+1:Nat):Int)=n - i - 1:=Int.sub_sub n i 1 |>.symm
theorem om83{j n:Nat}(h:j.succ<=n):(0:Int)<n - j:=Int.sub_pos_of_lt (Int.ofNat_lt.mpr h)
theorem om84{i k n:Nat}(h:i+(k+1)=n):(0:Int)<n - i:=Int.sub_pos_of_lt (Int.ofNat_lt.mpr (om61 h))
theorem om85{n:Nat}(h:n=0):(0:Int)=n:=by rw [h]; rfl
theorem om88{a n:Nat}(h:¬a<=n):min a n=n:=Nat.min_eq_right (om17 h)
theorem om89{u w:Nat}(h:u=w):min u w=u:=Nat.min_eq_left (Nat.le_of_eq h)
theorem om90{j u w:Nat}(h:j<u)(g:j<w):j<min u w:=Nat.lt_min.mpr ⟨h,g⟩
theorem om91{j k:Nat}(a:j % 2=k % 2)(b:j / 2=k / 2):j=k:=by rw [<- Nat.div_add_mod j 2,<- Nat.div_add_mod k 2,a,b]
theorem om92{j k:Nat}(h:k % 2≠0)(g:¬j % 2=0)(n:¬j=k)(b:j / 2=k / 2):False:=n (om91 ((Nat.mod_two_ne_zero.mp g).trans (Nat.mod_two_ne_zero.mp h).symm) b)
theorem om93{j k:Nat}(h:k % 2=0)(g:j % 2=0)(n:¬j=k)(b:j / 2=k / 2):False:=n (om91 (g.trans h.symm) b)
theorem om94{l r:Nat}(h:l<=r - 1)(p:0<r):l+1<=r:=Nat.add_le_of_le_sub p h
theorem om96{p n:Nat}(h:p<=300)(g:n<p):n<300:=Nat.lt_of_lt_of_le g h
theorem om97{i j k:Nat}(h:j - i=k+1):i<j:=Nat.lt_of_sub_pos (h▸Nat.succ_pos k)
theorem om98{f u:Nat}(h:f<=u):f+(u - f)=u:=Nat.add_sub_cancel' h
theorem hide{G:Prop}(h:∀P:Prop,(G->P)->P):G:=h G id
theorem nope{p:Prop}(h:false=true):p:=Bool.noConfusion h
theorem lsp{n m k:Nat}(h:n - m=Nat.succ k):m<n:=Nat.lt_of_sub_pos (h▸Nat.succ_pos k)
theorem odr{p:Prop}[i:Decidable p](h:decide p=true):p:=of_decide_eq_true h
end Internal
namespace Internal.N
noncomputable section
local macro_rules | `(tactic| cases $h:ident)=>`(tactic| first | exact nope $h | fail)
local macro_rules | `(tactic| symm)=>do
 let b:=Lean.mkIdent `bk
 `(tactic| first | refine $b ?_ | refine Internal.hide fun _ $b=>?_)
local macro_rules | `(tactic| obtain $p:rcasesPatMed:=$e)=>do
 let qs:=p.raw[0][0][1].getSepArgs
 if qs.size<2||p.raw[0].getNumArgs != 1 then Lean.Macro.throwUnsupported
 let ps:=qs.map fun r=>⟨.node .none `Lean.Parser.Tactic.rintroPat.one #[r[0][0][0]]⟩
 let c:Lean.Ident:=⟨if e.raw.isIdent then e.raw else e.raw[1].getArgs.back?.getD .missing⟩
 let ts <- (Array.range 7).mapM fun k=>`(tactic| refine $(Lean.mkIdent (.str (.str .anonymous "Internal") s!"el{k}{qs.size - k}")) $e ?_)
 `(tactic| first | ((first $[| $ts:tactic]*); (try clear $c:ident); rintro $[$ps]*) | rcases $e:term with $p:rcasesPatMed)
local macro_rules | `(tactic| lia)=>do
 let ts <- (Array.range 101).mapM fun k=>do
  let i:=Lean.mkIdent (.str (.str .anonymous "Internal") s!"om{k}")
  `(tactic| with_reducible (apply $i <;> assumption))
 `(tactic| first $[| $ts:tactic]* | omega)
section
inductive GI where
 | lit (i:Int)
 | var (k:Nat)
 | add (a b:GI)
 | mul (a b:GI)
 | md (a b:GI)
noncomputable def GI.ev(ns:List Int)(e:GI):Int:=@GI.rec (fun q0=>Int) (fun i=>i) (fun k=>(ns[k]?).getD 0) (fun q0 q0 a b=>a+b) (fun q0 q0 a b=>a * b) (fun q0 q0 a b=>Int.fmod a b) e
def GI.ok(n:Nat)(e:GI):Prop:=@GI.rec (fun q0=>Prop) (fun q0=>True) (fun k=>k<n) (fun q0 q0 a b=>a/\b) (fun q0 q0 a b=>a/\b) (fun q0 q0 a b=>a/\b) e
theorem xl{α β:Type}(f:α->α->β){a b c d:α}(h:a=c)(k:b=d):f a b=f c d:=by rw [h,k]
theorem GI.ev_more{ns ms:List Int}(p:ns <+: ms){e:GI}:e.ok ns.length->e.ok ms.length/\e.ev ms=e.ev ns:=by
 rcases p with ⟨r,rfl⟩
 induction e with
 | lit=>intro _; exact ⟨trivial,rfl⟩
 | var k=>
  intro h
  have lt:k<ns.length:=h
  refine ⟨by show k<_; rw [List.length_append]; lia,?_⟩
  show ((ns++r)[k]?).getD 0=(ns[k]?).getD 0
  rw [List.getElem?_append_left lt]
 | add a b ha hb=>intro h; exact ⟨⟨(ha h.1).1,(hb h.2).1⟩,xl Int.add (ha h.1).2 (hb h.2).2⟩
 | mul a b ha hb=>intro h; exact ⟨⟨(ha h.1).1,(hb h.2).1⟩,xl Int.mul (ha h.1).2 (hb h.2).2⟩
 | md a b ha hb=>intro h; exact ⟨⟨(ha h.1).1,(hb h.2).1⟩,xl Int.fmod (ha h.1).2 (hb h.2).2⟩
inductive GV where
 | nul
 | none
 | bool (b:Bool)
 | int (e:GI)
 | str (x:Nat)
 | byt (l:List GI)
 | old (v:Value)
 | own (k:Nat)
 | unk
inductive nI where
 | none
 | bool (b:Bool)
 | int (i:Int)
 | str (i:Nat)
structure az where
 as:List Addr
 ns:List Int
 ds:Nat->List nI
 it:Addr × Nat
def az.le(J J':az):Prop:=J.as <+: J'.as/\J.ns <+: J'.ns/\J.ds=J'.ds/\J.it=J'.it
theorem az.le.refl(J:az):J.le J:=⟨List.prefix_refl _,List.prefix_refl _,rfl,rfl⟩
theorem az.le.trans{a b c:az}(x:a.le b)(y:b.le c):a.le c:=⟨x.1.trans y.1,x.2.1.trans y.2.1,x.2.2.1.trans y.2.2.1,x.2.2.2.trans y.2.2.2⟩
noncomputable def iy(l:List Int):Array UInt8:=(l.map fun i=>UInt8.ofNat i.toNat).toArray
def Is(T:List Str)(J:az)(g:GV)(v:Value):Prop:=@GV.rec (fun q0=>Prop) False (v=.none) (fun b=>v=.bool b) (fun e=>∃t,v=.int (e.ev J.ns) t/\e.ok J.ns.length) (fun i=>∃x t,v=.str x t/\T[i]?=some x) (fun l=>∃t,v=.bytes (iy (l.map (GI.ev J.ns))) t/\(∀e∈l,e.ok J.ns.length/\0<=e.ev J.ns/\e.ev J.ns<256)) (fun w=>v=w) (fun k=>∃a,v=.ref a/\J.as[k]?=some a) True g
theorem Is.none{T:List Str}{J:az}:Is T J .none .none:=rfl
theorem Is.bool{T:List Str}{J:az}(b:Bool):Is T J (.bool b) (.bool b):=rfl
theorem Is.int{T:List Str}{J:az}{e:GI}(t:Tok)(h:e.ok J.ns.length):Is T J (.int e) (.int (e.ev J.ns) t):=⟨t,rfl,h⟩
theorem Is.str{T:List Str}{J:az}{i:Nat}{x:Str}(t:Tok)(h:T[i]?=some x):Is T J (.str i) (.str x t):=⟨x,t,rfl,h⟩
theorem Is.byt{T:List Str}{J:az}{l:List GI}(t:Tok)(h:∀e∈l,e.ok J.ns.length/\0<=e.ev J.ns/\e.ev J.ns<256):Is T J (.byt l) (.bytes (iy (l.map (GI.ev J.ns))) t):=⟨t,rfl,h⟩
theorem Is.old{T:List Str}{J:az}(v:Value):Is T J (.old v) v:=rfl
theorem Is.own{T:List Str}{J:az}{k:Nat}{a:Addr}(h:J.as[k]?=some a):Is T J (.own k) (.ref a):=⟨a,rfl,h⟩
theorem Is.unk{T:List Str}{J:az}(v:Value):Is T J .unk v:=trivial
theorem Is.inv{T:List Str}{J:az}{g:GV}{v:Value}(h:Is T J g v):Is T J g v:=h
theorem aE{α:Type}{l l':List α}(p:l <+: l'){k:Nat}{a:α}(h:l[k]?=some a):l'[k]?=some a:=by
 obtain ⟨r,rfl⟩:=p
 have lt:k<l.length:=by
  rcases Nat.lt_or_ge k l.length with q | q
  ·exact q
  ·rw [List.getElem?_eq_none q] at h; cases h
 rw [List.getElem?_append_left lt]; exact h
theorem aN{α:Type}{l:List α}{k:Nat}{a:α}(h:l[k]?=some a):k<l.length:=by
 rcases Nat.lt_or_ge k l.length with q | q
 ·exact q
 ·rw [List.getElem?_eq_none q] at h; cases h
section
variable {T:List Str}
theorem Is.more{J J':az}(p:J.le J'){g:GV}{v:Value}(h:Is T J g v):Is T J' g v:=by
 cases g with
 | nul=>exact h
 | none=>exact h
 | bool b=>exact h
 | int e=>
  symm
  obtain ⟨t,q,ok⟩:=h
  obtain ⟨o,e⟩:=(GI.ev_more p.2.1 ok)
  symm
  rw [<- e] at q
  exact ⟨t,q,o⟩
 | str i=>exact h
 | byt l=>
  obtain ⟨t,q,h⟩:=h
  have e:l.map (GI.ev J.ns)=l.map (GI.ev J'.ns):=List.map_congr_left fun x hx=>(GI.ev_more p.2.1 (h x hx).1).2.symm
  rw [e] at q
  refine ⟨t,q,fun x hx=>?_⟩
  obtain ⟨o,e⟩:=(GI.ev_more p.2.1 (h x hx).1)
  rw [e]; exact ⟨o,(h x hx).2⟩
 | old v=>exact h
 | own k=>exact h.imp fun q0=>And.imp_right (aE p.1)
 | unk=>trivial
inductive be (T:List Str) (J:az):List GV->List Value->Prop
 | nil:be T J [] []
 | cons {g:GV} {v:Value} {gs:List GV} {vs:List Value}:Is T J g v->be T J gs vs->be T J (g::gs) (v::vs)
theorem fA{J:az}{g:GV}{gs:List GV}{us:List Value}(h:be T J (g::gs) us):∃v vs,us=v::vs/\Is T J g v/\be T J gs vs:=by
 cases h with
 | cons x y=>exact ⟨_,_,rfl,x,y⟩
theorem nM{J:az}{us:List Value}(h:be T J [] us):us=[]:=by
 cases h; rfl
theorem be.more{J J':az}(p:J.le J'){gs:List GV}{vs:List Value}(h:be T J gs vs):be T J' gs vs:=by
 induction h with
 | nil=>exact .nil
 | cons x _ ih=>exact .cons (x.more p) ih
theorem be.length{J:az}{gs:List GV}{vs:List Value}(h:be T J gs vs):gs.length=vs.length:=by
 induction h with
 | nil=>rfl
 | cons _ _ ih=>simp only [List.length_cons,ih]
theorem be.append{J:az}{gs hs:List GV}{vs us:List Value}(h:be T J gs vs)(k:be T J hs us):be T J (gs++hs) (vs++us):=by
 induction h with
 | nil=>exact k
 | cons y _ ih=>exact .cons y ih
theorem be.snoc{J:az}{gs:List GV}{vs:List Value}(h:be T J gs vs){g:GV}{v:Value}(x:Is T J g v):be T J (gs++[g]) (vs++[v]):=h.append (.cons x .nil)
theorem be.get{J:az}{gs:List GV}{vs:List Value}(h:be T J gs vs):∀{j:Nat} {g:GV},gs[j]?=some g->∃v,vs[j]?=some v/\Is T J g v:=by
 induction h with
 | nil=>intro j g e; simp at e
 | cons x _ ih=>
  intro j g e
  cases j with
  | zero=>simp only [List.getElem?_cons_zero,Option.some.injEq] at e; subst e; exact ⟨_,rfl,x⟩
  | succ k=>simp only [List.getElem?_cons_succ] at e ⊢; exact ih e
theorem be.reverse{J:az}{gs:List GV}{vs:List Value}(h:be T J gs vs):be T J gs.reverse vs.reverse:=by
 induction h with
 | nil=>exact .nil
 | cons x _ ih=>rw [List.reverse_cons,List.reverse_cons]; exact ih.snoc x
theorem be.drop{J:az}{gs:List GV}{vs:List Value}(h:be T J gs vs):∀n,be T J (gs.drop n) (vs.drop n):=by
 induction h with
 | nil=>intro n; simp; exact .nil
 | cons x r ih=>intro n; cases n with
  | zero=>exact .cons x r
  | succ n=>exact ih n
theorem be.take{J:az}{gs:List GV}{vs:List Value}(h:be T J gs vs):∀n,be T J (gs.take n) (vs.take n):=by
 induction h with
 | nil=>intro n; simp; exact .nil
 | cons x r ih=>intro n; cases n with
  | zero=>exact .nil
  | succ n=>exact .cons x (ih n)
end
inductive GO where
 | junk
 | list (vs:List GV)
 | tuple (vs:List GV)
 | inst (C d:Nat)
 | idict (es:List (Nat × GV))
 | d0
 | di (es:List (Int × GV))
 | ds (es:List (Nat × GV))
 | cell (g:GV)
 | ns (es:List (Nat × GV))
 | liter (src i:Nat)
 | titer (src i:Nat)
 | riter (i n:Nat)
 | pool (o:List (Nat × Nat))
 | rng (n:Nat)
 | flat (k:Nat)
 | oit
 | dm (es:List (Int × GV))
 | exn (C:Nat) (d:GV)
 | exc (C d:Nat)
 | enum (it i:Nat)
 | row (n:Nat) (ss:List Nat)
 | dk (k:Nat) (g:GV)
inductive dh (T:List Str) (nd:Nat) (J:az):List (Nat × GV)->List DictEntry->Prop
 | nil:dh T nd J [] []
 | cons {i:Nat} {x:Str} {g:GV} {e:DictEntry} {t:Tok} {es:List (Nat × GV)} {ds:List DictEntry}:i<nd->T[i]?=some x->e.key=.str x t->Is T J g e.val->dh T nd J es ds->dh T nd J ((i,g)::es) (e::ds)
inductive eI (T:List Str) (J:az):List (Int × GV)->List (Int × Value)->Prop
 | nil:eI T J [] []
 | cons {i:Int} {g:GV} {v:Value} {es:List (Int × GV)} {ds:List (Int × Value)}:Is T J g v->eI T J es ds->eI T J ((i,g)::es) ((i,v)::ds)
inductive fU (T:List Str) (J:az):List (Nat × GV)->List (Str × Value)->Prop
 | nil:fU T J [] []
 | cons {i:Nat} {x:Str} {g:GV} {v:Value} {es:List (Nat × GV)} {ds:List (Str × Value)}:T[i]?=some x->Is T J g v->fU T J es ds->fU T J ((i,g)::es) ((x,v)::ds)
def Ez(o:Obj)(m:Str->Option Value):Prop:=∃es ep,o.data=.dict es ep/\StrKeys es/\∀name,nsFind es name=m name
noncomputable def eS(a b:Int)(top:Nat):Nat × Int × Int:=
 if 0<a then ((Int.fmod a top).toNat,Int.fdiv a top,b)
 else let c:=Int.fmod (b * 39373+7) 2147483647; ((Int.fmod (Int.fdiv (Int.fmod (c * c) 2147483629) 32) top).toNat,a,c)
def rA:List (Nat × Nat)->Int->Int->Prop
 | [],_,_=>True
 | (top,d)::r,a,b=>(d=top∨d=top+1∨(eS a b top).1=d)/\rA r (eS a b top).2.1 (eS a b top).2.2
inductive kD (T:List Str):nI->Value->Prop
 | none:kD T .none .none
 | bool (b:Bool):kD T (.bool b) (.bool b)
 | int (i:Int) (t:Tok):kD T (.int i) (.int i t)
 | str {i:Nat} {x:Str} (t:Tok):T[i]?=some x->kD T (.str i) (.str x t)
inductive iW (T:List Str):List nI->List Value->Prop
 | nil:iW T [] []
 | cons {d:nI} {v:Value} {ds:List nI} {vs:List Value}:kD T d v->iW T ds vs->iW T (d::ds) (v::vs)
def DM(T:List Str)(J:az)(es:List (Int × GV))(ds:List (Int × Value)):Prop:=(∀z g,es.lookup z=some g->g=.unk∨∃v,PySem.valueAt ds z=some v/\Is T J g v)/\∀z,es.lookup z=none->PySem.valueAt ds z=none
noncomputable def pG(p:Program)(w:World):Int:=PySem.reduceHash (Builtin.Tuple.tupleHashOf [(PySem.strKind p w).hash (Str.ofString "cell"),(PySem.intKind p w).hash 1,PySem.reduceHash (Builtin.Tuple.tupleHashOf [])])
def aL(T:List Str)(CT:List Addr)(nd:Nat)(pw:Program × World)(J:az)(g:GO)(o:Obj):Prop:=@GO.rec (fun q0=>Prop) True (fun gs=>∃vs n,o=listOf (List.toArray vs) n/\be T J gs vs) (fun gs=>∃vs,o = { cls:=.type "tuple",data:=.seq (List.toArray vs) }/\be T J gs vs)
 (fun C d=>∃cx dx,o=instObj cx dx/\CT[C]?=some cx/\J.as[d]?=some dx) (fun es=>∃ds n,o=dictOf ds n/\dh T nd J es ds) (o.IsDictOf (PySem.intKind pw.1 pw.2) []/\o.IsDictOf (PySem.strKind pw.1 pw.2) [])
 (fun es=>∃ds,o.IsDictOf (PySem.intKind pw.1 pw.2) ds/\eI T J es ds) (fun es=>∃ds,o.IsDictOf (PySem.strKind pw.1 pw.2) ds/\fU T J es ds) (fun g=>(g=.nul/\o.data=.cell none)∨∃v,o.data=.cell (some v)/\Is T J g v)
 (fun es=>∃m,Ez o m/\(∀i g,es.lookup i=some g->∃x v,T[i]?=some x/\m x=some v/\Is T J g v)) (fun src i=>∃a,J.as[src]?=some a/\o.cls=.type "list_iterator"/\o.data=.fields #[.ref a,.int i 0]) (fun src i=>∃a,J.as[src]?=some a/\o.cls=.type "tuple_iterator"/\o.data=.fields #[.ref a,.int i 0])
 (fun i n=>o = { cls:=.type "range_iterator",data:=.fields #[rawInt i,rawInt ((n:Int) - i),rawInt 1] }) (fun f=>∃(a b:Int) (n:Nat) (t u:Tok),o=listOf #[.int a t,.int b u] n/\0<=a/\0<=b/\b<2147483647/\rA f a b) (fun n=>∃t u v:Tok,o = { cls:=.type "range",data:=.fields #[.int 0 t,.int n u,.int 1 v] })
 (fun k=>∃vs,o = { cls:=.type "tuple",data:=.seq (List.toArray vs) }/\iW T (J.ds k) vs) (o.cls=.type "list_iterator"/\o.data=.fields #[.ref J.it.1,.int J.it.2 0]) (fun es=>∃ds,o.IsDictOf (PySem.intKind pw.1 pw.2) ds/\DM T J es ds) (fun C d=>∃cx t,some C=some cx/\((d=.none/\o = { cls:=.ref cx,data:=.fields #[.ref t,.none,.none,.none,.bool false,.none] })∨∃dd dx,d=.own dd/\J.as[dd]?=some dx/\o = { cls:=.ref cx,dict:=some dx,data:=.fields #[.ref t,.none,.none,.none,.bool false,.none] }))
 (fun C d=>∃(cx dx:Addr) (r:Array Value),some C=some cx/\J.as[d]?=some dx/\o.cls=.ref cx/\o.dict=some dx/\o.data=.fields r) (fun it i=>∃(a:Addr) (old:Value),o = { cls:=.type "enumerate",dict:=none,data:=.fields #[.none,.bool false,.ref a,rawInt i,.none,old],slots:=#[] }/\J.as[it]?=some a)
 (fun n ss=>∃(i:Nat) (z:Int) (j:Nat) (x:Str) (t u v:Tok),o = { cls:=.type "tuple",data:=.seq #[.int i t,.str x u,.int z v] }/\i<n/\j∈ss/\T[j]?=some x) (fun k g=>∃(a:Addr) (v:Value) (hs:Int) (ep:Nat),J.as[k]?=some a/\Is T J g v/\o.ExactDict/\o.data=.dict #[⟨hs,.ref a,v⟩] ep/\hs=pG pw.1 pw.2) g
theorem aL.list{T:List Str}{CT:List Addr}{nd:Nat}{pw:Program × World}{J:az}{gs:List GV}{vs:List Value}(n:Nat)(h0:be T J gs vs):aL T CT nd pw J (.list gs) (listOf vs.toArray n):=⟨_,n,rfl,h0⟩
theorem aL.tuple{T:List Str}{CT:List Addr}{nd:Nat}{pw:Program × World}{J:az}{gs:List GV}{vs:List Value}(h0:be T J gs vs):aL T CT nd pw J (.tuple gs) { cls:=.type "tuple",data:=.seq vs.toArray }:=⟨_,rfl,h0⟩
theorem aL.inst{T:List Str}{CT:List Addr}{nd:Nat}{pw:Program × World}{J:az}{C d:Nat}{cx dx:Addr}(h0:CT[C]?=some cx)(h1:J.as[d]?=some dx):aL T CT nd pw J (.inst C d) (instObj cx dx):=⟨_,_,rfl,h0,h1⟩
theorem aL.idict{T:List Str}{CT:List Addr}{nd:Nat}{pw:Program × World}{J:az}{es:List (Nat × GV)}{ds:List DictEntry}(n:Nat)(h0:dh T nd J es ds):aL T CT nd pw J (.idict es) (dictOf ds n):=⟨_,n,rfl,h0⟩
theorem aL.d0{T:List Str}{CT:List Addr}{nd:Nat}{pw:Program × World}{J:az}{o:Obj}(h0:o.IsDictOf (PySem.intKind pw.1 pw.2) [])(h1:o.IsDictOf (PySem.strKind pw.1 pw.2) []):aL T CT nd pw J .d0 o:=⟨h0,h1⟩
theorem aL.di{T:List Str}{CT:List Addr}{nd:Nat}{pw:Program × World}{J:az}{es:List (Int × GV)}{ds:List (Int × Value)}{o:Obj}(h0:o.IsDictOf (PySem.intKind pw.1 pw.2) ds)(h1:eI T J es ds):aL T CT nd pw J (.di es) o:=⟨_,h0,h1⟩
theorem aL.ds{T:List Str}{CT:List Addr}{nd:Nat}{pw:Program × World}{J:az}{es:List (Nat × GV)}{ds:List (Str × Value)}{o:Obj}(h0:o.IsDictOf (PySem.strKind pw.1 pw.2) ds)(h1:fU T J es ds):aL T CT nd pw J (.ds es) o:=⟨_,h0,h1⟩
theorem aL.cell0{T:List Str}{CT:List Addr}{nd:Nat}{pw:Program × World}{J:az}{o:Obj}(h0:o.data=.cell none):aL T CT nd pw J (.cell .nul) o:=.inl ⟨rfl,h0⟩
theorem aL.cell{T:List Str}{CT:List Addr}{nd:Nat}{pw:Program × World}{J:az}{g:GV}{v:Value}{o:Obj}(h0:o.data=.cell (some v))(h1:Is T J g v):aL T CT nd pw J (.cell g) o:=.inr ⟨_,h0,h1⟩
theorem aL.ns{T:List Str}{CT:List Addr}{nd:Nat}{pw:Program × World}{J:az}{es:List (Nat × GV)}{o:Obj}{m:Str->Option Value}(h0:Ez o m)(h1:(∀i g,es.lookup i=some g->∃x v,T[i]?=some x/\m x=some v/\Is T J g v)):aL T CT nd pw J (.ns es) o:=⟨_,h0,h1⟩
theorem aL.liter{T:List Str}{CT:List Addr}{nd:Nat}{pw:Program × World}{J:az}{src i:Nat}{a:Addr}{o:Obj}(h0:J.as[src]?=some a)(h1:o.cls=.type "list_iterator")(h2:o.data=.fields #[.ref a,.int i 0]):aL T CT nd pw J (.liter src i) o:=⟨_,h0,h1,h2⟩
theorem aL.titer{T:List Str}{CT:List Addr}{nd:Nat}{pw:Program × World}{J:az}{src i:Nat}{a:Addr}{o:Obj}(h0:J.as[src]?=some a)(h1:o.cls=.type "tuple_iterator")(h2:o.data=.fields #[.ref a,.int i 0]):aL T CT nd pw J (.titer src i) o:=⟨_,h0,h1,h2⟩
theorem aL.riter{T:List Str}{CT:List Addr}{nd:Nat}{pw:Program × World}{J:az}{i n:Nat}{o:Obj}(h0:o = { cls:=.type "range_iterator",data:=.fields #[rawInt i,rawInt ((n:Int) - i),rawInt 1] }):aL T CT nd pw J (.riter i n) o:=h0
theorem aL.pool{T:List Str}{CT:List Addr}{nd:Nat}{pw:Program × World}{J:az}{f:List (Nat × Nat)}{a b:Int}(n:Nat)(t u:Tok)(h0:0<=a)(h1:0<=b)(h2:b<2147483647)(h3:rA f a b):aL T CT nd pw J (.pool f) (listOf #[.int a t,.int b u] n):=⟨_,_,n,t,u,rfl,h0,h1,h2,h3⟩
theorem aL.rng{T:List Str}{CT:List Addr}{nd:Nat}{pw:Program × World}{J:az}{n:Nat}{o:Obj}(t u v:Tok)(h0:o = { cls:=.type "range",data:=.fields #[.int 0 t,.int n u,.int 1 v] }):aL T CT nd pw J (.rng n) o:=⟨t,u,v,h0⟩
theorem aL.flat{T:List Str}{CT:List Addr}{nd:Nat}{pw:Program × World}{J:az}{k:Nat}{vs:List Value}(h0:iW T (J.ds k) vs):aL T CT nd pw J (.flat k) { cls:=.type "tuple",data:=.seq vs.toArray }:=⟨_,rfl,h0⟩
theorem aL.dm{T:List Str}{CT:List Addr}{nd:Nat}{pw:Program × World}{J:az}{es:List (Int × GV)}{ds:List (Int × Value)}{o:Obj}(h0:o.IsDictOf (PySem.intKind pw.1 pw.2) ds)(h1:DM T J es ds):aL T CT nd pw J (.dm es) o:=⟨_,h0,h1⟩
theorem aL.oit{T:List Str}{CT:List Addr}{nd:Nat}{pw:Program × World}{J:az}{o:Obj}(h0:o.cls=.type "list_iterator")(h1:o.data=.fields #[.ref J.it.1,.int J.it.2 0]):aL T CT nd pw J .oit o:=⟨h0,h1⟩
theorem aL.exn0{T:List Str}{CT:List Addr}{nd:Nat}{pw:Program × World}{J:az}{C:Nat}{cx t:Addr}(h0:some C=some cx):aL T CT nd pw J (.exn C .none) { cls:=.ref cx,data:=.fields #[.ref t,.none,.none,.none,.bool false,.none] }:=⟨_,_,h0,.inl ⟨rfl,rfl⟩⟩
theorem aL.exn{T:List Str}{CT:List Addr}{nd:Nat}{pw:Program × World}{J:az}{C d:Nat}{cx dx t:Addr}(h0:some C=some cx)(h1:J.as[d]?=some dx):aL T CT nd pw J (.exn C (.own d)) { cls:=.ref cx,dict:=some dx,data:=.fields #[.ref t,.none,.none,.none,.bool false,.none] }:=⟨_,_,h0,.inr ⟨_,_,rfl,h1,rfl⟩⟩
theorem aL.exc{T:List Str}{CT:List Addr}{nd:Nat}{pw:Program × World}{J:az}{C d:Nat}{cx dx:Addr}{o:Obj}{r:Array Value}(h0:some C=some cx)(h1:J.as[d]?=some dx)(h2:o.cls=.ref cx)(h3:o.dict=some dx)(h4:o.data=.fields r):aL T CT nd pw J (.exc C d) o:=⟨_,_,_,h0,h1,h2,h3,h4⟩
theorem aL.enum{T:List Str}{CT:List Addr}{nd:Nat}{pw:Program × World}{J:az}{it i:Nat}{a:Addr}(old:Value)(h0:J.as[it]?=some a):aL T CT nd pw J (.enum it i) { cls:=.type "enumerate",dict:=none,data:=.fields #[.none,.bool false,.ref a,rawInt i,.none,old],slots:=#[] }:=⟨_,old,rfl,h0⟩
theorem aL.row{T:List Str}{CT:List Addr}{nd:Nat}{pw:Program × World}{J:az}{n i:Nat}{ss:List Nat}{z:Int}{j:Nat}{x:Str}(t u v:Tok)(h0:i<n)(h1:j∈ss)(h2:T[j]?=some x):aL T CT nd pw J (.row n ss) { cls:=.type "tuple",data:=.seq #[.int i t,.str x u,.int z v] }:=⟨_,_,_,_,t,u,v,rfl,h0,h1,h2⟩
theorem aL.dk{T:List Str}{CT:List Addr}{nd:Nat}{pw:Program × World}{J:az}{k:Nat}{g:GV}{a:Addr}{v:Value}{o:Obj}{hs:Int}{ep:Nat}(h0:J.as[k]?=some a)(h1:Is T J g v)(h2:o.ExactDict)(h3:o.data=.dict #[⟨hs,.ref a,v⟩] ep)(h4:hs=pG pw.1 pw.2):aL T CT nd pw J (.dk k g) o:=⟨_,_,_,_,h0,h1,h2,h3,h4⟩
theorem aL.junk{T:List Str}{CT:List Addr}{nd:Nat}{pw:Program × World}{J:az}(o:Obj):aL T CT nd pw J .junk o:=trivial
theorem aL.inv{T:List Str}{CT:List Addr}{nd:Nat}{pw:Program × World}{J:az}{g:GO}{o:Obj}(h:aL T CT nd pw J g o):aL T CT nd pw J g o:=h
theorem aL.exn0_inv{T:List Str}{CT:List Addr}{nd:Nat}{pw:Program × World}{J:az}{C:Nat}{o:Obj}(h:aL T CT nd pw J (.exn C .none) o):∃cx t,some C=some cx/\o = { cls:=.ref cx,data:=.fields #[.ref t,.none,.none,.none,.bool false,.none] }:=by
 symm
 obtain ⟨cx,t,e,k⟩:=h
 symm
 rcases k with ⟨_,k⟩ | ⟨_,_,q,_⟩
 ·exact ⟨cx,t,e,k⟩
 ·cases q
theorem aL.exn_inv{T:List Str}{CT:List Addr}{nd:Nat}{pw:Program × World}{J:az}{C d:Nat}{o:Obj}(h:aL T CT nd pw J (.exn C (.own d)) o):∃cx dx t,some C=some cx/\J.as[d]?=some dx/\o = { cls:=.ref cx,dict:=some dx,data:=.fields #[.ref t,.none,.none,.none,.bool false,.none] }:=by
 symm
 obtain ⟨cx,t,e,k⟩:=h
 symm
 rcases k with ⟨q,_⟩ | ⟨_,dx,q,x,k⟩
 ·cases q
 ·cases q; exact ⟨cx,dx,t,e,x,k⟩
section
variable {T:List Str} {CT:List Addr} {nd:Nat} {pw:Program × World}
theorem dh.more{J J':az}(p:J.le J'){es:List (Nat × GV)}{ds:List DictEntry}(h:dh T nd J es ds):dh T nd J' es ds:=by
 induction h with
 | nil=>exact .nil
 | cons l t a b _ ih=>exact .cons l t a (b.more p) ih
theorem eI.more{J J':az}(p:J.le J'){es:List (Int × GV)}{ds:List (Int × Value)}(h:eI T J es ds):eI T J' es ds:=by
 induction h with
 | nil=>exact .nil
 | cons a _ ih=>exact .cons (a.more p) ih
theorem fU.more{J J':az}(p:J.le J'){es:List (Nat × GV)}{ds:List (Str × Value)}(h:fU T J es ds):fU T J' es ds:=by
 induction h with
 | nil=>exact .nil
 | cons a b _ ih=>exact .cons a (b.more p) ih
theorem aL.more{J J':az}(p:J.le J'){g:GO}{o:Obj}(h:aL T CT nd pw J g o):aL T CT nd pw J' g o:=by
 cases g with
 | list gs=>exact h.imp fun q0=>Exists.imp fun q0=>And.imp_right fun x=>x.more p
 | tuple gs=>exact h.imp fun q0=>And.imp_right fun x=>x.more p
 | inst C d=>exact h.imp fun q0=>Exists.imp fun q0=>And.imp_right (And.imp_right (aE p.1))
 | idict es=>exact h.imp fun q0=>Exists.imp fun q0=>And.imp_right fun x=>x.more p
 | d0=>exact h
 | di es=>exact h.imp fun q0=>And.imp_right fun x=>x.more p
 | ds es=>exact h.imp fun q0=>And.imp_right fun x=>x.more p
 | cell g=>exact h.imp id (Exists.imp fun q0=>And.imp_right fun x=>x.more p)
 | ns es=>exact h.imp fun q0=>And.imp_right fun k i g e=>(k i g e).imp fun q0=>Exists.imp fun q0=>And.imp_right (And.imp_right fun x=>x.more p)
 | liter s i=>exact h.imp fun q0=>And.imp_left (aE p.1)
 | titer s i=>exact h.imp fun q0=>And.imp_left (aE p.1)
 | riter i n=>exact h
 | pool f=>exact h
 | rng n=>exact h
 | flat k=>
  obtain ⟨vs,e,x⟩:=h
  rw [p.2.2.1] at x
  exact ⟨vs,e,x⟩
 | oit=>
  obtain ⟨x,y⟩:=h
  rw [p.2.2.2] at y
  exact ⟨x,y⟩
 | dm es=>exact h.imp fun q0=>And.imp_right (And.imp_left fun k z g e=>(k z g e).imp id (Exists.imp fun q0=>And.imp_right fun x=>x.more p))
 | exn C d=>exact h.imp fun q0=>Exists.imp fun q0=>And.imp_right (Or.imp id (Exists.imp fun q0=>Exists.imp fun q0=>And.imp_right (And.imp_left (aE p.1))))
 | exc C d=>exact h.imp fun q0=>Exists.imp fun q0=>Exists.imp fun q0=>And.imp_right (And.imp_left (aE p.1))
 | enum it i=>exact h.imp fun q0=>Exists.imp fun q0=>And.imp_right (aE p.1)
 | row n ss=>exact h
 | dk k g=>exact h.imp fun q0=>Exists.imp fun q0=>Exists.imp fun q0=>Exists.imp fun q0=>And.imp (aE p.1) (And.imp_left fun x=>x.more p)
 | junk=>trivial
end
inductive Tr where
 | e
 | n (l:Tr) (o:GO) (r:Tr)
noncomputable def Tr.get(t:Tr):Nat->GO:=@Tr.rec (fun q0=>Nat->GO) (fun q0=>.junk) (fun q0 o q0 il ir k=>
  @Bool.rec (fun q0=>GO) (@Bool.rec (fun q0=>GO) (il (Nat.div k 2)) (ir (Nat.div k 2)) (Nat.beq (Nat.mod k 2) 0)) o (Nat.beq k 0)) t
noncomputable def Tr.set(f:Nat):Tr->Nat->GO->(Tr->Bool)->Bool:=@Nat.rec (fun q0=>Tr->Nat->GO->(Tr->Bool)->Bool) (fun q0 q0 q0 q0=>false) (fun q0 ih t k v c=>
 @Tr.rec (fun q0=>Bool)
  (@Bool.rec (fun q0=>Bool) (@Bool.rec (fun q0=>Bool) (ih .e (Nat.div k 2) v fun l=>c (.n l .junk .e)) (ih .e (Nat.div k 2) v fun r=>c (.n .e .junk r)) (Nat.beq (Nat.mod k 2) 0)) (c (.n .e v .e)) (Nat.beq k 0))
  (fun l o r q0 q0=>@Bool.rec (fun q0=>Bool) (@Bool.rec (fun q0=>Bool) (ih l (Nat.div k 2) v fun l=>c (.n l o r)) (ih r (Nat.div k 2) v fun r=>c (.n l o r)) (Nat.beq (Nat.mod k 2) 0)) (c (.n l v r)) (Nat.beq k 0)) t) f
def At(H H':Tr)(k:Nat)(g:GO):Prop:=∀j,H'.get j=if j=k then g else H.get j
theorem Tr.get_e(k:Nat):Tr.e.get k=.junk:=rfl
theorem Tr.get_n(l:Tr)(o:GO)(r:Tr)(k:Nat):(Tr.n l o r).get k=if k=0 then o else if k % 2=0 then r.get (k / 2) else l.get (k / 2):=by
 show @Bool.rec (fun q0=>GO) (@Bool.rec (fun q0=>GO) (l.get (k / 2)) (r.get (k / 2)) (Nat.beq (k % 2) 0)) o (Nat.beq k 0)=_
 cases h:Nat.beq k 0 with
 | true=>rw [if_pos (Nat.eq_of_beq_eq_true h)]
 | false=>
  rw [if_neg (Nat.ne_of_beq_eq_false h)]
  cases h2:Nat.beq (k % 2) 0 with
  | true=>rw [if_pos (Nat.eq_of_beq_eq_true h2)]
  | false=>rw [if_neg (Nat.ne_of_beq_eq_false h2)]
theorem Ge(l:Tr)(o:GO)(r:Tr)(v:GO):At (.n l o r) (.n l v r) 0 v:=by
 intro j; rw [Tr.get_n,Tr.get_n]
 by_cases h:j=0 <;> simp [h]
theorem Gx{l l':Tr}{o:GO}{r:Tr}{k:Nat}{v:GO}(h0:k≠0)(h2:k % 2≠0)(h:At l l' (k / 2) v):At (.n l o r) (.n l' o r) k v:=by
 intro j; rw [Tr.get_n,Tr.get_n]
 by_cases e:j=k
 ·subst e; rw [if_neg h0,if_neg h2,h,if_pos rfl,if_pos rfl]
 ·rw [if_neg e]
  by_cases a:j=0
  ·rw [if_pos a,if_pos a]
  ·rw [if_neg a,if_neg a]
   by_cases b:j % 2=0
   ·rw [if_pos b,if_pos b]
   ·rw [if_neg b,if_neg b,h,if_neg (by lia)]
theorem CQ{l r r':Tr}{o:GO}{k:Nat}{v:GO}(h0:k≠0)(h2:k % 2=0)(h:At r r' (k / 2) v):At (.n l o r) (.n l o r') k v:=by
 intro j; rw [Tr.get_n,Tr.get_n]
 by_cases e:j=k
 ·subst e; rw [if_neg h0,if_pos h2,h,if_pos rfl,if_pos rfl]
 ·rw [if_neg e]
  by_cases a:j=0
  ·rw [if_pos a,if_pos a]
  ·rw [if_neg a,if_neg a]
   by_cases b:j % 2=0
   ·rw [if_pos b,if_pos b,h,if_neg (by lia)]
   ·rw [if_neg b,if_neg b]
theorem Xo{t':Tr}{k:Nat}{v:GO}(h:At (.n .e .junk .e) t' k v):At .e t' k v:=by
 intro j; rw [h,Tr.get_n,Tr.get_e]
 by_cases e:j=k
 ·rw [if_pos e,if_pos e]
 ·rw [if_neg e,if_neg e]
  by_cases a:j=0
  ·rw [if_pos a]; rfl
  ·rw [if_neg a]
   split <;> rfl
theorem Tr.set_ok:∀(f:Nat) (t:Tr) (k:Nat) (v:GO) (c:Tr->Bool),t.set f k v c=true->∃t',At t t' k v/\c t'=true
 | 0,_,_,_,_,h=>by cases h
 | f+1,t,k,v,c,h=>by
  have go:∀l o r,@Bool.rec (fun q0=>Bool) (@Bool.rec (fun q0=>Bool) (l.set f (Nat.div k 2) v fun l=>c (.n l o r)) (r.set f (Nat.div k 2) v fun r=>c (.n l o r)) (Nat.beq (Nat.mod k 2) 0)) (c (.n l v r)) (Nat.beq k 0)=true->
    ∃t',At (.n l o r) t' k v/\c t'=true:=by
   intro l o r h
   cases h0:Nat.beq k 0 with
   | true=>
    rw [h0] at h
    have:=Nat.eq_of_beq_eq_true h0
    subst this
    exact ⟨_,Ge l o r v,h⟩
   | false=>
    rw [h0] at h
    have n0:=Nat.ne_of_beq_eq_false h0
    cases h2:Nat.beq (Nat.mod k 2) 0 with
    | true=>
     rw [h2] at h
     obtain ⟨t',a,b⟩:=Tr.set_ok f _ _ _ _ h
     exact ⟨_,CQ n0 (Nat.eq_of_beq_eq_true h2) a,b⟩
    | false=>
     rw [h2] at h
     obtain ⟨t',a,b⟩:=Tr.set_ok f _ _ _ _ h
     exact ⟨_,Gx n0 (Nat.ne_of_beq_eq_false h2) a,b⟩
  cases t with
  | e=>
   obtain ⟨t',a,b⟩:=(go .e .junk .e h)
   exact ⟨t',Xo a,b⟩
  | n l o r=>exact go l o r h
theorem cn{as:List Addr}{os:List Obj}:∀{k:Nat} {a:Addr} {o:Obj},as[k]?=some a->os[k]?=some o->(a,o)∈as.zip os:=by
 intro k a o h1 h2
 have:(as.zip os)[k]?=some (a,o):=by rw [List.getElem?_zip_eq_some]; exact ⟨h1,h2⟩
 exact List.mem_of_getElem? this
theorem ey{a:Addr}{o o':Obj}:∀{as:List Addr} {os:List Obj} {k:Nat},as.Nodup->as[k]?=some a->os[k]?=some o->Upd a o o' (as.zip os) (as.zip (os.set k o'))
 | [],_,_,_,h,_=>by simp at h
 | _::_,[],_,_,_,h=>by simp at h
 | b::as,p::os,0,nd,h1,h2=>by
  simp only [List.getElem?_cons_zero,Option.some.injEq] at h1 h2
  subst h1 h2
  refine .head fun q hq e=>?_
  have:=(List.of_mem_zip (a:=q.1) (b:=q.2) hq).1
  rw [e] at this
  exact (List.nodup_cons.mp nd).1 this
 | b::as,p::os,k+1,nd,h1,h2=>by
  simp only [List.getElem?_cons_succ] at h1 h2
  refine .tail (fun e=>?_) (ey (List.nodup_cons.mp nd).2 h1 h2)
  have e:b=a:=e
  subst e
  exact (List.nodup_cons.mp nd).1 (List.mem_of_getElem? h1)
theorem oz{as:List Addr}{os:List Obj}{D:Addr}{o:Obj}(l:as.length=os.length):(as++[D]).zip (os++[o])=as.zip os++[(D,o)]:=by
 rw [List.zip_append l]; rfl
theorem zZ{O h:Heap}{L D:Addr}{o:Obj}{as:List Addr}{os:List Obj}(l:as.length=os.length)(N:News O L h ((D,o)::as.zip os)):News O L h ((as++[D]).zip (os++[o])):=by
 rw [oz l]
 intro p hp
 rcases List.mem_append.mp hp with q | q
 ·exact N p (.tail _ q)
 ·rw [List.mem_singleton.mp q]; exact N _ (.head _)
theorem pc{as:List Addr}{os:List Obj}{D:Addr}(l:as.length=os.length)(nd:as.Nodup)(h:∀p∈as.zip os,p.1<D):(as++[D]).Nodup:=by
 refine List.nodup_append.mpr ⟨nd,by simp,fun a ha b hb e=>?_⟩
 rw [List.mem_singleton.mp hb] at e
 subst e
 obtain ⟨k,hk⟩:=(List.mem_iff_getElem?.mp ha)
 have:=h _ (cn hk (List.getElem?_eq_getElem (l▸aN hk)))
 exact Nat.lt_irrefl _ this
section
variable {T:List Str} {CT:List Addr} {nd:Nat} {pw:Program × World}
structure gS (T:List Str) (CT:List Addr) (nd:Nat) (pw:Program × World) (J:az) (H:Tr) (O:Heap) (L:Addr) (h:Heap):Prop where
 nod:J.as.Nodup
 at_:∃os,(∀k o,os[k]?=some o->aL T CT nd pw J (H.get k) o)/\J.as.length=os.length/\News O L h (J.as.zip os)
noncomputable def az.push(J:az)(D:Addr):az:=⟨J.as++[D],J.ns,J.ds,J.it⟩
theorem az.le_push(J:az)(D:Addr):J.le (J.push D):=⟨List.prefix_append _ _,List.prefix_refl _,rfl,rfl⟩
theorem eE(J:az)(D:Addr):(J.push D).as[J.as.length]?=some D:=by simp [az.push]
theorem gS.push{J:az}{H H':Tr}{O h':Heap}{L D:Addr}{o:Obj}{g:GO}{os:List Obj}(ho:∀k o,os[k]?=some o->aL T CT nd pw J (H.get k) o)(l:J.as.length=os.length)(hnd:J.as.Nodup)
  (N:News O L h' ((D,o)::J.as.zip os)) (lt:∀p∈J.as.zip os,p.1<D) (hg:aL T CT nd pw (J.push D) g o) (a:At H H' J.as.length g):gS T CT nd pw (J.push D) H' O L h':=by
 refine ⟨pc l hnd lt,os++[o],fun k x hk=>?_,by simp [az.push,l],zZ l N⟩
 rw [a]
 by_cases e:k=J.as.length
 ·subst e
  rw [l,List.getElem?_concat_length] at hk
  cases hk
  rw [if_pos rfl]; exact hg
 ·rw [if_neg e]
  have lt:k<os.length:=by
   have:=aN hk
   rw [List.length_append,List.length_singleton] at this
   lia
  rw [List.getElem?_append_left lt] at hk
  exact (ho k x hk).more (J.le_push D)
theorem gS.obj{J:az}{H:Tr}{O h:Heap}{L:Addr}(l:gS T CT nd pw J H O L h){k:Nat}{a:Addr}(ha:J.as[k]?=some a):∃o,h.get? a=some o/\a≠L/\O.get? a=none/\aL T CT nd pw J (H.get k) o:=by
 symm
 obtain ⟨q0,os,ho,e,N⟩:=l
 symm
 have lt:k<os.length:=e▸aN ha
 have h1:=List.getElem?_eq_getElem lt
 have z:=N _ (cn ha h1)
 exact ⟨_,z.1,z.2.1,z.2.2,ho _ _ h1⟩
theorem gS.upd{J:az}{H H':Tr}{O h h':Heap}{L a:Addr}(l:gS T CT nd pw J H O L h){k:Nat}{g:GO}{o':Obj}(ha:J.as[k]?=some a)(hs:Heap.SameBut a h h')(ho:h'.get? a=some o')(hg:aL T CT nd pw J g o')(hA:At H H' k g) :
  gS T CT nd pw J H' O L h':=by
 symm
 obtain ⟨nd',os,hos,e,N⟩:=l
 have lt:k<os.length:=e▸aN ha
 obtain ⟨pre,post,e1,e2,p1,p2⟩:=(ey (o':=o') nd' ha (List.getElem?_eq_getElem lt)).split
 symm
 refine ⟨nd',os.set k o',fun j x hj=>?_,by rw [List.length_set]; exact e,?_⟩
 ·rw [hA]
  by_cases q:j=k
  ·subst q
   rw [List.getElem?_set_self lt] at hj
   cases hj
   rw [if_pos rfl]; exact hg
  ·rw [if_neg q]
   rw [List.getElem?_set_ne (Ne.symm q)] at hj
   exact hos _ _ hj
 ·rw [e2]
  rw [e1] at N
  exact news_set N p1 p2 hs ho
theorem gS.set{J:az}{H H':Tr}{O h':Heap}{L a:Addr}{os:List Obj}(hnd:J.as.Nodup)(hos:∀k o,os[k]?=some o->aL T CT nd pw J (H.get k) o)(e:J.as.length=os.length){k:Nat}{g:GO}{o':Obj}
  (ha:J.as[k]?=some a) (N':News O L h' (J.as.zip (os.set k o'))) (hg:aL T CT nd pw J g o') (hA:At H H' k g):gS T CT nd pw J H' O L h':=by
 have lt:k<os.length:=e▸aN ha
 refine ⟨hnd,os.set k o',fun j x hj=>?_,by rw [List.length_set]; exact e,N'⟩
 rw [hA]
 by_cases q:j=k
 ·subst q
  rw [List.getElem?_set_self lt] at hj
  cases hj
  rw [if_pos rfl]; exact hg
 ·rw [if_neg q]
  rw [List.getElem?_set_ne (Ne.symm q)] at hj
  exact hos _ _ hj
theorem gS.keep{J:az}{H:Tr}{O h h':Heap}{L:Addr}(l:gS T CT nd pw J H O L h)(k:∀a∈J.as,h'.get? a=h.get? a):gS T CT nd pw J H O L h':=by
 symm
 obtain ⟨nd',os,hos,e,N⟩:=l
 symm
 refine ⟨nd',os,hos,e,fun p hp=>?_⟩
 have:=N p hp
 exact ⟨(k _ (List.of_mem_zip (a:=p.1) (b:=p.2) hp).1).trans this.1,this.2⟩
theorem gS.notL{J:az}{H:Tr}{O h:Heap}{L:Addr}(l:gS T CT nd pw J H O L h):L∉J.as:=fun q=>by
 obtain ⟨k,hk⟩:=(List.mem_iff_getElem?.mp q)
 obtain ⟨q0,q0,ne,q0⟩:=(l.obj hk)
 exact ne rfl
end
end
section
def cV(i j:Int):Bool:=@Int.rec (fun q0=>Bool) (fun a=>@Int.rec (fun q0=>Bool) (fun b=>Nat.beq a b) (fun q0=>false) j) (fun a=>@Int.rec (fun q0=>Bool) (fun q0=>false) (fun b=>Nat.beq a b) j) i
def kX(i j:Int):Bool:=@Int.rec (fun q0=>Bool) (fun a=>@Int.rec (fun q0=>Bool) (fun b=>Nat.ble (Nat.succ a) b) (fun q0=>false) j) (fun a=>@Int.rec (fun q0=>Bool) (fun q0=>true) (fun b=>Nat.ble (Nat.succ b) a) j) i
theorem cr{i j:Int}{c:Bool}(h:cV i j=c):(i == j)=c:=by
 subst h
 rw [Bool.eq_iff_iff,beq_iff_eq]
 cases i with
 | ofNat a=>cases j with
  | ofNat b=>show _↔Nat.beq a b=true; rw [Nat.beq_eq]; exact ⟨fun e=>by cases e; rfl,fun e=>by rw [e]⟩
  | negSucc b=>exact ⟨(fun e=>nomatch e),(fun e=>nomatch e)⟩
 | negSucc a=>cases j with
  | ofNat b=>exact ⟨(fun e=>nomatch e),(fun e=>nomatch e)⟩
  | negSucc b=>show _↔Nat.beq a b=true; rw [Nat.beq_eq]; exact ⟨fun e=>by cases e; rfl,fun e=>by rw [e]⟩
theorem jS{i j:Int}{c:Bool}(h:kX i j=c):decide (i<j)=c:=by
 subst h
 rw [Bool.eq_iff_iff,decide_eq_true_iff]
 cases i with
 | ofNat a=>cases j with
  | ofNat b=>show Int.ofNat a<Int.ofNat b↔Nat.ble (a+1) b=true; rw [Nat.ble_eq]; simp; lia
  | negSucc b=>show Int.ofNat a<Int.negSucc b↔false=true; simp only [Int.negSucc_eq,Int.ofNat_eq_natCast]; constructor <;> intro h <;> first | lia | cases h
 | negSucc a=>cases j with
  | ofNat b=>show Int.negSucc a<Int.ofNat b↔true=true; simp only [Int.negSucc_eq,Int.ofNat_eq_natCast]; exact ⟨(fun q0=>by trivial),(fun q0=>by lia)⟩
  | negSucc b=>show Int.negSucc a<Int.negSucc b↔Nat.ble (b+1) a=true; rw [Nat.ble_eq]; simp only [Int.negSucc_eq]; lia
def z4(fl:Int->Bool)(fv:Nat->Bool)(fa fm fd:GI->GI->Bool)(e:GI):Bool:=@GI.rec (fun q0=>Bool) fl fv (fun a b q0 q0=>fa a b) (fun a b q0 q0=>fm a b) (fun a b q0 q0=>fd a b) e
def l5(_ _:GI):Bool:=false
def GI.beq(a:GI):GI->Bool:=@GI.rec (fun q0=>GI->Bool) (fun i=>z4 (cV i) (fun q0=>false) l5 l5 l5) (fun k=>z4 (fun q0=>false) (Nat.beq k) l5 l5 l5)
 (fun q0 q0 x y=>z4 (fun q0=>false) (fun q0=>false) (fun c d=>x c&&y d) l5 l5) (fun q0 q0 x y=>z4 (fun q0=>false) (fun q0=>false) l5 (fun c d=>x c&&y d) l5) (fun q0 q0 x y=>z4 (fun q0=>false) (fun q0=>false) l5 l5 fun c d=>x c&&y d) a
theorem GI.beq_eq{a:GI}:∀{b:GI},a.beq b=true->a=b:=by
 induction a with
 | lit i=>intro b h; cases b <;> first | exact congrArg GI.lit (eq_of_beq (cr h)) | cases h
 | var k=>intro b h; cases b <;> first | exact congrArg GI.var (Nat.eq_of_beq_eq_true h) | cases h
 | add x y hx hy=>intro b h; cases b <;> first | exact xl GI.add (hx (Bool.and_eq_true_iff.mp h).1) (hy (Bool.and_eq_true_iff.mp h).2) | cases h
 | mul x y hx hy=>intro b h; cases b <;> first | exact xl GI.mul (hx (Bool.and_eq_true_iff.mp h).1) (hy (Bool.and_eq_true_iff.mp h).2) | cases h
 | md x y hx hy=>intro b h; cases b <;> first | exact xl GI.md (hx (Bool.and_eq_true_iff.mp h).1) (hy (Bool.and_eq_true_iff.mp h).2) | cases h
abbrev fb:=List (Int × Int)
inductive Rn where
 | mk (bnd:fb) (eqs:List (Nat × Nat × Bool))
noncomputable def Rn.bnd:Rn->fb | .mk b _=>b
noncomputable def Rn.eqs:Rn->List (Nat × Nat × Bool) | .mk _ e=>e
def gG(rs:fb)(ns:List Int):Prop:=∀(k:Nat) (b:Int × Int),rs[k]?=some b->∃i,ns[k]?=some i/\b.1<=i/\i<=b.2
noncomputable def mj(ns:List Int)(k:Nat):Int:=(ns[k]?).getD 0
structure dq (R:Rn) (ns:List Int):Prop where
 bnd:gG R.bnd ns
 len:ns.length=R.bnd.length
 eqs:∀i j b,(i,j,b)∈R.eqs->(mj ns i == mj ns j)=b
def NH(i:Int):Int:=@Int.rec (fun q0=>Int) (fun m=>@Nat.rec (fun q0=>Int) (.negSucc 0) (fun m q0=>.ofNat m) m) (fun m=>.negSucc (Nat.succ m)) i
def vg(i j:Int):Int:=@Int.rec (fun q0=>Int) (fun n=>Int.add i (.ofNat n)) (fun n=>@Nat.rec (fun q0=>Int) (NH i) (fun n q0=>Int.add i (.negSucc (Nat.succ n))) n) j
theorem Ga(i:Int):NH i=i + -1:=by
 cases i with
 | ofNat m=>cases m with
  | zero=>rfl
  | succ m=>show (m:Int)=((m+1:Nat):Int) + -1; lia
 | negSucc m=>show Int.negSucc (m+1)=Int.negSucc m + -1; simp only [Int.negSucc_eq]; lia
theorem xE(i j:Int):vg i j=i+j:=by
 cases j with
 | ofNat n=>rfl
 | negSucc n=>cases n with
  | zero=>exact Ga i
  | succ n=>rfl
abbrev OI:=Option (Int × Int)
def Fh(x:OI)(f:Int × Int->OI):OI:=@Option.rec _ (fun q0=>OI) none f x
theorem u6{x:OI}{f:Int × Int->OI}{b:Int × Int}(h:Fh x f=some b):∃a,x=some a/\f a=some b:=by
 cases x with
 | none=>cases h
 | some a=>exact ⟨a,rfl,h⟩
def Nh(e:GI)(f:Int->OI):OI:=@GI.rec (fun q0=>OI) f (fun q0=>none) (fun q0 q0 q0 q0=>none) (fun q0 q0 q0 q0=>none) (fun q0 q0 q0 q0=>none) e
theorem zD{e:GI}{f:Int->OI}{b:Int × Int}(h:Nh e f=some b):∃i,e=.lit i/\f i=some b:=by
 cases e <;> first | exact ⟨_,rfl,h⟩ | cases h
def GI.iv(rs:fb)(e:GI):OI:=@GI.rec (fun q0=>OI) (fun i=>some (i,i)) (fun k=>rs[k]?) (fun q0 q0 x y=>Fh x fun x=>Fh y fun y=>some (vg x.1 y.1,vg x.2 y.2))
 (fun a q0 q0 y=>Nh a fun c=>if 0<=c then Fh y fun y=>some (c * y.1,c * y.2) else none) (fun q0 b q0 q0=>Nh b fun c=>if 0<c then some (0,c - 1) else none) e
theorem Ur{p:Prop}[Decidable p]{x:OI}{b:Int × Int}(h:(if p then x else none)=some b):p/\x=some b:=by
 by_cases q:p
 ·rw [if_pos q] at h; exact ⟨q,h⟩
 ·rw [if_neg q] at h; cases h
theorem GI.iv_ok{rs:fb}{ns:List Int}(W:gG rs ns){e:GI}:∀{b:Int × Int},e.iv rs=some b->b.1<=e.ev ns/\e.ev ns<=b.2:=by
 induction e with
 | lit i=>intro b h; cases h; exact ⟨Int.le_refl _,Int.le_refl _⟩
 | var k=>
  intro b h
  obtain ⟨i,h1,h2⟩:=(W k b h)
  show b.1<=(ns[k]?).getD 0/\(ns[k]?).getD 0<=b.2
  rw [h1]; exact h2
 | add x y hx hy=>
  intro b h
  symm
  obtain ⟨p,hp,h⟩:=(u6 h)
  obtain ⟨q,hq,h⟩:=(u6 h)
  cases h
  symm
  exact ⟨by show vg p.1 q.1<=_; rw [xE]; exact Int.add_le_add (hx hp).1 (hy hq).1,by show _<=vg p.2 q.2; rw [xE]; exact Int.add_le_add (hx hp).2 (hy hq).2⟩
 | mul x y _ hy=>
  intro b h
  symm
  obtain ⟨c,rfl,h⟩:=(zD h)
  obtain ⟨hc,h⟩:=(Ur h)
  obtain ⟨q,hq,h⟩:=(u6 h)
  cases h
  symm
  exact ⟨Int.mul_le_mul_of_nonneg_left (hy hq).1 hc,Int.mul_le_mul_of_nonneg_left (hy hq).2 hc⟩
 | md x y _ _=>
  intro b h
  symm
  obtain ⟨c,rfl,h⟩:=(zD h)
  obtain ⟨hc,h⟩:=(Ur h)
  cases h
  symm
  exact ⟨Int.fmod_nonneg_of_pos (x.ev ns) hc,Int.le_sub_one_of_lt (Int.fmod_lt_of_pos (x.ev ns) hc)⟩
def mF(rs:fb)(a b:GI):Option Bool:=match a.iv rs,b.iv rs with
 | some x,some y=>if kX x.2 y.1 then some true else if kX x.1 y.2 then none else some false
 | _,_=>none
set_option tactic.hygienic true in
theorem KP{rs:fb}{ns:List Int}(W:gG rs ns){a b:GI}{c:Bool}(h:mF rs a b=some c):decide (a.ev ns<b.ev ns)=c:=by
 unfold mF at h
 split at h
 ·rename_i x y hx hy
  have h1:=GI.iv_ok W hx
  have h2:=GI.iv_ok W hy
  split at h
  ·rename_i q; have:=of_decide_eq_true (jS q); cases h; exact decide_eq_true (by lia)
  ·split at h
   ·cases h
   ·rename_i q; have:=of_decide_eq_false (jS (Bool.eq_false_iff.mpr q)); cases h; exact decide_eq_false (by lia)
 ·cases h
noncomputable def tm(i j:Nat):List (Nat × Nat × Bool)->Option Bool
 | []=>none
 | (a,b,c)::r=>if (Nat.beq a i&&Nat.beq b j)||(Nat.beq a j&&Nat.beq b i) then some c else tm i j r
set_option tactic.hygienic true in
theorem vj{ns:List Int}{i j:Nat}:∀{l:List (Nat × Nat × Bool)},(∀i j b,(i,j,b)∈l->(mj ns i == mj ns j)=b)->∀{c:Bool},tm i j l=some c->(mj ns i == mj ns j)=c
 | [],_,_,h=>by cases h
 | (a,b,c)::r,hl,c',h=>by
  unfold tm at h
  split at h
  ·rename_i q
   cases h
   have:=hl a b c (.head _)
   rcases Bool.or_eq_true_iff.mp q with q | q
   ·obtain ⟨x,y⟩:=Bool.and_eq_true_iff.mp q
    rw [<- Nat.eq_of_beq_eq_true x,<- Nat.eq_of_beq_eq_true y]; exact this
   ·obtain ⟨x,y⟩:=Bool.and_eq_true_iff.mp q
    rw [<- Nat.eq_of_beq_eq_true x,<- Nat.eq_of_beq_eq_true y,BEq.comm]; exact this
  ·exact vj (fun i j b m=>hl i j b (.tail _ m)) h
noncomputable def yt(a b:GI)(R:Rn)(k:Bool->Rn->Bool):Bool:=match a,b with
 | .var i,.var j=>(match tm i j R.eqs with
  | some c=>k c R
  | none=>k true (.mk R.bnd ((i,j,true)::R.eqs))&&k false (.mk R.bnd ((i,j,false)::R.eqs)))
 | _,_=>k true R&&k false R
def iT(a b:GI)(R:Rn)(k:Bool->Rn->Bool):Bool:=match a.beq b with
 | true=>k true R
 | false=>match a.iv R.bnd,b.iv R.bnd with
  | some x,some y=>if kX x.2 y.1||kX y.2 x.1 then k false R else if cV x.1 x.2&&(cV y.1 y.2&&cV x.1 y.1) then k true R else yt a b R k
  | _,_=>false
def Qo(i:Int)(b:GI)(R:Rn)(k:Bool->Rn->Bool):Bool:=@GI.rec (fun q0=>Bool) (fun j=>k (cV i j) R) (fun q0=>iT (.lit i) b R k) (fun q0 q0 q0 q0=>iT (.lit i) b R k) (fun q0 q0 q0 q0=>iT (.lit i) b R k) (fun q0 q0 q0 q0=>iT (.lit i) b R k) b
def UC(a b:GI)(R:Rn)(k:Bool->Rn->Bool):Bool:=@GI.rec (fun q0=>Bool) (fun i=>Qo i b R k) (fun q0=>iT a b R k) (fun q0 q0 q0 q0=>iT a b R k) (fun q0 q0 q0 q0=>iT a b R k) (fun q0 q0 q0 q0=>iT a b R k) a
set_option tactic.hygienic true in
theorem DH{a b:GI}{R:Rn}{ns:List Int}(hR:dq R ns){k:Bool->Rn->Bool}(h:yt a b R k=true):∃c R',k c R'=true/\(a.ev ns == b.ev ns)=c/\dq R' ns:=by
 unfold yt at h
 split at h
 ·rename_i i j
  split at h
  ·rename_i c hc
   exact ⟨c,R,h,vj hR.eqs hc,hR⟩
  ·obtain ⟨h1,h2⟩:=Bool.and_eq_true_iff.mp h
   have more:∀c,(mj ns i == mj ns j)=c->dq (.mk R.bnd ((i,j,c)::R.eqs)) ns:=fun c q=>⟨hR.bnd,hR.len,fun i' j' b m=>by
    rcases List.mem_cons.mp m with e | m
    ·cases e; exact q
    ·exact hR.eqs _ _ _ m⟩
   cases q:(mj ns i == mj ns j) with
   | true=>exact ⟨true,_,h1,q,more true q⟩
   | false=>exact ⟨false,_,h2,q,more false q⟩
 ·obtain ⟨h1,h2⟩:=Bool.and_eq_true_iff.mp h
  cases q:(a.ev ns == b.ev ns) with
  | true=>exact ⟨true,R,h1,rfl,hR⟩
  | false=>exact ⟨false,R,h2,rfl,hR⟩
set_option tactic.hygienic true in
theorem wb{a b:GI}{R:Rn}{ns:List Int}(hR:dq R ns){k:Bool->Rn->Bool}(h:iT a b R k=true):∃c R',k c R'=true/\(a.ev ns == b.ev ns)=c/\dq R' ns:=by
 unfold iT at h
 split at h
 ·rename_i q
  exact ⟨true,R,h,by rw [GI.beq_eq q]; exact beq_self_eq_true _,hR⟩
 ·split at h
  ·rename_i x y hx hy
   split at h
   ·rename_i q
    have h1:=GI.iv_ok hR.bnd hx
    have h2:=GI.iv_ok hR.bnd hy
    refine ⟨false,R,h,?_,hR⟩
    rw [beq_eq_false_iff_ne]
    rcases Bool.or_eq_true_iff.mp q with q | q
    ·have:=of_decide_eq_true (jS q); lia
    ·have:=of_decide_eq_true (jS q); lia
   ·split at h
    ·rename_i q
     have h1:=GI.iv_ok hR.bnd hx
     have h2:=GI.iv_ok hR.bnd hy
     obtain ⟨q1,q⟩:=Bool.and_eq_true_iff.mp q
     obtain ⟨q2,q3⟩:=Bool.and_eq_true_iff.mp q
     have e1:x.1=x.2:=eq_of_beq (cr q1)
     have e2:y.1=y.2:=eq_of_beq (cr q2)
     have e3:x.1=y.1:=eq_of_beq (cr q3)
     exact ⟨true,R,h,by rw [beq_iff_eq]; lia,hR⟩
    ·exact DH hR h
  ·cases h
theorem Oa{a b:GI}{R:Rn}{ns:List Int}(hR:dq R ns){k:Bool->Rn->Bool}(h:UC a b R k=true):∃c R',k c R'=true/\(a.ev ns == b.ev ns)=c/\dq R' ns:=by
 cases a with
 | lit i=>
  cases b with
  | lit j=>exact ⟨_,R,h,cr rfl,hR⟩
  | _=>exact wb hR h
 | _=>exact wb hR h
def fR(g:GV)(k:GI->Bool):Bool:=@GV.rec (fun q0=>Bool) false false (fun q0=>false) (fun e=>k e) (fun q0=>false) (fun q0=>false) (fun q0=>false) (fun q0=>false) false g
def bU(g:GV)(k:Nat->Bool):Bool:=@GV.rec (fun q0=>Bool) false false (fun q0=>false) (fun q0=>false) (fun q0=>false) (fun q0=>false) (fun q0=>false) (fun e=>k e) false g
def eH(g:GV)(b:Bool):Bool:=@GV.rec (fun q0=>Bool) false b (fun q0=>b) (fun q0=>b) (fun q0=>b) (fun q0=>b) (fun q0=>b) (fun q0=>b) b g
theorem dA{g:GV}{k:GI->Bool}(h:fR g k=true):∃e,g=.int e/\k e=true:=by cases g <;> first | cases h; done | exact ⟨_,rfl,h⟩
theorem bn{g:GV}{k:Nat->Bool}(h:bU g k=true):∃e,g=.own e/\k e=true:=by cases g <;> first | cases h; done | exact ⟨_,rfl,h⟩
theorem cQ{g:GV}{b:Bool}(h:eH g b=true):g≠.nul/\b=true:=by cases g <;> first | cases h; done | exact ⟨(by intro e; cases e),h⟩
def qG(e:GI)(k:Int->Bool):Bool:=@GI.rec (fun q0=>Bool) (fun i=>k i) (fun q0=>false) (fun q0 q0 q0 q0=>false) (fun q0 q0 q0 q0=>false) (fun q0 q0 q0 q0=>false) e
theorem kL{e:GI}{k:Int->Bool}(h:qG e k=true):∃i,e=.lit i/\k i=true:=by cases e <;> first | cases h; done | exact ⟨_,rfl,h⟩
def eG(g:GV)(k:Int->Bool):Bool:=fR g fun e=>qG e k
theorem cR{g:GV}{k:Int->Bool}(h:eG g k=true):∃i,g=.int (.lit i)/\k i=true:=by
 obtain ⟨e,rfl,h⟩:=dA h
 obtain ⟨i,rfl,h⟩:=(kL h)
 exact ⟨i,rfl,h⟩
noncomputable def fN(n:Nat)(k:Nat->Bool):Bool:=@Nat.rec (fun q0=>(Nat->Bool)->Bool) (fun k=>k 0) (fun n q0 k=>k (Nat.succ n)) n k
theorem bP(n:Nat)(k:Nat->Bool):fN n k=k n:=by cases n <;> rfl
def fI(i:Int)(k:Int->Bool):Bool:=@Int.rec (fun q0=>Bool) (fun n=>fN n fun n=>k (.ofNat n)) (fun n=>fN n fun n=>k (.negSucc n)) i
theorem lQ(i:Int)(k:Int->Bool):fI i k=k i:=by cases i <;> exact bP _ _
def aZ(l:List GV):Nat->GV:=@List.rec GV (fun q0=>Nat->GV) (fun q0=>.nul) (fun g q0 ih k=>@Nat.rec (fun q0=>GV) g (fun k q0=>ih k) k) l
theorem jz:∀{l:List GV} {k:Nat},aZ l k≠.nul->l[k]?=some (aZ l k)
 | [],_,h=>absurd rfl h
 | g::l,0,_=>rfl
 | g::l,k+1,h=>by rw [List.getElem?_cons_succ]; exact jz (l:=l) (k:=k) h
def dZ(l:List (Nat × GV)):Nat->GV:=@List.rec (Nat × GV) (fun q0=>Nat->GV) (fun q0=>.nul) (fun p q0 ih k=>@Bool.rec (fun q0=>GV) (ih k) p.2 (Nat.beq p.1 k)) l
structure aR where
 prog:Program
 w:World
 K:Frag
 p:Program
 loose:List Str
 mean:ExcName->Option Value
 mg:Str->Option Value
 mb:Str->Option Value
 T:List Str
 CT:List Addr
 nd:Nat
 os:OsState
structure St (x:aR) (J:az) (H:Tr) (nx:Nat) (R:Rn) (O:Heap) (L:Addr) (m:Str->Option Value) (s:Shared):Prop where
 led:gS x.T x.CT x.nd (x.prog,x.w) J H O L s.heap
 nx:J.as.length=nx
 fr:Fr O L s.heap m
 gens:s.gens = #[]/\s.os=x.os
 rn:dq R J.ns
structure ck (x:aR) (d:Nat) (A:Around) (O:Heap) (L:Addr):Prop where
 below:∃A₀ base outer env,Below A₀ base outer O/\A.frames=some (env::outer)/\env.frame=some L/\env.scope.kind=.function
 X:x.K.In O
 top:Top x.p x.loose x.mean x.mg x.mb O
 room:A.depth+d<recursionLimit
 hnd:A.handled=none
 units:A.units+4 * d+40<cLine
structure bN (env:Env) (L:Addr):Prop where
 glob:env.globals=mainGlobals
 bui:env.builtins=builtinsNs
 kind:env.scope.kind=.function
 frame:env.frame=some L
inductive SK where
 | loc | cel | blk | glo
def pT(T:List Str)(J:az)(env:Env)(L:Addr)(m:Str->Option Value)(g:GV)(s:Str):SK->Prop
 | .loc=>env.locals=L/\env.kindOf s=some .local/\(g≠.nul->∃v,m s=some v/\Is T J g v)
 | .cel=>env.kindOf s=some .cell/\∃k a,g=.own k/\J.as[k]?=some a/\env.cells.lookup s=some a
 | .blk=>env.kindOf s=some .local/\∃k,g=.own k/\J.as[k]?=some env.locals
 | .glo=>env.kindOf s=some .globalImplicit
abbrev aq:=List (Nat × SK)
def bq(x:aR)(J:az)(env:Env)(L:Addr)(m:Str->Option Value)(vs:aq)(loc:List GV):Prop:=
 ∀(j i:Nat) (kd:SK),vs[j]?=some (i,kd)->∃s,x.T[i]?=some s/\(s == ("__debug__" : Str))=false/\pT x.T J env L m (aZ loc j) s kd
theorem pT.more{T:List Str}{J J':az}(le:J.le J'){env:Env}{L:Addr}{m:Str->Option Value}{g:GV}{s:Str}{kd:SK}(h:pT T J env L m g s kd):pT T J' env L m g s kd:=by
 cases kd with
 | loc=>exact ⟨h.1,h.2.1,fun n=>(h.2.2 n).imp fun q0=>And.imp_right fun x=>x.more le⟩
 | cel=>obtain ⟨a,k,b,c,d,e⟩:=h; exact ⟨a,k,b,c,aE le.1 d,e⟩
 | blk=>obtain ⟨a,k,b,c⟩:=h; exact ⟨a,k,b,aE le.1 c⟩
 | glo=>exact h
theorem bq.more{x:aR}{J J':az}(le:J.le J'){env:Env}{L:Addr}{m:Str->Option Value}{vs:aq}{loc:List GV}(h:bq x J env L m vs loc):bq x J' env L m vs loc:=
 fun j i kd e=>(h j i kd e).imp fun q0=>And.imp_right (And.imp_right fun x=>x.more le)
abbrev KV:=GV->Tr->Nat->Rn->Bool
abbrev KB:=Bool->Tr->Nat->Rn->Bool
abbrev KL:=List GV->Tr->Nat->Rn->Bool
abbrev EV:=Tr->Nat->Rn->List GV->KV->Bool
abbrev TV:=Tr->Nat->Rn->List GV->KB->Bool
abbrev LV:=Tr->Nat->Rn->List GV->KL->Bool
def fw(x:aR)(J:az)(O:Heap)(L:Addr)(m:Str->Option Value)(k:KV)(Q:Value->Shared->Prop):Prop:=
 ∀J' H nx R s g v,J.le J'->St x J' H nx R O L m s->Is x.T J' g v->k g H nx R=true->Q v s
def nA(x:aR)(J:az)(O:Heap)(L:Addr)(m:Str->Option Value)(k:KB)(Q:Bool->Shared->Prop):Prop:=
 ∀J' H nx R s c,J.le J'->St x J' H nx R O L m s->k c H nx R=true->Q c s
def aK(x:aR)(d:Nat)(vs:aq)(f:EV)(e:Expr):Prop:=
 ∀H nx R loc k,f H nx R loc k=true->∀(A:Around) (env:Env) (O:Heap) (L:Addr) (m:Str->Option Value) (J:az) (s:Shared) (Q E:Value->Shared->Prop),
  ck x d A O L->bN env L->St x J H nx R O L m s->bq x J env L m vs loc->fw x J O L m k Q->wpAny (model x.prog x.w) A (eval e env) Q E s
def d3(x:aR)(d:Nat)(vs:aq)(f:TV)(e:Expr):Prop:=
 ∀H nx R loc k,f H nx R loc k=true->∀(A:Around) (env:Env) (O:Heap) (L:Addr) (m:Str->Option Value) (J:az) (s:Shared) (Q:Bool->Shared->Prop) (E:Value->Shared->Prop),
  ck x d A O L->bN env L->St x J H nx R O L m s->bq x J env L m vs loc->nA x J O L m k Q->wpAny (model x.prog x.w) A (isTrue e env (eval e env)) Q E s
def eg(x:aR)(d:Nat)(vs:aq)(f:LV)(es:List Expr):Prop:=
 ∀H nx R loc k,f H nx R loc k=true->∀(A:Around) (env:Env) (O:Heap) (L:Addr) (m:Str->Option Value) (J:az) (s:Shared) (pos:Pos) (Q:List Value->Shared->Prop) (E:Value->Shared->Prop),
  ck x d A O L->bN env L->St x J H nx R O L m s->bq x J env L m vs loc->
  (∀J' H nx R s gs us,J.le J'->St x J' H nx R O L m s->be x.T J' gs us->k gs H nx R=true->Q us s)->wpAny (model x.prog x.w) A (spliced (backTo pos (starEach es env))) Q E s
abbrev xm:=GV->Tr->Nat->Rn->KV->Bool
abbrev sp:=GV->GV->Tr->Nat->Rn->KV->Bool
def Ej(x:aR)(d:Nat)(f:xm)(tree:Value->Sem Value):Prop:=
 ∀g H nx R k,f g H nx R k=true->∀(A:Around) (O:Heap) (L:Addr) (m:Str->Option Value) (J:az) (s:Shared) (u:Value) (Q E:Value->Shared->Prop),
  ck x d A O L->St x J H nx R O L m s->Is x.T J g u->fw x J O L m k Q->wpAny (model x.prog x.w) A (tree u) Q E s
def wP(x:aR)(d:Nat)(f:sp)(tree:Value->Value->Sem Value):Prop:=
 ∀g h H nx R k,f g h H nx R k=true->∀(A:Around) (O:Heap) (L:Addr) (m:Str->Option Value) (J:az) (s:Shared) (u v:Value) (Q E:Value->Shared->Prop),
  ck x d A O L->St x J H nx R O L m s->Is x.T J g u->Is x.T J h v->fw x J O L m k Q->wpAny (model x.prog x.w) A (tree u v) Q E s
section
variable {x:aR} {d:Nat} {vs:aq} {J J':az} {H:Tr} {nx:Nat} {R:Rn} {O:Heap} {L:Addr} {m:Str->Option Value} {s:Shared}
theorem St.toks(S:St x J H nx R O L m s)(tk:Nat):St x J H nx R O L m { s with toks:=tk }:=⟨S.led,S.nx,S.fr,S.gens,S.rn⟩
theorem St.rn'(S:St x J H nx R O L m s){R':Rn}(h:dq R' J.ns):St x J H nx R' O L m s:=⟨S.led,S.nx,S.fr,S.gens,h⟩
theorem fw.le{k:KV}{Q:Value->Shared->Prop}(le:J.le J')(h:fw x J O L m k Q):fw x J' O L m k Q:=fun J'' H nx R s g v l=>h J'' H nx R s g v (le.trans l)
theorem nA.le{k:KB}{Q:Bool->Shared->Prop}(le:J.le J')(h:nA x J O L m k Q):nA x J' O L m k Q:=fun J'' H nx R s c l=>h J'' H nx R s c (le.trans l)
theorem fw.now{k:KV}{Q:Value->Shared->Prop}(h:fw x J O L m k Q)(S:St x J H nx R O L m s){g:GV}{v:Value}(i:Is x.T J g v)(e:k g H nx R=true)(tk:Nat):Q v { s with toks:=tk }:=h J H nx R _ g v (.refl _) (S.toks tk) i e
theorem fw.here{k:KV}{Q:Value->Shared->Prop}(h:fw x J O L m k Q)(S:St x J H nx R O L m s){g:GV}{v:Value}(i:Is x.T J g v)(e:k g H nx R=true):Q v s:=h J H nx R _ g v (.refl _) S i e
def ah(i:Nat):EV:=fun H nx R loc k=>let g:=aZ loc i; eH g (k g H nx R)
theorem kN{i a:Nat}{t:Str}(hv:vs[i]?=some (a,.loc))(ht:x.T[a]?=some t)(pos:Pos):aK x d vs (ah i) (.Name t pos):=by
 intro H nx R loc k h A env O L m J s Q E Hh En S Lo hQ
 obtain ⟨n,h⟩:=cQ h
 obtain ⟨t',ht',hd,h1,h2,h3⟩:=(Lo i a .loc hv)
 rw [ht] at ht'; cases ht'
 obtain ⟨v,hv,hi⟩:=(h3 n)
 exact wpAny_Name (wpAny_loadName_local En.kind h2 (h1▸S.fr.ns) hv (hQ.here S hi h)) hd
def vB(o:GO)(k:GV->Bool):Bool:=@GO.rec (fun q0=>Bool) false (fun q0=>false) (fun q0=>false) (fun q0 q0=>false) (fun q0=>false) false (fun q0=>false) (fun q0=>false) (fun g=>k g) (fun q0=>false) (fun q0 q0=>false) (fun q0 q0=>false) (fun q0 q0=>false) (fun q0=>false) (fun q0=>false) (fun q0=>false) false (fun q0=>false) (fun q0 q0=>false) (fun q0 q0=>false) (fun q0 q0=>false) (fun q0 q0=>false) (fun q0 q0=>false) o
def tV(o:GO)(k:List (Nat × GV)->Bool):Bool:=@GO.rec (fun q0=>Bool) false (fun q0=>false) (fun q0=>false) (fun q0 q0=>false) (fun q0=>false) false (fun q0=>false) (fun q0=>false) (fun q0=>false) (fun g=>k g) (fun q0 q0=>false) (fun q0 q0=>false) (fun q0 q0=>false) (fun q0=>false) (fun q0=>false) (fun q0=>false) false (fun q0=>false) (fun q0 q0=>false) (fun q0 q0=>false) (fun q0 q0=>false) (fun q0 q0=>false) (fun q0 q0=>false) o
theorem sF{o:GO}{k:GV->Bool}(h:vB o k=true):∃g,o=.cell g/\k g=true:=by cases o <;> first | cases h; done | exact ⟨_,rfl,h⟩
theorem ng{o:GO}{k:List (Nat × GV)->Bool}(h:tV o k=true):∃g,o=.ns g/\k g=true:=by cases o <;> first | cases h; done | exact ⟨_,rfl,h⟩
def ib(i:Nat):EV:=fun H nx R loc k=>bU (aZ loc i) fun c=>vB (H.get c) fun g=>eH g (k g H nx R)
theorem dN{i a:Nat}{t:Str}(hv:vs[i]?=some (a,.cel))(ht:x.T[a]?=some t)(pos:Pos):aK x d vs (ib i) (.Name t pos):=by
 intro H nx R loc k h A env O L m J s Q E Hh En S Lo hQ
 symm
 obtain ⟨c,hc,h⟩:=bn h
 obtain ⟨g,hg,h⟩:=sF h
 obtain ⟨n,h⟩:=cQ h
 obtain ⟨t',ht',hd,h1,c',ca,h2,h3,h4⟩:=(Lo i a .cel hv)
 symm
 rw [ht] at ht'; cases ht'
 rw [hc] at h2; cases h2
 symm
 obtain ⟨o,o1,q0,q0,o2⟩:=(S.led.obj h3)
 symm
 rw [hg] at o2
 rcases o2 with ⟨q,_⟩ | ⟨_,q,i⟩
 ·exact absurd q n
 ·exact wpAny_Name (wpAny_loadName_cell En.kind h1 h4 ⟨o,o1,q⟩ (hQ.here S i h)) hd
theorem lM:∀{l:List (Nat × GV)} {k:Nat},dZ l k≠.nul->l.lookup k=some (dZ l k)
 | [],_,h=>absurd rfl h
 | (a,g)::l,k,h=>by
  have e:dZ ((a,g)::l) k=@Bool.rec (fun q0=>GV) (dZ l k) g (Nat.beq a k):=rfl
  rw [List.lookup_cons]
  cases q:Nat.beq a k with
  | true=>
   rw [q] at e
   have:(k == a)=true:=by rw [Nat.eq_of_beq_eq_true q]; exact beq_self_eq_true _
   rw [this,e]
  | false=>
   rw [q] at e
   have:(k == a)=false:=by rw [beq_eq_false_iff_ne]; exact fun z=>(Nat.ne_of_beq_eq_false q) z.symm
   rw [this]
   rw [e] at h ⊢
   exact lM h
def gc(i a:Nat):EV:=fun H nx R loc k=>bU (aZ loc i) fun c=>tV (H.get c) fun es=>let g:=dZ es a; eH g (k g H nx R)
theorem cS{i a:Nat}{t:Str}(hv:vs[i]?=some (a,.blk))(ht:x.T[a]?=some t)(pos:Pos):aK x d vs (gc i a) (.Name t pos):=by
 intro H nx R loc k h A env O L m J s Q E Hh En S Lo hQ
 symm
 obtain ⟨c,hc,h⟩:=bn h
 obtain ⟨es,hg,h⟩:=ng h
 obtain ⟨n,h⟩:=cQ h
 obtain ⟨t',ht',hd,h1,c',h2,h3⟩:=(Lo i a .blk hv)
 symm
 rw [ht] at ht'; cases ht'
 rw [hc] at h2; cases h2
 symm
 obtain ⟨o,o1,q0,q0,o2⟩:=(S.led.obj h3)
 rw [hg] at o2
 obtain ⟨q0,q,i⟩:=o2
 obtain ⟨y,v,a1,a2,a3⟩:=(i _ _ (lM n))
 symm
 rw [ht] at a1; cases a1
 symm
 obtain ⟨es',ep,e1,e2,e3⟩:=q
 symm
 exact wpAny_Name (wpAny_loadName_local En.kind h1 ⟨o,es',ep,o1,e1,e2,e3⟩ a2 (hQ.here S a3 h)) hd
noncomputable def bj(g:GV):EV:=fun H nx R loc k=>k g H nx R
inductive d7 (T:List Str):GV->Value->Prop
 | none:d7 T .none .none
 | bool (b:Bool):d7 T (.bool b) (.bool b)
 | int (i:Int) (t:Tok):d7 T (.int (.lit i)) (.int i t)
 | str {i:Nat} {x:Str} (t:Tok):T[i]?=some x->d7 T (.str i) (.str x t)
 | old (v:Value):d7 T (.old v) v
theorem d7.is{T:List Str}{g:GV}{v:Value}(h:d7 T g v):Is T J g v:=by
 cases h with
 | none=>exact .none
 | bool=>exact .bool _
 | int i t=>exact .int (e:=.lit i) t trivial
 | str t h=>exact .str t h
 | old=>exact .old _
def bp(x:aR)(t:Str)(v:Value):Prop:=nsIn x.K mainGlobals t=some (some v)∨(nsIn x.K mainGlobals t=some none/\t≠ "__name__"/\bootBuiltins t=some v)
theorem jQ{i a:Nat}{t:Str}{g:GV}{v:Value}(hv:vs[i]?=some (a,.glo))(ht:x.T[a]?=some t)(hm:bp x t v)(hg:d7 x.T g v)(pos:Pos):aK x d vs (bj g) (.Name t pos):=by
 intro H nx R loc k h A env O L m J s Q E Hh En S Lo hQ
 obtain ⟨t',ht',hd,h1⟩:=(Lo i a .glo hv)
 rw [ht] at ht'; cases ht'
 have T:=topRead_of Hh.top
 have q:=hQ.here S (hg.is (J:=J)) h
 rcases hm with hm | ⟨hm,hn,hb⟩
 ·exact Name_function_global En.kind h1 (loadGlobal_global (env:=env) (by rw [En.glob]; exact T.g.keeps S.fr.keep) (mg_of Hh.X T.g hm) q) hd
 ·exact Name_function_global En.kind h1 (loadGlobal_builtin (env:=env) (by rw [En.glob]; exact T.g.keeps S.fr.keep) (mg_none_of Hh.X T.g hm) (by rw [En.bui]; exact T.b.keeps S.fr.keep) ((T.builtins _ hn).trans hb) q) hd
inductive A7 (T:List Str):GV->Const->Prop
 | none:A7 T .none .none
 | bool (b:Bool):A7 T (.bool b) (.bool b)
 | int (i:Int):A7 T (.int (.lit i)) (.int i)
 | str {i:Nat} {x:Str}:T[i]?=some x->A7 T (.str i) (.str x)
theorem Fk{g:GV}{c:Const}(hc:A7 x.T g c)(kd:Nat)(pos:Pos):aK x d vs (bj g) (.Constant c kd pos):=by
 intro H nx R loc k h A env O L m J s Q E Hh En S Lo hQ
 cases hc with
 | none=>exact fun q0 q0 q0=>hQ.now S .none h _
 | bool b=>exact fun q0 q0 q0=>hQ.now S (.bool b) h _
 | int i=>exact wpAny_Constant_int (hQ.now S (.int (e:=.lit i) _ trivial) h _)
 | str e=>exact Constant_str (hQ.now S (.str _ e) h _)
end
structure Cx (β γ:Type) where
 x:aR
 d:Nat
 vs:aq
 H:Tr
 nx:Nat
 R:Rn
 loc:List GV
 k:γ
 A:Around
 env:Env
 O:Heap
 L:Addr
 m:Str->Option Value
 J:az
 s:Shared
 Q:β->Shared->Prop
 E:Value->Shared->Prop
theorem Em{β γ:Type}(ne:Nonempty γ)(Φ:aR->Nat->aq->Tr->Nat->Rn->List GV->γ->Around->Env->Heap->Addr->(Str->Option Value)->az->Shared->(β->Shared->Prop)->(Value->Shared->Prop)->Prop) :
  ∃t:Cx β γ,Φ t.x t.d t.vs t.H t.nx t.R t.loc t.k t.A t.env t.O t.L t.m t.J t.s t.Q t.E->∀x d vs H nx R loc k A env O L m J s Q E,Φ x d vs H nx R loc k A env O L m J s Q E:=by
 have ⟨k0⟩:=ne
 by_cases h:∃t:Cx β γ,¬ Φ t.x t.d t.vs t.H t.nx t.R t.loc t.k t.A t.env t.O t.L t.m t.J t.s t.Q t.E
 ·exact h.imp fun q0 a b=>absurd b a
 ·exact ⟨⟨⟨default,⟨fun q0 q0=>0,{ strHash:=fun q0=>0,shareClass:=fun q0=>0,mergeTok:=id,idOf:=fun q0=>0,idOfShared:=fun q0 q0=>0,followText:=fun q0=>false,idOfImm:=fun q0=>0 }⟩,[],default,[],fun q0=>none,fun q0=>none,fun q0=>none,[],[],0,default⟩,0,[],.e,0,.mk [] [],[],k0,⟨none,0,none,none,1⟩,default,default,0,fun q0=>none,⟨[],[],fun q0=>[],(0,0)⟩,⟨default,#[],{},1,default⟩,fun q0 q0=>True,fun q0 q0=>True⟩,
   fun q0 x d vs H nx R loc k A env O L m J s Q E=>Classical.byContradiction fun q=>h ⟨⟨x,d,vs,H,nx,R,loc,k,A,env,O,L,m,J,s,Q,E⟩,q⟩⟩
def dk{β γ:Type}(ne:Nonempty γ)(Φ:aR->Nat->aq->Tr->Nat->Rn->List GV->γ->Around->Env->Heap->Addr->(Str->Option Value)->az->Shared->(β->Shared->Prop)->(Value->Shared->Prop)->Prop):Cx β γ:=(Em ne Φ).choose
theorem pJ{β γ:Type}[ne:Nonempty γ]{Φ:aR->Nat->aq->Tr->Nat->Rn->List GV->γ->Around->Env->Heap->Addr->(Str->Option Value)->az->Shared->(β->Shared->Prop)->(Value->Shared->Prop)->Prop}
  (h:Φ (dk ne Φ).x (dk ne Φ).d (dk ne Φ).vs (dk ne Φ).H (dk ne Φ).nx (dk ne Φ).R (dk ne Φ).loc (dk ne Φ).k (dk ne Φ).A (dk ne Φ).env (dk ne Φ).O (dk ne Φ).L (dk ne Φ).m (dk ne Φ).J (dk ne Φ).s (dk ne Φ).Q (dk ne Φ).E) :
  ∀x d vs H nx R loc k A env O L m J s Q E,Φ x d vs H nx R loc k A env O L m J s Q E:=(Em ne Φ).choose_spec h
end
section
section
variable {x:aR} {d:Nat} {vs:aq} {J:az} {H:Tr} {nx:Nat} {R:Rn} {O:Heap} {L:Addr} {m:Str->Option Value} {s:Shared} {A:Around} {E:Value->Shared->Prop} {Q:Value->Shared->Prop} {k:KV}
def mk(g:GO):Tr->Nat->Rn->KV->Bool:=fun H nx R k=>H.set 24 nx g fun H'=>fN (Nat.succ nx) fun nx'=>k (.own nx) H' nx' R
theorem PJ{g:GO}(h:mk g H nx R k=true):∃H',At H H' nx g/\k (.own nx) H' (nx+1) R=true:=by
 obtain ⟨H',a,b⟩:=Tr.set_ok _ _ _ _ _ h
 rw [bP] at b
 exact ⟨H',a,b⟩
theorem St.made{H':Tr}{os:List Obj}{h':Heap}{D:Addr}{o:Obj}{g:GO}(S:St x J H nx R O L m s)(hos:∀k o,os[k]?=some o->aL x.T x.CT x.nd (x.prog,x.w) J (H.get k) o)(e:J.as.length=os.length)
  (F':Fr O L h' m) (N':News O L h' ((D,o)::J.as.zip os)) (lt:∀p∈J.as.zip os,p.1<D) (hg:aL x.T x.CT x.nd (x.prog,x.w) (J.push D) g o) (a:At H H' nx g) (tk:Nat) :
  St x (J.push D) H' (nx+1) R O L m { s with heap:=h',toks:=tk }/\Is x.T (J.push D) (.own nx) (.ref D):=by
 have en:=S.nx
 subst en
 exact ⟨⟨gS.push hos e S.led.nod N' lt hg a,by simp [az.push],F',S.gens,S.rn⟩,.own (eE J D)⟩
theorem gp{os:List Obj}{h':Heap}{D:Addr}{o:Obj}{g:GO}(h:mk g H nx R k=true)(S:St x J H nx R O L m s)(hQ:fw x J O L m k Q)(hos:∀k o,os[k]?=some o->aL x.T x.CT x.nd (x.prog,x.w) J (H.get k) o)(e:J.as.length=os.length)
  (F':Fr O L h' m) (N':News O L h' ((D,o)::J.as.zip os)) (lt:∀p∈J.as.zip os,p.1<D) (hg:aL x.T x.CT x.nd (x.prog,x.w) (J.push D) g o) (tk:Nat):Q (.ref D) { s with heap:=h',toks:=tk }:=by
 obtain ⟨H',a,b⟩:=(PJ h)
 obtain ⟨S',i⟩:=(S.made hos e F' N' lt hg a tk)
 exact hQ _ _ _ _ _ _ _ (J.le_push D) S' i b
theorem St.set{H':Tr}{os:List Obj}{h':Heap}{a:Addr}{o':Obj}{g:GO}{i:Nat}(S:St x J H nx R O L m s)(hos:∀k o,os[k]?=some o->aL x.T x.CT x.nd (x.prog,x.w) J (H.get k) o)(e:J.as.length=os.length)
  (F':Fr O L h' m) (ha:J.as[i]?=some a) (N':News O L h' (J.as.zip (os.set i o'))) (hg:aL x.T x.CT x.nd (x.prog,x.w) J g o') (hA:At H H' i g) (tk:Nat):St x J H' nx R O L m { s with heap:=h',toks:=tk }:=
 ⟨gS.set S.led.nod hos e ha N' hg hA,S.nx,F',S.gens,S.rn⟩
theorem St.upd{H':Tr}{h':Heap}{a:Addr}{o':Obj}{g:GO}{i:Nat}(S:St x J H nx R O L m s)(ha:J.as[i]?=some a)(hs:Heap.SameBut a s.heap h')(ho:h'.get? a=some o')(hg:aL x.T x.CT x.nd (x.prog,x.w) J g o')(hA:At H H' i g)(tk:Nat) :
  St x J H' nx R O L m { s with heap:=h',toks:=tk }:=by
 obtain ⟨o,h1,h2,h3,q0⟩:=(S.led.obj ha)
 exact ⟨S.led.upd ha hs ho hg hA,S.nx,S.fr.change hs h2 h3,S.gens,S.rn⟩
noncomputable def aj:LV:=fun H nx R loc k=>k [] H nx R
noncomputable def af(a:EV)(r:LV):LV:=fun H nx R loc k=>a H nx R loc fun g H nx R=>r H nx R loc fun gs H nx R=>k (g::gs) H nx R
theorem kK:eg x d vs aj []:=by
 intro H nx R loc k h A env O L m J s pos Q E Hh En S Lo hQ
 exact spliced_none (hQ J H nx R s [] [] (.refl _) S .nil h)
def iN(e:Expr)(k:Nat):Bool:=@Bool.rec (fun q0=>Bool) true false (Nat.beq e.ctorIdx k)
noncomputable def bZ(e:Expr):Bool:=iN e 22
theorem gI{a:EV}{r:LV}{e:Expr}{es:List Expr}(ha:aK x d vs a e)(hr:eg x d vs r es)(hn:bZ e=true):eg x d vs (af a r) (e::es):=by
 intro H nx R loc k h A env O L m J s pos Q E Hh En S Lo hQ
 refine spliced_more (ha H nx R loc _ h A env O L m J s _ E Hh En S Lo fun J' H' nx' R' s' g v le S' hg hk=>?_) (by clear ha; cases e <;> first | rfl | cases hn)
 exact hr H' nx' R' loc _ hk A env O L m J' s' pos _ E Hh En S' (Lo.more le) fun J'' H'' nx'' R'' s'' gs us le' S'' hgs hk'=>hQ J'' H'' nx'' R'' s'' (g::gs) (v::us) (le.trans le') S'' (.cons (hg.more le') hgs) hk'
def fj(n:Nat)(l:List GV):Bool:=@List.rec GV (fun q0=>Nat->Bool) (fun q0=>true) (fun q0 q0 ih n=>@Nat.rec (fun q0=>Bool) false (fun n q0=>ih n) n) l n
theorem cX:∀{n:Nat} {l:List GV},fj n l=true->l.length<=n
 | _,[],_=>Nat.zero_le _
 | 0,_::_,h=>by cases h
 | n+1,_::l,h=>Nat.succ_le_succ (cX (l:=l) h)
def aD(l:LV):EV:=fun H nx R loc k=>l H nx R loc fun gs H nx R=>@Bool.rec (fun q0=>Bool) false (mk (.tuple gs) H nx R k) (fj 100 gs)
def bb(l:LV):EV:=fun H nx R loc k=>l H nx R loc fun gs H nx R=>@Bool.rec (fun q0=>Bool) false (mk (.list gs) H nx R k) (fj 100 gs)
theorem aJ{b c:Bool}(h:@Bool.rec (fun q0=>Bool) false c b=true):b=true/\c=true:=by cases b <;> first | cases h; done | exact ⟨rfl,h⟩
theorem Gh{l:LV}{es:List Expr}(hl:eg x d vs l es)(kd:Nat)(pos:Pos):aK x d vs (aD l) (.Tuple es kd pos):=by
 intro H nx R loc k h A env O L m J s Q E Hh En S Lo hQ
 refine Tuple_ (hl H nx R loc _ h A env O L m J s pos _ E Hh En S Lo fun J' H' nx' R' s' gs us le S' hgs hk=>?_)
 obtain ⟨hz,hk⟩:=aJ hk
 obtain ⟨os,hos,e,N⟩:=S'.led.at_
 refine kup_newTuple S'.fr N (fun D h' F' N' lt=>gp hk S' (hQ.le le) hos e F' N' lt (.tuple (hgs.more (az.le_push _ _))) s'.toks) ?_
 rw [<- hgs.length]; exact Nat.le_trans (cX hz) (by decide)
theorem GJ{l:LV}{es:List Expr}(hl:eg x d vs l es)(pos:Pos):aK x d vs (bb l) (.List es pos):=by
 intro H nx R loc k h A env O L m J s Q E Hh En S Lo hQ
 refine List_ (hl H nx R loc _ h A env O L m J s pos _ E Hh En S Lo fun J' H' nx' R' s' gs us le S' hgs hk=>?_)
 obtain ⟨hz,hk⟩:=aJ hk
 obtain ⟨os,hos,e,N⟩:=S'.led.at_
 refine newList_K S'.fr N (fun D h' F' N' lt=>gp hk S' (hQ.le le) hos e F' N' lt (.list 0 (hgs.more (az.le_push _ _))) s'.toks) ?_
 rw [<- hgs.length]; exact Nat.le_trans (cX hz) (by decide)
def hV(o:GO)(k:Nat->Nat->Bool):Bool:=@GO.rec (fun q0=>Bool) false (fun q0=>false) (fun q0=>false) (fun C d=>k C d) (fun q0=>false) false (fun q0=>false) (fun q0=>false) (fun g=>false) (fun q0=>false) (fun q0 q0=>false) (fun q0 q0=>false) (fun q0 q0=>false) (fun q0=>false) (fun q0=>false) (fun q0=>false) false (fun q0=>false) (fun q0 q0=>false) (fun q0 q0=>false) (fun q0 q0=>false) (fun q0 q0=>false) (fun q0 q0=>false) o
def eM(o:GO)(k:List (Nat × GV)->Bool):Bool:=@GO.rec (fun q0=>Bool) false (fun q0=>false) (fun q0=>false) (fun C d=>false) (fun es=>k es) false (fun q0=>false) (fun q0=>false) (fun g=>false) (fun q0=>false) (fun q0 q0=>false) (fun q0 q0=>false) (fun q0 q0=>false) (fun q0=>false) (fun q0=>false) (fun q0=>false) false (fun q0=>false) (fun q0 q0=>false) (fun q0 q0=>false) (fun q0 q0=>false) (fun q0 q0=>false) (fun q0 q0=>false) o
def ef(o:GO)(k:List GV->Bool):Bool:=@GO.rec (fun q0=>Bool) false (fun l=>k l) (fun q0=>false) (fun C d=>false) (fun es=>false) false (fun q0=>false) (fun q0=>false) (fun g=>false) (fun q0=>false) (fun q0 q0=>false) (fun q0 q0=>false) (fun q0 q0=>false) (fun q0=>false) (fun q0=>false) (fun q0=>false) false (fun q0=>false) (fun q0 q0=>false) (fun q0 q0=>false) (fun q0 q0=>false) (fun q0 q0=>false) (fun q0 q0=>false) o
theorem fg{o:GO}{k:Nat->Nat->Bool}(h:hV o k=true):∃C d,o=.inst C d/\k C d=true:=by cases o <;> first | cases h; done | exact ⟨_,_,rfl,h⟩
theorem dL{o:GO}{k:List (Nat × GV)->Bool}(h:eM o k=true):∃g,o=.idict g/\k g=true:=by cases o <;> first | cases h; done | exact ⟨_,rfl,h⟩
theorem cY{o:GO}{k:List GV->Bool}(h:ef o k=true):∃g,o=.list g/\k g=true:=by cases o <;> first | cases h; done | exact ⟨_,rfl,h⟩
def aS(x:aR)(t:Str):Prop:=∀C∈x.CT,plainGet x.K C t=true/\hasDictIn x.K C=true/\findIn x.K (.ref C) t=some none/\
 findIn x.K (.ref C) "__setattr__" = some (some (.builtin "object.__setattr__"))/\plainOver x.K C=true/\takerIn x.K C t=some none
theorem dh.look{T:List Str}(hT:T.Nodup){nd:Nat}{es:List (Nat × GV)}{ds:List DictEntry}(h:dh T nd J es ds){a:Nat}{t:Str}(ht:T[a]?=some t){g:GV}(e:es.lookup a=some g):∃v,getL t ds=some (some v)/\Is T J g v:=by
 induction h with
 | nil=>cases e
 | @cons i y g' d u es ds lt hi hk hv r ih=>
  have key:d.key.isStr t=(a == i):=by
   rw [hk]
   show (y == t)=(a == i)
   rw [Bool.eq_iff_iff,beq_iff_eq,beq_iff_eq]
   constructor
   ·intro q; subst q
    exact (List.getElem?_inj (aN ht) hT).mp (ht.trans hi.symm)
   ·intro q; subst q; rw [hi] at ht; exact Option.some.inj ht
  unfold getL
  rw [List.find?_cons,key]
  rw [List.lookup_cons] at e
  cases q:(a == i) with
  | true=>rw [q] at e; cases e; exact ⟨_,rfl,hv⟩
  | false=>
   rw [q] at e
   obtain ⟨v,h1,h2⟩:=(ih e)
   refine ⟨v,?_,h2⟩
   have nr:d.refKey=false:=by unfold DictEntry.refKey; rw [hk]
   unfold getL at h1
   dsimp only
   rw [List.any_cons,nr,Bool.false_or]
   exact h1
theorem gS.inst{l:Nat}{h:Heap}(l':gS x.T x.CT x.nd (x.prog,x.w) J H O L h){i C d:Nat}{es:List (Nat × GV)}{a:Addr}(hi:H.get i=.inst C d)(hd:H.get d=.idict es)(ha:J.as[i]?=some a) :
  ∃cx dx ds n,x.CT[C]?=some cx/\J.as[d]?=some dx/\dh x.T x.nd J es ds/\InstAt h a (instObj cx dx) cx (some (dictOf ds n)):=by
 symm
 obtain ⟨o,o1,q0,q0,o2⟩:=(l'.obj ha)
 rw [hi] at o2
 obtain ⟨q0,q0,rfl,hc,hdx⟩:=o2
 obtain ⟨p,p1,q0,q0,p2⟩:=(l'.obj hdx)
 rw [hd] at p2
 obtain ⟨q0,n,rfl,he⟩:=p2
 symm
 exact ⟨_,_,_,n,hc,hdx,he,⟨o1,rfl,rfl,p1⟩⟩
def Ef(g:GV)(b:Bool):Bool:=@GV.rec (fun q0=>Bool) false b (fun q0=>b) (fun q0=>b) (fun q0=>b) (fun q0=>b) (fun v=>match handedIn v with | true=>b | false=>false) (fun q0=>b) false g
theorem BM{g:GV}{b:Bool}(h:Ef g b=true):g≠.nul/\b=true/\∀(T:List Str) (J:az) v,Is T J g v->handedIn v=true:=by
 cases g with
 | nul=>cases h
 | old v=>
  have h':(match handedIn v with | true=>b | false=>false)=true:=h
  cases q:handedIn v with
  | true=>rw [q] at h'; exact ⟨(by intro e; cases e),h',fun T J v' i=>by cases i; exact q⟩
  | false=>rw [q] at h'; cases h'
 | unk=>cases h
 | none=>exact ⟨(by intro e; cases e),h,fun T J v i=>by cases i; rfl⟩
 | bool b=>exact ⟨(by intro e; cases e),h,fun T J v i=>by cases i; rfl⟩
 | int e=>exact ⟨(by intro e; cases e),h,fun T J v i=>by obtain ⟨q0,rfl,q0⟩:=i; rfl⟩
 | str e=>exact ⟨(by intro e; cases e),h,fun T J v i=>by obtain ⟨q0,q0,rfl,q0⟩:=i; rfl⟩
 | byt e=>exact ⟨(by intro e; cases e),h,fun T J v i=>by obtain ⟨q0,rfl,q0⟩:=i; rfl⟩
 | own e=>exact ⟨(by intro e; cases e),h,fun T J v i=>by obtain ⟨q0,rfl,q0⟩:=i; rfl⟩
def EL(a:Nat):xm:=fun g H nx R k=>bU g fun i=>hV (H.get i) fun C d=>eM (H.get d) fun es=>let r:=dZ es a; Ef r (k r H nx R)
theorem C3(hT:x.T.Nodup){a:Nat}{t:Str}(ht:x.T[a]?=some t)(hn:aS x t)(ex:Bool):Ej x d (EL a) fun v=>getAttr v t ex:=by
 intro g H nx R k h A O L m J s u Q E Hh S iu hQ
 symm
 obtain ⟨i,rfl,h⟩:=bn h
 obtain ⟨C,dd,hi,h⟩:=fg h
 obtain ⟨es,hd,h⟩:=dL h
 obtain ⟨n0,h,hh⟩:=BM h
 obtain ⟨q0,rfl,ha⟩:=iu
 obtain ⟨cx,dx,ds,n,h1,h2,h3,h4⟩:=(S.led.inst (l:=0) hi hd ha)
 obtain ⟨v,v1,v2⟩:=(h3.look hT ht (lM n0))
 obtain ⟨c1,c2,c3,q0⟩:=(hn cx (List.mem_of_getElem? h1))
 symm
 exact get_own S.fr Hh.X h4 c1 c2 c3 rfl v1 (hh _ _ _ v2) (hQ.now S v2 h _)
def aH(f:EV)(a:Nat):EV:=fun H nx R loc k=>f H nx R loc fun g H nx R=>EL a g H nx R k
noncomputable def wE(e:Expr):Bool:=iN e 16
theorem ax(hT:x.T.Nodup){f:EV}{e:Expr}(hf:aK x d vs f e){a:Nat}{t:Str}(ht:x.T[a]?=some t)(hn:aS x t)(hc:wE e=true)(pos:Pos):aK x d vs (aH f a) (.Attribute e t pos):=by
 intro H nx R loc k h A env O L m J s Q E Hh En S Lo hQ
 refine Attribute_any_ (hf H nx R loc _ h A env O L m J s _ E Hh En S Lo fun J' H' nx' R' s' g v le S' hg hk=>?_) (by clear hf; cases e <;> first | rfl | cases hc)
 exact C3 hT ht hn true g H' nx' R' k hk A O L m J' s' v Q E Hh S' hg (hQ.le le)
end
end
section
def Dx(l:List GV):Nat->Nat:=@List.rec GV (fun q0=>Nat->Nat) (fun a=>a) (fun q0 q0 ih a=>ih (Nat.add a 1)) l
theorem xz:∀(l:List GV) (a:Nat),Dx l a=a+l.length
 | [],_=>rfl
 | g::l,a=>by
  show Dx l (a+1)=_
  rw [xz l (a+1),List.length_cons]; lia
def cH(l:List GV):Nat:=Dx l 0
theorem cP(l:List GV):cH l=l.length:=by unfold cH; rw [xz]; lia
def mJ(l:List GV)(i:Int):GV:=@Int.rec (fun q0=>GV) (fun k=>@Bool.rec (fun q0=>GV) .nul (aZ l k) (Nat.ble k 1000)) (fun k=>@Bool.rec (fun q0=>GV) .nul (aZ l (Nat.sub (cH l) (Nat.succ k))) (Nat.ble k 1000&&Nat.ble (Nat.succ k) (cH l))) i
theorem rv{l:List GV}{i:Int}(h:mJ l i≠.nul):∃j,l[j]?=some (mJ l i)/\seqIndex? i l.length=some j/\-(2 ^ 62)<=i/\i<2 ^ 62/\((0<=i/\j=i.toNat)∨(i<0/\-(l.length:Int)<=i/\j=(i+l.length).toNat)):=by
 cases i with
 | ofNat k=>
  have e:mJ l (.ofNat k)=@Bool.rec (fun q0=>GV) .nul (aZ l k) (Nat.ble k 1000):=rfl
  rw [e] at h ⊢
  cases q:Nat.ble k 1000 with
  | false=>rw [q] at h; exact absurd rfl h
  | true=>
   rw [q] at h
   have a:=jz h
   have b:=aN a
   have c:=Nat.le_of_ble_eq_true q
   refine ⟨k,a,?_,by simp only [Int.ofNat_eq_natCast]; lia,by simp only [Int.ofNat_eq_natCast]; lia,.inl ⟨by simp,by simp⟩⟩
   unfold seqIndex?
   have h1:¬ (Int.ofNat k<0):=by simp only [Int.ofNat_eq_natCast]; lia
   have h2:(0:Int)<=Int.ofNat k:=by simp only [Int.ofNat_eq_natCast]; lia
   have h3:Int.ofNat k<(l.length:Int):=by simp only [Int.ofNat_eq_natCast]; lia
   simp only [h1,if_false,h2,h3,decide_true,Bool.and_self,if_true]
   rfl
 | negSucc k=>
  have e:mJ l (.negSucc k)=@Bool.rec (fun q0=>GV) .nul (aZ l (cH l - (k+1))) (Nat.ble k 1000&&Nat.ble (k+1) (cH l)):=rfl
  rw [e] at h ⊢
  cases q:(Nat.ble k 1000&&Nat.ble (k+1) (cH l)) with
  | false=>rw [q] at h; exact absurd rfl h
  | true=>
   rw [q] at h
   obtain ⟨q1,q2⟩:=Bool.and_eq_true_iff.mp q
   have c:=Nat.le_of_ble_eq_true q1
   have c2:=Nat.le_of_ble_eq_true q2
   rw [cP] at c2
   have a:=jz h
   dsimp only
   have en:(Int.negSucc k) = -((k:Int)+1):=Int.negSucc_eq k
   rw [cP] at a ⊢
   refine ⟨l.length - (k+1),a,?_,by lia,by lia,.inr ⟨by lia,by lia,by lia⟩⟩
   unfold seqIndex?
   have h1:Int.negSucc k<0:=by lia
   have h2:(0:Int)<=Int.negSucc k+(l.length:Int):=by lia
   have h3:Int.negSucc k+(l.length:Int)<(l.length:Int):=by lia
   simp only [h1,if_true,h2,h3,decide_true,Bool.and_self]
   congr 1
   lia
def Do(l:List GI):Nat->GV:=@List.rec GI (fun q0=>Nat->GV) (fun q0=>.nul) (fun g q0 ih k=>@Nat.rec (fun q0=>GV) (.int g) (fun k q0=>ih k) k) l
theorem xx:∀{l:List GI} {k:Nat},Do l k≠.nul->∃e,Do l k=.int e/\l[k]?=some e
 | [],_,h=>absurd rfl h
 | g::l,0,_=>⟨g,rfl,rfl⟩
 | g::l,k+1,h=>by rw [List.getElem?_cons_succ]; exact xx (l:=l) (k:=k) h
def oY(l:List (Int × GV)):Int->GV:=@List.rec (Int × GV) (fun q0=>Int->GV) (fun q0=>.nul) (fun p q0 ih k=>@Bool.rec (fun q0=>GV) (ih k) p.2 (cV p.1 k)) l
def ez(o:GO)(kl kt:List GV->Bool)(ki:List (Int × GV)->Bool)(ks:List (Nat × GV)->Bool):Bool:=@GO.rec (fun q0=>Bool) false (fun l=>kl l) (fun l=>kt l) (fun C d=>false) (fun es=>false) false (fun l=>ki l) (fun l=>ks l) (fun g=>false) (fun q0=>false) (fun q0 q0=>false) (fun q0 q0=>false) (fun q0 q0=>false) (fun q0=>false) (fun q0=>false) (fun q0=>false) false (fun q0=>false) (fun q0 q0=>false) (fun q0 q0=>false) (fun q0 q0=>false) (fun q0 q0=>false) (fun q0 q0=>false) o
theorem dJ{o:GO}{kl kt:List GV->Bool}{ki:List (Int × GV)->Bool}{ks:List (Nat × GV)->Bool}(h:ez o kl kt ki ks=true):(∃l,o=.list l/\kl l=true)∨(∃l,o=.tuple l/\kt l=true)∨(∃l,o=.di l/\ki l=true)∨(∃l,o=.ds l/\ks l=true):=by
 cases o <;> first | (cases h; done) | exact .inl ⟨_,rfl,h⟩ | exact .inr (.inl ⟨_,rfl,h⟩) | exact .inr (.inr (.inl ⟨_,rfl,h⟩)) | exact .inr (.inr (.inr ⟨_,rfl,h⟩))
section
variable {x:aR} {d:Nat} {vs:aq} {J:az} {H:Tr} {nx:Nat} {R:Rn} {O:Heap} {L:Addr} {m:Str->Option Value} {s:Shared} {A:Around} {E:Value->Shared->Prop} {Q:Value->Shared->Prop} {k:KV}
theorem eI.look{T:List Str}{es:List (Int × GV)}{ds:List (Int × Value)}(h:eI T J es ds){i:Int}(n:oY es i≠.nul):∃v,valueAt ds i=some v/\Is T J (oY es i) v:=by
 induction h with
 | nil=>exact absurd rfl n
 | @cons j g v es ds hv r ih=>
  have e:oY ((j,g)::es) i=@Bool.rec (fun q0=>GV) (oY es i) g (cV j i):=rfl
  rw [e] at n ⊢
  unfold valueAt
  rw [List.find?_cons]
  cases q:cV j i with
  | true=>
   have:j=i:=eq_of_beq (cr q)
   subst this
   simp only [decide_true]
   exact ⟨v,rfl,hv⟩
  | false=>
   have ne:j≠i:=fun z=>by subst z; have:=cr q; simp at this
   rw [q] at n
   simp only [ne,decide_false]
   exact ih n
theorem cF{T:List Str}(hT:T.Nodup){a b:Nat}{t u:Str}(h1:T[a]?=some t)(h2:T[b]?=some u):(t=u↔a=b):=by
 constructor
 ·intro q; subst q
  exact (List.getElem?_inj (aN h1) hT).mp (h1.trans h2.symm)
 ·intro q; subst q; rw [h1] at h2; exact Option.some.inj h2
theorem fU.look{T:List Str}(hT:T.Nodup){es:List (Nat × GV)}{ds:List (Str × Value)}(h:fU T J es ds){i:Nat}{t:Str}(ht:T[i]?=some t)(n:dZ es i≠.nul):∃v,valueAt ds t=some v/\Is T J (dZ es i) v:=by
 induction h with
 | nil=>exact absurd rfl n
 | @cons j y g v es ds hy hv r ih=>
  have e:dZ ((j,g)::es) i=@Bool.rec (fun q0=>GV) (dZ es i) g (Nat.beq j i):=rfl
  rw [e] at n ⊢
  unfold valueAt
  rw [List.find?_cons]
  cases q:Nat.beq j i with
  | true=>
   have:j=i:=Nat.eq_of_beq_eq_true q
   have:y=t:=(cF hT hy ht).mpr this
   subst this
   simp only [decide_true]
   exact ⟨v,rfl,hv⟩
  | false=>
   have ne:y≠t:=fun z=>Nat.ne_of_beq_eq_false q ((cF hT hy ht).mp z)
   rw [q] at n
   simp only [ne,decide_false]
   exact ih n
noncomputable def nO(e:Expr):Bool:=iN e 26
theorem gz{e:Expr}(h:nO e=true)(o i:Value):subscripted e false o i=operate [o,i] (getItem o i):=by
 cases e <;> first | (cases h; done) | rfl
def IF(i:Int)(g:GV)(H:Tr)(k:GV->Bool):Bool:=@GV.rec (fun q0=>Bool) false false (fun q0=>false) (fun q0=>false) (fun q0=>false) (fun l=>@Int.rec (fun q0=>Bool) (fun n=>@Bool.rec (fun q0=>Bool) false (k (Do l n)) (Nat.ble l.length 1000)) (fun q0=>false) i) (fun q0=>false)
 (fun a=>ez (H.get a) (fun l=>k (mJ l i)) (fun l=>k (mJ l i)) (fun l=>k (oY l i)) fun q0=>false) false g
def Lw(t:Nat)(g:GV)(H:Tr)(k:GV->Bool):Bool:=bU g fun a=>ez (H.get a) (fun q0=>false) (fun q0=>false) (fun q0=>false) fun l=>k (dZ l t)
def Kk:sp:=fun g h H nx R k=>@GV.rec (fun q0=>Bool) false false (fun q0=>false) (fun e=>qG e fun i=>IF i g H fun r=>eH r (k r H nx R)) (fun t=>Lw t g H fun r=>eH r (k r H nx R)) (fun q0=>false) (fun q0=>false) (fun q0=>false) false h
theorem BV{i:Int}(h0:0<=i)(h1:i<256):((UInt8.ofNat i.toNat).toNat:Int)=i:=by
 rw [UInt8.toNat_ofNat']
 lia
theorem F8(hT:x.T.Nodup){value slice:Expr}(hp:nO slice=true):wP x d Kk fun o i=>subscriptTail value slice o i:=by
 intro g h H nx R k hh A O L m J s u v Q E Hh S iu iv hQ
 cases h with
 | int e=>
  obtain ⟨i,rfl,hh⟩:=(kL hh)
  obtain ⟨t,rfl,ok⟩:=iv
  cases g with
  | byt l=>
   obtain ⟨tk,rfl,hl⟩:=iu
   cases i with
   | negSucc _=>cases hh
   | ofNat n=>
    obtain ⟨hz,hh⟩:=aJ hh
    obtain ⟨n0,hh⟩:=cQ hh
    obtain ⟨e,e1,e2⟩:=(xx n0)
    obtain ⟨o1,o2,o3⟩:=(hl e (List.mem_of_getElem? e2))
    have lt:=aN e2
    have hz:=Nat.le_of_ble_eq_true hz
    have q:((l.map (GI.ev J.ns)).map fun i=>UInt8.ofNat i.toNat).length=l.length:=by simp
    refine tail_any (typeIs_bytes _ _ _) FB.slot_bytes_getitem.lookup ?_ (gz hp _ _)
    refine getItem_bytes (by rw [q]; lia) (by show (0:Int)<=(n:Int); lia) (by rw [q]; show (n:Int)<_; lia) ?_
    have val:(((l.map (GI.ev J.ns)).map fun i=>UInt8.ofNat i.toNat).getD (Int.toNat (GI.ev J.ns (.lit (.ofNat n)))) 0).toNat=(e.ev J.ns):=by
     show (((l.map (GI.ev J.ns)).map fun i=>UInt8.ofNat i.toNat).getD n 0).toNat=(e.ev J.ns)
     rw [List.getD_eq_getElem?_getD,List.getElem?_map,List.getElem?_map,e2]
     exact BV o2 o3
    rw [val]
    rw [e1] at hh
    exact hQ.now S (.int _ o1) hh _
  | own a=>
   obtain ⟨q0,rfl,ha⟩:=iu
   rcases dJ hh with ⟨l,hl,hh⟩ | ⟨l,hl,hh⟩ | ⟨l,hl,hh⟩ | ⟨l,hl,hh⟩
   ·obtain ⟨o,o1,q0,q0,o2⟩:=(S.led.obj ha)
    rw [hl] at o2
    obtain ⟨q0,n,rfl,hs⟩:=o2
    obtain ⟨n0,hh⟩:=cQ hh
    obtain ⟨j,j1,j2,j3,j4,j5⟩:=(rv n0)
    obtain ⟨v,v1,v2⟩:=(hs.get j1)
    have hl:s.heap.IsList _ _:=⟨_,o1,rfl,n,rfl⟩
    refine tail_any hl.typeIs slot_list_getitem.lookup ?_ (gz hp _ _)
    rcases j5 with ⟨a,b⟩ | ⟨a,b,c⟩
    ·exact wpAny_getItem_list hl a (by show i<_; lia) (by show _[Int.toNat i]?=_; rw [<- b]; simpa using v1) (hQ.here S v2 hh)
    ·refine wpAny_getItem_list_neg hl a ?_ (by show _<=i; lia) ?_ (hQ.here S v2 hh)
     ·rw [List.size_toArray,<- hs.length]; exact b
     ·rw [List.size_toArray,<- hs.length]; show _[Int.toNat (i+_)]?=_; rw [<- c]; simpa using v1
   ·obtain ⟨o,o1,q0,q0,o2⟩:=(S.led.obj ha)
    rw [hl] at o2
    obtain ⟨q0,rfl,hs⟩:=o2
    obtain ⟨n0,hh⟩:=cQ hh
    obtain ⟨j,j1,j2,j3,j4,j5⟩:=(rv n0)
    obtain ⟨v,v1,v2⟩:=(hs.get j1)
    have ht:IsTup s.heap _ _:=⟨_,o1,rfl,_,rfl⟩
    exact item_tupleT ht (by show _<=i; lia) (by show i<_; lia) (by rw [<- hs.length]; exact j2) v1 (hQ.here S v2 hh) (gz hp _ _)
   ·obtain ⟨o,o1,q0,q0,o2⟩:=(S.led.obj ha)
    rw [hl] at o2
    obtain ⟨q0,hd,hs⟩:=o2
    obtain ⟨n0,hh⟩:=cQ hh
    obtain ⟨v,v1,v2⟩:=(hs.look n0)
    have hD:s.heap.DictOf (PySem.intKind x.prog x.w) _ _:=Heap.dictOf_iff.mpr ⟨o,o1,hd⟩
    refine tail_any hD.typeIs slot_dict_getitem.lookup ?_ (gz hp _ _)
    exact wpAny_getItem_of (knd:=PySem.intKind x.prog x.w) (k:=i) (by show (i == i)=true; exact beq_self_eq_true _) hD.mapOf v1 (hQ.now S v2 hh _)
   ·cases hh
  | _=>cases hh
 | str t=>
  obtain ⟨q0,tk,rfl,ht⟩:=iv
  obtain ⟨a,rfl,hh⟩:=bn hh
  obtain ⟨q0,rfl,ha⟩:=iu
  rcases dJ hh with ⟨l,hl,hh⟩ | ⟨l,hl,hh⟩ | ⟨l,hl,hh⟩ | ⟨l,hl,hh⟩
  ·cases hh
  ·cases hh
  ·cases hh
  ·obtain ⟨o,o1,q0,q0,o2⟩:=(S.led.obj ha)
   rw [hl] at o2
   obtain ⟨q0,hd,hs⟩:=o2
   obtain ⟨n0,hh⟩:=cQ hh
   obtain ⟨v,v1,v2⟩:=(hs.look hT ht n0)
   have hD:s.heap.DictOf (PySem.strKind x.prog x.w) _ _:=Heap.dictOf_iff.mpr ⟨o,o1,hd⟩
   refine tail_any hD.typeIs slot_dict_getitem.lookup ?_ (gz hp _ _)
   exact wpAny_getItem_of (knd:=PySem.strKind x.prog x.w) (by show (_ == _)=true; exact beq_self_eq_true _) hD.mapOf v1 (hQ.now S v2 hh _)
 | _=>cases hh
def aP(f g:EV):EV:=fun H nx R loc k=>f H nx R loc fun a H nx R=>g H nx R loc fun b H nx R=>Kk a b H nx R k
theorem GN(hT:x.T.Nodup){f g:EV}{e i:Expr}(hf:aK x d vs f e)(hg:aK x d vs g i)(hp:nO i=true)(pos:Pos):aK x d vs (aP f g) (.Subscript e i pos):=by
 intro H nx R loc k h A env O L m J s Q E Hh En S Lo hQ
 refine Subscript_ (hf H nx R loc _ h A env O L m J s _ E Hh En S Lo fun J' H' nx' R' s' a v le S' ha hk=>?_)
 refine hg H' nx' R' loc _ hk A env O L m J' s' _ E Hh En S' (Lo.more le) fun J'' H'' nx'' R'' s'' b u le' S'' hb hk'=>?_
 exact F8 hT hp a b H'' nx'' R'' k hk' A O L m J'' s'' v u Q E Hh S'' (ha.more le') hb (hQ.le (le.trans le'))
end
end
section
def fL(l:List GV)(k:List GV->Bool):Bool:=@List.rec GV (fun q0=>(List GV->Bool)->Bool) (fun k=>k []) (fun g q0 ih k=>ih fun r=>k (g::r)) l k
theorem mS:∀(l:List GV) (k:List GV->Bool),fL l k=k l
 | [],_=>rfl
 | g::l,k=>mS l fun r=>k (g::r)
def RG(l:List GV):List GV:=@List.rec GV (fun q0=>List GV) [] (fun q0 r q0=>r) l
def nh(n:Nat):List GV->List GV:=@Nat.rec (fun q0=>List GV->List GV) (fun l=>l) (fun q0 ih l=>ih (RG l)) n
theorem kp:∀(n:Nat) (l:List GV),nh n l=l.drop n
 | 0,l=>rfl
 | n+1,[]=>by show nh n []=_; rw [kp n]; simp
 | n+1,_::l=>kp n l
def y8(n:Nat):List GV->List GV:=@Nat.rec (fun q0=>List GV->List GV) (fun q0=>[]) (fun q0 ih l=>@List.rec GV (fun q0=>List GV) [] (fun g r q0=>g::ih r) l) n
theorem t6:∀(n:Nat) (l:List GV),y8 n l=l.take n
 | 0,l=>by show []=_; simp
 | n+1,[]=>rfl
 | n+1,g::l=>by show g::y8 n l=_; rw [t6 n]; rfl
def mA(l r:List GV):List GV:=@List.rec GV (fun q0=>List GV) r (fun g q0 ih=>g::ih) l
theorem iH:∀(l r:List GV),mA l r=l++r
 | [],_=>rfl
 | g::l,r=>congrArg (g::·) (iH l r)
def nN(l:List GV):List GV->List GV:=@List.rec GV (fun q0=>List GV->List GV) (fun a=>a) (fun g q0 ih a=>ih (g::a)) l
theorem wN:∀(l a:List GV),nN l a=l.reverse++a
 | [],_=>rfl
 | g::l,a=>by show nN l (g::a)=_; rw [wN l]; simp
section
variable {x:aR} {d:Nat} {vs:aq} {J:az} {H:Tr} {nx:Nat} {R:Rn} {O:Heap} {L:Addr} {m:Str->Option Value} {s:Shared} {A:Around} {E:Value->Shared->Prop} {Q:Value->Shared->Prop} {k:KV}
def yh(g:GV)(dflt:Nat)(k:Nat->Bool):Bool:=@GV.rec (fun q0=>Bool) false (k dflt) (fun q0=>false) (fun e=>qG e fun i=>@Int.rec (fun q0=>Bool) (fun n=>k n) (fun q0=>false) i) (fun q0=>false) (fun q0=>false) (fun q0=>false) (fun q0=>false) false g
theorem vZ{g:GV}{dflt:Nat}{k:Nat->Bool}(h:yh g dflt k=true):∃(o:Option Int) (n:Nat),k n=true/\((o=none/\n=dflt)∨o=some (n:Int))/\∀(T:List Str) (J:az) v,Is T J g v->IsPart v o:=by
 cases g with
 | none=>exact ⟨none,dflt,h,.inl ⟨rfl,rfl⟩,fun T J v i=>by cases i; exact .none⟩
 | int e=>
  obtain ⟨i,rfl,h⟩:=(kL h)
  cases i with
  | ofNat n=>exact ⟨some n,n,h,.inr rfl,fun T J v i=>by obtain ⟨t,rfl,o⟩:=i; exact .int _ t⟩
  | negSucc n=>cases h
 | _=>cases h
def cut(l:List GV)(a b:Nat):List GV:=y8 (Nat.sub b a) (nh a l)
def HI(g gl gh:GV)(H:Tr)(nx:Nat)(R:Rn)(k:KV):Bool:=bU g fun i=>ez (H.get i)
 (fun l=>yh gl 0 fun a=>yh gh (cH l) fun b=>@Bool.rec (fun q0=>Bool) false (fL (cut l a b) fun r=>mk (.list r) H nx R k) (fj 1000 l))
 (fun q0=>false)
 (fun q0=>false) (fun q0=>false)
theorem Br{α:Type}(l:List α)(a b:Nat):(l.drop (min a l.length)).take (min b l.length - min a l.length)=(l.drop a).take (b - a):=by
 by_cases h:a<=l.length
 ·rw [Nat.min_eq_left h]
  by_cases h2:b<=l.length
  ·rw [Nat.min_eq_left h2]
  ·rw [Nat.min_eq_right (by lia),List.take_of_length_le (by rw [List.length_drop]; lia),List.take_of_length_le (by rw [List.length_drop]; lia)]
 ·rw [show min a l.length=l.length by lia,List.drop_of_length_le (Nat.le_refl _),List.drop_of_length_le (by lia)]; simp
theorem C8{l:List Value}{lo hi:Option Int}{a b:Nat}(ha:(lo=none/\a=0)∨lo=some (a:Int))(hb:(hi=none/\b=l.length)∨hi=some (b:Int)):(slicePick l.toArray lo hi none).toList=(l.drop a).take (b - a):=by
 rw [slicePick_plain]
 have e1:lo.elim 0 (clipAt l.toArray.size)=min a l.length:=by
  rcases ha with ⟨rfl,rfl⟩ | rfl
  ·simp
  ·show clipAt _ _=_; rw [clipAt_nat,List.size_toArray]
 have e2:hi.elim l.toArray.size (clipAt l.toArray.size)=min b l.length:=by
  rcases hb with ⟨rfl,rfl⟩ | rfl
  ·simp
  ·show clipAt _ _=_; rw [clipAt_nat,List.size_toArray]
 rw [e1,e2]
 exact Br l a b
end
end
section
section
variable {x:aR} {d:Nat} {vs:aq} {J:az} {H:Tr} {nx:Nat} {R:Rn} {O:Heap} {L:Addr} {m:Str->Option Value} {s:Shared} {A:Around} {E:Value->Shared->Prop} {Q:Value->Shared->Prop} {k:KV}
theorem be.cut{T:List Str}{gs:List GV}{vs:List Value}(h:be T J gs vs)(a b:Nat):be T J (cut gs a b) ((vs.drop a).take (b - a)):=by
 unfold Internal.N.cut
 rw [t6,kp]
 exact (h.drop a).take _
theorem Dc{o1 o:Obj}{g:GO}(h:mk g H nx R k=true)(S:St x J H nx R O L m s)(hQ:fw x J O L m k Q)(f:o.isFreed=false)(hg:∀J',J.le J'->aL x.T x.CT x.nd (x.prog,x.w) J' g o) :
  Q (.ref (s.heap.push o1).objs.size) { s with heap:=(s.heap.push o1).push o }:=by
 obtain ⟨os,hos,e,N⟩:=S.led.at_
 have N1:=News.push (S.fr.push o1) (N.grown fun q0 q0 e=>Heap.get?_push_of_some _ e) o f
 exact gp h S hQ hos e ((S.fr.push _).push _) N1 (fun p hp=>by rw [Heap.size_push]; exact Nat.lt_succ_of_lt (Heap.lt_size (N p hp).1)) (hg _ (az.le_push _ _)) s.toks
theorem fY{o:Obj}{g:GO}(h:mk g H nx R k=true)(S:St x J H nx R O L m s)(hQ:fw x J O L m k Q)(f:o.isFreed=false)(hg:∀J',J.le J'->aL x.T x.CT x.nd (x.prog,x.w) J' g o)(tk:Nat) :
  Q (.ref s.heap.objs.size) { s with heap:=s.heap.push o,toks:=tk }:=by
 obtain ⟨os,hos,e,N⟩:=S.led.at_
 have N1:=News.push S.fr N o f
 exact gp h S hQ hos e (S.fr.push _) N1 (fun p hp=>Heap.lt_size (N p hp).1) (hg _ (az.le_push _ _)) tk
theorem FM{value:Expr}{lo hi:Option Expr}{p:Pos}{g gl gh:GV}{u vl vu:Value}(h:HI g gl gh H nx R k=true)(S:St x J H nx R O L m s)(iu:Is x.T J g u)(il:Is x.T J gl vl)(ih:Is x.T J gh vu)(hQ:fw x J O L m k Q) :
  wpAny (model x.prog x.w) A (subscriptTail value (.Slice lo hi none p) u (.ref s.heap.objs.size)) Q E { s with heap:=s.heap.push { cls:=.type "slice",data:=.fields #[vl,vu,.none] } }:=by
 symm
 obtain ⟨i,rfl,h⟩:=bn h
 obtain ⟨q0,rfl,ha⟩:=iu
 symm
 rcases dJ h with ⟨l,hl,h⟩ | ⟨l,hl,h⟩ | ⟨l,hl,h⟩ | ⟨l,hl,h⟩
 ·obtain ⟨o,o1,q0,q0,o2⟩:=(S.led.obj ha)
  rw [hl] at o2
  symm
  obtain ⟨us,n,rfl,hs⟩:=o2
  obtain ⟨oa,a,h,ea,pa⟩:=vZ h
  obtain ⟨ob,b,h,eb,pb⟩:=vZ h
  obtain ⟨hz,h⟩:=aJ h
  symm
  rw [mS] at h
  rw [cP,hs.length] at eb
  have hz:=cX hz
  have hl:s.heap.IsList _ us.toArray:=⟨_,o1,rfl,n,rfl⟩
  refine tail_any (ops:=[.ref s.heap.objs.size,_]) (Heap.IsList.typeIs (s:={ s with heap:=s.heap.push { cls:=.type "slice",data:=.fields #[vl,vu,.none] } }) (hl.push _)) list_getitem_lookup
   (wpAny_getItem_list_slice (hl.push _) (Heap.IsSliceOf.new ..) (pa _ _ _ il) (pb _ _ _ ih) .none (by simp) ?_ (by rw [List.size_toArray,<- hs.length]; exact Nat.le_trans hz (by decide))) rfl
  refine Dc h S hQ rfl fun J' le=>?_
  have e:=C8 ea eb
  rw [<- Array.toArray_toList (xs:=slicePick us.toArray oa ob none),e]
  exact .list 0 ((hs.more le).cut a b)
 ·cases h
 ·cases h
 ·cases h
def eJ(x:aR)(d:Nat)(vs:aq)(f:EV)(e:Option Expr):Prop:=
 ∀H nx R loc k,f H nx R loc k=true->∀(A:Around) (env:Env) (O:Heap) (L:Addr) (m:Str->Option Value) (J:az) (s:Shared) (Q E:Value->Shared->Prop),
  ck x d A O L->bN env L->St x J H nx R O L m s->bq x J env L m vs loc->fw x J O L m k Q->wpAny (model x.prog x.w) A (evalPart e env) Q E s
theorem eJ.none:eJ x d vs (bj .none) none:=fun H nx R loc k h A env O L m J s Q E Hh En S Lo hQ=>wpAny_pure (hQ.here S .none h)
theorem eJ.some{f:EV}{e:Expr}(h:aK x d vs f e):eJ x d vs f (some e):=h
def rU(f a b:EV):EV:=fun H nx R loc k=>f H nx R loc fun g H nx R=>a H nx R loc fun gl H nx R=>b H nx R loc fun gh H nx R=>HI g gl gh H nx R k
theorem kO{f a b:EV}{e:Expr}{lo hi:Option Expr}(hf:aK x d vs f e)(ha:eJ x d vs a lo)(hb:eJ x d vs b hi)(p pos:Pos):aK x d vs (rU f a b) (.Subscript e (.Slice lo hi none p) pos):=by
 intro H nx R loc k h A env O L m J s Q E Hh En S Lo hQ
 refine Subscript_ (hf H nx R loc _ h A env O L m J s _ E Hh En S Lo fun J1 H1 nx1 R1 s1 g1 v1 le1 S1 i1 h1=>?_)
 refine wpAny_Slice (ha H1 nx1 R1 loc _ h1 A env O L m J1 s1 _ E Hh En S1 (Lo.more le1) fun J2 H2 nx2 R2 s2 g2 v2 le2 S2 i2 h2=>?_)
 refine hb H2 nx2 R2 loc _ h2 A env O L m J2 s2 _ E Hh En S2 (Lo.more (le1.trans le2)) fun J3 H3 nx3 R3 s3 g3 v3 le3 S3 i3 h3=>?_
 exact wpAny_pure (FM h3 S3 (i1.more (le2.trans le3)) (i2.more le3) i3 (hQ.le (le1.trans (le2.trans le3))))
end
end
section
open PySem.SeqAt (EqAt RcAt)
open PySem.SeqAt hiding EqAt RcAt
section
variable {x:aR} {d:Nat} {vs:aq} {J:az} {H:Tr} {nx:Nat} {R:Rn} {O:Heap} {L:Addr} {m:Str->Option Value} {s:Shared} {A:Around} {E:Value->Shared->Prop} {Q:Value->Shared->Prop} {k:KV}
abbrev EQ:=GV->GV->Tr->Rn->(Bool->Rn->Bool)->Bool
def Ff(f:EQ)(l:List GV):List GV->Tr->Rn->Bool:=@List.rec GV (fun q0=>List GV->Tr->Rn->Bool) (fun q0 q0 q0=>true)
 (fun g q0 ih r H R=>@List.rec GV (fun q0=>Bool) true (fun h r q0=>@Bool.rec (fun q0=>Bool) false (ih r H R) (fR g (fun q0=>fR h fun q0=>true)||f g h H R fun q0 q0=>true)) r) l
def xX(f:EQ)(l:List GV):List GV->Tr->Rn->(Bool->Rn->Bool)->Bool:=@List.rec GV (fun q0=>List GV->Tr->Rn->(Bool->Rn->Bool)->Bool) (fun q0 q0 R k=>k true R)
 (fun g l ih r H R k=>@List.rec GV (fun q0=>Bool) (k true R) (fun h r q0=>f g h H R fun b R=>@Bool.rec (fun q0=>Bool) (@Bool.rec (fun q0=>Bool) false (k false R) (Ff f l r H R)) (ih r H R k) b) r) l
def Fv(f:EQ)(i j:Nat)(H:Tr)(R:Rn)(k:Bool->Rn->Bool):Bool:=ez (H.get i)
 (fun l=>ez (H.get j) (fun r=>@Bool.rec (fun q0=>Bool) (k false R) (xX f l r H R k) (Nat.beq (cH l) (cH r))) (fun q0=>k false R) (fun q0=>false) (fun q0=>false))
 (fun l=>ez (H.get j) (fun q0=>k false R) (fun r=>xX f l r H R fun b R=>k (b&&Nat.beq (cH l) (cH r)) R) (fun q0=>false) (fun q0=>false)) (fun q0=>false) (fun q0=>false)
def No(h:GV)(R:Rn)(k:Bool->Rn->Bool):Bool:=@GV.rec (fun q0=>Bool) false (k true R) (fun q0=>false) (fun q0=>false) (fun q0=>false) (fun q0=>false) (fun q0=>false) (fun q0=>false) false h
def Gd(a:Bool)(h:GV)(R:Rn)(k:Bool->Rn->Bool):Bool:=@GV.rec (fun q0=>Bool) false false (fun b=>k (a == b) R) (fun q0=>false) (fun q0=>false) (fun q0=>false) (fun q0=>false) (fun q0=>false) false h
def GW(a:GI)(h:GV)(R:Rn)(k:Bool->Rn->Bool):Bool:=@GV.rec (fun q0=>Bool) false false (fun q0=>false) (fun b=>UC a b R k) (fun q0=>false) (fun q0=>false) (fun q0=>false) (fun q0=>false) false h
def JU(a:Nat)(h:GV)(R:Rn)(k:Bool->Rn->Bool):Bool:=@GV.rec (fun q0=>Bool) false false (fun q0=>false) (fun q0=>false) (fun b=>k (Nat.beq a b) R) (fun q0=>false) (fun q0=>false) (fun q0=>false) false h
def MM(o:Nat->Nat->Tr->Rn->(Bool->Rn->Bool)->Bool)(i:Nat)(h:GV)(H:Tr)(R:Rn)(k:Bool->Rn->Bool):Bool:=@GV.rec (fun q0=>Bool) false false (fun q0=>false) (fun q0=>false) (fun q0=>false) (fun q0=>false) (fun q0=>false) (fun j=>o i j H R k) false h
def xG(l:List GI):List GI->Bool:=@List.rec GI (fun q0=>List GI->Bool) (fun r=>@List.rec GI (fun q0=>Bool) true (fun q0 q0 q0=>false) r) (fun e q0 ih r=>@List.rec GI (fun q0=>Bool) false (fun f r q0=>GI.beq e f&&ih r) r) l
theorem uB:∀{l r:List GI},xG l r=true->l=r
 | [],[],_=>rfl
 | [],_::_,h=>by cases h
 | _::_,[],h=>by cases h
 | e::l,f::r,h=>by
  obtain ⟨h1,h2⟩:=Bool.and_eq_true_iff.mp h
  rw [GI.beq_eq h1,uB h2]
def NJ(a:List GI)(h:GV)(R:Rn)(k:Bool->Rn->Bool):Bool:=@GV.rec (fun q0=>Bool) false false (fun q0=>false) (fun q0=>false) (fun q0=>false) (fun b=>@Bool.rec (fun q0=>Bool) false (k true R) (xG a b)) (fun q0=>false) (fun q0=>false) false h
theorem pF(b:Array UInt8)(t u:Tok):RcAt A s (.bytes b t) (.bytes b u) true:=fun prog w E Q h=>
 richCompare_gives (typeIs_bytes s b t) (typeIs_bytes s b u) FB.slot_bytes_eq FB.entry_bytes_eq (FB.args_bytes_eq_2 _ _) (gives_bytes_eq b b t u) (by simp [Made.takes]) (by rw [beq_self_eq_true]; exact h)
theorem wc(b:Array UInt8)(t u:Tok):RcNeAt A s (.bytes b t) (.bytes b u) false:=fun prog w E Q h=>
 richCompare_gives (typeIs_bytes s b t) (typeIs_bytes s b u) FB.slot_bytes_ne FB.entry_bytes_ne (FB.args_bytes_ne_2 _ _) (gives_bytes_ne b b t u) (by simp [Made.takes]) (by rw [bne_self_eq_false]; exact h)
theorem yz(b:Array UInt8)(t u:Tok):EqAt A s (.bytes b t) (.bytes b u) true:=by
 cases q:(Value.bytes b t == Value.bytes b u) with
 | true=>rw [eq_of_beq q]; exact .same _
 | false=>
  intro prog w E Q h
  unfold eqBool
  refine wpAny_holding ?_
  refine wpAny_ite_split (fun z=>absurd (q.symm.trans z) Bool.noConfusion) (fun q0=>?_)
  exact wpAny_bind (pF b t u prog w E _ (wpAny_truthy_bool h))
def y4(o:Nat->Nat->Tr->Rn->(Bool->Rn->Bool)->Bool):EQ:=fun g h H R k=>@GV.rec (fun q0=>Bool) false (No h R k) (fun a=>Gd a h R k) (fun a=>GW a h R k) (fun a=>JU a h R k) (fun a=>NJ a h R k) (fun q0=>false) (fun i=>MM o i h H R k) false g
def vF(o:GO)(k:Nat->Bool)(e:Bool):Bool:=@GO.rec (fun q0=>Bool) e (fun q0=>e) (fun q0=>e) (fun q0 q0=>e) (fun q0=>e) e (fun q0=>e) (fun q0=>e) (fun q0=>e) (fun q0=>e) (fun q0 q0=>e) (fun q0 q0=>e) (fun q0 q0=>e) (fun q0=>e) (fun q0=>e) (fun a=>k a) e (fun q0=>e) (fun q0 q0=>e) (fun q0 q0=>e) (fun q0 q0=>e) (fun q0 q0=>e) (fun q0 q0=>e) o
theorem rZ{o:GO}{k:Nat->Bool}{e:Bool}(h:vF o k e=true):(∃a,o=.flat a/\k a=true)∨e=true:=by cases o <;> first | exact .inr h | exact .inl ⟨_,rfl,h⟩
def sU(f:EQ)(i j:Nat)(H:Tr)(R:Rn)(k:Bool->Rn->Bool):Bool:=vF (H.get i) (fun a=>vF (H.get j) (fun b=>@Bool.rec (fun q0=>Bool) false (k true R) (Nat.beq a b)) false) (Fv f i j H R k)
def wB(n:Nat):EQ:=@Nat.rec (fun q0=>EQ) (fun q0 q0 q0 q0 q0=>false) (fun q0 ih=>y4 fun i j H R k=>@Bool.rec (fun q0=>Bool) (sU ih i j H R k) (k true R) (Nat.beq i j)) n
def ED(n:Nat):EQ:=y4 fun i j H R k=>sU (wB n) i j H R k
structure vN (A:Around) (s:Shared) (u v:Value) (b:Bool):Prop where
 eq:RcAt A s u v b
 ne:RcNeAt A s u v (!b)
def oM(x:aR)(n:Nat)(f:EQ):Prop:=∀g h H R k,f g h H R k=true->∀(J:az) (nx:Nat) (O:Heap) (L:Addr) (m:Str->Option Value) (s:Shared) (u v:Value),St x J H nx R O L m s->Is x.T J g u->Is x.T J h v->
 ∃b R',k b R'=true/\dq R' J.ns/\∀A:Around,A.units+n<cLine->EqAt A s u v b
theorem St.lst(S:St x J H nx R O L m s){i:Nat}{a:Addr}{l:List GV}(ha:J.as[i]?=some a)(hl:H.get i=.list l):∃us,s.heap.IsList a (List.toArray us)/\be x.T J l us:=by
 symm
 obtain ⟨o,o1,q0,q0,o2⟩:=(S.led.obj ha)
 rw [hl] at o2
 obtain ⟨q0,n,rfl,hs⟩:=o2
 symm
 exact ⟨_,⟨_,o1,rfl,n,rfl⟩,hs⟩
theorem St.tup(S:St x J H nx R O L m s){i:Nat}{a:Addr}{l:List GV}(ha:J.as[i]?=some a)(hl:H.get i=.tuple l):∃us,s.heap.IsTuple a (List.toArray us)/\be x.T J l us:=by
 symm
 obtain ⟨o,o1,q0,q0,o2⟩:=(S.led.obj ha)
 rw [hl] at o2
 obtain ⟨q0,rfl,hs⟩:=o2
 symm
 exact ⟨_,⟨_,o1,rfl,_,rfl⟩,hs⟩
theorem tK{n:Nat}{f:EQ}(hf:oM x n f):∀(l r:List GV) (H:Tr) (R:Rn),Ff f l r H R=true->∀(us vs:List Value),St x J H nx R O L m s->be x.T J l us->be x.T J r vs->
  ∃e:List Bool,e.length=min us.length vs.length/\∀(j:Nat) (u v:Value) (b:Bool),us[j]?=some u->vs[j]?=some v->e[j]?=some b->∀A:Around,A.units+n<cLine->EqAt A s u v b
 | [],r,H,R,h,us,vs,S,iu,iv=>by
  cases iu
  exact ⟨[],by simp,fun j u v b q=>by simp at q⟩
 | g::l,r,H,R,h,us,vs,S,iu,iv=>by
  obtain ⟨u0,us,rfl,iu0,iur⟩:=fA iu
  cases iv with
  | nil=>exact ⟨[],by simp,fun j u v b q0 q=>by simp at q⟩
  | @cons h0 v0 r vs iv0 ivr=>
   obtain ⟨h1,h2⟩:=aJ h
   have e1:∃b,∀A:Around,A.units+n<cLine->EqAt A s u0 v0 b:=by
    rcases Bool.or_eq_true_iff.mp h1 with q | q
    ·obtain ⟨a,rfl,q2⟩:=dA q
     obtain ⟨c,rfl,q0⟩:=dA q2
     obtain ⟨t,rfl,q0⟩:=iu0
     obtain ⟨t',rfl,q0⟩:=iv0
     exact ⟨_,fun A q0=>.int_int _ _ _ _⟩
    ·obtain ⟨b,q0,q0,q0,e1⟩:=(hf _ _ _ _ _ q _ _ _ _ _ _ _ _ S iu0 iv0)
     exact ⟨b,e1⟩
   obtain ⟨b,e1⟩:=e1
   obtain ⟨e,hl,he⟩:=(tK hf l r H R h2 us vs S iur ivr)
   refine ⟨b::e,by simp [hl],fun j u v c q1 q2 q3 A hA=>?_⟩
   cases j with
   | zero=>simp at q1 q2 q3; subst q1 q2 q3; exact e1 A hA
   | succ j=>simp at q1 q2 q3; exact he j u v c q1 q2 q3 A hA
theorem oq{n:Nat}{f:EQ}(hf:oM x n f):∀(l r:List GV) (H:Tr) (R:Rn) (k:Bool->Rn->Bool),xX f l r H R k=true->∀(us vs:List Value),St x J H nx R O L m s->be x.T J l us->be x.T J r vs->
  ∃(e:List Bool) (R':Rn),k (e.all id) R'=true/\dq R' J.ns/\e.length=min us.length vs.length/\∀(j:Nat) (u v:Value) (b:Bool),us[j]?=some u->vs[j]?=some v->e[j]?=some b->∀A:Around,A.units+n<cLine->EqAt A s u v b
 | [],r,H,R,k,h,us,vs,S,iu,iv=>by
  cases iu
  exact ⟨[],R,h,S.rn,by simp,fun j u v b q=>by simp at q⟩
 | g::l,r,H,R,k,h,us,vs,S,iu,iv=>by
  symm
  obtain ⟨u0,us,rfl,iu0,iur⟩:=fA iu
  symm
  cases iv with
  | nil=>exact ⟨[],R,h,S.rn,by simp,fun j u v b q0 q=>by simp at q⟩
  | @cons h0 v0 r vs iv0 ivr=>
   symm
   obtain ⟨b,R1,h1,rn1,e1⟩:=(hf _ _ _ _ _ h _ _ _ _ _ _ _ _ S iu0 iv0)
   have:∃(e:List Bool) (R':Rn),k ((b::e).all id) R'=true/\dq R' J.ns/\e.length=min us.length vs.length/\∀(j:Nat) (u v:Value) (b:Bool),us[j]?=some u->vs[j]?=some v->e[j]?=some b->∀A:Around,A.units+n<cLine->EqAt A s u v b:=by
    cases b with
    | true=>exact oq hf l r H R1 k h1 us vs (S.rn' rn1) iur ivr
    | false=>
     obtain ⟨h2,h3⟩:=aJ h1
     obtain ⟨e,hl,he⟩:=(tK hf l r H R1 h2 us vs (S.rn' rn1) iur ivr)
     exact ⟨e,R1,h3,rn1,hl,he⟩
   obtain ⟨e,R2,h2,rn2,hl,he⟩:=this
   symm
   refine ⟨b::e,R2,h2,rn2,by simp [hl],fun j u v c q1 q2 q3 A hA=>?_⟩
   cases j with
   | zero=>simp at q1 q2 q3; subst q1 q2 q3; exact e1 A hA
   | succ j=>simp at q1 q2 q3; exact he j u v c q1 q2 q3 A hA
theorem kq(e:List Bool)(n:Nat)(h:e.length=n):((List.range n).all fun j=>(e[j]?).getD true)=e.all id:=by
 subst h
 rw [Bool.eq_iff_iff,List.all_eq_true,List.all_eq_true]
 constructor
 ·intro q b hb
  obtain ⟨j,hj⟩:=(List.mem_iff_getElem?.mp hb)
  have:=q j (List.mem_range.mpr (aN hj))
  rw [hj] at this; exact this
 ·intro q j hj
  have lt:=List.mem_range.mp hj
  rw [List.getElem?_eq_getElem lt]
  exact q _ (List.getElem_mem lt)
theorem Cb{n:Nat}{f:EQ}(hf:oM x n f){i j:Nat}{k:Bool->Rn->Bool}(h:Fv f i j H R k=true){a c:Addr}(S:St x J H nx R O L m s)(ha:J.as[i]?=some a)(hc:J.as[j]?=some c) :
  ∃b R',k b R'=true/\dq R' J.ns/\∀A:Around,A.units+(n+1)<cLine->vN A s (.ref a) (.ref c) b:=by
 have un:∀A:Around,A.units+(n+1)<cLine->A.units<cLine/\A.in1.units+n<cLine:=fun A q=>⟨by lia,by show A.units+1+n<cLine; lia⟩
 rcases dJ h with ⟨l,hl,h⟩ | ⟨l,hl,h⟩ | ⟨l,hl,h⟩ | ⟨l,hl,h⟩
 ·obtain ⟨us,lu,iu⟩:=(S.lst ha hl)
  rcases dJ h with ⟨r,hr,h⟩ | ⟨r,hr,h⟩ | ⟨r,hr,h⟩ | ⟨r,hr,h⟩
  ·obtain ⟨ws,lw,iw⟩:=(S.lst hc hr)
   cases q:Nat.beq (cH l) (cH r) with
   | false=>
    rw [q] at h
    have ne:us.toArray.size≠ws.toArray.size:=by
     have:=Nat.ne_of_beq_eq_false q
     rw [cP,cP,iu.length,iw.length] at this
     simpa using this
    exact ⟨false,R,h,S.rn,fun A hA=>⟨RcAt.lists_lengths lu lw (bne_iff_ne.mpr ne) (un A hA).1,RcNeAt.lists_lengths lu lw (bne_iff_ne.mpr ne) (un A hA).1⟩⟩
   | true=>
    rw [q] at h
    have eq:us.length=ws.length:=by
     have:=Nat.eq_of_beq_eq_true q
     rw [cP,cP,iu.length,iw.length] at this
     exact this
    obtain ⟨e,R',h,rn,hl,he⟩:=(oq hf l r H R k h us ws S iu iw)
    have ee:e.length=us.toArray.size:=by rw [hl,List.size_toArray]; lia
    have z:∀A:Around,A.units+(n+1)<cLine->∀j (h1:j<us.toArray.size) (h2:j<ws.toArray.size),EqAt A.in1 s us.toArray[j] ws.toArray[j] ((e[j]?).getD true):=fun A hA j h1 h2=>by
     have lt:j<e.length:=by rw [ee]; exact h1
     rw [List.getElem?_eq_getElem lt]
     exact he j _ _ _ (by simp at h1 ⊢) (by simp at h2 ⊢) (List.getElem?_eq_getElem lt) A.in1 (un A hA).2
    refine ⟨_,R',h,rn,fun A hA=>⟨?_,?_⟩⟩
    ·rw [<- kq e _ ee]; exact RcAt.lists lu lw (by simpa using eq) (un A hA).1 (z A hA)
    ·rw [<- kq e _ ee]; exact RcNeAt.lists lu lw (by simpa using eq) (un A hA).1 (z A hA)
  ·obtain ⟨ws,lw,iw⟩:=(S.tup hc hr)
   exact ⟨false,R,h,S.rn,fun A hA=>⟨RcAt.list_tuple lu lw (un A hA).1,RcNeAt.list_tuple lu lw (un A hA).1⟩⟩
  ·cases h
  ·cases h
 ·obtain ⟨us,lu,iu⟩:=(S.tup ha hl)
  rcases dJ h with ⟨r,hr,h⟩ | ⟨r,hr,h⟩ | ⟨r,hr,h⟩ | ⟨r,hr,h⟩
  ·obtain ⟨ws,lw,iw⟩:=(S.lst hc hr)
   exact ⟨false,R,h,S.rn,fun A hA=>⟨RcAt.tuple_list lu lw (un A hA).1,RcNeAt.tuple_list lu lw (un A hA).1⟩⟩
  ·obtain ⟨ws,lw,iw⟩:=(S.tup hc hr)
   obtain ⟨e,R',h,rn,hl,he⟩:=(oq hf l r H R _ h us ws S iu iw)
   have ee:e.length=min us.toArray.size ws.toArray.size:=by rw [hl,List.size_toArray,List.size_toArray]
   have z:∀A:Around,A.units+(n+1)<cLine->∀j (h1:j<us.toArray.size) (h2:j<ws.toArray.size),EqAt A.in1 s us.toArray[j] ws.toArray[j] ((e[j]?).getD true):=fun A hA j h1 h2=>by
    have lt:j<e.length:=by rw [ee]; lia
    rw [List.getElem?_eq_getElem lt]
    exact he j _ _ _ (by simp at h1 ⊢) (by simp at h2 ⊢) (List.getElem?_eq_getElem lt) A.in1 (un A hA).2
   have eb:Nat.beq (cH l) (cH r)=(us.toArray.size == ws.toArray.size):=by
    rw [cP,cP,iu.length,iw.length,Bool.eq_iff_iff,Nat.beq_eq,beq_iff_eq]; simp
   rw [eb] at h
   refine ⟨_,R',h,rn,fun A hA=>⟨?_,?_⟩⟩
   ·rw [<- kq e _ ee]; exact RcAt.tuples lu lw (un A hA).1 (z A hA)
   ·rw [<- kq e _ ee]; exact RcNeAt.tuples lu lw (un A hA).1 (z A hA)
  ·cases h
  ·cases h
 ·cases h
 ·cases h
theorem Kx{T:List Str}{d:nI}{u v:Value}{A:Around}(h:kD T d u)(h2:kD T d v):EqAt A s u v true:=by
 cases h with
 | none=>cases h2; exact .same _
 | bool b=>cases h2; exact .same _
 | int i t=>cases h2 with | int _ t2=>have q:EqAt A s (.int i t) (.int i t2) (i == i):=.int_int _ _ _ _; rwa [beq_self_eq_true] at q
 | @str i y t hy=>cases h2 with | @str _ z t2 hz=>rw [hy] at hz; cases hz; have q:EqAt A s (.str y t) (.str y t2) (y == y):=.str_str _ _ _ _; rwa [beq_self_eq_true] at q
theorem GM{T:List Str}{A:Around}{ds:List nI}{us:List Value}(h:iW T ds us):∀{vs:List Value},iW T ds vs->us.length=vs.length/\∀(j:Nat) (u v:Value),us[j]?=some u->vs[j]?=some v->EqAt A s u v true:=by
 induction h with
 | nil=>intro vs k; cases k with | nil=>exact ⟨rfl,fun j u v h=>by simp at h⟩
 | cons a _ ih=>
  intro vs k
  cases k with
  | cons b q=>
  obtain ⟨l,e⟩:=(ih q)
  refine ⟨congrArg (·+ 1) l,fun j u v h1 h2=>?_⟩
  cases j with
  | zero=>cases h1; cases h2; exact Kx a b
  | succ j=>exact e j u v h1 h2
theorem uJ{n:Nat}{f:EQ}(hf:oM x n f){i j:Nat}{k:Bool->Rn->Bool}(h:sU f i j H R k=true){a c:Addr}(S:St x J H nx R O L m s)(ha:J.as[i]?=some a)(hc:J.as[j]?=some c) :
  ∃b R',k b R'=true/\dq R' J.ns/\∀A:Around,A.units+(n+1)<cLine->vN A s (.ref a) (.ref c) b:=by
 rcases rZ h with ⟨p,hp,h⟩ | h
 ·rcases rZ h with ⟨q,hq,h⟩ | h
  ·obtain ⟨e1,hk⟩:=aJ h
   symm
   have e2:=Nat.eq_of_beq_eq_true e1
   subst e2
   obtain ⟨o,o1,q0,q0,o2⟩:=(S.led.obj ha)
   obtain ⟨o',o1',q0,q0,o2'⟩:=(S.led.obj hc)
   symm
   rw [hp] at o2
   rw [hq] at o2'
   symm
   obtain ⟨us,rfl,iu⟩:=o2
   obtain ⟨ws,rfl,iw⟩:=o2'
   symm
   have lu:s.heap.IsTuple a us.toArray:=⟨_,o1,rfl,_,rfl⟩
   have lw:s.heap.IsTuple c ws.toArray:=⟨_,o1',rfl,_,rfl⟩
   refine ⟨true,R,hk,S.rn,fun A hA=>?_⟩
   obtain ⟨l,ee⟩:=(GM (A:=A.in1) (s:=s) iu iw)
   have z:∀j (h1:j<us.toArray.size) (h2:j<ws.toArray.size),EqAt A.in1 s us.toArray[j] ws.toArray[j] true:=fun j h1 h2=>ee j _ _ (by simp at h1 ⊢) (by simp at h2 ⊢)
   have b1:(((List.range (min us.toArray.size ws.toArray.size)).all fun q0=>true)&&(us.toArray.size == ws.toArray.size))=true:=by
    rw [Bool.and_eq_true]
    exact ⟨by simp,by simp [l]⟩
   have r1:=RcAt.tuples (e:=fun q0=>true) lu lw (by lia) z
   have r2:=RcNeAt.tuples (e:=fun q0=>true) lu lw (by lia) z
   rw [b1] at r1 r2
   exact ⟨r1,r2⟩
  ·cases h
 ·exact Cb hf h S ha hc
def R0(x:aR)(n:Nat)(o:Nat->Nat->Tr->Rn->(Bool->Rn->Bool)->Bool)(P:Around->Shared->Value->Value->Bool->Prop):Prop:=
 ∀i j H R k,o i j H R k=true->∀(J:az) (nx:Nat) (O:Heap) (L:Addr) (m:Str->Option Value) (s:Shared) (a c:Addr),St x J H nx R O L m s->J.as[i]?=some a->J.as[j]?=some c->
  ∃b R',k b R'=true/\dq R' J.ns/\∀A:Around,A.units+n<cLine->P A s (.ref a) (.ref c) b
theorem vb(hT:x.T.Nodup){n:Nat}{o:Nat->Nat->Tr->Rn->(Bool->Rn->Bool)->Bool}{P:Around->Shared->Value->Value->Bool->Prop}(ho:R0 x n o P)(hP:∀A s u v b,EqAt A s u v b->vN A s u v b->P A s u v b)
  {g h:GV} {k:Bool->Rn->Bool} (e:y4 o g h H R k=true) {u v:Value} (S:St x J H nx R O L m s) (iu:Is x.T J g u) (iv:Is x.T J h v) :
  ∃b R',k b R'=true/\dq R' J.ns/\∀A:Around,A.units+n<cLine->P A s u v b:=by
 cases g with
 | none=>
  obtain rfl:_=_:=iu.inv
  cases h with
  | none=>
   obtain rfl:_=_:=iv.inv
   exact ⟨true,R,e,S.rn,fun A hA=>hP _ _ _ _ _ (.same _) ⟨.none_none,.none_none⟩⟩
  | _=>exact nope e
 | bool a=>
  obtain rfl:_=_:=iu.inv
  cases h with
  | bool b=>
   obtain rfl:_=_:=iv.inv
   exact ⟨_,R,e,S.rn,fun A hA=>hP _ _ _ _ _ (.bool_bool _ _) ⟨.bool_bool _ _,.bool_bool _ _⟩⟩
  | _=>exact nope e
 | int a=>
  obtain ⟨t,rfl,ok⟩:=iu
  cases h with
  | int b=>
   obtain ⟨t2,rfl,zU⟩:=iv
   obtain ⟨c,R',e,q,rn⟩:=(Oa S.rn e)
   subst q
   exact ⟨_,R',e,rn,fun A hA=>hP _ _ _ _ _ (.int_int _ _ _ _) ⟨.int_int _ _ _ _,.int_int _ _ _ _⟩⟩
  | _=>exact nope e
 | str a=>
  obtain ⟨z,t,rfl,ht⟩:=iu
  cases h with
  | str b=>
   obtain ⟨y,t2,rfl,hu⟩:=iv
   have q:Nat.beq a b=(z == y):=by
    clear e hP S
    rw [Bool.eq_iff_iff,Nat.beq_eq,beq_iff_eq]; exact (cF hT ht hu).symm
   have e:k (Nat.beq a b) R=true:=e
   rw [q] at e
   exact ⟨_,R,e,S.rn,fun A hA=>hP _ _ _ _ _ (.str_str _ _ _ _) ⟨.str_str _ _ _ _,.str_str _ _ _ _⟩⟩
  | _=>exact nope e
 | byt a=>
  obtain ⟨t,rfl,q1⟩:=iu
  cases h with
  | byt b=>
   obtain ⟨t2,rfl,q2⟩:=iv
   obtain ⟨e1,e2⟩:=(aJ (show @Bool.rec (fun q0=>Bool) false (k true R) (xG a b)=true from e))
   have:=uB e1
   subst this
   exact ⟨true,R,e2,S.rn,fun A hA=>hP _ _ _ _ _ (yz _ _ _) ⟨pF _ _ _,wc _ _ _⟩⟩
  | _=>exact nope e
 | own i=>
  obtain ⟨q0,rfl,ha⟩:=iu
  cases h with
  | own j=>
   obtain ⟨q0,rfl,hc⟩:=iv
   exact ho _ _ _ _ _ e _ _ _ _ _ _ _ _ S ha hc
  | _=>exact nope e
 | _=>exact nope e
theorem mo(hT:x.T.Nodup):∀n,oM x n (wB n)
 | 0=>fun q0 q0 q0 q0 q0 h=>by cases h
 | n+1=>fun g h H R k e J nx O L m s u v S iu iv=>by
  refine vb (P:=EqAt) hT (o:=fun i j H R k=>@Bool.rec (fun q0=>Bool) (sU (wB n) i j H R k) (k true R) (Nat.beq i j)) ?_ (fun q0 q0 q0 q0 q0 q q0=>q) e S iu iv
  intro i j H R k e J nx O L m s a c S ha hc
  cases q:Nat.beq i j with
  | true=>
   dsimp only at e
   rw [q] at e
   have:=Nat.eq_of_beq_eq_true q
   subst this
   rw [ha] at hc; cases hc
   exact ⟨true,R,e,S.rn,fun A hA=>.same _⟩
  | false=>
   dsimp only at e
   rw [q] at e
   obtain ⟨b,R',h1,h2,h3⟩:=(uJ (mo hT n) e S ha hc)
   refine ⟨b,R',h1,h2,fun A hA=>.of_refs (fun z=>?_) (h3 A hA).eq⟩
   subst z
   exact Nat.ne_of_beq_eq_false q ((List.getElem?_inj (aN ha) S.led.nod).mp (ha.trans hc.symm))
theorem Az(hT:x.T.Nodup){n:Nat}{g h:GV}{k:Bool->Rn->Bool}(e:ED n g h H R k=true){u v:Value}(S:St x J H nx R O L m s)(iu:Is x.T J g u)(iv:Is x.T J h v) :
  ∃b R',k b R'=true/\dq R' J.ns/\∀A:Around,A.units+(n+1)<cLine->vN A s u v b:=
 vb (P:=vN) hT (fun i j H R k e J nx O L m s a c S ha hc=>uJ (mo hT n) e S ha hc) (fun q0 q0 q0 q0 q0 q0 q=>q) e S iu iv
end
end
section
open PySem.SeqAt (EqAt RcAt)
section
variable {x:aR} {d:Nat} {vs:aq} {J:az} {H:Tr} {nx:Nat} {R:Rn} {O:Heap} {L:Addr} {m:Str->Option Value} {s:Shared} {A:Around} {E:Value->Shared->Prop} {Q:Value->Shared->Prop} {k:KV}
def fT(x:aR)(d:Nat)(op:CmpOp)(f:EQ):Prop:=∀g h H R k,f g h H R k=true->∀(A:Around) (J:az) (nx:Nat) (O:Heap) (L:Addr) (m:Str->Option Value) (s:Shared) (u v:Value) (Q E:Value->Shared->Prop),
 ck x d A O L->St x J H nx R O L m s->Is x.T J g u->Is x.T J h v->(∀b R',k b R'=true->dq R' J.ns->Q (.bool b) s)->wpAny (model x.prog x.w) A (compareOp op u v) Q E s
def UQ(n:Nat):EQ:=fun g h H R k=>ED n g h H R fun b R=>k (@Bool.rec (fun q0=>Bool) true false b) R
theorem Nt(hT:x.T.Nodup):fT x d .Eq (ED 8):=by
 intro g h H R k e A J nx O L m s u v Q E Hh S iu iv hQ
 obtain ⟨b,R',h1,h2,h3⟩:=(Az hT e S iu iv)
 exact (h3 A (by have:=Hh.units; lia)).eq x.prog x.w E Q (hQ b R' h1 h2)
theorem Je(hT:x.T.Nodup):fT x d .NotEq (UQ 8):=by
 intro g h H R k e A J nx O L m s u v Q E Hh S iu iv hQ
 obtain ⟨b,R',h1,h2,h3⟩:=(Az hT e S iu iv)
 exact (h3 A (by have:=Hh.units; lia)).ne x.prog x.w E Q (by
  have q:=hQ _ R' h1 h2
  cases b <;> exact q)
def iM(o:Option Bool)(k:Bool->Bool):Bool:=@Option.rec Bool (fun q0=>Bool) (k true&&k false) (fun b=>k b) o
theorem DA{o:Option Bool}{k:Bool->Bool}(h:iM o k=true):(∃b,o=some b/\k b=true)∨(k true=true/\k false=true):=by cases o <;> first | exact .inl ⟨_,rfl,h⟩ | exact .inr (Bool.and_eq_true_iff.mp h)
def Ei(a b:GI)(R:Rn)(k:Bool->Bool):Bool:=@GI.rec (fun q0=>Bool) (fun i=>@GI.rec (fun q0=>Bool) (fun j=>k (kX i j)) (fun q0=>iM (mF R.bnd a b) k) (fun q0 q0 q0 q0=>iM (mF R.bnd a b) k) (fun q0 q0 q0 q0=>iM (mF R.bnd a b) k) (fun q0 q0 q0 q0=>iM (mF R.bnd a b) k) b)
 (fun q0=>iM (mF R.bnd a b) k) (fun q0 q0 q0 q0=>iM (mF R.bnd a b) k) (fun q0 q0 q0 q0=>iM (mF R.bnd a b) k) (fun q0 q0 q0 q0=>iM (mF R.bnd a b) k) a
theorem t5{a b:GI}{ns:List Int}(rn:dq R ns){k:Bool->Bool}(h:Ei a b R k=true):∃c,decide (a.ev ns<b.ev ns)=c/\k c=true:=by
 have sym:iM (mF R.bnd a b) k=true->∃c,decide (a.ev ns<b.ev ns)=c/\k c=true:=fun h=>by
  rcases DA h with ⟨c,h1,h2⟩ | ⟨h1,h2⟩
  ·exact ⟨c,KP rn.bnd h1,h2⟩
  ·cases q:decide (a.ev ns<b.ev ns) with
   | true=>exact ⟨true,rfl,h1⟩
   | false=>exact ⟨false,rfl,h2⟩
 cases a with
 | lit i=>
  cases b with
  | lit j=>exact ⟨_,jS rfl,h⟩
  | _=>exact sym h
 | _=>exact sym h
def xr:EQ:=fun g h H R k=>fR g fun a=>fR h fun b=>Ei a b R fun c=>k c R
def Bn:EQ:=fun g h H R k=>fR g fun a=>fR h fun b=>Ei b a R fun c=>k c R
def Uw:EQ:=fun g h H R k=>fR g fun a=>fR h fun b=>Ei b a R fun c=>k (@Bool.rec (fun q0=>Bool) true false c) R
theorem vC(c:Bool):@Bool.rec (fun q0=>Bool) true false c = !c:=by cases c <;> rfl
theorem mO:fT x d .Lt xr:=by
 intro g h H R k e A J nx O L m s u v Q E Hh S iu iv hQ
 symm
 obtain ⟨a,rfl,e1⟩:=dA e
 obtain ⟨b,rfl,e2⟩:=dA e1
 obtain ⟨c,q,e⟩:=(t5 S.rn e2)
 obtain ⟨t,rfl,o1⟩:=iu
 obtain ⟨t2,rfl,o2⟩:=iv
 symm
 exact P.lt_int (by rw [q]; exact hQ c R e S.rn)
theorem pH:fT x d .Gt Bn:=by
 intro g h H R k e A J nx O L m s u v Q E Hh S iu iv hQ
 symm
 obtain ⟨a,rfl,e1⟩:=dA e
 obtain ⟨b,rfl,e2⟩:=dA e1
 obtain ⟨c,q,e⟩:=(t5 S.rn e2)
 obtain ⟨t,rfl,o1⟩:=iu
 obtain ⟨t2,rfl,o2⟩:=iv
 symm
 exact P.gt_int (by show Q (.bool (decide (b.ev J.ns<a.ev J.ns))) s; rw [q]; exact hQ c R e S.rn)
theorem Nj(i j:Int):decide (i<=j) = !decide (j<i):=by
 rw [Bool.eq_iff_iff]; simp
theorem OG:fT x d .LtE Uw:=by
 intro g h H R k e A J nx O L m s u v Q E Hh S iu iv hQ
 symm
 obtain ⟨a,rfl,e1⟩:=dA e
 obtain ⟨b,rfl,e2⟩:=dA e1
 obtain ⟨c,q,e⟩:=(t5 S.rn e2)
 rw [vC] at e
 obtain ⟨t,rfl,o1⟩:=iu
 obtain ⟨t2,rfl,o2⟩:=iv
 symm
 exact P.le_int (by rw [Nj,q]; exact hQ _ R e S.rn)
def lH(h:GV)(b:Bool):Bool:=@GV.rec (fun q0=>Bool) false b (fun q0=>false) (fun q0=>false) (fun q0=>false) (fun q0=>false) (fun q0=>false) (fun q0=>false) false h
theorem lI{h:GV}{b:Bool}(e:lH h b=true):h=.none/\b=true:=by cases h <;> first | cases e; done | exact ⟨rfl,e⟩
def Oz(g:GV)(k:Bool->Bool):Bool:=@GV.rec (fun q0=>Bool) false (k true) (fun q0=>k false) (fun q0=>k false) (fun q0=>k false) (fun q0=>k false) (fun q0=>false) (fun q0=>k false) false g
theorem Bm{g:GV}{k:Bool->Bool}(h:Oz g k=true):∃b,k b=true/\∀(T:List Str) (J:az) v,Is T J g v->(b=true/\v=.none)∨(b=false/\v≠.none):=by
 cases g with
 | nul=>cases h
 | none=>exact ⟨true,h,fun T J v i=>by cases i; exact .inl ⟨rfl,rfl⟩⟩
 | old v=>cases h
 | unk=>cases h
 | bool b=>exact ⟨false,h,fun T J v i=>by cases i; exact .inr ⟨rfl,by intro e; cases e⟩⟩
 | str e=>exact ⟨false,h,fun T J v i=>by obtain ⟨q0,q0,rfl,q0⟩:=i; exact .inr ⟨rfl,by intro e; cases e⟩⟩
 | _=>exact ⟨false,h,fun T J v i=>by obtain ⟨q0,rfl,q0⟩:=i; exact .inr ⟨rfl,by intro e; cases e⟩⟩
def jL:EQ:=fun g h H R k=>lH h (Oz g fun b=>k b R)
def qg:EQ:=fun g h H R k=>lH h (Oz g fun b=>k (@Bool.rec (fun q0=>Bool) true false b) R)
theorem eD:fT x d .Is jL:=by
 intro g h H R k e A J nx O L m s u v Q E Hh S iu iv hQ
 obtain ⟨rfl,e1⟩:=lI e
 obtain ⟨b,e,q⟩:=(Bm e1)
 cases iv
 rcases q _ _ _ iu with ⟨rfl,rfl⟩ | ⟨rfl,n⟩
 ·exact wpAny_is_self rfl (hQ _ R e S.rn)
 ·exact is_none_ne n (hQ _ R e S.rn)
theorem kM:fT x d .IsNot qg:=by
 intro g h H R k e A J nx O L m s u v Q E Hh S iu iv hQ
 obtain ⟨rfl,e1⟩:=lI e
 obtain ⟨b,e,q⟩:=(Bm e1)
 cases iv
 rcases q _ _ _ iu with ⟨rfl,rfl⟩ | ⟨rfl,n⟩
 ·exact wpAny_isNot_self rfl (hQ _ R e S.rn)
 ·exact isnot_none_ne n (hQ _ R e S.rn)
def yx(f:EQ)(l:List GV):GV->Tr->Rn->(Bool->Rn->Bool)->Bool:=@List.rec GV (fun q0=>GV->Tr->Rn->(Bool->Rn->Bool)->Bool) (fun q0 q0 R k=>k false R) (fun g q0 ih h H R k=>f g h H R fun b R=>ih h H R fun c R=>k (b||c) R) l
theorem oo{n:Nat}{f:EQ}(hf:oM x n f):∀(l:List GV) (h:GV) (H:Tr) (R:Rn) (k:Bool->Rn->Bool),yx f l h H R k=true->∀(us:List Value) (v:Value),St x J H nx R O L m s->be x.T J l us->Is x.T J h v->
  ∃(e:List Bool) (R':Rn),k (e.any id) R'=true/\dq R' J.ns/\e.length=us.length/\∀(j:Nat) (u:Value) (b:Bool),us[j]?=some u->e[j]?=some b->∀A:Around,A.units+n<cLine->EqAt A s u v b
 | [],h,H,R,k,hh,us,v,S,iu,iv=>by
  cases iu
  exact ⟨[],R,hh,S.rn,rfl,fun j u b q=>by simp at q⟩
 | g::l,h,H,R,k,hh,us,v,S,iu,iv=>by
  obtain ⟨u0,us,rfl,iu0,iur⟩:=fA iu
  obtain ⟨b,R1,h1,rn1,e1⟩:=(hf _ _ _ _ _ hh _ _ _ _ _ _ _ _ S iu0 iv)
  obtain ⟨e,R2,h2,rn2,hl,he⟩:=(oo hf l h H R1 _ h1 us v (S.rn' rn1) iur iv)
  refine ⟨b::e,R2,h2,rn2,by simp [hl],fun j u c q1 q2 A hA=>?_⟩
  cases j with
  | zero=>simp at q1 q2; subst q1 q2; exact e1 A hA
  | succ j=>simp at q1 q2; exact he j u c q1 q2 A hA
open Classical in
theorem pe(us:List Value)(e:List Bool)(hl:e.length=us.length){P:Value->Bool->Prop}(h:∀(j:Nat) (u:Value) (b:Bool),us[j]?=some u->e[j]?=some b->P u b) :
  ∃f:Value->Bool,us.any f=e.any id/\∀y∈us,P y (f y):=by
 refine ⟨fun y=>decide (∃j:Nat,us[j]?=some y/\e[j]?=some true),?_,fun y hy=>?_⟩
 ·rw [Bool.eq_iff_iff,List.any_eq_true,List.any_eq_true]
  constructor
  ·rintro ⟨y,_,q⟩
   obtain ⟨j,q0,q⟩:=(of_decide_eq_true q)
   exact ⟨true,List.mem_of_getElem? q,rfl⟩
  ·rintro ⟨b,hb,q⟩
   have q:b=true:=q
   subst q
   obtain ⟨j,hj⟩:=(List.mem_iff_getElem?.mp hb)
   have lt:j<us.length:=hl▸aN hj
   exact ⟨us[j],List.getElem_mem lt,decide_eq_true ⟨j,List.getElem?_eq_getElem lt,hj⟩⟩
 ·dsimp only
  by_cases q:∃j:Nat,us[j]?=some y/\e[j]?=some true
  ·obtain ⟨j,q1,q2⟩:=q
   rw [decide_eq_true (p:=∃j:Nat,us[j]?=some y/\e[j]?=some true) ⟨j,q1,q2⟩]
   exact h j y true q1 q2
  ·rw [decide_eq_false q]
   obtain ⟨j,hj⟩:=(List.mem_iff_getElem?.mp hy)
   have lt:j<e.length:=hl▸aN hj
   cases r:e[j] with
   | true=>exact absurd ⟨j,hj,by rw [List.getElem?_eq_getElem lt,r]⟩ q
   | false=>exact h j y false hj (by rw [List.getElem?_eq_getElem lt,r])
def pX:EQ:=fun g h H R k=>bU h fun i=>ez (H.get i) (fun l=>yx (wB 8) l g H R k) (fun l=>yx (wB 8) l g H R k) (fun q0=>false) (fun q0=>false)
def x8:EQ:=fun g h H R k=>pX g h H R fun b R=>k (@Bool.rec (fun q0=>Bool) true false b) R
theorem tM(hT:x.T.Nodup){g h:GV}{k:Bool->Rn->Bool}(e:pX g h H R k=true){u v:Value}(Hh:ck x d A O L)(S:St x J H nx R O L m s)(iu:Is x.T J g u)(iv:Is x.T J h v) :
  ∃(b:Bool) (R':Rn),k b R'=true/\dq R' J.ns/\(∀(Q:Value->Shared->Prop),Q (.bool b) s->wpAny (model x.prog x.w) A (compareOp .In u v) Q E s)/\(∀(Q:Value->Shared->Prop),Q (.bool (!b)) s->wpAny (model x.prog x.w) A (compareOp .NotIn u v) Q E s):=by
 obtain ⟨i,rfl,e1⟩:=bn e
 obtain ⟨q0,rfl,ha⟩:=iv
 rcases dJ e1 with ⟨l,hl,e⟩ | ⟨l,hl,e⟩ | ⟨l,hl,e⟩ | ⟨l,hl,e⟩
 ·obtain ⟨us,lu,hu⟩:=(S.lst ha hl)
  obtain ⟨es,R',e,rn,len,he⟩:=(oo (mo hT 8) l g H R k e us u S hu iu)
  obtain ⟨f,f1,f2⟩:=(pe us es len (P:=fun y b=>EqAt A.in1 s y u b) fun j y b q1 q2=>he j y b q1 q2 A.in1 (by have:=Hh.units; show A.units+1+8<_; lia))
  refine ⟨_,R',e,rn,fun Q hQ=>PySem.SeqAt.in_listAt f lu (fun y hy=>f2 y (by simpa using hy)) ?_,fun Q hQ=>PySem.SeqAt.notIn_listAt f lu (fun y hy=>f2 y (by simpa using hy)) ?_⟩
  ·rw [List.any_toArray,f1]; exact hQ
  ·rw [List.any_toArray,f1]; exact hQ
 ·obtain ⟨us,lu,hu⟩:=(S.tup ha hl)
  obtain ⟨es,R',e,rn,len,he⟩:=(oo (mo hT 8) l g H R k e us u S hu iu)
  obtain ⟨f,f1,f2⟩:=(pe us es len (P:=fun y b=>EqAt A.in1 s y u b) fun j y b q1 q2=>he j y b q1 q2 A.in1 (by have:=Hh.units; show A.units+1+8<_; lia))
  refine ⟨_,R',e,rn,fun Q hQ=>PySem.SeqAt.in_tupleAt f lu (fun y hy=>f2 y (by simpa using hy)) ?_,fun Q hQ=>PySem.SeqAt.notIn_tupleAt f lu (fun y hy=>f2 y (by simpa using hy)) ?_⟩
  ·rw [List.any_toArray,f1]; exact hQ
  ·rw [List.any_toArray,f1]; exact hQ
 ·cases e
 ·cases e
theorem lj(hT:x.T.Nodup):fT x d .In pX:=by
 intro g h H R k e A J nx O L m s u v Q E Hh S iu iv hQ
 obtain ⟨b,R',e,rn,q,q0⟩:=(tM (E:=E) hT e Hh S iu iv)
 exact q Q (hQ b R' e rn)
theorem qv(hT:x.T.Nodup):fT x d .NotIn x8:=by
 intro g h H R k e A J nx O L m s u v Q E Hh S iu iv hQ
 obtain ⟨b,R',e,rn,q0,q⟩:=(tM (E:=E) hT e Hh S iu iv)
 rw [vC] at e
 exact q Q (hQ _ R' e rn)
noncomputable def gJ(c:EQ)(f g:EV):EV:=fun H nx R loc k=>f H nx R loc fun a H nx R=>g H nx R loc fun b H nx R=>c a b H R fun r R=>k (.bool r) H nx R
noncomputable def aY(c:EQ)(f g:EV):TV:=fun H nx R loc k=>f H nx R loc fun a H nx R=>g H nx R loc fun b H nx R=>c a b H R fun r R=>k r H nx R
theorem dP{op:CmpOp}{c:EQ}(hc:fT x d op c){f g:EV}{e i:Expr}(hf:aK x d vs f e)(hg:aK x d vs g i)(hm:behindInMarks op i=false)(pos:Pos):aK x d vs (gJ c f g) (.Compare e [op] [i] pos):=by
 intro H nx R loc k h A env O L m J s Q E Hh En S Lo hQ
 refine wpAny_Compare1 (hf H nx R loc _ h A env O L m J s _ E Hh En S Lo fun J' H' nx' R' s' a v le S' ha hk=>?_) hm
 refine hg H' nx' R' loc _ hk A env O L m J' s' _ E Hh En S' (Lo.more le) fun J'' H'' nx'' R'' s'' b u le' S'' hb hk'=>?_
 exact hc _ _ _ _ _ hk' A J'' nx'' O L m s'' v u Q E Hh S'' (ha.more le') hb fun r R3 e3 rn=>(hQ.le (le.trans le')).here (S''.rn' rn) (.bool r) e3
theorem bd{op:CmpOp}{c:EQ}(hc:fT x d op c){f g:EV}{e i:Expr}(hf:aK x d vs f e)(hg:aK x d vs g i)(hm:behindInMarks op i=false)(pos:Pos):d3 x d vs (aY c f g) (.Compare e [op] [i] pos):=by
 intro H nx R loc k h A env O L m J s Q E Hh En S Lo hQ
 refine wpAny_isTrue_Compare1 (hf H nx R loc _ h A env O L m J s _ E Hh En S Lo fun J' H' nx' R' s' a v le S' ha hk=>?_) hm
 refine hg H' nx' R' loc _ hk A env O L m J' s' _ E Hh En S' (Lo.more le) fun J'' H'' nx'' R'' s'' b u le' S'' hb hk'=>?_
 exact hc _ _ _ _ _ hk' A J'' nx'' O L m s'' v u _ E Hh S'' (ha.more le') hb fun r R3 e3 rn=>wpAny_truthy_bool (hQ _ _ _ _ _ _ (le.trans le') (S''.rn' rn) e3)
def tP(g:GV)(k:Bool->Bool):Bool:=@GV.rec (fun q0=>Bool) false (k false) (fun b=>k b) (fun e=>qG e fun i=>k (@Bool.rec (fun q0=>Bool) true false (cV i (.ofNat 0)))) (fun q0=>false) (fun q0=>false) (fun q0=>false) (fun q0=>false) false g
theorem sC{g:GV}{k:Bool->Bool}(h:tP g k=true):∃b,k b=true/\∀(J:az) v (s:Shared) (Q:Bool->Shared->Prop),Is x.T J g v->Q b s->wpAny (model x.prog x.w) A (truthy v) Q E s:=by
 cases g with
 | none=>exact ⟨false,h,fun J v s Q i q=>by cases i; exact truthy_none q⟩
 | bool b=>exact ⟨b,h,fun J v s Q i q=>by cases i; exact wpAny_truthy_bool q⟩
 | int e=>
  obtain ⟨i,rfl,h1⟩:=(kL h)
  rw [vC] at h1
  refine ⟨_,h1,fun J v s Q j q=>?_⟩
  obtain ⟨t,rfl,o⟩:=j
  refine P.truthy_int ?_
  have:(cV i (.ofNat 0))=(i == 0):=(cr rfl).symm
  rw [this] at q
  exact q
 | _=>cases h
def hW(f:EV):TV:=fun H nx R loc k=>f H nx R loc fun g H nx R=>tP g fun b=>k b H nx R
noncomputable def sy(e:Expr):Bool:=[16,19,20,21,23].any (Nat.beq e.ctorIdx)
theorem dE{f:EV}{e:Expr}(hf:aK x d vs f e)(hp:sy e=true):d3 x d vs (hW f) e:=by
 intro H nx R loc k h A env O L m J s Q E Hh En S Lo hQ
 refine isTrue_plain (hf H nx R loc _ h A env O L m J s _ E Hh En S Lo fun J' H' nx' R' s' a v le S' ha hk=>?_) (by clear hf; cases e <;> first | rfl | cases hp)
 obtain ⟨b,hb,q⟩:=sC (x:=x) (A:=A) (E:=E) hk
 exact q _ _ _ _ ha (hQ _ _ _ _ _ _ le S' hb)
def jY(f:TV):TV:=fun H nx R loc k=>f H nx R loc fun b H nx R=>k (@Bool.rec (fun q0=>Bool) true false b) H nx R
theorem fJ{f:TV}{e:Expr}(hf:d3 x d vs f e)(pos:Pos):d3 x d vs (jY f) (.UnaryOp .Not e pos):=by
 intro H nx R loc k h A env O L m J s Q E Hh En S Lo hQ
 refine isTrue_not (hf H nx R loc _ h A env O L m J s _ E Hh En S Lo fun J' H' nx' R' s' b le S' hk=>?_)
 dsimp only at hk
 rw [vC] at hk
 exact hQ _ _ _ _ _ _ le S' hk
noncomputable def iU:TV:=fun H nx R loc k=>k true H nx R
noncomputable def jI:TV:=fun H nx R loc k=>k false H nx R
def e7(f r:TV):TV:=fun H nx R loc k=>f H nx R loc fun b H nx R=>@Bool.rec (fun q0=>Bool) (k false H nx R) (r H nx R loc k) b
def l9(f r:TV):TV:=fun H nx R loc k=>f H nx R loc fun b H nx R=>@Bool.rec (fun q0=>Bool) (r H nx R loc k) (k true H nx R) b
theorem fh(pos:Pos):d3 x d vs iU (.BoolOp .And [] pos):=fun H nx R loc k h A env O L m J s Q E Hh En S Lo hQ=>isTrue_and_nil (hQ _ _ _ _ _ _ (.refl _) S h)
theorem gU(pos:Pos):d3 x d vs jI (.BoolOp .Or [] pos):=fun H nx R loc k h A env O L m J s Q E Hh En S Lo hQ=>isTrue_or_nil (hQ _ _ _ _ _ _ (.refl _) S h)
theorem cM{f r:TV}{e:Expr}{es:List Expr}{pos:Pos}(hf:d3 x d vs f e)(hr:d3 x d vs r (.BoolOp .And es pos)):d3 x d vs (e7 f r) (.BoolOp .And (e::es) pos):=by
 intro H nx R loc k h A env O L m J s Q E Hh En S Lo hQ
 refine isTrue_and (hf H nx R loc _ h A env O L m J s _ E Hh En S Lo fun J' H' nx' R' s' b le S' hk=>?_)
 cases b with
 | false=>exact hQ _ _ _ _ _ _ le S' hk
 | true=>exact hr H' nx' R' loc k hk A env O L m J' s' Q E Hh En S' (Lo.more le) (hQ.le le)
theorem gd{f r:TV}{e:Expr}{es:List Expr}{pos:Pos}(hf:d3 x d vs f e)(hr:d3 x d vs r (.BoolOp .Or es pos)):d3 x d vs (l9 f r) (.BoolOp .Or (e::es) pos):=by
 intro H nx R loc k h A env O L m J s Q E Hh En S Lo hQ
 refine isTrue_or (hf H nx R loc _ h A env O L m J s _ E Hh En S Lo fun J' H' nx' R' s' b le S' hk=>?_)
 cases b with
 | true=>exact hQ _ _ _ _ _ _ le S' hk
 | false=>exact hr H' nx' R' loc k hk A env O L m J' s' Q E Hh En S' (Lo.more le) (hQ.le le)
def gV(c:TV)(f r:EV):EV:=fun H nx R loc k=>c H nx R loc fun b H nx R=>@Bool.rec (fun q0=>Bool) (r H nx R loc k) (f H nx R loc k) b
theorem dD{c:TV}{f r:EV}{e1 e2 e3:Expr}(hc:d3 x d vs c e1)(hf:aK x d vs f e2)(hr:aK x d vs r e3)(pos:Pos):aK x d vs (gV c f r) (.IfExp e1 e2 e3 pos):=by
 intro H nx R loc k h A env O L m J s Q E Hh En S Lo hQ
 refine wpAny_IfExp (hc H nx R loc _ h A env O L m J s _ E Hh En S Lo fun J' H' nx' R' s' b le S' hk=>?_)
 cases b with
 | true=>exact hf H' nx' R' loc k hk A env O L m J' s' Q E Hh En S' (Lo.more le) (hQ.le le)
 | false=>exact hr H' nx' R' loc k hk A env O L m J' s' Q E Hh En S' (Lo.more le) (hQ.le le)
def zT(f r:EV):EV:=fun H nx R loc k=>f H nx R loc fun g H nx R=>tP g fun b=>@Bool.rec (fun q0=>Bool) (r H nx R loc k) (k g H nx R) b
theorem wA{f:EV}{e:Expr}(hf:aK x d vs f e)(op:BoolOp)(pos:Pos):aK x d vs f (.BoolOp op [e] pos):=fun H nx R loc k h A env O L m J s Q E Hh En S Lo hQ=>BoolOp_one (hf H nx R loc k h A env O L m J s Q E Hh En S Lo hQ)
theorem pq{f r:EV}{e e2:Expr}{es:List Expr}{pos:Pos}(hf:aK x d vs f e)(hr:aK x d vs r (.BoolOp .Or (e2::es) pos)):aK x d vs (zT f r) (.BoolOp .Or (e::e2::es) pos):=by
 intro H nx R loc k h A env O L m J s Q E Hh En S Lo hQ
 refine BoolOp_or (hf H nx R loc _ h A env O L m J s _ E Hh En S Lo fun J' H' nx' R' s' g v le S' i hk=>?_)
 obtain ⟨b,hb,q⟩:=sC (x:=x) (A:=A) (E:=E) hk
 refine q _ _ _ _ i ?_
 cases b with
 | true=>exact (hQ.le le).here S' i hb
 | false=>exact hr H' nx' R' loc k hb A env O L m J' s' Q E Hh En S' (Lo.more le) (hQ.le le)
end
end
section
section
variable {x:aR} {d:Nat} {vs:aq} {J:az} {H:Tr} {nx:Nat} {R:Rn} {O:Heap} {L:Addr} {m:Str->Option Value} {s:Shared} {A:Around} {E:Value->Shared->Prop} {Q:Value->Shared->Prop} {k:KV}
def vx(a b:GI)(f:Int->Int->Bool)(z:Bool):Bool:=@GI.rec (fun q0=>Bool) (fun i=>@GI.rec (fun q0=>Bool) (fun j=>f i j) (fun q0=>z) (fun q0 q0 q0 q0=>z) (fun q0 q0 q0 q0=>z) (fun q0 q0 q0 q0=>z) b) (fun q0=>z) (fun q0 q0 q0 q0=>z) (fun q0 q0 q0 q0=>z) (fun q0 q0 q0 q0=>z) a
theorem xv{a b:GI}{f:Int->Int->Bool}{z:Bool}(h:vx a b f z=true):(∃i j,a=.lit i/\b=.lit j/\f i j=true)∨z=true:=by
 cases a <;> first | exact .inr h | (cases b <;> first | exact .inr h | exact .inl ⟨_,_,rfl,rfl,h⟩)
abbrev xf:=List (Nat × Nat × Nat)
def FD(T:List Str)(c:xf):Prop:=∀p∈c,∃a b,T[p.1]?=some a/\T[p.2.1]?=some b/\T[p.2.2]?=some (a++b)/\a.length+b.length<=sizeLine
def yN(c:xf)(i j:Nat)(k:Nat->Bool):Bool:=@List.rec (Nat × Nat × Nat) (fun q0=>Bool) false (fun p q0 ih=>@Bool.rec (fun q0=>Bool) ih (k p.2.2) (Nat.beq p.1 i&&Nat.beq p.2.1 j)) c
theorem wO{i j:Nat}{k:Nat->Bool}:∀{c:xf},yN c i j k=true->∃n,(i,j,n)∈c/\k n=true
 | [],h=>by cases h
 | p::c,h=>by
  have e:yN (p::c) i j k=@Bool.rec (fun q0=>Bool) (yN c i j k) (k p.2.2) (Nat.beq p.1 i&&Nat.beq p.2.1 j):=rfl
  rw [e] at h
  cases q:(Nat.beq p.1 i&&Nat.beq p.2.1 j) with
  | true=>
   rw [q] at h
   obtain ⟨q1,q2⟩:=Bool.and_eq_true_iff.mp q
   have:=Nat.eq_of_beq_eq_true q1
   have:=Nat.eq_of_beq_eq_true q2
   obtain ⟨a,b,n⟩:=p
   subst_vars
   exact ⟨n,.head _,h⟩
  | false=>
   rw [q] at h
   obtain ⟨n,a,b⟩:=(wO h)
   exact ⟨n,.tail _ a,b⟩
def nR(l:List GV)(a b:Bool):Bool:=@List.rec GV (fun q0=>Bool) a (fun q0 q0 q0=>b) l
def KY(i j:Nat)(H:Tr)(nx:Nat)(R:Rn)(k:KV):Bool:=ez (H.get i)
 (fun l=>ez (H.get j) (fun r=>@Bool.rec (fun q0=>Bool) false (mk (.list (mA l r)) H nx R k) (fj 1000 l&&fj 1000 r)) (fun q0=>false) (fun q0=>false) (fun q0=>false))
 (fun l=>ez (H.get j) (fun q0=>false) (fun r=>@Bool.rec (fun q0=>Bool) false (nR l (k (.own j) H nx R) (nR r (k (.own i) H nx R) (mk (.tuple (mA l r)) H nx R k))) (fj 1000 l&&fj 1000 r)) (fun q0=>false) (fun q0=>false))
 (fun q0=>false) (fun q0=>false)
def oQ(g:GV)(k:Nat->Bool):Bool:=@GV.rec (fun q0=>Bool) false false (fun q0=>false) (fun q0=>false) (fun i=>k i) (fun q0=>false) (fun q0=>false) (fun q0=>false) false g
theorem gO{g:GV}{k:Nat->Bool}(h:oQ g k=true):∃e,g=.str e/\k e=true:=by cases g <;> first | cases h; done | exact ⟨_,rfl,h⟩
def Cg(a t:GI)(y n:Bool):Bool:=@GI.rec (fun q0=>Bool) (fun q0=>n) (fun q0=>n) (fun q0 q0 q0 q0=>n) (fun m a' q0 q0=>@GI.rec (fun q0=>Bool) (fun i=>@Bool.rec (fun q0=>Bool) n y (cV i (-1)&&GI.beq a a')) (fun q0=>n) (fun q0 q0 q0 q0=>n) (fun q0 q0 q0 q0=>n) (fun q0 q0 q0 q0=>n) m) (fun q0 q0 q0 q0=>n) t
theorem FZ{a t:GI}{y n:Bool}(h:Cg a t y n=true):n=true∨(y=true/\t=.mul (.lit (-1)) a):=by
 cases t with
 | mul m a'=>
  cases m with
  | lit i=>
   have h:@Bool.rec (fun q0=>Bool) n y (cV i (-1)&&GI.beq a a')=true:=h
   cases q:(cV i (-1)&&GI.beq a a') with
   | false=>rw [q] at h; exact .inl h
   | true=>
    rw [q] at h
    obtain ⟨q1,q2⟩:=Bool.and_eq_true_iff.mp q
    have q1:i = -1:=eq_of_beq (cr q1)
    rw [q1,GI.beq_eq q2]; exact .inr ⟨h,rfl⟩
  | _=>exact .inl h
 | _=>exact .inl h
def oK(a b:GI)(k:GI->Bool):Bool:=@GI.rec (fun q0=>Bool) (fun q0=>k (.add a b)) (fun q0=>k (.add a b)) (fun s t q0 q0=>Cg a t (k s) (k (.add a b))) (fun q0 q0 q0 q0=>k (.add a b)) (fun q0 q0 q0 q0=>k (.add a b)) b
def y9(a b:GI)(k:GI->Bool):Bool:=@GI.rec (fun q0=>Bool) (fun i=>@Bool.rec (fun q0=>Bool) (oK a b k) (k b) (cV i 0)) (fun q0=>oK a b k) (fun q0 q0 q0 q0=>oK a b k) (fun q0 q0 q0 q0=>oK a b k) (fun q0 q0 q0 q0=>oK a b k) a
theorem wQ{a b:GI}{k:GI->Bool}(h:oK a b k=true):∃e:GI,k e=true/\∀ns:List Int,a.ok ns.length->b.ok ns.length->e.ok ns.length/\e.ev ns=a.ev ns+b.ev ns:=by
 have z:k (.add a b)=true->∃e:GI,k e=true/\∀ns:List Int,a.ok ns.length->b.ok ns.length->e.ok ns.length/\e.ev ns=a.ev ns+b.ev ns:=fun h=>⟨_,h,fun ns x y=>⟨⟨x,y⟩,rfl⟩⟩
 cases b with
 | add s t=>
  rcases FZ (show Cg a t (k s) (k (.add a (.add s t)))=true from h) with h5 | ⟨h5,rfl⟩
  ·exact z h5
  ·exact ⟨s,h5,fun ns x y=>⟨y.1,by show s.ev ns=a.ev ns+(s.ev ns + -1 * a.ev ns); lia⟩⟩
 | _=>exact z h
theorem FF{a b:GI}{k:GI->Bool}(h:y9 a b k=true):∃e:GI,k e=true/\∀ns:List Int,a.ok ns.length->b.ok ns.length->e.ok ns.length/\e.ev ns=a.ev ns+b.ev ns:=by
 cases a with
 | lit i=>
  have h:@Bool.rec (fun q0=>Bool) (oK (.lit i) b k) (k b) (cV i 0)=true:=h
  cases q:cV i 0 with
  | false=>rw [q] at h; exact wQ h
  | true=>
   rw [q] at h
   have q:i=0:=eq_of_beq (cr q)
   exact ⟨b,h,fun ns x y=>⟨y,by rw [q]; show b.ev ns=0+b.ev ns; lia⟩⟩
 | _=>exact wQ h
def dW(c:xf):sp:=fun g h H nx R k=>@GV.rec (fun q0=>Bool) false false (fun q0=>false) (fun a=>fR h fun b=>vx a b (fun i j=>fI (Int.add i j) fun r=>k (.int (.lit r)) H nx R) (y9 a b fun e=>k (.int e) H nx R)) (fun a=>oQ h fun b=>yN c a b fun n=>k (.str n) H nx R) (fun q0=>false) (fun q0=>false) (fun i=>bU h fun j=>KY i j H nx R k) false g
theorem vM{a b:GI}(h:vx a b (fun i j=>fI (Int.add i j) fun r=>k (.int (.lit r)) H nx R) (y9 a b fun e=>k (.int e) H nx R)=true):∃e:GI,k (.int e) H nx R=true/\∀ns:List Int,a.ok ns.length->b.ok ns.length->e.ok ns.length/\e.ev ns=a.ev ns+b.ev ns:=by
 rcases xv h with ⟨i,j,rfl,rfl,h1⟩ | h
 ·rw [lQ] at h1; exact ⟨_,h1,fun ns q0 q0=>⟨trivial,rfl⟩⟩
 ·exact FF h
theorem cj{c:xf}(hc:FD x.T c):wP x d (dW c) fun u v=>binaryOp .Add u v:=by
 intro g h H nx R k e A O L m J s u v Q E Hh S iu iv hQ
 cases g with
 | int a=>
  symm
  obtain ⟨b,rfl,e1⟩:=dA (g:=h) e
  obtain ⟨z,e2,q⟩:=(vM e1)
  obtain ⟨t,rfl,o1⟩:=iu
  obtain ⟨t2,rfl,o2⟩:=iv
  obtain ⟨q1,q2⟩:=(q J.ns o1 o2)
  symm
  exact wpAny_add_int (by rw [<- q2]; exact hQ.now S (.int _ q1) e2 _)
 | str a=>
  symm
  obtain ⟨b,rfl,e1⟩:=gO (g:=h) e
  obtain ⟨n,hn,e2⟩:=(wO e1)
  obtain ⟨q0,t,rfl,o1⟩:=iu
  obtain ⟨q0,t2,rfl,o2⟩:=iv
  obtain ⟨y,z,q1,q2,q3,q4⟩:=(hc _ hn)
  symm
  rw [o1] at q1; cases q1
  rw [o2] at q2; cases q2
  exact PyProof.Rows.add_str (fun t' tk=>hQ.now S (.str t' q3) e2 _) q4
 | own i=>
  symm
  obtain ⟨j,rfl,e1⟩:=bn (g:=h) e
  obtain ⟨q0,rfl,ha⟩:=iu
  obtain ⟨q0,rfl,hc⟩:=iv
  obtain ⟨os,hos,el,N⟩:=S.led.at_
  symm
  rcases dJ e1 with ⟨l,hl,e2⟩ | ⟨l,hl,e2⟩ | ⟨l,hl,e2⟩ | ⟨l,hl,e2⟩
  ·rcases dJ e2 with ⟨r,hr,e3⟩ | ⟨r,hr,e3⟩ | ⟨r,hr,e3⟩ | ⟨r,hr,e3⟩
   ·obtain ⟨hz,e4⟩:=aJ e3
    symm
    obtain ⟨z1,z2⟩:=Bool.and_eq_true_iff.mp hz
    have z1:=cX z1
    have z2:=cX z2
    obtain ⟨us,lu,hu⟩:=(S.lst ha hl)
    obtain ⟨ws,lw,hw⟩:=(S.lst hc hr)
    symm
    rw [iH] at e4
    refine kmk_add_lit S.fr N lu lw rfl (fun D h' F' N' lt=>gp e4 S hQ hos el F' N' lt (.list 0 ?_) s.toks) ?_
    ·exact (hu.append hw).more (az.le_push _ _)
    ·show us.length+ws.length<=_
     rw [<- hu.length,<- hw.length]
     exact Nat.le_trans (Nat.add_le_add z1 z2) (by decide)
   ·cases e3
   ·cases e3
   ·cases e3
  ·rcases dJ e2 with ⟨r,hr,e3⟩ | ⟨r,hr,e3⟩ | ⟨r,hr,e3⟩ | ⟨r,hr,e3⟩
   ·cases e3
   ·obtain ⟨hz,e4⟩:=aJ e3
    symm
    obtain ⟨z1,z2⟩:=Bool.and_eq_true_iff.mp hz
    have z1:=cX z1
    have z2:=cX z2
    obtain ⟨us,lu,hu⟩:=(S.tup ha hl)
    obtain ⟨ws,lw,hw⟩:=(S.tup hc hr)
    symm
    rw [iH] at e4
    refine add_tuples S.fr N lu lw (fun z=>?_) (fun z1 z2=>?_) (fun z1 z2 h' F' N'=>?_) (by rw [<- hu.length,<- hw.length]; exact Nat.le_trans (Nat.add_le_add z1 z2) (by decide))
    ·subst z; cases hu; exact hQ.here S (.own hc) e4
    ·subst z2; cases hw
     cases hu with
     | nil=>exact absurd rfl z1
     | cons _ _=>exact hQ.here S (.own ha) e4
    ·cases hu with
     | nil=>exact absurd rfl z1
     | cons p1 p2=>
      cases hw with
      | nil=>exact absurd rfl z2
      | cons p3 p4=>exact gp e4 S hQ hos el F' N' (fun p hp=>Heap.lt_size (N p hp).1) (.tuple (((be.cons p1 p2).append (.cons p3 p4)).more (az.le_push _ _))) s.toks
   ·cases e3
   ·cases e3
  ·cases e2
  ·cases e2
 | _=>cases e
def FC:sp:=fun g h H nx R k=>eG g fun i=>eG h fun j=>fI (Int.sub i j) fun r=>k (.int (.lit r)) H nx R
theorem DB:wP x d FC fun u v=>binaryOp .Sub u v:=by
 intro g h H nx R k e A O L m J s u v Q E Hh S iu iv hQ
 symm
 obtain ⟨i,rfl,e1⟩:=cR e
 obtain ⟨j,rfl,e2⟩:=cR e1
 rw [lQ] at e2
 obtain ⟨t,rfl,o1⟩:=iu
 obtain ⟨t2,rfl,o2⟩:=iv
 symm
 exact AutoIntOps.sub_0 (show Q (.int (i - j) s.toks) { s with toks:=s.toks+1 } from hQ.now S (.int (e:=.lit (i - j)) _ trivial) e2 _)
def GZ:sp:=fun g h H nx R k=>eG h fun c=>@Bool.rec (fun q0=>Bool) false (fR g fun a=>vx a (.lit c) (fun i j=>fI (Int.fmod i j) fun r=>k (.int (.lit r)) H nx R) (k (.int (.md a (.lit c))) H nx R)) (kX (.ofNat 0) c)
theorem GB:wP x d GZ fun u v=>binaryOp .Mod u v:=by
 intro g h H nx R k e A O L m J s u v Q E Hh S iu iv hQ
 obtain ⟨c,rfl,e1⟩:=cR e
 obtain ⟨hz,e2⟩:=aJ e1
 obtain ⟨a,rfl,e3⟩:=dA e2
 have z:(0:Int)<c:=of_decide_eq_true (jS hz)
 obtain ⟨t,rfl,o1⟩:=iu
 obtain ⟨t2,rfl,o2⟩:=iv
 have hz:¬ ((c:Int) == 0)=true:=by simp only [beq_iff_eq]; lia
 have fin:∀(e:GI),e.ok J.ns.length->e.ev J.ns=Int.fmod (a.ev J.ns) c->k (.int e) H nx R=true->wpAny (model x.prog x.w) A (binaryOp .Mod (.int (a.ev J.ns) t) (.int (GI.ev J.ns (.lit c)) t2)) Q E s:=fun e o q hk=>
  AutoIntOps.mod_1 (b:=c) hz (show Q (.int (Int.fmod (a.ev J.ns) c) s.toks) { s with toks:=s.toks+1 } from by rw [<- q]; exact hQ.now S (.int _ o) hk _)
 rcases xv e3 with ⟨i',j,h1,h2,e4⟩ | e4
 ·cases h2; subst h1
  rw [lQ] at e4
  exact fin (.lit (Int.fmod i' c)) trivial rfl e4
 ·exact fin (.md a (.lit c)) ⟨o1,trivial⟩ rfl e4
def qr:xm:=fun g H nx R k=>eG g fun i=>fI (Int.neg i) fun r=>k (.int (.lit r)) H nx R
theorem kT:Ej x d qr fun u=>unaryOp .USub u:=by
 intro g H nx R k e A O L m J s u Q E Hh S iu hQ
 obtain ⟨i,rfl,e1⟩:=cR e
 rw [lQ] at e1
 obtain ⟨t,rfl,o1⟩:=iu
 exact P.neg_int (show Q (.int (-i) s.toks) { s with toks:=s.toks+1 } from hQ.now S (.int (e:=.lit (-i)) _ trivial) e1 _)
noncomputable def dp(o:sp)(f g:EV):EV:=fun H nx R loc k=>f H nx R loc fun a H nx R=>g H nx R loc fun b H nx R=>o a b H nx R k
theorem bJ{op:Operator}{o:sp}(ho:wP x d o fun u v=>binaryOp op u v){f g:EV}{e i:Expr}(hf:aK x d vs f e)(hg:aK x d vs g i)(pos:Pos):aK x d vs (dp o f g) (.BinOp e op i pos):=by
 intro H nx R loc k h A env O L m J s Q E Hh En S Lo hQ
 refine wpAny_BinOp (hf H nx R loc _ h A env O L m J s _ E Hh En S Lo fun J' H' nx' R' s' a v le S' ha hk=>?_)
 refine hg H' nx' R' loc _ hk A env O L m J' s' _ E Hh En S' (Lo.more le) fun J'' H'' nx'' R'' s'' b u le' S'' hb hk'=>?_
 exact ho a b H'' nx'' R'' k hk' A O L m J'' s'' v u Q E Hh S'' (ha.more le') hb (hQ.le (le.trans le'))
noncomputable def xF(o:xm)(f:EV):EV:=fun H nx R loc k=>f H nx R loc fun a H nx R=>o a H nx R k
theorem mB{op:UnaryOp}{o:xm}(ho:Ej x d o fun u=>unaryOp op u){f:EV}{e:Expr}(hf:aK x d vs f e)(pos:Pos):aK x d vs (xF o f) (.UnaryOp op e pos):=by
 intro H nx R loc k h A env O L m J s Q E Hh En S Lo hQ
 refine wpAny_UnaryOp (hf H nx R loc _ h A env O L m J s _ E Hh En S Lo fun J' H' nx' R' s' a v le S' ha hk=>?_)
 exact ho a H' nx' R' k hk A O L m J' s' v Q E Hh S' ha (hQ.le le)
end
end
section
section
theorem Ft{names:List Str}{vs:List Value}{n:Str}(h:n∉names.take vs.length):(names.zip vs).lookup n=none:=by
 induction names generalizing vs with
 | nil=>rfl
 | cons a r ih=>
  cases vs with
  | nil=>rfl
  | cons v vs=>
   simp only [List.length_cons,List.take_succ_cons,List.mem_cons,not_or] at h
   rw [List.zip_cons_cons,List.lookup_cons]
   have:(n == a)=false:=by simpa using h.1
   rw [this]; exact ih h.2
theorem kA{names:List Str}{vs:List Value}{n:Str}(h:n∈names.take vs.length):((names.zip vs).lookup n).isSome=true:=by
 induction names generalizing vs with
 | nil=>simp at h
 | cons a r ih=>
  cases vs with
  | nil=>simp at h
  | cons v vs=>
   simp only [List.length_cons,List.take_succ_cons,List.mem_cons] at h
   rw [List.zip_cons_cons,List.lookup_cons]
   by_cases e:n=a
   ·subst e; simp
   ·have:(n == a)=false:=by simpa using e
    rw [this]; exact ih (h.resolve_left e)
theorem sL{names:List Str}{vs:List Value}(hn:names.Nodup)(hl:names.length=vs.length):(names.filterMap fun n=>((names.zip vs).lookup n).map (n,·))=names.zip vs:=by
 have key:∀(ns:List Str) (ws:List Value),ns.Nodup->ns.length=ws.length->∀(f:Str->Option Value),(∀(i:Nat) (n:Str) (v:Value),ns[i]?=some n->ws[i]?=some v->f n=some v)->(ns.filterMap fun n=>(f n).map (n,·))=ns.zip ws:=by
  intro ns
  induction ns with
  | nil=>intro ws _ _ f _; rfl
  | cons a r ih=>
   intro ws hn hl f hf
   cases ws with
   | nil=>simp at hl
   | cons v ws=>
    rw [List.filterMap_cons,hf 0 a v rfl rfl]
    show (a,v)::_=(a,v)::_
    rw [ih ws (List.nodup_cons.mp hn).2 (by simpa using hl) f fun i n u h1 h2=>hf (i+1) n u (by simpa using h1) (by simpa using h2)]
    rfl
 refine key names vs hn hl _ fun i n v h1 h2=>?_
 clear key
 induction names generalizing vs i with
 | nil=>simp at h1
 | cons a r ih=>
  cases vs with
  | nil=>simp at h2
  | cons w vs=>
   rw [List.zip_cons_cons,List.lookup_cons]
   cases i with
   | zero=>simp at h1 h2; subst h1 h2; simp
   | succ i=>
    simp only [List.getElem?_cons_succ] at h1 h2
    have ne:n≠a:=fun e=>by subst e; exact (List.nodup_cons.mp hn).1 (List.mem_of_getElem? h1)
    have:(n == a)=false:=by simpa using ne
    rw [this]
    exact ih (List.nodup_cons.mp hn).2 (by simpa using hl) i h1 h2
noncomputable def jR(r:List (Str × Value))(p:Str × Value):List (Str × Value):=if (r.lookup p.1).isNone then r++[p] else r
theorem tQ:∀(ps:List (Str × Value)) (acc:List (Str × Value)),(∀p∈ps,(acc.lookup p.1).isSome=true)->ps.foldl jR acc=acc
 | [],acc,_=>rfl
 | p::ps,acc,h=>by
  rw [List.foldl_cons]
  have:jR acc p=acc:=by
   unfold jR
   rw [if_neg]
   have:=h p (.head _)
   rw [Option.isNone_iff_eq_none]
   intro q; rw [q] at this; cases this
  rw [this]
  exact tQ ps acc fun q hq=>h q (.tail _ hq)
theorem kR{n:Str}:∀{acc:List (Str × Value)},(∀p∈acc,p.1≠n)->acc.lookup n=none
 | [],_=>rfl
 | a::acc,h=>by
  rw [List.lookup_cons]
  have ne:(n == a.1)=false:=by simpa using Ne.symm (h a (.head _))
  rw [ne]
  exact kR fun p hp=>h p (.tail _ hp)
theorem uu:∀(ns:List Str) (ws:List Value) (acc:List (Str × Value)),ns.length=ws.length->ns.Nodup->(∀n∈ns,∀p∈acc,p.1≠n)->(ns.zip ws).foldl jR acc=acc++ns.zip ws
 | [],ws,acc,_,_,_=>by simp
 | n::ns,[],acc,hl,_,_=>by simp at hl
 | n::ns,w::ws,acc,hl,hnd,hacc=>by
  rw [List.zip_cons_cons,List.foldl_cons]
  have:jR acc (n,w)=acc++[(n,w)]:=by
   unfold jR
   rw [if_pos]
   rw [Option.isNone_iff_eq_none]
   exact kR (hacc n (.head _))
  rw [this,uu ns ws _ (by simpa using hl) (List.nodup_cons.mp hnd).2 ?_]
  ·simp
  ·intro n' hn' p hp e
   rcases List.mem_append.mp hp with q | q
   ·exact hacc n' (.tail _ hn') p q e
   ·rw [List.mem_singleton.mp q] at e
    have e:n=n':=e
    subst e
    exact (List.nodup_cons.mp hnd).1 hn'
theorem yT{A B C:List Str}{vs dB dC:List Value}(hn:(A++B++C).Nodup)(hv:vs.length=(A++B).length)(hb:B.length=dB.length)(hc:C.length=dC.length) :
  ((B++C).zip (dB++dC)).foldl jR ((A++B++C).zip vs)=(A++B++C).zip (vs++dC):=by
 have e0:(A++B++C).zip vs=(A++B).zip vs:=by
  have:(A++B++C).zip (vs++[])=(A++B).zip vs++C.zip []:=List.zip_append hv.symm
  rw [List.append_nil,List.zip_nil_right,List.append_nil] at this
  exact this
 have e1:(B.zip dB).foldl jR ((A++B).zip vs)=(A++B).zip vs:=tQ _ _ fun p hp=>by
  have q:=(List.of_mem_zip (a:=p.1) (b:=p.2) hp).1
  exact kA (by rw [hv,List.take_length]; exact List.mem_append_right _ q)
 rw [List.zip_append hb,List.foldl_append,e0,e1]
 ·rw [uu C dC _ hc (List.nodup_append.mp hn).2.1 ?_]
  ·rw [List.zip_append hv.symm]
  ·intro n hn' p hp e
   have q:=(List.of_mem_zip (a:=p.1) (b:=p.2) hp).1
   exact (List.nodup_append.mp hn).2.2 p.1 q n hn' e
theorem pj{f:Str × Value->List (Str × Value)->Sem (ForInStep (List (Str × Value)))}(hf:∀p r,f p r=if (r.lookup p.1).isNone then (do pure PUnit.unit; pure (.yield (r++[p]))) else (do pure PUnit.unit; pure (.yield r))) :
  ∀(ps acc:List (Str × Value)),(forIn ps acc f:Sem _)=pure (ps.foldl jR acc)
 | [],acc=>rfl
 | p::ps,acc=>by
  rw [List.forIn_cons,hf]
  have:(if (acc.lookup p.1).isNone then (do pure PUnit.unit; pure (ForInStep.yield (acc++[p]))) else (do pure PUnit.unit; pure (.yield acc)):Sem (ForInStep (List (Str × Value))))=pure (.yield (jR acc p)):=by
   unfold jR; split <;> rfl
  rw [this]
  exact pj hf ps _
theorem xb{s:Shared}{fd:FuncData}{as:List Arg}{df:List Expr}{vs ds:List Value}{A B C:List Str}{dB dC:List Value}(hp:fd.params=fO as df)(hds:∀(M:Model) (Ar:Around) (E:Value->Shared->Prop) (Q:Option (Array Value)->Shared->Prop),(∀o:Option (Array Value),(o.getD #[]).toList=dB++dC->Q o s)->wpAny M Ar (seqItems? fd.defaults) Q E s)
  (hn:as.map (·.arg)=A++B++C) (nd:(A++B++C).Nodup) (hv:vs.length=(A++B).length) (hb:B.length=dB.length) (hc:C.length=dC.length):BindsTo s fd ⟨vs,[]⟩ ((A++B++C).zip (vs++dC)):=by
 intro M Ar E Q hQ
 unfold bindArgs
 rw [hp]
 dsimp only [fO]
 rw [hn]
 simp only [List.map_nil,List.nil_append,List.forIn_nil,pure_bind]
 refine wpAny_bind (hds M Ar E _ fun o ho=>?_)
 rw [ho]
 simp only [List.length_append] at hv
 have hl:(A++B++C).length=A.length+B.length+C.length:=by rw [List.length_append,List.length_append]
 have h1:decide (vs.length > (A++B++C).length)=false:=decide_eq_false (Nat.not_lt.mpr (by rw [hl,hv]; exact Nat.le_add_right _ _))
 have h2:(dB++dC).length - (A++B++C).length=0:=Nat.sub_eq_zero_of_le (by rw [hl,List.length_append,<- hb,<- hc,Nat.add_assoc]; exact Nat.le_add_left _ _)
 have h3:(A++B++C).length - (dB++dC).length=A.length:=by rw [hl,List.length_append,<- hb,<- hc,Nat.add_assoc,Nat.add_sub_cancel]
 have h4:(A++B++C).take A.length=A:=by rw [List.append_assoc]; exact List.take_left
 have h5:(A++B++C).drop A.length=B++C:=by rw [List.append_assoc]; exact List.drop_left
 have h6:A.filter (fun n=>(List.lookup n ((A++B++C).zip vs)).isNone)=[]:=by
  rw [List.filter_eq_nil_iff]
  intro n hn'
  have:=kA (names:=A++B++C) (vs:=vs) (n:=n) (by
   rw [hv]
   have e:(A++B++C).take (A.length+B.length)=A++B:=by
    rw [<- List.length_append]; exact List.take_left
   rw [e]; exact List.mem_append_left _ hn')
  intro q
  rw [Option.isNone_iff_eq_none] at q
  rw [q] at this; cases this
 have h7:=yT (vs:=vs) nd (by rw [List.length_append]; exact hv) hb hc
 have h8:(A++B++C).filterMap (fun n=>(((A++B++C).zip (vs++dC)).lookup n).map (n,·))=(A++B++C).zip (vs++dC):=sL nd (by rw [hl,List.length_append,hv,hc])
 simp only [h1,Bool.false_and,Bool.false_eq_true,if_false,h2,List.drop_zero,h3,h4,h5,h6,List.isEmpty_nil,Bool.not_true]
 rw [pj (fun p r=>rfl),h7,pure_bind]
 simp only [List.append_nil,h8]
 exact wpAny_pure hQ
end
end
section
noncomputable def SK.kind:SK->NameKind
 | .loc=>.local
 | .cel=>.cell
 | .blk=>.local
 | .glo=>.globalImplicit
inductive cD (T:List Str):aq->List (Str × NameKind)->Prop
 | nil:cD T [] []
 | cons {i:Nat} {kd:SK} {s:Str} {r:aq} {ns:List (Str × NameKind)}:T[i]?=some s->kd≠.blk->cD T r ns->cD T ((i,kd)::r) ((s,kd.kind)::ns)
theorem cD.lookup{T:List Str}(hT:T.Nodup){vs:aq}{ns:List (Str × NameKind)}(h:cD T vs ns)(nd:(vs.map (·.1)).Nodup):∀{j i:Nat} {kd:SK} {s:Str},vs[j]?=some (i,kd)->T[i]?=some s->ns.lookup s=some kd.kind:=by
 induction h with
 | nil=>intro j i kd s e; simp at e
 | @cons i0 kd0 s0 r ns hs hb hr ih=>
  intro j i kd s e ht
  rw [List.lookup_cons]
  cases j with
  | zero=>
   simp only [List.getElem?_cons_zero,Option.some.injEq,Prod.mk.injEq] at e
   obtain ⟨rfl,rfl⟩:=e
   rw [hs] at ht; cases ht
   simp
  | succ j=>
   simp only [List.getElem?_cons_succ] at e
   have ne:i≠i0:=fun q=>by
    subst q
    exact (List.nodup_cons.mp nd).1 (List.mem_map.mpr ⟨_,List.mem_of_getElem? e,rfl⟩)
   have ns':s≠s0:=fun q=>ne ((cF hT ht hs).mp q)
   have:(s == s0)=false:=by simpa using ns'
   rw [this]
   exact ih (List.nodup_cons.mp nd).2 e ht
theorem se{kindOf:Str->Option NameKind}{s:Str}:∀{binds:List (Str × Value)} {m:Str->Option Value},(∀p∈binds,p.1≠s)->bindL kindOf binds m s=m s
 | [],m,_=>rfl
 | (n,v)::r,m,h=>by
  rw [bindL,se fun p hp=>h p (.tail _ hp)]
  split
  ·have:s≠n:=Ne.symm (h _ (.head _))
   show (if s=n then _ else _)=_
   rw [if_neg this]
  ·rfl
theorem mI{kindOf:Str->Option NameKind}{s:Str}:∀{binds:List (Str × Value)} {m:Str->Option Value},(∀p∈binds,p.1≠s)->bindC kindOf binds m s=m s
 | [],m,_=>rfl
 | (n,v)::r,m,h=>by
  rw [bindC,mI fun p hp=>h p (.tail _ hp)]
  split
  ·rfl
  ·have:s≠n:=Ne.symm (h _ (.head _))
   show (if s=n then _ else _)=_
   rw [if_neg this]
theorem mR{kindOf:Str->Option NameKind}:∀{ps:List Str} {ws:List Value} {j:Nat} {s:Str} {v:Value} (m:Str->Option Value),ps.Nodup->ps[j]?=some s->ws[j]?=some v->
  (kindOf s=some .local->bindL kindOf (ps.zip ws) m s=some v)/\(kindOf s≠some .local->bindC kindOf (ps.zip ws) m s=some v)
 | [],ws,j,s,v,m,_,h,_=>by simp at h
 | p::ps,[],j,s,v,m,_,_,h=>by simp at h
 | p::ps,w::ws,0,s,v,m,nd,h1,h2=>by
  simp only [List.getElem?_cons_zero,Option.some.injEq] at h1 h2
  subst h1 h2
  have out:∀q∈ps.zip ws,q.1≠p:=fun q hq e=>by
   have:=(List.of_mem_zip (a:=q.1) (b:=q.2) hq).1
   rw [e] at this
   exact (List.nodup_cons.mp nd).1 this
  rw [List.zip_cons_cons,bindL,bindC,se out,mI out]
  exact ⟨fun k=>by rw [if_pos k,if_pos rfl],fun k=>by rw [if_neg k,if_pos rfl]⟩
 | p::ps,w::ws,j+1,s,v,m,nd,h1,h2=>by
  simp only [List.getElem?_cons_succ] at h1 h2
  rw [List.zip_cons_cons,bindL,bindC]
  exact ⟨(mR _ (List.nodup_cons.mp nd).2 h1 h2).1,(mR _ (List.nodup_cons.mp nd).2 h1 h2).2⟩
noncomputable def dI:Nat->aq->List Nat->List Nat
 | _,[],acc=>acc
 | j,(_,.cel)::r,acc=>dI (j+1) r (j::acc)
 | j,(_,.loc)::r,acc=>dI (j+1) r acc
 | j,(_,.blk)::r,acc=>dI (j+1) r acc
 | j,(_,.glo)::r,acc=>dI (j+1) r acc
inductive i7 (T:List Str) (vs:aq):List Nat->List (Str × Addr)->Prop
 | nil:i7 T vs [] []
 | cons {j i:Nat} {s:Str} {a:Addr} {js:List Nat} {cs:List (Str × Addr)}:vs[j]?=some (i,.cel)->T[i]?=some s->i7 T vs js cs->i7 T vs (j::js) ((s,a)::cs)
theorem wq{T:List Str}{vs:aq}:∀{r:aq} {ns:List (Str × NameKind)},cD T r ns->∀(j n:Nat) (acc:List Nat) (bcc:List (Str × Addr)),(∀k,vs[j+k]?=r[k]?)->i7 T vs acc bcc->i7 T vs (dI j r acc) (cellsFrom n ns bcc):=by
 intro r ns h
 induction h with
 | nil=>intro j n acc bcc _ h; exact h
 | @cons i kd s r ns hs hb hr ih=>
  intro j n acc bcc hv ha
  have hv':∀k,vs[j+1+k]?=r[k]?:=fun k=>by
   have:=hv (k+1)
   rw [List.getElem?_cons_succ] at this
   rw [<- this]; congr 1; lia
  have h0:vs[j]?=some (i,kd):=by have:=hv 0; simpa using this
  cases kd with
  | cel=>exact ih (j+1) (n+1) _ _ hv' (.cons h0 hs ha)
  | loc=>exact ih (j+1) n _ _ hv' ha
  | blk=>exact absurd rfl hb
  | glo=>exact ih (j+1) n _ _ hv' ha
theorem kG{i:Nat}:∀{r:aq} {j k:Nat} {acc:List Nat},(r[k]?=some (i,.cel)∨(j+k)∈acc)->(j+k)∈dI j r acc
 | [],j,k,acc,h=>h.elim (fun e=>by simp at e) id
 | (a,kd)::r,j,k,acc,h=>by
  have step:∀acc',(∀x∈acc,x∈acc')->(k=0->j∈acc'∨kd≠.cel)->(j+k)∈dI (j+1) r acc':=by
   intro acc' hs h0
   cases k with
   | zero=>
    rcases h with e | e
    ·simp at e
     rcases h0 rfl with q | q
     ·have:=kG (i:=i) (r:=r) (j:=j+1) (k:=0) (acc:=acc')
      exact celFrom_old q
     ·exact absurd e.2 q
    ·exact celFrom_old (hs _ e)
   | succ k=>
    have e2:j+(k+1)=(j+1)+k:=by lia
    rw [e2]
    rcases h with e | e
    ·exact kG (.inl (by simpa using e))
    ·exact celFrom_old (by rw [<- e2]; exact hs _ e)
  cases kd with
  | cel=>exact step _ (fun x hx=>.tail _ hx) fun q0=>.inl (.head _)
  | loc=>exact step _ (fun x hx=>hx) fun q0=>.inr (by intro q; cases q)
  | blk=>exact step _ (fun x hx=>hx) fun q0=>.inr (by intro q; cases q)
  | glo=>exact step _ (fun x hx=>hx) fun q0=>.inr (by intro q; cases q)
where
 celFrom_old {x:Nat}:∀{r:aq} {j:Nat} {acc:List Nat},x∈acc->x∈dI j r acc
 | [],_,_,h=>h
 | (_,.cel)::r,j,acc,h=>celFrom_old (r:=r) (.tail _ h)
 | (_,.loc)::r,j,acc,h=>celFrom_old (r:=r) h
 | (_,.blk)::r,j,acc,h=>celFrom_old (r:=r) h
 | (_,.glo)::r,j,acc,h=>celFrom_old (r:=r) h
theorem iI:∀(ns:List (Str × NameKind)) (n:Nat) (acc:List (Str × Addr)) (lo:Nat),lo<=n->(acc.map (·.2)).Nodup->(∀p∈acc,lo<=p.2/\p.2<n)->
  ((cellsFrom n ns acc).map (·.2)).Nodup/\∀p∈cellsFrom n ns acc,lo<=p.2
 | [],n,acc,lo,_,h1,h2=>⟨h1,fun p hp=>(h2 p hp).1⟩
 | (s,kd)::r,n,acc,lo,hl,h1,h2=>by
  unfold cellsFrom
  split
  ·refine iI r (n+1) _ lo (by lia) ?_ ?_
   ·rw [List.map_cons]
    refine List.nodup_cons.mpr ⟨fun q=>?_,h1⟩
    obtain ⟨p,hp,e⟩:=(List.mem_map.mp q)
    have:=(h2 p hp).2
    have e:p.2=n:=e
    rw [e] at this
    exact Nat.lt_irrefl _ this
   ·intro p hp
    rcases List.mem_cons.mp hp with rfl | hp
    ·exact ⟨hl,Nat.lt_succ_self _⟩
    ·exact ⟨(h2 p hp).1,Nat.lt_succ_of_lt (h2 p hp).2⟩
  ·exact iI r n acc lo hl h1 h2
end
section
inductive GF where
 | next | brk | cont
 | ret (g:GV)
inductive rJ (T:List Str) (J:az):GF->Flow->Prop
 | next:rJ T J .next .next
 | brk:rJ T J .brk .brk
 | cont:rJ T J .cont .cont
 | ret {g:GV} {v:Value}:Is T J g v->rJ T J (.ret g) (.ret v)
abbrev KS:=GF->Tr->Nat->Rn->List GV->Bool
abbrev SV:=Tr->Nat->Rn->List GV->KS->Bool
def y5(x:aR)(J:az)(env:Env)(vs:aq)(O:Heap)(L:Addr)(k:KS)(Q:Flow->Shared->Prop):Prop:=∀J' H nx R loc m s gf fl,J.le J'->St x J' H nx R O L m s->bq x J' env L m vs loc->rJ x.T J' gf fl->k gf H nx R loc=true->Q fl s
def au(x:aR)(d:Nat)(vs:aq)(f:SV)(b:List Stmt):Prop:=
 ∀H nx R loc k,f H nx R loc k=true->∀(A:Around) (env:Env) (O:Heap) (L:Addr) (m:Str->Option Value) (J:az) (s:Shared) (Q:Flow->Shared->Prop) (E:Value->Shared->Prop),
  ck x d A O L->bN env L->St x J H nx R O L m s->bq x J env L m vs loc->
  y5 x J env vs O L k Q->wpAny (model x.prog x.w) A (execs b env) Q E s
def v5(x:aR)(d:Nat)(vs:aq)(f:SV)(b:List Stmt):Prop:=
 ∀H nx R loc k,f H nx R loc k=true->∀(A:Around) (env:Env) (O:Heap) (L:Addr) (m:Str->Option Value) (J:az) (s:Shared) (Q:Flow->Shared->Prop) (E:Value->Shared->Prop),
  ck x d A O L->bN env L->St x J H nx R O L m s->bq x J env L m vs loc->((vs.all fun p=>match p.2 with | .loc=>true | .glo=>true | _=>false)=true->∀a∈J.as,@LT.lt Nat _ a L)->
  y5 x J env vs O L k Q->wpAny (model x.prog x.w) A (execs b env) Q E s
theorem au.at0{x:aR}{d:Nat}{vs:aq}{f:SV}{b:List Stmt}(h:au x d vs f b):v5 x d vs f b:=fun H nx R loc k e A env O L m J s Q E Hh En S Lo q0 hQ=>h H nx R loc k e A env O L m J s Q E Hh En S Lo hQ
structure aF where
 f:Nat
 np:Nat
 tl:List GV
 cel:List Nat
def putL(l:List GV):Nat->GV->(List GV->Bool)->Bool:=@List.rec GV (fun q0=>Nat->GV->(List GV->Bool)->Bool) (fun q0 q0 q0=>false) (fun g r ih k v c=>@Nat.rec (fun q0=>Bool) (c (v::r)) (fun k q0=>ih k v fun r=>c (g::r)) k) l
theorem qk:∀{l:List GV} {j:Nat} {v:GV} {c:List GV->Bool},putL l j v c=true->∃l',c l'=true/\∀i,aZ l' i=if i=j then v else aZ l i
 | [],_,_,_,h=>by cases h
 | g::l,0,v,c,h=>⟨v::l,h,fun i=>by cases i <;> rfl⟩
 | g::l,j+1,v,c,h=>by
  obtain ⟨l',h1,h2⟩:=qk (l:=l) (j:=j) (v:=v) (c:=fun r=>c (g::r)) h
  refine ⟨g::l',h1,fun i=>?_⟩
  cases i with
  | zero=>rfl
  | succ i=>
   show aZ l' i=_
   rw [h2]
   by_cases e:i=j
   ·subst e; rw [if_pos rfl,if_pos rfl]
   ·rw [if_neg e,if_neg (by lia)]; rfl
def vA(js:List Nat):List GV->Tr->Nat->(List GV->Tr->Nat->Bool)->Bool:=@List.rec Nat (fun q0=>List GV->Tr->Nat->(List GV->Tr->Nat->Bool)->Bool) (fun loc H nx c=>c loc H nx)
 (fun j q0 ih loc H nx c=>H.set 24 nx (.cell (aZ loc j)) fun H=>fN (Nat.succ nx) fun nx'=>putL loc j (.own nx) fun loc=>ih loc H nx' c) js
def xJ(gf:GF)(H:Tr)(nx:Nat)(R:Rn)(k:KV):Bool:=@GF.rec (fun q0=>Bool) (k .none H nx R) false false (fun g=>k g H nx R) gf
def eX(r:aF)(aO:SV)(gs:List GV)(H:Tr)(nx:Nat)(R:Rn)(k:KV):Bool:=@Bool.rec (fun q0=>Bool) false
 (fL (mA gs (nh (Nat.sub (cH gs) r.f) r.tl)) fun loc=>vA r.cel loc H nx fun loc H nx=>aO H nx R loc fun gf H nx R q0=>xJ gf H nx R k) (Nat.ble r.f (cH gs)&&Nat.ble (cH gs) r.np)
structure br (x:aR) (vs:aq) (r:aF) (fa:Addr) (body:List Stmt) (D:aV):Prop where
 look:x.K.lookup fa=some ⟨D.oc,D.od,.func (fnOf D.name D.qual (fO D.as D.df) body D.scope D.dV D.kV D.doc D.pm D.an D.cdv D.ct),D.osl⟩
 code:codeIn x.K D.cdv D.qual=true
 names:cD x.T vs D.scope.names
 nod:(vs.map (·.1)).Nodup
 co:D.scope.isCoroutine=false
 gen:D.scope.isGenerator=false
 kind:D.scope.kind=.function
 cel:r.cel=dI 0 vs []
 pars:∀(j:Nat) (s:Str),(D.as.map (·.arg))[j]?=some s->∃i kd,vs[j]?=some (i,kd)/\x.T[i]?=some s/\(kd=.loc∨kd=.cel)
 np:D.as.length=r.np
 f:r.f<=r.np
 dv:∃ds:List Value,ds.length=r.np - r.f/\((D.dV=.none/\ds=[])∨∃t oc od n sl,D.dV=.ref t/\x.K.lookup t=some ⟨oc,od,.seq ds.toArray n,sl⟩)/\(∀j v,ds[j]?=some v->d7 x.T (aZ r.tl j) v)/\∀j,ds.length<=j->aZ r.tl j=.nul
theorem Is.nul{T:List Str}{J:az}{v:Value}(h:Is T J .nul v):False:=by cases h
theorem jA:∀(l:List GV) (k:Nat),aZ l k=(l[k]?).getD .nul
 | [],_=>by simp; rfl
 | g::l,0=>rfl
 | g::l,k+1=>by rw [List.getElem?_cons_succ]; exact jA l k
theorem wi{T:List Str}(hT:T.Nodup){vs:aq}{ns:List (Str × NameKind)}(h:cD T vs ns)(nd:(vs.map (·.1)).Nodup):(ns.map (·.1)).Nodup:=by
 induction h with
 | nil=>exact List.nodup_nil
 | @cons i kd s r ns hs hb hr ih=>
  rw [List.map_cons]
  refine List.nodup_cons.mpr ⟨fun q=>?_,ih (List.nodup_cons.mp nd).2⟩
  have back:∀{r:aq} {ns:List (Str × NameKind)},cD T r ns->s∈ns.map (·.1)->i∈r.map (·.1):=by
   intro r ns hr
   induction hr with
   | nil=>intro q; simp at q
   | @cons i0 kd0 s0 r ns hs0 hb0 hr0 ih0=>
    intro q
    rw [List.map_cons] at q ⊢
    rcases List.mem_cons.mp q with e | q
    ·have:=(cF hT hs hs0).mp e
     subst this
     exact .head _
    ·exact .tail _ (ih0 q)
  exact (List.nodup_cons.mp nd).1 (back hr q)
theorem gH:∀(ns:List (Str × NameKind)) (n:Nat) (acc:List (Str × Addr)),(ns.map (·.1)).Nodup->(acc.map (·.1)).Nodup->(∀p∈acc,p.1∉ns.map (·.1))->((cellsFrom n ns acc).map (·.1)).Nodup
 | [],n,acc,_,h,_=>h
 | (s,kd)::r,n,acc,hn,ha,hd=>by
  rw [List.map_cons] at hn
  obtain ⟨n1,n2⟩:=(List.nodup_cons.mp hn)
  unfold cellsFrom
  split
  ·refine gH r _ _ n2 ?_ ?_
   ·rw [List.map_cons]
    refine List.nodup_cons.mpr ⟨fun q=>?_,ha⟩
    obtain ⟨p,hp,e⟩:=(List.mem_map.mp q)
    exact hd p hp (by rw [e]; exact .head _)
   ·intro p hp
    rcases List.mem_cons.mp hp with rfl | hp
    ·exact n1
    ·exact fun q=>hd p hp (.tail _ q)
  ·exact gH r n acc n2 ha fun p hp q=>hd p hp (.tail _ q)
theorem fz:∀(r:aq) (j:Nat) (acc:List Nat),acc.Nodup->(∀i∈acc,i<j)->(dI j r acc).Nodup
 | [],_,_,h,_=>h
 | (_,.cel)::r,j,acc,h,hl=>fz r (j+1) _ (List.nodup_cons.mpr ⟨fun q=>Nat.lt_irrefl _ (hl _ q),h⟩) fun i hi=>by
  rcases List.mem_cons.mp hi with rfl | hi
  ·exact Nat.lt_succ_self _
  ·exact Nat.lt_succ_of_lt (hl _ hi)
 | (_,.loc)::r,j,acc,h,hl=>fz r (j+1) _ h fun i hi=>Nat.lt_succ_of_lt (hl _ hi)
 | (_,.blk)::r,j,acc,h,hl=>fz r (j+1) _ h fun i hi=>Nat.lt_succ_of_lt (hl _ hi)
 | (_,.glo)::r,j,acc,h,hl=>fz r (j+1) _ h fun i hi=>Nat.lt_succ_of_lt (hl _ hi)
structure mX (x:aR) (J:az) (H:Tr) (nx:Nat) (g:Heap) (L':Addr) (h₁:Heap) (more:List (Addr × Obj)) (os:List Obj):Prop where
 nod:J.as.Nodup
 ok:∀k o,os[k]?=some o->aL x.T x.CT x.nd (x.prog,x.w) J (H.get k) o
 len:J.as.length=os.length
 nx:J.as.length=nx
 news:News g L' h₁ (more++J.as.zip os)
theorem mX.led{x:aR}{J:az}{H:Tr}{nx:Nat}{g h₁:Heap}{L':Addr}{os:List Obj}(p:mX x J H nx g L' h₁ [] os):gS x.T x.CT x.nd (x.prog,x.w) J H g L' h₁:=⟨p.nod,os,p.ok,p.len,p.news⟩
theorem zF{x:aR}{vs:aq}{cm:Str->Option Value}{g h₁:Heap}{L':Addr}:∀(js:List Nat) (cs:List (Str × Addr)) (cells:List (Addr × Obj)),i7 x.T vs js cs->CellsAre cm cs cells->∀(loc:List GV) (H:Tr) (nx:Nat) (c:List GV->Tr->Nat->Bool),vA js loc H nx c=true->
  ∀(J:az) (os:List Obj),mX x J H nx g L' h₁ cells os->(cs.map (·.2)).Nodup->(∀p∈cs,p.2∉J.as)->js.Nodup->(∀j∈js,∀i s,vs[j]?=some (i,.cel)->x.T[i]?=some s->(aZ loc j=.nul/\cm s=none)∨∃v,cm s=some v/\Is x.T J (aZ loc j) v)->
  ∃J' H' nx' loc' os',c loc' H' nx'=true/\J.le J'/\J'.ns=J.ns/\mX x J' H' nx' g L' h₁ [] os'/\(∀j,j∉js->aZ loc' j=aZ loc j)/\(∀j∈js,∀i s,vs[j]?=some (i,.cel)->x.T[i]?=some s->(∃k a,aZ loc' j=.own k/\J'.as[k]?=some a/\(s,a)∈cs))/\(js=[]->J'=J)
 | [],cs,cells,hc,hcl,loc,H,nx,c,h,J,os,P,_,_,_,_=>by
  cases hc
  cases hcl
  exact ⟨J,H,nx,loc,os,h,.refl _,rfl,P,fun q0 q0=>rfl,fun j hj=>by simp at hj,fun q0=>rfl⟩
 | j::js,cs,cells,hc,hcl,loc,H,nx,c,h,J,os,P,nd,out,jn,hv=>by
  cases hc with
  | @cons _ i s a _ cs hj hs hr=>
   cases hcl with
   | @cons _ _ o _ cells hd hcr=>
    symm
    have h:H.set 24 nx (.cell (aZ loc j)) (fun H=>fN (Nat.succ nx) fun nx'=>putL loc j (.own nx) fun loc=>vA js loc H nx' c)=true:=h
    obtain ⟨H1,a1,h⟩:=Tr.set_ok _ _ _ _ _ h
    rw [bP] at h
    obtain ⟨loc1,h,hl⟩:=qk h
    rw [List.map_cons] at nd
    obtain ⟨nd1,nd2⟩:=(List.nodup_cons.mp nd)
    obtain ⟨jn1,jn2⟩:=(List.nodup_cons.mp jn)
    have na:a∉J.as:=out _ (.head _)
    have le:J.le (J.push a):=az.le_push J a
    have oi:aL x.T x.CT x.nd (x.prog,x.w) (J.push a) (.cell (aZ loc j)) o:=by
     rcases hv j (.head _) i s hj hs with ⟨e1,e2⟩ | ⟨v,e1,e2⟩
     ·rw [e1]; rw [e2] at hd; exact .cell0 hd
     ·rw [e1] at hd; exact .cell hd (e2.more le)
    have P1:mX x (J.push a) H1 (nx+1) g L' h₁ cells (os++[o]):=by
     refine ⟨?_,fun k y hk=>?_,by simp [az.push,P.len],by simp [az.push,P.nx],?_⟩
     ·refine List.nodup_append.mpr ⟨P.nod,by simp,fun y hy z hz e=>?_⟩
      rw [List.mem_singleton.mp hz] at e
      subst e; exact na hy
     ·rw [a1]
      by_cases e:k=nx
      ·subst e
       rw [<- P.nx,P.len,List.getElem?_concat_length] at hk
       cases hk
       rw [if_pos rfl]; exact oi
      ·rw [if_neg e]
       have lt:k<os.length:=by
        have:=aN hk
        rw [List.length_append,List.length_singleton,<- P.len,P.nx] at this
        rw [<- P.len,P.nx]; lia
       rw [List.getElem?_append_left lt] at hk
       exact (P.ok k y hk).more le
     ·show News g L' h₁ (cells++(J.as++[a]).zip (os++[o]))
      rw [oz P.len]
      intro p hp
      have N:=P.news
      rcases List.mem_append.mp hp with q | q
      ·exact N p (.tail _ (List.mem_append_left _ q))
      ·rcases List.mem_append.mp q with q | q
       ·exact N p (.tail _ (List.mem_append_right _ q))
       ·rw [List.mem_singleton.mp q]; exact N _ (.head _)
    have out':∀p∈cs,p.2∉(J.push a).as:=fun p hp q=>by
     rcases List.mem_append.mp q with q | q
     ·exact out p (.tail _ hp) q
     ·exact nd1 (List.mem_map.mpr ⟨p,hp,List.mem_singleton.mp q⟩)
    have hv':∀j∈js,∀i s,vs[j]?=some (i,.cel)->x.T[i]?=some s->(aZ loc1 j=.nul/\cm s=none)∨∃v,cm s=some v/\Is x.T (J.push a) (aZ loc1 j) v:=fun j' hj' i' s' v1 v2=>by
     have ne:j'≠j:=fun q=>by subst q; exact jn1 hj'
     rw [hl,if_neg ne]
     rcases hv j' (.tail _ hj') i' s' v1 v2 with q | ⟨v,q1,q2⟩
     ·exact .inl q
     ·exact .inr ⟨v,q1,q2.more le⟩
    obtain ⟨J',H',nx',loc',os',e1,e2,e3,e4,e5,e6,q0⟩:=(zF js cs cells hr hcr loc1 H1 (nx+1) c h (J.push a) (os++[o]) P1 nd2 out' jn2 hv')
    symm
    refine ⟨J',H',nx',loc',os',e1,le.trans e2,e3,e4,fun j' hj'=>?_,fun j' hj' i' s' v1 v2=>?_,fun q=>by cases q⟩
    ·rw [e5 j' fun q=>hj' (.tail _ q),hl,if_neg fun q=>hj' (by rw [q]; exact .head _)]
    ·rcases List.mem_cons.mp hj' with q | q
     ·subst q
      rw [hj] at v1; cases v1
      rw [hs] at v2; cases v2
      refine ⟨nx,a,?_,aE e2.1 (by rw [<- P.nx]; exact eE J a),.head _⟩
      rw [e5 _ jn1,hl,if_pos rfl]
     ·obtain ⟨k,b,b1,b2,b3⟩:=(e6 j' q i' s' v1 v2)
      exact ⟨k,b,b1,b2,.tail _ b3⟩
end
section
theorem kZ{α β:Type}{l:List α}{r:List β}{p:α × β}(h:p∈l.zip r):∃j:Nat,l[j]?=some p.1/\r[j]?=some p.2:=by
 obtain ⟨j,hj⟩:=(List.mem_iff_getElem?.mp h)
 rw [List.getElem?_zip_eq_some] at hj
 exact ⟨j,hj⟩
theorem jp{α β:Type}{f:α->β}{l:List α}{j:Nat}{b:β}(h:(l.map f)[j]?=some b):∃a,l[j]?=some a/\f a=b:=by
 rw [List.getElem?_map] at h
 obtain ⟨a,h1,h2⟩:=(Option.map_eq_some_iff.mp h)
 exact ⟨a,h1,h2⟩
theorem cD.get{T:List Str}{vs:aq}{ns:List (Str × NameKind)}(h:cD T vs ns):∀{j i:Nat} {kd:SK},vs[j]?=some (i,kd)->kd≠.blk/\∃t,T[i]?=some t:=by
 induction h with
 | nil=>intro j i kd hj; simp at hj
 | cons hs hb hr ih=>
  intro j i kd hj
  cases j with
  | zero=>simp at hj; obtain ⟨rfl,rfl⟩:=hj; exact ⟨hb,_,hs⟩
  | succ j=>simp at hj; exact ih hj
theorem i7.mem{T:List Str}{vs:aq}{js:List Nat}{cs:List (Str × Addr)}(h:i7 T vs js cs){j:Nat}(q:j∈js):∃i,vs[j]?=some (i,.cel):=by
 induction h with
 | nil=>cases q
 | cons h1 h2 h3 ih=>
  rcases List.mem_cons.mp q with rfl | q
  ·exact ⟨_,h1⟩
  ·exact ih q
theorem jV:∀(r:aq) (j:Nat),(r.all fun p=>match p.2 with | .loc=>true | .glo=>true | _=>false)=true->dI j r []=[]
 | [],_,_=>rfl
 | (_,.loc)::r,j,h=>jV r (j+1) h
 | (_,.glo)::r,j,h=>jV r (j+1) h
 | (_,.cel)::r,j,h=>by cases h
 | (_,.blk)::r,j,h=>by cases h
section
variable {prog:Program} {w:World} {A A₀:Around} {s:Shared} {K:Frag} {L:Addr} {O base:Heap} {m mg mb:Str->Option Value} {news:List (Addr × Obj)} {p:Program} {loose:List Str} {mean:ExcName->Option Value}
theorem Be{env:Env}{outer:List Env}{R:Result->Shared->Prop}{name qual:Str}{params:Arguments}{body:List Stmt}{scope:Scope}{dV kV doc pm cdv ct oc:Value}{an od:Option Addr}{osl:Array (Option Value)}{f:Addr}{args:Args}{binds:List (Str × Value)}
  (B:Below A₀ base outer O) (F:Fr O L s.heap m) (X₀:K.In O) (N:News O L s.heap news) (T:Top p loose mean mg mb O) (hA:A.frames=some (env::outer)) (hf:env.frame=some L) (hke:env.scope.kind=.function)
  (ho:K.lookup f=some ⟨oc,od,.func (fnOf name qual params body scope dV kV doc pm an cdv ct),osl⟩) (hcd:codeIn K cdv qual=true) (hroom:A.depth<recursionLimit)
  (hbind:BindsTo s (fnOf name qual params body scope dV kV doc pm an cdv ct) args binds) (hkind:(binds.all fun y=>scope.names.lookup y.1 == some .local||scope.names.lookup y.1 == some .cell)=true)
  (hnd:((cellsFrom 0 scope.names []).map (·.1)).Nodup)
  (h:∀g L' h₁ tk cells,Fr O L g m->Fr g L' h₁ (bindL (envOfC qual scope L' f cdv).kindOf binds fun q0=>none)->News g L' h₁ (cells++news)->
   CellsAre (bindC (envOfC qual scope L' f cdv).kindOf binds fun q0=>none) (cellsFrom (L'+1) scope.names []) cells->Below A base (env::outer) g->K.In g->Top p loose mean mg mb g->(∀p∈news,p.1<L')->O.StaysIn g->(∀v s',LeaveK O L m g R v s'->R (.ok (.ret v)) s')->
   wpAny (model prog w) (A.deeper (envOfC qual scope L' f cdv)) (execs body (envOfC qual scope L' f cdv))
    (fun fl s'=>R (.ok (.ret (match fl with | .ret v=>v | _=>.none))) s')
    (fun e s'=>wpAny (model prog w) (A.deeper (envOfC qual scope L' f cdv)) (leaving (envOfC qual scope L' f cdv) e) (fun q0 s''=>R (.error e) s'') (fun e' s''=>R (.error e') s'') s')
    { s with heap:=h₁,toks:=tk })
  (hco:scope.isCoroutine=false) (hgen:scope.isGenerator=false) (hk:scope.kind=.function):codeAny (model prog w) A (.call (.ref f) args) R s:=by
 obtain ⟨FG,BG,st,lv⟩:=(groundX (R:=R) B F N hA hf hke)
 refine codeAny_call_function hroom ((X₀.keeps F.keep) _ _ ho) rfl hco hgen rfl (codeRec_of (X₀.keeps F.keep) hcd) (hbind _ _ _ _ ?_)
 refine wpAny_newFunctionEnv_cells hk (kindsX hkind _) fun env' he s' x=>?_
 subst he
 refine ⟨(T.nolimit.keeps F.keep).keeps x.toInCall.keep,codeAny_func ?_⟩
 obtain ⟨h₁,tk,rfl,q0⟩:=x.done
 have hk₁:=x.toInCall.keep
 obtain ⟨cells,NC,Y⟩:=(Cl.news (h₀:=s.heap) (Nat.le_refl _) fun n c hm=>⟨x.cell n c (lookup_of_mem_nodup (cellsFrom_names scope.names 0 (s.heap.objs.size+1) [] [] rfl▸hnd) hm),x.above n c hm⟩)
 refine h _ s.heap.objs.size h₁ tk cells FG ⟨x.toInCall.ns,fun b o e=>hk₁ b o (of_hideAll _ e),Nat.le_of_eq (hideAll_size _ _)⟩ (fun p hp=>?_) Y BG (X₀.keeps st) (T.keeps st) (fun p hp=>Heap.lt_size (N p hp).1) st lv
 rcases List.mem_append.mp hp with hp | hp
 ·refine ⟨(NC p hp).1,(NC p hp).2.1,?_⟩
  cases q:(hideAll s.heap (news.map (·.1))).get? p.1 with
  | none=>rfl
  | some o=>have:=of_hideAll _ q; rw [(NC p hp).2.2] at this; cases this
 ·exact ⟨hk₁ _ _ (N p hp).1,Nat.ne_of_lt (Heap.lt_size (N p hp).1),hideAll_none _ (List.mem_map_of_mem hp)⟩
end
def EP(r:aF)(gs:List GV)(H:Tr)(nx:Nat)(c:List GV->Tr->Nat->Bool):Bool:=@Bool.rec (fun q0=>Bool) false
 (fL (mA gs (nh (Nat.sub (cH gs) r.f) r.tl)) fun loc=>vA r.cel loc H nx c) (Nat.ble r.f (cH gs)&&Nat.ble (cH gs) r.np)
theorem ce1{u f p:Nat}(h:f<=u)(k:u<=p):u=min f p+min (u - f) (p - f):=by
 rw [Nat.min_eq_left (Nat.le_trans h k),Nat.min_eq_left (Nat.sub_le_sub_right k f),Nat.add_sub_cancel' h]
theorem UX{u f p:Nat}(h:f<=u):p - f - (u - f)=p - u:=Nat.sub_sub_sub_cancel_right h
theorem lX{x:aR}{d:Nat}{vs:aq}{r:aF}{fa:Addr}{body:List Stmt}{D:aV}(hT:x.T.Nodup)(hD:("__debug__" : Str)∉x.T)(ok:br x vs r fa body D)
  {gs:List GV} {H:Tr} {nx:Nat} {R:Rn} {c:List GV->Tr->Nat->Bool} (h:EP r gs H nx c=true) {A:Around} {O:Heap} {L:Addr} {m:Str->Option Value} {J:az} {s:Shared} {us:List Value} {Rr:Result->Shared->Prop}
  (Hh:ck x (d+1) A O L) (S:St x J H nx R O L m s) (iu:be x.T J gs us)
  (hB:∀g L' m' J' H' nx' loc' s' env' base outer env,c loc' H' nx'=true->J.le J'->Fr O L g m->O.StaysIn g->(∃A₀,Below A₀ base outer O)->Below A base (env::outer) g->A.frames=some (env::outer)->env.frame=some L->ck x d (A.deeper env') g L'->bN env' L'->St x J' H' nx' R g L' m' s'->bq x J' env' L' m' vs loc'->
   ((vs.all fun p=>match p.2 with | .loc=>true | .glo=>true | _=>false)=true->∀a∈J'.as,@LT.lt Nat _ a L')->(∀v s',LeaveK O L m g Rr v s'->Rr (.ok (.ret v)) s')->
   wpAny (model x.prog x.w) (A.deeper env') (execs body env') (fun fl s'=>Rr (.ok (.ret (match fl with | .ret v=>v | _=>.none))) s')
    (fun e s'=>wpAny (model x.prog x.w) (A.deeper env') (leaving env' e) (fun q0 s''=>Rr (.error e) s'') (fun e' s''=>Rr (.error e') s'') s') s'):codeAny (model x.prog x.w) A (.call (.ref fa) ⟨us,[]⟩) Rr s:=by
 obtain ⟨hc,h⟩:=aJ h
 obtain ⟨hc1,hc2⟩:=Bool.and_eq_true_iff.mp hc
 have hc1:=Nat.le_of_ble_eq_true hc1
 have hc2:=Nat.le_of_ble_eq_true hc2
 rw [cP,iu.length] at hc1 hc2
 rw [mS] at h
 symm
 obtain ⟨⟨A₀,base,outer,env,B,hA,hf,hke⟩,X,top,room,hnd,units⟩:=Hh
 obtain ⟨ds,dl,dw,dc,dn⟩:=ok.dv
 symm
 let ps:=D.as.map (·.arg)
 have pl:ps.length=r.np:=by simp [ps,ok.np]
 have fp:=ok.f
 have kd_of:∀s:Str,s∈ps->∃i kd,(i,kd)∈vs/\x.T[i]?=some s/\(kd=.loc∨kd=.cel)/\D.scope.names.lookup s=some kd.kind:=fun s hs=>by
  obtain ⟨j,hj⟩:=(List.mem_iff_getElem?.mp hs)
  obtain ⟨i,kd,h1,h2,h3⟩:=(ok.pars j s hj)
  exact ⟨i,kd,List.mem_of_getElem? h1,h2,h3,ok.names.lookup hT ok.nod h1 h2⟩
 have psn:ps.Nodup:=by
  rw [List.nodup_iff_pairwise_ne,List.pairwise_iff_getElem]
  intro a b ha hb' lt e
  obtain ⟨i,kd,h1,h2,q0⟩:=(ok.pars a ps[a] (List.getElem?_eq_getElem ha))
  obtain ⟨i',kd',h1',h2',q0⟩:=(ok.pars b ps[b] (List.getElem?_eq_getElem hb'))
  have ei:=(cF hT h2 h2').mp e
  subst ei
  have z1:(vs.map (·.1))[a]?=some i:=by rw [List.getElem?_map,h1]; rfl
  have z2:(vs.map (·.1))[b]?=some i:=by rw [List.getElem?_map,h1']; rfl
  have:=(List.getElem?_inj (aN z1) ok.nod).mp (z1.trans z2.symm)
  lia
 have e1:ps=ps.take r.f++(ps.drop r.f).take (us.length - r.f)++ps.drop us.length:=by
  rw [List.append_assoc]
  conv=>lhs; rw [<- List.take_append_drop r.f ps]
  congr 1
  conv=>lhs; rw [<- List.take_append_drop (us.length - r.f) (ps.drop r.f)]
  congr 1
  rw [List.drop_drop]; congr 1; lia
 have binds:=xb (ds:=ds) (s:=s) (fd:=fnOf D.name D.qual (fO D.as D.df) body D.scope D.dV D.kV D.doc D.pm D.an D.cdv D.ct) (vs:=us) (as:=D.as) (df:=D.df) (A:=ps.take r.f) (B:=(ps.drop r.f).take (us.length - r.f)) (C:=ps.drop us.length)
  (dB:=ds.take (us.length - r.f)) (dC:=ds.drop (us.length - r.f)) rfl (fun M Ar E Q hq=>by
   rw [List.take_append_drop] at hq
   show wpAny M Ar (seqItems? D.dV) Q E s
   rcases dw with ⟨q1,q2⟩ | ⟨t,oc,od,n,sl,q1,q2⟩
   ·rw [q1]; subst q2; exact wpAny_pure (hq none rfl)
   ·rw [q1]; exact wpAny_seqItems ((X.keeps S.fr.keep) _ _ q2) rfl (hq _ (by simp))) e1 (by rw [<- e1]; exact psn)
  (by simp only [List.length_append,List.length_take,List.length_drop]; rw [pl]; exact ce1 hc1 hc2) (by simp only [List.length_take,List.length_drop]; rw [pl,dl]) (by simp only [List.length_drop]; rw [pl,dl]; exact (UX hc1).symm)
 rw [<- e1] at binds
 let ws:=us++ds.drop (us.length - r.f)
 symm
 have wl:ws.length=ps.length:=by simp only [ws,List.length_append,List.length_drop,pl,dl]; rw [UX hc1]; exact Nat.add_sub_cancel' hc2
 obtain ⟨os,hos,el,N⟩:=S.led.at_
 symm
 have hkind:((ps.zip ws).all fun y=>D.scope.names.lookup y.1 == some .local||D.scope.names.lookup y.1 == some .cell)=true:=by
  rw [List.all_eq_true]
  intro y hy
  obtain ⟨i,kd,q0,q0,h3,h4⟩:=(kd_of y.1 (List.of_mem_zip (a:=y.1) (b:=y.2) hy).1)
  rw [h4]
  rcases h3 with rfl | rfl <;> rfl
 have nsn:=wi hT ok.names ok.nod
 refine Be B S.fr X N top hA hf hke ok.look ok.code (by lia) binds hkind (gH _ _ _ nsn List.nodup_nil (by intro p hp; cases hp)) (fun g L' h₁ tk cells Fg F' N' Y B' X' T' lt st lvK=>?_) ok.co ok.gen ok.kind
 have ca:=wq (vs:=vs) ok.names 0 (L'+1) [] [] (fun k=>by rw [Nat.zero_add]) .nil
 obtain ⟨cn1,cn2⟩:=(iI D.scope.names (L'+1) [] (L'+1) (Nat.le_refl _) List.nodup_nil (by intro p hp; cases hp))
 let loc0:=mA gs (nh (Nat.sub (cH gs) r.f) r.tl)
 have lv:∀j,(∃v,ws[j]?=some v/\Is x.T J (aZ loc0 j) v)∨(ws.length<=j/\aZ loc0 j=.nul):=fun j=>by
  have e:aZ loc0 j=if j<us.length then (gs[j]?).getD .nul else aZ r.tl (us.length - r.f+(j - us.length)):=by
   simp only [loc0]
   rw [jA,iH,kp,cP,iu.length]
   by_cases q:j<us.length
   ·rw [if_pos q,List.getElem?_append_left (by rw [iu.length]; exact q)]
   ·rw [if_neg q,List.getElem?_append_right (by rw [iu.length]; lia),iu.length,List.getElem?_drop,jA]
    rfl
  by_cases q:j<us.length
  ·left
   rw [if_pos q] at e
   obtain ⟨g0,hg⟩:∃g0,gs[j]?=some g0:=⟨_,List.getElem?_eq_getElem (by rw [iu.length]; exact q)⟩
   obtain ⟨v,v1,v2⟩:=(iu.get hg)
   refine ⟨v,?_,?_⟩
   ·simp only [ws]; rw [List.getElem?_append_left q]; exact v1
   ·rw [e,hg]; exact v2
  ·rw [if_neg q] at e
   by_cases q2:us.length - r.f+(j - us.length)<ds.length
   ·left
    obtain ⟨d0,hd⟩:∃d0,ds[us.length - r.f+(j - us.length)]?=some d0:=⟨_,List.getElem?_eq_getElem q2⟩
    refine ⟨d0,?_,?_⟩
    ·simp only [ws]
     rw [List.getElem?_append_right (by lia),List.getElem?_drop]
     exact hd
    ·rw [e]
     have:=dc _ _ hd
     exact this.is
   ·right
    refine ⟨by rw [wl,pl]; lia,?_⟩
    rw [e]
    exact dn _ (by lia)
 symm
 have slot:∀(j i:Nat) (kd:SK) (t:Str),vs[j]?=some (i,kd)->x.T[i]?=some t->(aZ loc0 j=.nul)∨∃v,Is x.T J (aZ loc0 j) v/\ps[j]?=some t/\ws[j]?=some v:=fun j i kd t h1 h2=>by
  rcases lv j with ⟨v,v1,v2⟩ | ⟨_,q⟩
  ·right
   refine ⟨v,v2,?_,v1⟩
   have jl:j<ps.length:=by rw [<- wl]; exact aN v1
   obtain ⟨i',kd',h1',h2',q0⟩:=(ok.pars j ps[j] (List.getElem?_eq_getElem jl))
   rw [h1] at h1'; cases h1'
   rw [h2] at h2'; cases h2'
   exact List.getElem?_eq_getElem jl
  ·exact .inl q
 have P:mX x J H nx g L' h₁ cells os:=⟨S.led.nod,hos,el,S.nx,N'⟩
 have outs:∀p∈cellsFrom (L'+1) D.scope.names [],p.2∉J.as:=fun p hp q=>by
  obtain ⟨kk,hk⟩:=(List.mem_iff_getElem?.mp q)
  have z1:p.2<L':=lt _ (cn hk (List.getElem?_eq_getElem (el▸aN hk)))
  have z2:=cn2 p hp
  exact Nat.lt_irrefl _ (Nat.lt_trans z1 z2)
 have cmv:∀j∈dI 0 vs [],∀i t,vs[j]?=some (i,.cel)->x.T[i]?=some t->(aZ loc0 j=.nul/\bindC (envOfC D.qual D.scope L' fa D.cdv).kindOf (ps.zip ws) (fun q0=>none) t=none)∨∃v,bindC (envOfC D.qual D.scope L' fa D.cdv).kindOf (ps.zip ws) (fun q0=>none) t=some v/\Is x.T J (aZ loc0 j) v:=fun j hj i t h1 h2=>by
  have kn:(envOfC D.qual D.scope L' fa D.cdv).kindOf t=some .cell:=ok.names.lookup hT ok.nod h1 h2
  rcases lv j with ⟨v,v1,v2⟩ | ⟨q1,q2⟩
  ·rcases slot j i .cel t h1 h2 with q | ⟨v',w1,w2,w3⟩
   ·rw [q] at v2; exact v2.nul.elim
   ·right
    exact ⟨v',(mR _ psn w2 w3).2 (by rw [kn]; intro q; cases q),w1⟩
  ·left
   refine ⟨q2,?_⟩
   rw [mI fun p hp e=>?_]
   obtain ⟨a,ha1,ha2⟩:=(kZ hp)
   obtain ⟨i',kd',h1',h2',q0⟩:=(ok.pars a p.1 ha1)
   rw [e] at h2'
   have ei:=(cF hT h2' h2).mp rfl
   subst ei
   have z1:(vs.map (·.1))[a]?=some i':=by rw [List.getElem?_map,h1']; rfl
   have z2:(vs.map (·.1))[j]?=some i':=by rw [List.getElem?_map,h1]; rfl
   have:=(List.getElem?_inj (aN z1) ok.nod).mp (z1.trans z2.symm)
   have:=aN ha1
   rw [wl] at q1
   lia
 rw [ok.cel] at h
 obtain ⟨J',H',nx',loc',os',e2,le2,ens,P',keep',cel',nocel⟩:=(zF (cm:=bindC (envOfC D.qual D.scope L' fa D.cdv).kindOf (ps.zip ws) fun q0=>none) (dI 0 vs []) _ cells ca Y loc0 H nx _ h J os P cn1 outs (fz vs 0 [] List.nodup_nil (by intro i hi; cases hi)) cmv)
 symm
 have S':St x J' H' nx' R g L' (bindL (envOfC D.qual D.scope L' fa D.cdv).kindOf (ps.zip ws) fun q0=>none) { s with heap:=h₁,toks:=tk }:=⟨P'.led,P'.nx,F',S.gens,by rw [ens]; exact S.rn⟩
 have Lo':bq x J' (envOfC D.qual D.scope L' fa D.cdv) L' (bindL (envOfC D.qual D.scope L' fa D.cdv).kindOf (ps.zip ws) fun q0=>none) vs loc':=fun j i kd hj=>by
  have ni:kd≠.blk/\∃t,x.T[i]?=some t:=ok.names.get hj
  obtain ⟨nb,t,ht⟩:=ni
  have kn:(envOfC D.qual D.scope L' fa D.cdv).kindOf t=some kd.kind:=ok.names.lookup hT ok.nod hj ht
  refine ⟨t,ht,?_,?_⟩
  ·rw [beq_eq_false_iff_ne]; intro q; rw [<- q] at hD; exact hD (List.mem_of_getElem? ht)
  ·cases kd with
   | blk=>exact absurd rfl nb
   | glo=>exact kn
   | loc=>
    refine ⟨rfl,kn,fun n=>?_⟩
    have nc:j∉dI 0 vs []:=fun q=>by
     obtain ⟨i',q⟩:=(ca.mem q)
     rw [hj] at q; cases q
    rw [keep' j nc] at n ⊢
    rcases slot j i .loc t hj ht with q | ⟨v,v1,v2,v3⟩
    ·exact absurd q n
    ·exact ⟨v,(mR _ psn v2 v3).1 kn,v1.more le2⟩
   | cel=>
    have hm:j∈dI 0 vs []:=by
     have:=kG (i:=i) (r:=vs) (j:=0) (k:=j) (acc:=[]) (.inl hj)
     rwa [Nat.zero_add] at this
    obtain ⟨kk,a,k1,k2,k3⟩:=(cel' j hm i t hj ht)
    exact ⟨kn,kk,a,k1,k2,lookup_of_mem_nodup (gH _ _ _ nsn List.nodup_nil (by intro p hp; cases hp)) k3⟩
 have Hh':ck x d (A.deeper (envOfC D.qual D.scope L' fa D.cdv)) g L':=⟨⟨A,base,env::outer,_,B',Around.frames_deeper hA,rfl,ok.kind⟩,X',T',by show A.depth+1+d<_; lia,hnd,by show A.units+3+4 * d+40<_; lia⟩
 refine hB g L' _ J' H' nx' loc' _ _ base outer env e2 le2 Fg st ⟨A₀,B⟩ B' hA hf Hh' ⟨rfl,rfl,ok.kind,rfl⟩ S' Lo' (fun q a ha=>?_) lvK
 rw [nocel (jV vs 0 q)] at ha
 obtain ⟨kk,hk⟩:=(List.mem_iff_getElem?.mp ha)
 exact lt _ (cn hk (List.getElem?_eq_getElem (el▸aN hk)))
theorem sm{x:aR}{d:Nat}{vs:aq}{r:aF}{fa:Addr}{body:List Stmt}{D:aV}{aO:SV}(hT:x.T.Nodup)(hD:("__debug__" : Str)∉x.T)(ok:br x vs r fa body D)(hb:v5 x d vs aO body)
  {gs:List GV} {H:Tr} {nx:Nat} {R:Rn} {k:KV} (h:eX r aO gs H nx R k=true) {A:Around} {O:Heap} {L:Addr} {m:Str->Option Value} {J:az} {s:Shared} {us:List Value} {Rr:Result->Shared->Prop}
  (Hh:ck x (d+1) A O L) (S:St x J H nx R O L m s) (iu:be x.T J gs us)
  (hQ:∀J' H nx R s g v,J.le J'->St x J' H nx R O L m s->Is x.T J' g v->k g H nx R=true->Rr (.ok (.ret v)) s):codeAny (model x.prog x.w) A (.call (.ref fa) ⟨us,[]⟩) Rr s:=by
 refine lX (c:=fun loc H nx=>aO H nx R loc fun gf H nx R q0=>xJ gf H nx R k) hT hD ok h Hh S iu fun g L' m' J' H' nx' loc' s1 env' base outer env e2 le2 Fg st q0 B' hA hf Hh' En' S' Lo' low lv=>?_
 refine wpAny_mono (hb H' nx' R loc' _ e2 _ _ g L' _ J' _ (fun fl s'=>LeaveK O L m g Rr (match fl with | .ret v=>v | _=>.none) s') _ Hh' En' S' Lo' low fun J'' H'' nx'' R'' loc'' m'' s'' gf fl le3 S'' Lo'' hfl hk=>?_) (fun fl s' hl=>lv _ _ hl) fun q0 q0 y=>y
 have back:Fr O L s''.heap m->News O L s''.heap _->St x J'' H'' nx'' R'' O L m s'':=fun F0 N0=>⟨⟨S''.led.nod,_,S''.led.at_.choose_spec.1,S''.led.at_.choose_spec.2.1,N0⟩,S''.nx,F0,S''.gens,S''.rn⟩
 refine ⟨L',m'',_,S''.fr,S''.led.at_.choose_spec.2.2,fun F0 N0=>?_⟩
 have S3:=back F0 N0
 cases hfl with
 | next=>exact hQ _ _ _ _ _ _ _ (le2.trans le3) S3 .none hk
 | brk=>cases hk
 | cont=>cases hk
 | ret i=>exact hQ _ _ _ _ _ _ _ (le2.trans le3) S3 i hk
end
section
section
variable {x:aR} {d:Nat} {vs:aq} {J:az} {H:Tr} {nx:Nat} {R:Rn} {O:Heap} {L:Addr} {m:Str->Option Value} {s:Shared} {A:Around} {E:Value->Shared->Prop} {Q:Value->Shared->Prop} {k:KV} {env:Env} {loc:List GV}
abbrev ce:=List GV->Tr->Nat->Rn->KV->Bool
noncomputable def bx(es:List Expr):Bool:=es.all bZ
theorem ma{e:Expr}{es:List Expr}(h:bx (e::es)=true)(env:Env):starEach (e::es) env=(false,eval e env)::starEach es env/\bx es=true:=by
 obtain ⟨h1,h2⟩:=Bool.and_eq_true_iff.mp h
 exact ⟨(by cases e <;> first | rfl | (cases h1; done)),h2⟩
theorem fK:∀{es:List Expr},bx es=true->∀(env:Env) (pos:Pos),(backTo pos (starEach es env)).any (·.1)=false
 | [],_,_,_=>rfl
 | e::es,h,env,pos=>by
  obtain ⟨h1,h2⟩:=(ma h env)
  rw [h1]
  show (false||(backTo pos (starEach es env)).any (·.1))=false
  rw [fK h2 env pos]; rfl
theorem jy{M:Model}{f:Value}{es:List Expr}{pos:Pos}{Q:Args->Shared->Prop}(hp:bx es=true)(h:wpAny M A (spliced (backTo pos (starEach es env))) (fun us s'=>Q ⟨us,[]⟩ s') E s):wpAny M A (evalArgs f true (backTo pos (starEach es env)) []) Q E s:=by
 cases es with
 | nil=>exact evalArgs_of_nil h
 | cons e es=>
  obtain ⟨h1,h2⟩:=(ma hp env)
  rw [h1] at h ⊢
  exact evalArgs_plain h
where
 evalArgs_of_nil {M:Model} {f:Value} {pos:Pos} {Q:Args->Shared->Prop} (h:wpAny M A (spliced (backTo pos (starEach [] env))) (fun us s'=>Q ⟨us,[]⟩ s') E s):wpAny M A (evalArgs f true (backTo pos (starEach [] env)) []) Q E s:=by
  unfold evalArgs
  show wpAny M A (spliced [] >>= _) Q E s
  refine wpAny_bind (wpAny_mono h (fun us s' h'=>?_) fun q0 q0 y=>y)
  refine wpAny_bind (wpAny_pure ?_)
  refine wpAny_holding ?_
  exact wpAny_bind (wpAny_pure (wpAny_bind (wpAny_pure (wpAny_pure h'))))
theorem gY{l:LV}{es:List Expr}{pos:Pos}{f:Value}{first:List Value}{kl:KL}(hl:eg x d vs l es)(hp:bx es=true)(hk:keepIn x.K f=true)(h:l H nx R loc kl=true)(Hh:ck x d A O L)(En:bN env L)(S:St x J H nx R O L m s)(Lo:bq x J env L m vs loc)
  (hQ:∀J' H nx R s gs us,J.le J'->St x J' H nx R O L m s->be x.T J' gs us->kl gs H nx R=true->wpAny (model x.prog x.w) A (call f (first++us)) Q E s):wpAny (model x.prog x.w) A (callWith pos f first (backTo pos (starEach es env)) []) Q E s:=
 callWith_of (P:=fun h=>x.K.In h) (by rw [fK hp env pos]; rfl) (keeps_K hk) (jy hp (hl H nx R loc kl h A env O L m J s pos _ E Hh En S Lo fun J' H' nx' R' s' gs us le S' i hk'=>⟨Hh.X.keeps S'.fr.keep,hQ J' H' nx' R' s' gs us le S' i hk'⟩))
theorem fq{l:LV}{es:List Expr}{pos:Pos}{id:String}{first:List Value}{kl:KL}(hl:eg x d vs l es)(hp:bx es=true)(h:l H nx R loc kl=true)(Hh:ck x d A O L)(En:bN env L)(S:St x J H nx R O L m s)(Lo:bq x J env L m vs loc)
  (hQ:∀J' H nx R s gs us,J.le J'->St x J' H nx R O L m s->be x.T J' gs us->kl gs H nx R=true->wpAny (model x.prog x.w) A (call (.builtin id) (first++us)) Q E s):wpAny (model x.prog x.w) A (callWith pos (.builtin id) first (backTo pos (starEach es env)) []) Q E s:=
 callWith_builtin (fK hp env pos) (jy hp (hl H nx R loc kl h A env O L m J s pos _ E Hh En S Lo fun J' H' nx' R' s' gs us le S' i hk'=>hQ J' H' nx' R' s' gs us le S' i hk'))
theorem nB{l:LV}{es:List Expr}{pos:Pos}{id:String}{kl:KL}(hl:eg x d vs l es)(hp:bx es=true)(h:l H nx R loc kl=true)(Hh:ck x d A O L)(En:bN env L)(S:St x J H nx R O L m s)(Lo:bq x J env L m vs loc)
  (hQ:∀J' H nx R s gs us,J.le J'->St x J' H nx R O L m s->be x.T J' gs us->kl gs H nx R=true->wpAny (model x.prog x.w) A (call (.type id) us) Q E s):wpAny (model x.prog x.w) A (callWith pos (.type id) [] (backTo pos (starEach es env)) []) Q E s:=
 PySem.callWith_type (fK hp env pos) (jy hp (hl H nx R loc kl h A env O L m J s pos _ E Hh En S Lo fun J' H' nx' R' s' gs us le S' i hk'=>hQ J' H' nx' R' s' gs us le S' i hk'))
def cL(x:aR)(d:Nat)(f:ce)(v:Value):Prop:=∀gs H nx R k,f gs H nx R k=true->∀(A:Around) (O:Heap) (L:Addr) (m:Str->Option Value) (J:az) (s:Shared) (us:List Value) (Q E:Value->Shared->Prop),
 ck x d A O L->St x J H nx R O L m s->be x.T J gs us->fw x J O L m k Q->wpAny (model x.prog x.w) A (call v us) Q E s
noncomputable def aT(o:ce)(l:LV):EV:=fun H nx R loc k=>l H nx R loc fun gs H nx R=>o gs H nx R k
theorem ik{i a:Nat}{t:Str}{v:Value}(hv:vs[i]?=some (a,.glo))(ht:x.T[a]?=some t)(hm:bp x t v)(Hh:ck x d A O L)(En:bN env L)(S:St x J H nx R O L m s)(Lo:bq x J env L m vs loc)(q:Q v s)(pos:Pos) :
  wpAny (model x.prog x.w) A (eval (.Name t pos) env) Q E s:=by
 obtain ⟨t',ht',hd,h1⟩:=(Lo i a .glo hv)
 rw [ht] at ht'; cases ht'
 have T:=topRead_of Hh.top
 rcases hm with hm | ⟨hm,hn,hb⟩
 ·exact Name_function_global En.kind h1 (loadGlobal_global (env:=env) (by rw [En.glob]; exact T.g.keeps S.fr.keep) (mg_of Hh.X T.g hm) q) hd
 ·exact Name_function_global En.kind h1 (loadGlobal_builtin (env:=env) (by rw [En.glob]; exact T.g.keeps S.fr.keep) (mg_none_of Hh.X T.g hm) (by rw [En.bui]; exact T.b.keeps S.fr.keep) ((T.builtins _ hn).trans hb) q) hd
theorem ay{i a:Nat}{t:Str}{v:Value}{o:ce}{l:LV}{es:List Expr}(hv:vs[i]?=some (a,.glo))(ht:x.T[a]?=some t)(hm:bp x t v)(ho:cL x d o v)(hl:eg x d vs l es)(hp:bx es=true)
  (hk:keepIn x.K v=true∨(∃id,v=.builtin id)∨∃id,v=.type id) (p pos:Pos):aK x d vs (aT o l) (.Call (.Name t p) es [] pos):=by
 intro H nx R loc k h A env O L m J s Q E Hh En S Lo hQ
 refine Call_Name rfl (ik hv ht hm Hh En S Lo ?_ p)
 rcases hk with hk | ⟨id,rfl⟩ | ⟨id,rfl⟩
 ·exact gY hl hp hk h Hh En S Lo fun J' H nx R s gs us le S' i hk'=>ho gs H nx R k hk' A O L m J' s us Q E Hh S' i (hQ.le le)
 ·exact fq hl hp h Hh En S Lo fun J' H nx R s gs us le S' i hk'=>ho gs H nx R k hk' A O L m J' s us Q E Hh S' i (hQ.le le)
 ·exact nB hl hp h Hh En S Lo fun J' H nx R s gs us le S' i hk'=>ho gs H nx R k hk' A O L m J' s us Q E Hh S' i (hQ.le le)
structure aU (x:aR) (d:Nat) (r:aF) (aO:SV) (fa:Addr):Prop where
 ok:∃vs body D,br x vs r fa body D/\au x d vs aO body
 keep:keepIn x.K (.ref fa)=true
 fn:isFn x.K (.ref fa)=true
theorem cE(hT:x.T.Nodup)(hD:("__debug__" : Str)∉x.T){r:aF}{aO:SV}{fa:Addr}(hf:aU x d r aO fa):cL x (d+1) (eX r aO) (.ref fa):=by
 intro gs H nx R k h A O L m J s us Q E Hh S iu hQ
 obtain ⟨vs,body,D,ok,hb⟩:=hf.ok
 exact wpAny_call (sm hT hD ok hb.at0 h Hh S iu fun J' H nx R s g v le S' i hk=>hQ J' H nx R s g v le S' i hk)
def ji(C:Nat)(r:aF)(aO:SV):ce:=fun gs H nx R k=>H.set 24 nx (.idict []) fun H=>fN (Nat.succ nx) fun n1=>H.set 24 n1 (.inst C nx) fun H=>fN (Nat.succ n1) fun n2=>eX r aO (.own n1::gs) H n2 R fun g H nx R=>lH g (k (.own n1) H nx R)
structure GK (x:aR) (d:Nat) (C:Nat) (r:aF) (aO:SV) (cx fI:Addr):Prop where
 cls:x.CT[C]?=some cx
 makes:makesIn x.K cx=true
 init:findIn x.K (.ref cx) "__init__" = some (some (.ref fI))
 fn:aU x d r aO fI
theorem St.made'{H':Tr}{h':Heap}{D:Addr}{o:Obj}{g:GO}{os:List Obj}(S:St x J H nx R O L m s)(hos:∀k o,os[k]?=some o->aL x.T x.CT x.nd (x.prog,x.w) J (H.get k) o)(e:J.as.length=os.length)
  (F':Fr O L h' m) (N':News O L h' ((D,o)::J.as.zip os)) (lt:∀p∈J.as.zip os,p.1<D) (hg:aL x.T x.CT x.nd (x.prog,x.w) (J.push D) g o) (a:At H H' nx g):St x (J.push D) H' (nx+1) R O L m { s with heap:=h' }:=(S.made hos e F' N' lt hg a s.toks).1
theorem eV(hT:x.T.Nodup)(hD:("__debug__" : Str)∉x.T){C:Nat}{r:aF}{aO:SV}{cx fI:Addr}(hc:GK x d C r aO cx fI):cL x (d+2) (ji C r aO) (.ref cx):=by
 intro gs H nx R k h A O L m J s us Q E Hh S iu hQ
 obtain ⟨H1,a1,h⟩:=Tr.set_ok _ _ _ _ _ h
 rw [bP] at h
 obtain ⟨H2,a2,h⟩:=Tr.set_ok _ _ _ _ _ h
 rw [bP] at h
 obtain ⟨os,hos,el,N⟩:=S.led.at_
 refine call_cls S.fr Hh.X N hc.makes hc.init hc.fn.fn fun X dx h' F' N' lt1 lt2=>?_
 have N1:News O L h' ((dx,dictOf [] 0)::J.as.zip os):=fun p hp=>N' p (.tail _ hp)
 have S1:St x (J.push dx) H1 (nx+1) R O L m { s with heap:=h' }:=S.made' hos el F' N1 lt1 (.idict 0 .nil) a1
 have S2:St x ((J.push dx).push X) H2 (nx+1+1) R O L m { s with heap:=h' }:=by
  obtain ⟨os1,hos1,el1,N2⟩:=S1.led.at_
  refine S1.made' hos1 el1 F' (fun p hp=>?_) (fun p hp=>?_) (.inst hc.cls (aE (az.le_push _ _).1 (by rw [<- S.nx]; exact eE J dx))) a2
  ·rcases List.mem_cons.mp hp with rfl | hp
   ·exact N' _ (.head _)
   ·exact N2 p hp
  ·have:=(List.of_mem_zip (a:=p.1) (b:=p.2) hp).1
   rcases List.mem_append.mp this with q | q
   ·obtain ⟨kk,hk⟩:=(List.mem_iff_getElem?.mp q)
    obtain ⟨o',ho'⟩:∃o',os[kk]?=some o':=⟨_,List.getElem?_eq_getElem (el▸aN hk)⟩
    have z:=lt1 (p.1,o') (cn hk ho')
    exact Nat.lt_trans z lt2
   ·rw [List.mem_singleton.mp q]; exact lt2
 have le:J.le ((J.push dx).push X):=(az.le_push _ _).trans (az.le_push _ _)
 have ix:Is x.T ((J.push dx).push X) (.own (nx+1)) (.ref X):=.own (by have:=eE (J.push dx) X; rw [S1.nx] at this; exact this)
 obtain ⟨vs',body,D,ok,hb⟩:=hc.fn.ok
 have Hu:ck x (d+1) (A.under (.builtin "type.__call__" ⟨.ref cx::us,[]⟩)) O L:=by
  obtain ⟨⟨A₀,base,outer,env,B,hA,hf,hke⟩,X,top,room,hnd,units⟩:=Hh
  refine ⟨⟨A₀,base,outer,env,B,?_,hf,hke⟩,X,top,?_,hnd,?_⟩
  ·exact hA
  ·show A.depth+1+(d+1)<_; lia
  ·show A.units+1+4 * (d+1)+40<_; lia
 refine sm hT hD ok hb.at0 h Hu S2 (.cons ix (iu.more le)) fun J' H nx R s g v le' S' i hk=>?_
 obtain ⟨rfl,hk⟩:=lI hk
 cases i
 exact ⟨rfl,hQ _ _ _ _ _ _ _ (le.trans le') S' (ix.more le') hk⟩
end
end
section
section
variable {x:aR} {d:Nat} {vs:aq} {J:az} {H:Tr} {nx:Nat} {R:Rn} {O:Heap} {L:Addr} {m:Str->Option Value} {s:Shared} {A:Around} {E:Value->Shared->Prop} {Q:Value->Shared->Prop} {k:KV} {env:Env} {loc:List GV}
noncomputable def jb:Expr->Bool
 | .Call (.Name _ _) [] [] _=>false
 | _=>true
theorem BE{o:Expr}{name:Str}{e:Env}{w:Sem Value}(hc:jb o=true):attributeBase o name e w=w:=by
 cases o with
 | Call f a k p=>
  cases f with
  | Name id q=>cases a with
   | nil=>cases k with
    | nil=>cases hc
    | cons _ _=>rfl
   | cons _ _=>rfl
  | _=>rfl
 | _=>rfl
theorem fc{prog:Program}{w:World}{o:Expr}{name:Str}{apos pos:Pos}{args:List Expr}(hc:jb o=true)(hp:bx args=true)(hline:(apos.endLine == pos.line)=true)(hn:args.length<30)
  (h:wpAny (model prog w) A (eval o env) (fun ov s₁=>∀pl,wpAny (model prog w) A (getMethod ov name pl) (fun fx s₂=>wpAny (model prog w) A (callWith pos fx.1 fx.2 (backTo pos (starEach args env)) []) Q E s₂) E s₁) E s) :
  wpAny (model prog w) A (eval (.Call (.Attribute o name apos) args [] pos) env) Q E s:=by
 have hbase:attributeBase o name env (eval o env)=eval o env:=BE hc
 rw [arm_eval_Call,hbase]
 refine wpAny_bind (wpAny_mono h (fun ov s₁ h₁=>?_) fun q0 q0 e=>e)
 refine wpAny_bind (wpAny_standAt ?_)
 have hall:((backTo pos (starEach args env)).all fun y=>!y.1)=true:=by
  rw [List.all_eq_true]
  intro y hy
  have:=fK hp env pos
  rw [List.any_eq_false] at this
  cases q:y.1 with
  | false=>rfl
  | true=>exact absurd q (this y hy)
 have hform:methodCallForm (args.length+([]:List Keyword).length) (backTo pos (starEach args env)) (backToKw pos (keywordEach [] env))=true:=by
  unfold methodCallForm
  rw [hall]
  show (true&&true&&decide (args.length+0+0<30))=true
  simpa using hn
 have hpos:methodCallPos true o env apos pos=pure pos:=by unfold methodCallPos; simp [hline]
 unfold methodCall
 rw [hform]
 refine wpAny_bind (wpAny_holding (wpAny_mono (h₁ _) (fun fx s₂ h₂=>?_) fun q0 q0 e=>e))
 exact wpAny_bind (wpAny_of_eq hpos h₂)
abbrev nK:=List (List (Nat × Nat × aF))
def xI(a:Nat)(k:Nat->aF->Bool)(l:List (Nat × Nat × aF)):Bool:=@List.rec (Nat × Nat × aF) (fun q0=>Bool) false (fun p q0 ih=>@Bool.rec (fun q0=>Bool) ih (k p.2.1 p.2.2) (Nat.beq p.1 a)) l
theorem wC{a:Nat}{k:Nat->aF->Bool}:∀{l:List (Nat × Nat × aF)},xI a k l=true->∃j r,(a,j,r)∈l/\k j r=true
 | [],h=>by cases h
 | p::l,h=>by
  have e:xI a k (p::l)=@Bool.rec (fun q0=>Bool) (xI a k l) (k p.2.1 p.2.2) (Nat.beq p.1 a):=rfl
  rw [e] at h
  cases q:Nat.beq p.1 a with
  | true=>rw [q] at h; have:=Nat.eq_of_beq_eq_true q; obtain ⟨b,j,r⟩:=p; subst this; exact ⟨j,r,.head _,h⟩
  | false=>rw [q] at h; obtain ⟨j,r,h1,h2⟩:=(wC h); exact ⟨j,r,.tail _ h1,h2⟩
def Px(mt:nK):Nat->(List (Nat × Nat × aF)->Bool)->Bool:=@List.rec (List (Nat × Nat × aF)) (fun q0=>Nat->(List (Nat × Nat × aF)->Bool)->Bool) (fun q0 q0=>false) (fun p q0 ih C k=>@Nat.rec (fun q0=>Bool) (k p) (fun C q0=>ih C k) C) mt
theorem xB:∀{mt:nK} {C:Nat} {k:List (Nat × Nat × aF)->Bool},Px mt C k=true->∃l,mt[C]?=some l/\k l=true
 | [],_,_,h=>by cases h
 | p::mt,0,k,h=>⟨p,rfl,h⟩
 | p::mt,C+1,k,h=>by rw [List.getElem?_cons_succ]; exact xB (mt:=mt) (C:=C) (k:=k) h
def uU(x:aR)(d:Nat)(mt:nK)(aO:Nat->SV):Prop:=∀(C:Nat) (l:List (Nat × Nat × aF)),mt[C]?=some l->∀a j r,(a,j,r)∈l->∃cx t fI,x.CT[C]?=some cx/\x.T[a]?=some t/\plainGet x.K cx t=true/\findIn x.K (.ref cx) t=some (some (.ref fI))/\aU x d r (aO j) fI
def zV(es:List (Nat × GV))(a:Nat)(b:Bool):Bool:=@GV.rec (fun q0=>Bool) b false (fun q0=>false) (fun q0=>false) (fun q0=>false) (fun q0=>false) (fun q0=>false) (fun q0=>false) false (dZ es a)
theorem vP{es:List (Nat × GV)}{a:Nat}{b:Bool}(h:zV es a b=true):dZ es a=.nul/\b=true:=by
 unfold zV at h
 cases q:dZ es a <;> rw [q] at h <;> first | (cases h; done) | exact ⟨rfl,h⟩
def bO(mt:nK)(aO:Nat->SV)(f:EV)(a:Nat)(l:LV):EV:=fun H nx R loc k=>f H nx R loc fun g H nx R=>bU g fun i=>hV (H.get i) fun C dd=>eM (H.get dd) fun es=>zV es a (Px mt C fun row=>xI a (fun j r=>l H nx R loc fun gs H nx R=>eX r (aO j) (g::gs) H nx R k) row)
theorem dh.none{T:List Str}(hT:T.Nodup){nd:Nat}{es:List (Nat × GV)}{ds:List DictEntry}(h:dh T nd J es ds){a:Nat}{t:Str}(ht:T[a]?=some t)(ha:dZ es a=.nul):getL t ds=some none:=by
 induction h with
 | nil=>rfl
 | @cons i y g' d' u es ds lt hi hk hv r ih=>
  have e:dZ ((i,g')::es) a=@Bool.rec (fun q0=>GV) (dZ es a) g' (Nat.beq i a):=rfl
  rw [e] at ha
  have ne:Nat.beq i a=false:=by
   cases q:Nat.beq i a with
   | false=>rfl
   | true=>
    rw [q] at ha
    have ha:g'=.nul:=ha
    rw [ha] at hv
    cases hv
  rw [ne] at ha
  have key:d'.key.isStr t=false:=by
   rw [hk]
   show (y == t)=false
   rw [beq_eq_false_iff_ne]
   intro q
   have:=(cF hT hi ht).mp q
   exact Nat.ne_of_beq_eq_false ne this
  have nr:d'.refKey=false:=by unfold DictEntry.refKey; rw [hk]
  have ih:=ih ha
  unfold getL at ih ⊢
  rw [List.find?_cons,key,List.any_cons,nr,Bool.false_or]
  exact ih
theorem bo(hT:x.T.Nodup)(hD:("__debug__" : Str)∉x.T){mt:nK}{aO:Nat->SV}(hm:uU x d mt aO){f:EV}{o:Expr}{a:Nat}{t:Str}{l:LV}{es:List Expr}(hf:aK x (d+1) vs f o)(hl:eg x (d+1) vs l es)(ht:x.T[a]?=some t)
  (hc:jb o=true) (hp:bx es=true) {apos pos:Pos} (hline:(apos.endLine == pos.line)=true) (hn:es.length<30):aK x (d+1) vs (bO mt aO f a l) (.Call (.Attribute o t apos) es [] pos):=by
 intro H nx R loc k h A env O L m J s Q E Hh En S Lo hQ
 refine fc hc hp hline hn (hf H nx R loc _ h A env O L m J s _ E Hh En S Lo fun J1 H1 nx1 R1 s1 g v1 le1 S1 i1 h1 pl=>?_)
 symm
 obtain ⟨i,rfl,h2⟩:=bn h1
 obtain ⟨C,dd,hi,h3⟩:=fg h2
 obtain ⟨es',hd,h4⟩:=dL h3
 obtain ⟨nn,h4b⟩:=(vP h4)
 obtain ⟨row,hrow,h5⟩:=(xB h4b)
 obtain ⟨j,r,hj,h6⟩:=(wC h5)
 obtain ⟨cx,t',fI,c1,c2,c4,c5,c6⟩:=(hm C row hrow a j r hj)
 symm
 rw [ht] at c2; cases c2
 symm
 obtain ⟨q0,rfl,ha⟩:=i1
 obtain ⟨cx',dx,ds,n,e1,e2,e3,e4⟩:=(S1.led.inst (l:=0) hi hd ha)
 symm
 rw [c1] at e1; cases e1
 refine method_inst S1.fr Hh.X e4 c4 c5 c6.fn (e3.none hT ht nn) ?_
 exact gY hl hp c6.keep h6 Hh En S1 (Lo.more le1) fun J' H nx R s gs us le S' iu hk'=>
  cE hT hD c6 _ H nx R k hk' A O L m J' s _ Q E Hh S' (.cons (Is.own (aE le.1 ha)) iu) (hQ.le (le1.trans le))
theorem MH{news news':List (Addr × Obj)}{D b:Addr}{its its2:Array Value}{n n2:Nat}{l:List Value}(F:Fr O L s.heap m)(N:News O L s.heap news)(hb:(b,listOf its2 n2)∈news)(e:its.toList++its2.toList=l)(hne:its2.toList.length≠0)
  (U:Upd D (listOf its n) (listOf l.toArray (n+1)) news news') (hd:¬(!its.isEmpty&&Builtin.List.listTooLong (its.size+its2.size))=true) (hz:its.toList.length<=sizeLine) (hz2:its.size+its2.size<=sizeLine+1)
  (h:∀h',Fr O L h' m->News O L h' news'->Q .none { s with heap:=h' }):wpAny (model x.prog x.w) A (call (.builtin "list.extend") [.ref D,.ref b]) Q E s:=by
 symm
 obtain ⟨pre,post,rfl,rfl,a,c⟩:=U.split
 symm
 have z:=N (D,listOf its n) (List.mem_append.mpr (.inr (.head _)))
 refine call_meets PySem.F.slot_list_extend ⟨_,z.1,rfl⟩ PySem.F.entry_list_extend (PySem.F.args_list_extend_2 _ _) (PySem.AutoSeq1.list_extend_list_list_0 D its n b its2 n2 hd (by simpa using hz) hz2) ⟨z.1,(N _ hb).1,h _ (F.change (Heap.SameBut.update ..) z.2.1 z.2.2) (kl_turn _ N a c ?_ ?_)⟩
 ·subst e
  apply Array.toList_inj.mp
  simp
 ·subst e
  simp at hne ⊢
  exact hne
theorem mT{l:List GV}{a b:Bool}(h:nR l a b=true):(l=[]/\a=true)∨(l≠[]/\b=true):=by cases l <;> first | exact .inl ⟨rfl,h⟩ | exact .inr ⟨(by intro e; cases e),h⟩
def jo(gs:List GV)(k:GV->Bool):Bool:=@List.rec GV (fun q0=>Bool) false (fun g r q0=>nR r (k g) false) gs
theorem fy{gs:List GV}{k:GV->Bool}(h:jo gs k=true):∃g,gs=[g]/\k g=true:=by
 cases gs with
 | nil=>cases h
 | cons g r=>
  rcases mT h with ⟨rfl,h⟩ | ⟨_,h⟩
  ·exact ⟨g,rfl,h⟩
  ·cases h
def jB(i:Nat)(l:List GV)(H:Tr)(k:Tr->Bool):Bool:=fL l fun l=>H.set 24 i (.list l) k
theorem jw{i:Nat}{l:List GV}{k:Tr->Bool}(h:jB i l H k=true):∃H',At H H' i (.list l)/\k H'=true:=by
 unfold jB at h
 rw [mS] at h
 exact Tr.set_ok _ _ _ _ _ h
def fP(i:Nat):ce:=fun gs H nx R k=>ef (H.get i) fun l=>@Bool.rec (fun q0=>Bool) false (jo gs fun g=>jB i (mA l [g]) H fun H=>k .none H nx R) (fj 1000 l)
def BX(i:Nat):ce:=fun gs H nx R k=>ef (H.get i) fun l=>@Bool.rec (fun q0=>Bool) false (jo gs fun g=>bU g fun j=>ef (H.get j) fun l2=>@Bool.rec (fun q0=>Bool) false (nR l2 (k .none H nx R) (jB i (mA l l2) H fun H=>k .none H nx R)) (fj 1000 l2)) (fj 1000 l)
def EW(i:Nat):ce:=fun gs H nx R k=>ef (H.get i) fun l=>@Bool.rec (fun q0=>Bool) false (jo gs fun g=>eG g fun z=>@Bool.rec (fun q0=>Bool) false (@List.rec GV (fun q0=>Bool) false (fun g r q0=>jB i r H fun H=>k g H nx R) l) (cV z (.ofNat 0))) (fj 1000 l)
def oy(x:aR)(d:Nat)(id:String)(op:Nat->ce):Prop:=∀i gs H nx R k,op i gs H nx R k=true->∀(A:Around) (O:Heap) (L:Addr) (m:Str->Option Value) (J:az) (s:Shared) (a:Addr) (us:List Value) (Q E:Value->Shared->Prop),
 ck x d A O L->St x J H nx R O L m s->J.as[i]?=some a->be x.T J gs us->fw x J O L m k Q->wpAny (model x.prog x.w) A (call (.builtin id) (.ref a::us)) Q E s
theorem St.lst'(S:St x J H nx R O L m s){i:Nat}{a:Addr}{l:List GV}(ha:J.as[i]?=some a)(hl:H.get i=.list l){os:List Obj}(hos:∀k o,os[k]?=some o->aL x.T x.CT x.nd (x.prog,x.w) J (H.get k) o)(e:J.as.length=os.length)(N:News O L s.heap (J.as.zip os)) :
  ∃us n,os[i]?=some (listOf (List.toArray us) n)/\be x.T J l us/\(a,listOf (List.toArray us) n)∈J.as.zip os:=by
 symm
 obtain ⟨o,ho⟩:∃o,os[i]?=some o:=⟨_,List.getElem?_eq_getElem (e▸aN ha)⟩
 have:=hos i o ho
 rw [hl] at this
 obtain ⟨q0,n,rfl,hs⟩:=this
 symm
 exact ⟨_,n,ho,hs,cn ha ho⟩
theorem uG{α:Type}:∀{l:List α} {i:Nat} {o:α},l[i]?=some o->l.set i o=l
 | [],_,_,h=>by simp at h
 | y::l,0,o,h=>by simp at h; subst h; rfl
 | y::l,i+1,o,h=>by simp at h ⊢; exact uG h
theorem dz:oy x d "list.append" fP:=by
 intro i gs H nx R k h A O L m J s a us Q E Hh S ha iu hQ
 obtain ⟨l,hl,h⟩:=cY h
 obtain ⟨hz,h⟩:=aJ h
 obtain ⟨g,rfl,h⟩:=fy h
 obtain ⟨H',hA,h⟩:=jw h
 obtain ⟨os,hos,el,N⟩:=S.led.at_
 obtain ⟨vs,n,ho,hs,hm⟩:=(S.lst' ha hl hos el N)
 obtain ⟨v,q0,rfl,i1,i2⟩:=fA iu
 obtain rfl:=nM i2
 refine append_K (its:=vs.toArray) (n:=n) S.fr N (ey S.led.nod ha ho) (fun h' F' N'=>?_) (by rw [List.size_toArray,<- hs.length]; exact Nat.le_trans (cX hz) (by decide))
 have q:vs.toArray.push v=(vs++[v]).toArray:=by simp
 rw [q] at N'
 rw [iH] at hA
 exact hQ.here (S.set hos el F' ha N' (.list (n+1) (hs.snoc i1)) hA s.toks) .none h
theorem xd:oy x d "list.extend" BX:=by
 intro i gs H nx R k h A O L m J s a us Q E Hh S ha iu hQ
 obtain ⟨l,hl,h1⟩:=cY h
 obtain ⟨hz,h2⟩:=aJ h1
 obtain ⟨g,rfl,h3⟩:=fy h2
 obtain ⟨j,rfl,h4⟩:=bn h3
 obtain ⟨l2,hl2,h5⟩:=cY h4
 obtain ⟨hz2,h6⟩:=aJ h5
 have hz:=cX hz
 have hz2:=cX hz2
 obtain ⟨os,hos,el,N⟩:=S.led.at_
 obtain ⟨vs,n,ho,hs,hm⟩:=(S.lst' ha hl hos el N)
 obtain ⟨q0,q0,rfl,i1,i2⟩:=fA iu
 obtain rfl:=nM i2
 obtain ⟨q0,rfl,hc⟩:=i1
 obtain ⟨ws,n2,ho2,hs2,hm2⟩:=(S.lst' hc hl2 hos el N)
 have sl:=sizeLine_eq
 have len1:=hs.length
 have len2:=hs2.length
 have hd:¬(!vs.toArray.isEmpty&&Builtin.List.listTooLong (vs.toArray.size+ws.toArray.size))=true:=by
  rw [List.size_toArray,List.size_toArray]
  intro q
  obtain ⟨q0,q⟩:=Bool.and_eq_true_iff.mp q
  unfold Builtin.List.listTooLong at q
  have:=of_decide_eq_true q
  lia
 rcases mT h6 with ⟨rfl,h7⟩ | ⟨ne,h7⟩
 ·cases hs2
  refine kxn_extend (its:=vs.toArray) (its2:=#[]) (n:=n) S.fr N hm2 rfl (ey (o':=listOf vs.toArray n) S.led.nod ha ho) hd (by show vs.length<=_; lia) (by simp; lia) fun h' F' N'=>?_
  rw [uG ho] at N'
  exact hQ.here (⟨⟨S.led.nod,os,hos,el,N'⟩,S.nx,F',S.gens,S.rn⟩:St x J H nx R O L m { s with heap:=h' }) .none h7
 ·obtain ⟨H',hA,h8⟩:=jw h7
  refine MH (its:=vs.toArray) (its2:=ws.toArray) (n:=n) S.fr N hm2 rfl ?_ (ey S.led.nod ha ho) hd (by show vs.length<=_; lia) (by simp; lia) fun h' F' N'=>?_
  ·show ws.length≠0
   rw [<- len2]; intro q; exact ne (List.length_eq_zero_iff.mp q)
  ·rw [iH] at hA
   exact hQ.here (S.set hos el F' ha N' (.list (n+1) (hs.append hs2)) hA s.toks) .none h8
theorem BD:oy x d "list.pop" EW:=by
 intro i gs H nx R k h A O L m J s a us Q E Hh S ha iu hQ
 obtain ⟨l,hl,h1⟩:=cY h
 obtain ⟨hz,h2⟩:=aJ h1
 obtain ⟨g,rfl,h3⟩:=fy h2
 obtain ⟨z,rfl,h4⟩:=cR h3
 obtain ⟨hq,h5⟩:=aJ h4
 have hq:z=0:=eq_of_beq (cr hq)
 subst hq
 cases l with
 | nil=>cases h5
 | cons g r=>
  obtain ⟨H',hA,h6⟩:=jw h5
  obtain ⟨os,hos,el,N⟩:=S.led.at_
  obtain ⟨vs,n,ho,hs,hm⟩:=(S.lst' ha hl hos el N)
  obtain ⟨y,ys,rfl,hy,hr⟩:=fA hs
  obtain ⟨q0,q0,rfl,i1,i2⟩:=fA iu
  obtain rfl:=nM i2
  obtain ⟨t,rfl,o⟩:=i1
  refine kl_popAt (its:=(y::ys).toArray) (n:=n) (k:=0) (p:=[]) (y:=y) (q:=ys) S.fr N rfl ?_ rfl (ey S.led.nod ha ho) ?_ fun h' F' N'=>?_
  ·show seqIndex? 0 _=some 0
   unfold seqIndex?
   simp
  ·have:=cX hz
   have:=hr.length
   have sl:=sizeLine_eq
   simp at *
   lia
  ·exact hQ.here (S.set hos el F' ha N' (.list (n+1) hr) hA s.toks) hy h6
def gD(op:Nat->ce)(f:EV)(l:LV):EV:=fun H nx R loc k=>f H nx R loc fun g H nx R=>bU g fun i=>ef (H.get i) fun q0=>l H nx R loc fun gs H nx R=>op i gs H nx R k
theorem cZ{id:String}{t:Str}(slot:Slot "list" t id)(ty:typeOf (.builtin id)=pure (.type "method_descriptor")){op:Nat->ce}(ho:oy x d id op){f:EV}{o:Expr}{l:LV}{es:List Expr}(hf:aK x d vs f o)(hl:eg x d vs l es)
  (hc:jb o=true) (hp:bx es=true) {apos pos:Pos} (hline:(apos.endLine == pos.line)=true) (hn:es.length<30):aK x d vs (gD op f l) (.Call (.Attribute o t apos) es [] pos):=by
 intro H nx R loc k h A env O L m J s Q E Hh En S Lo hQ
 refine fc hc hp hline hn (hf H nx R loc _ h A env O L m J s _ E Hh En S Lo fun J1 H1 nx1 R1 s1 g v1 le1 S1 i1 h1 pl=>?_)
 symm
 obtain ⟨i,rfl,h2⟩:=bn h1
 obtain ⟨l0,hl0,h3⟩:=cY h2
 obtain ⟨q0,rfl,ha⟩:=i1
 obtain ⟨os,hos,el,N⟩:=S1.led.at_
 obtain ⟨gA,n,ho0,hs,hm⟩:=(S1.lst' ha hl0 hos el N)
 symm
 refine kl_method N hm slot ty ?_
 exact fq hl hp h3 Hh En S1 (Lo.more le1) fun J' H nx R s gs us le S' iu hk'=>ho i gs H nx R k hk' A O L m J' s _ us Q E Hh S' (aE le.1 ha) iu (hQ.le (le1.trans le))
end
end
section
abbrev wL:=Tr->Nat->Rn->List GV->Bool
abbrev AV:=GV->Tr->Nat->Rn->List GV->wL->Bool
def lU(x:aR)(J:az)(env:Env)(vs:aq)(O:Heap)(L:Addr)(k:wL)(Q:Unit->Shared->Prop):Prop:=
 ∀J' H nx R loc m s,J.le J'->St x J' H nx R O L m s->bq x J' env L m vs loc->k H nx R loc=true->Q () s
def dQ(x:aR)(d:Nat)(vs:aq)(f:AV)(t:Expr):Prop:=
 ∀g H nx R loc k,f g H nx R loc k=true->∀(A:Around) (env:Env) (O:Heap) (L:Addr) (m:Str->Option Value) (J:az) (s:Shared) (v:Value) (Q:Unit->Shared->Prop) (E:Value->Shared->Prop),
  ck x d A O L->bN env L->St x J H nx R O L m s->bq x J env L m vs loc->Is x.T J g v->lU x J env vs O L k Q->wpAny (model x.prog x.w) A (assign t env v) Q E s
section
variable {x:aR} {d:Nat} {vs:aq} {J:az} {H:Tr} {nx:Nat} {R:Rn} {O:Heap} {L:Addr} {m:Str->Option Value} {s:Shared} {A:Around} {E:Value->Shared->Prop} {env:Env} {loc:List GV}
theorem lU.le{J':az}{k:wL}{Q:Unit->Shared->Prop}(le:J.le J')(h:lU x J env vs O L k Q):lU x J' env vs O L k Q:=fun J'' H nx R loc m s l=>h J'' H nx R loc m s (le.trans l)
theorem St.ext(S:St x J H nx R O L m s){h':Heap}(he:Heap.ExtBut s.heap.objs.size s.heap h')(tk:Nat):St x J H nx R O L m { s with heap:=h',toks:=tk }:=by
 obtain ⟨os,hos,el,N⟩:=S.led.at_
 exact ⟨⟨S.led.nod,os,hos,el,N.extBut he (Nat.le_refl _)⟩,S.nx,S.fr.extBut he (Nat.le_refl _),S.gens,S.rn⟩
def bt(j:Nat):AV:=fun g H nx R loc k=>putL loc j g fun loc=>k H nx R loc
def aA(x:aR)(vs:aq):Prop:=x.T.Nodup/\(vs.map (·.1)).Nodup
theorem sI(hs:aA x vs){j j' i i':Nat}{kd kd':SK}{t:Str}(h1:vs[j]?=some (i,kd))(h2:vs[j']?=some (i',kd'))(t1:x.T[i]?=some t)(t2:x.T[i']?=some t):j=j':=by
 have:=(cF hs.1 t1 t2).mp rfl
 subst this
 have z1:(vs.map (·.1))[j]?=some i:=by rw [List.getElem?_map,h1]; rfl
 have z2:(vs.map (·.1))[j']?=some i:=by rw [List.getElem?_map,h2]; rfl
 exact (List.getElem?_inj (aN z1) hs.2).mp (z1.trans z2.symm)
theorem oV(hs:aA x vs){j i:Nat}{t:Str}(hv:vs[j]?=some (i,.loc))(ht:x.T[i]?=some t){g:GV}{v:Value}{k:wL}{Q:Unit->Shared->Prop}(h:bt j g H nx R loc k=true)
  (S:St x J H nx R O L m s) (Lo:bq x J env L m vs loc) (En:bN env L) (iv:Is x.T J g v) (hQ:lU x J env vs O L k Q):wpAny (model x.prog x.w) A (storeName env t v) Q E s:=by
 obtain ⟨loc',h,hl⟩:=qk h
 obtain ⟨t',ht',hd,h1,h2,h3⟩:=(Lo j i .loc hv)
 rw [ht] at ht'; cases ht'
 refine wpAny_storeName_local (m:=m) h2 (h1▸S.fr.ns) (fun h' hn hsb=>?_) (by rw [En.kind]; rfl)
 rw [h1] at hn hsb
 have nL:=S.led.notL
 have S':St x J H nx R O L (fun y=>if y=t then some v else m y) { s with heap:=h',toks:=s.toks+1 }:=
  ⟨S.led.keep fun a ha=>hsb.2 a fun e=>nL (e▸ha),S.nx,S.fr.set hn hsb,S.gens,S.rn⟩
 refine hQ J H nx R loc' _ _ (.refl _) S' (fun j' i' kd' hj'=>?_) h
 obtain ⟨u,hu,hdu,sl⟩:=(Lo j' i' kd' hj')
 refine ⟨u,hu,hdu,?_⟩
 by_cases e:j'=j
 ·subst e
  rw [hv] at hj'; cases hj'
  rw [ht] at hu; cases hu
  refine ⟨h1,h2,fun q0=>⟨v,if_pos rfl,?_⟩⟩
  rw [hl,if_pos rfl]; exact iv
 ·have en:aZ loc' j'=aZ loc j':=by rw [hl,if_neg e]
  have ne:u≠t:=fun q=>by subst q; exact e (sI hs hj' hv hu ht)
  rw [en]
  cases kd' with
  | loc=>exact ⟨sl.1,sl.2.1,fun n=>let ⟨v',a,b⟩:=sl.2.2 n; ⟨v',by show (if u=t then _ else _)=_; rw [if_neg ne]; exact a,b⟩⟩
  | cel=>exact sl
  | blk=>exact sl
  | glo=>exact sl
theorem my(hs:aA x vs){j i:Nat}{t:Str}(hv:vs[j]?=some (i,.loc))(ht:x.T[i]?=some t)(pos:Pos):dQ x d vs (bt j) (.Name t pos):=by
 intro g H nx R loc k h A env O L m J s v Q E Hh En S Lo iv hQ
 exact wpAny_assign_Name (oV hs hv ht h S Lo En iv hQ)
def OO(j:Nat):AV:=fun g H nx R loc k=>eH g (bU (aZ loc j) fun c=>vB (H.get c) fun q0=>H.set 24 c (.cell g) fun H=>k H nx R loc)
theorem AM{j i:Nat}{t:Str}(hv:vs[j]?=some (i,.cel))(ht:x.T[i]?=some t)(pos:Pos):dQ x d vs (OO j) (.Name t pos):=by
 intro g H nx R loc k h A env O L m J s v Q E Hh En S Lo iv hQ
 symm
 obtain ⟨q0,h1⟩:=cQ h
 obtain ⟨c,hc,h2⟩:=bn h1
 obtain ⟨g0,hg,h3⟩:=sF h2
 obtain ⟨H',hA,h4⟩:=Tr.set_ok _ _ _ _ _ h3
 obtain ⟨t',ht',hd,k1,c',ca,k2,k3,k4⟩:=(Lo j i .cel hv)
 symm
 rw [ht] at ht'; cases ht'
 rw [hc] at k2; cases k2
 symm
 obtain ⟨o,o1,q0,q0,o2⟩:=(S.led.obj k3)
 rw [hg] at o2
 have cell:∃v0,s.heap.IsCell ca v0:=by
  rcases o2 with ⟨_,q⟩ | ⟨_,q,_⟩
  ·exact ⟨none,o,o1,q⟩
  ·exact ⟨_,o,o1,q⟩
 obtain ⟨v0,hc0⟩:=cell
 symm
 refine wpAny_assign_Name (wpAny_storeName_cell En.kind k1 k4 hc0 fun h' hv' hsb=>?_)
 obtain ⟨o',ho',hd'⟩:=hv'
 exact hQ J H' nx R loc m _ (.refl _) (S.upd k3 hsb ho' (.cell hd' iv) hA s.toks) Lo h4
def gM(i:Nat)(g:GV)(l:List (Nat × GV))(k:List (Nat × GV)->Bool):Bool:=@List.rec (Nat × GV) (fun q0=>(List (Nat × GV)->Bool)->Bool) (fun k=>k [(i,g)]) (fun p r ih k=>@Bool.rec (fun q0=>Bool) (ih fun r=>k (p::r)) (k ((i,g)::r)) (Nat.beq p.1 i)) l k
theorem w5{i:Nat}{g:GV}:∀{l:List (Nat × GV)} {k:List (Nat × GV)->Bool},gM i g l k=true->∃l',k l'=true/\∀a,l'.lookup a=if a=i then some g else l.lookup a
 | [],k,h=>⟨_,h,fun a=>by
   rw [List.lookup_cons]
   by_cases e:a=i
   ·subst e; simp
   ·have:(a == i)=false:=by simpa using e
    rw [this,if_neg e]⟩
 | p::r,k,h=>by
  have e:gM i g (p::r) k=@Bool.rec (fun q0=>Bool) (gM i g r fun r=>k (p::r)) (k ((i,g)::r)) (Nat.beq p.1 i):=rfl
  rw [e] at h
  cases q:Nat.beq p.1 i with
  | true=>
   rw [q] at h
   have:=Nat.eq_of_beq_eq_true q
   refine ⟨_,h,fun a=>?_⟩
   obtain ⟨b,g'⟩:=p
   have this:b=i:=this
   subst this
   rw [List.lookup_cons,List.lookup_cons]
   by_cases e:a=b
   ·subst e; simp
   ·have:(a == b)=false:=by simpa using e
    rw [this,if_neg e]
  | false=>
   rw [q] at h
   obtain ⟨l',h1,h2⟩:=(w5 h)
   refine ⟨_,h1,fun a=>?_⟩
   obtain ⟨b,g'⟩:=p
   have ne:b≠i:=Nat.ne_of_beq_eq_false q
   rw [List.lookup_cons,List.lookup_cons,h2]
   by_cases e:a=b
   ·subst e; simp [ne]
   ·have:(a == b)=false:=by simpa using e
    rw [this]
def jU(j a:Nat):AV:=fun g H nx R loc k=>eH g (bU (aZ loc j) fun c=>tV (H.get c) fun es=>gM a g es fun es=>H.set 24 c (.ns es) fun H=>k H nx R loc)
def mM(n:Nat)(l:List (Nat × GV)):Bool:=@List.rec (Nat × GV) (fun q0=>Nat->Bool) (fun q0=>true) (fun q0 q0 ih n=>@Nat.rec (fun q0=>Bool) false (fun n q0=>ih n) n) l n
theorem ja:∀{n:Nat} {l:List (Nat × GV)},mM n l=true->l.length<=n
 | _,[],_=>Nat.zero_le _
 | 0,_::_,h=>by cases h
 | n+1,_::l,h=>Nat.succ_le_succ (ja (l:=l) h)
def uQ(a:Nat)(o g:GV)(H:Tr)(k:Tr->Bool):Bool:=eH g (bU o fun i=>hV (H.get i) fun C dd=>eM (H.get dd) fun es=>@Bool.rec (fun q0=>Bool) false (gM a g es fun es=>H.set 24 dd (.idict es) k) (mM 100 es))
theorem dh.length{T:List Str}{nd:Nat}{es:List (Nat × GV)}{ds:List DictEntry}(h:dh T nd J es ds):es.length=ds.length:=by
 induction h with
 | nil=>rfl
 | cons _ _ _ _ _ ih=>simp only [List.length_cons,ih]
theorem dh.noref{T:List Str}{nd:Nat}{es:List (Nat × GV)}{ds:List DictEntry}(h:dh T nd J es ds):ds.any (·.refKey)=false:=by
 induction h with
 | nil=>rfl
 | @cons i y g' d u es ds lt hi hkey hv r ih=>
  have nr:d.refKey=false:=by unfold DictEntry.refKey; rw [hkey]
  rw [List.any_cons,nr,ih]; rfl
theorem dh.isSome{T:List Str}{nd:Nat}{es:List (Nat × GV)}{ds:List DictEntry}(h:dh T nd J es ds)(t:Str):(getL t ds).isSome=true:=by
 unfold getL
 split
 ·rfl
 ·rw [h.noref]; rfl
theorem dh.put{T:List Str}(hT:T.Nodup){nd:Nat}{hs:Int}{a:Nat}{t:Str}(ht:T[a]?=some t)(la:a<nd){g:GV}{v:Value}(iv:Is T J g v)(tk:Tok):∀{es:List (Nat × GV)} {ds:List DictEntry},dh T nd J es ds->∀{k:List (Nat × GV)->Bool},gM a g es k=true->
  ∃es',k es'=true/\dh T nd J es' (PySem.W.putL t hs (.str t tk) v ds)
 | [],ds,h,k,hk=>by
  cases h
  exact ⟨_,hk,.cons la ht rfl iv .nil⟩
 | p::es,ds,h,k,hk=>by
  have e:gM a g (p::es) k=@Bool.rec (fun q0=>Bool) (gM a g es fun r=>k (p::r)) (k ((a,g)::es)) (Nat.beq p.1 a):=rfl
  rw [e] at hk
  cases h with
  | @cons i y g' d u _ ds lt hi hkey hv r=>
   have key:d.key.isStr t=Nat.beq i a:=by
    rw [hkey]
    show (y == t)=Nat.beq i a
    rw [Bool.eq_iff_iff,beq_iff_eq,Nat.beq_eq]
    exact cF hT hi ht
   cases q:Nat.beq i a with
   | true=>
    have hk:k ((a,g)::es)=true:=by have:=hk; rw [show (i,g').1=i from rfl,q] at this; exact this
    have e2:PySem.W.putL t hs (.str t tk) v (d::ds)=⟨d.hash,d.key,v⟩::ds:=by
     rw [PySem.W.putL,key,q]; rfl
    rw [e2]
    have:=Nat.eq_of_beq_eq_true q
    subst this
    exact ⟨_,hk,.cons la hi hkey iv r⟩
   | false=>
    have hk:(gM a g es fun r=>k ((i,g')::r))=true:=by have:=hk; rw [show (i,g').1=i from rfl,q] at this; exact this
    obtain ⟨es',h1,h2⟩:=(dh.put hT (hs:=hs) ht la iv tk r hk)
    have e2:PySem.W.putL t hs (.str t tk) v (d::ds)=d::PySem.W.putL t hs (.str t tk) v ds:=by
     rw [PySem.W.putL,key,q]; rfl
    rw [e2]
    exact ⟨_,h1,.cons lt hi hkey hv h2⟩
theorem iS(t:Str)(hs:Int)(key v:Value):∀ds:List DictEntry,(PySem.W.putL t hs key v ds).length<=ds.length+1
 | []=>Nat.le_refl _
 | e::r=>by
  rw [PySem.W.putL]
  split
  ·simp
  ·have:=iS t hs key v r
   simp only [List.length_cons]; lia
theorem wr(hT:x.T.Nodup){a:Nat}{t:Str}(ht:x.T[a]?=some t)(la:a<x.nd)(hn:aS x t){o g:GV}{k:Tr->Bool}(h:uQ a o g H k=true)(Hh:ck x d A O L)(S:St x J H nx R O L m s){u v:Value}(iu:Is x.T J o u)(iv:Is x.T J g v)
  {Q:Unit->Shared->Prop} (hQ:∀H' s',k H'=true->St x J H' nx R O L m s'->Q () s'):wpAny (model x.prog x.w) A (setAttr u t v) Q E s:=by
 symm
 obtain ⟨q0,h1⟩:=cQ h
 obtain ⟨i,rfl,h2⟩:=bn h1
 obtain ⟨C,dd,hi,h3⟩:=fg h2
 obtain ⟨es,hd,h4⟩:=dL h3
 obtain ⟨hz,h5⟩:=aJ h4
 obtain ⟨q0,rfl,ha⟩:=iu
 obtain ⟨cx,dx,ds,n,c1,c2,c3,c4⟩:=(S.led.inst (l:=0) hi hd ha)
 obtain ⟨n1,n2,n3,n4,n5,n6⟩:=(hn cx (List.mem_of_getElem? c1))
 obtain ⟨es',h6,h7⟩:=(dh.put hT (hs:=PyData.keyHash x.w.params t) ht la iv (s.toks+1) c3 h5)
 obtain ⟨H',hA,h8⟩:=Tr.set_ok _ _ _ _ _ h6
 obtain ⟨os,hos,el,N⟩:=S.led.at_
 obtain ⟨od,hod⟩:∃od,os[dd]?=some od:=⟨_,List.getElem?_eq_getElem (el▸aN c2)⟩
 symm
 have eod:od=dictOf ds n:=by
  have z1:=(N _ (cn c2 hod)).1
  have z2:s.heap.get? dx=some (dictOf ds n):=c4.dict
  exact Option.some.inj (z1.symm.trans z2)
 subst eod
 refine set_dict S.fr Hh.X N c4 rfl n4 n5 n6 n2 (c3.isSome t) rfl (ey S.led.nod c2 hod) ?_ fun h' F' N'=>hQ H' _ h8 (S.set hos el F' c2 N' (.idict _ h7) hA (s.toks+2))
 have:=iS t (PyData.keyHash x.w.params t) (.str t (s.toks+1)) v ds
 have:=ja hz
 rw [c3.length] at this
 lia
end
end
section
section
variable {x:aR} {d:Nat} {vs:aq} {J:az} {H:Tr} {nx:Nat} {R:Rn} {O:Heap} {L:Addr} {m:Str->Option Value} {s:Shared} {A:Around} {E:Value->Shared->Prop} {env:Env} {loc:List GV}
def bG(f:EV)(a:Nat):AV:=fun g H nx R loc k=>f H nx R loc fun o H nx R=>uQ a o g H fun H=>k H nx R loc
theorem aQ(hT:x.T.Nodup){f:EV}{o:Expr}(hf:aK x d vs f o){a:Nat}{t:Str}(ht:x.T[a]?=some t)(la:a<x.nd)(hn:aS x t)(pos:Pos):dQ x d vs (bG f a) (.Attribute o t pos):=by
 intro g H nx R loc k h A env O L m J s v Q E Hh En S Lo iv hQ
 refine kas_attr (hf H nx R loc _ h A env O L m J s _ E Hh En S Lo fun J1 H1 nx1 R1 s1 o v1 le1 S1 i1 h1=>?_)
 exact wr hT ht la hn h1 Hh S1 i1 (iv.more le1) fun H' s' hk S'=>hQ J1 H' nx1 R1 loc m s' le1 S' (Lo.more le1) hk
def yH(i:Int)(g:GV)(l:List (Int × GV))(k:List (Int × GV)->Bool):Bool:=@List.rec (Int × GV) (fun q0=>(List (Int × GV)->Bool)->Bool) (fun k=>k [(i,g)]) (fun p r ih k=>@Bool.rec (fun q0=>Bool) (ih fun r=>k (p::r)) (k ((p.1,g)::r)) (cV p.1 i)) l k
theorem eI.length{T:List Str}{es:List (Int × GV)}{ds:List (Int × Value)}(h:eI T J es ds):es.length=ds.length:=by
 induction h with
 | nil=>rfl
 | cons _ _ ih=>simp only [List.length_cons,ih]
theorem fU.length{T:List Str}{es:List (Nat × GV)}{ds:List (Str × Value)}(h:fU T J es ds):es.length=ds.length:=by
 induction h with
 | nil=>rfl
 | cons _ _ _ ih=>simp only [List.length_cons,ih]
noncomputable def hU{K:Type}[DecidableEq K](kvs:List (K × Value))(k:K)(v:Value):List (K × Value):=match kvs with
 | []=>[(k,v)]
 | p::r=>if p.1=k then (p.1,v)::r else p::hU r k v
theorem sj{K:Type}[DecidableEq K]{k:K}{v:Value}:∀{kvs:List (K × Value)},(kvs.map (·.1)).Nodup->stored kvs k v=hU kvs k v
 | [],_=>by simp [stored,hU]
 | p::r,nd=>by
  rw [List.map_cons] at nd
  obtain ⟨n1,n2⟩:=(List.nodup_cons.mp nd)
  have ih:=sj (k:=k) (v:=v) n2
  unfold stored at ih ⊢
  unfold hU
  rw [List.any_cons]
  by_cases e:p.1=k
  ·have none:∀q∈r,q.1≠k:=fun q hq z=>n1 (by rw [e,<- z]; exact List.mem_map_of_mem hq)
   simp only [e,decide_true,Bool.true_or,if_true,List.map_cons]
   congr 1
   exact map_eq_self fun q hq=>if_neg (none q hq)
  ·simp only [e,decide_false,Bool.false_or,if_false,List.map_cons]
   rw [<- ih]
   split <;> rfl
theorem eI.put{T:List Str}{i:Int}{g:GV}{v:Value}(iv:Is T J g v):∀{es:List (Int × GV)} {ds:List (Int × Value)},eI T J es ds->∀{k:List (Int × GV)->Bool},yH i g es k=true->∃es',k es'=true/\eI T J es' (hU ds i v)
 | [],ds,h,k,hk=>by cases h; exact ⟨_,hk,.cons iv .nil⟩
 | p::es,ds,h,k,hk=>by
  cases h with
  | @cons j g' u _ ds hv r=>
   have e:yH i g ((j,g')::es) k=@Bool.rec (fun q0=>Bool) (yH i g es fun r=>k ((j,g')::r)) (k ((j,g)::es)) (cV j i):=rfl
   rw [e] at hk
   cases q:cV j i with
   | true=>
    rw [q] at hk
    have:j=i:=eq_of_beq (cr q)
    unfold hU
    rw [if_pos this]
    exact ⟨_,hk,.cons iv r⟩
   | false=>
    rw [q] at hk
    have:j≠i:=fun z=>by subst z; have:=cr q; simp at this
    obtain ⟨es',h1,h2⟩:=(eI.put iv r hk)
    unfold hU
    rw [if_neg this]
    exact ⟨_,h1,.cons hv h2⟩
theorem fU.put{T:List Str}(hT:T.Nodup){i:Nat}{t:Str}(ht:T[i]?=some t){g:GV}{v:Value}(iv:Is T J g v):∀{es:List (Nat × GV)} {ds:List (Str × Value)},fU T J es ds->∀{k:List (Nat × GV)->Bool},gM i g es k=true->∃es',k es'=true/\fU T J es' (hU ds t v)
 | [],ds,h,k,hk=>by cases h; exact ⟨_,hk,.cons ht iv .nil⟩
 | p::es,ds,h,k,hk=>by
  cases h with
  | @cons j y g' u _ ds hy hv r=>
   have e:gM i g ((j,g')::es) k=@Bool.rec (fun q0=>Bool) (gM i g es fun r=>k ((j,g')::r)) (k ((i,g)::es)) (Nat.beq j i):=rfl
   rw [e] at hk
   cases q:Nat.beq j i with
   | true=>
    rw [q] at hk
    have:=Nat.eq_of_beq_eq_true q
    subst this
    have e2:y=t:=(cF hT hy ht).mpr rfl
    unfold hU
    rw [if_pos e2]
    exact ⟨_,hk,.cons hy iv r⟩
   | false=>
    rw [q] at hk
    have:y≠t:=fun z=>Nat.ne_of_beq_eq_false q ((cF hT hy ht).mp z)
    obtain ⟨es',h1,h2⟩:=(fU.put hT ht iv r hk)
    unfold hU
    rw [if_neg this]
    exact ⟨_,h1,.cons hy hv h2⟩
theorem Obj.IsDictOf.nodup{prog:Program}{w:World}{K:Type}[DecidableEq K]{knd:KeyKind prog w K}{o:Obj}{kvs:List (K × Value)}(h:o.IsDictOf knd kvs):(kvs.map (·.1)).Nodup:=by
 obtain ⟨q0,q0,q0,q0,q0,q0,h⟩:=h
 exact h
def kg(o:GO)(k0:Bool)(ki:List (Int × GV)->Bool)(ks:List (Nat × GV)->Bool)(kl:List GV->Bool):Bool:=@GO.rec (fun q0=>Bool) false (fun l=>kl l) (fun q0=>false) (fun C d=>false) (fun es=>false) k0 (fun l=>ki l) (fun l=>ks l) (fun g=>false) (fun q0=>false) (fun q0 q0=>false) (fun q0 q0=>false) (fun q0 q0=>false) (fun q0=>false) (fun q0=>false) (fun q0=>false) false (fun q0=>false) (fun q0 q0=>false) (fun q0 q0=>false) (fun q0 q0=>false) (fun q0 q0=>false) (fun q0 q0=>false) o
theorem kv{o:GO}{k0:Bool}{ki:List (Int × GV)->Bool}{ks:List (Nat × GV)->Bool}{kl:List GV->Bool}(h:kg o k0 ki ks kl=true):(o=.d0/\k0=true)∨(∃l,o=.di l/\ki l=true)∨(∃l,o=.ds l/\ks l=true)∨(∃l,o=.list l/\kl l=true):=by
 cases o <;> first | (cases h; done) | exact .inl ⟨rfl,h⟩ | exact .inr (.inl ⟨_,rfl,h⟩) | exact .inr (.inr (.inl ⟨_,rfl,h⟩)) | exact .inr (.inr (.inr ⟨_,rfl,h⟩))
def uW(n:Nat)(l:List (Int × GV)):Bool:=@List.rec (Int × GV) (fun q0=>Nat->Bool) (fun q0=>true) (fun q0 q0 ih n=>@Nat.rec (fun q0=>Bool) false (fun n q0=>ih n) n) l n
theorem mD:∀{n:Nat} {l:List (Int × GV)},uW n l=true->l.length<=n
 | _,[],_=>Nat.zero_le _
 | 0,_::_,h=>by cases h
 | n+1,_::l,h=>Nat.succ_le_succ (mD (l:=l) h)
theorem eY{K:Type}[DecidableEq K](p:K × Value)(r:List (K × Value))(k:K):PySem.valueAt (p::r) k=if p.1=k then some p.2 else PySem.valueAt r k:=by
 unfold PySem.valueAt
 rw [List.find?_cons]
 by_cases e:p.1=k <;> simp [e]
theorem wy{K:Type}[DecidableEq K]:∀(kvs:List (K × Value)) (k:K) (v:Value) (z:K),PySem.valueAt (hU kvs k v) z=if z=k then some v else PySem.valueAt kvs z
 | [],k,v,z=>by
  show PySem.valueAt [(k,v)] z=_
  rw [eY]
  by_cases e:z=k
  ·rw [if_pos e,if_pos e.symm]
  ·rw [if_neg e,if_neg (fun q=>e q.symm)]
 | p::r,k,v,z=>by
  unfold hU
  by_cases e:p.1=k
  ·rw [if_pos e,eY,eY]
   by_cases e2:z=k
   ·rw [if_pos e2,if_pos (e.trans e2.symm)]
   ·rw [if_neg e2,if_neg (fun q=>e2 (q.symm.trans e)),if_neg (fun q=>e2 (q.symm.trans e))]
  ·rw [if_neg e,eY,wy r k v z,eY]
   by_cases e2:p.1=z
   ·rw [if_pos e2,if_pos e2,if_neg (fun q=>e (e2.trans q))]
   ·rw [if_neg e2,if_neg e2]
theorem AP{α:Type}[DecidableEq α]:∀{l r:List α},l.Nodup->(∀a∈l,a∈r)->l.length<=r.length
 | [],r,_,_=>Nat.zero_le _
 | a::l,r,nd,h=>by
  obtain ⟨n1,n2⟩:=(List.nodup_cons.mp nd)
  have ha:=h a (.head _)
  have:=AP (l:=l) (r:=r.erase a) n2 fun b hb=>by
   have ne:b≠a:=fun e=>n1 (e▸hb)
   exact (List.mem_erase_of_ne ne).mpr (h b (.tail _ hb))
  rw [List.length_erase_of_mem ha] at this
  have:0<r.length:=List.length_pos_of_mem ha
  simp only [List.length_cons]; lia
theorem MW{es:List (Int × GV)}{ds:List (Int × Value)}(nd:(ds.map (·.1)).Nodup)(h:∀z,es.lookup z=none->PySem.valueAt ds z=none):ds.length<=es.length:=by
 have:=AP (r:=es.map (·.1)) nd fun z hz=>by
  obtain ⟨p,hp,rfl⟩:=(List.mem_map.mp hz)
  have nn:PySem.valueAt ds p.1≠none:=by
   unfold PySem.valueAt
   rw [Ne,Option.map_eq_none_iff,List.find?_eq_none]
   intro q
   have:=q p hp
   simp at this
  have:es.lookup p.1≠none:=fun e=>nn (h _ e)
  obtain ⟨g,hg⟩:=(Option.ne_none_iff_exists'.mp this)
  clear nn this h
  induction es with
  | nil=>cases hg
  | cons q es ih=>
   rw [List.lookup_cons] at hg
   cases w:p.1 == q.1 with
   | true=>rw [List.map_cons,eq_of_beq w]; exact .head _
   | false=>rw [w] at hg; exact .tail _ (ih hg)
 simpa using this
def Jy(o:GO)(k:List (Int × GV)->Bool)(e:Bool):Bool:=@GO.rec (fun q0=>Bool) e (fun q0=>e) (fun q0=>e) (fun q0 q0=>e) (fun q0=>e) e (fun q0=>e) (fun q0=>e) (fun q0=>e) (fun q0=>e) (fun q0 q0=>e) (fun q0 q0=>e) (fun q0 q0=>e) (fun q0=>e) (fun q0=>e) (fun q0=>e) e (fun es=>k es) (fun q0 q0=>e) (fun q0 q0=>e) (fun q0 q0=>e) (fun q0 q0=>e) (fun q0 q0=>e) o
theorem FP{o:GO}{k:List (Int × GV)->Bool}{e:Bool}(h:Jy o k e=true):(∃es,o=.dm es/\k es=true)∨e=true:=by cases o <;> first | exact .inr h | exact .inl ⟨_,rfl,h⟩
def BO(i:Int)(g:GV)(l:List (Int × GV)):(List (Int × GV)->Bool)->Bool:=@List.rec (Int × GV) (fun q0=>(List (Int × GV)->Bool)->Bool) (fun k=>k [(i,g)]) (fun p r ih k=>@Bool.rec (fun q0=>Bool) (@Bool.rec (fun q0=>Bool) (ih fun r=>k (p::r)) (k ((i,g)::p::r)) (kX i p.1)) (k ((i,g)::r)) (cV p.1 i)) l
theorem wK{i:Int}{g:GV}:∀{l:List (Int × GV)} {k:List (Int × GV)->Bool},BO i g l k=true->∃l',k l'=true/\∀z,l'.lookup z=if z=i then some g else l.lookup z
 | [],k,h=>⟨_,h,fun z=>by
   rw [List.lookup_cons]
   by_cases e:z=i
   ·subst e; simp
   ·have:(z == i)=false:=by simpa using e
    rw [this,if_neg e]⟩
 | (a,b)::l,k,h=>by
  have h:@Bool.rec (fun q0=>Bool) (@Bool.rec (fun q0=>Bool) (BO i g l fun r=>k ((a,b)::r)) (k ((i,g)::(a,b)::l)) (kX i a)) (k ((i,g)::l)) (cV a i)=true:=h
  cases q:cV a i with
  | true=>
   rw [q] at h
   have:a=i:=eq_of_beq (cr q)
   subst this
   refine ⟨_,h,fun z=>?_⟩
   rw [List.lookup_cons,List.lookup_cons]
   by_cases e:z=a
   ·subst e; simp
   ·have:(z == a)=false:=by simpa using e
    rw [this,if_neg e]
  | false=>
   rw [q] at h
   have ne:a≠i:=by have:=cr q; simpa using this
   cases q2:kX i a with
   | true=>
    rw [q2] at h
    refine ⟨_,h,fun z=>?_⟩
    rw [List.lookup_cons]
    by_cases e:z=i
    ·subst e; simp
    ·have:(z == i)=false:=by simpa using e
     rw [this,if_neg e]
   | false=>
    rw [q2] at h
    obtain ⟨l',h1,h2⟩:=(wK (l:=l) h)
    refine ⟨_,h1,fun z=>?_⟩
    rw [List.lookup_cons,List.lookup_cons,h2]
    by_cases e:z=a
    ·subst e; simp [ne]
    ·have:(z == a)=false:=by simpa using e
     rw [this]
def JC(i:Int)(a:Nat)(g:GV)(H:Tr)(k:Tr->Bool):Bool:=Jy (H.get a) (fun es=>@Bool.rec (fun q0=>Bool) false (BO i g es fun es=>H.set 24 a (.dm es) k) (uW 100 es)) <| kg (H.get a) (H.set 24 a (.di [(i,g)]) k) (fun es=>@Bool.rec (fun q0=>Bool) false (yH i g es fun es=>H.set 24 a (.di es) k) (uW 100 es)) (fun q0=>false)
 (fun q0=>false)
def LM(t:Nat)(a:Nat)(g:GV)(H:Tr)(k:Tr->Bool):Bool:=kg (H.get a) false (fun q0=>false) (fun es=>@Bool.rec (fun q0=>Bool) false (gM t g es fun es=>H.set 24 a (.ds es) k) (mM 100 es)) (fun q0=>false)
def tR(o i g:GV)(H:Tr)(k:Tr->Bool):Bool:=eH g (bU o fun a=>@GV.rec (fun q0=>Bool) false false (fun q0=>false) (fun e=>qG e fun z=>JC z a g H k) (fun t=>LM t a g H k) (fun q0=>false) (fun q0=>false) (fun q0=>false) false i)
theorem St.dict{K:Type}[DecidableEq K]{knd:KeyKind x.prog x.w K}(S:St x J H nx R O L m s){a:Nat}{ad:Addr}(ha:J.as[a]?=some ad){o:Obj}(o1:s.heap.get? ad=some o){kvs:List (K × Value)}(hd:o.IsDictOf knd kvs){kk:K}{key v:Value}(hkey:knd.is kk key=true)(hz:kvs.length<=sizeLine){g':GO}{H':Tr}(hA:At H H' a g')
  (hg:∀o',o'.IsDictOf knd (hU kvs kk v)->aL x.T x.CT x.nd (x.prog,x.w) J g' o') {Q:Unit->Shared->Prop} (hQ:∀s',St x J H' nx R O L m s'->Q () s'):wpAny (model x.prog x.w) A (setItem (.ref ad) key v) Q E s:=by
 refine wpAny_setItem_pairs (hsz:=hz) hkey (Heap.dictOf_iff.mpr ⟨o,o1,hd⟩) fun h' hmm hs=>?_
 obtain ⟨o',ho',hd'⟩:=(Heap.dictOf_iff.mp hmm)
 rw [sj (Obj.IsDictOf.nodup hd)] at hd'
 exact hQ _ (S.upd ha hs ho' (hg o' hd') hA (s.toks+1))
theorem wh(hT:x.T.Nodup){o i g:GV}{k:Tr->Bool}(h:tR o i g H k=true)(Hh:ck x d A O L)(S:St x J H nx R O L m s){u j v:Value}(iu:Is x.T J o u)(ij:Is x.T J i j)(iv:Is x.T J g v)
  {Q:Unit->Shared->Prop} (hQ:∀H' s',k H'=true->St x J H' nx R O L m s'->Q () s'):wpAny (model x.prog x.w) A (setItem u j v) Q E s:=by
 obtain ⟨q0,h1⟩:=cQ h
 obtain ⟨a,rfl,h2⟩:=bn h1
 obtain ⟨q0,rfl,ha⟩:=iu
 obtain ⟨ob,o1,q0,q0,o2⟩:=(S.led.obj ha)
 cases i with
 | int e=>
  obtain ⟨z,rfl,h3⟩:=(kL h2)
  obtain ⟨t,rfl,ok⟩:=ij
  rcases FP h3 with ⟨es,e,h4⟩ | h3
  ·rw [e] at o2
   obtain ⟨hz,h5⟩:=aJ h4
   obtain ⟨es',h6,h7⟩:=(wK h5)
   obtain ⟨H',hA,h10⟩:=Tr.set_ok _ _ _ _ _ h6
   obtain ⟨ds,hd,hs⟩:=o2
   obtain ⟨m1,m2⟩:=hs
   refine S.dict (knd:=PySem.intKind x.prog x.w) (kk:=z) ha o1 hd (by show (z == z)=true; exact beq_self_eq_true _) (Nat.le_trans (MW (Obj.IsDictOf.nodup hd) m2) (Nat.le_trans (mD hz) (by decide))) hA (fun o' hd'=>.dm hd' ?_) fun s' S'=>hQ H' s' h10 S'
   have va:∀z',PySem.valueAt (hU ds z v) z'=if z'=z then some v else PySem.valueAt ds z':=fun z'=>wy ds z v z'
   refine ⟨fun z' g' hl=>?_,fun z' hl=>?_⟩
   ·rw [h7] at hl
    rw [va]
    by_cases e:z'=z
    ·rw [if_pos e] at hl ⊢; cases hl; exact .inr ⟨v,rfl,iv⟩
    ·rw [if_neg e] at hl ⊢; exact m1 z' g' hl
   ·rw [h7] at hl
    rw [va]
    by_cases e:z'=z
    ·rw [if_pos e] at hl; cases hl
    ·rw [if_neg e] at hl ⊢; exact m2 z' hl
  rcases kv h3 with ⟨e,h4⟩ | ⟨l,e,h4⟩ | ⟨l,e,h4⟩ | ⟨l,e,h4⟩
  ·rw [e] at o2
   obtain ⟨H',hA,h5⟩:=Tr.set_ok _ _ _ _ _ h4
   obtain ⟨di,ds⟩:=o2
   exact S.dict (knd:=PySem.intKind x.prog x.w) (kk:=z) ha o1 di (by show (z == z)=true; exact beq_self_eq_true _) (by simp) hA (fun o' hd=>.di hd (.cons iv .nil)) fun s' S'=>hQ H' s' h5 S'
  ·rw [e] at o2
   obtain ⟨hz,h5⟩:=aJ h4
   obtain ⟨q0,hd,hs⟩:=o2
   obtain ⟨es',h6,h7⟩:=(eI.put iv hs h5)
   obtain ⟨H',hA,h8⟩:=Tr.set_ok _ _ _ _ _ h6
   exact S.dict (knd:=PySem.intKind x.prog x.w) (kk:=z) ha o1 hd (by show (z == z)=true; exact beq_self_eq_true _) (by rw [<- hs.length]; exact Nat.le_trans (mD hz) (by decide)) hA (fun o' hd=>.di hd h7) fun s' S'=>hQ H' s' h8 S'
  ·cases h4
  ·cases h4
 | str tt=>
  obtain ⟨q0,t,rfl,ok⟩:=ij
  rcases kv h2 with ⟨e,h4⟩ | ⟨l,e,h4⟩ | ⟨l,e,h4⟩ | ⟨l,e,h4⟩
  ·cases h4
  ·cases h4
  ·rw [e] at o2
   obtain ⟨hz,h5⟩:=aJ h4
   obtain ⟨q0,hd,hs⟩:=o2
   obtain ⟨es',h6,h7⟩:=(fU.put hT ok iv hs h5)
   obtain ⟨H',hA,h8⟩:=Tr.set_ok _ _ _ _ _ h6
   exact S.dict (knd:=PySem.strKind x.prog x.w) ha o1 hd (by show (_ == _)=true; exact beq_self_eq_true _) (by rw [<- hs.length]; exact Nat.le_trans (ja hz) (by decide)) hA (fun o' hd=>.ds hd h7) fun s' S'=>hQ H' s' h8 S'
  ·cases h4
 | _=>cases h2
def em(f i:EV):AV:=fun g H nx R loc k=>f H nx R loc fun o H nx R=>i H nx R loc fun j H nx R=>tR o j g H fun H=>k H nx R loc
theorem cw(hT:x.T.Nodup){f i:EV}{o j:Expr}(hf:aK x d vs f o)(hi:aK x d vs i j)(pos:Pos):dQ x d vs (em f i) (.Subscript o j pos):=by
 intro g H nx R loc k h A env O L m J s v Q E Hh En S Lo iv hQ
 refine kas_sub (hf H nx R loc _ h A env O L m J s _ E Hh En S Lo fun J1 H1 nx1 R1 s1 o v1 le1 S1 i1 h1=>?_)
 refine hi H1 nx1 R1 loc _ h1 A env O L m J1 s1 _ E Hh En S1 (Lo.more le1) fun J2 H2 nx2 R2 s2 j v2 le2 S2 i2 h2=>?_
 exact wh hT h2 Hh S2 (i1.more le2) i2 (iv.more (le1.trans le2)) fun H' s' hk S'=>hQ J2 H' nx2 R2 loc m s' (le1.trans le2) S' (Lo.more (le1.trans le2)) hk
abbrev j6:=List GV->Tr->Nat->Rn->List GV->wL->Bool
def gX(x:aR)(d:Nat)(vs:aq)(f:j6)(ts:List Expr):Prop:=
 ∀gs H nx R loc k,f gs H nx R loc k=true->∀(A:Around) (env:Env) (O:Heap) (L:Addr) (m:Str->Option Value) (J:az) (s:Shared) (us:List Value) (Q:Unit->Shared->Prop) (E:Value->Shared->Prop),
  ck x d A O L->bN env L->St x J H nx R O L m s->bq x J env L m vs loc->be x.T J gs us->us.length=ts.length->lU x J env vs O L k Q->wpAny (model x.prog x.w) A (assignInOrder ((assignEach ts env).map (·.2)) us) Q E s
def ft:j6:=fun gs H nx R loc k=>nR gs (k H nx R loc) false
def bK(a:AV)(r:j6):j6:=fun gs H nx R loc k=>@List.rec GV (fun q0=>Bool) false (fun g gs q0=>a g H nx R loc fun H nx R loc=>r gs H nx R loc k) gs
theorem dK:gX x d vs ft []:=by
 intro gs H nx R loc k h A env O L m J s us Q E Hh En S Lo iu hlen hQ
 rcases mT h with ⟨rfl,h⟩ | ⟨_,h⟩
 ·cases iu
  exact wpAny_pure (hQ J H nx R loc m s (.refl _) S Lo h)
 ·cases h
theorem cU{t:Expr}{ts:List Expr}(h:bZ t=true)(env:Env):assignEach (t::ts) env=(false,assign t env)::assignEach ts env:=by cases t <;> first | rfl | (cases h; done)
theorem ln{ts:List Expr}(h:bx ts=true)(env:Env):(assignEach ts env).length=ts.length/\(assignEach ts env).findIdx? (·.1)=none:=by
 induction ts with
 | nil=>exact ⟨rfl,rfl⟩
 | cons t ts ih=>
  obtain ⟨h1,h2⟩:=Bool.and_eq_true_iff.mp h
  obtain ⟨i1,i2⟩:=(ih h2)
  rw [cU h1 env,List.findIdx?_cons,i2]
  exact ⟨by simp [i1],rfl⟩
theorem bu{a:AV}{r:j6}{t:Expr}{ts:List Expr}(ha:dQ x d vs a t)(hr:gX x d vs r ts)(hn:bZ t=true):gX x d vs (bK a r) (t::ts):=by
 intro gs H nx R loc k h A env O L m J s us Q E Hh En S Lo iu hlen hQ
 cases iu with
 | nil=>cases h
 | @cons g v gs us i1 i2=>
  rw [cU hn env]
  show wpAny _ _ (do holding us (assign t env v); assignInOrder ((assignEach ts env).map (·.2)) us) _ _ _
  refine wpAny_bind (wpAny_holding (ha g H nx R loc _ h A env O L m J s v _ E Hh En S Lo i1 fun J' H' nx' R' loc' m' s' le S' Lo' hk=>?_))
  exact hr gs H' nx' R' loc' k hk A env O L m' J' s' us Q E Hh En S' Lo' (i2.more le) (by simpa using hlen) (hQ.le le)
def je(n:Nat)(r:j6):AV:=fun g H nx R loc k=>bU g fun i=>ez (H.get i) (fun l=>@Bool.rec (fun q0=>Bool) false (r l H nx R loc k) (Nat.beq (cH l) n)) (fun l=>@Bool.rec (fun q0=>Bool) false (r l H nx R loc k) (Nat.beq (cH l) n)) (fun q0=>false) (fun q0=>false)
theorem pI{g:GV}{n:Nat}{f:List GV->Bool}{v:Value}(h:(bU g fun i=>ez (H.get i) (fun l=>@Bool.rec (fun q0=>Bool) false (f l) (Nat.beq (cH l) n)) (fun l=>@Bool.rec (fun q0=>Bool) false (f l) (Nat.beq (cH l) n)) (fun q0=>false) (fun q0=>false))=true)
  (Hh:ck x d A O L) (S:St x J H nx R O L m s) (iv:Is x.T J g v) {Q:List Value->Shared->Prop} (hQ:∀gs us s',f gs=true->be x.T J gs us->us.length=n->St x J H nx R O L m s'->Q us s'):wpAny (model x.prog x.w) A (unpackItems v n none) Q E s:=by
 obtain ⟨i,rfl,h1⟩:=bn h
 obtain ⟨q0,rfl,ha⟩:=iv
 rcases dJ h1 with ⟨l,hl,h2⟩ | ⟨l,hl,h2⟩ | ⟨l,hl,h2⟩ | ⟨l,hl,h2⟩
 ·obtain ⟨hz,h3⟩:=aJ h2
  obtain ⟨us,lu,iu⟩:=(S.lst ha hl)
  have en:=Nat.eq_of_beq_eq_true hz
  rw [cP,iu.length] at en
  have:=kun_itemsOf (E:=E) (Q:=Q) (prog:=x.prog) (w:=x.w) Hh.hnd lu fun h' he=>hQ l us _ h3 iu en (S.ext he s.toks)
  rw [List.size_toArray,en] at this
  exact this
 ·obtain ⟨hz,h3⟩:=aJ h2
  obtain ⟨us,lu,iu⟩:=(S.tup ha hl)
  have en:=Nat.eq_of_beq_eq_true hz
  rw [cP,iu.length] at en
  have:=unpackItems_tuple (E:=E) (Q:=Q) (prog:=x.prog) (w:=x.w) Hh.hnd lu fun h' he=>hQ l us _ h3 iu en (S.ext he s.toks)
  rw [List.size_toArray,en] at this
  exact this
 ·cases h2
 ·cases h2
theorem eL{r:j6}{ts:List Expr}(hr:gX x d vs r ts)(hp:bx ts=true)(kd:Nat)(pos:Pos):dQ x d vs (je ts.length r) (.Tuple ts kd pos):=by
 intro g H nx R loc k h A env O L m J s v Q E Hh En S Lo iv hQ
 rw [assign_Tuple]
 obtain ⟨l1,l2⟩:=(ln hp env)
 refine wpAny_bind (wpAny_standAt ?_)
 unfold unpack
 rw [l1,l2]
 refine wpAny_bind (wpAny_holding (pI h Hh S iv fun gs us s' hk iu en S'=>?_))
 exact hr gs H nx R loc k hk A env O L m J s' us Q E Hh En S' Lo iu en hQ
noncomputable def aB(a:AV)(f:EV)(r:SV):SV:=fun H nx R loc k=>f H nx R loc fun g H nx R=>a g H nx R loc fun H nx R loc=>r H nx R loc k
noncomputable def io(e:Expr):Bool:=Bool.and (iN e 8) (Bool.and (iN e 9) (iN e 10))
theorem hX{value:Expr}(h:io value=true)(t:Option Expr)(line:Nat)(env:Env):swapsWith value t line env=pure false:=by
 cases value <;> first | rfl | (cases h; done)
noncomputable def i8(e:Expr):Bool:=Bool.and (iN e 25) (iN e 24)
def rP(x:aR)(vs:aq)(env:Env)(O:Heap)(L:Addr)(J:az)(f:Tr->Nat->Rn->List GV->Bool)(s:Shared):Prop:=∃J' H nx R loc m,J.le J'/\St x J' H nx R O L m s/\bq x J' env L m vs loc/\f H nx R loc=true
theorem ed{J':az}{f:Tr->Nat->Rn->List GV->Bool}(le:J.le J')(S:St x J' H nx R O L m s)(Lo:bq x J' env L m vs loc)(h:f H nx R loc=true):rP x vs env O L J f s:=⟨_,_,_,_,_,_,le,S,Lo,h⟩
theorem ec{st:Stmt}{rest:List Stmt}{r:SV}{Q:Flow->Shared->Prop}(hr:au x d vs r rest){k:KS}(Hh:ck x d A O L)(En:bN env L)
  (hQ:y5 x J env vs O L k Q)
  (h:wpAny (model x.prog x.w) A (exec st env) (fun fl s'=>match fl with | .next=>rP x vs env O L J (fun H nx R loc=>r H nx R loc k) s' | fl=>Q fl s') E s):wpAny (model x.prog x.w) A (execs (st::rest) env) Q E s:=by
 refine wpAny_execs_cons (wpAny_mono h (fun fl s' z=>?_) fun q0 q0 e=>e)
 cases fl with
 | next=>
  symm
  obtain ⟨J',H',nx',R',loc',m',le,S',Lo',hk⟩:=z
  symm
  exact hr H' nx' R' loc' k hk A env O L m' J' s' Q E Hh En S' Lo' fun J'' H nx R loc m s gf fl l=>hQ J'' H nx R loc m s gf fl (le.trans l)
 | brk=>exact z
 | cont=>exact z
 | ret v=>exact z
theorem iR{t e:Expr}(h:i8 t=true∨i8 e=true)(env:Env):swappedStores [t] e env=pure none:=by
 rcases h with h2 | h2
 ·cases t <;> first | rfl | (cases h2; done)
 ·cases t <;> first | rfl | (cases e <;> first | (cases h2; done) | rfl)
theorem im{a:AV}{f:EV}{r:SV}{t e:Expr}{rest:List Stmt}(ha:dQ x d vs a t)(hf:aK x d vs f e)(hr:au x d vs r rest)(h1:io e=true)(h2:i8 t=true∨i8 e=true)(h3:bZ t=true)(pos:Pos):au x d vs (aB a f r) (.Assign [t] e pos::rest):=by
 intro H nx R loc k h A env O L m J s Q E Hh En S Lo hQ
 refine ec hr Hh En hQ ?_
 refine wpAny_Assign_stores (hf H nx R loc _ h A env O L m J s _ E Hh En S Lo fun J1 H1 nx1 R1 s1 g v le1 S1 i1 hk=>?_) (hX h1 _ _ _) ?_
 ·rw [cU h3 env]
  exact ha g H1 nx1 R1 loc _ hk A env O L m J1 s1 v _ E Hh En S1 (Lo.more le1) i1 fun J2 H2 nx2 R2 loc2 m2 s2 le2 S2 Lo2 hk2=>ed (le1.trans le2) S2 Lo2 hk2
 ·exact iR h2 _
end
end
section
section
variable {x:aR} {d:Nat} {vs:aq} {J:az} {H:Tr} {nx:Nat} {R:Rn} {O:Heap} {L:Addr} {m:Str->Option Value} {s:Shared} {A:Around} {E:Value->Shared->Prop} {env:Env} {loc:List GV}
def tf(js:List Nat):j6:=@List.rec Nat (fun q0=>j6) ft (fun j q0 ih=>bK (bt j) ih) js
inductive fV (x:aR) (vs:aq):List Nat->List Str->Prop
 | nil:fV x vs [] []
 | cons {j i:Nat} {t:Str} {js:List Nat} {ts:List Str}:vs[j]?=some (i,.loc)->x.T[i]?=some t->fV x vs js ts->fV x vs (j::js) (t::ts)
theorem fV.snoc{js:List Nat}{ts:List Str}(h:fV x vs js ts){j i:Nat}{t:Str}(h1:vs[j]?=some (i,.loc))(h2:x.T[i]?=some t):fV x vs (js++[j]) (ts++[t]):=by
 induction h with
 | nil=>exact .cons h1 h2 .nil
 | cons a b _ ih=>exact .cons a b ih
theorem fV.reverse{js:List Nat}{ts:List Str}(h:fV x vs js ts):fV x vs js.reverse ts.reverse:=by
 induction h with
 | nil=>exact .nil
 | cons a b _ ih=>rw [List.reverse_cons,List.reverse_cons]; exact ih.snoc a b
theorem DN(hs:aA x vs):∀{js:List Nat} {ts:List Str},fV x vs js ts->∀{gs:List GV} {H:Tr} {nx:Nat} {R:Rn} {loc:List GV} {k:wL},tf js gs H nx R loc k=true->∀{m:Str->Option Value} {J:az} {s:Shared} {us:List Value} {Q:Unit->Shared->Prop},bN env L->St x J H nx R O L m s->bq x J env L m vs loc->be x.T J gs us->
  lU x J env vs O L k Q->wpAny (model x.prog x.w) A (assignInOrder (ts.map fun n=>bindName env n) us) Q E s:=by
 intro js ts hj
 induction hj with
 | nil=>
  intro gs H nx R loc k h m J s us Q En S Lo iu hQ
  have h:nR gs (k H nx R loc) false=true:=h
  rcases mT h with ⟨rfl,h⟩ | ⟨_,h⟩
  ·exact wpAny_pure (hQ J H nx R loc m s (.refl _) S Lo h)
  ·cases h
 | @cons j i t js ts h1 h2 _ ih=>
  intro gs H nx R loc k h m J s us Q En S Lo iu hQ
  cases iu with
  | nil=>cases h
  | @cons g v gs us i1 i2=>
   have h:bt j g H nx R loc (fun H nx R loc=>tf js gs H nx R loc k)=true:=h
   show wpAny _ _ (do holding us (bindName env t v); assignInOrder (ts.map fun n=>bindName env n) us) _ _ _
   refine wpAny_bind (wpAny_holding (wpAny_bindName (oV hs h1 h2 h S Lo En i1 fun J' H' nx' R' loc' m' s' le S' Lo' hk=>?_)))
   exact ih hk En S' Lo' (i2.more le) (hQ.le le)
def ke(n:Nat)(jr:List Nat)(f:EV)(r:SV):SV:=fun H nx R loc k=>f H nx R loc fun g H nx R=>bU g fun i=>ez (H.get i) (fun l=>@Bool.rec (fun q0=>Bool) false (tf jr (nN l []) H nx R loc fun H nx R loc=>r H nx R loc k) (Nat.beq (cH l) n))
 (fun l=>@Bool.rec (fun q0=>Bool) false (tf jr (nN l []) H nx R loc fun H nx R loc=>r H nx R loc k) (Nat.beq (cH l) n)) (fun q0=>false) (fun q0=>false)
noncomputable def jF:List Expr->Nat->Option (List Str)
 | [],_=>some []
 | .Name t pos::r,line=>if pos.line == line then (jF r line).map (t::·) else none
 | _::_,_=>none
theorem Uc(e:Expr):(∃t p,e=.Name t p)∨∀r l,jF (e::r) l=none:=by
 cases e <;> first | exact .inl ⟨_,_,rfl⟩ | exact .inr fun q0 q0=>rfl
theorem k9{F:Expr->Option Str}{ts:List Expr}{line:Nat}:∀{names:List Str},jF ts line=some names->(∀n∈names,∀pos:Pos,pos.line=line->F (.Name n pos)=some n)->ts.filterMap F=names/\names.length=ts.length:=by
 induction ts with
 | nil=>intro names h _; cases h; exact ⟨rfl,rfl⟩
 | cons e r ih=>
  intro names h hk
  rcases Uc e with ⟨t,pos,rfl⟩ | q
  ·have h:(if (pos.line == line)=true then (jF r line).map (t::·) else none)=some names:=h
   by_cases q:(pos.line == line)=true
   ·rw [if_pos q] at h
    obtain ⟨ns,h1,rfl⟩:=(Option.map_eq_some_iff.mp h)
    obtain ⟨i1,i2⟩:=(ih h1 fun n hn=>hk n (.tail _ hn))
    refine ⟨?_,congrArg (·+ 1) i2⟩
    rw [List.filterMap_cons_some (hk t (.head _) pos (eq_of_beq q)),i1]
   ·rw [if_neg q] at h; cases h
  ·rw [q] at h; cases h
theorem pU{l:List Str}(h:l.Nodup):l.eraseDups.length=l.length:=by
 induction l with
 | nil=>rfl
 | cons a r ih=>
  obtain ⟨h1,h2⟩:=(List.nodup_cons.mp h)
  rw [List.eraseDups_cons]
  have:r.filter (fun b=>!b == a)=r:=by
   rw [List.filter_eq_self]
   intro b hb
   have:b≠a:=fun e=>h1 (e▸hb)
   simpa using this
  rw [this,List.length_cons,List.length_cons,ih h2]
theorem Gb(hs:aA x vs){ts es:List Expr}{js:List Nat}{names:List Str}{f:EV}{r:SV}{rest:List Stmt}{k1 k2:Nat}{p1 p2:Pos}(hj:fV x vs js names)(hf:aK x d vs f (.Tuple es k2 p2))(hr:au x d vs r rest)
  (hn:jF ts ((ts.head?.map (·.pos.line)).getD 0)=some names) (h2:ts.length=2∨ts.length=3) (hl:es.length=ts.length) (hp:bx es=true) (hd:names.Nodup) (hc1:es.all (foldedForSure 8)=false) (hc2:es.all (constantsAlone 8)=false) (pos:Pos) :
  au x d vs (ke ts.length js.reverse f r) (.Assign [.Tuple ts k1 p1] (.Tuple es k2 p2) pos::rest):=by
 intro H nx R loc k h A env O L m J s Q E Hh En S Lo hQ
 refine ec hr Hh En hQ ?_
 have kn:∀{js:List Nat} {names:List Str},fV x vs js names->∀n∈names,env.kindOf n=some .local:=by
  intro js names hj
  induction hj with
  | nil=>intro n hn; cases hn
  | cons h1 h2 _ ih=>
   intro n hn
   rcases List.mem_cons.mp hn with rfl | hn
   ·obtain ⟨t',ht',q0,sl⟩:=(Lo _ _ _ h1)
    rw [h2] at ht'; cases ht'
    exact sl.2.1
   ·exact ih n hn
 have kn:=kn hj
 have star:∀p:Expr->Bool,(∀e,bZ e=true->p e=false)->es.any p=false:=fun p q=>by
  rw [List.any_eq_false]
  intro e he
  rw [q e (List.all_eq_true.mp hp e he)]
  exact Bool.false_ne_true
 have n2:names.length=ts.length:=(k9 (F:=fun e=>match e with | .Name t _=>some t | _=>none) hn fun n q0 pos q0=>rfl).2
 have hw:swappedStores [.Tuple ts k1 p1] (.Tuple es k2 p2) env=pure (some names):=by
  unfold swappedStores
  dsimp only
  have c1:(!(ts.length == 2||ts.length == 3)||es.length != ts.length||env.blockKind != .function)=false:=by
   have b:env.blockKind=.function:=by unfold Env.blockKind; rw [En.kind]; rfl
   rw [b,hl]
   rcases h2 with q | q <;> simp [q]
  rw [c1,star _ (by intro e he; cases e <;> first | rfl | (cases he; done))]
  simp only [Bool.false_eq_true,if_false]
  rw [(k9 hn fun n hn' pos hpos=>by
   show (if (env.kindOf n == some .local&&pos.line == _)=true then some n else none)=some n
   rw [kn n hn',hpos]; simp).1]
  have c2:(names.length != ts.length||names.eraseDups.length != names.length)=false:=by
   rw [n2,pU hd,n2]; simp
  rw [c2,hc1,hc2]
  rfl
 refine Assign_Tuple_swapped (names:=names) (hf H nx R loc _ h A env O L m J s _ E Hh En S Lo fun J1 H1 nx1 R1 s1 g v le1 S1 i1 h1=>?_) rfl hw
 rw [n2]
 refine pI h1 Hh S1 i1 fun gs us s2 hk iu en S2=>?_
 rw [wN,List.append_nil] at hk
 exact DN hs hj.reverse hk En S2 (Lo.more le1) iu.reverse fun J2 H2 nx2 R2 loc2 m2 s2 le2 S2 Lo2 hk2=>ed (le1.trans le2) S2 Lo2 hk2
end
end
section
section
variable {x:aR} {d:Nat} {vs:aq} {J:az} {H:Tr} {nx:Nat} {R:Rn} {O:Heap} {L:Addr} {m:Str->Option Value} {s:Shared} {A:Around} {E:Value->Shared->Prop} {env:Env} {loc:List GV}
noncomputable def aC:SV:=fun H nx R loc k=>k .next H nx R loc
theorem qA:au x d vs aC []:=fun H nx R loc k h A env O L m J s Q E Hh En S Lo hQ=>wpAny_execs_nil (hQ J H nx R loc m s .next .next (.refl _) S Lo .next h)
noncomputable def zg:SV:=fun H nx R loc k=>k .cont H nx R loc
theorem rq{rest:List Stmt}(pos:Pos):au x d vs zg (.Continue pos::rest):=fun H nx R loc k h A env O L m J s Q E Hh En S Lo hQ=>
 wpAny_execs_cons (wpAny_Continue (hQ J H nx R loc m s .cont .cont (.refl _) S Lo .cont h))
noncomputable def oZ:SV:=fun H nx R loc k=>k (.ret .none) H nx R loc
theorem lV{rest:List Stmt}(pos:Pos):au x d vs oZ (.Return none pos::rest):=fun H nx R loc k h A env O L m J s Q E Hh En S Lo hQ=>
 wpAny_execs_cons (wpAny_Return_none (hQ J H nx R loc m s (.ret .none) _ (.refl _) S Lo (.ret .none) h))
noncomputable def bC(f:EV):SV:=fun H nx R loc k=>f H nx R loc fun g H nx R=>k (.ret g) H nx R loc
theorem aW{f:EV}{e:Expr}(hf:aK x d vs f e){rest:List Stmt}(pos:Pos):au x d vs (bC f) (.Return (some e) pos::rest):=fun H nx R loc k h A env O L m J s Q E Hh En S Lo hQ=>
 wpAny_execs_cons (wpAny_Return_some (hf H nx R loc _ h A env O L m J s _ E Hh En S Lo fun J' H' nx' R' s' g v le S' i hk=>hQ J' H' nx' R' loc m s' (.ret g) _ le S' (Lo.more le) (.ret i) hk))
noncomputable def bV(f:EV)(r:SV):SV:=fun H nx R loc k=>f H nx R loc fun q0 H nx R=>r H nx R loc k
theorem mh{prog:Program}{w:World}{e:Expr}{pos:Pos}{Q:Flow->Shared->Prop}{f:Expr}{as:List Expr}{ks:List Keyword}{cp:Pos}(hc:e=.Call f as ks cp)(hi:interactive env=false)(hs:swapsWith e none pos.line env=pure false)(h:wpAny (model prog w) A (eval e env) (fun q0 s'=>Q .next s') E s):wpAny (model prog w) A (exec (.Expr e pos) env) Q E s:=by
 rw [exec_Expr env e pos hi hs]
 refine wpAny_bind (wpAny_standAt (wpAny_bind (wpAny_mono h (fun v s' h'=>?_) fun q0 q0 x=>x)))
 subst hc
 cases v <;> first | exact wpAny_pure h' | exact wpAny_bind (wpAny_standAt (wpAny_bind (wpAny_runValue (codeAny_builtin entry_let_go (show wpAny _ _ (ret .none) _ _ s' from wpAny_pure (wpAny_pure h'))))))
theorem bg{f:EV}{r:SV}{e:Expr}{rest:List Stmt}(hf:aK x d vs f e)(hr:au x d vs r rest){g:Expr}{as:List Expr}{ks:List Keyword}{cp:Pos}(hc:e=.Call g as ks cp)(pos:Pos):au x d vs (bV f r) (.Expr e pos::rest):=fun H nx R loc k h A env O L m J s Q E Hh En S Lo hQ=>
 ec hr Hh En hQ (mh hc (by unfold interactive; rw [En.kind]; rfl) (hX (by rw [hc]; rfl) _ _ _) (hf H nx R loc _ h A env O L m J s _ E Hh En S Lo fun J' H' nx' R' s' g v le S' i hk=>ed le S' (Lo.more le) hk))
def xV(gf:GF)(H:Tr)(nx:Nat)(R:Rn)(loc:List GV)(r:SV)(k:KS):Bool:=@GF.rec (fun q0=>Bool) (r H nx R loc k) (k .brk H nx R loc) (k .cont H nx R loc) (fun g=>k (.ret g) H nx R loc) gf
def bX(t:TV)(a b:SV)(r:SV):SV:=fun H nx R loc k=>t H nx R loc fun c H nx R=>@Bool.rec (fun q0=>Bool) (b H nx R loc fun gf H nx R loc=>xV gf H nx R loc r k) (a H nx R loc fun gf H nx R loc=>xV gf H nx R loc r k) c
theorem ba{t:TV}{a b r:SV}{c:Expr}{as bs rest:List Stmt}(ht:d3 x d vs t c)(ha:au x d vs a as)(hb:au x d vs b bs)(hr:au x d vs r rest)(pos:Pos):au x d vs (bX t a b r) (.If c as bs pos::rest):=by
 intro H nx R loc k h A env O L m J s Q E Hh En S Lo hQ
 refine ec hr Hh En hQ (wpAny_If (ht H nx R loc _ h A env O L m J s _ E Hh En S Lo fun J1 H1 nx1 R1 s1 c le1 S1 h1=>?_))
 have go:∀(f:SV) (l:List Stmt),au x d vs f l->f H1 nx1 R1 loc (fun gf H nx R loc=>xV gf H nx R loc r k)=true->
   wpAny (model x.prog x.w) A (execs l env) (fun fl s'=>match fl with | .next=>rP x vs env O L J (fun H nx R loc=>r H nx R loc k) s' | fl=>Q fl s') E s1:=fun f l hf hk=>
  hf H1 nx1 R1 loc _ hk A env O L m J1 s1 _ E Hh En S1 (Lo.more le1) fun J2 H2 nx2 R2 loc2 m2 s2 gf fl le2 S2 Lo2 hfl hk2=>by
   cases hfl with
   | next=>exact ed (le1.trans le2) S2 Lo2 hk2
   | brk=>exact hQ J2 H2 nx2 R2 loc2 m2 s2 .brk _ (le1.trans le2) S2 Lo2 .brk hk2
   | cont=>exact hQ J2 H2 nx2 R2 loc2 m2 s2 .cont _ (le1.trans le2) S2 Lo2 .cont hk2
   | ret i=>exact hQ J2 H2 nx2 R2 loc2 m2 s2 (.ret _) _ (le1.trans le2) S2 Lo2 (.ret i) hk2
 cases c with
 | true=>exact go a as ha h1
 | false=>exact go b bs hb h1
def qc(gf:GF)(H:Tr)(nx:Nat)(R:Rn)(loc:List GV)(on:Tr->Nat->Rn->List GV->Bool)(r:SV)(k:KS):Bool:=@GF.rec (fun q0=>Bool) (on H nx R loc) (r H nx R loc k) (on H nx R loc) (fun g=>k (.ret g) H nx R loc) gf
def KG(t:TV)(b r:SV)(k:KS)(n:Nat):Tr->Nat->Rn->List GV->Bool:=@Nat.rec (fun q0=>Tr->Nat->Rn->List GV->Bool) (fun q0 q0 q0 q0=>false) (fun q0 ih H nx R loc=>t H nx R loc fun c H nx R=>@Bool.rec (fun q0=>Bool) (r H nx R loc k) (b H nx R loc fun gf H nx R loc=>qc gf H nx R loc ih r k) c) n
def xS(t:TV)(b r:SV):SV:=fun H nx R loc k=>KG t b r k 40 H nx R loc
theorem rl{t:TV}{b r:SV}{c:Expr}{bs rest:List Stmt}(ht:d3 x d vs t c)(hb:au x d vs b bs)(hr:au x d vs r rest)(pos:Pos):au x d vs (xS t b r) (.While c bs [] pos::rest):=by
 intro H nx R loc k h A env O L m J s Q E Hh En S Lo hQ
 revert ht hb hr h Hh En S Lo hQ
 revert t b r c bs rest pos
 revert x d vs H nx R loc k A env O L m J s Q E
 refine @pJ _ _ _ _ ?_
 generalize (dk _ _).x=x,(dk _ _).d=d,(dk _ _).vs=vs,(dk _ _).H=H,(dk _ _).nx=nx,(dk _ _).R=R,(dk _ _).loc=loc,(dk _ _).k=k,(dk _ _).A=A,(dk _ _).env=env,(dk _ _).O=O,(dk _ _).L=L,(dk _ _).m=m,(dk _ _).J=J,(dk _ _).s=s,(dk _ _).Q=Q,(dk _ _).E=E
 intro t b r c bs rest pos
 intro ht hb hr h Hh En S Lo hQ
 refine ec hr Hh En hQ (wpAny_While ?_)
 refine codeAny_whileLoop (fun n=>rP x vs env O L J (KG t b r k n)) (fun n s1 hI=>?_) 40 (ed (.refl _) S Lo h)
 symm
 obtain ⟨J1,H1,nx1,R1,loc1,m1,le1,S1,Lo1,h1⟩:=hI
 symm
 cases n with
 | zero=>cases h1
 | succ n=>
  have h1:t H1 nx1 R1 loc1 (fun c H nx R=>@Bool.rec (fun q0=>Bool) (r H nx R loc1 k) (b H nx R loc1 fun gf H nx R loc=>qc gf H nx R loc (KG t b r k n) r k) c)=true:=h1
  refine ht H1 nx1 R1 loc1 _ h1 A env O L m1 J1 s1 _ _ Hh En S1 Lo1 fun J2 H2 nx2 R2 s2 c le2 S2 h2=>?_
  cases c with
  | false=>exact wpAny_execs_nil (ed (le1.trans le2) S2 (Lo1.more le2) h2)
  | true=>
   refine hb H2 nx2 R2 loc1 _ h2 A env O L m1 J2 s2 _ _ Hh En S2 (Lo1.more le2) fun J3 H3 nx3 R3 loc3 m3 s3 gf fl le3 S3 Lo3 hfl hk3=>?_
   have le:=le1.trans (le2.trans le3)
   cases hfl with
   | next=>exact ⟨n,Nat.lt_succ_self n,ed le S3 Lo3 hk3⟩
   | cont=>exact ⟨n,Nat.lt_succ_self n,ed le S3 Lo3 hk3⟩
   | brk=>exact ed le S3 Lo3 hk3
   | ret i=>exact hQ J3 H3 nx3 R3 loc3 m3 s3 (.ret _) _ le S3 Lo3 (.ret i) hk3
end
end
section
section
variable {prog:Program} {w:World} {A:Around} {E:Value->Shared->Prop} {s:Shared}
theorem ky{h:Heap}{a:Addr}{o o1 o2:Obj}(e:h.get? a=some o):∃o',((h.push o1).push o2).get? a=some o':=⟨o,Heap.get?_push_of_some _ (Heap.get?_push_of_some _ e)⟩
theorem l6{it l:Addr}{i:Nat}{items:Array Value}{Q:Option Value->Shared->Prop}(hh:A.handled=none)(hit:s.heap.IsListIter it l i)(hl:s.heap.IsList l items)(hx:items[i]?=none)
  (hQ:∀h',Heap.ExtBut it s.heap h'->(∃o,h'.get? it=some o)->Q none { s with heap:=h' }):wpAny (model prog w) A (pyNext (.ref it)) Q E s:=by
 symm
 obtain ⟨o,ho,hc,hd⟩:=(id hit)
 obtain ⟨ol,hol,q0,nl,hdl⟩:=hl
 symm
 unfold pyNext
 refine wpAny_bind (wpAny_attempt (wpAny_callSpecial?_slot (name:=Str.ofString "__next__") hit.typeIs slot_listiter_next (wpAny_call_entry slot_listiter_next hit.typeIs entry_listiter_next ?_ (args_listiter_next _))))
 show wpAny _ _ (field (.ref it) 0 >>= _) _ _ s
 refine wpAny_bind (wpAny_field ho hd (x:=.ref l) rfl ?_)
 show wpAny _ _ (if (Value.ref l == Value.none)=true then _ else _) _ _ s
 rw [if_neg (show ¬ ((Value.ref l == Value.none)=true) from Bool.false_ne_true)]
 show wpAny _ _ (field (.ref it) 1 >>= _) _ _ s
 refine wpAny_bind (wpAny_field ho hd (x:=.int i 0) rfl ?_)
 show wpAny _ _ (seqItems? (.ref l) >>= _) _ _ s
 refine wpAny_bind (wpAny_seqItems hol hdl ?_)
 simp only [Int.toNat_natCast,hx]
 refine wpAny_bind (wpAny_rule (wpAny_bind (wpAny_setField ho hd (by simp) ?_)))
 show wpAny _ _ (newExc (.type "StopIteration") [] >>= _) _ _ _
 refine wpAny_bind ?_
 simp only [newExc,newTuple]
 refine wpAny_bind (wpAny_newObj_type ?_ (by size_fits))
 refine wpAny_bind (m:=firstArgMember _ _) (wpAny_of_eq (a:=Value.none) (by first | rfl | (simp only [firstArgMember]; rfl)) ?_)
 refine wpAny_newObj_type ?_ (by size_fits)
 simp only [raiseNew]
 refine wpAny_bind (wpAny_handled ?_)
 rw [show A.in1.handled=none from hh]
 refine wpAny_bind (wpAny_pure (wpAny_throw ?_))
 refine wpAny_bind (wpAny_isInstance (T:= "StopIteration") (b:=true) ⟨_,Heap.get?_push_size _ rfl,rfl⟩ isSubtype_stop ?_)
 exact wpAny_pure (hQ _ (((Heap.SameBut.update ..).extBut.push _).push _) (ky (Heap.get?_update_self _ ho (Obj.isFreed_of_fields (Obj.data_mapFields hd _)))))
theorem oX{it t:Addr}{i:Nat}{items:Array Value}{Q:Option Value->Shared->Prop}(hh:A.handled=none)(hit:s.heap.IsTupleIter it t i)(ht:s.heap.IsTuple t items)(hx:items[i]?=none)
  (hQ:∀h',Heap.ExtBut it s.heap h'->(∃o,h'.get? it=some o)->Q none { s with heap:=h' }):wpAny (model prog w) A (pyNext (.ref it)) Q E s:=by
 symm
 obtain ⟨o,ho,hc,hd⟩:=(id hit)
 obtain ⟨ol,hol,q0,nl,hdl⟩:=ht
 symm
 unfold pyNext
 refine wpAny_bind (wpAny_attempt (wpAny_callSpecial?_slot (name:=Str.ofString "__next__") hit.typeIs PySem.F.slot_tuple_iterator_next (wpAny_call_entry PySem.F.slot_tuple_iterator_next hit.typeIs PySem.F.entry_tuple_iterator_next ?_ (PySem.F.args_tuple_iterator_next_1 _))))
 show wpAny _ _ (field (.ref it) 0 >>= _) _ _ s
 refine wpAny_bind (wpAny_field ho hd (x:=.ref t) rfl ?_)
 show wpAny _ _ (if (Value.ref t == Value.none)=true then _ else _) _ _ s
 rw [if_neg (show ¬ ((Value.ref t == Value.none)=true) from Bool.false_ne_true)]
 show wpAny _ _ (field (.ref it) 1 >>= _) _ _ s
 refine wpAny_bind (wpAny_field ho hd (x:=.int i 0) rfl ?_)
 show wpAny _ _ (seqItems? (.ref t) >>= _) _ _ s
 refine wpAny_bind (wpAny_seqItems hol hdl ?_)
 simp only [Int.toNat_natCast,hx]
 refine wpAny_bind (wpAny_rule (wpAny_bind (wpAny_setField ho hd (by simp) ?_)))
 show wpAny _ _ (newExc (.type "StopIteration") [] >>= _) _ _ _
 refine wpAny_bind ?_
 simp only [newExc,newTuple]
 refine wpAny_bind (wpAny_newObj_type ?_ (by size_fits))
 refine wpAny_bind (m:=firstArgMember _ _) (wpAny_of_eq (a:=Value.none) (by first | rfl | (simp only [firstArgMember]; rfl)) ?_)
 refine wpAny_newObj_type ?_ (by size_fits)
 simp only [raiseNew]
 refine wpAny_bind (wpAny_handled ?_)
 first | rw [show A.in1.handled=none from hh] | rw [hh]
 refine wpAny_bind (wpAny_pure (wpAny_throw ?_))
 refine wpAny_bind (wpAny_isInstance (T:= "StopIteration") (b:=true) ⟨_,Heap.get?_push_size _ rfl,rfl⟩ isSubtype_stop ?_)
 exact wpAny_pure (hQ _ (((Heap.SameBut.update ..).extBut.push _).push _) (ky (Heap.get?_update_self _ ho (Obj.isFreed_of_fields (Obj.data_mapFields hd _)))))
theorem lk{it:Addr}{i left step:Int}{Q:Option Value->Shared->Prop}(hh:A.handled=none)(hit:IsRangeIter s.heap it i left step)(hleft:left<=0)
  (hQ:∀h',Heap.ExtBut it s.heap h'->(∃o,h'.get? it=some o)->Q none { s with heap:=h' }):wpAny (model prog w) A (pyNext (.ref it)) Q E s:=by
 have hT:s.TypeIs (.ref it) "range_iterator":=⟨_,hit,rfl⟩
 unfold pyNext
 refine wpAny_bind (wpAny_attempt (wpAny_callSpecial?_slot (name:=Str.ofString "__next__") hT PySem.F.slot_range_iterator_next (wpAny_call_entry PySem.F.slot_range_iterator_next hT PySem.F.entry_range_iterator_next ?_ (PySem.F.args_range_iterator_next_1 _))))
 show wpAny _ _ (field (.ref it) 0 >>= _) _ _ s
 refine wpAny_bind (wpAny_field hit rfl (x:=rawInt i) rfl ?_)
 show wpAny _ _ (field (.ref it) 1 >>= _) _ _ s
 refine wpAny_bind (wpAny_field hit rfl (x:=rawInt left) rfl ?_)
 show wpAny _ _ (field (.ref it) 2 >>= _) _ _ s
 refine wpAny_bind (wpAny_field hit rfl (x:=rawInt step) rfl ?_)
 show wpAny _ _ (if left<=0 then _ else _) _ _ s
 rw [if_pos hleft]
 refine wpAny_bind (wpAny_rule ?_)
 refine wpAny_bind ?_
 show wpAny _ _ (newExc (.type "StopIteration") [] >>= _) _ _ _
 refine wpAny_bind ?_
 simp only [newExc,newTuple]
 refine wpAny_bind (wpAny_newObj_type ?_ (by size_fits))
 refine wpAny_bind (m:=firstArgMember _ _) (wpAny_of_eq (a:=Value.none) (by first | rfl | (simp only [firstArgMember]; rfl)) ?_)
 refine wpAny_newObj_type ?_ (by size_fits)
 simp only [raiseNew]
 refine wpAny_bind (wpAny_handled ?_)
 first | rw [show A.in1.handled=none from hh] | rw [hh]
 refine wpAny_bind (wpAny_pure (wpAny_throw ?_))
 refine wpAny_bind (wpAny_isInstance (T:= "StopIteration") (b:=true) ⟨_,Heap.get?_push_size _ rfl,rfl⟩ isSubtype_stop ?_)
 exact wpAny_pure (hQ _ (((Heap.ExtBut.refl it s.heap).push _).push _) (ky hit))
end
section
variable {x:aR} {d:Nat} {vs:aq} {J:az} {H:Tr} {nx:Nat} {R:Rn} {O:Heap} {L:Addr} {m:Str->Option Value} {s:Shared} {A:Around} {E:Value->Shared->Prop} {env:Env} {loc:List GV}
theorem St.drop{i:Nat}{a:Addr}{H':Tr}{h':Heap}(S:St x J H nx R O L m s)(ha:J.as[i]?=some a)(he:Heap.ExtBut a s.heap h')(ho:∃o,h'.get? a=some o)(hA:At H H' i .junk)(tk:Nat):St x J H' nx R O L m { s with heap:=h',toks:=tk }:=by
 symm
 obtain ⟨os,hos,el,N⟩:=S.led.at_
 obtain ⟨o',ho'⟩:=ho
 obtain ⟨oi,hoi⟩:∃oi,os[i]?=some oi:=⟨_,List.getElem?_eq_getElem (el▸aN ha)⟩
 obtain ⟨q1,q2,q3⟩:=(N _ (cn ha hoi))
 symm
 have N':News O L h' (J.as.zip (os.set i o')):=by
  obtain ⟨pre,post,e1,e2,p1,p2⟩:=(ey (o':=o') S.led.nod ha hoi).split
  rw [e2]
  rw [e1] at N
  intro p hp
  rcases List.mem_append.mp hp with hp | hp
  ·have z:=N p (List.mem_append_left _ hp)
   exact ⟨he _ _ (p1 p hp) z.1,z.2⟩
  ·rcases List.mem_cons.mp hp with rfl | hp
   ·exact ⟨ho',q2,q3⟩
   ·have z:=N p (List.mem_append_right _ (.tail _ hp))
    exact ⟨he _ _ (p2 p hp) z.1,z.2⟩
 have F':Fr O L h' m:=⟨S.fr.ns.extBut he (Ne.symm q2),fun b o e=>he b o (fun z=>by rw [z,q3] at e; cases e) (S.fr.keep b o e),S.fr.above⟩
 exact S.set hos el F' ha N' (.junk o') hA tk
def tn(g:GV)(a b:Bool):Bool:=@GV.rec (fun q0=>Bool) a b (fun q0=>b) (fun q0=>b) (fun q0=>b) (fun q0=>b) (fun q0=>b) (fun q0=>b) b g
theorem nV{g:GV}{a b:Bool}(h:tn g a b=true):(g=.nul/\a=true)∨(g≠.nul/\b=true):=by cases g <;> first | exact .inl ⟨rfl,h⟩ | exact .inr ⟨(by intro e; cases e),h⟩
def lg(o:GO)(kl kt kr:Nat->Nat->Bool):Bool:=@GO.rec (fun q0=>Bool) false (fun q0=>false) (fun q0=>false) (fun q0 q0=>false) (fun q0=>false) false (fun q0=>false) (fun q0=>false) (fun q0=>false) (fun q0=>false) (fun j n=>kl j n) (fun j n=>kt j n) (fun z n=>kr z n) (fun q0=>false) (fun q0=>false) (fun q0=>false) false (fun q0=>false) (fun q0 q0=>false) (fun q0 q0=>false) (fun q0 q0=>false) (fun q0 q0=>false) (fun q0 q0=>false) o
theorem iZ{o:GO}{kl kt kr:Nat->Nat->Bool}(h:lg o kl kt kr=true):(∃j n,o=.liter j n/\kl j n=true)∨(∃j n,o=.titer j n/\kt j n=true)∨(∃j n,o=.riter j n/\kr j n=true):=by
 cases o <;> first | (cases h; done) | exact .inl ⟨_,_,rfl,h⟩ | exact .inr (.inl ⟨_,_,rfl,h⟩) | exact .inr (.inr ⟨_,_,rfl,h⟩)
def sT(i:Nat)(H:Tr)(kn:Tr->Bool)(c:Bool):Bool:=@Bool.rec (fun q0=>Bool) false (H.set 24 i .junk kn) c
def mq(i:Nat)(H:Tr)(ks:GV->Tr->Bool)(kn:Tr->Bool):Bool:=lg (H.get i)
 (fun j n=>ef (H.get j) fun l=>tn (aZ l n) (sT i H kn (Nat.ble (cH l) n)) (H.set 24 i (.liter j (Nat.succ n)) fun H=>ks (aZ l n) H))
 (fun j n=>ez (H.get j) (fun q0=>false) (fun l=>tn (aZ l n) (sT i H kn (Nat.ble (cH l) n)) (H.set 24 i (.titer j (Nat.succ n)) fun H=>ks (aZ l n) H)) (fun q0=>false) (fun q0=>false))
 (fun z n=>@Bool.rec (fun q0=>Bool) (sT i H kn true) (fN (Nat.succ z) fun z'=>H.set 24 i (.riter z' n) fun H=>ks (.int (.lit (.ofNat z))) H) (Nat.ble (Nat.succ z) n))
def EN(h:Heap)(a:Addr):Prop:=∃o n,h.get? a=some o/\o.cls=.type n/\["enumerate","zip","dict_itemiterator","dict_reverseitemiterator","odict_iterator","itertools.zip_longest","itertools.pairwise"].contains n=false
theorem lC{t:Expr}{a:Addr}{v:Value}{prog:Program}{w:World}{Q:Unit->Shared->Prop}(h:EN s.heap a)(hQ:Q () s):wpAny (model prog w) A (letOwnedTupleGo t (.ref a) v) Q E s:=by
 obtain ⟨o,n,h1,h2,h3⟩:=h
 have go:wpAny (model prog w) A (do
   let (.ref r,.ref a):=((Value.ref a),v) | return
   let o <- load r
   match o.cls,o.data with
   | .type n,.fields vs=>
    if ["enumerate","zip","dict_itemiterator","dict_reverseitemiterator","odict_iterator","itertools.zip_longest","itertools.pairwise"].contains n&&vs[0]? == some (rawInt a) then
     rule "for.unpacks-the-owned-tuple"
     updateField r 0 .none
   | _,_=>pure ()) Q E s:=by
  cases v with
  | ref b=>
   refine wpAny_bind (wpAny_load h1 ?_)
   rw [h2]
   cases hd:o.data <;> try exact wpAny_pure hQ
   simp only [h3,Bool.false_and,Bool.false_eq_true,if_false]
   exact wpAny_pure hQ
  | _=>exact wpAny_pure hQ
 unfold letOwnedTupleGo
 cases t <;> first | exact wpAny_pure hQ | exact go
theorem sE{i:Nat}{a:Addr}{ks:GV->Tr->Bool}{kn:Tr->Bool}(h:mq i H ks kn=true)(Hh:A.handled=none)(S:St x J H nx R O L m s)(ha:J.as[i]?=some a){Q:Option Value->Shared->Prop}
  (hs:∀g H' s' v,ks g H'=true->St x J H' nx R O L m s'->Is x.T J g v->EN s'.heap a->Q (some v) s') (hn:∀H' s',kn H'=true->St x J H' nx R O L m s'->Q none s'):wpAny (model x.prog x.w) A (pyNext (.ref a)) Q E s:=by
 obtain ⟨o,o1,q0,q0,o2⟩:=(S.led.obj ha)
 rcases iZ h with ⟨j,n,e,h1⟩ | ⟨j,n,e,h1⟩ | ⟨j,n,e,h1⟩
 ·rw [e] at o2
  obtain ⟨la,hj,hc,hd⟩:=o2
  obtain ⟨l,hl,h2⟩:=cY h1
  obtain ⟨us,lu,iu⟩:=(S.lst hj hl)
  have hit:s.heap.IsListIter a la n:=⟨o,o1,hc,hd⟩
  rcases nV h2 with ⟨q,h3⟩ | ⟨q,h3⟩
  ·obtain ⟨c,h4⟩:=aJ h3
   have c:=Nat.le_of_ble_eq_true c
   rw [cP,iu.length] at c
   obtain ⟨H',hA,h5⟩:=Tr.set_ok _ _ _ _ _ h4
   exact l6 Hh hit lu (by simp; lia) fun h' he ho=>hn H' _ h5 (S.drop ha he ho hA s.toks)
  ·obtain ⟨H',hA,h4⟩:=Tr.set_ok _ _ _ _ _ h3
   obtain ⟨v,v1,v2⟩:=(iu.get (jz q))
   refine wpAny_pyNext_list_item hit lu (by simpa using v1) fun h' hit' hsb=>?_
   obtain ⟨o',p1,p2,p3⟩:=hit'
   exact hs _ H' _ v h4 (S.upd ha hsb p1 (.liter hj p2 p3) hA s.toks) v2 ⟨o',_,p1,p2,by decide⟩
 ·rw [e] at o2
  obtain ⟨la,hj,hc,hd⟩:=o2
  rcases dJ h1 with ⟨l,hl,h2⟩ | ⟨l,hl,h2⟩ | ⟨l,hl,h2⟩ | ⟨l,hl,h2⟩
  ·cases h2
  ·obtain ⟨us,lu,iu⟩:=(S.tup hj hl)
   have hit:s.heap.IsTupleIter a la n:=⟨o,o1,hc,hd⟩
   rcases nV h2 with ⟨q,h3⟩ | ⟨q,h3⟩
   ·obtain ⟨c,h4⟩:=aJ h3
    have c:=Nat.le_of_ble_eq_true c
    rw [cP,iu.length] at c
    obtain ⟨H',hA,h5⟩:=Tr.set_ok _ _ _ _ _ h4
    exact oX Hh hit lu (by simp; lia) fun h' he ho=>hn H' _ h5 (S.drop ha he ho hA s.toks)
   ·obtain ⟨H',hA,h4⟩:=Tr.set_ok _ _ _ _ _ h3
    obtain ⟨v,v1,v2⟩:=(iu.get (jz q))
    refine wpAny_pyNext_tuple_item hit lu (by simpa using v1) fun h' hit' hsb=>?_
    obtain ⟨o',p1,p2,p3⟩:=hit'
    exact hs _ H' _ v h4 (S.upd ha hsb p1 (.titer hj p2 p3) hA s.toks) v2 ⟨o',_,p1,p2,by decide⟩
  ·cases h2
  ·cases h2
 ·rw [e] at o2
  have ho:_=_:=o2.inv
  subst ho
  have hit:IsRangeIter s.heap a j ((n:Int) - j) 1:=o1
  cases c:Nat.ble (Nat.succ j) n with
  | false=>
   rw [c] at h1
   have h1:H.set 24 i .junk kn=true:=h1
   obtain ⟨H',hA,h5⟩:=Tr.set_ok _ _ _ _ _ h1
   have c:¬ (j+1<=n):=fun z=>by rw [Nat.ble_eq_true_of_le z] at c; cases c
   exact lk Hh hit (by lia) fun h' he ho=>hn H' _ h5 (S.drop ha he ho hA s.toks)
  | true=>
   rw [c] at h1
   have c:=Nat.le_of_ble_eq_true c
   have h1:(fN (Nat.succ j) fun z'=>H.set 24 i (.riter z' n) fun H=>ks (.int (.lit (.ofNat j))) H)=true:=h1
   rw [bP] at h1
   obtain ⟨H',hA,h4⟩:=Tr.set_ok _ _ _ _ _ h1
   refine wpAny_pyNext_range_item hit (by lia) fun h' hit' hsb=>?_
   refine hs _ H' _ (.int j s.toks) h4 (S.upd ha hsb hit' (.riter ?_) hA (s.toks+1)) (.int (e:=.lit (.ofNat j)) _ trivial) ⟨_,_,hit',rfl,by decide⟩
   have e2:((n:Int) - ((j.succ:Nat):Int))=(n:Int) - j - 1:=by lia
   rw [e2]; rfl
def sQ:xm:=fun g H nx R k=>bU g fun j=>@GO.rec (fun q0=>Bool) false (fun q0=>mk (.liter j 0) H nx R k) (fun q0=>mk (.titer j 0) H nx R k) (fun q0 q0=>false) (fun q0=>false) false (fun q0=>false) (fun q0=>false) (fun q0=>false) (fun q0=>false) (fun q0 q0=>false) (fun q0 q0=>false) (fun q0 q0=>false) (fun q0=>false) (fun n=>@Bool.rec (fun q0=>Bool) false (mk (.riter 0 n) H nx R k) (Nat.ble n 1000)) (fun q0=>false) false (fun q0=>false) (fun q0 q0=>false) (fun q0 q0=>false) (fun q0 q0=>false) (fun q0 q0=>false) (fun q0 q0=>false) (H.get j)
theorem oN:Ej x d sQ fun v=>pyIter v:=by
 intro g H nx R k h A O L m J s u Q E Hh S iu hQ
 obtain ⟨j,rfl,h1⟩:=bn h
 obtain ⟨q0,rfl,ha⟩:=iu
 obtain ⟨o,o1,q0,q0,o2⟩:=(S.led.obj ha)
 cases e:H.get j with
 | list l=>
  rw [e] at h1
  obtain ⟨us,lu,iu⟩:=(S.lst ha e)
  exact wpAny_pyIter_list lu (fY h1 S hQ rfl (fun J' le=>.liter (aE le.1 ha) rfl rfl) s.toks)
 | tuple l=>
  rw [e] at h1
  obtain ⟨us,lu,iu⟩:=(S.tup ha e)
  exact iter_tuple lu (fY h1 S hQ rfl (fun J' le=>.titer (aE le.1 ha) rfl rfl) s.toks)
 | rng n=>
  rw [e] at h1 o2
  obtain ⟨c,h2⟩:=aJ h1
  have c:=Nat.le_of_ble_eq_true c
  obtain ⟨t,u,v,ho⟩:=o2
  subst ho
  have sz:Builtin.Range.rangeSize 0 n 1=(n:Int):=by
   unfold Builtin.Range.rangeSize
   simp
   lia
  refine wpAny_pyIter_range (r:=_) (a:=0) (b:=n) (c:=1) o1 ?_ ?_
  ·unfold Builtin.Range.small; rw [sz]; simp [Builtin.Range.rangeFitsLong]; lia
  ·rw [sz]
   exact fY h2 S hQ rfl (fun J' le=>.riter (by simp)) s.toks
 | _=>rw [e] at h1; cases h1
end
end
section
section
variable {x:aR} {d:Nat} {vs:aq} {J:az} {H:Tr} {nx:Nat} {R:Rn} {O:Heap} {L:Addr} {m:Str->Option Value} {s:Shared} {A:Around} {E:Value->Shared->Prop} {env:Env} {loc:List GV}
noncomputable def kb(e:Expr):Bool:=iN e 7
theorem fW{e:Expr}(h:kb e=true)(env:Env)(x:Value):foldedSetIterable e env x=pure x:=by
 cases e <;> first | rfl | (cases h; done)
def Dh(a:AV)(b r:SV)(i:Nat)(k:KS)(n:Nat):Tr->Nat->Rn->List GV->Bool:=@Nat.rec (fun q0=>Tr->Nat->Rn->List GV->Bool) (fun q0 q0 q0 q0=>false)
 (fun q0 ih H nx R loc=>mq i H (fun g H=>a g H nx R loc fun H nx R loc=>b H nx R loc fun gf H nx R loc=>qc gf H nx R loc ih r k) fun H=>r H nx R loc k) n
def kh(a:AV)(f:EV)(b r:SV):SV:=fun H nx R loc k=>f H nx R loc fun g H nx R=>sQ g H nx R fun it H nx R=>bU it fun i=>Dh a b r i k 64 H nx R loc
theorem fH{a:AV}{f:EV}{b r:SV}{t it:Expr}{bs rest:List Stmt}(ha:dQ x d vs a t)(hf:aK x d vs f it)(hb:au x d vs b bs)(hr:au x d vs r rest)(hn:kb it=true)(pos:Pos):au x d vs (kh a f b r) (.For t it bs [] pos::rest):=by
 intro H nx R loc k h A env O L m J s Q E Hh En S Lo hQ
 revert ha hf hb hr hn h Hh En S Lo hQ
 revert a f b r t it bs rest pos
 revert x d vs H nx R loc k A env O L m J s Q E
 refine @pJ _ _ _ _ ?_
 generalize (dk _ _).x=x,(dk _ _).d=d,(dk _ _).vs=vs,(dk _ _).H=H,(dk _ _).nx=nx,(dk _ _).R=R,(dk _ _).loc=loc,(dk _ _).k=k,(dk _ _).A=A,(dk _ _).env=env,(dk _ _).O=O,(dk _ _).L=L,(dk _ _).m=m,(dk _ _).J=J,(dk _ _).s=s,(dk _ _).Q=Q,(dk _ _).E=E
 intro a f b r t it bs rest pos
 intro ha hf hb hr hn h Hh En S Lo hQ
 refine ec hr Hh En hQ (wpAny_For (hf H nx R loc _ h A env O L m J s _ E Hh En S Lo fun J1 H1 nx1 R1 s1 g v le1 S1 iv h1=>?_) (fun y=>fW hn _ y))
 refine oN g H1 nx1 R1 _ h1 A O L m J1 s1 v _ E Hh S1 iv fun J2 H2 nx2 R2 s2 g2 v2 le2 S2 iv2 h2=>?_
 symm
 obtain ⟨i,rfl,h3⟩:=bn h2
 obtain ⟨ad,rfl,hi⟩:=iv2
 symm
 refine codeAny_forLoop_any (fun n=>rP x vs env O L J2 (Dh a b r i k n)) (fun n s3 hI=>?_) 64 (ed (.refl _) S2 (Lo.more (le1.trans le2)) h3)
 symm
 obtain ⟨J3,H3,nx3,R3,loc3,m3,le3,S3,Lo3,h4⟩:=hI
 symm
 have le:=(le1.trans le2).trans le3
 cases n with
 | zero=>cases h4
 | succ n=>
  have h4:mq i H3 (fun g H=>a g H nx3 R3 loc3 fun H nx R loc=>b H nx R loc fun gf H nx R loc=>qc gf H nx R loc (Dh a b r i k n) r k) (fun H=>r H nx3 R3 loc3 k)=true:=h4
  refine sE h4 Hh.hnd S3 (aE le3.1 hi) (fun g H' s' v hk S' iv no=>?_) fun H' s' hk S'=>?_
  ·refine lC no ?_
   refine ha g H' nx3 R3 loc3 _ hk A env O L m3 J3 s' v _ _ Hh En S' Lo3 iv fun J4 H4 nx4 R4 loc4 m4 s4 le4 S4 Lo4 h5=>?_
   refine hb H4 nx4 R4 loc4 _ h5 A env O L m4 J4 s4 _ _ Hh En S4 Lo4 fun J5 H5 nx5 R5 loc5 m5 s5 gf fl le5 S5 Lo5 hfl hk5=>?_
   have le':=le4.trans le5
   cases hfl with
   | next=>exact ⟨n,Nat.lt_succ_self n,ed (le3.trans le') S5 Lo5 hk5⟩
   | cont=>exact ⟨n,Nat.lt_succ_self n,ed (le3.trans le') S5 Lo5 hk5⟩
   | brk=>exact ed (le.trans le') S5 Lo5 hk5
   | ret i=>exact hQ J5 H5 nx5 R5 loc5 m5 s5 (.ret _) _ (le.trans le') S5 Lo5 (.ret i) hk5
  ·exact wpAny_execs_nil (ed le S' Lo3 hk)
end
end
section
def left(C:Addr)(P:Shared->Prop)(s:Shared):Prop:=∃m,s.heap.Ns C m/\∀h' m',h'.Ns C m'->Heap.SameBut C s.heap h'->P { s with heap:=h' }
def qR(M:Model)(A:Around)(E:Value->Shared->Prop)(use:Option (Value->Sem Unit))(Q:Value->Shared->Prop)(acc:Value)(C:Addr)(r:Result)(s':Shared):Prop:=
 match r,use with
 | .error _,_=>False
 | .ok _,none=>left C (Q acc) s'
 | .ok _,some u=>wpAny M A (u acc) (fun q0 s''=>left C (Q .none) s'') E s'
theorem Bv{M:Model}{A:Around}{E:Value->Shared->Prop}{s:Shared}{env:Env}{e:Expr}{scope:Scope}{pos:Pos}{newAcc first:Sem Value}{g:Comprehension}{gs:List Comprehension}{cl:List (Str × Addr)}{use:Option (Value->Sem Unit)}{Q:Value->Shared->Prop}
  (hcl:clausesOf e=g::gs) (hs:∀x,foldedSetIterable g.iter env x=pure x) (hclos:closureFor scope env=pure cl) (hkind:scope.kind=.function)
  (hnames:∀x∈scope.names,x.2=.local->scope.names.lookup x.1=some .local)
  (h:wpAny M A first (fun x s₁=>wpAny M A (pyIter x) (fun it s₂=>wpAny M A newAcc (fun acc s₃=>wpAny M A (newFunctionEnv scope env.globals cl [] env.qual none .none (some env)) (fun cenv s₄=>
   codeAny M A (.compStart e 0 it acc { cenv with scope:=relabel scope env }) (qR M A E use Q acc cenv.locals) s₄) E s₃) E s₂) E s₁) E s) :
  wpAny M A (comprehension e scope env pos newAcc false first use) Q E s:=by
 unfold comprehension
 rw [hclos,hcl]
 refine wpAny_bind (wpAny_mono h (fun x s₁ h₁=>wpAny_bind (wpAny_standAt (wpAny_bind (wpAny_of_eq (hs x) (wpAny_bind (wpAny_holding (wpAny_mono h₁ (fun it s₂ h₂=>wpAny_standIf ?_) fun q0 q0 y=>y))))))) fun q0 q0 y=>y)
 refine wpAny_bind (wpAny_mono h₂ (fun acc s₃ h₃=>wpAny_bind (wpAny_pure (wpAny_bind (wpAny_mono h₃ (fun cenv s₄ h₄=>?_) fun q0 q0 y=>y)))) fun q0 q0 y=>y)
 dsimp only
 have kinds:∀y∈(scope.names.filter fun z=>(z.2 == .local||z.2 == .cell)&&z.1 != (".0" : Str)),y.2=.local->Env.kindOf { cenv with scope:=relabel scope env } y.1=some .local:=
  fun y hy hl=>lookup_relabel_local (hnames y (List.mem_filter.mp hy).1 hl)
 refine wpAny_holding (wpAny_bind (wpAny_attempt (wpAny_holding (wpAny_run (codeAny_mono h₄ fun r s' hr=>?_)))))
 cases r with
 | error z=>exact (show False by cases use <;> exact hr).elim
 | ok f=>
  cases use with
  | none=>
   obtain ⟨m,hn,hq⟩:left cenv.locals (Q acc) s':=hr
   exact wpAny_bind (wpAny_holding (wpAny_comp_letGo (cenv:={ cenv with scope:=relabel scope env }) hkind _ s' m (fun y hy=>kinds y (List.mem_reverse.mp hy)) hn fun h' m' hn' hs'=>wpAny_pure (hq h' m' hn' hs')))
  | some u=>
   have hr:wpAny M A (u acc) (fun q0 s''=>left cenv.locals (Q .none) s'') E s':=hr
   refine wpAny_bind (wpAny_rule (wpAny_bind (wpAny_holding (wpAny_mono hr (fun q0 s'' hr'=>?_) fun q0 q0 y=>y))))
   obtain ⟨m,hn,hq⟩:=hr'
   exact wpAny_bind (wpAny_comp_letGo (cenv:={ cenv with scope:=relabel scope env }) hkind _ s'' m (fun y hy=>kinds y (List.mem_reverse.mp ((List.mem_append.mp hy).elim List.mem_of_mem_drop List.mem_of_mem_take))) hn fun h' m' hn' hs'=>wpAny_pure (hq h' m' hn' hs'))
end
section
inductive dR (T:List Str) (vs:aq):aq->List Nat->List (Str × NameKind)->Prop
 | nil:dR T vs [] [] []
 | blk {i:Nat} {s:Str} {r:aq} {sl:List Nat} {ns:List (Str × NameKind)}:T[i]?=some s->dR T vs r sl ns->dR T vs ((i,.blk)::r) (0::sl) ((s,.local)::ns)
 | cel {i j:Nat} {s:Str} {r:aq} {sl:List Nat} {ns:List (Str × NameKind)}:T[i]?=some s->vs[j]?=some (i,.cel)->dR T vs r sl ns->dR T vs ((i,.cel)::r) ((j+2)::sl) ((s,.free)::ns)
 | glo {i:Nat} {s:Str} {r:aq} {sl:List Nat} {ns:List (Str × NameKind)}:T[i]?=some s->dR T vs r sl ns->dR T vs ((i,.glo)::r) (1::sl) ((s,.globalImplicit)::ns)
noncomputable def mZ:SK->NameKind
 | .loc=>.local
 | .cel=>.free
 | .blk=>.local
 | .glo=>.globalImplicit
def Sw(vs:aq)(i n:Nat):SK->Prop
 | .loc=>False
 | .cel=>∃j,n=j+2/\vs[j]?=some (i,.cel)
 | .blk=>n=0
 | .glo=>n=1
theorem dR.at_{T:List Str}(hT:T.Nodup){vs r:aq}{sl:List Nat}{ns:List (Str × NameKind)}(h:dR T vs r sl ns)(nd:(r.map (·.1)).Nodup):∀{j i:Nat} {kd:SK},r[j]?=some (i,kd)->
  ∃s n,T[i]?=some s/\sl[j]?=some n/\ns.lookup s=some (mZ kd)/\Sw vs i n kd:=by
 induction h with
 | nil=>intro j i kd e; simp at e
 | @blk i0 s0 r sl ns hs hr ih=>
  intro j i kd e
  cases j with
  | zero=>
   simp only [List.getElem?_cons_zero,Option.some.injEq,Prod.mk.injEq] at e
   obtain ⟨rfl,rfl⟩:=e
   exact ⟨s0,0,hs,rfl,by simp [mZ],rfl⟩
  | succ j=>
   simp only [List.getElem?_cons_succ] at e
   obtain ⟨s,n,a,b,c,d⟩:=(ih (List.nodup_cons.mp nd).2 e)
   refine ⟨s,n,a,b,?_,d⟩
   have ne:i≠i0:=fun q=>(List.nodup_cons.mp nd).1 (List.mem_map.mpr ⟨_,List.mem_of_getElem? e,q⟩)
   rw [List.lookup_cons,show (s == s0)=false by simpa using fun q=>ne ((cF hT a hs).mp q)]; exact c
 | @cel i0 j0 s0 r sl ns hs hv hr ih=>
  intro j i kd e
  cases j with
  | zero=>
   simp only [List.getElem?_cons_zero,Option.some.injEq,Prod.mk.injEq] at e
   obtain ⟨rfl,rfl⟩:=e
   exact ⟨s0,j0+2,hs,rfl,by simp [mZ],j0,rfl,hv⟩
  | succ j=>
   simp only [List.getElem?_cons_succ] at e
   obtain ⟨s,n,a,b,c,d⟩:=(ih (List.nodup_cons.mp nd).2 e)
   refine ⟨s,n,a,b,?_,d⟩
   have ne:i≠i0:=fun q=>(List.nodup_cons.mp nd).1 (List.mem_map.mpr ⟨_,List.mem_of_getElem? e,q⟩)
   rw [List.lookup_cons,show (s == s0)=false by simpa using fun q=>ne ((cF hT a hs).mp q)]; exact c
 | @glo i0 s0 r sl ns hs hr ih=>
  intro j i kd e
  cases j with
  | zero=>
   simp only [List.getElem?_cons_zero,Option.some.injEq,Prod.mk.injEq] at e
   obtain ⟨rfl,rfl⟩:=e
   exact ⟨s0,1,hs,rfl,by simp [mZ],rfl⟩
  | succ j=>
   simp only [List.getElem?_cons_succ] at e
   obtain ⟨s,n,a,b,c,d⟩:=(ih (List.nodup_cons.mp nd).2 e)
   refine ⟨s,n,a,b,?_,d⟩
   have ne:i≠i0:=fun q=>(List.nodup_cons.mp nd).1 (List.mem_map.mpr ⟨_,List.mem_of_getElem? e,q⟩)
   rw [List.lookup_cons,show (s == s0)=false by simpa using fun q=>ne ((cF hT a hs).mp q)]; exact c
theorem dR.mem{T:List Str}{vs r:aq}{sl:List Nat}{ns:List (Str × NameKind)}(h:dR T vs r sl ns):∀{y:Str × NameKind},y∈ns->∃(j i:Nat) (kd:SK),r[j]?=some (i,kd)/\T[i]?=some y.1/\y.2=mZ kd/\(y.2=.free->∃j0:Nat,vs[j0]?=some (i,SK.cel)):=by
 induction h with
 | nil=>intro y hy; simp at hy
 | blk hs hr ih=>
  intro y hy
  rcases List.mem_cons.mp hy with rfl | hy
  ·exact ⟨0,_,.blk,rfl,hs,rfl,by intro q; cases q⟩
  ·obtain ⟨j,i,kd,a,b⟩:=(ih hy); exact ⟨j+1,i,kd,by simpa using a,b⟩
 | cel hs hv hr ih=>
  intro y hy
  rcases List.mem_cons.mp hy with rfl | hy
  ·exact ⟨0,_,.cel,rfl,hs,rfl,fun q0=>⟨_,hv⟩⟩
  ·obtain ⟨j,i,kd,a,b⟩:=(ih hy); exact ⟨j+1,i,kd,by simpa using a,b⟩
 | glo hs hr ih=>
  intro y hy
  rcases List.mem_cons.mp hy with rfl | hy
  ·exact ⟨0,_,.glo,rfl,hs,rfl,by intro q; cases q⟩
  ·obtain ⟨j,i,kd,a,b⟩:=(ih hy); exact ⟨j+1,i,kd,by simpa using a,b⟩
theorem lh{env:Env}{s:Str}:∀{names:List (Str × NameKind)},(names.map fun (n,k)=>if (k == NameKind.free&&env.scope.kind == .function&&env.kindOf n == some .cell) then (n,NameKind.cell) else (n,k)).lookup s =
  (names.lookup s).map fun k=>if (k == NameKind.free&&env.scope.kind == .function&&env.kindOf s == some .cell) then .cell else k
 | []=>rfl
 | (n,k)::r=>by
  rw [List.map_cons,List.lookup_cons]
  have ih:=lh (env:=env) (s:=s) (names:=r)
  show List.lookup s ((if (k == NameKind.free&&env.scope.kind == .function&&env.kindOf n == some .cell)=true then (n,NameKind.cell) else (n,k))::_)=_
  cases q:s == n with
  | true=>
   have e:s=n:=by simpa using q
   subst e
   split
   ·next c=>rw [List.lookup_cons,List.lookup_cons]; simp only [beq_self_eq_true,Option.map_some,if_pos c]
   ·next c=>rw [List.lookup_cons,List.lookup_cons]; simp only [beq_self_eq_true,Option.map_some,if_neg c]
  | false=>
   split <;> simp only [List.lookup_cons,q,ih]
theorem zb{scope:Scope}{env:Env}(h:∀y∈scope.names,y.2=.free->∃a,env.cells.lookup y.1=some a) :
  ∃cl,closureFor scope env=pure cl/\∀y∈scope.names,y.2=.free->∀a,env.cells.lookup y.1=some a->cl.lookup y.1=some a:=by
 have go:∀(ns:List (Str × NameKind)) (acc:List (Str × Addr)),(∀y∈ns,y.2=.free->∃a,env.cells.lookup y.1=some a)->(∀s b,acc.lookup s=some b->env.cells.lookup s=some b)->
   ∃cl,(forIn ns acc fun (p:Str × NameKind) (cs:List (Str × Addr))=>(if (p.2 == NameKind.free)=true then do let a <- cellOf env p.1; pure (ForInStep.yield ((p.1,a)::cs)) else pure (ForInStep.yield cs):Sem _))=pure cl/\
    (∀s b,cl.lookup s=some b->env.cells.lookup s=some b)/\∀s,((acc.lookup s).isSome=true∨(s,NameKind.free)∈ns)->(cl.lookup s).isSome=true:=by
  intro ns
  induction ns with
  | nil=>intro acc _ ha; exact ⟨acc,rfl,ha,fun s q=>q.elim id fun z=>by simp at z⟩
  | cons p r ih=>
   intro acc hn ha
   obtain ⟨n,k⟩:=p
   have hr:∀y∈r,y.2=.free->∃a,env.cells.lookup y.1=some a:=fun y hy=>hn y (.tail _ hy)
   by_cases e:k=.free
   ·subst e
    obtain ⟨a,hc⟩:=(hn (n,.free) (.head _) rfl)
    obtain ⟨cl,c1,c2,c3⟩:=ih ((n,a)::acc) hr (fun s b hb=>by
     rw [List.lookup_cons] at hb
     cases q:s == n with
     | true=>
      rw [q] at hb
      cases hb
      have:s=n:=by simpa using q
      subst this
      exact hc
     | false=>rw [q] at hb; exact ha s b hb)
    refine ⟨cl,?_,c2,fun s q=>c3 s ?_⟩
    ·rw [List.forIn_cons]
     have:cellOf env n=pure a:=by unfold cellOf; rw [hc]
     simp only [this,beq_self_eq_true,if_true,pure_bind]
     exact c1
    ·rw [List.lookup_cons]
     cases z:s == n with
     | true=>exact .inl rfl
     | false=>
      rcases q with q | q
      ·exact .inl q
      ·rcases List.mem_cons.mp q with q | q
       ·cases q; simp at z
       ·exact .inr q
   ·obtain ⟨cl,c1,c2,c3⟩:=(ih acc hr ha)
    refine ⟨cl,?_,c2,fun s q=>c3 s ?_⟩
    ·rw [List.forIn_cons]
     have:(k == NameKind.free)=false:=by simpa using e
     simp only [this,Bool.false_eq_true,if_false,pure_bind]
     exact c1
    ·rcases q with q | q
     ·exact .inl q
     ·rcases List.mem_cons.mp q with q | q
      ·cases q; exact absurd rfl e
      ·exact .inr q
 obtain ⟨cl,c1,c2,c3⟩:=(go scope.names [] h (by intro s b hb; simp at hb))
 refine ⟨cl,?_,fun y hy hk a ha=>?_⟩
 ·have e:closureFor scope env=((forIn scope.names [] fun (p:Str × NameKind) (cs:List (Str × Addr))=>(if (p.2 == NameKind.free)=true then do let a <- cellOf env p.1; pure (ForInStep.yield ((p.1,a)::cs)) else pure (ForInStep.yield cs):Sem _)) >>= fun cs=>pure cs):=rfl
  rw [e,c1]
  rfl
 ·obtain ⟨n,k⟩:=y
  have hk:k=.free:=hk
  subst hk
  obtain ⟨b,hb⟩:=(Option.isSome_iff_exists.mp (c3 n (.inr hy)))
  have:=c2 n b hb
  rw [ha] at this
  cases this
  exact hb
end
section
section
variable {x:aR} {d:Nat} {vs:aq} {J:az} {H:Tr} {nx:Nat} {R:Rn} {O:Heap} {L:Addr} {m:Str->Option Value} {s:Shared} {A:Around} {E:Value->Shared->Prop} {env:Env} {loc:List GV}
def xT(x:aR)(d:Nat)(vs:aq)(f:AV)(t:Expr):Prop:=
 ∀g H nx R loc k,f g H nx R loc k=true->∀(A:Around) (env:Env) (O:Heap) (L:Addr) (m:Str->Option Value) (J:az) (s:Shared) (v:Value) (Q:Unit->Shared->Prop) (E:Value->Shared->Prop),
  ck x d A O L->bN env L->St x J H nx R O L m s->bq x J env L m vs loc->Is x.T J g v->(∀J' H nx R s,J.le J'->St x J' H nx R O L m s->k H nx R loc=true->Q () s)->wpAny (model x.prog x.w) A (assign t env v) Q E s
theorem eA(hT:x.T.Nodup){j i:Nat}{t:Str}(hv:vs[j]?=some (i,.blk))(ht:x.T[i]?=some t)(pos:Pos):xT x d vs (jU j i) (.Name t pos):=by
 intro g H nx R loc k h A env O L m J s v Q E Hh En S Lo iv hQ
 symm
 obtain ⟨q0,h1⟩:=cQ h
 obtain ⟨c,hc,h2⟩:=bn h1
 obtain ⟨es,hg,h3⟩:=ng h2
 obtain ⟨es',h4,hes⟩:=(w5 h3)
 obtain ⟨H',hA,h5⟩:=Tr.set_ok _ _ _ _ _ h4
 obtain ⟨t',ht',hd,k1,c',k2,k3⟩:=(Lo j i .blk hv)
 symm
 rw [ht] at ht'; cases ht'
 rw [hc] at k2; cases k2
 symm
 obtain ⟨o,o1,q0,q0,o2⟩:=(S.led.obj k3)
 rw [hg] at o2
 obtain ⟨mm,q,hm⟩:=o2
 obtain ⟨ds,ep,e1,e2,e3⟩:=q
 symm
 refine wpAny_assign_Name (wpAny_storeName_local (m:=mm) k1 ⟨o,ds,ep,o1,e1,e2,e3⟩ (fun h' hn hsb=>?_) (by rw [En.kind]; rfl))
 symm
 obtain ⟨o',ds',ep',f1,f2,f3,f4⟩:=hn
 symm
 refine hQ J H' nx R _ (.refl _) (S.upd k3 hsb f1 (.ns (m:=fun y=>if y=t then some v else mm y) ⟨ds',ep',f2,f3,f4⟩ fun b g' hb=>?_) hA (s.toks+1)) h5
 rw [hes] at hb
 by_cases e:b=i
 ·rw [if_pos e] at hb; cases hb
  subst e
  exact ⟨t,v,ht,if_pos rfl,iv⟩
 ·rw [if_neg e] at hb
  symm
  obtain ⟨y,v',b1,b2,b3⟩:=(hm b g' hb)
  symm
  have ne:y≠t:=fun z=>e ((cF hT b1 ht).mp z)
  exact ⟨y,v',b1,by show (if y=t then _ else _)=_; rw [if_neg ne]; exact b2,b3⟩
def kW(x:aR)(d:Nat)(vs:aq)(t:TV)(ifs:List Expr):Prop:=(ifs=[]/\t=fun H nx R loc k=>k true H nx R)∨∃c,ifs=[c]/\d3 x d vs t c
noncomputable def oG:TV:=fun H nx R loc k=>k true H nx R
theorem jC:kW x d vs oG []:=.inl ⟨rfl,rfl⟩
theorem gT{t:TV}{c:Expr}(h:d3 x d vs t c):kW x d vs t [c]:=.inr ⟨c,rfl,h⟩
theorem J2{t:TV}{ifs:List Expr}(hi:kW x d vs t ifs){k:KB}(h:t H nx R loc k=true)(Hh:ck x d A O L)(En:bN env L)(S:St x J H nx R O L m s)(Lo:bq x J env L m vs loc){Q:Bool->Shared->Prop}(hQ:nA x J O L m k Q) :
  wpAny (model x.prog x.w) A (forIn ifs true fun c (r:Bool)=>if r=true then do let ok <- isTrue c env (eval c env); pure (ForInStep.yield ok) else pure (ForInStep.yield r)) Q E s:=by
 rcases hi with ⟨rfl,rfl⟩ | ⟨c,rfl,hc⟩
 ·exact wpAny_pure (hQ J H nx R s true (.refl _) S h)
 ·rw [List.forIn_cons]
  refine wpAny_bind ?_
  rw [if_pos rfl]
  exact wpAny_bind (hc H nx R loc k h A env O L m J s _ E Hh En S Lo fun J' H' nx' R' s' b le S' hk=>wpAny_pure (wpAny_pure (hQ J' H' nx' R' s' b le S' hk)))
theorem Au{elt target iter:Expr}{ifs:List Expr}{scope:Scope}{pos:Pos}{it acc:Value}{Rr:Result->Shared->Prop}(I:Nat->Shared->Prop)
  (turn:∀n s,I n s->∀N:Value->Shared->Prop,wpAny (model x.prog x.w) A (pyNext it) (fun r s₁=>match r with
   | none=>Rr (.ok .next) s₁
   | some v=>wpAny (model x.prog x.w) A (letOwnedTupleGo target it v) (fun q0 s₁'=>wpAny (model x.prog x.w) A (assign target env v) (fun q0 s₂=>
    wpAny (model x.prog x.w) A (forIn ifs true fun c (r:Bool)=>if r=true then do let ok <- isTrue c env (eval c env); pure (ForInStep.yield ok) else pure (ForInStep.yield r)) (fun ok s₃=>
     if ok=true then wpAny (model x.prog x.w) A (eval elt env) (fun y s₄=>wpAny (model x.prog x.w) A (call (.builtin "list.append") [acc,y]) (fun q0 s₅=>∃m,m<n/\I m s₅) N s₄) N s₃ else ∃m,m<n/\I m s₃) N s₂) N s₁') N s₁) N s)
  (n:Nat) (h:I n s):codeAny (model x.prog x.w) A (.compLoop (.ListComp elt [⟨target,iter,ifs,0⟩] scope pos) 0 it acc env) Rr s:=by
 refine codeAny_loop rfl I (fun n s hI=>?_) n h
 show wpAny _ _ ((compTurn (.ListComp elt [⟨target,iter,ifs,0⟩] scope pos) 0 it acc env).onRaise (fun x=>do noteFrame x env; theTreesLotGoes x)) _ _ s
 refine wpAny_noted ?_
 rw [compTurn_list]
 refine wpAny_bind (wpAny_standAt (wpAny_bind (wpAny_mono (turn n s hI _) (fun r s₁ h₁=>?_) fun q0 q0 h'=>h')))
 cases r with
 | none=>exact wpAny_pure h₁
 | some v=>
  refine wpAny_bind (wpAny_mono h₁ (fun q0 s₁' h₁'=>wpAny_bind (wpAny_mono h₁' (fun q0 s₂ h₂=>wpAny_bind (wpAny_mono h₂ (fun ok s₃ h₃=>?_) fun q0 q0 h'=>h')) fun q0 q0 h'=>h')) fun q0 q0 h'=>h')
  cases ok with
  | true=>
   rw [if_pos rfl] at h₃
   exact wpAny_bind (wpAny_bind (wpAny_mono h₃ (fun y s₄ h₄=>wpAny_bind (wpAny_mono h₄ (fun q0 s₅ h₅=>wpAny_pure (wpAny_pure ⟨rfl,h₅⟩)) fun q0 q0 h'=>h')) fun q0 q0 h'=>h'))
  | false=>exact wpAny_pure ⟨rfl,by rwa [if_neg (by decide)] at h₃⟩
end
end
section
section
variable {x:aR} {d:Nat} {vs:aq} {J:az} {H:Tr} {nx:Nat} {R:Rn} {O:Heap} {L:Addr} {m:Str->Option Value} {s:Shared} {A:Around} {E:Value->Shared->Prop} {env:Env} {loc:List GV}
def ls(sl:List Nat)(c:GV)(loc:List GV):List GV:=@List.rec Nat (fun q0=>List GV) [] (fun n q0 ih=>(@Nat.rec (fun q0=>GV) c (fun n q0=>@Nat.rec (fun q0=>GV) .nul (fun j q0=>aZ loc j) n) n)::ih) sl
theorem wJ(c:GV)(loc:List GV):∀{sl:List Nat} {j n:Nat},sl[j]?=some n->aZ (ls sl c loc) j=@Nat.rec (fun q0=>GV) c (fun n q0=>@Nat.rec (fun q0=>GV) .nul (fun j q0=>aZ loc j) n) n
 | [],j,n,h=>by simp at h
 | a::r,0,n,h=>by simp at h; subst h; rfl
 | a::r,j+1,n,h=>wJ c loc (sl:=r) (by simpa using h)
abbrev zA:=Tr->Nat->Rn->Bool
def Fj(a:AV)(t:TV)(e:EV)(i acc:Nat)(loc:List GV)(k:zA)(n:Nat):zA:=@Nat.rec (fun q0=>zA) (fun q0 q0 q0=>false)
 (fun q0 ih H nx R=>mq i H (fun g H=>a g H nx R loc fun H nx R q0=>t H nx R loc fun c H nx R=>@Bool.rec (fun q0=>Bool) (ih H nx R) (e H nx R loc fun y H nx R=>fP acc [y] H nx R fun q0 H nx R=>ih H nx R) c) fun H=>k H nx R) n
def yO(sl:List Nat)(f:EV)(a:AV)(t:TV)(e:EV)(kend:Nat->Nat->zA)(H:Tr)(nx:Nat)(R:Rn)(loc:List GV):Bool:=
 f H nx R loc fun g H nx R=>sQ g H nx R fun it H nx R=>bU it fun i=>mk (.list []) H nx R fun acc H nx R=>bU acc fun ai=>mk (.ns []) H nx R fun c H nx R=>bU c fun ci=>@Bool.rec (fun q0=>Bool) false (fL (ls sl c loc) fun loc'=>Fj a t e i ai loc' (kend ai ci) 64 H nx R) (lg (H.get i) (fun q0 q0=>true) (fun q0 q0=>true) fun q0 q0=>true)
theorem wk{scope:Scope}{cl:List (Str × Addr)}{g:Addr}{qual:Str}{M:Model}{Q:Env->Shared->Prop}(hc:∀y∈scope.names,y.2≠.cell)
  (hQ:Q (newEnv scope s.heap.objs.size g cl qual none .none (some env) builtinsNs) { s with heap:=s.heap.push { cls:=.type "dict",data:=.dict #[] } }):wpAny M A (newFunctionEnv scope g cl [] qual none .none (some env)) Q E s:=by
 simp only [newFunctionEnv,Option.isSome_some,if_true]
 refine wpAny_bind (wpAny_alloc ?_)
 rw [forIn_yield_id cl (fun y hy c=>by
  obtain ⟨name,kind⟩:=y
  have:(kind == NameKind.cell)=false:=by simpa using hc _ hy
  simp only [this,Bool.false_eq_true,if_false])]
 exact wpAny_bind (wpAny_pure (wpAny_bind (wpAny_pure (wpAny_pure hQ))))
theorem vq{k:KV}{Q:Value->Shared->Prop}(h:mk (.list []) H nx R k=true)(S:St x J H nx R O L m s)(hQ:fw x J O L m k Q):wpAny (model x.prog x.w) A (newList []) Q E s:=
 wpAny_newObj_type (fY (Q:=Q) h S hQ rfl (fun J' le=>.list (vs:=[]) 0 .nil) s.toks)
theorem wp{k:KV}{scope:Scope}{cl:List (Str × Addr)}{g:Addr}{qual:Str}{Q:Env->Shared->Prop}(hc:∀y∈scope.names,y.2≠.cell)(h:mk (.ns []) H nx R k=true)(S:St x J H nx R O L m s)
  (hQ:fw x J O L m k fun v s'=>∀C,v=.ref C->Q (newEnv scope C g cl qual none .none (some env) builtinsNs) s'):wpAny (model x.prog x.w) A (newFunctionEnv scope g cl [] qual none .none (some env)) Q E s:=
 wk hc (fY (o:={ cls:=.type "dict",data:=.dict #[] }) h S hQ rfl (fun J' le=>.ns (m:=fun q0=>none) ⟨#[],0,rfl,(by intro e he; simp at he),fun q0=>rfl⟩ (by intro i g q; simp at q)) s.toks _ rfl)
theorem bq.inner{vs':aq}{sl:List Nat}{scope:Scope}{cl:List (Str × Addr)}(hT:x.T.Nodup)(hD:("__debug__" : Str)∉x.T)(hc:dR x.T vs vs' sl scope.names)(nd:(vs'.map (·.1)).Nodup)(En:bN env L)(Lo:bq x J env L m vs loc){C:Addr}{ci:Nat}(hC:J.as[ci]?=some C)
  (hcl:∀y∈scope.names,y.2=.free->∀a,env.cells.lookup y.1=some a->cl.lookup y.1=some a):bq x J (compEnvC scope cl C env) L m vs' (ls sl (.own ci) loc):=by
 intro j i kd hj
 obtain ⟨t,n,ht,hn,hk,hs⟩:=(hc.at_ hT nd hj)
 have ek:(compEnvC scope cl C env).kindOf t=(scope.names.lookup t).map fun k=>if (k == NameKind.free&&env.scope.kind == .function&&env.kindOf t == some .cell) then .cell else k:=lh
 rw [hk] at ek
 refine ⟨t,ht,?_,?_⟩
 ·rw [beq_eq_false_iff_ne]; intro q; rw [<- q] at hD; exact hD (List.mem_of_getElem? ht)
 ·rw [wJ _ _ hn]
  cases kd with
  | loc=>exact hs.elim
  | blk=>
   cases hs
   exact ⟨ek,ci,rfl,hC⟩
  | glo=>exact ek
  | cel=>
   obtain ⟨j0,rfl,hv⟩:=hs
   obtain ⟨t',ht',q0,k1,k,a,k2,k3,k4⟩:=(Lo j0 i .cel hv)
   rw [ht] at ht'; cases ht'
   refine ⟨?_,k,a,k2,k3,hcl (t,.free) ?_ rfl a k4⟩
   ·rw [ek,k1,En.kind]; rfl
   ·have:=List.lookup_eq_some_iff.mp hk
    obtain ⟨l1,l2,e,q0⟩:=this
    rw [e]; simp [mZ]
theorem bN.inner{scope:Scope}{cl:List (Str × Addr)}{C:Addr}(hk:scope.kind=.function)(En:bN env L):bN (compEnvC scope cl C env) L:=⟨En.glob,En.bui,hk,En.frame⟩
theorem sd{f:EV}{a:AV}{t:TV}{e:EV}{target iter elt:Expr}{ifs:List Expr}{scope:Scope}{pos:Pos}{vs':aq}{sl:List Nat}{kend:Nat->Nat->zA}{use:Option (Value->Sem Unit)}{Q:Value->Shared->Prop}
  (hT:x.T.Nodup) (hD:("__debug__" : Str)∉x.T) (hf:aK x d vs f iter) (ha:xT x d vs' a target) (ht:kW x d vs' t ifs) (he:aK x d vs' e elt) (hn:kb iter=true) (hc:dR x.T vs vs' sl scope.names) (nd:(vs'.map (·.1)).Nodup) (hk:scope.kind=.function)
  (h:yO sl f a t e kend H nx R loc=true) (Hh:ck x d A O L) (En:bN env L) (S:St x J H nx R O L m s) (Lo:bq x J env L m vs loc)
  (hend:∀J' H nx R s' ai ci aa ca,J.le J'->St x J' H nx R O L m s'->J'.as[ai]?=some aa->J'.as[ci]?=some ca->kend ai ci H nx R=true->qR (model x.prog x.w) A E use Q (.ref aa) ca (.ok .next) s') :
  wpAny (model x.prog x.w) A (comprehension (.ListComp elt [⟨target,iter,ifs,0⟩] scope pos) scope env (firstIterPos [⟨target,iter,ifs,0⟩] pos) (newList []) false (eval iter env) use) Q E s:=by
 revert hT hD hf ha ht he hn hc nd hk h Hh En S Lo hend
 revert f a t e target iter elt ifs scope pos vs' sl use
 revert E
 revert Q
 revert s
 revert J
 revert m
 revert L
 revert O
 revert env
 revert A
 revert kend
 revert loc
 revert R
 revert nx
 revert H
 revert vs
 revert d
 revert x
 refine @pJ _ _ _ _ ?_
 generalize (dk _ _).x=x,(dk _ _).d=d,(dk _ _).vs=vs,(dk _ _).H=H,(dk _ _).nx=nx,(dk _ _).R=R,(dk _ _).loc=loc,(dk _ _).k=kend,(dk _ _).A=A,(dk _ _).env=env,(dk _ _).O=O,(dk _ _).L=L,(dk _ _).m=m,(dk _ _).J=J,(dk _ _).s=s,(dk _ _).Q=Q,(dk _ _).E=E
 intro f a t e target iter elt ifs scope pos vs' sl use
 intro hT hD hf ha ht he hn hc nd hk h Hh En S Lo hend
 obtain ⟨cl,cl1,cl2⟩:=zb (scope:=scope) (env:=env) fun y hy hf=>by
  obtain ⟨j,i,kd,a1,a2,a3,a4⟩:=(hc.mem hy)
  obtain ⟨j0,h0⟩:=(a4 hf)
  obtain ⟨t',ht',q0,k1,k,a,k2,k3,k4⟩:=(Lo j0 i .cel h0)
  rw [a2] at ht'; cases ht'
  exact ⟨a,k4⟩
 refine Bv (gs:=[]) rfl (fun y=>fW hn _ y) cl1 hk (fun y hy hl=>?_) (hf H nx R loc _ h A env O L m J s _ E Hh En S Lo fun J1 H1 nx1 R1 s1 g1 v1 le1 S1 i1 h1=>?_)
 ·obtain ⟨j,i,kd,a1,a2,a3,q0⟩:=(hc.mem hy)
  symm
  obtain ⟨t',n,ht',q0,hk',q0⟩:=(hc.at_ hT nd a1)
  symm
  rw [a2] at ht'; cases ht'
  rw [hk',<- a3,hl]
 refine oN g1 H1 nx1 R1 _ h1 A O L m J1 s1 v1 _ E Hh S1 i1 fun J2 H2 nx2 R2 s2 g2 v2 le2 S2 i2 h2=>?_
 symm
 obtain ⟨i,rfl,h2b⟩:=bn h2
 obtain ⟨ad,rfl,hi⟩:=i2
 symm
 refine vq h2b S2 fun J3 H3 nx3 R3 s3 g3 v3 le3 S3 i3 h3=>?_
 symm
 obtain ⟨ai,rfl,h3b⟩:=bn h3
 obtain ⟨aa,rfl,haa⟩:=i3
 symm
 refine wp (fun y hy q=>?_) h3b S3 fun J4 H4 nx4 R4 s4 g4 v4 le4 S4 i4 h4 C hC=>?_
 ·obtain ⟨j,i,kd,q0,q0,z,q0⟩:=(hc.mem hy)
  rw [q] at z; cases kd <;> cases z
 subst hC
 symm
 obtain ⟨ci,rfl,h4b⟩:=bn h4
 obtain ⟨hit,h4⟩:=aJ h4b
 obtain ⟨q0,hq,hca⟩:=i4
 cases hq
 symm
 rw [mS] at h4
 have En':bN (compEnvC scope cl C env) L:=En.inner hk
 have Lo4:=(((Lo.more le1).more le2).more le3).more le4
 have Lo':=bq.inner hT hD hc nd En Lo4 hca cl2
 have aa4:=aE le4.1 haa
 have ad4:=aE (le3.trans le4).1 hi
 have le:=((le1.trans le2).trans le3).trans le4
 have loop:∀s5,St x J4 H4 nx4 R4 O L m s5->codeAny (model x.prog x.w) A (.compLoop (.ListComp elt [⟨target,iter,ifs,0⟩] scope pos) 0 (.ref ad) (.ref aa) (compEnvC scope cl C env)) (qR (model x.prog x.w) A E use Q (.ref aa) C) s5:=fun s5 S5=>by
  refine Au (fun n s=>∃J' H nx R,J4.le J'/\St x J' H nx R O L m s/\Fj a t e i ai (ls sl (.own ci) loc) (kend ai ci) n H nx R=true) (fun n s6 hI N=>?_) 64 ⟨J4,H4,nx4,R4,.refl _,S5,h4⟩
  obtain ⟨J6,H6,nx6,R6,le6,S6,h6⟩:=hI
  cases n with
  | zero=>cases h6
  | succ n=>
   have h6:mq i H6 (fun g H=>a g H nx6 R6 (ls sl (.own ci) loc) fun H nx R q0=>t H nx R (ls sl (.own ci) loc) fun c H nx R=>@Bool.rec (fun q0=>Bool) (Fj a t e i ai (ls sl (.own ci) loc) (kend ai ci) n H nx R) (e H nx R (ls sl (.own ci) loc) fun y H nx R=>fP ai [y] H nx R fun q0 H nx R=>Fj a t e i ai (ls sl (.own ci) loc) (kend ai ci) n H nx R) c) (fun H=>kend ai ci H nx6 R6)=true:=h6
   refine sE h6 Hh.hnd S6 (aE le6.1 ad4) (fun g H' s' v hk' S' iv no=>?_) fun H' s' hk' S'=>?_
   ·refine lC no ?_
    refine ha g H' nx6 R6 _ _ hk' A _ O L m J6 s' v _ _ Hh En' S' (Lo'.more le6) iv fun J7 H7 nx7 R7 s7 le7 S7 h7=>?_
    refine J2 ht h7 Hh En' S7 ((Lo'.more le6).more le7) fun J8 H8 nx8 R8 s8 c le8 S8 h8=>?_
    have l8:=(le6.trans le7).trans le8
    cases c with
    | false=>exact ⟨n,Nat.lt_succ_self n,J8,H8,nx8,R8,l8,S8,h8⟩
    | true=>
     show (if true=true then _ else _)
     rw [if_pos rfl]
     refine he H8 nx8 R8 _ _ h8 A _ O L m J8 s8 _ _ Hh En' S8 (Lo'.more l8) fun J9 H9 nx9 R9 s9 g9 v9 le9 S9 i9 h9=>?_
     exact dz ai [g9] H9 nx9 R9 _ h9 A O L m J9 s9 aa [v9] _ _ Hh S9 (aE (l8.trans le9).1 aa4) (.cons i9 .nil) fun Ja Ha nxa Ra sa ga va lea Sa ia ha'=>⟨n,Nat.lt_succ_self n,Ja,Ha,nxa,Ra,(l8.trans le9).trans lea,Sa,ha'⟩
   ·exact hend J6 H' nx6 R6 s' ai ci aa C (le.trans le6) S' (aE le6.1 aa4) (aE le6.1 hca) hk'
 refine codeAny_compStart_list (loop _ S4) ?_
 symm
 obtain ⟨o,o1,q0,q0,o2⟩:=(S4.led.obj ad4)
 symm
 rcases iZ hit with ⟨j,n,e,_⟩ | ⟨j,n,e,_⟩ | ⟨j,n,e,_⟩
 ·rw [e] at o2
  symm
  obtain ⟨q0,hj,hcl,hd⟩:=o2
  symm
  exact wpAny_pyIter_listiter ⟨o,o1,hcl,hd⟩ (loop _ S4)
 ·rw [e] at o2
  symm
  obtain ⟨q0,hj,hcl,hd⟩:=o2
  symm
  exact wpAny_pyIter_tupleiter ⟨o,o1,hcl,hd⟩ (loop _ S4)
 ·rw [e] at o2
  have ho:_=_:=o2.inv
  subst ho; exact wpAny_pyIter_rangeiter (show IsRangeIter _ _ _ _ _ from o1) (loop _ S4)
end
end
section
section
variable {x:aR} {d:Nat} {vs:aq} {J:az} {H:Tr} {nx:Nat} {R:Rn} {O:Heap} {L:Addr} {m:Str->Option Value} {s:Shared} {A:Around} {E:Value->Shared->Prop} {env:Env} {loc:List GV}
structure dU (x:aR) (d:Nat) (vs vs':aq) (sl:List Nat) (f:EV) (a:AV) (t:TV) (e:EV) (elt target iter:Expr) (ifs:List Expr) (scope:Scope):Prop where
 hT:x.T.Nodup
 hD:("__debug__" : Str)∉x.T
 hf:aK x d vs f iter
 ha:xT x d vs' a target
 ht:kW x d vs' t ifs
 he:aK x d vs' e elt
 hn:kb iter=true
 hc:dR x.T vs vs' sl scope.names
 nd:(vs'.map (·.1)).Nodup
 hk:scope.kind=.function
theorem xt{ci:Nat}{ca:Addr}{es:List (Nat × GV)}{H':Tr}(S:St x J H nx R O L m s)(hc:J.as[ci]?=some ca)(hg:H.get ci=.ns es)(hA:At H H' ci .junk){P:Shared->Prop}(hP:∀s',St x J H' nx R O L m s'->P s'):left ca P s:=by
 obtain ⟨o,o1,q0,q0,o2⟩:=(S.led.obj hc)
 rw [hg] at o2
 obtain ⟨mm,q,hm⟩:=o2
 obtain ⟨ds,ep,e1,e2,e3⟩:=q
 refine ⟨mm,⟨o,ds,ep,o1,e1,e2,e3⟩,fun h' m' hn hsb=>?_⟩
 obtain ⟨o',q0,q0,ho',q0⟩:=hn
 exact hP _ (S.drop hc hsb.extBut ⟨o',ho'⟩ hA s.toks)
def gq(sl:List Nat)(f:EV)(a:AV)(t:TV)(e:EV):EV:=fun H nx R loc k=>yO sl f a t e (fun ai ci H nx R=>tV (H.get ci) fun q0=>H.set 24 ci .junk fun H=>k (.own ai) H nx R) H nx R loc
theorem dS{vs':aq}{sl:List Nat}{f:EV}{a:AV}{t:TV}{e:EV}{elt target iter:Expr}{ifs:List Expr}{scope:Scope}(c:dU x d vs vs' sl f a t e elt target iter ifs scope)(pos:Pos) :
  aK x d vs (gq sl f a t e) (.ListComp elt [⟨target,iter,ifs,0⟩] scope pos):=by
 intro H nx R loc k h A env O L m J s Q E Hh En S Lo hQ
 rw [eval_ListComp]
 refine sd (use:=none) c.hT c.hD c.hf c.ha c.ht c.he c.hn c.hc c.nd c.hk h Hh En S Lo fun J' H' nx' R' s' ai ci aa ca le S' h1 h2 h3=>?_
 obtain ⟨es,hg,h4⟩:=ng h3
 obtain ⟨H'',hA,h5⟩:=Tr.set_ok _ _ _ _ _ h4
 exact xt S' h2 hg hA fun s'' S''=>hQ J' H'' nx' R' s'' (.own ai) (.ref aa) le S'' (.own h1) h5
def Dt(j:Nat)(sl:List Nat)(f:EV)(a:AV)(t:TV)(e:EV)(r:SV):SV:=fun H nx R loc k=>yO sl f a t e (fun ai ci H nx R=>bt j (.own ai) H nx R loc fun H nx R loc=>tV (H.get ci) fun q0=>H.set 24 ci .junk fun H=>r H nx R loc k) H nx R loc
theorem zP{t:Str}{p pos:Pos}{elt:Expr}{gens:List Comprehension}{scope:Scope}{line:Nat}(hk:env.kindOf t=some .local)(hf:env.scope.kind=.function)(hl:(p.line == pos.line)=true)(hs:(scope.names.any fun (n,k)=>n == t&&(k == .local||k == .cell))=false) :
  swapsWith (.ListComp elt gens scope pos) (some (.Name t p)) line env=pure true:=by
 unfold swapsWith
 simp only [hs,hk,show (Expr.ListComp elt gens scope pos).pos=pos from rfl,hl]
 rw [show (env.blockKind == ScopeKind.function)=true by unfold Env.blockKind; rw [hf]; rfl]
 rfl
theorem xe{vs':aq}{sl:List Nat}{f:EV}{a:AV}{t:TV}{e:EV}{elt target iter:Expr}{ifs:List Expr}{scope:Scope}(c:dU x d vs vs' sl f a t e elt target iter ifs scope)(hs:aA x vs){j i:Nat}{n:Str}(hv:vs[j]?=some (i,.loc))(hn:x.T[i]?=some n)
  (ho:(vs'.any fun q=>q.1 == i)=false) {r:SV} {rest:List Stmt} (hr:au x d vs r rest) (p pos pos':Pos) (hl:(p.line == pos.line)=true):au x d vs (Dt j sl f a t e r) (.Assign [.Name n p] (.ListComp elt [⟨target,iter,ifs,0⟩] scope pos) pos'::rest):=by
 intro H nx R loc k h A env O L m J s Q E Hh En S Lo hQ
 refine ec hr Hh En hQ ?_
 obtain ⟨n',hn',q0,q1,q2,q3⟩:=(Lo j i .loc hv)
 rw [hn] at hn'; cases hn'
 have hany:(scope.names.any fun (y,k)=>y == n&&(k == .local||k == .cell))=false:=by
  rw [List.any_eq_false]
  intro y hy q
  obtain ⟨j',i',kd,a1,a2,q0,q0⟩:=(c.hc.mem hy)
  obtain ⟨y1,y2⟩:=y
  have e1:y1=n:=by
   have:=(Bool.and_eq_true_iff.mp q).1
   exact eq_of_beq this
  subst e1
  have:=(cF c.hT a2 hn).mp rfl
  subst this
  rw [List.any_eq_false] at ho
  exact ho _ (List.mem_of_getElem? a1) (by simp)
 rw [exec_Assign_Name_used _ _ _ _ (zP q2 En.kind hl hany)]
 refine wpAny_bind (wpAny_standAt (wpAny_bind ?_))
 have e2:evalThenUse (.ListComp elt [⟨target,iter,ifs,0⟩] scope pos) env (assign (.Name n p) env)=(do
  let _ <- comprehension (.ListComp elt [⟨target,iter,ifs,0⟩] scope pos) scope env (firstIterPos [⟨target,iter,ifs,0⟩] pos) (newList []) (firstAsync [⟨target,iter,ifs,0⟩]) (firstIter [⟨target,iter,ifs,0⟩] env) (some (assign (.Name n p) env))):=rfl
 rw [e2]
 refine wpAny_bind (sd (use:=some (assign (.Name n p) env)) (Q:=fun q0 s'=>wpAny (model x.prog x.w) A (pure PUnit.unit) _ E s') c.hT c.hD c.hf c.ha c.ht c.he c.hn c.hc c.nd c.hk h Hh En S Lo fun J' H' nx' R' s' ai ci aa ca le S' h1 h2 h3=>?_)
 show wpAny _ _ (assign (.Name n p) env (.ref aa)) _ _ _
 refine wpAny_assign_Name (oV hs hv hn h3 S' (Lo.more le) En (.own h1) fun J2 H2 nx2 R2 loc2 m2 s2 le2 S2 Lo2 h4=>?_)
 obtain ⟨es,hg,h5⟩:=ng h4
 obtain ⟨H'',hA,h6⟩:=Tr.set_ok _ _ _ _ _ h5
 exact xt S2 (aE le2.1 h2) hg hA fun s'' S''=>wpAny_pure (wpAny_pure (ed (le.trans le2) S'' Lo2 h6))
theorem u7{f:EV}{r:SV}{e:Expr}{rest:List Stmt}{j i:Nat}{n:Str}(hv:vs[j]?=some (i,.cel))(hn:x.T[i]?=some n)(p:Pos){a:AV}(ha:dQ x d vs a (.Name n p))(hf:aK x d vs f e)(hr:au x d vs r rest)(pos:Pos):au x d vs (aB a f r) (.Assign [.Name n p] e pos::rest):=by
 intro H nx R loc k h A env O L m J s Q E Hh En S Lo hQ
 refine ec hr Hh En hQ ?_
 obtain ⟨n',hn',q0,q1,q0⟩:=(Lo j i .cel hv)
 rw [hn] at hn'; cases hn'
 have sw:swapsWith e (some (.Name n p)) pos.line env=pure false:=by
  have nl:(NameKind.cell == NameKind.local)=false:=rfl
  clear hf
  cases e <;> first | rfl | (unfold swapsWith; simp only [q1,nl,Bool.and_false,Bool.false_and,Option.some_beq_some])
 refine wpAny_Assign_stores (hf H nx R loc _ h A env O L m J s _ E Hh En S Lo fun J1 H1 nx1 R1 s1 g v le1 S1 i1 hk=>?_) sw rfl
 rw [cU rfl env]
 exact ha g H1 nx1 R1 loc _ hk A env O L m J1 s1 v _ E Hh En S1 (Lo.more le1) i1 fun J2 H2 nx2 R2 loc2 m2 s2 le2 S2 Lo2 hk2=>ed (le1.trans le2) S2 Lo2 hk2
end
end
section
section
variable {x:aR} {d:Nat} {vs:aq} {J:az} {H:Tr} {nx:Nat} {R:Rn} {O:Heap} {L:Addr} {m:Str->Option Value} {s:Shared} {A:Around} {E:Value->Shared->Prop} {env:Env} {loc:List GV}
def C2(l:List GV)(H:Tr)(nx:Nat)(R:Rn)(k:KV):Bool:=fN (cH l) fun n=>@Bool.rec (fun q0=>Bool) false (k (.int (.lit (.ofNat n))) H nx R) (Nat.ble n 100000)
def jG:ce:=fun gs H nx R k=>jo gs fun g=>@GV.rec (fun q0=>Bool) false false (fun q0=>false) (fun q0=>false) (fun q0=>false) (fun q0=>false) (fun q0=>false)
 (fun i=>ez (H.get i) (fun l=>C2 l H nx R k) (fun q0=>false) (fun q0=>false) (fun q0=>false)) false g
theorem St.tok(S:St x J H nx R O L m s)(tk:Nat):St x J H nx R O L m { s with toks:=tk }:=⟨S.led,S.nx,S.fr,S.gens,S.rn⟩
theorem fM:cL x d jG (.builtin "len"):=by
 intro gs H nx R k h A O L m J s us Q E Hh S iu hQ
 obtain ⟨g,rfl,h⟩:=fy h
 cases iu with
 | @cons _ v _ _ iv r=>
 cases r
 cases g with
 | own i=>
  obtain ⟨a,rfl,ha⟩:=iv
  have h:ez (H.get i) (fun l=>C2 l H nx R k) (fun q0=>false) (fun q0=>false) (fun q0=>false)=true:=h
  rcases dJ h with ⟨l,hl,h⟩ | ⟨l,hl,h⟩ | ⟨l,hl,h⟩ | ⟨l,hl,h⟩
  ·unfold C2 at h
   rw [bP,cP] at h
   obtain ⟨hz,h⟩:=aJ h
   have hz:=Nat.le_of_ble_eq_true hz
   obtain ⟨us,lu,iu⟩:=(S.lst ha hl)
   have e:(List.toArray us).size=l.length:=by rw [List.size_toArray,iu.length]
   refine call_len_list lu (by rw [e]; lia) ?_
   rw [e]
   exact hQ J H nx R _ _ _ (.refl _) (S.tok _) (.int (e:=.lit (.ofNat l.length)) _ trivial) h
  ·cases h
  ·cases h
  ·cases h
 | _=>exact nope h
def tI:ce:=fun gs H nx R k=>jo gs fun g=>eG g fun z=>@Int.rec (fun q0=>Bool) (fun n=>mk (.rng n) H nx R k) (fun q0=>false) z
theorem mx:cL x d tI (.type "range"):=by
 intro gs H nx R k h A O L m J s us Q E Hh S iu hQ
 symm
 obtain ⟨g,rfl,h⟩:=fy h
 obtain ⟨z,rfl,h⟩:=cR h
 cases iu with
 | @cons _ v _ _ iv r=>
 cases r
 obtain ⟨t,rfl,ok⟩:=iv
 symm
 cases z with
 | ofNat n=>exact call_range_1 (fY h S hQ rfl (fun J' le=>.rng _ _ _ rfl) _)
 | negSucc n=>cases h
def zn:ce:=fun gs H nx R k=>jo gs fun g=>bU g fun i=>kg (H.get i) (mk (.list []) H nx R k) (fun q0=>false) (fun q0=>false) (fun q0=>false)
def jc(x:aR):Prop:=∃o,x.K.lookup sysModules=some o
theorem qI(hM:jc x)(Hh:ck x d A O L){a:Addr}(h:O.get? a=none):(a == sysModules)=false:=by
 rw [beq_eq_false_iff_ne]
 rintro rfl
 obtain ⟨o,ho⟩:=hM
 rw [Hh.X _ _ ho] at h
 cases h
theorem vV(hM:jc x):cL x d zn (.builtin "sorted"):=by
 intro gs H nx R k h A O L m J s us Q E Hh S iu hQ
 symm
 obtain ⟨g,rfl,h⟩:=fy h
 obtain ⟨i,rfl,h⟩:=bn h
 obtain ⟨v,q0,rfl,iv,r⟩:=fA iu
 obtain rfl:=nM r
 obtain ⟨a,rfl,ha⟩:=iv
 symm
 rcases kv h with ⟨e,h⟩ | ⟨l,e,h⟩ | ⟨l,e,h⟩ | ⟨l,e,h⟩
 ·obtain ⟨o,o1,q1,q2,o2⟩:=(S.led.obj ha)
  rw [e] at o2
  symm
  obtain ⟨di,ds⟩:=o2
  have hD:=Heap.dictOf_iff.mpr ⟨o,o1,di⟩
  obtain ⟨ep,hat⟩:=hD.dictAt
  obtain ⟨os,hos,el,N⟩:=S.led.at_
  symm
  have lo:=qI hM Hh q2
  refine kdu_sorted (kdl_dict (knd:=PySem.intKind x.prog x.w) (kvs:=[]) (ep:=ep) lo) Hh.hnd S.fr N hat (Nat.zero_le _) fun D h' tk vs F' N' lt hl hv=>?_
  have:vs=[]:=List.eq_nil_of_length_eq_zero hl
  subst this
  refine ksk_lsort (D:=D) (its:=#[]) (n:=0) (vs:=[]) (ns:=[]) (news':=fun o=>(D,o)::J.as.zip os) F' N' (fun o=>?_) rfl .nil (by decide) fun vs' ns' c h2 F2 N2 hi hlen q0 q0 q0=>?_
  ·exact .head fun p hp q=>Nat.lt_irrefl _ (q▸lt p hp)
  ·have e0:vs'=[]:=by
    have:=hi.length
    cases vs' with
    | nil=>rfl
    | cons _ _=>cases hi; cases hlen
   subst e0
   exact gp h S hQ hos el F2 N2 lt (.list c .nil) tk
 ·cases h
 ·cases h
 ·cases h
end
end
section
section
variable {x:aR} {d:Nat} {vs:aq} {J:az} {H:Tr} {nx:Nat} {R:Rn} {O:Heap} {L:Addr} {m:Str->Option Value} {s:Shared} {A:Around} {E:Value->Shared->Prop} {env:Env} {loc:List GV}
def bI:EQ:=ED 8
theorem jE(hT:x.T.Nodup)(hM:jc x):fT x d .Eq bI:=Nt hT
end
end
section
section
variable {x:aR} {d:Nat} {vs:aq} {J:az} {H:Tr} {nx:Nat} {R:Rn} {O:Heap} {L:Addr} {m:Str->Option Value} {s:Shared} {A:Around} {E:Value->Shared->Prop} {env:Env} {loc:List GV}
theorem oJ(h:Heap){K:Type}[DecidableEq K]{prog:Program}{w:World}(knd:KeyKind prog w K):({ cls:=.type "dict",data:=.dict #[] }:Obj).IsDictOf knd []:=by
 obtain ⟨o,ho,hd⟩:=(Heap.dictOf_iff.mp (Heap.DictOf.new (knd:=knd) h))
 rw [Heap.get?_push_size _ rfl] at ho
 exact (Option.some.inj ho)▸hd
def gW:EV:=fun H nx R loc k=>mk .d0 H nx R k
theorem dH(pos:Pos):aK x d vs gW (.Dict [] [] pos):=by
 intro H nx R loc k h A env O L m J s Q E Hh En S Lo hQ
 exact wpAny_Dict_empty (fY h S hQ rfl (fun J' le=>.d0 (oJ s.heap _) (oJ s.heap _)) s.toks)
def Hs(g:GV)(k:Nat->Bool):Bool:=@GV.rec (fun q0=>Bool) false false (fun q0=>false) (fun q0=>false) (fun i=>k i) (fun q0=>false) (fun q0=>false) (fun q0=>false) false g
theorem Gk{g:GV}{k:Nat->Bool}(h:Hs g k=true):∃i,g=.str i/\k i=true:=by cases g <;> first | (cases h; done) | exact ⟨_,rfl,h⟩
noncomputable def FR(ks:List (Option Expr)):Bool:=ks.all (·.isSome)
def pg(l:List (Nat × GV))(b:Bool):Bool:=@List.rec (Nat × GV) (fun q0=>Bool) b (fun q0 q0 q0=>false) l
theorem AJ{l:List (Nat × GV)}{b:Bool}(h:pg l b=true):l=[]/\b=true:=by cases l <;> first | exact ⟨rfl,h⟩ | cases h
def sY(i:Nat)(l:List (Nat × GV)):Bool:=@List.rec (Nat × GV) (fun q0=>Bool) true (fun p q0 ih=>@Bool.rec (fun q0=>Bool) ih false (Nat.beq p.1 i)) l
def tT(l:List (Nat × GV)):Bool:=@List.rec (Nat × GV) (fun q0=>Bool) true (fun p r ih=>@Bool.rec (fun q0=>Bool) false ih (sY p.1 r)) l
theorem wT(hT:x.T.Nodup):∀{es:List (Nat × GV)} {ds:List (Str × Value)},tT es=true->fU x.T J es ds->(ds.map (·.1)).Nodup
 | [],_,_,h=>by cases h; exact List.nodup_nil
 | p::es,_,h,hd=>by
  cases hd with
  | @cons i y g v _ ds hy hv r=>
   obtain ⟨h1,h2⟩:=(aJ (show @Bool.rec (fun q0=>Bool) false (tT es) (sY i es)=true from h))
   rw [List.map_cons]
   refine List.nodup_cons.mpr ⟨fun q=>?_,wT hT h2 r⟩
   have go:∀{es:List (Nat × GV)} {ds:List (Str × Value)},sY i es=true->fU x.T J es ds->y∉ds.map (·.1):=by
    intro es ds h hd
    induction hd with
    | nil=>intro q; simp at q
    | @cons j z g v es ds hz hv r ih=>
     have h:@Bool.rec (fun q0=>Bool) (sY i es) false (Nat.beq j i)=true:=h
     cases c:Nat.beq j i with
     | true=>rw [c] at h; cases h
     | false=>
      rw [c] at h
      intro q
      rw [List.map_cons] at q
      rcases List.mem_cons.mp q with q | q
      ·exact Nat.ne_of_beq_eq_false c ((cF hT hz hy).mp q.symm)
      ·exact ih h q
   exact go h1 r q
abbrev we:=Tr->Nat->Rn->List GV->(List (Nat × GV)->Tr->Nat->Rn->Bool)->Bool
def px(x:aR)(d:Nat)(vs:aq)(f:we)(keys:List (Option Expr))(values:List Expr):Prop:=
 ∀H nx R loc k,f H nx R loc k=true->∀(A:Around) (env:Env) (O:Heap) (L:Addr) (m:Str->Option Value) (J:az) (s:Shared) (pos:Pos) (Q:List (Value × Value)->Shared->Prop) (E:Value->Shared->Prop),
  ck x d A O L->bN env L->St x J H nx R O L m s->bq x J env L m vs loc->
  (∀J' H nx R s es us,J.le J'->St x J' H nx R O L m s->allStrKeys us=true->fU x.T J' es (strPairs us)->k es H nx R=true->Q us s)->wpAny (model x.prog x.w) A (evalPairs (pairTrees keys values env pos)) Q E s
noncomputable def ku:we:=fun H nx R loc k=>k [] H nx R
def cu(a b:EV)(r:we):we:=fun H nx R loc k=>a H nx R loc fun g H nx R=>Hs g fun i=>b H nx R loc fun gv H nx R=>r H nx R loc fun es H nx R=>k ((i,gv)::es) H nx R
theorem gK:px x d vs ku [] []:=by
 intro H nx R loc k h A env O L m J s pos Q E Hh En S Lo hQ
 exact evalPairs_nil (hQ J H nx R s [] [] (.refl _) S rfl .nil h)
theorem bF{a b:EV}{r:we}{ka va:Expr}{ks:List (Option Expr)}{vas:List Expr}(ha:aK x d vs a ka)(hb:aK x d vs b va)(hr:px x d vs r ks vas):px x d vs (cu a b r) (some ka::ks) (va::vas):=by
 intro H nx R loc k h A env O L m J s pos Q E Hh En S Lo hQ
 refine evalPairs_cons (ha H nx R loc _ h A env O L m J s _ E Hh En S Lo fun J1 H1 nx1 R1 s1 g1 v1 le1 S1 i1 h1=>?_)
 obtain ⟨i,rfl,h2⟩:=Gk h1
 refine wpAny_bind (hb H1 nx1 R1 loc _ h2 A env O L m J1 s1 _ E Hh En S1 (Lo.more le1) fun J2 H2 nx2 R2 s2 g2 v2 le2 S2 i2 h3=>?_)
 refine wpAny_bind (wpAny_standAt (wpAny_pure ?_))
 refine hr H2 nx2 R2 loc _ h3 A env O L m J2 s2 pos _ E Hh En S2 ((Lo.more le1).more le2) fun J3 H3 nx3 R3 s3 es us le3 S3 q1 q2 h4=>?_
 symm
 obtain ⟨q0,t,rfl,ht⟩:=i1
 symm
 exact hQ J3 H3 nx3 R3 s3 _ _ ((le1.trans le2).trans le3) S3 q1 (.cons ht (i2.more le3) q2) h4
def sv(f:we):EV:=fun H nx R loc k=>mk (.ds []) H nx R fun o H nx R=>bU o fun D=>f H nx R loc fun es H nx R=>@Bool.rec (fun q0=>Bool) false (kg (H.get D) false (fun q0=>false) (fun l=>pg l (H.set 24 D (.ds es) fun H=>k (.own D) H nx R)) fun q0=>false) (tT es)
theorem jP(hT:x.T.Nodup){f:we}{keys:List (Option Expr)}{values:List Expr}(hf:px x d vs f keys values)(hall:FR keys=true)(hl:keys.length=values.length)(h0:keys≠[])(hlen:keys.length<=15)(pos:Pos):aK x d vs (sv f) (.Dict keys values pos):=by
 intro H nx R loc k h A env O L m J s Q E Hh En S Lo hQ
 refine Dict_made (knd:=PySem.strKind x.prog x.w) S.fr hall hl h0 hlen fun F'=>?_
 have go:∀C s1,(∃(J1:az) (H1:Tr) (nx1:Nat) (R1:Rn) (D:Nat),J.le J1/\St x J1 H1 nx1 R1 O L m s1/\J1.as[D]?=some C/\f H1 nx1 R1 loc (fun es H nx R=>@Bool.rec (fun q0=>Bool) false (kg (H.get D) false (fun q0=>false) (fun l=>pg l (H.set 24 D (.ds es) fun H=>k (.own D) H nx R)) fun q0=>false) (tT es))=true)->
   wpAny (model x.prog x.w) A (evalPairs (pairTrees keys values env pos)) (fun vs s₁=>∃kvs,Carries (PySem.strKind x.prog x.w) vs kvs/\s₁.heap.DictOf (PySem.strKind x.prog x.w) C []/\
    ∀h',h'.DictOf (PySem.strKind x.prog x.w) C (merged [] kvs)->Heap.SameBut C s₁.heap h'->Q (.ref C) { s₁ with heap:=h',toks:=s₁.toks+vs.length }) E s1:=by
  rintro C s1 ⟨J1,H1,nx1,R1,D,le1,S1,hD,h1⟩
  refine hf H1 nx1 R1 loc _ h1 A env O L m J1 s1 pos _ E Hh En S1 (Lo.more le1) fun J2 H2 nx2 R2 s2 es us le2 S2 q1 q2 h2=>?_
  obtain ⟨nd,h3⟩:=aJ h2
  have hD2:=aE le2.1 hD
  obtain ⟨o,o1,q0,q0,o2⟩:=(S2.led.obj hD2)
  rcases kv h3 with ⟨e,h4⟩ | ⟨l,e,h4⟩ | ⟨l,e,h4⟩ | ⟨l,e,h4⟩
  ·cases h4
  ·cases h4
  ·obtain ⟨rfl,h5⟩:=(AJ h4)
   rw [e] at o2
   obtain ⟨q0,hd,hs⟩:=o2
   cases hs
   obtain ⟨H',hA,h6⟩:=Tr.set_ok _ _ _ _ _ h5
   refine display_done_str q1 (wT hT nd q2) (Heap.dictOf_iff.mpr ⟨o,o1,hd⟩) fun h' hmm hs=>?_
   obtain ⟨o',ho',hd'⟩:=(Heap.dictOf_iff.mp hmm)
   exact hQ J2 H' nx2 R2 _ _ _ (le1.trans le2) (S2.upd hD2 hs ho' (.ds hd' q2) hA _) (.own hD2) h6
  ·cases h4
 exact go _ _ (fY (Q:=fun v s1=>∀C,v=.ref C->∃(J1:az) (H1:Tr) (nx1:Nat) (R1:Rn) (D:Nat),J.le J1/\St x J1 H1 nx1 R1 O L m s1/\J1.as[D]?=some C/\f H1 nx1 R1 loc (fun es H nx R=>@Bool.rec (fun q0=>Bool) false (kg (H.get D) false (fun q0=>false) (fun l=>pg l (H.set 24 D (.ds es) fun H=>k (.own D) H nx R)) fun q0=>false) (tT es))=true) h S
  (fun J1 H1 nx1 R1 s1 g v le1 S1 i1 h1 C hC=>by
   subst hC
   symm
   obtain ⟨D,rfl,h2⟩:=bn h1
   obtain ⟨q0,hq,hD⟩:=i1
   cases hq
   symm
   exact ⟨J1,H1,nx1,R1,D,le1,S1,hD,h2⟩) rfl (fun J' le=>.ds (oJ s.heap _) .nil) s.toks _ rfl)
end
end
section
section
variable {x:aR} {d:Nat} {vs:aq} {J:az} {H:Tr} {nx:Nat} {R:Rn} {O:Heap} {L:Addr} {m:Str->Option Value} {s:Shared} {A:Around} {E:Value->Shared->Prop} {env:Env} {loc:List GV}
noncomputable def jm(ns:List Nat):List GI:=ns.map fun n=>.lit (.ofNat n)
theorem lb(ns:List Nat)(hn:(ns.all fun n=>Nat.ble n 255)=true)(kd:Nat)(pos:Pos):aK x d vs (bj (.byt (jm ns))) (.Constant (.bytes (ns.map UInt8.ofNat)) kd pos):=by
 intro H nx R loc k h A env O L m J s Q E Hh En S Lo hQ
 refine PySem.W.Constant_bytes ?_
 have e:iy ((jm ns).map (GI.ev J.ns))=(ns.map UInt8.ofNat).toArray:=by
  unfold iy jm
  rw [List.map_map,List.map_map]
  rfl
 rw [<- e]
 refine hQ J H nx R _ _ _ (.refl _) (S.tok _) (.byt _ fun g hg=>?_) h
 obtain ⟨n,hn',rfl⟩:=(List.mem_map.mp hg)
 have:=Nat.le_of_ble_eq_true (List.all_eq_true.mp hn n hn')
 refine ⟨trivial,?_,?_⟩
 ·show (0:Int)<=(n:Int); lia
 ·show (n:Int)<256; lia
structure OldTup (x:aR) (l:List GV) (ad:Addr):Prop where
 is:∃(us:List Value) (n:Nat),x.K.lookup ad=some ⟨.type "tuple",none,.seq us.toArray n,#[]⟩/\us.length=l.length/\∀(j:Nat) (v:Value),us[j]?=some v->d7 x.T (aZ l j) v
structure EU (x:aR) (C a:Nat):Prop where
 is:∃cx t fI,x.CT[C]?=some cx/\x.T[a]?=some t/\plainGet x.K cx t=true/\hasDictIn x.K cx=true/\findIn x.K (.ref cx) t=some (some (.ref fI))/\isFn x.K (.ref fI)=true/\
  specialIn x.K (.ref fI) "__get__" = some (some (.builtin "function.__get__"))/\takesIn x.K (.ref fI)=some false/\copiedNames.contains t=false
def Na(C0 a:Nat)(f:EV):EV:=fun H nx R loc k=>f H nx R loc fun g H nx R=>bU g fun i=>hV (H.get i) fun C dd=>eM (H.get dd) fun es=>zV es a (@Bool.rec (fun q0=>Bool) false (mk .junk H nx R k) (Nat.beq C C0))
theorem GL(hT:x.T.Nodup){C0 a:Nat}{t:Str}(hb:EU x C0 a)(ht:x.T[a]?=some t){f:EV}{e:Expr}(hf:aK x d vs f e)(hc:wE e=true)(pos:Pos):aK x d vs (Na C0 a f) (.Attribute e t pos):=by
 intro H nx R loc k h A env O L m J s Q E Hh En S Lo hQ
 refine Attribute_any_ (hf H nx R loc _ h A env O L m J s _ E Hh En S Lo fun J1 H1 nx1 R1 s1 g v1 le1 S1 i1 h1=>?_) (by clear hf; cases e <;> first | rfl | cases hc)
 symm
 obtain ⟨i,rfl,h2⟩:=bn h1
 obtain ⟨C,dd,hi,h3⟩:=fg h2
 obtain ⟨es',hd,h4⟩:=dL h3
 obtain ⟨nn,h4b⟩:=(vP h4)
 obtain ⟨hC,h5⟩:=aJ h4b
 have hC:=Nat.eq_of_beq_eq_true hC
 subst hC
 obtain ⟨cx,t',fI,c1,c2,c4,c5,c6,c7,c8,c9,EY⟩:=hb.is
 symm
 rw [ht] at c2; cases c2
 symm
 obtain ⟨q0,rfl,ha⟩:=i1
 obtain ⟨cx',dx,ds,n,e1,e2,e3,e4⟩:=(S1.led.inst (l:=0) hi hd ha)
 symm
 rw [c1] at e1; cases e1
 symm
 obtain ⟨os,hos,el,N⟩:=S1.led.at_
 symm
 exact kbm_bound S1.fr Hh.X N e4 c4 c5 c6 c7 c8 c9 EY (e3.none hT ht nn) fun q h' F' N' lt=>gp h5 S1 (hQ.le le1) hos el F' N' lt (.junk _) _
end
end
section
noncomputable def Mo:Int:=2147483647
structure gF (x:aR) (d:Nat) (vs:aq) (A:Around) (env:Env) (O:Heap) (L:Addr) (m:Str->Option Value) (J:az) (H:Tr) (nx:Nat) (R:Rn) (loc:List GV) (i:Nat) (c:Int) (a b:Int) (s:Shared):Prop where
 Hh:ck x d A O L
 En:bN env L
 S:St x J H nx R O L m s
 Lo:bq x J env L m vs loc
 jk:H.get i=.junk
 l0:aZ loc 0=.own i
 l1:aZ loc 1=.int (.lit c)
 obj:∃sa n t u,J.as[i]?=some sa/\s.heap.get? sa=some (listOf #[.int a t,.int b u] n)
def gn(x:aR)(d:Nat)(vs:aq)(val:Int->Int->Int->Int)(e:Expr):Prop:=∀(A:Around) (env:Env) (O:Heap) (L:Addr) (m:Str->Option Value) (J:az) (H:Tr) (nx:Nat) (R:Rn) (loc:List GV) (i:Nat) (c a b:Int) (s:Shared) (Q E:Value->Shared->Prop),
 gF x d vs A env O L m J H nx R loc i c a b s->0<c->c<1000->0<=b->b<Mo->(∀t tk,Q (.int (val a b c) t) { s with toks:=tk })->wpAny (model x.prog x.w) A (eval e env) Q E s
section
variable {x:aR} {d:Nat} {vs:aq} {J:az} {H:Tr} {nx:Nat} {R:Rn} {O:Heap} {L:Addr} {m:Str->Option Value} {s:Shared} {A:Around} {E:Value->Shared->Prop} {env:Env} {loc:List GV}
theorem gF.tok{i:Nat}{c a b:Int}(P:gF x d vs A env O L m J H nx R loc i c a b s)(tk:Nat):gF x d vs A env O L m J H nx R loc i c a b { s with toks:=tk }:=⟨P.Hh,P.En,P.S.tok tk,P.Lo,P.jk,P.l0,P.l1,P.obj⟩
theorem mE{i a0:Nat}{t0:Str}{c a b:Int}(hv:vs[0]?=some (a0,.loc))(ht:x.T[a0]?=some t0)(P:gF x d vs A env O L m J H nx R loc i c a b s){Q:Value->Shared->Prop}(hQ:∀sa n t u,J.as[i]?=some sa->s.heap.get? sa=some (listOf #[.int a t,.int b u] n)->Q (.ref sa) s)(p:Pos) :
  wpAny (model x.prog x.w) A (eval (.Name t0 p) env) Q E s:=by
 symm
 obtain ⟨t',ht',hd,h1,h2,h3⟩:=(P.Lo 0 a0 .loc hv)
 symm
 rw [ht] at ht'; cases ht'
 symm
 obtain ⟨v,hm,iv⟩:=(h3 (by rw [P.l0]; intro q; cases q))
 rw [P.l0] at iv
 obtain ⟨sa,rfl,ha⟩:=iv
 obtain ⟨sa',n,t,u,q1,q2⟩:=P.obj
 symm
 rw [ha] at q1; cases q1
 exact wpAny_Name (wpAny_loadName_local P.En.kind h2 (h1▸P.S.fr.ns) hm (hQ sa n t u ha q2)) hd
theorem Ck{a1:Nat}{t1:Str}(hv:vs[1]?=some (a1,.loc))(ht:x.T[a1]?=some t1)(p:Pos):gn x d vs (fun q0 q0 c=>c) (.Name t1 p):=by
 intro A env O L m J H nx R loc i c a b s Q E P hc hc2 hb hb2 hQ
 obtain ⟨t',ht',hd,h1,h2,h3⟩:=(P.Lo 1 a1 .loc hv)
 rw [ht] at ht'; cases ht'
 obtain ⟨v,hm,iv⟩:=(h3 (by rw [P.l1]; intro q; cases q))
 rw [P.l1] at iv
 obtain ⟨t,rfl,ok⟩:=iv
 exact wpAny_Name (wpAny_loadName_local P.En.kind h2 (h1▸P.S.fr.ns) hm (hQ t s.toks)) hd
theorem iK(n:Int)(kd:Nat)(p:Pos):gn x d vs (fun q0 q0 q0=>n) (.Constant (.int n) kd p):=fun A env O L m J H nx R loc i c a b s Q E P hc hc2 hb hb2 hQ=>wpAny_Constant_int (hQ _ _)
theorem vt{a0:Nat}{t0:Str}(hv:vs[0]?=some (a0,.loc))(ht:x.T[a0]?=some t0)(p q r:Pos)(kd:Nat):gn x d vs (fun a q0 q0=>a) (.Subscript (.Name t0 p) (.Constant (.int 0) kd q) r):=by
 intro A env O L m J H nx R loc i c a b s Q E P hc hc2 hb hb2 hQ
 refine Subscript_ (mE hv ht P (fun sa n t u h1 h2=>wpAny_Constant_int ?_) p)
 have hl:s.heap.IsList sa #[.int a t,.int b u]:=⟨_,h2,rfl,n,rfl⟩
 refine tail_any (s:={ s with toks:=s.toks+1 }) (Heap.IsList.typeIs (s:={ s with toks:=s.toks+1 }) hl) slot_list_getitem.lookup ?_ (by with_unfolding_all rfl)
 exact wpAny_getItem_list (s:={ s with toks:=s.toks+1 }) hl (by decide) (by decide) rfl (hQ t _)
theorem ve{a0:Nat}{t0:Str}(hv:vs[0]?=some (a0,.loc))(ht:x.T[a0]?=some t0)(p q r:Pos)(kd:Nat):gn x d vs (fun q0 b q0=>b) (.Subscript (.Name t0 p) (.Constant (.int 1) kd q) r):=by
 intro A env O L m J H nx R loc i c a b s Q E P hc hc2 hb hb2 hQ
 refine Subscript_ (mE hv ht P (fun sa n t u h1 h2=>wpAny_Constant_int ?_) p)
 have hl:s.heap.IsList sa #[.int a t,.int b u]:=⟨_,h2,rfl,n,rfl⟩
 refine tail_any (s:={ s with toks:=s.toks+1 }) (Heap.IsList.typeIs (s:={ s with toks:=s.toks+1 }) hl) slot_list_getitem.lookup ?_ (by with_unfolding_all rfl)
 exact wpAny_getItem_list (s:={ s with toks:=s.toks+1 }) hl (by decide) (by decide) rfl (hQ u _)
def ux(x:aR)(op:Operator)(o:Int->Int->Int)(P:Int->Int->Prop):Prop:=∀(A:Around) (s:Shared) (a b:Int) (t u:Tok) (Q E:Value->Shared->Prop),P a b->(∀t tk,Q (.int (o a b) t) { s with toks:=tk })->wpAny (model x.prog x.w) A (binaryOp op (.int a t) (.int b u)) Q E s
theorem WK:ux x .Add (·+ ·) fun q0 q0=>True:=fun A s a b t u Q E q0 hQ=>AutoIntOps.add_0 (show Q (.int (a+b) s.toks) { s with toks:=s.toks+1 } from hQ _ _)
theorem Mt:ux x .Mult (·* ·) fun a q0=>0<=a/\a<Mo:=fun A s a b t u Q E h hQ=>AutoIntOps.mul_0 (show Q (.int (a * b) s.toks) { s with toks:=s.toks+1 } from hQ _ _) (IntMulOk.of_left (intBits_le_64 (by lia) (by have:=h.2; unfold Mo at this; lia)))
theorem yU:ux x .Mod Int.fmod fun q0 b=>0<b:=fun A s a b t u Q E h hQ=>AutoIntOps.mod_1 (by simp only [beq_iff_eq]; lia) (show Q (.int (Int.fmod a b) s.toks) { s with toks:=s.toks+1 } from hQ _ _)
theorem Jz:ux x .FloorDiv Int.fdiv fun q0 b=>0<b/\b<1000:=fun A s a b t u Q E h hQ=>AutoIntOps.floordiv_1 (by simp only [beq_iff_eq]; lia) (by
  have:b.natAbs.log2<10:=by
   have h2:b.natAbs<2 ^ 10:=by lia
   have h0:b.natAbs≠0:=by lia
   exact (Nat.log2_lt h0).mpr h2
  unfold Builtin.divisionGoesByPylong
  simp only [Bool.and_eq_true,decide_eq_true_eq,not_and]
  intro q
  exfalso
  split at q
  ·lia
  ·lia) (show Q (.int (Int.fdiv a b) s.toks) { s with toks:=s.toks+1 } from hQ _ _)
theorem lS{op:Operator}{o:Int->Int->Int}{Pc:Int->Int->Prop}(ho:ux x op o Pc){v w:Int->Int->Int->Int}{e f:Expr}(he:gn x d vs v e)(hf:gn x d vs w f)(hp:∀a b c,0<c->c<1000->0<=b->b<Mo->Pc (v a b c) (w a b c))(p:Pos) :
  gn x d vs (fun a b c=>o (v a b c) (w a b c)) (.BinOp e op f p):=by
 intro A env O L m J H nx R loc i c a b s Q E P hc hc2 hb hb2 hQ
 refine wpAny_BinOp (he A env O L m J H nx R loc i c a b s _ E P hc hc2 hb hb2 fun t tk=>?_)
 refine hf A env O L m J H nx R loc i c a b _ _ E (P.tok tk) hc hc2 hb hb2 fun u tk2=>?_
 exact ho A _ _ _ t u Q E (hp a b c hc hc2 hb hb2) fun t' tk3=>hQ t' tk3
theorem uH(j:Int){a0:Nat}{t0:Str}(hv:vs[0]?=some (a0,.loc))(ht:x.T[a0]?=some t0){i:Nat}{c a b r:Int}{tr:Tok}(P:gF x d vs A env O L m J H nx R loc i c a b s)(hj:j=0∨j=1){Q:Unit->Shared->Prop}
  (hQ:∀s',gF x d vs A env O L m J H nx R loc i c (if j=0 then r else a) (if j=0 then b else r) s'->Q () s') (p q w:Pos) (kd:Nat) :
  wpAny (model x.prog x.w) A (assign (.Subscript (.Name t0 p) (.Constant (.int j) kd q) w) env (.int r tr)) Q E s:=by
 refine kas_sub (mE hv ht P (fun sa n t u h1 h2=>wpAny_Constant_int ?_) p)
 refine ki_setAt (s:={ s with toks:=s.toks+1 }) h2 (by lia) (by lia) (by show j<2; lia) ?_
 have up:=PySem.IsL.update h2 (·.setIfInBounds j.toNat (.int r tr))
 have hA:At H H i .junk:=fun k=>by
  by_cases e:k=i
  ·rw [if_pos e,e]; exact P.jk
  ·rw [if_neg e]
 refine hQ _ ⟨P.Hh,P.En,P.S.upd h1 (Heap.SameBut.update ..) up (.junk _) hA _,P.Lo,P.jk,P.l0,P.l1,?_⟩
 rcases hj with rfl | rfl
 ·exact ⟨sa,_,tr,u,h1,up⟩
 ·exact ⟨sa,_,t,tr,h1,up⟩
end
end
section
def E5(b:fb):Nat:=@List.rec (Int × Int) (fun q0=>Nat) 0 (fun q0 q0 n=>Nat.succ n) b
theorem uq:∀b:fb,E5 b=b.length
 | []=>rfl
 | _::b=>congrArg Nat.succ (uq b)
def IJ(b:fb)(p:Int × Int):fb:=@List.rec (Int × Int) (fun q0=>fb) [p] (fun q q0 ih=>q::ih) b
theorem xy(p:Int × Int):∀b:fb,IJ b p=b++[p]
 | []=>rfl
 | q::b=>congrArg (q::·) (xy p b)
def yW(n:Nat)(l:List (Nat × Nat × Bool)):Bool:=@List.rec (Nat × Nat × Bool) (fun q0=>Bool) true (fun p q0 ih=>@Bool.rec (fun q0=>Bool) false ih (Nat.ble (Nat.succ p.1) n&&Nat.ble (Nat.succ p.2.1) n)) l
theorem uw{n:Nat}:∀{l:List (Nat × Nat × Bool)},yW n l=true->∀p∈l,p.1<n/\p.2.1<n
 | [],_,p,h=>by cases h
 | q::l,e,p,h=>by
  obtain ⟨e1,e2⟩:=(aJ (show @Bool.rec (fun q0=>Bool) false (yW n l) (Nat.ble (Nat.succ q.1) n&&Nat.ble (Nat.succ q.2.1) n)=true from e))
  obtain ⟨e3,e4⟩:=Bool.and_eq_true_iff.mp e1
  rcases List.mem_cons.mp h with rfl | h
  ·exact ⟨Nat.le_of_ble_eq_true e3,Nat.le_of_ble_eq_true e4⟩
  ·exact uw e2 p h
def yK(n:Nat)(k:Nat->Bool):Bool:=@Nat.rec (fun q0=>Bool) true (fun d ih=>@Bool.rec (fun q0=>Bool) false ih (k d)) n
theorem t8{k:Nat->Bool}:∀{n:Nat},yK n k=true->∀d,d<n->k d=true
 | 0,_,d,h=>by lia
 | n+1,e,d,h=>by
  obtain ⟨e1,e2⟩:=(aJ (show @Bool.rec (fun q0=>Bool) false (yK n k) (k n)=true from e))
  by_cases q:d=n
  ·subst q; exact e1
  ·exact t8 e2 d (by lia)
def vS(top:Nat)(R:Rn)(k:GI->Rn->Bool):Bool:=fN (E5 R.bnd) fun n=>@Bool.rec (fun q0=>Bool) false (k (.var n) (.mk (IJ R.bnd (0,.ofNat (Nat.pred top))) R.eqs)) (yW n R.eqs)
def vD(top:Nat)(R:Rn)(k:GI->Rn->Bool):Bool:=@Bool.rec (fun q0=>Bool) (vS top R k) (yK top fun d=>k (.lit (.ofNat d)) R) (Nat.ble top 9)
theorem xk{top:Nat}{R:Rn}{k:GI->Rn->Bool}(h:vS top R k=true){ns:List Int}(rn:dq R ns){D:Nat}(hD:D<top):∃e R' ns',k e R'=true/\ns <+: ns'/\dq R' ns'/\e.ok ns'.length/\e.ev ns'=(D:Int):=by
 unfold vS at h
 rw [bP,uq,xy] at h
 obtain ⟨h1,h2⟩:=aJ h
 have hl:=rn.len
 refine ⟨_,_,ns++[(D:Int)],h2,⟨_,rfl⟩,⟨fun k b hk=>?_,?_,fun i j b hm=>?_⟩,?_,?_⟩
 ·have hk:(R.bnd++[((0:Int),Int.ofNat (Nat.pred top))])[k]?=some b:=hk
  rcases Nat.lt_or_ge k R.bnd.length with lt | ge
  ·rw [List.getElem?_append_left lt] at hk
   obtain ⟨i,e1,e2⟩:=(rn.bnd k b hk)
   exact ⟨i,by rw [List.getElem?_append_left (by lia)]; exact e1,e2⟩
  ·rw [List.getElem?_append_right ge] at hk
   have e:k - R.bnd.length=0:=by
    have:=aN hk
    simp at this; lia
   rw [e] at hk
   simp at hk
   subst hk
   refine ⟨D,?_,?_,?_⟩
   ·rw [List.getElem?_append_right (by lia),show k - ns.length=0 by lia]; rfl
   ·show (0:Int)<=D; lia
   ·show (D:Int)<=Int.ofNat (Nat.pred top)
    have:D<=Nat.pred top:=Nat.le_pred_of_lt hD
    simp only [Int.ofNat_eq_natCast]; lia
 ·show (ns++[(D:Int)]).length=(R.bnd++[((0:Int),Int.ofNat (Nat.pred top))]).length
  simp [hl]
 ·have hm:(i,j,b)∈R.eqs:=hm
  obtain ⟨a1,a2⟩:=(uw h1 _ hm)
  have:=rn.eqs i j b hm
  unfold mj at this ⊢
  rw [List.getElem?_append_left (by show i<_; rw [hl]; exact a1),List.getElem?_append_left (by show j<_; rw [hl]; exact a2)]
  exact this
 ·show R.bnd.length<(ns++[(D:Int)]).length
  simp [hl]
 ·show ((ns++[(D:Int)])[R.bnd.length]?).getD 0=(D:Int)
  rw [List.getElem?_append_right (by lia),show R.bnd.length - ns.length=0 by lia]
  rfl
theorem wM{top:Nat}{R:Rn}{k:GI->Rn->Bool}(h:vD top R k=true){ns:List Int}(rn:dq R ns){D:Nat}(hD:D<top):∃e R' ns',k e R'=true/\ns <+: ns'/\dq R' ns'/\e.ok ns'.length/\e.ev ns'=(D:Int):=by
 unfold vD at h
 cases q:Nat.ble top 9 with
 | true=>rw [q] at h; exact ⟨_,R,ns,t8 h D hD,List.prefix_rfl,rn,trivial,rfl⟩
 | false=>rw [q] at h; exact xk h rn hD
def uD(o:GO)(k:List (Nat × Nat)->Bool):Bool:=@GO.rec (fun q0=>Bool) false (fun q0=>false) (fun q0=>false) (fun q0 q0=>false) (fun q0=>false) false (fun q0=>false) (fun q0=>false) (fun q0=>false) (fun q0=>false) (fun q0 q0=>false) (fun q0 q0=>false) (fun q0 q0=>false) (fun f=>k f) (fun q0=>false) (fun q0=>false) false (fun q0=>false) (fun q0 q0=>false) (fun q0 q0=>false) (fun q0 q0=>false) (fun q0 q0=>false) (fun q0 q0=>false) o
theorem rV{o:GO}{k:List (Nat × Nat)->Bool}(h:uD o k=true):∃f,o=.pool f/\k f=true:=by cases o <;> first | (cases h; done) | exact ⟨_,rfl,h⟩
def EO(i:Nat)(z:Int)(H:Tr)(R:Rn)(k:GI->Tr->Rn->Bool):Bool:=@Int.rec (fun q0=>Bool) (fun top=>@Bool.rec (fun q0=>Bool) false
 (uD (H.get i) fun f=>@List.rec (Nat × Nat) (fun q0=>Bool) (vD top R fun e R=>k e H R) (fun p r q0=>@Bool.rec (fun q0=>Bool) false (H.set 24 i (.pool r) fun H=>@Bool.rec (fun q0=>Bool) (@Bool.rec (fun q0=>Bool) (k (.lit (.ofNat p.2)) H R) (vS top R fun e R=>k e H R) (Nat.beq p.2 (Nat.succ top))) (vD top R fun e R=>k e H R) (Nat.beq p.2 top)) (Nat.beq p.1 top)) f)
 (Nat.ble 1 top&&Nat.ble top 500)) (fun q0=>false) z
theorem At.refl{H:Tr}{i:Nat}{g:GO}(h:H.get i=g):At H H i g:=fun k=>by
 by_cases e:k=i
 ·rw [if_pos e,e]; exact h
 ·rw [if_neg e]
theorem FN{a b:Int}{top:Nat}(h:0<top):(eS a b top).1<top:=by
 have p:(0:Int)<top:=by lia
 unfold eS
 split
 ·have h1:=Int.fmod_nonneg_of_pos a p
  have h2:=Int.fmod_lt_of_pos a p
  show (Int.fmod a top).toNat<top
  lia
 ·have h1:=Int.fmod_nonneg_of_pos (Int.fdiv (Int.fmod (Int.fmod (b * 39373+7) 2147483647 * Int.fmod (b * 39373+7) 2147483647) 2147483629) 32) p
  have h2:=Int.fmod_lt_of_pos (Int.fdiv (Int.fmod (Int.fmod (b * 39373+7) 2147483647 * Int.fmod (b * 39373+7) 2147483647) 2147483629) 32) p
  show (Int.fmod (Int.fdiv (Int.fmod (Int.fmod (b * 39373+7) 2147483647 * Int.fmod (b * 39373+7) 2147483647) 2147483629) 32) top).toNat<top
  lia
theorem Cf{i:Nat}{top:Nat}{H:Tr}{R:Rn}{k:GI->Tr->Rn->Bool}(h:EO i (.ofNat top) H R k=true){ns:List Int}(rn:dq R ns):0<top/\top<=500/\∃f,H.get i=.pool f/\∀a b,rA f a b->
  ∃e H' R' ns' f',k e H' R'=true/\At H H' i (.pool f')/\rA f' (eS a b top).2.1 (eS a b top).2.2/\ns <+: ns'/\dq R' ns'/\e.ok ns'.length/\e.ev ns'=((eS a b top).1:Int):=by
 obtain ⟨h1,h2⟩:=(aJ (show @Bool.rec (fun q0=>Bool) false _ (Nat.ble 1 top&&Nat.ble top 500)=true from h))
 obtain ⟨h3,h4⟩:=Bool.and_eq_true_iff.mp h1
 have h3:=Nat.le_of_ble_eq_true h3
 have h4:=Nat.le_of_ble_eq_true h4
 obtain ⟨f,hf,h5⟩:=rV h2
 refine ⟨h3,h4,f,hf,fun a b hF=>?_⟩
 have lt:=FN (a:=a) (b:=b) h3
 cases f with
 | nil=>
  obtain ⟨e,R',ns',a1,a2,a3,a4,a5⟩:=(wM h5 rn lt)
  exact ⟨e,H,R',ns',[],a1,At.refl hf,trivial,a2,a3,a4,a5⟩
 | cons p r=>
  obtain ⟨h6,h7⟩:=(aJ (show @Bool.rec (fun q0=>Bool) false _ (Nat.beq p.1 top)=true from h5))
  have h6:=Nat.eq_of_beq_eq_true h6
  obtain ⟨t,dd⟩:=p
  have h6:t=top:=h6
  subst h6
  obtain ⟨F1,F2⟩:=hF
  obtain ⟨H',hA,h8⟩:=Tr.set_ok _ _ _ _ _ h7
  cases q:Nat.beq dd t with
  | true=>
   have h8:vD t R (fun e R=>k e H' R)=true:=by have:=h8; rw [show (t,dd).2=dd from rfl,q] at this; exact this
   obtain ⟨e,R',ns',a1,a2,a3,a4,a5⟩:=(wM h8 rn lt)
   exact ⟨e,H',R',ns',r,a1,hA,F2,a2,a3,a4,a5⟩
  | false=>
   have h8:@Bool.rec (fun q0=>Bool) (k (.lit (.ofNat dd)) H' R) (vS t R fun e R=>k e H' R) (Nat.beq dd (Nat.succ t))=true:=by have:=h8; rw [show (t,dd).2=dd from rfl,q] at this; exact this
   cases q2:Nat.beq dd (Nat.succ t) with
   | true=>
    rw [q2] at h8
    obtain ⟨e,R',ns',a1,a2,a3,a4,a5⟩:=(xk h8 rn lt)
    exact ⟨e,H',R',ns',r,a1,hA,F2,a2,a3,a4,a5⟩
   | false=>
    rw [q2] at h8
    have e:(eS a b t).1=dd:=(F1.resolve_left (Nat.ne_of_beq_eq_false q)).resolve_left (Nat.ne_of_beq_eq_false q2)
    exact ⟨_,H',R,ns,r,h8,hA,F2,List.prefix_rfl,rn,trivial,by rw [e]; rfl⟩
end
section
section
variable {x:aR} {d:Nat} {vs:aq} {J:az} {H:Tr} {nx:Nat} {R:Rn} {O:Heap} {L:Addr} {m:Str->Option Value} {s:Shared} {A:Around} {E:Value->Shared->Prop} {env:Env} {loc:List GV}
theorem St.reg{i:Nat}{a:Addr}{o:Obj}{g:GO}{H':Tr}(S:St x J H nx R O L m s)(ha:J.as[i]?=some a)(ho:s.heap.get? a=some o)(hg:aL x.T x.CT x.nd (x.prog,x.w) J g o)(hA:At H H' i g):St x J H' nx R O L m s:=
 S.upd ha (Heap.SameBut.refl _ _) ho hg hA s.toks
theorem St.ns'{ns':List Int}{R':Rn}(S:St x J H nx R O L m s)(hp:J.ns <+: ns')(rn:dq R' ns'):J.le { J with ns:=ns' }/\St x { J with ns:=ns' } H nx R' O L m s:=by
 have le:J.le { J with ns:=ns' }:=⟨List.prefix_rfl,hp,rfl,rfl⟩
 obtain ⟨os,hos,el,N⟩:=S.led.at_
 exact ⟨le,⟨S.led.nod,os,fun k o h=>(hos k o h).more le,el,N⟩,S.nx,S.fr,S.gens,rn⟩
theorem lE{t e:Expr}{rest:List Stmt}(h1:io e=true)(h2:i8 t=true)(h3:bZ t=true){pos:Pos}{Q:Flow->Shared->Prop}
  (h:wpAny (model x.prog x.w) A (eval e env) (fun v s'=>wpAny (model x.prog x.w) A (assign t env v) (fun q0 s''=>wpAny (model x.prog x.w) A (execs rest env) Q E s'') E s') E s):wpAny (model x.prog x.w) A (execs (.Assign [t] e pos::rest) env) Q E s:=by
 refine wpAny_execs_cons (wpAny_Assign_stores (wpAny_mono h (fun v s' z=>?_) fun q0 q0 y=>y) (hX h1 _ _ _) ?_)
 ·rw [cU h3 env]
  exact z
 ·exact iR (.inl h2) _
def wR:SV:=fun H nx R loc k=>bU (aZ loc 0) fun i=>eG (aZ loc 1) fun z=>H.set 24 i .junk fun q0=>EO i z H R fun e H R=>k (.ret (.int e)) H nx R [.own i,.int (.lit z)]
theorem FY{a0 a1 a2:Nat}{t0 t1 t2:Str}(hT:x.T.Nodup)(hs:aA x [(a0,.loc),(a1,.loc),(a2,.loc)])(n0:x.T[a0]?=some t0)(n1:x.T[a1]?=some t1)(n2:x.T[a2]?=some t2){e0 e1 e2 e5 e8 e9:Expr}
  (g0:gn x d [(a0,.loc),(a1,.loc),(a2,.loc)] (fun a q0 q0=>a) e0) (g1:gn x d [(a0,.loc),(a1,.loc),(a2,.loc)] (fun q0 q0 q0=>0) e1) (g2:gn x d [(a0,.loc),(a1,.loc),(a2,.loc)] (fun a q0 c=>Int.fmod a c) e2) (g5:gn x d [(a0,.loc),(a1,.loc),(a2,.loc)] (fun a q0 c=>Int.fdiv a c) e5)
  (g8:gn x d [(a0,.loc),(a1,.loc),(a2,.loc)] (fun q0 b q0=>Int.fmod (b * 39373+7) 2147483647) e8) (g9:gn x d [(a0,.loc),(a1,.loc),(a2,.loc)] (fun q0 b c=>Int.fmod (Int.fdiv (Int.fmod (b * b) 2147483629) 32) c) e9)
  (hm:behindInMarks .Gt e1=false) (hc2:io e2=true) (hc5:io e5=true) (hc8:io e8=true) (q1 q2 q3 q4 q5 q6 q7 q8 q9 q10 q11 q12 q13 q14 q15:Pos) (k1 k2:Nat) :
  au x d [(a0,.loc),(a1,.loc),(a2,.loc)] wR [.If (.Compare e0 [.Gt] [e1] q1) [.Assign [.Name t2 q2] e2 q3,.Assign [.Subscript (.Name t0 q4) (.Constant (.int 0) k1 q5) q6] e5 q7,.Return (some (.Name t2 q8)) q9] [] q10,
   .Assign [.Subscript (.Name t0 q11) (.Constant (.int 1) k2 q12) q13] e8 q14,.Return (some e9) q15]:=by
 intro H nx R loc k h A env O L m J s Q E Hh En S Lo hQ
 symm
 obtain ⟨i,l0,h1⟩:=bn h
 obtain ⟨z,l1,h2⟩:=cR h1
 obtain ⟨HJ,hJ,h3⟩:=Tr.set_ok _ _ _ _ _ h2
 symm
 cases z with
 | negSucc _=>cases h3
 | ofNat top=>
 symm
 obtain ⟨tp,tt,f,hf,hG⟩:=(Cf h3 S.rn)
 symm
 symm
 obtain ⟨q0,x0,d0,p1,p2,p3⟩:=(Lo 0 a0 .loc rfl)
 obtain ⟨q0,x1,d1,r1,r2,r3⟩:=(Lo 1 a1 .loc rfl)
 obtain ⟨q0,x2,d2,w1,w2,w3⟩:=(Lo 2 a2 .loc rfl)
 symm
 rw [n0] at x0; cases x0
 rw [n1] at x1; cases x1
 rw [n2] at x2; cases x2
 rw [l0] at p3
 rw [l1] at r3
 symm
 obtain ⟨v0,m0,i0⟩:=(p3 (by intro q; cases q))
 obtain ⟨v1,m1,i1⟩:=(r3 (by intro q; cases q))
 obtain ⟨sa,rfl,ha⟩:=i0
 obtain ⟨o,o1,q0,q0,o2⟩:=(S.led.obj ha)
 rw [hf] at o2
 obtain ⟨a,b,n,t,u,rfl,ha0,hb0,hb1,hF⟩:=o2
 obtain ⟨e,H',R',ns',f',hk,hA,hF',hp,rn',ek,ev⟩:=(hG a b hF)
 symm
 have ne0:t0≠t2:=fun q=>by
  have:=(cF hT n0 n2).mp q
  have:=hs.2
  simp_all
 have ne1:t1≠t2:=fun q=>by
  have:=(cF hT n1 n2).mp q
  have:=hs.2
  simp_all
 have SJ:St x J HJ nx R O L m s:=S.reg ha o1 (.junk _) hJ
 have jk:HJ.get i=.junk:=by rw [hJ i,if_pos rfl]
 have c0:(0:Int)<Int.ofNat top:=by simp only [Int.ofNat_eq_natCast]; lia
 have c1:Int.ofNat top<1000:=by simp only [Int.ofNat_eq_natCast]; lia
 have Lo1:bq x J env L m [(a0,.loc),(a1,.loc),(a2,.loc)] [.own i,.int (.lit (.ofNat top)),.nul]:=fun j i' kd hj=>by
  match j,hj with
  | 0,hj=>cases hj; exact ⟨t0,n0,d0,p1,p2,fun q0=>⟨_,m0,.own ha⟩⟩
  | 1,hj=>cases hj; exact ⟨t1,n1,d1,r1,r2,fun q0=>⟨_,m1,i1⟩⟩
  | 2,hj=>cases hj; exact ⟨t2,n2,d2,w1,w2,fun q=>absurd rfl q⟩
  | j+3,hj=>simp at hj
 have P:gF x d [(a0,.loc),(a1,.loc),(a2,.loc)] A env O L m J HJ nx R [.own i,.int (.lit (.ofNat top)),.nul] i (.ofNat top) a b s:=⟨Hh,En,SJ,Lo1,jk,rfl,rfl,sa,n,t,u,ha,o1⟩
 have fin:∀(m':Str->Option Value) (s':Shared) (dd:Int) (td:Tok),gF x d [(a0,.loc),(a1,.loc),(a2,.loc)] A env O L m' J HJ nx R [.own i,.int (.lit (.ofNat top)),.nul] i (.ofNat top) (eS a b top).2.1 (eS a b top).2.2 s'->dd=((eS a b top).1:Int)->Q (.ret (.int dd td)) s':=by
  intro m' s' dd td P' hdd
  obtain ⟨sa',n',t',u',b1,b2⟩:=P'.obj
  rw [ha] at b1; cases b1
  have bnds:0<=(eS a b top).2.1/\0<=(eS a b top).2.2/\(eS a b top).2.2<2147483647:=by
   unfold eS
   split
   ·exact ⟨Int.fdiv_nonneg ha0 (by lia),hb0,hb1⟩
   ·exact ⟨ha0,Int.fmod_nonneg_of_pos _ (by decide),Int.fmod_lt_of_pos _ (by decide)⟩
  have S1:St x J H' nx R O L m' s':=P'.S.reg ha b2 (.pool n' t' u' bnds.1 bnds.2.1 bnds.2.2 hF') (fun k=>by
   rw [hA k]
   by_cases q:k=i
   ·rw [if_pos q,if_pos q]
   ·rw [if_neg q,if_neg q,hJ k,if_neg q])
  obtain ⟨le,S2⟩:=(S1.ns' hp rn')
  refine hQ _ H' nx R' [.own i,.int (.lit (.ofNat top))] m' s' (.ret (.int e)) _ le S2 (fun j i' kd hj=>?_) ?_ hk
  ·match j,hj with
   | 0,hj=>obtain ⟨y,y1,y2,y3⟩:=(P'.Lo.more le) 0 i' kd hj; exact ⟨y,y1,y2,y3⟩
   | 1,hj=>obtain ⟨y,y1,y2,y3⟩:=(P'.Lo.more le) 1 i' kd hj; exact ⟨y,y1,y2,y3⟩
   | 2,hj=>obtain ⟨y,y1,y2,y3⟩:=(P'.Lo.more le) 2 i' kd hj; exact ⟨y,y1,y2,y3⟩
   | j+3,hj=>simp at hj
  ·rw [hdd,<- ev]
   exact .ret (.int td ek)
 refine wpAny_execs_cons (wpAny_If (wpAny_isTrue_Compare1 (g0 A env O L m J HJ nx R _ i _ a b s _ E P c0 c1 hb0 hb1 fun ta tk=>g1 A env O L m J HJ nx R _ i _ a b _ _ E (P.tok tk) c0 c1 hb0 hb1 fun tb tk2=>PyProof.Rows.gt_int (wpAny_truthy_bool ?_)) hm))
 have P1:=(P.tok tk).tok tk2
 cases q:decide ((0:Int)<a) with
 | true=>
  have pa:0<a:=of_decide_eq_true q
  have dr:eS a b top=((Int.fmod a top).toNat,Int.fdiv a top,b):=by unfold eS; rw [if_pos pa]
  show wpAny _ _ (execs _ env) _ _ _
  refine lE hc2 rfl rfl (g2 A env O L m J HJ nx R _ i _ a b _ _ E P1 c0 c1 hb0 hb1 fun td tk3=>?_)
  refine wpAny_assign_Name (wpAny_storeName_local (m:=m) w2 (w1▸P1.S.fr.ns) (fun h' hn hsb=>?_) (by rw [En.kind]; rfl))
  rw [w1] at hn hsb
  have nL:=P1.S.led.notL
  let m2:Str->Option Value:=fun y=>if y=t2 then some (.int (Int.fmod a (Int.ofNat top)) td) else m y
  have S2:St x J HJ nx R O L m2 { s with heap:=h',toks:=tk3+1 }:=⟨P1.S.led.keep fun a ha=>hsb.2 a fun e=>nL (e▸ha),P1.S.nx,P1.S.fr.set hn hsb,P1.S.gens,P1.S.rn⟩
  have Lo2:bq x J env L m2 [(a0,.loc),(a1,.loc),(a2,.loc)] [.own i,.int (.lit (.ofNat top)),.nul]:=fun j i' kd hj=>by
   match j,hj with
   | 0,hj=>cases hj; exact ⟨t0,n0,d0,p1,p2,fun q0=>⟨_,by show (if t0=t2 then _ else _)=_; rw [if_neg ne0]; exact m0,.own ha⟩⟩
   | 1,hj=>cases hj; exact ⟨t1,n1,d1,r1,r2,fun q0=>⟨_,by show (if t1=t2 then _ else _)=_; rw [if_neg ne1]; exact m1,i1⟩⟩
   | 2,hj=>cases hj; exact ⟨t2,n2,d2,w1,w2,fun q=>absurd rfl q⟩
   | j+3,hj=>simp at hj
  have hsa:h'.get? sa=some (listOf #[.int a t,.int b u] n):=by
   rw [hsb.2 sa fun q=>nL (q▸List.mem_of_getElem? ha)]; exact o1
  have P2:gF x d [(a0,.loc),(a1,.loc),(a2,.loc)] A env O L m2 J HJ nx R [.own i,.int (.lit (.ofNat top)),.nul] i (.ofNat top) a b { s with heap:=h',toks:=tk3+1 }:=⟨Hh,En,S2,Lo2,jk,rfl,rfl,sa,n,t,u,ha,hsa⟩
  refine lE hc5 rfl rfl (g5 A env O L m2 J HJ nx R _ i _ a b _ _ E P2 c0 c1 hb0 hb1 fun te tk4=>?_)
  refine uH 0 rfl n0 (P2.tok tk4) (.inl rfl) (fun s' P3=>?_) _ _ _ _
  rw [if_pos rfl,if_pos rfl] at P3
  refine wpAny_execs_cons (wpAny_Return_some (wpAny_Name (wpAny_loadName_local En.kind w2 (w1▸P3.S.fr.ns) (if_pos rfl) ?_) d2))
  refine fin m2 s' _ td ?_ ?_
  ·rw [dr]; exact P3
  ·rw [dr]
   have:=Int.fmod_nonneg_of_pos a c0
   show Int.fmod a (Int.ofNat top)=((Int.fmod a top).toNat:Int)
   simp only [Int.ofNat_eq_natCast] at this ⊢
   lia
 | false=>
  have pa:¬ 0<a:=of_decide_eq_false q
  have dr:eS a b top=((Int.fmod (Int.fdiv (Int.fmod (Int.fmod (b * 39373+7) 2147483647 * Int.fmod (b * 39373+7) 2147483647) 2147483629) 32) top).toNat,a,Int.fmod (b * 39373+7) 2147483647):=by unfold eS; rw [if_neg pa]
  show wpAny _ _ (execs [] env) _ _ _
  refine wpAny_execs_nil ?_
  show wpAny _ _ (execs _ env) _ _ _
  refine lE hc8 rfl rfl (g8 A env O L m J HJ nx R _ i _ a b _ _ E P1 c0 c1 hb0 hb1 fun td tk3=>?_)
  refine uH 1 rfl n0 (P1.tok tk3) (.inr rfl) (fun s' P3=>?_) _ _ _ _
  rw [if_neg (by decide),if_neg (by decide)] at P3
  have z0:=Int.fmod_nonneg_of_pos (b * 39373+7) (show (0:Int)<2147483647 by decide)
  have z1:=Int.fmod_lt_of_pos (b * 39373+7) (show (0:Int)<2147483647 by decide)
  refine wpAny_execs_cons (wpAny_Return_some (g9 A env O L m J HJ nx R _ i _ a _ s' _ E P3 c0 c1 z0 z1 fun te tk4=>?_))
  refine fin m _ _ te ?_ ?_
  ·rw [dr]; exact P3.tok tk4
  ·rw [dr]
   have:=Int.fmod_nonneg_of_pos (Int.fdiv (Int.fmod (Int.fmod (b * 39373+7) 2147483647 * Int.fmod (b * 39373+7) 2147483647) 2147483629) 32) c0
   simp only [Int.ofNat_eq_natCast] at this ⊢
   lia
end
end
section
section
variable {x:aR} {d:Nat} {vs:aq} {J:az} {H:Tr} {nx:Nat} {R:Rn} {O:Heap} {L:Addr} {m:Str->Option Value} {s:Shared} {A:Around} {E:Value->Shared->Prop} {Q:Value->Shared->Prop} {k:KV} {env:Env} {loc:List GV}
def pO(x:aR)(C:Nat)(t:Str):Prop:=∀cx,x.CT[C]?=some cx->aS { x with CT:=[cx] } t
def tZ(C0 a:Nat)(o g:GV)(H:Tr)(k:Tr->Bool):Bool:=eH g (bU o fun i=>hV (H.get i) fun C dd=>@Bool.rec (fun q0=>Bool) false (eM (H.get dd) fun es=>@Bool.rec (fun q0=>Bool) false (gM a g es fun es=>H.set 24 dd (.idict es) k) (mM 100 es)) (Nat.beq C C0))
theorem wo(hT:x.T.Nodup){C0 a:Nat}{t:Str}(ht:x.T[a]?=some t)(la:a<x.nd)(hn:pO x C0 t){o g:GV}{k:Tr->Bool}(h:tZ C0 a o g H k=true)(Hh:ck x d A O L)(S:St x J H nx R O L m s){u v:Value}(iu:Is x.T J o u)(iv:Is x.T J g v)
  {Q:Unit->Shared->Prop} (hQ:∀H' s',k H'=true->St x J H' nx R O L m s'->Q () s'):wpAny (model x.prog x.w) A (setAttr u t v) Q E s:=by
 symm
 obtain ⟨q0,h1⟩:=cQ h
 obtain ⟨i,rfl,h2⟩:=bn h1
 obtain ⟨C,dd,hi,h2b⟩:=fg h2
 obtain ⟨hC,h3⟩:=aJ h2b
 have hC:=Nat.eq_of_beq_eq_true hC
 subst hC
 obtain ⟨es,hd,h4⟩:=dL h3
 obtain ⟨hz,h5⟩:=aJ h4
 obtain ⟨q0,rfl,ha⟩:=iu
 obtain ⟨cx,dx,ds,n,c1,c2,c3,c4⟩:=(S.led.inst (l:=0) hi hd ha)
 obtain ⟨n1,n2,n3,n4,n5,n6⟩:=(hn cx c1 cx (.head _))
 obtain ⟨es',h6,h7⟩:=(dh.put hT (hs:=PyData.keyHash x.w.params t) ht la iv (s.toks+1) c3 h5)
 obtain ⟨H',hA,h8⟩:=Tr.set_ok _ _ _ _ _ h6
 obtain ⟨os,hos,el,N⟩:=S.led.at_
 obtain ⟨od,hod⟩:∃od,os[dd]?=some od:=⟨_,List.getElem?_eq_getElem (el▸aN c2)⟩
 symm
 have eod:od=dictOf ds n:=by
  have z1:=(N _ (cn c2 hod)).1
  have z2:s.heap.get? dx=some (dictOf ds n):=c4.dict
  exact Option.some.inj (z1.symm.trans z2)
 subst eod
 refine set_dict S.fr Hh.X N c4 rfl n4 n5 n6 n2 (c3.isSome t) rfl (ey S.led.nod c2 hod) ?_ fun h' F' N'=>hQ H' _ h8 (S.set hos el F' c2 N' (.idict _ h7) hA (s.toks+2))
 have:=iS t (PyData.keyHash x.w.params t) (.str t (s.toks+1)) v ds
 have:=ja hz
 rw [c3.length] at this
 lia
def DS(C0:Nat)(f:EV)(a:Nat):AV:=fun g H nx R loc k=>f H nx R loc fun o H nx R=>tZ C0 a o g H fun H=>k H nx R loc
theorem wu(hT:x.T.Nodup){C0:Nat}{f:EV}{o:Expr}(hf:aK x d vs f o){a:Nat}{t:Str}(ht:x.T[a]?=some t)(la:a<x.nd)(hn:pO x C0 t)(pos:Pos):dQ x d vs (DS C0 f a) (.Attribute o t pos):=by
 intro g H nx R loc k h A env O L m J s v Q E Hh En S Lo iv hQ
 refine kas_attr (hf H nx R loc _ h A env O L m J s _ E Hh En S Lo fun J1 H1 nx1 R1 s1 o v1 le1 S1 i1 h1=>?_)
 exact wo hT ht la hn h1 Hh S1 i1 (iv.more le1) fun H' s' hk S'=>hQ J1 H' nx1 R1 loc m s' le1 S' (Lo.more le1) hk
noncomputable def bw:SV:=fun q0 q0 q0 q0 q0=>false
theorem bf{b:List Stmt}:au x d vs bw b:=fun q0 q0 q0 q0 q0 h=>by cases h
theorem ck.less{d':Nat}(h:d<=d')(H:ck x d' A O L):ck x d A O L:=⟨H.below,H.X,H.top,by have:=H.room; lia,H.hnd,by have:=H.units; lia⟩
theorem cL.more{d':Nat}{f:ce}{v:Value}(h:d<=d')(o:cL x d f v):cL x d' f v:=fun gs H nx R k e A O L m J s us Q E Hh=>o gs H nx R k e A O L m J s us Q E (Hh.less h)
theorem au.more{d':Nat}{f:SV}{b:List Stmt}(h:d<=d')(o:au x d vs f b):au x d' vs f b:=fun H nx R loc k e A env O L m J s Q E Hh=>o H nx R loc k e A env O L m J s Q E (Hh.less h)
noncomputable def AI(l:List Expr):Bool:=l.any fun e=>iN e 23
theorem aU.more{d':Nat}{r:aF}{aO:SV}{fa:Addr}(h:d<=d')(o:aU x d r aO fa):aU x d' r aO fa:=⟨o.ok.imp fun q0=>Exists.imp fun q0=>Exists.imp fun q0=>And.imp_right fun g=>g.more h,o.keep,o.fn⟩
theorem wm{α β:Type}{F:α->Option β}{l:List α}{y:α}(hy:y∈l)(hn:F y=none):(l.filterMap F).length<l.length:=by
 induction l with
 | nil=>cases hy
 | cons a r ih=>
  cases q:F a with
  | none=>rw [List.filterMap_cons_none q]; exact Nat.lt_succ_of_le (List.length_filterMap_le F r)
  | some b=>
   rw [List.filterMap_cons_some q]
   rcases List.mem_cons.mp hy with rfl | hy
   ·rw [q] at hn; cases hn
   ·exact Nat.succ_lt_succ (ih hy)
theorem Jq{α:Type}{c:Prop}[Decidable c]{x:Sem (Option α)}(h:¬c->x=pure none):(if c then pure none else x)=pure none:=by
 by_cases q:c
 ·rw [if_pos q]
 ·rw [if_neg q]; exact h q
theorem ue{ts es:List Expr}{k1 k2:Nat}{p1 p2:Pos}(h:AI ts=true):swappedStores [.Tuple ts k1 p1] (.Tuple es k2 p2) env=pure none:=by
 refine Jq fun q0=>Jq fun q0=>Jq fun q=>absurd ?_ q
 obtain ⟨y,hy,hn⟩:=(List.any_eq_true.mp h)
 rw [Bool.or_eq_true]
 left
 rw [bne_iff_ne]
 refine Nat.ne_of_lt (wm hy ?_)
 clear hy q h
 cases y <;> first | rfl | exact nope hn
theorem u9{a:AV}{f:EV}{r:SV}{ts es:List Expr}{k1 k2:Nat}{p1 p2:Pos}{rest:List Stmt}(ha:dQ x d vs a (.Tuple ts k1 p1))(hf:aK x d vs f (.Tuple es k2 p2))(hr:au x d vs r rest)(hn:AI ts=true)(pos:Pos):au x d vs (aB a f r) (.Assign [.Tuple ts k1 p1] (.Tuple es k2 p2) pos::rest):=by
 intro H nx R loc k h A env O L m J s Q E Hh En S Lo hQ
 refine ec hr Hh En hQ ?_
 refine wpAny_Assign_stores (hf H nx R loc _ h A env O L m J s _ E Hh En S Lo fun J1 H1 nx1 R1 s1 g v le1 S1 i1 hk=>?_) rfl (ue hn)
 rw [cU rfl env]
 exact ha g H1 nx1 R1 loc _ hk A env O L m J1 s1 v _ E Hh En S1 (Lo.more le1) i1 fun J2 H2 nx2 R2 loc2 m2 s2 le2 S2 Lo2 hk2=>ed (le1.trans le2) S2 Lo2 hk2
end
end
section
noncomputable def lB(h:Heap)(L:Addr):Heap:=⟨h.objs.extract 0 L,h.life⟩
theorem yc(h:Heap)(L:Addr):(lB h L).objs.size<=L:=by
 unfold lB
 simp only [Array.size_extract]
 exact Nat.le_trans (Nat.sub_le _ _) (Nat.min_le_left _ _)
theorem Dl{h:Heap}{L b:Addr}{o:Obj}(e:(lB h L).get? b=some o):h.get? b=some o:=by
 unfold Heap.get? lB at *
 by_cases q:@LT.lt Nat _ b L/\@LT.lt Nat _ b h.objs.size
 ·have:(h.objs.extract 0 L)[b]?=h.objs[b]?:=by
   rw [Array.getElem?_extract,if_pos (Nat.lt_sub_of_add_lt (Nat.lt_min.mpr q)),Nat.zero_add]
  dsimp only at e
  rwa [this] at e
 ·have:(h.objs.extract 0 L)[b]?=none:=by
   rw [Array.getElem?_eq_none_iff,Array.size_extract]
   lia
  dsimp only at e
  rw [this] at e
  cases e
theorem zs{h:Heap}{L b:Addr}{o:Obj}(lt:@LT.lt Nat _ b L)(e:h.get? b=some o):(lB h L).get? b=some o:=by
 have q:@LT.lt Nat _ b h.objs.size:=Heap.lt_size e
 have:(h.objs.extract 0 L)[b]?=h.objs[b]?:=by
  rw [Array.getElem?_extract,if_pos (Nat.lt_sub_of_add_lt (Nat.lt_min.mpr ⟨lt,q⟩)),Nat.zero_add]
 unfold Heap.get? lB at *
 dsimp only
 rwa [this]
theorem hK{base h h':Heap}(hk:∀b o,h.get? b=some o->h'.get? b=some o):∀{l:List Env},h.FunFrames base l->h'.FunFrames base l
 | [],_=>trivial
 | env::_,⟨a,⟨L,o,hf,hn,ho,hd⟩,hr⟩=>⟨a,⟨L,o,hf,hn,hk _ _ ho,hd⟩,hK hk hr⟩
structure aaF (x:aR) (d:Nat) (r:aF) (aO:SV) (fa:Addr):Prop where
 ok:∃vs body D,br x vs r fa body D/\v5 x d vs aO body
end
section
def Cp(g:GV)(k:Value->Bool):Bool:=@GV.rec (fun q0=>Bool) false false (fun q0=>false) (fun q0=>false) (fun q0=>false) (fun q0=>false) (fun v=>k v) (fun q0=>false) false g
theorem wx{g:GV}{k:Value->Bool}(h:Cp g k=true):∃v,g=.old v/\k v=true:=by cases g <;> first | (cases h; done) | exact ⟨_,rfl,h⟩
def jv(x:aR)(v:Value):Prop:=∃sa o es n,v=.ref sa/\x.K.lookup sa=some o/\o.cls=.type "list"/\o.data=.seq es n/\es.size<=100000/\∀(j:Nat) u,es[j]?=some u->∃i t,u=.int i t
noncomputable def pr(c:Int):Int:=if (-1 - c) > c then -1 - c else c
noncomputable def jK(w:Int):Int:=Int.fmod ((Int.fmod w 2147483629+17) * 48271) 2147483647
noncomputable def iJ(w:Int):Int:=if 10 ^ 18<=w then w else 0
theorem wH(w:Int):0<=jK w/\jK w<2147483647:=⟨Int.fmod_nonneg_of_pos _ (by decide),Int.fmod_lt_of_pos _ (by decide)⟩
theorem Pe(w:Int):0<=iJ w:=by unfold iJ; split <;> lia
section
variable {x:aR} {d:Nat} {vs:aq} {J:az} {H:Tr} {nx:Nat} {R:Rn} {O:Heap} {L:Addr} {m:Str->Option Value} {s:Shared} {A:Around} {E:Value->Shared->Prop} {env:Env} {loc:List GV}
open Classical in
def ph(v0:Value)(c0:Int):EV:=fun H nx R loc k=>@Bool.rec (fun q0=>Bool) false (k (.int (.lit c0)) H nx R) (decide (aZ loc 0=.old v0))
def ud:EV:=fun H nx R loc k=>eG (aZ loc 1) fun c=>k (.int (.lit (pr c))) H nx R
def v6:EV:=fun H nx R loc k=>eG (aZ loc 2) fun w=>mk (.pool []) H nx R k
theorem w8{i a:Nat}{t:Str}{g:GV}(hv:vs[i]?=some (a,.loc))(ht:x.T[a]?=some t)(En:bN env L)(S:St x J H nx R O L m s)(Lo:bq x J env L m vs loc)(hg:aZ loc i=g)(n:g≠.nul){Q:Value->Shared->Prop}(hQ:∀v,Is x.T J g v->Q v s)(p:Pos) :
  wpAny (model x.prog x.w) A (eval (.Name t p) env) Q E s:=by
 obtain ⟨t',ht',hd,h1,h2,h3⟩:=(Lo i a .loc hv)
 rw [ht] at ht'; cases ht'
 rw [hg] at h3
 obtain ⟨v,mv,iv⟩:=(h3 n)
 exact wpAny_Name (wpAny_loadName_local En.kind h2 (h1▸S.fr.ns) mv (hQ v iv)) hd
def d5(x:aR)(A:Around)(env:Env)(s:Shared)(e:Expr)(n:Int):Prop:=∀(tk:Nat) (Q E:Value->Shared->Prop),(∀t tk',Q (.int n t) { s with toks:=tk' })->wpAny (model x.prog x.w) A (eval e env) Q E { s with toks:=tk }
theorem d5.name{i a:Nat}{t:Str}{w:Int}(hv:vs[i]?=some (a,.loc))(ht:x.T[a]?=some t)(En:bN env L)(S:St x J H nx R O L m s)(Lo:bq x J env L m vs loc)(hg:aZ loc i=.int (.lit w))(p:Pos):d5 x A env s (.Name t p) w:=fun tk Q E hQ=>
 w8 hv ht En (S.tok tk) Lo hg (by intro q; cases q) (fun v iv=>by obtain ⟨t,rfl,o⟩:=iv; exact hQ t tk) p
theorem d5.const(n:Int)(kd:Nat)(p:Pos):d5 x A env s (.Constant (.int n) kd p) n:=fun tk Q E hQ=>wpAny_Constant_int (hQ _ _)
theorem d5.bin{op:Operator}{e f:Expr}{a b r:Int}(he:d5 x A env s e a)(hf:d5 x A env s f b)(ho:∀(tk:Nat) (t u:Tok) (Q E:Value->Shared->Prop),(∀t tk',Q (.int r t) { s with toks:=tk' })->wpAny (model x.prog x.w) A (binaryOp op (.int a t) (.int b u)) Q E { s with toks:=tk })(p:Pos):d5 x A env s (.BinOp e op f p) r:=fun tk Q E hQ=>
 wpAny_BinOp (he tk _ E fun t tk1=>hf tk1 _ E fun u tk2=>ho tk2 t u Q E hQ)
theorem d5.mod{e f:Expr}{a b:Int}(he:d5 x A env s e a)(hf:d5 x A env s f b)(hb:(0:Int)<b)(p:Pos):d5 x A env s (.BinOp e .Mod f p) (Int.fmod a b):=
 he.bin hf (fun tk t u Q E hQ=>AutoIntOps.mod_1 (by simp only [beq_iff_eq]; lia) (show Q (.int (Int.fmod a b) tk) { s with toks:=tk+1 } from hQ _ _)) p
theorem d5.add{e f:Expr}{a b:Int}(he:d5 x A env s e a)(hf:d5 x A env s f b)(p:Pos):d5 x A env s (.BinOp e .Add f p) (a+b):=
 he.bin hf (fun tk t u Q E hQ=>AutoIntOps.add_0 (show Q (.int (a+b) tk) { s with toks:=tk+1 } from hQ _ _)) p
theorem d5.mul{e f:Expr}{a b:Int}(he:d5 x A env s e a)(hf:d5 x A env s f b)(h0:0<=a)(h1:a<4294967296)(p:Pos):d5 x A env s (.BinOp e .Mult f p) (a * b):=
 he.bin hf (fun tk t u Q E hQ=>AutoIntOps.mul_0 (show Q (.int (a * b) tk) { s with toks:=tk+1 } from hQ _ _) (IntMulOk.of_left (intBits_le_64 (by lia) (by lia)))) p
theorem d5.pow(k1 k2:Nat)(p1 p2 p:Pos):d5 x A env s (.BinOp (.Constant (.int 10) k1 p1) .Pow (.Constant (.int 18) k2 p2) p) (10 ^ 18):=
 (d5.const 10 k1 p1).bin (d5.const 18 k2 p2) (fun tk t u Q E hQ=>AutoIntOps.pow_4 (by decide) (by decide) (by decide) (by decide) (by decide +kernel) (show Q (.int (10 ^ 18) tk) { s with toks:=tk+1 } from hQ _ _)) p
open Classical in
theorem GR{a0 a3:Nat}{t0 t3:Str}{v0:Value}(hv0:vs[0]?=some (a0,.loc))(ht0:x.T[a0]?=some t0)(hv3:vs[3]?=some (a3,.glo))(ht3:x.T[a3]?=some t3)(hm:bp x t3 (.builtin "len"))(sc:jv x v0) :
  ∃c0:Int,∀(p1 p2 p3 p4 p5 p6 p7 p8 p9 p10:Pos) (k1 k2 k3:Nat),aK x d vs (ph v0 c0)
   (.IfExp (.Compare (.Call (.Name t3 p1) [.Name t0 p2] [] p3) [.Gt] [.Constant (.int 0) k1 p4] p5) (.Subscript (.Name t0 p6) (.Constant (.int 0) k2 p7) p8) (.Constant (.int 0) k3 p9) p10):=by
 symm
 obtain ⟨sa,o,es,n,rfl,hlook,hcls,hdat,hsz,hint⟩:=sc
 symm
 refine ⟨match es[0]? with | some (Value.int i _)=>i | _=>0,?_⟩
 intro p1 p2 p3 p4 p5 p6 p7 p8 p9 p10 k1 k2 k3 H nx R loc k h A env O L m J s Q E Hh En S Lo hQ
 obtain ⟨hl,hk⟩:=aJ h
 have hl:aZ loc 0=.old (.ref sa):=of_decide_eq_true hl
 have X:=Hh.X
 refine wpAny_IfExp (wpAny_isTrue_Compare1 (Call_Name rfl (ik hv3 ht3 hm Hh En S Lo ?_ _)) rfl)
 refine fq (first:=[]) (l:=af (ah 0) aj) (kl:=fun gs H' nx' R'=>decide (gs=[.old (.ref sa)]/\H'=H/\nx'=nx/\R'=R)) (gI (kN hv0 ht0 _) kK rfl) rfl ?_ Hh En S Lo (fun J' H' nx' R' s' gs us le S' i hk'=>?_)
 ·show eH (aZ loc 0) (decide ([aZ loc 0]=[.old (.ref sa)]/\H=H/\nx=nx/\R=R))=true
  rw [hl]
  exact decide_eq_true ⟨rfl,rfl,rfl,rfl⟩
 symm
 obtain ⟨rfl,rfl,rfl,rfl⟩:=(of_decide_eq_true hk')
 symm
 cases i with
 | cons i1 i2=>
 cases i2
 cases i1
 have isl:s'.heap.IsList sa es:=⟨o,(X.keeps S'.fr.keep) _ _ hlook,hcls,n,hdat⟩
 refine call_len_list isl (by lia) (wpAny_Constant_int (PyProof.Rows.gt_int (wpAny_truthy_bool ?_)))
 have Lo':=Lo.more le
 cases q:decide ((0:Int)<(es.size:Int)) with
 | true=>
  have q:=of_decide_eq_true q
  have lt:0<es.size:=by lia
  obtain ⟨i,t,hi⟩:=(hint 0 _ (Array.getElem?_eq_getElem lt))
  have e0:es[0]?=some (.int i t):=(Array.getElem?_eq_getElem lt).trans (congrArg some hi)
  rw [e0] at hk
  refine Subscript_ (w8 hv0 ht0 En ((S'.tok _).tok _) Lo' hl (by intro q; cases q) (fun v iv=>?_) _)
  cases iv
  refine wpAny_Constant_int ?_
  refine tail_any (Heap.IsList.typeIs (s:={ s' with toks:=_ }) isl) slot_list_getitem.lookup ?_ (by with_unfolding_all rfl)
  refine wpAny_getItem_list (s:={ s' with toks:=_ }) isl (by decide) (by decide) e0 ?_
  exact hQ _ _ _ _ _ _ _ le (S'.tok _) (.int (e:=.lit i) t trivial) hk
 | false=>
  have q:=of_decide_eq_false q
  have e0:es[0]?=none:=Array.getElem?_eq_none (by lia)
  rw [e0] at hk
  exact wpAny_Constant_int (hQ _ _ _ _ _ _ _ le (S'.tok _) (.int (e:=.lit 0) _ trivial) hk)
open Classical in
theorem Go{a1 a4:Nat}{t1 t4:Str}(hv1:vs[1]?=some (a1,.loc))(ht1:x.T[a1]?=some t1)(hv4:vs[4]?=some (a4,.glo))(ht4:x.T[a4]?=some t4)(hm:bp x t4 (.builtin "max"))(p1 p2 p3 p4 p5 p6 p7:Pos)(k1:Nat) :
  aK x d vs ud (.Call (.Name t4 p1) [.Name t1 p2,.BinOp (.UnaryOp .USub (.Constant (.int 1) k1 p3) p4) .Sub (.Name t1 p5) p6] [] p7):=by
 intro H nx R loc k h A env O L m J s Q E Hh En S Lo hQ
 obtain ⟨c,hl,hk⟩:=cR h
 refine Call_Name rfl (ik hv4 ht4 hm Hh En S Lo ?_ _)
 refine fq (first:=[]) (l:=af (ah 1) (af (dp FC (xF qr (bj (.int (.lit (.ofNat 1))))) (ah 1)) aj)) (kl:=fun gs H' nx' R'=>decide (gs=[.int (.lit c),.int (.lit (-1 - c))]/\H'=H/\nx'=nx/\R'=R))
  (gI (kN hv1 ht1 _) (gI (bJ DB (mB kT (Fk (.int _) _ _) _) (kN hv1 ht1 _) _) kK rfl) rfl) rfl ?_ Hh En S Lo (fun J' H' nx' R' s' gs us le S' i hk'=>?_)
 ·show eH (aZ loc 1) (eH (aZ loc 1) (eG (aZ loc 1) fun j=>fI (Int.sub (-1) j) fun r=>decide ([aZ loc 1,.int (.lit r)]=[.int (.lit c),.int (.lit (-1 - c))]/\H=H/\nx=nx/\R=R)))=true
  rw [hl]
  show fI (Int.sub (-1) c) (fun r=>decide ([GV.int (.lit c),.int (.lit r)]=[.int (.lit c),.int (.lit (-1 - c))]/\H=H/\nx=nx/\R=R))=true
  rw [lQ]
  exact decide_eq_true ⟨rfl,rfl,rfl,rfl⟩
 symm
 obtain ⟨rfl,rfl,rfl,rfl⟩:=(of_decide_eq_true hk')
 obtain ⟨q0,q0,rfl,i1,i2⟩:=fA i
 obtain ⟨q0,q0,rfl,i2,i3⟩:=fA i2
 obtain rfl:=nM i3
 obtain ⟨t,rfl,ok1⟩:=i1
 obtain ⟨u,rfl,zU⟩:=i2
 obtain ⟨os,hos,el,N⟩:=S'.led.at_
 symm
 refine max_two_N Hh.hnd S'.fr N fun h' tk F' N'=>?_
 have S2:St x J' H' nx' R' O L m { s' with heap:=h',toks:=tk }:=⟨⟨S'.led.nod,os,hos,el,N'⟩,S'.nx,F',S'.gens,S'.rn⟩
 exact hQ _ _ _ _ _ _ _ le S2 (.int (e:=.lit (pr c)) _ trivial) hk
def Fo:EV:=fun H nx R loc k=>eG (aZ loc 2) fun w=>k (.int (.lit (iJ w))) H nx R
def zM:EV:=fun H nx R loc k=>eG (aZ loc 2) fun w=>k (.int (.lit (jK w))) H nx R
theorem F6{a2:Nat}{t2:Str}(hv2:vs[2]?=some (a2,.loc))(ht2:x.T[a2]?=some t2)(p1 p2 p3 p4 p5 p6 p7 p8:Pos)(k1 k2 k3:Nat) :
  aK x d vs Fo (.IfExp (.Compare (.Name t2 p1) [.GtE] [.BinOp (.Constant (.int 10) k1 p2) .Pow (.Constant (.int 18) k2 p3) p4] p5) (.Name t2 p6) (.Constant (.int 0) k3 p7) p8):=by
 intro H nx R loc k h A env O L m J s Q E Hh En S Lo hQ
 obtain ⟨w,hl,hk⟩:=cR h
 refine wpAny_IfExp (wpAny_isTrue_Compare1 (d5.name hv2 ht2 En S Lo hl p1 s.toks _ _ fun t tk=>d5.pow k1 k2 p2 p3 p4 tk _ _ fun u tk2=>P.ge_int (wpAny_truthy_bool ?_)) rfl)
 cases q:decide ((10 ^ 18:Int)<=w) with
 | true=>
  have z:iJ w=w:=by unfold iJ; rw [if_pos (of_decide_eq_true q)]
  exact d5.name hv2 ht2 En S Lo hl p6 _ _ _ fun t tk3=>hQ _ _ _ _ _ _ _ (.refl _) (S.tok _) (by rw [z]; exact .int (e:=.lit w) t trivial) hk
 | false=>
  have z:iJ w=0:=by unfold iJ; rw [if_neg (of_decide_eq_false q)]
  exact wpAny_Constant_int (hQ _ _ _ _ _ _ _ (.refl _) (S.tok _) (by rw [z]; exact .int (e:=.lit 0) _ trivial) hk)
theorem CO{a2:Nat}{t2:Str}(hv2:vs[2]?=some (a2,.loc))(ht2:x.T[a2]?=some t2)(p1 p2 p3 p4 p5 p6 p7 p8 p9:Pos)(k1 k2 k3 k4:Nat) :
  aK x d vs zM (.BinOp (.BinOp (.BinOp (.BinOp (.Name t2 p1) .Mod (.Constant (.int 2147483629) k1 p2) p3) .Add (.Constant (.int 17) k2 p4) p5) .Mult (.Constant (.int 48271) k3 p6) p7) .Mod (.Constant (.int 2147483647) k4 p8) p9):=by
 intro H nx R loc k h A env O L m J s Q E Hh En S Lo hQ
 obtain ⟨w,hl,hk⟩:=cR h
 have z1:=Int.fmod_nonneg_of_pos w (show (0:Int)<2147483629 by decide)
 have z2:=Int.fmod_lt_of_pos w (show (0:Int)<2147483629 by decide)
 exact ((((d5.name hv2 ht2 En S Lo hl p1).mod (d5.const _ k1 p2) (by decide) p3).add (d5.const _ k2 p4) p5).mul (d5.const _ k3 p6) (by lia) (by lia) p7).mod (d5.const _ k4 p8) (by decide) p9 s.toks _ _
  fun t tk=>hQ _ _ _ _ _ _ _ (.refl _) (S.tok _) (.int (e:=.lit (jK w)) t trivial) hk
open Classical in
theorem BY{e1 e2:Expr}(h1:aK x d vs Fo e1)(h2:aK x d vs zM e2)(n1:bZ e1=true)(n2:bZ e2=true)(pos:Pos):aK x d vs v6 (.List [e1,e2] pos):=by
 intro H nx R loc k h A env O L m J s Q E Hh En S Lo hQ
 obtain ⟨w,hl,hk⟩:=cR h
 refine List_ ((gI h1 (gI h2 kK n2) n1) H nx R loc (fun gs H' nx' R'=>decide (gs=[.int (.lit (iJ w)),.int (.lit (jK w))]/\H'=H/\nx'=nx/\R'=R)) ?_ A env O L m J s pos _ E Hh En S Lo fun J' H' nx' R' s' gs us le S' hgs hk'=>?_)
 ·show eG (aZ loc 2) (fun w'=>eG (aZ loc 2) fun w''=>decide ([GV.int (.lit (iJ w')),.int (.lit (jK w''))]=[.int (.lit (iJ w)),.int (.lit (jK w))]/\H=H/\nx=nx/\R=R))=true
  rw [hl]
  exact decide_eq_true ⟨rfl,rfl,rfl,rfl⟩
 symm
 obtain ⟨rfl,rfl,rfl,rfl⟩:=(of_decide_eq_true hk')
 obtain ⟨os,hos,e,N⟩:=S'.led.at_
 obtain ⟨q0,q0,rfl,i1,i2⟩:=fA hgs
 obtain ⟨q0,q0,rfl,i2,i3⟩:=fA i2
 obtain rfl:=nM i3
 obtain ⟨t,rfl,ok1⟩:=i1
 obtain ⟨u,rfl,zU⟩:=i2
 symm
 exact newList_K S'.fr N (fun D h' F' N' lt=>gp hk S' (hQ.le le) hos e F' N' lt (.pool 0 t u (Pe w) (wH w).1 (wH w).2 trivial) s'.toks) (by show 2<=sizeLine; decide)
def pM(v0:Value)(c0:Int):SV:=aB (bt 1) (ph v0 c0) (aB (bt 2) ud (bC v6))
def ER(c:Value->Bool):SV:=fun H nx R loc k=>Cp (aZ loc 0) fun v=>@Bool.rec (fun q0=>Bool) false (c v) (mk (.pool []) H nx R fun g H nx R=>k (.ret g) H nx R [])
open Classical in
theorem Ax(v0:Value)(c0:Int)(k:KV)(r:List GV):ph v0 c0 H nx R (.old v0::r) k=k (.int (.lit c0)) H nx R:=by
 have e:decide (aZ (.old v0::r) 0=.old v0)=true:=decide_eq_true rfl
 unfold ph
 rw [e]
theorem Ab(a:GV)(c:Int)(k:KV)(r:List GV):ud H nx R (a::.int (.lit c)::r) k=k (.int (.lit (pr c))) H nx R:=rfl
theorem Bo(a b:GV)(w:Int)(k:KV)(r:List GV):v6 H nx R (a::b::.int (.lit w)::r) k=mk (.pool []) H nx R k:=rfl
theorem Gv(g a b c:GV)(k:Tr->Nat->Rn->List GV->Bool):bt 1 g H nx R [a,b,c] k=k H nx R [a,g,c]:=rfl
theorem Gj(g a b c:GV)(k:Tr->Nat->Rn->List GV->Bool):bt 2 g H nx R [a,b,c] k=k H nx R [a,b,g]:=rfl
theorem BA(v0:Value)(c0:Int)(k:KS):pM v0 c0 H nx R [.old v0,.nul,.nul] k=mk (.pool []) H nx R fun g H nx R=>k (.ret g) H nx R [.old v0,.int (.lit c0),.int (.lit (pr c0))]:=by
 unfold pM aB bC
 rw [Ax,Gv,Ab,Gj,Bo]
theorem DP{c:Value->Bool}{b:List Stmt}(hc:∀v,c v=true->jv x v)(hvs:(vs.all fun p=>match p.2 with | .loc=>true | .glo=>true | _=>false)=true)(hb:∀v0,jv x v0->∃c0,au x d vs (pM v0 c0) b):au x d vs (ER c) b:=by
 intro H nx R loc k h A env O L m J s Q E Hh En S Lo hQ
 obtain ⟨v,l0,h1⟩:=wx h
 obtain ⟨h2,hcv⟩:=aJ h1
 obtain ⟨c0,hb⟩:=(hb v (hc v hcv))
 have Lo':bq x J env L m vs [.old v,.nul,.nul]:=fun j i' kd hj=>by
  obtain ⟨t,ht,hd,sl⟩:=(Lo j i' kd hj)
  refine ⟨t,ht,hd,?_⟩
  have hk:=List.all_eq_true.mp hvs _ (List.mem_of_getElem? hj)
  cases kd with
  | loc=>
   match j with
   | 0=>rw [l0] at sl; exact sl
   | 1=>exact ⟨sl.1,sl.2.1,fun n=>absurd rfl n⟩
   | 2=>exact ⟨sl.1,sl.2.1,fun n=>absurd rfl n⟩
   | j+3=>exact ⟨sl.1,sl.2.1,fun n=>absurd rfl n⟩
  | glo=>exact sl
  | cel=>cases hk
  | blk=>cases hk
 refine hb H nx R [.old v,.nul,.nul] (fun gf H nx R q0=>k gf H nx R []) ?_ A env O L m J s Q E Hh En S Lo' fun J' H' nx' R' loc' m' s' gf fl le S' Lo2 fi hk=>?_
 ·rw [BA]
  exact h2
 ·refine hQ J' H' nx' R' [] m' s' gf fl le S' (fun j i' kd hj=>?_) fi hk
  obtain ⟨t,ht,hd,sl⟩:=(Lo2 j i' kd hj)
  refine ⟨t,ht,hd,?_⟩
  have hk:=List.all_eq_true.mp hvs _ (List.mem_of_getElem? hj)
  cases kd with
  | loc=>exact ⟨sl.1,sl.2.1,fun n=>absurd rfl n⟩
  | glo=>exact sl
  | cel=>cases hk
  | blk=>cases hk
end
end
section
inductive PV where
 | unk | none
 | bool (b:Bool)
 | int (v:Nat)
 | lit (i:Int)
 | str (i:Nat)
 | own (k:Nat)
def PV.g(p:PV):GV:=@PV.rec (fun q0=>GV) .unk .none (fun b=>.bool b) (fun v=>.int (.var v)) (fun i=>.int (.lit i)) (fun i=>.str i) (fun k=>.own k) p
inductive PO where
 | list (l:List PV)
 | tuple (l:List PV)
 | inst (C d:Nat)
 | idict (es:List (Nat × PV))
 | ds (es:List (Nat × PV))
 | di (es:List (Int × PV))
 | d0
 | flat (k:Nat)
 | oit
 | dm (es:List (Int × PV))
 | junk
 | pool (f:List (Nat × Nat))
 | row (n:Nat) (ss:List Nat)
 | dk (k:Nat) (p:PV)
 | riter (i n:Nat)
def BS(l:List PV):List GV:=@List.rec PV (fun q0=>List GV) [] (fun p q0 ih=>p.g::ih) l
def yd(l:List (Nat × PV)):List (Nat × GV):=@List.rec (Nat × PV) (fun q0=>List (Nat × GV)) [] (fun p q0 ih=>(p.1,p.2.g)::ih) l
def lO(l:List (Int × PV)):List (Int × GV):=@List.rec (Int × PV) (fun q0=>List (Int × GV)) [] (fun p q0 ih=>(p.1,p.2.g)::ih) l
def PO.g(p:PO):GO:=@PO.rec (fun q0=>GO) (fun l=>.list (BS l)) (fun l=>.tuple (BS l)) (fun C d=>.inst C d) (fun es=>.idict (yd es)) (fun es=>.ds (yd es)) (fun es=>.di (lO es)) .d0 (fun k=>.flat k) .oit (fun es=>.dm (lO es)) .junk (fun f=>.pool f) (fun n ss=>.row n ss) (fun k q=>.dk k q.g) (fun i n=>.riter i n) p
inductive Fl where
 | f (k:Nat)
 | t (l:List GV)
def C1{α:Type}(l:List α)(n:Nat)(k:α->Bool):Bool:=@List.rec α (fun q0=>Nat->Bool) (fun q0=>false) (fun a q0 ih n=>@Nat.rec (fun q0=>Bool) (k a) (fun n q0=>ih n) n) l n
theorem qz{α:Type}:∀{l:List α} {n:Nat} {k:α->Bool},C1 l n k=true->∃a,l[n]?=some a/\k a=true
 | [],n,k,h=>by cases h
 | a::l,0,k,h=>⟨a,rfl,h⟩
 | a::l,n+1,k,h=>by rw [List.getElem?_cons_succ]; exact qz (l:=l) (n:=n) h
def gB(g:GV)(k:Bool->Bool):Bool:=@GV.rec (fun q0=>Bool) false false (fun b=>k b) (fun q0=>false) (fun q0=>false) (fun q0=>false) (fun q0=>false) (fun q0=>false) false g
theorem qb{g:GV}{k:Bool->Bool}(h:gB g k=true):∃b,g=.bool b/\k b=true:=by cases g <;> first | (cases h; done) | exact ⟨_,rfl,h⟩
def Ct(a b:Bool):Bool:=@Bool.rec (fun q0=>Bool) (@Bool.rec (fun q0=>Bool) true false b) b a
theorem wI{a b:Bool}(h:Ct a b=true):a=b:=by cases a <;> cases b <;> first | rfl | cases h
def j7(l:List GV):Bool:=@List.rec GV (fun q0=>Bool) true (fun q0 q0 q0=>false) l
noncomputable def lK(z k:Nat):Nat:=Nat.mod (Nat.div z (Nat.pow 16777216 k)) 16777216
noncomputable def oI(z k:Nat)(f:Nat->Bool):Bool:=@Nat.rec (fun q0=>Bool) false (fun j q0=>f j) (lK z k)
theorem kU{z k:Nat}{f:Nat->Bool}(h:oI z k f=true):∃j,lK z k=Nat.succ j/\f j=true:=by
 unfold oI at h
 cases q:lK z k with
 | zero=>rw [q] at h; cases h
 | succ j=>rw [q] at h; exact ⟨j,rfl,h⟩
def mw(a:Nat):Nat:=@Bool.rec (fun q0=>Nat) 0 (Nat.succ a) (Nat.ble (Nat.succ (Nat.succ a)) 16777216)
def iF(l:List Nat):Nat:=@List.rec Nat (fun q0=>Nat) 0 (fun a q0 ih=>Nat.add (mw a) (Nat.mul 16777216 ih)) l
theorem rI(a:Nat):mw a<16777216/\∀j,mw a=Nat.succ j->a=j:=by
 unfold mw
 cases q:Nat.ble (Nat.succ (Nat.succ a)) 16777216 with
 | false=>exact ⟨show (0:Nat)<16777216 by decide,fun j h=>absurd (show (0:Nat)=Nat.succ j from h) (Nat.succ_ne_zero j).symm⟩
 | true=>exact ⟨Nat.le_of_ble_eq_true q,fun j h=>Nat.succ.inj h⟩
theorem xu:∀{l:List Nat} {k j:Nat},lK (iF l) k=Nat.succ j->l[k]?=some j
 | [],k,j,h=>by
  have:lK 0 k=0:=by show 0 / 16777216 ^ k % 16777216=0; rw [Nat.zero_div]
  rw [show iF []=0 from rfl,this] at h; cases h
 | a::l,0,j,h=>by
  have e:lK (iF (a::l)) 0=mw a:=by
   show (mw a+16777216 * iF l) / 16777216 ^ 0 % 16777216=mw a
   rw [Nat.pow_zero,Nat.div_one,Nat.add_mul_mod_self_left,Nat.mod_eq_of_lt (rI a).1]
  rw [e] at h
  rw [(rI a).2 j h]; rfl
 | a::l,k+1,j,h=>by
  have e:lK (iF (a::l)) (k+1)=lK (iF l) k:=by
   show (mw a+16777216 * iF l) / 16777216 ^ (k+1) % 16777216=iF l / 16777216 ^ k % 16777216
   rw [Nat.pow_succ,Nat.mul_comm (16777216 ^ k),<- Nat.div_div_eq_div_mul,Nat.add_mul_div_left _ _ (by decide),Nat.div_eq_of_lt (rI a).1,Nat.zero_add]
  rw [e] at h
  rw [List.getElem?_cons_succ]; exact xu h
def tO(l:List Nat)(k:List Nat->Bool):Bool:=@List.rec Nat (fun q0=>(List Nat->Bool)->Bool) (fun k=>k []) (fun a q0 ih k=>fN a fun a=>ih fun r=>k (a::r)) l k
theorem lm:∀(l:List Nat) (k:List Nat->Bool),tO l k=k l
 | [],_=>rfl
 | a::l,k=>by show fN a (fun a=>tO l fun r=>k (a::r))=_; rw [bP,lm]
noncomputable def xQ(n:Nat):Nat->(List Nat->Bool)->Bool:=@Nat.rec (fun q0=>Nat->(List Nat->Bool)->Bool) (fun q0 k=>k []) (fun q0 ih z k=>fN (Nat.pred (Nat.mod z 16777216)) fun a=>fN (Nat.div z 16777216) fun z=>ih z fun r=>k (a::r)) n
theorem rc:∀{n z:Nat} {k:List Nat->Bool},xQ n z k=true->∃l,k l=true
 | 0,z,k,h=>⟨[],h⟩
 | n+1,z,k,h=>by
  have h:(fN (Nat.pred (Nat.mod z 16777216)) fun a=>fN (Nat.div z 16777216) fun z=>xQ n z fun r=>k (a::r))=true:=h
  rw [bP,bP] at h
  obtain ⟨l,h⟩:=(rc h)
  exact ⟨_,h⟩
noncomputable def pE(z n j:Nat):Nat:=Nat.add z (Nat.mul (Nat.succ j) (Nat.pow 16777216 n))
def vE(l:List Nat):Nat->Bool:=@List.rec Nat (fun q0=>Nat->Bool) (fun q0=>true) (fun i q0 ih m=>@Bool.rec (fun q0=>Bool) false (ih (Nat.lor m (Nat.pow 2 i))) (Nat.beq (Nat.land m (Nat.pow 2 i)) 0)) l
theorem xj:∀{l:List Nat} {m:Nat},vE l m=true->l.Nodup/\∀j∈l,m.testBit j=false
 | [],m,h=>⟨List.nodup_nil,fun j h=>by cases h⟩
 | i::l,m,h=>by
  obtain ⟨h1,h2⟩:=(aJ (show @Bool.rec (fun q0=>Bool) false (vE l (Nat.lor m (Nat.pow 2 i))) (Nat.beq (Nat.land m (Nat.pow 2 i)) 0)=true from h))
  obtain ⟨h3,h4⟩:=(xj h2)
  have h1:m&&&2 ^ i=0:=Nat.eq_of_beq_eq_true h1
  have h5:m.testBit i=false:=by
   have:=congrArg (fun z=>Nat.testBit z i) h1
   simpa [Nat.testBit_and,Nat.testBit_two_pow_self] using this
  have h6:∀j∈l,m.testBit j=false/\i≠j:=fun j hj=>by
   have e:(m|||2 ^ i).testBit j=false:=h4 j hj
   rw [Nat.testBit_or,Nat.testBit_two_pow] at e
   obtain ⟨e1,e2⟩:=(Bool.or_eq_false_iff.mp e)
   exact ⟨e1,of_decide_eq_false e2⟩
  refine ⟨List.nodup_cons.mpr ⟨fun q=>(h6 i q).2 rfl,h3⟩,fun j hj=>?_⟩
  rcases List.mem_cons.mp hj with rfl | hj
  ·exact h5
  ·exact (h6 j hj).1
abbrev CV:=Nat->List GI->GV->Bool
def cvN:CV:=fun q0 q0 g=>lH g true
def cvU:CV:=fun q0 q0 g=>eH g true
def cvB(b:Bool):CV:=fun q0 q0 g=>gB g fun c=>Ct c b
def cvI(v:Nat):CV:=fun q0 τ g=>fR g fun e=>C1 τ v fun e'=>GI.beq e e'
def cvL(i:Int):CV:=fun q0 q0 g=>eG g fun j=>cV j i
def cvS(i:Nat):CV:=fun q0 q0 g=>oQ g fun j=>Nat.beq j i
def cvO(k:Nat):CV:=fun σ q0 g=>bU g fun j=>oI σ k fun j'=>Nat.beq j j'
def lr(σ:Nat)(τ:List GI)(p:PV)(g:GV):Bool:=@PV.rec (fun q0=>CV) cvU cvN cvB cvI cvL cvS cvO p σ τ g
noncomputable def nt(ns:List Int):GV->nI
 | .bool b=>.bool b
 | .int e=>.int (e.ev ns)
 | .str i=>.str i
 | _=>.none
structure pV (J J':az) (σ:Nat) (τ:List GI) (φ:List Fl):Prop where
 as:∀(k j:Nat) (a:Addr),lK σ k=Nat.succ j->J.as[j]?=some a->J'.as[k]?=some a
 ns:∀(v:Nat) (e:GI),τ[v]?=some e->(GI.var v).ok J'.ns.length/\(GI.var v).ev J'.ns=e.ev J.ns
 df:∀(k k0:Nat),φ[k]?=some (.f k0)->J'.ds k=J.ds k0
 dt:∀(k:Nat) (l:List GV),φ[k]?=some (.t l)->J'.ds k=l.map (nt J.ns)
 it:J'.it=J.it
section
variable {T:List Str} {CT:List Addr} {nd:Nat} {pw:Program × World} {J J':az} {σ:Nat} {τ:List GI} {φ:List Fl}
theorem gP(rn:pV J J' σ τ φ){p:PV}{g:GV}(h:lr σ τ p g=true){v:Value}(i:Is T J g v):Is T J' p.g v:=by
 cases p with
 | unk=>exact .unk _
 | none=>
  cases g <;> first | (cases h; done) | skip
  cases i; exact .none
 | bool b=>
  obtain ⟨c,rfl,h⟩:=qb h
  have:=wI h
  subst this
  cases i; exact .bool _
 | int n=>
  obtain ⟨e,rfl,h⟩:=dA h
  obtain ⟨e',h1,h2⟩:=qz h
  have:=GI.beq_eq h2
  subst this
  obtain ⟨t,rfl,ok⟩:=i
  obtain ⟨a,b⟩:=(rn.ns _ _ h1)
  rw [<- b]; exact .int (e:=.var n) t a
 | lit z=>
  obtain ⟨j,rfl,h⟩:=cR h
  have:j=z:=eq_of_beq (cr h)
  subst this
  obtain ⟨t,rfl,ok⟩:=i
  exact .int (e:=.lit j) t trivial
 | str z=>
  obtain ⟨j,rfl,h⟩:=gO h
  have:=Nat.eq_of_beq_eq_true h
  subst this
  obtain ⟨q0,t,rfl,ht⟩:=i
  exact .str t ht
 | own k=>
  obtain ⟨j,rfl,h⟩:=bn h
  obtain ⟨j',h1,h2⟩:=kU h
  have:=Nat.eq_of_beq_eq_true h2
  subst this
  obtain ⟨q0,rfl,ha⟩:=i
  exact .own (rn.as _ _ _ h1 ha)
def CC(σ:Nat)(τ:List GI)(ps:List PV)(gs:List GV):Bool:=@List.rec PV (fun q0=>List GV->Bool) (fun gs=>j7 gs) (fun p q0 ih gs=>@List.rec GV (fun q0=>Bool) false (fun g r q0=>@Bool.rec (fun q0=>Bool) false (ih r) (lr σ τ p g)) gs) ps gs
theorem qP(rn:pV J J' σ τ φ):∀{ps:List PV} {gs:List GV},CC σ τ ps gs=true->∀{vs:List Value},be T J gs vs->be T J' (BS ps) vs
 | [],gs,h,vs,i=>by
  cases gs with
  | nil=>cases i; exact .nil
  | cons _ _=>cases h
 | p::ps,[],h,vs,i=>by cases h
 | p::ps,g::gs,h,vs,i=>by
  obtain ⟨h1,h2⟩:=aJ h
  cases i with
  | cons a r=>exact .cons (gP rn h1 a) (qP rn h2 r)
def zm(σ:Nat)(τ:List GI)(ps:List (Nat × PV))(gs:List (Nat × GV)):Bool:=@List.rec (Nat × PV) (fun q0=>List (Nat × GV)->Bool) (fun gs=>@List.rec (Nat × GV) (fun q0=>Bool) true (fun q0 q0 q0=>false) gs) (fun p q0 ih gs=>@List.rec (Nat × GV) (fun q0=>Bool) false (fun g r q0=>@Bool.rec (fun q0=>Bool) false (ih r) (Nat.beq p.1 g.1&&lr σ τ p.2 g.2)) gs) ps gs
theorem wV(rn:pV J J' σ τ φ):∀{ps:List (Nat × PV)} {gs:List (Nat × GV)},zm σ τ ps gs=true->∀{ds:List DictEntry},dh T nd J gs ds->dh T nd J' (yd ps) ds
 | [],gs,h,ds,i=>by
  cases gs with
  | nil=>cases i; exact .nil
  | cons _ _=>cases h
 | p::ps,[],h,ds,i=>by cases h
 | (a,p)::ps,(b,g)::gs,h,ds,i=>by
  obtain ⟨h0,h2⟩:=aJ h
  obtain ⟨h3,h1⟩:=Bool.and_eq_true_iff.mp h0
  have:a=b:=Nat.eq_of_beq_eq_true h3
  subst this
  cases i with
  | cons x y z w r=>exact .cons x y z (gP rn h1 w) (wV rn h2 r)
theorem xc(rn:pV J J' σ τ φ):∀{ps:List (Nat × PV)} {gs:List (Nat × GV)},zm σ τ ps gs=true->∀{ds:List (Str × Value)},fU T J gs ds->fU T J' (yd ps) ds
 | [],gs,h,ds,i=>by
  cases gs with
  | nil=>cases i; exact .nil
  | cons _ _=>cases h
 | p::ps,[],h,ds,i=>by cases h
 | (a,p)::ps,(b,g)::gs,h,ds,i=>by
  obtain ⟨h0,h2⟩:=aJ h
  obtain ⟨h3,h1⟩:=Bool.and_eq_true_iff.mp h0
  have:a=b:=Nat.eq_of_beq_eq_true h3
  subst this
  cases i with
  | cons x w r=>exact .cons x (gP rn h1 w) (xc rn h2 r)
def HR(σ:Nat)(τ:List GI)(ps:List (Int × PV))(gs:List (Int × GV)):Bool:=@List.rec (Int × PV) (fun q0=>List (Int × GV)->Bool) (fun gs=>@List.rec (Int × GV) (fun q0=>Bool) true (fun q0 q0 q0=>false) gs) (fun p q0 ih gs=>@List.rec (Int × GV) (fun q0=>Bool) false (fun g r q0=>@Bool.rec (fun q0=>Bool) false (ih r) (cV p.1 g.1&&lr σ τ p.2 g.2)) gs) ps gs
theorem xi(rn:pV J J' σ τ φ):∀{ps:List (Int × PV)} {gs:List (Int × GV)},HR σ τ ps gs=true->∀{ds:List (Int × Value)},eI T J gs ds->eI T J' (lO ps) ds
 | [],gs,h,ds,i=>by
  cases gs with
  | nil=>cases i; exact .nil
  | cons _ _=>cases h
 | p::ps,[],h,ds,i=>by cases h
 | (a,p)::ps,(b,g)::gs,h,ds,i=>by
  obtain ⟨h0,h2⟩:=aJ h
  obtain ⟨h3,h1⟩:=Bool.and_eq_true_iff.mp h0
  have:a=b:=eq_of_beq (cr h3)
  subst this
  cases i with
  | cons w r=>exact .cons (gP rn h1 w) (xi rn h2 r)
def FE(g h:GV):Bool:=@GV.rec (fun q0=>Bool) false (lH h true) (fun b=>gB h fun c=>Ct c b) (fun e=>fR h fun e'=>GI.beq e e') (fun i=>oQ h fun j=>Nat.beq i j) (fun q0=>false) (fun q0=>false) (fun q0=>false) false g
def vI(l r:List GV):Bool:=@List.rec GV (fun q0=>List GV->Bool) (fun r=>j7 r) (fun g q0 ih r=>@List.rec GV (fun q0=>Bool) false (fun h r q0=>@Bool.rec (fun q0=>Bool) false (ih r) (FE g h)) r) l r
theorem DO{g h:GV}(e:FE g h=true):h=g/\∀{v:Value},Is T J g v->kD T (nt J.ns g) v:=by
 cases g with
 | none=>cases h <;> first | (cases e; done) | exact ⟨rfl,fun i=>by cases i; exact .none⟩
 | bool b=>
  obtain ⟨c,rfl,e⟩:=qb e
  have:=wI e
  subst this
  exact ⟨rfl,fun i=>by cases i; exact .bool _⟩
 | int a=>
  obtain ⟨c,rfl,e⟩:=dA e
  have:=GI.beq_eq e
  subst this
  exact ⟨rfl,fun i=>by obtain ⟨t,rfl,ok⟩:=i; exact .int _ t⟩
 | str a=>
  obtain ⟨c,rfl,e⟩:=gO e
  have:=Nat.eq_of_beq_eq_true e
  subst this
  exact ⟨rfl,fun i=>by obtain ⟨q0,t,rfl,ht⟩:=i; exact .str t ht⟩
 | _=>cases e
theorem sB:∀{l r:List GV},vI l r=true->r=l/\∀{vs:List Value},be T J l vs->iW T (l.map (nt J.ns)) vs
 | [],r,e=>by
  cases r with
  | nil=>exact ⟨rfl,fun i=>by cases i; exact .nil⟩
  | cons _ _=>cases e
 | g::l,[],e=>by cases e
 | g::l,h::r,e=>by
  obtain ⟨e1,e2⟩:=aJ e
  obtain ⟨rfl,a⟩:=(DO (T:=T) (J:=J) e1)
  obtain ⟨rfl,b⟩:=(sB (l:=l) (r:=r) e2)
  exact ⟨rfl,fun i=>by cases i with | cons x y=>exact .cons (a x) (b y)⟩
def kE(o:GO)(kt:List GV->Bool)(kf:Nat->Bool):Bool:=@GO.rec (fun q0=>Bool) false (fun q0=>false) (fun l=>kt l) (fun q0 q0=>false) (fun q0=>false) false (fun q0=>false) (fun q0=>false) (fun q0=>false) (fun q0=>false) (fun q0 q0=>false) (fun q0 q0=>false) (fun q0 q0=>false) (fun q0=>false) (fun q0=>false) (fun k=>kf k) false (fun q0=>false) (fun q0 q0=>false) (fun q0 q0=>false) (fun q0 q0=>false) (fun q0 q0=>false) (fun q0 q0=>false) o
theorem eU{o:GO}{kt:List GV->Bool}{kf:Nat->Bool}(h:kE o kt kf=true):(∃l,o=.tuple l/\kt l=true)∨∃k,o=.flat k/\kf k=true:=by cases o <;> first | (cases h; done) | exact .inl ⟨_,rfl,h⟩ | exact .inr ⟨_,rfl,h⟩
def UW(f:Fl)(kf:Nat->Bool)(kt:List GV->Bool):Bool:=@Fl.rec (fun q0=>Bool) (fun k=>kf k) (fun l=>kt l) f
def oF(o:GO)(k0:Bool)(ki:List (Int × GV)->Bool)(ks:List (Nat × GV)->Bool)(kit:Bool):Bool:=@GO.rec (fun q0=>Bool) false (fun q0=>false) (fun q0=>false) (fun q0 q0=>false) (fun q0=>false) k0 (fun l=>ki l) (fun l=>ks l) (fun q0=>false) (fun q0=>false) (fun q0 q0=>false) (fun q0 q0=>false) (fun q0 q0=>false) (fun q0=>false) (fun q0=>false) (fun q0=>false) kit (fun q0=>false) (fun q0 q0=>false) (fun q0 q0=>false) (fun q0 q0=>false) (fun q0 q0=>false) (fun q0 q0=>false) o
def yj(o:GO)(k0:Bool)(ki km:List (Int × GV)->Bool):Bool:=@GO.rec (fun q0=>Bool) false (fun q0=>false) (fun q0=>false) (fun q0 q0=>false) (fun q0=>false) k0 (fun l=>ki l) (fun q0=>false) (fun q0=>false) (fun q0=>false) (fun q0 q0=>false) (fun q0 q0=>false) (fun q0 q0=>false) (fun q0=>false) (fun q0=>false) (fun q0=>false) false (fun l=>km l) (fun q0 q0=>false) (fun q0 q0=>false) (fun q0 q0=>false) (fun q0 q0=>false) (fun q0 q0=>false) o
def qZ{α:Type}(l:List (Int × α))(z:Int)(k:α->Bool):Bool:=@List.rec (Int × α) (fun q0=>Bool) false (fun p q0 ih=>@Bool.rec (fun q0=>Bool) ih (k p.2) (cV p.1 z)) l
theorem ny{α:Type}{z:Int}{k:α->Bool}:∀{l:List (Int × α)},qZ l z k=true->∃g,l.lookup z=some g/\k g=true
 | [],h=>by cases h
 | (a,g)::l,h=>by
  have h:@Bool.rec (fun q0=>Bool) (qZ l z k) (k g) (cV a z)=true:=h
  rw [List.lookup_cons]
  cases q:cV a z with
  | true=>
   rw [q] at h
   have:a=z:=eq_of_beq (cr q)
   subst this
   rw [beq_self_eq_true]
   exact ⟨g,rfl,h⟩
  | false=>
   rw [q] at h
   have:(z == a)=false:=by have:=cr q; rw [beq_eq_false_iff_ne] at this ⊢; exact fun e=>this e.symm
   rw [this]
   exact ny (l:=l) h
def vG(p:PV):Bool:=@PV.rec (fun q0=>Bool) true false (fun q0=>false) (fun q0=>false) (fun q0=>false) (fun q0=>false) (fun q0=>false) p
theorem FT{p:PV}(h:vG p=true):p=.unk:=by cases p <;> first | rfl | cases h
def yZ(σ:Nat)(τ:List GI)(r:List (Int × GV))(es:List (Int × PV)):Bool:=@List.rec (Int × PV) (fun q0=>Bool) true (fun p q0 ih=>@Bool.rec (fun q0=>Bool) false ih (vG p.2||qZ r p.1 fun g=>lr σ τ p.2 g)) es
def xO(es:List (Int × PV))(r:List (Int × GV)):Bool:=@List.rec (Int × GV) (fun q0=>Bool) true (fun p q0 ih=>@Bool.rec (fun q0=>Bool) false ih (qZ es p.1 fun q0=>true)) r
theorem rY{z:Int}{g:GV}:∀{es:List (Int × PV)},(lO es).lookup z=some g->∃p,es.lookup z=some p/\g=p.g
 | [],h=>by simp [lO] at h
 | (a,p)::es,h=>by
  have h:((a,p.g)::lO es).lookup z=some g:=h
  rw [List.lookup_cons] at h ⊢
  cases q:z == a with
  | true=>rw [q] at h; cases h; exact ⟨p,rfl,rfl⟩
  | false=>rw [q] at h; exact rY h
theorem rW{z:Int}:∀{es:List (Int × PV)},(lO es).lookup z=none->es.lookup z=none
 | [],h=>rfl
 | (a,p)::es,h=>by
  have h:((a,p.g)::lO es).lookup z=none:=h
  rw [List.lookup_cons] at h ⊢
  cases q:z == a with
  | true=>rw [q] at h; cases h
  | false=>rw [q] at h; exact rW h
theorem vz{r:List (Int × GV)}:∀{es:List (Int × PV)},yZ σ τ r es=true->∀z p,es.lookup z=some p->p=.unk∨∃g,r.lookup z=some g/\lr σ τ p g=true
 | [],h,z,p,e=>by cases e
 | (a,q)::es,h,z,p,e=>by
  obtain ⟨h1,h2⟩:=aJ h
  rw [List.lookup_cons] at e
  cases w:z == a with
  | true=>
   rw [w] at e
   have:z=a:=eq_of_beq w
   subst this
   cases e
   exact (Bool.or_eq_true_iff.mp h1).imp FT ny
  | false=>rw [w] at e; exact vz h2 z p e
theorem vc{es:List (Int × PV)}:∀{r:List (Int × GV)},xO es r=true->∀z,es.lookup z=none->r.lookup z=none
 | [],h,z,e=>rfl
 | (a,q)::r,h,z,e=>by
  obtain ⟨h1,h2⟩:=aJ h
  obtain ⟨p,hp,q0⟩:=ny h1
  rw [List.lookup_cons]
  cases w:z == a with
  | true=>
   have:z=a:=eq_of_beq w
   subst this
   rw [hp] at e; cases e
  | false=>exact vc h2 z e
theorem z5{z:Int}{r:List (Int × GV)}{ds:List (Int × Value)}(h:eI T J r ds):(∀g,r.lookup z=some g->∃v,PySem.valueAt ds z=some v/\Is T J g v)/\(r.lookup z=none->PySem.valueAt ds z=none):=by
 induction h with
 | nil=>exact ⟨fun g e=>by simp at e,fun q0=>rfl⟩
 | @cons a _ _ _ _ i _ ih=>
  rw [eY,List.lookup_cons]
  by_cases e:z=a
  ·subst e
   rw [beq_self_eq_true,if_pos rfl]
   exact ⟨fun g e=>by cases e; exact ⟨_,rfl,i⟩,fun e=>by cases e⟩
  ·have:(z == a)=false:=by simpa using e
   rw [this,if_neg (fun q=>e q.symm)]
   exact ih
def YG(es:List (Int × PV)):Bool:=@List.rec (Int × PV) (fun q0=>Bool) true (fun q0 q0 q0=>false) es
theorem EF{es:List (Int × PV)}{r:List (Int × GV)}(rn:pV J J' σ τ φ)(h1:yZ σ τ r es=true)(h2:xO es r=true){ds:List (Int × Value)}(hr:DM T J r ds):DM T J' (lO es) ds:=by
 refine ⟨fun z g e=>?_,fun z e=>hr.2 z (vc h2 z (rW e))⟩
 obtain ⟨p,hp,rfl⟩:=(rY e)
 rcases vz h1 z p hp with rfl | ⟨g',a,b⟩
 ·exact .inl rfl
 ·rcases hr.1 z g' a with rfl | ⟨v,c,d⟩
  ·left
   cases p <;> first | rfl | cases b
  ·exact .inr ⟨v,c,gP rn b d⟩
def xR(σ:Nat)(τ:List GI)(es:List (Int × PV))(r:List (Int × GV)):Bool:=yZ σ τ r es&&xO es r
def Lb(f:List (Nat × Nat)):Bool:=@List.rec (Nat × Nat) (fun q0=>Bool) true (fun p q0 ih=>@Bool.rec (fun q0=>Bool) false ih (Nat.beq p.2 p.1||Nat.beq p.2 (Nat.succ p.1))) f
theorem rC:∀{f:List (Nat × Nat)} {a b:Int},Lb f=true->rA f a b
 | [],_,_,_=>trivial
 | p::f,a,b,h=>by
  obtain ⟨h1,h2⟩:=aJ h
  obtain ⟨t,d⟩:=p
  rcases Bool.or_eq_true_iff.mp h1 with q | q
  ·exact ⟨.inl (Nat.eq_of_beq_eq_true q),rC h2⟩
  ·exact ⟨.inr (.inl (Nat.eq_of_beq_eq_true q)),rC h2⟩
def yE(o:GO)(kt:List GV->Bool)(kr:Nat->List Nat->Bool):Bool:=@GO.rec (fun q0=>Bool) false (fun q0=>false) (fun l=>kt l) (fun q0 q0=>false) (fun q0=>false) false (fun q0=>false) (fun q0=>false) (fun q0=>false) (fun q0=>false) (fun q0 q0=>false) (fun q0 q0=>false) (fun q0 q0=>false) (fun q0=>false) (fun q0=>false) (fun q0=>false) false (fun q0=>false) (fun q0 q0=>false) (fun q0 q0=>false) (fun q0 q0=>false) (fun n ss=>kr n ss) (fun q0 q0=>false) o
theorem v8{o:GO}{kt:List GV->Bool}{kr:Nat->List Nat->Bool}(h:yE o kt kr=true):(∃l,o=.tuple l/\kt l=true)∨∃n ss,o=.row n ss/\kr n ss=true:=by cases o <;> first | (cases h; done) | exact .inl ⟨_,rfl,h⟩ | exact .inr ⟨_,_,rfl,h⟩
def yb(o:GO)(k:Nat->GV->Bool):Bool:=@GO.rec (fun q0=>Bool) false (fun q0=>false) (fun q0=>false) (fun q0 q0=>false) (fun q0=>false) false (fun q0=>false) (fun q0=>false) (fun q0=>false) (fun q0=>false) (fun q0 q0=>false) (fun q0 q0=>false) (fun q0 q0=>false) (fun q0=>false) (fun q0=>false) (fun q0=>false) false (fun q0=>false) (fun q0 q0=>false) (fun q0 q0=>false) (fun q0 q0=>false) (fun q0 q0=>false) (fun a g=>k a g) o
theorem vf{o:GO}{k:Nat->GV->Bool}(h:yb o k=true):∃a g,o=.dk a g/\k a g=true:=by cases o <;> first | (cases h; done) | exact ⟨_,_,rfl,h⟩
def tG(j:Nat)(l:List Nat):Bool:=@List.rec Nat (fun q0=>Bool) false (fun i q0 ih=>@Bool.rec (fun q0=>Bool) ih true (Nat.beq i j)) l
theorem sq{j:Nat}:∀{l:List Nat},tG j l=true->j∈l
 | [],h=>by cases h
 | i::l,h=>by
  have h:@Bool.rec (fun q0=>Bool) (tG j l) true (Nat.beq i j)=true:=h
  cases q:Nat.beq i j with
  | true=>rw [Nat.eq_of_beq_eq_true q]; exact .head _
  | false=>rw [q] at h; exact .tail _ (sq (l:=l) h)
def L9(l r:List Nat):Bool:=@List.rec Nat (fun q0=>List Nat->Bool) (fun r=>@List.rec Nat (fun q0=>Bool) true (fun q0 q0 q0=>false) r) (fun a q0 ih r=>@List.rec Nat (fun q0=>Bool) false (fun b r q0=>@Bool.rec (fun q0=>Bool) false (ih r) (Nat.beq a b)) r) l r
theorem ub:∀{l r:List Nat},L9 l r=true->l=r
 | [],r,h=>by cases r with | nil=>rfl | cons _ _=>cases h
 | a::l,[],h=>by cases h
 | a::l,b::r,h=>by
  obtain ⟨h1,h2⟩:=aJ h
  rw [Nat.eq_of_beq_eq_true h1,ub (l:=l) (r:=r) h2]
def Ch(n:Nat)(ss:List Nat)(l:List GV):Bool:=@List.rec GV (fun q0=>Bool) false (fun g r q0=>eG g fun z=>@Int.rec (fun q0=>Bool) (fun i=>@Bool.rec (fun q0=>Bool) false (@List.rec GV (fun q0=>Bool) false (fun g r q0=>oQ g fun j=>@Bool.rec (fun q0=>Bool) false (@List.rec GV (fun q0=>Bool) false (fun g r q0=>fR g fun q0=>j7 r) r) (tG j ss)) r) (Nat.ble (Nat.succ i) n)) (fun q0=>false) z) l
theorem xh{n:Nat}{ss:List Nat}{l:List GV}(h:Ch n ss l=true){vs:List Value}(iv:be T J l vs):∃i j x z t u v,vs=[.int ((i:Nat):Int) t,.str x u,.int z v]/\i<n/\j∈ss/\T[j]?=some x:=by
 cases l with
 | nil=>cases h
 | cons g l=>
 obtain ⟨z,rfl,h1⟩:=cR h
 cases z with
 | negSucc _=>cases h1
 | ofNat i=>
 obtain ⟨c1,h2⟩:=aJ h1
 cases l with
 | nil=>cases h2
 | cons g l=>
 obtain ⟨j,rfl,h3⟩:=gO h2
 obtain ⟨c2,h4⟩:=aJ h3
 cases l with
 | nil=>cases h4
 | cons g l=>
 obtain ⟨e,rfl,h5⟩:=dA h4
 cases l with
 | cons _ _=>cases h5
 | nil=>
 obtain ⟨q0,q0,rfl,i1,iv⟩:=fA iv
 obtain ⟨q0,q0,rfl,i2,iv⟩:=fA iv
 obtain ⟨q0,q0,rfl,i3,iv⟩:=fA iv
 obtain rfl:=nM iv
 obtain ⟨t,rfl,ok⟩:=i1
 obtain ⟨q0,u,rfl,ht⟩:=i2
 obtain ⟨v,rfl,UD⟩:=i3
 exact ⟨i,j,_,_,t,u,v,rfl,Nat.le_of_ble_eq_true c1,sq c2,ht⟩
abbrev CK:=Nat->List GI->List Fl->GO->Bool
def ckL(l:List PV):CK:=fun σ τ q0 o=>ef o fun r=>CC σ τ l r
def ckT(l:List PV):CK:=fun σ τ q0 o=>kE o (fun r=>CC σ τ l r) fun q0=>false
def ckI(C d:Nat):CK:=fun σ q0 q0 o=>hV o fun C' d'=>Nat.beq C C'&&oI σ d fun j=>Nat.beq d' j
def ckD(es:List (Nat × PV)):CK:=fun σ τ q0 o=>eM o fun r=>zm σ τ es r
def ckS(es:List (Nat × PV)):CK:=fun σ τ q0 o=>oF o false (fun q0=>false) (fun r=>zm σ τ es r) false
def ckN(es:List (Int × PV)):CK:=fun σ τ q0 o=>oF o false (fun r=>HR σ τ es r) (fun q0=>false) false
def ck0:CK:=fun q0 q0 q0 o=>oF o true (fun q0=>false) (fun q0=>false) false
def ckF(k:Nat):CK:=fun q0 q0 φ o=>C1 φ k fun f=>kE o (fun r=>UW f (fun q0=>false) fun l=>vI l r) fun k0=>UW f (fun k1=>Nat.beq k0 k1) fun q0=>false
def ckO:CK:=fun q0 q0 q0 o=>oF o false (fun q0=>false) (fun q0=>false) true
def ckM(es:List (Int × PV)):CK:=fun σ τ q0 o=>yj o (YG es) (fun r=>xR σ τ es r) fun r=>xR σ τ es r
def ckP(f:List (Nat × Nat)):CK:=fun q0 q0 q0 o=>uD o fun q0=>Lb f
def ckR(n:Nat)(ss:List Nat):CK:=fun q0 q0 q0 o=>yE o (fun l=>Ch n ss l) fun n' ss'=>Nat.beq n n'&&L9 ss ss'
def ckK(k:Nat)(q:PV):CK:=fun σ τ q0 o=>yb o fun k' g=>(oI σ k fun j=>Nat.beq k' j)&&lr σ τ q g
def ckJ(i n:Nat):CK:=fun q0 q0 q0 o=>lg o (fun q0 q0=>false) (fun q0 q0=>false) fun i' n'=>Nat.beq i i'&&Nat.beq n n'
def CM(σ:Nat)(τ:List GI)(φ:List Fl)(p:PO)(o:GO):Bool:=@PO.rec (fun q0=>CK) ckL ckT ckI ckD ckS ckN ck0 ckF ckO ckM (fun q0 q0 q0 q0=>true) ckP ckR ckK ckJ p σ τ φ o
set_option tactic.hygienic true in
theorem FL(rn:pV J J' σ τ φ){p:PO}{o:GO}(h:CM σ τ φ p o=true){ob:Obj}(i:aL T CT nd pw J o ob):aL T CT nd pw J' p.g ob:=by
 cases p with
 | list l=>
  symm
  obtain ⟨r,rfl,h⟩:=cY h
  obtain ⟨q0,n,rfl,x⟩:=i
  symm
  exact .list n (qP rn h x)
 | tuple l=>
  rcases eU h with ⟨r,rfl,h⟩ | ⟨k,rfl,h⟩
  ·obtain ⟨q0,rfl,x⟩:=i
   exact .tuple (qP rn h x)
  ·cases h
 | inst C d=>
  symm
  obtain ⟨C',d',rfl,h⟩:=fg h
  obtain ⟨h1,h2⟩:=Bool.and_eq_true_iff.mp h
  obtain ⟨j,h3,h4⟩:=kU h2
  have e1:=Nat.eq_of_beq_eq_true h1
  have e2:=Nat.eq_of_beq_eq_true h4
  subst e1 e2
  obtain ⟨q0,q0,rfl,a,b⟩:=i
  symm
  exact .inst a (rn.as _ _ _ h3 b)
 | idict es=>
  symm
  obtain ⟨r,rfl,h⟩:=dL h
  obtain ⟨q0,n,rfl,x⟩:=i
  symm
  exact .idict n (wV rn h x)
 | ds es=>
  cases o <;> first | (cases h; done) | skip
  obtain ⟨q0,a,b⟩:=i
  exact .ds a (xc rn h b)
 | di es=>
  cases o <;> first | (cases h; done) | skip
  obtain ⟨q0,a,b⟩:=i
  exact .di a (xi rn h b)
 | d0=>
  cases o <;> first | (cases h; done) | skip
  obtain ⟨a,b⟩:=i
  exact .d0 a b
 | flat k=>
  obtain ⟨f,h1,h2⟩:=qz h
  rcases eU h2 with ⟨r,rfl,h⟩ | ⟨k0,rfl,h⟩
  ·cases f with
   | f k1=>cases h
   | t l=>
    symm
    obtain ⟨rfl,b⟩:=(sB (T:=T) (J:=J) (show vI l r=true from h))
    obtain ⟨q0,rfl,x⟩:=i
    symm
    exact .flat (by rw [rn.dt _ _ h1]; exact b x)
  ·cases f with
   | t l=>cases h
   | f k1=>
    have e:=Nat.eq_of_beq_eq_true (n:=k0) (m:=k1) h
    subst e
    obtain ⟨q0,rfl,x⟩:=i
    exact .flat (by rw [rn.df _ _ h1]; exact x)
 | oit=>
  cases o <;> first | (cases h; done) | skip
  obtain ⟨a,b⟩:=i
  exact .oit a (by rw [rn.it]; exact b)
 | dm es=>
  cases o <;> first | (cases h; done) | skip
  ·obtain ⟨a,b⟩:=i
   cases es with
   | nil=>exact .dm a ⟨fun z g e=>(by cases e),fun z e=>rfl⟩
   | cons _ _=>cases h
  ·rename_i r
   symm
   obtain ⟨h1,h2⟩:=(Bool.and_eq_true_iff.mp (show xR σ τ es r=true from h))
   obtain ⟨q0,a,b⟩:=i
   symm
   exact .dm a (EF rn h1 h2 ⟨fun z g e=>.inr ((z5 b).1 g e),fun z e=>(z5 b).2 e⟩)
  ·rename_i r
   symm
   obtain ⟨h1,h2⟩:=(Bool.and_eq_true_iff.mp (show xR σ τ es r=true from h))
   obtain ⟨q0,a,b⟩:=i
   symm
   exact .dm a (EF rn h1 h2 b)
 | junk=>exact .junk _
 | pool f=>
  symm
  obtain ⟨f0,rfl,h1⟩:=rV h
  obtain ⟨q0,q0,n,t,u,rfl,a,b,c,d⟩:=i
  symm
  exact .pool n t u a b c (rC h1)
 | row n ss=>
  rcases v8 h with ⟨l,rfl,h1⟩ | ⟨n',ss',rfl,h1⟩
  ·obtain ⟨q0,rfl,x⟩:=i
   symm
   obtain ⟨i,j,y,z,t,u,v,rfl,a,b,c⟩:=(xh h1 x)
   symm
   exact .row t u v a b c
  ·obtain ⟨h2,h3⟩:=Bool.and_eq_true_iff.mp h1
   have:=Nat.eq_of_beq_eq_true h2
   have:=ub h3
   subst_vars
   symm
   obtain ⟨q0,q0,q0,q0,t,u,v,rfl,a,b,c⟩:=i
   symm
   exact .row t u v a b c
 | dk k q=>
  symm
  obtain ⟨k',g,rfl,h1⟩:=vf h
  obtain ⟨h2,h3⟩:=Bool.and_eq_true_iff.mp h1
  obtain ⟨j,h4,h5⟩:=kU h2
  have:=Nat.eq_of_beq_eq_true h5
  subst this
  obtain ⟨q0,q0,q0,q0,a,b,c,d,e⟩:=i
  symm
  exact .dk (rn.as _ _ _ h4 a) (gP rn h3 b) c d e
 | riter a n=>
  rcases iZ h with ⟨_,_,_,h1⟩ | ⟨_,_,_,h1⟩ | ⟨a',n',rfl,h1⟩
  ·cases h1
  ·cases h1
  ·obtain ⟨h2,h3⟩:=Bool.and_eq_true_iff.mp h1
   have:=Nat.eq_of_beq_eq_true h2
   have:=Nat.eq_of_beq_eq_true h3
   subst_vars
   exact .riter rfl
end
def LQ(l:List PO):Nat->GO:=@List.rec PO (fun q0=>Nat->GO) (fun q0=>.junk) (fun p q0 ih n=>@Nat.rec (fun q0=>GO) p.g (fun n q0=>ih n) n) l
theorem zw:∀{l:List PO} {n:Nat} {p:PO},l[n]?=some p->LQ l n=p.g
 | [],n,p,h=>by simp at h
 | q::l,0,p,h=>by simp at h; subst h; rfl
 | q::l,n+1,p,h=>by rw [List.getElem?_cons_succ] at h; exact zw (l:=l) h
def uX(f:Nat):(Nat->GO)->Nat->Nat->Nat->Tr:=@Nat.rec (fun q0=>(Nat->GO)->Nat->Nat->Nat->Tr) (fun q0 q0 q0 q0=>.e) (fun q0 ih g n a b=>.n (@Bool.rec (fun q0=>Tr) .e (ih g n (Nat.mul 2 a) (Nat.add a b)) (Nat.ble (Nat.succ (Nat.add a b)) n)) (g b) (@Bool.rec (fun q0=>Tr) .e (ih g n (Nat.mul 2 a) b) (Nat.ble (Nat.succ (Nat.add (Nat.mul 2 a) b)) n))) f
theorem uf{a b:Nat}(h:a<b):Nat.ble (Nat.succ a) b=true:=Nat.ble_eq_true_of_le h
theorem GH(f:Nat):∀(g:Nat->GO) (n a b k:Nat),0<a->a * k+b<n->k<f->(uX f g n a b).get k=g (a * k+b):=by
 induction f with
 | zero=>intro g n a b k _ _ h; exact absurd h (Nat.not_lt_zero k)
 | succ f ih=>
  intro g n a b k ha hn hk
  have e:uX (f+1) g n a b=.n (@Bool.rec (fun q0=>Tr) .e (uX f g n (2 * a) (a+b)) (Nat.ble (Nat.succ (a+b)) n)) (g b) (@Bool.rec (fun q0=>Tr) .e (uX f g n (2 * a) b) (Nat.ble (Nat.succ (2 * a+b)) n)):=rfl
  rw [e,Tr.get_n]
  by_cases h0:k=0
  ·subst h0; rw [if_pos rfl,Nat.mul_zero,Nat.zero_add]
  ·rw [if_neg h0]
   have h3:=Nat.pos_of_ne_zero h0
   have lf:k / 2<f:=Nat.lt_of_lt_of_le (Nat.div_lt_self h3 (Nat.le_refl 2)) (Nat.le_of_lt_succ hk)
   have dm:=Nat.div_add_mod k 2
   have h2a:0<2 * a:=Nat.mul_pos (Nat.succ_pos 1) ha
   by_cases h2:k % 2=0
   ·rw [if_pos h2]
    rw [h2] at dm
    have e2:2 * a * (k / 2)=a * k:=by rw [Nat.mul_comm 2 a,Nat.mul_assoc]; exact congrArg (a * ·) dm
    have hq:0<k / 2:=Nat.pos_of_ne_zero fun q=>h0 (by rw [<- dm,q])
    have le:2 * a<=a * k:=e2▸Nat.le_mul_of_pos_right _ hq
    rw [uf (Nat.lt_of_le_of_lt (Nat.add_le_add_right le b) hn)]
    show (uX f g n (2 * a) b).get (k / 2)=_
    rw [ih g n (2 * a) b (k / 2) h2a (by rw [e2]; exact hn) lf,e2]
   ·rw [if_neg h2]
    rw [Nat.mod_two_ne_zero.mp h2] at dm
    have e2:2 * a * (k / 2)+(a+b)=a * k+b:=by
     rw [<- Nat.add_assoc]
     refine congrArg (·+ b) ?_
     have:a * (2 * (k / 2)+1)=a * k:=congrArg (a * ·) dm
     rw [<- this,Nat.mul_add,Nat.mul_one,<- Nat.mul_assoc,Nat.mul_comm a 2]
    rw [uf (Nat.lt_of_le_of_lt (Nat.add_le_add_right (Nat.le_mul_of_pos_right a h3) b) hn)]
    show (uX f g n (2 * a) (a+b)).get (k / 2)=_
    rw [ih g n (2 * a) (a+b) (k / 2) h2a (by rw [e2]; exact hn) lf,e2]
def d8(P:List PO):Tr:=uX 300 (LQ P) P.length 1 0
theorem rT{P:List PO}(hl:P.length<=300){k:Nat}{p:PO}(h:P[k]?=some p):(d8 P).get k=p.g:=by
 have lt:=aN h
 have:=GH 300 (LQ P) P.length 1 0 k (by lia) (by lia) (by lia)
 rw [Nat.one_mul,Nat.add_zero] at this
 unfold d8
 rw [this,zw h]
def yu(σ:Nat)(τ:List GI)(φ:List Fl)(H:Tr)(nx:Nat)(P:List PO)(js:List Nat):Bool:=@List.rec PO (fun q0=>List Nat->Bool) (fun js=>@List.rec Nat (fun q0=>Bool) true (fun q0 q0 q0=>false) js) (fun p q0 ih js=>@List.rec Nat (fun q0=>Bool) false (fun j r q0=>@Bool.rec (fun q0=>Bool) false (ih r) (Nat.ble (Nat.succ j) nx&&CM σ τ φ p (H.get j))) js) P js
theorem xA{σ:Nat}{τ:List GI}{φ:List Fl}{H:Tr}{nx:Nat}:∀{P:List PO} {js:List Nat},yu σ τ φ H nx P js=true->P.length=js.length/\∀(k:Nat) (p:PO) (j:Nat),P[k]?=some p->js[k]?=some j->j<nx/\CM σ τ φ p (H.get j)=true
 | [],js,h=>by
  cases js with
  | nil=>exact ⟨rfl,fun k p j h=>by simp at h⟩
  | cons _ _=>cases h
 | p::P,[],h=>by cases h
 | p::P,j::js,h=>by
  symm
  obtain ⟨h0,h2⟩:=aJ h
  obtain ⟨h1,h3⟩:=Bool.and_eq_true_iff.mp h0
  obtain ⟨l,r⟩:=(xA (P:=P) (js:=js) h2)
  symm
  refine ⟨by simp [l],fun k q i e1 e2=>?_⟩
  cases k with
  | zero=>simp at e1 e2; subst e1 e2; exact ⟨Nat.le_of_ble_eq_true h1,h3⟩
  | succ k=>simp at e1 e2; exact r k q i e1 e2
def xH(c:Bool)(v:Int):Int × Int:=@Bool.rec (fun q0=>Int × Int) (v,v) (0,.ofNat v.toNat) c
def cW:List Bool->List Int->fb
 | c::cs,v::vs=>xH c v::cW cs vs
 | _,_=>[]
def xP(R:Rn)(cs:List Bool)(τ:List GI):Bool:=@List.rec Bool (fun q0=>List GI->Bool) (fun τ=>@List.rec GI (fun q0=>Bool) true (fun q0 q0 q0=>false) τ) (fun c q0 ih τ=>@List.rec GI (fun q0=>Bool) false (fun e r q0=>@Bool.rec (fun q0=>Bool) false (ih r) (@Bool.rec (fun q0=>Bool) true (match e.iv R.bnd with | some b=>!kX b.1 0 | none=>false) c)) τ) cs τ
set_option tactic.hygienic true in
theorem xC{R:Rn}{ns:List Int}(rn:dq R ns):∀{cs:List Bool} {τ:List GI},xP R cs τ=true->cs.length=τ.length/\∀(k:Nat) (b:Int × Int),(cW cs (τ.map (GI.ev ns)))[k]?=some b->∃i,(τ.map (GI.ev ns))[k]?=some i/\b.1<=i/\i<=b.2
 | [],τ,h=>by
  cases τ with
  | nil=>exact ⟨rfl,fun k b h=>by simp [cW] at h⟩
  | cons _ _=>cases h
 | c::cs,[],h=>by cases h
 | c::cs,e::τ,h=>by
  obtain ⟨h1,h2⟩:=aJ h
  obtain ⟨l,r⟩:=(xC rn (cs:=cs) (τ:=τ) h2)
  refine ⟨by simp [l],fun k b hk=>?_⟩
  cases k with
  | succ k=>simp [cW] at hk ⊢; obtain ⟨i,a,q⟩:=(r k b hk); exact ⟨i,by simpa using a,q⟩
  | zero=>
   simp [cW] at hk
   subst hk
   refine ⟨e.ev ns,by simp,?_⟩
   cases c with
   | false=>exact ⟨Int.le_refl _,Int.le_refl _⟩
   | true=>
    have h1:(match e.iv R.bnd with | some b=>!kX b.1 0 | none=>false)=true:=h1
    split at h1
    ·rename_i b hb
     have h3:=GI.iv_ok rn.bnd hb
     have h4:kX b.1 0=false:=by simpa using h1
     have h5:=of_decide_eq_false (jS h4)
     show (0:Int)<=e.ev ns/\e.ev ns<=((e.ev ns).toNat:Int)
     lia
    ·cases h1
theorem sk:∀{cs:List Bool} {vals:List Int} {k:Nat} {c:Bool} {v:Int},cs[k]?=some c->vals[k]?=some v->(cW cs vals)[k]?=some (xH c v)
 | [],_,k,c,v,h,_=>by simp at h
 | _::_,[],k,c,v,_,h=>by simp at h
 | _::_,_::_,0,c,v,h1,h2=>by simp at h1 h2; subst h1 h2; rfl
 | _::cs,_::vals,k+1,c,v,h1,h2=>by
  rw [List.getElem?_cons_succ] at h1 h2
  show (xH _ _::cW cs vals)[k+1]?=_
  rw [List.getElem?_cons_succ]; exact sk h1 h2
def mr(cs:List Bool)(vals:List Int):Prop:=∀(k:Nat) (v:Int),cs[k]?=some true->vals[k]?=some v->0<=v
structure TM (P:List PO) (cs:List Bool) (σ:List Nat) (τ:List GI) (φ:List Fl) (H:Tr) (nx:Nat) (R:Rn):Prop where
 nod:vE σ 0=true
 objs:yu (iF σ) τ φ H nx P σ=true
 cnt:xP R cs τ=true
 few:P.length<=300
section
variable {x:aR} {J:az} {H:Tr} {nx:Nat} {R:Rn} {O:Heap} {L:Addr} {m:Str->Option Value} {s:Shared}
theorem St.anew(S:St x J H nx R O L m s){P:List PO}{cs:List Bool}{σ:List Nat}{τ:List GI}{φ:List Fl}(ok:TM P cs σ τ φ H nx R) :
  ∃J' vals,vals.length=cs.length/\pV J J' (iF σ) τ φ/\St x J' (d8 P) P.length (.mk (cW cs vals) []) O L m s/\J'.ns=vals/\mr cs vals:=by
 obtain ⟨pl,po⟩:=(xA ok.objs)
 obtain ⟨cl,co⟩:=(xC S.rn ok.cnt)
 have sn:=(xj ok.nod).1
 have hx:=S.nx
 have at_:∀(k j:Nat),σ[k]?=some j->∃a,J.as[j]?=some a:=fun k j h=>by
  have lt:k<P.length:=by rw [pl]; exact aN h
  have:=(po k _ j (List.getElem?_eq_getElem lt) h).1
  exact ⟨_,List.getElem?_eq_getElem (by rw [hx]; exact this)⟩
 let J':az:=⟨σ.map fun j=>(J.as[j]?).getD 0,τ.map (GI.ev J.ns),fun k=>match φ[k]? with | some (.f k0)=>J.ds k0 | some (.t l)=>l.map (nt J.ns) | none=>[],J.it⟩
 have as_:∀(k j:Nat) (a:Addr),σ[k]?=some j->J.as[j]?=some a->J'.as[k]?=some a:=fun k j a h1 h2=>by
  show (σ.map fun j=>(J.as[j]?).getD 0)[k]?=_
  rw [List.getElem?_map,h1]
  show some ((J.as[j]?).getD 0)=_
  rw [h2]; rfl
 have rn:pV J J' (iF σ) τ φ:=by
  refine ⟨fun k j a h=>as_ k j a (xu h),fun v e h=>⟨?_,?_⟩,fun k k0 h=>?_,fun k l h=>?_,rfl⟩
  ·show v<(τ.map (GI.ev J.ns)).length
   rw [List.length_map]; exact aN h
  ·show ((τ.map (GI.ev J.ns))[v]?).getD 0=_
   rw [List.getElem?_map,h]; rfl
  ·show (match φ[k]? with | some (.f k0)=>J.ds k0 | some (.t l)=>l.map (nt J.ns) | none=>[])=_
   rw [h]
  ·show (match φ[k]? with | some (.f k0)=>J.ds k0 | some (.t l)=>l.map (nt J.ns) | none=>[])=_
   rw [h]
 have back:∀(k:Nat) (a:Addr),J'.as[k]?=some a->∃j,σ[k]?=some j/\J.as[j]?=some a:=fun k a h=>by
  have h:(σ.map fun j=>(J.as[j]?).getD 0)[k]?=some a:=h
  rw [List.getElem?_map] at h
  obtain ⟨j,h1,h2⟩:=(Option.map_eq_some_iff.mp h)
  obtain ⟨b,hb⟩:=(at_ k j h1)
  rw [hb] at h2
  exact ⟨j,h1,by rw [hb]; exact congrArg some h2⟩
 refine ⟨J',τ.map (GI.ev J.ns),by rw [List.length_map]; exact cl.symm,rn,⟨⟨?_,?_⟩,?_,S.fr,S.gens,⟨fun k b h=>co k b h,?_,fun i j b h=>by cases h⟩⟩,rfl,fun k v h1 h2=>?_⟩
 ·rw [List.nodup_iff_pairwise_ne,List.pairwise_iff_getElem]
  intro i j hi hj lt e
  obtain ⟨a,a1,a2⟩:=(back i _ (List.getElem?_eq_getElem hi))
  obtain ⟨b,b1,b2⟩:=(back j _ (List.getElem?_eq_getElem hj))
  rw [e] at a2
  have:=(List.getElem?_inj (aN a2) S.led.nod).mp (a2.trans b2.symm)
  subst this
  have:=(List.getElem?_inj (aN a1) sn).mp (a1.trans b1.symm)
  lia
 ·obtain ⟨os,hos,el,N⟩:=S.led.at_
  have len':J'.as.length=σ.length:=List.length_map _
  refine ⟨σ.map fun j=>(os[j]?).getD default,fun k o hk=>?_,by rw [len',List.length_map],fun q hq=>?_⟩
  ·rw [List.getElem?_map] at hk
   obtain ⟨j,h1,h2⟩:=(Option.map_eq_some_iff.mp hk)
   obtain ⟨a,ha⟩:=(at_ k j h1)
   have jl:j<os.length:=el▸aN ha
   rw [List.getElem?_eq_getElem jl] at h2
   have h2:os[j]=o:=h2
   have kl:k<P.length:=by rw [pl]; exact aN h1
   have hp:=List.getElem?_eq_getElem kl
   rw [rT ok.few hp]
   exact FL rn (po k _ j hp h1).2 (hos j o (by rw [List.getElem?_eq_getElem jl,h2]))
  ·obtain ⟨k,z1,z2⟩:=(kZ hq)
   obtain ⟨j,b1,b2⟩:=(back k _ z1)
   rw [List.getElem?_map,b1] at z2
   have jl:j<os.length:=el▸aN b2
   have z2:some ((os[j]?).getD default)=some q.2:=z2
   rw [List.getElem?_eq_getElem jl] at z2
   have z2:os[j]=q.2:=Option.some.inj z2
   have zz:=N _ (cn b2 (List.getElem?_eq_getElem jl))
   rw [z2] at zz
   exact zz
 ·show (σ.map _).length=P.length
  rw [List.length_map,pl]
 ·show (τ.map (GI.ev J.ns)).length=(cW cs (τ.map (GI.ev J.ns))).length
  have bl:∀(cs:List Bool) (vs:List Int),cs.length=vs.length->(cW cs vs).length=vs.length:=by
   intro cs
   induction cs with
   | nil=>intro vs h; cases vs with
    | nil=>rfl
    | cons _ _=>simp at h
   | cons c cs ih=>intro vs h; cases vs with
    | nil=>simp at h
    | cons v vs=>simp [cW,ih vs (by simpa using h)]
  rw [bl _ _ (by rw [List.length_map]; exact cl)]
 ·obtain ⟨i,e1,e2,q0⟩:=(co k _ (sk h1 h2))
  rw [h2] at e1; cases e1; exact e2
end
end
section
abbrev UK:=Nat->Nat->List GI->Nat->List Fl->Nat->Bool
abbrev UV:=GV->Nat->Nat->List GI->Nat->List Fl->Nat->UK->Bool
noncomputable def Ap:UV:=fun q0 σ n τ v φ w k=>k σ n τ v φ w
def uvI(i:Nat):UV:=fun g σ n τ v φ w k=>@Bool.rec (fun q0=>Bool) (k σ n τ v φ w) (fR g fun e=>fN (Nat.succ v) fun v'=>k σ n (e::τ) v' φ w) (Nat.beq i v)
def uvO(i:Nat):UV:=fun g σ n τ v φ w k=>@Bool.rec (fun q0=>Bool) (k σ n τ v φ w) (bU g fun j=>fN (Nat.succ n) fun n'=>fN (pE σ n j) fun σ'=>k σ' n' τ v φ w) (Nat.beq i n)
def uV(p:PV):UV:=@PV.rec (fun q0=>UV) Ap Ap (fun q0=>Ap) uvI (fun q0=>Ap) (fun q0=>Ap) uvO p
def uL(ps:List PV):List GV->Nat->Nat->List GI->Nat->List Fl->Nat->UK->Bool:=@List.rec PV (fun q0=>List GV->Nat->Nat->List GI->Nat->List Fl->Nat->UK->Bool) (fun q0 σ n τ v φ w k=>k σ n τ v φ w)
 (fun p q0 ih gs σ n τ v φ w k=>@List.rec GV (fun q0=>Bool) false (fun g r q0=>uV p g σ n τ v φ w fun σ n τ v φ w=>ih r σ n τ v φ w k) gs) ps
def uE(ps:List (Nat × PV)):List (Nat × GV)->Nat->Nat->List GI->Nat->List Fl->Nat->UK->Bool:=@List.rec (Nat × PV) (fun q0=>List (Nat × GV)->Nat->Nat->List GI->Nat->List Fl->Nat->UK->Bool) (fun q0 σ n τ v φ w k=>k σ n τ v φ w)
 (fun p q0 ih gs σ n τ v φ w k=>@List.rec (Nat × GV) (fun q0=>Bool) false (fun g r q0=>uV p.2 g.2 σ n τ v φ w fun σ n τ v φ w=>ih r σ n τ v φ w k) gs) ps
def uI(ps:List (Int × PV)):List (Int × GV)->Nat->Nat->List GI->Nat->List Fl->Nat->UK->Bool:=@List.rec (Int × PV) (fun q0=>List (Int × GV)->Nat->Nat->List GI->Nat->List Fl->Nat->UK->Bool) (fun q0 σ n τ v φ w k=>k σ n τ v φ w)
 (fun p q0 ih gs σ n τ v φ w k=>@List.rec (Int × GV) (fun q0=>Bool) false (fun g r q0=>uV p.2 g.2 σ n τ v φ w fun σ n τ v φ w=>ih r σ n τ v φ w k) gs) ps
def uM(r:List (Int × GV))(ps:List (Int × PV)):Nat->Nat->List GI->Nat->List Fl->Nat->UK->Bool:=@List.rec (Int × PV) (fun q0=>Nat->Nat->List GI->Nat->List Fl->Nat->UK->Bool) (fun σ n τ v φ w k=>k σ n τ v φ w)
 (fun p q0 ih σ n τ v φ w k=>@Bool.rec (fun q0=>Bool) (qZ r p.1 fun g=>uV p.2 g σ n τ v φ w fun σ n τ v φ w=>ih σ n τ v φ w k) (ih σ n τ v φ w k) (vG p.2)) ps
abbrev UT:=GO->Nat->Nat->List GI->Nat->List Fl->Nat->UK->Bool
def uoL(l:List PV):UT:=fun o σ n τ v φ w k=>ef o fun r=>uL l r σ n τ v φ w k
def uoT(l:List PV):UT:=fun o σ n τ v φ w k=>kE o (fun r=>uL l r σ n τ v φ w k) fun q0=>false
def uoI(_ d:Nat):UT:=fun o σ n τ v φ w k=>hV o fun q0 j=>@Bool.rec (fun q0=>Bool) (k σ n τ v φ w) (fN (Nat.succ n) fun n'=>fN (pE σ n j) fun σ'=>k σ' n' τ v φ w) (Nat.beq d n)
def uoD(es:List (Nat × PV)):UT:=fun o σ n τ v φ w k=>eM o fun r=>uE es r σ n τ v φ w k
def uoS(es:List (Nat × PV)):UT:=fun o σ n τ v φ w k=>oF o false (fun q0=>false) (fun r=>uE es r σ n τ v φ w k) false
def uoN(es:List (Int × PV)):UT:=fun o σ n τ v φ w k=>oF o false (fun r=>uI es r σ n τ v φ w k) (fun q0=>false) false
noncomputable def w4:UT:=fun q0 σ n τ v φ w k=>k σ n τ v φ w
def uoF(i:Nat):UT:=fun o σ n τ v φ w k=>@Bool.rec (fun q0=>Bool) (k σ n τ v φ w) (kE o (fun l=>fN (Nat.succ w) fun w'=>k σ n τ v (.t l::φ) w') fun q=>fN (Nat.succ w) fun w'=>k σ n τ v (.f q::φ) w') (Nat.beq i w)
def uoM(es:List (Int × PV)):UT:=fun o σ n τ v φ w k=>yj o (k σ n τ v φ w) (fun r=>uM r es σ n τ v φ w k) fun r=>uM r es σ n τ v φ w k
def uoK(i:Nat)(q:PV):UT:=fun o σ n τ v φ w k=>yb o fun j g=>uV (.own i) (.own j) σ n τ v φ w fun σ n τ v φ w=>uV q g σ n τ v φ w k
def uO(p:PO):UT:=@PO.rec (fun q0=>UT) uoL uoT uoI uoD uoS uoN w4 uoF w4 uoM w4 (fun q0=>w4) (fun q0 q0=>w4) uoK (fun q0 q0=>w4) p
def uP(H:Tr)(P:List PO):Nat->Nat->Nat->List GI->Nat->List Fl->Nat->UK->Bool:=@List.rec PO (fun q0=>Nat->Nat->Nat->List GI->Nat->List Fl->Nat->UK->Bool) (fun q0 σ n τ v φ w k=>k σ n τ v φ w)
 (fun p q0 ih i σ n τ v φ w k=>oI σ i fun j=>uO p (H.get j) σ n τ v φ w fun σ n τ v φ w=>fN (Nat.succ i) fun i'=>ih i' σ n τ v φ w k) P
def yC{α:Type}(l:List α):List α->List α:=@List.rec α (fun q0=>List α->List α) (fun r=>r) (fun a q0 ih r=>ih (a::r)) l
structure eh where
 P:List PO
 cs:List Bool
 rt:List (Option PV)
def uR(rt:List (Option PV)):List GV->Nat->Nat->List GI->Nat->List Fl->Nat->UK->Bool:=@List.rec (Option PV) (fun q0=>List GV->Nat->Nat->List GI->Nat->List Fl->Nat->UK->Bool) (fun q0 σ n τ v φ w k=>k σ n τ v φ w)
 (fun p q0 ih gs σ n τ v φ w k=>@List.rec GV (fun q0=>Bool) false (fun g r q0=>@Option.rec PV (fun q0=>Bool) (ih r σ n τ v φ w k) (fun p=>uV p g σ n τ v φ w fun σ n τ v φ w=>ih r σ n τ v φ w k) p) gs) rt
def Ce(σ:Nat)(τ:List GI)(rt:List (Option PV)):List GV->Bool:=@List.rec (Option PV) (fun q0=>List GV->Bool) (fun q0=>true) (fun p q0 ih gs=>@List.rec GV (fun q0=>Bool) false (fun g r q0=>@Bool.rec (fun q0=>Bool) false (ih r) (@Option.rec PV (fun q0=>Bool) true (fun p=>lr σ τ p g) p)) gs) rt
def ew(rt:List (Option PV)):List GV:=@List.rec (Option PV) (fun q0=>List GV) [] (fun p q0 ih=>@Option.rec PV (fun q0=>GV) .nul (fun p=>p.g) p::ih) rt
theorem rb{σ:Nat}{τ:List GI}:∀{rt:List (Option PV)} {gs:List GV},Ce σ τ rt gs=true->∀j,aZ (ew rt) j=.nul∨∃p,aZ (ew rt) j=p.g/\lr σ τ p (aZ gs j)=true
 | [],gs,h,j=>.inl (by cases j <;> rfl)
 | p::rt,[],h,j=>by cases h
 | p::rt,g::gs,h,j=>by
  obtain ⟨h1,h2⟩:=aJ h
  cases j with
  | zero=>
   cases p with
   | none=>exact .inl rfl
   | some p=>exact .inr ⟨p,rfl,h1⟩
  | succ j=>exact rb (rt:=rt) (gs:=gs) h2 j
def uy(pat:eh)(H:Tr)(nx:Nat)(R:Rn)(loc:List GV)(kk:Bool):Bool:=
 uR pat.rt loc 0 0 [] 0 [] 0 fun σ n τ v φ w=>uP H pat.P 0 σ n τ v φ w fun σ n τ v φ w=>xQ n σ fun js=>fN (iF js) fun z=>
  (fun τ φ=>@Bool.rec (fun q0=>Bool) false kk (Nat.ble pat.P.length 300&&vE js 0&&xP R pat.cs τ&&Ce z τ pat.rt loc&&yu z τ φ H nx pat.P js)) (yC τ []) (yC φ [])
theorem lq{p:PV}{g:GV}{σ:Nat}{n:Nat}{τ:List GI}{v:Nat}{φ:List Fl}{w:Nat}{k:UK}(h:uV p g σ n τ v φ w k=true):∃σ n τ v φ w,k σ n τ v φ w=true:=by
 cases p with
 | int i=>
  have h:@Bool.rec (fun q0=>Bool) (k σ n τ v φ w) (fR g fun e=>fN (Nat.succ v) fun v'=>k σ n (e::τ) v' φ w) (Nat.beq i v)=true:=h
  cases q:Nat.beq i v with
  | false=>rw [q] at h; exact ⟨_,_,_,_,_,_,h⟩
  | true=>rw [q] at h; obtain ⟨e,q0,h⟩:=dA h; rw [bP] at h; exact ⟨_,_,_,_,_,_,h⟩
 | own i=>
  have h:@Bool.rec (fun q0=>Bool) (k σ n τ v φ w) (bU g fun j=>fN (Nat.succ n) fun n'=>fN (pE σ n j) fun σ'=>k σ' n' τ v φ w) (Nat.beq i n)=true:=h
  cases q:Nat.beq i n with
  | false=>rw [q] at h; exact ⟨_,_,_,_,_,_,h⟩
  | true=>rw [q] at h; obtain ⟨e,q0,h⟩:=bn h; rw [bP,bP] at h; exact ⟨_,_,_,_,_,_,h⟩
 | _=>exact ⟨_,_,_,_,_,_,h⟩
theorem yG{k:UK}:∀{ps:List PV} {gs:List GV} {σ:Nat} {n:Nat} {τ:List GI} {v:Nat} {φ:List Fl} {w:Nat},uL ps gs σ n τ v φ w k=true->∃σ n τ v φ w,k σ n τ v φ w=true
 | [],gs,σ,n,τ,v,φ,w,h=>⟨_,_,_,_,_,_,h⟩
 | p::ps,[],σ,n,τ,v,φ,w,h=>by cases h
 | p::ps,g::gs,σ,n,τ,v,φ,w,h=>by
  obtain ⟨q0,q0,q0,q0,q0,q0,h⟩:=(lq (p:=p) (g:=g) (σ:=σ) (n:=n) (τ:=τ) (v:=v) (φ:=φ) (w:=w) (k:=fun σ n τ v φ w=>uL ps gs σ n τ v φ w k) h)
  exact yG (ps:=ps) (gs:=gs) h
theorem za{k:UK}:∀{ps:List (Nat × PV)} {gs:List (Nat × GV)} {σ:Nat} {n:Nat} {τ:List GI} {v:Nat} {φ:List Fl} {w:Nat},uE ps gs σ n τ v φ w k=true->∃σ n τ v φ w,k σ n τ v φ w=true
 | [],gs,σ,n,τ,v,φ,w,h=>⟨_,_,_,_,_,_,h⟩
 | p::ps,[],σ,n,τ,v,φ,w,h=>by cases h
 | p::ps,g::gs,σ,n,τ,v,φ,w,h=>by
  obtain ⟨q0,q0,q0,q0,q0,q0,h⟩:=(lq (p:=p.2) (g:=g.2) (σ:=σ) (n:=n) (τ:=τ) (v:=v) (φ:=φ) (w:=w) (k:=fun σ n τ v φ w=>uE ps gs σ n τ v φ w k) h)
  exact za (ps:=ps) (gs:=gs) h
theorem Fc{k:UK}:∀{ps:List (Int × PV)} {gs:List (Int × GV)} {σ:Nat} {n:Nat} {τ:List GI} {v:Nat} {φ:List Fl} {w:Nat},uI ps gs σ n τ v φ w k=true->∃σ n τ v φ w,k σ n τ v φ w=true
 | [],gs,σ,n,τ,v,φ,w,h=>⟨_,_,_,_,_,_,h⟩
 | p::ps,[],σ,n,τ,v,φ,w,h=>by cases h
 | p::ps,g::gs,σ,n,τ,v,φ,w,h=>by
  obtain ⟨q0,q0,q0,q0,q0,q0,h⟩:=(lq (p:=p.2) (g:=g.2) (σ:=σ) (n:=n) (τ:=τ) (v:=v) (φ:=φ) (w:=w) (k:=fun σ n τ v φ w=>uI ps gs σ n τ v φ w k) h)
  exact Fc (ps:=ps) (gs:=gs) h
theorem sN{k:UK}{r:List (Int × GV)}:∀{ps:List (Int × PV)} {σ:Nat} {n:Nat} {τ:List GI} {v:Nat} {φ:List Fl} {w:Nat},uM r ps σ n τ v φ w k=true->∃σ n τ v φ w,k σ n τ v φ w=true
 | [],σ,n,τ,v,φ,w,h=>⟨_,_,_,_,_,_,h⟩
 | p::ps,σ,n,τ,v,φ,w,h=>by
  have h:@Bool.rec (fun q0=>Bool) (qZ r p.1 fun g=>uV p.2 g σ n τ v φ w fun σ n τ v φ w=>uM r ps σ n τ v φ w k) (uM r ps σ n τ v φ w k) (vG p.2)=true:=h
  cases q:vG p.2 with
  | true=>rw [q] at h; exact sN (ps:=ps) h
  | false=>
   rw [q] at h
   obtain ⟨g,q0,h⟩:=ny (l:=r) (z:=p.1) (k:=fun g=>uV p.2 g σ n τ v φ w fun σ n τ v φ w=>uM r ps σ n τ v φ w k) h
   obtain ⟨q0,q0,q0,q0,q0,q0,h⟩:=(lq h)
   exact sN (ps:=ps) h
theorem FQ{o:GO}{k0:Bool}{ki km:List (Int × GV)->Bool}(h:yj o k0 ki km=true):k0=true∨(∃l,ki l=true)∨∃l,km l=true:=by
 cases o <;> first | (cases h; done) | exact .inl h | exact .inr (.inl ⟨_,h⟩) | exact .inr (.inr ⟨_,h⟩)
theorem xg{o:GO}{k0:Bool}{ki:List (Int × GV)->Bool}{ks:List (Nat × GV)->Bool}{kit:Bool}(h:oF o k0 ki ks kit=true):k0=true∨(∃l,ki l=true)∨(∃l,ks l=true)∨kit=true:=by
 cases o <;> first | (cases h; done) | exact .inl h | exact .inr (.inl ⟨_,h⟩) | exact .inr (.inr (.inl ⟨_,h⟩)) | exact .inr (.inr (.inr h))
theorem RU{p:PO}{o:GO}{σ:Nat}{n:Nat}{τ:List GI}{v:Nat}{φ:List Fl}{w:Nat}{k:UK}(h:uO p o σ n τ v φ w k=true):∃σ n τ v φ w,k σ n τ v φ w=true:=by
 cases p with
 | list l=>obtain ⟨r,q0,h⟩:=cY h; exact yG h
 | tuple l=>
  rcases eU h with ⟨r,_,h⟩ | ⟨q,_,h⟩
  ·exact yG h
  ·cases h
 | inst C d=>
  obtain ⟨q0,j,q0,h⟩:=fg h
  have h:@Bool.rec (fun q0=>Bool) (k σ n τ v φ w) (fN (Nat.succ n) fun n'=>fN (pE σ n j) fun σ'=>k σ' n' τ v φ w) (Nat.beq d n)=true:=h
  cases q:Nat.beq d n with
  | false=>rw [q] at h; exact ⟨_,_,_,_,_,_,h⟩
  | true=>rw [q] at h; rw [bP,bP] at h; exact ⟨_,_,_,_,_,_,h⟩
 | idict es=>obtain ⟨r,q0,h⟩:=dL h; exact za h
 | ds es=>
  rcases xg h with h | ⟨_,h⟩ | ⟨_,h⟩ | h
  ·cases h
  ·cases h
  ·exact za h
  ·cases h
 | di es=>
  rcases xg h with h | ⟨_,h⟩ | ⟨_,h⟩ | h
  ·cases h
  ·exact Fc h
  ·cases h
  ·cases h
 | d0=>exact ⟨_,_,_,_,_,_,h⟩
 | flat i=>
  have h:@Bool.rec (fun q0=>Bool) (k σ n τ v φ w) (kE o (fun l=>fN (Nat.succ w) fun w'=>k σ n τ v (.t l::φ) w') fun q=>fN (Nat.succ w) fun w'=>k σ n τ v (.f q::φ) w') (Nat.beq i w)=true:=h
  cases q:Nat.beq i w with
  | false=>rw [q] at h; exact ⟨_,_,_,_,_,_,h⟩
  | true=>
   rw [q] at h
   rcases eU h with ⟨r,_,h⟩ | ⟨q,_,h⟩
   ·rw [bP] at h; exact ⟨_,_,_,_,_,_,h⟩
   ·rw [bP] at h; exact ⟨_,_,_,_,_,_,h⟩
 | oit=>exact ⟨_,_,_,_,_,_,h⟩
 | dm es=>
  rcases FQ h with h | ⟨_,h⟩ | ⟨_,h⟩
  ·exact ⟨_,_,_,_,_,_,h⟩
  ·exact sN h
  ·exact sN h
 | junk=>exact ⟨_,_,_,_,_,_,h⟩
 | pool f=>exact ⟨_,_,_,_,_,_,h⟩
 | row a b=>exact ⟨_,_,_,_,_,_,h⟩
 | riter a b=>exact ⟨_,_,_,_,_,_,h⟩
 | dk i q=>
  obtain ⟨j,g,q0,h⟩:=vf h
  obtain ⟨q0,q0,q0,q0,q0,q0,h⟩:=(lq (p:=.own i) (g:=.own j) (k:=fun σ n τ v φ w=>uV q g σ n τ v φ w k) h)
  exact lq h
theorem xY{H:Tr}{k:UK}:∀{P:List PO} {i:Nat} {σ:Nat} {n:Nat} {τ:List GI} {v:Nat} {φ:List Fl} {w:Nat},uP H P i σ n τ v φ w k=true->∃σ n τ v φ w,k σ n τ v φ w=true
 | [],i,σ,n,τ,v,φ,w,h=>⟨_,_,_,_,_,_,h⟩
 | p::P,i,σ,n,τ,v,φ,w,h=>by
  obtain ⟨j,q0,h⟩:=kU (z:=σ) (k:=i) (f:=fun j=>uO p (H.get j) σ n τ v φ w fun σ n τ v φ w=>fN (Nat.succ i) fun i'=>uP H P i' σ n τ v φ w k) h
  obtain ⟨q0,q0,q0,q0,q0,q0,h⟩:=(RU h)
  rw [bP] at h
  exact xY (P:=P) h
theorem th{k:UK}:∀{rt:List (Option PV)} {gs:List GV} {σ:Nat} {n:Nat} {τ:List GI} {v:Nat} {φ:List Fl} {w:Nat},uR rt gs σ n τ v φ w k=true->∃σ n τ v φ w,k σ n τ v φ w=true
 | [],gs,σ,n,τ,v,φ,w,h=>⟨_,_,_,_,_,_,h⟩
 | p::rt,[],σ,n,τ,v,φ,w,h=>by cases h
 | none::rt,g::gs,σ,n,τ,v,φ,w,h=>th (rt:=rt) (gs:=gs) h
 | some p::rt,g::gs,σ,n,τ,v,φ,w,h=>by
  obtain ⟨q0,q0,q0,q0,q0,q0,h⟩:=(lq (p:=p) (g:=g) (σ:=σ) (n:=n) (τ:=τ) (v:=v) (φ:=φ) (w:=w) (k:=fun σ n τ v φ w=>uR rt gs σ n τ v φ w k) h)
  exact th (rt:=rt) (gs:=gs) h
section
variable {x:aR} {J:az} {H:Tr} {nx:Nat} {R:Rn} {O:Heap} {L:Addr} {m:Str->Option Value} {s:Shared} {vs:aq} {env:Env} {loc:List GV}
structure UU (x:aR) (pat:eh) (vs:aq) (env:Env) (O:Heap) (L:Addr) (m:Str->Option Value) (s:Shared) (it:Addr × Nat):Prop where
 ex:∃J vals,vals.length=pat.cs.length/\St x J (d8 pat.P) pat.P.length (.mk (cW pat.cs vals) []) O L m s/\bq x J env L m vs (ew pat.rt)/\J.it=it
theorem zB{pat:eh}{kk:Bool}(h:uy pat H nx R loc kk=true)(hvs:(vs.all fun p=>match p.2 with | .loc=>true | .glo=>true | _=>false)=true)(S:St x J H nx R O L m s)(Lo:bq x J env L m vs loc) :
  kk=true/\UU x pat vs env O L m s J.it:=by
 obtain ⟨q0,q0,q0,q0,q0,q0,h⟩:=(th h)
 obtain ⟨σ0,q0,τ0,q0,φ0,q0,h⟩:=(xY h)
 obtain ⟨js,h⟩:=(rc h)
 rw [bP] at h
 obtain ⟨h1,h2⟩:=aJ h
 simp only [Bool.and_eq_true] at h1
 obtain ⟨⟨⟨⟨a1,a2⟩,a3⟩,a4⟩,a5⟩:=h1
 obtain ⟨J',vals,l,rn,S',q0,q0⟩:=(S.anew ⟨a2,a5,a3,Nat.le_of_ble_eq_true a1⟩)
 refine ⟨h2,⟨J',vals,l,S',fun j i kd hj=>?_,rn.it⟩⟩
 obtain ⟨t,ht,hd,sl⟩:=(Lo j i kd hj)
 refine ⟨t,ht,hd,?_⟩
 have hk:=List.all_eq_true.mp hvs _ (List.mem_of_getElem? hj)
 cases kd with
 | cel=>cases hk
 | blk=>cases hk
 | glo=>exact sl
 | loc=>
  refine ⟨sl.1,sl.2.1,fun n=>?_⟩
  rcases rb a4 j with q | ⟨p,q1,q2⟩
  ·exact absurd q n
  ·have ne:aZ loc j≠.nul:=fun e=>by
    rw [e] at q2
    cases p <;> cases q2
   obtain ⟨v,v1,v2⟩:=(sl.2.2 ne)
   exact ⟨v,v1,by rw [q1]; exact gP rn q2 v2⟩
end
end
section
section
variable {x:aR} {d:Nat} {vs:aq} {J:az} {H:Tr} {nx:Nat} {R:Rn} {O:Heap} {L:Addr} {m:Str->Option Value} {s:Shared} {A:Around} {E:Value->Shared->Prop} {env:Env} {loc:List GV}
theorem lY{a:AV}{f:EV}{r:SV}{t e:Expr}{rest:List Stmt}(ha:dQ x d vs a t)(hf:aK x d vs f e)(hr:au x d vs r rest)(h1:∀line env,swapsWithSole [t] e line env=pure false)(h2:i8 t=true)(h3:bZ t=true)(pos:Pos):au x d vs (aB a f r) (.Assign [t] e pos::rest):=by
 intro H nx R loc k h A env O L m J s Q E Hh En S Lo hQ
 refine ec hr Hh En hQ ?_
 refine wpAny_Assign_stores (hf H nx R loc _ h A env O L m J s _ E Hh En S Lo fun J1 H1 nx1 R1 s1 g v le1 S1 i1 hk=>?_) (h1 _ _) ?_
 ·rw [cU h3 env]
  exact ha g H1 nx1 R1 loc _ hk A env O L m J1 s1 v _ E Hh En S1 (Lo.more le1) i1 fun J2 H2 nx2 R2 loc2 m2 s2 le2 S2 Lo2 hk2=>ed (le1.trans le2) S2 Lo2 hk2
 ·exact iR (.inl h2) _
def O8:ce:=fun gs H nx R k=>jo gs fun g=>gB g fun b=>@Bool.rec (fun q0=>Bool) (k (.int (.lit (.ofNat 0))) H nx R) (k (.int (.lit (.ofNat 1))) H nx R) b
theorem GT:cL x d O8 (.type "int"):=by
 intro gs H nx R k h A O L m J s us Q E Hh S iu hQ
 symm
 obtain ⟨g,rfl,h⟩:=fy h
 obtain ⟨b,rfl,h⟩:=qb h
 cases iu with
 | cons i r=>
 cases r
 cases i
 symm
 refine call_int_bool ?_
 cases b with
 | true=>exact hQ J H nx R _ _ _ (.refl _) (S.tok _) (.int (e:=.lit (.ofNat 1)) _ trivial) h
 | false=>exact hQ J H nx R _ _ _ (.refl _) (S.tok _) (.int (e:=.lit (.ofNat 0)) _ trivial) h
def vw(o:GO)(k0:Bool)(k:List (Int × GV)->Bool):Bool:=yj o k0 k k
theorem rQ{o:GO}{k0:Bool}{k:List (Int × GV)->Bool}(h:vw o k0 k=true):(o=.d0/\k0=true)∨(∃es,o=.di es/\k es=true)∨∃es,o=.dm es/\k es=true:=by
 cases o <;> first | (cases h; done) | exact .inl ⟨rfl,h⟩ | exact .inr (.inl ⟨_,rfl,h⟩) | exact .inr (.inr ⟨_,rfl,h⟩)
def eQ(l:List (Int × GV))(i:Int)(n:GV):GV:=@List.rec (Int × GV) (fun q0=>GV) n (fun p q0 ih=>@Bool.rec (fun q0=>GV) ih p.2 (cV p.1 i)) l
def tj(i:Nat):ce:=fun gs H nx R k=>@List.rec GV (fun q0=>Bool) false (fun g r q0=>eG g fun z=>@List.rec GV (fun q0=>Bool) (vw (H.get i) (k .none H nx R) fun es=>k (eQ es z .none) H nx R) (fun g r2 q0=>eH g (@Bool.rec (fun q0=>Bool) false (vw (H.get i) (k g H nx R) fun es=>k (eQ es z g) H nx R) (j7 r2))) r) gs
theorem eI.atN{T:List Str}{J:az}{z:Int}{g:GV}{v:Value}(hg:Is T J g v):∀{es:List (Int × GV)} {ds:List (Int × Value)},eI T J es ds->Is T J (eQ es z g) ((valueAt ds z).getD v)
 | _,_,.nil=>hg
 | _,_,@eI.cons _ _ i g' w es ds a r=>by
  have e:eQ ((i,g')::es) z g=@Bool.rec (fun q0=>GV) (eQ es z g) g' (cV i z):=rfl
  have e2:valueAt ((i,w)::ds) z=if i=z then some w else valueAt ds z:=by
   unfold valueAt
   rw [List.find?_cons]
   by_cases q:i=z <;> simp [q]
  rw [e,e2]
  cases q:cV i z with
  | true=>
   have:i=z:=eq_of_beq (cr q)
   rw [if_pos this]; exact a
  | false=>
   have:i≠z:=by have:=cr q; simpa using this
   rw [if_neg this]; exact eI.atN hg r
theorem nF{z:Int}{g:GV}:∀{es:List (Int × GV)},es.lookup z=none->eQ es z g=g
 | [],_=>rfl
 | (a,b)::es,h=>by
  have e:eQ ((a,b)::es) z g=@Bool.rec (fun q0=>GV) (eQ es z g) b (cV a z):=rfl
  rw [List.lookup_cons] at h
  rw [e]
  cases q:z == a with
  | true=>rw [q] at h; cases h
  | false=>
   rw [q] at h
   have:cV a z=false:=by
    cases q2:cV a z with
    | false=>rfl
    | true=>have:a=z:=eq_of_beq (cr q2); subst this; simp at q
   rw [this]; exact nF h
theorem nE{z:Int}{g b:GV}:∀{es:List (Int × GV)},es.lookup z=some b->eQ es z g=b
 | [],h=>by cases h
 | (a,c)::es,h=>by
  have e:eQ ((a,c)::es) z g=@Bool.rec (fun q0=>GV) (eQ es z g) c (cV a z):=rfl
  rw [List.lookup_cons] at h
  rw [e]
  cases q:z == a with
  | true=>
   rw [q] at h
   have:z=a:=eq_of_beq q
   subst this
   have:cV z z=true:=by
    cases q2:cV z z with
    | true=>rfl
    | false=>have:=cr q2; simp at this
   rw [this]; cases h; rfl
  | false=>
   rw [q] at h
   have:cV a z=false:=by
    cases q2:cV a z with
    | false=>rfl
    | true=>have:a=z:=eq_of_beq (cr q2); subst this; simp at q
   rw [this]; exact nE h
theorem DM.atN{T:List Str}{J:az}{z:Int}{g:GV}{v:Value}(hg:Is T J g v){es:List (Int × GV)}{ds:List (Int × Value)}(h:DM T J es ds):Is T J (eQ es z g) ((valueAt ds z).getD v):=by
 cases q:es.lookup z with
 | none=>rw [nF q,h.2 z q]; exact hg
 | some b=>
  rw [nE q]
  rcases h.1 z b q with rfl | ⟨w,a,i⟩
  ·exact .unk _
  ·rw [a]; exact i
def Uj(op:Nat->ce)(f:EV)(l:LV):EV:=fun H nx R loc k=>f H nx R loc fun g H nx R=>bU g fun i=>vw (H.get i) (l H nx R loc fun gs H nx R=>op i gs H nx R k) fun q0=>l H nx R loc fun gs H nx R=>op i gs H nx R k
theorem Cy(hM:jc x):oy x d "dict.get" tj:=by
 intro i gs H nx R k h A O L m J s a us Q E Hh S ha iu hQ
 cases gs with
 | nil=>cases h
 | cons g r=>
 obtain ⟨z,rfl,h⟩:=cR h
 obtain ⟨os,hos,el,N⟩:=S.led.at_
 have il:i<os.length:=el▸aN ha
 have hp:=cn ha (List.getElem?_eq_getElem il)
 have ob:=hos i _ (List.getElem?_eq_getElem il)
 have zz:=N _ hp
 have nm:=qI hM Hh zz.2.2
 cases iu with
 | cons i1 i2=>
 obtain ⟨t,rfl,ok1⟩:=i1
 cases r with
 | nil=>
  cases i2
  rcases rQ (show vw (H.get i) (k .none H nx R) (fun es=>k (eQ es z .none) H nx R)=true from h) with ⟨e,h⟩ | ⟨es,e,h⟩ | ⟨es,e,h⟩
  ·rw [e] at ob
   obtain ⟨a1,a2⟩:=ob
   exact kdg_get1 N hp a1 nm (k:=z) (beq_self_eq_true z) none rfl (hQ J H nx R _ _ _ (.refl _) (S.tok _) .none h)
  ·rw [e] at ob
   obtain ⟨ds,a1,a2⟩:=ob
   have ii:=eI.atN (z:=z) (Is.none (T:=x.T) (J:=J)) a2
   exact kdg_get1 N hp a1 nm (k:=z) (beq_self_eq_true z) _ rfl (hQ J H nx R _ _ _ (.refl _) (S.tok _) ii h)
  ·rw [e] at ob
   obtain ⟨ds,a1,a2⟩:=ob
   have ii:=DM.atN (z:=z) (Is.none (T:=x.T) (J:=J)) a2
   exact kdg_get1 N hp a1 nm (k:=z) (beq_self_eq_true z) _ rfl (hQ J H nx R _ _ _ (.refl _) (S.tok _) ii h)
 | cons g r=>
  cases i2 with
  | cons i2 i3=>
  obtain ⟨n,h1⟩:=cQ h
  obtain ⟨hn,h9⟩:=aJ h1
  cases i3 with
  | cons _ _=>cases hn
  | nil=>
  rcases rQ h9 with ⟨e,h⟩ | ⟨es,e,h⟩ | ⟨es,e,h⟩
  ·rw [e] at ob
   obtain ⟨a1,a2⟩:=ob
   exact kdg_get2 N hp a1 nm (k:=z) (beq_self_eq_true z) none rfl (hQ J H nx R _ _ _ (.refl _) (S.tok _) i2 h)
  ·rw [e] at ob
   obtain ⟨ds,a1,a2⟩:=ob
   have ii:=eI.atN (z:=z) i2 a2
   exact kdg_get2 N hp a1 nm (k:=z) (beq_self_eq_true z) _ rfl (hQ J H nx R _ _ _ (.refl _) (S.tok _) ii h)
  ·rw [e] at ob
   obtain ⟨ds,a1,a2⟩:=ob
   have ii:=DM.atN (z:=z) i2 a2
   exact kdg_get2 N hp a1 nm (k:=z) (beq_self_eq_true z) _ rfl (hQ J H nx R _ _ _ (.refl _) (S.tok _) ii h)
theorem MG(hM:jc x){f:EV}{o:Expr}{l:LV}{es:List Expr}(hf:aK x d vs f o)(hl:eg x d vs l es)
  (hc:jb o=true) (hp:bx es=true) {apos pos:Pos} (hline:(apos.endLine == pos.line)=true) (hn:es.length<30):aK x d vs (Uj tj f l) (.Call (.Attribute o "get" apos) es [] pos):=by
 intro H nx R loc k h A env O L m J s Q E Hh En S Lo hQ
 refine fc hc hp hline hn (hf H nx R loc _ h A env O L m J s _ E Hh En S Lo fun J1 H1 nx1 R1 s1 g v1 le1 S1 i1 h1 pl=>?_)
 symm
 obtain ⟨i,rfl,h2⟩:=bn h1
 obtain ⟨a,rfl,ha⟩:=i1
 obtain ⟨os,hos,el,N⟩:=S1.led.at_
 symm
 have il:i<os.length:=el▸aN ha
 have hm:=cn ha (List.getElem?_eq_getElem il)
 have ob:=hos i _ (List.getElem?_eq_getElem il)
 have fin:∀h3,l H1 nx1 R1 loc (fun gs H nx R=>tj i gs H nx R k)=true->h3=true->wpAny (model x.prog x.w) A (callWith pos (.builtin "dict.get") [.ref a] (backTo pos (starEach es env)) []) Q E s1:=fun q0 h3 q0=>
  fq hl hp h3 Hh En S1 (Lo.more le1) fun J' H nx R s gs us le S' iu hk'=>Cy hM i gs H nx R k hk' A O L m J' s _ us Q E Hh S' (aE le.1 ha) iu (hQ.le (le1.trans le))
 rcases rQ h2 with ⟨e,h3⟩ | ⟨es',e,h3⟩ | ⟨es',e,h3⟩
 ·rw [e] at ob
  obtain ⟨a1,a2⟩:=ob
  exact kdg_method N hm a1 (fin true h3 rfl)
 ·rw [e] at ob
  obtain ⟨q0,a1,a2⟩:=ob
  exact kdg_method N hm a1 (fin true h3 rfl)
 ·rw [e] at ob
  obtain ⟨q0,a1,a2⟩:=ob
  exact kdg_method N hm a1 (fin true h3 rfl)
end
end
section
section
variable {x:aR} {d:Nat} {vs:aq} {J:az} {H:Tr} {nx:Nat} {R:Rn} {O:Heap} {L:Addr} {m:Str->Option Value} {s:Shared} {A:Around} {E:Value->Shared->Prop} {env:Env} {loc:List GV}
theorem St.parts{o':Obj}{h':Heap}{i:Nat}{a:Addr}(S:St x J H nx R O L m s)(ha:J.as[i]?=some a)(he:Heap.ExtBut a s.heap h')(ho:h'.get? a=some o') :
  ∃os,(∀k o,os[k]?=some o->k≠i->aL x.T x.CT x.nd (x.prog,x.w) J (H.get k) o)/\os[i]?=some o'/\J.as.length=os.length/\News O L h' (J.as.zip os)/\Fr O L h' m:=by
 obtain ⟨os,hos,el,N⟩:=S.led.at_
 have il:i<os.length:=el▸aN ha
 have hoi:=List.getElem?_eq_getElem il
 obtain ⟨q1,q2,q3⟩:=(N _ (cn ha hoi))
 have N':News O L h' (J.as.zip (os.set i o')):=by
  obtain ⟨pre,post,e1,e2,p1,p2⟩:=(ey (o':=o') S.led.nod ha hoi).split
  rw [e2]
  rw [e1] at N
  intro p hp
  rcases List.mem_append.mp hp with hp | hp
  ·have z:=N p (List.mem_append_left _ hp)
   exact ⟨he _ _ (p1 p hp) z.1,z.2⟩
  ·rcases List.mem_cons.mp hp with rfl | hp
   ·exact ⟨ho,q2,q3⟩
   ·have z:=N p (List.mem_append_right _ (.tail _ hp))
    exact ⟨he _ _ (p2 p hp) z.1,z.2⟩
 refine ⟨os.set i o',fun k y hk ne=>?_,List.getElem?_set_self il,by rw [List.length_set]; exact el,N',⟨S.fr.ns.extBut he (Ne.symm q2),fun b o e=>he b o (fun z=>by rw [z,q3] at e; cases e) (S.fr.keep b o e),S.fr.above⟩⟩
 rw [List.getElem?_set_ne (Ne.symm ne)] at hk
 exact hos k y hk
theorem St.updT{H':Tr}{g:GO}{o':Obj}{h':Heap}{i:Nat}{a:Addr}(S:St x J H nx R O L m s)(ha:J.as[i]?=some a)(he:Heap.ExtBut a s.heap h')(ho:h'.get? a=some o')(hg:aL x.T x.CT x.nd (x.prog,x.w) J g o')(hA:∀k,k<nx->H'.get k=if k=i then g else H.get k)(tk:Nat) :
  St x J H' nx R O L m { s with heap:=h',toks:=tk }:=by
 obtain ⟨os,h1,h2,h3,h4,h5⟩:=(S.parts ha he ho)
 refine ⟨⟨S.led.nod,os,fun k y hk=>?_,h3,h4⟩,S.nx,h5,S.gens,S.rn⟩
 rw [hA k (by rw [<- S.nx,h3]; exact aN hk)]
 by_cases e:k=i
 ·subst e
  rw [h2] at hk
  cases hk
  rw [if_pos rfl]; exact hg
 ·rw [if_neg e]; exact h1 k y hk e
theorem Is.reit{T:List Str}{J:az}{g:GV}{v:Value}(i:Is T J g v)(it:Addr × Nat):Is T { J with it:=it } g v:=by
 cases g <;> exact i
theorem aL.reit{T:List Str}{CT:List Addr}{nd:Nat}{pw:Program × World}{J:az}{g:GO}{o:Obj}(h:aL T CT nd pw J g o)(hne:g≠.oit)(it:Addr × Nat):aL T CT nd pw { J with it:=it } g o:=by
 have v:∀{g:GV} {v:Value},Is T J g v->Is T { J with it:=it } g v:=fun i=>i.reit it
 have l:∀{gs:List GV} {vs:List Value},be T J gs vs->be T { J with it:=it } gs vs:=fun i=>by
  induction i with
  | nil=>exact .nil
  | cons a _ ih=>exact .cons (v a) ih
 have en:∀{es:List (Nat × GV)} {ds:List DictEntry},dh T nd J es ds->dh T nd { J with it:=it } es ds:=fun i=>by
  induction i with
  | nil=>exact .nil
  | cons a b c d _ ih=>exact .cons a b c (v d) ih
 have ei:∀{es:List (Int × GV)} {ds:List (Int × Value)},eI T J es ds->eI T { J with it:=it } es ds:=fun i=>by
  induction i with
  | nil=>exact .nil
  | cons a _ ih=>exact .cons (v a) ih
 have es:∀{es:List (Nat × GV)} {ds:List (Str × Value)},fU T J es ds->fU T { J with it:=it } es ds:=fun i=>by
  induction i with
  | nil=>exact .nil
  | cons a b _ ih=>exact .cons a (v b) ih
 cases g with
 | list gs=>exact h.imp fun q0=>Exists.imp fun q0=>And.imp_right l
 | tuple gs=>exact h.imp fun q0=>And.imp_right l
 | idict gs=>exact h.imp fun q0=>Exists.imp fun q0=>And.imp_right en
 | di gs=>exact h.imp fun q0=>And.imp_right ei
 | ds gs=>exact h.imp fun q0=>And.imp_right es
 | cell g=>exact h.imp id (Exists.imp fun q0=>And.imp_right v)
 | ns gs=>exact h.imp fun q0=>And.imp_right fun k i g e=>(k i g e).imp fun q0=>Exists.imp fun q0=>And.imp_right (And.imp_right v)
 | dm gs=>exact h.imp fun q0=>And.imp_right (And.imp_left fun k z g e=>(k z g e).imp id (Exists.imp fun q0=>And.imp_right v))
 | oit=>exact absurd rfl hne
 | dk k g=>exact h.imp fun q0=>Exists.imp fun q0=>Exists.imp fun q0=>Exists.imp fun q0=>And.imp_right (And.imp_left v)
 | _=>exact h
theorem St.reit{i:Nat}{a:Addr}{o':Obj}{h':Heap}(S:St x J H nx R O L m s)(ha:J.as[i]?=some a)(hi:H.get i=.oit)(hn:∀k,k<nx->k≠i->H.get k≠.oit)(it:Addr × Nat)(he:Heap.ExtBut a s.heap h')(ho:h'.get? a=some o')
  (hc:o'.cls=.type "list_iterator") (hd:o'.data=.fields #[.ref it.1,.int it.2 0]) (tk:Nat):St x { J with it:=it } H nx R O L m { s with heap:=h',toks:=tk }:=by
 obtain ⟨os,h1,h2,h3,h4,h5⟩:=(S.parts ha he ho)
 refine ⟨⟨S.led.nod,os,fun k y hk=>?_,h3,h4⟩,S.nx,h5,S.gens,S.rn⟩
 have kl:k<nx:=by rw [<- S.nx,h3]; exact aN hk
 by_cases e:k=i
 ·subst e
  rw [h2] at hk
  cases hk
  rw [hi]; exact .oit hc hd
 ·exact (h1 k y hk e).reit (hn k kl e) it
structure yy (x:aR) (v:Value) (who deed:Nat) (z:Int):Prop where
 ex:∃ta o n t1 t2 t3 sx,v=.ref ta/\x.K.lookup ta=some o/\o.cls=.type "tuple"/\o.data=.seq #[.int (who:Int) t1,.str sx t2,.int z t3] n/\x.T[deed]?=some sx
theorem FW{ge:GI}{r:j6}{ts:List Expr}(hr:gX x d vs r ts)(hp:bx ts=true)(hl:ts.length=3)(kd:Nat)(pos:Pos){who deed:Nat}{z:Int}{v:Value}(hv:yy x v who deed z){k:Tr->Nat->Rn->List GV->Bool}
  (h:r [.int (.lit (.ofNat who)),.str deed,.int ge] H nx R loc k=true) (Hh:ck x d A O L) (En:bN env L) (S:St x J H nx R O L m s) (Lo:bq x J env L m vs loc) (hn:ge.ok J.ns.length/\ge.ev J.ns=z) {Q:Unit->Shared->Prop}
  (hQ:∀J' H nx R loc m s,J.le J'->St x J' H nx R O L m s->bq x J' env L m vs loc->k H nx R loc=true->Q () s):wpAny (model x.prog x.w) A (assign (.Tuple ts kd pos) env v) Q E s:=by
 symm
 obtain ⟨ta,o,c,t1,t2,t3,sx,rfl,h1,h2,h3,h4⟩:=hv.ex
 symm
 rw [assign_Tuple]
 obtain ⟨l1,l2⟩:=(ln hp env)
 refine wpAny_bind (wpAny_standAt ?_)
 unfold unpack
 rw [l1,l2]
 have lu:s.heap.IsTuple ta #[.int (who:Int) t1,.str sx t2,.int z t3]:=⟨o,(Hh.X.keeps S.fr.keep) _ _ h1,h2,c,h3⟩
 refine wpAny_bind (wpAny_holding ?_)
 have iz:Is x.T J (.int ge) (.int z t3):=by
  have:=Is.int (T:=x.T) (J:=J) (e:=ge) t3 hn.1
  rwa [hn.2] at this
 have iu:be x.T J [.int (.lit (.ofNat who)),.str deed,.int ge] [.int (who:Int) t1,.str sx t2,.int z t3]:=.cons (.int (e:=.lit (.ofNat who)) t1 trivial) (.cons (.str t2 h4) (.cons iz .nil))
 have:=unpackItems_tuple (E:=E) (Q:=fun us s'=>wpAny (model x.prog x.w) A (assignInOrder ((assignEach ts env).map (·.2)) us) Q E s') (prog:=x.prog) (w:=x.w) (A:=A) Hh.hnd lu fun h' he=>hr _ H nx R loc k h A env O L m J _ _ Q E Hh En (S.ext he s.toks) Lo iu (by rw [hl]; rfl) hQ
 rw [hl]
 exact this
end
end
section
def yf(P:List PO)(o:PO):List PO:=@List.rec PO (fun q0=>List PO) [o] (fun p q0 ih=>p::ih) P
theorem uF(o:PO):∀P:List PO,yf P o=P++[o]
 | []=>rfl
 | p::P=>congrArg (p::·) (uF o P)
def iX(pat:eh)(o:PO)(it:Nat)(H:Tr)(nx:Nat)(R:Rn)(loc:List GV):Bool:=
 uR pat.rt loc 0 0 [] 0 [] 0 fun σ n τ v φ w=>uP H pat.P 0 σ n τ v φ w fun σ n τ v φ w=>fN (pE σ n it) fun σ=>xQ (Nat.succ n) σ fun js=>fN (iF js) fun z=>
  (fun τ φ=>Nat.ble (yf pat.P o).length 300&&vE js 0&&xP R pat.cs τ&&Ce z τ pat.rt loc&&yu z τ φ H nx (yf pat.P o) js&&oI z pat.P.length fun j=>Nat.beq j it) (yC τ []) (yC φ [])
def pk(P:List PO):Bool:=@List.rec PO (fun q0=>Bool) true (fun p q0 ih=>@PO.rec (fun q0=>Bool) (fun q0=>ih) (fun q0=>ih) (fun q0 q0=>ih) (fun q0=>ih) (fun q0=>ih) (fun q0=>ih) ih (fun q0=>ih) false (fun q0=>ih) ih (fun q0=>ih) (fun q0 q0=>ih) (fun q0 q0=>ih) (fun q0 q0=>ih) p) P
theorem tU:∀{P:List PO},pk P=true->∀p∈P,p.g≠.oit
 | [],_,p,h=>by cases h
 | q::P,h,p,hm=>by
  rcases List.mem_cons.mp hm with rfl | hm2
  ·cases p <;> first | (intro e; unfold PO.g at e; cases e; done) | (have h:false=true:=h; cases h; done)
  ·cases q <;> first | (have h:false=true:=h; cases h; done) | exact tU (P:=P) h p hm2
section
variable {x:aR} {d:Nat} {vs:aq} {J:az} {H:Tr} {nx:Nat} {R:Rn} {O:Heap} {L:Addr} {m:Str->Option Value} {s:Shared} {A:Around} {E:Value->Shared->Prop} {env:Env} {loc:List GV}
structure pB (x:aR) (pat:eh) (o:PO) (a:Addr) (vs:aq) (env:Env) (O:Heap) (L:Addr) (m:Str->Option Value) (s:Shared) (it:Addr × Nat):Prop where
 ex:∃J vals,vals.length=pat.cs.length/\St x J (d8 (pat.P++[o])) (pat.P.length+1) (.mk (cW pat.cs vals) []) O L m s/\bq x J env L m vs (ew pat.rt)/\J.it=it/\J.as[pat.P.length]?=some a/\J.ns=vals/\mr pat.cs vals
theorem jd{pat:eh}{o:PO}{it:Nat}{a:Addr}(h:iX pat o it H nx R loc=true)(hvs:(vs.all fun p=>match p.2 with | .loc=>true | .glo=>true | _=>false)=true)(S:St x J H nx R O L m s)(Lo:bq x J env L m vs loc)(ha:J.as[it]?=some a) :
  pB x pat o a vs env O L m s J.it:=by
 obtain ⟨q0,q0,q0,q0,q0,q0,h⟩:=(th h)
 obtain ⟨σ0,q0,τ0,q0,φ0,q0,h⟩:=(xY h)
 rw [bP] at h
 obtain ⟨js,h⟩:=(rc h)
 rw [bP] at h
 simp only [Bool.and_eq_true] at h
 obtain ⟨⟨⟨⟨⟨a1,a2⟩,a3⟩,a4⟩,a5⟩,a6⟩:=h
 rw [uF] at a1 a5
 obtain ⟨J',vals,l,rn,S',sn,sg⟩:=(S.anew ⟨a2,a5,a3,Nat.le_of_ble_eq_true a1⟩)
 obtain ⟨j,j1,j2⟩:=kU a6
 have j2:=Nat.eq_of_beq_eq_true j2
 subst j2
 have el:(pat.P++[o]).length=pat.P.length+1:=by simp
 rw [el] at S'
 refine ⟨J',vals,l,S',fun j i kd hj=>?_,rn.it,rn.as _ _ _ j1 ha,sn,sg⟩
 obtain ⟨t,ht,hd,sl⟩:=(Lo j i kd hj)
 refine ⟨t,ht,hd,?_⟩
 have hk:=List.all_eq_true.mp hvs _ (List.mem_of_getElem? hj)
 cases kd with
 | cel=>cases hk
 | blk=>cases hk
 | glo=>exact sl
 | loc=>
  refine ⟨sl.1,sl.2.1,fun n=>?_⟩
  rcases rb a4 j with q | ⟨p,q1,q2⟩
  ·exact absurd q n
  ·have ne:aZ loc j≠.nul:=fun e=>by
    rw [e] at q2
    cases p <;> cases q2
   obtain ⟨v,v1,v2⟩:=(sl.2.2 ne)
   exact ⟨v,v1,by rw [q1]; exact gP rn q2 v2⟩
theorem St.var{B:fb}(S:St x J H nx R O L m s)(z:Int)(hB:gG B (J.ns++[z]))(hl:B.length=J.ns.length+1):St x { J with ns:=J.ns++[z] } H nx (.mk B []) O L m s:=by
 have le:J.le { J with ns:=J.ns++[z] }:=⟨List.prefix_rfl,List.prefix_append _ _,rfl,rfl⟩
 obtain ⟨os,hos,el,N⟩:=S.led.at_
 exact ⟨⟨S.led.nod,os,fun k o hk=>(hos k o hk).more le,el,N⟩,S.nx,S.fr,S.gens,⟨hB,by show (J.ns++[z]).length=B.length; rw [hl]; simp,fun i j b h=>by cases h⟩⟩
def ju(pat:eh)(o:PO)(it:Nat):KS:=fun gf H nx R loc=>@GF.rec (fun q0=>Bool) (iX pat o it H nx R loc) false (iX pat o it H nx R loc) (fun q0=>false) gf
structure Rows (x:aR) (la:Addr) (rows:List (Nat × Nat × Int)):Prop where
 ex:∃o us n,x.K.lookup la=some o/\o.cls=.type "list"/\o.data=.seq us n/\us.size=rows.length/\∀(j:Nat) v,us[j]?=some v->∃r,rows[j]?=some r/\yy x v r.1 r.2.1 r.2.2
theorem lP{P:List PO}{o:PO}(h:P.length<300):(d8 (P++[o])).get P.length=o.g:=rT (by simp; lia) List.getElem?_concat_length
theorem kc{P:List PO}{o:PO}(h:P.length<300){k:Nat}(lt:k<P.length):(d8 (P++[o])).get k=P[k].g:=rT (by simp; lia) (by rw [List.getElem?_append_left lt,List.getElem?_eq_getElem lt])
theorem sA:∀{cs:List Bool} {vals:List Int},vals.length=cs.length->(cW cs vals).length=cs.length
 | [],vals,_=>rfl
 | c::cs,[],h=>by simp at h
 | c::cs,v::vals,h=>by simp [cW,sA (cs:=cs) (vals:=vals) (by simpa using h)]
end
end
section
structure gQ (G:Heap) (fs:List Addr) (e:Addr) (cls:Value) (dd:Option Addr) (fl:Value) (h:Heap):Prop where
 keep:∀b o,G.get? b=some o->b≠e->b∉fs->h.get? b=some o
 fr:∀b o,G.get? b=some o->b≠e->∃sl,h.get? b=some { o with slots:=sl }
 ex:∃oe vs,h.get? e=some oe/\oe.cls=cls/\oe.dict=dd/\oe.data=.fields vs/\((vs[1]?=some .none/\fl=.none)∨∃T oT ts,vs[1]?=some (.ref T)/\G.get? T=none/\T≠e/\h.get? T=some oT/\oT.data=.fields ts/\ts[3]?=some fl)
 e0:(G.get? e).isSome
 sz:G.objs.size<=h.objs.size
section
variable {M:Model} {A:Around} {E:Value->Shared->Prop} {s:Shared} {G:Heap} {fs:List Addr} {e:Addr} {cls fl:Value} {dd:Option Addr}
theorem gQ.here{h:Heap}{oe:Obj}{vs:Array Value}(he:h.get? e=some oe)(hd:oe.data=.fields vs)(h1:vs[1]?=some .none):gQ h fs e oe.cls oe.dict .none h:=
 ⟨fun q0 q0 a q0 q0=>a,fun q0 o a q0=>⟨o.slots,a⟩,⟨oe,vs,he,rfl,rfl,hd,.inl ⟨h1,rfl⟩⟩,by rw [he]; rfl,Nat.le_refl _⟩
theorem gQ.frames{h base:Heap}{l:List Env}(F:gQ G fs e cls dd fl h)(hl:G.FunFrames base l)(hne:e∉l.filterMap (·.frame)):h.FunFrames base l:=by
 induction l with
 | nil=>trivial
 | cons env rest ih=>
  obtain ⟨hk,⟨L,o,hf,hn,ho,hd⟩,hr⟩:=hl
  rw [List.filterMap_cons,hf] at hne
  simp only [List.mem_cons,not_or] at hne
  obtain ⟨sl,hs⟩:=(F.fr L o ho (Ne.symm hne.1))
  exact ⟨hk,⟨L,_,hf,hn,hs,hd⟩,ih hr hne.2⟩
theorem pK(o:Obj)(f:Array Value->Array Value):(Obj.mapFields f o).cls=o.cls/\(Obj.mapFields f o).dict=o.dict:=by
 obtain ⟨c,d,dt,sl⟩:=o
 cases dt <;> exact ⟨rfl,rfl⟩
theorem gQ.entry{base:Heap}{env:Env}{outer:List Env}{L:Addr}{head:Value}{hadNext:Bool}{Q:Unit->Shared->Prop}{oe:Obj}{vs:Array Value}(hfr:A.frames=some (env::outer))(hl:s.heap.FunFrames base (env::outer))(hf:env.frame=some L)
  (keep:∀b o,G.get? b=some o->b≠e->b∉fs->s.heap.get? b=some o) (fr:∀b o,G.get? b=some o->b≠e->∃sl,s.heap.get? b=some { o with slots:=sl })
  (he:s.heap.get? e=some oe) (hc:oe.cls=cls/\oe.dict=dd) (hd:oe.data=.fields vs) (h1:1<vs.size) (e0:(G.get? e).isSome) (hfs:∀b∈(env::outer).filterMap (·.frame),b∈fs) (hz:G.objs.size<=s.heap.objs.size)
  (h:∀h',gQ G fs e cls dd (rawInt L) h'->Q () { s with heap:=h' }) :
  wpAny M A (do let a <- frameOf env; let pl <- entryPlaceOf L hadNext; let b <- EntryCells.newEntry head a .none (rawInt L) .none pl; setField (.ref e) 1 b) Q E s:=by
 have hne:e∉(env::outer).filterMap (·.frame):=fun q=>by
  obtain ⟨q0,o,ho,hn⟩:=(hl.mem q)
  rw [he] at ho; cases ho; exact hn vs hd
 refine wpAny_bind (wpAny_frameOf_fun hfr hl hf fun h₁ S=>?_)
 refine wpAny_bind (wpAny_entryPlaceOf fun pl hpl=>?_)
 unfold EntryCells.newEntry newFields
 refine wpAny_bind (wpAny_newObj_type ?_ (hpl.sizeOk5 _ _ _ _ _))
 have he₁:h₁.get? e=some oe:=(S.2.1 e hne).trans he
 have lt:e<h₁.objs.size:=Heap.lt_size he₁
 refine wpAny_setField (Heap.get?_push_of_some _ he₁) hd h1 (h _ ?_)
 have upd:=fun (b:Addr) (o:Obj) (hb:b≠e) (ho:h₁.get? b=some o)=>(Heap.get?_update_other (h₁.push { cls:=.type "traceback",dict:=none,data:=.fields ([head,.ref L,.none,rawInt L,.none]++(if pl.isEmpty then List.replicate 6 Value.none else pl)).toArray })
  (Obj.mapFields (·.setIfInBounds 1 (Value.ref h₁.objs.size))) (Ne.symm hb)).trans (Heap.get?_push_of_some _ ho)
 refine ⟨fun b o g1 g2 g3=>upd b o g2 ((S.2.1 b fun q=>g3 (hfs b q)).trans (keep b o g1 g2 g3)),fun b o g1 g2=>?_,?_,e0,by rw [Heap.size_after_update,Heap.size_push,S.1]; lia⟩
 ·obtain ⟨sl,q⟩:=(fr b o g1 g2)
  obtain ⟨sl2,q2⟩:=(S.2.2 b _ q)
  exact ⟨sl2,upd b _ g2 q2⟩
 ·have hd3:=Obj.data_mapFields hd (·.setIfInBounds 1 (Value.ref h₁.objs.size))
  refine ⟨_,_,Heap.get?_update_self _ (Heap.get?_push_of_some _ he₁) (Obj.isFreed_of_fields hd3),(pK oe _).1.trans hc.1,(pK oe _).2.trans hc.2,hd3,.inr ⟨h₁.objs.size,_,_,by simp [h1],Heap.get?_none_of_le (by rw [S.1]; exact hz),Nat.ne_of_gt lt,(Heap.get?_update_other _ _ (Nat.ne_of_lt lt)).trans (Heap.get?_push_size h₁ rfl),rfl,?_⟩⟩
  rcases hpl with rfl | ⟨_,_,_,_,_,_,_,rfl⟩ <;> simp
theorem gQ.note{base:Heap}{env:Env}{outer:List Env}{L:Addr}{Q:Unit->Shared->Prop}(F:gQ G fs e cls dd .none s.heap)(hfr:A.frames=some (env::outer))(hl:s.heap.FunFrames base (env::outer))(hf:env.frame=some L)
  (hfs:∀b∈(env::outer).filterMap (·.frame),b∈fs) (h:∀h',gQ G fs e cls dd (rawInt L) h'->Q () { s with heap:=h' }):wpAny M A (noteFrame (.ref e) env) Q E s:=by
 obtain ⟨oe,vs,he,hc,hdd,hd,hh⟩:=F.ex
 unfold noteFrame
 simp only [hf]
 rcases hh with ⟨h1,_⟩ | ⟨T,oT,ts,h1,hGT,hTe,hoT,hdT,h3⟩
 ·refine wpAny_bind (wpAny_field he hd h1 ?_)
  rw [if_neg (by decide)]
  exact gQ.entry hfr hl hf F.keep F.fr he ⟨hc,hdd⟩ hd (Array.getElem?_eq_some_iff.mp h1).1 F.e0 hfs F.sz h
 ·refine wpAny_bind (wpAny_field he hd h1 ?_)
  rw [if_pos (show (Value.ref T != Value.none)=true from by simp)]
  refine wpAny_bind (wpAny_field hoT hdT h3 ?_)
  rw [if_neg (show ¬ ((Value.none == rawInt L)=true) from by simp [rawInt])]
  refine wpAny_bind (wpAny_setField hoT hdT (Array.getElem?_eq_some_iff.mp h3).1 ?_)
  have oth:∀b,b≠T->(s.heap.update T (Obj.mapFields (·.setIfInBounds 3 Value.none))).get? b=s.heap.get? b:=fun b hb=>Heap.get?_update_other _ _ (Ne.symm hb)
  have neT:∀b o,G.get? b=some o->b≠T:=fun b o q z=>by rw [z,hGT] at q; cases q
  refine gQ.entry hfr (hl.of_keeps fun b o q nf=>⟨o,(oth b fun z=>?_).trans q,rfl⟩) hf (fun b o q1 q2 q3=>(oth b (neT b o q1)).trans (F.keep b o q1 q2 q3)) (fun b o q1 q2=>?_) ((oth e (Ne.symm hTe)).trans he) ⟨hc,hdd⟩ hd (Array.getElem?_eq_some_iff.mp h1).1 F.e0 hfs (by rw [Heap.size_after_update]; exact F.sz) h
  ·rw [z,hoT] at q; cases q; exact nf ts hdT
  ·obtain ⟨sl,z⟩:=(F.fr b o q1 q2)
   exact ⟨sl,(oth b (neT b o q1)).trans z⟩
theorem gQ.land{Q:Unit->Shared->Prop}(F:gQ G fs e cls dd fl s.heap)(hfl:fl≠.none∨fl=.none)(h:∀h',gQ G fs e cls dd .none h'->Q () { s with heap:=h' }):wpAny M A (setFlight (.ref e) none) Q E s:=by
 obtain ⟨oe,vs,he,hc,hdd,hd,hh⟩:=F.ex
 unfold setFlight
 rcases hh with ⟨h1,rfl⟩ | ⟨T,oT,ts,h1,hGT,hTe,hoT,hdT,h3⟩
 ·refine wpAny_bind (wpAny_field he hd h1 ?_)
  rw [if_neg (by decide)]
  exact wpAny_pure (h _ F)
 ·refine wpAny_bind (wpAny_field he hd h1 ?_)
  rw [if_pos (show (Value.ref T != Value.none)=true from by simp)]
  have sz:=(Array.getElem?_eq_some_iff.mp h3).1
  refine wpAny_setField hoT hdT sz (h _ ?_)
  have oth:∀b,b≠T->(s.heap.update T (Obj.mapFields (·.setIfInBounds 3 ((none:Option Addr).elim Value.none fun f=>rawInt f)))).get? b=s.heap.get? b:=fun b hb=>Heap.get?_update_other _ _ (Ne.symm hb)
  have neT:∀b o,G.get? b=some o->b≠T:=fun b o q z=>by rw [z,hGT] at q; cases q
  refine ⟨fun b o q1 q2 q3=>(oth b (neT b o q1)).trans (F.keep b o q1 q2 q3),fun b o q1 q2=>?_,⟨oe,vs,(oth e (Ne.symm hTe)).trans he,hc,hdd,hd,.inr ⟨T,_,_,h1,hGT,hTe,Heap.get?_update_self _ hoT (Obj.isFreed_of_fields (Obj.data_mapFields hdT _)),Obj.data_mapFields hdT _,by simp [sz]⟩⟩,F.e0,by rw [Heap.size_after_update]; exact F.sz⟩
  obtain ⟨sl,z⟩:=(F.fr b o q1 q2)
  exact ⟨sl,(oth b (neT b o q1)).trans z⟩
end
end
section
noncomputable abbrev rx(C t:Addr):Obj:={ cls:=.ref C,data:=.fields #[.ref t,.none,.none,.none,.bool false,.none] }
def excIn(K:Frag)(C:Addr):Prop:=∃nm qn N bs bm hdct sn sub ab col dd k0 k1 k2 k3 k5,
 K.lookup C=some (excClassObj nm qn C N bs bm hdct sn sub ab col dd k0 k1 k2 k3 k5 "Exception.__new__")/\(Value.ref C::bm).contains (.type "Exception")=true/\(Value.ref C::bm).contains (.type "BaseException")=true/\(Value.ref C::bm).contains (.type "AttributeError")=false/\(Value.ref C::bm).contains (.type "NameError")=false
theorem oB{K:Frag}{h:Heap}{C:Addr}(X:K.In h)(q:excIn K C):∃nm qn N bs bm hdct sn sub ab col dd k0 k1 k2 k3 k5,
  h.get? C=some (excClassObj nm qn C N bs bm hdct sn sub ab col dd k0 k1 k2 k3 k5 "Exception.__new__")/\(Value.ref C::bm).contains (.type "Exception")=true/\(Value.ref C::bm).contains (.type "BaseException")=true/\(Value.ref C::bm).contains (.type "AttributeError")=false/\(Value.ref C::bm).contains (.type "NameError")=false:=
 q.imp fun q0=>Exists.imp fun q0=>Exists.imp fun q0=>Exists.imp fun q0=>Exists.imp fun q0=>Exists.imp fun q0=>Exists.imp fun q0=>Exists.imp fun q0=>Exists.imp fun q0=>Exists.imp fun q0=>Exists.imp fun q0=>Exists.imp fun q0=>Exists.imp fun q0=>Exists.imp fun q0=>Exists.imp fun q0=>Exists.imp fun q0=>And.imp_left (X _ _)
section
variable {prog:Program} {w:World} {A:Around} {E:Value->Shared->Prop} {s:Shared} {K:Frag} {C L:Addr} {O:Heap} {m:Str->Option Value} {news:List (Addr × Obj)}
theorem Hk{bm:List Value}{nm qn:Str}{N:Addr}{bs:List Value}{hdct:Bool}{sn:List Str}{sub:List Value}{ab:Bool}{col:Option Bool}{dd:Option Addr}{k0 k1 k2 k3 k5:Option Value}{R:Result->Shared->Prop}{rest:List Value}
  (hC:s.heap.get? C=some (excClassObj nm qn C N bs bm hdct sn sub ab col dd k0 k1 k2 k3 k5 "Exception.__new__")) (cB:(Value.ref C::bm).contains (.type "Exception")=true) (cA:(Value.ref C::bm).contains (.type "AttributeError")=false) (cN:(Value.ref C::bm).contains (.type "NameError")=false)
  (hz:rest.length<=sizeLine) (hq:R (.ok (.ret (.ref (s.heap.objs.size+1)))) { s with heap:=(s.heap.push { cls:=.type "tuple",data:=.seq rest.toArray }).push (rx C s.heap.objs.size) }) :
  codeAny (model prog w) A (.call (.builtin "Exception.__new__") ⟨.ref C::rest,[]⟩) R s:=by
 have F:=PySem.F.excBase_Exception
 obtain ⟨h,g,d,t,os⟩:=s
 refine codeAny_call_builtin_code (Code.quiet_builtin _ F.quiet) ?_
 have hstar:=F.noStar
 simp only [checkBuiltinCall,F.newKind,F.newSplit,F.newRow]
 have hends:=F.ends
 repeat (first | refine wpAny_loadPart_at hC ?_ | (refine wpAny_isSubtype_exc hC ?_; rw [cB]) | refine wpAny_staticBase_exc hC ?_ | refine wpAny_madeBy_exc hC ?_ | simp only [bne_self_eq_false,Bool.false_eq_true,if_false] | wp_step)
 refine codeAny_builtinAt F.entry ?_
 unfold Builtin.«BaseException.__new__»
 refine PySem.wpAt_bind ?_
 show PySem.wpAt _ _ _ (stack >>= _) _ _ _
 refine PySem.wpAt_bind (PySem.wpAt_stack fun p below=>PySem.wpAt_of_wpAny ?_)
 wp_walk
 refine PySem.wpAt_of_wpAny ?_
 rw [F.owner]
 repeat (first | with_reducible refine wpAny_madeHere_exc F.canon hC ?_ | with_reducible refine wpAny_loadPart_at hC ?_ | (with_reducible refine wpAny_isSubtype_exc hC ?_; first | rw [cB] | rw [cA] | rw [cN]) | wp_step)
 show R _ _
 rw [Heap.size_push]
 exact hq
theorem Gf{rest:List Value}{fI:Addr}{Q:Value->Shared->Prop}(F:Fr O L s.heap m)(N:News O L s.heap news)(X:K.In s.heap)(hm:excIn K C)(hi:findIn K (.ref C) "__init__" = some (some (.ref fI)))(hf:typeIn K (.ref fI)=some (.type "function"))(hz:rest.length<=sizeLine)
  (h:∀e t h',Fr O L h' m->News O L h' ((e,rx C t)::(t,{ cls:=.type "tuple",data:=.seq rest.toArray })::news)->(∀p∈news,p.1<t)->t<e->
   wpAny (model prog w) (A.under (.builtin "type.__call__" ⟨.ref C::rest,[]⟩)) (call (.ref fI) (.ref e::rest)) (fun r s'=>r=.none/\Q (.ref e) s') E { s with heap:=h' }):wpAny (model prog w) A (call (.ref C) rest) Q E s:=by
 symm
 obtain ⟨nm,qn,N',bs,bm,hdct,sn,sub,ab,col,dd,k0,k1,k2,k3,k5,hC,cB,q0,cA,cN⟩:=(oB X hm)
 obtain ⟨hh,g,d,t,os⟩:=s
 symm
 have f1:=tc_lookup
 have f2:=tc_bind (.ref C)
 have hT:(⟨hh,g,d,t,os⟩:Shared).TypeIs (.ref C) "type":=⟨_,hC,rfl⟩
 refine wpAny_call (codeAny_of_tree ?_)
 show wpAny _ _ (callAny (.ref C) _) _ _ _
 repeat (any_goals (first | assumption | with_reducible refine wpAny_loadPart_at hC ?_ | wp_step))
 refine ⟨rfl,?_⟩
 refine codeAny_call_builtin_at (Code.quiet_builtin _ (by decide +kernel)) entry_typeCall (wpAny_check_type_call_sub hC ?_)
 have N2:=(N.push F { cls:=.type "tuple",data:=.seq rest.toArray }).push (F.push _) (rx C hh.objs.size)
 rw [Heap.size_push] at N2
 have F2:=(F.push { cls:=.type "tuple",data:=.seq rest.toArray }).push (rx C hh.objs.size)
 have z:=h _ _ _ F2 N2 (fun p hp=>Heap.lt_size (N p hp).1) (Nat.lt_succ_self _)
 dsimp only at z
 have k:∀b o,hh.get? b=some o->((hh.push { cls:=.type "tuple",data:=.seq rest.toArray }).push (rx C hh.objs.size)).get? b=some o:=fun b o e=>Heap.get?_push_of_some _ (Heap.get?_push_of_some _ e)
 repeat (first | with_reducible refine wpAny_loadPart_at hC ?_ | with_reducible refine wpAny_madeBy_exc hC ?_ | wp_step)
 refine Hk hC cB cA cN hz ?_
 dsimp only
 have hr0:([]:List Value).append rest=rest:=rfl
 simp only [hr0]
 show wpAny _ _ _ _ _ _
 have hx:((hh.push { cls:=.type "tuple",data:=.seq rest.toArray }).push (rx C hh.objs.size)).get? (hh.objs.size+1)=some { cls:=.ref C,data:=.fields #[.ref hh.objs.size,.none,.none,.none,.bool false,.none] }:=(N2 _ (.head _)).1
 have hC1:=k _ _ hC
 have hcC:(Value.ref C::bm).contains (.ref C)=true:=by simp
 have i1:=(looks_findIn (M:=model prog w) X hi).keeps k
 have b1:=(bind_fn (M:=model prog w) X (.ref (hh.objs.size+1)) hf).keeps k
 unfold isInstance
 repeat (first | (with_reducible refine wpAny_loadPart_at hx ?_; dsimp only) | (with_reducible refine wpAny_isSubtype_exc hC1 ?_; rw [hcC]) | wp_step)
 show wpAny _ _ (typeLookup (.ref C) _) _ _ _
 refine i1.at ?_
 refine wpAny_holding (wpAny_bind (b1.at ?_))
 refine wpAny_bind (wpAny_mono z (fun r s' hr=>?_) fun q0 q0 x=>x)
 obtain ⟨rfl,hQ⟩:=hr
 wp_walk
 exact hQ
end
end
section
open PySem PySem.W PyProof.Rows PySem.Calls PySem.Builtin PySem.Builtin.ObjectAttr
def tw(l:List Value):Prop:=(∀self,refuseLoop self "__setattr__" l=pure ())/\l.contains (.type "object")=true/\l.contains (.type "BaseException")=true/\l.contains (.type "Exception")=true
theorem si(self:Value){l:List Value}(h:tw l):refuseLoop self "__setattr__" l=pure ()/\l.contains (.type "object")=true/\l.contains (.type "BaseException")=true/\l.contains (.type "Exception")=true:=⟨h.1 self,h.2⟩
def iA(K:Frag)(C:Addr):Prop:=∃cd,clsIn K C=some cd/\cd.mro.isEmpty=false/\tw cd.mro
section
variable {prog:Program} {w:World} {A:Around} {E:Value->Shared->Prop} {s:Shared} {K:Frag} {C L x:Addr} {O:Heap} {m:Str->Option Value} {R:Result->Shared->Prop} {ox:Obj} {od:Option Obj} {name:Str} {v:Value}
theorem ET{M:Model}{h:Heap}(X:K.In h)(hp:iA K C):∃cd,clsIn K C=some cd/\Looks M h (mroOf (.ref C)) cd.mro/\(∀b,Looks M h (isSubtype (.ref C) b) (cd.mro.contains b))/\tw cd.mro:=by
 symm
 obtain ⟨cd,hc,ne,ho⟩:=hp
 symm
 exact ⟨cd,hc,(looks_clsIn X hc).andThen .now,fun b=>looks_mroIn X (by unfold mroIn; rw [hc,Option.bind_some,if_neg (by rw [ne]; decide)]),ho⟩
theorem sb{tk:Tok}(X:K.In s.heap)(I:InstAt s.heap x ox C od)(hp:iA K C)(ht:findIn K (.ref C) name=some none)
  (h:∀b,wpAny (model prog w) A.in1 (storeInOwnDict (.ref x) (.ref C) (.str name tk) name v b)
   (fun fin s'=>match fin with | .done f=>R (.ok f) s' | .again c'=>c'.quiet=true/\codeAny (model prog w) A c' R s') (fun e s'=>R (.error e) s') s) :
  codeAny (model prog w) A (.call (.builtin "object.__setattr__") ⟨[.ref x,.str name tk,v],[]⟩) R s:=by
 symm
 have SF:=PySem.F.store_object
 obtain ⟨cd,hc,hm,hs,ho⟩:=(ET (M:=model prog w) X hp)
 obtain ⟨p1,p2,p3,p4⟩:=(si (.ref x) ho)
 symm
 have sub:Looks (model prog w) s.heap (isInstance (.ref x) (.type "object")) true:=I.type.andThen (by have:=hs (.type "object"); rwa [p2] at this)
 refine codeAny_call_builtin SF.slot.plain SF.entry (@check_slot (model prog w) _ _ s "object.__setattr__" "object" "__setattr__" (.ref x) [.str name tk,v] [] _ SF.kind SF.split sub (SF.args (.ref x) (.str name tk) v) ?_)
 rw [osa_eq,refuse_eq]
 refine wpAny_bind (wpAny_bind (I.type.here (wpAny_bind (hm.here ?_))))
 rw [p1]
 refine wpAny_pure (wpAny_bind (I.type.here (wpAny_bind ((looks_findIn X ht).here (wpAny_bind (wpAny_pure ?_))))))
 exact h _
set_option tactic.hygienic true in
theorem Gm{od od':Obj}{dx:Addr}{pre post:List (Addr × Obj)}{es:List DictEntry}{n:Nat}{Q:Unit->Shared->Prop}(F:Fr O L s.heap m)(N:News O L s.heap (pre++(dx,od)::post))(X:K.In s.heap)
  (I:InstAt s.heap x ox C (some od)) (hd:ox.dict=some dx) (hsa:findIn K (.ref C) "__setattr__" = some (some (.builtin "object.__setattr__"))) (hp:iA K C) (ht:findIn K (.ref C) name=some none) (hh:hasDictIn K C=true)
  (hl:(lookIn name od).isSome=true) (h1:∀p∈pre,p.1≠dx) (h2:∀p∈post,p.1≠dx)
  (e:Obj.putName name (PyData.keyHash w.params name) (.str name (s.toks+1)) v od=od') (e':od'.data=.dict es.toArray n) (hz:es.length<=1000)
  (h:∀h',Fr O L h' m->News O L h' (pre++(dx,od')::post)->Q () { s with heap:=h',toks:=s.toks+2 }) :
  wpAny (model prog w) A (setAttr (.ref x) name v) Q E s:=by
 refine set_plain X I hsa (sb (s:={ s with toks:=s.toks+1 }) X I hp ht fun b=>?_)
 symm
 obtain ⟨cd,hc,hd'⟩:=(any_some hh)
 obtain ⟨U1,U2⟩:=(news_upd (f:=Obj.putName name (PyData.keyHash w.params name) (.str name (s.toks+1)) v) F N h1 h2 e (by obtain ⟨_,_,dd,_⟩:=od'; cases e'; rfl))
 have D:=(N (dx,od) (by simp)).1
 have D':=(U2 (dx,od') (by simp)).1
 obtain ⟨hx,hcl,hn,-⟩:=I
 obtain ⟨oc,odi,oda,osl⟩:=ox
 symm
 dsimp only at hcl hd
 subst hcl hd
 refine wpAny_bind (wpAny_pure (wpAny_bind (wpAny_bind (wpAny_loadPart hx (wpAny_bind (looks_clsIn X hc _ _ _ _ (fun q0 q0 e=>e) ?_))))))
 rw [hd']
 refine wpAny_pure (a:=some dx) (wpAny_bind (wpAny_pure (wpAny_bind ?_)))
 unfold nsSet
 refine wpAny_bind (wpAny_bind (wpAny_askSetting (wpAny_pure (wpAny_bind (wpAny_mkText (wpAny_bind (wpAny_loadPart D ?_)))))))
 unfold lookIn at hl
 split at hl
 ·rename_i es₀ n₀ q
  rw [q]
  dsimp only
  have c:(!es₀.any (·.key.isStr name)&&es₀.any (·.refKey))=false:=by
   rw [<- Array.any_toList,<- Array.any_toList]
   split at hl
   ·rename_i en he
    rw [List.any_eq_true.mpr ⟨en,List.mem_of_find?_eq_some he,List.find?_some he⟩]; rfl
   ·split at hl
    ·cases hl
    ·rename_i z; rw [Bool.not_eq_true] at z; rw [z,Bool.and_false]
  rw [aRefKeyMayBeTheName_at,c]
  refine wpAny_updatePart D ?_
  refine wpAny_bind (wpAny_lookBehind D' (by rw [e']; exact pastItsLine_dict (by rw [List.size_toArray,sizeLine_eq]; lia)) ?_)
  exact wpAny_pure (h _ U1 U2)
 ·cases hl
theorem zk{o:Obj}{d:Option Addr}(h:o.isFreed=false):({ o with dict:=d }:Obj).isFreed=false:=by
 obtain ⟨q0,q0,dt,q0⟩:=o
 cases dt <;> exact h
theorem GP{pre post:List (Addr × Obj)}{Q:Unit->Shared->Prop}(F:Fr O L s.heap m)(N:News O L s.heap (pre++(x,ox)::post))(X:K.In s.heap)
  (hcl:ox.cls=.ref C) (hno:notCls ox=true) (hd:ox.dict=none) (hsa:findIn K (.ref C) "__setattr__" = some (some (.builtin "object.__setattr__"))) (hp:iA K C) (ht:findIn K (.ref C) name=some none) (hh:hasDictIn K C=true)
  (h1:∀p∈pre,p.1≠x) (h2:∀p∈post,p.1≠x) (lt:∀p∈pre++(x,ox)::post,p.1<s.heap.objs.size)
  (h:∀h' dx,Fr O L h' m->News O L h' ((dx,dictOf [⟨PyData.keyHash w.params name,.str name (s.toks+1),v⟩] 1)::(pre++(x,{ ox with dict:=some dx })::post))->(∀p∈pre++(x,ox)::post,p.1<dx)->Q () { s with heap:=h',toks:=s.toks+2 }) :
  wpAny (model prog w) A (setAttr (.ref x) name v) Q E s:=by
 have hx:=(N (x,ox) (by simp)).1
 have I:InstAt s.heap x ox C none:=⟨hx,hcl,hno,by rw [hd]; trivial⟩
 refine set_plain X I hsa (sb (s:={ s with toks:=s.toks+1 }) X I hp ht fun b=>?_)
 obtain ⟨cd,hc,hd'⟩:=(any_some hh)
 obtain ⟨oc,odi,oda,osl⟩:=ox
 dsimp only at hcl hd
 subst hcl hd
 refine wpAny_bind (wpAny_pure (wpAny_bind (wpAny_bind (wpAny_loadPart hx (wpAny_bind (looks_clsIn X hc _ _ _ _ (fun q0 q0 e=>e) ?_))))))
 rw [hd']
 have F1:=F.push { cls:=.type "dict",data:=.dict #[] }
 have N1:=N.push F { cls:=.type "dict",data:=.dict #[] }
 have fr:(⟨.ref C,none,oda,osl⟩:Obj).isFreed=false:=(Heap.get?_some_iff.mp hx).2
 have neD:x≠s.heap.objs.size:=Nat.ne_of_lt (Heap.lt_size hx)
 obtain ⟨F2,N2⟩:=(news_upd (d:=x) (o:=⟨.ref C,none,oda,osl⟩) (o':=⟨.ref C,some s.heap.objs.size,oda,osl⟩) (pre:=(s.heap.objs.size,{ cls:=.type "dict",data:=.dict #[] })::pre) (post:=post) (f:=fun o=>{ o with dict:=some s.heap.objs.size }) F1 N1)
  (fun p hp=>by rcases List.mem_cons.mp hp with rfl | hp; exact Ne.symm neD; exact h1 p hp) h2 rfl (zk fr)
 obtain ⟨F3,N3⟩:=(news_upd (d:=s.heap.objs.size) (o:={ cls:=.type "dict",data:=.dict #[] }) (o':=dictOf [⟨PyData.keyHash w.params name,.str name (s.toks+1),v⟩] 1) (pre:=[]) (post:=pre++(x,⟨.ref C,some s.heap.objs.size,oda,osl⟩)::post) (f:=Obj.putName name (PyData.keyHash w.params name) (.str name (s.toks+1)) v) F2 N2)
  (fun p hp=>by cases hp) (fun p hp=>by
   have:p.1<s.heap.objs.size:=by
    rcases List.mem_append.mp hp with q | q
    ·exact lt p (List.mem_append_left _ q)
    ·rcases List.mem_cons.mp q with rfl | q
     ·exact lt (x,⟨.ref C,none,oda,osl⟩) (List.mem_append_right _ (.head _))
     ·exact lt p (List.mem_append_right _ (.tail _ q))
   exact Nat.ne_of_lt this) (putName_dict _ _ _ _ [] 0) rfl
 have D:((s.heap.push { cls:=.type "dict",data:=.dict #[] }).update x fun o=>{ o with dict:=some s.heap.objs.size }).get? s.heap.objs.size=some { cls:=.type "dict",data:=.dict #[] }:=(N2 _ (.head _)).1
 have D':=(N3 _ (.head _)).1
 have z:=h _ _ F3 N3 lt
 have fin:∀(Q':Fin->Shared->Prop) E' (tk:Tok),Q' (.done (.ret .none)) { s with heap:=(((s.heap.push { cls:=.type "dict",data:=.dict #[] }).update x fun o=>{ o with dict:=some s.heap.objs.size }).update s.heap.objs.size (Obj.putName name (PyData.keyHash w.params name) (.str name (s.toks+1)) v)),toks:=s.toks+2 }->
   wpAny (model prog w) A.in1 (storeInDict s.heap.objs.size (.str name tk) name v) Q' E' { s with heap:=((s.heap.push { cls:=.type "dict",data:=.dict #[] }).update x fun o=>{ o with dict:=some s.heap.objs.size }),toks:=s.toks+1 }:=by
  intro Q' E' tk hq
  unfold storeInDict
  refine wpAny_bind (wpAny_pure (wpAny_bind ?_))
  unfold nsSet
  refine wpAny_bind (wpAny_bind (wpAny_askSetting (wpAny_pure (wpAny_bind (wpAny_mkText (wpAny_bind (wpAny_loadPart D ?_)))))))
  dsimp only
  rw [aRefKeyMayBeTheName_at,if_neg (by simp)]
  refine wpAny_updatePart (s:={ s with heap:=((s.heap.push { cls:=.type "dict",data:=.dict #[] }).update x fun o=>{ o with dict:=some s.heap.objs.size }),toks:=s.toks+1+1 }) D ?_
  exact wpAny_bind (wpAny_lookBehind D' (pastItsLine_dict (by rw [List.size_toArray,sizeLine_eq]; simp)) (wpAny_pure hq))
 rw [if_neg (by decide)]
 dsimp only
 rw [if_neg (by simp [typeHasDict])]
 cases oda <;> first
  | (cases hno; done)
  | exact wpAny_bind (wpAny_alloc (wpAny_bind (wpAny_update (Heap.get?_push_of_some _ hx) (wpAny_pure (fin _ _ _ z)))))
end
end
section
open PySem PySem.W PyProof.Rows PySem.Calls PySem.Builtin PySem.Builtin.ObjectAttr
section
variable {prog:Program} {w:World} {A:Around} {E:Value->Shared->Prop} {s:Shared} {K:Frag} {C L x:Addr} {O:Heap} {m:Str->Option Value} {R:Result->Shared->Prop} {ox:Obj} {od:Option Obj} {name:Str} {v:Value}
theorem Ml{expr:Bool}{Q:Value->Shared->Prop}(X:K.In s.heap)(I:InstAt s.heap x ox C od)(hga:findIn K (.ref C) "__getattribute__" = some (some (.builtin "BaseException.__getattribute__")))(hgt:findIn K (.ref C) "__getattr__" = some none)(hp:iA K C)
  (hf:findObj K C od name=some (.value v)) (hh:handedIn v=true) (h:Q v { s with toks:=s.toks+1 }):wpAny (model prog w) A (getAttr (.ref x) name expr) Q E s:=by
 have G:=PySem.F.attr_Exception.ga
 obtain ⟨cd,hc,hm,hs,ho⟩:=(ET (M:=model prog w) X hp)
 obtain ⟨p1,p2,p3,p4⟩:=(si (.ref x) ho)
 have hx2:(Value.builtin "BaseException.__getattribute__" == Value.builtin "object.__getattribute__")=false:=by decide +kernel
 obtain ⟨hh',g,d,t,os⟩:=s
 have L0:=I.type (M:=model prog w)
 have L1:=looks_findIn (M:=model prog w) X hga
 have L2:=looks_findIn (M:=model prog w) X hgt
 have L3:=looks_find (M:=model prog w) X I hf
 have sub:Looks (model prog w) hh' (isInstance (.ref x) (.type "BaseException")) true:=L0.andThen (by have:=hs (.type "BaseException"); rwa [p3] at this)
 unfold getAttr getAttrBy
 refine wpAny_bind (wpAny_mkText (wpAny_holding (wpAny_bind (L0.at (wpAny_bind (L1.at ?_))))))
 dsimp only
 rw [hx2,Bool.and_false,if_neg (by decide)]
 unfold getAttrByItsOwn hookBefore
 rw [if_pos (show onTheHeap (.ref C)=true from rfl)]
 refine wpAny_bind (L2.at (wpAny_bind (wpAny_attempt (wpAny_holding ?_))))
 unfold callGetattribute
 rw [show (expr&&onTheHeap (Value.builtin "BaseException.__getattribute__"))=false from Bool.and_false _,if_neg (by decide)]
 unfold boundAndCalled
 rw [G.bind]
 refine wpAny_bind (wpAny_pure ?_)
 show wpAny _ _ (call (.builtin "BaseException.__getattribute__") [.ref x,.str name t]) _ _ _
 refine wpAny_call ?_
 refine codeAny_call_builtin G.plain PySem.F.entry_bexc_ga ?_
 refine @check_slot (model prog w) _ _ ⟨hh',g,d,t+1,os⟩ "BaseException.__getattribute__" "BaseException" "__getattribute__" (.ref x) [.str name t] [] _ (by decide +kernel) (by decide +kernel) sub (PySem.F.args_bexc_ga (.ref x) (.str name t)) ?_
 refine wpAny_bind (wpAny_pure (wpAny_bind (wpAny_pure (wpAny_bind (L0.at (wpAny_bind (L3.at ?_)))))))
 refine wpAny_pure ?_
 show wpAny _ _ (handedOut v) _ _ _
 rw [handedOut_of hh]; exact wpAny_pure h
theorem Gw{rest:List Value}{Q:Value->Shared->Prop}{t0:Addr}{r:Array Value}(X:K.In s.heap)(hp:excIn K C)(hx:s.heap.get? x=some ox)(hc:ox.cls=.ref C)(hd:ox.data=.fields r)(h0:r[0]?=some (.ref t0))(hz:rest.length<=sizeLine)
  (h:Q .none { s with heap:=(s.heap.push { cls:=.type "tuple",data:=.seq rest.toArray }).update x (Obj.mapFields (·.setIfInBounds 0 (.ref s.heap.objs.size))) }) :
  wpAny (model prog w) A (call (.builtin "Exception.__init__") (.ref x::rest)) Q E s:=by
 symm
 have F:=PySem.F.excBase_Exception
 obtain ⟨nm,qn,N',bs,bm,hdct,sn,sub,ab,col,dd,k0,k1,k2,k3,k5,hC,cB,q0,cA,cN⟩:=(oB X hp)
 obtain ⟨hh,g,d,t,os⟩:=s
 symm
 have hshort:=F.noStar
 refine wpAny_call (codeAny_call_builtin F.init.plain F.initEntry ?_)
 simp only [checkBuiltinCall,F.initKind,F.initSplit,F.initRow]
 repeat (first | (with_reducible refine wpAny_loadPart_at hx ?_; rw [hc]) | with_reducible refine wpAny_loadPart_at hC ?_ | (with_reducible refine wpAny_isSubtype_exc hC ?_; rw [cB]) | wp_step)
 refine wpAny_onRaise ?_
 rw [show ∀(a b:String) (n:Nat),Bind.check ⟨.positional,"*","Exception",.self,[⟨"args",.varPos,false⟩]⟩ a b n (List.map (fun x=>x.fst) ({ pos:=Value.ref x::rest }:Args).kw)=pure () from
  fun a b n=>check_star_args _ _ _ _ _ _]
 refine wpAny_pure ?_
 have hx1:=Heap.get?_push_of_some { cls:=.type "tuple",data:=.seq rest.toArray } hx
 have sz:0<r.size:=(Array.getElem?_eq_some_iff.mp h0).1
 repeat (first | with_reducible refine wpAny_field hx1 hd h0 ?_ | with_reducible refine wpAny_setField hx1 hd sz ?_ | wp_step)
 wp_walk
 exact h
theorem GS{env:Env}{e:Expr}{pos:Pos}{Q:Flow->Shared->Prop}(hh:A.handled=none)(hp:excIn K C)
  (h:wpAny (model prog w) A (eval e env) (fun v s₁=>∃x ox r,v=.ref x/\K.In s₁.heap/\s₁.heap.get? x=some ox/\ox.cls=.ref C/\ox.data=.fields r/\r[1]?=some .none/\E (.ref x) s₁) E s) :
  wpAny (model prog w) A (exec (.Raise (some e) none pos) env) Q E s:=by
 have go:wpAny (model prog w) A (raiseStmt env (some (do let v <- eval e env; standAt pos; pure v)) none) Q E s:=by
  unfold raiseStmt
  refine wpAny_bind (wpAny_bind (wpAny_mono h (fun v s₁ h₁=>?_) fun q0 q0 x=>x))
  obtain ⟨x,ox,r,rfl,X,hx,hc,hd,h1,hE⟩:=h₁
  obtain ⟨nm,qn,N',bs,bm,hdct,sn,sub,ab,col,dd,k0,k1,k2,k3,k5,hC,cB,cBB,cA,cN⟩:=(oB X hp)
  obtain ⟨hp,g,d,tk,os⟩:=s₁
  refine wpAny_bind (wpAny_standAt (wpAny_pure ?_))
  repeat (first | (with_reducible refine wpAny_loadPart_at hx ?_; rw [hc]) | with_reducible refine wpAny_field hx hd h1 ?_ | with_reducible refine wpAny_loadPart_at hC ?_ | (with_reducible refine wpAny_isSubtype_exc hC ?_; rw [cBB]) | wp_step)
  exact wpAny_raiseNew_none hh hE
 rw [arm_exec_Raise]
 first
  | exact wpAny_bind (wpAny_standAt go)
  | (simp only [evalOpt,Option.map]; exact wpAny_bind (wpAny_standAt go))
end
end
section
noncomputable def jM(A:Around):List Addr:=(A.frames.getD []).filterMap (·.frame)
noncomputable def cT(A:Around):List Addr:=((A.frames.getD []).drop 1).filterMap (·.frame)
structure de (x:aR) (d:Nat) (A:Around) (O:Heap) (L:Addr):Prop where
 here:ck x d A O L
 z:∃A₀ base outer env,Below A₀ base outer O/\A.frames=some (env::outer)/\env.frame=some L/\env.scope.kind=.function/\Top x.p x.loose x.mean x.mg x.mb base/\∀b∈outer.filterMap (·.frame),x.K.lookup b=none
abbrev KX:=Nat->Tr->Nat->Rn->Bool
abbrev SX:=Tr->Nat->Rn->List GV->KS->KX->Bool
abbrev EX:=Tr->Nat->Rn->List GV->KV->KX->Bool
abbrev TX:=Tr->Nat->Rn->List GV->KB->KX->Bool
abbrev kB:=List GV->Tr->Nat->Rn->KV->KX->Bool
structure Up (x:aR) (J:az) (H:Tr) (nx:Nat) (R:Rn) (O:Heap) (L:Addr) (m:Str->Option Value) (A:Around) (i:Nat) (e:Addr) (s:Shared):Prop where
 ex:∃G fs oe,St x J H nx R O L m { s with heap:=G }/\J.as[i]?=some e/\G.get? e=some oe/\gQ G fs e oe.cls oe.dict .none s.heap/\(∀a∈J.as,a∉fs)/\(∀a∈fs,O.get? a=none∨a∈jM A)/\∀a∈jM A,a∈fs
def pv(x:aR)(J:az)(A:Around)(O:Heap)(L:Addr)(m:Str->Option Value)(k:KV)(Q:Value->Shared->Prop):Prop:=
 ∀g J' H nx R s v u,KtsTurn (cT A) O g->J.le J'->St x J' H nx R g L m s->Is x.T J' v u->k v H nx R=true->Q u s
def kP(x:aR)(J:az)(A:Around)(O:Heap)(L:Addr)(m:Str->Option Value)(k:KB)(Q:Bool->Shared->Prop):Prop:=
 ∀g J' H nx R s c,KtsTurn (cT A) O g->J.le J'->St x J' H nx R g L m s->k c H nx R=true->Q c s
def vn(x:aR)(J:az)(A:Around)(O:Heap)(L:Addr)(k:KX)(E:Value->Shared->Prop):Prop:=
 ∀g J' H nx R m s i e,KtsTurn (cT A) O g->J.le J'->Up x J' H nx R g L m A i e s->k i H nx R=true->E (.ref e) s
def fZ(x:aR)(d:Nat)(vs:aq)(f:EX)(e:Expr):Prop:=
 ∀H nx R loc k kx,f H nx R loc k kx=true->∀(A:Around) (env:Env) (O:Heap) (L:Addr) (m:Str->Option Value) (J:az) (s:Shared) (Q E:Value->Shared->Prop),
  de x d A O L->bN env L->St x J H nx R O L m s->bq x J env L m vs loc->pv x J A O L m k Q->vn x J A O L kx E->wpAny (model x.prog x.w) A (eval e env) Q E s
def iV(x:aR)(d:Nat)(vs:aq)(f:TX)(e:Expr):Prop:=
 ∀H nx R loc k kx,f H nx R loc k kx=true->∀(A:Around) (env:Env) (O:Heap) (L:Addr) (m:Str->Option Value) (J:az) (s:Shared) (Q:Bool->Shared->Prop) (E:Value->Shared->Prop),
  de x d A O L->bN env L->St x J H nx R O L m s->bq x J env L m vs loc->kP x J A O L m k Q->vn x J A O L kx E->wpAny (model x.prog x.w) A (isTrue e env (eval e env)) Q E s
def sM(x:aR)(J:az)(A:Around)(env:Env)(vs:aq)(O:Heap)(L:Addr)(k:KS)(Q:Flow->Shared->Prop):Prop:=
 ∀g J' H nx R loc m s gf fl,KtsTurn (cT A) O g->J.le J'->St x J' H nx R g L m s->bq x J' env L m vs loc->rJ x.T J' gf fl->k gf H nx R loc=true->Q fl s
def bS(x:aR)(d:Nat)(vs:aq)(f:SX)(b:List Stmt):Prop:=
 ∀H nx R loc k kx,f H nx R loc k kx=true->∀(A:Around) (env:Env) (O:Heap) (L:Addr) (m:Str->Option Value) (J:az) (s:Shared) (Q:Flow->Shared->Prop) (E:Value->Shared->Prop),
  de x d A O L->bN env L->St x J H nx R O L m s->bq x J env L m vs loc->sM x J A env vs O L k Q->vn x J A O L kx E->wpAny (model x.prog x.w) A (execs b env) Q E s
def iG(x:aR)(d:Nat)(f:kB)(v:Value):Prop:=∀gs H nx R k kx,f gs H nx R k kx=true->∀(A:Around) (O:Heap) (L:Addr) (m:Str->Option Value) (J:az) (s:Shared) (us:List Value) (Q E:Value->Shared->Prop),
 de x d A O L->St x J H nx R O L m s->be x.T J gs us->pv x J A O L m k Q->vn x J A O L kx E->wpAny (model x.prog x.w) A (call v us) Q E s
section
variable {x:aR} {d:Nat} {vs:aq} {J J':az} {H:Tr} {nx:Nat} {R:Rn} {O g:Heap} {L:Addr} {m:Str->Option Value} {s:Shared} {A:Around} {E:Value->Shared->Prop} {env:Env} {loc:List GV}
theorem de.fr(Z:de x d A O L):∃A₀ base outer env,Below A₀ base outer O/\A.frames=some (env::outer)/\env.frame=some L/\env.scope.kind=.function/\cT A=outer.filterMap (·.frame)/\jM A=L::cT A:=by
 symm
 obtain ⟨A₀,base,outer,env,B,hA,hf,hk,q0⟩:=Z.z
 symm
 have e1:cT A=outer.filterMap (·.frame):=by unfold cT; rw [hA]; rfl
 refine ⟨A₀,base,outer,env,B,hA,hf,hk,e1,?_⟩
 rw [e1]; unfold jM; rw [hA,Option.getD_some,List.filterMap_cons,hf]
theorem de.turn(Z:de x d A O L)(T:KtsTurn (cT A) O g):de x d A g L:=by
 symm
 obtain ⟨A₀,base,outer,env,B,hA,hf,hk,top,ko⟩:=Z.z
 symm
 have e1:cT A=outer.filterMap (·.frame):=by unfold cT; rw [hA]; rfl
 rw [e1] at T
 have B':Below A₀ base outer g:=⟨B.stack,fun b o e=>T.other b o (B.stays b o e) (fun hm=>by rw [(B.frames.mem hm).1] at e; cases e),B.frames.of_keeps fun b o e q0=>let ⟨sl,hs⟩:=T.up e; ⟨_,hs,rfl⟩⟩
 refine ⟨⟨⟨A₀,base,outer,env,B',hA,hf,hk⟩,fun a o e=>T.other a o (Z.here.X a o e) (fun hm=>by rw [ko a hm] at e; cases e),top.keeps B'.stays,Z.here.room,Z.here.hnd,Z.here.units⟩,A₀,base,outer,env,B',hA,hf,hk,top,ko⟩
theorem de.less{d':Nat}(h:d<=d')(Z:de x d' A O L):de x d A O L:=⟨Z.here.less h,Z.z⟩
theorem pv.le{k:KV}{Q:Value->Shared->Prop}(T:KtsTurn (cT A) O g)(le:J.le J')(h:pv x J A O L m k Q):pv x J' A g L m k Q:=fun g' J'' H nx R s v u t l=>h g' J'' H nx R s v u (T.trans t) (le.trans l)
theorem kP.le{k:KB}{Q:Bool->Shared->Prop}(T:KtsTurn (cT A) O g)(le:J.le J')(h:kP x J A O L m k Q):kP x J' A g L m k Q:=fun g' J'' H nx R s c t l=>h g' J'' H nx R s c (T.trans t) (le.trans l)
theorem sM.le{k:KS}{Q:Flow->Shared->Prop}(T:KtsTurn (cT A) O g)(le:J.le J')(h:sM x J A env vs O L k Q):sM x J' A env vs g L k Q:=fun g' J'' H nx R loc m s gf fl t l=>h g' J'' H nx R loc m s gf fl (T.trans t) (le.trans l)
theorem vn.le{k:KX}(T:KtsTurn (cT A) O g)(le:J.le J')(h:vn x J A O L k E):vn x J' A g L k E:=fun g' J'' H nx R m s i e t l=>h g' J'' H nx R m s i e (T.trans t) (le.trans l)
theorem kP.next{k:KB}{Q:Bool->Shared->Prop}(h:kP x J A O L m k Q):nA x J O L m k Q:=fun J' H nx R s c le S hk=>h O J' H nx R s c .refl le S hk
noncomputable def tH(f:TV):TX:=fun H nx R loc k q0=>f H nx R loc k
theorem k6{f:TV}{e:Expr}(hf:d3 x d vs f e):iV x d vs (tH f) e:=fun H nx R loc k kx h A env O L m J s Q E Z En S Lo hQ q0=>hf H nx R loc k h A env O L m J s Q E Z.here En S Lo hQ.next
noncomputable def cC(f:SV):SX:=fun H nx R loc k q0=>f H nx R loc k
theorem bB{f:SV}{b:List Stmt}(hf:au x d vs f b):bS x d vs (cC f) b:=fun H nx R loc k kx h A env O L m J s Q E Z En S Lo hQ q0=>hf H nx R loc k h A env O L m J s Q E Z.here En S Lo fun J' H nx R loc m s gf fl le S Lo hf hk=>hQ O J' H nx R loc m s gf fl .refl le S Lo hf hk
theorem kz(env:Env)(rest l:List Stmt):execs (l++rest) env=(execs l env >>= fun f=>match f with | .next=>execs rest env | f=>pure f):=by
 induction l with
 | nil=>exact (pure_bind _ _).symm
 | cons st l ih=>
  have e:∀r,execs (st::r) env=(exec st env >>= fun f=>match f with | .next=>execs r env | f=>pure f):=fun r=>rfl
  rw [List.cons_append,e,e,bind_assoc]
  refine congrArg _ (funext fun f=>?_)
  cases f with
  | next=>exact ih
  | _=>exact (pure_bind _ _).symm
def Rm(gf:GF)(H:Tr)(nx:Nat)(R:Rn)(loc:List GV)(r:SX)(k:KS)(kx:KX):Bool:=@GF.rec (fun q0=>Bool) (r H nx R loc k kx) (k .brk H nx R loc) (k .cont H nx R loc) (fun g=>k (.ret g) H nx R loc) gf
def gE(f:SX)(r:SX):SX:=fun H nx R loc k kx=>f H nx R loc (fun gf H nx R loc=>Rm gf H nx R loc r k kx) kx
theorem da{f:SX}{r:SX}{l rest:List Stmt}(hf:bS x d vs f l)(hr:bS x d vs r rest):bS x d vs (gE f r) (l++rest):=by
 intro H nx R loc k kx h A env O L m J s Q E Z En S Lo hQ hE
 rw [kz]
 refine wpAny_bind (hf H nx R loc _ kx h A env O L m J s _ E Z En S Lo (fun g J' H' nx' R' loc' m' s' gf fl T le S' Lo' hfl hk=>?_) hE)
 cases hfl with
 | next=>exact hr H' nx' R' loc' k kx hk A env g L m' J' s' Q E (Z.turn T) En S' Lo' (hQ.le T le) (hE.le T le)
 | brk=>exact wpAny_pure (hQ g J' H' nx' R' loc' m' s' .brk .brk T le S' Lo' .brk hk)
 | cont=>exact wpAny_pure (hQ g J' H' nx' R' loc' m' s' .cont .cont T le S' Lo' .cont hk)
 | ret i=>exact wpAny_pure (hQ g J' H' nx' R' loc' m' s' (.ret _) _ T le S' Lo' (.ret i) hk)
theorem gb{M:Model}{Q:Flow->Shared->Prop}{st:Stmt}(h:wpAny M A (exec st env) Q E s):wpAny M A (execs [st] env) Q E s:=by
 refine wpAny_execs_cons (wpAny_mono h (fun f s' z=>?_) fun q0 q0 y=>y)
 cases f with
 | next=>exact wpAny_execs_nil z
 | _=>exact z
def lT(t:TX)(a b:SX):SX:=fun H nx R loc k kx=>t H nx R loc (fun c H nx R=>@Bool.rec (fun q0=>Bool) (b H nx R loc k kx) (a H nx R loc k kx) c) kx
theorem gR{t:TX}{a b:SX}{c:Expr}{as bs:List Stmt}(ht:iV x d vs t c)(ha:bS x d vs a as)(hb:bS x d vs b bs)(pos:Pos):bS x d vs (lT t a b) [.If c as bs pos]:=by
 intro H nx R loc k kx h A env O L m J s Q E Z En S Lo hQ hE
 refine gb (wpAny_If (ht H nx R loc _ kx h A env O L m J s _ E Z En S Lo (fun g J1 H1 nx1 R1 s1 c T le1 S1 h1=>?_) hE))
 cases c with
 | true=>exact ha H1 nx1 R1 loc k kx h1 A env g L m J1 s1 Q E (Z.turn T) En S1 (Lo.more le1) (hQ.le T le1) (hE.le T le1)
 | false=>exact hb H1 nx1 R1 loc k kx h1 A env g L m J1 s1 Q E (Z.turn T) En S1 (Lo.more le1) (hQ.le T le1) (hE.le T le1)
noncomputable def sV(a:AV)(f:EX):SX:=fun H nx R loc k kx=>f H nx R loc (fun g H nx R=>a g H nx R loc fun H nx R loc=>k .next H nx R loc) kx
theorem nW{a:AV}{f:EX}{t e:Expr}(ha:dQ x d vs a t)(hf:fZ x d vs f e)(h1:io e=true)(h2:i8 t=true∨i8 e=true)(h3:bZ t=true)(pos:Pos):bS x d vs (sV a f) [.Assign [t] e pos]:=by
 intro H nx R loc k kx h A env O L m J s Q E Z En S Lo hQ hE
 refine gb (wpAny_Assign_stores (hf H nx R loc _ kx h A env O L m J s _ E Z En S Lo (fun g J1 H1 nx1 R1 s1 v u T le1 S1 i1 hk=>?_) hE) (hX h1 _ _ _) ?_)
 ·rw [cU h3 env]
  exact ha v H1 nx1 R1 loc _ hk A env g L m J1 s1 u _ E (Z.turn T).here En S1 (Lo.more le1) i1 fun J2 H2 nx2 R2 loc2 m2 s2 le2 S2 Lo2 hk2=>hQ g J2 H2 nx2 R2 loc2 m2 s2 .next .next T (le1.trans le2) S2 Lo2 .next hk2
 ·exact iR h2 _
noncomputable def x9(f:EX):SX:=fun H nx R loc k kx=>f H nx R loc (fun q0 H nx R=>k .next H nx R loc) kx
theorem uC{f:EX}{e:Expr}(hf:fZ x d vs f e){g:Expr}{as:List Expr}{ks:List Keyword}{cp:Pos}(hc:e=.Call g as ks cp)(pos:Pos):bS x d vs (x9 f) [.Expr e pos]:=by
 intro H nx R loc k kx h A env O L m J s Q E Z En S Lo hQ hE
 exact gb (mh hc (by unfold interactive; rw [En.kind]; rfl) (hX (by rw [hc]; rfl) _ _ _) (hf H nx R loc _ kx h A env O L m J s _ E Z En S Lo (fun g J1 H1 nx1 R1 s1 v u T le1 S1 i1 hk=>hQ g J1 H1 nx1 R1 loc m s1 .next .next T le1 S1 (Lo.more le1) .next hk) hE))
noncomputable def x6(f:EX):SX:=fun H nx R loc k kx=>f H nx R loc (fun g H nx R=>k (.ret g) H nx R loc) kx
theorem tX{f:EX}{e:Expr}(hf:fZ x d vs f e)(pos:Pos):bS x d vs (x6 f) [.Return (some e) pos]:=by
 intro H nx R loc k kx h A env O L m J s Q E Z En S Lo hQ hE
 exact gb (wpAny_Return_some (hf H nx R loc _ kx h A env O L m J s _ E Z En S Lo (fun g J1 H1 nx1 R1 s1 v u T le1 S1 i1 hk=>hQ g J1 H1 nx1 R1 loc m s1 (.ret v) _ T le1 S1 (Lo.more le1) (.ret i1) hk) hE))
def Mr(c:TV)(f r:EX):EX:=fun H nx R loc k kx=>c H nx R loc fun b H nx R=>@Bool.rec (fun q0=>Bool) (r H nx R loc k kx) (f H nx R loc k kx) b
theorem FJ{c:TV}{f r:EX}{e1 e2 e3:Expr}(hc:d3 x d vs c e1)(hf:fZ x d vs f e2)(hr:fZ x d vs r e3)(pos:Pos):fZ x d vs (Mr c f r) (.IfExp e1 e2 e3 pos):=by
 intro H nx R loc k kx h A env O L m J s Q E Z En S Lo hQ hE
 refine wpAny_IfExp (hc H nx R loc _ h A env O L m J s _ E Z.here En S Lo fun J' H' nx' R' s' b le S' hk=>?_)
 cases b with
 | true=>exact hf H' nx' R' loc k kx hk A env O L m J' s' Q E Z En S' (Lo.more le) (hQ.le .refl le) (hE.le .refl le)
 | false=>exact hr H' nx' R' loc k kx hk A env O L m J' s' Q E Z En S' (Lo.more le) (hQ.le .refl le) (hE.le .refl le)
def pY(f:TX):TX:=fun H nx R loc k kx=>f H nx R loc (fun b H nx R=>k (@Bool.rec (fun q0=>Bool) true false b) H nx R) kx
theorem lW{f:TX}{e:Expr}(hf:iV x d vs f e)(pos:Pos):iV x d vs (pY f) (.UnaryOp .Not e pos):=by
 intro H nx R loc k kx h A env O L m J s Q E Z En S Lo hQ hE
 refine isTrue_not (hf H nx R loc _ kx h A env O L m J s _ E Z En S Lo (fun g J' H' nx' R' s' b T le S' hk=>?_) hE)
 dsimp only at hk
 rw [vC] at hk
 exact hQ _ _ _ _ _ _ _ T le S' hk
def Du(f r:TX):TX:=fun H nx R loc k kx=>f H nx R loc (fun b H nx R=>@Bool.rec (fun q0=>Bool) (r H nx R loc k kx) (k true H nx R) b) kx
theorem xa{f r:TX}{e:Expr}{es:List Expr}{pos:Pos}(hf:iV x d vs f e)(hr:iV x d vs r (.BoolOp .Or es pos)):iV x d vs (Du f r) (.BoolOp .Or (e::es) pos):=by
 intro H nx R loc k kx h A env O L m J s Q E Z En S Lo hQ hE
 refine isTrue_or (hf H nx R loc _ kx h A env O L m J s _ E Z En S Lo (fun g J' H' nx' R' s' b T le S' hk=>?_) hE)
 cases b with
 | true=>exact hQ _ _ _ _ _ _ _ T le S' hk
 | false=>exact hr H' nx' R' loc k kx hk A env g L m J' s' Q E (Z.turn T) En S' (Lo.more le) (hQ.le T le) (hE.le T le)
def Bt(f:EX):TX:=fun H nx R loc k kx=>f H nx R loc (fun g H nx R=>gB g fun b=>k b H nx R) kx
theorem qa{f:EX}{e:Expr}(hf:fZ x d vs f e)(hp:sy e=true):iV x d vs (Bt f) e:=by
 intro H nx R loc k kx h A env O L m J s Q E Z En S Lo hQ hE
 refine isTrue_plain (hf H nx R loc _ kx h A env O L m J s _ E Z En S Lo (fun g J' H' nx' R' s' v u T le S' i hk=>?_) hE) (by clear hf; cases e <;> first | rfl | cases hp)
 symm
 obtain ⟨b,rfl,hb⟩:=qb hk
 cases i
 symm
 exact wpAny_truthy_bool (hQ _ _ _ _ _ _ _ T le S' hb)
noncomputable def Fb(c:EQ)(f:EX)(g:EV):EX:=fun H nx R loc k kx=>f H nx R loc (fun a H nx R=>g H nx R loc fun b H nx R=>c a b H R fun r R=>k (.bool r) H nx R) kx
theorem DX{op:CmpOp}{c:EQ}(hc:fT x d op c){f:EX}{g:EV}{e i:Expr}(hf:fZ x d vs f e)(hg:aK x d vs g i)(hm:behindInMarks op i=false)(pos:Pos):fZ x d vs (Fb c f g) (.Compare e [op] [i] pos):=by
 intro H nx R loc k kx h A env O L m J s Q E Z En S Lo hQ hE
 refine wpAny_Compare1 (hf H nx R loc _ kx h A env O L m J s _ E Z En S Lo (fun g J' H' nx' R' s' a v T le S' ha hk=>?_) hE) hm
 refine hg H' nx' R' loc _ hk A env g L m J' s' _ E (Z.turn T).here En S' (Lo.more le) fun J'' H'' nx'' R'' s'' b u le' S'' hb hk'=>?_
 exact hc _ _ _ _ _ hk' A J'' nx'' g L m s'' v u Q E (Z.turn T).here S'' (ha.more le') hb fun r R3 e3 rn=>hQ g J'' H'' nx'' R3 s'' (.bool r) _ T (le.trans le') (S''.rn' rn) (.bool r) e3
end
end
section
section
variable {x:aR} {d:Nat} {vs:aq} {J J':az} {H:Tr} {nx:Nat} {R:Rn} {O g g':Heap} {L L':Addr} {m m':Str->Option Value} {s:Shared} {A A₀:Around} {base:Heap} {outer:List Env} {E:Value->Shared->Prop} {env:Env} {loc:List GV}
theorem St.back(B:Below A₀ base outer O)(FG:Fr O L g m)(st:O.StaysIn g)(T:KtsTurn (L::outer.filterMap (·.frame)) g g')(S:St x J H nx R g' L' m' s):∃h₁,KtsTurn (outer.filterMap (·.frame)) O h₁/\St x J H nx R h₁ L m s:=by
 symm
 have hL0:O.get? L=none:=kts_self FG
 obtain ⟨T1,K1⟩:=(kts_turn_at (h:=s.heap) (fs:=outer.filterMap (·.frame)) (g:=O))
  (fun b hb=>(B.frames.mem hb).2.imp fun q0=>And.left)
  (fun b o e nm=>S.fr.keep b o (T.other b o (st b o e) fun hm=>by
   rcases List.mem_cons.mp hm with q | q
   ·rw [q,hL0] at e; cases e
   ·exact nm q))
  (fun b o e hm=>(T.up (st b o e)).imp fun q0=>S.fr.keep _ _)
 obtain ⟨oL,es,ep,ho,hd,hk,hn⟩:=FG.ns
 obtain ⟨sl,hs⟩:=(T.up ho)
 obtain ⟨nod,os,hos,el,N⟩:=S.led
 symm
 refine ⟨_,T1,⟨nod,os,hos,el,fun p hp=>?_⟩,S.nx,⟨⟨_,es,ep,S.fr.keep _ _ hs,hd,hk,hn⟩,K1,by rw [T1.size]; exact FG.above⟩,S.gens,S.rn⟩
 obtain ⟨z1,z2,z3⟩:=(N p hp)
 refine ⟨z1,(fun q=>by rw [q,hs] at z3; cases z3),T1.none_ _ ?_⟩
 cases q:O.get? p.1 with
 | none=>rfl
 | some o=>
  obtain ⟨sl',q'⟩:=(T.up (st _ _ q))
  rw [q'] at z3; cases z3
theorem nH{env':Env}{L':Addr}(hA:A.frames=some (env::outer))(hf:env.frame=some L)(hf':env'.frame=some L'):cT (A.deeper env')=L::outer.filterMap (·.frame)/\jM (A.deeper env')=L'::L::outer.filterMap (·.frame):=by
 have e:=Around.frames_deeper (env:=env') hA
 constructor
 ·unfold cT; rw [e,Option.getD_some]; show (env::outer).filterMap _=_; rw [List.filterMap_cons,hf]
 ·unfold jM; rw [e,Option.getD_some,List.filterMap_cons,hf',List.filterMap_cons,hf]
def oS(r:aF)(aO:SX):kB:=fun gs H nx R k kx=>EP r gs H nx fun loc H nx=>aO H nx R loc (fun gf H nx R q0=>xJ gf H nx R k) kx
structure gu (x:aR) (d:Nat) (r:aF) (aO:SX) (fa:Addr):Prop where
 ok:∃vs body D,br x vs r fa body D/\bS x d vs aO body
 keep:keepIn x.K (.ref fa)=true
 fn:isFn x.K (.ref fa)=true
theorem jD(hT:x.T.Nodup)(hD:("__debug__" : Str)∉x.T){r:aF}{aO:SX}{fa:Addr}(hf:gu x d r aO fa):iG x (d+1) (oS r aO) (.ref fa):=by
 intro gs H nx R k kx h A O L m J s us Q E Z S iu hQ hE
 symm
 obtain ⟨vs,body,D,ok,hb⟩:=hf.ok
 obtain ⟨A₀,base,outer,env,B,hA,hfr,hk,top,ko⟩:=Z.z
 symm
 have eO:cT A=outer.filterMap (·.frame):=by unfold cT; rw [hA]; rfl
 have eF:jM A=L::outer.filterMap (·.frame):=by unfold jM; rw [hA,Option.getD_some,List.filterMap_cons,hfr]
 refine wpAny_call (lX (c:=fun loc H nx=>aO H nx R loc (fun gf H nx R q0=>xJ gf H nx R k) kx) hT hD ok h Z.here S iu fun g L' m' J' H' nx' loc' s1 env' base' outer' env1 e2 le2 Fg st q0 B' hA' hf' Hh' En' S' Lo' low lv=>?_)
 obtain ⟨e1,e2'⟩:=(nH hA hfr En'.frame)
 have Bz:Below A base (env::outer) g:=⟨hA,(pushX B Fg hfr hk).stays,(pushX B Fg hfr hk).frames⟩
 have Z':de x d (A.deeper env') g L':=⟨Hh',A,base,env::outer,env',Bz,Around.frames_deeper hA,En'.frame,En'.kind,top,fun b hb=>by
  rw [List.filterMap_cons,hfr] at hb
  rcases List.mem_cons.mp hb with rfl | hb
  ·cases q:x.K.lookup b with
   | none=>rfl
   | some o=>have:=Z.here.X b o q; rw [kts_self Fg] at this; cases this
  ·exact ko b hb⟩
 refine wpAny_mono (hb H' nx' R loc' _ kx e2 (A.deeper env') env' g L' m' J' s1 _ (fun e s'=>wpAny (model x.prog x.w) (A.deeper env') (leaving env' e) (fun q0 s''=>E e s'') (fun e' s''=>E e' s'') s') Z' En' S' Lo' (fun g2 J'' H'' nx'' R'' loc'' m'' s'' gf fl T le3 S'' Lo'' hfl hk=>?_) fun g2 J'' H'' nx'' R'' m'' s'' i e T le3 U hk=>?_) (fun fl s' hl=>hl) fun q0 q0 y=>y
 ·rw [e1] at T
  obtain ⟨h₁,T1,S3⟩:=(St.back B Fg st T S'')
  rw [<- eO] at T1
  cases hfl with
  | next=>exact hQ h₁ _ _ _ _ _ _ _ T1 (le2.trans le3) S3 .none hk
  | brk=>cases hk
  | cont=>cases hk
  | ret i=>exact hQ h₁ _ _ _ _ _ _ _ T1 (le2.trans le3) S3 i hk
 ·obtain ⟨G,fs,oe,SG,hi,hoe,F,o1,o2,o3⟩:=U.ex
  have Tr:=T
  rw [e1] at T
  obtain ⟨h₁,T1,S3⟩:=(St.back B Fg st T SG)
  rw [<- eO] at T1
  rw [e2'] at o2 o3
  symm
  have Z2:=Z'.turn Tr
  obtain ⟨A₂,base₂,outer₂,env₂,B₂,hA₂,hf₂,hk₂,q0⟩:=Z2.z
  symm
  have hFF:=(pushX B₂ SG.fr hf₂ hk₂).frames
  have eq2:env₂::outer₂=env'::env::outer:=Option.some.inj (hA₂.symm.trans (Around.frames_deeper hA))
  rw [eq2] at hFF
  have efm:(env'::env::outer).filterMap (·.frame)=L'::L::outer.filterMap (·.frame):=by rw [List.filterMap_cons,En'.frame,List.filterMap_cons,hfr]
  have ne:e∉(env'::env::outer).filterMap (·.frame):=fun q=>o1 e (List.mem_of_getElem? hi) (o3 e (by rw [efm] at q; exact q))
  unfold leaving
  refine wpAny_bind (F.note (Around.frames_deeper hA) (F.frames hFF ne) En'.frame (fun b hb=>o3 b (by rw [efm] at hb; exact hb)) fun h' F'=>?_)
  refine gQ.land (s:={ s'' with heap:=h' }) F' (.inl (by simp [rawInt])) fun h2 F2=>?_
  refine hE h₁ J'' H'' nx'' R'' m _ i e T1 (le2.trans le3) ⟨G,fs,oe,S3,hi,hoe,F2,o1,fun a ha=>?_,fun a ha=>o3 a (.tail _ (by rw [eF] at ha; exact ha))⟩ hk
  have nn:g2.get? a=none->h₁.get? a=none:=fun q=>by
   refine T1.none_ _ ?_
   cases q3:O.get? a with
   | none=>rfl
   | some o=>
    obtain ⟨sl',q'⟩:=(T.up (st _ _ q3))
    rw [q'] at q; cases q
  rcases o2 a ha with q | q
  ·exact .inl (nn q)
  ·rw [eF]
   rcases List.mem_cons.mp q with rfl | q
   ·exact .inl (nn (kts_self SG.fr))
   ·exact .inr q
noncomputable def gg(o:kB)(l:LV):EX:=fun H nx R loc k kx=>l H nx R loc fun gs H nx R=>o gs H nx R k kx
theorem d6{i a:Nat}{t:Str}{v:Value}{o:kB}{l:LV}{es:List Expr}(hv:vs[i]?=some (a,.glo))(ht:x.T[a]?=some t)(hm:bp x t v)(ho:iG x d o v)(hl:eg x d vs l es)(hp:bx es=true)
  (hk:keepIn x.K v=true) (p pos:Pos):fZ x d vs (gg o l) (.Call (.Name t p) es [] pos):=by
 intro H nx R loc k kx h A env O L m J s Q E Z En S Lo hQ hE
 refine Call_Name rfl (ik hv ht hm Z.here En S Lo ?_ p)
 exact gY hl hp hk h Z.here En S Lo fun J' H nx R s gs us le S' i hk'=>ho gs H nx R k kx hk' A O L m J' s us Q E Z S' i (hQ.le .refl le) (hE.le .refl le)
def t9(C0:Nat)(r:aF)(aO:SX)(f:EV)(a:Nat)(l:LV):EX:=fun H nx R loc k kx=>f H nx R loc fun g H nx R=>bU g fun i=>hV (H.get i) fun C dd=>eM (H.get dd) fun es=>zV es a (@Bool.rec (fun q0=>Bool) false (l H nx R loc fun gs H nx R=>oS r aO (g::gs) H nx R k kx) (Nat.beq C C0))
theorem sr(hT:x.T.Nodup)(hD:("__debug__" : Str)∉x.T){C0:Nat}{r:aF}{aO:SX}{cx fI:Addr}{f:EV}{o:Expr}{a:Nat}{t:Str}{l:LV}{es:List Expr}(c1:x.CT[C0]?=some cx)(c4:plainGet x.K cx t=true)(c5:findIn x.K (.ref cx) t=some (some (.ref fI)))(c6:gu x d r aO fI)
  (hf:aK x (d+1) vs f o) (hl:eg x (d+1) vs l es) (ht:x.T[a]?=some t)
  (hc:jb o=true) (hp:bx es=true) {apos pos:Pos} (hline:(apos.endLine == pos.line)=true) (hn:es.length<30):fZ x (d+1) vs (t9 C0 r aO f a l) (.Call (.Attribute o t apos) es [] pos):=by
 intro H nx R loc k kx h A env O L m J s Q E Z En S Lo hQ hE
 refine fc hc hp hline hn (hf H nx R loc _ h A env O L m J s _ E Z.here En S Lo fun J1 H1 nx1 R1 s1 g v1 le1 S1 i1 h1 pl=>?_)
 symm
 obtain ⟨i,rfl,h2⟩:=bn h1
 obtain ⟨C,dd,hi,h3⟩:=fg h2
 obtain ⟨es',hd,h4⟩:=dL h3
 obtain ⟨nn,h4b⟩:=(vP h4)
 obtain ⟨q,h6⟩:=aJ h4b
 have q:=Nat.eq_of_beq_eq_true q
 subst q
 obtain ⟨q0,rfl,ha⟩:=i1
 obtain ⟨cx',dx,ds,n,e1,e2,e3,e4⟩:=(S1.led.inst (l:=0) hi hd ha)
 symm
 rw [c1] at e1; cases e1
 refine method_inst S1.fr Z.here.X e4 c4 c5 c6.fn (e3.none hT ht nn) ?_
 exact gY hl hp c6.keep h6 Z.here En S1 (Lo.more le1) fun J' H nx R s gs us le S' iu hk'=>
  jD hT hD c6 _ H nx R k kx hk' A O L m J' s _ Q E Z S' (.cons (Is.own (aE le.1 ha)) iu) (hQ.le .refl (le1.trans le)) (hE.le .refl (le1.trans le))
def pR(o:GO)(k:Nat->GV->Bool):Bool:=@GO.rec (fun q0=>Bool) false (fun q0=>false) (fun q0=>false) (fun q0 q0=>false) (fun q0=>false) false (fun q0=>false) (fun q0=>false) (fun q0=>false) (fun q0=>false) (fun q0 q0=>false) (fun q0 q0=>false) (fun q0 q0=>false) (fun q0=>false) (fun q0=>false) (fun q0=>false) false (fun q0=>false) (fun C d=>k C d) (fun q0 q0=>false) (fun q0 q0=>false) (fun q0 q0=>false) (fun q0 q0=>false) o
theorem lJ{o:GO}{k:Nat->GV->Bool}(h:pR o k=true):∃C d,o=.exn C d/\k C d=true:=by cases o <;> first | (cases h; done) | exact ⟨_,_,rfl,h⟩
def nv(C0:Nat)(f:EV):SX:=fun H nx R loc k kx=>f H nx R loc fun g H nx R=>bU g fun i=>pR (H.get i) fun C q0=>@Bool.rec (fun q0=>Bool) false (kx i H nx R) (Nat.beq C C0)
theorem lR{C0:Nat}{cx:Addr}(c1:some C0=some cx)(c2:excIn x.K cx){f:EV}{e:Expr}(hf:aK x d vs f e)(pos:Pos):bS x d vs (nv C0 f) [.Raise (some e) none pos]:=by
 intro H nx R loc k kx h A env O L m J s Q E Z En S Lo hQ hE
 refine gb (GS Z.here.hnd c2 (hf H nx R loc _ h A env O L m J s _ E Z.here En S Lo fun J1 H1 nx1 R1 s1 g v1 le1 S1 i1 h1=>?_))
 symm
 obtain ⟨i,rfl,h2⟩:=bn h1
 obtain ⟨C,dd,hi,h3⟩:=lJ h2
 obtain ⟨q,h4⟩:=aJ h3
 have q:=Nat.eq_of_beq_eq_true q
 subst q
 obtain ⟨ea,rfl,ha⟩:=i1
 obtain ⟨o,o1,o2,o3,o4⟩:=(S1.led.obj ha)
 rw [hi] at o4
 have go:∃t,o.cls=.ref cx/\o.data=.fields #[.ref t,.none,.none,.none,.bool false,.none]:=by
  rcases o4 with ⟨_,t,q,⟨_,rfl⟩ | ⟨_,_,_,_,rfl⟩⟩ <;> (rw [c1] at q; cases q; exact ⟨_,rfl,rfl⟩)
 obtain ⟨t,g1,g2⟩:=go
 obtain ⟨A₀,base,outer,env1,B,hA,hfr,hk,eO,eF⟩:=Z.fr
 symm
 refine ⟨ea,o,_,rfl,Z.here.X.keeps S1.fr.keep,o1,g1,g2,rfl,?_⟩
 refine hE O J1 H1 nx1 R1 m s1 i ea .refl le1 ⟨s1.heap,jM A,o,S1,ha,o1,gQ.here o1 g2 rfl,fun a hm q=>?_,fun a q=>.inr q,fun a q=>q⟩ h4
 rw [eF] at q
 symm
 obtain ⟨kk,hkk⟩:=(List.mem_iff_getElem?.mp hm)
 obtain ⟨q0,q0,n1,n2,q0⟩:=(S1.led.obj hkk)
 symm
 rcases List.mem_cons.mp q with q | q
 ·exact n1 q
 ·rw [eO] at q
  symm
  obtain ⟨q0,o',ho',q0⟩:=(B.frames.mem q)
  symm
  rw [n2] at ho'; cases ho'
end
end
section
structure nj (x:aR) (C0:Nat) (cx:Addr):Prop where
 ct:some C0=some cx
 exc:excIn x.K cx
 over:iA x.K cx
 sa:findIn x.K (.ref cx) "__setattr__" = some (some (.builtin "object.__setattr__"))
 ga:findIn x.K (.ref cx) "__getattribute__" = some (some (.builtin "BaseException.__getattribute__"))
 gt:findIn x.K (.ref cx) "__getattr__" = some none
 hd:hasDictIn x.K cx=true
section
variable {x:aR} {d:Nat} {vs:aq} {J J':az} {H:Tr} {nx:Nat} {R:Rn} {O g g':Heap} {L L':Addr} {m m':Str->Option Value} {s:Shared} {A A₀:Around} {E:Value->Shared->Prop} {env:Env} {loc:List GV}
def uT(C0 a:Nat)(o g:GV)(H:Tr)(nx:Nat)(k:Tr->Nat->Bool):Bool:=eH g (bU o fun i=>pR (H.get i) fun C dd=>@Bool.rec (fun q0=>Bool) false
 (@GV.rec (fun q0=>Bool) false (H.set 24 nx (.idict [(a,g)]) fun H=>H.set 24 i (.exn C0 (.own nx)) fun H=>fN (Nat.succ nx) fun nx=>k H nx) (fun q0=>false) (fun q0=>false) (fun q0=>false) (fun q0=>false) (fun q0=>false)
  (fun j=>eM (H.get j) fun es=>@Bool.rec (fun q0=>Bool) false (gM a g es fun es=>H.set 24 j (.idict es) fun H=>k H nx) (mM 100 es)) false dd) (Nat.beq C C0))
theorem OT{dd:GV}{b:Bool}{k:Nat->Bool}(h:@GV.rec (fun q0=>Bool) false b (fun q0=>false) (fun q0=>false) (fun q0=>false) (fun q0=>false) (fun q0=>false) (fun j=>k j) false dd=true):(dd=.none/\b=true)∨∃j,dd=.own j/\k j=true:=by
 cases dd <;> first | (cases h; done) | exact .inl ⟨rfl,h⟩ | exact .inr ⟨_,rfl,h⟩
theorem wn(hT:x.T.Nodup){C0:Nat}{cx:Addr}(hc:nj x C0 cx){a:Nat}{t:Str}(ht:x.T[a]?=some t)(la:a<x.nd)(hn:findIn x.K (.ref cx) t=some none){o g:GV}{k:Tr->Nat->Bool}(h:uT C0 a o g H nx k=true)(Hh:ck x d A O L)(S:St x J H nx R O L m s)
  {u v:Value} (iu:Is x.T J o u) (iv:Is x.T J g v) {Q:Unit->Shared->Prop} (hQ:∀J' H' nx' s',J.le J'->k H' nx'=true->St x J' H' nx' R O L m s'->Q () s'):wpAny (model x.prog x.w) A (setAttr u t v) Q E s:=by
 have vs:aq:=[]
 have loc:List GV:=[]
 have env:Env:=default
 revert hT hc ht la hn h Hh S iu iv hQ
 revert C0 cx a t o g u v
 revert E
 revert Q
 revert s
 revert J
 revert m
 revert L
 revert O
 revert env
 revert A
 revert k
 revert loc
 revert R
 revert nx
 revert H
 revert vs
 revert d
 revert x
 refine @pJ _ _ _ _ ?_
 generalize (dk _ _).x=x,(dk _ _).d=d,(dk _ _).vs=vs,(dk _ _).H=H,(dk _ _).nx=nx,(dk _ _).R=R,(dk _ _).loc=loc,(dk _ _).k=k,(dk _ _).A=A,(dk _ _).env=env,(dk _ _).O=O,(dk _ _).L=L,(dk _ _).m=m,(dk _ _).J=J,(dk _ _).s=s,(dk _ _).Q=Q,(dk _ _).E=E
 intro C0 cx a t o g u v
 intro hT hc ht la hn h Hh S iu iv hQ
 obtain ⟨q0,h1⟩:=cQ h
 obtain ⟨i,rfl,h2⟩:=bn h1
 obtain ⟨C,dd,hi,h3⟩:=lJ h2
 obtain ⟨q,h4⟩:=aJ h3
 have q:=Nat.eq_of_beq_eq_true q
 subst q
 obtain ⟨ea,rfl,ha⟩:=iu
 obtain ⟨ox,o1,q0,q0,o4⟩:=(S.led.obj ha)
 rw [hi] at o4
 obtain ⟨os,hos,el,N⟩:=S.led.at_
 have il:i<os.length:=el▸aN ha
 have hoi:=List.getElem?_eq_getElem il
 have eo:os[i]=ox:=Option.some.inj ((N _ (cn ha hoi)).1.symm.trans o1)
 rw [eo] at hoi
 rcases OT h4 with ⟨rfl,h5⟩ | ⟨j,rfl,h5⟩
 ·obtain ⟨H1,a1,h6⟩:=Tr.set_ok _ _ _ _ _ h5
  obtain ⟨H2,a2,h7⟩:=Tr.set_ok _ _ _ _ _ h6
  rw [bP] at h7
  obtain ⟨cx',t0,c1,rfl⟩:=o4.exn0_inv
  rw [hc.ct] at c1; cases c1
  obtain ⟨pre,post,e1,q0,p1,p2⟩:=(ey (o':=Obj.mk (.ref cx) none (.fields #[]) #[]) S.led.nod ha hoi).split
  have N0:=N
  rw [e1] at N0
  have lts:∀p∈J.as.zip os,p.1<s.heap.objs.size:=fun p hp=>Heap.lt_size (N p hp).1
  refine GP S.fr N0 (Hh.X.keeps S.fr.keep) rfl rfl rfl hc.sa hc.over hn hc.hd p1 p2 (by rw [<- e1]; exact lts) fun h' dx F' N' lt=>?_
  rw [<- e1] at lt
  have le:=az.le_push J dx
  refine hQ (J.push dx) H2 _ _ le h7 ⟨⟨pc el S.led.nod lt,os.set i { cls:=.ref cx,dict:=some dx,data:=.fields #[.ref t0,.none,.none,.none,.bool false,.none] }++[dictOf [⟨PyData.keyHash x.w.params t,.str t (s.toks+1),v⟩] 1],fun k y hk=>?_,by simp [az.push,el],?_⟩,by simp [az.push,S.nx],F',S.gens,S.rn⟩
  ·rw [a2,a1]
   by_cases e:k=i
   ·subst e
    rw [List.getElem?_append_left (by simpa using il),List.getElem?_set_self il] at hk
    cases hk
    rw [if_pos rfl]
    exact .exn hc.ct (by rw [<- S.nx]; exact eE J dx)
   ·rw [if_neg e]
    by_cases e2:k=nx
    ·subst e2
     rw [if_pos rfl]
     rw [List.getElem?_append_right (by rw [List.length_set,<- el,S.nx]; exact Nat.le_refl _),List.length_set,<- el,S.nx,Nat.sub_self] at hk
     cases hk
     exact .idict 1 (.cons la ht rfl (iv.more le) .nil)
    ·rw [if_neg e2]
     have lt':k<os.length:=by
      have:=aN hk
      simp at this
      have:=S.nx
      lia
     rw [List.getElem?_append_left (by simpa using lt'),List.getElem?_set_ne (Ne.symm e)] at hk
     exact (hos k y hk).more le
  ·show News O L h' ((J.as++[dx]).zip _)
   rw [oz (by rw [List.length_set]; exact el)]
   intro p hp
   rcases List.mem_append.mp hp with hp | hp
   ·refine N' p (.tail _ ?_)
    obtain ⟨kk,z1,z2⟩:=(kZ hp)
    by_cases e:kk=i
    ·subst e
     rw [List.getElem?_set_self il] at z2
     rw [ha] at z1
     obtain ⟨pa,pb⟩:=p
     cases z1
     cases z2
     exact List.mem_append_right _ (.head _)
    ·rw [List.getElem?_set_ne (Ne.symm e)] at z2
     have hm:=cn z1 z2
     rw [e1] at hm
     rcases List.mem_append.mp hm with hm | hm
     ·exact List.mem_append_left _ hm
     ·rcases List.mem_cons.mp hm with q | hm
      ·have q:p=(ea,_):=q
       rw [q] at z1
       exact absurd ((List.getElem?_inj (aN z1) S.led.nod).mp (z1.trans ha.symm)) e
      ·exact List.mem_append_right _ (.tail _ hm)
   ·rw [List.mem_singleton.mp hp]; exact N' _ (.head _)
 ·obtain ⟨es,hd,h6⟩:=dL h5
  obtain ⟨hz,h7⟩:=aJ h6
  obtain ⟨cx',dx,t0,c1,c2,rfl⟩:=o4.exn_inv
  rw [hc.ct] at c1; cases c1
  obtain ⟨od,d1,q0,q0,d4⟩:=(S.led.obj c2)
  rw [hd] at d4
  obtain ⟨ds,n,rfl,he⟩:=d4
  have hod:os[j]?=some (dictOf ds n):=by
   have jl:j<os.length:=el▸aN c2
   have z:=List.getElem?_eq_getElem jl
   rw [z]; exact (N _ (cn c2 z)).1.symm.trans d1
  obtain ⟨es',h8,h9⟩:=(dh.put hT (hs:=PyData.keyHash x.w.params t) ht la iv (s.toks+1) he h7)
  obtain ⟨H',hA,h10⟩:=Tr.set_ok _ _ _ _ _ h8
  let o':=dictOf (PySem.W.putL t (PyData.keyHash x.w.params t) (.str t (s.toks+1)) v ds) (PySem.W.putN t ds n)
  obtain ⟨pre,post,e1,e2,p1,p2⟩:=(ey (o':=o') S.led.nod c2 hod).split
  have N0:=N
  rw [e1] at N0
  refine Gm (od':=o') S.fr N0 (Hh.X.keeps S.fr.keep) (⟨o1,rfl,rfl,d1⟩) rfl hc.sa hc.over hn hc.hd (he.isSome t) p1 p2 (putName_dict _ _ _ _ _ _) rfl ?_ fun h' F' N'=>hQ J H' nx _ (.refl _) h10 (S.set hos el F' c2 (by rw [e2]; exact N') (.idict _ h9) hA (s.toks+2))
  have:=iS t (PyData.keyHash x.w.params t) (.str t (s.toks+1)) v ds
  have:=ja hz
  rw [he.length] at this
  lia
def ze(C0:Nat)(f:EV)(a:Nat):AV:=fun g H nx R loc k=>f H nx R loc fun o H nx R=>uT C0 a o g H nx fun H nx=>k H nx R loc
theorem qN(hT:x.T.Nodup){C0:Nat}{cx:Addr}(hc:nj x C0 cx){f:EV}{o:Expr}(hf:aK x d vs f o){a:Nat}{t:Str}(ht:x.T[a]?=some t)(la:a<x.nd)(hn:findIn x.K (.ref cx) t=some none)(pos:Pos):dQ x d vs (ze C0 f a) (.Attribute o t pos):=by
 intro g H nx R loc k h A env O L m J s v Q E Hh En S Lo iv hQ
 refine kas_attr (hf H nx R loc _ h A env O L m J s _ E Hh En S Lo fun J1 H1 nx1 R1 s1 o' u le1 S1 iu h1=>?_)
 exact wn hT hc ht la hn h1 Hh S1 iu (iv.more le1) fun J2 H2 nx2 s2 le2 h2 S2=>hQ J2 H2 nx2 R1 loc m s2 (le1.trans le2) S2 (Lo.more (le1.trans le2)) h2
end
end
section
section
variable {x:aR} {d:Nat} {vs:aq} {J J':az} {H:Tr} {nx:Nat} {R:Rn} {O g g':Heap} {L L':Addr} {m m':Str->Option Value} {s:Shared} {A A₀:Around} {E:Value->Shared->Prop} {env:Env} {loc:List GV}
def Ev(C:Nat)(r:aF)(aO:SV):ce:=fun gs H nx R k=>@Bool.rec (fun q0=>Bool) false (H.set 24 nx (.exn C .none) fun H=>fN (Nat.succ nx) fun n1=>eX r aO (.own nx::gs) H n1 R fun g H nx' R=>lH g (k (.own nx) H nx' R)) (fj 30 gs)
structure J6 (x:aR) (d:Nat) (C:Nat) (r:aF) (aO:SV) (cx fI:Addr):Prop where
 ex:nj x C cx
 init:findIn x.K (.ref cx) "__init__" = some (some (.ref fI))
 fn:aU x d r aO fI
theorem BF(hT:x.T.Nodup)(hD:("__debug__" : Str)∉x.T){C:Nat}{r:aF}{aO:SV}{cx fI:Addr}(hc:J6 x d C r aO cx fI):cL x (d+2) (Ev C r aO) (.ref cx):=by
 intro gs H nx R k h A O L m J s us Q E Hh S iu hQ
 symm
 obtain ⟨hz,h⟩:=aJ h
 obtain ⟨H1,a1,h⟩:=Tr.set_ok _ _ _ _ _ h
 rw [bP] at h
 obtain ⟨os,hos,el,N⟩:=S.led.at_
 symm
 refine Gf S.fr N (Hh.X.keeps S.fr.keep) hc.ex.exc hc.init (beq_iff_eq.mp hc.fn.fn) (by have:=cX hz; rw [iu.length] at this; exact Nat.le_trans this (by decide)) fun e t h' F' N' lt1 lt2=>?_
 have le:=az.le_push J e
 have S1:St x (J.push e) H1 (nx+1) R O L m { s with heap:=h' }:=S.made' hos el F' (fun p hp=>by
  rcases List.mem_cons.mp hp with rfl | hp
  ·exact N' _ (.head _)
  ·exact N' p (.tail _ (.tail _ hp))) (fun p hp=>Nat.lt_trans (lt1 p hp) lt2) (.exn0 hc.ex.ct) a1
 have ie:Is x.T (J.push e) (.own nx) (.ref e):=.own (by rw [<- S.nx]; exact eE J e)
 have Hu:ck x (d+1) (A.under (.builtin "type.__call__" ⟨.ref cx::us,[]⟩)) O L:=by
  obtain ⟨⟨A₀,base,outer,env,B,hA,hf,hke⟩,X,top,room,hnd,units⟩:=Hh
  refine ⟨⟨A₀,base,outer,env,B,?_,hf,hke⟩,X,top,?_,hnd,?_⟩
  ·exact hA
  ·show A.depth+1+(d+1)<_; lia
  ·show A.units+1+4 * (d+1)+40<_; lia
 refine cE hT hD hc.fn _ H1 _ R _ h _ O L m _ _ _ _ E Hu S1 (.cons ie (iu.more le)) fun J' H nx R s g v le' S' i hk=>?_
 obtain ⟨rfl,hk⟩:=lI hk
 cases i
 exact ⟨rfl,hQ _ _ _ _ _ _ _ (le.trans le') S' (ie.more le') hk⟩
def Va(C0:Nat)(l:LV):EV:=fun H nx R loc k=>l H nx R loc fun gs H nx R=>@List.rec GV (fun q0=>Bool) false (fun g r q0=>bU g fun i=>pR (H.get i) fun C q0=>@Bool.rec (fun q0=>Bool) false (k .none H nx R) (Nat.beq C C0&&fj 30 r)) gs
set_option tactic.hygienic true in
theorem Pj{C0:Nat}{cx:Addr}(hc:nj x C0 cx){i a:Nat}{t:Str}(hv:vs[i]?=some (a,.glo))(ht:x.T[a]?=some t)(hm:bp x t (.type "Exception"))(he:findCls x.K (.type "Exception") (.type "type") "__init__" = some (.val (.builtin "Exception.__init__")))
  {l:LV} {es:List Expr} (hl:eg x d vs l es) (hp:bx es=true) {p apos pos:Pos} (hline:(apos.endLine == pos.line)=true) (hn:es.length<30):aK x d vs (Va C0 l) (.Call (.Attribute (.Name t p) "__init__" apos) es [] pos):=by
 intro H nx R loc k h A env O L m J s Q E Hh En S Lo hQ
 refine fc rfl hp hline hn (ik hv ht hm Hh En S Lo (fun pl=>?_) p)
 refine method_type S.fr Hh.X (by kernel_rfl) (by decide +kernel) he rfl ?_
 refine fq hl hp h Hh En (S.toks (s.toks+1)) Lo fun J1 H1 nx1 R1 s1 gs us le1 S1 iu h1=>?_
 cases iu with
 | nil=>cases h1
 | @cons g0 v0 gs us i0 ir=>
 symm
 obtain ⟨j,rfl,h2⟩:=bn h1
 obtain ⟨C,dd,hi,h3⟩:=lJ h2
 obtain ⟨q,h4⟩:=aJ h3
 obtain ⟨q,hz⟩:=Bool.and_eq_true_iff.mp q
 have q:=Nat.eq_of_beq_eq_true q
 subst q
 obtain ⟨ea,rfl,ha⟩:=i0
 obtain ⟨ox,o1,q0,q0,o4⟩:=(S1.led.obj ha)
 rw [hi] at o4
 have go:∃t0 dd',ox = { cls:=.ref cx,dict:=dd',data:=.fields #[.ref t0,.none,.none,.none,.bool false,.none] }/\∀t1,aL x.T x.CT x.nd (x.prog,x.w) J1 (.exn C dd) { cls:=.ref cx,dict:=dd',data:=.fields #[.ref t1,.none,.none,.none,.bool false,.none] }:=by
  rcases o4 with ⟨_,t,c1,⟨rfl,rfl⟩ | ⟨_,_,rfl,c2,rfl⟩⟩
  ·rw [hc.ct] at c1; cases c1; exact ⟨_,none,rfl,fun t1=>.exn0 hc.ct⟩
  ·rw [hc.ct] at c1; cases c1; exact ⟨_,_,rfl,fun t1=>.exn hc.ct c2⟩
 obtain ⟨t0,dd',rfl,hob⟩:=go
 symm
 refine Gw (Hh.X.keeps S1.fr.keep) hc.exc o1 rfl rfl rfl (by have:=cX hz; rw [ir.length] at this; exact Nat.le_trans this (by decide)) ?_
 have hx1:=Heap.get?_push_of_some { cls:=.type "tuple",data:=.seq us.toArray } o1
 refine (hQ.le le1).here (S1.updT (H':=H1) (g:=.exn C dd) ha (fun b o hb e=>(Heap.get?_update_other _ _ (Ne.symm hb)).trans (Heap.get?_push_of_some _ e)) (Heap.get?_update_self _ hx1 (by rfl)) (hob s1.heap.objs.size) (fun k' q0=>?_) s1.toks) .none h4
 split
 ·rename_i e; rw [e,hi]
 ·rfl
noncomputable def Nm(o:ce)(l:LV):EV:=fun H nx R loc k=>l H nx R loc fun gs H nx R=>o gs H nx R k
theorem Gg{i a:Nat}{t t2:Str}{cb fI:Addr}{mc:Value}{o:ce}(hv:vs[i]?=some (a,.glo))(ht:x.T[a]?=some t)(hm:bp x t (.ref cb))(hg:specialIn x.K (.ref cb) "__getattribute__" = some (some (.builtin "type.__getattribute__")))(hr:readsIn x.K cb mc=true)
  (he:findCls x.K (.ref cb) mc t2=some (.val (.ref fI))) (ho:cL x d o (.ref fI)) (hk:keepIn x.K (.ref fI)=true)
  {l:LV} {es:List Expr} (hl:eg x d vs l es) (hp:bx es=true) {p apos pos:Pos} (hline:(apos.endLine == pos.line)=true) (hn:es.length<30):aK x d vs (Nm o l) (.Call (.Attribute (.Name t p) t2 apos) es [] pos):=by
 intro H nx R loc k h A env O L m J s Q E Hh En S Lo hQ
 refine fc rfl hp hline hn (ik hv ht hm Hh En S Lo (fun pl=>?_) p)
 refine method_cls (Hh.X.keeps S.fr.keep) hg (cls_value (Hh.X.keeps S.fr.keep) hr he rfl ?_)
 exact gY hl hp hk h Hh En (S.toks (s.toks+1)) Lo fun J' H nx R s gs us le S' i hk'=>ho gs H nx R k hk' A O L m J' s us Q E Hh S' i (hQ.le le)
def yv(i:Nat)(tab:List (Nat × List Nat))(k:List Nat->Bool):Bool:=@List.rec (Nat × List Nat) (fun q0=>Bool) false (fun p q0 ih=>@Bool.rec (fun q0=>Bool) ih (k p.2) (Nat.beq p.1 i)) tab
theorem vK{i:Nat}{k:List Nat->Bool}:∀{tab:List (Nat × List Nat)},yv i tab k=true->∃n,(i,n)∈tab/\k n=true
 | [],h=>by cases h
 | p::r,h=>by
  have h:@Bool.rec (fun q0=>Bool) (yv i r k) (k p.2) (Nat.beq p.1 i)=true:=h
  cases q:Nat.beq p.1 i with
  | true=>
   rw [q] at h
   have:p.1=i:=Nat.eq_of_beq_eq_true q
   exact ⟨p.2,by rw [<- this]; exact .head _,h⟩
  | false=>
   rw [q] at h
   obtain ⟨n,h1,h2⟩:=(vK (tab:=r) h)
   exact ⟨n,.tail _ h1,h2⟩
def Ek(x:aR)(tab:List (Nat × List Nat)):Prop:=∀i n,(i,n)∈tab->(n.all fun n=>Nat.ble n 255)=true/\n.length<=sizeLine/\∃t,x.T[i]?=some t/\∀u v,Builtin.«str.encode» ⟨[.str t u,.str (Str.ofString "ascii") v],[]⟩=(do ret (<- mkBytes (n.map UInt8.ofNat).toArray))
def IL(tab:List (Nat × List Nat))(f:EV):EV:=fun H nx R loc k=>f H nx R loc fun g H nx R=>oQ g fun i=>yv i tab fun n=>k (.byt (jm n)) H nx R
theorem FV{tab:List (Nat × List Nat)}(ht:Ek x tab){f:EV}{e:Expr}(hf:aK x d vs f e)(hc:jb e=true){kd:Nat}{cp apos pos:Pos}(hline:(apos.endLine == pos.line)=true):aK x d vs (IL tab f) (.Call (.Attribute e "encode" apos) [.Constant (.str "ascii") kd cp] [] pos):=by
 intro H nx R loc k h A env O L m J s Q E Hh En S Lo hQ
 refine fc hc rfl hline (by simp) (hf H nx R loc _ h A env O L m J s _ E Hh En S Lo fun J1 H1 nx1 R1 s1 g v1 le1 S1 i1 h1 pl=>?_)
 symm
 obtain ⟨i,rfl,h2⟩:=gO h1
 obtain ⟨n,hn,h3⟩:=(vK h2)
 obtain ⟨ha,hz,t,hi,he⟩:=(ht i n hn)
 obtain ⟨t',u,rfl,hi'⟩:=i1
 symm
 rw [hi] at hi'; cases hi'
 refine getMethod_builtin (typeIs_str _ _ _) F.plainAttrs_str F.slot_str_encode F.type_str_encode (fun q0 e=>nomatch e) ?_
 refine callWith_builtin (fK rfl env pos) (jy rfl ?_)
 refine spliced_more (Constant_str ?_) rfl
 refine spliced_none ?_
 refine wpAny_call_entry F.slot_str_encode (typeIs_str _ _ _) F.entry_str_encode ?_
 show wpAny _ _ (Builtin.«str.encode» ⟨[.str t u,.str (Str.ofString "ascii") _],[]⟩) _ _ _
 rw [he]
 refine wpAny_bind (wpAny_mkBytes (hb:=by simpa using hz) ?_)
 refine wpAny_pure ⟨_,rfl,?_⟩
 have e2:iy ((jm n).map (GI.ev J1.ns))=(n.map UInt8.ofNat).toArray:=by
  unfold iy jm
  rw [List.map_map,List.map_map]
  rfl
 rw [<- e2]
 refine hQ J1 H1 nx1 R1 _ _ _ le1 (S1.toks _) (.byt _ fun g hg=>?_) h3
 obtain ⟨n',hn',rfl⟩:=(List.mem_map.mp hg)
 have:=Nat.le_of_ble_eq_true (List.all_eq_true.mp ha n' hn')
 refine ⟨trivial,?_,?_⟩
 ·show (0:Int)<=(n':Int); lia
 ·show (n':Int)<256; lia
end
end
section
section
variable {x:aR} {d:Nat} {vs:aq} {J J':az} {H H':Tr} {nx:Nat} {R:Rn} {O g g' h' G:Heap} {L L' e:Addr} {m m':Str->Option Value} {s:Shared} {A A₀:Around} {E:Value->Shared->Prop} {env:Env} {loc:List GV} {fs:List Addr} {oe:Obj} {fl:Value} {i:Nat}
theorem Aq(Z:de x d A g L)(SG:St x J H nx R g L m { s with heap:=G })(hi:J.as[i]?=some e)(hoe:G.get? e=some oe)(F:gQ G fs e oe.cls oe.dict fl h')(o1:∀a∈J.as,a∉fs)(o2:∀a∈fs,g.get? a=none∨a∈jM A)
  {C j:Nat} (hH:H.get i=.exn C (.own j)) (hA:At H H' i (.exc C j)):∃g',KtsTurn (cT A) g g'/\St x J H' nx R g' L m { s with heap:=h' }:=by
 symm
 obtain ⟨A₀,base,outer,env,B,hAf,hf,hk,eO,eF⟩:=Z.fr
 have ge:g.get? e=none:=by obtain ⟨q0,q0,q0,z,q0⟩:=(SG.led.obj hi); exact z
 have gL:g.get? L=none:=kts_self SG.fr
 have ne:∀b o,g.get? b=some o->b≠e:=fun b o q z=>by rw [z,ge] at q; cases q
 obtain ⟨T1,K1⟩:=(kts_turn_at (h:=h') (fs:=cT A) (g:=g))
  (fun b hb=>by rw [eO] at hb; obtain ⟨q0,o,ho,q0⟩:=(B.frames.mem hb); exact ⟨o,ho⟩)
  (fun b o q nm=>F.keep b o (SG.fr.keep b o q) (ne b o q) fun hm=>by
   rcases o2 b hm with z | z
   ·rw [z] at q; cases q
   ·rw [eF] at z
    rcases List.mem_cons.mp z with z | z
    ·rw [z,gL] at q; cases q
    ·exact nm z)
  (fun b o q q0=>F.fr b o (SG.fr.keep b o q) (ne b o q))
 obtain ⟨oL,es,ep,ho,hd,hk2,hn⟩:=SG.fr.ns
 obtain ⟨n1,os,hos,el,N⟩:=SG.led
 have il:i<os.length:=el▸aN hi
 have hoi:=List.getElem?_eq_getElem il
 have Le:L≠e:=fun q=>(N _ (cn hi hoi)).2.1 q.symm
 obtain ⟨sl,hs⟩:=(F.fr L oL ho Le)
 have eo:os[i]=oe:=Option.some.inj ((N _ (cn hi hoi)).1.symm.trans hoe)
 rw [eo] at hoi
 obtain ⟨oe',r,hoe',hcls,hdict,hdat,q0⟩:=F.ex
 symm
 have ob:=hos i oe hoi
 rw [hH] at ob
 have ob':aL x.T x.CT x.nd (x.prog,x.w) J (.exc C j) oe':=by
  obtain ⟨q0,q0,q0,c1,c2,rfl⟩:=ob.exn_inv
  exact .exc c1 c2 hcls hdict hdat
 refine ⟨_,T1,⟨n1,os.set i oe',fun k y hk=>?_,by rw [List.length_set]; exact el,fun p hp=>?_⟩,SG.nx,⟨⟨_,es,ep,hs,hd,hk2,hn⟩,K1,by rw [T1.size]; exact SG.fr.above⟩,SG.gens,SG.rn⟩
 ·rw [hA]
  by_cases q:k=i
  ·subst q
   rw [List.getElem?_set_self il] at hk
   cases hk
   rw [if_pos rfl]; exact ob'
  ·rw [if_neg q]
   rw [List.getElem?_set_ne (Ne.symm q)] at hk
   exact hos _ _ hk
 ·obtain ⟨kk,z1,z2⟩:=(kZ hp)
  by_cases q:kk=i
  ·subst q
   rw [List.getElem?_set_self il] at z2
   rw [hi] at z1
   symm
   obtain ⟨pa,pb⟩:=p
   cases z1
   cases z2
   symm
   have:=N _ (cn hi hoi)
   exact ⟨hoe',this.2.1,T1.none_ _ this.2.2⟩
  ·rw [List.getElem?_set_ne (Ne.symm q)] at z2
   have:=N _ (cn z1 z2)
   refine ⟨F.keep _ _ this.1 (fun w=>?_) (o1 _ (List.mem_of_getElem? z1)),this.2.1,T1.none_ _ this.2.2⟩
   rw [w] at z1
   exact q ((List.getElem?_inj (aN z1) n1).mp (z1.trans hi.symm))
theorem bq.nuls(Lo:bq x J env L m vs loc)(hvs:(vs.all fun p=>match p.2 with | .loc=>true | .glo=>true | _=>false)=true){nl:List GV}(hn:∀j,aZ nl j=.nul)(J':az)(m':Str->Option Value):bq x J' env L m' vs nl:=fun j i' kd hj=>by
 obtain ⟨t,ht,hd,sl⟩:=(Lo j i' kd hj)
 refine ⟨t,ht,hd,?_⟩
 have hk:=List.all_eq_true.mp hvs _ (List.mem_of_getElem? hj)
 cases kd with
 | loc=>rw [hn]; exact ⟨sl.1,sl.2.1,fun n=>absurd rfl n⟩
 | glo=>exact sl
 | cel=>cases hk
 | blk=>cases hk
def yD(C0 av:Nat)(z:Int)(f:SX):SX:=fun H nx R loc k kx=>f H nx R loc (fun gf H nx R loc=>k gf H nx R loc) fun i H nx R=>pR (H.get i) fun C dd=>@Bool.rec (fun q0=>Bool) false (bU dd fun j=>eM (H.get j) fun es=>bU (dZ es av) fun ti=>kE (H.get ti) (fun l=>
 eH (mJ l z) (H.set 24 i (.exc C0 j) fun H=>k (.ret (mJ l z)) H nx R [])) fun q0=>false) (Nat.beq C C0)
theorem vo(hT:x.T.Nodup){C0:Nat}{cx:Addr}(hc:nj x C0 cx)(hm:exmOne x.K (.ref cx) (.ref cx)=some true){f:SX}{body:List Stmt}(hf:bS x d vs f body)(hvs:(vs.all fun p=>match p.2 with | .loc=>true | .glo=>true | _=>false)=true)
  {ie ae:Nat} {te:Str} (hv1:vs[ie]?=some (ae,.glo)) (ht1:x.T[ae]?=some te) (hm1:bp x te (.ref cx)) {ip ap:Nat} {tp:Str} (hv2:vs[ip]?=some (ap,.loc)) (ht2:x.T[ap]?=some tp) {av:Nat} {tv:Str} (ht3:x.T[av]?=some tv) (hn3:findIn x.K (.ref cx) tv=some none) {z:Int} {kd:Nat} {q1 q2 q3 q4 q5 q6 q7 q8:Pos} :
  bS x d vs (yD C0 av z f) [.Try body [.ExceptHandler (some (.Name te q1)) (some tp) [.Return (some (.Subscript (.Attribute (.Name tp q2) tv q3) (.Constant (.int z) kd q4) q5)) q6] q7] [] [] q8]:=by
 intro H nx R loc k kx h A env O L m J s Q E Z En S Lo hQ hE
 revert hT hc hm hf hvs hv1 ht1 hm1 hv2 ht2 ht3 hn3 h Z En S Lo hQ hE
 revert C0 cx f body ie ae te ip ap tp av tv z kd q1 q2 q3 q4 q5 q6 q7 q8 kx
 revert x d vs H nx R loc k A env O L m J s Q E
 refine @pJ _ _ _ _ ?_
 generalize (dk _ _).x=x,(dk _ _).d=d,(dk _ _).vs=vs,(dk _ _).H=H,(dk _ _).nx=nx,(dk _ _).R=R,(dk _ _).loc=loc,(dk _ _).k=k,(dk _ _).A=A,(dk _ _).env=env,(dk _ _).O=O,(dk _ _).L=L,(dk _ _).m=m,(dk _ _).J=J,(dk _ _).s=s,(dk _ _).Q=Q,(dk _ _).E=E
 intro C0 cx f body ie ae te ip ap tp av tv z kd q1 q2 q3 q4 q5 q6 q7 q8 kx
 intro hT hc hm hf hvs hv1 ht1 hm1 hv2 ht2 ht3 hn3 h Z En S Lo hQ hE
 refine gb (wpAny_Try_except (hf H nx R loc _ _ h A env O L m J s _ _ Z En S Lo (fun g J' H nx R loc m s gf fl T le S Lo hfl hk=>?_) fun g J1 H nx R m s i e T le U hk=>?_))
 ·cases hfl with
  | next=>exact wpAny_execs_nil (hQ g J' H nx R loc m s .next .next T le S Lo .next hk)
  | brk=>exact hQ g J' H nx R loc m s .brk .brk T le S Lo .brk hk
  | cont=>exact hQ g J' H nx R loc m s .cont .cont T le S Lo .cont hk
  | ret i=>exact hQ g J' H nx R loc m s (.ret _) _ T le S Lo (.ret i) hk
 ·obtain ⟨C,dd,hi,h3⟩:=lJ hk
  symm
  obtain ⟨q,h4⟩:=aJ h3
  have q:=Nat.eq_of_beq_eq_true q
  subst q
  obtain ⟨j,rfl,h5⟩:=bn h4
  obtain ⟨es,hj,h6⟩:=dL h5
  obtain ⟨ti,hti,h7⟩:=bn h6
  symm
  rcases eU h7 with ⟨l,htl,h8⟩ | ⟨_,_,h8⟩
  rotate_left
  ·cases h8
  symm
  obtain ⟨nz,h9⟩:=cQ h8
  obtain ⟨H',hA,h10⟩:=Tr.set_ok _ _ _ _ _ h9
  have Zg:=Z.turn T
  obtain ⟨A₀,base,outer,env1,B,hAf,hfr,hkk,eO,eF⟩:=Zg.fr
  obtain ⟨G,fs,oe,SG,hia,hoe,F,o1,o2,o3⟩:=U.ex
  symm
  have hFF:=(pushX B SG.fr hfr hkk).frames
  have efm:(env1::outer).filterMap (·.frame)=jM A:=by rw [eF,eO,List.filterMap_cons,hfr]
  have eEnv:env.frame=env1.frame:=by rw [hfr,En.frame]
  have ne:e∉(env1::outer).filterMap (·.frame):=fun q=>o1 e (List.mem_of_getElem? hia) (o3 e (by rw [efm] at q; exact q))
  have nf:noteFrame (.ref e) env=noteFrame (.ref e) env1:=by unfold noteFrame frameOf; rw [eEnv]
  rw [nf]
  refine F.note hAf (F.frames hFF ne) hfr (fun b hb=>o3 b (by rw [efm] at hb; exact hb)) fun h1 F1=>?_
  refine gQ.land (s:={ s with heap:=h1 }) F1 (.inl (by simp [rawInt])) fun h2 F2=>?_
  symm
  obtain ⟨g2,T2,S2⟩:=(Aq Zg SG hia hoe F2 o1 o2 hi hA)
  have Z2:=Zg.turn T2
  obtain ⟨t1,ht1',jo,k1⟩:=(Lo ie ae .glo hv1)
  symm
  rw [ht1] at ht1'; cases ht1'
  symm
  have X2:=Z2.here.X.keeps S2.fr.keep
  obtain ⟨oe2,r2,he2,hc2,hdd2,hdt2,q0⟩:=F2.ex
  have hoc:oe.cls=.ref cx/\∃dx,oe.dict=some dx/\J1.as[j]?=some dx:=by
   obtain ⟨o',p1,q0,q0,p2⟩:=(SG.led.obj hia)
   rw [hi] at p2
   have:o'=oe:=Option.some.inj (p1.symm.trans hoe)
   subst this
   obtain ⟨q0,q0,q0,c1,c2,rfl⟩:=p2.exn_inv
   rw [hc.ct] at c1; cases c1; exact ⟨rfl,_,rfl,c2⟩
  obtain ⟨hoc1,dx,hoc2,hoc3⟩:=hoc
  symm
  rw [hoc1] at hc2
  rw [hoc2] at hdd2
  refine wpAny_handleBy_cons (codeAny_handlers_test ?_) (by intro q; cases q)
  have TR:=topRead_of Z2.here.top
  have nameOk:∀(Q':Value->Shared->Prop) (E':Value->Shared->Prop),Q' (.ref cx) { s with heap:=h2 }->wpAny (model x.prog x.w) (A.mark (some (.ref e))) (eval (.Name te q1) env) Q' E' { s with heap:=h2 }:=fun Q' E' q=>by
   rcases hm1 with hm1 | ⟨hm1,hn,hb⟩
   ·exact Name_function_global En.kind k1 (loadGlobal_global (env:=env) (by rw [En.glob]; exact TR.g.keeps S2.fr.keep) (mg_of Z2.here.X TR.g hm1) q) jo
   ·exact Name_function_global En.kind k1 (loadGlobal_builtin (env:=env) (by rw [En.glob]; exact TR.g.keeps S2.fr.keep) (mg_none_of Z2.here.X TR.g hm1) (by rw [En.bui]; exact TR.b.keeps S2.fr.keep) ((TR.builtins _ hn).trans hb) q) jo
  refine nameOk _ _ ?_
  have LT:Looks (model x.prog x.w) h2 (typeOf (.ref e)) (.ref cx):=by
   have z:Looks (model x.prog x.w) h2 (typeOf (.ref e)) oe2.cls:=(Looks.ld he2).andThen .now
   rwa [hc2] at z
  refine (exm_one X2 LT hm).here ?_
  refine codeAny_handlers_suite_as ?_
  refine gQ.land (s:={ s with heap:=h2 }) F2 (.inr rfl) fun h3 F3=>?_
  symm
  obtain ⟨g3,T3,S3⟩:=(Aq Zg SG hia hoe F3 o1 o2 hi hA)
  have Z3:=Zg.turn T3
  have X3:=Z3.here.X.keeps S3.fr.keep
  obtain ⟨oe3,r3,he3,hc3,hdd3,hdt3,q0⟩:=F3.ex
  rw [hoc1] at hc3
  rw [hoc2] at hdd3
  obtain ⟨t2,ht2',hd2,k2,k3,q0⟩:=(Lo ip ap .loc hv2)
  symm
  rw [ht2] at ht2'; cases ht2'
  refine wpAny_storeName_local (m:=m) k3 (by rw [k2]; exact S3.fr.ns) (fun h4 hn4 hsb=>?_) (by rw [En.kind]; rfl)
  rw [k2] at hn4 hsb
  symm
  have nL:=S3.led.notL
  have S4:St x J1 H' nx R g3 L (fun y=>if y=tp then some (.ref e) else m y) { s with heap:=h4,toks:=s.toks+1 }:=
   ⟨S3.led.keep fun a ha=>hsb.2 a fun w=>nL (w▸ha),S3.nx,S3.fr.set hn4 hsb,S3.gens,S3.rn⟩
  have he4:h4.get? e=some oe3:=(hsb.2 e fun w=>nL (w▸List.mem_of_getElem? hia)).trans he3
  obtain ⟨oc,odi,oda,osl⟩:=oe3
  symm
  dsimp only at hc3 hdd3 hdt3
  subst hc3 hdd3 hdt3
  symm
  have nji:j≠i:=fun w=>by rw [w,hi] at hj; cases hj
  have nti:ti≠i:=fun w=>by rw [w,hi] at htl; cases htl
  obtain ⟨od,d1,q0,q0,d4⟩:=(S4.led.obj hoc3)
  rw [hA,if_neg nji,hj] at d4
  obtain ⟨ds,n,rfl,hds⟩:=d4
  have nza:dZ es av≠.nul:=fun w=>by rw [w] at hti; cases hti
  obtain ⟨v,v1,v2⟩:=(hds.look hT ht3 (lM nza))
  rw [hti] at v2
  obtain ⟨ta,rfl,hta⟩:=v2
  obtain ⟨ot,d1t,q0,q0,d4t⟩:=(S4.led.obj hta)
  rw [hA,if_neg nti,htl] at d4t
  obtain ⟨us,rfl,hus⟩:=d4t
  obtain ⟨jj,j1,j2,j3,j4,j5⟩:=(rv nz)
  obtain ⟨v,w1,w2⟩:=(hus.get j1)
  symm
  refine gb (wpAny_Return_some (Subscript_ (Attribute_any_ (wpAny_Name (wpAny_loadName_local En.kind k3 (by rw [k2]; exact S4.fr.ns) (if_pos rfl) ?_) hd2) rfl)))
  refine Ml (Z3.here.X.keeps S4.fr.keep) ⟨he4,rfl,rfl,d1⟩ hc.ga hc.gt hc.over (findObj_own (od:=dictOf ds n) hc.hd hn3 rfl v1) rfl ?_
  refine wpAny_Constant_int ?_
  refine item_tupleT (s:={ s with heap:=h4,toks:=s.toks+1+1+1 }) ⟨_,d1t,rfl,_,rfl⟩ (by lia) (by lia) (by rw [<- hus.length]; exact j2) w1 ?_
  refine wpAny_nameGoes k3 (by rw [k2]; exact S4.fr.ns) (by rw [En.kind]; rfl) fun h5 m5 hn5 hsb5=>?_
  rw [k2] at hn5 hsb5
  refine hQ g3 J1 H' nx R [] m5 _ (.ret _) _ (T.trans T3) le ?_ (Lo.nuls hvs (fun j=>by cases j <;> rfl) J1 m5) (.ret w2) h10
  exact ⟨S4.led.keep fun a ha=>hsb5.2 a fun w=>nL (w▸ha),S4.nx,S4.fr.set hn5 hsb5,S4.gens,S4.rn⟩
end
end
section
def IsCell(h:Heap)(a:Addr):Prop:=∃b o n t u o2 n2,h.get? a=some o/\o.cls=.type "tuple"/\o.data=.seq #[.str (Str.ofString "cell") t,.int 1 u,.ref b] n/\h.get? b=some o2/\o2.cls=.type "tuple"/\o2.data=.seq #[] n2
section
variable {prog:Program} {w:World} {A:Around} {E:Value->Shared->Prop} {s:Shared} {a b:Addr}
theorem IsCell.typeIs(x:IsCell s.heap a):s.TypeIs (.ref a) "tuple":=x.elim fun q0 h=>h.imp fun q0 h=>h.elim fun q0 h=>h.elim fun q0 h=>h.elim fun q0 h=>h.elim fun q0 h=>h.elim fun q0 h=>⟨h.1,h.2.1⟩
theorem nS{n2:Nat}{o2:Obj}{h:Heap}(h1:h.get? b=some o2)(h2:o2.cls=.type "tuple")(h3:o2.data=.seq #[] n2):IsTupleKey (PySem.intKind prog w) h [] b:=⟨o2,#[],n2,h1,h2,h3,.nil⟩
theorem Bs{Q:Int->Shared->Prop}(hu:A.units+2<cLine)(hk:IsCell s.heap a)(h:Q (pG prog w) { s with toks:=s.toks+4 }):wpAny (model prog w) A (pyHash (.ref a)) Q E s:=by
 symm
 have hT:=hk.typeIs
 obtain ⟨b,o,n,t,u,o2,n2,ho,q0,hd,hb,hbc,hbd⟩:=hk
 symm
 unfold pyHash
 first | unfold pyHashByItsType | skip
 first | refine wpAny_bind (wpAny_cRoomFor_or (.inr (by lia)) ?_) | skip
 refine wpAny_bind (wpAny_specialOf hT F.slot_tuple_hash.lookup ?_)
 show wpAny _ _ (if (some (Value.builtin "tuple.__hash__") == some Value.none)=true then _ else _) Q E s
 rw [if_neg (by rw [beq_builtin_none]; exact Bool.false_ne_true)]
 refine wpAny_bind (wpAny_specialOf hT F.slot_tuple_hash.lookup ?_)
 show wpAny _ _ (callSpecialIfBoundUnlessNone? (.ref a) "__hash__" _ >>= _) Q E s
 refine wpAny_bind (wpAny_callSpecialIfBoundUnlessNone?_slot hT F.slot_tuple_hash (wpAny_call_entry F.slot_tuple_hash hT F.entry_tuple_hash ?_ (F.args_tuple_hash_1 _)))
 show wpAny _ _ (Builtin.Tuple.tupleItemsOf (.ref a) >>= _) _ _ s
 refine wpAny_bind (wpAny_tupleItemsOf ho hd ?_)
 refine wpAny_bind ?_
 rw [<- Array.forIn_toList]
 show wpAny _ _ (forIn [Value.str (Str.ofString "cell") t,.int 1 u,.ref b] _ _) _ _ _
 conv=>arg 3; simp only [List.forIn_cons,List.forIn_nil,bind_assoc,pure_bind]
 refine wpAny_bind ((PySem.strKind prog w).pyHash (k:=Str.ofString "cell") (strKind_is _ _ _ _) ?_)
 refine wpAny_bind ((PySem.intKind prog w).pyHash (k:=1) (intKind_is _ _ _ _) ?_)
 refine wpAny_bind (wpAny_pyHash_tuple (knd:=PySem.intKind prog w) (ks:=[]) (by show A.units+1<cLine; lia) (nS hb hbc hbd) ?_)
 refine wpAny_pure ?_
 show wpAny _ _ (retInt (Builtin.Tuple.tupleHashOf [(PySem.strKind prog w).hash (Str.ofString "cell"),(PySem.intKind prog w).hash 1,tupleKeyHash (PySem.intKind prog w) []])) _ _ _
 refine wpAny_ret_mkInt ?_
 generalize hz:Builtin.Tuple.tupleHashOf [(PySem.strKind prog w).hash (Str.ofString "cell"),(PySem.intKind prog w).hash 1,tupleKeyHash (PySem.intKind prog w) []]=z
 have hc:pG prog w=reduceHash z:=by rw [<- hz]; rfl
 rw [hc] at h
 show wpAny _ _ (if (decide (-(2:Int) ^ 63<=z)&&decide (z<2 ^ 63))=true then _ else _) Q E _
 unfold reduceHash at h
 by_cases hr:(decide (-(2:Int) ^ 63<=z)&&decide (z<2 ^ 63))=true
 ·rw [if_pos hr]
  rw [if_pos hr] at h
  exact wpAny_pure (by simpa [Nat.add_assoc] using h)
 ·rw [if_neg hr]
  rw [if_neg hr] at h
  exact wpAny_bind (wpAny_rule (wpAny_pure (by simpa [Nat.add_assoc] using h)))
theorem Gc{Q:Bool->Shared->Prop}(hu:A.units+2<cLine)(hx:IsCell s.heap a)(hy:IsCell s.heap b)(h:Q true s):wpAny (model prog w) A (eqBool (.ref a) (.ref b)) Q E s:=by
 unfold eqBool
 try with_reducible refine wpAny_holding ?_
 show wpAny _ _ (if (Value.ref a == Value.ref b)=true then _ else _) Q E s
 by_cases hab:(Value.ref a == Value.ref b)=true
 ·rw [if_pos hab]
  exact wpAny_bind (wpAny_rule (wpAny_pure h))
 ·rw [if_neg hab]
  have tx:=hx.typeIs
  have ty:=hy.typeIs
  refine wpAny_bind (wpAny_richCompare_same_room (op:=.Eq) tx ty F.slot_tuple_eq (wpAny_call_entry F.slot_tuple_eq tx F.entry_tuple_eq ?_ (F.args_tuple_eq_2 _ _)) (by lia))
  symm
  obtain ⟨b1,o,n,t,u,o2,n2,ho,q0,hd,hb,hbc,hbd⟩:=hx
  obtain ⟨b1',o',n',t',u',o2',n2',ho',q0,hd',hb',hbc',hbd'⟩:=hy
  symm
  show wpAny _ _ (isInstance (.ref b) (.type "tuple") >>= _) _ _ s
  refine wpAny_bind (wpAny_isInstance ty isSubtype_tuple_tuple ?_)
  simp only [Bool.not_true,Bool.false_eq_true,if_false]
  refine wpAny_bind (wpAny_tupleItemsOf ho hd ?_)
  refine wpAny_bind (wpAny_tupleItemsOf ho' hd' ?_)
  refine wpAny_bind ?_
  show wpAny _ _ (forIn [(Value.str (Str.ofString "cell") t,Value.str (Str.ofString "cell") t'),(.int 1 u,.int 1 u'),(.ref b1,.ref b1')] _ _) _ _ _
  simp only [List.forIn_cons,List.forIn_nil,bind_assoc,pure_bind]
  refine wpAny_bind ((PySem.strKind prog w).eqBool (a:=Str.ofString "cell") (b:=Str.ofString "cell") (strKind_is _ _ _ _) (strKind_is _ _ _ _) ?_)
  rw [decide_eq_true rfl]
  simp only [Bool.not_true,Bool.false_eq_true,if_false,pure_bind]
  refine wpAny_bind ((PySem.intKind prog w).eqBool (a:=1) (b:=1) (intKind_is _ _ _ _) (intKind_is _ _ _ _) ?_)
  rw [decide_eq_true rfl]
  simp only [Bool.not_true,Bool.false_eq_true,if_false,pure_bind]
  refine wpAny_bind (wpAny_eqBool_tuple (knd:=PySem.intKind prog w) (x:=[]) (y:=[]) (by show A.units+1<cLine; lia) (nS hb hbc hbd) (nS hb' hbc' hbd') ?_)
  rw [decide_eq_true rfl]
  simp only [Bool.not_true,Bool.false_eq_true,if_false,pure_bind]
  refine wpAny_pure ?_
  show wpAny _ _ (ret (Value.bool true)) _ _ _
  exact wpAny_pure ⟨_,rfl,(fun e=>nomatch e),wpAny_truthy_bool h⟩
theorem xK{Q:Bool->Shared->Prop}(hk:IsCell s.heap a)(h:Q true s):wpAny (model prog w) A (eqIsQuiet 8 (.ref a)) Q E s:=by
 symm
 have hT:=hk.typeIs
 obtain ⟨b,o,n,t,u,o2,n2,ho,q0,hd,hb,hbc,hbd⟩:=hk
 symm
 have hTb:s.TypeIs (.ref b) "tuple":=⟨o2,hb,hbc⟩
 unfold eqIsQuiet
 refine wpAny_bind (wpAny_specialOf hT F.slot_tuple_eq.lookup ?_)
 show wpAny _ _ (isInstance (.ref a) (.type "tuple") >>= _) _ _ s
 refine wpAny_bind (wpAny_isInstance hT isSubtype_tuple_tuple ?_)
 simp only [Bool.not_true,Bool.false_eq_true,if_false]
 refine wpAny_bind (wpAny_seqItems ho hd ?_)
 refine wpAny_bind ?_
 show wpAny _ _ (forIn #[Value.str (Str.ofString "cell") t,.int 1 u,.ref b] _ _) _ _ s
 rw [<- Array.forIn_toList]
 show wpAny _ _ (forIn [Value.str (Str.ofString "cell") t,.int 1 u,.ref b] _ _) _ _ s
 simp only [List.forIn_cons,List.forIn_nil,bind_assoc,pure_bind]
 rw [eqIsQuiet_byValue _ (v:=.str (Str.ofString "cell") t) rfl,eqIsQuiet_byValue _ (v:=.int 1 u) rfl]
 simp only [Bool.not_true,Bool.false_eq_true,if_false,pure_bind]
 unfold eqIsQuiet
 refine wpAny_bind (wpAny_bind (wpAny_specialOf hTb F.slot_tuple_eq.lookup ?_))
 show wpAny _ _ (isInstance (.ref b) (.type "tuple") >>= _) _ _ s
 refine wpAny_bind (wpAny_isInstance hTb isSubtype_tuple_tuple ?_)
 simp only [Bool.not_true,Bool.false_eq_true,if_false]
 refine wpAny_bind (wpAny_seqItems hb hbd ?_)
 rw [show ((some (#[]:Array Value)).getD #[]) = #[] from rfl,<- Array.forIn_toList]
 simp only [List.forIn_nil,pure_bind,Bool.not_true,Bool.false_eq_true,if_false]
 refine wpAny_pure ?_
 simp only [Bool.not_true,Bool.false_eq_true,if_false,pure_bind]
 exact wpAny_pure (wpAny_pure h)
theorem IsCell.keeps{h h':Heap}{d:Addr}{o:Obj}{es:Array DictEntry}{ep:Nat}(x:IsCell h a)(ho:h.get? d=some o)(hd:o.data=.dict es ep)(hs:Heap.SameBut d h h'):IsCell h' a:=by
 symm
 obtain ⟨b,oa,n,t,u,o2,n2,h1,h2,h3,h4,h5,h6⟩:=x
 symm
 have ne:∀(c:Addr) (q:Obj) (is:Array Value) (k:Nat),h.get? c=some q->q.data=.seq is k->c≠d:=fun c q is k e1 e2 z=>by
  subst z
  rw [ho] at e1; cases e1
  rw [hd] at e2; cases e2
 exact ⟨b,oa,n,t,u,o2,n2,(hs.2 a (ne _ _ _ _ h1 h3)).trans h1,h2,h3,(hs.2 b (ne _ _ _ _ h4 h6)).trans h4,h5,h6⟩
def gk(prog:Program)(w:World):HeapKind prog w Unit where
 is:=fun h q0 a=>IsCell h a
 hash:=fun q0=>pG prog w
 draws:=fun q0=>4
 room:=fun A=>A.units+2<cLine
 inj:=fun q0 q0=>rfl
 keeps:=fun x ho hd hs=>x.keeps ho hd hs
 pyHash:=fun hu hk h=>Bs hu hk h
 eqBool:=fun {A E s x y a b Q} hu hx hy h=>Gc hu hx hy (by rw [decide_eq_true (Subsingleton.elim x y)] at h; exact h)
 quiet:=fun hk h=>xK hk h
end
section
variable {x:aR} {d:Nat} {vs:aq} {J J':az} {H:Tr} {nx:Nat} {R:Rn} {O g g':Heap} {L L':Addr} {m m':Str->Option Value} {s:Shared} {A A₀:Around} {E:Value->Shared->Prop} {env:Env} {loc:List GV}
def zh(o:GO)(k0:Bool)(k:Nat->GV->Bool)(e:Bool):Bool:=@GO.rec (fun q0=>Bool) e (fun q0=>e) (fun q0=>e) (fun q0 q0=>e) (fun q0=>e) k0 (fun q0=>e) (fun q0=>e) (fun q0=>e) (fun q0=>e) (fun q0 q0=>e) (fun q0 q0=>e) (fun q0 q0=>e) (fun q0=>e) (fun q0=>e) (fun q0=>e) e (fun q0=>e) (fun q0 q0=>e) (fun q0 q0=>e) (fun q0 q0=>e) (fun q0 q0=>e) (fun a g=>k a g) o
theorem qV{o:GO}{k0 e:Bool}{k:Nat->GV->Bool}(h:zh o k0 k e=true):(o=.d0/\k0=true)∨(∃a g,o=.dk a g/\k a g=true)∨e=true:=by
 cases o <;> first | exact .inr (.inr h) | exact .inl ⟨rfl,h⟩ | exact .inr (.inl ⟨_,_,rfl,h⟩)
def iQ(cs:Nat)(H:Tr)(i:Nat)(b:Bool):Bool:=kE (H.get i) (fun l=>@List.rec GV (fun q0=>Bool) false (fun g r q0=>oQ g fun t=>@List.rec GV (fun q0=>Bool) false (fun g r2 q0=>eG g fun z=>@List.rec GV (fun q0=>Bool) false (fun g r3 q0=>bU g fun j=>kE (H.get j) (fun l2=>j7 l2&&(j7 r3&&(Nat.beq t cs&&(cV z (.ofNat 1)&&b)))) fun q0=>false) r2) r) l) fun q0=>false
theorem wD{l:List GV}(h:j7 l=true):l=[]:=by cases l <;> first | rfl | cases h
theorem oA{cs:Nat}(hcs:x.T[cs]?=some (Str.ofString "cell")){i:Nat}{b:Bool}{a:Addr}(h:iQ cs H i b=true)(S:St x J H nx R O L m s)(ha:J.as[i]?=some a):b=true/\IsCell s.heap a:=by
 rcases eU h with ⟨l,hl,h1⟩ | ⟨_,_,h1⟩
 rotate_left
 ·cases h1
 obtain ⟨us,ht,iu⟩:=(S.tup ha hl)
 cases l with
 | nil=>cases h1
 | cons g1 l=>
 obtain ⟨t,rfl,h2⟩:=gO h1
 cases l with
 | nil=>cases h2
 | cons g2 l=>
 obtain ⟨z,rfl,h3⟩:=cR h2
 cases l with
 | nil=>cases h3
 | cons g3 l=>
 obtain ⟨j,rfl,h4⟩:=bn h3
 rcases eU h4 with ⟨l2,hl2,h5⟩ | ⟨_,_,h5⟩
 rotate_left
 ·cases h5
 simp only [Bool.and_eq_true] at h5
 symm
 obtain ⟨q1,q2,q3,q4,q5⟩:=h5
 have:=wD q1
 subst this
 have:=wD q2
 subst this
 have:=Nat.eq_of_beq_eq_true q3
 subst this
 have:=eq_of_beq (cr q4)
 subst this
 obtain ⟨q0,q0,rfl,i1,iu⟩:=fA iu
 obtain ⟨q0,q0,rfl,i2,iu⟩:=fA iu
 obtain ⟨q0,q0,rfl,i3,iu⟩:=fA iu
 obtain rfl:=nM iu
 obtain ⟨q0,tk,rfl,hs⟩:=i1
 rw [hcs] at hs
 cases hs
 obtain ⟨tk2,rfl,zU⟩:=i2
 obtain ⟨q0,rfl,hj⟩:=i3
 obtain ⟨us2,ht2,iu2⟩:=(S.tup hj hl2)
 cases iu2
 obtain ⟨o,o1,o2,n,o3⟩:=ht
 obtain ⟨p,p1,p2,n2,p3⟩:=ht2
 symm
 exact ⟨q5,_,o,n,_,_,p,n2,o1,o2,o3,p1,p2,p3⟩
theorem Ep{i:Nat}{ad:Addr}(S:St x J H nx R O L m s)(ha:J.as[i]?=some ad){o:GO}(ho:H.get i=o)(cs:Nat)(hcs:x.T[cs]?=some (Str.ofString "cell")):(o=.d0->s.heap.DictOfH (gk x.prog x.w) ad [])/\∀k g,o=.dk k g->iQ cs H k true=true->∃a v,J.as[k]?=some a/\Is x.T J g v/\s.heap.DictOfH (gk x.prog x.w) ad [((),a,v)]:=by
 obtain ⟨ob,o1,q0,q0,o2⟩:=(S.led.obj ha)
 rw [ho] at o2
 constructor
 ·rintro rfl
  obtain ⟨a1,a2⟩:=o2
  obtain ⟨es,ep,b1,b2,b3,b4,b5⟩:=a1
  cases b4':es.toList with
  | nil=>exact ⟨ob,es,ep,o1,b1,b2,by rw [b4']; rfl,fun x hx=>by simp at hx,List.nodup_nil⟩
  | cons e r=>rw [b4'] at b4; cases b4
 ·rintro k g rfl hc
  obtain ⟨a,v,hs,ep,a1,a2,a3,a4,a5⟩:=o2
  obtain ⟨q0,c⟩:=(oA hcs hc S a1)
  exact ⟨a,v,a1,a2,ob,_,ep,o1,a3,a4,by subst a5; rfl,fun x hx=>by simp at hx; subst hx; exact c,by simp⟩
theorem Eh{i k:Nat}{ad a:Addr}{g:GV}{v:Value}(hk:J.as[k]?=some a)(iv:Is x.T J g v){h:Heap}(hD:h.DictOfH (gk x.prog x.w) ad [((),a,v)]):∃o,h.get? ad=some o/\aL x.T x.CT x.nd (x.prog,x.w) J (.dk k g) o:=by
 symm
 obtain ⟨o,es,ep,h1,h2,h3,h4,q0,q0⟩:=hD
 symm
 have:es = #[entryOfKey (gk x.prog x.w) ((),a,v)]:=by
  apply Array.toList_inj.mp
  rw [h4]; rfl
 subst this
 exact ⟨o,h1,.dk hk iv h2 h3 rfl⟩
end
end
section
open PySem.SeqAt (EqAt RcAt)
open PySem.SeqAt hiding EqAt RcAt
section
variable {x:aR} {d:Nat} {vs:aq} {J J':az} {H:Tr} {nx:Nat} {R:Rn} {O g g':Heap} {L L':Addr} {m m':Str->Option Value} {s:Shared} {A A₀:Around} {E:Value->Shared->Prop} {env:Env} {loc:List GV}
def nq(cs:Nat)(i:Nat):ce:=fun gs H nx R k=>@List.rec GV (fun q0=>Bool) false (fun g r q0=>bU g fun p=>jo r fun dv=>eH dv (iQ cs H p (zh (H.get i) (k dv H nx R) (fun q g=>iQ cs H q (eH g (k g H nx R))) false))) gs
theorem ou(hM:jc x){cs:Nat}(hcs:x.T[cs]?=some (Str.ofString "cell")):oy x d "dict.get" (nq cs):=by
 intro i gs H nx R k h A O L m J s a us Q E Hh S ha iu hQ
 cases iu with
 | nil=>cases h
 | @cons g0 v0 r us i0 ir=>
 symm
 obtain ⟨p,rfl,h1⟩:=bn h
 obtain ⟨dv,rfl,h2⟩:=fy h1
 obtain ⟨q0,h3⟩:=cQ h2
 obtain ⟨pa,rfl,hp⟩:=i0
 obtain ⟨h4,hkey⟩:=(oA hcs h3 S hp)
 obtain ⟨dval,q0,rfl,id,ir⟩:=fA ir
 obtain rfl:=nM ir
 have nm:=qI hM Hh (S.led.obj ha).choose_spec.2.2.1
 have room:(gk x.prog x.w).room A.in1:=by have:=Hh.units; show A.units+1+2<_; lia
 obtain ⟨D1,D2⟩:=(Ep S ha (o:=H.get i) rfl cs hcs)
 symm
 rcases qV h4 with ⟨e,h5⟩ | ⟨q,g,e,h5⟩ | h5
 ·have hD:=D1 e
  exact call_meetsIn PySem.F.slot_dict_get hD.typeIs PySem.F.entry_dict_get (PySem.F.args_dict_get_3 _ _ _) (meetsH_dict_get_default (gk x.prog x.w) a pa nm dval) ⟨room,(),[],hkey,hD,hQ J H nx R _ _ _ (.refl _) (S.toks _) id h5⟩
 ·obtain ⟨h6,q0⟩:=(ite_cell h5)
  symm
  obtain ⟨a',v,b1,b2,hD⟩:=(D2 q g e (cell_true h5))
  obtain ⟨q0,h7⟩:=cQ h6
  symm
  exact call_meetsIn PySem.F.slot_dict_get hD.typeIs PySem.F.entry_dict_get (PySem.F.args_dict_get_3 _ _ _) (meetsH_dict_get_default (gk x.prog x.w) a pa nm dval) ⟨room,(),_,hkey,hD,hQ J H nx R _ _ _ (.refl _) (S.toks _) b2 h7⟩
 ·cases h5
where
 cell_true {cs i:Nat} {H:Tr} {b:Bool} (h:iQ cs H i b=true):iQ cs H i true=true:=by
  rcases eU h with ⟨l,hl,h1⟩ | ⟨_,_,h1⟩
  rotate_left
  ·cases h1
  cases l with
  | nil=>cases h1
  | cons g1 l=>
  obtain ⟨t,rfl,h2⟩:=gO h1
  cases l with
  | nil=>cases h2
  | cons g2 l=>
  obtain ⟨z,rfl,h3⟩:=cR h2
  cases l with
  | nil=>cases h3
  | cons g3 l=>
  obtain ⟨j,rfl,h4⟩:=bn h3
  rcases eU h4 with ⟨l2,hl2,h5⟩ | ⟨_,_,h5⟩
  rotate_left
  ·cases h5
  simp only [Bool.and_eq_true] at h5
  symm
  obtain ⟨q1,q2,q3,q4,q5⟩:=h5
  symm
  unfold iQ
  rw [hl]
  show (kE (H.get j) (fun l2=>j7 l2&&(j7 l&&(Nat.beq t cs&&(cV z (.ofNat 1)&&true)))) fun q0=>false)=true
  rw [hl2]
  show (j7 l2&&(j7 l&&(Nat.beq t cs&&(cV z (.ofNat 1)&&true))))=true
  rw [q1,q2,q3,q4]; rfl
 ite_cell {cs i:Nat} {H:Tr} {b:Bool} (h:iQ cs H i b=true):b=true/\True:=by
  rcases eU h with ⟨l,hl,h1⟩ | ⟨_,_,h1⟩
  rotate_left
  ·cases h1
  cases l with
  | nil=>cases h1
  | cons g1 l=>
  obtain ⟨t,rfl,h2⟩:=gO h1
  cases l with
  | nil=>cases h2
  | cons g2 l=>
  obtain ⟨z,rfl,h3⟩:=cR h2
  cases l with
  | nil=>cases h3
  | cons g3 l=>
  obtain ⟨j,rfl,h4⟩:=bn h3
  rcases eU h4 with ⟨l2,hl2,h5⟩ | ⟨_,_,h5⟩
  rotate_left
  ·cases h5
  simp only [Bool.and_eq_true] at h5
  exact ⟨h5.2.2.2.2,trivial⟩
def IW(op:Nat->ce)(f:EV)(l:LV):EV:=fun H nx R loc k=>f H nx R loc fun g H nx R=>bU g fun i=>zh (H.get i) (l H nx R loc fun gs H nx R=>op i gs H nx R k) (fun q q0=>l H nx R loc fun gs H nx R=>op i gs H nx R k) false
theorem AL(hM:jc x){cs:Nat}(hcs:x.T[cs]?=some (Str.ofString "cell")){f:EV}{o:Expr}{l:LV}{es:List Expr}(hf:aK x d vs f o)(hl:eg x d vs l es)
  (hc:jb o=true) (hp:bx es=true) {apos pos:Pos} (hline:(apos.endLine == pos.line)=true) (hn:es.length<30):aK x d vs (IW (nq cs) f l) (.Call (.Attribute o "get" apos) es [] pos):=by
 intro H nx R loc k h A env O L m J s Q E Hh En S Lo hQ
 refine fc hc hp hline hn (hf H nx R loc _ h A env O L m J s _ E Hh En S Lo fun J1 H1 nx1 R1 s1 g v1 le1 S1 i1 h1 pl=>?_)
 symm
 obtain ⟨i,rfl,h2⟩:=bn h1
 obtain ⟨a,rfl,ha⟩:=i1
 obtain ⟨o,o1,q0,q0,o2⟩:=(S1.led.obj ha)
 symm
 have fin:l H1 nx1 R1 loc (fun gs H nx R=>nq cs i gs H nx R k)=true->wpAny (model x.prog x.w) A (callWith pos (.builtin "dict.get") [.ref a] (backTo pos (starEach es env)) []) Q E s1:=fun h3=>
  fq hl hp h3 Hh En S1 (Lo.more le1) fun J' H nx R s gs us le S' iu hk'=>ou hM hcs i gs H nx R k hk' A O L m J' s _ us Q E Hh S' (aE le.1 ha) iu (hQ.le (le1.trans le))
 have go:o.ExactDict->l H1 nx1 R1 loc (fun gs H nx R=>nq cs i gs H nx R k)=true->wpAny (model x.prog x.w) A (getMethod (.ref a) "get" pl) (fun fx s₂=>wpAny (model x.prog x.w) A (callWith pos fx.1 fx.2 (backTo pos (starEach es env)) []) Q E s₂) E s1:=fun hx h3=>
  getMethod_builtin ⟨o,o1,hx.1⟩ PySem.F.plainAttrs_dict PySem.F.slot_dict_get PySem.F.type_dict_get (fun b e=>by cases e; exact ⟨o,o1,hx.2.1⟩) (fin h3)
 rcases qV h2 with ⟨e,h3⟩ | ⟨q,g,e,h3⟩ | h3
 ·rw [e] at o2
  obtain ⟨a1,a2⟩:=o2
  obtain ⟨q0,q0,hx,q0⟩:=a1; exact go hx h3
 ·rw [e] at o2
  symm
  obtain ⟨q0,q0,q0,q0,a1,a2,a3,a4,a5⟩:=o2
  symm
  exact go a3 h3
 ·cases h3
def Fd(cs:Nat)(f i:EV):AV:=fun g H nx R loc k=>f H nx R loc fun o H nx R=>i H nx R loc fun j H nx R=>eH g (bU o fun d=>bU j fun p=>iQ cs H p (zh (H.get d) (H.set 24 d (.dk p g) fun H=>k H nx R loc) (fun q q0=>iQ cs H q (H.set 24 d (.dk q g) fun H=>k H nx R loc)) false))
theorem Cq{cs:Nat}(hcs:x.T[cs]?=some (Str.ofString "cell")){f i:EV}{o j:Expr}(hf:aK x d vs f o)(hi:aK x d vs i j)(pos:Pos):dQ x d vs (Fd cs f i) (.Subscript o j pos):=by
 intro g H nx R loc k h A env O L m J s v Q E Hh En S Lo iv hQ
 refine kas_sub (hf H nx R loc _ h A env O L m J s _ E Hh En S Lo fun J1 H1 nx1 R1 s1 o v1 le1 S1 i1 h1=>?_)
 refine hi H1 nx1 R1 loc _ h1 A env O L m J1 s1 _ E Hh En S1 (Lo.more le1) fun J2 H2 nx2 R2 s2 j v2 le2 S2 i2 h2=>?_
 have iv:=iv.more (le1.trans le2)
 obtain ⟨q0,h3⟩:=cQ h2
 obtain ⟨dd,rfl,h4⟩:=bn h3
 obtain ⟨p,rfl,h5⟩:=bn h4
 obtain ⟨a,rfl,ha⟩:=(i1.more le2).inv
 obtain ⟨pa,rfl,hp⟩:=i2
 obtain ⟨h6,hkey⟩:=(oA hcs h5 S2 hp)
 have room:(gk x.prog x.w).room A.in1:=by have:=Hh.units; show A.units+1+2<_; lia
 obtain ⟨D1,D2⟩:=(Ep S2 ha (o:=H2.get dd) rfl cs hcs)
 rcases qV h6 with ⟨e,h7⟩ | ⟨q,g0,e,h7⟩ | h7
 ·obtain ⟨H',hA,h8⟩:=Tr.set_ok _ _ _ _ _ h7
  refine wpAny_setItem_heap (k:=()) room hkey (D1 e) fun h' hD' hs'=>?_
  obtain ⟨o',ho',oi⟩:=(Eh (i:=dd) hp iv hD')
  exact hQ J2 H' nx2 R2 loc m _ (le1.trans le2) (S2.upd ha hs' ho' oi hA _) (Lo.more (le1.trans le2)) h8
 ·obtain ⟨h8,q0⟩:=(ou.ite_cell h7)
  obtain ⟨a',v',b1,b2,hD⟩:=(D2 q g0 e (ou.cell_true h7))
  obtain ⟨H',hA,h9⟩:=Tr.set_ok _ _ _ _ _ h8
  refine wpAny_setItem_heap (k:=()) room hkey hD fun h' hD' hs'=>?_
  obtain ⟨o',ho',oi⟩:=(Eh (i:=dd) b1 iv hD')
  exact hQ J2 H' nx2 R2 loc m _ (le1.trans le2) (S2.upd ha hs' ho' oi hA _) (Lo.more (le1.trans le2)) h9
 ·cases h7
theorem sK{prog:Program}{w:World}{R:Result->Shared->Prop}{l:Addr}{items:Array Value}{n:Nat}{v:Value}(hl:s.heap.get? l=some { cls:=.type "list",dict:=none,data:=.seq items n,slots:=#[] })(e:Nat->Bool)(j:Nat)(he:∀m y,items[m]?=some y->m<=j->EqAt A.in1 s y v (e m))(hj:j<items.size)(hit:e j=true)(hs1:items.size<=sizeLine)
  (hR:R (.ok (.ret .none)) { s with heap:=s.heap.update l (Obj.mapSeq fun xs=>xs.eraseIdxIfInBounds j) }) (k:Nat):∀i:Nat,j - i=k->i<=j->(∀m,i<=m->m<j->e m=false)->
  wpAny (model prog w) A.in1 (Builtin.«list.remove.loop» ⟨[.ref l,v,rawInt i],[]⟩) (fun fin s'=>match fin with | .done f=>R (.ok f) s' | .again c'=>c'.quiet=true/\codeAny (model prog w) A c' R s') (fun e s'=>R (.error e) s') s:=by
 induction k with
 | zero=>
  intro i hk hij hno
  obtain ⟨hp,g,d,tk,os⟩:=s
  have hij':i=j:=by lia
  subst hij'
  wp_walk using PySem.AutoSeq1.wpAny_loadPart' hl
  have hi:items[((i:Nat):Int).toNat]?=some items[i]:=by simp [hj]
  rw [hi]
  refine wpAny_bind (he i _ (by simp [hj]) (Nat.le_refl _) prog w _ _ ?_)
  rw [hit]
  have hz':(items.eraseIdxIfInBounds i).size<=sizeLine+1:=Nat.le_trans (MeetsSeq.size_erased items _) (Nat.le_succ_of_le hs1)
  wp_walk using (wpAny_updateSeq hl rfl (hz:=hs1) (_hz':=hz')),PySem.AutoSeq1.wpAny_loadPart' hl
  simpa using hR
 | succ k ih=>
  intro i hk hij hno
  have hlt:i<items.size:=by lia
  have ih:=ih (i+1) (by lia) (by lia) (fun m h1 h2=>hno m (by lia) h2)
  obtain ⟨hp,g,d,tk,os⟩:=s
  wp_walk using PySem.AutoSeq1.wpAny_loadPart' hl
  have hi:items[((i:Nat):Int).toNat]?=some items[i]:=by simp [hlt]
  have hc:((i:Int)+1)=((i+1:Nat):Int):=by push_cast; rfl
  rw [hi]
  refine wpAny_bind (he i _ (by simp [hlt]) hij prog w _ _ ?_)
  rw [hno i (Nat.le_refl _) (by lia)]
  wp_walk
  rw [hc]
  exact ⟨plainId_quiet MeetsSeq.plain_remove_loop _,codeAny_builtin MeetsSeq.entry_remove_loop (by
   rw [Around.under_plainId MeetsSeq.plain_remove_loop _]
   exact ih)⟩
def Ix(f:EQ)(l:List GV)(h:GV)(H:Tr):List GV->Rn->(List GV->Rn->Bool)->Bool:=@List.rec GV (fun q0=>List GV->Rn->(List GV->Rn->Bool)->Bool) (fun q0 q0 q0=>false)
 (fun y r ih pre R c=>f y h H R fun b R=>@Bool.rec (fun q0=>Bool) (ih (y::pre) R c) (c (nN pre r) R) b) l
theorem xq{n:Nat}{f:EQ}(hf:oM x n f){h:GV}{c:List GV->Rn->Bool}:∀(l:List GV) (pre:List GV) (R:Rn),Ix f l h H pre R c=true->∀(us:List Value) (v:Value),St x J H nx R O L m s->be x.T J l us->Is x.T J h v->
  ∃(j:Nat) (R':Rn) (e:Nat->Bool),c (nN pre (l.eraseIdx j)) R'=true/\dq R' J.ns/\j<us.length/\e j=true/\(∀m,m<j->e m=false)/\∀m u,us[m]?=some u->m<=j->∀A:Around,A.units+n<cLine->EqAt A s u v (e m)
 | [],pre,R,hh,us,v,S,iu,iv=>by cases hh
 | y::l,pre,R,hh,us,v,S,iu,iv=>by
  symm
  obtain ⟨u0,us,rfl,iu0,iur⟩:=fA iu
  obtain ⟨b,R1,h1,rn1,e1⟩:=(hf _ _ _ _ _ hh _ _ _ _ _ _ _ _ S iu0 iv)
  symm
  cases b with
  | true=>
   refine ⟨0,R1,fun q0=>true,h1,rn1,by simp,rfl,fun m hm=>by lia,fun m u q hm A hA=>?_⟩
   have:m=0:=by lia
   subst this
   simp at q; subst q
   exact e1 A hA
  | false=>
   symm
   obtain ⟨j,R2,e,h2,rn2,hj,e2,e3,e4⟩:=(xq hf l (y::pre) R1 h1 us v (S.rn' rn1) iur iv)
   symm
   refine ⟨j+1,R2,fun m=>match m with | 0=>false | m+1=>e m,h2,rn2,by simpa using hj,e2,fun m hm=>?_,fun m u q hm A hA=>?_⟩
   ·cases m with
    | zero=>rfl
    | succ m=>exact e3 m (by lia)
   ·cases m with
    | zero=>simp at q; subst q; exact e1 A hA
    | succ m=>simp at q; exact e4 m u q (by lia) A hA
def CL(i:Nat):ce:=fun gs H nx R k=>ef (H.get i) fun l=>@Bool.rec (fun q0=>Bool) false (jo gs fun g=>Ix (wB 8) l g H [] R fun l' R=>jB i l' H fun H=>k .none H nx R) (fj 1000 l)
theorem be.erase{T:List Str}{J:az}{gs:List GV}{vs:List Value}(h:be T J gs vs):∀j,be T J (gs.eraseIdx j) (vs.eraseIdx j):=by
 induction h with
 | nil=>intro j; exact .nil
 | cons a r ih=>intro j; cases j with
  | zero=>exact r
  | succ j=>exact .cons a (ih j)
theorem xo(hT:x.T.Nodup):oy x d "list.remove" CL:=by
 intro i gs H nx R k h A O L m J s a us Q E Hh S ha iu hQ
 symm
 obtain ⟨l,hl,h1⟩:=cY h
 obtain ⟨hz,h2⟩:=aJ h1
 obtain ⟨g,rfl,h3⟩:=fy h2
 obtain ⟨v,us,rfl,ig,ir⟩:=fA iu
 obtain rfl:=nM ir
 obtain ⟨os,hos,el,N⟩:=S.led.at_
 obtain ⟨vs,n,ho,hs,hm⟩:=(S.lst' ha hl hos el N)
 obtain ⟨j,R',e,h4,rn,hj,e1,e2,e3⟩:=(xq (mo hT 8) l [] R h3 vs v S hs ig)
 obtain ⟨H',hA,h5⟩:=jw h4
 symm
 have hz:=cX hz
 rw [hs.length] at hz
 have hlo:=(N _ hm).1
 have lz:(List.toArray vs).size<=sizeLine:=by rw [sizeLine_eq,List.size_toArray]; lia
 refine wpAny_call (codeAny_call_builtin PySem.F.slot_list_remove.plain PySem.F.entry_list_remove (PySem.F.slot_list_remove.check _ _ _ _ _ _ _ _ ⟨_,hlo,rfl⟩ (PySem.F.args_list_remove_2 _ _) ?_))
 symm
 have upd:=Heap.get?_update_self (Obj.mapSeq fun xs=>xs.eraseIdxIfInBounds j) hlo rfl
 have S':=(S.rn' rn).upd (H':=H') (o':=listOf (vs.eraseIdx j).toArray (n+1)) (g:=.list (nN [] (l.eraseIdx j))) ha (Heap.SameBut.update ..) (by
  rw [upd]
  congr 1
  show Obj.mk _ _ _ _=Obj.mk _ _ _ _
  have q:(vs.toArray.eraseIdxIfInBounds j)=(vs.eraseIdx j).toArray:=by apply Array.toList_inj.mp; simp [Array.toList_eraseIdxIfInBounds]
  congr 1
  simp only [q]
  have ne:¬ ((vs.eraseIdx j).toArray.size=vs.toArray.size):=by
   rw [List.size_toArray,List.size_toArray,List.length_eraseIdx,if_pos hj]; lia
  rw [show ∀(b:Bool) (h:b=false) (x y:Nat),(if b then x else y)=y from fun b h x y=>by rw [h]; rfl]
  simpa using ne) (.list (n+1) (hs.erase j)) hA s.toks
 have loop:=sK (prog:=x.prog) (w:=x.w) (A:=A) (v:=v) (R:=PySem.wants Q E) hlo e j (fun m y q hm=>e3 m y (by simpa using q) hm A.in1 (by have:=Hh.units; show A.units+1+8<_; lia)) (by rw [List.size_toArray]; exact hj) e1 lz (hQ J H' nx R' _ _ _ (.refl _) S' .none h5) j 0 rfl (Nat.zero_le _) (fun m q0 h2=>e2 m h2)
 obtain ⟨hp,g,dd,tk,os'⟩:=s
 symm
 wp_walk using PySem.AutoSeq1.wpAny_loadPart' hlo
 exact ⟨plainId_quiet MeetsSeq.plain_remove_loop _,codeAny_builtin MeetsSeq.entry_remove_loop (by
  rw [Around.under_plainId MeetsSeq.plain_remove_loop _]
  exact loop)⟩
end
end
section
section
variable {x:aR} {d:Nat} {vs:aq} {J J':az} {H H':Tr} {nx:Nat} {R:Rn} {O g g' h':Heap} {L L':Addr} {m m':Str->Option Value} {s:Shared} {A A₀:Around} {E:Value->Shared->Prop} {env:Env} {loc:List GV}
theorem sJ{prog:Program}{w:World}{e it l:Addr}{i:Nat}{items:Array Value}{old:Value}{Q:Option Value->Shared->Prop}(hh:A.handled=none)
  (he:IsEnum s.heap e it i old) (hit:s.heap.IsListIter it l i) (hl:s.heap.IsList l items) (hx:items[i]?=none)
  (hQ:∀h',Heap.ExtBut it s.heap h'->(∃o,h'.get? it=some o)->Q none { s with heap:=h' }):wpAny (model prog w) A (pyNext (.ref e)) Q E s:=by
 have hT:s.TypeIs (.ref e) "enumerate":=⟨_,he,rfl⟩
 unfold pyNext
 refine wpAny_bind (wpAny_attempt (wpAny_callSpecial?_slot (name:=Str.ofString "__next__") hT PySem.F.slot_enumerate_next
  (wpAny_call_entry PySem.F.slot_enumerate_next hT PySem.F.entry_enumerate_next ?_ (PySem.F.args_enumerate_next_1 _))))
 show wpAny _ _ (field (.ref e) 2 >>= _) _ _ _
 refine wpAny_bind (wpAny_field he rfl (x:=.ref it) rfl ?_)
 refine wpAny_bind ?_
 symm
 obtain ⟨o,ho,hc,hd⟩:=(id hit)
 obtain ⟨ol,hol,q0,nl,hdl⟩:=hl
 symm
 unfold Builtin.SmallTypes.nextOf
 refine wpAny_bind (wpAny_callSpecial?_slot (name:=Str.ofString "__next__") hit.typeIs slot_listiter_next
  (wpAny_call_entry slot_listiter_next hit.typeIs entry_listiter_next ?_ (args_listiter_next _)))
 show wpAny _ _ (field (.ref it) 0 >>= _) _ _ s
 refine wpAny_bind (wpAny_field ho hd (x:=.ref l) rfl ?_)
 show wpAny _ _ (if (Value.ref l == Value.none)=true then _ else _) _ _ s
 rw [if_neg (show ¬ ((Value.ref l == Value.none)=true) from Bool.false_ne_true)]
 show wpAny _ _ (field (.ref it) 1 >>= _) _ _ s
 refine wpAny_bind (wpAny_field ho hd (x:=.int i 0) rfl ?_)
 show wpAny _ _ (seqItems? (.ref l) >>= _) _ _ s
 refine wpAny_bind (wpAny_seqItems hol hdl ?_)
 simp only [Int.toNat_natCast,hx]
 refine wpAny_bind (wpAny_rule (wpAny_bind (wpAny_setField ho hd (by simp) ?_)))
 show wpAny _ _ (newExc (.type "StopIteration") [] >>= _) _ _ _
 refine wpAny_bind ?_
 simp only [newExc,newTuple]
 refine wpAny_bind (wpAny_newObj_type ?_ (by size_fits))
 refine wpAny_bind (m:=firstArgMember _ _) (wpAny_of_eq (a:=Value.none) (by first | rfl | (simp only [firstArgMember]; rfl)) ?_)
 refine wpAny_newObj_type ?_ (by size_fits)
 simp only [raiseNew]
 refine wpAny_bind (wpAny_handled ?_)
 first | rw [show A.in1.handled=none from hh] | rw [show A.in1.in1.handled=none from hh]
 refine wpAny_bind (wpAny_pure (wpAny_throw ?_))
 refine wpAny_bind (wpAny_isInstance (T:= "StopIteration") (b:=true) ⟨_,Heap.get?_push_size _ rfl,rfl⟩ isSubtype_stop ?_)
 exact wpAny_pure (hQ _ (((Heap.SameBut.update ..).extBut.push _).push _) (ky (Heap.get?_update_self _ ho (Obj.isFreed_of_fields (Obj.data_mapFields hd _)))))
theorem St.renew(S:St x J H nx R O L m s)(hk:∀k a,J.as[k]?=some a->∃o',h'.get? a=some o'/\aL x.T x.CT x.nd (x.prog,x.w) J (H'.get k) o')(F':Fr O L h' m)(tk:Nat):St x J H' nx R O L m { s with heap:=h',toks:=tk }:=by
 refine ⟨⟨S.led.nod,J.as.map fun a=>(h'.get? a).getD { cls:=.none,data:=.plain },fun k o hk'=>?_,by simp,fun p hp=>?_⟩,S.nx,F',S.gens,S.rn⟩
 ·obtain ⟨a,ha,rfl⟩:=(jp hk')
  obtain ⟨o',h1,h2⟩:=(hk k a ha)
  rw [h1]; exact h2
 ·obtain ⟨k,z1,z2⟩:=(kZ hp)
  symm
  obtain ⟨a,ha,e⟩:=(jp z2)
  rw [z1] at ha
  have ha:=Option.some.inj ha
  subst ha
  obtain ⟨o',h1,h2⟩:=(hk k _ z1)
  rw [h1] at e
  obtain ⟨q0,q0,n1,n2,q0⟩:=(S.led.obj z1)
  symm
  exact ⟨by rw [h1]; exact congrArg some e,n1,n2⟩
def AS(o:GO)(k:Nat->Nat->Bool):Bool:=@GO.rec (fun q0=>Bool) false (fun q0=>false) (fun q0=>false) (fun q0 q0=>false) (fun q0=>false) false (fun q0=>false) (fun q0=>false) (fun q0=>false) (fun q0=>false) (fun q0 q0=>false) (fun q0 q0=>false) (fun q0 q0=>false) (fun q0=>false) (fun q0=>false) (fun q0=>false) false (fun q0=>false) (fun q0 q0=>false) (fun q0 q0=>false) (fun a i=>k a i) (fun q0 q0=>false) (fun q0 q0=>false) o
theorem zt{o:GO}{k:Nat->Nat->Bool}(h:AS o k=true):∃a i,o=.enum a i/\k a i=true:=by cases o <;> first | (cases h; done) | exact ⟨_,_,rfl,h⟩
def NA(a:AV)(b r:SV)(en:Nat)(k:KS)(n:Nat):Tr->Nat->Rn->List GV->Bool:=@Nat.rec (fun q0=>Tr->Nat->Rn->List GV->Bool) (fun q0 q0 q0 q0=>false)
 (fun q0 ih H nx R loc=>AS (H.get en) fun it i=>lg (H.get it) (fun j i'=>ef (H.get j) fun l=>tn (aZ l i) (sT it H (fun H=>r H nx R loc k) (Nat.ble (cH l) i&&Nat.beq i i'))
  (@Bool.rec (fun q0=>Bool) false (fN (Nat.succ i) fun i2=>H.set 24 it (.liter j i2) fun H=>H.set 24 en (.enum it i2) fun H=>H.set 24 nx (.tuple [.int (.lit (.ofNat i)),aZ l i]) fun H=>fN (Nat.succ nx) fun n1=>a (.own nx) H n1 R loc fun H nx R loc=>b H nx R loc fun gf H nx R loc=>qc gf H nx R loc ih r k) (Nat.beq i i')))
  (fun q0 q0=>false) (fun q0 q0=>false)) n
def E7(a:AV)(f:EV)(b r:SV):SV:=fun H nx R loc k=>f H nx R loc fun g H nx R=>bU g fun j=>ef (H.get j) fun q0=>H.set 24 nx (.liter j 0) fun H=>fN (Nat.succ nx) fun n1=>H.set 24 n1 (.enum nx 0) fun H=>fN (Nat.succ n1) fun n2=>NA a b r n1 k 16 H n2 R loc
theorem BC{a:AV}{f:EV}{b r:SV}{ts:List Expr}{e:Expr}{bs rest:List Stmt}{i0 a0:Nat}{t0:Str}(hv:vs[i0]?=some (a0,.glo))(ht:x.T[a0]?=some t0)(hm:bp x t0 (.type "enumerate")){kd:Nat}{tp:Pos}(ha:dQ x d vs a (.Tuple ts kd tp))(hf:aK x d vs f e)(hs:bZ e=true)(hb:au x d vs b bs)(hr:au x d vs r rest)(p cp pos:Pos) :
  au x d vs (E7 a f b r) (.For (.Tuple ts kd tp) (.Call (.Name t0 p) [e] [] cp) bs [] pos::rest):=by
 intro H nx R loc k h A env O L m J s Q E Hh En S Lo hQ
 revert hv ht hm ha hf hs hb hr h Hh En S Lo hQ
 revert a f b r ts e bs rest i0 a0 t0 kd tp p cp pos
 revert x d vs H nx R loc k A env O L m J s Q E
 refine @pJ _ _ _ _ ?_
 generalize (dk _ _).x=x,(dk _ _).d=d,(dk _ _).vs=vs,(dk _ _).H=H,(dk _ _).nx=nx,(dk _ _).R=R,(dk _ _).loc=loc,(dk _ _).k=k,(dk _ _).A=A,(dk _ _).env=env,(dk _ _).O=O,(dk _ _).L=L,(dk _ _).m=m,(dk _ _).J=J,(dk _ _).s=s,(dk _ _).Q=Q,(dk _ _).E=E
 intro a f b r ts e bs rest i0 a0 t0 kd tp p cp pos
 intro hv ht hm ha hf hs hb hr h Hh En S Lo hQ
 refine ec hr Hh En hQ (wpAny_For (Call_Name rfl (ik hv ht hm Hh En S Lo ?_ p)) (fun y=>fW rfl _ y))
 have hl:eg x d vs (af f aj) [e]:=gI hf kK hs
 have hp:bx [e]=true:=by unfold bx; rw [List.all_cons,hs]; rfl
 refine nB (kl:=fun gs H nx R=>jo gs fun g=>bU g fun j=>ef (H.get j) fun q0=>H.set 24 nx (.liter j 0) fun H=>fN (Nat.succ nx) fun n1=>H.set 24 n1 (.enum nx 0) fun H=>fN (Nat.succ n1) fun n2=>NA a b r n1 k 16 H n2 R loc) hl hp h Hh En S Lo fun J1 H1 nx1 R1 s1 gs us le1 S1 iu h1=>?_
 symm
 obtain ⟨g,rfl,h1⟩:=fy h1
 cases iu with
 | @cons _ v _ us iv ir=>
 cases ir
 obtain ⟨j,rfl,h2⟩:=bn h1
 obtain ⟨l,hl,h3⟩:=cY h2
 obtain ⟨H2,a1,h4⟩:=Tr.set_ok _ _ _ _ _ h3
 rw [bP] at h4
 obtain ⟨H3,a2,h5⟩:=Tr.set_ok _ _ _ _ _ h4
 rw [bP] at h5
 obtain ⟨la,rfl,hj⟩:=iv
 obtain ⟨us0,lu,iu0⟩:=(S1.lst hj hl)
 symm
 refine call_enumerate_list lu fun h' he hit hsz hk=>?_
 refine wpAny_pyIter_enum he ?_
 symm
 obtain ⟨os,hos,el,N⟩:=S1.led.at_
 have lts:∀q∈J1.as.zip os,q.1<s1.heap.objs.size:=fun q hq=>Heap.lt_size (N q hq).1
 have F1:Fr O L h' m:=⟨let ⟨o,es,ep,z,r⟩:=S1.fr.ns; ⟨o,es,ep,hk _ _ z,r⟩,fun b o e=>hk b o (S1.fr.keep b o e),S1.fr.above⟩
 have out:∀b:Addr,s1.heap.objs.size<=b->b≠L/\O.get? b=none:=fun b hb=>by
  have hL:=S1.fr.ns.lt
  have hab:=S1.fr.above
  refine ⟨fun q=>?_,Heap.get?_none_of_le ?_⟩
  ·rw [q] at hb; exact Nat.lt_irrefl _ (Nat.lt_of_lt_of_le hL hb)
  ·exact Nat.le_trans hab (Nat.le_trans (Nat.le_of_lt hL) hb)
 obtain ⟨oi,oi1,oi2,oi3⟩:=hit
 have S2:St x (J1.push s1.heap.objs.size) H2 (nx1+1) R1 O L m { s1 with heap:=h' }:=S1.made' hos el F1 (fun q hq=>by
  rcases List.mem_cons.mp hq with rfl | hq
  ·exact ⟨oi1,out _ (Nat.le_refl _)⟩
  ·have:=N q hq; exact ⟨hk _ _ this.1,this.2⟩) lts (.liter (aE (az.le_push _ _).1 hj) oi2 oi3) a1
 obtain ⟨os2,hos2,el2,N2⟩:=S2.led.at_
 symm
 have S3:St x ((J1.push s1.heap.objs.size).push (s1.heap.objs.size+1)) H3 (nx1+1+1) R1 O L m { s1 with heap:=h' }:=S2.made' hos2 el2 F1 (fun q hq=>by
  rcases List.mem_cons.mp hq with rfl | hq
  ·exact ⟨he,out _ (Nat.le_succ _)⟩
  ·exact N2 q hq) (fun q hq=>by
   have:=(List.of_mem_zip (a:=q.1) (b:=q.2) hq).1
   rcases List.mem_append.mp this with z | z
   ·obtain ⟨kk,hkk⟩:=(List.mem_iff_getElem?.mp z)
    have:=lts _ (cn hkk (List.getElem?_eq_getElem (el▸aN hkk)))
    exact Nat.lt_succ_of_lt this
   ·rw [List.mem_singleton.mp z]; exact Nat.lt_succ_self _) (.enum .none (aE (az.le_push _ _).1 (by rw [<- S1.nx]; exact eE J1 _))) a2
 have le3:J1.le ((J1.push s1.heap.objs.size).push (s1.heap.objs.size+1)):=(az.le_push _ _).trans (az.le_push _ _)
 have hen:((J1.push s1.heap.objs.size).push (s1.heap.objs.size+1)).as[nx1+1]?=some (s1.heap.objs.size+1):=by have:=eE (J1.push s1.heap.objs.size) (s1.heap.objs.size+1); rw [S2.nx] at this; exact this
 generalize hJ3:(J1.push s1.heap.objs.size).push (s1.heap.objs.size+1)=J3 at S3 le3 hen
 generalize hea:s1.heap.objs.size+1=ea at hen he
 refine codeAny_forLoop_any (fun n=>rP x vs env O L J3 (NA a b r (nx1+1) k n)) (fun n s4 hI=>?_) 16 (ed (.refl _) S3 (Lo.more (le1.trans le3)) h5)
 symm
 obtain ⟨J4,H4,nx4,R4,loc4,m4,le4,S4,Lo4,h6⟩:=hI
 symm
 have le:=(le1.trans le3).trans le4
 cases n with
 | zero=>cases h6
 | succ n=>
  symm
  obtain ⟨it,i,e1,h7⟩:=zt h6
  have hen4:J4.as[nx1+1]?=some ea:=aE le4.1 hen
  obtain ⟨oe,oe1,oe2,oe3,oe4⟩:=(S4.led.obj hen4)
  rw [e1] at oe4
  obtain ⟨ita,old,rfl,hit⟩:=oe4
  obtain ⟨ot,ot1,ot2,ot3,ot4⟩:=(S4.led.obj hit)
  symm
  rcases iZ h7 with ⟨j4,i',e2,h8⟩ | ⟨_,_,_,h8⟩ | ⟨_,_,_,h8⟩
  rotate_left
  ·cases h8
  ·cases h8
  rw [e2] at ot4
  symm
  obtain ⟨la4,hj4,hc,hd⟩:=ot4
  obtain ⟨l4,hl4,h9⟩:=cY h8
  obtain ⟨us4,lu4,iu4⟩:=(S4.lst hj4 hl4)
  symm
  rcases nV h9 with ⟨q,h10⟩ | ⟨q,h10⟩
  ·obtain ⟨c,h11⟩:=aJ h10
   symm
   obtain ⟨c1,c2⟩:=Bool.and_eq_true_iff.mp c
   have c1:=Nat.le_of_ble_eq_true c1
   have c2:=Nat.eq_of_beq_eq_true c2
   subst c2
   rw [cP,iu4.length] at c1
   obtain ⟨H5,hA,h12⟩:=Tr.set_ok _ _ _ _ _ h11
   symm
   refine sJ Hh.hnd (i:=i) oe1 ⟨ot,ot1,hc,hd⟩ lu4 (by simp; lia) fun h5 he5 ho5=>?_
   exact wpAny_execs_nil (ed le (S4.drop hit he5 ho5 hA s4.toks) Lo4 h12)
  ·obtain ⟨c2,h11⟩:=aJ h10
   symm
   have c2:=Nat.eq_of_beq_eq_true c2
   subst c2
   rw [bP] at h11
   obtain ⟨H5,b1,h12⟩:=Tr.set_ok _ _ _ _ _ h11
   obtain ⟨H6,b2,h13⟩:=Tr.set_ok _ _ _ _ _ h12
   obtain ⟨H7,b3,h14⟩:=Tr.set_ok _ _ _ _ _ h13
   rw [bP] at h14
   obtain ⟨v,v1,v2⟩:=(iu4.get (jz q))
   symm
   have nit:it≠nx1+1:=fun z=>by rw [z,e1] at e2; cases e2
   have nea:ea≠ita:=fun z=>by
    rw [<- z] at hit
    exact nit ((List.getElem?_inj (aN hit) S4.led.nod).mp (hit.trans hen4.symm))
   refine wpAny_pyNext_enum_item oe1 ⟨ot,ot1,hc,hd⟩ lu4 (by simpa using v1) nea fun h1 g1 g2 g3 g4 g5=>?_
   refine wpAny_letOwnedTupleGo_enum g1 fun h2 f1 f2=>?_
   symm
   have f2:Heap.SameBut ea h1 h2:=f2
   have lte:ea<s4.heap.objs.size:=Heap.lt_size oe1
   have keep:∀b o,b≠ea->b≠ita->s4.heap.get? b=some o->h2.get? b=some o:=fun b o n1 n2 z=>(f2.2 b n1).trans (g5 b o n1 n2 z)
   have F2:Fr O L h2 m4:=⟨let ⟨o,es,ep,z,r⟩:=S4.fr.ns; ⟨o,es,ep,keep _ _ (Ne.symm oe2) (Ne.symm ot2) z,r⟩,fun b o z=>keep b o (fun w=>by rw [w,oe3] at z; cases z) (fun w=>by rw [w,ot3] at z; cases z) (S4.fr.keep b o z),S4.fr.above⟩
   obtain ⟨ot',p1,p2,p3⟩:=g2
   have cast:((i:Int)+1)=((i+1:Nat):Int):=by push_cast; rfl
   have S5:St x J4 H6 nx4 R4 O L m4 { s4 with heap:=h2,toks:=s4.toks+1 }:=S4.renew (fun kk aa hkk=>by
    rw [b2,b1]
    by_cases z1:kk=nx1+1
    ·subst z1
     rw [hen4] at hkk; cases hkk
     rw [if_pos rfl]
     refine ⟨_,f1,?_⟩
     rw [cast]
     exact .enum v hit
    ·rw [if_neg z1]
     by_cases z2:kk=it
     ·subst z2
      rw [hit] at hkk; cases hkk
      rw [if_pos rfl]
      exact ⟨ot',(f2.2 _ (Ne.symm nea)).trans p1,.liter hj4 p2 p3⟩
     ·rw [if_neg z2]
      obtain ⟨o,w1,q0,q0,w2⟩:=(S4.led.obj hkk)
      refine ⟨o,keep _ _ (fun w=>?_) (fun w=>?_) w1,w2⟩
      ·rw [w] at hkk; exact z1 ((List.getElem?_inj (aN hkk) S4.led.nod).mp (hkk.trans hen4.symm))
      ·rw [w] at hkk; exact z2 ((List.getElem?_inj (aN hkk) S4.led.nod).mp (hkk.trans hit.symm))) F2 (s4.toks+1)
   obtain ⟨os5,hos5,el5,N5⟩:=S5.led.at_
   symm
   have lt5:∀q∈J4.as.zip os5,q.1<s4.heap.objs.size:=fun q hq=>by
    have:=(List.of_mem_zip (a:=q.1) (b:=q.2) hq).1
    obtain ⟨kk,hkk⟩:=(List.mem_iff_getElem?.mp this)
    obtain ⟨o,w1,q0⟩:=(S4.led.obj hkk)
    exact Heap.lt_size w1
   have out4:s4.heap.objs.size≠L/\O.get? s4.heap.objs.size=none:=by
    have hL:=S4.fr.ns.lt
    have hab:=S4.fr.above
    refine ⟨fun q=>?_,Heap.get?_none_of_le ?_⟩
    ·rw [<- q] at hL; exact Nat.lt_irrefl _ hL
    ·exact Nat.le_trans hab (Nat.le_of_lt hL)
   have le6:=az.le_push J4 s4.heap.objs.size
   have S6:St x (J4.push s4.heap.objs.size) H7 (nx4+1) R4 O L m4 { s4 with heap:=h2,toks:=s4.toks+1 }:=S5.made' hos5 el5 S5.fr (fun q hq=>by
    rcases List.mem_cons.mp hq with rfl | hq
    ·exact ⟨(f2.2 _ (Nat.ne_of_gt lte)).trans g3,out4⟩
    ·exact N5 q hq) lt5 (.tuple (vs:=[.int i s4.toks,v]) (.cons (.int (e:=.lit (.ofNat i)) _ trivial) (.cons (v2.more le6) .nil))) b3
   have it6:Is x.T (J4.push s4.heap.objs.size) (.own nx4) (.ref s4.heap.objs.size):=.own (by rw [<- S5.nx]; exact eE J4 _)
   refine ha (.own nx4) H7 _ R4 loc4 _ h14 A env O L m4 _ _ _ _ _ Hh En S6 (Lo4.more le6) it6 fun J8 H8 nx8 R8 loc8 m8 s8 le8 S8 Lo8 h15=>?_
   refine hb H8 nx8 R8 loc8 _ h15 A env O L m8 J8 s8 _ _ Hh En S8 Lo8 fun J9 H9 nx9 R9 loc9 m9 s9 gf fl le9 S9 Lo9 hfl hk9=>?_
   have le':=le6.trans (le8.trans le9)
   cases hfl with
   | next=>exact ⟨n,Nat.lt_succ_self n,ed (le4.trans le') S9 Lo9 hk9⟩
   | cont=>exact ⟨n,Nat.lt_succ_self n,ed (le4.trans le') S9 Lo9 hk9⟩
   | brk=>exact ed (le.trans le') S9 Lo9 hk9
   | ret i=>exact hQ J9 H9 nx9 R9 loc9 m9 s9 (.ret _) _ (le.trans le') S9 Lo9 (.ret i) hk9
end
end
section
noncomputable abbrev aR.more(x:aR)(E:Frag):aR:={ x with K:=x.K++E }
theorem gZ{l r:Frag}{a:Addr}:(l++r:Frag).lookup a=match l.lookup a with | some o=>some o | none=>r.lookup a:=by
 induction l with
 | nil=>rfl
 | cons p l ih=>
  show List.lookup a (p::(l++r))=_
  rw [List.lookup_cons,List.lookup_cons]
  cases a == p.1 with
  | true=>rfl
  | false=>exact ih
theorem me:∀{as:List Addr} {os:List Obj} {k:Nat} {a:Addr} {o:Obj},as.Nodup->as[k]?=some a->os[k]?=some o->(as.zip os:Frag).lookup a=some o
 | [],_,_,_,_,_,h,_=>by simp at h
 | _::_,[],_,_,_,_,_,h=>by simp at h
 | b::as,p::os,0,a,o,nd,h1,h2=>by
  simp only [List.getElem?_cons_zero,Option.some.injEq] at h1 h2
  subst h1 h2
  show List.lookup b ((b,p)::as.zip os)=_
  rw [List.lookup_cons,beq_self_eq_true]
 | b::as,p::os,k+1,a,o,nd,h1,h2=>by
  simp only [List.getElem?_cons_succ] at h1 h2
  obtain ⟨n1,n2⟩:=(List.nodup_cons.mp nd)
  have ne:(a == b)=false:=by
   rw [beq_eq_false_iff_ne]
   intro e
   rw [e] at h1
   exact n1 (List.mem_of_getElem? h1)
  show List.lookup a ((b,p)::as.zip os)=_
  rw [List.lookup_cons,ne]
  exact me n2 h1 h2
theorem iq:∀{as:List Addr} {os:List Obj} {a:Addr} {o:Obj},(as.zip os:Frag).lookup a=some o->(a,o)∈as.zip os
 | [],_,_,_,h=>by cases h
 | _::_,[],_,_,h=>by cases h
 | b::as,p::os,a,o,h=>by
  have e:List.lookup a ((b,p)::as.zip os)=(match a == b with | true=>some p | false=>List.lookup a (as.zip os)):=List.lookup_cons
  have h2:(match a == b with | true=>some p | false=>List.lookup a (as.zip os))=some o:=e.symm.trans h
  cases q:a == b with
  | true=>
   rw [q] at h2
   have h2:some p=some o:=h2
   cases h2
   have:a=b:=by simpa using q
   rw [this]
   exact .head _
  | false=>rw [q] at h2; exact .tail _ (iq h2)
def tc(x:aR)(E:Frag)(J:az)(H:Tr):Prop:=∀k a,J.as[k]?=some a->∃o,(x.more E).K.lookup a=some o/\aL x.T x.CT x.nd (x.prog,x.w) J (H.get k) o
def HY(x:aR)(d:Nat)(vs:aq)(body:List Stmt)(loc:List GV)(J:az)(H:Tr)(it:Addr × Nat):Prop:=
 ∀(E:Frag),tc x E J H->∀(A:Around) (env:Env) (h₁:Heap) (L:Addr) (m:Str->Option Value) (s:Shared) (Q:Flow->Shared->Prop) (Eo:Value->Shared->Prop),
  de (x.more E) d A h₁ L->bN env L->St (x.more E) ⟨[],[],J.ds,it⟩ .e 0 (.mk [] []) h₁ L m s->bq (x.more E) ⟨[],[],J.ds,it⟩ env L m vs loc->
  (∀g J' H' nx' R' m' s',KtsTurn (cT A) h₁ g->St (x.more E) J' H' nx' R' g L m' s'->Q (.ret (.bool true)) s')->wpAny (model x.prog x.w) A (execs body env) Q Eo s
theorem jT{l r:List GV}(hr:∀j,aZ r j=.nul)(j:Nat):aZ (l++r) j=aZ l j:=by
 rw [jA,jA]
 rcases Nat.lt_or_ge j l.length with lt | ge
 ·rw [List.getElem?_append_left lt]
 ·rw [List.getElem?_append_right ge,<- jA,hr]
  rw [List.getElem?_eq_none ge]; rfl
section
variable {x:aR} {d:Nat} {vs:aq} {J J':az} {H:Tr} {nx:Nat} {R:Rn} {O g g':Heap} {L L':Addr} {m m':Str->Option Value} {s:Shared} {A A₀:Around} {base:Heap} {outer:List Env} {E:Value->Shared->Prop} {env:Env} {loc:List GV}
theorem az.same{J J':az}(le:J.le J')(h1:J'.as.length=J.as.length)(h2:J'.ns.length=J.ns.length):J'=J:=by
 obtain ⟨a,b,c,d⟩:=J
 obtain ⟨a',b',c',d'⟩:=J'
 obtain ⟨l1,l2,l3,l4⟩:=le
 have e1:a=a':=List.IsPrefix.eq_of_length l1 h1.symm
 have e2:b=b':=List.IsPrefix.eq_of_length l2 h2.symm
 dsimp only at l3 l4
 rw [e1,e2,l3,l4]
open Classical in
theorem AD(hT:x.T.Nodup)(hD:("__debug__" : Str)∉x.T){r:aF}{fa:Addr}{body:List Stmt}{D:aV}(ok:br x vs r fa body D)(hvs:(vs.all fun p=>match p.2 with | .loc=>true | .glo=>true | _=>false)=true)(hcel:r.cel=[]){gs loc0:List GV}(hl1:gs.length=r.np)(hl2:r.f=r.np)(htl:∀j,aZ r.tl j=.nul){it:Addr × Nat}
  (Z:de x (d+1) A O L) (S:St x J H nx R O L m s) {us:List Value} (iu:be x.T J gs us) (hcv:∀j v,Is x.T J (aZ gs j) v->aZ loc0 j≠.nul->Is x.T ⟨[],[],J.ds,it⟩ (aZ loc0 j) v) (hcn:∀j,aZ gs j=.nul->aZ loc0 j=.nul) (hb:HY x d vs body loc0 J H it) {Q:Value->Shared->Prop}
  (hQ:∀g s',KtsTurn (cT A) O g->St x J H nx R g L m s'->Q (.bool true) s'):wpAny (model x.prog x.w) A (call (.ref fa) us) Q E s:=by
 have env:Env:=default
 revert hT hD ok hvs hcel hl1 hl2 htl Z S iu hcv hcn hb hQ
 revert r fa body D it us
 revert E
 revert Q
 revert s
 revert J
 revert m
 revert L
 revert O
 revert env
 revert A
 revert gs
 revert loc0
 revert R
 revert nx
 revert H
 revert vs
 revert d
 revert x
 refine @pJ _ _ _ _ ?_
 generalize (dk _ _).x=x,(dk _ _).d=d,(dk _ _).vs=vs,(dk _ _).H=H,(dk _ _).nx=nx,(dk _ _).R=R,(dk _ _).loc=loc0,(dk _ _).k=gs,(dk _ _).A=A,(dk _ _).env=env,(dk _ _).O=O,(dk _ _).L=L,(dk _ _).m=m,(dk _ _).J=J,(dk _ _).s=s,(dk _ _).Q=Q,(dk _ _).E=E
 intro r fa body D it us
 intro hT hD ok hvs hcel hl1 hl2 htl Z S iu hcv hcn hb hQ
 symm
 obtain ⟨A₀,base,outer,env,B,hA,hfr,hk,top,ko⟩:=Z.z
 symm
 have eO:cT A=outer.filterMap (·.frame):=by unfold cT; rw [hA]; rfl
 have hB:EP r gs H nx (fun loc H' nx'=>decide (loc=gs++r.tl/\H'=H/\nx'=nx))=true:=by
  unfold EP
  have c1:(Nat.ble r.f (cH gs)&&Nat.ble (cH gs) r.np)=true:=by
   rw [cP,hl1,hl2]
   have:Nat.ble r.np r.np=true:=Nat.ble_eq_true_of_le (Nat.le_refl _)
   rw [this]; rfl
  rw [c1]
  show fL _ (fun loc=>vA r.cel loc H nx _)=true
  rw [mS,hcel]
  refine decide_eq_true ⟨?_,rfl,rfl⟩
  rw [iH,kp,cP,hl1,hl2]
  have:Nat.sub r.np r.np=0:=Nat.sub_self _
  rw [this]; rfl
 refine wpAny_call (lX (c:=fun loc H' nx'=>decide (loc=gs++r.tl/\H'=H/\nx'=nx)) hT hD ok hB Z.here S iu fun g L' m' J' H' nx' loc' s1 env' base' outer' env1 e2 le2 Fg st q0 B' hA' hf' Hh' En' S' Lo' low lv=>?_)
 symm
 obtain ⟨q1,q2,q3⟩:=(of_decide_eq_true e2)
 subst q1 q2 q3
 have:=az.same le2 (by rw [S'.nx,S.nx]) (by rw [S'.rn.len,S.rn.len])
 subst this
 have low:=low hvs
 obtain ⟨e1,e2'⟩:=(nH hA hfr En'.frame)
 have Bz:Below A base (env::outer) g:=⟨hA,(pushX B Fg hfr hk).stays,(pushX B Fg hfr hk).frames⟩
 obtain ⟨nod,os,hos,el,N⟩:=S'.led
 symm
 let h₁:Heap:=lB s1.heap L'
 have up:∀c o,h₁.get? c=some o->s1.heap.get? c=some o:=fun c o e=>Dl e
 have dn:∀(c:Addr) o,@LT.lt Nat _ c L'->s1.heap.get? c=some o->h₁.get? c=some o:=fun c o lt e=>zs lt e
 have k0:∀c o,g.get? c=some o->h₁.get? c=some o:=fun c o e=>dn c o (Nat.lt_of_lt_of_le (Heap.lt_size e) S'.fr.above) (S'.fr.keep c o e)
 have gL:∃o,g.get? L=some o:=Fg.ns.imp fun q0 h=>h.elim fun q0 h=>h.elim fun q0 h=>h.1
 have frg:∀b,b∈L::outer.filterMap (·.frame)->∃o,g.get? b=some o:=fun b hb=>by
  rcases List.mem_cons.mp hb with rfl | hb
  ·exact gL
  ·obtain ⟨q0,o,ho,q0⟩:=(Bz.frames.mem (show b∈(env::outer).filterMap (·.frame) by rw [List.filterMap_cons,hfr]; exact .tail _ hb))
   exact ⟨o,ho⟩
 have lowz:∀p∈J'.as.zip os,@LT.lt Nat _ p.1 L':=fun p hp=>low _ (List.of_mem_zip (a:=p.1) (b:=p.2) hp).1
 have ko':∀b∈(env::outer).filterMap (·.frame),(x.more (J'.as.zip os)).K.lookup b=none:=fun b hb=>by
  have hb':b∈L::outer.filterMap (·.frame):=by rw [List.filterMap_cons,hfr] at hb; exact hb
  have k1:x.K.lookup b=none:=by
   rcases List.mem_cons.mp hb' with rfl | hb'
   ·cases q:x.K.lookup b with
    | none=>rfl
    | some o=>have:=Z.here.X b o q; rw [kts_self Fg] at this; cases this
   ·exact ko b hb'
  show (x.K++J'.as.zip os:Frag).lookup b=none
  rw [gZ,k1]
  cases q:(J'.as.zip os:Frag).lookup b with
  | none=>rfl
  | some o=>
   have:=(N _ (iq q)).2.2
   obtain ⟨o',ho'⟩:=(frg b hb')
   rw [ho'] at this; cases this
 have XE:(x.more (J'.as.zip os)).K.In h₁:=fun a o e=>by
  have e:(x.K++J'.as.zip os:Frag).lookup a=some o:=e
  rw [gZ] at e
  cases q:x.K.lookup a with
  | some o'=>rw [q] at e; cases e; exact k0 _ _ (Hh'.X _ _ q)
  | none=>
   rw [q] at e
   have hm:=iq e
   exact dn _ _ (lowz _ hm) (N _ hm).1
 have ZE:de (x.more (J'.as.zip os)) d (A.deeper env') h₁ L':=by
  refine ⟨?_,A,base,env::outer,env',⟨Bz.stack,fun c o e=>k0 _ _ (Bz.stays c o e),hK k0 Bz.frames⟩,Around.frames_deeper hA,En'.frame,En'.kind,top,ko'⟩
  obtain ⟨A₂,base₂,outer₂,env₂,B₂,hA₂,hf₂,hk₂⟩:=Hh'.below
  exact ⟨⟨A₂,base₂,outer₂,env₂,⟨B₂.stack,fun c o e=>k0 _ _ (B₂.stays c o e),hK k0 B₂.frames⟩,hA₂,hf₂,hk₂⟩,XE,Hh'.top.keeps k0,Hh'.room,Hh'.hnd,Hh'.units⟩
 have SE:St (x.more (J'.as.zip os)) ⟨[],[],J'.ds,it⟩ .e 0 (.mk [] []) h₁ L' m' s1:=⟨⟨List.nodup_nil,[],fun k o hk=>by simp at hk,rfl,News.nil⟩,rfl,⟨S'.fr.ns,up,yc _ _⟩,S'.gens,⟨fun k b hk=>by simp [Rn.bnd] at hk,rfl,fun i j b hm=>by simp [Rn.eqs] at hm⟩⟩
 have LoE:bq (x.more (J'.as.zip os)) ⟨[],[],J'.ds,it⟩ env' L' m' vs loc0:=fun j i' kd hj=>by
  obtain ⟨t,ht,hd,sl⟩:=(Lo' j i' kd hj)
  refine ⟨t,ht,hd,?_⟩
  have hk:=List.all_eq_true.mp hvs _ (List.mem_of_getElem? hj)
  cases kd with
  | glo=>exact sl
  | cel=>cases hk
  | blk=>cases hk
  | loc=>
   rw [jT htl] at sl
   refine ⟨sl.1,sl.2.1,fun n=>?_⟩
   obtain ⟨v,v1,v2⟩:=(sl.2.2 fun q=>n (hcn j q))
   exact ⟨v,v1,hcv j v v2 n⟩
 have led:tc x (J'.as.zip os) J' H':=fun k a ha=>by
  have lt:k<os.length:=el▸aN ha
  have ho:=List.getElem?_eq_getElem lt
  refine ⟨os[k],?_,hos k _ ho⟩
  show (x.K++J'.as.zip os:Frag).lookup a=_
  rw [gZ]
  cases q:x.K.lookup a with
  | some o=>
   have:=Hh'.X a o q
   rw [(N _ (cn ha ho)).2.2] at this; cases this
  | none=>exact me nod ha ho
 refine hb _ led (A.deeper env') env' h₁ L' m' s1 _ _ ZE En' SE LoE fun g2 J2 H2 nx2 R2 m2 s2 T2 S2=>?_
 rw [e1] at T2
 symm
 have nL0:O.get? L=none:=kts_self Fg
 obtain ⟨T1,K1⟩:=(kts_turn_at (h:=s2.heap) (fs:=outer.filterMap (·.frame)) (g:=O))
  (fun b hb=>(B.frames.mem hb).2.imp fun q0=>And.left)
  (fun b o e nm=>S2.fr.keep b o (T2.other b o (k0 _ _ (st b o e)) fun hm=>by
   rcases List.mem_cons.mp hm with q | q
   ·rw [q,nL0] at e; cases e
   ·exact nm q))
  (fun b o e hm=>(T2.up (k0 _ _ (st b o e))).imp fun q0=>S2.fr.keep _ _)
 obtain ⟨oL,es,ep,hoL,hdL,hkL,hnL⟩:=Fg.ns
 obtain ⟨sl,hs⟩:=(T2.up (k0 _ _ hoL))
 symm
 rw [<- eO] at T1 K1
 refine hQ _ s2 T1 ⟨⟨nod,os,hos,el,fun p hp=>?_⟩,S'.nx,⟨⟨_,es,ep,S2.fr.keep _ _ hs,hdL,hkL,hnL⟩,K1,by rw [T1.size]; exact Fg.above⟩,S2.gens,S'.rn⟩
 obtain ⟨z1,z2,z3⟩:=(N p hp)
 have nf:p.1∉L::outer.filterMap (·.frame):=fun q=>by
  obtain ⟨o,ho⟩:=(frg _ q)
  rw [z3] at ho; cases ho
 refine ⟨S2.fr.keep _ _ (T2.other _ _ (dn _ _ (lowz p hp) z1) nf),(fun q=>nf (by rw [q]; exact .head _)),T1.none_ _ ?_⟩
 cases q:O.get? p.1 with
 | none=>rfl
 | some o=>rw [st _ _ q] at z3; cases z3
end
end
section
def Eu(pat:eh):KS:=fun gf H nx R loc=>@GF.rec (fun q0=>Bool) (uy pat H nx R loc true) false false (fun q0=>false) gf
noncomputable def gw:KX:=fun q0 q0 q0 q0=>false
def vy:KS:=fun gf q0 q0 q0 q0=>@GF.rec (fun q0=>Bool) false false false (fun g=>gB g fun b=>b) gf
section
variable {x:aR} {d:Nat} {vs:aq} {J J':az} {H:Tr} {nx:Nat} {R:Rn} {O g g':Heap} {L L':Addr} {m m':Str->Option Value} {s:Shared} {A A₀:Around} {base:Heap} {outer:List Env} {E:Value->Shared->Prop} {env:Env} {loc:List GV} {Q:Flow->Shared->Prop}
theorem FA{f:SX}{l rest:List Stmt}(hf:bS x d vs f l)(hvs:(vs.all fun p=>match p.2 with | .loc=>true | .glo=>true | _=>false)=true){pat:eh}(h:f H nx R loc (Eu pat) gw=true)(Z:de x d A O L)(En:bN env L)(S:St x J H nx R O L m s)(Lo:bq x J env L m vs loc)
  (hR:∀g m s,KtsTurn (cT A) O g->UU x pat vs env g L m s J.it->wpAny (model x.prog x.w) A (execs rest env) Q E s):wpAny (model x.prog x.w) A (execs (l++rest) env) Q E s:=by
 rw [kz]
 refine wpAny_bind (hf H nx R loc _ _ h A env O L m J s _ E Z En S Lo (fun g J' H' nx' R' loc' m' s' gf fl T le S' Lo' hfl hk=>?_) fun g J' H nx R m s i e T le U hk=>by cases hk)
 cases hfl with
 | next=>
  have:=(zB (show uy pat H' nx' R' loc' true=true from hk) hvs S' Lo').2
  rw [<- le.2.2.2] at this
  exact hR g m' s' T this
 | brk=>cases hk
 | cont=>cases hk
 | ret i=>cases hk
theorem By{f:SX}{l:List Stmt}(hf:bS x d vs f l)(h:f H nx R loc vy gw=true)(Z:de x d A O L)(En:bN env L)(S:St x J H nx R O L m s)(Lo:bq x J env L m vs loc)
  (hR:∀g J' H nx R m s,KtsTurn (cT A) O g->St x J' H nx R g L m s->Q (.ret (.bool true)) s):wpAny (model x.prog x.w) A (execs l env) Q E s:=by
 refine hf H nx R loc _ _ h A env O L m J s _ E Z En S Lo (fun g J' H' nx' R' loc' m' s' gf fl T le S' Lo' hfl hk=>?_) fun g J' H nx R m s i e T le U hk=>by cases hk
 cases hfl with
 | next=>cases hk
 | brk=>cases hk
 | cont=>cases hk
 | ret i=>
  obtain ⟨b,rfl,hb⟩:=(qb (show gB _ (fun b=>b)=true from hk))
  subst hb
  cases i
  exact hR g J' H' nx' R' m' s' T S'
def tz(c:Value->Bool)(f:EV)(p0:eh)(H:Tr)(nx:Nat)(R:Rn)(loc:List GV):Bool:=f H nx R loc fun g H nx R=>Cp g fun v=>H.set 24 nx .oit fun H=>fN (Nat.succ nx) fun n1=>@Bool.rec (fun q0=>Bool) false (c v) (iX p0 .oit nx H n1 R loc)
theorem QF{r:j6}{b b2:SX}{ts:List Expr}{b1s b2s:List Stmt}(hr:gX x d vs r ts)(hp:bx ts=true)(hl:ts.length=3)(hb:bS x d vs b b1s)(hb2:bS x d vs b2 b2s)(hvs:(vs.all fun p=>match p.2 with | .loc=>true | .glo=>true | _=>false)=true)
  {Inv:eh->Prop} {RowOk:Nat->Nat->Prop} (hno:∀pat,Inv pat->pk pat.P=true/\pat.P.length<300) (vk:∀pat,Inv pat->∀vals:List Int,vals.length=pat.cs.length->mr pat.cs vals->b2 (d8 (pat.P++[.oit])) (pat.P.length+1) (.mk (cW pat.cs vals) []) (ew pat.rt) (ju pat .oit pat.P.length) gw=true)
  (step:∀pat,Inv pat->∀who deed,RowOk who deed->∀(z:Int) (vals:List Int),vals.length=pat.cs.length->mr pat.cs vals->∃pat' ge w B,Inv pat'/\ge.ok (vals.length+1)/\ge.ev (vals++[w])=z/\gG B (vals++[w])/\B.length=vals.length+1/\
   r [.int (.lit (.ofNat who)),.str deed,.int ge] (d8 (pat.P++[.oit])) (pat.P.length+1) (.mk B []) (ew pat.rt) (fun H nx R loc=>b H nx R loc (ju pat' .oit pat.P.length) gw)=true)
  {la:Addr} {rows:List (Nat × Nat × Int)} (hrows:Rows x la rows) (mu:∀q∈rows,RowOk q.1 q.2.1) {f:EV} {e:Expr} (hf:aK x d vs f e) (hn:kb e=true) {c:Value->Bool} (hc:∀v,c v=true->v=.ref la) {p0:eh} (hi0:Inv p0) (h:tz c f p0 H nx R loc=true)
  (Z:de x d A O L) (En:bN env L) (S0:St x J H nx R O L m s) (Lo0:bq x J env L m vs loc) (hit0:J.it=(la,0)) {kd:Nat} {tp pos:Pos}
  (hEnd:∀g pat m s it a,KtsTurn (cT A) O g->Inv pat->pB x pat .junk a vs env g L m s it->Q .next s):wpAny (model x.prog x.w) A (exec (.For (.Tuple ts kd tp) e (b1s++b2s) [] pos) env) Q E s:=by
 revert hr hp hl hb hb2 hvs hno vk step hrows mu hf hn hc hi0 h Z En S0 Lo0 hit0 hEnd
 revert r b b2 ts b1s b2s Inv RowOk la rows f e p0 kd tp pos
 revert E
 revert Q
 revert s
 revert J
 revert m
 revert L
 revert O
 revert env
 revert A
 revert c
 revert loc
 revert R
 revert nx
 revert H
 revert vs
 revert d
 revert x
 refine @pJ _ _ _ _ ?_
 generalize (dk _ _).x=x,(dk _ _).d=d,(dk _ _).vs=vs,(dk _ _).H=H,(dk _ _).nx=nx,(dk _ _).R=R,(dk _ _).loc=loc,(dk _ _).k=c,(dk _ _).A=A,(dk _ _).env=env,(dk _ _).O=O,(dk _ _).L=L,(dk _ _).m=m,(dk _ _).J=J,(dk _ _).s=s,(dk _ _).Q=Q,(dk _ _).E=E
 intro r b b2 ts b1s b2s Inv RowOk la rows f e p0 kd tp pos
 intro hr hp hl hb hb2 hvs hno vk step hrows mu hf hn hc hi0 h Z En S0 Lo0 hit0 hEnd
 symm
 obtain ⟨ol,us,nl,k1,k2,k3,k4,k5⟩:=hrows.ex
 symm
 refine wpAny_For (hf H nx R loc _ h A env O L m J s _ E Z.here En S0 Lo0 fun J1 H1 nx1 R1 s1 gv v le1 S1 iv h1=>?_) (fun y=>fW hn _ y)
 symm
 obtain ⟨v',rfl,h2⟩:=wx h1
 cases iv
 obtain ⟨H2,a1,h3⟩:=Tr.set_ok _ _ _ _ _ h2
 rw [bP] at h3
 obtain ⟨hm,hcv⟩:=aJ h3
 symm
 have:=hc _ hcv
 subst this
 have lu1:s1.heap.IsList la us:=⟨ol,(Z.here.X.keeps S1.fr.keep) _ _ k1,k2,nl,k3⟩
 refine wpAny_pyIter_list lu1 ?_
 symm
 obtain ⟨os,hos,el,N⟩:=S1.led.at_
 symm
 have hit1:J1.it=(la,0):=le1.2.2.2.symm.trans hit0
 have S2:St x (J1.push s1.heap.objs.size) H2 (nx1+1) R1 O L m { s1 with heap:=s1.heap.push { cls:=.type "list_iterator",data:=.fields #[.ref la,.int 0 0] } }:=
  S1.made' hos el (S1.fr.push _) (N.push S1.fr _) (fun q hq=>Heap.lt_size (N q hq).1) (.oit rfl (by show _=Data.fields #[.ref J1.it.1,.int J1.it.2 0]; rw [hit1]; rfl)) a1
 have Lo2:=(Lo0.more le1).more (az.le_push J1 s1.heap.objs.size)
 have I0:=jd hm hvs S2 Lo2 (by rw [<- S1.nx]; exact eE J1 _)
 have I0:pB x p0 .oit s1.heap.objs.size vs env O L m { s1 with heap:=s1.heap.push { cls:=.type "list_iterator",data:=.fields #[.ref la,.int 0 0] } } (la,0):=by rw [<- hit1]; exact I0
 generalize s1.heap.objs.size=a at I0
 refine codeAny_forLoop_any (fun n s=>∃g i m pat,KtsTurn (cT A) O g/\i+n=rows.length/\Inv pat/\pB x pat .oit a vs env g L m s (la,i)) (fun n s3 hI=>?_) rows.length ⟨O,0,m,p0,.refl,Nat.zero_add _,hi0,I0⟩
 symm
 obtain ⟨g,i,m1,pat,T,en,hi,J,vals,vl,S,Lo,hit,ha,sn,sg⟩:=hI
 have Zg:=Z.turn T
 obtain ⟨hno1,hno2⟩:=(hno pat hi)
 have gi:(d8 (pat.P++[.oit])).get pat.P.length=PO.g .oit:=lP hno2
 have gi':PO.g .oit=GO.oit:=rfl
 rw [gi'] at gi
 have lu:s3.heap.IsList la us:=⟨ol,(Zg.here.X.keeps S.fr.keep) _ _ k1,k2,nl,k3⟩
 obtain ⟨o,o1,q0,q0,o2⟩:=(S.led.obj ha)
 rw [gi] at o2
 obtain ⟨hc,hd⟩:=o2
 symm
 rw [hit] at hd
 have hli:s3.heap.IsListIter a la i:=⟨o,o1,hc,hd⟩
 cases n with
 | zero=>
  refine l6 Z.here.hnd hli lu (Array.getElem?_eq_none (by lia)) fun h' he ho=>?_
  obtain ⟨o',ho'⟩:=ho
  refine wpAny_execs_nil (hEnd g pat m1 _ J.it a T hi ⟨J,vals,vl,S.updT (H':=d8 (pat.P++[.junk])) ha he ho' (.junk o') (fun k hk=>?_) s3.toks,Lo,rfl,ha,sn,sg⟩)
  by_cases e:k=pat.P.length
  ·subst e
   rw [if_pos rfl]
   exact lP (o:=.junk) hno2
  ·rw [if_neg e]
   have lt:k<pat.P.length:=by lia
   rw [kc hno2 lt,kc hno2 lt]
 | succ n=>
  have il:i<us.size:=by lia
  refine wpAny_pyNext_list_item hli lu (Array.getElem?_eq_getElem il) fun h' hit' hsb=>?_
  symm
  obtain ⟨o',p1,p2,p3⟩:=hit'
  obtain ⟨q,hq,hrow⟩:=(k5 i _ (Array.getElem?_eq_getElem il))
  have S1:=S.reit ha gi (fun k hk ne=>by
   have lt:k<pat.P.length:=by lia
   rw [kc hno2 lt]
   exact tU hno1 _ (List.getElem_mem lt)) (la,i+1) hsb.extBut p1 p2 p3 s3.toks
  have Lo1:bq x { J with it:=(la,i+1) } env L m1 vs (ew pat.rt):=fun j i' kd' hj=>by
   obtain ⟨t,ht,hd',sl⟩:=(Lo j i' kd' hj)
   refine ⟨t,ht,hd',?_⟩
   cases kd' with
   | loc=>exact ⟨sl.1,sl.2.1,fun n=>(sl.2.2 n).imp fun q0=>And.imp_right fun x=>x.reit _⟩
   | glo=>exact sl
   | cel=>exact sl
   | blk=>exact sl
  obtain ⟨pat',ge,w,B,hi',g1,g2,hB,hl',hstep⟩:=(step pat hi _ _ (mu q (List.mem_of_getElem? hq)) q.2.2 vals vl sg)
  symm
  rw [<- sn] at g1 g2 hB hl'
  have S2:=S1.var w hB hl'
  have le:az.le { J with it:=(la,i+1) } { J with it:=(la,i+1),ns:=J.ns++[w] }:=⟨List.prefix_rfl,List.prefix_append _ _,rfl,rfl⟩
  refine lC ⟨o',_,p1,p2,by decide⟩ ?_
  refine FW hr hp hl kd tp hrow hstep Zg.here En S2 (Lo1.more le) ⟨by show ge.ok (J.ns++[w]).length; rw [List.length_append]; exact g1,g2⟩ fun J4 H4 nx4 R4 loc4 m4 s4 le4 S4 Lo4 h5=>?_
  rw [kz]
  refine wpAny_bind (hb H4 nx4 R4 loc4 _ _ h5 A env g L m4 J4 s4 _ _ Zg En S4 Lo4 (fun g5 J5 H5 nx5 R5 loc5 m5 s5 gf fl T5 le5 S5 Lo5 hfl hk5=>?_) fun g J' H nx R m s i e T le U hk=>by cases hk)
  have ha5:J5.as[pat.P.length]?=some a:=aE le5.1 (aE le4.1 ha)
  have hit5:J5.it=(la,i+1):=(le4.trans le5).2.2.2.symm
  have go:iX pat' .oit pat.P.length H5 nx5 R5 loc5=true->pB x pat' .oit a vs env g5 L m5 s5 (la,i+1):=fun hk=>by
   have:=jd hk hvs S5 Lo5 ha5
   rwa [hit5] at this
  cases hfl with
  | next=>
   symm
   obtain ⟨J6,vals6,vl6,S6,Lo6,hit6,ha6,sn6,sg6⟩:=(go hk5).ex
   symm
   refine hb2 _ _ _ _ _ _ (vk pat' hi' vals6 vl6 sg6) A env g5 L m5 J6 s5 _ _ (Zg.turn T5) En S6 Lo6 (fun g7 J7 H7 nx7 R7 loc7 m7 s7 gf fl T7 le7 S7 Lo7 hfl hk7=>?_) fun g J' H nx R m s i e T le U hk=>by cases hk
   have ha7:J7.as[pat'.P.length]?=some a:=aE le7.1 ha6
   have go2:iX pat' .oit pat'.P.length H7 nx7 R7 loc7=true->∃m,m<n+1/\∃g i m1 pat,KtsTurn (cT A) O g/\i+m=rows.length/\Inv pat/\pB x pat .oit a vs env g L m1 s7 (la,i):=fun hk=>by
    have:=jd hk hvs S7 Lo7 ha7
    rw [<- le7.2.2.2,hit6] at this
    exact ⟨n,Nat.lt_succ_self n,g7,i+1,m7,pat',(T.trans T5).trans T7,by lia,hi',this⟩
   cases hfl with
   | next=>exact go2 hk7
   | cont=>exact go2 hk7
   | brk=>cases hk7
   | ret i=>cases hk7
  | cont=>exact wpAny_pure ⟨n,Nat.lt_succ_self n,g5,i+1,m5,pat',T.trans T5,by lia,hi',go hk5⟩
  | brk=>cases hk5
  | ret i=>cases hk5
def uz(f:EV)(p0:eh)(N:Nat)(H:Tr)(nx:Nat)(R:Rn)(loc:List GV):Bool:=f H nx R loc fun g H nx R=>sQ g H nx R fun it H nx R=>bU it fun i=>lg (H.get i) (fun q0 q0=>false) (fun q0 q0=>false) fun z n=>@Bool.rec (fun q0=>Bool) false (iX p0 (.riter 0 n) i H nx R loc) (Nat.beq z 0&&Nat.ble n N)
theorem Fw{a:AV}{b:SV}{t:Expr}{bs:List Stmt}(ha:dQ x d vs a t)(hb:au x d vs b bs)(hvs:(vs.all fun p=>match p.2 with | .loc=>true | .glo=>true | _=>false)=true){pt:Nat->eh}(hcs:∀i,(pt i).cs=[])(hlen:∀i,(pt i).P.length<300){N:Nat}
  (step:∀n,n<=N->∀i,i<n->a (.int (.lit (.ofNat i))) (d8 ((pt i).P++[.riter (i+1) n])) ((pt i).P.length+1) (.mk [] []) (ew (pt i).rt) (fun H nx R loc=>b H nx R loc (ju (pt (i+1)) (.riter (i+1) n) (pt i).P.length))=true)
  {f:EV} {e:Expr} (hf:aK x d vs f e) (hn:kb e=true) (h:uz f (pt 0) N H nx R loc=true) (Z:de x d A O L) (En:bN env L) (S0:St x J H nx R O L m s) (Lo0:bq x J env L m vs loc) {pos:Pos}
  (hEnd:∀n m s a,n<=N->pB x (pt n) .junk a vs env O L m s J.it->Q .next s):wpAny (model x.prog x.w) A (exec (.For t e bs [] pos) env) Q E s:=by
 revert ha hb hvs hcs hlen step hf hn h Z En S0 Lo0 hEnd
 revert a b t bs pt f e pos
 revert E
 revert Q
 revert s
 revert J
 revert m
 revert L
 revert O
 revert env
 revert A
 revert N
 revert loc
 revert R
 revert nx
 revert H
 revert vs
 revert d
 revert x
 refine @pJ _ _ _ _ ?_
 generalize (dk _ _).x=x,(dk _ _).d=d,(dk _ _).vs=vs,(dk _ _).H=H,(dk _ _).nx=nx,(dk _ _).R=R,(dk _ _).loc=loc,(dk _ _).k=N,(dk _ _).A=A,(dk _ _).env=env,(dk _ _).O=O,(dk _ _).L=L,(dk _ _).m=m,(dk _ _).J=J,(dk _ _).s=s,(dk _ _).Q=Q,(dk _ _).E=E
 intro a b t bs pt f e pos
 intro ha hb hvs hcs hlen step hf hn h Z En S0 Lo0 hEnd
 refine wpAny_For (hf H nx R loc _ h A env O L m J s _ E Z.here En S0 Lo0 fun J1 H1 nx1 R1 s1 gv v le1 S1 iv h1=>?_) (fun y=>fW hn _ y)
 refine oN gv H1 nx1 R1 _ h1 A O L m J1 s1 v _ E Z.here S1 iv fun J2 H2 nx2 R2 s2 g2 v2 le2 S2 iv2 h2=>?_
 symm
 obtain ⟨i0,rfl,h3⟩:=bn h2
 obtain ⟨ad,rfl,hi⟩:=iv2
 symm
 rcases iZ h3 with ⟨_,_,_,h4⟩ | ⟨_,_,_,h4⟩ | ⟨z,n,e0,h4⟩
 ·cases h4
 ·cases h4
 obtain ⟨c,h5⟩:=aJ h4
 obtain ⟨c1,c2⟩:=Bool.and_eq_true_iff.mp c
 have c1:=Nat.eq_of_beq_eq_true c1
 have c2:=Nat.le_of_ble_eq_true c2
 subst c1
 have I0:=jd h5 hvs S2 ((Lo0.more le1).more le2) hi
 have hit:J2.it=J.it:=(le1.trans le2).2.2.2.symm
 rw [hit] at I0
 refine codeAny_forLoop_any (fun k s=>∃i m,i+k=n/\pB x (pt i) (.riter i n) ad vs env O L m s J.it) (fun k s3 hI=>?_) n ⟨0,m,Nat.zero_add _,I0⟩
 symm
 obtain ⟨i,m1,en,J3,vals,vl,S,Lo,hit3,ha3,sn,sg⟩:=hI
 symm
 rw [hcs] at vl
 cases vals with
 | cons _ _=>simp at vl
 | nil=>
 rw [hcs] at S
 symm
 have S:St x J3 (d8 ((pt i).P++[.riter i n])) ((pt i).P.length+1) (.mk [] []) O L m1 s3:=S
 obtain ⟨o,o1,q0,q0,o2⟩:=(S.led.obj ha3)
 have gi:(d8 ((pt i).P++[.riter i n])).get (pt i).P.length=GO.riter i n:=lP (hlen i)
 rw [gi] at o2
 obtain rfl:_=_:=o2.inv
 symm
 have hit:IsRangeIter s3.heap ad i ((n:Int) - i) 1:=o1
 have tree:∀(o:PO) (k:Nat),k<(pt i).P.length+1->(d8 ((pt i).P++[o])).get k=if k=(pt i).P.length then o.g else (d8 ((pt i).P++[.riter i n])).get k:=fun o k hk=>by
  by_cases e:k=(pt i).P.length
  ·subst e; rw [if_pos rfl]; exact lP (hlen i)
  ·rw [if_neg e]
   have lt:k<(pt i).P.length:=by lia
   rw [kc (hlen i) lt,kc (hlen i) lt]
 cases k with
 | zero=>
  refine lk Z.here.hnd hit (by lia) fun h' he ho=>?_
  obtain ⟨o',ho'⟩:=ho
  have e:i=n:=by lia
  subst e
  refine wpAny_execs_nil (hEnd i m1 _ ad c2 ⟨J3,[],by rw [hcs]; rfl,?_,Lo,hit3,ha3,sn,sg⟩)
  rw [hcs]
  exact S.updT (H':=d8 ((pt i).P++[.junk])) ha3 he ho' (.junk o') (tree .junk) s3.toks
 | succ k=>
  refine wpAny_pyNext_range_item hit (by lia) fun h' hit' hsb=>?_
  have S1:St x J3 (d8 ((pt i).P++[.riter (i+1) n])) ((pt i).P.length+1) (.mk [] []) O L m1 { s3 with heap:=h',toks:=s3.toks+1 }:=S.updT ha3 hsb.extBut hit' (.riter (by
   have e2:((n:Int) - ((i+1:Nat):Int))=(n:Int) - i - 1:=by lia
   rw [e2]; rfl)) (tree (.riter (i+1) n)) (s3.toks+1)
  refine lC ⟨_,_,hit',rfl,by decide⟩ ?_
  refine ha _ _ _ _ _ _ (step n c2 i (by lia)) A env O L m1 J3 _ (.int i s3.toks) _ _ Z.here En S1 Lo (.int (e:=.lit (.ofNat i)) _ trivial) fun J4 H4 nx4 R4 loc4 m4 s4 le4 S4 Lo4 h5=>?_
  refine hb H4 nx4 R4 loc4 _ h5 A env O L m4 J4 s4 _ _ Z.here En S4 Lo4 fun J5 H5 nx5 R5 loc5 m5 s5 gf fl le5 S5 Lo5 hfl hk5=>?_
  have ha5:J5.as[(pt i).P.length]?=some ad:=aE le5.1 (aE le4.1 ha3)
  have hit5:J5.it=J.it:=(le4.trans le5).2.2.2.symm.trans hit3
  have go:iX (pt (i+1)) (.riter (i+1) n) (pt i).P.length H5 nx5 R5 loc5=true->∃k',k'<k+1/\∃i m,i+k'=n/\pB x (pt i) (.riter i n) ad vs env O L m s5 J.it:=fun hk=>by
   have:=jd hk hvs S5 Lo5 ha5
   rw [hit5] at this
   exact ⟨k,Nat.lt_succ_self k,i+1,m5,by lia,this⟩
  cases hfl with
  | next=>exact go hk5
  | cont=>exact go hk5
  | brk=>cases hk5
  | ret i=>cases hk5
end
end
section
def sZ(n:Nat)(ss:List Nat)(H:Tr)(l:List GV):Bool:=@List.rec GV (fun q0=>Bool) true (fun g q0 ih=>@Bool.rec (fun q0=>Bool) false ih (bU g fun k=>yE (H.get k) (fun r=>Ch n ss r) fun n' ss'=>Nat.beq n n'&&L9 ss ss')) l
section
variable {x:aR} {d:Nat} {vs:aq} {J J':az} {H:Tr} {nx:Nat} {R:Rn} {O g g':Heap} {L L':Addr} {m m':Str->Option Value} {s:Shared} {A A₀:Around} {E:Value->Shared->Prop} {env:Env} {loc:List GV}
theorem vU{F:Frag}(led:tc x F J H){n:Nat}{ss:List Nat}:∀{l:List GV} {us:List Value},sZ n ss H l=true->be x.T J l us->∃rows:List (Nat × Nat × Int),us.length=rows.length/\(∀(j:Nat) v,us[j]?=some v->∃r,rows[j]?=some r/\yy (x.more F) v r.1 r.2.1 r.2.2)/\∀q∈rows,q.1<n/\q.2.1∈ss
 | [],us,h,iu=>by cases iu; exact ⟨[],rfl,fun j v h=>by simp at h,fun q h=>by cases h⟩
 | g::l,us,h,iu=>by
  symm
  obtain ⟨h1,h2⟩:=aJ h
  obtain ⟨v,us,rfl,i0,ir⟩:=fA iu
  obtain ⟨rows,r1,r2,r3⟩:=(vU led h2 ir)
  obtain ⟨k,rfl,h3⟩:=bn h1
  obtain ⟨a,rfl,ha⟩:=i0
  obtain ⟨o,o1,o2⟩:=(led k a ha)
  have go:∃i j y z t u v,i<n/\j∈ss/\x.T[j]?=some y/\o = { cls:=.type "tuple",data:=.seq #[.int ((i:Nat):Int) t,.str y u,.int z v] }:=by
   rcases v8 h3 with ⟨r,e,h4⟩ | ⟨n',ss',e,h4⟩
   ·rw [e] at o2
    obtain ⟨q0,rfl,hs⟩:=o2
    obtain ⟨i,j,y,z,t,u,v,rfl,a,b,c⟩:=(xh h4 hs)
    exact ⟨i,j,y,z,t,u,v,a,b,c,rfl⟩
   ·rw [e] at o2
    obtain ⟨h5,h6⟩:=Bool.and_eq_true_iff.mp h4
    have:=Nat.eq_of_beq_eq_true h5
    have:=ub h6
    subst_vars
    obtain ⟨q0,q0,q0,q0,t,u,v,rfl,a,b,c⟩:=o2
    exact ⟨_,_,_,_,t,u,v,a,b,c,rfl⟩
  obtain ⟨i,j,y,z,t,u,v,hi,hj,hy,rfl⟩:=go
  symm
  refine ⟨(i,j,z)::rows,by simp [r1],fun q w hq=>?_,fun q hq=>?_⟩
  ·cases q with
   | zero=>
    simp at hq
    subst hq
    exact ⟨_,rfl,⟨a,_,_,t,u,v,y,rfl,o1,rfl,rfl,hy⟩⟩
   | succ q=>simp at hq; rw [List.getElem?_cons_succ]; exact r2 q w hq
  ·rcases List.mem_cons.mp hq with rfl | hq
   ·exact ⟨hi,hj⟩
   ·exact r3 q hq
theorem wF{F:Frag}(led:tc x F J H){n dl:Nat}{ss:List Nat}{la:Addr}(hdl:J.as[dl]?=some la){l:List GV}(hl:H.get dl=.list l)(h:sZ n ss H l=true):∃rows:List (Nat × Nat × Int),Rows (x.more F) la rows/\∀q∈rows,q.1<n/\q.2.1∈ss:=by
 symm
 obtain ⟨o,o1,o2⟩:=(led dl la hdl)
 rw [hl] at o2
 obtain ⟨us,k,rfl,hs⟩:=o2
 obtain ⟨rows,r1,r2,r3⟩:=(vU led h hs)
 symm
 exact ⟨rows,⟨_,us.toArray,k,o1,rfl,rfl,by rw [List.size_toArray]; exact r1,fun j v hj=>r2 j v (by simpa using hj)⟩,r3⟩
def yA(ss:List Nat):kB:=fun gs H nx R k q0=>@List.rec GV (fun q0=>Bool) false (fun g r q0=>eG g fun z=>@Int.rec (fun q0=>Bool) (fun n=>@Bool.rec (fun q0=>Bool) false (jo r fun g=>bU g fun i=>ef (H.get i) fun l=>@Bool.rec (fun q0=>Bool) false (k (.bool true) H nx R) (sZ 3 ss H l)) (Nat.ble n 2)) (fun q0=>false) z) gs
def x3(ss:List Nat):kB:=fun gs H nx R k q0=>jo gs fun g=>bU g fun i=>ef (H.get i) fun l=>@Bool.rec (fun q0=>Bool) false (k (.bool true) H nx R) (sZ 3 ss H l)
def pn(x:aR)(d:Nat)(vs:aq)(body:List Stmt)(ss:List Nat)(loc:Addr->List GV):Prop:=
 ∀(F:Frag) (la:Addr) (rows:List (Nat × Nat × Int)),Rows (x.more F) la rows->(∀q∈rows,q.1<3/\q.2.1∈ss)->∀(ds:Nat->List nI) (A:Around) (env:Env) (h₁:Heap) (L:Addr) (m:Str->Option Value) (s:Shared) (Q:Flow->Shared->Prop) (Eo:Value->Shared->Prop),
  de (x.more F) d A h₁ L->bN env L->St (x.more F) ⟨[],[],ds,(la,0)⟩ .e 0 (.mk [] []) h₁ L m s->bq (x.more F) ⟨[],[],ds,(la,0)⟩ env L m vs (loc la)->
  (∀g J' H' nx' R' m' s',KtsTurn (cT A) h₁ g->St (x.more F) J' H' nx' R' g L m' s'->Q (.ret (.bool true)) s')->wpAny (model x.prog x.w) A (execs body env) Q Eo s
theorem CX(hT:x.T.Nodup)(hD:("__debug__" : Str)∉x.T){r:aF}{fa:Addr}{body:List Stmt}{D:aV}(ok:br x vs r fa body D)(hvs:(vs.all fun p=>match p.2 with | .loc=>true | .glo=>true | _=>false)=true)(hcel:r.cel=[])(hnp:r.np=2)(hf:r.f=2)(htl:∀j,aZ r.tl j=.nul){ss:List Nat}
  (hb:∀z,z<=2->pn x d vs body ss fun la=>[.int (.lit (.ofNat z)),.old (.ref la)]++r.tl):iG x (d+1) (yA ss) (.ref fa):=by
 intro gs H nx R k kx h A O L m J s us Q E Z S iu hQ hE
 cases gs with
 | nil=>cases h
 | cons g gs=>
 obtain ⟨z,rfl,h1⟩:=cR h
 cases z with
 | negSucc _=>cases h1
 | ofNat z=>
 obtain ⟨hz,h2⟩:=aJ h1
 obtain ⟨g2,rfl,h3⟩:=fy h2
 obtain ⟨dl,rfl,h4⟩:=bn h3
 obtain ⟨l,hl,h5⟩:=cY h4
 obtain ⟨h6,h7⟩:=aJ h5
 have hdl:∃la,J.as[dl]?=some la:=by
  obtain ⟨q0,q0,rfl,q0,i2⟩:=fA iu
  obtain ⟨q0,q0,rfl,i2,q0⟩:=fA i2
  exact i2.imp fun q0=>And.right
 obtain ⟨la,hla⟩:=hdl
 refine AD hT hD ok hvs hcel (gs:=[.int (.lit (.ofNat z)),.own dl]) (loc0:=[.int (.lit (.ofNat z)),.old (.ref la)]++r.tl) (it:=(la,0)) (by rw [hnp]; rfl) (by rw [hf,hnp]) htl Z S iu (fun j v iv n=>?_) (fun j e=>?_) (fun F led A env h₁ L m s Q Eo Z En S Lo hQ=>?_) fun g s' T S'=>hQ g J H nx R s' (.bool true) _ T (.refl _) S' (.bool true) h7
 ·rw [jT htl] at n ⊢
  match j with
  | 0=>
   obtain ⟨t,rfl,ok⟩:=iv
   exact .int (e:=.lit (.ofNat z)) t trivial
  | 1=>
   obtain ⟨q0,rfl,ha⟩:=iv
   rw [hla] at ha; cases ha
   exact .old _
  | j+2=>cases iv
 ·rw [jT htl]
  match j with
  | 0=>cases e
  | 1=>cases e
  | j+2=>rfl
 ·obtain ⟨rows,r1,r2⟩:=(wF led hla hl h6)
  exact hb z (Nat.le_of_ble_eq_true hz) F la rows r1 r2 J.ds A env h₁ L m s Q Eo Z En S Lo hQ
theorem Cn(hT:x.T.Nodup)(hD:("__debug__" : Str)∉x.T){r:aF}{fa:Addr}{body:List Stmt}{D:aV}(ok:br x vs r fa body D)(hvs:(vs.all fun p=>match p.2 with | .loc=>true | .glo=>true | _=>false)=true)(hcel:r.cel=[])(hnp:r.np=1)(hf:r.f=1)(htl:∀j,aZ r.tl j=.nul){ss:List Nat}
  (hb:pn x d vs body ss fun la=>[.old (.ref la)]++r.tl):iG x (d+1) (x3 ss) (.ref fa):=by
 intro gs H nx R k kx h A O L m J s us Q E Z S iu hQ hE
 obtain ⟨g2,rfl,h3⟩:=fy h
 obtain ⟨dl,rfl,h4⟩:=bn h3
 obtain ⟨l,hl,h5⟩:=cY h4
 obtain ⟨h6,h7⟩:=aJ h5
 have hdl:∃la,J.as[dl]?=some la:=by
  obtain ⟨q0,q0,rfl,i2,q0⟩:=fA iu
  exact i2.imp fun q0=>And.right
 obtain ⟨la,hla⟩:=hdl
 refine AD hT hD ok hvs hcel (gs:=[.own dl]) (loc0:=[.old (.ref la)]++r.tl) (it:=(la,0)) (by rw [hnp]; rfl) (by rw [hf,hnp]) htl Z S iu (fun j v iv n=>?_) (fun j e=>?_) (fun F led A env h₁ L m s Q Eo Z En S Lo hQ=>?_) fun g s' T S'=>hQ g J H nx R s' (.bool true) _ T (.refl _) S' (.bool true) h7
 ·rw [jT htl] at n ⊢
  match j with
  | 0=>
   obtain ⟨q0,rfl,ha⟩:=iv
   rw [hla] at ha; cases ha
   exact .old _
  | j+1=>cases iv
 ·rw [jT htl]
  match j with
  | 0=>cases e
  | j+1=>rfl
 ·obtain ⟨rows,r1,r2⟩:=(wF led hla hl h6)
  exact hb F la rows r1 r2 J.ds A env h₁ L m s Q Eo Z En S Lo hQ
end
end
section
noncomputable abbrev aM(n:Nat):EV:=bj (.int (.lit (.ofNat n)))
noncomputable abbrev ar(n:Nat):EV:=bj (.str n)
theorem TA{x:aR}{d:Nat}{vs:aq}{b:List Stmt}(h:b=[]):au x d vs aC b:=h▸qA
noncomputable def Fy(T:List Str)(vs:aq)(i:Nat):Option Str:=match vs[i]? with
 | some (a,.loc)=>T[a]?
 | _=>none
set_option tactic.hygienic true in
theorem EB{T:List Str}{vs:aq}{i:Nat}{t:Str}(h:Fy T vs i=some t):∃a,vs[i]?=some (a,.loc)/\T[a]?=some t:=by
 unfold Fy at h
 split at h
 ·rename_i a q; exact ⟨a,q,h⟩
 ·cases h
theorem XQ{x:aR}{d:Nat}{vs:aq}{i:Nat}{t:Str}(h:Fy x.T vs i=some t)(pos:Pos):aK x d vs (ah i) (.Name t pos):=el12 (EB h) fun q0 a b=>kN a b pos
theorem WE{x:aR}{d:Nat}{vs:aq}(hs:aA x vs){i:Nat}{t:Str}(h:Fy x.T vs i=some t)(pos:Pos):dQ x d vs (bt i) (.Name t pos):=el12 (EB h) fun q0 a b=>my hs a b pos
def fB(b:Bool)(k:Bool->Bool):Bool:=@Bool.rec (fun q0=>Bool) (k false) (k true) b
theorem pW(b:Bool)(k:Bool->Bool):fB b k=k b:=by cases b <;> rfl
def xD(g:GV)(k:GV->Bool):Bool:=@GV.rec (fun q0=>Bool) (k .nul) (k .none) (fun b=>fB b fun b=>k (.bool b)) (fun e=>k (.int e)) (fun i=>fN i fun i=>k (.str i)) (fun l=>k (.byt l)) (fun v=>k (.old v)) (fun i=>fN i fun i=>k (.own i)) (k .unk) g
theorem pN(g:GV)(k:GV->Bool):xD g k=k g:=by
 cases g with
 | bool b=>exact pW b fun b=>k (.bool b)
 | str i=>exact bP i fun i=>k (.str i)
 | own i=>exact bP i fun i=>k (.own i)
 | _=>rfl
def Fx(l:List GV):(List GV->Bool)->Bool:=@List.rec GV (fun q0=>(List GV->Bool)->Bool) (fun k=>k []) (fun g q0 ih k=>xD g fun g=>ih fun r=>k (g::r)) l
theorem u8:∀(l:List GV) (k:List GV->Bool),Fx l k=k l
 | [],_=>rfl
 | g::l,k=>(pN g fun g=>Fx l fun r=>k (g::r)).trans (u8 l fun r=>k (g::r))
def Lm(l:List (Nat × GV)):(List (Nat × GV)->Bool)->Bool:=@List.rec (Nat × GV) (fun q0=>(List (Nat × GV)->Bool)->Bool) (fun k=>k []) (fun g q0 ih k=>fN g.1 fun i=>xD g.2 fun g=>ih fun r=>k ((i,g)::r)) l
theorem tW:∀(l:List (Nat × GV)) (k:List (Nat × GV)->Bool),Lm l k=k l
 | [],_=>rfl
 | g::l,k=>(bP g.1 _).trans ((pN g.2 _).trans (tW l fun r=>k (g::r)))
def El(l:List (Int × GV)):(List (Int × GV)->Bool)->Bool:=@List.rec (Int × GV) (fun q0=>(List (Int × GV)->Bool)->Bool) (fun k=>k []) (fun g q0 ih k=>fI g.1 fun i=>xD g.2 fun g=>ih fun r=>k ((i,g)::r)) l
theorem vL:∀(l:List (Int × GV)) (k:List (Int × GV)->Bool),El l k=k l
 | [],_=>rfl
 | g::l,k=>by show fI g.1 (fun i=>xD g.2 fun h=>El l fun r=>k ((i,h)::r))=_; rw [lQ,pN,vL]
def Ul(o:GO):(GO->Bool)->Bool:=@GO.rec (fun q0=>(GO->Bool)->Bool) (fun k=>k .junk) (fun l k=>Fx l fun l=>k (.list l)) (fun l k=>Fx l fun l=>k (.tuple l)) (fun C d k=>fN C fun C=>fN d fun d=>k (.inst C d)) (fun l k=>Lm l fun l=>k (.idict l)) (fun k=>k .d0) (fun l k=>El l fun l=>k (.di l)) (fun l k=>Lm l fun l=>k (.ds l)) (fun g k=>k (.cell g)) (fun l k=>k (.ns l)) (fun a b k=>k (.liter a b)) (fun a b k=>k (.titer a b)) (fun a b k=>k (.riter a b)) (fun f k=>k (.pool f)) (fun n k=>k (.rng n)) (fun i k=>fN i fun i=>k (.flat i)) (fun k=>k .oit) (fun l k=>El l fun l=>k (.dm l)) (fun a b k=>k (.exn a b)) (fun a b k=>k (.exc a b)) (fun a b k=>k (.enum a b)) (fun a b k=>k (.row a b)) (fun i g k=>fN i fun i=>xD g fun g=>k (.dk i g)) o
theorem Pt(o:GO)(k:GO->Bool):Ul o k=k o:=by
 cases o with
 | list l=>exact u8 l fun l=>k (.list l)
 | tuple l=>exact u8 l fun l=>k (.tuple l)
 | inst C d=>exact (bP C _).trans (bP d fun d=>k (.inst C d))
 | idict l=>exact tW l fun l=>k (.idict l)
 | di l=>exact vL l fun l=>k (.di l)
 | ds l=>exact tW l fun l=>k (.ds l)
 | flat i=>exact bP i fun i=>k (.flat i)
 | dm l=>exact vL l fun l=>k (.dm l)
 | dk i g=>exact (bP i _).trans (pN g fun g=>k (.dk i g))
 | _=>rfl
def Uk(t:Tr):(Tr->Bool)->Bool:=@Tr.rec (fun q0=>(Tr->Bool)->Bool) (fun k=>k .e) (fun q0 o q0 il ir k=>il fun l=>Ul o fun o=>ir fun r=>k (.n l o r)) t
theorem tF:∀(t:Tr) (k:Tr->Bool),Uk t k=k t
 | .e,_=>rfl
 | .n l o r,k=>(tF l _).trans ((Pt o _).trans (tF r fun r=>k (.n l o r)))
inductive NT where
 | one (k:Nat)
 | n (l:NT) (k:Nat) (r:NT)
def iD(c:Nat)(t:NT):Bool:=@NT.rec (fun q0=>Bool) (fun k=>Nat.beq c k) (fun q0 k q0 l r=>@Bool.rec (fun q0=>Bool) r l (Nat.ble (Nat.succ c) k)) t
def cq(f:Nat->Bool)(t:NT):Bool:=@NT.rec (fun q0=>Bool) (fun k=>f k) (fun q0 q0 q0 l r=>@Bool.rec (fun q0=>Bool) false r l) t
theorem b0{f:Nat->Bool}{l r:NT}{k:Nat}(h1:cq f l=true)(h2:cq f r=true):cq f (.n l k r)=true:=by
 show @Bool.rec (fun q0=>Bool) false (cq f r) (cq f l)=true
 rw [h1]; exact h2
theorem mQ{f:Nat->Bool}{c:Nat}:∀{t:NT},cq f t=true->iD c t=true->f c=true
 | .one k,h,m=>by rw [Nat.eq_of_beq_eq_true (show Nat.beq c k=true from m)]; exact h
 | .n l k r,h,m=>by
  obtain ⟨h1,h2⟩:=(aJ (show @Bool.rec (fun q0=>Bool) false (cq f r) (cq f l)=true from h))
  have m:@Bool.rec (fun q0=>Bool) (iD c r) (iD c l) (Nat.ble (Nat.succ c) k)=true:=m
  cases q:Nat.ble (Nat.succ c) k with
  | true=>rw [q] at m; exact mQ h1 m
  | false=>rw [q] at m; exact mQ h2 m
noncomputable def jh(v:Nat->Int)(n:Nat)(i:Nat):List Int:=@Nat.rec (fun q0=>Nat->List Int) (fun q0=>[]) (fun q0 ih i=>v i::ih (Nat.succ i)) n i
theorem wG(v:Nat->Int):∀(vals:List Int) (i:Nat),(∀k,k<vals.length->vals[k]?=some (v (i+k)))->jh v vals.length i=vals
 | [],i,h=>rfl
 | z::vals,i,h=>by
  show v i::jh v vals.length (Nat.succ i)=z::vals
  rw [wG v vals (Nat.succ i) fun k hk=>by
   have:=h (k+1) (by simp; lia)
   rw [List.getElem?_cons_succ] at this
   rw [this]; congr 2; lia]
  have:=h 0 (by simp)
  simp at this
  rw [this]
theorem vR(vals:List Int):∃v,vals=jh v vals.length 0:=⟨fun k=>vals.getD k 0,(wG _ vals 0 fun k hk=>by rw [Nat.zero_add,List.getD_eq_getElem?_getD,List.getElem?_eq_getElem hk]; rfl).symm⟩
theorem nJ{z:Int}:∀{cs:List Bool} {vals:List Int},vals.length=cs.length->mr cs vals->gG (cW cs vals++[(z,z)]) (vals++[z])
 | [],[],_,_,k,b,h=>by
  match k,h with
  | 0,h=>cases h; exact ⟨z,rfl,Int.le_refl _,Int.le_refl _⟩
  | k+1,h=>simp [cW] at h
 | [],_::_,h,_,_,_,_=>by simp at h
 | _::_,[],h,_,_,_,_=>by simp at h
 | c::cs,v::vals,h,g,k,b,e=>by
  match k,e with
  | 0,e=>
   have e:some (xH c v)=some b:=e
   cases e
   refine ⟨v,rfl,?_⟩
   cases c with
   | false=>exact ⟨Int.le_refl _,Int.le_refl _⟩
   | true=>
    have:0<=v:=g 0 v rfl rfl
    show (0:Int)<=v/\v<=((v.toNat:Nat):Int)
    lia
  | k+1,e=>exact nJ (by simpa using h) (fun i w h1 h2=>g (i+1) w (by rw [List.getElem?_cons_succ]; exact h1) (by rw [List.getElem?_cons_succ]; exact h2)) k b e
theorem xN{cs:List Bool}{vals:List Int}(h:vals.length=cs.length)(z:Int):(cW cs vals++[(z,z)]).length=vals.length+1:=by rw [List.length_append,sA h,h]; rfl
def w9(c:Value->Bool)(f:EV)(p0:eh):KS:=fun gf H nx R loc=>@GF.rec (fun q0=>Bool) (tz c f p0 H nx R loc) false false (fun q0=>false) gf
def pf:sp:=fun g h H nx R k=>fR g fun a=>eG h fun j=>fI (Int.neg j) fun r=>vx a (.lit r) (fun i j=>fI (Int.add i j) fun r=>k (.int (.lit r)) H nx R) (y9 a (.lit r) fun e=>k (.int e) H nx R)
theorem lG{x:aR}{d:Nat}:wP x d pf fun u v=>binaryOp .Sub u v:=by
 intro g h H nx R k e A O L m J s u v Q E Hh S iu iv hQ
 symm
 obtain ⟨a,rfl,e1⟩:=dA e
 obtain ⟨j,rfl,e2⟩:=cR e1
 rw [lQ] at e2
 obtain ⟨z,e3,q⟩:=(vM e2)
 obtain ⟨t,rfl,o1⟩:=iu
 obtain ⟨t2,rfl,o2⟩:=iv
 obtain ⟨q1,q2⟩:=(q J.ns o1 trivial)
 symm
 refine AutoIntOps.sub_0 (show Q (.int (a.ev J.ns - j) s.toks) { s with toks:=s.toks+1 } from ?_)
 have e4:a.ev J.ns - j=z.ev J.ns:=by rw [q2]; show a.ev J.ns - j=a.ev J.ns + -j; lia
 rw [e4]
 exact hQ.now S (.int _ q1) e3 _
def ej:EQ:=UQ 8
theorem cz{x:aR}{d:Nat}(hT:x.T.Nodup):fT x d .NotEq ej:=Je hT
section
variable {x:aR} {d:Nat} {vs:aq}
theorem Ed{r:j6}{b b2 f fe:SX}{fi:EV}{ts:List Expr}{b1s b2s l rest:List Stmt}{e:Expr}(hpre:bS x d vs f l)(hend:bS x d vs fe rest)(hr:gX x d vs r ts)(hp:bx ts=true)(hl:ts.length=3)(hb:bS x d vs b b1s)(hb2:bS x d vs b2 b2s)(hvs:(vs.all fun p=>match p.2 with | .loc=>true | .glo=>true | _=>false)=true)
  {Inv:eh->Prop} {RowOk:Nat->Nat->Prop} (hno:∀pat,Inv pat->pk pat.P=true/\pat.P.length<300) (vk:∀pat,Inv pat->∀vals:List Int,vals.length=pat.cs.length->mr pat.cs vals->b2 (d8 (pat.P++[.oit])) (pat.P.length+1) (.mk (cW pat.cs vals) []) (ew pat.rt) (ju pat .oit pat.P.length) gw=true)
  (step:∀pat,Inv pat->∀who deed,RowOk who deed->∀(z:Int) (vals:List Int),vals.length=pat.cs.length->mr pat.cs vals->∃pat' ge w B,Inv pat'/\ge.ok (vals.length+1)/\ge.ev (vals++[w])=z/\gG B (vals++[w])/\B.length=vals.length+1/\
   r [.int (.lit (.ofNat who)),.str deed,.int ge] (d8 (pat.P++[.oit])) (pat.P.length+1) (.mk B []) (ew pat.rt) (fun H nx R loc=>b H nx R loc (ju pat' .oit pat.P.length) gw)=true)
  (hfin:∀pat,Inv pat->∀vals:List Int,vals.length=pat.cs.length->mr pat.cs vals->fe (d8 (pat.P++[.junk])) (pat.P.length+1) (.mk (cW pat.cs vals) []) (ew pat.rt) vy gw=true)
  (hf:aK x d vs fi e) (hn:kb e=true) {p0:eh} (hi0:Inv p0) {loc:Addr->List GV} (h0:∀(c:Value->Bool) (la:Addr),f .e 0 (.mk [] []) (loc la) (w9 c fi p0) gw=c (.ref la)) {kd:Nat} {tp pos:Pos}
  {la:Addr} {rows:List (Nat × Nat × Int)} (hrows:Rows x la rows) (mu:∀q∈rows,RowOk q.1 q.2.1) {ds:Nat->List nI} {A:Around} {env:Env} {h₁:Heap} {L:Addr} {m:Str->Option Value} {s:Shared} {Q:Flow->Shared->Prop} {Eo:Value->Shared->Prop}
  (Z:de x d A h₁ L) (En:bN env L) (S:St x ⟨[],[],ds,(la,0)⟩ .e 0 (.mk [] []) h₁ L m s) (Lo:bq x ⟨[],[],ds,(la,0)⟩ env L m vs (loc la))
  (hQ:∀g J' H' nx' R' m' s',KtsTurn (cT A) h₁ g->St x J' H' nx' R' g L m' s'->Q (.ret (.bool true)) s'):wpAny (model x.prog x.w) A (execs (l++.For (.Tuple ts kd tp) e (b1s++b2s) [] pos::rest) env) Q Eo s:=by
 rw [kz]
 have hs:=h0 (fun v=>decide (v=.ref la)) la
 rw [decide_eq_true rfl] at hs
 refine wpAny_bind (hpre _ _ _ _ _ _ hs A env h₁ L m _ s _ Eo Z En S Lo (fun g J1 H nx R loc1 m1 s1 gf fl T le S1 Lo1 hfl hk=>?_) fun g J' H nx R m s i e T le U hk=>by cases hk)
 cases hfl with
 | brk=>cases hk
 | cont=>cases hk
 | ret i=>cases hk
 | next=>
 have hk:tz (fun v=>decide (v=.ref la)) fi p0 H nx R loc1=true:=hk
 exact wpAny_execs_cons (QF hr hp hl hb hb2 hvs hno vk step hrows mu hf hn (fun v q=>of_decide_eq_true q) hi0 hk (Z.turn T) En S1 Lo1 le.2.2.2.symm fun g2 pat m2 s2 it a T2 hi I=>by
  symm
  obtain ⟨J,vals,vl,S2,Lo2,q0,q0,q0,sg⟩:=I.ex
  symm
  exact By hend (hfin pat hi vals vl sg) ((Z.turn T).turn T2) En S2 Lo2 fun g3 J3 H3 nx3 R3 m3 s3 T3 S3=>hQ g3 J3 H3 nx3 R3 m3 s3 ((T.trans T2).trans T3) S3)
end
end
end
end Internal.N
namespace Internal.L
open Internal.N
noncomputable section
structure ak where
 tl:Frag
 prog:Program
 w:World
 p:Program
 loose:List Str
 mean:ExcName->Option Value
 mg:Str->Option Value
 mb:Str->Option Value
 os:OsState
def fx(P:ak):aR:=⟨P.prog,P.w,K P.w++P.tl,P.p,P.loose,P.mean,P.mg,P.mb,T,CT,400,P.os⟩
noncomputable def jt(s:Str):Nat:=s.cps.toList.foldl (fun a c=>a * 2097152+c+1) 0
noncomputable def wY:List Str->Nat->Bool
 | [],_=>true
 | s::r,n=>Nat.blt n (jt s)&&wY r (jt s)
theorem tJ:∀{l:List Str} {n:Nat},wY l n=true->∀s∈l,n<jt s
 | [],_,_,_,h=>by cases h
 | t::r,n,h,s,hs=>by
  obtain ⟨h1,h2⟩:=Bool.and_eq_true_iff.mp h
  have h1:n<jt t:=Nat.le_of_ble_eq_true h1
  rcases List.mem_cons.mp hs with rfl | hs
  ·exact h1
  ·exact Nat.lt_trans h1 (tJ h2 s hs)
theorem rX:∀{l:List Str} {n:Nat},wY l n=true->l.Nodup
 | [],_,_=>List.nodup_nil
 | t::r,n,h=>by
  obtain ⟨h1,h2⟩:=Bool.and_eq_true_iff.mp h
  exact List.nodup_cons.mpr ⟨fun q=>Nat.lt_irrefl _ (tJ h2 t q),rX h2⟩
noncomputable def Vr:List Str->Bool
 | []=>true
 | s::r=>wY r (jt s)
theorem yk{l:List Str}(h:Vr l=true):l.Nodup:=by
 cases l with
 | nil=>exact List.nodup_nil
 | cons t r=>exact List.nodup_cons.mpr ⟨fun q=>Nat.lt_irrefl _ (tJ (show wY r (jt t)=true from h) t q),rX (show wY r (jt t)=true from h)⟩
theorem Gs:T.Nodup:=yk (by kernel_rfl)
theorem hT{P:ak}:(fx P).T.Nodup:=Gs
theorem FK:(T.all fun s=>!Nat.beq (jt s) (jt ("__debug__" : Str)))=true:=by kernel_rfl
theorem hD{P:ak}:("__debug__" : Str)∉(fx P).T:=fun h=>by
 have:=List.all_eq_true.mp FK _ h
 rw [Nat.beq_refl] at this
 cases this
theorem jX(P:ak):jc (fx P):=⟨_,rfl⟩
theorem aX{P:ak}{a:Nat}(h:Nat.blt a 400=true):a<(fx P).nd:=Nat.le_of_ble_eq_true h
noncomputable def vd(F:Frag)(t:Str)(C:Addr):Bool:=plainGet F C t&&hasDictIn F C&&(findIn F (.ref C) t == some none)&&(findIn F (.ref C) "__setattr__" == some (some (.builtin "object.__setattr__")))&&plainOver F C&&(takerIn F C t == some none)
theorem bi{x:aR}{t:Str}(h:x.CT.all (vd x.K t)=true):aS x t:=fun C hC=>by
 have:=List.all_eq_true.mp h C hC
 unfold vd at this
 simp only [Bool.and_eq_true,beq_iff_eq] at this
 obtain ⟨⟨⟨⟨⟨a,b⟩,c⟩,d⟩,e⟩,f⟩:=this
 exact ⟨a,b,c,d,e,f⟩
theorem t7{x:aR}{t:Str}{C:Nat}{cx:Addr}(h:x.CT[C]?=some cx)(h2:vd x.K t cx=true):pO x C t:=fun cx' e=>by
 rw [h] at e
 cases e
 exact bi (x:={ x with CT:=[cx] }) (by show ([cx].all (vd x.K t))=true; simp [h2])
theorem at_{α:Type}{l r:List α}(h:l=r)(k:Nat){a b:α}(h1:l[k]?=some a)(h2:r[k]?=some b):a=b:=by subst h; rw [h1] at h2; exact Option.some.inj h2
inductive nQ (x:aR) (d:Nat) (aO:Nat->SV) (cx:Addr):List (Nat × Nat × aF)->Prop
 | nil:nQ x d aO cx []
 | cons {a j:Nat} {r:aF} {l:List (Nat × Nat × aF)} {t:Str} {fI:Addr}:x.T[a]?=some t->plainGet x.K cx t=true->findIn x.K (.ref cx) t=some (some (.ref fI))->aU x d r (aO j) fI->nQ x d aO cx l->nQ x d aO cx ((a,j,r)::l)
inductive nU (x:aR) (d:Nat) (aO:Nat->SV):List Addr->nK->Prop
 | nil:nU x d aO [] []
 | cons {cx:Addr} {cs:List Addr} {l:List (Nat × Nat × aF)} {ms:nK}:nQ x d aO cx l->nU x d aO cs ms->nU x d aO (cx::cs) (l::ms)
theorem nQ.mem{x:aR}{d:Nat}{aO:Nat->SV}{cx:Addr}{l:List (Nat × Nat × aF)}(h:nQ x d aO cx l):∀a j r,(a,j,r)∈l->∃t fI,x.T[a]?=some t/\plainGet x.K cx t=true/\findIn x.K (.ref cx) t=some (some (.ref fI))/\aU x d r (aO j) fI:=by
 induction h with
 | nil=>intro a j r h; cases h
 | cons h1 h2 h3 h4 _ ih=>
  intro a j r h
  rcases List.mem_cons.mp h with e | h
  ·cases e; exact ⟨_,_,h1,h2,h3,h4⟩
  ·exact ih a j r h
theorem nU.ok{x:aR}{d:Nat}{aO:Nat->SV}{cs:List Addr}{ms:nK}(h:nU x d aO cs ms):∀(C:Nat) (l:List (Nat × Nat × aF)),ms[C]?=some l->∃cx,cs[C]?=some cx/\nQ x d aO cx l:=by
 induction h with
 | nil=>intro C l h; simp at h
 | cons h1 _ ih=>
  intro C l h
  cases C with
  | zero=>simp at h; subst h; exact ⟨_,rfl,h1⟩
  | succ C=>rw [List.getElem?_cons_succ] at h ⊢; exact ih C l h
theorem uU.of{x:aR}{d:Nat}{aO:Nat->SV}{ms:nK}(h:nU x d aO x.CT ms):uU x d ms aO:=fun C l hl a j r hm=>by
 obtain ⟨cx,h1,h2⟩:=h.ok C l hl
 obtain ⟨t,fI,h3,h4,h5,h6⟩:=h2.mem a j r hm
 exact ⟨cx,t,fI,h1,h3,h4,h5,h6⟩
def sP(l:List GV):Bool:=@List.rec GV (fun q0=>Bool) true (fun g q0 ih=>@GV.rec (fun q0=>Bool) ih false (fun q0=>false) (fun q0=>false) (fun q0=>false) (fun q0=>false) (fun q0=>false) (fun q0=>false) false g) l
theorem gN:∀{l:List GV},sP l=true->∀j,aZ l j=.nul
 | [],_,_=>rfl
 | g::l,h,0=>by cases g <;> first | rfl | cases h
 | g::l,h,j+1=>by cases g <;> first | exact gN (l:=l) h j | cases h
theorem bW{x:aR}{D:aV}{r:aF}(h1:D.dV=.none)(h2:r.np - r.f=0)(h3:sP r.tl=true):∃ds:List Value,ds.length=r.np - r.f/\((D.dV=.none/\ds=[])∨∃t oc od n sl,D.dV=.ref t/\x.K.lookup t=some ⟨oc,od,.seq ds.toArray n,sl⟩)/\(∀j v,ds[j]?=some v->d7 x.T (aZ r.tl j) v)/\∀j,ds.length<=j->aZ r.tl j=.nul:=
 ⟨[],by rw [h2]; rfl,.inl ⟨h1,rfl⟩,fun j v h=>by simp at h,fun j q0=>gN h3 j⟩
theorem dv1{x:aR}{D:aV}{r:aF}{t:Addr}{n:Nat}{oc:Value}{od:Option Addr}{sl:Array (Option Value)}{tl:List GV}(h1:D.dV=.ref t)(h0:x.K.lookup t=some ⟨oc,od,.seq #[.none] n,sl⟩)(h2:r.np - r.f=1)(ht:r.tl=.none::tl)(h3:sP tl=true) :
  ∃ds:List Value,ds.length=r.np - r.f/\((D.dV=.none/\ds=[])∨∃t oc od n sl,D.dV=.ref t/\x.K.lookup t=some ⟨oc,od,.seq ds.toArray n,sl⟩)/\(∀j v,ds[j]?=some v->d7 x.T (aZ r.tl j) v)/\∀j,ds.length<=j->aZ r.tl j=.nul:=by
 refine ⟨[.none],by rw [h2]; rfl,.inr ⟨t,oc,od,n,sl,h1,h0⟩,fun j v h=>?_,fun j hj=>?_⟩
 ·rw [ht]
  cases j with
  | zero=>simp at h; subst h; exact .none
  | succ j=>simp at h
 ·rw [ht]
  cases j with
  | zero=>simp at hj
  | succ j=>exact gN h3 j
theorem dv2{x:aR}{D:aV}{r:aF}{t:Addr}{n:Nat}{oc:Value}{od:Option Addr}{sl:Array (Option Value)}{tl:List GV}{z:Int}{tk:Tok}(h1:D.dV=.ref t)(h0:x.K.lookup t=some ⟨oc,od,.seq #[.int z tk] n,sl⟩)(h2:r.np - r.f=1)(ht:r.tl=.int (.lit z)::tl)(h3:sP tl=true) :
  ∃ds:List Value,ds.length=r.np - r.f/\((D.dV=.none/\ds=[])∨∃t oc od n sl,D.dV=.ref t/\x.K.lookup t=some ⟨oc,od,.seq ds.toArray n,sl⟩)/\(∀j v,ds[j]?=some v->d7 x.T (aZ r.tl j) v)/\∀j,ds.length<=j->aZ r.tl j=.nul:=by
 refine ⟨[.int z tk],by rw [h2]; rfl,.inr ⟨t,oc,od,n,sl,h1,h0⟩,fun j v h=>?_,fun j hj=>?_⟩
 ·rw [ht]
  cases j with
  | zero=>simp at h; subst h; exact .int _ _
  | succ j=>simp at h
 ·rw [ht]
  cases j with
  | zero=>simp at hj
  | succ j=>exact gN h3 j
theorem fo{x:aR}{d:Nat}{vs:aq}(hs:aA x vs){ts es:List Expr}{js rj:List Nat}{n:Nat}{names:List Str}{f:EV}{r:SV}{rest:List Stmt}{k1 k2:Nat}{p1 p2:Pos}(hj:fV x vs js names)(hf:aK x d vs f (.Tuple es k2 p2))(hr:au x d vs r rest)
  (hn:jF ts ((ts.head?.map (·.pos.line)).getD 0)=some names) (hL:ts.length=n) (hj':js.reverse=rj) (h2:ts.length=2∨ts.length=3) (hl:es.length=ts.length) (hp:bx es=true) (hd:names.Nodup) (hc1:es.all (foldedForSure 8)=false) (hc2:es.all (constantsAlone 8)=false) (pos:Pos) :
  au x d vs (ke n rj f r) (.Assign [.Tuple ts k1 p1] (.Tuple es k2 p2) pos::rest):=by
 subst hL
 subst hj'
 exact Gb hs hj hf hr hn h2 hl hp hd hc1 hc2 pos
inductive aI (T:List Str):aq->List Str->Prop
 | nil {vs:aq}:aI T vs []
 | cons {i:Nat} {kd:SK} {s:Str} {vs:aq} {ss:List Str}:T[i]?=some s->(kd=.loc∨kd=.cel)->aI T vs ss->aI T ((i,kd)::vs) (s::ss)
theorem aI.ok{T:List Str}{vs:aq}{ss:List Str}(h:aI T vs ss):∀(j:Nat) (s:Str),ss[j]?=some s->∃i kd,vs[j]?=some (i,kd)/\T[i]?=some s/\(kd=.loc∨kd=.cel):=by
 induction h with
 | nil=>intro j s h; simp at h
 | cons h1 h2 _ ih=>
  intro j s h
  cases j with
  | zero=>simp at h; subst h; exact ⟨_,_,rfl,h1,h2⟩
  | succ j=>rw [List.getElem?_cons_succ] at h ⊢; exact ih j s h
theorem nL{T:List Str}{i:Nat}{s:Str}{r:aq}{ns:List (Str × NameKind)}(h:T[i]?=some s)(h2:cD T r ns):cD T ((i,.loc)::r) ((s,.local)::ns):=.cons h (by intro q; cases q) h2
theorem nC{T:List Str}{i:Nat}{s:Str}{r:aq}{ns:List (Str × NameKind)}(h:T[i]?=some s)(h2:cD T r ns):cD T ((i,.cel)::r) ((s,.cell)::ns):=.cons h (by intro q; cases q) h2
theorem nG{T:List Str}{i:Nat}{s:Str}{r:aq}{ns:List (Str × NameKind)}(h:T[i]?=some s)(h2:cD T r ns):cD T ((i,.glo)::r) ((s,.globalImplicit)::ns):=.cons h (by intro q; cases q) h2
theorem fV.mem{x:aR}{vs:aq}{js:List Nat}{ts:List Str}(h:fV x vs js ts):∀{t:Str},t∈ts->∃j i,j∈js/\vs[j]?=some (i,.loc)/\x.T[i]?=some t:=by
 induction h with
 | nil=>intro t h; cases h
 | cons h1 h2 _ ih=>
  intro t h
  rcases List.mem_cons.mp h with rfl | h
  ·exact ⟨_,_,.head _,h1,h2⟩
  ·obtain ⟨j,i,a,b,c⟩:=ih h; exact ⟨j,i,.tail _ a,b,c⟩
theorem lF{x:aR}{vs:aq}{js:List Nat}{ts:List Str}(hs:aA x vs)(h:fV x vs js ts)(nd:js.Nodup):ts.Nodup:=by
 induction h with
 | nil=>exact List.nodup_nil
 | cons h1 h2 h3 ih=>
  obtain ⟨n1,n2⟩:=List.nodup_cons.mp nd
  refine List.nodup_cons.mpr ⟨fun q=>?_,ih n2⟩
  obtain ⟨j,i,a,b,c⟩:=fV.mem h3 q
  exact n1 (sI hs h1 b h2 c▸a)
abbrev TT(P:ak)(i:Nat)(s:Str):Prop:=(fx P).T[i]?=some s
theorem T1{P:ak}:TT P 1 "T":=rfl
theorem T5{P:ak}:TT P 5 ".0":=rfl
theorem T8{P:ak}:TT P 8 "all":=rfl
theorem T9{P:ak}:TT P 9 "due":=rfl
theorem UF{P:ak}:TT P 11 "int":=rfl
theorem G4{P:ak}:TT P 12 "key":=rfl
theorem gC{P:ak}:TT P 13 "len":=rfl
theorem UE{P:ak}:TT P 14 "max":=rfl
theorem jZ{P:ak}:TT P 15 "one":=rfl
theorem hZ{P:ak}:TT P 16 "own":=rfl
theorem du{P:ak}:TT P 18 "row":=rfl
theorem eR{P:ak}:TT P 19 "run":=rfl
theorem nD{P:ak}:TT P 20 "who":=rfl
theorem mL{P:ak}:TT P 26 "call":=rfl
theorem UP{P:ak}:TT P 27 "case":=rfl
theorem MT{P:ak}:TT P 28 "cell":=rfl
theorem jO{P:ak}:TT P 30 "deed":=rfl
theorem KM{P:ak}:TT P 33 "fuel":=rfl
theorem T35{P:ak}:TT P 35 "gate":=rfl
theorem lc{P:ak}:TT P 36 "held":=rfl
theorem zr{P:ak}:TT P 37 "here":=rfl
theorem mi{P:ak}:TT P 38 "kind":=rfl
theorem IZ{P:ak}:TT P 39 "left":=rfl
theorem Ag{P:ak}:TT P 41 "lost":=rfl
theorem iY{P:ak}:TT P 42 "many":=rfl
theorem T43{P:ak}:TT P 43 "maps":=rfl
theorem UJ{P:ak}:TT P 44 "name":=rfl
theorem Ee{P:ak}:TT P 46 "path":=rfl
theorem Ut{P:ak}:TT P 47 "pick":=rfl
theorem mf{P:ak}:TT P 49 "reel":=rfl
theorem su{P:ak}:TT P 50 "room":=rfl
theorem EI{P:ak}:TT P 51 "rows":=rfl
theorem bD{P:ak}:TT P 52 "self":=rfl
theorem E1{P:ak}:TT P 55 "size":=rfl
theorem Ad{P:ak}:TT P 56 "some":=rfl
theorem Ip{P:ak}:TT P 57 "spot":=rfl
theorem Jj{P:ak}:TT P 59 "take":=rfl
theorem Fz{P:ak}:TT P 60 "task":=rfl
theorem G0{P:ak}:TT P 61 "text":=rfl
theorem jH{P:ak}:TT P 62 "told":=rfl
theorem Fa{P:ak}:TT P 63 "turn":=rfl
theorem T65{P:ak}:TT P 65 "want":=rfl
theorem EA{P:ak}:TT P 66 "work":=rfl
theorem T67{P:ak}:TT P 67 "zero":=rfl
theorem Aa{P:ak}:TT P 69 "PLAIN":=rfl
theorem UY{P:ak}:TT P 70 "World":=rfl
theorem T73{P:ak}:TT P 73 "begin":=rfl
theorem T74{P:ak}:TT P 74 "calls":=rfl
theorem Un{P:ak}:TT P 75 "cells":=rfl
theorem T77{P:ak}:TT P 77 "count":=rfl
theorem pD{P:ak}:TT P 79 "deeds":=rfl
theorem MY{P:ak}:TT P 80 "ended":=rfl
theorem T82{P:ak}:TT P 82 "files":=rfl
theorem kQ{P:ak}:TT P 83 "found":=rfl
theorem T84{P:ak}:TT P 84 "funcs":=rfl
theorem AF{P:ak}:TT P 85 "gates":=rfl
theorem T86{P:ak}:TT P 86 "group":=rfl
theorem T87{P:ak}:TT P 87 "inits":=rfl
theorem T88{P:ak}:TT P 88 "inner":=rfl
theorem Ux{P:ak}:TT P 89 "locks":=rfl
theorem T90{P:ak}:TT P 90 "named":=rfl
theorem T91{P:ak}:TT P 91 "order":=rfl
theorem ES{P:ak}:TT P 92 "panic":=rfl
theorem jq{P:ak}:TT P 93 "place":=rfl
theorem AQ{P:ak}:TT P 95 "range":=rfl
theorem T97{P:ak}:TT P 97 "sends":=rfl
theorem tN{P:ak}:TT P 98 "state":=rfl
theorem T99{P:ak}:TT P 99 "store":=rfl
theorem Cv{P:ak}:TT P 100 "taken":=rfl
theorem ZO{P:ak}:TT P 101 "taker":=rfl
theorem ZG{P:ak}:TT P 102 "takes":=rfl
theorem DJ{P:ak}:TT P 103 "truth":=rfl
theorem Wq{P:ak}:TT P 104 "tuple":=rfl
theorem mC{P:ak}:TT P 105 "typed":=rfl
theorem et{P:ak}:TT P 106 "value":=rfl
theorem DG{P:ak}:TT P 107 "waits":=rfl
theorem kJ{P:ak}:TT P 108 "world":=rfl
theorem Xa{P:ak}:TT P 110 "adding":=rfl
theorem qm{P:ak}:TT P 111 "answer":=rfl
theorem BJ{P:ak}:TT P 112 "behind":=rfl
theorem Ve{P:ak}:TT P 113 "bodies":=rfl
theorem Vs{P:ak}:TT P 115 "consts":=rfl
theorem ym{P:ak}:TT P 116 "counts":=rfl
theorem XD{P:ak}:TT P 117 "defers":=rfl
theorem K0{P:ak}:TT P 118 "do_now":=rfl
theorem Yj{P:ak}:TT P 119 "groups":=rfl
theorem x4{P:ak}:TT P 121 "let_go":=rfl
theorem Ii{P:ak}:TT P 122 "may_do":=rfl
theorem cK{P:ak}:TT P 123 "number":=rfl
theorem YZ{P:ak}:TT P 124 "prints":=rfl
theorem Ym{P:ak}:TT P 125 "scopes":=rfl
theorem nP{P:ak}:TT P 126 "script":=rfl
theorem qx{P:ak}:TT P 127 "sender":=rfl
theorem Y7{P:ak}:TT P 128 "serves":=rfl
theorem Zj{P:ak}:TT P 129 "settle":=rfl
theorem zd{P:ak}:TT P 130 "sorted":=rfl
theorem ZX{P:ak}:TT P 131 "starts":=rfl
theorem nT{P:ak}:TT P 134 "takers":=rfl
theorem gy{P:ak}:TT P 136 "values":=rfl
theorem Im{P:ak}:TT P 137 "Choices":=rfl
theorem qE{P:ak}:TT P 138 "GoPanic":=rfl
theorem VC{P:ak}:TT P 139 "add_now":=rfl
theorem BZ{P:ak}:TT P 141 "base_of":=rfl
theorem CH{P:ak}:TT P 142 "channel":=rfl
theorem oC{P:ak}:TT P 143 "choices":=rfl
theorem BN{P:ak}:TT P 144 "do_send":=rfl
theorem DV{P:ak}:TT P 145 "globals":=rfl
theorem Dg{P:ak}:TT P 147 "message":=rfl
theorem CJ{P:ak}:TT P 148 "methods":=rfl
theorem Nx{P:ak}:TT P 149 "new_one":=rfl
theorem vT{P:ak}:TT P 150 "outcome":=rfl
theorem Dd{P:ak}:TT P 151 "package":=rfl
theorem fu{P:ak}:TT P 153 "routine":=rfl
theorem kH{P:ak}:TT P 155 "senders":=rfl
theorem iE{P:ak}:TT P 156 "waiting":=rfl
theorem vQ{P:ak}:TT P 157 "NamedRow":=rfl
theorem IA{P:ak}:TT P 158 "PlainRun":=rfl
theorem ua{P:ak}:TT P 160 "_law_one":=rfl
theorem lL{P:ak}:TT P 161 "_law_run":=rfl
theorem fQ{P:ak}:TT P 162 "channels":=rfl
theorem Cm{P:ak}:TT P 163 "function":=rfl
theorem Vv{P:ak}:TT P 164 "is_whole":=rfl
theorem Po{P:ak}:TT P 165 "lock_now":=rfl
theorem CE{P:ak}:TT P 166 "make_one":=rfl
theorem IH{P:ak}:TT P 167 "may_send":=rfl
theorem Lh{P:ak}:TT P 168 "may_take":=rfl
theorem XN{P:ak}:TT P 169 "measured":=rfl
theorem Y6{P:ak}:TT P 170 "mentions":=rfl
theorem KU{P:ak}:TT P 171 "next_one":=rfl
theorem CN{P:ak}:TT P 172 "packages":=rfl
theorem Mc{P:ak}:TT P 173 "pick_one":=rfl
theorem jJ{P:ak}:TT P 175 "routines":=rfl
theorem Ly{P:ak}:TT P 176 "send_now":=rfl
theorem Iv{P:ak}:TT P 177 "take_now":=rfl
theorem JM{P:ak}:TT P 178 "wait_for":=rfl
theorem IX{P:ak}:TT P 179 "wait_now":=rfl
theorem CR{P:ak}:TT P 180 "wake_one":=rfl
theorem Hb{P:ak}:TT P 181 "ChanError":=rfl
theorem Hr{P:ak}:TT P 182 "Exception":=rfl
theorem Wc{P:ak}:TT P 183 "NameFault":=rfl
theorem CB{P:ak}:TT P 184 "PlainCall":=rfl
theorem VK{P:ak}:TT P 185 "TypeFault":=rfl
theorem LA{P:ak}:TT P 186 "_law_gate":=rfl
theorem JQ{P:ak}:TT P 187 "_law_reel":=rfl
theorem BI{P:ak}:TT P 188 "_law_sent":=rfl
theorem CI{P:ak}:TT P 189 "close_now":=rfl
theorem Ik{P:ak}:TT P 190 "enumerate":=rfl
theorem kF{P:ak}:TT P 191 "goroutine":=rfl
theorem re{P:ak}:TT P 193 "is_closed":=rfl
theorem XS{P:ak}:TT P 194 "late_keys":=rfl
theorem yP{P:ak}:TT P 195 "pass_gate":=rfl
theorem DT{P:ak}:TT P 196 "wait_here":=rfl
theorem yi{P:ak}:TT P 197 "wake_rows":=rfl
theorem WA{P:ak}:TT P 198 "CLOSED_NIL":=rfl
theorem Ni{P:ak}:TT P 199 "PlainGates":=rfl
theorem HV{P:ak}:TT P 200 "PlainStore":=rfl
theorem Dn{P:ak}:TT P 201 "_law_taken":=rfl
theorem kI{P:ak}:TT P 202 "_law_wound":=rfl
theorem Di{P:ak}:TT P 203 "do_receive":=rfl
theorem VZ{P:ak}:TT P 204 "is_through":=rfl
theorem KQ{P:ak}:TT P 205 "known_rows":=rfl
theorem ZH{P:ak}:TT P 206 "late_parts":=rfl
theorem VA{P:ak}:TT P 207 "late_sizes":=rfl
theorem DR{P:ak}:TT P 209 "underlying":=rfl
theorem ZM{P:ak}:TT P 210 "unlock_now":=rfl
theorem zf{P:ak}:TT P 211 "zero_value":=rfl
theorem yo{P:ak}:TT P 212 "CLOSED_SEND":=rfl
theorem Eb{P:ak}:TT P 213 "_law_closed":=rfl
theorem HO{P:ak}:TT P 214 "_law_passed":=rfl
theorem Dr{P:ak}:TT P 215 "_law_stands":=rfl
theorem YF{P:ak}:TT P 216 "is_deferred":=rfl
theorem uc{P:ak}:TT P 217 "may_compare":=rfl
theorem WL{P:ak}:TT P 220 "CLOSED_TWICE":=rfl
theorem NQ{P:ak}:TT P 221 "MachineFault":=rfl
theorem Oh{P:ak}:TT P 222 "PlainChannel":=rfl
theorem Oy{P:ak}:TT P 223 "PlainRoutine":=rfl
theorem HP{P:ak}:TT P 224 "_law_no_lock":=rfl
theorem IC{P:ak}:TT P 225 "_law_pointer":=rfl
theorem OB{P:ak}:TT P 226 "channel_type":=rfl
theorem oj{P:ak}:TT P 227 "meet_channel":=rfl
theorem OX{P:ak}:TT P 228 "PlainChannels":=rfl
theorem IV{P:ak}:TT P 229 "PlainRoutines":=rfl
theorem MO{P:ak}:TT P 230 "RUNTIME_ERROR":=rfl
theorem Ka{P:ak}:TT P 231 "all_functions":=rfl
theorem oh{P:ak}:TT P 232 "first_waiting":=rfl
theorem Dj{P:ak}:TT P 233 "received_told":=rfl
theorem qQ{P:ak}:TT P 235 "runtime_panic":=rfl
theorem JG{P:ak}:TT P 236 "underlying_of":=rfl
theorem Hx{P:ak}:TT P 238 "_law_told_right":=rfl
theorem ZQ{P:ak}:TT P 239 "nil dereference":=rfl
theorem uv{P:ak}:TT P 241 "_law_gates_right":=rfl
theorem Jn{P:ak}:TT P 242 "place_of_pointer":=rfl
theorem yS{P:ak}:TT P 243 "number_of_channel":=rfl
theorem oP{P:ak}:TT P 245 "_law_channel_right":=rfl
theorem LE{P:ak}:TT P 250 "send on closed channel":=rfl
theorem YP{P:ak}:TT P 251 "unlock of unlocked mutex":=rfl
theorem YL{P:ak}:TT P 252 "negative WaitGroup counter":=rfl
noncomputable def ON:List Str:= "all"::"answer"::"bodies"::"calls"::"cells"::"channels"::"choices"::"consts"::"counts"::"defers"::"files"::"fuel"::"funcs"::"function"::"gates"::"globals"::"held"::"here"::"inits"::"is_closed"::"is_deferred"::"is_whole"::"late_keys"::"late_parts"::"late_sizes"::"maps"::"measured"::"mentions"::"methods"::"named"::"number"::"order"::"outcome"::"package"::"packages"::"path"::"prints"::"room"::"routines"::"row"::"rows"::"scopes"::"serves"::"settle"::"starts"::"state"::"taken"::"typed"::"underlying"::"values"::"waiting"::"want"::"work"::"world"::[]
theorem OW(P:ak):ON.map (fun t=>(fx P).CT.all (vd (fx P).K t))=[true,true,true,true,true,true,true,true,true,true,true,true,true,true,true,true,true,true,true,true,true,true,true,true,true,true,true,true,true,true,true,true,true,true,true,true,true,true,true,true,true,true,true,true,true,true,true,true,true,true,true,true,true,true]:=by kernel_rfl
theorem j9(P:ak):aS (fx P) "all":=bi (at_ (OW P) 0 rfl rfl)
theorem py(P:ak):aS (fx P) "answer":=bi (at_ (OW P) 1 rfl rfl)
theorem IM(P:ak):aS (fx P) "bodies":=bi (at_ (OW P) 2 rfl rfl)
theorem PZ(P:ak):aS (fx P) "calls":=bi (at_ (OW P) 3 rfl rfl)
theorem E8(P:ak):aS (fx P) "cells":=bi (at_ (OW P) 4 rfl rfl)
theorem dG(P:ak):aS (fx P) "channels":=bi (at_ (OW P) 5 rfl rfl)
theorem tD(P:ak):aS (fx P) "choices":=bi (at_ (OW P) 6 rfl rfl)
theorem Jx(P:ak):aS (fx P) "consts":=bi (at_ (OW P) 7 rfl rfl)
theorem pQ(P:ak):aS (fx P) "counts":=bi (at_ (OW P) 8 rfl rfl)
theorem Pb(P:ak):aS (fx P) "defers":=bi (at_ (OW P) 9 rfl rfl)
theorem TS(P:ak):aS (fx P) "files":=bi (at_ (OW P) 10 rfl rfl)
theorem PN(P:ak):aS (fx P) "fuel":=bi (at_ (OW P) 11 rfl rfl)
theorem Tt(P:ak):aS (fx P) "funcs":=bi (at_ (OW P) 12 rfl rfl)
theorem G7(P:ak):aS (fx P) "function":=bi (at_ (OW P) 13 rfl rfl)
theorem pC(P:ak):aS (fx P) "gates":=bi (at_ (OW P) 14 rfl rfl)
theorem vi(P:ak):aS (fx P) "globals":=bi (at_ (OW P) 15 rfl rfl)
theorem gm(P:ak):aS (fx P) "held":=bi (at_ (OW P) 16 rfl rfl)
theorem sS(P:ak):aS (fx P) "here":=bi (at_ (OW P) 17 rfl rfl)
theorem P8(P:ak):aS (fx P) "inits":=bi (at_ (OW P) 18 rfl rfl)
theorem kY(P:ak):aS (fx P) "is_closed":=bi (at_ (OW P) 19 rfl rfl)
theorem Jd(P:ak):aS (fx P) "is_deferred":=bi (at_ (OW P) 20 rfl rfl)
theorem MZ(P:ak):aS (fx P) "is_whole":=bi (at_ (OW P) 21 rfl rfl)
theorem MI(P:ak):aS (fx P) "late_keys":=bi (at_ (OW P) 22 rfl rfl)
theorem KI(P:ak):aS (fx P) "late_parts":=bi (at_ (OW P) 23 rfl rfl)
theorem Oo(P:ak):aS (fx P) "late_sizes":=bi (at_ (OW P) 24 rfl rfl)
theorem TF(P:ak):aS (fx P) "maps":=bi (at_ (OW P) 25 rfl rfl)
theorem NX(P:ak):aS (fx P) "measured":=bi (at_ (OW P) 26 rfl rfl)
theorem MC(P:ak):aS (fx P) "mentions":=bi (at_ (OW P) 27 rfl rfl)
theorem Hm(P:ak):aS (fx P) "methods":=bi (at_ (OW P) 28 rfl rfl)
theorem RX(P:ak):aS (fx P) "named":=bi (at_ (OW P) 29 rfl rfl)
theorem k8(P:ak):aS (fx P) "number":=bi (at_ (OW P) 30 rfl rfl)
theorem PC(P:ak):aS (fx P) "order":=bi (at_ (OW P) 31 rfl rfl)
theorem mK(P:ak):aS (fx P) "outcome":=bi (at_ (OW P) 32 rfl rfl)
theorem LR(P:ak):aS (fx P) "package":=bi (at_ (OW P) 33 rfl rfl)
theorem Kb(P:ak):aS (fx P) "packages":=bi (at_ (OW P) 34 rfl rfl)
theorem TY(P:ak):aS (fx P) "path":=bi (at_ (OW P) 35 rfl rfl)
theorem MK(P:ak):aS (fx P) "prints":=bi (at_ (OW P) 36 rfl rfl)
theorem EC(P:ak):aS (fx P) "room":=bi (at_ (OW P) 37 rfl rfl)
theorem gj(P:ak):aS (fx P) "routines":=bi (at_ (OW P) 38 rfl rfl)
theorem yY(P:ak):aS (fx P) "row":=bi (at_ (OW P) 39 rfl rfl)
theorem QD(P:ak):aS (fx P) "rows":=bi (at_ (OW P) 40 rfl rfl)
theorem OF(P:ak):aS (fx P) "scopes":=bi (at_ (OW P) 41 rfl rfl)
theorem Nb(P:ak):aS (fx P) "serves":=bi (at_ (OW P) 42 rfl rfl)
theorem K8(P:ak):aS (fx P) "settle":=bi (at_ (OW P) 43 rfl rfl)
theorem Op(P:ak):aS (fx P) "starts":=bi (at_ (OW P) 44 rfl rfl)
theorem lN(P:ak):aS (fx P) "state":=bi (at_ (OW P) 45 rfl rfl)
theorem ut(P:ak):aS (fx P) "taken":=bi (at_ (OW P) 46 rfl rfl)
theorem NV(P:ak):aS (fx P) "typed":=bi (at_ (OW P) 47 rfl rfl)
theorem LY(P:ak):aS (fx P) "underlying":=bi (at_ (OW P) 48 rfl rfl)
theorem eZ(P:ak):aS (fx P) "values":=bi (at_ (OW P) 49 rfl rfl)
theorem eW(P:ak):aS (fx P) "waiting":=bi (at_ (OW P) 50 rfl rfl)
theorem Qt(P:ak):aS (fx P) "want":=bi (at_ (OW P) 51 rfl rfl)
theorem sX(P:ak):aS (fx P) "work":=bi (at_ (OW P) 52 rfl rfl)
theorem vh(P:ak):aS (fx P) "world":=bi (at_ (OW P) 53 rfl rfl)
theorem CS(P:ak):pO (fx P) 3 "may_compare":=t7 (cx:=579) rfl (by kernel_rfl)
theorem Gr(P:ak):pO (fx P) 2 "store":=t7 (cx:=1840) rfl (by kernel_rfl)
theorem am{a b}:bZ (.Name a b)=true:=rfl
theorem aG{a b c}:bZ (.Constant a b c)=true:=rfl
theorem bL{a b c}:bZ (.Tuple a b c)=true:=rfl
theorem gr{a b}:bZ (.List a b)=true:=rfl
theorem xn{a b c}:bZ (.Dict a b c)=true:=rfl
theorem cv{a b c}:bZ (.Attribute a b c)=true:=rfl
theorem bQ{a b c}:bZ (.Subscript a b c)=true:=rfl
theorem eN{a b c d}:bZ (.Call a b c d)=true:=rfl
theorem j8{a b c d}:bZ (.BinOp a b c d)=true:=rfl
theorem yq{a b c d}:bZ (.Compare a b c d)=true:=rfl
theorem iC{a b c d}:bZ (.IfExp a b c d)=true:=rfl
theorem ao:bx []=true:=rfl
theorem ag{e:Expr}{es:List Expr}(h:bZ e=true)(h2:bx es=true):bx (e::es)=true:=by unfold bx at h2 ⊢; rw [List.all_cons,h,h2]; rfl
theorem cI:typeOf (.builtin "list.append")=pure (.type "method_descriptor"):=by show builtinType _=_; rw [builtinType_eq_fast]; kernel_rfl
theorem sD:typeOf (.builtin "list.extend")=pure (.type "method_descriptor"):=by show builtinType _=_; rw [builtinType_eq_fast]; kernel_rfl
theorem Mh:typeOf (.builtin "list.pop")=pure (.type "method_descriptor"):=by show builtinType _=_; rw [builtinType_eq_fast]; kernel_rfl
noncomputable def MN:List Str:= "_law_wound"::"PlainRun"::"Choices"::"World"::"_law_closed"::"do_send"::"_law_sent"::"do_receive"::"_law_taken"::"meet_channel"::"_law_stands"::"PlainCall"::"_law_run"::"NamedRow"::"PLAIN"::"number_of_channel"::"zero_value"::"underlying_of"::"GoPanic"::"RUNTIME_ERROR"::"known_rows"::"PlainRoutines"::"PlainGates"::"PlainChannels"::"PlainStore"::"all_functions"::"PlainChannel"::"CLOSED_SEND"::"PlainRoutine"::"ChanError"::"runtime_panic"::"place_of_pointer"::"_law_pointer"::"pass_gate"::"_law_passed"::"_law_gate"::"_law_channel_right"::"_law_gates_right"::"_law_no_lock"::"received_told"::"_law_told_right"::"_law_one"::"_law_reel"::"len"::"range"::"int"::"sorted"::"enumerate"::"Exception"::[]
noncomputable def MV:List (Option (Option Value)):=[some (some (.ref 1925)),some (some (.ref 1840)),some (some (.ref 830)),some (some (.ref 1907)),some (some (.ref 1956)),some (some (.ref 771)),some (some (.ref 1944)),some (some (.ref 778)),some (some (.ref 1949)),some (some (.ref 785)),some (some (.ref 1963)),some (some (.ref 273)),some (some (.ref 1939)),some (some (.ref 1864)),some (some (.ref 1847)),some (some (.ref 764)),some (some (.ref 626)),some (some (.ref 616)),some (some (.ref 114)),some (some (.ref 117)),some (some (.ref 1875)),some (some (.ref 334)),some (some (.ref 1062)),some (some (.ref 1015)),some (some (.ref 579)),some (some (.ref 1739)),some (some (.ref 898)),some (some (.str "send on closed channel" 1507)),some (some (.ref 294)),some (some (.ref 39)),some (some (.ref 124)),some (some (.ref 405)),some (some (.ref 1975)),some (some (.ref 757)),some (some (.ref 1989)),some (some (.ref 1982)),some (some (.ref 1968)),some (some (.ref 1996)),some (some (.ref 2003)),some (some (.ref 806)),some (some (.ref 2010)),some (some (.ref 1932)),some (some (.ref 1918)),some none,some none,some none,some none,some none,some none]
theorem MS(P:ak):MN.map (fun t=>nsIn (fx P).K mainGlobals t)=MV:=by kernel_rfl
theorem Ci{P:ak}:bp (fx P) "max" (.builtin "max"):=.inr ⟨(by kernel_rfl:nsIn (fx P).K mainGlobals "max" = some none),by intro q; have:=congrArg jt q; revert this; decide +kernel,by kernel_rfl⟩
theorem fX(P:ak):bp (fx P) "_law_wound" (.ref 1925):=.inl (at_ (MS P) 0 rfl rfl)
theorem Cz(P:ak):bp (fx P) "PlainRun" (.ref 1840):=.inl (at_ (MS P) 1 rfl rfl)
theorem Dw(P:ak):bp (fx P) "Choices" (.ref 830):=.inl (at_ (MS P) 2 rfl rfl)
theorem F4(P:ak):bp (fx P) "World" (.ref 1907):=.inl (at_ (MS P) 3 rfl rfl)
theorem vH(P:ak):bp (fx P) "_law_closed" (.ref 1956):=.inl (at_ (MS P) 4 rfl rfl)
theorem vW(P:ak):bp (fx P) "do_send" (.ref 771):=.inl (at_ (MS P) 5 rfl rfl)
theorem uo(P:ak):bp (fx P) "_law_sent" (.ref 1944):=.inl (at_ (MS P) 6 rfl rfl)
theorem ui(P:ak):bp (fx P) "do_receive" (.ref 778):=.inl (at_ (MS P) 7 rfl rfl)
theorem wd(P:ak):bp (fx P) "_law_taken" (.ref 1949):=.inl (at_ (MS P) 8 rfl rfl)
theorem lA(P:ak):bp (fx P) "meet_channel" (.ref 785):=.inl (at_ (MS P) 9 rfl rfl)
theorem vm(P:ak):bp (fx P) "_law_stands" (.ref 1963):=.inl (at_ (MS P) 10 rfl rfl)
theorem uk(P:ak):bp (fx P) "PlainCall" (.ref 273):=.inl (at_ (MS P) 11 rfl rfl)
theorem jN(P:ak):bp (fx P) "_law_run" (.ref 1939):=.inl (at_ (MS P) 12 rfl rfl)
theorem lx(P:ak):bp (fx P) "NamedRow" (.ref 1864):=.inl (at_ (MS P) 13 rfl rfl)
theorem mW(P:ak):bp (fx P) "PLAIN" (.ref 1847):=.inl (at_ (MS P) 14 rfl rfl)
theorem vJ(P:ak):bp (fx P) "number_of_channel" (.ref 764):=.inl (at_ (MS P) 15 rfl rfl)
theorem BQ(P:ak):bp (fx P) "zero_value" (.ref 626):=.inl (at_ (MS P) 16 rfl rfl)
theorem Cs(P:ak):bp (fx P) "underlying_of" (.ref 616):=.inl (at_ (MS P) 17 rfl rfl)
theorem oO(P:ak):bp (fx P) "GoPanic" (.ref 114):=.inl (at_ (MS P) 18 rfl rfl)
theorem C4(P:ak):bp (fx P) "RUNTIME_ERROR" (.ref 117):=.inl (at_ (MS P) 19 rfl rfl)
theorem C5(P:ak):bp (fx P) "known_rows" (.ref 1875):=.inl (at_ (MS P) 20 rfl rfl)
theorem Cc(P:ak):bp (fx P) "PlainRoutines" (.ref 334):=.inl (at_ (MS P) 21 rfl rfl)
theorem DI(P:ak):bp (fx P) "PlainGates" (.ref 1062):=.inl (at_ (MS P) 22 rfl rfl)
theorem Dv(P:ak):bp (fx P) "PlainChannels" (.ref 1015):=.inl (at_ (MS P) 23 rfl rfl)
theorem Cw(P:ak):bp (fx P) "PlainStore" (.ref 579):=.inl (at_ (MS P) 24 rfl rfl)
theorem CG(P:ak):bp (fx P) "all_functions" (.ref 1739):=.inl (at_ (MS P) 25 rfl rfl)
theorem Df(P:ak):bp (fx P) "PlainChannel" (.ref 898):=.inl (at_ (MS P) 26 rfl rfl)
theorem vX(P:ak):bp (fx P) "CLOSED_SEND" (.str "send on closed channel" 1507):=.inl (at_ (MS P) 27 rfl rfl)
theorem BU(P:ak):bp (fx P) "PlainRoutine" (.ref 294):=.inl (at_ (MS P) 28 rfl rfl)
theorem DY(P:ak):bp (fx P) "ChanError" (.ref 39):=.inl (at_ (MS P) 29 rfl rfl)
theorem oU(P:ak):bp (fx P) "runtime_panic" (.ref 124):=.inl (at_ (MS P) 30 rfl rfl)
theorem DD(P:ak):bp (fx P) "place_of_pointer" (.ref 405):=.inl (at_ (MS P) 31 rfl rfl)
theorem DW(P:ak):bp (fx P) "_law_pointer" (.ref 1975):=.inl (at_ (MS P) 32 rfl rfl)
theorem vO(P:ak):bp (fx P) "pass_gate" (.ref 757):=.inl (at_ (MS P) 33 rfl rfl)
theorem BP(P:ak):bp (fx P) "_law_passed" (.ref 1989):=.inl (at_ (MS P) 34 rfl rfl)
theorem Dm(P:ak):bp (fx P) "_law_gate" (.ref 1982):=.inl (at_ (MS P) 35 rfl rfl)
theorem kj(P:ak):bp (fx P) "_law_channel_right" (.ref 1968):=.inl (at_ (MS P) 36 rfl rfl)
theorem og(P:ak):bp (fx P) "_law_gates_right" (.ref 1996):=.inl (at_ (MS P) 37 rfl rfl)
theorem Ea(P:ak):bp (fx P) "_law_no_lock" (.ref 2003):=.inl (at_ (MS P) 38 rfl rfl)
theorem ur(P:ak):bp (fx P) "received_told" (.ref 806):=.inl (at_ (MS P) 39 rfl rfl)
theorem BK(P:ak):bp (fx P) "_law_told_right" (.ref 2010):=.inl (at_ (MS P) 40 rfl rfl)
theorem lZ(P:ak):bp (fx P) "_law_one" (.ref 1932):=.inl (at_ (MS P) 41 rfl rfl)
theorem BR(P:ak):bp (fx P) "_law_reel" (.ref 1918):=.inl (at_ (MS P) 42 rfl rfl)
theorem eP(P:ak):bp (fx P) "len" (.builtin "len"):=.inr ⟨at_ (MS P) 43 rfl rfl,by intro q; have:=congrArg jt q; revert this; decide +kernel,by kernel_rfl⟩
theorem rL(P:ak):bp (fx P) "range" (.type "range"):=.inr ⟨at_ (MS P) 44 rfl rfl,by intro q; have:=congrArg jt q; revert this; decide +kernel,by kernel_rfl⟩
theorem Gl(P:ak):bp (fx P) "int" (.type "int"):=.inr ⟨at_ (MS P) 45 rfl rfl,by intro q; have:=congrArg jt q; revert this; decide +kernel,by kernel_rfl⟩
theorem tS(P:ak):bp (fx P) "sorted" (.builtin "sorted"):=.inr ⟨at_ (MS P) 46 rfl rfl,by intro q; have:=congrArg jt q; revert this; decide +kernel,by kernel_rfl⟩
theorem DZ(P:ak):bp (fx P) "enumerate" (.type "enumerate"):=.inr ⟨at_ (MS P) 47 rfl rfl,by intro q; have:=congrArg jt q; revert this; decide +kernel,by kernel_rfl⟩
theorem CF(P:ak):bp (fx P) "Exception" (.type "Exception"):=.inr ⟨at_ (MS P) 48 rfl rfl,by intro q; have:=congrArg jt q; revert this; decide +kernel,by kernel_rfl⟩
noncomputable def fF:xf:=[]
theorem cG(P:ak):FD (fx P).T fF:=fun p hp=>by
 unfold fF at hp
 cases hp
noncomputable def exC:ClassData:={ name:= "GoPanic",bases:=[(.ref 39)],mro:=[(.ref 114),(.ref 39),(.type "Exception"),(.type "BaseException"),(.type "object")],ns:=113,qualname:= "GoPanic",hasDict:=true,slotNames:=[],subclasses:=[],abstract:=false,collection:=none,hasDel:=false }
theorem exl(P:ak):(fx P).K.lookup 114=some (Lc P.w):=by kernel_rfl
theorem zl(P:ak):Internal.N.excIn (fx P).K 114:=⟨_,_,_,_,_,_,_,_,_,_,_,_,_,_,_,_,(exl P).trans (congrArg some rfl),by kernel_rfl,by kernel_rfl,by kernel_rfl,by kernel_rfl⟩
theorem ZC(P:ak):iA (fx P).K 114:=⟨exC,by kernel_rfl,by kernel_rfl,fun self=>(refuseLoop_ref _ _ _ _).trans ((refuseLoop_ref _ _ _ _).trans (PySem.F.store_Exception.passes self)),by kernel_rfl,by kernel_rfl,by kernel_rfl⟩
theorem oH(P:ak):nj (fx P) 114 114:=⟨rfl,zl P,ZC P,by kernel_rfl,by kernel_rfl,by kernel_rfl,by kernel_rfl⟩
theorem Mm(P:ak):exmOne (fx P).K (.ref 114) (.ref 114)=some true:=by kernel_rfl
theorem Qw(P:ak):findIn (fx P).K (.ref 114) "message" = some none:=by kernel_rfl
theorem Xj(P:ak):findIn (fx P).K (.ref 114) "spot" = some none:=by kernel_rfl
theorem yX(P:ak):findIn (fx P).K (.ref 114) "value" = some none:=by kernel_rfl
theorem Yy(P:ak):findCls (fx P).K (.type "Exception") (.type "type") "__init__" = some (.val (.builtin "Exception.__init__")):=by kernel_rfl
theorem YN(P:ak):specialIn (fx P).K (.ref 39) "__getattribute__" = some (some (.builtin "type.__getattribute__")):=by kernel_rfl
theorem Wd(P:ak):readsIn (fx P).K 39 (.type "type")=true:=by kernel_rfl
theorem YU(P:ak):findCls (fx P).K (.ref 39) (.type "type") "__init__" = some (.val (.ref 36)):=by kernel_rfl
noncomputable def CD:List (Nat × List Nat):=[(239,[110,105,108,32,100,101,114,101,102,101,114,101,110,99,101]),(251,[117,110,108,111,99,107,32,111,102,32,117,110,108,111,99,107,101,100,32,109,117,116,101,120]),(252,[110,101,103,97,116,105,118,101,32,87,97,105,116,71,114,111,117,112,32,99,111,117,110,116,101,114])]
theorem aaB(P:ak):Ek (fx P) CD:=fun i n h=>by
 unfold CD at h
 rcases List.mem_cons.mp h with e | h
 ·cases e; exact ⟨by decide,by decide,_,ZQ,fun u v=>by kernel_rfl⟩
 rcases List.mem_cons.mp h with e | h
 ·cases e; exact ⟨by decide,by decide,_,YP,fun u v=>by kernel_rfl⟩
 rcases List.mem_cons.mp h with e | h
 ·cases e; exact ⟨by decide,by decide,_,YL,fun u v=>by kernel_rfl⟩
 cases h
theorem Rf(P:ak):keepIn (fx P).K (.ref 114)=true:=by kernel_rfl
theorem Cu(P:ak):EU (fx P) 2 217:=⟨1840,"may_compare",1760,rfl,uc,by kernel_rfl,by kernel_rfl,by kernel_rfl,by kernel_rfl,by kernel_rfl,by kernel_rfl,by kernel_rfl⟩
noncomputable def gA:aq:=[(126,.loc),(19,.loc),(103,.loc),(49,.loc),(1,.loc),(67,.loc),(62,.loc),(9,.loc),(79,.loc),(63,.loc),(30,.loc),(161,.glo),(233,.glo),(238,.glo),(187,.glo),(160,.glo),(95,.glo),(202,.glo),(245,.glo),(241,.glo)]
noncomputable def r0:aF:=⟨1,1,[.nul,.nul,.nul,.nul,.nul,.nul,.nul,.nul,.nul,.nul,.nul,.nul,.nul,.nul,.nul,.nul,.nul,.nul,.nul],[]⟩
theorem Sz(P:ak):br (fx P) gA r0 2017 B0 D0:=⟨rfl,by kernel_rfl,(nL nP (nL eR (nL DJ (nL mf (nL T1 (nL T67 (nL jH (nL T9 (nL pD (nL Fa (nL jO (nG lL (nG Dj (nG Hx (nG JQ (nG ua (nG AQ (nG kI (nG oP (nG uv .nil)))))))))))))))))))),odr rfl,rfl,rfl,rfl,rfl,(show aI (fx P).T gA _ from (.cons nP (.inl rfl) .nil)).ok,rfl,odr rfl,bW rfl rfl rfl⟩
noncomputable def wX:aq:=[(126,.loc),(62,.loc),(55,.loc),(13,.glo),(14,.glo)]
noncomputable def r1:aF:=⟨1,1,[.nul,.nul,.nul,.nul],[]⟩
theorem TK(P:ak):br (fx P) wX r1 1918 B1 D1:=⟨rfl,by kernel_rfl,(nL nP (nL jH (nL E1 (nG gC (nG UE .nil))))),odr rfl,rfl,rfl,rfl,rfl,(show aI (fx P).T wX _ from (.cons nP (.inl rfl) .nil)).ok,rfl,odr rfl,bW rfl rfl rfl⟩
theorem EJ(P:ak):keepIn (fx P).K (.ref 1918)=true:=rfl
noncomputable def wU:aq:=[(49,.loc),(42,.loc),(83,.loc)]
noncomputable def r2:aF:=⟨2,2,[.nul],[]⟩
theorem RE(P:ak):br (fx P) wU r2 1925 B2 D2:=⟨rfl,by kernel_rfl,(nL mf (nL iY (nL kQ .nil))),odr rfl,rfl,rfl,rfl,rfl,(show aI (fx P).T wU _ from (.cons mf (.inl rfl) (.cons iY (.inl rfl) .nil))).ok,rfl,odr rfl,bW rfl rfl rfl⟩
theorem jx(P:ak):keepIn (fx P).K (.ref 1925)=true:=rfl
noncomputable def xw:aq:=[(49,.loc),(56,.loc),(202,.glo),(13,.glo)]
noncomputable def r3:aF:=⟨2,2,[.nul,.nul],[]⟩
theorem Q0(P:ak):br (fx P) xw r3 1932 B3 D3:=⟨rfl,by kernel_rfl,(nL mf (nL Ad (nG kI (nG gC .nil)))),odr rfl,rfl,rfl,rfl,rfl,(show aI (fx P).T xw _ from (.cons mf (.inl rfl) (.cons Ad (.inl rfl) .nil))).ok,rfl,odr rfl,bW rfl rfl rfl⟩
theorem pi(P:ak):keepIn (fx P).K (.ref 1932)=true:=rfl
noncomputable def xp:aq:=[(19,.loc),(63,.loc),(158,.glo),(70,.glo),(137,.glo),(95,.glo)]
noncomputable def r4:aF:=⟨0,0,[.nul,.nul,.nul,.nul,.nul,.nul],[]⟩
theorem SP(P:ak):br (fx P) xp r4 1939 B4 D4:=⟨rfl,by kernel_rfl,(nL eR (nL Fa (nG IA (nG UY (nG Im (nG AQ .nil)))))),odr rfl,rfl,rfl,rfl,rfl,(show aI (fx P).T xp _ from .nil).ok,rfl,odr rfl,bW rfl rfl rfl⟩
theorem nu(P:ak):keepIn (fx P).K (.ref 1939)=true:=rfl
noncomputable def sG:aq:=[(16,.loc),(20,.loc),(106,.loc),(134,.cel),(13,.glo)]
noncomputable def r5:aF:=⟨3,3,[.nul,.nul],[3]⟩
theorem P4(P:ak):br (fx P) sG r5 1944 B5 D5:=⟨rfl,by kernel_rfl,(nL hZ (nL nD (nL et (nC nT (nG gC .nil))))),odr rfl,rfl,rfl,rfl,rfl,(show aI (fx P).T sG _ from (.cons hZ (.inl rfl) (.cons nD (.inl rfl) (.cons et (.inl rfl) .nil)))).ok,rfl,odr rfl,bW rfl rfl rfl⟩
theorem x5(P:ak):keepIn (fx P).K (.ref 1944)=true:=rfl
noncomputable def pL:aq:=[(16,.loc),(20,.loc),(18,.loc),(155,.cel),(13,.glo),(11,.glo)]
noncomputable def r6:aF:=⟨2,2,[.nul,.nul,.nul,.nul],[3]⟩
theorem QE(P:ak):br (fx P) pL r6 1949 B6 D6:=⟨rfl,by kernel_rfl,(nL hZ (nL nD (nL du (nC kH (nG gC (nG UF .nil)))))),odr rfl,rfl,rfl,rfl,rfl,(show aI (fx P).T pL _ from (.cons hZ (.inl rfl) (.cons nD (.inl rfl) .nil))).ok,rfl,odr rfl,bW rfl rfl rfl⟩
theorem ye(P:ak):keepIn (fx P).K (.ref 1949)=true:=rfl
noncomputable def wW:aq:=[(16,.loc),(20,.loc),(38,.loc),(106,.loc)]
noncomputable def r7:aF:=⟨1,1,[.nul,.nul,.nul],[]⟩
theorem Q2(P:ak):br (fx P) wW r7 1956 B7 D7:=⟨rfl,by kernel_rfl,(nL hZ (nL nD (nL mi (nL et .nil)))),odr rfl,rfl,rfl,rfl,rfl,(show aI (fx P).T wW _ from (.cons hZ (.inl rfl) .nil)).ok,rfl,odr rfl,bW rfl rfl rfl⟩
theorem zc(P:ak):keepIn (fx P).K (.ref 1956)=true:=rfl
noncomputable def w7:aq:=[(19,.loc),(16,.loc),(107,.loc),(153,.loc),(20,.loc),(62,.loc)]
noncomputable def r8:aF:=⟨3,3,[.nul,.nul,.nul],[]⟩
theorem RC(P:ak):br (fx P) w7 r8 1963 B8 D8:=⟨rfl,by kernel_rfl,(nL eR (nL hZ (nL DG (nL fu (nL nD (nL jH .nil)))))),odr rfl,rfl,rfl,rfl,rfl,(show aI (fx P).T w7 _ from (.cons eR (.inl rfl) (.cons hZ (.inl rfl) (.cons DG (.inl rfl) .nil)))).ok,rfl,odr rfl,bW rfl rfl rfl⟩
theorem yL(P:ak):keepIn (fx P).K (.ref 1963)=true:=rfl
noncomputable def gx:aq:=[(50,.loc),(79,.loc),(19,.loc),(16,.loc),(41,.loc),(142,.loc),(20,.loc),(30,.loc),(106,.loc),(153,.loc),(26,.loc),(112,.loc),(161,.glo),(184,.glo),(213,.glo),(144,.glo),(188,.glo),(203,.glo),(201,.glo),(227,.glo),(215,.glo)]
noncomputable def r9:aF:=⟨2,2,[.nul,.nul,.nul,.nul,.nul,.nul,.nul,.nul,.nul,.nul,.nul,.nul,.nul,.nul,.nul,.nul,.nul,.nul,.nul],[]⟩
theorem EG(P:ak):br (fx P) gx r9 1968 B9 D9:=⟨rfl,by kernel_rfl,(nL su (nL pD (nL eR (nL hZ (nL Ag (nL CH (nL nD (nL jO (nL et (nL fu (nL mL (nL BJ (nG lL (nG CB (nG Eb (nG BN (nG BI (nG Di (nG Dn (nG oj (nG Dr .nil))))))))))))))))))))),odr rfl,rfl,rfl,rfl,rfl,(show aI (fx P).T gx _ from (.cons su (.inl rfl) (.cons pD (.inl rfl) .nil))).ok,rfl,odr rfl,bW rfl rfl rfl⟩
theorem mV(P:ak):keepIn (fx P).K (.ref 1968)=true:=rfl
noncomputable def rz:aq:=[(123,.loc)]
noncomputable def JJ:aF:=⟨1,1,[],[]⟩
theorem OJ(P:ak):br (fx P) rz JJ 1975 Bw On:=⟨rfl,by kernel_rfl,(nL cK .nil),odr rfl,rfl,rfl,rfl,rfl,(show aI (fx P).T rz _ from (.cons cK (.inl rfl) .nil)).ok,rfl,odr rfl,bW rfl rfl rfl⟩
theorem Bk(P:ak):keepIn (fx P).K (.ref 1975)=true:=rfl
noncomputable def ql:aq:=[(16,.loc),(20,.loc),(30,.loc),(42,.loc)]
noncomputable def Lv:aF:=⟨4,4,[],[]⟩
theorem Ox(P:ak):br (fx P) ql Lv 1982 AZ Jm:=⟨rfl,by kernel_rfl,(nL hZ (nL nD (nL jO (nL iY .nil)))),odr rfl,rfl,rfl,rfl,rfl,(show aI (fx P).T ql _ from (.cons hZ (.inl rfl) (.cons nD (.inl rfl) (.cons jO (.inl rfl) (.cons iY (.inl rfl) .nil))))).ok,rfl,odr rfl,bW rfl rfl rfl⟩
theorem Bg(P:ak):keepIn (fx P).K (.ref 1982)=true:=rfl
noncomputable def uY:aq:=[(19,.loc),(153,.loc),(30,.loc),(42,.loc),(136,.loc),(92,.loc),(225,.glo),(195,.glo),(138,.glo)]
noncomputable def Mu:aF:=⟨4,4,[.nul,.nul,.nul,.nul,.nul],[]⟩
theorem Pq(P:ak):br (fx P) uY Mu 1989 EK M9:=⟨rfl,by kernel_rfl,(nL eR (nL fu (nL jO (nL iY (nL gy (nL ES (nG IC (nG yP (nG qE .nil))))))))),odr rfl,rfl,rfl,rfl,rfl,(show aI (fx P).T uY _ from (.cons eR (.inl rfl) (.cons fu (.inl rfl) (.cons jO (.inl rfl) (.cons iY (.inl rfl) .nil))))).ok,rfl,odr rfl,bW rfl rfl rfl⟩
theorem zL(P:ak):keepIn (fx P).K (.ref 1989)=true:=rfl
noncomputable def hO:aq:=[(79,.loc),(19,.loc),(16,.loc),(20,.loc),(30,.loc),(42,.loc),(62,.loc),(153,.loc),(161,.glo),(214,.glo),(186,.glo)]
noncomputable def Ok:aF:=⟨1,1,[.nul,.nul,.nul,.nul,.nul,.nul,.nul,.nul,.nul,.nul],[]⟩
theorem Hf(P:ak):br (fx P) hO Ok 1996 l7 UI:=⟨rfl,by kernel_rfl,(nL pD (nL eR (nL hZ (nL nD (nL jO (nL iY (nL jH (nL fu (nG lL (nG HO (nG LA .nil))))))))))),odr rfl,rfl,rfl,rfl,rfl,(show aI (fx P).T hO _ from (.cons pD (.inl rfl) .nil)).ok,rfl,odr rfl,bW rfl rfl rfl⟩
theorem tY(P:ak):keepIn (fx P).K (.ref 1996)=true:=rfl
noncomputable def v7:aq:=[(19,.loc),(92,.loc),(161,.glo),(195,.glo),(138,.glo)]
noncomputable def M0:aF:=⟨0,0,[.nul,.nul,.nul,.nul,.nul],[]⟩
theorem KC(P:ak):br (fx P) v7 M0 2003 E2 Ln:=⟨rfl,by kernel_rfl,(nL eR (nL ES (nG lL (nG yP (nG qE .nil))))),odr rfl,rfl,rfl,rfl,rfl,(show aI (fx P).T v7 _ from .nil).ok,rfl,odr rfl,bW rfl rfl rfl⟩
theorem Bc(P:ak):keepIn (fx P).K (.ref 2003)=true:=rfl
noncomputable def tL:aq:=[(102,.loc),(97,.loc),(89,.loc),(119,.loc),(245,.glo),(241,.glo),(224,.glo)]
noncomputable def N9:aF:=⟨0,0,[.nul,.nul,.nul,.nul,.nul,.nul,.nul],[]⟩
theorem Hp(P:ak):br (fx P) tL N9 2010 Es NW:=⟨rfl,by kernel_rfl,(nL ZG (nL T97 (nL Ux (nL Yj (nG oP (nG uv (nG HP .nil))))))),odr rfl,rfl,rfl,rfl,rfl,(show aI (fx P).T tL _ from .nil).ok,rfl,odr rfl,bW rfl rfl rfl⟩
theorem AG(P:ak):keepIn (fx P).K (.ref 2010)=true:=rfl
noncomputable def ra:aq:=[(61,.loc),(110,.loc),(35,.loc),(86,.loc),(62,.loc),(89,.loc),(107,.loc),(69,.glo),(157,.glo)]
noncomputable def JD:aF:=⟨0,0,[.nul,.nul,.nul,.nul,.nul,.nul,.nul,.nul,.nul],[]⟩
theorem Lp(P:ak):br (fx P) ra JD 1875 AA LN:=⟨rfl,by kernel_rfl,(nL G0 (nL Xa (nL T35 (nL T86 (nL jH (nL Ux (nL DG (nG Aa (nG vQ .nil))))))))),odr rfl,rfl,rfl,rfl,rfl,(show aI (fx P).T ra _ from .nil).ok,rfl,odr rfl,bW rfl rfl rfl⟩
theorem zu(P:ak):keepIn (fx P).K (.ref 1875)=true:=rfl
noncomputable def oW:aq:=[(105,.cel),(83,.loc),(39,.loc),(37,.cel),(130,.glo)]
noncomputable def Ic:aF:=⟨1,1,[.nul,.nul,.nul,.nul],[3,0]⟩
theorem K6(P:ak):br (fx P) oW Ic 1739 Av Pu:=⟨rfl,by kernel_rfl,(nC mC (nL kQ (nL IZ (nC zr (nG zd .nil))))),odr rfl,rfl,rfl,rfl,rfl,(show aI (fx P).T oW _ from (.cons mC (.inr rfl) .nil)).ok,rfl,odr rfl,bW rfl rfl rfl⟩
theorem zJ(P:ak):keepIn (fx P).K (.ref 1739)=true:=rfl
noncomputable def um:aq:=[(19,.loc),(153,.loc),(44,.loc),(136,.loc),(93,.loc),(204,.loc),(56,.loc),(123,.loc),(242,.glo)]
noncomputable def J5:aF:=⟨4,4,[.nul,.nul,.nul,.nul,.nul],[]⟩
theorem JE(P:ak):br (fx P) um J5 757 Ey J4:=⟨rfl,by kernel_rfl,(nL eR (nL fu (nL UJ (nL gy (nL jq (nL VZ (nL Ad (nL cK (nG Jn .nil))))))))),odr rfl,rfl,rfl,rfl,rfl,(show aI (fx P).T um _ from (.cons eR (.inl rfl) (.cons fu (.inl rfl) (.cons UJ (.inl rfl) (.cons gy (.inl rfl) .nil))))).ok,rfl,odr rfl,bW rfl rfl rfl⟩
theorem uN(P:ak):keepIn (fx P).K (.ref 757)=true:=rfl
noncomputable def qj:aq:=[(19,.loc),(153,.loc),(26,.loc),(60,.loc),(142,.loc),(106,.loc),(227,.glo),(243,.glo)]
noncomputable def PA:aF:=⟨4,4,[.nul,.nul,.nul,.nul],[]⟩
theorem Md(P:ak):br (fx P) qj PA 771 zR LH:=⟨rfl,by kernel_rfl,(nL eR (nL fu (nL mL (nL Fz (nL CH (nL et (nG oj (nG yS .nil)))))))),odr rfl,rfl,rfl,rfl,rfl,(show aI (fx P).T qj _ from (.cons eR (.inl rfl) (.cons fu (.inl rfl) (.cons mL (.inl rfl) (.cons Fz (.inl rfl) .nil))))).ok,rfl,odr rfl,bW rfl rfl rfl⟩
theorem tC(P:ak):keepIn (fx P).K (.ref 771)=true:=rfl
noncomputable def qX:aq:=[(19,.loc),(153,.loc),(26,.loc),(60,.loc),(142,.loc),(227,.glo),(243,.glo)]
noncomputable def Ob:aF:=⟨4,4,[.nul,.nul,.nul],[]⟩
theorem G8(P:ak):br (fx P) qX Ob 778 Ak Hi:=⟨rfl,by kernel_rfl,(nL eR (nL fu (nL mL (nL Fz (nL CH (nG oj (nG yS .nil))))))),odr rfl,rfl,rfl,rfl,rfl,(show aI (fx P).T qX _ from (.cons eR (.inl rfl) (.cons fu (.inl rfl) (.cons mL (.inl rfl) (.cons Fz (.inl rfl) .nil))))).ok,rfl,odr rfl,bW rfl rfl rfl⟩
theorem vY(P:ak):keepIn (fx P).K (.ref 778)=true:=rfl
noncomputable def qJ:aq:=[(19,.loc),(153,.loc),(26,.loc),(38,.loc),(123,.loc),(106,.loc),(112,.loc),(62,.loc),(51,.loc)]
noncomputable def Lq:aF:=⟨7,7,[.nul,.nul],[]⟩
theorem Ou(P:ak):br (fx P) qJ Lq 785 zQ Nf:=⟨rfl,by kernel_rfl,(nL eR (nL fu (nL mL (nL mi (nL cK (nL et (nL BJ (nL jH (nL EI .nil))))))))),odr rfl,rfl,rfl,rfl,rfl,(show aI (fx P).T qJ _ from (.cons eR (.inl rfl) (.cons fu (.inl rfl) (.cons mL (.inl rfl) (.cons mi (.inl rfl) (.cons cK (.inl rfl) (.cons et (.inl rfl) (.cons BJ (.inl rfl) .nil)))))))).ok,rfl,odr rfl,bW rfl rfl rfl⟩
theorem mG(P:ak):keepIn (fx P).K (.ref 785)=true:=rfl
noncomputable def qC:aq:=[(106,.loc)]
noncomputable def O5:aF:=⟨1,1,[],[]⟩
theorem H0(P:ak):br (fx P) qC O5 764 Al M8:=⟨rfl,by kernel_rfl,(nL et .nil),odr rfl,rfl,rfl,rfl,rfl,(show aI (fx P).T qC _ from (.cons et (.inl rfl) .nil)).ok,rfl,odr rfl,bW rfl rfl rfl⟩
theorem vr(P:ak):keepIn (fx P).K (.ref 764)=true:=rfl
noncomputable def qS:aq:=[(19,.loc),(62,.loc),(226,.loc),(211,.glo)]
noncomputable def It:aF:=⟨3,3,[.nul],[]⟩
theorem LZ(P:ak):br (fx P) qS It 806 Ae IE:=⟨rfl,by kernel_rfl,(nL eR (nL jH (nL OB (nG zf .nil)))),odr rfl,rfl,rfl,rfl,rfl,(show aI (fx P).T qS _ from (.cons eR (.inl rfl) (.cons jH (.inl rfl) (.cons OB (.inl rfl) .nil)))).ok,rfl,odr rfl,bW rfl rfl rfl⟩
theorem uA(P:ak):keepIn (fx P).K (.ref 806)=true:=rfl
noncomputable def qH:aq:=[(108,.cel),(1,.loc),(88,.loc),(236,.glo),(211,.glo),(104,.glo)]
noncomputable def I7:aF:=⟨2,2,[.nul,.nul,.nul,.nul],[0]⟩
theorem Mv(P:ak):br (fx P) qH I7 626 zG Ol:=⟨rfl,by kernel_rfl,(nC kJ (nL T1 (nL T88 (nG JG (nG zf (nG Wq .nil)))))),odr rfl,rfl,rfl,rfl,rfl,(show aI (fx P).T qH _ from (.cons kJ (.inr rfl) (.cons T1 (.inl rfl) .nil))).ok,rfl,odr rfl,bW rfl rfl rfl⟩
theorem AU(P:ak):keepIn (fx P).K (.ref 626)=true:=rfl
noncomputable def rH:aq:=[(108,.loc),(1,.loc)]
noncomputable def LD:aF:=⟨2,2,[],[]⟩
theorem G3(P:ak):br (fx P) rH LD 616 z6 JL:=⟨rfl,by kernel_rfl,(nL kJ (nL T1 .nil)),odr rfl,rfl,rfl,rfl,rfl,(show aI (fx P).T rH _ from (.cons kJ (.inl rfl) (.cons T1 (.inl rfl) .nil))).ok,rfl,odr rfl,bW rfl rfl rfl⟩
theorem Bx(P:ak):keepIn (fx P).K (.ref 616)=true:=rfl
noncomputable def ug:aq:=[(106,.loc),(235,.glo)]
noncomputable def Ir:aF:=⟨1,1,[.nul],[]⟩
theorem IQ(P:ak):br (fx P) ug Ir 405 Fi Ls:=⟨rfl,by kernel_rfl,(nL et (nG qQ .nil)),odr rfl,rfl,rfl,rfl,rfl,(show aI (fx P).T ug _ from (.cons et (.inl rfl) .nil)).ok,rfl,odr rfl,bW rfl rfl rfl⟩
theorem Bb(P:ak):keepIn (fx P).K (.ref 405)=true:=rfl
noncomputable def rk:aq:=[(61,.loc),(138,.glo),(230,.glo)]
noncomputable def Nd:aF:=⟨1,1,[.nul,.nul],[]⟩
theorem OR(P:ak):br (fx P) rk Nd 124 zo HU:=⟨rfl,by kernel_rfl,(nL G0 (nG qE (nG MO .nil))),odr rfl,rfl,rfl,rfl,rfl,(show aI (fx P).T rk _ from (.cons G0 (.inl rfl) .nil)).ok,rfl,odr rfl,bW rfl rfl rfl⟩
theorem pA(P:ak):keepIn (fx P).K (.ref 124)=true:=rfl
noncomputable def qt:aq:=[(52,.loc),(46,.loc),(151,.loc),(209,.loc),(148,.loc)]
noncomputable def Nr:aF:=⟨5,5,[],[]⟩
theorem OY(P:ak):br (fx P) qt Nr 1861 AR Jt:=⟨rfl,by kernel_rfl,(nL bD (nL Ee (nL Dd (nL DR (nL CJ .nil))))),odr rfl,rfl,rfl,rfl,rfl,(show aI (fx P).T qt _ from (.cons bD (.inl rfl) (.cons Ee (.inl rfl) (.cons Dd (.inl rfl) (.cons DR (.inl rfl) (.cons CJ (.inl rfl) .nil)))))).ok,rfl,odr rfl,bW rfl rfl rfl⟩
theorem K7(P:ak):keepIn (fx P).K (.ref 1861)=true:=rfl
noncomputable def ri:aq:=[(52,.loc),(172,.loc),(205,.glo)]
noncomputable def Ht:aF:=⟨1,2,[.none,.nul],[]⟩
theorem Kz(P:ak):br (fx P) ri Ht 1890 zO K9:=⟨rfl,by kernel_rfl,(nL bD (nL CN (nG KQ .nil))),odr rfl,rfl,rfl,rfl,rfl,(show aI (fx P).T ri _ from (.cons bD (.inl rfl) (.cons CN (.inl rfl) .nil))).ok,rfl,odr rfl,dv1 rfl rfl rfl rfl rfl⟩
theorem Ja(P:ak):keepIn (fx P).K (.ref 1890)=true:=rfl
noncomputable def qW:aq:=[(52,.loc),(62,.loc),(18,.loc),(183,.glo),(185,.glo)]
noncomputable def JS:aF:=⟨2,2,[.nul,.nul,.nul],[]⟩
theorem Hl(P:ak):br (fx P) qW JS 1897 Ao Jf:=⟨rfl,by kernel_rfl,(nL bD (nL jH (nL du (nG Wc (nG VK .nil))))),odr rfl,rfl,rfl,rfl,rfl,(show aI (fx P).T qW _ from (.cons bD (.inl rfl) (.cons jH (.inl rfl) .nil))).ok,rfl,odr rfl,bW rfl rfl rfl⟩
theorem Ib(P:ak):keepIn (fx P).K (.ref 1897)=true:=rfl
noncomputable def ru:aq:=[(52,.loc),(108,.loc),(105,.loc),(143,.loc),(33,.loc),(46,.loc),(231,.glo),(200,.glo),(228,.glo),(199,.glo),(229,.glo),(130,.glo),(211,.glo)]
noncomputable def Ma:aF:=⟨5,5,[.nul,.nul,.nul,.nul,.nul,.nul,.nul,.nul],[]⟩
theorem ME(P:ak):br (fx P) ru Ma 1753 Ai MJ:=⟨rfl,by kernel_rfl,(nL bD (nL kJ (nL mC (nL oC (nL KM (nL Ee (nG Ka (nG HV (nG OX (nG Ni (nG IV (nG zd (nG zf .nil))))))))))))),odr rfl,rfl,rfl,rfl,rfl,(show aI (fx P).T ru _ from (.cons bD (.inl rfl) (.cons kJ (.inl rfl) (.cons mC (.inl rfl) (.cons oC (.inl rfl) (.cons KM (.inl rfl) .nil)))))).ok,rfl,odr rfl,bW rfl rfl rfl⟩
theorem HS(P:ak):keepIn (fx P).K (.ref 1753)=true:=rfl
noncomputable def rM:aq:=[(52,.loc),(153,.loc)]
noncomputable def Jh:aF:=⟨2,2,[],[]⟩
theorem Mg(P:ak):br (fx P) rM Jh 1788 z8 Iy:=⟨rfl,by kernel_rfl,(nL bD (nL fu .nil)),odr rfl,rfl,rfl,rfl,rfl,(show aI (fx P).T rM _ from (.cons bD (.inl rfl) (.cons fu (.inl rfl) .nil))).ok,rfl,odr rfl,bW rfl rfl rfl⟩
theorem Pz(P:ak):keepIn (fx P).K (.ref 1788)=true:=rfl
noncomputable def qO:aq:=[(52,.loc)]
noncomputable def Pr:aF:=⟨1,1,[],[]⟩
theorem Ps(P:ak):br (fx P) qO Pr 1795 BB HE:=⟨rfl,by kernel_rfl,(nL bD .nil),odr rfl,rfl,rfl,rfl,rfl,(show aI (fx P).T qO _ from (.cons bD (.inl rfl) .nil)).ok,rfl,odr rfl,bW rfl rfl rfl⟩
theorem OL(P:ak):keepIn (fx P).K (.ref 1795)=true:=rfl
noncomputable def rS:aq:=[(52,.loc),(51,.loc),(123,.loc),(27,.loc),(62,.loc)]
noncomputable def HM:aF:=⟨2,2,[.nul,.nul,.nul],[]⟩
theorem NI(P:ak):br (fx P) rS HM 1809 zI Ld:=⟨rfl,by kernel_rfl,(nL bD (nL EI (nL cK (nL UP (nL jH .nil))))),odr rfl,rfl,rfl,rfl,rfl,(show aI (fx P).T rS _ from (.cons bD (.inl rfl) (.cons EI (.inl rfl) .nil))).ok,rfl,odr rfl,bW rfl rfl rfl⟩
theorem LO(P:ak):keepIn (fx P).K (.ref 1809)=true:=rfl
noncomputable def qM:aq:=[(52,.loc),(217,.loc)]
noncomputable def Nk:aF:=⟨2,2,[],[]⟩
theorem JF(P:ak):br (fx P) qM Nk 473 zX LK:=⟨rfl,by kernel_rfl,(nL bD (nL uc .nil)),odr rfl,rfl,rfl,rfl,rfl,(show aI (fx P).T qM _ from (.cons bD (.inl rfl) (.cons uc (.inl rfl) .nil))).ok,rfl,odr rfl,bW rfl rfl rfl⟩
theorem Nv(P:ak):keepIn (fx P).K (.ref 473)=true:=rfl
noncomputable def rm:aq:=[(52,.loc)]
noncomputable def Mq:aF:=⟨1,1,[],[]⟩
theorem O9(P:ak):br (fx P) rm Mq 916 zY Lz:=⟨rfl,by kernel_rfl,(nL bD .nil),odr rfl,rfl,rfl,rfl,rfl,(show aI (fx P).T rm _ from (.cons bD (.inl rfl) .nil)).ok,rfl,odr rfl,bW rfl rfl rfl⟩
theorem Il(P:ak):keepIn (fx P).K (.ref 916)=true:=rfl
noncomputable def rr:aq:=[(52,.loc),(50,.loc),(222,.glo),(13,.glo)]
noncomputable def NU:aF:=⟨2,2,[.nul,.nul],[]⟩
theorem IU(P:ak):br (fx P) rr NU 923 AT LI:=⟨rfl,by kernel_rfl,(nL bD (nL su (nG Oh (nG gC .nil)))),odr rfl,rfl,rfl,rfl,rfl,(show aI (fx P).T rr _ from (.cons bD (.inl rfl) (.cons su (.inl rfl) .nil))).ok,rfl,odr rfl,bW rfl rfl rfl⟩
theorem Li(P:ak):keepIn (fx P).K (.ref 923)=true:=rfl
noncomputable def rB:aq:=[(52,.loc),(38,.loc),(123,.loc),(30,.loc)]
noncomputable def LP:aF:=⟨3,3,[.nul],[]⟩
theorem Ij(P:ak):br (fx P) rB LP 944 AX OH:=⟨rfl,by kernel_rfl,(nL bD (nL mi (nL cK (nL jO .nil)))),odr rfl,rfl,rfl,rfl,rfl,(show aI (fx P).T rB _ from (.cons bD (.inl rfl) (.cons mi (.inl rfl) (.cons cK (.inl rfl) .nil)))).ok,rfl,odr rfl,bW rfl rfl rfl⟩
theorem OU(P:ak):keepIn (fx P).K (.ref 944)=true:=rfl
noncomputable def om:aq:=[(52,.loc),(191,.cel)]
noncomputable def MA:aF:=⟨2,2,[],[1]⟩
theorem L6(P:ak):br (fx P) om MA 949 zy JO:=⟨rfl,by kernel_rfl,(nL bD (nC kF .nil)),odr rfl,rfl,rfl,rfl,rfl,(show aI (fx P).T om _ from (.cons bD (.inl rfl) (.cons kF (.inr rfl) .nil))).ok,rfl,odr rfl,bW rfl rfl rfl⟩
theorem JA(P:ak):keepIn (fx P).K (.ref 949)=true:=rfl
noncomputable def rN:aq:=[(52,.loc),(123,.loc),(15,.loc),(13,.glo)]
noncomputable def OK:aF:=⟨2,2,[.nul,.nul],[]⟩
theorem KJ(P:ak):br (fx P) rN OK 956 zE I8:=⟨rfl,by kernel_rfl,(nL bD (nL cK (nL jZ (nG gC .nil)))),odr rfl,rfl,rfl,rfl,rfl,(show aI (fx P).T rN _ from (.cons bD (.inl rfl) (.cons cK (.inl rfl) .nil))).ok,rfl,odr rfl,bW rfl rfl rfl⟩
theorem JR(P:ak):keepIn (fx P).K (.ref 956)=true:=rfl
noncomputable def qo:aq:=[(52,.loc),(123,.loc),(15,.loc)]
noncomputable def Pd:aF:=⟨2,2,[.nul],[]⟩
theorem OC(P:ak):br (fx P) qo Pd 963 AE M2:=⟨rfl,by kernel_rfl,(nL bD (nL cK (nL jZ .nil))),odr rfl,rfl,rfl,rfl,rfl,(show aI (fx P).T qo _ from (.cons bD (.inl rfl) (.cons cK (.inl rfl) .nil))).ok,rfl,odr rfl,bW rfl rfl rfl⟩
theorem Jb(P:ak):keepIn (fx P).K (.ref 963)=true:=rfl
noncomputable def qK:aq:=[(52,.loc),(38,.loc),(123,.loc)]
noncomputable def JZ:aF:=⟨3,3,[],[]⟩
theorem Nn(P:ak):br (fx P) qK JZ 970 AY N4:=⟨rfl,by kernel_rfl,(nL bD (nL mi (nL cK .nil))),odr rfl,rfl,rfl,rfl,rfl,(show aI (fx P).T qK _ from (.cons bD (.inl rfl) (.cons mi (.inl rfl) (.cons cK (.inl rfl) .nil)))).ok,rfl,odr rfl,bW rfl rfl rfl⟩
theorem Hd(P:ak):keepIn (fx P).K (.ref 970)=true:=rfl
noncomputable def ry:aq:=[(52,.loc),(123,.loc),(106,.loc),(15,.loc),(101,.loc),(212,.glo)]
noncomputable def G1:aF:=⟨3,3,[.nul,.nul,.nul],[]⟩
theorem Ks(P:ak):br (fx P) ry G1 977 Bf Ju:=⟨rfl,by kernel_rfl,(nL bD (nL cK (nL et (nL jZ (nL ZO (nG yo .nil)))))),odr rfl,rfl,rfl,rfl,rfl,(show aI (fx P).T ry _ from (.cons bD (.inl rfl) (.cons cK (.inl rfl) (.cons et (.inl rfl) .nil)))).ok,rfl,odr rfl,bW rfl rfl rfl⟩
theorem Oc(P:ak):keepIn (fx P).K (.ref 977)=true:=rfl
noncomputable def qe:aq:=[(52,.loc),(123,.loc),(15,.loc),(127,.loc),(106,.loc)]
noncomputable def LF:aF:=⟨2,2,[.nul,.nul,.nul],[]⟩
theorem HF(P:ak):br (fx P) qe LF 984 As Mw:=⟨rfl,by kernel_rfl,(nL bD (nL cK (nL jZ (nL qx (nL et .nil))))),odr rfl,rfl,rfl,rfl,rfl,(show aI (fx P).T qe _ from (.cons bD (.inl rfl) (.cons cK (.inl rfl) .nil))).ok,rfl,odr rfl,bW rfl rfl rfl⟩
theorem Kg(P:ak):keepIn (fx P).K (.ref 984)=true:=rfl
noncomputable def qL:aq:=[(52,.loc),(38,.loc),(123,.loc),(106,.loc)]
noncomputable def LX:aF:=⟨4,4,[],[]⟩
theorem HQ(P:ak):br (fx P) qL LX 991 An M4:=⟨rfl,by kernel_rfl,(nL bD (nL mi (nL cK (nL et .nil)))),odr rfl,rfl,rfl,rfl,rfl,(show aI (fx P).T qL _ from (.cons bD (.inl rfl) (.cons mi (.inl rfl) (.cons cK (.inl rfl) (.cons et (.inl rfl) .nil))))).ok,rfl,odr rfl,bW rfl rfl rfl⟩
theorem NY(P:ak):keepIn (fx P).K (.ref 991)=true:=rfl
noncomputable def rD:aq:=[(52,.loc),(123,.loc),(15,.loc),(198,.glo),(220,.glo),(212,.glo)]
noncomputable def M6:aF:=⟨2,2,[.nul,.nul,.nul,.nul],[]⟩
theorem IT(P:ak):br (fx P) rD M6 998 A8 Nl:=⟨rfl,by kernel_rfl,(nL bD (nL cK (nL jZ (nG WA (nG WL (nG yo .nil)))))),odr rfl,rfl,rfl,rfl,rfl,(show aI (fx P).T rD _ from (.cons bD (.inl rfl) (.cons cK (.inl rfl) .nil))).ok,rfl,odr rfl,bW rfl rfl rfl⟩
theorem He(P:ak):keepIn (fx P).K (.ref 998)=true:=rfl
noncomputable def rO:aq:=[(52,.loc),(38,.loc),(123,.loc),(62,.loc),(83,.loc),(30,.loc)]
noncomputable def K2:aF:=⟨4,4,[.nul,.nul],[]⟩
theorem NF(P:ak):br (fx P) rO K2 1005 Af GX:=⟨rfl,by kernel_rfl,(nL bD (nL mi (nL cK (nL jH (nL kQ (nL jO .nil)))))),odr rfl,rfl,rfl,rfl,rfl,(show aI (fx P).T rO _ from (.cons bD (.inl rfl) (.cons mi (.inl rfl) (.cons cK (.inl rfl) (.cons jH (.inl rfl) .nil))))).ok,rfl,odr rfl,bW rfl rfl rfl⟩
theorem J0(P:ak):keepIn (fx P).K (.ref 1005)=true:=rfl
noncomputable def qh:aq:=[(52,.loc),(191,.loc),(79,.loc),(27,.loc),(38,.loc),(123,.loc),(106,.loc),(190,.glo)]
noncomputable def Lx:aF:=⟨3,3,[.nul,.nul,.nul,.nul,.nul],[]⟩
theorem G9(P:ak):br (fx P) qh Lx 1012 Ba Ll:=⟨rfl,by kernel_rfl,(nL bD (nL kF (nL pD (nL UP (nL mi (nL cK (nL et (nG Ik .nil)))))))),odr rfl,rfl,rfl,rfl,rfl,(show aI (fx P).T qh _ from (.cons bD (.inl rfl) (.cons kF (.inl rfl) (.cons pD (.inl rfl) .nil)))).ok,rfl,odr rfl,bW rfl rfl rfl⟩
theorem Ph(P:ak):keepIn (fx P).K (.ref 1012)=true:=rfl
noncomputable def qu:aq:=[(52,.loc),(50,.loc)]
noncomputable def MP:aF:=⟨2,2,[],[]⟩
theorem Kt(P:ak):br (fx P) qu MP 895 Bh Iz:=⟨rfl,by kernel_rfl,(nL bD (nL su .nil)),odr rfl,rfl,rfl,rfl,rfl,(show aI (fx P).T qu _ from (.cons bD (.inl rfl) (.cons su (.inl rfl) .nil))).ok,rfl,odr rfl,bW rfl rfl rfl⟩
theorem IP(P:ak):keepIn (fx P).K (.ref 895)=true:=rfl
noncomputable def rg:aq:=[(52,.loc)]
noncomputable def HA:aF:=⟨1,1,[],[]⟩
theorem MX(P:ak):br (fx P) rg HA 1033 AW OZ:=⟨rfl,by kernel_rfl,(nL bD .nil),odr rfl,rfl,rfl,rfl,rfl,(show aI (fx P).T rg _ from (.cons bD (.inl rfl) .nil)).ok,rfl,odr rfl,bW rfl rfl rfl⟩
theorem PB(P:ak):keepIn (fx P).K (.ref 1033)=true:=rfl
noncomputable def qY:aq:=[(52,.loc),(93,.loc),(191,.loc)]
noncomputable def Jr:aF:=⟨3,3,[],[]⟩
theorem KT(P:ak):br (fx P) qY Jr 1040 AB Od:=⟨rfl,by kernel_rfl,(nL bD (nL jq (nL kF .nil))),odr rfl,rfl,rfl,rfl,rfl,(show aI (fx P).T qY _ from (.cons bD (.inl rfl) (.cons jq (.inl rfl) (.cons kF (.inl rfl) .nil)))).ok,rfl,odr rfl,bW rfl rfl rfl⟩
theorem HG(P:ak):keepIn (fx P).K (.ref 1040)=true:=rfl
noncomputable def uj:aq:=[(52,.loc),(93,.loc),(18,.loc),(235,.glo)]
noncomputable def OP:aF:=⟨2,2,[.nul,.nul],[]⟩
theorem Mf(P:ak):br (fx P) uj OP 1047 Fn Og:=⟨rfl,by kernel_rfl,(nL bD (nL jq (nL du (nG qQ .nil)))),odr rfl,rfl,rfl,rfl,rfl,(show aI (fx P).T uj _ from (.cons bD (.inl rfl) (.cons jq (.inl rfl) .nil))).ok,rfl,odr rfl,bW rfl rfl rfl⟩
theorem Oj(P:ak):keepIn (fx P).K (.ref 1047)=true:=rfl
noncomputable def nZ:aq:=[(52,.loc),(93,.cel),(42,.loc),(77,.loc),(83,.loc),(235,.glo)]
noncomputable def Pi:aF:=⟨3,3,[.nul,.nul,.nul],[1]⟩
theorem MD(P:ak):br (fx P) nZ Pi 1052 E9 Kv:=⟨rfl,by kernel_rfl,(nL bD (nC jq (nL iY (nL T77 (nL kQ (nG qQ .nil)))))),odr rfl,rfl,rfl,rfl,rfl,(show aI (fx P).T nZ _ from (.cons bD (.inl rfl) (.cons jq (.inr rfl) (.cons iY (.inl rfl) .nil)))).ok,rfl,odr rfl,bW rfl rfl rfl⟩
theorem Mb(P:ak):keepIn (fx P).K (.ref 1052)=true:=rfl
noncomputable def qw:aq:=[(52,.loc),(93,.loc),(191,.loc)]
noncomputable def Jl:aF:=⟨3,3,[],[]⟩
theorem Np(P:ak):br (fx P) qw Jl 1059 zC Hz:=⟨rfl,by kernel_rfl,(nL bD (nL jq (nL kF .nil))),odr rfl,rfl,rfl,rfl,rfl,(show aI (fx P).T qw _ from (.cons bD (.inl rfl) (.cons jq (.inl rfl) (.cons kF (.inl rfl) .nil)))).ok,rfl,odr rfl,bW rfl rfl rfl⟩
theorem Kj(P:ak):keepIn (fx P).K (.ref 1059)=true:=rfl
noncomputable def rp:aq:=[(52,.loc),(143,.loc)]
noncomputable def G5:aF:=⟨2,2,[],[]⟩
theorem Lg(P:ak):br (fx P) rp G5 312 AK Jw:=⟨rfl,by kernel_rfl,(nL bD (nL oC .nil)),odr rfl,rfl,rfl,rfl,rfl,(show aI (fx P).T rp _ from (.cons bD (.inl rfl) (.cons oC (.inl rfl) .nil))).ok,rfl,odr rfl,bW rfl rfl rfl⟩
theorem Ie(P:ak):keepIn (fx P).K (.ref 312)=true:=rfl
noncomputable def qi:aq:=[(52,.loc),(83,.loc),(223,.glo),(13,.glo)]
noncomputable def O6:aF:=⟨1,1,[.nul,.nul,.nul],[]⟩
theorem Jo(P:ak):br (fx P) qi O6 319 Bu NS:=⟨rfl,by kernel_rfl,(nL bD (nL kQ (nG Oy (nG gC .nil)))),odr rfl,rfl,rfl,rfl,rfl,(show aI (fx P).T qi _ from (.cons bD (.inl rfl) .nil)).ok,rfl,odr rfl,bW rfl rfl rfl⟩
theorem J3(P:ak):keepIn (fx P).K (.ref 319)=true:=rfl
noncomputable def oD:aq:=[(52,.loc),(56,.loc),(13,.glo)]
noncomputable def LB:aF:=⟨1,1,[.nul,.nul],[]⟩
theorem JN(P:ak):br (fx P) oD LB 324 Aj NL:=⟨rfl,by kernel_rfl,(nL bD (nL Ad (nG gC .nil))),odr rfl,rfl,rfl,rfl,rfl,(show aI (fx P).T oD _ from (.cons bD (.inl rfl) .nil)).ok,rfl,odr rfl,bW rfl rfl rfl⟩
theorem IN(P:ak):keepIn (fx P).K (.ref 324)=true:=rfl
noncomputable def rK:aq:=[(52,.loc),(123,.loc),(111,.loc),(83,.loc),(221,.glo)]
noncomputable def Nu:aF:=⟨3,3,[.nul,.nul],[]⟩
theorem Nc(P:ak):br (fx P) rK Nu 331 zW Mn:=⟨rfl,by kernel_rfl,(nL bD (nL cK (nL qm (nL kQ (nG NQ .nil))))),odr rfl,rfl,rfl,rfl,rfl,(show aI (fx P).T rK _ from (.cons bD (.inl rfl) (.cons cK (.inl rfl) (.cons qm (.inl rfl) .nil)))).ok,rfl,odr rfl,bW rfl rfl rfl⟩
theorem J7(P:ak):keepIn (fx P).K (.ref 331)=true:=rfl
noncomputable def rG:aq:=[(52,.loc),(123,.loc)]
noncomputable def NP:aF:=⟨2,2,[],[]⟩
theorem NN(P:ak):br (fx P) rG NP 291 Aw Jg:=⟨rfl,by kernel_rfl,(nL bD (nL cK .nil)),odr rfl,rfl,rfl,rfl,rfl,(show aI (fx P).T rG _ from (.cons bD (.inl rfl) (.cons cK (.inl rfl) .nil))).ok,rfl,odr rfl,bW rfl rfl rfl⟩
theorem K4(P:ak):keepIn (fx P).K (.ref 291)=true:=rfl
noncomputable def qy:aq:=[(52,.loc),(163,.loc)]
noncomputable def Nz:aF:=⟨2,2,[],[]⟩
theorem KW(P:ak):br (fx P) qy Nz 249 A9 Kn:=⟨rfl,by kernel_rfl,(nL bD (nL Cm .nil)),odr rfl,rfl,rfl,rfl,rfl,(show aI (fx P).T qy _ from (.cons bD (.inl rfl) (.cons Cm (.inl rfl) .nil))).ok,rfl,odr rfl,bW rfl rfl rfl⟩
theorem HT(P:ak):keepIn (fx P).K (.ref 249)=true:=rfl
noncomputable def rf:aq:=[(52,.loc),(42,.loc),(73,.loc),(83,.loc),(13,.glo),(221,.glo)]
noncomputable def M7:aF:=⟨2,2,[.nul,.nul,.nul,.nul],[]⟩
theorem JX(P:ak):br (fx P) rf M7 263 Bd Mx:=⟨rfl,by kernel_rfl,(nL bD (nL iY (nL T73 (nL kQ (nG gC (nG NQ .nil)))))),odr rfl,rfl,rfl,rfl,rfl,(show aI (fx P).T rf _ from (.cons bD (.inl rfl) (.cons iY (.inl rfl) .nil))).ok,rfl,odr rfl,bW rfl rfl rfl⟩
theorem Km(P:ak):keepIn (fx P).K (.ref 263)=true:=rfl
noncomputable def qB:aq:=[(52,.loc),(18,.loc)]
noncomputable def MF:aF:=⟨2,2,[],[]⟩
theorem Hw(P:ak):br (fx P) qB MF 820 zq Js:=⟨rfl,by kernel_rfl,(nL bD (nL du .nil)),odr rfl,rfl,rfl,rfl,rfl,(show aI (fx P).T qB _ from (.cons bD (.inl rfl) (.cons du (.inl rfl) .nil))).ok,rfl,odr rfl,bW rfl rfl rfl⟩
theorem Jv(P:ak):keepIn (fx P).K (.ref 820)=true:=rfl
noncomputable def qU:aq:=[(52,.loc),(42,.loc),(93,.loc),(13,.glo)]
noncomputable def Mi:aF:=⟨2,2,[.nul,.nul],[]⟩
theorem Kf(P:ak):br (fx P) qU Mi 827 zS MQ:=⟨rfl,by kernel_rfl,(nL bD (nL iY (nL jq (nG gC .nil)))),odr rfl,rfl,rfl,rfl,rfl,(show aI (fx P).T qU _ from (.cons bD (.inl rfl) (.cons iY (.inl rfl) .nil))).ok,rfl,odr rfl,bW rfl rfl rfl⟩
theorem OS(P:ak):keepIn (fx P).K (.ref 827)=true:=rfl
noncomputable def rR:aq:=[(52,.loc),(106,.loc),(181,.glo)]
noncomputable def N7:aF:=⟨2,2,[.nul],[]⟩
theorem L4(P:ak):br (fx P) rR N7 111 zH GU:=⟨rfl,by kernel_rfl,(nL bD (nL et (nG Hb .nil))),odr rfl,rfl,rfl,rfl,rfl,(show aI (fx P).T rR _ from (.cons bD (.inl rfl) (.cons et (.inl rfl) .nil))).ok,rfl,odr rfl,bW rfl rfl rfl⟩
theorem HZ(P:ak):keepIn (fx P).K (.ref 111)=true:=rfl
noncomputable def rE:aq:=[(52,.loc),(147,.loc),(57,.loc),(182,.glo)]
noncomputable def Pg:aF:=⟨2,3,[.int (.lit 0),.nul],[]⟩
theorem Mk(P:ak):br (fx P) rE Pg 36 Ac IR:=⟨rfl,by kernel_rfl,(nL bD (nL Dg (nL Ip (nG Hr .nil)))),odr rfl,rfl,rfl,rfl,rfl,(show aI (fx P).T rE _ from (.cons bD (.inl rfl) (.cons Dg (.inl rfl) (.cons Ip (.inl rfl) .nil)))).ok,rfl,odr rfl,dv2 rfl rfl rfl rfl rfl⟩
theorem AC(P:ak):keepIn (fx P).K (.ref 36)=true:=rfl
end
end Internal.L
section
open Internal.N Internal.L
local macro_rules | `(tactic| symm)=>`(tactic| repeat (first
 | with_reducible exact kK
 | with_reducible refine gI ?_ ?_ (by kernel_rfl)
 | with_reducible exact XQ (by kernel_rfl) _
 | ((with_reducible refine Fk ?_ _ _); first | exact .str (by kernel_rfl) | exact .int _ | exact .bool _ | exact .none)
 | with_reducible refine GN hT ?_ ?_ (by kernel_rfl) _
 | with_reducible refine Gh ?_ _ _
 | with_reducible exact WE (by assumption) (by kernel_rfl) _
 | with_reducible refine GJ ?_ _
 | with_reducible refine bd (jE hT (jX _)) ?_ ?_ (by kernel_rfl) _
 | ((with_reducible refine TA ?_); exact rfl)
 | with_reducible exact bf))
local macro_rules | `(tactic| left)=>`(tactic| refine im ?_ ?_ ?_ rfl (.inl rfl) rfl _)
namespace Internal.L
open Internal.N
noncomputable section
set_option genInjectivity false
set_option genSizeOfSpec false
set_option genSizeOf false
structure bc where
 f2:SV
 f3:SV
 f4:SV
 f5:SV
 f6:SV
 f7:SV
 f8:SV
 f9:SV
 f10:SV
 f11:SV
 f16:SV
 f17:SV
 f19:SV
 f20:SV
 f21:SV
 f22:SV
 f23:SV
 f24:SV
 f25:SV
 f27:SV
 f28:SV
 f29:SV
 f30:SV
 f31:SV
 f32:SV
 f33:SV
 f34:SV
 f35:SV
 f36:SV
 f37:SV
 f38:SV
 f39:SV
 f40:SV
 f41:SV
 f42:SV
 f43:SV
 f44:SV
 f45:SV
 f46:SV
 f47:SV
 f48:SV
 f49:SV
 f50:SV
 f51:SV
 f54:SV
 f55:SV
 f56:SV
 f57:SV
 f58:SV
 f59:SV
 f60:SV
 f61:SV
 f62:SV
 f63:SV
 f64:SV
 f65:SV
structure aw (P:ak) (d:Nat) (R:bc):Prop where
 o2:au (fx P) d wU R.f2 B2
 o3:au (fx P) d xw R.f3 B3
 o4:au (fx P) d xp R.f4 B4
 o5:au (fx P) d sG R.f5 B5
 o6:au (fx P) d pL R.f6 B6
 o7:au (fx P) d wW R.f7 B7
 o8:au (fx P) d w7 R.f8 B8
 o9:au (fx P) d gx R.f9 B9
 o10:au (fx P) d rz R.f10 Bw
 o11:au (fx P) d ql R.f11 AZ
 o16:au (fx P) d ra R.f16 AA
 o17:au (fx P) d oW R.f17 Av
 o19:au (fx P) d qj R.f19 zR
 o20:au (fx P) d qX R.f20 Ak
 o21:au (fx P) d qJ R.f21 zQ
 o22:au (fx P) d qC R.f22 Al
 o23:au (fx P) d qS R.f23 Ae
 o24:au (fx P) d qH R.f24 zG
 o25:au (fx P) d rH R.f25 z6
 o27:au (fx P) d rk R.f27 zo
 o28:au (fx P) d qt R.f28 AR
 o29:au (fx P) d ri R.f29 zO
 o30:au (fx P) d qW R.f30 Ao
 o31:au (fx P) d ru R.f31 Ai
 o32:au (fx P) d rM R.f32 z8
 o33:au (fx P) d qO R.f33 BB
 o34:au (fx P) d rS R.f34 zI
 o35:au (fx P) d qM R.f35 zX
 o36:au (fx P) d rm R.f36 zY
 o37:au (fx P) d rr R.f37 AT
 o38:au (fx P) d rB R.f38 AX
 o39:au (fx P) d om R.f39 zy
 o40:au (fx P) d rN R.f40 zE
 o41:au (fx P) d qo R.f41 AE
 o42:au (fx P) d qK R.f42 AY
 o43:au (fx P) d ry R.f43 Bf
 o44:au (fx P) d qe R.f44 As
 o45:au (fx P) d qL R.f45 An
 o46:au (fx P) d rD R.f46 A8
 o47:au (fx P) d rO R.f47 Af
 o48:au (fx P) d qh R.f48 Ba
 o49:au (fx P) d qu R.f49 Bh
 o50:au (fx P) d rg R.f50 AW
 o51:au (fx P) d qY R.f51 AB
 o54:au (fx P) d qw R.f54 zC
 o55:au (fx P) d rp R.f55 AK
 o56:au (fx P) d qi R.f56 Bu
 o57:au (fx P) d oD R.f57 Aj
 o58:au (fx P) d rK R.f58 zW
 o59:au (fx P) d rG R.f59 Aw
 o60:au (fx P) d qy R.f60 A9
 o61:au (fx P) d rf R.f61 Bd
 o62:au (fx P) d qB R.f62 zq
 o63:au (fx P) d qU R.f63 zS
 o64:au (fx P) d rR R.f64 zH
 o65:au (fx P) d rE R.f65 Ac
variable {P:ak} {d:Nat} {R:bc}
theorem fg2(h:aw P d R):aU (fx P) d r2 R.f2 1925:=⟨⟨wU,B2,D2,RE P,h.o2⟩,jx P,by kernel_rfl⟩
def c2(R:bc):ce:=eX r2 R.f2
theorem kC(h:aw P d R):cL (fx P) (d+2) (c2 R) (.ref 1925):=(cE hT hD (fg2 h)).more (Nat.le_succ _)
theorem fg3(h:aw P d R):aU (fx P) d r3 R.f3 1932:=⟨⟨xw,B3,D3,Q0 P,h.o3⟩,pi P,by kernel_rfl⟩
def c3(R:bc):ce:=eX r3 R.f3
theorem sW(h:aw P d R):cL (fx P) (d+2) (c3 R) (.ref 1932):=(cE hT hD (fg3 h)).more (Nat.le_succ _)
theorem fg4(h:aw P d R):aU (fx P) d r4 R.f4 1939:=⟨⟨xp,B4,D4,SP P,h.o4⟩,nu P,by kernel_rfl⟩
def c4(R:bc):ce:=eX r4 R.f4
theorem pZ(h:aw P d R):cL (fx P) (d+2) (c4 R) (.ref 1939):=(cE hT hD (fg4 h)).more (Nat.le_succ _)
theorem fg5(h:aw P d R):aU (fx P) d r5 R.f5 1944:=⟨⟨sG,B5,D5,P4 P,h.o5⟩,x5 P,by kernel_rfl⟩
def c5(R:bc):ce:=eX r5 R.f5
theorem E0(h:aw P d R):cL (fx P) (d+2) (c5 R) (.ref 1944):=(cE hT hD (fg5 h)).more (Nat.le_succ _)
theorem fg6(h:aw P d R):aU (fx P) d r6 R.f6 1949:=⟨⟨pL,B6,D6,QE P,h.o6⟩,ye P,by kernel_rfl⟩
def c6(R:bc):ce:=eX r6 R.f6
theorem Er(h:aw P d R):cL (fx P) (d+2) (c6 R) (.ref 1949):=(cE hT hD (fg6 h)).more (Nat.le_succ _)
theorem fg7(h:aw P d R):aU (fx P) d r7 R.f7 1956:=⟨⟨wW,B7,D7,Q2 P,h.o7⟩,zc P,by kernel_rfl⟩
def c7(R:bc):ce:=eX r7 R.f7
theorem Fp(h:aw P d R):cL (fx P) (d+2) (c7 R) (.ref 1956):=(cE hT hD (fg7 h)).more (Nat.le_succ _)
theorem fg8(h:aw P d R):aU (fx P) d r8 R.f8 1963:=⟨⟨w7,B8,D8,RC P,h.o8⟩,yL P,by kernel_rfl⟩
def c8(R:bc):ce:=eX r8 R.f8
theorem Fq(h:aw P d R):cL (fx P) (d+2) (c8 R) (.ref 1963):=(cE hT hD (fg8 h)).more (Nat.le_succ _)
theorem fg9(h:aw P d R):aU (fx P) d r9 R.f9 1968:=⟨⟨gx,B9,D9,EG P,h.o9⟩,mV P,by kernel_rfl⟩
def c9(R:bc):ce:=eX r9 R.f9
theorem sO(h:aw P d R):cL (fx P) (d+2) (c9 R) (.ref 1968):=(cE hT hD (fg9 h)).more (Nat.le_succ _)
theorem Zy(h:aw P d R):aU (fx P) d JJ R.f10 1975:=⟨⟨rz,Bw,On,OJ P,h.o10⟩,Bk P,by kernel_rfl⟩
def EY(R:bc):ce:=eX JJ R.f10
theorem Nw(h:aw P d R):cL (fx P) (d+2) (EY R) (.ref 1975):=(cE hT hD (Zy h)).more (Nat.le_succ _)
theorem aag(h:aw P d R):aU (fx P) d Lv R.f11 1982:=⟨⟨ql,AZ,Jm,Ox P,h.o11⟩,Bg P,by kernel_rfl⟩
def Ug(R:bc):ce:=eX Lv R.f11
theorem J8(h:aw P d R):cL (fx P) (d+2) (Ug R) (.ref 1982):=(cE hT hD (aag h)).more (Nat.le_succ _)
theorem Xm(h:aw P d R):aU (fx P) d JD R.f16 1875:=⟨⟨ra,AA,LN,Lp P,h.o16⟩,zu P,by kernel_rfl⟩
def U9(R:bc):ce:=eX JD R.f16
theorem JP(h:aw P d R):cL (fx P) (d+2) (U9 R) (.ref 1875):=(cE hT hD (Xm h)).more (Nat.le_succ _)
theorem Yc(h:aw P d R):aU (fx P) d Ic R.f17 1739:=⟨⟨oW,Av,Pu,K6 P,h.o17⟩,zJ P,by kernel_rfl⟩
def UA(R:bc):ce:=eX Ic R.f17
theorem Pn(h:aw P d R):cL (fx P) (d+2) (UA R) (.ref 1739):=(cE hT hD (Yc h)).more (Nat.le_succ _)
theorem WR(h:aw P d R):aU (fx P) d PA R.f19 771:=⟨⟨qj,zR,LH,Md P,h.o19⟩,tC P,by kernel_rfl⟩
def Ng(R:bc):ce:=eX PA R.f19
theorem Ah(h:aw P d R):cL (fx P) (d+2) (Ng R) (.ref 771):=(cE hT hD (WR h)).more (Nat.le_succ _)
theorem WS(h:aw P d R):aU (fx P) d Ob R.f20 778:=⟨⟨qX,Ak,Hi,G8 P,h.o20⟩,vY P,by kernel_rfl⟩
def K5(R:bc):ce:=eX Ob R.f20
theorem zK(h:aw P d R):cL (fx P) (d+2) (K5 R) (.ref 778):=(cE hT hD (WS h)).more (Nat.le_succ _)
theorem ZL(h:aw P d R):aU (fx P) d Lq R.f21 785:=⟨⟨qJ,zQ,Nf,Ou P,h.o21⟩,mG P,by kernel_rfl⟩
def Ay(R:bc):ce:=eX Lq R.f21
theorem pd(h:aw P d R):cL (fx P) (d+2) (Ay R) (.ref 785):=(cE hT hD (ZL h)).more (Nat.le_succ _)
theorem Zx(h:aw P d R):aU (fx P) d O5 R.f22 764:=⟨⟨qC,Al,M8,H0 P,h.o22⟩,vr P,by kernel_rfl⟩
def J9(R:bc):ce:=eX O5 R.f22
theorem Bp(h:aw P d R):cL (fx P) (d+2) (J9 R) (.ref 764):=(cE hT hD (Zx h)).more (Nat.le_succ _)
theorem aaq(h:aw P d R):aU (fx P) d It R.f23 806:=⟨⟨qS,Ae,IE,LZ P,h.o23⟩,uA P,by kernel_rfl⟩
def Hv(R:bc):ce:=eX It R.f23
theorem zN(h:aw P d R):cL (fx P) (d+2) (Hv R) (.ref 806):=(cE hT hD (aaq h)).more (Nat.le_succ _)
theorem WX(h:aw P d R):aU (fx P) d I7 R.f24 626:=⟨⟨qH,zG,Ol,Mv P,h.o24⟩,AU P,by kernel_rfl⟩
def U8(R:bc):ce:=eX I7 R.f24
theorem L8(h:aw P d R):cL (fx P) (d+2) (U8 R) (.ref 626):=(cE hT hD (WX h)).more (Nat.le_succ _)
theorem Z9(h:aw P d R):aU (fx P) d LD R.f25 616:=⟨⟨rH,z6,JL,G3 P,h.o25⟩,Bx P,by kernel_rfl⟩
def U3(R:bc):ce:=eX LD R.f25
theorem Lu(h:aw P d R):cL (fx P) (d+2) (U3 R) (.ref 616):=(cE hT hD (Z9 h)).more (Nat.le_succ _)
theorem ZY(h:aw P d R):aU (fx P) d Nd R.f27 124:=⟨⟨rk,zo,HU,OR P,h.o27⟩,pA P,by kernel_rfl⟩
def Ex(R:bc):ce:=eX Nd R.f27
theorem wa(h:aw P d R):cL (fx P) (d+2) (Ex R) (.ref 124):=(cE hT hD (ZY h)).more (Nat.le_succ _)
theorem YQ(h:aw P d R):aU (fx P) d Nr R.f28 1861:=⟨⟨qt,AR,Jt,OY P,h.o28⟩,K7 P,by kernel_rfl⟩
theorem Vp(h:aw P d R):aU (fx P) d Ht R.f29 1890:=⟨⟨ri,zO,K9,Kz P,h.o29⟩,Ja P,by kernel_rfl⟩
theorem Wm(h:aw P d R):aU (fx P) d JS R.f30 1897:=⟨⟨qW,Ao,Jf,Hl P,h.o30⟩,Ib P,by kernel_rfl⟩
theorem VL(h:aw P d R):aU (fx P) d Ma R.f31 1753:=⟨⟨ru,Ai,MJ,ME P,h.o31⟩,HS P,by kernel_rfl⟩
theorem WN(h:aw P d R):aU (fx P) d Jh R.f32 1788:=⟨⟨rM,z8,Iy,Mg P,h.o32⟩,Pz P,by kernel_rfl⟩
theorem Xd(h:aw P d R):aU (fx P) d Pr R.f33 1795:=⟨⟨qO,BB,HE,Ps P,h.o33⟩,OL P,by kernel_rfl⟩
theorem ZS(h:aw P d R):aU (fx P) d HM R.f34 1809:=⟨⟨rS,zI,Ld,NI P,h.o34⟩,LO P,by kernel_rfl⟩
theorem V6(h:aw P d R):aU (fx P) d Nk R.f35 473:=⟨⟨qM,zX,LK,JF P,h.o35⟩,Nv P,by kernel_rfl⟩
theorem Zm(h:aw P d R):aU (fx P) d Mq R.f36 916:=⟨⟨rm,zY,Lz,O9 P,h.o36⟩,Il P,by kernel_rfl⟩
theorem W5(h:aw P d R):aU (fx P) d NU R.f37 923:=⟨⟨rr,AT,LI,IU P,h.o37⟩,Li P,by kernel_rfl⟩
theorem aaz(h:aw P d R):aU (fx P) d LP R.f38 944:=⟨⟨rB,AX,OH,Ij P,h.o38⟩,OU P,by kernel_rfl⟩
theorem XF(h:aw P d R):aU (fx P) d MA R.f39 949:=⟨⟨om,zy,JO,L6 P,h.o39⟩,JA P,by kernel_rfl⟩
theorem X9(h:aw P d R):aU (fx P) d OK R.f40 956:=⟨⟨rN,zE,I8,KJ P,h.o40⟩,JR P,by kernel_rfl⟩
theorem W2(h:aw P d R):aU (fx P) d Pd R.f41 963:=⟨⟨qo,AE,M2,OC P,h.o41⟩,Jb P,by kernel_rfl⟩
theorem Vn(h:aw P d R):aU (fx P) d JZ R.f42 970:=⟨⟨qK,AY,N4,Nn P,h.o42⟩,Hd P,by kernel_rfl⟩
theorem ZJ(h:aw P d R):aU (fx P) d G1 R.f43 977:=⟨⟨ry,Bf,Ju,Ks P,h.o43⟩,Oc P,by kernel_rfl⟩
theorem Yh(h:aw P d R):aU (fx P) d LF R.f44 984:=⟨⟨qe,As,Mw,HF P,h.o44⟩,Kg P,by kernel_rfl⟩
theorem YA(h:aw P d R):aU (fx P) d LX R.f45 991:=⟨⟨qL,An,M4,HQ P,h.o45⟩,NY P,by kernel_rfl⟩
theorem Zr(h:aw P d R):aU (fx P) d M6 R.f46 998:=⟨⟨rD,A8,Nl,IT P,h.o46⟩,He P,by kernel_rfl⟩
theorem Vw(h:aw P d R):aU (fx P) d K2 R.f47 1005:=⟨⟨rO,Af,GX,NF P,h.o47⟩,J0 P,by kernel_rfl⟩
theorem ZB(h:aw P d R):aU (fx P) d Lx R.f48 1012:=⟨⟨qh,Ba,Ll,G9 P,h.o48⟩,Ph P,by kernel_rfl⟩
theorem Xw(h:aw P d R):aU (fx P) d MP R.f49 895:=⟨⟨qu,Bh,Iz,Kt P,h.o49⟩,IP P,by kernel_rfl⟩
theorem ZI(h:aw P d R):aU (fx P) d HA R.f50 1033:=⟨⟨rg,AW,OZ,MX P,h.o50⟩,PB P,by kernel_rfl⟩
theorem Yq(h:aw P d R):aU (fx P) d Jr R.f51 1040:=⟨⟨qY,AB,Od,KT P,h.o51⟩,HG P,by kernel_rfl⟩
theorem Xi(h:aw P d R):aU (fx P) d Jl R.f54 1059:=⟨⟨qw,zC,Hz,Np P,h.o54⟩,Kj P,by kernel_rfl⟩
theorem Xf(h:aw P d R):aU (fx P) d G5 R.f55 312:=⟨⟨rp,AK,Jw,Lg P,h.o55⟩,Ie P,by kernel_rfl⟩
theorem aad(h:aw P d R):aU (fx P) d O6 R.f56 319:=⟨⟨qi,Bu,NS,Jo P,h.o56⟩,J3 P,by kernel_rfl⟩
theorem Y2(h:aw P d R):aU (fx P) d LB R.f57 324:=⟨⟨oD,Aj,NL,JN P,h.o57⟩,IN P,by kernel_rfl⟩
theorem Y0(h:aw P d R):aU (fx P) d Nu R.f58 331:=⟨⟨rK,zW,Mn,Nc P,h.o58⟩,J7 P,by kernel_rfl⟩
theorem V8(h:aw P d R):aU (fx P) d NP R.f59 291:=⟨⟨rG,Aw,Jg,NN P,h.o59⟩,K4 P,by kernel_rfl⟩
theorem WZ(h:aw P d R):aU (fx P) d Nz R.f60 249:=⟨⟨qy,A9,Kn,KW P,h.o60⟩,HT P,by kernel_rfl⟩
theorem W7(h:aw P d R):aU (fx P) d M7 R.f61 263:=⟨⟨rf,Bd,Mx,JX P,h.o61⟩,Km P,by kernel_rfl⟩
theorem VT(h:aw P d R):aU (fx P) d MF R.f62 820:=⟨⟨qB,zq,Js,Hw P,h.o62⟩,Jv P,by kernel_rfl⟩
theorem V4(h:aw P d R):aU (fx P) d Mi R.f63 827:=⟨⟨qU,zS,MQ,Kf P,h.o63⟩,OS P,by kernel_rfl⟩
theorem aaC(h:aw P d R):aU (fx P) d N7 R.f64 111:=⟨⟨rR,zH,GU,L4 P,h.o64⟩,HZ P,by kernel_rfl⟩
theorem WW(h:aw P d R):aU (fx P) d Pg R.f65 36:=⟨⟨rE,Ac,IR,Mk P,h.o65⟩,AC P,by kernel_rfl⟩
def UG(R:bc):ce:=eX Pg R.f65
theorem Pm(h:aw P d R):cL (fx P) (d+2) (UG R) (.ref 36):=(cE hT hD (WW h)).more (Nat.le_succ _)
def n0(R:bc):ce:=ji 0 Nr R.f28
theorem yF(h:aw P d R):cL (fx P) (d+2) (n0 R) (.ref 1864):=eV hT hD ⟨rfl,by kernel_rfl,by kernel_rfl,YQ h⟩
theorem o0(P:ak):keepIn (fx P).K (.ref 1864)=true:=by kernel_rfl
def n1(R:bc):ce:=ji 1 Ht R.f29
theorem WC(h:aw P d R):cL (fx P) (d+2) (n1 R) (.ref 1907):=eV hT hD ⟨rfl,by kernel_rfl,by kernel_rfl,Vp h⟩
theorem OQ(P:ak):keepIn (fx P).K (.ref 1907)=true:=by kernel_rfl
def n2(R:bc):ce:=ji 2 Ma R.f31
theorem ZD(h:aw P d R):cL (fx P) (d+2) (n2 R) (.ref 1840):=eV hT hD ⟨rfl,by kernel_rfl,by kernel_rfl,VL h⟩
theorem LJ(P:ak):keepIn (fx P).K (.ref 1840)=true:=by kernel_rfl
def n3(R:bc):ce:=ji 3 Nk R.f35
theorem aal(h:aw P d R):cL (fx P) (d+2) (n3 R) (.ref 579):=eV hT hD ⟨rfl,by kernel_rfl,by kernel_rfl,V6 h⟩
theorem LL(P:ak):keepIn (fx P).K (.ref 579)=true:=by kernel_rfl
def n4(R:bc):ce:=ji 4 Mq R.f36
theorem ZW(h:aw P d R):cL (fx P) (d+2) (n4 R) (.ref 1015):=eV hT hD ⟨rfl,by kernel_rfl,by kernel_rfl,Zm h⟩
theorem JH(P:ak):keepIn (fx P).K (.ref 1015)=true:=by kernel_rfl
def n5(R:bc):ce:=ji 5 MP R.f49
theorem Wj(h:aw P d R):cL (fx P) (d+2) (n5 R) (.ref 898):=eV hT hD ⟨rfl,by kernel_rfl,by kernel_rfl,Xw h⟩
theorem NM(P:ak):keepIn (fx P).K (.ref 898)=true:=by kernel_rfl
def n6(R:bc):ce:=ji 6 HA R.f50
theorem Yk(h:aw P d R):cL (fx P) (d+2) (n6 R) (.ref 1062):=eV hT hD ⟨rfl,by kernel_rfl,by kernel_rfl,ZI h⟩
theorem HL(P:ak):keepIn (fx P).K (.ref 1062)=true:=by kernel_rfl
def n7(R:bc):ce:=ji 7 G5 R.f55
theorem Zq(h:aw P d R):cL (fx P) (d+2) (n7 R) (.ref 334):=eV hT hD ⟨rfl,by kernel_rfl,by kernel_rfl,Xf h⟩
theorem Mz(P:ak):keepIn (fx P).K (.ref 334)=true:=by kernel_rfl
def n8(R:bc):ce:=ji 8 NP R.f59
theorem Y1(h:aw P d R):cL (fx P) (d+2) (n8 R) (.ref 294):=eV hT hD ⟨rfl,by kernel_rfl,by kernel_rfl,V8 h⟩
theorem La(P:ak):keepIn (fx P).K (.ref 294)=true:=by kernel_rfl
def n9(R:bc):ce:=ji 9 Nz R.f60
theorem Iw(h:aw P d R):cL (fx P) (d+2) (n9 R) (.ref 273):=eV hT hD ⟨rfl,by kernel_rfl,by kernel_rfl,WZ h⟩
theorem zx(P:ak):keepIn (fx P).K (.ref 273)=true:=by kernel_rfl
def Uq(R:bc):ce:=ji 10 MF R.f62
theorem Qe(h:aw P d R):cL (fx P) (d+2) (Uq R) (.ref 830):=eV hT hD ⟨rfl,by kernel_rfl,by kernel_rfl,VT h⟩
theorem GQ(P:ak):keepIn (fx P).K (.ref 830)=true:=by kernel_rfl
def nX(R:bc):ce:=Ev 114 N7 R.f64
theorem YK(h:aw P d R):cL (fx P) (d+2) (nX R) (.ref 114):=BF hT hD ⟨oH P,by kernel_rfl,aaC h⟩
noncomputable def db:nK:=[[],[(141,0,JS)],[(196,1,Jh),(171,2,Pr),(197,3,HM)],[],[(166,4,NU),(232,5,LP),(121,6,MA),(167,7,OK),(168,8,Pd),(122,9,JZ),(176,10,G1),(177,11,LF),(118,12,LX),(189,13,M6),(80,14,K2),(178,15,Lx)],[],[(165,16,Jr),(179,17,Jl)],[(149,18,O6),(173,19,LB),(180,20,Nu)],[],[(59,21,M7)],[(47,22,Mi)]]
def aaa(l:List SV):Nat->SV:=@List.rec SV (fun q0=>Nat->SV) (fun q0=>bw) (fun g q0 ih k=>@Nat.rec (fun q0=>SV) g (fun k q0=>ih k) k) l
def ch(R:bc):Nat->SV:=aaa [R.f30,R.f32,R.f33,R.f34,R.f37,R.f38,R.f39,R.f40,R.f41,R.f42,R.f43,R.f44,R.f45,R.f46,R.f47,R.f48,R.f51,R.f54,R.f56,R.f57,R.f58,R.f61,R.f63]
theorem bz(h:aw P d R):uU (fx P) (d+1) db (ch R):=uU.of (show nU (fx P) (d+1) (ch R) CT db from (.cons .nil (.cons (.cons BZ (by kernel_rfl) (by kernel_rfl) ((Wm h).more (Nat.le_succ _)) .nil) (.cons (.cons DT (by kernel_rfl) (by kernel_rfl) ((WN h).more (Nat.le_succ _)) (.cons KU (by kernel_rfl) (by kernel_rfl) ((Xd h).more (Nat.le_succ _)) (.cons yi (by kernel_rfl) (by kernel_rfl) ((ZS h).more (Nat.le_succ _)) .nil))) (.cons .nil (.cons (.cons CE (by kernel_rfl) (by kernel_rfl) ((W5 h).more (Nat.le_succ _)) (.cons oh (by kernel_rfl) (by kernel_rfl) ((aaz h).more (Nat.le_succ _)) (.cons x4 (by kernel_rfl) (by kernel_rfl) ((XF h).more (Nat.le_succ _)) (.cons IH (by kernel_rfl) (by kernel_rfl) ((X9 h).more (Nat.le_succ _)) (.cons Lh (by kernel_rfl) (by kernel_rfl) ((W2 h).more (Nat.le_succ _)) (.cons Ii (by kernel_rfl) (by kernel_rfl) ((Vn h).more (Nat.le_succ _)) (.cons Ly (by kernel_rfl) (by kernel_rfl) ((ZJ h).more (Nat.le_succ _)) (.cons Iv (by kernel_rfl) (by kernel_rfl) ((Yh h).more (Nat.le_succ _)) (.cons K0 (by kernel_rfl) (by kernel_rfl) ((YA h).more (Nat.le_succ _)) (.cons CI (by kernel_rfl) (by kernel_rfl) ((Zr h).more (Nat.le_succ _)) (.cons MY (by kernel_rfl) (by kernel_rfl) ((Vw h).more (Nat.le_succ _)) (.cons JM (by kernel_rfl) (by kernel_rfl) ((ZB h).more (Nat.le_succ _)) .nil)))))))))))) (.cons .nil (.cons (.cons Po (by kernel_rfl) (by kernel_rfl) ((Yq h).more (Nat.le_succ _)) (.cons IX (by kernel_rfl) (by kernel_rfl) ((Xi h).more (Nat.le_succ _)) .nil)) (.cons (.cons Nx (by kernel_rfl) (by kernel_rfl) ((aad h).more (Nat.le_succ _)) (.cons Mc (by kernel_rfl) (by kernel_rfl) ((Y2 h).more (Nat.le_succ _)) (.cons CR (by kernel_rfl) (by kernel_rfl) ((Y0 h).more (Nat.le_succ _)) .nil))) (.cons .nil (.cons (.cons Jj (by kernel_rfl) (by kernel_rfl) ((W7 h).more (Nat.le_succ _)) .nil) (.cons (.cons Ut (by kernel_rfl) (by kernel_rfl) ((V4 h).more (Nat.le_succ _)) .nil) .nil))))))))))))
def g2(R:bc):SV:=wR
theorem zU:au (fx P) (d+2) wU (g2 R) B2:=by
 have hs:aA (fx P) wU:=⟨hT,odr rfl⟩
 unfold g2
 exact FY hT hs mf iY kQ (vt rfl mf _ _ _ _) (iK 0 _ _) (lS yU (vt rfl mf _ _ _ _) (Ck rfl iY _) (fun a b c h q0 q0 q0=>h) _) (lS Jz (vt rfl mf _ _ _ _) (Ck rfl iY _) (fun a b c h h2 q0 q0=>⟨h,h2⟩) _)
  (lS yU (lS WK (lS Mt (ve rfl mf _ _ _ _) (iK 39373 _ _) (fun a b c q0 q0 h h2=>⟨h,h2⟩) _) (iK 7 _ _) (fun q0 q0 q0 q0 q0 q0 q0=>trivial) _) (iK 2147483647 _ _) (fun q0 q0 q0 q0 q0 q0 q0=>by decide) _)
  (lS yU (lS Jz (lS yU (lS Mt (ve rfl mf _ _ _ _) (ve rfl mf _ _ _ _) (fun a b c q0 q0 h h2=>⟨h,h2⟩) _) (iK 2147483629 _ _) (fun q0 q0 q0 q0 q0 q0 q0=>by decide) _) (iK 32 _ _) (fun q0 q0 q0 q0 q0 q0 q0=>by decide) _) (Ck rfl iY _) (fun a b c h q0 q0 q0=>h) _)
  rfl rfl rfl rfl _ _ _ _ _ _ _ _ _ _ _ _ _ _ _ _ _
def g3(R:bc):SV:=(bC (aP (ah 1) (aT (c2 R) (af (ah 0) (af (aT jG (af (ah 1) aj)) aj)))))
theorem UD(h:aw P d R):au (fx P) (d+2) xw (g3 R) B3:=by
 have hs:aA (fx P) xw:=⟨hT,odr rfl⟩
 unfold g3
 refine aW ?_ _
 symm
 refine ay (i:=2) rfl kI (fX P) (kC h) ?_ (ag am (ag eN ao)) (.inl (jx P)) _ _
 symm
 refine ay (i:=3) rfl gC (eP P) fM ?_ (ag am ao) (.inr (.inl ⟨_,rfl⟩)) _ _
 symm
def g4(R:bc):SV:=(aB (bt 0) (aT (n2 R) (af (aT (n1 R) aj) (af gW (af (aT (Uq R) (af (bb aj) aj)) (af (aM 9) aj))))) (kh (bt 1) (aT tI (af (aM 4) aj)) (bV (bO db (ch R) (aH (ah 0) 175) 149 aj) aC) (bC (ah 0))))
theorem ok4(h:aw P d R):au (fx P) (d+2) xp (g4 R) B4:=by
 have hs:aA (fx P) xp:=⟨hT,odr rfl⟩
 unfold g4
 left
 symm
 refine ay (i:=2) rfl IA (Cz P) (ZD h) ?_ (ag eN (ag xn (ag eN (ag aG ao)))) (.inl (LJ P)) _ _
 symm
 refine ay (i:=3) rfl UY (F4 P) (WC h) ?_ ao (.inl (OQ P)) _ _
 symm
 exact dH _
 symm
 refine ay (i:=4) rfl Im (Dw P) (Qe h) ?_ (ag gr ao) (.inl (GQ P)) _ _
 symm
 refine fH ?_ ?_ ?_ ?_ rfl _
 symm
 refine ay (i:=5) rfl AQ (rL P) mx ?_ (ag aG ao) (.inr (.inr ⟨_,rfl⟩)) _ _
 symm
 refine bg ?_ ?_ rfl _
 refine bo hT hD (bz h) ?_ ?_ Nx rfl ao rfl (lsp rfl)
 refine ax hT ?_ jJ (gj P) rfl _
 symm
 refine aW ?_ _
 symm
def g5(R:bc):SV:=(bX (hW (aP (ah 0) (ar 114))) (aB (em (aP (ah 0) (ar 140)) (ah 1)) (aD (af (ar 92) (af (ar 250) aj))) oZ) aC (aB (OO 3) (gq [0,0] (aP (ah 0) (ar 107)) (jU 1 18) (aY bI (aP (gc 1 18) (aM 1)) (ar 59)) (gc 1 18)) (bX (aY ej (ib 3) (bb aj)) (aB (em (ah 0) (ar 107)) (gq [0,0,5] (aP (ah 0) (ar 107)) (jU 1 18) (aY ej (gc 1 18) (aP (ib 2) (aM 0))) (gc 1 18)) (aB (em (aP (ah 0) (ar 140)) (aP (aP (ib 3) (aM 0)) (aM 0))) (aD (af (ar 174) (af (ah 2) (af (bj (.bool true)) aj)))) aC)) (bX (aY xr (aT jG (af (aP (ah 0) (ar 36)) aj)) (aP (ah 0) (ar 50))) (aB (em (ah 0) (ar 36)) (dp (dW fF) (aP (ah 0) (ar 36)) (bb (af (ah 2) aj))) aC) (aB (em (ah 0) (ar 107)) (dp (dW fF) (aP (ah 0) (ar 107)) (bb (af (aD (af (ah 1) (af (ar 53) (af (ah 2) aj)))) aj))) oZ) aC) (aB (em (aP (ah 0) (ar 140)) (ah 1)) (aD (af (ar 54) aj)) aC))))
theorem ok5(h:aw P d R):au (fx P) (d+2) sG (g5 R) B5:=by
 have hs:aA (fx P) sG:=⟨hT,odr rfl⟩
 unfold g5
 refine ba ?_ ?_ ?_ ?_ _
 refine dE ?_ rfl
 symm
 left
 refine cw hT ?_ ?_ _
 symm
 exact lV _
 symm
 refine u7 (j:=3) rfl nT _ ?_ ?_ ?_ _
 exact AM rfl nT _
 refine dS (vs':=[(5,.blk),(18,.blk)]) ?_ _
 refine dU.mk (x:=fx P) (vs:=sG) (vs':=[(5,.blk),(18,.blk)]) (sl:=[0,0]) hT hD ?_ ?_ ?_ ?_ rfl (.blk T5 (.blk du .nil)) (odr rfl) rfl
 symm
 exact eA hT rfl du _
 refine gT ?_
 symm
 exact cS rfl du _
 symm
 exact cS rfl du _
 refine ba ?_ ?_ ?_ ?_ _
 refine bd (cz hT) ?_ ?_ rfl _
 exact dN rfl nT _
 symm
 refine lY ?_ ?_ ?_ (fun q0 q0=>rfl) rfl rfl _
 refine cw hT ?_ ?_ _
 symm
 refine dS (vs':=[(5,.blk),(18,.blk),(134,.cel)]) ?_ _
 refine dU.mk (x:=fx P) (vs:=sG) (vs':=[(5,.blk),(18,.blk),(134,.cel)]) (sl:=[0,0,5]) hT hD ?_ ?_ ?_ ?_ rfl (.blk T5 (.blk du (.cel (j:=3) nT rfl .nil))) (odr rfl) rfl
 symm
 exact eA hT rfl du _
 refine gT ?_
 refine bd (cz hT) ?_ ?_ rfl _
 exact cS rfl du _
 symm
 exact dN rfl nT _
 symm
 exact cS rfl du _
 left
 refine cw hT ?_ ?_ _
 symm
 exact dN rfl nT _
 symm
 refine ba ?_ ?_ ?_ ?_ _
 refine bd mO ?_ ?_ rfl _
 refine ay (i:=4) rfl gC (eP P) fM ?_ (ag bQ ao) (.inr (.inl ⟨_,rfl⟩)) _ _
 symm
 left
 refine cw hT ?_ ?_ _
 symm
 refine bJ (cj (cG P)) ?_ ?_ _
 symm
 left
 refine cw hT ?_ ?_ _
 symm
 refine bJ (cj (cG P)) ?_ ?_ _
 symm
 exact lV _
 symm
 left
 refine cw hT ?_ ?_ _
 symm
def g6(R:bc):SV:=(aB (OO 3) (gq [0,0] (aP (ah 0) (ar 107)) (jU 1 18) (aY bI (aP (gc 1 18) (aM 1)) (ar 53)) (gc 1 18)) (bX (e7 (aY bI (aP (ah 0) (ar 36)) (bb aj)) (e7 (aY bI (ib 3) (bb aj)) (e7 (jY (hW (aP (ah 0) (ar 114)))) iU))) (aB (em (ah 0) (ar 107)) (dp (dW fF) (aP (ah 0) (ar 107)) (bb (af (aD (af (ah 1) (af (ar 59) (af (bj .none) aj)))) aj))) oZ) aC (aB (bt 2) (dp (dW fF) (aP (ah 0) (ar 36)) (gq [0,0] (ib 3) (jU 1 127) oG (aP (gc 1 127) (aM 2)))) (aB (em (aP (ah 0) (ar 140)) (ah 1)) (gV (aY ej (ah 2) (bb aj)) (aD (af (ar 174) (af (aP (ah 2) (aM 0)) (af (bj (.bool true)) aj)))) (aD (af (ar 174) (af (bj .none) (af (bj (.bool false)) aj))))) (bX (aY ej (ib 3) (bb aj)) (aB (em (ah 0) (ar 107)) (gq [0,0,5] (aP (ah 0) (ar 107)) (jU 1 15) (aY ej (gc 1 15) (aP (ib 2) (aM 0))) (gc 1 15)) (aB (em (aP (ah 0) (ar 140)) (aP (aP (ib 3) (aM 0)) (aM 0))) (aD (af (ar 54) aj)) aC)) aC (aB (em (ah 0) (ar 36)) (rU (ah 2) (aM 1) (dp pf (dp (dW fF) (aM 1) (aT jG (af (aP (ah 0) (ar 36)) aj))) (aT O8 (af (gJ bI (ib 3) (bb aj)) aj)))) aC))))))
theorem ok6(h:aw P d R):au (fx P) (d+2) pL (g6 R) B6:=by
 have hs:aA (fx P) pL:=⟨hT,odr rfl⟩
 unfold g6
 refine u7 (j:=3) rfl kH _ ?_ ?_ ?_ _
 exact AM rfl kH _
 refine dS (vs':=[(5,.blk),(18,.blk)]) ?_ _
 refine dU.mk (x:=fx P) (vs:=pL) (vs':=[(5,.blk),(18,.blk)]) (sl:=[0,0]) hT hD ?_ ?_ ?_ ?_ rfl (.blk T5 (.blk du .nil)) (odr rfl) rfl
 symm
 exact eA hT rfl du _
 refine gT ?_
 symm
 exact cS rfl du _
 symm
 exact cS rfl du _
 refine ba ?_ ?_ ?_ ?_ _
 refine cM ?_ ?_
 symm
 refine cM ?_ ?_
 symm
 exact dN rfl kH _
 symm
 refine cM ?_ ?_
 refine fJ ?_ _
 refine dE ?_ rfl
 symm
 exact fh _
 left
 refine cw hT ?_ ?_ _
 symm
 refine bJ (cj (cG P)) ?_ ?_ _
 symm
 exact lV _
 symm
 left
 symm
 refine bJ (cj (cG P)) ?_ ?_ _
 symm
 refine dS (vs':=[(5,.blk),(127,.blk)]) ?_ _
 refine dU.mk (x:=fx P) (vs:=pL) (vs':=[(5,.blk),(127,.blk)]) (sl:=[0,0]) hT hD ?_ ?_ ?_ ?_ rfl (.blk T5 (.blk qx .nil)) (odr rfl) rfl
 exact dN rfl kH _
 exact eA hT rfl qx _
 exact jC
 symm
 exact cS rfl qx _
 symm
 left
 refine cw hT ?_ ?_ _
 symm
 refine dD ?_ ?_ ?_ _
 refine bd (cz hT) ?_ ?_ rfl _
 symm
 refine ba ?_ ?_ ?_ ?_ _
 refine bd (cz hT) ?_ ?_ rfl _
 exact dN rfl kH _
 symm
 refine lY ?_ ?_ ?_ (fun q0 q0=>rfl) rfl rfl _
 refine cw hT ?_ ?_ _
 symm
 refine dS (vs':=[(5,.blk),(15,.blk),(155,.cel)]) ?_ _
 refine dU.mk (x:=fx P) (vs:=pL) (vs':=[(5,.blk),(15,.blk),(155,.cel)]) (sl:=[0,0,5]) hT hD ?_ ?_ ?_ ?_ rfl (.blk T5 (.blk jZ (.cel (j:=3) kH rfl .nil))) (odr rfl) rfl
 symm
 exact eA hT rfl jZ _
 refine gT ?_
 refine bd (cz hT) ?_ ?_ rfl _
 exact cS rfl jZ _
 symm
 exact dN rfl kH _
 symm
 exact cS rfl jZ _
 left
 refine cw hT ?_ ?_ _
 symm
 exact dN rfl kH _
 symm
 left
 refine cw hT ?_ ?_ _
 symm
 refine kO ?_ ?_ ?_ _ _
 symm
 refine eJ.some ?_
 symm
 refine eJ.some ?_
 refine bJ ?_ ?_ ?_ _
 exact lG
 refine bJ (cj (cG P)) ?_ ?_ _
 symm
 refine ay (i:=4) rfl gC (eP P) fM ?_ (ag bQ ao) (.inr (.inl ⟨_,rfl⟩)) _ _
 symm
 refine ay (i:=5) rfl UF (Gl P) GT ?_ (ag yq ao) (.inr (.inr ⟨_,rfl⟩)) _ _
 symm
 refine dP (jE hT (jX P)) ?_ ?_ rfl _
 exact dN rfl kH _
 symm
def g7(R:bc):SV:=(kh (je 3 (bK (bt 1) (bK (bt 2) (bK (bt 3) ft)))) (aP (ah 0) (ar 107)) (aB (em (aP (ah 0) (ar 140)) (ah 1)) (gV (aY bI (ah 2) (ar 59)) (aD (af (ar 174) (af (bj .none) (af (bj (.bool false)) aj)))) (aD (af (ar 92) (af (ar 250) aj)))) aC) (aB (je 2 (bK (em (ah 0) (ar 107)) (bK (em (ah 0) (ar 114)) ft))) (aD (af (bb aj) (af (bj (.bool true)) aj))) aC))
theorem ok7(h:aw P d R):au (fx P) (d+2) wW (g7 R) B7:=by
 have hs:aA (fx P) wW:=⟨hT,odr rfl⟩
 unfold g7
 refine fH ?_ ?_ ?_ ?_ rfl _
 refine eL ?_ (ag am (ag am (ag am ao))) _ _
 refine bu ?_ ?_ rfl
 symm
 refine bu ?_ ?_ rfl
 symm
 refine bu ?_ ?_ rfl
 symm
 exact dK
 symm
 left
 refine cw hT ?_ ?_ _
 symm
 refine dD ?_ ?_ ?_ _
 symm
 refine u9 ?_ ?_ ?_ rfl _
 refine eL ?_ (ag bQ (ag bQ ao)) _ _
 refine bu ?_ ?_ rfl
 refine cw hT ?_ ?_ _
 symm
 refine bu ?_ ?_ rfl
 refine cw hT ?_ ?_ _
 symm
 exact dK
 symm
def g8(R:bc):SV:=(kh (bt 3) (aH (aH (ah 0) 175) 8) (aB (bt 4) (aH (ah 3) 123) (bX (aY ej (gJ bI (aH (ah 3) 98) (ar 107)) (gJ pX (ah 4) (ah 2))) bw aC (aB (bt 5) (Uj tj (aP (ah 1) (ar 140)) (af (ah 4) aj)) (bX (e7 (aY x8 (ah 4) (ah 2)) (e7 (aY ej (aH (ah 3) 111) (gV (aY jL (ah 5) (bj .none)) (bj .none) (aD (af (aM 0) (af (ah 5) aj))))) iU)) bw aC aC)))) (bC (gJ bI (aH (aP (aH (aH (ah 0) 162) 162) (aM 0)) 36) (aP (ah 1) (ar 36)))))
theorem ok8(h:aw P d R):au (fx P) (d+2) w7 (g8 R) B8:=by
 have hs:aA (fx P) w7:=⟨hT,odr rfl⟩
 unfold g8
 refine fH ?_ ?_ ?_ ?_ rfl _
 symm
 refine ax hT ?_ T8 (j9 P) rfl _
 refine ax hT ?_ jJ (gj P) rfl _
 symm
 left
 symm
 refine ax hT ?_ cK (k8 P) rfl _
 symm
 refine ba ?_ ?_ ?_ ?_ _
 refine bd (cz hT) ?_ ?_ rfl _
 refine dP (jE hT (jX P)) ?_ ?_ rfl _
 refine ax hT ?_ tN (lN P) rfl _
 symm
 refine dP (lj hT) ?_ ?_ rfl _
 symm
 left
 symm
 refine MG (jX P) ?_ ?_ rfl (ag am ao) rfl (lsp rfl)
 symm
 refine ba ?_ ?_ ?_ ?_ _
 refine cM ?_ ?_
 refine bd (qv hT) ?_ ?_ rfl _
 symm
 refine cM ?_ ?_
 refine bd (cz hT) ?_ ?_ rfl _
 refine ax hT ?_ qm (py P) rfl _
 symm
 refine dD ?_ ?_ ?_ _
 refine bd eD ?_ ?_ rfl _
 symm
 exact fh _
 symm
 refine aW ?_ _
 refine dP (jE hT (jX P)) ?_ ?_ rfl _
 refine ax hT ?_ lc (gm P) rfl _
 symm
 refine ax hT ?_ fQ (dG P) rfl _
 refine ax hT ?_ fQ (dG P) rfl _
 symm
def g9(R:bc):SV:=(ke 3 [4,3,2] (aD (af (aT (c4 R) aj) (af (sv (cu (ar 50) (ah 0) (cu (ar 36) (bb aj) (cu (ar 114) (bj (.bool false)) (cu (ar 107) (bb aj) (cu (ar 140) gW ku)))))) (af (bb aj) aj)))) (aB (bt 5) (aD (af (ar 29) (af (bO db (ch R) (aH (ah 2) 162) 166 (af (ah 0) aj)) aj))) (kh (je 3 (bK (bt 6) (bK (bt 7) (bK (bt 8) ft)))) (ah 1) (ke 2 [10,9] (aD (af (aP (aH (aH (ah 2) 175) 8) (ah 6)) (af (aT (n9 R) (af (bj .none) aj)) aj))) (bX (l9 (aY pX (ah 6) (dp (dW fF) (ah 4) (gq [0,0] (aP (ah 3) (ar 107)) (jU 1 18) oG (aP (gc 1 18) (aM 0))))) (l9 (e7 (aY bI (ah 7) (ar 76)) (e7 (hW (aP (ah 3) (ar 114))) iU)) jI)) zg aC (aB (bt 11) (bb (af (aD (af (ar 54) aj)) aj)) (bX (aY bI (ah 7) (ar 76)) (bV (bO db (ch R) (ah 2) 197 (af (aP (bO db (ch R) (aH (ah 2) 162) 189 (af (aM 0) aj)) (aM 1)) aj)) (bV (aT (c7 R) (af (ah 3) aj)) (aB (bt 11) (bb aj) aC))) (bX (aY bI (ah 7) (ar 53)) (bV (gD BX (aH (ah 10) 136) (af (bb (af (ah 5) (af (ah 8) aj))) aj)) (bV (aT (Ng R) (af (ah 2) (af (ah 9) (af (ah 10) (af (aD (af (ar 53) aj)) aj))))) (bV (aT (c5 R) (af (ah 3) (af (ah 6) (af (ah 8) aj)))) aC))) (bX (aY bI (ah 7) (ar 59)) (bV (gD fP (aH (ah 10) 136) (af (ah 5) aj)) (bV (aT (K5 R) (af (ah 2) (af (ah 9) (af (ah 10) (af (aD (af (ar 152) (af (ah 8) aj))) aj))))) (bV (aT (c6 R) (af (ah 3) (af (ah 6) aj))) (aB (bt 11) (bb (af (aD (af (ar 10) (af (ah 8) aj))) aj)) aC)))) (bV (aT (Ay R) (af (ah 2) (af (ah 9) (af (ah 10) (af (gV (aY bI (ah 7) (ar 41)) (ar 53) (ar 59)) (af (bj .none) (af (ah 8) (af (aD (af (ar 54) aj)) aj)))))))) (aB (bt 4) (dp (dW fF) (ah 4) (bb (af (ah 6) aj))) aC)) aC) aC) (bX (l9 (aY ej (aH (ah 10) 66) (ah 11)) (l9 (aY ej (aH (ah 10) 136) (bb aj)) jI)) bw aC (bX (jY (hW (aT (c8 R) (af (ah 2) (af (ah 3) (af (dp (dW fF) (ah 4) (gq [0,0] (aP (ah 3) (ar 107)) (jU 1 18) oG (aP (gc 1 18) (aM 0)))) aj)))))) bw aC aC)))))) (bC (gJ jL (aH (ah 2) 150) (bj .none))))))
theorem ok9(h:aw P d R):au (fx P) (d+2) gx (g9 R) B9:=by
 have hs:aA (fx P) gx:=⟨hT,odr rfl⟩
 unfold g9
 refine fo (js:=[2,3,4]) hs (.cons rfl eR (.cons rfl hZ (.cons rfl Ag .nil))) ?_ ?_ ?_ ?_ ?_ ?_ ?_ ?_ (lF (js:=[2,3,4]) hs (.cons rfl eR (.cons rfl hZ (.cons rfl Ag .nil))) (odr rfl)) ?_ ?_ _
 symm
 refine ay (i:=12) rfl lL (jN P) (pZ h) ?_ ao (.inl (nu P)) _ _
 symm
 refine jP hT ?_ rfl rfl (List.cons_ne_nil _ _) (Nat.le_of_ble_eq_true rfl) _
 refine bF ?_ ?_ ?_
 symm
 refine bF ?_ ?_ ?_
 symm
 refine bF ?_ ?_ ?_
 symm
 refine bF ?_ ?_ ?_
 symm
 refine bF ?_ ?_ ?_
 symm
 exact dH _
 exact gK
 symm
 left
 symm
 refine bo hT hD (bz h) ?_ ?_ CE rfl (ag am ao) rfl (lsp rfl)
 refine ax hT ?_ fQ (dG P) rfl _
 symm
 refine fH ?_ ?_ ?_ ?_ rfl _
 refine eL ?_ (ag am (ag am (ag am ao))) _ _
 refine bu ?_ ?_ rfl
 symm
 refine bu ?_ ?_ rfl
 symm
 refine bu ?_ ?_ rfl
 symm
 exact dK
 symm
 refine fo (js:=[9,10]) hs (.cons rfl fu (.cons rfl mL .nil)) ?_ ?_ ?_ ?_ ?_ ?_ ?_ ?_ (lF (js:=[9,10]) hs (.cons rfl fu (.cons rfl mL .nil)) (odr rfl)) ?_ ?_ _
 symm
 refine ax hT ?_ T8 (j9 P) rfl _
 refine ax hT ?_ jJ (gj P) rfl _
 symm
 refine ay (i:=13) rfl CB (uk P) (Iw h) ?_ (ag aG ao) (.inl (zx P)) _ _
 symm
 refine ba ?_ ?_ ?_ ?_ _
 refine gd ?_ ?_
 refine bd (lj hT) ?_ ?_ rfl _
 symm
 refine bJ (cj (cG P)) ?_ ?_ _
 symm
 refine dS (vs':=[(5,.blk),(18,.blk)]) ?_ _
 refine dU.mk (x:=fx P) (vs:=gx) (vs':=[(5,.blk),(18,.blk)]) (sl:=[0,0]) hT hD ?_ ?_ ?_ ?_ rfl (.blk T5 (.blk du .nil)) (odr rfl) rfl
 symm
 exact eA hT rfl du _
 exact jC
 symm
 exact cS rfl du _
 symm
 refine gd ?_ ?_
 refine cM ?_ ?_
 symm
 refine cM ?_ ?_
 refine dE ?_ rfl
 symm
 exact fh _
 exact gU _
 exact rq _
 symm
 left
 symm
 refine ba ?_ ?_ ?_ ?_ _
 symm
 refine bg ?_ ?_ rfl _
 refine bo hT hD (bz h) ?_ ?_ yi rfl (ag bQ ao) rfl (lsp rfl)
 symm
 refine bo hT hD (bz h) ?_ ?_ CI rfl (ag aG ao) rfl (lsp rfl)
 refine ax hT ?_ fQ (dG P) rfl _
 symm
 refine bg ?_ ?_ rfl _
 refine ay (i:=14) rfl Eb (vH P) (Fp h) ?_ (ag am ao) (.inl (zc P)) _ _
 symm
 left
 symm
 refine ba ?_ ?_ ?_ ?_ _
 symm
 refine bg ?_ ?_ rfl _
 refine cZ PySem.F.slot_list_extend sD xd ?_ ?_ rfl (ag gr ao) rfl (lsp rfl)
 refine ax hT ?_ gy (eZ P) rfl _
 symm
 refine bg ?_ ?_ rfl _
 refine ay (i:=15) rfl BN (vW P) (Ah h) ?_ (ag am (ag am (ag am (ag bL ao)))) (.inl (tC P)) _ _
 symm
 refine bg ?_ ?_ rfl _
 refine ay (i:=16) rfl BI (uo P) (E0 h) ?_ (ag am (ag am (ag am ao))) (.inl (x5 P)) _ _
 symm
 refine ba ?_ ?_ ?_ ?_ _
 symm
 refine bg ?_ ?_ rfl _
 refine cZ PySem.F.slot_list_append cI dz ?_ ?_ rfl (ag am ao) rfl (lsp rfl)
 refine ax hT ?_ gy (eZ P) rfl _
 symm
 refine bg ?_ ?_ rfl _
 refine ay (i:=17) rfl Di (ui P) (zK h) ?_ (ag am (ag am (ag am (ag bL ao)))) (.inl (vY P)) _ _
 symm
 refine bg ?_ ?_ rfl _
 refine ay (i:=18) rfl Dn (wd P) (Er h) ?_ (ag am (ag am ao)) (.inl (ye P)) _ _
 symm
 left
 symm
 refine bg ?_ ?_ rfl _
 refine ay (i:=19) rfl oj (lA P) (pd h) ?_ (ag am (ag am (ag am (ag iC (ag aG (ag am (ag bL ao))))))) (.inl (mG P)) _ _
 symm
 refine dD ?_ ?_ ?_ _
 symm
 left
 symm
 refine bJ (cj (cG P)) ?_ ?_ _
 symm
 refine ba ?_ ?_ ?_ ?_ _
 refine gd ?_ ?_
 refine bd (cz hT) ?_ ?_ rfl _
 refine ax hT ?_ EA (sX P) rfl _
 symm
 refine gd ?_ ?_
 refine bd (cz hT) ?_ ?_ rfl _
 refine ax hT ?_ gy (eZ P) rfl _
 symm
 exact gU _
 symm
 refine ba ?_ ?_ ?_ ?_ _
 refine fJ ?_ _
 refine dE ?_ rfl
 refine ay (i:=20) rfl Dr (vm P) (Fq h) ?_ (ag am (ag am (ag j8 ao))) (.inl (yL P)) _ _
 symm
 refine bJ (cj (cG P)) ?_ ?_ _
 symm
 refine dS (vs':=[(5,.blk),(18,.blk)]) ?_ _
 refine dU.mk (x:=fx P) (vs:=gx) (vs':=[(5,.blk),(18,.blk)]) (sl:=[0,0]) hT hD ?_ ?_ ?_ ?_ rfl (.blk T5 (.blk du .nil)) (odr rfl) rfl
 symm
 exact eA hT rfl du _
 exact jC
 symm
 exact cS rfl du _
 symm
 exact rfl
 exact rfl
 exact rfl
 exact (.inl rfl)
 exact rfl
 exact rfl
 exact rfl
 kernel_rfl
 refine aW ?_ _
 refine dP eD ?_ ?_ rfl _
 refine ax hT ?_ vT (mK P) rfl _
 symm
 exact rfl
 exact rfl
 exact rfl
 exact (.inr rfl)
 exact rfl
 exact rfl
 exact rfl
 kernel_rfl
def ML(R:bc):SV:=(bC (aD (af (ar 17) (af (aD (af (ar 28) (af (ah 0) aj))) (af (aD aj) aj)))))
theorem ZP(h:aw P d R):au (fx P) (d+2) rz (ML R) Bw:=by
 have hs:aA (fx P) rz:=⟨hT,odr rfl⟩
 unfold ML
 refine aW ?_ _
 symm
def Ky(R:bc):SV:=(bX (aY bI (ah 2) (ar 146)) (bC (ar 0)) aC (bX (e7 (aY bI (ah 2) (ar 40)) (e7 (hW (aP (ah 0) (ar 120))) iU)) (aB (em (ah 0) (ar 94)) (dp (dW fF) (aP (ah 0) (ar 94)) (bb (af (ah 1) aj))) aC) (bX (aY bI (ah 2) (ar 40)) (aB (em (ah 0) (ar 120)) (bj (.bool true)) aC) (bX (e7 (aY bI (ah 2) (ar 135)) (e7 (jY (hW (aP (ah 0) (ar 120)))) iU)) (bC (bj (.byt (jm [117,110,108,111,99,107,32,111,102,32,117,110,108,111,99,107,101,100,32,109,117,116,101,120])))) (bX (aY bI (ah 2) (ar 135)) (aB (je 2 (bK (em (ah 0) (ar 120)) (bK (em (ah 0) (ar 94)) ft))) (aD (af (gJ ej (aP (ah 0) (ar 94)) (bb aj)) (af (rU (aP (ah 0) (ar 94)) (aM 1) (bj .none)) aj))) aC) (bX (aY bI (ah 2) (ar 64)) (aB (em (ah 0) (ar 78)) (dp (dW fF) (aP (ah 0) (ar 78)) (gV (aY Bn (aP (ah 0) (ar 77)) (aM 0)) (bb (af (ah 1) aj)) (bb aj))) aC) (bX (aY xr (dp (dW fF) (aP (ah 0) (ar 77)) (ah 3)) (aM 0)) (bC (bj (.byt (jm [110,101,103,97,116,105,118,101,32,87,97,105,116,71,114,111,117,112,32,99,111,117,110,116,101,114])))) aC (aB (em (ah 0) (ar 77)) (dp (dW fF) (aP (ah 0) (ar 77)) (ah 3)) (aB (em (ah 0) (ar 78)) (gV (aY Bn (aP (ah 0) (ar 77)) (aM 0)) (aP (ah 0) (ar 78)) (bb aj)) aC))) aC) aC) aC) aC) (bC (ar 0))))
theorem X7(h:aw P d R):au (fx P) (d+2) ql (Ky R) AZ:=by
 have hs:aA (fx P) ql:=⟨hT,odr rfl⟩
 unfold Ky
 refine ba ?_ ?_ ?_ ?_ _
 symm
 refine aW ?_ _
 symm
 refine ba ?_ ?_ ?_ ?_ _
 refine cM ?_ ?_
 symm
 refine cM ?_ ?_
 refine dE ?_ rfl
 symm
 exact fh _
 left
 refine cw hT ?_ ?_ _
 symm
 refine bJ (cj (cG P)) ?_ ?_ _
 symm
 refine ba ?_ ?_ ?_ ?_ _
 symm
 left
 refine cw hT ?_ ?_ _
 symm
 refine ba ?_ ?_ ?_ ?_ _
 refine cM ?_ ?_
 symm
 refine cM ?_ ?_
 refine fJ ?_ _
 refine dE ?_ rfl
 symm
 exact fh _
 refine aW ?_ _
 exact lb [117,110,108,111,99,107,32,111,102,32,117,110,108,111,99,107,101,100,32,109,117,116,101,120] rfl _ _
 refine ba ?_ ?_ ?_ ?_ _
 symm
 refine u9 ?_ ?_ ?_ rfl _
 refine eL ?_ (ag bQ (ag bQ ao)) _ _
 refine bu ?_ ?_ rfl
 refine cw hT ?_ ?_ _
 symm
 refine bu ?_ ?_ rfl
 refine cw hT ?_ ?_ _
 symm
 exact dK
 symm
 refine dP (cz hT) ?_ ?_ rfl _
 symm
 refine kO ?_ ?_ ?_ _ _
 symm
 refine eJ.some ?_
 symm
 exact eJ.none
 symm
 refine ba ?_ ?_ ?_ ?_ _
 symm
 left
 refine cw hT ?_ ?_ _
 symm
 refine bJ (cj (cG P)) ?_ ?_ _
 symm
 refine dD ?_ ?_ ?_ _
 refine bd pH ?_ ?_ rfl _
 symm
 refine ba ?_ ?_ ?_ ?_ _
 refine bd mO ?_ ?_ rfl _
 refine bJ (cj (cG P)) ?_ ?_ _
 symm
 refine aW ?_ _
 exact lb [110,101,103,97,116,105,118,101,32,87,97,105,116,71,114,111,117,112,32,99,111,117,110,116,101,114] rfl _ _
 symm
 left
 refine cw hT ?_ ?_ _
 symm
 refine bJ (cj (cG P)) ?_ ?_ _
 symm
 left
 refine cw hT ?_ ?_ _
 symm
 refine dD ?_ ?_ ?_ _
 refine bd pH ?_ ?_ rfl _
 symm
 refine aW ?_ _
 symm
def Ih(R:bc):SV:=(aB (bt 0) (aD (af (ar 34) (af (aD aj) (af (aD (af (aD (af (ar 132) aj)) aj)) (af (bj (.bool false)) aj))))) (aB (bt 1) (aD (af (ar 34) (af (aD (af (aD (af (ar 11) (af (ar 11) aj))) aj)) (af (aD aj) (af (bj (.bool false)) aj))))) (aB (bt 2) (aD (af (ar 133) (af (aD (af (aD (af (ar 219) (af (aD (af (ar 11) (af (ar 11) aj))) (af (bj (.bool false)) aj)))) aj)) aj))) (aB (bt 3) (aD (af (ar 133) (af (aD (af (aD (af (ar 218) (af (aD (af (ar 11) (af (ar 11) aj))) (af (bj (.bool false)) aj)))) aj)) aj))) (aB (bt 4) (sv (cu (ar 68) (aD (af (bj (.bool false)) (af (ah 0) (af (ar 247) aj)))) ku)) (aB (bt 5) (sv (cu (ar 22) (aD (af (bj (.bool true)) (af (bj (.old (.ref 1847))) (af (ar 240) aj)))) (cu (ar 109) (aD (af (bj (.bool true)) (af (bj (.old (.ref 1847))) (af (ar 244) aj)))) ku))) (aB (bt 6) (sv (cu (ar 6) (aD (af (bj (.bool true)) (af (ah 1) (af (ar 246) aj)))) (cu (ar 21) (aD (af (bj (.bool true)) (af (bj (.old (.ref 1847))) (af (ar 248) aj)))) (cu (ar 23) (aD (af (bj (.bool true)) (af (bj (.old (.ref 1847))) (af (ar 249) aj)))) ku)))) (bC (sv (cu (ar 81) (aT (n0 R) (af (ar 81) (af (ar 0) (af (aD (af (ar 192) (af (aD (af (aD (af (ar 68) (af (ah 0) aj))) aj)) aj))) (af gW aj))))) (cu (ar 234) (aT (n0 R) (af (ar 234) (af (ar 154) (af (aD (af (ar 132) aj)) (af (ah 4) aj))))) (cu (ar 208) (aT (n0 R) (af (ar 208) (af (ar 58) (af (ah 2) (af (ah 5) aj))))) (cu (ar 237) (aT (n0 R) (af (ar 237) (af (ar 58) (af (ah 3) (af (ah 6) aj))))) ku)))))))))))))
theorem Zd(h:aw P d R):au (fx P) (d+2) ra (Ih R) AA:=by
 have hs:aA (fx P) ra:=⟨hT,odr rfl⟩
 unfold Ih
 left
 symm
 left
 symm
 left
 symm
 left
 symm
 left
 symm
 refine jP hT ?_ rfl rfl (List.cons_ne_nil _ _) (Nat.le_of_ble_eq_true rfl) _
 refine bF ?_ ?_ ?_
 symm
 exact gK
 left
 symm
 refine jP hT ?_ rfl rfl (List.cons_ne_nil _ _) (Nat.le_of_ble_eq_true rfl) _
 refine bF ?_ ?_ ?_
 symm
 exact jQ (i:=7) rfl Aa (mW P) (.old _) _
 symm
 refine bF ?_ ?_ ?_
 symm
 exact jQ (i:=7) rfl Aa (mW P) (.old _) _
 symm
 exact gK
 left
 symm
 refine jP hT ?_ rfl rfl (List.cons_ne_nil _ _) (Nat.le_of_ble_eq_true rfl) _
 refine bF ?_ ?_ ?_
 symm
 refine bF ?_ ?_ ?_
 symm
 exact jQ (i:=7) rfl Aa (mW P) (.old _) _
 symm
 refine bF ?_ ?_ ?_
 symm
 exact jQ (i:=7) rfl Aa (mW P) (.old _) _
 symm
 exact gK
 refine aW ?_ _
 refine jP hT ?_ rfl rfl (List.cons_ne_nil _ _) (Nat.le_of_ble_eq_true rfl) _
 refine bF ?_ ?_ ?_
 symm
 refine ay (i:=8) rfl vQ (lx P) (yF h) ?_ (ag aG (ag aG (ag bL (ag xn ao)))) (.inl (o0 P)) _ _
 symm
 exact dH _
 symm
 refine bF ?_ ?_ ?_
 symm
 refine ay (i:=8) rfl vQ (lx P) (yF h) ?_ (ag aG (ag aG (ag bL (ag am ao)))) (.inl (o0 P)) _ _
 symm
 refine bF ?_ ?_ ?_
 symm
 refine ay (i:=8) rfl vQ (lx P) (yF h) ?_ (ag aG (ag aG (ag am (ag am ao)))) (.inl (o0 P)) _ _
 symm
 refine bF ?_ ?_ ?_
 symm
 refine ay (i:=8) rfl vQ (lx P) (yF h) ?_ (ag aG (ag aG (ag am (ag am ao)))) (.inl (o0 P)) _ _
 symm
 exact gK
def ID(R:bc):SV:=(ke 2 [2,1] (aD (af gW (af (gq [0,0,2] (aT zn (af (ib 0) aj)) (jU 1 12) oG (aP (ib 2) (gc 1 12))) aj))) (xS (aY ej (ah 2) (bb aj)) bw (bC (ah 1))))
theorem WB(h:aw P d R):au (fx P) (d+2) oW (ID R) Av:=by
 have hs:aA (fx P) oW:=⟨hT,odr rfl⟩
 unfold ID
 refine fo (js:=[1,2]) hs (.cons rfl kQ (.cons rfl IZ .nil)) ?_ ?_ ?_ ?_ ?_ ?_ ?_ ?_ (lF (js:=[1,2]) hs (.cons rfl kQ (.cons rfl IZ .nil)) (odr rfl)) ?_ ?_ _
 symm
 exact dH _
 symm
 refine dS (vs':=[(5,.blk),(12,.blk),(105,.cel)]) ?_ _
 refine dU.mk (x:=fx P) (vs:=oW) (vs':=[(5,.blk),(12,.blk),(105,.cel)]) (sl:=[0,0,2]) hT hD ?_ ?_ ?_ ?_ rfl (.blk T5 (.blk G4 (.cel (j:=0) mC rfl .nil))) (odr rfl) rfl
 refine ay (i:=4) rfl zd (tS P) (vV (jX P)) ?_ (ag am ao) (.inr (.inl ⟨_,rfl⟩)) _ _
 symm
 exact dN rfl mC _
 symm
 exact eA hT rfl G4 _
 exact jC
 symm
 exact dN rfl mC _
 exact cS rfl G4 _
 symm
 refine rl ?_ ?_ ?_ _
 refine bd (cz hT) ?_ ?_ rfl _
 symm
 refine aW ?_ _
 symm
 exact rfl
 exact rfl
 exact rfl
 exact (.inl rfl)
 exact rfl
 exact rfl
 exact rfl
 kernel_rfl
def IK(R:bc):SV:=(aB (je 2 (bK (bt 4) (bK (bt 5) ft))) (bO db (ch R) (ah 2) 59 (af (aM 2) aj)) (bV (aT (Ay R) (af (ah 0) (af (ah 1) (af (ah 2) (af (ar 53) (af (aT (J9 R) (af (ah 4) aj)) (af (ah 5) (af (aD (af (ar 54) aj)) aj)))))))) aC))
theorem WJ(h:aw P d R):au (fx P) (d+2) qj (IK R) zR:=by
 have hs:aA (fx P) qj:=⟨hT,odr rfl⟩
 unfold IK
 refine im ?_ ?_ ?_ rfl (.inr rfl) rfl _
 refine eL ?_ (ag am (ag am ao)) _ _
 refine bu ?_ ?_ rfl
 symm
 refine bu ?_ ?_ rfl
 symm
 exact dK
 refine bo hT hD (bz h) ?_ ?_ Jj rfl (ag aG ao) rfl (lsp rfl)
 symm
 refine bg ?_ ?_ rfl _
 refine ay (i:=6) rfl oj (lA P) (pd h) ?_ (ag am (ag am (ag am (ag aG (ag eN (ag am (ag bL ao))))))) (.inl (mG P)) _ _
 symm
 refine ay (i:=7) rfl yS (vJ P) (Bp h) ?_ (ag am ao) (.inl (vr P)) _ _
 symm
def HB(R:bc):SV:=(aB (bt 4) (aP (bO db (ch R) (ah 2) 59 (af (aM 1) aj)) (aM 0)) (bV (aT (Ay R) (af (ah 0) (af (ah 1) (af (ah 2) (af (ar 59) (af (aT (J9 R) (af (ah 4) aj)) (af (bj .none) (af (aD (af (ar 10) (af (aP (ah 3) (aM 1)) aj))) aj)))))))) aC))
theorem XZ(h:aw P d R):au (fx P) (d+2) qX (HB R) Ak:=by
 have hs:aA (fx P) qX:=⟨hT,odr rfl⟩
 unfold HB
 left
 symm
 refine bo hT hD (bz h) ?_ ?_ Jj rfl (ag aG ao) rfl (lsp rfl)
 symm
 refine bg ?_ ?_ rfl _
 refine ay (i:=5) rfl oj (lA P) (pd h) ?_ (ag am (ag am (ag am (ag aG (ag eN (ag aG (ag bL ao))))))) (.inl (mG P)) _ _
 symm
 refine ay (i:=6) rfl yS (vJ P) (Bp h) ?_ (ag am ao) (.inl (vr P)) _ _
 symm
def JW(R:bc):SV:=(bV (gD fP (aH (ah 2) 66) (af (ah 6) aj)) (bX (hW (bO db (ch R) (aH (ah 0) 162) 122 (af (ah 3) (af (ah 4) aj)))) (aB (je 2 (bK (bt 7) (bK (bt 8) ft))) (bO db (ch R) (aH (ah 0) 162) 118 (af (ah 3) (af (ah 4) (af (ah 5) aj)))) (aB (bG (ah 1) 111) (aD (af (aM 0) (af (ah 7) aj))) (bV (bO db (ch R) (ah 0) 197 (af (ah 8) aj)) aC))) (bV (bO db (ch R) (aH (ah 0) 162) 178 (af (aH (ah 1) 123) (af (bb (af (aD (af (ah 3) (af (ah 4) (af (ah 5) aj)))) aj)) aj))) (bV (bO db (ch R) (ah 0) 196 (af (ah 1) aj)) aC)) aC))
theorem WU(h:aw P d R):au (fx P) (d+2) qJ (JW R) zQ:=by
 have hs:aA (fx P) qJ:=⟨hT,odr rfl⟩
 unfold JW
 refine bg ?_ ?_ rfl _
 refine cZ PySem.F.slot_list_append cI dz ?_ ?_ rfl (ag am ao) rfl (lsp rfl)
 refine ax hT ?_ EA (sX P) rfl _
 symm
 refine ba ?_ ?_ ?_ ?_ _
 refine dE ?_ rfl
 refine bo hT hD (bz h) ?_ ?_ Ii rfl (ag am (ag am ao)) rfl (lsp rfl)
 refine ax hT ?_ fQ (dG P) rfl _
 symm
 refine im ?_ ?_ ?_ rfl (.inr rfl) rfl _
 refine eL ?_ (ag am (ag am ao)) _ _
 refine bu ?_ ?_ rfl
 symm
 refine bu ?_ ?_ rfl
 symm
 exact dK
 refine bo hT hD (bz h) ?_ ?_ K0 rfl (ag am (ag am (ag am ao))) rfl (lsp rfl)
 refine ax hT ?_ fQ (dG P) rfl _
 symm
 left
 refine aQ hT ?_ qm (aX rfl) (py P) _
 symm
 refine bg ?_ ?_ rfl _
 refine bo hT hD (bz h) ?_ ?_ yi rfl (ag am ao) rfl (lsp rfl)
 symm
 refine bg ?_ ?_ rfl _
 refine bo hT hD (bz h) ?_ ?_ JM rfl (ag cv (ag gr ao)) rfl (lsp rfl)
 refine ax hT ?_ fQ (dG P) rfl _
 symm
 refine ax hT ?_ cK (k8 P) rfl _
 symm
 refine bg ?_ ?_ rfl _
 refine bo hT hD (bz h) ?_ ?_ DT rfl (ag am ao) rfl (lsp rfl)
 symm
def NO(R:bc):SV:=(bC (gV (aY jL (ah 0) (bj .none)) (bj .none) (aP (ah 0) (aM 1))))
theorem YI(h:aw P d R):au (fx P) (d+2) qC (NO R) Al:=by
 have hs:aA (fx P) qC:=⟨hT,odr rfl⟩
 unfold NO
 refine aW ?_ _
 refine dD ?_ ?_ ?_ _
 refine bd eD ?_ ?_ rfl _
 symm
def Pv(R:bc):SV:=(bX (hW (aP (ah 1) (aM 2))) (bC (aD (af (aP (ah 1) (aM 1)) (af (bj (.bool true)) aj)))) aC (bC (aD (af (aT (U8 R) (af (aH (ah 0) 108) (af (aP (bO db (ch R) (aH (ah 0) 108) 141 (af (ah 2) aj)) (aM 2)) aj))) (af (bj (.bool false)) aj)))))
theorem Wo(h:aw P d R):au (fx P) (d+2) qS (Pv R) Ae:=by
 have hs:aA (fx P) qS:=⟨hT,odr rfl⟩
 unfold Pv
 refine ba ?_ ?_ ?_ ?_ _
 refine dE ?_ rfl
 symm
 refine aW ?_ _
 symm
 refine aW ?_ _
 symm
 refine ay (i:=3) rfl zf (BQ P) (L8 h) ?_ (ag cv (ag bQ ao)) (.inl (AU P)) _ _
 symm
 refine ax hT ?_ kJ (vh P) rfl _
 symm
 refine bo hT hD (bz h) ?_ ?_ BZ rfl (ag am ao) rfl (lsp rfl)
 refine ax hT ?_ kJ (vh P) rfl _
 symm
def NZ(R:bc):SV:=(aB (bt 2) (aT (U3 R) (af (ib 0) (af (ah 1) aj))) (bX (aY bI (aP (ah 2) (aM 0)) (ar 24)) (bC (bj (.bool false))) aC (bX (aY bI (aP (ah 2) (aM 0)) (ar 11)) (bC (aM 0)) aC (bX (aY bI (aP (ah 2) (aM 0)) (ar 132)) (bC (bj (.byt (jm [])))) aC (bX (aY bI (aP (ah 2) (aM 0)) (ar 71)) bw aC (bX (aY bI (aP (ah 2) (aM 0)) (ar 133)) bw aC bw))))))
theorem XV(h:aw P d R):au (fx P) (d+2) qH (NZ R) zG:=by
 have hs:aA (fx P) qH:=⟨hT,odr rfl⟩
 unfold NZ
 left
 symm
 refine ay (i:=3) rfl JG (Cs P) (Lu h) ?_ (ag am (ag am ao)) (.inl (Bx P)) _ _
 symm
 exact dN rfl kJ _
 symm
 refine ba ?_ ?_ ?_ ?_ _
 symm
 refine aW ?_ _
 symm
 refine ba ?_ ?_ ?_ ?_ _
 symm
 refine aW ?_ _
 symm
 refine ba ?_ ?_ ?_ ?_ _
 symm
 refine aW ?_ _
 exact lb [] rfl _ _
 symm
 refine ba ?_ ?_ ?_ ?_ _
 symm
 refine ba ?_ ?_ ?_ ?_ _
 symm
def L5(R:bc):SV:=(bC (bO db (ch R) (ah 0) 141 (af (ah 1) aj)))
theorem XC(h:aw P d R):au (fx P) (d+2) rH (L5 R) z6:=by
 have hs:aA (fx P) rH:=⟨hT,odr rfl⟩
 unfold L5
 refine aW ?_ _
 refine bo hT hD (bz h) ?_ ?_ BZ rfl (ag am ao) rfl (lsp rfl)
 symm
def Os(R:bc):SV:=(bC (aT (nX R) (af (aD (af (ar 32) (af (bj (.old (.ref 117))) (af (IL CD (ah 0)) aj)))) aj)))
theorem Zc(h:aw P d R):au (fx P) (d+2) rk (Os R) zo:=by
 have hs:aA (fx P) rk:=⟨hT,odr rfl⟩
 unfold Os
 refine aW ?_ _
 refine ay (i:=1) rfl qE (oO P) (YK h) ?_ (ag bL ao) (.inl (Rf P)) _ _
 symm
 exact jQ (i:=2) rfl MO (C4 P) (.old _) _
 symm
 refine FV (aaB P) ?_ rfl rfl
 symm
def KE(R:bc):SV:=(aB (bG (ah 0) 46) (ah 1) (aB (bG (ah 0) 151) (ah 2) (aB (bG (ah 0) 209) (ah 3) (aB (bG (ah 0) 148) (ah 4) aC))))
theorem WY(h:aw P d R):au (fx P) (d+2) qt (KE R) AR:=by
 have hs:aA (fx P) qt:=⟨hT,odr rfl⟩
 unfold KE
 left
 refine aQ hT ?_ Ee (aX rfl) (TY P) _
 symm
 left
 refine aQ hT ?_ Dd (aX rfl) (LR P) _
 symm
 left
 refine aQ hT ?_ DR (aX rfl) (LY P) _
 symm
 left
 refine aQ hT ?_ CJ (aX rfl) (Hm P) _
 symm
def HN(R:bc):SV:=(aB (bG (ah 0) 172) (ah 1) (aB (bG (ah 0) 90) (aT (U9 R) aj) (aB (bG (ah 0) 145) gW (aB (bG (ah 0) 115) gW (aB (bG (ah 0) 84) gW (aB (bG (ah 0) 113) gW (aB (bG (ah 0) 82) gW (aB (bG (ah 0) 125) gW (aB (bG (ah 0) 91) (bb aj) (aB (bG (ah 0) 131) (bb aj) (aB (bG (ah 0) 129) (bj .none) (aB (bG (ah 0) 65) (bj .none) (aB (bG (ah 0) 170) gW (aB (bG (ah 0) 169) gW (aB (bG (ah 0) 136) gW (aB (bG (ah 0) 87) gW (aB (bG (ah 0) 194) (bb aj) (aB (bG (ah 0) 206) (bb aj) (aB (bG (ah 0) 207) (bb aj) (aB (bG (ah 0) 164) (bj (.bool true)) aC))))))))))))))))))))
theorem VF(h:aw P d R):au (fx P) (d+2) ri (HN R) zO:=by
 have hs:aA (fx P) ri:=⟨hT,odr rfl⟩
 unfold HN
 left
 refine aQ hT ?_ CN (aX rfl) (Kb P) _
 symm
 left
 refine aQ hT ?_ T90 (aX rfl) (RX P) _
 symm
 refine ay (i:=2) rfl KQ (C5 P) (JP h) ?_ ao (.inl (zu P)) _ _
 symm
 left
 refine aQ hT ?_ DV (aX rfl) (vi P) _
 symm
 exact dH _
 left
 refine aQ hT ?_ Vs (aX rfl) (Jx P) _
 symm
 exact dH _
 left
 refine aQ hT ?_ T84 (aX rfl) (Tt P) _
 symm
 exact dH _
 left
 refine aQ hT ?_ Ve (aX rfl) (IM P) _
 symm
 exact dH _
 left
 refine aQ hT ?_ T82 (aX rfl) (TS P) _
 symm
 exact dH _
 left
 refine aQ hT ?_ Ym (aX rfl) (OF P) _
 symm
 exact dH _
 left
 refine aQ hT ?_ T91 (aX rfl) (PC P) _
 symm
 left
 refine aQ hT ?_ ZX (aX rfl) (Op P) _
 symm
 left
 refine aQ hT ?_ Zj (aX rfl) (K8 P) _
 symm
 left
 refine aQ hT ?_ T65 (aX rfl) (Qt P) _
 symm
 left
 refine aQ hT ?_ Y6 (aX rfl) (MC P) _
 symm
 exact dH _
 left
 refine aQ hT ?_ XN (aX rfl) (NX P) _
 symm
 exact dH _
 left
 refine aQ hT ?_ gy (aX rfl) (eZ P) _
 symm
 exact dH _
 left
 refine aQ hT ?_ T87 (aX rfl) (P8 P) _
 symm
 exact dH _
 left
 refine aQ hT ?_ XS (aX rfl) (MI P) _
 symm
 left
 refine aQ hT ?_ ZH (aX rfl) (KI P) _
 symm
 left
 refine aQ hT ?_ VA (aX rfl) (Oo P) _
 symm
 left
 refine aQ hT ?_ Vv (aX rfl) (MZ P) _
 symm
def Om(R:bc):SV:=(xS (aY bI (aP (ah 1) (aM 0)) (ar 90)) bw (bC (ah 1)))
theorem V9(h:aw P d R):au (fx P) (d+2) qW (Om R) Ao:=by
 have hs:aA (fx P) qW:=⟨hT,odr rfl⟩
 unfold Om
 refine rl ?_ ?_ ?_ _
 symm
 refine aW ?_ _
 symm
def M3(R:bc):SV:=(aB (bG (ah 0) 108) (ah 1) (aB (bG (ah 0) 105) (aT (UA R) (af (ah 2) aj)) (aB (bG (ah 0) 143) (ah 3) (aB (bG (ah 0) 33) (ah 4) (aB (DS 2 (ah 0) 99) (aT (n3 R) (af (Na 2 217 (ah 0)) aj)) (aB (bG (ah 0) 162) (aT (n4 R) aj) (aB (bG (ah 0) 85) (aT (n6 R) aj) (aB (bG (ah 0) 175) (aT (n7 R) (af (ah 3) aj)) (aB (bG (ah 0) 124) (bb aj) (aB (bG (ah 0) 150) (bj .none) (aB (bG (ah 0) 145) gW (kh (bt 5) (aT zn (af (aH (ah 1) 145) aj)) bw aC))))))))))))
theorem aam(h:aw P d R):au (fx P) (d+2) ru (M3 R) Ai:=by
 have hs:aA (fx P) ru:=⟨hT,odr rfl⟩
 unfold M3
 left
 refine aQ hT ?_ kJ (aX rfl) (vh P) _
 symm
 left
 refine aQ hT ?_ mC (aX rfl) (NV P) _
 symm
 refine ay (i:=6) rfl Ka (CG P) (Pn h) ?_ (ag am ao) (.inl (zJ P)) _ _
 symm
 left
 refine aQ hT ?_ oC (aX rfl) (tD P) _
 symm
 left
 refine aQ hT ?_ KM (aX rfl) (PN P) _
 symm
 left
 refine wu hT ?_ T99 (aX rfl) (Gr P) _
 symm
 refine ay (i:=7) rfl HV (Cw P) (aal h) ?_ (ag cv ao) (.inl (LL P)) _ _
 symm
 refine GL hT (Cu P) uc ?_ rfl _
 symm
 left
 refine aQ hT ?_ fQ (aX rfl) (dG P) _
 symm
 refine ay (i:=8) rfl OX (Dv P) (ZW h) ?_ ao (.inl (JH P)) _ _
 symm
 left
 refine aQ hT ?_ AF (aX rfl) (pC P) _
 symm
 refine ay (i:=9) rfl Ni (DI P) (Yk h) ?_ ao (.inl (HL P)) _ _
 symm
 left
 refine aQ hT ?_ jJ (aX rfl) (gj P) _
 symm
 refine ay (i:=10) rfl IV (Cc P) (Zq h) ?_ (ag am ao) (.inl (Mz P)) _ _
 symm
 left
 refine aQ hT ?_ YZ (aX rfl) (MK P) _
 symm
 left
 refine aQ hT ?_ vT (aX rfl) (mK P) _
 symm
 left
 refine aQ hT ?_ DV (aX rfl) (vi P) _
 symm
 exact dH _
 refine fH ?_ ?_ ?_ ?_ rfl _
 symm
 refine ay (i:=11) rfl zd (tS P) (vV (jX P)) ?_ (ag cv ao) (.inr (.inl ⟨_,rfl⟩)) _ _
 symm
 refine ax hT ?_ DV (vi P) rfl _
 symm
def O0(R:bc):SV:=(aB (bG (ah 1) 98) (ar 107) (bV (bO db (ch R) (ah 0) 171 aj) aC))
theorem V5(h:aw P d R):au (fx P) (d+2) rM (O0 R) z8:=by
 have hs:aA (fx P) rM:=⟨hT,odr rfl⟩
 unfold O0
 left
 refine aQ hT ?_ tN (aX rfl) (lN P) _
 symm
 refine bg ?_ ?_ rfl _
 refine bo hT hD (bz h) ?_ ?_ KU rfl ao rfl (lsp rfl)
 symm
def LW(R:bc):SV:=(bX (e7 (aY jL (aH (ah 0) 150) (bj .none)) (e7 (jY (hW (bO db (ch R) (aH (ah 0) 175) 173 aj))) iU)) bw aC aC)
theorem Y5(h:aw P d R):au (fx P) (d+2) qO (LW R) BB:=by
 have hs:aA (fx P) qO:=⟨hT,odr rfl⟩
 unfold LW
 refine ba ?_ ?_ ?_ ?_ _
 refine cM ?_ ?_
 refine bd eD ?_ ?_ rfl _
 refine ax hT ?_ vT (mK P) rfl _
 symm
 refine cM ?_ ?_
 refine fJ ?_ _
 refine dE ?_ rfl
 refine bo hT hD (bz h) ?_ ?_ Mc rfl ao rfl (lsp rfl)
 refine ax hT ?_ jJ (gj P) rfl _
 symm
 exact fh _
 symm
def KF(R:bc):SV:=(kh (je 3 (bK (bt 2) (bK (bt 3) (bK (bt 4) ft)))) (ah 1) (bV (bO db (ch R) (aH (ah 0) 175) 180 (af (ah 2) (af (aD (af (ah 3) (af (ah 4) aj))) aj))) aC) aC)
theorem Ye(h:aw P d R):au (fx P) (d+2) rS (KF R) zI:=by
 have hs:aA (fx P) rS:=⟨hT,odr rfl⟩
 unfold KF
 refine fH ?_ ?_ ?_ ?_ rfl _
 refine eL ?_ (ag am (ag am (ag am ao))) _ _
 refine bu ?_ ?_ rfl
 symm
 refine bu ?_ ?_ rfl
 symm
 refine bu ?_ ?_ rfl
 symm
 exact dK
 symm
 refine bg ?_ ?_ rfl _
 refine bo hT hD (bz h) ?_ ?_ CR rfl (ag am (ag bL ao)) rfl (lsp rfl)
 refine ax hT ?_ jJ (gj P) rfl _
 symm
def Hn(R:bc):SV:=(aB (DS 3 (ah 0) 217) (ah 1) (aB (bG (ah 0) 75) (bb aj) (aB (bG (ah 0) 51) (bb aj) (aB (bG (ah 0) 43) (bb aj) aC))))
theorem Vy(h:aw P d R):au (fx P) (d+2) qM (Hn R) zX:=by
 have hs:aA (fx P) qM:=⟨hT,odr rfl⟩
 unfold Hn
 left
 refine wu hT ?_ uc (aX rfl) (CS P) _
 symm
 left
 refine aQ hT ?_ Un (aX rfl) (E8 P) _
 symm
 left
 refine aQ hT ?_ EI (aX rfl) (QD P) _
 symm
 left
 refine aQ hT ?_ T43 (aX rfl) (TF P) _
 symm
def LU(R:bc):SV:=(aB (bG (ah 0) 162) (bb aj) (aB (bG (ah 0) 156) (bb aj) aC))
theorem ZN(h:aw P d R):au (fx P) (d+2) rm (LU R) zY:=by
 have hs:aA (fx P) rm:=⟨hT,odr rfl⟩
 unfold LU
 left
 refine aQ hT ?_ fQ (aX rfl) (dG P) _
 symm
 left
 refine aQ hT ?_ iE (aX rfl) (eW P) _
 symm
def G2(R:bc):SV:=(bV (gD fP (aH (ah 0) 162) (af (aT (n5 R) (af (ah 1) aj)) aj)) (bC (dp pf (aT jG (af (aH (ah 0) 162) aj)) (aM 1))))
theorem Za(h:aw P d R):au (fx P) (d+2) rr (G2 R) AT:=by
 have hs:aA (fx P) rr:=⟨hT,odr rfl⟩
 unfold G2
 refine bg ?_ ?_ rfl _
 refine cZ PySem.F.slot_list_append cI dz ?_ ?_ rfl (ag eN ao) rfl (lsp rfl)
 refine ax hT ?_ fQ (dG P) rfl _
 symm
 refine ay (i:=2) rfl Oh (Df P) (Wj h) ?_ (ag am ao) (.inl (NM P)) _ _
 symm
 refine aW ?_ _
 refine bJ ?_ ?_ ?_ _
 exact lG
 refine ay (i:=3) rfl gC (eP P) fM ?_ (ag cv ao) (.inr (.inl ⟨_,rfl⟩)) _ _
 symm
 refine ax hT ?_ fQ (dG P) rfl _
 symm
def LG(R:bc):SV:=(kh (bt 3) (aH (ah 0) 156) (bX (e7 (aY bI (aP (ah 3) (aM 1)) (ah 1)) (e7 (aY bI (aP (ah 3) (aM 2)) (ah 2)) iU)) (bC (ah 3)) aC aC) (bC (bj .none)))
theorem XH(h:aw P d R):au (fx P) (d+2) rB (LG R) AX:=by
 have hs:aA (fx P) rB:=⟨hT,odr rfl⟩
 unfold LG
 refine fH ?_ ?_ ?_ ?_ rfl _
 symm
 refine ax hT ?_ iE (eW P) rfl _
 symm
 refine ba ?_ ?_ ?_ ?_ _
 refine cM ?_ ?_
 symm
 refine cM ?_ ?_
 symm
 exact fh _
 refine aW ?_ _
 symm
 refine aW ?_ _
 symm
def JB(R:bc):SV:=(aB (bG (ah 0) 156) (gq [0,0,3] (aH (ah 0) 156) (jU 1 30) (aY ej (aP (gc 1 30) (aM 0)) (ib 2)) (gc 1 30)) aC)
theorem VV(h:aw P d R):au (fx P) (d+2) om (JB R) zy:=by
 have hs:aA (fx P) om:=⟨hT,odr rfl⟩
 unfold JB
 refine lY ?_ ?_ ?_ (fun q0 q0=>rfl) rfl rfl _
 refine aQ hT ?_ iE (aX rfl) (eW P) _
 symm
 refine dS (vs':=[(5,.blk),(30,.blk),(191,.cel)]) ?_ _
 refine dU.mk (x:=fx P) (vs:=om) (vs':=[(5,.blk),(30,.blk),(191,.cel)]) (sl:=[0,0,3]) hT hD ?_ ?_ ?_ ?_ rfl (.blk T5 (.blk jO (.cel (j:=1) kF rfl .nil))) (odr rfl) rfl
 refine ax hT ?_ iE (eW P) rfl _
 symm
 exact eA hT rfl jO _
 refine gT ?_
 refine bd (cz hT) ?_ ?_ rfl _
 symm
 exact cS rfl jO _
 symm
 exact dN rfl kF _
 exact cS rfl jO _
 symm
def Kp(R:bc):SV:=(bX (aY jL (ah 1) (bj .none)) (bC (bj (.bool false))) aC (aB (bt 2) (aP (aH (ah 0) 162) (ah 1)) (bC (zT (aH (ah 2) 193) (zT (gJ xr (aT jG (af (aH (ah 2) 36) aj)) (aH (ah 2) 50)) (gJ qg (bO db (ch R) (ah 0) 232 (af (ar 59) (af (ah 1) aj))) (bj .none)))))))
theorem Wn(h:aw P d R):au (fx P) (d+2) rN (Kp R) zE:=by
 have hs:aA (fx P) rN:=⟨hT,odr rfl⟩
 unfold Kp
 refine ba ?_ ?_ ?_ ?_ _
 refine bd eD ?_ ?_ rfl _
 symm
 refine aW ?_ _
 symm
 left
 symm
 refine ax hT ?_ fQ (dG P) rfl _
 symm
 refine aW ?_ _
 refine pq ?_ ?_
 refine ax hT ?_ re (kY P) rfl _
 symm
 refine pq ?_ ?_
 refine dP mO ?_ ?_ rfl _
 refine ay (i:=3) rfl gC (eP P) fM ?_ (ag cv ao) (.inr (.inl ⟨_,rfl⟩)) _ _
 symm
 refine ax hT ?_ lc (gm P) rfl _
 symm
 refine ax hT ?_ su (EC P) rfl _
 symm
 refine wA ?_ _ _
 refine dP kM ?_ ?_ rfl _
 refine bo hT hD (bz h) ?_ ?_ oh rfl (ag aG (ag am ao)) rfl (lsp rfl)
 symm
def Of(R:bc):SV:=(bX (aY jL (ah 1) (bj .none)) (bC (bj (.bool false))) aC (aB (bt 2) (aP (aH (ah 0) 162) (ah 1)) (bC (zT (aH (ah 2) 193) (zT (gJ ej (aH (ah 2) 36) (bb aj)) (gJ qg (bO db (ch R) (ah 0) 232 (af (ar 53) (af (ah 1) aj))) (bj .none)))))))
theorem VR(h:aw P d R):au (fx P) (d+2) qo (Of R) AE:=by
 have hs:aA (fx P) qo:=⟨hT,odr rfl⟩
 unfold Of
 refine ba ?_ ?_ ?_ ?_ _
 refine bd eD ?_ ?_ rfl _
 symm
 refine aW ?_ _
 symm
 left
 symm
 refine ax hT ?_ fQ (dG P) rfl _
 symm
 refine aW ?_ _
 refine pq ?_ ?_
 refine ax hT ?_ re (kY P) rfl _
 symm
 refine pq ?_ ?_
 refine dP (cz hT) ?_ ?_ rfl _
 refine ax hT ?_ lc (gm P) rfl _
 symm
 refine wA ?_ _ _
 refine dP kM ?_ ?_ rfl _
 refine bo hT hD (bz h) ?_ ?_ oh rfl (ag aG (ag am ao)) rfl (lsp rfl)
 symm
def Kw(R:bc):SV:=(bC (gV (aY bI (ah 1) (ar 53)) (bO db (ch R) (ah 0) 167 (af (ah 2) aj)) (bO db (ch R) (ah 0) 168 (af (ah 2) aj))))
theorem Zn(h:aw P d R):au (fx P) (d+2) qK (Kw R) AY:=by
 have hs:aA (fx P) qK:=⟨hT,odr rfl⟩
 unfold Kw
 refine aW ?_ _
 refine dD ?_ ?_ ?_ _
 symm
 refine bo hT hD (bz h) ?_ ?_ IH rfl (ag am ao) rfl (lsp rfl)
 symm
 refine bo hT hD (bz h) ?_ ?_ Lh rfl (ag am ao) rfl (lsp rfl)
 symm
def M5(R:bc):SV:=(aB (bt 3) (aP (aH (ah 0) 162) (ah 1)) (bX (hW (aH (ah 3) 193)) (bC (aD (af (aD (af (ar 92) (af (ar 250) aj))) (af (bb aj) aj)))) aC (aB (bt 4) (bO db (ch R) (ah 0) 232 (af (ar 59) (af (ah 1) aj))) (bX (aY jL (ah 4) (bj .none)) (bV (gD fP (aH (ah 3) 36) (af (ah 2) aj)) (bC (aD (af (aD (af (ar 54) aj)) (af (bb aj) aj))))) aC (bV (bO db (ch R) (ah 0) 121 (af (aP (ah 4) (aM 0)) aj)) (bC (aD (af (aD (af (ar 54) aj)) (af (bb (af (aD (af (aP (ah 4) (aM 0)) (af (aP (ah 4) (aM 4)) (af (aD (af (ar 174) (af (ah 2) (af (bj (.bool true)) aj)))) aj)))) aj)) aj)))))))))
theorem X8(h:aw P d R):au (fx P) (d+2) ry (M5 R) Bf:=by
 have hs:aA (fx P) ry:=⟨hT,odr rfl⟩
 unfold M5
 left
 symm
 refine ax hT ?_ fQ (dG P) rfl _
 symm
 refine ba ?_ ?_ ?_ ?_ _
 refine dE ?_ rfl
 refine ax hT ?_ re (kY P) rfl _
 symm
 refine aW ?_ _
 symm
 exact jQ (i:=5) rfl yo (vX P) (.str _ LE) _
 symm
 left
 symm
 refine bo hT hD (bz h) ?_ ?_ oh rfl (ag aG (ag am ao)) rfl (lsp rfl)
 symm
 refine ba ?_ ?_ ?_ ?_ _
 refine bd eD ?_ ?_ rfl _
 symm
 refine bg ?_ ?_ rfl _
 refine cZ PySem.F.slot_list_append cI dz ?_ ?_ rfl (ag am ao) rfl (lsp rfl)
 refine ax hT ?_ lc (gm P) rfl _
 symm
 refine aW ?_ _
 symm
 refine bg ?_ ?_ rfl _
 refine bo hT hD (bz h) ?_ ?_ x4 rfl (ag bQ ao) rfl (lsp rfl)
 symm
 refine aW ?_ _
 symm
def Ji(R:bc):SV:=(ke 2 [3,2] (aD (af (aP (aH (ah 0) 162) (ah 1)) (af (bO db (ch R) (ah 0) 232 (af (ar 53) (af (ah 1) aj))) aj))) (bX (e7 (aY bI (aH (ah 2) 36) (bb aj)) (e7 (aY jL (ah 3) (bj .none)) iU)) (bC (aD (af (aD (af (ar 174) (af (bj .none) (af (bj (.bool false)) aj)))) (af (bb aj) aj)))) aC (bX (aY qg (ah 3) (bj .none)) (bV (gD fP (aH (ah 2) 36) (af (aP (ah 3) (aM 3)) aj)) (bV (bO db (ch R) (ah 0) 121 (af (aP (ah 3) (aM 0)) aj)) aC)) aC (aB (bt 4) (gD EW (aH (ah 2) 36) (af (aM 0) aj)) (bC (aD (af (aD (af (ar 174) (af (ah 4) (af (bj (.bool true)) aj)))) (af (gV (aY jL (ah 3) (bj .none)) (bb aj) (bb (af (aD (af (aP (ah 3) (aM 0)) (af (aP (ah 3) (aM 4)) (af (aD (af (ar 54) aj)) aj)))) aj))) aj))))))))
theorem Wx(h:aw P d R):au (fx P) (d+2) qe (Ji R) As:=by
 have hs:aA (fx P) qe:=⟨hT,odr rfl⟩
 unfold Ji
 refine fo (js:=[2,3]) hs (.cons rfl jZ (.cons rfl qx .nil)) ?_ ?_ ?_ ?_ ?_ ?_ ?_ ?_ (lF (js:=[2,3]) hs (.cons rfl jZ (.cons rfl qx .nil)) (odr rfl)) ?_ ?_ _
 symm
 refine ax hT ?_ fQ (dG P) rfl _
 symm
 refine bo hT hD (bz h) ?_ ?_ oh rfl (ag aG (ag am ao)) rfl (lsp rfl)
 symm
 refine ba ?_ ?_ ?_ ?_ _
 refine cM ?_ ?_
 symm
 refine ax hT ?_ lc (gm P) rfl _
 symm
 refine cM ?_ ?_
 refine bd eD ?_ ?_ rfl _
 symm
 exact fh _
 refine aW ?_ _
 symm
 refine ba ?_ ?_ ?_ ?_ _
 refine bd kM ?_ ?_ rfl _
 symm
 refine bg ?_ ?_ rfl _
 refine cZ PySem.F.slot_list_append cI dz ?_ ?_ rfl (ag bQ ao) rfl (lsp rfl)
 refine ax hT ?_ lc (gm P) rfl _
 symm
 refine bg ?_ ?_ rfl _
 refine bo hT hD (bz h) ?_ ?_ x4 rfl (ag bQ ao) rfl (lsp rfl)
 symm
 left
 symm
 refine cZ PySem.F.slot_list_pop Mh BD ?_ ?_ rfl (ag aG ao) rfl (lsp rfl)
 refine ax hT ?_ lc (gm P) rfl _
 symm
 refine aW ?_ _
 symm
 refine dD ?_ ?_ ?_ _
 refine bd eD ?_ ?_ rfl _
 symm
 exact rfl
 exact rfl
 exact rfl
 exact (.inl rfl)
 exact rfl
 exact rfl
 exact rfl
 kernel_rfl
def MU(R:bc):SV:=(bC (gV (aY bI (ah 1) (ar 53)) (bO db (ch R) (ah 0) 176 (af (ah 2) (af (ah 3) aj))) (bO db (ch R) (ah 0) 177 (af (ah 2) aj))))
theorem aai(h:aw P d R):au (fx P) (d+2) qL (MU R) An:=by
 have hs:aA (fx P) qL:=⟨hT,odr rfl⟩
 unfold MU
 refine aW ?_ _
 refine dD ?_ ?_ ?_ _
 symm
 refine bo hT hD (bz h) ?_ ?_ Ly rfl (ag am (ag am ao)) rfl (lsp rfl)
 symm
 refine bo hT hD (bz h) ?_ ?_ Iv rfl (ag am ao) rfl (lsp rfl)
 symm
def OA(R:bc):SV:=(bX (aY jL (ah 1) (bj .none)) bw aC (aB (bt 2) (aP (aH (ah 0) 162) (ah 1)) (bX (hW (aH (ah 2) 193)) bw aC (aB (bG (ah 2) 193) (bj (.bool true)) (bC (aD (af (aD (af (ar 31) aj)) (af (dp (dW fF) (bO db (ch R) (ah 0) 80 (af (ar 59) (af (ah 1) (af (aD (af (ar 174) (af (bj .none) (af (bj (.bool false)) aj)))) aj)))) (bO db (ch R) (ah 0) 80 (af (ar 53) (af (ah 1) (af (aD (af (ar 92) (af (ar 250) aj))) aj))))) aj))))))))
theorem VJ(h:aw P d R):au (fx P) (d+2) rD (OA R) A8:=by
 have hs:aA (fx P) rD:=⟨hT,odr rfl⟩
 unfold OA
 refine ba ?_ ?_ ?_ ?_ _
 refine bd eD ?_ ?_ rfl _
 symm
 left
 symm
 refine ax hT ?_ fQ (dG P) rfl _
 symm
 refine ba ?_ ?_ ?_ ?_ _
 refine dE ?_ rfl
 refine ax hT ?_ re (kY P) rfl _
 symm
 left
 refine aQ hT ?_ re (aX rfl) (kY P) _
 symm
 refine aW ?_ _
 symm
 refine bJ (cj (cG P)) ?_ ?_ _
 refine bo hT hD (bz h) ?_ ?_ MY rfl (ag aG (ag am (ag bL ao))) rfl (lsp rfl)
 symm
 refine bo hT hD (bz h) ?_ ?_ MY rfl (ag aG (ag am (ag bL ao))) rfl (lsp rfl)
 symm
 exact jQ (i:=5) rfl yo (vX P) (.str _ LE) _
 symm
def HK(R:bc):SV:=(ke 2 [5,4] (aD (af (bb aj) (af (bO db (ch R) (ah 0) 232 (af (ah 1) (af (ah 2) aj))) aj))) (xS (aY qg (ah 5) (bj .none)) (bV (gD fP (ah 4) (af (aD (af (aP (ah 5) (aM 0)) (af (aP (ah 5) (aM 4)) (af (ah 3) aj)))) aj)) (bV (bO db (ch R) (ah 0) 121 (af (aP (ah 5) (aM 0)) aj)) (aB (bt 5) (bO db (ch R) (ah 0) 232 (af (ah 1) (af (ah 2) aj))) aC))) (bC (ah 4))))
theorem aap(h:aw P d R):au (fx P) (d+2) rO (HK R) Af:=by
 have hs:aA (fx P) rO:=⟨hT,odr rfl⟩
 unfold HK
 refine fo (js:=[4,5]) hs (.cons rfl kQ (.cons rfl jO .nil)) ?_ ?_ ?_ ?_ ?_ ?_ ?_ ?_ (lF (js:=[4,5]) hs (.cons rfl kQ (.cons rfl jO .nil)) (odr rfl)) ?_ ?_ _
 symm
 refine bo hT hD (bz h) ?_ ?_ oh rfl (ag am (ag am ao)) rfl (lsp rfl)
 symm
 refine rl ?_ ?_ ?_ _
 refine bd kM ?_ ?_ rfl _
 symm
 refine bg ?_ ?_ rfl _
 refine cZ PySem.F.slot_list_append cI dz ?_ ?_ rfl (ag bL ao) rfl (lsp rfl)
 symm
 refine bg ?_ ?_ rfl _
 refine bo hT hD (bz h) ?_ ?_ x4 rfl (ag bQ ao) rfl (lsp rfl)
 symm
 left
 symm
 refine bo hT hD (bz h) ?_ ?_ oh rfl (ag am (ag am ao)) rfl (lsp rfl)
 symm
 refine aW ?_ _
 symm
 exact rfl
 exact rfl
 exact rfl
 exact (.inl rfl)
 exact rfl
 exact rfl
 exact rfl
 kernel_rfl
def Ku(R:bc):SV:=(E7 (je 2 (bK (bt 3) (bK (je 3 (bK (bt 4) (bK (bt 5) (bK (bt 6) ft)))) ft))) (ah 2) (bX (aY qg (ah 5) (bj .none)) (bV (gD fP (aH (ah 0) 156) (af (aD (af (ah 1) (af (ah 4) (af (ah 5) (af (ah 6) (af (ah 3) aj)))))) aj)) aC) aC aC) aC)
theorem X1(h:aw P d R):au (fx P) (d+2) qh (Ku R) Ba:=by
 have hs:aA (fx P) qh:=⟨hT,odr rfl⟩
 unfold Ku
 refine BC (i0:=7) rfl Ik (DZ P) ?_ ?_ am ?_ ?_ _ _ _
 refine eL ?_ (ag am (ag bL ao)) _ _
 refine bu ?_ ?_ rfl
 symm
 refine bu ?_ ?_ rfl
 refine eL ?_ (ag am (ag am (ag am ao))) _ _
 refine bu ?_ ?_ rfl
 symm
 refine bu ?_ ?_ rfl
 symm
 refine bu ?_ ?_ rfl
 symm
 exact dK
 exact dK
 symm
 refine ba ?_ ?_ ?_ ?_ _
 refine bd kM ?_ ?_ rfl _
 symm
 refine bg ?_ ?_ rfl _
 refine cZ PySem.F.slot_list_append cI dz ?_ ?_ rfl (ag bL ao) rfl (lsp rfl)
 refine ax hT ?_ iE (eW P) rfl _
 symm
def OV(R:bc):SV:=(aB (bG (ah 0) 50) (ah 1) (aB (bG (ah 0) 36) (bb aj) (aB (bG (ah 0) 193) (bj (.bool false)) aC)))
theorem Ze(h:aw P d R):au (fx P) (d+2) qu (OV R) Bh:=by
 have hs:aA (fx P) qu:=⟨hT,odr rfl⟩
 unfold OV
 left
 refine aQ hT ?_ su (aX rfl) (EC P) _
 symm
 left
 refine aQ hT ?_ lc (aX rfl) (gm P) _
 symm
 left
 refine aQ hT ?_ re (aX rfl) (kY P) _
 symm
def Ov(R:bc):SV:=(aB (bG (ah 0) 36) (bb aj) (aB (bG (ah 0) 116) gW (aB (bG (ah 0) 156) (bb aj) aC)))
theorem W0(h:aw P d R):au (fx P) (d+2) rg (Ov R) AW:=by
 have hs:aA (fx P) rg:=⟨hT,odr rfl⟩
 unfold Ov
 left
 refine aQ hT ?_ lc (aX rfl) (gm P) _
 symm
 left
 refine aQ hT ?_ ym (aX rfl) (pQ P) _
 symm
 exact dH _
 left
 refine aQ hT ?_ iE (aX rfl) (eW P) _
 symm
def JV(R:bc):SV:=(bX (aY x8 (ah 1) (aH (ah 0) 36)) (bV (gD fP (aH (ah 0) 36) (af (ah 1) aj)) (bC (bj (.bool true)))) aC (bV (gD fP (aH (ah 0) 156) (af (aD (af (ah 1) (af (ah 2) aj))) aj)) (bC (bj (.bool false)))))
theorem WM(h:aw P d R):au (fx P) (d+2) qY (JV R) AB:=by
 have hs:aA (fx P) qY:=⟨hT,odr rfl⟩
 unfold JV
 refine ba ?_ ?_ ?_ ?_ _
 refine bd (qv hT) ?_ ?_ rfl _
 symm
 refine ax hT ?_ lc (gm P) rfl _
 symm
 refine bg ?_ ?_ rfl _
 refine cZ PySem.F.slot_list_append cI dz ?_ ?_ rfl (ag am ao) rfl (lsp rfl)
 refine ax hT ?_ lc (gm P) rfl _
 symm
 refine aW ?_ _
 symm
 refine bg ?_ ?_ rfl _
 refine cZ PySem.F.slot_list_append cI dz ?_ ?_ rfl (ag bL ao) rfl (lsp rfl)
 refine ax hT ?_ iE (eW P) rfl _
 symm
 refine aW ?_ _
 symm
def Hj(R:bc):SV:=(bX (aY bI (IW (nq 28) (aH (ah 0) 116) (af (ah 1) (af (aM 0) aj))) (aM 0)) (bC (bj (.bool true))) aC (bV (gD fP (aH (ah 0) 156) (af (aD (af (ah 1) (af (ah 2) aj))) aj)) (bC (bj (.bool false)))))
theorem Xx(h:aw P d R):au (fx P) (d+2) qw (Hj R) zC:=by
 have hs:aA (fx P) qw:=⟨hT,odr rfl⟩
 unfold Hj
 refine ba ?_ ?_ ?_ ?_ _
 symm
 refine AL (jX P) MT ?_ ?_ rfl (ag am (ag aG ao)) rfl (lsp rfl)
 refine ax hT ?_ ym (pQ P) rfl _
 symm
 refine aW ?_ _
 symm
 refine bg ?_ ?_ rfl _
 refine cZ PySem.F.slot_list_append cI dz ?_ ?_ rfl (ag bL ao) rfl (lsp rfl)
 refine ax hT ?_ iE (eW P) rfl _
 symm
 refine aW ?_ _
 symm
def O4(R:bc):SV:=(aB (bG (ah 0) 143) (ah 1) (aB (bG (ah 0) 8) (bb aj) (aB (bG (ah 0) 37) (bj .none) aC)))
theorem Y9(h:aw P d R):au (fx P) (d+2) rp (O4 R) AK:=by
 have hs:aA (fx P) rp:=⟨hT,odr rfl⟩
 unfold O4
 left
 refine aQ hT ?_ oC (aX rfl) (tD P) _
 symm
 left
 refine aQ hT ?_ T8 (aX rfl) (j9 P) _
 symm
 left
 refine aQ hT ?_ zr (aX rfl) (sS P) _
 symm
def Lr(R:bc):SV:=(aB (bt 1) (aT (n8 R) (af (aT jG (af (aH (ah 0) 8) aj)) aj)) (bV (gD fP (aH (ah 0) 8) (af (ah 1) aj)) (bX (aY jL (aH (ah 0) 37) (bj .none)) (aB (bG (ah 0) 37) (ah 1) aC) aC (bC (ah 1)))))
theorem Wa(h:aw P d R):au (fx P) (d+2) qi (Lr R) Bu:=by
 have hs:aA (fx P) qi:=⟨hT,odr rfl⟩
 unfold Lr
 left
 symm
 refine ay (i:=2) rfl Oy (BU P) (Y1 h) ?_ (ag eN ao) (.inl (La P)) _ _
 symm
 refine ay (i:=3) rfl gC (eP P) fM ?_ (ag cv ao) (.inr (.inl ⟨_,rfl⟩)) _ _
 symm
 refine ax hT ?_ T8 (j9 P) rfl _
 symm
 refine bg ?_ ?_ rfl _
 refine cZ PySem.F.slot_list_append cI dz ?_ ?_ rfl (ag am ao) rfl (lsp rfl)
 refine ax hT ?_ T8 (j9 P) rfl _
 symm
 refine ba ?_ ?_ ?_ ?_ _
 refine bd eD ?_ ?_ rfl _
 refine ax hT ?_ zr (sS P) rfl _
 symm
 left
 refine aQ hT ?_ zr (aX rfl) (sS P) _
 symm
 refine aW ?_ _
 symm
def Ny(R:bc):SV:=(Dt 1 [0,0] (aH (ah 0) 8) (jU 1 15) (aY bI (aH (gc 1 15) 98) (ar 96)) (gc 1 15) (bX (aY bI (ah 1) (bb aj)) bw aC (aB (bG (ah 0) 37) (aP (ah 1) (bO db (ch R) (aH (ah 0) 143) 47 (af (aT jG (af (ah 1) aj)) aj))) (bC (bj (.bool true))))))
theorem VN(h:aw P d R):au (fx P) (d+2) oD (Ny R) Aj:=by
 have hs:aA (fx P) oD:=⟨hT,odr rfl⟩
 unfold Ny
 refine xe (vs':=[(5,.blk),(15,.blk)]) ?_ hs rfl Ad ?_ ?_ _ _ _ ?_
 refine dU.mk (x:=fx P) (vs:=oD) (vs':=[(5,.blk),(15,.blk)]) (sl:=[0,0]) hT hD ?_ ?_ ?_ ?_ rfl (.blk T5 (.blk jZ .nil)) (odr rfl) rfl
 refine ax hT ?_ T8 (j9 P) rfl _
 symm
 exact eA hT rfl jZ _
 refine gT ?_
 symm
 refine ax hT ?_ tN (lN P) rfl _
 exact cS rfl jZ _
 symm
 exact cS rfl jZ _
 exact rfl
 refine ba ?_ ?_ ?_ ?_ _
 symm
 left
 refine aQ hT ?_ zr (aX rfl) (sS P) _
 symm
 refine bo hT hD (bz h) ?_ ?_ Ut rfl (ag eN ao) rfl (lsp rfl)
 refine ax hT ?_ oC (tD P) rfl _
 symm
 refine ay (i:=2) rfl gC (eP P) fM ?_ (ag am ao) (.inr (.inl ⟨_,rfl⟩)) _ _
 symm
 refine aW ?_ _
 symm
 exact rfl
def KN(R:bc):SV:=(aB (bt 3) (aP (aH (ah 0) 8) (ah 1)) (bX (aY ej (aH (ah 3) 98) (ar 107)) bw aC (aB (bG (ah 3) 98) (ar 96) (aB (bG (ah 3) 111) (ah 2) aC))))
theorem WT(h:aw P d R):au (fx P) (d+2) rK (KN R) zW:=by
 have hs:aA (fx P) rK:=⟨hT,odr rfl⟩
 unfold KN
 left
 symm
 refine ax hT ?_ T8 (j9 P) rfl _
 symm
 refine ba ?_ ?_ ?_ ?_ _
 refine bd (cz hT) ?_ ?_ rfl _
 refine ax hT ?_ tN (lN P) rfl _
 symm
 left
 refine aQ hT ?_ tN (aX rfl) (lN P) _
 symm
 left
 refine aQ hT ?_ qm (aX rfl) (py P) _
 symm
def Ms(R:bc):SV:=(aB (bG (ah 0) 123) (ah 1) (aB (bG (ah 0) 74) (bb aj) (aB (bG (ah 0) 98) (ar 96) (aB (bG (ah 0) 111) (bj .none) aC))))
theorem Yn(h:aw P d R):au (fx P) (d+2) rG (Ms R) Aw:=by
 have hs:aA (fx P) rG:=⟨hT,odr rfl⟩
 unfold Ms
 left
 refine aQ hT ?_ cK (aX rfl) (k8 P) _
 symm
 left
 refine aQ hT ?_ T74 (aX rfl) (PZ P) _
 symm
 left
 refine aQ hT ?_ tN (aX rfl) (lN P) _
 symm
 left
 refine aQ hT ?_ qm (aX rfl) (py P) _
 symm
def JK(R:bc):SV:=(aB (bG (ah 0) 163) (ah 1) (aB (bG (ah 0) 75) gW (aB (bG (ah 0) 66) (bb aj) (aB (bG (ah 0) 136) (bb aj) (aB (bG (ah 0) 117) (bb aj) (aB (bG (ah 0) 128) (bj .none) (aB (bG (ah 0) 216) (bj (.bool false)) aC)))))))
theorem aay(h:aw P d R):au (fx P) (d+2) qy (JK R) A9:=by
 have hs:aA (fx P) qy:=⟨hT,odr rfl⟩
 unfold JK
 left
 refine aQ hT ?_ Cm (aX rfl) (G7 P) _
 symm
 left
 refine aQ hT ?_ Un (aX rfl) (E8 P) _
 symm
 exact dH _
 left
 refine aQ hT ?_ EA (aX rfl) (sX P) _
 symm
 left
 refine aQ hT ?_ gy (aX rfl) (eZ P) _
 symm
 left
 refine aQ hT ?_ XD (aX rfl) (Pb P) _
 symm
 left
 refine aQ hT ?_ Y7 (aX rfl) (Nb P) _
 symm
 left
 refine aQ hT ?_ YF (aX rfl) (Jd P) _
 symm
def I9(R:bc):SV:=(bX (aY Bn (ah 1) (aT jG (af (aH (ah 0) 136) aj))) bw aC (aB (bt 2) (dp pf (aT jG (af (aH (ah 0) 136) aj)) (ah 1)) (aB (bt 3) (rU (aH (ah 0) 136) (ah 2) (bj .none)) (aB (bG (ah 0) 136) (rU (aH (ah 0) 136) (bj .none) (ah 2)) (bC (ah 3))))))
theorem XJ(h:aw P d R):au (fx P) (d+2) rf (I9 R) Bd:=by
 have hs:aA (fx P) rf:=⟨hT,odr rfl⟩
 unfold I9
 refine ba ?_ ?_ ?_ ?_ _
 refine bd pH ?_ ?_ rfl _
 symm
 refine ay (i:=4) rfl gC (eP P) fM ?_ (ag cv ao) (.inr (.inl ⟨_,rfl⟩)) _ _
 symm
 refine ax hT ?_ gy (eZ P) rfl _
 symm
 left
 symm
 refine bJ ?_ ?_ ?_ _
 exact lG
 refine ay (i:=4) rfl gC (eP P) fM ?_ (ag cv ao) (.inr (.inl ⟨_,rfl⟩)) _ _
 symm
 refine ax hT ?_ gy (eZ P) rfl _
 symm
 left
 symm
 refine kO ?_ ?_ ?_ _ _
 refine ax hT ?_ gy (eZ P) rfl _
 symm
 refine eJ.some ?_
 symm
 exact eJ.none
 left
 refine aQ hT ?_ gy (aX rfl) (eZ P) _
 symm
 refine kO ?_ ?_ ?_ _ _
 refine ax hT ?_ gy (eZ P) rfl _
 symm
 exact eJ.none
 refine eJ.some ?_
 symm
 refine aW ?_ _
 symm
def LC(R:bc):SV:=(aB (bG (ah 0) 18) (ah 1) (aB (bG (ah 0) 100) (aM 0) aC))
theorem Wt(h:aw P d R):au (fx P) (d+2) qB (LC R) zq:=by
 have hs:aA (fx P) qB:=⟨hT,odr rfl⟩
 unfold LC
 left
 refine aQ hT ?_ du (aX rfl) (yY P) _
 symm
 left
 refine aQ hT ?_ Cv (aX rfl) (ut P) _
 symm
def O7(R:bc):SV:=(bX (aY Uw (ah 1) (aM 1)) (bC (aM 0)) aC (aB (bt 2) (aH (ah 0) 100) (aB (bG (ah 0) 100) (dp (dW fF) (ah 2) (aM 1)) (bC (gV (aY xr (ah 2) (aT jG (af (aH (ah 0) 18) aj))) (dp GZ (aP (aH (ah 0) 18) (ah 2)) (ah 1)) (aM 0))))))
theorem Vj(h:aw P d R):au (fx P) (d+2) qU (O7 R) zS:=by
 have hs:aA (fx P) qU:=⟨hT,odr rfl⟩
 unfold O7
 refine ba ?_ ?_ ?_ ?_ _
 refine bd OG ?_ ?_ rfl _
 symm
 refine aW ?_ _
 symm
 left
 symm
 refine ax hT ?_ Cv (ut P) rfl _
 symm
 left
 refine aQ hT ?_ Cv (aX rfl) (ut P) _
 symm
 refine bJ (cj (cG P)) ?_ ?_ _
 symm
 refine aW ?_ _
 refine dD ?_ ?_ ?_ _
 refine bd mO ?_ ?_ rfl _
 symm
 refine ay (i:=3) rfl gC (eP P) fM ?_ (ag cv ao) (.inr (.inl ⟨_,rfl⟩)) _ _
 symm
 refine ax hT ?_ du (yY P) rfl _
 symm
 refine bJ GB ?_ ?_ _
 symm
 refine ax hT ?_ du (yY P) rfl _
 symm
def Ow(R:bc):SV:=(bV (Nm (UG R) (af (ah 0) (af (ar 92) aj))) (aB (ze 114 (ah 0) 106) (ah 1) aC))
theorem Z8(h:aw P d R):au (fx P) (d+2) rR (Ow R) zH:=by
 have hs:aA (fx P) rR:=⟨hT,odr rfl⟩
 unfold Ow
 refine bg ?_ ?_ rfl _
 refine Gg (i:=2) rfl Hb (DY P) (YN P) (Wd P) (YU P) (Pm h) (AC P) ?_ (ag am (ag aG ao)) rfl (lsp rfl)
 symm
 left
 refine qN hT (oH P) ?_ et (aX rfl) (yX P) _
 symm
def Kq(R:bc):SV:=(bV (Va 114 (af (ah 0) (af (ah 1) aj))) (aB (ze 114 (ah 0) 147) (ah 1) (aB (ze 114 (ah 0) 57) (ah 2) aC)))
theorem aat(h:aw P d R):au (fx P) (d+2) rE (Kq R) Ac:=by
 have hs:aA (fx P) rE:=⟨hT,odr rfl⟩
 unfold Kq
 refine bg ?_ ?_ rfl _
 refine Pj (oH P) (i:=3) rfl Hr (CF P) (Yy P) ?_ (ag am (ag am ao)) rfl (lsp rfl)
 symm
 left
 refine qN hT (oH P) ?_ Dg (aX rfl) (Qw P) _
 symm
 left
 refine qN hT (oH P) ?_ Ip (aX rfl) (Xj P) _
 symm
def yl(R:bc):bc:=⟨g2 R,g3 R,g4 R,g5 R,g6 R,g7 R,g8 R,g9 R,ML R,Ky R,Ih R,ID R,IK R,HB R,JW R,NO R,Pv R,NZ R,L5 R,Os R,KE R,HN R,Om R,M3 R,O0 R,LW R,KF R,Hn R,LU R,G2 R,LG R,JB R,Kp R,Of R,Kw R,M5 R,Ji R,MU R,OA R,HK R,Ku R,OV R,Ov R,JV R,Hj R,O4 R,Lr R,Ny R,KN R,Ms R,JK R,I9 R,LC R,O7 R,Ow R,Kq R⟩
theorem Gn(h:aw P d R):aw P (d+2) (yl R):=by
 unfold yl
 refine ⟨?_,?_,?_,?_,?_,?_,?_,?_,?_,?_,?_,?_,?_,?_,?_,?_,?_,?_,?_,?_,?_,?_,?_,?_,?_,?_,?_,?_,?_,?_,?_,?_,?_,?_,?_,?_,?_,?_,?_,?_,?_,?_,?_,?_,?_,?_,?_,?_,?_,?_,?_,?_,?_,?_,?_,?_⟩
 all_goals dsimp only
 exact @zU P d R
 exact @UD P d R h
 exact @ok4 P d R h
 exact @ok5 P d R h
 exact @ok6 P d R h
 exact @ok7 P d R h
 exact @ok8 P d R h
 exact @ok9 P d R h
 exact @ZP P d R h
 exact @X7 P d R h
 exact @Zd P d R h
 exact @WB P d R h
 exact @WJ P d R h
 exact @XZ P d R h
 exact @WU P d R h
 exact @YI P d R h
 exact @Wo P d R h
 exact @XV P d R h
 exact @XC P d R h
 exact @Zc P d R h
 exact @WY P d R h
 exact @VF P d R h
 exact @V9 P d R h
 exact @aam P d R h
 exact @V5 P d R h
 exact @Y5 P d R h
 exact @Ye P d R h
 exact @Vy P d R h
 exact @ZN P d R h
 exact @Za P d R h
 exact @XH P d R h
 exact @VV P d R h
 exact @Wn P d R h
 exact @VR P d R h
 exact @Zn P d R h
 exact @X8 P d R h
 exact @Wx P d R h
 exact @aai P d R h
 exact @VJ P d R h
 exact @aap P d R h
 exact @X1 P d R h
 exact @Ze P d R h
 exact @W0 P d R h
 exact @WM P d R h
 exact @Xx P d R h
 exact @Y9 P d R h
 exact @Wa P d R h
 exact @VN P d R h
 exact @WT P d R h
 exact @Yn P d R h
 exact @aay P d R h
 exact @XJ P d R h
 exact @Wt P d R h
 exact @Vj P d R h
 exact @Z8 P d R h
 exact @aat P d R h
noncomputable def QS:bc:=⟨bw,bw,bw,bw,bw,bw,bw,bw,bw,bw,bw,bw,bw,bw,bw,bw,bw,bw,bw,bw,bw,bw,bw,bw,bw,bw,bw,bw,bw,bw,bw,bw,bw,bw,bw,bw,bw,bw,bw,bw,bw,bw,bw,bw,bw,bw,bw,bw,bw,bw,bw,bw,bw,bw,bw,bw⟩
def aO(n:Nat):bc:=@Nat.rec (fun q0=>bc) QS (fun q0 R=>yl R) n
theorem cJ(P:ak)(j:Nat):∀n,aw P (j+2 * n) (aO n)
 | 0=>⟨bf,bf,bf,bf,bf,bf,bf,bf,bf,bf,bf,bf,bf,bf,bf,bf,bf,bf,bf,bf,bf,bf,bf,bf,bf,bf,bf,bf,bf,bf,bf,bf,bf,bf,bf,bf,bf,bf,bf,bf,bf,bf,bf,bf,bf,bf,bf,bf,bf,bf,bf,bf,bf,bf,bf,bf⟩
 | n+1=>Gn (cJ P j n)
end
end Internal.L
namespace Internal.L
open Internal.N
noncomputable section
theorem iO{x:aR}{d d2:Nat}{f:kB}{v:Value}(le:d<=d2)(h:iG x d f v):iG x d2 f v:=fun gs H nx R k kx e A O L m J s us Q E Z=>h gs H nx R k kx e A O L m J s us Q E (Z.less le)
def EM(R:bc):SX:=(gE (lT (tH (aY jL (ah 0) (bj .none))) (nv 114 (aT (Ex R) (af (ar 239) aj))) (cC aC)) (cC (bC (aD (af (aP (aP (ah 0) (aM 1)) (aM 0)) (af (aP (aP (ah 0) (aM 1)) (aM 1)) (af (aP (ah 0) (aM 2)) aj)))))))
theorem Sl(P:ak):bS (fx P) 30 ug (EM (aO 14)) Fi:=by
 have hs:aA (fx P) ug:=⟨hT,odr rfl⟩
 have h:aw P 28 (aO 14):=cJ P 0 14
 unfold EM
 refine da (l:=[_]) ?_ ?_
 refine gR ?_ ?_ ?_ _
 refine k6 ?_
 refine bd eD ?_ ?_ rfl _
 symm
 refine lR rfl (zl P) ?_ _
 refine ay (i:=1) rfl qQ (oU P) (wa h) ?_ (ag aG ao) (.inl (pA P)) _ _
 symm
 refine bB ?_
 symm
 refine bB ?_
 refine aW ?_ _
 symm
theorem Zu(P:ak):gu (fx P) 30 Ir (EM (aO 14)) 405:=⟨⟨ug,Fi,Ls,IQ P,Sl P⟩,Bb P,by kernel_rfl⟩
noncomputable def U6:kB:=oS Ir (EM (aO 14))
theorem PK(P:ak):iG (fx P) 31 U6 (.ref 405):=jD hT hD (Zu P)
def E4(R:bc):SX:=(gE (lT (tH (aY x8 (ah 1) (aH (ah 0) 36))) (nv 114 (aT (Ex R) (af (ar 251) aj))) (cC aC)) (cC (kh (bt 2) (aH (ah 0) 156) (bX (aY bI (aP (ah 2) (aM 0)) (ah 1)) (bV (gD CL (aH (ah 0) 156) (af (ah 2) aj)) (bC (bb (af (aP (ah 2) (aM 1)) aj)))) aC aC) (bV (gD CL (aH (ah 0) 36) (af (ah 1) aj)) (bC (bb aj))))))
theorem RH(P:ak):bS (fx P) 30 uj (E4 (aO 14)) Fn:=by
 have hs:aA (fx P) uj:=⟨hT,odr rfl⟩
 have h:aw P 28 (aO 14):=cJ P 0 14
 unfold E4
 refine da (l:=[_]) ?_ ?_
 refine gR ?_ ?_ ?_ _
 refine k6 ?_
 refine bd (qv hT) ?_ ?_ rfl _
 symm
 refine ax hT ?_ lc (gm P) rfl _
 symm
 refine lR rfl (zl P) ?_ _
 refine ay (i:=3) rfl qQ (oU P) (wa h) ?_ (ag aG ao) (.inl (pA P)) _ _
 symm
 refine bB ?_
 symm
 refine bB ?_
 refine fH ?_ ?_ ?_ ?_ rfl _
 symm
 refine ax hT ?_ iE (eW P) rfl _
 symm
 refine ba ?_ ?_ ?_ ?_ _
 symm
 refine bg ?_ ?_ rfl _
 refine cZ PySem.F.slot_list_remove PySem.F.type_list_remove (xo hT) ?_ ?_ rfl (ag am ao) rfl (lsp rfl)
 refine ax hT ?_ iE (eW P) rfl _
 symm
 refine aW ?_ _
 symm
 refine bg ?_ ?_ rfl _
 refine cZ PySem.F.slot_list_remove PySem.F.type_list_remove (xo hT) ?_ ?_ rfl (ag am ao) rfl (lsp rfl)
 refine ax hT ?_ lc (gm P) rfl _
 symm
 refine aW ?_ _
 symm
theorem aac(P:ak):gu (fx P) 30 OP (E4 (aO 14)) 1047:=⟨⟨uj,Fn,Og,Mf P,RH P⟩,Oj P,by kernel_rfl⟩
def EZ(R:bc):SX:=(gE (cC (aB (bt 3) (dp (dW fF) (IW (nq 28) (aH (ah 0) 116) (af (ib 1) (af (aM 0) aj))) (ah 2)) aC)) (gE (lT (tH (aY xr (ah 3) (aM 0))) (nv 114 (aT (Ex R) (af (ar 252) aj))) (cC aC)) (cC (aB (Fd 28 (aH (ah 0) 116) (ib 1)) (ah 3) (bX (aY Bn (ah 3) (aM 0)) (bC (bb aj)) aC (Dt 4 [0,0,3] (aH (ah 0) 156) (jU 1 18) (aY bI (aP (gc 1 18) (aM 0)) (ib 2)) (aP (gc 1 18) (aM 1)) (aB (bG (ah 0) 156) (gq [0,0,3] (aH (ah 0) 156) (jU 1 18) (aY ej (aP (gc 1 18) (aM 0)) (ib 2)) (gc 1 18)) (bC (ah 4)))))))))
theorem SY(P:ak):bS (fx P) 30 nZ (EZ (aO 14)) E9:=by
 have hs:aA (fx P) nZ:=⟨hT,odr rfl⟩
 have h:aw P 28 (aO 14):=cJ P 0 14
 unfold EZ
 refine da (l:=[_]) ?_ ?_
 refine bB ?_
 left
 symm
 refine bJ (cj (cG P)) ?_ ?_ _
 refine AL (jX P) MT ?_ ?_ rfl (ag am (ag aG ao)) rfl (lsp rfl)
 refine ax hT ?_ ym (pQ P) rfl _
 symm
 exact dN rfl jq _
 symm
 refine da (l:=[_]) ?_ ?_
 refine gR ?_ ?_ ?_ _
 refine k6 ?_
 refine bd mO ?_ ?_ rfl _
 symm
 refine lR rfl (zl P) ?_ _
 refine ay (i:=5) rfl qQ (oU P) (wa h) ?_ (ag aG ao) (.inl (pA P)) _ _
 symm
 refine bB ?_
 symm
 refine bB ?_
 left
 refine Cq MT ?_ ?_ _
 refine ax hT ?_ ym (pQ P) rfl _
 symm
 exact dN rfl jq _
 symm
 refine ba ?_ ?_ ?_ ?_ _
 refine bd pH ?_ ?_ rfl _
 symm
 refine aW ?_ _
 symm
 refine xe (vs':=[(5,.blk),(18,.blk),(93,.cel)]) ?_ hs rfl kQ ?_ ?_ _ _ _ ?_
 refine dU.mk (x:=fx P) (vs:=nZ) (vs':=[(5,.blk),(18,.blk),(93,.cel)]) (sl:=[0,0,3]) hT hD ?_ ?_ ?_ ?_ rfl (.blk T5 (.blk du (.cel (j:=1) jq rfl .nil))) (odr rfl) rfl
 refine ax hT ?_ iE (eW P) rfl _
 symm
 exact eA hT rfl du _
 refine gT ?_
 symm
 exact cS rfl du _
 symm
 exact dN rfl jq _
 symm
 exact cS rfl du _
 symm
 exact rfl
 refine lY ?_ ?_ ?_ (fun q0 q0=>rfl) rfl rfl _
 refine aQ hT ?_ iE (aX rfl) (eW P) _
 symm
 refine dS (vs':=[(5,.blk),(18,.blk),(93,.cel)]) ?_ _
 refine dU.mk (x:=fx P) (vs:=nZ) (vs':=[(5,.blk),(18,.blk),(93,.cel)]) (sl:=[0,0,3]) hT hD ?_ ?_ ?_ ?_ rfl (.blk T5 (.blk du (.cel (j:=1) jq rfl .nil))) (odr rfl) rfl
 refine ax hT ?_ iE (eW P) rfl _
 symm
 exact eA hT rfl du _
 refine gT ?_
 refine bd (cz hT) ?_ ?_ rfl _
 symm
 exact cS rfl du _
 symm
 exact dN rfl jq _
 exact cS rfl du _
 refine aW ?_ _
 symm
 exact rfl
theorem Z7(P:ak):gu (fx P) 30 Pi (EZ (aO 14)) 1052:=⟨⟨nZ,E9,Kv,MD P,SY P⟩,Mb P,by kernel_rfl⟩
def Fe(R:bc):SX:=(gE (cC (bX (aY bI (ah 2) (ar 146)) oZ aC aC)) (gE (sV (bt 4) (gg U6 (af (aP (ah 3) (aM 0)) aj))) (gE (lT (tH (aY bI (ah 2) (ar 40))) (cC (aB (bt 5) (bO db (ch R) (aH (ah 0) 85) 165 (af (ah 4) (af (aH (ah 1) 123) aj))) aC)) (lT (tH (aY bI (ah 2) (ar 64))) (cC (aB (bt 5) (bO db (ch R) (aH (ah 0) 85) 179 (af (ah 4) (af (aH (ah 1) 123) aj))) aC)) (gE (cC (aB (bt 5) (bj (.bool true)) aC)) (gE (sV (bt 6) (Mr (aY bI (ah 2) (ar 135)) (t9 6 OP (E4 R) (aH (ah 0) 85) 210 (af (ah 4) aj)) (t9 6 Pi (EZ R) (aH (ah 0) 85) 139 (af (ah 4) (af (gV (aY bI (ah 2) (ar 7)) (aP (ah 3) (aM 1)) (xF qr (aM 1))) aj))))) (cC (kh (bt 7) (ah 6) (bV (bO db (ch R) (aH (ah 0) 175) 180 (af (ah 7) (af (bj .none) aj))) aC) aC)))))) (cC (bX (jY (hW (ah 5))) (bV (bO db (ch R) (ah 0) 196 (af (ah 1) aj)) aC) aC aC)))))
theorem Q3(P:ak):bS (fx P) 31 um (Fe (aO 14)) Ey:=by
 have hs:aA (fx P) um:=⟨hT,odr rfl⟩
 have h:aw P 29 (aO 14):=cJ P 1 14
 unfold Fe
 refine da (l:=[_]) ?_ ?_
 refine bB ?_
 refine ba ?_ ?_ ?_ ?_ _
 symm
 exact lV _
 symm
 refine da (l:=[_]) ?_ ?_
 refine nW ?_ ?_ rfl (.inl rfl) rfl _
 symm
 refine d6 (i:=8) rfl Jn (DD P) (iO (Nat.le_of_ble_eq_true rfl) (PK P)) ?_ (ag bQ ao) (Bb P) _ _
 symm
 refine da (l:=[_]) ?_ ?_
 refine gR ?_ ?_ ?_ _
 refine k6 ?_
 symm
 refine bB ?_
 left
 symm
 refine bo hT hD (bz h) ?_ ?_ Po rfl (ag am (ag cv ao)) rfl (lsp rfl)
 refine ax hT ?_ AF (pC P) rfl _
 symm
 refine ax hT ?_ cK (k8 P) rfl _
 symm
 refine gR ?_ ?_ ?_ _
 refine k6 ?_
 symm
 refine bB ?_
 left
 symm
 refine bo hT hD (bz h) ?_ ?_ IX rfl (ag am (ag cv ao)) rfl (lsp rfl)
 refine ax hT ?_ AF (pC P) rfl _
 symm
 refine ax hT ?_ cK (k8 P) rfl _
 symm
 refine da (l:=[_]) ?_ ?_
 refine bB ?_
 left
 symm
 refine da (l:=[_]) ?_ ?_
 refine nW ?_ ?_ rfl (.inl rfl) rfl _
 symm
 refine FJ ?_ ?_ ?_ _
 symm
 refine sr hT hD (cx:=1062) rfl (by kernel_rfl) (by kernel_rfl) (aac P) ?_ ?_ ZM rfl (ag am ao) rfl (lsp rfl)
 refine ax hT ?_ AF (pC P) rfl _
 symm
 refine sr hT hD (cx:=1062) rfl (by kernel_rfl) (by kernel_rfl) (Z7 P) ?_ ?_ VC rfl (ag am (ag iC ao)) rfl (lsp rfl)
 refine ax hT ?_ AF (pC P) rfl _
 symm
 refine dD ?_ ?_ ?_ _
 symm
 refine mB kT ?_ _
 symm
 refine bB ?_
 refine fH ?_ ?_ ?_ ?_ rfl _
 symm
 refine bg ?_ ?_ rfl _
 refine bo hT hD (bz h) ?_ ?_ CR rfl (ag am (ag aG ao)) rfl (lsp rfl)
 refine ax hT ?_ jJ (gj P) rfl _
 symm
 refine bB ?_
 refine ba ?_ ?_ ?_ ?_ _
 refine fJ ?_ _
 refine dE ?_ rfl
 symm
 refine bg ?_ ?_ rfl _
 refine bo hT hD (bz h) ?_ ?_ DT rfl (ag am ao) rfl (lsp rfl)
 symm
theorem Vd(P:ak):gu (fx P) 31 J5 (Fe (aO 14)) 757:=⟨⟨um,Ey,J4,JE P,Q3 P⟩,uN P,by kernel_rfl⟩
noncomputable def Oq:kB:=oS J5 (Fe (aO 14))
theorem Fs(P:ak):iG (fx P) 32 Oq (.ref 757):=jD hT hD (Vd P)
def EH(R:bc):SX:=(gE (cC (aB (bt 4) (gV (aY bI (ah 2) (ar 146)) (bb aj) (bb (af (aT (EY R) (af (gV (aY pX (ah 2) (bb (af (ar 40) (af (ar 135) aj)))) (aM 0) (aM 1)) aj)) aj))) aC)) (gE (yD 114 106 2 (x9 (gg Oq (af (ah 0) (af (ah 1) (af (ah 2) (af (dp (dW fF) (ah 4) (gV (aY bI (ah 2) (ar 7)) (bb (af (ah 3) aj)) (bb aj))) aj))))))) (cC (bC (ar 0)))))
theorem TG(P:ak):bS (fx P) 32 uY (EH (aO 14)) EK:=by
 have hs:aA (fx P) uY:=⟨hT,odr rfl⟩
 have h:aw P 30 (aO 14):=cJ P 2 14
 unfold EH
 refine da (l:=[_]) ?_ ?_
 refine bB ?_
 left
 symm
 refine dD ?_ ?_ ?_ _
 symm
 refine ay (i:=6) rfl IC (DW P) (Nw h) ?_ (ag iC ao) (.inl (Bk P)) _ _
 symm
 refine dD ?_ ?_ ?_ _
 refine bd (lj hT) ?_ ?_ rfl _
 symm
 refine da (l:=[_]) ?_ ?_
 refine vo hT (oH P) (Mm P) ?_ rfl (ie:=8) rfl qE (oO P) (ip:=5) rfl ES et (yX P)
 refine uC ?_ rfl _
 refine d6 (i:=7) rfl yP (vO P) (iO (Nat.le_of_ble_eq_true rfl) (Fs P)) ?_ (ag am (ag am (ag am (ag j8 ao)))) (uN P) _ _
 symm
 refine bJ (cj (cG P)) ?_ ?_ _
 symm
 refine dD ?_ ?_ ?_ _
 symm
 refine bB ?_
 refine aW ?_ _
 symm
theorem Wh(P:ak):gu (fx P) 32 Mu (EH (aO 14)) 1989:=⟨⟨uY,EK,M9,Pq P,TG P⟩,zL P,by kernel_rfl⟩
noncomputable def Um:kB:=oS Mu (EH (aO 14))
theorem SM(P:ak):iG (fx P) 33 Um (.ref 1989):=jD hT hD (Wh P)
def EE(R:bc):SX:=(gE (cC (aB (bt 0) (aT (c4 R) aj) aC)) (gE (yD 114 106 2 (x9 (gg Oq (af (ah 0) (af (aP (aH (aH (ah 0) 175) 8) (aM 0)) (af (ar 40) (af (bb (af (bj .none) aj)) aj))))))) (cC (bC (bj (.byt (jm [])))))))
theorem PW(P:ak):bS (fx P) 32 v7 (EE (aO 14)) E2:=by
 have hs:aA (fx P) v7:=⟨hT,odr rfl⟩
 have h:aw P 30 (aO 14):=cJ P 2 14
 unfold EE
 refine da (l:=[_]) ?_ ?_
 refine bB ?_
 left
 symm
 refine ay (i:=2) rfl lL (jN P) (pZ h) ?_ ao (.inl (nu P)) _ _
 symm
 refine da (l:=[_]) ?_ ?_
 refine vo hT (oH P) (Mm P) ?_ rfl (ie:=4) rfl qE (oO P) (ip:=1) rfl ES et (yX P)
 refine uC ?_ rfl _
 refine d6 (i:=3) rfl yP (vO P) (iO (Nat.le_of_ble_eq_true rfl) (Fs P)) ?_ (ag am (ag bQ (ag aG (ag gr ao)))) (uN P) _ _
 symm
 refine ax hT ?_ T8 (j9 P) rfl _
 refine ax hT ?_ jJ (gj P) rfl _
 symm
 refine bB ?_
 refine aW ?_ _
 exact lb [] rfl _ _
theorem YS(P:ak):gu (fx P) 32 M0 (EE (aO 14)) 2003:=⟨⟨v7,E2,Ln,KC P,PW P⟩,Bc P,by kernel_rfl⟩
noncomputable def Vb:kB:=oS M0 (EE (aO 14))
theorem Ss(P:ak):iG (fx P) 33 Vb (.ref 2003):=jD hT hD (YS P)
end
end Internal.L
namespace Internal.L
open Internal.N
noncomputable section
structure eT where
 room:Nat
 held:Nat
 closed:Bool
 send:Bool
 waits:List Nat
 lost:List Nat
 ans:List Nat
 sh:List Nat
def dT(g:Nat)(l:List Nat):Bool:=@List.rec Nat (fun q0=>Bool) false (fun a q0 ih=>@Bool.rec (fun q0=>Bool) ih true (Nat.beq a g)) l
def eu{α:Type}(f:Nat->α)(l:List Nat):List α:=@List.rec Nat (fun q0=>List α) [] (fun a q0 ih=>f a::ih) l
def yn{α:Type}(f:Nat->Nat->α)(i:Nat)(l:List Nat):List α:=@List.rec Nat (fun q0=>Nat->List α) (fun q0=>[]) (fun a q0 ih i=>f i a::ih (Nat.succ i)) l i
def dy{α:Type}(l r:List α):List α:=@List.rec α (fun q0=>List α) r (fun a q0 ih=>a::ih) l
def vv(l:List Nat):Nat:=@List.rec Nat (fun q0=>Nat) 0 (fun q0 q0 n=>Nat.succ n) l
noncomputable def ic(n:Nat)(i:Nat):List Nat:=@Nat.rec (fun q0=>Nat->List Nat) (fun q0=>[]) (fun q0 ih i=>i::ih (Nat.succ i)) n i
def bH{α:Type}(b:Bool)(x y:α):α:=@Bool.rec (fun q0=>α) y x b
noncomputable def fS(n:Nat):PV:=.lit (.ofNat n)
def Dy(g:Nat)(l:List Nat)(i:Nat):Nat:=@List.rec Nat (fun q0=>Nat->Nat) (fun i=>i) (fun a q0 ih i=>@Bool.rec (fun q0=>Nat) (ih (Nat.succ i)) i (Nat.beq a g)) l i
def HH(l:List Nat)(k:Nat):Nat:=@List.rec Nat (fun q0=>Nat) k (fun a q0 q0=>a) l
def DQ(l:List Nat):Nat:=@List.rec Nat (fun q0=>Nat) 9 (fun q0 r q0=>HH r 9) l
def Xg(d:eT)(g:Nat):Nat:=bH (Nat.beq g (DQ d.sh)) (HH d.sh g) g
def E3(d:eT):List Nat:=@List.rec Nat (fun q0=>List Nat) [] (fun g q0 ih=>bH (Nat.beq g (DQ d.sh)) ih (g::ih)) d.ans
def yp(d:eT)(g:Nat):Nat:=Dy (Xg d g) (E3 d) 0
def V3(d:eT)(o:Nat):List (Int × PV):=@List.rec Nat (fun q0=>List (Int × PV)) [] (fun g q0 ih=>@Bool.rec (fun q0=>List (Int × PV)) (@Bool.rec (fun q0=>List (Int × PV)) ih ((.ofNat g,.unk)::ih) (dT g d.waits||dT g d.lost)) ((.ofNat g,.own (Nat.add o (Dy g d.ans 0)))::ih) (dT g d.ans)) [0,1,2]
def cg(d:eT):eh:=
 let nw:=vv d.waits; let na:=vv d.ans; let h:=d.held
 let b:=Nat.add (Nat.add 10 nw) na; let e:=Nat.add (Nat.add b 12) nw
 let kd:PV:=.str (bH d.send 53 59)
 let wv (i:Nat):PV:=bH d.send (.int (Nat.add h i)) .none
 let tk:=bH d.send (Nat.add h nw) h
 let hv:List PV:=eu (fun i=>.int i) (ic h 0)
 let rd (g:Nat):PO:=.idict [(123,fS g),(74,.unk),(98,.str (bH (dT g d.waits||dT g d.lost) 107 96)),(111,bH (dT g d.waits||dT g d.lost) .unk (bH (dT g d.ans) (.own (Nat.add (Nat.add e 7) (Dy g d.ans 0))) .none))]
 ⟨dy [.inst 2 4,.ds [(50,fS d.room),(36,.own 5),(114,.bool d.closed),(107,.own 6),(140,.own 7)],.list (eu fS d.lost),.tuple [.str 29,fS 0],
  .idict [(108,.unk),(105,.unk),(143,.unk),(33,.unk),(99,.unk),(162,.own 8),(85,.unk),(175,.own 9),(124,.unk),(150,.none),(145,.unk)],
  .list hv,.list (eu (fun i=>.own (Nat.add 10 i)) (ic nw 0)),.dm (V3 d (Nat.add 10 nw)),.inst 4 b,.inst 7 (Nat.succ b)]
  (dy (yn (fun i g=>.tuple [fS g,kd,wv i]) 0 d.waits) (dy (eu (fun g=>.flat (yp d g)) d.ans)
  (dy [.idict [(162,.own (Nat.add b 2)),(156,.own (Nat.add b 3))],.idict [(143,.own (Nat.add b 4)),(8,.own (Nat.add b 5)),(37,.unk)],
   .list [.own (Nat.add b 6)],.list (eu (fun i=>.own (Nat.add (Nat.add b 7) i)) (ic nw 0)),.inst 10 (Nat.add (Nat.add b 7) nw),.list (eu (fun i=>.own (Nat.add (Nat.add (Nat.add b 8) nw) i)) [0,1,2,3]),.inst 5 e]
  (dy (yn (fun i g=>.tuple [fS g,kd,fS 0,wv i,fS 0]) 0 d.waits)
  (dy [.idict [(18,.own (Nat.add e 1)),(100,.int tk)]]
  (dy (eu (fun i=>.inst 8 (Nat.add (Nat.add e 2) i)) [0,1,2,3])
  (dy [.idict [(50,fS d.room),(36,.own (Nat.add e 6)),(193,.bool d.closed)],.list []]
  (dy (eu rd [0,1,2,3])
  (dy [.list hv]
  (dy (eu (fun g=>.tuple [fS 0,.own (Nat.add (Nat.add (Nat.add e 7) na) (yp d g))]) d.ans) (eu (fun g=>.flat (yp d g)) (E3 d)))))))))))),
  dy (eu (fun q0=>false) (ic tk 0)) [true],[none,none,(some (.own 0)),(some (.own 1)),(some (.own 2)),(some (.own 3)),none,none,none,none,none,none,none,none,none,none,none,none,none,none,none]⟩
def W8(l:List Nat):Nat->Nat:=@List.rec Nat (fun q0=>Nat->Nat) (fun q0=>0) (fun a q0 ih n=>@Nat.rec (fun q0=>Nat) a (fun n q0=>ih n) n) l
def E6(n:Nat):Nat->List Nat:=@Nat.rec (fun q0=>Nat->List Nat) (fun q0=>[]) (fun q0 ih c=>@Bool.rec (fun q0=>List Nat) (Nat.sub (Nat.mod c 4) 1::ih (Nat.div c 4)) [] (Nat.beq c 0)) n
def Iq(l:List Nat):Nat:=@List.rec Nat (fun q0=>Nat) 0 (fun a q0 ih=>Nat.add (Nat.succ a) (Nat.mul 4 ih)) l
def nk(f:Nat->Bool)(l:List Nat):List Nat:=@List.rec Nat (fun q0=>List Nat) [] (fun a q0 ih=>@Bool.rec (fun q0=>List Nat) ih (a::ih) (f a)) l
def qp(b:Bool):Nat:=@Bool.rec (fun q0=>Nat) 0 1 b
def rF(l:List Nat)(f:Nat->Bool):Bool:=@List.rec Nat (fun q0=>Bool) true (fun a q0 ih=>@Bool.rec (fun q0=>Bool) false ih (f a)) l
theorem lp{f:Nat->Bool}:∀{l:List Nat},rF l f=true->∀a∈l,f a=true
 | [],_,a,m=>by cases m
 | b::l,h,a,m=>by
  obtain ⟨h1,h2⟩:=aJ (show @Bool.rec (fun q0=>Bool) false (rF l f) (f b)=true from h)
  rcases List.mem_cons.mp m with rfl | m
  ·exact h1
  ·exact lp h2 a m
theorem wt(P:ak)(F:Frag):(fx P).more F=fx { P with tl:=P.tl++F }:=by
 show ({ fx P with K:=(K P.w++P.tl)++F }:aR) = { fx P with K:=K P.w++(P.tl++F) }
 rw [List.append_assoc]
noncomputable def W1(k:Nat):List Nat:=@Nat.rec (fun q0=>List Nat) [] (fun k q0=>@Nat.rec (fun q0=>List Nat) [0,1] (fun k q0=>@Nat.rec (fun q0=>List Nat) [0,2] (fun q0 q0=>[1,2]) k) k) k
def shI(l:List Nat):Nat:=bH (Nat.beq (vv l) 2) (Nat.sub (Nat.add (HH l 0) (DQ l)) 0) 0
def dY(c:Nat):eT:=⟨Nat.mod c 4,Nat.mod (Nat.div c 4) 4,Nat.beq (Nat.mod (Nat.div c 16) 2) 1,Nat.beq (Nat.mod (Nat.div c 32) 2) 1,E6 3 (Nat.mod (Nat.div c 512) 64),E6 3 (Nat.mod (Nat.div c 32768) 64),nk (fun g=>Nat.beq (Nat.mod (Nat.div (Nat.div c 64) (Nat.pow 2 g)) 2) 1) [0,1,2],W1 (Nat.div c 2097152)⟩
def XL(d:eT):Nat:=Nat.add d.room (Nat.mul 4 (Nat.add d.held (Nat.mul 4 (Nat.add (qp d.closed) (Nat.mul 2 (Nat.add (qp d.send) (Nat.mul 2 (Nat.add (@List.rec Nat (fun q0=>Nat) 0 (fun g q0 ih=>Nat.add (Nat.pow 2 g) ih) d.ans) (Nat.mul 8 (Nat.add (Iq d.waits) (Nat.mul 64 (Nat.add (Iq d.lost) (Nat.mul 64 (shI d.sh))))))))))))))
def fD(d:eT)(k:eT->Bool):Bool:=fN d.room fun a=>fN d.held fun b=>fB d.closed fun c=>fB d.send fun e=>tO d.waits fun w=>tO d.lost fun l=>tO d.ans fun n=>tO d.sh fun h=>k ⟨a,b,c,e,w,l,n,h⟩
theorem yg(d:eT)(k:eT->Bool):fD d k=k d:=by unfold fD; rw [bP,bP,pW,pW,lm,lm,lm,lm]
def uS(l:List Nat):Bool:=@List.rec Nat (fun q0=>Bool) true (fun q0 q0 q0=>false) l
def Ud(l:List Nat):List Nat:=@List.rec Nat (fun q0=>List Nat) [] (fun q0 r q0=>r) l
def qD(f:Nat->Bool):List Nat:=nk f [0,1,2]
def Ry(d:eT)(who:Nat):eT:=⟨d.room,d.held,d.closed,bH (uS d.waits) false d.send,d.waits,d.lost,d.ans,bH (dT who d.sh) [] d.sh⟩
def xU(d:eT)(who:Nat):List Nat:=qD fun g=>Nat.beq g who||dT g d.ans
def zi(d:eT)(who:Nat):List Nat:=qD fun g=>!Nat.beq g who&&dT g d.ans
def Et(d:eT)(who:Nat):List Nat:=qD fun g=>Nat.beq g who||Nat.beq g (W8 d.waits 0)||dT g d.ans
def TN(d:eT)(who deed:Nat):eT:=
 bH (dT who d.waits||dT who d.lost||(Nat.beq deed 76&&d.closed)) d
 (bH (Nat.beq deed 76) ⟨d.room,d.held,true,false,[],d.lost,qD fun g=>dT g d.waits||dT g d.ans,bH (Nat.beq (vv d.waits) 2) (qD fun g=>dT g d.waits) d.sh⟩ (Ry (bH (Nat.beq deed 76) ⟨d.room,d.held,true,false,[],d.lost,qD fun g=>dT g d.waits||dT g d.ans,d.sh⟩
 (bH (Nat.beq deed 53) (bH d.closed ⟨d.room,d.held,d.closed,d.send,d.waits,d.lost,xU d who,d.sh⟩
  (bH (!uS d.waits&&!d.send) ⟨d.room,d.held,d.closed,d.send,Ud d.waits,d.lost,Et d who,d.sh⟩
  (bH (Nat.ble (Nat.succ d.held) d.room) ⟨d.room,Nat.succ d.held,d.closed,d.send,d.waits,d.lost,xU d who,d.sh⟩ ⟨d.room,d.held,d.closed,true,dy d.waits [who],d.lost,zi d who,d.sh⟩)))
 (bH (Nat.beq deed 59) (bH (Nat.beq d.held 0&&!(d.send&&!uS d.waits)&&!d.closed) ⟨d.room,d.held,d.closed,false,dy d.waits [who],d.lost,zi d who,d.sh⟩
  (bH (d.send&&!uS d.waits) ⟨d.room,d.held,d.closed,d.send,Ud d.waits,d.lost,Et d who,d.sh⟩ ⟨d.room,Nat.sub d.held 1,d.closed,d.send,d.waits,d.lost,xU d who,d.sh⟩))
 ⟨d.room,d.held,d.closed,d.send,d.waits,dy d.lost [who],zi d who,d.sh⟩))) who))
noncomputable def t2(a b:Nat):NT:=.n (.one a) b (.one b)
def t4(a b c d:Nat):NT:=.n (t2 a b) c (t2 c d)
noncomputable def UM:NT:=.n (.n (.n (t4 0 1 2 16) 17 (t4 17 18 65 66)) 69 (.n (t4 69 70 74 80) 81 (.n (t4 81 82 85 86) 90 (t4 90 129 130 133)))) 134 (.n (.n (t4 134 138 144 145) 146 (.n (t4 146 149 150 154) 192 (t4 192 193 194 197))) 198 (.n (t4 198 202 208 209) 210 (.n (t4 210 213 214 218) 257 (t4 257 258 261 262))))
noncomputable def Uh:NT:=.n (.n (.n (t4 266 272 273 274) 277 (t4 277 278 282 320)) 321 (.n (t4 321 322 325 326) 330 (.n (t4 330 336 337 338) 341 (t4 341 342 346 384)))) 385 (.n (.n (t4 385 386 389 390) 394 (.n (t4 394 400 401 402) 405 (t4 405 406 410 448))) 449 (.n (t4 449 450 453 454) 458 (.n (t4 458 464 465 466) 469 (t4 469 470 474 512))))
noncomputable def Ue:NT:=.n (.n (.n (t4 513 514 544 549) 554 (t4 554 640 641 642)) 672 (.n (t4 672 677 682 768) 769 (.n (t4 769 770 800 805) 810 (t4 810 896 897 898)))) 928 (.n (.n (t4 928 933 938 1024) 1025 (.n (t4 1025 1026 1056 1061) 1066 (t4 1066 1088 1089 1090))) 1120 (.n (t4 1120 1125 1130 1280) 1281 (.n (t4 1281 1282 1312 1317) 1322 (t4 1322 1344 1345 1346))))
noncomputable def U5:NT:=.n (.n (.n (t4 1376 1381 1386 1536) 1537 (t4 1537 1538 1568 1573)) 1578 (.n (t4 1578 1600 1601 1602) 1632 (.n (t4 1632 1637 1642 1664) 1665 (t4 1665 1666 1696 1701)))) 1706 (.n (.n (t4 1706 1728 1729 1730) 1760 (.n (t4 1760 1765 1770 3072) 3073 (t4 3073 3074 3104 3109))) 3114 (.n (t4 3114 3328 3329 3330) 3360 (.n (t4 3360 3365 3370 3584) 3585 (t4 3585 3586 3616 3621))))
noncomputable def UO:NT:=.n (.n (.n (t4 3626 3712 3713 3714) 3744 (t4 3744 3749 3754 4608)) 4609 (.n (t4 4609 4610 4640 4645) 4650 (.n (t4 4650 4864 4865 4866) 4896 (t4 4896 4901 4906 5632)))) 5633 (.n (.n (t4 5633 5634 5664 5669) 5674 (.n (t4 5674 5696 5697 5698) 5728 (t4 5728 5733 5738 6656))) 6657 (.n (t4 6657 6658 6688 6693) 6698 (.n (t4 6698 6784 6785 6786) 6816 (t4 6816 6821 6826 7168))))
noncomputable def Us:NT:=.n (.n (.n (t4 7169 7170 7200 7205) 7210 (t4 7210 7232 7233 7234)) 7264 (.n (t4 7264 7269 7274 13824) 13825 (.n (t4 13825 13826 13856 13861) 13866 (t4 13866 15360 15361 15362)))) 15392 (.n (.n (t4 15392 15397 15402 19968) 19969 (.n (t4 19969 19970 20000 20005) 20010 (t4 20010 23040 23041 23042))) 23072 (.n (t4 23072 23077 23082 27648) 27649 (.n (t4 27649 27650 27680 27685) 27690 (t4 27690 29184 29185 29186))))
noncomputable def US:NT:=.n (.n (.n (t4 29216 29221 29226 32768) 32769 (t4 32769 32770 32773 32774)) 32778 (.n (t4 32778 32784 32785 32786) 32789 (.n (t4 32789 32790 32794 32896) 32897 (t4 32897 32898 32901 32902)))) 32906 (.n (.n (t4 32906 32912 32913 32914) 32917 (.n (t4 32917 32918 32922 33024) 33025 (t4 33025 33026 33029 33030))) 33034 (.n (t4 33034 33040 33041 33042) 33045 (.n (t4 33045 33046 33050 33152) 33153 (t4 33153 33154 33157 33158))))
noncomputable def U0:NT:=.n (.n (.n (t4 33162 33168 33169 33170) 33173 (t4 33173 33174 33178 33792)) 33793 (.n (t4 33793 33794 33824 33829) 33834 (.n (t4 33834 34048 34049 34050) 34080 (t4 34080 34085 34090 34304)))) 34305 (.n (.n (t4 34305 34306 34336 34341) 34346 (.n (t4 34346 34432 34433 34434) 34464 (t4 34464 34469 34474 38400))) 38401 (.n (t4 38401 38402 38432 38437) 38442 (.n (t4 38442 39936 39937 39938) 39968 (t4 39968 39973 39978 65536))))
noncomputable def Uo:NT:=.n (.n (.n (t4 65537 65538 65541 65542) 65546 (t4 65546 65552 65553 65554)) 65557 (.n (t4 65557 65558 65562 65600) 65601 (.n (t4 65601 65602 65605 65606) 65610 (t4 65610 65616 65617 65618)))) 65621 (.n (.n (t4 65621 65622 65626 65792) 65793 (.n (t4 65793 65794 65797 65798) 65802 (t4 65802 65808 65809 65810))) 65813 (.n (t4 65813 65814 65818 65856) 65857 (.n (t4 65857 65858 65861 65862) 65866 (t4 65866 65872 65873 65874))))
noncomputable def UN:NT:=.n (.n (.n (t4 65877 65878 65882 66048) 66049 (t4 66049 66050 66080 66085)) 66090 (.n (t4 66090 66304 66305 66306) 66336 (.n (t4 66336 66341 66346 67072) 67073 (t4 67073 67074 67104 67109)))) 67114 (.n (.n (t4 67114 67136 67137 67138) 67168 (.n (t4 67168 67173 67178 69120) 69121 (t4 69121 69122 69152 69157))) 69162 (.n (t4 69162 72192 72193 72194) 72224 (.n (t4 72224 72229 72234 98304) 98305 (t4 98305 98306 98309 98310))))
noncomputable def NK:NT:=.n (.n (.n (t4 98314 98320 98321 98322) 98325 (t4 98325 98326 98330 98368)) 98369 (.n (t4 98369 98370 98373 98374) 98378 (.n (t4 98378 98384 98385 98386) 98389 (t4 98389 98390 98394 98432)))) 98433 (.n (.n (t4 98433 98434 98437 98438) 98442 (.n (t4 98442 98448 98449 98450) 98453 (t4 98453 98454 98458 98496))) 98497 (.n (t4 98497 98498 98501 98502) 98506 (.n (t4 98506 98512 98513 98514) 98517 (t4 98517 98518 98522 98816))))
noncomputable def Kl:NT:=.n (.n (.n (t4 98817 98818 98848 98853) 98858 (t4 98858 98944 98945 98946)) 98976 (.n (t4 98976 98981 98986 99328) 99329 (.n (t4 99329 99330 99360 99365) 99370 (t4 99370 99392 99393 99394)))) 99424 (.n (.n (t4 99424 99429 99434 101376) 101377 (.n (t4 101377 101378 101408 101413) 101418 (t4 101418 102912 102913 102914))) 102944 (.n (t4 102944 102949 102954 196608) 196609 (.n (t4 196609 196610 196613 196614) 196618 (t4 196618 196624 196625 196626))))
noncomputable def J1:NT:=.n (.n (.n (t4 196629 196630 196634 196864) 196865 (t4 196865 196866 196869 196870)) 196874 (.n (t4 196874 196880 196881 196882) 196885 (.n (t4 196885 196886 196890 198144) 198145 (t4 198145 198146 198176 198181)))) 198186 (.n (.n (t4 198186 229376 229377 229378) 229381 (.n (t4 229381 229382 229386 229392) 229393 (t4 229393 229394 229397 229398))) 229402 (.n (t4 229402 229504 229505 229506) 229509 (.n (t4 229509 229510 229514 229520) 229521 (t4 229521 229522 229525 229526))))
noncomputable def Hq:NT:=.n (.n (.n (t4 229530 230400 230401 230402) 230432 (t4 230432 230437 230442 294912)) 294913 (.n (t4 294913 294914 294917 294918) 294922 (.n (t4 294922 294928 294929 294930) 294933 (t4 294933 294934 294938 295168)))) 295169 (.n (.n (t4 295169 295170 295173 295174) 295178 (.n (t4 295178 295184 295185 295186) 295189 (t4 295189 295190 295194 296448))) 296449 (.n (t4 296449 296450 296480 296485) 296490 (.n (t4 296490 360448 360449 360450) 360453 (t4 360453 360454 360458 360464))))
noncomputable def HX:NT:=.n (.n (.n (t4 360465 360466 360469 360470) 360474 (t4 360474 360512 360513 360514)) 360517 (.n (t4 360517 360518 360522 360528) 360529 (.n (t4 360529 360530 360533 360534) 360538 (t4 360538 360960 360961 360962)))) 360992 (.n (.n (t4 360992 360997 361002 425984) 425985 (.n (t4 425985 425986 425989 425990) 425994 (t4 425994 426000 426001 426002))) 426005 (.n (t4 426005 426006 426010 426112) 426113 (.n (t4 426113 426114 426117 426118) 426122 (t4 426122 426128 426129 426130))))
noncomputable def Ke:NT:=.n (.n (.n (t4 426133 426134 426138 427008) 427009 (t4 427009 427010 427040 427045)) 427050 (.n (t4 427050 458752 458753 458754) 458757 (.n (t4 458757 458758 458762 458768) 458769 (t4 458769 458770 458773 458774)))) 458778 (.n (.n (t4 458778 458816 458817 458818) 458821 (.n (t4 458821 458822 458826 458832) 458833 (t4 458833 458834 458837 458838))) 458842 (.n (t4 458842 459264 459265 459266) 459296 (.n (t4 459296 459301 459306 884736) 884737 (t4 884737 884738 884741 884742))))
noncomputable def IS:NT:=.n (.n (.n (t4 884746 884752 884753 884754) 884757 (t4 884757 884758 884762 983040)) 983041 (.n (t4 983041 983042 983045 983046) 983050 (.n (t4 983050 983056 983057 983058) 983061 (t4 983061 983062 983066 1277952)))) 1277953 (.n (.n (t4 1277953 1277954 1277957 1277958) 1277962 (.n (t4 1277962 1277968 1277969 1277970) 1277973 (t4 1277973 1277974 1277978 1474560))) 1474561 (.n (t4 1474561 1474562 1474565 1474566) 1474570 (.n (t4 1474570 1474576 1474577 1474578) 1474581 (t4 1474581 1474582 1474586 1769472))))
noncomputable def Jc:NT:=.n (.n (.n (t4 1769473 1769474 1769477 1769478) 1769482 (t4 1769482 1769488 1769489 1769490)) 1769493 (.n (t4 1769493 1769494 1769498 1867776) 1867777 (.n (t4 1867777 1867778 1867781 1867782) 1867786 (t4 1867786 1867792 1867793 1867794)))) 1867797 (.n (.n (t4 1867797 1867798 1867802 2097360) 2097361 (.n (t4 2097361 2097362 2097365 2097370) 2097616 (t4 2097616 2097617 2097618 2097621))) 2097622 (.n (t4 2097622 2097626 2195664 2195665) 2195666 (.n (t4 2195666 2195669 2195670 2195674) 4194640 (t4 4194640 4194641 4194642 4194645))))
noncomputable def NB:NT:=.n (.n (.n (t4 4194650 4194768 4194769 4194770) 4194773 (t4 4194773 4194774 4194778 4260176)) 4260177 (.n (t4 4260177 4260178 4260181 4260182) 4260186 (t4 4260186 6291856 6291857 6291858))) 6291861 (.n (.n (t4 6291861 6291866 6291920 6291921) 6291922 (t4 6291922 6291925 6291926 6291930)) 6324624 (.n (t4 6324624 6324625 6324626 6324629) 6324630 (t2 6324630 6324634)))
noncomputable def zp:NT:=(.n (.n (.n (.n UM 266 Uh) 513 (.n Ue 1376 U5)) 3626 (.n (.n UO 7169 Us) 29216 (.n US 33162 (.n U0 65537 Uo)))) 65877 (.n (.n (.n UN 98314 NK) 98817 (.n Kl 196629 (.n J1 229530 Hq))) 360465 (.n (.n HX 426133 Ke) 884746 (.n IS 1769473 (.n Jc 4194650 NB)))))
noncomputable def dO:List Nat:=[53,59,76,41,45]
def rh(R:bc):SV:=(ke 3 [4,3,2] (aD (af (aT (c4 R) aj) (af (sv (cu (ar 50) (ah 0) (cu (ar 36) (bb aj) (cu (ar 114) (bj (.bool false)) (cu (ar 107) (bb aj) (cu (ar 140) gW ku)))))) (af (bb aj) aj)))) (aB (bt 5) (aD (af (ar 29) (af (bO db (ch R) (aH (ah 2) 162) 166 (af (ah 0) aj)) aj))) aC))
def pS(R:bc):SV:=(ke 2 [10,9] (aD (af (aP (aH (aH (ah 2) 175) 8) (ah 6)) (af (aT (n9 R) (af (bj .none) aj)) aj))) (bX (l9 (aY pX (ah 6) (dp (dW fF) (ah 4) (gq [0,0] (aP (ah 3) (ar 107)) (jU 1 18) oG (aP (gc 1 18) (aM 0))))) (l9 (e7 (aY bI (ah 7) (ar 76)) (e7 (hW (aP (ah 3) (ar 114))) iU)) jI)) zg aC (aB (bt 11) (bb (af (aD (af (ar 54) aj)) aj)) (bX (aY bI (ah 7) (ar 76)) (bV (bO db (ch R) (ah 2) 197 (af (aP (bO db (ch R) (aH (ah 2) 162) 189 (af (aM 0) aj)) (aM 1)) aj)) (bV (aT (c7 R) (af (ah 3) aj)) (aB (bt 11) (bb aj) aC))) (bX (aY bI (ah 7) (ar 53)) (bV (gD BX (aH (ah 10) 136) (af (bb (af (ah 5) (af (ah 8) aj))) aj)) (bV (aT (Ng R) (af (ah 2) (af (ah 9) (af (ah 10) (af (aD (af (ar 53) aj)) aj))))) (bV (aT (c5 R) (af (ah 3) (af (ah 6) (af (ah 8) aj)))) aC))) (bX (aY bI (ah 7) (ar 59)) (bV (gD fP (aH (ah 10) 136) (af (ah 5) aj)) (bV (aT (K5 R) (af (ah 2) (af (ah 9) (af (ah 10) (af (aD (af (ar 152) (af (ah 8) aj))) aj))))) (bV (aT (c6 R) (af (ah 3) (af (ah 6) aj))) (aB (bt 11) (bb (af (aD (af (ar 10) (af (ah 8) aj))) aj)) aC)))) (bV (aT (Ay R) (af (ah 2) (af (ah 9) (af (ah 10) (af (gV (aY bI (ah 7) (ar 41)) (ar 53) (ar 59)) (af (bj .none) (af (ah 8) (af (aD (af (ar 54) aj)) aj)))))))) (aB (bt 4) (dp (dW fF) (ah 4) (bb (af (ah 6) aj))) aC)) aC) aC) (bX (l9 (aY ej (aH (ah 10) 66) (ah 11)) (l9 (aY ej (aH (ah 10) 136) (bb aj)) jI)) bw aC aC)))))
def mN(R:bc):SV:=(bX (jY (hW (aT (c8 R) (af (ah 2) (af (ah 3) (af (dp (dW fF) (ah 4) (gq [0,0] (aP (ah 3) (ar 107)) (jU 1 18) oG (aP (gc 1 18) (aM 0)))) aj)))))) bw aC aC)
def pu(R:bc):SV:=(bC (gJ jL (aH (ah 2) 150) (bj .none)))
noncomputable def AO:j6:=(bK (bt 6) (bK (bt 7) (bK (bt 8) ft)))
def yJ(T:Tr)(tg:j6)(b:SX)(p q:eh)(who deed:Nat)(vals:List Int)(z:Int):Bool:=tg [.int (.lit (.ofNat who)),.str deed,.int (.var p.cs.length)] T (p.P.length+1) (.mk (cW p.cs vals++[(z,z)]) []) (ew p.rt) (fun H nx R loc=>b H nx R loc (ju q .oit p.P.length) gw)
def DL(f:SX)(p:eh)(vals:List Int):Bool:=f (d8 (p.P++[.junk])) (p.P.length+1) (.mk (cW p.cs vals) []) (ew p.rt) vy gw
def ow(T:Tr)(b:SX)(p:eh)(vals:List Int):Bool:=b T (p.P.length+1) (.mk (cW p.cs vals) []) (ew p.rt) (ju p .oit p.P.length) gw
def Bi(p:eh):Bool:=pk p.P&&Nat.ble (Nat.succ p.P.length) 300
def Eg(d:eT)(who:Nat):Bool:=dT who d.waits||dT who d.lost
def sf(p:eh):Tr:=d8 (p.P++[.oit])
def K3(T:Tr)(d:eT)(who deed:Nat)(v:Nat->Int)(z:Int):Bool:=fD (TN d who deed) fun e=>fN (XL e) fun c'=>@Bool.rec (fun q0=>Bool) false (fD (dY c') fun e'=>yJ T AO (cC (pS (aO 14))) (cg d) (cg e') who deed (jh v (cg d).cs.length 0) z) (iD c' zp)
def x7(c:Nat)(v:Nat->Int)(z:Int)(dv:Nat):Bool:=fD (dY c) fun d=>Uk (sf (cg d)) fun T=>@Bool.rec (fun q0=>Bool) false (@Bool.rec (fun q0=>Bool) false (rF [0,1,2] fun who=>@Bool.rec (fun q0=>Bool) (rF dO fun deed=>K3 T d who deed v z) (yJ T AO (cC (pS (aO 14))) (cg d) (cg d) who dv (jh v (cg d).cs.length 0) z) (Eg d who))
 (DL (cC (pu (aO 14))) (cg d) (jh v (cg d).cs.length 0)&&ow T (cC (mN (aO 14))) (cg d) (jh v (cg d).cs.length 0))) (Bi (cg d))
def q9(t:NT):(Nat->Int)->Int->Nat->Bool:=fun v z dv=>cq (fun c=>x7 c v z dv) t
noncomputable def q9T:(Nat->Int)->Int->Nat->Bool:=fun q0 q0 q0=>true
abbrev Q9(t:NT):Prop:=q9 t=q9T
def QT(t:NT):Prop:=∀(v:Nat->Int) (z:Int) (dv:Nat),cq (fun c=>x7 c v z dv) t=true
theorem QT.p{t:NT}(h:Q9 t):QT t:=fun v z dv=>congrFun (congrFun (congrFun h v) z) dv
theorem QT.n{l r:NT}{k:Nat}(h1:QT l)(h2:QT r):QT (.n l k r):=fun v z dv=>b0 (h1 v z dv) (h2 v z dv)
section
local macro_rules | `(tactic| rfl)=>`(tactic| kernel_rfl)
theorem qc0:Q9 (t4 0 1 2 16):=by rfl
theorem qc1:Q9 (t4 17 18 65 66):=by rfl
theorem qc2:Q9 (t4 69 70 74 80):=by rfl
theorem qc3:Q9 (t4 81 82 85 86):=by rfl
theorem qc4:Q9 (t4 90 129 130 133):=by rfl
theorem qc5:Q9 (t4 134 138 144 145):=by rfl
theorem qc6:Q9 (t4 146 149 150 154):=by rfl
theorem qc7:Q9 (t4 192 193 194 197):=by rfl
theorem qc8:Q9 (t4 198 202 208 209):=by rfl
theorem qc9:Q9 (t4 210 213 214 218):=by rfl
theorem WP:Q9 (t4 257 258 261 262):=by rfl
theorem Vt:Q9 (t4 266 272 273 274):=by rfl
theorem Y4:Q9 (t4 277 278 282 320):=by rfl
theorem WH:Q9 (t4 321 322 325 326):=by rfl
theorem Yi:Q9 (t4 330 336 337 338):=by rfl
theorem We:Q9 (t4 341 342 346 384):=by rfl
theorem XI:Q9 (t4 385 386 389 390):=by rfl
theorem Xq:Q9 (t4 394 400 401 402):=by rfl
theorem Vi:Q9 (t4 405 406 410 448):=by rfl
theorem WI:Q9 (t4 449 450 453 454):=by rfl
theorem Zl:Q9 (t4 458 464 465 466):=by rfl
theorem YR:Q9 (t4 469 470 474 512):=by rfl
theorem Yo:Q9 (t4 513 514 544 549):=by rfl
theorem aaf:Q9 (t4 554 640 641 642):=by rfl
theorem ZA:Q9 (t4 672 677 682 768):=by rfl
theorem XT:Q9 (t4 769 770 800 805):=by rfl
theorem Yl:Q9 (t4 810 896 897 898):=by rfl
theorem ZR:Q9 (t4 928 933 938 1024):=by rfl
theorem Wf:Q9 (t4 1025 1026 1056 1061):=by rfl
theorem Vz:Q9 (t4 1066 1088 1089 1090):=by rfl
theorem YT:Q9 (t4 1120 1125 1130 1280):=by rfl
theorem Zv:Q9 (t4 1281 1282 1312 1317):=by rfl
theorem Zp:Q9 (t4 1322 1344 1345 1346):=by rfl
theorem Y8:Q9 (t4 1376 1381 1386 1536):=by rfl
theorem Wb:Q9 (t4 1537 1538 1568 1573):=by rfl
theorem WF:Q9 (t4 1578 1600 1601 1602):=by rfl
theorem W3:Q9 (t4 1632 1637 1642 1664):=by rfl
theorem aau:Q9 (t4 1665 1666 1696 1701):=by rfl
theorem Vl:Q9 (t4 1706 1728 1729 1730):=by rfl
theorem VD:Q9 (t4 1760 1765 1770 3072):=by rfl
theorem Xe:Q9 (t4 3073 3074 3104 3109):=by rfl
theorem YJ:Q9 (t4 3114 3328 3329 3330):=by rfl
theorem Xh:Q9 (t4 3360 3365 3370 3584):=by rfl
theorem XM:Q9 (t4 3585 3586 3616 3621):=by rfl
theorem Ws:Q9 (t4 3626 3712 3713 3714):=by rfl
theorem Vk:Q9 (t4 3744 3749 3754 4608):=by rfl
theorem VU:Q9 (t4 4609 4610 4640 4645):=by rfl
theorem VM:Q9 (t4 4650 4864 4865 4866):=by rfl
theorem Zi:Q9 (t4 4896 4901 4906 5632):=by rfl
theorem Zw:Q9 (t4 5633 5634 5664 5669):=by rfl
theorem aah:Q9 (t4 5674 5696 5697 5698):=by rfl
theorem XX:Q9 (t4 5728 5733 5738 6656):=by rfl
theorem Vg:Q9 (t4 6657 6658 6688 6693):=by rfl
theorem Yb:Q9 (t4 6698 6784 6785 6786):=by rfl
theorem Yg:Q9 (t4 6816 6821 6826 7168):=by rfl
theorem Ys:Q9 (t4 7169 7170 7200 7205):=by rfl
theorem XK:Q9 (t4 7210 7232 7233 7234):=by rfl
theorem Wl:Q9 (t4 7264 7269 7274 13824):=by rfl
theorem Xu:Q9 (t4 13825 13826 13856 13861):=by rfl
theorem aar:Q9 (t4 13866 15360 15361 15362):=by rfl
theorem V7:Q9 (t4 15392 15397 15402 19968):=by rfl
theorem Yd:Q9 (t4 19969 19970 20000 20005):=by rfl
theorem Yp:Q9 (t4 20010 23040 23041 23042):=by rfl
theorem YB:Q9 (t4 23072 23077 23082 27648):=by rfl
theorem aao:Q9 (t4 27649 27650 27680 27685):=by rfl
theorem XG:Q9 (t4 27690 29184 29185 29186):=by rfl
theorem Xs:Q9 (t4 29216 29221 29226 32768):=by rfl
theorem YW:Q9 (t4 32769 32770 32773 32774):=by rfl
theorem YM:Q9 (t4 32778 32784 32785 32786):=by rfl
theorem VO:Q9 (t4 32789 32790 32794 32896):=by rfl
theorem aaj:Q9 (t4 32897 32898 32901 32902):=by rfl
theorem Zf:Q9 (t4 32906 32912 32913 32914):=by rfl
theorem Yr:Q9 (t4 32917 32918 32922 33024):=by rfl
theorem aaw:Q9 (t4 33025 33026 33029 33030):=by rfl
theorem YO:Q9 (t4 33034 33040 33041 33042):=by rfl
theorem Vc:Q9 (t4 33045 33046 33050 33152):=by rfl
theorem aax:Q9 (t4 33153 33154 33157 33158):=by rfl
theorem W6:Q9 (t4 33162 33168 33169 33170):=by rfl
theorem Vm:Q9 (t4 33173 33174 33178 33792):=by rfl
theorem YV:Q9 (t4 33793 33794 33824 33829):=by rfl
theorem Xv:Q9 (t4 33834 34048 34049 34050):=by rfl
theorem Yx:Q9 (t4 34080 34085 34090 34304):=by rfl
theorem VY:Q9 (t4 34305 34306 34336 34341):=by rfl
theorem Xb:Q9 (t4 34346 34432 34433 34434):=by rfl
theorem XB:Q9 (t4 34464 34469 34474 38400):=by rfl
theorem ZV:Q9 (t4 38401 38402 38432 38437):=by rfl
theorem WG:Q9 (t4 38442 39936 39937 39938):=by rfl
theorem X5:Q9 (t4 39968 39973 39978 65536):=by rfl
theorem Wi:Q9 (t4 65537 65538 65541 65542):=by rfl
theorem Zb:Q9 (t4 65546 65552 65553 65554):=by rfl
theorem aab:Q9 (t4 65557 65558 65562 65600):=by rfl
theorem Yt:Q9 (t4 65601 65602 65605 65606):=by rfl
theorem VP:Q9 (t4 65610 65616 65617 65618):=by rfl
theorem YY:Q9 (t4 65621 65622 65626 65792):=by rfl
theorem Zk:Q9 (t4 65793 65794 65797 65798):=by rfl
theorem Wg:Q9 (t4 65802 65808 65809 65810):=by rfl
theorem VB:Q9 (t4 65813 65814 65818 65856):=by rfl
theorem VE:Q9 (t4 65857 65858 65861 65862):=by rfl
theorem Zo:Q9 (t4 65866 65872 65873 65874):=by rfl
theorem aas:Q9 (t4 65877 65878 65882 66048):=by rfl
theorem Si:Q9 (t4 66049 66050 66080 66085):=by rfl
theorem Qh:Q9 (t4 66090 66304 66305 66306):=by rfl
theorem Qi:Q9 (t4 66336 66341 66346 67072):=by rfl
theorem TQ:Q9 (t4 67073 67074 67104 67109):=by rfl
theorem Su:Q9 (t4 67114 67136 67137 67138):=by rfl
theorem RR:Q9 (t4 67168 67173 67178 69120):=by rfl
theorem Sr:Q9 (t4 69121 69122 69152 69157):=by rfl
theorem Tx:Q9 (t4 69162 72192 72193 72194):=by rfl
theorem Qm:Q9 (t4 72224 72229 72234 98304):=by rfl
theorem Tn:Q9 (t4 98305 98306 98309 98310):=by rfl
theorem Q1:Q9 (t4 98314 98320 98321 98322):=by rfl
theorem Tv:Q9 (t4 98325 98326 98330 98368):=by rfl
theorem PY:Q9 (t4 98369 98370 98373 98374):=by rfl
theorem TI:Q9 (t4 98378 98384 98385 98386):=by rfl
theorem Tp:Q9 (t4 98389 98390 98394 98432):=by rfl
theorem Td:Q9 (t4 98433 98434 98437 98438):=by rfl
theorem Rv:Q9 (t4 98442 98448 98449 98450):=by rfl
theorem TB:Q9 (t4 98453 98454 98458 98496):=by rfl
theorem TW:Q9 (t4 98497 98498 98501 98502):=by rfl
theorem Rc:Q9 (t4 98506 98512 98513 98514):=by rfl
theorem Qv:Q9 (t4 98517 98518 98522 98816):=by rfl
theorem Tm:Q9 (t4 98817 98818 98848 98853):=by rfl
theorem Ql:Q9 (t4 98858 98944 98945 98946):=by rfl
theorem TE:Q9 (t4 98976 98981 98986 99328):=by rfl
theorem RB:Q9 (t4 99329 99330 99360 99365):=by rfl
theorem TP:Q9 (t4 99370 99392 99393 99394):=by rfl
theorem RS:Q9 (t4 99424 99429 99434 101376):=by rfl
theorem ST:Q9 (t4 101377 101378 101408 101413):=by rfl
theorem TZ:Q9 (t4 101418 102912 102913 102914):=by rfl
theorem Se:Q9 (t4 102944 102949 102954 196608):=by rfl
theorem Q7:Q9 (t4 196609 196610 196613 196614):=by rfl
theorem Rs:Q9 (t4 196618 196624 196625 196626):=by rfl
theorem Qn:Q9 (t4 196629 196630 196634 196864):=by rfl
theorem P7:Q9 (t4 196865 196866 196869 196870):=by rfl
theorem TJ:Q9 (t4 196874 196880 196881 196882):=by rfl
theorem SU:Q9 (t4 196885 196886 196890 198144):=by rfl
theorem Rq:Q9 (t4 198145 198146 198176 198181):=by rfl
theorem Tl:Q9 (t4 198186 229376 229377 229378):=by rfl
theorem Qc:Q9 (t4 229381 229382 229386 229392):=by rfl
theorem Sh:Q9 (t4 229393 229394 229397 229398):=by rfl
theorem SD:Q9 (t4 229402 229504 229505 229506):=by rfl
theorem P6:Q9 (t4 229509 229510 229514 229520):=by rfl
theorem Qz:Q9 (t4 229521 229522 229525 229526):=by rfl
theorem PI:Q9 (t4 229530 230400 230401 230402):=by rfl
theorem Rz:Q9 (t4 230432 230437 230442 294912):=by rfl
theorem RZ:Q9 (t4 294913 294914 294917 294918):=by rfl
theorem Rw:Q9 (t4 294922 294928 294929 294930):=by rfl
theorem Sd:Q9 (t4 294933 294934 294938 295168):=by rfl
theorem SQ:Q9 (t4 295169 295170 295173 295174):=by rfl
theorem QR:Q9 (t4 295178 295184 295185 295186):=by rfl
theorem Qu:Q9 (t4 295189 295190 295194 296448):=by rfl
theorem Qq:Q9 (t4 296449 296450 296480 296485):=by rfl
theorem SH:Q9 (t4 296490 360448 360449 360450):=by rfl
theorem Rp:Q9 (t4 360453 360454 360458 360464):=by rfl
theorem PE:Q9 (t4 360465 360466 360469 360470):=by rfl
theorem TD:Q9 (t4 360474 360512 360513 360514):=by rfl
theorem Sb:Q9 (t4 360517 360518 360522 360528):=by rfl
theorem Rx:Q9 (t4 360529 360530 360533 360534):=by rfl
theorem QG:Q9 (t4 360538 360960 360961 360962):=by rfl
theorem Tk:Q9 (t4 360992 360997 361002 425984):=by rfl
theorem SO:Q9 (t4 425985 425986 425989 425990):=by rfl
theorem Tb:Q9 (t4 425994 426000 426001 426002):=by rfl
theorem TO:Q9 (t4 426005 426006 426010 426112):=by rfl
theorem RM:Q9 (t4 426113 426114 426117 426118):=by rfl
theorem T0:Q9 (t4 426122 426128 426129 426130):=by rfl
theorem RP:Q9 (t4 426133 426134 426138 427008):=by rfl
theorem Q4:Q9 (t4 427009 427010 427040 427045):=by rfl
theorem Q6:Q9 (t4 427050 458752 458753 458754):=by rfl
theorem So:Q9 (t4 458757 458758 458762 458768):=by rfl
theorem PQ:Q9 (t4 458769 458770 458773 458774):=by rfl
theorem PL:Q9 (t4 458778 458816 458817 458818):=by rfl
theorem Rl:Q9 (t4 458821 458822 458826 458832):=by rfl
theorem SL:Q9 (t4 458833 458834 458837 458838):=by rfl
theorem Ua:Q9 (t4 458842 459264 459265 459266):=by rfl
theorem Qp:Q9 (t4 459296 459301 459306 884736):=by rfl
theorem QO:Q9 (t4 884737 884738 884741 884742):=by rfl
theorem RO:Q9 (t4 884746 884752 884753 884754):=by rfl
theorem Tg:Q9 (t4 884757 884758 884762 983040):=by rfl
theorem P0:Q9 (t4 983041 983042 983045 983046):=by rfl
theorem Qj:Q9 (t4 983050 983056 983057 983058):=by rfl
theorem QK:Q9 (t4 983061 983062 983066 1277952):=by rfl
theorem RK:Q9 (t4 1277953 1277954 1277957 1277958):=by rfl
theorem PP:Q9 (t4 1277962 1277968 1277969 1277970):=by rfl
theorem TC:Q9 (t4 1277973 1277974 1277978 1474560):=by rfl
theorem RV:Q9 (t4 1474561 1474562 1474565 1474566):=by rfl
theorem Ub:Q9 (t4 1474570 1474576 1474577 1474578):=by rfl
theorem QL:Q9 (t4 1474581 1474582 1474586 1769472):=by rfl
theorem Ru:Q9 (t4 1769473 1769474 1769477 1769478):=by rfl
theorem Sp:Q9 (t4 1769482 1769488 1769489 1769490):=by rfl
theorem RI:Q9 (t4 1769493 1769494 1769498 1867776):=by rfl
theorem PS:Q9 (t4 1867777 1867778 1867781 1867782):=by rfl
theorem Rd:Q9 (t4 1867786 1867792 1867793 1867794):=by rfl
theorem Sq:Q9 (t4 1867797 1867798 1867802 2097360):=by rfl
theorem Th:Q9 (t4 2097361 2097362 2097365 2097370):=by rfl
theorem PF:Q9 (t4 2097616 2097617 2097618 2097621):=by rfl
theorem RF:Q9 (t4 2097622 2097626 2195664 2195665):=by rfl
theorem RY:Q9 (t4 2195666 2195669 2195670 2195674):=by rfl
theorem Qf:Q9 (t4 4194640 4194641 4194642 4194645):=by rfl
theorem Tq:Q9 (t4 4194650 4194768 4194769 4194770):=by rfl
theorem Ta:Q9 (t4 4194773 4194774 4194778 4260176):=by rfl
theorem Qx:Q9 (t4 4260177 4260178 4260181 4260182):=by rfl
theorem Qb:Q9 (t4 4260186 6291856 6291857 6291858):=by rfl
theorem Qg:Q9 (t4 6291861 6291866 6291920 6291921):=by rfl
theorem QH:Q9 (t4 6291922 6291925 6291926 6291930):=by rfl
theorem Ts:Q9 (t4 6324624 6324625 6324626 6324629):=by rfl
theorem Te:Q9 (t2 6324630 6324634):=by rfl
end
theorem qu0:QT UM:=.n (.n (.n (.p qc0) (.p qc1)) (.n (.p qc2) (.n (.p qc3) (.p qc4)))) (.n (.n (.p qc5) (.n (.p qc6) (.p qc7))) (.n (.p qc8) (.n (.p qc9) (.p WP))))
theorem qu1:QT Uh:=.n (.n (.n (.p Vt) (.p Y4)) (.n (.p WH) (.n (.p Yi) (.p We)))) (.n (.n (.p XI) (.n (.p Xq) (.p Vi))) (.n (.p WI) (.n (.p Zl) (.p YR))))
theorem qu2:QT Ue:=.n (.n (.n (.p Yo) (.p aaf)) (.n (.p ZA) (.n (.p XT) (.p Yl)))) (.n (.n (.p ZR) (.n (.p Wf) (.p Vz))) (.n (.p YT) (.n (.p Zv) (.p Zp))))
theorem qu3:QT U5:=.n (.n (.n (.p Y8) (.p Wb)) (.n (.p WF) (.n (.p W3) (.p aau)))) (.n (.n (.p Vl) (.n (.p VD) (.p Xe))) (.n (.p YJ) (.n (.p Xh) (.p XM))))
theorem qu4:QT UO:=.n (.n (.n (.p Ws) (.p Vk)) (.n (.p VU) (.n (.p VM) (.p Zi)))) (.n (.n (.p Zw) (.n (.p aah) (.p XX))) (.n (.p Vg) (.n (.p Yb) (.p Yg))))
theorem qu5:QT Us:=.n (.n (.n (.p Ys) (.p XK)) (.n (.p Wl) (.n (.p Xu) (.p aar)))) (.n (.n (.p V7) (.n (.p Yd) (.p Yp))) (.n (.p YB) (.n (.p aao) (.p XG))))
theorem qu6:QT US:=.n (.n (.n (.p Xs) (.p YW)) (.n (.p YM) (.n (.p VO) (.p aaj)))) (.n (.n (.p Zf) (.n (.p Yr) (.p aaw))) (.n (.p YO) (.n (.p Vc) (.p aax))))
theorem qu7:QT U0:=.n (.n (.n (.p W6) (.p Vm)) (.n (.p YV) (.n (.p Xv) (.p Yx)))) (.n (.n (.p VY) (.n (.p Xb) (.p XB))) (.n (.p ZV) (.n (.p WG) (.p X5))))
theorem qu8:QT Uo:=.n (.n (.n (.p Wi) (.p Zb)) (.n (.p aab) (.n (.p Yt) (.p VP)))) (.n (.n (.p YY) (.n (.p Zk) (.p Wg))) (.n (.p VB) (.n (.p VE) (.p Zo))))
theorem qu9:QT UN:=.n (.n (.n (.p aas) (.p Si)) (.n (.p Qh) (.n (.p Qi) (.p TQ)))) (.n (.n (.p Su) (.n (.p RR) (.p Sr))) (.n (.p Tx) (.n (.p Qm) (.p Tn))))
theorem Yz:QT NK:=.n (.n (.n (.p Q1) (.p Tv)) (.n (.p PY) (.n (.p TI) (.p Tp)))) (.n (.n (.p Td) (.n (.p Rv) (.p TB))) (.n (.p TW) (.n (.p Rc) (.p Qv))))
theorem Yu:QT Kl:=.n (.n (.n (.p Tm) (.p Ql)) (.n (.p TE) (.n (.p RB) (.p TP)))) (.n (.n (.p RS) (.n (.p ST) (.p TZ))) (.n (.p Se) (.n (.p Q7) (.p Rs))))
theorem YC:QT J1:=.n (.n (.n (.p Qn) (.p P7)) (.n (.p TJ) (.n (.p SU) (.p Rq)))) (.n (.n (.p Tl) (.n (.p Qc) (.p Sh))) (.n (.p SD) (.n (.p P6) (.p Qz))))
theorem Vu:QT Hq:=.n (.n (.n (.p PI) (.p Rz)) (.n (.p RZ) (.n (.p Rw) (.p Sd)))) (.n (.n (.p SQ) (.n (.p QR) (.p Qu))) (.n (.p Qq) (.n (.p SH) (.p Rp))))
theorem Wu:QT HX:=.n (.n (.n (.p PE) (.p TD)) (.n (.p Sb) (.n (.p Rx) (.p QG)))) (.n (.n (.p Tk) (.n (.p SO) (.p Tb))) (.n (.p TO) (.n (.p RM) (.p T0))))
theorem aan:QT Ke:=.n (.n (.n (.p RP) (.p Q4)) (.n (.p Q6) (.n (.p So) (.p PQ)))) (.n (.n (.p PL) (.n (.p Rl) (.p SL))) (.n (.p Ua) (.n (.p Qp) (.p QO))))
theorem Wk:QT IS:=.n (.n (.n (.p RO) (.p Tg)) (.n (.p P0) (.n (.p Qj) (.p QK)))) (.n (.n (.p RK) (.n (.p PP) (.p TC))) (.n (.p RV) (.n (.p Ub) (.p QL))))
theorem Yv:QT Jc:=.n (.n (.n (.p Ru) (.p Sp)) (.n (.p RI) (.n (.p PS) (.p Rd)))) (.n (.n (.p Sq) (.n (.p Th) (.p PF))) (.n (.p RF) (.n (.p RY) (.p Qf))))
theorem VQ:QT NB:=.n (.n (.n (.p Tq) (.p Ta)) (.n (.p Qx) (.p Qb))) (.n (.n (.p Qg) (.p QH)) (.n (.p Ts) (.p Te)))
theorem A6:QT zp:=(.n (.n (.n (.n qu0 qu1) (.n qu2 qu3)) (.n (.n qu4 qu5) (.n qu6 (.n qu7 qu8)))) (.n (.n (.n qu9 Yz) (.n Yu (.n YC Vu))) (.n (.n Wu aan) (.n Wk (.n Yv VQ)))))
variable {P:ak}
theorem Gu(P:ak):au (fx P) 30 gx (rh (aO 14)) (B9.take 2):=by
 have hs:aA (fx P) gx:=⟨hT,odr rfl⟩
 have h:aw P 28 (aO 14):=cJ P 0 14
 unfold rh
 refine fo (js:=[2,3,4]) hs (.cons rfl eR (.cons rfl hZ (.cons rfl Ag .nil))) ?_ ?_ ?_ ?_ ?_ ?_ ?_ ?_ (lF (js:=[2,3,4]) hs (.cons rfl eR (.cons rfl hZ (.cons rfl Ag .nil))) (odr rfl)) ?_ ?_ _
 symm
 refine ay (i:=12) rfl lL (jN P) (pZ h) ?_ ao (.inl (nu P)) _ _
 symm
 refine jP hT ?_ rfl rfl (List.cons_ne_nil _ _) (Nat.le_of_ble_eq_true rfl) _
 refine bF ?_ ?_ ?_
 symm
 refine bF ?_ ?_ ?_
 symm
 refine bF ?_ ?_ ?_
 symm
 refine bF ?_ ?_ ?_
 symm
 refine bF ?_ ?_ ?_
 symm
 exact dH _
 exact gK
 symm
 left
 symm
 refine bo hT hD (bz h) ?_ ?_ CE rfl (ag am ao) rfl (lsp rfl)
 refine ax hT ?_ fQ (dG P) rfl _
 symm
 exact rfl
 exact rfl
 exact rfl
 exact (.inr rfl)
 exact rfl
 exact rfl
 exact rfl
 kernel_rfl
noncomputable def fE:Stmt:=match B9[2]? with | some s=>s | none=>.Pass ⟨0,0,0,0⟩
noncomputable def eK:Stmt->List Stmt | .For (body:=b) ..=>b | _=>[]
noncomputable def qF:Stmt->List Expr | .For (target:=.Tuple (elts:=ts) ..) ..=>ts | _=>[]
noncomputable def iP:Stmt->Expr | .For (iter:=e) ..=>e | _=>.Name (Str.ofString "") ⟨0,0,0,0⟩
theorem Co(P:ak):au (fx P) 30 gx (pS (aO 14)) ((eK fE).take 5):=by
 have hs:aA (fx P) gx:=⟨hT,odr rfl⟩
 have h:aw P 28 (aO 14):=cJ P 0 14
 unfold pS
 refine fo (js:=[9,10]) hs (.cons rfl fu (.cons rfl mL .nil)) ?_ ?_ ?_ ?_ ?_ ?_ ?_ ?_ (lF (js:=[9,10]) hs (.cons rfl fu (.cons rfl mL .nil)) (odr rfl)) ?_ ?_ _
 symm
 refine ax hT ?_ T8 (j9 P) rfl _
 refine ax hT ?_ jJ (gj P) rfl _
 symm
 refine ay (i:=13) rfl CB (uk P) (Iw h) ?_ (ag aG ao) (.inl (zx P)) _ _
 symm
 refine ba ?_ ?_ ?_ ?_ _
 refine gd ?_ ?_
 refine bd (lj hT) ?_ ?_ rfl _
 symm
 refine bJ (cj (cG P)) ?_ ?_ _
 symm
 refine dS (vs':=[(5,.blk),(18,.blk)]) ?_ _
 refine dU.mk (x:=fx P) (vs:=gx) (vs':=[(5,.blk),(18,.blk)]) (sl:=[0,0]) hT hD ?_ ?_ ?_ ?_ rfl (.blk T5 (.blk du .nil)) (odr rfl) rfl
 symm
 exact eA hT rfl du _
 exact jC
 symm
 exact cS rfl du _
 symm
 refine gd ?_ ?_
 refine cM ?_ ?_
 symm
 refine cM ?_ ?_
 refine dE ?_ rfl
 symm
 exact fh _
 exact gU _
 exact rq _
 symm
 left
 symm
 refine ba ?_ ?_ ?_ ?_ _
 symm
 refine bg ?_ ?_ rfl _
 refine bo hT hD (bz h) ?_ ?_ yi rfl (ag bQ ao) rfl (lsp rfl)
 symm
 refine bo hT hD (bz h) ?_ ?_ CI rfl (ag aG ao) rfl (lsp rfl)
 refine ax hT ?_ fQ (dG P) rfl _
 symm
 refine bg ?_ ?_ rfl _
 refine ay (i:=14) rfl Eb (vH P) (Fp h) ?_ (ag am ao) (.inl (zc P)) _ _
 symm
 left
 symm
 refine ba ?_ ?_ ?_ ?_ _
 symm
 refine bg ?_ ?_ rfl _
 refine cZ PySem.F.slot_list_extend sD xd ?_ ?_ rfl (ag gr ao) rfl (lsp rfl)
 refine ax hT ?_ gy (eZ P) rfl _
 symm
 refine bg ?_ ?_ rfl _
 refine ay (i:=15) rfl BN (vW P) (Ah h) ?_ (ag am (ag am (ag am (ag bL ao)))) (.inl (tC P)) _ _
 symm
 refine bg ?_ ?_ rfl _
 refine ay (i:=16) rfl BI (uo P) (E0 h) ?_ (ag am (ag am (ag am ao))) (.inl (x5 P)) _ _
 symm
 refine ba ?_ ?_ ?_ ?_ _
 symm
 refine bg ?_ ?_ rfl _
 refine cZ PySem.F.slot_list_append cI dz ?_ ?_ rfl (ag am ao) rfl (lsp rfl)
 refine ax hT ?_ gy (eZ P) rfl _
 symm
 refine bg ?_ ?_ rfl _
 refine ay (i:=17) rfl Di (ui P) (zK h) ?_ (ag am (ag am (ag am (ag bL ao)))) (.inl (vY P)) _ _
 symm
 refine bg ?_ ?_ rfl _
 refine ay (i:=18) rfl Dn (wd P) (Er h) ?_ (ag am (ag am ao)) (.inl (ye P)) _ _
 symm
 left
 symm
 refine bg ?_ ?_ rfl _
 refine ay (i:=19) rfl oj (lA P) (pd h) ?_ (ag am (ag am (ag am (ag iC (ag aG (ag am (ag bL ao))))))) (.inl (mG P)) _ _
 symm
 refine dD ?_ ?_ ?_ _
 symm
 left
 symm
 refine bJ (cj (cG P)) ?_ ?_ _
 symm
 refine ba ?_ ?_ ?_ ?_ _
 refine gd ?_ ?_
 refine bd (cz hT) ?_ ?_ rfl _
 refine ax hT ?_ EA (sX P) rfl _
 symm
 refine gd ?_ ?_
 refine bd (cz hT) ?_ ?_ rfl _
 refine ax hT ?_ gy (eZ P) rfl _
 symm
 exact gU _
 symm
 exact rfl
 exact rfl
 exact rfl
 exact (.inl rfl)
 exact rfl
 exact rfl
 exact rfl
 kernel_rfl
theorem AN(P:ak):au (fx P) 30 gx (mN (aO 14)) ((eK fE).drop 5):=by
 have hs:aA (fx P) gx:=⟨hT,odr rfl⟩
 have h:aw P 28 (aO 14):=cJ P 0 14
 unfold mN
 refine ba ?_ ?_ ?_ ?_ _
 refine fJ ?_ _
 refine dE ?_ rfl
 refine ay (i:=20) rfl Dr (vm P) (Fq h) ?_ (ag am (ag am (ag j8 ao))) (.inl (yL P)) _ _
 symm
 refine bJ (cj (cG P)) ?_ ?_ _
 symm
 refine dS (vs':=[(5,.blk),(18,.blk)]) ?_ _
 refine dU.mk (x:=fx P) (vs:=gx) (vs':=[(5,.blk),(18,.blk)]) (sl:=[0,0]) hT hD ?_ ?_ ?_ ?_ rfl (.blk T5 (.blk du .nil)) (odr rfl) rfl
 symm
 exact eA hT rfl du _
 exact jC
 symm
 exact cS rfl du _
 symm
theorem Dk(P:ak):au (fx P) 30 gx (pu (aO 14)) (B9.drop 3):=by
 have hs:aA (fx P) gx:=⟨hT,odr rfl⟩
 have h:aw P 28 (aO 14):=cJ P 0 14
 unfold pu
 refine aW ?_ _
 refine dP eD ?_ ?_ rfl _
 refine ax hT ?_ vT (mK P) rfl _
 symm
theorem Pl(P:ak):gX (fx P) 30 gx AO (qF fE):=by
 have hs:aA (fx P) gx:=⟨hT,odr rfl⟩
 unfold AO
 refine bu ?_ ?_ rfl
 symm
 refine bu ?_ ?_ rfl
 symm
 refine bu ?_ ?_ rfl
 symm
 exact dK
theorem KD(P:ak):aK (fx P) 30 gx (ah 1) (iP fE):=by
 exact kN rfl pD _
theorem Qd(c:Value->Bool)(la:Addr):cC (rh (aO 14)) .e 0 (.mk [] []) ([.int (.lit (.ofNat 0)),.old (.ref la)]++r9.tl) (w9 c (ah 1) (cg (dY 0))) gw=c (.ref la):=by kernel_rfl
theorem Tu(c:Value->Bool)(la:Addr):cC (rh (aO 14)) .e 0 (.mk [] []) ([.int (.lit (.ofNat 1)),.old (.ref la)]++r9.tl) (w9 c (ah 1) (cg (dY 1))) gw=c (.ref la):=by kernel_rfl
theorem Tc(c:Value->Bool)(la:Addr):cC (rh (aO 14)) .e 0 (.mk [] []) ([.int (.lit (.ofNat 2)),.old (.ref la)]++r9.tl) (w9 c (ah 1) (cg (dY 2))) gw=c (.ref la):=by kernel_rfl
def MB(p:eh):Prop:=∃c,iD c zp=true/\p=cg (dY c)
set_option maxHeartbeats 1000000 in
theorem ly{c:Nat}(hc:iD c zp=true)(v:Nat->Int)(z:Int)(dv:Nat):Bi (cg (dY c))=true/\(DL (cC (pu (aO 14))) (cg (dY c)) (jh v (cg (dY c)).cs.length 0)=true/\ow (sf (cg (dY c))) (cC (mN (aO 14))) (cg (dY c)) (jh v (cg (dY c)).cs.length 0)=true)/\∀who∈[0,1,2],dv∈dO->∃p,MB p/\yJ (sf (cg (dY c))) AO (cC (pS (aO 14))) (cg (dY c)) p who dv (jh v (cg (dY c)).cs.length 0) z=true:=by
 have h:=mQ (A6 v z dv) hc
 unfold x7 at h
 rw [yg,tF] at h
 generalize hE:DL (cC (pu (aO 14))) (cg (dY c)) (jh v (cg (dY c)).cs.length 0)=bE at h
 generalize hM:ow (sf (cg (dY c))) (cC (mN (aO 14))) (cg (dY c)) (jh v (cg (dY c)).cs.length 0)=bM at h
 obtain ⟨h1,h⟩:=aJ h
 obtain ⟨h2,h⟩:=aJ h
 refine ⟨h1,Bool.and_eq_true_iff.mp h2,fun who hw hd=>?_⟩
 have h3:=lp h who hw
 cases hb:Eg (dY c) who with
 | true=>rw [hb] at h3; exact ⟨_,⟨c,hc,rfl⟩,h3⟩
 | false=>
  rw [hb] at h3
  have h4:=lp h3 dv hd
  unfold K3 at h4
  rw [yg,bP] at h4
  obtain ⟨h5,h6⟩:=aJ h4
  rw [yg] at h6
  exact ⟨_,⟨_,h5,rfl⟩,h6⟩
theorem zv{p:eh}(h:Bi p=true):pk p.P=true/\p.P.length<300:=by
 obtain ⟨a,b⟩:=Bool.and_eq_true_iff.mp h
 exact ⟨a,Nat.le_of_ble_eq_true b⟩
theorem Ui{n:Nat}(h:n<3):n∈[0,1,2]:=by
 exact (by decide:∀n<3,n∈[0,1,2]) n h
theorem SC:∃kd tp pos,B9=B9.take 2++.For (.Tuple (qF fE) kd tp) (iP fE) ((eK fE).take 5++(eK fE).drop 5) [] pos::B9.drop 3:=⟨_,_,_,rfl⟩
set_option maxHeartbeats 1000000 in
theorem RW(P:ak):∀z,z<=2->pn (fx P) 30 gx B9 dO fun la=>[.int (.lit (.ofNat z)),.old (.ref la)]++r9.tl:=by
 intro z hz F la rows hrows mu ds A env h₁ L m s Q Eo Z En S Lo hQ
 rw [wt] at hrows Z S Lo hQ
 show wpAny (model (fx { P with tl:=P.tl++F }).prog (fx { P with tl:=P.tl++F }).w) A (execs B9 env) Q Eo s
 generalize ({ P with tl:=P.tl++F }:ak)=P' at *
 have st:∀(c:Value->Bool) (la:Addr),cC (rh (aO 14)) .e 0 (.mk [] []) ([.int (.lit (.ofNat z)),.old (.ref la)]++r9.tl) (w9 c (ah 1) (cg (dY z))) gw=c (.ref la):=by
  match z,hz with
  | 0,_=>exact Qd
  | 1,_=>exact Tu
  | 2,_=>exact Tc
 have mz:iD z zp=true:=by
  match z,hz with
  | 0,_=>kernel_rfl
  | 1,_=>kernel_rfl
  | 2,_=>kernel_rfl
 obtain ⟨kd,tp,pos,eB⟩:=SC
 rw [eB]
 refine Ed (l:=B9.take 2) (rest:=B9.drop 3) (ts:=qF fE) (b1s:=(eK fE).take 5) (b2s:=(eK fE).drop 5) (e:=iP fE) (bB (Gu P')) (bB (Dk P')) (Pl P') rfl rfl (bB (Co P')) (bB (AN P')) rfl (Inv:=MB) (RowOk:=fun a b=>a<3/\b∈dO) (fun pat hi=>?_) (fun pat hi vals hv hg=>?_) (fun pat hi who deed hr z vals hv hg=>?_) (fun pat hi vals hv hg=>?_) (KD P') rfl ⟨z,mz,rfl⟩ st hrows mu Z En S Lo hQ
 ·obtain ⟨c,hc,rfl⟩:=hi
  exact zv (ly hc (fun q0=>0) 0 0).1
 ·obtain ⟨c,hc,rfl⟩:=hi
  obtain ⟨v,hv'⟩:=vR vals
  rw [hv] at hv'
  have b:=(ly hc v 0 0).2.1.2
  rw [<- hv'] at b
  exact b
 ·obtain ⟨c,hc,rfl⟩:=hi
  obtain ⟨v,hv'⟩:=vR vals
  rw [hv] at hv'
  obtain ⟨p,a,b⟩:=(ly hc v z deed).2.2 who (Ui hr.1) hr.2
  rw [<- hv'] at b
  exact ⟨p,_,z,_,a,(by show (cg (dY c)).cs.length<vals.length+1; rw [hv]; exact Nat.lt_succ_self _),(by show ((vals++[z])[(cg (dY c)).cs.length]?).getD 0=z; rw [<- hv]; simp),nJ hv hg,xN hv z,b⟩
 ·obtain ⟨c,hc,rfl⟩:=hi
  obtain ⟨v,hv'⟩:=vR vals
  rw [hv] at hv'
  have b:=(ly hc v 0 0).2.1.1
  rw [<- hv'] at b
  exact b
theorem WD(P:ak):iG (fx P) 31 (yA dO) (.ref 1968):=CX hT hD (EG P) rfl rfl rfl rfl (gN rfl) (RW P)
noncomputable def z9:kB:=yA dO
end
end Internal.L
namespace Internal.L
open Internal.N
noncomputable section
structure GD where
 held:Bool
 w:List Nat
 cnt:Bool
def XU(n:Nat):Nat->List Nat:=@Nat.rec (fun q0=>Nat->List Nat) (fun q0=>[]) (fun q0 ih c=>@Bool.rec (fun q0=>List Nat) (Nat.sub (Nat.mod c 8) 1::ih (Nat.div c 8)) [] (Nat.beq c 0)) n
def Vf(l:List Nat):Nat:=@List.rec Nat (fun q0=>Nat) 0 (fun a q0 ih=>Nat.add (Nat.succ a) (Nat.mul 8 ih)) l
def dg(c:Nat):GD:=⟨Nat.beq (Nat.mod c 2) 1,XU 3 (Nat.div c 4),Nat.beq (Nat.mod (Nat.div c 2) 2) 1⟩
def W9(d:GD):Nat:=Nat.add (qp d.held) (Nat.mul 2 (Nat.add (qp d.cnt) (Nat.mul 2 (Vf d.w))))
def fG(d:GD)(k:GD->Bool):Bool:=fB d.held fun a=>fB d.cnt fun c=>tO d.w fun l=>k ⟨a,l,c⟩
theorem y0(d:GD)(k:GD->Bool):fG d k=k d:=by unfold fG; rw [pW,pW,lm]
noncomputable def sH(x:Nat):Bool:=Nat.ble (Nat.succ x) 3
def sR(d:GD)(who:Nat):Bool:=dT who d.w||dT (Nat.add 3 who) d.w
def RL(l:List Nat):List Nat:=@List.rec Nat (fun q0=>List Nat) [] (fun a r ih=>@Bool.rec (fun q0=>List Nat) (a::ih) r (sH a)) l
def Ti(d:GD)(who deed o:Nat):GD:=
 bH (sR d who) d
 (bH (Nat.beq deed 40) (bH d.held ⟨d.held,dy d.w [who],d.cnt⟩ ⟨true,d.w,d.cnt⟩)
 (bH (Nat.beq deed 135) (bH d.held (bH (uS (nk sH d.w)) ⟨false,d.w,d.cnt⟩ ⟨d.held,RL d.w,d.cnt⟩) d)
 (bH (Nat.beq deed 64) (bH (Nat.beq o 2) ⟨d.held,dy d.w [Nat.add 3 who],d.cnt⟩ d)
 (bH (Nat.beq deed 7||Nat.beq deed 31) (bH (Nat.beq o 0) d (bH (Nat.beq o 1) ⟨d.held,nk sH d.w,true⟩ ⟨d.held,d.w,true⟩)) d))))
def dM(d:GD):eh:=
 let h:=qp d.held; let c:=qp d.cnt; let nw:=vv d.w
 let k0:=Nat.add 14 h; let r0:=Nat.add k0 c; let b:=Nat.add r0 nw; let e0:=Nat.add b 5; let p0:=Nat.add (Nat.add e0 h) c; let q:=Nat.add p0 nw; let e:=Nat.add q 5
 let tv:PV:=bH d.cnt (.int 1) (.int 0)
 let one (t f:List PO):List PO:=bH d.held t f
 ⟨dy [.inst 2 2,.ds [(120,.bool d.held),(94,.own 3),(77,bH d.cnt (.int 0) (fS 0)),(78,.own 4)],
  .idict [(108,.unk),(105,.unk),(143,.unk),(33,.unk),(99,.unk),(162,.unk),(85,.own 5),(175,.own 6),(124,.unk),(150,.none),(145,.unk)],
  .list (eu fS (nk sH d.w)),.list (eu (fun x=>fS (Nat.sub x 3)) (nk (fun x=>!sH x) d.w)),.inst 6 7,.inst 7 8,
  .idict [(36,.own 9),(116,.own 10),(156,.own 11)],.idict [(143,.own 12),(8,.own 13),(37,.unk)],
  .list (bH d.held [.own 14] []),bH d.cnt (.dk k0 (.int 0)) .d0,.list (eu (fun i=>.own (Nat.add r0 i)) (ic nw 0)),.inst 10 b,.list (eu (fun i=>.own (Nat.add (Nat.succ b) i)) [0,1,2,3])]
  (dy (bH d.held [.tuple [.str 28,fS 0,.own e0]] []) (dy (bH d.cnt [.tuple [.str 28,fS 1,.own (Nat.add e0 h)]] [])
  (dy (yn (fun i x=>.tuple [.own (Nat.add p0 i),fS (bH (sH x) x (Nat.sub x 3))]) 0 d.w)
  (dy [.idict [(18,.own q),(100,tv)]]
  (dy (eu (fun i=>.inst 8 (Nat.add (Nat.succ q) i)) [0,1,2,3])
  (dy (bH d.held [.tuple []] []) (dy (bH d.cnt [.tuple []] [])
  (dy (yn (fun i x=>.tuple [.str 28,fS (bH (sH x) 0 1),.own (Nat.add e i)]) 0 d.w)
  (dy [.list []]
  (dy (eu (fun g=>.idict [(123,fS g),(74,.unk),(98,.str (bH (sH g&&(dT g d.w||dT (Nat.add 3 g) d.w)) 107 96)),(111,.none)]) [0,1,2,3])
  (eu (fun q0=>.tuple []) (ic nw 0)))))))))))),bH d.cnt [true,true] [true],[none,(some (.own 0)),(some (.own 1)),none,none,none,none,none,none,none,none]⟩
noncomputable def fk:List Nat:=[40,135,7,31,64,146]
noncomputable def U4:NT:=(.n (.n (.one 0) 1 (.one 1)) 2 (.n (.one 2) 3 (.one 3)))
noncomputable def UB:NT:=(.n (.n (.one 5) 7 (.one 7)) 9 (.n (.one 9) 11 (.one 11)))
noncomputable def UL:NT:=(.n (.n (.one 13) 15 (.one 15)) 18 (.n (.one 18) 19 (.one 19)))
noncomputable def Uv:NT:=(.n (.n (.one 22) 23 (.one 23)) 26 (.n (.one 26) 27 (.one 27)))
noncomputable def Uf:NT:=(.n (.n (.one 41) 43 (.one 43)) 45 (.n (.one 45) 47 (.one 47)))
noncomputable def UH:NT:=(.n (.n (.one 55) 59 (.one 59)) 69 (.n (.one 69) 71 (.one 71)))
noncomputable def UZ:NT:=(.n (.n (.one 77) 79 (.one 79)) 83 (.n (.one 83) 91 (.one 91)))
noncomputable def Uz:NT:=(.n (.n (.one 101) 103 (.one 103)) 105 (.n (.one 105) 107 (.one 107)))
noncomputable def Uy:NT:=(.n (.n (.one 115) 119 (.one 119)) 139 (.n (.one 139) 143 (.one 143)))
noncomputable def Uu:NT:=(.n (.n (.one 150) 151 (.one 151)) 154 (.n (.one 154) 155 (.one 155)))
noncomputable def Io:NT:=(.n (.n (.one 167) 175 (.one 175)) 178 (.n (.one 178) 179 (.one 179)))
noncomputable def My:NT:=(.n (.n (.one 186) 187 (.one 187)) 199 (.n (.one 199) 203 (.one 203)))
noncomputable def IY:NT:=(.n (.n (.one 210) 211 (.one 211)) 214 (.n (.one 214) 215 (.one 215)))
noncomputable def L7:NT:=(.n (.n (.one 333) 335 (.one 335)) 347 (.n (.one 347) 361 (.one 361)))
noncomputable def HD:NT:=(.n (.n (.one 363) 375 (.one 375)) 431 (.n (.one 431) 443 (.one 443)))
noncomputable def Jk:NT:=(.n (.n (.one 459) 471 (.one 471)) 557 (.n (.one 557) 559 (.one 559)))
noncomputable def NR:NT:=(.n (.n (.one 571) 613 (.one 613)) 615 (.n (.one 615) 627 (.one 627)))
noncomputable def Kh:NT:=(.n (.n (.one 655) 667 (.one 667)) 711 (.n (.one 711) 723 (.one 723)))
noncomputable def OD:NT:=(.n (.n (.one 809) 811 (.one 811)) 823 (.n (.one 823) 837 (.one 837)))
noncomputable def Ko:NT:=(.n (.n (.one 839) 851 (.one 851)) 907 (.n (.one 907) 919 (.one 919)))
noncomputable def HC:NT:=(.n (.n (.one 935) 947 (.one 947)) 1103 (.n (.one 1103) 1115 (.one 1115)))
noncomputable def Lf:NT:=(.n (.n (.one 1131) 1143 (.one 1143)) 1199 (.n (.one 1199) 1210 (.one 1210)))
noncomputable def NE:NT:=(.n (.n (.one 1211) 1227 (.one 1227)) 1238 (.n (.one 1238) 1239 (.one 1239)))
noncomputable def LS:NT:=(.n (.n (.one 1327) 1339 (.one 1339)) 1383 (.n (.one 1383) 1395 (.one 1395)))
noncomputable def Pk:NT:=(.n (.n (.one 1423) 1434 (.one 1434)) 1435 (.n (.one 1435) 1479 (.one 1479)))
noncomputable def HW:NT:=(.n (.n (.one 1490) 1491 (.one 1491)) 1579 (.n (.one 1579) 1591 (.one 1591)))
noncomputable def IG:NT:=(.n (.n (.one 1607) 1619 (.one 1619)) 1675 (.n (.one 1675) 1686 (.one 1686)))
noncomputable def Pa:NT:=(.n (.n (.one 1687) 1703 (.one 1703)) 1714 (.n (.one 1714) 1715 (.one 1715)))
noncomputable def uK:NT:=(.n (.n (.n (.n U4 5 (.n UB 13 UL)) 22 (.n (.n Uv 41 Uf) 55 (.n UH 77 UZ))) 101 (.n (.n Uz 115 (.n Uy 150 Uu)) 167 (.n (.n Io 186 My) 210 (.n IY 333 L7)))) 363 (.n (.n (.n HD 459 (.n Jk 571 NR)) 655 (.n (.n Kh 809 OD) 839 (.n Ko 935 HC))) 1131 (.n (.n Lf 1211 (.n NE 1327 LS)) 1423 (.n (.n Pk 1490 HW) 1607 (.n IG 1687 Pa)))))
def CW(R:bc):SV:=(ke 2 [2,1] (aD (af (aT (c4 R) aj) (af (sv (cu (ar 120) (bj (.bool false)) (cu (ar 94) (bb aj) (cu (ar 77) (aM 0) (cu (ar 78) (bb aj) ku))))) aj))) aC)
def yM(R:bc):SX:=(gE (cC (bX (aY pX (ah 3) (dp (dW fF) (aP (ah 2) (ar 94)) (aP (ah 2) (ar 78)))) zg aC aC)) (gE (sV (bt 6) (gg Um (af (ah 1) (af (aP (aH (aH (ah 1) 175) 8) (ah 3)) (af (ah 4) (af (gV (aY bI (ah 4) (ar 7)) (ah 5) (xF qr (aM 1))) aj)))))) (cC (bX (aY ej (ah 6) (aT (Ug R) (af (ah 2) (af (ah 3) (af (ah 4) (af (gV (aY bI (ah 4) (ar 7)) (ah 5) (xF qr (aM 1))) aj)))))) bw aC aC))))
def kS(R:bc):SV:=(kh (bt 7) (aH (aH (ah 1) 175) 8) (bX (aY ej (gJ bI (aH (ah 7) 98) (ar 107)) (gJ pX (aH (ah 7) 123) (dp (dW fF) (aP (ah 2) (ar 94)) (aP (ah 2) (ar 78))))) bw aC aC) aC)
def ya(R:bc):SV:=(bC (gJ jL (aH (ah 1) 150) (bj .none)))
noncomputable def M1:j6:=(bK (bt 3) (bK (bt 4) (bK (bt 5) ft)))
def Fu(p q:eh)(who deed:Nat)(ge:GI)(B:fb):Bool:=M1 [.int (.lit (.ofNat who)),.str deed,.int ge] (d8 (p.P++[.oit])) (p.P.length+1) (.mk B []) (ew p.rt) (fun H nx R loc=>yM (aO 14) H nx R loc (ju q .oit p.P.length) gw)
def xW(p:eh)(vals:List Int):Bool:=cC (ya (aO 14)) (d8 (p.P++[.junk])) (p.P.length+1) (.mk (cW p.cs vals) []) (ew p.rt) vy gw
def d9(d:GD)(who deed o:Nat)(ge:GI)(B:fb):Bool:=fG (Ti d who deed o) fun e=>fN (W9 e) fun c'=>@Bool.rec (fun q0=>Bool) false (fG (dg c') fun e'=>Fu (dM d) (dM e') who deed ge B) (iD c' uK)
noncomputable def Am:GI:=.add (.var 2) (.mul (.lit (-1)) (.var 0))
def Ca(d:GD)(who T S:Nat)(z:Int):Bool:=(d9 d who 40 0 (.var 1) [(0,.ofNat T),(z,z)]&&(d9 d who 135 0 (.var 1) [(0,.ofNat T),(z,z)]&&(d9 d who 146 0 (.var 1) [(0,.ofNat T),(z,z)]&&(d9 d who 31 0 (.var 1) [(0,.ofNat T),(z,z)]&&(d9 d who 64 1 (.var 1) [(0,.ofNat T),(z,z)]
   &&(d9 d who 7 0 (.var 1) [(0,.ofNat T),(.negSucc S,.negSucc S)]&&(d9 d who 7 1 (.var 1) [(0,.ofNat T),(0,0)]&&d9 d who 7 2 (.var 1) [(0,.ofNat T),(.ofNat (Nat.succ S),.ofNat (Nat.succ S))])))))))
def Cd(d:GD)(who T C S:Nat)(z:Int):Bool:=(d9 d who 40 0 (.var 2) [(0,.ofNat C),(0,.ofNat T),(z,z)]&&(d9 d who 135 0 (.var 2) [(0,.ofNat C),(0,.ofNat T),(z,z)]&&(d9 d who 146 0 (.var 2) [(0,.ofNat C),(0,.ofNat T),(z,z)]
   &&(d9 d who 31 0 (.var 2) [(0,0),(0,.ofNat T),(z,z)]&&(d9 d who 31 1 (.var 2) [(1,1),(0,.ofNat T),(z,z)]&&(d9 d who 31 2 (.var 2) [(.ofNat (Nat.succ (Nat.succ S)),.ofNat (Nat.succ (Nat.succ S))),(0,.ofNat T),(z,z)]
   &&(d9 d who 64 1 (.var 2) [(0,0),(0,.ofNat T),(z,z)]&&(d9 d who 64 2 (.var 2) [(.ofNat (Nat.succ S),.ofNat (Nat.succ S)),(0,.ofNat T),(z,z)]
   &&(d9 d who 7 0 Am [(0,.ofNat C),(0,.ofNat T),(.negSucc S,.negSucc S)]&&(d9 d who 7 1 Am [(0,.ofNat C),(0,.ofNat T),(0,0)]&&d9 d who 7 2 Am [(0,.ofNat C),(0,.ofNat T),(.ofNat (Nat.succ S),.ofNat (Nat.succ S))]))))))))))
def nY(d:GD)(who T C S:Nat)(z:Int)(dv:Nat):Bool:=@Bool.rec (fun q0=>Bool) (@Bool.rec (fun q0=>Bool) (Ca d who T S z) (Cd d who T C S z) d.cnt)
 (@Bool.rec (fun q0=>Bool) (d9 d who dv 0 (.var 1) [(0,.ofNat T),(z,z)]) (d9 d who dv 0 (.var 2) [(0,.ofNat C),(0,.ofNat T),(z,z)]) d.cnt) (sR d who)
theorem II(d:GD):(dM d).cs=@Bool.rec (fun q0=>List Bool) [true] [true,true] d.cnt:=by kernel_rfl
def dj(c T C S:Nat)(z:Int)(dv:Nat):Bool:=fG (dg c) fun d=>@Bool.rec (fun q0=>Bool) false (@Bool.rec (fun q0=>Bool) false (rF [0,1,2] fun who=>nY d who T C S z dv)
 (xW (dM d) (bH d.cnt [.ofNat C,.ofNat T] [.ofNat T])&&ow (sf (dM d)) (cC (kS (aO 14))) (dM d) (bH d.cnt [.ofNat C,.ofNat T] [.ofNat T]))) (Bi (dM d))
theorem VW:∀(T C S:Nat) (z:Int) (dv:Nat),cq (fun c=>dj c T C S z dv) U4=true:=fun T C S z dv=>by kernel_rfl
theorem XW:∀(T C S:Nat) (z:Int) (dv:Nat),cq (fun c=>dj c T C S z dv) UB=true:=fun T C S z dv=>by kernel_rfl
theorem WO:∀(T C S:Nat) (z:Int) (dv:Nat),cq (fun c=>dj c T C S z dv) UL=true:=fun T C S z dv=>by kernel_rfl
theorem aak:∀(T C S:Nat) (z:Int) (dv:Nat),cq (fun c=>dj c T C S z dv) Uv=true:=fun T C S z dv=>by kernel_rfl
theorem Xy:∀(T C S:Nat) (z:Int) (dv:Nat),cq (fun c=>dj c T C S z dv) Uf=true:=fun T C S z dv=>by kernel_rfl
theorem Zs:∀(T C S:Nat) (z:Int) (dv:Nat),cq (fun c=>dj c T C S z dv) UH=true:=fun T C S z dv=>by kernel_rfl
theorem Zt:∀(T C S:Nat) (z:Int) (dv:Nat),cq (fun c=>dj c T C S z dv) UZ=true:=fun T C S z dv=>by kernel_rfl
theorem V1:∀(T C S:Nat) (z:Int) (dv:Nat),cq (fun c=>dj c T C S z dv) Uz=true:=fun T C S z dv=>by kernel_rfl
theorem Wz:∀(T C S:Nat) (z:Int) (dv:Nat),cq (fun c=>dj c T C S z dv) Uy=true:=fun T C S z dv=>by kernel_rfl
theorem VI:∀(T C S:Nat) (z:Int) (dv:Nat),cq (fun c=>dj c T C S z dv) Uu=true:=fun T C S z dv=>by kernel_rfl
theorem Qa:∀(T C S:Nat) (z:Int) (dv:Nat),cq (fun c=>dj c T C S z dv) Io=true:=fun T C S z dv=>by kernel_rfl
theorem SB:∀(T C S:Nat) (z:Int) (dv:Nat),cq (fun c=>dj c T C S z dv) My=true:=fun T C S z dv=>by kernel_rfl
theorem Qk:∀(T C S:Nat) (z:Int) (dv:Nat),cq (fun c=>dj c T C S z dv) IY=true:=fun T C S z dv=>by kernel_rfl
theorem Ri:∀(T C S:Nat) (z:Int) (dv:Nat),cq (fun c=>dj c T C S z dv) L7=true:=fun T C S z dv=>by kernel_rfl
theorem Q5:∀(T C S:Nat) (z:Int) (dv:Nat),cq (fun c=>dj c T C S z dv) HD=true:=fun T C S z dv=>by kernel_rfl
theorem Sf:∀(T C S:Nat) (z:Int) (dv:Nat),cq (fun c=>dj c T C S z dv) Jk=true:=fun T C S z dv=>by kernel_rfl
theorem PG:∀(T C S:Nat) (z:Int) (dv:Nat),cq (fun c=>dj c T C S z dv) NR=true:=fun T C S z dv=>by kernel_rfl
theorem QX:∀(T C S:Nat) (z:Int) (dv:Nat),cq (fun c=>dj c T C S z dv) Kh=true:=fun T C S z dv=>by kernel_rfl
theorem TL:∀(T C S:Nat) (z:Int) (dv:Nat),cq (fun c=>dj c T C S z dv) OD=true:=fun T C S z dv=>by kernel_rfl
theorem RN:∀(T C S:Nat) (z:Int) (dv:Nat),cq (fun c=>dj c T C S z dv) Ko=true:=fun T C S z dv=>by kernel_rfl
theorem QI:∀(T C S:Nat) (z:Int) (dv:Nat),cq (fun c=>dj c T C S z dv) HC=true:=fun T C S z dv=>by kernel_rfl
theorem PD:∀(T C S:Nat) (z:Int) (dv:Nat),cq (fun c=>dj c T C S z dv) Lf=true:=fun T C S z dv=>by kernel_rfl
theorem SS:∀(T C S:Nat) (z:Int) (dv:Nat),cq (fun c=>dj c T C S z dv) NE=true:=fun T C S z dv=>by kernel_rfl
theorem Tz:∀(T C S:Nat) (z:Int) (dv:Nat),cq (fun c=>dj c T C S z dv) LS=true:=fun T C S z dv=>by kernel_rfl
theorem TH:∀(T C S:Nat) (z:Int) (dv:Nat),cq (fun c=>dj c T C S z dv) Pk=true:=fun T C S z dv=>by kernel_rfl
theorem Ro:∀(T C S:Nat) (z:Int) (dv:Nat),cq (fun c=>dj c T C S z dv) HW=true:=fun T C S z dv=>by kernel_rfl
theorem RQ:∀(T C S:Nat) (z:Int) (dv:Nat),cq (fun c=>dj c T C S z dv) IG=true:=fun T C S z dv=>by kernel_rfl
theorem SZ:∀(T C S:Nat) (z:Int) (dv:Nat),cq (fun c=>dj c T C S z dv) Pa=true:=fun T C S z dv=>by kernel_rfl
theorem Dq(T C S:Nat)(z:Int)(dv:Nat):cq (fun c=>dj c T C S z dv) uK=true:=(b0 (b0 (b0 (b0 (VW T C S z dv) (b0 (XW T C S z dv) (WO T C S z dv))) (b0 (b0 (aak T C S z dv) (Xy T C S z dv)) (b0 (Zs T C S z dv) (Zt T C S z dv)))) (b0 (b0 (V1 T C S z dv) (b0 (Wz T C S z dv) (VI T C S z dv))) (b0 (b0 (Qa T C S z dv) (SB T C S z dv)) (b0 (Qk T C S z dv) (Ri T C S z dv))))) (b0 (b0 (b0 (Q5 T C S z dv) (b0 (Sf T C S z dv) (PG T C S z dv))) (b0 (b0 (QX T C S z dv) (TL T C S z dv)) (b0 (RN T C S z dv) (QI T C S z dv)))) (b0 (b0 (PD T C S z dv) (b0 (SS T C S z dv) (Tz T C S z dv))) (b0 (b0 (TH T C S z dv) (Ro T C S z dv)) (b0 (RQ T C S z dv) (SZ T C S z dv))))))
theorem GG(P:ak):au (fx P) 33 hO (CW (aO 14)) (l7.take 1):=by
 have hs:aA (fx P) hO:=⟨hT,odr rfl⟩
 have h:aw P 31 (aO 14):=cJ P 3 14
 unfold CW
 refine fo (js:=[1,2]) hs (.cons rfl eR (.cons rfl hZ .nil)) ?_ ?_ ?_ ?_ ?_ ?_ ?_ ?_ (lF (js:=[1,2]) hs (.cons rfl eR (.cons rfl hZ .nil)) (odr rfl)) ?_ ?_ _
 symm
 refine ay (i:=8) rfl lL (jN P) (pZ h) ?_ ao (.inl (nu P)) _ _
 symm
 refine jP hT ?_ rfl rfl (List.cons_ne_nil _ _) (Nat.le_of_ble_eq_true rfl) _
 refine bF ?_ ?_ ?_
 symm
 refine bF ?_ ?_ ?_
 symm
 refine bF ?_ ?_ ?_
 symm
 refine bF ?_ ?_ ?_
 symm
 exact gK
 symm
 exact rfl
 exact rfl
 exact rfl
 exact (.inl rfl)
 exact rfl
 exact rfl
 exact rfl
 kernel_rfl
noncomputable def fC:Stmt:=match l7[1]? with | some s=>s | none=>.Pass ⟨0,0,0,0⟩
theorem BL(P:ak):bS (fx P) 33 hO (yM (aO 14)) ((eK fC).take 3):=by
 have hs:aA (fx P) hO:=⟨hT,odr rfl⟩
 have h:aw P 31 (aO 14):=cJ P 3 14
 unfold yM
 refine da (l:=[_]) ?_ ?_
 refine bB ?_
 refine ba ?_ ?_ ?_ ?_ _
 refine bd (lj hT) ?_ ?_ rfl _
 symm
 refine bJ (cj (cG P)) ?_ ?_ _
 symm
 exact rq _
 symm
 refine da (l:=[_]) ?_ ?_
 refine nW ?_ ?_ rfl (.inl rfl) rfl _
 symm
 refine d6 (i:=9) rfl HO (BP P) (iO (Nat.le_of_ble_eq_true rfl) (SM P)) ?_ (ag am (ag bQ (ag am (ag iC ao)))) (zL P) _ _
 symm
 refine ax hT ?_ T8 (j9 P) rfl _
 refine ax hT ?_ jJ (gj P) rfl _
 symm
 refine dD ?_ ?_ ?_ _
 symm
 refine mB kT ?_ _
 symm
 refine bB ?_
 refine ba ?_ ?_ ?_ ?_ _
 refine bd (cz hT) ?_ ?_ rfl _
 symm
 refine ay (i:=10) rfl LA (Dm P) (J8 h) ?_ (ag am (ag am (ag am (ag iC ao)))) (.inl (Bg P)) _ _
 symm
 refine dD ?_ ?_ ?_ _
 symm
 refine mB kT ?_ _
 symm
theorem Bj(P:ak):au (fx P) 33 hO (kS (aO 14)) ((eK fC).drop 3):=by
 have hs:aA (fx P) hO:=⟨hT,odr rfl⟩
 have h:aw P 31 (aO 14):=cJ P 3 14
 unfold kS
 refine fH ?_ ?_ ?_ ?_ rfl _
 symm
 refine ax hT ?_ T8 (j9 P) rfl _
 refine ax hT ?_ jJ (gj P) rfl _
 symm
 refine ba ?_ ?_ ?_ ?_ _
 refine bd (cz hT) ?_ ?_ rfl _
 refine dP (jE hT (jX P)) ?_ ?_ rfl _
 refine ax hT ?_ tN (lN P) rfl _
 symm
 refine dP (lj hT) ?_ ?_ rfl _
 refine ax hT ?_ cK (k8 P) rfl _
 symm
 refine bJ (cj (cG P)) ?_ ?_ _
 symm
theorem C6(P:ak):au (fx P) 33 hO (ya (aO 14)) (l7.drop 2):=by
 have hs:aA (fx P) hO:=⟨hT,odr rfl⟩
 have h:aw P 31 (aO 14):=cJ P 3 14
 unfold ya
 refine aW ?_ _
 refine dP eD ?_ ?_ rfl _
 refine ax hT ?_ vT (mK P) rfl _
 symm
theorem Jp(P:ak):gX (fx P) 33 hO M1 (qF fC):=by
 have hs:aA (fx P) hO:=⟨hT,odr rfl⟩
 unfold M1
 refine bu ?_ ?_ rfl
 symm
 refine bu ?_ ?_ rfl
 symm
 refine bu ?_ ?_ rfl
 symm
 exact dK
theorem KO(P:ak):aK (fx P) 33 hO (ah 0) (iP fC):=by
 exact kN rfl pD _
theorem stG(c:Value->Bool)(la:Addr):cC (CW (aO 14)) .e 0 (.mk [] []) ([.old (.ref la)]++Ok.tl) (w9 c (ah 0) (dM (dg 0))) gw=c (.ref la):=by kernel_rfl
def JT(p:eh):Prop:=∃c,iD c uK=true/\p=dM (dg c)
theorem mU{c:Nat}(hc:iD c uK=true)(T C S:Nat)(z:Int)(dv:Nat):Bi (dM (dg c))=true/\(xW (dM (dg c)) (bH (dg c).cnt [.ofNat C,.ofNat T] [.ofNat T])=true/\ow (sf (dM (dg c))) (cC (kS (aO 14))) (dM (dg c)) (bH (dg c).cnt [.ofNat C,.ofNat T] [.ofNat T])=true)/\∀who∈[0,1,2],nY (dg c) who T C S z dv=true:=by
 have h:=mQ (Dq T C S z dv) hc
 unfold dj at h
 rw [y0] at h
 generalize hE:xW (dM (dg c)) (bH (dg c).cnt [.ofNat C,.ofNat T] [.ofNat T])=bE at h
 generalize hM:ow (sf (dM (dg c))) (cC (kS (aO 14))) (dM (dg c)) (bH (dg c).cnt [.ofNat C,.ofNat T] [.ofNat T])=bM at h
 obtain ⟨h1,h⟩:=aJ h
 obtain ⟨h2,h⟩:=aJ h
 exact ⟨h1,Bool.and_eq_true_iff.mp h2,lp h⟩
def tB(d:GD)(who deed:Nat)(ge:GI)(B:fb):Prop:=∃p,JT p/\Fu (dM d) p who deed ge B=true
theorem cy{d:GD}{who deed o:Nat}{ge:GI}{B:fb}(h:d9 d who deed o ge B=true):tB d who deed ge B:=by
 unfold d9 at h
 rw [y0,bP] at h
 obtain ⟨h1,h2⟩:=aJ h
 rw [y0] at h2
 exact ⟨_,⟨_,h1,rfl⟩,h2⟩
theorem lD(z:Int):(∃S,z=.negSucc S)∨z=0∨∃S,z=.ofNat (Nat.succ S):=by
 cases z with
 | negSucc S=>exact .inl ⟨S,rfl⟩
 | ofNat n=>cases n with
  | zero=>exact .inr (.inl rfl)
  | succ S=>exact .inr (.inr ⟨S,rfl⟩)
theorem CU{y:Int}(h:0<=y):y=0∨y=1∨∃S,y=.ofNat (Nat.succ (Nat.succ S)):=by
 rcases lD y with ⟨S,rfl⟩ | e | ⟨S,rfl⟩
 ·exact absurd h (Int.not_le.mpr (Int.negSucc_lt_zero S))
 ·exact .inl e
 ·cases S with
  | zero=>exact .inr (.inl rfl)
  | succ S=>exact .inr (.inr ⟨S,rfl⟩)
theorem tA{vals:List Int}(h:vals.length=2):∃y t,vals=[y,t]:=by
 match vals,h with
 | [y,t],_=>exact ⟨y,t,rfl⟩
theorem w1{t z:Int}{b:Int × Int}{T:Nat}(ht:t=.ofNat T)(hb:b.1<=z/\z<=b.2):gG [(0,.ofNat T),b] [t,z]:=fun k q h=>by
 match k,h with
 | 0,h=>cases h; exact ⟨t,rfl,by rw [ht]; exact Int.natCast_nonneg T,by rw [ht]; exact Int.le_refl _⟩
 | 1,h=>cases h; exact ⟨z,rfl,hb⟩
 | k+2,h=>simp at h
theorem w2{y t z:Int}{a b:Int × Int}{T:Nat}(hy:a.1<=y/\y<=a.2)(ht:t=.ofNat T)(hb:b.1<=z/\z<=b.2):gG [a,(0,.ofNat T),b] [y,t,z]:=fun k q h=>by
 match k,h with
 | 0,h=>cases h; exact ⟨y,rfl,hy⟩
 | k+1,h=>exact w1 ht hb k q h
def tq(d:GD)(who deed:Nat)(z:Int)(vals:List Int):Prop:=∃(ge:GI) (w:Int) (B:fb),ge.ok (vals.length+1)/\ge.ev (vals++[w])=z/\gG B (vals++[w])/\B.length=vals.length+1/\tB d who deed ge B
theorem PX{c:Nat}(hc:iD c uK=true){who deed:Nat}(hw:who∈[0,1,2])(hd:deed∈fk)(z:Int)(vals:List Int)(hl:vals.length=(dM (dg c)).cs.length)(hg:mr (dM (dg c)).cs vals) :
  tq (dg c) who deed z vals:=by
 have hk:∀(T C S:Nat) (z:Int) (dv:Nat),nY (dg c) who T C S z dv=true:=fun T C S z dv=>(mU hc T C S z dv).2.2 who hw
 rw [II] at hl hg
 generalize dg c=d at hk hl hg ⊢
 obtain ⟨held,w,cnt⟩:=d
 have zz:∀{i:Int},0<=i->i=.ofNat i.toNat:=fun h=>(Int.toNat_of_nonneg h).symm
 cases cnt with
 | false=>
  have hl:vals.length=1:=hl
  obtain ⟨t,rfl⟩:=List.length_eq_one_iff.mp hl
  have ht:=zz (hg 0 t rfl rfl)
  have fin:∀(b:Int × Int),b.1<=z/\z<=b.2->tB ⟨held,w,false⟩ who deed (.var 1) [(0,.ofNat t.toNat),b]->tq ⟨held,w,false⟩ who deed z [t]:=fun b hb hs=>
   ⟨.var 1,z,_,(show 1<2 by decide),rfl,w1 ht hb,rfl,hs⟩
  have self:(z,z).1<=z/\z<=(z,z).2:=⟨Int.le_refl _,Int.le_refl _⟩
  cases hb:sR ⟨held,w,false⟩ who with
  | true=>
   have h:=hk t.toNat 0 0 z deed
   unfold nY at h
   rw [hb] at h
   exact fin _ self (cy h)
  | false=>
   have hk:∀(S:Nat),Ca ⟨held,w,false⟩ who t.toNat S z=true:=fun S=>by
    have h:=hk t.toNat 0 S z deed
    unfold nY at h
    rw [hb] at h
    exact h
   unfold Ca at hk
   simp only [Bool.and_eq_true] at hk
   have h0:=hk 0
   simp only [fk,List.mem_cons,List.not_mem_nil,or_false] at hd
   rcases hd with rfl | rfl | rfl | rfl | rfl | rfl
   ·exact fin _ self (cy h0.1)
   ·exact fin _ self (cy h0.2.1)
   ·rcases lD z with ⟨S,e⟩ | e | ⟨S,e⟩
    ·exact fin (.negSucc S,.negSucc S) ⟨by rw [e]; exact Int.le_refl _,by rw [e]; exact Int.le_refl _⟩ (cy (hk S).2.2.2.2.2.1)
    ·exact fin (0,0) ⟨by rw [e]; exact Int.le_refl _,by rw [e]; exact Int.le_refl _⟩ (cy (hk 0).2.2.2.2.2.2.1)
    ·exact fin (.ofNat (Nat.succ S),.ofNat (Nat.succ S)) ⟨by rw [e]; exact Int.le_refl _,by rw [e]; exact Int.le_refl _⟩ (cy (hk S).2.2.2.2.2.2.2)
   ·exact fin _ self (cy h0.2.2.2.1)
   ·exact fin _ self (cy h0.2.2.2.2.1)
   ·exact fin _ self (cy h0.2.2.1)
 | true=>
  have hl:vals.length=2:=hl
  obtain ⟨y,t,rfl⟩:=tA hl
  have hy:=zz (hg 0 y rfl rfl)
  have ht:=zz (hg 1 t rfl rfl)
  have fin:∀(a:Int × Int),a.1<=y/\y<=a.2->tB ⟨held,w,true⟩ who deed (.var 2) [a,(0,.ofNat t.toNat),(z,z)]->tq ⟨held,w,true⟩ who deed z [y,t]:=fun a ha hs=>
   ⟨.var 2,z,_,(show 2<3 by decide),rfl,w2 ha ht ⟨Int.le_refl _,Int.le_refl _⟩,rfl,hs⟩
  have fin2:∀(b:Int × Int),b.1<=y+z/\y+z<=b.2->tB ⟨held,w,true⟩ who deed Am [(0,.ofNat y.toNat),(0,.ofNat t.toNat),b]->tq ⟨held,w,true⟩ who deed z [y,t]:=fun b hb hs=>
   ⟨Am,y+z,_,⟨(show 2<3 by decide),trivial,(show 0<3 by decide)⟩,(show (y+z) + -1 * y=z by omega),w2 ⟨by rw [hy]; exact Int.natCast_nonneg _,by rw [hy]; exact Int.le_refl _⟩ ht hb,rfl,hs⟩
  have self:(0,Int.ofNat y.toNat).1<=y/\y<=(0,Int.ofNat y.toNat).2:=⟨by rw [hy]; exact Int.natCast_nonneg _,by rw [<- hy]; exact Int.le_refl _⟩
  cases hb:sR ⟨held,w,true⟩ who with
  | true=>
   have h:=hk t.toNat y.toNat 0 z deed
   unfold nY at h
   rw [hb] at h
   exact fin _ self (cy h)
  | false=>
   have hk:∀(S:Nat),Cd ⟨held,w,true⟩ who t.toNat y.toNat S z=true:=fun S=>by
    have h:=hk t.toNat y.toNat S z deed
    unfold nY at h
    rw [hb] at h
    exact h
   unfold Cd at hk
   simp only [Bool.and_eq_true] at hk
   have h0:=hk 0
   have ge0:0<=y:=hg 0 y rfl rfl
   simp only [fk,List.mem_cons,List.not_mem_nil,or_false] at hd
   rcases hd with rfl | rfl | rfl | rfl | rfl | rfl
   ·exact fin _ self (cy h0.1)
   ·exact fin _ self (cy h0.2.1)
   ·rcases lD (y+z) with ⟨S,e⟩ | e | ⟨S,e⟩
    ·exact fin2 (.negSucc S,.negSucc S) ⟨by rw [e]; exact Int.le_refl _,by rw [e]; exact Int.le_refl _⟩ (cy (hk S).2.2.2.2.2.2.2.2.1)
    ·exact fin2 (0,0) ⟨by rw [e]; exact Int.le_refl _,by rw [e]; exact Int.le_refl _⟩ (cy (hk 0).2.2.2.2.2.2.2.2.2.1)
    ·exact fin2 (.ofNat (Nat.succ S),.ofNat (Nat.succ S)) ⟨by rw [e]; exact Int.le_refl _,by rw [e]; exact Int.le_refl _⟩ (cy (hk S).2.2.2.2.2.2.2.2.2.2)
   ·rcases CU ge0 with e | e | ⟨S,e⟩
    ·exact fin (0,0) ⟨by rw [e]; exact Int.le_refl _,by rw [e]; exact Int.le_refl _⟩ (cy h0.2.2.2.1)
    ·exact fin (1,1) ⟨by rw [e]; exact Int.le_refl _,by rw [e]; exact Int.le_refl _⟩ (cy h0.2.2.2.2.1)
    ·exact fin (.ofNat (Nat.succ (Nat.succ S)),.ofNat (Nat.succ (Nat.succ S))) ⟨by rw [e]; exact Int.le_refl _,by rw [e]; exact Int.le_refl _⟩ (cy (hk S).2.2.2.2.2.1)
   ·rcases lD y with ⟨S,e⟩ | e | ⟨S,e⟩
    ·rw [e] at ge0; exact absurd ge0 (Int.not_le.mpr (Int.negSucc_lt_zero S))
    ·exact fin (0,0) ⟨by rw [e]; exact Int.le_refl _,by rw [e]; exact Int.le_refl _⟩ (cy h0.2.2.2.2.2.2.1)
    ·exact fin (.ofNat (Nat.succ S),.ofNat (Nat.succ S)) ⟨by rw [e]; exact Int.le_refl _,by rw [e]; exact Int.le_refl _⟩ (cy (hk S).2.2.2.2.2.2.2.1)
   ·exact fin _ self (cy h0.2.2.1)
theorem FH{c:Nat}(hc:iD c uK=true)(vals:List Int)(hl:vals.length=(dM (dg c)).cs.length)(hg:mr (dM (dg c)).cs vals):xW (dM (dg c)) vals=true:=by
 have hk:=fun T C=>(mU hc T C 0 0 0).2.1.1
 rw [II] at hl hg
 generalize dg c=d at hk hl hg ⊢
 obtain ⟨held,w,cnt⟩:=d
 have zz:∀{i:Int},0<=i->i=.ofNat i.toNat:=fun h=>(Int.toNat_of_nonneg h).symm
 cases cnt with
 | false=>
  have hl:vals.length=1:=hl
  obtain ⟨t,rfl⟩:=List.length_eq_one_iff.mp hl
  rw [zz (hg 0 t rfl rfl)]
  exact hk _ 0
 | true=>
  have hl:vals.length=2:=hl
  obtain ⟨y,t,rfl⟩:=tA hl
  rw [zz (hg 0 y rfl rfl),zz (hg 1 t rfl rfl)]
  exact hk _ _
theorem Gi{c:Nat}(hc:iD c uK=true)(vals:List Int)(hl:vals.length=(dM (dg c)).cs.length)(hg:mr (dM (dg c)).cs vals):ow (sf (dM (dg c))) (cC (kS (aO 14))) (dM (dg c)) vals=true:=by
 have hk:=fun T C=>(mU hc T C 0 0 0).2.1.2
 rw [II] at hl hg
 generalize dg c=d at hk hl hg ⊢
 obtain ⟨held,w,cnt⟩:=d
 have zz:∀{i:Int},0<=i->i=.ofNat i.toNat:=fun h=>(Int.toNat_of_nonneg h).symm
 cases cnt with
 | false=>
  have hl:vals.length=1:=hl
  obtain ⟨t,rfl⟩:=List.length_eq_one_iff.mp hl
  rw [zz (hg 0 t rfl rfl)]
  exact hk _ 0
 | true=>
  have hl:vals.length=2:=hl
  obtain ⟨y,t,rfl⟩:=tA hl
  rw [zz (hg 0 y rfl rfl),zz (hg 1 t rfl rfl)]
  exact hk _ _
theorem Rt:∃kd tp pos,l7=l7.take 1++.For (.Tuple (qF fC) kd tp) (iP fC) ((eK fC).take 3++(eK fC).drop 3) [] pos::l7.drop 2:=⟨_,_,_,rfl⟩
theorem KH(P:ak):pn (fx P) 33 hO l7 fk fun la=>[.old (.ref la)]++Ok.tl:=by
 intro F la rows hrows mu ds A env h₁ L m s Q Eo Z En S Lo hQ
 rw [wt] at hrows Z S Lo hQ
 show wpAny (model (fx { P with tl:=P.tl++F }).prog (fx { P with tl:=P.tl++F }).w) A (execs l7 env) Q Eo s
 generalize ({ P with tl:=P.tl++F }:ak)=P' at *
 obtain ⟨kd,tp,pos,eB⟩:=Rt
 rw [eB]
 refine Ed (l:=l7.take 1) (rest:=l7.drop 2) (ts:=qF fC) (b1s:=(eK fC).take 3) (b2s:=(eK fC).drop 3) (e:=iP fC) (bB (GG P')) (bB (C6 P')) (Jp P') rfl rfl (BL P') (bB (Bj P')) rfl (Inv:=JT) (RowOk:=fun a b=>a<3/\b∈fk) (fun pat hi=>?_) (fun pat hi vals hv hg=>?_) (fun pat hi who deed hr z vals hv hg=>?_) (fun pat hi vals hv hg=>?_) (KO P') rfl ⟨0,(by kernel_rfl),rfl⟩ stG hrows mu Z En S Lo hQ
 ·obtain ⟨c,hc,rfl⟩:=hi
  exact zv (mU hc 0 0 0 0 0).1
 ·obtain ⟨c,hc,rfl⟩:=hi
  exact Gi hc vals hv hg
 ·obtain ⟨c,hc,rfl⟩:=hi
  obtain ⟨ge,w,B,q1,q2,q3,q4,p,q5,q6⟩:=PX hc (Ui hr.1) hr.2 z vals hv hg
  exact ⟨p,ge,w,B,q5,q1,q2,q3,q4,q6⟩
 ·obtain ⟨c,hc,rfl⟩:=hi
  exact FH hc vals hv hg
theorem yQ(P:ak):iG (fx P) 34 (x3 fk) (.ref 1996):=Cn hT hD (Hf P) rfl rfl rfl rfl (gN rfl) (KH P)
noncomputable def Mp:kB:=x3 fk
end
end Internal.L
namespace Internal.L
open Internal.N
noncomputable section
def Ew(R:bc):SX:=(gE (cC (aB (bt 0) (bb (af (aD (af (aM 0) (af (ar 59) (af (ar 2) aj)))) (af (aD (af (aM 1) (af (ar 59) (af (ar 3) aj)))) (af (aD (af (aM 2) (af (ar 53) (af (aM 7) aj)))) (af (aD (af (aM 2) (af (ar 76) (af (aM 0) aj)))) (af (aD (af (aM 2) (af (ar 59) (af (ar 4) aj)))) (af (aD (af (aM 2) (af (ar 53) (af (aM 8) aj)))) aj))))))) (aB (bt 1) (bb (af (aD (af (aM 0) (af (ar 53) (af (aM 5) aj)))) (af (aD (af (aM 1) (af (ar 53) (af (aM 6) aj)))) (af (aD (af (aM 2) (af (ar 59) (af (ar 2) aj)))) (af (aD (af (aM 2) (af (ar 59) (af (ar 3) aj)))) (af (aD (af (aM 2) (af (ar 45) (af (aM 0) aj)))) aj)))))) (bX (l9 (jY (hW (aT (c9 R) (af (aM 0) (af (ah 0) aj))))) (l9 (jY (hW (aT (c9 R) (af (aM 0) (af (ah 1) aj))))) (l9 (jY (hW (aT (c9 R) (af (aM 1) (af (ah 1) aj))))) jI))) bw aC (bX (jY (hW (aT (c9 R) (af (aM 1) (af (dp (dW fF) (rU (ah 1) (bj .none) (aM 2)) (bb (af (aD (af (aM 2) (af (ar 76) (af (aM 0) aj)))) (af (aD (af (aM 0) (af (ar 59) (af (ar 2) aj)))) (af (aD (af (aM 0) (af (ar 59) (af (ar 3) aj)))) (af (aD (af (aM 1) (af (ar 41) (af (aM 1) aj)))) aj)))))) aj))))) bw aC (aB (bt 2) (bb (af (aD (af (aM 0) (af (ar 40) (af (aM 0) aj)))) (af (aD (af (aM 1) (af (ar 40) (af (aM 0) aj)))) (af (aD (af (aM 2) (af (ar 40) (af (aM 0) aj)))) (af (aD (af (aM 0) (af (ar 135) (af (aM 0) aj)))) (af (aD (af (aM 0) (af (ar 146) (af (aM 0) aj)))) (af (aD (af (aM 1) (af (ar 135) (af (aM 0) aj)))) aj))))))) (aB (bt 3) (bb (af (aD (af (aM 0) (af (ar 7) (af (aM 2) aj)))) (af (aD (af (aM 1) (af (ar 64) (af (aM 0) aj)))) (af (aD (af (aM 2) (af (ar 64) (af (aM 0) aj)))) (af (aD (af (aM 0) (af (ar 31) (af (aM 0) aj)))) (af (aD (af (aM 0) (af (ar 7) (af (xF qr (aM 1)) aj)))) (af (aD (af (aM 0) (af (ar 31) (af (aM 0) aj)))) aj))))))) (bV (gD fP (ah 3) (af (aD (af (aM 0) (af (ar 64) (af (aM 0) aj)))) aj)) aC)))))))) (gE (lT (Du (pY (Bt (gg Mp (af (dp (dW fF) (ah 2) (bb (af (aD (af (aM 2) (af (ar 135) (af (aM 0) aj)))) (af (aD (af (aM 2) (af (ar 135) (af (aM 0) aj)))) aj)))) aj)))) (Du (pY (Bt (gg Mp (af (ah 3) aj)))) (tH jI))) (cC bw) (cC aC)) (x6 (Fb bI (gg Vb aj) (bj (.byt (jm [110,105,108,32,100,101,114,101,102,101,114,101,110,99,101])))))))
theorem Sv(P:ak):bS (fx P) 34 tL (Ew (aO 14)) Es:=by
 have hs:aA (fx P) tL:=⟨hT,odr rfl⟩
 have h:aw P 32 (aO 14):=cJ P 4 14
 unfold Ew
 refine da (l:=[_,_,_,_,_,_,_]) ?_ ?_
 refine bB ?_
 left
 symm
 left
 symm
 refine ba ?_ ?_ ?_ ?_ _
 refine gd ?_ ?_
 refine fJ ?_ _
 refine dE ?_ rfl
 refine ay (i:=4) rfl oP (kj P) (sO h) ?_ (ag aG (ag am ao)) (.inl (mV P)) _ _
 symm
 refine gd ?_ ?_
 refine fJ ?_ _
 refine dE ?_ rfl
 refine ay (i:=4) rfl oP (kj P) (sO h) ?_ (ag aG (ag am ao)) (.inl (mV P)) _ _
 symm
 refine gd ?_ ?_
 refine fJ ?_ _
 refine dE ?_ rfl
 refine ay (i:=4) rfl oP (kj P) (sO h) ?_ (ag aG (ag am ao)) (.inl (mV P)) _ _
 symm
 exact gU _
 symm
 refine ba ?_ ?_ ?_ ?_ _
 refine fJ ?_ _
 refine dE ?_ rfl
 refine ay (i:=4) rfl oP (kj P) (sO h) ?_ (ag aG (ag j8 ao)) (.inl (mV P)) _ _
 symm
 refine bJ (cj (cG P)) ?_ ?_ _
 refine kO ?_ ?_ ?_ _ _
 symm
 exact eJ.none
 refine eJ.some ?_
 symm
 left
 symm
 left
 symm
 refine mB kT ?_ _
 symm
 refine bg ?_ ?_ rfl _
 refine cZ PySem.F.slot_list_append cI dz ?_ ?_ rfl (ag bL ao) rfl (lsp rfl)
 symm
 refine da (l:=[_]) ?_ ?_
 refine gR ?_ ?_ ?_ _
 refine xa ?_ ?_
 refine lW ?_ _
 refine qa ?_ rfl
 refine d6 (i:=5) rfl uv (og P) (iO (Nat.le_of_ble_eq_true rfl) (yQ P)) ?_ (ag j8 ao) (tY P) _ _
 symm
 refine bJ (cj (cG P)) ?_ ?_ _
 symm
 refine xa ?_ ?_
 refine lW ?_ _
 refine qa ?_ rfl
 refine d6 (i:=5) rfl uv (og P) (iO (Nat.le_of_ble_eq_true rfl) (yQ P)) ?_ (ag am ao) (tY P) _ _
 symm
 refine k6 ?_
 exact gU _
 refine bB ?_
 symm
 refine bB ?_
 symm
 refine tX ?_ _
 refine DX (jE hT (jX P)) ?_ ?_ rfl _
 refine d6 (i:=6) rfl HP (Ea P) (iO (Nat.le_of_ble_eq_true rfl) (Ss P)) ?_ ao (Bc P) _ _
 symm
 exact lb [110,105,108,32,100,101,114,101,102,101,114,101,110,99,101] rfl _ _
theorem Z5(P:ak):gu (fx P) 34 N9 (Ew (aO 14)) 2010:=by
 refine ⟨⟨tL,Es,NW,Hp P,?_⟩,AG P,by kernel_rfl⟩
 with_reducible exact Sv P
noncomputable def U7:kB:=oS N9 (Ew (aO 14))
theorem SA(P:ak):iG (fx P) 35 U7 (.ref 2010):=jD hT hD (Z5 P)
variable {P:ak} {c:Value->Bool}
def k1(c:Value->Bool):ce:=eX r1 (ER c)
theorem Ho(v0:Value)(scr:jv (fx P) v0):∃c0,au (fx P) 33 wX (pM v0 c0) B1:=by
 have hs:aA (fx P) wX:=⟨hT,odr rfl⟩
 obtain ⟨c0,hc⟩:=GR (vs:=wX) (d:=33) rfl nP rfl gC (eP P) scr
 refine ⟨c0,?_⟩
 unfold pM
 refine im (my hs rfl jH _) ?_ ?_ rfl (.inl rfl) rfl _
 exact hc _ _ _ _ _ _ _ _ _ _ _ _ _
 refine im (my hs rfl E1 _) ?_ ?_ rfl (.inl rfl) rfl _
 exact Go rfl jH rfl UE Ci _ _ _ _ _ _ _ _
 refine aW ?_ _
 refine BY ?_ ?_ rfl rfl _
 exact F6 rfl E1 _ _ _ _ _ _ _ _ _ _ _
 exact CO rfl E1 _ _ _ _ _ _ _ _ _ _ _ _ _
theorem Hy(hc:∀v,c v=true->jv (fx P) v):cL (fx P) 35 (k1 c) (.ref 1918):=(cE hT hD ⟨⟨wX,B1,D1,TK P,DP hc rfl Ho⟩,EJ P,by kernel_rfl⟩).more (Nat.le_succ _)
def C9(R:bc)(c:Value->Bool):SX:=(gE (cC (ke 2 [2,1] (aD (af (aT (c4 R) aj) (af (aD (af (ar 24) aj)) aj))) (bX (aY ej (aT (Hv R) (af (ah 1) (af (aD (af (ar 174) (af (bj .none) (af (bj (.bool false)) aj)))) (af (aD (af (ar 29) (af (ar 25) (af (ah 2) aj)))) aj)))) (aD (af (bj (.bool false)) (af (bj (.bool false)) aj)))) bw aC aC))) (gE (lT (pY (Bt (gg U7 aj))) (cC bw) (cC aC)) (cC (aB (bt 3) (aT (k1 c) (af (ah 0) aj)) (aB (je 2 (bK (bt 4) (bK (bt 5) ft))) (aT (c3 R) (af (ah 3) (af (bb (af (aD (af (ah 2) (af (bj (.bool false)) aj))) (af (aD (af (aD (af (ar 11) (af (ar 11) aj))) (af (aM 0) aj))) (af (aD (af (aD (af (ar 132) aj)) (af (bj (.byt (jm []))) aj))) aj)))) aj))) (aB (je 2 (bK (bt 6) (bK (bt 7) ft))) (aT (c3 R) (af (ah 3) (af (bb (af (aD (af (aD (af (ar 174) (af (bj .none) (af (bj (.bool false)) aj)))) (af (aD (af (ah 5) (af (bj (.bool false)) aj))) aj))) (af (aD (af (aD (af (ar 174) (af (aM 9) (af (bj (.bool true)) aj)))) (af (aD (af (aM 9) (af (bj (.bool true)) aj))) aj))) aj))) aj))) (bX (aY ej (aT (Hv R) (af (ah 1) (af (ah 6) (af (aD (af (ar 29) (af (ar 48) (af (ah 4) aj)))) aj)))) (ah 7)) bw aC (aB (bt 8) (bb aj) aC))))))))
def Dp(R:bc):SX:=(gE (lT (pY (Bt (gg z9 (af (aT (c2 R) (af (ah 3) (af (aM 3) aj))) (af (ah 8) aj))))) (cC bw) (cC aC)) (cC (aB (bt 8) (bb aj) aC)))
def DC(R:bc):SX:=(x6 (gg Mp (af (ah 8) aj)))
def Me(R:bc):SV:=(aB (bt 10) (aT (c3 R) (af (ah 3) (af (bb (af (ar 53) (af (ar 53) (af (ar 53) (af (ar 59) (af (ar 59) (af (ar 59) (af (ar 76) (af (ar 41) (af (ar 45) aj)))))))))) aj))) (bV (gD fP (ah 8) (af (aD (af (aT (c2 R) (af (ah 3) (af (aM 3) aj))) (af (ah 10) (af (aT (c2 R) (af (ah 3) (af (aM 9) aj))) aj)))) aj)) aC))
def Kd(R:bc):SV:=(aB (bt 10) (aT (c3 R) (af (ah 3) (af (bb (af (ar 40) (af (ar 40) (af (ar 135) (af (ar 7) (af (ar 7) (af (ar 31) (af (ar 64) (af (ar 64) (af (ar 146) aj)))))))))) aj))) (bV (gD fP (ah 8) (af (aD (af (aT (c2 R) (af (ah 3) (af (aM 3) aj))) (af (ah 10) (af (dp pf (aT (c2 R) (af (ah 3) (af (aM 5) aj))) (aM 2)) aj)))) aj)) aC))
def li(R:bc):EV:=(aT tI (af (aT (c2 R) (af (ah 3) (af (aM 8) aj))) aj))
noncomputable def la:AV:=(bt 9)
def jg(k:Nat):Stmt:=match B0[k]? with | some s=>s | none=>.Pass ⟨0,0,0,0⟩
noncomputable def xM:Stmt->Expr | .For (target:=t) ..=>t | _=>.Name (Str.ofString "") ⟨0,0,0,0⟩
theorem F7(hc:∀v,c v=true->jv (fx P) v):bS (fx P) 35 gA (C9 (aO 14) c) (B0.take 8):=by
 have hs:aA (fx P) gA:=⟨hT,odr rfl⟩
 have h:aw P 33 (aO 14):=cJ P 5 14
 unfold C9
 refine da (l:=[_,_]) ?_ ?_
 refine bB ?_
 refine fo (js:=[1,2]) hs (.cons rfl eR (.cons rfl DJ .nil)) ?_ ?_ ?_ ?_ ?_ ?_ ?_ ?_ (lF (js:=[1,2]) hs (.cons rfl eR (.cons rfl DJ .nil)) (odr rfl)) ?_ ?_ _
 symm
 refine ay (i:=11) rfl lL (jN P) (pZ h) ?_ ao (.inl (nu P)) _ _
 symm
 refine ba ?_ ?_ ?_ ?_ _
 refine bd (cz hT) ?_ ?_ rfl _
 refine ay (i:=12) rfl Dj (ur P) (zN h) ?_ (ag am (ag bL (ag bL ao))) (.inl (uA P)) _ _
 symm
 exact rfl
 exact rfl
 exact rfl
 exact (.inl rfl)
 exact rfl
 exact rfl
 exact rfl
 kernel_rfl
 refine da (l:=[_]) ?_ ?_
 refine gR ?_ ?_ ?_ _
 refine lW ?_ _
 refine qa ?_ rfl
 refine d6 (i:=13) rfl Hx (BK P) (iO (Nat.le_of_ble_eq_true rfl) (SA P)) ?_ ao (AG P) _ _
 symm
 refine bB ?_
 symm
 refine bB ?_
 symm
 refine bB ?_
 left
 symm
 refine ay (i:=14) rfl JQ (BR P) (Hy hc) ?_ (ag am ao) (.inl (EJ P)) _ _
 symm
 refine im ?_ ?_ ?_ rfl (.inr rfl) rfl _
 refine eL ?_ (ag am (ag am ao)) _ _
 refine bu ?_ ?_ rfl
 symm
 refine bu ?_ ?_ rfl
 symm
 exact dK
 refine ay (i:=15) rfl ua (lZ P) (sW h) ?_ (ag am (ag gr ao)) (.inl (pi P)) _ _
 symm
 exact lb [] rfl _ _
 symm
 refine im ?_ ?_ ?_ rfl (.inr rfl) rfl _
 refine eL ?_ (ag am (ag am ao)) _ _
 refine bu ?_ ?_ rfl
 symm
 refine bu ?_ ?_ rfl
 symm
 exact dK
 refine ay (i:=15) rfl ua (lZ P) (sW h) ?_ (ag am (ag gr ao)) (.inl (pi P)) _ _
 symm
 refine ba ?_ ?_ ?_ ?_ _
 refine bd (cz hT) ?_ ?_ rfl _
 refine ay (i:=12) rfl Dj (ur P) (zN h) ?_ (ag am (ag am (ag bL ao))) (.inl (uA P)) _ _
 symm
 left
 symm
theorem FS(P:ak):bS (fx P) 35 gA (Dp (aO 14)) ((B0.drop 9).take 2):=by
 have hs:aA (fx P) gA:=⟨hT,odr rfl⟩
 have h:aw P 33 (aO 14):=cJ P 5 14
 unfold Dp
 refine da (l:=[_]) ?_ ?_
 refine gR ?_ ?_ ?_ _
 refine lW ?_ _
 refine qa ?_ rfl
 refine d6 (i:=18) rfl oP (kj P) (iO (Nat.le_of_ble_eq_true rfl) (WD P)) ?_ (ag eN (ag am ao)) (mV P) _ _
 symm
 refine ay (i:=17) rfl kI (fX P) (kC h) ?_ (ag am (ag aG ao)) (.inl (jx P)) _ _
 symm
 refine bB ?_
 symm
 refine bB ?_
 symm
 refine bB ?_
 left
 symm
theorem GC(P:ak):bS (fx P) 35 gA (DC (aO 14)) (B0.drop 12):=by
 have hs:aA (fx P) gA:=⟨hT,odr rfl⟩
 have h:aw P 33 (aO 14):=cJ P 5 14
 unfold DC
 refine tX ?_ _
 refine d6 (i:=19) rfl uv (og P) (iO (Nat.le_of_ble_eq_true rfl) (yQ P)) ?_ (ag am ao) (tY P) _ _
 symm
theorem Hg(P:ak):au (fx P) 35 gA (Me (aO 14)) (eK (jg 8)):=by
 have hs:aA (fx P) gA:=⟨hT,odr rfl⟩
 have h:aw P 33 (aO 14):=cJ P 5 14
 unfold Me
 left
 symm
 refine ay (i:=15) rfl ua (lZ P) (sW h) ?_ (ag am (ag gr ao)) (.inl (pi P)) _ _
 symm
 refine bg ?_ ?_ rfl _
 refine cZ PySem.F.slot_list_append cI dz ?_ ?_ rfl (ag bL ao) rfl (lsp rfl)
 symm
 refine ay (i:=17) rfl kI (fX P) (kC h) ?_ (ag am (ag aG ao)) (.inl (jx P)) _ _
 symm
 refine ay (i:=17) rfl kI (fX P) (kC h) ?_ (ag am (ag aG ao)) (.inl (jx P)) _ _
 symm
theorem Mj(P:ak):au (fx P) 35 gA (Kd (aO 14)) (eK (jg 11)):=by
 have hs:aA (fx P) gA:=⟨hT,odr rfl⟩
 have h:aw P 33 (aO 14):=cJ P 5 14
 unfold Kd
 left
 symm
 refine ay (i:=15) rfl ua (lZ P) (sW h) ?_ (ag am (ag gr ao)) (.inl (pi P)) _ _
 symm
 refine bg ?_ ?_ rfl _
 refine cZ PySem.F.slot_list_append cI dz ?_ ?_ rfl (ag bL ao) rfl (lsp rfl)
 symm
 refine ay (i:=17) rfl kI (fX P) (kC h) ?_ (ag am (ag aG ao)) (.inl (jx P)) _ _
 symm
 refine bJ ?_ ?_ ?_ _
 exact lG
 refine ay (i:=17) rfl kI (fX P) (kC h) ?_ (ag am (ag aG ao)) (.inl (jx P)) _ _
 symm
theorem Py(P:ak):aK (fx P) 35 gA (li (aO 14)) (iP (jg 8)):=by
 have h:aw P 33 (aO 14):=cJ P 5 14
 unfold li
 refine ay (i:=16) rfl AQ (rL P) mx ?_ (ag eN ao) (.inr (.inr ⟨_,rfl⟩)) _ _
 symm
 refine ay (i:=17) rfl kI (fX P) (kC h) ?_ (ag am (ag aG ao)) (.inl (jx P)) _ _
 symm
theorem Lk(P:ak):aK (fx P) 35 gA (li (aO 14)) (iP (jg 11)):=by
 have h:aw P 33 (aO 14):=cJ P 5 14
 unfold li
 refine ay (i:=16) rfl AQ (rL P) mx ?_ (ag eN ao) (.inr (.inr ⟨_,rfl⟩)) _ _
 symm
 refine ay (i:=17) rfl kI (fX P) (kC h) ?_ (ag am (ag aG ao)) (.inl (jx P)) _ _
 symm
theorem Oe(P:ak):dQ (fx P) 35 gA la (xM (jg 8)):=by
 have hs:aA (fx P) gA:=⟨hT,odr rfl⟩
 unfold la
 exact my hs rfl Fa _
theorem Ot(P:ak):dQ (fx P) 35 gA la (xM (jg 11)):=by
 have hs:aA (fx P) gA:=⟨hT,odr rfl⟩
 unfold la
 exact my hs rfl Fa _
def ul(i:Nat):Nat:=@Bool.rec (fun q0=>Nat) 0 i (Nat.ble i 100)
theorem GA(i:Nat):ul i<=100:=by
 unfold ul
 cases q:Nat.ble i 100 with
 | true=>exact Nat.le_of_ble_eq_true q
 | false=>exact Nat.zero_le _
theorem uZ{α:Type}(f:Nat->α):∀l:List Nat,(eu f l).length=l.length
 | []=>rfl
 | a::l=>congrArg (·+ 1) (uZ f l)
theorem vp:∀n i:Nat,(ic n i).length=n
 | 0,i=>rfl
 | n+1,i=>congrArg (·+ 1) (vp n (Nat.succ i))
def ff(f:List (Nat × Nat))(ss:List Nat)(i:Nat):eh:=⟨dy [.pool f,.list (eu (fun k=>.own (Nat.add 2 k)) (ic (ul i) 0))] (eu (fun q0=>.row 3 ss) (ic (ul i) 0)),[],[none,none,none,(some (.own 0)),none,none,none,none,(some (.own 1)),none,none,none,none,none,none,none,none,none,none,none]⟩
noncomputable def F9:List (Nat × Nat):=[(9,9),(3,3),(9,10)]
noncomputable def F5:List (Nat × Nat):=[(9,9),(3,3),(5,6)]
theorem De(c:Value->Bool)(v0:Value):C9 (aO 14) c .e 0 (.mk [] []) (.old v0::r0.tl) (Eu (ff [] dO 0)) gw=c v0:=by kernel_rfl
theorem st1:uz (li (aO 14)) (ff F9 dO 0) 7 (d8 (ff [] dO 0).P) 2 (.mk [] []) (ew (ff [] dO 0).rt)=true:=by kernel_rfl
theorem st2:uz (li (aO 14)) (ff F5 fk 0) 7 (d8 (ff [] dO 0).P) 2 (.mk [] []) (ew (ff [] dO 0).rt)=true:=by kernel_rfl
def Fm(F:List (Nat × Nat))(ss:List Nat)(b:SV)(n i:Nat):Bool:=la (.int (.lit (.ofNat i))) (d8 ((ff F ss i).P++[.riter (i+1) n])) ((ff F ss i).P.length+1) (.mk [] []) (ew (ff F ss i).rt) (fun H nx R loc=>b H nx R loc (ju (ff F ss (i+1)) (.riter (i+1) n) (ff F ss i).P.length))
def pz(n:Nat)(f:Nat->Bool):Bool:=rF (ic n 0) f
theorem tE:∀{n i k:Nat},i<=k->k<i+n->k∈ic n i
 | 0,i,k,h1,h2=>by omega
 | n+1,i,k,h1,h2=>by
  show k∈i::ic n (Nat.succ i)
  by_cases e:k=i
  ·rw [e]; exact .head _
  ·exact .tail _ (tE (by show i+1<=k; omega) (by show k<(i+1)+n; omega))
theorem i6{n:Nat}{f:Nat->Bool}(h:pz n f=true){i:Nat}(hi:i<n):f i=true:=lp h i (tE (Nat.zero_le i) (by omega))
theorem tn1:pz 8 (fun n=>pz n (fun i=>Fm F9 dO (Me (aO 14)) n i))=true:=by kernel_rfl
theorem tn2:pz 8 (fun n=>pz n (fun i=>Fm F5 fk (Kd (aO 14)) n i))=true:=by kernel_rfl
def AH(F:List (Nat × Nat))(ss:List Nat)(n:Nat):Bool:=cC aC (d8 ((ff F ss n).P++[.junk])) ((ff F ss n).P.length+1) (.mk [] []) (ew (ff F ss n).rt) (Eu (ff [] ss n)) gw
theorem ag1:pz 8 (AH F9 dO)=true:=by kernel_rfl
theorem ag2:pz 8 (AH F5 fk)=true:=by kernel_rfl
theorem vk:pz 8 (fun n=>Dp (aO 14) (d8 (ff [] dO n).P) (ff [] dO n).P.length (.mk [] []) (ew (ff [] dO n).rt) (Eu (ff [] dO 0)) gw)=true:=by kernel_rfl
theorem fin:pz 8 (fun n=>DC (aO 14) (d8 (ff [] fk n).P) (ff [] fk n).P.length (.mk [] []) (ew (ff [] fk n).rt) vy gw)=true:=by kernel_rfl
theorem KZ(F:List (Nat × Nat))(ss:List Nat)(i:Nat):(ff F ss i).P.length<300:=by
 show (eu _ (ic (ul i) 0)).length+1+1<300
 rw [uZ,vp]
 have:=GA i
 omega
theorem aaD:∃p1 p2,B0=B0.take 8++(.For (xM (jg 8)) (iP (jg 8)) (eK (jg 8)) [] p1::((B0.drop 9).take 2++(.For (xM (jg 11)) (iP (jg 11)) (eK (jg 11)) [] p2::B0.drop 12))):=⟨_,_,rfl⟩
theorem CA(hc:∀v,c v=true->jv (fx P) v){v0:Value}(hv:c v0=true){A:Around}{env:Env}{O:Heap}{L:Addr}{m:Str->Option Value}{J:az}{s:Shared}{Q:Flow->Shared->Prop}{E:Value->Shared->Prop}(Z:de (fx P) 35 A O L)(En:bN env L)
  (S:St (fx P) J .e 0 (.mk [] []) O L m s) (Lo:bq (fx P) J env L m gA (.old v0::r0.tl)) (hQ:∀g J' H nx R m s,KtsTurn (cT A) O g->St (fx P) J' H nx R g L m s->Q (.ret (.bool true)) s):wpAny (model (fx P).prog (fx P).w) A (execs B0 env) Q E s:=by
 obtain ⟨p1,p2,eB⟩:=aaD
 rw [eB]
 refine FA (F7 hc) rfl ((De c v0).trans hv) Z En S Lo fun g1 m1 s1 T1 I1=>?_
 obtain ⟨J1,vals1,vl1,S1,Lo1,hit1⟩:=I1.ex
 have vl1:vals1=[]:=List.length_eq_zero_iff.mp vl1
 subst vl1
 have Z1:=Z.turn T1
 refine wpAny_execs_cons (Fw (Oe P) (Hg P) rfl (pt:=ff F9 dO) (fun q0=>rfl) (KZ F9 dO) (N:=7) (fun n hn i hi=>i6 (i6 tn1 (Nat.lt_succ_of_le hn)) hi) (Py P) rfl st1 Z1 En S1 Lo1 fun n m2 s2 a2 hn I2=>?_)
 obtain ⟨J2,vals2,vl2,S2,Lo2,_⟩:=I2.ex
 have vl2:vals2=[]:=List.length_eq_zero_iff.mp vl2
 subst vl2
 refine FA (l:=[]) (bB (qA)) rfl (i6 ag1 (Nat.lt_succ_of_le hn)) Z1 En S2 Lo2 fun g3 m3 s3 T3 I3=>?_
 obtain ⟨J3,vals3,vl3,S3,Lo3,_⟩:=I3.ex
 have vl3:vals3=[]:=List.length_eq_zero_iff.mp vl3
 subst vl3
 have Z3:=Z1.turn T3
 refine FA (FS P) rfl (i6 vk (Nat.lt_succ_of_le hn)) Z3 En S3 Lo3 fun g4 m4 s4 T4 I4=>?_
 obtain ⟨J4,vals4,vl4,S4,Lo4,_⟩:=I4.ex
 have vl4:vals4=[]:=List.length_eq_zero_iff.mp vl4
 subst vl4
 have Z4:=Z3.turn T4
 refine wpAny_execs_cons (Fw (Ot P) (Mj P) rfl (pt:=ff F5 fk) (fun q0=>rfl) (KZ F5 fk) (N:=7) (fun n hn i hi=>i6 (i6 tn2 (Nat.lt_succ_of_le hn)) hi) (Lk P) rfl st2 Z4 En S4 Lo4 fun n5 m5 s5 a5 hn5 I5=>?_)
 obtain ⟨J5,vals5,vl5,S5,Lo5,_⟩:=I5.ex
 have vl5:vals5=[]:=List.length_eq_zero_iff.mp vl5
 subst vl5
 refine FA (l:=[]) (bB (qA)) rfl (i6 ag2 (Nat.lt_succ_of_le hn5)) Z4 En S5 Lo5 fun g6 m6 s6 T6 I6=>?_
 obtain ⟨J6,vals6,vl6,S6,Lo6,_⟩:=I6.ex
 have vl6:vals6=[]:=List.length_eq_zero_iff.mp vl6
 subst vl6
 exact By (GC P) (i6 fin (Nat.lt_succ_of_le hn5)) (Z4.turn T6) En S6 Lo6 fun g7 J7 H7 nx7 R7 m7 s7 T7 S7=>hQ g7 J7 H7 nx7 R7 m7 s7 ((((T1.trans T3).trans T4).trans T6).trans T7) S7
end
end Internal.L
namespace Internal.L
open Internal.N
noncomputable section
theorem FX{T:List Str}{vs:aq}{ns:List (Str × NameKind)}(h:cD T vs ns)(hv:(vs.all fun p=>match p.2 with | .loc=>true | .glo=>true | _=>false)=true):∀y∈ns,y.2≠.cell:=by
 induction h with
 | nil=>intro y hy; cases hy
 | @cons i kd s r ns hs hb hr ih=>
  intro y hy
  rw [List.all_cons] at hv
  obtain ⟨h1,h2⟩:=Bool.and_eq_true_iff.mp hv
  rcases List.mem_cons.mp hy with rfl | hy
  ·cases kd with
   | cel=>cases h1
   | blk=>cases h1
   | loc=>intro q; cases q
   | glo=>intro q; cases q
  ·exact ih h2 y hy
theorem nope{b:Bool}{p:Prop}(h:b=true)(z:b=false):p:=absurd (h.symm.trans z) Bool.noConfusion
theorem yI{R:WRecords}{d:WData}{r:List WData}(h:WShape.hasItems R (d::r) .int=true):WShape.has R d .int=true/\WShape.hasItems R r .int=true:=
 Bool.and_eq_true_iff.mp ((show WShape.hasItems R (d::r) .int=(WShape.has R d .int&&WShape.hasItems R r .int) by kernel_rfl).symm.trans h)
theorem GE{R:WRecords}{cl:Str->Option Addr}{h:Heap}(vs:List Value):∀{xs:List WData} {as:List Addr},ReadsAllW R cl h vs xs as->WShape.hasItems R xs .int=true->∀u∈vs,∃i t,u=.int i t:=by
 induction vs with
 | nil=>intro xs as h hx u hu; cases hu
 | cons v vs ih=>
  intro xs as h hx u hu
  cases h with
  | cons h1 h2=>
  obtain ⟨a,b⟩:=yI hx
  rcases List.mem_cons.mp hu with rfl | hu
  ·clear hu h2 ih b hx
   cases h1 <;> first | exact ⟨_,_,rfl⟩ | exact nope a (by kernel_rfl)
  ·exact ih h2 b u hu
theorem N8{R:WRecords}{cl:Str->Option Addr}{h:Heap}(vs:List Value):∀{xs:List WData} {as:List Addr},ReadsAllW R cl h vs xs as->vs.length=xs.length:=by
 induction vs with
 | nil=>intro xs as h; cases h; rfl
 | cons v vs ih=>
  intro xs as h
  cases h with
  | cons _ h2=>exact congrArg (·+ 1) (ih h2)
theorem Oi(xs:List WData):lw.row.toRowW.claim.post [.list xs] (.bool true) [.list xs]=true:=by kernel_rfl
noncomputable def Rg(d:Bool):Bool:=WTm.holds [] (.and (.not (.lit (.bool d))) (.lit (.bool true))) { args:=[] }
theorem few{xs:List WData}(h:lw.row.toRowW.pre.holds lw.row.toRowW.records { args:=[.list xs] }=true):xs.length<=100000:=by
 have e:lw.row.toRowW.pre.holds lw.row.toRowW.records { args:=[.list xs] }=Rg (decide ((63:Int)<(xs.length:Nat))):=by kernel_rfl
 rw [e] at h
 cases q:decide ((63:Int)<(xs.length:Nat)) with
 | true=>rw [q] at h; exact absurd (show false=true from h) Bool.noConfusion
 | false=>have:=of_decide_eq_false q; omega
open Classical in
theorem walk_of{q:Program}{loose:List Str}{α:Type}{Yf:Shared->α}{Ya:World->α}{d:DefRec}{kwd:List (Str × Expr)}(hn:d.name = "law")(hY:∀w s,Yf s=Ya w->(K w).In s.heap) :
  WalkX q loose (fun q0 q0=>True) Yf Ya lw.row.toRowW d kwd fun f vs=>PySem.call f vs:=by
 intro w s₀ s₁ mg mb G hYY fa o pm cd doc dV kV ho hd hcd hDf hmg hg args vals as hL hpre hlay hrd hwl hlo
 have X0:(K w).In s₁.heap:=(hY w s₀ hYY).keeps hL.keeps
 have hfa:mg d.name=some (.ref 2017):=by
  rw [hn]; exact mg_of X0 G.T.g (by kernel_rfl)
 rw [hmg] at hfa
 cases hfa
 obtain ⟨hsh,hcond⟩:=pre_splitW hpre
 obtain ⟨d0,r,rfl,h1,h2⟩:=hasAllW_cons hsh
 obtain rfl:=hasAllW_nil h2
 obtain ⟨xs,rfl,h3⟩:=hasW_list h1
 have hfew:=few hcond
 cases hrd with
 | cons r1 r2=>
 cases r2
 cases r1 with
 | @list sa so es n _ as0 g1 g2 g3 g4=>
 let P:ak:=⟨[(sa,so)],lw.prog,w,q,looseW q loose,ExcName.means s₀.heap,mg,mb,s₁.os⟩
 have XP:(fx P).K.In s₁.heap:=fun a z e=>by
  have e:((K w++[(sa,so)]:Frag)).lookup a=some z:=e
  rw [gZ] at e
  cases q1:(K w).lookup a with
  | some z'=>rw [q1] at e; cases e; exact X0 _ _ q1
  | none=>
   rw [q1] at e
   have e:List.lookup a [(sa,so)]=some z:=e
   rw [List.lookup_cons] at e
   by_cases q2:a=sa
   ·subst q2
    rw [beq_self_eq_true] at e
    cases e; exact g1
   ·have:(a == sa)=false:=by rw [beq_eq_false_iff_ne]; exact q2
    rw [this] at e
    cases e
 have hS:jv (fx P) (.ref sa):=by
  refine ⟨sa,so,es,n,rfl,?_,g2,g3,?_,fun j u hj=>?_⟩
  ·show ((K w++[(sa,so)]:Frag)).lookup sa=some so
   rw [gZ]
   cases q1:(K w).lookup sa with
   | some z'=>
    have:=X0 _ _ q1
    rw [g1] at this
    exact this.symm
   | none=>
    show List.lookup sa [(sa,so)]=_
    rw [List.lookup_cons,beq_self_eq_true]
  ·rw [<- Array.length_toList,N8 _ g4]; exact hfew
  ·exact GE _ g4 h3 u (by rw [<- Array.getElem?_toList] at hj; exact List.mem_of_getElem? hj)
 have hc:∀v,decide (v=.ref sa)=true->jv (fx P) v:=fun v e=>by rw [of_decide_eq_true e]; exact hS
 have ok:=Sz P
 have hl:=XP _ _ ok.look
 refine enter_call ?_
 refine codeAny_call_def (fd:=fnOf D0.name D0.qual (fO D0.as D0.df) B0 D0.scope D0.dV D0.kV D0.doc D0.pm D0.an D0.cdv D0.ct) (body:=B0) (binds:=[(Str.ofString "script",.ref sa)]) (by decide) hl rfl G.T.nolimit (codeRec_of XP ok.code) rfl ?_ (FX ok.names rfl) ?_ (fun h₁ hns hk₁=>?_) ok.co ok.gen ok.kind
 ·exact xb (s:=s₁) (ds:=[]) (A:=[Str.ofString "script"]) (B:=[]) (C:=[]) (dB:=[]) (dC:=[]) rfl (fun M Ar E Q hq=>wpAny_pure (hq none rfl)) rfl (by simp) rfl rfl rfl
 ·intro y hy
  rw [List.mem_singleton.mp hy]
  exact ok.names.lookup hT ok.nod (j:=0) (kd:=.loc) rfl nP
 refine CA hc (v0:=.ref sa) (decide_eq_true rfl) (A:=callerA.deeper _) (J:=⟨[],[],fun q0=>[],(0,0)⟩) ⟨⟨⟨callerA,s₁.heap,[],_,below_caller _,Around.frames_deeper rfl,rfl,ok.kind⟩,XP,G.T,(by show 1+claimMargin+1+35<recursionLimit; decide),rfl,(by show 4+3+4 * 35+40<cLine; decide)⟩,callerA,s₁.heap,[],_,below_caller _,Around.frames_deeper rfl,rfl,ok.kind,G.T,fun b hb=>by cases hb⟩ ⟨rfl,rfl,ok.kind,rfl⟩
  ⟨⟨List.nodup_nil,[],fun k o hk=>by simp at hk,rfl,News.nil⟩,rfl,⟨hns,hk₁,Nat.le_refl _⟩,⟨hg,rfl⟩,⟨fun k b hk=>by simp [Rn.bnd] at hk,rfl,fun i j b hm=>by simp [Rn.eqs] at hm⟩⟩ ?_ fun g J' H nx R m s T S=>?_
 ·intro j i kd hj
  obtain ⟨nb,t,ht⟩:=ok.names.get hj
  have kn:D0.scope.names.lookup t=some kd.kind:=ok.names.lookup hT ok.nod hj ht
  refine ⟨t,ht,?_,?_⟩
  ·rw [beq_eq_false_iff_ne]; intro q; exact hD (P:=P) (q▸List.mem_of_getElem? ht)
  have hall:=List.all_eq_true.mp (show (gA.all fun p=>match p.2 with | .loc=>true | .glo=>true | _=>false)=true from rfl) _ (List.mem_of_getElem? hj)
  cases j with
  | zero=>
   cases hj
   rw [nP] at ht
   cases ht
   exact ⟨rfl,kn,fun q0=>⟨_,rfl,.old _⟩⟩
  | succ j=>
   have z:aZ (GV.old (.ref sa)::r0.tl) (j+1)=.nul:=gN (l:=r0.tl) rfl j
   cases kd with
   | loc=>rw [z]; exact ⟨rfl,kn,fun n=>absurd rfl n⟩
   | glo=>exact kn
   | cel=>cases hall
   | blk=>cases hall
 ·exact ⟨.inl ⟨.bool true,.bool true,[],rfl,fun q0=>rfl,.bool true,Oi xs,fun q0=>⟨List.nodup_nil,fun a ha=>by cases ha⟩⟩,.of_keep fun b o e=>S.fr.keep b o (T.other b o e (show b∉([]:List Addr) from List.not_mem_nil)),S.gens.2,.of_eq S.gens.1⟩
end
end Internal.L
end
theorem Internal.nameIs : Internal.lawDef.1.name = "law" := by kernel_rfl
theorem PySem.Challenge.cw_xw0059_02_holds : PySem.Challenge.rw_xw0059_02.Holds :=
  Internal.head (Internal.L.walk_of Internal.nameIs fun _ _ h => Frag.in_of (as := Internal.L.KA) rfl h)
