import PyProof.Rows.All
import Open.Pieces
import OpenK.ZHead
import OpenK.XOpen
import Open.Line
import KE.BytesMake
import KE.KAssignIn
import KE.KBoundM
import KE.KCat
import KE.KDictList
import KE.KDictSum
import KE.KEqDict
import KE.KExtendNil
import KE.KItem
import KE.KPop
import KE.KPopAny
import KE.KRevSl
import KE.KSortKey
import KE.KTup
import KE.KUnpack
import KE.KTryDeep
import KE.KDictAnyGet
import KE.KTryMore
import OpenK.KCall
import OpenK.KDescr
import OpenK.KGet
import OpenK.KLine
import OpenK.KList
import OpenK.KMake
import OpenK.KWalk
import OpenK.Peek
import OpenK.TopRead
import PyProof.AutoIntOps
import PyProof.AutoSeq1
import PyProof.Boot
import PyProof.BuiltinFast
import PyProof.CallStr
import PyProof.CallType
import PyProof.Calls
import PyProof.Calm
import PyProof.Cells
import PyProof.Claim2
import PyProof.CodeObj
import PyProof.Comp
import PyProof.CompFree
import PyProof.CompMap
import PyProof.CompUse
import PyProof.DefCall
import PyProof.Dict
import PyProof.DictDisplay
import PyProof.DictIter
import PyProof.DictKind
import PyProof.DictKinds
import PyProof.DictList
import PyProof.DictRoads
import PyProof.DictStraight
import PyProof.DictTable
import PyProof.DictUpdate
import PyProof.EqAt
import PyProof.EqKinds
import PyProof.EvalArms
import PyProof.FactsAll.list_3
import PyProof.FactsAll.range_iterator_1
import PyProof.FactsAll.tuple_iterator_1
import PyProof.FactsCmp
import PyProof.FactsDict
import PyProof.FactsIdx
import PyProof.FactsSeq
import PyProof.Fits
import PyProof.ForAny
import PyProof.Heap
import PyProof.IsRules
import PyProof.IsiPairs
import PyProof.Laws
import PyProof.ListCopy
import PyProof.ListIndex
import PyProof.ListIndexNeg
import PyProof.ListOps
import PyProof.Logic
import PyProof.Meets
import PyProof.Methods
import PyProof.NeKinds
import PyProof.Ops
import PyProof.PureInt
import PyProof.RaisesMany
import PyProof.RangeFor
import PyProof.RangeIter
import PyProof.Rows.AttrNodeAny
import PyProof.Rows.CellsFrame
import PyProof.Rows.CellsNews
import PyProof.Rows.Chain
import PyProof.Rows.DictMade
import PyProof.Rows.Exc
import PyProof.Rows.FactsTup
import PyProof.Rows.Frame
import PyProof.Rows.GenFrame
import PyProof.Rows.IntRules
import PyProof.Rows.ListCopyD
import PyProof.Rows.Many
import PyProof.Rows.News
import PyProof.Rows.NewsSeq
import PyProof.Rows.NewsSet
import PyProof.Rows.Nodes
import PyProof.Rows.Own
import PyProof.Rows.RuleIs
import PyProof.Rows.StrRules
import PyProof.Rows.StrTemp
import PyProof.Rows.Top
import PyProof.Rows.Tup
import PyProof.Rows.TupAdd
import PyProof.Rows.TupAssign
import PyProof.Rows.TupIn
import PyProof.Rows.TupIter
import PyProof.Rows.TupMore
import PyProof.Rows.TupReads
import PyProof.Rows.TupSub
import PyProof.Rules
import PyProof.Rules2
import PyProof.RulesAssignMore
import PyProof.Runs
import PyProof.Seq
import PyProof.SliceList
import PyProof.SliceMore
import PyProof.SliceSyntax
import PyProof.Slots
import PyProof.Start
import PyProof.TupleCall
import PyProof.TupleIter
import PyProof.TupleOfSeq
import PyProof.WalksMore
import Wide.BytesFacts
import Wide.BytesRules
import PySem.Challenge.RW_xw0059_02
open PySem PySem.W PyProof.Rows PySem.Calls
set_option Elab.async false
set_option linter.all false
set_option maxRecDepth 100000
set_option compiler.extract_closed false
set_option bootstrap.genMatcherCode false
set_option genSizeOf false
set_option tactic.hygienic false
set_option genInjectivity false
namespace Internal.N
noncomputable abbrev fH(as:List Arg)(df:List Expr):Arguments:=⟨[],as,none,[],[],none,df⟩
structure aV where
 name:Str
 qual:Str
 as:List Arg
 df:List Expr
 scope:Scope
 dV:Value
 kV:Value
 doc:Value
 pm:Value
 an:Option Addr
 cdv:Value
 ct:Value
 oc:Value
 od:Option Addr
 osl:Array (Option Value)
end Internal.N
namespace Internal
noncomputable section
abbrev Cp:=PySem.W.Fast.tw11892475500146522536
abbrev Pt:=PySem.W.Fast.tw6613529449190102663
abbrev Di:=PySem.W.Fast.tw14364793385576792824
theorem wo:@treeTable=Di:=PySem.W.Fast.te14364793385576792824
theorem w9:@denote=Cp:=PySem.W.Fast.te11892475500146522536
theorem Bb:@stepOk=Pt:=PySem.W.Fast.te6613529449190102663
structure rH where
 p:Program
 w:World
 n₀:Nat
 ann:Option Value
 os:OsState
 life:Life
abbrev xh:=BT->Nat->Array GenState->Drawn->Nat->Sem Fin->Code->Pos->List Frame->Option SharedT
noncomputable def xN(code c:Code)(stack:List Frame):List Frame:=match code,c,stack with
 | .builtin ..,.call f a,.ret k h g l cd p kept::rest=>.ret k h g l cd p (kept++unmarked (f::a.refs))::rest
 | .call f _,.call ..,.ret k h g l cd p kept::rest=>.ret k h g l cd p (kept++.ellipsis::unmarked [f])::rest
 | .call f a,.builtin ..,.ret k h g l cd p kept::rest=>
  .ret k h g l cd p (if l.contains borrowed then kept.takeWhile (·!= .ellipsis)++unmarked a.refs else unmarked (kept++f::a.refs))::rest
 | .call ..,_,.ret k h g l cd p kept::rest=>.ret k h g l cd p (kept.takeWhile (·!= .ellipsis))::rest
 | _,_,_=>stack
noncomputable def LM(code c:Code)(l:List Value):List Value:=match c,code with
 | .builtin _ a,_=>unmarked a.refs
 | .call f a,.builtin .. | .call f a,.call ..=>unmarked (if l.contains borrowed then a.refs else f::a.refs)
 | _,_=>[]
abbrev KR:=BT->Option SharedT
def xA(o:Obj)(t:BT):Nat->KR->Option SharedT:=
 @BT.rec (fun q0=>Nat->KR->Option SharedT) (fun q0 k=>k (.node o .nil .nil))
  (fun v l r ihl ihr i k=>@Bool.rec (fun q0=>Option SharedT) (@Bool.rec (fun q0=>Option SharedT) (ihr (Nat.sub (Nat.div i 2) 1) fun r'=>k (.node v l r')) (ihl (Nat.div i 2) fun l'=>k (.node v l' r)) (Nat.beq (Nat.mod i 2) 1)) (k (.node o l r)) (Nat.beq i 0)) t
def xz(f:Obj->Obj)(t:BT):Nat->KR->Option SharedT:=
 @BT.rec (fun q0=>Nat->KR->Option SharedT) (fun q0 k=>k .nil)
  (fun v l r ihl ihr i k=>@Bool.rec (fun q0=>Option SharedT) (@Bool.rec (fun q0=>Option SharedT) (ihr (Nat.sub (Nat.div i 2) 1) fun r'=>k (.node v l r')) (ihl (Nat.div i 2) fun l'=>k (.node v l' r)) (Nat.beq (Nat.mod i 2) 1)) (k (.node (f v) l r)) (Nat.beq i 0)) t
theorem rL(o:Obj):∀(t:BT) (i:Nat) (k:KR),xA o t i k=k (t.ins i o)
 | .nil,_,_=>rfl
 | .node v l r,i,k=>by
  show @Bool.rec (fun q0=>Option SharedT) (@Bool.rec (fun q0=>Option SharedT) (xA o r (Nat.sub (Nat.div i 2) 1) fun r'=>k (.node v l r')) (xA o l (Nat.div i 2) fun l'=>k (.node v l' r)) (Nat.beq (Nat.mod i 2) 1)) (k (.node o l r)) (Nat.beq i 0)=k (match Nat.beq i 0 with
   | true=>.node o l r
   | false=>match Nat.beq (i % 2) 1 with
    | true=>.node v (l.ins (i / 2) o) r
    | false=>.node v l (r.ins (i / 2 - 1) o))
  cases Nat.beq i 0 with
  | true=>rfl
  | false=>
   show @Bool.rec (fun q0=>Option SharedT) _ _ (Nat.beq (i % 2) 1)=_
   cases Nat.beq (i % 2) 1 with
   | true=>exact rL o l _ _
   | false=>exact rL o r _ _
theorem ri(f:Obj->Obj):∀(t:BT) (i:Nat) (k:KR),xz f t i k=k (t.set i f)
 | .nil,_,_=>rfl
 | .node v l r,i,k=>by
  show @Bool.rec (fun q0=>Option SharedT) (@Bool.rec (fun q0=>Option SharedT) (xz f r (Nat.sub (Nat.div i 2) 1) fun r'=>k (.node v l r')) (xz f l (Nat.div i 2) fun l'=>k (.node v l' r)) (Nat.beq (Nat.mod i 2) 1)) (k (.node (f v) l r)) (Nat.beq i 0)=k (match Nat.beq i 0 with
   | true=>.node (f v) l r
   | false=>match Nat.beq (i % 2) 1 with
    | true=>.node v (l.set (i / 2) f) r
    | false=>.node v l (r.set (i / 2 - 1) f))
  cases Nat.beq i 0 with
  | true=>rfl
  | false=>
   show @Bool.rec (fun q0=>Option SharedT) _ _ (Nat.beq (i % 2) 1)=_
   cases Nat.beq (i % 2) 1 with
   | true=>exact ri f l _ _
   | false=>exact ri f r _ _
def jf(t:BT):Nat->Option Obj:=
 @BT.rec (fun q0=>Nat->Option Obj) (fun q0=>none)
  (fun v q0 q0 ihl ihr i=>@Bool.rec (fun q0=>Option Obj) (@Bool.rec (fun q0=>Option Obj) (ihr (Nat.sub (Nat.div i 2) 1)) (ihl (Nat.div i 2)) (Nat.beq (Nat.mod i 2) 1)) (some v) (Nat.beq i 0)) t
theorem iI:∀(t:BT) (i:Nat),jf t i=t.get i
 | .nil,_=>rfl
 | .node v l r,i=>by
  show @Bool.rec (fun q0=>Option Obj) (@Bool.rec (fun q0=>Option Obj) (jf r (Nat.sub (Nat.div i 2) 1)) (jf l (Nat.div i 2)) (Nat.beq (Nat.mod i 2) 1)) (some v) (Nat.beq i 0)=(match Nat.beq i 0 with
   | true=>some v
   | false=>match Nat.beq (i % 2) 1 with
    | true=>l.get (i / 2)
    | false=>r.get (i / 2 - 1))
  cases Nat.beq i 0 with
  | true=>rfl
  | false=>
   show @Bool.rec (fun q0=>Option Obj) _ _ (Nat.beq (i % 2) 1)=_
   cases Nat.beq (i % 2) 1 with
   | true=>exact iI l _
   | false=>exact iI r _
abbrev bR{β:Type}(b:Bool)(x:Option β):Option β:=@Bool.rec (fun q0=>Option β) none x b
abbrev oR{α β:Type}(o:Option α)(f:α->Option β):Option β:=@Option.rec α (fun q0=>Option β) none f o
def Aa(c₀:rH)(ih:xh):xh:=fun T n gens drawn toks cur code pos stack=>match cur with
 | .pure f=>(match f with
  | .done fl=>(match stack with
   | []=>some ⟨T,n,c₀.life,gens,drawn,toks,c₀.os⟩
   | .ret k _ _ _ c p _::rest=>ih T n gens drawn toks (k (.ok fl)) c p rest
   | .gen ..::_=>none)
  | .again c=>bR (Pt c₀.n₀ c₀.ann ⟨.pure (.again c),code,pos,stack⟩) (ih T n gens drawn toks (Cp Di c) c pos (xN code c stack)))
 | .raise e=>(match stack with
   | .ret k _ _ _ c p _::rest=>ih T n gens drawn toks (k (.error e)) c p rest
   | _=>none)
 | .rule _ k=>ih T n gens drawn toks (k ()) code pos stack
 | .at p k=>ih T n gens drawn toks (k ()) code p stack
 | .point _ k=>ih T n gens drawn toks (k ()) code pos stack
 | .load a _ k=>bR (Nat.blt a n) (oR (jf T a) fun o=>oR (alive o) fun o'=>ih T n gens drawn toks (k o') code pos stack)
 | .update a q f k=>bR (Pt c₀.n₀ c₀.ann ⟨.update a q f k,code,pos,stack⟩) (bR (Nat.blt a n) (oR (jf T a) fun o=>oR (alive o) fun q0=>xz f T a fun T'=>ih T' n gens drawn toks (k ()) code pos stack))
 | .alloc o k=>xA o T n fun T'=>bR (jf T' n).isSome (ih T' (Nat.succ n) gens drawn toks (k n) code pos stack)
 | .loadIfAlive a k=>@Bool.rec (fun q0=>Option SharedT) (ih T n gens drawn toks (k none) code pos stack) (oR (jf T a) fun o=>ih T n gens drawn toks (k (alive o)) code pos stack) (Nat.blt a n)
 | .fresh k=>ih T n gens drawn (toks+1) (k toks) code pos stack
 | .ask k=>ih T n gens drawn toks (k ⟨c₀.p,c₀.w.params⟩) code pos stack
 | .call c h g l k=>ih T n gens drawn toks (Cp Di c) c pos (.ret k h g l code pos (LM code c l)::stack)
 | .handled own k=>ih T n gens drawn toks (k (topHandled (if own then (match splitAtGen stack with | some (fs,_,_)=>fs | none=>stack) else stack))) code pos stack
 | .stack k=>ih T n gens drawn toks (k ((code,pos)::stack.map Frame.where_)) code pos stack
 | _=>none
def WY(c₀:rH)(fuel:Nat):xh:=@Nat.rec (fun q0=>xh) (fun q0 q0 q0 q0 q0 q0 q0 q0 q0=>none) (fun q0 ih=>Aa c₀ ih) fuel
theorem bY{tb:String->Option Builtin}{p:Program}{w:World}{n₀:Nat}{ann:Option Value}{n:Nat}{s s' r:Shared}{t t':Thread}(ht:through t=false)(hk:stepOk n₀ ann t=true)
  (hs:step (denote tb) p w s t=.go s' t') (h:topRun tb p w n₀ ann n s' t'=some r):topRun tb p w n₀ ann (n+1) s t=some r:=by
 unfold topRun
 simp only [ht,hk,hs,h]
theorem bE{β:Type}{b:Bool}{x:Option β}{s:β}(h:@Bool.rec (fun q0=>Option β) none x b=some s):b=true/\x=some s:=by
 cases b with
 | false=>cases h
 | true=>exact ⟨rfl,h⟩
theorem oE{α β:Type}{o:Option α}{f:α->Option β}{s:β}(h:@Option.rec α (fun q0=>Option β) none f o=some s):∃a,o=some a/\f a=some s:=by
 cases o with
 | none=>cases h
 | some a=>exact ⟨a,rfl,h⟩
abbrev xQ(c₀:rH)(fuel:Nat)(g:xh):Prop:=∀(T:BT) (n:Nat) (gens:Array GenState) (drawn:Drawn) (toks:Nat) (cur:Sem Fin) (code:Code) (pos:Pos) (stack:List Frame) (S':SharedT),
  g T n gens drawn toks cur code pos stack=some S'->
  topRun treeTable c₀.p c₀.w c₀.n₀ c₀.ann fuel ⟨absHeap T n c₀.life,gens,drawn,toks,c₀.os⟩ ⟨cur,code,pos,stack⟩=some S'.abs
theorem C8{c₀:rH}{fuel:Nat}{g:xh}(ih:xQ c₀ fuel g):xQ c₀ (fuel+1) (Aa c₀ g):=by
 intro T n gens drawn toks cur code pos stack S' h
 cases cur with
 | pure f=>
  cases f with
  | done fl=>
   cases stack with
   | nil=>cases h; rfl
   | cons fr rest=>
    cases fr with
    | ret k hd g l c p kept=>exact bY rfl rfl rfl (ih _ _ _ _ _ _ _ _ _ _ h)
    | gen=>cases h
  | again c=>
   obtain ⟨ok,h⟩:=bE h
   rw [<- w9,<- wo] at h
   exact bY (Bool.and_false _) (Bb▸ok) rfl (ih _ _ _ _ _ _ _ _ _ _ h)
 | raise e=>
  cases stack with
  | nil=>cases h
  | cons fr rest=>
   cases fr with
   | ret k hd g l c p kept=>exact bY rfl rfl rfl (ih _ _ _ _ _ _ _ _ _ _ h)
   | gen=>cases h
 | rule t k=>exact bY (Bool.and_false _) rfl rfl (ih _ _ _ _ _ _ _ _ _ _ h)
 | «at» p k=>exact bY (Bool.and_false _) rfl rfl (ih _ _ _ _ _ _ _ _ _ _ h)
 | point l k=>exact bY (Bool.and_false _) rfl rfl (ih _ _ _ _ _ _ _ _ _ _ h)
 | fresh k=>exact bY (Bool.and_false _) rfl rfl (ih _ _ _ _ _ _ _ _ _ _ h)
 | ask k=>exact bY (Bool.and_false _) rfl rfl (ih _ _ _ _ _ _ _ _ _ _ h)
 | handled own k=>exact bY (Bool.and_false _) rfl rfl (ih _ _ _ _ _ _ _ _ _ _ h)
 | stack k=>exact bY (Bool.and_false _) rfl rfl (ih _ _ _ _ _ _ _ _ _ _ h)
 | call c hd g l k=>
  have h:=ih _ _ _ _ _ _ _ _ _ _ h
  rw [<- w9,<- wo] at h
  exact bY (Bool.and_false _) rfl rfl h
 | load a q k=>
  obtain ⟨lt,h⟩:=bE h
  obtain ⟨o,g,h⟩:=oE h
  obtain ⟨o',al,h⟩:=oE h
  rw [iI] at g
  refine bY (s':=⟨absHeap T n c₀.life,gens,drawn,toks,c₀.os⟩) (t':=⟨k o',code,pos,stack⟩) (Bool.and_false _) rfl ?_ (ih _ _ _ _ _ _ _ _ _ _ h)
  simp only [step,abs_get (Nat.le_of_ble_eq_true lt) g,al]
 | update a q f k=>
  obtain ⟨ok,h⟩:=bE h
  obtain ⟨lt,h⟩:=bE h
  obtain ⟨o,g,h⟩:=oE h
  obtain ⟨o',al,h⟩:=oE h
  rw [iI] at g
  have h:=(ri _ _ _ _).symm.trans h
  refine bY (s':=⟨absHeap (T.set a f) n c₀.life,gens,drawn,toks,c₀.os⟩) (t':=⟨k (),code,pos,stack⟩) (Bool.and_false _) (Bb▸ok) ?_ (ih _ _ _ _ _ _ _ _ _ _ h)
  rw [absHeap_set g]
  simp only [step,abs_get (Nat.le_of_ble_eq_true lt) g,al,Option.isSome_some,if_true]
 | alloc o k=>
  obtain ⟨e,h⟩:=bE ((rL _ _ _ _).symm.trans h)
  rw [iI] at e
  refine bY (s':=⟨absHeap (T.ins n o) (n+1) c₀.life,gens,drawn,toks,c₀.os⟩) (t':=⟨k n,code,pos,stack⟩) (Bool.and_false _) rfl ?_ (ih _ _ _ _ _ _ _ _ _ _ h)
  rw [absHeap_ins e]
  simp only [step,absHeap_size]
 | loadIfAlive a k=>
  cases lt:Nat.blt a n with
  | true=>
   have h:@Bool.rec (fun q0=>Option SharedT) _ _ (Nat.blt a n)=some S':=h
   rw [lt] at h
   obtain ⟨o,g,h⟩:=oE h
   rw [iI] at g
   refine bY (s':=⟨absHeap T n c₀.life,gens,drawn,toks,c₀.os⟩) (t':=⟨k (alive o),code,pos,stack⟩) (Bool.and_false _) rfl ?_ (ih _ _ _ _ _ _ _ _ _ _ h)
   simp only [step,abs_get (Nat.le_of_ble_eq_true lt) g]
  | false=>
   have h:@Bool.rec (fun q0=>Option SharedT) _ _ (Nat.blt a n)=some S':=h
   rw [lt] at h
   refine bY (s':=⟨absHeap T n c₀.life,gens,drawn,toks,c₀.os⟩) (t':=⟨k none,code,pos,stack⟩) (Bool.and_false _) rfl ?_ (ih _ _ _ _ _ _ _ _ _ _ h)
   have:¬ a<n:=fun q=>by rw [show Nat.blt a n=true from Nat.ble_eq_true_of_le q] at lt; cases lt
   simp only [step,abs_get_none this]
 | _=>cases h
theorem Cm{c₀:rH}(fuel:Nat):xQ c₀ fuel (WY c₀ fuel):=by
 induction fuel with
 | zero=>intro _ _ _ _ _ _ _ _ _ _ h; cases h
 | succ fuel ih=>exact C8 ih
def u7(P:Params):BT:=(boot_heap P).objs.toList.zipIdx.foldl (fun t (o,i)=>t.ins i o) .nil
def rF(P:Params):Option Value:=(boot_heap P).nsMap mainGlobals "__annotations__"
def PZ(p:Program)(w:World)(os:OsState):rH:=⟨p,w,(boot_heap w.params).objs.size,rF w.params,os,(boot_heap w.params).life⟩
def iP(fuel:Nat)(p:Program)(w:World)(os:OsState):Option SharedT:=
 WY (PZ p w os) fuel (u7 w.params) (boot_heap w.params).objs.size #[] boot_drawn boot_toks (topStub p).cur (topStub p).code (topStub p).pos (topStub p).stack
theorem DB(P:Params):absHeap (u7 P) (boot_heap P).objs.size (boot_heap P).life=boot_heap P:=by kernel_rfl
end
end Internal
namespace Internal
noncomputable section
abbrev yI:=PySem.W.Fast.tw4187177175401517315
theorem vJ:@openSeen=yI:=PySem.W.Fast.te4187177175401517315
def jK(p:Program)(w:World)(S:SharedT):Bool:=
 staticsOk (importedModules p.main.body) (boot_heap w.params) S.abs.heap&&namesBound p S.abs.heap&&gensDone S.abs&&laidKept (boot_heap w.params) S.abs.heap
theorem xV{p q:Program}{loose:List Str}{Xt:Shared->Bool}{α:Type}{Yf:Shared->α}{Ya:World->α}{N:Nat}(M:Nat)
  (e:opening p=plainProg p.main.scope.names) (hN:Nat.ble 600 N=true) (f:∀s,fenceModules? p s=some s) (le:Nat.ble M N=true)
  (z:∀w:World,(boot_heap w.params).isNs mainGlobals=true)
  (h:∀(w:World),(fun os=>(iP M p w os).map fun S=>(jK p w S,yI q loose (importedModules p.main.body) Xt true S.abs,Yf S.abs))=fun q0=>some (true,openGood q loose,Ya w)) :
  LeftO p q loose Xt Yf Ya N:=fun w=>by
 obtain ⟨⟨hp,gs,d,k,os⟩,e1,e'⟩:=Option.map_eq_some_iff.mp (boot_open e hN f w)
 obtain ⟨rfl,rfl,rfl,rfl⟩:hp=boot_heap w.params/\gs = #[]/\d=boot_drawn/\k=boot_toks:=by simpa using e'
 obtain ⟨S,hS,hl⟩:=Option.map_eq_some_iff.mp (congrFun (h w) os)
 rw [<- vJ] at hl
 obtain ⟨l1,l2,l3⟩:_/\_/\_:=by simpa only [Prod.mk.injEq] using hl
 have r:=Cm _ _ _ _ _ _ _ _ _ _ _ hS
 have r2:topRun treeTable p w (boot_heap w.params).objs.size (rF w.params) M ⟨boot_heap w.params,#[],boot_drawn,boot_toks,os⟩ (topStub p)=some S.abs:=by
  have:=r
  simp only [PZ] at this
  rw [DB] at this
  exact this
 have r3:=topRun_mono (N - M) _ _ _ _ r2
 rw [show M+(N - M)=N by have:=Nat.le_of_ble_eq_true le; omega] at r3
 have t:topFrom treeTable p w N ⟨boot_heap w.params,#[],boot_drawn,boot_toks,os⟩=some S.abs:=by
  unfold topFrom
  dsimp only
  rw [z w]
  show (match true with | true=>_ | false=>none)=_
  dsimp only
  show ((topRun treeTable p w (boot_heap w.params).objs.size (rF w.params) N ⟨boot_heap w.params,#[],boot_drawn,boot_toks,os⟩ (topStub p)).bind _)=_
  rw [r3]
  show (match jK p w S with | true=>some S.abs | false=>none)=_
  rw [l1]
 unfold openEnds
 rw [e1]
 show (topFrom treeTable p w N _).map _=_
 rw [t]
 exact congrArg some (Prod.ext l2 l3)
abbrev yc:=PySem.W.Fast.tw5160383126252970620
theorem Ck:@seen=yc:=PySem.W.Fast.te5160383126252970620
abbrev DQ:=PySem.W.Fast.tw14722251495701143533
theorem Ge:@Heap.accountedOkI=DQ:=PySem.W.Fast.te14722251495701143533
abbrev yU:=PySem.W.Fast.tw479339242167458305
theorem Bo:@tabsOk=yU:=PySem.W.Fast.te479339242167458305
abbrev xR:=PySem.W.Fast.tw10994771534591457954
theorem BI:@tablesOk=xR:=PySem.W.Fast.te10994771534591457954
abbrev DD:=PySem.W.Fast.tw16090120013241838585
theorem Fz:@pinSeenD=DD:=PySem.W.Fast.te16090120013241838585
abbrev Mx:=PySem.W.Fast.tw2386780881361962483
theorem NX:@plainSeenE=Mx:=PySem.W.Fast.te2386780881361962483
abbrev Qh:=PySem.W.Fast.tw11698064438423848299
theorem PS:@plainSeenD=Qh:=PySem.W.Fast.te11698064438423848299
abbrev C7:=PySem.W.Fast.tw7317090234206586261
theorem Gc:@wideSeen=C7:=PySem.W.Fast.te7317090234206586261
abbrev DI:=PySem.W.Fast.tw7369524293546568484
theorem GB:@clsSeenW=DI:=PySem.W.Fast.te7369524293546568484
abbrev Zm:=PySem.W.Fast.tw10880121769531294198
theorem acC:@Heap.keysOk=Zm:=PySem.W.Fast.te10880121769531294198
def lb(p q:Program)(loose:List Str)(w:World)(S:Shared):=
 (staticsOk (importedModules p.main.body) (boot_heap w.params) S.heap&&gensDone S&&laidKept (boot_heap w.params) S.heap&&DQ S.heap (importedModules p.main.body)&&S.heap.isNs mainGlobals&&S.heap.isNs builtinsNs&&xR q S.heap&&S.gens.size == 0,
  S.heap.nsKeys mainGlobals,yc ((recsOf q).map (·.name)) (ownsOf q) [] { S with gens:=#[] },S.heap.bltView,
  yU q S,DD q (drecsOf q) S,Mx q (looseW q loose) S,Qh q loose S,C7 q S,DI q loose S)
noncomputable def mo(q:Program)(loose L:List Str):=(true,L,expectedOf q,bltViewBooted,true,pinGoodD (drecsOf q),plainGoodE q (looseW q loose),plainGoodD q loose,wideGood q,clsGoodW q loose)
theorem wb{p q:Program}{loose L:List Str}{w:World}{S:Shared}(e:lb p q loose w S=mo q loose L)
  (k1:(L.all fun k=>startupNames.contains k||p.boundNames.contains k)=true)
  (k2:(L.all fun k=>startupNames.contains k||(looseW q loose).contains k||((recsOf q).map (·.name)).contains k||((litsOf q).map (·.1)).contains k||((clssOf q (looseW q loose)).map (·.name)).contains k)=true) :
  (staticsOk (importedModules p.main.body) (boot_heap w.params) S.heap&&namesBound p S.heap&&gensDone S&&laidKept (boot_heap w.params) S.heap)=true/\
  openSeen q loose (importedModules p.main.body) (fun q0=>true) true S=openGood q loose:=by
 unfold lb mo at e
 rw [<- Ck,<- Ge,<- Bo,<- BI,<- Fz,<- NX,<- PS,<- Gc,<- GB] at e
 simp only [Prod.mk.injEq,Bool.and_eq_true] at e
 obtain ⟨⟨⟨⟨⟨⟨⟨⟨a1,a2⟩,a3⟩,a4⟩,a5⟩,a6⟩,a7⟩,a8⟩,b,c1,c2,c3,c4,c5,c6,c7,c8⟩:=e
 have n1:namesBound p S.heap=true:=by
  unfold namesBound
  rw [a5,b,k1]; rfl
 have n2:S.heap.keysOk (looseW q loose) ((recsOf q).map (·.name)) ((litsOf q).map (·.1)) ((clssOf q (looseW q loose)).map (·.name))=true:=by
  unfold Heap.keysOk
  rw [b]; exact k2
 refine ⟨by rw [a1,n1,a2,a3]; rfl,?_⟩
 unfold openSeen openGood
 rw [c1,c2,n2,a4,a5,a6,a7,c3,c4,c5,c6,c7,c8]
 simp only [if_true,a8,Bool.and_self]
theorem wf{p q:Program}{loose:List Str}{α:Type}{Yf:Shared->α}{Ya:World->α}{N:Nat}(M:Nat)(L:List Str)
  (e:opening p=plainProg p.main.scope.names) (hN:Nat.ble 600 N=true) (f:∀s,fenceModules? p s=some s) (le:Nat.ble M N=true)
  (z:∀w:World,(boot_heap w.params).isNs mainGlobals=true)
  (k1:(L.all fun k=>startupNames.contains k||p.boundNames.contains k)=true)
  (k2:(L.all fun k=>startupNames.contains k||(looseW q loose).contains k||((recsOf q).map (·.name)).contains k||((litsOf q).map (·.1)).contains k||((clssOf q (looseW q loose)).map (·.name)).contains k)=true)
  (h:∀(w:World),(fun os=>(iP M p w os).map fun S=>(lb p q loose w S.abs,Yf S.abs))=fun q0=>some (mo q loose L,Ya w)) :
  LeftO p q loose (fun q0=>true) Yf Ya N:=
 xV M e hN f le z fun w=>by
  funext os
  have hh:=congrFun (h w) os
  obtain ⟨S,hS,hl⟩:=Option.map_eq_some_iff.mp hh
  obtain ⟨l1,l2⟩:_/\_:=by simpa only [Prod.mk.injEq] using hl
  obtain ⟨g1,g2⟩:=wb l1 k1 k2
  rw [hS]
  show some (jK p w S,yI q loose (importedModules p.main.body) (fun q0=>true) true S.abs,Yf S.abs)=_
  rw [<- vJ,g2,l2]
  show some ((jK p w S),_)=_
  rw [show jK p w S=true from g1]
noncomputable def bnd(st:Stmt):List Str:=match st with
 | .FunctionDef n _ _ _ _ _ _ _ _ _=>[n]
 | .ClassDef n _ _ _ _ _ _ _ _ _ _=>[n]
 | .Assign [.Name n _] _ _=>[n]
 | _=>[]
noncomputable def Bh:List Str:=["__name__","__doc__","__package__","__loader__","__spec__","__annotations__","__builtins__","__file__","__cached__"]
noncomputable def Pa(p:Program):List Str:=Bh++(p.main.body.flatMap bnd).filter (fun x=>x != ("__name__" : Str))
noncomputable def Rp(p:Program)(k:Nat):Program:={ p with main:={ p.main with body:=p.main.body.drop k } }
noncomputable def Fu(p:Program)(n:Str):List Str:=p.boundNames.filter (·!= n)
end
end Internal
namespace Internal.L
open Internal.N
noncomputable section
noncomputable def pp:Program:=PySem.Challenge.pw_xw0059_02
def b0(i:Nat):Stmt:=match pp.main.body[i]? with | some s=>s | none=>.Pass ⟨0,0,0,0⟩
def bA(i j:Nat):Stmt:=match b0 i with | .ClassDef (body:=b) ..=>(match b[j]? with | some s=>s | none=>.Pass ⟨0,0,0,0⟩) | _=>.Pass ⟨0,0,0,0⟩
noncomputable def bh:Stmt->List Stmt | .FunctionDef (body:=b) ..=>b | _=>[]
noncomputable def asS:Stmt->List Arg | .FunctionDef (args:=a) ..=>a.args | _=>[]
noncomputable def dfS:Stmt->List Expr | .FunctionDef (args:=a) ..=>a.defaults | _=>[]
def scS:Stmt->Scope | .FunctionDef (scope:=s) ..=>s | _=>pp.main.scope
noncomputable def T:List Str:= ""::"T"::"e"::"f"::"g"::".0"::"Add"::"add"::"all"::"due"::"got"::"int"::"key"::"len"::"max"::"one"::"own"::"ptr"::"row"::"run"::"who"::"Done"::"Lock"::"Wait"::"bool"::"both"::"call"::"case"::"cell"::"chan"::"deed"::"done"::"face"::"fuel"::"func"::"gate"::"held"::"here"::"kind"::"left"::"lock"::"lost"::"many"::"maps"::"name"::"none"::"path"::"pick"::"recv"::"reel"::"room"::"rows"::"self"::"send"::"sent"::"size"::"some"::"spot"::"sync"::"take"::"task"::"text"::"told"::"turn"::"wait"::"want"::"work"::"zero"::"Error"::"PLAIN"::"World"::"array"::"ascii"::"begin"::"calls"::"cells"::"close"::"count"::"crowd"::"deeds"::"ended"::"error"::"files"::"found"::"funcs"::"gates"::"group"::"inits"::"inner"::"locks"::"named"::"order"::"panic"::"place"::"queue"::"range"::"ready"::"sends"::"state"::"store"::"taken"::"taker"::"takes"::"truth"::"tuple"::"typed"::"value"::"waits"::"world"::"Unlock"::"adding"::"answer"::"behind"::"bodies"::"closed"::"consts"::"counts"::"defers"::"do_now"::"groups"::"holder"::"let_go"::"may_do"::"number"::"prints"::"scopes"::"script"::"sender"::"serves"::"settle"::"sorted"::"starts"::"string"::"struct"::"takers"::"unlock"::"values"::"Choices"::"GoPanic"::"add_now"::"answers"::"base_of"::"channel"::"choices"::"do_send"::"globals"::"gosched"::"message"::"methods"::"new_one"::"outcome"::"package"::"receive"::"routine"::"runtime"::"senders"::"waiting"::"NamedRow"::"PlainRun"::"__init__"::"_law_one"::"_law_run"::"channels"::"function"::"is_whole"::"lock_now"::"make_one"::"may_send"::"may_take"::"measured"::"mentions"::"next_one"::"packages"::"pick_one"::"received"::"routines"::"send_now"::"take_now"::"wait_for"::"wait_now"::"wake_one"::"ChanError"::"Exception"::"NameFault"::"PlainCall"::"TypeFault"::"_law_gate"::"_law_reel"::"_law_sent"::"close_now"::"enumerate"::"goroutine"::"interface"::"is_closed"::"late_keys"::"pass_gate"::"wait_here"::"wake_rows"::"CLOSED_NIL"::"PlainGates"::"PlainStore"::"_law_taken"::"_law_wound"::"do_receive"::"is_through"::"known_rows"::"late_parts"::"late_sizes"::"sync.Mutex"::"underlying"::"unlock_now"::"zero_value"::"CLOSED_SEND"::"_law_closed"::"_law_passed"::"_law_stands"::"is_deferred"::"may_compare"::"sync.#count"::"sync.#state"::"CLOSED_TWICE"::"MachineFault"::"PlainChannel"::"PlainRoutine"::"_law_no_lock"::"_law_pointer"::"channel_type"::"meet_channel"::"PlainChannels"::"PlainRoutines"::"RUNTIME_ERROR"::"all_functions"::"first_waiting"::"received_told"::"runtime.Error"::"runtime_panic"::"underlying_of"::"sync.WaitGroup"::"_law_told_right"::"nil dereference"::"sync.Mutex.Lock"::"_law_gates_right"::"place_of_pointer"::"number_of_channel"::"sync.Mutex.Unlock"::"_law_channel_right"::"sync.WaitGroup.Add"::"runtime.Error.Error"::"sync.WaitGroup.Done"::"sync.WaitGroup.Wait"::"send on closed channel"::"unlock of unlocked mutex"::"negative WaitGroup counter"::[]
noncomputable def en(w:World)(k v:Value):DictEntry:=match k with | .str s _=>⟨PyData.keyHash w.params s,k,v⟩ | _=>⟨0,k,v⟩
noncomputable def cO(a b:Str)(t l i1 i2 i3 i4 r i5:Nat)(x y:Value)(r2 q:Nat):Obj:=⟨(.type "code"),none,(.fields #[(.str a t),(.str b (t+1)),(.str "/claim/cut.py" (t+2)),(.int l 0),(.int i1 0),(.int i2 0),(.int i3 0),(.int i4 0),(.ref r),(.bool true),(.int i5 0),(.ref (r+1)),.none,x,y,(.ref r2),(.int q 0),(.int l 0),(.str "/claim/cut.py" (q+1))]),#[]⟩
noncomputable def mu(a:Str)(r ns t1 t2:Nat):Obj:=⟨(.type "type"),none,(.cls { name:=a,bases:=[(.type "object")],mro:=[(.ref r),(.type "object")],ns:=ns,qualname:=a,hasDict:=true,slotNames:=[],subclasses:=[],abstract:=false,collection:=none,hasDel:=false }),#[none,none,(some (.str a t1)),(some (.str a t2)),(some (.builtin "object.__new__")),(some (.bool true))]⟩
noncomputable def es(w:World)(s:Str)(t:Nat)(v:Value):DictEntry:=en w (.str s t) v
noncomputable def er(w:World)(s:Str)(t r:Nat):DictEntry:=en w (.str s t) (.ref r)
noncomputable def dF(a b:Str)(s:Stmt)(dv:Value)(m:Str)(t r:Nat):aV:=⟨a,b,asS s,dfS s,scS s,dv,.none,.none,(.str m t),none,(.ref r),.none,(.type "function"),none,#[]⟩
def D0:aV:=dF "law" "law" (b0 228) .none "law_xw0059_02" 3224 2016
def B0:List Stmt:=bh (b0 228)
def D1:aV:=dF "_law_reel" "_law_reel" (b0 213) .none "law_xw0059_02" 3224 1917
def B1:List Stmt:=bh (b0 213)
def D2:aV:=dF "_law_wound" "_law_wound" (b0 214) .none "law_xw0059_02" 3224 1924
def B2:List Stmt:=bh (b0 214)
def D3:aV:=dF "_law_one" "_law_one" (b0 215) .none "law_xw0059_02" 3224 1931
def B3:List Stmt:=bh (b0 215)
def D4:aV:=dF "_law_run" "_law_run" (b0 216) .none "law_xw0059_02" 3224 1938
def B4:List Stmt:=bh (b0 216)
def D5:aV:=dF "_law_sent" "_law_sent" (b0 217) .none "law_xw0059_02" 3224 1943
def B5:List Stmt:=bh (b0 217)
def D6:aV:=dF "_law_taken" "_law_taken" (b0 218) .none "law_xw0059_02" 3224 1948
def B6:List Stmt:=bh (b0 218)
def D7:aV:=dF "_law_closed" "_law_closed" (b0 219) .none "law_xw0059_02" 3224 1955
def B7:List Stmt:=bh (b0 219)
def D8:aV:=dF "_law_stands" "_law_stands" (b0 220) .none "law_xw0059_02" 3224 1962
def B8:List Stmt:=bh (b0 220)
def D9:aV:=dF "_law_channel_right" "_law_channel_right" (b0 221) .none "law_xw0059_02" 3224 1967
def B9:List Stmt:=bh (b0 221)
def PW:aV:=dF "_law_pointer" "_law_pointer" (b0 222) .none "law_xw0059_02" 3224 1974
def Ad:List Stmt:=bh (b0 222)
def HR:aV:=dF "_law_gate" "_law_gate" (b0 223) .none "law_xw0059_02" 3224 1981
def zZ:List Stmt:=bh (b0 223)
def KO:aV:=dF "_law_passed" "_law_passed" (b0 224) .none "law_xw0059_02" 3224 1988
def DZ:List Stmt:=bh (b0 224)
def WP:aV:=dF "_law_gates_right" "_law_gates_right" (b0 225) .none "law_xw0059_02" 3224 1995
def mh:List Stmt:=bh (b0 225)
def Ig:aV:=dF "_law_no_lock" "_law_no_lock" (b0 226) .none "law_xw0059_02" 3224 2002
def Fh:List Stmt:=bh (b0 226)
def HD:aV:=dF "_law_told_right" "_law_told_right" (b0 227) .none "law_xw0059_02" 3224 2009
def Ef:List Stmt:=bh (b0 227)
def PE:aV:=dF "known_rows" "known_rows" (b0 210) .none "chancore.world" 3107 1874
def Au:List Stmt:=bh (b0 210)
def Pj:aV:=dF "all_functions" "all_functions" (b0 205) .none "chancore.plain_reader" 2851 1738
def za:List Stmt:=bh (b0 205)
def KW:aV:=dF "pass_gate" "pass_gate" (b0 71) .none "chancore.reader_builtins" 1209 756
def EH:List Stmt:=bh (b0 71)
def M4:aV:=dF "do_send" "do_send" (b0 73) .none "chancore.reader_builtins" 1209 770
def zP:List Stmt:=bh (b0 73)
def PP:aV:=dF "do_receive" "do_receive" (b0 74) .none "chancore.reader_builtins" 1209 777
def z5:List Stmt:=bh (b0 74)
def Io:aV:=dF "meet_channel" "meet_channel" (b0 75) .none "chancore.reader_builtins" 1209 784
def A6:List Stmt:=bh (b0 75)
def LF:aV:=dF "number_of_channel" "number_of_channel" (b0 72) .none "chancore.reader_builtins" 1209 763
def ze:List Stmt:=bh (b0 72)
def MJ:aV:=dF "received_told" "received_told" (b0 78) .none "chancore.reader_builtins" 1209 805
def zU:List Stmt:=bh (b0 78)
def Kf:aV:=dF "zero_value" "zero_value" (b0 46) .none "chancore.types" 1056 625
def zA:List Stmt:=bh (b0 46)
def Ho:aV:=dF "underlying_of" "underlying_of" (b0 44) .none "chancore.types" 1056 615
def Av:List Stmt:=bh (b0 44)
def QL:aV:=dF "place_of_pointer" "place_of_pointer" (b0 37) .none "chancore.plain_store" 732 404
def Er:List Stmt:=bh (b0 37)
def LW:aV:=dF "runtime_panic" "runtime_panic" (b0 9) .none "chancore.errors" 194 123
def AF:List Stmt:=bh (b0 9)
def Qo:aV:=dF "__init__" "NamedRow.__init__" (bA 209 0) .none "chancore.world" 3107 1860
def AD:List Stmt:=bh (bA 209 0)
def Im:aV:=dF "__init__" "World.__init__" (bA 211 0) (.ref 1883) "chancore.world" 3107 1889
def Be:List Stmt:=bh (bA 211 0)
def Ie:aV:=dF "base_of" "World.base_of" (bA 211 1) .none "chancore.world" 3107 1896
def zv:List Stmt:=bh (bA 211 1)
def Qz:aV:=dF "__init__" "PlainRun.__init__" (bA 206 0) .none "chancore.plain_reader" 2851 1752
def AA:List Stmt:=bh (bA 206 0)
def Mj:aV:=dF "wait_here" "PlainRun.wait_here" (bA 206 5) .none "chancore.plain_reader" 2851 1787
def zo:List Stmt:=bh (bA 206 5)
def MP:aV:=dF "next_one" "PlainRun.next_one" (bA 206 6) .none "chancore.plain_reader" 2851 1794
def zE:List Stmt:=bh (bA 206 6)
def HT:aV:=dF "wake_rows" "PlainRun.wake_rows" (bA 206 8) .none "chancore.plain_reader" 2851 1808
def Al:List Stmt:=bh (bA 206 8)
def Qw:aV:=dF "__init__" "PlainStore.__init__" (bA 41 0) .none "chancore.plain_store" 732 472
def AI:List Stmt:=bh (bA 41 0)
def H0:aV:=dF "__init__" "PlainChannels.__init__" (bA 95 0) .none "chancore.plain_channels" 1505 915
def AP:List Stmt:=bh (bA 95 0)
def Nv:aV:=dF "make_one" "PlainChannels.make_one" (bA 95 1) .none "chancore.plain_channels" 1505 922
def AY:List Stmt:=bh (bA 95 1)
def IC:aV:=dF "first_waiting" "PlainChannels.first_waiting" (bA 95 4) .none "chancore.plain_channels" 1505 943
def zN:List Stmt:=bh (bA 95 4)
def Nh:aV:=dF "let_go" "PlainChannels.let_go" (bA 95 5) .none "chancore.plain_channels" 1505 948
def Bk:List Stmt:=bh (bA 95 5)
def NP:aV:=dF "may_send" "PlainChannels.may_send" (bA 95 6) .none "chancore.plain_channels" 1505 955
def zW:List Stmt:=bh (bA 95 6)
def IU:aV:=dF "may_take" "PlainChannels.may_take" (bA 95 7) .none "chancore.plain_channels" 1505 962
def Ap:List Stmt:=bh (bA 95 7)
def MB:aV:=dF "may_do" "PlainChannels.may_do" (bA 95 8) .none "chancore.plain_channels" 1505 969
def zY:List Stmt:=bh (bA 95 8)
def PU:aV:=dF "send_now" "PlainChannels.send_now" (bA 95 9) .none "chancore.plain_channels" 1505 976
def AG:List Stmt:=bh (bA 95 9)
def Rc:aV:=dF "take_now" "PlainChannels.take_now" (bA 95 10) .none "chancore.plain_channels" 1505 983
def zX:List Stmt:=bh (bA 95 10)
def PY:aV:=dF "do_now" "PlainChannels.do_now" (bA 95 11) .none "chancore.plain_channels" 1505 990
def AJ:List Stmt:=bh (bA 95 11)
def MY:aV:=dF "close_now" "PlainChannels.close_now" (bA 95 12) .none "chancore.plain_channels" 1505 997
def AN:List Stmt:=bh (bA 95 12)
def KY:aV:=dF "ended" "PlainChannels.ended" (bA 95 13) .none "chancore.plain_channels" 1505 1004
def Aj:List Stmt:=bh (bA 95 13)
def Rq:aV:=dF "wait_for" "PlainChannels.wait_for" (bA 95 14) .none "chancore.plain_channels" 1505 1011
def A7:List Stmt:=bh (bA 95 14)
def NO:aV:=dF "__init__" "PlainChannel.__init__" (bA 94 0) .none "chancore.plain_channels" 1505 894
def Ai:List Stmt:=bh (bA 94 0)
def Ib:aV:=dF "__init__" "PlainGates.__init__" (bA 97 0) .none "chancore.plain_gates" 1706 1032
def AK:List Stmt:=bh (bA 97 0)
def Lh:aV:=dF "lock_now" "PlainGates.lock_now" (bA 97 1) .none "chancore.plain_gates" 1706 1039
def zr:List Stmt:=bh (bA 97 1)
def Ku:aV:=dF "unlock_now" "PlainGates.unlock_now" (bA 97 2) .none "chancore.plain_gates" 1706 1046
def Ei:List Stmt:=bh (bA 97 2)
def IB:aV:=dF "add_now" "PlainGates.add_now" (bA 97 3) .none "chancore.plain_gates" 1706 1051
def ER:List Stmt:=bh (bA 97 3)
def Lq:aV:=dF "wait_now" "PlainGates.wait_now" (bA 97 4) .none "chancore.plain_gates" 1706 1058
def zJ:List Stmt:=bh (bA 97 4)
def K9:aV:=dF "__init__" "PlainRoutines.__init__" (bA 23 0) .none "chancore.plain_frames" 473 311
def Ao:List Stmt:=bh (bA 23 0)
def IP:aV:=dF "new_one" "PlainRoutines.new_one" (bA 23 1) .none "chancore.plain_frames" 473 318
def zx:List Stmt:=bh (bA 23 1)
def QB:aV:=dF "pick_one" "PlainRoutines.pick_one" (bA 23 2) .none "chancore.plain_frames" 473 323
def Bd:List Stmt:=bh (bA 23 2)
def MR:aV:=dF "wake_one" "PlainRoutines.wake_one" (bA 23 3) .none "chancore.plain_frames" 473 330
def Bj:List Stmt:=bh (bA 23 3)
def LH:aV:=dF "__init__" "PlainRoutine.__init__" (bA 22 0) .none "chancore.plain_frames" 473 290
def Am:List Stmt:=bh (bA 22 0)
def LK:aV:=dF "__init__" "PlainCall.__init__" (bA 21 0) .none "chancore.plain_frames" 473 248
def zG:List Stmt:=bh (bA 21 0)
def Lw:aV:=dF "take" "PlainCall.take" (bA 21 2) .none "chancore.plain_frames" 473 262
def AR:List Stmt:=bh (bA 21 2)
def My:aV:=dF "__init__" "Choices.__init__" (bA 80 0) .none "chancore.choices" 1386 819
def zF:List Stmt:=bh (bA 80 0)
def IG:aV:=dF "pick" "Choices.pick" (bA 80 1) .none "chancore.choices" 1386 826
def Ab:List Stmt:=bh (bA 80 1)
def QS:aV:=dF "__init__" "GoPanic.__init__" (bA 7 0) .none "chancore.errors" 194 110
def Bc:List Stmt:=bh (bA 7 0)
def Ni:aV:=dF "__init__" "ChanError.__init__" (bA 2 0) (.ref 29) "chancore.errors" 194 35
def zj:List Stmt:=bh (bA 2 0)
def SW:aV:=dF "may_compare" "PlainRun.may_compare" (bA 206 1) .none "chancore.plain_reader" 2851 1759
def Sq:List Stmt:=bh (bA 206 1)
noncomputable def bQ(D:aV)(b:List Stmt):Obj:=⟨D.oc,D.od,.func (fnOf D.name D.qual (fH D.as D.df) b D.scope D.dV D.kV D.doc D.pm D.an D.cdv D.ct),D.osl⟩
def O1(w:World):Obj:=⟨(.type "dict"),none,(.dict #[er w "builtins" 162 4,er w "__main__" 163 5] 2),#[]⟩
def O2(w:World):Obj:=⟨.none,none,(.dict #[es w "type.__subclasses__.Exception.0" 224 (.int 39 0),es w "type.__subclasses__.Exception.n" 225 (.int 1 0)] 2),#[]⟩
def O3(w:World):Obj:=⟨(.type "dict"),none,(.dict #[es w "__name__" 165 (.str "law_xw0059_02" 3224),es w "__doc__" 166 .none,es w "__package__" 167 .none,es w "__loader__" 168 (.builtin "__main__.__loader__#opaque"),es w "__spec__" 169 .none,er w "__annotations__" 170 6,er w "__builtins__" 171 4,es w "__file__" 173 (.str "/claim/cut.py" 172),es w "__cached__" 174 .none,er w "_wall" 193 21,er w "ChanError" 227 39,er w "NameFault" 243 52,er w "TypeFault" 259 64,er w "MachineFault" 285 83,er w "FuelFault" 301 95,er w "GoPanic" 326 114,er w "RUNTIME_ERROR" 329 117,er w "runtime_panic" 336 124,er w "Reached" 371 142,er w "without_pointer" 378 153,er w "own_methods" 386 160,er w "members_at" 392 165,er w "embedded_in" 406 172,er w "Levels" 448 196,er w "start_type" 458 207,er w "find_member" 472 214,er w "PlainPanic" 504 231,er w "PlainCall" 566 273,er w "PlainRoutine" 598 294,er w "PlainRoutines" 653 334,er w "LOOSE_TAGS" 659 339,es w "MOST_PARTS" 663 (.int 1048576 662),er w "need_few" 671 346,er w "value_tag" 678 353,er w "values_equal" 693 361,er w "value_key" 706 369,er w "leaf_text" 714 376,er w "value_text" 731 384,es w "MOST_ELEMENTS" 737 (.int 1048576 736),er w "part_along" 746 391,er w "with_part_along" 756 398,er w "place_of_pointer" 763 405,er w "pointer_to" 770 412,er w "inner_place" 778 419,er w "PlainMap" 833 455,er w "PlainStore" 1018 579,er w "MapRound" 1055 605,er w "underlying_of" 1065 616,er w "is_comparable" 1071 621,er w "zero_value" 1077 626,er w "POINTED_NAMES" 1087 627,er w "face_receiver" 1105 634,er w "part_of_receiver" 1120 641,er w "resolved_call" 1131 648,er w "begun_call" 1137 653,er w "begun_builtin" 1147 660,er w "enter_later" 1160 667,er w "run_defers" 1170 674,er w "results_of" 1176 679,er w "behind_deferred" 1186 686,er w "lead_on" 1201 693,er w "recovered_by" 1208 700,es w "MOST_ROOM" 1214 (.int 1048576 1213),er w "NOTHING_TOLD" 1216 702,er w "GATE_NAMES" 1223 703,er w "do_builtin" 1235 710,er w "builtin_value" 1248 717,er w "deed_done" 1254 722,er w "values_listed" 1262 729,er w "chosen_of" 1272 736,er w "size_told" 1282 743,er w "made_thing" 1294 750,er w "pass_gate" 1308 757,er w "number_of_channel" 1315 764,er w "do_send" 1327 771,er w "do_receive" 1338 778,er w "meet_channel" 1353 785,er w "do_sent" 1363 792,er w "do_got" 1376 799,er w "received_told" 1385 806,er w "Choices" 1426 830,er w "names_of_methods" 1442 841,er w "member_or_none" 1451 848,er w "is_in_set" 1457 853,er w "method_set" 1470 860,er w "lack_of" 1481 867,er w "implements" 1493 874,er w "face_fits" 1504 881,es w "CLOSED_SEND" 1508 (.str "send on closed channel" 1507),es w "CLOSED_TWICE" 1510 (.str "close of closed channel" 1509),es w "CLOSED_NIL" 1512 (.str "close of nil channel" 1511),er w "PlainChannel" 1543 898,er w "PlainChannels" 1705 1015,er w "PlainGates" 1770 1062,es w "WRONG_RUNE" 1774 (.int 65533 1773),es w "LAST_RUNE" 1776 (.int 1114111 1775),es w "FIRST_HALF" 1778 (.int 55296 1777),es w "LAST_HALF" 1780 (.int 57343 1779),er w "LONG_HEADS" 1790 1070,er w "is_right_rune" 1797 1077,er w "head_of" 1808 1084,er w "rune_at" 1822 1091,er w "runes_of" 1833 1098,er w "rune_places" 1844 1105,er w "octets_of_rune" 1850 1110,er w "octets_of" 1856 1115,er w "cut_text" 1865 1122,er w "CountedRound" 1918 1153,er w "ToldRound" 1966 1188,er w "round_over" 1976 1199,er w "KIND_BITS" 2009 1200,er w "SHIFTING_OPS" 2012 1201,er w "has_sign" 2019 1208,er w "least_int" 2026 1215,er w "wrapped_int" 2035 1222,er w "cut_quotient" 2044 1229,er w "shifted_int" 2054 1236,er w "exact_result" 2064 1243,er w "int_arithmetic" 2074 1250,er w "int_unary" 2083 1257,er w "is_ordered_so" 2092 1264,er w "is_place_at" 2103 1271,er w "way_of_place" 2114 1278,er w "begin_of_way" 2124 1285,er w "place_on_way" 2140 1292,er w "COMPARING_SIGNS" 2149 1293,er w "OCTET_KIND" 2152 1294,es w "MOST_OCTETS" 2156 (.int 1048576 2155),er w "asked_values" 2162 1299,er w "ask_value" 2174 1306,er w "told_value" 2180 1311,er w "parts_asked" 2186 1316,er w "parts_of_value" 2192 1321,er w "do_load" 2203 1328,er w "do_pointer" 2214 1335,er w "do_second" 2225 1342,er w "do_made" 2237 1349,er w "count_of_parts" 2243 1354,er w "made_of" 2255 1361,er w "part_of_value" 2264 1368,er w "joined_texts" 2272 1375,er w "plain_binary" 2283 1382,er w "plain_converted" 2295 1389,er w "plain_asserted" 2307 1396,er w "plain_looked_up" 2319 1403,er w "plain_cut" 2337 1410,er w "new_thing" 2343 1415,er w "bound_method" 2352 1422,er w "do_call" 2367 1429,er w "statements_told" 2376 1436,er w "do_rows" 2390 1443,er w "do_statement" 2402 1450,er w "plain_tasks" 2410 1457,er w "later_tasks" 2420 1464,er w "long_tasks" 2428 1471,er w "do_drop" 2438 1478,er w "do_either" 2449 1485,er w "do_behind" 2459 1492,er w "parts_of_target" 2467 1499,er w "assign_at" 2478 1506,er w "value_before" 2490 1513,er w "assigning_tasks" 2496 1518,er w "values_told" 2504 1525,er w "do_assign" 2510 1530,er w "do_before" 2521 1537,er w "do_update" 2539 1544,er w "do_let" 2555 1551,er w "do_give" 2568 1558,er w "do_given" 2581 1565,er w "do_return" 2594 1572,er w "read_callee" 2603 1579,er w "do_go" 2619 1586,er w "do_defer" 2632 1593,er w "do_turn" 2643 1600,er w "do_turned" 2653 1607,er w "begin_turn" 2661 1614,er w "do_again" 2673 1621,er w "do_walk" 2685 1628,er w "name_given" 2693 1635,er w "walk_on" 2707 1642,er w "do_item" 2721 1649,er w "do_take" 2734 1656,er w "do_taken" 2749 1663,er w "do_ask" 2764 1670,er w "do_asked" 2778 1677,er w "enter_row" 2789 1684,er w "do_typed" 2806 1691,er w "begin_named" 2817 1698,er w "select_parts" 2827 1705,er w "do_select" 2833 1710,er w "do_selected" 2850 1717,er w "do_point" 2862 1724,er w "do_defers" 2872 1731,er w "TASK_DEEDS" 2951 1732,er w "all_functions" 2957 1739,er w "PlainRun" 3106 1840,er w "PLAIN" 3110 1847,er w "NamedRow" 3145 1864,er w "known_rows" 3158 1875,er w "World" 3223 1907,er w "_law_reel" 3234 1918,er w "_law_wound" 3243 1925,er w "_law_one" 3251 1932,er w "_law_run" 3259 1939,er w "_law_sent" 3265 1944,er w "_law_taken" 3271 1949,er w "_law_closed" 3281 1956,er w "_law_stands" 3293 1963,er w "_law_channel_right" 3299 1968,er w "_law_pointer" 3306 1975,er w "_law_gate" 3316 1982,er w "_law_passed" 3328 1989,er w "_law_gates_right" 3342 1996,er w "_law_no_lock" 3350 2003,er w "_law_told_right" 3360 2010,er w "law" 3377 2017] 216),#[]⟩
def So(w:World):Obj:=mu "NamedRow" 1864 1863 3111 3119
def VQ(w:World):Obj:=⟨(.type "dict"),none,(.dict #[es w "__module__" 3118 (.str "chancore.world" 3107),es w "__firstlineno__" 3122 (.int 1614 3121),er w "__init__" 3133 1861,er w "__static_attributes__" 3138 1862,er w "__dict__" 3140 1865,er w "__weakref__" 3142 1866,es w "__doc__" 3143 .none] 4),#[]⟩
def RX(w:World):Obj:=mu "World" 1907 1906 3159 3167
def Vb(w:World):Obj:=⟨(.type "dict"),none,(.dict #[es w "__module__" 3166 (.str "chancore.world" 3107),es w "__firstlineno__" 3170 (.int 1630 3169),er w "__init__" 3178 1890,er w "base_of" 3187 1897,er w "settled" 3195 1904,er w "__static_attributes__" 3216 1905,er w "__dict__" 3218 1908,er w "__weakref__" 3220 1909,es w "__doc__" 3221 .none] 4),#[]⟩
def UD(w:World):Obj:=mu "PlainRun" 1840 1839 2958 2966
def Sh(w:World):Obj:=⟨(.type "dict"),none,(.dict #[es w "__module__" 2965 (.str "chancore.plain_reader" 2851),es w "__firstlineno__" 2969 (.int 1532 2968),er w "__init__" 2981 1753,er w "may_compare" 2989 1760,er w "run" 2997 1767,er w "step" 3009 1774,er w "caught" 3018 1781,er w "wait_here" 3026 1788,er w "next_one" 3033 1795,er w "routine_is_over" 3041 1802,er w "wake_rows" 3052 1809,er w "answer_of" 3060 1816,er w "walk_of" 3069 1823,er w "is_of_type" 3078 1830,er w "held_as" 3087 1837,er w "__static_attributes__" 3099 1838,er w "__dict__" 3101 1841,er w "__weakref__" 3103 1842,es w "__doc__" 3104 .none] 4),#[]⟩
def aar(w:World):Obj:=mu "PlainStore" 579 578 834 842
def X8(w:World):Obj:=⟨(.type "dict"),none,(.dict #[es w "__module__" 841 (.str "chancore.plain_store" 732),es w "__firstlineno__" 845 (.int 301 844),er w "__init__" 853 473,er w "new_cell" 861 480,er w "new_row" 869 487,er w "load" 880 494,er w "store" 893 501,er w "whole_slice" 901 508,er w "element_place" 910 515,er w "slice_listed" 916 520,er w "put_listed" 928 527,er w "part_of_slice" 944 534,er w "joined_slice" 958 541,er w "new_map" 965 548,er w "map_of" 973 555,er w "looked_up" 985 562,er w "put_key" 995 569,er w "drop_key" 1006 576,er w "__static_attributes__" 1011 577,er w "__dict__" 1013 580,er w "__weakref__" 1015 581,es w "__doc__" 1016 .none] 4),#[]⟩
def SL(w:World):Obj:=mu "PlainChannels" 1015 1014 1544 1552
def Vo(w:World):Obj:=⟨(.type "dict"),none,(.dict #[es w "__module__" 1551 (.str "chancore.plain_channels" 1505),es w "__firstlineno__" 1555 (.int 747 1554),er w "__init__" 1562 916,er w "make_one" 1570 923,er w "size_of" 1578 930,er w "room_of" 1586 937,er w "first_waiting" 1596 944,er w "let_go" 1602 949,er w "may_send" 1611 956,er w "may_take" 1620 963,er w "may_do" 1629 970,er w "send_now" 1640 977,er w "take_now" 1651 984,er w "do_now" 1661 991,er w "close_now" 1670 998,er w "ended" 1682 1005,er w "wait_for" 1695 1012,er w "__static_attributes__" 1698 1013,er w "__dict__" 1700 1016,er w "__weakref__" 1702 1017,es w "__doc__" 1703 .none] 4),#[]⟩
def W7(w:World):Obj:=mu "PlainChannel" 898 897 1513 1521
def aaF(w:World):Obj:=⟨(.type "dict"),none,(.dict #[es w "__module__" 1520 (.str "chancore.plain_channels" 1505),es w "__firstlineno__" 1524 (.int 741 1523),er w "__init__" 1532 895,er w "__static_attributes__" 1536 896,er w "__dict__" 1538 899,er w "__weakref__" 1540 900,es w "__doc__" 1541 .none] 4),#[]⟩
def RJ(w:World):Obj:=mu "PlainGates" 1062 1061 1708 1716
def TB(w:World):Obj:=⟨(.type "dict"),none,(.dict #[es w "__module__" 1715 (.str "chancore.plain_gates" 1706),es w "__firstlineno__" 1719 (.int 833 1718),er w "__init__" 1726 1033,er w "lock_now" 1735 1040,er w "unlock_now" 1744 1047,er w "add_now" 1750 1052,er w "wait_now" 1759 1059,er w "__static_attributes__" 1763 1060,er w "__dict__" 1765 1063,er w "__weakref__" 1767 1064,es w "__doc__" 1768 .none] 4),#[]⟩
def ZI(w:World):Obj:=mu "PlainRoutines" 334 333 599 607
def ab8(w:World):Obj:=⟨(.type "dict"),none,(.dict #[es w "__module__" 606 (.str "chancore.plain_frames" 473),es w "__firstlineno__" 610 (.int 150 609),er w "__init__" 618 312,er w "new_one" 626 319,er w "pick_one" 632 324,er w "wake_one" 642 331,er w "__static_attributes__" 646 332,er w "__dict__" 648 335,er w "__weakref__" 650 336,es w "__doc__" 651 .none] 4),#[]⟩
def Zx(w:World):Obj:=mu "PlainRoutine" 294 293 567 575
def XV(w:World):Obj:=⟨(.type "dict"),none,(.dict #[es w "__module__" 574 (.str "chancore.plain_frames" 473),es w "__firstlineno__" 578 (.int 143 577),er w "__init__" 586 291,er w "__static_attributes__" 591 292,er w "__dict__" 593 295,er w "__weakref__" 595 296,es w "__doc__" 596 .none] 4),#[]⟩
def abq(w:World):Obj:=mu "PlainCall" 273 272 505 513
def YC(w:World):Obj:=⟨(.type "dict"),none,(.dict #[es w "__module__" 512 (.str "chancore.plain_frames" 473),es w "__firstlineno__" 516 (.int 115 515),er w "__init__" 524 249,er w "do_later" 532 256,er w "take" 542 263,er w "leave_to" 551 270,er w "__static_attributes__" 559 271,er w "__dict__" 561 274,er w "__weakref__" 563 275,es w "__doc__" 564 .none] 4),#[]⟩
def acl(w:World):Obj:=mu "Choices" 830 829 1388 1396
def aaE(w:World):Obj:=⟨(.type "dict"),none,(.dict #[es w "__module__" 1395 (.str "chancore.choices" 1386),es w "__firstlineno__" 1399 (.int 675 1398),er w "__init__" 1407 820,er w "pick" 1416 827,er w "__static_attributes__" 1419 828,er w "__dict__" 1421 831,er w "__weakref__" 1423 832,es w "__doc__" 1424 .none] 4),#[]⟩
noncomputable def Ql(w:World):Obj:=⟨(.type "type"),none,(.cls { name:= "GoPanic",bases:=[(.ref 39)],mro:=[(.ref 114),(.ref 39),(.type "Exception"),(.type "BaseException"),(.type "object")],ns:=113,qualname:= "GoPanic",hasDict:=true,slotNames:=[],subclasses:=[],abstract:=false,collection:=none,hasDel:=false }),#[(some (.ref 98)),none,(some (.str "GoPanic" 302)),(some (.str "GoPanic" 310)),(some (.builtin "Exception.__new__")),(some (.bool true))]⟩
def abG(w:World):Obj:=⟨(.type "dict"),none,(.dict #[es w "__module__" 309 (.str "chancore.errors" 194),es w "__firstlineno__" 313 (.int 22 312),er w "__init__" 321 111,er w "__static_attributes__" 323 112,es w "__doc__" 324 .none] 2),#[]⟩
noncomputable def O39(w:World):Obj:=⟨(.type "type"),none,(.cls { name:= "ChanError",bases:=[(.type "Exception")],mro:=[(.ref 39),(.type "Exception"),(.type "BaseException"),(.type "object")],ns:=38,qualname:= "ChanError",hasDict:=true,slotNames:=[],subclasses:=[(.ref 52),(.ref 64),(.ref 83),(.ref 95),(.ref 114)],abstract:=false,collection:=none,hasDel:=false }),#[(some (.ref 22)),none,(some (.str "ChanError" 196)),(some (.str "ChanError" 204)),(some (.builtin "Exception.__new__")),(some (.bool true))]⟩
def O38(w:World):Obj:=⟨(.type "dict"),none,(.dict #[es w "__module__" 203 (.str "chancore.errors" 194),es w "__firstlineno__" 207 (.int 5 206),er w "__init__" 217 36,er w "__static_attributes__" 220 37,er w "__weakref__" 222 40,es w "__doc__" 223 .none] 3),#[]⟩
def SC(w:World):Obj:=cO "law" "law" 3361 1814 1 0 0 3 2011 181 (.ref 2013) (.ref 2014) 2015 3375
def Tl(w:World):Obj:=cO "_law_reel" "_law_reel" 3226 1669 1 0 0 3 1912 181 (.ref 1914) (.ref 1915) 1916 3232
def Vn(w:World):Obj:=cO "_law_wound" "_law_wound" 3235 1673 2 0 0 3 1919 181 (.ref 1921) (.ref 1922) 1923 3241
def Uw(w:World):Obj:=cO "_law_one" "_law_one" 3244 1680 2 0 0 3 1926 181 (.ref 1928) (.ref 1929) 1930 3249
def V6(w:World):Obj:=cO "_law_run" "_law_run" 3252 1682 0 0 0 3 1933 181 (.ref 1935) (.ref 1936) 1937 3257
def VL(w:World):Obj:=cO "_law_sent" "_law_sent" 3260 1687 3 0 0 3 1940 181 .none .none 1942 3263
def Vg(w:World):Obj:=cO "_law_taken" "_law_taken" 3266 1701 2 0 0 3 1945 181 .none .none 1947 3269
def V1(w:World):Obj:=cO "_law_closed" "_law_closed" 3272 1712 1 0 0 3 1950 181 (.ref 1952) (.ref 1953) 1954 3279
def RN(w:World):Obj:=cO "_law_stands" "_law_stands" 3282 1716 3 0 0 3 1957 181 (.ref 1959) (.ref 1960) 1961 3291
def Ty(w:World):Obj:=cO "_law_channel_right" "_law_channel_right" 3294 1725 2 0 0 3 1964 181 .none .none 1966 3297
def Uo(w:World):Obj:=cO "_law_pointer" "_law_pointer" 3300 1754 1 0 0 3 1969 181 (.ref 1971) (.ref 1972) 1973 3304
def Wb(w:World):Obj:=cO "_law_gate" "_law_gate" 3307 1756 4 0 0 3 1976 181 (.ref 1978) (.ref 1979) 1980 3314
def VX(w:World):Obj:=cO "_law_passed" "_law_passed" 3317 1775 4 0 0 3 1983 181 (.ref 1985) (.ref 1986) 1987 3326
def SD(w:World):Obj:=cO "_law_gates_right" "_law_gates_right" 3329 1782 1 0 0 3 1990 181 (.ref 1992) (.ref 1993) 1994 3340
def VB(w:World):Obj:=cO "_law_no_lock" "_law_no_lock" 3343 1794 0 0 0 3 1997 181 (.ref 1999) (.ref 2000) 2001 3348
def TU(w:World):Obj:=cO "_law_told_right" "_law_told_right" 3351 1801 0 0 0 3 2004 181 (.ref 2006) (.ref 2007) 2008 3358
def Sb(w:World):Obj:=cO "known_rows" "known_rows" 3146 1621 0 0 0 3 1869 181 (.ref 1871) (.ref 1872) 1873 3156
def US(w:World):Obj:=cO "all_functions" "all_functions" 2952 1525 1 0 0 3 1735 181 .none .none 1737 2955
def X5(w:World):Obj:=cO "pass_gate" "pass_gate" 1295 632 4 0 0 3 751 181 (.ref 753) (.ref 754) 755 1306
def abx(w:World):Obj:=cO "do_send" "do_send" 1316 649 4 0 0 3 765 181 (.ref 767) (.ref 768) 769 1325
def aa7(w:World):Obj:=cO "do_receive" "do_receive" 1328 652 4 0 0 3 772 181 (.ref 774) (.ref 775) 776 1336
def ab6(w:World):Obj:=cO "meet_channel" "meet_channel" 1339 655 7 0 0 3 779 181 (.ref 781) (.ref 782) 783 1351
def abj(w:World):Obj:=cO "number_of_channel" "number_of_channel" 1309 647 1 0 0 3 758 181 (.ref 760) (.ref 761) 762 1313
def Zp(w:World):Obj:=cO "received_told" "received_told" 1377 670 3 0 0 3 800 181 (.ref 802) (.ref 803) 804 1383
def Xq(w:World):Obj:=cO "zero_value" "zero_value" 1072 424 2 0 0 3 622 181 .none .none 624 1075
def XJ(w:World):Obj:=cO "underlying_of" "underlying_of" 1058 407 2 0 0 3 610 181 (.ref 612) (.ref 613) 614 1063
def abW(w:World):Obj:=cO "place_of_pointer" "place_of_pointer" 757 271 1 0 0 3 399 181 (.ref 401) (.ref 402) 403 761
def X1(w:World):Obj:=cO "runtime_panic" "runtime_panic" 330 28 1 0 0 3 118 181 (.ref 120) (.ref 121) 122 334
def RY(w:World):Obj:=cO "__init__" "NamedRow.__init__" 3123 1616 5 0 0 3 1855 181 (.ref 1857) (.ref 1858) 1859 3131
def UN(w:World):Obj:=cO "__init__" "World.__init__" 3171 1632 2 0 0 3 1884 181 (.ref 1886) (.ref 1887) 1888 3176
noncomputable def TF(w:World):Obj:=⟨(.type "tuple"),none,(.seq #[.none] 0),#[]⟩
def VM(w:World):Obj:=cO "base_of" "World.base_of" 3179 1654 2 0 0 3 1891 181 (.ref 1893) (.ref 1894) 1895 3185
def Vq(w:World):Obj:=cO "__init__" "PlainRun.__init__" 2970 1534 5 0 0 3 1747 181 (.ref 1749) (.ref 1750) 1751 2979
def SN(w:World):Obj:=cO "wait_here" "PlainRun.wait_here" 3019 1576 2 0 0 3 1782 181 (.ref 1784) (.ref 1785) 1786 3024
def UB(w:World):Obj:=cO "next_one" "PlainRun.next_one" 3027 1580 1 0 0 3 1789 181 (.ref 1791) (.ref 1792) 1793 3031
def Vs(w:World):Obj:=cO "wake_rows" "PlainRun.wake_rows" 3042 1591 2 0 0 3 1803 181 (.ref 1805) (.ref 1806) 1807 3050
def aaG(w:World):Obj:=cO "__init__" "PlainStore.__init__" 846 303 2 0 0 3 467 181 (.ref 469) (.ref 470) 471 851
def ab7(w:World):Obj:=cO "__init__" "PlainChannels.__init__" 1556 749 1 0 0 3 910 181 (.ref 912) (.ref 913) 914 1560
def Zo(w:World):Obj:=cO "make_one" "PlainChannels.make_one" 1563 753 2 0 0 3 917 181 (.ref 919) (.ref 920) 921 1568
def acB(w:World):Obj:=cO "first_waiting" "PlainChannels.first_waiting" 1587 763 3 0 0 3 938 181 (.ref 940) (.ref 941) 942 1594
def aaL(w:World):Obj:=cO "let_go" "PlainChannels.let_go" 1597 769 2 0 0 3 945 181 .none .none 947 1600
def ZG(w:World):Obj:=cO "may_send" "PlainChannels.may_send" 1603 772 2 0 0 3 950 181 (.ref 952) (.ref 953) 954 1609
def ZL(w:World):Obj:=cO "may_take" "PlainChannels.may_take" 1612 778 2 0 0 3 957 181 (.ref 959) (.ref 960) 961 1618
def Xl(w:World):Obj:=cO "may_do" "PlainChannels.may_do" 1621 784 3 0 0 3 964 181 (.ref 966) (.ref 967) 968 1627
def YL(w:World):Obj:=cO "send_now" "PlainChannels.send_now" 1630 787 3 0 0 3 971 181 (.ref 973) (.ref 974) 975 1638
def ace(w:World):Obj:=cO "take_now" "PlainChannels.take_now" 1641 798 2 0 0 3 978 181 (.ref 980) (.ref 981) 982 1649
def W8(w:World):Obj:=cO "do_now" "PlainChannels.do_now" 1652 808 4 0 0 3 985 181 (.ref 987) (.ref 988) 989 1659
def YP(w:World):Obj:=cO "close_now" "PlainChannels.close_now" 1662 811 2 0 0 3 992 181 (.ref 994) (.ref 995) 996 1668
def Td(w:World):Obj:=cO "ended" "PlainChannels.ended" 1671 820 4 0 0 3 999 181 (.ref 1001) (.ref 1002) 1003 1680
def Uv(w:World):Obj:=cO "wait_for" "PlainChannels.wait_for" 1683 828 3 0 0 3 1006 181 (.ref 1008) (.ref 1009) 1010 1693
def abX(w:World):Obj:=cO "__init__" "PlainChannel.__init__" 1525 743 2 0 0 3 889 181 (.ref 891) (.ref 892) 893 1530
def VA(w:World):Obj:=cO "__init__" "PlainGates.__init__" 1720 835 1 0 0 3 1027 181 (.ref 1029) (.ref 1030) 1031 1724
def Sd(w:World):Obj:=cO "lock_now" "PlainGates.lock_now" 1727 840 3 0 0 3 1034 181 (.ref 1036) (.ref 1037) 1038 1733
def Vy(w:World):Obj:=cO "unlock_now" "PlainGates.unlock_now" 1736 847 2 0 0 3 1041 181 (.ref 1043) (.ref 1044) 1045 1742
def RL(w:World):Obj:=cO "add_now" "PlainGates.add_now" 1745 857 3 0 0 3 1048 181 .none .none 1050 1748
def V7(w:World):Obj:=cO "wait_now" "PlainGates.wait_now" 1751 868 3 0 0 3 1053 181 (.ref 1055) (.ref 1056) 1057 1757
def Y3(w:World):Obj:=cO "__init__" "PlainRoutines.__init__" 611 152 2 0 0 3 306 181 (.ref 308) (.ref 309) 310 616
def XF(w:World):Obj:=cO "new_one" "PlainRoutines.new_one" 619 157 1 0 0 3 313 181 (.ref 315) (.ref 316) 317 624
def abk(w:World):Obj:=cO "pick_one" "PlainRoutines.pick_one" 627 164 1 0 0 3 320 181 .none .none 322 630
def Y5(w:World):Obj:=cO "wake_one" "PlainRoutines.wake_one" 633 171 3 0 0 3 325 181 (.ref 327) (.ref 328) 329 640
def Zi(w:World):Obj:=cO "__init__" "PlainRoutine.__init__" 579 145 2 0 0 3 285 181 (.ref 287) (.ref 288) 289 584
def aba(w:World):Obj:=cO "__init__" "PlainCall.__init__" 517 117 2 0 0 3 243 181 (.ref 245) (.ref 246) 247 522
def abo(w:World):Obj:=cO "take" "PlainCall.take" 533 129 2 0 0 3 257 181 (.ref 259) (.ref 260) 261 540
def abg(w:World):Obj:=cO "__init__" "Choices.__init__" 1400 677 2 0 0 3 814 181 (.ref 816) (.ref 817) 818 1405
def aaJ(w:World):Obj:=cO "pick" "Choices.pick" 1408 681 2 0 0 3 821 181 (.ref 823) (.ref 824) 825 1414
def Yt(w:World):Obj:=cO "__init__" "GoPanic.__init__" 314 24 2 0 0 3 105 181 (.ref 107) (.ref 108) 109 319
def O35(w:World):Obj:=cO "__init__" "ChanError.__init__" 209 7 3 0 0 3 30 181 (.ref 32) (.ref 33) 34 215
noncomputable def O29(w:World):Obj:=⟨(.type "tuple"),none,(.seq #[(.int 0 208)] 0),#[]⟩
def K(w:World):Frag:=[(1,O1 w),(2,O2 w),(3,O3 w),(1864,So w),(1863,VQ w),(1907,RX w),(1906,Vb w),(1840,UD w),(1839,Sh w),(579,aar w),(578,X8 w),(1015,SL w),(1014,Vo w),(898,W7 w),(897,aaF w),(1062,RJ w),(1061,TB w),(334,ZI w),(333,ab8 w),(294,Zx w),(293,XV w),(273,abq w),(272,YC w),(830,acl w),(829,aaE w),(114,Ql w),(113,abG w),(39,O39 w),(38,O38 w),(2016,SC w),(1917,Tl w),(1924,Vn w),(1931,Uw w),(1938,V6 w),(1943,VL w),(1948,Vg w),(1955,V1 w),(1962,RN w),(1967,Ty w),(1974,Uo w),(1981,Wb w),(1988,VX w),(1995,SD w),(2002,VB w),(2009,TU w),(1874,Sb w),(1738,US w),(756,X5 w),(770,abx w),(777,aa7 w),(784,ab6 w),(763,abj w),(805,Zp w),(625,Xq w),(615,XJ w),(404,abW w),(123,X1 w),(1860,RY w),(1889,UN w),(1883,TF w),(1896,VM w),(1752,Vq w),(1787,SN w),(1794,UB w),(1808,Vs w),(472,aaG w),(915,ab7 w),(922,Zo w),(943,acB w),(948,aaL w),(955,ZG w),(962,ZL w),(969,Xl w),(976,YL w),(983,ace w),(990,W8 w),(997,YP w),(1004,Td w),(1011,Uv w),(894,abX w),(1032,VA w),(1039,Sd w),(1046,Vy w),(1051,RL w),(1058,V7 w),(311,Y3 w),(318,XF w),(323,abk w),(330,Y5 w),(290,Zi w),(248,aba w),(262,abo w),(819,abg w),(826,aaJ w),(110,Yt w),(35,O35 w),(29,O29 w),(2017,bQ D0 B0),(1918,bQ D1 B1),(1925,bQ D2 B2),(1932,bQ D3 B3),(1939,bQ D4 B4),(1944,bQ D5 B5),(1949,bQ D6 B6),(1956,bQ D7 B7),(1963,bQ D8 B8),(1968,bQ D9 B9),(1975,bQ PW Ad),(1982,bQ HR zZ),(1989,bQ KO DZ),(1996,bQ WP mh),(2003,bQ Ig Fh),(2010,bQ HD Ef),(1875,bQ PE Au),(1739,bQ Pj za),(757,bQ KW EH),(771,bQ M4 zP),(778,bQ PP z5),(785,bQ Io A6),(764,bQ LF ze),(806,bQ MJ zU),(626,bQ Kf zA),(616,bQ Ho Av),(405,bQ QL Er),(124,bQ LW AF),(1861,bQ Qo AD),(1890,bQ Im Be),(1897,bQ Ie zv),(1753,bQ Qz AA),(1788,bQ Mj zo),(1795,bQ MP zE),(1809,bQ HT Al),(473,bQ Qw AI),(916,bQ H0 AP),(923,bQ Nv AY),(944,bQ IC zN),(949,bQ Nh Bk),(956,bQ NP zW),(963,bQ IU Ap),(970,bQ MB zY),(977,bQ PU AG),(984,bQ Rc zX),(991,bQ PY AJ),(998,bQ MY AN),(1005,bQ KY Aj),(1012,bQ Rq A7),(895,bQ NO Ai),(1033,bQ Ib AK),(1040,bQ Lh zr),(1047,bQ Ku Ei),(1052,bQ IB ER),(1059,bQ Lq zJ),(312,bQ K9 Ao),(319,bQ IP zx),(324,bQ QB Bd),(331,bQ MR Bj),(291,bQ LH Am),(249,bQ LK zG),(263,bQ Lw AR),(820,bQ My zF),(827,bQ IG Ab),(111,bQ QS Bc),(36,bQ Ni zj),(1760,bQ SW Sq)]
noncomputable def KA:List Addr:=[1,2,3,1864,1863,1907,1906,1840,1839,579,578,1015,1014,898,897,1062,1061,334,333,294,293,273,272,830,829,114,113,39,38,2016,1917,1924,1931,1938,1943,1948,1955,1962,1967,1974,1981,1988,1995,2002,2009,1874,1738,756,770,777,784,763,805,625,615,404,123,1860,1889,1883,1896,1752,1787,1794,1808,472,915,922,943,948,955,962,969,976,983,990,997,1004,1011,894,1032,1039,1046,1051,1058,311,318,323,330,290,248,262,819,826,110,35,29,2017,1918,1925,1932,1939,1944,1949,1956,1963,1968,1975,1982,1989,1996,2003,2010,1875,1739,757,771,778,785,764,806,626,616,405,124,1861,1890,1897,1753,1788,1795,1809,473,916,923,944,949,956,963,970,977,984,991,998,1005,1012,895,1033,1040,1047,1052,1059,312,319,324,331,291,249,263,820,827,111,36,1760]
noncomputable def lw:OpenLaw:=PySem.Challenge.rw_xw0059_02
noncomputable def CT:List Addr:=[1864,1907,1840,579,1015,898,1062,334,294,273,830]
end
end Internal.L
namespace Internal
noncomputable section
def ph(p:Program)(q:Program)(w:World)(S:Shared):=
 (staticsOk (importedModules p.main.body) (boot_heap w.params) S.heap&&gensDone S&&laidKept (boot_heap w.params) S.heap&&DQ S.heap (importedModules p.main.body)&&S.heap.isNs mainGlobals&&S.heap.isNs builtinsNs&&xR q S.heap&&S.gens.size == 0,
  S.heap.nsKeys mainGlobals,S.heap.bltView)
def nA(q:Program)(loose:List Str)(S:Shared):=
 (yc ((recsOf q).map (·.name)) (ownsOf q) [] { S with gens:=#[] },yU q S,DD q (drecsOf q) S,Mx q (looseW q loose) S,Qh q loose S,C7 q S,DI q loose S)
noncomputable def nj(q:Program)(loose:List Str):=(expectedOf q,true,pinGoodD (drecsOf q),plainGoodE q (looseW q loose),plainGoodD q loose,wideGood q,clsGoodW q loose)
theorem UF{S:SharedT}{KK:List (Addr × Obj)}{n:Nat}{as:List Addr}(ea:as=KK.map (·.1))(hn:S.n=n)(lt:as.all (fun a=>Nat.blt a n)=true)(h:(KK.map fun e=>(jf S.tree e.1).bind alive)=KK.map fun e=>some e.2):as.map S.abs.heap.get?=KK.map fun e=>some e.2:=by
 subst ea
 rw [List.map_map]
 refine List.map_congr_left fun e he=>?_
 have h1:=List.map_inj_left.mp h e he
 have h2:=List.all_eq_true.mp lt _ (List.mem_map_of_mem he)
 have h2:e.1<S.n:=by rw [hn]; exact Nat.le_of_ble_eq_true h2
 rw [iI] at h1
 obtain ⟨o,g1,g2⟩:=Option.bind_eq_some_iff.mp h1
 show (absHeap S.tree S.n S.life).get? e.1=_
 rw [abs_get h2 g1,g2]
theorem wc{p q:Program}{loose:List Str}{N:Nat}(M:Nat)(L:List Str)(KK:World->List (Addr × Obj))(as:List Addr)(n:Nat)(ea:∀w,as=(KK w).map (·.1))(lt:as.all (fun a=>Nat.blt a n)=true)
  (e:opening p=plainProg p.main.scope.names) (hN:Nat.ble 600 N=true) (f:∀s,fenceModules? p s=some s) (le:Nat.ble M N=true)
  (z:∀w:World,(boot_heap w.params).isNs mainGlobals=true)
  (k1:(L.all fun k=>startupNames.contains k||p.boundNames.contains k)=true)
  (k2:(L.all fun k=>startupNames.contains k||(looseW q loose).contains k||((recsOf q).map (·.name)).contains k||((litsOf q).map (·.1)).contains k||((clssOf q (looseW q loose)).map (·.name)).contains k)=true)
  (hA:∀(w:World),(fun os=>(iP M p w os).map fun S=>(ph p q w S.abs,S.n,(KK w).map fun e=>(jf S.tree e.1).bind alive))=fun q0=>some ((true,L,bltViewBooted),n,(KK w).map fun e=>some e.2))
  (hB:∀(w:World),(fun os=>(iP M p w os).map fun S=>nA q loose S.abs)=fun q0=>some (nj q loose)) :
  LeftO p q loose (fun q0=>true) (fun s=>as.map s.heap.get?) (fun w=>(KK w).map fun e=>some e.2) N:=
 wf M L e hN f le z k1 k2 fun w=>by
  funext os
  have h1:=congrFun (hA w) os
  have h2:=congrFun (hB w) os
  obtain ⟨S,hS,hl⟩:=Option.map_eq_some_iff.mp h1
  rw [hS] at h2
  have h2:nA q loose S.abs=nj q loose:=Option.some.inj h2
  obtain ⟨l1,l2,l3⟩:_/\_/\_:=by simpa only [Prod.mk.injEq] using hl
  rw [hS]
  show some (lb p q loose w S.abs,as.map S.abs.heap.get?)=_
  rw [UF (ea w) l2 lt l3]
  have h3:lb p q loose w S.abs=mo q loose L:=by
   unfold ph at l1
   unfold nA nj at h2
   unfold lb mo
   simp only [Prod.mk.injEq] at l1 h2 ⊢
   obtain ⟨a1,a2,a3⟩:=l1
   obtain ⟨b1,b2,b3,b4,b5,b6,b7⟩:=h2
   exact ⟨a1,a2,b1,a3,b2,b3,b4,b5,b6,b7⟩
  rw [h3]
def qq:Program:=Rp L.pp 228
def ll:List Str:=Fu L.pp "law"
def kk:List Str:=Pa L.pp
theorem Kb(w:World):(fun os=>(iP 14200 L.pp (w.withFollow "special-get-raises" false) os).map fun S=>(ph L.pp qq (w.withFollow "special-get-raises" false) S.abs,S.n,(L.K (w.withFollow "special-get-raises" false)).map fun e=>(jf S.tree e.1).bind alive))=fun q0=>some ((true,kk,bltViewBooted),2018,(L.K (w.withFollow "special-get-raises" false)).map fun e=>some e.2):=by kernel_rfl
theorem La(w:World):(fun os=>(iP 14200 L.pp (w.withFollow "special-get-raises" false) os).map fun S=>nA qq ll S.abs)=fun q0=>some (nj qq ll):=by kernel_rfl
theorem Ii(w:World):(fun os=>(iP 14200 L.pp (w.withFollow "special-get-raises" true) os).map fun S=>(ph L.pp qq (w.withFollow "special-get-raises" true) S.abs,S.n,(L.K (w.withFollow "special-get-raises" true)).map fun e=>(jf S.tree e.1).bind alive))=fun q0=>some ((true,kk,bltViewBooted),2018,(L.K (w.withFollow "special-get-raises" true)).map fun e=>some e.2):=by kernel_rfl
theorem Md(w:World):(fun os=>(iP 14200 L.pp (w.withFollow "special-get-raises" true) os).map fun S=>nA qq ll S.abs)=fun q0=>some (nj qq ll):=by kernel_rfl
end
end Internal
namespace Internal
noncomputable section
def lawDef:DefRec × List (Str × Expr):=match defOf qq "law" with | some x=>x | none=>(⟨"",default,[],default,default⟩,[])
theorem Xx:defOf qq L.lw.row.name=some (lawDef.1,lawDef.2):=by kernel_rfl
theorem hp:L.lw.row.prog.theDef L.lw.row.name=some (lawDef.1.params,lawDef.1.body,lawDef.1.scope):=by kernel_rfl
theorem hk:kwWritten? lawDef.1.params.kwonlyargs lawDef.1.params.kw_defaults=some lawDef.2:=by kernel_rfl
theorem mq:(chainsOk qq&&opensWell L.lw.row.prog&&(frees L.lw.row.toRowW&&L.lw.row.toRowW.within.isEmpty))=true:=by kernel_rfl
theorem hw:L.lw.row.toRowW.promised:=⟨[.list []],by decide +kernel,by decide +kernel⟩
theorem Se:opening L.pp=plainProg L.pp.main.scope.names:=by kernel_rfl
theorem Ks(s:Shared):fenceModules? L.pp s=some s:=by kernel_rfl
theorem QG(w:World):(boot_heap w.params).isNs mainGlobals=true:=by kernel_rfl
theorem RB:(kk.all fun k=>startupNames.contains k||L.pp.boundNames.contains k)=true:=by kernel_rfl
theorem MU:(kk.all fun k=>startupNames.contains k||(looseW qq ll).contains k||((recsOf qq).map (·.name)).contains k||((litsOf qq).map (·.1)).contains k||((clssOf qq (looseW qq ll)).map (·.name)).contains k)=true:=by kernel_rfl
theorem left:LeftO L.pp qq ll (fun q0=>true) (fun s=>L.KA.map s.heap.get?) (fun w=>(L.K w).map fun e=>some e.2) 28400:=
 wc 14200 kk L.K L.KA 2018 (fun q0=>rfl) (by kernel_rfl) Se rfl Ks rfl QG RB MU
  (fun w=>byRow2 "special-get-raises" (P:=fun w=>(fun os=>(iP 14200 L.pp w os).map fun S=>(ph L.pp qq w S.abs,S.n,(L.K w).map fun e=>(jf S.tree e.1).bind alive))=fun q0=>some ((true,kk,bltViewBooted),2018,(L.K w).map fun e=>some e.2)) Kb Ii w)
  (fun w=>byRow2 "special-get-raises" (P:=fun w=>(fun os=>(iP 14200 L.pp w os).map fun S=>nA qq ll S.abs)=fun q0=>some (nj qq ll)) La Md w)
def mm:Module:=L.pp.main
noncomputable def wM(m:Module):TablesWhole.Ctx:=⟨m.scope,[],[],[],none⟩
noncomputable def d3(m:Module)(l:List Stmt):Bool:=TablesWhole.wSs TablesWhole.holds m.scope (wM m) m.scope l
theorem yF(m:Module)(k:Nat)(l:List Stmt)(a:d3 m (l.take k)=true)(b:d3 m (l.drop k)=true):d3 m l=true:=by
 induction k generalizing l with
 | zero=>exact b
 | succ k ih=>
  cases l with
  | nil=>rfl
  | cons s l=>
   obtain ⟨h1,h2⟩:=Bool.and_eq_true_iff.mp (show (TablesWhole.wS TablesWhole.holds m.scope (wM m) m.scope s&&d3 m (l.take k))=true from a)
   show (TablesWhole.wS TablesWhole.holds m.scope (wM m) m.scope s&&d3 m l)=true
   rw [h1,ih l h2 b]; rfl
theorem eA(m:Module)(a b:Nat)(h:b=a+30)(t:d3 m ((m.body.drop a).take 30)=true)(r:d3 m (m.body.drop b)=true):d3 m (m.body.drop a)=true:=
 yF m 30 _ t (by rw [List.drop_drop,<- h]; exact r)
theorem CF(m:Module)(Dy:TablesWhole.wSs TablesWhole.gather m.scope (wM m) m.scope m.body=[])(h1:TablesWhole.noTwice m.scope=true)(h2:d3 m (m.body.drop 0)=true):m.tablesWhole=true:=by
 rw [List.drop_zero] at h2
 unfold Module.tablesWhole TablesWhole.wModule
 show (true&&(TablesWhole.noTwice m.scope&&(TablesWhole.wSs TablesWhole.holds m.scope ⟨m.scope,[],TablesWhole.wSs TablesWhole.gather m.scope (wM m) m.scope m.body,[],none⟩ m.scope m.body&&true)))=true
 rw [Dy]
 show (true&&(TablesWhole.noTwice m.scope&&(d3 m m.body&&true)))=true
 rw [h1,h2]; rfl
theorem FE(p:Program)(h1:p.modules=[])(h2:p.parses=[])(h3:p.harvested=[])(h:p.main.tablesWhole=true):p.tablesWhole=true:=by
 unfold Program.tablesWhole TablesWhole.wProgram
 rw [h1,h2,h3]
 show (p.main.tablesWhole&&_)=true
 rw [h]; rfl
theorem Dy:TablesWhole.wSs TablesWhole.gather mm.scope (wM mm) mm.scope mm.body=[]:=by kernel_rfl
theorem ZV:d3 mm ((mm.body.drop 0).take 30)=true:=by kernel_rfl
theorem TD:d3 mm ((mm.body.drop 30).take 30)=true:=by kernel_rfl
theorem VV:d3 mm ((mm.body.drop 60).take 30)=true:=by kernel_rfl
theorem Uh:d3 mm ((mm.body.drop 90).take 30)=true:=by kernel_rfl
theorem Ps:d3 mm ((mm.body.drop 120).take 30)=true:=by kernel_rfl
theorem Ia:d3 mm ((mm.body.drop 150).take 30)=true:=by kernel_rfl
theorem Ic:d3 mm ((mm.body.drop 180).take 30)=true:=by kernel_rfl
theorem K3:d3 mm ((mm.body.drop 210).take 30)=true:=by kernel_rfl
theorem Ir:d3 mm (mm.body.drop 240)=true:=by kernel_rfl
theorem Dr:TablesWhole.noTwice mm.scope=true:=by kernel_rfl
theorem Dp:L.pp.tablesWhole=true:=FE L.pp rfl rfl rfl (CF mm Dy Dr (eA mm 0 30 rfl ZV (eA mm 30 60 rfl TD (eA mm 60 90 rfl VV (eA mm 90 120 rfl Uh (eA mm 120 150 rfl Ps (eA mm 150 180 rfl Ia (eA mm 180 210 rfl Ic (eA mm 210 240 rfl K3 Ir)))))))))
theorem bare:L.pp.bare:=⟨rfl,rfl,rfl,rfl,rfl,Dp⟩
theorem Br(p:Program)(h1:(sreFenced p.main&&((moduleNames p.main.body).isEmpty||lookedIntoSs (moduleNames p.main.body) p.main.body))=true)(h2:namesResolve p=true)(h3:p.boundNames.all (fun n=>!worldNames.contains n)=true)
  (h4:(!(importedModules p.main.body).all cThrough.contains)=false) (h5:(["vars","dir","locals"]:List Str).filter (readsOut p p.main.body)=[]) (h6:noRoadLSs { strict:=false,foot:=none,bare:=[] } p.main.body=true)
  (h7:(namesMeet p p.main.body fun q0 n=>attrL n)=true):looksOpen p=true:=by
 unfold looksOpen
 rw [h1,h2,h3,h4,h5,h6,h7]; rfl
theorem KN(l:OpenLaw)(h0:looksOpen l.prog=true)(h1:looksOpen l.prog=true->l.row.wellSaid=true)
  (a1:(decide (l.foot<=(behindTheImports l.prog).length))=true) (a2:l.footing.all footLine=true) (a3:noClassBlock l.prog l.footing=true)
  (a4:l.most.all (fun n=>decide (63<=n))=true) (a5:l.bound.all (fun n=>decide (2 ^ 63<=n))=true)
  (a6:noRoadLSs { strict:=true,foot:=some l.bound',writes:=l.writes,may:=l.may } l.footing=true)
  (a7:defStands l.about l.above=true) (a8:l.namesIt=true)
  (a9:(["type","isinstance","issubclass","getattr","hasattr"]:List Str).all (fun n=>l.about != [n])=true)
  (b1:l.bound'.all (fun n=>!builtinNamed n||l.about == [n]||!l.reads n)=true) (b2:(!l.writes||(l.prog.main.body.flatMap importedNames).all fun n=>!l.reads n)=true)
  (b3:(l.prog.main.body.flatMap importedNames).all (fun n=>!l.reads n||(drawsOf n l.prog.main.body).all fun mn=>mn.2 != ("attrgetter" : Str)&&mn.2 != ("methodcaller" : Str))=true)
  (b4:namesMeet l.prog l.footing (fun sc n=>(!(["type","isinstance","issubclass","getattr","hasattr"]:List Str).contains n||sc.names.lookup n == some .globalImplicit)&&
   (l.may != some n||sc.kind == .module||sc.names.lookup n == some .globalImplicit))=true)
  (b5:l.own.contains l.name=true) (b6:(l.own.eraseDups.length == l.own.length)=true) (b7:l.own.all (fun n=>!builtinNamed n)=true)
  (b8:namesMeet l.prog l.above (fun q0 n=>!l.own.contains n)=true) (b9:(namesMeet l.prog l.footing fun sc n=>sc.kind == .module||sc.names.lookup n != some .globalExplicit)=true):l.wellSaid=true:=by
 unfold OpenLaw.wellSaid
 rw [h1 h0,a1,a2,a3,a4,a5,a6,a7,a8,a9,b1,b2,b3,b4,b5,b6,b7,b8,b9]; rfl
theorem s1:(sreFenced L.pp.main&&((moduleNames L.pp.main.body).isEmpty||lookedIntoSs (moduleNames L.pp.main.body) L.pp.main.body))=true:=by kernel_rfl
theorem s2:namesResolve L.pp=true:=by kernel_rfl
theorem s3:L.pp.boundNames.all (fun n=>!worldNames.contains n)=true:=by kernel_rfl
theorem s4:(!(importedModules L.pp.main.body).all cThrough.contains)=false:=by kernel_rfl
theorem s5:(["vars","dir","locals"]:List Str).filter (readsOut L.pp L.pp.main.body)=[]:=by kernel_rfl
theorem s6:noRoadLSs { strict:=false,foot:=none,bare:=[] } L.pp.main.body=true:=by kernel_rfl
theorem s7:(namesMeet L.pp L.pp.main.body fun q0 n=>attrL n)=true:=by kernel_rfl
theorem TL:looksOpen L.lw.prog=true:=Br L.pp s1 s2 s3 s4 s5 s6 s7
theorem Gu(h:looksOpen L.lw.prog=true):L.lw.row.wellSaid=true:=by
 have h':looksOpen L.lw.row.prog=true:=h
 unfold OpenRow.wellSaid OpenRow.partSaid
 rw [h']
 kernel_rfl
theorem xl:L.lw.wellSaid=true:=KN L.lw TL Gu (by kernel_rfl) (by kernel_rfl) (by kernel_rfl) (by kernel_rfl) (by kernel_rfl) (by kernel_rfl) (by kernel_rfl) (by kernel_rfl) (by kernel_rfl) (by kernel_rfl) (by kernel_rfl) (by kernel_rfl) (by kernel_rfl) (by kernel_rfl) (by kernel_rfl) (by kernel_rfl) (by kernel_rfl) (by kernel_rfl)
theorem head(walk:WalkX qq ll (fun q0 q0=>True) (fun s=>L.KA.map s.heap.get?) (fun w=>(L.K w).map fun e=>some e.2) L.lw.row.toRowW lawDef.1 lawDef.2 fun f vs=>PySem.call f vs):PySem.Challenge.rw_xw0059_02.Holds:=
 ⟨xl,holds_openX (r:=L.lw.row) (Xt:=fun q0=>true) (XP:=fun q0 q0=>True) left (fun q0 q0=>trivial) (fun q0 q0 q0 q0 q0=>trivial) Xx hp hk (fun q0 q0=>recFacts_nil rfl) rfl (row_said xl) mq bare hw walk⟩
end
end Internal
namespace Internal
theorem el02  {A0 A1:Prop} {P:Prop} (h:A0/\A1) (f:A0->A1->P):P:=f h.1 h.2
theorem el11{α0:Sort u0}{A0:α0->Prop}{P:Prop}(h:∃a0,A0 a0)(f:∀a0,A0 a0->P):P:=h.elim f
theorem el03  {A0 A1 A2:Prop} {P:Prop} (h:A0/\A1/\A2) (f:A0->A1->A2->P):P:=el02 h.2 (f h.1)
theorem el12{α0:Sort u0}{A0 A1:α0->Prop}{P:Prop}(h:∃a0,A0 a0/\A1 a0)(f:∀a0,A0 a0->A1 a0->P):P:=h.elim fun a h=>el02 h (f a)
theorem el21{α0:Sort u0}{α1:Sort u1}{A0:α0->α1->Prop}{P:Prop}(h:∃a0 a1,A0 a0 a1)(f:∀a0 a1,A0 a0 a1->P):P:=h.elim fun a h=>el11 h (f a)
theorem el04  {A0 A1 A2 A3:Prop} {P:Prop} (h:A0/\A1/\A2/\A3) (f:A0->A1->A2->A3->P):P:=el03 h.2 (f h.1)
theorem el13{α0:Sort u0}{A0 A1 A2:α0->Prop}{P:Prop}(h:∃a0,A0 a0/\A1 a0/\A2 a0)(f:∀a0,A0 a0->A1 a0->A2 a0->P):P:=h.elim fun a h=>el03 h (f a)
theorem el22{α0:Sort u0}{α1:Sort u1}{A0 A1:α0->α1->Prop}{P:Prop}(h:∃a0 a1,A0 a0 a1/\A1 a0 a1)(f:∀a0 a1,A0 a0 a1->A1 a0 a1->P):P:=h.elim fun a h=>el12 h (f a)
theorem el31{α0:Sort u0}{α1:Sort u1}{α2:Sort u2}{A0:α0->α1->α2->Prop}{P:Prop}(h:∃a0 a1 a2,A0 a0 a1 a2)(f:∀a0 a1 a2,A0 a0 a1 a2->P):P:=h.elim fun a h=>el21 h (f a)
theorem el05  {A0 A1 A2 A3 A4:Prop} {P:Prop} (h:A0/\A1/\A2/\A3/\A4) (f:A0->A1->A2->A3->A4->P):P:=el04 h.2 (f h.1)
theorem el14{α0:Sort u0}{A0 A1 A2 A3:α0->Prop}{P:Prop}(h:∃a0,A0 a0/\A1 a0/\A2 a0/\A3 a0)(f:∀a0,A0 a0->A1 a0->A2 a0->A3 a0->P):P:=h.elim fun a h=>el04 h (f a)
theorem el23{α0:Sort u0}{α1:Sort u1}{A0 A1 A2:α0->α1->Prop}{P:Prop}(h:∃a0 a1,A0 a0 a1/\A1 a0 a1/\A2 a0 a1)(f:∀a0 a1,A0 a0 a1->A1 a0 a1->A2 a0 a1->P):P:=h.elim fun a h=>el13 h (f a)
theorem el32{α0:Sort u0}{α1:Sort u1}{α2:Sort u2}{A0 A1:α0->α1->α2->Prop}{P:Prop}(h:∃a0 a1 a2,A0 a0 a1 a2/\A1 a0 a1 a2)(f:∀a0 a1 a2,A0 a0 a1 a2->A1 a0 a1 a2->P):P:=h.elim fun a h=>el22 h (f a)
theorem el41{α0:Sort u0}{α1:Sort u1}{α2:Sort u2}{α3:Sort u3}{A0:α0->α1->α2->α3->Prop}{P:Prop}(h:∃a0 a1 a2 a3,A0 a0 a1 a2 a3)(f:∀a0 a1 a2 a3,A0 a0 a1 a2 a3->P):P:=h.elim fun a h=>el31 h (f a)
theorem el06  {A0 A1 A2 A3 A4 A5:Prop} {P:Prop} (h:A0/\A1/\A2/\A3/\A4/\A5) (f:A0->A1->A2->A3->A4->A5->P):P:=el05 h.2 (f h.1)
theorem el15{α0:Sort u0}{A0 A1 A2 A3 A4:α0->Prop}{P:Prop}(h:∃a0,A0 a0/\A1 a0/\A2 a0/\A3 a0/\A4 a0)(f:∀a0,A0 a0->A1 a0->A2 a0->A3 a0->A4 a0->P):P:=h.elim fun a h=>el05 h (f a)
theorem el24{α0:Sort u0}{α1:Sort u1}{A0 A1 A2 A3:α0->α1->Prop}{P:Prop}(h:∃a0 a1,A0 a0 a1/\A1 a0 a1/\A2 a0 a1/\A3 a0 a1)(f:∀a0 a1,A0 a0 a1->A1 a0 a1->A2 a0 a1->A3 a0 a1->P):P:=h.elim fun a h=>el14 h (f a)
theorem el33{α0:Sort u0}{α1:Sort u1}{α2:Sort u2}{A0 A1 A2:α0->α1->α2->Prop}{P:Prop}(h:∃a0 a1 a2,A0 a0 a1 a2/\A1 a0 a1 a2/\A2 a0 a1 a2)(f:∀a0 a1 a2,A0 a0 a1 a2->A1 a0 a1 a2->A2 a0 a1 a2->P):P:=h.elim fun a h=>el23 h (f a)
theorem el42{α0:Sort u0}{α1:Sort u1}{α2:Sort u2}{α3:Sort u3}{A0 A1:α0->α1->α2->α3->Prop}{P:Prop}(h:∃a0 a1 a2 a3,A0 a0 a1 a2 a3/\A1 a0 a1 a2 a3)(f:∀a0 a1 a2 a3,A0 a0 a1 a2 a3->A1 a0 a1 a2 a3->P):P:=h.elim fun a h=>el32 h (f a)
theorem el51{α0:Sort u0}{α1:Sort u1}{α2:Sort u2}{α3:Sort u3}{α4:Sort u4}{A0:α0->α1->α2->α3->α4->Prop}{P:Prop}(h:∃a0 a1 a2 a3 a4,A0 a0 a1 a2 a3 a4)(f:∀a0 a1 a2 a3 a4,A0 a0 a1 a2 a3 a4->P):P:=h.elim fun a h=>el41 h (f a)
theorem el16{α0:Sort u0}{A0 A1 A2 A3 A4 A5:α0->Prop}{P:Prop}(h:∃a0,A0 a0/\A1 a0/\A2 a0/\A3 a0/\A4 a0/\A5 a0)(f:∀a0,A0 a0->A1 a0->A2 a0->A3 a0->A4 a0->A5 a0->P):P:=h.elim fun a h=>el06 h (f a)
theorem el25{α0:Sort u0}{α1:Sort u1}{A0 A1 A2 A3 A4:α0->α1->Prop}{P:Prop}(h:∃a0 a1,A0 a0 a1/\A1 a0 a1/\A2 a0 a1/\A3 a0 a1/\A4 a0 a1)(f:∀a0 a1,A0 a0 a1->A1 a0 a1->A2 a0 a1->A3 a0 a1->A4 a0 a1->P):P:=h.elim fun a h=>el15 h (f a)
theorem el34{α0:Sort u0}{α1:Sort u1}{α2:Sort u2}{A0 A1 A2 A3:α0->α1->α2->Prop}{P:Prop}(h:∃a0 a1 a2,A0 a0 a1 a2/\A1 a0 a1 a2/\A2 a0 a1 a2/\A3 a0 a1 a2)(f:∀a0 a1 a2,A0 a0 a1 a2->A1 a0 a1 a2->A2 a0 a1 a2->A3 a0 a1 a2->P):P:=h.elim fun a h=>el24 h (f a)
theorem el43{α0:Sort u0}{α1:Sort u1}{α2:Sort u2}{α3:Sort u3}{A0 A1 A2:α0->α1->α2->α3->Prop}{P:Prop}(h:∃a0 a1 a2 a3,A0 a0 a1 a2 a3/\A1 a0 a1 a2 a3/\A2 a0 a1 a2 a3)(f:∀a0 a1 a2 a3,A0 a0 a1 a2 a3->A1 a0 a1 a2 a3->A2 a0 a1 a2 a3->P):P:=h.elim fun a h=>el33 h (f a)
theorem el52{α0:Sort u0}{α1:Sort u1}{α2:Sort u2}{α3:Sort u3}{α4:Sort u4}{A0 A1:α0->α1->α2->α3->α4->Prop}{P:Prop}(h:∃a0 a1 a2 a3 a4,A0 a0 a1 a2 a3 a4/\A1 a0 a1 a2 a3 a4)(f:∀a0 a1 a2 a3 a4,A0 a0 a1 a2 a3 a4->A1 a0 a1 a2 a3 a4->P):P:=h.elim fun a h=>el42 h (f a)
theorem el61{α0:Sort u0}{α1:Sort u1}{α2:Sort u2}{α3:Sort u3}{α4:Sort u4}{α5:Sort u5}{A0:α0->α1->α2->α3->α4->α5->Prop}{P:Prop}(h:∃a0 a1 a2 a3 a4 a5,A0 a0 a1 a2 a3 a4 a5)(f:∀a0 a1 a2 a3 a4 a5,A0 a0 a1 a2 a3 a4 a5->P):P:=h.elim fun a h=>el51 h (f a)
theorem el26{α0:Sort u0}{α1:Sort u1}{A0 A1 A2 A3 A4 A5:α0->α1->Prop}{P:Prop}(h:∃a0 a1,A0 a0 a1/\A1 a0 a1/\A2 a0 a1/\A3 a0 a1/\A4 a0 a1/\A5 a0 a1)(f:∀a0 a1,A0 a0 a1->A1 a0 a1->A2 a0 a1->A3 a0 a1->A4 a0 a1->A5 a0 a1->P):P:=h.elim fun a h=>el16 h (f a)
theorem el35{α0:Sort u0}{α1:Sort u1}{α2:Sort u2}{A0 A1 A2 A3 A4:α0->α1->α2->Prop}{P:Prop}(h:∃a0 a1 a2,A0 a0 a1 a2/\A1 a0 a1 a2/\A2 a0 a1 a2/\A3 a0 a1 a2/\A4 a0 a1 a2)(f:∀a0 a1 a2,A0 a0 a1 a2->A1 a0 a1 a2->A2 a0 a1 a2->A3 a0 a1 a2->A4 a0 a1 a2->P):P:=h.elim fun a h=>el25 h (f a)
theorem el44{α0:Sort u0}{α1:Sort u1}{α2:Sort u2}{α3:Sort u3}{A0 A1 A2 A3:α0->α1->α2->α3->Prop}{P:Prop}(h:∃a0 a1 a2 a3,A0 a0 a1 a2 a3/\A1 a0 a1 a2 a3/\A2 a0 a1 a2 a3/\A3 a0 a1 a2 a3)(f:∀a0 a1 a2 a3,A0 a0 a1 a2 a3->A1 a0 a1 a2 a3->A2 a0 a1 a2 a3->A3 a0 a1 a2 a3->P):P:=h.elim fun a h=>el34 h (f a)
theorem el53{α0:Sort u0}{α1:Sort u1}{α2:Sort u2}{α3:Sort u3}{α4:Sort u4}{A0 A1 A2:α0->α1->α2->α3->α4->Prop}{P:Prop}(h:∃a0 a1 a2 a3 a4,A0 a0 a1 a2 a3 a4/\A1 a0 a1 a2 a3 a4/\A2 a0 a1 a2 a3 a4)(f:∀a0 a1 a2 a3 a4,A0 a0 a1 a2 a3 a4->A1 a0 a1 a2 a3 a4->A2 a0 a1 a2 a3 a4->P):P:=h.elim fun a h=>el43 h (f a)
theorem el62{α0:Sort u0}{α1:Sort u1}{α2:Sort u2}{α3:Sort u3}{α4:Sort u4}{α5:Sort u5}{A0 A1:α0->α1->α2->α3->α4->α5->Prop}{P:Prop}(h:∃a0 a1 a2 a3 a4 a5,A0 a0 a1 a2 a3 a4 a5/\A1 a0 a1 a2 a3 a4 a5)(f:∀a0 a1 a2 a3 a4 a5,A0 a0 a1 a2 a3 a4 a5->A1 a0 a1 a2 a3 a4 a5->P):P:=h.elim fun a h=>el52 h (f a)
theorem om0{k n:Nat}(h:k<n+1)(g:¬k=n):k<n:=Nat.lt_of_le_of_ne (Nat.le_of_lt_succ h) g
theorem om1{i k n:Nat}(h:i+(k+1)=n):i+1+k=n:=(Nat.succ_add_eq_add_succ i k).trans h
theorem om2{i k:Nat}:i+(k+1)=i+1+k:=(Nat.succ_add_eq_add_succ i k).symm
theorem om3{i k:Nat}:i+1+k=i+(k+1):=Nat.succ_add_eq_add_succ i k
theorem om4{a d r:Nat}(h:a+(d+1)<r):a+1+d<r:=Nat.lt_of_le_of_lt (Nat.le_of_eq om3) h
theorem om5{a d r:Nat}(h:a+(d+1)<r):a<r:=Nat.lt_of_le_of_lt (Nat.le_add_right a _) h
theorem om6{a r:Nat}(h:a+2<r):a+1<r:=Nat.lt_of_succ_lt h
theorem om8{a d d' r:Nat}(l:d<=d')(h:a+d'<r):a+d<r:=Nat.lt_of_le_of_lt (Nat.add_le_add_left l a) h
theorem om9{a d d' c:Nat}(l:d<=d')(h:a+4 * d'+40<c):a+4 * d+40<c:=Nat.lt_of_le_of_lt (Nat.add_le_add_right (Nat.add_le_add_left (Nat.mul_le_mul_left 4 l) a) 40) h
theorem om10{a d c k:Nat}(h:a+4 * (d+1)+40<c)(q:Nat.ble k 4=true):a+k+4 * d+40<c:=
 Nat.lt_of_le_of_lt (Nat.add_le_add_right (Nat.le_trans (Nat.le_of_eq (Nat.add_right_comm a k _)) (Nat.add_le_add_left (Nat.le_of_ble_eq_true q) _)) 40) h
theorem om11{a d c:Nat}(h:a+4 * (d+1)+40<c):a+3+4 * d+40<c:=om10 h rfl
theorem om12{a d c:Nat}(h:a+4 * (d+2)+40<c):a+1+4 * (d+1)+40<c:=om10 h rfl
theorem om13{a d c k:Nat}(h:a+4 * d+40<c)(q:Nat.ble k 40=true):a+k<c:=
 Nat.lt_of_le_of_lt (Nat.le_trans (Nat.add_le_add_right (Nat.le_add_right a (4 * d)) k) (Nat.add_le_add_left (Nat.le_of_ble_eq_true q) _)) h
theorem om14{a d c:Nat}(h:a+4 * d+40<c):a+9<c:=om13 h rfl
theorem om15{a d c:Nat}(h:a+4 * d+40<c):a+3<c:=om13 h rfl
theorem om16{k n:Nat}(h:¬k<n):n<=k:=Nat.le_of_not_lt h
theorem om17{k n:Nat}(h:¬k<=n):n<=k:=Nat.le_of_lt (Nat.lt_of_not_le h)
theorem om18{i j k:Nat}(h:j - i=k+1):j - (i+1)=k:=by rw [Nat.sub_succ,h]; rfl
theorem om19{i j k:Nat}(h:j - i=k+1):i+1<=j:=Nat.lt_of_sub_pos (h▸Nat.succ_pos k)
theorem om20{i j:Nat}(h:j - i=0)(l:i<=j):i=j:=Nat.le_antisymm l (Nat.le_of_sub_eq_zero h)
theorem om21{i j k:Nat}(l:i<=j)(h:j<k):i<k:=Nat.lt_of_le_of_lt l h
theorem om22{n:Nat}:(0:Int)<=n:=Int.natCast_nonneg n
theorem om23{n:Nat}:¬(n:Int)<0:=Int.not_lt.mpr (Int.natCast_nonneg n)
theorem om24{k n:Nat}(h:k<n):(k:Int)<n:=Int.ofNat_lt.mpr h
theorem om25{k n:Nat}(h:k<=n):(k:Int)<=n:=Int.ofNat_le.mpr h
theorem om26{n:Nat}(h:n<=255):(n:Int)<256:=Int.ofNat_lt.mpr (Nat.lt_succ_of_le h)
theorem om27{n:Nat}(h:0<n):(0:Int)<n:=Int.natCast_pos.mpr h
theorem om28{n:Nat}(h:n<=500):(n:Int)<1000:=Int.ofNat_lt.mpr (Nat.lt_of_le_of_lt h (by decide))
theorem om29{n:Nat}(h:n<=100000):(n:Int)<2 ^ 63:=Int.lt_of_le_of_lt (Int.ofNat_le.mpr h) (by decide)
theorem om30{n:Nat} : -2 ^ 62<=(n:Int):=Int.le_trans (by decide) (Int.natCast_nonneg n)
theorem om31{n:Nat}(h:n<=1000):(n:Int)<2 ^ 62:=Int.lt_of_le_of_lt (Int.ofNat_le.mpr h) (by decide)
theorem om32{k n:Nat}(h:k+1<=n):Int.negSucc k+(n:Int)=((n - (k+1):Nat):Int):=Int.subNatNat_of_le h
theorem om33{k n:Nat}(h:k+1<=n):n - (k+1)=(Int.negSucc k+(n:Int)).toNat:=by rw [om32 h]; rfl
theorem om34{k n:Nat}(h:k+1<=n):(Int.negSucc k+(n:Int)).toNat=n - (k+1):=(om33 h).symm
theorem om35{k n:Nat}(h:k+1<=n):0<=Int.negSucc k+(n:Int):=by rw [om32 h]; exact Int.natCast_nonneg _
theorem om36{k n:Nat}(h:k+1<=n):Int.negSucc k+(n:Int)<n:=by rw [om32 h]; exact Int.ofNat_lt.mpr (Nat.sub_lt (Nat.lt_of_lt_of_le (Nat.succ_pos k) h) (Nat.succ_pos k))
theorem om37{k n:Nat}(h:k+1<=n) : -(n:Int)<=Int.negSucc k:=Int.neg_le_neg (Int.ofNat_le.mpr h)
theorem om38{k:Nat}(h:k<=1000) : -2 ^ 62<=Int.negSucc k:=Int.le_trans (by decide) (Int.neg_le_neg (Int.ofNat_le.mpr (Nat.succ_le_succ h)))
theorem om39{k:Nat}:Int.negSucc k<2 ^ 62:=Int.lt_trans (Int.negSucc_lt_zero k) (by decide)
theorem om40{k:Nat}:Int.negSucc k<0:=Int.negSucc_lt_zero k
theorem om41{i:Int}(h : -2 ^ 62<=i) : -2 ^ 63<=i:=Int.le_trans (by decide) h
theorem om42{i:Int}(h:i<2 ^ 62):i<2 ^ 63:=Int.lt_trans h (by decide)
theorem om44{n:Nat}(h:n<=1000):n<=16777216:=Nat.le_trans h (by decide)
theorem om45{n:Nat}(h:n<=1000):n<=16777216+1:=Nat.le_trans h (by decide)
theorem om49{l v S:Nat}(e:l=v)(q:S=16777216)(h:l<=999):v+1<=S:=by rw [<- e,q]; exact Nat.le_trans (Nat.succ_le_succ h) (by decide)
theorem om51{m j:Nat}(h:m+1<j+1):m<j:=Nat.lt_of_succ_lt_succ h
theorem om52{m j:Nat}(h:m+1<=j+1):m<=j:=Nat.le_of_succ_le_succ h
theorem om53{i m:Nat}(h:i+1<=m):i<=m:=Nat.le_of_succ_le h
theorem om54{m:Nat}(h:m<=0):m=0:=Nat.le_zero.mp h
theorem om55{m:Nat}(h:m<0){p:Prop}:p:=absurd h (Nat.not_lt_zero m)
theorem om57{i j:Nat}(h:i<j)(e:i=j):False:=Nat.ne_of_lt h e
theorem om58{b:Int}(h:0<b)(e:b=0):False:=Int.ne_of_gt h e
theorem om59{b:Int}{p:Prop}(h:0<b/\p)(e:b=0):False:=Int.ne_of_gt h.1 e
theorem om60{i n m:Nat}(h:i+(n+1)=m)(e:u=m):i<u:=e▸h▸Nat.lt_add_of_pos_right (Nat.succ_pos n)
theorem om61{i n m:Nat}(h:i+(n+1)=m):i<m:=h▸Nat.lt_add_of_pos_right (Nat.succ_pos n)
theorem om64{a b c:Nat}(h:a<=b):a<=b+1:=Nat.le_succ_of_le h
theorem om65{a b:Nat}(h:a<=b):a+1<=b+1:=Nat.succ_le_succ h
theorem om68{x:Int}(h:0<=x):x=(x.toNat:Int):=(Int.toNat_of_nonneg h).symm
theorem om69{x:Int}(h:0<=x):0<=x/\x<=(x.toNat:Int):=⟨h,Int.le_of_eq (om68 h)⟩
theorem om70{x:Int}{t:Nat}(h:0<=x)(g:x<t):x.toNat<t:=Int.ofNat_lt.mp (by rw [Int.toNat_of_nonneg h]; exact g)
theorem om71{n b:Nat}(h:n=b):n<=b:=Nat.le_of_eq h
theorem om72{n b:Nat}(h:n=b):b - n=0:=by rw [h]; exact Nat.sub_self b
theorem om73{k n r:Nat}(h:k<n):k<n+r:=Nat.lt_add_right r h
theorem om74{k n b:Nat}(e:n=b)(h:k<b):k<n:=e▸h
theorem om75{k n b:Nat}(e:n=b)(h:k≥b):n<=k:=e▸h
theorem om76{n:Nat}:(0:Nat)+n=n:=Nat.zero_add n
theorem om77{p:Nat}(h:p<300):p<=299:=Nat.le_of_lt_succ h
theorem om79{z a:Int}:z=a+(z + -1 * a):=by rw [Int.neg_one_mul,Int.add_comm z,<- Int.add_assoc,Int.add_right_neg,Int.zero_add]
theorem om80{z j:Int}:z - j=z + -j:=rfl
theorem om81{z:Int}:z=0+z:=(Int.zero_add z).symm
theorem om82{i n:Nat}:(n:Int) - ((i+1:Nat):Int)=n - i - 1:=Int.sub_sub n i 1 |>.symm
theorem om83{j n:Nat}(h:j.succ<=n):(0:Int)<n - j:=Int.sub_pos_of_lt (Int.ofNat_lt.mpr h)
theorem om84{i k n:Nat}(h:i+(k+1)=n):(0:Int)<n - i:=Int.sub_pos_of_lt (Int.ofNat_lt.mpr (om61 h))
theorem om85{n:Nat}(h:n=0):(0:Int)=n:=by rw [h]; rfl
theorem om88{a n:Nat}(h:¬a<=n):min a n=n:=Nat.min_eq_right (om17 h)
theorem om89{u w:Nat}(h:u=w):min u w=u:=Nat.min_eq_left (Nat.le_of_eq h)
theorem om90{j u w:Nat}(h:j<u)(g:j<w):j<min u w:=Nat.lt_min.mpr ⟨h,g⟩
theorem om91{j k:Nat}(a:j % 2=k % 2)(b:j / 2=k / 2):j=k:=by rw [<- Nat.div_add_mod j 2,<- Nat.div_add_mod k 2,a,b]
theorem om92{j k:Nat}(h:k % 2≠0)(g:¬j % 2=0)(n:¬j=k)(b:j / 2=k / 2):False:=n (om91 ((Nat.mod_two_ne_zero.mp g).trans (Nat.mod_two_ne_zero.mp h).symm) b)
theorem om93{j k:Nat}(h:k % 2=0)(g:j % 2=0)(n:¬j=k)(b:j / 2=k / 2):False:=n (om91 (g.trans h.symm) b)
theorem om94{l r:Nat}(h:l<=r - 1)(p:0<r):l+1<=r:=Nat.add_le_of_le_sub p h
theorem om96{p n:Nat}(h:p<=300)(g:n<p):n<300:=Nat.lt_of_lt_of_le g h
theorem om97{i j k:Nat}(h:j - i=k+1):i<j:=Nat.lt_of_sub_pos (h▸Nat.succ_pos k)
theorem om98{f u:Nat}(h:f<=u):f+(u - f)=u:=Nat.add_sub_cancel' h
theorem hide{G:Prop}(h:∀P:Prop,(G->P)->P):G:=h G id
theorem nope{p:Prop}(h:false=true):p:=Bool.noConfusion h
theorem lsp{n m k:Nat}(h:n - m=Nat.succ k):m<n:=Nat.lt_of_sub_pos (h▸Nat.succ_pos k)
theorem odr{p:Prop}[i:Decidable p](h:decide p=true):p:=of_decide_eq_true h
end Internal
namespace Internal.N
noncomputable section
local macro_rules | `(tactic| cases $h:ident)=>`(tactic| first | exact nope $h | fail)
local macro_rules | `(tactic| symm)=>do
 let b:=Lean.mkIdent `bk
 `(tactic| first | refine $b ?_ | refine Internal.hide fun _ $b=>?_)
local macro_rules | `(tactic| obtain $p:rcasesPatMed:=$e)=>do
 let qs:=p.raw[0][0][1].getSepArgs
 if qs.size<2||p.raw[0].getNumArgs != 1 then Lean.Macro.throwUnsupported
 let ps:=qs.map fun r=>⟨.node .none `Lean.Parser.Tactic.rintroPat.one #[r[0][0][0]]⟩
 let c:Lean.Ident:=⟨if e.raw.isIdent then e.raw else e.raw[1].getArgs.back?.getD .missing⟩
 let ts <- (Array.range 7).mapM fun k=>`(tactic| refine $(Lean.mkIdent (.str (.str .anonymous "Internal") s!"el{k}{qs.size - k}")) $e ?_)
 `(tactic| first | ((first $[| $ts:tactic]*); (try clear $c:ident); rintro $[$ps]*) | rcases $e:term with $p:rcasesPatMed)
local macro_rules | `(tactic| lia)=>do
 let ts <- (Array.range 101).mapM fun k=>do
  let i:=Lean.mkIdent (.str (.str .anonymous "Internal") s!"om{k}")
  `(tactic| with_reducible (apply $i <;> assumption))
 `(tactic| first $[| $ts:tactic]* | omega)
section
inductive GI where
 | lit (i:Int)
 | var (k:Nat)
 | add (a b:GI)
 | mul (a b:GI)
 | md (a b:GI)
noncomputable def GI.ev(ns:List Int)(e:GI):Int:=@GI.rec (fun q0=>Int) (fun i=>i) (fun k=>(ns[k]?).getD 0) (fun q0 q0 a b=>a+b) (fun q0 q0 a b=>a * b) (fun q0 q0 a b=>Int.fmod a b) e
def GI.ok(n:Nat)(e:GI):Prop:=@GI.rec (fun q0=>Prop) (fun q0=>True) (fun k=>k<n) (fun q0 q0 a b=>a/\b) (fun q0 q0 a b=>a/\b) (fun q0 q0 a b=>a/\b) e
theorem w7{α β:Type}(f:α->α->β){a b c d:α}(h:a=c)(k:b=d):f a b=f c d:=by rw [h,k]
theorem GI.ev_more{ns ms:List Int}(p:ns <+: ms){e:GI}:e.ok ns.length->e.ok ms.length/\e.ev ms=e.ev ns:=by
 rcases p with ⟨r,rfl⟩
 induction e with
 | lit=>intro _; exact ⟨trivial,rfl⟩
 | var k=>
  intro h
  have lt:k<ns.length:=h
  refine ⟨by show k<_; rw [List.length_append]; lia,?_⟩
  show ((ns++r)[k]?).getD 0=(ns[k]?).getD 0
  rw [List.getElem?_append_left lt]
 | add a b ha hb=>intro h; exact ⟨⟨(ha h.1).1,(hb h.2).1⟩,w7 Int.add (ha h.1).2 (hb h.2).2⟩
 | mul a b ha hb=>intro h; exact ⟨⟨(ha h.1).1,(hb h.2).1⟩,w7 Int.mul (ha h.1).2 (hb h.2).2⟩
 | md a b ha hb=>intro h; exact ⟨⟨(ha h.1).1,(hb h.2).1⟩,w7 Int.fmod (ha h.1).2 (hb h.2).2⟩
inductive GV where
 | nul
 | none
 | bool (b:Bool)
 | int (e:GI)
 | str (x:Nat)
 | byt (l:List GI)
 | old (v:Value)
 | own (k:Nat)
 | unk
inductive nF where
 | none
 | bool (b:Bool)
 | int (i:Int)
 | str (i:Nat)
structure az where
 as:List Addr
 ns:List Int
 ds:Nat->List nF
 it:Addr × Nat
def az.le(J J':az):Prop:=J.as <+: J'.as/\J.ns <+: J'.ns/\J.ds=J'.ds/\J.it=J'.it
theorem az.le.refl(J:az):J.le J:=⟨List.prefix_refl _,List.prefix_refl _,rfl,rfl⟩
theorem az.le.trans{a b c:az}(x:a.le b)(y:b.le c):a.le c:=⟨x.1.trans y.1,x.2.1.trans y.2.1,x.2.2.1.trans y.2.2.1,x.2.2.2.trans y.2.2.2⟩
noncomputable def ik(l:List Int):Array UInt8:=(l.map fun i=>UInt8.ofNat i.toNat).toArray
def Is(T:List Str)(J:az)(g:GV)(v:Value):Prop:=@GV.rec (fun q0=>Prop) False (v=.none) (fun b=>v=.bool b) (fun e=>∃t,v=.int (e.ev J.ns) t/\e.ok J.ns.length) (fun i=>∃x t,v=.str x t/\T[i]?=some x) (fun l=>∃t,v=.bytes (ik (l.map (GI.ev J.ns))) t/\(∀e∈l,e.ok J.ns.length/\0<=e.ev J.ns/\e.ev J.ns<256)) (fun w=>v=w) (fun k=>∃a,v=.ref a/\J.as[k]?=some a) True g
theorem Is.none{T:List Str}{J:az}:Is T J .none .none:=rfl
theorem Is.bool{T:List Str}{J:az}(b:Bool):Is T J (.bool b) (.bool b):=rfl
theorem Is.int{T:List Str}{J:az}{e:GI}(t:Tok)(h:e.ok J.ns.length):Is T J (.int e) (.int (e.ev J.ns) t):=⟨t,rfl,h⟩
theorem Is.str{T:List Str}{J:az}{i:Nat}{x:Str}(t:Tok)(h:T[i]?=some x):Is T J (.str i) (.str x t):=⟨x,t,rfl,h⟩
theorem Is.byt{T:List Str}{J:az}{l:List GI}(t:Tok)(h:∀e∈l,e.ok J.ns.length/\0<=e.ev J.ns/\e.ev J.ns<256):Is T J (.byt l) (.bytes (ik (l.map (GI.ev J.ns))) t):=⟨t,rfl,h⟩
theorem Is.old{T:List Str}{J:az}(v:Value):Is T J (.old v) v:=rfl
theorem Is.own{T:List Str}{J:az}{k:Nat}{a:Addr}(h:J.as[k]?=some a):Is T J (.own k) (.ref a):=⟨a,rfl,h⟩
theorem Is.unk{T:List Str}{J:az}(v:Value):Is T J .unk v:=trivial
theorem Is.inv{T:List Str}{J:az}{g:GV}{v:Value}(h:Is T J g v):Is T J g v:=h
theorem aF{α:Type}{l l':List α}(p:l <+: l'){k:Nat}{a:α}(h:l[k]?=some a):l'[k]?=some a:=by
 obtain ⟨r,rfl⟩:=p
 have lt:k<l.length:=by
  rcases Nat.lt_or_ge k l.length with q | q
  ·exact q
  ·rw [List.getElem?_eq_none q] at h; cases h
 rw [List.getElem?_append_left lt]; exact h
theorem aN{α:Type}{l:List α}{k:Nat}{a:α}(h:l[k]?=some a):k<l.length:=by
 rcases Nat.lt_or_ge k l.length with q | q
 ·exact q
 ·rw [List.getElem?_eq_none q] at h; cases h
section
variable {T:List Str}
theorem Is.more{J J':az}(p:J.le J'){g:GV}{v:Value}(h:Is T J g v):Is T J' g v:=by
 cases g with
 | nul=>exact h
 | none=>exact h
 | bool b=>exact h
 | int e=>
  symm
  obtain ⟨t,q,ok⟩:=h
  obtain ⟨o,e⟩:=(GI.ev_more p.2.1 ok)
  symm
  rw [<- e] at q
  exact ⟨t,q,o⟩
 | str i=>exact h
 | byt l=>
  obtain ⟨t,q,h⟩:=h
  have e:l.map (GI.ev J.ns)=l.map (GI.ev J'.ns):=List.map_congr_left fun x hx=>(GI.ev_more p.2.1 (h x hx).1).2.symm
  rw [e] at q
  refine ⟨t,q,fun x hx=>?_⟩
  obtain ⟨o,e⟩:=(GI.ev_more p.2.1 (h x hx).1)
  rw [e]; exact ⟨o,(h x hx).2⟩
 | old v=>exact h
 | own k=>exact h.imp fun q0=>And.imp_right (aF p.1)
 | unk=>trivial
inductive be (T:List Str) (J:az):List GV->List Value->Prop
 | nil:be T J [] []
 | cons {g:GV} {v:Value} {gs:List GV} {vs:List Value}:Is T J g v->be T J gs vs->be T J (g::gs) (v::vs)
theorem fA{J:az}{g:GV}{gs:List GV}{us:List Value}(h:be T J (g::gs) us):∃v vs,us=v::vs/\Is T J g v/\be T J gs vs:=by
 cases h with
 | cons x y=>exact ⟨_,_,rfl,x,y⟩
theorem nJ{J:az}{us:List Value}(h:be T J [] us):us=[]:=by
 cases h; rfl
theorem be.more{J J':az}(p:J.le J'){gs:List GV}{vs:List Value}(h:be T J gs vs):be T J' gs vs:=by
 induction h with
 | nil=>exact .nil
 | cons x _ ih=>exact .cons (x.more p) ih
theorem be.length{J:az}{gs:List GV}{vs:List Value}(h:be T J gs vs):gs.length=vs.length:=by
 induction h with
 | nil=>rfl
 | cons _ _ ih=>simp only [List.length_cons,ih]
theorem be.append{J:az}{gs hs:List GV}{vs us:List Value}(h:be T J gs vs)(k:be T J hs us):be T J (gs++hs) (vs++us):=by
 induction h with
 | nil=>exact k
 | cons y _ ih=>exact .cons y ih
theorem be.snoc{J:az}{gs:List GV}{vs:List Value}(h:be T J gs vs){g:GV}{v:Value}(x:Is T J g v):be T J (gs++[g]) (vs++[v]):=h.append (.cons x .nil)
theorem be.get{J:az}{gs:List GV}{vs:List Value}(h:be T J gs vs):∀{j:Nat} {g:GV},gs[j]?=some g->∃v,vs[j]?=some v/\Is T J g v:=by
 induction h with
 | nil=>intro j g e; simp at e
 | cons x _ ih=>
  intro j g e
  cases j with
  | zero=>simp only [List.getElem?_cons_zero,Option.some.injEq] at e; subst e; exact ⟨_,rfl,x⟩
  | succ k=>simp only [List.getElem?_cons_succ] at e ⊢; exact ih e
theorem be.reverse{J:az}{gs:List GV}{vs:List Value}(h:be T J gs vs):be T J gs.reverse vs.reverse:=by
 induction h with
 | nil=>exact .nil
 | cons x _ ih=>rw [List.reverse_cons,List.reverse_cons]; exact ih.snoc x
theorem be.drop{J:az}{gs:List GV}{vs:List Value}(h:be T J gs vs):∀n,be T J (gs.drop n) (vs.drop n):=by
 induction h with
 | nil=>intro n; simp; exact .nil
 | cons x r ih=>intro n; cases n with
  | zero=>exact .cons x r
  | succ n=>exact ih n
theorem be.take{J:az}{gs:List GV}{vs:List Value}(h:be T J gs vs):∀n,be T J (gs.take n) (vs.take n):=by
 induction h with
 | nil=>intro n; simp; exact .nil
 | cons x r ih=>intro n; cases n with
  | zero=>exact .nil
  | succ n=>exact .cons x (ih n)
end
inductive GO where
 | junk
 | list (vs:List GV)
 | tuple (vs:List GV)
 | inst (C d:Nat)
 | idict (es:List (Nat × GV))
 | d0
 | di (es:List (Int × GV))
 | ds (es:List (Nat × GV))
 | cell (g:GV)
 | ns (es:List (Nat × GV))
 | liter (src i:Nat)
 | titer (src i:Nat)
 | riter (i n:Nat)
 | pool (o:List (Nat × Nat))
 | rng (n:Nat)
 | flat (k:Nat)
 | oit
 | dm (es:List (Int × GV))
 | exn (C:Nat) (d:GV)
 | exc (C d:Nat)
 | enum (it i:Nat)
 | row (n:Nat) (ss:List Nat)
 | dk (k:Nat) (g:GV)
inductive dy (T:List Str) (nd:Nat) (J:az):List (Nat × GV)->List DictEntry->Prop
 | nil:dy T nd J [] []
 | cons {i:Nat} {x:Str} {g:GV} {e:DictEntry} {t:Tok} {es:List (Nat × GV)} {ds:List DictEntry}:i<nd->T[i]?=some x->e.key=.str x t->Is T J g e.val->dy T nd J es ds->dy T nd J ((i,g)::es) (e::ds)
inductive eT (T:List Str) (J:az):List (Int × GV)->List (Int × Value)->Prop
 | nil:eT T J [] []
 | cons {i:Int} {g:GV} {v:Value} {es:List (Int × GV)} {ds:List (Int × Value)}:Is T J g v->eT T J es ds->eT T J ((i,g)::es) ((i,v)::ds)
inductive gk (T:List Str) (J:az):List (Nat × GV)->List (Str × Value)->Prop
 | nil:gk T J [] []
 | cons {i:Nat} {x:Str} {g:GV} {v:Value} {es:List (Nat × GV)} {ds:List (Str × Value)}:T[i]?=some x->Is T J g v->gk T J es ds->gk T J ((i,g)::es) ((x,v)::ds)
def EY(o:Obj)(m:Str->Option Value):Prop:=∃es ep,o.data=.dict es ep/\StrKeys es/\∀name,nsFind es name=m name
noncomputable def eX(a b:Int)(top:Nat):Nat × Int × Int:=
 if 0<a then ((Int.fmod a top).toNat,Int.fdiv a top,b)
 else let c:=Int.fmod (b * 39373+7) 2147483647; ((Int.fmod (Int.fdiv (Int.fmod (c * c) 2147483629) 32) top).toNat,a,c)
def rh:List (Nat × Nat)->Int->Int->Prop
 | [],_,_=>True
 | (top,d)::r,a,b=>(d=top∨d=top+1∨(eX a b top).1=d)/\rh r (eX a b top).2.1 (eX a b top).2.2
inductive ku (T:List Str):nF->Value->Prop
 | none:ku T .none .none
 | bool (b:Bool):ku T (.bool b) (.bool b)
 | int (i:Int) (t:Tok):ku T (.int i) (.int i t)
 | str {i:Nat} {x:Str} (t:Tok):T[i]?=some x->ku T (.str i) (.str x t)
inductive iY (T:List Str):List nF->List Value->Prop
 | nil:iY T [] []
 | cons {d:nF} {v:Value} {ds:List nF} {vs:List Value}:ku T d v->iY T ds vs->iY T (d::ds) (v::vs)
def DM(T:List Str)(J:az)(es:List (Int × GV))(ds:List (Int × Value)):Prop:=(∀z g,es.lookup z=some g->g=.unk∨∃v,PySem.valueAt ds z=some v/\Is T J g v)/\∀z,es.lookup z=none->PySem.valueAt ds z=none
noncomputable def pB(p:Program)(w:World):Int:=PySem.reduceHash (Builtin.Tuple.tupleHashOf [(PySem.strKind p w).hash (Str.ofString "cell"),(PySem.intKind p w).hash 1,PySem.reduceHash (Builtin.Tuple.tupleHashOf [])])
def aL(T:List Str)(CT:List Addr)(nd:Nat)(pw:Program × World)(J:az)(g:GO)(o:Obj):Prop:=@GO.rec (fun q0=>Prop) True (fun gs=>∃vs n,o=listOf (List.toArray vs) n/\be T J gs vs) (fun gs=>∃vs,o = { cls:=.type "tuple",data:=.seq (List.toArray vs) }/\be T J gs vs)
 (fun C d=>∃cx dx,o=instObj cx dx/\CT[C]?=some cx/\J.as[d]?=some dx) (fun es=>∃ds n,o=dictOf ds n/\dy T nd J es ds) (o.IsDictOf (PySem.intKind pw.1 pw.2) []/\o.IsDictOf (PySem.strKind pw.1 pw.2) [])
 (fun es=>∃ds,o.IsDictOf (PySem.intKind pw.1 pw.2) ds/\eT T J es ds) (fun es=>∃ds,o.IsDictOf (PySem.strKind pw.1 pw.2) ds/\gk T J es ds) (fun g=>(g=.nul/\o.data=.cell none)∨∃v,o.data=.cell (some v)/\Is T J g v)
 (fun es=>∃m,EY o m/\(∀i g,es.lookup i=some g->∃x v,T[i]?=some x/\m x=some v/\Is T J g v)) (fun src i=>∃a,J.as[src]?=some a/\o.cls=.type "list_iterator"/\o.data=.fields #[.ref a,.int i 0]) (fun src i=>∃a,J.as[src]?=some a/\o.cls=.type "tuple_iterator"/\o.data=.fields #[.ref a,.int i 0])
 (fun i n=>o = { cls:=.type "range_iterator",data:=.fields #[rawInt i,rawInt ((n:Int) - i),rawInt 1] }) (fun f=>∃(a b:Int) (n:Nat) (t u:Tok),o=listOf #[.int a t,.int b u] n/\0<=a/\0<=b/\b<2147483647/\rh f a b) (fun n=>∃t u v:Tok,o = { cls:=.type "range",data:=.fields #[.int 0 t,.int n u,.int 1 v] })
 (fun k=>∃vs,o = { cls:=.type "tuple",data:=.seq (List.toArray vs) }/\iY T (J.ds k) vs) (o.cls=.type "list_iterator"/\o.data=.fields #[.ref J.it.1,.int J.it.2 0]) (fun es=>∃ds,o.IsDictOf (PySem.intKind pw.1 pw.2) ds/\DM T J es ds) (fun C d=>∃cx t,some C=some cx/\((d=.none/\o = { cls:=.ref cx,data:=.fields #[.ref t,.none,.none,.none,.bool false,.none] })∨∃dd dx,d=.own dd/\J.as[dd]?=some dx/\o = { cls:=.ref cx,dict:=some dx,data:=.fields #[.ref t,.none,.none,.none,.bool false,.none] }))
 (fun C d=>∃(cx dx:Addr) (r:Array Value),some C=some cx/\J.as[d]?=some dx/\o.cls=.ref cx/\o.dict=some dx/\o.data=.fields r) (fun it i=>∃(a:Addr) (old:Value),o = { cls:=.type "enumerate",dict:=none,data:=.fields #[.none,.bool false,.ref a,rawInt i,.none,old],slots:=#[] }/\J.as[it]?=some a)
 (fun n ss=>∃(i:Nat) (z:Int) (j:Nat) (x:Str) (t u v:Tok),o = { cls:=.type "tuple",data:=.seq #[.int i t,.str x u,.int z v] }/\i<n/\j∈ss/\T[j]?=some x) (fun k g=>∃(a:Addr) (v:Value) (hs:Int) (ep:Nat),J.as[k]?=some a/\Is T J g v/\o.ExactDict/\o.data=.dict #[⟨hs,.ref a,v⟩] ep/\hs=pB pw.1 pw.2) g
theorem aL.list{T:List Str}{CT:List Addr}{nd:Nat}{pw:Program × World}{J:az}{gs:List GV}{vs:List Value}(n:Nat)(h0:be T J gs vs):aL T CT nd pw J (.list gs) (listOf vs.toArray n):=⟨_,n,rfl,h0⟩
theorem aL.tuple{T:List Str}{CT:List Addr}{nd:Nat}{pw:Program × World}{J:az}{gs:List GV}{vs:List Value}(h0:be T J gs vs):aL T CT nd pw J (.tuple gs) { cls:=.type "tuple",data:=.seq vs.toArray }:=⟨_,rfl,h0⟩
theorem aL.inst{T:List Str}{CT:List Addr}{nd:Nat}{pw:Program × World}{J:az}{C d:Nat}{cx dx:Addr}(h0:CT[C]?=some cx)(h1:J.as[d]?=some dx):aL T CT nd pw J (.inst C d) (instObj cx dx):=⟨_,_,rfl,h0,h1⟩
theorem aL.idict{T:List Str}{CT:List Addr}{nd:Nat}{pw:Program × World}{J:az}{es:List (Nat × GV)}{ds:List DictEntry}(n:Nat)(h0:dy T nd J es ds):aL T CT nd pw J (.idict es) (dictOf ds n):=⟨_,n,rfl,h0⟩
theorem aL.d0{T:List Str}{CT:List Addr}{nd:Nat}{pw:Program × World}{J:az}{o:Obj}(h0:o.IsDictOf (PySem.intKind pw.1 pw.2) [])(h1:o.IsDictOf (PySem.strKind pw.1 pw.2) []):aL T CT nd pw J .d0 o:=⟨h0,h1⟩
theorem aL.di{T:List Str}{CT:List Addr}{nd:Nat}{pw:Program × World}{J:az}{es:List (Int × GV)}{ds:List (Int × Value)}{o:Obj}(h0:o.IsDictOf (PySem.intKind pw.1 pw.2) ds)(h1:eT T J es ds):aL T CT nd pw J (.di es) o:=⟨_,h0,h1⟩
theorem aL.ds{T:List Str}{CT:List Addr}{nd:Nat}{pw:Program × World}{J:az}{es:List (Nat × GV)}{ds:List (Str × Value)}{o:Obj}(h0:o.IsDictOf (PySem.strKind pw.1 pw.2) ds)(h1:gk T J es ds):aL T CT nd pw J (.ds es) o:=⟨_,h0,h1⟩
theorem aL.cell0{T:List Str}{CT:List Addr}{nd:Nat}{pw:Program × World}{J:az}{o:Obj}(h0:o.data=.cell none):aL T CT nd pw J (.cell .nul) o:=.inl ⟨rfl,h0⟩
theorem aL.cell{T:List Str}{CT:List Addr}{nd:Nat}{pw:Program × World}{J:az}{g:GV}{v:Value}{o:Obj}(h0:o.data=.cell (some v))(h1:Is T J g v):aL T CT nd pw J (.cell g) o:=.inr ⟨_,h0,h1⟩
theorem aL.ns{T:List Str}{CT:List Addr}{nd:Nat}{pw:Program × World}{J:az}{es:List (Nat × GV)}{o:Obj}{m:Str->Option Value}(h0:EY o m)(h1:(∀i g,es.lookup i=some g->∃x v,T[i]?=some x/\m x=some v/\Is T J g v)):aL T CT nd pw J (.ns es) o:=⟨_,h0,h1⟩
theorem aL.liter{T:List Str}{CT:List Addr}{nd:Nat}{pw:Program × World}{J:az}{src i:Nat}{a:Addr}{o:Obj}(h0:J.as[src]?=some a)(h1:o.cls=.type "list_iterator")(h2:o.data=.fields #[.ref a,.int i 0]):aL T CT nd pw J (.liter src i) o:=⟨_,h0,h1,h2⟩
theorem aL.riter{T:List Str}{CT:List Addr}{nd:Nat}{pw:Program × World}{J:az}{i n:Nat}{o:Obj}(h0:o = { cls:=.type "range_iterator",data:=.fields #[rawInt i,rawInt ((n:Int) - i),rawInt 1] }):aL T CT nd pw J (.riter i n) o:=h0
theorem aL.pool{T:List Str}{CT:List Addr}{nd:Nat}{pw:Program × World}{J:az}{f:List (Nat × Nat)}{a b:Int}(n:Nat)(t u:Tok)(h0:0<=a)(h1:0<=b)(h2:b<2147483647)(h3:rh f a b):aL T CT nd pw J (.pool f) (listOf #[.int a t,.int b u] n):=⟨_,_,n,t,u,rfl,h0,h1,h2,h3⟩
theorem aL.rng{T:List Str}{CT:List Addr}{nd:Nat}{pw:Program × World}{J:az}{n:Nat}{o:Obj}(t u v:Tok)(h0:o = { cls:=.type "range",data:=.fields #[.int 0 t,.int n u,.int 1 v] }):aL T CT nd pw J (.rng n) o:=⟨t,u,v,h0⟩
theorem aL.flat{T:List Str}{CT:List Addr}{nd:Nat}{pw:Program × World}{J:az}{k:Nat}{vs:List Value}(h0:iY T (J.ds k) vs):aL T CT nd pw J (.flat k) { cls:=.type "tuple",data:=.seq vs.toArray }:=⟨_,rfl,h0⟩
theorem aL.dm{T:List Str}{CT:List Addr}{nd:Nat}{pw:Program × World}{J:az}{es:List (Int × GV)}{ds:List (Int × Value)}{o:Obj}(h0:o.IsDictOf (PySem.intKind pw.1 pw.2) ds)(h1:DM T J es ds):aL T CT nd pw J (.dm es) o:=⟨_,h0,h1⟩
theorem aL.oit{T:List Str}{CT:List Addr}{nd:Nat}{pw:Program × World}{J:az}{o:Obj}(h0:o.cls=.type "list_iterator")(h1:o.data=.fields #[.ref J.it.1,.int J.it.2 0]):aL T CT nd pw J .oit o:=⟨h0,h1⟩
theorem aL.exn0{T:List Str}{CT:List Addr}{nd:Nat}{pw:Program × World}{J:az}{C:Nat}{cx t:Addr}(h0:some C=some cx):aL T CT nd pw J (.exn C .none) { cls:=.ref cx,data:=.fields #[.ref t,.none,.none,.none,.bool false,.none] }:=⟨_,_,h0,.inl ⟨rfl,rfl⟩⟩
theorem aL.exn{T:List Str}{CT:List Addr}{nd:Nat}{pw:Program × World}{J:az}{C d:Nat}{cx dx t:Addr}(h0:some C=some cx)(h1:J.as[d]?=some dx):aL T CT nd pw J (.exn C (.own d)) { cls:=.ref cx,dict:=some dx,data:=.fields #[.ref t,.none,.none,.none,.bool false,.none] }:=⟨_,_,h0,.inr ⟨_,_,rfl,h1,rfl⟩⟩
theorem aL.exc{T:List Str}{CT:List Addr}{nd:Nat}{pw:Program × World}{J:az}{C d:Nat}{cx dx:Addr}{o:Obj}{r:Array Value}(h0:some C=some cx)(h1:J.as[d]?=some dx)(h2:o.cls=.ref cx)(h3:o.dict=some dx)(h4:o.data=.fields r):aL T CT nd pw J (.exc C d) o:=⟨_,_,_,h0,h1,h2,h3,h4⟩
theorem aL.enum{T:List Str}{CT:List Addr}{nd:Nat}{pw:Program × World}{J:az}{it i:Nat}{a:Addr}(old:Value)(h0:J.as[it]?=some a):aL T CT nd pw J (.enum it i) { cls:=.type "enumerate",dict:=none,data:=.fields #[.none,.bool false,.ref a,rawInt i,.none,old],slots:=#[] }:=⟨_,old,rfl,h0⟩
theorem aL.row{T:List Str}{CT:List Addr}{nd:Nat}{pw:Program × World}{J:az}{n i:Nat}{ss:List Nat}{z:Int}{j:Nat}{x:Str}(t u v:Tok)(h0:i<n)(h1:j∈ss)(h2:T[j]?=some x):aL T CT nd pw J (.row n ss) { cls:=.type "tuple",data:=.seq #[.int i t,.str x u,.int z v] }:=⟨_,_,_,_,t,u,v,rfl,h0,h1,h2⟩
theorem aL.dk{T:List Str}{CT:List Addr}{nd:Nat}{pw:Program × World}{J:az}{k:Nat}{g:GV}{a:Addr}{v:Value}{o:Obj}{hs:Int}{ep:Nat}(h0:J.as[k]?=some a)(h1:Is T J g v)(h2:o.ExactDict)(h3:o.data=.dict #[⟨hs,.ref a,v⟩] ep)(h4:hs=pB pw.1 pw.2):aL T CT nd pw J (.dk k g) o:=⟨_,_,_,_,h0,h1,h2,h3,h4⟩
theorem aL.junk{T:List Str}{CT:List Addr}{nd:Nat}{pw:Program × World}{J:az}(o:Obj):aL T CT nd pw J .junk o:=trivial
theorem aL.inv{T:List Str}{CT:List Addr}{nd:Nat}{pw:Program × World}{J:az}{g:GO}{o:Obj}(h:aL T CT nd pw J g o):aL T CT nd pw J g o:=h
theorem aL.exn0_inv{T:List Str}{CT:List Addr}{nd:Nat}{pw:Program × World}{J:az}{C:Nat}{o:Obj}(h:aL T CT nd pw J (.exn C .none) o):∃cx t,some C=some cx/\o = { cls:=.ref cx,data:=.fields #[.ref t,.none,.none,.none,.bool false,.none] }:=by
 symm
 obtain ⟨cx,t,e,k⟩:=h
 symm
 rcases k with ⟨_,k⟩ | ⟨_,_,q,_⟩
 ·exact ⟨cx,t,e,k⟩
 ·cases q
theorem aL.exn_inv{T:List Str}{CT:List Addr}{nd:Nat}{pw:Program × World}{J:az}{C d:Nat}{o:Obj}(h:aL T CT nd pw J (.exn C (.own d)) o):∃cx dx t,some C=some cx/\J.as[d]?=some dx/\o = { cls:=.ref cx,dict:=some dx,data:=.fields #[.ref t,.none,.none,.none,.bool false,.none] }:=by
 symm
 obtain ⟨cx,t,e,k⟩:=h
 symm
 rcases k with ⟨q,_⟩ | ⟨_,dx,q,x,k⟩
 ·cases q
 ·cases q; exact ⟨cx,dx,t,e,x,k⟩
section
variable {T:List Str} {CT:List Addr} {nd:Nat} {pw:Program × World}
theorem dy.more{J J':az}(p:J.le J'){es:List (Nat × GV)}{ds:List DictEntry}(h:dy T nd J es ds):dy T nd J' es ds:=by
 induction h with
 | nil=>exact .nil
 | cons l t a b _ ih=>exact .cons l t a (b.more p) ih
theorem eT.more{J J':az}(p:J.le J'){es:List (Int × GV)}{ds:List (Int × Value)}(h:eT T J es ds):eT T J' es ds:=by
 induction h with
 | nil=>exact .nil
 | cons a _ ih=>exact .cons (a.more p) ih
theorem gk.more{J J':az}(p:J.le J'){es:List (Nat × GV)}{ds:List (Str × Value)}(h:gk T J es ds):gk T J' es ds:=by
 induction h with
 | nil=>exact .nil
 | cons a b _ ih=>exact .cons a (b.more p) ih
theorem aL.more{J J':az}(p:J.le J'){g:GO}{o:Obj}(h:aL T CT nd pw J g o):aL T CT nd pw J' g o:=by
 cases g with
 | list gs=>exact h.imp fun q0=>Exists.imp fun q0=>And.imp_right fun x=>x.more p
 | tuple gs=>exact h.imp fun q0=>And.imp_right fun x=>x.more p
 | inst C d=>exact h.imp fun q0=>Exists.imp fun q0=>And.imp_right (And.imp_right (aF p.1))
 | idict es=>exact h.imp fun q0=>Exists.imp fun q0=>And.imp_right fun x=>x.more p
 | d0=>exact h
 | di es=>exact h.imp fun q0=>And.imp_right fun x=>x.more p
 | ds es=>exact h.imp fun q0=>And.imp_right fun x=>x.more p
 | cell g=>exact h.imp id (Exists.imp fun q0=>And.imp_right fun x=>x.more p)
 | ns es=>exact h.imp fun q0=>And.imp_right fun k i g e=>(k i g e).imp fun q0=>Exists.imp fun q0=>And.imp_right (And.imp_right fun x=>x.more p)
 | liter s i=>exact h.imp fun q0=>And.imp_left (aF p.1)
 | titer s i=>exact h.imp fun q0=>And.imp_left (aF p.1)
 | riter i n=>exact h
 | pool f=>exact h
 | rng n=>exact h
 | flat k=>
  obtain ⟨vs,e,x⟩:=h
  rw [p.2.2.1] at x
  exact ⟨vs,e,x⟩
 | oit=>
  obtain ⟨x,y⟩:=h
  rw [p.2.2.2] at y
  exact ⟨x,y⟩
 | dm es=>exact h.imp fun q0=>And.imp_right (And.imp_left fun k z g e=>(k z g e).imp id (Exists.imp fun q0=>And.imp_right fun x=>x.more p))
 | exn C d=>exact h.imp fun q0=>Exists.imp fun q0=>And.imp_right (Or.imp id (Exists.imp fun q0=>Exists.imp fun q0=>And.imp_right (And.imp_left (aF p.1))))
 | exc C d=>exact h.imp fun q0=>Exists.imp fun q0=>Exists.imp fun q0=>And.imp_right (And.imp_left (aF p.1))
 | enum it i=>exact h.imp fun q0=>Exists.imp fun q0=>And.imp_right (aF p.1)
 | row n ss=>exact h
 | dk k g=>exact h.imp fun q0=>Exists.imp fun q0=>Exists.imp fun q0=>Exists.imp fun q0=>And.imp (aF p.1) (And.imp_left fun x=>x.more p)
 | junk=>trivial
end
inductive Tr where
 | e
 | n (l:Tr) (o:GO) (r:Tr)
noncomputable def Tr.get(t:Tr):Nat->GO:=@Tr.rec (fun q0=>Nat->GO) (fun q0=>.junk) (fun q0 o q0 il ir k=>
  @Bool.rec (fun q0=>GO) (@Bool.rec (fun q0=>GO) (il (Nat.div k 2)) (ir (Nat.div k 2)) (Nat.beq (Nat.mod k 2) 0)) o (Nat.beq k 0)) t
noncomputable def Tr.set(f:Nat):Tr->Nat->GO->(Tr->Bool)->Bool:=@Nat.rec (fun q0=>Tr->Nat->GO->(Tr->Bool)->Bool) (fun q0 q0 q0 q0=>false) (fun q0 ih t k v c=>
 @Tr.rec (fun q0=>Bool)
  (@Bool.rec (fun q0=>Bool) (@Bool.rec (fun q0=>Bool) (ih .e (Nat.div k 2) v fun l=>c (.n l .junk .e)) (ih .e (Nat.div k 2) v fun r=>c (.n .e .junk r)) (Nat.beq (Nat.mod k 2) 0)) (c (.n .e v .e)) (Nat.beq k 0))
  (fun l o r q0 q0=>@Bool.rec (fun q0=>Bool) (@Bool.rec (fun q0=>Bool) (ih l (Nat.div k 2) v fun l=>c (.n l o r)) (ih r (Nat.div k 2) v fun r=>c (.n l o r)) (Nat.beq (Nat.mod k 2) 0)) (c (.n l v r)) (Nat.beq k 0)) t) f
def At(H H':Tr)(k:Nat)(g:GO):Prop:=∀j,H'.get j=if j=k then g else H.get j
theorem Tr.get_e(k:Nat):Tr.e.get k=.junk:=rfl
theorem Tr.get_n(l:Tr)(o:GO)(r:Tr)(k:Nat):(Tr.n l o r).get k=if k=0 then o else if k % 2=0 then r.get (k / 2) else l.get (k / 2):=by
 show @Bool.rec (fun q0=>GO) (@Bool.rec (fun q0=>GO) (l.get (k / 2)) (r.get (k / 2)) (Nat.beq (k % 2) 0)) o (Nat.beq k 0)=_
 cases h:Nat.beq k 0 with
 | true=>rw [if_pos (Nat.eq_of_beq_eq_true h)]
 | false=>
  rw [if_neg (Nat.ne_of_beq_eq_false h)]
  cases h2:Nat.beq (k % 2) 0 with
  | true=>rw [if_pos (Nat.eq_of_beq_eq_true h2)]
  | false=>rw [if_neg (Nat.ne_of_beq_eq_false h2)]
theorem GA(l:Tr)(o:GO)(r:Tr)(v:GO):At (.n l o r) (.n l v r) 0 v:=by
 intro j; rw [Tr.get_n,Tr.get_n]
 by_cases h:j=0 <;> simp [h]
theorem GS{l l':Tr}{o:GO}{r:Tr}{k:Nat}{v:GO}(h0:k≠0)(h2:k % 2≠0)(h:At l l' (k / 2) v):At (.n l o r) (.n l' o r) k v:=by
 intro j; rw [Tr.get_n,Tr.get_n]
 by_cases e:j=k
 ·subst e; rw [if_neg h0,if_neg h2,h,if_pos rfl,if_pos rfl]
 ·rw [if_neg e]
  by_cases a:j=0
  ·rw [if_pos a,if_pos a]
  ·rw [if_neg a,if_neg a]
   by_cases b:j % 2=0
   ·rw [if_pos b,if_pos b]
   ·rw [if_neg b,if_neg b,h,if_neg (by lia)]
theorem Cf{l r r':Tr}{o:GO}{k:Nat}{v:GO}(h0:k≠0)(h2:k % 2=0)(h:At r r' (k / 2) v):At (.n l o r) (.n l o r') k v:=by
 intro j; rw [Tr.get_n,Tr.get_n]
 by_cases e:j=k
 ·subst e; rw [if_neg h0,if_pos h2,h,if_pos rfl,if_pos rfl]
 ·rw [if_neg e]
  by_cases a:j=0
  ·rw [if_pos a,if_pos a]
  ·rw [if_neg a,if_neg a]
   by_cases b:j % 2=0
   ·rw [if_pos b,if_pos b,h,if_neg (by lia)]
   ·rw [if_neg b,if_neg b]
theorem acr{t':Tr}{k:Nat}{v:GO}(h:At (.n .e .junk .e) t' k v):At .e t' k v:=by
 intro j; rw [h,Tr.get_n,Tr.get_e]
 by_cases e:j=k
 ·rw [if_pos e,if_pos e]
 ·rw [if_neg e,if_neg e]
  by_cases a:j=0
  ·rw [if_pos a]; rfl
  ·rw [if_neg a]
   split <;> rfl
theorem Tr.set_ok:∀(f:Nat) (t:Tr) (k:Nat) (v:GO) (c:Tr->Bool),t.set f k v c=true->∃t',At t t' k v/\c t'=true
 | 0,_,_,_,_,h=>by cases h
 | f+1,t,k,v,c,h=>by
  have go:∀l o r,@Bool.rec (fun q0=>Bool) (@Bool.rec (fun q0=>Bool) (l.set f (Nat.div k 2) v fun l=>c (.n l o r)) (r.set f (Nat.div k 2) v fun r=>c (.n l o r)) (Nat.beq (Nat.mod k 2) 0)) (c (.n l v r)) (Nat.beq k 0)=true->
    ∃t',At (.n l o r) t' k v/\c t'=true:=by
   intro l o r h
   cases h0:Nat.beq k 0 with
   | true=>
    rw [h0] at h
    have:=Nat.eq_of_beq_eq_true h0
    subst this
    exact ⟨_,GA l o r v,h⟩
   | false=>
    rw [h0] at h
    have n0:=Nat.ne_of_beq_eq_false h0
    cases h2:Nat.beq (Nat.mod k 2) 0 with
    | true=>
     rw [h2] at h
     obtain ⟨t',a,b⟩:=Tr.set_ok f _ _ _ _ h
     exact ⟨_,Cf n0 (Nat.eq_of_beq_eq_true h2) a,b⟩
    | false=>
     rw [h2] at h
     obtain ⟨t',a,b⟩:=Tr.set_ok f _ _ _ _ h
     exact ⟨_,GS n0 (Nat.ne_of_beq_eq_false h2) a,b⟩
  cases t with
  | e=>
   obtain ⟨t',a,b⟩:=(go .e .junk .e h)
   exact ⟨t',acr a,b⟩
  | n l o r=>exact go l o r h
theorem cn{as:List Addr}{os:List Obj}:∀{k:Nat} {a:Addr} {o:Obj},as[k]?=some a->os[k]?=some o->(a,o)∈as.zip os:=by
 intro k a o h1 h2
 have:(as.zip os)[k]?=some (a,o):=by rw [List.getElem?_zip_eq_some]; exact ⟨h1,h2⟩
 exact List.mem_of_getElem? this
theorem ey{a:Addr}{o o':Obj}:∀{as:List Addr} {os:List Obj} {k:Nat},as.Nodup->as[k]?=some a->os[k]?=some o->Upd a o o' (as.zip os) (as.zip (os.set k o'))
 | [],_,_,_,h,_=>by simp at h
 | _::_,[],_,_,_,h=>by simp at h
 | b::as,p::os,0,nd,h1,h2=>by
  simp only [List.getElem?_cons_zero,Option.some.injEq] at h1 h2
  subst h1 h2
  refine .head fun q hq e=>?_
  have:=(List.of_mem_zip (a:=q.1) (b:=q.2) hq).1
  rw [e] at this
  exact (List.nodup_cons.mp nd).1 this
 | b::as,p::os,k+1,nd,h1,h2=>by
  simp only [List.getElem?_cons_succ] at h1 h2
  refine .tail (fun e=>?_) (ey (List.nodup_cons.mp nd).2 h1 h2)
  have e:b=a:=e
  subst e
  exact (List.nodup_cons.mp nd).1 (List.mem_of_getElem? h1)
theorem nR{as:List Addr}{os:List Obj}{D:Addr}{o:Obj}(l:as.length=os.length):(as++[D]).zip (os++[o])=as.zip os++[(D,o)]:=by
 rw [List.zip_append l]; rfl
theorem Ae{O h:Heap}{L D:Addr}{o:Obj}{as:List Addr}{os:List Obj}(l:as.length=os.length)(N:News O L h ((D,o)::as.zip os)):News O L h ((as++[D]).zip (os++[o])):=by
 rw [nR l]
 intro p hp
 rcases List.mem_append.mp hp with q | q
 ·exact N p (.tail _ q)
 ·rw [List.mem_singleton.mp q]; exact N _ (.head _)
theorem pF{as:List Addr}{os:List Obj}{D:Addr}(l:as.length=os.length)(nd:as.Nodup)(h:∀p∈as.zip os,p.1<D):(as++[D]).Nodup:=by
 refine List.nodup_append.mpr ⟨nd,by simp,fun a ha b hb e=>?_⟩
 rw [List.mem_singleton.mp hb] at e
 subst e
 obtain ⟨k,hk⟩:=(List.mem_iff_getElem?.mp ha)
 have:=h _ (cn hk (List.getElem?_eq_getElem (l▸aN hk)))
 exact Nat.lt_irrefl _ this
section
variable {T:List Str} {CT:List Addr} {nd:Nat} {pw:Program × World}
structure gT (T:List Str) (CT:List Addr) (nd:Nat) (pw:Program × World) (J:az) (H:Tr) (O:Heap) (L:Addr) (h:Heap):Prop where
 nod:J.as.Nodup
 at_:∃os,(∀k o,os[k]?=some o->aL T CT nd pw J (H.get k) o)/\J.as.length=os.length/\News O L h (J.as.zip os)
noncomputable def az.push(J:az)(D:Addr):az:=⟨J.as++[D],J.ns,J.ds,J.it⟩
theorem az.le_push(J:az)(D:Addr):J.le (J.push D):=⟨List.prefix_append _ _,List.prefix_refl _,rfl,rfl⟩
theorem eE(J:az)(D:Addr):(J.push D).as[J.as.length]?=some D:=by simp [az.push]
theorem gT.push{J:az}{H H':Tr}{O h':Heap}{L D:Addr}{o:Obj}{g:GO}{os:List Obj}(ho:∀k o,os[k]?=some o->aL T CT nd pw J (H.get k) o)(l:J.as.length=os.length)(hnd:J.as.Nodup)
  (N:News O L h' ((D,o)::J.as.zip os)) (lt:∀p∈J.as.zip os,p.1<D) (hg:aL T CT nd pw (J.push D) g o) (a:At H H' J.as.length g):gT T CT nd pw (J.push D) H' O L h':=by
 refine ⟨pF l hnd lt,os++[o],fun k x hk=>?_,by simp [az.push,l],Ae l N⟩
 rw [a]
 by_cases e:k=J.as.length
 ·subst e
  rw [l,List.getElem?_concat_length] at hk
  cases hk
  rw [if_pos rfl]; exact hg
 ·rw [if_neg e]
  have lt:k<os.length:=by
   have:=aN hk
   rw [List.length_append,List.length_singleton] at this
   lia
  rw [List.getElem?_append_left lt] at hk
  exact (ho k x hk).more (J.le_push D)
theorem gT.obj{J:az}{H:Tr}{O h:Heap}{L:Addr}(l:gT T CT nd pw J H O L h){k:Nat}{a:Addr}(ha:J.as[k]?=some a):∃o,h.get? a=some o/\a≠L/\O.get? a=none/\aL T CT nd pw J (H.get k) o:=by
 symm
 obtain ⟨q0,os,ho,e,N⟩:=l
 symm
 have lt:k<os.length:=e▸aN ha
 have h1:=List.getElem?_eq_getElem lt
 have z:=N _ (cn ha h1)
 exact ⟨_,z.1,z.2.1,z.2.2,ho _ _ h1⟩
theorem gT.upd{J:az}{H H':Tr}{O h h':Heap}{L a:Addr}(l:gT T CT nd pw J H O L h){k:Nat}{g:GO}{o':Obj}(ha:J.as[k]?=some a)(hs:Heap.SameBut a h h')(ho:h'.get? a=some o')(hg:aL T CT nd pw J g o')(hA:At H H' k g) :
  gT T CT nd pw J H' O L h':=by
 symm
 obtain ⟨nd',os,hos,e,N⟩:=l
 have lt:k<os.length:=e▸aN ha
 obtain ⟨pre,post,e1,e2,p1,p2⟩:=(ey (o':=o') nd' ha (List.getElem?_eq_getElem lt)).split
 symm
 refine ⟨nd',os.set k o',fun j x hj=>?_,by rw [List.length_set]; exact e,?_⟩
 ·rw [hA]
  by_cases q:j=k
  ·subst q
   rw [List.getElem?_set_self lt] at hj
   cases hj
   rw [if_pos rfl]; exact hg
  ·rw [if_neg q]
   rw [List.getElem?_set_ne (Ne.symm q)] at hj
   exact hos _ _ hj
 ·rw [e2]
  rw [e1] at N
  exact news_set N p1 p2 hs ho
theorem gT.set{J:az}{H H':Tr}{O h':Heap}{L a:Addr}{os:List Obj}(hnd:J.as.Nodup)(hos:∀k o,os[k]?=some o->aL T CT nd pw J (H.get k) o)(e:J.as.length=os.length){k:Nat}{g:GO}{o':Obj}
  (ha:J.as[k]?=some a) (N':News O L h' (J.as.zip (os.set k o'))) (hg:aL T CT nd pw J g o') (hA:At H H' k g):gT T CT nd pw J H' O L h':=by
 have lt:k<os.length:=e▸aN ha
 refine ⟨hnd,os.set k o',fun j x hj=>?_,by rw [List.length_set]; exact e,N'⟩
 rw [hA]
 by_cases q:j=k
 ·subst q
  rw [List.getElem?_set_self lt] at hj
  cases hj
  rw [if_pos rfl]; exact hg
 ·rw [if_neg q]
  rw [List.getElem?_set_ne (Ne.symm q)] at hj
  exact hos _ _ hj
theorem gT.keep{J:az}{H:Tr}{O h h':Heap}{L:Addr}(l:gT T CT nd pw J H O L h)(k:∀a∈J.as,h'.get? a=h.get? a):gT T CT nd pw J H O L h':=by
 symm
 obtain ⟨nd',os,hos,e,N⟩:=l
 symm
 refine ⟨nd',os,hos,e,fun p hp=>?_⟩
 have:=N p hp
 exact ⟨(k _ (List.of_mem_zip (a:=p.1) (b:=p.2) hp).1).trans this.1,this.2⟩
theorem gT.notL{J:az}{H:Tr}{O h:Heap}{L:Addr}(l:gT T CT nd pw J H O L h):L∉J.as:=fun q=>by
 obtain ⟨k,hk⟩:=(List.mem_iff_getElem?.mp q)
 obtain ⟨q0,q0,ne,q0⟩:=(l.obj hk)
 exact ne rfl
end
end
section
def cV(i j:Int):Bool:=@Int.rec (fun q0=>Bool) (fun a=>@Int.rec (fun q0=>Bool) (fun b=>Nat.beq a b) (fun q0=>false) j) (fun a=>@Int.rec (fun q0=>Bool) (fun q0=>false) (fun b=>Nat.beq a b) j) i
def kK(i j:Int):Bool:=@Int.rec (fun q0=>Bool) (fun a=>@Int.rec (fun q0=>Bool) (fun b=>Nat.ble (Nat.succ a) b) (fun q0=>false) j) (fun a=>@Int.rec (fun q0=>Bool) (fun q0=>true) (fun b=>Nat.ble (Nat.succ b) a) j) i
theorem cv{i j:Int}{c:Bool}(h:cV i j=c):(i == j)=c:=by
 subst h
 rw [Bool.eq_iff_iff,beq_iff_eq]
 cases i with
 | ofNat a=>cases j with
  | ofNat b=>show _↔Nat.beq a b=true; rw [Nat.beq_eq]; exact ⟨fun e=>by cases e; rfl,fun e=>by rw [e]⟩
  | negSucc b=>exact ⟨(fun e=>nomatch e),(fun e=>nomatch e)⟩
 | negSucc a=>cases j with
  | ofNat b=>exact ⟨(fun e=>nomatch e),(fun e=>nomatch e)⟩
  | negSucc b=>show _↔Nat.beq a b=true; rw [Nat.beq_eq]; exact ⟨fun e=>by cases e; rfl,fun e=>by rw [e]⟩
theorem j9{i j:Int}{c:Bool}(h:kK i j=c):decide (i<j)=c:=by
 subst h
 rw [Bool.eq_iff_iff,decide_eq_true_iff]
 cases i with
 | ofNat a=>cases j with
  | ofNat b=>show Int.ofNat a<Int.ofNat b↔Nat.ble (a+1) b=true; rw [Nat.ble_eq]; simp; lia
  | negSucc b=>show Int.ofNat a<Int.negSucc b↔false=true; simp only [Int.negSucc_eq,Int.ofNat_eq_natCast]; constructor <;> intro h <;> first | lia | cases h
 | negSucc a=>cases j with
  | ofNat b=>show Int.negSucc a<Int.ofNat b↔true=true; simp only [Int.negSucc_eq,Int.ofNat_eq_natCast]; exact ⟨(fun q0=>by trivial),(fun q0=>by lia)⟩
  | negSucc b=>show Int.negSucc a<Int.negSucc b↔Nat.ble (b+1) a=true; rw [Nat.ble_eq]; simp only [Int.negSucc_eq]; lia
def AU(fl:Int->Bool)(fv:Nat->Bool)(fa fm fd:GI->GI->Bool)(e:GI):Bool:=@GI.rec (fun q0=>Bool) fl fv (fun a b q0 q0=>fa a b) (fun a b q0 q0=>fm a b) (fun a b q0 q0=>fd a b) e
def l5(_ _:GI):Bool:=false
def GI.beq(a:GI):GI->Bool:=@GI.rec (fun q0=>GI->Bool) (fun i=>AU (cV i) (fun q0=>false) l5 l5 l5) (fun k=>AU (fun q0=>false) (Nat.beq k) l5 l5 l5)
 (fun q0 q0 x y=>AU (fun q0=>false) (fun q0=>false) (fun c d=>x c&&y d) l5 l5) (fun q0 q0 x y=>AU (fun q0=>false) (fun q0=>false) l5 (fun c d=>x c&&y d) l5) (fun q0 q0 x y=>AU (fun q0=>false) (fun q0=>false) l5 l5 fun c d=>x c&&y d) a
theorem GI.beq_eq{a:GI}:∀{b:GI},a.beq b=true->a=b:=by
 induction a with
 | lit i=>intro b h; cases b <;> first | exact congrArg GI.lit (eq_of_beq (cv h)) | cases h
 | var k=>intro b h; cases b <;> first | exact congrArg GI.var (Nat.eq_of_beq_eq_true h) | cases h
 | add x y hx hy=>intro b h; cases b <;> first | exact w7 GI.add (hx (Bool.and_eq_true_iff.mp h).1) (hy (Bool.and_eq_true_iff.mp h).2) | cases h
 | mul x y hx hy=>intro b h; cases b <;> first | exact w7 GI.mul (hx (Bool.and_eq_true_iff.mp h).1) (hy (Bool.and_eq_true_iff.mp h).2) | cases h
 | md x y hx hy=>intro b h; cases b <;> first | exact w7 GI.md (hx (Bool.and_eq_true_iff.mp h).1) (hy (Bool.and_eq_true_iff.mp h).2) | cases h
abbrev eZ:=List (Int × Int)
inductive Rn where
 | mk (bnd:eZ) (eqs:List (Nat × Nat × Bool))
noncomputable def Rn.bnd:Rn->eZ | .mk b _=>b
noncomputable def Rn.eqs:Rn->List (Nat × Nat × Bool) | .mk _ e=>e
def gC(rs:eZ)(ns:List Int):Prop:=∀(k:Nat) (b:Int × Int),rs[k]?=some b->∃i,ns[k]?=some i/\b.1<=i/\i<=b.2
noncomputable def my(ns:List Int)(k:Nat):Int:=(ns[k]?).getD 0
structure dh (R:Rn) (ns:List Int):Prop where
 bnd:gC R.bnd ns
 len:ns.length=R.bnd.length
 eqs:∀i j b,(i,j,b)∈R.eqs->(my ns i == my ns j)=b
def Pe(i:Int):Int:=@Int.rec (fun q0=>Int) (fun m=>@Nat.rec (fun q0=>Int) (.negSucc 0) (fun m q0=>.ofNat m) m) (fun m=>.negSucc (Nat.succ m)) i
def vB(i j:Int):Int:=@Int.rec (fun q0=>Int) (fun n=>Int.add i (.ofNat n)) (fun n=>@Nat.rec (fun q0=>Int) (Pe i) (fun n q0=>Int.add i (.negSucc (Nat.succ n))) n) j
theorem FV(i:Int):Pe i=i + -1:=by
 cases i with
 | ofNat m=>cases m with
  | zero=>rfl
  | succ m=>show (m:Int)=((m+1:Nat):Int) + -1; lia
 | negSucc m=>show Int.negSucc (m+1)=Int.negSucc m + -1; simp only [Int.negSucc_eq]; lia
theorem wK(i j:Int):vB i j=i+j:=by
 cases j with
 | ofNat n=>rfl
 | negSucc n=>cases n with
  | zero=>exact FV i
  | succ n=>rfl
abbrev OI:=Option (Int × Int)
def DV(x:OI)(f:Int × Int->OI):OI:=@Option.rec _ (fun q0=>OI) none f x
theorem uX{x:OI}{f:Int × Int->OI}{b:Int × Int}(h:DV x f=some b):∃a,x=some a/\f a=some b:=by
 cases x with
 | none=>cases h
 | some a=>exact ⟨a,rfl,h⟩
def PG(e:GI)(f:Int->OI):OI:=@GI.rec (fun q0=>OI) f (fun q0=>none) (fun q0 q0 q0 q0=>none) (fun q0 q0 q0 q0=>none) (fun q0 q0 q0 q0=>none) e
theorem An{e:GI}{f:Int->OI}{b:Int × Int}(h:PG e f=some b):∃i,e=.lit i/\f i=some b:=by
 cases e <;> first | exact ⟨_,rfl,h⟩ | cases h
def GI.iv(rs:eZ)(e:GI):OI:=@GI.rec (fun q0=>OI) (fun i=>some (i,i)) (fun k=>rs[k]?) (fun q0 q0 x y=>DV x fun x=>DV y fun y=>some (vB x.1 y.1,vB x.2 y.2))
 (fun a q0 q0 y=>PG a fun c=>if 0<=c then DV y fun y=>some (c * y.1,c * y.2) else none) (fun q0 b q0 q0=>PG b fun c=>if 0<c then some (0,c - 1) else none) e
theorem WS{p:Prop}[Decidable p]{x:OI}{b:Int × Int}(h:(if p then x else none)=some b):p/\x=some b:=by
 by_cases q:p
 ·rw [if_pos q] at h; exact ⟨q,h⟩
 ·rw [if_neg q] at h; cases h
theorem GI.iv_ok{rs:eZ}{ns:List Int}(W:gC rs ns){e:GI}:∀{b:Int × Int},e.iv rs=some b->b.1<=e.ev ns/\e.ev ns<=b.2:=by
 induction e with
 | lit i=>intro b h; cases h; exact ⟨Int.le_refl _,Int.le_refl _⟩
 | var k=>
  intro b h
  obtain ⟨i,h1,h2⟩:=(W k b h)
  show b.1<=(ns[k]?).getD 0/\(ns[k]?).getD 0<=b.2
  rw [h1]; exact h2
 | add x y hx hy=>
  intro b h
  symm
  obtain ⟨p,hp,h⟩:=(uX h)
  obtain ⟨q,hq,h⟩:=(uX h)
  cases h
  symm
  exact ⟨by show vB p.1 q.1<=_; rw [wK]; exact Int.add_le_add (hx hp).1 (hy hq).1,by show _<=vB p.2 q.2; rw [wK]; exact Int.add_le_add (hx hp).2 (hy hq).2⟩
 | mul x y _ hy=>
  intro b h
  symm
  obtain ⟨c,rfl,h⟩:=(An h)
  obtain ⟨hc,h⟩:=(WS h)
  obtain ⟨q,hq,h⟩:=(uX h)
  cases h
  symm
  exact ⟨Int.mul_le_mul_of_nonneg_left (hy hq).1 hc,Int.mul_le_mul_of_nonneg_left (hy hq).2 hc⟩
 | md x y _ _=>
  intro b h
  symm
  obtain ⟨c,rfl,h⟩:=(An h)
  obtain ⟨hc,h⟩:=(WS h)
  cases h
  symm
  exact ⟨Int.fmod_nonneg_of_pos (x.ev ns) hc,Int.le_sub_one_of_lt (Int.fmod_lt_of_pos (x.ev ns) hc)⟩
def mE(rs:eZ)(a b:GI):Option Bool:=match a.iv rs,b.iv rs with
 | some x,some y=>if kK x.2 y.1 then some true else if kK x.1 y.2 then none else some false
 | _,_=>none
set_option tactic.hygienic true in
theorem NR{rs:eZ}{ns:List Int}(W:gC rs ns){a b:GI}{c:Bool}(h:mE rs a b=some c):decide (a.ev ns<b.ev ns)=c:=by
 unfold mE at h
 split at h
 ·rename_i x y hx hy
  have h1:=GI.iv_ok W hx
  have h2:=GI.iv_ok W hy
  split at h
  ·rename_i q; have:=of_decide_eq_true (j9 q); cases h; exact decide_eq_true (by lia)
  ·split at h
   ·cases h
   ·rename_i q; have:=of_decide_eq_false (j9 (Bool.eq_false_iff.mpr q)); cases h; exact decide_eq_false (by lia)
 ·cases h
noncomputable def tc(i j:Nat):List (Nat × Nat × Bool)->Option Bool
 | []=>none
 | (a,b,c)::r=>if (Nat.beq a i&&Nat.beq b j)||(Nat.beq a j&&Nat.beq b i) then some c else tc i j r
set_option tactic.hygienic true in
theorem Df{ns:List Int}{i j:Nat}{l:List (Nat × Nat × Bool)}:(∀i j b,(i,j,b)∈l->(my ns i == my ns j)=b)->∀{c:Bool},tc i j l=some c->(my ns i == my ns j)=c:=by
 induction l with
 | nil=>
  intro _ _ h
  cases h
 | cons pq r ih=>
  intro hl c' h
  obtain ⟨a,b,c⟩:=pq
  unfold tc at h
  split at h
  ·rename_i q
   cases h
   have:=hl a b _ (.head _)
   rcases Bool.or_eq_true_iff.mp q with q | q
   ·obtain ⟨x,y⟩:=Bool.and_eq_true_iff.mp q
    rw [<- Nat.eq_of_beq_eq_true x,<- Nat.eq_of_beq_eq_true y]; exact this
   ·obtain ⟨x,y⟩:=Bool.and_eq_true_iff.mp q
    rw [<- Nat.eq_of_beq_eq_true x,<- Nat.eq_of_beq_eq_true y,BEq.comm]; exact this
  ·exact ih (fun i j b m=>hl i j b (.tail _ m)) h
noncomputable def xW(a b:GI)(R:Rn)(k:Bool->Rn->Bool):Bool:=match a,b with
 | .var i,.var j=>(match tc i j R.eqs with
  | some c=>k c R
  | none=>k true (.mk R.bnd ((i,j,true)::R.eqs))&&k false (.mk R.bnd ((i,j,false)::R.eqs)))
 | _,_=>k true R&&k false R
def iQ(a b:GI)(R:Rn)(k:Bool->Rn->Bool):Bool:=match a.beq b with
 | true=>k true R
 | false=>match a.iv R.bnd,b.iv R.bnd with
  | some x,some y=>if kK x.2 y.1||kK y.2 x.1 then k false R else if cV x.1 x.2&&(cV y.1 y.2&&cV x.1 y.1) then k true R else xW a b R k
  | _,_=>false
def TN(i:Int)(b:GI)(R:Rn)(k:Bool->Rn->Bool):Bool:=@GI.rec (fun q0=>Bool) (fun j=>k (cV i j) R) (fun q0=>iQ (.lit i) b R k) (fun q0 q0 q0 q0=>iQ (.lit i) b R k) (fun q0 q0 q0 q0=>iQ (.lit i) b R k) (fun q0 q0 q0 q0=>iQ (.lit i) b R k) b
def W3(a b:GI)(R:Rn)(k:Bool->Rn->Bool):Bool:=@GI.rec (fun q0=>Bool) (fun i=>TN i b R k) (fun q0=>iQ a b R k) (fun q0 q0 q0 q0=>iQ a b R k) (fun q0 q0 q0 q0=>iQ a b R k) (fun q0 q0 q0 q0=>iQ a b R k) a
set_option tactic.hygienic true in
theorem BL{a b:GI}{R:Rn}{ns:List Int}(hR:dh R ns){k:Bool->Rn->Bool}(h:xW a b R k=true):∃c R',k c R'=true/\(a.ev ns == b.ev ns)=c/\dh R' ns:=by
 unfold xW at h
 split at h
 ·rename_i i j
  split at h
  ·rename_i c hc
   exact ⟨c,R,h,Df hR.eqs hc,hR⟩
  ·obtain ⟨h1,h2⟩:=Bool.and_eq_true_iff.mp h
   have more:∀c,(my ns i == my ns j)=c->dh (.mk R.bnd ((i,j,c)::R.eqs)) ns:=fun c q=>⟨hR.bnd,hR.len,fun i' j' b m=>by
    rcases List.mem_cons.mp m with e | m
    ·cases e; exact q
    ·exact hR.eqs _ _ _ m⟩
   cases q:(my ns i == my ns j) with
   | true=>exact ⟨true,_,h1,q,more true q⟩
   | false=>exact ⟨false,_,h2,q,more false q⟩
 ·obtain ⟨h1,h2⟩:=Bool.and_eq_true_iff.mp h
  cases q:(a.ev ns == b.ev ns) with
  | true=>exact ⟨true,R,h1,rfl,hR⟩
  | false=>exact ⟨false,R,h2,rfl,hR⟩
set_option tactic.hygienic true in
theorem uh{a b:GI}{R:Rn}{ns:List Int}(hR:dh R ns){k:Bool->Rn->Bool}(h:iQ a b R k=true):∃c R',k c R'=true/\(a.ev ns == b.ev ns)=c/\dh R' ns:=by
 unfold iQ at h
 split at h
 ·rename_i q
  exact ⟨true,R,h,by rw [GI.beq_eq q]; exact beq_self_eq_true _,hR⟩
 ·split at h
  ·rename_i x y hx hy
   split at h
   ·rename_i q
    have h1:=GI.iv_ok hR.bnd hx
    have h2:=GI.iv_ok hR.bnd hy
    refine ⟨false,R,h,?_,hR⟩
    rw [beq_eq_false_iff_ne]
    rcases Bool.or_eq_true_iff.mp q with q | q
    ·have:=of_decide_eq_true (j9 q); lia
    ·have:=of_decide_eq_true (j9 q); lia
   ·split at h
    ·rename_i q
     have h1:=GI.iv_ok hR.bnd hx
     have h2:=GI.iv_ok hR.bnd hy
     obtain ⟨q1,q⟩:=Bool.and_eq_true_iff.mp q
     obtain ⟨q2,q3⟩:=Bool.and_eq_true_iff.mp q
     have e1:x.1=x.2:=eq_of_beq (cv q1)
     have e2:y.1=y.2:=eq_of_beq (cv q2)
     have e3:x.1=y.1:=eq_of_beq (cv q3)
     exact ⟨true,R,h,by rw [beq_iff_eq]; lia,hR⟩
    ·exact BL hR h
  ·cases h
theorem IJ{a b:GI}{R:Rn}{ns:List Int}(hR:dh R ns){k:Bool->Rn->Bool}(h:W3 a b R k=true):∃c R',k c R'=true/\(a.ev ns == b.ev ns)=c/\dh R' ns:=by
 cases a with
 | lit i=>
  cases b with
  | lit j=>exact ⟨_,R,h,cv rfl,hR⟩
  | _=>exact uh hR h
 | _=>exact uh hR h
def fP(g:GV)(k:GI->Bool):Bool:=@GV.rec (fun q0=>Bool) false false (fun q0=>false) (fun e=>k e) (fun q0=>false) (fun q0=>false) (fun q0=>false) (fun q0=>false) false g
def bU(g:GV)(k:Nat->Bool):Bool:=@GV.rec (fun q0=>Bool) false false (fun q0=>false) (fun q0=>false) (fun q0=>false) (fun q0=>false) (fun q0=>false) (fun e=>k e) false g
def eD(g:GV)(b:Bool):Bool:=@GV.rec (fun q0=>Bool) false b (fun q0=>b) (fun q0=>b) (fun q0=>b) (fun q0=>b) (fun q0=>b) (fun q0=>b) b g
theorem dA{g:GV}{k:GI->Bool}(h:fP g k=true):∃e,g=.int e/\k e=true:=by cases g <;> first | cases h; done | exact ⟨_,rfl,h⟩
theorem bn{g:GV}{k:Nat->Bool}(h:bU g k=true):∃e,g=.own e/\k e=true:=by cases g <;> first | cases h; done | exact ⟨_,rfl,h⟩
theorem cP{g:GV}{b:Bool}(h:eD g b=true):g≠.nul/\b=true:=by cases g <;> first | cases h; done | exact ⟨(by intro e; cases e),h⟩
def qz(e:GI)(k:Int->Bool):Bool:=@GI.rec (fun q0=>Bool) (fun i=>k i) (fun q0=>false) (fun q0 q0 q0 q0=>false) (fun q0 q0 q0 q0=>false) (fun q0 q0 q0 q0=>false) e
theorem kQ{e:GI}{k:Int->Bool}(h:qz e k=true):∃i,e=.lit i/\k i=true:=by cases e <;> first | cases h; done | exact ⟨_,rfl,h⟩
def eG(g:GV)(k:Int->Bool):Bool:=fP g fun e=>qz e k
theorem cM{g:GV}{k:Int->Bool}(h:eG g k=true):∃i,g=.int (.lit i)/\k i=true:=by
 obtain ⟨e,rfl,h⟩:=dA h
 obtain ⟨i,rfl,h⟩:=(kQ h)
 exact ⟨i,rfl,h⟩
noncomputable def fN(n:Nat)(k:Nat->Bool):Bool:=@Nat.rec (fun q0=>(Nat->Bool)->Bool) (fun k=>k 0) (fun n q0 k=>k (Nat.succ n)) n k
theorem bO(n:Nat)(k:Nat->Bool):fN n k=k n:=by cases n <;> rfl
def fI(i:Int)(k:Int->Bool):Bool:=@Int.rec (fun q0=>Bool) (fun n=>fN n fun n=>k (.ofNat n)) (fun n=>fN n fun n=>k (.negSucc n)) i
theorem lV(i:Int)(k:Int->Bool):fI i k=k i:=by cases i <;> exact bO _ _
def ba(l:List GV):Nat->GV:=@List.rec GV (fun q0=>Nat->GV) (fun q0=>.nul) (fun g q0 ih k=>@Nat.rec (fun q0=>GV) g (fun k q0=>ih k) k) l
theorem kR:∀{l:List GV} {k:Nat},ba l k≠.nul->l[k]?=some (ba l k)
 | [],_,h=>absurd rfl h
 | g::l,0,_=>rfl
 | g::l,k+1,h=>by rw [List.getElem?_cons_succ]; exact kR (l:=l) (k:=k) h
def dX(l:List (Nat × GV)):Nat->GV:=@List.rec (Nat × GV) (fun q0=>Nat->GV) (fun q0=>.nul) (fun p q0 ih k=>@Bool.rec (fun q0=>GV) (ih k) p.2 (Nat.beq p.1 k)) l
structure aQ where
 prog:Program
 w:World
 K:Frag
 p:Program
 loose:List Str
 mean:ExcName->Option Value
 mg:Str->Option Value
 mb:Str->Option Value
 T:List Str
 CT:List Addr
 nd:Nat
 os:OsState
structure St (x:aQ) (J:az) (H:Tr) (nx:Nat) (R:Rn) (O:Heap) (L:Addr) (m:Str->Option Value) (s:Shared):Prop where
 led:gT x.T x.CT x.nd (x.prog,x.w) J H O L s.heap
 nx:J.as.length=nx
 fr:Fr O L s.heap m
 gens:s.gens = #[]/\s.os=x.os
 rn:dh R J.ns
structure cj (x:aQ) (d:Nat) (A:Around) (O:Heap) (L:Addr):Prop where
 below:∃A₀ base outer env,Below A₀ base outer O/\A.frames=some (env::outer)/\env.frame=some L/\env.scope.kind=.function
 X:x.K.In O
 top:Top x.p x.loose x.mean x.mg x.mb O
 room:A.depth+d<recursionLimit
 hnd:A.handled=none
 units:A.units+4 * d+40<cLine
structure bP (env:Env) (L:Addr):Prop where
 glob:env.globals=mainGlobals
 bui:env.builtins=builtinsNs
 kind:env.scope.kind=.function
 frame:env.frame=some L
inductive SK where
 | loc | cel | blk | glo
def pg(T:List Str)(J:az)(env:Env)(L:Addr)(m:Str->Option Value)(g:GV)(s:Str):SK->Prop
 | .loc=>env.locals=L/\env.kindOf s=some .local/\(g≠.nul->∃v,m s=some v/\Is T J g v)
 | .cel=>env.kindOf s=some .cell/\∃k a,g=.own k/\J.as[k]?=some a/\env.cells.lookup s=some a
 | .blk=>env.kindOf s=some .local/\∃k,g=.own k/\J.as[k]?=some env.locals
 | .glo=>env.kindOf s=some .globalImplicit
abbrev aq:=List (Nat × SK)
def bq(x:aQ)(J:az)(env:Env)(L:Addr)(m:Str->Option Value)(vs:aq)(loc:List GV):Prop:=
 ∀(j i:Nat) (kd:SK),vs[j]?=some (i,kd)->∃s,x.T[i]?=some s/\(s == ("__debug__" : Str))=false/\pg x.T J env L m (ba loc j) s kd
theorem pg.more{T:List Str}{J J':az}(le:J.le J'){env:Env}{L:Addr}{m:Str->Option Value}{g:GV}{s:Str}{kd:SK}(h:pg T J env L m g s kd):pg T J' env L m g s kd:=by
 cases kd with
 | loc=>exact ⟨h.1,h.2.1,fun n=>(h.2.2 n).imp fun q0=>And.imp_right fun x=>x.more le⟩
 | cel=>obtain ⟨a,k,b,c,d,e⟩:=h; exact ⟨a,k,b,c,aF le.1 d,e⟩
 | blk=>obtain ⟨a,k,b,c⟩:=h; exact ⟨a,k,b,aF le.1 c⟩
 | glo=>exact h
theorem bq.more{x:aQ}{J J':az}(le:J.le J'){env:Env}{L:Addr}{m:Str->Option Value}{vs:aq}{loc:List GV}(h:bq x J env L m vs loc):bq x J' env L m vs loc:=
 fun j i kd e=>(h j i kd e).imp fun q0=>And.imp_right (And.imp_right fun x=>x.more le)
abbrev KV:=GV->Tr->Nat->Rn->Bool
abbrev KB:=Bool->Tr->Nat->Rn->Bool
abbrev KL:=List GV->Tr->Nat->Rn->Bool
abbrev EV:=Tr->Nat->Rn->List GV->KV->Bool
abbrev TV:=Tr->Nat->Rn->List GV->KB->Bool
abbrev LV:=Tr->Nat->Rn->List GV->KL->Bool
def fj(x:aQ)(J:az)(O:Heap)(L:Addr)(m:Str->Option Value)(k:KV)(Q:Value->Shared->Prop):Prop:=
 ∀J' H nx R s g v,J.le J'->St x J' H nx R O L m s->Is x.T J' g v->k g H nx R=true->Q v s
def nt(x:aQ)(J:az)(O:Heap)(L:Addr)(m:Str->Option Value)(k:KB)(Q:Bool->Shared->Prop):Prop:=
 ∀J' H nx R s c,J.le J'->St x J' H nx R O L m s->k c H nx R=true->Q c s
def aK(x:aQ)(d:Nat)(vs:aq)(f:EV)(e:Expr):Prop:=
 ∀H nx R loc k,f H nx R loc k=true->∀(A:Around) (env:Env) (O:Heap) (L:Addr) (m:Str->Option Value) (J:az) (s:Shared) (Q E:Value->Shared->Prop),
  cj x d A O L->bP env L->St x J H nx R O L m s->bq x J env L m vs loc->fj x J O L m k Q->wpAny (model x.prog x.w) A (eval e env) Q E s
def dZ(x:aQ)(d:Nat)(vs:aq)(f:TV)(e:Expr):Prop:=
 ∀H nx R loc k,f H nx R loc k=true->∀(A:Around) (env:Env) (O:Heap) (L:Addr) (m:Str->Option Value) (J:az) (s:Shared) (Q:Bool->Shared->Prop) (E:Value->Shared->Prop),
  cj x d A O L->bP env L->St x J H nx R O L m s->bq x J env L m vs loc->nt x J O L m k Q->wpAny (model x.prog x.w) A (isTrue e env (eval e env)) Q E s
def eg(x:aQ)(d:Nat)(vs:aq)(f:LV)(es:List Expr):Prop:=
 ∀H nx R loc k,f H nx R loc k=true->∀(A:Around) (env:Env) (O:Heap) (L:Addr) (m:Str->Option Value) (J:az) (s:Shared) (pos:Pos) (Q:List Value->Shared->Prop) (E:Value->Shared->Prop),
  cj x d A O L->bP env L->St x J H nx R O L m s->bq x J env L m vs loc->
  (∀J' H nx R s gs us,J.le J'->St x J' H nx R O L m s->be x.T J' gs us->k gs H nx R=true->Q us s)->wpAny (model x.prog x.w) A (spliced (backTo pos (starEach es env))) Q E s
abbrev wH:=GV->Tr->Nat->Rn->KV->Bool
abbrev rU:=GV->GV->Tr->Nat->Rn->KV->Bool
def EJ(x:aQ)(d:Nat)(f:wH)(tree:Value->Sem Value):Prop:=
 ∀g H nx R k,f g H nx R k=true->∀(A:Around) (O:Heap) (L:Addr) (m:Str->Option Value) (J:az) (s:Shared) (u:Value) (Q E:Value->Shared->Prop),
  cj x d A O L->St x J H nx R O L m s->Is x.T J g u->fj x J O L m k Q->wpAny (model x.prog x.w) A (tree u) Q E s
def wB(x:aQ)(d:Nat)(f:rU)(tree:Value->Value->Sem Value):Prop:=
 ∀g h H nx R k,f g h H nx R k=true->∀(A:Around) (O:Heap) (L:Addr) (m:Str->Option Value) (J:az) (s:Shared) (u v:Value) (Q E:Value->Shared->Prop),
  cj x d A O L->St x J H nx R O L m s->Is x.T J g u->Is x.T J h v->fj x J O L m k Q->wpAny (model x.prog x.w) A (tree u v) Q E s
section
variable {x:aQ} {d:Nat} {vs:aq} {J J':az} {H:Tr} {nx:Nat} {R:Rn} {O:Heap} {L:Addr} {m:Str->Option Value} {s:Shared}
theorem St.toks(S:St x J H nx R O L m s)(tk:Nat):St x J H nx R O L m { s with toks:=tk }:=⟨S.led,S.nx,S.fr,S.gens,S.rn⟩
theorem St.rn'(S:St x J H nx R O L m s){R':Rn}(h:dh R' J.ns):St x J H nx R' O L m s:=⟨S.led,S.nx,S.fr,S.gens,h⟩
theorem fj.le{k:KV}{Q:Value->Shared->Prop}(le:J.le J')(h:fj x J O L m k Q):fj x J' O L m k Q:=fun J'' H nx R s g v l=>h J'' H nx R s g v (le.trans l)
theorem nt.le{k:KB}{Q:Bool->Shared->Prop}(le:J.le J')(h:nt x J O L m k Q):nt x J' O L m k Q:=fun J'' H nx R s c l=>h J'' H nx R s c (le.trans l)
theorem fj.now{k:KV}{Q:Value->Shared->Prop}(h:fj x J O L m k Q)(S:St x J H nx R O L m s){g:GV}{v:Value}(i:Is x.T J g v)(e:k g H nx R=true)(tk:Nat):Q v { s with toks:=tk }:=h J H nx R _ g v (.refl _) (S.toks tk) i e
theorem fj.here{k:KV}{Q:Value->Shared->Prop}(h:fj x J O L m k Q)(S:St x J H nx R O L m s){g:GV}{v:Value}(i:Is x.T J g v)(e:k g H nx R=true):Q v s:=h J H nx R _ g v (.refl _) S i e
def ah(i:Nat):EV:=fun H nx R loc k=>let g:=ba loc i; eD g (k g H nx R)
theorem kL{i a:Nat}{t:Str}(hv:vs[i]?=some (a,.loc))(ht:x.T[a]?=some t)(pos:Pos):aK x d vs (ah i) (.Name t pos):=by
 intro H nx R loc k h A env O L m J s Q E Hh En S Lo hQ
 obtain ⟨n,h⟩:=cP h
 obtain ⟨t',ht',hd,h1,h2,h3⟩:=(Lo i a .loc hv)
 rw [ht] at ht'; cases ht'
 obtain ⟨v,hv,hi⟩:=(h3 n)
 exact wpAny_Name (wpAny_loadName_local En.kind h2 (h1▸S.fr.ns) hv (hQ.here S hi h)) hd
def uC(o:GO)(k:GV->Bool):Bool:=@GO.rec (fun q0=>Bool) false (fun q0=>false) (fun q0=>false) (fun q0 q0=>false) (fun q0=>false) false (fun q0=>false) (fun q0=>false) (fun g=>k g) (fun q0=>false) (fun q0 q0=>false) (fun q0 q0=>false) (fun q0 q0=>false) (fun q0=>false) (fun q0=>false) (fun q0=>false) false (fun q0=>false) (fun q0 q0=>false) (fun q0 q0=>false) (fun q0 q0=>false) (fun q0 q0=>false) (fun q0 q0=>false) o
def vf(o:GO)(k:List (Nat × GV)->Bool):Bool:=@GO.rec (fun q0=>Bool) false (fun q0=>false) (fun q0=>false) (fun q0 q0=>false) (fun q0=>false) false (fun q0=>false) (fun q0=>false) (fun q0=>false) (fun g=>k g) (fun q0 q0=>false) (fun q0 q0=>false) (fun q0 q0=>false) (fun q0=>false) (fun q0=>false) (fun q0=>false) false (fun q0=>false) (fun q0 q0=>false) (fun q0 q0=>false) (fun q0 q0=>false) (fun q0 q0=>false) (fun q0 q0=>false) o
theorem si{o:GO}{k:GV->Bool}(h:uC o k=true):∃g,o=.cell g/\k g=true:=by cases o <;> first | cases h; done | exact ⟨_,rfl,h⟩
theorem mW{o:GO}{k:List (Nat × GV)->Bool}(h:vf o k=true):∃g,o=.ns g/\k g=true:=by cases o <;> first | cases h; done | exact ⟨_,rfl,h⟩
def ib(i:Nat):EV:=fun H nx R loc k=>bU (ba loc i) fun c=>uC (H.get c) fun g=>eD g (k g H nx R)
theorem dL{i a:Nat}{t:Str}(hv:vs[i]?=some (a,.cel))(ht:x.T[a]?=some t)(pos:Pos):aK x d vs (ib i) (.Name t pos):=by
 intro H nx R loc k h A env O L m J s Q E Hh En S Lo hQ
 symm
 obtain ⟨c,hc,h⟩:=bn h
 obtain ⟨g,hg,h⟩:=si h
 obtain ⟨n,h⟩:=cP h
 obtain ⟨t',ht',hd,h1,c',ca,h2,h3,h4⟩:=(Lo i a .cel hv)
 symm
 rw [ht] at ht'; cases ht'
 rw [hc] at h2; cases h2
 symm
 obtain ⟨o,o1,q0,q0,o2⟩:=(S.led.obj h3)
 symm
 rw [hg] at o2
 rcases o2 with ⟨q,_⟩ | ⟨_,q,i⟩
 ·exact absurd q n
 ·exact wpAny_Name (wpAny_loadName_cell En.kind h1 h4 ⟨o,o1,q⟩ (hQ.here S i h)) hd
theorem lG:∀{l:List (Nat × GV)} {k:Nat},dX l k≠.nul->l.lookup k=some (dX l k)
 | [],_,h=>absurd rfl h
 | (a,g)::l,k,h=>by
  have e:dX ((a,g)::l) k=@Bool.rec (fun q0=>GV) (dX l k) g (Nat.beq a k):=rfl
  rw [List.lookup_cons]
  cases q:Nat.beq a k with
  | true=>
   rw [q] at e
   have:(k == a)=true:=by rw [Nat.eq_of_beq_eq_true q]; exact beq_self_eq_true _
   rw [this,e]
  | false=>
   rw [q] at e
   have:(k == a)=false:=by rw [beq_eq_false_iff_ne]; exact fun z=>(Nat.ne_of_beq_eq_false q) z.symm
   rw [this]
   rw [e] at h ⊢
   exact lG h
def gj(i a:Nat):EV:=fun H nx R loc k=>bU (ba loc i) fun c=>vf (H.get c) fun es=>let g:=dX es a; eD g (k g H nx R)
theorem cR{i a:Nat}{t:Str}(hv:vs[i]?=some (a,.blk))(ht:x.T[a]?=some t)(pos:Pos):aK x d vs (gj i a) (.Name t pos):=by
 intro H nx R loc k h A env O L m J s Q E Hh En S Lo hQ
 symm
 obtain ⟨c,hc,h⟩:=bn h
 obtain ⟨es,hg,h⟩:=mW h
 obtain ⟨n,h⟩:=cP h
 obtain ⟨t',ht',hd,h1,c',h2,h3⟩:=(Lo i a .blk hv)
 symm
 rw [ht] at ht'; cases ht'
 rw [hc] at h2; cases h2
 symm
 obtain ⟨o,o1,q0,q0,o2⟩:=(S.led.obj h3)
 rw [hg] at o2
 obtain ⟨q0,q,i⟩:=o2
 obtain ⟨y,v,a1,a2,a3⟩:=(i _ _ (lG n))
 symm
 rw [ht] at a1; cases a1
 symm
 obtain ⟨es',ep,e1,e2,e3⟩:=q
 symm
 exact wpAny_Name (wpAny_loadName_local En.kind h1 ⟨o,es',ep,o1,e1,e2,e3⟩ a2 (hQ.here S a3 h)) hd
noncomputable def bj(g:GV):EV:=fun H nx R loc k=>k g H nx R
inductive d7 (T:List Str):GV->Value->Prop
 | none:d7 T .none .none
 | bool (b:Bool):d7 T (.bool b) (.bool b)
 | int (i:Int) (t:Tok):d7 T (.int (.lit i)) (.int i t)
 | str {i:Nat} {x:Str} (t:Tok):T[i]?=some x->d7 T (.str i) (.str x t)
 | old (v:Value):d7 T (.old v) v
theorem d7.is{T:List Str}{g:GV}{v:Value}(h:d7 T g v):Is T J g v:=by
 cases h with
 | none=>exact .none
 | bool=>exact .bool _
 | int i t=>exact .int (e:=.lit i) t trivial
 | str t h=>exact .str t h
 | old=>exact .old _
def bp(x:aQ)(t:Str)(v:Value):Prop:=nsIn x.K mainGlobals t=some (some v)∨(nsIn x.K mainGlobals t=some none/\t≠ "__name__"/\bootBuiltins t=some v)
theorem kj{i a:Nat}{t:Str}{g:GV}{v:Value}(hv:vs[i]?=some (a,.glo))(ht:x.T[a]?=some t)(hm:bp x t v)(hg:d7 x.T g v)(pos:Pos):aK x d vs (bj g) (.Name t pos):=by
 intro H nx R loc k h A env O L m J s Q E Hh En S Lo hQ
 obtain ⟨t',ht',hd,h1⟩:=(Lo i a .glo hv)
 rw [ht] at ht'; cases ht'
 have T:=topRead_of Hh.top
 have q:=hQ.here S (hg.is (J:=J)) h
 rcases hm with hm | ⟨hm,hn,hb⟩
 ·exact Name_function_global En.kind h1 (loadGlobal_global (env:=env) (by rw [En.glob]; exact T.g.keeps S.fr.keep) (mg_of Hh.X T.g hm) q) hd
 ·exact Name_function_global En.kind h1 (loadGlobal_builtin (env:=env) (by rw [En.glob]; exact T.g.keeps S.fr.keep) (mg_none_of Hh.X T.g hm) (by rw [En.bui]; exact T.b.keeps S.fr.keep) ((T.builtins _ hn).trans hb) q) hd
inductive Ay (T:List Str):GV->Const->Prop
 | none:Ay T .none .none
 | bool (b:Bool):Ay T (.bool b) (.bool b)
 | int (i:Int):Ay T (.int (.lit i)) (.int i)
 | str {i:Nat} {x:Str}:T[i]?=some x->Ay T (.str i) (.str x)
theorem Fq{g:GV}{c:Const}(hc:Ay x.T g c)(kd:Nat)(pos:Pos):aK x d vs (bj g) (.Constant c kd pos):=by
 intro H nx R loc k h A env O L m J s Q E Hh En S Lo hQ
 cases hc with
 | none=>exact fun q0 q0 q0=>hQ.now S .none h _
 | bool b=>exact fun q0 q0 q0=>hQ.now S (.bool b) h _
 | int i=>exact wpAny_Constant_int (hQ.now S (.int (e:=.lit i) _ trivial) h _)
 | str e=>exact Constant_str (hQ.now S (.str _ e) h _)
end
structure Cx (β γ:Type) where
 x:aQ
 d:Nat
 vs:aq
 H:Tr
 nx:Nat
 R:Rn
 loc:List GV
 k:γ
 A:Around
 env:Env
 O:Heap
 L:Addr
 m:Str->Option Value
 J:az
 s:Shared
 Q:β->Shared->Prop
 E:Value->Shared->Prop
theorem E5{β γ:Type}(ne:Nonempty γ)(Φ:aQ->Nat->aq->Tr->Nat->Rn->List GV->γ->Around->Env->Heap->Addr->(Str->Option Value)->az->Shared->(β->Shared->Prop)->(Value->Shared->Prop)->Prop) :
  ∃t:Cx β γ,Φ t.x t.d t.vs t.H t.nx t.R t.loc t.k t.A t.env t.O t.L t.m t.J t.s t.Q t.E->∀x d vs H nx R loc k A env O L m J s Q E,Φ x d vs H nx R loc k A env O L m J s Q E:=by
 have ⟨k0⟩:=ne
 by_cases h:∃t:Cx β γ,¬ Φ t.x t.d t.vs t.H t.nx t.R t.loc t.k t.A t.env t.O t.L t.m t.J t.s t.Q t.E
 ·exact h.imp fun q0 a b=>absurd b a
 ·exact ⟨⟨⟨default,⟨fun q0 q0=>0,{ strHash:=fun q0=>0,shareClass:=fun q0=>0,mergeTok:=id,idOf:=fun q0=>0,idOfShared:=fun q0 q0=>0,followText:=fun q0=>false,idOfImm:=fun q0=>0 }⟩,[],default,[],fun q0=>none,fun q0=>none,fun q0=>none,[],[],0,default⟩,0,[],.e,0,.mk [] [],[],k0,⟨none,0,none,none,1⟩,default,default,0,fun q0=>none,⟨[],[],fun q0=>[],(0,0)⟩,⟨default,#[],{},1,default⟩,fun q0 q0=>True,fun q0 q0=>True⟩,
   fun q0 x d vs H nx R loc k A env O L m J s Q E=>Classical.byContradiction fun q=>h ⟨⟨x,d,vs,H,nx,R,loc,k,A,env,O,L,m,J,s,Q,E⟩,q⟩⟩
def dk{β γ:Type}(ne:Nonempty γ)(Φ:aQ->Nat->aq->Tr->Nat->Rn->List GV->γ->Around->Env->Heap->Addr->(Str->Option Value)->az->Shared->(β->Shared->Prop)->(Value->Shared->Prop)->Prop):Cx β γ:=(E5 ne Φ).choose
theorem pD{β γ:Type}[ne:Nonempty γ]{Φ:aQ->Nat->aq->Tr->Nat->Rn->List GV->γ->Around->Env->Heap->Addr->(Str->Option Value)->az->Shared->(β->Shared->Prop)->(Value->Shared->Prop)->Prop}
  (h:Φ (dk ne Φ).x (dk ne Φ).d (dk ne Φ).vs (dk ne Φ).H (dk ne Φ).nx (dk ne Φ).R (dk ne Φ).loc (dk ne Φ).k (dk ne Φ).A (dk ne Φ).env (dk ne Φ).O (dk ne Φ).L (dk ne Φ).m (dk ne Φ).J (dk ne Φ).s (dk ne Φ).Q (dk ne Φ).E) :
  ∀x d vs H nx R loc k A env O L m J s Q E,Φ x d vs H nx R loc k A env O L m J s Q E:=(E5 ne Φ).choose_spec h
end
section
section
variable {x:aQ} {d:Nat} {vs:aq} {J:az} {H:Tr} {nx:Nat} {R:Rn} {O:Heap} {L:Addr} {m:Str->Option Value} {s:Shared} {A:Around} {E:Value->Shared->Prop} {Q:Value->Shared->Prop} {k:KV}
def mk(g:GO):Tr->Nat->Rn->KV->Bool:=fun H nx R k=>H.set 24 nx g fun H'=>fN (Nat.succ nx) fun nx'=>k (.own nx) H' nx' R
theorem VS{g:GO}(h:mk g H nx R k=true):∃H',At H H' nx g/\k (.own nx) H' (nx+1) R=true:=by
 obtain ⟨H',a,b⟩:=Tr.set_ok _ _ _ _ _ h
 rw [bO] at b
 exact ⟨H',a,b⟩
theorem St.made{H':Tr}{os:List Obj}{h':Heap}{D:Addr}{o:Obj}{g:GO}(S:St x J H nx R O L m s)(hos:∀k o,os[k]?=some o->aL x.T x.CT x.nd (x.prog,x.w) J (H.get k) o)(e:J.as.length=os.length)
  (F':Fr O L h' m) (N':News O L h' ((D,o)::J.as.zip os)) (lt:∀p∈J.as.zip os,p.1<D) (hg:aL x.T x.CT x.nd (x.prog,x.w) (J.push D) g o) (a:At H H' nx g) (tk:Nat) :
  St x (J.push D) H' (nx+1) R O L m { s with heap:=h',toks:=tk }/\Is x.T (J.push D) (.own nx) (.ref D):=by
 have en:=S.nx
 subst en
 exact ⟨⟨gT.push hos e S.led.nod N' lt hg a,by simp [az.push],F',S.gens,S.rn⟩,.own (eE J D)⟩
theorem gr{os:List Obj}{h':Heap}{D:Addr}{o:Obj}{g:GO}(h:mk g H nx R k=true)(S:St x J H nx R O L m s)(hQ:fj x J O L m k Q)(hos:∀k o,os[k]?=some o->aL x.T x.CT x.nd (x.prog,x.w) J (H.get k) o)(e:J.as.length=os.length)
  (F':Fr O L h' m) (N':News O L h' ((D,o)::J.as.zip os)) (lt:∀p∈J.as.zip os,p.1<D) (hg:aL x.T x.CT x.nd (x.prog,x.w) (J.push D) g o) (tk:Nat):Q (.ref D) { s with heap:=h',toks:=tk }:=by
 obtain ⟨H',a,b⟩:=(VS h)
 obtain ⟨S',i⟩:=(S.made hos e F' N' lt hg a tk)
 exact hQ _ _ _ _ _ _ _ (J.le_push D) S' i b
theorem St.set{H':Tr}{os:List Obj}{h':Heap}{a:Addr}{o':Obj}{g:GO}{i:Nat}(S:St x J H nx R O L m s)(hos:∀k o,os[k]?=some o->aL x.T x.CT x.nd (x.prog,x.w) J (H.get k) o)(e:J.as.length=os.length)
  (F':Fr O L h' m) (ha:J.as[i]?=some a) (N':News O L h' (J.as.zip (os.set i o'))) (hg:aL x.T x.CT x.nd (x.prog,x.w) J g o') (hA:At H H' i g) (tk:Nat):St x J H' nx R O L m { s with heap:=h',toks:=tk }:=
 ⟨gT.set S.led.nod hos e ha N' hg hA,S.nx,F',S.gens,S.rn⟩
theorem St.upd{H':Tr}{h':Heap}{a:Addr}{o':Obj}{g:GO}{i:Nat}(S:St x J H nx R O L m s)(ha:J.as[i]?=some a)(hs:Heap.SameBut a s.heap h')(ho:h'.get? a=some o')(hg:aL x.T x.CT x.nd (x.prog,x.w) J g o')(hA:At H H' i g)(tk:Nat) :
  St x J H' nx R O L m { s with heap:=h',toks:=tk }:=by
 obtain ⟨o,h1,h2,h3,q0⟩:=(S.led.obj ha)
 exact ⟨S.led.upd ha hs ho hg hA,S.nx,S.fr.change hs h2 h3,S.gens,S.rn⟩
noncomputable def aj:LV:=fun H nx R loc k=>k [] H nx R
noncomputable def af(a:EV)(r:LV):LV:=fun H nx R loc k=>a H nx R loc fun g H nx R=>r H nx R loc fun gs H nx R=>k (g::gs) H nx R
theorem lc:eg x d vs aj []:=by
 intro H nx R loc k h A env O L m J s pos Q E Hh En S Lo hQ
 exact spliced_none (hQ J H nx R s [] [] (.refl _) S .nil h)
def iN(e:Expr)(k:Nat):Bool:=@Bool.rec (fun q0=>Bool) true false (Nat.beq e.ctorIdx k)
noncomputable def bZ(e:Expr):Bool:=iN e 22
theorem gK{a:EV}{r:LV}{e:Expr}{es:List Expr}(ha:aK x d vs a e)(hr:eg x d vs r es)(hn:bZ e=true):eg x d vs (af a r) (e::es):=by
 intro H nx R loc k h A env O L m J s pos Q E Hh En S Lo hQ
 refine spliced_more (ha H nx R loc _ h A env O L m J s _ E Hh En S Lo fun J' H' nx' R' s' g v le S' hg hk=>?_) (by clear ha; cases e <;> first | rfl | cases hn)
 exact hr H' nx' R' loc _ hk A env O L m J' s' pos _ E Hh En S' (Lo.more le) fun J'' H'' nx'' R'' s'' gs us le' S'' hgs hk'=>hQ J'' H'' nx'' R'' s'' (g::gs) (v::us) (le.trans le') S'' (.cons (hg.more le') hgs) hk'
def fk(n:Nat)(l:List GV):Bool:=@List.rec GV (fun q0=>Nat->Bool) (fun q0=>true) (fun q0 q0 ih n=>@Nat.rec (fun q0=>Bool) false (fun n q0=>ih n) n) l n
theorem cX:∀{n:Nat} {l:List GV},fk n l=true->l.length<=n
 | _,[],_=>Nat.zero_le _
 | 0,_::_,h=>by cases h
 | n+1,_::l,h=>Nat.succ_le_succ (cX (l:=l) h)
def aD(l:LV):EV:=fun H nx R loc k=>l H nx R loc fun gs H nx R=>@Bool.rec (fun q0=>Bool) false (mk (.tuple gs) H nx R k) (fk 100 gs)
def bb(l:LV):EV:=fun H nx R loc k=>l H nx R loc fun gs H nx R=>@Bool.rec (fun q0=>Bool) false (mk (.list gs) H nx R k) (fk 100 gs)
theorem aJ{b c:Bool}(h:@Bool.rec (fun q0=>Bool) false c b=true):b=true/\c=true:=by cases b <;> first | cases h; done | exact ⟨rfl,h⟩
theorem Gy{l:LV}{es:List Expr}(hl:eg x d vs l es)(kd:Nat)(pos:Pos):aK x d vs (aD l) (.Tuple es kd pos):=by
 intro H nx R loc k h A env O L m J s Q E Hh En S Lo hQ
 refine Tuple_ (hl H nx R loc _ h A env O L m J s pos _ E Hh En S Lo fun J' H' nx' R' s' gs us le S' hgs hk=>?_)
 obtain ⟨hz,hk⟩:=aJ hk
 obtain ⟨os,hos,e,N⟩:=S'.led.at_
 refine kup_newTuple S'.fr N (fun D h' F' N' lt=>gr hk S' (hQ.le le) hos e F' N' lt (.tuple (hgs.more (az.le_push _ _))) s'.toks) ?_
 rw [<- hgs.length]; exact Nat.le_trans (cX hz) (by decide)
theorem GG{l:LV}{es:List Expr}(hl:eg x d vs l es)(pos:Pos):aK x d vs (bb l) (.List es pos):=by
 intro H nx R loc k h A env O L m J s Q E Hh En S Lo hQ
 refine List_ (hl H nx R loc _ h A env O L m J s pos _ E Hh En S Lo fun J' H' nx' R' s' gs us le S' hgs hk=>?_)
 obtain ⟨hz,hk⟩:=aJ hk
 obtain ⟨os,hos,e,N⟩:=S'.led.at_
 refine newList_K S'.fr N (fun D h' F' N' lt=>gr hk S' (hQ.le le) hos e F' N' lt (.list 0 (hgs.more (az.le_push _ _))) s'.toks) ?_
 rw [<- hgs.length]; exact Nat.le_trans (cX hz) (by decide)
def hV(o:GO)(k:Nat->Nat->Bool):Bool:=@GO.rec (fun q0=>Bool) false (fun q0=>false) (fun q0=>false) (fun C d=>k C d) (fun q0=>false) false (fun q0=>false) (fun q0=>false) (fun g=>false) (fun q0=>false) (fun q0 q0=>false) (fun q0 q0=>false) (fun q0 q0=>false) (fun q0=>false) (fun q0=>false) (fun q0=>false) false (fun q0=>false) (fun q0 q0=>false) (fun q0 q0=>false) (fun q0 q0=>false) (fun q0 q0=>false) (fun q0 q0=>false) o
def eW(o:GO)(k:List (Nat × GV)->Bool):Bool:=@GO.rec (fun q0=>Bool) false (fun q0=>false) (fun q0=>false) (fun C d=>false) (fun es=>k es) false (fun q0=>false) (fun q0=>false) (fun g=>false) (fun q0=>false) (fun q0 q0=>false) (fun q0 q0=>false) (fun q0 q0=>false) (fun q0=>false) (fun q0=>false) (fun q0=>false) false (fun q0=>false) (fun q0 q0=>false) (fun q0 q0=>false) (fun q0 q0=>false) (fun q0 q0=>false) (fun q0 q0=>false) o
def d9(o:GO)(k:List GV->Bool):Bool:=@GO.rec (fun q0=>Bool) false (fun l=>k l) (fun q0=>false) (fun C d=>false) (fun es=>false) false (fun q0=>false) (fun q0=>false) (fun g=>false) (fun q0=>false) (fun q0 q0=>false) (fun q0 q0=>false) (fun q0 q0=>false) (fun q0=>false) (fun q0=>false) (fun q0=>false) false (fun q0=>false) (fun q0 q0=>false) (fun q0 q0=>false) (fun q0 q0=>false) (fun q0 q0=>false) (fun q0 q0=>false) o
theorem fc{o:GO}{k:Nat->Nat->Bool}(h:hV o k=true):∃C d,o=.inst C d/\k C d=true:=by cases o <;> first | cases h; done | exact ⟨_,_,rfl,h⟩
theorem dK{o:GO}{k:List (Nat × GV)->Bool}(h:eW o k=true):∃g,o=.idict g/\k g=true:=by cases o <;> first | cases h; done | exact ⟨_,rfl,h⟩
theorem da{o:GO}{k:List GV->Bool}(h:d9 o k=true):∃g,o=.list g/\k g=true:=by cases o <;> first | cases h; done | exact ⟨_,rfl,h⟩
def aS(x:aQ)(t:Str):Prop:=∀C∈x.CT,plainGet x.K C t=true/\hasDictIn x.K C=true/\findIn x.K (.ref C) t=some none/\
 findIn x.K (.ref C) "__setattr__" = some (some (.builtin "object.__setattr__"))/\plainOver x.K C=true/\takerIn x.K C t=some none
theorem dy.look{T:List Str}(hT:T.Nodup){nd:Nat}{es:List (Nat × GV)}{ds:List DictEntry}(h:dy T nd J es ds){a:Nat}{t:Str}(ht:T[a]?=some t){g:GV}(e:es.lookup a=some g):∃v,getL t ds=some (some v)/\Is T J g v:=by
 induction h with
 | nil=>cases e
 | @cons i y g' d u es ds lt hi hk hv r ih=>
  have key:d.key.isStr t=(a == i):=by
   rw [hk]
   show (y == t)=(a == i)
   rw [Bool.eq_iff_iff,beq_iff_eq,beq_iff_eq]
   constructor
   ·intro q; subst q
    exact (List.getElem?_inj (aN ht) hT).mp (ht.trans hi.symm)
   ·intro q; subst q; rw [hi] at ht; exact Option.some.inj ht
  unfold getL
  rw [List.find?_cons,key]
  rw [List.lookup_cons] at e
  cases q:(a == i) with
  | true=>rw [q] at e; cases e; exact ⟨_,rfl,hv⟩
  | false=>
   rw [q] at e
   obtain ⟨v,h1,h2⟩:=(ih e)
   refine ⟨v,?_,h2⟩
   have nr:d.refKey=false:=by unfold DictEntry.refKey; rw [hk]
   unfold getL at h1
   dsimp only
   rw [List.any_cons,nr,Bool.false_or]
   exact h1
theorem gT.inst{l:Nat}{h:Heap}(l':gT x.T x.CT x.nd (x.prog,x.w) J H O L h){i C d:Nat}{es:List (Nat × GV)}{a:Addr}(hi:H.get i=.inst C d)(hd:H.get d=.idict es)(ha:J.as[i]?=some a) :
  ∃cx dx ds n,x.CT[C]?=some cx/\J.as[d]?=some dx/\dy x.T x.nd J es ds/\InstAt h a (instObj cx dx) cx (some (dictOf ds n)):=by
 symm
 obtain ⟨o,o1,q0,q0,o2⟩:=(l'.obj ha)
 rw [hi] at o2
 obtain ⟨q0,q0,rfl,hc,hdx⟩:=o2
 obtain ⟨p,p1,q0,q0,p2⟩:=(l'.obj hdx)
 rw [hd] at p2
 obtain ⟨q0,n,rfl,he⟩:=p2
 symm
 exact ⟨_,_,_,n,hc,hdx,he,⟨o1,rfl,rfl,p1⟩⟩
def Fb(g:GV)(b:Bool):Bool:=@GV.rec (fun q0=>Bool) false b (fun q0=>b) (fun q0=>b) (fun q0=>b) (fun q0=>b) (fun v=>match handedIn v with | true=>b | false=>false) (fun q0=>b) false g
theorem Dc{g:GV}{b:Bool}(h:Fb g b=true):g≠.nul/\b=true/\∀(T:List Str) (J:az) v,Is T J g v->handedIn v=true:=by
 cases g with
 | nul=>cases h
 | old v=>
  have h':(match handedIn v with | true=>b | false=>false)=true:=h
  cases q:handedIn v with
  | true=>rw [q] at h'; exact ⟨(by intro e; cases e),h',fun T J v' i=>by cases i; exact q⟩
  | false=>rw [q] at h'; cases h'
 | unk=>cases h
 | none=>exact ⟨(by intro e; cases e),h,fun T J v i=>by cases i; rfl⟩
 | bool b=>exact ⟨(by intro e; cases e),h,fun T J v i=>by cases i; rfl⟩
 | int e=>exact ⟨(by intro e; cases e),h,fun T J v i=>by obtain ⟨q0,rfl,q0⟩:=i; rfl⟩
 | str e=>exact ⟨(by intro e; cases e),h,fun T J v i=>by obtain ⟨q0,q0,rfl,q0⟩:=i; rfl⟩
 | byt e=>exact ⟨(by intro e; cases e),h,fun T J v i=>by obtain ⟨q0,rfl,q0⟩:=i; rfl⟩
 | own e=>exact ⟨(by intro e; cases e),h,fun T J v i=>by obtain ⟨q0,rfl,q0⟩:=i; rfl⟩
def DW(a:Nat):wH:=fun g H nx R k=>bU g fun i=>hV (H.get i) fun C d=>eW (H.get d) fun es=>let r:=dX es a; Fb r (k r H nx R)
theorem CL(hT:x.T.Nodup){a:Nat}{t:Str}(ht:x.T[a]?=some t)(hn:aS x t)(ex:Bool):EJ x d (DW a) fun v=>getAttr v t ex:=by
 intro g H nx R k h A O L m J s u Q E Hh S iu hQ
 symm
 obtain ⟨i,rfl,h⟩:=bn h
 obtain ⟨C,dd,hi,h⟩:=fc h
 obtain ⟨es,hd,h⟩:=dK h
 obtain ⟨n0,h,hh⟩:=Dc h
 obtain ⟨q0,rfl,ha⟩:=iu
 obtain ⟨cx,dx,ds,n,h1,h2,h3,h4⟩:=(S.led.inst (l:=0) hi hd ha)
 obtain ⟨v,v1,v2⟩:=(h3.look hT ht (lG n0))
 obtain ⟨c1,c2,c3,q0⟩:=(hn cx (List.mem_of_getElem? h1))
 symm
 exact get_own S.fr Hh.X h4 c1 c2 c3 rfl v1 (hh _ _ _ v2) (hQ.now S v2 h _)
def aH(f:EV)(a:Nat):EV:=fun H nx R loc k=>f H nx R loc fun g H nx R=>DW a g H nx R k
noncomputable def wC(e:Expr):Bool:=iN e 16
theorem ax(hT:x.T.Nodup){f:EV}{e:Expr}(hf:aK x d vs f e){a:Nat}{t:Str}(ht:x.T[a]?=some t)(hn:aS x t)(hc:wC e=true)(pos:Pos):aK x d vs (aH f a) (.Attribute e t pos):=by
 intro H nx R loc k h A env O L m J s Q E Hh En S Lo hQ
 refine Attribute_any_ (hf H nx R loc _ h A env O L m J s _ E Hh En S Lo fun J' H' nx' R' s' g v le S' hg hk=>?_) (by clear hf; cases e <;> first | rfl | cases hc)
 exact CL hT ht hn true g H' nx' R' k hk A O L m J' s' v Q E Hh S' hg (hQ.le le)
end
end
section
def Cw(l:List GV):Nat->Nat:=@List.rec GV (fun q0=>Nat->Nat) (fun a=>a) (fun q0 q0 ih a=>ih (Nat.add a 1)) l
theorem wG:∀(l:List GV) (a:Nat),Cw l a=a+l.length
 | [],_=>rfl
 | g::l,a=>by
  show Cw l (a+1)=_
  rw [wG l (a+1),List.length_cons]; lia
def cQ(l:List GV):Nat:=Cw l 0
theorem cU(l:List GV):cQ l=l.length:=by unfold cQ; rw [wG]; lia
def mF(l:List GV)(i:Int):GV:=@Int.rec (fun q0=>GV) (fun k=>@Bool.rec (fun q0=>GV) .nul (ba l k) (Nat.ble k 1000)) (fun k=>@Bool.rec (fun q0=>GV) .nul (ba l (Nat.sub (cQ l) (Nat.succ k))) (Nat.ble k 1000&&Nat.ble (Nat.succ k) (cQ l))) i
theorem rG{l:List GV}{i:Int}(h:mF l i≠.nul):∃j,l[j]?=some (mF l i)/\seqIndex? i l.length=some j/\-(2 ^ 62)<=i/\i<2 ^ 62/\((0<=i/\j=i.toNat)∨(i<0/\-(l.length:Int)<=i/\j=(i+l.length).toNat)):=by
 cases i with
 | ofNat k=>
  have e:mF l (.ofNat k)=@Bool.rec (fun q0=>GV) .nul (ba l k) (Nat.ble k 1000):=rfl
  rw [e] at h ⊢
  cases q:Nat.ble k 1000 with
  | false=>rw [q] at h; exact absurd rfl h
  | true=>
   rw [q] at h
   have a:=kR h
   have b:=aN a
   have c:=Nat.le_of_ble_eq_true q
   refine ⟨k,a,?_,by simp only [Int.ofNat_eq_natCast]; lia,by simp only [Int.ofNat_eq_natCast]; lia,.inl ⟨by simp,by simp⟩⟩
   unfold seqIndex?
   have h1:¬ (Int.ofNat k<0):=by simp only [Int.ofNat_eq_natCast]; lia
   have h2:(0:Int)<=Int.ofNat k:=by simp only [Int.ofNat_eq_natCast]; lia
   have h3:Int.ofNat k<(l.length:Int):=by simp only [Int.ofNat_eq_natCast]; lia
   simp only [h1,if_false,h2,h3,decide_true,Bool.and_self,if_true]
   rfl
 | negSucc k=>
  have e:mF l (.negSucc k)=@Bool.rec (fun q0=>GV) .nul (ba l (cQ l - (k+1))) (Nat.ble k 1000&&Nat.ble (k+1) (cQ l)):=rfl
  rw [e] at h ⊢
  cases q:(Nat.ble k 1000&&Nat.ble (k+1) (cQ l)) with
  | false=>rw [q] at h; exact absurd rfl h
  | true=>
   rw [q] at h
   obtain ⟨q1,q2⟩:=Bool.and_eq_true_iff.mp q
   have c:=Nat.le_of_ble_eq_true q1
   have c2:=Nat.le_of_ble_eq_true q2
   rw [cU] at c2
   have a:=kR h
   dsimp only
   have en:(Int.negSucc k) = -((k:Int)+1):=Int.negSucc_eq k
   rw [cU] at a ⊢
   refine ⟨l.length - (k+1),a,?_,by lia,by lia,.inr ⟨by lia,by lia,by lia⟩⟩
   unfold seqIndex?
   have h1:Int.negSucc k<0:=by lia
   have h2:(0:Int)<=Int.negSucc k+(l.length:Int):=by lia
   have h3:Int.negSucc k+(l.length:Int)<(l.length:Int):=by lia
   simp only [h1,if_true,h2,h3,decide_true,Bool.and_self]
   congr 1
   lia
def DR(l:List GI):Nat->GV:=@List.rec GI (fun q0=>Nat->GV) (fun q0=>.nul) (fun g q0 ih k=>@Nat.rec (fun q0=>GV) (.int g) (fun k q0=>ih k) k) l
theorem wZ:∀{l:List GI} {k:Nat},DR l k≠.nul->∃e,DR l k=.int e/\l[k]?=some e
 | [],_,h=>absurd rfl h
 | g::l,0,_=>⟨g,rfl,rfl⟩
 | g::l,k+1,h=>by rw [List.getElem?_cons_succ]; exact wZ (l:=l) (k:=k) h
def pZ(l:List (Int × GV)):Int->GV:=@List.rec (Int × GV) (fun q0=>Int->GV) (fun q0=>.nul) (fun p q0 ih k=>@Bool.rec (fun q0=>GV) (ih k) p.2 (cV p.1 k)) l
def eJ(o:GO)(kl kt:List GV->Bool)(ki:List (Int × GV)->Bool)(ks:List (Nat × GV)->Bool):Bool:=@GO.rec (fun q0=>Bool) false (fun l=>kl l) (fun l=>kt l) (fun C d=>false) (fun es=>false) false (fun l=>ki l) (fun l=>ks l) (fun g=>false) (fun q0=>false) (fun q0 q0=>false) (fun q0 q0=>false) (fun q0 q0=>false) (fun q0=>false) (fun q0=>false) (fun q0=>false) false (fun q0=>false) (fun q0 q0=>false) (fun q0 q0=>false) (fun q0 q0=>false) (fun q0 q0=>false) (fun q0 q0=>false) o
theorem dT{o:GO}{kl kt:List GV->Bool}{ki:List (Int × GV)->Bool}{ks:List (Nat × GV)->Bool}(h:eJ o kl kt ki ks=true):(∃l,o=.list l/\kl l=true)∨(∃l,o=.tuple l/\kt l=true)∨(∃l,o=.di l/\ki l=true)∨(∃l,o=.ds l/\ks l=true):=by
 cases o <;> first | (cases h; done) | exact .inl ⟨_,rfl,h⟩ | exact .inr (.inl ⟨_,rfl,h⟩) | exact .inr (.inr (.inl ⟨_,rfl,h⟩)) | exact .inr (.inr (.inr ⟨_,rfl,h⟩))
section
variable {x:aQ} {d:Nat} {vs:aq} {J:az} {H:Tr} {nx:Nat} {R:Rn} {O:Heap} {L:Addr} {m:Str->Option Value} {s:Shared} {A:Around} {E:Value->Shared->Prop} {Q:Value->Shared->Prop} {k:KV}
theorem eT.look{T:List Str}{es:List (Int × GV)}{ds:List (Int × Value)}(h:eT T J es ds){i:Int}(n:pZ es i≠.nul):∃v,valueAt ds i=some v/\Is T J (pZ es i) v:=by
 induction h with
 | nil=>exact absurd rfl n
 | @cons j g v es ds hv r ih=>
  have e:pZ ((j,g)::es) i=@Bool.rec (fun q0=>GV) (pZ es i) g (cV j i):=rfl
  rw [e] at n ⊢
  unfold valueAt
  rw [List.find?_cons]
  cases q:cV j i with
  | true=>
   have:j=i:=eq_of_beq (cv q)
   subst this
   simp only [decide_true]
   exact ⟨v,rfl,hv⟩
  | false=>
   have ne:j≠i:=fun z=>by subst z; have:=cv q; simp at this
   rw [q] at n
   simp only [ne,decide_false]
   exact ih n
theorem cF{T:List Str}(hT:T.Nodup){a b:Nat}{t u:Str}(h1:T[a]?=some t)(h2:T[b]?=some u):(t=u↔a=b):=by
 constructor
 ·intro q; subst q
  exact (List.getElem?_inj (aN h1) hT).mp (h1.trans h2.symm)
 ·intro q; subst q; rw [h1] at h2; exact Option.some.inj h2
theorem gk.look{T:List Str}(hT:T.Nodup){es:List (Nat × GV)}{ds:List (Str × Value)}(h:gk T J es ds){i:Nat}{t:Str}(ht:T[i]?=some t)(n:dX es i≠.nul):∃v,valueAt ds t=some v/\Is T J (dX es i) v:=by
 induction h with
 | nil=>exact absurd rfl n
 | @cons j y g v es ds hy hv r ih=>
  have e:dX ((j,g)::es) i=@Bool.rec (fun q0=>GV) (dX es i) g (Nat.beq j i):=rfl
  rw [e] at n ⊢
  unfold valueAt
  rw [List.find?_cons]
  cases q:Nat.beq j i with
  | true=>
   have:j=i:=Nat.eq_of_beq_eq_true q
   have:y=t:=(cF hT hy ht).mpr this
   subst this
   simp only [decide_true]
   exact ⟨v,rfl,hv⟩
  | false=>
   have ne:y≠t:=fun z=>Nat.ne_of_beq_eq_false q ((cF hT hy ht).mp z)
   rw [q] at n
   simp only [ne,decide_false]
   exact ih n
noncomputable def oG(e:Expr):Bool:=iN e 26
theorem gD{e:Expr}(h:oG e=true)(o i:Value):subscripted e false o i=operate [o,i] (getItem o i):=by
 cases e <;> first | (cases h; done) | rfl
def KI(i:Int)(g:GV)(H:Tr)(k:GV->Bool):Bool:=@GV.rec (fun q0=>Bool) false false (fun q0=>false) (fun q0=>false) (fun q0=>false) (fun l=>@Int.rec (fun q0=>Bool) (fun n=>@Bool.rec (fun q0=>Bool) false (k (DR l n)) (Nat.ble l.length 1000)) (fun q0=>false) i) (fun q0=>false)
 (fun a=>eJ (H.get a) (fun l=>k (mF l i)) (fun l=>k (mF l i)) (fun l=>k (pZ l i)) fun q0=>false) false g
def MZ(t:Nat)(g:GV)(H:Tr)(k:GV->Bool):Bool:=bU g fun a=>eJ (H.get a) (fun q0=>false) (fun q0=>false) (fun q0=>false) fun l=>k (dX l t)
def PA:rU:=fun g h H nx R k=>@GV.rec (fun q0=>Bool) false false (fun q0=>false) (fun e=>qz e fun i=>KI i g H fun r=>eD r (k r H nx R)) (fun t=>MZ t g H fun r=>eD r (k r H nx R)) (fun q0=>false) (fun q0=>false) (fun q0=>false) false h
theorem CM{i:Int}(h0:0<=i)(h1:i<256):((UInt8.ofNat i.toNat).toNat:Int)=i:=by
 rw [UInt8.toNat_ofNat']
 lia
theorem Gz(hT:x.T.Nodup){value slice:Expr}(hp:oG slice=true):wB x d PA fun o i=>subscriptTail value slice o i:=by
 intro g h H nx R k hh A O L m J s u v Q E Hh S iu iv hQ
 cases h with
 | int e=>
  obtain ⟨i,rfl,hh⟩:=(kQ hh)
  obtain ⟨t,rfl,ok⟩:=iv
  cases g with
  | byt l=>
   obtain ⟨tk,rfl,hl⟩:=iu
   cases i with
   | negSucc _=>cases hh
   | ofNat n=>
    obtain ⟨hz,hh⟩:=aJ hh
    obtain ⟨n0,hh⟩:=cP hh
    obtain ⟨e,e1,e2⟩:=(wZ n0)
    obtain ⟨o1,o2,o3⟩:=(hl e (List.mem_of_getElem? e2))
    have lt:=aN e2
    have hz:=Nat.le_of_ble_eq_true hz
    have q:((l.map (GI.ev J.ns)).map fun i=>UInt8.ofNat i.toNat).length=l.length:=by simp
    refine tail_any (typeIs_bytes _ _ _) FB.slot_bytes_getitem.lookup ?_ (gD hp _ _)
    refine getItem_bytes (by rw [q]; lia) (by show (0:Int)<=(n:Int); lia) (by rw [q]; show (n:Int)<_; lia) ?_
    have val:(((l.map (GI.ev J.ns)).map fun i=>UInt8.ofNat i.toNat).getD (Int.toNat (GI.ev J.ns (.lit (.ofNat n)))) 0).toNat=(e.ev J.ns):=by
     show (((l.map (GI.ev J.ns)).map fun i=>UInt8.ofNat i.toNat).getD n 0).toNat=(e.ev J.ns)
     rw [List.getD_eq_getElem?_getD,List.getElem?_map,List.getElem?_map,e2]
     exact CM o2 o3
    rw [val]
    rw [e1] at hh
    exact hQ.now S (.int _ o1) hh _
  | own a=>
   obtain ⟨q0,rfl,ha⟩:=iu
   rcases dT hh with ⟨l,hl,hh⟩ | ⟨l,hl,hh⟩ | ⟨l,hl,hh⟩ | ⟨l,hl,hh⟩
   ·obtain ⟨o,o1,q0,q0,o2⟩:=(S.led.obj ha)
    rw [hl] at o2
    obtain ⟨q0,n,rfl,hs⟩:=o2
    obtain ⟨n0,hh⟩:=cP hh
    obtain ⟨j,j1,j2,j3,j4,j5⟩:=(rG n0)
    obtain ⟨v,v1,v2⟩:=(hs.get j1)
    have hl:s.heap.IsList _ _:=⟨_,o1,rfl,n,rfl⟩
    refine tail_any hl.typeIs slot_list_getitem.lookup ?_ (gD hp _ _)
    rcases j5 with ⟨a,b⟩ | ⟨a,b,c⟩
    ·exact wpAny_getItem_list hl a (by show i<_; lia) (by show _[Int.toNat i]?=_; rw [<- b]; simpa using v1) (hQ.here S v2 hh)
    ·refine wpAny_getItem_list_neg hl a ?_ (by show _<=i; lia) ?_ (hQ.here S v2 hh)
     ·rw [List.size_toArray,<- hs.length]; exact b
     ·rw [List.size_toArray,<- hs.length]; show _[Int.toNat (i+_)]?=_; rw [<- c]; simpa using v1
   ·obtain ⟨o,o1,q0,q0,o2⟩:=(S.led.obj ha)
    rw [hl] at o2
    obtain ⟨q0,rfl,hs⟩:=o2
    obtain ⟨n0,hh⟩:=cP hh
    obtain ⟨j,j1,j2,j3,j4,j5⟩:=(rG n0)
    obtain ⟨v,v1,v2⟩:=(hs.get j1)
    have ht:IsTup s.heap _ _:=⟨_,o1,rfl,_,rfl⟩
    exact item_tupleT ht (by show _<=i; lia) (by show i<_; lia) (by rw [<- hs.length]; exact j2) v1 (hQ.here S v2 hh) (gD hp _ _)
   ·obtain ⟨o,o1,q0,q0,o2⟩:=(S.led.obj ha)
    rw [hl] at o2
    obtain ⟨q0,hd,hs⟩:=o2
    obtain ⟨n0,hh⟩:=cP hh
    obtain ⟨v,v1,v2⟩:=(hs.look n0)
    have hD:s.heap.DictOf (PySem.intKind x.prog x.w) _ _:=Heap.dictOf_iff.mpr ⟨o,o1,hd⟩
    refine tail_any hD.typeIs slot_dict_getitem.lookup ?_ (gD hp _ _)
    exact wpAny_getItem_of (knd:=PySem.intKind x.prog x.w) (k:=i) (by show (i == i)=true; exact beq_self_eq_true _) hD.mapOf v1 (hQ.now S v2 hh _)
   ·cases hh
  | _=>cases hh
 | str t=>
  obtain ⟨q0,tk,rfl,ht⟩:=iv
  obtain ⟨a,rfl,hh⟩:=bn hh
  obtain ⟨q0,rfl,ha⟩:=iu
  rcases dT hh with ⟨l,hl,hh⟩ | ⟨l,hl,hh⟩ | ⟨l,hl,hh⟩ | ⟨l,hl,hh⟩
  ·cases hh
  ·cases hh
  ·cases hh
  ·obtain ⟨o,o1,q0,q0,o2⟩:=(S.led.obj ha)
   rw [hl] at o2
   obtain ⟨q0,hd,hs⟩:=o2
   obtain ⟨n0,hh⟩:=cP hh
   obtain ⟨v,v1,v2⟩:=(hs.look hT ht n0)
   have hD:s.heap.DictOf (PySem.strKind x.prog x.w) _ _:=Heap.dictOf_iff.mpr ⟨o,o1,hd⟩
   refine tail_any hD.typeIs slot_dict_getitem.lookup ?_ (gD hp _ _)
   exact wpAny_getItem_of (knd:=PySem.strKind x.prog x.w) (by show (_ == _)=true; exact beq_self_eq_true _) hD.mapOf v1 (hQ.now S v2 hh _)
 | _=>cases hh
def aP(f g:EV):EV:=fun H nx R loc k=>f H nx R loc fun a H nx R=>g H nx R loc fun b H nx R=>PA a b H nx R k
theorem GJ(hT:x.T.Nodup){f g:EV}{e i:Expr}(hf:aK x d vs f e)(hg:aK x d vs g i)(hp:oG i=true)(pos:Pos):aK x d vs (aP f g) (.Subscript e i pos):=by
 intro H nx R loc k h A env O L m J s Q E Hh En S Lo hQ
 refine Subscript_ (hf H nx R loc _ h A env O L m J s _ E Hh En S Lo fun J' H' nx' R' s' a v le S' ha hk=>?_)
 refine hg H' nx' R' loc _ hk A env O L m J' s' _ E Hh En S' (Lo.more le) fun J'' H'' nx'' R'' s'' b u le' S'' hb hk'=>?_
 exact Gz hT hp a b H'' nx'' R'' k hk' A O L m J'' s'' v u Q E Hh S'' (ha.more le') hb (hQ.le (le.trans le'))
end
end
section
def fL(l:List GV)(k:List GV->Bool):Bool:=@List.rec GV (fun q0=>(List GV->Bool)->Bool) (fun k=>k []) (fun g q0 ih k=>ih fun r=>k (g::r)) l k
theorem nh:∀(l:List GV) (k:List GV->Bool),fL l k=k l
 | [],_=>rfl
 | g::l,k=>nh l fun r=>k (g::r)
def Wd(l:List GV):List GV:=@List.rec GV (fun q0=>List GV) [] (fun q0 r q0=>r) l
def ny(n:Nat):List GV->List GV:=@Nat.rec (fun q0=>List GV->List GV) (fun l=>l) (fun q0 ih l=>ih (Wd l)) n
theorem jZ:∀(n:Nat) (l:List GV),ny n l=l.drop n
 | 0,l=>rfl
 | n+1,[]=>by show ny n []=_; rw [jZ n]; simp
 | n+1,_::l=>jZ n l
def xB(n:Nat):List GV->List GV:=@Nat.rec (fun q0=>List GV->List GV) (fun q0=>[]) (fun q0 ih l=>@List.rec GV (fun q0=>List GV) [] (fun g r q0=>g::ih r) l) n
theorem vD:∀(n:Nat) (l:List GV),xB n l=l.take n
 | 0,l=>by show []=_; simp
 | n+1,[]=>rfl
 | n+1,g::l=>by show g::xB n l=_; rw [vD n]; rfl
def mr(l r:List GV):List GV:=@List.rec GV (fun q0=>List GV) r (fun g q0 ih=>g::ih) l
theorem im:∀(l r:List GV),mr l r=l++r
 | [],_=>rfl
 | g::l,r=>congrArg (g::·) (im l r)
def nZ(l:List GV):List GV->List GV:=@List.rec GV (fun q0=>List GV->List GV) (fun a=>a) (fun g q0 ih a=>ih (g::a)) l
theorem wX:∀(l a:List GV),nZ l a=l.reverse++a
 | [],_=>rfl
 | g::l,a=>by show nZ l (g::a)=_; rw [wX l]; simp
section
variable {x:aQ} {d:Nat} {vs:aq} {J:az} {H:Tr} {nx:Nat} {R:Rn} {O:Heap} {L:Addr} {m:Str->Option Value} {s:Shared} {A:Around} {E:Value->Shared->Prop} {Q:Value->Shared->Prop} {k:KV}
def yY(g:GV)(dflt:Nat)(k:Nat->Bool):Bool:=@GV.rec (fun q0=>Bool) false (k dflt) (fun q0=>false) (fun e=>qz e fun i=>@Int.rec (fun q0=>Bool) (fun n=>k n) (fun q0=>false) i) (fun q0=>false) (fun q0=>false) (fun q0=>false) (fun q0=>false) false g
theorem ve{g:GV}{dflt:Nat}{k:Nat->Bool}(h:yY g dflt k=true):∃(o:Option Int) (n:Nat),k n=true/\((o=none/\n=dflt)∨o=some (n:Int))/\∀(T:List Str) (J:az) v,Is T J g v->IsPart v o:=by
 cases g with
 | none=>exact ⟨none,dflt,h,.inl ⟨rfl,rfl⟩,fun T J v i=>by cases i; exact .none⟩
 | int e=>
  obtain ⟨i,rfl,h⟩:=(kQ h)
  cases i with
  | ofNat n=>exact ⟨some n,n,h,.inr rfl,fun T J v i=>by obtain ⟨t,rfl,o⟩:=i; exact .int _ t⟩
  | negSucc n=>cases h
 | _=>cases h
def cut(l:List GV)(a b:Nat):List GV:=xB (Nat.sub b a) (ny a l)
def Qr(g gl gh:GV)(H:Tr)(nx:Nat)(R:Rn)(k:KV):Bool:=bU g fun i=>eJ (H.get i)
 (fun l=>yY gl 0 fun a=>yY gh (cQ l) fun b=>@Bool.rec (fun q0=>Bool) false (fL (cut l a b) fun r=>mk (.list r) H nx R k) (fk 1000 l))
 (fun q0=>false)
 (fun q0=>false) (fun q0=>false)
theorem zO{α:Type}(l:List α)(a b:Nat):(l.drop (min a l.length)).take (min b l.length - min a l.length)=(l.drop a).take (b - a):=by
 by_cases h:a<=l.length
 ·rw [Nat.min_eq_left h]
  by_cases h2:b<=l.length
  ·rw [Nat.min_eq_left h2]
  ·rw [Nat.min_eq_right (by lia),List.take_of_length_le (by rw [List.length_drop]; lia),List.take_of_length_le (by rw [List.length_drop]; lia)]
 ·rw [show min a l.length=l.length by lia,List.drop_of_length_le (Nat.le_refl _),List.drop_of_length_le (by lia)]; simp
theorem BV{l:List Value}{lo hi:Option Int}{a b:Nat}(ha:(lo=none/\a=0)∨lo=some (a:Int))(hb:(hi=none/\b=l.length)∨hi=some (b:Int)):(slicePick l.toArray lo hi none).toList=(l.drop a).take (b - a):=by
 rw [slicePick_plain]
 have e1:lo.elim 0 (clipAt l.toArray.size)=min a l.length:=by
  rcases ha with ⟨rfl,rfl⟩ | rfl
  ·simp
  ·show clipAt _ _=_; rw [clipAt_nat,List.size_toArray]
 have e2:hi.elim l.toArray.size (clipAt l.toArray.size)=min b l.length:=by
  rcases hb with ⟨rfl,rfl⟩ | rfl
  ·simp
  ·show clipAt _ _=_; rw [clipAt_nat,List.size_toArray]
 rw [e1,e2]
 exact zO l a b
end
end
section
section
variable {x:aQ} {d:Nat} {vs:aq} {J:az} {H:Tr} {nx:Nat} {R:Rn} {O:Heap} {L:Addr} {m:Str->Option Value} {s:Shared} {A:Around} {E:Value->Shared->Prop} {Q:Value->Shared->Prop} {k:KV}
theorem be.cut{T:List Str}{gs:List GV}{vs:List Value}(h:be T J gs vs)(a b:Nat):be T J (cut gs a b) ((vs.drop a).take (b - a)):=by
 unfold Internal.N.cut
 rw [vD,jZ]
 exact (h.drop a).take _
theorem Bt{o1 o:Obj}{g:GO}(h:mk g H nx R k=true)(S:St x J H nx R O L m s)(hQ:fj x J O L m k Q)(f:o.isFreed=false)(hg:∀J',J.le J'->aL x.T x.CT x.nd (x.prog,x.w) J' g o) :
  Q (.ref (s.heap.push o1).objs.size) { s with heap:=(s.heap.push o1).push o }:=by
 obtain ⟨os,hos,e,N⟩:=S.led.at_
 have N1:=News.push (S.fr.push o1) (N.grown fun q0 q0 e=>Heap.get?_push_of_some _ e) o f
 exact gr h S hQ hos e ((S.fr.push _).push _) N1 (fun p hp=>by rw [Heap.size_push]; exact Nat.lt_succ_of_lt (Heap.lt_size (N p hp).1)) (hg _ (az.le_push _ _)) s.toks
theorem gM{o:Obj}{g:GO}(h:mk g H nx R k=true)(S:St x J H nx R O L m s)(hQ:fj x J O L m k Q)(f:o.isFreed=false)(hg:∀J',J.le J'->aL x.T x.CT x.nd (x.prog,x.w) J' g o)(tk:Nat) :
  Q (.ref s.heap.objs.size) { s with heap:=s.heap.push o,toks:=tk }:=by
 obtain ⟨os,hos,e,N⟩:=S.led.at_
 have N1:=News.push S.fr N o f
 exact gr h S hQ hos e (S.fr.push _) N1 (fun p hp=>Heap.lt_size (N p hp).1) (hg _ (az.le_push _ _)) tk
theorem Gb{value:Expr}{lo hi:Option Expr}{p:Pos}{g gl gh:GV}{u vl vu:Value}(h:Qr g gl gh H nx R k=true)(S:St x J H nx R O L m s)(iu:Is x.T J g u)(il:Is x.T J gl vl)(ih:Is x.T J gh vu)(hQ:fj x J O L m k Q) :
  wpAny (model x.prog x.w) A (subscriptTail value (.Slice lo hi none p) u (.ref s.heap.objs.size)) Q E { s with heap:=s.heap.push { cls:=.type "slice",data:=.fields #[vl,vu,.none] } }:=by
 symm
 obtain ⟨i,rfl,h⟩:=bn h
 obtain ⟨q0,rfl,ha⟩:=iu
 symm
 rcases dT h with ⟨l,hl,h⟩ | ⟨l,hl,h⟩ | ⟨l,hl,h⟩ | ⟨l,hl,h⟩
 ·obtain ⟨o,o1,q0,q0,o2⟩:=(S.led.obj ha)
  rw [hl] at o2
  symm
  obtain ⟨us,n,rfl,hs⟩:=o2
  obtain ⟨oa,a,h,ea,pa⟩:=ve h
  obtain ⟨ob,b,h,eb,pb⟩:=ve h
  obtain ⟨hz,h⟩:=aJ h
  symm
  rw [nh] at h
  rw [cU,hs.length] at eb
  have hz:=cX hz
  have hl:s.heap.IsList _ us.toArray:=⟨_,o1,rfl,n,rfl⟩
  refine tail_any (ops:=[.ref s.heap.objs.size,_]) (Heap.IsList.typeIs (s:={ s with heap:=s.heap.push { cls:=.type "slice",data:=.fields #[vl,vu,.none] } }) (hl.push _)) list_getitem_lookup
   (wpAny_getItem_list_slice (hl.push _) (Heap.IsSliceOf.new ..) (pa _ _ _ il) (pb _ _ _ ih) .none (by simp) ?_ (by rw [List.size_toArray,<- hs.length]; exact Nat.le_trans hz (by decide))) rfl
  refine Bt h S hQ rfl fun J' le=>?_
  have e:=BV ea eb
  rw [<- Array.toArray_toList (xs:=slicePick us.toArray oa ob none),e]
  exact .list 0 ((hs.more le).cut a b)
 ·cases h
 ·cases h
 ·cases h
def eI(x:aQ)(d:Nat)(vs:aq)(f:EV)(e:Option Expr):Prop:=
 ∀H nx R loc k,f H nx R loc k=true->∀(A:Around) (env:Env) (O:Heap) (L:Addr) (m:Str->Option Value) (J:az) (s:Shared) (Q E:Value->Shared->Prop),
  cj x d A O L->bP env L->St x J H nx R O L m s->bq x J env L m vs loc->fj x J O L m k Q->wpAny (model x.prog x.w) A (evalPart e env) Q E s
theorem eI.none:eI x d vs (bj .none) none:=fun H nx R loc k h A env O L m J s Q E Hh En S Lo hQ=>wpAny_pure (hQ.here S .none h)
theorem eI.some{f:EV}{e:Expr}(h:aK x d vs f e):eI x d vs f (some e):=h
def rE(f a b:EV):EV:=fun H nx R loc k=>f H nx R loc fun g H nx R=>a H nx R loc fun gl H nx R=>b H nx R loc fun gh H nx R=>Qr g gl gh H nx R k
theorem lj{f a b:EV}{e:Expr}{lo hi:Option Expr}(hf:aK x d vs f e)(ha:eI x d vs a lo)(hb:eI x d vs b hi)(p pos:Pos):aK x d vs (rE f a b) (.Subscript e (.Slice lo hi none p) pos):=by
 intro H nx R loc k h A env O L m J s Q E Hh En S Lo hQ
 refine Subscript_ (hf H nx R loc _ h A env O L m J s _ E Hh En S Lo fun J1 H1 nx1 R1 s1 g1 v1 le1 S1 i1 h1=>?_)
 refine wpAny_Slice (ha H1 nx1 R1 loc _ h1 A env O L m J1 s1 _ E Hh En S1 (Lo.more le1) fun J2 H2 nx2 R2 s2 g2 v2 le2 S2 i2 h2=>?_)
 refine hb H2 nx2 R2 loc _ h2 A env O L m J2 s2 _ E Hh En S2 (Lo.more (le1.trans le2)) fun J3 H3 nx3 R3 s3 g3 v3 le3 S3 i3 h3=>?_
 exact wpAny_pure (Gb h3 S3 (i1.more (le2.trans le3)) (i2.more le3) i3 (hQ.le (le1.trans (le2.trans le3))))
end
end
section
open PySem.SeqAt (EqAt RcAt)
open PySem.SeqAt hiding EqAt RcAt
section
variable {x:aQ} {d:Nat} {vs:aq} {J:az} {H:Tr} {nx:Nat} {R:Rn} {O:Heap} {L:Addr} {m:Str->Option Value} {s:Shared} {A:Around} {E:Value->Shared->Prop} {Q:Value->Shared->Prop} {k:KV}
abbrev EQ:=GV->GV->Tr->Rn->(Bool->Rn->Bool)->Bool
def Ej(f:EQ)(l:List GV):List GV->Tr->Rn->Bool:=@List.rec GV (fun q0=>List GV->Tr->Rn->Bool) (fun q0 q0 q0=>true)
 (fun g q0 ih r H R=>@List.rec GV (fun q0=>Bool) true (fun h r q0=>@Bool.rec (fun q0=>Bool) false (ih r H R) (fP g (fun q0=>fP h fun q0=>true)||f g h H R fun q0 q0=>true)) r) l
def yi(f:EQ)(l:List GV):List GV->Tr->Rn->(Bool->Rn->Bool)->Bool:=@List.rec GV (fun q0=>List GV->Tr->Rn->(Bool->Rn->Bool)->Bool) (fun q0 q0 R k=>k true R)
 (fun g l ih r H R k=>@List.rec GV (fun q0=>Bool) (k true R) (fun h r q0=>f g h H R fun b R=>@Bool.rec (fun q0=>Bool) (@Bool.rec (fun q0=>Bool) false (k false R) (Ej f l r H R)) (ih r H R k) b) r) l
def E9(f:EQ)(i j:Nat)(H:Tr)(R:Rn)(k:Bool->Rn->Bool):Bool:=eJ (H.get i)
 (fun l=>eJ (H.get j) (fun r=>@Bool.rec (fun q0=>Bool) (k false R) (yi f l r H R k) (Nat.beq (cQ l) (cQ r))) (fun q0=>k false R) (fun q0=>false) (fun q0=>false))
 (fun l=>eJ (H.get j) (fun q0=>k false R) (fun r=>yi f l r H R fun b R=>k (b&&Nat.beq (cQ l) (cQ r)) R) (fun q0=>false) (fun q0=>false)) (fun q0=>false) (fun q0=>false)
def MQ(h:GV)(R:Rn)(k:Bool->Rn->Bool):Bool:=@GV.rec (fun q0=>Bool) false (k true R) (fun q0=>false) (fun q0=>false) (fun q0=>false) (fun q0=>false) (fun q0=>false) (fun q0=>false) false h
def FI(a:Bool)(h:GV)(R:Rn)(k:Bool->Rn->Bool):Bool:=@GV.rec (fun q0=>Bool) false false (fun b=>k (a == b) R) (fun q0=>false) (fun q0=>false) (fun q0=>false) (fun q0=>false) (fun q0=>false) false h
def NH(a:GI)(h:GV)(R:Rn)(k:Bool->Rn->Bool):Bool:=@GV.rec (fun q0=>Bool) false false (fun q0=>false) (fun b=>W3 a b R k) (fun q0=>false) (fun q0=>false) (fun q0=>false) (fun q0=>false) false h
def Me(a:Nat)(h:GV)(R:Rn)(k:Bool->Rn->Bool):Bool:=@GV.rec (fun q0=>Bool) false false (fun q0=>false) (fun q0=>false) (fun b=>k (Nat.beq a b) R) (fun q0=>false) (fun q0=>false) (fun q0=>false) false h
def PM(o:Nat->Nat->Tr->Rn->(Bool->Rn->Bool)->Bool)(i:Nat)(h:GV)(H:Tr)(R:Rn)(k:Bool->Rn->Bool):Bool:=@GV.rec (fun q0=>Bool) false false (fun q0=>false) (fun q0=>false) (fun q0=>false) (fun q0=>false) (fun q0=>false) (fun j=>o i j H R k) false h
def xo(l:List GI):List GI->Bool:=@List.rec GI (fun q0=>List GI->Bool) (fun r=>@List.rec GI (fun q0=>Bool) true (fun q0 q0 q0=>false) r) (fun e q0 ih r=>@List.rec GI (fun q0=>Bool) false (fun f r q0=>GI.beq e f&&ih r) r) l
theorem tO:∀{l r:List GI},xo l r=true->l=r
 | [],[],_=>rfl
 | [],_::_,h=>by cases h
 | _::_,[],h=>by cases h
 | e::l,f::r,h=>by
  obtain ⟨h1,h2⟩:=Bool.and_eq_true_iff.mp h
  rw [GI.beq_eq h1,tO h2]
def Iq(a:List GI)(h:GV)(R:Rn)(k:Bool->Rn->Bool):Bool:=@GV.rec (fun q0=>Bool) false false (fun q0=>false) (fun q0=>false) (fun q0=>false) (fun b=>@Bool.rec (fun q0=>Bool) false (k true R) (xo a b)) (fun q0=>false) (fun q0=>false) false h
theorem oW(b:Array UInt8)(t u:Tok):RcAt A s (.bytes b t) (.bytes b u) true:=fun prog w E Q h=>
 richCompare_gives (typeIs_bytes s b t) (typeIs_bytes s b u) FB.slot_bytes_eq FB.entry_bytes_eq (FB.args_bytes_eq_2 _ _) (gives_bytes_eq b b t u) (by simp [Made.takes]) (by rw [beq_self_eq_true]; exact h)
theorem vV(b:Array UInt8)(t u:Tok):RcNeAt A s (.bytes b t) (.bytes b u) false:=fun prog w E Q h=>
 richCompare_gives (typeIs_bytes s b t) (typeIs_bytes s b u) FB.slot_bytes_ne FB.entry_bytes_ne (FB.args_bytes_ne_2 _ _) (gives_bytes_ne b b t u) (by simp [Made.takes]) (by rw [bne_self_eq_false]; exact h)
theorem xv(b:Array UInt8)(t u:Tok):EqAt A s (.bytes b t) (.bytes b u) true:=by
 cases q:(Value.bytes b t == Value.bytes b u) with
 | true=>rw [eq_of_beq q]; exact .same _
 | false=>
  intro prog w E Q h
  unfold eqBool
  refine wpAny_holding ?_
  refine wpAny_ite_split (fun z=>absurd (q.symm.trans z) Bool.noConfusion) (fun q0=>?_)
  exact wpAny_bind (oW b t u prog w E _ (wpAny_truthy_bool h))
def x7(o:Nat->Nat->Tr->Rn->(Bool->Rn->Bool)->Bool):EQ:=fun g h H R k=>@GV.rec (fun q0=>Bool) false (MQ h R k) (fun a=>FI a h R k) (fun a=>NH a h R k) (fun a=>Me a h R k) (fun a=>Iq a h R k) (fun q0=>false) (fun i=>PM o i h H R k) false g
def tE(o:GO)(k:Nat->Bool)(e:Bool):Bool:=@GO.rec (fun q0=>Bool) e (fun q0=>e) (fun q0=>e) (fun q0 q0=>e) (fun q0=>e) e (fun q0=>e) (fun q0=>e) (fun q0=>e) (fun q0=>e) (fun q0 q0=>e) (fun q0 q0=>e) (fun q0 q0=>e) (fun q0=>e) (fun q0=>e) (fun a=>k a) e (fun q0=>e) (fun q0 q0=>e) (fun q0 q0=>e) (fun q0 q0=>e) (fun q0 q0=>e) (fun q0 q0=>e) o
theorem sd{o:GO}{k:Nat->Bool}{e:Bool}(h:tE o k e=true):(∃a,o=.flat a/\k a=true)∨e=true:=by cases o <;> first | exact .inr h | exact .inl ⟨_,rfl,h⟩
def sX(f:EQ)(i j:Nat)(H:Tr)(R:Rn)(k:Bool->Rn->Bool):Bool:=tE (H.get i) (fun a=>tE (H.get j) (fun b=>@Bool.rec (fun q0=>Bool) false (k true R) (Nat.beq a b)) false) (E9 f i j H R k)
def wL(n:Nat):EQ:=@Nat.rec (fun q0=>EQ) (fun q0 q0 q0 q0 q0=>false) (fun q0 ih=>x7 fun i j H R k=>@Bool.rec (fun q0=>Bool) (sX ih i j H R k) (k true R) (Nat.beq i j)) n
def Ew(n:Nat):EQ:=x7 fun i j H R k=>sX (wL n) i j H R k
structure vy (A:Around) (s:Shared) (u v:Value) (b:Bool):Prop where
 eq:RcAt A s u v b
 ne:RcNeAt A s u v (!b)
def oH(x:aQ)(n:Nat)(f:EQ):Prop:=∀g h H R k,f g h H R k=true->∀(J:az) (nx:Nat) (O:Heap) (L:Addr) (m:Str->Option Value) (s:Shared) (u v:Value),St x J H nx R O L m s->Is x.T J g u->Is x.T J h v->
 ∃b R',k b R'=true/\dh R' J.ns/\∀A:Around,A.units+n<cLine->EqAt A s u v b
theorem St.lst(S:St x J H nx R O L m s){i:Nat}{a:Addr}{l:List GV}(ha:J.as[i]?=some a)(hl:H.get i=.list l):∃us,s.heap.IsList a (List.toArray us)/\be x.T J l us:=by
 symm
 obtain ⟨o,o1,q0,q0,o2⟩:=(S.led.obj ha)
 rw [hl] at o2
 obtain ⟨q0,n,rfl,hs⟩:=o2
 symm
 exact ⟨_,⟨_,o1,rfl,n,rfl⟩,hs⟩
theorem St.tup(S:St x J H nx R O L m s){i:Nat}{a:Addr}{l:List GV}(ha:J.as[i]?=some a)(hl:H.get i=.tuple l):∃us,s.heap.IsTuple a (List.toArray us)/\be x.T J l us:=by
 symm
 obtain ⟨o,o1,q0,q0,o2⟩:=(S.led.obj ha)
 rw [hl] at o2
 obtain ⟨q0,rfl,hs⟩:=o2
 symm
 exact ⟨_,⟨_,o1,rfl,_,rfl⟩,hs⟩
theorem BR{n:Nat}{f:EQ}(hf:oH x n f)(l:List GV):∀(r:List GV) (H:Tr) (R:Rn),Ej f l r H R=true->∀(us vs:List Value),St x J H nx R O L m s->be x.T J l us->be x.T J r vs->
  ∃e:List Bool,e.length=min us.length vs.length/\∀(j:Nat) (u v:Value) (b:Bool),us[j]?=some u->vs[j]?=some v->e[j]?=some b->∀A:Around,A.units+n<cLine->EqAt A s u v b:=by
 induction l with
 | nil=>
  intro r H R h us vs S iu iv
  cases iu
  exact ⟨[],by simp,fun j u v b q=>by simp at q⟩
 | cons g l ih=>
  intro r H R h us vs S iu iv
  obtain ⟨u0,us,rfl,iu0,iur⟩:=fA iu
  cases iv with
  | nil=>exact ⟨[],by simp,fun j u v b q0 q=>by simp at q⟩
  | @cons h0 v0 r vs iv0 ivr=>
   obtain ⟨h1,h2⟩:=aJ h
   have e1:∃b,∀A:Around,A.units+n<cLine->EqAt A s u0 v0 b:=by
    rcases Bool.or_eq_true_iff.mp h1 with q | q
    ·obtain ⟨a,rfl,q2⟩:=dA q
     obtain ⟨c,rfl,q0⟩:=dA q2
     obtain ⟨t,rfl,q0⟩:=iu0
     obtain ⟨t',rfl,q0⟩:=iv0
     exact ⟨_,fun A q0=>.int_int _ _ _ _⟩
    ·obtain ⟨b,q0,q0,q0,e1⟩:=(hf _ _ _ _ _ q _ _ _ _ _ _ _ _ S iu0 iv0)
     exact ⟨b,e1⟩
   obtain ⟨b,e1⟩:=e1
   obtain ⟨e,hl,he⟩:=(ih r H R h2 us vs S iur ivr)
   refine ⟨b::e,by simp [hl],fun j u v c q1 q2 q3 A hA=>?_⟩
   cases j with
   | zero=>simp at q1 q2 q3; subst q1 q2 q3; exact e1 A hA
   | succ j=>simp at q1 q2 q3; exact he j u v c q1 q2 q3 A hA
theorem uT{n:Nat}{f:EQ}(hf:oH x n f)(l:List GV):∀(r:List GV) (H:Tr) (R:Rn) (k:Bool->Rn->Bool),yi f l r H R k=true->∀(us vs:List Value),St x J H nx R O L m s->be x.T J l us->be x.T J r vs->
  ∃(e:List Bool) (R':Rn),k (e.all id) R'=true/\dh R' J.ns/\e.length=min us.length vs.length/\∀(j:Nat) (u v:Value) (b:Bool),us[j]?=some u->vs[j]?=some v->e[j]?=some b->∀A:Around,A.units+n<cLine->EqAt A s u v b:=by
 induction l with
 | nil=>
  intro r H R k h us vs S iu iv
  cases iu
  exact ⟨[],R,h,S.rn,by simp,fun j u v b q=>by simp at q⟩
 | cons g l ih=>
  intro r H R k h us vs S iu iv
  symm
  obtain ⟨u0,us,rfl,iu0,iur⟩:=fA iu
  symm
  cases iv with
  | nil=>exact ⟨[],R,h,S.rn,by simp,fun j u v b q0 q=>by simp at q⟩
  | @cons h0 v0 r vs iv0 ivr=>
   symm
   obtain ⟨b,R1,h1,rn1,e1⟩:=(hf _ _ _ _ _ h _ _ _ _ _ _ _ _ S iu0 iv0)
   have:∃(e:List Bool) (R':Rn),k ((b::e).all id) R'=true/\dh R' J.ns/\e.length=min us.length vs.length/\∀(j:Nat) (u v:Value) (b:Bool),us[j]?=some u->vs[j]?=some v->e[j]?=some b->∀A:Around,A.units+n<cLine->EqAt A s u v b:=by
    cases b with
    | true=>exact ih r H R1 k h1 us vs (S.rn' rn1) iur ivr
    | false=>
     obtain ⟨h2,h3⟩:=aJ h1
     obtain ⟨e,hl,he⟩:=(BR hf l r H R1 h2 us vs (S.rn' rn1) iur ivr)
     exact ⟨e,R1,h3,rn1,hl,he⟩
   obtain ⟨e,R2,h2,rn2,hl,he⟩:=this
   symm
   refine ⟨b::e,R2,h2,rn2,by simp [hl],fun j u v c q1 q2 q3 A hA=>?_⟩
   cases j with
   | zero=>simp at q1 q2 q3; subst q1 q2 q3; exact e1 A hA
   | succ j=>simp at q1 q2 q3; exact he j u v c q1 q2 q3 A hA
theorem kz(e:List Bool)(n:Nat)(h:e.length=n):((List.range n).all fun j=>(e[j]?).getD true)=e.all id:=by
 subst h
 rw [Bool.eq_iff_iff,List.all_eq_true,List.all_eq_true]
 constructor
 ·intro q b hb
  obtain ⟨j,hj⟩:=(List.mem_iff_getElem?.mp hb)
  have:=q j (List.mem_range.mpr (aN hj))
  rw [hj] at this; exact this
 ·intro q j hj
  have lt:=List.mem_range.mp hj
  rw [List.getElem?_eq_getElem lt]
  exact q _ (List.getElem_mem lt)
theorem C6{n:Nat}{f:EQ}(hf:oH x n f){i j:Nat}{k:Bool->Rn->Bool}(h:E9 f i j H R k=true){a c:Addr}(S:St x J H nx R O L m s)(ha:J.as[i]?=some a)(hc:J.as[j]?=some c) :
  ∃b R',k b R'=true/\dh R' J.ns/\∀A:Around,A.units+(n+1)<cLine->vy A s (.ref a) (.ref c) b:=by
 have un:∀A:Around,A.units+(n+1)<cLine->A.units<cLine/\A.in1.units+n<cLine:=fun A q=>⟨by lia,by show A.units+1+n<cLine; lia⟩
 rcases dT h with ⟨l,hl,h⟩ | ⟨l,hl,h⟩ | ⟨l,hl,h⟩ | ⟨l,hl,h⟩
 ·obtain ⟨us,lu,iu⟩:=(S.lst ha hl)
  rcases dT h with ⟨r,hr,h⟩ | ⟨r,hr,h⟩ | ⟨r,hr,h⟩ | ⟨r,hr,h⟩
  ·obtain ⟨ws,lw,iw⟩:=(S.lst hc hr)
   cases q:Nat.beq (cQ l) (cQ r) with
   | false=>
    rw [q] at h
    have ne:us.toArray.size≠ws.toArray.size:=by
     have:=Nat.ne_of_beq_eq_false q
     rw [cU,cU,iu.length,iw.length] at this
     simpa using this
    exact ⟨false,R,h,S.rn,fun A hA=>⟨RcAt.lists_lengths lu lw (bne_iff_ne.mpr ne) (un A hA).1,RcNeAt.lists_lengths lu lw (bne_iff_ne.mpr ne) (un A hA).1⟩⟩
   | true=>
    rw [q] at h
    have eq:us.length=ws.length:=by
     have:=Nat.eq_of_beq_eq_true q
     rw [cU,cU,iu.length,iw.length] at this
     exact this
    obtain ⟨e,R',h,rn,hl,he⟩:=(uT hf l r H R k h us ws S iu iw)
    have ee:e.length=us.toArray.size:=by rw [hl,List.size_toArray]; lia
    have z:∀A:Around,A.units+(n+1)<cLine->∀j (h1:j<us.toArray.size) (h2:j<ws.toArray.size),EqAt A.in1 s us.toArray[j] ws.toArray[j] ((e[j]?).getD true):=fun A hA j h1 h2=>by
     have lt:j<e.length:=by rw [ee]; exact h1
     rw [List.getElem?_eq_getElem lt]
     exact he j _ _ _ (by simp at h1 ⊢) (by simp at h2 ⊢) (List.getElem?_eq_getElem lt) A.in1 (un A hA).2
    refine ⟨_,R',h,rn,fun A hA=>⟨?_,?_⟩⟩
    ·rw [<- kz e _ ee]; exact RcAt.lists lu lw (by simpa using eq) (un A hA).1 (z A hA)
    ·rw [<- kz e _ ee]; exact RcNeAt.lists lu lw (by simpa using eq) (un A hA).1 (z A hA)
  ·obtain ⟨ws,lw,iw⟩:=(S.tup hc hr)
   exact ⟨false,R,h,S.rn,fun A hA=>⟨RcAt.list_tuple lu lw (un A hA).1,RcNeAt.list_tuple lu lw (un A hA).1⟩⟩
  ·cases h
  ·cases h
 ·obtain ⟨us,lu,iu⟩:=(S.tup ha hl)
  rcases dT h with ⟨r,hr,h⟩ | ⟨r,hr,h⟩ | ⟨r,hr,h⟩ | ⟨r,hr,h⟩
  ·obtain ⟨ws,lw,iw⟩:=(S.lst hc hr)
   exact ⟨false,R,h,S.rn,fun A hA=>⟨RcAt.tuple_list lu lw (un A hA).1,RcNeAt.tuple_list lu lw (un A hA).1⟩⟩
  ·obtain ⟨ws,lw,iw⟩:=(S.tup hc hr)
   obtain ⟨e,R',h,rn,hl,he⟩:=(uT hf l r H R _ h us ws S iu iw)
   have ee:e.length=min us.toArray.size ws.toArray.size:=by rw [hl,List.size_toArray,List.size_toArray]
   have z:∀A:Around,A.units+(n+1)<cLine->∀j (h1:j<us.toArray.size) (h2:j<ws.toArray.size),EqAt A.in1 s us.toArray[j] ws.toArray[j] ((e[j]?).getD true):=fun A hA j h1 h2=>by
    have lt:j<e.length:=by rw [ee]; lia
    rw [List.getElem?_eq_getElem lt]
    exact he j _ _ _ (by simp at h1 ⊢) (by simp at h2 ⊢) (List.getElem?_eq_getElem lt) A.in1 (un A hA).2
   have eb:Nat.beq (cQ l) (cQ r)=(us.toArray.size == ws.toArray.size):=by
    rw [cU,cU,iu.length,iw.length,Bool.eq_iff_iff,Nat.beq_eq,beq_iff_eq]; simp
   rw [eb] at h
   refine ⟨_,R',h,rn,fun A hA=>⟨?_,?_⟩⟩
   ·rw [<- kz e _ ee]; exact RcAt.tuples lu lw (un A hA).1 (z A hA)
   ·rw [<- kz e _ ee]; exact RcNeAt.tuples lu lw (un A hA).1 (z A hA)
  ·cases h
  ·cases h
 ·cases h
 ·cases h
theorem ML{T:List Str}{d:nF}{u v:Value}{A:Around}(h:ku T d u)(h2:ku T d v):EqAt A s u v true:=by
 cases h with
 | none=>cases h2; exact .same _
 | bool b=>cases h2; exact .same _
 | int i t=>cases h2 with | int _ t2=>have q:EqAt A s (.int i t) (.int i t2) (i == i):=.int_int _ _ _ _; rwa [beq_self_eq_true] at q
 | @str i y t hy=>cases h2 with | @str _ z t2 hz=>rw [hy] at hz; cases hz; have q:EqAt A s (.str y t) (.str y t2) (y == y):=.str_str _ _ _ _; rwa [beq_self_eq_true] at q
theorem Go{T:List Str}{A:Around}{ds:List nF}{us:List Value}(h:iY T ds us):∀{vs:List Value},iY T ds vs->us.length=vs.length/\∀(j:Nat) (u v:Value),us[j]?=some u->vs[j]?=some v->EqAt A s u v true:=by
 induction h with
 | nil=>intro vs k; cases k with | nil=>exact ⟨rfl,fun j u v h=>by simp at h⟩
 | cons a _ ih=>
  intro vs k
  cases k with
  | cons b q=>
  obtain ⟨l,e⟩:=(ih q)
  refine ⟨congrArg (·+ 1) l,fun j u v h1 h2=>?_⟩
  cases j with
  | zero=>cases h1; cases h2; exact ML a b
  | succ j=>exact e j u v h1 h2
theorem uv{n:Nat}{f:EQ}(hf:oH x n f){i j:Nat}{k:Bool->Rn->Bool}(h:sX f i j H R k=true){a c:Addr}(S:St x J H nx R O L m s)(ha:J.as[i]?=some a)(hc:J.as[j]?=some c) :
  ∃b R',k b R'=true/\dh R' J.ns/\∀A:Around,A.units+(n+1)<cLine->vy A s (.ref a) (.ref c) b:=by
 rcases sd h with ⟨p,hp,h⟩ | h
 ·rcases sd h with ⟨q,hq,h⟩ | h
  ·obtain ⟨e1,hk⟩:=aJ h
   symm
   have e2:=Nat.eq_of_beq_eq_true e1
   subst e2
   obtain ⟨o,o1,q0,q0,o2⟩:=(S.led.obj ha)
   obtain ⟨o',o1',q0,q0,o2'⟩:=(S.led.obj hc)
   symm
   rw [hp] at o2
   rw [hq] at o2'
   symm
   obtain ⟨us,rfl,iu⟩:=o2
   obtain ⟨ws,rfl,iw⟩:=o2'
   symm
   have lu:s.heap.IsTuple a us.toArray:=⟨_,o1,rfl,_,rfl⟩
   have lw:s.heap.IsTuple c ws.toArray:=⟨_,o1',rfl,_,rfl⟩
   refine ⟨true,R,hk,S.rn,fun A hA=>?_⟩
   obtain ⟨l,ee⟩:=(Go (A:=A.in1) (s:=s) iu iw)
   have z:∀j (h1:j<us.toArray.size) (h2:j<ws.toArray.size),EqAt A.in1 s us.toArray[j] ws.toArray[j] true:=fun j h1 h2=>ee j _ _ (by simp at h1 ⊢) (by simp at h2 ⊢)
   have b1:(((List.range (min us.toArray.size ws.toArray.size)).all fun q0=>true)&&(us.toArray.size == ws.toArray.size))=true:=by
    rw [Bool.and_eq_true]
    exact ⟨by simp,by simp [l]⟩
   have r1:=RcAt.tuples (e:=fun q0=>true) lu lw (by lia) z
   have r2:=RcNeAt.tuples (e:=fun q0=>true) lu lw (by lia) z
   rw [b1] at r1 r2
   exact ⟨r1,r2⟩
  ·cases h
 ·exact C6 hf h S ha hc
def UZ(x:aQ)(n:Nat)(o:Nat->Nat->Tr->Rn->(Bool->Rn->Bool)->Bool)(P:Around->Shared->Value->Value->Bool->Prop):Prop:=
 ∀i j H R k,o i j H R k=true->∀(J:az) (nx:Nat) (O:Heap) (L:Addr) (m:Str->Option Value) (s:Shared) (a c:Addr),St x J H nx R O L m s->J.as[i]?=some a->J.as[j]?=some c->
  ∃b R',k b R'=true/\dh R' J.ns/\∀A:Around,A.units+n<cLine->P A s (.ref a) (.ref c) b
theorem vU(hT:x.T.Nodup){n:Nat}{o:Nat->Nat->Tr->Rn->(Bool->Rn->Bool)->Bool}{P:Around->Shared->Value->Value->Bool->Prop}(ho:UZ x n o P)(hP:∀A s u v b,EqAt A s u v b->vy A s u v b->P A s u v b)
  {g h:GV} {k:Bool->Rn->Bool} (e:x7 o g h H R k=true) {u v:Value} (S:St x J H nx R O L m s) (iu:Is x.T J g u) (iv:Is x.T J h v) :
  ∃b R',k b R'=true/\dh R' J.ns/\∀A:Around,A.units+n<cLine->P A s u v b:=by
 cases g with
 | none=>
  obtain rfl:_=_:=iu.inv
  cases h with
  | none=>
   obtain rfl:_=_:=iv.inv
   exact ⟨true,R,e,S.rn,fun A hA=>hP _ _ _ _ _ (.same _) ⟨.none_none,.none_none⟩⟩
  | _=>exact nope e
 | bool a=>
  obtain rfl:_=_:=iu.inv
  cases h with
  | bool b=>
   obtain rfl:_=_:=iv.inv
   exact ⟨_,R,e,S.rn,fun A hA=>hP _ _ _ _ _ (.bool_bool _ _) ⟨.bool_bool _ _,.bool_bool _ _⟩⟩
  | _=>exact nope e
 | int a=>
  obtain ⟨t,rfl,ok⟩:=iu
  cases h with
  | int b=>
   obtain ⟨t2,rfl,zh⟩:=iv
   obtain ⟨c,R',e,q,rn⟩:=(IJ S.rn e)
   subst q
   exact ⟨_,R',e,rn,fun A hA=>hP _ _ _ _ _ (.int_int _ _ _ _) ⟨.int_int _ _ _ _,.int_int _ _ _ _⟩⟩
  | _=>exact nope e
 | str a=>
  obtain ⟨z,t,rfl,ht⟩:=iu
  cases h with
  | str b=>
   obtain ⟨y,t2,rfl,hu⟩:=iv
   have q:Nat.beq a b=(z == y):=by
    clear e hP S
    rw [Bool.eq_iff_iff,Nat.beq_eq,beq_iff_eq]; exact (cF hT ht hu).symm
   have e:k (Nat.beq a b) R=true:=e
   rw [q] at e
   exact ⟨_,R,e,S.rn,fun A hA=>hP _ _ _ _ _ (.str_str _ _ _ _) ⟨.str_str _ _ _ _,.str_str _ _ _ _⟩⟩
  | _=>exact nope e
 | byt a=>
  obtain ⟨t,rfl,q1⟩:=iu
  cases h with
  | byt b=>
   obtain ⟨t2,rfl,q2⟩:=iv
   obtain ⟨e1,e2⟩:=(aJ (show @Bool.rec (fun q0=>Bool) false (k true R) (xo a b)=true from e))
   have:=tO e1
   subst this
   exact ⟨true,R,e2,S.rn,fun A hA=>hP _ _ _ _ _ (xv _ _ _) ⟨oW _ _ _,vV _ _ _⟩⟩
  | _=>exact nope e
 | own i=>
  obtain ⟨q0,rfl,ha⟩:=iu
  cases h with
  | own j=>
   obtain ⟨q0,rfl,hc⟩:=iv
   exact ho _ _ _ _ _ e _ _ _ _ _ _ _ _ S ha hc
  | _=>exact nope e
 | _=>exact nope e
theorem mM(hT:x.T.Nodup):∀n,oH x n (wL n)
 | 0=>fun q0 q0 q0 q0 q0 h=>by cases h
 | n+1=>fun g h H R k e J nx O L m s u v S iu iv=>by
  refine vU (P:=EqAt) hT (o:=fun i j H R k=>@Bool.rec (fun q0=>Bool) (sX (wL n) i j H R k) (k true R) (Nat.beq i j)) ?_ (fun q0 q0 q0 q0 q0 q q0=>q) e S iu iv
  intro i j H R k e J nx O L m s a c S ha hc
  cases q:Nat.beq i j with
  | true=>
   dsimp only at e
   rw [q] at e
   have:=Nat.eq_of_beq_eq_true q
   subst this
   rw [ha] at hc; cases hc
   exact ⟨true,R,e,S.rn,fun A hA=>.same _⟩
  | false=>
   dsimp only at e
   rw [q] at e
   obtain ⟨b,R',h1,h2,h3⟩:=(uv (mM hT n) e S ha hc)
   refine ⟨b,R',h1,h2,fun A hA=>.of_refs (fun z=>?_) (h3 A hA).eq⟩
   subst z
   exact Nat.ne_of_beq_eq_false q ((List.getElem?_inj (aN ha) S.led.nod).mp (ha.trans hc.symm))
theorem Bl(hT:x.T.Nodup){n:Nat}{g h:GV}{k:Bool->Rn->Bool}(e:Ew n g h H R k=true){u v:Value}(S:St x J H nx R O L m s)(iu:Is x.T J g u)(iv:Is x.T J h v) :
  ∃b R',k b R'=true/\dh R' J.ns/\∀A:Around,A.units+(n+1)<cLine->vy A s u v b:=
 vU (P:=vy) hT (fun i j H R k e J nx O L m s a c S ha hc=>uv (mM hT n) e S ha hc) (fun q0 q0 q0 q0 q0 q0 q=>q) e S iu iv
end
end
section
open PySem.SeqAt (EqAt RcAt)
section
variable {x:aQ} {d:Nat} {vs:aq} {J:az} {H:Tr} {nx:Nat} {R:Rn} {O:Heap} {L:Addr} {m:Str->Option Value} {s:Shared} {A:Around} {E:Value->Shared->Prop} {Q:Value->Shared->Prop} {k:KV}
def fT(x:aQ)(d:Nat)(op:CmpOp)(f:EQ):Prop:=∀g h H R k,f g h H R k=true->∀(A:Around) (J:az) (nx:Nat) (O:Heap) (L:Addr) (m:Str->Option Value) (s:Shared) (u v:Value) (Q E:Value->Shared->Prop),
 cj x d A O L->St x J H nx R O L m s->Is x.T J g u->Is x.T J h v->(∀b R',k b R'=true->dh R' J.ns->Q (.bool b) s)->wpAny (model x.prog x.w) A (compareOp op u v) Q E s
def W2(n:Nat):EQ:=fun g h H R k=>Ew n g h H R fun b R=>k (@Bool.rec (fun q0=>Bool) true false b) R
theorem L6(hT:x.T.Nodup):fT x d .Eq (Ew 8):=by
 intro g h H R k e A J nx O L m s u v Q E Hh S iu iv hQ
 obtain ⟨b,R',h1,h2,h3⟩:=(Bl hT e S iu iv)
 exact (h3 A (by have:=Hh.units; lia)).eq x.prog x.w E Q (hQ b R' h1 h2)
theorem Rk(hT:x.T.Nodup):fT x d .NotEq (W2 8):=by
 intro g h H R k e A J nx O L m s u v Q E Hh S iu iv hQ
 obtain ⟨b,R',h1,h2,h3⟩:=(Bl hT e S iu iv)
 exact (h3 A (by have:=Hh.units; lia)).ne x.prog x.w E Q (by
  have q:=hQ _ R' h1 h2
  cases b <;> exact q)
def iO(o:Option Bool)(k:Bool->Bool):Bool:=@Option.rec Bool (fun q0=>Bool) (k true&&k false) (fun b=>k b) o
theorem Ds{o:Option Bool}{k:Bool->Bool}(h:iO o k=true):(∃b,o=some b/\k b=true)∨(k true=true/\k false=true):=by cases o <;> first | exact .inl ⟨_,rfl,h⟩ | exact .inr (Bool.and_eq_true_iff.mp h)
def Fi(a b:GI)(R:Rn)(k:Bool->Bool):Bool:=@GI.rec (fun q0=>Bool) (fun i=>@GI.rec (fun q0=>Bool) (fun j=>k (kK i j)) (fun q0=>iO (mE R.bnd a b) k) (fun q0 q0 q0 q0=>iO (mE R.bnd a b) k) (fun q0 q0 q0 q0=>iO (mE R.bnd a b) k) (fun q0 q0 q0 q0=>iO (mE R.bnd a b) k) b)
 (fun q0=>iO (mE R.bnd a b) k) (fun q0 q0 q0 q0=>iO (mE R.bnd a b) k) (fun q0 q0 q0 q0=>iO (mE R.bnd a b) k) (fun q0 q0 q0 q0=>iO (mE R.bnd a b) k) a
theorem uD{a b:GI}{ns:List Int}(rn:dh R ns){k:Bool->Bool}(h:Fi a b R k=true):∃c,decide (a.ev ns<b.ev ns)=c/\k c=true:=by
 have sym:iO (mE R.bnd a b) k=true->∃c,decide (a.ev ns<b.ev ns)=c/\k c=true:=fun h=>by
  rcases Ds h with ⟨c,h1,h2⟩ | ⟨h1,h2⟩
  ·exact ⟨c,NR rn.bnd h1,h2⟩
  ·cases q:decide (a.ev ns<b.ev ns) with
   | true=>exact ⟨true,rfl,h1⟩
   | false=>exact ⟨false,rfl,h2⟩
 cases a with
 | lit i=>
  cases b with
  | lit j=>exact ⟨_,j9 rfl,h⟩
  | _=>exact sym h
 | _=>exact sym h
def wq:EQ:=fun g h H R k=>fP g fun a=>fP h fun b=>Fi a b R fun c=>k c R
def z4:EQ:=fun g h H R k=>fP g fun a=>fP h fun b=>Fi b a R fun c=>k c R
def WV:EQ:=fun g h H R k=>fP g fun a=>fP h fun b=>Fi b a R fun c=>k (@Bool.rec (fun q0=>Bool) true false c) R
theorem vn(c:Bool):@Bool.rec (fun q0=>Bool) true false c = !c:=by cases c <;> rfl
theorem mL:fT x d .Lt wq:=by
 intro g h H R k e A J nx O L m s u v Q E Hh S iu iv hQ
 symm
 obtain ⟨a,rfl,e1⟩:=dA e
 obtain ⟨b,rfl,e2⟩:=dA e1
 obtain ⟨c,q,e⟩:=(uD S.rn e2)
 obtain ⟨t,rfl,o1⟩:=iu
 obtain ⟨t2,rfl,o2⟩:=iv
 symm
 exact P.lt_int (by rw [q]; exact hQ c R e S.rn)
theorem px:fT x d .Gt z4:=by
 intro g h H R k e A J nx O L m s u v Q E Hh S iu iv hQ
 symm
 obtain ⟨a,rfl,e1⟩:=dA e
 obtain ⟨b,rfl,e2⟩:=dA e1
 obtain ⟨c,q,e⟩:=(uD S.rn e2)
 obtain ⟨t,rfl,o1⟩:=iu
 obtain ⟨t2,rfl,o2⟩:=iv
 symm
 exact P.gt_int (by show Q (.bool (decide (b.ev J.ns<a.ev J.ns))) s; rw [q]; exact hQ c R e S.rn)
theorem Qp(i j:Int):decide (i<=j) = !decide (j<i):=by
 rw [Bool.eq_iff_iff]; simp
theorem K7:fT x d .LtE WV:=by
 intro g h H R k e A J nx O L m s u v Q E Hh S iu iv hQ
 symm
 obtain ⟨a,rfl,e1⟩:=dA e
 obtain ⟨b,rfl,e2⟩:=dA e1
 obtain ⟨c,q,e⟩:=(uD S.rn e2)
 rw [vn] at e
 obtain ⟨t,rfl,o1⟩:=iu
 obtain ⟨t2,rfl,o2⟩:=iv
 symm
 exact P.le_int (by rw [Qp,q]; exact hQ _ R e S.rn)
def lR(h:GV)(b:Bool):Bool:=@GV.rec (fun q0=>Bool) false b (fun q0=>false) (fun q0=>false) (fun q0=>false) (fun q0=>false) (fun q0=>false) (fun q0=>false) false h
theorem lA{h:GV}{b:Bool}(e:lR h b=true):h=.none/\b=true:=by cases h <;> first | cases e; done | exact ⟨rfl,e⟩
def IV(g:GV)(k:Bool->Bool):Bool:=@GV.rec (fun q0=>Bool) false (k true) (fun q0=>k false) (fun q0=>k false) (fun q0=>k false) (fun q0=>k false) (fun q0=>false) (fun q0=>k false) false g
theorem A9{g:GV}{k:Bool->Bool}(h:IV g k=true):∃b,k b=true/\∀(T:List Str) (J:az) v,Is T J g v->(b=true/\v=.none)∨(b=false/\v≠.none):=by
 cases g with
 | nul=>cases h
 | none=>exact ⟨true,h,fun T J v i=>by cases i; exact .inl ⟨rfl,rfl⟩⟩
 | old v=>cases h
 | unk=>cases h
 | bool b=>exact ⟨false,h,fun T J v i=>by cases i; exact .inr ⟨rfl,by intro e; cases e⟩⟩
 | str e=>exact ⟨false,h,fun T J v i=>by obtain ⟨q0,q0,rfl,q0⟩:=i; exact .inr ⟨rfl,by intro e; cases e⟩⟩
 | _=>exact ⟨false,h,fun T J v i=>by obtain ⟨q0,rfl,q0⟩:=i; exact .inr ⟨rfl,by intro e; cases e⟩⟩
def kc:EQ:=fun g h H R k=>lR h (IV g fun b=>k b R)
def qE:EQ:=fun g h H R k=>lR h (IV g fun b=>k (@Bool.rec (fun q0=>Bool) true false b) R)
theorem ez:fT x d .Is kc:=by
 intro g h H R k e A J nx O L m s u v Q E Hh S iu iv hQ
 obtain ⟨rfl,e1⟩:=lA e
 obtain ⟨b,e,q⟩:=(A9 e1)
 cases iv
 rcases q _ _ _ iu with ⟨rfl,rfl⟩ | ⟨rfl,n⟩
 ·exact wpAny_is_self rfl (hQ _ R e S.rn)
 ·exact is_none_ne n (hQ _ R e S.rn)
theorem lg:fT x d .IsNot qE:=by
 intro g h H R k e A J nx O L m s u v Q E Hh S iu iv hQ
 obtain ⟨rfl,e1⟩:=lA e
 obtain ⟨b,e,q⟩:=(A9 e1)
 cases iv
 rcases q _ _ _ iu with ⟨rfl,rfl⟩ | ⟨rfl,n⟩
 ·exact wpAny_isNot_self rfl (hQ _ R e S.rn)
 ·exact isnot_none_ne n (hQ _ R e S.rn)
def yf(f:EQ)(l:List GV):GV->Tr->Rn->(Bool->Rn->Bool)->Bool:=@List.rec GV (fun q0=>GV->Tr->Rn->(Bool->Rn->Bool)->Bool) (fun q0 q0 R k=>k false R) (fun g q0 ih h H R k=>f g h H R fun b R=>ih h H R fun c R=>k (b||c) R) l
theorem tu{n:Nat}{f:EQ}(hf:oH x n f)(l:List GV):∀(h:GV) (H:Tr) (R:Rn) (k:Bool->Rn->Bool),yf f l h H R k=true->∀(us:List Value) (v:Value),St x J H nx R O L m s->be x.T J l us->Is x.T J h v->
  ∃(e:List Bool) (R':Rn),k (e.any id) R'=true/\dh R' J.ns/\e.length=us.length/\∀(j:Nat) (u:Value) (b:Bool),us[j]?=some u->e[j]?=some b->∀A:Around,A.units+n<cLine->EqAt A s u v b:=by
 induction l with
 | nil=>
  intro h H R k hh us v S iu iv
  cases iu
  exact ⟨[],R,hh,S.rn,rfl,fun j u b q=>by simp at q⟩
 | cons g l ih=>
  intro h H R k hh us v S iu iv
  obtain ⟨u0,us,rfl,iu0,iur⟩:=fA iu
  obtain ⟨b,R1,h1,rn1,e1⟩:=(hf _ _ _ _ _ hh _ _ _ _ _ _ _ _ S iu0 iv)
  obtain ⟨e,R2,h2,rn2,hl,he⟩:=(ih h H R1 _ h1 us v (S.rn' rn1) iur iv)
  refine ⟨b::e,R2,h2,rn2,by simp [hl],fun j u c q1 q2 A hA=>?_⟩
  cases j with
  | zero=>simp at q1 q2; subst q1 q2; exact e1 A hA
  | succ j=>simp at q1 q2; exact he j u c q1 q2 A hA
open Classical in
theorem pK(us:List Value)(e:List Bool)(hl:e.length=us.length){P:Value->Bool->Prop}(h:∀(j:Nat) (u:Value) (b:Bool),us[j]?=some u->e[j]?=some b->P u b) :
  ∃f:Value->Bool,us.any f=e.any id/\∀y∈us,P y (f y):=by
 refine ⟨fun y=>decide (∃j:Nat,us[j]?=some y/\e[j]?=some true),?_,fun y hy=>?_⟩
 ·rw [Bool.eq_iff_iff,List.any_eq_true,List.any_eq_true]
  constructor
  ·rintro ⟨y,_,q⟩
   obtain ⟨j,q0,q⟩:=(of_decide_eq_true q)
   exact ⟨true,List.mem_of_getElem? q,rfl⟩
  ·rintro ⟨b,hb,q⟩
   have q:b=true:=q
   subst q
   obtain ⟨j,hj⟩:=(List.mem_iff_getElem?.mp hb)
   have lt:j<us.length:=hl▸aN hj
   exact ⟨us[j],List.getElem_mem lt,decide_eq_true ⟨j,List.getElem?_eq_getElem lt,hj⟩⟩
 ·dsimp only
  by_cases q:∃j:Nat,us[j]?=some y/\e[j]?=some true
  ·obtain ⟨j,q1,q2⟩:=q
   rw [decide_eq_true (p:=∃j:Nat,us[j]?=some y/\e[j]?=some true) ⟨j,q1,q2⟩]
   exact h j y true q1 q2
  ·rw [decide_eq_false q]
   obtain ⟨j,hj⟩:=(List.mem_iff_getElem?.mp hy)
   have lt:j<e.length:=hl▸aN hj
   cases r:e[j] with
   | true=>exact absurd ⟨j,hj,by rw [List.getElem?_eq_getElem lt,r]⟩ q
   | false=>exact h j y false hj (by rw [List.getElem?_eq_getElem lt,r])
def pk:EQ:=fun g h H R k=>bU h fun i=>eJ (H.get i) (fun l=>yf (wL 8) l g H R k) (fun l=>yf (wL 8) l g H R k) (fun q0=>false) (fun q0=>false)
def x6:EQ:=fun g h H R k=>pk g h H R fun b R=>k (@Bool.rec (fun q0=>Bool) true false b) R
theorem tX(hT:x.T.Nodup){g h:GV}{k:Bool->Rn->Bool}(e:pk g h H R k=true){u v:Value}(Hh:cj x d A O L)(S:St x J H nx R O L m s)(iu:Is x.T J g u)(iv:Is x.T J h v) :
  ∃(b:Bool) (R':Rn),k b R'=true/\dh R' J.ns/\(∀(Q:Value->Shared->Prop),Q (.bool b) s->wpAny (model x.prog x.w) A (compareOp .In u v) Q E s)/\(∀(Q:Value->Shared->Prop),Q (.bool (!b)) s->wpAny (model x.prog x.w) A (compareOp .NotIn u v) Q E s):=by
 obtain ⟨i,rfl,e1⟩:=bn e
 obtain ⟨q0,rfl,ha⟩:=iv
 rcases dT e1 with ⟨l,hl,e⟩ | ⟨l,hl,e⟩ | ⟨l,hl,e⟩ | ⟨l,hl,e⟩
 ·obtain ⟨us,lu,hu⟩:=(S.lst ha hl)
  obtain ⟨es,R',e,rn,len,he⟩:=(tu (mM hT 8) l g H R k e us u S hu iu)
  obtain ⟨f,f1,f2⟩:=(pK us es len (P:=fun y b=>EqAt A.in1 s y u b) fun j y b q1 q2=>he j y b q1 q2 A.in1 (by have:=Hh.units; show A.units+1+8<_; lia))
  refine ⟨_,R',e,rn,fun Q hQ=>PySem.SeqAt.in_listAt f lu (fun y hy=>f2 y (by simpa using hy)) ?_,fun Q hQ=>PySem.SeqAt.notIn_listAt f lu (fun y hy=>f2 y (by simpa using hy)) ?_⟩
  ·rw [List.any_toArray,f1]; exact hQ
  ·rw [List.any_toArray,f1]; exact hQ
 ·obtain ⟨us,lu,hu⟩:=(S.tup ha hl)
  obtain ⟨es,R',e,rn,len,he⟩:=(tu (mM hT 8) l g H R k e us u S hu iu)
  obtain ⟨f,f1,f2⟩:=(pK us es len (P:=fun y b=>EqAt A.in1 s y u b) fun j y b q1 q2=>he j y b q1 q2 A.in1 (by have:=Hh.units; show A.units+1+8<_; lia))
  refine ⟨_,R',e,rn,fun Q hQ=>PySem.SeqAt.in_tupleAt f lu (fun y hy=>f2 y (by simpa using hy)) ?_,fun Q hQ=>PySem.SeqAt.notIn_tupleAt f lu (fun y hy=>f2 y (by simpa using hy)) ?_⟩
  ·rw [List.any_toArray,f1]; exact hQ
  ·rw [List.any_toArray,f1]; exact hQ
 ·cases e
 ·cases e
theorem kM(hT:x.T.Nodup):fT x d .In pk:=by
 intro g h H R k e A J nx O L m s u v Q E Hh S iu iv hQ
 obtain ⟨b,R',e,rn,q,q0⟩:=(tX (E:=E) hT e Hh S iu iv)
 exact q Q (hQ b R' e rn)
theorem qY(hT:x.T.Nodup):fT x d .NotIn x6:=by
 intro g h H R k e A J nx O L m s u v Q E Hh S iu iv hQ
 obtain ⟨b,R',e,rn,q0,q⟩:=(tX (E:=E) hT e Hh S iu iv)
 rw [vn] at e
 exact q Q (hQ _ R' e rn)
noncomputable def gJ(c:EQ)(f g:EV):EV:=fun H nx R loc k=>f H nx R loc fun a H nx R=>g H nx R loc fun b H nx R=>c a b H R fun r R=>k (.bool r) H nx R
noncomputable def aY(c:EQ)(f g:EV):TV:=fun H nx R loc k=>f H nx R loc fun a H nx R=>g H nx R loc fun b H nx R=>c a b H R fun r R=>k r H nx R
theorem dO{op:CmpOp}{c:EQ}(hc:fT x d op c){f g:EV}{e i:Expr}(hf:aK x d vs f e)(hg:aK x d vs g i)(hm:behindInMarks op i=false)(pos:Pos):aK x d vs (gJ c f g) (.Compare e [op] [i] pos):=by
 intro H nx R loc k h A env O L m J s Q E Hh En S Lo hQ
 refine wpAny_Compare1 (hf H nx R loc _ h A env O L m J s _ E Hh En S Lo fun J' H' nx' R' s' a v le S' ha hk=>?_) hm
 refine hg H' nx' R' loc _ hk A env O L m J' s' _ E Hh En S' (Lo.more le) fun J'' H'' nx'' R'' s'' b u le' S'' hb hk'=>?_
 exact hc _ _ _ _ _ hk' A J'' nx'' O L m s'' v u Q E Hh S'' (ha.more le') hb fun r R3 e3 rn=>(hQ.le (le.trans le')).here (S''.rn' rn) (.bool r) e3
theorem bd{op:CmpOp}{c:EQ}(hc:fT x d op c){f g:EV}{e i:Expr}(hf:aK x d vs f e)(hg:aK x d vs g i)(hm:behindInMarks op i=false)(pos:Pos):dZ x d vs (aY c f g) (.Compare e [op] [i] pos):=by
 intro H nx R loc k h A env O L m J s Q E Hh En S Lo hQ
 refine wpAny_isTrue_Compare1 (hf H nx R loc _ h A env O L m J s _ E Hh En S Lo fun J' H' nx' R' s' a v le S' ha hk=>?_) hm
 refine hg H' nx' R' loc _ hk A env O L m J' s' _ E Hh En S' (Lo.more le) fun J'' H'' nx'' R'' s'' b u le' S'' hb hk'=>?_
 exact hc _ _ _ _ _ hk' A J'' nx'' O L m s'' v u _ E Hh S'' (ha.more le') hb fun r R3 e3 rn=>wpAny_truthy_bool (hQ _ _ _ _ _ _ (le.trans le') (S''.rn' rn) e3)
def ue(g:GV)(k:Bool->Bool):Bool:=@GV.rec (fun q0=>Bool) false (k false) (fun b=>k b) (fun e=>qz e fun i=>k (@Bool.rec (fun q0=>Bool) true false (cV i (.ofNat 0)))) (fun q0=>false) (fun q0=>false) (fun q0=>false) (fun q0=>false) false g
theorem sA{g:GV}{k:Bool->Bool}(h:ue g k=true):∃b,k b=true/\∀(J:az) v (s:Shared) (Q:Bool->Shared->Prop),Is x.T J g v->Q b s->wpAny (model x.prog x.w) A (truthy v) Q E s:=by
 cases g with
 | none=>exact ⟨false,h,fun J v s Q i q=>by cases i; exact truthy_none q⟩
 | bool b=>exact ⟨b,h,fun J v s Q i q=>by cases i; exact wpAny_truthy_bool q⟩
 | int e=>
  obtain ⟨i,rfl,h1⟩:=(kQ h)
  rw [vn] at h1
  refine ⟨_,h1,fun J v s Q j q=>?_⟩
  obtain ⟨t,rfl,o⟩:=j
  refine P.truthy_int ?_
  have:(cV i (.ofNat 0))=(i == 0):=(cv rfl).symm
  rw [this] at q
  exact q
 | _=>cases h
def gW(f:EV):TV:=fun H nx R loc k=>f H nx R loc fun g H nx R=>ue g fun b=>k b H nx R
noncomputable def sB(e:Expr):Bool:=[16,19,20,21,23].any (Nat.beq e.ctorIdx)
theorem dE{f:EV}{e:Expr}(hf:aK x d vs f e)(hp:sB e=true):dZ x d vs (gW f) e:=by
 intro H nx R loc k h A env O L m J s Q E Hh En S Lo hQ
 refine isTrue_plain (hf H nx R loc _ h A env O L m J s _ E Hh En S Lo fun J' H' nx' R' s' a v le S' ha hk=>?_) (by clear hf; cases e <;> first | rfl | cases hp)
 obtain ⟨b,hb,q⟩:=sA (x:=x) (A:=A) (E:=E) hk
 exact q _ _ _ _ ha (hQ _ _ _ _ _ _ le S' hb)
def jT(f:TV):TV:=fun H nx R loc k=>f H nx R loc fun b H nx R=>k (@Bool.rec (fun q0=>Bool) true false b) H nx R
theorem fJ{f:TV}{e:Expr}(hf:dZ x d vs f e)(pos:Pos):dZ x d vs (jT f) (.UnaryOp .Not e pos):=by
 intro H nx R loc k h A env O L m J s Q E Hh En S Lo hQ
 refine isTrue_not (hf H nx R loc _ h A env O L m J s _ E Hh En S Lo fun J' H' nx' R' s' b le S' hk=>?_)
 dsimp only at hk
 rw [vn] at hk
 exact hQ _ _ _ _ _ _ le S' hk
noncomputable def iV:TV:=fun H nx R loc k=>k true H nx R
noncomputable def jP:TV:=fun H nx R loc k=>k false H nx R
def eV(f r:TV):TV:=fun H nx R loc k=>f H nx R loc fun b H nx R=>@Bool.rec (fun q0=>Bool) (k false H nx R) (r H nx R loc k) b
def l7(f r:TV):TV:=fun H nx R loc k=>f H nx R loc fun b H nx R=>@Bool.rec (fun q0=>Bool) (r H nx R loc k) (k true H nx R) b
theorem fu(pos:Pos):dZ x d vs iV (.BoolOp .And [] pos):=fun H nx R loc k h A env O L m J s Q E Hh En S Lo hQ=>isTrue_and_nil (hQ _ _ _ _ _ _ (.refl _) S h)
theorem gR(pos:Pos):dZ x d vs jP (.BoolOp .Or [] pos):=fun H nx R loc k h A env O L m J s Q E Hh En S Lo hQ=>isTrue_or_nil (hQ _ _ _ _ _ _ (.refl _) S h)
theorem cL{f r:TV}{e:Expr}{es:List Expr}{pos:Pos}(hf:dZ x d vs f e)(hr:dZ x d vs r (.BoolOp .And es pos)):dZ x d vs (eV f r) (.BoolOp .And (e::es) pos):=by
 intro H nx R loc k h A env O L m J s Q E Hh En S Lo hQ
 refine isTrue_and (hf H nx R loc _ h A env O L m J s _ E Hh En S Lo fun J' H' nx' R' s' b le S' hk=>?_)
 cases b with
 | false=>exact hQ _ _ _ _ _ _ le S' hk
 | true=>exact hr H' nx' R' loc k hk A env O L m J' s' Q E Hh En S' (Lo.more le) (hQ.le le)
theorem gc{f r:TV}{e:Expr}{es:List Expr}{pos:Pos}(hf:dZ x d vs f e)(hr:dZ x d vs r (.BoolOp .Or es pos)):dZ x d vs (l7 f r) (.BoolOp .Or (e::es) pos):=by
 intro H nx R loc k h A env O L m J s Q E Hh En S Lo hQ
 refine isTrue_or (hf H nx R loc _ h A env O L m J s _ E Hh En S Lo fun J' H' nx' R' s' b le S' hk=>?_)
 cases b with
 | true=>exact hQ _ _ _ _ _ _ le S' hk
 | false=>exact hr H' nx' R' loc k hk A env O L m J' s' Q E Hh En S' (Lo.more le) (hQ.le le)
def hZ(c:TV)(f r:EV):EV:=fun H nx R loc k=>c H nx R loc fun b H nx R=>@Bool.rec (fun q0=>Bool) (r H nx R loc k) (f H nx R loc k) b
theorem dH{c:TV}{f r:EV}{e1 e2 e3:Expr}(hc:dZ x d vs c e1)(hf:aK x d vs f e2)(hr:aK x d vs r e3)(pos:Pos):aK x d vs (hZ c f r) (.IfExp e1 e2 e3 pos):=by
 intro H nx R loc k h A env O L m J s Q E Hh En S Lo hQ
 refine wpAny_IfExp (hc H nx R loc _ h A env O L m J s _ E Hh En S Lo fun J' H' nx' R' s' b le S' hk=>?_)
 cases b with
 | true=>exact hf H' nx' R' loc k hk A env O L m J' s' Q E Hh En S' (Lo.more le) (hQ.le le)
 | false=>exact hr H' nx' R' loc k hk A env O L m J' s' Q E Hh En S' (Lo.more le) (hQ.le le)
def zw(f r:EV):EV:=fun H nx R loc k=>f H nx R loc fun g H nx R=>ue g fun b=>@Bool.rec (fun q0=>Bool) (r H nx R loc k) (k g H nx R) b
theorem xa{f:EV}{e:Expr}(hf:aK x d vs f e)(op:BoolOp)(pos:Pos):aK x d vs f (.BoolOp op [e] pos):=fun H nx R loc k h A env O L m J s Q E Hh En S Lo hQ=>BoolOp_one (hf H nx R loc k h A env O L m J s Q E Hh En S Lo hQ)
theorem oU{f r:EV}{e e2:Expr}{es:List Expr}{pos:Pos}(hf:aK x d vs f e)(hr:aK x d vs r (.BoolOp .Or (e2::es) pos)):aK x d vs (zw f r) (.BoolOp .Or (e::e2::es) pos):=by
 intro H nx R loc k h A env O L m J s Q E Hh En S Lo hQ
 refine BoolOp_or (hf H nx R loc _ h A env O L m J s _ E Hh En S Lo fun J' H' nx' R' s' g v le S' i hk=>?_)
 obtain ⟨b,hb,q⟩:=sA (x:=x) (A:=A) (E:=E) hk
 refine q _ _ _ _ i ?_
 cases b with
 | true=>exact (hQ.le le).here S' i hb
 | false=>exact hr H' nx' R' loc k hb A env O L m J' s' Q E Hh En S' (Lo.more le) (hQ.le le)
end
end
section
section
variable {x:aQ} {d:Nat} {vs:aq} {J:az} {H:Tr} {nx:Nat} {R:Rn} {O:Heap} {L:Addr} {m:Str->Option Value} {s:Shared} {A:Around} {E:Value->Shared->Prop} {Q:Value->Shared->Prop} {k:KV}
def vZ(a b:GI)(f:Int->Int->Bool)(z:Bool):Bool:=@GI.rec (fun q0=>Bool) (fun i=>@GI.rec (fun q0=>Bool) (fun j=>f i j) (fun q0=>z) (fun q0 q0 q0 q0=>z) (fun q0 q0 q0 q0=>z) (fun q0 q0 q0 q0=>z) b) (fun q0=>z) (fun q0 q0 q0 q0=>z) (fun q0 q0 q0 q0=>z) (fun q0 q0 q0 q0=>z) a
theorem wY{a b:GI}{f:Int->Int->Bool}{z:Bool}(h:vZ a b f z=true):(∃i j,a=.lit i/\b=.lit j/\f i j=true)∨z=true:=by
 cases a <;> first | exact .inr h | (cases b <;> first | exact .inr h | exact .inl ⟨_,_,rfl,rfl,h⟩)
abbrev wr:=List (Nat × Nat × Nat)
def EN(T:List Str)(c:wr):Prop:=∀p∈c,∃a b,T[p.1]?=some a/\T[p.2.1]?=some b/\T[p.2.2]?=some (a++b)/\a.length+b.length<=sizeLine
def yh(c:wr)(i j:Nat)(k:Nat->Bool):Bool:=@List.rec (Nat × Nat × Nat) (fun q0=>Bool) false (fun p q0 ih=>@Bool.rec (fun q0=>Bool) ih (k p.2.2) (Nat.beq p.1 i&&Nat.beq p.2.1 j)) c
theorem GH{i j:Nat}{k:Nat->Bool}{c:wr}:yh c i j k=true->∃n,(i,j,n)∈c/\k n=true:=by
 induction c with
 | nil=>
  intro h
  cases h
 | cons p c ih=>
  intro h
  have e:yh (p::c) i j k=@Bool.rec (fun q0=>Bool) (yh c i j k) (k p.2.2) (Nat.beq p.1 i&&Nat.beq p.2.1 j):=rfl
  rw [e] at h
  cases q:(Nat.beq p.1 i&&Nat.beq p.2.1 j) with
  | true=>
   rw [q] at h
   obtain ⟨q1,q2⟩:=Bool.and_eq_true_iff.mp q
   have:=Nat.eq_of_beq_eq_true q1
   have:=Nat.eq_of_beq_eq_true q2
   obtain ⟨a,b,n⟩:=p
   subst_vars
   exact ⟨n,.head _,h⟩
  | false=>
   rw [q] at h
   obtain ⟨n,a,b⟩:=(ih h)
   exact ⟨n,.tail _ a,b⟩
def oC(l:List GV)(a b:Bool):Bool:=@List.rec GV (fun q0=>Bool) a (fun q0 q0 q0=>b) l
def HB(i j:Nat)(H:Tr)(nx:Nat)(R:Rn)(k:KV):Bool:=eJ (H.get i)
 (fun l=>eJ (H.get j) (fun r=>@Bool.rec (fun q0=>Bool) false (mk (.list (mr l r)) H nx R k) (fk 1000 l&&fk 1000 r)) (fun q0=>false) (fun q0=>false) (fun q0=>false))
 (fun l=>eJ (H.get j) (fun q0=>false) (fun r=>@Bool.rec (fun q0=>Bool) false (oC l (k (.own j) H nx R) (oC r (k (.own i) H nx R) (mk (.tuple (mr l r)) H nx R k))) (fk 1000 l&&fk 1000 r)) (fun q0=>false) (fun q0=>false))
 (fun q0=>false) (fun q0=>false)
def ow(g:GV)(k:Nat->Bool):Bool:=@GV.rec (fun q0=>Bool) false false (fun q0=>false) (fun q0=>false) (fun i=>k i) (fun q0=>false) (fun q0=>false) (fun q0=>false) false g
theorem gU{g:GV}{k:Nat->Bool}(h:ow g k=true):∃e,g=.str e/\k e=true:=by cases g <;> first | cases h; done | exact ⟨_,rfl,h⟩
def Cb(a t:GI)(y n:Bool):Bool:=@GI.rec (fun q0=>Bool) (fun q0=>n) (fun q0=>n) (fun q0 q0 q0 q0=>n) (fun m a' q0 q0=>@GI.rec (fun q0=>Bool) (fun i=>@Bool.rec (fun q0=>Bool) n y (cV i (-1)&&GI.beq a a')) (fun q0=>n) (fun q0 q0 q0 q0=>n) (fun q0 q0 q0 q0=>n) (fun q0 q0 q0 q0=>n) m) (fun q0 q0 q0 q0=>n) t
theorem FX{a t:GI}{y n:Bool}(h:Cb a t y n=true):n=true∨(y=true/\t=.mul (.lit (-1)) a):=by
 cases t with
 | mul m a'=>
  cases m with
  | lit i=>
   have h:@Bool.rec (fun q0=>Bool) n y (cV i (-1)&&GI.beq a a')=true:=h
   cases q:(cV i (-1)&&GI.beq a a') with
   | false=>rw [q] at h; exact .inl h
   | true=>
    rw [q] at h
    obtain ⟨q1,q2⟩:=Bool.and_eq_true_iff.mp q
    have q1:i = -1:=eq_of_beq (cv q1)
    rw [q1,GI.beq_eq q2]; exact .inr ⟨h,rfl⟩
  | _=>exact .inl h
 | _=>exact .inl h
def nT(a b:GI)(k:GI->Bool):Bool:=@GI.rec (fun q0=>Bool) (fun q0=>k (.add a b)) (fun q0=>k (.add a b)) (fun s t q0 q0=>Cb a t (k s) (k (.add a b))) (fun q0 q0 q0 q0=>k (.add a b)) (fun q0 q0 q0 q0=>k (.add a b)) b
def yr(a b:GI)(k:GI->Bool):Bool:=@GI.rec (fun q0=>Bool) (fun i=>@Bool.rec (fun q0=>Bool) (nT a b k) (k b) (cV i 0)) (fun q0=>nT a b k) (fun q0 q0 q0 q0=>nT a b k) (fun q0 q0 q0 q0=>nT a b k) (fun q0 q0 q0 q0=>nT a b k) a
theorem wI{a b:GI}{k:GI->Bool}(h:nT a b k=true):∃e:GI,k e=true/\∀ns:List Int,a.ok ns.length->b.ok ns.length->e.ok ns.length/\e.ev ns=a.ev ns+b.ev ns:=by
 have z:k (.add a b)=true->∃e:GI,k e=true/\∀ns:List Int,a.ok ns.length->b.ok ns.length->e.ok ns.length/\e.ev ns=a.ev ns+b.ev ns:=fun h=>⟨_,h,fun ns x y=>⟨⟨x,y⟩,rfl⟩⟩
 cases b with
 | add s t=>
  rcases FX (show Cb a t (k s) (k (.add a (.add s t)))=true from h) with h5 | ⟨h5,rfl⟩
  ·exact z h5
  ·exact ⟨s,h5,fun ns x y=>⟨y.1,by show s.ev ns=a.ev ns+(s.ev ns + -1 * a.ev ns); lia⟩⟩
 | _=>exact z h
theorem Gh{a b:GI}{k:GI->Bool}(h:yr a b k=true):∃e:GI,k e=true/\∀ns:List Int,a.ok ns.length->b.ok ns.length->e.ok ns.length/\e.ev ns=a.ev ns+b.ev ns:=by
 cases a with
 | lit i=>
  have h:@Bool.rec (fun q0=>Bool) (nT (.lit i) b k) (k b) (cV i 0)=true:=h
  cases q:cV i 0 with
  | false=>rw [q] at h; exact wI h
  | true=>
   rw [q] at h
   have q:i=0:=eq_of_beq (cv q)
   exact ⟨b,h,fun ns x y=>⟨y,by rw [q]; show b.ev ns=0+b.ev ns; lia⟩⟩
 | _=>exact wI h
def dY(c:wr):rU:=fun g h H nx R k=>@GV.rec (fun q0=>Bool) false false (fun q0=>false) (fun a=>fP h fun b=>vZ a b (fun i j=>fI (Int.add i j) fun r=>k (.int (.lit r)) H nx R) (yr a b fun e=>k (.int e) H nx R)) (fun a=>ow h fun b=>yh c a b fun n=>k (.str n) H nx R) (fun q0=>false) (fun q0=>false) (fun i=>bU h fun j=>HB i j H nx R k) false g
theorem vC{a b:GI}(h:vZ a b (fun i j=>fI (Int.add i j) fun r=>k (.int (.lit r)) H nx R) (yr a b fun e=>k (.int e) H nx R)=true):∃e:GI,k (.int e) H nx R=true/\∀ns:List Int,a.ok ns.length->b.ok ns.length->e.ok ns.length/\e.ev ns=a.ev ns+b.ev ns:=by
 rcases wY h with ⟨i,j,rfl,rfl,h1⟩ | h
 ·rw [lV] at h1; exact ⟨_,h1,fun ns q0 q0=>⟨trivial,rfl⟩⟩
 ·exact Gh h
theorem ck{c:wr}(hc:EN x.T c):wB x d (dY c) fun u v=>binaryOp .Add u v:=by
 intro g h H nx R k e A O L m J s u v Q E Hh S iu iv hQ
 cases g with
 | int a=>
  symm
  obtain ⟨b,rfl,e1⟩:=dA (g:=h) e
  obtain ⟨z,e2,q⟩:=(vC e1)
  obtain ⟨t,rfl,o1⟩:=iu
  obtain ⟨t2,rfl,o2⟩:=iv
  obtain ⟨q1,q2⟩:=(q J.ns o1 o2)
  symm
  exact wpAny_add_int (by rw [<- q2]; exact hQ.now S (.int _ q1) e2 _)
 | str a=>
  symm
  obtain ⟨b,rfl,e1⟩:=gU (g:=h) e
  obtain ⟨n,hn,e2⟩:=(GH e1)
  obtain ⟨q0,t,rfl,o1⟩:=iu
  obtain ⟨q0,t2,rfl,o2⟩:=iv
  obtain ⟨y,z,q1,q2,q3,q4⟩:=(hc _ hn)
  symm
  rw [o1] at q1; cases q1
  rw [o2] at q2; cases q2
  exact PyProof.Rows.add_str (fun t' tk=>hQ.now S (.str t' q3) e2 _) q4
 | own i=>
  symm
  obtain ⟨j,rfl,e1⟩:=bn (g:=h) e
  obtain ⟨q0,rfl,ha⟩:=iu
  obtain ⟨q0,rfl,hc⟩:=iv
  obtain ⟨os,hos,el,N⟩:=S.led.at_
  symm
  rcases dT e1 with ⟨l,hl,e2⟩ | ⟨l,hl,e2⟩ | ⟨l,hl,e2⟩ | ⟨l,hl,e2⟩
  ·rcases dT e2 with ⟨r,hr,e3⟩ | ⟨r,hr,e3⟩ | ⟨r,hr,e3⟩ | ⟨r,hr,e3⟩
   ·obtain ⟨hz,e4⟩:=aJ e3
    symm
    obtain ⟨z1,z2⟩:=Bool.and_eq_true_iff.mp hz
    have z1:=cX z1
    have z2:=cX z2
    obtain ⟨us,lu,hu⟩:=(S.lst ha hl)
    obtain ⟨ws,lw,hw⟩:=(S.lst hc hr)
    symm
    rw [im] at e4
    refine kmk_add_lit S.fr N lu lw rfl (fun D h' F' N' lt=>gr e4 S hQ hos el F' N' lt (.list 0 ?_) s.toks) ?_
    ·exact (hu.append hw).more (az.le_push _ _)
    ·show us.length+ws.length<=_
     rw [<- hu.length,<- hw.length]
     exact Nat.le_trans (Nat.add_le_add z1 z2) (by decide)
   ·cases e3
   ·cases e3
   ·cases e3
  ·rcases dT e2 with ⟨r,hr,e3⟩ | ⟨r,hr,e3⟩ | ⟨r,hr,e3⟩ | ⟨r,hr,e3⟩
   ·cases e3
   ·obtain ⟨hz,e4⟩:=aJ e3
    symm
    obtain ⟨z1,z2⟩:=Bool.and_eq_true_iff.mp hz
    have z1:=cX z1
    have z2:=cX z2
    obtain ⟨us,lu,hu⟩:=(S.tup ha hl)
    obtain ⟨ws,lw,hw⟩:=(S.tup hc hr)
    symm
    rw [im] at e4
    refine add_tuples S.fr N lu lw (fun z=>?_) (fun z1 z2=>?_) (fun z1 z2 h' F' N'=>?_) (by rw [<- hu.length,<- hw.length]; exact Nat.le_trans (Nat.add_le_add z1 z2) (by decide))
    ·subst z; cases hu; exact hQ.here S (.own hc) e4
    ·subst z2; cases hw
     cases hu with
     | nil=>exact absurd rfl z1
     | cons _ _=>exact hQ.here S (.own ha) e4
    ·cases hu with
     | nil=>exact absurd rfl z1
     | cons p1 p2=>
      cases hw with
      | nil=>exact absurd rfl z2
      | cons p3 p4=>exact gr e4 S hQ hos el F' N' (fun p hp=>Heap.lt_size (N p hp).1) (.tuple (((be.cons p1 p2).append (.cons p3 p4)).more (az.le_push _ _))) s.toks
   ·cases e3
   ·cases e3
  ·cases e2
  ·cases e2
 | _=>cases e
def Et:rU:=fun g h H nx R k=>eG g fun i=>eG h fun j=>fI (Int.sub i j) fun r=>k (.int (.lit r)) H nx R
theorem Dm:wB x d Et fun u v=>binaryOp .Sub u v:=by
 intro g h H nx R k e A O L m J s u v Q E Hh S iu iv hQ
 symm
 obtain ⟨i,rfl,e1⟩:=cM e
 obtain ⟨j,rfl,e2⟩:=cM e1
 rw [lV] at e2
 obtain ⟨t,rfl,o1⟩:=iu
 obtain ⟨t2,rfl,o2⟩:=iv
 symm
 exact AutoIntOps.sub_0 (show Q (.int (i - j) s.toks) { s with toks:=s.toks+1 } from hQ.now S (.int (e:=.lit (i - j)) _ trivial) e2 _)
def It:rU:=fun g h H nx R k=>eG h fun c=>@Bool.rec (fun q0=>Bool) false (fP g fun a=>vZ a (.lit c) (fun i j=>fI (Int.fmod i j) fun r=>k (.int (.lit r)) H nx R) (k (.int (.md a (.lit c))) H nx R)) (kK (.ofNat 0) c)
theorem Fx:wB x d It fun u v=>binaryOp .Mod u v:=by
 intro g h H nx R k e A O L m J s u v Q E Hh S iu iv hQ
 obtain ⟨c,rfl,e1⟩:=cM e
 obtain ⟨hz,e2⟩:=aJ e1
 obtain ⟨a,rfl,e3⟩:=dA e2
 have z:(0:Int)<c:=of_decide_eq_true (j9 hz)
 obtain ⟨t,rfl,o1⟩:=iu
 obtain ⟨t2,rfl,o2⟩:=iv
 have hz:¬ ((c:Int) == 0)=true:=by simp only [beq_iff_eq]; lia
 have fin:∀(e:GI),e.ok J.ns.length->e.ev J.ns=Int.fmod (a.ev J.ns) c->k (.int e) H nx R=true->wpAny (model x.prog x.w) A (binaryOp .Mod (.int (a.ev J.ns) t) (.int (GI.ev J.ns (.lit c)) t2)) Q E s:=fun e o q hk=>
  AutoIntOps.mod_1 (b:=c) hz (show Q (.int (Int.fmod (a.ev J.ns) c) s.toks) { s with toks:=s.toks+1 } from by rw [<- q]; exact hQ.now S (.int _ o) hk _)
 rcases wY e3 with ⟨i',j,h1,h2,e4⟩ | e4
 ·cases h2; subst h1
  rw [lV] at e4
  exact fin (.lit (Int.fmod i' c)) trivial rfl e4
 ·exact fin (.md a (.lit c)) ⟨o1,trivial⟩ rfl e4
def rx:wH:=fun g H nx R k=>eG g fun i=>fI (Int.neg i) fun r=>k (.int (.lit r)) H nx R
theorem lk:EJ x d rx fun u=>unaryOp .USub u:=by
 intro g H nx R k e A O L m J s u Q E Hh S iu hQ
 obtain ⟨i,rfl,e1⟩:=cM e
 rw [lV] at e1
 obtain ⟨t,rfl,o1⟩:=iu
 exact P.neg_int (show Q (.int (-i) s.toks) { s with toks:=s.toks+1 } from hQ.now S (.int (e:=.lit (-i)) _ trivial) e1 _)
noncomputable def dg(o:rU)(f g:EV):EV:=fun H nx R loc k=>f H nx R loc fun a H nx R=>g H nx R loc fun b H nx R=>o a b H nx R k
theorem bK{op:Operator}{o:rU}(ho:wB x d o fun u v=>binaryOp op u v){f g:EV}{e i:Expr}(hf:aK x d vs f e)(hg:aK x d vs g i)(pos:Pos):aK x d vs (dg o f g) (.BinOp e op i pos):=by
 intro H nx R loc k h A env O L m J s Q E Hh En S Lo hQ
 refine wpAny_BinOp (hf H nx R loc _ h A env O L m J s _ E Hh En S Lo fun J' H' nx' R' s' a v le S' ha hk=>?_)
 refine hg H' nx' R' loc _ hk A env O L m J' s' _ E Hh En S' (Lo.more le) fun J'' H'' nx'' R'' s'' b u le' S'' hb hk'=>?_
 exact ho a b H'' nx'' R'' k hk' A O L m J'' s'' v u Q E Hh S'' (ha.more le') hb (hQ.le (le.trans le'))
noncomputable def xd(o:wH)(f:EV):EV:=fun H nx R loc k=>f H nx R loc fun a H nx R=>o a H nx R k
theorem mx{op:UnaryOp}{o:wH}(ho:EJ x d o fun u=>unaryOp op u){f:EV}{e:Expr}(hf:aK x d vs f e)(pos:Pos):aK x d vs (xd o f) (.UnaryOp op e pos):=by
 intro H nx R loc k h A env O L m J s Q E Hh En S Lo hQ
 refine wpAny_UnaryOp (hf H nx R loc _ h A env O L m J s _ E Hh En S Lo fun J' H' nx' R' s' a v le S' ha hk=>?_)
 exact ho a H' nx' R' k hk A O L m J' s' v Q E Hh S' ha (hQ.le le)
end
end
section
section
theorem Eb{names:List Str}{vs:List Value}{n:Str}(h:n∉names.take vs.length):(names.zip vs).lookup n=none:=by
 induction names generalizing vs with
 | nil=>rfl
 | cons a r ih=>
  cases vs with
  | nil=>rfl
  | cons v vs=>
   simp only [List.length_cons,List.take_succ_cons,List.mem_cons,not_or] at h
   rw [List.zip_cons_cons,List.lookup_cons]
   have:(n == a)=false:=by simpa using h.1
   rw [this]; exact ih h.2
theorem kq{names:List Str}{vs:List Value}{n:Str}(h:n∈names.take vs.length):((names.zip vs).lookup n).isSome=true:=by
 induction names generalizing vs with
 | nil=>simp at h
 | cons a r ih=>
  cases vs with
  | nil=>simp at h
  | cons v vs=>
   simp only [List.length_cons,List.take_succ_cons,List.mem_cons] at h
   rw [List.zip_cons_cons,List.lookup_cons]
   by_cases e:n=a
   ·subst e; simp
   ·have:(n == a)=false:=by simpa using e
    rw [this]; exact ih (h.resolve_left e)
theorem sH{names:List Str}{vs:List Value}(hn:names.Nodup)(hl:names.length=vs.length):(names.filterMap fun n=>((names.zip vs).lookup n).map (n,·))=names.zip vs:=by
 have key:∀(ns:List Str) (ws:List Value),ns.Nodup->ns.length=ws.length->∀(f:Str->Option Value),(∀(i:Nat) (n:Str) (v:Value),ns[i]?=some n->ws[i]?=some v->f n=some v)->(ns.filterMap fun n=>(f n).map (n,·))=ns.zip ws:=by
  intro ns
  induction ns with
  | nil=>intro ws _ _ f _; rfl
  | cons a r ih=>
   intro ws hn hl f hf
   cases ws with
   | nil=>simp at hl
   | cons v ws=>
    rw [List.filterMap_cons,hf 0 a v rfl rfl]
    show (a,v)::_=(a,v)::_
    rw [ih ws (List.nodup_cons.mp hn).2 (by simpa using hl) f fun i n u h1 h2=>hf (i+1) n u (by simpa using h1) (by simpa using h2)]
    rfl
 refine key names vs hn hl _ fun i n v h1 h2=>?_
 clear key
 induction names generalizing vs i with
 | nil=>simp at h1
 | cons a r ih=>
  cases vs with
  | nil=>simp at h2
  | cons w vs=>
   rw [List.zip_cons_cons,List.lookup_cons]
   cases i with
   | zero=>simp at h1 h2; subst h1 h2; simp
   | succ i=>
    simp only [List.getElem?_cons_succ] at h1 h2
    have ne:n≠a:=fun e=>by subst e; exact (List.nodup_cons.mp hn).1 (List.mem_of_getElem? h1)
    have:(n == a)=false:=by simpa using ne
    rw [this]
    exact ih (List.nodup_cons.mp hn).2 (by simpa using hl) i h1 h2
noncomputable def jJ(r:List (Str × Value))(p:Str × Value):List (Str × Value):=if (r.lookup p.1).isNone then r++[p] else r
theorem uQ:∀(ps:List (Str × Value)) (acc:List (Str × Value)),(∀p∈ps,(acc.lookup p.1).isSome=true)->ps.foldl jJ acc=acc
 | [],acc,_=>rfl
 | p::ps,acc,h=>by
  rw [List.foldl_cons]
  have:jJ acc p=acc:=by
   unfold jJ
   rw [if_neg]
   have:=h p (.head _)
   rw [Option.isNone_iff_eq_none]
   intro q; rw [q] at this; cases this
  rw [this]
  exact uQ ps acc fun q hq=>h q (.tail _ hq)
theorem kY{n:Str}:∀{acc:List (Str × Value)},(∀p∈acc,p.1≠n)->acc.lookup n=none
 | [],_=>rfl
 | a::acc,h=>by
  rw [List.lookup_cons]
  have ne:(n == a.1)=false:=by simpa using Ne.symm (h a (.head _))
  rw [ne]
  exact kY fun p hp=>h p (.tail _ hp)
theorem ud:∀(ns:List Str) (ws:List Value) (acc:List (Str × Value)),ns.length=ws.length->ns.Nodup->(∀n∈ns,∀p∈acc,p.1≠n)->(ns.zip ws).foldl jJ acc=acc++ns.zip ws
 | [],ws,acc,_,_,_=>by simp
 | n::ns,[],acc,hl,_,_=>by simp at hl
 | n::ns,w::ws,acc,hl,hnd,hacc=>by
  rw [List.zip_cons_cons,List.foldl_cons]
  have:jJ acc (n,w)=acc++[(n,w)]:=by
   unfold jJ
   rw [if_pos]
   rw [Option.isNone_iff_eq_none]
   exact kY (hacc n (.head _))
  rw [this,ud ns ws _ (by simpa using hl) (List.nodup_cons.mp hnd).2 ?_]
  ·simp
  ·intro n' hn' p hp e
   rcases List.mem_append.mp hp with q | q
   ·exact hacc n' (.tail _ hn') p q e
   ·rw [List.mem_singleton.mp q] at e
    have e:n=n':=e
    subst e
    exact (List.nodup_cons.mp hnd).1 hn'
theorem xp{A B C:List Str}{vs dB dC:List Value}(hn:(A++B++C).Nodup)(hv:vs.length=(A++B).length)(hb:B.length=dB.length)(hc:C.length=dC.length) :
  ((B++C).zip (dB++dC)).foldl jJ ((A++B++C).zip vs)=(A++B++C).zip (vs++dC):=by
 have e0:(A++B++C).zip vs=(A++B).zip vs:=by
  have:(A++B++C).zip (vs++[])=(A++B).zip vs++C.zip []:=List.zip_append hv.symm
  rw [List.append_nil,List.zip_nil_right,List.append_nil] at this
  exact this
 have e1:(B.zip dB).foldl jJ ((A++B).zip vs)=(A++B).zip vs:=uQ _ _ fun p hp=>by
  have q:=(List.of_mem_zip (a:=p.1) (b:=p.2) hp).1
  exact kq (by rw [hv,List.take_length]; exact List.mem_append_right _ q)
 rw [List.zip_append hb,List.foldl_append,e0,e1]
 ·rw [ud C dC _ hc (List.nodup_append.mp hn).2.1 ?_]
  ·rw [List.zip_append hv.symm]
  ·intro n hn' p hp e
   have q:=(List.of_mem_zip (a:=p.1) (b:=p.2) hp).1
   exact (List.nodup_append.mp hn).2.2 p.1 q n hn' e
theorem pN{f:Str × Value->List (Str × Value)->Sem (ForInStep (List (Str × Value)))}(hf:∀p r,f p r=if (r.lookup p.1).isNone then (do pure PUnit.unit; pure (.yield (r++[p]))) else (do pure PUnit.unit; pure (.yield r))) :
  ∀(ps acc:List (Str × Value)),(forIn ps acc f:Sem _)=pure (ps.foldl jJ acc)
 | [],acc=>rfl
 | p::ps,acc=>by
  rw [List.forIn_cons,hf]
  have:(if (acc.lookup p.1).isNone then (do pure PUnit.unit; pure (ForInStep.yield (acc++[p]))) else (do pure PUnit.unit; pure (.yield acc)):Sem (ForInStep (List (Str × Value))))=pure (.yield (jJ acc p)):=by
   unfold jJ; split <;> rfl
  rw [this]
  exact pN hf ps _
theorem w6{s:Shared}{fd:FuncData}{as:List Arg}{df:List Expr}{vs ds:List Value}{A B C:List Str}{dB dC:List Value}(hp:fd.params=fH as df)(hds:∀(M:Model) (Ar:Around) (E:Value->Shared->Prop) (Q:Option (Array Value)->Shared->Prop),(∀o:Option (Array Value),(o.getD #[]).toList=dB++dC->Q o s)->wpAny M Ar (seqItems? fd.defaults) Q E s)
  (hn:as.map (·.arg)=A++B++C) (nd:(A++B++C).Nodup) (hv:vs.length=(A++B).length) (hb:B.length=dB.length) (hc:C.length=dC.length):BindsTo s fd ⟨vs,[]⟩ ((A++B++C).zip (vs++dC)):=by
 intro M Ar E Q hQ
 unfold bindArgs
 rw [hp]
 dsimp only [fH]
 rw [hn]
 simp only [List.map_nil,List.nil_append,List.forIn_nil,pure_bind]
 refine wpAny_bind (hds M Ar E _ fun o ho=>?_)
 rw [ho]
 simp only [List.length_append] at hv
 have hl:(A++B++C).length=A.length+B.length+C.length:=by rw [List.length_append,List.length_append]
 have h1:decide (vs.length > (A++B++C).length)=false:=decide_eq_false (Nat.not_lt.mpr (by rw [hl,hv]; exact Nat.le_add_right _ _))
 have h2:(dB++dC).length - (A++B++C).length=0:=Nat.sub_eq_zero_of_le (by rw [hl,List.length_append,<- hb,<- hc,Nat.add_assoc]; exact Nat.le_add_left _ _)
 have h3:(A++B++C).length - (dB++dC).length=A.length:=by rw [hl,List.length_append,<- hb,<- hc,Nat.add_assoc,Nat.add_sub_cancel]
 have h4:(A++B++C).take A.length=A:=by rw [List.append_assoc]; exact List.take_left
 have h5:(A++B++C).drop A.length=B++C:=by rw [List.append_assoc]; exact List.drop_left
 have h6:A.filter (fun n=>(List.lookup n ((A++B++C).zip vs)).isNone)=[]:=by
  rw [List.filter_eq_nil_iff]
  intro n hn'
  have:=kq (names:=A++B++C) (vs:=vs) (n:=n) (by
   rw [hv]
   have e:(A++B++C).take (A.length+B.length)=A++B:=by
    rw [<- List.length_append]; exact List.take_left
   rw [e]; exact List.mem_append_left _ hn')
  intro q
  rw [Option.isNone_iff_eq_none] at q
  rw [q] at this; cases this
 have h7:=xp (vs:=vs) nd (by rw [List.length_append]; exact hv) hb hc
 have h8:(A++B++C).filterMap (fun n=>(((A++B++C).zip (vs++dC)).lookup n).map (n,·))=(A++B++C).zip (vs++dC):=sH nd (by rw [hl,List.length_append,hv,hc])
 simp only [h1,Bool.false_and,Bool.false_eq_true,if_false,h2,List.drop_zero,h3,h4,h5,h6,List.isEmpty_nil,Bool.not_true]
 rw [pN (fun p r=>rfl),h7,pure_bind]
 simp only [List.append_nil,h8]
 exact wpAny_pure hQ
end
end
section
noncomputable def SK.kind:SK->NameKind
 | .loc=>.local
 | .cel=>.cell
 | .blk=>.local
 | .glo=>.globalImplicit
inductive cD (T:List Str):aq->List (Str × NameKind)->Prop
 | nil:cD T [] []
 | cons {i:Nat} {kd:SK} {s:Str} {r:aq} {ns:List (Str × NameKind)}:T[i]?=some s->kd≠.blk->cD T r ns->cD T ((i,kd)::r) ((s,kd.kind)::ns)
theorem cD.lookup{T:List Str}(hT:T.Nodup){vs:aq}{ns:List (Str × NameKind)}(h:cD T vs ns)(nd:(vs.map (·.1)).Nodup):∀{j i:Nat} {kd:SK} {s:Str},vs[j]?=some (i,kd)->T[i]?=some s->ns.lookup s=some kd.kind:=by
 induction h with
 | nil=>intro j i kd s e; simp at e
 | @cons i0 kd0 s0 r ns hs hb hr ih=>
  intro j i kd s e ht
  rw [List.lookup_cons]
  cases j with
  | zero=>
   simp only [List.getElem?_cons_zero,Option.some.injEq,Prod.mk.injEq] at e
   obtain ⟨rfl,rfl⟩:=e
   rw [hs] at ht; cases ht
   simp
  | succ j=>
   simp only [List.getElem?_cons_succ] at e
   have ne:i≠i0:=fun q=>by
    subst q
    exact (List.nodup_cons.mp nd).1 (List.mem_map.mpr ⟨_,List.mem_of_getElem? e,rfl⟩)
   have ns':s≠s0:=fun q=>ne ((cF hT ht hs).mp q)
   have:(s == s0)=false:=by simpa using ns'
   rw [this]
   exact ih (List.nodup_cons.mp nd).2 e ht
theorem rX{kindOf:Str->Option NameKind}{s:Str}:∀{binds:List (Str × Value)} {m:Str->Option Value},(∀p∈binds,p.1≠s)->bindL kindOf binds m s=m s
 | [],m,_=>rfl
 | (n,v)::r,m,h=>by
  rw [bindL,rX fun p hp=>h p (.tail _ hp)]
  split
  ·have:s≠n:=Ne.symm (h _ (.head _))
   show (if s=n then _ else _)=_
   rw [if_neg this]
  ·rfl
theorem mN{kindOf:Str->Option NameKind}{s:Str}:∀{binds:List (Str × Value)} {m:Str->Option Value},(∀p∈binds,p.1≠s)->bindC kindOf binds m s=m s
 | [],m,_=>rfl
 | (n,v)::r,m,h=>by
  rw [bindC,mN fun p hp=>h p (.tail _ hp)]
  split
  ·rfl
  ·have:s≠n:=Ne.symm (h _ (.head _))
   show (if s=n then _ else _)=_
   rw [if_neg this]
theorem nv{kindOf:Str->Option NameKind}:∀{ps:List Str} {ws:List Value} {j:Nat} {s:Str} {v:Value} (m:Str->Option Value),ps.Nodup->ps[j]?=some s->ws[j]?=some v->
  (kindOf s=some .local->bindL kindOf (ps.zip ws) m s=some v)/\(kindOf s≠some .local->bindC kindOf (ps.zip ws) m s=some v)
 | [],ws,j,s,v,m,_,h,_=>by simp at h
 | p::ps,[],j,s,v,m,_,_,h=>by simp at h
 | p::ps,w::ws,0,s,v,m,nd,h1,h2=>by
  simp only [List.getElem?_cons_zero,Option.some.injEq] at h1 h2
  subst h1 h2
  have out:∀q∈ps.zip ws,q.1≠p:=fun q hq e=>by
   have:=(List.of_mem_zip (a:=q.1) (b:=q.2) hq).1
   rw [e] at this
   exact (List.nodup_cons.mp nd).1 this
  rw [List.zip_cons_cons,bindL,bindC,rX out,mN out]
  exact ⟨fun k=>by rw [if_pos k,if_pos rfl],fun k=>by rw [if_neg k,if_pos rfl]⟩
 | p::ps,w::ws,j+1,s,v,m,nd,h1,h2=>by
  simp only [List.getElem?_cons_succ] at h1 h2
  rw [List.zip_cons_cons,bindL,bindC]
  exact ⟨(nv _ (List.nodup_cons.mp nd).2 h1 h2).1,(nv _ (List.nodup_cons.mp nd).2 h1 h2).2⟩
noncomputable def dI:Nat->aq->List Nat->List Nat
 | _,[],acc=>acc
 | j,(_,.cel)::r,acc=>dI (j+1) r (j::acc)
 | j,(_,.loc)::r,acc=>dI (j+1) r acc
 | j,(_,.blk)::r,acc=>dI (j+1) r acc
 | j,(_,.glo)::r,acc=>dI (j+1) r acc
inductive i7 (T:List Str) (vs:aq):List Nat->List (Str × Addr)->Prop
 | nil:i7 T vs [] []
 | cons {j i:Nat} {s:Str} {a:Addr} {js:List Nat} {cs:List (Str × Addr)}:vs[j]?=some (i,.cel)->T[i]?=some s->i7 T vs js cs->i7 T vs (j::js) ((s,a)::cs)
theorem wk{T:List Str}{vs:aq}:∀{r:aq} {ns:List (Str × NameKind)},cD T r ns->∀(j n:Nat) (acc:List Nat) (bcc:List (Str × Addr)),(∀k,vs[j+k]?=r[k]?)->i7 T vs acc bcc->i7 T vs (dI j r acc) (cellsFrom n ns bcc):=by
 intro r ns h
 induction h with
 | nil=>intro j n acc bcc _ h; exact h
 | @cons i kd s r ns hs hb hr ih=>
  intro j n acc bcc hv ha
  have hv':∀k,vs[j+1+k]?=r[k]?:=fun k=>by
   have:=hv (k+1)
   rw [List.getElem?_cons_succ] at this
   rw [<- this]; congr 1; lia
  have h0:vs[j]?=some (i,kd):=by have:=hv 0; simpa using this
  cases kd with
  | cel=>exact ih (j+1) (n+1) _ _ hv' (.cons h0 hs ha)
  | loc=>exact ih (j+1) n _ _ hv' ha
  | blk=>exact absurd rfl hb
  | glo=>exact ih (j+1) n _ _ hv' ha
theorem kG{i:Nat}:∀{r:aq} {j k:Nat} {acc:List Nat},(r[k]?=some (i,.cel)∨(j+k)∈acc)->(j+k)∈dI j r acc
 | [],j,k,acc,h=>h.elim (fun e=>by simp at e) id
 | (a,kd)::r,j,k,acc,h=>by
  have step:∀acc',(∀x∈acc,x∈acc')->(k=0->j∈acc'∨kd≠.cel)->(j+k)∈dI (j+1) r acc':=by
   intro acc' hs h0
   cases k with
   | zero=>
    rcases h with e | e
    ·simp at e
     rcases h0 rfl with q | q
     ·have:=kG (i:=i) (r:=r) (j:=j+1) (k:=0) (acc:=acc')
      exact celFrom_old q
     ·exact absurd e.2 q
    ·exact celFrom_old (hs _ e)
   | succ k=>
    have e2:j+(k+1)=(j+1)+k:=by lia
    rw [e2]
    rcases h with e | e
    ·exact kG (.inl (by simpa using e))
    ·exact celFrom_old (by rw [<- e2]; exact hs _ e)
  cases kd with
  | cel=>exact step _ (fun x hx=>.tail _ hx) fun q0=>.inl (.head _)
  | loc=>exact step _ (fun x hx=>hx) fun q0=>.inr (by intro q; cases q)
  | blk=>exact step _ (fun x hx=>hx) fun q0=>.inr (by intro q; cases q)
  | glo=>exact step _ (fun x hx=>hx) fun q0=>.inr (by intro q; cases q)
where
 celFrom_old {x:Nat}:∀{r:aq} {j:Nat} {acc:List Nat},x∈acc->x∈dI j r acc
 | [],_,_,h=>h
 | (_,.cel)::r,j,acc,h=>celFrom_old (r:=r) (.tail _ h)
 | (_,.loc)::r,j,acc,h=>celFrom_old (r:=r) h
 | (_,.blk)::r,j,acc,h=>celFrom_old (r:=r) h
 | (_,.glo)::r,j,acc,h=>celFrom_old (r:=r) h
theorem io:∀(ns:List (Str × NameKind)) (n:Nat) (acc:List (Str × Addr)) (lo:Nat),lo<=n->(acc.map (·.2)).Nodup->(∀p∈acc,lo<=p.2/\p.2<n)->
  ((cellsFrom n ns acc).map (·.2)).Nodup/\∀p∈cellsFrom n ns acc,lo<=p.2
 | [],n,acc,lo,_,h1,h2=>⟨h1,fun p hp=>(h2 p hp).1⟩
 | (s,kd)::r,n,acc,lo,hl,h1,h2=>by
  unfold cellsFrom
  split
  ·refine io r (n+1) _ lo (by lia) ?_ ?_
   ·rw [List.map_cons]
    refine List.nodup_cons.mpr ⟨fun q=>?_,h1⟩
    obtain ⟨p,hp,e⟩:=(List.mem_map.mp q)
    have:=(h2 p hp).2
    have e:p.2=n:=e
    rw [e] at this
    exact Nat.lt_irrefl _ this
   ·intro p hp
    rcases List.mem_cons.mp hp with rfl | hp
    ·exact ⟨hl,Nat.lt_succ_self _⟩
    ·exact ⟨(h2 p hp).1,Nat.lt_succ_of_lt (h2 p hp).2⟩
  ·exact io r n acc lo hl h1 h2
end
section
inductive GF where
 | next | brk | cont
 | ret (g:GV)
inductive qN (T:List Str) (J:az):GF->Flow->Prop
 | next:qN T J .next .next
 | brk:qN T J .brk .brk
 | cont:qN T J .cont .cont
 | ret {g:GV} {v:Value}:Is T J g v->qN T J (.ret g) (.ret v)
abbrev KS:=GF->Tr->Nat->Rn->List GV->Bool
abbrev SV:=Tr->Nat->Rn->List GV->KS->Bool
def xZ(x:aQ)(J:az)(env:Env)(vs:aq)(O:Heap)(L:Addr)(k:KS)(Q:Flow->Shared->Prop):Prop:=∀J' H nx R loc m s gf fl,J.le J'->St x J' H nx R O L m s->bq x J' env L m vs loc->qN x.T J' gf fl->k gf H nx R loc=true->Q fl s
def au(x:aQ)(d:Nat)(vs:aq)(f:SV)(b:List Stmt):Prop:=
 ∀H nx R loc k,f H nx R loc k=true->∀(A:Around) (env:Env) (O:Heap) (L:Addr) (m:Str->Option Value) (J:az) (s:Shared) (Q:Flow->Shared->Prop) (E:Value->Shared->Prop),
  cj x d A O L->bP env L->St x J H nx R O L m s->bq x J env L m vs loc->
  xZ x J env vs O L k Q->wpAny (model x.prog x.w) A (execs b env) Q E s
def vX(x:aQ)(d:Nat)(vs:aq)(f:SV)(b:List Stmt):Prop:=
 ∀H nx R loc k,f H nx R loc k=true->∀(A:Around) (env:Env) (O:Heap) (L:Addr) (m:Str->Option Value) (J:az) (s:Shared) (Q:Flow->Shared->Prop) (E:Value->Shared->Prop),
  cj x d A O L->bP env L->St x J H nx R O L m s->bq x J env L m vs loc->((vs.all fun p=>match p.2 with | .loc=>true | .glo=>true | _=>false)=true->∀a∈J.as,@LT.lt Nat _ a L)->
  xZ x J env vs O L k Q->wpAny (model x.prog x.w) A (execs b env) Q E s
theorem au.at0{x:aQ}{d:Nat}{vs:aq}{f:SV}{b:List Stmt}(h:au x d vs f b):vX x d vs f b:=fun H nx R loc k e A env O L m J s Q E Hh En S Lo q0 hQ=>h H nx R loc k e A env O L m J s Q E Hh En S Lo hQ
structure aE where
 f:Nat
 np:Nat
 tl:List GV
 cel:List Nat
def putL(l:List GV):Nat->GV->(List GV->Bool)->Bool:=@List.rec GV (fun q0=>Nat->GV->(List GV->Bool)->Bool) (fun q0 q0 q0=>false) (fun g r ih k v c=>@Nat.rec (fun q0=>Bool) (c (v::r)) (fun k q0=>ih k v fun r=>c (g::r)) k) l
theorem qC:∀{l:List GV} {j:Nat} {v:GV} {c:List GV->Bool},putL l j v c=true->∃l',c l'=true/\∀i,ba l' i=if i=j then v else ba l i
 | [],_,_,_,h=>by cases h
 | g::l,0,v,c,h=>⟨v::l,h,fun i=>by cases i <;> rfl⟩
 | g::l,j+1,v,c,h=>by
  obtain ⟨l',h1,h2⟩:=qC (l:=l) (j:=j) (v:=v) (c:=fun r=>c (g::r)) h
  refine ⟨g::l',h1,fun i=>?_⟩
  cases i with
  | zero=>rfl
  | succ i=>
   show ba l' i=_
   rw [h2]
   by_cases e:i=j
   ·subst e; rw [if_pos rfl,if_pos rfl]
   ·rw [if_neg e,if_neg (by lia)]; rfl
def vK(js:List Nat):List GV->Tr->Nat->(List GV->Tr->Nat->Bool)->Bool:=@List.rec Nat (fun q0=>List GV->Tr->Nat->(List GV->Tr->Nat->Bool)->Bool) (fun loc H nx c=>c loc H nx)
 (fun j q0 ih loc H nx c=>H.set 24 nx (.cell (ba loc j)) fun H=>fN (Nat.succ nx) fun nx'=>putL loc j (.own nx) fun loc=>ih loc H nx' c) js
def yW(gf:GF)(H:Tr)(nx:Nat)(R:Rn)(k:KV):Bool:=@GF.rec (fun q0=>Bool) (k .none H nx R) false false (fun g=>k g H nx R) gf
def eR(r:aE)(aO:SV)(gs:List GV)(H:Tr)(nx:Nat)(R:Rn)(k:KV):Bool:=@Bool.rec (fun q0=>Bool) false
 (fL (mr gs (ny (Nat.sub (cQ gs) r.f) r.tl)) fun loc=>vK r.cel loc H nx fun loc H nx=>aO H nx R loc fun gf H nx R q0=>yW gf H nx R k) (Nat.ble r.f (cQ gs)&&Nat.ble (cQ gs) r.np)
structure br (x:aQ) (vs:aq) (r:aE) (fa:Addr) (body:List Stmt) (D:aV):Prop where
 look:x.K.lookup fa=some ⟨D.oc,D.od,.func (fnOf D.name D.qual (fH D.as D.df) body D.scope D.dV D.kV D.doc D.pm D.an D.cdv D.ct),D.osl⟩
 code:codeIn x.K D.cdv D.qual=true
 names:cD x.T vs D.scope.names
 nod:(vs.map (·.1)).Nodup
 co:D.scope.isCoroutine=false
 gen:D.scope.isGenerator=false
 kind:D.scope.kind=.function
 cel:r.cel=dI 0 vs []
 pars:∀(j:Nat) (s:Str),(D.as.map (·.arg))[j]?=some s->∃i kd,vs[j]?=some (i,kd)/\x.T[i]?=some s/\(kd=.loc∨kd=.cel)
 np:D.as.length=r.np
 f:r.f<=r.np
 dv:∃ds:List Value,ds.length=r.np - r.f/\((D.dV=.none/\ds=[])∨∃t oc od n sl,D.dV=.ref t/\x.K.lookup t=some ⟨oc,od,.seq ds.toArray n,sl⟩)/\(∀j v,ds[j]?=some v->d7 x.T (ba r.tl j) v)/\∀j,ds.length<=j->ba r.tl j=.nul
theorem Is.nul{T:List Str}{J:az}{v:Value}(h:Is T J .nul v):False:=by cases h
theorem jD:∀(l:List GV) (k:Nat),ba l k=(l[k]?).getD .nul
 | [],_=>by simp; rfl
 | g::l,0=>rfl
 | g::l,k+1=>by rw [List.getElem?_cons_succ]; exact jD l k
theorem v7{T:List Str}(hT:T.Nodup){vs:aq}{ns:List (Str × NameKind)}(h:cD T vs ns)(nd:(vs.map (·.1)).Nodup):(ns.map (·.1)).Nodup:=by
 induction h with
 | nil=>exact List.nodup_nil
 | @cons i kd s r ns hs hb hr ih=>
  rw [List.map_cons]
  refine List.nodup_cons.mpr ⟨fun q=>?_,ih (List.nodup_cons.mp nd).2⟩
  have back:∀{r:aq} {ns:List (Str × NameKind)},cD T r ns->s∈ns.map (·.1)->i∈r.map (·.1):=by
   intro r ns hr
   induction hr with
   | nil=>intro q; simp at q
   | @cons i0 kd0 s0 r ns hs0 hb0 hr0 ih0=>
    intro q
    rw [List.map_cons] at q ⊢
    rcases List.mem_cons.mp q with e | q
    ·have:=(cF hT hs hs0).mp e
     subst this
     exact .head _
    ·exact .tail _ (ih0 q)
  exact (List.nodup_cons.mp nd).1 (back hr q)
theorem gH:∀(ns:List (Str × NameKind)) (n:Nat) (acc:List (Str × Addr)),(ns.map (·.1)).Nodup->(acc.map (·.1)).Nodup->(∀p∈acc,p.1∉ns.map (·.1))->((cellsFrom n ns acc).map (·.1)).Nodup
 | [],n,acc,_,h,_=>h
 | (s,kd)::r,n,acc,hn,ha,hd=>by
  rw [List.map_cons] at hn
  obtain ⟨n1,n2⟩:=(List.nodup_cons.mp hn)
  unfold cellsFrom
  split
  ·refine gH r _ _ n2 ?_ ?_
   ·rw [List.map_cons]
    refine List.nodup_cons.mpr ⟨fun q=>?_,ha⟩
    obtain ⟨p,hp,e⟩:=(List.mem_map.mp q)
    exact hd p hp (by rw [e]; exact .head _)
   ·intro p hp
    rcases List.mem_cons.mp hp with rfl | hp
    ·exact n1
    ·exact fun q=>hd p hp (.tail _ q)
  ·exact gH r n acc n2 ha fun p hp q=>hd p hp (.tail _ q)
theorem fE:∀(r:aq) (j:Nat) (acc:List Nat),acc.Nodup->(∀i∈acc,i<j)->(dI j r acc).Nodup
 | [],_,_,h,_=>h
 | (_,.cel)::r,j,acc,h,hl=>fE r (j+1) _ (List.nodup_cons.mpr ⟨fun q=>Nat.lt_irrefl _ (hl _ q),h⟩) fun i hi=>by
  rcases List.mem_cons.mp hi with rfl | hi
  ·exact Nat.lt_succ_self _
  ·exact Nat.lt_succ_of_lt (hl _ hi)
 | (_,.loc)::r,j,acc,h,hl=>fE r (j+1) _ h fun i hi=>Nat.lt_succ_of_lt (hl _ hi)
 | (_,.blk)::r,j,acc,h,hl=>fE r (j+1) _ h fun i hi=>Nat.lt_succ_of_lt (hl _ hi)
 | (_,.glo)::r,j,acc,h,hl=>fE r (j+1) _ h fun i hi=>Nat.lt_succ_of_lt (hl _ hi)
structure kC (x:aQ) (J:az) (H:Tr) (nx:Nat) (g:Heap) (L':Addr) (h₁:Heap) (more:List (Addr × Obj)) (os:List Obj):Prop where
 nod:J.as.Nodup
 ok:∀k o,os[k]?=some o->aL x.T x.CT x.nd (x.prog,x.w) J (H.get k) o
 len:J.as.length=os.length
 nx:J.as.length=nx
 news:News g L' h₁ (more++J.as.zip os)
theorem kC.led{x:aQ}{J:az}{H:Tr}{nx:Nat}{g h₁:Heap}{L':Addr}{os:List Obj}(p:kC x J H nx g L' h₁ [] os):gT x.T x.CT x.nd (x.prog,x.w) J H g L' h₁:=⟨p.nod,os,p.ok,p.len,p.news⟩
theorem kC.push{x:aQ}{g h₁:Heap}{L' a:Addr}{J:az}{H H1:Tr}{nx:Nat}{gg:GO}{o:Obj}{cells:List (Addr × Obj)}{os:List Obj}(P:kC x J H nx g L' h₁ ((a,o)::cells) os)(na:a∉J.as)(a1:At H H1 nx gg)
  (oi:aL x.T x.CT x.nd (x.prog,x.w) (J.push a) gg o):kC x (J.push a) H1 (nx+1) g L' h₁ cells (os++[o]):=by
 have le:J.le (J.push a):=az.le_push J a
 refine ⟨?_,fun k y hk=>?_,by simp [az.push,P.len],by simp [az.push,P.nx],?_⟩
 ·refine List.nodup_append.mpr ⟨P.nod,by simp,fun y hy z hz e=>?_⟩
  rw [List.mem_singleton.mp hz] at e
  subst e; exact na hy
 ·rw [a1]
  by_cases e:k=nx
  ·subst e
   rw [<- P.nx,P.len,List.getElem?_concat_length] at hk
   cases hk
   rw [if_pos rfl]; exact oi
  ·rw [if_neg e]
   have lt:k<os.length:=by
    have:=aN hk
    rw [List.length_append,List.length_singleton,<- P.len,P.nx] at this
    rw [<- P.len,P.nx]; lia
   rw [List.getElem?_append_left lt] at hk
   exact (P.ok k y hk).more le
 ·show News g L' h₁ (cells++(J.as++[a]).zip (os++[o]))
  rw [nR P.len]
  intro p hp
  have N:=P.news
  rcases List.mem_append.mp hp with q | q
  ·exact N p (.tail _ (List.mem_append_left _ q))
  ·rcases List.mem_append.mp q with q | q
   ·exact N p (.tail _ (List.mem_append_right _ q))
   ·rw [List.mem_singleton.mp q]; exact N _ (.head _)
theorem Pv{x:aQ}{vs:aq}{cm:Str->Option Value}{g h₁:Heap}{L':Addr}(js:List Nat):∀(cs:List (Str × Addr)) (cells:List (Addr × Obj)),i7 x.T vs js cs->CellsAre cm cs cells->∀(loc:List GV) (H:Tr) (nx:Nat) (c:List GV->Tr->Nat->Bool),vK js loc H nx c=true->
  ∀(J:az) (os:List Obj),kC x J H nx g L' h₁ cells os->(cs.map (·.2)).Nodup->(∀p∈cs,p.2∉J.as)->js.Nodup->(∀j∈js,∀i s,vs[j]?=some (i,.cel)->x.T[i]?=some s->(ba loc j=.nul/\cm s=none)∨∃v,cm s=some v/\Is x.T J (ba loc j) v)->
  ∃J' H' nx' loc' os',c loc' H' nx'=true/\J.le J'/\J'.ns=J.ns/\kC x J' H' nx' g L' h₁ [] os'/\(∀j,j∉js->ba loc' j=ba loc j)/\(∀j∈js,∀i s,vs[j]?=some (i,.cel)->x.T[i]?=some s->(∃k a,ba loc' j=.own k/\J'.as[k]?=some a/\(s,a)∈cs))/\(js=[]->J'=J):=by
 induction js with
 | nil=>
  intro cs cells hc hcl loc H nx c h J os P _ _ _ _
  cases hc
  cases hcl
  exact ⟨J,H,nx,loc,os,h,.refl _,rfl,P,fun q0 q0=>rfl,fun j hj=>by simp at hj,fun q0=>rfl⟩
 | cons j js ih=>
  intro cs cells hc hcl loc H nx c h J os P nd out jn hv
  cases hc with
  | @cons _ i s a _ cs hj hs hr=>
   cases hcl with
   | @cons _ _ o _ cells hd hcr=>
    symm
    have h:H.set 24 nx (.cell (ba loc j)) (fun H=>fN (Nat.succ nx) fun nx'=>putL loc j (.own nx) fun loc=>vK js loc H nx' c)=true:=h
    obtain ⟨H1,a1,h⟩:=Tr.set_ok _ _ _ _ _ h
    rw [bO] at h
    obtain ⟨loc1,h,hl⟩:=qC h
    rw [List.map_cons] at nd
    obtain ⟨nd1,nd2⟩:=(List.nodup_cons.mp nd)
    obtain ⟨jn1,jn2⟩:=(List.nodup_cons.mp jn)
    have na:a∉J.as:=out _ (.head _)
    have le:J.le (J.push a):=az.le_push J a
    have oi:aL x.T x.CT x.nd (x.prog,x.w) (J.push a) (.cell (ba loc j)) o:=by
     rcases hv j (.head _) i s hj hs with ⟨e1,e2⟩ | ⟨v,e1,e2⟩
     ·rw [e1]; rw [e2] at hd; exact .cell0 hd
     ·rw [e1] at hd; exact .cell hd (e2.more le)
    have P1:=P.push na a1 oi
    have out':∀p∈cs,p.2∉(J.push a).as:=fun p hp q=>by
     rcases List.mem_append.mp q with q | q
     ·exact out p (.tail _ hp) q
     ·exact nd1 (List.mem_map.mpr ⟨p,hp,List.mem_singleton.mp q⟩)
    have hv':∀j∈js,∀i s,vs[j]?=some (i,.cel)->x.T[i]?=some s->(ba loc1 j=.nul/\cm s=none)∨∃v,cm s=some v/\Is x.T (J.push a) (ba loc1 j) v:=fun j' hj' i' s' v1 v2=>by
     have ne:j'≠j:=fun q=>by subst q; exact jn1 hj'
     rw [hl,if_neg ne]
     rcases hv j' (.tail _ hj') i' s' v1 v2 with q | ⟨v,q1,q2⟩
     ·exact .inl q
     ·exact .inr ⟨v,q1,q2.more le⟩
    obtain ⟨J',H',nx',loc',os',e1,e2,e3,e4,e5,e6,q0⟩:=(ih cs cells hr hcr loc1 H1 (nx+1) c h (J.push a) (os++[o]) P1 nd2 out' jn2 hv')
    symm
    refine ⟨J',H',nx',loc',os',e1,le.trans e2,e3,e4,fun j' hj'=>?_,fun j' hj' i' s' v1 v2=>?_,fun q=>by cases q⟩
    ·rw [e5 j' fun q=>hj' (.tail _ q),hl,if_neg fun q=>hj' (by rw [q]; exact .head _)]
    ·rcases List.mem_cons.mp hj' with q | q
     ·subst q
      rw [hj] at v1; cases v1
      rw [hs] at v2; cases v2
      refine ⟨nx,a,?_,aF e2.1 (by rw [<- P.nx]; exact eE J a),.head _⟩
      rw [e5 _ jn1,hl,if_pos rfl]
     ·obtain ⟨k,b,b1,b2,b3⟩:=(e6 j' q i' s' v1 v2)
      exact ⟨k,b,b1,b2,.tail _ b3⟩
end
section
theorem k9{α β:Type}{l:List α}{r:List β}{p:α × β}(h:p∈l.zip r):∃j:Nat,l[j]?=some p.1/\r[j]?=some p.2:=by
 obtain ⟨j,hj⟩:=(List.mem_iff_getElem?.mp h)
 rw [List.getElem?_zip_eq_some] at hj
 exact ⟨j,hj⟩
theorem jp{α β:Type}{f:α->β}{l:List α}{j:Nat}{b:β}(h:(l.map f)[j]?=some b):∃a,l[j]?=some a/\f a=b:=by
 rw [List.getElem?_map] at h
 obtain ⟨a,h1,h2⟩:=(Option.map_eq_some_iff.mp h)
 exact ⟨a,h1,h2⟩
theorem cD.get{T:List Str}{vs:aq}{ns:List (Str × NameKind)}(h:cD T vs ns):∀{j i:Nat} {kd:SK},vs[j]?=some (i,kd)->kd≠.blk/\∃t,T[i]?=some t:=by
 induction h with
 | nil=>intro j i kd hj; simp at hj
 | cons hs hb hr ih=>
  intro j i kd hj
  cases j with
  | zero=>simp at hj; obtain ⟨rfl,rfl⟩:=hj; exact ⟨hb,_,hs⟩
  | succ j=>simp at hj; exact ih hj
theorem i7.mem{T:List Str}{vs:aq}{js:List Nat}{cs:List (Str × Addr)}(h:i7 T vs js cs){j:Nat}(q:j∈js):∃i,vs[j]?=some (i,.cel):=by
 induction h with
 | nil=>cases q
 | cons h1 h2 h3 ih=>
  rcases List.mem_cons.mp q with rfl | q
  ·exact ⟨_,h1⟩
  ·exact ih q
theorem jO:∀(r:aq) (j:Nat),(r.all fun p=>match p.2 with | .loc=>true | .glo=>true | _=>false)=true->dI j r []=[]
 | [],_,_=>rfl
 | (_,.loc)::r,j,h=>jO r (j+1) h
 | (_,.glo)::r,j,h=>jO r (j+1) h
 | (_,.cel)::r,j,h=>by cases h
 | (_,.blk)::r,j,h=>by cases h
section
variable {prog:Program} {w:World} {A A₀:Around} {s:Shared} {K:Frag} {L:Addr} {O base:Heap} {m mg mb:Str->Option Value} {news:List (Addr × Obj)} {p:Program} {loose:List Str} {mean:ExcName->Option Value}
theorem zg{env:Env}{outer:List Env}{R:Result->Shared->Prop}{name qual:Str}{params:Arguments}{body:List Stmt}{scope:Scope}{dV kV doc pm cdv ct oc:Value}{an od:Option Addr}{osl:Array (Option Value)}{f:Addr}{args:Args}{binds:List (Str × Value)}
  (B:Below A₀ base outer O) (F:Fr O L s.heap m) (X₀:K.In O) (N:News O L s.heap news) (T:Top p loose mean mg mb O) (hA:A.frames=some (env::outer)) (hf:env.frame=some L) (hke:env.scope.kind=.function)
  (ho:K.lookup f=some ⟨oc,od,.func (fnOf name qual params body scope dV kV doc pm an cdv ct),osl⟩) (hcd:codeIn K cdv qual=true) (hroom:A.depth<recursionLimit)
  (hbind:BindsTo s (fnOf name qual params body scope dV kV doc pm an cdv ct) args binds) (hkind:(binds.all fun y=>scope.names.lookup y.1 == some .local||scope.names.lookup y.1 == some .cell)=true)
  (hnd:((cellsFrom 0 scope.names []).map (·.1)).Nodup)
  (h:∀g L' h₁ tk cells,Fr O L g m->Fr g L' h₁ (bindL (envOfC qual scope L' f cdv).kindOf binds fun q0=>none)->News g L' h₁ (cells++news)->
   CellsAre (bindC (envOfC qual scope L' f cdv).kindOf binds fun q0=>none) (cellsFrom (L'+1) scope.names []) cells->Below A base (env::outer) g->K.In g->Top p loose mean mg mb g->(∀p∈news,p.1<L')->O.StaysIn g->(∀v s',LeaveK O L m g R v s'->R (.ok (.ret v)) s')->
   wpAny (model prog w) (A.deeper (envOfC qual scope L' f cdv)) (execs body (envOfC qual scope L' f cdv))
    (fun fl s'=>R (.ok (.ret (match fl with | .ret v=>v | _=>.none))) s')
    (fun e s'=>wpAny (model prog w) (A.deeper (envOfC qual scope L' f cdv)) (leaving (envOfC qual scope L' f cdv) e) (fun q0 s''=>R (.error e) s'') (fun e' s''=>R (.error e') s'') s')
    { s with heap:=h₁,toks:=tk })
  (hco:scope.isCoroutine=false) (hgen:scope.isGenerator=false) (hk:scope.kind=.function):codeAny (model prog w) A (.call (.ref f) args) R s:=by
 obtain ⟨FG,BG,st,lv⟩:=(groundX (R:=R) B F N hA hf hke)
 refine codeAny_call_function hroom ((X₀.keeps F.keep) _ _ ho) rfl hco hgen rfl (codeRec_of (X₀.keeps F.keep) hcd) (hbind _ _ _ _ ?_)
 refine wpAny_newFunctionEnv_cells hk (kindsX hkind _) fun env' he s' x=>?_
 subst he
 refine ⟨(T.nolimit.keeps F.keep).keeps x.toInCall.keep,codeAny_func ?_⟩
 obtain ⟨h₁,tk,rfl,q0⟩:=x.done
 have hk₁:=x.toInCall.keep
 obtain ⟨cells,NC,Y⟩:=(Cl.news (h₀:=s.heap) (Nat.le_refl _) fun n c hm=>⟨x.cell n c (lookup_of_mem_nodup (cellsFrom_names scope.names 0 (s.heap.objs.size+1) [] [] rfl▸hnd) hm),x.above n c hm⟩)
 refine h _ s.heap.objs.size h₁ tk cells FG ⟨x.toInCall.ns,fun b o e=>hk₁ b o (of_hideAll _ e),Nat.le_of_eq (hideAll_size _ _)⟩ (fun p hp=>?_) Y BG (X₀.keeps st) (T.keeps st) (fun p hp=>Heap.lt_size (N p hp).1) st lv
 rcases List.mem_append.mp hp with hp | hp
 ·refine ⟨(NC p hp).1,(NC p hp).2.1,?_⟩
  cases q:(hideAll s.heap (news.map (·.1))).get? p.1 with
  | none=>rfl
  | some o=>have:=of_hideAll _ q; rw [(NC p hp).2.2] at this; cases this
 ·exact ⟨hk₁ _ _ (N p hp).1,Nat.ne_of_lt (Heap.lt_size (N p hp).1),hideAll_none _ (List.mem_map_of_mem hp)⟩
end
def Ff(r:aE)(gs:List GV)(H:Tr)(nx:Nat)(c:List GV->Tr->Nat->Bool):Bool:=@Bool.rec (fun q0=>Bool) false
 (fL (mr gs (ny (Nat.sub (cQ gs) r.f) r.tl)) fun loc=>vK r.cel loc H nx c) (Nat.ble r.f (cQ gs)&&Nat.ble (cQ gs) r.np)
theorem ce1{u f p:Nat}(h:f<=u)(k:u<=p):u=min f p+min (u - f) (p - f):=by
 rw [Nat.min_eq_left (Nat.le_trans h k),Nat.min_eq_left (Nat.sub_le_sub_right k f),Nat.add_sub_cancel' h]
theorem Ws{u f p:Nat}(h:f<=u):p - f - (u - f)=p - u:=Nat.sub_sub_sub_cancel_right h
theorem lP{x:aQ}{d:Nat}{vs:aq}{r:aE}{fa:Addr}{body:List Stmt}{D:aV}(hT:x.T.Nodup)(hD:("__debug__" : Str)∉x.T)(ok:br x vs r fa body D)
  {gs:List GV} {H:Tr} {nx:Nat} {R:Rn} {c:List GV->Tr->Nat->Bool} (h:Ff r gs H nx c=true) {A:Around} {O:Heap} {L:Addr} {m:Str->Option Value} {J:az} {s:Shared} {us:List Value} {Rr:Result->Shared->Prop}
  (Hh:cj x (d+1) A O L) (S:St x J H nx R O L m s) (iu:be x.T J gs us)
  (hB:∀g L' m' J' H' nx' loc' s' env' base outer env,c loc' H' nx'=true->J.le J'->Fr O L g m->O.StaysIn g->(∃A₀,Below A₀ base outer O)->Below A base (env::outer) g->A.frames=some (env::outer)->env.frame=some L->cj x d (A.deeper env') g L'->bP env' L'->St x J' H' nx' R g L' m' s'->bq x J' env' L' m' vs loc'->
   ((vs.all fun p=>match p.2 with | .loc=>true | .glo=>true | _=>false)=true->∀a∈J'.as,@LT.lt Nat _ a L')->(∀v s',LeaveK O L m g Rr v s'->Rr (.ok (.ret v)) s')->
   wpAny (model x.prog x.w) (A.deeper env') (execs body env') (fun fl s'=>Rr (.ok (.ret (match fl with | .ret v=>v | _=>.none))) s')
    (fun e s'=>wpAny (model x.prog x.w) (A.deeper env') (leaving env' e) (fun q0 s''=>Rr (.error e) s'') (fun e' s''=>Rr (.error e') s'') s') s'):codeAny (model x.prog x.w) A (.call (.ref fa) ⟨us,[]⟩) Rr s:=by
 obtain ⟨hc,h⟩:=aJ h
 obtain ⟨hc1,hc2⟩:=Bool.and_eq_true_iff.mp hc
 have hc1:=Nat.le_of_ble_eq_true hc1
 have hc2:=Nat.le_of_ble_eq_true hc2
 rw [cU,iu.length] at hc1 hc2
 rw [nh] at h
 symm
 obtain ⟨⟨A₀,base,outer,env,B,hA,hf,hke⟩,X,top,room,hnd,units⟩:=Hh
 obtain ⟨ds,dl,dw,dc,dn⟩:=ok.dv
 symm
 let ps:=D.as.map (·.arg)
 have pl:ps.length=r.np:=by simp [ps,ok.np]
 have fp:=ok.f
 have kd_of:∀s:Str,s∈ps->∃i kd,(i,kd)∈vs/\x.T[i]?=some s/\(kd=.loc∨kd=.cel)/\D.scope.names.lookup s=some kd.kind:=fun s hs=>by
  obtain ⟨j,hj⟩:=(List.mem_iff_getElem?.mp hs)
  obtain ⟨i,kd,h1,h2,h3⟩:=(ok.pars j s hj)
  exact ⟨i,kd,List.mem_of_getElem? h1,h2,h3,ok.names.lookup hT ok.nod h1 h2⟩
 have psn:ps.Nodup:=by
  rw [List.nodup_iff_pairwise_ne,List.pairwise_iff_getElem]
  intro a b ha hb' lt e
  obtain ⟨i,kd,h1,h2,q0⟩:=(ok.pars a ps[a] (List.getElem?_eq_getElem ha))
  obtain ⟨i',kd',h1',h2',q0⟩:=(ok.pars b ps[b] (List.getElem?_eq_getElem hb'))
  have ei:=(cF hT h2 h2').mp e
  subst ei
  have z1:(vs.map (·.1))[a]?=some i:=by rw [List.getElem?_map,h1]; rfl
  have z2:(vs.map (·.1))[b]?=some i:=by rw [List.getElem?_map,h1']; rfl
  have:=(List.getElem?_inj (aN z1) ok.nod).mp (z1.trans z2.symm)
  lia
 have e1:ps=ps.take r.f++(ps.drop r.f).take (us.length - r.f)++ps.drop us.length:=by
  rw [List.append_assoc]
  conv=>lhs; rw [<- List.take_append_drop r.f ps]
  congr 1
  conv=>lhs; rw [<- List.take_append_drop (us.length - r.f) (ps.drop r.f)]
  congr 1
  rw [List.drop_drop]; congr 1; lia
 have binds:=w6 (ds:=ds) (s:=s) (fd:=fnOf D.name D.qual (fH D.as D.df) body D.scope D.dV D.kV D.doc D.pm D.an D.cdv D.ct) (vs:=us) (as:=D.as) (df:=D.df) (A:=ps.take r.f) (B:=(ps.drop r.f).take (us.length - r.f)) (C:=ps.drop us.length)
  (dB:=ds.take (us.length - r.f)) (dC:=ds.drop (us.length - r.f)) rfl (fun M Ar E Q hq=>by
   rw [List.take_append_drop] at hq
   show wpAny M Ar (seqItems? D.dV) Q E s
   rcases dw with ⟨q1,q2⟩ | ⟨t,oc,od,n,sl,q1,q2⟩
   ·rw [q1]; subst q2; exact wpAny_pure (hq none rfl)
   ·rw [q1]; exact wpAny_seqItems ((X.keeps S.fr.keep) _ _ q2) rfl (hq _ (by simp))) e1 (by rw [<- e1]; exact psn)
  (by simp only [List.length_append,List.length_take,List.length_drop]; rw [pl]; exact ce1 hc1 hc2) (by simp only [List.length_take,List.length_drop]; rw [pl,dl]) (by simp only [List.length_drop]; rw [pl,dl]; exact (Ws hc1).symm)
 rw [<- e1] at binds
 let ws:=us++ds.drop (us.length - r.f)
 symm
 have wl:ws.length=ps.length:=by simp only [ws,List.length_append,List.length_drop,pl,dl]; rw [Ws hc1]; exact Nat.add_sub_cancel' hc2
 obtain ⟨os,hos,el,N⟩:=S.led.at_
 symm
 have hkind:((ps.zip ws).all fun y=>D.scope.names.lookup y.1 == some .local||D.scope.names.lookup y.1 == some .cell)=true:=by
  rw [List.all_eq_true]
  intro y hy
  obtain ⟨i,kd,q0,q0,h3,h4⟩:=(kd_of y.1 (List.of_mem_zip (a:=y.1) (b:=y.2) hy).1)
  rw [h4]
  rcases h3 with rfl | rfl <;> rfl
 have nsn:=v7 hT ok.names ok.nod
 refine zg B S.fr X N top hA hf hke ok.look ok.code (by lia) binds hkind (gH _ _ _ nsn List.nodup_nil (by intro p hp; cases hp)) (fun g L' h₁ tk cells Fg F' N' Y B' X' T' lt st lvK=>?_) ok.co ok.gen ok.kind
 have ca:=wk (vs:=vs) ok.names 0 (L'+1) [] [] (fun k=>by rw [Nat.zero_add]) .nil
 obtain ⟨cn1,cn2⟩:=(io D.scope.names (L'+1) [] (L'+1) (Nat.le_refl _) List.nodup_nil (by intro p hp; cases hp))
 let loc0:=mr gs (ny (Nat.sub (cQ gs) r.f) r.tl)
 have lv:∀j,(∃v,ws[j]?=some v/\Is x.T J (ba loc0 j) v)∨(ws.length<=j/\ba loc0 j=.nul):=fun j=>by
  have e:ba loc0 j=if j<us.length then (gs[j]?).getD .nul else ba r.tl (us.length - r.f+(j - us.length)):=by
   simp only [loc0]
   rw [jD,im,jZ,cU,iu.length]
   by_cases q:j<us.length
   ·rw [if_pos q,List.getElem?_append_left (by rw [iu.length]; exact q)]
   ·rw [if_neg q,List.getElem?_append_right (by rw [iu.length]; lia),iu.length,List.getElem?_drop,jD]
    rfl
  by_cases q:j<us.length
  ·left
   rw [if_pos q] at e
   obtain ⟨g0,hg⟩:∃g0,gs[j]?=some g0:=⟨_,List.getElem?_eq_getElem (by rw [iu.length]; exact q)⟩
   obtain ⟨v,v1,v2⟩:=(iu.get hg)
   refine ⟨v,?_,?_⟩
   ·simp only [ws]; rw [List.getElem?_append_left q]; exact v1
   ·rw [e,hg]; exact v2
  ·rw [if_neg q] at e
   by_cases q2:us.length - r.f+(j - us.length)<ds.length
   ·left
    obtain ⟨d0,hd⟩:∃d0,ds[us.length - r.f+(j - us.length)]?=some d0:=⟨_,List.getElem?_eq_getElem q2⟩
    refine ⟨d0,?_,?_⟩
    ·simp only [ws]
     rw [List.getElem?_append_right (by lia),List.getElem?_drop]
     exact hd
    ·rw [e]
     have:=dc _ _ hd
     exact this.is
   ·right
    refine ⟨by rw [wl,pl]; lia,?_⟩
    rw [e]
    exact dn _ (by lia)
 symm
 have slot:∀(j i:Nat) (kd:SK) (t:Str),vs[j]?=some (i,kd)->x.T[i]?=some t->(ba loc0 j=.nul)∨∃v,Is x.T J (ba loc0 j) v/\ps[j]?=some t/\ws[j]?=some v:=fun j i kd t h1 h2=>by
  rcases lv j with ⟨v,v1,v2⟩ | ⟨_,q⟩
  ·right
   refine ⟨v,v2,?_,v1⟩
   have jl:j<ps.length:=by rw [<- wl]; exact aN v1
   obtain ⟨i',kd',h1',h2',q0⟩:=(ok.pars j ps[j] (List.getElem?_eq_getElem jl))
   rw [h1] at h1'; cases h1'
   rw [h2] at h2'; cases h2'
   exact List.getElem?_eq_getElem jl
  ·exact .inl q
 have P:kC x J H nx g L' h₁ cells os:=⟨S.led.nod,hos,el,S.nx,N'⟩
 have outs:∀p∈cellsFrom (L'+1) D.scope.names [],p.2∉J.as:=fun p hp q=>by
  obtain ⟨kk,hk⟩:=(List.mem_iff_getElem?.mp q)
  have z1:p.2<L':=lt _ (cn hk (List.getElem?_eq_getElem (el▸aN hk)))
  have z2:=cn2 p hp
  exact Nat.lt_irrefl _ (Nat.lt_trans z1 z2)
 have cmv:∀j∈dI 0 vs [],∀i t,vs[j]?=some (i,.cel)->x.T[i]?=some t->(ba loc0 j=.nul/\bindC (envOfC D.qual D.scope L' fa D.cdv).kindOf (ps.zip ws) (fun q0=>none) t=none)∨∃v,bindC (envOfC D.qual D.scope L' fa D.cdv).kindOf (ps.zip ws) (fun q0=>none) t=some v/\Is x.T J (ba loc0 j) v:=fun j hj i t h1 h2=>by
  have kn:(envOfC D.qual D.scope L' fa D.cdv).kindOf t=some .cell:=ok.names.lookup hT ok.nod h1 h2
  rcases lv j with ⟨v,v1,v2⟩ | ⟨q1,q2⟩
  ·rcases slot j i .cel t h1 h2 with q | ⟨v',w1,w2,w3⟩
   ·rw [q] at v2; exact v2.nul.elim
   ·right
    exact ⟨v',(nv _ psn w2 w3).2 (by rw [kn]; intro q; cases q),w1⟩
  ·left
   refine ⟨q2,?_⟩
   rw [mN fun p hp e=>?_]
   obtain ⟨a,ha1,ha2⟩:=(k9 hp)
   obtain ⟨i',kd',h1',h2',q0⟩:=(ok.pars a p.1 ha1)
   rw [e] at h2'
   have ei:=(cF hT h2' h2).mp rfl
   subst ei
   have z1:(vs.map (·.1))[a]?=some i':=by rw [List.getElem?_map,h1']; rfl
   have z2:(vs.map (·.1))[j]?=some i':=by rw [List.getElem?_map,h1]; rfl
   have:=(List.getElem?_inj (aN z1) ok.nod).mp (z1.trans z2.symm)
   have:=aN ha1
   rw [wl] at q1
   lia
 rw [ok.cel] at h
 obtain ⟨J',H',nx',loc',os',e2,le2,ens,P',keep',cel',nocel⟩:=(Pv (cm:=bindC (envOfC D.qual D.scope L' fa D.cdv).kindOf (ps.zip ws) fun q0=>none) (dI 0 vs []) _ cells ca Y loc0 H nx _ h J os P cn1 outs (fE vs 0 [] List.nodup_nil (by intro i hi; cases hi)) cmv)
 symm
 have S':St x J' H' nx' R g L' (bindL (envOfC D.qual D.scope L' fa D.cdv).kindOf (ps.zip ws) fun q0=>none) { s with heap:=h₁,toks:=tk }:=⟨P'.led,P'.nx,F',S.gens,by rw [ens]; exact S.rn⟩
 have Lo':bq x J' (envOfC D.qual D.scope L' fa D.cdv) L' (bindL (envOfC D.qual D.scope L' fa D.cdv).kindOf (ps.zip ws) fun q0=>none) vs loc':=fun j i kd hj=>by
  have ni:kd≠.blk/\∃t,x.T[i]?=some t:=ok.names.get hj
  obtain ⟨nb,t,ht⟩:=ni
  have kn:(envOfC D.qual D.scope L' fa D.cdv).kindOf t=some kd.kind:=ok.names.lookup hT ok.nod hj ht
  refine ⟨t,ht,?_,?_⟩
  ·rw [beq_eq_false_iff_ne]; intro q; rw [<- q] at hD; exact hD (List.mem_of_getElem? ht)
  ·cases kd with
   | blk=>exact absurd rfl nb
   | glo=>exact kn
   | loc=>
    refine ⟨rfl,kn,fun n=>?_⟩
    have nc:j∉dI 0 vs []:=fun q=>by
     obtain ⟨i',q⟩:=(ca.mem q)
     rw [hj] at q; cases q
    rw [keep' j nc] at n ⊢
    rcases slot j i .loc t hj ht with q | ⟨v,v1,v2,v3⟩
    ·exact absurd q n
    ·exact ⟨v,(nv _ psn v2 v3).1 kn,v1.more le2⟩
   | cel=>
    have hm:j∈dI 0 vs []:=by
     have:=kG (i:=i) (r:=vs) (j:=0) (k:=j) (acc:=[]) (.inl hj)
     rwa [Nat.zero_add] at this
    obtain ⟨kk,a,k1,k2,k3⟩:=(cel' j hm i t hj ht)
    exact ⟨kn,kk,a,k1,k2,lookup_of_mem_nodup (gH _ _ _ nsn List.nodup_nil (by intro p hp; cases hp)) k3⟩
 have Hh':cj x d (A.deeper (envOfC D.qual D.scope L' fa D.cdv)) g L':=⟨⟨A,base,env::outer,_,B',Around.frames_deeper hA,rfl,ok.kind⟩,X',T',by show A.depth+1+d<_; lia,hnd,by show A.units+3+4 * d+40<_; lia⟩
 refine hB g L' _ J' H' nx' loc' _ _ base outer env e2 le2 Fg st ⟨A₀,B⟩ B' hA hf Hh' ⟨rfl,rfl,ok.kind,rfl⟩ S' Lo' (fun q a ha=>?_) lvK
 rw [nocel (jO vs 0 q)] at ha
 obtain ⟨kk,hk⟩:=(List.mem_iff_getElem?.mp ha)
 exact lt _ (cn hk (List.getElem?_eq_getElem (el▸aN hk)))
theorem se{x:aQ}{d:Nat}{vs:aq}{r:aE}{fa:Addr}{body:List Stmt}{D:aV}{aO:SV}(hT:x.T.Nodup)(hD:("__debug__" : Str)∉x.T)(ok:br x vs r fa body D)(hb:vX x d vs aO body)
  {gs:List GV} {H:Tr} {nx:Nat} {R:Rn} {k:KV} (h:eR r aO gs H nx R k=true) {A:Around} {O:Heap} {L:Addr} {m:Str->Option Value} {J:az} {s:Shared} {us:List Value} {Rr:Result->Shared->Prop}
  (Hh:cj x (d+1) A O L) (S:St x J H nx R O L m s) (iu:be x.T J gs us)
  (hQ:∀J' H nx R s g v,J.le J'->St x J' H nx R O L m s->Is x.T J' g v->k g H nx R=true->Rr (.ok (.ret v)) s):codeAny (model x.prog x.w) A (.call (.ref fa) ⟨us,[]⟩) Rr s:=by
 refine lP (c:=fun loc H nx=>aO H nx R loc fun gf H nx R q0=>yW gf H nx R k) hT hD ok h Hh S iu fun g L' m' J' H' nx' loc' s1 env' base outer env e2 le2 Fg st q0 B' hA hf Hh' En' S' Lo' low lv=>?_
 refine wpAny_mono (hb H' nx' R loc' _ e2 _ _ g L' _ J' _ (fun fl s'=>LeaveK O L m g Rr (match fl with | .ret v=>v | _=>.none) s') _ Hh' En' S' Lo' low fun J'' H'' nx'' R'' loc'' m'' s'' gf fl le3 S'' Lo'' hfl hk=>?_) (fun fl s' hl=>lv _ _ hl) fun q0 q0 y=>y
 have back:Fr O L s''.heap m->News O L s''.heap _->St x J'' H'' nx'' R'' O L m s'':=fun F0 N0=>⟨⟨S''.led.nod,_,S''.led.at_.choose_spec.1,S''.led.at_.choose_spec.2.1,N0⟩,S''.nx,F0,S''.gens,S''.rn⟩
 refine ⟨L',m'',_,S''.fr,S''.led.at_.choose_spec.2.2,fun F0 N0=>?_⟩
 have S3:=back F0 N0
 cases hfl with
 | next=>exact hQ _ _ _ _ _ _ _ (le2.trans le3) S3 .none hk
 | brk=>cases hk
 | cont=>cases hk
 | ret i=>exact hQ _ _ _ _ _ _ _ (le2.trans le3) S3 i hk
end
section
section
variable {x:aQ} {d:Nat} {vs:aq} {J:az} {H:Tr} {nx:Nat} {R:Rn} {O:Heap} {L:Addr} {m:Str->Option Value} {s:Shared} {A:Around} {E:Value->Shared->Prop} {Q:Value->Shared->Prop} {k:KV} {env:Env} {loc:List GV}
abbrev ce:=List GV->Tr->Nat->Rn->KV->Bool
noncomputable def bx(es:List Expr):Bool:=es.all bZ
theorem l6{e:Expr}{es:List Expr}(h:bx (e::es)=true)(env:Env):starEach (e::es) env=(false,eval e env)::starEach es env/\bx es=true:=by
 obtain ⟨h1,h2⟩:=Bool.and_eq_true_iff.mp h
 exact ⟨(by cases e <;> first | rfl | (cases h1; done)),h2⟩
theorem fM:∀{es:List Expr},bx es=true->∀(env:Env) (pos:Pos),(backTo pos (starEach es env)).any (·.1)=false
 | [],_,_,_=>rfl
 | e::es,h,env,pos=>by
  obtain ⟨h1,h2⟩:=(l6 h env)
  rw [h1]
  show (false||(backTo pos (starEach es env)).any (·.1))=false
  rw [fM h2 env pos]; rfl
theorem jx{M:Model}{f:Value}{es:List Expr}{pos:Pos}{Q:Args->Shared->Prop}(hp:bx es=true)(h:wpAny M A (spliced (backTo pos (starEach es env))) (fun us s'=>Q ⟨us,[]⟩ s') E s):wpAny M A (evalArgs f true (backTo pos (starEach es env)) []) Q E s:=by
 cases es with
 | nil=>exact evalArgs_of_nil h
 | cons e es=>
  obtain ⟨h1,h2⟩:=(l6 hp env)
  rw [h1] at h ⊢
  exact evalArgs_plain h
where
 evalArgs_of_nil {M:Model} {f:Value} {pos:Pos} {Q:Args->Shared->Prop} (h:wpAny M A (spliced (backTo pos (starEach [] env))) (fun us s'=>Q ⟨us,[]⟩ s') E s):wpAny M A (evalArgs f true (backTo pos (starEach [] env)) []) Q E s:=by
  unfold evalArgs
  show wpAny M A (spliced [] >>= _) Q E s
  refine wpAny_bind (wpAny_mono h (fun us s' h'=>?_) fun q0 q0 y=>y)
  refine wpAny_bind (wpAny_pure ?_)
  refine wpAny_holding ?_
  exact wpAny_bind (wpAny_pure (wpAny_bind (wpAny_pure (wpAny_pure h'))))
theorem hX{l:LV}{es:List Expr}{pos:Pos}{f:Value}{first:List Value}{kl:KL}(hl:eg x d vs l es)(hp:bx es=true)(hk:keepIn x.K f=true)(h:l H nx R loc kl=true)(Hh:cj x d A O L)(En:bP env L)(S:St x J H nx R O L m s)(Lo:bq x J env L m vs loc)
  (hQ:∀J' H nx R s gs us,J.le J'->St x J' H nx R O L m s->be x.T J' gs us->kl gs H nx R=true->wpAny (model x.prog x.w) A (call f (first++us)) Q E s):wpAny (model x.prog x.w) A (callWith pos f first (backTo pos (starEach es env)) []) Q E s:=
 callWith_of (P:=fun h=>x.K.In h) (by rw [fM hp env pos]; rfl) (keeps_K hk) (jx hp (hl H nx R loc kl h A env O L m J s pos _ E Hh En S Lo fun J' H' nx' R' s' gs us le S' i hk'=>⟨Hh.X.keeps S'.fr.keep,hQ J' H' nx' R' s' gs us le S' i hk'⟩))
theorem fw{l:LV}{es:List Expr}{pos:Pos}{id:String}{first:List Value}{kl:KL}(hl:eg x d vs l es)(hp:bx es=true)(h:l H nx R loc kl=true)(Hh:cj x d A O L)(En:bP env L)(S:St x J H nx R O L m s)(Lo:bq x J env L m vs loc)
  (hQ:∀J' H nx R s gs us,J.le J'->St x J' H nx R O L m s->be x.T J' gs us->kl gs H nx R=true->wpAny (model x.prog x.w) A (call (.builtin id) (first++us)) Q E s):wpAny (model x.prog x.w) A (callWith pos (.builtin id) first (backTo pos (starEach es env)) []) Q E s:=
 callWith_builtin (fM hp env pos) (jx hp (hl H nx R loc kl h A env O L m J s pos _ E Hh En S Lo fun J' H' nx' R' s' gs us le S' i hk'=>hQ J' H' nx' R' s' gs us le S' i hk'))
theorem nD{l:LV}{es:List Expr}{pos:Pos}{id:String}{kl:KL}(hl:eg x d vs l es)(hp:bx es=true)(h:l H nx R loc kl=true)(Hh:cj x d A O L)(En:bP env L)(S:St x J H nx R O L m s)(Lo:bq x J env L m vs loc)
  (hQ:∀J' H nx R s gs us,J.le J'->St x J' H nx R O L m s->be x.T J' gs us->kl gs H nx R=true->wpAny (model x.prog x.w) A (call (.type id) us) Q E s):wpAny (model x.prog x.w) A (callWith pos (.type id) [] (backTo pos (starEach es env)) []) Q E s:=
 PySem.callWith_type (fM hp env pos) (jx hp (hl H nx R loc kl h A env O L m J s pos _ E Hh En S Lo fun J' H' nx' R' s' gs us le S' i hk'=>hQ J' H' nx' R' s' gs us le S' i hk'))
def cK(x:aQ)(d:Nat)(f:ce)(v:Value):Prop:=∀gs H nx R k,f gs H nx R k=true->∀(A:Around) (O:Heap) (L:Addr) (m:Str->Option Value) (J:az) (s:Shared) (us:List Value) (Q E:Value->Shared->Prop),
 cj x d A O L->St x J H nx R O L m s->be x.T J gs us->fj x J O L m k Q->wpAny (model x.prog x.w) A (call v us) Q E s
noncomputable def aT(o:ce)(l:LV):EV:=fun H nx R loc k=>l H nx R loc fun gs H nx R=>o gs H nx R k
theorem iJ{i a:Nat}{t:Str}{v:Value}(hv:vs[i]?=some (a,.glo))(ht:x.T[a]?=some t)(hm:bp x t v)(Hh:cj x d A O L)(En:bP env L)(S:St x J H nx R O L m s)(Lo:bq x J env L m vs loc)(q:Q v s)(pos:Pos) :
  wpAny (model x.prog x.w) A (eval (.Name t pos) env) Q E s:=by
 obtain ⟨t',ht',hd,h1⟩:=(Lo i a .glo hv)
 rw [ht] at ht'; cases ht'
 have T:=topRead_of Hh.top
 rcases hm with hm | ⟨hm,hn,hb⟩
 ·exact Name_function_global En.kind h1 (loadGlobal_global (env:=env) (by rw [En.glob]; exact T.g.keeps S.fr.keep) (mg_of Hh.X T.g hm) q) hd
 ·exact Name_function_global En.kind h1 (loadGlobal_builtin (env:=env) (by rw [En.glob]; exact T.g.keeps S.fr.keep) (mg_none_of Hh.X T.g hm) (by rw [En.bui]; exact T.b.keeps S.fr.keep) ((T.builtins _ hn).trans hb) q) hd
theorem ay{i a:Nat}{t:Str}{v:Value}{o:ce}{l:LV}{es:List Expr}(hv:vs[i]?=some (a,.glo))(ht:x.T[a]?=some t)(hm:bp x t v)(ho:cK x d o v)(hl:eg x d vs l es)(hp:bx es=true)
  (hk:keepIn x.K v=true∨(∃id,v=.builtin id)∨∃id,v=.type id) (p pos:Pos):aK x d vs (aT o l) (.Call (.Name t p) es [] pos):=by
 intro H nx R loc k h A env O L m J s Q E Hh En S Lo hQ
 refine Call_Name rfl (iJ hv ht hm Hh En S Lo ?_ p)
 rcases hk with hk | ⟨id,rfl⟩ | ⟨id,rfl⟩
 ·exact hX hl hp hk h Hh En S Lo fun J' H nx R s gs us le S' i hk'=>ho gs H nx R k hk' A O L m J' s us Q E Hh S' i (hQ.le le)
 ·exact fw hl hp h Hh En S Lo fun J' H nx R s gs us le S' i hk'=>ho gs H nx R k hk' A O L m J' s us Q E Hh S' i (hQ.le le)
 ·exact nD hl hp h Hh En S Lo fun J' H nx R s gs us le S' i hk'=>ho gs H nx R k hk' A O L m J' s us Q E Hh S' i (hQ.le le)
structure aU (x:aQ) (d:Nat) (r:aE) (aO:SV) (fa:Addr):Prop where
 ok:∃vs body D,br x vs r fa body D/\au x d vs aO body
 keep:keepIn x.K (.ref fa)=true
 fn:isFn x.K (.ref fa)=true
theorem cE(hT:x.T.Nodup)(hD:("__debug__" : Str)∉x.T){r:aE}{aO:SV}{fa:Addr}(hf:aU x d r aO fa):cK x (d+1) (eR r aO) (.ref fa):=by
 intro gs H nx R k h A O L m J s us Q E Hh S iu hQ
 obtain ⟨vs,body,D,ok,hb⟩:=hf.ok
 exact wpAny_call (se hT hD ok hb.at0 h Hh S iu fun J' H nx R s g v le S' i hk=>hQ J' H nx R s g v le S' i hk)
def jg(C:Nat)(r:aE)(aO:SV):ce:=fun gs H nx R k=>H.set 24 nx (.idict []) fun H=>fN (Nat.succ nx) fun n1=>H.set 24 n1 (.inst C nx) fun H=>fN (Nat.succ n1) fun n2=>eR r aO (.own n1::gs) H n2 R fun g H nx R=>lR g (k (.own n1) H nx R)
structure GQ (x:aQ) (d:Nat) (C:Nat) (r:aE) (aO:SV) (cx fI:Addr):Prop where
 cls:x.CT[C]?=some cx
 makes:makesIn x.K cx=true
 init:findIn x.K (.ref cx) "__init__" = some (some (.ref fI))
 fn:aU x d r aO fI
theorem St.made'{H':Tr}{h':Heap}{D:Addr}{o:Obj}{g:GO}{os:List Obj}(S:St x J H nx R O L m s)(hos:∀k o,os[k]?=some o->aL x.T x.CT x.nd (x.prog,x.w) J (H.get k) o)(e:J.as.length=os.length)
  (F':Fr O L h' m) (N':News O L h' ((D,o)::J.as.zip os)) (lt:∀p∈J.as.zip os,p.1<D) (hg:aL x.T x.CT x.nd (x.prog,x.w) (J.push D) g o) (a:At H H' nx g):St x (J.push D) H' (nx+1) R O L m { s with heap:=h' }:=(S.made hos e F' N' lt hg a s.toks).1
theorem eN(hT:x.T.Nodup)(hD:("__debug__" : Str)∉x.T){C:Nat}{r:aE}{aO:SV}{cx fI:Addr}(hc:GQ x d C r aO cx fI):cK x (d+2) (jg C r aO) (.ref cx):=by
 intro gs H nx R k h A O L m J s us Q E Hh S iu hQ
 obtain ⟨H1,a1,h⟩:=Tr.set_ok _ _ _ _ _ h
 rw [bO] at h
 obtain ⟨H2,a2,h⟩:=Tr.set_ok _ _ _ _ _ h
 rw [bO] at h
 obtain ⟨os,hos,el,N⟩:=S.led.at_
 refine call_cls S.fr Hh.X N hc.makes hc.init hc.fn.fn fun X dx h' F' N' lt1 lt2=>?_
 have N1:News O L h' ((dx,dictOf [] 0)::J.as.zip os):=fun p hp=>N' p (.tail _ hp)
 have S1:St x (J.push dx) H1 (nx+1) R O L m { s with heap:=h' }:=S.made' hos el F' N1 lt1 (.idict 0 .nil) a1
 have S2:St x ((J.push dx).push X) H2 (nx+1+1) R O L m { s with heap:=h' }:=by
  obtain ⟨os1,hos1,el1,N2⟩:=S1.led.at_
  refine S1.made' hos1 el1 F' (fun p hp=>?_) (fun p hp=>?_) (.inst hc.cls (aF (az.le_push _ _).1 (by rw [<- S.nx]; exact eE J dx))) a2
  ·rcases List.mem_cons.mp hp with rfl | hp
   ·exact N' _ (.head _)
   ·exact N2 p hp
  ·have:=(List.of_mem_zip (a:=p.1) (b:=p.2) hp).1
   rcases List.mem_append.mp this with q | q
   ·obtain ⟨kk,hk⟩:=(List.mem_iff_getElem?.mp q)
    obtain ⟨o',ho'⟩:∃o',os[kk]?=some o':=⟨_,List.getElem?_eq_getElem (el▸aN hk)⟩
    have z:=lt1 (p.1,o') (cn hk ho')
    exact Nat.lt_trans z lt2
   ·rw [List.mem_singleton.mp q]; exact lt2
 have le:J.le ((J.push dx).push X):=(az.le_push _ _).trans (az.le_push _ _)
 have ix:Is x.T ((J.push dx).push X) (.own (nx+1)) (.ref X):=.own (by have:=eE (J.push dx) X; rw [S1.nx] at this; exact this)
 obtain ⟨vs',body,D,ok,hb⟩:=hc.fn.ok
 have Hu:cj x (d+1) (A.under (.builtin "type.__call__" ⟨.ref cx::us,[]⟩)) O L:=by
  obtain ⟨⟨A₀,base,outer,env,B,hA,hf,hke⟩,X,top,room,hnd,units⟩:=Hh
  refine ⟨⟨A₀,base,outer,env,B,?_,hf,hke⟩,X,top,?_,hnd,?_⟩
  ·exact hA
  ·show A.depth+1+(d+1)<_; lia
  ·show A.units+1+4 * (d+1)+40<_; lia
 refine se hT hD ok hb.at0 h Hu S2 (.cons ix (iu.more le)) fun J' H nx R s g v le' S' i hk=>?_
 obtain ⟨rfl,hk⟩:=lA hk
 cases i
 exact ⟨rfl,hQ _ _ _ _ _ _ _ (le.trans le') S' (ix.more le') hk⟩
end
end
section
section
variable {x:aQ} {d:Nat} {vs:aq} {J:az} {H:Tr} {nx:Nat} {R:Rn} {O:Heap} {L:Addr} {m:Str->Option Value} {s:Shared} {A:Around} {E:Value->Shared->Prop} {Q:Value->Shared->Prop} {k:KV} {env:Env} {loc:List GV}
noncomputable def je:Expr->Bool
 | .Call (.Name _ _) [] [] _=>false
 | _=>true
theorem Dz{o:Expr}{name:Str}{e:Env}{w:Sem Value}(hc:je o=true):attributeBase o name e w=w:=by
 cases o with
 | Call f a k p=>
  cases f with
  | Name id q=>cases a with
   | nil=>cases k with
    | nil=>cases hc
    | cons _ _=>rfl
   | cons _ _=>rfl
  | _=>rfl
 | _=>rfl
theorem ff{prog:Program}{w:World}{o:Expr}{name:Str}{apos pos:Pos}{args:List Expr}(hc:je o=true)(hp:bx args=true)(hline:(apos.endLine == pos.line)=true)(hn:args.length<30)
  (h:wpAny (model prog w) A (eval o env) (fun ov s₁=>∀pl,wpAny (model prog w) A (getMethod ov name pl) (fun fx s₂=>wpAny (model prog w) A (callWith pos fx.1 fx.2 (backTo pos (starEach args env)) []) Q E s₂) E s₁) E s) :
  wpAny (model prog w) A (eval (.Call (.Attribute o name apos) args [] pos) env) Q E s:=by
 have hbase:attributeBase o name env (eval o env)=eval o env:=Dz hc
 rw [arm_eval_Call,hbase]
 refine wpAny_bind (wpAny_mono h (fun ov s₁ h₁=>?_) fun q0 q0 e=>e)
 refine wpAny_bind (wpAny_standAt ?_)
 have hall:((backTo pos (starEach args env)).all fun y=>!y.1)=true:=by
  rw [List.all_eq_true]
  intro y hy
  have:=fM hp env pos
  rw [List.any_eq_false] at this
  cases q:y.1 with
  | false=>rfl
  | true=>exact absurd q (this y hy)
 have hform:methodCallForm (args.length+([]:List Keyword).length) (backTo pos (starEach args env)) (backToKw pos (keywordEach [] env))=true:=by
  unfold methodCallForm
  rw [hall]
  show (true&&true&&decide (args.length+0+0<30))=true
  simpa using hn
 have hpos:methodCallPos true o env apos pos=pure pos:=by unfold methodCallPos; simp [hline]
 unfold methodCall
 rw [hform]
 refine wpAny_bind (wpAny_holding (wpAny_mono (h₁ _) (fun fx s₂ h₂=>?_) fun q0 q0 e=>e))
 exact wpAny_bind (wpAny_of_eq hpos h₂)
abbrev nB:=List (List (Nat × Nat × aE))
def yt(a:Nat)(k:Nat->aE->Bool)(l:List (Nat × Nat × aE)):Bool:=@List.rec (Nat × Nat × aE) (fun q0=>Bool) false (fun p q0 ih=>@Bool.rec (fun q0=>Bool) ih (k p.2.1 p.2.2) (Nat.beq p.1 a)) l
theorem F8{a:Nat}{k:Nat->aE->Bool}{l:List (Nat × Nat × aE)}:yt a k l=true->∃j r,(a,j,r)∈l/\k j r=true:=by
 induction l with
 | nil=>
  intro h
  cases h
 | cons p l ih=>
  intro h
  have e:yt a k (p::l)=@Bool.rec (fun q0=>Bool) (yt a k l) (k p.2.1 p.2.2) (Nat.beq p.1 a):=rfl
  rw [e] at h
  cases q:Nat.beq p.1 a with
  | true=>rw [q] at h; have:=Nat.eq_of_beq_eq_true q; obtain ⟨b,j,r⟩:=p; subst this; exact ⟨j,r,.head _,h⟩
  | false=>rw [q] at h; obtain ⟨j,r,h1,h2⟩:=(ih h); exact ⟨j,r,.tail _ h1,h2⟩
def PN(mt:nB):Nat->(List (Nat × Nat × aE)->Bool)->Bool:=@List.rec (List (Nat × Nat × aE)) (fun q0=>Nat->(List (Nat × Nat × aE)->Bool)->Bool) (fun q0 q0=>false) (fun p q0 ih C k=>@Nat.rec (fun q0=>Bool) (k p) (fun C q0=>ih C k) C) mt
theorem wJ:∀{mt:nB} {C:Nat} {k:List (Nat × Nat × aE)->Bool},PN mt C k=true->∃l,mt[C]?=some l/\k l=true
 | [],_,_,h=>by cases h
 | p::mt,0,k,h=>⟨p,rfl,h⟩
 | p::mt,C+1,k,h=>by rw [List.getElem?_cons_succ]; exact wJ (mt:=mt) (C:=C) (k:=k) h
def uU(x:aQ)(d:Nat)(mt:nB)(aO:Nat->SV):Prop:=∀(C:Nat) (l:List (Nat × Nat × aE)),mt[C]?=some l->∀a j r,(a,j,r)∈l->∃cx t fI,x.CT[C]?=some cx/\x.T[a]?=some t/\plainGet x.K cx t=true/\findIn x.K (.ref cx) t=some (some (.ref fI))/\aU x d r (aO j) fI
def AZ(es:List (Nat × GV))(a:Nat)(b:Bool):Bool:=@GV.rec (fun q0=>Bool) b false (fun q0=>false) (fun q0=>false) (fun q0=>false) (fun q0=>false) (fun q0=>false) (fun q0=>false) false (dX es a)
theorem tK{es:List (Nat × GV)}{a:Nat}{b:Bool}(h:AZ es a b=true):dX es a=.nul/\b=true:=by
 unfold AZ at h
 cases q:dX es a <;> rw [q] at h <;> first | (cases h; done) | exact ⟨rfl,h⟩
def bN(mt:nB)(aO:Nat->SV)(f:EV)(a:Nat)(l:LV):EV:=fun H nx R loc k=>f H nx R loc fun g H nx R=>bU g fun i=>hV (H.get i) fun C dd=>eW (H.get dd) fun es=>AZ es a (PN mt C fun row=>yt a (fun j r=>l H nx R loc fun gs H nx R=>eR r (aO j) (g::gs) H nx R k) row)
theorem dy.none{T:List Str}(hT:T.Nodup){nd:Nat}{es:List (Nat × GV)}{ds:List DictEntry}(h:dy T nd J es ds){a:Nat}{t:Str}(ht:T[a]?=some t)(ha:dX es a=.nul):getL t ds=some none:=by
 induction h with
 | nil=>rfl
 | @cons i y g' d' u es ds lt hi hk hv r ih=>
  have e:dX ((i,g')::es) a=@Bool.rec (fun q0=>GV) (dX es a) g' (Nat.beq i a):=rfl
  rw [e] at ha
  have ne:Nat.beq i a=false:=by
   cases q:Nat.beq i a with
   | false=>rfl
   | true=>
    rw [q] at ha
    have ha:g'=.nul:=ha
    rw [ha] at hv
    cases hv
  rw [ne] at ha
  have key:d'.key.isStr t=false:=by
   rw [hk]
   show (y == t)=false
   rw [beq_eq_false_iff_ne]
   intro q
   have:=(cF hT hi ht).mp q
   exact Nat.ne_of_beq_eq_false ne this
  have nr:d'.refKey=false:=by unfold DictEntry.refKey; rw [hk]
  have ih:=ih ha
  unfold getL at ih ⊢
  rw [List.find?_cons,key,List.any_cons,nr,Bool.false_or]
  exact ih
theorem bo(hT:x.T.Nodup)(hD:("__debug__" : Str)∉x.T){mt:nB}{aO:Nat->SV}(hm:uU x d mt aO){f:EV}{o:Expr}{a:Nat}{t:Str}{l:LV}{es:List Expr}(hf:aK x (d+1) vs f o)(hl:eg x (d+1) vs l es)(ht:x.T[a]?=some t)
  (hc:je o=true) (hp:bx es=true) {apos pos:Pos} (hline:(apos.endLine == pos.line)=true) (hn:es.length<30):aK x (d+1) vs (bN mt aO f a l) (.Call (.Attribute o t apos) es [] pos):=by
 intro H nx R loc k h A env O L m J s Q E Hh En S Lo hQ
 refine ff hc hp hline hn (hf H nx R loc _ h A env O L m J s _ E Hh En S Lo fun J1 H1 nx1 R1 s1 g v1 le1 S1 i1 h1 pl=>?_)
 symm
 obtain ⟨i,rfl,h2⟩:=bn h1
 obtain ⟨C,dd,hi,h3⟩:=fc h2
 obtain ⟨es',hd,h4⟩:=dK h3
 obtain ⟨nn,h4b⟩:=(tK h4)
 obtain ⟨row,hrow,h5⟩:=(wJ h4b)
 obtain ⟨j,r,hj,h6⟩:=(F8 h5)
 obtain ⟨cx,t',fI,c1,c2,c4,c5,c6⟩:=(hm C row hrow a j r hj)
 symm
 rw [ht] at c2; cases c2
 symm
 obtain ⟨q0,rfl,ha⟩:=i1
 obtain ⟨cx',dx,ds,n,e1,e2,e3,e4⟩:=(S1.led.inst (l:=0) hi hd ha)
 symm
 rw [c1] at e1; cases e1
 refine method_inst S1.fr Hh.X e4 c4 c5 c6.fn (e3.none hT ht nn) ?_
 exact hX hl hp c6.keep h6 Hh En S1 (Lo.more le1) fun J' H nx R s gs us le S' iu hk'=>
  cE hT hD c6 _ H nx R k hk' A O L m J' s _ Q E Hh S' (.cons (Is.own (aF le.1 ha)) iu) (hQ.le (le1.trans le))
theorem RC{news news':List (Addr × Obj)}{D b:Addr}{its its2:Array Value}{n n2:Nat}{l:List Value}(F:Fr O L s.heap m)(N:News O L s.heap news)(hb:(b,listOf its2 n2)∈news)(e:its.toList++its2.toList=l)(hne:its2.toList.length≠0)
  (U:Upd D (listOf its n) (listOf l.toArray (n+1)) news news') (hd:¬(!its.isEmpty&&Builtin.List.listTooLong (its.size+its2.size))=true) (hz:its.toList.length<=sizeLine) (hz2:its.size+its2.size<=sizeLine+1)
  (h:∀h',Fr O L h' m->News O L h' news'->Q .none { s with heap:=h' }):wpAny (model x.prog x.w) A (call (.builtin "list.extend") [.ref D,.ref b]) Q E s:=by
 symm
 obtain ⟨pre,post,rfl,rfl,a,c⟩:=U.split
 symm
 have z:=N (D,listOf its n) (List.mem_append.mpr (.inr (.head _)))
 refine call_meets PySem.F.slot_list_extend ⟨_,z.1,rfl⟩ PySem.F.entry_list_extend (PySem.F.args_list_extend_2 _ _) (PySem.AutoSeq1.list_extend_list_list_0 D its n b its2 n2 hd (by simpa using hz) hz2) ⟨z.1,(N _ hb).1,h _ (F.change (Heap.SameBut.update ..) z.2.1 z.2.2) (kl_turn _ N a c ?_ ?_)⟩
 ·subst e
  apply Array.toList_inj.mp
  simp
 ·subst e
  simp at hne ⊢
  exact hne
theorem nk{l:List GV}{a b:Bool}(h:oC l a b=true):(l=[]/\a=true)∨(l≠[]/\b=true):=by cases l <;> first | exact .inl ⟨rfl,h⟩ | exact .inr ⟨(by intro e; cases e),h⟩
def ju(gs:List GV)(k:GV->Bool):Bool:=@List.rec GV (fun q0=>Bool) false (fun g r q0=>oC r (k g) false) gs
theorem fF{gs:List GV}{k:GV->Bool}(h:ju gs k=true):∃g,gs=[g]/\k g=true:=by
 cases gs with
 | nil=>cases h
 | cons g r=>
  rcases nk h with ⟨rfl,h⟩ | ⟨_,h⟩
  ·exact ⟨g,rfl,h⟩
  ·cases h
def jF(i:Nat)(l:List GV)(H:Tr)(k:Tr->Bool):Bool:=fL l fun l=>H.set 24 i (.list l) k
theorem jv{i:Nat}{l:List GV}{k:Tr->Bool}(h:jF i l H k=true):∃H',At H H' i (.list l)/\k H'=true:=by
 unfold jF at h
 rw [nh] at h
 exact Tr.set_ok _ _ _ _ _ h
def fR(i:Nat):ce:=fun gs H nx R k=>d9 (H.get i) fun l=>@Bool.rec (fun q0=>Bool) false (ju gs fun g=>jF i (mr l [g]) H fun H=>k .none H nx R) (fk 1000 l)
def Dt(i:Nat):ce:=fun gs H nx R k=>d9 (H.get i) fun l=>@Bool.rec (fun q0=>Bool) false (ju gs fun g=>bU g fun j=>d9 (H.get j) fun l2=>@Bool.rec (fun q0=>Bool) false (oC l2 (k .none H nx R) (jF i (mr l l2) H fun H=>k .none H nx R)) (fk 1000 l2)) (fk 1000 l)
def Ee(i:Nat):ce:=fun gs H nx R k=>d9 (H.get i) fun l=>@Bool.rec (fun q0=>Bool) false (ju gs fun g=>eG g fun z=>@Bool.rec (fun q0=>Bool) false (@List.rec GV (fun q0=>Bool) false (fun g r q0=>jF i r H fun H=>k g H nx R) l) (cV z (.ofNat 0))) (fk 1000 l)
def oB(x:aQ)(d:Nat)(id:String)(op:Nat->ce):Prop:=∀i gs H nx R k,op i gs H nx R k=true->∀(A:Around) (O:Heap) (L:Addr) (m:Str->Option Value) (J:az) (s:Shared) (a:Addr) (us:List Value) (Q E:Value->Shared->Prop),
 cj x d A O L->St x J H nx R O L m s->J.as[i]?=some a->be x.T J gs us->fj x J O L m k Q->wpAny (model x.prog x.w) A (call (.builtin id) (.ref a::us)) Q E s
theorem St.lst'(S:St x J H nx R O L m s){i:Nat}{a:Addr}{l:List GV}(ha:J.as[i]?=some a)(hl:H.get i=.list l){os:List Obj}(hos:∀k o,os[k]?=some o->aL x.T x.CT x.nd (x.prog,x.w) J (H.get k) o)(e:J.as.length=os.length)(N:News O L s.heap (J.as.zip os)) :
  ∃us n,os[i]?=some (listOf (List.toArray us) n)/\be x.T J l us/\(a,listOf (List.toArray us) n)∈J.as.zip os:=by
 symm
 obtain ⟨o,ho⟩:∃o,os[i]?=some o:=⟨_,List.getElem?_eq_getElem (e▸aN ha)⟩
 have:=hos i o ho
 rw [hl] at this
 obtain ⟨q0,n,rfl,hs⟩:=this
 symm
 exact ⟨_,n,ho,hs,cn ha ho⟩
theorem vv{α:Type}:∀{l:List α} {i:Nat} {o:α},l[i]?=some o->l.set i o=l
 | [],_,_,h=>by simp at h
 | y::l,0,o,h=>by simp at h; subst h; rfl
 | y::l,i+1,o,h=>by simp at h ⊢; exact vv h
theorem dz:oB x d "list.append" fR:=by
 intro i gs H nx R k h A O L m J s a us Q E Hh S ha iu hQ
 obtain ⟨l,hl,h⟩:=da h
 obtain ⟨hz,h⟩:=aJ h
 obtain ⟨g,rfl,h⟩:=fF h
 obtain ⟨H',hA,h⟩:=jv h
 obtain ⟨os,hos,el,N⟩:=S.led.at_
 obtain ⟨vs,n,ho,hs,hm⟩:=(S.lst' ha hl hos el N)
 obtain ⟨v,q0,rfl,i1,i2⟩:=fA iu
 obtain rfl:=nJ i2
 refine append_K (its:=vs.toArray) (n:=n) S.fr N (ey S.led.nod ha ho) (fun h' F' N'=>?_) (by rw [List.size_toArray,<- hs.length]; exact Nat.le_trans (cX hz) (by decide))
 have q:vs.toArray.push v=(vs++[v]).toArray:=by simp
 rw [q] at N'
 rw [im] at hA
 exact hQ.here (S.set hos el F' ha N' (.list (n+1) (hs.snoc i1)) hA s.toks) .none h
theorem wR:oB x d "list.extend" Dt:=by
 intro i gs H nx R k h A O L m J s a us Q E Hh S ha iu hQ
 obtain ⟨l,hl,h1⟩:=da h
 obtain ⟨hz,h2⟩:=aJ h1
 obtain ⟨g,rfl,h3⟩:=fF h2
 obtain ⟨j,rfl,h4⟩:=bn h3
 obtain ⟨l2,hl2,h5⟩:=da h4
 obtain ⟨hz2,h6⟩:=aJ h5
 have hz:=cX hz
 have hz2:=cX hz2
 obtain ⟨os,hos,el,N⟩:=S.led.at_
 obtain ⟨vs,n,ho,hs,hm⟩:=(S.lst' ha hl hos el N)
 obtain ⟨q0,q0,rfl,i1,i2⟩:=fA iu
 obtain rfl:=nJ i2
 obtain ⟨q0,rfl,hc⟩:=i1
 obtain ⟨ws,n2,ho2,hs2,hm2⟩:=(S.lst' hc hl2 hos el N)
 have sl:=sizeLine_eq
 have len1:=hs.length
 have len2:=hs2.length
 have hd:¬(!vs.toArray.isEmpty&&Builtin.List.listTooLong (vs.toArray.size+ws.toArray.size))=true:=by
  rw [List.size_toArray,List.size_toArray]
  intro q
  obtain ⟨q0,q⟩:=Bool.and_eq_true_iff.mp q
  unfold Builtin.List.listTooLong at q
  have:=of_decide_eq_true q
  lia
 rcases nk h6 with ⟨rfl,h7⟩ | ⟨ne,h7⟩
 ·cases hs2
  refine kxn_extend (its:=vs.toArray) (its2:=#[]) (n:=n) S.fr N hm2 rfl (ey (o':=listOf vs.toArray n) S.led.nod ha ho) hd (by show vs.length<=_; lia) (by simp; lia) fun h' F' N'=>?_
  rw [vv ho] at N'
  exact hQ.here (⟨⟨S.led.nod,os,hos,el,N'⟩,S.nx,F',S.gens,S.rn⟩:St x J H nx R O L m { s with heap:=h' }) .none h7
 ·obtain ⟨H',hA,h8⟩:=jv h7
  refine RC (its:=vs.toArray) (its2:=ws.toArray) (n:=n) S.fr N hm2 rfl ?_ (ey S.led.nod ha ho) hd (by show vs.length<=_; lia) (by simp; lia) fun h' F' N'=>?_
  ·show ws.length≠0
   rw [<- len2]; intro q; exact ne (List.length_eq_zero_iff.mp q)
  ·rw [im] at hA
   exact hQ.here (S.set hos el F' ha N' (.list (n+1) (hs.append hs2)) hA s.toks) .none h8
theorem C9:oB x d "list.pop" Ee:=by
 intro i gs H nx R k h A O L m J s a us Q E Hh S ha iu hQ
 obtain ⟨l,hl,h1⟩:=da h
 obtain ⟨hz,h2⟩:=aJ h1
 obtain ⟨g,rfl,h3⟩:=fF h2
 obtain ⟨z,rfl,h4⟩:=cM h3
 obtain ⟨hq,h5⟩:=aJ h4
 have hq:z=0:=eq_of_beq (cv hq)
 subst hq
 cases l with
 | nil=>cases h5
 | cons g r=>
  obtain ⟨H',hA,h6⟩:=jv h5
  obtain ⟨os,hos,el,N⟩:=S.led.at_
  obtain ⟨vs,n,ho,hs,hm⟩:=(S.lst' ha hl hos el N)
  obtain ⟨y,ys,rfl,hy,hr⟩:=fA hs
  obtain ⟨q0,q0,rfl,i1,i2⟩:=fA iu
  obtain rfl:=nJ i2
  obtain ⟨t,rfl,o⟩:=i1
  refine kl_popAt (its:=(y::ys).toArray) (n:=n) (k:=0) (p:=[]) (y:=y) (q:=ys) S.fr N rfl ?_ rfl (ey S.led.nod ha ho) ?_ fun h' F' N'=>?_
  ·show seqIndex? 0 _=some 0
   unfold seqIndex?
   simp
  ·have:=cX hz
   have:=hr.length
   have sl:=sizeLine_eq
   simp at *
   lia
  ·exact hQ.here (S.set hos el F' ha N' (.list (n+1) hr) hA s.toks) hy h6
def gG(op:Nat->ce)(f:EV)(l:LV):EV:=fun H nx R loc k=>f H nx R loc fun g H nx R=>bU g fun i=>d9 (H.get i) fun q0=>l H nx R loc fun gs H nx R=>op i gs H nx R k
theorem cZ{id:String}{t:Str}(slot:Slot "list" t id)(ty:typeOf (.builtin id)=pure (.type "method_descriptor")){op:Nat->ce}(ho:oB x d id op){f:EV}{o:Expr}{l:LV}{es:List Expr}(hf:aK x d vs f o)(hl:eg x d vs l es)
  (hc:je o=true) (hp:bx es=true) {apos pos:Pos} (hline:(apos.endLine == pos.line)=true) (hn:es.length<30):aK x d vs (gG op f l) (.Call (.Attribute o t apos) es [] pos):=by
 intro H nx R loc k h A env O L m J s Q E Hh En S Lo hQ
 refine ff hc hp hline hn (hf H nx R loc _ h A env O L m J s _ E Hh En S Lo fun J1 H1 nx1 R1 s1 g v1 le1 S1 i1 h1 pl=>?_)
 symm
 obtain ⟨i,rfl,h2⟩:=bn h1
 obtain ⟨l0,hl0,h3⟩:=da h2
 obtain ⟨q0,rfl,ha⟩:=i1
 obtain ⟨os,hos,el,N⟩:=S1.led.at_
 obtain ⟨gA,n,ho0,hs,hm⟩:=(S1.lst' ha hl0 hos el N)
 symm
 refine kl_method N hm slot ty ?_
 exact fw hl hp h3 Hh En S1 (Lo.more le1) fun J' H nx R s gs us le S' iu hk'=>ho i gs H nx R k hk' A O L m J' s _ us Q E Hh S' (aF le.1 ha) iu (hQ.le (le1.trans le))
end
end
section
abbrev wD:=Tr->Nat->Rn->List GV->Bool
abbrev AV:=GV->Tr->Nat->Rn->List GV->wD->Bool
def lK(x:aQ)(J:az)(env:Env)(vs:aq)(O:Heap)(L:Addr)(k:wD)(Q:Unit->Shared->Prop):Prop:=
 ∀J' H nx R loc m s,J.le J'->St x J' H nx R O L m s->bq x J' env L m vs loc->k H nx R loc=true->Q () s
def dP(x:aQ)(d:Nat)(vs:aq)(f:AV)(t:Expr):Prop:=
 ∀g H nx R loc k,f g H nx R loc k=true->∀(A:Around) (env:Env) (O:Heap) (L:Addr) (m:Str->Option Value) (J:az) (s:Shared) (v:Value) (Q:Unit->Shared->Prop) (E:Value->Shared->Prop),
  cj x d A O L->bP env L->St x J H nx R O L m s->bq x J env L m vs loc->Is x.T J g v->lK x J env vs O L k Q->wpAny (model x.prog x.w) A (assign t env v) Q E s
section
variable {x:aQ} {d:Nat} {vs:aq} {J:az} {H:Tr} {nx:Nat} {R:Rn} {O:Heap} {L:Addr} {m:Str->Option Value} {s:Shared} {A:Around} {E:Value->Shared->Prop} {env:Env} {loc:List GV}
theorem lK.le{J':az}{k:wD}{Q:Unit->Shared->Prop}(le:J.le J')(h:lK x J env vs O L k Q):lK x J' env vs O L k Q:=fun J'' H nx R loc m s l=>h J'' H nx R loc m s (le.trans l)
theorem St.ext(S:St x J H nx R O L m s){h':Heap}(he:Heap.ExtBut s.heap.objs.size s.heap h')(tk:Nat):St x J H nx R O L m { s with heap:=h',toks:=tk }:=by
 obtain ⟨os,hos,el,N⟩:=S.led.at_
 exact ⟨⟨S.led.nod,os,hos,el,N.extBut he (Nat.le_refl _)⟩,S.nx,S.fr.extBut he (Nat.le_refl _),S.gens,S.rn⟩
def bu(j:Nat):AV:=fun g H nx R loc k=>putL loc j g fun loc=>k H nx R loc
def aA(x:aQ)(vs:aq):Prop:=x.T.Nodup/\(vs.map (·.1)).Nodup
theorem rV(hs:aA x vs){j j' i i':Nat}{kd kd':SK}{t:Str}(h1:vs[j]?=some (i,kd))(h2:vs[j']?=some (i',kd'))(t1:x.T[i]?=some t)(t2:x.T[i']?=some t):j=j':=by
 have:=(cF hs.1 t1 t2).mp rfl
 subst this
 have z1:(vs.map (·.1))[j]?=some i:=by rw [List.getElem?_map,h1]; rfl
 have z2:(vs.map (·.1))[j']?=some i:=by rw [List.getElem?_map,h2]; rfl
 exact (List.getElem?_inj (aN z1) hs.2).mp (z1.trans z2.symm)
theorem oM(hs:aA x vs){j i:Nat}{t:Str}(hv:vs[j]?=some (i,.loc))(ht:x.T[i]?=some t){g:GV}{v:Value}{k:wD}{Q:Unit->Shared->Prop}(h:bu j g H nx R loc k=true)
  (S:St x J H nx R O L m s) (Lo:bq x J env L m vs loc) (En:bP env L) (iv:Is x.T J g v) (hQ:lK x J env vs O L k Q):wpAny (model x.prog x.w) A (storeName env t v) Q E s:=by
 obtain ⟨loc',h,hl⟩:=qC h
 obtain ⟨t',ht',hd,h1,h2,h3⟩:=(Lo j i .loc hv)
 rw [ht] at ht'; cases ht'
 refine wpAny_storeName_local (m:=m) h2 (h1▸S.fr.ns) (fun h' hn hsb=>?_) (by rw [En.kind]; rfl)
 rw [h1] at hn hsb
 have nL:=S.led.notL
 have S':St x J H nx R O L (fun y=>if y=t then some v else m y) { s with heap:=h',toks:=s.toks+1 }:=
  ⟨S.led.keep fun a ha=>hsb.2 a fun e=>nL (e▸ha),S.nx,S.fr.set hn hsb,S.gens,S.rn⟩
 refine hQ J H nx R loc' _ _ (.refl _) S' (fun j' i' kd' hj'=>?_) h
 obtain ⟨u,hu,hdu,sl⟩:=(Lo j' i' kd' hj')
 refine ⟨u,hu,hdu,?_⟩
 by_cases e:j'=j
 ·subst e
  rw [hv] at hj'; cases hj'
  rw [ht] at hu; cases hu
  refine ⟨h1,h2,fun q0=>⟨v,if_pos rfl,?_⟩⟩
  rw [hl,if_pos rfl]; exact iv
 ·have en:ba loc' j'=ba loc j':=by rw [hl,if_neg e]
  have ne:u≠t:=fun q=>by subst q; exact e (rV hs hj' hv hu ht)
  rw [en]
  cases kd' with
  | loc=>exact ⟨sl.1,sl.2.1,fun n=>let ⟨v',a,b⟩:=sl.2.2 n; ⟨v',by show (if u=t then _ else _)=_; rw [if_neg ne]; exact a,b⟩⟩
  | cel=>exact sl
  | blk=>exact sl
  | glo=>exact sl
theorem mA(hs:aA x vs){j i:Nat}{t:Str}(hv:vs[j]?=some (i,.loc))(ht:x.T[i]?=some t)(pos:Pos):dP x d vs (bu j) (.Name t pos):=by
 intro g H nx R loc k h A env O L m J s v Q E Hh En S Lo iv hQ
 exact wpAny_assign_Name (oM hs hv ht h S Lo En iv hQ)
def QU(j:Nat):AV:=fun g H nx R loc k=>eD g (bU (ba loc j) fun c=>uC (H.get c) fun q0=>H.set 24 c (.cell g) fun H=>k H nx R loc)
theorem zt{j i:Nat}{t:Str}(hv:vs[j]?=some (i,.cel))(ht:x.T[i]?=some t)(pos:Pos):dP x d vs (QU j) (.Name t pos):=by
 intro g H nx R loc k h A env O L m J s v Q E Hh En S Lo iv hQ
 symm
 obtain ⟨q0,h1⟩:=cP h
 obtain ⟨c,hc,h2⟩:=bn h1
 obtain ⟨g0,hg,h3⟩:=si h2
 obtain ⟨H',hA,h4⟩:=Tr.set_ok _ _ _ _ _ h3
 obtain ⟨t',ht',hd,k1,c',ca,k2,k3,k4⟩:=(Lo j i .cel hv)
 symm
 rw [ht] at ht'; cases ht'
 rw [hc] at k2; cases k2
 symm
 obtain ⟨o,o1,q0,q0,o2⟩:=(S.led.obj k3)
 rw [hg] at o2
 have cell:∃v0,s.heap.IsCell ca v0:=by
  rcases o2 with ⟨_,q⟩ | ⟨_,q,_⟩
  ·exact ⟨none,o,o1,q⟩
  ·exact ⟨_,o,o1,q⟩
 obtain ⟨v0,hc0⟩:=cell
 symm
 refine wpAny_assign_Name (wpAny_storeName_cell En.kind k1 k4 hc0 fun h' hv' hsb=>?_)
 obtain ⟨o',ho',hd'⟩:=hv'
 exact hQ J H' nx R loc m _ (.refl _) (S.upd k3 hsb ho' (.cell hd' iv) hA s.toks) Lo h4
def gO(i:Nat)(g:GV)(l:List (Nat × GV))(k:List (Nat × GV)->Bool):Bool:=@List.rec (Nat × GV) (fun q0=>(List (Nat × GV)->Bool)->Bool) (fun k=>k [(i,g)]) (fun p r ih k=>@Bool.rec (fun q0=>Bool) (ih fun r=>k (p::r)) (k ((i,g)::r)) (Nat.beq p.1 i)) l k
theorem Gs{i:Nat}{g:GV}{l:List (Nat × GV)}:∀{k:List (Nat × GV)->Bool},gO i g l k=true->∃l',k l'=true/\∀a,l'.lookup a=if a=i then some g else l.lookup a:=by
 induction l with
 | nil=>
  intro k h
  exact ⟨_,h,fun a=>by
    rw [List.lookup_cons]
    by_cases e:a=i
    ·subst e; simp
    ·have:(a == i)=false:=by simpa using e
     rw [this,if_neg e]⟩
 | cons p r ih=>
  intro k h
  have e:gO i g (p::r) k=@Bool.rec (fun q0=>Bool) (gO i g r fun r=>k (p::r)) (k ((i,g)::r)) (Nat.beq p.1 i):=rfl
  rw [e] at h
  cases q:Nat.beq p.1 i with
  | true=>
   rw [q] at h
   have:=Nat.eq_of_beq_eq_true q
   refine ⟨_,h,fun a=>?_⟩
   obtain ⟨b,g'⟩:=p
   have this:b=i:=this
   subst this
   rw [List.lookup_cons,List.lookup_cons]
   by_cases e:a=b
   ·subst e; simp
   ·have:(a == b)=false:=by simpa using e
    rw [this,if_neg e]
  | false=>
   rw [q] at h
   obtain ⟨l',h1,h2⟩:=(ih h)
   refine ⟨_,h1,fun a=>?_⟩
   obtain ⟨b,g'⟩:=p
   have ne:b≠i:=Nat.ne_of_beq_eq_false q
   rw [List.lookup_cons,List.lookup_cons,h2]
   by_cases e:a=b
   ·subst e; simp [ne]
   ·have:(a == b)=false:=by simpa using e
    rw [this]
def kh(j a:Nat):AV:=fun g H nx R loc k=>eD g (bU (ba loc j) fun c=>vf (H.get c) fun es=>gO a g es fun es=>H.set 24 c (.ns es) fun H=>k H nx R loc)
def ml(n:Nat)(l:List (Nat × GV)):Bool:=@List.rec (Nat × GV) (fun q0=>Nat->Bool) (fun q0=>true) (fun q0 q0 ih n=>@Nat.rec (fun q0=>Bool) false (fun n q0=>ih n) n) l n
theorem iX:∀{n:Nat} {l:List (Nat × GV)},ml n l=true->l.length<=n
 | _,[],_=>Nat.zero_le _
 | 0,_::_,h=>by cases h
 | n+1,_::l,h=>Nat.succ_le_succ (iX (l:=l) h)
def uf(a:Nat)(o g:GV)(H:Tr)(k:Tr->Bool):Bool:=eD g (bU o fun i=>hV (H.get i) fun C dd=>eW (H.get dd) fun es=>@Bool.rec (fun q0=>Bool) false (gO a g es fun es=>H.set 24 dd (.idict es) k) (ml 100 es))
theorem dy.length{T:List Str}{nd:Nat}{es:List (Nat × GV)}{ds:List DictEntry}(h:dy T nd J es ds):es.length=ds.length:=by
 induction h with
 | nil=>rfl
 | cons _ _ _ _ _ ih=>simp only [List.length_cons,ih]
theorem dy.noref{T:List Str}{nd:Nat}{es:List (Nat × GV)}{ds:List DictEntry}(h:dy T nd J es ds):ds.any (·.refKey)=false:=by
 induction h with
 | nil=>rfl
 | @cons i y g' d u es ds lt hi hkey hv r ih=>
  have nr:d.refKey=false:=by unfold DictEntry.refKey; rw [hkey]
  rw [List.any_cons,nr,ih]; rfl
theorem dy.isSome{T:List Str}{nd:Nat}{es:List (Nat × GV)}{ds:List DictEntry}(h:dy T nd J es ds)(t:Str):(getL t ds).isSome=true:=by
 unfold getL
 split
 ·rfl
 ·rw [h.noref]; rfl
theorem dy.put{T:List Str}(hT:T.Nodup){nd:Nat}{hs:Int}{a:Nat}{t:Str}(ht:T[a]?=some t)(la:a<nd){g:GV}{v:Value}(iv:Is T J g v)(tk:Tok){es:List (Nat × GV)}:∀{ds:List DictEntry},dy T nd J es ds->∀{k:List (Nat × GV)->Bool},gO a g es k=true->
  ∃es',k es'=true/\dy T nd J es' (PySem.W.putL t hs (.str t tk) v ds):=by
 induction es with
 | nil=>
  intro ds h k hk
  cases h
  exact ⟨_,hk,.cons la ht rfl iv .nil⟩
 | cons p es ih=>
  intro ds h k hk
  have e:gO a g (p::es) k=@Bool.rec (fun q0=>Bool) (gO a g es fun r=>k (p::r)) (k ((a,g)::es)) (Nat.beq p.1 a):=rfl
  rw [e] at hk
  cases h with
  | @cons i y g' d u _ ds lt hi hkey hv r=>
   have key:d.key.isStr t=Nat.beq i a:=by
    rw [hkey]
    show (y == t)=Nat.beq i a
    rw [Bool.eq_iff_iff,beq_iff_eq,Nat.beq_eq]
    exact cF hT hi ht
   cases q:Nat.beq i a with
   | true=>
    have hk:k ((a,g)::es)=true:=by have:=hk; rw [show (i,g').1=i from rfl,q] at this; exact this
    have e2:PySem.W.putL t hs (.str t tk) v (d::ds)=⟨d.hash,d.key,v⟩::ds:=by
     rw [PySem.W.putL,key,q]; rfl
    rw [e2]
    have:=Nat.eq_of_beq_eq_true q
    subst this
    exact ⟨_,hk,.cons la hi hkey iv r⟩
   | false=>
    have hk:(gO a g es fun r=>k ((i,g')::r))=true:=by have:=hk; rw [show (i,g').1=i from rfl,q] at this; exact this
    obtain ⟨es',h1,h2⟩:=(ih r hk)
    have e2:PySem.W.putL t hs (.str t tk) v (d::ds)=d::PySem.W.putL t hs (.str t tk) v ds:=by
     rw [PySem.W.putL,key,q]; rfl
    rw [e2]
    exact ⟨_,h1,.cons lt hi hkey hv h2⟩
theorem iL(t:Str)(hs:Int)(key v:Value):∀ds:List DictEntry,(PySem.W.putL t hs key v ds).length<=ds.length+1
 | []=>Nat.le_refl _
 | e::r=>by
  rw [PySem.W.putL]
  split
  ·simp
  ·have:=iL t hs key v r
   simp only [List.length_cons]; lia
theorem wg(hT:x.T.Nodup){a:Nat}{t:Str}(ht:x.T[a]?=some t)(la:a<x.nd)(hn:aS x t){o g:GV}{k:Tr->Bool}(h:uf a o g H k=true)(Hh:cj x d A O L)(S:St x J H nx R O L m s){u v:Value}(iu:Is x.T J o u)(iv:Is x.T J g v)
  {Q:Unit->Shared->Prop} (hQ:∀H' s',k H'=true->St x J H' nx R O L m s'->Q () s'):wpAny (model x.prog x.w) A (setAttr u t v) Q E s:=by
 symm
 obtain ⟨q0,h1⟩:=cP h
 obtain ⟨i,rfl,h2⟩:=bn h1
 obtain ⟨C,dd,hi,h3⟩:=fc h2
 obtain ⟨es,hd,h4⟩:=dK h3
 obtain ⟨hz,h5⟩:=aJ h4
 obtain ⟨q0,rfl,ha⟩:=iu
 obtain ⟨cx,dx,ds,n,c1,c2,c3,c4⟩:=(S.led.inst (l:=0) hi hd ha)
 obtain ⟨n1,n2,n3,n4,n5,n6⟩:=(hn cx (List.mem_of_getElem? c1))
 obtain ⟨es',h6,h7⟩:=(dy.put hT (hs:=PyData.keyHash x.w.params t) ht la iv (s.toks+1) c3 h5)
 obtain ⟨H',hA,h8⟩:=Tr.set_ok _ _ _ _ _ h6
 obtain ⟨os,hos,el,N⟩:=S.led.at_
 obtain ⟨od,hod⟩:∃od,os[dd]?=some od:=⟨_,List.getElem?_eq_getElem (el▸aN c2)⟩
 symm
 have eod:od=dictOf ds n:=by
  have z1:=(N _ (cn c2 hod)).1
  have z2:s.heap.get? dx=some (dictOf ds n):=c4.dict
  exact Option.some.inj (z1.symm.trans z2)
 subst eod
 refine set_dict S.fr Hh.X N c4 rfl n4 n5 n6 n2 (c3.isSome t) rfl (ey S.led.nod c2 hod) ?_ fun h' F' N'=>hQ H' _ h8 (S.set hos el F' c2 N' (.idict _ h7) hA (s.toks+2))
 have:=iL t (PyData.keyHash x.w.params t) (.str t (s.toks+1)) v ds
 have:=iX hz
 rw [c3.length] at this
 lia
end
end
section
section
variable {x:aQ} {d:Nat} {vs:aq} {J:az} {H:Tr} {nx:Nat} {R:Rn} {O:Heap} {L:Addr} {m:Str->Option Value} {s:Shared} {A:Around} {E:Value->Shared->Prop} {env:Env} {loc:List GV}
def bG(f:EV)(a:Nat):AV:=fun g H nx R loc k=>f H nx R loc fun o H nx R=>uf a o g H fun H=>k H nx R loc
theorem aR(hT:x.T.Nodup){f:EV}{o:Expr}(hf:aK x d vs f o){a:Nat}{t:Str}(ht:x.T[a]?=some t)(la:a<x.nd)(hn:aS x t)(pos:Pos):dP x d vs (bG f a) (.Attribute o t pos):=by
 intro g H nx R loc k h A env O L m J s v Q E Hh En S Lo iv hQ
 refine kas_attr (hf H nx R loc _ h A env O L m J s _ E Hh En S Lo fun J1 H1 nx1 R1 s1 o v1 le1 S1 i1 h1=>?_)
 exact wg hT ht la hn h1 Hh S1 i1 (iv.more le1) fun H' s' hk S'=>hQ J1 H' nx1 R1 loc m s' le1 S' (Lo.more le1) hk
def yw(i:Int)(g:GV)(l:List (Int × GV))(k:List (Int × GV)->Bool):Bool:=@List.rec (Int × GV) (fun q0=>(List (Int × GV)->Bool)->Bool) (fun k=>k [(i,g)]) (fun p r ih k=>@Bool.rec (fun q0=>Bool) (ih fun r=>k (p::r)) (k ((p.1,g)::r)) (cV p.1 i)) l k
theorem eT.length{T:List Str}{es:List (Int × GV)}{ds:List (Int × Value)}(h:eT T J es ds):es.length=ds.length:=by
 induction h with
 | nil=>rfl
 | cons _ _ ih=>simp only [List.length_cons,ih]
theorem gk.length{T:List Str}{es:List (Nat × GV)}{ds:List (Str × Value)}(h:gk T J es ds):es.length=ds.length:=by
 induction h with
 | nil=>rfl
 | cons _ _ _ ih=>simp only [List.length_cons,ih]
noncomputable def gX{K:Type}[DecidableEq K](kvs:List (K × Value))(k:K)(v:Value):List (K × Value):=match kvs with
 | []=>[(k,v)]
 | p::r=>if p.1=k then (p.1,v)::r else p::gX r k v
theorem sr{K:Type}[DecidableEq K]{k:K}{v:Value}:∀{kvs:List (K × Value)},(kvs.map (·.1)).Nodup->stored kvs k v=gX kvs k v
 | [],_=>by simp [stored,gX]
 | p::r,nd=>by
  rw [List.map_cons] at nd
  obtain ⟨n1,n2⟩:=(List.nodup_cons.mp nd)
  have ih:=sr (k:=k) (v:=v) n2
  unfold stored at ih ⊢
  unfold gX
  rw [List.any_cons]
  by_cases e:p.1=k
  ·have none:∀q∈r,q.1≠k:=fun q hq z=>n1 (by rw [e,<- z]; exact List.mem_map_of_mem hq)
   simp only [e,decide_true,Bool.true_or,if_true,List.map_cons]
   congr 1
   exact map_eq_self fun q hq=>if_neg (none q hq)
  ·simp only [e,decide_false,Bool.false_or,if_false,List.map_cons]
   rw [<- ih]
   split <;> rfl
theorem eT.put{T:List Str}{i:Int}{g:GV}{v:Value}(iv:Is T J g v){es:List (Int × GV)}:∀{ds:List (Int × Value)},eT T J es ds->∀{k:List (Int × GV)->Bool},yw i g es k=true->∃es',k es'=true/\eT T J es' (gX ds i v):=by
 induction es with
 | nil=>
  intro ds h k hk
  cases h; exact ⟨_,hk,.cons iv .nil⟩
 | cons p es ih=>
  intro ds h k hk
  cases h with
  | @cons j g' u _ ds hv r=>
   have e:yw i g ((j,g')::es) k=@Bool.rec (fun q0=>Bool) (yw i g es fun r=>k ((j,g')::r)) (k ((j,g)::es)) (cV j i):=rfl
   rw [e] at hk
   cases q:cV j i with
   | true=>
    rw [q] at hk
    have:j=i:=eq_of_beq (cv q)
    unfold gX
    rw [if_pos this]
    exact ⟨_,hk,.cons iv r⟩
   | false=>
    rw [q] at hk
    have:j≠i:=fun z=>by subst z; have:=cv q; simp at this
    obtain ⟨es',h1,h2⟩:=(ih r hk)
    unfold gX
    rw [if_neg this]
    exact ⟨_,h1,.cons hv h2⟩
theorem gk.put{T:List Str}(hT:T.Nodup){i:Nat}{t:Str}(ht:T[i]?=some t){g:GV}{v:Value}(iv:Is T J g v){es:List (Nat × GV)}:∀{ds:List (Str × Value)},gk T J es ds->∀{k:List (Nat × GV)->Bool},gO i g es k=true->∃es',k es'=true/\gk T J es' (gX ds t v):=by
 induction es with
 | nil=>
  intro ds h k hk
  cases h; exact ⟨_,hk,.cons ht iv .nil⟩
 | cons p es ih=>
  intro ds h k hk
  cases h with
  | @cons j y g' u _ ds hy hv r=>
   have e:gO i g ((j,g')::es) k=@Bool.rec (fun q0=>Bool) (gO i g es fun r=>k ((j,g')::r)) (k ((i,g)::es)) (Nat.beq j i):=rfl
   rw [e] at hk
   cases q:Nat.beq j i with
   | true=>
    rw [q] at hk
    have:=Nat.eq_of_beq_eq_true q
    subst this
    have e2:y=t:=(cF hT hy ht).mpr rfl
    unfold gX
    rw [if_pos e2]
    exact ⟨_,hk,.cons hy iv r⟩
   | false=>
    rw [q] at hk
    have:y≠t:=fun z=>Nat.ne_of_beq_eq_false q ((cF hT hy ht).mp z)
    obtain ⟨es',h1,h2⟩:=(ih r hk)
    unfold gX
    rw [if_neg this]
    exact ⟨_,h1,.cons hy hv h2⟩
theorem Obj.IsDictOf.nodup{prog:Program}{w:World}{K:Type}[DecidableEq K]{knd:KeyKind prog w K}{o:Obj}{kvs:List (K × Value)}(h:o.IsDictOf knd kvs):(kvs.map (·.1)).Nodup:=by
 obtain ⟨q0,q0,q0,q0,q0,q0,h⟩:=h
 exact h
def jQ(o:GO)(k0:Bool)(ki:List (Int × GV)->Bool)(ks:List (Nat × GV)->Bool)(kl:List GV->Bool):Bool:=@GO.rec (fun q0=>Bool) false (fun l=>kl l) (fun q0=>false) (fun C d=>false) (fun es=>false) k0 (fun l=>ki l) (fun l=>ks l) (fun g=>false) (fun q0=>false) (fun q0 q0=>false) (fun q0 q0=>false) (fun q0 q0=>false) (fun q0=>false) (fun q0=>false) (fun q0=>false) false (fun q0=>false) (fun q0 q0=>false) (fun q0 q0=>false) (fun q0 q0=>false) (fun q0 q0=>false) (fun q0 q0=>false) o
theorem ky{o:GO}{k0:Bool}{ki:List (Int × GV)->Bool}{ks:List (Nat × GV)->Bool}{kl:List GV->Bool}(h:jQ o k0 ki ks kl=true):(o=.d0/\k0=true)∨(∃l,o=.di l/\ki l=true)∨(∃l,o=.ds l/\ks l=true)∨(∃l,o=.list l/\kl l=true):=by
 cases o <;> first | (cases h; done) | exact .inl ⟨rfl,h⟩ | exact .inr (.inl ⟨_,rfl,h⟩) | exact .inr (.inr (.inl ⟨_,rfl,h⟩)) | exact .inr (.inr (.inr ⟨_,rfl,h⟩))
def vo(n:Nat)(l:List (Int × GV)):Bool:=@List.rec (Int × GV) (fun q0=>Nat->Bool) (fun q0=>true) (fun q0 q0 ih n=>@Nat.rec (fun q0=>Bool) false (fun n q0=>ih n) n) l n
theorem mC:∀{n:Nat} {l:List (Int × GV)},vo n l=true->l.length<=n
 | _,[],_=>Nat.zero_le _
 | 0,_::_,h=>by cases h
 | n+1,_::l,h=>Nat.succ_le_succ (mC (l:=l) h)
theorem eU{K:Type}[DecidableEq K](p:K × Value)(r:List (K × Value))(k:K):PySem.valueAt (p::r) k=if p.1=k then some p.2 else PySem.valueAt r k:=by
 unfold PySem.valueAt
 rw [List.find?_cons]
 by_cases e:p.1=k <;> simp [e]
theorem FJ{K:Type}[DecidableEq K](kvs:List (K × Value)):∀(k:K) (v:Value) (z:K),PySem.valueAt (gX kvs k v) z=if z=k then some v else PySem.valueAt kvs z:=by
 induction kvs with
 | nil=>
  intro k v z
  show PySem.valueAt [(k,v)] z=_
  rw [eU]
  by_cases e:z=k
  ·rw [if_pos e,if_pos e.symm]
  ·rw [if_neg e,if_neg (fun q=>e q.symm)]
 | cons p r ih=>
  intro k v z
  unfold gX
  by_cases e:p.1=k
  ·rw [if_pos e,eU,eU]
   by_cases e2:z=k
   ·rw [if_pos e2,if_pos (e.trans e2.symm)]
   ·rw [if_neg e2,if_neg (fun q=>e2 (q.symm.trans e)),if_neg (fun q=>e2 (q.symm.trans e))]
  ·rw [if_neg e,eU,ih k v z,eU]
   by_cases e2:p.1=z
   ·rw [if_pos e2,if_pos e2,if_neg (fun q=>e (e2.trans q))]
   ·rw [if_neg e2,if_neg e2]
theorem zk{α:Type}[DecidableEq α]:∀{l r:List α},l.Nodup->(∀a∈l,a∈r)->l.length<=r.length
 | [],r,_,_=>Nat.zero_le _
 | a::l,r,nd,h=>by
  obtain ⟨n1,n2⟩:=(List.nodup_cons.mp nd)
  have ha:=h a (.head _)
  have:=zk (l:=l) (r:=r.erase a) n2 fun b hb=>by
   have ne:b≠a:=fun e=>n1 (e▸hb)
   exact (List.mem_erase_of_ne ne).mpr (h b (.tail _ hb))
  rw [List.length_erase_of_mem ha] at this
  have:0<r.length:=List.length_pos_of_mem ha
  simp only [List.length_cons]; lia
theorem G5{es:List (Int × GV)}{ds:List (Int × Value)}(nd:(ds.map (·.1)).Nodup)(h:∀z,es.lookup z=none->PySem.valueAt ds z=none):ds.length<=es.length:=by
 have:=zk (r:=es.map (·.1)) nd fun z hz=>by
  obtain ⟨p,hp,rfl⟩:=(List.mem_map.mp hz)
  have nn:PySem.valueAt ds p.1≠none:=by
   unfold PySem.valueAt
   rw [Ne,Option.map_eq_none_iff,List.find?_eq_none]
   intro q
   have:=q p hp
   simp at this
  have:es.lookup p.1≠none:=fun e=>nn (h _ e)
  obtain ⟨g,hg⟩:=(Option.ne_none_iff_exists'.mp this)
  clear nn this h
  induction es with
  | nil=>cases hg
  | cons q es ih=>
   rw [List.lookup_cons] at hg
   cases w:p.1 == q.1 with
   | true=>rw [List.map_cons,eq_of_beq w]; exact .head _
   | false=>rw [w] at hg; exact .tail _ (ih hg)
 simpa using this
def NW(o:GO)(k:List (Int × GV)->Bool)(e:Bool):Bool:=@GO.rec (fun q0=>Bool) e (fun q0=>e) (fun q0=>e) (fun q0 q0=>e) (fun q0=>e) e (fun q0=>e) (fun q0=>e) (fun q0=>e) (fun q0=>e) (fun q0 q0=>e) (fun q0 q0=>e) (fun q0 q0=>e) (fun q0=>e) (fun q0=>e) (fun q0=>e) e (fun es=>k es) (fun q0 q0=>e) (fun q0 q0=>e) (fun q0 q0=>e) (fun q0 q0=>e) (fun q0 q0=>e) o
theorem FN{o:GO}{k:List (Int × GV)->Bool}{e:Bool}(h:NW o k e=true):(∃es,o=.dm es/\k es=true)∨e=true:=by cases o <;> first | exact .inr h | exact .inl ⟨_,rfl,h⟩
def DJ(i:Int)(g:GV)(l:List (Int × GV)):(List (Int × GV)->Bool)->Bool:=@List.rec (Int × GV) (fun q0=>(List (Int × GV)->Bool)->Bool) (fun k=>k [(i,g)]) (fun p r ih k=>@Bool.rec (fun q0=>Bool) (@Bool.rec (fun q0=>Bool) (ih fun r=>k (p::r)) (k ((i,g)::p::r)) (kK i p.1)) (k ((i,g)::r)) (cV p.1 i)) l
theorem Ga{i:Int}{g:GV}{l:List (Int × GV)}:∀{k:List (Int × GV)->Bool},DJ i g l k=true->∃l',k l'=true/\∀z,l'.lookup z=if z=i then some g else l.lookup z:=by
 induction l with
 | nil=>
  intro k h
  exact ⟨_,h,fun z=>by
    rw [List.lookup_cons]
    by_cases e:z=i
    ·subst e; simp
    ·have:(z == i)=false:=by simpa using e
     rw [this,if_neg e]⟩
 | cons pq l ih=>
  intro k h
  obtain ⟨a,b⟩:=pq
  have h:@Bool.rec (fun q0=>Bool) (@Bool.rec (fun q0=>Bool) (DJ i g l fun r=>k ((a,b)::r)) (k ((i,g)::(a,b)::l)) (kK i a)) (k ((i,g)::l)) (cV a i)=true:=h
  cases q:cV a i with
  | true=>
   rw [q] at h
   have:a=i:=eq_of_beq (cv q)
   subst this
   refine ⟨_,h,fun z=>?_⟩
   rw [List.lookup_cons,List.lookup_cons]
   by_cases e:z=a
   ·subst e; simp
   ·have:(z == a)=false:=by simpa using e
    rw [this,if_neg e]
  | false=>
   rw [q] at h
   have ne:a≠i:=by have:=cv q; simpa using this
   cases q2:kK i a with
   | true=>
    rw [q2] at h
    refine ⟨_,h,fun z=>?_⟩
    rw [List.lookup_cons]
    by_cases e:z=i
    ·subst e; simp
    ·have:(z == i)=false:=by simpa using e
     rw [this,if_neg e]
   | false=>
    rw [q2] at h
    obtain ⟨l',h1,h2⟩:=(ih h)
    refine ⟨_,h1,fun z=>?_⟩
    rw [List.lookup_cons,List.lookup_cons,h2]
    by_cases e:z=a
    ·subst e; simp [ne]
    ·have:(z == a)=false:=by simpa using e
     rw [this]
def NY(i:Int)(a:Nat)(g:GV)(H:Tr)(k:Tr->Bool):Bool:=NW (H.get a) (fun es=>@Bool.rec (fun q0=>Bool) false (DJ i g es fun es=>H.set 24 a (.dm es) k) (vo 100 es)) <| jQ (H.get a) (H.set 24 a (.di [(i,g)]) k) (fun es=>@Bool.rec (fun q0=>Bool) false (yw i g es fun es=>H.set 24 a (.di es) k) (vo 100 es)) (fun q0=>false)
 (fun q0=>false)
def Ik(t:Nat)(a:Nat)(g:GV)(H:Tr)(k:Tr->Bool):Bool:=jQ (H.get a) false (fun q0=>false) (fun es=>@Bool.rec (fun q0=>Bool) false (gO t g es fun es=>H.set 24 a (.ds es) k) (ml 100 es)) (fun q0=>false)
def vG(o i g:GV)(H:Tr)(k:Tr->Bool):Bool:=eD g (bU o fun a=>@GV.rec (fun q0=>Bool) false false (fun q0=>false) (fun e=>qz e fun z=>NY z a g H k) (fun t=>Ik t a g H k) (fun q0=>false) (fun q0=>false) (fun q0=>false) false i)
theorem St.dict{K:Type}[DecidableEq K]{knd:KeyKind x.prog x.w K}(S:St x J H nx R O L m s){a:Nat}{ad:Addr}(ha:J.as[a]?=some ad){o:Obj}(o1:s.heap.get? ad=some o){kvs:List (K × Value)}(hd:o.IsDictOf knd kvs){kk:K}{key v:Value}(hkey:knd.is kk key=true)(hz:kvs.length<=sizeLine){g':GO}{H':Tr}(hA:At H H' a g')
  (hg:∀o',o'.IsDictOf knd (gX kvs kk v)->aL x.T x.CT x.nd (x.prog,x.w) J g' o') {Q:Unit->Shared->Prop} (hQ:∀s',St x J H' nx R O L m s'->Q () s'):wpAny (model x.prog x.w) A (setItem (.ref ad) key v) Q E s:=by
 refine wpAny_setItem_pairs (hsz:=hz) hkey (Heap.dictOf_iff.mpr ⟨o,o1,hd⟩) fun h' hmm hs=>?_
 obtain ⟨o',ho',hd'⟩:=(Heap.dictOf_iff.mp hmm)
 rw [sr (Obj.IsDictOf.nodup hd)] at hd'
 exact hQ _ (S.upd ha hs ho' (hg o' hd') hA (s.toks+1))
theorem v8(hT:x.T.Nodup){o i g:GV}{k:Tr->Bool}(h:vG o i g H k=true)(Hh:cj x d A O L)(S:St x J H nx R O L m s){u j v:Value}(iu:Is x.T J o u)(ij:Is x.T J i j)(iv:Is x.T J g v)
  {Q:Unit->Shared->Prop} (hQ:∀H' s',k H'=true->St x J H' nx R O L m s'->Q () s'):wpAny (model x.prog x.w) A (setItem u j v) Q E s:=by
 obtain ⟨q0,h1⟩:=cP h
 obtain ⟨a,rfl,h2⟩:=bn h1
 obtain ⟨q0,rfl,ha⟩:=iu
 obtain ⟨ob,o1,q0,q0,o2⟩:=(S.led.obj ha)
 cases i with
 | int e=>
  obtain ⟨z,rfl,h3⟩:=(kQ h2)
  obtain ⟨t,rfl,ok⟩:=ij
  rcases FN h3 with ⟨es,e,h4⟩ | h3
  ·rw [e] at o2
   obtain ⟨hz,h5⟩:=aJ h4
   obtain ⟨es',h6,h7⟩:=(Ga h5)
   obtain ⟨H',hA,h10⟩:=Tr.set_ok _ _ _ _ _ h6
   obtain ⟨ds,hd,hs⟩:=o2
   obtain ⟨m1,m2⟩:=hs
   refine S.dict (knd:=PySem.intKind x.prog x.w) (kk:=z) ha o1 hd (by show (z == z)=true; exact beq_self_eq_true _) (Nat.le_trans (G5 (Obj.IsDictOf.nodup hd) m2) (Nat.le_trans (mC hz) (by decide))) hA (fun o' hd'=>.dm hd' ?_) fun s' S'=>hQ H' s' h10 S'
   have va:∀z',PySem.valueAt (gX ds z v) z'=if z'=z then some v else PySem.valueAt ds z':=fun z'=>FJ ds z v z'
   refine ⟨fun z' g' hl=>?_,fun z' hl=>?_⟩
   ·rw [h7] at hl
    rw [va]
    by_cases e:z'=z
    ·rw [if_pos e] at hl ⊢; cases hl; exact .inr ⟨v,rfl,iv⟩
    ·rw [if_neg e] at hl ⊢; exact m1 z' g' hl
   ·rw [h7] at hl
    rw [va]
    by_cases e:z'=z
    ·rw [if_pos e] at hl; cases hl
    ·rw [if_neg e] at hl ⊢; exact m2 z' hl
  rcases ky h3 with ⟨e,h4⟩ | ⟨l,e,h4⟩ | ⟨l,e,h4⟩ | ⟨l,e,h4⟩
  ·rw [e] at o2
   obtain ⟨H',hA,h5⟩:=Tr.set_ok _ _ _ _ _ h4
   obtain ⟨di,ds⟩:=o2
   exact S.dict (knd:=PySem.intKind x.prog x.w) (kk:=z) ha o1 di (by show (z == z)=true; exact beq_self_eq_true _) (by simp) hA (fun o' hd=>.di hd (.cons iv .nil)) fun s' S'=>hQ H' s' h5 S'
  ·rw [e] at o2
   obtain ⟨hz,h5⟩:=aJ h4
   obtain ⟨q0,hd,hs⟩:=o2
   obtain ⟨es',h6,h7⟩:=(eT.put iv hs h5)
   obtain ⟨H',hA,h8⟩:=Tr.set_ok _ _ _ _ _ h6
   exact S.dict (knd:=PySem.intKind x.prog x.w) (kk:=z) ha o1 hd (by show (z == z)=true; exact beq_self_eq_true _) (by rw [<- hs.length]; exact Nat.le_trans (mC hz) (by decide)) hA (fun o' hd=>.di hd h7) fun s' S'=>hQ H' s' h8 S'
  ·cases h4
  ·cases h4
 | str tt=>
  obtain ⟨q0,t,rfl,ok⟩:=ij
  rcases ky h2 with ⟨e,h4⟩ | ⟨l,e,h4⟩ | ⟨l,e,h4⟩ | ⟨l,e,h4⟩
  ·cases h4
  ·cases h4
  ·rw [e] at o2
   obtain ⟨hz,h5⟩:=aJ h4
   obtain ⟨q0,hd,hs⟩:=o2
   obtain ⟨es',h6,h7⟩:=(gk.put hT ok iv hs h5)
   obtain ⟨H',hA,h8⟩:=Tr.set_ok _ _ _ _ _ h6
   exact S.dict (knd:=PySem.strKind x.prog x.w) ha o1 hd (by show (_ == _)=true; exact beq_self_eq_true _) (by rw [<- hs.length]; exact Nat.le_trans (iX hz) (by decide)) hA (fun o' hd=>.ds hd h7) fun s' S'=>hQ H' s' h8 S'
  ·cases h4
 | _=>cases h2
def em(f i:EV):AV:=fun g H nx R loc k=>f H nx R loc fun o H nx R=>i H nx R loc fun j H nx R=>vG o j g H fun H=>k H nx R loc
theorem cz(hT:x.T.Nodup){f i:EV}{o j:Expr}(hf:aK x d vs f o)(hi:aK x d vs i j)(pos:Pos):dP x d vs (em f i) (.Subscript o j pos):=by
 intro g H nx R loc k h A env O L m J s v Q E Hh En S Lo iv hQ
 refine kas_sub (hf H nx R loc _ h A env O L m J s _ E Hh En S Lo fun J1 H1 nx1 R1 s1 o v1 le1 S1 i1 h1=>?_)
 refine hi H1 nx1 R1 loc _ h1 A env O L m J1 s1 _ E Hh En S1 (Lo.more le1) fun J2 H2 nx2 R2 s2 j v2 le2 S2 i2 h2=>?_
 exact v8 hT h2 Hh S2 (i1.more le2) i2 (iv.more (le1.trans le2)) fun H' s' hk S'=>hQ J2 H' nx2 R2 loc m s' (le1.trans le2) S' (Lo.more (le1.trans le2)) hk
abbrev jR:=List GV->Tr->Nat->Rn->List GV->wD->Bool
def hO(x:aQ)(d:Nat)(vs:aq)(f:jR)(ts:List Expr):Prop:=
 ∀gs H nx R loc k,f gs H nx R loc k=true->∀(A:Around) (env:Env) (O:Heap) (L:Addr) (m:Str->Option Value) (J:az) (s:Shared) (us:List Value) (Q:Unit->Shared->Prop) (E:Value->Shared->Prop),
  cj x d A O L->bP env L->St x J H nx R O L m s->bq x J env L m vs loc->be x.T J gs us->us.length=ts.length->lK x J env vs O L k Q->wpAny (model x.prog x.w) A (assignInOrder ((assignEach ts env).map (·.2)) us) Q E s
def fo:jR:=fun gs H nx R loc k=>oC gs (k H nx R loc) false
def bJ(a:AV)(r:jR):jR:=fun gs H nx R loc k=>@List.rec GV (fun q0=>Bool) false (fun g gs q0=>a g H nx R loc fun H nx R loc=>r gs H nx R loc k) gs
theorem dJ:hO x d vs fo []:=by
 intro gs H nx R loc k h A env O L m J s us Q E Hh En S Lo iu hlen hQ
 rcases nk h with ⟨rfl,h⟩ | ⟨_,h⟩
 ·cases iu
  exact wpAny_pure (hQ J H nx R loc m s (.refl _) S Lo h)
 ·cases h
theorem cT{t:Expr}{ts:List Expr}(h:bZ t=true)(env:Env):assignEach (t::ts) env=(false,assign t env)::assignEach ts env:=by cases t <;> first | rfl | (cases h; done)
theorem lp{ts:List Expr}(h:bx ts=true)(env:Env):(assignEach ts env).length=ts.length/\(assignEach ts env).findIdx? (·.1)=none:=by
 induction ts with
 | nil=>exact ⟨rfl,rfl⟩
 | cons t ts ih=>
  obtain ⟨h1,h2⟩:=Bool.and_eq_true_iff.mp h
  obtain ⟨i1,i2⟩:=(ih h2)
  rw [cT h1 env,List.findIdx?_cons,i2]
  exact ⟨by simp [i1],rfl⟩
theorem bt{a:AV}{r:jR}{t:Expr}{ts:List Expr}(ha:dP x d vs a t)(hr:hO x d vs r ts)(hn:bZ t=true):hO x d vs (bJ a r) (t::ts):=by
 intro gs H nx R loc k h A env O L m J s us Q E Hh En S Lo iu hlen hQ
 cases iu with
 | nil=>cases h
 | @cons g v gs us i1 i2=>
  rw [cT hn env]
  show wpAny _ _ (do holding us (assign t env v); assignInOrder ((assignEach ts env).map (·.2)) us) _ _ _
  refine wpAny_bind (wpAny_holding (ha g H nx R loc _ h A env O L m J s v _ E Hh En S Lo i1 fun J' H' nx' R' loc' m' s' le S' Lo' hk=>?_))
  exact hr gs H' nx' R' loc' k hk A env O L m' J' s' us Q E Hh En S' Lo' (i2.more le) (by simpa using hlen) (hQ.le le)
def jo(n:Nat)(r:jR):AV:=fun g H nx R loc k=>bU g fun i=>eJ (H.get i) (fun l=>@Bool.rec (fun q0=>Bool) false (r l H nx R loc k) (Nat.beq (cQ l) n)) (fun l=>@Bool.rec (fun q0=>Bool) false (r l H nx R loc k) (Nat.beq (cQ l) n)) (fun q0=>false) (fun q0=>false)
theorem pe{g:GV}{n:Nat}{f:List GV->Bool}{v:Value}(h:(bU g fun i=>eJ (H.get i) (fun l=>@Bool.rec (fun q0=>Bool) false (f l) (Nat.beq (cQ l) n)) (fun l=>@Bool.rec (fun q0=>Bool) false (f l) (Nat.beq (cQ l) n)) (fun q0=>false) (fun q0=>false))=true)
  (Hh:cj x d A O L) (S:St x J H nx R O L m s) (iv:Is x.T J g v) {Q:List Value->Shared->Prop} (hQ:∀gs us s',f gs=true->be x.T J gs us->us.length=n->St x J H nx R O L m s'->Q us s'):wpAny (model x.prog x.w) A (unpackItems v n none) Q E s:=by
 obtain ⟨i,rfl,h1⟩:=bn h
 obtain ⟨q0,rfl,ha⟩:=iv
 rcases dT h1 with ⟨l,hl,h2⟩ | ⟨l,hl,h2⟩ | ⟨l,hl,h2⟩ | ⟨l,hl,h2⟩
 ·obtain ⟨hz,h3⟩:=aJ h2
  obtain ⟨us,lu,iu⟩:=(S.lst ha hl)
  have en:=Nat.eq_of_beq_eq_true hz
  rw [cU,iu.length] at en
  have:=kun_itemsOf (E:=E) (Q:=Q) (prog:=x.prog) (w:=x.w) Hh.hnd lu fun h' he=>hQ l us _ h3 iu en (S.ext he s.toks)
  rw [List.size_toArray,en] at this
  exact this
 ·obtain ⟨hz,h3⟩:=aJ h2
  obtain ⟨us,lu,iu⟩:=(S.tup ha hl)
  have en:=Nat.eq_of_beq_eq_true hz
  rw [cU,iu.length] at en
  have:=unpackItems_tuple (E:=E) (Q:=Q) (prog:=x.prog) (w:=x.w) Hh.hnd lu fun h' he=>hQ l us _ h3 iu en (S.ext he s.toks)
  rw [List.size_toArray,en] at this
  exact this
 ·cases h2
 ·cases h2
theorem eQ{r:jR}{ts:List Expr}(hr:hO x d vs r ts)(hp:bx ts=true)(kd:Nat)(pos:Pos):dP x d vs (jo ts.length r) (.Tuple ts kd pos):=by
 intro g H nx R loc k h A env O L m J s v Q E Hh En S Lo iv hQ
 rw [assign_Tuple]
 obtain ⟨l1,l2⟩:=(lp hp env)
 refine wpAny_bind (wpAny_standAt ?_)
 unfold unpack
 rw [l1,l2]
 refine wpAny_bind (wpAny_holding (pe h Hh S iv fun gs us s' hk iu en S'=>?_))
 exact hr gs H nx R loc k hk A env O L m J s' us Q E Hh En S' Lo iu en hQ
noncomputable def aB(a:AV)(f:EV)(r:SV):SV:=fun H nx R loc k=>f H nx R loc fun g H nx R=>a g H nx R loc fun H nx R loc=>r H nx R loc k
noncomputable def iD(e:Expr):Bool:=Bool.and (iN e 8) (Bool.and (iN e 9) (iN e 10))
theorem hK{value:Expr}(h:iD value=true)(t:Option Expr)(line:Nat)(env:Env):swapsWith value t line env=pure false:=by
 cases value <;> first | rfl | (cases h; done)
noncomputable def iZ(e:Expr):Bool:=Bool.and (iN e 25) (iN e 24)
def qi(x:aQ)(vs:aq)(env:Env)(O:Heap)(L:Addr)(J:az)(f:Tr->Nat->Rn->List GV->Bool)(s:Shared):Prop:=∃J' H nx R loc m,J.le J'/\St x J' H nx R O L m s/\bq x J' env L m vs loc/\f H nx R loc=true
theorem ef{J':az}{f:Tr->Nat->Rn->List GV->Bool}(le:J.le J')(S:St x J' H nx R O L m s)(Lo:bq x J' env L m vs loc)(h:f H nx R loc=true):qi x vs env O L J f s:=⟨_,_,_,_,_,_,le,S,Lo,h⟩
theorem ec{st:Stmt}{rest:List Stmt}{r:SV}{Q:Flow->Shared->Prop}(hr:au x d vs r rest){k:KS}(Hh:cj x d A O L)(En:bP env L)
  (hQ:xZ x J env vs O L k Q)
  (h:wpAny (model x.prog x.w) A (exec st env) (fun fl s'=>match fl with | .next=>qi x vs env O L J (fun H nx R loc=>r H nx R loc k) s' | fl=>Q fl s') E s):wpAny (model x.prog x.w) A (execs (st::rest) env) Q E s:=by
 refine wpAny_execs_cons (wpAny_mono h (fun fl s' z=>?_) fun q0 q0 e=>e)
 cases fl with
 | next=>
  symm
  obtain ⟨J',H',nx',R',loc',m',le,S',Lo',hk⟩:=z
  symm
  exact hr H' nx' R' loc' k hk A env O L m' J' s' Q E Hh En S' Lo' fun J'' H nx R loc m s gf fl l=>hQ J'' H nx R loc m s gf fl (le.trans l)
 | brk=>exact z
 | cont=>exact z
 | ret v=>exact z
theorem iT{t e:Expr}(h:iZ t=true∨iZ e=true)(env:Env):swappedStores [t] e env=pure none:=by
 rcases h with h2 | h2
 ·cases t <;> first | rfl | (cases h2; done)
 ·cases t <;> first | rfl | (cases e <;> first | (cases h2; done) | rfl)
theorem iE{a:AV}{f:EV}{r:SV}{t e:Expr}{rest:List Stmt}(ha:dP x d vs a t)(hf:aK x d vs f e)(hr:au x d vs r rest)(h1:iD e=true)(h2:iZ t=true∨iZ e=true)(h3:bZ t=true)(pos:Pos):au x d vs (aB a f r) (.Assign [t] e pos::rest):=by
 intro H nx R loc k h A env O L m J s Q E Hh En S Lo hQ
 refine ec hr Hh En hQ ?_
 refine wpAny_Assign_stores (hf H nx R loc _ h A env O L m J s _ E Hh En S Lo fun J1 H1 nx1 R1 s1 g v le1 S1 i1 hk=>?_) (hK h1 _ _ _) ?_
 ·rw [cT h3 env]
  exact ha g H1 nx1 R1 loc _ hk A env O L m J1 s1 v _ E Hh En S1 (Lo.more le1) i1 fun J2 H2 nx2 R2 loc2 m2 s2 le2 S2 Lo2 hk2=>ef (le1.trans le2) S2 Lo2 hk2
 ·exact iT h2 _
end
end
section
section
variable {x:aQ} {d:Nat} {vs:aq} {J:az} {H:Tr} {nx:Nat} {R:Rn} {O:Heap} {L:Addr} {m:Str->Option Value} {s:Shared} {A:Around} {E:Value->Shared->Prop} {env:Env} {loc:List GV}
def sO(js:List Nat):jR:=@List.rec Nat (fun q0=>jR) fo (fun j q0 ih=>bJ (bu j) ih) js
inductive fX (x:aQ) (vs:aq):List Nat->List Str->Prop
 | nil:fX x vs [] []
 | cons {j i:Nat} {t:Str} {js:List Nat} {ts:List Str}:vs[j]?=some (i,.loc)->x.T[i]?=some t->fX x vs js ts->fX x vs (j::js) (t::ts)
theorem fX.snoc{js:List Nat}{ts:List Str}(h:fX x vs js ts){j i:Nat}{t:Str}(h1:vs[j]?=some (i,.loc))(h2:x.T[i]?=some t):fX x vs (js++[j]) (ts++[t]):=by
 induction h with
 | nil=>exact .cons h1 h2 .nil
 | cons a b _ ih=>exact .cons a b ih
theorem fX.reverse{js:List Nat}{ts:List Str}(h:fX x vs js ts):fX x vs js.reverse ts.reverse:=by
 induction h with
 | nil=>exact .nil
 | cons a b _ ih=>rw [List.reverse_cons,List.reverse_cons]; exact ih.snoc a b
theorem BQ(hs:aA x vs):∀{js:List Nat} {ts:List Str},fX x vs js ts->∀{gs:List GV} {H:Tr} {nx:Nat} {R:Rn} {loc:List GV} {k:wD},sO js gs H nx R loc k=true->∀{m:Str->Option Value} {J:az} {s:Shared} {us:List Value} {Q:Unit->Shared->Prop},bP env L->St x J H nx R O L m s->bq x J env L m vs loc->be x.T J gs us->
  lK x J env vs O L k Q->wpAny (model x.prog x.w) A (assignInOrder (ts.map fun n=>bindName env n) us) Q E s:=by
 intro js ts hj
 induction hj with
 | nil=>
  intro gs H nx R loc k h m J s us Q En S Lo iu hQ
  have h:oC gs (k H nx R loc) false=true:=h
  rcases nk h with ⟨rfl,h⟩ | ⟨_,h⟩
  ·exact wpAny_pure (hQ J H nx R loc m s (.refl _) S Lo h)
  ·cases h
 | @cons j i t js ts h1 h2 _ ih=>
  intro gs H nx R loc k h m J s us Q En S Lo iu hQ
  cases iu with
  | nil=>cases h
  | @cons g v gs us i1 i2=>
   have h:bu j g H nx R loc (fun H nx R loc=>sO js gs H nx R loc k)=true:=h
   show wpAny _ _ (do holding us (bindName env t v); assignInOrder (ts.map fun n=>bindName env n) us) _ _ _
   refine wpAny_bind (wpAny_holding (wpAny_bindName (oM hs h1 h2 h S Lo En i1 fun J' H' nx' R' loc' m' s' le S' Lo' hk=>?_)))
   exact ih hk En S' Lo' (i2.more le) (hQ.le le)
def j6(n:Nat)(jr:List Nat)(f:EV)(r:SV):SV:=fun H nx R loc k=>f H nx R loc fun g H nx R=>bU g fun i=>eJ (H.get i) (fun l=>@Bool.rec (fun q0=>Bool) false (sO jr (nZ l []) H nx R loc fun H nx R loc=>r H nx R loc k) (Nat.beq (cQ l) n))
 (fun l=>@Bool.rec (fun q0=>Bool) false (sO jr (nZ l []) H nx R loc fun H nx R loc=>r H nx R loc k) (Nat.beq (cQ l) n)) (fun q0=>false) (fun q0=>false)
noncomputable def jA:List Expr->Nat->Option (List Str)
 | [],_=>some []
 | .Name t pos::r,line=>if pos.line == line then (jA r line).map (t::·) else none
 | _::_,_=>none
theorem Tk(e:Expr):(∃t p,e=.Name t p)∨∀r l,jA (e::r) l=none:=by
 cases e <;> first | exact .inl ⟨_,_,rfl⟩ | exact .inr fun q0 q0=>rfl
theorem lh{F:Expr->Option Str}{ts:List Expr}{line:Nat}:∀{names:List Str},jA ts line=some names->(∀n∈names,∀pos:Pos,pos.line=line->F (.Name n pos)=some n)->ts.filterMap F=names/\names.length=ts.length:=by
 induction ts with
 | nil=>intro names h _; cases h; exact ⟨rfl,rfl⟩
 | cons e r ih=>
  intro names h hk
  rcases Tk e with ⟨t,pos,rfl⟩ | q
  ·have h:(if (pos.line == line)=true then (jA r line).map (t::·) else none)=some names:=h
   by_cases q:(pos.line == line)=true
   ·rw [if_pos q] at h
    obtain ⟨ns,h1,rfl⟩:=(Option.map_eq_some_iff.mp h)
    obtain ⟨i1,i2⟩:=(ih h1 fun n hn=>hk n (.tail _ hn))
    refine ⟨?_,congrArg (·+ 1) i2⟩
    rw [List.filterMap_cons_some (hk t (.head _) pos (eq_of_beq q)),i1]
   ·rw [if_neg q] at h; cases h
  ·rw [q] at h; cases h
theorem pf{l:List Str}(h:l.Nodup):l.eraseDups.length=l.length:=by
 induction l with
 | nil=>rfl
 | cons a r ih=>
  obtain ⟨h1,h2⟩:=(List.nodup_cons.mp h)
  rw [List.eraseDups_cons]
  have:r.filter (fun b=>!b == a)=r:=by
   rw [List.filter_eq_self]
   intro b hb
   have:b≠a:=fun e=>h1 (e▸hb)
   simpa using this
  rw [this,List.length_cons,List.length_cons,ih h2]
theorem FU(hs:aA x vs){ts es:List Expr}{js:List Nat}{names:List Str}{f:EV}{r:SV}{rest:List Stmt}{k1 k2:Nat}{p1 p2:Pos}(hj:fX x vs js names)(hf:aK x d vs f (.Tuple es k2 p2))(hr:au x d vs r rest)
  (hn:jA ts ((ts.head?.map (·.pos.line)).getD 0)=some names) (h2:ts.length=2∨ts.length=3) (hl:es.length=ts.length) (hp:bx es=true) (hd:names.Nodup) (hc1:es.all (foldedForSure 8)=false) (hc2:es.all (constantsAlone 8)=false) (pos:Pos) :
  au x d vs (j6 ts.length js.reverse f r) (.Assign [.Tuple ts k1 p1] (.Tuple es k2 p2) pos::rest):=by
 intro H nx R loc k h A env O L m J s Q E Hh En S Lo hQ
 refine ec hr Hh En hQ ?_
 have kn:∀{js:List Nat} {names:List Str},fX x vs js names->∀n∈names,env.kindOf n=some .local:=by
  intro js names hj
  induction hj with
  | nil=>intro n hn; cases hn
  | cons h1 h2 _ ih=>
   intro n hn
   rcases List.mem_cons.mp hn with rfl | hn
   ·obtain ⟨t',ht',q0,sl⟩:=(Lo _ _ _ h1)
    rw [h2] at ht'; cases ht'
    exact sl.2.1
   ·exact ih n hn
 have kn:=kn hj
 have star:∀p:Expr->Bool,(∀e,bZ e=true->p e=false)->es.any p=false:=fun p q=>by
  rw [List.any_eq_false]
  intro e he
  rw [q e (List.all_eq_true.mp hp e he)]
  exact Bool.false_ne_true
 have n2:names.length=ts.length:=(lh (F:=fun e=>match e with | .Name t _=>some t | _=>none) hn fun n q0 pos q0=>rfl).2
 have hw:swappedStores [.Tuple ts k1 p1] (.Tuple es k2 p2) env=pure (some names):=by
  unfold swappedStores
  dsimp only
  have c1:(!(ts.length == 2||ts.length == 3)||es.length != ts.length||env.blockKind != .function)=false:=by
   have b:env.blockKind=.function:=by unfold Env.blockKind; rw [En.kind]; rfl
   rw [b,hl]
   rcases h2 with q | q <;> simp [q]
  rw [c1,star _ (by intro e he; cases e <;> first | rfl | (cases he; done))]
  simp only [Bool.false_eq_true,if_false]
  rw [(lh hn fun n hn' pos hpos=>by
   show (if (env.kindOf n == some .local&&pos.line == _)=true then some n else none)=some n
   rw [kn n hn',hpos]; simp).1]
  have c2:(names.length != ts.length||names.eraseDups.length != names.length)=false:=by
   rw [n2,pf hd,n2]; simp
  rw [c2,hc1,hc2]
  rfl
 refine Assign_Tuple_swapped (names:=names) (hf H nx R loc _ h A env O L m J s _ E Hh En S Lo fun J1 H1 nx1 R1 s1 g v le1 S1 i1 h1=>?_) rfl hw
 rw [n2]
 refine pe h1 Hh S1 i1 fun gs us s2 hk iu en S2=>?_
 rw [wX,List.append_nil] at hk
 exact BQ hs hj.reverse hk En S2 (Lo.more le1) iu.reverse fun J2 H2 nx2 R2 loc2 m2 s2 le2 S2 Lo2 hk2=>ef (le1.trans le2) S2 Lo2 hk2
end
end
section
section
variable {x:aQ} {d:Nat} {vs:aq} {J:az} {H:Tr} {nx:Nat} {R:Rn} {O:Heap} {L:Addr} {m:Str->Option Value} {s:Shared} {A:Around} {E:Value->Shared->Prop} {env:Env} {loc:List GV}
noncomputable def aC:SV:=fun H nx R loc k=>k .next H nx R loc
theorem qB:au x d vs aC []:=fun H nx R loc k h A env O L m J s Q E Hh En S Lo hQ=>wpAny_execs_nil (hQ J H nx R loc m s .next .next (.refl _) S Lo .next h)
noncomputable def yA:SV:=fun H nx R loc k=>k .cont H nx R loc
theorem rg{rest:List Stmt}(pos:Pos):au x d vs yA (.Continue pos::rest):=fun H nx R loc k h A env O L m J s Q E Hh En S Lo hQ=>
 wpAny_execs_cons (wpAny_Continue (hQ J H nx R loc m s .cont .cont (.refl _) S Lo .cont h))
noncomputable def pH:SV:=fun H nx R loc k=>k (.ret .none) H nx R loc
theorem lQ{rest:List Stmt}(pos:Pos):au x d vs pH (.Return none pos::rest):=fun H nx R loc k h A env O L m J s Q E Hh En S Lo hQ=>
 wpAny_execs_cons (wpAny_Return_none (hQ J H nx R loc m s (.ret .none) _ (.refl _) S Lo (.ret .none) h))
noncomputable def bC(f:EV):SV:=fun H nx R loc k=>f H nx R loc fun g H nx R=>k (.ret g) H nx R loc
theorem aW{f:EV}{e:Expr}(hf:aK x d vs f e){rest:List Stmt}(pos:Pos):au x d vs (bC f) (.Return (some e) pos::rest):=fun H nx R loc k h A env O L m J s Q E Hh En S Lo hQ=>
 wpAny_execs_cons (wpAny_Return_some (hf H nx R loc _ h A env O L m J s _ E Hh En S Lo fun J' H' nx' R' s' g v le S' i hk=>hQ J' H' nx' R' loc m s' (.ret g) _ le S' (Lo.more le) (.ret i) hk))
noncomputable def bV(f:EV)(r:SV):SV:=fun H nx R loc k=>f H nx R loc fun q0 H nx R=>r H nx R loc k
theorem me{prog:Program}{w:World}{e:Expr}{pos:Pos}{Q:Flow->Shared->Prop}{f:Expr}{as:List Expr}{ks:List Keyword}{cp:Pos}(hc:e=.Call f as ks cp)(hi:interactive env=false)(hs:swapsWith e none pos.line env=pure false)(h:wpAny (model prog w) A (eval e env) (fun q0 s'=>Q .next s') E s):wpAny (model prog w) A (exec (.Expr e pos) env) Q E s:=by
 rw [exec_Expr env e pos hi hs]
 refine wpAny_bind (wpAny_standAt (wpAny_bind (wpAny_mono h (fun v s' h'=>?_) fun q0 q0 x=>x)))
 subst hc
 cases v <;> first | exact wpAny_pure h' | exact wpAny_bind (wpAny_standAt (wpAny_bind (wpAny_runValue (codeAny_builtin entry_let_go (show wpAny _ _ (ret .none) _ _ s' from wpAny_pure (wpAny_pure h'))))))
theorem bg{f:EV}{r:SV}{e:Expr}{rest:List Stmt}(hf:aK x d vs f e)(hr:au x d vs r rest){g:Expr}{as:List Expr}{ks:List Keyword}{cp:Pos}(hc:e=.Call g as ks cp)(pos:Pos):au x d vs (bV f r) (.Expr e pos::rest):=fun H nx R loc k h A env O L m J s Q E Hh En S Lo hQ=>
 ec hr Hh En hQ (me hc (by unfold interactive; rw [En.kind]; rfl) (hK (by rw [hc]; rfl) _ _ _) (hf H nx R loc _ h A env O L m J s _ E Hh En S Lo fun J' H' nx' R' s' g v le S' i hk=>ef le S' (Lo.more le) hk))
def y7(gf:GF)(H:Tr)(nx:Nat)(R:Rn)(loc:List GV)(r:SV)(k:KS):Bool:=@GF.rec (fun q0=>Bool) (r H nx R loc k) (k .brk H nx R loc) (k .cont H nx R loc) (fun g=>k (.ret g) H nx R loc) gf
def bX(t:TV)(a b:SV)(r:SV):SV:=fun H nx R loc k=>t H nx R loc fun c H nx R=>@Bool.rec (fun q0=>Bool) (b H nx R loc fun gf H nx R loc=>y7 gf H nx R loc r k) (a H nx R loc fun gf H nx R loc=>y7 gf H nx R loc r k) c
theorem aZ{t:TV}{a b r:SV}{c:Expr}{as bs rest:List Stmt}(ht:dZ x d vs t c)(ha:au x d vs a as)(hb:au x d vs b bs)(hr:au x d vs r rest)(pos:Pos):au x d vs (bX t a b r) (.If c as bs pos::rest):=by
 intro H nx R loc k h A env O L m J s Q E Hh En S Lo hQ
 refine ec hr Hh En hQ (wpAny_If (ht H nx R loc _ h A env O L m J s _ E Hh En S Lo fun J1 H1 nx1 R1 s1 c le1 S1 h1=>?_))
 have go:∀(f:SV) (l:List Stmt),au x d vs f l->f H1 nx1 R1 loc (fun gf H nx R loc=>y7 gf H nx R loc r k)=true->
   wpAny (model x.prog x.w) A (execs l env) (fun fl s'=>match fl with | .next=>qi x vs env O L J (fun H nx R loc=>r H nx R loc k) s' | fl=>Q fl s') E s1:=fun f l hf hk=>
  hf H1 nx1 R1 loc _ hk A env O L m J1 s1 _ E Hh En S1 (Lo.more le1) fun J2 H2 nx2 R2 loc2 m2 s2 gf fl le2 S2 Lo2 hfl hk2=>by
   cases hfl with
   | next=>exact ef (le1.trans le2) S2 Lo2 hk2
   | brk=>exact hQ J2 H2 nx2 R2 loc2 m2 s2 .brk _ (le1.trans le2) S2 Lo2 .brk hk2
   | cont=>exact hQ J2 H2 nx2 R2 loc2 m2 s2 .cont _ (le1.trans le2) S2 Lo2 .cont hk2
   | ret i=>exact hQ J2 H2 nx2 R2 loc2 m2 s2 (.ret _) _ (le1.trans le2) S2 Lo2 (.ret i) hk2
 cases c with
 | true=>exact go a as ha h1
 | false=>exact go b bs hb h1
def oS(gf:GF)(H:Tr)(nx:Nat)(R:Rn)(loc:List GV)(on:Tr->Nat->Rn->List GV->Bool)(r:SV)(k:KS):Bool:=@GF.rec (fun q0=>Bool) (on H nx R loc) (r H nx R loc k) (on H nx R loc) (fun g=>k (.ret g) H nx R loc) gf
def G7(t:TV)(b r:SV)(k:KS)(n:Nat):Tr->Nat->Rn->List GV->Bool:=@Nat.rec (fun q0=>Tr->Nat->Rn->List GV->Bool) (fun q0 q0 q0 q0=>false) (fun q0 ih H nx R loc=>t H nx R loc fun c H nx R=>@Bool.rec (fun q0=>Bool) (r H nx R loc k) (b H nx R loc fun gf H nx R loc=>oS gf H nx R loc ih r k) c) n
def xG(t:TV)(b r:SV):SV:=fun H nx R loc k=>G7 t b r k 40 H nx R loc
theorem qt{t:TV}{b r:SV}{c:Expr}{bs rest:List Stmt}(ht:dZ x d vs t c)(hb:au x d vs b bs)(hr:au x d vs r rest)(pos:Pos):au x d vs (xG t b r) (.While c bs [] pos::rest):=by
 intro H nx R loc k h A env O L m J s Q E Hh En S Lo hQ
 revert ht hb hr h Hh En S Lo hQ
 revert t b r c bs rest pos
 revert x d vs H nx R loc k A env O L m J s Q E
 refine @pD _ _ _ _ ?_
 generalize (dk _ _).x=x,(dk _ _).d=d,(dk _ _).vs=vs,(dk _ _).H=H,(dk _ _).nx=nx,(dk _ _).R=R,(dk _ _).loc=loc,(dk _ _).k=k,(dk _ _).A=A,(dk _ _).env=env,(dk _ _).O=O,(dk _ _).L=L,(dk _ _).m=m,(dk _ _).J=J,(dk _ _).s=s,(dk _ _).Q=Q,(dk _ _).E=E
 intro t b r c bs rest pos
 intro ht hb hr h Hh En S Lo hQ
 refine ec hr Hh En hQ (wpAny_While ?_)
 refine codeAny_whileLoop (fun n=>qi x vs env O L J (G7 t b r k n)) (fun n s1 hI=>?_) 40 (ef (.refl _) S Lo h)
 symm
 obtain ⟨J1,H1,nx1,R1,loc1,m1,le1,S1,Lo1,h1⟩:=hI
 symm
 cases n with
 | zero=>cases h1
 | succ n=>
  have h1:t H1 nx1 R1 loc1 (fun c H nx R=>@Bool.rec (fun q0=>Bool) (r H nx R loc1 k) (b H nx R loc1 fun gf H nx R loc=>oS gf H nx R loc (G7 t b r k n) r k) c)=true:=h1
  refine ht H1 nx1 R1 loc1 _ h1 A env O L m1 J1 s1 _ _ Hh En S1 Lo1 fun J2 H2 nx2 R2 s2 c le2 S2 h2=>?_
  cases c with
  | false=>exact wpAny_execs_nil (ef (le1.trans le2) S2 (Lo1.more le2) h2)
  | true=>
   refine hb H2 nx2 R2 loc1 _ h2 A env O L m1 J2 s2 _ _ Hh En S2 (Lo1.more le2) fun J3 H3 nx3 R3 loc3 m3 s3 gf fl le3 S3 Lo3 hfl hk3=>?_
   have le:=le1.trans (le2.trans le3)
   cases hfl with
   | next=>exact ⟨n,Nat.lt_succ_self n,ef le S3 Lo3 hk3⟩
   | cont=>exact ⟨n,Nat.lt_succ_self n,ef le S3 Lo3 hk3⟩
   | brk=>exact ef le S3 Lo3 hk3
   | ret i=>exact hQ J3 H3 nx3 R3 loc3 m3 s3 (.ret _) _ le S3 Lo3 (.ret i) hk3
end
end
section
section
variable {prog:Program} {w:World} {A:Around} {E:Value->Shared->Prop} {s:Shared}
theorem mO{h:Heap}{a:Addr}{o o1 o2:Obj}(e:h.get? a=some o):∃o',((h.push o1).push o2).get? a=some o':=⟨o,Heap.get?_push_of_some _ (Heap.get?_push_of_some _ e)⟩
theorem l9{it l:Addr}{i:Nat}{items:Array Value}{Q:Option Value->Shared->Prop}(hh:A.handled=none)(hit:s.heap.IsListIter it l i)(hl:s.heap.IsList l items)(hx:items[i]?=none)
  (hQ:∀h',Heap.ExtBut it s.heap h'->(∃o,h'.get? it=some o)->Q none { s with heap:=h' }):wpAny (model prog w) A (pyNext (.ref it)) Q E s:=by
 symm
 obtain ⟨o,ho,hc,hd⟩:=(id hit)
 obtain ⟨ol,hol,q0,nl,hdl⟩:=hl
 symm
 unfold pyNext
 refine wpAny_bind (wpAny_attempt (wpAny_callSpecial?_slot (name:=Str.ofString "__next__") hit.typeIs slot_listiter_next (wpAny_call_entry slot_listiter_next hit.typeIs entry_listiter_next ?_ (args_listiter_next _))))
 show wpAny _ _ (field (.ref it) 0 >>= _) _ _ s
 refine wpAny_bind (wpAny_field ho hd (x:=.ref l) rfl ?_)
 show wpAny _ _ (if (Value.ref l == Value.none)=true then _ else _) _ _ s
 rw [if_neg (show ¬ ((Value.ref l == Value.none)=true) from Bool.false_ne_true)]
 show wpAny _ _ (field (.ref it) 1 >>= _) _ _ s
 refine wpAny_bind (wpAny_field ho hd (x:=.int i 0) rfl ?_)
 show wpAny _ _ (seqItems? (.ref l) >>= _) _ _ s
 refine wpAny_bind (wpAny_seqItems hol hdl ?_)
 simp only [Int.toNat_natCast,hx]
 refine wpAny_bind (wpAny_rule (wpAny_bind (wpAny_setField ho hd (by simp) ?_)))
 show wpAny _ _ (newExc (.type "StopIteration") [] >>= _) _ _ _
 refine wpAny_bind ?_
 simp only [newExc,newTuple]
 refine wpAny_bind (wpAny_newObj_type ?_ (by size_fits))
 refine wpAny_bind (m:=firstArgMember _ _) (wpAny_of_eq (a:=Value.none) (by first | rfl | (simp only [firstArgMember]; rfl)) ?_)
 refine wpAny_newObj_type ?_ (by size_fits)
 simp only [raiseNew]
 refine wpAny_bind (wpAny_handled ?_)
 rw [show A.in1.handled=none from hh]
 refine wpAny_bind (wpAny_pure (wpAny_throw ?_))
 refine wpAny_bind (wpAny_isInstance (T:= "StopIteration") (b:=true) ⟨_,Heap.get?_push_size _ rfl,rfl⟩ isSubtype_stop ?_)
 exact wpAny_pure (hQ _ (((Heap.SameBut.update ..).extBut.push _).push _) (mO (Heap.get?_update_self _ ho (Obj.isFreed_of_fields (Obj.data_mapFields hd _)))))
theorem k7{it:Addr}{i left step:Int}{Q:Option Value->Shared->Prop}(hh:A.handled=none)(hit:IsRangeIter s.heap it i left step)(hleft:left<=0)
  (hQ:∀h',Heap.ExtBut it s.heap h'->(∃o,h'.get? it=some o)->Q none { s with heap:=h' }):wpAny (model prog w) A (pyNext (.ref it)) Q E s:=by
 have hT:s.TypeIs (.ref it) "range_iterator":=⟨_,hit,rfl⟩
 unfold pyNext
 refine wpAny_bind (wpAny_attempt (wpAny_callSpecial?_slot (name:=Str.ofString "__next__") hT PySem.F.slot_range_iterator_next (wpAny_call_entry PySem.F.slot_range_iterator_next hT PySem.F.entry_range_iterator_next ?_ (PySem.F.args_range_iterator_next_1 _))))
 show wpAny _ _ (field (.ref it) 0 >>= _) _ _ s
 refine wpAny_bind (wpAny_field hit rfl (x:=rawInt i) rfl ?_)
 show wpAny _ _ (field (.ref it) 1 >>= _) _ _ s
 refine wpAny_bind (wpAny_field hit rfl (x:=rawInt left) rfl ?_)
 show wpAny _ _ (field (.ref it) 2 >>= _) _ _ s
 refine wpAny_bind (wpAny_field hit rfl (x:=rawInt step) rfl ?_)
 show wpAny _ _ (if left<=0 then _ else _) _ _ s
 rw [if_pos hleft]
 refine wpAny_bind (wpAny_rule ?_)
 refine wpAny_bind ?_
 show wpAny _ _ (newExc (.type "StopIteration") [] >>= _) _ _ _
 refine wpAny_bind ?_
 simp only [newExc,newTuple]
 refine wpAny_bind (wpAny_newObj_type ?_ (by size_fits))
 refine wpAny_bind (m:=firstArgMember _ _) (wpAny_of_eq (a:=Value.none) (by first | rfl | (simp only [firstArgMember]; rfl)) ?_)
 refine wpAny_newObj_type ?_ (by size_fits)
 simp only [raiseNew]
 refine wpAny_bind (wpAny_handled ?_)
 first | rw [show A.in1.handled=none from hh] | rw [hh]
 refine wpAny_bind (wpAny_pure (wpAny_throw ?_))
 refine wpAny_bind (wpAny_isInstance (T:= "StopIteration") (b:=true) ⟨_,Heap.get?_push_size _ rfl,rfl⟩ isSubtype_stop ?_)
 exact wpAny_pure (hQ _ (((Heap.ExtBut.refl it s.heap).push _).push _) (mO hit))
end
section
variable {x:aQ} {d:Nat} {vs:aq} {J:az} {H:Tr} {nx:Nat} {R:Rn} {O:Heap} {L:Addr} {m:Str->Option Value} {s:Shared} {A:Around} {E:Value->Shared->Prop} {env:Env} {loc:List GV}
theorem St.drop{i:Nat}{a:Addr}{H':Tr}{h':Heap}(S:St x J H nx R O L m s)(ha:J.as[i]?=some a)(he:Heap.ExtBut a s.heap h')(ho:∃o,h'.get? a=some o)(hA:At H H' i .junk)(tk:Nat):St x J H' nx R O L m { s with heap:=h',toks:=tk }:=by
 symm
 obtain ⟨os,hos,el,N⟩:=S.led.at_
 obtain ⟨o',ho'⟩:=ho
 obtain ⟨oi,hoi⟩:∃oi,os[i]?=some oi:=⟨_,List.getElem?_eq_getElem (el▸aN ha)⟩
 obtain ⟨q1,q2,q3⟩:=(N _ (cn ha hoi))
 symm
 have N':News O L h' (J.as.zip (os.set i o')):=by
  obtain ⟨pre,post,e1,e2,p1,p2⟩:=(ey (o':=o') S.led.nod ha hoi).split
  rw [e2]
  rw [e1] at N
  intro p hp
  rcases List.mem_append.mp hp with hp | hp
  ·have z:=N p (List.mem_append_left _ hp)
   exact ⟨he _ _ (p1 p hp) z.1,z.2⟩
  ·rcases List.mem_cons.mp hp with rfl | hp
   ·exact ⟨ho',q2,q3⟩
   ·have z:=N p (List.mem_append_right _ (.tail _ hp))
    exact ⟨he _ _ (p2 p hp) z.1,z.2⟩
 have F':Fr O L h' m:=⟨S.fr.ns.extBut he (Ne.symm q2),fun b o e=>he b o (fun z=>by rw [z,q3] at e; cases e) (S.fr.keep b o e),S.fr.above⟩
 exact S.set hos el F' ha N' (.junk o') hA tk
def yj(g:GV)(a b:Bool):Bool:=@GV.rec (fun q0=>Bool) a b (fun q0=>b) (fun q0=>b) (fun q0=>b) (fun q0=>b) (fun q0=>b) (fun q0=>b) b g
theorem uF{g:GV}{a b:Bool}(h:yj g a b=true):(g=.nul/\a=true)∨(g≠.nul/\b=true):=by cases g <;> first | exact .inl ⟨rfl,h⟩ | exact .inr ⟨(by intro e; cases e),h⟩
def kP(o:GO)(kl kr:Nat->Nat->Bool):Bool:=@GO.rec (fun q0=>Bool) false (fun q0=>false) (fun q0=>false) (fun q0 q0=>false) (fun q0=>false) false (fun q0=>false) (fun q0=>false) (fun q0=>false) (fun q0=>false) (fun j n=>kl j n) (fun q0 q0=>false) (fun z n=>kr z n) (fun q0=>false) (fun q0=>false) (fun q0=>false) false (fun q0=>false) (fun q0 q0=>false) (fun q0 q0=>false) (fun q0 q0=>false) (fun q0 q0=>false) (fun q0 q0=>false) o
theorem jd{o:GO}{kl kr:Nat->Nat->Bool}(h:kP o kl kr=true):(∃j n,o=.liter j n/\kl j n=true)∨(∃j n,o=.riter j n/\kr j n=true):=by
 cases o <;> first | (cases h; done) | exact .inl ⟨_,_,rfl,h⟩ | exact .inr ⟨_,_,rfl,h⟩
def yz(i:Nat)(H:Tr)(kn:Tr->Bool)(c:Bool):Bool:=@Bool.rec (fun q0=>Bool) false (H.set 24 i .junk kn) c
def mw(i:Nat)(H:Tr)(ks:GV->Tr->Bool)(kn:Tr->Bool):Bool:=kP (H.get i)
 (fun j n=>d9 (H.get j) fun l=>yj (ba l n) (yz i H kn (Nat.ble (cQ l) n)) (H.set 24 i (.liter j (Nat.succ n)) fun H=>ks (ba l n) H))
 (fun z n=>@Bool.rec (fun q0=>Bool) (yz i H kn true) (fN (Nat.succ z) fun z'=>H.set 24 i (.riter z' n) fun H=>ks (.int (.lit (.ofNat z))) H) (Nat.ble (Nat.succ z) n))
def DS(h:Heap)(a:Addr):Prop:=∃o n,h.get? a=some o/\o.cls=.type n/\["enumerate","zip","dict_itemiterator","dict_reverseitemiterator","odict_iterator","itertools.zip_longest","itertools.pairwise"].contains n=false
theorem lZ{t:Expr}{a:Addr}{v:Value}{prog:Program}{w:World}{Q:Unit->Shared->Prop}(h:DS s.heap a)(hQ:Q () s):wpAny (model prog w) A (letOwnedTupleGo t (.ref a) v) Q E s:=by
 obtain ⟨o,n,h1,h2,h3⟩:=h
 have go:wpAny (model prog w) A (do
   let (.ref r,.ref a):=((Value.ref a),v) | return
   let o <- load r
   match o.cls,o.data with
   | .type n,.fields vs=>
    if ["enumerate","zip","dict_itemiterator","dict_reverseitemiterator","odict_iterator","itertools.zip_longest","itertools.pairwise"].contains n&&vs[0]? == some (rawInt a) then
     rule "for.unpacks-the-owned-tuple"
     updateField r 0 .none
   | _,_=>pure ()) Q E s:=by
  cases v with
  | ref b=>
   refine wpAny_bind (wpAny_load h1 ?_)
   rw [h2]
   cases hd:o.data <;> try exact wpAny_pure hQ
   simp only [h3,Bool.false_and,Bool.false_eq_true,if_false]
   exact wpAny_pure hQ
  | _=>exact wpAny_pure hQ
 unfold letOwnedTupleGo
 cases t <;> first | exact wpAny_pure hQ | exact go
theorem sb{i:Nat}{a:Addr}{ks:GV->Tr->Bool}{kn:Tr->Bool}(h:mw i H ks kn=true)(Hh:A.handled=none)(S:St x J H nx R O L m s)(ha:J.as[i]?=some a){Q:Option Value->Shared->Prop}
  (hs:∀g H' s' v,ks g H'=true->St x J H' nx R O L m s'->Is x.T J g v->DS s'.heap a->Q (some v) s') (hn:∀H' s',kn H'=true->St x J H' nx R O L m s'->Q none s'):wpAny (model x.prog x.w) A (pyNext (.ref a)) Q E s:=by
 obtain ⟨o,o1,q0,q0,o2⟩:=(S.led.obj ha)
 rcases jd h with ⟨j,n,e,h1⟩ | ⟨j,n,e,h1⟩
 ·rw [e] at o2
  obtain ⟨la,hj,hc,hd⟩:=o2
  obtain ⟨l,hl,h2⟩:=da h1
  obtain ⟨us,lu,iu⟩:=(S.lst hj hl)
  have hit:s.heap.IsListIter a la n:=⟨o,o1,hc,hd⟩
  rcases uF h2 with ⟨q,h3⟩ | ⟨q,h3⟩
  ·obtain ⟨c,h4⟩:=aJ h3
   have c:=Nat.le_of_ble_eq_true c
   rw [cU,iu.length] at c
   obtain ⟨H',hA,h5⟩:=Tr.set_ok _ _ _ _ _ h4
   exact l9 Hh hit lu (by simp; lia) fun h' he ho=>hn H' _ h5 (S.drop ha he ho hA s.toks)
  ·obtain ⟨H',hA,h4⟩:=Tr.set_ok _ _ _ _ _ h3
   obtain ⟨v,v1,v2⟩:=(iu.get (kR q))
   refine wpAny_pyNext_list_item hit lu (by simpa using v1) fun h' hit' hsb=>?_
   obtain ⟨o',p1,p2,p3⟩:=hit'
   exact hs _ H' _ v h4 (S.upd ha hsb p1 (.liter hj p2 p3) hA s.toks) v2 ⟨o',_,p1,p2,by decide⟩
 ·rw [e] at o2
  have ho:_=_:=o2.inv
  subst ho
  have hit:IsRangeIter s.heap a j ((n:Int) - j) 1:=o1
  cases c:Nat.ble (Nat.succ j) n with
  | false=>
   rw [c] at h1
   have h1:H.set 24 i .junk kn=true:=h1
   obtain ⟨H',hA,h5⟩:=Tr.set_ok _ _ _ _ _ h1
   have c:¬ (j+1<=n):=fun z=>by rw [Nat.ble_eq_true_of_le z] at c; cases c
   exact k7 Hh hit (by lia) fun h' he ho=>hn H' _ h5 (S.drop ha he ho hA s.toks)
  | true=>
   rw [c] at h1
   have c:=Nat.le_of_ble_eq_true c
   have h1:(fN (Nat.succ j) fun z'=>H.set 24 i (.riter z' n) fun H=>ks (.int (.lit (.ofNat j))) H)=true:=h1
   rw [bO] at h1
   obtain ⟨H',hA,h4⟩:=Tr.set_ok _ _ _ _ _ h1
   refine wpAny_pyNext_range_item hit (by lia) fun h' hit' hsb=>?_
   refine hs _ H' _ (.int j s.toks) h4 (S.upd ha hsb hit' (.riter ?_) hA (s.toks+1)) (.int (e:=.lit (.ofNat j)) _ trivial) ⟨_,_,hit',rfl,by decide⟩
   have e2:((n:Int) - ((j.succ:Nat):Int))=(n:Int) - j - 1:=by lia
   rw [e2]; rfl
def sT:wH:=fun g H nx R k=>bU g fun j=>@GO.rec (fun q0=>Bool) false (fun q0=>mk (.liter j 0) H nx R k) (fun q0=>false) (fun q0 q0=>false) (fun q0=>false) false (fun q0=>false) (fun q0=>false) (fun q0=>false) (fun q0=>false) (fun q0 q0=>false) (fun q0 q0=>false) (fun q0 q0=>false) (fun q0=>false) (fun n=>@Bool.rec (fun q0=>Bool) false (mk (.riter 0 n) H nx R k) (Nat.ble n 1000)) (fun q0=>false) false (fun q0=>false) (fun q0 q0=>false) (fun q0 q0=>false) (fun q0 q0=>false) (fun q0 q0=>false) (fun q0 q0=>false) (H.get j)
theorem nN:EJ x d sT fun v=>pyIter v:=by
 intro g H nx R k h A O L m J s u Q E Hh S iu hQ
 obtain ⟨j,rfl,h1⟩:=bn h
 obtain ⟨q0,rfl,ha⟩:=iu
 obtain ⟨o,o1,q0,q0,o2⟩:=(S.led.obj ha)
 cases e:H.get j with
 | list l=>
  rw [e] at h1
  obtain ⟨us,lu,iu⟩:=(S.lst ha e)
  exact wpAny_pyIter_list lu (gM h1 S hQ rfl (fun J' le=>.liter (aF le.1 ha) rfl rfl) s.toks)
 | rng n=>
  rw [e] at h1 o2
  obtain ⟨c,h2⟩:=aJ h1
  have c:=Nat.le_of_ble_eq_true c
  obtain ⟨t,u,v,ho⟩:=o2
  subst ho
  have sz:Builtin.Range.rangeSize 0 n 1=(n:Int):=by
   unfold Builtin.Range.rangeSize
   simp
   lia
  refine wpAny_pyIter_range (r:=_) (a:=0) (b:=n) (c:=1) o1 ?_ ?_
  ·unfold Builtin.Range.small; rw [sz]; simp [Builtin.Range.rangeFitsLong]; lia
  ·rw [sz]
   exact gM h2 S hQ rfl (fun J' le=>.riter (by simp)) s.toks
 | _=>rw [e] at h1; cases h1
end
end
section
section
variable {x:aQ} {d:Nat} {vs:aq} {J:az} {H:Tr} {nx:Nat} {R:Rn} {O:Heap} {L:Addr} {m:Str->Option Value} {s:Shared} {A:Around} {E:Value->Shared->Prop} {env:Env} {loc:List GV}
noncomputable def jS(e:Expr):Bool:=iN e 7
theorem gd{e:Expr}(h:jS e=true)(env:Env)(x:Value):foldedSetIterable e env x=pure x:=by
 cases e <;> first | rfl | (cases h; done)
def Cr(a:AV)(b r:SV)(i:Nat)(k:KS)(n:Nat):Tr->Nat->Rn->List GV->Bool:=@Nat.rec (fun q0=>Tr->Nat->Rn->List GV->Bool) (fun q0 q0 q0 q0=>false)
 (fun q0 ih H nx R loc=>mw i H (fun g H=>a g H nx R loc fun H nx R loc=>b H nx R loc fun gf H nx R loc=>oS gf H nx R loc ih r k) fun H=>r H nx R loc k) n
def jU(a:AV)(f:EV)(b r:SV):SV:=fun H nx R loc k=>f H nx R loc fun g H nx R=>sT g H nx R fun it H nx R=>bU it fun i=>Cr a b r i k 64 H nx R loc
theorem fO{a:AV}{f:EV}{b r:SV}{t it:Expr}{bs rest:List Stmt}(ha:dP x d vs a t)(hf:aK x d vs f it)(hb:au x d vs b bs)(hr:au x d vs r rest)(hn:jS it=true)(pos:Pos):au x d vs (jU a f b r) (.For t it bs [] pos::rest):=by
 intro H nx R loc k h A env O L m J s Q E Hh En S Lo hQ
 revert ha hf hb hr hn h Hh En S Lo hQ
 revert a f b r t it bs rest pos
 revert x d vs H nx R loc k A env O L m J s Q E
 refine @pD _ _ _ _ ?_
 generalize (dk _ _).x=x,(dk _ _).d=d,(dk _ _).vs=vs,(dk _ _).H=H,(dk _ _).nx=nx,(dk _ _).R=R,(dk _ _).loc=loc,(dk _ _).k=k,(dk _ _).A=A,(dk _ _).env=env,(dk _ _).O=O,(dk _ _).L=L,(dk _ _).m=m,(dk _ _).J=J,(dk _ _).s=s,(dk _ _).Q=Q,(dk _ _).E=E
 intro a f b r t it bs rest pos
 intro ha hf hb hr hn h Hh En S Lo hQ
 refine ec hr Hh En hQ (wpAny_For (hf H nx R loc _ h A env O L m J s _ E Hh En S Lo fun J1 H1 nx1 R1 s1 g v le1 S1 iv h1=>?_) (fun y=>gd hn _ y))
 refine nN g H1 nx1 R1 _ h1 A O L m J1 s1 v _ E Hh S1 iv fun J2 H2 nx2 R2 s2 g2 v2 le2 S2 iv2 h2=>?_
 symm
 obtain ⟨i,rfl,h3⟩:=bn h2
 obtain ⟨ad,rfl,hi⟩:=iv2
 symm
 refine codeAny_forLoop_any (fun n=>qi x vs env O L J2 (Cr a b r i k n)) (fun n s3 hI=>?_) 64 (ef (.refl _) S2 (Lo.more (le1.trans le2)) h3)
 symm
 obtain ⟨J3,H3,nx3,R3,loc3,m3,le3,S3,Lo3,h4⟩:=hI
 symm
 have le:=(le1.trans le2).trans le3
 cases n with
 | zero=>cases h4
 | succ n=>
  have h4:mw i H3 (fun g H=>a g H nx3 R3 loc3 fun H nx R loc=>b H nx R loc fun gf H nx R loc=>oS gf H nx R loc (Cr a b r i k n) r k) (fun H=>r H nx3 R3 loc3 k)=true:=h4
  refine sb h4 Hh.hnd S3 (aF le3.1 hi) (fun g H' s' v hk S' iv no=>?_) fun H' s' hk S'=>?_
  ·refine lZ no ?_
   refine ha g H' nx3 R3 loc3 _ hk A env O L m3 J3 s' v _ _ Hh En S' Lo3 iv fun J4 H4 nx4 R4 loc4 m4 s4 le4 S4 Lo4 h5=>?_
   refine hb H4 nx4 R4 loc4 _ h5 A env O L m4 J4 s4 _ _ Hh En S4 Lo4 fun J5 H5 nx5 R5 loc5 m5 s5 gf fl le5 S5 Lo5 hfl hk5=>?_
   have le':=le4.trans le5
   cases hfl with
   | next=>exact ⟨n,Nat.lt_succ_self n,ef (le3.trans le') S5 Lo5 hk5⟩
   | cont=>exact ⟨n,Nat.lt_succ_self n,ef (le3.trans le') S5 Lo5 hk5⟩
   | brk=>exact ef (le.trans le') S5 Lo5 hk5
   | ret i=>exact hQ J5 H5 nx5 R5 loc5 m5 s5 (.ret _) _ (le.trans le') S5 Lo5 (.ret i) hk5
  ·exact wpAny_execs_nil (ef le S' Lo3 hk)
end
end
section
def left(C:Addr)(P:Shared->Prop)(s:Shared):Prop:=∃m,s.heap.Ns C m/\∀h' m',h'.Ns C m'->Heap.SameBut C s.heap h'->P { s with heap:=h' }
def rA(M:Model)(A:Around)(E:Value->Shared->Prop)(use:Option (Value->Sem Unit))(Q:Value->Shared->Prop)(acc:Value)(C:Addr)(r:Result)(s':Shared):Prop:=
 match r,use with
 | .error _,_=>False
 | .ok _,none=>left C (Q acc) s'
 | .ok _,some u=>wpAny M A (u acc) (fun q0 s''=>left C (Q .none) s'') E s'
theorem zS{M:Model}{A:Around}{E:Value->Shared->Prop}{s:Shared}{env:Env}{e:Expr}{scope:Scope}{pos:Pos}{newAcc first:Sem Value}{g:Comprehension}{gs:List Comprehension}{cl:List (Str × Addr)}{use:Option (Value->Sem Unit)}{Q:Value->Shared->Prop}
  (hcl:clausesOf e=g::gs) (hs:∀x,foldedSetIterable g.iter env x=pure x) (hclos:closureFor scope env=pure cl) (hkind:scope.kind=.function)
  (hnames:∀x∈scope.names,x.2=.local->scope.names.lookup x.1=some .local)
  (h:wpAny M A first (fun x s₁=>wpAny M A (pyIter x) (fun it s₂=>wpAny M A newAcc (fun acc s₃=>wpAny M A (newFunctionEnv scope env.globals cl [] env.qual none .none (some env)) (fun cenv s₄=>
   codeAny M A (.compStart e 0 it acc { cenv with scope:=relabel scope env }) (rA M A E use Q acc cenv.locals) s₄) E s₃) E s₂) E s₁) E s) :
  wpAny M A (comprehension e scope env pos newAcc false first use) Q E s:=by
 unfold comprehension
 rw [hclos,hcl]
 refine wpAny_bind (wpAny_mono h (fun x s₁ h₁=>wpAny_bind (wpAny_standAt (wpAny_bind (wpAny_of_eq (hs x) (wpAny_bind (wpAny_holding (wpAny_mono h₁ (fun it s₂ h₂=>wpAny_standIf ?_) fun q0 q0 y=>y))))))) fun q0 q0 y=>y)
 refine wpAny_bind (wpAny_mono h₂ (fun acc s₃ h₃=>wpAny_bind (wpAny_pure (wpAny_bind (wpAny_mono h₃ (fun cenv s₄ h₄=>?_) fun q0 q0 y=>y)))) fun q0 q0 y=>y)
 dsimp only
 have kinds:∀y∈(scope.names.filter fun z=>(z.2 == .local||z.2 == .cell)&&z.1 != (".0" : Str)),y.2=.local->Env.kindOf { cenv with scope:=relabel scope env } y.1=some .local:=
  fun y hy hl=>lookup_relabel_local (hnames y (List.mem_filter.mp hy).1 hl)
 refine wpAny_holding (wpAny_bind (wpAny_attempt (wpAny_holding (wpAny_run (codeAny_mono h₄ fun r s' hr=>?_)))))
 cases r with
 | error z=>exact (show False by cases use <;> exact hr).elim
 | ok f=>
  cases use with
  | none=>
   obtain ⟨m,hn,hq⟩:left cenv.locals (Q acc) s':=hr
   exact wpAny_bind (wpAny_holding (wpAny_comp_letGo (cenv:={ cenv with scope:=relabel scope env }) hkind _ s' m (fun y hy=>kinds y (List.mem_reverse.mp hy)) hn fun h' m' hn' hs'=>wpAny_pure (hq h' m' hn' hs')))
  | some u=>
   have hr:wpAny M A (u acc) (fun q0 s''=>left cenv.locals (Q .none) s'') E s':=hr
   refine wpAny_bind (wpAny_rule (wpAny_bind (wpAny_holding (wpAny_mono hr (fun q0 s'' hr'=>?_) fun q0 q0 y=>y))))
   obtain ⟨m,hn,hq⟩:=hr'
   exact wpAny_bind (wpAny_comp_letGo (cenv:={ cenv with scope:=relabel scope env }) hkind _ s'' m (fun y hy=>kinds y (List.mem_reverse.mp ((List.mem_append.mp hy).elim List.mem_of_mem_drop List.mem_of_mem_take))) hn fun h' m' hn' hs'=>wpAny_pure (hq h' m' hn' hs'))
end
section
inductive dQ (T:List Str) (vs:aq):aq->List Nat->List (Str × NameKind)->Prop
 | nil:dQ T vs [] [] []
 | blk {i:Nat} {s:Str} {r:aq} {sl:List Nat} {ns:List (Str × NameKind)}:T[i]?=some s->dQ T vs r sl ns->dQ T vs ((i,.blk)::r) (0::sl) ((s,.local)::ns)
 | cel {i j:Nat} {s:Str} {r:aq} {sl:List Nat} {ns:List (Str × NameKind)}:T[i]?=some s->vs[j]?=some (i,.cel)->dQ T vs r sl ns->dQ T vs ((i,.cel)::r) ((j+2)::sl) ((s,.free)::ns)
 | glo {i:Nat} {s:Str} {r:aq} {sl:List Nat} {ns:List (Str × NameKind)}:T[i]?=some s->dQ T vs r sl ns->dQ T vs ((i,.glo)::r) (1::sl) ((s,.globalImplicit)::ns)
noncomputable def nq:SK->NameKind
 | .loc=>.local
 | .cel=>.free
 | .blk=>.local
 | .glo=>.globalImplicit
def Tv(vs:aq)(i n:Nat):SK->Prop
 | .loc=>False
 | .cel=>∃j,n=j+2/\vs[j]?=some (i,.cel)
 | .blk=>n=0
 | .glo=>n=1
theorem dQ.at_{T:List Str}(hT:T.Nodup){vs r:aq}{sl:List Nat}{ns:List (Str × NameKind)}(h:dQ T vs r sl ns)(nd:(r.map (·.1)).Nodup):∀{j i:Nat} {kd:SK},r[j]?=some (i,kd)->
  ∃s n,T[i]?=some s/\sl[j]?=some n/\ns.lookup s=some (nq kd)/\Tv vs i n kd:=by
 induction h with
 | nil=>intro j i kd e; simp at e
 | @blk i0 s0 r sl ns hs hr ih=>
  intro j i kd e
  cases j with
  | zero=>
   simp only [List.getElem?_cons_zero,Option.some.injEq,Prod.mk.injEq] at e
   obtain ⟨rfl,rfl⟩:=e
   exact ⟨s0,0,hs,rfl,by simp [nq],rfl⟩
  | succ j=>
   simp only [List.getElem?_cons_succ] at e
   obtain ⟨s,n,a,b,c,d⟩:=(ih (List.nodup_cons.mp nd).2 e)
   refine ⟨s,n,a,b,?_,d⟩
   have ne:i≠i0:=fun q=>(List.nodup_cons.mp nd).1 (List.mem_map.mpr ⟨_,List.mem_of_getElem? e,q⟩)
   rw [List.lookup_cons,show (s == s0)=false by simpa using fun q=>ne ((cF hT a hs).mp q)]; exact c
 | @cel i0 j0 s0 r sl ns hs hv hr ih=>
  intro j i kd e
  cases j with
  | zero=>
   simp only [List.getElem?_cons_zero,Option.some.injEq,Prod.mk.injEq] at e
   obtain ⟨rfl,rfl⟩:=e
   exact ⟨s0,j0+2,hs,rfl,by simp [nq],j0,rfl,hv⟩
  | succ j=>
   simp only [List.getElem?_cons_succ] at e
   obtain ⟨s,n,a,b,c,d⟩:=(ih (List.nodup_cons.mp nd).2 e)
   refine ⟨s,n,a,b,?_,d⟩
   have ne:i≠i0:=fun q=>(List.nodup_cons.mp nd).1 (List.mem_map.mpr ⟨_,List.mem_of_getElem? e,q⟩)
   rw [List.lookup_cons,show (s == s0)=false by simpa using fun q=>ne ((cF hT a hs).mp q)]; exact c
 | @glo i0 s0 r sl ns hs hr ih=>
  intro j i kd e
  cases j with
  | zero=>
   simp only [List.getElem?_cons_zero,Option.some.injEq,Prod.mk.injEq] at e
   obtain ⟨rfl,rfl⟩:=e
   exact ⟨s0,1,hs,rfl,by simp [nq],rfl⟩
  | succ j=>
   simp only [List.getElem?_cons_succ] at e
   obtain ⟨s,n,a,b,c,d⟩:=(ih (List.nodup_cons.mp nd).2 e)
   refine ⟨s,n,a,b,?_,d⟩
   have ne:i≠i0:=fun q=>(List.nodup_cons.mp nd).1 (List.mem_map.mpr ⟨_,List.mem_of_getElem? e,q⟩)
   rw [List.lookup_cons,show (s == s0)=false by simpa using fun q=>ne ((cF hT a hs).mp q)]; exact c
theorem dQ.mem{T:List Str}{vs r:aq}{sl:List Nat}{ns:List (Str × NameKind)}(h:dQ T vs r sl ns):∀{y:Str × NameKind},y∈ns->∃(j i:Nat) (kd:SK),r[j]?=some (i,kd)/\T[i]?=some y.1/\y.2=nq kd/\(y.2=.free->∃j0:Nat,vs[j0]?=some (i,SK.cel)):=by
 induction h with
 | nil=>intro y hy; simp at hy
 | blk hs hr ih=>
  intro y hy
  rcases List.mem_cons.mp hy with rfl | hy
  ·exact ⟨0,_,.blk,rfl,hs,rfl,by intro q; cases q⟩
  ·obtain ⟨j,i,kd,a,b⟩:=(ih hy); exact ⟨j+1,i,kd,by simpa using a,b⟩
 | cel hs hv hr ih=>
  intro y hy
  rcases List.mem_cons.mp hy with rfl | hy
  ·exact ⟨0,_,.cel,rfl,hs,rfl,fun q0=>⟨_,hv⟩⟩
  ·obtain ⟨j,i,kd,a,b⟩:=(ih hy); exact ⟨j+1,i,kd,by simpa using a,b⟩
 | glo hs hr ih=>
  intro y hy
  rcases List.mem_cons.mp hy with rfl | hy
  ·exact ⟨0,_,.glo,rfl,hs,rfl,by intro q; cases q⟩
  ·obtain ⟨j,i,kd,a,b⟩:=(ih hy); exact ⟨j+1,i,kd,by simpa using a,b⟩
theorem qU{env:Env}{s:Str}{names:List (Str × NameKind)}:(names.map fun (n,k)=>if (k == NameKind.free&&env.scope.kind == .function&&env.kindOf n == some .cell) then (n,NameKind.cell) else (n,k)).lookup s =
  (names.lookup s).map fun k=>if (k == NameKind.free&&env.scope.kind == .function&&env.kindOf s == some .cell) then .cell else k:=by
 induction names with
 | nil=>
  exact rfl
 | cons pq r ih=>
  obtain ⟨n,k⟩:=pq
  rw [List.map_cons,List.lookup_cons]
  have ih:=ih
  show List.lookup s ((if (k == NameKind.free&&env.scope.kind == .function&&env.kindOf n == some .cell)=true then (n,NameKind.cell) else (n,k))::_)=_
  cases q:s == n with
  | true=>
   have e:s=n:=by simpa using q
   subst e
   split
   ·next c=>rw [List.lookup_cons,List.lookup_cons]; simp only [beq_self_eq_true,Option.map_some,if_pos c]
   ·next c=>rw [List.lookup_cons,List.lookup_cons]; simp only [beq_self_eq_true,Option.map_some,if_neg c]
  | false=>
   split <;> simp only [List.lookup_cons,q,ih]
theorem yd{scope:Scope}{env:Env}(h:∀y∈scope.names,y.2=.free->∃a,env.cells.lookup y.1=some a) :
  ∃cl,closureFor scope env=pure cl/\∀y∈scope.names,y.2=.free->∀a,env.cells.lookup y.1=some a->cl.lookup y.1=some a:=by
 have go:∀(ns:List (Str × NameKind)) (acc:List (Str × Addr)),(∀y∈ns,y.2=.free->∃a,env.cells.lookup y.1=some a)->(∀s b,acc.lookup s=some b->env.cells.lookup s=some b)->
   ∃cl,(forIn ns acc fun (p:Str × NameKind) (cs:List (Str × Addr))=>(if (p.2 == NameKind.free)=true then do let a <- cellOf env p.1; pure (ForInStep.yield ((p.1,a)::cs)) else pure (ForInStep.yield cs):Sem _))=pure cl/\
    (∀s b,cl.lookup s=some b->env.cells.lookup s=some b)/\∀s,((acc.lookup s).isSome=true∨(s,NameKind.free)∈ns)->(cl.lookup s).isSome=true:=by
  intro ns
  induction ns with
  | nil=>intro acc _ ha; exact ⟨acc,rfl,ha,fun s q=>q.elim id fun z=>by simp at z⟩
  | cons p r ih=>
   intro acc hn ha
   obtain ⟨n,k⟩:=p
   have hr:∀y∈r,y.2=.free->∃a,env.cells.lookup y.1=some a:=fun y hy=>hn y (.tail _ hy)
   by_cases e:k=.free
   ·subst e
    obtain ⟨a,hc⟩:=(hn (n,.free) (.head _) rfl)
    obtain ⟨cl,c1,c2,c3⟩:=ih ((n,a)::acc) hr (fun s b hb=>by
     rw [List.lookup_cons] at hb
     cases q:s == n with
     | true=>
      rw [q] at hb
      cases hb
      have:s=n:=by simpa using q
      subst this
      exact hc
     | false=>rw [q] at hb; exact ha s b hb)
    refine ⟨cl,?_,c2,fun s q=>c3 s ?_⟩
    ·rw [List.forIn_cons]
     have:cellOf env n=pure a:=by unfold cellOf; rw [hc]
     simp only [this,beq_self_eq_true,if_true,pure_bind]
     exact c1
    ·rw [List.lookup_cons]
     cases z:s == n with
     | true=>exact .inl rfl
     | false=>
      rcases q with q | q
      ·exact .inl q
      ·rcases List.mem_cons.mp q with q | q
       ·cases q; simp at z
       ·exact .inr q
   ·obtain ⟨cl,c1,c2,c3⟩:=(ih acc hr ha)
    refine ⟨cl,?_,c2,fun s q=>c3 s ?_⟩
    ·rw [List.forIn_cons]
     have:(k == NameKind.free)=false:=by simpa using e
     simp only [this,Bool.false_eq_true,if_false,pure_bind]
     exact c1
    ·rcases q with q | q
     ·exact .inl q
     ·rcases List.mem_cons.mp q with q | q
      ·cases q; exact absurd rfl e
      ·exact .inr q
 obtain ⟨cl,c1,c2,c3⟩:=(go scope.names [] h (by intro s b hb; simp at hb))
 refine ⟨cl,?_,fun y hy hk a ha=>?_⟩
 ·have e:closureFor scope env=((forIn scope.names [] fun (p:Str × NameKind) (cs:List (Str × Addr))=>(if (p.2 == NameKind.free)=true then do let a <- cellOf env p.1; pure (ForInStep.yield ((p.1,a)::cs)) else pure (ForInStep.yield cs):Sem _)) >>= fun cs=>pure cs):=rfl
  rw [e,c1]
  rfl
 ·obtain ⟨n,k⟩:=y
  have hk:k=.free:=hk
  subst hk
  obtain ⟨b,hb⟩:=(Option.isSome_iff_exists.mp (c3 n (.inr hy)))
  have:=c2 n b hb
  rw [ha] at this
  cases this
  exact hb
end
section
section
variable {x:aQ} {d:Nat} {vs:aq} {J:az} {H:Tr} {nx:Nat} {R:Rn} {O:Heap} {L:Addr} {m:Str->Option Value} {s:Shared} {A:Around} {E:Value->Shared->Prop} {env:Env} {loc:List GV}
def yJ(x:aQ)(d:Nat)(vs:aq)(f:AV)(t:Expr):Prop:=
 ∀g H nx R loc k,f g H nx R loc k=true->∀(A:Around) (env:Env) (O:Heap) (L:Addr) (m:Str->Option Value) (J:az) (s:Shared) (v:Value) (Q:Unit->Shared->Prop) (E:Value->Shared->Prop),
  cj x d A O L->bP env L->St x J H nx R O L m s->bq x J env L m vs loc->Is x.T J g v->(∀J' H nx R s,J.le J'->St x J' H nx R O L m s->k H nx R loc=true->Q () s)->wpAny (model x.prog x.w) A (assign t env v) Q E s
theorem eC(hT:x.T.Nodup){j i:Nat}{t:Str}(hv:vs[j]?=some (i,.blk))(ht:x.T[i]?=some t)(pos:Pos):yJ x d vs (kh j i) (.Name t pos):=by
 intro g H nx R loc k h A env O L m J s v Q E Hh En S Lo iv hQ
 symm
 obtain ⟨q0,h1⟩:=cP h
 obtain ⟨c,hc,h2⟩:=bn h1
 obtain ⟨es,hg,h3⟩:=mW h2
 obtain ⟨es',h4,hes⟩:=(Gs h3)
 obtain ⟨H',hA,h5⟩:=Tr.set_ok _ _ _ _ _ h4
 obtain ⟨t',ht',hd,k1,c',k2,k3⟩:=(Lo j i .blk hv)
 symm
 rw [ht] at ht'; cases ht'
 rw [hc] at k2; cases k2
 symm
 obtain ⟨o,o1,q0,q0,o2⟩:=(S.led.obj k3)
 rw [hg] at o2
 obtain ⟨mm,q,hm⟩:=o2
 obtain ⟨ds,ep,e1,e2,e3⟩:=q
 symm
 refine wpAny_assign_Name (wpAny_storeName_local (m:=mm) k1 ⟨o,ds,ep,o1,e1,e2,e3⟩ (fun h' hn hsb=>?_) (by rw [En.kind]; rfl))
 symm
 obtain ⟨o',ds',ep',f1,f2,f3,f4⟩:=hn
 symm
 refine hQ J H' nx R _ (.refl _) (S.upd k3 hsb f1 (.ns (m:=fun y=>if y=t then some v else mm y) ⟨ds',ep',f2,f3,f4⟩ fun b g' hb=>?_) hA (s.toks+1)) h5
 rw [hes] at hb
 by_cases e:b=i
 ·rw [if_pos e] at hb; cases hb
  subst e
  exact ⟨t,v,ht,if_pos rfl,iv⟩
 ·rw [if_neg e] at hb
  symm
  obtain ⟨y,v',b1,b2,b3⟩:=(hm b g' hb)
  symm
  have ne:y≠t:=fun z=>e ((cF hT b1 ht).mp z)
  exact ⟨y,v',b1,by show (if y=t then _ else _)=_; rw [if_neg ne]; exact b2,b3⟩
def kN(x:aQ)(d:Nat)(vs:aq)(t:TV)(ifs:List Expr):Prop:=(ifs=[]/\t=fun H nx R loc k=>k true H nx R)∨∃c,ifs=[c]/\dZ x d vs t c
noncomputable def nO:TV:=fun H nx R loc k=>k true H nx R
theorem jE:kN x d vs nO []:=.inl ⟨rfl,rfl⟩
theorem gS{t:TV}{c:Expr}(h:dZ x d vs t c):kN x d vs t [c]:=.inr ⟨c,rfl,h⟩
theorem IM{t:TV}{ifs:List Expr}(hi:kN x d vs t ifs){k:KB}(h:t H nx R loc k=true)(Hh:cj x d A O L)(En:bP env L)(S:St x J H nx R O L m s)(Lo:bq x J env L m vs loc){Q:Bool->Shared->Prop}(hQ:nt x J O L m k Q) :
  wpAny (model x.prog x.w) A (forIn ifs true fun c (r:Bool)=>if r=true then do let ok <- isTrue c env (eval c env); pure (ForInStep.yield ok) else pure (ForInStep.yield r)) Q E s:=by
 rcases hi with ⟨rfl,rfl⟩ | ⟨c,rfl,hc⟩
 ·exact wpAny_pure (hQ J H nx R s true (.refl _) S h)
 ·rw [List.forIn_cons]
  refine wpAny_bind ?_
  rw [if_pos rfl]
  exact wpAny_bind (hc H nx R loc k h A env O L m J s _ E Hh En S Lo fun J' H' nx' R' s' b le S' hk=>wpAny_pure (wpAny_pure (hQ J' H' nx' R' s' b le S' hk)))
theorem Az{elt target iter:Expr}{ifs:List Expr}{scope:Scope}{pos:Pos}{it acc:Value}{Rr:Result->Shared->Prop}(I:Nat->Shared->Prop)
  (turn:∀n s,I n s->∀N:Value->Shared->Prop,wpAny (model x.prog x.w) A (pyNext it) (fun r s₁=>match r with
   | none=>Rr (.ok .next) s₁
   | some v=>wpAny (model x.prog x.w) A (letOwnedTupleGo target it v) (fun q0 s₁'=>wpAny (model x.prog x.w) A (assign target env v) (fun q0 s₂=>
    wpAny (model x.prog x.w) A (forIn ifs true fun c (r:Bool)=>if r=true then do let ok <- isTrue c env (eval c env); pure (ForInStep.yield ok) else pure (ForInStep.yield r)) (fun ok s₃=>
     if ok=true then wpAny (model x.prog x.w) A (eval elt env) (fun y s₄=>wpAny (model x.prog x.w) A (call (.builtin "list.append") [acc,y]) (fun q0 s₅=>∃m,m<n/\I m s₅) N s₄) N s₃ else ∃m,m<n/\I m s₃) N s₂) N s₁') N s₁) N s)
  (n:Nat) (h:I n s):codeAny (model x.prog x.w) A (.compLoop (.ListComp elt [⟨target,iter,ifs,0⟩] scope pos) 0 it acc env) Rr s:=by
 refine codeAny_loop rfl I (fun n s hI=>?_) n h
 show wpAny _ _ ((compTurn (.ListComp elt [⟨target,iter,ifs,0⟩] scope pos) 0 it acc env).onRaise (fun x=>do noteFrame x env; theTreesLotGoes x)) _ _ s
 refine wpAny_noted ?_
 rw [compTurn_list]
 refine wpAny_bind (wpAny_standAt (wpAny_bind (wpAny_mono (turn n s hI _) (fun r s₁ h₁=>?_) fun q0 q0 h'=>h')))
 cases r with
 | none=>exact wpAny_pure h₁
 | some v=>
  refine wpAny_bind (wpAny_mono h₁ (fun q0 s₁' h₁'=>wpAny_bind (wpAny_mono h₁' (fun q0 s₂ h₂=>wpAny_bind (wpAny_mono h₂ (fun ok s₃ h₃=>?_) fun q0 q0 h'=>h')) fun q0 q0 h'=>h')) fun q0 q0 h'=>h')
  cases ok with
  | true=>
   rw [if_pos rfl] at h₃
   exact wpAny_bind (wpAny_bind (wpAny_mono h₃ (fun y s₄ h₄=>wpAny_bind (wpAny_mono h₄ (fun q0 s₅ h₅=>wpAny_pure (wpAny_pure ⟨rfl,h₅⟩)) fun q0 q0 h'=>h')) fun q0 q0 h'=>h'))
  | false=>exact wpAny_pure ⟨rfl,by rwa [if_neg (by decide)] at h₃⟩
end
end
section
section
variable {x:aQ} {d:Nat} {vs:aq} {J:az} {H:Tr} {nx:Nat} {R:Rn} {O:Heap} {L:Addr} {m:Str->Option Value} {s:Shared} {A:Around} {E:Value->Shared->Prop} {env:Env} {loc:List GV}
def lU(sl:List Nat)(c:GV)(loc:List GV):List GV:=@List.rec Nat (fun q0=>List GV) [] (fun n q0 ih=>(@Nat.rec (fun q0=>GV) c (fun n q0=>@Nat.rec (fun q0=>GV) .nul (fun j q0=>ba loc j) n) n)::ih) sl
theorem xn(c:GV)(loc:List GV):∀{sl:List Nat} {j n:Nat},sl[j]?=some n->ba (lU sl c loc) j=@Nat.rec (fun q0=>GV) c (fun n q0=>@Nat.rec (fun q0=>GV) .nul (fun j q0=>ba loc j) n) n
 | [],j,n,h=>by simp at h
 | a::r,0,n,h=>by simp at h; subst h; rfl
 | a::r,j+1,n,h=>xn c loc (sl:=r) (by simpa using h)
abbrev zf:=Tr->Nat->Rn->Bool
def Ec(a:AV)(t:TV)(e:EV)(i acc:Nat)(loc:List GV)(k:zf)(n:Nat):zf:=@Nat.rec (fun q0=>zf) (fun q0 q0 q0=>false)
 (fun q0 ih H nx R=>mw i H (fun g H=>a g H nx R loc fun H nx R q0=>t H nx R loc fun c H nx R=>@Bool.rec (fun q0=>Bool) (ih H nx R) (e H nx R loc fun y H nx R=>fR acc [y] H nx R fun q0 H nx R=>ih H nx R) c) fun H=>k H nx R) n
def yC(sl:List Nat)(f:EV)(a:AV)(t:TV)(e:EV)(kend:Nat->Nat->zf)(H:Tr)(nx:Nat)(R:Rn)(loc:List GV):Bool:=
 f H nx R loc fun g H nx R=>sT g H nx R fun it H nx R=>bU it fun i=>mk (.list []) H nx R fun acc H nx R=>bU acc fun ai=>mk (.ns []) H nx R fun c H nx R=>bU c fun ci=>@Bool.rec (fun q0=>Bool) false (fL (lU sl c loc) fun loc'=>Ec a t e i ai loc' (kend ai ci) 64 H nx R) (kP (H.get i) (fun q0 q0=>true) fun q0 q0=>true)
theorem wj{scope:Scope}{cl:List (Str × Addr)}{g:Addr}{qual:Str}{M:Model}{Q:Env->Shared->Prop}(hc:∀y∈scope.names,y.2≠.cell)
  (hQ:Q (newEnv scope s.heap.objs.size g cl qual none .none (some env) builtinsNs) { s with heap:=s.heap.push { cls:=.type "dict",data:=.dict #[] } }):wpAny M A (newFunctionEnv scope g cl [] qual none .none (some env)) Q E s:=by
 simp only [newFunctionEnv,Option.isSome_some,if_true]
 refine wpAny_bind (wpAny_alloc ?_)
 rw [forIn_yield_id cl (fun y hy c=>by
  obtain ⟨name,kind⟩:=y
  have:(kind == NameKind.cell)=false:=by simpa using hc _ hy
  simp only [this,Bool.false_eq_true,if_false])]
 exact wpAny_bind (wpAny_pure (wpAny_bind (wpAny_pure (wpAny_pure hQ))))
theorem tL{k:KV}{Q:Value->Shared->Prop}(h:mk (.list []) H nx R k=true)(S:St x J H nx R O L m s)(hQ:fj x J O L m k Q):wpAny (model x.prog x.w) A (newList []) Q E s:=
 wpAny_newObj_type (gM (Q:=Q) h S hQ rfl (fun J' le=>.list (vs:=[]) 0 .nil) s.toks)
theorem we{k:KV}{scope:Scope}{cl:List (Str × Addr)}{g:Addr}{qual:Str}{Q:Env->Shared->Prop}(hc:∀y∈scope.names,y.2≠.cell)(h:mk (.ns []) H nx R k=true)(S:St x J H nx R O L m s)
  (hQ:fj x J O L m k fun v s'=>∀C,v=.ref C->Q (newEnv scope C g cl qual none .none (some env) builtinsNs) s'):wpAny (model x.prog x.w) A (newFunctionEnv scope g cl [] qual none .none (some env)) Q E s:=
 wj hc (gM (o:={ cls:=.type "dict",data:=.dict #[] }) h S hQ rfl (fun J' le=>.ns (m:=fun q0=>none) ⟨#[],0,rfl,(by intro e he; simp at he),fun q0=>rfl⟩ (by intro i g q; simp at q)) s.toks _ rfl)
theorem bq.inner{vs':aq}{sl:List Nat}{scope:Scope}{cl:List (Str × Addr)}(hT:x.T.Nodup)(hD:("__debug__" : Str)∉x.T)(hc:dQ x.T vs vs' sl scope.names)(nd:(vs'.map (·.1)).Nodup)(En:bP env L)(Lo:bq x J env L m vs loc){C:Addr}{ci:Nat}(hC:J.as[ci]?=some C)
  (hcl:∀y∈scope.names,y.2=.free->∀a,env.cells.lookup y.1=some a->cl.lookup y.1=some a):bq x J (compEnvC scope cl C env) L m vs' (lU sl (.own ci) loc):=by
 intro j i kd hj
 obtain ⟨t,n,ht,hn,hk,hs⟩:=(hc.at_ hT nd hj)
 have ek:(compEnvC scope cl C env).kindOf t=(scope.names.lookup t).map fun k=>if (k == NameKind.free&&env.scope.kind == .function&&env.kindOf t == some .cell) then .cell else k:=qU
 rw [hk] at ek
 refine ⟨t,ht,?_,?_⟩
 ·rw [beq_eq_false_iff_ne]; intro q; rw [<- q] at hD; exact hD (List.mem_of_getElem? ht)
 ·rw [xn _ _ hn]
  cases kd with
  | loc=>exact hs.elim
  | blk=>
   cases hs
   exact ⟨ek,ci,rfl,hC⟩
  | glo=>exact ek
  | cel=>
   obtain ⟨j0,rfl,hv⟩:=hs
   obtain ⟨t',ht',q0,k1,k,a,k2,k3,k4⟩:=(Lo j0 i .cel hv)
   rw [ht] at ht'; cases ht'
   refine ⟨?_,k,a,k2,k3,hcl (t,.free) ?_ rfl a k4⟩
   ·rw [ek,k1,En.kind]; rfl
   ·have:=List.lookup_eq_some_iff.mp hk
    obtain ⟨l1,l2,e,q0⟩:=this
    rw [e]; simp [nq]
theorem bP.inner{scope:Scope}{cl:List (Str × Addr)}{C:Addr}(hk:scope.kind=.function)(En:bP env L):bP (compEnvC scope cl C env) L:=⟨En.glob,En.bui,hk,En.frame⟩
theorem rW{f:EV}{a:AV}{t:TV}{e:EV}{target iter elt:Expr}{ifs:List Expr}{scope:Scope}{pos:Pos}{vs':aq}{sl:List Nat}{kend:Nat->Nat->zf}{use:Option (Value->Sem Unit)}{Q:Value->Shared->Prop}
  (hT:x.T.Nodup) (hD:("__debug__" : Str)∉x.T) (hf:aK x d vs f iter) (ha:yJ x d vs' a target) (ht:kN x d vs' t ifs) (he:aK x d vs' e elt) (hn:jS iter=true) (hc:dQ x.T vs vs' sl scope.names) (nd:(vs'.map (·.1)).Nodup) (hk:scope.kind=.function)
  (h:yC sl f a t e kend H nx R loc=true) (Hh:cj x d A O L) (En:bP env L) (S:St x J H nx R O L m s) (Lo:bq x J env L m vs loc)
  (hend:∀J' H nx R s' ai ci aa ca,J.le J'->St x J' H nx R O L m s'->J'.as[ai]?=some aa->J'.as[ci]?=some ca->kend ai ci H nx R=true->rA (model x.prog x.w) A E use Q (.ref aa) ca (.ok .next) s') :
  wpAny (model x.prog x.w) A (comprehension (.ListComp elt [⟨target,iter,ifs,0⟩] scope pos) scope env (firstIterPos [⟨target,iter,ifs,0⟩] pos) (newList []) false (eval iter env) use) Q E s:=by
 revert hT hD hf ha ht he hn hc nd hk h Hh En S Lo hend
 revert f a t e target iter elt ifs scope pos vs' sl use
 revert E
 revert Q
 revert s
 revert J
 revert m
 revert L
 revert O
 revert env
 revert A
 revert kend
 revert loc
 revert R
 revert nx
 revert H
 revert vs
 revert d
 revert x
 refine @pD _ _ _ _ ?_
 generalize (dk _ _).x=x,(dk _ _).d=d,(dk _ _).vs=vs,(dk _ _).H=H,(dk _ _).nx=nx,(dk _ _).R=R,(dk _ _).loc=loc,(dk _ _).k=kend,(dk _ _).A=A,(dk _ _).env=env,(dk _ _).O=O,(dk _ _).L=L,(dk _ _).m=m,(dk _ _).J=J,(dk _ _).s=s,(dk _ _).Q=Q,(dk _ _).E=E
 intro f a t e target iter elt ifs scope pos vs' sl use
 intro hT hD hf ha ht he hn hc nd hk h Hh En S Lo hend
 obtain ⟨cl,cl1,cl2⟩:=yd (scope:=scope) (env:=env) fun y hy hf=>by
  obtain ⟨j,i,kd,a1,a2,a3,a4⟩:=(hc.mem hy)
  obtain ⟨j0,h0⟩:=(a4 hf)
  obtain ⟨t',ht',q0,k1,k,a,k2,k3,k4⟩:=(Lo j0 i .cel h0)
  rw [a2] at ht'; cases ht'
  exact ⟨a,k4⟩
 refine zS (gs:=[]) rfl (fun y=>gd hn _ y) cl1 hk (fun y hy hl=>?_) (hf H nx R loc _ h A env O L m J s _ E Hh En S Lo fun J1 H1 nx1 R1 s1 g1 v1 le1 S1 i1 h1=>?_)
 ·obtain ⟨j,i,kd,a1,a2,a3,q0⟩:=(hc.mem hy)
  symm
  obtain ⟨t',n,ht',q0,hk',q0⟩:=(hc.at_ hT nd a1)
  symm
  rw [a2] at ht'; cases ht'
  rw [hk',<- a3,hl]
 refine nN g1 H1 nx1 R1 _ h1 A O L m J1 s1 v1 _ E Hh S1 i1 fun J2 H2 nx2 R2 s2 g2 v2 le2 S2 i2 h2=>?_
 symm
 obtain ⟨i,rfl,h2b⟩:=bn h2
 obtain ⟨ad,rfl,hi⟩:=i2
 symm
 refine tL h2b S2 fun J3 H3 nx3 R3 s3 g3 v3 le3 S3 i3 h3=>?_
 symm
 obtain ⟨ai,rfl,h3b⟩:=bn h3
 obtain ⟨aa,rfl,haa⟩:=i3
 symm
 refine we (fun y hy q=>?_) h3b S3 fun J4 H4 nx4 R4 s4 g4 v4 le4 S4 i4 h4 C hC=>?_
 ·obtain ⟨j,i,kd,q0,q0,z,q0⟩:=(hc.mem hy)
  rw [q] at z; cases kd <;> cases z
 subst hC
 symm
 obtain ⟨ci,rfl,h4b⟩:=bn h4
 obtain ⟨hit,h4⟩:=aJ h4b
 obtain ⟨q0,hq,hca⟩:=i4
 cases hq
 symm
 rw [nh] at h4
 have En':bP (compEnvC scope cl C env) L:=En.inner hk
 have Lo4:=(((Lo.more le1).more le2).more le3).more le4
 have Lo':=bq.inner hT hD hc nd En Lo4 hca cl2
 have aa4:=aF le4.1 haa
 have ad4:=aF (le3.trans le4).1 hi
 have le:=((le1.trans le2).trans le3).trans le4
 have loop:∀s5,St x J4 H4 nx4 R4 O L m s5->codeAny (model x.prog x.w) A (.compLoop (.ListComp elt [⟨target,iter,ifs,0⟩] scope pos) 0 (.ref ad) (.ref aa) (compEnvC scope cl C env)) (rA (model x.prog x.w) A E use Q (.ref aa) C) s5:=fun s5 S5=>by
  refine Az (fun n s=>∃J' H nx R,J4.le J'/\St x J' H nx R O L m s/\Ec a t e i ai (lU sl (.own ci) loc) (kend ai ci) n H nx R=true) (fun n s6 hI N=>?_) 64 ⟨J4,H4,nx4,R4,.refl _,S5,h4⟩
  obtain ⟨J6,H6,nx6,R6,le6,S6,h6⟩:=hI
  cases n with
  | zero=>cases h6
  | succ n=>
   have h6:mw i H6 (fun g H=>a g H nx6 R6 (lU sl (.own ci) loc) fun H nx R q0=>t H nx R (lU sl (.own ci) loc) fun c H nx R=>@Bool.rec (fun q0=>Bool) (Ec a t e i ai (lU sl (.own ci) loc) (kend ai ci) n H nx R) (e H nx R (lU sl (.own ci) loc) fun y H nx R=>fR ai [y] H nx R fun q0 H nx R=>Ec a t e i ai (lU sl (.own ci) loc) (kend ai ci) n H nx R) c) (fun H=>kend ai ci H nx6 R6)=true:=h6
   refine sb h6 Hh.hnd S6 (aF le6.1 ad4) (fun g H' s' v hk' S' iv no=>?_) fun H' s' hk' S'=>?_
   ·refine lZ no ?_
    refine ha g H' nx6 R6 _ _ hk' A _ O L m J6 s' v _ _ Hh En' S' (Lo'.more le6) iv fun J7 H7 nx7 R7 s7 le7 S7 h7=>?_
    refine IM ht h7 Hh En' S7 ((Lo'.more le6).more le7) fun J8 H8 nx8 R8 s8 c le8 S8 h8=>?_
    have l8:=(le6.trans le7).trans le8
    cases c with
    | false=>exact ⟨n,Nat.lt_succ_self n,J8,H8,nx8,R8,l8,S8,h8⟩
    | true=>
     show (if true=true then _ else _)
     rw [if_pos rfl]
     refine he H8 nx8 R8 _ _ h8 A _ O L m J8 s8 _ _ Hh En' S8 (Lo'.more l8) fun J9 H9 nx9 R9 s9 g9 v9 le9 S9 i9 h9=>?_
     exact dz ai [g9] H9 nx9 R9 _ h9 A O L m J9 s9 aa [v9] _ _ Hh S9 (aF (l8.trans le9).1 aa4) (.cons i9 .nil) fun Ja Ha nxa Ra sa ga va lea Sa ia ha'=>⟨n,Nat.lt_succ_self n,Ja,Ha,nxa,Ra,(l8.trans le9).trans lea,Sa,ha'⟩
   ·exact hend J6 H' nx6 R6 s' ai ci aa C (le.trans le6) S' (aF le6.1 aa4) (aF le6.1 hca) hk'
 refine codeAny_compStart_list (loop _ S4) ?_
 symm
 obtain ⟨o,o1,q0,q0,o2⟩:=(S4.led.obj ad4)
 symm
 rcases jd hit with ⟨j,n,e,_⟩ | ⟨j,n,e,_⟩
 ·rw [e] at o2
  symm
  obtain ⟨q0,hj,hcl,hd⟩:=o2
  symm
  exact wpAny_pyIter_listiter ⟨o,o1,hcl,hd⟩ (loop _ S4)
 ·rw [e] at o2
  have ho:_=_:=o2.inv
  subst ho; exact wpAny_pyIter_rangeiter (show IsRangeIter _ _ _ _ _ from o1) (loop _ S4)
end
end
section
section
variable {x:aQ} {d:Nat} {vs:aq} {J:az} {H:Tr} {nx:Nat} {R:Rn} {O:Heap} {L:Addr} {m:Str->Option Value} {s:Shared} {A:Around} {E:Value->Shared->Prop} {env:Env} {loc:List GV}
structure dU (x:aQ) (d:Nat) (vs vs':aq) (sl:List Nat) (f:EV) (a:AV) (t:TV) (e:EV) (elt target iter:Expr) (ifs:List Expr) (scope:Scope):Prop where
 hT:x.T.Nodup
 hD:("__debug__" : Str)∉x.T
 hf:aK x d vs f iter
 ha:yJ x d vs' a target
 ht:kN x d vs' t ifs
 he:aK x d vs' e elt
 hn:jS iter=true
 hc:dQ x.T vs vs' sl scope.names
 nd:(vs'.map (·.1)).Nodup
 hk:scope.kind=.function
theorem xj{ci:Nat}{ca:Addr}{es:List (Nat × GV)}{H':Tr}(S:St x J H nx R O L m s)(hc:J.as[ci]?=some ca)(hg:H.get ci=.ns es)(hA:At H H' ci .junk){P:Shared->Prop}(hP:∀s',St x J H' nx R O L m s'->P s'):left ca P s:=by
 obtain ⟨o,o1,q0,q0,o2⟩:=(S.led.obj hc)
 rw [hg] at o2
 obtain ⟨mm,q,hm⟩:=o2
 obtain ⟨ds,ep,e1,e2,e3⟩:=q
 refine ⟨mm,⟨o,ds,ep,o1,e1,e2,e3⟩,fun h' m' hn hsb=>?_⟩
 obtain ⟨o',q0,q0,ho',q0⟩:=hn
 exact hP _ (S.drop hc hsb.extBut ⟨o',ho'⟩ hA s.toks)
def gu(sl:List Nat)(f:EV)(a:AV)(t:TV)(e:EV):EV:=fun H nx R loc k=>yC sl f a t e (fun ai ci H nx R=>vf (H.get ci) fun q0=>H.set 24 ci .junk fun H=>k (.own ai) H nx R) H nx R loc
theorem dR{vs':aq}{sl:List Nat}{f:EV}{a:AV}{t:TV}{e:EV}{elt target iter:Expr}{ifs:List Expr}{scope:Scope}(c:dU x d vs vs' sl f a t e elt target iter ifs scope)(pos:Pos) :
  aK x d vs (gu sl f a t e) (.ListComp elt [⟨target,iter,ifs,0⟩] scope pos):=by
 intro H nx R loc k h A env O L m J s Q E Hh En S Lo hQ
 rw [eval_ListComp]
 refine rW (use:=none) c.hT c.hD c.hf c.ha c.ht c.he c.hn c.hc c.nd c.hk h Hh En S Lo fun J' H' nx' R' s' ai ci aa ca le S' h1 h2 h3=>?_
 obtain ⟨es,hg,h4⟩:=mW h3
 obtain ⟨H'',hA,h5⟩:=Tr.set_ok _ _ _ _ _ h4
 exact xj S' h2 hg hA fun s'' S''=>hQ J' H'' nx' R' s'' (.own ai) (.ref aa) le S'' (.own h1) h5
def C5(j:Nat)(sl:List Nat)(f:EV)(a:AV)(t:TV)(e:EV)(r:SV):SV:=fun H nx R loc k=>yC sl f a t e (fun ai ci H nx R=>bu j (.own ai) H nx R loc fun H nx R loc=>vf (H.get ci) fun q0=>H.set 24 ci .junk fun H=>r H nx R loc k) H nx R loc
theorem zq{t:Str}{p pos:Pos}{elt:Expr}{gens:List Comprehension}{scope:Scope}{line:Nat}(hk:env.kindOf t=some .local)(hf:env.scope.kind=.function)(hl:(p.line == pos.line)=true)(hs:(scope.names.any fun (n,k)=>n == t&&(k == .local||k == .cell))=false) :
  swapsWith (.ListComp elt gens scope pos) (some (.Name t p)) line env=pure true:=by
 unfold swapsWith
 simp only [hs,hk,show (Expr.ListComp elt gens scope pos).pos=pos from rfl,hl]
 rw [show (env.blockKind == ScopeKind.function)=true by unfold Env.blockKind; rw [hf]; rfl]
 rfl
theorem wy{vs':aq}{sl:List Nat}{f:EV}{a:AV}{t:TV}{e:EV}{elt target iter:Expr}{ifs:List Expr}{scope:Scope}(c:dU x d vs vs' sl f a t e elt target iter ifs scope)(hs:aA x vs){j i:Nat}{n:Str}(hv:vs[j]?=some (i,.loc))(hn:x.T[i]?=some n)
  (ho:(vs'.any fun q=>q.1 == i)=false) {r:SV} {rest:List Stmt} (hr:au x d vs r rest) (p pos pos':Pos) (hl:(p.line == pos.line)=true):au x d vs (C5 j sl f a t e r) (.Assign [.Name n p] (.ListComp elt [⟨target,iter,ifs,0⟩] scope pos) pos'::rest):=by
 intro H nx R loc k h A env O L m J s Q E Hh En S Lo hQ
 refine ec hr Hh En hQ ?_
 obtain ⟨n',hn',q0,q1,q2,q3⟩:=(Lo j i .loc hv)
 rw [hn] at hn'; cases hn'
 have hany:(scope.names.any fun (y,k)=>y == n&&(k == .local||k == .cell))=false:=by
  rw [List.any_eq_false]
  intro y hy q
  obtain ⟨j',i',kd,a1,a2,q0,q0⟩:=(c.hc.mem hy)
  obtain ⟨y1,y2⟩:=y
  have e1:y1=n:=by
   have:=(Bool.and_eq_true_iff.mp q).1
   exact eq_of_beq this
  subst e1
  have:=(cF c.hT a2 hn).mp rfl
  subst this
  rw [List.any_eq_false] at ho
  exact ho _ (List.mem_of_getElem? a1) (by simp)
 rw [exec_Assign_Name_used _ _ _ _ (zq q2 En.kind hl hany)]
 refine wpAny_bind (wpAny_standAt (wpAny_bind ?_))
 have e2:evalThenUse (.ListComp elt [⟨target,iter,ifs,0⟩] scope pos) env (assign (.Name n p) env)=(do
  let _ <- comprehension (.ListComp elt [⟨target,iter,ifs,0⟩] scope pos) scope env (firstIterPos [⟨target,iter,ifs,0⟩] pos) (newList []) (firstAsync [⟨target,iter,ifs,0⟩]) (firstIter [⟨target,iter,ifs,0⟩] env) (some (assign (.Name n p) env))):=rfl
 rw [e2]
 refine wpAny_bind (rW (use:=some (assign (.Name n p) env)) (Q:=fun q0 s'=>wpAny (model x.prog x.w) A (pure PUnit.unit) _ E s') c.hT c.hD c.hf c.ha c.ht c.he c.hn c.hc c.nd c.hk h Hh En S Lo fun J' H' nx' R' s' ai ci aa ca le S' h1 h2 h3=>?_)
 show wpAny _ _ (assign (.Name n p) env (.ref aa)) _ _ _
 refine wpAny_assign_Name (oM hs hv hn h3 S' (Lo.more le) En (.own h1) fun J2 H2 nx2 R2 loc2 m2 s2 le2 S2 Lo2 h4=>?_)
 obtain ⟨es,hg,h5⟩:=mW h4
 obtain ⟨H'',hA,h6⟩:=Tr.set_ok _ _ _ _ _ h5
 exact xj S2 (aF le2.1 h2) hg hA fun s'' S''=>wpAny_pure (wpAny_pure (ef (le.trans le2) S'' Lo2 h6))
theorem ug{f:EV}{r:SV}{e:Expr}{rest:List Stmt}{j i:Nat}{n:Str}(hv:vs[j]?=some (i,.cel))(hn:x.T[i]?=some n)(p:Pos){a:AV}(ha:dP x d vs a (.Name n p))(hf:aK x d vs f e)(hr:au x d vs r rest)(pos:Pos):au x d vs (aB a f r) (.Assign [.Name n p] e pos::rest):=by
 intro H nx R loc k h A env O L m J s Q E Hh En S Lo hQ
 refine ec hr Hh En hQ ?_
 obtain ⟨n',hn',q0,q1,q0⟩:=(Lo j i .cel hv)
 rw [hn] at hn'; cases hn'
 have sw:swapsWith e (some (.Name n p)) pos.line env=pure false:=by
  have nl:(NameKind.cell == NameKind.local)=false:=rfl
  clear hf
  cases e <;> first | rfl | (unfold swapsWith; simp only [q1,nl,Bool.and_false,Bool.false_and,Option.some_beq_some])
 refine wpAny_Assign_stores (hf H nx R loc _ h A env O L m J s _ E Hh En S Lo fun J1 H1 nx1 R1 s1 g v le1 S1 i1 hk=>?_) sw rfl
 rw [cT rfl env]
 exact ha g H1 nx1 R1 loc _ hk A env O L m J1 s1 v _ E Hh En S1 (Lo.more le1) i1 fun J2 H2 nx2 R2 loc2 m2 s2 le2 S2 Lo2 hk2=>ef (le1.trans le2) S2 Lo2 hk2
end
end
section
section
variable {x:aQ} {d:Nat} {vs:aq} {J:az} {H:Tr} {nx:Nat} {R:Rn} {O:Heap} {L:Addr} {m:Str->Option Value} {s:Shared} {A:Around} {E:Value->Shared->Prop} {env:Env} {loc:List GV}
def Bs(l:List GV)(H:Tr)(nx:Nat)(R:Rn)(k:KV):Bool:=fN (cQ l) fun n=>@Bool.rec (fun q0=>Bool) false (k (.int (.lit (.ofNat n))) H nx R) (Nat.ble n 100000)
def jH:ce:=fun gs H nx R k=>ju gs fun g=>@GV.rec (fun q0=>Bool) false false (fun q0=>false) (fun q0=>false) (fun q0=>false) (fun q0=>false) (fun q0=>false)
 (fun i=>eJ (H.get i) (fun l=>Bs l H nx R k) (fun q0=>false) (fun q0=>false) (fun q0=>false)) false g
theorem St.tok(S:St x J H nx R O L m s)(tk:Nat):St x J H nx R O L m { s with toks:=tk }:=⟨S.led,S.nx,S.fr,S.gens,S.rn⟩
theorem fK:cK x d jH (.builtin "len"):=by
 intro gs H nx R k h A O L m J s us Q E Hh S iu hQ
 obtain ⟨g,rfl,h⟩:=fF h
 cases iu with
 | @cons _ v _ _ iv r=>
 cases r
 cases g with
 | own i=>
  obtain ⟨a,rfl,ha⟩:=iv
  have h:eJ (H.get i) (fun l=>Bs l H nx R k) (fun q0=>false) (fun q0=>false) (fun q0=>false)=true:=h
  rcases dT h with ⟨l,hl,h⟩ | ⟨l,hl,h⟩ | ⟨l,hl,h⟩ | ⟨l,hl,h⟩
  ·unfold Bs at h
   rw [bO,cU] at h
   obtain ⟨hz,h⟩:=aJ h
   have hz:=Nat.le_of_ble_eq_true hz
   obtain ⟨us,lu,iu⟩:=(S.lst ha hl)
   have e:(List.toArray us).size=l.length:=by rw [List.size_toArray,iu.length]
   refine call_len_list lu (by rw [e]; lia) ?_
   rw [e]
   exact hQ J H nx R _ _ _ (.refl _) (S.tok _) (.int (e:=.lit (.ofNat l.length)) _ trivial) h
  ·cases h
  ·cases h
  ·cases h
 | _=>exact nope h
def th:ce:=fun gs H nx R k=>ju gs fun g=>eG g fun z=>@Int.rec (fun q0=>Bool) (fun n=>mk (.rng n) H nx R k) (fun q0=>false) z
theorem mP:cK x d th (.type "range"):=by
 intro gs H nx R k h A O L m J s us Q E Hh S iu hQ
 symm
 obtain ⟨g,rfl,h⟩:=fF h
 obtain ⟨z,rfl,h⟩:=cM h
 cases iu with
 | @cons _ v _ _ iv r=>
 cases r
 obtain ⟨t,rfl,ok⟩:=iv
 symm
 cases z with
 | ofNat n=>exact call_range_1 (gM h S hQ rfl (fun J' le=>.rng _ _ _ rfl) _)
 | negSucc n=>cases h
def yT:ce:=fun gs H nx R k=>ju gs fun g=>bU g fun i=>jQ (H.get i) (mk (.list []) H nx R k) (fun q0=>false) (fun q0=>false) (fun q0=>false)
def iW(x:aQ):Prop:=∃o,x.K.lookup sysModules=some o
theorem qL(hM:iW x)(Hh:cj x d A O L){a:Addr}(h:O.get? a=none):(a == sysModules)=false:=by
 rw [beq_eq_false_iff_ne]
 rintro rfl
 obtain ⟨o,ho⟩:=hM
 rw [Hh.X _ _ ho] at h
 cases h
theorem uB(hM:iW x):cK x d yT (.builtin "sorted"):=by
 intro gs H nx R k h A O L m J s us Q E Hh S iu hQ
 symm
 obtain ⟨g,rfl,h⟩:=fF h
 obtain ⟨i,rfl,h⟩:=bn h
 obtain ⟨v,q0,rfl,iv,r⟩:=fA iu
 obtain rfl:=nJ r
 obtain ⟨a,rfl,ha⟩:=iv
 symm
 rcases ky h with ⟨e,h⟩ | ⟨l,e,h⟩ | ⟨l,e,h⟩ | ⟨l,e,h⟩
 ·obtain ⟨o,o1,q1,q2,o2⟩:=(S.led.obj ha)
  rw [e] at o2
  symm
  obtain ⟨di,ds⟩:=o2
  have hD:=Heap.dictOf_iff.mpr ⟨o,o1,di⟩
  obtain ⟨ep,hat⟩:=hD.dictAt
  obtain ⟨os,hos,el,N⟩:=S.led.at_
  symm
  have lo:=qL hM Hh q2
  refine kdu_sorted (kdl_dict (knd:=PySem.intKind x.prog x.w) (kvs:=[]) (ep:=ep) lo) Hh.hnd S.fr N hat (Nat.zero_le _) fun D h' tk vs F' N' lt hl hv=>?_
  have:vs=[]:=List.eq_nil_of_length_eq_zero hl
  subst this
  refine ksk_lsort (D:=D) (its:=#[]) (n:=0) (vs:=[]) (ns:=[]) (news':=fun o=>(D,o)::J.as.zip os) F' N' (fun o=>?_) rfl .nil (by decide) fun vs' ns' c h2 F2 N2 hi hlen q0 q0 q0=>?_
  ·exact .head fun p hp q=>Nat.lt_irrefl _ (q▸lt p hp)
  ·have e0:vs'=[]:=by
    have:=hi.length
    cases vs' with
    | nil=>rfl
    | cons _ _=>cases hi; cases hlen
   subst e0
   exact gr h S hQ hos el F2 N2 lt (.list c .nil) tk
 ·cases h
 ·cases h
 ·cases h
end
end
section
section
variable {x:aQ} {d:Nat} {vs:aq} {J:az} {H:Tr} {nx:Nat} {R:Rn} {O:Heap} {L:Addr} {m:Str->Option Value} {s:Shared} {A:Around} {E:Value->Shared->Prop} {env:Env} {loc:List GV}
def bH:EQ:=Ew 8
theorem jC(hT:x.T.Nodup)(hM:iW x):fT x d .Eq bH:=L6 hT
end
end
section
section
variable {x:aQ} {d:Nat} {vs:aq} {J:az} {H:Tr} {nx:Nat} {R:Rn} {O:Heap} {L:Addr} {m:Str->Option Value} {s:Shared} {A:Around} {E:Value->Shared->Prop} {env:Env} {loc:List GV}
theorem oQ(h:Heap){K:Type}[DecidableEq K]{prog:Program}{w:World}(knd:KeyKind prog w K):({ cls:=.type "dict",data:=.dict #[] }:Obj).IsDictOf knd []:=by
 obtain ⟨o,ho,hd⟩:=(Heap.dictOf_iff.mp (Heap.DictOf.new (knd:=knd) h))
 rw [Heap.get?_push_size _ rfl] at ho
 exact (Option.some.inj ho)▸hd
def hU:EV:=fun H nx R loc k=>mk .d0 H nx R k
theorem dD(pos:Pos):aK x d vs hU (.Dict [] [] pos):=by
 intro H nx R loc k h A env O L m J s Q E Hh En S Lo hQ
 exact wpAny_Dict_empty (gM h S hQ rfl (fun J' le=>.d0 (oQ s.heap _) (oQ s.heap _)) s.toks)
def RD(g:GV)(k:Nat->Bool):Bool:=@GV.rec (fun q0=>Bool) false false (fun q0=>false) (fun q0=>false) (fun i=>k i) (fun q0=>false) (fun q0=>false) (fun q0=>false) false g
theorem GE{g:GV}{k:Nat->Bool}(h:RD g k=true):∃i,g=.str i/\k i=true:=by cases g <;> first | (cases h; done) | exact ⟨_,rfl,h⟩
noncomputable def FT(ks:List (Option Expr)):Bool:=ks.all (·.isSome)
def pO(l:List (Nat × GV))(b:Bool):Bool:=@List.rec (Nat × GV) (fun q0=>Bool) b (fun q0 q0 q0=>false) l
theorem AM{l:List (Nat × GV)}{b:Bool}(h:pO l b=true):l=[]/\b=true:=by cases l <;> first | exact ⟨rfl,h⟩ | cases h
def sY(i:Nat)(l:List (Nat × GV)):Bool:=@List.rec (Nat × GV) (fun q0=>Bool) true (fun p q0 ih=>@Bool.rec (fun q0=>Bool) ih false (Nat.beq p.1 i)) l
def tB(l:List (Nat × GV)):Bool:=@List.rec (Nat × GV) (fun q0=>Bool) true (fun p r ih=>@Bool.rec (fun q0=>Bool) false ih (sY p.1 r)) l
theorem Gp(hT:x.T.Nodup){es:List (Nat × GV)}:∀{ds:List (Str × Value)},tB es=true->gk x.T J es ds->(ds.map (·.1)).Nodup:=by
 induction es with
 | nil=>
  intro _ _ h
  cases h; exact List.nodup_nil
 | cons p es ih=>
  intro _ h hd
  cases hd with
  | @cons i y g v _ ds hy hv r=>
   obtain ⟨h1,h2⟩:=(aJ (show @Bool.rec (fun q0=>Bool) false (tB es) (sY i es)=true from h))
   rw [List.map_cons]
   refine List.nodup_cons.mpr ⟨fun q=>?_,ih h2 r⟩
   have go:∀{es:List (Nat × GV)} {ds:List (Str × Value)},sY i es=true->gk x.T J es ds->y∉ds.map (·.1):=by
    intro es ds h hd
    induction hd with
    | nil=>intro q; simp at q
    | @cons j z g v es ds hz hv r ih=>
     have h:@Bool.rec (fun q0=>Bool) (sY i es) false (Nat.beq j i)=true:=h
     cases c:Nat.beq j i with
     | true=>rw [c] at h; cases h
     | false=>
      rw [c] at h
      intro q
      rw [List.map_cons] at q
      rcases List.mem_cons.mp q with q | q
      ·exact Nat.ne_of_beq_eq_false c ((cF hT hz hy).mp q.symm)
      ·exact ih h q
   exact go h1 r q
abbrev uA:=Tr->Nat->Rn->List GV->(List (Nat × GV)->Tr->Nat->Rn->Bool)->Bool
def pY(x:aQ)(d:Nat)(vs:aq)(f:uA)(keys:List (Option Expr))(values:List Expr):Prop:=
 ∀H nx R loc k,f H nx R loc k=true->∀(A:Around) (env:Env) (O:Heap) (L:Addr) (m:Str->Option Value) (J:az) (s:Shared) (pos:Pos) (Q:List (Value × Value)->Shared->Prop) (E:Value->Shared->Prop),
  cj x d A O L->bP env L->St x J H nx R O L m s->bq x J env L m vs loc->
  (∀J' H nx R s es us,J.le J'->St x J' H nx R O L m s->allStrKeys us=true->gk x.T J' es (strPairs us)->k es H nx R=true->Q us s)->wpAny (model x.prog x.w) A (evalPairs (pairTrees keys values env pos)) Q E s
noncomputable def kA:uA:=fun H nx R loc k=>k [] H nx R
def cr(a b:EV)(r:uA):uA:=fun H nx R loc k=>a H nx R loc fun g H nx R=>RD g fun i=>b H nx R loc fun gv H nx R=>r H nx R loc fun es H nx R=>k ((i,gv)::es) H nx R
theorem gI:pY x d vs kA [] []:=by
 intro H nx R loc k h A env O L m J s pos Q E Hh En S Lo hQ
 exact evalPairs_nil (hQ J H nx R s [] [] (.refl _) S rfl .nil h)
theorem bF{a b:EV}{r:uA}{ka va:Expr}{ks:List (Option Expr)}{vas:List Expr}(ha:aK x d vs a ka)(hb:aK x d vs b va)(hr:pY x d vs r ks vas):pY x d vs (cr a b r) (some ka::ks) (va::vas):=by
 intro H nx R loc k h A env O L m J s pos Q E Hh En S Lo hQ
 refine evalPairs_cons (ha H nx R loc _ h A env O L m J s _ E Hh En S Lo fun J1 H1 nx1 R1 s1 g1 v1 le1 S1 i1 h1=>?_)
 obtain ⟨i,rfl,h2⟩:=GE h1
 refine wpAny_bind (hb H1 nx1 R1 loc _ h2 A env O L m J1 s1 _ E Hh En S1 (Lo.more le1) fun J2 H2 nx2 R2 s2 g2 v2 le2 S2 i2 h3=>?_)
 refine wpAny_bind (wpAny_standAt (wpAny_pure ?_))
 refine hr H2 nx2 R2 loc _ h3 A env O L m J2 s2 pos _ E Hh En S2 ((Lo.more le1).more le2) fun J3 H3 nx3 R3 s3 es us le3 S3 q1 q2 h4=>?_
 symm
 obtain ⟨q0,t,rfl,ht⟩:=i1
 symm
 exact hQ J3 H3 nx3 R3 s3 _ _ ((le1.trans le2).trans le3) S3 q1 (.cons ht (i2.more le3) q2) h4
def rZ(f:uA):EV:=fun H nx R loc k=>mk (.ds []) H nx R fun o H nx R=>bU o fun D=>f H nx R loc fun es H nx R=>@Bool.rec (fun q0=>Bool) false (jQ (H.get D) false (fun q0=>false) (fun l=>pO l (H.set 24 D (.ds es) fun H=>k (.own D) H nx R)) fun q0=>false) (tB es)
theorem kg(hT:x.T.Nodup){f:uA}{keys:List (Option Expr)}{values:List Expr}(hf:pY x d vs f keys values)(hall:FT keys=true)(hl:keys.length=values.length)(h0:keys≠[])(hlen:keys.length<=15)(pos:Pos):aK x d vs (rZ f) (.Dict keys values pos):=by
 intro H nx R loc k h A env O L m J s Q E Hh En S Lo hQ
 refine Dict_made (knd:=PySem.strKind x.prog x.w) S.fr hall hl h0 hlen fun F'=>?_
 have go:∀C s1,(∃(J1:az) (H1:Tr) (nx1:Nat) (R1:Rn) (D:Nat),J.le J1/\St x J1 H1 nx1 R1 O L m s1/\J1.as[D]?=some C/\f H1 nx1 R1 loc (fun es H nx R=>@Bool.rec (fun q0=>Bool) false (jQ (H.get D) false (fun q0=>false) (fun l=>pO l (H.set 24 D (.ds es) fun H=>k (.own D) H nx R)) fun q0=>false) (tB es))=true)->
   wpAny (model x.prog x.w) A (evalPairs (pairTrees keys values env pos)) (fun vs s₁=>∃kvs,Carries (PySem.strKind x.prog x.w) vs kvs/\s₁.heap.DictOf (PySem.strKind x.prog x.w) C []/\
    ∀h',h'.DictOf (PySem.strKind x.prog x.w) C (merged [] kvs)->Heap.SameBut C s₁.heap h'->Q (.ref C) { s₁ with heap:=h',toks:=s₁.toks+vs.length }) E s1:=by
  rintro C s1 ⟨J1,H1,nx1,R1,D,le1,S1,hD,h1⟩
  refine hf H1 nx1 R1 loc _ h1 A env O L m J1 s1 pos _ E Hh En S1 (Lo.more le1) fun J2 H2 nx2 R2 s2 es us le2 S2 q1 q2 h2=>?_
  obtain ⟨nd,h3⟩:=aJ h2
  have hD2:=aF le2.1 hD
  obtain ⟨o,o1,q0,q0,o2⟩:=(S2.led.obj hD2)
  rcases ky h3 with ⟨e,h4⟩ | ⟨l,e,h4⟩ | ⟨l,e,h4⟩ | ⟨l,e,h4⟩
  ·cases h4
  ·cases h4
  ·obtain ⟨rfl,h5⟩:=(AM h4)
   rw [e] at o2
   obtain ⟨q0,hd,hs⟩:=o2
   cases hs
   obtain ⟨H',hA,h6⟩:=Tr.set_ok _ _ _ _ _ h5
   refine display_done_str q1 (Gp hT nd q2) (Heap.dictOf_iff.mpr ⟨o,o1,hd⟩) fun h' hmm hs=>?_
   obtain ⟨o',ho',hd'⟩:=(Heap.dictOf_iff.mp hmm)
   exact hQ J2 H' nx2 R2 _ _ _ (le1.trans le2) (S2.upd hD2 hs ho' (.ds hd' q2) hA _) (.own hD2) h6
  ·cases h4
 exact go _ _ (gM (Q:=fun v s1=>∀C,v=.ref C->∃(J1:az) (H1:Tr) (nx1:Nat) (R1:Rn) (D:Nat),J.le J1/\St x J1 H1 nx1 R1 O L m s1/\J1.as[D]?=some C/\f H1 nx1 R1 loc (fun es H nx R=>@Bool.rec (fun q0=>Bool) false (jQ (H.get D) false (fun q0=>false) (fun l=>pO l (H.set 24 D (.ds es) fun H=>k (.own D) H nx R)) fun q0=>false) (tB es))=true) h S
  (fun J1 H1 nx1 R1 s1 g v le1 S1 i1 h1 C hC=>by
   subst hC
   symm
   obtain ⟨D,rfl,h2⟩:=bn h1
   obtain ⟨q0,hq,hD⟩:=i1
   cases hq
   symm
   exact ⟨J1,H1,nx1,R1,D,le1,S1,hD,h2⟩) rfl (fun J' le=>.ds (oQ s.heap _) .nil) s.toks _ rfl)
end
end
section
section
variable {x:aQ} {d:Nat} {vs:aq} {J:az} {H:Tr} {nx:Nat} {R:Rn} {O:Heap} {L:Addr} {m:Str->Option Value} {s:Shared} {A:Around} {E:Value->Shared->Prop} {env:Env} {loc:List GV}
noncomputable def jm(ns:List Nat):List GI:=ns.map fun n=>.lit (.ofNat n)
theorem kZ(ns:List Nat)(hn:(ns.all fun n=>Nat.ble n 255)=true)(kd:Nat)(pos:Pos):aK x d vs (bj (.byt (jm ns))) (.Constant (.bytes (ns.map UInt8.ofNat)) kd pos):=by
 intro H nx R loc k h A env O L m J s Q E Hh En S Lo hQ
 refine PySem.W.Constant_bytes ?_
 have e:ik ((jm ns).map (GI.ev J.ns))=(ns.map UInt8.ofNat).toArray:=by
  unfold ik jm
  rw [List.map_map,List.map_map]
  rfl
 rw [<- e]
 refine hQ J H nx R _ _ _ (.refl _) (S.tok _) (.byt _ fun g hg=>?_) h
 obtain ⟨n,hn',rfl⟩:=(List.mem_map.mp hg)
 have:=Nat.le_of_ble_eq_true (List.all_eq_true.mp hn n hn')
 refine ⟨trivial,?_,?_⟩
 ·show (0:Int)<=(n:Int); lia
 ·show (n:Int)<256; lia
structure OldTup (x:aQ) (l:List GV) (ad:Addr):Prop where
 is:∃(us:List Value) (n:Nat),x.K.lookup ad=some ⟨.type "tuple",none,.seq us.toArray n,#[]⟩/\us.length=l.length/\∀(j:Nat) (v:Value),us[j]?=some v->d7 x.T (ba l j) v
structure EF (x:aQ) (C a:Nat):Prop where
 is:∃cx t fI,x.CT[C]?=some cx/\x.T[a]?=some t/\plainGet x.K cx t=true/\hasDictIn x.K cx=true/\findIn x.K (.ref cx) t=some (some (.ref fI))/\isFn x.K (.ref fI)=true/\
  specialIn x.K (.ref fI) "__get__" = some (some (.builtin "function.__get__"))/\takesIn x.K (.ref fI)=some false/\copiedNames.contains t=false
def Pn(C0 a:Nat)(f:EV):EV:=fun H nx R loc k=>f H nx R loc fun g H nx R=>bU g fun i=>hV (H.get i) fun C dd=>eW (H.get dd) fun es=>AZ es a (@Bool.rec (fun q0=>Bool) false (mk .junk H nx R k) (Nat.beq C C0))
theorem FF(hT:x.T.Nodup){C0 a:Nat}{t:Str}(hb:EF x C0 a)(ht:x.T[a]?=some t){f:EV}{e:Expr}(hf:aK x d vs f e)(hc:wC e=true)(pos:Pos):aK x d vs (Pn C0 a f) (.Attribute e t pos):=by
 intro H nx R loc k h A env O L m J s Q E Hh En S Lo hQ
 refine Attribute_any_ (hf H nx R loc _ h A env O L m J s _ E Hh En S Lo fun J1 H1 nx1 R1 s1 g v1 le1 S1 i1 h1=>?_) (by clear hf; cases e <;> first | rfl | cases hc)
 symm
 obtain ⟨i,rfl,h2⟩:=bn h1
 obtain ⟨C,dd,hi,h3⟩:=fc h2
 obtain ⟨es',hd,h4⟩:=dK h3
 obtain ⟨nn,h4b⟩:=(tK h4)
 obtain ⟨hC,h5⟩:=aJ h4b
 have hC:=Nat.eq_of_beq_eq_true hC
 subst hC
 obtain ⟨cx,t',fI,c1,c2,c4,c5,c6,c7,c8,c9,E6⟩:=hb.is
 symm
 rw [ht] at c2; cases c2
 symm
 obtain ⟨q0,rfl,ha⟩:=i1
 obtain ⟨cx',dx,ds,n,e1,e2,e3,e4⟩:=(S1.led.inst (l:=0) hi hd ha)
 symm
 rw [c1] at e1; cases e1
 symm
 obtain ⟨os,hos,el,N⟩:=S1.led.at_
 symm
 exact kbm_bound S1.fr Hh.X N e4 c4 c5 c6 c7 c8 c9 E6 (e3.none hT ht nn) fun q h' F' N' lt=>gr h5 S1 (hQ.le le1) hos el F' N' lt (.junk _) _
end
end
section
noncomputable def Mo:Int:=2147483647
structure gE (x:aQ) (d:Nat) (vs:aq) (A:Around) (env:Env) (O:Heap) (L:Addr) (m:Str->Option Value) (J:az) (H:Tr) (nx:Nat) (R:Rn) (loc:List GV) (i:Nat) (c:Int) (a b:Int) (s:Shared):Prop where
 Hh:cj x d A O L
 En:bP env L
 S:St x J H nx R O L m s
 Lo:bq x J env L m vs loc
 jk:H.get i=.junk
 l0:ba loc 0=.own i
 l1:ba loc 1=.int (.lit c)
 obj:∃sa n t u,J.as[i]?=some sa/\s.heap.get? sa=some (listOf #[.int a t,.int b u] n)
def gm(x:aQ)(d:Nat)(vs:aq)(val:Int->Int->Int->Int)(e:Expr):Prop:=∀(A:Around) (env:Env) (O:Heap) (L:Addr) (m:Str->Option Value) (J:az) (H:Tr) (nx:Nat) (R:Rn) (loc:List GV) (i:Nat) (c a b:Int) (s:Shared) (Q E:Value->Shared->Prop),
 gE x d vs A env O L m J H nx R loc i c a b s->0<c->c<1000->0<=b->b<Mo->(∀t tk,Q (.int (val a b c) t) { s with toks:=tk })->wpAny (model x.prog x.w) A (eval e env) Q E s
section
variable {x:aQ} {d:Nat} {vs:aq} {J:az} {H:Tr} {nx:Nat} {R:Rn} {O:Heap} {L:Addr} {m:Str->Option Value} {s:Shared} {A:Around} {E:Value->Shared->Prop} {env:Env} {loc:List GV}
theorem gE.tok{i:Nat}{c a b:Int}(P:gE x d vs A env O L m J H nx R loc i c a b s)(tk:Nat):gE x d vs A env O L m J H nx R loc i c a b { s with toks:=tk }:=⟨P.Hh,P.En,P.S.tok tk,P.Lo,P.jk,P.l0,P.l1,P.obj⟩
theorem mB{i a0:Nat}{t0:Str}{c a b:Int}(hv:vs[0]?=some (a0,.loc))(ht:x.T[a0]?=some t0)(P:gE x d vs A env O L m J H nx R loc i c a b s){Q:Value->Shared->Prop}(hQ:∀sa n t u,J.as[i]?=some sa->s.heap.get? sa=some (listOf #[.int a t,.int b u] n)->Q (.ref sa) s)(p:Pos) :
  wpAny (model x.prog x.w) A (eval (.Name t0 p) env) Q E s:=by
 symm
 obtain ⟨t',ht',hd,h1,h2,h3⟩:=(P.Lo 0 a0 .loc hv)
 symm
 rw [ht] at ht'; cases ht'
 symm
 obtain ⟨v,hm,iv⟩:=(h3 (by rw [P.l0]; intro q; cases q))
 rw [P.l0] at iv
 obtain ⟨sa,rfl,ha⟩:=iv
 obtain ⟨sa',n,t,u,q1,q2⟩:=P.obj
 symm
 rw [ha] at q1; cases q1
 exact wpAny_Name (wpAny_loadName_local P.En.kind h2 (h1▸P.S.fr.ns) hm (hQ sa n t u ha q2)) hd
theorem CA{a1:Nat}{t1:Str}(hv:vs[1]?=some (a1,.loc))(ht:x.T[a1]?=some t1)(p:Pos):gm x d vs (fun q0 q0 c=>c) (.Name t1 p):=by
 intro A env O L m J H nx R loc i c a b s Q E P hc hc2 hb hb2 hQ
 obtain ⟨t',ht',hd,h1,h2,h3⟩:=(P.Lo 1 a1 .loc hv)
 rw [ht] at ht'; cases ht'
 obtain ⟨v,hm,iv⟩:=(h3 (by rw [P.l1]; intro q; cases q))
 rw [P.l1] at iv
 obtain ⟨t,rfl,ok⟩:=iv
 exact wpAny_Name (wpAny_loadName_local P.En.kind h2 (h1▸P.S.fr.ns) hm (hQ t s.toks)) hd
theorem iK(n:Int)(kd:Nat)(p:Pos):gm x d vs (fun q0 q0 q0=>n) (.Constant (.int n) kd p):=fun A env O L m J H nx R loc i c a b s Q E P hc hc2 hb hb2 hQ=>wpAny_Constant_int (hQ _ _)
theorem vi{a0:Nat}{t0:Str}(hv:vs[0]?=some (a0,.loc))(ht:x.T[a0]?=some t0)(p q r:Pos)(kd:Nat):gm x d vs (fun a q0 q0=>a) (.Subscript (.Name t0 p) (.Constant (.int 0) kd q) r):=by
 intro A env O L m J H nx R loc i c a b s Q E P hc hc2 hb hb2 hQ
 refine Subscript_ (mB hv ht P (fun sa n t u h1 h2=>wpAny_Constant_int ?_) p)
 have hl:s.heap.IsList sa #[.int a t,.int b u]:=⟨_,h2,rfl,n,rfl⟩
 refine tail_any (s:={ s with toks:=s.toks+1 }) (Heap.IsList.typeIs (s:={ s with toks:=s.toks+1 }) hl) slot_list_getitem.lookup ?_ (by with_unfolding_all rfl)
 exact wpAny_getItem_list (s:={ s with toks:=s.toks+1 }) hl (by decide) (by decide) rfl (hQ t _)
theorem tA{a0:Nat}{t0:Str}(hv:vs[0]?=some (a0,.loc))(ht:x.T[a0]?=some t0)(p q r:Pos)(kd:Nat):gm x d vs (fun q0 b q0=>b) (.Subscript (.Name t0 p) (.Constant (.int 1) kd q) r):=by
 intro A env O L m J H nx R loc i c a b s Q E P hc hc2 hb hb2 hQ
 refine Subscript_ (mB hv ht P (fun sa n t u h1 h2=>wpAny_Constant_int ?_) p)
 have hl:s.heap.IsList sa #[.int a t,.int b u]:=⟨_,h2,rfl,n,rfl⟩
 refine tail_any (s:={ s with toks:=s.toks+1 }) (Heap.IsList.typeIs (s:={ s with toks:=s.toks+1 }) hl) slot_list_getitem.lookup ?_ (by with_unfolding_all rfl)
 exact wpAny_getItem_list (s:={ s with toks:=s.toks+1 }) hl (by decide) (by decide) rfl (hQ u _)
def tZ(x:aQ)(op:Operator)(o:Int->Int->Int)(P:Int->Int->Prop):Prop:=∀(A:Around) (s:Shared) (a b:Int) (t u:Tok) (Q E:Value->Shared->Prop),P a b->(∀t tk,Q (.int (o a b) t) { s with toks:=tk })->wpAny (model x.prog x.w) A (binaryOp op (.int a t) (.int b u)) Q E s
theorem XC:tZ x .Add (·+ ·) fun q0 q0=>True:=fun A s a b t u Q E q0 hQ=>AutoIntOps.add_0 (show Q (.int (a+b) s.toks) { s with toks:=s.toks+1 } from hQ _ _)
theorem KQ:tZ x .Mult (·* ·) fun a q0=>0<=a/\a<Mo:=fun A s a b t u Q E h hQ=>AutoIntOps.mul_0 (show Q (.int (a * b) s.toks) { s with toks:=s.toks+1 } from hQ _ _) (IntMulOk.of_left (intBits_le_64 (by lia) (by have:=h.2; unfold Mo at this; lia)))
theorem yb:tZ x .Mod Int.fmod fun q0 b=>0<b:=fun A s a b t u Q E h hQ=>AutoIntOps.mod_1 (by simp only [beq_iff_eq]; lia) (show Q (.int (Int.fmod a b) s.toks) { s with toks:=s.toks+1 } from hQ _ _)
theorem Kr:tZ x .FloorDiv Int.fdiv fun q0 b=>0<b/\b<1000:=fun A s a b t u Q E h hQ=>AutoIntOps.floordiv_1 (by simp only [beq_iff_eq]; lia) (by
  have:b.natAbs.log2<10:=by
   have h2:b.natAbs<2 ^ 10:=by lia
   have h0:b.natAbs≠0:=by lia
   exact (Nat.log2_lt h0).mpr h2
  unfold Builtin.divisionGoesByPylong
  simp only [Bool.and_eq_true,decide_eq_true_eq,not_and]
  intro q
  exfalso
  split at q
  ·lia
  ·lia) (show Q (.int (Int.fdiv a b) s.toks) { s with toks:=s.toks+1 } from hQ _ _)
theorem lT{op:Operator}{o:Int->Int->Int}{Pc:Int->Int->Prop}(ho:tZ x op o Pc){v w:Int->Int->Int->Int}{e f:Expr}(he:gm x d vs v e)(hf:gm x d vs w f)(hp:∀a b c,0<c->c<1000->0<=b->b<Mo->Pc (v a b c) (w a b c))(p:Pos) :
  gm x d vs (fun a b c=>o (v a b c) (w a b c)) (.BinOp e op f p):=by
 intro A env O L m J H nx R loc i c a b s Q E P hc hc2 hb hb2 hQ
 refine wpAny_BinOp (he A env O L m J H nx R loc i c a b s _ E P hc hc2 hb hb2 fun t tk=>?_)
 refine hf A env O L m J H nx R loc i c a b _ _ E (P.tok tk) hc hc2 hb hb2 fun u tk2=>?_
 exact ho A _ _ _ t u Q E (hp a b c hc hc2 hb hb2) fun t' tk3=>hQ t' tk3
theorem uJ(j:Int){a0:Nat}{t0:Str}(hv:vs[0]?=some (a0,.loc))(ht:x.T[a0]?=some t0){i:Nat}{c a b r:Int}{tr:Tok}(P:gE x d vs A env O L m J H nx R loc i c a b s)(hj:j=0∨j=1){Q:Unit->Shared->Prop}
  (hQ:∀s',gE x d vs A env O L m J H nx R loc i c (if j=0 then r else a) (if j=0 then b else r) s'->Q () s') (p q w:Pos) (kd:Nat) :
  wpAny (model x.prog x.w) A (assign (.Subscript (.Name t0 p) (.Constant (.int j) kd q) w) env (.int r tr)) Q E s:=by
 refine kas_sub (mB hv ht P (fun sa n t u h1 h2=>wpAny_Constant_int ?_) p)
 refine ki_setAt (s:={ s with toks:=s.toks+1 }) h2 (by lia) (by lia) (by show j<2; lia) ?_
 have up:=PySem.IsL.update h2 (·.setIfInBounds j.toNat (.int r tr))
 have hA:At H H i .junk:=fun k=>by
  by_cases e:k=i
  ·rw [if_pos e,e]; exact P.jk
  ·rw [if_neg e]
 refine hQ _ ⟨P.Hh,P.En,P.S.upd h1 (Heap.SameBut.update ..) up (.junk _) hA _,P.Lo,P.jk,P.l0,P.l1,?_⟩
 rcases hj with rfl | rfl
 ·exact ⟨sa,_,tr,u,h1,up⟩
 ·exact ⟨sa,_,t,tr,h1,up⟩
end
end
section
def EU(b:eZ):Nat:=@List.rec (Int × Int) (fun q0=>Nat) 0 (fun q0 q0 n=>Nat.succ n) b
theorem tP:∀b:eZ,EU b=b.length
 | []=>rfl
 | _::b=>congrArg Nat.succ (tP b)
def Li(b:eZ)(p:Int × Int):eZ:=@List.rec (Int × Int) (fun q0=>eZ) [p] (fun q q0 ih=>q::ih) b
theorem wQ(p:Int × Int):∀b:eZ,Li b p=b++[p]
 | []=>rfl
 | q::b=>congrArg (q::·) (wQ p b)
def xr(n:Nat)(l:List (Nat × Nat × Bool)):Bool:=@List.rec (Nat × Nat × Bool) (fun q0=>Bool) true (fun p q0 ih=>@Bool.rec (fun q0=>Bool) false ih (Nat.ble (Nat.succ p.1) n&&Nat.ble (Nat.succ p.2.1) n)) l
theorem vc{n:Nat}:∀{l:List (Nat × Nat × Bool)},xr n l=true->∀p∈l,p.1<n/\p.2.1<n
 | [],_,p,h=>by cases h
 | q::l,e,p,h=>by
  obtain ⟨e1,e2⟩:=(aJ (show @Bool.rec (fun q0=>Bool) false (xr n l) (Nat.ble (Nat.succ q.1) n&&Nat.ble (Nat.succ q.2.1) n)=true from e))
  obtain ⟨e3,e4⟩:=Bool.and_eq_true_iff.mp e1
  rcases List.mem_cons.mp h with rfl | h
  ·exact ⟨Nat.le_of_ble_eq_true e3,Nat.le_of_ble_eq_true e4⟩
  ·exact vc e2 p h
def y5(n:Nat)(k:Nat->Bool):Bool:=@Nat.rec (fun q0=>Bool) true (fun d ih=>@Bool.rec (fun q0=>Bool) false ih (k d)) n
theorem vR{k:Nat->Bool}:∀{n:Nat},y5 n k=true->∀d,d<n->k d=true
 | 0,_,d,h=>by lia
 | n+1,e,d,h=>by
  obtain ⟨e1,e2⟩:=(aJ (show @Bool.rec (fun q0=>Bool) false (y5 n k) (k n)=true from e))
  by_cases q:d=n
  ·subst q; exact e1
  ·exact vR e2 d (by lia)
def uY(top:Nat)(R:Rn)(k:GI->Rn->Bool):Bool:=fN (EU R.bnd) fun n=>@Bool.rec (fun q0=>Bool) false (k (.var n) (.mk (Li R.bnd (0,.ofNat (Nat.pred top))) R.eqs)) (xr n R.eqs)
def uS(top:Nat)(R:Rn)(k:GI->Rn->Bool):Bool:=@Bool.rec (fun q0=>Bool) (uY top R k) (y5 top fun d=>k (.lit (.ofNat d)) R) (Nat.ble top 9)
theorem wu{top:Nat}{R:Rn}{k:GI->Rn->Bool}(h:uY top R k=true){ns:List Int}(rn:dh R ns){D:Nat}(hD:D<top):∃e R' ns',k e R'=true/\ns <+: ns'/\dh R' ns'/\e.ok ns'.length/\e.ev ns'=(D:Int):=by
 unfold uY at h
 rw [bO,tP,wQ] at h
 obtain ⟨h1,h2⟩:=aJ h
 have hl:=rn.len
 refine ⟨_,_,ns++[(D:Int)],h2,⟨_,rfl⟩,⟨fun k b hk=>?_,?_,fun i j b hm=>?_⟩,?_,?_⟩
 ·have hk:(R.bnd++[((0:Int),Int.ofNat (Nat.pred top))])[k]?=some b:=hk
  rcases Nat.lt_or_ge k R.bnd.length with lt | ge
  ·rw [List.getElem?_append_left lt] at hk
   obtain ⟨i,e1,e2⟩:=(rn.bnd k b hk)
   exact ⟨i,by rw [List.getElem?_append_left (by lia)]; exact e1,e2⟩
  ·rw [List.getElem?_append_right ge] at hk
   have e:k - R.bnd.length=0:=by
    have:=aN hk
    simp at this; lia
   rw [e] at hk
   simp at hk
   subst hk
   refine ⟨D,?_,?_,?_⟩
   ·rw [List.getElem?_append_right (by lia),show k - ns.length=0 by lia]; rfl
   ·show (0:Int)<=D; lia
   ·show (D:Int)<=Int.ofNat (Nat.pred top)
    have:D<=Nat.pred top:=Nat.le_pred_of_lt hD
    simp only [Int.ofNat_eq_natCast]; lia
 ·show (ns++[(D:Int)]).length=(R.bnd++[((0:Int),Int.ofNat (Nat.pred top))]).length
  simp [hl]
 ·have hm:(i,j,b)∈R.eqs:=hm
  obtain ⟨a1,a2⟩:=(vc h1 _ hm)
  have:=rn.eqs i j b hm
  unfold my at this ⊢
  rw [List.getElem?_append_left (by show i<_; rw [hl]; exact a1),List.getElem?_append_left (by show j<_; rw [hl]; exact a2)]
  exact this
 ·show R.bnd.length<(ns++[(D:Int)]).length
  simp [hl]
 ·show ((ns++[(D:Int)])[R.bnd.length]?).getD 0=(D:Int)
  rw [List.getElem?_append_right (by lia),show R.bnd.length - ns.length=0 by lia]
  rfl
theorem wp{top:Nat}{R:Rn}{k:GI->Rn->Bool}(h:uS top R k=true){ns:List Int}(rn:dh R ns){D:Nat}(hD:D<top):∃e R' ns',k e R'=true/\ns <+: ns'/\dh R' ns'/\e.ok ns'.length/\e.ev ns'=(D:Int):=by
 unfold uS at h
 cases q:Nat.ble top 9 with
 | true=>rw [q] at h; exact ⟨_,R,ns,vR h D hD,List.prefix_rfl,rn,trivial,rfl⟩
 | false=>rw [q] at h; exact wu h rn hD
def vg(o:GO)(k:List (Nat × Nat)->Bool):Bool:=@GO.rec (fun q0=>Bool) false (fun q0=>false) (fun q0=>false) (fun q0 q0=>false) (fun q0=>false) false (fun q0=>false) (fun q0=>false) (fun q0=>false) (fun q0=>false) (fun q0 q0=>false) (fun q0 q0=>false) (fun q0 q0=>false) (fun f=>k f) (fun q0=>false) (fun q0=>false) false (fun q0=>false) (fun q0 q0=>false) (fun q0 q0=>false) (fun q0 q0=>false) (fun q0 q0=>false) (fun q0 q0=>false) o
theorem rS{o:GO}{k:List (Nat × Nat)->Bool}(h:vg o k=true):∃f,o=.pool f/\k f=true:=by cases o <;> first | (cases h; done) | exact ⟨_,rfl,h⟩
def E3(i:Nat)(z:Int)(H:Tr)(R:Rn)(k:GI->Tr->Rn->Bool):Bool:=@Int.rec (fun q0=>Bool) (fun top=>@Bool.rec (fun q0=>Bool) false
 (vg (H.get i) fun f=>@List.rec (Nat × Nat) (fun q0=>Bool) (uS top R fun e R=>k e H R) (fun p r q0=>@Bool.rec (fun q0=>Bool) false (H.set 24 i (.pool r) fun H=>@Bool.rec (fun q0=>Bool) (@Bool.rec (fun q0=>Bool) (k (.lit (.ofNat p.2)) H R) (uY top R fun e R=>k e H R) (Nat.beq p.2 (Nat.succ top))) (uS top R fun e R=>k e H R) (Nat.beq p.2 top)) (Nat.beq p.1 top)) f)
 (Nat.ble 1 top&&Nat.ble top 500)) (fun q0=>false) z
theorem At.refl{H:Tr}{i:Nat}{g:GO}(h:H.get i=g):At H H i g:=fun k=>by
 by_cases e:k=i
 ·rw [if_pos e,e]; exact h
 ·rw [if_neg e]
theorem GR{a b:Int}{top:Nat}(h:0<top):(eX a b top).1<top:=by
 have p:(0:Int)<top:=by lia
 unfold eX
 split
 ·have h1:=Int.fmod_nonneg_of_pos a p
  have h2:=Int.fmod_lt_of_pos a p
  show (Int.fmod a top).toNat<top
  lia
 ·have h1:=Int.fmod_nonneg_of_pos (Int.fdiv (Int.fmod (Int.fmod (b * 39373+7) 2147483647 * Int.fmod (b * 39373+7) 2147483647) 2147483629) 32) p
  have h2:=Int.fmod_lt_of_pos (Int.fdiv (Int.fmod (Int.fmod (b * 39373+7) 2147483647 * Int.fmod (b * 39373+7) 2147483647) 2147483629) 32) p
  show (Int.fmod (Int.fdiv (Int.fmod (Int.fmod (b * 39373+7) 2147483647 * Int.fmod (b * 39373+7) 2147483647) 2147483629) 32) top).toNat<top
  lia
theorem DF{i:Nat}{top:Nat}{H:Tr}{R:Rn}{k:GI->Tr->Rn->Bool}(h:E3 i (.ofNat top) H R k=true){ns:List Int}(rn:dh R ns):0<top/\top<=500/\∃f,H.get i=.pool f/\∀a b,rh f a b->
  ∃e H' R' ns' f',k e H' R'=true/\At H H' i (.pool f')/\rh f' (eX a b top).2.1 (eX a b top).2.2/\ns <+: ns'/\dh R' ns'/\e.ok ns'.length/\e.ev ns'=((eX a b top).1:Int):=by
 obtain ⟨h1,h2⟩:=(aJ (show @Bool.rec (fun q0=>Bool) false _ (Nat.ble 1 top&&Nat.ble top 500)=true from h))
 obtain ⟨h3,h4⟩:=Bool.and_eq_true_iff.mp h1
 have h3:=Nat.le_of_ble_eq_true h3
 have h4:=Nat.le_of_ble_eq_true h4
 obtain ⟨f,hf,h5⟩:=rS h2
 refine ⟨h3,h4,f,hf,fun a b hF=>?_⟩
 have lt:=GR (a:=a) (b:=b) h3
 cases f with
 | nil=>
  obtain ⟨e,R',ns',a1,a2,a3,a4,a5⟩:=(wp h5 rn lt)
  exact ⟨e,H,R',ns',[],a1,At.refl hf,trivial,a2,a3,a4,a5⟩
 | cons p r=>
  obtain ⟨h6,h7⟩:=(aJ (show @Bool.rec (fun q0=>Bool) false _ (Nat.beq p.1 top)=true from h5))
  have h6:=Nat.eq_of_beq_eq_true h6
  obtain ⟨t,dd⟩:=p
  have h6:t=top:=h6
  subst h6
  obtain ⟨F1,F2⟩:=hF
  obtain ⟨H',hA,h8⟩:=Tr.set_ok _ _ _ _ _ h7
  cases q:Nat.beq dd t with
  | true=>
   have h8:uS t R (fun e R=>k e H' R)=true:=by have:=h8; rw [show (t,dd).2=dd from rfl,q] at this; exact this
   obtain ⟨e,R',ns',a1,a2,a3,a4,a5⟩:=(wp h8 rn lt)
   exact ⟨e,H',R',ns',r,a1,hA,F2,a2,a3,a4,a5⟩
  | false=>
   have h8:@Bool.rec (fun q0=>Bool) (k (.lit (.ofNat dd)) H' R) (uY t R fun e R=>k e H' R) (Nat.beq dd (Nat.succ t))=true:=by have:=h8; rw [show (t,dd).2=dd from rfl,q] at this; exact this
   cases q2:Nat.beq dd (Nat.succ t) with
   | true=>
    rw [q2] at h8
    obtain ⟨e,R',ns',a1,a2,a3,a4,a5⟩:=(wu h8 rn lt)
    exact ⟨e,H',R',ns',r,a1,hA,F2,a2,a3,a4,a5⟩
   | false=>
    rw [q2] at h8
    have e:(eX a b t).1=dd:=(F1.resolve_left (Nat.ne_of_beq_eq_false q)).resolve_left (Nat.ne_of_beq_eq_false q2)
    exact ⟨_,H',R,ns,r,h8,hA,F2,List.prefix_rfl,rn,trivial,by rw [e]; rfl⟩
end
section
section
variable {x:aQ} {d:Nat} {vs:aq} {J:az} {H:Tr} {nx:Nat} {R:Rn} {O:Heap} {L:Addr} {m:Str->Option Value} {s:Shared} {A:Around} {E:Value->Shared->Prop} {env:Env} {loc:List GV}
theorem St.reg{i:Nat}{a:Addr}{o:Obj}{g:GO}{H':Tr}(S:St x J H nx R O L m s)(ha:J.as[i]?=some a)(ho:s.heap.get? a=some o)(hg:aL x.T x.CT x.nd (x.prog,x.w) J g o)(hA:At H H' i g):St x J H' nx R O L m s:=
 S.upd ha (Heap.SameBut.refl _ _) ho hg hA s.toks
theorem St.ns'{ns':List Int}{R':Rn}(S:St x J H nx R O L m s)(hp:J.ns <+: ns')(rn:dh R' ns'):J.le { J with ns:=ns' }/\St x { J with ns:=ns' } H nx R' O L m s:=by
 have le:J.le { J with ns:=ns' }:=⟨List.prefix_rfl,hp,rfl,rfl⟩
 obtain ⟨os,hos,el,N⟩:=S.led.at_
 exact ⟨le,⟨S.led.nod,os,fun k o h=>(hos k o h).more le,el,N⟩,S.nx,S.fr,S.gens,rn⟩
theorem lr{t e:Expr}{rest:List Stmt}(h1:iD e=true)(h2:iZ t=true)(h3:bZ t=true){pos:Pos}{Q:Flow->Shared->Prop}
  (h:wpAny (model x.prog x.w) A (eval e env) (fun v s'=>wpAny (model x.prog x.w) A (assign t env v) (fun q0 s''=>wpAny (model x.prog x.w) A (execs rest env) Q E s'') E s') E s):wpAny (model x.prog x.w) A (execs (.Assign [t] e pos::rest) env) Q E s:=by
 refine wpAny_execs_cons (wpAny_Assign_stores (wpAny_mono h (fun v s' z=>?_) fun q0 q0 y=>y) (hK h1 _ _ _) ?_)
 ·rw [cT h3 env]
  exact z
 ·exact iT (.inl h2) _
def wW:SV:=fun H nx R loc k=>bU (ba loc 0) fun i=>eG (ba loc 1) fun z=>H.set 24 i .junk fun q0=>E3 i z H R fun e H R=>k (.ret (.int e)) H nx R [.own i,.int (.lit z)]
theorem Gq{a0 a1 a2:Nat}{t0 t1 t2:Str}(hT:x.T.Nodup)(hs:aA x [(a0,.loc),(a1,.loc),(a2,.loc)])(n0:x.T[a0]?=some t0)(n1:x.T[a1]?=some t1)(n2:x.T[a2]?=some t2){e0 e1 e2 e5 e8 e9:Expr}
  (g0:gm x d [(a0,.loc),(a1,.loc),(a2,.loc)] (fun a q0 q0=>a) e0) (g1:gm x d [(a0,.loc),(a1,.loc),(a2,.loc)] (fun q0 q0 q0=>0) e1) (g2:gm x d [(a0,.loc),(a1,.loc),(a2,.loc)] (fun a q0 c=>Int.fmod a c) e2) (g5:gm x d [(a0,.loc),(a1,.loc),(a2,.loc)] (fun a q0 c=>Int.fdiv a c) e5)
  (g8:gm x d [(a0,.loc),(a1,.loc),(a2,.loc)] (fun q0 b q0=>Int.fmod (b * 39373+7) 2147483647) e8) (g9:gm x d [(a0,.loc),(a1,.loc),(a2,.loc)] (fun q0 b c=>Int.fmod (Int.fdiv (Int.fmod (b * b) 2147483629) 32) c) e9)
  (hm:behindInMarks .Gt e1=false) (hc2:iD e2=true) (hc5:iD e5=true) (hc8:iD e8=true) (q1 q2 q3 q4 q5 q6 q7 q8 q9 q10 q11 q12 q13 q14 q15:Pos) (k1 k2:Nat) :
  au x d [(a0,.loc),(a1,.loc),(a2,.loc)] wW [.If (.Compare e0 [.Gt] [e1] q1) [.Assign [.Name t2 q2] e2 q3,.Assign [.Subscript (.Name t0 q4) (.Constant (.int 0) k1 q5) q6] e5 q7,.Return (some (.Name t2 q8)) q9] [] q10,
   .Assign [.Subscript (.Name t0 q11) (.Constant (.int 1) k2 q12) q13] e8 q14,.Return (some e9) q15]:=by
 intro H nx R loc k h A env O L m J s Q E Hh En S Lo hQ
 symm
 obtain ⟨i,l0,h1⟩:=bn h
 obtain ⟨z,l1,h2⟩:=cM h1
 obtain ⟨HJ,hJ,h3⟩:=Tr.set_ok _ _ _ _ _ h2
 symm
 cases z with
 | negSucc _=>cases h3
 | ofNat top=>
 symm
 obtain ⟨tp,tt,f,hf,hG⟩:=(DF h3 S.rn)
 symm
 symm
 obtain ⟨q0,x0,d0,p1,p2,p3⟩:=(Lo 0 a0 .loc rfl)
 obtain ⟨q0,x1,d1,r1,r2,r3⟩:=(Lo 1 a1 .loc rfl)
 obtain ⟨q0,x2,d2,w1,w2,w3⟩:=(Lo 2 a2 .loc rfl)
 symm
 rw [n0] at x0; cases x0
 rw [n1] at x1; cases x1
 rw [n2] at x2; cases x2
 rw [l0] at p3
 rw [l1] at r3
 symm
 obtain ⟨v0,m0,i0⟩:=(p3 (by intro q; cases q))
 obtain ⟨v1,m1,i1⟩:=(r3 (by intro q; cases q))
 obtain ⟨sa,rfl,ha⟩:=i0
 obtain ⟨o,o1,q0,q0,o2⟩:=(S.led.obj ha)
 rw [hf] at o2
 obtain ⟨a,b,n,t,u,rfl,ha0,hb0,hb1,hF⟩:=o2
 obtain ⟨e,H',R',ns',f',hk,hA,hF',hp,rn',ek,ev⟩:=(hG a b hF)
 symm
 have ne0:t0≠t2:=fun q=>by
  have:=(cF hT n0 n2).mp q
  have:=hs.2
  simp_all
 have ne1:t1≠t2:=fun q=>by
  have:=(cF hT n1 n2).mp q
  have:=hs.2
  simp_all
 have SJ:St x J HJ nx R O L m s:=S.reg ha o1 (.junk _) hJ
 have jk:HJ.get i=.junk:=by rw [hJ i,if_pos rfl]
 have c0:(0:Int)<Int.ofNat top:=by simp only [Int.ofNat_eq_natCast]; lia
 have c1:Int.ofNat top<1000:=by simp only [Int.ofNat_eq_natCast]; lia
 have Lo1:bq x J env L m [(a0,.loc),(a1,.loc),(a2,.loc)] [.own i,.int (.lit (.ofNat top)),.nul]:=fun j i' kd hj=>by
  match j,hj with
  | 0,hj=>cases hj; exact ⟨t0,n0,d0,p1,p2,fun q0=>⟨_,m0,.own ha⟩⟩
  | 1,hj=>cases hj; exact ⟨t1,n1,d1,r1,r2,fun q0=>⟨_,m1,i1⟩⟩
  | 2,hj=>cases hj; exact ⟨t2,n2,d2,w1,w2,fun q=>absurd rfl q⟩
  | j+3,hj=>simp at hj
 have P:gE x d [(a0,.loc),(a1,.loc),(a2,.loc)] A env O L m J HJ nx R [.own i,.int (.lit (.ofNat top)),.nul] i (.ofNat top) a b s:=⟨Hh,En,SJ,Lo1,jk,rfl,rfl,sa,n,t,u,ha,o1⟩
 have fin:∀(m':Str->Option Value) (s':Shared) (dd:Int) (td:Tok),gE x d [(a0,.loc),(a1,.loc),(a2,.loc)] A env O L m' J HJ nx R [.own i,.int (.lit (.ofNat top)),.nul] i (.ofNat top) (eX a b top).2.1 (eX a b top).2.2 s'->dd=((eX a b top).1:Int)->Q (.ret (.int dd td)) s':=by
  intro m' s' dd td P' hdd
  obtain ⟨sa',n',t',u',b1,b2⟩:=P'.obj
  rw [ha] at b1; cases b1
  have bnds:0<=(eX a b top).2.1/\0<=(eX a b top).2.2/\(eX a b top).2.2<2147483647:=by
   unfold eX
   split
   ·exact ⟨Int.fdiv_nonneg ha0 (by lia),hb0,hb1⟩
   ·exact ⟨ha0,Int.fmod_nonneg_of_pos _ (by decide),Int.fmod_lt_of_pos _ (by decide)⟩
  have S1:St x J H' nx R O L m' s':=P'.S.reg ha b2 (.pool n' t' u' bnds.1 bnds.2.1 bnds.2.2 hF') (fun k=>by
   rw [hA k]
   by_cases q:k=i
   ·rw [if_pos q,if_pos q]
   ·rw [if_neg q,if_neg q,hJ k,if_neg q])
  obtain ⟨le,S2⟩:=(S1.ns' hp rn')
  refine hQ _ H' nx R' [.own i,.int (.lit (.ofNat top))] m' s' (.ret (.int e)) _ le S2 (fun j i' kd hj=>?_) ?_ hk
  ·match j,hj with
   | 0,hj=>obtain ⟨y,y1,y2,y3⟩:=(P'.Lo.more le) 0 i' kd hj; exact ⟨y,y1,y2,y3⟩
   | 1,hj=>obtain ⟨y,y1,y2,y3⟩:=(P'.Lo.more le) 1 i' kd hj; exact ⟨y,y1,y2,y3⟩
   | 2,hj=>obtain ⟨y,y1,y2,y3⟩:=(P'.Lo.more le) 2 i' kd hj; exact ⟨y,y1,y2,y3⟩
   | j+3,hj=>simp at hj
  ·rw [hdd,<- ev]
   exact .ret (.int td ek)
 refine wpAny_execs_cons (wpAny_If (wpAny_isTrue_Compare1 (g0 A env O L m J HJ nx R _ i _ a b s _ E P c0 c1 hb0 hb1 fun ta tk=>g1 A env O L m J HJ nx R _ i _ a b _ _ E (P.tok tk) c0 c1 hb0 hb1 fun tb tk2=>PyProof.Rows.gt_int (wpAny_truthy_bool ?_)) hm))
 have P1:=(P.tok tk).tok tk2
 cases q:decide ((0:Int)<a) with
 | true=>
  have pa:0<a:=of_decide_eq_true q
  have dr:eX a b top=((Int.fmod a top).toNat,Int.fdiv a top,b):=by unfold eX; rw [if_pos pa]
  show wpAny _ _ (execs _ env) _ _ _
  refine lr hc2 rfl rfl (g2 A env O L m J HJ nx R _ i _ a b _ _ E P1 c0 c1 hb0 hb1 fun td tk3=>?_)
  refine wpAny_assign_Name (wpAny_storeName_local (m:=m) w2 (w1▸P1.S.fr.ns) (fun h' hn hsb=>?_) (by rw [En.kind]; rfl))
  rw [w1] at hn hsb
  have nL:=P1.S.led.notL
  let m2:Str->Option Value:=fun y=>if y=t2 then some (.int (Int.fmod a (Int.ofNat top)) td) else m y
  have S2:St x J HJ nx R O L m2 { s with heap:=h',toks:=tk3+1 }:=⟨P1.S.led.keep fun a ha=>hsb.2 a fun e=>nL (e▸ha),P1.S.nx,P1.S.fr.set hn hsb,P1.S.gens,P1.S.rn⟩
  have Lo2:bq x J env L m2 [(a0,.loc),(a1,.loc),(a2,.loc)] [.own i,.int (.lit (.ofNat top)),.nul]:=fun j i' kd hj=>by
   match j,hj with
   | 0,hj=>cases hj; exact ⟨t0,n0,d0,p1,p2,fun q0=>⟨_,by show (if t0=t2 then _ else _)=_; rw [if_neg ne0]; exact m0,.own ha⟩⟩
   | 1,hj=>cases hj; exact ⟨t1,n1,d1,r1,r2,fun q0=>⟨_,by show (if t1=t2 then _ else _)=_; rw [if_neg ne1]; exact m1,i1⟩⟩
   | 2,hj=>cases hj; exact ⟨t2,n2,d2,w1,w2,fun q=>absurd rfl q⟩
   | j+3,hj=>simp at hj
  have hsa:h'.get? sa=some (listOf #[.int a t,.int b u] n):=by
   rw [hsb.2 sa fun q=>nL (q▸List.mem_of_getElem? ha)]; exact o1
  have P2:gE x d [(a0,.loc),(a1,.loc),(a2,.loc)] A env O L m2 J HJ nx R [.own i,.int (.lit (.ofNat top)),.nul] i (.ofNat top) a b { s with heap:=h',toks:=tk3+1 }:=⟨Hh,En,S2,Lo2,jk,rfl,rfl,sa,n,t,u,ha,hsa⟩
  refine lr hc5 rfl rfl (g5 A env O L m2 J HJ nx R _ i _ a b _ _ E P2 c0 c1 hb0 hb1 fun te tk4=>?_)
  refine uJ 0 rfl n0 (P2.tok tk4) (.inl rfl) (fun s' P3=>?_) _ _ _ _
  rw [if_pos rfl,if_pos rfl] at P3
  refine wpAny_execs_cons (wpAny_Return_some (wpAny_Name (wpAny_loadName_local En.kind w2 (w1▸P3.S.fr.ns) (if_pos rfl) ?_) d2))
  refine fin m2 s' _ td ?_ ?_
  ·rw [dr]; exact P3
  ·rw [dr]
   have:=Int.fmod_nonneg_of_pos a c0
   show Int.fmod a (Int.ofNat top)=((Int.fmod a top).toNat:Int)
   simp only [Int.ofNat_eq_natCast] at this ⊢
   lia
 | false=>
  have pa:¬ 0<a:=of_decide_eq_false q
  have dr:eX a b top=((Int.fmod (Int.fdiv (Int.fmod (Int.fmod (b * 39373+7) 2147483647 * Int.fmod (b * 39373+7) 2147483647) 2147483629) 32) top).toNat,a,Int.fmod (b * 39373+7) 2147483647):=by unfold eX; rw [if_neg pa]
  show wpAny _ _ (execs [] env) _ _ _
  refine wpAny_execs_nil ?_
  show wpAny _ _ (execs _ env) _ _ _
  refine lr hc8 rfl rfl (g8 A env O L m J HJ nx R _ i _ a b _ _ E P1 c0 c1 hb0 hb1 fun td tk3=>?_)
  refine uJ 1 rfl n0 (P1.tok tk3) (.inr rfl) (fun s' P3=>?_) _ _ _ _
  rw [if_neg (by decide),if_neg (by decide)] at P3
  have z0:=Int.fmod_nonneg_of_pos (b * 39373+7) (show (0:Int)<2147483647 by decide)
  have z1:=Int.fmod_lt_of_pos (b * 39373+7) (show (0:Int)<2147483647 by decide)
  refine wpAny_execs_cons (wpAny_Return_some (g9 A env O L m J HJ nx R _ i _ a _ s' _ E P3 c0 c1 z0 z1 fun te tk4=>?_))
  refine fin m _ _ te ?_ ?_
  ·rw [dr]; exact P3.tok tk4
  ·rw [dr]
   have:=Int.fmod_nonneg_of_pos (Int.fdiv (Int.fmod (Int.fmod (b * 39373+7) 2147483647 * Int.fmod (b * 39373+7) 2147483647) 2147483629) 32) c0
   simp only [Int.ofNat_eq_natCast] at this ⊢
   lia
end
end
section
section
variable {x:aQ} {d:Nat} {vs:aq} {J:az} {H:Tr} {nx:Nat} {R:Rn} {O:Heap} {L:Addr} {m:Str->Option Value} {s:Shared} {A:Around} {E:Value->Shared->Prop} {Q:Value->Shared->Prop} {k:KV} {env:Env} {loc:List GV}
def pd(x:aQ)(C:Nat)(t:Str):Prop:=∀cx,x.CT[C]?=some cx->aS { x with CT:=[cx] } t
def t6(C0 a:Nat)(o g:GV)(H:Tr)(k:Tr->Bool):Bool:=eD g (bU o fun i=>hV (H.get i) fun C dd=>@Bool.rec (fun q0=>Bool) false (eW (H.get dd) fun es=>@Bool.rec (fun q0=>Bool) false (gO a g es fun es=>H.set 24 dd (.idict es) k) (ml 100 es)) (Nat.beq C C0))
theorem wh(hT:x.T.Nodup){C0 a:Nat}{t:Str}(ht:x.T[a]?=some t)(la:a<x.nd)(hn:pd x C0 t){o g:GV}{k:Tr->Bool}(h:t6 C0 a o g H k=true)(Hh:cj x d A O L)(S:St x J H nx R O L m s){u v:Value}(iu:Is x.T J o u)(iv:Is x.T J g v)
  {Q:Unit->Shared->Prop} (hQ:∀H' s',k H'=true->St x J H' nx R O L m s'->Q () s'):wpAny (model x.prog x.w) A (setAttr u t v) Q E s:=by
 symm
 obtain ⟨q0,h1⟩:=cP h
 obtain ⟨i,rfl,h2⟩:=bn h1
 obtain ⟨C,dd,hi,h2b⟩:=fc h2
 obtain ⟨hC,h3⟩:=aJ h2b
 have hC:=Nat.eq_of_beq_eq_true hC
 subst hC
 obtain ⟨es,hd,h4⟩:=dK h3
 obtain ⟨hz,h5⟩:=aJ h4
 obtain ⟨q0,rfl,ha⟩:=iu
 obtain ⟨cx,dx,ds,n,c1,c2,c3,c4⟩:=(S.led.inst (l:=0) hi hd ha)
 obtain ⟨n1,n2,n3,n4,n5,n6⟩:=(hn cx c1 cx (.head _))
 obtain ⟨es',h6,h7⟩:=(dy.put hT (hs:=PyData.keyHash x.w.params t) ht la iv (s.toks+1) c3 h5)
 obtain ⟨H',hA,h8⟩:=Tr.set_ok _ _ _ _ _ h6
 obtain ⟨os,hos,el,N⟩:=S.led.at_
 obtain ⟨od,hod⟩:∃od,os[dd]?=some od:=⟨_,List.getElem?_eq_getElem (el▸aN c2)⟩
 symm
 have eod:od=dictOf ds n:=by
  have z1:=(N _ (cn c2 hod)).1
  have z2:s.heap.get? dx=some (dictOf ds n):=c4.dict
  exact Option.some.inj (z1.symm.trans z2)
 subst eod
 refine set_dict S.fr Hh.X N c4 rfl n4 n5 n6 n2 (c3.isSome t) rfl (ey S.led.nod c2 hod) ?_ fun h' F' N'=>hQ H' _ h8 (S.set hos el F' c2 N' (.idict _ h7) hA (s.toks+2))
 have:=iL t (PyData.keyHash x.w.params t) (.str t (s.toks+1)) v ds
 have:=iX hz
 rw [c3.length] at this
 lia
def BK(C0:Nat)(f:EV)(a:Nat):AV:=fun g H nx R loc k=>f H nx R loc fun o H nx R=>t6 C0 a o g H fun H=>k H nx R loc
theorem wn(hT:x.T.Nodup){C0:Nat}{f:EV}{o:Expr}(hf:aK x d vs f o){a:Nat}{t:Str}(ht:x.T[a]?=some t)(la:a<x.nd)(hn:pd x C0 t)(pos:Pos):dP x d vs (BK C0 f a) (.Attribute o t pos):=by
 intro g H nx R loc k h A env O L m J s v Q E Hh En S Lo iv hQ
 refine kas_attr (hf H nx R loc _ h A env O L m J s _ E Hh En S Lo fun J1 H1 nx1 R1 s1 o v1 le1 S1 i1 h1=>?_)
 exact wh hT ht la hn h1 Hh S1 i1 (iv.more le1) fun H' s' hk S'=>hQ J1 H' nx1 R1 loc m s' le1 S' (Lo.more le1) hk
noncomputable def bw:SV:=fun q0 q0 q0 q0 q0=>false
theorem bf{b:List Stmt}:au x d vs bw b:=fun q0 q0 q0 q0 q0 h=>by cases h
theorem cj.less{d':Nat}(h:d<=d')(H:cj x d' A O L):cj x d A O L:=⟨H.below,H.X,H.top,by have:=H.room; lia,H.hnd,by have:=H.units; lia⟩
theorem cK.more{d':Nat}{f:ce}{v:Value}(h:d<=d')(o:cK x d f v):cK x d' f v:=fun gs H nx R k e A O L m J s us Q E Hh=>o gs H nx R k e A O L m J s us Q E (Hh.less h)
theorem au.more{d':Nat}{f:SV}{b:List Stmt}(h:d<=d')(o:au x d vs f b):au x d' vs f b:=fun H nx R loc k e A env O L m J s Q E Hh=>o H nx R loc k e A env O L m J s Q E (Hh.less h)
noncomputable def zH(l:List Expr):Bool:=l.any fun e=>iN e 23
theorem aU.more{d':Nat}{r:aE}{aO:SV}{fa:Addr}(h:d<=d')(o:aU x d r aO fa):aU x d' r aO fa:=⟨o.ok.imp fun q0=>Exists.imp fun q0=>Exists.imp fun q0=>And.imp_right fun g=>g.more h,o.keep,o.fn⟩
theorem wi{α β:Type}{F:α->Option β}{l:List α}{y:α}(hy:y∈l)(hn:F y=none):(l.filterMap F).length<l.length:=by
 induction l with
 | nil=>cases hy
 | cons a r ih=>
  cases q:F a with
  | none=>rw [List.filterMap_cons_none q]; exact Nat.lt_succ_of_le (List.length_filterMap_le F r)
  | some b=>
   rw [List.filterMap_cons_some q]
   rcases List.mem_cons.mp hy with rfl | hy
   ·rw [q] at hn; cases hn
   ·exact Nat.succ_lt_succ (ih hy)
theorem IH{α:Type}{c:Prop}[Decidable c]{x:Sem (Option α)}(h:¬c->x=pure none):(if c then pure none else x)=pure none:=by
 by_cases q:c
 ·rw [if_pos q]
 ·rw [if_neg q]; exact h q
theorem tq{ts es:List Expr}{k1 k2:Nat}{p1 p2:Pos}(h:zH ts=true):swappedStores [.Tuple ts k1 p1] (.Tuple es k2 p2) env=pure none:=by
 refine IH fun q0=>IH fun q0=>IH fun q=>absurd ?_ q
 obtain ⟨y,hy,hn⟩:=(List.any_eq_true.mp h)
 rw [Bool.or_eq_true]
 left
 rw [bne_iff_ne]
 refine Nat.ne_of_lt (wi hy ?_)
 clear hy q h
 cases y <;> first | rfl | exact nope hn
theorem tn{a:AV}{f:EV}{r:SV}{ts es:List Expr}{k1 k2:Nat}{p1 p2:Pos}{rest:List Stmt}(ha:dP x d vs a (.Tuple ts k1 p1))(hf:aK x d vs f (.Tuple es k2 p2))(hr:au x d vs r rest)(hn:zH ts=true)(pos:Pos):au x d vs (aB a f r) (.Assign [.Tuple ts k1 p1] (.Tuple es k2 p2) pos::rest):=by
 intro H nx R loc k h A env O L m J s Q E Hh En S Lo hQ
 refine ec hr Hh En hQ ?_
 refine wpAny_Assign_stores (hf H nx R loc _ h A env O L m J s _ E Hh En S Lo fun J1 H1 nx1 R1 s1 g v le1 S1 i1 hk=>?_) rfl (tq hn)
 rw [cT rfl env]
 exact ha g H1 nx1 R1 loc _ hk A env O L m J1 s1 v _ E Hh En S1 (Lo.more le1) i1 fun J2 H2 nx2 R2 loc2 m2 s2 le2 S2 Lo2 hk2=>ef (le1.trans le2) S2 Lo2 hk2
end
end
section
noncomputable def lH(h:Heap)(L:Addr):Heap:=⟨h.objs.extract 0 L,h.life⟩
theorem xE(h:Heap)(L:Addr):(lH h L).objs.size<=L:=by
 unfold lH
 simp only [Array.size_extract]
 exact Nat.le_trans (Nat.sub_le _ _) (Nat.min_le_left _ _)
theorem BB{h:Heap}{L b:Addr}{o:Obj}(e:(lH h L).get? b=some o):h.get? b=some o:=by
 unfold Heap.get? lH at *
 by_cases q:@LT.lt Nat _ b L/\@LT.lt Nat _ b h.objs.size
 ·have:(h.objs.extract 0 L)[b]?=h.objs[b]?:=by
   rw [Array.getElem?_extract,if_pos (Nat.lt_sub_of_add_lt (Nat.lt_min.mpr q)),Nat.zero_add]
  dsimp only at e
  rwa [this] at e
 ·have:(h.objs.extract 0 L)[b]?=none:=by
   rw [Array.getElem?_eq_none_iff,Array.size_extract]
   lia
  dsimp only at e
  rw [this] at e
  cases e
theorem zb{h:Heap}{L b:Addr}{o:Obj}(lt:@LT.lt Nat _ b L)(e:h.get? b=some o):(lH h L).get? b=some o:=by
 have q:@LT.lt Nat _ b h.objs.size:=Heap.lt_size e
 have:(h.objs.extract 0 L)[b]?=h.objs[b]?:=by
  rw [Array.getElem?_extract,if_pos (Nat.lt_sub_of_add_lt (Nat.lt_min.mpr ⟨lt,q⟩)),Nat.zero_add]
 unfold Heap.get? lH at *
 dsimp only
 rwa [this]
theorem hW{base h h':Heap}(hk:∀b o,h.get? b=some o->h'.get? b=some o):∀{l:List Env},h.FunFrames base l->h'.FunFrames base l
 | [],_=>trivial
 | env::_,⟨a,⟨L,o,hf,hn,ho,hd⟩,hr⟩=>⟨a,⟨L,o,hf,hn,hk _ _ ho,hd⟩,hW hk hr⟩
structure acD (x:aQ) (d:Nat) (r:aE) (aO:SV) (fa:Addr):Prop where
 ok:∃vs body D,br x vs r fa body D/\vX x d vs aO body
end
section
def Bp(g:GV)(k:Value->Bool):Bool:=@GV.rec (fun q0=>Bool) false false (fun q0=>false) (fun q0=>false) (fun q0=>false) (fun q0=>false) (fun v=>k v) (fun q0=>false) false g
theorem wx{g:GV}{k:Value->Bool}(h:Bp g k=true):∃v,g=.old v/\k v=true:=by cases g <;> first | (cases h; done) | exact ⟨_,rfl,h⟩
def jw(x:aQ)(v:Value):Prop:=∃sa o es n,v=.ref sa/\x.K.lookup sa=some o/\o.cls=.type "list"/\o.data=.seq es n/\es.size<=100000/\∀(j:Nat) u,es[j]?=some u->∃i t,u=.int i t
noncomputable def pX(c:Int):Int:=if (-1 - c) > c then -1 - c else c
noncomputable def kb(w:Int):Int:=Int.fmod ((Int.fmod w 2147483629+17) * 48271) 2147483647
noncomputable def iS(w:Int):Int:=if 10 ^ 18<=w then w else 0
theorem ww(w:Int):0<=kb w/\kb w<2147483647:=⟨Int.fmod_nonneg_of_pos _ (by decide),Int.fmod_lt_of_pos _ (by decide)⟩
theorem Iu(w:Int):0<=iS w:=by unfold iS; split <;> lia
section
variable {x:aQ} {d:Nat} {vs:aq} {J:az} {H:Tr} {nx:Nat} {R:Rn} {O:Heap} {L:Addr} {m:Str->Option Value} {s:Shared} {A:Around} {E:Value->Shared->Prop} {env:Env} {loc:List GV}
open Classical in
def pR(v0:Value)(c0:Int):EV:=fun H nx R loc k=>@Bool.rec (fun q0=>Bool) false (k (.int (.lit c0)) H nx R) (decide (ba loc 0=.old v0))
def tQ:EV:=fun H nx R loc k=>eG (ba loc 1) fun c=>k (.int (.lit (pX c))) H nx R
def ur:EV:=fun H nx R loc k=>eG (ba loc 2) fun w=>mk (.pool []) H nx R k
theorem w5{i a:Nat}{t:Str}{g:GV}(hv:vs[i]?=some (a,.loc))(ht:x.T[a]?=some t)(En:bP env L)(S:St x J H nx R O L m s)(Lo:bq x J env L m vs loc)(hg:ba loc i=g)(n:g≠.nul){Q:Value->Shared->Prop}(hQ:∀v,Is x.T J g v->Q v s)(p:Pos) :
  wpAny (model x.prog x.w) A (eval (.Name t p) env) Q E s:=by
 obtain ⟨t',ht',hd,h1,h2,h3⟩:=(Lo i a .loc hv)
 rw [ht] at ht'; cases ht'
 rw [hg] at h3
 obtain ⟨v,mv,iv⟩:=(h3 n)
 exact wpAny_Name (wpAny_loadName_local En.kind h2 (h1▸S.fr.ns) mv (hQ v iv)) hd
def d5(x:aQ)(A:Around)(env:Env)(s:Shared)(e:Expr)(n:Int):Prop:=∀(tk:Nat) (Q E:Value->Shared->Prop),(∀t tk',Q (.int n t) { s with toks:=tk' })->wpAny (model x.prog x.w) A (eval e env) Q E { s with toks:=tk }
theorem d5.name{i a:Nat}{t:Str}{w:Int}(hv:vs[i]?=some (a,.loc))(ht:x.T[a]?=some t)(En:bP env L)(S:St x J H nx R O L m s)(Lo:bq x J env L m vs loc)(hg:ba loc i=.int (.lit w))(p:Pos):d5 x A env s (.Name t p) w:=fun tk Q E hQ=>
 w5 hv ht En (S.tok tk) Lo hg (by intro q; cases q) (fun v iv=>by obtain ⟨t,rfl,o⟩:=iv; exact hQ t tk) p
theorem d5.const(n:Int)(kd:Nat)(p:Pos):d5 x A env s (.Constant (.int n) kd p) n:=fun tk Q E hQ=>wpAny_Constant_int (hQ _ _)
theorem d5.bin{op:Operator}{e f:Expr}{a b r:Int}(he:d5 x A env s e a)(hf:d5 x A env s f b)(ho:∀(tk:Nat) (t u:Tok) (Q E:Value->Shared->Prop),(∀t tk',Q (.int r t) { s with toks:=tk' })->wpAny (model x.prog x.w) A (binaryOp op (.int a t) (.int b u)) Q E { s with toks:=tk })(p:Pos):d5 x A env s (.BinOp e op f p) r:=fun tk Q E hQ=>
 wpAny_BinOp (he tk _ E fun t tk1=>hf tk1 _ E fun u tk2=>ho tk2 t u Q E hQ)
theorem d5.mod{e f:Expr}{a b:Int}(he:d5 x A env s e a)(hf:d5 x A env s f b)(hb:(0:Int)<b)(p:Pos):d5 x A env s (.BinOp e .Mod f p) (Int.fmod a b):=
 he.bin hf (fun tk t u Q E hQ=>AutoIntOps.mod_1 (by simp only [beq_iff_eq]; lia) (show Q (.int (Int.fmod a b) tk) { s with toks:=tk+1 } from hQ _ _)) p
theorem d5.add{e f:Expr}{a b:Int}(he:d5 x A env s e a)(hf:d5 x A env s f b)(p:Pos):d5 x A env s (.BinOp e .Add f p) (a+b):=
 he.bin hf (fun tk t u Q E hQ=>AutoIntOps.add_0 (show Q (.int (a+b) tk) { s with toks:=tk+1 } from hQ _ _)) p
theorem d5.mul{e f:Expr}{a b:Int}(he:d5 x A env s e a)(hf:d5 x A env s f b)(h0:0<=a)(h1:a<4294967296)(p:Pos):d5 x A env s (.BinOp e .Mult f p) (a * b):=
 he.bin hf (fun tk t u Q E hQ=>AutoIntOps.mul_0 (show Q (.int (a * b) tk) { s with toks:=tk+1 } from hQ _ _) (IntMulOk.of_left (intBits_le_64 (by lia) (by lia)))) p
theorem d5.pow(k1 k2:Nat)(p1 p2 p:Pos):d5 x A env s (.BinOp (.Constant (.int 10) k1 p1) .Pow (.Constant (.int 18) k2 p2) p) (10 ^ 18):=
 (d5.const 10 k1 p1).bin (d5.const 18 k2 p2) (fun tk t u Q E hQ=>AutoIntOps.pow_4 (by decide) (by decide) (by decide) (by decide) (by decide +kernel) (show Q (.int (10 ^ 18) tk) { s with toks:=tk+1 } from hQ _ _)) p
open Classical in
theorem FA{a0 a3:Nat}{t0 t3:Str}{v0:Value}(hv0:vs[0]?=some (a0,.loc))(ht0:x.T[a0]?=some t0)(hv3:vs[3]?=some (a3,.glo))(ht3:x.T[a3]?=some t3)(hm:bp x t3 (.builtin "len"))(sc:jw x v0) :
  ∃c0:Int,∀(p1 p2 p3 p4 p5 p6 p7 p8 p9 p10:Pos) (k1 k2 k3:Nat),aK x d vs (pR v0 c0)
   (.IfExp (.Compare (.Call (.Name t3 p1) [.Name t0 p2] [] p3) [.Gt] [.Constant (.int 0) k1 p4] p5) (.Subscript (.Name t0 p6) (.Constant (.int 0) k2 p7) p8) (.Constant (.int 0) k3 p9) p10):=by
 symm
 obtain ⟨sa,o,es,n,rfl,hlook,hcls,hdat,hsz,hint⟩:=sc
 symm
 refine ⟨match es[0]? with | some (Value.int i _)=>i | _=>0,?_⟩
 intro p1 p2 p3 p4 p5 p6 p7 p8 p9 p10 k1 k2 k3 H nx R loc k h A env O L m J s Q E Hh En S Lo hQ
 obtain ⟨hl,hk⟩:=aJ h
 have hl:ba loc 0=.old (.ref sa):=of_decide_eq_true hl
 have X:=Hh.X
 refine wpAny_IfExp (wpAny_isTrue_Compare1 (Call_Name rfl (iJ hv3 ht3 hm Hh En S Lo ?_ _)) rfl)
 refine fw (first:=[]) (l:=af (ah 0) aj) (kl:=fun gs H' nx' R'=>decide (gs=[.old (.ref sa)]/\H'=H/\nx'=nx/\R'=R)) (gK (kL hv0 ht0 _) lc rfl) rfl ?_ Hh En S Lo (fun J' H' nx' R' s' gs us le S' i hk'=>?_)
 ·show eD (ba loc 0) (decide ([ba loc 0]=[.old (.ref sa)]/\H=H/\nx=nx/\R=R))=true
  rw [hl]
  exact decide_eq_true ⟨rfl,rfl,rfl,rfl⟩
 symm
 obtain ⟨rfl,rfl,rfl,rfl⟩:=(of_decide_eq_true hk')
 symm
 cases i with
 | cons i1 i2=>
 cases i2
 cases i1
 have isl:s'.heap.IsList sa es:=⟨o,(X.keeps S'.fr.keep) _ _ hlook,hcls,n,hdat⟩
 refine call_len_list isl (by lia) (wpAny_Constant_int (PyProof.Rows.gt_int (wpAny_truthy_bool ?_)))
 have Lo':=Lo.more le
 cases q:decide ((0:Int)<(es.size:Int)) with
 | true=>
  have q:=of_decide_eq_true q
  have lt:0<es.size:=by lia
  obtain ⟨i,t,hi⟩:=(hint 0 _ (Array.getElem?_eq_getElem lt))
  have e0:es[0]?=some (.int i t):=(Array.getElem?_eq_getElem lt).trans (congrArg some hi)
  rw [e0] at hk
  refine Subscript_ (w5 hv0 ht0 En ((S'.tok _).tok _) Lo' hl (by intro q; cases q) (fun v iv=>?_) _)
  cases iv
  refine wpAny_Constant_int ?_
  refine tail_any (Heap.IsList.typeIs (s:={ s' with toks:=_ }) isl) slot_list_getitem.lookup ?_ (by with_unfolding_all rfl)
  refine wpAny_getItem_list (s:={ s' with toks:=_ }) isl (by decide) (by decide) e0 ?_
  exact hQ _ _ _ _ _ _ _ le (S'.tok _) (.int (e:=.lit i) t trivial) hk
 | false=>
  have q:=of_decide_eq_false q
  have e0:es[0]?=none:=Array.getElem?_eq_none (by lia)
  rw [e0] at hk
  exact wpAny_Constant_int (hQ _ _ _ _ _ _ _ le (S'.tok _) (.int (e:=.lit 0) _ trivial) hk)
open Classical in
theorem FY{a1 a4:Nat}{t1 t4:Str}(hv1:vs[1]?=some (a1,.loc))(ht1:x.T[a1]?=some t1)(hv4:vs[4]?=some (a4,.glo))(ht4:x.T[a4]?=some t4)(hm:bp x t4 (.builtin "max"))(p1 p2 p3 p4 p5 p6 p7:Pos)(k1:Nat) :
  aK x d vs tQ (.Call (.Name t4 p1) [.Name t1 p2,.BinOp (.UnaryOp .USub (.Constant (.int 1) k1 p3) p4) .Sub (.Name t1 p5) p6] [] p7):=by
 intro H nx R loc k h A env O L m J s Q E Hh En S Lo hQ
 obtain ⟨c,hl,hk⟩:=cM h
 refine Call_Name rfl (iJ hv4 ht4 hm Hh En S Lo ?_ _)
 refine fw (first:=[]) (l:=af (ah 1) (af (dg Et (xd rx (bj (.int (.lit (.ofNat 1))))) (ah 1)) aj)) (kl:=fun gs H' nx' R'=>decide (gs=[.int (.lit c),.int (.lit (-1 - c))]/\H'=H/\nx'=nx/\R'=R))
  (gK (kL hv1 ht1 _) (gK (bK Dm (mx lk (Fq (.int _) _ _) _) (kL hv1 ht1 _) _) lc rfl) rfl) rfl ?_ Hh En S Lo (fun J' H' nx' R' s' gs us le S' i hk'=>?_)
 ·show eD (ba loc 1) (eD (ba loc 1) (eG (ba loc 1) fun j=>fI (Int.sub (-1) j) fun r=>decide ([ba loc 1,.int (.lit r)]=[.int (.lit c),.int (.lit (-1 - c))]/\H=H/\nx=nx/\R=R)))=true
  rw [hl]
  show fI (Int.sub (-1) c) (fun r=>decide ([GV.int (.lit c),.int (.lit r)]=[.int (.lit c),.int (.lit (-1 - c))]/\H=H/\nx=nx/\R=R))=true
  rw [lV]
  exact decide_eq_true ⟨rfl,rfl,rfl,rfl⟩
 symm
 obtain ⟨rfl,rfl,rfl,rfl⟩:=(of_decide_eq_true hk')
 obtain ⟨q0,q0,rfl,i1,i2⟩:=fA i
 obtain ⟨q0,q0,rfl,i2,i3⟩:=fA i2
 obtain rfl:=nJ i3
 obtain ⟨t,rfl,ok1⟩:=i1
 obtain ⟨u,rfl,zh⟩:=i2
 obtain ⟨os,hos,el,N⟩:=S'.led.at_
 symm
 refine max_two_N Hh.hnd S'.fr N fun h' tk F' N'=>?_
 have S2:St x J' H' nx' R' O L m { s' with heap:=h',toks:=tk }:=⟨⟨S'.led.nod,os,hos,el,N'⟩,S'.nx,F',S'.gens,S'.rn⟩
 exact hQ _ _ _ _ _ _ _ le S2 (.int (e:=.lit (pX c)) _ trivial) hk
def Ez:EV:=fun H nx R loc k=>eG (ba loc 2) fun w=>k (.int (.lit (iS w))) H nx R
def AQ:EV:=fun H nx R loc k=>eG (ba loc 2) fun w=>k (.int (.lit (kb w))) H nx R
theorem FZ{a2:Nat}{t2:Str}(hv2:vs[2]?=some (a2,.loc))(ht2:x.T[a2]?=some t2)(p1 p2 p3 p4 p5 p6 p7 p8:Pos)(k1 k2 k3:Nat) :
  aK x d vs Ez (.IfExp (.Compare (.Name t2 p1) [.GtE] [.BinOp (.Constant (.int 10) k1 p2) .Pow (.Constant (.int 18) k2 p3) p4] p5) (.Name t2 p6) (.Constant (.int 0) k3 p7) p8):=by
 intro H nx R loc k h A env O L m J s Q E Hh En S Lo hQ
 obtain ⟨w,hl,hk⟩:=cM h
 refine wpAny_IfExp (wpAny_isTrue_Compare1 (d5.name hv2 ht2 En S Lo hl p1 s.toks _ _ fun t tk=>d5.pow k1 k2 p2 p3 p4 tk _ _ fun u tk2=>P.ge_int (wpAny_truthy_bool ?_)) rfl)
 cases q:decide ((10 ^ 18:Int)<=w) with
 | true=>
  have z:iS w=w:=by unfold iS; rw [if_pos (of_decide_eq_true q)]
  exact d5.name hv2 ht2 En S Lo hl p6 _ _ _ fun t tk3=>hQ _ _ _ _ _ _ _ (.refl _) (S.tok _) (by rw [z]; exact .int (e:=.lit w) t trivial) hk
 | false=>
  have z:iS w=0:=by unfold iS; rw [if_neg (of_decide_eq_false q)]
  exact wpAny_Constant_int (hQ _ _ _ _ _ _ _ (.refl _) (S.tok _) (by rw [z]; exact .int (e:=.lit 0) _ trivial) hk)
theorem Dx{a2:Nat}{t2:Str}(hv2:vs[2]?=some (a2,.loc))(ht2:x.T[a2]?=some t2)(p1 p2 p3 p4 p5 p6 p7 p8 p9:Pos)(k1 k2 k3 k4:Nat) :
  aK x d vs AQ (.BinOp (.BinOp (.BinOp (.BinOp (.Name t2 p1) .Mod (.Constant (.int 2147483629) k1 p2) p3) .Add (.Constant (.int 17) k2 p4) p5) .Mult (.Constant (.int 48271) k3 p6) p7) .Mod (.Constant (.int 2147483647) k4 p8) p9):=by
 intro H nx R loc k h A env O L m J s Q E Hh En S Lo hQ
 obtain ⟨w,hl,hk⟩:=cM h
 have z1:=Int.fmod_nonneg_of_pos w (show (0:Int)<2147483629 by decide)
 have z2:=Int.fmod_lt_of_pos w (show (0:Int)<2147483629 by decide)
 exact ((((d5.name hv2 ht2 En S Lo hl p1).mod (d5.const _ k1 p2) (by decide) p3).add (d5.const _ k2 p4) p5).mul (d5.const _ k3 p6) (by lia) (by lia) p7).mod (d5.const _ k4 p8) (by decide) p9 s.toks _ _
  fun t tk=>hQ _ _ _ _ _ _ _ (.refl _) (S.tok _) (.int (e:=.lit (kb w)) t trivial) hk
open Classical in
theorem CN{e1 e2:Expr}(h1:aK x d vs Ez e1)(h2:aK x d vs AQ e2)(n1:bZ e1=true)(n2:bZ e2=true)(pos:Pos):aK x d vs ur (.List [e1,e2] pos):=by
 intro H nx R loc k h A env O L m J s Q E Hh En S Lo hQ
 obtain ⟨w,hl,hk⟩:=cM h
 refine List_ ((gK h1 (gK h2 lc n2) n1) H nx R loc (fun gs H' nx' R'=>decide (gs=[.int (.lit (iS w)),.int (.lit (kb w))]/\H'=H/\nx'=nx/\R'=R)) ?_ A env O L m J s pos _ E Hh En S Lo fun J' H' nx' R' s' gs us le S' hgs hk'=>?_)
 ·show eG (ba loc 2) (fun w'=>eG (ba loc 2) fun w''=>decide ([GV.int (.lit (iS w')),.int (.lit (kb w''))]=[.int (.lit (iS w)),.int (.lit (kb w))]/\H=H/\nx=nx/\R=R))=true
  rw [hl]
  exact decide_eq_true ⟨rfl,rfl,rfl,rfl⟩
 symm
 obtain ⟨rfl,rfl,rfl,rfl⟩:=(of_decide_eq_true hk')
 obtain ⟨os,hos,e,N⟩:=S'.led.at_
 obtain ⟨q0,q0,rfl,i1,i2⟩:=fA hgs
 obtain ⟨q0,q0,rfl,i2,i3⟩:=fA i2
 obtain rfl:=nJ i3
 obtain ⟨t,rfl,ok1⟩:=i1
 obtain ⟨u,rfl,zh⟩:=i2
 symm
 exact newList_K S'.fr N (fun D h' F' N' lt=>gr hk S' (hQ.le le) hos e F' N' lt (.pool 0 t u (Iu w) (ww w).1 (ww w).2 trivial) s'.toks) (by show 2<=sizeLine; decide)
def pi(v0:Value)(c0:Int):SV:=aB (bu 1) (pR v0 c0) (aB (bu 2) tQ (bC ur))
def Ey(c:Value->Bool):SV:=fun H nx R loc k=>Bp (ba loc 0) fun v=>@Bool.rec (fun q0=>Bool) false (c v) (mk (.pool []) H nx R fun g H nx R=>k (.ret g) H nx R [])
open Classical in
theorem zM(v0:Value)(c0:Int)(k:KV)(r:List GV):pR v0 c0 H nx R (.old v0::r) k=k (.int (.lit c0)) H nx R:=by
 have e:decide (ba (.old v0::r) 0=.old v0)=true:=decide_eq_true rfl
 unfold pR
 rw [e]
theorem zp(a:GV)(c:Int)(k:KV)(r:List GV):tQ H nx R (a::.int (.lit c)::r) k=k (.int (.lit (pX c))) H nx R:=rfl
theorem AS(a b:GV)(w:Int)(k:KV)(r:List GV):ur H nx R (a::b::.int (.lit w)::r) k=mk (.pool []) H nx R k:=rfl
theorem FL(g a b c:GV)(k:Tr->Nat->Rn->List GV->Bool):bu 1 g H nx R [a,b,c] k=k H nx R [a,g,c]:=rfl
theorem FP(g a b c:GV)(k:Tr->Nat->Rn->List GV->Bool):bu 2 g H nx R [a,b,c] k=k H nx R [a,b,g]:=rfl
theorem Ah(v0:Value)(c0:Int)(k:KS):pi v0 c0 H nx R [.old v0,.nul,.nul] k=mk (.pool []) H nx R fun g H nx R=>k (.ret g) H nx R [.old v0,.int (.lit c0),.int (.lit (pX c0))]:=by
 unfold pi aB bC
 rw [zM,FL,zp,FP,AS]
theorem Bw{c:Value->Bool}{b:List Stmt}(hc:∀v,c v=true->jw x v)(hvs:(vs.all fun p=>match p.2 with | .loc=>true | .glo=>true | _=>false)=true)(hb:∀v0,jw x v0->∃c0,au x d vs (pi v0 c0) b):au x d vs (Ey c) b:=by
 intro H nx R loc k h A env O L m J s Q E Hh En S Lo hQ
 obtain ⟨v,l0,h1⟩:=wx h
 obtain ⟨h2,hcv⟩:=aJ h1
 obtain ⟨c0,hb⟩:=(hb v (hc v hcv))
 have Lo':bq x J env L m vs [.old v,.nul,.nul]:=fun j i' kd hj=>by
  obtain ⟨t,ht,hd,sl⟩:=(Lo j i' kd hj)
  refine ⟨t,ht,hd,?_⟩
  have hk:=List.all_eq_true.mp hvs _ (List.mem_of_getElem? hj)
  cases kd with
  | loc=>
   match j with
   | 0=>rw [l0] at sl; exact sl
   | 1=>exact ⟨sl.1,sl.2.1,fun n=>absurd rfl n⟩
   | 2=>exact ⟨sl.1,sl.2.1,fun n=>absurd rfl n⟩
   | j+3=>exact ⟨sl.1,sl.2.1,fun n=>absurd rfl n⟩
  | glo=>exact sl
  | cel=>cases hk
  | blk=>cases hk
 refine hb H nx R [.old v,.nul,.nul] (fun gf H nx R q0=>k gf H nx R []) ?_ A env O L m J s Q E Hh En S Lo' fun J' H' nx' R' loc' m' s' gf fl le S' Lo2 fi hk=>?_
 ·rw [Ah]
  exact h2
 ·refine hQ J' H' nx' R' [] m' s' gf fl le S' (fun j i' kd hj=>?_) fi hk
  obtain ⟨t,ht,hd,sl⟩:=(Lo2 j i' kd hj)
  refine ⟨t,ht,hd,?_⟩
  have hk:=List.all_eq_true.mp hvs _ (List.mem_of_getElem? hj)
  cases kd with
  | loc=>exact ⟨sl.1,sl.2.1,fun n=>absurd rfl n⟩
  | glo=>exact sl
  | cel=>cases hk
  | blk=>cases hk
end
end
section
inductive PV where
 | unk | none
 | bool (b:Bool)
 | int (v:Nat)
 | lit (i:Int)
 | str (i:Nat)
 | own (k:Nat)
def PV.g(p:PV):GV:=@PV.rec (fun q0=>GV) .unk .none (fun b=>.bool b) (fun v=>.int (.var v)) (fun i=>.int (.lit i)) (fun i=>.str i) (fun k=>.own k) p
inductive PO where
 | list (l:List PV)
 | tuple (l:List PV)
 | inst (C d:Nat)
 | idict (es:List (Nat × PV))
 | ds (es:List (Nat × PV))
 | di (es:List (Int × PV))
 | d0
 | flat (k:Nat)
 | oit
 | dm (es:List (Int × PV))
 | junk
 | pool (f:List (Nat × Nat))
 | row (n:Nat) (ss:List Nat)
 | dk (k:Nat) (p:PV)
 | riter (i n:Nat)
def CR(l:List PV):List GV:=@List.rec PV (fun q0=>List GV) [] (fun p q0 ih=>p.g::ih) l
def xU(l:List (Nat × PV)):List (Nat × GV):=@List.rec (Nat × PV) (fun q0=>List (Nat × GV)) [] (fun p q0 ih=>(p.1,p.2.g)::ih) l
def lx(l:List (Int × PV)):List (Int × GV):=@List.rec (Int × PV) (fun q0=>List (Int × GV)) [] (fun p q0 ih=>(p.1,p.2.g)::ih) l
def PO.g(p:PO):GO:=@PO.rec (fun q0=>GO) (fun l=>.list (CR l)) (fun l=>.tuple (CR l)) (fun C d=>.inst C d) (fun es=>.idict (xU es)) (fun es=>.ds (xU es)) (fun es=>.di (lx es)) .d0 (fun k=>.flat k) .oit (fun es=>.dm (lx es)) .junk (fun f=>.pool f) (fun n ss=>.row n ss) (fun k q=>.dk k q.g) (fun i n=>.riter i n) p
inductive Fl where
 | f (k:Nat)
 | t (l:List GV)
def BJ{α:Type}(l:List α)(n:Nat)(k:α->Bool):Bool:=@List.rec α (fun q0=>Nat->Bool) (fun q0=>false) (fun a q0 ih n=>@Nat.rec (fun q0=>Bool) (k a) (fun n q0=>ih n) n) l n
theorem qk{α:Type}:∀{l:List α} {n:Nat} {k:α->Bool},BJ l n k=true->∃a,l[n]?=some a/\k a=true
 | [],n,k,h=>by cases h
 | a::l,0,k,h=>⟨a,rfl,h⟩
 | a::l,n+1,k,h=>by rw [List.getElem?_cons_succ]; exact qk (l:=l) (n:=n) h
def gB(g:GV)(k:Bool->Bool):Bool:=@GV.rec (fun q0=>Bool) false false (fun b=>k b) (fun q0=>false) (fun q0=>false) (fun q0=>false) (fun q0=>false) (fun q0=>false) false g
theorem pu{g:GV}{k:Bool->Bool}(h:gB g k=true):∃b,g=.bool b/\k b=true:=by cases g <;> first | (cases h; done) | exact ⟨_,rfl,h⟩
def BA(a b:Bool):Bool:=@Bool.rec (fun q0=>Bool) (@Bool.rec (fun q0=>Bool) true false b) b a
theorem w8{a b:Bool}(h:BA a b=true):a=b:=by cases a <;> cases b <;> first | rfl | cases h
def jI(l:List GV):Bool:=@List.rec GV (fun q0=>Bool) true (fun q0 q0 q0=>false) l
noncomputable def lY(z k:Nat):Nat:=Nat.mod (Nat.div z (Nat.pow 16777216 k)) 16777216
noncomputable def nU(z k:Nat)(f:Nat->Bool):Bool:=@Nat.rec (fun q0=>Bool) false (fun j q0=>f j) (lY z k)
theorem kS{z k:Nat}{f:Nat->Bool}(h:nU z k f=true):∃j,lY z k=Nat.succ j/\f j=true:=by
 unfold nU at h
 cases q:lY z k with
 | zero=>rw [q] at h; cases h
 | succ j=>rw [q] at h; exact ⟨j,rfl,h⟩
def mH(a:Nat):Nat:=@Bool.rec (fun q0=>Nat) 0 (Nat.succ a) (Nat.ble (Nat.succ (Nat.succ a)) 16777216)
def iG(l:List Nat):Nat:=@List.rec Nat (fun q0=>Nat) 0 (fun a q0 ih=>Nat.add (mH a) (Nat.mul 16777216 ih)) l
theorem rK(a:Nat):mH a<16777216/\∀j,mH a=Nat.succ j->a=j:=by
 unfold mH
 cases q:Nat.ble (Nat.succ (Nat.succ a)) 16777216 with
 | false=>exact ⟨show (0:Nat)<16777216 by decide,fun j h=>absurd (show (0:Nat)=Nat.succ j from h) (Nat.succ_ne_zero j).symm⟩
 | true=>exact ⟨Nat.le_of_ble_eq_true q,fun j h=>Nat.succ.inj h⟩
theorem wz:∀{l:List Nat} {k j:Nat},lY (iG l) k=Nat.succ j->l[k]?=some j
 | [],k,j,h=>by
  have:lY 0 k=0:=by show 0 / 16777216 ^ k % 16777216=0; rw [Nat.zero_div]
  rw [show iG []=0 from rfl,this] at h; cases h
 | a::l,0,j,h=>by
  have e:lY (iG (a::l)) 0=mH a:=by
   show (mH a+16777216 * iG l) / 16777216 ^ 0 % 16777216=mH a
   rw [Nat.pow_zero,Nat.div_one,Nat.add_mul_mod_self_left,Nat.mod_eq_of_lt (rK a).1]
  rw [e] at h
  rw [(rK a).2 j h]; rfl
 | a::l,k+1,j,h=>by
  have e:lY (iG (a::l)) (k+1)=lY (iG l) k:=by
   show (mH a+16777216 * iG l) / 16777216 ^ (k+1) % 16777216=iG l / 16777216 ^ k % 16777216
   rw [Nat.pow_succ,Nat.mul_comm (16777216 ^ k),<- Nat.div_div_eq_div_mul,Nat.add_mul_div_left _ _ (by decide),Nat.div_eq_of_lt (rK a).1,Nat.zero_add]
  rw [e] at h
  rw [List.getElem?_cons_succ]; exact wz h
def vM(l:List Nat)(k:List Nat->Bool):Bool:=@List.rec Nat (fun q0=>(List Nat->Bool)->Bool) (fun k=>k []) (fun a q0 ih k=>fN a fun a=>ih fun r=>k (a::r)) l k
theorem kT:∀(l:List Nat) (k:List Nat->Bool),vM l k=k l
 | [],_=>rfl
 | a::l,k=>by show fN a (fun a=>vM l fun r=>k (a::r))=_; rw [bO,kT]
noncomputable def xO(n:Nat):Nat->(List Nat->Bool)->Bool:=@Nat.rec (fun q0=>Nat->(List Nat->Bool)->Bool) (fun q0 k=>k []) (fun q0 ih z k=>fN (Nat.pred (Nat.mod z 16777216)) fun a=>fN (Nat.div z 16777216) fun z=>ih z fun r=>k (a::r)) n
theorem qd:∀{n z:Nat} {k:List Nat->Bool},xO n z k=true->∃l,k l=true
 | 0,z,k,h=>⟨[],h⟩
 | n+1,z,k,h=>by
  have h:(fN (Nat.pred (Nat.mod z 16777216)) fun a=>fN (Nat.div z 16777216) fun z=>xO n z fun r=>k (a::r))=true:=h
  rw [bO,bO] at h
  obtain ⟨l,h⟩:=(qd h)
  exact ⟨_,h⟩
noncomputable def pC(z n j:Nat):Nat:=Nat.add z (Nat.mul (Nat.succ j) (Nat.pow 16777216 n))
def u6(l:List Nat):Nat->Bool:=@List.rec Nat (fun q0=>Nat->Bool) (fun q0=>true) (fun i q0 ih m=>@Bool.rec (fun q0=>Bool) false (ih (Nat.lor m (Nat.pow 2 i))) (Nat.beq (Nat.land m (Nat.pow 2 i)) 0)) l
theorem wV:∀{l:List Nat} {m:Nat},u6 l m=true->l.Nodup/\∀j∈l,m.testBit j=false
 | [],m,h=>⟨List.nodup_nil,fun j h=>by cases h⟩
 | i::l,m,h=>by
  obtain ⟨h1,h2⟩:=(aJ (show @Bool.rec (fun q0=>Bool) false (u6 l (Nat.lor m (Nat.pow 2 i))) (Nat.beq (Nat.land m (Nat.pow 2 i)) 0)=true from h))
  obtain ⟨h3,h4⟩:=(wV h2)
  have h1:m&&&2 ^ i=0:=Nat.eq_of_beq_eq_true h1
  have h5:m.testBit i=false:=by
   have:=congrArg (fun z=>Nat.testBit z i) h1
   simpa [Nat.testBit_and,Nat.testBit_two_pow_self] using this
  have h6:∀j∈l,m.testBit j=false/\i≠j:=fun j hj=>by
   have e:(m|||2 ^ i).testBit j=false:=h4 j hj
   rw [Nat.testBit_or,Nat.testBit_two_pow] at e
   obtain ⟨e1,e2⟩:=(Bool.or_eq_false_iff.mp e)
   exact ⟨e1,of_decide_eq_false e2⟩
  refine ⟨List.nodup_cons.mpr ⟨fun q=>(h6 i q).2 rfl,h3⟩,fun j hj=>?_⟩
  rcases List.mem_cons.mp hj with rfl | hj
  ·exact h5
  ·exact (h6 j hj).1
abbrev CV:=Nat->List GI->GV->Bool
def cvN:CV:=fun q0 q0 g=>lR g true
def cvU:CV:=fun q0 q0 g=>eD g true
def cvB(b:Bool):CV:=fun q0 q0 g=>gB g fun c=>BA c b
def cvI(v:Nat):CV:=fun q0 τ g=>fP g fun e=>BJ τ v fun e'=>GI.beq e e'
def cvL(i:Int):CV:=fun q0 q0 g=>eG g fun j=>cV j i
def cvS(i:Nat):CV:=fun q0 q0 g=>ow g fun j=>Nat.beq j i
def cvO(k:Nat):CV:=fun σ q0 g=>bU g fun j=>nU σ k fun j'=>Nat.beq j j'
def lS(σ:Nat)(τ:List GI)(p:PV)(g:GV):Bool:=@PV.rec (fun q0=>CV) cvU cvN cvB cvI cvL cvS cvO p σ τ g
noncomputable def mY(ns:List Int):GV->nF
 | .bool b=>.bool b
 | .int e=>.int (e.ev ns)
 | .str i=>.str i
 | _=>.none
structure pS (J J':az) (σ:Nat) (τ:List GI) (φ:List Fl):Prop where
 as:∀(k j:Nat) (a:Addr),lY σ k=Nat.succ j->J.as[j]?=some a->J'.as[k]?=some a
 ns:∀(v:Nat) (e:GI),τ[v]?=some e->(GI.var v).ok J'.ns.length/\(GI.var v).ev J'.ns=e.ev J.ns
 df:∀(k k0:Nat),φ[k]?=some (.f k0)->J'.ds k=J.ds k0
 dt:∀(k:Nat) (l:List GV),φ[k]?=some (.t l)->J'.ds k=l.map (mY J.ns)
 it:J'.it=J.it
section
variable {T:List Str} {CT:List Addr} {nd:Nat} {pw:Program × World} {J J':az} {σ:Nat} {τ:List GI} {φ:List Fl}
theorem gP(rn:pS J J' σ τ φ){p:PV}{g:GV}(h:lS σ τ p g=true){v:Value}(i:Is T J g v):Is T J' p.g v:=by
 cases p with
 | unk=>exact .unk _
 | none=>
  cases g <;> first | (cases h; done) | skip
  cases i; exact .none
 | bool b=>
  obtain ⟨c,rfl,h⟩:=pu h
  have:=w8 h
  subst this
  cases i; exact .bool _
 | int n=>
  obtain ⟨e,rfl,h⟩:=dA h
  obtain ⟨e',h1,h2⟩:=qk h
  have:=GI.beq_eq h2
  subst this
  obtain ⟨t,rfl,ok⟩:=i
  obtain ⟨a,b⟩:=(rn.ns _ _ h1)
  rw [<- b]; exact .int (e:=.var n) t a
 | lit z=>
  obtain ⟨j,rfl,h⟩:=cM h
  have:j=z:=eq_of_beq (cv h)
  subst this
  obtain ⟨t,rfl,ok⟩:=i
  exact .int (e:=.lit j) t trivial
 | str z=>
  obtain ⟨j,rfl,h⟩:=gU h
  have:=Nat.eq_of_beq_eq_true h
  subst this
  obtain ⟨q0,t,rfl,ht⟩:=i
  exact .str t ht
 | own k=>
  obtain ⟨j,rfl,h⟩:=bn h
  obtain ⟨j',h1,h2⟩:=kS h
  have:=Nat.eq_of_beq_eq_true h2
  subst this
  obtain ⟨q0,rfl,ha⟩:=i
  exact .own (rn.as _ _ _ h1 ha)
def CZ(σ:Nat)(τ:List GI)(ps:List PV)(gs:List GV):Bool:=@List.rec PV (fun q0=>List GV->Bool) (fun gs=>jI gs) (fun p q0 ih gs=>@List.rec GV (fun q0=>Bool) false (fun g r q0=>@Bool.rec (fun q0=>Bool) false (ih r) (lS σ τ p g)) gs) ps gs
theorem w0(rn:pS J J' σ τ φ){ps:List PV}:∀{gs:List GV},CZ σ τ ps gs=true->∀{vs:List Value},be T J gs vs->be T J' (CR ps) vs:=by
 induction ps with
 | nil=>
  intro gs h vs i
  cases gs with
  | nil=>cases i; exact .nil
  | cons _ _=>cases h
 | cons p ps ih=>
  intro gs h vs i
  cases gs with
  | nil=>cases h
  | cons g gs=>
  obtain ⟨h1,h2⟩:=aJ h
  cases i with
  | cons a r=>exact .cons (gP rn h1 a) (ih h2 r)
def xT(σ:Nat)(τ:List GI)(ps:List (Nat × PV))(gs:List (Nat × GV)):Bool:=@List.rec (Nat × PV) (fun q0=>List (Nat × GV)->Bool) (fun gs=>@List.rec (Nat × GV) (fun q0=>Bool) true (fun q0 q0 q0=>false) gs) (fun p q0 ih gs=>@List.rec (Nat × GV) (fun q0=>Bool) false (fun g r q0=>@Bool.rec (fun q0=>Bool) false (ih r) (Nat.beq p.1 g.1&&lS σ τ p.2 g.2)) gs) ps gs
theorem GP(rn:pS J J' σ τ φ){ps:List (Nat × PV)}:∀{gs:List (Nat × GV)},xT σ τ ps gs=true->∀{ds:List DictEntry},dy T nd J gs ds->dy T nd J' (xU ps) ds:=by
 induction ps with
 | nil=>
  intro gs h ds i
  cases gs with
  | nil=>cases i; exact .nil
  | cons _ _=>cases h
 | cons pq ps ih=>
  intro gs h ds i
  cases gs with
  | nil=>cases h
  | cons pr gs=>
  symm
  obtain ⟨a,p⟩:=pq
  obtain ⟨b,g⟩:=pr
  obtain ⟨h0,h2⟩:=aJ h
  obtain ⟨h3,h1⟩:=Bool.and_eq_true_iff.mp h0
  symm
  have:a=b:=Nat.eq_of_beq_eq_true h3
  subst this
  cases i with
  | cons x y z w r=>exact .cons x y z (gP rn h1 w) (ih h2 r)
theorem Gw(rn:pS J J' σ τ φ){ps:List (Nat × PV)}:∀{gs:List (Nat × GV)},xT σ τ ps gs=true->∀{ds:List (Str × Value)},gk T J gs ds->gk T J' (xU ps) ds:=by
 induction ps with
 | nil=>
  intro gs h ds i
  cases gs with
  | nil=>cases i; exact .nil
  | cons _ _=>cases h
 | cons pq ps ih=>
  intro gs h ds i
  cases gs with
  | nil=>cases h
  | cons pr gs=>
  symm
  obtain ⟨a,p⟩:=pq
  obtain ⟨b,g⟩:=pr
  obtain ⟨h0,h2⟩:=aJ h
  obtain ⟨h3,h1⟩:=Bool.and_eq_true_iff.mp h0
  symm
  have:a=b:=Nat.eq_of_beq_eq_true h3
  subst this
  cases i with
  | cons x w r=>exact .cons x (gP rn h1 w) (ih h2 r)
def Pm(σ:Nat)(τ:List GI)(ps:List (Int × PV))(gs:List (Int × GV)):Bool:=@List.rec (Int × PV) (fun q0=>List (Int × GV)->Bool) (fun gs=>@List.rec (Int × GV) (fun q0=>Bool) true (fun q0 q0 q0=>false) gs) (fun p q0 ih gs=>@List.rec (Int × GV) (fun q0=>Bool) false (fun g r q0=>@Bool.rec (fun q0=>Bool) false (ih r) (cV p.1 g.1&&lS σ τ p.2 g.2)) gs) ps gs
theorem Gd(rn:pS J J' σ τ φ){ps:List (Int × PV)}:∀{gs:List (Int × GV)},Pm σ τ ps gs=true->∀{ds:List (Int × Value)},eT T J gs ds->eT T J' (lx ps) ds:=by
 induction ps with
 | nil=>
  intro gs h ds i
  cases gs with
  | nil=>cases i; exact .nil
  | cons _ _=>cases h
 | cons pq ps ih=>
  intro gs h ds i
  cases gs with
  | nil=>cases h
  | cons pr gs=>
  symm
  obtain ⟨a,p⟩:=pq
  obtain ⟨b,g⟩:=pr
  obtain ⟨h0,h2⟩:=aJ h
  obtain ⟨h3,h1⟩:=Bool.and_eq_true_iff.mp h0
  symm
  have:a=b:=eq_of_beq (cv h3)
  subst this
  cases i with
  | cons w r=>exact .cons (gP rn h1 w) (ih h2 r)
def EW(g h:GV):Bool:=@GV.rec (fun q0=>Bool) false (lR h true) (fun b=>gB h fun c=>BA c b) (fun e=>fP h fun e'=>GI.beq e e') (fun i=>ow h fun j=>Nat.beq i j) (fun q0=>false) (fun q0=>false) (fun q0=>false) false g
def vx(l r:List GV):Bool:=@List.rec GV (fun q0=>List GV->Bool) (fun r=>jI r) (fun g q0 ih r=>@List.rec GV (fun q0=>Bool) false (fun h r q0=>@Bool.rec (fun q0=>Bool) false (ih r) (EW g h)) r) l r
theorem DO{g h:GV}(e:EW g h=true):h=g/\∀{v:Value},Is T J g v->ku T (mY J.ns g) v:=by
 cases g with
 | none=>cases h <;> first | (cases e; done) | exact ⟨rfl,fun i=>by cases i; exact .none⟩
 | bool b=>
  obtain ⟨c,rfl,e⟩:=pu e
  have:=w8 e
  subst this
  exact ⟨rfl,fun i=>by cases i; exact .bool _⟩
 | int a=>
  obtain ⟨c,rfl,e⟩:=dA e
  have:=GI.beq_eq e
  subst this
  exact ⟨rfl,fun i=>by obtain ⟨t,rfl,ok⟩:=i; exact .int _ t⟩
 | str a=>
  obtain ⟨c,rfl,e⟩:=gU e
  have:=Nat.eq_of_beq_eq_true e
  subst this
  exact ⟨rfl,fun i=>by obtain ⟨q0,t,rfl,ht⟩:=i; exact .str t ht⟩
 | _=>cases e
theorem AE{l:List GV}:∀{r:List GV},vx l r=true->r=l/\∀{vs:List Value},be T J l vs->iY T (l.map (mY J.ns)) vs:=by
 induction l with
 | nil=>
  intro r e
  cases r with
  | nil=>exact ⟨rfl,fun i=>by cases i; exact .nil⟩
  | cons _ _=>cases e
 | cons g l ih=>
  intro r e
  cases r with
  | nil=>cases e
  | cons h r=>
  obtain ⟨e1,e2⟩:=aJ e
  obtain ⟨rfl,a⟩:=(DO (T:=T) (J:=J) e1)
  obtain ⟨rfl,b⟩:=(ih (r:=r) e2)
  exact ⟨rfl,fun i=>by cases i with | cons x y=>exact .cons (a x) (b y)⟩
def kF(o:GO)(kt:List GV->Bool)(kf:Nat->Bool):Bool:=@GO.rec (fun q0=>Bool) false (fun q0=>false) (fun l=>kt l) (fun q0 q0=>false) (fun q0=>false) false (fun q0=>false) (fun q0=>false) (fun q0=>false) (fun q0=>false) (fun q0 q0=>false) (fun q0 q0=>false) (fun q0 q0=>false) (fun q0=>false) (fun q0=>false) (fun k=>kf k) false (fun q0=>false) (fun q0 q0=>false) (fun q0 q0=>false) (fun q0 q0=>false) (fun q0 q0=>false) (fun q0 q0=>false) o
theorem eL{o:GO}{kt:List GV->Bool}{kf:Nat->Bool}(h:kF o kt kf=true):(∃l,o=.tuple l/\kt l=true)∨∃k,o=.flat k/\kf k=true:=by cases o <;> first | (cases h; done) | exact .inl ⟨_,rfl,h⟩ | exact .inr ⟨_,rfl,h⟩
def WR(f:Fl)(kf:Nat->Bool)(kt:List GV->Bool):Bool:=@Fl.rec (fun q0=>Bool) (fun k=>kf k) (fun l=>kt l) f
def oy(o:GO)(k0:Bool)(ki:List (Int × GV)->Bool)(ks:List (Nat × GV)->Bool)(kit:Bool):Bool:=@GO.rec (fun q0=>Bool) false (fun q0=>false) (fun q0=>false) (fun q0 q0=>false) (fun q0=>false) k0 (fun l=>ki l) (fun l=>ks l) (fun q0=>false) (fun q0=>false) (fun q0 q0=>false) (fun q0 q0=>false) (fun q0 q0=>false) (fun q0=>false) (fun q0=>false) (fun q0=>false) kit (fun q0=>false) (fun q0 q0=>false) (fun q0 q0=>false) (fun q0 q0=>false) (fun q0 q0=>false) (fun q0 q0=>false) o
def yH(o:GO)(k0:Bool)(ki km:List (Int × GV)->Bool):Bool:=@GO.rec (fun q0=>Bool) false (fun q0=>false) (fun q0=>false) (fun q0 q0=>false) (fun q0=>false) k0 (fun l=>ki l) (fun q0=>false) (fun q0=>false) (fun q0=>false) (fun q0 q0=>false) (fun q0 q0=>false) (fun q0 q0=>false) (fun q0=>false) (fun q0=>false) (fun q0=>false) false (fun l=>km l) (fun q0 q0=>false) (fun q0 q0=>false) (fun q0 q0=>false) (fun q0 q0=>false) (fun q0 q0=>false) o
def ru{α:Type}(l:List (Int × α))(z:Int)(k:α->Bool):Bool:=@List.rec (Int × α) (fun q0=>Bool) false (fun p q0 ih=>@Bool.rec (fun q0=>Bool) ih (k p.2) (cV p.1 z)) l
theorem mU{α:Type}{z:Int}{k:α->Bool}:∀{l:List (Int × α)},ru l z k=true->∃g,l.lookup z=some g/\k g=true
 | [],h=>by cases h
 | (a,g)::l,h=>by
  have h:@Bool.rec (fun q0=>Bool) (ru l z k) (k g) (cV a z)=true:=h
  rw [List.lookup_cons]
  cases q:cV a z with
  | true=>
   rw [q] at h
   have:a=z:=eq_of_beq (cv q)
   subst this
   rw [beq_self_eq_true]
   exact ⟨g,rfl,h⟩
  | false=>
   rw [q] at h
   have:(z == a)=false:=by have:=cv q; rw [beq_eq_false_iff_ne] at this ⊢; exact fun e=>this e.symm
   rw [this]
   exact mU (l:=l) h
def v6(p:PV):Bool:=@PV.rec (fun q0=>Bool) true false (fun q0=>false) (fun q0=>false) (fun q0=>false) (fun q0=>false) (fun q0=>false) p
theorem F4{p:PV}(h:v6 p=true):p=.unk:=by cases p <;> first | rfl | cases h
def yD(σ:Nat)(τ:List GI)(r:List (Int × GV))(es:List (Int × PV)):Bool:=@List.rec (Int × PV) (fun q0=>Bool) true (fun p q0 ih=>@Bool.rec (fun q0=>Bool) false ih (v6 p.2||ru r p.1 fun g=>lS σ τ p.2 g)) es
def yq(es:List (Int × PV))(r:List (Int × GV)):Bool:=@List.rec (Int × GV) (fun q0=>Bool) true (fun p q0 ih=>@Bool.rec (fun q0=>Bool) false ih (ru es p.1 fun q0=>true)) r
theorem sE{z:Int}{g:GV}:∀{es:List (Int × PV)},(lx es).lookup z=some g->∃p,es.lookup z=some p/\g=p.g
 | [],h=>by simp [lx] at h
 | (a,p)::es,h=>by
  have h:((a,p.g)::lx es).lookup z=some g:=h
  rw [List.lookup_cons] at h ⊢
  cases q:z == a with
  | true=>rw [q] at h; cases h; exact ⟨p,rfl,rfl⟩
  | false=>rw [q] at h; exact sE h
theorem sy{z:Int}:∀{es:List (Int × PV)},(lx es).lookup z=none->es.lookup z=none
 | [],h=>rfl
 | (a,p)::es,h=>by
  have h:((a,p.g)::lx es).lookup z=none:=h
  rw [List.lookup_cons] at h ⊢
  cases q:z == a with
  | true=>rw [q] at h; cases h
  | false=>rw [q] at h; exact sy h
theorem CG{r:List (Int × GV)}{es:List (Int × PV)}:yD σ τ r es=true->∀z p,es.lookup z=some p->p=.unk∨∃g,r.lookup z=some g/\lS σ τ p g=true:=by
 induction es with
 | nil=>
  intro h z p e
  cases e
 | cons pq es ih=>
  intro h z p e
  obtain ⟨a,q⟩:=pq
  obtain ⟨h1,h2⟩:=aJ h
  rw [List.lookup_cons] at e
  cases w:z == a with
  | true=>
   rw [w] at e
   have:z=a:=eq_of_beq w
   subst this
   cases e
   exact (Bool.or_eq_true_iff.mp h1).imp F4 mU
  | false=>rw [w] at e; exact ih h2 z p e
theorem u9{es:List (Int × PV)}:∀{r:List (Int × GV)},yq es r=true->∀z,es.lookup z=none->r.lookup z=none
 | [],h,z,e=>rfl
 | (a,q)::r,h,z,e=>by
  obtain ⟨h1,h2⟩:=aJ h
  obtain ⟨p,hp,q0⟩:=mU h1
  rw [List.lookup_cons]
  cases w:z == a with
  | true=>
   have:z=a:=eq_of_beq w
   subst this
   rw [hp] at e; cases e
  | false=>exact u9 h2 z e
theorem AH{z:Int}{r:List (Int × GV)}{ds:List (Int × Value)}(h:eT T J r ds):(∀g,r.lookup z=some g->∃v,PySem.valueAt ds z=some v/\Is T J g v)/\(r.lookup z=none->PySem.valueAt ds z=none):=by
 induction h with
 | nil=>exact ⟨fun g e=>by simp at e,fun q0=>rfl⟩
 | @cons a _ _ _ _ i _ ih=>
  rw [eU,List.lookup_cons]
  by_cases e:z=a
  ·subst e
   rw [beq_self_eq_true,if_pos rfl]
   exact ⟨fun g e=>by cases e; exact ⟨_,rfl,i⟩,fun e=>by cases e⟩
  ·have:(z == a)=false:=by simpa using e
   rw [this,if_neg (fun q=>e q.symm)]
   exact ih
def aco(es:List (Int × PV)):Bool:=@List.rec (Int × PV) (fun q0=>Bool) true (fun q0 q0 q0=>false) es
theorem DU{es:List (Int × PV)}{r:List (Int × GV)}(rn:pS J J' σ τ φ)(h1:yD σ τ r es=true)(h2:yq es r=true){ds:List (Int × Value)}(hr:DM T J r ds):DM T J' (lx es) ds:=by
 refine ⟨fun z g e=>?_,fun z e=>hr.2 z (u9 h2 z (sy e))⟩
 obtain ⟨p,hp,rfl⟩:=(sE e)
 rcases CG h1 z p hp with rfl | ⟨g',a,b⟩
 ·exact .inl rfl
 ·rcases hr.1 z g' a with rfl | ⟨v,c,d⟩
  ·left
   cases p <;> first | rfl | cases b
  ·exact .inr ⟨v,c,gP rn b d⟩
def yS(σ:Nat)(τ:List GI)(es:List (Int × PV))(r:List (Int × GV)):Bool:=yD σ τ r es&&yq es r
def Iw(f:List (Nat × Nat)):Bool:=@List.rec (Nat × Nat) (fun q0=>Bool) true (fun p q0 ih=>@Bool.rec (fun q0=>Bool) false ih (Nat.beq p.2 p.1||Nat.beq p.2 (Nat.succ p.1))) f
theorem qw:∀{f:List (Nat × Nat)} {a b:Int},Iw f=true->rh f a b
 | [],_,_,_=>trivial
 | p::f,a,b,h=>by
  obtain ⟨h1,h2⟩:=aJ h
  obtain ⟨t,d⟩:=p
  rcases Bool.or_eq_true_iff.mp h1 with q | q
  ·exact ⟨.inl (Nat.eq_of_beq_eq_true q),qw h2⟩
  ·exact ⟨.inr (.inl (Nat.eq_of_beq_eq_true q)),qw h2⟩
def yN(o:GO)(kt:List GV->Bool)(kr:Nat->List Nat->Bool):Bool:=@GO.rec (fun q0=>Bool) false (fun q0=>false) (fun l=>kt l) (fun q0 q0=>false) (fun q0=>false) false (fun q0=>false) (fun q0=>false) (fun q0=>false) (fun q0=>false) (fun q0 q0=>false) (fun q0 q0=>false) (fun q0 q0=>false) (fun q0=>false) (fun q0=>false) (fun q0=>false) false (fun q0=>false) (fun q0 q0=>false) (fun q0 q0=>false) (fun q0 q0=>false) (fun n ss=>kr n ss) (fun q0 q0=>false) o
theorem vF{o:GO}{kt:List GV->Bool}{kr:Nat->List Nat->Bool}(h:yN o kt kr=true):(∃l,o=.tuple l/\kt l=true)∨∃n ss,o=.row n ss/\kr n ss=true:=by cases o <;> first | (cases h; done) | exact .inl ⟨_,rfl,h⟩ | exact .inr ⟨_,_,rfl,h⟩
def yE(o:GO)(k:Nat->GV->Bool):Bool:=@GO.rec (fun q0=>Bool) false (fun q0=>false) (fun q0=>false) (fun q0 q0=>false) (fun q0=>false) false (fun q0=>false) (fun q0=>false) (fun q0=>false) (fun q0=>false) (fun q0 q0=>false) (fun q0 q0=>false) (fun q0 q0=>false) (fun q0=>false) (fun q0=>false) (fun q0=>false) false (fun q0=>false) (fun q0 q0=>false) (fun q0 q0=>false) (fun q0 q0=>false) (fun q0 q0=>false) (fun a g=>k a g) o
theorem vd{o:GO}{k:Nat->GV->Bool}(h:yE o k=true):∃a g,o=.dk a g/\k a g=true:=by cases o <;> first | (cases h; done) | exact ⟨_,_,rfl,h⟩
def tf(j:Nat)(l:List Nat):Bool:=@List.rec Nat (fun q0=>Bool) false (fun i q0 ih=>@Bool.rec (fun q0=>Bool) ih true (Nat.beq i j)) l
theorem sk{j:Nat}:∀{l:List Nat},tf j l=true->j∈l
 | [],h=>by cases h
 | i::l,h=>by
  have h:@Bool.rec (fun q0=>Bool) (tf j l) true (Nat.beq i j)=true:=h
  cases q:Nat.beq i j with
  | true=>rw [Nat.eq_of_beq_eq_true q]; exact .head _
  | false=>rw [q] at h; exact .tail _ (sk (l:=l) h)
def M5(l r:List Nat):Bool:=@List.rec Nat (fun q0=>List Nat->Bool) (fun r=>@List.rec Nat (fun q0=>Bool) true (fun q0 q0 q0=>false) r) (fun a q0 ih r=>@List.rec Nat (fun q0=>Bool) false (fun b r q0=>@Bool.rec (fun q0=>Bool) false (ih r) (Nat.beq a b)) r) l r
theorem t7:∀{l r:List Nat},M5 l r=true->l=r
 | [],r,h=>by cases r with | nil=>rfl | cons _ _=>cases h
 | a::l,[],h=>by cases h
 | a::l,b::r,h=>by
  obtain ⟨h1,h2⟩:=aJ h
  rw [Nat.eq_of_beq_eq_true h1,t7 (l:=l) (r:=r) h2]
def Da(n:Nat)(ss:List Nat)(l:List GV):Bool:=@List.rec GV (fun q0=>Bool) false (fun g r q0=>eG g fun z=>@Int.rec (fun q0=>Bool) (fun i=>@Bool.rec (fun q0=>Bool) false (@List.rec GV (fun q0=>Bool) false (fun g r q0=>ow g fun j=>@Bool.rec (fun q0=>Bool) false (@List.rec GV (fun q0=>Bool) false (fun g r q0=>fP g fun q0=>jI r) r) (tf j ss)) r) (Nat.ble (Nat.succ i) n)) (fun q0=>false) z) l
theorem wA{n:Nat}{ss:List Nat}{l:List GV}(h:Da n ss l=true){vs:List Value}(iv:be T J l vs):∃i j x z t u v,vs=[.int ((i:Nat):Int) t,.str x u,.int z v]/\i<n/\j∈ss/\T[j]?=some x:=by
 cases l with
 | nil=>cases h
 | cons g l=>
 obtain ⟨z,rfl,h1⟩:=cM h
 cases z with
 | negSucc _=>cases h1
 | ofNat i=>
 obtain ⟨c1,h2⟩:=aJ h1
 cases l with
 | nil=>cases h2
 | cons g l=>
 obtain ⟨j,rfl,h3⟩:=gU h2
 obtain ⟨c2,h4⟩:=aJ h3
 cases l with
 | nil=>cases h4
 | cons g l=>
 obtain ⟨e,rfl,h5⟩:=dA h4
 cases l with
 | cons _ _=>cases h5
 | nil=>
 obtain ⟨q0,q0,rfl,i1,iv⟩:=fA iv
 obtain ⟨q0,q0,rfl,i2,iv⟩:=fA iv
 obtain ⟨q0,q0,rfl,i3,iv⟩:=fA iv
 obtain rfl:=nJ iv
 obtain ⟨t,rfl,ok⟩:=i1
 obtain ⟨q0,u,rfl,ht⟩:=i2
 obtain ⟨v,rfl,WU⟩:=i3
 exact ⟨i,j,_,_,t,u,v,rfl,Nat.le_of_ble_eq_true c1,sk c2,ht⟩
abbrev CK:=Nat->List GI->List Fl->GO->Bool
def ckL(l:List PV):CK:=fun σ τ q0 o=>d9 o fun r=>CZ σ τ l r
def ckT(l:List PV):CK:=fun σ τ q0 o=>kF o (fun r=>CZ σ τ l r) fun q0=>false
def ckI(C d:Nat):CK:=fun σ q0 q0 o=>hV o fun C' d'=>Nat.beq C C'&&nU σ d fun j=>Nat.beq d' j
def ckD(es:List (Nat × PV)):CK:=fun σ τ q0 o=>eW o fun r=>xT σ τ es r
def ckS(es:List (Nat × PV)):CK:=fun σ τ q0 o=>oy o false (fun q0=>false) (fun r=>xT σ τ es r) false
def ckN(es:List (Int × PV)):CK:=fun σ τ q0 o=>oy o false (fun r=>Pm σ τ es r) (fun q0=>false) false
def ck0:CK:=fun q0 q0 q0 o=>oy o true (fun q0=>false) (fun q0=>false) false
def ckF(k:Nat):CK:=fun q0 q0 φ o=>BJ φ k fun f=>kF o (fun r=>WR f (fun q0=>false) fun l=>vx l r) fun k0=>WR f (fun k1=>Nat.beq k0 k1) fun q0=>false
def ckO:CK:=fun q0 q0 q0 o=>oy o false (fun q0=>false) (fun q0=>false) true
def ckM(es:List (Int × PV)):CK:=fun σ τ q0 o=>yH o (aco es) (fun r=>yS σ τ es r) fun r=>yS σ τ es r
def ckP(f:List (Nat × Nat)):CK:=fun q0 q0 q0 o=>vg o fun q0=>Iw f
def ckR(n:Nat)(ss:List Nat):CK:=fun q0 q0 q0 o=>yN o (fun l=>Da n ss l) fun n' ss'=>Nat.beq n n'&&M5 ss ss'
def ckK(k:Nat)(q:PV):CK:=fun σ τ q0 o=>yE o fun k' g=>(nU σ k fun j=>Nat.beq k' j)&&lS σ τ q g
def ckJ(i n:Nat):CK:=fun q0 q0 q0 o=>kP o (fun q0 q0=>false) fun i' n'=>Nat.beq i i'&&Nat.beq n n'
def DN(σ:Nat)(τ:List GI)(φ:List Fl)(p:PO)(o:GO):Bool:=@PO.rec (fun q0=>CK) ckL ckT ckI ckD ckS ckN ck0 ckF ckO ckM (fun q0 q0 q0 q0=>true) ckP ckR ckK ckJ p σ τ φ o
set_option tactic.hygienic true in
theorem GL(rn:pS J J' σ τ φ){p:PO}{o:GO}(h:DN σ τ φ p o=true){ob:Obj}(i:aL T CT nd pw J o ob):aL T CT nd pw J' p.g ob:=by
 cases p with
 | list l=>
  symm
  obtain ⟨r,rfl,h⟩:=da h
  obtain ⟨q0,n,rfl,x⟩:=i
  symm
  exact .list n (w0 rn h x)
 | tuple l=>
  rcases eL h with ⟨r,rfl,h⟩ | ⟨k,rfl,h⟩
  ·obtain ⟨q0,rfl,x⟩:=i
   exact .tuple (w0 rn h x)
  ·cases h
 | inst C d=>
  symm
  obtain ⟨C',d',rfl,h⟩:=fc h
  obtain ⟨h1,h2⟩:=Bool.and_eq_true_iff.mp h
  obtain ⟨j,h3,h4⟩:=kS h2
  have e1:=Nat.eq_of_beq_eq_true h1
  have e2:=Nat.eq_of_beq_eq_true h4
  subst e1 e2
  obtain ⟨q0,q0,rfl,a,b⟩:=i
  symm
  exact .inst a (rn.as _ _ _ h3 b)
 | idict es=>
  symm
  obtain ⟨r,rfl,h⟩:=dK h
  obtain ⟨q0,n,rfl,x⟩:=i
  symm
  exact .idict n (GP rn h x)
 | ds es=>
  cases o <;> first | (cases h; done) | skip
  obtain ⟨q0,a,b⟩:=i
  exact .ds a (Gw rn h b)
 | di es=>
  cases o <;> first | (cases h; done) | skip
  obtain ⟨q0,a,b⟩:=i
  exact .di a (Gd rn h b)
 | d0=>
  cases o <;> first | (cases h; done) | skip
  obtain ⟨a,b⟩:=i
  exact .d0 a b
 | flat k=>
  obtain ⟨f,h1,h2⟩:=qk h
  rcases eL h2 with ⟨r,rfl,h⟩ | ⟨k0,rfl,h⟩
  ·cases f with
   | f k1=>cases h
   | t l=>
    symm
    obtain ⟨rfl,b⟩:=(AE (T:=T) (J:=J) (show vx l r=true from h))
    obtain ⟨q0,rfl,x⟩:=i
    symm
    exact .flat (by rw [rn.dt _ _ h1]; exact b x)
  ·cases f with
   | t l=>cases h
   | f k1=>
    have e:=Nat.eq_of_beq_eq_true (n:=k0) (m:=k1) h
    subst e
    obtain ⟨q0,rfl,x⟩:=i
    exact .flat (by rw [rn.df _ _ h1]; exact x)
 | oit=>
  cases o <;> first | (cases h; done) | skip
  obtain ⟨a,b⟩:=i
  exact .oit a (by rw [rn.it]; exact b)
 | dm es=>
  cases o <;> first | (cases h; done) | skip
  ·obtain ⟨a,b⟩:=i
   cases es with
   | nil=>exact .dm a ⟨fun z g e=>(by cases e),fun z e=>rfl⟩
   | cons _ _=>cases h
  ·rename_i r
   symm
   obtain ⟨h1,h2⟩:=(Bool.and_eq_true_iff.mp (show yS σ τ es r=true from h))
   obtain ⟨q0,a,b⟩:=i
   symm
   exact .dm a (DU rn h1 h2 ⟨fun z g e=>.inr ((AH b).1 g e),fun z e=>(AH b).2 e⟩)
  ·rename_i r
   symm
   obtain ⟨h1,h2⟩:=(Bool.and_eq_true_iff.mp (show yS σ τ es r=true from h))
   obtain ⟨q0,a,b⟩:=i
   symm
   exact .dm a (DU rn h1 h2 b)
 | junk=>exact .junk _
 | pool f=>
  symm
  obtain ⟨f0,rfl,h1⟩:=rS h
  obtain ⟨q0,q0,n,t,u,rfl,a,b,c,d⟩:=i
  symm
  exact .pool n t u a b c (qw h1)
 | row n ss=>
  rcases vF h with ⟨l,rfl,h1⟩ | ⟨n',ss',rfl,h1⟩
  ·obtain ⟨q0,rfl,x⟩:=i
   symm
   obtain ⟨i,j,y,z,t,u,v,rfl,a,b,c⟩:=(wA h1 x)
   symm
   exact .row t u v a b c
  ·obtain ⟨h2,h3⟩:=Bool.and_eq_true_iff.mp h1
   have:=Nat.eq_of_beq_eq_true h2
   have:=t7 h3
   subst_vars
   symm
   obtain ⟨q0,q0,q0,q0,t,u,v,rfl,a,b,c⟩:=i
   symm
   exact .row t u v a b c
 | dk k q=>
  symm
  obtain ⟨k',g,rfl,h1⟩:=vd h
  obtain ⟨h2,h3⟩:=Bool.and_eq_true_iff.mp h1
  obtain ⟨j,h4,h5⟩:=kS h2
  have:=Nat.eq_of_beq_eq_true h5
  subst this
  obtain ⟨q0,q0,q0,q0,a,b,c,d,e⟩:=i
  symm
  exact .dk (rn.as _ _ _ h4 a) (gP rn h3 b) c d e
 | riter a n=>
  rcases jd h with ⟨_,_,_,h1⟩ | ⟨a',n',rfl,h1⟩
  ·cases h1
  ·obtain ⟨h2,h3⟩:=Bool.and_eq_true_iff.mp h1
   have:=Nat.eq_of_beq_eq_true h2
   have:=Nat.eq_of_beq_eq_true h3
   subst_vars
   exact .riter rfl
end
def Kv(l:List PO):Nat->GO:=@List.rec PO (fun q0=>Nat->GO) (fun q0=>.junk) (fun p q0 ih n=>@Nat.rec (fun q0=>GO) p.g (fun n q0=>ih n) n) l
theorem zC:∀{l:List PO} {n:Nat} {p:PO},l[n]?=some p->Kv l n=p.g
 | [],n,p,h=>by simp at h
 | q::l,0,p,h=>by simp at h; subst h; rfl
 | q::l,n+1,p,h=>by rw [List.getElem?_cons_succ] at h; exact zC (l:=l) h
def uK(f:Nat):(Nat->GO)->Nat->Nat->Nat->Tr:=@Nat.rec (fun q0=>(Nat->GO)->Nat->Nat->Nat->Tr) (fun q0 q0 q0 q0=>.e) (fun q0 ih g n a b=>.n (@Bool.rec (fun q0=>Tr) .e (ih g n (Nat.mul 2 a) (Nat.add a b)) (Nat.ble (Nat.succ (Nat.add a b)) n)) (g b) (@Bool.rec (fun q0=>Tr) .e (ih g n (Nat.mul 2 a) b) (Nat.ble (Nat.succ (Nat.add (Nat.mul 2 a) b)) n))) f
theorem tz{a b:Nat}(h:a<b):Nat.ble (Nat.succ a) b=true:=Nat.ble_eq_true_of_le h
theorem FQ(f:Nat):∀(g:Nat->GO) (n a b k:Nat),0<a->a * k+b<n->k<f->(uK f g n a b).get k=g (a * k+b):=by
 induction f with
 | zero=>intro g n a b k _ _ h; exact absurd h (Nat.not_lt_zero k)
 | succ f ih=>
  intro g n a b k ha hn hk
  have e:uK (f+1) g n a b=.n (@Bool.rec (fun q0=>Tr) .e (uK f g n (2 * a) (a+b)) (Nat.ble (Nat.succ (a+b)) n)) (g b) (@Bool.rec (fun q0=>Tr) .e (uK f g n (2 * a) b) (Nat.ble (Nat.succ (2 * a+b)) n)):=rfl
  rw [e,Tr.get_n]
  by_cases h0:k=0
  ·subst h0; rw [if_pos rfl,Nat.mul_zero,Nat.zero_add]
  ·rw [if_neg h0]
   have h3:=Nat.pos_of_ne_zero h0
   have lf:k / 2<f:=Nat.lt_of_lt_of_le (Nat.div_lt_self h3 (Nat.le_refl 2)) (Nat.le_of_lt_succ hk)
   have dm:=Nat.div_add_mod k 2
   have h2a:0<2 * a:=Nat.mul_pos (Nat.succ_pos 1) ha
   by_cases h2:k % 2=0
   ·rw [if_pos h2]
    rw [h2] at dm
    have e2:2 * a * (k / 2)=a * k:=by rw [Nat.mul_comm 2 a,Nat.mul_assoc]; exact congrArg (a * ·) dm
    have hq:0<k / 2:=Nat.pos_of_ne_zero fun q=>h0 (by rw [<- dm,q])
    have le:2 * a<=a * k:=e2▸Nat.le_mul_of_pos_right _ hq
    rw [tz (Nat.lt_of_le_of_lt (Nat.add_le_add_right le b) hn)]
    show (uK f g n (2 * a) b).get (k / 2)=_
    rw [ih g n (2 * a) b (k / 2) h2a (by rw [e2]; exact hn) lf,e2]
   ·rw [if_neg h2]
    rw [Nat.mod_two_ne_zero.mp h2] at dm
    have e2:2 * a * (k / 2)+(a+b)=a * k+b:=by
     rw [<- Nat.add_assoc]
     refine congrArg (·+ b) ?_
     have:a * (2 * (k / 2)+1)=a * k:=congrArg (a * ·) dm
     rw [<- this,Nat.mul_add,Nat.mul_one,<- Nat.mul_assoc,Nat.mul_comm a 2]
    rw [tz (Nat.lt_of_le_of_lt (Nat.add_le_add_right (Nat.le_mul_of_pos_right a h3) b) hn)]
    show (uK f g n (2 * a) (a+b)).get (k / 2)=_
    rw [ih g n (2 * a) (a+b) (k / 2) h2a (by rw [e2]; exact hn) lf,e2]
def ed(P:List PO):Tr:=uK 300 (Kv P) P.length 1 0
theorem qv{P:List PO}(hl:P.length<=300){k:Nat}{p:PO}(h:P[k]?=some p):(ed P).get k=p.g:=by
 have lt:=aN h
 have:=FQ 300 (Kv P) P.length 1 0 k (by lia) (by lia) (by lia)
 rw [Nat.one_mul,Nat.add_zero] at this
 unfold ed
 rw [this,zC h]
def yQ(σ:Nat)(τ:List GI)(φ:List Fl)(H:Tr)(nx:Nat)(P:List PO)(js:List Nat):Bool:=@List.rec PO (fun q0=>List Nat->Bool) (fun js=>@List.rec Nat (fun q0=>Bool) true (fun q0 q0 q0=>false) js) (fun p q0 ih js=>@List.rec Nat (fun q0=>Bool) false (fun j r q0=>@Bool.rec (fun q0=>Bool) false (ih r) (Nat.ble (Nat.succ j) nx&&DN σ τ φ p (H.get j))) js) P js
theorem Gi{σ:Nat}{τ:List GI}{φ:List Fl}{H:Tr}{nx:Nat}{P:List PO}:∀{js:List Nat},yQ σ τ φ H nx P js=true->P.length=js.length/\∀(k:Nat) (p:PO) (j:Nat),P[k]?=some p->js[k]?=some j->j<nx/\DN σ τ φ p (H.get j)=true:=by
 induction P with
 | nil=>
  intro js h
  cases js with
  | nil=>exact ⟨rfl,fun k p j h=>by simp at h⟩
  | cons _ _=>cases h
 | cons p P ih=>
  intro js h
  cases js with
  | nil=>cases h
  | cons j js=>
  symm
  obtain ⟨h0,h2⟩:=aJ h
  obtain ⟨h1,h3⟩:=Bool.and_eq_true_iff.mp h0
  obtain ⟨l,r⟩:=(ih (js:=js) h2)
  symm
  refine ⟨by simp [l],fun k q i e1 e2=>?_⟩
  cases k with
  | zero=>simp at e1 e2; subst e1 e2; exact ⟨Nat.le_of_ble_eq_true h1,h3⟩
  | succ k=>simp at e1 e2; exact r k q i e1 e2
def yy(c:Bool)(v:Int):Int × Int:=@Bool.rec (fun q0=>Int × Int) (v,v) (0,.ofNat v.toNat) c
def cW:List Bool->List Int->eZ
 | c::cs,v::vs=>yy c v::cW cs vs
 | _,_=>[]
def xM(R:Rn)(cs:List Bool)(τ:List GI):Bool:=@List.rec Bool (fun q0=>List GI->Bool) (fun τ=>@List.rec GI (fun q0=>Bool) true (fun q0 q0 q0=>false) τ) (fun c q0 ih τ=>@List.rec GI (fun q0=>Bool) false (fun e r q0=>@Bool.rec (fun q0=>Bool) false (ih r) (@Bool.rec (fun q0=>Bool) true (match e.iv R.bnd with | some b=>!kK b.1 0 | none=>false) c)) τ) cs τ
set_option tactic.hygienic true in
theorem FM{R:Rn}{ns:List Int}(rn:dh R ns){cs:List Bool}:∀{τ:List GI},xM R cs τ=true->cs.length=τ.length/\∀(k:Nat) (b:Int × Int),(cW cs (τ.map (GI.ev ns)))[k]?=some b->∃i,(τ.map (GI.ev ns))[k]?=some i/\b.1<=i/\i<=b.2:=by
 induction cs with
 | nil=>
  intro τ h
  cases τ with
  | nil=>exact ⟨rfl,fun k b h=>by simp [cW] at h⟩
  | cons _ _=>cases h
 | cons c cs ih=>
  intro τ h
  cases τ with
  | nil=>cases h
  | cons e τ=>
  obtain ⟨h1,h2⟩:=aJ h
  obtain ⟨l,r⟩:=(ih (τ:=τ) h2)
  refine ⟨by simp [l],fun k b hk=>?_⟩
  cases k with
  | succ k=>simp [cW] at hk ⊢; obtain ⟨i,a,q⟩:=(r k b hk); exact ⟨i,by simpa using a,q⟩
  | zero=>
   simp [cW] at hk
   subst hk
   refine ⟨e.ev ns,by simp,?_⟩
   cases c with
   | false=>exact ⟨Int.le_refl _,Int.le_refl _⟩
   | true=>
    have h1:(match e.iv R.bnd with | some b=>!kK b.1 0 | none=>false)=true:=h1
    split at h1
    ·rename_i b hb
     have h3:=GI.iv_ok rn.bnd hb
     have h4:kK b.1 0=false:=by simpa using h1
     have h5:=of_decide_eq_false (j9 h4)
     show (0:Int)<=e.ev ns/\e.ev ns<=((e.ev ns).toNat:Int)
     lia
    ·cases h1
theorem sp:∀{cs:List Bool} {vals:List Int} {k:Nat} {c:Bool} {v:Int},cs[k]?=some c->vals[k]?=some v->(cW cs vals)[k]?=some (yy c v)
 | [],_,k,c,v,h,_=>by simp at h
 | _::_,[],k,c,v,_,h=>by simp at h
 | _::_,_::_,0,c,v,h1,h2=>by simp at h1 h2; subst h1 h2; rfl
 | _::cs,_::vals,k+1,c,v,h1,h2=>by
  rw [List.getElem?_cons_succ] at h1 h2
  show (yy _ _::cW cs vals)[k+1]?=_
  rw [List.getElem?_cons_succ]; exact sp h1 h2
def mj(cs:List Bool)(vals:List Int):Prop:=∀(k:Nat) (v:Int),cs[k]?=some true->vals[k]?=some v->0<=v
structure Uy (P:List PO) (cs:List Bool) (σ:List Nat) (τ:List GI) (φ:List Fl) (H:Tr) (nx:Nat) (R:Rn):Prop where
 nod:u6 σ 0=true
 objs:yQ (iG σ) τ φ H nx P σ=true
 cnt:xM R cs τ=true
 few:P.length<=300
section
variable {x:aQ} {J:az} {H:Tr} {nx:Nat} {R:Rn} {O:Heap} {L:Addr} {m:Str->Option Value} {s:Shared}
theorem St.anew(S:St x J H nx R O L m s){P:List PO}{cs:List Bool}{σ:List Nat}{τ:List GI}{φ:List Fl}(ok:Uy P cs σ τ φ H nx R) :
  ∃J' vals,vals.length=cs.length/\pS J J' (iG σ) τ φ/\St x J' (ed P) P.length (.mk (cW cs vals) []) O L m s/\J'.ns=vals/\mj cs vals:=by
 obtain ⟨pl,po⟩:=(Gi ok.objs)
 obtain ⟨cl,co⟩:=(FM S.rn ok.cnt)
 have sn:=(wV ok.nod).1
 have hx:=S.nx
 have at_:∀(k j:Nat),σ[k]?=some j->∃a,J.as[j]?=some a:=fun k j h=>by
  have lt:k<P.length:=by rw [pl]; exact aN h
  have:=(po k _ j (List.getElem?_eq_getElem lt) h).1
  exact ⟨_,List.getElem?_eq_getElem (by rw [hx]; exact this)⟩
 let J':az:=⟨σ.map fun j=>(J.as[j]?).getD 0,τ.map (GI.ev J.ns),fun k=>match φ[k]? with | some (.f k0)=>J.ds k0 | some (.t l)=>l.map (mY J.ns) | none=>[],J.it⟩
 have as_:∀(k j:Nat) (a:Addr),σ[k]?=some j->J.as[j]?=some a->J'.as[k]?=some a:=fun k j a h1 h2=>by
  show (σ.map fun j=>(J.as[j]?).getD 0)[k]?=_
  rw [List.getElem?_map,h1]
  show some ((J.as[j]?).getD 0)=_
  rw [h2]; rfl
 have rn:pS J J' (iG σ) τ φ:=by
  refine ⟨fun k j a h=>as_ k j a (wz h),fun v e h=>⟨?_,?_⟩,fun k k0 h=>?_,fun k l h=>?_,rfl⟩
  ·show v<(τ.map (GI.ev J.ns)).length
   rw [List.length_map]; exact aN h
  ·show ((τ.map (GI.ev J.ns))[v]?).getD 0=_
   rw [List.getElem?_map,h]; rfl
  ·show (match φ[k]? with | some (.f k0)=>J.ds k0 | some (.t l)=>l.map (mY J.ns) | none=>[])=_
   rw [h]
  ·show (match φ[k]? with | some (.f k0)=>J.ds k0 | some (.t l)=>l.map (mY J.ns) | none=>[])=_
   rw [h]
 have back:∀(k:Nat) (a:Addr),J'.as[k]?=some a->∃j,σ[k]?=some j/\J.as[j]?=some a:=fun k a h=>by
  have h:(σ.map fun j=>(J.as[j]?).getD 0)[k]?=some a:=h
  rw [List.getElem?_map] at h
  obtain ⟨j,h1,h2⟩:=(Option.map_eq_some_iff.mp h)
  obtain ⟨b,hb⟩:=(at_ k j h1)
  rw [hb] at h2
  exact ⟨j,h1,by rw [hb]; exact congrArg some h2⟩
 refine ⟨J',τ.map (GI.ev J.ns),by rw [List.length_map]; exact cl.symm,rn,⟨⟨?_,?_⟩,?_,S.fr,S.gens,⟨fun k b h=>co k b h,?_,fun i j b h=>by cases h⟩⟩,rfl,fun k v h1 h2=>?_⟩
 ·rw [List.nodup_iff_pairwise_ne,List.pairwise_iff_getElem]
  intro i j hi hj lt e
  obtain ⟨a,a1,a2⟩:=(back i _ (List.getElem?_eq_getElem hi))
  obtain ⟨b,b1,b2⟩:=(back j _ (List.getElem?_eq_getElem hj))
  rw [e] at a2
  have:=(List.getElem?_inj (aN a2) S.led.nod).mp (a2.trans b2.symm)
  subst this
  have:=(List.getElem?_inj (aN a1) sn).mp (a1.trans b1.symm)
  lia
 ·obtain ⟨os,hos,el,N⟩:=S.led.at_
  have len':J'.as.length=σ.length:=List.length_map _
  refine ⟨σ.map fun j=>(os[j]?).getD default,fun k o hk=>?_,by rw [len',List.length_map],fun q hq=>?_⟩
  ·rw [List.getElem?_map] at hk
   obtain ⟨j,h1,h2⟩:=(Option.map_eq_some_iff.mp hk)
   obtain ⟨a,ha⟩:=(at_ k j h1)
   have jl:j<os.length:=el▸aN ha
   rw [List.getElem?_eq_getElem jl] at h2
   have h2:os[j]=o:=h2
   have kl:k<P.length:=by rw [pl]; exact aN h1
   have hp:=List.getElem?_eq_getElem kl
   rw [qv ok.few hp]
   exact GL rn (po k _ j hp h1).2 (hos j o (by rw [List.getElem?_eq_getElem jl,h2]))
  ·obtain ⟨k,z1,z2⟩:=(k9 hq)
   obtain ⟨j,b1,b2⟩:=(back k _ z1)
   rw [List.getElem?_map,b1] at z2
   have jl:j<os.length:=el▸aN b2
   have z2:some ((os[j]?).getD default)=some q.2:=z2
   rw [List.getElem?_eq_getElem jl] at z2
   have z2:os[j]=q.2:=Option.some.inj z2
   have zz:=N _ (cn b2 (List.getElem?_eq_getElem jl))
   rw [z2] at zz
   exact zz
 ·show (σ.map _).length=P.length
  rw [List.length_map,pl]
 ·show (τ.map (GI.ev J.ns)).length=(cW cs (τ.map (GI.ev J.ns))).length
  have bl:∀(cs:List Bool) (vs:List Int),cs.length=vs.length->(cW cs vs).length=vs.length:=by
   intro cs
   induction cs with
   | nil=>intro vs h; cases vs with
    | nil=>rfl
    | cons _ _=>simp at h
   | cons c cs ih=>intro vs h; cases vs with
    | nil=>simp at h
    | cons v vs=>simp [cW,ih vs (by simpa using h)]
  rw [bl _ _ (by rw [List.length_map]; exact cl)]
 ·obtain ⟨i,e1,e2,q0⟩:=(co k _ (sp h1 h2))
  rw [h2] at e1; cases e1; exact e2
end
end
section
abbrev UK:=Nat->Nat->List GI->Nat->List Fl->Nat->Bool
abbrev UV:=GV->Nat->Nat->List GI->Nat->List Fl->Nat->UK->Bool
noncomputable def Aq:UV:=fun q0 σ n τ v φ w k=>k σ n τ v φ w
def uvI(i:Nat):UV:=fun g σ n τ v φ w k=>@Bool.rec (fun q0=>Bool) (k σ n τ v φ w) (fP g fun e=>fN (Nat.succ v) fun v'=>k σ n (e::τ) v' φ w) (Nat.beq i v)
def uvO(i:Nat):UV:=fun g σ n τ v φ w k=>@Bool.rec (fun q0=>Bool) (k σ n τ v φ w) (bU g fun j=>fN (Nat.succ n) fun n'=>fN (pC σ n j) fun σ'=>k σ' n' τ v φ w) (Nat.beq i n)
def uV(p:PV):UV:=@PV.rec (fun q0=>UV) Aq Aq (fun q0=>Aq) uvI (fun q0=>Aq) (fun q0=>Aq) uvO p
def uL(ps:List PV):List GV->Nat->Nat->List GI->Nat->List Fl->Nat->UK->Bool:=@List.rec PV (fun q0=>List GV->Nat->Nat->List GI->Nat->List Fl->Nat->UK->Bool) (fun q0 σ n τ v φ w k=>k σ n τ v φ w)
 (fun p q0 ih gs σ n τ v φ w k=>@List.rec GV (fun q0=>Bool) false (fun g r q0=>uV p g σ n τ v φ w fun σ n τ v φ w=>ih r σ n τ v φ w k) gs) ps
def uE(ps:List (Nat × PV)):List (Nat × GV)->Nat->Nat->List GI->Nat->List Fl->Nat->UK->Bool:=@List.rec (Nat × PV) (fun q0=>List (Nat × GV)->Nat->Nat->List GI->Nat->List Fl->Nat->UK->Bool) (fun q0 σ n τ v φ w k=>k σ n τ v φ w)
 (fun p q0 ih gs σ n τ v φ w k=>@List.rec (Nat × GV) (fun q0=>Bool) false (fun g r q0=>uV p.2 g.2 σ n τ v φ w fun σ n τ v φ w=>ih r σ n τ v φ w k) gs) ps
def uI(ps:List (Int × PV)):List (Int × GV)->Nat->Nat->List GI->Nat->List Fl->Nat->UK->Bool:=@List.rec (Int × PV) (fun q0=>List (Int × GV)->Nat->Nat->List GI->Nat->List Fl->Nat->UK->Bool) (fun q0 σ n τ v φ w k=>k σ n τ v φ w)
 (fun p q0 ih gs σ n τ v φ w k=>@List.rec (Int × GV) (fun q0=>Bool) false (fun g r q0=>uV p.2 g.2 σ n τ v φ w fun σ n τ v φ w=>ih r σ n τ v φ w k) gs) ps
def uM(r:List (Int × GV))(ps:List (Int × PV)):Nat->Nat->List GI->Nat->List Fl->Nat->UK->Bool:=@List.rec (Int × PV) (fun q0=>Nat->Nat->List GI->Nat->List Fl->Nat->UK->Bool) (fun σ n τ v φ w k=>k σ n τ v φ w)
 (fun p q0 ih σ n τ v φ w k=>@Bool.rec (fun q0=>Bool) (ru r p.1 fun g=>uV p.2 g σ n τ v φ w fun σ n τ v φ w=>ih σ n τ v φ w k) (ih σ n τ v φ w k) (v6 p.2)) ps
abbrev UT:=GO->Nat->Nat->List GI->Nat->List Fl->Nat->UK->Bool
def uoL(l:List PV):UT:=fun o σ n τ v φ w k=>d9 o fun r=>uL l r σ n τ v φ w k
def uoT(l:List PV):UT:=fun o σ n τ v φ w k=>kF o (fun r=>uL l r σ n τ v φ w k) fun q0=>false
def uoI(_ d:Nat):UT:=fun o σ n τ v φ w k=>hV o fun q0 j=>@Bool.rec (fun q0=>Bool) (k σ n τ v φ w) (fN (Nat.succ n) fun n'=>fN (pC σ n j) fun σ'=>k σ' n' τ v φ w) (Nat.beq d n)
def uoD(es:List (Nat × PV)):UT:=fun o σ n τ v φ w k=>eW o fun r=>uE es r σ n τ v φ w k
def uoS(es:List (Nat × PV)):UT:=fun o σ n τ v φ w k=>oy o false (fun q0=>false) (fun r=>uE es r σ n τ v φ w k) false
def uoN(es:List (Int × PV)):UT:=fun o σ n τ v φ w k=>oy o false (fun r=>uI es r σ n τ v φ w k) (fun q0=>false) false
noncomputable def wm:UT:=fun q0 σ n τ v φ w k=>k σ n τ v φ w
def uoF(i:Nat):UT:=fun o σ n τ v φ w k=>@Bool.rec (fun q0=>Bool) (k σ n τ v φ w) (kF o (fun l=>fN (Nat.succ w) fun w'=>k σ n τ v (.t l::φ) w') fun q=>fN (Nat.succ w) fun w'=>k σ n τ v (.f q::φ) w') (Nat.beq i w)
def uoM(es:List (Int × PV)):UT:=fun o σ n τ v φ w k=>yH o (k σ n τ v φ w) (fun r=>uM r es σ n τ v φ w k) fun r=>uM r es σ n τ v φ w k
def uoK(i:Nat)(q:PV):UT:=fun o σ n τ v φ w k=>yE o fun j g=>uV (.own i) (.own j) σ n τ v φ w fun σ n τ v φ w=>uV q g σ n τ v φ w k
def uO(p:PO):UT:=@PO.rec (fun q0=>UT) uoL uoT uoI uoD uoS uoN wm uoF wm uoM wm (fun q0=>wm) (fun q0 q0=>wm) uoK (fun q0 q0=>wm) p
def uP(H:Tr)(P:List PO):Nat->Nat->Nat->List GI->Nat->List Fl->Nat->UK->Bool:=@List.rec PO (fun q0=>Nat->Nat->Nat->List GI->Nat->List Fl->Nat->UK->Bool) (fun q0 σ n τ v φ w k=>k σ n τ v φ w)
 (fun p q0 ih i σ n τ v φ w k=>nU σ i fun j=>uO p (H.get j) σ n τ v φ w fun σ n τ v φ w=>fN (Nat.succ i) fun i'=>ih i' σ n τ v φ w k) P
def yo{α:Type}(l:List α):List α->List α:=@List.rec α (fun q0=>List α->List α) (fun r=>r) (fun a q0 ih r=>ih (a::r)) l
structure eh where
 P:List PO
 cs:List Bool
 rt:List (Option PV)
def uR(rt:List (Option PV)):List GV->Nat->Nat->List GI->Nat->List Fl->Nat->UK->Bool:=@List.rec (Option PV) (fun q0=>List GV->Nat->Nat->List GI->Nat->List Fl->Nat->UK->Bool) (fun q0 σ n τ v φ w k=>k σ n τ v φ w)
 (fun p q0 ih gs σ n τ v φ w k=>@List.rec GV (fun q0=>Bool) false (fun g r q0=>@Option.rec PV (fun q0=>Bool) (ih r σ n τ v φ w k) (fun p=>uV p g σ n τ v φ w fun σ n τ v φ w=>ih r σ n τ v φ w k) p) gs) rt
def CX(σ:Nat)(τ:List GI)(rt:List (Option PV)):List GV->Bool:=@List.rec (Option PV) (fun q0=>List GV->Bool) (fun q0=>true) (fun p q0 ih gs=>@List.rec GV (fun q0=>Bool) false (fun g r q0=>@Bool.rec (fun q0=>Bool) false (ih r) (@Option.rec PV (fun q0=>Bool) true (fun p=>lS σ τ p g) p)) gs) rt
def ew(rt:List (Option PV)):List GV:=@List.rec (Option PV) (fun q0=>List GV) [] (fun p q0 ih=>@Option.rec PV (fun q0=>GV) .nul (fun p=>p.g) p::ih) rt
theorem qo{σ:Nat}{τ:List GI}:∀{rt:List (Option PV)} {gs:List GV},CX σ τ rt gs=true->∀j,ba (ew rt) j=.nul∨∃p,ba (ew rt) j=p.g/\lS σ τ p (ba gs j)=true
 | [],gs,h,j=>.inl (by cases j <;> rfl)
 | p::rt,[],h,j=>by cases h
 | p::rt,g::gs,h,j=>by
  obtain ⟨h1,h2⟩:=aJ h
  cases j with
  | zero=>
   cases p with
   | none=>exact .inl rfl
   | some p=>exact .inr ⟨p,rfl,h1⟩
  | succ j=>exact qo (rt:=rt) (gs:=gs) h2 j
def vh(pat:eh)(H:Tr)(nx:Nat)(R:Rn)(loc:List GV)(kk:Bool):Bool:=
 uR pat.rt loc 0 0 [] 0 [] 0 fun σ n τ v φ w=>uP H pat.P 0 σ n τ v φ w fun σ n τ v φ w=>xO n σ fun js=>fN (iG js) fun z=>
  (fun τ φ=>@Bool.rec (fun q0=>Bool) false kk (Nat.ble pat.P.length 300&&u6 js 0&&xM R pat.cs τ&&CX z τ pat.rt loc&&yQ z τ φ H nx pat.P js)) (yo τ []) (yo φ [])
theorem ls{p:PV}{g:GV}{σ:Nat}{n:Nat}{τ:List GI}{v:Nat}{φ:List Fl}{w:Nat}{k:UK}(h:uV p g σ n τ v φ w k=true):∃σ n τ v φ w,k σ n τ v φ w=true:=by
 cases p with
 | int i=>
  have h:@Bool.rec (fun q0=>Bool) (k σ n τ v φ w) (fP g fun e=>fN (Nat.succ v) fun v'=>k σ n (e::τ) v' φ w) (Nat.beq i v)=true:=h
  cases q:Nat.beq i v with
  | false=>rw [q] at h; exact ⟨_,_,_,_,_,_,h⟩
  | true=>rw [q] at h; obtain ⟨e,q0,h⟩:=dA h; rw [bO] at h; exact ⟨_,_,_,_,_,_,h⟩
 | own i=>
  have h:@Bool.rec (fun q0=>Bool) (k σ n τ v φ w) (bU g fun j=>fN (Nat.succ n) fun n'=>fN (pC σ n j) fun σ'=>k σ' n' τ v φ w) (Nat.beq i n)=true:=h
  cases q:Nat.beq i n with
  | false=>rw [q] at h; exact ⟨_,_,_,_,_,_,h⟩
  | true=>rw [q] at h; obtain ⟨e,q0,h⟩:=bn h; rw [bO,bO] at h; exact ⟨_,_,_,_,_,_,h⟩
 | _=>exact ⟨_,_,_,_,_,_,h⟩
theorem xy{k:UK}:∀{ps:List PV} {gs:List GV} {σ:Nat} {n:Nat} {τ:List GI} {v:Nat} {φ:List Fl} {w:Nat},uL ps gs σ n τ v φ w k=true->∃σ n τ v φ w,k σ n τ v φ w=true
 | [],gs,σ,n,τ,v,φ,w,h=>⟨_,_,_,_,_,_,h⟩
 | p::ps,[],σ,n,τ,v,φ,w,h=>by cases h
 | p::ps,g::gs,σ,n,τ,v,φ,w,h=>by
  obtain ⟨q0,q0,q0,q0,q0,q0,h⟩:=(ls (p:=p) (g:=g) (σ:=σ) (n:=n) (τ:=τ) (v:=v) (φ:=φ) (w:=w) (k:=fun σ n τ v φ w=>uL ps gs σ n τ v φ w k) h)
  exact xy (ps:=ps) (gs:=gs) h
theorem xJ{k:UK}:∀{ps:List (Nat × PV)} {gs:List (Nat × GV)} {σ:Nat} {n:Nat} {τ:List GI} {v:Nat} {φ:List Fl} {w:Nat},uE ps gs σ n τ v φ w k=true->∃σ n τ v φ w,k σ n τ v φ w=true
 | [],gs,σ,n,τ,v,φ,w,h=>⟨_,_,_,_,_,_,h⟩
 | p::ps,[],σ,n,τ,v,φ,w,h=>by cases h
 | p::ps,g::gs,σ,n,τ,v,φ,w,h=>by
  obtain ⟨q0,q0,q0,q0,q0,q0,h⟩:=(ls (p:=p.2) (g:=g.2) (σ:=σ) (n:=n) (τ:=τ) (v:=v) (φ:=φ) (w:=w) (k:=fun σ n τ v φ w=>uE ps gs σ n τ v φ w k) h)
  exact xJ (ps:=ps) (gs:=gs) h
theorem Fp{k:UK}:∀{ps:List (Int × PV)} {gs:List (Int × GV)} {σ:Nat} {n:Nat} {τ:List GI} {v:Nat} {φ:List Fl} {w:Nat},uI ps gs σ n τ v φ w k=true->∃σ n τ v φ w,k σ n τ v φ w=true
 | [],gs,σ,n,τ,v,φ,w,h=>⟨_,_,_,_,_,_,h⟩
 | p::ps,[],σ,n,τ,v,φ,w,h=>by cases h
 | p::ps,g::gs,σ,n,τ,v,φ,w,h=>by
  obtain ⟨q0,q0,q0,q0,q0,q0,h⟩:=(ls (p:=p.2) (g:=g.2) (σ:=σ) (n:=n) (τ:=τ) (v:=v) (φ:=φ) (w:=w) (k:=fun σ n τ v φ w=>uI ps gs σ n τ v φ w k) h)
  exact Fp (ps:=ps) (gs:=gs) h
theorem sI{k:UK}{r:List (Int × GV)}:∀{ps:List (Int × PV)} {σ:Nat} {n:Nat} {τ:List GI} {v:Nat} {φ:List Fl} {w:Nat},uM r ps σ n τ v φ w k=true->∃σ n τ v φ w,k σ n τ v φ w=true
 | [],σ,n,τ,v,φ,w,h=>⟨_,_,_,_,_,_,h⟩
 | p::ps,σ,n,τ,v,φ,w,h=>by
  have h:@Bool.rec (fun q0=>Bool) (ru r p.1 fun g=>uV p.2 g σ n τ v φ w fun σ n τ v φ w=>uM r ps σ n τ v φ w k) (uM r ps σ n τ v φ w k) (v6 p.2)=true:=h
  cases q:v6 p.2 with
  | true=>rw [q] at h; exact sI (ps:=ps) h
  | false=>
   rw [q] at h
   obtain ⟨g,q0,h⟩:=mU (l:=r) (z:=p.1) (k:=fun g=>uV p.2 g σ n τ v φ w fun σ n τ v φ w=>uM r ps σ n τ v φ w k) h
   obtain ⟨q0,q0,q0,q0,q0,q0,h⟩:=(ls h)
   exact sI (ps:=ps) h
theorem Gv{o:GO}{k0:Bool}{ki km:List (Int × GV)->Bool}(h:yH o k0 ki km=true):k0=true∨(∃l,ki l=true)∨∃l,km l=true:=by
 cases o <;> first | (cases h; done) | exact .inl h | exact .inr (.inl ⟨_,h⟩) | exact .inr (.inr ⟨_,h⟩)
theorem xm{o:GO}{k0:Bool}{ki:List (Int × GV)->Bool}{ks:List (Nat × GV)->Bool}{kit:Bool}(h:oy o k0 ki ks kit=true):k0=true∨(∃l,ki l=true)∨(∃l,ks l=true)∨kit=true:=by
 cases o <;> first | (cases h; done) | exact .inl h | exact .inr (.inl ⟨_,h⟩) | exact .inr (.inr (.inl ⟨_,h⟩)) | exact .inr (.inr (.inr h))
theorem SI{p:PO}{o:GO}{σ:Nat}{n:Nat}{τ:List GI}{v:Nat}{φ:List Fl}{w:Nat}{k:UK}(h:uO p o σ n τ v φ w k=true):∃σ n τ v φ w,k σ n τ v φ w=true:=by
 cases p with
 | list l=>obtain ⟨r,q0,h⟩:=da h; exact xy h
 | tuple l=>
  rcases eL h with ⟨r,_,h⟩ | ⟨q,_,h⟩
  ·exact xy h
  ·cases h
 | inst C d=>
  obtain ⟨q0,j,q0,h⟩:=fc h
  have h:@Bool.rec (fun q0=>Bool) (k σ n τ v φ w) (fN (Nat.succ n) fun n'=>fN (pC σ n j) fun σ'=>k σ' n' τ v φ w) (Nat.beq d n)=true:=h
  cases q:Nat.beq d n with
  | false=>rw [q] at h; exact ⟨_,_,_,_,_,_,h⟩
  | true=>rw [q] at h; rw [bO,bO] at h; exact ⟨_,_,_,_,_,_,h⟩
 | idict es=>obtain ⟨r,q0,h⟩:=dK h; exact xJ h
 | ds es=>
  rcases xm h with h | ⟨_,h⟩ | ⟨_,h⟩ | h
  ·cases h
  ·cases h
  ·exact xJ h
  ·cases h
 | di es=>
  rcases xm h with h | ⟨_,h⟩ | ⟨_,h⟩ | h
  ·cases h
  ·exact Fp h
  ·cases h
  ·cases h
 | d0=>exact ⟨_,_,_,_,_,_,h⟩
 | flat i=>
  have h:@Bool.rec (fun q0=>Bool) (k σ n τ v φ w) (kF o (fun l=>fN (Nat.succ w) fun w'=>k σ n τ v (.t l::φ) w') fun q=>fN (Nat.succ w) fun w'=>k σ n τ v (.f q::φ) w') (Nat.beq i w)=true:=h
  cases q:Nat.beq i w with
  | false=>rw [q] at h; exact ⟨_,_,_,_,_,_,h⟩
  | true=>
   rw [q] at h
   rcases eL h with ⟨r,_,h⟩ | ⟨q,_,h⟩
   ·rw [bO] at h; exact ⟨_,_,_,_,_,_,h⟩
   ·rw [bO] at h; exact ⟨_,_,_,_,_,_,h⟩
 | oit=>exact ⟨_,_,_,_,_,_,h⟩
 | dm es=>
  rcases Gv h with h | ⟨_,h⟩ | ⟨_,h⟩
  ·exact ⟨_,_,_,_,_,_,h⟩
  ·exact sI h
  ·exact sI h
 | junk=>exact ⟨_,_,_,_,_,_,h⟩
 | pool f=>exact ⟨_,_,_,_,_,_,h⟩
 | row a b=>exact ⟨_,_,_,_,_,_,h⟩
 | riter a b=>exact ⟨_,_,_,_,_,_,h⟩
 | dk i q=>
  obtain ⟨j,g,q0,h⟩:=vd h
  obtain ⟨q0,q0,q0,q0,q0,q0,h⟩:=(ls (p:=.own i) (g:=.own j) (k:=fun σ n τ v φ w=>uV q g σ n τ v φ w k) h)
  exact ls h
theorem xH{H:Tr}{k:UK}:∀{P:List PO} {i:Nat} {σ:Nat} {n:Nat} {τ:List GI} {v:Nat} {φ:List Fl} {w:Nat},uP H P i σ n τ v φ w k=true->∃σ n τ v φ w,k σ n τ v φ w=true
 | [],i,σ,n,τ,v,φ,w,h=>⟨_,_,_,_,_,_,h⟩
 | p::P,i,σ,n,τ,v,φ,w,h=>by
  obtain ⟨j,q0,h⟩:=kS (z:=σ) (k:=i) (f:=fun j=>uO p (H.get j) σ n τ v φ w fun σ n τ v φ w=>fN (Nat.succ i) fun i'=>uP H P i' σ n τ v φ w k) h
  obtain ⟨q0,q0,q0,q0,q0,q0,h⟩:=(SI h)
  rw [bO] at h
  exact xH (P:=P) h
theorem sW{k:UK}:∀{rt:List (Option PV)} {gs:List GV} {σ:Nat} {n:Nat} {τ:List GI} {v:Nat} {φ:List Fl} {w:Nat},uR rt gs σ n τ v φ w k=true->∃σ n τ v φ w,k σ n τ v φ w=true
 | [],gs,σ,n,τ,v,φ,w,h=>⟨_,_,_,_,_,_,h⟩
 | p::rt,[],σ,n,τ,v,φ,w,h=>by cases h
 | none::rt,g::gs,σ,n,τ,v,φ,w,h=>sW (rt:=rt) (gs:=gs) h
 | some p::rt,g::gs,σ,n,τ,v,φ,w,h=>by
  obtain ⟨q0,q0,q0,q0,q0,q0,h⟩:=(ls (p:=p) (g:=g) (σ:=σ) (n:=n) (τ:=τ) (v:=v) (φ:=φ) (w:=w) (k:=fun σ n τ v φ w=>uR rt gs σ n τ v φ w k) h)
  exact sW (rt:=rt) (gs:=gs) h
section
variable {x:aQ} {J:az} {H:Tr} {nx:Nat} {R:Rn} {O:Heap} {L:Addr} {m:Str->Option Value} {s:Shared} {vs:aq} {env:Env} {loc:List GV}
structure Wv (x:aQ) (pat:eh) (vs:aq) (env:Env) (O:Heap) (L:Addr) (m:Str->Option Value) (s:Shared) (it:Addr × Nat):Prop where
 ex:∃J vals,vals.length=pat.cs.length/\St x J (ed pat.P) pat.P.length (.mk (cW pat.cs vals) []) O L m s/\bq x J env L m vs (ew pat.rt)/\J.it=it
theorem Aw{pat:eh}{kk:Bool}(h:vh pat H nx R loc kk=true)(hvs:(vs.all fun p=>match p.2 with | .loc=>true | .glo=>true | _=>false)=true)(S:St x J H nx R O L m s)(Lo:bq x J env L m vs loc) :
  kk=true/\Wv x pat vs env O L m s J.it:=by
 obtain ⟨q0,q0,q0,q0,q0,q0,h⟩:=(sW h)
 obtain ⟨σ0,q0,τ0,q0,φ0,q0,h⟩:=(xH h)
 obtain ⟨js,h⟩:=(qd h)
 rw [bO] at h
 obtain ⟨h1,h2⟩:=aJ h
 simp only [Bool.and_eq_true] at h1
 obtain ⟨⟨⟨⟨a1,a2⟩,a3⟩,a4⟩,a5⟩:=h1
 obtain ⟨J',vals,l,rn,S',q0,q0⟩:=(S.anew ⟨a2,a5,a3,Nat.le_of_ble_eq_true a1⟩)
 refine ⟨h2,⟨J',vals,l,S',fun j i kd hj=>?_,rn.it⟩⟩
 obtain ⟨t,ht,hd,sl⟩:=(Lo j i kd hj)
 refine ⟨t,ht,hd,?_⟩
 have hk:=List.all_eq_true.mp hvs _ (List.mem_of_getElem? hj)
 cases kd with
 | cel=>cases hk
 | blk=>cases hk
 | glo=>exact sl
 | loc=>
  refine ⟨sl.1,sl.2.1,fun n=>?_⟩
  rcases qo a4 j with q | ⟨p,q1,q2⟩
  ·exact absurd q n
  ·have ne:ba loc j≠.nul:=fun e=>by
    rw [e] at q2
    cases p <;> cases q2
   obtain ⟨v,v1,v2⟩:=(sl.2.2 ne)
   exact ⟨v,v1,by rw [q1]; exact gP rn q2 v2⟩
end
end
section
section
variable {x:aQ} {d:Nat} {vs:aq} {J:az} {H:Tr} {nx:Nat} {R:Rn} {O:Heap} {L:Addr} {m:Str->Option Value} {s:Shared} {A:Around} {E:Value->Shared->Prop} {env:Env} {loc:List GV}
theorem lX{a:AV}{f:EV}{r:SV}{t e:Expr}{rest:List Stmt}(ha:dP x d vs a t)(hf:aK x d vs f e)(hr:au x d vs r rest)(h1:∀line env,swapsWithSole [t] e line env=pure false)(h2:iZ t=true)(h3:bZ t=true)(pos:Pos):au x d vs (aB a f r) (.Assign [t] e pos::rest):=by
 intro H nx R loc k h A env O L m J s Q E Hh En S Lo hQ
 refine ec hr Hh En hQ ?_
 refine wpAny_Assign_stores (hf H nx R loc _ h A env O L m J s _ E Hh En S Lo fun J1 H1 nx1 R1 s1 g v le1 S1 i1 hk=>?_) (h1 _ _) ?_
 ·rw [cT h3 env]
  exact ha g H1 nx1 R1 loc _ hk A env O L m J1 s1 v _ E Hh En S1 (Lo.more le1) i1 fun J2 H2 nx2 R2 loc2 m2 s2 le2 S2 Lo2 hk2=>ef (le1.trans le2) S2 Lo2 hk2
 ·exact iT (.inl h2) _
def IY:ce:=fun gs H nx R k=>ju gs fun g=>gB g fun b=>@Bool.rec (fun q0=>Bool) (k (.int (.lit (.ofNat 0))) H nx R) (k (.int (.lit (.ofNat 1))) H nx R) b
theorem GN:cK x d IY (.type "int"):=by
 intro gs H nx R k h A O L m J s us Q E Hh S iu hQ
 symm
 obtain ⟨g,rfl,h⟩:=fF h
 obtain ⟨b,rfl,h⟩:=pu h
 cases iu with
 | cons i r=>
 cases r
 cases i
 symm
 refine call_int_bool ?_
 cases b with
 | true=>exact hQ J H nx R _ _ _ (.refl _) (S.tok _) (.int (e:=.lit (.ofNat 1)) _ trivial) h
 | false=>exact hQ J H nx R _ _ _ (.refl _) (S.tok _) (.int (e:=.lit (.ofNat 0)) _ trivial) h
def tI(o:GO)(k0:Bool)(k:List (Int × GV)->Bool):Bool:=yH o k0 k k
theorem rR{o:GO}{k0:Bool}{k:List (Int × GV)->Bool}(h:tI o k0 k=true):(o=.d0/\k0=true)∨(∃es,o=.di es/\k es=true)∨∃es,o=.dm es/\k es=true:=by
 cases o <;> first | (cases h; done) | exact .inl ⟨rfl,h⟩ | exact .inr (.inl ⟨_,rfl,h⟩) | exact .inr (.inr ⟨_,rfl,h⟩)
def eP(l:List (Int × GV))(i:Int)(n:GV):GV:=@List.rec (Int × GV) (fun q0=>GV) n (fun p q0 ih=>@Bool.rec (fun q0=>GV) ih p.2 (cV p.1 i)) l
def sV(i:Nat):ce:=fun gs H nx R k=>@List.rec GV (fun q0=>Bool) false (fun g r q0=>eG g fun z=>@List.rec GV (fun q0=>Bool) (tI (H.get i) (k .none H nx R) fun es=>k (eP es z .none) H nx R) (fun g r2 q0=>eD g (@Bool.rec (fun q0=>Bool) false (tI (H.get i) (k g H nx R) fun es=>k (eP es z g) H nx R) (jI r2))) r) gs
theorem eT.atN{T:List Str}{J:az}{z:Int}{g:GV}{v:Value}(hg:Is T J g v):∀{es:List (Int × GV)} {ds:List (Int × Value)},eT T J es ds->Is T J (eP es z g) ((valueAt ds z).getD v)
 | _,_,.nil=>hg
 | _,_,@eT.cons _ _ i g' w es ds a r=>by
  have e:eP ((i,g')::es) z g=@Bool.rec (fun q0=>GV) (eP es z g) g' (cV i z):=rfl
  have e2:valueAt ((i,w)::ds) z=if i=z then some w else valueAt ds z:=by
   unfold valueAt
   rw [List.find?_cons]
   by_cases q:i=z <;> simp [q]
  rw [e,e2]
  cases q:cV i z with
  | true=>
   have:i=z:=eq_of_beq (cv q)
   rw [if_pos this]; exact a
  | false=>
   have:i≠z:=by have:=cv q; simpa using this
   rw [if_neg this]; exact eT.atN hg r
theorem nH{z:Int}{g:GV}:∀{es:List (Int × GV)},es.lookup z=none->eP es z g=g
 | [],_=>rfl
 | (a,b)::es,h=>by
  have e:eP ((a,b)::es) z g=@Bool.rec (fun q0=>GV) (eP es z g) b (cV a z):=rfl
  rw [List.lookup_cons] at h
  rw [e]
  cases q:z == a with
  | true=>rw [q] at h; cases h
  | false=>
   rw [q] at h
   have:cV a z=false:=by
    cases q2:cV a z with
    | false=>rfl
    | true=>have:a=z:=eq_of_beq (cv q2); subst this; simp at q
   rw [this]; exact nH h
theorem wa{z:Int}{g b:GV}{es:List (Int × GV)}:es.lookup z=some b->eP es z g=b:=by
 induction es with
 | nil=>
  intro h
  cases h
 | cons pq es ih=>
  intro h
  obtain ⟨a,c⟩:=pq
  have e:eP ((a,c)::es) z g=@Bool.rec (fun q0=>GV) (eP es z g) c (cV a z):=rfl
  rw [List.lookup_cons] at h
  rw [e]
  cases q:z == a with
  | true=>
   rw [q] at h
   have:z=a:=eq_of_beq q
   subst this
   have:cV z z=true:=by
    cases q2:cV z z with
    | true=>rfl
    | false=>have:=cv q2; simp at this
   rw [this]; cases h; rfl
  | false=>
   rw [q] at h
   have:cV a z=false:=by
    cases q2:cV a z with
    | false=>rfl
    | true=>have:a=z:=eq_of_beq (cv q2); subst this; simp at q
   rw [this]; exact ih h
theorem DM.atN{T:List Str}{J:az}{z:Int}{g:GV}{v:Value}(hg:Is T J g v){es:List (Int × GV)}{ds:List (Int × Value)}(h:DM T J es ds):Is T J (eP es z g) ((valueAt ds z).getD v):=by
 cases q:es.lookup z with
 | none=>rw [nH q,h.2 z q]; exact hg
 | some b=>
  rw [wa q]
  rcases h.1 z b q with rfl | ⟨w,a,i⟩
  ·exact .unk _
  ·rw [a]; exact i
def WB(op:Nat->ce)(f:EV)(l:LV):EV:=fun H nx R loc k=>f H nx R loc fun g H nx R=>bU g fun i=>tI (H.get i) (l H nx R loc fun gs H nx R=>op i gs H nx R k) fun q0=>l H nx R loc fun gs H nx R=>op i gs H nx R k
theorem CW(hM:iW x):oB x d "dict.get" sV:=by
 intro i gs H nx R k h A O L m J s a us Q E Hh S ha iu hQ
 cases gs with
 | nil=>cases h
 | cons g r=>
 obtain ⟨z,rfl,h⟩:=cM h
 obtain ⟨os,hos,el,N⟩:=S.led.at_
 have il:i<os.length:=el▸aN ha
 have hp:=cn ha (List.getElem?_eq_getElem il)
 have ob:=hos i _ (List.getElem?_eq_getElem il)
 have zz:=N _ hp
 have nm:=qL hM Hh zz.2.2
 cases iu with
 | cons i1 i2=>
 obtain ⟨t,rfl,ok1⟩:=i1
 cases r with
 | nil=>
  cases i2
  rcases rR (show tI (H.get i) (k .none H nx R) (fun es=>k (eP es z .none) H nx R)=true from h) with ⟨e,h⟩ | ⟨es,e,h⟩ | ⟨es,e,h⟩
  ·rw [e] at ob
   obtain ⟨a1,a2⟩:=ob
   exact kdg_get1 N hp a1 nm (k:=z) (beq_self_eq_true z) none rfl (hQ J H nx R _ _ _ (.refl _) (S.tok _) .none h)
  ·rw [e] at ob
   obtain ⟨ds,a1,a2⟩:=ob
   have ii:=eT.atN (z:=z) (Is.none (T:=x.T) (J:=J)) a2
   exact kdg_get1 N hp a1 nm (k:=z) (beq_self_eq_true z) _ rfl (hQ J H nx R _ _ _ (.refl _) (S.tok _) ii h)
  ·rw [e] at ob
   obtain ⟨ds,a1,a2⟩:=ob
   have ii:=DM.atN (z:=z) (Is.none (T:=x.T) (J:=J)) a2
   exact kdg_get1 N hp a1 nm (k:=z) (beq_self_eq_true z) _ rfl (hQ J H nx R _ _ _ (.refl _) (S.tok _) ii h)
 | cons g r=>
  cases i2 with
  | cons i2 i3=>
  obtain ⟨n,h1⟩:=cP h
  obtain ⟨hn,h9⟩:=aJ h1
  cases i3 with
  | cons _ _=>cases hn
  | nil=>
  rcases rR h9 with ⟨e,h⟩ | ⟨es,e,h⟩ | ⟨es,e,h⟩
  ·rw [e] at ob
   obtain ⟨a1,a2⟩:=ob
   exact kdg_get2 N hp a1 nm (k:=z) (beq_self_eq_true z) none rfl (hQ J H nx R _ _ _ (.refl _) (S.tok _) i2 h)
  ·rw [e] at ob
   obtain ⟨ds,a1,a2⟩:=ob
   have ii:=eT.atN (z:=z) i2 a2
   exact kdg_get2 N hp a1 nm (k:=z) (beq_self_eq_true z) _ rfl (hQ J H nx R _ _ _ (.refl _) (S.tok _) ii h)
  ·rw [e] at ob
   obtain ⟨ds,a1,a2⟩:=ob
   have ii:=DM.atN (z:=z) i2 a2
   exact kdg_get2 N hp a1 nm (k:=z) (beq_self_eq_true z) _ rfl (hQ J H nx R _ _ _ (.refl _) (S.tok _) ii h)
theorem G6(hM:iW x){f:EV}{o:Expr}{l:LV}{es:List Expr}(hf:aK x d vs f o)(hl:eg x d vs l es)
  (hc:je o=true) (hp:bx es=true) {apos pos:Pos} (hline:(apos.endLine == pos.line)=true) (hn:es.length<30):aK x d vs (WB sV f l) (.Call (.Attribute o "get" apos) es [] pos):=by
 intro H nx R loc k h A env O L m J s Q E Hh En S Lo hQ
 refine ff hc hp hline hn (hf H nx R loc _ h A env O L m J s _ E Hh En S Lo fun J1 H1 nx1 R1 s1 g v1 le1 S1 i1 h1 pl=>?_)
 symm
 obtain ⟨i,rfl,h2⟩:=bn h1
 obtain ⟨a,rfl,ha⟩:=i1
 obtain ⟨os,hos,el,N⟩:=S1.led.at_
 symm
 have il:i<os.length:=el▸aN ha
 have hm:=cn ha (List.getElem?_eq_getElem il)
 have ob:=hos i _ (List.getElem?_eq_getElem il)
 have fin:∀h3,l H1 nx1 R1 loc (fun gs H nx R=>sV i gs H nx R k)=true->h3=true->wpAny (model x.prog x.w) A (callWith pos (.builtin "dict.get") [.ref a] (backTo pos (starEach es env)) []) Q E s1:=fun q0 h3 q0=>
  fw hl hp h3 Hh En S1 (Lo.more le1) fun J' H nx R s gs us le S' iu hk'=>CW hM i gs H nx R k hk' A O L m J' s _ us Q E Hh S' (aF le.1 ha) iu (hQ.le (le1.trans le))
 rcases rR h2 with ⟨e,h3⟩ | ⟨es',e,h3⟩ | ⟨es',e,h3⟩
 ·rw [e] at ob
  obtain ⟨a1,a2⟩:=ob
  exact kdg_method N hm a1 (fin true h3 rfl)
 ·rw [e] at ob
  obtain ⟨q0,a1,a2⟩:=ob
  exact kdg_method N hm a1 (fin true h3 rfl)
 ·rw [e] at ob
  obtain ⟨q0,a1,a2⟩:=ob
  exact kdg_method N hm a1 (fin true h3 rfl)
end
end
section
section
variable {x:aQ} {d:Nat} {vs:aq} {J:az} {H:Tr} {nx:Nat} {R:Rn} {O:Heap} {L:Addr} {m:Str->Option Value} {s:Shared} {A:Around} {E:Value->Shared->Prop} {env:Env} {loc:List GV}
theorem St.parts{o':Obj}{h':Heap}{i:Nat}{a:Addr}(S:St x J H nx R O L m s)(ha:J.as[i]?=some a)(he:Heap.ExtBut a s.heap h')(ho:h'.get? a=some o') :
  ∃os,(∀k o,os[k]?=some o->k≠i->aL x.T x.CT x.nd (x.prog,x.w) J (H.get k) o)/\os[i]?=some o'/\J.as.length=os.length/\News O L h' (J.as.zip os)/\Fr O L h' m:=by
 obtain ⟨os,hos,el,N⟩:=S.led.at_
 have il:i<os.length:=el▸aN ha
 have hoi:=List.getElem?_eq_getElem il
 obtain ⟨q1,q2,q3⟩:=(N _ (cn ha hoi))
 have N':News O L h' (J.as.zip (os.set i o')):=by
  obtain ⟨pre,post,e1,e2,p1,p2⟩:=(ey (o':=o') S.led.nod ha hoi).split
  rw [e2]
  rw [e1] at N
  intro p hp
  rcases List.mem_append.mp hp with hp | hp
  ·have z:=N p (List.mem_append_left _ hp)
   exact ⟨he _ _ (p1 p hp) z.1,z.2⟩
  ·rcases List.mem_cons.mp hp with rfl | hp
   ·exact ⟨ho,q2,q3⟩
   ·have z:=N p (List.mem_append_right _ (.tail _ hp))
    exact ⟨he _ _ (p2 p hp) z.1,z.2⟩
 refine ⟨os.set i o',fun k y hk ne=>?_,List.getElem?_set_self il,by rw [List.length_set]; exact el,N',⟨S.fr.ns.extBut he (Ne.symm q2),fun b o e=>he b o (fun z=>by rw [z,q3] at e; cases e) (S.fr.keep b o e),S.fr.above⟩⟩
 rw [List.getElem?_set_ne (Ne.symm ne)] at hk
 exact hos k y hk
theorem St.updT{H':Tr}{g:GO}{o':Obj}{h':Heap}{i:Nat}{a:Addr}(S:St x J H nx R O L m s)(ha:J.as[i]?=some a)(he:Heap.ExtBut a s.heap h')(ho:h'.get? a=some o')(hg:aL x.T x.CT x.nd (x.prog,x.w) J g o')(hA:∀k,k<nx->H'.get k=if k=i then g else H.get k)(tk:Nat) :
  St x J H' nx R O L m { s with heap:=h',toks:=tk }:=by
 obtain ⟨os,h1,h2,h3,h4,h5⟩:=(S.parts ha he ho)
 refine ⟨⟨S.led.nod,os,fun k y hk=>?_,h3,h4⟩,S.nx,h5,S.gens,S.rn⟩
 rw [hA k (by rw [<- S.nx,h3]; exact aN hk)]
 by_cases e:k=i
 ·subst e
  rw [h2] at hk
  cases hk
  rw [if_pos rfl]; exact hg
 ·rw [if_neg e]; exact h1 k y hk e
theorem Is.reit{T:List Str}{J:az}{g:GV}{v:Value}(i:Is T J g v)(it:Addr × Nat):Is T { J with it:=it } g v:=by
 cases g <;> exact i
theorem aL.reit{T:List Str}{CT:List Addr}{nd:Nat}{pw:Program × World}{J:az}{g:GO}{o:Obj}(h:aL T CT nd pw J g o)(hne:g≠.oit)(it:Addr × Nat):aL T CT nd pw { J with it:=it } g o:=by
 have v:∀{g:GV} {v:Value},Is T J g v->Is T { J with it:=it } g v:=fun i=>i.reit it
 have l:∀{gs:List GV} {vs:List Value},be T J gs vs->be T { J with it:=it } gs vs:=fun i=>by
  induction i with
  | nil=>exact .nil
  | cons a _ ih=>exact .cons (v a) ih
 have en:∀{es:List (Nat × GV)} {ds:List DictEntry},dy T nd J es ds->dy T nd { J with it:=it } es ds:=fun i=>by
  induction i with
  | nil=>exact .nil
  | cons a b c d _ ih=>exact .cons a b c (v d) ih
 have ei:∀{es:List (Int × GV)} {ds:List (Int × Value)},eT T J es ds->eT T { J with it:=it } es ds:=fun i=>by
  induction i with
  | nil=>exact .nil
  | cons a _ ih=>exact .cons (v a) ih
 have es:∀{es:List (Nat × GV)} {ds:List (Str × Value)},gk T J es ds->gk T { J with it:=it } es ds:=fun i=>by
  induction i with
  | nil=>exact .nil
  | cons a b _ ih=>exact .cons a (v b) ih
 cases g with
 | list gs=>exact h.imp fun q0=>Exists.imp fun q0=>And.imp_right l
 | tuple gs=>exact h.imp fun q0=>And.imp_right l
 | idict gs=>exact h.imp fun q0=>Exists.imp fun q0=>And.imp_right en
 | di gs=>exact h.imp fun q0=>And.imp_right ei
 | ds gs=>exact h.imp fun q0=>And.imp_right es
 | cell g=>exact h.imp id (Exists.imp fun q0=>And.imp_right v)
 | ns gs=>exact h.imp fun q0=>And.imp_right fun k i g e=>(k i g e).imp fun q0=>Exists.imp fun q0=>And.imp_right (And.imp_right v)
 | dm gs=>exact h.imp fun q0=>And.imp_right (And.imp_left fun k z g e=>(k z g e).imp id (Exists.imp fun q0=>And.imp_right v))
 | oit=>exact absurd rfl hne
 | dk k g=>exact h.imp fun q0=>Exists.imp fun q0=>Exists.imp fun q0=>Exists.imp fun q0=>And.imp_right (And.imp_left v)
 | _=>exact h
theorem St.reit{i:Nat}{a:Addr}{o':Obj}{h':Heap}(S:St x J H nx R O L m s)(ha:J.as[i]?=some a)(hi:H.get i=.oit)(hn:∀k,k<nx->k≠i->H.get k≠.oit)(it:Addr × Nat)(he:Heap.ExtBut a s.heap h')(ho:h'.get? a=some o')
  (hc:o'.cls=.type "list_iterator") (hd:o'.data=.fields #[.ref it.1,.int it.2 0]) (tk:Nat):St x { J with it:=it } H nx R O L m { s with heap:=h',toks:=tk }:=by
 obtain ⟨os,h1,h2,h3,h4,h5⟩:=(S.parts ha he ho)
 refine ⟨⟨S.led.nod,os,fun k y hk=>?_,h3,h4⟩,S.nx,h5,S.gens,S.rn⟩
 have kl:k<nx:=by rw [<- S.nx,h3]; exact aN hk
 by_cases e:k=i
 ·subst e
  rw [h2] at hk
  cases hk
  rw [hi]; exact .oit hc hd
 ·exact (h1 k y hk e).reit (hn k kl e) it
structure ya (x:aQ) (v:Value) (who deed:Nat) (z:Int):Prop where
 ex:∃ta o n t1 t2 t3 sx,v=.ref ta/\x.K.lookup ta=some o/\o.cls=.type "tuple"/\o.data=.seq #[.int (who:Int) t1,.str sx t2,.int z t3] n/\x.T[deed]?=some sx
theorem Gl{ge:GI}{r:jR}{ts:List Expr}(hr:hO x d vs r ts)(hp:bx ts=true)(hl:ts.length=3)(kd:Nat)(pos:Pos){who deed:Nat}{z:Int}{v:Value}(hv:ya x v who deed z){k:Tr->Nat->Rn->List GV->Bool}
  (h:r [.int (.lit (.ofNat who)),.str deed,.int ge] H nx R loc k=true) (Hh:cj x d A O L) (En:bP env L) (S:St x J H nx R O L m s) (Lo:bq x J env L m vs loc) (hn:ge.ok J.ns.length/\ge.ev J.ns=z) {Q:Unit->Shared->Prop}
  (hQ:∀J' H nx R loc m s,J.le J'->St x J' H nx R O L m s->bq x J' env L m vs loc->k H nx R loc=true->Q () s):wpAny (model x.prog x.w) A (assign (.Tuple ts kd pos) env v) Q E s:=by
 symm
 obtain ⟨ta,o,c,t1,t2,t3,sx,rfl,h1,h2,h3,h4⟩:=hv.ex
 symm
 rw [assign_Tuple]
 obtain ⟨l1,l2⟩:=(lp hp env)
 refine wpAny_bind (wpAny_standAt ?_)
 unfold unpack
 rw [l1,l2]
 have lu:s.heap.IsTuple ta #[.int (who:Int) t1,.str sx t2,.int z t3]:=⟨o,(Hh.X.keeps S.fr.keep) _ _ h1,h2,c,h3⟩
 refine wpAny_bind (wpAny_holding ?_)
 have iz:Is x.T J (.int ge) (.int z t3):=by
  have:=Is.int (T:=x.T) (J:=J) (e:=ge) t3 hn.1
  rwa [hn.2] at this
 have iu:be x.T J [.int (.lit (.ofNat who)),.str deed,.int ge] [.int (who:Int) t1,.str sx t2,.int z t3]:=.cons (.int (e:=.lit (.ofNat who)) t1 trivial) (.cons (.str t2 h4) (.cons iz .nil))
 have:=unpackItems_tuple (E:=E) (Q:=fun us s'=>wpAny (model x.prog x.w) A (assignInOrder ((assignEach ts env).map (·.2)) us) Q E s') (prog:=x.prog) (w:=x.w) (A:=A) Hh.hnd lu fun h' he=>hr _ H nx R loc k h A env O L m J _ _ Q E Hh En (S.ext he s.toks) Lo iu (by rw [hl]; rfl) hQ
 rw [hl]
 exact this
end
end
section
def xP(P:List PO)(o:PO):List PO:=@List.rec PO (fun q0=>List PO) [o] (fun p q0 ih=>p::ih) P
theorem vS(o:PO):∀P:List PO,xP P o=P++[o]
 | []=>rfl
 | p::P=>congrArg (p::·) (vS o P)
def jb(pat:eh)(o:PO)(it:Nat)(H:Tr)(nx:Nat)(R:Rn)(loc:List GV):Bool:=
 uR pat.rt loc 0 0 [] 0 [] 0 fun σ n τ v φ w=>uP H pat.P 0 σ n τ v φ w fun σ n τ v φ w=>fN (pC σ n it) fun σ=>xO (Nat.succ n) σ fun js=>fN (iG js) fun z=>
  (fun τ φ=>Nat.ble (xP pat.P o).length 300&&u6 js 0&&xM R pat.cs τ&&CX z τ pat.rt loc&&yQ z τ φ H nx (xP pat.P o) js&&nU z pat.P.length fun j=>Nat.beq j it) (yo τ []) (yo φ [])
def py(P:List PO):Bool:=@List.rec PO (fun q0=>Bool) true (fun p q0 ih=>@PO.rec (fun q0=>Bool) (fun q0=>ih) (fun q0=>ih) (fun q0 q0=>ih) (fun q0=>ih) (fun q0=>ih) (fun q0=>ih) ih (fun q0=>ih) false (fun q0=>ih) ih (fun q0=>ih) (fun q0 q0=>ih) (fun q0 q0=>ih) (fun q0 q0=>ih) p) P
theorem tD:∀{P:List PO},py P=true->∀p∈P,p.g≠.oit
 | [],_,p,h=>by cases h
 | q::P,h,p,hm=>by
  rcases List.mem_cons.mp hm with rfl | hm2
  ·cases p <;> first | (intro e; unfold PO.g at e; cases e; done) | (have h:false=true:=h; cases h; done)
  ·cases q <;> first | (have h:false=true:=h; cases h; done) | exact tD (P:=P) h p hm2
section
variable {x:aQ} {d:Nat} {vs:aq} {J:az} {H:Tr} {nx:Nat} {R:Rn} {O:Heap} {L:Addr} {m:Str->Option Value} {s:Shared} {A:Around} {E:Value->Shared->Prop} {env:Env} {loc:List GV}
structure pL (x:aQ) (pat:eh) (o:PO) (a:Addr) (vs:aq) (env:Env) (O:Heap) (L:Addr) (m:Str->Option Value) (s:Shared) (it:Addr × Nat):Prop where
 ex:∃J vals,vals.length=pat.cs.length/\St x J (ed (pat.P++[o])) (pat.P.length+1) (.mk (cW pat.cs vals) []) O L m s/\bq x J env L m vs (ew pat.rt)/\J.it=it/\J.as[pat.P.length]?=some a/\J.ns=vals/\mj pat.cs vals
theorem jc{pat:eh}{o:PO}{it:Nat}{a:Addr}(h:jb pat o it H nx R loc=true)(hvs:(vs.all fun p=>match p.2 with | .loc=>true | .glo=>true | _=>false)=true)(S:St x J H nx R O L m s)(Lo:bq x J env L m vs loc)(ha:J.as[it]?=some a) :
  pL x pat o a vs env O L m s J.it:=by
 obtain ⟨q0,q0,q0,q0,q0,q0,h⟩:=(sW h)
 obtain ⟨σ0,q0,τ0,q0,φ0,q0,h⟩:=(xH h)
 rw [bO] at h
 obtain ⟨js,h⟩:=(qd h)
 rw [bO] at h
 simp only [Bool.and_eq_true] at h
 obtain ⟨⟨⟨⟨⟨a1,a2⟩,a3⟩,a4⟩,a5⟩,a6⟩:=h
 rw [vS] at a1 a5
 obtain ⟨J',vals,l,rn,S',sn,sg⟩:=(S.anew ⟨a2,a5,a3,Nat.le_of_ble_eq_true a1⟩)
 obtain ⟨j,j1,j2⟩:=kS a6
 have j2:=Nat.eq_of_beq_eq_true j2
 subst j2
 have el:(pat.P++[o]).length=pat.P.length+1:=by simp
 rw [el] at S'
 refine ⟨J',vals,l,S',fun j i kd hj=>?_,rn.it,rn.as _ _ _ j1 ha,sn,sg⟩
 obtain ⟨t,ht,hd,sl⟩:=(Lo j i kd hj)
 refine ⟨t,ht,hd,?_⟩
 have hk:=List.all_eq_true.mp hvs _ (List.mem_of_getElem? hj)
 cases kd with
 | cel=>cases hk
 | blk=>cases hk
 | glo=>exact sl
 | loc=>
  refine ⟨sl.1,sl.2.1,fun n=>?_⟩
  rcases qo a4 j with q | ⟨p,q1,q2⟩
  ·exact absurd q n
  ·have ne:ba loc j≠.nul:=fun e=>by
    rw [e] at q2
    cases p <;> cases q2
   obtain ⟨v,v1,v2⟩:=(sl.2.2 ne)
   exact ⟨v,v1,by rw [q1]; exact gP rn q2 v2⟩
theorem St.var{B:eZ}(S:St x J H nx R O L m s)(z:Int)(hB:gC B (J.ns++[z]))(hl:B.length=J.ns.length+1):St x { J with ns:=J.ns++[z] } H nx (.mk B []) O L m s:=by
 have le:J.le { J with ns:=J.ns++[z] }:=⟨List.prefix_rfl,List.prefix_append _ _,rfl,rfl⟩
 obtain ⟨os,hos,el,N⟩:=S.led.at_
 exact ⟨⟨S.led.nod,os,fun k o hk=>(hos k o hk).more le,el,N⟩,S.nx,S.fr,S.gens,⟨hB,by show (J.ns++[z]).length=B.length; rw [hl]; simp,fun i j b h=>by cases h⟩⟩
def jy(pat:eh)(o:PO)(it:Nat):KS:=fun gf H nx R loc=>@GF.rec (fun q0=>Bool) (jb pat o it H nx R loc) false (jb pat o it H nx R loc) (fun q0=>false) gf
structure Rows (x:aQ) (la:Addr) (rows:List (Nat × Nat × Int)):Prop where
 ex:∃o us n,x.K.lookup la=some o/\o.cls=.type "list"/\o.data=.seq us n/\us.size=rows.length/\∀(j:Nat) v,us[j]?=some v->∃r,rows[j]?=some r/\ya x v r.1 r.2.1 r.2.2
theorem lD{P:List PO}{o:PO}(h:P.length<300):(ed (P++[o])).get P.length=o.g:=qv (by simp; lia) List.getElem?_concat_length
theorem jL{P:List PO}{o:PO}(h:P.length<300){k:Nat}(lt:k<P.length):(ed (P++[o])).get k=P[k].g:=qv (by simp; lia) (by rw [List.getElem?_append_left lt,List.getElem?_eq_getElem lt])
theorem rY:∀{cs:List Bool} {vals:List Int},vals.length=cs.length->(cW cs vals).length=cs.length
 | [],vals,_=>rfl
 | c::cs,[],h=>by simp at h
 | c::cs,v::vals,h=>by simp [cW,rY (cs:=cs) (vals:=vals) (by simpa using h)]
end
end
section
structure gV (G:Heap) (fs:List Addr) (e:Addr) (cls:Value) (dd:Option Addr) (fl:Value) (h:Heap):Prop where
 keep:∀b o,G.get? b=some o->b≠e->b∉fs->h.get? b=some o
 fr:∀b o,G.get? b=some o->b≠e->∃sl,h.get? b=some { o with slots:=sl }
 ex:∃oe vs,h.get? e=some oe/\oe.cls=cls/\oe.dict=dd/\oe.data=.fields vs/\((vs[1]?=some .none/\fl=.none)∨∃T oT ts,vs[1]?=some (.ref T)/\G.get? T=none/\T≠e/\h.get? T=some oT/\oT.data=.fields ts/\ts[3]?=some fl)
 e0:(G.get? e).isSome
 sz:G.objs.size<=h.objs.size
section
variable {M:Model} {A:Around} {E:Value->Shared->Prop} {s:Shared} {G:Heap} {fs:List Addr} {e:Addr} {cls fl:Value} {dd:Option Addr}
theorem gV.here{h:Heap}{oe:Obj}{vs:Array Value}(he:h.get? e=some oe)(hd:oe.data=.fields vs)(h1:vs[1]?=some .none):gV h fs e oe.cls oe.dict .none h:=
 ⟨fun q0 q0 a q0 q0=>a,fun q0 o a q0=>⟨o.slots,a⟩,⟨oe,vs,he,rfl,rfl,hd,.inl ⟨h1,rfl⟩⟩,by rw [he]; rfl,Nat.le_refl _⟩
theorem gV.frames{h base:Heap}{l:List Env}(F:gV G fs e cls dd fl h)(hl:G.FunFrames base l)(hne:e∉l.filterMap (·.frame)):h.FunFrames base l:=by
 induction l with
 | nil=>trivial
 | cons env rest ih=>
  obtain ⟨hk,⟨L,o,hf,hn,ho,hd⟩,hr⟩:=hl
  rw [List.filterMap_cons,hf] at hne
  simp only [List.mem_cons,not_or] at hne
  obtain ⟨sl,hs⟩:=(F.fr L o ho (Ne.symm hne.1))
  exact ⟨hk,⟨L,_,hf,hn,hs,hd⟩,ih hr hne.2⟩
theorem pj(o:Obj)(f:Array Value->Array Value):(Obj.mapFields f o).cls=o.cls/\(Obj.mapFields f o).dict=o.dict:=by
 obtain ⟨c,d,dt,sl⟩:=o
 cases dt <;> exact ⟨rfl,rfl⟩
theorem gV.entry{base:Heap}{env:Env}{outer:List Env}{L:Addr}{head:Value}{hadNext:Bool}{Q:Unit->Shared->Prop}{oe:Obj}{vs:Array Value}(hfr:A.frames=some (env::outer))(hl:s.heap.FunFrames base (env::outer))(hf:env.frame=some L)
  (keep:∀b o,G.get? b=some o->b≠e->b∉fs->s.heap.get? b=some o) (fr:∀b o,G.get? b=some o->b≠e->∃sl,s.heap.get? b=some { o with slots:=sl })
  (he:s.heap.get? e=some oe) (hc:oe.cls=cls/\oe.dict=dd) (hd:oe.data=.fields vs) (h1:1<vs.size) (e0:(G.get? e).isSome) (hfs:∀b∈(env::outer).filterMap (·.frame),b∈fs) (hz:G.objs.size<=s.heap.objs.size)
  (h:∀h',gV G fs e cls dd (rawInt L) h'->Q () { s with heap:=h' }) :
  wpAny M A (do let a <- frameOf env; let pl <- entryPlaceOf L hadNext; let b <- EntryCells.newEntry head a .none (rawInt L) .none pl; setField (.ref e) 1 b) Q E s:=by
 have hne:e∉(env::outer).filterMap (·.frame):=fun q=>by
  obtain ⟨q0,o,ho,hn⟩:=(hl.mem q)
  rw [he] at ho; cases ho; exact hn vs hd
 refine wpAny_bind (wpAny_frameOf_fun hfr hl hf fun h₁ S=>?_)
 refine wpAny_bind (wpAny_entryPlaceOf fun pl hpl=>?_)
 unfold EntryCells.newEntry newFields
 refine wpAny_bind (wpAny_newObj_type ?_ (hpl.sizeOk5 _ _ _ _ _))
 have he₁:h₁.get? e=some oe:=(S.2.1 e hne).trans he
 have lt:e<h₁.objs.size:=Heap.lt_size he₁
 refine wpAny_setField (Heap.get?_push_of_some _ he₁) hd h1 (h _ ?_)
 have upd:=fun (b:Addr) (o:Obj) (hb:b≠e) (ho:h₁.get? b=some o)=>(Heap.get?_update_other (h₁.push { cls:=.type "traceback",dict:=none,data:=.fields ([head,.ref L,.none,rawInt L,.none]++(if pl.isEmpty then List.replicate 6 Value.none else pl)).toArray })
  (Obj.mapFields (·.setIfInBounds 1 (Value.ref h₁.objs.size))) (Ne.symm hb)).trans (Heap.get?_push_of_some _ ho)
 refine ⟨fun b o g1 g2 g3=>upd b o g2 ((S.2.1 b fun q=>g3 (hfs b q)).trans (keep b o g1 g2 g3)),fun b o g1 g2=>?_,?_,e0,by rw [Heap.size_after_update,Heap.size_push,S.1]; lia⟩
 ·obtain ⟨sl,q⟩:=(fr b o g1 g2)
  obtain ⟨sl2,q2⟩:=(S.2.2 b _ q)
  exact ⟨sl2,upd b _ g2 q2⟩
 ·have hd3:=Obj.data_mapFields hd (·.setIfInBounds 1 (Value.ref h₁.objs.size))
  refine ⟨_,_,Heap.get?_update_self _ (Heap.get?_push_of_some _ he₁) (Obj.isFreed_of_fields hd3),(pj oe _).1.trans hc.1,(pj oe _).2.trans hc.2,hd3,.inr ⟨h₁.objs.size,_,_,by simp [h1],Heap.get?_none_of_le (by rw [S.1]; exact hz),Nat.ne_of_gt lt,(Heap.get?_update_other _ _ (Nat.ne_of_lt lt)).trans (Heap.get?_push_size h₁ rfl),rfl,?_⟩⟩
  rcases hpl with rfl | ⟨_,_,_,_,_,_,_,rfl⟩ <;> simp
theorem gV.note{base:Heap}{env:Env}{outer:List Env}{L:Addr}{Q:Unit->Shared->Prop}(F:gV G fs e cls dd .none s.heap)(hfr:A.frames=some (env::outer))(hl:s.heap.FunFrames base (env::outer))(hf:env.frame=some L)
  (hfs:∀b∈(env::outer).filterMap (·.frame),b∈fs) (h:∀h',gV G fs e cls dd (rawInt L) h'->Q () { s with heap:=h' }):wpAny M A (noteFrame (.ref e) env) Q E s:=by
 obtain ⟨oe,vs,he,hc,hdd,hd,hh⟩:=F.ex
 unfold noteFrame
 simp only [hf]
 rcases hh with ⟨h1,_⟩ | ⟨T,oT,ts,h1,hGT,hTe,hoT,hdT,h3⟩
 ·refine wpAny_bind (wpAny_field he hd h1 ?_)
  rw [if_neg (by decide)]
  exact gV.entry hfr hl hf F.keep F.fr he ⟨hc,hdd⟩ hd (Array.getElem?_eq_some_iff.mp h1).1 F.e0 hfs F.sz h
 ·refine wpAny_bind (wpAny_field he hd h1 ?_)
  rw [if_pos (show (Value.ref T != Value.none)=true from by simp)]
  refine wpAny_bind (wpAny_field hoT hdT h3 ?_)
  rw [if_neg (show ¬ ((Value.none == rawInt L)=true) from by simp [rawInt])]
  refine wpAny_bind (wpAny_setField hoT hdT (Array.getElem?_eq_some_iff.mp h3).1 ?_)
  have oth:∀b,b≠T->(s.heap.update T (Obj.mapFields (·.setIfInBounds 3 Value.none))).get? b=s.heap.get? b:=fun b hb=>Heap.get?_update_other _ _ (Ne.symm hb)
  have neT:∀b o,G.get? b=some o->b≠T:=fun b o q z=>by rw [z,hGT] at q; cases q
  refine gV.entry hfr (hl.of_keeps fun b o q nf=>⟨o,(oth b fun z=>?_).trans q,rfl⟩) hf (fun b o q1 q2 q3=>(oth b (neT b o q1)).trans (F.keep b o q1 q2 q3)) (fun b o q1 q2=>?_) ((oth e (Ne.symm hTe)).trans he) ⟨hc,hdd⟩ hd (Array.getElem?_eq_some_iff.mp h1).1 F.e0 hfs (by rw [Heap.size_after_update]; exact F.sz) h
  ·rw [z,hoT] at q; cases q; exact nf ts hdT
  ·obtain ⟨sl,z⟩:=(F.fr b o q1 q2)
   exact ⟨sl,(oth b (neT b o q1)).trans z⟩
theorem gV.land{Q:Unit->Shared->Prop}(F:gV G fs e cls dd fl s.heap)(hfl:fl≠.none∨fl=.none)(h:∀h',gV G fs e cls dd .none h'->Q () { s with heap:=h' }):wpAny M A (setFlight (.ref e) none) Q E s:=by
 obtain ⟨oe,vs,he,hc,hdd,hd,hh⟩:=F.ex
 unfold setFlight
 rcases hh with ⟨h1,rfl⟩ | ⟨T,oT,ts,h1,hGT,hTe,hoT,hdT,h3⟩
 ·refine wpAny_bind (wpAny_field he hd h1 ?_)
  rw [if_neg (by decide)]
  exact wpAny_pure (h _ F)
 ·refine wpAny_bind (wpAny_field he hd h1 ?_)
  rw [if_pos (show (Value.ref T != Value.none)=true from by simp)]
  have sz:=(Array.getElem?_eq_some_iff.mp h3).1
  refine wpAny_setField hoT hdT sz (h _ ?_)
  have oth:∀b,b≠T->(s.heap.update T (Obj.mapFields (·.setIfInBounds 3 ((none:Option Addr).elim Value.none fun f=>rawInt f)))).get? b=s.heap.get? b:=fun b hb=>Heap.get?_update_other _ _ (Ne.symm hb)
  have neT:∀b o,G.get? b=some o->b≠T:=fun b o q z=>by rw [z,hGT] at q; cases q
  refine ⟨fun b o q1 q2 q3=>(oth b (neT b o q1)).trans (F.keep b o q1 q2 q3),fun b o q1 q2=>?_,⟨oe,vs,(oth e (Ne.symm hTe)).trans he,hc,hdd,hd,.inr ⟨T,_,_,h1,hGT,hTe,Heap.get?_update_self _ hoT (Obj.isFreed_of_fields (Obj.data_mapFields hdT _)),Obj.data_mapFields hdT _,by simp [sz]⟩⟩,F.e0,by rw [Heap.size_after_update]; exact F.sz⟩
  obtain ⟨sl,z⟩:=(F.fr b o q1 q2)
  exact ⟨sl,(oth b (neT b o q1)).trans z⟩
end
end
section
noncomputable abbrev rb(C t:Addr):Obj:={ cls:=.ref C,data:=.fields #[.ref t,.none,.none,.none,.bool false,.none] }
def excIn(K:Frag)(C:Addr):Prop:=∃nm qn N bs bm hdct sn sub ab col dd k0 k1 k2 k3 k5,
 K.lookup C=some (excClassObj nm qn C N bs bm hdct sn sub ab col dd k0 k1 k2 k3 k5 "Exception.__new__")/\(Value.ref C::bm).contains (.type "Exception")=true/\(Value.ref C::bm).contains (.type "BaseException")=true/\(Value.ref C::bm).contains (.type "AttributeError")=false/\(Value.ref C::bm).contains (.type "NameError")=false
theorem oI{K:Frag}{h:Heap}{C:Addr}(X:K.In h)(q:excIn K C):∃nm qn N bs bm hdct sn sub ab col dd k0 k1 k2 k3 k5,
  h.get? C=some (excClassObj nm qn C N bs bm hdct sn sub ab col dd k0 k1 k2 k3 k5 "Exception.__new__")/\(Value.ref C::bm).contains (.type "Exception")=true/\(Value.ref C::bm).contains (.type "BaseException")=true/\(Value.ref C::bm).contains (.type "AttributeError")=false/\(Value.ref C::bm).contains (.type "NameError")=false:=
 q.imp fun q0=>Exists.imp fun q0=>Exists.imp fun q0=>Exists.imp fun q0=>Exists.imp fun q0=>Exists.imp fun q0=>Exists.imp fun q0=>Exists.imp fun q0=>Exists.imp fun q0=>Exists.imp fun q0=>Exists.imp fun q0=>Exists.imp fun q0=>Exists.imp fun q0=>Exists.imp fun q0=>Exists.imp fun q0=>Exists.imp fun q0=>And.imp_left (X _ _)
section
variable {prog:Program} {w:World} {A:Around} {E:Value->Shared->Prop} {s:Shared} {K:Frag} {C L:Addr} {O:Heap} {m:Str->Option Value} {news:List (Addr × Obj)}
theorem Lm{bm:List Value}{nm qn:Str}{N:Addr}{bs:List Value}{hdct:Bool}{sn:List Str}{sub:List Value}{ab:Bool}{col:Option Bool}{dd:Option Addr}{k0 k1 k2 k3 k5:Option Value}{R:Result->Shared->Prop}{rest:List Value}
  (hC:s.heap.get? C=some (excClassObj nm qn C N bs bm hdct sn sub ab col dd k0 k1 k2 k3 k5 "Exception.__new__")) (cB:(Value.ref C::bm).contains (.type "Exception")=true) (cA:(Value.ref C::bm).contains (.type "AttributeError")=false) (cN:(Value.ref C::bm).contains (.type "NameError")=false)
  (hz:rest.length<=sizeLine) (hq:R (.ok (.ret (.ref (s.heap.objs.size+1)))) { s with heap:=(s.heap.push { cls:=.type "tuple",data:=.seq rest.toArray }).push (rb C s.heap.objs.size) }) :
  codeAny (model prog w) A (.call (.builtin "Exception.__new__") ⟨.ref C::rest,[]⟩) R s:=by
 have F:=PySem.F.excBase_Exception
 obtain ⟨h,g,d,t,os⟩:=s
 refine codeAny_call_builtin_code (Code.quiet_builtin _ F.quiet) ?_
 have hstar:=F.noStar
 simp only [checkBuiltinCall,F.newKind,F.newSplit,F.newRow]
 have hends:=F.ends
 repeat (first | refine wpAny_loadPart_at hC ?_ | (refine wpAny_isSubtype_exc hC ?_; rw [cB]) | refine wpAny_staticBase_exc hC ?_ | refine wpAny_madeBy_exc hC ?_ | simp only [bne_self_eq_false,Bool.false_eq_true,if_false] | wp_step)
 refine codeAny_builtinAt F.entry ?_
 unfold Builtin.«BaseException.__new__»
 refine PySem.wpAt_bind ?_
 show PySem.wpAt _ _ _ (stack >>= _) _ _ _
 refine PySem.wpAt_bind (PySem.wpAt_stack fun p below=>PySem.wpAt_of_wpAny ?_)
 wp_walk
 refine PySem.wpAt_of_wpAny ?_
 rw [F.owner]
 repeat (first | with_reducible refine wpAny_madeHere_exc F.canon hC ?_ | with_reducible refine wpAny_loadPart_at hC ?_ | (with_reducible refine wpAny_isSubtype_exc hC ?_; first | rw [cB] | rw [cA] | rw [cN]) | wp_step)
 show R _ _
 rw [Heap.size_push]
 exact hq
theorem F7{rest:List Value}{fI:Addr}{Q:Value->Shared->Prop}(F:Fr O L s.heap m)(N:News O L s.heap news)(X:K.In s.heap)(hm:excIn K C)(hi:findIn K (.ref C) "__init__" = some (some (.ref fI)))(hf:typeIn K (.ref fI)=some (.type "function"))(hz:rest.length<=sizeLine)
  (h:∀e t h',Fr O L h' m->News O L h' ((e,rb C t)::(t,{ cls:=.type "tuple",data:=.seq rest.toArray })::news)->(∀p∈news,p.1<t)->t<e->
   wpAny (model prog w) (A.under (.builtin "type.__call__" ⟨.ref C::rest,[]⟩)) (call (.ref fI) (.ref e::rest)) (fun r s'=>r=.none/\Q (.ref e) s') E { s with heap:=h' }):wpAny (model prog w) A (call (.ref C) rest) Q E s:=by
 symm
 obtain ⟨nm,qn,N',bs,bm,hdct,sn,sub,ab,col,dd,k0,k1,k2,k3,k5,hC,cB,q0,cA,cN⟩:=(oI X hm)
 obtain ⟨hh,g,d,t,os⟩:=s
 symm
 have f1:=tc_lookup
 have f2:=tc_bind (.ref C)
 have hT:(⟨hh,g,d,t,os⟩:Shared).TypeIs (.ref C) "type":=⟨_,hC,rfl⟩
 refine wpAny_call (codeAny_of_tree ?_)
 show wpAny _ _ (callAny (.ref C) _) _ _ _
 repeat (any_goals (first | assumption | with_reducible refine wpAny_loadPart_at hC ?_ | wp_step))
 refine ⟨rfl,?_⟩
 refine codeAny_call_builtin_at (Code.quiet_builtin _ (by decide +kernel)) entry_typeCall (wpAny_check_type_call_sub hC ?_)
 have N2:=(N.push F { cls:=.type "tuple",data:=.seq rest.toArray }).push (F.push _) (rb C hh.objs.size)
 rw [Heap.size_push] at N2
 have F2:=(F.push { cls:=.type "tuple",data:=.seq rest.toArray }).push (rb C hh.objs.size)
 have z:=h _ _ _ F2 N2 (fun p hp=>Heap.lt_size (N p hp).1) (Nat.lt_succ_self _)
 dsimp only at z
 have k:∀b o,hh.get? b=some o->((hh.push { cls:=.type "tuple",data:=.seq rest.toArray }).push (rb C hh.objs.size)).get? b=some o:=fun b o e=>Heap.get?_push_of_some _ (Heap.get?_push_of_some _ e)
 repeat (first | with_reducible refine wpAny_loadPart_at hC ?_ | with_reducible refine wpAny_madeBy_exc hC ?_ | wp_step)
 refine Lm hC cB cA cN hz ?_
 dsimp only
 have hr0:([]:List Value).append rest=rest:=rfl
 simp only [hr0]
 show wpAny _ _ _ _ _ _
 have hx:((hh.push { cls:=.type "tuple",data:=.seq rest.toArray }).push (rb C hh.objs.size)).get? (hh.objs.size+1)=some { cls:=.ref C,data:=.fields #[.ref hh.objs.size,.none,.none,.none,.bool false,.none] }:=(N2 _ (.head _)).1
 have hC1:=k _ _ hC
 have hcC:(Value.ref C::bm).contains (.ref C)=true:=by simp
 have i1:=(looks_findIn (M:=model prog w) X hi).keeps k
 have b1:=(bind_fn (M:=model prog w) X (.ref (hh.objs.size+1)) hf).keeps k
 unfold isInstance
 repeat (first | (with_reducible refine wpAny_loadPart_at hx ?_; dsimp only) | (with_reducible refine wpAny_isSubtype_exc hC1 ?_; rw [hcC]) | wp_step)
 show wpAny _ _ (typeLookup (.ref C) _) _ _ _
 refine i1.at ?_
 refine wpAny_holding (wpAny_bind (b1.at ?_))
 refine wpAny_bind (wpAny_mono z (fun r s' hr=>?_) fun q0 q0 x=>x)
 obtain ⟨rfl,hQ⟩:=hr
 wp_walk
 exact hQ
end
end
section
open PySem PySem.W PyProof.Rows PySem.Calls PySem.Builtin PySem.Builtin.ObjectAttr
def t9(l:List Value):Prop:=(∀self,refuseLoop self "__setattr__" l=pure ())/\l.contains (.type "object")=true/\l.contains (.type "BaseException")=true/\l.contains (.type "Exception")=true
theorem sv(self:Value){l:List Value}(h:t9 l):refuseLoop self "__setattr__" l=pure ()/\l.contains (.type "object")=true/\l.contains (.type "BaseException")=true/\l.contains (.type "Exception")=true:=⟨h.1 self,h.2⟩
def iC(K:Frag)(C:Addr):Prop:=∃cd,clsIn K C=some cd/\cd.mro.isEmpty=false/\t9 cd.mro
section
variable {prog:Program} {w:World} {A:Around} {E:Value->Shared->Prop} {s:Shared} {K:Frag} {C L x:Addr} {O:Heap} {m:Str->Option Value} {R:Result->Shared->Prop} {ox:Obj} {od:Option Obj} {name:Str} {v:Value}
theorem EM{M:Model}{h:Heap}(X:K.In h)(hp:iC K C):∃cd,clsIn K C=some cd/\Looks M h (mroOf (.ref C)) cd.mro/\(∀b,Looks M h (isSubtype (.ref C) b) (cd.mro.contains b))/\t9 cd.mro:=by
 symm
 obtain ⟨cd,hc,ne,ho⟩:=hp
 symm
 exact ⟨cd,hc,(looks_clsIn X hc).andThen .now,fun b=>looks_mroIn X (by unfold mroIn; rw [hc,Option.bind_some,if_neg (by rw [ne]; decide)]),ho⟩
theorem sj{tk:Tok}(X:K.In s.heap)(I:InstAt s.heap x ox C od)(hp:iC K C)(ht:findIn K (.ref C) name=some none)
  (h:∀b,wpAny (model prog w) A.in1 (storeInOwnDict (.ref x) (.ref C) (.str name tk) name v b)
   (fun fin s'=>match fin with | .done f=>R (.ok f) s' | .again c'=>c'.quiet=true/\codeAny (model prog w) A c' R s') (fun e s'=>R (.error e) s') s) :
  codeAny (model prog w) A (.call (.builtin "object.__setattr__") ⟨[.ref x,.str name tk,v],[]⟩) R s:=by
 symm
 have SF:=PySem.F.store_object
 obtain ⟨cd,hc,hm,hs,ho⟩:=(EM (M:=model prog w) X hp)
 obtain ⟨p1,p2,p3,p4⟩:=(sv (.ref x) ho)
 symm
 have sub:Looks (model prog w) s.heap (isInstance (.ref x) (.type "object")) true:=I.type.andThen (by have:=hs (.type "object"); rwa [p2] at this)
 refine codeAny_call_builtin SF.slot.plain SF.entry (@check_slot (model prog w) _ _ s "object.__setattr__" "object" "__setattr__" (.ref x) [.str name tk,v] [] _ SF.kind SF.split sub (SF.args (.ref x) (.str name tk) v) ?_)
 rw [osa_eq,refuse_eq]
 refine wpAny_bind (wpAny_bind (I.type.here (wpAny_bind (hm.here ?_))))
 rw [p1]
 refine wpAny_pure (wpAny_bind (I.type.here (wpAny_bind ((looks_findIn X ht).here (wpAny_bind (wpAny_pure ?_))))))
 exact h _
set_option tactic.hygienic true in
theorem Gr{od od':Obj}{dx:Addr}{pre post:List (Addr × Obj)}{es:List DictEntry}{n:Nat}{Q:Unit->Shared->Prop}(F:Fr O L s.heap m)(N:News O L s.heap (pre++(dx,od)::post))(X:K.In s.heap)
  (I:InstAt s.heap x ox C (some od)) (hd:ox.dict=some dx) (hsa:findIn K (.ref C) "__setattr__" = some (some (.builtin "object.__setattr__"))) (hp:iC K C) (ht:findIn K (.ref C) name=some none) (hh:hasDictIn K C=true)
  (hl:(lookIn name od).isSome=true) (h1:∀p∈pre,p.1≠dx) (h2:∀p∈post,p.1≠dx)
  (e:Obj.putName name (PyData.keyHash w.params name) (.str name (s.toks+1)) v od=od') (e':od'.data=.dict es.toArray n) (hz:es.length<=1000)
  (h:∀h',Fr O L h' m->News O L h' (pre++(dx,od')::post)->Q () { s with heap:=h',toks:=s.toks+2 }) :
  wpAny (model prog w) A (setAttr (.ref x) name v) Q E s:=by
 refine set_plain X I hsa (sj (s:={ s with toks:=s.toks+1 }) X I hp ht fun b=>?_)
 symm
 obtain ⟨cd,hc,hd'⟩:=(any_some hh)
 obtain ⟨U1,U2⟩:=(news_upd (f:=Obj.putName name (PyData.keyHash w.params name) (.str name (s.toks+1)) v) F N h1 h2 e (by obtain ⟨_,_,dd,_⟩:=od'; cases e'; rfl))
 have D:=(N (dx,od) (by simp)).1
 have D':=(U2 (dx,od') (by simp)).1
 obtain ⟨hx,hcl,hn,-⟩:=I
 obtain ⟨oc,odi,oda,osl⟩:=ox
 symm
 dsimp only at hcl hd
 subst hcl hd
 refine wpAny_bind (wpAny_pure (wpAny_bind (wpAny_bind (wpAny_loadPart hx (wpAny_bind (looks_clsIn X hc _ _ _ _ (fun q0 q0 e=>e) ?_))))))
 rw [hd']
 refine wpAny_pure (a:=some dx) (wpAny_bind (wpAny_pure (wpAny_bind ?_)))
 unfold nsSet
 refine wpAny_bind (wpAny_bind (wpAny_askSetting (wpAny_pure (wpAny_bind (wpAny_mkText (wpAny_bind (wpAny_loadPart D ?_)))))))
 unfold lookIn at hl
 split at hl
 ·rename_i es₀ n₀ q
  rw [q]
  dsimp only
  have c:(!es₀.any (·.key.isStr name)&&es₀.any (·.refKey))=false:=by
   rw [<- Array.any_toList,<- Array.any_toList]
   split at hl
   ·rename_i en he
    rw [List.any_eq_true.mpr ⟨en,List.mem_of_find?_eq_some he,List.find?_some he⟩]; rfl
   ·split at hl
    ·cases hl
    ·rename_i z; rw [Bool.not_eq_true] at z; rw [z,Bool.and_false]
  rw [aRefKeyMayBeTheName_at,c]
  refine wpAny_updatePart D ?_
  refine wpAny_bind (wpAny_lookBehind D' (by rw [e']; exact pastItsLine_dict (by rw [List.size_toArray,sizeLine_eq]; lia)) ?_)
  exact wpAny_pure (h _ U1 U2)
 ·cases hl
theorem xL{o:Obj}{d:Option Addr}(h:o.isFreed=false):({ o with dict:=d }:Obj).isFreed=false:=by
 obtain ⟨q0,q0,dt,q0⟩:=o
 cases dt <;> exact h
theorem FC{pre post:List (Addr × Obj)}{Q:Unit->Shared->Prop}(F:Fr O L s.heap m)(N:News O L s.heap (pre++(x,ox)::post))(X:K.In s.heap)
  (hcl:ox.cls=.ref C) (hno:notCls ox=true) (hd:ox.dict=none) (hsa:findIn K (.ref C) "__setattr__" = some (some (.builtin "object.__setattr__"))) (hp:iC K C) (ht:findIn K (.ref C) name=some none) (hh:hasDictIn K C=true)
  (h1:∀p∈pre,p.1≠x) (h2:∀p∈post,p.1≠x) (lt:∀p∈pre++(x,ox)::post,p.1<s.heap.objs.size)
  (h:∀h' dx,Fr O L h' m->News O L h' ((dx,dictOf [⟨PyData.keyHash w.params name,.str name (s.toks+1),v⟩] 1)::(pre++(x,{ ox with dict:=some dx })::post))->(∀p∈pre++(x,ox)::post,p.1<dx)->Q () { s with heap:=h',toks:=s.toks+2 }) :
  wpAny (model prog w) A (setAttr (.ref x) name v) Q E s:=by
 have hx:=(N (x,ox) (by simp)).1
 have I:InstAt s.heap x ox C none:=⟨hx,hcl,hno,by rw [hd]; trivial⟩
 refine set_plain X I hsa (sj (s:={ s with toks:=s.toks+1 }) X I hp ht fun b=>?_)
 obtain ⟨cd,hc,hd'⟩:=(any_some hh)
 obtain ⟨oc,odi,oda,osl⟩:=ox
 dsimp only at hcl hd
 subst hcl hd
 refine wpAny_bind (wpAny_pure (wpAny_bind (wpAny_bind (wpAny_loadPart hx (wpAny_bind (looks_clsIn X hc _ _ _ _ (fun q0 q0 e=>e) ?_))))))
 rw [hd']
 have F1:=F.push { cls:=.type "dict",data:=.dict #[] }
 have N1:=N.push F { cls:=.type "dict",data:=.dict #[] }
 have fr:(⟨.ref C,none,oda,osl⟩:Obj).isFreed=false:=(Heap.get?_some_iff.mp hx).2
 have neD:x≠s.heap.objs.size:=Nat.ne_of_lt (Heap.lt_size hx)
 obtain ⟨F2,N2⟩:=(news_upd (d:=x) (o:=⟨.ref C,none,oda,osl⟩) (o':=⟨.ref C,some s.heap.objs.size,oda,osl⟩) (pre:=(s.heap.objs.size,{ cls:=.type "dict",data:=.dict #[] })::pre) (post:=post) (f:=fun o=>{ o with dict:=some s.heap.objs.size }) F1 N1)
  (fun p hp=>by rcases List.mem_cons.mp hp with rfl | hp; exact Ne.symm neD; exact h1 p hp) h2 rfl (xL fr)
 obtain ⟨F3,N3⟩:=(news_upd (d:=s.heap.objs.size) (o:={ cls:=.type "dict",data:=.dict #[] }) (o':=dictOf [⟨PyData.keyHash w.params name,.str name (s.toks+1),v⟩] 1) (pre:=[]) (post:=pre++(x,⟨.ref C,some s.heap.objs.size,oda,osl⟩)::post) (f:=Obj.putName name (PyData.keyHash w.params name) (.str name (s.toks+1)) v) F2 N2)
  (fun p hp=>by cases hp) (fun p hp=>by
   have:p.1<s.heap.objs.size:=by
    rcases List.mem_append.mp hp with q | q
    ·exact lt p (List.mem_append_left _ q)
    ·rcases List.mem_cons.mp q with rfl | q
     ·exact lt (x,⟨.ref C,none,oda,osl⟩) (List.mem_append_right _ (.head _))
     ·exact lt p (List.mem_append_right _ (.tail _ q))
   exact Nat.ne_of_lt this) (putName_dict _ _ _ _ [] 0) rfl
 have D:((s.heap.push { cls:=.type "dict",data:=.dict #[] }).update x fun o=>{ o with dict:=some s.heap.objs.size }).get? s.heap.objs.size=some { cls:=.type "dict",data:=.dict #[] }:=(N2 _ (.head _)).1
 have D':=(N3 _ (.head _)).1
 have z:=h _ _ F3 N3 lt
 have fin:∀(Q':Fin->Shared->Prop) E' (tk:Tok),Q' (.done (.ret .none)) { s with heap:=(((s.heap.push { cls:=.type "dict",data:=.dict #[] }).update x fun o=>{ o with dict:=some s.heap.objs.size }).update s.heap.objs.size (Obj.putName name (PyData.keyHash w.params name) (.str name (s.toks+1)) v)),toks:=s.toks+2 }->
   wpAny (model prog w) A.in1 (storeInDict s.heap.objs.size (.str name tk) name v) Q' E' { s with heap:=((s.heap.push { cls:=.type "dict",data:=.dict #[] }).update x fun o=>{ o with dict:=some s.heap.objs.size }),toks:=s.toks+1 }:=by
  intro Q' E' tk hq
  unfold storeInDict
  refine wpAny_bind (wpAny_pure (wpAny_bind ?_))
  unfold nsSet
  refine wpAny_bind (wpAny_bind (wpAny_askSetting (wpAny_pure (wpAny_bind (wpAny_mkText (wpAny_bind (wpAny_loadPart D ?_)))))))
  dsimp only
  rw [aRefKeyMayBeTheName_at,if_neg (by simp)]
  refine wpAny_updatePart (s:={ s with heap:=((s.heap.push { cls:=.type "dict",data:=.dict #[] }).update x fun o=>{ o with dict:=some s.heap.objs.size }),toks:=s.toks+1+1 }) D ?_
  exact wpAny_bind (wpAny_lookBehind D' (pastItsLine_dict (by rw [List.size_toArray,sizeLine_eq]; simp)) (wpAny_pure hq))
 rw [if_neg (by decide)]
 dsimp only
 rw [if_neg (by simp [typeHasDict])]
 cases oda <;> first
  | (cases hno; done)
  | exact wpAny_bind (wpAny_alloc (wpAny_bind (wpAny_update (Heap.get?_push_of_some _ hx) (wpAny_pure (fin _ _ _ z)))))
end
end
section
open PySem PySem.W PyProof.Rows PySem.Calls PySem.Builtin PySem.Builtin.ObjectAttr
section
variable {prog:Program} {w:World} {A:Around} {E:Value->Shared->Prop} {s:Shared} {K:Frag} {C L x:Addr} {O:Heap} {m:Str->Option Value} {R:Result->Shared->Prop} {ox:Obj} {od:Option Obj} {name:Str} {v:Value}
theorem Q0{expr:Bool}{Q:Value->Shared->Prop}(X:K.In s.heap)(I:InstAt s.heap x ox C od)(hga:findIn K (.ref C) "__getattribute__" = some (some (.builtin "BaseException.__getattribute__")))(hgt:findIn K (.ref C) "__getattr__" = some none)(hp:iC K C)
  (hf:findObj K C od name=some (.value v)) (hh:handedIn v=true) (h:Q v { s with toks:=s.toks+1 }):wpAny (model prog w) A (getAttr (.ref x) name expr) Q E s:=by
 have G:=PySem.F.attr_Exception.ga
 obtain ⟨cd,hc,hm,hs,ho⟩:=(EM (M:=model prog w) X hp)
 obtain ⟨p1,p2,p3,p4⟩:=(sv (.ref x) ho)
 have hx2:(Value.builtin "BaseException.__getattribute__" == Value.builtin "object.__getattribute__")=false:=by decide +kernel
 obtain ⟨hh',g,d,t,os⟩:=s
 have L0:=I.type (M:=model prog w)
 have L1:=looks_findIn (M:=model prog w) X hga
 have L2:=looks_findIn (M:=model prog w) X hgt
 have L3:=looks_find (M:=model prog w) X I hf
 have sub:Looks (model prog w) hh' (isInstance (.ref x) (.type "BaseException")) true:=L0.andThen (by have:=hs (.type "BaseException"); rwa [p3] at this)
 unfold getAttr getAttrBy
 refine wpAny_bind (wpAny_mkText (wpAny_holding (wpAny_bind (L0.at (wpAny_bind (L1.at ?_))))))
 dsimp only
 rw [hx2,Bool.and_false,if_neg (by decide)]
 unfold getAttrByItsOwn hookBefore
 rw [if_pos (show onTheHeap (.ref C)=true from rfl)]
 refine wpAny_bind (L2.at (wpAny_bind (wpAny_attempt (wpAny_holding ?_))))
 unfold callGetattribute
 rw [show (expr&&onTheHeap (Value.builtin "BaseException.__getattribute__"))=false from Bool.and_false _,if_neg (by decide)]
 unfold boundAndCalled
 rw [G.bind]
 refine wpAny_bind (wpAny_pure ?_)
 show wpAny _ _ (call (.builtin "BaseException.__getattribute__") [.ref x,.str name t]) _ _ _
 refine wpAny_call ?_
 refine codeAny_call_builtin G.plain PySem.F.entry_bexc_ga ?_
 refine @check_slot (model prog w) _ _ ⟨hh',g,d,t+1,os⟩ "BaseException.__getattribute__" "BaseException" "__getattribute__" (.ref x) [.str name t] [] _ (by decide +kernel) (by decide +kernel) sub (PySem.F.args_bexc_ga (.ref x) (.str name t)) ?_
 refine wpAny_bind (wpAny_pure (wpAny_bind (wpAny_pure (wpAny_bind (L0.at (wpAny_bind (L3.at ?_)))))))
 refine wpAny_pure ?_
 show wpAny _ _ (handedOut v) _ _ _
 rw [handedOut_of hh]; exact wpAny_pure h
theorem GK{rest:List Value}{Q:Value->Shared->Prop}{t0:Addr}{r:Array Value}(X:K.In s.heap)(hp:excIn K C)(hx:s.heap.get? x=some ox)(hc:ox.cls=.ref C)(hd:ox.data=.fields r)(h0:r[0]?=some (.ref t0))(hz:rest.length<=sizeLine)
  (h:Q .none { s with heap:=(s.heap.push { cls:=.type "tuple",data:=.seq rest.toArray }).update x (Obj.mapFields (·.setIfInBounds 0 (.ref s.heap.objs.size))) }) :
  wpAny (model prog w) A (call (.builtin "Exception.__init__") (.ref x::rest)) Q E s:=by
 symm
 have F:=PySem.F.excBase_Exception
 obtain ⟨nm,qn,N',bs,bm,hdct,sn,sub,ab,col,dd,k0,k1,k2,k3,k5,hC,cB,q0,cA,cN⟩:=(oI X hp)
 obtain ⟨hh,g,d,t,os⟩:=s
 symm
 have hshort:=F.noStar
 refine wpAny_call (codeAny_call_builtin F.init.plain F.initEntry ?_)
 simp only [checkBuiltinCall,F.initKind,F.initSplit,F.initRow]
 repeat (first | (with_reducible refine wpAny_loadPart_at hx ?_; rw [hc]) | with_reducible refine wpAny_loadPart_at hC ?_ | (with_reducible refine wpAny_isSubtype_exc hC ?_; rw [cB]) | wp_step)
 refine wpAny_onRaise ?_
 rw [show ∀(a b:String) (n:Nat),Bind.check ⟨.positional,"*","Exception",.self,[⟨"args",.varPos,false⟩]⟩ a b n (List.map (fun x=>x.fst) ({ pos:=Value.ref x::rest }:Args).kw)=pure () from
  fun a b n=>check_star_args _ _ _ _ _ _]
 refine wpAny_pure ?_
 have hx1:=Heap.get?_push_of_some { cls:=.type "tuple",data:=.seq rest.toArray } hx
 have sz:0<r.size:=(Array.getElem?_eq_some_iff.mp h0).1
 repeat (first | with_reducible refine wpAny_field hx1 hd h0 ?_ | with_reducible refine wpAny_setField hx1 hd sz ?_ | wp_step)
 wp_walk
 exact h
theorem FR{env:Env}{e:Expr}{pos:Pos}{Q:Flow->Shared->Prop}(hh:A.handled=none)(hp:excIn K C)
  (h:wpAny (model prog w) A (eval e env) (fun v s₁=>∃x ox r,v=.ref x/\K.In s₁.heap/\s₁.heap.get? x=some ox/\ox.cls=.ref C/\ox.data=.fields r/\r[1]?=some .none/\E (.ref x) s₁) E s) :
  wpAny (model prog w) A (exec (.Raise (some e) none pos) env) Q E s:=by
 have go:wpAny (model prog w) A (raiseStmt env (some (do let v <- eval e env; standAt pos; pure v)) none) Q E s:=by
  unfold raiseStmt
  refine wpAny_bind (wpAny_bind (wpAny_mono h (fun v s₁ h₁=>?_) fun q0 q0 x=>x))
  obtain ⟨x,ox,r,rfl,X,hx,hc,hd,h1,hE⟩:=h₁
  obtain ⟨nm,qn,N',bs,bm,hdct,sn,sub,ab,col,dd,k0,k1,k2,k3,k5,hC,cB,cBB,cA,cN⟩:=(oI X hp)
  obtain ⟨hp,g,d,tk,os⟩:=s₁
  refine wpAny_bind (wpAny_standAt (wpAny_pure ?_))
  repeat (first | (with_reducible refine wpAny_loadPart_at hx ?_; rw [hc]) | with_reducible refine wpAny_field hx hd h1 ?_ | with_reducible refine wpAny_loadPart_at hC ?_ | (with_reducible refine wpAny_isSubtype_exc hC ?_; rw [cBB]) | wp_step)
  exact wpAny_raiseNew_none hh hE
 rw [arm_exec_Raise]
 first
  | exact wpAny_bind (wpAny_standAt go)
  | (simp only [evalOpt,Option.map]; exact wpAny_bind (wpAny_standAt go))
end
end
section
noncomputable def ke(A:Around):List Addr:=(A.frames.getD []).filterMap (·.frame)
noncomputable def cS(A:Around):List Addr:=((A.frames.getD []).drop 1).filterMap (·.frame)
structure de (x:aQ) (d:Nat) (A:Around) (O:Heap) (L:Addr):Prop where
 here:cj x d A O L
 z:∃A₀ base outer env,Below A₀ base outer O/\A.frames=some (env::outer)/\env.frame=some L/\env.scope.kind=.function/\Top x.p x.loose x.mean x.mg x.mb base/\∀b∈outer.filterMap (·.frame),x.K.lookup b=none
abbrev KX:=Nat->Tr->Nat->Rn->Bool
abbrev SX:=Tr->Nat->Rn->List GV->KS->KX->Bool
abbrev EX:=Tr->Nat->Rn->List GV->KV->KX->Bool
abbrev TX:=Tr->Nat->Rn->List GV->KB->KX->Bool
abbrev kB:=List GV->Tr->Nat->Rn->KV->KX->Bool
structure Up (x:aQ) (J:az) (H:Tr) (nx:Nat) (R:Rn) (O:Heap) (L:Addr) (m:Str->Option Value) (A:Around) (i:Nat) (e:Addr) (s:Shared):Prop where
 ex:∃G fs oe,St x J H nx R O L m { s with heap:=G }/\J.as[i]?=some e/\G.get? e=some oe/\gV G fs e oe.cls oe.dict .none s.heap/\(∀a∈J.as,a∉fs)/\(∀a∈fs,O.get? a=none∨a∈ke A)/\∀a∈ke A,a∈fs
def pQ(x:aQ)(J:az)(A:Around)(O:Heap)(L:Addr)(m:Str->Option Value)(k:KV)(Q:Value->Shared->Prop):Prop:=
 ∀g J' H nx R s v u,KtsTurn (cS A) O g->J.le J'->St x J' H nx R g L m s->Is x.T J' v u->k v H nx R=true->Q u s
def kO(x:aQ)(J:az)(A:Around)(O:Heap)(L:Addr)(m:Str->Option Value)(k:KB)(Q:Bool->Shared->Prop):Prop:=
 ∀g J' H nx R s c,KtsTurn (cS A) O g->J.le J'->St x J' H nx R g L m s->k c H nx R=true->Q c s
def tY(x:aQ)(J:az)(A:Around)(O:Heap)(L:Addr)(k:KX)(E:Value->Shared->Prop):Prop:=
 ∀g J' H nx R m s i e,KtsTurn (cS A) O g->J.le J'->Up x J' H nx R g L m A i e s->k i H nx R=true->E (.ref e) s
def fW(x:aQ)(d:Nat)(vs:aq)(f:EX)(e:Expr):Prop:=
 ∀H nx R loc k kx,f H nx R loc k kx=true->∀(A:Around) (env:Env) (O:Heap) (L:Addr) (m:Str->Option Value) (J:az) (s:Shared) (Q E:Value->Shared->Prop),
  de x d A O L->bP env L->St x J H nx R O L m s->bq x J env L m vs loc->pQ x J A O L m k Q->tY x J A O L kx E->wpAny (model x.prog x.w) A (eval e env) Q E s
def ja(x:aQ)(d:Nat)(vs:aq)(f:TX)(e:Expr):Prop:=
 ∀H nx R loc k kx,f H nx R loc k kx=true->∀(A:Around) (env:Env) (O:Heap) (L:Addr) (m:Str->Option Value) (J:az) (s:Shared) (Q:Bool->Shared->Prop) (E:Value->Shared->Prop),
  de x d A O L->bP env L->St x J H nx R O L m s->bq x J env L m vs loc->kO x J A O L m k Q->tY x J A O L kx E->wpAny (model x.prog x.w) A (isTrue e env (eval e env)) Q E s
def sM(x:aQ)(J:az)(A:Around)(env:Env)(vs:aq)(O:Heap)(L:Addr)(k:KS)(Q:Flow->Shared->Prop):Prop:=
 ∀g J' H nx R loc m s gf fl,KtsTurn (cS A) O g->J.le J'->St x J' H nx R g L m s->bq x J' env L m vs loc->qN x.T J' gf fl->k gf H nx R loc=true->Q fl s
def bT(x:aQ)(d:Nat)(vs:aq)(f:SX)(b:List Stmt):Prop:=
 ∀H nx R loc k kx,f H nx R loc k kx=true->∀(A:Around) (env:Env) (O:Heap) (L:Addr) (m:Str->Option Value) (J:az) (s:Shared) (Q:Flow->Shared->Prop) (E:Value->Shared->Prop),
  de x d A O L->bP env L->St x J H nx R O L m s->bq x J env L m vs loc->sM x J A env vs O L k Q->tY x J A O L kx E->wpAny (model x.prog x.w) A (execs b env) Q E s
def iq(x:aQ)(d:Nat)(f:kB)(v:Value):Prop:=∀gs H nx R k kx,f gs H nx R k kx=true->∀(A:Around) (O:Heap) (L:Addr) (m:Str->Option Value) (J:az) (s:Shared) (us:List Value) (Q E:Value->Shared->Prop),
 de x d A O L->St x J H nx R O L m s->be x.T J gs us->pQ x J A O L m k Q->tY x J A O L kx E->wpAny (model x.prog x.w) A (call v us) Q E s
section
variable {x:aQ} {d:Nat} {vs:aq} {J J':az} {H:Tr} {nx:Nat} {R:Rn} {O g:Heap} {L:Addr} {m:Str->Option Value} {s:Shared} {A:Around} {E:Value->Shared->Prop} {env:Env} {loc:List GV}
theorem de.fr(Z:de x d A O L):∃A₀ base outer env,Below A₀ base outer O/\A.frames=some (env::outer)/\env.frame=some L/\env.scope.kind=.function/\cS A=outer.filterMap (·.frame)/\ke A=L::cS A:=by
 symm
 obtain ⟨A₀,base,outer,env,B,hA,hf,hk,q0⟩:=Z.z
 symm
 have e1:cS A=outer.filterMap (·.frame):=by unfold cS; rw [hA]; rfl
 refine ⟨A₀,base,outer,env,B,hA,hf,hk,e1,?_⟩
 rw [e1]; unfold ke; rw [hA,Option.getD_some,List.filterMap_cons,hf]
theorem de.turn(Z:de x d A O L)(T:KtsTurn (cS A) O g):de x d A g L:=by
 symm
 obtain ⟨A₀,base,outer,env,B,hA,hf,hk,top,ko⟩:=Z.z
 symm
 have e1:cS A=outer.filterMap (·.frame):=by unfold cS; rw [hA]; rfl
 rw [e1] at T
 have B':Below A₀ base outer g:=⟨B.stack,fun b o e=>T.other b o (B.stays b o e) (fun hm=>by rw [(B.frames.mem hm).1] at e; cases e),B.frames.of_keeps fun b o e q0=>let ⟨sl,hs⟩:=T.up e; ⟨_,hs,rfl⟩⟩
 refine ⟨⟨⟨A₀,base,outer,env,B',hA,hf,hk⟩,fun a o e=>T.other a o (Z.here.X a o e) (fun hm=>by rw [ko a hm] at e; cases e),top.keeps B'.stays,Z.here.room,Z.here.hnd,Z.here.units⟩,A₀,base,outer,env,B',hA,hf,hk,top,ko⟩
theorem de.less{d':Nat}(h:d<=d')(Z:de x d' A O L):de x d A O L:=⟨Z.here.less h,Z.z⟩
theorem pQ.le{k:KV}{Q:Value->Shared->Prop}(T:KtsTurn (cS A) O g)(le:J.le J')(h:pQ x J A O L m k Q):pQ x J' A g L m k Q:=fun g' J'' H nx R s v u t l=>h g' J'' H nx R s v u (T.trans t) (le.trans l)
theorem kO.le{k:KB}{Q:Bool->Shared->Prop}(T:KtsTurn (cS A) O g)(le:J.le J')(h:kO x J A O L m k Q):kO x J' A g L m k Q:=fun g' J'' H nx R s c t l=>h g' J'' H nx R s c (T.trans t) (le.trans l)
theorem sM.le{k:KS}{Q:Flow->Shared->Prop}(T:KtsTurn (cS A) O g)(le:J.le J')(h:sM x J A env vs O L k Q):sM x J' A env vs g L k Q:=fun g' J'' H nx R loc m s gf fl t l=>h g' J'' H nx R loc m s gf fl (T.trans t) (le.trans l)
theorem tY.le{k:KX}(T:KtsTurn (cS A) O g)(le:J.le J')(h:tY x J A O L k E):tY x J' A g L k E:=fun g' J'' H nx R m s i e t l=>h g' J'' H nx R m s i e (T.trans t) (le.trans l)
theorem kO.next{k:KB}{Q:Bool->Shared->Prop}(h:kO x J A O L m k Q):nt x J O L m k Q:=fun J' H nx R s c le S hk=>h O J' H nx R s c .refl le S hk
noncomputable def vk(f:TV):TX:=fun H nx R loc k q0=>f H nx R loc k
theorem kX{f:TV}{e:Expr}(hf:dZ x d vs f e):ja x d vs (vk f) e:=fun H nx R loc k kx h A env O L m J s Q E Z En S Lo hQ q0=>hf H nx R loc k h A env O L m J s Q E Z.here En S Lo hQ.next
noncomputable def cC(f:SV):SX:=fun H nx R loc k q0=>f H nx R loc k
theorem bB{f:SV}{b:List Stmt}(hf:au x d vs f b):bT x d vs (cC f) b:=fun H nx R loc k kx h A env O L m J s Q E Z En S Lo hQ q0=>hf H nx R loc k h A env O L m J s Q E Z.here En S Lo fun J' H nx R loc m s gf fl le S Lo hf hk=>hQ O J' H nx R loc m s gf fl .refl le S Lo hf hk
theorem kv(env:Env)(rest l:List Stmt):execs (l++rest) env=(execs l env >>= fun f=>match f with | .next=>execs rest env | f=>pure f):=by
 induction l with
 | nil=>exact (pure_bind _ _).symm
 | cons st l ih=>
  have e:∀r,execs (st::r) env=(exec st env >>= fun f=>match f with | .next=>execs r env | f=>pure f):=fun r=>rfl
  rw [List.cons_append,e,e,bind_assoc]
  refine congrArg _ (funext fun f=>?_)
  cases f with
  | next=>exact ih
  | _=>exact (pure_bind _ _).symm
def Uu(gf:GF)(H:Tr)(nx:Nat)(R:Rn)(loc:List GV)(r:SX)(k:KS)(kx:KX):Bool:=@GF.rec (fun q0=>Bool) (r H nx R loc k kx) (k .brk H nx R loc) (k .cont H nx R loc) (fun g=>k (.ret g) H nx R loc) gf
def gz(f:SX)(r:SX):SX:=fun H nx R loc k kx=>f H nx R loc (fun gf H nx R loc=>Uu gf H nx R loc r k kx) kx
theorem cY{f:SX}{r:SX}{l rest:List Stmt}(hf:bT x d vs f l)(hr:bT x d vs r rest):bT x d vs (gz f r) (l++rest):=by
 intro H nx R loc k kx h A env O L m J s Q E Z En S Lo hQ hE
 rw [kv]
 refine wpAny_bind (hf H nx R loc _ kx h A env O L m J s _ E Z En S Lo (fun g J' H' nx' R' loc' m' s' gf fl T le S' Lo' hfl hk=>?_) hE)
 cases hfl with
 | next=>exact hr H' nx' R' loc' k kx hk A env g L m' J' s' Q E (Z.turn T) En S' Lo' (hQ.le T le) (hE.le T le)
 | brk=>exact wpAny_pure (hQ g J' H' nx' R' loc' m' s' .brk .brk T le S' Lo' .brk hk)
 | cont=>exact wpAny_pure (hQ g J' H' nx' R' loc' m' s' .cont .cont T le S' Lo' .cont hk)
 | ret i=>exact wpAny_pure (hQ g J' H' nx' R' loc' m' s' (.ret _) _ T le S' Lo' (.ret i) hk)
theorem fV{M:Model}{Q:Flow->Shared->Prop}{st:Stmt}(h:wpAny M A (exec st env) Q E s):wpAny M A (execs [st] env) Q E s:=by
 refine wpAny_execs_cons (wpAny_mono h (fun f s' z=>?_) fun q0 q0 y=>y)
 cases f with
 | next=>exact wpAny_execs_nil z
 | _=>exact z
def lM(t:TX)(a b:SX):SX:=fun H nx R loc k kx=>t H nx R loc (fun c H nx R=>@Bool.rec (fun q0=>Bool) (b H nx R loc k kx) (a H nx R loc k kx) c) kx
theorem gQ{t:TX}{a b:SX}{c:Expr}{as bs:List Stmt}(ht:ja x d vs t c)(ha:bT x d vs a as)(hb:bT x d vs b bs)(pos:Pos):bT x d vs (lM t a b) [.If c as bs pos]:=by
 intro H nx R loc k kx h A env O L m J s Q E Z En S Lo hQ hE
 refine fV (wpAny_If (ht H nx R loc _ kx h A env O L m J s _ E Z En S Lo (fun g J1 H1 nx1 R1 s1 c T le1 S1 h1=>?_) hE))
 cases c with
 | true=>exact ha H1 nx1 R1 loc k kx h1 A env g L m J1 s1 Q E (Z.turn T) En S1 (Lo.more le1) (hQ.le T le1) (hE.le T le1)
 | false=>exact hb H1 nx1 R1 loc k kx h1 A env g L m J1 s1 Q E (Z.turn T) En S1 (Lo.more le1) (hQ.le T le1) (hE.le T le1)
noncomputable def sN(a:AV)(f:EX):SX:=fun H nx R loc k kx=>f H nx R loc (fun g H nx R=>a g H nx R loc fun H nx R loc=>k .next H nx R loc) kx
theorem oh{a:AV}{f:EX}{t e:Expr}(ha:dP x d vs a t)(hf:fW x d vs f e)(h1:iD e=true)(h2:iZ t=true∨iZ e=true)(h3:bZ t=true)(pos:Pos):bT x d vs (sN a f) [.Assign [t] e pos]:=by
 intro H nx R loc k kx h A env O L m J s Q E Z En S Lo hQ hE
 refine fV (wpAny_Assign_stores (hf H nx R loc _ kx h A env O L m J s _ E Z En S Lo (fun g J1 H1 nx1 R1 s1 v u T le1 S1 i1 hk=>?_) hE) (hK h1 _ _ _) ?_)
 ·rw [cT h3 env]
  exact ha v H1 nx1 R1 loc _ hk A env g L m J1 s1 u _ E (Z.turn T).here En S1 (Lo.more le1) i1 fun J2 H2 nx2 R2 loc2 m2 s2 le2 S2 Lo2 hk2=>hQ g J2 H2 nx2 R2 loc2 m2 s2 .next .next T (le1.trans le2) S2 Lo2 .next hk2
 ·exact iT h2 _
noncomputable def yv(f:EX):SX:=fun H nx R loc k kx=>f H nx R loc (fun q0 H nx R=>k .next H nx R loc) kx
theorem tM{f:EX}{e:Expr}(hf:fW x d vs f e){g:Expr}{as:List Expr}{ks:List Keyword}{cp:Pos}(hc:e=.Call g as ks cp)(pos:Pos):bT x d vs (yv f) [.Expr e pos]:=by
 intro H nx R loc k kx h A env O L m J s Q E Z En S Lo hQ hE
 exact fV (me hc (by unfold interactive; rw [En.kind]; rfl) (hK (by rw [hc]; rfl) _ _ _) (hf H nx R loc _ kx h A env O L m J s _ E Z En S Lo (fun g J1 H1 nx1 R1 s1 v u T le1 S1 i1 hk=>hQ g J1 H1 nx1 R1 loc m s1 .next .next T le1 S1 (Lo.more le1) .next hk) hE))
noncomputable def xt(f:EX):SX:=fun H nx R loc k kx=>f H nx R loc (fun g H nx R=>k (.ret g) H nx R loc) kx
theorem tm{f:EX}{e:Expr}(hf:fW x d vs f e)(pos:Pos):bT x d vs (xt f) [.Return (some e) pos]:=by
 intro H nx R loc k kx h A env O L m J s Q E Z En S Lo hQ hE
 exact fV (wpAny_Return_some (hf H nx R loc _ kx h A env O L m J s _ E Z En S Lo (fun g J1 H1 nx1 R1 s1 v u T le1 S1 i1 hk=>hQ g J1 H1 nx1 R1 loc m s1 (.ret v) _ T le1 S1 (Lo.more le1) (.ret i1) hk) hE))
def Hg(c:TV)(f r:EX):EX:=fun H nx R loc k kx=>c H nx R loc fun b H nx R=>@Bool.rec (fun q0=>Bool) (r H nx R loc k kx) (f H nx R loc k kx) b
theorem Gx{c:TV}{f r:EX}{e1 e2 e3:Expr}(hc:dZ x d vs c e1)(hf:fW x d vs f e2)(hr:fW x d vs r e3)(pos:Pos):fW x d vs (Hg c f r) (.IfExp e1 e2 e3 pos):=by
 intro H nx R loc k kx h A env O L m J s Q E Z En S Lo hQ hE
 refine wpAny_IfExp (hc H nx R loc _ h A env O L m J s _ E Z.here En S Lo fun J' H' nx' R' s' b le S' hk=>?_)
 cases b with
 | true=>exact hf H' nx' R' loc k kx hk A env O L m J' s' Q E Z En S' (Lo.more le) (hQ.le .refl le) (hE.le .refl le)
 | false=>exact hr H' nx' R' loc k kx hk A env O L m J' s' Q E Z En S' (Lo.more le) (hQ.le .refl le) (hE.le .refl le)
def oY(f:TX):TX:=fun H nx R loc k kx=>f H nx R loc (fun b H nx R=>k (@Bool.rec (fun q0=>Bool) true false b) H nx R) kx
theorem lI{f:TX}{e:Expr}(hf:ja x d vs f e)(pos:Pos):ja x d vs (oY f) (.UnaryOp .Not e pos):=by
 intro H nx R loc k kx h A env O L m J s Q E Z En S Lo hQ hE
 refine isTrue_not (hf H nx R loc _ kx h A env O L m J s _ E Z En S Lo (fun g J' H' nx' R' s' b T le S' hk=>?_) hE)
 dsimp only at hk
 rw [vn] at hk
 exact hQ _ _ _ _ _ _ _ T le S' hk
def Ca(f r:TX):TX:=fun H nx R loc k kx=>f H nx R loc (fun b H nx R=>@Bool.rec (fun q0=>Bool) (r H nx R loc k kx) (k true H nx R) b) kx
theorem xk{f r:TX}{e:Expr}{es:List Expr}{pos:Pos}(hf:ja x d vs f e)(hr:ja x d vs r (.BoolOp .Or es pos)):ja x d vs (Ca f r) (.BoolOp .Or (e::es) pos):=by
 intro H nx R loc k kx h A env O L m J s Q E Z En S Lo hQ hE
 refine isTrue_or (hf H nx R loc _ kx h A env O L m J s _ E Z En S Lo (fun g J' H' nx' R' s' b T le S' hk=>?_) hE)
 cases b with
 | true=>exact hQ _ _ _ _ _ _ _ T le S' hk
 | false=>exact hr H' nx' R' loc k kx hk A env g L m J' s' Q E (Z.turn T) En S' (Lo.more le) (hQ.le T le) (hE.le T le)
def zl(f:EX):TX:=fun H nx R loc k kx=>f H nx R loc (fun g H nx R=>gB g fun b=>k b H nx R) kx
theorem pP{f:EX}{e:Expr}(hf:fW x d vs f e)(hp:sB e=true):ja x d vs (zl f) e:=by
 intro H nx R loc k kx h A env O L m J s Q E Z En S Lo hQ hE
 refine isTrue_plain (hf H nx R loc _ kx h A env O L m J s _ E Z En S Lo (fun g J' H' nx' R' s' v u T le S' i hk=>?_) hE) (by clear hf; cases e <;> first | rfl | cases hp)
 symm
 obtain ⟨b,rfl,hb⟩:=pu hk
 cases i
 symm
 exact wpAny_truthy_bool (hQ _ _ _ _ _ _ _ T le S' hb)
noncomputable def Ed(c:EQ)(f:EX)(g:EV):EX:=fun H nx R loc k kx=>f H nx R loc (fun a H nx R=>g H nx R loc fun b H nx R=>c a b H R fun r R=>k (.bool r) H nx R) kx
theorem DL{op:CmpOp}{c:EQ}(hc:fT x d op c){f:EX}{g:EV}{e i:Expr}(hf:fW x d vs f e)(hg:aK x d vs g i)(hm:behindInMarks op i=false)(pos:Pos):fW x d vs (Ed c f g) (.Compare e [op] [i] pos):=by
 intro H nx R loc k kx h A env O L m J s Q E Z En S Lo hQ hE
 refine wpAny_Compare1 (hf H nx R loc _ kx h A env O L m J s _ E Z En S Lo (fun g J' H' nx' R' s' a v T le S' ha hk=>?_) hE) hm
 refine hg H' nx' R' loc _ hk A env g L m J' s' _ E (Z.turn T).here En S' (Lo.more le) fun J'' H'' nx'' R'' s'' b u le' S'' hb hk'=>?_
 exact hc _ _ _ _ _ hk' A J'' nx'' g L m s'' v u Q E (Z.turn T).here S'' (ha.more le') hb fun r R3 e3 rn=>hQ g J'' H'' nx'' R3 s'' (.bool r) _ T (le.trans le') (S''.rn' rn) (.bool r) e3
end
end
section
section
variable {x:aQ} {d:Nat} {vs:aq} {J J':az} {H:Tr} {nx:Nat} {R:Rn} {O g g':Heap} {L L':Addr} {m m':Str->Option Value} {s:Shared} {A A₀:Around} {base:Heap} {outer:List Env} {E:Value->Shared->Prop} {env:Env} {loc:List GV}
theorem St.back(B:Below A₀ base outer O)(FG:Fr O L g m)(st:O.StaysIn g)(T:KtsTurn (L::outer.filterMap (·.frame)) g g')(S:St x J H nx R g' L' m' s):∃h₁,KtsTurn (outer.filterMap (·.frame)) O h₁/\St x J H nx R h₁ L m s:=by
 symm
 have hL0:O.get? L=none:=kts_self FG
 obtain ⟨T1,K1⟩:=(kts_turn_at (h:=s.heap) (fs:=outer.filterMap (·.frame)) (g:=O))
  (fun b hb=>(B.frames.mem hb).2.imp fun q0=>And.left)
  (fun b o e nm=>S.fr.keep b o (T.other b o (st b o e) fun hm=>by
   rcases List.mem_cons.mp hm with q | q
   ·rw [q,hL0] at e; cases e
   ·exact nm q))
  (fun b o e hm=>(T.up (st b o e)).imp fun q0=>S.fr.keep _ _)
 obtain ⟨oL,es,ep,ho,hd,hk,hn⟩:=FG.ns
 obtain ⟨sl,hs⟩:=(T.up ho)
 obtain ⟨nod,os,hos,el,N⟩:=S.led
 symm
 refine ⟨_,T1,⟨nod,os,hos,el,fun p hp=>?_⟩,S.nx,⟨⟨_,es,ep,S.fr.keep _ _ hs,hd,hk,hn⟩,K1,by rw [T1.size]; exact FG.above⟩,S.gens,S.rn⟩
 obtain ⟨z1,z2,z3⟩:=(N p hp)
 refine ⟨z1,(fun q=>by rw [q,hs] at z3; cases z3),T1.none_ _ ?_⟩
 cases q:O.get? p.1 with
 | none=>rfl
 | some o=>
  obtain ⟨sl',q'⟩:=(T.up (st _ _ q))
  rw [q'] at z3; cases z3
theorem nK{env':Env}{L':Addr}(hA:A.frames=some (env::outer))(hf:env.frame=some L)(hf':env'.frame=some L'):cS (A.deeper env')=L::outer.filterMap (·.frame)/\ke (A.deeper env')=L'::L::outer.filterMap (·.frame):=by
 have e:=Around.frames_deeper (env:=env') hA
 constructor
 ·unfold cS; rw [e,Option.getD_some]; show (env::outer).filterMap _=_; rw [List.filterMap_cons,hf]
 ·unfold ke; rw [e,Option.getD_some,List.filterMap_cons,hf',List.filterMap_cons,hf]
def nQ(r:aE)(aO:SX):kB:=fun gs H nx R k kx=>Ff r gs H nx fun loc H nx=>aO H nx R loc (fun gf H nx R q0=>yW gf H nx R k) kx
structure gp (x:aQ) (d:Nat) (r:aE) (aO:SX) (fa:Addr):Prop where
 ok:∃vs body D,br x vs r fa body D/\bT x d vs aO body
 keep:keepIn x.K (.ref fa)=true
 fn:isFn x.K (.ref fa)=true
theorem jB(hT:x.T.Nodup)(hD:("__debug__" : Str)∉x.T){r:aE}{aO:SX}{fa:Addr}(hf:gp x d r aO fa):iq x (d+1) (nQ r aO) (.ref fa):=by
 intro gs H nx R k kx h A O L m J s us Q E Z S iu hQ hE
 symm
 obtain ⟨vs,body,D,ok,hb⟩:=hf.ok
 obtain ⟨A₀,base,outer,env,B,hA,hfr,hk,top,ko⟩:=Z.z
 symm
 have eO:cS A=outer.filterMap (·.frame):=by unfold cS; rw [hA]; rfl
 have eF:ke A=L::outer.filterMap (·.frame):=by unfold ke; rw [hA,Option.getD_some,List.filterMap_cons,hfr]
 refine wpAny_call (lP (c:=fun loc H nx=>aO H nx R loc (fun gf H nx R q0=>yW gf H nx R k) kx) hT hD ok h Z.here S iu fun g L' m' J' H' nx' loc' s1 env' base' outer' env1 e2 le2 Fg st q0 B' hA' hf' Hh' En' S' Lo' low lv=>?_)
 obtain ⟨e1,e2'⟩:=(nK hA hfr En'.frame)
 have Bz:Below A base (env::outer) g:=⟨hA,(pushX B Fg hfr hk).stays,(pushX B Fg hfr hk).frames⟩
 have Z':de x d (A.deeper env') g L':=⟨Hh',A,base,env::outer,env',Bz,Around.frames_deeper hA,En'.frame,En'.kind,top,fun b hb=>by
  rw [List.filterMap_cons,hfr] at hb
  rcases List.mem_cons.mp hb with rfl | hb
  ·cases q:x.K.lookup b with
   | none=>rfl
   | some o=>have:=Z.here.X b o q; rw [kts_self Fg] at this; cases this
  ·exact ko b hb⟩
 refine wpAny_mono (hb H' nx' R loc' _ kx e2 (A.deeper env') env' g L' m' J' s1 _ (fun e s'=>wpAny (model x.prog x.w) (A.deeper env') (leaving env' e) (fun q0 s''=>E e s'') (fun e' s''=>E e' s'') s') Z' En' S' Lo' (fun g2 J'' H'' nx'' R'' loc'' m'' s'' gf fl T le3 S'' Lo'' hfl hk=>?_) fun g2 J'' H'' nx'' R'' m'' s'' i e T le3 U hk=>?_) (fun fl s' hl=>hl) fun q0 q0 y=>y
 ·rw [e1] at T
  obtain ⟨h₁,T1,S3⟩:=(St.back B Fg st T S'')
  rw [<- eO] at T1
  cases hfl with
  | next=>exact hQ h₁ _ _ _ _ _ _ _ T1 (le2.trans le3) S3 .none hk
  | brk=>cases hk
  | cont=>cases hk
  | ret i=>exact hQ h₁ _ _ _ _ _ _ _ T1 (le2.trans le3) S3 i hk
 ·obtain ⟨G,fs,oe,SG,hi,hoe,F,o1,o2,o3⟩:=U.ex
  have Tr:=T
  rw [e1] at T
  obtain ⟨h₁,T1,S3⟩:=(St.back B Fg st T SG)
  rw [<- eO] at T1
  rw [e2'] at o2 o3
  symm
  have Z2:=Z'.turn Tr
  obtain ⟨A₂,base₂,outer₂,env₂,B₂,hA₂,hf₂,hk₂,q0⟩:=Z2.z
  symm
  have hFF:=(pushX B₂ SG.fr hf₂ hk₂).frames
  have eq2:env₂::outer₂=env'::env::outer:=Option.some.inj (hA₂.symm.trans (Around.frames_deeper hA))
  rw [eq2] at hFF
  have efm:(env'::env::outer).filterMap (·.frame)=L'::L::outer.filterMap (·.frame):=by rw [List.filterMap_cons,En'.frame,List.filterMap_cons,hfr]
  have ne:e∉(env'::env::outer).filterMap (·.frame):=fun q=>o1 e (List.mem_of_getElem? hi) (o3 e (by rw [efm] at q; exact q))
  unfold leaving
  refine wpAny_bind (F.note (Around.frames_deeper hA) (F.frames hFF ne) En'.frame (fun b hb=>o3 b (by rw [efm] at hb; exact hb)) fun h' F'=>?_)
  refine gV.land (s:={ s'' with heap:=h' }) F' (.inl (by simp [rawInt])) fun h2 F2=>?_
  refine hE h₁ J'' H'' nx'' R'' m _ i e T1 (le2.trans le3) ⟨G,fs,oe,S3,hi,hoe,F2,o1,fun a ha=>?_,fun a ha=>o3 a (.tail _ (by rw [eF] at ha; exact ha))⟩ hk
  have nn:g2.get? a=none->h₁.get? a=none:=fun q=>by
   refine T1.none_ _ ?_
   cases q3:O.get? a with
   | none=>rfl
   | some o=>
    obtain ⟨sl',q'⟩:=(T.up (st _ _ q3))
    rw [q'] at q; cases q
  rcases o2 a ha with q | q
  ·exact .inl (nn q)
  ·rw [eF]
   rcases List.mem_cons.mp q with rfl | q
   ·exact .inl (nn (kts_self SG.fr))
   ·exact .inr q
noncomputable def fZ(o:kB)(l:LV):EX:=fun H nx R loc k kx=>l H nx R loc fun gs H nx R=>o gs H nx R k kx
theorem d6{i a:Nat}{t:Str}{v:Value}{o:kB}{l:LV}{es:List Expr}(hv:vs[i]?=some (a,.glo))(ht:x.T[a]?=some t)(hm:bp x t v)(ho:iq x d o v)(hl:eg x d vs l es)(hp:bx es=true)
  (hk:keepIn x.K v=true) (p pos:Pos):fW x d vs (fZ o l) (.Call (.Name t p) es [] pos):=by
 intro H nx R loc k kx h A env O L m J s Q E Z En S Lo hQ hE
 refine Call_Name rfl (iJ hv ht hm Z.here En S Lo ?_ p)
 exact hX hl hp hk h Z.here En S Lo fun J' H nx R s gs us le S' i hk'=>ho gs H nx R k kx hk' A O L m J' s us Q E Z S' i (hQ.le .refl le) (hE.le .refl le)
def t8(C0:Nat)(r:aE)(aO:SX)(f:EV)(a:Nat)(l:LV):EX:=fun H nx R loc k kx=>f H nx R loc fun g H nx R=>bU g fun i=>hV (H.get i) fun C dd=>eW (H.get dd) fun es=>AZ es a (@Bool.rec (fun q0=>Bool) false (l H nx R loc fun gs H nx R=>nQ r aO (g::gs) H nx R k kx) (Nat.beq C C0))
theorem rT(hT:x.T.Nodup)(hD:("__debug__" : Str)∉x.T){C0:Nat}{r:aE}{aO:SX}{cx fI:Addr}{f:EV}{o:Expr}{a:Nat}{t:Str}{l:LV}{es:List Expr}(c1:x.CT[C0]?=some cx)(c4:plainGet x.K cx t=true)(c5:findIn x.K (.ref cx) t=some (some (.ref fI)))(c6:gp x d r aO fI)
  (hf:aK x (d+1) vs f o) (hl:eg x (d+1) vs l es) (ht:x.T[a]?=some t)
  (hc:je o=true) (hp:bx es=true) {apos pos:Pos} (hline:(apos.endLine == pos.line)=true) (hn:es.length<30):fW x (d+1) vs (t8 C0 r aO f a l) (.Call (.Attribute o t apos) es [] pos):=by
 intro H nx R loc k kx h A env O L m J s Q E Z En S Lo hQ hE
 refine ff hc hp hline hn (hf H nx R loc _ h A env O L m J s _ E Z.here En S Lo fun J1 H1 nx1 R1 s1 g v1 le1 S1 i1 h1 pl=>?_)
 symm
 obtain ⟨i,rfl,h2⟩:=bn h1
 obtain ⟨C,dd,hi,h3⟩:=fc h2
 obtain ⟨es',hd,h4⟩:=dK h3
 obtain ⟨nn,h4b⟩:=(tK h4)
 obtain ⟨q,h6⟩:=aJ h4b
 have q:=Nat.eq_of_beq_eq_true q
 subst q
 obtain ⟨q0,rfl,ha⟩:=i1
 obtain ⟨cx',dx,ds,n,e1,e2,e3,e4⟩:=(S1.led.inst (l:=0) hi hd ha)
 symm
 rw [c1] at e1; cases e1
 refine method_inst S1.fr Z.here.X e4 c4 c5 c6.fn (e3.none hT ht nn) ?_
 exact hX hl hp c6.keep h6 Z.here En S1 (Lo.more le1) fun J' H nx R s gs us le S' iu hk'=>
  jB hT hD c6 _ H nx R k kx hk' A O L m J' s _ Q E Z S' (.cons (Is.own (aF le.1 ha)) iu) (hQ.le .refl (le1.trans le)) (hE.le .refl (le1.trans le))
def pE(o:GO)(k:Nat->GV->Bool):Bool:=@GO.rec (fun q0=>Bool) false (fun q0=>false) (fun q0=>false) (fun q0 q0=>false) (fun q0=>false) false (fun q0=>false) (fun q0=>false) (fun q0=>false) (fun q0=>false) (fun q0 q0=>false) (fun q0 q0=>false) (fun q0 q0=>false) (fun q0=>false) (fun q0=>false) (fun q0=>false) false (fun q0=>false) (fun C d=>k C d) (fun q0 q0=>false) (fun q0 q0=>false) (fun q0 q0=>false) (fun q0 q0=>false) o
theorem lW{o:GO}{k:Nat->GV->Bool}(h:pE o k=true):∃C d,o=.exn C d/\k C d=true:=by cases o <;> first | (cases h; done) | exact ⟨_,_,rfl,h⟩
def mV(C0:Nat)(f:EV):SX:=fun H nx R loc k kx=>f H nx R loc fun g H nx R=>bU g fun i=>pE (H.get i) fun C q0=>@Bool.rec (fun q0=>Bool) false (kx i H nx R) (Nat.beq C C0)
theorem lL{C0:Nat}{cx:Addr}(c1:some C0=some cx)(c2:excIn x.K cx){f:EV}{e:Expr}(hf:aK x d vs f e)(pos:Pos):bT x d vs (mV C0 f) [.Raise (some e) none pos]:=by
 intro H nx R loc k kx h A env O L m J s Q E Z En S Lo hQ hE
 refine fV (FR Z.here.hnd c2 (hf H nx R loc _ h A env O L m J s _ E Z.here En S Lo fun J1 H1 nx1 R1 s1 g v1 le1 S1 i1 h1=>?_))
 symm
 obtain ⟨i,rfl,h2⟩:=bn h1
 obtain ⟨C,dd,hi,h3⟩:=lW h2
 obtain ⟨q,h4⟩:=aJ h3
 have q:=Nat.eq_of_beq_eq_true q
 subst q
 obtain ⟨ea,rfl,ha⟩:=i1
 obtain ⟨o,o1,o2,o3,o4⟩:=(S1.led.obj ha)
 rw [hi] at o4
 have go:∃t,o.cls=.ref cx/\o.data=.fields #[.ref t,.none,.none,.none,.bool false,.none]:=by
  rcases o4 with ⟨_,t,q,⟨_,rfl⟩ | ⟨_,_,_,_,rfl⟩⟩ <;> (rw [c1] at q; cases q; exact ⟨_,rfl,rfl⟩)
 obtain ⟨t,g1,g2⟩:=go
 obtain ⟨A₀,base,outer,env1,B,hA,hfr,hk,eO,eF⟩:=Z.fr
 symm
 refine ⟨ea,o,_,rfl,Z.here.X.keeps S1.fr.keep,o1,g1,g2,rfl,?_⟩
 refine hE O J1 H1 nx1 R1 m s1 i ea .refl le1 ⟨s1.heap,ke A,o,S1,ha,o1,gV.here o1 g2 rfl,fun a hm q=>?_,fun a q=>.inr q,fun a q=>q⟩ h4
 rw [eF] at q
 symm
 obtain ⟨kk,hkk⟩:=(List.mem_iff_getElem?.mp hm)
 obtain ⟨q0,q0,n1,n2,q0⟩:=(S1.led.obj hkk)
 symm
 rcases List.mem_cons.mp q with q | q
 ·exact n1 q
 ·rw [eO] at q
  symm
  obtain ⟨q0,o',ho',q0⟩:=(B.frames.mem q)
  symm
  rw [n2] at ho'; cases ho'
end
end
section
structure mS (x:aQ) (C0:Nat) (cx:Addr):Prop where
 ct:some C0=some cx
 exc:excIn x.K cx
 over:iC x.K cx
 sa:findIn x.K (.ref cx) "__setattr__" = some (some (.builtin "object.__setattr__"))
 ga:findIn x.K (.ref cx) "__getattribute__" = some (some (.builtin "BaseException.__getattribute__"))
 gt:findIn x.K (.ref cx) "__getattr__" = some none
 hd:hasDictIn x.K cx=true
section
variable {x:aQ} {d:Nat} {vs:aq} {J J':az} {H:Tr} {nx:Nat} {R:Rn} {O g g':Heap} {L L':Addr} {m m':Str->Option Value} {s:Shared} {A A₀:Around} {E:Value->Shared->Prop} {env:Env} {loc:List GV}
def t5(C0 a:Nat)(o g:GV)(H:Tr)(nx:Nat)(k:Tr->Nat->Bool):Bool:=eD g (bU o fun i=>pE (H.get i) fun C dd=>@Bool.rec (fun q0=>Bool) false
 (@GV.rec (fun q0=>Bool) false (H.set 24 nx (.idict [(a,g)]) fun H=>H.set 24 i (.exn C0 (.own nx)) fun H=>fN (Nat.succ nx) fun nx=>k H nx) (fun q0=>false) (fun q0=>false) (fun q0=>false) (fun q0=>false) (fun q0=>false)
  (fun j=>eW (H.get j) fun es=>@Bool.rec (fun q0=>Bool) false (gO a g es fun es=>H.set 24 j (.idict es) fun H=>k H nx) (ml 100 es)) false dd) (Nat.beq C C0))
theorem Pf{dd:GV}{b:Bool}{k:Nat->Bool}(h:@GV.rec (fun q0=>Bool) false b (fun q0=>false) (fun q0=>false) (fun q0=>false) (fun q0=>false) (fun q0=>false) (fun j=>k j) false dd=true):(dd=.none/\b=true)∨∃j,dd=.own j/\k j=true:=by
 cases dd <;> first | (cases h; done) | exact .inl ⟨rfl,h⟩ | exact .inr ⟨_,rfl,h⟩
theorem wd(hT:x.T.Nodup){C0:Nat}{cx:Addr}(hc:mS x C0 cx){a:Nat}{t:Str}(ht:x.T[a]?=some t)(la:a<x.nd)(hn:findIn x.K (.ref cx) t=some none){o g:GV}{k:Tr->Nat->Bool}(h:t5 C0 a o g H nx k=true)(Hh:cj x d A O L)(S:St x J H nx R O L m s)
  {u v:Value} (iu:Is x.T J o u) (iv:Is x.T J g v) {Q:Unit->Shared->Prop} (hQ:∀J' H' nx' s',J.le J'->k H' nx'=true->St x J' H' nx' R O L m s'->Q () s'):wpAny (model x.prog x.w) A (setAttr u t v) Q E s:=by
 have vs:aq:=[]
 have loc:List GV:=[]
 have env:Env:=default
 revert hT hc ht la hn h Hh S iu iv hQ
 revert C0 cx a t o g u v
 revert E
 revert Q
 revert s
 revert J
 revert m
 revert L
 revert O
 revert env
 revert A
 revert k
 revert loc
 revert R
 revert nx
 revert H
 revert vs
 revert d
 revert x
 refine @pD _ _ _ _ ?_
 generalize (dk _ _).x=x,(dk _ _).d=d,(dk _ _).vs=vs,(dk _ _).H=H,(dk _ _).nx=nx,(dk _ _).R=R,(dk _ _).loc=loc,(dk _ _).k=k,(dk _ _).A=A,(dk _ _).env=env,(dk _ _).O=O,(dk _ _).L=L,(dk _ _).m=m,(dk _ _).J=J,(dk _ _).s=s,(dk _ _).Q=Q,(dk _ _).E=E
 intro C0 cx a t o g u v
 intro hT hc ht la hn h Hh S iu iv hQ
 obtain ⟨q0,h1⟩:=cP h
 obtain ⟨i,rfl,h2⟩:=bn h1
 obtain ⟨C,dd,hi,h3⟩:=lW h2
 obtain ⟨q,h4⟩:=aJ h3
 have q:=Nat.eq_of_beq_eq_true q
 subst q
 obtain ⟨ea,rfl,ha⟩:=iu
 obtain ⟨ox,o1,q0,q0,o4⟩:=(S.led.obj ha)
 rw [hi] at o4
 obtain ⟨os,hos,el,N⟩:=S.led.at_
 have il:i<os.length:=el▸aN ha
 have hoi:=List.getElem?_eq_getElem il
 have eo:os[i]=ox:=Option.some.inj ((N _ (cn ha hoi)).1.symm.trans o1)
 rw [eo] at hoi
 rcases Pf h4 with ⟨rfl,h5⟩ | ⟨j,rfl,h5⟩
 ·obtain ⟨H1,a1,h6⟩:=Tr.set_ok _ _ _ _ _ h5
  obtain ⟨H2,a2,h7⟩:=Tr.set_ok _ _ _ _ _ h6
  rw [bO] at h7
  obtain ⟨cx',t0,c1,rfl⟩:=o4.exn0_inv
  rw [hc.ct] at c1; cases c1
  obtain ⟨pre,post,e1,q0,p1,p2⟩:=(ey (o':=Obj.mk (.ref cx) none (.fields #[]) #[]) S.led.nod ha hoi).split
  have N0:=N
  rw [e1] at N0
  have lts:∀p∈J.as.zip os,p.1<s.heap.objs.size:=fun p hp=>Heap.lt_size (N p hp).1
  refine FC S.fr N0 (Hh.X.keeps S.fr.keep) rfl rfl rfl hc.sa hc.over hn hc.hd p1 p2 (by rw [<- e1]; exact lts) fun h' dx F' N' lt=>?_
  rw [<- e1] at lt
  have le:=az.le_push J dx
  refine hQ (J.push dx) H2 _ _ le h7 ⟨⟨pF el S.led.nod lt,os.set i { cls:=.ref cx,dict:=some dx,data:=.fields #[.ref t0,.none,.none,.none,.bool false,.none] }++[dictOf [⟨PyData.keyHash x.w.params t,.str t (s.toks+1),v⟩] 1],fun k y hk=>?_,by simp [az.push,el],?_⟩,by simp [az.push,S.nx],F',S.gens,S.rn⟩
  ·rw [a2,a1]
   by_cases e:k=i
   ·subst e
    rw [List.getElem?_append_left (by simpa using il),List.getElem?_set_self il] at hk
    cases hk
    rw [if_pos rfl]
    exact .exn hc.ct (by rw [<- S.nx]; exact eE J dx)
   ·rw [if_neg e]
    by_cases e2:k=nx
    ·subst e2
     rw [if_pos rfl]
     rw [List.getElem?_append_right (by rw [List.length_set,<- el,S.nx]; exact Nat.le_refl _),List.length_set,<- el,S.nx,Nat.sub_self] at hk
     cases hk
     exact .idict 1 (.cons la ht rfl (iv.more le) .nil)
    ·rw [if_neg e2]
     have lt':k<os.length:=by
      have:=aN hk
      simp at this
      have:=S.nx
      lia
     rw [List.getElem?_append_left (by simpa using lt'),List.getElem?_set_ne (Ne.symm e)] at hk
     exact (hos k y hk).more le
  ·show News O L h' ((J.as++[dx]).zip _)
   rw [nR (by rw [List.length_set]; exact el)]
   intro p hp
   rcases List.mem_append.mp hp with hp | hp
   ·refine N' p (.tail _ ?_)
    obtain ⟨kk,z1,z2⟩:=(k9 hp)
    by_cases e:kk=i
    ·subst e
     rw [List.getElem?_set_self il] at z2
     rw [ha] at z1
     obtain ⟨pa,pb⟩:=p
     cases z1
     cases z2
     exact List.mem_append_right _ (.head _)
    ·rw [List.getElem?_set_ne (Ne.symm e)] at z2
     have hm:=cn z1 z2
     rw [e1] at hm
     rcases List.mem_append.mp hm with hm | hm
     ·exact List.mem_append_left _ hm
     ·rcases List.mem_cons.mp hm with q | hm
      ·have q:p=(ea,_):=q
       rw [q] at z1
       exact absurd ((List.getElem?_inj (aN z1) S.led.nod).mp (z1.trans ha.symm)) e
      ·exact List.mem_append_right _ (.tail _ hm)
   ·rw [List.mem_singleton.mp hp]; exact N' _ (.head _)
 ·obtain ⟨es,hd,h6⟩:=dK h5
  obtain ⟨hz,h7⟩:=aJ h6
  obtain ⟨cx',dx,t0,c1,c2,rfl⟩:=o4.exn_inv
  rw [hc.ct] at c1; cases c1
  obtain ⟨od,d1,q0,q0,d4⟩:=(S.led.obj c2)
  rw [hd] at d4
  obtain ⟨ds,n,rfl,he⟩:=d4
  have hod:os[j]?=some (dictOf ds n):=by
   have jl:j<os.length:=el▸aN c2
   have z:=List.getElem?_eq_getElem jl
   rw [z]; exact (N _ (cn c2 z)).1.symm.trans d1
  obtain ⟨es',h8,h9⟩:=(dy.put hT (hs:=PyData.keyHash x.w.params t) ht la iv (s.toks+1) he h7)
  obtain ⟨H',hA,h10⟩:=Tr.set_ok _ _ _ _ _ h8
  let o':=dictOf (PySem.W.putL t (PyData.keyHash x.w.params t) (.str t (s.toks+1)) v ds) (PySem.W.putN t ds n)
  obtain ⟨pre,post,e1,e2,p1,p2⟩:=(ey (o':=o') S.led.nod c2 hod).split
  have N0:=N
  rw [e1] at N0
  refine Gr (od':=o') S.fr N0 (Hh.X.keeps S.fr.keep) (⟨o1,rfl,rfl,d1⟩) rfl hc.sa hc.over hn hc.hd (he.isSome t) p1 p2 (putName_dict _ _ _ _ _ _) rfl ?_ fun h' F' N'=>hQ J H' nx _ (.refl _) h10 (S.set hos el F' c2 (by rw [e2]; exact N') (.idict _ h9) hA (s.toks+2))
  have:=iL t (PyData.keyHash x.w.params t) (.str t (s.toks+1)) v ds
  have:=iX hz
  rw [he.length] at this
  lia
def y6(C0:Nat)(f:EV)(a:Nat):AV:=fun g H nx R loc k=>f H nx R loc fun o H nx R=>t5 C0 a o g H nx fun H nx=>k H nx R loc
theorem rm(hT:x.T.Nodup){C0:Nat}{cx:Addr}(hc:mS x C0 cx){f:EV}{o:Expr}(hf:aK x d vs f o){a:Nat}{t:Str}(ht:x.T[a]?=some t)(la:a<x.nd)(hn:findIn x.K (.ref cx) t=some none)(pos:Pos):dP x d vs (y6 C0 f a) (.Attribute o t pos):=by
 intro g H nx R loc k h A env O L m J s v Q E Hh En S Lo iv hQ
 refine kas_attr (hf H nx R loc _ h A env O L m J s _ E Hh En S Lo fun J1 H1 nx1 R1 s1 o' u le1 S1 iu h1=>?_)
 exact wd hT hc ht la hn h1 Hh S1 iu (iv.more le1) fun J2 H2 nx2 s2 le2 h2 S2=>hQ J2 H2 nx2 R1 loc m s2 (le1.trans le2) S2 (Lo.more (le1.trans le2)) h2
end
end
section
section
variable {x:aQ} {d:Nat} {vs:aq} {J J':az} {H:Tr} {nx:Nat} {R:Rn} {O g g':Heap} {L L':Addr} {m m':Str->Option Value} {s:Shared} {A A₀:Around} {E:Value->Shared->Prop} {env:Env} {loc:List GV}
def Ex(C:Nat)(r:aE)(aO:SV):ce:=fun gs H nx R k=>@Bool.rec (fun q0=>Bool) false (H.set 24 nx (.exn C .none) fun H=>fN (Nat.succ nx) fun n1=>eR r aO (.own nx::gs) H n1 R fun g H nx' R=>lR g (k (.own nx) H nx' R)) (fk 30 gs)
structure P9 (x:aQ) (d:Nat) (C:Nat) (r:aE) (aO:SV) (cx fI:Addr):Prop where
 ex:mS x C cx
 init:findIn x.K (.ref cx) "__init__" = some (some (.ref fI))
 fn:aU x d r aO fI
theorem BZ(hT:x.T.Nodup)(hD:("__debug__" : Str)∉x.T){C:Nat}{r:aE}{aO:SV}{cx fI:Addr}(hc:P9 x d C r aO cx fI):cK x (d+2) (Ex C r aO) (.ref cx):=by
 intro gs H nx R k h A O L m J s us Q E Hh S iu hQ
 symm
 obtain ⟨hz,h⟩:=aJ h
 obtain ⟨H1,a1,h⟩:=Tr.set_ok _ _ _ _ _ h
 rw [bO] at h
 obtain ⟨os,hos,el,N⟩:=S.led.at_
 symm
 refine F7 S.fr N (Hh.X.keeps S.fr.keep) hc.ex.exc hc.init (beq_iff_eq.mp hc.fn.fn) (by have:=cX hz; rw [iu.length] at this; exact Nat.le_trans this (by decide)) fun e t h' F' N' lt1 lt2=>?_
 have le:=az.le_push J e
 have S1:St x (J.push e) H1 (nx+1) R O L m { s with heap:=h' }:=S.made' hos el F' (fun p hp=>by
  rcases List.mem_cons.mp hp with rfl | hp
  ·exact N' _ (.head _)
  ·exact N' p (.tail _ (.tail _ hp))) (fun p hp=>Nat.lt_trans (lt1 p hp) lt2) (.exn0 hc.ex.ct) a1
 have ie:Is x.T (J.push e) (.own nx) (.ref e):=.own (by rw [<- S.nx]; exact eE J e)
 have Hu:cj x (d+1) (A.under (.builtin "type.__call__" ⟨.ref cx::us,[]⟩)) O L:=by
  obtain ⟨⟨A₀,base,outer,env,B,hA,hf,hke⟩,X,top,room,hnd,units⟩:=Hh
  refine ⟨⟨A₀,base,outer,env,B,?_,hf,hke⟩,X,top,?_,hnd,?_⟩
  ·exact hA
  ·show A.depth+1+(d+1)<_; lia
  ·show A.units+1+4 * (d+1)+40<_; lia
 refine cE hT hD hc.fn _ H1 _ R _ h _ O L m _ _ _ _ E Hu S1 (.cons ie (iu.more le)) fun J' H nx R s g v le' S' i hk=>?_
 obtain ⟨rfl,hk⟩:=lA hk
 cases i
 exact ⟨rfl,hQ _ _ _ _ _ _ _ (le.trans le') S' (ie.more le') hk⟩
def WL(C0:Nat)(l:LV):EV:=fun H nx R loc k=>l H nx R loc fun gs H nx R=>@List.rec GV (fun q0=>Bool) false (fun g r q0=>bU g fun i=>pE (H.get i) fun C q0=>@Bool.rec (fun q0=>Bool) false (k .none H nx R) (Nat.beq C C0&&fk 30 r)) gs
set_option tactic.hygienic true in
theorem Lg{C0:Nat}{cx:Addr}(hc:mS x C0 cx){i a:Nat}{t:Str}(hv:vs[i]?=some (a,.glo))(ht:x.T[a]?=some t)(hm:bp x t (.type "Exception"))(he:findCls x.K (.type "Exception") (.type "type") "__init__" = some (.val (.builtin "Exception.__init__")))
  {l:LV} {es:List Expr} (hl:eg x d vs l es) (hp:bx es=true) {p apos pos:Pos} (hline:(apos.endLine == pos.line)=true) (hn:es.length<30):aK x d vs (WL C0 l) (.Call (.Attribute (.Name t p) "__init__" apos) es [] pos):=by
 intro H nx R loc k h A env O L m J s Q E Hh En S Lo hQ
 refine ff rfl hp hline hn (iJ hv ht hm Hh En S Lo (fun pl=>?_) p)
 refine method_type S.fr Hh.X (by kernel_rfl) (by decide +kernel) he rfl ?_
 refine fw hl hp h Hh En (S.toks (s.toks+1)) Lo fun J1 H1 nx1 R1 s1 gs us le1 S1 iu h1=>?_
 cases iu with
 | nil=>cases h1
 | @cons g0 v0 gs us i0 ir=>
 symm
 obtain ⟨j,rfl,h2⟩:=bn h1
 obtain ⟨C,dd,hi,h3⟩:=lW h2
 obtain ⟨q,h4⟩:=aJ h3
 obtain ⟨q,hz⟩:=Bool.and_eq_true_iff.mp q
 have q:=Nat.eq_of_beq_eq_true q
 subst q
 obtain ⟨ea,rfl,ha⟩:=i0
 obtain ⟨ox,o1,q0,q0,o4⟩:=(S1.led.obj ha)
 rw [hi] at o4
 have go:∃t0 dd',ox = { cls:=.ref cx,dict:=dd',data:=.fields #[.ref t0,.none,.none,.none,.bool false,.none] }/\∀t1,aL x.T x.CT x.nd (x.prog,x.w) J1 (.exn C dd) { cls:=.ref cx,dict:=dd',data:=.fields #[.ref t1,.none,.none,.none,.bool false,.none] }:=by
  rcases o4 with ⟨_,t,c1,⟨rfl,rfl⟩ | ⟨_,_,rfl,c2,rfl⟩⟩
  ·rw [hc.ct] at c1; cases c1; exact ⟨_,none,rfl,fun t1=>.exn0 hc.ct⟩
  ·rw [hc.ct] at c1; cases c1; exact ⟨_,_,rfl,fun t1=>.exn hc.ct c2⟩
 obtain ⟨t0,dd',rfl,hob⟩:=go
 symm
 refine GK (Hh.X.keeps S1.fr.keep) hc.exc o1 rfl rfl rfl (by have:=cX hz; rw [ir.length] at this; exact Nat.le_trans this (by decide)) ?_
 have hx1:=Heap.get?_push_of_some { cls:=.type "tuple",data:=.seq us.toArray } o1
 refine (hQ.le le1).here (S1.updT (H':=H1) (g:=.exn C dd) ha (fun b o hb e=>(Heap.get?_update_other _ _ (Ne.symm hb)).trans (Heap.get?_push_of_some _ e)) (Heap.get?_update_self _ hx1 (by rfl)) (hob s1.heap.objs.size) (fun k' q0=>?_) s1.toks) .none h4
 split
 ·rename_i e; rw [e,hi]
 ·rfl
noncomputable def Qq(o:ce)(l:LV):EV:=fun H nx R loc k=>l H nx R loc fun gs H nx R=>o gs H nx R k
theorem FO{i a:Nat}{t t2:Str}{cb fI:Addr}{mc:Value}{o:ce}(hv:vs[i]?=some (a,.glo))(ht:x.T[a]?=some t)(hm:bp x t (.ref cb))(hg:specialIn x.K (.ref cb) "__getattribute__" = some (some (.builtin "type.__getattribute__")))(hr:readsIn x.K cb mc=true)
  (he:findCls x.K (.ref cb) mc t2=some (.val (.ref fI))) (ho:cK x d o (.ref fI)) (hk:keepIn x.K (.ref fI)=true)
  {l:LV} {es:List Expr} (hl:eg x d vs l es) (hp:bx es=true) {p apos pos:Pos} (hline:(apos.endLine == pos.line)=true) (hn:es.length<30):aK x d vs (Qq o l) (.Call (.Attribute (.Name t p) t2 apos) es [] pos):=by
 intro H nx R loc k h A env O L m J s Q E Hh En S Lo hQ
 refine ff rfl hp hline hn (iJ hv ht hm Hh En S Lo (fun pl=>?_) p)
 refine method_cls (Hh.X.keeps S.fr.keep) hg (cls_value (Hh.X.keeps S.fr.keep) hr he rfl ?_)
 exact hX hl hp hk h Hh En (S.toks (s.toks+1)) Lo fun J' H nx R s gs us le S' i hk'=>ho gs H nx R k hk' A O L m J' s us Q E Hh S' i (hQ.le le)
def yO(i:Nat)(tab:List (Nat × List Nat))(k:List Nat->Bool):Bool:=@List.rec (Nat × List Nat) (fun q0=>Bool) false (fun p q0 ih=>@Bool.rec (fun q0=>Bool) ih (k p.2) (Nat.beq p.1 i)) tab
theorem vr{i:Nat}{k:List Nat->Bool}:∀{tab:List (Nat × List Nat)},yO i tab k=true->∃n,(i,n)∈tab/\k n=true
 | [],h=>by cases h
 | p::r,h=>by
  have h:@Bool.rec (fun q0=>Bool) (yO i r k) (k p.2) (Nat.beq p.1 i)=true:=h
  cases q:Nat.beq p.1 i with
  | true=>
   rw [q] at h
   have:p.1=i:=Nat.eq_of_beq_eq_true q
   exact ⟨p.2,by rw [<- this]; exact .head _,h⟩
  | false=>
   rw [q] at h
   obtain ⟨n,h1,h2⟩:=(vr (tab:=r) h)
   exact ⟨n,.tail _ h1,h2⟩
def Ek(x:aQ)(tab:List (Nat × List Nat)):Prop:=∀i n,(i,n)∈tab->(n.all fun n=>Nat.ble n 255)=true/\n.length<=sizeLine/\∃t,x.T[i]?=some t/\∀u v,Builtin.«str.encode» ⟨[.str t u,.str (Str.ofString "ascii") v],[]⟩=(do ret (<- mkBytes (n.map UInt8.ofNat).toArray))
def Lx(tab:List (Nat × List Nat))(f:EV):EV:=fun H nx R loc k=>f H nx R loc fun g H nx R=>ow g fun i=>yO i tab fun n=>k (.byt (jm n)) H nx R
theorem FS{tab:List (Nat × List Nat)}(ht:Ek x tab){f:EV}{e:Expr}(hf:aK x d vs f e)(hc:je e=true){kd:Nat}{cp apos pos:Pos}(hline:(apos.endLine == pos.line)=true):aK x d vs (Lx tab f) (.Call (.Attribute e "encode" apos) [.Constant (.str "ascii") kd cp] [] pos):=by
 intro H nx R loc k h A env O L m J s Q E Hh En S Lo hQ
 refine ff hc rfl hline (by simp) (hf H nx R loc _ h A env O L m J s _ E Hh En S Lo fun J1 H1 nx1 R1 s1 g v1 le1 S1 i1 h1 pl=>?_)
 symm
 obtain ⟨i,rfl,h2⟩:=gU h1
 obtain ⟨n,hn,h3⟩:=(vr h2)
 obtain ⟨ha,hz,t,hi,he⟩:=(ht i n hn)
 obtain ⟨t',u,rfl,hi'⟩:=i1
 symm
 rw [hi] at hi'; cases hi'
 refine getMethod_builtin (typeIs_str _ _ _) F.plainAttrs_str F.slot_str_encode F.type_str_encode (fun q0 e=>nomatch e) ?_
 refine callWith_builtin (fM rfl env pos) (jx rfl ?_)
 refine spliced_more (Constant_str ?_) rfl
 refine spliced_none ?_
 refine wpAny_call_entry F.slot_str_encode (typeIs_str _ _ _) F.entry_str_encode ?_
 show wpAny _ _ (Builtin.«str.encode» ⟨[.str t u,.str (Str.ofString "ascii") _],[]⟩) _ _ _
 rw [he]
 refine wpAny_bind (wpAny_mkBytes (hb:=by simpa using hz) ?_)
 refine wpAny_pure ⟨_,rfl,?_⟩
 have e2:ik ((jm n).map (GI.ev J1.ns))=(n.map UInt8.ofNat).toArray:=by
  unfold ik jm
  rw [List.map_map,List.map_map]
  rfl
 rw [<- e2]
 refine hQ J1 H1 nx1 R1 _ _ _ le1 (S1.toks _) (.byt _ fun g hg=>?_) h3
 obtain ⟨n',hn',rfl⟩:=(List.mem_map.mp hg)
 have:=Nat.le_of_ble_eq_true (List.all_eq_true.mp ha n' hn')
 refine ⟨trivial,?_,?_⟩
 ·show (0:Int)<=(n':Int); lia
 ·show (n':Int)<256; lia
end
end
section
section
variable {x:aQ} {d:Nat} {vs:aq} {J J':az} {H H':Tr} {nx:Nat} {R:Rn} {O g g' h' G:Heap} {L L' e:Addr} {m m':Str->Option Value} {s:Shared} {A A₀:Around} {E:Value->Shared->Prop} {env:Env} {loc:List GV} {fs:List Addr} {oe:Obj} {fl:Value} {i:Nat}
theorem zK(Z:de x d A g L)(SG:St x J H nx R g L m { s with heap:=G })(hi:J.as[i]?=some e)(hoe:G.get? e=some oe)(F:gV G fs e oe.cls oe.dict fl h')(o1:∀a∈J.as,a∉fs)(o2:∀a∈fs,g.get? a=none∨a∈ke A)
  {C j:Nat} (hH:H.get i=.exn C (.own j)) (hA:At H H' i (.exc C j)):∃g',KtsTurn (cS A) g g'/\St x J H' nx R g' L m { s with heap:=h' }:=by
 symm
 obtain ⟨A₀,base,outer,env,B,hAf,hf,hk,eO,eF⟩:=Z.fr
 have ge:g.get? e=none:=by obtain ⟨q0,q0,q0,z,q0⟩:=(SG.led.obj hi); exact z
 have gL:g.get? L=none:=kts_self SG.fr
 have ne:∀b o,g.get? b=some o->b≠e:=fun b o q z=>by rw [z,ge] at q; cases q
 obtain ⟨T1,K1⟩:=(kts_turn_at (h:=h') (fs:=cS A) (g:=g))
  (fun b hb=>by rw [eO] at hb; obtain ⟨q0,o,ho,q0⟩:=(B.frames.mem hb); exact ⟨o,ho⟩)
  (fun b o q nm=>F.keep b o (SG.fr.keep b o q) (ne b o q) fun hm=>by
   rcases o2 b hm with z | z
   ·rw [z] at q; cases q
   ·rw [eF] at z
    rcases List.mem_cons.mp z with z | z
    ·rw [z,gL] at q; cases q
    ·exact nm z)
  (fun b o q q0=>F.fr b o (SG.fr.keep b o q) (ne b o q))
 obtain ⟨oL,es,ep,ho,hd,hk2,hn⟩:=SG.fr.ns
 obtain ⟨n1,os,hos,el,N⟩:=SG.led
 have il:i<os.length:=el▸aN hi
 have hoi:=List.getElem?_eq_getElem il
 have Le:L≠e:=fun q=>(N _ (cn hi hoi)).2.1 q.symm
 obtain ⟨sl,hs⟩:=(F.fr L oL ho Le)
 have eo:os[i]=oe:=Option.some.inj ((N _ (cn hi hoi)).1.symm.trans hoe)
 rw [eo] at hoi
 obtain ⟨oe',r,hoe',hcls,hdict,hdat,q0⟩:=F.ex
 symm
 have ob:=hos i oe hoi
 rw [hH] at ob
 have ob':aL x.T x.CT x.nd (x.prog,x.w) J (.exc C j) oe':=by
  obtain ⟨q0,q0,q0,c1,c2,rfl⟩:=ob.exn_inv
  exact .exc c1 c2 hcls hdict hdat
 refine ⟨_,T1,⟨n1,os.set i oe',fun k y hk=>?_,by rw [List.length_set]; exact el,fun p hp=>?_⟩,SG.nx,⟨⟨_,es,ep,hs,hd,hk2,hn⟩,K1,by rw [T1.size]; exact SG.fr.above⟩,SG.gens,SG.rn⟩
 ·rw [hA]
  by_cases q:k=i
  ·subst q
   rw [List.getElem?_set_self il] at hk
   cases hk
   rw [if_pos rfl]; exact ob'
  ·rw [if_neg q]
   rw [List.getElem?_set_ne (Ne.symm q)] at hk
   exact hos _ _ hk
 ·obtain ⟨kk,z1,z2⟩:=(k9 hp)
  by_cases q:kk=i
  ·subst q
   rw [List.getElem?_set_self il] at z2
   rw [hi] at z1
   symm
   obtain ⟨pa,pb⟩:=p
   cases z1
   cases z2
   symm
   have:=N _ (cn hi hoi)
   exact ⟨hoe',this.2.1,T1.none_ _ this.2.2⟩
  ·rw [List.getElem?_set_ne (Ne.symm q)] at z2
   have:=N _ (cn z1 z2)
   refine ⟨F.keep _ _ this.1 (fun w=>?_) (o1 _ (List.mem_of_getElem? z1)),this.2.1,T1.none_ _ this.2.2⟩
   rw [w] at z1
   exact q ((List.getElem?_inj (aN z1) n1).mp (z1.trans hi.symm))
theorem bq.nuls(Lo:bq x J env L m vs loc)(hvs:(vs.all fun p=>match p.2 with | .loc=>true | .glo=>true | _=>false)=true){nl:List GV}(hn:∀j,ba nl j=.nul)(J':az)(m':Str->Option Value):bq x J' env L m' vs nl:=fun j i' kd hj=>by
 obtain ⟨t,ht,hd,sl⟩:=(Lo j i' kd hj)
 refine ⟨t,ht,hd,?_⟩
 have hk:=List.all_eq_true.mp hvs _ (List.mem_of_getElem? hj)
 cases kd with
 | loc=>rw [hn]; exact ⟨sl.1,sl.2.1,fun n=>absurd rfl n⟩
 | glo=>exact sl
 | cel=>cases hk
 | blk=>cases hk
def yG(C0 av:Nat)(z:Int)(f:SX):SX:=fun H nx R loc k kx=>f H nx R loc (fun gf H nx R loc=>k gf H nx R loc) fun i H nx R=>pE (H.get i) fun C dd=>@Bool.rec (fun q0=>Bool) false (bU dd fun j=>eW (H.get j) fun es=>bU (dX es av) fun ti=>kF (H.get ti) (fun l=>
 eD (mF l z) (H.set 24 i (.exc C0 j) fun H=>k (.ret (mF l z)) H nx R [])) fun q0=>false) (Nat.beq C C0)
theorem vH(hT:x.T.Nodup){C0:Nat}{cx:Addr}(hc:mS x C0 cx)(hm:exmOne x.K (.ref cx) (.ref cx)=some true){f:SX}{body:List Stmt}(hf:bT x d vs f body)(hvs:(vs.all fun p=>match p.2 with | .loc=>true | .glo=>true | _=>false)=true)
  {ie ae:Nat} {te:Str} (hv1:vs[ie]?=some (ae,.glo)) (ht1:x.T[ae]?=some te) (hm1:bp x te (.ref cx)) {ip ap:Nat} {tp:Str} (hv2:vs[ip]?=some (ap,.loc)) (ht2:x.T[ap]?=some tp) {av:Nat} {tv:Str} (ht3:x.T[av]?=some tv) (hn3:findIn x.K (.ref cx) tv=some none) {z:Int} {kd:Nat} {q1 q2 q3 q4 q5 q6 q7 q8:Pos} :
  bT x d vs (yG C0 av z f) [.Try body [.ExceptHandler (some (.Name te q1)) (some tp) [.Return (some (.Subscript (.Attribute (.Name tp q2) tv q3) (.Constant (.int z) kd q4) q5)) q6] q7] [] [] q8]:=by
 intro H nx R loc k kx h A env O L m J s Q E Z En S Lo hQ hE
 revert hT hc hm hf hvs hv1 ht1 hm1 hv2 ht2 ht3 hn3 h Z En S Lo hQ hE
 revert C0 cx f body ie ae te ip ap tp av tv z kd q1 q2 q3 q4 q5 q6 q7 q8 kx
 revert x d vs H nx R loc k A env O L m J s Q E
 refine @pD _ _ _ _ ?_
 generalize (dk _ _).x=x,(dk _ _).d=d,(dk _ _).vs=vs,(dk _ _).H=H,(dk _ _).nx=nx,(dk _ _).R=R,(dk _ _).loc=loc,(dk _ _).k=k,(dk _ _).A=A,(dk _ _).env=env,(dk _ _).O=O,(dk _ _).L=L,(dk _ _).m=m,(dk _ _).J=J,(dk _ _).s=s,(dk _ _).Q=Q,(dk _ _).E=E
 intro C0 cx f body ie ae te ip ap tp av tv z kd q1 q2 q3 q4 q5 q6 q7 q8 kx
 intro hT hc hm hf hvs hv1 ht1 hm1 hv2 ht2 ht3 hn3 h Z En S Lo hQ hE
 refine fV (wpAny_Try_except (hf H nx R loc _ _ h A env O L m J s _ _ Z En S Lo (fun g J' H nx R loc m s gf fl T le S Lo hfl hk=>?_) fun g J1 H nx R m s i e T le U hk=>?_))
 ·cases hfl with
  | next=>exact wpAny_execs_nil (hQ g J' H nx R loc m s .next .next T le S Lo .next hk)
  | brk=>exact hQ g J' H nx R loc m s .brk .brk T le S Lo .brk hk
  | cont=>exact hQ g J' H nx R loc m s .cont .cont T le S Lo .cont hk
  | ret i=>exact hQ g J' H nx R loc m s (.ret _) _ T le S Lo (.ret i) hk
 ·obtain ⟨C,dd,hi,h3⟩:=lW hk
  symm
  obtain ⟨q,h4⟩:=aJ h3
  have q:=Nat.eq_of_beq_eq_true q
  subst q
  obtain ⟨j,rfl,h5⟩:=bn h4
  obtain ⟨es,hj,h6⟩:=dK h5
  obtain ⟨ti,hti,h7⟩:=bn h6
  symm
  rcases eL h7 with ⟨l,htl,h8⟩ | ⟨_,_,h8⟩
  rotate_left
  ·cases h8
  symm
  obtain ⟨nz,h9⟩:=cP h8
  obtain ⟨H',hA,h10⟩:=Tr.set_ok _ _ _ _ _ h9
  have Zg:=Z.turn T
  obtain ⟨A₀,base,outer,env1,B,hAf,hfr,hkk,eO,eF⟩:=Zg.fr
  obtain ⟨G,fs,oe,SG,hia,hoe,F,o1,o2,o3⟩:=U.ex
  symm
  have hFF:=(pushX B SG.fr hfr hkk).frames
  have efm:(env1::outer).filterMap (·.frame)=ke A:=by rw [eF,eO,List.filterMap_cons,hfr]
  have eEnv:env.frame=env1.frame:=by rw [hfr,En.frame]
  have ne:e∉(env1::outer).filterMap (·.frame):=fun q=>o1 e (List.mem_of_getElem? hia) (o3 e (by rw [efm] at q; exact q))
  have nf:noteFrame (.ref e) env=noteFrame (.ref e) env1:=by unfold noteFrame frameOf; rw [eEnv]
  rw [nf]
  refine F.note hAf (F.frames hFF ne) hfr (fun b hb=>o3 b (by rw [efm] at hb; exact hb)) fun h1 F1=>?_
  refine gV.land (s:={ s with heap:=h1 }) F1 (.inl (by simp [rawInt])) fun h2 F2=>?_
  symm
  obtain ⟨g2,T2,S2⟩:=(zK Zg SG hia hoe F2 o1 o2 hi hA)
  have Z2:=Zg.turn T2
  obtain ⟨t1,ht1',ju,k1⟩:=(Lo ie ae .glo hv1)
  symm
  rw [ht1] at ht1'; cases ht1'
  symm
  have X2:=Z2.here.X.keeps S2.fr.keep
  obtain ⟨oe2,r2,he2,hc2,hdd2,hdt2,q0⟩:=F2.ex
  have hoc:oe.cls=.ref cx/\∃dx,oe.dict=some dx/\J1.as[j]?=some dx:=by
   obtain ⟨o',p1,q0,q0,p2⟩:=(SG.led.obj hia)
   rw [hi] at p2
   have:o'=oe:=Option.some.inj (p1.symm.trans hoe)
   subst this
   obtain ⟨q0,q0,q0,c1,c2,rfl⟩:=p2.exn_inv
   rw [hc.ct] at c1; cases c1; exact ⟨rfl,_,rfl,c2⟩
  obtain ⟨hoc1,dx,hoc2,hoc3⟩:=hoc
  symm
  rw [hoc1] at hc2
  rw [hoc2] at hdd2
  refine wpAny_handleBy_cons (codeAny_handlers_test ?_) (by intro q; cases q)
  have TR:=topRead_of Z2.here.top
  have nameOk:∀(Q':Value->Shared->Prop) (E':Value->Shared->Prop),Q' (.ref cx) { s with heap:=h2 }->wpAny (model x.prog x.w) (A.mark (some (.ref e))) (eval (.Name te q1) env) Q' E' { s with heap:=h2 }:=fun Q' E' q=>by
   rcases hm1 with hm1 | ⟨hm1,hn,hb⟩
   ·exact Name_function_global En.kind k1 (loadGlobal_global (env:=env) (by rw [En.glob]; exact TR.g.keeps S2.fr.keep) (mg_of Z2.here.X TR.g hm1) q) ju
   ·exact Name_function_global En.kind k1 (loadGlobal_builtin (env:=env) (by rw [En.glob]; exact TR.g.keeps S2.fr.keep) (mg_none_of Z2.here.X TR.g hm1) (by rw [En.bui]; exact TR.b.keeps S2.fr.keep) ((TR.builtins _ hn).trans hb) q) ju
  refine nameOk _ _ ?_
  have LT:Looks (model x.prog x.w) h2 (typeOf (.ref e)) (.ref cx):=by
   have z:Looks (model x.prog x.w) h2 (typeOf (.ref e)) oe2.cls:=(Looks.ld he2).andThen .now
   rwa [hc2] at z
  refine (exm_one X2 LT hm).here ?_
  refine codeAny_handlers_suite_as ?_
  refine gV.land (s:={ s with heap:=h2 }) F2 (.inr rfl) fun h3 F3=>?_
  symm
  obtain ⟨g3,T3,S3⟩:=(zK Zg SG hia hoe F3 o1 o2 hi hA)
  have Z3:=Zg.turn T3
  have X3:=Z3.here.X.keeps S3.fr.keep
  obtain ⟨oe3,r3,he3,hc3,hdd3,hdt3,q0⟩:=F3.ex
  rw [hoc1] at hc3
  rw [hoc2] at hdd3
  obtain ⟨t2,ht2',hd2,k2,k3,q0⟩:=(Lo ip ap .loc hv2)
  symm
  rw [ht2] at ht2'; cases ht2'
  refine wpAny_storeName_local (m:=m) k3 (by rw [k2]; exact S3.fr.ns) (fun h4 hn4 hsb=>?_) (by rw [En.kind]; rfl)
  rw [k2] at hn4 hsb
  symm
  have nL:=S3.led.notL
  have S4:St x J1 H' nx R g3 L (fun y=>if y=tp then some (.ref e) else m y) { s with heap:=h4,toks:=s.toks+1 }:=
   ⟨S3.led.keep fun a ha=>hsb.2 a fun w=>nL (w▸ha),S3.nx,S3.fr.set hn4 hsb,S3.gens,S3.rn⟩
  have he4:h4.get? e=some oe3:=(hsb.2 e fun w=>nL (w▸List.mem_of_getElem? hia)).trans he3
  obtain ⟨oc,odi,oda,osl⟩:=oe3
  symm
  dsimp only at hc3 hdd3 hdt3
  subst hc3 hdd3 hdt3
  symm
  have nji:j≠i:=fun w=>by rw [w,hi] at hj; cases hj
  have nti:ti≠i:=fun w=>by rw [w,hi] at htl; cases htl
  obtain ⟨od,d1,q0,q0,d4⟩:=(S4.led.obj hoc3)
  rw [hA,if_neg nji,hj] at d4
  obtain ⟨ds,n,rfl,hds⟩:=d4
  have nza:dX es av≠.nul:=fun w=>by rw [w] at hti; cases hti
  obtain ⟨v,v1,v2⟩:=(hds.look hT ht3 (lG nza))
  rw [hti] at v2
  obtain ⟨ta,rfl,hta⟩:=v2
  obtain ⟨ot,d1t,q0,q0,d4t⟩:=(S4.led.obj hta)
  rw [hA,if_neg nti,htl] at d4t
  obtain ⟨us,rfl,hus⟩:=d4t
  obtain ⟨jj,j1,j2,j3,j4,j5⟩:=(rG nz)
  obtain ⟨v,w1,w2⟩:=(hus.get j1)
  symm
  refine fV (wpAny_Return_some (Subscript_ (Attribute_any_ (wpAny_Name (wpAny_loadName_local En.kind k3 (by rw [k2]; exact S4.fr.ns) (if_pos rfl) ?_) hd2) rfl)))
  refine Q0 (Z3.here.X.keeps S4.fr.keep) ⟨he4,rfl,rfl,d1⟩ hc.ga hc.gt hc.over (findObj_own (od:=dictOf ds n) hc.hd hn3 rfl v1) rfl ?_
  refine wpAny_Constant_int ?_
  refine item_tupleT (s:={ s with heap:=h4,toks:=s.toks+1+1+1 }) ⟨_,d1t,rfl,_,rfl⟩ (by lia) (by lia) (by rw [<- hus.length]; exact j2) w1 ?_
  refine wpAny_nameGoes k3 (by rw [k2]; exact S4.fr.ns) (by rw [En.kind]; rfl) fun h5 m5 hn5 hsb5=>?_
  rw [k2] at hn5 hsb5
  refine hQ g3 J1 H' nx R [] m5 _ (.ret _) _ (T.trans T3) le ?_ (Lo.nuls hvs (fun j=>by cases j <;> rfl) J1 m5) (.ret w2) h10
  exact ⟨S4.led.keep fun a ha=>hsb5.2 a fun w=>nL (w▸ha),S4.nx,S4.fr.set hn5 hsb5,S4.gens,S4.rn⟩
end
end
section
def IsCell(h:Heap)(a:Addr):Prop:=∃b o n t u o2 n2,h.get? a=some o/\o.cls=.type "tuple"/\o.data=.seq #[.str (Str.ofString "cell") t,.int 1 u,.ref b] n/\h.get? b=some o2/\o2.cls=.type "tuple"/\o2.data=.seq #[] n2
section
variable {prog:Program} {w:World} {A:Around} {E:Value->Shared->Prop} {s:Shared} {a b:Addr}
theorem IsCell.typeIs(x:IsCell s.heap a):s.TypeIs (.ref a) "tuple":=x.elim fun q0 h=>h.imp fun q0 h=>h.elim fun q0 h=>h.elim fun q0 h=>h.elim fun q0 h=>h.elim fun q0 h=>h.elim fun q0 h=>⟨h.1,h.2.1⟩
theorem nM{n2:Nat}{o2:Obj}{h:Heap}(h1:h.get? b=some o2)(h2:o2.cls=.type "tuple")(h3:o2.data=.seq #[] n2):IsTupleKey (PySem.intKind prog w) h [] b:=⟨o2,#[],n2,h1,h2,h3,.nil⟩
theorem zc{Q:Int->Shared->Prop}(hu:A.units+2<cLine)(hk:IsCell s.heap a)(h:Q (pB prog w) { s with toks:=s.toks+4 }):wpAny (model prog w) A (pyHash (.ref a)) Q E s:=by
 symm
 have hT:=hk.typeIs
 obtain ⟨b,o,n,t,u,o2,n2,ho,q0,hd,hb,hbc,hbd⟩:=hk
 symm
 unfold pyHash
 first | unfold pyHashByItsType | skip
 first | refine wpAny_bind (wpAny_cRoomFor_or (.inr (by lia)) ?_) | skip
 refine wpAny_bind (wpAny_specialOf hT F.slot_tuple_hash.lookup ?_)
 show wpAny _ _ (if (some (Value.builtin "tuple.__hash__") == some Value.none)=true then _ else _) Q E s
 rw [if_neg (by rw [beq_builtin_none]; exact Bool.false_ne_true)]
 refine wpAny_bind (wpAny_specialOf hT F.slot_tuple_hash.lookup ?_)
 show wpAny _ _ (callSpecialIfBoundUnlessNone? (.ref a) "__hash__" _ >>= _) Q E s
 refine wpAny_bind (wpAny_callSpecialIfBoundUnlessNone?_slot hT F.slot_tuple_hash (wpAny_call_entry F.slot_tuple_hash hT F.entry_tuple_hash ?_ (F.args_tuple_hash_1 _)))
 show wpAny _ _ (Builtin.Tuple.tupleItemsOf (.ref a) >>= _) _ _ s
 refine wpAny_bind (wpAny_tupleItemsOf ho hd ?_)
 refine wpAny_bind ?_
 rw [<- Array.forIn_toList]
 show wpAny _ _ (forIn [Value.str (Str.ofString "cell") t,.int 1 u,.ref b] _ _) _ _ _
 conv=>arg 3; simp only [List.forIn_cons,List.forIn_nil,bind_assoc,pure_bind]
 refine wpAny_bind ((PySem.strKind prog w).pyHash (k:=Str.ofString "cell") (strKind_is _ _ _ _) ?_)
 refine wpAny_bind ((PySem.intKind prog w).pyHash (k:=1) (intKind_is _ _ _ _) ?_)
 refine wpAny_bind (wpAny_pyHash_tuple (knd:=PySem.intKind prog w) (ks:=[]) (by show A.units+1<cLine; lia) (nM hb hbc hbd) ?_)
 refine wpAny_pure ?_
 show wpAny _ _ (retInt (Builtin.Tuple.tupleHashOf [(PySem.strKind prog w).hash (Str.ofString "cell"),(PySem.intKind prog w).hash 1,tupleKeyHash (PySem.intKind prog w) []])) _ _ _
 refine wpAny_ret_mkInt ?_
 generalize hz:Builtin.Tuple.tupleHashOf [(PySem.strKind prog w).hash (Str.ofString "cell"),(PySem.intKind prog w).hash 1,tupleKeyHash (PySem.intKind prog w) []]=z
 have hc:pB prog w=reduceHash z:=by rw [<- hz]; rfl
 rw [hc] at h
 show wpAny _ _ (if (decide (-(2:Int) ^ 63<=z)&&decide (z<2 ^ 63))=true then _ else _) Q E _
 unfold reduceHash at h
 by_cases hr:(decide (-(2:Int) ^ 63<=z)&&decide (z<2 ^ 63))=true
 ·rw [if_pos hr]
  rw [if_pos hr] at h
  exact wpAny_pure (by simpa [Nat.add_assoc] using h)
 ·rw [if_neg hr]
  rw [if_neg hr] at h
  exact wpAny_bind (wpAny_rule (wpAny_pure (by simpa [Nat.add_assoc] using h)))
theorem GT{Q:Bool->Shared->Prop}(hu:A.units+2<cLine)(hx:IsCell s.heap a)(hy:IsCell s.heap b)(h:Q true s):wpAny (model prog w) A (eqBool (.ref a) (.ref b)) Q E s:=by
 unfold eqBool
 try with_reducible refine wpAny_holding ?_
 show wpAny _ _ (if (Value.ref a == Value.ref b)=true then _ else _) Q E s
 by_cases hab:(Value.ref a == Value.ref b)=true
 ·rw [if_pos hab]
  exact wpAny_bind (wpAny_rule (wpAny_pure h))
 ·rw [if_neg hab]
  have tx:=hx.typeIs
  have ty:=hy.typeIs
  refine wpAny_bind (wpAny_richCompare_same_room (op:=.Eq) tx ty F.slot_tuple_eq (wpAny_call_entry F.slot_tuple_eq tx F.entry_tuple_eq ?_ (F.args_tuple_eq_2 _ _)) (by lia))
  symm
  obtain ⟨b1,o,n,t,u,o2,n2,ho,q0,hd,hb,hbc,hbd⟩:=hx
  obtain ⟨b1',o',n',t',u',o2',n2',ho',q0,hd',hb',hbc',hbd'⟩:=hy
  symm
  show wpAny _ _ (isInstance (.ref b) (.type "tuple") >>= _) _ _ s
  refine wpAny_bind (wpAny_isInstance ty isSubtype_tuple_tuple ?_)
  simp only [Bool.not_true,Bool.false_eq_true,if_false]
  refine wpAny_bind (wpAny_tupleItemsOf ho hd ?_)
  refine wpAny_bind (wpAny_tupleItemsOf ho' hd' ?_)
  refine wpAny_bind ?_
  show wpAny _ _ (forIn [(Value.str (Str.ofString "cell") t,Value.str (Str.ofString "cell") t'),(.int 1 u,.int 1 u'),(.ref b1,.ref b1')] _ _) _ _ _
  simp only [List.forIn_cons,List.forIn_nil,bind_assoc,pure_bind]
  refine wpAny_bind ((PySem.strKind prog w).eqBool (a:=Str.ofString "cell") (b:=Str.ofString "cell") (strKind_is _ _ _ _) (strKind_is _ _ _ _) ?_)
  rw [decide_eq_true rfl]
  simp only [Bool.not_true,Bool.false_eq_true,if_false,pure_bind]
  refine wpAny_bind ((PySem.intKind prog w).eqBool (a:=1) (b:=1) (intKind_is _ _ _ _) (intKind_is _ _ _ _) ?_)
  rw [decide_eq_true rfl]
  simp only [Bool.not_true,Bool.false_eq_true,if_false,pure_bind]
  refine wpAny_bind (wpAny_eqBool_tuple (knd:=PySem.intKind prog w) (x:=[]) (y:=[]) (by show A.units+1<cLine; lia) (nM hb hbc hbd) (nM hb' hbc' hbd') ?_)
  rw [decide_eq_true rfl]
  simp only [Bool.not_true,Bool.false_eq_true,if_false,pure_bind]
  refine wpAny_pure ?_
  show wpAny _ _ (ret (Value.bool true)) _ _ _
  exact wpAny_pure ⟨_,rfl,(fun e=>nomatch e),wpAny_truthy_bool h⟩
theorem yu{Q:Bool->Shared->Prop}(hk:IsCell s.heap a)(h:Q true s):wpAny (model prog w) A (eqIsQuiet 8 (.ref a)) Q E s:=by
 symm
 have hT:=hk.typeIs
 obtain ⟨b,o,n,t,u,o2,n2,ho,q0,hd,hb,hbc,hbd⟩:=hk
 symm
 have hTb:s.TypeIs (.ref b) "tuple":=⟨o2,hb,hbc⟩
 unfold eqIsQuiet
 refine wpAny_bind (wpAny_specialOf hT F.slot_tuple_eq.lookup ?_)
 show wpAny _ _ (isInstance (.ref a) (.type "tuple") >>= _) _ _ s
 refine wpAny_bind (wpAny_isInstance hT isSubtype_tuple_tuple ?_)
 simp only [Bool.not_true,Bool.false_eq_true,if_false]
 refine wpAny_bind (wpAny_seqItems ho hd ?_)
 refine wpAny_bind ?_
 show wpAny _ _ (forIn #[Value.str (Str.ofString "cell") t,.int 1 u,.ref b] _ _) _ _ s
 rw [<- Array.forIn_toList]
 show wpAny _ _ (forIn [Value.str (Str.ofString "cell") t,.int 1 u,.ref b] _ _) _ _ s
 simp only [List.forIn_cons,List.forIn_nil,bind_assoc,pure_bind]
 rw [eqIsQuiet_byValue _ (v:=.str (Str.ofString "cell") t) rfl,eqIsQuiet_byValue _ (v:=.int 1 u) rfl]
 simp only [Bool.not_true,Bool.false_eq_true,if_false,pure_bind]
 unfold eqIsQuiet
 refine wpAny_bind (wpAny_bind (wpAny_specialOf hTb F.slot_tuple_eq.lookup ?_))
 show wpAny _ _ (isInstance (.ref b) (.type "tuple") >>= _) _ _ s
 refine wpAny_bind (wpAny_isInstance hTb isSubtype_tuple_tuple ?_)
 simp only [Bool.not_true,Bool.false_eq_true,if_false]
 refine wpAny_bind (wpAny_seqItems hb hbd ?_)
 rw [show ((some (#[]:Array Value)).getD #[]) = #[] from rfl,<- Array.forIn_toList]
 simp only [List.forIn_nil,pure_bind,Bool.not_true,Bool.false_eq_true,if_false]
 refine wpAny_pure ?_
 simp only [Bool.not_true,Bool.false_eq_true,if_false,pure_bind]
 exact wpAny_pure (wpAny_pure h)
theorem IsCell.keeps{h h':Heap}{d:Addr}{o:Obj}{es:Array DictEntry}{ep:Nat}(x:IsCell h a)(ho:h.get? d=some o)(hd:o.data=.dict es ep)(hs:Heap.SameBut d h h'):IsCell h' a:=by
 symm
 obtain ⟨b,oa,n,t,u,o2,n2,h1,h2,h3,h4,h5,h6⟩:=x
 symm
 have ne:∀(c:Addr) (q:Obj) (is:Array Value) (k:Nat),h.get? c=some q->q.data=.seq is k->c≠d:=fun c q is k e1 e2 z=>by
  subst z
  rw [ho] at e1; cases e1
  rw [hd] at e2; cases e2
 exact ⟨b,oa,n,t,u,o2,n2,(hs.2 a (ne _ _ _ _ h1 h3)).trans h1,h2,h3,(hs.2 b (ne _ _ _ _ h4 h6)).trans h4,h5,h6⟩
def fY(prog:Program)(w:World):HeapKind prog w Unit where
 is:=fun h q0 a=>IsCell h a
 hash:=fun q0=>pB prog w
 draws:=fun q0=>4
 room:=fun A=>A.units+2<cLine
 inj:=fun q0 q0=>rfl
 keeps:=fun x ho hd hs=>x.keeps ho hd hs
 pyHash:=fun hu hk h=>zc hu hk h
 eqBool:=fun {A E s x y a b Q} hu hx hy h=>GT hu hx hy (by rw [decide_eq_true (Subsingleton.elim x y)] at h; exact h)
 quiet:=fun hk h=>yu hk h
end
section
variable {x:aQ} {d:Nat} {vs:aq} {J J':az} {H:Tr} {nx:Nat} {R:Rn} {O g g':Heap} {L L':Addr} {m m':Str->Option Value} {s:Shared} {A A₀:Around} {E:Value->Shared->Prop} {env:Env} {loc:List GV}
def yZ(o:GO)(k0:Bool)(k:Nat->GV->Bool)(e:Bool):Bool:=@GO.rec (fun q0=>Bool) e (fun q0=>e) (fun q0=>e) (fun q0 q0=>e) (fun q0=>e) k0 (fun q0=>e) (fun q0=>e) (fun q0=>e) (fun q0=>e) (fun q0 q0=>e) (fun q0 q0=>e) (fun q0 q0=>e) (fun q0=>e) (fun q0=>e) (fun q0=>e) e (fun q0=>e) (fun q0 q0=>e) (fun q0 q0=>e) (fun q0 q0=>e) (fun q0 q0=>e) (fun a g=>k a g) o
theorem rB{o:GO}{k0 e:Bool}{k:Nat->GV->Bool}(h:yZ o k0 k e=true):(o=.d0/\k0=true)∨(∃a g,o=.dk a g/\k a g=true)∨e=true:=by
 cases o <;> first | exact .inr (.inr h) | exact .inl ⟨rfl,h⟩ | exact .inr (.inl ⟨_,_,rfl,h⟩)
def iU(cs:Nat)(H:Tr)(i:Nat)(b:Bool):Bool:=kF (H.get i) (fun l=>@List.rec GV (fun q0=>Bool) false (fun g r q0=>ow g fun t=>@List.rec GV (fun q0=>Bool) false (fun g r2 q0=>eG g fun z=>@List.rec GV (fun q0=>Bool) false (fun g r3 q0=>bU g fun j=>kF (H.get j) (fun l2=>jI l2&&(jI r3&&(Nat.beq t cs&&(cV z (.ofNat 1)&&b)))) fun q0=>false) r2) r) l) fun q0=>false
theorem wN{l:List GV}(h:jI l=true):l=[]:=by cases l <;> first | rfl | cases h
theorem nW{cs:Nat}(hcs:x.T[cs]?=some (Str.ofString "cell")){i:Nat}{b:Bool}{a:Addr}(h:iU cs H i b=true)(S:St x J H nx R O L m s)(ha:J.as[i]?=some a):b=true/\IsCell s.heap a:=by
 rcases eL h with ⟨l,hl,h1⟩ | ⟨_,_,h1⟩
 rotate_left
 ·cases h1
 obtain ⟨us,ht,iu⟩:=(S.tup ha hl)
 cases l with
 | nil=>cases h1
 | cons g1 l=>
 obtain ⟨t,rfl,h2⟩:=gU h1
 cases l with
 | nil=>cases h2
 | cons g2 l=>
 obtain ⟨z,rfl,h3⟩:=cM h2
 cases l with
 | nil=>cases h3
 | cons g3 l=>
 obtain ⟨j,rfl,h4⟩:=bn h3
 rcases eL h4 with ⟨l2,hl2,h5⟩ | ⟨_,_,h5⟩
 rotate_left
 ·cases h5
 simp only [Bool.and_eq_true] at h5
 symm
 obtain ⟨q1,q2,q3,q4,q5⟩:=h5
 have:=wN q1
 subst this
 have:=wN q2
 subst this
 have:=Nat.eq_of_beq_eq_true q3
 subst this
 have:=eq_of_beq (cv q4)
 subst this
 obtain ⟨q0,q0,rfl,i1,iu⟩:=fA iu
 obtain ⟨q0,q0,rfl,i2,iu⟩:=fA iu
 obtain ⟨q0,q0,rfl,i3,iu⟩:=fA iu
 obtain rfl:=nJ iu
 obtain ⟨q0,tk,rfl,hs⟩:=i1
 rw [hcs] at hs
 cases hs
 obtain ⟨tk2,rfl,zh⟩:=i2
 obtain ⟨q0,rfl,hj⟩:=i3
 obtain ⟨us2,ht2,iu2⟩:=(S.tup hj hl2)
 cases iu2
 obtain ⟨o,o1,o2,n,o3⟩:=ht
 obtain ⟨p,p1,p2,n2,p3⟩:=ht2
 symm
 exact ⟨q5,_,o,n,_,_,p,n2,o1,o2,o3,p1,p2,p3⟩
theorem Ev{i:Nat}{ad:Addr}(S:St x J H nx R O L m s)(ha:J.as[i]?=some ad){o:GO}(ho:H.get i=o)(cs:Nat)(hcs:x.T[cs]?=some (Str.ofString "cell")):(o=.d0->s.heap.DictOfH (fY x.prog x.w) ad [])/\∀k g,o=.dk k g->iU cs H k true=true->∃a v,J.as[k]?=some a/\Is x.T J g v/\s.heap.DictOfH (fY x.prog x.w) ad [((),a,v)]:=by
 obtain ⟨ob,o1,q0,q0,o2⟩:=(S.led.obj ha)
 rw [ho] at o2
 constructor
 ·rintro rfl
  obtain ⟨a1,a2⟩:=o2
  obtain ⟨es,ep,b1,b2,b3,b4,b5⟩:=a1
  cases b4':es.toList with
  | nil=>exact ⟨ob,es,ep,o1,b1,b2,by rw [b4']; rfl,fun x hx=>by simp at hx,List.nodup_nil⟩
  | cons e r=>rw [b4'] at b4; cases b4
 ·rintro k g rfl hc
  obtain ⟨a,v,hs,ep,a1,a2,a3,a4,a5⟩:=o2
  obtain ⟨q0,c⟩:=(nW hcs hc S a1)
  exact ⟨a,v,a1,a2,ob,_,ep,o1,a3,a4,by subst a5; rfl,fun x hx=>by simp at hx; subst hx; exact c,by simp⟩
theorem Eg{i k:Nat}{ad a:Addr}{g:GV}{v:Value}(hk:J.as[k]?=some a)(iv:Is x.T J g v){h:Heap}(hD:h.DictOfH (fY x.prog x.w) ad [((),a,v)]):∃o,h.get? ad=some o/\aL x.T x.CT x.nd (x.prog,x.w) J (.dk k g) o:=by
 symm
 obtain ⟨o,es,ep,h1,h2,h3,h4,q0,q0⟩:=hD
 symm
 have:es = #[entryOfKey (fY x.prog x.w) ((),a,v)]:=by
  apply Array.toList_inj.mp
  rw [h4]; rfl
 subst this
 exact ⟨o,h1,.dk hk iv h2 h3 rfl⟩
end
end
section
open PySem.SeqAt (EqAt RcAt)
open PySem.SeqAt hiding EqAt RcAt
section
variable {x:aQ} {d:Nat} {vs:aq} {J J':az} {H:Tr} {nx:Nat} {R:Rn} {O g g':Heap} {L L':Addr} {m m':Str->Option Value} {s:Shared} {A A₀:Around} {E:Value->Shared->Prop} {env:Env} {loc:List GV}
def mZ(cs:Nat)(i:Nat):ce:=fun gs H nx R k=>@List.rec GV (fun q0=>Bool) false (fun g r q0=>bU g fun p=>ju r fun dv=>eD dv (iU cs H p (yZ (H.get i) (k dv H nx R) (fun q g=>iU cs H q (eD g (k g H nx R))) false))) gs
theorem oK(hM:iW x){cs:Nat}(hcs:x.T[cs]?=some (Str.ofString "cell")):oB x d "dict.get" (mZ cs):=by
 intro i gs H nx R k h A O L m J s a us Q E Hh S ha iu hQ
 cases iu with
 | nil=>cases h
 | @cons g0 v0 r us i0 ir=>
 symm
 obtain ⟨p,rfl,h1⟩:=bn h
 obtain ⟨dv,rfl,h2⟩:=fF h1
 obtain ⟨q0,h3⟩:=cP h2
 obtain ⟨pa,rfl,hp⟩:=i0
 obtain ⟨h4,hkey⟩:=(nW hcs h3 S hp)
 obtain ⟨dval,q0,rfl,id,ir⟩:=fA ir
 obtain rfl:=nJ ir
 have nm:=qL hM Hh (S.led.obj ha).choose_spec.2.2.1
 have room:(fY x.prog x.w).room A.in1:=by have:=Hh.units; show A.units+1+2<_; lia
 obtain ⟨D1,D2⟩:=(Ev S ha (o:=H.get i) rfl cs hcs)
 symm
 rcases rB h4 with ⟨e,h5⟩ | ⟨q,g,e,h5⟩ | h5
 ·have hD:=D1 e
  exact call_meetsIn PySem.F.slot_dict_get hD.typeIs PySem.F.entry_dict_get (PySem.F.args_dict_get_3 _ _ _) (meetsH_dict_get_default (fY x.prog x.w) a pa nm dval) ⟨room,(),[],hkey,hD,hQ J H nx R _ _ _ (.refl _) (S.toks _) id h5⟩
 ·obtain ⟨h6,q0⟩:=(ite_cell h5)
  symm
  obtain ⟨a',v,b1,b2,hD⟩:=(D2 q g e (cell_true h5))
  obtain ⟨q0,h7⟩:=cP h6
  symm
  exact call_meetsIn PySem.F.slot_dict_get hD.typeIs PySem.F.entry_dict_get (PySem.F.args_dict_get_3 _ _ _) (meetsH_dict_get_default (fY x.prog x.w) a pa nm dval) ⟨room,(),_,hkey,hD,hQ J H nx R _ _ _ (.refl _) (S.toks _) b2 h7⟩
 ·cases h5
where
 cell_true {cs i:Nat} {H:Tr} {b:Bool} (h:iU cs H i b=true):iU cs H i true=true:=by
  rcases eL h with ⟨l,hl,h1⟩ | ⟨_,_,h1⟩
  rotate_left
  ·cases h1
  cases l with
  | nil=>cases h1
  | cons g1 l=>
  obtain ⟨t,rfl,h2⟩:=gU h1
  cases l with
  | nil=>cases h2
  | cons g2 l=>
  obtain ⟨z,rfl,h3⟩:=cM h2
  cases l with
  | nil=>cases h3
  | cons g3 l=>
  obtain ⟨j,rfl,h4⟩:=bn h3
  rcases eL h4 with ⟨l2,hl2,h5⟩ | ⟨_,_,h5⟩
  rotate_left
  ·cases h5
  simp only [Bool.and_eq_true] at h5
  symm
  obtain ⟨q1,q2,q3,q4,q5⟩:=h5
  symm
  unfold iU
  rw [hl]
  show (kF (H.get j) (fun l2=>jI l2&&(jI l&&(Nat.beq t cs&&(cV z (.ofNat 1)&&true)))) fun q0=>false)=true
  rw [hl2]
  show (jI l2&&(jI l&&(Nat.beq t cs&&(cV z (.ofNat 1)&&true))))=true
  rw [q1,q2,q3,q4]; rfl
 ite_cell {cs i:Nat} {H:Tr} {b:Bool} (h:iU cs H i b=true):b=true/\True:=by
  rcases eL h with ⟨l,hl,h1⟩ | ⟨_,_,h1⟩
  rotate_left
  ·cases h1
  cases l with
  | nil=>cases h1
  | cons g1 l=>
  obtain ⟨t,rfl,h2⟩:=gU h1
  cases l with
  | nil=>cases h2
  | cons g2 l=>
  obtain ⟨z,rfl,h3⟩:=cM h2
  cases l with
  | nil=>cases h3
  | cons g3 l=>
  obtain ⟨j,rfl,h4⟩:=bn h3
  rcases eL h4 with ⟨l2,hl2,h5⟩ | ⟨_,_,h5⟩
  rotate_left
  ·cases h5
  simp only [Bool.and_eq_true] at h5
  exact ⟨h5.2.2.2.2,trivial⟩
def N8(op:Nat->ce)(f:EV)(l:LV):EV:=fun H nx R loc k=>f H nx R loc fun g H nx R=>bU g fun i=>yZ (H.get i) (l H nx R loc fun gs H nx R=>op i gs H nx R k) (fun q q0=>l H nx R loc fun gs H nx R=>op i gs H nx R k) false
theorem zn(hM:iW x){cs:Nat}(hcs:x.T[cs]?=some (Str.ofString "cell")){f:EV}{o:Expr}{l:LV}{es:List Expr}(hf:aK x d vs f o)(hl:eg x d vs l es)
  (hc:je o=true) (hp:bx es=true) {apos pos:Pos} (hline:(apos.endLine == pos.line)=true) (hn:es.length<30):aK x d vs (N8 (mZ cs) f l) (.Call (.Attribute o "get" apos) es [] pos):=by
 intro H nx R loc k h A env O L m J s Q E Hh En S Lo hQ
 refine ff hc hp hline hn (hf H nx R loc _ h A env O L m J s _ E Hh En S Lo fun J1 H1 nx1 R1 s1 g v1 le1 S1 i1 h1 pl=>?_)
 symm
 obtain ⟨i,rfl,h2⟩:=bn h1
 obtain ⟨a,rfl,ha⟩:=i1
 obtain ⟨o,o1,q0,q0,o2⟩:=(S1.led.obj ha)
 symm
 have fin:l H1 nx1 R1 loc (fun gs H nx R=>mZ cs i gs H nx R k)=true->wpAny (model x.prog x.w) A (callWith pos (.builtin "dict.get") [.ref a] (backTo pos (starEach es env)) []) Q E s1:=fun h3=>
  fw hl hp h3 Hh En S1 (Lo.more le1) fun J' H nx R s gs us le S' iu hk'=>oK hM hcs i gs H nx R k hk' A O L m J' s _ us Q E Hh S' (aF le.1 ha) iu (hQ.le (le1.trans le))
 have go:o.ExactDict->l H1 nx1 R1 loc (fun gs H nx R=>mZ cs i gs H nx R k)=true->wpAny (model x.prog x.w) A (getMethod (.ref a) "get" pl) (fun fx s₂=>wpAny (model x.prog x.w) A (callWith pos fx.1 fx.2 (backTo pos (starEach es env)) []) Q E s₂) E s1:=fun hx h3=>
  getMethod_builtin ⟨o,o1,hx.1⟩ PySem.F.plainAttrs_dict PySem.F.slot_dict_get PySem.F.type_dict_get (fun b e=>by cases e; exact ⟨o,o1,hx.2.1⟩) (fin h3)
 rcases rB h2 with ⟨e,h3⟩ | ⟨q,g,e,h3⟩ | h3
 ·rw [e] at o2
  obtain ⟨a1,a2⟩:=o2
  obtain ⟨q0,q0,hx,q0⟩:=a1; exact go hx h3
 ·rw [e] at o2
  symm
  obtain ⟨q0,q0,q0,q0,a1,a2,a3,a4,a5⟩:=o2
  symm
  exact go a3 h3
 ·cases h3
def E4(cs:Nat)(f i:EV):AV:=fun g H nx R loc k=>f H nx R loc fun o H nx R=>i H nx R loc fun j H nx R=>eD g (bU o fun d=>bU j fun p=>iU cs H p (yZ (H.get d) (H.set 24 d (.dk p g) fun H=>k H nx R loc) (fun q q0=>iU cs H q (H.set 24 d (.dk q g) fun H=>k H nx R loc)) false))
theorem CD{cs:Nat}(hcs:x.T[cs]?=some (Str.ofString "cell")){f i:EV}{o j:Expr}(hf:aK x d vs f o)(hi:aK x d vs i j)(pos:Pos):dP x d vs (E4 cs f i) (.Subscript o j pos):=by
 intro g H nx R loc k h A env O L m J s v Q E Hh En S Lo iv hQ
 refine kas_sub (hf H nx R loc _ h A env O L m J s _ E Hh En S Lo fun J1 H1 nx1 R1 s1 o v1 le1 S1 i1 h1=>?_)
 refine hi H1 nx1 R1 loc _ h1 A env O L m J1 s1 _ E Hh En S1 (Lo.more le1) fun J2 H2 nx2 R2 s2 j v2 le2 S2 i2 h2=>?_
 have iv:=iv.more (le1.trans le2)
 obtain ⟨q0,h3⟩:=cP h2
 obtain ⟨dd,rfl,h4⟩:=bn h3
 obtain ⟨p,rfl,h5⟩:=bn h4
 obtain ⟨a,rfl,ha⟩:=(i1.more le2).inv
 obtain ⟨pa,rfl,hp⟩:=i2
 obtain ⟨h6,hkey⟩:=(nW hcs h5 S2 hp)
 have room:(fY x.prog x.w).room A.in1:=by have:=Hh.units; show A.units+1+2<_; lia
 obtain ⟨D1,D2⟩:=(Ev S2 ha (o:=H2.get dd) rfl cs hcs)
 rcases rB h6 with ⟨e,h7⟩ | ⟨q,g0,e,h7⟩ | h7
 ·obtain ⟨H',hA,h8⟩:=Tr.set_ok _ _ _ _ _ h7
  refine wpAny_setItem_heap (k:=()) room hkey (D1 e) fun h' hD' hs'=>?_
  obtain ⟨o',ho',oi⟩:=(Eg (i:=dd) hp iv hD')
  exact hQ J2 H' nx2 R2 loc m _ (le1.trans le2) (S2.upd ha hs' ho' oi hA _) (Lo.more (le1.trans le2)) h8
 ·obtain ⟨h8,q0⟩:=(oK.ite_cell h7)
  obtain ⟨a',v',b1,b2,hD⟩:=(D2 q g0 e (oK.cell_true h7))
  obtain ⟨H',hA,h9⟩:=Tr.set_ok _ _ _ _ _ h8
  refine wpAny_setItem_heap (k:=()) room hkey hD fun h' hD' hs'=>?_
  obtain ⟨o',ho',oi⟩:=(Eg (i:=dd) b1 iv hD')
  exact hQ J2 H' nx2 R2 loc m _ (le1.trans le2) (S2.upd ha hs' ho' oi hA _) (Lo.more (le1.trans le2)) h9
 ·cases h7
theorem sG{prog:Program}{w:World}{R:Result->Shared->Prop}{l:Addr}{items:Array Value}{n:Nat}{v:Value}(hl:s.heap.get? l=some { cls:=.type "list",dict:=none,data:=.seq items n,slots:=#[] })(e:Nat->Bool)(j:Nat)(he:∀m y,items[m]?=some y->m<=j->EqAt A.in1 s y v (e m))(hj:j<items.size)(hit:e j=true)(hs1:items.size<=sizeLine)
  (hR:R (.ok (.ret .none)) { s with heap:=s.heap.update l (Obj.mapSeq fun xs=>xs.eraseIdxIfInBounds j) }) (k:Nat):∀i:Nat,j - i=k->i<=j->(∀m,i<=m->m<j->e m=false)->
  wpAny (model prog w) A.in1 (Builtin.«list.remove.loop» ⟨[.ref l,v,rawInt i],[]⟩) (fun fin s'=>match fin with | .done f=>R (.ok f) s' | .again c'=>c'.quiet=true/\codeAny (model prog w) A c' R s') (fun e s'=>R (.error e) s') s:=by
 induction k with
 | zero=>
  intro i hk hij hno
  obtain ⟨hp,g,d,tk,os⟩:=s
  have hij':i=j:=by lia
  subst hij'
  wp_walk using PySem.AutoSeq1.wpAny_loadPart' hl
  have hi:items[((i:Nat):Int).toNat]?=some items[i]:=by simp [hj]
  rw [hi]
  refine wpAny_bind (he i _ (by simp [hj]) (Nat.le_refl _) prog w _ _ ?_)
  rw [hit]
  have hz':(items.eraseIdxIfInBounds i).size<=sizeLine+1:=Nat.le_trans (MeetsSeq.size_erased items _) (Nat.le_succ_of_le hs1)
  wp_walk using (wpAny_updateSeq hl rfl (hz:=hs1) (_hz':=hz')),PySem.AutoSeq1.wpAny_loadPart' hl
  simpa using hR
 | succ k ih=>
  intro i hk hij hno
  have hlt:i<items.size:=by lia
  have ih:=ih (i+1) (by lia) (by lia) (fun m h1 h2=>hno m (by lia) h2)
  obtain ⟨hp,g,d,tk,os⟩:=s
  wp_walk using PySem.AutoSeq1.wpAny_loadPart' hl
  have hi:items[((i:Nat):Int).toNat]?=some items[i]:=by simp [hlt]
  have hc:((i:Int)+1)=((i+1:Nat):Int):=by push_cast; rfl
  rw [hi]
  refine wpAny_bind (he i _ (by simp [hlt]) hij prog w _ _ ?_)
  rw [hno i (Nat.le_refl _) (by lia)]
  wp_walk
  rw [hc]
  exact ⟨plainId_quiet MeetsSeq.plain_remove_loop _,codeAny_builtin MeetsSeq.entry_remove_loop (by
   rw [Around.under_plainId MeetsSeq.plain_remove_loop _]
   exact ih)⟩
def Qs(f:EQ)(l:List GV)(h:GV)(H:Tr):List GV->Rn->(List GV->Rn->Bool)->Bool:=@List.rec GV (fun q0=>List GV->Rn->(List GV->Rn->Bool)->Bool) (fun q0 q0 q0=>false)
 (fun y r ih pre R c=>f y h H R fun b R=>@Bool.rec (fun q0=>Bool) (ih (y::pre) R c) (c (nZ pre r) R) b) l
theorem Gk{n:Nat}{f:EQ}(hf:oH x n f){h:GV}{c:List GV->Rn->Bool}(l:List GV):∀(pre:List GV) (R:Rn),Qs f l h H pre R c=true->∀(us:List Value) (v:Value),St x J H nx R O L m s->be x.T J l us->Is x.T J h v->
  ∃(j:Nat) (R':Rn) (e:Nat->Bool),c (nZ pre (l.eraseIdx j)) R'=true/\dh R' J.ns/\j<us.length/\e j=true/\(∀m,m<j->e m=false)/\∀m u,us[m]?=some u->m<=j->∀A:Around,A.units+n<cLine->EqAt A s u v (e m):=by
 induction l with
 | nil=>
  intro pre R hh us v S iu iv
  cases hh
 | cons y l ih=>
  intro pre R hh us v S iu iv
  symm
  obtain ⟨u0,us,rfl,iu0,iur⟩:=fA iu
  obtain ⟨b,R1,h1,rn1,e1⟩:=(hf _ _ _ _ _ hh _ _ _ _ _ _ _ _ S iu0 iv)
  symm
  cases b with
  | true=>
   refine ⟨0,R1,fun q0=>true,h1,rn1,by simp,rfl,fun m hm=>by lia,fun m u q hm A hA=>?_⟩
   have:m=0:=by lia
   subst this
   simp at q; subst q
   exact e1 A hA
  | false=>
   symm
   obtain ⟨j,R2,e,h2,rn2,hj,e2,e3,e4⟩:=(ih (y::pre) R1 h1 us v (S.rn' rn1) iur iv)
   symm
   refine ⟨j+1,R2,fun m=>match m with | 0=>false | m+1=>e m,h2,rn2,by simpa using hj,e2,fun m hm=>?_,fun m u q hm A hA=>?_⟩
   ·cases m with
    | zero=>rfl
    | succ m=>exact e3 m (by lia)
   ·cases m with
    | zero=>simp at q; subst q; exact e1 A hA
    | succ m=>simp at q; exact e4 m u q (by lia) A hA
def Cn(i:Nat):ce:=fun gs H nx R k=>d9 (H.get i) fun l=>@Bool.rec (fun q0=>Bool) false (ju gs fun g=>Qs (wL 8) l g H [] R fun l' R=>jF i l' H fun H=>k .none H nx R) (fk 1000 l)
theorem be.erase{T:List Str}{J:az}{gs:List GV}{vs:List Value}(h:be T J gs vs):∀j,be T J (gs.eraseIdx j) (vs.eraseIdx j):=by
 induction h with
 | nil=>intro j; exact .nil
 | cons a r ih=>intro j; cases j with
  | zero=>exact r
  | succ j=>exact .cons a (ih j)
theorem wF(hT:x.T.Nodup):oB x d "list.remove" Cn:=by
 intro i gs H nx R k h A O L m J s a us Q E Hh S ha iu hQ
 symm
 obtain ⟨l,hl,h1⟩:=da h
 obtain ⟨hz,h2⟩:=aJ h1
 obtain ⟨g,rfl,h3⟩:=fF h2
 obtain ⟨v,us,rfl,ig,ir⟩:=fA iu
 obtain rfl:=nJ ir
 obtain ⟨os,hos,el,N⟩:=S.led.at_
 obtain ⟨vs,n,ho,hs,hm⟩:=(S.lst' ha hl hos el N)
 obtain ⟨j,R',e,h4,rn,hj,e1,e2,e3⟩:=(Gk (mM hT 8) l [] R h3 vs v S hs ig)
 obtain ⟨H',hA,h5⟩:=jv h4
 symm
 have hz:=cX hz
 rw [hs.length] at hz
 have hlo:=(N _ hm).1
 have lz:(List.toArray vs).size<=sizeLine:=by rw [sizeLine_eq,List.size_toArray]; lia
 refine wpAny_call (codeAny_call_builtin PySem.F.slot_list_remove.plain PySem.F.entry_list_remove (PySem.F.slot_list_remove.check _ _ _ _ _ _ _ _ ⟨_,hlo,rfl⟩ (PySem.F.args_list_remove_2 _ _) ?_))
 symm
 have upd:=Heap.get?_update_self (Obj.mapSeq fun xs=>xs.eraseIdxIfInBounds j) hlo rfl
 have S':=(S.rn' rn).upd (H':=H') (o':=listOf (vs.eraseIdx j).toArray (n+1)) (g:=.list (nZ [] (l.eraseIdx j))) ha (Heap.SameBut.update ..) (by
  rw [upd]
  congr 1
  show Obj.mk _ _ _ _=Obj.mk _ _ _ _
  have q:(vs.toArray.eraseIdxIfInBounds j)=(vs.eraseIdx j).toArray:=by apply Array.toList_inj.mp; simp [Array.toList_eraseIdxIfInBounds]
  congr 1
  simp only [q]
  have ne:¬ ((vs.eraseIdx j).toArray.size=vs.toArray.size):=by
   rw [List.size_toArray,List.size_toArray,List.length_eraseIdx,if_pos hj]; lia
  rw [show ∀(b:Bool) (h:b=false) (x y:Nat),(if b then x else y)=y from fun b h x y=>by rw [h]; rfl]
  simpa using ne) (.list (n+1) (hs.erase j)) hA s.toks
 have loop:=sG (prog:=x.prog) (w:=x.w) (A:=A) (v:=v) (R:=PySem.wants Q E) hlo e j (fun m y q hm=>e3 m y (by simpa using q) hm A.in1 (by have:=Hh.units; show A.units+1+8<_; lia)) (by rw [List.size_toArray]; exact hj) e1 lz (hQ J H' nx R' _ _ _ (.refl _) S' .none h5) j 0 rfl (Nat.zero_le _) (fun m q0 h2=>e2 m h2)
 obtain ⟨hp,g,dd,tk,os'⟩:=s
 symm
 wp_walk using PySem.AutoSeq1.wpAny_loadPart' hlo
 exact ⟨plainId_quiet MeetsSeq.plain_remove_loop _,codeAny_builtin MeetsSeq.entry_remove_loop (by
  rw [Around.under_plainId MeetsSeq.plain_remove_loop _]
  exact loop)⟩
end
end
section
section
variable {x:aQ} {d:Nat} {vs:aq} {J J':az} {H H':Tr} {nx:Nat} {R:Rn} {O g g' h':Heap} {L L':Addr} {m m':Str->Option Value} {s:Shared} {A A₀:Around} {E:Value->Shared->Prop} {env:Env} {loc:List GV}
theorem sF{prog:Program}{w:World}{e it l:Addr}{i:Nat}{items:Array Value}{old:Value}{Q:Option Value->Shared->Prop}(hh:A.handled=none)
  (he:IsEnum s.heap e it i old) (hit:s.heap.IsListIter it l i) (hl:s.heap.IsList l items) (hx:items[i]?=none)
  (hQ:∀h',Heap.ExtBut it s.heap h'->(∃o,h'.get? it=some o)->Q none { s with heap:=h' }):wpAny (model prog w) A (pyNext (.ref e)) Q E s:=by
 have hT:s.TypeIs (.ref e) "enumerate":=⟨_,he,rfl⟩
 unfold pyNext
 refine wpAny_bind (wpAny_attempt (wpAny_callSpecial?_slot (name:=Str.ofString "__next__") hT PySem.F.slot_enumerate_next
  (wpAny_call_entry PySem.F.slot_enumerate_next hT PySem.F.entry_enumerate_next ?_ (PySem.F.args_enumerate_next_1 _))))
 show wpAny _ _ (field (.ref e) 2 >>= _) _ _ _
 refine wpAny_bind (wpAny_field he rfl (x:=.ref it) rfl ?_)
 refine wpAny_bind ?_
 symm
 obtain ⟨o,ho,hc,hd⟩:=(id hit)
 obtain ⟨ol,hol,q0,nl,hdl⟩:=hl
 symm
 unfold Builtin.SmallTypes.nextOf
 refine wpAny_bind (wpAny_callSpecial?_slot (name:=Str.ofString "__next__") hit.typeIs slot_listiter_next
  (wpAny_call_entry slot_listiter_next hit.typeIs entry_listiter_next ?_ (args_listiter_next _)))
 show wpAny _ _ (field (.ref it) 0 >>= _) _ _ s
 refine wpAny_bind (wpAny_field ho hd (x:=.ref l) rfl ?_)
 show wpAny _ _ (if (Value.ref l == Value.none)=true then _ else _) _ _ s
 rw [if_neg (show ¬ ((Value.ref l == Value.none)=true) from Bool.false_ne_true)]
 show wpAny _ _ (field (.ref it) 1 >>= _) _ _ s
 refine wpAny_bind (wpAny_field ho hd (x:=.int i 0) rfl ?_)
 show wpAny _ _ (seqItems? (.ref l) >>= _) _ _ s
 refine wpAny_bind (wpAny_seqItems hol hdl ?_)
 simp only [Int.toNat_natCast,hx]
 refine wpAny_bind (wpAny_rule (wpAny_bind (wpAny_setField ho hd (by simp) ?_)))
 show wpAny _ _ (newExc (.type "StopIteration") [] >>= _) _ _ _
 refine wpAny_bind ?_
 simp only [newExc,newTuple]
 refine wpAny_bind (wpAny_newObj_type ?_ (by size_fits))
 refine wpAny_bind (m:=firstArgMember _ _) (wpAny_of_eq (a:=Value.none) (by first | rfl | (simp only [firstArgMember]; rfl)) ?_)
 refine wpAny_newObj_type ?_ (by size_fits)
 simp only [raiseNew]
 refine wpAny_bind (wpAny_handled ?_)
 first | rw [show A.in1.handled=none from hh] | rw [show A.in1.in1.handled=none from hh]
 refine wpAny_bind (wpAny_pure (wpAny_throw ?_))
 refine wpAny_bind (wpAny_isInstance (T:= "StopIteration") (b:=true) ⟨_,Heap.get?_push_size _ rfl,rfl⟩ isSubtype_stop ?_)
 exact wpAny_pure (hQ _ (((Heap.SameBut.update ..).extBut.push _).push _) (mO (Heap.get?_update_self _ ho (Obj.isFreed_of_fields (Obj.data_mapFields hd _)))))
theorem St.renew(S:St x J H nx R O L m s)(hk:∀k a,J.as[k]?=some a->∃o',h'.get? a=some o'/\aL x.T x.CT x.nd (x.prog,x.w) J (H'.get k) o')(F':Fr O L h' m)(tk:Nat):St x J H' nx R O L m { s with heap:=h',toks:=tk }:=by
 refine ⟨⟨S.led.nod,J.as.map fun a=>(h'.get? a).getD { cls:=.none,data:=.plain },fun k o hk'=>?_,by simp,fun p hp=>?_⟩,S.nx,F',S.gens,S.rn⟩
 ·obtain ⟨a,ha,rfl⟩:=(jp hk')
  obtain ⟨o',h1,h2⟩:=(hk k a ha)
  rw [h1]; exact h2
 ·obtain ⟨k,z1,z2⟩:=(k9 hp)
  symm
  obtain ⟨a,ha,e⟩:=(jp z2)
  rw [z1] at ha
  have ha:=Option.some.inj ha
  subst ha
  obtain ⟨o',h1,h2⟩:=(hk k _ z1)
  rw [h1] at e
  obtain ⟨q0,q0,n1,n2,q0⟩:=(S.led.obj z1)
  symm
  exact ⟨by rw [h1]; exact congrArg some e,n1,n2⟩
def Ba(o:GO)(k:Nat->Nat->Bool):Bool:=@GO.rec (fun q0=>Bool) false (fun q0=>false) (fun q0=>false) (fun q0 q0=>false) (fun q0=>false) false (fun q0=>false) (fun q0=>false) (fun q0=>false) (fun q0=>false) (fun q0 q0=>false) (fun q0 q0=>false) (fun q0 q0=>false) (fun q0=>false) (fun q0=>false) (fun q0=>false) false (fun q0=>false) (fun q0 q0=>false) (fun q0 q0=>false) (fun a i=>k a i) (fun q0 q0=>false) (fun q0 q0=>false) o
theorem zi{o:GO}{k:Nat->Nat->Bool}(h:Ba o k=true):∃a i,o=.enum a i/\k a i=true:=by cases o <;> first | (cases h; done) | exact ⟨_,_,rfl,h⟩
def LG(a:AV)(b r:SV)(en:Nat)(k:KS)(n:Nat):Tr->Nat->Rn->List GV->Bool:=@Nat.rec (fun q0=>Tr->Nat->Rn->List GV->Bool) (fun q0 q0 q0 q0=>false)
 (fun q0 ih H nx R loc=>Ba (H.get en) fun it i=>kP (H.get it) (fun j i'=>d9 (H.get j) fun l=>yj (ba l i) (yz it H (fun H=>r H nx R loc k) (Nat.ble (cQ l) i&&Nat.beq i i'))
  (@Bool.rec (fun q0=>Bool) false (fN (Nat.succ i) fun i2=>H.set 24 it (.liter j i2) fun H=>H.set 24 en (.enum it i2) fun H=>H.set 24 nx (.tuple [.int (.lit (.ofNat i)),ba l i]) fun H=>fN (Nat.succ nx) fun n1=>a (.own nx) H n1 R loc fun H nx R loc=>b H nx R loc fun gf H nx R loc=>oS gf H nx R loc ih r k) (Nat.beq i i')))
  (fun q0 q0=>false)) n
def Fm(a:AV)(f:EV)(b r:SV):SV:=fun H nx R loc k=>f H nx R loc fun g H nx R=>bU g fun j=>d9 (H.get j) fun q0=>H.set 24 nx (.liter j 0) fun H=>fN (Nat.succ nx) fun n1=>H.set 24 n1 (.enum nx 0) fun H=>fN (Nat.succ n1) fun n2=>LG a b r n1 k 16 H n2 R loc
theorem Dv{a:AV}{f:EV}{b r:SV}{ts:List Expr}{e:Expr}{bs rest:List Stmt}{i0 a0:Nat}{t0:Str}(hv:vs[i0]?=some (a0,.glo))(ht:x.T[a0]?=some t0)(hm:bp x t0 (.type "enumerate")){kd:Nat}{tp:Pos}(ha:dP x d vs a (.Tuple ts kd tp))(hf:aK x d vs f e)(hs:bZ e=true)(hb:au x d vs b bs)(hr:au x d vs r rest)(p cp pos:Pos) :
  au x d vs (Fm a f b r) (.For (.Tuple ts kd tp) (.Call (.Name t0 p) [e] [] cp) bs [] pos::rest):=by
 intro H nx R loc k h A env O L m J s Q E Hh En S Lo hQ
 revert hv ht hm ha hf hs hb hr h Hh En S Lo hQ
 revert a f b r ts e bs rest i0 a0 t0 kd tp p cp pos
 revert x d vs H nx R loc k A env O L m J s Q E
 refine @pD _ _ _ _ ?_
 generalize (dk _ _).x=x,(dk _ _).d=d,(dk _ _).vs=vs,(dk _ _).H=H,(dk _ _).nx=nx,(dk _ _).R=R,(dk _ _).loc=loc,(dk _ _).k=k,(dk _ _).A=A,(dk _ _).env=env,(dk _ _).O=O,(dk _ _).L=L,(dk _ _).m=m,(dk _ _).J=J,(dk _ _).s=s,(dk _ _).Q=Q,(dk _ _).E=E
 intro a f b r ts e bs rest i0 a0 t0 kd tp p cp pos
 intro hv ht hm ha hf hs hb hr h Hh En S Lo hQ
 refine ec hr Hh En hQ (wpAny_For (Call_Name rfl (iJ hv ht hm Hh En S Lo ?_ p)) (fun y=>gd rfl _ y))
 have hl:eg x d vs (af f aj) [e]:=gK hf lc hs
 have hp:bx [e]=true:=by unfold bx; rw [List.all_cons,hs]; rfl
 refine nD (kl:=fun gs H nx R=>ju gs fun g=>bU g fun j=>d9 (H.get j) fun q0=>H.set 24 nx (.liter j 0) fun H=>fN (Nat.succ nx) fun n1=>H.set 24 n1 (.enum nx 0) fun H=>fN (Nat.succ n1) fun n2=>LG a b r n1 k 16 H n2 R loc) hl hp h Hh En S Lo fun J1 H1 nx1 R1 s1 gs us le1 S1 iu h1=>?_
 symm
 obtain ⟨g,rfl,h1⟩:=fF h1
 cases iu with
 | @cons _ v _ us iv ir=>
 cases ir
 obtain ⟨j,rfl,h2⟩:=bn h1
 obtain ⟨l,hl,h3⟩:=da h2
 obtain ⟨H2,a1,h4⟩:=Tr.set_ok _ _ _ _ _ h3
 rw [bO] at h4
 obtain ⟨H3,a2,h5⟩:=Tr.set_ok _ _ _ _ _ h4
 rw [bO] at h5
 obtain ⟨la,rfl,hj⟩:=iv
 obtain ⟨us0,lu,iu0⟩:=(S1.lst hj hl)
 symm
 refine call_enumerate_list lu fun h' he hit hsz hk=>?_
 refine wpAny_pyIter_enum he ?_
 symm
 obtain ⟨os,hos,el,N⟩:=S1.led.at_
 have lts:∀q∈J1.as.zip os,q.1<s1.heap.objs.size:=fun q hq=>Heap.lt_size (N q hq).1
 have F1:Fr O L h' m:=⟨let ⟨o,es,ep,z,r⟩:=S1.fr.ns; ⟨o,es,ep,hk _ _ z,r⟩,fun b o e=>hk b o (S1.fr.keep b o e),S1.fr.above⟩
 have out:∀b:Addr,s1.heap.objs.size<=b->b≠L/\O.get? b=none:=fun b hb=>by
  have hL:=S1.fr.ns.lt
  have hab:=S1.fr.above
  refine ⟨fun q=>?_,Heap.get?_none_of_le ?_⟩
  ·rw [q] at hb; exact Nat.lt_irrefl _ (Nat.lt_of_lt_of_le hL hb)
  ·exact Nat.le_trans hab (Nat.le_trans (Nat.le_of_lt hL) hb)
 obtain ⟨oi,oi1,oi2,oi3⟩:=hit
 have S2:St x (J1.push s1.heap.objs.size) H2 (nx1+1) R1 O L m { s1 with heap:=h' }:=S1.made' hos el F1 (fun q hq=>by
  rcases List.mem_cons.mp hq with rfl | hq
  ·exact ⟨oi1,out _ (Nat.le_refl _)⟩
  ·have:=N q hq; exact ⟨hk _ _ this.1,this.2⟩) lts (.liter (aF (az.le_push _ _).1 hj) oi2 oi3) a1
 obtain ⟨os2,hos2,el2,N2⟩:=S2.led.at_
 symm
 have S3:St x ((J1.push s1.heap.objs.size).push (s1.heap.objs.size+1)) H3 (nx1+1+1) R1 O L m { s1 with heap:=h' }:=S2.made' hos2 el2 F1 (fun q hq=>by
  rcases List.mem_cons.mp hq with rfl | hq
  ·exact ⟨he,out _ (Nat.le_succ _)⟩
  ·exact N2 q hq) (fun q hq=>by
   have:=(List.of_mem_zip (a:=q.1) (b:=q.2) hq).1
   rcases List.mem_append.mp this with z | z
   ·obtain ⟨kk,hkk⟩:=(List.mem_iff_getElem?.mp z)
    have:=lts _ (cn hkk (List.getElem?_eq_getElem (el▸aN hkk)))
    exact Nat.lt_succ_of_lt this
   ·rw [List.mem_singleton.mp z]; exact Nat.lt_succ_self _) (.enum .none (aF (az.le_push _ _).1 (by rw [<- S1.nx]; exact eE J1 _))) a2
 have le3:J1.le ((J1.push s1.heap.objs.size).push (s1.heap.objs.size+1)):=(az.le_push _ _).trans (az.le_push _ _)
 have hen:((J1.push s1.heap.objs.size).push (s1.heap.objs.size+1)).as[nx1+1]?=some (s1.heap.objs.size+1):=by have:=eE (J1.push s1.heap.objs.size) (s1.heap.objs.size+1); rw [S2.nx] at this; exact this
 generalize hJ3:(J1.push s1.heap.objs.size).push (s1.heap.objs.size+1)=J3 at S3 le3 hen
 generalize hea:s1.heap.objs.size+1=ea at hen he
 refine codeAny_forLoop_any (fun n=>qi x vs env O L J3 (LG a b r (nx1+1) k n)) (fun n s4 hI=>?_) 16 (ef (.refl _) S3 (Lo.more (le1.trans le3)) h5)
 symm
 obtain ⟨J4,H4,nx4,R4,loc4,m4,le4,S4,Lo4,h6⟩:=hI
 symm
 have le:=(le1.trans le3).trans le4
 cases n with
 | zero=>cases h6
 | succ n=>
  symm
  obtain ⟨it,i,e1,h7⟩:=zi h6
  have hen4:J4.as[nx1+1]?=some ea:=aF le4.1 hen
  obtain ⟨oe,oe1,oe2,oe3,oe4⟩:=(S4.led.obj hen4)
  rw [e1] at oe4
  obtain ⟨ita,old,rfl,hit⟩:=oe4
  obtain ⟨ot,ot1,ot2,ot3,ot4⟩:=(S4.led.obj hit)
  symm
  rcases jd h7 with ⟨j4,i',e2,h8⟩ | ⟨_,_,_,h8⟩
  rotate_left
  ·cases h8
  rw [e2] at ot4
  symm
  obtain ⟨la4,hj4,hc,hd⟩:=ot4
  obtain ⟨l4,hl4,h9⟩:=da h8
  obtain ⟨us4,lu4,iu4⟩:=(S4.lst hj4 hl4)
  symm
  rcases uF h9 with ⟨q,h10⟩ | ⟨q,h10⟩
  ·obtain ⟨c,h11⟩:=aJ h10
   symm
   obtain ⟨c1,c2⟩:=Bool.and_eq_true_iff.mp c
   have c1:=Nat.le_of_ble_eq_true c1
   have c2:=Nat.eq_of_beq_eq_true c2
   subst c2
   rw [cU,iu4.length] at c1
   obtain ⟨H5,hA,h12⟩:=Tr.set_ok _ _ _ _ _ h11
   symm
   refine sF Hh.hnd (i:=i) oe1 ⟨ot,ot1,hc,hd⟩ lu4 (by simp; lia) fun h5 he5 ho5=>?_
   exact wpAny_execs_nil (ef le (S4.drop hit he5 ho5 hA s4.toks) Lo4 h12)
  ·obtain ⟨c2,h11⟩:=aJ h10
   symm
   have c2:=Nat.eq_of_beq_eq_true c2
   subst c2
   rw [bO] at h11
   obtain ⟨H5,b1,h12⟩:=Tr.set_ok _ _ _ _ _ h11
   obtain ⟨H6,b2,h13⟩:=Tr.set_ok _ _ _ _ _ h12
   obtain ⟨H7,b3,h14⟩:=Tr.set_ok _ _ _ _ _ h13
   rw [bO] at h14
   obtain ⟨v,v1,v2⟩:=(iu4.get (kR q))
   symm
   have nit:it≠nx1+1:=fun z=>by rw [z,e1] at e2; cases e2
   have nea:ea≠ita:=fun z=>by
    rw [<- z] at hit
    exact nit ((List.getElem?_inj (aN hit) S4.led.nod).mp (hit.trans hen4.symm))
   refine wpAny_pyNext_enum_item oe1 ⟨ot,ot1,hc,hd⟩ lu4 (by simpa using v1) nea fun h1 g1 g2 g3 g4 g5=>?_
   refine wpAny_letOwnedTupleGo_enum g1 fun h2 f1 f2=>?_
   symm
   have f2:Heap.SameBut ea h1 h2:=f2
   have lte:ea<s4.heap.objs.size:=Heap.lt_size oe1
   have keep:∀b o,b≠ea->b≠ita->s4.heap.get? b=some o->h2.get? b=some o:=fun b o n1 n2 z=>(f2.2 b n1).trans (g5 b o n1 n2 z)
   have F2:Fr O L h2 m4:=⟨let ⟨o,es,ep,z,r⟩:=S4.fr.ns; ⟨o,es,ep,keep _ _ (Ne.symm oe2) (Ne.symm ot2) z,r⟩,fun b o z=>keep b o (fun w=>by rw [w,oe3] at z; cases z) (fun w=>by rw [w,ot3] at z; cases z) (S4.fr.keep b o z),S4.fr.above⟩
   obtain ⟨ot',p1,p2,p3⟩:=g2
   have cast:((i:Int)+1)=((i+1:Nat):Int):=by push_cast; rfl
   have S5:St x J4 H6 nx4 R4 O L m4 { s4 with heap:=h2,toks:=s4.toks+1 }:=S4.renew (fun kk aa hkk=>by
    rw [b2,b1]
    by_cases z1:kk=nx1+1
    ·subst z1
     rw [hen4] at hkk; cases hkk
     rw [if_pos rfl]
     refine ⟨_,f1,?_⟩
     rw [cast]
     exact .enum v hit
    ·rw [if_neg z1]
     by_cases z2:kk=it
     ·subst z2
      rw [hit] at hkk; cases hkk
      rw [if_pos rfl]
      exact ⟨ot',(f2.2 _ (Ne.symm nea)).trans p1,.liter hj4 p2 p3⟩
     ·rw [if_neg z2]
      obtain ⟨o,w1,q0,q0,w2⟩:=(S4.led.obj hkk)
      refine ⟨o,keep _ _ (fun w=>?_) (fun w=>?_) w1,w2⟩
      ·rw [w] at hkk; exact z1 ((List.getElem?_inj (aN hkk) S4.led.nod).mp (hkk.trans hen4.symm))
      ·rw [w] at hkk; exact z2 ((List.getElem?_inj (aN hkk) S4.led.nod).mp (hkk.trans hit.symm))) F2 (s4.toks+1)
   obtain ⟨os5,hos5,el5,N5⟩:=S5.led.at_
   symm
   have lt5:∀q∈J4.as.zip os5,q.1<s4.heap.objs.size:=fun q hq=>by
    have:=(List.of_mem_zip (a:=q.1) (b:=q.2) hq).1
    obtain ⟨kk,hkk⟩:=(List.mem_iff_getElem?.mp this)
    obtain ⟨o,w1,q0⟩:=(S4.led.obj hkk)
    exact Heap.lt_size w1
   have out4:s4.heap.objs.size≠L/\O.get? s4.heap.objs.size=none:=by
    have hL:=S4.fr.ns.lt
    have hab:=S4.fr.above
    refine ⟨fun q=>?_,Heap.get?_none_of_le ?_⟩
    ·rw [<- q] at hL; exact Nat.lt_irrefl _ hL
    ·exact Nat.le_trans hab (Nat.le_of_lt hL)
   have le6:=az.le_push J4 s4.heap.objs.size
   have S6:St x (J4.push s4.heap.objs.size) H7 (nx4+1) R4 O L m4 { s4 with heap:=h2,toks:=s4.toks+1 }:=S5.made' hos5 el5 S5.fr (fun q hq=>by
    rcases List.mem_cons.mp hq with rfl | hq
    ·exact ⟨(f2.2 _ (Nat.ne_of_gt lte)).trans g3,out4⟩
    ·exact N5 q hq) lt5 (.tuple (vs:=[.int i s4.toks,v]) (.cons (.int (e:=.lit (.ofNat i)) _ trivial) (.cons (v2.more le6) .nil))) b3
   have it6:Is x.T (J4.push s4.heap.objs.size) (.own nx4) (.ref s4.heap.objs.size):=.own (by rw [<- S5.nx]; exact eE J4 _)
   refine ha (.own nx4) H7 _ R4 loc4 _ h14 A env O L m4 _ _ _ _ _ Hh En S6 (Lo4.more le6) it6 fun J8 H8 nx8 R8 loc8 m8 s8 le8 S8 Lo8 h15=>?_
   refine hb H8 nx8 R8 loc8 _ h15 A env O L m8 J8 s8 _ _ Hh En S8 Lo8 fun J9 H9 nx9 R9 loc9 m9 s9 gf fl le9 S9 Lo9 hfl hk9=>?_
   have le':=le6.trans (le8.trans le9)
   cases hfl with
   | next=>exact ⟨n,Nat.lt_succ_self n,ef (le4.trans le') S9 Lo9 hk9⟩
   | cont=>exact ⟨n,Nat.lt_succ_self n,ef (le4.trans le') S9 Lo9 hk9⟩
   | brk=>exact ef (le.trans le') S9 Lo9 hk9
   | ret i=>exact hQ J9 H9 nx9 R9 loc9 m9 s9 (.ret _) _ (le.trans le') S9 Lo9 (.ret i) hk9
end
end
section
noncomputable abbrev aQ.more(x:aQ)(E:Frag):aQ:={ x with K:=x.K++E }
theorem gY{l r:Frag}{a:Addr}:(l++r:Frag).lookup a=match l.lookup a with | some o=>some o | none=>r.lookup a:=by
 induction l with
 | nil=>rfl
 | cons p l ih=>
  show List.lookup a (p::(l++r))=_
  rw [List.lookup_cons,List.lookup_cons]
  cases a == p.1 with
  | true=>rfl
  | false=>exact ih
theorem ma:∀{as:List Addr} {os:List Obj} {k:Nat} {a:Addr} {o:Obj},as.Nodup->as[k]?=some a->os[k]?=some o->(as.zip os:Frag).lookup a=some o
 | [],_,_,_,_,_,h,_=>by simp at h
 | _::_,[],_,_,_,_,_,h=>by simp at h
 | b::as,p::os,0,a,o,nd,h1,h2=>by
  simp only [List.getElem?_cons_zero,Option.some.injEq] at h1 h2
  subst h1 h2
  show List.lookup b ((b,p)::as.zip os)=_
  rw [List.lookup_cons,beq_self_eq_true]
 | b::as,p::os,k+1,a,o,nd,h1,h2=>by
  simp only [List.getElem?_cons_succ] at h1 h2
  obtain ⟨n1,n2⟩:=(List.nodup_cons.mp nd)
  have ne:(a == b)=false:=by
   rw [beq_eq_false_iff_ne]
   intro e
   rw [e] at h1
   exact n1 (List.mem_of_getElem? h1)
  show List.lookup a ((b,p)::as.zip os)=_
  rw [List.lookup_cons,ne]
  exact ma n2 h1 h2
theorem iF:∀{as:List Addr} {os:List Obj} {a:Addr} {o:Obj},(as.zip os:Frag).lookup a=some o->(a,o)∈as.zip os
 | [],_,_,_,h=>by cases h
 | _::_,[],_,_,h=>by cases h
 | b::as,p::os,a,o,h=>by
  have e:List.lookup a ((b,p)::as.zip os)=(match a == b with | true=>some p | false=>List.lookup a (as.zip os)):=List.lookup_cons
  have h2:(match a == b with | true=>some p | false=>List.lookup a (as.zip os))=some o:=e.symm.trans h
  cases q:a == b with
  | true=>
   rw [q] at h2
   have h2:some p=some o:=h2
   cases h2
   have:a=b:=by simpa using q
   rw [this]
   exact .head _
  | false=>rw [q] at h2; exact .tail _ (iF h2)
def sS(x:aQ)(E:Frag)(J:az)(H:Tr):Prop:=∀k a,J.as[k]?=some a->∃o,(x.more E).K.lookup a=some o/\aL x.T x.CT x.nd (x.prog,x.w) J (H.get k) o
def MF(x:aQ)(d:Nat)(vs:aq)(body:List Stmt)(loc:List GV)(J:az)(H:Tr)(it:Addr × Nat):Prop:=
 ∀(E:Frag),sS x E J H->∀(A:Around) (env:Env) (h₁:Heap) (L:Addr) (m:Str->Option Value) (s:Shared) (Q:Flow->Shared->Prop) (Eo:Value->Shared->Prop),
  de (x.more E) d A h₁ L->bP env L->St (x.more E) ⟨[],[],J.ds,it⟩ .e 0 (.mk [] []) h₁ L m s->bq (x.more E) ⟨[],[],J.ds,it⟩ env L m vs loc->
  (∀g J' H' nx' R' m' s',KtsTurn (cS A) h₁ g->St (x.more E) J' H' nx' R' g L m' s'->Q (.ret (.bool true)) s')->wpAny (model x.prog x.w) A (execs body env) Q Eo s
theorem jN{l r:List GV}(hr:∀j,ba r j=.nul)(j:Nat):ba (l++r) j=ba l j:=by
 rw [jD,jD]
 rcases Nat.lt_or_ge j l.length with lt | ge
 ·rw [List.getElem?_append_left lt]
 ·rw [List.getElem?_append_right ge,<- jD,hr]
  rw [List.getElem?_eq_none ge]; rfl
section
variable {x:aQ} {d:Nat} {vs:aq} {J J':az} {H:Tr} {nx:Nat} {R:Rn} {O g g':Heap} {L L':Addr} {m m':Str->Option Value} {s:Shared} {A A₀:Around} {base:Heap} {outer:List Env} {E:Value->Shared->Prop} {env:Env} {loc:List GV}
theorem az.same{J J':az}(le:J.le J')(h1:J'.as.length=J.as.length)(h2:J'.ns.length=J.ns.length):J'=J:=by
 obtain ⟨a,b,c,d⟩:=J
 obtain ⟨a',b',c',d'⟩:=J'
 obtain ⟨l1,l2,l3,l4⟩:=le
 have e1:a=a':=List.IsPrefix.eq_of_length l1 h1.symm
 have e2:b=b':=List.IsPrefix.eq_of_length l2 h2.symm
 dsimp only at l3 l4
 rw [e1,e2,l3,l4]
open Classical in
theorem Af(hT:x.T.Nodup)(hD:("__debug__" : Str)∉x.T){r:aE}{fa:Addr}{body:List Stmt}{D:aV}(ok:br x vs r fa body D)(hvs:(vs.all fun p=>match p.2 with | .loc=>true | .glo=>true | _=>false)=true)(hcel:r.cel=[]){gs loc0:List GV}(hl1:gs.length=r.np)(hl2:r.f=r.np)(htl:∀j,ba r.tl j=.nul){it:Addr × Nat}
  (Z:de x (d+1) A O L) (S:St x J H nx R O L m s) {us:List Value} (iu:be x.T J gs us) (hcv:∀j v,Is x.T J (ba gs j) v->ba loc0 j≠.nul->Is x.T ⟨[],[],J.ds,it⟩ (ba loc0 j) v) (hcn:∀j,ba gs j=.nul->ba loc0 j=.nul) (hb:MF x d vs body loc0 J H it) {Q:Value->Shared->Prop}
  (hQ:∀g s',KtsTurn (cS A) O g->St x J H nx R g L m s'->Q (.bool true) s'):wpAny (model x.prog x.w) A (call (.ref fa) us) Q E s:=by
 have env:Env:=default
 revert hT hD ok hvs hcel hl1 hl2 htl Z S iu hcv hcn hb hQ
 revert r fa body D it us
 revert E
 revert Q
 revert s
 revert J
 revert m
 revert L
 revert O
 revert env
 revert A
 revert gs
 revert loc0
 revert R
 revert nx
 revert H
 revert vs
 revert d
 revert x
 refine @pD _ _ _ _ ?_
 generalize (dk _ _).x=x,(dk _ _).d=d,(dk _ _).vs=vs,(dk _ _).H=H,(dk _ _).nx=nx,(dk _ _).R=R,(dk _ _).loc=loc0,(dk _ _).k=gs,(dk _ _).A=A,(dk _ _).env=env,(dk _ _).O=O,(dk _ _).L=L,(dk _ _).m=m,(dk _ _).J=J,(dk _ _).s=s,(dk _ _).Q=Q,(dk _ _).E=E
 intro r fa body D it us
 intro hT hD ok hvs hcel hl1 hl2 htl Z S iu hcv hcn hb hQ
 symm
 obtain ⟨A₀,base,outer,env,B,hA,hfr,hk,top,ko⟩:=Z.z
 symm
 have eO:cS A=outer.filterMap (·.frame):=by unfold cS; rw [hA]; rfl
 have hB:Ff r gs H nx (fun loc H' nx'=>decide (loc=gs++r.tl/\H'=H/\nx'=nx))=true:=by
  unfold Ff
  have c1:(Nat.ble r.f (cQ gs)&&Nat.ble (cQ gs) r.np)=true:=by
   rw [cU,hl1,hl2]
   have:Nat.ble r.np r.np=true:=Nat.ble_eq_true_of_le (Nat.le_refl _)
   rw [this]; rfl
  rw [c1]
  show fL _ (fun loc=>vK r.cel loc H nx _)=true
  rw [nh,hcel]
  refine decide_eq_true ⟨?_,rfl,rfl⟩
  rw [im,jZ,cU,hl1,hl2]
  have:Nat.sub r.np r.np=0:=Nat.sub_self _
  rw [this]; rfl
 refine wpAny_call (lP (c:=fun loc H' nx'=>decide (loc=gs++r.tl/\H'=H/\nx'=nx)) hT hD ok hB Z.here S iu fun g L' m' J' H' nx' loc' s1 env' base' outer' env1 e2 le2 Fg st q0 B' hA' hf' Hh' En' S' Lo' low lv=>?_)
 symm
 obtain ⟨q1,q2,q3⟩:=(of_decide_eq_true e2)
 subst q1 q2 q3
 have:=az.same le2 (by rw [S'.nx,S.nx]) (by rw [S'.rn.len,S.rn.len])
 subst this
 have low:=low hvs
 obtain ⟨e1,e2'⟩:=(nK hA hfr En'.frame)
 have Bz:Below A base (env::outer) g:=⟨hA,(pushX B Fg hfr hk).stays,(pushX B Fg hfr hk).frames⟩
 obtain ⟨nod,os,hos,el,N⟩:=S'.led
 symm
 let h₁:Heap:=lH s1.heap L'
 have up:∀c o,h₁.get? c=some o->s1.heap.get? c=some o:=fun c o e=>BB e
 have dn:∀(c:Addr) o,@LT.lt Nat _ c L'->s1.heap.get? c=some o->h₁.get? c=some o:=fun c o lt e=>zb lt e
 have k0:∀c o,g.get? c=some o->h₁.get? c=some o:=fun c o e=>dn c o (Nat.lt_of_lt_of_le (Heap.lt_size e) S'.fr.above) (S'.fr.keep c o e)
 have gL:∃o,g.get? L=some o:=Fg.ns.imp fun q0 h=>h.elim fun q0 h=>h.elim fun q0 h=>h.1
 have frg:∀b,b∈L::outer.filterMap (·.frame)->∃o,g.get? b=some o:=fun b hb=>by
  rcases List.mem_cons.mp hb with rfl | hb
  ·exact gL
  ·obtain ⟨q0,o,ho,q0⟩:=(Bz.frames.mem (show b∈(env::outer).filterMap (·.frame) by rw [List.filterMap_cons,hfr]; exact .tail _ hb))
   exact ⟨o,ho⟩
 have lowz:∀p∈J'.as.zip os,@LT.lt Nat _ p.1 L':=fun p hp=>low _ (List.of_mem_zip (a:=p.1) (b:=p.2) hp).1
 have ko':∀b∈(env::outer).filterMap (·.frame),(x.more (J'.as.zip os)).K.lookup b=none:=fun b hb=>by
  have hb':b∈L::outer.filterMap (·.frame):=by rw [List.filterMap_cons,hfr] at hb; exact hb
  have k1:x.K.lookup b=none:=by
   rcases List.mem_cons.mp hb' with rfl | hb'
   ·cases q:x.K.lookup b with
    | none=>rfl
    | some o=>have:=Z.here.X b o q; rw [kts_self Fg] at this; cases this
   ·exact ko b hb'
  show (x.K++J'.as.zip os:Frag).lookup b=none
  rw [gY,k1]
  cases q:(J'.as.zip os:Frag).lookup b with
  | none=>rfl
  | some o=>
   have:=(N _ (iF q)).2.2
   obtain ⟨o',ho'⟩:=(frg b hb')
   rw [ho'] at this; cases this
 have XE:(x.more (J'.as.zip os)).K.In h₁:=fun a o e=>by
  have e:(x.K++J'.as.zip os:Frag).lookup a=some o:=e
  rw [gY] at e
  cases q:x.K.lookup a with
  | some o'=>rw [q] at e; cases e; exact k0 _ _ (Hh'.X _ _ q)
  | none=>
   rw [q] at e
   have hm:=iF e
   exact dn _ _ (lowz _ hm) (N _ hm).1
 have ZE:de (x.more (J'.as.zip os)) d (A.deeper env') h₁ L':=by
  refine ⟨?_,A,base,env::outer,env',⟨Bz.stack,fun c o e=>k0 _ _ (Bz.stays c o e),hW k0 Bz.frames⟩,Around.frames_deeper hA,En'.frame,En'.kind,top,ko'⟩
  obtain ⟨A₂,base₂,outer₂,env₂,B₂,hA₂,hf₂,hk₂⟩:=Hh'.below
  exact ⟨⟨A₂,base₂,outer₂,env₂,⟨B₂.stack,fun c o e=>k0 _ _ (B₂.stays c o e),hW k0 B₂.frames⟩,hA₂,hf₂,hk₂⟩,XE,Hh'.top.keeps k0,Hh'.room,Hh'.hnd,Hh'.units⟩
 have SE:St (x.more (J'.as.zip os)) ⟨[],[],J'.ds,it⟩ .e 0 (.mk [] []) h₁ L' m' s1:=⟨⟨List.nodup_nil,[],fun k o hk=>by simp at hk,rfl,News.nil⟩,rfl,⟨S'.fr.ns,up,xE _ _⟩,S'.gens,⟨fun k b hk=>by simp [Rn.bnd] at hk,rfl,fun i j b hm=>by simp [Rn.eqs] at hm⟩⟩
 have LoE:bq (x.more (J'.as.zip os)) ⟨[],[],J'.ds,it⟩ env' L' m' vs loc0:=fun j i' kd hj=>by
  obtain ⟨t,ht,hd,sl⟩:=(Lo' j i' kd hj)
  refine ⟨t,ht,hd,?_⟩
  have hk:=List.all_eq_true.mp hvs _ (List.mem_of_getElem? hj)
  cases kd with
  | glo=>exact sl
  | cel=>cases hk
  | blk=>cases hk
  | loc=>
   rw [jN htl] at sl
   refine ⟨sl.1,sl.2.1,fun n=>?_⟩
   obtain ⟨v,v1,v2⟩:=(sl.2.2 fun q=>n (hcn j q))
   exact ⟨v,v1,hcv j v v2 n⟩
 have led:sS x (J'.as.zip os) J' H':=fun k a ha=>by
  have lt:k<os.length:=el▸aN ha
  have ho:=List.getElem?_eq_getElem lt
  refine ⟨os[k],?_,hos k _ ho⟩
  show (x.K++J'.as.zip os:Frag).lookup a=_
  rw [gY]
  cases q:x.K.lookup a with
  | some o=>
   have:=Hh'.X a o q
   rw [(N _ (cn ha ho)).2.2] at this; cases this
  | none=>exact ma nod ha ho
 refine hb _ led (A.deeper env') env' h₁ L' m' s1 _ _ ZE En' SE LoE fun g2 J2 H2 nx2 R2 m2 s2 T2 S2=>?_
 rw [e1] at T2
 symm
 have nL0:O.get? L=none:=kts_self Fg
 obtain ⟨T1,K1⟩:=(kts_turn_at (h:=s2.heap) (fs:=outer.filterMap (·.frame)) (g:=O))
  (fun b hb=>(B.frames.mem hb).2.imp fun q0=>And.left)
  (fun b o e nm=>S2.fr.keep b o (T2.other b o (k0 _ _ (st b o e)) fun hm=>by
   rcases List.mem_cons.mp hm with q | q
   ·rw [q,nL0] at e; cases e
   ·exact nm q))
  (fun b o e hm=>(T2.up (k0 _ _ (st b o e))).imp fun q0=>S2.fr.keep _ _)
 obtain ⟨oL,es,ep,hoL,hdL,hkL,hnL⟩:=Fg.ns
 obtain ⟨sl,hs⟩:=(T2.up (k0 _ _ hoL))
 symm
 rw [<- eO] at T1 K1
 refine hQ _ s2 T1 ⟨⟨nod,os,hos,el,fun p hp=>?_⟩,S'.nx,⟨⟨_,es,ep,S2.fr.keep _ _ hs,hdL,hkL,hnL⟩,K1,by rw [T1.size]; exact Fg.above⟩,S2.gens,S'.rn⟩
 obtain ⟨z1,z2,z3⟩:=(N p hp)
 have nf:p.1∉L::outer.filterMap (·.frame):=fun q=>by
  obtain ⟨o,ho⟩:=(frg _ q)
  rw [z3] at ho; cases ho
 refine ⟨S2.fr.keep _ _ (T2.other _ _ (dn _ _ (lowz p hp) z1) nf),(fun q=>nf (by rw [q]; exact .head _)),T1.none_ _ ?_⟩
 cases q:O.get? p.1 with
 | none=>rfl
 | some o=>rw [st _ _ q] at z3; cases z3
end
end
section
def EB(pat:eh):KS:=fun gf H nx R loc=>@GF.rec (fun q0=>Bool) (vh pat H nx R loc true) false false (fun q0=>false) gf
noncomputable def gw:KX:=fun q0 q0 q0 q0=>false
def vQ:KS:=fun gf q0 q0 q0 q0=>@GF.rec (fun q0=>Bool) false false false (fun g=>gB g fun b=>b) gf
section
variable {x:aQ} {d:Nat} {vs:aq} {J J':az} {H:Tr} {nx:Nat} {R:Rn} {O g g':Heap} {L L':Addr} {m m':Str->Option Value} {s:Shared} {A A₀:Around} {base:Heap} {outer:List Env} {E:Value->Shared->Prop} {env:Env} {loc:List GV} {Q:Flow->Shared->Prop}
theorem Es{f:SX}{l rest:List Stmt}(hf:bT x d vs f l)(hvs:(vs.all fun p=>match p.2 with | .loc=>true | .glo=>true | _=>false)=true){pat:eh}(h:f H nx R loc (EB pat) gw=true)(Z:de x d A O L)(En:bP env L)(S:St x J H nx R O L m s)(Lo:bq x J env L m vs loc)
  (hR:∀g m s,KtsTurn (cS A) O g->Wv x pat vs env g L m s J.it->wpAny (model x.prog x.w) A (execs rest env) Q E s):wpAny (model x.prog x.w) A (execs (l++rest) env) Q E s:=by
 rw [kv]
 refine wpAny_bind (hf H nx R loc _ _ h A env O L m J s _ E Z En S Lo (fun g J' H' nx' R' loc' m' s' gf fl T le S' Lo' hfl hk=>?_) fun g J' H nx R m s i e T le U hk=>by cases hk)
 cases hfl with
 | next=>
  have:=(Aw (show vh pat H' nx' R' loc' true=true from hk) hvs S' Lo').2
  rw [<- le.2.2.2] at this
  exact hR g m' s' T this
 | brk=>cases hk
 | cont=>cases hk
 | ret i=>cases hk
theorem Bg{f:SX}{l:List Stmt}(hf:bT x d vs f l)(h:f H nx R loc vQ gw=true)(Z:de x d A O L)(En:bP env L)(S:St x J H nx R O L m s)(Lo:bq x J env L m vs loc)
  (hR:∀g J' H nx R m s,KtsTurn (cS A) O g->St x J' H nx R g L m s->Q (.ret (.bool true)) s):wpAny (model x.prog x.w) A (execs l env) Q E s:=by
 refine hf H nx R loc _ _ h A env O L m J s _ E Z En S Lo (fun g J' H' nx' R' loc' m' s' gf fl T le S' Lo' hfl hk=>?_) fun g J' H nx R m s i e T le U hk=>by cases hk
 cases hfl with
 | next=>cases hk
 | brk=>cases hk
 | cont=>cases hk
 | ret i=>
  obtain ⟨b,rfl,hb⟩:=(pu (show gB _ (fun b=>b)=true from hk))
  subst hb
  cases i
  exact hR g J' H' nx' R' m' s' T S'
def vw(c:Value->Bool)(f:EV)(p0:eh)(H:Tr)(nx:Nat)(R:Rn)(loc:List GV):Bool:=f H nx R loc fun g H nx R=>Bp g fun v=>H.set 24 nx .oit fun H=>fN (Nat.succ nx) fun n1=>@Bool.rec (fun q0=>Bool) false (c v) (jb p0 .oit nx H n1 R loc)
theorem RH{r:jR}{b b2:SX}{ts:List Expr}{b1s b2s:List Stmt}(hr:hO x d vs r ts)(hp:bx ts=true)(hl:ts.length=3)(hb:bT x d vs b b1s)(hb2:bT x d vs b2 b2s)(hvs:(vs.all fun p=>match p.2 with | .loc=>true | .glo=>true | _=>false)=true)
  {Inv:eh->Prop} {RowOk:Nat->Nat->Prop} (hno:∀pat,Inv pat->py pat.P=true/\pat.P.length<300) (ul:∀pat,Inv pat->∀vals:List Int,vals.length=pat.cs.length->mj pat.cs vals->b2 (ed (pat.P++[.oit])) (pat.P.length+1) (.mk (cW pat.cs vals) []) (ew pat.rt) (jy pat .oit pat.P.length) gw=true)
  (step:∀pat,Inv pat->∀who deed,RowOk who deed->∀(z:Int) (vals:List Int),vals.length=pat.cs.length->mj pat.cs vals->∃pat' ge w B,Inv pat'/\ge.ok (vals.length+1)/\ge.ev (vals++[w])=z/\gC B (vals++[w])/\B.length=vals.length+1/\
   r [.int (.lit (.ofNat who)),.str deed,.int ge] (ed (pat.P++[.oit])) (pat.P.length+1) (.mk B []) (ew pat.rt) (fun H nx R loc=>b H nx R loc (jy pat' .oit pat.P.length) gw)=true)
  {la:Addr} {rows:List (Nat × Nat × Int)} (hrows:Rows x la rows) (mq:∀q∈rows,RowOk q.1 q.2.1) {f:EV} {e:Expr} (hf:aK x d vs f e) (hn:jS e=true) {c:Value->Bool} (hc:∀v,c v=true->v=.ref la) {p0:eh} (hi0:Inv p0) (h:vw c f p0 H nx R loc=true)
  (Z:de x d A O L) (En:bP env L) (S0:St x J H nx R O L m s) (Lo0:bq x J env L m vs loc) (hit0:J.it=(la,0)) {kd:Nat} {tp pos:Pos}
  (hEnd:∀g pat m s it a,KtsTurn (cS A) O g->Inv pat->pL x pat .junk a vs env g L m s it->Q .next s):wpAny (model x.prog x.w) A (exec (.For (.Tuple ts kd tp) e (b1s++b2s) [] pos) env) Q E s:=by
 revert hr hp hl hb hb2 hvs hno ul step hrows mq hf hn hc hi0 h Z En S0 Lo0 hit0 hEnd
 revert r b b2 ts b1s b2s Inv RowOk la rows f e p0 kd tp pos
 revert E
 revert Q
 revert s
 revert J
 revert m
 revert L
 revert O
 revert env
 revert A
 revert c
 revert loc
 revert R
 revert nx
 revert H
 revert vs
 revert d
 revert x
 refine @pD _ _ _ _ ?_
 generalize (dk _ _).x=x,(dk _ _).d=d,(dk _ _).vs=vs,(dk _ _).H=H,(dk _ _).nx=nx,(dk _ _).R=R,(dk _ _).loc=loc,(dk _ _).k=c,(dk _ _).A=A,(dk _ _).env=env,(dk _ _).O=O,(dk _ _).L=L,(dk _ _).m=m,(dk _ _).J=J,(dk _ _).s=s,(dk _ _).Q=Q,(dk _ _).E=E
 intro r b b2 ts b1s b2s Inv RowOk la rows f e p0 kd tp pos
 intro hr hp hl hb hb2 hvs hno ul step hrows mq hf hn hc hi0 h Z En S0 Lo0 hit0 hEnd
 symm
 obtain ⟨ol,us,nl,k1,k2,k3,k4,k5⟩:=hrows.ex
 symm
 refine wpAny_For (hf H nx R loc _ h A env O L m J s _ E Z.here En S0 Lo0 fun J1 H1 nx1 R1 s1 gv v le1 S1 iv h1=>?_) (fun y=>gd hn _ y)
 symm
 obtain ⟨v',rfl,h2⟩:=wx h1
 cases iv
 obtain ⟨H2,a1,h3⟩:=Tr.set_ok _ _ _ _ _ h2
 rw [bO] at h3
 obtain ⟨hm,hcv⟩:=aJ h3
 symm
 have:=hc _ hcv
 subst this
 have lu1:s1.heap.IsList la us:=⟨ol,(Z.here.X.keeps S1.fr.keep) _ _ k1,k2,nl,k3⟩
 refine wpAny_pyIter_list lu1 ?_
 symm
 obtain ⟨os,hos,el,N⟩:=S1.led.at_
 symm
 have hit1:J1.it=(la,0):=le1.2.2.2.symm.trans hit0
 have S2:St x (J1.push s1.heap.objs.size) H2 (nx1+1) R1 O L m { s1 with heap:=s1.heap.push { cls:=.type "list_iterator",data:=.fields #[.ref la,.int 0 0] } }:=
  S1.made' hos el (S1.fr.push _) (N.push S1.fr _) (fun q hq=>Heap.lt_size (N q hq).1) (.oit rfl (by show _=Data.fields #[.ref J1.it.1,.int J1.it.2 0]; rw [hit1]; rfl)) a1
 have Lo2:=(Lo0.more le1).more (az.le_push J1 s1.heap.objs.size)
 have I0:=jc hm hvs S2 Lo2 (by rw [<- S1.nx]; exact eE J1 _)
 have I0:pL x p0 .oit s1.heap.objs.size vs env O L m { s1 with heap:=s1.heap.push { cls:=.type "list_iterator",data:=.fields #[.ref la,.int 0 0] } } (la,0):=by rw [<- hit1]; exact I0
 generalize s1.heap.objs.size=a at I0
 refine codeAny_forLoop_any (fun n s=>∃g i m pat,KtsTurn (cS A) O g/\i+n=rows.length/\Inv pat/\pL x pat .oit a vs env g L m s (la,i)) (fun n s3 hI=>?_) rows.length ⟨O,0,m,p0,.refl,Nat.zero_add _,hi0,I0⟩
 symm
 obtain ⟨g,i,m1,pat,T,en,hi,J,vals,vl,S,Lo,hit,ha,sn,sg⟩:=hI
 have Zg:=Z.turn T
 obtain ⟨hno1,hno2⟩:=(hno pat hi)
 have gi:(ed (pat.P++[.oit])).get pat.P.length=PO.g .oit:=lD hno2
 have gi':PO.g .oit=GO.oit:=rfl
 rw [gi'] at gi
 have lu:s3.heap.IsList la us:=⟨ol,(Zg.here.X.keeps S.fr.keep) _ _ k1,k2,nl,k3⟩
 obtain ⟨o,o1,q0,q0,o2⟩:=(S.led.obj ha)
 rw [gi] at o2
 obtain ⟨hc,hd⟩:=o2
 symm
 rw [hit] at hd
 have hli:s3.heap.IsListIter a la i:=⟨o,o1,hc,hd⟩
 cases n with
 | zero=>
  refine l9 Z.here.hnd hli lu (Array.getElem?_eq_none (by lia)) fun h' he ho=>?_
  obtain ⟨o',ho'⟩:=ho
  refine wpAny_execs_nil (hEnd g pat m1 _ J.it a T hi ⟨J,vals,vl,S.updT (H':=ed (pat.P++[.junk])) ha he ho' (.junk o') (fun k hk=>?_) s3.toks,Lo,rfl,ha,sn,sg⟩)
  by_cases e:k=pat.P.length
  ·subst e
   rw [if_pos rfl]
   exact lD (o:=.junk) hno2
  ·rw [if_neg e]
   have lt:k<pat.P.length:=by lia
   rw [jL hno2 lt,jL hno2 lt]
 | succ n=>
  have il:i<us.size:=by lia
  refine wpAny_pyNext_list_item hli lu (Array.getElem?_eq_getElem il) fun h' hit' hsb=>?_
  symm
  obtain ⟨o',p1,p2,p3⟩:=hit'
  obtain ⟨q,hq,hrow⟩:=(k5 i _ (Array.getElem?_eq_getElem il))
  have S1:=S.reit ha gi (fun k hk ne=>by
   have lt:k<pat.P.length:=by lia
   rw [jL hno2 lt]
   exact tD hno1 _ (List.getElem_mem lt)) (la,i+1) hsb.extBut p1 p2 p3 s3.toks
  have Lo1:bq x { J with it:=(la,i+1) } env L m1 vs (ew pat.rt):=fun j i' kd' hj=>by
   obtain ⟨t,ht,hd',sl⟩:=(Lo j i' kd' hj)
   refine ⟨t,ht,hd',?_⟩
   cases kd' with
   | loc=>exact ⟨sl.1,sl.2.1,fun n=>(sl.2.2 n).imp fun q0=>And.imp_right fun x=>x.reit _⟩
   | glo=>exact sl
   | cel=>exact sl
   | blk=>exact sl
  obtain ⟨pat',ge,w,B,hi',g1,g2,hB,hl',hstep⟩:=(step pat hi _ _ (mq q (List.mem_of_getElem? hq)) q.2.2 vals vl sg)
  symm
  rw [<- sn] at g1 g2 hB hl'
  have S2:=S1.var w hB hl'
  have le:az.le { J with it:=(la,i+1) } { J with it:=(la,i+1),ns:=J.ns++[w] }:=⟨List.prefix_rfl,List.prefix_append _ _,rfl,rfl⟩
  refine lZ ⟨o',_,p1,p2,by decide⟩ ?_
  refine Gl hr hp hl kd tp hrow hstep Zg.here En S2 (Lo1.more le) ⟨by show ge.ok (J.ns++[w]).length; rw [List.length_append]; exact g1,g2⟩ fun J4 H4 nx4 R4 loc4 m4 s4 le4 S4 Lo4 h5=>?_
  rw [kv]
  refine wpAny_bind (hb H4 nx4 R4 loc4 _ _ h5 A env g L m4 J4 s4 _ _ Zg En S4 Lo4 (fun g5 J5 H5 nx5 R5 loc5 m5 s5 gf fl T5 le5 S5 Lo5 hfl hk5=>?_) fun g J' H nx R m s i e T le U hk=>by cases hk)
  have ha5:J5.as[pat.P.length]?=some a:=aF le5.1 (aF le4.1 ha)
  have hit5:J5.it=(la,i+1):=(le4.trans le5).2.2.2.symm
  have go:jb pat' .oit pat.P.length H5 nx5 R5 loc5=true->pL x pat' .oit a vs env g5 L m5 s5 (la,i+1):=fun hk=>by
   have:=jc hk hvs S5 Lo5 ha5
   rwa [hit5] at this
  cases hfl with
  | next=>
   symm
   obtain ⟨J6,vals6,vl6,S6,Lo6,hit6,ha6,sn6,sg6⟩:=(go hk5).ex
   symm
   refine hb2 _ _ _ _ _ _ (ul pat' hi' vals6 vl6 sg6) A env g5 L m5 J6 s5 _ _ (Zg.turn T5) En S6 Lo6 (fun g7 J7 H7 nx7 R7 loc7 m7 s7 gf fl T7 le7 S7 Lo7 hfl hk7=>?_) fun g J' H nx R m s i e T le U hk=>by cases hk
   have ha7:J7.as[pat'.P.length]?=some a:=aF le7.1 ha6
   have go2:jb pat' .oit pat'.P.length H7 nx7 R7 loc7=true->∃m,m<n+1/\∃g i m1 pat,KtsTurn (cS A) O g/\i+m=rows.length/\Inv pat/\pL x pat .oit a vs env g L m1 s7 (la,i):=fun hk=>by
    have:=jc hk hvs S7 Lo7 ha7
    rw [<- le7.2.2.2,hit6] at this
    exact ⟨n,Nat.lt_succ_self n,g7,i+1,m7,pat',(T.trans T5).trans T7,by lia,hi',this⟩
   cases hfl with
   | next=>exact go2 hk7
   | cont=>exact go2 hk7
   | brk=>cases hk7
   | ret i=>cases hk7
  | cont=>exact wpAny_pure ⟨n,Nat.lt_succ_self n,g5,i+1,m5,pat',T.trans T5,by lia,hi',go hk5⟩
  | brk=>cases hk5
  | ret i=>cases hk5
def vj(f:EV)(p0:eh)(N:Nat)(H:Tr)(nx:Nat)(R:Rn)(loc:List GV):Bool:=f H nx R loc fun g H nx R=>sT g H nx R fun it H nx R=>bU it fun i=>kP (H.get i) (fun q0 q0=>false) fun z n=>@Bool.rec (fun q0=>Bool) false (jb p0 (.riter 0 n) i H nx R loc) (Nat.beq z 0&&Nat.ble n N)
theorem EK{a:AV}{b:SV}{t:Expr}{bs:List Stmt}(ha:dP x d vs a t)(hb:au x d vs b bs)(hvs:(vs.all fun p=>match p.2 with | .loc=>true | .glo=>true | _=>false)=true){pt:Nat->eh}(hcs:∀i,(pt i).cs=[])(hlen:∀i,(pt i).P.length<300){N:Nat}
  (step:∀n,n<=N->∀i,i<n->a (.int (.lit (.ofNat i))) (ed ((pt i).P++[.riter (i+1) n])) ((pt i).P.length+1) (.mk [] []) (ew (pt i).rt) (fun H nx R loc=>b H nx R loc (jy (pt (i+1)) (.riter (i+1) n) (pt i).P.length))=true)
  {f:EV} {e:Expr} (hf:aK x d vs f e) (hn:jS e=true) (h:vj f (pt 0) N H nx R loc=true) (Z:de x d A O L) (En:bP env L) (S0:St x J H nx R O L m s) (Lo0:bq x J env L m vs loc) {pos:Pos}
  (hEnd:∀n m s a,n<=N->pL x (pt n) .junk a vs env O L m s J.it->Q .next s):wpAny (model x.prog x.w) A (exec (.For t e bs [] pos) env) Q E s:=by
 revert ha hb hvs hcs hlen step hf hn h Z En S0 Lo0 hEnd
 revert a b t bs pt f e pos
 revert E
 revert Q
 revert s
 revert J
 revert m
 revert L
 revert O
 revert env
 revert A
 revert N
 revert loc
 revert R
 revert nx
 revert H
 revert vs
 revert d
 revert x
 refine @pD _ _ _ _ ?_
 generalize (dk _ _).x=x,(dk _ _).d=d,(dk _ _).vs=vs,(dk _ _).H=H,(dk _ _).nx=nx,(dk _ _).R=R,(dk _ _).loc=loc,(dk _ _).k=N,(dk _ _).A=A,(dk _ _).env=env,(dk _ _).O=O,(dk _ _).L=L,(dk _ _).m=m,(dk _ _).J=J,(dk _ _).s=s,(dk _ _).Q=Q,(dk _ _).E=E
 intro a b t bs pt f e pos
 intro ha hb hvs hcs hlen step hf hn h Z En S0 Lo0 hEnd
 refine wpAny_For (hf H nx R loc _ h A env O L m J s _ E Z.here En S0 Lo0 fun J1 H1 nx1 R1 s1 gv v le1 S1 iv h1=>?_) (fun y=>gd hn _ y)
 refine nN gv H1 nx1 R1 _ h1 A O L m J1 s1 v _ E Z.here S1 iv fun J2 H2 nx2 R2 s2 g2 v2 le2 S2 iv2 h2=>?_
 symm
 obtain ⟨i0,rfl,h3⟩:=bn h2
 obtain ⟨ad,rfl,hi⟩:=iv2
 symm
 rcases jd h3 with ⟨_,_,_,h4⟩ | ⟨z,n,e0,h4⟩
 ·cases h4
 obtain ⟨c,h5⟩:=aJ h4
 obtain ⟨c1,c2⟩:=Bool.and_eq_true_iff.mp c
 have c1:=Nat.eq_of_beq_eq_true c1
 have c2:=Nat.le_of_ble_eq_true c2
 subst c1
 have I0:=jc h5 hvs S2 ((Lo0.more le1).more le2) hi
 have hit:J2.it=J.it:=(le1.trans le2).2.2.2.symm
 rw [hit] at I0
 refine codeAny_forLoop_any (fun k s=>∃i m,i+k=n/\pL x (pt i) (.riter i n) ad vs env O L m s J.it) (fun k s3 hI=>?_) n ⟨0,m,Nat.zero_add _,I0⟩
 symm
 obtain ⟨i,m1,en,J3,vals,vl,S,Lo,hit3,ha3,sn,sg⟩:=hI
 symm
 rw [hcs] at vl
 cases vals with
 | cons _ _=>simp at vl
 | nil=>
 rw [hcs] at S
 symm
 have S:St x J3 (ed ((pt i).P++[.riter i n])) ((pt i).P.length+1) (.mk [] []) O L m1 s3:=S
 obtain ⟨o,o1,q0,q0,o2⟩:=(S.led.obj ha3)
 have gi:(ed ((pt i).P++[.riter i n])).get (pt i).P.length=GO.riter i n:=lD (hlen i)
 rw [gi] at o2
 obtain rfl:_=_:=o2.inv
 symm
 have hit:IsRangeIter s3.heap ad i ((n:Int) - i) 1:=o1
 have tree:∀(o:PO) (k:Nat),k<(pt i).P.length+1->(ed ((pt i).P++[o])).get k=if k=(pt i).P.length then o.g else (ed ((pt i).P++[.riter i n])).get k:=fun o k hk=>by
  by_cases e:k=(pt i).P.length
  ·subst e; rw [if_pos rfl]; exact lD (hlen i)
  ·rw [if_neg e]
   have lt:k<(pt i).P.length:=by lia
   rw [jL (hlen i) lt,jL (hlen i) lt]
 cases k with
 | zero=>
  refine k7 Z.here.hnd hit (by lia) fun h' he ho=>?_
  obtain ⟨o',ho'⟩:=ho
  have e:i=n:=by lia
  subst e
  refine wpAny_execs_nil (hEnd i m1 _ ad c2 ⟨J3,[],by rw [hcs]; rfl,?_,Lo,hit3,ha3,sn,sg⟩)
  rw [hcs]
  exact S.updT (H':=ed ((pt i).P++[.junk])) ha3 he ho' (.junk o') (tree .junk) s3.toks
 | succ k=>
  refine wpAny_pyNext_range_item hit (by lia) fun h' hit' hsb=>?_
  have S1:St x J3 (ed ((pt i).P++[.riter (i+1) n])) ((pt i).P.length+1) (.mk [] []) O L m1 { s3 with heap:=h',toks:=s3.toks+1 }:=S.updT ha3 hsb.extBut hit' (.riter (by
   have e2:((n:Int) - ((i+1:Nat):Int))=(n:Int) - i - 1:=by lia
   rw [e2]; rfl)) (tree (.riter (i+1) n)) (s3.toks+1)
  refine lZ ⟨_,_,hit',rfl,by decide⟩ ?_
  refine ha _ _ _ _ _ _ (step n c2 i (by lia)) A env O L m1 J3 _ (.int i s3.toks) _ _ Z.here En S1 Lo (.int (e:=.lit (.ofNat i)) _ trivial) fun J4 H4 nx4 R4 loc4 m4 s4 le4 S4 Lo4 h5=>?_
  refine hb H4 nx4 R4 loc4 _ h5 A env O L m4 J4 s4 _ _ Z.here En S4 Lo4 fun J5 H5 nx5 R5 loc5 m5 s5 gf fl le5 S5 Lo5 hfl hk5=>?_
  have ha5:J5.as[(pt i).P.length]?=some ad:=aF le5.1 (aF le4.1 ha3)
  have hit5:J5.it=J.it:=(le4.trans le5).2.2.2.symm.trans hit3
  have go:jb (pt (i+1)) (.riter (i+1) n) (pt i).P.length H5 nx5 R5 loc5=true->∃k',k'<k+1/\∃i m,i+k'=n/\pL x (pt i) (.riter i n) ad vs env O L m s5 J.it:=fun hk=>by
   have:=jc hk hvs S5 Lo5 ha5
   rw [hit5] at this
   exact ⟨k,Nat.lt_succ_self k,i+1,m5,by lia,this⟩
  cases hfl with
  | next=>exact go hk5
  | cont=>exact go hk5
  | brk=>cases hk5
  | ret i=>cases hk5
end
end
section
def sK(n:Nat)(ss:List Nat)(H:Tr)(l:List GV):Bool:=@List.rec GV (fun q0=>Bool) true (fun g q0 ih=>@Bool.rec (fun q0=>Bool) false ih (bU g fun k=>yN (H.get k) (fun r=>Da n ss r) fun n' ss'=>Nat.beq n n'&&M5 ss ss')) l
section
variable {x:aQ} {d:Nat} {vs:aq} {J J':az} {H:Tr} {nx:Nat} {R:Rn} {O g g':Heap} {L L':Addr} {m m':Str->Option Value} {s:Shared} {A A₀:Around} {E:Value->Shared->Prop} {env:Env} {loc:List GV}
theorem DH{F:Frag}(led:sS x F J H){n:Nat}{ss:List Nat}{l:List GV}:∀{us:List Value},sK n ss H l=true->be x.T J l us->∃rows:List (Nat × Nat × Int),us.length=rows.length/\(∀(j:Nat) v,us[j]?=some v->∃r,rows[j]?=some r/\ya (x.more F) v r.1 r.2.1 r.2.2)/\∀q∈rows,q.1<n/\q.2.1∈ss:=by
 induction l with
 | nil=>
  intro us h iu
  cases iu; exact ⟨[],rfl,fun j v h=>by simp at h,fun q h=>by cases h⟩
 | cons g l ih=>
  intro us h iu
  symm
  obtain ⟨h1,h2⟩:=aJ h
  obtain ⟨v,us,rfl,i0,ir⟩:=fA iu
  obtain ⟨rows,r1,r2,r3⟩:=(ih h2 ir)
  obtain ⟨k,rfl,h3⟩:=bn h1
  obtain ⟨a,rfl,ha⟩:=i0
  obtain ⟨o,o1,o2⟩:=(led k a ha)
  have go:∃i j y z t u v,i<n/\j∈ss/\x.T[j]?=some y/\o = { cls:=.type "tuple",data:=.seq #[.int ((i:Nat):Int) t,.str y u,.int z v] }:=by
   rcases vF h3 with ⟨r,e,h4⟩ | ⟨n',ss',e,h4⟩
   ·rw [e] at o2
    obtain ⟨q0,rfl,hs⟩:=o2
    obtain ⟨i,j,y,z,t,u,v,rfl,a,b,c⟩:=(wA h4 hs)
    exact ⟨i,j,y,z,t,u,v,a,b,c,rfl⟩
   ·rw [e] at o2
    obtain ⟨h5,h6⟩:=Bool.and_eq_true_iff.mp h4
    have:=Nat.eq_of_beq_eq_true h5
    have:=t7 h6
    subst_vars
    obtain ⟨q0,q0,q0,q0,t,u,v,rfl,a,b,c⟩:=o2
    exact ⟨_,_,_,_,t,u,v,a,b,c,rfl⟩
  obtain ⟨i,j,y,z,t,u,v,hi,hj,hy,rfl⟩:=go
  symm
  refine ⟨(i,j,z)::rows,by simp [r1],fun q w hq=>?_,fun q hq=>?_⟩
  ·cases q with
   | zero=>
    simp at hq
    subst hq
    exact ⟨_,rfl,⟨a,_,_,t,u,v,y,rfl,o1,rfl,rfl,hy⟩⟩
   | succ q=>simp at hq; rw [List.getElem?_cons_succ]; exact r2 q w hq
  ·rcases List.mem_cons.mp hq with rfl | hq
   ·exact ⟨hi,hj⟩
   ·exact r3 q hq
theorem xf{F:Frag}(led:sS x F J H){n dl:Nat}{ss:List Nat}{la:Addr}(hdl:J.as[dl]?=some la){l:List GV}(hl:H.get dl=.list l)(h:sK n ss H l=true):∃rows:List (Nat × Nat × Int),Rows (x.more F) la rows/\∀q∈rows,q.1<n/\q.2.1∈ss:=by
 symm
 obtain ⟨o,o1,o2⟩:=(led dl la hdl)
 rw [hl] at o2
 obtain ⟨us,k,rfl,hs⟩:=o2
 obtain ⟨rows,r1,r2,r3⟩:=(DH led h hs)
 symm
 exact ⟨rows,⟨_,us.toArray,k,o1,rfl,rfl,by rw [List.size_toArray]; exact r1,fun j v hj=>r2 j v (by simpa using hj)⟩,r3⟩
def y0(ss:List Nat):kB:=fun gs H nx R k q0=>@List.rec GV (fun q0=>Bool) false (fun g r q0=>eG g fun z=>@Int.rec (fun q0=>Bool) (fun n=>@Bool.rec (fun q0=>Bool) false (ju r fun g=>bU g fun i=>d9 (H.get i) fun l=>@Bool.rec (fun q0=>Bool) false (k (.bool true) H nx R) (sK 3 ss H l)) (Nat.ble n 2)) (fun q0=>false) z) gs
def xY(ss:List Nat):kB:=fun gs H nx R k q0=>ju gs fun g=>bU g fun i=>d9 (H.get i) fun l=>@Bool.rec (fun q0=>Bool) false (k (.bool true) H nx R) (sK 3 ss H l)
def pA(x:aQ)(d:Nat)(vs:aq)(body:List Stmt)(ss:List Nat)(loc:Addr->List GV):Prop:=
 ∀(F:Frag) (la:Addr) (rows:List (Nat × Nat × Int)),Rows (x.more F) la rows->(∀q∈rows,q.1<3/\q.2.1∈ss)->∀(ds:Nat->List nF) (A:Around) (env:Env) (h₁:Heap) (L:Addr) (m:Str->Option Value) (s:Shared) (Q:Flow->Shared->Prop) (Eo:Value->Shared->Prop),
  de (x.more F) d A h₁ L->bP env L->St (x.more F) ⟨[],[],ds,(la,0)⟩ .e 0 (.mk [] []) h₁ L m s->bq (x.more F) ⟨[],[],ds,(la,0)⟩ env L m vs (loc la)->
  (∀g J' H' nx' R' m' s',KtsTurn (cS A) h₁ g->St (x.more F) J' H' nx' R' g L m' s'->Q (.ret (.bool true)) s')->wpAny (model x.prog x.w) A (execs body env) Q Eo s
theorem BX(hT:x.T.Nodup)(hD:("__debug__" : Str)∉x.T){r:aE}{fa:Addr}{body:List Stmt}{D:aV}(ok:br x vs r fa body D)(hvs:(vs.all fun p=>match p.2 with | .loc=>true | .glo=>true | _=>false)=true)(hcel:r.cel=[])(hnp:r.np=2)(hf:r.f=2)(htl:∀j,ba r.tl j=.nul){ss:List Nat}
  (hb:∀z,z<=2->pA x d vs body ss fun la=>[.int (.lit (.ofNat z)),.old (.ref la)]++r.tl):iq x (d+1) (y0 ss) (.ref fa):=by
 intro gs H nx R k kx h A O L m J s us Q E Z S iu hQ hE
 cases gs with
 | nil=>cases h
 | cons g gs=>
 obtain ⟨z,rfl,h1⟩:=cM h
 cases z with
 | negSucc _=>cases h1
 | ofNat z=>
 obtain ⟨hz,h2⟩:=aJ h1
 obtain ⟨g2,rfl,h3⟩:=fF h2
 obtain ⟨dl,rfl,h4⟩:=bn h3
 obtain ⟨l,hl,h5⟩:=da h4
 obtain ⟨h6,h7⟩:=aJ h5
 have hdl:∃la,J.as[dl]?=some la:=by
  obtain ⟨q0,q0,rfl,q0,i2⟩:=fA iu
  obtain ⟨q0,q0,rfl,i2,q0⟩:=fA i2
  exact i2.imp fun q0=>And.right
 obtain ⟨la,hla⟩:=hdl
 refine Af hT hD ok hvs hcel (gs:=[.int (.lit (.ofNat z)),.own dl]) (loc0:=[.int (.lit (.ofNat z)),.old (.ref la)]++r.tl) (it:=(la,0)) (by rw [hnp]; rfl) (by rw [hf,hnp]) htl Z S iu (fun j v iv n=>?_) (fun j e=>?_) (fun F led A env h₁ L m s Q Eo Z En S Lo hQ=>?_) fun g s' T S'=>hQ g J H nx R s' (.bool true) _ T (.refl _) S' (.bool true) h7
 ·rw [jN htl] at n ⊢
  match j with
  | 0=>
   obtain ⟨t,rfl,ok⟩:=iv
   exact .int (e:=.lit (.ofNat z)) t trivial
  | 1=>
   obtain ⟨q0,rfl,ha⟩:=iv
   rw [hla] at ha; cases ha
   exact .old _
  | j+2=>cases iv
 ·rw [jN htl]
  match j with
  | 0=>cases e
  | 1=>cases e
  | j+2=>rfl
 ·obtain ⟨rows,r1,r2⟩:=(xf led hla hl h6)
  exact hb z (Nat.le_of_ble_eq_true hz) F la rows r1 r2 J.ds A env h₁ L m s Q Eo Z En S Lo hQ
theorem Db(hT:x.T.Nodup)(hD:("__debug__" : Str)∉x.T){r:aE}{fa:Addr}{body:List Stmt}{D:aV}(ok:br x vs r fa body D)(hvs:(vs.all fun p=>match p.2 with | .loc=>true | .glo=>true | _=>false)=true)(hcel:r.cel=[])(hnp:r.np=1)(hf:r.f=1)(htl:∀j,ba r.tl j=.nul){ss:List Nat}
  (hb:pA x d vs body ss fun la=>[.old (.ref la)]++r.tl):iq x (d+1) (xY ss) (.ref fa):=by
 intro gs H nx R k kx h A O L m J s us Q E Z S iu hQ hE
 obtain ⟨g2,rfl,h3⟩:=fF h
 obtain ⟨dl,rfl,h4⟩:=bn h3
 obtain ⟨l,hl,h5⟩:=da h4
 obtain ⟨h6,h7⟩:=aJ h5
 have hdl:∃la,J.as[dl]?=some la:=by
  obtain ⟨q0,q0,rfl,i2,q0⟩:=fA iu
  exact i2.imp fun q0=>And.right
 obtain ⟨la,hla⟩:=hdl
 refine Af hT hD ok hvs hcel (gs:=[.own dl]) (loc0:=[.old (.ref la)]++r.tl) (it:=(la,0)) (by rw [hnp]; rfl) (by rw [hf,hnp]) htl Z S iu (fun j v iv n=>?_) (fun j e=>?_) (fun F led A env h₁ L m s Q Eo Z En S Lo hQ=>?_) fun g s' T S'=>hQ g J H nx R s' (.bool true) _ T (.refl _) S' (.bool true) h7
 ·rw [jN htl] at n ⊢
  match j with
  | 0=>
   obtain ⟨q0,rfl,ha⟩:=iv
   rw [hla] at ha; cases ha
   exact .old _
  | j+1=>cases iv
 ·rw [jN htl]
  match j with
  | 0=>cases e
  | j+1=>rfl
 ·obtain ⟨rows,r1,r2⟩:=(xf led hla hl h6)
  exact hb F la rows r1 r2 J.ds A env h₁ L m s Q Eo Z En S Lo hQ
end
end
section
noncomputable abbrev aM(n:Nat):EV:=bj (.int (.lit (.ofNat n)))
noncomputable abbrev ar(n:Nat):EV:=bj (.str n)
theorem VP{x:aQ}{d:Nat}{vs:aq}{b:List Stmt}(h:b=[]):au x d vs aC b:=h▸qB
noncomputable def Fn(T:List Str)(vs:aq)(i:Nat):Option Str:=match vs[i]? with
 | some (a,.loc)=>T[a]?
 | _=>none
set_option tactic.hygienic true in
theorem Fo{T:List Str}{vs:aq}{i:Nat}{t:Str}(h:Fn T vs i=some t):∃a,vs[i]?=some (a,.loc)/\T[a]?=some t:=by
 unfold Fn at h
 split at h
 ·rename_i a q; exact ⟨a,q,h⟩
 ·cases h
theorem ab0{x:aQ}{d:Nat}{vs:aq}{i:Nat}{t:Str}(h:Fn x.T vs i=some t)(pos:Pos):aK x d vs (ah i) (.Name t pos):=el12 (Fo h) fun q0 a b=>kL a b pos
theorem YA{x:aQ}{d:Nat}{vs:aq}(hs:aA x vs){i:Nat}{t:Str}(h:Fn x.T vs i=some t)(pos:Pos):dP x d vs (bu i) (.Name t pos):=el12 (Fo h) fun q0 a b=>mA hs a b pos
def fB(b:Bool)(k:Bool->Bool):Bool:=@Bool.rec (fun q0=>Bool) (k false) (k true) b
theorem oX(b:Bool)(k:Bool->Bool):fB b k=k b:=by cases b <;> rfl
def wE(g:GV)(k:GV->Bool):Bool:=@GV.rec (fun q0=>Bool) (k .nul) (k .none) (fun b=>fB b fun b=>k (.bool b)) (fun e=>k (.int e)) (fun i=>fN i fun i=>k (.str i)) (fun l=>k (.byt l)) (fun v=>k (.old v)) (fun i=>fN i fun i=>k (.own i)) (k .unk) g
theorem pI(g:GV)(k:GV->Bool):wE g k=k g:=by
 cases g with
 | bool b=>exact oX b fun b=>k (.bool b)
 | str i=>exact bO i fun i=>k (.str i)
 | own i=>exact bO i fun i=>k (.own i)
 | _=>rfl
def ED(l:List GV):(List GV->Bool)->Bool:=@List.rec GV (fun q0=>(List GV->Bool)->Bool) (fun k=>k []) (fun g q0 ih k=>wE g fun g=>ih fun r=>k (g::r)) l
theorem uu:∀(l:List GV) (k:List GV->Bool),ED l k=k l
 | [],_=>rfl
 | g::l,k=>(pI g fun g=>ED l fun r=>k (g::r)).trans (uu l fun r=>k (g::r))
def PJ(l:List (Nat × GV)):(List (Nat × GV)->Bool)->Bool:=@List.rec (Nat × GV) (fun q0=>(List (Nat × GV)->Bool)->Bool) (fun k=>k []) (fun g q0 ih k=>fN g.1 fun i=>wE g.2 fun g=>ih fun r=>k ((i,g)::r)) l
theorem tW:∀(l:List (Nat × GV)) (k:List (Nat × GV)->Bool),PJ l k=k l
 | [],_=>rfl
 | g::l,k=>(bO g.1 _).trans ((pI g.2 _).trans (tW l fun r=>k (g::r)))
def Ea(l:List (Int × GV)):(List (Int × GV)->Bool)->Bool:=@List.rec (Int × GV) (fun q0=>(List (Int × GV)->Bool)->Bool) (fun k=>k []) (fun g q0 ih k=>fI g.1 fun i=>wE g.2 fun g=>ih fun r=>k ((i,g)::r)) l
theorem ua:∀(l:List (Int × GV)) (k:List (Int × GV)->Bool),Ea l k=k l
 | [],_=>rfl
 | g::l,k=>by show fI g.1 (fun i=>wE g.2 fun h=>Ea l fun r=>k ((i,h)::r))=_; rw [lV,pI,ua]
def WH(o:GO):(GO->Bool)->Bool:=@GO.rec (fun q0=>(GO->Bool)->Bool) (fun k=>k .junk) (fun l k=>ED l fun l=>k (.list l)) (fun l k=>ED l fun l=>k (.tuple l)) (fun C d k=>fN C fun C=>fN d fun d=>k (.inst C d)) (fun l k=>PJ l fun l=>k (.idict l)) (fun k=>k .d0) (fun l k=>Ea l fun l=>k (.di l)) (fun l k=>PJ l fun l=>k (.ds l)) (fun g k=>k (.cell g)) (fun l k=>k (.ns l)) (fun a b k=>k (.liter a b)) (fun a b k=>k (.titer a b)) (fun a b k=>k (.riter a b)) (fun f k=>k (.pool f)) (fun n k=>k (.rng n)) (fun i k=>fN i fun i=>k (.flat i)) (fun k=>k .oit) (fun l k=>Ea l fun l=>k (.dm l)) (fun a b k=>k (.exn a b)) (fun a b k=>k (.exc a b)) (fun a b k=>k (.enum a b)) (fun a b k=>k (.row a b)) (fun i g k=>fN i fun i=>wE g fun g=>k (.dk i g)) o
theorem Qe(o:GO)(k:GO->Bool):WH o k=k o:=by
 cases o with
 | list l=>exact uu l fun l=>k (.list l)
 | tuple l=>exact uu l fun l=>k (.tuple l)
 | inst C d=>exact (bO C _).trans (bO d fun d=>k (.inst C d))
 | idict l=>exact tW l fun l=>k (.idict l)
 | di l=>exact ua l fun l=>k (.di l)
 | ds l=>exact tW l fun l=>k (.ds l)
 | flat i=>exact bO i fun i=>k (.flat i)
 | dm l=>exact ua l fun l=>k (.dm l)
 | dk i g=>exact (bO i _).trans (pI g fun g=>k (.dk i g))
 | _=>rfl
def W1(t:Tr):(Tr->Bool)->Bool:=@Tr.rec (fun q0=>(Tr->Bool)->Bool) (fun k=>k .e) (fun q0 o q0 il ir k=>il fun l=>WH o fun o=>ir fun r=>k (.n l o r)) t
theorem u8:∀(t:Tr) (k:Tr->Bool),W1 t k=k t
 | .e,_=>rfl
 | .n l o r,k=>(u8 l _).trans ((Qe o _).trans (u8 r fun r=>k (.n l o r)))
inductive NT where
 | one (k:Nat)
 | n (l:NT) (k:Nat) (r:NT)
def iA(c:Nat)(t:NT):Bool:=@NT.rec (fun q0=>Bool) (fun k=>Nat.beq c k) (fun q0 k q0 l r=>@Bool.rec (fun q0=>Bool) r l (Nat.ble (Nat.succ c) k)) t
def cq(f:Nat->Bool)(t:NT):Bool:=@NT.rec (fun q0=>Bool) (fun k=>f k) (fun q0 q0 q0 l r=>@Bool.rec (fun q0=>Bool) false r l) t
theorem cf{f:Nat->Bool}{l r:NT}{k:Nat}(h1:cq f l=true)(h2:cq f r=true):cq f (.n l k r)=true:=by
 show @Bool.rec (fun q0=>Bool) false (cq f r) (cq f l)=true
 rw [h1]; exact h2
theorem ng{f:Nat->Bool}{c:Nat}:∀{t:NT},cq f t=true->iA c t=true->f c=true
 | .one k,h,m=>by rw [Nat.eq_of_beq_eq_true (show Nat.beq c k=true from m)]; exact h
 | .n l k r,h,m=>by
  obtain ⟨h1,h2⟩:=(aJ (show @Bool.rec (fun q0=>Bool) false (cq f r) (cq f l)=true from h))
  have m:@Bool.rec (fun q0=>Bool) (iA c r) (iA c l) (Nat.ble (Nat.succ c) k)=true:=m
  cases q:Nat.ble (Nat.succ c) k with
  | true=>rw [q] at m; exact ng h1 m
  | false=>rw [q] at m; exact ng h2 m
noncomputable def ji(v:Nat->Int)(n:Nat)(i:Nat):List Int:=@Nat.rec (fun q0=>Nat->List Int) (fun q0=>[]) (fun q0 ih i=>v i::ih (Nat.succ i)) n i
theorem xc(v:Nat->Int):∀(vals:List Int) (i:Nat),(∀k,k<vals.length->vals[k]?=some (v (i+k)))->ji v vals.length i=vals
 | [],i,h=>rfl
 | z::vals,i,h=>by
  show v i::ji v vals.length (Nat.succ i)=z::vals
  rw [xc v vals (Nat.succ i) fun k hk=>by
   have:=h (k+1) (by simp; lia)
   rw [List.getElem?_cons_succ] at this
   rw [this]; congr 2; lia]
  have:=h 0 (by simp)
  simp at this
  rw [this]
theorem vW(vals:List Int):∃v,vals=ji v vals.length 0:=⟨fun k=>vals.getD k 0,(xc _ vals 0 fun k hk=>by rw [Nat.zero_add,List.getD_eq_getElem?_getD,List.getElem?_eq_getElem hk]; rfl).symm⟩
theorem nI{z:Int}:∀{cs:List Bool} {vals:List Int},vals.length=cs.length->mj cs vals->gC (cW cs vals++[(z,z)]) (vals++[z])
 | [],[],_,_,k,b,h=>by
  match k,h with
  | 0,h=>cases h; exact ⟨z,rfl,Int.le_refl _,Int.le_refl _⟩
  | k+1,h=>simp [cW] at h
 | [],_::_,h,_,_,_,_=>by simp at h
 | _::_,[],h,_,_,_,_=>by simp at h
 | c::cs,v::vals,h,g,k,b,e=>by
  match k,e with
  | 0,e=>
   have e:some (yy c v)=some b:=e
   cases e
   refine ⟨v,rfl,?_⟩
   cases c with
   | false=>exact ⟨Int.le_refl _,Int.le_refl _⟩
   | true=>
    have:0<=v:=g 0 v rfl rfl
    show (0:Int)<=v/\v<=((v.toNat:Nat):Int)
    lia
  | k+1,e=>exact nI (by simpa using h) (fun i w h1 h2=>g (i+1) w (by rw [List.getElem?_cons_succ]; exact h1) (by rw [List.getElem?_cons_succ]; exact h2)) k b e
theorem yl{cs:List Bool}{vals:List Int}(h:vals.length=cs.length)(z:Int):(cW cs vals++[(z,z)]).length=vals.length+1:=by rw [List.length_append,rY h,h]; rfl
def wT(c:Value->Bool)(f:EV)(p0:eh):KS:=fun gf H nx R loc=>@GF.rec (fun q0=>Bool) (vw c f p0 H nx R loc) false false (fun q0=>false) gf
def pc:rU:=fun g h H nx R k=>fP g fun a=>eG h fun j=>fI (Int.neg j) fun r=>vZ a (.lit r) (fun i j=>fI (Int.add i j) fun r=>k (.int (.lit r)) H nx R) (yr a (.lit r) fun e=>k (.int e) H nx R)
theorem lB{x:aQ}{d:Nat}:wB x d pc fun u v=>binaryOp .Sub u v:=by
 intro g h H nx R k e A O L m J s u v Q E Hh S iu iv hQ
 symm
 obtain ⟨a,rfl,e1⟩:=dA e
 obtain ⟨j,rfl,e2⟩:=cM e1
 rw [lV] at e2
 obtain ⟨z,e3,q⟩:=(vC e2)
 obtain ⟨t,rfl,o1⟩:=iu
 obtain ⟨t2,rfl,o2⟩:=iv
 obtain ⟨q1,q2⟩:=(q J.ns o1 trivial)
 symm
 refine AutoIntOps.sub_0 (show Q (.int (a.ev J.ns - j) s.toks) { s with toks:=s.toks+1 } from ?_)
 have e4:a.ev J.ns - j=z.ev J.ns:=by rw [q2]; show a.ev J.ns - j=a.ev J.ns + -j; lia
 rw [e4]
 exact hQ.now S (.int _ q1) e3 _
def eu:EQ:=W2 8
theorem cy{x:aQ}{d:Nat}(hT:x.T.Nodup):fT x d .NotEq eu:=Rk hT
section
variable {x:aQ} {d:Nat} {vs:aq}
theorem DT{r:jR}{b b2 f fe:SX}{fi:EV}{ts:List Expr}{b1s b2s l rest:List Stmt}{e:Expr}(hpre:bT x d vs f l)(hend:bT x d vs fe rest)(hr:hO x d vs r ts)(hp:bx ts=true)(hl:ts.length=3)(hb:bT x d vs b b1s)(hb2:bT x d vs b2 b2s)(hvs:(vs.all fun p=>match p.2 with | .loc=>true | .glo=>true | _=>false)=true)
  {Inv:eh->Prop} {RowOk:Nat->Nat->Prop} (hno:∀pat,Inv pat->py pat.P=true/\pat.P.length<300) (ul:∀pat,Inv pat->∀vals:List Int,vals.length=pat.cs.length->mj pat.cs vals->b2 (ed (pat.P++[.oit])) (pat.P.length+1) (.mk (cW pat.cs vals) []) (ew pat.rt) (jy pat .oit pat.P.length) gw=true)
  (step:∀pat,Inv pat->∀who deed,RowOk who deed->∀(z:Int) (vals:List Int),vals.length=pat.cs.length->mj pat.cs vals->∃pat' ge w B,Inv pat'/\ge.ok (vals.length+1)/\ge.ev (vals++[w])=z/\gC B (vals++[w])/\B.length=vals.length+1/\
   r [.int (.lit (.ofNat who)),.str deed,.int ge] (ed (pat.P++[.oit])) (pat.P.length+1) (.mk B []) (ew pat.rt) (fun H nx R loc=>b H nx R loc (jy pat' .oit pat.P.length) gw)=true)
  (hfin:∀pat,Inv pat->∀vals:List Int,vals.length=pat.cs.length->mj pat.cs vals->fe (ed (pat.P++[.junk])) (pat.P.length+1) (.mk (cW pat.cs vals) []) (ew pat.rt) vQ gw=true)
  (hf:aK x d vs fi e) (hn:jS e=true) {p0:eh} (hi0:Inv p0) {loc:Addr->List GV} (h0:∀(c:Value->Bool) (la:Addr),f .e 0 (.mk [] []) (loc la) (wT c fi p0) gw=c (.ref la)) {kd:Nat} {tp pos:Pos}
  {la:Addr} {rows:List (Nat × Nat × Int)} (hrows:Rows x la rows) (mq:∀q∈rows,RowOk q.1 q.2.1) {ds:Nat->List nF} {A:Around} {env:Env} {h₁:Heap} {L:Addr} {m:Str->Option Value} {s:Shared} {Q:Flow->Shared->Prop} {Eo:Value->Shared->Prop}
  (Z:de x d A h₁ L) (En:bP env L) (S:St x ⟨[],[],ds,(la,0)⟩ .e 0 (.mk [] []) h₁ L m s) (Lo:bq x ⟨[],[],ds,(la,0)⟩ env L m vs (loc la))
  (hQ:∀g J' H' nx' R' m' s',KtsTurn (cS A) h₁ g->St x J' H' nx' R' g L m' s'->Q (.ret (.bool true)) s'):wpAny (model x.prog x.w) A (execs (l++.For (.Tuple ts kd tp) e (b1s++b2s) [] pos::rest) env) Q Eo s:=by
 rw [kv]
 have hs:=h0 (fun v=>decide (v=.ref la)) la
 rw [decide_eq_true rfl] at hs
 refine wpAny_bind (hpre _ _ _ _ _ _ hs A env h₁ L m _ s _ Eo Z En S Lo (fun g J1 H nx R loc1 m1 s1 gf fl T le S1 Lo1 hfl hk=>?_) fun g J' H nx R m s i e T le U hk=>by cases hk)
 cases hfl with
 | brk=>cases hk
 | cont=>cases hk
 | ret i=>cases hk
 | next=>
 have hk:vw (fun v=>decide (v=.ref la)) fi p0 H nx R loc1=true:=hk
 exact wpAny_execs_cons (RH hr hp hl hb hb2 hvs hno ul step hrows mq hf hn (fun v q=>of_decide_eq_true q) hi0 hk (Z.turn T) En S1 Lo1 le.2.2.2.symm fun g2 pat m2 s2 it a T2 hi I=>by
  symm
  obtain ⟨J,vals,vl,S2,Lo2,q0,q0,q0,sg⟩:=I.ex
  symm
  exact Bg hend (hfin pat hi vals vl sg) ((Z.turn T).turn T2) En S2 Lo2 fun g3 J3 H3 nx3 R3 m3 s3 T3 S3=>hQ g3 J3 H3 nx3 R3 m3 s3 ((T.trans T2).trans T3) S3)
end
end
end
end Internal.N
namespace Internal.L
open Internal.N
noncomputable section
structure ak where
 tl:Frag
 prog:Program
 w:World
 p:Program
 loose:List Str
 mean:ExcName->Option Value
 mg:Str->Option Value
 mb:Str->Option Value
 os:OsState
def fx(P:ak):aQ:=⟨P.prog,P.w,K P.w++P.tl,P.p,P.loose,P.mean,P.mg,P.mb,T,CT,400,P.os⟩
noncomputable def jt(s:Str):Nat:=s.cps.toList.foldl (fun a c=>a * 2097152+c+1) 0
noncomputable def w4:List Str->Nat->Bool
 | [],_=>true
 | s::r,n=>Nat.blt n (jt s)&&w4 r (jt s)
theorem tN:∀{l:List Str} {n:Nat},w4 l n=true->∀s∈l,n<jt s
 | [],_,_,_,h=>by cases h
 | t::r,n,h,s,hs=>by
  obtain ⟨h1,h2⟩:=Bool.and_eq_true_iff.mp h
  have h1:n<jt t:=Nat.le_of_ble_eq_true h1
  rcases List.mem_cons.mp hs with rfl | hs
  ·exact h1
  ·exact Nat.lt_trans h1 (tN h2 s hs)
theorem sm:∀{l:List Str} {n:Nat},w4 l n=true->l.Nodup
 | [],_,_=>List.nodup_nil
 | t::r,n,h=>by
  obtain ⟨h1,h2⟩:=Bool.and_eq_true_iff.mp h
  exact List.nodup_cons.mpr ⟨fun q=>Nat.lt_irrefl _ (tN h2 t q),sm h2⟩
noncomputable def Zs:List Str->Bool
 | []=>true
 | s::r=>w4 r (jt s)
theorem ye{l:List Str}(h:Zs l=true):l.Nodup:=by
 cases l with
 | nil=>exact List.nodup_nil
 | cons t r=>exact List.nodup_cons.mpr ⟨fun q=>Nat.lt_irrefl _ (tN (show w4 r (jt t)=true from h) t q),sm (show w4 r (jt t)=true from h)⟩
theorem F6:T.Nodup:=ye (by kernel_rfl)
theorem hT{P:ak}:(fx P).T.Nodup:=F6
theorem FW:(T.all fun s=>!Nat.beq (jt s) (jt ("__debug__" : Str)))=true:=by kernel_rfl
theorem hD{P:ak}:("__debug__" : Str)∉(fx P).T:=fun h=>by
 have:=List.all_eq_true.mp FW _ h
 rw [Nat.beq_refl] at this
 cases this
theorem jM(P:ak):iW (fx P):=⟨_,rfl⟩
theorem aX{P:ak}{a:Nat}(h:Nat.blt a 400=true):a<(fx P).nd:=Nat.le_of_ble_eq_true h
noncomputable def tR(F:Frag)(t:Str)(C:Addr):Bool:=plainGet F C t&&hasDictIn F C&&(findIn F (.ref C) t == some none)&&(findIn F (.ref C) "__setattr__" == some (some (.builtin "object.__setattr__")))&&plainOver F C&&(takerIn F C t == some none)
theorem bi{x:aQ}{t:Str}(h:x.CT.all (tR x.K t)=true):aS x t:=fun C hC=>by
 have:=List.all_eq_true.mp h C hC
 unfold tR at this
 simp only [Bool.and_eq_true,beq_iff_eq] at this
 obtain ⟨⟨⟨⟨⟨a,b⟩,c⟩,d⟩,e⟩,f⟩:=this
 exact ⟨a,b,c,d,e,f⟩
theorem vT{x:aQ}{t:Str}{C:Nat}{cx:Addr}(h:x.CT[C]?=some cx)(h2:tR x.K t cx=true):pd x C t:=fun cx' e=>by
 rw [h] at e
 cases e
 exact bi (x:={ x with CT:=[cx] }) (by show ([cx].all (tR x.K t))=true; simp [h2])
theorem at_{α:Type}{l r:List α}(h:l=r)(k:Nat){a b:α}(h1:l[k]?=some a)(h2:r[k]?=some b):a=b:=by subst h; rw [h1] at h2; exact Option.some.inj h2
inductive oP (x:aQ) (d:Nat) (aO:Nat->SV) (cx:Addr):List (Nat × Nat × aE)->Prop
 | nil:oP x d aO cx []
 | cons {a j:Nat} {r:aE} {l:List (Nat × Nat × aE)} {t:Str} {fI:Addr}:x.T[a]?=some t->plainGet x.K cx t=true->findIn x.K (.ref cx) t=some (some (.ref fI))->aU x d r (aO j) fI->oP x d aO cx l->oP x d aO cx ((a,j,r)::l)
inductive om (x:aQ) (d:Nat) (aO:Nat->SV):List Addr->nB->Prop
 | nil:om x d aO [] []
 | cons {cx:Addr} {cs:List Addr} {l:List (Nat × Nat × aE)} {ms:nB}:oP x d aO cx l->om x d aO cs ms->om x d aO (cx::cs) (l::ms)
theorem oP.mem{x:aQ}{d:Nat}{aO:Nat->SV}{cx:Addr}{l:List (Nat × Nat × aE)}(h:oP x d aO cx l):∀a j r,(a,j,r)∈l->∃t fI,x.T[a]?=some t/\plainGet x.K cx t=true/\findIn x.K (.ref cx) t=some (some (.ref fI))/\aU x d r (aO j) fI:=by
 induction h with
 | nil=>intro a j r h; cases h
 | cons h1 h2 h3 h4 _ ih=>
  intro a j r h
  rcases List.mem_cons.mp h with e | h
  ·cases e; exact ⟨_,_,h1,h2,h3,h4⟩
  ·exact ih a j r h
theorem om.ok{x:aQ}{d:Nat}{aO:Nat->SV}{cs:List Addr}{ms:nB}(h:om x d aO cs ms):∀(C:Nat) (l:List (Nat × Nat × aE)),ms[C]?=some l->∃cx,cs[C]?=some cx/\oP x d aO cx l:=by
 induction h with
 | nil=>intro C l h; simp at h
 | cons h1 _ ih=>
  intro C l h
  cases C with
  | zero=>simp at h; subst h; exact ⟨_,rfl,h1⟩
  | succ C=>rw [List.getElem?_cons_succ] at h ⊢; exact ih C l h
theorem uU.of{x:aQ}{d:Nat}{aO:Nat->SV}{ms:nB}(h:om x d aO x.CT ms):uU x d ms aO:=fun C l hl a j r hm=>by
 obtain ⟨cx,h1,h2⟩:=h.ok C l hl
 obtain ⟨t,fI,h3,h4,h5,h6⟩:=h2.mem a j r hm
 exact ⟨cx,t,fI,h1,h3,h4,h5,h6⟩
def sQ(l:List GV):Bool:=@List.rec GV (fun q0=>Bool) true (fun g q0 ih=>@GV.rec (fun q0=>Bool) ih false (fun q0=>false) (fun q0=>false) (fun q0=>false) (fun q0=>false) (fun q0=>false) (fun q0=>false) false g) l
theorem gN:∀{l:List GV},sQ l=true->∀j,ba l j=.nul
 | [],_,_=>rfl
 | g::l,h,0=>by cases g <;> first | rfl | cases h
 | g::l,h,j+1=>by cases g <;> first | exact gN (l:=l) h j | cases h
theorem bW{x:aQ}{D:aV}{r:aE}(h1:D.dV=.none)(h2:r.np - r.f=0)(h3:sQ r.tl=true):∃ds:List Value,ds.length=r.np - r.f/\((D.dV=.none/\ds=[])∨∃t oc od n sl,D.dV=.ref t/\x.K.lookup t=some ⟨oc,od,.seq ds.toArray n,sl⟩)/\(∀j v,ds[j]?=some v->d7 x.T (ba r.tl j) v)/\∀j,ds.length<=j->ba r.tl j=.nul:=
 ⟨[],by rw [h2]; rfl,.inl ⟨h1,rfl⟩,fun j v h=>by simp at h,fun j q0=>gN h3 j⟩
theorem dv1{x:aQ}{D:aV}{r:aE}{t:Addr}{n:Nat}{oc:Value}{od:Option Addr}{sl:Array (Option Value)}{tl:List GV}(h1:D.dV=.ref t)(h0:x.K.lookup t=some ⟨oc,od,.seq #[.none] n,sl⟩)(h2:r.np - r.f=1)(ht:r.tl=.none::tl)(h3:sQ tl=true) :
  ∃ds:List Value,ds.length=r.np - r.f/\((D.dV=.none/\ds=[])∨∃t oc od n sl,D.dV=.ref t/\x.K.lookup t=some ⟨oc,od,.seq ds.toArray n,sl⟩)/\(∀j v,ds[j]?=some v->d7 x.T (ba r.tl j) v)/\∀j,ds.length<=j->ba r.tl j=.nul:=by
 refine ⟨[.none],by rw [h2]; rfl,.inr ⟨t,oc,od,n,sl,h1,h0⟩,fun j v h=>?_,fun j hj=>?_⟩
 ·rw [ht]
  cases j with
  | zero=>simp at h; subst h; exact .none
  | succ j=>simp at h
 ·rw [ht]
  cases j with
  | zero=>simp at hj
  | succ j=>exact gN h3 j
theorem dv2{x:aQ}{D:aV}{r:aE}{t:Addr}{n:Nat}{oc:Value}{od:Option Addr}{sl:Array (Option Value)}{tl:List GV}{z:Int}{tk:Tok}(h1:D.dV=.ref t)(h0:x.K.lookup t=some ⟨oc,od,.seq #[.int z tk] n,sl⟩)(h2:r.np - r.f=1)(ht:r.tl=.int (.lit z)::tl)(h3:sQ tl=true) :
  ∃ds:List Value,ds.length=r.np - r.f/\((D.dV=.none/\ds=[])∨∃t oc od n sl,D.dV=.ref t/\x.K.lookup t=some ⟨oc,od,.seq ds.toArray n,sl⟩)/\(∀j v,ds[j]?=some v->d7 x.T (ba r.tl j) v)/\∀j,ds.length<=j->ba r.tl j=.nul:=by
 refine ⟨[.int z tk],by rw [h2]; rfl,.inr ⟨t,oc,od,n,sl,h1,h0⟩,fun j v h=>?_,fun j hj=>?_⟩
 ·rw [ht]
  cases j with
  | zero=>simp at h; subst h; exact .int _ _
  | succ j=>simp at h
 ·rw [ht]
  cases j with
  | zero=>simp at hj
  | succ j=>exact gN h3 j
theorem fq{x:aQ}{d:Nat}{vs:aq}(hs:aA x vs){ts es:List Expr}{js rj:List Nat}{n:Nat}{names:List Str}{f:EV}{r:SV}{rest:List Stmt}{k1 k2:Nat}{p1 p2:Pos}(hj:fX x vs js names)(hf:aK x d vs f (.Tuple es k2 p2))(hr:au x d vs r rest)
  (hn:jA ts ((ts.head?.map (·.pos.line)).getD 0)=some names) (hL:ts.length=n) (hj':js.reverse=rj) (h2:ts.length=2∨ts.length=3) (hl:es.length=ts.length) (hp:bx es=true) (hd:names.Nodup) (hc1:es.all (foldedForSure 8)=false) (hc2:es.all (constantsAlone 8)=false) (pos:Pos) :
  au x d vs (j6 n rj f r) (.Assign [.Tuple ts k1 p1] (.Tuple es k2 p2) pos::rest):=by
 subst hL
 subst hj'
 exact FU hs hj hf hr hn h2 hl hp hd hc1 hc2 pos
inductive aI (T:List Str):aq->List Str->Prop
 | nil {vs:aq}:aI T vs []
 | cons {i:Nat} {kd:SK} {s:Str} {vs:aq} {ss:List Str}:T[i]?=some s->(kd=.loc∨kd=.cel)->aI T vs ss->aI T ((i,kd)::vs) (s::ss)
theorem aI.ok{T:List Str}{vs:aq}{ss:List Str}(h:aI T vs ss):∀(j:Nat) (s:Str),ss[j]?=some s->∃i kd,vs[j]?=some (i,kd)/\T[i]?=some s/\(kd=.loc∨kd=.cel):=by
 induction h with
 | nil=>intro j s h; simp at h
 | cons h1 h2 _ ih=>
  intro j s h
  cases j with
  | zero=>simp at h; subst h; exact ⟨_,_,rfl,h1,h2⟩
  | succ j=>rw [List.getElem?_cons_succ] at h ⊢; exact ih j s h
theorem nL{T:List Str}{i:Nat}{s:Str}{r:aq}{ns:List (Str × NameKind)}(h:T[i]?=some s)(h2:cD T r ns):cD T ((i,.loc)::r) ((s,.local)::ns):=.cons h (by intro q; cases q) h2
theorem nC{T:List Str}{i:Nat}{s:Str}{r:aq}{ns:List (Str × NameKind)}(h:T[i]?=some s)(h2:cD T r ns):cD T ((i,.cel)::r) ((s,.cell)::ns):=.cons h (by intro q; cases q) h2
theorem nG{T:List Str}{i:Nat}{s:Str}{r:aq}{ns:List (Str × NameKind)}(h:T[i]?=some s)(h2:cD T r ns):cD T ((i,.glo)::r) ((s,.globalImplicit)::ns):=.cons h (by intro q; cases q) h2
theorem fX.mem{x:aQ}{vs:aq}{js:List Nat}{ts:List Str}(h:fX x vs js ts):∀{t:Str},t∈ts->∃j i,j∈js/\vs[j]?=some (i,.loc)/\x.T[i]?=some t:=by
 induction h with
 | nil=>intro t h; cases h
 | cons h1 h2 _ ih=>
  intro t h
  rcases List.mem_cons.mp h with rfl | h
  ·exact ⟨_,_,.head _,h1,h2⟩
  ·obtain ⟨j,i,a,b,c⟩:=ih h; exact ⟨j,i,.tail _ a,b,c⟩
theorem lq{x:aQ}{vs:aq}{js:List Nat}{ts:List Str}(hs:aA x vs)(h:fX x vs js ts)(nd:js.Nodup):ts.Nodup:=by
 induction h with
 | nil=>exact List.nodup_nil
 | cons h1 h2 h3 ih=>
  obtain ⟨n1,n2⟩:=List.nodup_cons.mp nd
  refine List.nodup_cons.mpr ⟨fun q=>?_,ih n2⟩
  obtain ⟨j,i,a,b,c⟩:=fX.mem h3 q
  exact n1 (rV hs h1 b h2 c▸a)
abbrev TT(P:ak)(i:Nat)(s:Str):Prop:=(fx P).T[i]?=some s
theorem T1{P:ak}:TT P 1 "T":=rfl
theorem T5{P:ak}:TT P 5 ".0":=rfl
theorem T8{P:ak}:TT P 8 "all":=rfl
theorem T9{P:ak}:TT P 9 "due":=rfl
theorem WO{P:ak}:TT P 11 "int":=rfl
theorem KG{P:ak}:TT P 12 "key":=rfl
theorem gF{P:ak}:TT P 13 "len":=rfl
theorem WZ{P:ak}:TT P 14 "max":=rfl
theorem jV{P:ak}:TT P 15 "one":=rfl
theorem ic{P:ak}:TT P 16 "own":=rfl
theorem dq{P:ak}:TT P 18 "row":=rfl
theorem fb{P:ak}:TT P 19 "run":=rfl
theorem nE{P:ak}:TT P 20 "who":=rfl
theorem mD{P:ak}:TT P 26 "call":=rfl
theorem WW{P:ak}:TT P 27 "case":=rfl
theorem P4{P:ak}:TT P 28 "cell":=rfl
theorem j8{P:ak}:TT P 30 "deed":=rfl
theorem QE{P:ak}:TT P 33 "fuel":=rfl
theorem T35{P:ak}:TT P 35 "gate":=rfl
theorem kU{P:ak}:TT P 36 "held":=rfl
theorem zm{P:ak}:TT P 37 "here":=rfl
theorem mi{P:ak}:TT P 38 "kind":=rfl
theorem Qb{P:ak}:TT P 39 "left":=rfl
theorem AB{P:ak}:TT P 41 "lost":=rfl
theorem i8{P:ak}:TT P 42 "many":=rfl
theorem T43{P:ak}:TT P 43 "maps":=rfl
theorem WK{P:ak}:TT P 44 "name":=rfl
theorem EZ{P:ak}:TT P 46 "path":=rfl
theorem Wi{P:ak}:TT P 47 "pick":=rfl
theorem mf{P:ak}:TT P 49 "reel":=rfl
theorem sq{P:ak}:TT P 50 "room":=rfl
theorem EC{P:ak}:TT P 51 "rows":=rfl
theorem bD{P:ak}:TT P 52 "self":=rfl
theorem Eu{P:ak}:TT P 55 "size":=rfl
theorem AX{P:ak}:TT P 56 "some":=rfl
theorem Ip{P:ak}:TT P 57 "spot":=rfl
theorem NL{P:ak}:TT P 59 "take":=rfl
theorem E7{P:ak}:TT P 60 "task":=rfl
theorem NV{P:ak}:TT P 61 "text":=rfl
theorem jX{P:ak}:TT P 62 "told":=rfl
theorem E8{P:ak}:TT P 63 "turn":=rfl
theorem T65{P:ak}:TT P 65 "want":=rfl
theorem EE{P:ak}:TT P 66 "work":=rfl
theorem T67{P:ak}:TT P 67 "zero":=rfl
theorem z8{P:ak}:TT P 69 "PLAIN":=rfl
theorem WE{P:ak}:TT P 70 "World":=rfl
theorem T73{P:ak}:TT P 73 "begin":=rfl
theorem T74{P:ak}:TT P 74 "calls":=rfl
theorem Wt{P:ak}:TT P 75 "cells":=rfl
theorem T77{P:ak}:TT P 77 "count":=rfl
theorem pn{P:ak}:TT P 79 "deeds":=rfl
theorem Kc{P:ak}:TT P 80 "ended":=rfl
theorem T82{P:ak}:TT P 82 "files":=rfl
theorem ln{P:ak}:TT P 83 "found":=rfl
theorem T84{P:ak}:TT P 84 "funcs":=rfl
theorem As{P:ak}:TT P 85 "gates":=rfl
theorem T86{P:ak}:TT P 86 "group":=rfl
theorem T87{P:ak}:TT P 87 "inits":=rfl
theorem T88{P:ak}:TT P 88 "inner":=rfl
theorem We{P:ak}:TT P 89 "locks":=rfl
theorem T90{P:ak}:TT P 90 "named":=rfl
theorem T91{P:ak}:TT P 91 "order":=rfl
theorem Fk{P:ak}:TT P 92 "panic":=rfl
theorem jq{P:ak}:TT P 93 "place":=rfl
theorem AW{P:ak}:TT P 95 "range":=rfl
theorem T97{P:ak}:TT P 97 "sends":=rfl
theorem uw{P:ak}:TT P 98 "state":=rfl
theorem T99{P:ak}:TT P 99 "store":=rfl
theorem Dh{P:ak}:TT P 100 "taken":=rfl
theorem abO{P:ak}:TT P 101 "taker":=rfl
theorem Xw{P:ak}:TT P 102 "takes":=rfl
theorem Dn{P:ak}:TT P 103 "truth":=rfl
theorem acn{P:ak}:TT P 104 "tuple":=rfl
theorem mG{P:ak}:TT P 105 "typed":=rfl
theorem ej{P:ak}:TT P 106 "value":=rfl
theorem Dl{P:ak}:TT P 107 "waits":=rfl
theorem kJ{P:ak}:TT P 108 "world":=rfl
theorem X9{P:ak}:TT P 110 "adding":=rfl
theorem qj{P:ak}:TT P 111 "answer":=rfl
theorem DP{P:ak}:TT P 112 "behind":=rfl
theorem Y8{P:ak}:TT P 113 "bodies":=rfl
theorem Zu{P:ak}:TT P 115 "consts":=rfl
theorem xX{P:ak}:TT P 116 "counts":=rfl
theorem Xp{P:ak}:TT P 117 "defers":=rfl
theorem Ka{P:ak}:TT P 118 "do_now":=rfl
theorem XN{P:ak}:TT P 119 "groups":=rfl
theorem xu{P:ak}:TT P 121 "let_go":=rfl
theorem Qi{P:ak}:TT P 122 "may_do":=rfl
theorem cG{P:ak}:TT P 123 "number":=rfl
theorem aam{P:ak}:TT P 124 "prints":=rfl
theorem ZF{P:ak}:TT P 125 "scopes":=rfl
theorem oD{P:ak}:TT P 126 "script":=rfl
theorem qW{P:ak}:TT P 127 "sender":=rfl
theorem Y1{P:ak}:TT P 128 "serves":=rfl
theorem aaA{P:ak}:TT P 129 "settle":=rfl
theorem x5{P:ak}:TT P 130 "sorted":=rfl
theorem Xv{P:ak}:TT P 131 "starts":=rfl
theorem oJ{P:ak}:TT P 134 "takers":=rfl
theorem gy{P:ak}:TT P 136 "values":=rfl
theorem HQ{P:ak}:TT P 137 "Choices":=rfl
theorem ra{P:ak}:TT P 138 "GoPanic":=rfl
theorem abd{P:ak}:TT P 139 "add_now":=rfl
theorem Bq{P:ak}:TT P 141 "base_of":=rfl
theorem BU{P:ak}:TT P 142 "channel":=rfl
theorem nY{P:ak}:TT P 143 "choices":=rfl
theorem CE{P:ak}:TT P 144 "do_send":=rfl
theorem CJ{P:ak}:TT P 145 "globals":=rfl
theorem Du{P:ak}:TT P 147 "message":=rfl
theorem Dj{P:ak}:TT P 148 "methods":=rfl
theorem Pb{P:ak}:TT P 149 "new_one":=rfl
theorem vm{P:ak}:TT P 150 "outcome":=rfl
theorem BH{P:ak}:TT P 151 "package":=rfl
theorem fh{P:ak}:TT P 153 "routine":=rfl
theorem kI{P:ak}:TT P 155 "senders":=rfl
theorem iy{P:ak}:TT P 156 "waiting":=rfl
theorem uN{P:ak}:TT P 157 "NamedRow":=rfl
theorem M3{P:ak}:TT P 158 "PlainRun":=rfl
theorem uo{P:ak}:TT P 160 "_law_one":=rfl
theorem lO{P:ak}:TT P 161 "_law_run":=rfl
theorem fQ{P:ak}:TT P 162 "channels":=rfl
theorem BN{P:ak}:TT P 163 "function":=rfl
theorem aaa{P:ak}:TT P 164 "is_whole":=rfl
theorem Py{P:ak}:TT P 165 "lock_now":=rfl
theorem Cc{P:ak}:TT P 166 "make_one":=rfl
theorem Qd{P:ak}:TT P 167 "may_send":=rfl
theorem Nt{P:ak}:TT P 168 "may_take":=rfl
theorem Yo{P:ak}:TT P 169 "measured":=rfl
theorem Xr{P:ak}:TT P 170 "mentions":=rfl
theorem Rb{P:ak}:TT P 171 "next_one":=rfl
theorem BM{P:ak}:TT P 172 "packages":=rfl
theorem QX{P:ak}:TT P 173 "pick_one":=rfl
theorem jY{P:ak}:TT P 175 "routines":=rfl
theorem Pr{P:ak}:TT P 176 "send_now":=rfl
theorem Mp{P:ak}:TT P 177 "take_now":=rfl
theorem IW{P:ak}:TT P 178 "wait_for":=rfl
theorem Mg{P:ak}:TT P 179 "wait_now":=rfl
theorem BP{P:ak}:TT P 180 "wake_one":=rfl
theorem PK{P:ak}:TT P 181 "ChanError":=rfl
theorem IE{P:ak}:TT P 182 "Exception":=rfl
theorem abY{P:ak}:TT P 183 "NameFault":=rfl
theorem Ce{P:ak}:TT P 184 "PlainCall":=rfl
theorem aan{P:ak}:TT P 185 "TypeFault":=rfl
theorem Nb{P:ak}:TT P 186 "_law_gate":=rfl
theorem G8{P:ak}:TT P 187 "_law_reel":=rfl
theorem CI{P:ak}:TT P 188 "_law_sent":=rfl
theorem CU{P:ak}:TT P 189 "close_now":=rfl
theorem Pd{P:ak}:TT P 190 "enumerate":=rfl
theorem kH{P:ak}:TT P 191 "goroutine":=rfl
theorem rk{P:ak}:TT P 193 "is_closed":=rfl
theorem Yy{P:ak}:TT P 194 "late_keys":=rfl
theorem y4{P:ak}:TT P 195 "pass_gate":=rfl
theorem CH{P:ak}:TT P 196 "wait_here":=rfl
theorem xw{P:ak}:TT P 197 "wake_rows":=rfl
theorem aaO{P:ak}:TT P 198 "CLOSED_NIL":=rfl
theorem NQ{P:ak}:TT P 199 "PlainGates":=rfl
theorem Hv{P:ak}:TT P 200 "PlainStore":=rfl
theorem Bn{P:ak}:TT P 201 "_law_taken":=rfl
theorem kE{P:ak}:TT P 202 "_law_wound":=rfl
theorem DE{P:ak}:TT P 203 "do_receive":=rfl
theorem Z7{P:ak}:TT P 204 "is_through":=rfl
theorem NK{P:ak}:TT P 205 "known_rows":=rfl
theorem aal{P:ak}:TT P 206 "late_parts":=rfl
theorem aaB{P:ak}:TT P 207 "late_sizes":=rfl
theorem Bm{P:ak}:TT P 209 "underlying":=rfl
theorem acg{P:ak}:TT P 210 "unlock_now":=rfl
theorem yR{P:ak}:TT P 211 "zero_value":=rfl
theorem ym{P:ak}:TT P 212 "CLOSED_SEND":=rfl
theorem BO{P:ak}:TT P 213 "_law_closed":=rfl
theorem MX{P:ak}:TT P 214 "_law_passed":=rfl
theorem BS{P:ak}:TT P 215 "_law_stands":=rfl
theorem aaz{P:ak}:TT P 216 "is_deferred":=rfl
theorem uz{P:ak}:TT P 217 "may_compare":=rfl
theorem aax{P:ak}:TT P 220 "CLOSED_TWICE":=rfl
theorem M8{P:ak}:TT P 221 "MachineFault":=rfl
theorem IL{P:ak}:TT P 222 "PlainChannel":=rfl
theorem No{P:ak}:TT P 223 "PlainRoutine":=rfl
theorem IF{P:ak}:TT P 224 "_law_no_lock":=rfl
theorem Hc{P:ak}:TT P 225 "_law_pointer":=rfl
theorem Rx{P:ak}:TT P 226 "channel_type":=rfl
theorem oO{P:ak}:TT P 227 "meet_channel":=rfl
theorem Rg{P:ak}:TT P 228 "PlainChannels":=rfl
theorem Mk{P:ak}:TT P 229 "PlainRoutines":=rfl
theorem MD{P:ak}:TT P 230 "RUNTIME_ERROR":=rfl
theorem Ph{P:ak}:TT P 231 "all_functions":=rfl
theorem oA{P:ak}:TT P 232 "first_waiting":=rfl
theorem Cj{P:ak}:TT P 233 "received_told":=rfl
theorem qG{P:ak}:TT P 235 "runtime_panic":=rfl
theorem HN{P:ak}:TT P 236 "underlying_of":=rfl
theorem Qu{P:ak}:TT P 238 "_law_told_right":=rfl
theorem Xg{P:ak}:TT P 239 "nil dereference":=rfl
theorem tj{P:ak}:TT P 241 "_law_gates_right":=rfl
theorem IT{P:ak}:TT P 242 "place_of_pointer":=rfl
theorem yM{P:ak}:TT P 243 "number_of_channel":=rfl
theorem oj{P:ak}:TT P 245 "_law_channel_right":=rfl
theorem PI{P:ak}:TT P 250 "send on closed channel":=rfl
theorem abD{P:ak}:TT P 251 "unlock of unlocked mutex":=rfl
theorem Xo{P:ak}:TT P 252 "negative WaitGroup counter":=rfl
noncomputable def ON:List Str:= "all"::"answer"::"bodies"::"calls"::"cells"::"channels"::"choices"::"consts"::"counts"::"defers"::"files"::"fuel"::"funcs"::"function"::"gates"::"globals"::"held"::"here"::"inits"::"is_closed"::"is_deferred"::"is_whole"::"late_keys"::"late_parts"::"late_sizes"::"maps"::"measured"::"mentions"::"methods"::"named"::"number"::"order"::"outcome"::"package"::"packages"::"path"::"prints"::"room"::"routines"::"row"::"rows"::"scopes"::"serves"::"settle"::"starts"::"state"::"taken"::"typed"::"underlying"::"values"::"waiting"::"want"::"work"::"world"::[]
theorem OW(P:ak):ON.map (fun t=>(fx P).CT.all (tR (fx P).K t))=[true,true,true,true,true,true,true,true,true,true,true,true,true,true,true,true,true,true,true,true,true,true,true,true,true,true,true,true,true,true,true,true,true,true,true,true,true,true,true,true,true,true,true,true,true,true,true,true,true,true,true,true,true,true]:=by kernel_rfl
theorem jW(P:ak):aS (fx P) "all":=bi (at_ (OW P) 0 rfl rfl)
theorem pG(P:ak):aS (fx P) "answer":=bi (at_ (OW P) 1 rfl rfl)
theorem M0(P:ak):aS (fx P) "bodies":=bi (at_ (OW P) 2 rfl rfl)
theorem Sn(P:ak):aS (fx P) "calls":=bi (at_ (OW P) 3 rfl rfl)
theorem Em(P:ak):aS (fx P) "cells":=bi (at_ (OW P) 4 rfl rfl)
theorem dG(P:ak):aS (fx P) "channels":=bi (at_ (OW P) 5 rfl rfl)
theorem uG(P:ak):aS (fx P) "choices":=bi (at_ (OW P) 6 rfl rfl)
theorem NF(P:ak):aS (fx P) "consts":=bi (at_ (OW P) 7 rfl rfl)
theorem pJ(P:ak):aS (fx P) "counts":=bi (at_ (OW P) 8 rfl rfl)
theorem G0(P:ak):aS (fx P) "defers":=bi (at_ (OW P) 9 rfl rfl)
theorem RP(P:ak):aS (fx P) "files":=bi (at_ (OW P) 10 rfl rfl)
theorem VE(P:ak):aS (fx P) "fuel":=bi (at_ (OW P) 11 rfl rfl)
theorem ST(P:ak):aS (fx P) "funcs":=bi (at_ (OW P) 12 rfl rfl)
theorem Nx(P:ak):aS (fx P) "function":=bi (at_ (OW P) 13 rfl rfl)
theorem pW(P:ak):aS (fx P) "gates":=bi (at_ (OW P) 14 rfl rfl)
theorem vz(P:ak):aS (fx P) "globals":=bi (at_ (OW P) 15 rfl rfl)
theorem gq(P:ak):aS (fx P) "held":=bi (at_ (OW P) 16 rfl rfl)
theorem sR(P:ak):aS (fx P) "here":=bi (at_ (OW P) 17 rfl rfl)
theorem Wc(P:ak):aS (fx P) "inits":=bi (at_ (OW P) 18 rfl rfl)
theorem k6(P:ak):aS (fx P) "is_closed":=bi (at_ (OW P) 19 rfl rfl)
theorem HF(P:ak):aS (fx P) "is_deferred":=bi (at_ (OW P) 20 rfl rfl)
theorem Pu(P:ak):aS (fx P) "is_whole":=bi (at_ (OW P) 21 rfl rfl)
theorem HK(P:ak):aS (fx P) "late_keys":=bi (at_ (OW P) 22 rfl rfl)
theorem I8(P:ak):aS (fx P) "late_parts":=bi (at_ (OW P) 23 rfl rfl)
theorem Kw(P:ak):aS (fx P) "late_sizes":=bi (at_ (OW P) 24 rfl rfl)
theorem Ua(P:ak):aS (fx P) "maps":=bi (at_ (OW P) 25 rfl rfl)
theorem Rv(P:ak):aS (fx P) "measured":=bi (at_ (OW P) 26 rfl rfl)
theorem Mc(P:ak):aS (fx P) "mentions":=bi (at_ (OW P) 27 rfl rfl)
theorem HA(P:ak):aS (fx P) "methods":=bi (at_ (OW P) 28 rfl rfl)
theorem RM(P:ak):aS (fx P) "named":=bi (at_ (OW P) 29 rfl rfl)
theorem k8(P:ak):aS (fx P) "number":=bi (at_ (OW P) 30 rfl rfl)
theorem TC(P:ak):aS (fx P) "order":=bi (at_ (OW P) 31 rfl rfl)
theorem mK(P:ak):aS (fx P) "outcome":=bi (at_ (OW P) 32 rfl rfl)
theorem Nw(P:ak):aS (fx P) "package":=bi (at_ (OW P) 33 rfl rfl)
theorem KU(P:ak):aS (fx P) "packages":=bi (at_ (OW P) 34 rfl rfl)
theorem TH(P:ak):aS (fx P) "path":=bi (at_ (OW P) 35 rfl rfl)
theorem Np(P:ak):aS (fx P) "prints":=bi (at_ (OW P) 36 rfl rfl)
theorem EO(P:ak):aS (fx P) "room":=bi (at_ (OW P) 37 rfl rfl)
theorem gb(P:ak):aS (fx P) "routines":=bi (at_ (OW P) 38 rfl rfl)
theorem xD(P:ak):aS (fx P) "row":=bi (at_ (OW P) 39 rfl rfl)
theorem RU(P:ak):aS (fx P) "rows":=bi (at_ (OW P) 40 rfl rfl)
theorem NA(P:ak):aS (fx P) "scopes":=bi (at_ (OW P) 41 rfl rfl)
theorem Kt(P:ak):aS (fx P) "serves":=bi (at_ (OW P) 42 rfl rfl)
theorem Kp(P:ak):aS (fx P) "settle":=bi (at_ (OW P) 43 rfl rfl)
theorem Ma(P:ak):aS (fx P) "starts":=bi (at_ (OW P) 44 rfl rfl)
theorem ly(P:ak):aS (fx P) "state":=bi (at_ (OW P) 45 rfl rfl)
theorem vE(P:ak):aS (fx P) "taken":=bi (at_ (OW P) 46 rfl rfl)
theorem L5(P:ak):aS (fx P) "typed":=bi (at_ (OW P) 47 rfl rfl)
theorem LD(P:ak):aS (fx P) "underlying":=bi (at_ (OW P) 48 rfl rfl)
theorem eM(P:ak):aS (fx P) "values":=bi (at_ (OW P) 49 rfl rfl)
theorem e7(P:ak):aS (fx P) "waiting":=bi (at_ (OW P) 50 rfl rfl)
theorem SO(P:ak):aS (fx P) "want":=bi (at_ (OW P) 51 rfl rfl)
theorem sP(P:ak):aS (fx P) "work":=bi (at_ (OW P) 52 rfl rfl)
theorem vL(P:ak):aS (fx P) "world":=bi (at_ (OW P) 53 rfl rfl)
theorem DA(P:ak):pd (fx P) 3 "may_compare":=vT (cx:=579) rfl (by kernel_rfl)
theorem Ft(P:ak):pd (fx P) 2 "store":=vT (cx:=1840) rfl (by kernel_rfl)
theorem am{a b}:bZ (.Name a b)=true:=rfl
theorem aG{a b c}:bZ (.Constant a b c)=true:=rfl
theorem bL{a b c}:bZ (.Tuple a b c)=true:=rfl
theorem gn{a b}:bZ (.List a b)=true:=rfl
theorem wt{a b c}:bZ (.Dict a b c)=true:=rfl
theorem cu{a b c}:bZ (.Attribute a b c)=true:=rfl
theorem bS{a b c}:bZ (.Subscript a b c)=true:=rfl
theorem eS{a b c d}:bZ (.Call a b c d)=true:=rfl
theorem jG{a b c d}:bZ (.BinOp a b c d)=true:=rfl
theorem yp{a b c d}:bZ (.Compare a b c d)=true:=rfl
theorem iB{a b c d}:bZ (.IfExp a b c d)=true:=rfl
theorem ao:bx []=true:=rfl
theorem ag{e:Expr}{es:List Expr}(h:bZ e=true)(h2:bx es=true):bx (e::es)=true:=by unfold bx at h2 ⊢; rw [List.all_cons,h,h2]; rfl
theorem cI:typeOf (.builtin "list.append")=pure (.type "method_descriptor"):=by show builtinType _=_; rw [builtinType_eq_fast]; kernel_rfl
theorem sf:typeOf (.builtin "list.extend")=pure (.type "method_descriptor"):=by show builtinType _=_; rw [builtinType_eq_fast]; kernel_rfl
theorem G3:typeOf (.builtin "list.pop")=pure (.type "method_descriptor"):=by show builtinType _=_; rw [builtinType_eq_fast]; kernel_rfl
noncomputable def MN:List Str:= "_law_wound"::"PlainRun"::"Choices"::"World"::"_law_closed"::"do_send"::"_law_sent"::"do_receive"::"_law_taken"::"meet_channel"::"_law_stands"::"PlainCall"::"_law_run"::"NamedRow"::"PLAIN"::"number_of_channel"::"zero_value"::"underlying_of"::"GoPanic"::"RUNTIME_ERROR"::"known_rows"::"PlainRoutines"::"PlainGates"::"PlainChannels"::"PlainStore"::"all_functions"::"PlainChannel"::"CLOSED_SEND"::"PlainRoutine"::"ChanError"::"runtime_panic"::"place_of_pointer"::"_law_pointer"::"pass_gate"::"_law_passed"::"_law_gate"::"_law_channel_right"::"_law_gates_right"::"_law_no_lock"::"received_told"::"_law_told_right"::"_law_one"::"_law_reel"::"len"::"range"::"int"::"sorted"::"enumerate"::"Exception"::[]
noncomputable def MV:List (Option (Option Value)):=[some (some (.ref 1925)),some (some (.ref 1840)),some (some (.ref 830)),some (some (.ref 1907)),some (some (.ref 1956)),some (some (.ref 771)),some (some (.ref 1944)),some (some (.ref 778)),some (some (.ref 1949)),some (some (.ref 785)),some (some (.ref 1963)),some (some (.ref 273)),some (some (.ref 1939)),some (some (.ref 1864)),some (some (.ref 1847)),some (some (.ref 764)),some (some (.ref 626)),some (some (.ref 616)),some (some (.ref 114)),some (some (.ref 117)),some (some (.ref 1875)),some (some (.ref 334)),some (some (.ref 1062)),some (some (.ref 1015)),some (some (.ref 579)),some (some (.ref 1739)),some (some (.ref 898)),some (some (.str "send on closed channel" 1507)),some (some (.ref 294)),some (some (.ref 39)),some (some (.ref 124)),some (some (.ref 405)),some (some (.ref 1975)),some (some (.ref 757)),some (some (.ref 1989)),some (some (.ref 1982)),some (some (.ref 1968)),some (some (.ref 1996)),some (some (.ref 2003)),some (some (.ref 806)),some (some (.ref 2010)),some (some (.ref 1932)),some (some (.ref 1918)),some none,some none,some none,some none,some none,some none]
theorem MS(P:ak):MN.map (fun t=>nsIn (fx P).K mainGlobals t)=MV:=by kernel_rfl
theorem Cq{P:ak}:bp (fx P) "max" (.builtin "max"):=.inr ⟨(by kernel_rfl:nsIn (fx P).K mainGlobals "max" = some none),by intro q; have:=congrArg jt q; revert this; decide +kernel,by kernel_rfl⟩
theorem fU(P:ak):bp (fx P) "_law_wound" (.ref 1925):=.inl (at_ (MS P) 0 rfl rfl)
theorem BW(P:ak):bp (fx P) "PlainRun" (.ref 1840):=.inl (at_ (MS P) 1 rfl rfl)
theorem De(P:ak):bp (fx P) "Choices" (.ref 830):=.inl (at_ (MS P) 2 rfl rfl)
theorem Gj(P:ak):bp (fx P) "World" (.ref 1907):=.inl (at_ (MS P) 3 rfl rfl)
theorem tH(P:ak):bp (fx P) "_law_closed" (.ref 1956):=.inl (at_ (MS P) 4 rfl rfl)
theorem tV(P:ak):bp (fx P) "do_send" (.ref 771):=.inl (at_ (MS P) 5 rfl rfl)
theorem vq(P:ak):bp (fx P) "_law_sent" (.ref 1944):=.inl (at_ (MS P) 6 rfl rfl)
theorem ub(P:ak):bp (fx P) "do_receive" (.ref 778):=.inl (at_ (MS P) 7 rfl rfl)
theorem vb(P:ak):bp (fx P) "_law_taken" (.ref 1949):=.inl (at_ (MS P) 8 rfl rfl)
theorem lN(P:ak):bp (fx P) "meet_channel" (.ref 785):=.inl (at_ (MS P) 9 rfl rfl)
theorem vY(P:ak):bp (fx P) "_law_stands" (.ref 1963):=.inl (at_ (MS P) 10 rfl rfl)
theorem tS(P:ak):bp (fx P) "PlainCall" (.ref 273):=.inl (at_ (MS P) 11 rfl rfl)
theorem j7(P:ak):bp (fx P) "_law_run" (.ref 1939):=.inl (at_ (MS P) 12 rfl rfl)
theorem lC(P:ak):bp (fx P) "NamedRow" (.ref 1864):=.inl (at_ (MS P) 13 rfl rfl)
theorem mQ(P:ak):bp (fx P) "PLAIN" (.ref 1847):=.inl (at_ (MS P) 14 rfl rfl)
theorem v5(P:ak):bp (fx P) "number_of_channel" (.ref 764):=.inl (at_ (MS P) 15 rfl rfl)
theorem C4(P:ak):bp (fx P) "zero_value" (.ref 626):=.inl (at_ (MS P) 16 rfl rfl)
theorem DG(P:ak):bp (fx P) "underlying_of" (.ref 616):=.inl (at_ (MS P) 17 rfl rfl)
theorem oF(P:ak):bp (fx P) "GoPanic" (.ref 114):=.inl (at_ (MS P) 18 rfl rfl)
theorem Ci(P:ak):bp (fx P) "RUNTIME_ERROR" (.ref 117):=.inl (at_ (MS P) 19 rfl rfl)
theorem BY(P:ak):bp (fx P) "known_rows" (.ref 1875):=.inl (at_ (MS P) 20 rfl rfl)
theorem CQ(P:ak):bp (fx P) "PlainRoutines" (.ref 334):=.inl (at_ (MS P) 21 rfl rfl)
theorem Ct(P:ak):bp (fx P) "PlainGates" (.ref 1062):=.inl (at_ (MS P) 22 rfl rfl)
theorem Dk(P:ak):bp (fx P) "PlainChannels" (.ref 1015):=.inl (at_ (MS P) 23 rfl rfl)
theorem Cs(P:ak):bp (fx P) "PlainStore" (.ref 579):=.inl (at_ (MS P) 24 rfl rfl)
theorem CO(P:ak):bp (fx P) "all_functions" (.ref 1739):=.inl (at_ (MS P) 25 rfl rfl)
theorem Cv(P:ak):bp (fx P) "PlainChannel" (.ref 898):=.inl (at_ (MS P) 26 rfl rfl)
theorem vp(P:ak):bp (fx P) "CLOSED_SEND" (.str "send on closed channel" 1507):=.inl (at_ (MS P) 27 rfl rfl)
theorem Cy(P:ak):bp (fx P) "PlainRoutine" (.ref 294):=.inl (at_ (MS P) 28 rfl rfl)
theorem Dq(P:ak):bp (fx P) "ChanError" (.ref 39):=.inl (at_ (MS P) 29 rfl rfl)
theorem oq(P:ak):bp (fx P) "runtime_panic" (.ref 124):=.inl (at_ (MS P) 30 rfl rfl)
theorem Do(P:ak):bp (fx P) "place_of_pointer" (.ref 405):=.inl (at_ (MS P) 31 rfl rfl)
theorem Co(P:ak):bp (fx P) "_law_pointer" (.ref 1975):=.inl (at_ (MS P) 32 rfl rfl)
theorem vI(P:ak):bp (fx P) "pass_gate" (.ref 757):=.inl (at_ (MS P) 33 rfl rfl)
theorem Bu(P:ak):bp (fx P) "_law_passed" (.ref 1989):=.inl (at_ (MS P) 34 rfl rfl)
theorem CY(P:ak):bp (fx P) "_law_gate" (.ref 1982):=.inl (at_ (MS P) 35 rfl rfl)
theorem kp(P:ak):bp (fx P) "_law_channel_right" (.ref 1968):=.inl (at_ (MS P) 36 rfl rfl)
theorem nS(P:ak):bp (fx P) "_law_gates_right" (.ref 1996):=.inl (at_ (MS P) 37 rfl rfl)
theorem Ch(P:ak):bp (fx P) "_law_no_lock" (.ref 2003):=.inl (at_ (MS P) 38 rfl rfl)
theorem uZ(P:ak):bp (fx P) "received_told" (.ref 806):=.inl (at_ (MS P) 39 rfl rfl)
theorem BF(P:ak):bp (fx P) "_law_told_right" (.ref 2010):=.inl (at_ (MS P) 40 rfl rfl)
theorem lE(P:ak):bp (fx P) "_law_one" (.ref 1932):=.inl (at_ (MS P) 41 rfl rfl)
theorem Cz(P:ak):bp (fx P) "_law_reel" (.ref 1918):=.inl (at_ (MS P) 42 rfl rfl)
theorem eY(P:ak):bp (fx P) "len" (.builtin "len"):=.inr ⟨at_ (MS P) 43 rfl rfl,by intro q; have:=congrArg jt q; revert this; decide +kernel,by kernel_rfl⟩
theorem qT(P:ak):bp (fx P) "range" (.type "range"):=.inr ⟨at_ (MS P) 44 rfl rfl,by intro q; have:=congrArg jt q; revert this; decide +kernel,by kernel_rfl⟩
theorem Fv(P:ak):bp (fx P) "int" (.type "int"):=.inr ⟨at_ (MS P) 45 rfl rfl,by intro q; have:=congrArg jt q; revert this; decide +kernel,by kernel_rfl⟩
theorem uq(P:ak):bp (fx P) "sorted" (.builtin "sorted"):=.inr ⟨at_ (MS P) 46 rfl rfl,by intro q; have:=congrArg jt q; revert this; decide +kernel,by kernel_rfl⟩
theorem CP(P:ak):bp (fx P) "enumerate" (.type "enumerate"):=.inr ⟨at_ (MS P) 47 rfl rfl,by intro q; have:=congrArg jt q; revert this; decide +kernel,by kernel_rfl⟩
theorem CC(P:ak):bp (fx P) "Exception" (.type "Exception"):=.inr ⟨at_ (MS P) 48 rfl rfl,by intro q; have:=congrArg jt q; revert this; decide +kernel,by kernel_rfl⟩
noncomputable def fC:wr:=[]
theorem cJ(P:ak):EN (fx P).T fC:=fun p hp=>by
 unfold fC at hp
 cases hp
noncomputable def exC:ClassData:={ name:= "GoPanic",bases:=[(.ref 39)],mro:=[(.ref 114),(.ref 39),(.type "Exception"),(.type "BaseException"),(.type "object")],ns:=113,qualname:= "GoPanic",hasDict:=true,slotNames:=[],subclasses:=[],abstract:=false,collection:=none,hasDel:=false }
theorem exl(P:ak):(fx P).K.lookup 114=some (Ql P.w):=by kernel_rfl
theorem x8(P:ak):Internal.N.excIn (fx P).K 114:=⟨_,_,_,_,_,_,_,_,_,_,_,_,_,_,_,_,(exl P).trans (congrArg some rfl),by kernel_rfl,by kernel_rfl,by kernel_rfl,by kernel_rfl⟩
theorem acs(P:ak):iC (fx P).K 114:=⟨exC,by kernel_rfl,by kernel_rfl,fun self=>(refuseLoop_ref _ _ _ _).trans ((refuseLoop_ref _ _ _ _).trans (PySem.F.store_Exception.passes self)),by kernel_rfl,by kernel_rfl,by kernel_rfl⟩
theorem ou(P:ak):mS (fx P) 114 114:=⟨rfl,x8 P,acs P,by kernel_rfl,by kernel_rfl,by kernel_rfl,by kernel_rfl⟩
theorem Lk(P:ak):exmOne (fx P).K (.ref 114) (.ref 114)=some true:=by kernel_rfl
theorem Tz(P:ak):findIn (fx P).K (.ref 114) "message" = some none:=by kernel_rfl
theorem aat(P:ak):findIn (fx P).K (.ref 114) "spot" = some none:=by kernel_rfl
theorem xK(P:ak):findIn (fx P).K (.ref 114) "value" = some none:=by kernel_rfl
theorem Yb(P:ak):findCls (fx P).K (.type "Exception") (.type "type") "__init__" = some (.val (.builtin "Exception.__init__")):=by kernel_rfl
theorem ZY(P:ak):specialIn (fx P).K (.ref 39) "__getattribute__" = some (some (.builtin "type.__getattribute__")):=by kernel_rfl
theorem aaD(P:ak):readsIn (fx P).K 39 (.type "type")=true:=by kernel_rfl
theorem Xh(P:ak):findCls (fx P).K (.ref 39) (.type "type") "__init__" = some (.val (.ref 36)):=by kernel_rfl
noncomputable def C2:List (Nat × List Nat):=[(239,[110,105,108,32,100,101,114,101,102,101,114,101,110,99,101]),(251,[117,110,108,111,99,107,32,111,102,32,117,110,108,111,99,107,101,100,32,109,117,116,101,120]),(252,[110,101,103,97,116,105,118,101,32,87,97,105,116,71,114,111,117,112,32,99,111,117,110,116,101,114])]
theorem YV(P:ak):Ek (fx P) C2:=fun i n h=>by
 unfold C2 at h
 rcases List.mem_cons.mp h with e | h
 ·cases e; exact ⟨by decide,by decide,_,Xg,fun u v=>by kernel_rfl⟩
 rcases List.mem_cons.mp h with e | h
 ·cases e; exact ⟨by decide,by decide,_,abD,fun u v=>by kernel_rfl⟩
 rcases List.mem_cons.mp h with e | h
 ·cases e; exact ⟨by decide,by decide,_,Xo,fun u v=>by kernel_rfl⟩
 cases h
theorem RQ(P:ak):keepIn (fx P).K (.ref 114)=true:=by kernel_rfl
theorem Cg(P:ak):EF (fx P) 2 217:=⟨1840,"may_compare",1760,rfl,uz,by kernel_rfl,by kernel_rfl,by kernel_rfl,by kernel_rfl,by kernel_rfl,by kernel_rfl,by kernel_rfl⟩
noncomputable def gA:aq:=[(126,.loc),(19,.loc),(103,.loc),(49,.loc),(1,.loc),(67,.loc),(62,.loc),(9,.loc),(79,.loc),(63,.loc),(30,.loc),(161,.glo),(233,.glo),(238,.glo),(187,.glo),(160,.glo),(95,.glo),(202,.glo),(245,.glo),(241,.glo)]
noncomputable def r0:aE:=⟨1,1,[.nul,.nul,.nul,.nul,.nul,.nul,.nul,.nul,.nul,.nul,.nul,.nul,.nul,.nul,.nul,.nul,.nul,.nul,.nul],[]⟩
theorem Tt(P:ak):br (fx P) gA r0 2017 B0 D0:=⟨rfl,by kernel_rfl,(nL oD (nL fb (nL Dn (nL mf (nL T1 (nL T67 (nL jX (nL T9 (nL pn (nL E8 (nL j8 (nG lO (nG Cj (nG Qu (nG G8 (nG uo (nG AW (nG kE (nG oj (nG tj .nil)))))))))))))))))))),odr rfl,rfl,rfl,rfl,rfl,(show aI (fx P).T gA _ from (.cons oD (.inl rfl) .nil)).ok,rfl,odr rfl,bW rfl rfl rfl⟩
noncomputable def wU:aq:=[(126,.loc),(62,.loc),(55,.loc),(13,.glo),(14,.glo)]
noncomputable def r1:aE:=⟨1,1,[.nul,.nul,.nul,.nul],[]⟩
theorem Sy(P:ak):br (fx P) wU r1 1918 B1 D1:=⟨rfl,by kernel_rfl,(nL oD (nL jX (nL Eu (nG gF (nG WZ .nil))))),odr rfl,rfl,rfl,rfl,rfl,(show aI (fx P).T wU _ from (.cons oD (.inl rfl) .nil)).ok,rfl,odr rfl,bW rfl rfl rfl⟩
theorem Fe(P:ak):keepIn (fx P).K (.ref 1918)=true:=rfl
noncomputable def xb:aq:=[(49,.loc),(42,.loc),(83,.loc)]
noncomputable def r2:aE:=⟨2,2,[.nul],[]⟩
theorem Un(P:ak):br (fx P) xb r2 1925 B2 D2:=⟨rfl,by kernel_rfl,(nL mf (nL i8 (nL ln .nil))),odr rfl,rfl,rfl,rfl,rfl,(show aI (fx P).T xb _ from (.cons mf (.inl rfl) (.cons i8 (.inl rfl) .nil))).ok,rfl,odr rfl,bW rfl rfl rfl⟩
theorem jz(P:ak):keepIn (fx P).K (.ref 1925)=true:=rfl
noncomputable def xi:aq:=[(49,.loc),(56,.loc),(202,.glo),(13,.glo)]
noncomputable def r3:aE:=⟨2,2,[.nul,.nul],[]⟩
theorem Sm(P:ak):br (fx P) xi r3 1932 B3 D3:=⟨rfl,by kernel_rfl,(nL mf (nL AX (nG kE (nG gF .nil)))),odr rfl,rfl,rfl,rfl,rfl,(show aI (fx P).T xi _ from (.cons mf (.inl rfl) (.cons AX (.inl rfl) .nil))).ok,rfl,odr rfl,bW rfl rfl rfl⟩
theorem pM(P:ak):keepIn (fx P).K (.ref 1932)=true:=rfl
noncomputable def xg:aq:=[(19,.loc),(63,.loc),(158,.glo),(70,.glo),(137,.glo),(95,.glo)]
noncomputable def r4:aE:=⟨0,0,[.nul,.nul,.nul,.nul,.nul,.nul],[]⟩
theorem Vv(P:ak):br (fx P) xg r4 1939 B4 D4:=⟨rfl,by kernel_rfl,(nL fb (nL E8 (nG M3 (nG WE (nG HQ (nG AW .nil)))))),odr rfl,rfl,rfl,rfl,rfl,(show aI (fx P).T xg _ from .nil).ok,rfl,odr rfl,bW rfl rfl rfl⟩
theorem mR(P:ak):keepIn (fx P).K (.ref 1939)=true:=rfl
noncomputable def su:aq:=[(16,.loc),(20,.loc),(106,.loc),(134,.cel),(13,.glo)]
noncomputable def r5:aE:=⟨3,3,[.nul,.nul],[3]⟩
theorem U7(P:ak):br (fx P) su r5 1944 B5 D5:=⟨rfl,by kernel_rfl,(nL ic (nL nE (nL ej (nC oJ (nG gF .nil))))),odr rfl,rfl,rfl,rfl,rfl,(show aI (fx P).T su _ from (.cons ic (.inl rfl) (.cons nE (.inl rfl) (.cons ej (.inl rfl) .nil)))).ok,rfl,odr rfl,bW rfl rfl rfl⟩
theorem x9(P:ak):keepIn (fx P).K (.ref 1944)=true:=rfl
noncomputable def o0:aq:=[(16,.loc),(20,.loc),(18,.loc),(155,.cel),(13,.glo),(11,.glo)]
noncomputable def r6:aE:=⟨2,2,[.nul,.nul,.nul,.nul],[3]⟩
theorem Us(P:ak):br (fx P) o0 r6 1949 B6 D6:=⟨rfl,by kernel_rfl,(nL ic (nL nE (nL dq (nC kI (nG gF (nG WO .nil)))))),odr rfl,rfl,rfl,rfl,rfl,(show aI (fx P).T o0 _ from (.cons ic (.inl rfl) (.cons nE (.inl rfl) .nil))).ok,rfl,odr rfl,bW rfl rfl rfl⟩
theorem yn(P:ak):keepIn (fx P).K (.ref 1949)=true:=rfl
noncomputable def xe:aq:=[(16,.loc),(20,.loc),(38,.loc),(106,.loc)]
noncomputable def r7:aE:=⟨1,1,[.nul,.nul,.nul],[]⟩
theorem TS(P:ak):br (fx P) xe r7 1956 B7 D7:=⟨rfl,by kernel_rfl,(nL ic (nL nE (nL mi (nL ej .nil)))),odr rfl,rfl,rfl,rfl,rfl,(show aI (fx P).T xe _ from (.cons ic (.inl rfl) .nil)).ok,rfl,odr rfl,bW rfl rfl rfl⟩
theorem yg(P:ak):keepIn (fx P).K (.ref 1956)=true:=rfl
noncomputable def wP:aq:=[(19,.loc),(16,.loc),(107,.loc),(153,.loc),(20,.loc),(62,.loc)]
noncomputable def r8:aE:=⟨3,3,[.nul,.nul,.nul],[]⟩
theorem Sx(P:ak):br (fx P) wP r8 1963 B8 D8:=⟨rfl,by kernel_rfl,(nL fb (nL ic (nL Dl (nL fh (nL nE (nL jX .nil)))))),odr rfl,rfl,rfl,rfl,rfl,(show aI (fx P).T wP _ from (.cons fb (.inl rfl) (.cons ic (.inl rfl) (.cons Dl (.inl rfl) .nil)))).ok,rfl,odr rfl,bW rfl rfl rfl⟩
theorem xC(P:ak):keepIn (fx P).K (.ref 1963)=true:=rfl
noncomputable def gx:aq:=[(50,.loc),(79,.loc),(19,.loc),(16,.loc),(41,.loc),(142,.loc),(20,.loc),(30,.loc),(106,.loc),(153,.loc),(26,.loc),(112,.loc),(161,.glo),(184,.glo),(213,.glo),(144,.glo),(188,.glo),(203,.glo),(201,.glo),(227,.glo),(215,.glo)]
noncomputable def r9:aE:=⟨2,2,[.nul,.nul,.nul,.nul,.nul,.nul,.nul,.nul,.nul,.nul,.nul,.nul,.nul,.nul,.nul,.nul,.nul,.nul,.nul],[]⟩
theorem DY(P:ak):br (fx P) gx r9 1968 B9 D9:=⟨rfl,by kernel_rfl,(nL sq (nL pn (nL fb (nL ic (nL AB (nL BU (nL nE (nL j8 (nL ej (nL fh (nL mD (nL DP (nG lO (nG Ce (nG BO (nG CE (nG CI (nG DE (nG Bn (nG oO (nG BS .nil))))))))))))))))))))),odr rfl,rfl,rfl,rfl,rfl,(show aI (fx P).T gx _ from (.cons sq (.inl rfl) (.cons pn (.inl rfl) .nil))).ok,rfl,odr rfl,bW rfl rfl rfl⟩
theorem mT(P:ak):keepIn (fx P).K (.ref 1968)=true:=rfl
noncomputable def rI:aq:=[(123,.loc)]
noncomputable def MG:aE:=⟨1,1,[],[]⟩
theorem NB(P:ak):br (fx P) rI MG 1975 Ad PW:=⟨rfl,by kernel_rfl,(nL cG .nil),odr rfl,rfl,rfl,rfl,rfl,(show aI (fx P).T rI _ from (.cons cG (.inl rfl) .nil)).ok,rfl,odr rfl,bW rfl rfl rfl⟩
theorem z7(P:ak):keepIn (fx P).K (.ref 1975)=true:=rfl
noncomputable def qu:aq:=[(16,.loc),(20,.loc),(30,.loc),(42,.loc)]
noncomputable def NG:aE:=⟨4,4,[],[]⟩
theorem Kk(P:ak):br (fx P) qu NG 1982 zZ HR:=⟨rfl,by kernel_rfl,(nL ic (nL nE (nL j8 (nL i8 .nil)))),odr rfl,rfl,rfl,rfl,rfl,(show aI (fx P).T qu _ from (.cons ic (.inl rfl) (.cons nE (.inl rfl) (.cons j8 (.inl rfl) (.cons i8 (.inl rfl) .nil))))).ok,rfl,odr rfl,bW rfl rfl rfl⟩
theorem zQ(P:ak):keepIn (fx P).K (.ref 1982)=true:=rfl
noncomputable def vA:aq:=[(19,.loc),(153,.loc),(30,.loc),(42,.loc),(136,.loc),(92,.loc),(225,.glo),(195,.glo),(138,.glo)]
noncomputable def PQ:aE:=⟨4,4,[.nul,.nul,.nul,.nul,.nul],[]⟩
theorem G9(P:ak):br (fx P) vA PQ 1989 DZ KO:=⟨rfl,by kernel_rfl,(nL fb (nL fh (nL j8 (nL i8 (nL gy (nL Fk (nG Hc (nG y4 (nG ra .nil))))))))),odr rfl,rfl,rfl,rfl,rfl,(show aI (fx P).T vA _ from (.cons fb (.inl rfl) (.cons fh (.inl rfl) (.cons j8 (.inl rfl) (.cons i8 (.inl rfl) .nil))))).ok,rfl,odr rfl,bW rfl rfl rfl⟩
theorem z6(P:ak):keepIn (fx P).K (.ref 1989)=true:=rfl
noncomputable def gZ:aq:=[(79,.loc),(19,.loc),(16,.loc),(20,.loc),(30,.loc),(42,.loc),(62,.loc),(153,.loc),(161,.glo),(214,.glo),(186,.glo)]
noncomputable def MH:aE:=⟨1,1,[.nul,.nul,.nul,.nul,.nul,.nul,.nul,.nul,.nul,.nul],[]⟩
theorem Nm(P:ak):br (fx P) gZ MH 1996 mh WP:=⟨rfl,by kernel_rfl,(nL pn (nL fb (nL ic (nL nE (nL j8 (nL i8 (nL jX (nL fh (nG lO (nG MX (nG Nb .nil))))))))))),odr rfl,rfl,rfl,rfl,rfl,(show aI (fx P).T gZ _ from (.cons pn (.inl rfl) .nil)).ok,rfl,odr rfl,bW rfl rfl rfl⟩
theorem tT(P:ak):keepIn (fx P).K (.ref 1996)=true:=rfl
noncomputable def uj:aq:=[(19,.loc),(92,.loc),(161,.glo),(195,.glo),(138,.glo)]
noncomputable def LQ:aE:=⟨0,0,[.nul,.nul,.nul,.nul,.nul],[]⟩
theorem QJ(P:ak):br (fx P) uj LQ 2003 Fh Ig:=⟨rfl,by kernel_rfl,(nL fb (nL Fk (nG lO (nG y4 (nG ra .nil))))),odr rfl,rfl,rfl,rfl,rfl,(show aI (fx P).T uj _ from .nil).ok,rfl,odr rfl,bW rfl rfl rfl⟩
theorem zs(P:ak):keepIn (fx P).K (.ref 2003)=true:=rfl
noncomputable def uc:aq:=[(102,.loc),(97,.loc),(89,.loc),(119,.loc),(245,.glo),(241,.glo),(224,.glo)]
noncomputable def Kg:aE:=⟨0,0,[.nul,.nul,.nul,.nul,.nul,.nul,.nul],[]⟩
theorem Iy(P:ak):br (fx P) uc Kg 2010 Ef HD:=⟨rfl,by kernel_rfl,(nL Xw (nL T97 (nL We (nL XN (nG oj (nG tj (nG IF .nil))))))),odr rfl,rfl,rfl,rfl,rfl,(show aI (fx P).T uc _ from .nil).ok,rfl,odr rfl,bW rfl rfl rfl⟩
theorem zB(P:ak):keepIn (fx P).K (.ref 2010)=true:=rfl
noncomputable def rz:aq:=[(61,.loc),(110,.loc),(35,.loc),(86,.loc),(62,.loc),(89,.loc),(107,.loc),(69,.glo),(157,.glo)]
noncomputable def Q1:aE:=⟨0,0,[.nul,.nul,.nul,.nul,.nul,.nul,.nul,.nul,.nul],[]⟩
theorem HL(P:ak):br (fx P) rz Q1 1875 Au PE:=⟨rfl,by kernel_rfl,(nL NV (nL X9 (nL T35 (nL T86 (nL jX (nL We (nL Dl (nG z8 (nG uN .nil))))))))),odr rfl,rfl,rfl,rfl,rfl,(show aI (fx P).T rz _ from .nil).ok,rfl,odr rfl,bW rfl rfl rfl⟩
theorem zL(P:ak):keepIn (fx P).K (.ref 1875)=true:=rfl
noncomputable def oN:aq:=[(105,.cel),(83,.loc),(39,.loc),(37,.cel),(130,.glo)]
noncomputable def KH:aE:=⟨1,1,[.nul,.nul,.nul,.nul],[3,0]⟩
theorem QY(P:ak):br (fx P) oN KH 1739 za Pj:=⟨rfl,by kernel_rfl,(nC mG (nL ln (nL Qb (nC zm (nG x5 .nil))))),odr rfl,rfl,rfl,rfl,rfl,(show aI (fx P).T oN _ from (.cons mG (.inr rfl) .nil)).ok,rfl,odr rfl,bW rfl rfl rfl⟩
theorem Ag(P:ak):keepIn (fx P).K (.ref 1739)=true:=rfl
noncomputable def vt:aq:=[(19,.loc),(153,.loc),(44,.loc),(136,.loc),(93,.loc),(204,.loc),(56,.loc),(123,.loc),(242,.glo)]
noncomputable def QK:aE:=⟨4,4,[.nul,.nul,.nul,.nul,.nul],[]⟩
theorem Nc(P:ak):br (fx P) vt QK 757 EH KW:=⟨rfl,by kernel_rfl,(nL fb (nL fh (nL WK (nL gy (nL jq (nL Z7 (nL AX (nL cG (nG IT .nil))))))))),odr rfl,rfl,rfl,rfl,rfl,(show aI (fx P).T vt _ from (.cons fb (.inl rfl) (.cons fh (.inl rfl) (.cons WK (.inl rfl) (.cons gy (.inl rfl) .nil))))).ok,rfl,odr rfl,bW rfl rfl rfl⟩
theorem uk(P:ak):keepIn (fx P).K (.ref 757)=true:=rfl
noncomputable def qh:aq:=[(19,.loc),(153,.loc),(26,.loc),(60,.loc),(142,.loc),(106,.loc),(227,.glo),(243,.glo)]
noncomputable def KT:aE:=⟨4,4,[.nul,.nul,.nul,.nul],[]⟩
theorem Nq(P:ak):br (fx P) qh KT 771 zP M4:=⟨rfl,by kernel_rfl,(nL fb (nL fh (nL mD (nL E7 (nL BU (nL ej (nG oO (nG yM .nil)))))))),odr rfl,rfl,rfl,rfl,rfl,(show aI (fx P).T qh _ from (.cons fb (.inl rfl) (.cons fh (.inl rfl) (.cons mD (.inl rfl) (.cons E7 (.inl rfl) .nil))))).ok,rfl,odr rfl,bW rfl rfl rfl⟩
theorem ut(P:ak):keepIn (fx P).K (.ref 771)=true:=rfl
noncomputable def qM:aq:=[(19,.loc),(153,.loc),(26,.loc),(60,.loc),(142,.loc),(227,.glo),(243,.glo)]
noncomputable def Ky:aE:=⟨4,4,[.nul,.nul,.nul],[]⟩
theorem LX(P:ak):br (fx P) qM Ky 778 z5 PP:=⟨rfl,by kernel_rfl,(nL fb (nL fh (nL mD (nL E7 (nL BU (nG oO (nG yM .nil))))))),odr rfl,rfl,rfl,rfl,rfl,(show aI (fx P).T qM _ from (.cons fb (.inl rfl) (.cons fh (.inl rfl) (.cons mD (.inl rfl) (.cons E7 (.inl rfl) .nil))))).ok,rfl,odr rfl,bW rfl rfl rfl⟩
theorem uy(P:ak):keepIn (fx P).K (.ref 778)=true:=rfl
noncomputable def qp:aq:=[(19,.loc),(153,.loc),(26,.loc),(38,.loc),(123,.loc),(106,.loc),(112,.loc),(62,.loc),(51,.loc)]
noncomputable def Pp:aE:=⟨7,7,[.nul,.nul],[]⟩
theorem Mb(P:ak):br (fx P) qp Pp 785 A6 Io:=⟨rfl,by kernel_rfl,(nL fb (nL fh (nL mD (nL mi (nL cG (nL ej (nL DP (nL jX (nL EC .nil))))))))),odr rfl,rfl,rfl,rfl,rfl,(show aI (fx P).T qp _ from (.cons fb (.inl rfl) (.cons fh (.inl rfl) (.cons mD (.inl rfl) (.cons mi (.inl rfl) (.cons cG (.inl rfl) (.cons ej (.inl rfl) (.cons DP (.inl rfl) .nil)))))))).ok,rfl,odr rfl,bW rfl rfl rfl⟩
theorem mJ(P:ak):keepIn (fx P).K (.ref 785)=true:=rfl
noncomputable def ql:aq:=[(106,.loc)]
noncomputable def Ly:aE:=⟨1,1,[],[]⟩
theorem Pw(P:ak):br (fx P) ql Ly 764 ze LF:=⟨rfl,by kernel_rfl,(nL ej .nil),odr rfl,rfl,rfl,rfl,rfl,(show aI (fx P).T ql _ from (.cons ej (.inl rfl) .nil)).ok,rfl,odr rfl,bW rfl rfl rfl⟩
theorem tJ(P:ak):keepIn (fx P).K (.ref 764)=true:=rfl
noncomputable def qg:aq:=[(19,.loc),(62,.loc),(226,.loc),(211,.glo)]
noncomputable def M6:aE:=⟨3,3,[.nul],[]⟩
theorem LY(P:ak):br (fx P) qg M6 806 zU MJ:=⟨rfl,by kernel_rfl,(nL fb (nL jX (nL Rx (nG yR .nil)))),odr rfl,rfl,rfl,rfl,rfl,(show aI (fx P).T qg _ from (.cons fb (.inl rfl) (.cons jX (.inl rfl) (.cons Rx (.inl rfl) .nil)))).ok,rfl,odr rfl,bW rfl rfl rfl⟩
theorem vO(P:ak):keepIn (fx P).K (.ref 806)=true:=rfl
noncomputable def rq:aq:=[(108,.cel),(1,.loc),(88,.loc),(236,.glo),(211,.glo),(104,.glo)]
noncomputable def HW:aE:=⟨2,2,[.nul,.nul,.nul,.nul],[0]⟩
theorem Ij(P:ak):br (fx P) rq HW 626 zA Kf:=⟨rfl,by kernel_rfl,(nC kJ (nL T1 (nL T88 (nG HN (nG yR (nG acn .nil)))))),odr rfl,rfl,rfl,rfl,rfl,(show aI (fx P).T rq _ from (.cons kJ (.inr rfl) (.cons T1 (.inl rfl) .nil))).ok,rfl,odr rfl,bW rfl rfl rfl⟩
theorem zy(P:ak):keepIn (fx P).K (.ref 626)=true:=rfl
noncomputable def qZ:aq:=[(108,.loc),(1,.loc)]
noncomputable def Lj:aE:=⟨2,2,[],[]⟩
theorem LO(P:ak):br (fx P) qZ Lj 616 Av Ho:=⟨rfl,by kernel_rfl,(nL kJ (nL T1 .nil)),odr rfl,rfl,rfl,rfl,rfl,(show aI (fx P).T qZ _ from (.cons kJ (.inl rfl) (.cons T1 (.inl rfl) .nil))).ok,rfl,odr rfl,bW rfl rfl rfl⟩
theorem zD(P:ak):keepIn (fx P).K (.ref 616)=true:=rfl
noncomputable def ui:aq:=[(106,.loc),(235,.glo)]
noncomputable def ND:aE:=⟨1,1,[.nul],[]⟩
theorem Hr(P:ak):br (fx P) ui ND 405 Er QL:=⟨rfl,by kernel_rfl,(nL ej (nG qG .nil)),odr rfl,rfl,rfl,rfl,rfl,(show aI (fx P).T ui _ from (.cons ej (.inl rfl) .nil)).ok,rfl,odr rfl,bW rfl rfl rfl⟩
theorem AL(P:ak):keepIn (fx P).K (.ref 405)=true:=rfl
noncomputable def rc:aq:=[(61,.loc),(138,.glo),(230,.glo)]
noncomputable def Lb:aE:=⟨1,1,[.nul,.nul],[]⟩
theorem IS(P:ak):br (fx P) rc Lb 124 AF LW:=⟨rfl,by kernel_rfl,(nL NV (nG ra (nG MD .nil))),odr rfl,rfl,rfl,rfl,rfl,(show aI (fx P).T rc _ from (.cons NV (.inl rfl) .nil)).ok,rfl,odr rfl,bW rfl rfl rfl⟩
theorem pz(P:ak):keepIn (fx P).K (.ref 124)=true:=rfl
noncomputable def qb:aq:=[(52,.loc),(46,.loc),(151,.loc),(209,.loc),(148,.loc)]
noncomputable def MK:aE:=⟨5,5,[],[]⟩
theorem K6(P:ak):br (fx P) qb MK 1861 AD Qo:=⟨rfl,by kernel_rfl,(nL bD (nL EZ (nL BH (nL Bm (nL Dj .nil))))),odr rfl,rfl,rfl,rfl,rfl,(show aI (fx P).T qb _ from (.cons bD (.inl rfl) (.cons EZ (.inl rfl) (.cons BH (.inl rfl) (.cons Bm (.inl rfl) (.cons Dj (.inl rfl) .nil)))))).ok,rfl,odr rfl,bW rfl rfl rfl⟩
theorem M9(P:ak):keepIn (fx P).K (.ref 1861)=true:=rfl
noncomputable def ro:aq:=[(52,.loc),(172,.loc),(205,.glo)]
noncomputable def PD:aE:=⟨1,2,[.none,.nul],[]⟩
theorem Qy(P:ak):br (fx P) ro PD 1890 Be Im:=⟨rfl,by kernel_rfl,(nL bD (nL BM (nG NK .nil))),odr rfl,rfl,rfl,rfl,rfl,(show aI (fx P).T ro _ from (.cons bD (.inl rfl) (.cons BM (.inl rfl) .nil))).ok,rfl,odr rfl,dv1 rfl rfl rfl rfl rfl⟩
theorem IQ(P:ak):keepIn (fx P).K (.ref 1890)=true:=rfl
noncomputable def qF:aq:=[(52,.loc),(62,.loc),(18,.loc),(183,.glo),(185,.glo)]
noncomputable def NE:aE:=⟨2,2,[.nul,.nul,.nul],[]⟩
theorem K0(P:ak):br (fx P) qF NE 1897 zv Ie:=⟨rfl,by kernel_rfl,(nL bD (nL jX (nL dq (nG abY (nG aan .nil))))),odr rfl,rfl,rfl,rfl,rfl,(show aI (fx P).T qF _ from (.cons bD (.inl rfl) (.cons jX (.inl rfl) .nil))).ok,rfl,odr rfl,bW rfl rfl rfl⟩
theorem Mi(P:ak):keepIn (fx P).K (.ref 1897)=true:=rfl
noncomputable def rl:aq:=[(52,.loc),(108,.loc),(105,.loc),(143,.loc),(33,.loc),(46,.loc),(231,.glo),(200,.glo),(228,.glo),(199,.glo),(229,.glo),(130,.glo),(211,.glo)]
noncomputable def Nr:aE:=⟨5,5,[.nul,.nul,.nul,.nul,.nul,.nul,.nul,.nul],[]⟩
theorem Q4(P:ak):br (fx P) rl Nr 1753 AA Qz:=⟨rfl,by kernel_rfl,(nL bD (nL kJ (nL mG (nL nY (nL QE (nL EZ (nG Ph (nG Hv (nG Rg (nG NQ (nG Mk (nG x5 (nG yR .nil))))))))))))),odr rfl,rfl,rfl,rfl,rfl,(show aI (fx P).T rl _ from (.cons bD (.inl rfl) (.cons kJ (.inl rfl) (.cons mG (.inl rfl) (.cons nY (.inl rfl) (.cons QE (.inl rfl) .nil)))))).ok,rfl,odr rfl,bW rfl rfl rfl⟩
theorem Hp(P:ak):keepIn (fx P).K (.ref 1753)=true:=rfl
noncomputable def qH:aq:=[(52,.loc),(153,.loc)]
noncomputable def LR:aE:=⟨2,2,[],[]⟩
theorem QM(P:ak):br (fx P) qH LR 1788 zo Mj:=⟨rfl,by kernel_rfl,(nL bD (nL fh .nil)),odr rfl,rfl,rfl,rfl,rfl,(show aI (fx P).T qH _ from (.cons bD (.inl rfl) (.cons fh (.inl rfl) .nil))).ok,rfl,odr rfl,bW rfl rfl rfl⟩
theorem HM(P:ak):keepIn (fx P).K (.ref 1788)=true:=rfl
noncomputable def qS:aq:=[(52,.loc)]
noncomputable def KM:aE:=⟨1,1,[],[]⟩
theorem Ri(P:ak):br (fx P) qS KM 1795 zE MP:=⟨rfl,by kernel_rfl,(nL bD .nil),odr rfl,rfl,rfl,rfl,rfl,(show aI (fx P).T qS _ from (.cons bD (.inl rfl) .nil)).ok,rfl,odr rfl,bW rfl rfl rfl⟩
theorem Iz(P:ak):keepIn (fx P).K (.ref 1795)=true:=rfl
noncomputable def qP:aq:=[(52,.loc),(51,.loc),(123,.loc),(27,.loc),(62,.loc)]
noncomputable def Re:aE:=⟨2,2,[.nul,.nul,.nul],[]⟩
theorem Ny(P:ak):br (fx P) qP Re 1809 Al HT:=⟨rfl,by kernel_rfl,(nL bD (nL EC (nL cG (nL WW (nL jX .nil))))),odr rfl,rfl,rfl,rfl,rfl,(show aI (fx P).T qP _ from (.cons bD (.inl rfl) (.cons EC (.inl rfl) .nil))).ok,rfl,odr rfl,bW rfl rfl rfl⟩
theorem NI(P:ak):keepIn (fx P).K (.ref 1809)=true:=rfl
noncomputable def qK:aq:=[(52,.loc),(217,.loc)]
noncomputable def Mm:aE:=⟨2,2,[],[]⟩
theorem Hn(P:ak):br (fx P) qK Mm 473 AI Qw:=⟨rfl,by kernel_rfl,(nL bD (nL uz .nil)),odr rfl,rfl,rfl,rfl,rfl,(show aI (fx P).T qK _ from (.cons bD (.inl rfl) (.cons uz (.inl rfl) .nil))).ok,rfl,odr rfl,bW rfl rfl rfl⟩
theorem L8(P:ak):keepIn (fx P).K (.ref 473)=true:=rfl
noncomputable def rQ:aq:=[(52,.loc)]
noncomputable def MT:aE:=⟨1,1,[],[]⟩
theorem Rs(P:ak):br (fx P) rQ MT 916 AP H0:=⟨rfl,by kernel_rfl,(nL bD .nil),odr rfl,rfl,rfl,rfl,rfl,(show aI (fx P).T rQ _ from (.cons bD (.inl rfl) .nil)).ok,rfl,odr rfl,bW rfl rfl rfl⟩
theorem KJ(P:ak):keepIn (fx P).K (.ref 916)=true:=rfl
noncomputable def qA:aq:=[(52,.loc),(50,.loc),(222,.glo),(13,.glo)]
noncomputable def Mw:aE:=⟨2,2,[.nul,.nul],[]⟩
theorem G1(P:ak):br (fx P) qA Mw 923 AY Nv:=⟨rfl,by kernel_rfl,(nL bD (nL sq (nG IL (nG gF .nil)))),odr rfl,rfl,rfl,rfl,rfl,(show aI (fx P).T qA _ from (.cons bD (.inl rfl) (.cons sq (.inl rfl) .nil))).ok,rfl,odr rfl,bW rfl rfl rfl⟩
theorem I7(P:ak):keepIn (fx P).K (.ref 923)=true:=rfl
noncomputable def qa:aq:=[(52,.loc),(38,.loc),(123,.loc),(30,.loc)]
noncomputable def NN:aE:=⟨3,3,[.nul],[]⟩
theorem Qj(P:ak):br (fx P) qa NN 944 zN IC:=⟨rfl,by kernel_rfl,(nL bD (nL mi (nL cG (nL j8 .nil)))),odr rfl,rfl,rfl,rfl,rfl,(show aI (fx P).T qa _ from (.cons bD (.inl rfl) (.cons mi (.inl rfl) (.cons cG (.inl rfl) .nil)))).ok,rfl,odr rfl,bW rfl rfl rfl⟩
theorem Hq(P:ak):keepIn (fx P).K (.ref 944)=true:=rfl
noncomputable def nV:aq:=[(52,.loc),(191,.cel)]
noncomputable def LI:aE:=⟨2,2,[],[1]⟩
theorem Ro(P:ak):br (fx P) nV LI 949 Bk Nh:=⟨rfl,by kernel_rfl,(nL bD (nC kH .nil)),odr rfl,rfl,rfl,rfl,rfl,(show aI (fx P).T nV _ from (.cons bD (.inl rfl) (.cons kH (.inr rfl) .nil))).ok,rfl,odr rfl,bW rfl rfl rfl⟩
theorem Ix(P:ak):keepIn (fx P).K (.ref 949)=true:=rfl
noncomputable def rP:aq:=[(52,.loc),(123,.loc),(15,.loc),(13,.glo)]
noncomputable def Rm:aE:=⟨2,2,[.nul,.nul],[]⟩
theorem K8(P:ak):br (fx P) rP Rm 956 zW NP:=⟨rfl,by kernel_rfl,(nL bD (nL cG (nL jV (nG gF .nil)))),odr rfl,rfl,rfl,rfl,rfl,(show aI (fx P).T rP _ from (.cons bD (.inl rfl) (.cons cG (.inl rfl) .nil))).ok,rfl,odr rfl,bW rfl rfl rfl⟩
theorem Mu(P:ak):keepIn (fx P).K (.ref 956)=true:=rfl
noncomputable def qR:aq:=[(52,.loc),(123,.loc),(15,.loc)]
noncomputable def Ml:aE:=⟨2,2,[.nul],[]⟩
theorem Rz(P:ak):br (fx P) qR Ml 963 Ap IU:=⟨rfl,by kernel_rfl,(nL bD (nL cG (nL jV .nil))),odr rfl,rfl,rfl,rfl,rfl,(show aI (fx P).T qR _ from (.cons bD (.inl rfl) (.cons cG (.inl rfl) .nil))).ok,rfl,odr rfl,bW rfl rfl rfl⟩
theorem Hy(P:ak):keepIn (fx P).K (.ref 963)=true:=rfl
noncomputable def qe:aq:=[(52,.loc),(38,.loc),(123,.loc)]
noncomputable def PT:aE:=⟨3,3,[],[]⟩
theorem Qc(P:ak):br (fx P) qe PT 970 zY MB:=⟨rfl,by kernel_rfl,(nL bD (nL mi (nL cG .nil))),odr rfl,rfl,rfl,rfl,rfl,(show aI (fx P).T qe _ from (.cons bD (.inl rfl) (.cons mi (.inl rfl) (.cons cG (.inl rfl) .nil)))).ok,rfl,odr rfl,bW rfl rfl rfl⟩
theorem Qf(P:ak):keepIn (fx P).K (.ref 970)=true:=rfl
noncomputable def qm:aq:=[(52,.loc),(123,.loc),(106,.loc),(15,.loc),(101,.loc),(212,.glo)]
noncomputable def Qt:aE:=⟨3,3,[.nul,.nul,.nul],[]⟩
theorem KZ(P:ak):br (fx P) qm Qt 977 AG PU:=⟨rfl,by kernel_rfl,(nL bD (nL cG (nL ej (nL jV (nL abO (nG ym .nil)))))),odr rfl,rfl,rfl,rfl,rfl,(show aI (fx P).T qm _ from (.cons bD (.inl rfl) (.cons cG (.inl rfl) (.cons ej (.inl rfl) .nil)))).ok,rfl,odr rfl,bW rfl rfl rfl⟩
theorem HY(P:ak):keepIn (fx P).K (.ref 977)=true:=rfl
noncomputable def qQ:aq:=[(52,.loc),(123,.loc),(15,.loc),(127,.loc),(106,.loc)]
noncomputable def Pl:aE:=⟨2,2,[.nul,.nul,.nul],[]⟩
theorem MA(P:ak):br (fx P) qQ Pl 984 zX Rc:=⟨rfl,by kernel_rfl,(nL bD (nL cG (nL jV (nL qW (nL ej .nil))))),odr rfl,rfl,rfl,rfl,rfl,(show aI (fx P).T qQ _ from (.cons bD (.inl rfl) (.cons cG (.inl rfl) .nil))).ok,rfl,odr rfl,bW rfl rfl rfl⟩
theorem HU(P:ak):keepIn (fx P).K (.ref 984)=true:=rfl
noncomputable def qr:aq:=[(52,.loc),(38,.loc),(123,.loc),(106,.loc)]
noncomputable def KF:aE:=⟨4,4,[],[]⟩
theorem MC(P:ak):br (fx P) qr KF 991 AJ PY:=⟨rfl,by kernel_rfl,(nL bD (nL mi (nL cG (nL ej .nil)))),odr rfl,rfl,rfl,rfl,rfl,(show aI (fx P).T qr _ from (.cons bD (.inl rfl) (.cons mi (.inl rfl) (.cons cG (.inl rfl) (.cons ej (.inl rfl) .nil))))).ok,rfl,odr rfl,bW rfl rfl rfl⟩
theorem LS(P:ak):keepIn (fx P).K (.ref 991)=true:=rfl
noncomputable def qX:aq:=[(52,.loc),(123,.loc),(15,.loc),(198,.glo),(220,.glo),(212,.glo)]
noncomputable def PF:aE:=⟨2,2,[.nul,.nul,.nul,.nul],[]⟩
theorem P8(P:ak):br (fx P) qX PF 998 AN MY:=⟨rfl,by kernel_rfl,(nL bD (nL cG (nL jV (nG aaO (nG aax (nG ym .nil)))))),odr rfl,rfl,rfl,rfl,rfl,(show aI (fx P).T qX _ from (.cons bD (.inl rfl) (.cons cG (.inl rfl) .nil))).ok,rfl,odr rfl,bW rfl rfl rfl⟩
theorem Rl(P:ak):keepIn (fx P).K (.ref 998)=true:=rfl
noncomputable def rD:aq:=[(52,.loc),(38,.loc),(123,.loc),(62,.loc),(83,.loc),(30,.loc)]
noncomputable def Q2:aE:=⟨4,4,[.nul,.nul],[]⟩
theorem L4(P:ak):br (fx P) rD Q2 1005 Aj KY:=⟨rfl,by kernel_rfl,(nL bD (nL mi (nL cG (nL jX (nL ln (nL j8 .nil)))))),odr rfl,rfl,rfl,rfl,rfl,(show aI (fx P).T rD _ from (.cons bD (.inl rfl) (.cons mi (.inl rfl) (.cons cG (.inl rfl) (.cons jX (.inl rfl) .nil))))).ok,rfl,odr rfl,bW rfl rfl rfl⟩
theorem Pg(P:ak):keepIn (fx P).K (.ref 1005)=true:=rfl
noncomputable def qc:aq:=[(52,.loc),(191,.loc),(79,.loc),(27,.loc),(38,.loc),(123,.loc),(106,.loc),(190,.glo)]
noncomputable def LN:aE:=⟨3,3,[.nul,.nul,.nul,.nul,.nul],[]⟩
theorem Hz(P:ak):br (fx P) qc LN 1012 A7 Rq:=⟨rfl,by kernel_rfl,(nL bD (nL kH (nL pn (nL WW (nL mi (nL cG (nL ej (nG Pd .nil)))))))),odr rfl,rfl,rfl,rfl,rfl,(show aI (fx P).T qc _ from (.cons bD (.inl rfl) (.cons kH (.inl rfl) (.cons pn (.inl rfl) .nil)))).ok,rfl,odr rfl,bW rfl rfl rfl⟩
theorem Qk(P:ak):keepIn (fx P).K (.ref 1012)=true:=rfl
noncomputable def rO:aq:=[(52,.loc),(50,.loc)]
noncomputable def MW:aE:=⟨2,2,[],[]⟩
theorem P5(P:ak):br (fx P) rO MW 895 Ai NO:=⟨rfl,by kernel_rfl,(nL bD (nL sq .nil)),odr rfl,rfl,rfl,rfl,rfl,(show aI (fx P).T rO _ from (.cons bD (.inl rfl) (.cons sq (.inl rfl) .nil))).ok,rfl,odr rfl,bW rfl rfl rfl⟩
theorem QR(P:ak):keepIn (fx P).K (.ref 895)=true:=rfl
noncomputable def qx:aq:=[(52,.loc)]
noncomputable def Kd:aE:=⟨1,1,[],[]⟩
theorem I9(P:ak):br (fx P) qx Kd 1033 AK Ib:=⟨rfl,by kernel_rfl,(nL bD .nil),odr rfl,rfl,rfl,rfl,rfl,(show aI (fx P).T qx _ from (.cons bD (.inl rfl) .nil)).ok,rfl,odr rfl,bW rfl rfl rfl⟩
theorem QP(P:ak):keepIn (fx P).K (.ref 1033)=true:=rfl
noncomputable def qO:aq:=[(52,.loc),(93,.loc),(191,.loc)]
noncomputable def Ms:aE:=⟨3,3,[],[]⟩
theorem Lz(P:ak):br (fx P) qO Ms 1040 zr Lh:=⟨rfl,by kernel_rfl,(nL bD (nL jq (nL kH .nil))),odr rfl,rfl,rfl,rfl,rfl,(show aI (fx P).T qO _ from (.cons bD (.inl rfl) (.cons jq (.inl rfl) (.cons kH (.inl rfl) .nil)))).ok,rfl,odr rfl,bW rfl rfl rfl⟩
theorem NU(P:ak):keepIn (fx P).K (.ref 1040)=true:=rfl
noncomputable def vP:aq:=[(52,.loc),(93,.loc),(18,.loc),(235,.glo)]
noncomputable def M1:aE:=⟨2,2,[.nul,.nul],[]⟩
theorem QH(P:ak):br (fx P) vP M1 1047 Ei Ku:=⟨rfl,by kernel_rfl,(nL bD (nL jq (nL dq (nG qG .nil)))),odr rfl,rfl,rfl,rfl,rfl,(show aI (fx P).T vP _ from (.cons bD (.inl rfl) (.cons jq (.inl rfl) .nil))).ok,rfl,odr rfl,bW rfl rfl rfl⟩
theorem HV(P:ak):keepIn (fx P).K (.ref 1047)=true:=rfl
noncomputable def og:aq:=[(52,.loc),(93,.cel),(42,.loc),(77,.loc),(83,.loc),(235,.glo)]
noncomputable def Rw:aE:=⟨3,3,[.nul,.nul,.nul],[1]⟩
theorem G4(P:ak):br (fx P) og Rw 1052 ER IB:=⟨rfl,by kernel_rfl,(nL bD (nC jq (nL i8 (nL T77 (nL ln (nG qG .nil)))))),odr rfl,rfl,rfl,rfl,rfl,(show aI (fx P).T og _ from (.cons bD (.inl rfl) (.cons jq (.inr rfl) (.cons i8 (.inl rfl) .nil)))).ok,rfl,odr rfl,bW rfl rfl rfl⟩
theorem Kz(P:ak):keepIn (fx P).K (.ref 1052)=true:=rfl
noncomputable def rM:aq:=[(52,.loc),(93,.loc),(191,.loc)]
noncomputable def LJ:aE:=⟨3,3,[],[]⟩
theorem HZ(P:ak):br (fx P) rM LJ 1059 zJ Lq:=⟨rfl,by kernel_rfl,(nL bD (nL jq (nL kH .nil))),odr rfl,rfl,rfl,rfl,rfl,(show aI (fx P).T rM _ from (.cons bD (.inl rfl) (.cons jq (.inl rfl) (.cons kH (.inl rfl) .nil)))).ok,rfl,odr rfl,bW rfl rfl rfl⟩
theorem Mv(P:ak):keepIn (fx P).K (.ref 1059)=true:=rfl
noncomputable def ry:aq:=[(52,.loc),(143,.loc)]
noncomputable def Hm:aE:=⟨2,2,[],[]⟩
theorem KC(P:ak):br (fx P) ry Hm 312 Ao K9:=⟨rfl,by kernel_rfl,(nL bD (nL nY .nil)),odr rfl,rfl,rfl,rfl,rfl,(show aI (fx P).T ry _ from (.cons bD (.inl rfl) (.cons nY (.inl rfl) .nil))).ok,rfl,odr rfl,bW rfl rfl rfl⟩
theorem HO(P:ak):keepIn (fx P).K (.ref 312)=true:=rfl
noncomputable def rN:aq:=[(52,.loc),(83,.loc),(223,.glo),(13,.glo)]
noncomputable def QQ:aE:=⟨1,1,[.nul,.nul,.nul],[]⟩
theorem He(P:ak):br (fx P) rN QQ 319 zx IP:=⟨rfl,by kernel_rfl,(nL bD (nL ln (nG No (nG gF .nil)))),odr rfl,rfl,rfl,rfl,rfl,(show aI (fx P).T rN _ from (.cons bD (.inl rfl) .nil)).ok,rfl,odr rfl,bW rfl rfl rfl⟩
theorem Kh(P:ak):keepIn (fx P).K (.ref 319)=true:=rfl
noncomputable def oz:aq:=[(52,.loc),(56,.loc),(13,.glo)]
noncomputable def G2:aE:=⟨1,1,[.nul,.nul],[]⟩
theorem PH(P:ak):br (fx P) oz G2 324 Bd QB:=⟨rfl,by kernel_rfl,(nL bD (nL AX (nG gF .nil))),odr rfl,rfl,rfl,rfl,rfl,(show aI (fx P).T oz _ from (.cons bD (.inl rfl) .nil)).ok,rfl,odr rfl,bW rfl rfl rfl⟩
theorem QD(P:ak):keepIn (fx P).K (.ref 324)=true:=rfl
noncomputable def rv:aq:=[(52,.loc),(123,.loc),(111,.loc),(83,.loc),(221,.glo)]
noncomputable def LL:aE:=⟨3,3,[.nul,.nul],[]⟩
theorem Q7(P:ak):br (fx P) rv LL 331 Bj MR:=⟨rfl,by kernel_rfl,(nL bD (nL cG (nL qj (nL ln (nG M8 .nil))))),odr rfl,rfl,rfl,rfl,rfl,(show aI (fx P).T rv _ from (.cons bD (.inl rfl) (.cons cG (.inl rfl) (.cons qj (.inl rfl) .nil)))).ok,rfl,odr rfl,bW rfl rfl rfl⟩
theorem LA(P:ak):keepIn (fx P).K (.ref 331)=true:=rfl
noncomputable def rJ:aq:=[(52,.loc),(123,.loc)]
noncomputable def P6:aE:=⟨2,2,[],[]⟩
theorem Ki(P:ak):br (fx P) rJ P6 291 Am LH:=⟨rfl,by kernel_rfl,(nL bD (nL cG .nil)),odr rfl,rfl,rfl,rfl,rfl,(show aI (fx P).T rJ _ from (.cons bD (.inl rfl) (.cons cG (.inl rfl) .nil))).ok,rfl,odr rfl,bW rfl rfl rfl⟩
theorem Ko(P:ak):keepIn (fx P).K (.ref 291)=true:=rfl
noncomputable def rf:aq:=[(52,.loc),(163,.loc)]
noncomputable def II:aE:=⟨2,2,[],[]⟩
theorem Rf(P:ak):br (fx P) rf II 249 zG LK:=⟨rfl,by kernel_rfl,(nL bD (nL BN .nil)),odr rfl,rfl,rfl,rfl,rfl,(show aI (fx P).T rf _ from (.cons bD (.inl rfl) (.cons BN (.inl rfl) .nil))).ok,rfl,odr rfl,bW rfl rfl rfl⟩
theorem Lp(P:ak):keepIn (fx P).K (.ref 249)=true:=rfl
noncomputable def qf:aq:=[(52,.loc),(42,.loc),(73,.loc),(83,.loc),(13,.glo),(221,.glo)]
noncomputable def Hx:aE:=⟨2,2,[.nul,.nul,.nul,.nul],[]⟩
theorem Il(P:ak):br (fx P) qf Hx 263 AR Lw:=⟨rfl,by kernel_rfl,(nL bD (nL i8 (nL T73 (nL ln (nG gF (nG M8 .nil)))))),odr rfl,rfl,rfl,rfl,rfl,(show aI (fx P).T qf _ from (.cons bD (.inl rfl) (.cons i8 (.inl rfl) .nil))).ok,rfl,odr rfl,bW rfl rfl rfl⟩
theorem Ih(P:ak):keepIn (fx P).K (.ref 263)=true:=rfl
noncomputable def rr:aq:=[(52,.loc),(18,.loc)]
noncomputable def HH:aE:=⟨2,2,[],[]⟩
theorem LP(P:ak):br (fx P) rr HH 820 zF My:=⟨rfl,by kernel_rfl,(nL bD (nL dq .nil)),odr rfl,rfl,rfl,rfl,rfl,(show aI (fx P).T rr _ from (.cons bD (.inl rfl) (.cons dq (.inl rfl) .nil))).ok,rfl,odr rfl,bW rfl rfl rfl⟩
theorem Hd(P:ak):keepIn (fx P).K (.ref 820)=true:=rfl
noncomputable def qV:aq:=[(52,.loc),(42,.loc),(93,.loc),(13,.glo)]
noncomputable def IK:aE:=⟨2,2,[.nul,.nul],[]⟩
theorem HS(P:ak):br (fx P) qV IK 827 Ab IG:=⟨rfl,by kernel_rfl,(nL bD (nL i8 (nL jq (nG gF .nil)))),odr rfl,rfl,rfl,rfl,rfl,(show aI (fx P).T qV _ from (.cons bD (.inl rfl) (.cons i8 (.inl rfl) .nil))).ok,rfl,odr rfl,bW rfl rfl rfl⟩
theorem Ry(P:ak):keepIn (fx P).K (.ref 827)=true:=rfl
noncomputable def rp:aq:=[(52,.loc),(106,.loc),(181,.glo)]
noncomputable def Nj:aE:=⟨2,2,[.nul],[]⟩
theorem QA(P:ak):br (fx P) rp Nj 111 Bc QS:=⟨rfl,by kernel_rfl,(nL bD (nL ej (nG PK .nil))),odr rfl,rfl,rfl,rfl,rfl,(show aI (fx P).T rp _ from (.cons bD (.inl rfl) (.cons ej (.inl rfl) .nil))).ok,rfl,odr rfl,bW rfl rfl rfl⟩
theorem Qn(P:ak):keepIn (fx P).K (.ref 111)=true:=rfl
noncomputable def qI:aq:=[(52,.loc),(147,.loc),(57,.loc),(182,.glo)]
noncomputable def P7:aE:=⟨2,3,[.int (.lit 0),.nul],[]⟩
theorem L9(P:ak):br (fx P) qI P7 36 zj Ni:=⟨rfl,by kernel_rfl,(nL bD (nL Du (nL Ip (nG IE .nil)))),odr rfl,rfl,rfl,rfl,rfl,(show aI (fx P).T qI _ from (.cons bD (.inl rfl) (.cons Du (.inl rfl) (.cons Ip (.inl rfl) .nil)))).ok,rfl,odr rfl,dv2 rfl rfl rfl rfl rfl⟩
theorem Bi(P:ak):keepIn (fx P).K (.ref 36)=true:=rfl
end
end Internal.L
section
open Internal.N Internal.L
local macro_rules | `(tactic| symm)=>`(tactic| repeat (first
 | with_reducible exact lc
 | with_reducible refine gK ?_ ?_ (by kernel_rfl)
 | with_reducible exact ab0 (by kernel_rfl) _
 | ((with_reducible refine Fq ?_ _ _); first | exact .str (by kernel_rfl) | exact .int _ | exact .bool _ | exact .none)
 | with_reducible refine GJ hT ?_ ?_ (by kernel_rfl) _
 | with_reducible refine Gy ?_ _ _
 | with_reducible exact YA (by assumption) (by kernel_rfl) _
 | with_reducible refine GG ?_ _
 | with_reducible refine bd (jC hT (jM _)) ?_ ?_ (by kernel_rfl) _
 | ((with_reducible refine VP ?_); exact rfl)
 | with_reducible exact bf))
local macro_rules | `(tactic| left)=>`(tactic| refine iE ?_ ?_ ?_ rfl (.inl rfl) rfl _)
namespace Internal.L
open Internal.N
noncomputable section
set_option genInjectivity false
set_option genSizeOfSpec false
set_option genSizeOf false
structure bc where
 f2:SV
 f3:SV
 f4:SV
 f5:SV
 f6:SV
 f7:SV
 f8:SV
 f9:SV
 f10:SV
 f11:SV
 f16:SV
 f17:SV
 f19:SV
 f20:SV
 f21:SV
 f22:SV
 f23:SV
 f24:SV
 f25:SV
 f27:SV
 f28:SV
 f29:SV
 f30:SV
 f31:SV
 f32:SV
 f33:SV
 f34:SV
 f35:SV
 f36:SV
 f37:SV
 f38:SV
 f39:SV
 f40:SV
 f41:SV
 f42:SV
 f43:SV
 f44:SV
 f45:SV
 f46:SV
 f47:SV
 f48:SV
 f49:SV
 f50:SV
 f51:SV
 f54:SV
 f55:SV
 f56:SV
 f57:SV
 f58:SV
 f59:SV
 f60:SV
 f61:SV
 f62:SV
 f63:SV
 f64:SV
 f65:SV
structure aw (P:ak) (d:Nat) (R:bc):Prop where
 o2:au (fx P) d xb R.f2 B2
 o3:au (fx P) d xi R.f3 B3
 o4:au (fx P) d xg R.f4 B4
 o5:au (fx P) d su R.f5 B5
 o6:au (fx P) d o0 R.f6 B6
 o7:au (fx P) d xe R.f7 B7
 o8:au (fx P) d wP R.f8 B8
 o9:au (fx P) d gx R.f9 B9
 o10:au (fx P) d rI R.f10 Ad
 o11:au (fx P) d qu R.f11 zZ
 o16:au (fx P) d rz R.f16 Au
 o17:au (fx P) d oN R.f17 za
 o19:au (fx P) d qh R.f19 zP
 o20:au (fx P) d qM R.f20 z5
 o21:au (fx P) d qp R.f21 A6
 o22:au (fx P) d ql R.f22 ze
 o23:au (fx P) d qg R.f23 zU
 o24:au (fx P) d rq R.f24 zA
 o25:au (fx P) d qZ R.f25 Av
 o27:au (fx P) d rc R.f27 AF
 o28:au (fx P) d qb R.f28 AD
 o29:au (fx P) d ro R.f29 Be
 o30:au (fx P) d qF R.f30 zv
 o31:au (fx P) d rl R.f31 AA
 o32:au (fx P) d qH R.f32 zo
 o33:au (fx P) d qS R.f33 zE
 o34:au (fx P) d qP R.f34 Al
 o35:au (fx P) d qK R.f35 AI
 o36:au (fx P) d rQ R.f36 AP
 o37:au (fx P) d qA R.f37 AY
 o38:au (fx P) d qa R.f38 zN
 o39:au (fx P) d nV R.f39 Bk
 o40:au (fx P) d rP R.f40 zW
 o41:au (fx P) d qR R.f41 Ap
 o42:au (fx P) d qe R.f42 zY
 o43:au (fx P) d qm R.f43 AG
 o44:au (fx P) d qQ R.f44 zX
 o45:au (fx P) d qr R.f45 AJ
 o46:au (fx P) d qX R.f46 AN
 o47:au (fx P) d rD R.f47 Aj
 o48:au (fx P) d qc R.f48 A7
 o49:au (fx P) d rO R.f49 Ai
 o50:au (fx P) d qx R.f50 AK
 o51:au (fx P) d qO R.f51 zr
 o54:au (fx P) d rM R.f54 zJ
 o55:au (fx P) d ry R.f55 Ao
 o56:au (fx P) d rN R.f56 zx
 o57:au (fx P) d oz R.f57 Bd
 o58:au (fx P) d rv R.f58 Bj
 o59:au (fx P) d rJ R.f59 Am
 o60:au (fx P) d rf R.f60 zG
 o61:au (fx P) d qf R.f61 AR
 o62:au (fx P) d rr R.f62 zF
 o63:au (fx P) d qV R.f63 Ab
 o64:au (fx P) d rp R.f64 Bc
 o65:au (fx P) d qI R.f65 zj
variable {P:ak} {d:Nat} {R:bc}
theorem fg2(h:aw P d R):aU (fx P) d r2 R.f2 1925:=⟨⟨xb,B2,D2,Un P,h.o2⟩,jz P,by kernel_rfl⟩
def c2(R:bc):ce:=eR r2 R.f2
theorem kD(h:aw P d R):cK (fx P) (d+2) (c2 R) (.ref 1925):=(cE hT hD (fg2 h)).more (Nat.le_succ _)
theorem fg3(h:aw P d R):aU (fx P) d r3 R.f3 1932:=⟨⟨xi,B3,D3,Sm P,h.o3⟩,pM P,by kernel_rfl⟩
def c3(R:bc):ce:=eR r3 R.f3
theorem sU(h:aw P d R):cK (fx P) (d+2) (c3 R) (.ref 1932):=(cE hT hD (fg3 h)).more (Nat.le_succ _)
theorem fg4(h:aw P d R):aU (fx P) d r4 R.f4 1939:=⟨⟨xg,B4,D4,Vv P,h.o4⟩,mR P,by kernel_rfl⟩
def c4(R:bc):ce:=eR r4 R.f4
theorem oV(h:aw P d R):cK (fx P) (d+2) (c4 R) (.ref 1939):=(cE hT hD (fg4 h)).more (Nat.le_succ _)
theorem fg5(h:aw P d R):aU (fx P) d r5 R.f5 1944:=⟨⟨su,B5,D5,U7 P,h.o5⟩,x9 P,by kernel_rfl⟩
def c5(R:bc):ce:=eR r5 R.f5
theorem EG(h:aw P d R):cK (fx P) (d+2) (c5 R) (.ref 1944):=(cE hT hD (fg5 h)).more (Nat.le_succ _)
theorem fg6(h:aw P d R):aU (fx P) d r6 R.f6 1949:=⟨⟨o0,B6,D6,Us P,h.o6⟩,yn P,by kernel_rfl⟩
def c6(R:bc):ce:=eR r6 R.f6
theorem E2(h:aw P d R):cK (fx P) (d+2) (c6 R) (.ref 1949):=(cE hT hD (fg6 h)).more (Nat.le_succ _)
theorem fg7(h:aw P d R):aU (fx P) d r7 R.f7 1956:=⟨⟨xe,B7,D7,TS P,h.o7⟩,yg P,by kernel_rfl⟩
def c7(R:bc):ce:=eR r7 R.f7
theorem Fa(h:aw P d R):cK (fx P) (d+2) (c7 R) (.ref 1956):=(cE hT hD (fg7 h)).more (Nat.le_succ _)
theorem fg8(h:aw P d R):aU (fx P) d r8 R.f8 1963:=⟨⟨wP,B8,D8,Sx P,h.o8⟩,xC P,by kernel_rfl⟩
def c8(R:bc):ce:=eR r8 R.f8
theorem Fs(h:aw P d R):cK (fx P) (d+2) (c8 R) (.ref 1963):=(cE hT hD (fg8 h)).more (Nat.le_succ _)
theorem fg9(h:aw P d R):aU (fx P) d r9 R.f9 1968:=⟨⟨gx,B9,D9,DY P,h.o9⟩,mT P,by kernel_rfl⟩
def c9(R:bc):ce:=eR r9 R.f9
theorem sL(h:aw P d R):cK (fx P) (d+2) (c9 R) (.ref 1968):=(cE hT hD (fg9 h)).more (Nat.le_succ _)
theorem Yg(h:aw P d R):aU (fx P) d MG R.f10 1975:=⟨⟨rI,Ad,PW,NB P,h.o10⟩,z7 P,by kernel_rfl⟩
def E6(R:bc):ce:=eR MG R.f10
theorem GY(h:aw P d R):cK (fx P) (d+2) (E6 R) (.ref 1975):=(cE hT hD (Yg h)).more (Nat.le_succ _)
theorem aae(h:aw P d R):aU (fx P) d NG R.f11 1982:=⟨⟨qu,zZ,HR,Kk P,h.o11⟩,zQ P,by kernel_rfl⟩
def Wz(R:bc):ce:=eR NG R.f11
theorem K4(h:aw P d R):cK (fx P) (d+2) (Wz R) (.ref 1982):=(cE hT hD (aae h)).more (Nat.le_succ _)
theorem acf(h:aw P d R):aU (fx P) d Q1 R.f16 1875:=⟨⟨rz,Au,PE,HL P,h.o16⟩,zL P,by kernel_rfl⟩
def Wp(R:bc):ce:=eR Q1 R.f16
theorem Iv(h:aw P d R):cK (fx P) (d+2) (Wp R) (.ref 1875):=(cE hT hD (acf h)).more (Nat.le_succ _)
theorem Y7(h:aw P d R):aU (fx P) d KH R.f17 1739:=⟨⟨oN,za,Pj,QY P,h.o17⟩,Ag P,by kernel_rfl⟩
def WG(R:bc):ce:=eR KH R.f17
theorem Hb(h:aw P d R):cK (fx P) (d+2) (WG R) (.ref 1739):=(cE hT hD (Y7 h)).more (Nat.le_succ _)
theorem acp(h:aw P d R):aU (fx P) d KT R.f19 771:=⟨⟨qh,zP,M4,Nq P,h.o19⟩,ut P,by kernel_rfl⟩
def L7(R:bc):ce:=eR KT R.f19
theorem zu(h:aw P d R):cK (fx P) (d+2) (L7 R) (.ref 771):=(cE hT hD (acp h)).more (Nat.le_succ _)
theorem aci(h:aw P d R):aU (fx P) d Ky R.f20 778:=⟨⟨qM,z5,PP,LX P,h.o20⟩,uy P,by kernel_rfl⟩
def LC(R:bc):ce:=eR Ky R.f20
theorem Bf(h:aw P d R):cK (fx P) (d+2) (LC R) (.ref 778):=(cE hT hD (aci h)).more (Nat.le_succ _)
theorem abe(h:aw P d R):aU (fx P) d Pp R.f21 785:=⟨⟨qp,A6,Io,Mb P,h.o21⟩,mJ P,by kernel_rfl⟩
def A8(R:bc):ce:=eR Pp R.f21
theorem pT(h:aw P d R):cK (fx P) (d+2) (A8 R) (.ref 785):=(cE hT hD (abe h)).more (Nat.le_succ _)
theorem aau(h:aw P d R):aU (fx P) d Ly R.f22 764:=⟨⟨ql,ze,LF,Pw P,h.o22⟩,tJ P,by kernel_rfl⟩
def HE(R:bc):ce:=eR Ly R.f22
theorem AT(h:aw P d R):cK (fx P) (d+2) (HE R) (.ref 764):=(cE hT hD (aau h)).more (Nat.le_succ _)
theorem ZB(h:aw P d R):aU (fx P) d M6 R.f23 806:=⟨⟨qg,zU,MJ,LY P,h.o23⟩,vO P,by kernel_rfl⟩
def Mz(R:bc):ce:=eR M6 R.f23
theorem zV(h:aw P d R):cK (fx P) (d+2) (Mz R) (.ref 806):=(cE hT hD (ZB h)).more (Nat.le_succ _)
theorem Yr(h:aw P d R):aU (fx P) d HW R.f24 626:=⟨⟨rq,zA,Kf,Ij P,h.o24⟩,zy P,by kernel_rfl⟩
def Ww(R:bc):ce:=eR HW R.f24
theorem K2(h:aw P d R):cK (fx P) (d+2) (Ww R) (.ref 626):=(cE hT hD (Yr h)).more (Nat.le_succ _)
theorem aaW(h:aw P d R):aU (fx P) d Lj R.f25 616:=⟨⟨qZ,Av,Ho,LO P,h.o25⟩,zD P,by kernel_rfl⟩
def WN(R:bc):ce:=eR Lj R.f25
theorem Ke(h:aw P d R):cK (fx P) (d+2) (WN R) (.ref 616):=(cE hT hD (aaW h)).more (Nat.le_succ _)
theorem abU(h:aw P d R):aU (fx P) d Lb R.f27 124:=⟨⟨rc,AF,LW,IS P,h.o27⟩,pz P,by kernel_rfl⟩
def El(R:bc):ce:=eR Lb R.f27
theorem vN(h:aw P d R):cK (fx P) (d+2) (El R) (.ref 124):=(cE hT hD (abU h)).more (Nat.le_succ _)
theorem aaI(h:aw P d R):aU (fx P) d MK R.f28 1861:=⟨⟨qb,AD,Qo,K6 P,h.o28⟩,M9 P,by kernel_rfl⟩
theorem Yh(h:aw P d R):aU (fx P) d PD R.f29 1890:=⟨⟨ro,Be,Im,Qy P,h.o29⟩,IQ P,by kernel_rfl⟩
theorem W9(h:aw P d R):aU (fx P) d NE R.f30 1897:=⟨⟨qF,zv,Ie,K0 P,h.o30⟩,Mi P,by kernel_rfl⟩
theorem Xu(h:aw P d R):aU (fx P) d Nr R.f31 1753:=⟨⟨rl,AA,Qz,Q4 P,h.o31⟩,Hp P,by kernel_rfl⟩
theorem aaU(h:aw P d R):aU (fx P) d LR R.f32 1788:=⟨⟨qH,zo,Mj,QM P,h.o32⟩,HM P,by kernel_rfl⟩
theorem abt(h:aw P d R):aU (fx P) d KM R.f33 1795:=⟨⟨qS,zE,MP,Ri P,h.o33⟩,Iz P,by kernel_rfl⟩
theorem XB(h:aw P d R):aU (fx P) d Re R.f34 1809:=⟨⟨qP,Al,HT,Ny P,h.o34⟩,NI P,by kernel_rfl⟩
theorem ZM(h:aw P d R):aU (fx P) d Mm R.f35 473:=⟨⟨qK,AI,Qw,Hn P,h.o35⟩,L8 P,by kernel_rfl⟩
theorem acx(h:aw P d R):aU (fx P) d MT R.f36 916:=⟨⟨rQ,AP,H0,Rs P,h.o36⟩,KJ P,by kernel_rfl⟩
theorem aaM(h:aw P d R):aU (fx P) d Mw R.f37 923:=⟨⟨qA,AY,Nv,G1 P,h.o37⟩,I7 P,by kernel_rfl⟩
theorem acy(h:aw P d R):aU (fx P) d NN R.f38 944:=⟨⟨qa,zN,IC,Qj P,h.o38⟩,Hq P,by kernel_rfl⟩
theorem Yq(h:aw P d R):aU (fx P) d LI R.f39 949:=⟨⟨nV,Bk,Nh,Ro P,h.o39⟩,Ix P,by kernel_rfl⟩
theorem aaj(h:aw P d R):aU (fx P) d Rm R.f40 956:=⟨⟨rP,zW,NP,K8 P,h.o40⟩,Mu P,by kernel_rfl⟩
theorem Y2(h:aw P d R):aU (fx P) d Ml R.f41 963:=⟨⟨qR,Ap,IU,Rz P,h.o41⟩,Hy P,by kernel_rfl⟩
theorem ZD(h:aw P d R):aU (fx P) d PT R.f42 970:=⟨⟨qe,zY,MB,Qc P,h.o42⟩,Qf P,by kernel_rfl⟩
theorem abw(h:aw P d R):aU (fx P) d Qt R.f43 977:=⟨⟨qm,AG,PU,KZ P,h.o43⟩,HY P,by kernel_rfl⟩
theorem Xy(h:aw P d R):aU (fx P) d Pl R.f44 984:=⟨⟨qQ,zX,Rc,MA P,h.o44⟩,HU P,by kernel_rfl⟩
theorem Xk(h:aw P d R):aU (fx P) d KF R.f45 991:=⟨⟨qr,AJ,PY,MC P,h.o45⟩,LS P,by kernel_rfl⟩
theorem ZT(h:aw P d R):aU (fx P) d PF R.f46 998:=⟨⟨qX,AN,MY,P8 P,h.o46⟩,Rl P,by kernel_rfl⟩
theorem aby(h:aw P d R):aU (fx P) d Q2 R.f47 1005:=⟨⟨rD,Aj,KY,L4 P,h.o47⟩,Pg P,by kernel_rfl⟩
theorem Xe(h:aw P d R):aU (fx P) d LN R.f48 1012:=⟨⟨qc,A7,Rq,Hz P,h.o48⟩,Qk P,by kernel_rfl⟩
theorem abb(h:aw P d R):aU (fx P) d MW R.f49 895:=⟨⟨rO,Ai,NO,P5 P,h.o49⟩,QR P,by kernel_rfl⟩
theorem aak(h:aw P d R):aU (fx P) d Kd R.f50 1033:=⟨⟨qx,AK,Ib,I9 P,h.o50⟩,QP P,by kernel_rfl⟩
theorem abK(h:aw P d R):aU (fx P) d Ms R.f51 1040:=⟨⟨qO,zr,Lh,Lz P,h.o51⟩,NU P,by kernel_rfl⟩
theorem abS(h:aw P d R):aU (fx P) d LJ R.f54 1059:=⟨⟨rM,zJ,Lq,HZ P,h.o54⟩,Mv P,by kernel_rfl⟩
theorem abQ(h:aw P d R):aU (fx P) d Hm R.f55 312:=⟨⟨ry,Ao,K9,KC P,h.o55⟩,HO P,by kernel_rfl⟩
theorem abv(h:aw P d R):aU (fx P) d QQ R.f56 319:=⟨⟨rN,zx,IP,He P,h.o56⟩,Kh P,by kernel_rfl⟩
theorem YD(h:aw P d R):aU (fx P) d G2 R.f57 324:=⟨⟨oz,Bd,QB,PH P,h.o57⟩,QD P,by kernel_rfl⟩
theorem XT(h:aw P d R):aU (fx P) d LL R.f58 331:=⟨⟨rv,Bj,MR,Q7 P,h.o58⟩,LA P,by kernel_rfl⟩
theorem aca(h:aw P d R):aU (fx P) d P6 R.f59 291:=⟨⟨rJ,Am,LH,Ki P,h.o59⟩,Ko P,by kernel_rfl⟩
theorem Z5(h:aw P d R):aU (fx P) d II R.f60 249:=⟨⟨rf,zG,LK,Rf P,h.o60⟩,Lp P,by kernel_rfl⟩
theorem XG(h:aw P d R):aU (fx P) d Hx R.f61 263:=⟨⟨qf,AR,Lw,Il P,h.o61⟩,Ih P,by kernel_rfl⟩
theorem Zc(h:aw P d R):aU (fx P) d HH R.f62 820:=⟨⟨rr,zF,My,LP P,h.o62⟩,Hd P,by kernel_rfl⟩
theorem acq(h:aw P d R):aU (fx P) d IK R.f63 827:=⟨⟨qV,Ab,IG,HS P,h.o63⟩,Ry P,by kernel_rfl⟩
theorem Xf(h:aw P d R):aU (fx P) d Nj R.f64 111:=⟨⟨rp,Bc,QS,QA P,h.o64⟩,Qn P,by kernel_rfl⟩
theorem aad(h:aw P d R):aU (fx P) d P7 R.f65 36:=⟨⟨qI,zj,Ni,L9 P,h.o65⟩,Bi P,by kernel_rfl⟩
def W6(R:bc):ce:=eR P7 R.f65
theorem QW(h:aw P d R):cK (fx P) (d+2) (W6 R) (.ref 36):=(cE hT hD (aad h)).more (Nat.le_succ _)
def n0(R:bc):ce:=jg 0 MK R.f28
theorem yV(h:aw P d R):cK (fx P) (d+2) (n0 R) (.ref 1864):=eN hT hD ⟨rfl,by kernel_rfl,by kernel_rfl,aaI h⟩
theorem pU(P:ak):keepIn (fx P).K (.ref 1864)=true:=by kernel_rfl
def n1(R:bc):ce:=jg 1 PD R.f29
theorem Zd(h:aw P d R):cK (fx P) (d+2) (n1 R) (.ref 1907):=eN hT hD ⟨rfl,by kernel_rfl,by kernel_rfl,Yh h⟩
theorem HG(P:ak):keepIn (fx P).K (.ref 1907)=true:=by kernel_rfl
def n2(R:bc):ce:=jg 2 Nr R.f31
theorem Yw(h:aw P d R):cK (fx P) (d+2) (n2 R) (.ref 1840):=eN hT hD ⟨rfl,by kernel_rfl,by kernel_rfl,Xu h⟩
theorem RG(P:ak):keepIn (fx P).K (.ref 1840)=true:=by kernel_rfl
def n3(R:bc):ce:=jg 3 Mm R.f35
theorem aac(h:aw P d R):cK (fx P) (d+2) (n3 R) (.ref 579):=eN hT hD ⟨rfl,by kernel_rfl,by kernel_rfl,ZM h⟩
theorem Rh(P:ak):keepIn (fx P).K (.ref 579)=true:=by kernel_rfl
def n4(R:bc):ce:=jg 4 MT R.f36
theorem XZ(h:aw P d R):cK (fx P) (d+2) (n4 R) (.ref 1015):=eN hT hD ⟨rfl,by kernel_rfl,by kernel_rfl,acx h⟩
theorem Lc(P:ak):keepIn (fx P).K (.ref 1015)=true:=by kernel_rfl
def n5(R:bc):ce:=jg 5 MW R.f49
theorem abV(h:aw P d R):cK (fx P) (d+2) (n5 R) (.ref 898):=eN hT hD ⟨rfl,by kernel_rfl,by kernel_rfl,abb h⟩
theorem IX(P:ak):keepIn (fx P).K (.ref 898)=true:=by kernel_rfl
def n6(R:bc):ce:=jg 6 Kd R.f50
theorem Xc(h:aw P d R):cK (fx P) (d+2) (n6 R) (.ref 1062):=eN hT hD ⟨rfl,by kernel_rfl,by kernel_rfl,aak h⟩
theorem Pk(P:ak):keepIn (fx P).K (.ref 1062)=true:=by kernel_rfl
def n7(R:bc):ce:=jg 7 Hm R.f55
theorem YU(h:aw P d R):cK (fx P) (d+2) (n7 R) (.ref 334):=eN hT hD ⟨rfl,by kernel_rfl,by kernel_rfl,abQ h⟩
theorem RA(P:ak):keepIn (fx P).K (.ref 334)=true:=by kernel_rfl
def n8(R:bc):ce:=jg 8 P6 R.f59
theorem aaZ(h:aw P d R):cK (fx P) (d+2) (n8 R) (.ref 294):=eN hT hD ⟨rfl,by kernel_rfl,by kernel_rfl,aca h⟩
theorem Kn(P:ak):keepIn (fx P).K (.ref 294)=true:=by kernel_rfl
def n9(R:bc):ce:=jg 9 II R.f60
theorem Lr(h:aw P d R):cK (fx P) (d+2) (n9 R) (.ref 273):=eN hT hD ⟨rfl,by kernel_rfl,by kernel_rfl,Z5 h⟩
theorem y9(P:ak):keepIn (fx P).K (.ref 273)=true:=by kernel_rfl
def WX(R:bc):ce:=jg 10 HH R.f62
theorem RZ(h:aw P d R):cK (fx P) (d+2) (WX R) (.ref 830):=eN hT hD ⟨rfl,by kernel_rfl,by kernel_rfl,Zc h⟩
theorem GC(P:ak):keepIn (fx P).K (.ref 830)=true:=by kernel_rfl
def nX(R:bc):ce:=Ex 114 Nj R.f64
theorem YY(h:aw P d R):cK (fx P) (d+2) (nX R) (.ref 114):=BZ hT hD ⟨ou P,by kernel_rfl,Xf h⟩
noncomputable def db:nB:=[[],[(141,0,NE)],[(196,1,LR),(171,2,KM),(197,3,Re)],[],[(166,4,Mw),(232,5,NN),(121,6,LI),(167,7,Rm),(168,8,Ml),(122,9,PT),(176,10,Qt),(177,11,Pl),(118,12,KF),(189,13,PF),(80,14,Q2),(178,15,LN)],[],[(165,16,Ms),(179,17,LJ)],[(149,18,QQ),(173,19,G2),(180,20,LL)],[],[(59,21,Hx)],[(47,22,IK)]]
def YG(l:List SV):Nat->SV:=@List.rec SV (fun q0=>Nat->SV) (fun q0=>bw) (fun g q0 ih k=>@Nat.rec (fun q0=>SV) g (fun k q0=>ih k) k) l
def ch(R:bc):Nat->SV:=YG [R.f30,R.f32,R.f33,R.f34,R.f37,R.f38,R.f39,R.f40,R.f41,R.f42,R.f43,R.f44,R.f45,R.f46,R.f47,R.f48,R.f51,R.f54,R.f56,R.f57,R.f58,R.f61,R.f63]
theorem bz(h:aw P d R):uU (fx P) (d+1) db (ch R):=uU.of (show om (fx P) (d+1) (ch R) CT db from (.cons .nil (.cons (.cons Bq (by kernel_rfl) (by kernel_rfl) ((W9 h).more (Nat.le_succ _)) .nil) (.cons (.cons CH (by kernel_rfl) (by kernel_rfl) ((aaU h).more (Nat.le_succ _)) (.cons Rb (by kernel_rfl) (by kernel_rfl) ((abt h).more (Nat.le_succ _)) (.cons xw (by kernel_rfl) (by kernel_rfl) ((XB h).more (Nat.le_succ _)) .nil))) (.cons .nil (.cons (.cons Cc (by kernel_rfl) (by kernel_rfl) ((aaM h).more (Nat.le_succ _)) (.cons oA (by kernel_rfl) (by kernel_rfl) ((acy h).more (Nat.le_succ _)) (.cons xu (by kernel_rfl) (by kernel_rfl) ((Yq h).more (Nat.le_succ _)) (.cons Qd (by kernel_rfl) (by kernel_rfl) ((aaj h).more (Nat.le_succ _)) (.cons Nt (by kernel_rfl) (by kernel_rfl) ((Y2 h).more (Nat.le_succ _)) (.cons Qi (by kernel_rfl) (by kernel_rfl) ((ZD h).more (Nat.le_succ _)) (.cons Pr (by kernel_rfl) (by kernel_rfl) ((abw h).more (Nat.le_succ _)) (.cons Mp (by kernel_rfl) (by kernel_rfl) ((Xy h).more (Nat.le_succ _)) (.cons Ka (by kernel_rfl) (by kernel_rfl) ((Xk h).more (Nat.le_succ _)) (.cons CU (by kernel_rfl) (by kernel_rfl) ((ZT h).more (Nat.le_succ _)) (.cons Kc (by kernel_rfl) (by kernel_rfl) ((aby h).more (Nat.le_succ _)) (.cons IW (by kernel_rfl) (by kernel_rfl) ((Xe h).more (Nat.le_succ _)) .nil)))))))))))) (.cons .nil (.cons (.cons Py (by kernel_rfl) (by kernel_rfl) ((abK h).more (Nat.le_succ _)) (.cons Mg (by kernel_rfl) (by kernel_rfl) ((abS h).more (Nat.le_succ _)) .nil)) (.cons (.cons Pb (by kernel_rfl) (by kernel_rfl) ((abv h).more (Nat.le_succ _)) (.cons QX (by kernel_rfl) (by kernel_rfl) ((YD h).more (Nat.le_succ _)) (.cons BP (by kernel_rfl) (by kernel_rfl) ((XT h).more (Nat.le_succ _)) .nil))) (.cons .nil (.cons (.cons NL (by kernel_rfl) (by kernel_rfl) ((XG h).more (Nat.le_succ _)) .nil) (.cons (.cons Wi (by kernel_rfl) (by kernel_rfl) ((acq h).more (Nat.le_succ _)) .nil) .nil))))))))))))
def g2(R:bc):SV:=wW
theorem zh:au (fx P) (d+2) xb (g2 R) B2:=by
 have hs:aA (fx P) xb:=⟨hT,odr rfl⟩
 unfold g2
 exact Gq hT hs mf i8 ln (vi rfl mf _ _ _ _) (iK 0 _ _) (lT yb (vi rfl mf _ _ _ _) (CA rfl i8 _) (fun a b c h q0 q0 q0=>h) _) (lT Kr (vi rfl mf _ _ _ _) (CA rfl i8 _) (fun a b c h h2 q0 q0=>⟨h,h2⟩) _)
  (lT yb (lT XC (lT KQ (tA rfl mf _ _ _ _) (iK 39373 _ _) (fun a b c q0 q0 h h2=>⟨h,h2⟩) _) (iK 7 _ _) (fun q0 q0 q0 q0 q0 q0 q0=>trivial) _) (iK 2147483647 _ _) (fun q0 q0 q0 q0 q0 q0 q0=>by decide) _)
  (lT yb (lT Kr (lT yb (lT KQ (tA rfl mf _ _ _ _) (tA rfl mf _ _ _ _) (fun a b c q0 q0 h h2=>⟨h,h2⟩) _) (iK 2147483629 _ _) (fun q0 q0 q0 q0 q0 q0 q0=>by decide) _) (iK 32 _ _) (fun q0 q0 q0 q0 q0 q0 q0=>by decide) _) (CA rfl i8 _) (fun a b c h q0 q0 q0=>h) _)
  rfl rfl rfl rfl _ _ _ _ _ _ _ _ _ _ _ _ _ _ _ _ _
def g3(R:bc):SV:=(bC (aP (ah 1) (aT (c2 R) (af (ah 0) (af (aT jH (af (ah 1) aj)) aj)))))
theorem WU(h:aw P d R):au (fx P) (d+2) xi (g3 R) B3:=by
 have hs:aA (fx P) xi:=⟨hT,odr rfl⟩
 unfold g3
 refine aW ?_ _
 symm
 refine ay (i:=2) rfl kE (fU P) (kD h) ?_ (ag am (ag eS ao)) (.inl (jz P)) _ _
 symm
 refine ay (i:=3) rfl gF (eY P) fK ?_ (ag am ao) (.inr (.inl ⟨_,rfl⟩)) _ _
 symm
def g4(R:bc):SV:=(aB (bu 0) (aT (n2 R) (af (aT (n1 R) aj) (af hU (af (aT (WX R) (af (bb aj) aj)) (af (aM 9) aj))))) (jU (bu 1) (aT th (af (aM 4) aj)) (bV (bN db (ch R) (aH (ah 0) 175) 149 aj) aC) (bC (ah 0))))
theorem ok4(h:aw P d R):au (fx P) (d+2) xg (g4 R) B4:=by
 have hs:aA (fx P) xg:=⟨hT,odr rfl⟩
 unfold g4
 left
 symm
 refine ay (i:=2) rfl M3 (BW P) (Yw h) ?_ (ag eS (ag wt (ag eS (ag aG ao)))) (.inl (RG P)) _ _
 symm
 refine ay (i:=3) rfl WE (Gj P) (Zd h) ?_ ao (.inl (HG P)) _ _
 symm
 exact dD _
 symm
 refine ay (i:=4) rfl HQ (De P) (RZ h) ?_ (ag gn ao) (.inl (GC P)) _ _
 symm
 refine fO ?_ ?_ ?_ ?_ rfl _
 symm
 refine ay (i:=5) rfl AW (qT P) mP ?_ (ag aG ao) (.inr (.inr ⟨_,rfl⟩)) _ _
 symm
 refine bg ?_ ?_ rfl _
 refine bo hT hD (bz h) ?_ ?_ Pb rfl ao rfl (lsp rfl)
 refine ax hT ?_ jY (gb P) rfl _
 symm
 refine aW ?_ _
 symm
def g5(R:bc):SV:=(bX (gW (aP (ah 0) (ar 114))) (aB (em (aP (ah 0) (ar 140)) (ah 1)) (aD (af (ar 92) (af (ar 250) aj))) pH) aC (aB (QU 3) (gu [0,0] (aP (ah 0) (ar 107)) (kh 1 18) (aY bH (aP (gj 1 18) (aM 1)) (ar 59)) (gj 1 18)) (bX (aY eu (ib 3) (bb aj)) (aB (em (ah 0) (ar 107)) (gu [0,0,5] (aP (ah 0) (ar 107)) (kh 1 18) (aY eu (gj 1 18) (aP (ib 2) (aM 0))) (gj 1 18)) (aB (em (aP (ah 0) (ar 140)) (aP (aP (ib 3) (aM 0)) (aM 0))) (aD (af (ar 174) (af (ah 2) (af (bj (.bool true)) aj)))) aC)) (bX (aY wq (aT jH (af (aP (ah 0) (ar 36)) aj)) (aP (ah 0) (ar 50))) (aB (em (ah 0) (ar 36)) (dg (dY fC) (aP (ah 0) (ar 36)) (bb (af (ah 2) aj))) aC) (aB (em (ah 0) (ar 107)) (dg (dY fC) (aP (ah 0) (ar 107)) (bb (af (aD (af (ah 1) (af (ar 53) (af (ah 2) aj)))) aj))) pH) aC) (aB (em (aP (ah 0) (ar 140)) (ah 1)) (aD (af (ar 54) aj)) aC))))
theorem ok5(h:aw P d R):au (fx P) (d+2) su (g5 R) B5:=by
 have hs:aA (fx P) su:=⟨hT,odr rfl⟩
 unfold g5
 refine aZ ?_ ?_ ?_ ?_ _
 refine dE ?_ rfl
 symm
 left
 refine cz hT ?_ ?_ _
 symm
 exact lQ _
 symm
 refine ug (j:=3) rfl oJ _ ?_ ?_ ?_ _
 exact zt rfl oJ _
 refine dR (vs':=[(5,.blk),(18,.blk)]) ?_ _
 refine dU.mk (x:=fx P) (vs:=su) (vs':=[(5,.blk),(18,.blk)]) (sl:=[0,0]) hT hD ?_ ?_ ?_ ?_ rfl (.blk T5 (.blk dq .nil)) (odr rfl) rfl
 symm
 exact eC hT rfl dq _
 refine gS ?_
 symm
 exact cR rfl dq _
 symm
 exact cR rfl dq _
 refine aZ ?_ ?_ ?_ ?_ _
 refine bd (cy hT) ?_ ?_ rfl _
 exact dL rfl oJ _
 symm
 refine lX ?_ ?_ ?_ (fun q0 q0=>rfl) rfl rfl _
 refine cz hT ?_ ?_ _
 symm
 refine dR (vs':=[(5,.blk),(18,.blk),(134,.cel)]) ?_ _
 refine dU.mk (x:=fx P) (vs:=su) (vs':=[(5,.blk),(18,.blk),(134,.cel)]) (sl:=[0,0,5]) hT hD ?_ ?_ ?_ ?_ rfl (.blk T5 (.blk dq (.cel (j:=3) oJ rfl .nil))) (odr rfl) rfl
 symm
 exact eC hT rfl dq _
 refine gS ?_
 refine bd (cy hT) ?_ ?_ rfl _
 exact cR rfl dq _
 symm
 exact dL rfl oJ _
 symm
 exact cR rfl dq _
 left
 refine cz hT ?_ ?_ _
 symm
 exact dL rfl oJ _
 symm
 refine aZ ?_ ?_ ?_ ?_ _
 refine bd mL ?_ ?_ rfl _
 refine ay (i:=4) rfl gF (eY P) fK ?_ (ag bS ao) (.inr (.inl ⟨_,rfl⟩)) _ _
 symm
 left
 refine cz hT ?_ ?_ _
 symm
 refine bK (ck (cJ P)) ?_ ?_ _
 symm
 left
 refine cz hT ?_ ?_ _
 symm
 refine bK (ck (cJ P)) ?_ ?_ _
 symm
 exact lQ _
 symm
 left
 refine cz hT ?_ ?_ _
 symm
def g6(R:bc):SV:=(aB (QU 3) (gu [0,0] (aP (ah 0) (ar 107)) (kh 1 18) (aY bH (aP (gj 1 18) (aM 1)) (ar 53)) (gj 1 18)) (bX (eV (aY bH (aP (ah 0) (ar 36)) (bb aj)) (eV (aY bH (ib 3) (bb aj)) (eV (jT (gW (aP (ah 0) (ar 114)))) iV))) (aB (em (ah 0) (ar 107)) (dg (dY fC) (aP (ah 0) (ar 107)) (bb (af (aD (af (ah 1) (af (ar 59) (af (bj .none) aj)))) aj))) pH) aC (aB (bu 2) (dg (dY fC) (aP (ah 0) (ar 36)) (gu [0,0] (ib 3) (kh 1 127) nO (aP (gj 1 127) (aM 2)))) (aB (em (aP (ah 0) (ar 140)) (ah 1)) (hZ (aY eu (ah 2) (bb aj)) (aD (af (ar 174) (af (aP (ah 2) (aM 0)) (af (bj (.bool true)) aj)))) (aD (af (ar 174) (af (bj .none) (af (bj (.bool false)) aj))))) (bX (aY eu (ib 3) (bb aj)) (aB (em (ah 0) (ar 107)) (gu [0,0,5] (aP (ah 0) (ar 107)) (kh 1 15) (aY eu (gj 1 15) (aP (ib 2) (aM 0))) (gj 1 15)) (aB (em (aP (ah 0) (ar 140)) (aP (aP (ib 3) (aM 0)) (aM 0))) (aD (af (ar 54) aj)) aC)) aC (aB (em (ah 0) (ar 36)) (rE (ah 2) (aM 1) (dg pc (dg (dY fC) (aM 1) (aT jH (af (aP (ah 0) (ar 36)) aj))) (aT IY (af (gJ bH (ib 3) (bb aj)) aj)))) aC))))))
theorem ok6(h:aw P d R):au (fx P) (d+2) o0 (g6 R) B6:=by
 have hs:aA (fx P) o0:=⟨hT,odr rfl⟩
 unfold g6
 refine ug (j:=3) rfl kI _ ?_ ?_ ?_ _
 exact zt rfl kI _
 refine dR (vs':=[(5,.blk),(18,.blk)]) ?_ _
 refine dU.mk (x:=fx P) (vs:=o0) (vs':=[(5,.blk),(18,.blk)]) (sl:=[0,0]) hT hD ?_ ?_ ?_ ?_ rfl (.blk T5 (.blk dq .nil)) (odr rfl) rfl
 symm
 exact eC hT rfl dq _
 refine gS ?_
 symm
 exact cR rfl dq _
 symm
 exact cR rfl dq _
 refine aZ ?_ ?_ ?_ ?_ _
 refine cL ?_ ?_
 symm
 refine cL ?_ ?_
 symm
 exact dL rfl kI _
 symm
 refine cL ?_ ?_
 refine fJ ?_ _
 refine dE ?_ rfl
 symm
 exact fu _
 left
 refine cz hT ?_ ?_ _
 symm
 refine bK (ck (cJ P)) ?_ ?_ _
 symm
 exact lQ _
 symm
 left
 symm
 refine bK (ck (cJ P)) ?_ ?_ _
 symm
 refine dR (vs':=[(5,.blk),(127,.blk)]) ?_ _
 refine dU.mk (x:=fx P) (vs:=o0) (vs':=[(5,.blk),(127,.blk)]) (sl:=[0,0]) hT hD ?_ ?_ ?_ ?_ rfl (.blk T5 (.blk qW .nil)) (odr rfl) rfl
 exact dL rfl kI _
 exact eC hT rfl qW _
 exact jE
 symm
 exact cR rfl qW _
 symm
 left
 refine cz hT ?_ ?_ _
 symm
 refine dH ?_ ?_ ?_ _
 refine bd (cy hT) ?_ ?_ rfl _
 symm
 refine aZ ?_ ?_ ?_ ?_ _
 refine bd (cy hT) ?_ ?_ rfl _
 exact dL rfl kI _
 symm
 refine lX ?_ ?_ ?_ (fun q0 q0=>rfl) rfl rfl _
 refine cz hT ?_ ?_ _
 symm
 refine dR (vs':=[(5,.blk),(15,.blk),(155,.cel)]) ?_ _
 refine dU.mk (x:=fx P) (vs:=o0) (vs':=[(5,.blk),(15,.blk),(155,.cel)]) (sl:=[0,0,5]) hT hD ?_ ?_ ?_ ?_ rfl (.blk T5 (.blk jV (.cel (j:=3) kI rfl .nil))) (odr rfl) rfl
 symm
 exact eC hT rfl jV _
 refine gS ?_
 refine bd (cy hT) ?_ ?_ rfl _
 exact cR rfl jV _
 symm
 exact dL rfl kI _
 symm
 exact cR rfl jV _
 left
 refine cz hT ?_ ?_ _
 symm
 exact dL rfl kI _
 symm
 left
 refine cz hT ?_ ?_ _
 symm
 refine lj ?_ ?_ ?_ _ _
 symm
 refine eI.some ?_
 symm
 refine eI.some ?_
 refine bK ?_ ?_ ?_ _
 exact lB
 refine bK (ck (cJ P)) ?_ ?_ _
 symm
 refine ay (i:=4) rfl gF (eY P) fK ?_ (ag bS ao) (.inr (.inl ⟨_,rfl⟩)) _ _
 symm
 refine ay (i:=5) rfl WO (Fv P) GN ?_ (ag yp ao) (.inr (.inr ⟨_,rfl⟩)) _ _
 symm
 refine dO (jC hT (jM P)) ?_ ?_ rfl _
 exact dL rfl kI _
 symm
def g7(R:bc):SV:=(jU (jo 3 (bJ (bu 1) (bJ (bu 2) (bJ (bu 3) fo)))) (aP (ah 0) (ar 107)) (aB (em (aP (ah 0) (ar 140)) (ah 1)) (hZ (aY bH (ah 2) (ar 59)) (aD (af (ar 174) (af (bj .none) (af (bj (.bool false)) aj)))) (aD (af (ar 92) (af (ar 250) aj)))) aC) (aB (jo 2 (bJ (em (ah 0) (ar 107)) (bJ (em (ah 0) (ar 114)) fo))) (aD (af (bb aj) (af (bj (.bool true)) aj))) aC))
theorem ok7(h:aw P d R):au (fx P) (d+2) xe (g7 R) B7:=by
 have hs:aA (fx P) xe:=⟨hT,odr rfl⟩
 unfold g7
 refine fO ?_ ?_ ?_ ?_ rfl _
 refine eQ ?_ (ag am (ag am (ag am ao))) _ _
 refine bt ?_ ?_ rfl
 symm
 refine bt ?_ ?_ rfl
 symm
 refine bt ?_ ?_ rfl
 symm
 exact dJ
 symm
 left
 refine cz hT ?_ ?_ _
 symm
 refine dH ?_ ?_ ?_ _
 symm
 refine tn ?_ ?_ ?_ rfl _
 refine eQ ?_ (ag bS (ag bS ao)) _ _
 refine bt ?_ ?_ rfl
 refine cz hT ?_ ?_ _
 symm
 refine bt ?_ ?_ rfl
 refine cz hT ?_ ?_ _
 symm
 exact dJ
 symm
def g8(R:bc):SV:=(jU (bu 3) (aH (aH (ah 0) 175) 8) (aB (bu 4) (aH (ah 3) 123) (bX (aY eu (gJ bH (aH (ah 3) 98) (ar 107)) (gJ pk (ah 4) (ah 2))) bw aC (aB (bu 5) (WB sV (aP (ah 1) (ar 140)) (af (ah 4) aj)) (bX (eV (aY x6 (ah 4) (ah 2)) (eV (aY eu (aH (ah 3) 111) (hZ (aY kc (ah 5) (bj .none)) (bj .none) (aD (af (aM 0) (af (ah 5) aj))))) iV)) bw aC aC)))) (bC (gJ bH (aH (aP (aH (aH (ah 0) 162) 162) (aM 0)) 36) (aP (ah 1) (ar 36)))))
theorem ok8(h:aw P d R):au (fx P) (d+2) wP (g8 R) B8:=by
 have hs:aA (fx P) wP:=⟨hT,odr rfl⟩
 unfold g8
 refine fO ?_ ?_ ?_ ?_ rfl _
 symm
 refine ax hT ?_ T8 (jW P) rfl _
 refine ax hT ?_ jY (gb P) rfl _
 symm
 left
 symm
 refine ax hT ?_ cG (k8 P) rfl _
 symm
 refine aZ ?_ ?_ ?_ ?_ _
 refine bd (cy hT) ?_ ?_ rfl _
 refine dO (jC hT (jM P)) ?_ ?_ rfl _
 refine ax hT ?_ uw (ly P) rfl _
 symm
 refine dO (kM hT) ?_ ?_ rfl _
 symm
 left
 symm
 refine G6 (jM P) ?_ ?_ rfl (ag am ao) rfl (lsp rfl)
 symm
 refine aZ ?_ ?_ ?_ ?_ _
 refine cL ?_ ?_
 refine bd (qY hT) ?_ ?_ rfl _
 symm
 refine cL ?_ ?_
 refine bd (cy hT) ?_ ?_ rfl _
 refine ax hT ?_ qj (pG P) rfl _
 symm
 refine dH ?_ ?_ ?_ _
 refine bd ez ?_ ?_ rfl _
 symm
 exact fu _
 symm
 refine aW ?_ _
 refine dO (jC hT (jM P)) ?_ ?_ rfl _
 refine ax hT ?_ kU (gq P) rfl _
 symm
 refine ax hT ?_ fQ (dG P) rfl _
 refine ax hT ?_ fQ (dG P) rfl _
 symm
def g9(R:bc):SV:=(j6 3 [4,3,2] (aD (af (aT (c4 R) aj) (af (rZ (cr (ar 50) (ah 0) (cr (ar 36) (bb aj) (cr (ar 114) (bj (.bool false)) (cr (ar 107) (bb aj) (cr (ar 140) hU kA)))))) (af (bb aj) aj)))) (aB (bu 5) (aD (af (ar 29) (af (bN db (ch R) (aH (ah 2) 162) 166 (af (ah 0) aj)) aj))) (jU (jo 3 (bJ (bu 6) (bJ (bu 7) (bJ (bu 8) fo)))) (ah 1) (j6 2 [10,9] (aD (af (aP (aH (aH (ah 2) 175) 8) (ah 6)) (af (aT (n9 R) (af (bj .none) aj)) aj))) (bX (l7 (aY pk (ah 6) (dg (dY fC) (ah 4) (gu [0,0] (aP (ah 3) (ar 107)) (kh 1 18) nO (aP (gj 1 18) (aM 0))))) (l7 (eV (aY bH (ah 7) (ar 76)) (eV (gW (aP (ah 3) (ar 114))) iV)) jP)) yA aC (aB (bu 11) (bb (af (aD (af (ar 54) aj)) aj)) (bX (aY bH (ah 7) (ar 76)) (bV (bN db (ch R) (ah 2) 197 (af (aP (bN db (ch R) (aH (ah 2) 162) 189 (af (aM 0) aj)) (aM 1)) aj)) (bV (aT (c7 R) (af (ah 3) aj)) (aB (bu 11) (bb aj) aC))) (bX (aY bH (ah 7) (ar 53)) (bV (gG Dt (aH (ah 10) 136) (af (bb (af (ah 5) (af (ah 8) aj))) aj)) (bV (aT (L7 R) (af (ah 2) (af (ah 9) (af (ah 10) (af (aD (af (ar 53) aj)) aj))))) (bV (aT (c5 R) (af (ah 3) (af (ah 6) (af (ah 8) aj)))) aC))) (bX (aY bH (ah 7) (ar 59)) (bV (gG fR (aH (ah 10) 136) (af (ah 5) aj)) (bV (aT (LC R) (af (ah 2) (af (ah 9) (af (ah 10) (af (aD (af (ar 152) (af (ah 8) aj))) aj))))) (bV (aT (c6 R) (af (ah 3) (af (ah 6) aj))) (aB (bu 11) (bb (af (aD (af (ar 10) (af (ah 8) aj))) aj)) aC)))) (bV (aT (A8 R) (af (ah 2) (af (ah 9) (af (ah 10) (af (hZ (aY bH (ah 7) (ar 41)) (ar 53) (ar 59)) (af (bj .none) (af (ah 8) (af (aD (af (ar 54) aj)) aj)))))))) (aB (bu 4) (dg (dY fC) (ah 4) (bb (af (ah 6) aj))) aC)) aC) aC) (bX (l7 (aY eu (aH (ah 10) 66) (ah 11)) (l7 (aY eu (aH (ah 10) 136) (bb aj)) jP)) bw aC (bX (jT (gW (aT (c8 R) (af (ah 2) (af (ah 3) (af (dg (dY fC) (ah 4) (gu [0,0] (aP (ah 3) (ar 107)) (kh 1 18) nO (aP (gj 1 18) (aM 0)))) aj)))))) bw aC aC)))))) (bC (gJ kc (aH (ah 2) 150) (bj .none))))))
theorem ok9(h:aw P d R):au (fx P) (d+2) gx (g9 R) B9:=by
 have hs:aA (fx P) gx:=⟨hT,odr rfl⟩
 unfold g9
 refine fq (js:=[2,3,4]) hs (.cons rfl fb (.cons rfl ic (.cons rfl AB .nil))) ?_ ?_ ?_ ?_ ?_ ?_ ?_ ?_ (lq (js:=[2,3,4]) hs (.cons rfl fb (.cons rfl ic (.cons rfl AB .nil))) (odr rfl)) ?_ ?_ _
 symm
 refine ay (i:=12) rfl lO (j7 P) (oV h) ?_ ao (.inl (mR P)) _ _
 symm
 refine kg hT ?_ rfl rfl (List.cons_ne_nil _ _) (Nat.le_of_ble_eq_true rfl) _
 refine bF ?_ ?_ ?_
 symm
 refine bF ?_ ?_ ?_
 symm
 refine bF ?_ ?_ ?_
 symm
 refine bF ?_ ?_ ?_
 symm
 refine bF ?_ ?_ ?_
 symm
 exact dD _
 exact gI
 symm
 left
 symm
 refine bo hT hD (bz h) ?_ ?_ Cc rfl (ag am ao) rfl (lsp rfl)
 refine ax hT ?_ fQ (dG P) rfl _
 symm
 refine fO ?_ ?_ ?_ ?_ rfl _
 refine eQ ?_ (ag am (ag am (ag am ao))) _ _
 refine bt ?_ ?_ rfl
 symm
 refine bt ?_ ?_ rfl
 symm
 refine bt ?_ ?_ rfl
 symm
 exact dJ
 symm
 refine fq (js:=[9,10]) hs (.cons rfl fh (.cons rfl mD .nil)) ?_ ?_ ?_ ?_ ?_ ?_ ?_ ?_ (lq (js:=[9,10]) hs (.cons rfl fh (.cons rfl mD .nil)) (odr rfl)) ?_ ?_ _
 symm
 refine ax hT ?_ T8 (jW P) rfl _
 refine ax hT ?_ jY (gb P) rfl _
 symm
 refine ay (i:=13) rfl Ce (tS P) (Lr h) ?_ (ag aG ao) (.inl (y9 P)) _ _
 symm
 refine aZ ?_ ?_ ?_ ?_ _
 refine gc ?_ ?_
 refine bd (kM hT) ?_ ?_ rfl _
 symm
 refine bK (ck (cJ P)) ?_ ?_ _
 symm
 refine dR (vs':=[(5,.blk),(18,.blk)]) ?_ _
 refine dU.mk (x:=fx P) (vs:=gx) (vs':=[(5,.blk),(18,.blk)]) (sl:=[0,0]) hT hD ?_ ?_ ?_ ?_ rfl (.blk T5 (.blk dq .nil)) (odr rfl) rfl
 symm
 exact eC hT rfl dq _
 exact jE
 symm
 exact cR rfl dq _
 symm
 refine gc ?_ ?_
 refine cL ?_ ?_
 symm
 refine cL ?_ ?_
 refine dE ?_ rfl
 symm
 exact fu _
 exact gR _
 exact rg _
 symm
 left
 symm
 refine aZ ?_ ?_ ?_ ?_ _
 symm
 refine bg ?_ ?_ rfl _
 refine bo hT hD (bz h) ?_ ?_ xw rfl (ag bS ao) rfl (lsp rfl)
 symm
 refine bo hT hD (bz h) ?_ ?_ CU rfl (ag aG ao) rfl (lsp rfl)
 refine ax hT ?_ fQ (dG P) rfl _
 symm
 refine bg ?_ ?_ rfl _
 refine ay (i:=14) rfl BO (tH P) (Fa h) ?_ (ag am ao) (.inl (yg P)) _ _
 symm
 left
 symm
 refine aZ ?_ ?_ ?_ ?_ _
 symm
 refine bg ?_ ?_ rfl _
 refine cZ PySem.F.slot_list_extend sf wR ?_ ?_ rfl (ag gn ao) rfl (lsp rfl)
 refine ax hT ?_ gy (eM P) rfl _
 symm
 refine bg ?_ ?_ rfl _
 refine ay (i:=15) rfl CE (tV P) (zu h) ?_ (ag am (ag am (ag am (ag bL ao)))) (.inl (ut P)) _ _
 symm
 refine bg ?_ ?_ rfl _
 refine ay (i:=16) rfl CI (vq P) (EG h) ?_ (ag am (ag am (ag am ao))) (.inl (x9 P)) _ _
 symm
 refine aZ ?_ ?_ ?_ ?_ _
 symm
 refine bg ?_ ?_ rfl _
 refine cZ PySem.F.slot_list_append cI dz ?_ ?_ rfl (ag am ao) rfl (lsp rfl)
 refine ax hT ?_ gy (eM P) rfl _
 symm
 refine bg ?_ ?_ rfl _
 refine ay (i:=17) rfl DE (ub P) (Bf h) ?_ (ag am (ag am (ag am (ag bL ao)))) (.inl (uy P)) _ _
 symm
 refine bg ?_ ?_ rfl _
 refine ay (i:=18) rfl Bn (vb P) (E2 h) ?_ (ag am (ag am ao)) (.inl (yn P)) _ _
 symm
 left
 symm
 refine bg ?_ ?_ rfl _
 refine ay (i:=19) rfl oO (lN P) (pT h) ?_ (ag am (ag am (ag am (ag iB (ag aG (ag am (ag bL ao))))))) (.inl (mJ P)) _ _
 symm
 refine dH ?_ ?_ ?_ _
 symm
 left
 symm
 refine bK (ck (cJ P)) ?_ ?_ _
 symm
 refine aZ ?_ ?_ ?_ ?_ _
 refine gc ?_ ?_
 refine bd (cy hT) ?_ ?_ rfl _
 refine ax hT ?_ EE (sP P) rfl _
 symm
 refine gc ?_ ?_
 refine bd (cy hT) ?_ ?_ rfl _
 refine ax hT ?_ gy (eM P) rfl _
 symm
 exact gR _
 symm
 refine aZ ?_ ?_ ?_ ?_ _
 refine fJ ?_ _
 refine dE ?_ rfl
 refine ay (i:=20) rfl BS (vY P) (Fs h) ?_ (ag am (ag am (ag jG ao))) (.inl (xC P)) _ _
 symm
 refine bK (ck (cJ P)) ?_ ?_ _
 symm
 refine dR (vs':=[(5,.blk),(18,.blk)]) ?_ _
 refine dU.mk (x:=fx P) (vs:=gx) (vs':=[(5,.blk),(18,.blk)]) (sl:=[0,0]) hT hD ?_ ?_ ?_ ?_ rfl (.blk T5 (.blk dq .nil)) (odr rfl) rfl
 symm
 exact eC hT rfl dq _
 exact jE
 symm
 exact cR rfl dq _
 symm
 exact rfl
 exact rfl
 exact rfl
 exact (.inl rfl)
 exact rfl
 exact rfl
 exact rfl
 kernel_rfl
 refine aW ?_ _
 refine dO ez ?_ ?_ rfl _
 refine ax hT ?_ vm (mK P) rfl _
 symm
 exact rfl
 exact rfl
 exact rfl
 exact (.inr rfl)
 exact rfl
 exact rfl
 exact rfl
 kernel_rfl
def Hj(R:bc):SV:=(bC (aD (af (ar 17) (af (aD (af (ar 28) (af (ah 0) aj))) (af (aD aj) aj)))))
theorem YR(h:aw P d R):au (fx P) (d+2) rI (Hj R) Ad:=by
 have hs:aA (fx P) rI:=⟨hT,odr rfl⟩
 unfold Hj
 refine aW ?_ _
 symm
def Rt(R:bc):SV:=(bX (aY bH (ah 2) (ar 146)) (bC (ar 0)) aC (bX (eV (aY bH (ah 2) (ar 40)) (eV (gW (aP (ah 0) (ar 120))) iV)) (aB (em (ah 0) (ar 94)) (dg (dY fC) (aP (ah 0) (ar 94)) (bb (af (ah 1) aj))) aC) (bX (aY bH (ah 2) (ar 40)) (aB (em (ah 0) (ar 120)) (bj (.bool true)) aC) (bX (eV (aY bH (ah 2) (ar 135)) (eV (jT (gW (aP (ah 0) (ar 120)))) iV)) (bC (bj (.byt (jm [117,110,108,111,99,107,32,111,102,32,117,110,108,111,99,107,101,100,32,109,117,116,101,120])))) (bX (aY bH (ah 2) (ar 135)) (aB (jo 2 (bJ (em (ah 0) (ar 120)) (bJ (em (ah 0) (ar 94)) fo))) (aD (af (gJ eu (aP (ah 0) (ar 94)) (bb aj)) (af (rE (aP (ah 0) (ar 94)) (aM 1) (bj .none)) aj))) aC) (bX (aY bH (ah 2) (ar 64)) (aB (em (ah 0) (ar 78)) (dg (dY fC) (aP (ah 0) (ar 78)) (hZ (aY z4 (aP (ah 0) (ar 77)) (aM 0)) (bb (af (ah 1) aj)) (bb aj))) aC) (bX (aY wq (dg (dY fC) (aP (ah 0) (ar 77)) (ah 3)) (aM 0)) (bC (bj (.byt (jm [110,101,103,97,116,105,118,101,32,87,97,105,116,71,114,111,117,112,32,99,111,117,110,116,101,114])))) aC (aB (em (ah 0) (ar 77)) (dg (dY fC) (aP (ah 0) (ar 77)) (ah 3)) (aB (em (ah 0) (ar 78)) (hZ (aY z4 (aP (ah 0) (ar 77)) (aM 0)) (aP (ah 0) (ar 78)) (bb aj)) aC))) aC) aC) aC) aC) (bC (ar 0))))
theorem abM(h:aw P d R):au (fx P) (d+2) qu (Rt R) zZ:=by
 have hs:aA (fx P) qu:=⟨hT,odr rfl⟩
 unfold Rt
 refine aZ ?_ ?_ ?_ ?_ _
 symm
 refine aW ?_ _
 symm
 refine aZ ?_ ?_ ?_ ?_ _
 refine cL ?_ ?_
 symm
 refine cL ?_ ?_
 refine dE ?_ rfl
 symm
 exact fu _
 left
 refine cz hT ?_ ?_ _
 symm
 refine bK (ck (cJ P)) ?_ ?_ _
 symm
 refine aZ ?_ ?_ ?_ ?_ _
 symm
 left
 refine cz hT ?_ ?_ _
 symm
 refine aZ ?_ ?_ ?_ ?_ _
 refine cL ?_ ?_
 symm
 refine cL ?_ ?_
 refine fJ ?_ _
 refine dE ?_ rfl
 symm
 exact fu _
 refine aW ?_ _
 exact kZ [117,110,108,111,99,107,32,111,102,32,117,110,108,111,99,107,101,100,32,109,117,116,101,120] rfl _ _
 refine aZ ?_ ?_ ?_ ?_ _
 symm
 refine tn ?_ ?_ ?_ rfl _
 refine eQ ?_ (ag bS (ag bS ao)) _ _
 refine bt ?_ ?_ rfl
 refine cz hT ?_ ?_ _
 symm
 refine bt ?_ ?_ rfl
 refine cz hT ?_ ?_ _
 symm
 exact dJ
 symm
 refine dO (cy hT) ?_ ?_ rfl _
 symm
 refine lj ?_ ?_ ?_ _ _
 symm
 refine eI.some ?_
 symm
 exact eI.none
 symm
 refine aZ ?_ ?_ ?_ ?_ _
 symm
 left
 refine cz hT ?_ ?_ _
 symm
 refine bK (ck (cJ P)) ?_ ?_ _
 symm
 refine dH ?_ ?_ ?_ _
 refine bd px ?_ ?_ rfl _
 symm
 refine aZ ?_ ?_ ?_ ?_ _
 refine bd mL ?_ ?_ rfl _
 refine bK (ck (cJ P)) ?_ ?_ _
 symm
 refine aW ?_ _
 exact kZ [110,101,103,97,116,105,118,101,32,87,97,105,116,71,114,111,117,112,32,99,111,117,110,116,101,114] rfl _ _
 symm
 left
 refine cz hT ?_ ?_ _
 symm
 refine bK (ck (cJ P)) ?_ ?_ _
 symm
 left
 refine cz hT ?_ ?_ _
 symm
 refine dH ?_ ?_ ?_ _
 refine bd px ?_ ?_ rfl _
 symm
 refine aW ?_ _
 symm
def Kl(R:bc):SV:=(aB (bu 0) (aD (af (ar 34) (af (aD aj) (af (aD (af (aD (af (ar 132) aj)) aj)) (af (bj (.bool false)) aj))))) (aB (bu 1) (aD (af (ar 34) (af (aD (af (aD (af (ar 11) (af (ar 11) aj))) aj)) (af (aD aj) (af (bj (.bool false)) aj))))) (aB (bu 2) (aD (af (ar 133) (af (aD (af (aD (af (ar 219) (af (aD (af (ar 11) (af (ar 11) aj))) (af (bj (.bool false)) aj)))) aj)) aj))) (aB (bu 3) (aD (af (ar 133) (af (aD (af (aD (af (ar 218) (af (aD (af (ar 11) (af (ar 11) aj))) (af (bj (.bool false)) aj)))) aj)) aj))) (aB (bu 4) (rZ (cr (ar 68) (aD (af (bj (.bool false)) (af (ah 0) (af (ar 247) aj)))) kA)) (aB (bu 5) (rZ (cr (ar 22) (aD (af (bj (.bool true)) (af (bj (.old (.ref 1847))) (af (ar 240) aj)))) (cr (ar 109) (aD (af (bj (.bool true)) (af (bj (.old (.ref 1847))) (af (ar 244) aj)))) kA))) (aB (bu 6) (rZ (cr (ar 6) (aD (af (bj (.bool true)) (af (ah 1) (af (ar 246) aj)))) (cr (ar 21) (aD (af (bj (.bool true)) (af (bj (.old (.ref 1847))) (af (ar 248) aj)))) (cr (ar 23) (aD (af (bj (.bool true)) (af (bj (.old (.ref 1847))) (af (ar 249) aj)))) kA)))) (bC (rZ (cr (ar 81) (aT (n0 R) (af (ar 81) (af (ar 0) (af (aD (af (ar 192) (af (aD (af (aD (af (ar 68) (af (ah 0) aj))) aj)) aj))) (af hU aj))))) (cr (ar 234) (aT (n0 R) (af (ar 234) (af (ar 154) (af (aD (af (ar 132) aj)) (af (ah 4) aj))))) (cr (ar 208) (aT (n0 R) (af (ar 208) (af (ar 58) (af (ah 2) (af (ah 5) aj))))) (cr (ar 237) (aT (n0 R) (af (ar 237) (af (ar 58) (af (ah 3) (af (ah 6) aj))))) kA)))))))))))))
theorem aaC(h:aw P d R):au (fx P) (d+2) rz (Kl R) Au:=by
 have hs:aA (fx P) rz:=⟨hT,odr rfl⟩
 unfold Kl
 left
 symm
 left
 symm
 left
 symm
 left
 symm
 left
 symm
 refine kg hT ?_ rfl rfl (List.cons_ne_nil _ _) (Nat.le_of_ble_eq_true rfl) _
 refine bF ?_ ?_ ?_
 symm
 exact gI
 left
 symm
 refine kg hT ?_ rfl rfl (List.cons_ne_nil _ _) (Nat.le_of_ble_eq_true rfl) _
 refine bF ?_ ?_ ?_
 symm
 exact kj (i:=7) rfl z8 (mQ P) (.old _) _
 symm
 refine bF ?_ ?_ ?_
 symm
 exact kj (i:=7) rfl z8 (mQ P) (.old _) _
 symm
 exact gI
 left
 symm
 refine kg hT ?_ rfl rfl (List.cons_ne_nil _ _) (Nat.le_of_ble_eq_true rfl) _
 refine bF ?_ ?_ ?_
 symm
 refine bF ?_ ?_ ?_
 symm
 exact kj (i:=7) rfl z8 (mQ P) (.old _) _
 symm
 refine bF ?_ ?_ ?_
 symm
 exact kj (i:=7) rfl z8 (mQ P) (.old _) _
 symm
 exact gI
 refine aW ?_ _
 refine kg hT ?_ rfl rfl (List.cons_ne_nil _ _) (Nat.le_of_ble_eq_true rfl) _
 refine bF ?_ ?_ ?_
 symm
 refine ay (i:=8) rfl uN (lC P) (yV h) ?_ (ag aG (ag aG (ag bL (ag wt ao)))) (.inl (pU P)) _ _
 symm
 exact dD _
 symm
 refine bF ?_ ?_ ?_
 symm
 refine ay (i:=8) rfl uN (lC P) (yV h) ?_ (ag aG (ag aG (ag bL (ag am ao)))) (.inl (pU P)) _ _
 symm
 refine bF ?_ ?_ ?_
 symm
 refine ay (i:=8) rfl uN (lC P) (yV h) ?_ (ag aG (ag aG (ag am (ag am ao)))) (.inl (pU P)) _ _
 symm
 refine bF ?_ ?_ ?_
 symm
 refine ay (i:=8) rfl uN (lC P) (yV h) ?_ (ag aG (ag aG (ag am (ag am ao)))) (.inl (pU P)) _ _
 symm
 exact gI
def Hi(R:bc):SV:=(j6 2 [2,1] (aD (af hU (af (gu [0,0,2] (aT yT (af (ib 0) aj)) (kh 1 12) nO (aP (ib 2) (gj 1 12))) aj))) (xG (aY eu (ah 2) (bb aj)) bw (bC (ah 1))))
theorem YK(h:aw P d R):au (fx P) (d+2) oN (Hi R) za:=by
 have hs:aA (fx P) oN:=⟨hT,odr rfl⟩
 unfold Hi
 refine fq (js:=[1,2]) hs (.cons rfl ln (.cons rfl Qb .nil)) ?_ ?_ ?_ ?_ ?_ ?_ ?_ ?_ (lq (js:=[1,2]) hs (.cons rfl ln (.cons rfl Qb .nil)) (odr rfl)) ?_ ?_ _
 symm
 exact dD _
 symm
 refine dR (vs':=[(5,.blk),(12,.blk),(105,.cel)]) ?_ _
 refine dU.mk (x:=fx P) (vs:=oN) (vs':=[(5,.blk),(12,.blk),(105,.cel)]) (sl:=[0,0,2]) hT hD ?_ ?_ ?_ ?_ rfl (.blk T5 (.blk KG (.cel (j:=0) mG rfl .nil))) (odr rfl) rfl
 refine ay (i:=4) rfl x5 (uq P) (uB (jM P)) ?_ (ag am ao) (.inr (.inl ⟨_,rfl⟩)) _ _
 symm
 exact dL rfl mG _
 symm
 exact eC hT rfl KG _
 exact jE
 symm
 exact dL rfl mG _
 exact cR rfl KG _
 symm
 refine qt ?_ ?_ ?_ _
 refine bd (cy hT) ?_ ?_ rfl _
 symm
 refine aW ?_ _
 symm
 exact rfl
 exact rfl
 exact rfl
 exact (.inl rfl)
 exact rfl
 exact rfl
 exact rfl
 kernel_rfl
def NJ(R:bc):SV:=(aB (jo 2 (bJ (bu 4) (bJ (bu 5) fo))) (bN db (ch R) (ah 2) 59 (af (aM 2) aj)) (bV (aT (A8 R) (af (ah 0) (af (ah 1) (af (ah 2) (af (ar 53) (af (aT (HE R) (af (ah 4) aj)) (af (ah 5) (af (aD (af (ar 54) aj)) aj)))))))) aC))
theorem aa0(h:aw P d R):au (fx P) (d+2) qh (NJ R) zP:=by
 have hs:aA (fx P) qh:=⟨hT,odr rfl⟩
 unfold NJ
 refine iE ?_ ?_ ?_ rfl (.inr rfl) rfl _
 refine eQ ?_ (ag am (ag am ao)) _ _
 refine bt ?_ ?_ rfl
 symm
 refine bt ?_ ?_ rfl
 symm
 exact dJ
 refine bo hT hD (bz h) ?_ ?_ NL rfl (ag aG ao) rfl (lsp rfl)
 symm
 refine bg ?_ ?_ rfl _
 refine ay (i:=6) rfl oO (lN P) (pT h) ?_ (ag am (ag am (ag am (ag aG (ag eS (ag am (ag bL ao))))))) (.inl (mJ P)) _ _
 symm
 refine ay (i:=7) rfl yM (v5 P) (AT h) ?_ (ag am ao) (.inl (tJ P)) _ _
 symm
def ME(R:bc):SV:=(aB (bu 4) (aP (bN db (ch R) (ah 2) 59 (af (aM 1) aj)) (aM 0)) (bV (aT (A8 R) (af (ah 0) (af (ah 1) (af (ah 2) (af (ar 59) (af (aT (HE R) (af (ah 4) aj)) (af (bj .none) (af (aD (af (ar 10) (af (aP (ah 3) (aM 1)) aj))) aj)))))))) aC))
theorem ab3(h:aw P d R):au (fx P) (d+2) qM (ME R) z5:=by
 have hs:aA (fx P) qM:=⟨hT,odr rfl⟩
 unfold ME
 left
 symm
 refine bo hT hD (bz h) ?_ ?_ NL rfl (ag aG ao) rfl (lsp rfl)
 symm
 refine bg ?_ ?_ rfl _
 refine ay (i:=5) rfl oO (lN P) (pT h) ?_ (ag am (ag am (ag am (ag aG (ag eS (ag aG (ag bL ao))))))) (.inl (mJ P)) _ _
 symm
 refine ay (i:=6) rfl yM (v5 P) (AT h) ?_ (ag am ao) (.inl (tJ P)) _ _
 symm
def Kj(R:bc):SV:=(bV (gG fR (aH (ah 2) 66) (af (ah 6) aj)) (bX (gW (bN db (ch R) (aH (ah 0) 162) 122 (af (ah 3) (af (ah 4) aj)))) (aB (jo 2 (bJ (bu 7) (bJ (bu 8) fo))) (bN db (ch R) (aH (ah 0) 162) 118 (af (ah 3) (af (ah 4) (af (ah 5) aj)))) (aB (bG (ah 1) 111) (aD (af (aM 0) (af (ah 7) aj))) (bV (bN db (ch R) (ah 0) 197 (af (ah 8) aj)) aC))) (bV (bN db (ch R) (aH (ah 0) 162) 178 (af (aH (ah 1) 123) (af (bb (af (aD (af (ah 3) (af (ah 4) (af (ah 5) aj)))) aj)) aj))) (bV (bN db (ch R) (ah 0) 196 (af (ah 1) aj)) aC)) aC))
theorem ZS(h:aw P d R):au (fx P) (d+2) qp (Kj R) A6:=by
 have hs:aA (fx P) qp:=⟨hT,odr rfl⟩
 unfold Kj
 refine bg ?_ ?_ rfl _
 refine cZ PySem.F.slot_list_append cI dz ?_ ?_ rfl (ag am ao) rfl (lsp rfl)
 refine ax hT ?_ EE (sP P) rfl _
 symm
 refine aZ ?_ ?_ ?_ ?_ _
 refine dE ?_ rfl
 refine bo hT hD (bz h) ?_ ?_ Qi rfl (ag am (ag am ao)) rfl (lsp rfl)
 refine ax hT ?_ fQ (dG P) rfl _
 symm
 refine iE ?_ ?_ ?_ rfl (.inr rfl) rfl _
 refine eQ ?_ (ag am (ag am ao)) _ _
 refine bt ?_ ?_ rfl
 symm
 refine bt ?_ ?_ rfl
 symm
 exact dJ
 refine bo hT hD (bz h) ?_ ?_ Ka rfl (ag am (ag am (ag am ao))) rfl (lsp rfl)
 refine ax hT ?_ fQ (dG P) rfl _
 symm
 left
 refine aR hT ?_ qj (aX rfl) (pG P) _
 symm
 refine bg ?_ ?_ rfl _
 refine bo hT hD (bz h) ?_ ?_ xw rfl (ag am ao) rfl (lsp rfl)
 symm
 refine bg ?_ ?_ rfl _
 refine bo hT hD (bz h) ?_ ?_ IW rfl (ag cu (ag gn ao)) rfl (lsp rfl)
 refine ax hT ?_ fQ (dG P) rfl _
 symm
 refine ax hT ?_ cG (k8 P) rfl _
 symm
 refine bg ?_ ?_ rfl _
 refine bo hT hD (bz h) ?_ ?_ CH rfl (ag am ao) rfl (lsp rfl)
 symm
def Lu(R:bc):SV:=(bC (hZ (aY kc (ah 0) (bj .none)) (bj .none) (aP (ah 0) (aM 1))))
theorem XH(h:aw P d R):au (fx P) (d+2) ql (Lu R) ze:=by
 have hs:aA (fx P) ql:=⟨hT,odr rfl⟩
 unfold Lu
 refine aW ?_ _
 refine dH ?_ ?_ ?_ _
 refine bd ez ?_ ?_ rfl _
 symm
def N6(R:bc):SV:=(bX (gW (aP (ah 1) (aM 2))) (bC (aD (af (aP (ah 1) (aM 1)) (af (bj (.bool true)) aj)))) aC (bC (aD (af (aT (Ww R) (af (aH (ah 0) 108) (af (aP (bN db (ch R) (aH (ah 0) 108) 141 (af (ah 2) aj)) (aM 2)) aj))) (af (bj (.bool false)) aj)))))
theorem acb(h:aw P d R):au (fx P) (d+2) qg (N6 R) zU:=by
 have hs:aA (fx P) qg:=⟨hT,odr rfl⟩
 unfold N6
 refine aZ ?_ ?_ ?_ ?_ _
 refine dE ?_ rfl
 symm
 refine aW ?_ _
 symm
 refine aW ?_ _
 symm
 refine ay (i:=3) rfl yR (C4 P) (K2 h) ?_ (ag cu (ag bS ao)) (.inl (zy P)) _ _
 symm
 refine ax hT ?_ kJ (vL P) rfl _
 symm
 refine bo hT hD (bz h) ?_ ?_ Bq rfl (ag am ao) rfl (lsp rfl)
 refine ax hT ?_ kJ (vL P) rfl _
 symm
def Qv(R:bc):SV:=(aB (bu 2) (aT (WN R) (af (ib 0) (af (ah 1) aj))) (bX (aY bH (aP (ah 2) (aM 0)) (ar 24)) (bC (bj (.bool false))) aC (bX (aY bH (aP (ah 2) (aM 0)) (ar 11)) (bC (aM 0)) aC (bX (aY bH (aP (ah 2) (aM 0)) (ar 132)) (bC (bj (.byt (jm [])))) aC (bX (aY bH (aP (ah 2) (aM 0)) (ar 71)) bw aC (bX (aY bH (aP (ah 2) (aM 0)) (ar 133)) bw aC bw))))))
theorem Xn(h:aw P d R):au (fx P) (d+2) rq (Qv R) zA:=by
 have hs:aA (fx P) rq:=⟨hT,odr rfl⟩
 unfold Qv
 left
 symm
 refine ay (i:=3) rfl HN (DG P) (Ke h) ?_ (ag am (ag am ao)) (.inl (zD P)) _ _
 symm
 exact dL rfl kJ _
 symm
 refine aZ ?_ ?_ ?_ ?_ _
 symm
 refine aW ?_ _
 symm
 refine aZ ?_ ?_ ?_ ?_ _
 symm
 refine aW ?_ _
 symm
 refine aZ ?_ ?_ ?_ ?_ _
 symm
 refine aW ?_ _
 exact kZ [] rfl _ _
 symm
 refine aZ ?_ ?_ ?_ ?_ _
 symm
 refine aZ ?_ ?_ ?_ ?_ _
 symm
def Rd(R:bc):SV:=(bC (bN db (ch R) (ah 0) 141 (af (ah 1) aj)))
theorem YM(h:aw P d R):au (fx P) (d+2) qZ (Rd R) Av:=by
 have hs:aA (fx P) qZ:=⟨hT,odr rfl⟩
 unfold Rd
 refine aW ?_ _
 refine bo hT hD (bz h) ?_ ?_ Bq rfl (ag am ao) rfl (lsp rfl)
 symm
def Rj(R:bc):SV:=(bC (aT (nX R) (af (aD (af (ar 32) (af (bj (.old (.ref 117))) (af (Lx C2 (ah 0)) aj)))) aj)))
theorem Ym(h:aw P d R):au (fx P) (d+2) rc (Rj R) AF:=by
 have hs:aA (fx P) rc:=⟨hT,odr rfl⟩
 unfold Rj
 refine aW ?_ _
 refine ay (i:=1) rfl ra (oF P) (YY h) ?_ (ag bL ao) (.inl (RQ P)) _ _
 symm
 exact kj (i:=2) rfl MD (Ci P) (.old _) _
 symm
 refine FS (YV P) ?_ rfl rfl
 symm
def MM(R:bc):SV:=(aB (bG (ah 0) 46) (ah 1) (aB (bG (ah 0) 151) (ah 2) (aB (bG (ah 0) 209) (ah 3) (aB (bG (ah 0) 148) (ah 4) aC))))
theorem YH(h:aw P d R):au (fx P) (d+2) qb (MM R) AD:=by
 have hs:aA (fx P) qb:=⟨hT,odr rfl⟩
 unfold MM
 left
 refine aR hT ?_ EZ (aX rfl) (TH P) _
 symm
 left
 refine aR hT ?_ BH (aX rfl) (Nw P) _
 symm
 left
 refine aR hT ?_ Bm (aX rfl) (LD P) _
 symm
 left
 refine aR hT ?_ Dj (aX rfl) (HA P) _
 symm
def P0(R:bc):SV:=(aB (bG (ah 0) 172) (ah 1) (aB (bG (ah 0) 90) (aT (Wp R) aj) (aB (bG (ah 0) 145) hU (aB (bG (ah 0) 115) hU (aB (bG (ah 0) 84) hU (aB (bG (ah 0) 113) hU (aB (bG (ah 0) 82) hU (aB (bG (ah 0) 125) hU (aB (bG (ah 0) 91) (bb aj) (aB (bG (ah 0) 131) (bb aj) (aB (bG (ah 0) 129) (bj .none) (aB (bG (ah 0) 65) (bj .none) (aB (bG (ah 0) 170) hU (aB (bG (ah 0) 169) hU (aB (bG (ah 0) 136) hU (aB (bG (ah 0) 87) hU (aB (bG (ah 0) 194) (bb aj) (aB (bG (ah 0) 206) (bb aj) (aB (bG (ah 0) 207) (bb aj) (aB (bG (ah 0) 164) (bj (.bool true)) aC))))))))))))))))))))
theorem acA(h:aw P d R):au (fx P) (d+2) ro (P0 R) Be:=by
 have hs:aA (fx P) ro:=⟨hT,odr rfl⟩
 unfold P0
 left
 refine aR hT ?_ BM (aX rfl) (KU P) _
 symm
 left
 refine aR hT ?_ T90 (aX rfl) (RM P) _
 symm
 refine ay (i:=2) rfl NK (BY P) (Iv h) ?_ ao (.inl (zL P)) _ _
 symm
 left
 refine aR hT ?_ CJ (aX rfl) (vz P) _
 symm
 exact dD _
 left
 refine aR hT ?_ Zu (aX rfl) (NF P) _
 symm
 exact dD _
 left
 refine aR hT ?_ T84 (aX rfl) (ST P) _
 symm
 exact dD _
 left
 refine aR hT ?_ Y8 (aX rfl) (M0 P) _
 symm
 exact dD _
 left
 refine aR hT ?_ T82 (aX rfl) (RP P) _
 symm
 exact dD _
 left
 refine aR hT ?_ ZF (aX rfl) (NA P) _
 symm
 exact dD _
 left
 refine aR hT ?_ T91 (aX rfl) (TC P) _
 symm
 left
 refine aR hT ?_ Xv (aX rfl) (Ma P) _
 symm
 left
 refine aR hT ?_ aaA (aX rfl) (Kp P) _
 symm
 left
 refine aR hT ?_ T65 (aX rfl) (SO P) _
 symm
 left
 refine aR hT ?_ Xr (aX rfl) (Mc P) _
 symm
 exact dD _
 left
 refine aR hT ?_ Yo (aX rfl) (Rv P) _
 symm
 exact dD _
 left
 refine aR hT ?_ gy (aX rfl) (eM P) _
 symm
 exact dD _
 left
 refine aR hT ?_ T87 (aX rfl) (Wc P) _
 symm
 exact dD _
 left
 refine aR hT ?_ Yy (aX rfl) (HK P) _
 symm
 left
 refine aR hT ?_ aal (aX rfl) (I8 P) _
 symm
 left
 refine aR hT ?_ aaB (aX rfl) (Kw P) _
 symm
 left
 refine aR hT ?_ aaa (aX rfl) (Pu P) _
 symm
def Ll(R:bc):SV:=(xG (aY bH (aP (ah 1) (aM 0)) (ar 90)) bw (bC (ah 1)))
theorem abi(h:aw P d R):au (fx P) (d+2) qF (Ll R) zv:=by
 have hs:aA (fx P) qF:=⟨hT,odr rfl⟩
 unfold Ll
 refine qt ?_ ?_ ?_ _
 symm
 refine aW ?_ _
 symm
def M2(R:bc):SV:=(aB (bG (ah 0) 108) (ah 1) (aB (bG (ah 0) 105) (aT (WG R) (af (ah 2) aj)) (aB (bG (ah 0) 143) (ah 3) (aB (bG (ah 0) 33) (ah 4) (aB (BK 2 (ah 0) 99) (aT (n3 R) (af (Pn 2 217 (ah 0)) aj)) (aB (bG (ah 0) 162) (aT (n4 R) aj) (aB (bG (ah 0) 85) (aT (n6 R) aj) (aB (bG (ah 0) 175) (aT (n7 R) (af (ah 3) aj)) (aB (bG (ah 0) 124) (bb aj) (aB (bG (ah 0) 150) (bj .none) (aB (bG (ah 0) 145) hU (jU (bu 5) (aT yT (af (aH (ah 1) 145) aj)) bw aC))))))))))))
theorem ab5(h:aw P d R):au (fx P) (d+2) rl (M2 R) AA:=by
 have hs:aA (fx P) rl:=⟨hT,odr rfl⟩
 unfold M2
 left
 refine aR hT ?_ kJ (aX rfl) (vL P) _
 symm
 left
 refine aR hT ?_ mG (aX rfl) (L5 P) _
 symm
 refine ay (i:=6) rfl Ph (CO P) (Hb h) ?_ (ag am ao) (.inl (Ag P)) _ _
 symm
 left
 refine aR hT ?_ nY (aX rfl) (uG P) _
 symm
 left
 refine aR hT ?_ QE (aX rfl) (VE P) _
 symm
 left
 refine wn hT ?_ T99 (aX rfl) (Ft P) _
 symm
 refine ay (i:=7) rfl Hv (Cs P) (aac h) ?_ (ag cu ao) (.inl (Rh P)) _ _
 symm
 refine FF hT (Cg P) uz ?_ rfl _
 symm
 left
 refine aR hT ?_ fQ (aX rfl) (dG P) _
 symm
 refine ay (i:=8) rfl Rg (Dk P) (XZ h) ?_ ao (.inl (Lc P)) _ _
 symm
 left
 refine aR hT ?_ As (aX rfl) (pW P) _
 symm
 refine ay (i:=9) rfl NQ (Ct P) (Xc h) ?_ ao (.inl (Pk P)) _ _
 symm
 left
 refine aR hT ?_ jY (aX rfl) (gb P) _
 symm
 refine ay (i:=10) rfl Mk (CQ P) (YU h) ?_ (ag am ao) (.inl (RA P)) _ _
 symm
 left
 refine aR hT ?_ aam (aX rfl) (Np P) _
 symm
 left
 refine aR hT ?_ vm (aX rfl) (mK P) _
 symm
 left
 refine aR hT ?_ CJ (aX rfl) (vz P) _
 symm
 exact dD _
 refine fO ?_ ?_ ?_ ?_ rfl _
 symm
 refine ay (i:=11) rfl x5 (uq P) (uB (jM P)) ?_ (ag cu ao) (.inr (.inl ⟨_,rfl⟩)) _ _
 symm
 refine ax hT ?_ CJ (vz P) rfl _
 symm
def QF(R:bc):SV:=(aB (bG (ah 1) 98) (ar 107) (bV (bN db (ch R) (ah 0) 171 aj) aC))
theorem Zq(h:aw P d R):au (fx P) (d+2) qH (QF R) zo:=by
 have hs:aA (fx P) qH:=⟨hT,odr rfl⟩
 unfold QF
 left
 refine aR hT ?_ uw (aX rfl) (ly P) _
 symm
 refine bg ?_ ?_ rfl _
 refine bo hT hD (bz h) ?_ ?_ Rb rfl ao rfl (lsp rfl)
 symm
def PB(R:bc):SV:=(bX (eV (aY kc (aH (ah 0) 150) (bj .none)) (eV (jT (gW (bN db (ch R) (aH (ah 0) 175) 173 aj))) iV)) bw aC aC)
theorem acj(h:aw P d R):au (fx P) (d+2) qS (PB R) zE:=by
 have hs:aA (fx P) qS:=⟨hT,odr rfl⟩
 unfold PB
 refine aZ ?_ ?_ ?_ ?_ _
 refine cL ?_ ?_
 refine bd ez ?_ ?_ rfl _
 refine ax hT ?_ vm (mK P) rfl _
 symm
 refine cL ?_ ?_
 refine fJ ?_ _
 refine dE ?_ rfl
 refine bo hT hD (bz h) ?_ ?_ QX rfl ao rfl (lsp rfl)
 refine ax hT ?_ jY (gb P) rfl _
 symm
 exact fu _
 symm
def Qa(R:bc):SV:=(jU (jo 3 (bJ (bu 2) (bJ (bu 3) (bJ (bu 4) fo)))) (ah 1) (bV (bN db (ch R) (aH (ah 0) 175) 180 (af (ah 2) (af (aD (af (ah 3) (af (ah 4) aj))) aj))) aC) aC)
theorem aaQ(h:aw P d R):au (fx P) (d+2) qP (Qa R) Al:=by
 have hs:aA (fx P) qP:=⟨hT,odr rfl⟩
 unfold Qa
 refine fO ?_ ?_ ?_ ?_ rfl _
 refine eQ ?_ (ag am (ag am (ag am ao))) _ _
 refine bt ?_ ?_ rfl
 symm
 refine bt ?_ ?_ rfl
 symm
 refine bt ?_ ?_ rfl
 symm
 exact dJ
 symm
 refine bg ?_ ?_ rfl _
 refine bo hT hD (bz h) ?_ ?_ BP rfl (ag am (ag bL ao)) rfl (lsp rfl)
 refine ax hT ?_ jY (gb P) rfl _
 symm
def Qm(R:bc):SV:=(aB (BK 3 (ah 0) 217) (ah 1) (aB (bG (ah 0) 75) (bb aj) (aB (bG (ah 0) 51) (bb aj) (aB (bG (ah 0) 43) (bb aj) aC))))
theorem Yv(h:aw P d R):au (fx P) (d+2) qK (Qm R) AI:=by
 have hs:aA (fx P) qK:=⟨hT,odr rfl⟩
 unfold Qm
 left
 refine wn hT ?_ uz (aX rfl) (DA P) _
 symm
 left
 refine aR hT ?_ Wt (aX rfl) (Em P) _
 symm
 left
 refine aR hT ?_ EC (aX rfl) (RU P) _
 symm
 left
 refine aR hT ?_ T43 (aX rfl) (Ua P) _
 symm
def Lv(R:bc):SV:=(aB (bG (ah 0) 162) (bb aj) (aB (bG (ah 0) 156) (bb aj) aC))
theorem ZZ(h:aw P d R):au (fx P) (d+2) rQ (Lv R) AP:=by
 have hs:aA (fx P) rQ:=⟨hT,odr rfl⟩
 unfold Lv
 left
 refine aR hT ?_ fQ (aX rfl) (dG P) _
 symm
 left
 refine aR hT ?_ iy (aX rfl) (e7 P) _
 symm
def NS(R:bc):SV:=(bV (gG fR (aH (ah 0) 162) (af (aT (n5 R) (af (ah 1) aj)) aj)) (bC (dg pc (aT jH (af (aH (ah 0) 162) aj)) (aM 1))))
theorem Xa(h:aw P d R):au (fx P) (d+2) qA (NS R) AY:=by
 have hs:aA (fx P) qA:=⟨hT,odr rfl⟩
 unfold NS
 refine bg ?_ ?_ rfl _
 refine cZ PySem.F.slot_list_append cI dz ?_ ?_ rfl (ag eS ao) rfl (lsp rfl)
 refine ax hT ?_ fQ (dG P) rfl _
 symm
 refine ay (i:=2) rfl IL (Cv P) (abV h) ?_ (ag am ao) (.inl (IX P)) _ _
 symm
 refine aW ?_ _
 refine bK ?_ ?_ ?_ _
 exact lB
 refine ay (i:=3) rfl gF (eY P) fK ?_ (ag cu ao) (.inr (.inl ⟨_,rfl⟩)) _ _
 symm
 refine ax hT ?_ fQ (dG P) rfl _
 symm
def RE(R:bc):SV:=(jU (bu 3) (aH (ah 0) 156) (bX (eV (aY bH (aP (ah 3) (aM 1)) (ah 1)) (eV (aY bH (aP (ah 3) (aM 2)) (ah 2)) iV)) (bC (ah 3)) aC aC) (bC (bj .none)))
theorem Yc(h:aw P d R):au (fx P) (d+2) qa (RE R) zN:=by
 have hs:aA (fx P) qa:=⟨hT,odr rfl⟩
 unfold RE
 refine fO ?_ ?_ ?_ ?_ rfl _
 symm
 refine ax hT ?_ iy (e7 P) rfl _
 symm
 refine aZ ?_ ?_ ?_ ?_ _
 refine cL ?_ ?_
 symm
 refine cL ?_ ?_
 symm
 exact fu _
 refine aW ?_ _
 symm
 refine aW ?_ _
 symm
def Pq(R:bc):SV:=(aB (bG (ah 0) 156) (gu [0,0,3] (aH (ah 0) 156) (kh 1 30) (aY eu (aP (gj 1 30) (aM 0)) (ib 2)) (gj 1 30)) aC)
theorem ZK(h:aw P d R):au (fx P) (d+2) nV (Pq R) Bk:=by
 have hs:aA (fx P) nV:=⟨hT,odr rfl⟩
 unfold Pq
 refine lX ?_ ?_ ?_ (fun q0 q0=>rfl) rfl rfl _
 refine aR hT ?_ iy (aX rfl) (e7 P) _
 symm
 refine dR (vs':=[(5,.blk),(30,.blk),(191,.cel)]) ?_ _
 refine dU.mk (x:=fx P) (vs:=nV) (vs':=[(5,.blk),(30,.blk),(191,.cel)]) (sl:=[0,0,3]) hT hD ?_ ?_ ?_ ?_ rfl (.blk T5 (.blk j8 (.cel (j:=1) kH rfl .nil))) (odr rfl) rfl
 refine ax hT ?_ iy (e7 P) rfl _
 symm
 exact eC hT rfl j8 _
 refine gS ?_
 refine bd (cy hT) ?_ ?_ rfl _
 symm
 exact cR rfl j8 _
 symm
 exact dL rfl kH _
 exact cR rfl j8 _
 symm
def PX(R:bc):SV:=(bX (aY kc (ah 1) (bj .none)) (bC (bj (.bool false))) aC (aB (bu 2) (aP (aH (ah 0) 162) (ah 1)) (bC (zw (aH (ah 2) 193) (zw (gJ wq (aT jH (af (aH (ah 2) 36) aj)) (aH (ah 2) 50)) (gJ qE (bN db (ch R) (ah 0) 232 (af (ar 59) (af (ah 1) aj))) (bj .none)))))))
theorem ab1(h:aw P d R):au (fx P) (d+2) rP (PX R) zW:=by
 have hs:aA (fx P) rP:=⟨hT,odr rfl⟩
 unfold PX
 refine aZ ?_ ?_ ?_ ?_ _
 refine bd ez ?_ ?_ rfl _
 symm
 refine aW ?_ _
 symm
 left
 symm
 refine ax hT ?_ fQ (dG P) rfl _
 symm
 refine aW ?_ _
 refine oU ?_ ?_
 refine ax hT ?_ rk (k6 P) rfl _
 symm
 refine oU ?_ ?_
 refine dO mL ?_ ?_ rfl _
 refine ay (i:=3) rfl gF (eY P) fK ?_ (ag cu ao) (.inr (.inl ⟨_,rfl⟩)) _ _
 symm
 refine ax hT ?_ kU (gq P) rfl _
 symm
 refine ax hT ?_ sq (EO P) rfl _
 symm
 refine xa ?_ _ _
 refine dO lg ?_ ?_ rfl _
 refine bo hT hD (bz h) ?_ ?_ oA rfl (ag aG (ag am ao)) rfl (lsp rfl)
 symm
def Na(R:bc):SV:=(bX (aY kc (ah 1) (bj .none)) (bC (bj (.bool false))) aC (aB (bu 2) (aP (aH (ah 0) 162) (ah 1)) (bC (zw (aH (ah 2) 193) (zw (gJ eu (aH (ah 2) 36) (bb aj)) (gJ qE (bN db (ch R) (ah 0) 232 (af (ar 53) (af (ah 1) aj))) (bj .none)))))))
theorem abR(h:aw P d R):au (fx P) (d+2) qR (Na R) Ap:=by
 have hs:aA (fx P) qR:=⟨hT,odr rfl⟩
 unfold Na
 refine aZ ?_ ?_ ?_ ?_ _
 refine bd ez ?_ ?_ rfl _
 symm
 refine aW ?_ _
 symm
 left
 symm
 refine ax hT ?_ fQ (dG P) rfl _
 symm
 refine aW ?_ _
 refine oU ?_ ?_
 refine ax hT ?_ rk (k6 P) rfl _
 symm
 refine oU ?_ ?_
 refine dO (cy hT) ?_ ?_ rfl _
 refine ax hT ?_ kU (gq P) rfl _
 symm
 refine xa ?_ _ _
 refine dO lg ?_ ?_ rfl _
 refine bo hT hD (bz h) ?_ ?_ oA rfl (ag aG (ag am ao)) rfl (lsp rfl)
 symm
def Nz(R:bc):SV:=(bC (hZ (aY bH (ah 1) (ar 53)) (bN db (ch R) (ah 0) 167 (af (ah 2) aj)) (bN db (ch R) (ah 0) 168 (af (ah 2) aj))))
theorem aa6(h:aw P d R):au (fx P) (d+2) qe (Nz R) zY:=by
 have hs:aA (fx P) qe:=⟨hT,odr rfl⟩
 unfold Nz
 refine aW ?_ _
 refine dH ?_ ?_ ?_ _
 symm
 refine bo hT hD (bz h) ?_ ?_ Qd rfl (ag am ao) rfl (lsp rfl)
 symm
 refine bo hT hD (bz h) ?_ ?_ Nt rfl (ag am ao) rfl (lsp rfl)
 symm
def Kq(R:bc):SV:=(aB (bu 3) (aP (aH (ah 0) 162) (ah 1)) (bX (gW (aH (ah 3) 193)) (bC (aD (af (aD (af (ar 92) (af (ar 250) aj))) (af (bb aj) aj)))) aC (aB (bu 4) (bN db (ch R) (ah 0) 232 (af (ar 59) (af (ah 1) aj))) (bX (aY kc (ah 4) (bj .none)) (bV (gG fR (aH (ah 3) 36) (af (ah 2) aj)) (bC (aD (af (aD (af (ar 54) aj)) (af (bb aj) aj))))) aC (bV (bN db (ch R) (ah 0) 121 (af (aP (ah 4) (aM 0)) aj)) (bC (aD (af (aD (af (ar 54) aj)) (af (bb (af (aD (af (aP (ah 4) (aM 0)) (af (aP (ah 4) (aM 4)) (af (aD (af (ar 174) (af (ah 2) (af (bj (.bool true)) aj)))) aj)))) aj)) aj)))))))))
theorem abJ(h:aw P d R):au (fx P) (d+2) qm (Kq R) AG:=by
 have hs:aA (fx P) qm:=⟨hT,odr rfl⟩
 unfold Kq
 left
 symm
 refine ax hT ?_ fQ (dG P) rfl _
 symm
 refine aZ ?_ ?_ ?_ ?_ _
 refine dE ?_ rfl
 refine ax hT ?_ rk (k6 P) rfl _
 symm
 refine aW ?_ _
 symm
 exact kj (i:=5) rfl ym (vp P) (.str _ PI) _
 symm
 left
 symm
 refine bo hT hD (bz h) ?_ ?_ oA rfl (ag aG (ag am ao)) rfl (lsp rfl)
 symm
 refine aZ ?_ ?_ ?_ ?_ _
 refine bd ez ?_ ?_ rfl _
 symm
 refine bg ?_ ?_ rfl _
 refine cZ PySem.F.slot_list_append cI dz ?_ ?_ rfl (ag am ao) rfl (lsp rfl)
 refine ax hT ?_ kU (gq P) rfl _
 symm
 refine aW ?_ _
 symm
 refine bg ?_ ?_ rfl _
 refine bo hT hD (bz h) ?_ ?_ xu rfl (ag bS ao) rfl (lsp rfl)
 symm
 refine aW ?_ _
 symm
def IZ(R:bc):SV:=(j6 2 [3,2] (aD (af (aP (aH (ah 0) 162) (ah 1)) (af (bN db (ch R) (ah 0) 232 (af (ar 53) (af (ah 1) aj))) aj))) (bX (eV (aY bH (aH (ah 2) 36) (bb aj)) (eV (aY kc (ah 3) (bj .none)) iV)) (bC (aD (af (aD (af (ar 174) (af (bj .none) (af (bj (.bool false)) aj)))) (af (bb aj) aj)))) aC (bX (aY qE (ah 3) (bj .none)) (bV (gG fR (aH (ah 2) 36) (af (aP (ah 3) (aM 3)) aj)) (bV (bN db (ch R) (ah 0) 121 (af (aP (ah 3) (aM 0)) aj)) aC)) aC (aB (bu 4) (gG Ee (aH (ah 2) 36) (af (aM 0) aj)) (bC (aD (af (aD (af (ar 174) (af (ah 4) (af (bj (.bool true)) aj)))) (af (hZ (aY kc (ah 3) (bj .none)) (bb aj) (bb (af (aD (af (aP (ah 3) (aM 0)) (af (aP (ah 3) (aM 4)) (af (aD (af (ar 54) aj)) aj)))) aj))) aj))))))))
theorem XU(h:aw P d R):au (fx P) (d+2) qQ (IZ R) zX:=by
 have hs:aA (fx P) qQ:=⟨hT,odr rfl⟩
 unfold IZ
 refine fq (js:=[2,3]) hs (.cons rfl jV (.cons rfl qW .nil)) ?_ ?_ ?_ ?_ ?_ ?_ ?_ ?_ (lq (js:=[2,3]) hs (.cons rfl jV (.cons rfl qW .nil)) (odr rfl)) ?_ ?_ _
 symm
 refine ax hT ?_ fQ (dG P) rfl _
 symm
 refine bo hT hD (bz h) ?_ ?_ oA rfl (ag aG (ag am ao)) rfl (lsp rfl)
 symm
 refine aZ ?_ ?_ ?_ ?_ _
 refine cL ?_ ?_
 symm
 refine ax hT ?_ kU (gq P) rfl _
 symm
 refine cL ?_ ?_
 refine bd ez ?_ ?_ rfl _
 symm
 exact fu _
 refine aW ?_ _
 symm
 refine aZ ?_ ?_ ?_ ?_ _
 refine bd lg ?_ ?_ rfl _
 symm
 refine bg ?_ ?_ rfl _
 refine cZ PySem.F.slot_list_append cI dz ?_ ?_ rfl (ag bS ao) rfl (lsp rfl)
 refine ax hT ?_ kU (gq P) rfl _
 symm
 refine bg ?_ ?_ rfl _
 refine bo hT hD (bz h) ?_ ?_ xu rfl (ag bS ao) rfl (lsp rfl)
 symm
 left
 symm
 refine cZ PySem.F.slot_list_pop G3 C9 ?_ ?_ rfl (ag aG ao) rfl (lsp rfl)
 refine ax hT ?_ kU (gq P) rfl _
 symm
 refine aW ?_ _
 symm
 refine dH ?_ ?_ ?_ _
 refine bd ez ?_ ?_ rfl _
 symm
 exact rfl
 exact rfl
 exact rfl
 exact (.inl rfl)
 exact rfl
 exact rfl
 exact rfl
 kernel_rfl
def Q3(R:bc):SV:=(bC (hZ (aY bH (ah 1) (ar 53)) (bN db (ch R) (ah 0) 176 (af (ah 2) (af (ah 3) aj))) (bN db (ch R) (ah 0) 177 (af (ah 2) aj))))
theorem ab2(h:aw P d R):au (fx P) (d+2) qr (Q3 R) AJ:=by
 have hs:aA (fx P) qr:=⟨hT,odr rfl⟩
 unfold Q3
 refine aW ?_ _
 refine dH ?_ ?_ ?_ _
 symm
 refine bo hT hD (bz h) ?_ ?_ Pr rfl (ag am (ag am ao)) rfl (lsp rfl)
 symm
 refine bo hT hD (bz h) ?_ ?_ Mp rfl (ag am ao) rfl (lsp rfl)
 symm
def QO(R:bc):SV:=(bX (aY kc (ah 1) (bj .none)) bw aC (aB (bu 2) (aP (aH (ah 0) 162) (ah 1)) (bX (gW (aH (ah 2) 193)) bw aC (aB (bG (ah 2) 193) (bj (.bool true)) (bC (aD (af (aD (af (ar 31) aj)) (af (dg (dY fC) (bN db (ch R) (ah 0) 80 (af (ar 59) (af (ah 1) (af (aD (af (ar 174) (af (bj .none) (af (bj (.bool false)) aj)))) aj)))) (bN db (ch R) (ah 0) 80 (af (ar 53) (af (ah 1) (af (aD (af (ar 92) (af (ar 250) aj))) aj))))) aj))))))))
theorem ab9(h:aw P d R):au (fx P) (d+2) qX (QO R) AN:=by
 have hs:aA (fx P) qX:=⟨hT,odr rfl⟩
 unfold QO
 refine aZ ?_ ?_ ?_ ?_ _
 refine bd ez ?_ ?_ rfl _
 symm
 left
 symm
 refine ax hT ?_ fQ (dG P) rfl _
 symm
 refine aZ ?_ ?_ ?_ ?_ _
 refine dE ?_ rfl
 refine ax hT ?_ rk (k6 P) rfl _
 symm
 left
 refine aR hT ?_ rk (aX rfl) (k6 P) _
 symm
 refine aW ?_ _
 symm
 refine bK (ck (cJ P)) ?_ ?_ _
 refine bo hT hD (bz h) ?_ ?_ Kc rfl (ag aG (ag am (ag bL ao))) rfl (lsp rfl)
 symm
 refine bo hT hD (bz h) ?_ ?_ Kc rfl (ag aG (ag am (ag bL ao))) rfl (lsp rfl)
 symm
 exact kj (i:=5) rfl ym (vp P) (.str _ PI) _
 symm
def HC(R:bc):SV:=(j6 2 [5,4] (aD (af (bb aj) (af (bN db (ch R) (ah 0) 232 (af (ah 1) (af (ah 2) aj))) aj))) (xG (aY qE (ah 5) (bj .none)) (bV (gG fR (ah 4) (af (aD (af (aP (ah 5) (aM 0)) (af (aP (ah 5) (aM 4)) (af (ah 3) aj)))) aj)) (bV (bN db (ch R) (ah 0) 121 (af (aP (ah 5) (aM 0)) aj)) (aB (bu 5) (bN db (ch R) (ah 0) 232 (af (ah 1) (af (ah 2) aj))) aC))) (bC (ah 4))))
theorem abH(h:aw P d R):au (fx P) (d+2) rD (HC R) Aj:=by
 have hs:aA (fx P) rD:=⟨hT,odr rfl⟩
 unfold HC
 refine fq (js:=[4,5]) hs (.cons rfl ln (.cons rfl j8 .nil)) ?_ ?_ ?_ ?_ ?_ ?_ ?_ ?_ (lq (js:=[4,5]) hs (.cons rfl ln (.cons rfl j8 .nil)) (odr rfl)) ?_ ?_ _
 symm
 refine bo hT hD (bz h) ?_ ?_ oA rfl (ag am (ag am ao)) rfl (lsp rfl)
 symm
 refine qt ?_ ?_ ?_ _
 refine bd lg ?_ ?_ rfl _
 symm
 refine bg ?_ ?_ rfl _
 refine cZ PySem.F.slot_list_append cI dz ?_ ?_ rfl (ag bL ao) rfl (lsp rfl)
 symm
 refine bg ?_ ?_ rfl _
 refine bo hT hD (bz h) ?_ ?_ xu rfl (ag bS ao) rfl (lsp rfl)
 symm
 left
 symm
 refine bo hT hD (bz h) ?_ ?_ oA rfl (ag am (ag am ao)) rfl (lsp rfl)
 symm
 refine aW ?_ _
 symm
 exact rfl
 exact rfl
 exact rfl
 exact (.inl rfl)
 exact rfl
 exact rfl
 exact rfl
 kernel_rfl
def Ht(R:bc):SV:=(Fm (jo 2 (bJ (bu 3) (bJ (jo 3 (bJ (bu 4) (bJ (bu 5) (bJ (bu 6) fo)))) fo))) (ah 2) (bX (aY qE (ah 5) (bj .none)) (bV (gG fR (aH (ah 0) 156) (af (aD (af (ah 1) (af (ah 4) (af (ah 5) (af (ah 6) (af (ah 3) aj)))))) aj)) aC) aC aC) aC)
theorem YJ(h:aw P d R):au (fx P) (d+2) qc (Ht R) A7:=by
 have hs:aA (fx P) qc:=⟨hT,odr rfl⟩
 unfold Ht
 refine Dv (i0:=7) rfl Pd (CP P) ?_ ?_ am ?_ ?_ _ _ _
 refine eQ ?_ (ag am (ag bL ao)) _ _
 refine bt ?_ ?_ rfl
 symm
 refine bt ?_ ?_ rfl
 refine eQ ?_ (ag am (ag am (ag am ao))) _ _
 refine bt ?_ ?_ rfl
 symm
 refine bt ?_ ?_ rfl
 symm
 refine bt ?_ ?_ rfl
 symm
 exact dJ
 exact dJ
 symm
 refine aZ ?_ ?_ ?_ ?_ _
 refine bd lg ?_ ?_ rfl _
 symm
 refine bg ?_ ?_ rfl _
 refine cZ PySem.F.slot_list_append cI dz ?_ ?_ rfl (ag bL ao) rfl (lsp rfl)
 refine ax hT ?_ iy (e7 P) rfl _
 symm
def MO(R:bc):SV:=(aB (bG (ah 0) 50) (ah 1) (aB (bG (ah 0) 36) (bb aj) (aB (bG (ah 0) 193) (bj (.bool false)) aC)))
theorem aa2(h:aw P d R):au (fx P) (d+2) rO (MO R) Ai:=by
 have hs:aA (fx P) rO:=⟨hT,odr rfl⟩
 unfold MO
 left
 refine aR hT ?_ sq (aX rfl) (EO P) _
 symm
 left
 refine aR hT ?_ kU (aX rfl) (gq P) _
 symm
 left
 refine aR hT ?_ rk (aX rfl) (k6 P) _
 symm
def GW(R:bc):SV:=(aB (bG (ah 0) 36) (bb aj) (aB (bG (ah 0) 116) hU (aB (bG (ah 0) 156) (bb aj) aC)))
theorem act(h:aw P d R):au (fx P) (d+2) qx (GW R) AK:=by
 have hs:aA (fx P) qx:=⟨hT,odr rfl⟩
 unfold GW
 left
 refine aR hT ?_ kU (aX rfl) (gq P) _
 symm
 left
 refine aR hT ?_ xX (aX rfl) (pJ P) _
 symm
 exact dD _
 left
 refine aR hT ?_ iy (aX rfl) (e7 P) _
 symm
def Mn(R:bc):SV:=(bX (aY x6 (ah 1) (aH (ah 0) 36)) (bV (gG fR (aH (ah 0) 36) (af (ah 1) aj)) (bC (bj (.bool true)))) aC (bV (gG fR (aH (ah 0) 156) (af (aD (af (ah 1) (af (ah 2) aj))) aj)) (bC (bj (.bool false)))))
theorem Yp(h:aw P d R):au (fx P) (d+2) qO (Mn R) zr:=by
 have hs:aA (fx P) qO:=⟨hT,odr rfl⟩
 unfold Mn
 refine aZ ?_ ?_ ?_ ?_ _
 refine bd (qY hT) ?_ ?_ rfl _
 symm
 refine ax hT ?_ kU (gq P) rfl _
 symm
 refine bg ?_ ?_ rfl _
 refine cZ PySem.F.slot_list_append cI dz ?_ ?_ rfl (ag am ao) rfl (lsp rfl)
 refine ax hT ?_ kU (gq P) rfl _
 symm
 refine aW ?_ _
 symm
 refine bg ?_ ?_ rfl _
 refine cZ PySem.F.slot_list_append cI dz ?_ ?_ rfl (ag bL ao) rfl (lsp rfl)
 refine ax hT ?_ iy (e7 P) rfl _
 symm
 refine aW ?_ _
 symm
def Hs(R:bc):SV:=(bX (aY bH (N8 (mZ 28) (aH (ah 0) 116) (af (ah 1) (af (aM 0) aj))) (aM 0)) (bC (bj (.bool true))) aC (bV (gG fR (aH (ah 0) 156) (af (aD (af (ah 1) (af (ah 2) aj))) aj)) (bC (bj (.bool false)))))
theorem Zn(h:aw P d R):au (fx P) (d+2) rM (Hs R) zJ:=by
 have hs:aA (fx P) rM:=⟨hT,odr rfl⟩
 unfold Hs
 refine aZ ?_ ?_ ?_ ?_ _
 symm
 refine zn (jM P) P4 ?_ ?_ rfl (ag am (ag aG ao)) rfl (lsp rfl)
 refine ax hT ?_ xX (pJ P) rfl _
 symm
 refine aW ?_ _
 symm
 refine bg ?_ ?_ rfl _
 refine cZ PySem.F.slot_list_append cI dz ?_ ?_ rfl (ag bL ao) rfl (lsp rfl)
 refine ax hT ?_ iy (e7 P) rfl _
 symm
 refine aW ?_ _
 symm
def Pi(R:bc):SV:=(aB (bG (ah 0) 143) (ah 1) (aB (bG (ah 0) 8) (bb aj) (aB (bG (ah 0) 37) (bj .none) aC)))
theorem abf(h:aw P d R):au (fx P) (d+2) ry (Pi R) Ao:=by
 have hs:aA (fx P) ry:=⟨hT,odr rfl⟩
 unfold Pi
 left
 refine aR hT ?_ nY (aX rfl) (uG P) _
 symm
 left
 refine aR hT ?_ T8 (aX rfl) (jW P) _
 symm
 left
 refine aR hT ?_ zm (aX rfl) (sR P) _
 symm
def QN(R:bc):SV:=(aB (bu 1) (aT (n8 R) (af (aT jH (af (aH (ah 0) 8) aj)) aj)) (bV (gG fR (aH (ah 0) 8) (af (ah 1) aj)) (bX (aY kc (aH (ah 0) 37) (bj .none)) (aB (bG (ah 0) 37) (ah 1) aC) aC (bC (ah 1)))))
theorem YZ(h:aw P d R):au (fx P) (d+2) rN (QN R) zx:=by
 have hs:aA (fx P) rN:=⟨hT,odr rfl⟩
 unfold QN
 left
 symm
 refine ay (i:=2) rfl No (Cy P) (aaZ h) ?_ (ag eS ao) (.inl (Kn P)) _ _
 symm
 refine ay (i:=3) rfl gF (eY P) fK ?_ (ag cu ao) (.inr (.inl ⟨_,rfl⟩)) _ _
 symm
 refine ax hT ?_ T8 (jW P) rfl _
 symm
 refine bg ?_ ?_ rfl _
 refine cZ PySem.F.slot_list_append cI dz ?_ ?_ rfl (ag am ao) rfl (lsp rfl)
 refine ax hT ?_ T8 (jW P) rfl _
 symm
 refine aZ ?_ ?_ ?_ ?_ _
 refine bd ez ?_ ?_ rfl _
 refine ax hT ?_ zm (sR P) rfl _
 symm
 left
 refine aR hT ?_ zm (aX rfl) (sR P) _
 symm
 refine aW ?_ _
 symm
def Qx(R:bc):SV:=(C5 1 [0,0] (aH (ah 0) 8) (kh 1 15) (aY bH (aH (gj 1 15) 98) (ar 96)) (gj 1 15) (bX (aY bH (ah 1) (bb aj)) bw aC (aB (bG (ah 0) 37) (aP (ah 1) (bN db (ch R) (aH (ah 0) 143) 47 (af (aT jH (af (ah 1) aj)) aj))) (bC (bj (.bool true))))))
theorem Y9(h:aw P d R):au (fx P) (d+2) oz (Qx R) Bd:=by
 have hs:aA (fx P) oz:=⟨hT,odr rfl⟩
 unfold Qx
 refine wy (vs':=[(5,.blk),(15,.blk)]) ?_ hs rfl AX ?_ ?_ _ _ _ ?_
 refine dU.mk (x:=fx P) (vs:=oz) (vs':=[(5,.blk),(15,.blk)]) (sl:=[0,0]) hT hD ?_ ?_ ?_ ?_ rfl (.blk T5 (.blk jV .nil)) (odr rfl) rfl
 refine ax hT ?_ T8 (jW P) rfl _
 symm
 exact eC hT rfl jV _
 refine gS ?_
 symm
 refine ax hT ?_ uw (ly P) rfl _
 exact cR rfl jV _
 symm
 exact cR rfl jV _
 exact rfl
 refine aZ ?_ ?_ ?_ ?_ _
 symm
 left
 refine aR hT ?_ zm (aX rfl) (sR P) _
 symm
 refine bo hT hD (bz h) ?_ ?_ Wi rfl (ag eS ao) rfl (lsp rfl)
 refine ax hT ?_ nY (uG P) rfl _
 symm
 refine ay (i:=2) rfl gF (eY P) fK ?_ (ag am ao) (.inr (.inl ⟨_,rfl⟩)) _ _
 symm
 refine aW ?_ _
 symm
 exact rfl
def QC(R:bc):SV:=(aB (bu 3) (aP (aH (ah 0) 8) (ah 1)) (bX (aY eu (aH (ah 3) 98) (ar 107)) bw aC (aB (bG (ah 3) 98) (ar 96) (aB (bG (ah 3) 111) (ah 2) aC))))
theorem XX(h:aw P d R):au (fx P) (d+2) rv (QC R) Bj:=by
 have hs:aA (fx P) rv:=⟨hT,odr rfl⟩
 unfold QC
 left
 symm
 refine ax hT ?_ T8 (jW P) rfl _
 symm
 refine aZ ?_ ?_ ?_ ?_ _
 refine bd (cy hT) ?_ ?_ rfl _
 refine ax hT ?_ uw (ly P) rfl _
 symm
 left
 refine aR hT ?_ uw (aX rfl) (ly P) _
 symm
 left
 refine aR hT ?_ qj (aX rfl) (pG P) _
 symm
def Nf(R:bc):SV:=(aB (bG (ah 0) 123) (ah 1) (aB (bG (ah 0) 74) (bb aj) (aB (bG (ah 0) 98) (ar 96) (aB (bG (ah 0) 111) (bj .none) aC))))
theorem acw(h:aw P d R):au (fx P) (d+2) rJ (Nf R) Am:=by
 have hs:aA (fx P) rJ:=⟨hT,odr rfl⟩
 unfold Nf
 left
 refine aR hT ?_ cG (aX rfl) (k8 P) _
 symm
 left
 refine aR hT ?_ T74 (aX rfl) (Sn P) _
 symm
 left
 refine aR hT ?_ uw (aX rfl) (ly P) _
 symm
 left
 refine aR hT ?_ qj (aX rfl) (pG P) _
 symm
def LE(R:bc):SV:=(aB (bG (ah 0) 163) (ah 1) (aB (bG (ah 0) 75) hU (aB (bG (ah 0) 66) (bb aj) (aB (bG (ah 0) 136) (bb aj) (aB (bG (ah 0) 117) (bb aj) (aB (bG (ah 0) 128) (bj .none) (aB (bG (ah 0) 216) (bj (.bool false)) aC)))))))
theorem abI(h:aw P d R):au (fx P) (d+2) rf (LE R) zG:=by
 have hs:aA (fx P) rf:=⟨hT,odr rfl⟩
 unfold LE
 left
 refine aR hT ?_ BN (aX rfl) (Nx P) _
 symm
 left
 refine aR hT ?_ Wt (aX rfl) (Em P) _
 symm
 exact dD _
 left
 refine aR hT ?_ EE (aX rfl) (sP P) _
 symm
 left
 refine aR hT ?_ gy (aX rfl) (eM P) _
 symm
 left
 refine aR hT ?_ Xp (aX rfl) (G0 P) _
 symm
 left
 refine aR hT ?_ Y1 (aX rfl) (Kt P) _
 symm
 left
 refine aR hT ?_ aaz (aX rfl) (HF P) _
 symm
def GZ(R:bc):SV:=(bX (aY z4 (ah 1) (aT jH (af (aH (ah 0) 136) aj))) bw aC (aB (bu 2) (dg pc (aT jH (af (aH (ah 0) 136) aj)) (ah 1)) (aB (bu 3) (rE (aH (ah 0) 136) (ah 2) (bj .none)) (aB (bG (ah 0) 136) (rE (aH (ah 0) 136) (bj .none) (ah 2)) (bC (ah 3))))))
theorem aaR(h:aw P d R):au (fx P) (d+2) qf (GZ R) AR:=by
 have hs:aA (fx P) qf:=⟨hT,odr rfl⟩
 unfold GZ
 refine aZ ?_ ?_ ?_ ?_ _
 refine bd px ?_ ?_ rfl _
 symm
 refine ay (i:=4) rfl gF (eY P) fK ?_ (ag cu ao) (.inr (.inl ⟨_,rfl⟩)) _ _
 symm
 refine ax hT ?_ gy (eM P) rfl _
 symm
 left
 symm
 refine bK ?_ ?_ ?_ _
 exact lB
 refine ay (i:=4) rfl gF (eY P) fK ?_ (ag cu ao) (.inr (.inl ⟨_,rfl⟩)) _ _
 symm
 refine ax hT ?_ gy (eM P) rfl _
 symm
 left
 symm
 refine lj ?_ ?_ ?_ _ _
 refine ax hT ?_ gy (eM P) rfl _
 symm
 refine eI.some ?_
 symm
 exact eI.none
 left
 refine aR hT ?_ gy (aX rfl) (eM P) _
 symm
 refine lj ?_ ?_ ?_ _ _
 refine ax hT ?_ gy (eM P) rfl _
 symm
 exact eI.none
 refine eI.some ?_
 symm
 refine aW ?_ _
 symm
def IR(R:bc):SV:=(aB (bG (ah 0) 18) (ah 1) (aB (bG (ah 0) 100) (aM 0) aC))
theorem Z0(h:aw P d R):au (fx P) (d+2) rr (IR R) zF:=by
 have hs:aA (fx P) rr:=⟨hT,odr rfl⟩
 unfold IR
 left
 refine aR hT ?_ dq (aX rfl) (xD P) _
 symm
 left
 refine aR hT ?_ Dh (aX rfl) (vE P) _
 symm
def M7(R:bc):SV:=(bX (aY WV (ah 1) (aM 1)) (bC (aM 0)) aC (aB (bu 2) (aH (ah 0) 100) (aB (bG (ah 0) 100) (dg (dY fC) (ah 2) (aM 1)) (bC (hZ (aY wq (ah 2) (aT jH (af (aH (ah 0) 18) aj))) (dg It (aP (aH (ah 0) 18) (ah 2)) (ah 1)) (aM 0))))))
theorem ZA(h:aw P d R):au (fx P) (d+2) qV (M7 R) Ab:=by
 have hs:aA (fx P) qV:=⟨hT,odr rfl⟩
 unfold M7
 refine aZ ?_ ?_ ?_ ?_ _
 refine bd K7 ?_ ?_ rfl _
 symm
 refine aW ?_ _
 symm
 left
 symm
 refine ax hT ?_ Dh (vE P) rfl _
 symm
 left
 refine aR hT ?_ Dh (aX rfl) (vE P) _
 symm
 refine bK (ck (cJ P)) ?_ ?_ _
 symm
 refine aW ?_ _
 refine dH ?_ ?_ ?_ _
 refine bd mL ?_ ?_ rfl _
 symm
 refine ay (i:=3) rfl gF (eY P) fK ?_ (ag cu ao) (.inr (.inl ⟨_,rfl⟩)) _ _
 symm
 refine ax hT ?_ dq (xD P) rfl _
 symm
 refine bK Fx ?_ ?_ _
 symm
 refine ax hT ?_ dq (xD P) rfl _
 symm
def KE(R:bc):SV:=(bV (Qq (W6 R) (af (ah 0) (af (ar 92) aj))) (aB (y6 114 (ah 0) 106) (ah 1) aC))
theorem acu(h:aw P d R):au (fx P) (d+2) rp (KE R) Bc:=by
 have hs:aA (fx P) rp:=⟨hT,odr rfl⟩
 unfold KE
 refine bg ?_ ?_ rfl _
 refine FO (i:=2) rfl PK (Dq P) (ZY P) (aaD P) (Xh P) (QW h) (Bi P) ?_ (ag am (ag aG ao)) rfl (lsp rfl)
 symm
 left
 refine rm hT (ou P) ?_ ej (aX rfl) (xK P) _
 symm
def Qg(R:bc):SV:=(bV (WL 114 (af (ah 0) (af (ah 1) aj))) (aB (y6 114 (ah 0) 147) (ah 1) (aB (y6 114 (ah 0) 57) (ah 2) aC)))
theorem XA(h:aw P d R):au (fx P) (d+2) qI (Qg R) zj:=by
 have hs:aA (fx P) qI:=⟨hT,odr rfl⟩
 unfold Qg
 refine bg ?_ ?_ rfl _
 refine Lg (ou P) (i:=3) rfl IE (CC P) (Yb P) ?_ (ag am (ag am ao)) rfl (lsp rfl)
 symm
 left
 refine rm hT (ou P) ?_ Du (aX rfl) (Tz P) _
 symm
 left
 refine rm hT (ou P) ?_ Ip (aX rfl) (aat P) _
 symm
def yK(R:bc):bc:=⟨g2 R,g3 R,g4 R,g5 R,g6 R,g7 R,g8 R,g9 R,Hj R,Rt R,Kl R,Hi R,NJ R,ME R,Kj R,Lu R,N6 R,Qv R,Rd R,Rj R,MM R,P0 R,Ll R,M2 R,QF R,PB R,Qa R,Qm R,Lv R,NS R,RE R,Pq R,PX R,Na R,Nz R,Kq R,IZ R,Q3 R,QO R,HC R,Ht R,MO R,GW R,Mn R,Hs R,Pi R,QN R,Qx R,QC R,Nf R,LE R,GZ R,IR R,M7 R,KE R,Qg R⟩
theorem GM(h:aw P d R):aw P (d+2) (yK R):=by
 unfold yK
 refine ⟨?_,?_,?_,?_,?_,?_,?_,?_,?_,?_,?_,?_,?_,?_,?_,?_,?_,?_,?_,?_,?_,?_,?_,?_,?_,?_,?_,?_,?_,?_,?_,?_,?_,?_,?_,?_,?_,?_,?_,?_,?_,?_,?_,?_,?_,?_,?_,?_,?_,?_,?_,?_,?_,?_,?_,?_⟩
 all_goals dsimp only
 exact @zh P d R
 exact @WU P d R h
 exact @ok4 P d R h
 exact @ok5 P d R h
 exact @ok6 P d R h
 exact @ok7 P d R h
 exact @ok8 P d R h
 exact @ok9 P d R h
 exact @YR P d R h
 exact @abM P d R h
 exact @aaC P d R h
 exact @YK P d R h
 exact @aa0 P d R h
 exact @ab3 P d R h
 exact @ZS P d R h
 exact @XH P d R h
 exact @acb P d R h
 exact @Xn P d R h
 exact @YM P d R h
 exact @Ym P d R h
 exact @YH P d R h
 exact @acA P d R h
 exact @abi P d R h
 exact @ab5 P d R h
 exact @Zq P d R h
 exact @acj P d R h
 exact @aaQ P d R h
 exact @Yv P d R h
 exact @ZZ P d R h
 exact @Xa P d R h
 exact @Yc P d R h
 exact @ZK P d R h
 exact @ab1 P d R h
 exact @abR P d R h
 exact @aa6 P d R h
 exact @abJ P d R h
 exact @XU P d R h
 exact @ab2 P d R h
 exact @ab9 P d R h
 exact @abH P d R h
 exact @YJ P d R h
 exact @aa2 P d R h
 exact @act P d R h
 exact @Yp P d R h
 exact @Zn P d R h
 exact @abf P d R h
 exact @YZ P d R h
 exact @Y9 P d R h
 exact @XX P d R h
 exact @acw P d R h
 exact @abI P d R h
 exact @aaR P d R h
 exact @Z0 P d R h
 exact @ZA P d R h
 exact @acu P d R h
 exact @XA P d R h
noncomputable def Tb:bc:=⟨bw,bw,bw,bw,bw,bw,bw,bw,bw,bw,bw,bw,bw,bw,bw,bw,bw,bw,bw,bw,bw,bw,bw,bw,bw,bw,bw,bw,bw,bw,bw,bw,bw,bw,bw,bw,bw,bw,bw,bw,bw,bw,bw,bw,bw,bw,bw,bw,bw,bw,bw,bw,bw,bw,bw,bw⟩
def aO(n:Nat):bc:=@Nat.rec (fun q0=>bc) Tb (fun q0 R=>yK R) n
theorem cH(P:ak)(j:Nat):∀n,aw P (j+2 * n) (aO n)
 | 0=>⟨bf,bf,bf,bf,bf,bf,bf,bf,bf,bf,bf,bf,bf,bf,bf,bf,bf,bf,bf,bf,bf,bf,bf,bf,bf,bf,bf,bf,bf,bf,bf,bf,bf,bf,bf,bf,bf,bf,bf,bf,bf,bf,bf,bf,bf,bf,bf,bf,bf,bf,bf,bf,bf,bf,bf,bf⟩
 | n+1=>GM (cH P j n)
end
end Internal.L
namespace Internal.L
open Internal.N
noncomputable section
theorem iM{x:aQ}{d d2:Nat}{f:kB}{v:Value}(le:d<=d2)(h:iq x d f v):iq x d2 f v:=fun gs H nx R k kx e A O L m J s us Q E Z=>h gs H nx R k kx e A O L m J s us Q E (Z.less le)
def Fd(R:bc):SX:=(gz (lM (vk (aY kc (ah 0) (bj .none))) (mV 114 (aT (El R) (af (ar 239) aj))) (cC aC)) (cC (bC (aD (af (aP (aP (ah 0) (aM 1)) (aM 0)) (af (aP (aP (ah 0) (aM 1)) (aM 1)) (af (aP (ah 0) (aM 2)) aj)))))))
theorem U5(P:ak):bT (fx P) 30 ui (Fd (aO 14)) Er:=by
 have hs:aA (fx P) ui:=⟨hT,odr rfl⟩
 have h:aw P 28 (aO 14):=cH P 0 14
 unfold Fd
 refine cY (l:=[_]) ?_ ?_
 refine gQ ?_ ?_ ?_ _
 refine kX ?_
 refine bd ez ?_ ?_ rfl _
 symm
 refine lL rfl (x8 P) ?_ _
 refine ay (i:=1) rfl qG (oq P) (vN h) ?_ (ag aG ao) (.inl (pz P)) _ _
 symm
 refine bB ?_
 symm
 refine bB ?_
 refine aW ?_ _
 symm
theorem aa8(P:ak):gp (fx P) 30 ND (Fd (aO 14)) 405:=⟨⟨ui,Er,QL,Hr P,U5 P⟩,AL P,by kernel_rfl⟩
noncomputable def WF:kB:=nQ ND (Fd (aO 14))
theorem VJ(P:ak):iq (fx P) 31 WF (.ref 405):=jB hT hD (aa8 P)
def Fc(R:bc):SX:=(gz (lM (vk (aY x6 (ah 1) (aH (ah 0) 36))) (mV 114 (aT (El R) (af (ar 251) aj))) (cC aC)) (cC (jU (bu 2) (aH (ah 0) 156) (bX (aY bH (aP (ah 2) (aM 0)) (ah 1)) (bV (gG Cn (aH (ah 0) 156) (af (ah 2) aj)) (bC (bb (af (aP (ah 2) (aM 1)) aj)))) aC aC) (bV (gG Cn (aH (ah 0) 36) (af (ah 1) aj)) (bC (bb aj))))))
theorem Uj(P:ak):bT (fx P) 30 vP (Fc (aO 14)) Ei:=by
 have hs:aA (fx P) vP:=⟨hT,odr rfl⟩
 have h:aw P 28 (aO 14):=cH P 0 14
 unfold Fc
 refine cY (l:=[_]) ?_ ?_
 refine gQ ?_ ?_ ?_ _
 refine kX ?_
 refine bd (qY hT) ?_ ?_ rfl _
 symm
 refine ax hT ?_ kU (gq P) rfl _
 symm
 refine lL rfl (x8 P) ?_ _
 refine ay (i:=3) rfl qG (oq P) (vN h) ?_ (ag aG ao) (.inl (pz P)) _ _
 symm
 refine bB ?_
 symm
 refine bB ?_
 refine fO ?_ ?_ ?_ ?_ rfl _
 symm
 refine ax hT ?_ iy (e7 P) rfl _
 symm
 refine aZ ?_ ?_ ?_ ?_ _
 symm
 refine bg ?_ ?_ rfl _
 refine cZ PySem.F.slot_list_remove PySem.F.type_list_remove (wF hT) ?_ ?_ rfl (ag am ao) rfl (lsp rfl)
 refine ax hT ?_ iy (e7 P) rfl _
 symm
 refine aW ?_ _
 symm
 refine bg ?_ ?_ rfl _
 refine cZ PySem.F.slot_list_remove PySem.F.type_list_remove (wF hT) ?_ ?_ rfl (ag am ao) rfl (lsp rfl)
 refine ax hT ?_ kU (gq P) rfl _
 symm
 refine aW ?_ _
 symm
theorem Z9(P:ak):gp (fx P) 30 M1 (Fc (aO 14)) 1047:=⟨⟨vP,Ei,Ku,QH P,Uj P⟩,HV P,by kernel_rfl⟩
def EI(R:bc):SX:=(gz (cC (aB (bu 3) (dg (dY fC) (N8 (mZ 28) (aH (ah 0) 116) (af (ib 1) (af (aM 0) aj))) (ah 2)) aC)) (gz (lM (vk (aY wq (ah 3) (aM 0))) (mV 114 (aT (El R) (af (ar 252) aj))) (cC aC)) (cC (aB (E4 28 (aH (ah 0) 116) (ib 1)) (ah 3) (bX (aY z4 (ah 3) (aM 0)) (bC (bb aj)) aC (C5 4 [0,0,3] (aH (ah 0) 156) (kh 1 18) (aY bH (aP (gj 1 18) (aM 0)) (ib 2)) (aP (gj 1 18) (aM 1)) (aB (bG (ah 0) 156) (gu [0,0,3] (aH (ah 0) 156) (kh 1 18) (aY eu (aP (gj 1 18) (aM 0)) (ib 2)) (gj 1 18)) (bC (ah 4)))))))))
theorem SB(P:ak):bT (fx P) 30 og (EI (aO 14)) ER:=by
 have hs:aA (fx P) og:=⟨hT,odr rfl⟩
 have h:aw P 28 (aO 14):=cH P 0 14
 unfold EI
 refine cY (l:=[_]) ?_ ?_
 refine bB ?_
 left
 symm
 refine bK (ck (cJ P)) ?_ ?_ _
 refine zn (jM P) P4 ?_ ?_ rfl (ag am (ag aG ao)) rfl (lsp rfl)
 refine ax hT ?_ xX (pJ P) rfl _
 symm
 exact dL rfl jq _
 symm
 refine cY (l:=[_]) ?_ ?_
 refine gQ ?_ ?_ ?_ _
 refine kX ?_
 refine bd mL ?_ ?_ rfl _
 symm
 refine lL rfl (x8 P) ?_ _
 refine ay (i:=5) rfl qG (oq P) (vN h) ?_ (ag aG ao) (.inl (pz P)) _ _
 symm
 refine bB ?_
 symm
 refine bB ?_
 left
 refine CD P4 ?_ ?_ _
 refine ax hT ?_ xX (pJ P) rfl _
 symm
 exact dL rfl jq _
 symm
 refine aZ ?_ ?_ ?_ ?_ _
 refine bd px ?_ ?_ rfl _
 symm
 refine aW ?_ _
 symm
 refine wy (vs':=[(5,.blk),(18,.blk),(93,.cel)]) ?_ hs rfl ln ?_ ?_ _ _ _ ?_
 refine dU.mk (x:=fx P) (vs:=og) (vs':=[(5,.blk),(18,.blk),(93,.cel)]) (sl:=[0,0,3]) hT hD ?_ ?_ ?_ ?_ rfl (.blk T5 (.blk dq (.cel (j:=1) jq rfl .nil))) (odr rfl) rfl
 refine ax hT ?_ iy (e7 P) rfl _
 symm
 exact eC hT rfl dq _
 refine gS ?_
 symm
 exact cR rfl dq _
 symm
 exact dL rfl jq _
 symm
 exact cR rfl dq _
 symm
 exact rfl
 refine lX ?_ ?_ ?_ (fun q0 q0=>rfl) rfl rfl _
 refine aR hT ?_ iy (aX rfl) (e7 P) _
 symm
 refine dR (vs':=[(5,.blk),(18,.blk),(93,.cel)]) ?_ _
 refine dU.mk (x:=fx P) (vs:=og) (vs':=[(5,.blk),(18,.blk),(93,.cel)]) (sl:=[0,0,3]) hT hD ?_ ?_ ?_ ?_ rfl (.blk T5 (.blk dq (.cel (j:=1) jq rfl .nil))) (odr rfl) rfl
 refine ax hT ?_ iy (e7 P) rfl _
 symm
 exact eC hT rfl dq _
 refine gS ?_
 refine bd (cy hT) ?_ ?_ rfl _
 symm
 exact cR rfl dq _
 symm
 exact dL rfl jq _
 exact cR rfl dq _
 refine aW ?_ _
 symm
 exact rfl
theorem abC(P:ak):gp (fx P) 30 Rw (EI (aO 14)) 1052:=⟨⟨og,ER,IB,G4 P,SB P⟩,Kz P,by kernel_rfl⟩
def ES(R:bc):SX:=(gz (cC (bX (aY bH (ah 2) (ar 146)) pH aC aC)) (gz (sN (bu 4) (fZ WF (af (aP (ah 3) (aM 0)) aj))) (gz (lM (vk (aY bH (ah 2) (ar 40))) (cC (aB (bu 5) (bN db (ch R) (aH (ah 0) 85) 165 (af (ah 4) (af (aH (ah 1) 123) aj))) aC)) (lM (vk (aY bH (ah 2) (ar 64))) (cC (aB (bu 5) (bN db (ch R) (aH (ah 0) 85) 179 (af (ah 4) (af (aH (ah 1) 123) aj))) aC)) (gz (cC (aB (bu 5) (bj (.bool true)) aC)) (gz (sN (bu 6) (Hg (aY bH (ah 2) (ar 135)) (t8 6 M1 (Fc R) (aH (ah 0) 85) 210 (af (ah 4) aj)) (t8 6 Rw (EI R) (aH (ah 0) 85) 139 (af (ah 4) (af (hZ (aY bH (ah 2) (ar 7)) (aP (ah 3) (aM 1)) (xd rx (aM 1))) aj))))) (cC (jU (bu 7) (ah 6) (bV (bN db (ch R) (aH (ah 0) 175) 180 (af (ah 7) (af (bj .none) aj))) aC) aC)))))) (cC (bX (jT (gW (ah 5))) (bV (bN db (ch R) (ah 0) 196 (af (ah 1) aj)) aC) aC aC)))))
theorem VG(P:ak):bT (fx P) 31 vt (ES (aO 14)) EH:=by
 have hs:aA (fx P) vt:=⟨hT,odr rfl⟩
 have h:aw P 29 (aO 14):=cH P 1 14
 unfold ES
 refine cY (l:=[_]) ?_ ?_
 refine bB ?_
 refine aZ ?_ ?_ ?_ ?_ _
 symm
 exact lQ _
 symm
 refine cY (l:=[_]) ?_ ?_
 refine oh ?_ ?_ rfl (.inl rfl) rfl _
 symm
 refine d6 (i:=8) rfl IT (Do P) (iM (Nat.le_of_ble_eq_true rfl) (VJ P)) ?_ (ag bS ao) (AL P) _ _
 symm
 refine cY (l:=[_]) ?_ ?_
 refine gQ ?_ ?_ ?_ _
 refine kX ?_
 symm
 refine bB ?_
 left
 symm
 refine bo hT hD (bz h) ?_ ?_ Py rfl (ag am (ag cu ao)) rfl (lsp rfl)
 refine ax hT ?_ As (pW P) rfl _
 symm
 refine ax hT ?_ cG (k8 P) rfl _
 symm
 refine gQ ?_ ?_ ?_ _
 refine kX ?_
 symm
 refine bB ?_
 left
 symm
 refine bo hT hD (bz h) ?_ ?_ Mg rfl (ag am (ag cu ao)) rfl (lsp rfl)
 refine ax hT ?_ As (pW P) rfl _
 symm
 refine ax hT ?_ cG (k8 P) rfl _
 symm
 refine cY (l:=[_]) ?_ ?_
 refine bB ?_
 left
 symm
 refine cY (l:=[_]) ?_ ?_
 refine oh ?_ ?_ rfl (.inl rfl) rfl _
 symm
 refine Gx ?_ ?_ ?_ _
 symm
 refine rT hT hD (cx:=1062) rfl (by kernel_rfl) (by kernel_rfl) (Z9 P) ?_ ?_ acg rfl (ag am ao) rfl (lsp rfl)
 refine ax hT ?_ As (pW P) rfl _
 symm
 refine rT hT hD (cx:=1062) rfl (by kernel_rfl) (by kernel_rfl) (abC P) ?_ ?_ abd rfl (ag am (ag iB ao)) rfl (lsp rfl)
 refine ax hT ?_ As (pW P) rfl _
 symm
 refine dH ?_ ?_ ?_ _
 symm
 refine mx lk ?_ _
 symm
 refine bB ?_
 refine fO ?_ ?_ ?_ ?_ rfl _
 symm
 refine bg ?_ ?_ rfl _
 refine bo hT hD (bz h) ?_ ?_ BP rfl (ag am (ag aG ao)) rfl (lsp rfl)
 refine ax hT ?_ jY (gb P) rfl _
 symm
 refine bB ?_
 refine aZ ?_ ?_ ?_ ?_ _
 refine fJ ?_ _
 refine dE ?_ rfl
 symm
 refine bg ?_ ?_ rfl _
 refine bo hT hD (bz h) ?_ ?_ CH rfl (ag am ao) rfl (lsp rfl)
 symm
theorem aaK(P:ak):gp (fx P) 31 QK (ES (aO 14)) 757:=⟨⟨vt,EH,KW,Nc P,VG P⟩,uk P,by kernel_rfl⟩
noncomputable def Hl:kB:=nQ QK (ES (aO 14))
theorem EP(P:ak):iq (fx P) 32 Hl (.ref 757):=jB hT hD (aaK P)
def Eh(R:bc):SX:=(gz (cC (aB (bu 4) (hZ (aY bH (ah 2) (ar 146)) (bb aj) (bb (af (aT (E6 R) (af (hZ (aY pk (ah 2) (bb (af (ar 40) (af (ar 135) aj)))) (aM 0) (aM 1)) aj)) aj))) aC)) (gz (yG 114 106 2 (yv (fZ Hl (af (ah 0) (af (ah 1) (af (ah 2) (af (dg (dY fC) (ah 4) (hZ (aY bH (ah 2) (ar 7)) (bb (af (ah 3) aj)) (bb aj))) aj))))))) (cC (bC (ar 0)))))
theorem TE(P:ak):bT (fx P) 32 vA (Eh (aO 14)) DZ:=by
 have hs:aA (fx P) vA:=⟨hT,odr rfl⟩
 have h:aw P 30 (aO 14):=cH P 2 14
 unfold Eh
 refine cY (l:=[_]) ?_ ?_
 refine bB ?_
 left
 symm
 refine dH ?_ ?_ ?_ _
 symm
 refine ay (i:=6) rfl Hc (Co P) (GY h) ?_ (ag iB ao) (.inl (z7 P)) _ _
 symm
 refine dH ?_ ?_ ?_ _
 refine bd (kM hT) ?_ ?_ rfl _
 symm
 refine cY (l:=[_]) ?_ ?_
 refine vH hT (ou P) (Lk P) ?_ rfl (ie:=8) rfl ra (oF P) (ip:=5) rfl Fk ej (xK P)
 refine tM ?_ rfl _
 refine d6 (i:=7) rfl y4 (vI P) (iM (Nat.le_of_ble_eq_true rfl) (EP P)) ?_ (ag am (ag am (ag am (ag jG ao)))) (uk P) _ _
 symm
 refine bK (ck (cJ P)) ?_ ?_ _
 symm
 refine dH ?_ ?_ ?_ _
 symm
 refine bB ?_
 refine aW ?_ _
 symm
theorem X6(P:ak):gp (fx P) 32 PQ (Eh (aO 14)) 1989:=⟨⟨vA,DZ,KO,G9 P,TE P⟩,z6 P,by kernel_rfl⟩
noncomputable def Wk:kB:=nQ PQ (Eh (aO 14))
theorem U4(P:ak):iq (fx P) 33 Wk (.ref 1989):=jB hT hD (X6 P)
def DX(R:bc):SX:=(gz (cC (aB (bu 0) (aT (c4 R) aj) aC)) (gz (yG 114 106 2 (yv (fZ Hl (af (ah 0) (af (aP (aH (aH (ah 0) 175) 8) (aM 0)) (af (ar 40) (af (bb (af (bj .none) aj)) aj))))))) (cC (bC (bj (.byt (jm [])))))))
theorem RW(P:ak):bT (fx P) 32 uj (DX (aO 14)) Fh:=by
 have hs:aA (fx P) uj:=⟨hT,odr rfl⟩
 have h:aw P 30 (aO 14):=cH P 2 14
 unfold DX
 refine cY (l:=[_]) ?_ ?_
 refine bB ?_
 left
 symm
 refine ay (i:=2) rfl lO (j7 P) (oV h) ?_ ao (.inl (mR P)) _ _
 symm
 refine cY (l:=[_]) ?_ ?_
 refine vH hT (ou P) (Lk P) ?_ rfl (ie:=4) rfl ra (oF P) (ip:=1) rfl Fk ej (xK P)
 refine tM ?_ rfl _
 refine d6 (i:=3) rfl y4 (vI P) (iM (Nat.le_of_ble_eq_true rfl) (EP P)) ?_ (ag am (ag bS (ag aG (ag gn ao)))) (uk P) _ _
 symm
 refine ax hT ?_ T8 (jW P) rfl _
 refine ax hT ?_ jY (gb P) rfl _
 symm
 refine bB ?_
 refine aW ?_ _
 exact kZ [] rfl _ _
theorem Zr(P:ak):gp (fx P) 32 LQ (DX (aO 14)) 2003:=⟨⟨uj,Fh,Ig,QJ P,RW P⟩,zs P,by kernel_rfl⟩
noncomputable def Wr:kB:=nQ LQ (DX (aO 14))
theorem Ub(P:ak):iq (fx P) 33 Wr (.ref 2003):=jB hT hD (Zr P)
end
end Internal.L
namespace Internal.L
open Internal.N
noncomputable section
structure eK where
 room:Nat
 held:Nat
 closed:Bool
 send:Bool
 waits:List Nat
 lost:List Nat
 ans:List Nat
 sh:List Nat
def dS(g:Nat)(l:List Nat):Bool:=@List.rec Nat (fun q0=>Bool) false (fun a q0 ih=>@Bool.rec (fun q0=>Bool) ih true (Nat.beq a g)) l
def et{α:Type}(f:Nat->α)(l:List Nat):List α:=@List.rec Nat (fun q0=>List α) [] (fun a q0 ih=>f a::ih) l
def yk{α:Type}(f:Nat->Nat->α)(i:Nat)(l:List Nat):List α:=@List.rec Nat (fun q0=>Nat->List α) (fun q0=>[]) (fun a q0 ih i=>f i a::ih (Nat.succ i)) l i
def du{α:Type}(l r:List α):List α:=@List.rec α (fun q0=>List α) r (fun a q0 ih=>a::ih) l
def tC(l:List Nat):Nat:=@List.rec Nat (fun q0=>Nat) 0 (fun q0 q0 n=>Nat.succ n) l
noncomputable def iH(n:Nat)(i:Nat):List Nat:=@Nat.rec (fun q0=>Nat->List Nat) (fun q0=>[]) (fun q0 ih i=>i::ih (Nat.succ i)) n i
def bI{α:Type}(b:Bool)(x y:α):α:=@Bool.rec (fun q0=>α) y x b
noncomputable def fS(n:Nat):PV:=.lit (.ofNat n)
def Dd(g:Nat)(l:List Nat)(i:Nat):Nat:=@List.rec Nat (fun q0=>Nat->Nat) (fun i=>i) (fun a q0 ih i=>@Bool.rec (fun q0=>Nat) (ih (Nat.succ i)) i (Nat.beq a g)) l i
def Nu(l:List Nat)(k:Nat):Nat:=@List.rec Nat (fun q0=>Nat) k (fun a q0 q0=>a) l
def DC(l:List Nat):Nat:=@List.rec Nat (fun q0=>Nat) 9 (fun q0 r q0=>Nu r 9) l
def abu(d:eK)(g:Nat):Nat:=bI (Nat.beq g (DC d.sh)) (Nu d.sh g) g
def Ep(d:eK):List Nat:=@List.rec Nat (fun q0=>List Nat) [] (fun g q0 ih=>bI (Nat.beq g (DC d.sh)) ih (g::ih)) d.ans
def yB(d:eK)(g:Nat):Nat:=Dd (abu d g) (Ep d) 0
def Xi(d:eK)(o:Nat):List (Int × PV):=@List.rec Nat (fun q0=>List (Int × PV)) [] (fun g q0 ih=>@Bool.rec (fun q0=>List (Int × PV)) (@Bool.rec (fun q0=>List (Int × PV)) ih ((.ofNat g,.unk)::ih) (dS g d.waits||dS g d.lost)) ((.ofNat g,.own (Nat.add o (Dd g d.ans 0)))::ih) (dS g d.ans)) [0,1,2]
def cg(d:eK):eh:=
 let nw:=tC d.waits; let na:=tC d.ans; let h:=d.held
 let b:=Nat.add (Nat.add 10 nw) na; let e:=Nat.add (Nat.add b 12) nw
 let kd:PV:=.str (bI d.send 53 59)
 let wv (i:Nat):PV:=bI d.send (.int (Nat.add h i)) .none
 let tk:=bI d.send (Nat.add h nw) h
 let hv:List PV:=et (fun i=>.int i) (iH h 0)
 let rd (g:Nat):PO:=.idict [(123,fS g),(74,.unk),(98,.str (bI (dS g d.waits||dS g d.lost) 107 96)),(111,bI (dS g d.waits||dS g d.lost) .unk (bI (dS g d.ans) (.own (Nat.add (Nat.add e 7) (Dd g d.ans 0))) .none))]
 ⟨du [.inst 2 4,.ds [(50,fS d.room),(36,.own 5),(114,.bool d.closed),(107,.own 6),(140,.own 7)],.list (et fS d.lost),.tuple [.str 29,fS 0],
  .idict [(108,.unk),(105,.unk),(143,.unk),(33,.unk),(99,.unk),(162,.own 8),(85,.unk),(175,.own 9),(124,.unk),(150,.none),(145,.unk)],
  .list hv,.list (et (fun i=>.own (Nat.add 10 i)) (iH nw 0)),.dm (Xi d (Nat.add 10 nw)),.inst 4 b,.inst 7 (Nat.succ b)]
  (du (yk (fun i g=>.tuple [fS g,kd,wv i]) 0 d.waits) (du (et (fun g=>.flat (yB d g)) d.ans)
  (du [.idict [(162,.own (Nat.add b 2)),(156,.own (Nat.add b 3))],.idict [(143,.own (Nat.add b 4)),(8,.own (Nat.add b 5)),(37,.unk)],
   .list [.own (Nat.add b 6)],.list (et (fun i=>.own (Nat.add (Nat.add b 7) i)) (iH nw 0)),.inst 10 (Nat.add (Nat.add b 7) nw),.list (et (fun i=>.own (Nat.add (Nat.add (Nat.add b 8) nw) i)) [0,1,2,3]),.inst 5 e]
  (du (yk (fun i g=>.tuple [fS g,kd,fS 0,wv i,fS 0]) 0 d.waits)
  (du [.idict [(18,.own (Nat.add e 1)),(100,.int tk)]]
  (du (et (fun i=>.inst 8 (Nat.add (Nat.add e 2) i)) [0,1,2,3])
  (du [.idict [(50,fS d.room),(36,.own (Nat.add e 6)),(193,.bool d.closed)],.list []]
  (du (et rd [0,1,2,3])
  (du [.list hv]
  (du (et (fun g=>.tuple [fS 0,.own (Nat.add (Nat.add (Nat.add e 7) na) (yB d g))]) d.ans) (et (fun g=>.flat (yB d g)) (Ep d)))))))))))),
  du (et (fun q0=>false) (iH tk 0)) [true],[none,none,(some (.own 0)),(some (.own 1)),(some (.own 2)),(some (.own 3)),none,none,none,none,none,none,none,none,none,none,none,none,none,none,none]⟩
def Yi(l:List Nat):Nat->Nat:=@List.rec Nat (fun q0=>Nat->Nat) (fun q0=>0) (fun a q0 ih n=>@Nat.rec (fun q0=>Nat) a (fun n q0=>ih n) n) l
def E1(n:Nat):Nat->List Nat:=@Nat.rec (fun q0=>Nat->List Nat) (fun q0=>[]) (fun q0 ih c=>@Bool.rec (fun q0=>List Nat) (Nat.sub (Nat.mod c 4) 1::ih (Nat.div c 4)) [] (Nat.beq c 0)) n
def Mq(l:List Nat):Nat:=@List.rec Nat (fun q0=>Nat) 0 (fun a q0 ih=>Nat.add (Nat.succ a) (Nat.mul 4 ih)) l
def mX(f:Nat->Bool)(l:List Nat):List Nat:=@List.rec Nat (fun q0=>List Nat) [] (fun a q0 ih=>@Bool.rec (fun q0=>List Nat) ih (a::ih) (f a)) l
def re(b:Bool):Nat:=@Bool.rec (fun q0=>Nat) 0 1 b
def qD(l:List Nat)(f:Nat->Bool):Bool:=@List.rec Nat (fun q0=>Bool) true (fun a q0 ih=>@Bool.rec (fun q0=>Bool) false ih (f a)) l
theorem lm{f:Nat->Bool}:∀{l:List Nat},qD l f=true->∀a∈l,f a=true
 | [],_,a,m=>by cases m
 | b::l,h,a,m=>by
  obtain ⟨h1,h2⟩:=aJ (show @Bool.rec (fun q0=>Bool) false (qD l f) (f b)=true from h)
  rcases List.mem_cons.mp m with rfl | m
  ·exact h1
  ·exact lm h2 a m
theorem wO(P:ak)(F:Frag):(fx P).more F=fx { P with tl:=P.tl++F }:=by
 show ({ fx P with K:=(K P.w++P.tl)++F }:aQ) = { fx P with K:=K P.w++(P.tl++F) }
 rw [List.append_assoc]
noncomputable def XI(k:Nat):List Nat:=@Nat.rec (fun q0=>List Nat) [] (fun k q0=>@Nat.rec (fun q0=>List Nat) [0,1] (fun k q0=>@Nat.rec (fun q0=>List Nat) [0,2] (fun q0 q0=>[1,2]) k) k) k
def shI(l:List Nat):Nat:=bI (Nat.beq (tC l) 2) (Nat.sub (Nat.add (Nu l 0) (DC l)) 0) 0
def dW(c:Nat):eK:=⟨Nat.mod c 4,Nat.mod (Nat.div c 4) 4,Nat.beq (Nat.mod (Nat.div c 16) 2) 1,Nat.beq (Nat.mod (Nat.div c 32) 2) 1,E1 3 (Nat.mod (Nat.div c 512) 64),E1 3 (Nat.mod (Nat.div c 32768) 64),mX (fun g=>Nat.beq (Nat.mod (Nat.div (Nat.div c 64) (Nat.pow 2 g)) 2) 1) [0,1,2],XI (Nat.div c 2097152)⟩
def Zy(d:eK):Nat:=Nat.add d.room (Nat.mul 4 (Nat.add d.held (Nat.mul 4 (Nat.add (re d.closed) (Nat.mul 2 (Nat.add (re d.send) (Nat.mul 2 (Nat.add (@List.rec Nat (fun q0=>Nat) 0 (fun g q0 ih=>Nat.add (Nat.pow 2 g) ih) d.ans) (Nat.mul 8 (Nat.add (Mq d.waits) (Nat.mul 64 (Nat.add (Mq d.lost) (Nat.mul 64 (shI d.sh))))))))))))))
def fD(d:eK)(k:eK->Bool):Bool:=fN d.room fun a=>fN d.held fun b=>fB d.closed fun c=>fB d.send fun e=>vM d.waits fun w=>vM d.lost fun l=>vM d.ans fun n=>vM d.sh fun h=>k ⟨a,b,c,e,w,l,n,h⟩
theorem x4(d:eK)(k:eK->Bool):fD d k=k d:=by unfold fD; rw [bO,bO,oX,oX,kT,kT,kT,kT]
def tU(l:List Nat):Bool:=@List.rec Nat (fun q0=>Bool) true (fun q0 q0 q0=>false) l
def WD(l:List Nat):List Nat:=@List.rec Nat (fun q0=>List Nat) [] (fun q0 r q0=>r) l
def qy(f:Nat->Bool):List Nat:=mX f [0,1,2]
def UX(d:eK)(who:Nat):eK:=⟨d.room,d.held,d.closed,bI (tU d.waits) false d.send,d.waits,d.lost,d.ans,bI (dS who d.sh) [] d.sh⟩
def xI(d:eK)(who:Nat):List Nat:=qy fun g=>Nat.beq g who||dS g d.ans
def xF(d:eK)(who:Nat):List Nat:=qy fun g=>!Nat.beq g who&&dS g d.ans
def Fj(d:eK)(who:Nat):List Nat:=qy fun g=>Nat.beq g who||Nat.beq g (Yi d.waits 0)||dS g d.ans
def VT(d:eK)(who deed:Nat):eK:=
 bI (dS who d.waits||dS who d.lost||(Nat.beq deed 76&&d.closed)) d
 (bI (Nat.beq deed 76) ⟨d.room,d.held,true,false,[],d.lost,qy fun g=>dS g d.waits||dS g d.ans,bI (Nat.beq (tC d.waits) 2) (qy fun g=>dS g d.waits) d.sh⟩ (UX (bI (Nat.beq deed 76) ⟨d.room,d.held,true,false,[],d.lost,qy fun g=>dS g d.waits||dS g d.ans,d.sh⟩
 (bI (Nat.beq deed 53) (bI d.closed ⟨d.room,d.held,d.closed,d.send,d.waits,d.lost,xI d who,d.sh⟩
  (bI (!tU d.waits&&!d.send) ⟨d.room,d.held,d.closed,d.send,WD d.waits,d.lost,Fj d who,d.sh⟩
  (bI (Nat.ble (Nat.succ d.held) d.room) ⟨d.room,Nat.succ d.held,d.closed,d.send,d.waits,d.lost,xI d who,d.sh⟩ ⟨d.room,d.held,d.closed,true,du d.waits [who],d.lost,xF d who,d.sh⟩)))
 (bI (Nat.beq deed 59) (bI (Nat.beq d.held 0&&!(d.send&&!tU d.waits)&&!d.closed) ⟨d.room,d.held,d.closed,false,du d.waits [who],d.lost,xF d who,d.sh⟩
  (bI (d.send&&!tU d.waits) ⟨d.room,d.held,d.closed,d.send,WD d.waits,d.lost,Fj d who,d.sh⟩ ⟨d.room,Nat.sub d.held 1,d.closed,d.send,d.waits,d.lost,xI d who,d.sh⟩))
 ⟨d.room,d.held,d.closed,d.send,d.waits,du d.lost [who],xF d who,d.sh⟩))) who))
noncomputable def t2(a b:Nat):NT:=.n (.one a) b (.one b)
def t4(a b c d:Nat):NT:=.n (t2 a b) c (t2 c d)
noncomputable def WQ:NT:=.n (.n (.n (t4 0 1 2 16) 17 (t4 17 18 65 66)) 69 (.n (t4 69 70 74 80) 81 (.n (t4 81 82 85 86) 90 (t4 90 129 130 133)))) 134 (.n (.n (t4 134 138 144 145) 146 (.n (t4 146 149 150 154) 192 (t4 192 193 194 197))) 198 (.n (t4 198 202 208 209) 210 (.n (t4 210 213 214 218) 257 (t4 257 258 261 262))))
noncomputable def Wm:NT:=.n (.n (.n (t4 266 272 273 274) 277 (t4 277 278 282 320)) 321 (.n (t4 321 322 325 326) 330 (.n (t4 330 336 337 338) 341 (t4 341 342 346 384)))) 385 (.n (.n (t4 385 386 389 390) 394 (.n (t4 394 400 401 402) 405 (t4 405 406 410 448))) 449 (.n (t4 449 450 453 454) 458 (.n (t4 458 464 465 466) 469 (t4 469 470 474 512))))
noncomputable def WT:NT:=.n (.n (.n (t4 513 514 544 549) 554 (t4 554 640 641 642)) 672 (.n (t4 672 677 682 768) 769 (.n (t4 769 770 800 805) 810 (t4 810 896 897 898)))) 928 (.n (.n (t4 928 933 938 1024) 1025 (.n (t4 1025 1026 1056 1061) 1066 (t4 1066 1088 1089 1090))) 1120 (.n (t4 1120 1125 1130 1280) 1281 (.n (t4 1281 1282 1312 1317) 1322 (t4 1322 1344 1345 1346))))
noncomputable def Wj:NT:=.n (.n (.n (t4 1376 1381 1386 1536) 1537 (t4 1537 1538 1568 1573)) 1578 (.n (t4 1578 1600 1601 1602) 1632 (.n (t4 1632 1637 1642 1664) 1665 (t4 1665 1666 1696 1701)))) 1706 (.n (.n (t4 1706 1728 1729 1730) 1760 (.n (t4 1760 1765 1770 3072) 3073 (t4 3073 3074 3104 3109))) 3114 (.n (t4 3114 3328 3329 3330) 3360 (.n (t4 3360 3365 3370 3584) 3585 (t4 3585 3586 3616 3621))))
noncomputable def Wy:NT:=.n (.n (.n (t4 3626 3712 3713 3714) 3744 (t4 3744 3749 3754 4608)) 4609 (.n (t4 4609 4610 4640 4645) 4650 (.n (t4 4650 4864 4865 4866) 4896 (t4 4896 4901 4906 5632)))) 5633 (.n (.n (t4 5633 5634 5664 5669) 5674 (.n (t4 5674 5696 5697 5698) 5728 (t4 5728 5733 5738 6656))) 6657 (.n (t4 6657 6658 6688 6693) 6698 (.n (t4 6698 6784 6785 6786) 6816 (t4 6816 6821 6826 7168))))
noncomputable def Wq:NT:=.n (.n (.n (t4 7169 7170 7200 7205) 7210 (t4 7210 7232 7233 7234)) 7264 (.n (t4 7264 7269 7274 13824) 13825 (.n (t4 13825 13826 13856 13861) 13866 (t4 13866 15360 15361 15362)))) 15392 (.n (.n (t4 15392 15397 15402 19968) 19969 (.n (t4 19969 19970 20000 20005) 20010 (t4 20010 23040 23041 23042))) 23072 (.n (t4 23072 23077 23082 27648) 27649 (.n (t4 27649 27650 27680 27685) 27690 (t4 27690 29184 29185 29186))))
noncomputable def Wh:NT:=.n (.n (.n (t4 29216 29221 29226 32768) 32769 (t4 32769 32770 32773 32774)) 32778 (.n (t4 32778 32784 32785 32786) 32789 (.n (t4 32789 32790 32794 32896) 32897 (t4 32897 32898 32901 32902)))) 32906 (.n (.n (t4 32906 32912 32913 32914) 32917 (.n (t4 32917 32918 32922 33024) 33025 (t4 33025 33026 33029 33030))) 33034 (.n (t4 33034 33040 33041 33042) 33045 (.n (t4 33045 33046 33050 33152) 33153 (t4 33153 33154 33157 33158))))
noncomputable def Wo:NT:=.n (.n (.n (t4 33162 33168 33169 33170) 33173 (t4 33173 33174 33178 33792)) 33793 (.n (t4 33793 33794 33824 33829) 33834 (.n (t4 33834 34048 34049 34050) 34080 (t4 34080 34085 34090 34304)))) 34305 (.n (.n (t4 34305 34306 34336 34341) 34346 (.n (t4 34346 34432 34433 34434) 34464 (t4 34464 34469 34474 38400))) 38401 (.n (t4 38401 38402 38432 38437) 38442 (.n (t4 38442 39936 39937 39938) 39968 (t4 39968 39973 39978 65536))))
noncomputable def WA:NT:=.n (.n (.n (t4 65537 65538 65541 65542) 65546 (t4 65546 65552 65553 65554)) 65557 (.n (t4 65557 65558 65562 65600) 65601 (.n (t4 65601 65602 65605 65606) 65610 (t4 65610 65616 65617 65618)))) 65621 (.n (.n (t4 65621 65622 65626 65792) 65793 (.n (t4 65793 65794 65797 65798) 65802 (t4 65802 65808 65809 65810))) 65813 (.n (t4 65813 65814 65818 65856) 65857 (.n (t4 65857 65858 65861 65862) 65866 (t4 65866 65872 65873 65874))))
noncomputable def Wn:NT:=.n (.n (.n (t4 65877 65878 65882 66048) 66049 (t4 66049 66050 66080 66085)) 66090 (.n (t4 66090 66304 66305 66306) 66336 (.n (t4 66336 66341 66346 67072) 67073 (t4 67073 67074 67104 67109)))) 67114 (.n (.n (t4 67114 67136 67137 67138) 67168 (.n (t4 67168 67173 67178 69120) 69121 (t4 69121 69122 69152 69157))) 69162 (.n (t4 69162 72192 72193 72194) 72224 (.n (t4 72224 72229 72234 98304) 98305 (t4 98305 98306 98309 98310))))
noncomputable def Nk:NT:=.n (.n (.n (t4 98314 98320 98321 98322) 98325 (t4 98325 98326 98330 98368)) 98369 (.n (t4 98369 98370 98373 98374) 98378 (.n (t4 98378 98384 98385 98386) 98389 (t4 98389 98390 98394 98432)))) 98433 (.n (.n (t4 98433 98434 98437 98438) 98442 (.n (t4 98442 98448 98449 98450) 98453 (t4 98453 98454 98458 98496))) 98497 (.n (t4 98497 98498 98501 98502) 98506 (.n (t4 98506 98512 98513 98514) 98517 (t4 98517 98518 98522 98816))))
noncomputable def QI:NT:=.n (.n (.n (t4 98817 98818 98848 98853) 98858 (t4 98858 98944 98945 98946)) 98976 (.n (t4 98976 98981 98986 99328) 99329 (.n (t4 99329 99330 99360 99365) 99370 (t4 99370 99392 99393 99394)))) 99424 (.n (.n (t4 99424 99429 99434 101376) 101377 (.n (t4 101377 101378 101408 101413) 101418 (t4 101418 102912 102913 102914))) 102944 (.n (t4 102944 102949 102954 196608) 196609 (.n (t4 196609 196610 196613 196614) 196618 (t4 196618 196624 196625 196626))))
noncomputable def Hk:NT:=.n (.n (.n (t4 196629 196630 196634 196864) 196865 (t4 196865 196866 196869 196870)) 196874 (.n (t4 196874 196880 196881 196882) 196885 (.n (t4 196885 196886 196890 198144) 198145 (t4 198145 198146 198176 198181)))) 198186 (.n (.n (t4 198186 229376 229377 229378) 229381 (.n (t4 229381 229382 229386 229392) 229393 (t4 229393 229394 229397 229398))) 229402 (.n (t4 229402 229504 229505 229506) 229509 (.n (t4 229509 229510 229514 229520) 229521 (t4 229521 229522 229525 229526))))
noncomputable def K5:NT:=.n (.n (.n (t4 229530 230400 230401 230402) 230432 (t4 230432 230437 230442 294912)) 294913 (.n (t4 294913 294914 294917 294918) 294922 (.n (t4 294922 294928 294929 294930) 294933 (t4 294933 294934 294938 295168)))) 295169 (.n (.n (t4 295169 295170 295173 295174) 295178 (.n (t4 295178 295184 295185 295186) 295189 (t4 295189 295190 295194 296448))) 296449 (.n (t4 296449 296450 296480 296485) 296490 (.n (t4 296490 360448 360449 360450) 360453 (t4 360453 360454 360458 360464))))
noncomputable def N7:NT:=.n (.n (.n (t4 360465 360466 360469 360470) 360474 (t4 360474 360512 360513 360514)) 360517 (.n (t4 360517 360518 360522 360528) 360529 (.n (t4 360529 360530 360533 360534) 360538 (t4 360538 360960 360961 360962)))) 360992 (.n (.n (t4 360992 360997 361002 425984) 425985 (.n (t4 425985 425986 425989 425990) 425994 (t4 425994 426000 426001 426002))) 426005 (.n (t4 426005 426006 426010 426112) 426113 (.n (t4 426113 426114 426117 426118) 426122 (t4 426122 426128 426129 426130))))
noncomputable def Nd:NT:=.n (.n (.n (t4 426133 426134 426138 427008) 427009 (t4 427009 427010 427040 427045)) 427050 (.n (t4 427050 458752 458753 458754) 458757 (.n (t4 458757 458758 458762 458768) 458769 (t4 458769 458770 458773 458774)))) 458778 (.n (.n (t4 458778 458816 458817 458818) 458821 (.n (t4 458821 458822 458826 458832) 458833 (t4 458833 458834 458837 458838))) 458842 (.n (t4 458842 459264 459265 459266) 459296 (.n (t4 459296 459301 459306 884736) 884737 (t4 884737 884738 884741 884742))))
noncomputable def Mf:NT:=.n (.n (.n (t4 884746 884752 884753 884754) 884757 (t4 884757 884758 884762 983040)) 983041 (.n (t4 983041 983042 983045 983046) 983050 (.n (t4 983050 983056 983057 983058) 983061 (t4 983061 983062 983066 1277952)))) 1277953 (.n (.n (t4 1277953 1277954 1277957 1277958) 1277962 (.n (t4 1277962 1277968 1277969 1277970) 1277973 (t4 1277973 1277974 1277978 1474560))) 1474561 (.n (t4 1474561 1474562 1474565 1474566) 1474570 (.n (t4 1474570 1474576 1474577 1474578) 1474581 (t4 1474581 1474582 1474586 1769472))))
noncomputable def Lf:NT:=.n (.n (.n (t4 1769473 1769474 1769477 1769478) 1769482 (t4 1769482 1769488 1769489 1769490)) 1769493 (.n (t4 1769493 1769494 1769498 1867776) 1867777 (.n (t4 1867777 1867778 1867781 1867782) 1867786 (t4 1867786 1867792 1867793 1867794)))) 1867797 (.n (.n (t4 1867797 1867798 1867802 2097360) 2097361 (.n (t4 2097361 2097362 2097365 2097370) 2097616 (t4 2097616 2097617 2097618 2097621))) 2097622 (.n (t4 2097622 2097626 2195664 2195665) 2195666 (.n (t4 2195666 2195669 2195670 2195674) 4194640 (t4 4194640 4194641 4194642 4194645))))
noncomputable def Nl:NT:=.n (.n (.n (t4 4194650 4194768 4194769 4194770) 4194773 (t4 4194773 4194774 4194778 4260176)) 4260177 (.n (t4 4260177 4260178 4260181 4260182) 4260186 (t4 4260186 6291856 6291857 6291858))) 6291861 (.n (.n (t4 6291861 6291866 6291920 6291921) 6291922 (t4 6291922 6291925 6291926 6291930)) 6324624 (.n (t4 6324624 6324625 6324626 6324629) 6324630 (t2 6324630 6324634)))
noncomputable def zd:NT:=(.n (.n (.n (.n WQ 266 Wm) 513 (.n WT 1376 Wj)) 3626 (.n (.n Wy 7169 Wq) 29216 (.n Wh 33162 (.n Wo 65537 WA)))) 65877 (.n (.n (.n Wn 98314 Nk) 98817 (.n QI 196629 (.n Hk 229530 K5))) 360465 (.n (.n N7 426133 Nd) 884746 (.n Mf 1769473 (.n Lf 4194650 Nl)))))
noncomputable def dN:List Nat:=[53,59,76,41,45]
def rC(R:bc):SV:=(j6 3 [4,3,2] (aD (af (aT (c4 R) aj) (af (rZ (cr (ar 50) (ah 0) (cr (ar 36) (bb aj) (cr (ar 114) (bj (.bool false)) (cr (ar 107) (bb aj) (cr (ar 140) hU kA)))))) (af (bb aj) aj)))) (aB (bu 5) (aD (af (ar 29) (af (bN db (ch R) (aH (ah 2) 162) 166 (af (ah 0) aj)) aj))) aC))
def pV(R:bc):SV:=(j6 2 [10,9] (aD (af (aP (aH (aH (ah 2) 175) 8) (ah 6)) (af (aT (n9 R) (af (bj .none) aj)) aj))) (bX (l7 (aY pk (ah 6) (dg (dY fC) (ah 4) (gu [0,0] (aP (ah 3) (ar 107)) (kh 1 18) nO (aP (gj 1 18) (aM 0))))) (l7 (eV (aY bH (ah 7) (ar 76)) (eV (gW (aP (ah 3) (ar 114))) iV)) jP)) yA aC (aB (bu 11) (bb (af (aD (af (ar 54) aj)) aj)) (bX (aY bH (ah 7) (ar 76)) (bV (bN db (ch R) (ah 2) 197 (af (aP (bN db (ch R) (aH (ah 2) 162) 189 (af (aM 0) aj)) (aM 1)) aj)) (bV (aT (c7 R) (af (ah 3) aj)) (aB (bu 11) (bb aj) aC))) (bX (aY bH (ah 7) (ar 53)) (bV (gG Dt (aH (ah 10) 136) (af (bb (af (ah 5) (af (ah 8) aj))) aj)) (bV (aT (L7 R) (af (ah 2) (af (ah 9) (af (ah 10) (af (aD (af (ar 53) aj)) aj))))) (bV (aT (c5 R) (af (ah 3) (af (ah 6) (af (ah 8) aj)))) aC))) (bX (aY bH (ah 7) (ar 59)) (bV (gG fR (aH (ah 10) 136) (af (ah 5) aj)) (bV (aT (LC R) (af (ah 2) (af (ah 9) (af (ah 10) (af (aD (af (ar 152) (af (ah 8) aj))) aj))))) (bV (aT (c6 R) (af (ah 3) (af (ah 6) aj))) (aB (bu 11) (bb (af (aD (af (ar 10) (af (ah 8) aj))) aj)) aC)))) (bV (aT (A8 R) (af (ah 2) (af (ah 9) (af (ah 10) (af (hZ (aY bH (ah 7) (ar 41)) (ar 53) (ar 59)) (af (bj .none) (af (ah 8) (af (aD (af (ar 54) aj)) aj)))))))) (aB (bu 4) (dg (dY fC) (ah 4) (bb (af (ah 6) aj))) aC)) aC) aC) (bX (l7 (aY eu (aH (ah 10) 66) (ah 11)) (l7 (aY eu (aH (ah 10) 136) (bb aj)) jP)) bw aC aC)))))
def mI(R:bc):SV:=(bX (jT (gW (aT (c8 R) (af (ah 2) (af (ah 3) (af (dg (dY fC) (ah 4) (gu [0,0] (aP (ah 3) (ar 107)) (kh 1 18) nO (aP (gj 1 18) (aM 0)))) aj)))))) bw aC aC)
def pv(R:bc):SV:=(bC (gJ kc (aH (ah 2) 150) (bj .none)))
noncomputable def zT:jR:=(bJ (bu 6) (bJ (bu 7) (bJ (bu 8) fo)))
def xx(T:Tr)(tg:jR)(b:SX)(p q:eh)(who deed:Nat)(vals:List Int)(z:Int):Bool:=tg [.int (.lit (.ofNat who)),.str deed,.int (.var p.cs.length)] T (p.P.length+1) (.mk (cW p.cs vals++[(z,z)]) []) (ew p.rt) (fun H nx R loc=>b H nx R loc (jy q .oit p.P.length) gw)
def C1(f:SX)(p:eh)(vals:List Int):Bool:=f (ed (p.P++[.junk])) (p.P.length+1) (.mk (cW p.cs vals) []) (ew p.rt) vQ gw
def nP(T:Tr)(b:SX)(p:eh)(vals:List Int):Bool:=b T (p.P.length+1) (.mk (cW p.cs vals) []) (ew p.rt) (jy p .oit p.P.length) gw
def zR(p:eh):Bool:=py p.P&&Nat.ble (Nat.succ p.P.length) 300
def EA(d:eK)(who:Nat):Bool:=dS who d.waits||dS who d.lost
def sC(p:eh):Tr:=ed (p.P++[.oit])
def LU(T:Tr)(d:eK)(who deed:Nat)(v:Nat->Int)(z:Int):Bool:=fD (VT d who deed) fun e=>fN (Zy e) fun c'=>@Bool.rec (fun q0=>Bool) false (fD (dW c') fun e'=>xx T zT (cC (pV (aO 14))) (cg d) (cg e') who deed (ji v (cg d).cs.length 0) z) (iA c' zd)
def yX(c:Nat)(v:Nat->Int)(z:Int)(dv:Nat):Bool:=fD (dW c) fun d=>W1 (sC (cg d)) fun T=>@Bool.rec (fun q0=>Bool) false (@Bool.rec (fun q0=>Bool) false (qD [0,1,2] fun who=>@Bool.rec (fun q0=>Bool) (qD dN fun deed=>LU T d who deed v z) (xx T zT (cC (pV (aO 14))) (cg d) (cg d) who dv (ji v (cg d).cs.length 0) z) (EA d who))
 (C1 (cC (pv (aO 14))) (cg d) (ji v (cg d).cs.length 0)&&nP T (cC (mI (aO 14))) (cg d) (ji v (cg d).cs.length 0))) (zR (cg d))
def q9(t:NT):(Nat->Int)->Int->Nat->Bool:=fun v z dv=>cq (fun c=>yX c v z dv) t
noncomputable def q9T:(Nat->Int)->Int->Nat->Bool:=fun q0 q0 q0=>true
abbrev Q9(t:NT):Prop:=q9 t=q9T
def QT(t:NT):Prop:=∀(v:Nat->Int) (z:Int) (dv:Nat),cq (fun c=>yX c v z dv) t=true
theorem QT.p{t:NT}(h:Q9 t):QT t:=fun v z dv=>congrFun (congrFun (congrFun h v) z) dv
theorem QT.n{l r:NT}{k:Nat}(h1:QT l)(h2:QT r):QT (.n l k r):=fun v z dv=>cf (h1 v z dv) (h2 v z dv)
section
local macro_rules | `(tactic| rfl)=>`(tactic| kernel_rfl)
theorem qc0:Q9 (t4 0 1 2 16):=by rfl
theorem qc1:Q9 (t4 17 18 65 66):=by rfl
theorem qc2:Q9 (t4 69 70 74 80):=by rfl
theorem qc3:Q9 (t4 81 82 85 86):=by rfl
theorem qc4:Q9 (t4 90 129 130 133):=by rfl
theorem qc5:Q9 (t4 134 138 144 145):=by rfl
theorem qc6:Q9 (t4 146 149 150 154):=by rfl
theorem qc7:Q9 (t4 192 193 194 197):=by rfl
theorem qc8:Q9 (t4 198 202 208 209):=by rfl
theorem qc9:Q9 (t4 210 213 214 218):=by rfl
theorem Xd:Q9 (t4 257 258 261 262):=by rfl
theorem ZN:Q9 (t4 266 272 273 274):=by rfl
theorem ZQ:Q9 (t4 277 278 282 320):=by rfl
theorem aaV:Q9 (t4 321 322 325 326):=by rfl
theorem X4:Q9 (t4 330 336 337 338):=by rfl
theorem Xs:Q9 (t4 341 342 346 384):=by rfl
theorem abP:Q9 (t4 385 386 389 390):=by rfl
theorem acm:Q9 (t4 394 400 401 402):=by rfl
theorem ack:Q9 (t4 405 406 410 448):=by rfl
theorem Y4:Q9 (t4 449 450 453 454):=by rfl
theorem aaN:Q9 (t4 458 464 465 466):=by rfl
theorem YB:Q9 (t4 469 470 474 512):=by rfl
theorem abF:Q9 (t4 513 514 544 549):=by rfl
theorem Z8:Q9 (t4 554 640 641 642):=by rfl
theorem XD:Q9 (t4 672 677 682 768):=by rfl
theorem YT:Q9 (t4 769 770 800 805):=by rfl
theorem YO:Q9 (t4 810 896 897 898):=by rfl
theorem aap:Q9 (t4 928 933 938 1024):=by rfl
theorem acv:Q9 (t4 1025 1026 1056 1061):=by rfl
theorem XM:Q9 (t4 1066 1088 1089 1090):=by rfl
theorem aag:Q9 (t4 1120 1125 1130 1280):=by rfl
theorem XS:Q9 (t4 1281 1282 1312 1317):=by rfl
theorem YI:Q9 (t4 1322 1344 1345 1346):=by rfl
theorem aaf:Q9 (t4 1376 1381 1386 1536):=by rfl
theorem abp:Q9 (t4 1537 1538 1568 1573):=by rfl
theorem acd:Q9 (t4 1578 1600 1601 1602):=by rfl
theorem Za:Q9 (t4 1632 1637 1642 1664):=by rfl
theorem aa3:Q9 (t4 1665 1666 1696 1701):=by rfl
theorem aa1:Q9 (t4 1706 1728 1729 1730):=by rfl
theorem Ys:Q9 (t4 1760 1765 1770 3072):=by rfl
theorem Xb:Q9 (t4 3073 3074 3104 3109):=by rfl
theorem Zb:Q9 (t4 3114 3328 3329 3330):=by rfl
theorem aaX:Q9 (t4 3360 3365 3370 3584):=by rfl
theorem Zv:Q9 (t4 3585 3586 3616 3621):=by rfl
theorem aaq:Q9 (t4 3626 3712 3713 3714):=by rfl
theorem Yl:Q9 (t4 3744 3749 3754 4608):=by rfl
theorem Xz:Q9 (t4 4609 4610 4640 4645):=by rfl
theorem aa5:Q9 (t4 4650 4864 4865 4866):=by rfl
theorem abT:Q9 (t4 4896 4901 4906 5632):=by rfl
theorem Zt:Q9 (t4 5633 5634 5664 5669):=by rfl
theorem Yd:Q9 (t4 5674 5696 5697 5698):=by rfl
theorem abl:Q9 (t4 5728 5733 5738 6656):=by rfl
theorem Zf:Q9 (t4 6657 6658 6688 6693):=by rfl
theorem Z6:Q9 (t4 6698 6784 6785 6786):=by rfl
theorem YW:Q9 (t4 6816 6821 6826 7168):=by rfl
theorem abr:Q9 (t4 7169 7170 7200 7205):=by rfl
theorem Yk:Q9 (t4 7210 7232 7233 7234):=by rfl
theorem aaw:Q9 (t4 7264 7269 7274 13824):=by rfl
theorem abZ:Q9 (t4 13825 13826 13856 13861):=by rfl
theorem ZU:Q9 (t4 13866 15360 15361 15362):=by rfl
theorem XY:Q9 (t4 15392 15397 15402 19968):=by rfl
theorem abL:Q9 (t4 19969 19970 20000 20005):=by rfl
theorem YQ:Q9 (t4 20010 23040 23041 23042):=by rfl
theorem Yz:Q9 (t4 23072 23077 23082 27648):=by rfl
theorem Zj:Q9 (t4 27649 27650 27680 27685):=by rfl
theorem Xm:Q9 (t4 27690 29184 29185 29186):=by rfl
theorem abc:Q9 (t4 29216 29221 29226 32768):=by rfl
theorem YX:Q9 (t4 32769 32770 32773 32774):=by rfl
theorem ZW:Q9 (t4 32778 32784 32785 32786):=by rfl
theorem Yn:Q9 (t4 32789 32790 32794 32896):=by rfl
theorem Yu:Q9 (t4 32897 32898 32901 32902):=by rfl
theorem XO:Q9 (t4 32906 32912 32913 32914):=by rfl
theorem YF:Q9 (t4 32917 32918 32922 33024):=by rfl
theorem aaT:Q9 (t4 33025 33026 33029 33030):=by rfl
theorem Y6:Q9 (t4 33034 33040 33041 33042):=by rfl
theorem Yj:Q9 (t4 33045 33046 33050 33152):=by rfl
theorem aah:Q9 (t4 33153 33154 33157 33158):=by rfl
theorem XL:Q9 (t4 33162 33168 33169 33170):=by rfl
theorem ZR:Q9 (t4 33173 33174 33178 33792):=by rfl
theorem YE:Q9 (t4 33793 33794 33824 33829):=by rfl
theorem abA:Q9 (t4 33834 34048 34049 34050):=by rfl
theorem aaP:Q9 (t4 34080 34085 34090 34304):=by rfl
theorem Yx:Q9 (t4 34305 34306 34336 34341):=by rfl
theorem aao:Q9 (t4 34346 34432 34433 34434):=by rfl
theorem ZO:Q9 (t4 34464 34469 34474 38400):=by rfl
theorem abh:Q9 (t4 38401 38402 38432 38437):=by rfl
theorem Zh:Q9 (t4 38442 39936 39937 39938):=by rfl
theorem ab4:Q9 (t4 39968 39973 39978 65536):=by rfl
theorem Zz:Q9 (t4 65537 65538 65541 65542):=by rfl
theorem X7:Q9 (t4 65546 65552 65553 65554):=by rfl
theorem aas:Q9 (t4 65557 65558 65562 65600):=by rfl
theorem ach:Q9 (t4 65601 65602 65605 65606):=by rfl
theorem Y0:Q9 (t4 65610 65616 65617 65618):=by rfl
theorem XK:Q9 (t4 65621 65622 65626 65792):=by rfl
theorem YN:Q9 (t4 65793 65794 65797 65798):=by rfl
theorem XR:Q9 (t4 65802 65808 65809 65810):=by rfl
theorem aaS:Q9 (t4 65813 65814 65818 65856):=by rfl
theorem ZJ:Q9 (t4 65857 65858 65861 65862):=by rfl
theorem Ye:Q9 (t4 65866 65872 65873 65874):=by rfl
theorem Xj:Q9 (t4 65877 65878 65882 66048):=by rfl
theorem UY:Q9 (t4 66049 66050 66080 66085):=by rfl
theorem TY:Q9 (t4 66090 66304 66305 66306):=by rfl
theorem Vd:Q9 (t4 66336 66341 66346 67072):=by rfl
theorem Ui:Q9 (t4 67073 67074 67104 67109):=by rfl
theorem Tu:Q9 (t4 67114 67136 67137 67138):=by rfl
theorem Vx:Q9 (t4 67168 67173 67178 69120):=by rfl
theorem VH:Q9 (t4 69121 69122 69152 69157):=by rfl
theorem TP:Q9 (t4 69162 72192 72193 72194):=by rfl
theorem VR:Q9 (t4 72224 72229 72234 98304):=by rfl
theorem Sf:Q9 (t4 98305 98306 98309 98310):=by rfl
theorem R0:Q9 (t4 98314 98320 98321 98322):=by rfl
theorem UH:Q9 (t4 98325 98326 98330 98368):=by rfl
theorem TQ:Q9 (t4 98369 98370 98373 98374):=by rfl
theorem Va:Q9 (t4 98378 98384 98385 98386):=by rfl
theorem UE:Q9 (t4 98389 98390 98394 98432):=by rfl
theorem SA:Q9 (t4 98433 98434 98437 98438):=by rfl
theorem Tg:Q9 (t4 98442 98448 98449 98450):=by rfl
theorem VI:Q9 (t4 98453 98454 98458 98496):=by rfl
theorem VW:Q9 (t4 98497 98498 98501 98502):=by rfl
theorem Vt:Q9 (t4 98506 98512 98513 98514):=by rfl
theorem Uk:Q9 (t4 98517 98518 98522 98816):=by rfl
theorem VK:Q9 (t4 98817 98818 98848 98853):=by rfl
theorem RK:Q9 (t4 98858 98944 98945 98946):=by rfl
theorem Uc:Q9 (t4 98976 98981 98986 99328):=by rfl
theorem Tp:Q9 (t4 99329 99330 99360 99365):=by rfl
theorem UW:Q9 (t4 99370 99392 99393 99394):=by rfl
theorem Vp:Q9 (t4 99424 99429 99434 101376):=by rfl
theorem Vz:Q9 (t4 101377 101378 101408 101413):=by rfl
theorem Sc:Q9 (t4 101418 102912 102913 102914):=by rfl
theorem V4:Q9 (t4 102944 102949 102954 196608):=by rfl
theorem Sj:Q9 (t4 196609 196610 196613 196614):=by rfl
theorem Sg:Q9 (t4 196618 196624 196625 196626):=by rfl
theorem Ul:Q9 (t4 196629 196630 196634 196864):=by rfl
theorem TW:Q9 (t4 196865 196866 196869 196870):=by rfl
theorem V5:Q9 (t4 196874 196880 196881 196882):=by rfl
theorem Tf:Q9 (t4 196885 196886 196890 198144):=by rfl
theorem Sr:Q9 (t4 198145 198146 198176 198181):=by rfl
theorem TG:Q9 (t4 198186 229376 229377 229378):=by rfl
theorem VZ:Q9 (t4 229381 229382 229386 229392):=by rfl
theorem Um:Q9 (t4 229393 229394 229397 229398):=by rfl
theorem Vw:Q9 (t4 229402 229504 229505 229506):=by rfl
theorem Ts:Q9 (t4 229509 229510 229514 229520):=by rfl
theorem Vm:Q9 (t4 229521 229522 229525 229526):=by rfl
theorem U0:Q9 (t4 229530 230400 230401 230402):=by rfl
theorem UO:Q9 (t4 230432 230437 230442 294912):=by rfl
theorem TA:Q9 (t4 294913 294914 294917 294918):=by rfl
theorem V8:Q9 (t4 294922 294928 294929 294930):=by rfl
theorem Wa:Q9 (t4 294933 294934 294938 295168):=by rfl
theorem UA:Q9 (t4 295169 295170 295173 295174):=by rfl
theorem UG:Q9 (t4 295178 295184 295185 295186):=by rfl
theorem Vh:Q9 (t4 295189 295190 295194 296448):=by rfl
theorem To:Q9 (t4 296449 296450 296480 296485):=by rfl
theorem UR:Q9 (t4 296490 360448 360449 360450):=by rfl
theorem VN:Q9 (t4 360453 360454 360458 360464):=by rfl
theorem Sp:Q9 (t4 360465 360466 360469 360470):=by rfl
theorem Ut:Q9 (t4 360474 360512 360513 360514):=by rfl
theorem TZ:Q9 (t4 360517 360518 360522 360528):=by rfl
theorem TI:Q9 (t4 360529 360530 360533 360534):=by rfl
theorem Vi:Q9 (t4 360538 360960 360961 360962):=by rfl
theorem SS:Q9 (t4 360992 360997 361002 425984):=by rfl
theorem Sk:Q9 (t4 425985 425986 425989 425990):=by rfl
theorem UP:Q9 (t4 425994 426000 426001 426002):=by rfl
theorem VD:Q9 (t4 426005 426006 426010 426112):=by rfl
theorem T0:Q9 (t4 426113 426114 426117 426118):=by rfl
theorem Vl:Q9 (t4 426122 426128 426129 426130):=by rfl
theorem Ud:Q9 (t4 426133 426134 426138 427008):=by rfl
theorem V9:Q9 (t4 427009 427010 427040 427045):=by rfl
theorem Vr:Q9 (t4 427050 458752 458753 458754):=by rfl
theorem RT:Q9 (t4 458757 458758 458762 458768):=by rfl
theorem Ve:Q9 (t4 458769 458770 458773 458774):=by rfl
theorem SM:Q9 (t4 458778 458816 458817 458818):=by rfl
theorem U8:Q9 (t4 458821 458822 458826 458832):=by rfl
theorem Ux:Q9 (t4 458833 458834 458837 458838):=by rfl
theorem VC:Q9 (t4 458842 459264 459265 459266):=by rfl
theorem RO:Q9 (t4 459296 459301 459306 884736):=by rfl
theorem V3:Q9 (t4 884737 884738 884741 884742):=by rfl
theorem Sl:Q9 (t4 884746 884752 884753 884754):=by rfl
theorem SH:Q9 (t4 884757 884758 884762 983040):=by rfl
theorem SY:Q9 (t4 983041 983042 983045 983046):=by rfl
theorem UQ:Q9 (t4 983050 983056 983057 983058):=by rfl
theorem TJ:Q9 (t4 983061 983062 983066 1277952):=by rfl
theorem RR:Q9 (t4 1277953 1277954 1277957 1277958):=by rfl
theorem Th:Q9 (t4 1277962 1277968 1277969 1277970):=by rfl
theorem Uq:Q9 (t4 1277973 1277974 1277978 1474560):=by rfl
theorem SU:Q9 (t4 1474561 1474562 1474565 1474566):=by rfl
theorem Tx:Q9 (t4 1474570 1474576 1474577 1474578):=by rfl
theorem Sw:Q9 (t4 1474581 1474582 1474586 1769472):=by rfl
theorem Tq:Q9 (t4 1769473 1769474 1769477 1769478):=by rfl
theorem SZ:Q9 (t4 1769482 1769488 1769489 1769490):=by rfl
theorem Tj:Q9 (t4 1769493 1769494 1769498 1867776):=by rfl
theorem UI:Q9 (t4 1867777 1867778 1867781 1867782):=by rfl
theorem Uf:Q9 (t4 1867786 1867792 1867793 1867794):=by rfl
theorem Sv:Q9 (t4 1867797 1867798 1867802 2097360):=by rfl
theorem VU:Q9 (t4 2097361 2097362 2097365 2097370):=by rfl
theorem UC:Q9 (t4 2097616 2097617 2097618 2097621):=by rfl
theorem SP:Q9 (t4 2097622 2097626 2195664 2195665):=by rfl
theorem UU:Q9 (t4 2195666 2195669 2195670 2195674):=by rfl
theorem Uz:Q9 (t4 4194640 4194641 4194642 4194645):=by rfl
theorem Ta:Q9 (t4 4194650 4194768 4194769 4194770):=by rfl
theorem Si:Q9 (t4 4194773 4194774 4194778 4260176):=by rfl
theorem RI:Q9 (t4 4260177 4260178 4260181 4260182):=by rfl
theorem RS:Q9 (t4 4260186 6291856 6291857 6291858):=by rfl
theorem Ug:Q9 (t4 6291861 6291866 6291920 6291921):=by rfl
theorem Tn:Q9 (t4 6291922 6291925 6291926 6291930):=by rfl
theorem Vk:Q9 (t4 6324624 6324625 6324626 6324629):=by rfl
theorem U6:Q9 (t2 6324630 6324634):=by rfl
end
theorem qu0:QT WQ:=.n (.n (.n (.p qc0) (.p qc1)) (.n (.p qc2) (.n (.p qc3) (.p qc4)))) (.n (.n (.p qc5) (.n (.p qc6) (.p qc7))) (.n (.p qc8) (.n (.p qc9) (.p Xd))))
theorem qu1:QT Wm:=.n (.n (.n (.p ZN) (.p ZQ)) (.n (.p aaV) (.n (.p X4) (.p Xs)))) (.n (.n (.p abP) (.n (.p acm) (.p ack))) (.n (.p Y4) (.n (.p aaN) (.p YB))))
theorem qu2:QT WT:=.n (.n (.n (.p abF) (.p Z8)) (.n (.p XD) (.n (.p YT) (.p YO)))) (.n (.n (.p aap) (.n (.p acv) (.p XM))) (.n (.p aag) (.n (.p XS) (.p YI))))
theorem qu3:QT Wj:=.n (.n (.n (.p aaf) (.p abp)) (.n (.p acd) (.n (.p Za) (.p aa3)))) (.n (.n (.p aa1) (.n (.p Ys) (.p Xb))) (.n (.p Zb) (.n (.p aaX) (.p Zv))))
theorem qu4:QT Wy:=.n (.n (.n (.p aaq) (.p Yl)) (.n (.p Xz) (.n (.p aa5) (.p abT)))) (.n (.n (.p Zt) (.n (.p Yd) (.p abl))) (.n (.p Zf) (.n (.p Z6) (.p YW))))
theorem qu5:QT Wq:=.n (.n (.n (.p abr) (.p Yk)) (.n (.p aaw) (.n (.p abZ) (.p ZU)))) (.n (.n (.p XY) (.n (.p abL) (.p YQ))) (.n (.p Yz) (.n (.p Zj) (.p Xm))))
theorem qu6:QT Wh:=.n (.n (.n (.p abc) (.p YX)) (.n (.p ZW) (.n (.p Yn) (.p Yu)))) (.n (.n (.p XO) (.n (.p YF) (.p aaT))) (.n (.p Y6) (.n (.p Yj) (.p aah))))
theorem qu7:QT Wo:=.n (.n (.n (.p XL) (.p ZR)) (.n (.p YE) (.n (.p abA) (.p aaP)))) (.n (.n (.p Yx) (.n (.p aao) (.p ZO))) (.n (.p abh) (.n (.p Zh) (.p ab4))))
theorem qu8:QT WA:=.n (.n (.n (.p Zz) (.p X7)) (.n (.p aas) (.n (.p ach) (.p Y0)))) (.n (.n (.p XK) (.n (.p YN) (.p XR))) (.n (.p aaS) (.n (.p ZJ) (.p Ye))))
theorem qu9:QT Wn:=.n (.n (.n (.p Xj) (.p UY)) (.n (.p TY) (.n (.p Vd) (.p Ui)))) (.n (.n (.p Tu) (.n (.p Vx) (.p VH))) (.n (.p TP) (.n (.p VR) (.p Sf))))
theorem aav:QT Nk:=.n (.n (.n (.p R0) (.p UH)) (.n (.p TQ) (.n (.p Va) (.p UE)))) (.n (.n (.p SA) (.n (.p Tg) (.p VI))) (.n (.p VW) (.n (.p Vt) (.p Uk))))
theorem abn:QT QI:=.n (.n (.n (.p VK) (.p RK)) (.n (.p Uc) (.n (.p Tp) (.p UW)))) (.n (.n (.p Vp) (.n (.p Vz) (.p Sc))) (.n (.p V4) (.n (.p Sj) (.p Sg))))
theorem abm:QT Hk:=.n (.n (.n (.p Ul) (.p TW)) (.n (.p V5) (.n (.p Tf) (.p Sr)))) (.n (.n (.p TG) (.n (.p VZ) (.p Um))) (.n (.p Vw) (.n (.p Ts) (.p Vm))))
theorem XQ:QT K5:=.n (.n (.n (.p U0) (.p UO)) (.n (.p TA) (.n (.p V8) (.p Wa)))) (.n (.n (.p UA) (.n (.p UG) (.p Vh))) (.n (.p To) (.n (.p UR) (.p VN))))
theorem YS:QT N7:=.n (.n (.n (.p Sp) (.p Ut)) (.n (.p TZ) (.n (.p TI) (.p Vi)))) (.n (.n (.p SS) (.n (.p Sk) (.p UP))) (.n (.p VD) (.n (.p T0) (.p Vl))))
theorem aab:QT Nd:=.n (.n (.n (.p Ud) (.p V9)) (.n (.p Vr) (.n (.p RT) (.p Ve)))) (.n (.n (.p SM) (.n (.p U8) (.p Ux))) (.n (.p VC) (.n (.p RO) (.p V3))))
theorem ZX:QT Mf:=.n (.n (.n (.p Sl) (.p SH)) (.n (.p SY) (.n (.p UQ) (.p TJ)))) (.n (.n (.p RR) (.n (.p Th) (.p Uq))) (.n (.p SU) (.n (.p Tx) (.p Sw))))
theorem Zl:QT Lf:=.n (.n (.n (.p Tq) (.p SZ)) (.n (.p Tj) (.n (.p UI) (.p Uf)))) (.n (.n (.p Sv) (.n (.p VU) (.p UC))) (.n (.p SP) (.n (.p UU) (.p Uz))))
theorem aai:QT Nl:=.n (.n (.n (.p Ta) (.p Si)) (.n (.p RI) (.p RS))) (.n (.n (.p Ug) (.p Tn)) (.n (.p Vk) (.p U6)))
theorem zI:QT zd:=(.n (.n (.n (.n qu0 qu1) (.n qu2 qu3)) (.n (.n qu4 qu5) (.n qu6 (.n qu7 qu8)))) (.n (.n (.n qu9 aav) (.n abn (.n abm XQ))) (.n (.n YS aab) (.n ZX (.n Zl aai)))))
variable {P:ak}
theorem Gn(P:ak):au (fx P) 30 gx (rC (aO 14)) (B9.take 2):=by
 have hs:aA (fx P) gx:=⟨hT,odr rfl⟩
 have h:aw P 28 (aO 14):=cH P 0 14
 unfold rC
 refine fq (js:=[2,3,4]) hs (.cons rfl fb (.cons rfl ic (.cons rfl AB .nil))) ?_ ?_ ?_ ?_ ?_ ?_ ?_ ?_ (lq (js:=[2,3,4]) hs (.cons rfl fb (.cons rfl ic (.cons rfl AB .nil))) (odr rfl)) ?_ ?_ _
 symm
 refine ay (i:=12) rfl lO (j7 P) (oV h) ?_ ao (.inl (mR P)) _ _
 symm
 refine kg hT ?_ rfl rfl (List.cons_ne_nil _ _) (Nat.le_of_ble_eq_true rfl) _
 refine bF ?_ ?_ ?_
 symm
 refine bF ?_ ?_ ?_
 symm
 refine bF ?_ ?_ ?_
 symm
 refine bF ?_ ?_ ?_
 symm
 refine bF ?_ ?_ ?_
 symm
 exact dD _
 exact gI
 symm
 left
 symm
 refine bo hT hD (bz h) ?_ ?_ Cc rfl (ag am ao) rfl (lsp rfl)
 refine ax hT ?_ fQ (dG P) rfl _
 symm
 exact rfl
 exact rfl
 exact rfl
 exact (.inr rfl)
 exact rfl
 exact rfl
 exact rfl
 kernel_rfl
noncomputable def fz:Stmt:=match B9[2]? with | some s=>s | none=>.Pass ⟨0,0,0,0⟩
noncomputable def eH:Stmt->List Stmt | .For (body:=b) ..=>b | _=>[]
noncomputable def qJ:Stmt->List Expr | .For (target:=.Tuple (elts:=ts) ..) ..=>ts | _=>[]
noncomputable def iR:Stmt->Expr | .For (iter:=e) ..=>e | _=>.Name (Str.ofString "") ⟨0,0,0,0⟩
theorem Cu(P:ak):au (fx P) 30 gx (pV (aO 14)) ((eH fz).take 5):=by
 have hs:aA (fx P) gx:=⟨hT,odr rfl⟩
 have h:aw P 28 (aO 14):=cH P 0 14
 unfold pV
 refine fq (js:=[9,10]) hs (.cons rfl fh (.cons rfl mD .nil)) ?_ ?_ ?_ ?_ ?_ ?_ ?_ ?_ (lq (js:=[9,10]) hs (.cons rfl fh (.cons rfl mD .nil)) (odr rfl)) ?_ ?_ _
 symm
 refine ax hT ?_ T8 (jW P) rfl _
 refine ax hT ?_ jY (gb P) rfl _
 symm
 refine ay (i:=13) rfl Ce (tS P) (Lr h) ?_ (ag aG ao) (.inl (y9 P)) _ _
 symm
 refine aZ ?_ ?_ ?_ ?_ _
 refine gc ?_ ?_
 refine bd (kM hT) ?_ ?_ rfl _
 symm
 refine bK (ck (cJ P)) ?_ ?_ _
 symm
 refine dR (vs':=[(5,.blk),(18,.blk)]) ?_ _
 refine dU.mk (x:=fx P) (vs:=gx) (vs':=[(5,.blk),(18,.blk)]) (sl:=[0,0]) hT hD ?_ ?_ ?_ ?_ rfl (.blk T5 (.blk dq .nil)) (odr rfl) rfl
 symm
 exact eC hT rfl dq _
 exact jE
 symm
 exact cR rfl dq _
 symm
 refine gc ?_ ?_
 refine cL ?_ ?_
 symm
 refine cL ?_ ?_
 refine dE ?_ rfl
 symm
 exact fu _
 exact gR _
 exact rg _
 symm
 left
 symm
 refine aZ ?_ ?_ ?_ ?_ _
 symm
 refine bg ?_ ?_ rfl _
 refine bo hT hD (bz h) ?_ ?_ xw rfl (ag bS ao) rfl (lsp rfl)
 symm
 refine bo hT hD (bz h) ?_ ?_ CU rfl (ag aG ao) rfl (lsp rfl)
 refine ax hT ?_ fQ (dG P) rfl _
 symm
 refine bg ?_ ?_ rfl _
 refine ay (i:=14) rfl BO (tH P) (Fa h) ?_ (ag am ao) (.inl (yg P)) _ _
 symm
 left
 symm
 refine aZ ?_ ?_ ?_ ?_ _
 symm
 refine bg ?_ ?_ rfl _
 refine cZ PySem.F.slot_list_extend sf wR ?_ ?_ rfl (ag gn ao) rfl (lsp rfl)
 refine ax hT ?_ gy (eM P) rfl _
 symm
 refine bg ?_ ?_ rfl _
 refine ay (i:=15) rfl CE (tV P) (zu h) ?_ (ag am (ag am (ag am (ag bL ao)))) (.inl (ut P)) _ _
 symm
 refine bg ?_ ?_ rfl _
 refine ay (i:=16) rfl CI (vq P) (EG h) ?_ (ag am (ag am (ag am ao))) (.inl (x9 P)) _ _
 symm
 refine aZ ?_ ?_ ?_ ?_ _
 symm
 refine bg ?_ ?_ rfl _
 refine cZ PySem.F.slot_list_append cI dz ?_ ?_ rfl (ag am ao) rfl (lsp rfl)
 refine ax hT ?_ gy (eM P) rfl _
 symm
 refine bg ?_ ?_ rfl _
 refine ay (i:=17) rfl DE (ub P) (Bf h) ?_ (ag am (ag am (ag am (ag bL ao)))) (.inl (uy P)) _ _
 symm
 refine bg ?_ ?_ rfl _
 refine ay (i:=18) rfl Bn (vb P) (E2 h) ?_ (ag am (ag am ao)) (.inl (yn P)) _ _
 symm
 left
 symm
 refine bg ?_ ?_ rfl _
 refine ay (i:=19) rfl oO (lN P) (pT h) ?_ (ag am (ag am (ag am (ag iB (ag aG (ag am (ag bL ao))))))) (.inl (mJ P)) _ _
 symm
 refine dH ?_ ?_ ?_ _
 symm
 left
 symm
 refine bK (ck (cJ P)) ?_ ?_ _
 symm
 refine aZ ?_ ?_ ?_ ?_ _
 refine gc ?_ ?_
 refine bd (cy hT) ?_ ?_ rfl _
 refine ax hT ?_ EE (sP P) rfl _
 symm
 refine gc ?_ ?_
 refine bd (cy hT) ?_ ?_ rfl _
 refine ax hT ?_ gy (eM P) rfl _
 symm
 exact gR _
 symm
 exact rfl
 exact rfl
 exact rfl
 exact (.inl rfl)
 exact rfl
 exact rfl
 exact rfl
 kernel_rfl
theorem AC(P:ak):au (fx P) 30 gx (mI (aO 14)) ((eH fz).drop 5):=by
 have hs:aA (fx P) gx:=⟨hT,odr rfl⟩
 have h:aw P 28 (aO 14):=cH P 0 14
 unfold mI
 refine aZ ?_ ?_ ?_ ?_ _
 refine fJ ?_ _
 refine dE ?_ rfl
 refine ay (i:=20) rfl BS (vY P) (Fs h) ?_ (ag am (ag am (ag jG ao))) (.inl (xC P)) _ _
 symm
 refine bK (ck (cJ P)) ?_ ?_ _
 symm
 refine dR (vs':=[(5,.blk),(18,.blk)]) ?_ _
 refine dU.mk (x:=fx P) (vs:=gx) (vs':=[(5,.blk),(18,.blk)]) (sl:=[0,0]) hT hD ?_ ?_ ?_ ?_ rfl (.blk T5 (.blk dq .nil)) (odr rfl) rfl
 symm
 exact eC hT rfl dq _
 exact jE
 symm
 exact cR rfl dq _
 symm
theorem BC(P:ak):au (fx P) 30 gx (pv (aO 14)) (B9.drop 3):=by
 have hs:aA (fx P) gx:=⟨hT,odr rfl⟩
 have h:aw P 28 (aO 14):=cH P 0 14
 unfold pv
 refine aW ?_ _
 refine dO ez ?_ ?_ rfl _
 refine ax hT ?_ vm (mK P) rfl _
 symm
theorem Ru(P:ak):hO (fx P) 30 gx zT (qJ fz):=by
 have hs:aA (fx P) gx:=⟨hT,odr rfl⟩
 unfold zT
 refine bt ?_ ?_ rfl
 symm
 refine bt ?_ ?_ rfl
 symm
 refine bt ?_ ?_ rfl
 symm
 exact dJ
theorem PL(P:ak):aK (fx P) 30 gx (ah 1) (iR fz):=by
 exact kL rfl pn _
theorem VF(c:Value->Bool)(la:Addr):cC (rC (aO 14)) .e 0 (.mk [] []) ([.int (.lit (.ofNat 0)),.old (.ref la)]++r9.tl) (wT c (ah 1) (cg (dW 0))) gw=c (.ref la):=by kernel_rfl
theorem Vf(c:Value->Bool)(la:Addr):cC (rC (aO 14)) .e 0 (.mk [] []) ([.int (.lit (.ofNat 1)),.old (.ref la)]++r9.tl) (wT c (ah 1) (cg (dW 1))) gw=c (.ref la):=by kernel_rfl
theorem U9(c:Value->Bool)(la:Addr):cC (rC (aO 14)) .e 0 (.mk [] []) ([.int (.lit (.ofNat 2)),.old (.ref la)]++r9.tl) (wT c (ah 1) (cg (dW 2))) gw=c (.ref la):=by kernel_rfl
def MI(p:eh):Prop:=∃c,iA c zd=true/\p=cg (dW c)
set_option maxHeartbeats 1000000 in
theorem lF{c:Nat}(hc:iA c zd=true)(v:Nat->Int)(z:Int)(dv:Nat):zR (cg (dW c))=true/\(C1 (cC (pv (aO 14))) (cg (dW c)) (ji v (cg (dW c)).cs.length 0)=true/\nP (sC (cg (dW c))) (cC (mI (aO 14))) (cg (dW c)) (ji v (cg (dW c)).cs.length 0)=true)/\∀who∈[0,1,2],dv∈dN->∃p,MI p/\xx (sC (cg (dW c))) zT (cC (pV (aO 14))) (cg (dW c)) p who dv (ji v (cg (dW c)).cs.length 0) z=true:=by
 have h:=ng (zI v z dv) hc
 unfold yX at h
 rw [x4,u8] at h
 generalize hE:C1 (cC (pv (aO 14))) (cg (dW c)) (ji v (cg (dW c)).cs.length 0)=bE at h
 generalize hM:nP (sC (cg (dW c))) (cC (mI (aO 14))) (cg (dW c)) (ji v (cg (dW c)).cs.length 0)=bM at h
 obtain ⟨h1,h⟩:=aJ h
 obtain ⟨h2,h⟩:=aJ h
 refine ⟨h1,Bool.and_eq_true_iff.mp h2,fun who hw hd=>?_⟩
 have h3:=lm h who hw
 cases hb:EA (dW c) who with
 | true=>rw [hb] at h3; exact ⟨_,⟨c,hc,rfl⟩,h3⟩
 | false=>
  rw [hb] at h3
  have h4:=lm h3 dv hd
  unfold LU at h4
  rw [x4,bO] at h4
  obtain ⟨h5,h6⟩:=aJ h4
  rw [x4] at h6
  exact ⟨_,⟨_,h5,rfl⟩,h6⟩
theorem Ac{p:eh}(h:zR p=true):py p.P=true/\p.P.length<300:=by
 obtain ⟨a,b⟩:=Bool.and_eq_true_iff.mp h
 exact ⟨a,Nat.le_of_ble_eq_true b⟩
theorem Wl{n:Nat}(h:n<3):n∈[0,1,2]:=by
 exact (by decide:∀n<3,n∈[0,1,2]) n h
theorem U3:∃kd tp pos,B9=B9.take 2++.For (.Tuple (qJ fz) kd tp) (iR fz) ((eH fz).take 5++(eH fz).drop 5) [] pos::B9.drop 3:=⟨_,_,_,rfl⟩
set_option maxHeartbeats 1000000 in
theorem V2(P:ak):∀z,z<=2->pA (fx P) 30 gx B9 dN fun la=>[.int (.lit (.ofNat z)),.old (.ref la)]++r9.tl:=by
 intro z hz F la rows hrows mq ds A env h₁ L m s Q Eo Z En S Lo hQ
 rw [wO] at hrows Z S Lo hQ
 show wpAny (model (fx { P with tl:=P.tl++F }).prog (fx { P with tl:=P.tl++F }).w) A (execs B9 env) Q Eo s
 generalize ({ P with tl:=P.tl++F }:ak)=P' at *
 have st:∀(c:Value->Bool) (la:Addr),cC (rC (aO 14)) .e 0 (.mk [] []) ([.int (.lit (.ofNat z)),.old (.ref la)]++r9.tl) (wT c (ah 1) (cg (dW z))) gw=c (.ref la):=by
  match z,hz with
  | 0,_=>exact VF
  | 1,_=>exact Vf
  | 2,_=>exact U9
 have mz:iA z zd=true:=by
  match z,hz with
  | 0,_=>kernel_rfl
  | 1,_=>kernel_rfl
  | 2,_=>kernel_rfl
 obtain ⟨kd,tp,pos,eB⟩:=U3
 rw [eB]
 refine DT (l:=B9.take 2) (rest:=B9.drop 3) (ts:=qJ fz) (b1s:=(eH fz).take 5) (b2s:=(eH fz).drop 5) (e:=iR fz) (bB (Gn P')) (bB (BC P')) (Ru P') rfl rfl (bB (Cu P')) (bB (AC P')) rfl (Inv:=MI) (RowOk:=fun a b=>a<3/\b∈dN) (fun pat hi=>?_) (fun pat hi vals hv hg=>?_) (fun pat hi who deed hr z vals hv hg=>?_) (fun pat hi vals hv hg=>?_) (PL P') rfl ⟨z,mz,rfl⟩ st hrows mq Z En S Lo hQ
 ·obtain ⟨c,hc,rfl⟩:=hi
  exact Ac (lF hc (fun q0=>0) 0 0).1
 ·obtain ⟨c,hc,rfl⟩:=hi
  obtain ⟨v,hv'⟩:=vW vals
  rw [hv] at hv'
  have b:=(lF hc v 0 0).2.1.2
  rw [<- hv'] at b
  exact b
 ·obtain ⟨c,hc,rfl⟩:=hi
  obtain ⟨v,hv'⟩:=vW vals
  rw [hv] at hv'
  obtain ⟨p,a,b⟩:=(lF hc v z deed).2.2 who (Wl hr.1) hr.2
  rw [<- hv'] at b
  exact ⟨p,_,z,_,a,(by show (cg (dW c)).cs.length<vals.length+1; rw [hv]; exact Nat.lt_succ_self _),(by show ((vals++[z])[(cg (dW c)).cs.length]?).getD 0=z; rw [<- hv]; simp),nI hv hg,yl hv z,b⟩
 ·obtain ⟨c,hc,rfl⟩:=hi
  obtain ⟨v,hv'⟩:=vW vals
  rw [hv] at hv'
  have b:=(lF hc v 0 0).2.1.1
  rw [<- hv'] at b
  exact b
theorem abz(P:ak):iq (fx P) 31 (y0 dN) (.ref 1968):=BX hT hD (DY P) rfl rfl rfl rfl (gN rfl) (V2 P)
noncomputable def z9:kB:=y0 dN
end
end Internal.L
namespace Internal.L
open Internal.N
noncomputable section
structure GD where
 held:Bool
 w:List Nat
 cnt:Bool
def abB(n:Nat):Nat->List Nat:=@Nat.rec (fun q0=>Nat->List Nat) (fun q0=>[]) (fun q0 ih c=>@Bool.rec (fun q0=>List Nat) (Nat.sub (Nat.mod c 8) 1::ih (Nat.div c 8)) [] (Nat.beq c 0)) n
def ZP(l:List Nat):Nat:=@List.rec Nat (fun q0=>Nat) 0 (fun a q0 ih=>Nat.add (Nat.succ a) (Nat.mul 8 ih)) l
def dp(c:Nat):GD:=⟨Nat.beq (Nat.mod c 2) 1,abB 3 (Nat.div c 4),Nat.beq (Nat.mod (Nat.div c 2) 2) 1⟩
def acz(d:GD):Nat:=Nat.add (re d.held) (Nat.mul 2 (Nat.add (re d.cnt) (Nat.mul 2 (ZP d.w))))
def fG(d:GD)(k:GD->Bool):Bool:=fB d.held fun a=>fB d.cnt fun c=>vM d.w fun l=>k ⟨a,l,c⟩
theorem yL(d:GD)(k:GD->Bool):fG d k=k d:=by unfold fG; rw [oX,oX,kT]
noncomputable def sD(x:Nat):Bool:=Nat.ble (Nat.succ x) 3
def sJ(d:GD)(who:Nat):Bool:=dS who d.w||dS (Nat.add 3 who) d.w
def Ue(l:List Nat):List Nat:=@List.rec Nat (fun q0=>List Nat) [] (fun a r ih=>@Bool.rec (fun q0=>List Nat) (a::ih) r (sD a)) l
def Vu(d:GD)(who deed o:Nat):GD:=
 bI (sJ d who) d
 (bI (Nat.beq deed 40) (bI d.held ⟨d.held,du d.w [who],d.cnt⟩ ⟨true,d.w,d.cnt⟩)
 (bI (Nat.beq deed 135) (bI d.held (bI (tU (mX sD d.w)) ⟨false,d.w,d.cnt⟩ ⟨d.held,Ue d.w,d.cnt⟩) d)
 (bI (Nat.beq deed 64) (bI (Nat.beq o 2) ⟨d.held,du d.w [Nat.add 3 who],d.cnt⟩ d)
 (bI (Nat.beq deed 7||Nat.beq deed 31) (bI (Nat.beq o 0) d (bI (Nat.beq o 1) ⟨d.held,mX sD d.w,true⟩ ⟨d.held,d.w,true⟩)) d))))
def dM(d:GD):eh:=
 let h:=re d.held; let c:=re d.cnt; let nw:=tC d.w
 let k0:=Nat.add 14 h; let r0:=Nat.add k0 c; let b:=Nat.add r0 nw; let e0:=Nat.add b 5; let p0:=Nat.add (Nat.add e0 h) c; let q:=Nat.add p0 nw; let e:=Nat.add q 5
 let tv:PV:=bI d.cnt (.int 1) (.int 0)
 let one (t f:List PO):List PO:=bI d.held t f
 ⟨du [.inst 2 2,.ds [(120,.bool d.held),(94,.own 3),(77,bI d.cnt (.int 0) (fS 0)),(78,.own 4)],
  .idict [(108,.unk),(105,.unk),(143,.unk),(33,.unk),(99,.unk),(162,.unk),(85,.own 5),(175,.own 6),(124,.unk),(150,.none),(145,.unk)],
  .list (et fS (mX sD d.w)),.list (et (fun x=>fS (Nat.sub x 3)) (mX (fun x=>!sD x) d.w)),.inst 6 7,.inst 7 8,
  .idict [(36,.own 9),(116,.own 10),(156,.own 11)],.idict [(143,.own 12),(8,.own 13),(37,.unk)],
  .list (bI d.held [.own 14] []),bI d.cnt (.dk k0 (.int 0)) .d0,.list (et (fun i=>.own (Nat.add r0 i)) (iH nw 0)),.inst 10 b,.list (et (fun i=>.own (Nat.add (Nat.succ b) i)) [0,1,2,3])]
  (du (bI d.held [.tuple [.str 28,fS 0,.own e0]] []) (du (bI d.cnt [.tuple [.str 28,fS 1,.own (Nat.add e0 h)]] [])
  (du (yk (fun i x=>.tuple [.own (Nat.add p0 i),fS (bI (sD x) x (Nat.sub x 3))]) 0 d.w)
  (du [.idict [(18,.own q),(100,tv)]]
  (du (et (fun i=>.inst 8 (Nat.add (Nat.succ q) i)) [0,1,2,3])
  (du (bI d.held [.tuple []] []) (du (bI d.cnt [.tuple []] [])
  (du (yk (fun i x=>.tuple [.str 28,fS (bI (sD x) 0 1),.own (Nat.add e i)]) 0 d.w)
  (du [.list []]
  (du (et (fun g=>.idict [(123,fS g),(74,.unk),(98,.str (bI (sD g&&(dS g d.w||dS (Nat.add 3 g) d.w)) 107 96)),(111,.none)]) [0,1,2,3])
  (et (fun q0=>.tuple []) (iH nw 0)))))))))))),bI d.cnt [true,true] [true],[none,(some (.own 0)),(some (.own 1)),none,none,none,none,none,none,none,none]⟩
noncomputable def ft:List Nat:=[40,135,7,31,64,146]
noncomputable def Wg:NT:=(.n (.n (.one 0) 1 (.one 1)) 2 (.n (.one 2) 3 (.one 3)))
noncomputable def W4:NT:=(.n (.n (.one 5) 7 (.one 7)) 9 (.n (.one 9) 11 (.one 11)))
noncomputable def WC:NT:=(.n (.n (.one 13) 15 (.one 15)) 18 (.n (.one 18) 19 (.one 19)))
noncomputable def Wf:NT:=(.n (.n (.one 22) 23 (.one 23)) 26 (.n (.one 26) 27 (.one 27)))
noncomputable def WI:NT:=(.n (.n (.one 41) 43 (.one 43)) 45 (.n (.one 45) 47 (.one 47)))
noncomputable def WJ:NT:=(.n (.n (.one 55) 59 (.one 59)) 69 (.n (.one 69) 71 (.one 71)))
noncomputable def W5:NT:=(.n (.n (.one 77) 79 (.one 79)) 83 (.n (.one 83) 91 (.one 91)))
noncomputable def Wx:NT:=(.n (.n (.one 101) 103 (.one 103)) 105 (.n (.one 105) 107 (.one 107)))
noncomputable def WM:NT:=(.n (.n (.one 115) 119 (.one 119)) 139 (.n (.one 139) 143 (.one 143)))
noncomputable def W0:NT:=(.n (.n (.one 150) 151 (.one 151)) 154 (.n (.one 154) 155 (.one 155)))
noncomputable def QZ:NT:=(.n (.n (.one 167) 175 (.one 175)) 178 (.n (.one 178) 179 (.one 179)))
noncomputable def Mt:NT:=(.n (.n (.one 186) 187 (.one 187)) 199 (.n (.one 199) 203 (.one 203)))
noncomputable def RF:NT:=(.n (.n (.one 210) 211 (.one 211)) 214 (.n (.one 214) 215 (.one 215)))
noncomputable def PR:NT:=(.n (.n (.one 333) 335 (.one 335)) 347 (.n (.one 347) 361 (.one 361)))
noncomputable def Mh:NT:=(.n (.n (.one 363) 375 (.one 375)) 431 (.n (.one 431) 443 (.one 443)))
noncomputable def LB:NT:=(.n (.n (.one 459) 471 (.one 471)) 557 (.n (.one 557) 559 (.one 559)))
noncomputable def GX:NT:=(.n (.n (.one 571) 613 (.one 613)) 615 (.n (.one 615) 627 (.one 627)))
noncomputable def KD:NT:=(.n (.n (.one 655) 667 (.one 667)) 711 (.n (.one 711) 723 (.one 723)))
noncomputable def HI:NT:=(.n (.n (.one 809) 811 (.one 811)) 823 (.n (.one 823) 837 (.one 837)))
noncomputable def Kx:NT:=(.n (.n (.one 839) 851 (.one 851)) 907 (.n (.one 907) 919 (.one 919)))
noncomputable def Q8:NT:=(.n (.n (.one 935) 947 (.one 947)) 1103 (.n (.one 1103) 1115 (.one 1115)))
noncomputable def Px:NT:=(.n (.n (.one 1131) 1143 (.one 1143)) 1199 (.n (.one 1199) 1210 (.one 1210)))
noncomputable def HP:NT:=(.n (.n (.one 1211) 1227 (.one 1227)) 1238 (.n (.one 1238) 1239 (.one 1239)))
noncomputable def QV:NT:=(.n (.n (.one 1327) 1339 (.one 1339)) 1383 (.n (.one 1383) 1395 (.one 1395)))
noncomputable def LZ:NT:=(.n (.n (.one 1423) 1434 (.one 1434)) 1435 (.n (.one 1435) 1479 (.one 1479)))
noncomputable def NM:NT:=(.n (.n (.one 1490) 1491 (.one 1491)) 1579 (.n (.one 1579) 1591 (.one 1591)))
noncomputable def Po:NT:=(.n (.n (.one 1607) 1619 (.one 1619)) 1675 (.n (.one 1675) 1686 (.one 1686)))
noncomputable def ID:NT:=(.n (.n (.one 1687) 1703 (.one 1703)) 1714 (.n (.one 1714) 1715 (.one 1715)))
noncomputable def ux:NT:=(.n (.n (.n (.n Wg 5 (.n W4 13 WC)) 22 (.n (.n Wf 41 WI) 55 (.n WJ 77 W5))) 101 (.n (.n Wx 115 (.n WM 150 W0)) 167 (.n (.n QZ 186 Mt) 210 (.n RF 333 PR)))) 363 (.n (.n (.n Mh 459 (.n LB 571 GX)) 655 (.n (.n KD 809 HI) 839 (.n Kx 935 Q8))) 1131 (.n (.n Px 1211 (.n HP 1327 QV)) 1423 (.n (.n LZ 1490 NM) 1607 (.n Po 1687 ID)))))
def CS(R:bc):SV:=(j6 2 [2,1] (aD (af (aT (c4 R) aj) (af (rZ (cr (ar 120) (bj (.bool false)) (cr (ar 94) (bb aj) (cr (ar 77) (aM 0) (cr (ar 78) (bb aj) kA))))) aj))) aC)
def x3(R:bc):SX:=(gz (cC (bX (aY pk (ah 3) (dg (dY fC) (aP (ah 2) (ar 94)) (aP (ah 2) (ar 78)))) yA aC aC)) (gz (sN (bu 6) (fZ Wk (af (ah 1) (af (aP (aH (aH (ah 1) 175) 8) (ah 3)) (af (ah 4) (af (hZ (aY bH (ah 4) (ar 7)) (ah 5) (xd rx (aM 1))) aj)))))) (cC (bX (aY eu (ah 6) (aT (Wz R) (af (ah 2) (af (ah 3) (af (ah 4) (af (hZ (aY bH (ah 4) (ar 7)) (ah 5) (xd rx (aM 1))) aj)))))) bw aC aC))))
def kW(R:bc):SV:=(jU (bu 7) (aH (aH (ah 1) 175) 8) (bX (aY eu (gJ bH (aH (ah 7) 98) (ar 107)) (gJ pk (aH (ah 7) 123) (dg (dY fC) (aP (ah 2) (ar 94)) (aP (ah 2) (ar 78))))) bw aC aC) aC)
def y8(R:bc):SV:=(bC (gJ kc (aH (ah 1) 150) (bj .none)))
noncomputable def NZ:jR:=(bJ (bu 3) (bJ (bu 4) (bJ (bu 5) fo)))
def EL(p q:eh)(who deed:Nat)(ge:GI)(B:eZ):Bool:=NZ [.int (.lit (.ofNat who)),.str deed,.int ge] (ed (p.P++[.oit])) (p.P.length+1) (.mk B []) (ew p.rt) (fun H nx R loc=>x3 (aO 14) H nx R loc (jy q .oit p.P.length) gw)
def xq(p:eh)(vals:List Int):Bool:=cC (y8 (aO 14)) (ed (p.P++[.junk])) (p.P.length+1) (.mk (cW p.cs vals) []) (ew p.rt) vQ gw
def d8(d:GD)(who deed o:Nat)(ge:GI)(B:eZ):Bool:=fG (Vu d who deed o) fun e=>fN (acz e) fun c'=>@Bool.rec (fun q0=>Bool) false (fG (dp c') fun e'=>EL (dM d) (dM e') who deed ge B) (iA c' ux)
noncomputable def AO:GI:=.add (.var 2) (.mul (.lit (-1)) (.var 0))
def DK(d:GD)(who T S:Nat)(z:Int):Bool:=(d8 d who 40 0 (.var 1) [(0,.ofNat T),(z,z)]&&(d8 d who 135 0 (.var 1) [(0,.ofNat T),(z,z)]&&(d8 d who 146 0 (.var 1) [(0,.ofNat T),(z,z)]&&(d8 d who 31 0 (.var 1) [(0,.ofNat T),(z,z)]&&(d8 d who 64 1 (.var 1) [(0,.ofNat T),(z,z)]
   &&(d8 d who 7 0 (.var 1) [(0,.ofNat T),(.negSucc S,.negSucc S)]&&(d8 d who 7 1 (.var 1) [(0,.ofNat T),(0,0)]&&d8 d who 7 2 (.var 1) [(0,.ofNat T),(.ofNat (Nat.succ S),.ofNat (Nat.succ S))])))))))
def BD(d:GD)(who T C S:Nat)(z:Int):Bool:=(d8 d who 40 0 (.var 2) [(0,.ofNat C),(0,.ofNat T),(z,z)]&&(d8 d who 135 0 (.var 2) [(0,.ofNat C),(0,.ofNat T),(z,z)]&&(d8 d who 146 0 (.var 2) [(0,.ofNat C),(0,.ofNat T),(z,z)]
   &&(d8 d who 31 0 (.var 2) [(0,0),(0,.ofNat T),(z,z)]&&(d8 d who 31 1 (.var 2) [(1,1),(0,.ofNat T),(z,z)]&&(d8 d who 31 2 (.var 2) [(.ofNat (Nat.succ (Nat.succ S)),.ofNat (Nat.succ (Nat.succ S))),(0,.ofNat T),(z,z)]
   &&(d8 d who 64 1 (.var 2) [(0,0),(0,.ofNat T),(z,z)]&&(d8 d who 64 2 (.var 2) [(.ofNat (Nat.succ S),.ofNat (Nat.succ S)),(0,.ofNat T),(z,z)]
   &&(d8 d who 7 0 AO [(0,.ofNat C),(0,.ofNat T),(.negSucc S,.negSucc S)]&&(d8 d who 7 1 AO [(0,.ofNat C),(0,.ofNat T),(0,0)]&&d8 d who 7 2 AO [(0,.ofNat C),(0,.ofNat T),(.ofNat (Nat.succ S),.ofNat (Nat.succ S))]))))))))))
def oo(d:GD)(who T C S:Nat)(z:Int)(dv:Nat):Bool:=@Bool.rec (fun q0=>Bool) (@Bool.rec (fun q0=>Bool) (DK d who T S z) (BD d who T C S z) d.cnt)
 (@Bool.rec (fun q0=>Bool) (d8 d who dv 0 (.var 1) [(0,.ofNat T),(z,z)]) (d8 d who dv 0 (.var 2) [(0,.ofNat C),(0,.ofNat T),(z,z)]) d.cnt) (sJ d who)
theorem Ls(d:GD):(dM d).cs=@Bool.rec (fun q0=>List Bool) [true] [true,true] d.cnt:=by kernel_rfl
def dj(c T C S:Nat)(z:Int)(dv:Nat):Bool:=fG (dp c) fun d=>@Bool.rec (fun q0=>Bool) false (@Bool.rec (fun q0=>Bool) false (qD [0,1,2] fun who=>oo d who T C S z dv)
 (xq (dM d) (bI d.cnt [.ofNat C,.ofNat T] [.ofNat T])&&nP (sC (dM d)) (cC (kW (aO 14))) (dM d) (bI d.cnt [.ofNat C,.ofNat T] [.ofNat T]))) (zR (dM d))
theorem aa9:∀(T C S:Nat) (z:Int) (dv:Nat),cq (fun c=>dj c T C S z dv) Wg=true:=fun T C S z dv=>by kernel_rfl
theorem XW:∀(T C S:Nat) (z:Int) (dv:Nat),cq (fun c=>dj c T C S z dv) W4=true:=fun T C S z dv=>by kernel_rfl
theorem Zw:∀(T C S:Nat) (z:Int) (dv:Nat),cq (fun c=>dj c T C S z dv) WC=true:=fun T C S z dv=>by kernel_rfl
theorem ZC:∀(T C S:Nat) (z:Int) (dv:Nat),cq (fun c=>dj c T C S z dv) Wf=true:=fun T C S z dv=>by kernel_rfl
theorem aaY:∀(T C S:Nat) (z:Int) (dv:Nat),cq (fun c=>dj c T C S z dv) WI=true:=fun T C S z dv=>by kernel_rfl
theorem abE:∀(T C S:Nat) (z:Int) (dv:Nat),cq (fun c=>dj c T C S z dv) WJ=true:=fun T C S z dv=>by kernel_rfl
theorem Ze:∀(T C S:Nat) (z:Int) (dv:Nat),cq (fun c=>dj c T C S z dv) W5=true:=fun T C S z dv=>by kernel_rfl
theorem aay:∀(T C S:Nat) (z:Int) (dv:Nat),cq (fun c=>dj c T C S z dv) Wx=true:=fun T C S z dv=>by kernel_rfl
theorem aaH:∀(T C S:Nat) (z:Int) (dv:Nat),cq (fun c=>dj c T C S z dv) WM=true:=fun T C S z dv=>by kernel_rfl
theorem Zk:∀(T C S:Nat) (z:Int) (dv:Nat),cq (fun c=>dj c T C S z dv) W0=true:=fun T C S z dv=>by kernel_rfl
theorem Tc:∀(T C S:Nat) (z:Int) (dv:Nat),cq (fun c=>dj c T C S z dv) QZ=true:=fun T C S z dv=>by kernel_rfl
theorem Sz:∀(T C S:Nat) (z:Int) (dv:Nat),cq (fun c=>dj c T C S z dv) Mt=true:=fun T C S z dv=>by kernel_rfl
theorem Vj:∀(T C S:Nat) (z:Int) (dv:Nat),cq (fun c=>dj c T C S z dv) RF=true:=fun T C S z dv=>by kernel_rfl
theorem Ti:∀(T C S:Nat) (z:Int) (dv:Nat),cq (fun c=>dj c T C S z dv) PR=true:=fun T C S z dv=>by kernel_rfl
theorem TO:∀(T C S:Nat) (z:Int) (dv:Nat),cq (fun c=>dj c T C S z dv) Mh=true:=fun T C S z dv=>by kernel_rfl
theorem VO:∀(T C S:Nat) (z:Int) (dv:Nat),cq (fun c=>dj c T C S z dv) LB=true:=fun T C S z dv=>by kernel_rfl
theorem V0:∀(T C S:Nat) (z:Int) (dv:Nat),cq (fun c=>dj c T C S z dv) GX=true:=fun T C S z dv=>by kernel_rfl
theorem VY:∀(T C S:Nat) (z:Int) (dv:Nat),cq (fun c=>dj c T C S z dv) KD=true:=fun T C S z dv=>by kernel_rfl
theorem Ss:∀(T C S:Nat) (z:Int) (dv:Nat),cq (fun c=>dj c T C S z dv) HI=true:=fun T C S z dv=>by kernel_rfl
theorem UM:∀(T C S:Nat) (z:Int) (dv:Nat),cq (fun c=>dj c T C S z dv) Kx=true:=fun T C S z dv=>by kernel_rfl
theorem Su:∀(T C S:Nat) (z:Int) (dv:Nat),cq (fun c=>dj c T C S z dv) Q8=true:=fun T C S z dv=>by kernel_rfl
theorem UJ:∀(T C S:Nat) (z:Int) (dv:Nat),cq (fun c=>dj c T C S z dv) Px=true:=fun T C S z dv=>by kernel_rfl
theorem RV:∀(T C S:Nat) (z:Int) (dv:Nat),cq (fun c=>dj c T C S z dv) HP=true:=fun T C S z dv=>by kernel_rfl
theorem Ur:∀(T C S:Nat) (z:Int) (dv:Nat),cq (fun c=>dj c T C S z dv) QV=true:=fun T C S z dv=>by kernel_rfl
theorem SQ:∀(T C S:Nat) (z:Int) (dv:Nat),cq (fun c=>dj c T C S z dv) LZ=true:=fun T C S z dv=>by kernel_rfl
theorem Te:∀(T C S:Nat) (z:Int) (dv:Nat),cq (fun c=>dj c T C S z dv) NM=true:=fun T C S z dv=>by kernel_rfl
theorem Vc:∀(T C S:Nat) (z:Int) (dv:Nat),cq (fun c=>dj c T C S z dv) Po=true:=fun T C S z dv=>by kernel_rfl
theorem SR:∀(T C S:Nat) (z:Int) (dv:Nat),cq (fun c=>dj c T C S z dv) ID=true:=fun T C S z dv=>by kernel_rfl
theorem Dw(T C S:Nat)(z:Int)(dv:Nat):cq (fun c=>dj c T C S z dv) ux=true:=(cf (cf (cf (cf (aa9 T C S z dv) (cf (XW T C S z dv) (Zw T C S z dv))) (cf (cf (ZC T C S z dv) (aaY T C S z dv)) (cf (abE T C S z dv) (Ze T C S z dv)))) (cf (cf (aay T C S z dv) (cf (aaH T C S z dv) (Zk T C S z dv))) (cf (cf (Tc T C S z dv) (Sz T C S z dv)) (cf (Vj T C S z dv) (Ti T C S z dv))))) (cf (cf (cf (TO T C S z dv) (cf (VO T C S z dv) (V0 T C S z dv))) (cf (cf (VY T C S z dv) (Ss T C S z dv)) (cf (UM T C S z dv) (Su T C S z dv)))) (cf (cf (UJ T C S z dv) (cf (RV T C S z dv) (Ur T C S z dv))) (cf (cf (SQ T C S z dv) (Te T C S z dv)) (cf (Vc T C S z dv) (SR T C S z dv))))))
theorem FK(P:ak):au (fx P) 33 gZ (CS (aO 14)) (mh.take 1):=by
 have hs:aA (fx P) gZ:=⟨hT,odr rfl⟩
 have h:aw P 31 (aO 14):=cH P 3 14
 unfold CS
 refine fq (js:=[1,2]) hs (.cons rfl fb (.cons rfl ic .nil)) ?_ ?_ ?_ ?_ ?_ ?_ ?_ ?_ (lq (js:=[1,2]) hs (.cons rfl fb (.cons rfl ic .nil)) (odr rfl)) ?_ ?_ _
 symm
 refine ay (i:=8) rfl lO (j7 P) (oV h) ?_ ao (.inl (mR P)) _ _
 symm
 refine kg hT ?_ rfl rfl (List.cons_ne_nil _ _) (Nat.le_of_ble_eq_true rfl) _
 refine bF ?_ ?_ ?_
 symm
 refine bF ?_ ?_ ?_
 symm
 refine bF ?_ ?_ ?_
 symm
 refine bF ?_ ?_ ?_
 symm
 exact gI
 symm
 exact rfl
 exact rfl
 exact rfl
 exact (.inl rfl)
 exact rfl
 exact rfl
 exact rfl
 kernel_rfl
noncomputable def fy:Stmt:=match mh[1]? with | some s=>s | none=>.Pass ⟨0,0,0,0⟩
theorem By(P:ak):bT (fx P) 33 gZ (x3 (aO 14)) ((eH fy).take 3):=by
 have hs:aA (fx P) gZ:=⟨hT,odr rfl⟩
 have h:aw P 31 (aO 14):=cH P 3 14
 unfold x3
 refine cY (l:=[_]) ?_ ?_
 refine bB ?_
 refine aZ ?_ ?_ ?_ ?_ _
 refine bd (kM hT) ?_ ?_ rfl _
 symm
 refine bK (ck (cJ P)) ?_ ?_ _
 symm
 exact rg _
 symm
 refine cY (l:=[_]) ?_ ?_
 refine oh ?_ ?_ rfl (.inl rfl) rfl _
 symm
 refine d6 (i:=9) rfl MX (Bu P) (iM (Nat.le_of_ble_eq_true rfl) (U4 P)) ?_ (ag am (ag bS (ag am (ag iB ao)))) (z6 P) _ _
 symm
 refine ax hT ?_ T8 (jW P) rfl _
 refine ax hT ?_ jY (gb P) rfl _
 symm
 refine dH ?_ ?_ ?_ _
 symm
 refine mx lk ?_ _
 symm
 refine bB ?_
 refine aZ ?_ ?_ ?_ ?_ _
 refine bd (cy hT) ?_ ?_ rfl _
 symm
 refine ay (i:=10) rfl Nb (CY P) (K4 h) ?_ (ag am (ag am (ag am (ag iB ao)))) (.inl (zQ P)) _ _
 symm
 refine dH ?_ ?_ ?_ _
 symm
 refine mx lk ?_ _
 symm
theorem Ak(P:ak):au (fx P) 33 gZ (kW (aO 14)) ((eH fy).drop 3):=by
 have hs:aA (fx P) gZ:=⟨hT,odr rfl⟩
 have h:aw P 31 (aO 14):=cH P 3 14
 unfold kW
 refine fO ?_ ?_ ?_ ?_ rfl _
 symm
 refine ax hT ?_ T8 (jW P) rfl _
 refine ax hT ?_ jY (gb P) rfl _
 symm
 refine aZ ?_ ?_ ?_ ?_ _
 refine bd (cy hT) ?_ ?_ rfl _
 refine dO (jC hT (jM P)) ?_ ?_ rfl _
 refine ax hT ?_ uw (ly P) rfl _
 symm
 refine dO (kM hT) ?_ ?_ rfl _
 refine ax hT ?_ cG (k8 P) rfl _
 symm
 refine bK (ck (cJ P)) ?_ ?_ _
 symm
theorem Dg(P:ak):au (fx P) 33 gZ (y8 (aO 14)) (mh.drop 2):=by
 have hs:aA (fx P) gZ:=⟨hT,odr rfl⟩
 have h:aw P 31 (aO 14):=cH P 3 14
 unfold y8
 refine aW ?_ _
 refine dO ez ?_ ?_ rfl _
 refine ax hT ?_ vm (mK P) rfl _
 symm
theorem PC(P:ak):hO (fx P) 33 gZ NZ (qJ fy):=by
 have hs:aA (fx P) gZ:=⟨hT,odr rfl⟩
 unfold NZ
 refine bt ?_ ?_ rfl
 symm
 refine bt ?_ ?_ rfl
 symm
 refine bt ?_ ?_ rfl
 symm
 exact dJ
theorem Ld(P:ak):aK (fx P) 33 gZ (ah 0) (iR fy):=by
 exact kL rfl pn _
theorem stG(c:Value->Bool)(la:Addr):cC (CS (aO 14)) .e 0 (.mk [] []) ([.old (.ref la)]++MH.tl) (wT c (ah 0) (dM (dp 0))) gw=c (.ref la):=by kernel_rfl
def Ln(p:eh):Prop:=∃c,iA c ux=true/\p=dM (dp c)
theorem nu{c:Nat}(hc:iA c ux=true)(T C S:Nat)(z:Int)(dv:Nat):zR (dM (dp c))=true/\(xq (dM (dp c)) (bI (dp c).cnt [.ofNat C,.ofNat T] [.ofNat T])=true/\nP (sC (dM (dp c))) (cC (kW (aO 14))) (dM (dp c)) (bI (dp c).cnt [.ofNat C,.ofNat T] [.ofNat T])=true)/\∀who∈[0,1,2],oo (dp c) who T C S z dv=true:=by
 have h:=ng (Dw T C S z dv) hc
 unfold dj at h
 rw [yL] at h
 generalize hE:xq (dM (dp c)) (bI (dp c).cnt [.ofNat C,.ofNat T] [.ofNat T])=bE at h
 generalize hM:nP (sC (dM (dp c))) (cC (kW (aO 14))) (dM (dp c)) (bI (dp c).cnt [.ofNat C,.ofNat T] [.ofNat T])=bM at h
 obtain ⟨h1,h⟩:=aJ h
 obtain ⟨h2,h⟩:=aJ h
 exact ⟨h1,Bool.and_eq_true_iff.mp h2,lm h⟩
def um(d:GD)(who deed:Nat)(ge:GI)(B:eZ):Prop:=∃p,Ln p/\EL (dM d) p who deed ge B=true
theorem cw{d:GD}{who deed o:Nat}{ge:GI}{B:eZ}(h:d8 d who deed o ge B=true):um d who deed ge B:=by
 unfold d8 at h
 rw [yL,bO] at h
 obtain ⟨h1,h2⟩:=aJ h
 rw [yL] at h2
 exact ⟨_,⟨_,h1,rfl⟩,h2⟩
theorem lJ(z:Int):(∃S,z=.negSucc S)∨z=0∨∃S,z=.ofNat (Nat.succ S):=by
 cases z with
 | negSucc S=>exact .inl ⟨S,rfl⟩
 | ofNat n=>cases n with
  | zero=>exact .inr (.inl rfl)
  | succ S=>exact .inr (.inr ⟨S,rfl⟩)
theorem Cd{y:Int}(h:0<=y):y=0∨y=1∨∃S,y=.ofNat (Nat.succ (Nat.succ S)):=by
 rcases lJ y with ⟨S,rfl⟩ | e | ⟨S,rfl⟩
 ·exact absurd h (Int.not_le.mpr (Int.negSucc_lt_zero S))
 ·exact .inl e
 ·cases S with
  | zero=>exact .inr (.inl rfl)
  | succ S=>exact .inr (.inr ⟨S,rfl⟩)
theorem uW{vals:List Int}(h:vals.length=2):∃y t,vals=[y,t]:=by
 match vals,h with
 | [y,t],_=>exact ⟨y,t,rfl⟩
theorem w1{t z:Int}{b:Int × Int}{T:Nat}(ht:t=.ofNat T)(hb:b.1<=z/\z<=b.2):gC [(0,.ofNat T),b] [t,z]:=fun k q h=>by
 match k,h with
 | 0,h=>cases h; exact ⟨t,rfl,by rw [ht]; exact Int.natCast_nonneg T,by rw [ht]; exact Int.le_refl _⟩
 | 1,h=>cases h; exact ⟨z,rfl,hb⟩
 | k+2,h=>simp at h
theorem w2{y t z:Int}{a b:Int × Int}{T:Nat}(hy:a.1<=y/\y<=a.2)(ht:t=.ofNat T)(hb:b.1<=z/\z<=b.2):gC [a,(0,.ofNat T),b] [y,t,z]:=fun k q h=>by
 match k,h with
 | 0,h=>cases h; exact ⟨y,rfl,hy⟩
 | k+1,h=>exact w1 ht hb k q h
def sZ(d:GD)(who deed:Nat)(z:Int)(vals:List Int):Prop:=∃(ge:GI) (w:Int) (B:eZ),ge.ok (vals.length+1)/\ge.ev (vals++[w])=z/\gC B (vals++[w])/\B.length=vals.length+1/\um d who deed ge B
theorem UL{c:Nat}(hc:iA c ux=true){who deed:Nat}(hw:who∈[0,1,2])(hd:deed∈ft)(z:Int)(vals:List Int)(hl:vals.length=(dM (dp c)).cs.length)(hg:mj (dM (dp c)).cs vals) :
  sZ (dp c) who deed z vals:=by
 have hk:∀(T C S:Nat) (z:Int) (dv:Nat),oo (dp c) who T C S z dv=true:=fun T C S z dv=>(nu hc T C S z dv).2.2 who hw
 rw [Ls] at hl hg
 generalize dp c=d at hk hl hg ⊢
 obtain ⟨held,w,cnt⟩:=d
 have zz:∀{i:Int},0<=i->i=.ofNat i.toNat:=fun h=>(Int.toNat_of_nonneg h).symm
 cases cnt with
 | false=>
  have hl:vals.length=1:=hl
  obtain ⟨t,rfl⟩:=List.length_eq_one_iff.mp hl
  have ht:=zz (hg 0 t rfl rfl)
  have fin:∀(b:Int × Int),b.1<=z/\z<=b.2->um ⟨held,w,false⟩ who deed (.var 1) [(0,.ofNat t.toNat),b]->sZ ⟨held,w,false⟩ who deed z [t]:=fun b hb hs=>
   ⟨.var 1,z,_,(show 1<2 by decide),rfl,w1 ht hb,rfl,hs⟩
  have self:(z,z).1<=z/\z<=(z,z).2:=⟨Int.le_refl _,Int.le_refl _⟩
  cases hb:sJ ⟨held,w,false⟩ who with
  | true=>
   have h:=hk t.toNat 0 0 z deed
   unfold oo at h
   rw [hb] at h
   exact fin _ self (cw h)
  | false=>
   have hk:∀(S:Nat),DK ⟨held,w,false⟩ who t.toNat S z=true:=fun S=>by
    have h:=hk t.toNat 0 S z deed
    unfold oo at h
    rw [hb] at h
    exact h
   unfold DK at hk
   simp only [Bool.and_eq_true] at hk
   have h0:=hk 0
   simp only [ft,List.mem_cons,List.not_mem_nil,or_false] at hd
   rcases hd with rfl | rfl | rfl | rfl | rfl | rfl
   ·exact fin _ self (cw h0.1)
   ·exact fin _ self (cw h0.2.1)
   ·rcases lJ z with ⟨S,e⟩ | e | ⟨S,e⟩
    ·exact fin (.negSucc S,.negSucc S) ⟨by rw [e]; exact Int.le_refl _,by rw [e]; exact Int.le_refl _⟩ (cw (hk S).2.2.2.2.2.1)
    ·exact fin (0,0) ⟨by rw [e]; exact Int.le_refl _,by rw [e]; exact Int.le_refl _⟩ (cw (hk 0).2.2.2.2.2.2.1)
    ·exact fin (.ofNat (Nat.succ S),.ofNat (Nat.succ S)) ⟨by rw [e]; exact Int.le_refl _,by rw [e]; exact Int.le_refl _⟩ (cw (hk S).2.2.2.2.2.2.2)
   ·exact fin _ self (cw h0.2.2.2.1)
   ·exact fin _ self (cw h0.2.2.2.2.1)
   ·exact fin _ self (cw h0.2.2.1)
 | true=>
  have hl:vals.length=2:=hl
  obtain ⟨y,t,rfl⟩:=uW hl
  have hy:=zz (hg 0 y rfl rfl)
  have ht:=zz (hg 1 t rfl rfl)
  have fin:∀(a:Int × Int),a.1<=y/\y<=a.2->um ⟨held,w,true⟩ who deed (.var 2) [a,(0,.ofNat t.toNat),(z,z)]->sZ ⟨held,w,true⟩ who deed z [y,t]:=fun a ha hs=>
   ⟨.var 2,z,_,(show 2<3 by decide),rfl,w2 ha ht ⟨Int.le_refl _,Int.le_refl _⟩,rfl,hs⟩
  have fin2:∀(b:Int × Int),b.1<=y+z/\y+z<=b.2->um ⟨held,w,true⟩ who deed AO [(0,.ofNat y.toNat),(0,.ofNat t.toNat),b]->sZ ⟨held,w,true⟩ who deed z [y,t]:=fun b hb hs=>
   ⟨AO,y+z,_,⟨(show 2<3 by decide),trivial,(show 0<3 by decide)⟩,(show (y+z) + -1 * y=z by omega),w2 ⟨by rw [hy]; exact Int.natCast_nonneg _,by rw [hy]; exact Int.le_refl _⟩ ht hb,rfl,hs⟩
  have self:(0,Int.ofNat y.toNat).1<=y/\y<=(0,Int.ofNat y.toNat).2:=⟨by rw [hy]; exact Int.natCast_nonneg _,by rw [<- hy]; exact Int.le_refl _⟩
  cases hb:sJ ⟨held,w,true⟩ who with
  | true=>
   have h:=hk t.toNat y.toNat 0 z deed
   unfold oo at h
   rw [hb] at h
   exact fin _ self (cw h)
  | false=>
   have hk:∀(S:Nat),BD ⟨held,w,true⟩ who t.toNat y.toNat S z=true:=fun S=>by
    have h:=hk t.toNat y.toNat S z deed
    unfold oo at h
    rw [hb] at h
    exact h
   unfold BD at hk
   simp only [Bool.and_eq_true] at hk
   have h0:=hk 0
   have ge0:0<=y:=hg 0 y rfl rfl
   simp only [ft,List.mem_cons,List.not_mem_nil,or_false] at hd
   rcases hd with rfl | rfl | rfl | rfl | rfl | rfl
   ·exact fin _ self (cw h0.1)
   ·exact fin _ self (cw h0.2.1)
   ·rcases lJ (y+z) with ⟨S,e⟩ | e | ⟨S,e⟩
    ·exact fin2 (.negSucc S,.negSucc S) ⟨by rw [e]; exact Int.le_refl _,by rw [e]; exact Int.le_refl _⟩ (cw (hk S).2.2.2.2.2.2.2.2.1)
    ·exact fin2 (0,0) ⟨by rw [e]; exact Int.le_refl _,by rw [e]; exact Int.le_refl _⟩ (cw (hk 0).2.2.2.2.2.2.2.2.2.1)
    ·exact fin2 (.ofNat (Nat.succ S),.ofNat (Nat.succ S)) ⟨by rw [e]; exact Int.le_refl _,by rw [e]; exact Int.le_refl _⟩ (cw (hk S).2.2.2.2.2.2.2.2.2.2)
   ·rcases Cd ge0 with e | e | ⟨S,e⟩
    ·exact fin (0,0) ⟨by rw [e]; exact Int.le_refl _,by rw [e]; exact Int.le_refl _⟩ (cw h0.2.2.2.1)
    ·exact fin (1,1) ⟨by rw [e]; exact Int.le_refl _,by rw [e]; exact Int.le_refl _⟩ (cw h0.2.2.2.2.1)
    ·exact fin (.ofNat (Nat.succ (Nat.succ S)),.ofNat (Nat.succ (Nat.succ S))) ⟨by rw [e]; exact Int.le_refl _,by rw [e]; exact Int.le_refl _⟩ (cw (hk S).2.2.2.2.2.1)
   ·rcases lJ y with ⟨S,e⟩ | e | ⟨S,e⟩
    ·rw [e] at ge0; exact absurd ge0 (Int.not_le.mpr (Int.negSucc_lt_zero S))
    ·exact fin (0,0) ⟨by rw [e]; exact Int.le_refl _,by rw [e]; exact Int.le_refl _⟩ (cw h0.2.2.2.2.2.2.1)
    ·exact fin (.ofNat (Nat.succ S),.ofNat (Nat.succ S)) ⟨by rw [e]; exact Int.le_refl _,by rw [e]; exact Int.le_refl _⟩ (cw (hk S).2.2.2.2.2.2.2.1)
   ·exact fin _ self (cw h0.2.2.1)
theorem GU{c:Nat}(hc:iA c ux=true)(vals:List Int)(hl:vals.length=(dM (dp c)).cs.length)(hg:mj (dM (dp c)).cs vals):xq (dM (dp c)) vals=true:=by
 have hk:=fun T C=>(nu hc T C 0 0 0).2.1.1
 rw [Ls] at hl hg
 generalize dp c=d at hk hl hg ⊢
 obtain ⟨held,w,cnt⟩:=d
 have zz:∀{i:Int},0<=i->i=.ofNat i.toNat:=fun h=>(Int.toNat_of_nonneg h).symm
 cases cnt with
 | false=>
  have hl:vals.length=1:=hl
  obtain ⟨t,rfl⟩:=List.length_eq_one_iff.mp hl
  rw [zz (hg 0 t rfl rfl)]
  exact hk _ 0
 | true=>
  have hl:vals.length=2:=hl
  obtain ⟨y,t,rfl⟩:=uW hl
  rw [zz (hg 0 y rfl rfl),zz (hg 1 t rfl rfl)]
  exact hk _ _
theorem Gg{c:Nat}(hc:iA c ux=true)(vals:List Int)(hl:vals.length=(dM (dp c)).cs.length)(hg:mj (dM (dp c)).cs vals):nP (sC (dM (dp c))) (cC (kW (aO 14))) (dM (dp c)) vals=true:=by
 have hk:=fun T C=>(nu hc T C 0 0 0).2.1.2
 rw [Ls] at hl hg
 generalize dp c=d at hk hl hg ⊢
 obtain ⟨held,w,cnt⟩:=d
 have zz:∀{i:Int},0<=i->i=.ofNat i.toNat:=fun h=>(Int.toNat_of_nonneg h).symm
 cases cnt with
 | false=>
  have hl:vals.length=1:=hl
  obtain ⟨t,rfl⟩:=List.length_eq_one_iff.mp hl
  rw [zz (hg 0 t rfl rfl)]
  exact hk _ 0
 | true=>
  have hl:vals.length=2:=hl
  obtain ⟨y,t,rfl⟩:=uW hl
  rw [zz (hg 0 y rfl rfl),zz (hg 1 t rfl rfl)]
  exact hk _ _
theorem TM:∃kd tp pos,mh=mh.take 1++.For (.Tuple (qJ fy) kd tp) (iR fy) ((eH fy).take 3++(eH fy).drop 3) [] pos::mh.drop 2:=⟨_,_,_,rfl⟩
theorem IA(P:ak):pA (fx P) 33 gZ mh ft fun la=>[.old (.ref la)]++MH.tl:=by
 intro F la rows hrows mq ds A env h₁ L m s Q Eo Z En S Lo hQ
 rw [wO] at hrows Z S Lo hQ
 show wpAny (model (fx { P with tl:=P.tl++F }).prog (fx { P with tl:=P.tl++F }).w) A (execs mh env) Q Eo s
 generalize ({ P with tl:=P.tl++F }:ak)=P' at *
 obtain ⟨kd,tp,pos,eB⟩:=TM
 rw [eB]
 refine DT (l:=mh.take 1) (rest:=mh.drop 2) (ts:=qJ fy) (b1s:=(eH fy).take 3) (b2s:=(eH fy).drop 3) (e:=iR fy) (bB (FK P')) (bB (Dg P')) (PC P') rfl rfl (By P') (bB (Ak P')) rfl (Inv:=Ln) (RowOk:=fun a b=>a<3/\b∈ft) (fun pat hi=>?_) (fun pat hi vals hv hg=>?_) (fun pat hi who deed hr z vals hv hg=>?_) (fun pat hi vals hv hg=>?_) (Ld P') rfl ⟨0,(by kernel_rfl),rfl⟩ stG hrows mq Z En S Lo hQ
 ·obtain ⟨c,hc,rfl⟩:=hi
  exact Ac (nu hc 0 0 0 0 0).1
 ·obtain ⟨c,hc,rfl⟩:=hi
  exact Gg hc vals hv hg
 ·obtain ⟨c,hc,rfl⟩:=hi
  obtain ⟨ge,w,B,q1,q2,q3,q4,p,q5,q6⟩:=UL hc (Wl hr.1) hr.2 z vals hv hg
  exact ⟨p,ge,w,B,q5,q1,q2,q3,q4,q6⟩
 ·obtain ⟨c,hc,rfl⟩:=hi
  exact GU hc vals hv hg
theorem yx(P:ak):iq (fx P) 34 (xY ft) (.ref 1996):=Db hT hD (Nm P) rfl rfl rfl rfl (gN rfl) (IA P)
noncomputable def KP:kB:=xY ft
end
end Internal.L
namespace Internal.L
open Internal.N
noncomputable section
def ET(R:bc):SX:=(gz (cC (aB (bu 0) (bb (af (aD (af (aM 0) (af (ar 59) (af (ar 2) aj)))) (af (aD (af (aM 1) (af (ar 59) (af (ar 3) aj)))) (af (aD (af (aM 2) (af (ar 53) (af (aM 7) aj)))) (af (aD (af (aM 2) (af (ar 76) (af (aM 0) aj)))) (af (aD (af (aM 2) (af (ar 59) (af (ar 4) aj)))) (af (aD (af (aM 2) (af (ar 53) (af (aM 8) aj)))) aj))))))) (aB (bu 1) (bb (af (aD (af (aM 0) (af (ar 53) (af (aM 5) aj)))) (af (aD (af (aM 1) (af (ar 53) (af (aM 6) aj)))) (af (aD (af (aM 2) (af (ar 59) (af (ar 2) aj)))) (af (aD (af (aM 2) (af (ar 59) (af (ar 3) aj)))) (af (aD (af (aM 2) (af (ar 45) (af (aM 0) aj)))) aj)))))) (bX (l7 (jT (gW (aT (c9 R) (af (aM 0) (af (ah 0) aj))))) (l7 (jT (gW (aT (c9 R) (af (aM 0) (af (ah 1) aj))))) (l7 (jT (gW (aT (c9 R) (af (aM 1) (af (ah 1) aj))))) jP))) bw aC (bX (jT (gW (aT (c9 R) (af (aM 1) (af (dg (dY fC) (rE (ah 1) (bj .none) (aM 2)) (bb (af (aD (af (aM 2) (af (ar 76) (af (aM 0) aj)))) (af (aD (af (aM 0) (af (ar 59) (af (ar 2) aj)))) (af (aD (af (aM 0) (af (ar 59) (af (ar 3) aj)))) (af (aD (af (aM 1) (af (ar 41) (af (aM 1) aj)))) aj)))))) aj))))) bw aC (aB (bu 2) (bb (af (aD (af (aM 0) (af (ar 40) (af (aM 0) aj)))) (af (aD (af (aM 1) (af (ar 40) (af (aM 0) aj)))) (af (aD (af (aM 2) (af (ar 40) (af (aM 0) aj)))) (af (aD (af (aM 0) (af (ar 135) (af (aM 0) aj)))) (af (aD (af (aM 0) (af (ar 146) (af (aM 0) aj)))) (af (aD (af (aM 1) (af (ar 135) (af (aM 0) aj)))) aj))))))) (aB (bu 3) (bb (af (aD (af (aM 0) (af (ar 7) (af (aM 2) aj)))) (af (aD (af (aM 1) (af (ar 64) (af (aM 0) aj)))) (af (aD (af (aM 2) (af (ar 64) (af (aM 0) aj)))) (af (aD (af (aM 0) (af (ar 31) (af (aM 0) aj)))) (af (aD (af (aM 0) (af (ar 7) (af (xd rx (aM 1)) aj)))) (af (aD (af (aM 0) (af (ar 31) (af (aM 0) aj)))) aj))))))) (bV (gG fR (ah 3) (af (aD (af (aM 0) (af (ar 64) (af (aM 0) aj)))) aj)) aC)))))))) (gz (lM (Ca (oY (zl (fZ KP (af (dg (dY fC) (ah 2) (bb (af (aD (af (aM 2) (af (ar 135) (af (aM 0) aj)))) (af (aD (af (aM 2) (af (ar 135) (af (aM 0) aj)))) aj)))) aj)))) (Ca (oY (zl (fZ KP (af (ah 3) aj)))) (vk jP))) (cC bw) (cC aC)) (xt (Ed bH (fZ Wr aj) (bj (.byt (jm [110,105,108,32,100,101,114,101,102,101,114,101,110,99,101])))))))
theorem Tw(P:ak):bT (fx P) 34 uc (ET (aO 14)) Ef:=by
 have hs:aA (fx P) uc:=⟨hT,odr rfl⟩
 have h:aw P 32 (aO 14):=cH P 4 14
 unfold ET
 refine cY (l:=[_,_,_,_,_,_,_]) ?_ ?_
 refine bB ?_
 left
 symm
 left
 symm
 refine aZ ?_ ?_ ?_ ?_ _
 refine gc ?_ ?_
 refine fJ ?_ _
 refine dE ?_ rfl
 refine ay (i:=4) rfl oj (kp P) (sL h) ?_ (ag aG (ag am ao)) (.inl (mT P)) _ _
 symm
 refine gc ?_ ?_
 refine fJ ?_ _
 refine dE ?_ rfl
 refine ay (i:=4) rfl oj (kp P) (sL h) ?_ (ag aG (ag am ao)) (.inl (mT P)) _ _
 symm
 refine gc ?_ ?_
 refine fJ ?_ _
 refine dE ?_ rfl
 refine ay (i:=4) rfl oj (kp P) (sL h) ?_ (ag aG (ag am ao)) (.inl (mT P)) _ _
 symm
 exact gR _
 symm
 refine aZ ?_ ?_ ?_ ?_ _
 refine fJ ?_ _
 refine dE ?_ rfl
 refine ay (i:=4) rfl oj (kp P) (sL h) ?_ (ag aG (ag jG ao)) (.inl (mT P)) _ _
 symm
 refine bK (ck (cJ P)) ?_ ?_ _
 refine lj ?_ ?_ ?_ _ _
 symm
 exact eI.none
 refine eI.some ?_
 symm
 left
 symm
 left
 symm
 refine mx lk ?_ _
 symm
 refine bg ?_ ?_ rfl _
 refine cZ PySem.F.slot_list_append cI dz ?_ ?_ rfl (ag bL ao) rfl (lsp rfl)
 symm
 refine cY (l:=[_]) ?_ ?_
 refine gQ ?_ ?_ ?_ _
 refine xk ?_ ?_
 refine lI ?_ _
 refine pP ?_ rfl
 refine d6 (i:=5) rfl tj (nS P) (iM (Nat.le_of_ble_eq_true rfl) (yx P)) ?_ (ag jG ao) (tT P) _ _
 symm
 refine bK (ck (cJ P)) ?_ ?_ _
 symm
 refine xk ?_ ?_
 refine lI ?_ _
 refine pP ?_ rfl
 refine d6 (i:=5) rfl tj (nS P) (iM (Nat.le_of_ble_eq_true rfl) (yx P)) ?_ (ag am ao) (tT P) _ _
 symm
 refine kX ?_
 exact gR _
 refine bB ?_
 symm
 refine bB ?_
 symm
 refine tm ?_ _
 refine DL (jC hT (jM P)) ?_ ?_ rfl _
 refine d6 (i:=6) rfl IF (Ch P) (iM (Nat.le_of_ble_eq_true rfl) (Ub P)) ?_ ao (zs P) _ _
 symm
 exact kZ [110,105,108,32,100,101,114,101,102,101,114,101,110,99,101] rfl _ _
theorem ZH(P:ak):gp (fx P) 34 Kg (ET (aO 14)) 2010:=by
 refine ⟨⟨uc,Ef,HD,Iy P,?_⟩,zB P,by kernel_rfl⟩
 with_reducible exact Tw P
noncomputable def Wu:kB:=nQ Kg (ET (aO 14))
theorem TK(P:ak):iq (fx P) 35 Wu (.ref 2010):=jB hT hD (ZH P)
variable {P:ak} {c:Value->Bool}
def k1(c:Value->Bool):ce:=eR r1 (Ey c)
theorem Mr(v0:Value)(scr:jw (fx P) v0):∃c0,au (fx P) 33 wU (pi v0 c0) B1:=by
 have hs:aA (fx P) wU:=⟨hT,odr rfl⟩
 obtain ⟨c0,hc⟩:=FA (vs:=wU) (d:=33) rfl oD rfl gF (eY P) scr
 refine ⟨c0,?_⟩
 unfold pi
 refine iE (mA hs rfl jX _) ?_ ?_ rfl (.inl rfl) rfl _
 exact hc _ _ _ _ _ _ _ _ _ _ _ _ _
 refine iE (mA hs rfl Eu _) ?_ ?_ rfl (.inl rfl) rfl _
 exact FY rfl jX rfl WZ Cq _ _ _ _ _ _ _ _
 refine aW ?_ _
 refine CN ?_ ?_ rfl rfl _
 exact FZ rfl Eu _ _ _ _ _ _ _ _ _ _ _
 exact Dx rfl Eu _ _ _ _ _ _ _ _ _ _ _ _ _
theorem N4(hc:∀v,c v=true->jw (fx P) v):cK (fx P) 35 (k1 c) (.ref 1918):=(cE hT hD ⟨⟨wU,B1,D1,Sy P,Bw hc rfl Mr⟩,Fe P,by kernel_rfl⟩).more (Nat.le_succ _)
def BE(R:bc)(c:Value->Bool):SX:=(gz (cC (j6 2 [2,1] (aD (af (aT (c4 R) aj) (af (aD (af (ar 24) aj)) aj))) (bX (aY eu (aT (Mz R) (af (ah 1) (af (aD (af (ar 174) (af (bj .none) (af (bj (.bool false)) aj)))) (af (aD (af (ar 29) (af (ar 25) (af (ah 2) aj)))) aj)))) (aD (af (bj (.bool false)) (af (bj (.bool false)) aj)))) bw aC aC))) (gz (lM (oY (zl (fZ Wu aj))) (cC bw) (cC aC)) (cC (aB (bu 3) (aT (k1 c) (af (ah 0) aj)) (aB (jo 2 (bJ (bu 4) (bJ (bu 5) fo))) (aT (c3 R) (af (ah 3) (af (bb (af (aD (af (ah 2) (af (bj (.bool false)) aj))) (af (aD (af (aD (af (ar 11) (af (ar 11) aj))) (af (aM 0) aj))) (af (aD (af (aD (af (ar 132) aj)) (af (bj (.byt (jm []))) aj))) aj)))) aj))) (aB (jo 2 (bJ (bu 6) (bJ (bu 7) fo))) (aT (c3 R) (af (ah 3) (af (bb (af (aD (af (aD (af (ar 174) (af (bj .none) (af (bj (.bool false)) aj)))) (af (aD (af (ah 5) (af (bj (.bool false)) aj))) aj))) (af (aD (af (aD (af (ar 174) (af (aM 9) (af (bj (.bool true)) aj)))) (af (aD (af (aM 9) (af (bj (.bool true)) aj))) aj))) aj))) aj))) (bX (aY eu (aT (Mz R) (af (ah 1) (af (ah 6) (af (aD (af (ar 29) (af (ar 48) (af (ah 4) aj)))) aj)))) (ah 7)) bw aC (aB (bu 8) (bb aj) aC))))))))
def C3(R:bc):SX:=(gz (lM (oY (zl (fZ z9 (af (aT (c2 R) (af (ah 3) (af (aM 3) aj))) (af (ah 8) aj))))) (cC bw) (cC aC)) (cC (aB (bu 8) (bb aj) aC)))
def Bv(R:bc):SX:=(xt (fZ KP (af (ah 8) aj)))
def IN(R:bc):SV:=(aB (bu 10) (aT (c3 R) (af (ah 3) (af (bb (af (ar 53) (af (ar 53) (af (ar 53) (af (ar 59) (af (ar 59) (af (ar 59) (af (ar 76) (af (ar 41) (af (ar 45) aj)))))))))) aj))) (bV (gG fR (ah 8) (af (aD (af (aT (c2 R) (af (ah 3) (af (aM 3) aj))) (af (ah 10) (af (aT (c2 R) (af (ah 3) (af (aM 9) aj))) aj)))) aj)) aC))
def Nn(R:bc):SV:=(aB (bu 10) (aT (c3 R) (af (ah 3) (af (bb (af (ar 40) (af (ar 40) (af (ar 135) (af (ar 7) (af (ar 7) (af (ar 31) (af (ar 64) (af (ar 64) (af (ar 146) aj)))))))))) aj))) (bV (gG fR (ah 8) (af (aD (af (aT (c2 R) (af (ah 3) (af (aM 3) aj))) (af (ah 10) (af (dg pc (aT (c2 R) (af (ah 3) (af (aM 5) aj))) (aM 2)) aj)))) aj)) aC))
def li(R:bc):EV:=(aT th (af (aT (c2 R) (af (ah 3) (af (aM 8) aj))) aj))
noncomputable def la:AV:=(bu 9)
def jh(k:Nat):Stmt:=match B0[k]? with | some s=>s | none=>.Pass ⟨0,0,0,0⟩
noncomputable def xS:Stmt->Expr | .For (target:=t) ..=>t | _=>.Name (Str.ofString "") ⟨0,0,0,0⟩
theorem Gm(hc:∀v,c v=true->jw (fx P) v):bT (fx P) 35 gA (BE (aO 14) c) (B0.take 8):=by
 have hs:aA (fx P) gA:=⟨hT,odr rfl⟩
 have h:aw P 33 (aO 14):=cH P 5 14
 unfold BE
 refine cY (l:=[_,_]) ?_ ?_
 refine bB ?_
 refine fq (js:=[1,2]) hs (.cons rfl fb (.cons rfl Dn .nil)) ?_ ?_ ?_ ?_ ?_ ?_ ?_ ?_ (lq (js:=[1,2]) hs (.cons rfl fb (.cons rfl Dn .nil)) (odr rfl)) ?_ ?_ _
 symm
 refine ay (i:=11) rfl lO (j7 P) (oV h) ?_ ao (.inl (mR P)) _ _
 symm
 refine aZ ?_ ?_ ?_ ?_ _
 refine bd (cy hT) ?_ ?_ rfl _
 refine ay (i:=12) rfl Cj (uZ P) (zV h) ?_ (ag am (ag bL (ag bL ao))) (.inl (vO P)) _ _
 symm
 exact rfl
 exact rfl
 exact rfl
 exact (.inl rfl)
 exact rfl
 exact rfl
 exact rfl
 kernel_rfl
 refine cY (l:=[_]) ?_ ?_
 refine gQ ?_ ?_ ?_ _
 refine lI ?_ _
 refine pP ?_ rfl
 refine d6 (i:=13) rfl Qu (BF P) (iM (Nat.le_of_ble_eq_true rfl) (TK P)) ?_ ao (zB P) _ _
 symm
 refine bB ?_
 symm
 refine bB ?_
 symm
 refine bB ?_
 left
 symm
 refine ay (i:=14) rfl G8 (Cz P) (N4 hc) ?_ (ag am ao) (.inl (Fe P)) _ _
 symm
 refine iE ?_ ?_ ?_ rfl (.inr rfl) rfl _
 refine eQ ?_ (ag am (ag am ao)) _ _
 refine bt ?_ ?_ rfl
 symm
 refine bt ?_ ?_ rfl
 symm
 exact dJ
 refine ay (i:=15) rfl uo (lE P) (sU h) ?_ (ag am (ag gn ao)) (.inl (pM P)) _ _
 symm
 exact kZ [] rfl _ _
 symm
 refine iE ?_ ?_ ?_ rfl (.inr rfl) rfl _
 refine eQ ?_ (ag am (ag am ao)) _ _
 refine bt ?_ ?_ rfl
 symm
 refine bt ?_ ?_ rfl
 symm
 exact dJ
 refine ay (i:=15) rfl uo (lE P) (sU h) ?_ (ag am (ag gn ao)) (.inl (pM P)) _ _
 symm
 refine aZ ?_ ?_ ?_ ?_ _
 refine bd (cy hT) ?_ ?_ rfl _
 refine ay (i:=12) rfl Cj (uZ P) (zV h) ?_ (ag am (ag am (ag bL ao))) (.inl (vO P)) _ _
 symm
 left
 symm
theorem FD(P:ak):bT (fx P) 35 gA (C3 (aO 14)) ((B0.drop 9).take 2):=by
 have hs:aA (fx P) gA:=⟨hT,odr rfl⟩
 have h:aw P 33 (aO 14):=cH P 5 14
 unfold C3
 refine cY (l:=[_]) ?_ ?_
 refine gQ ?_ ?_ ?_ _
 refine lI ?_ _
 refine pP ?_ rfl
 refine d6 (i:=18) rfl oj (kp P) (iM (Nat.le_of_ble_eq_true rfl) (abz P)) ?_ (ag eS (ag am ao)) (mT P) _ _
 symm
 refine ay (i:=17) rfl kE (fU P) (kD h) ?_ (ag am (ag aG ao)) (.inl (jz P)) _ _
 symm
 refine bB ?_
 symm
 refine bB ?_
 symm
 refine bB ?_
 left
 symm
theorem Fw(P:ak):bT (fx P) 35 gA (Bv (aO 14)) (B0.drop 12):=by
 have hs:aA (fx P) gA:=⟨hT,odr rfl⟩
 have h:aw P 33 (aO 14):=cH P 5 14
 unfold Bv
 refine tm ?_ _
 refine d6 (i:=19) rfl tj (nS P) (iM (Nat.le_of_ble_eq_true rfl) (yx P)) ?_ (ag am ao) (tT P) _ _
 symm
theorem Pz(P:ak):au (fx P) 35 gA (IN (aO 14)) (eH (jh 8)):=by
 have hs:aA (fx P) gA:=⟨hT,odr rfl⟩
 have h:aw P 33 (aO 14):=cH P 5 14
 unfold IN
 left
 symm
 refine ay (i:=15) rfl uo (lE P) (sU h) ?_ (ag am (ag gn ao)) (.inl (pM P)) _ _
 symm
 refine bg ?_ ?_ rfl _
 refine cZ PySem.F.slot_list_append cI dz ?_ ?_ rfl (ag bL ao) rfl (lsp rfl)
 symm
 refine ay (i:=17) rfl kE (fU P) (kD h) ?_ (ag am (ag aG ao)) (.inl (jz P)) _ _
 symm
 refine ay (i:=17) rfl kE (fU P) (kD h) ?_ (ag am (ag aG ao)) (.inl (jz P)) _ _
 symm
theorem N9(P:ak):au (fx P) 35 gA (Nn (aO 14)) (eH (jh 11)):=by
 have hs:aA (fx P) gA:=⟨hT,odr rfl⟩
 have h:aw P 33 (aO 14):=cH P 5 14
 unfold Nn
 left
 symm
 refine ay (i:=15) rfl uo (lE P) (sU h) ?_ (ag am (ag gn ao)) (.inl (pM P)) _ _
 symm
 refine bg ?_ ?_ rfl _
 refine cZ PySem.F.slot_list_append cI dz ?_ ?_ rfl (ag bL ao) rfl (lsp rfl)
 symm
 refine ay (i:=17) rfl kE (fU P) (kD h) ?_ (ag am (ag aG ao)) (.inl (jz P)) _ _
 symm
 refine bK ?_ ?_ ?_ _
 exact lB
 refine ay (i:=17) rfl kE (fU P) (kD h) ?_ (ag am (ag aG ao)) (.inl (jz P)) _ _
 symm
theorem Km(P:ak):aK (fx P) 35 gA (li (aO 14)) (iR (jh 8)):=by
 have h:aw P 33 (aO 14):=cH P 5 14
 unfold li
 refine ay (i:=16) rfl AW (qT P) mP ?_ (ag eS ao) (.inr (.inr ⟨_,rfl⟩)) _ _
 symm
 refine ay (i:=17) rfl kE (fU P) (kD h) ?_ (ag am (ag aG ao)) (.inl (jz P)) _ _
 symm
theorem Hf(P:ak):aK (fx P) 35 gA (li (aO 14)) (iR (jh 11)):=by
 have h:aw P 33 (aO 14):=cH P 5 14
 unfold li
 refine ay (i:=16) rfl AW (qT P) mP ?_ (ag eS ao) (.inr (.inr ⟨_,rfl⟩)) _ _
 symm
 refine ay (i:=17) rfl kE (fU P) (kD h) ?_ (ag am (ag aG ao)) (.inl (jz P)) _ _
 symm
theorem Q5(P:ak):dP (fx P) 35 gA la (xS (jh 8)):=by
 have hs:aA (fx P) gA:=⟨hT,odr rfl⟩
 unfold la
 exact mA hs rfl E8 _
theorem HX(P:ak):dP (fx P) 35 gA la (xS (jh 11)):=by
 have hs:aA (fx P) gA:=⟨hT,odr rfl⟩
 unfold la
 exact mA hs rfl E8 _
def tw(i:Nat):Nat:=@Bool.rec (fun q0=>Nat) 0 i (Nat.ble i 100)
theorem FH(i:Nat):tw i<=100:=by
 unfold tw
 cases q:Nat.ble i 100 with
 | true=>exact Nat.le_of_ble_eq_true q
 | false=>exact Nat.zero_le _
theorem tG{α:Type}(f:Nat->α):∀l:List Nat,(et f l).length=l.length
 | []=>rfl
 | a::l=>congrArg (·+ 1) (tG f l)
theorem uH:∀n i:Nat,(iH n i).length=n
 | 0,i=>rfl
 | n+1,i=>congrArg (·+ 1) (uH n (Nat.succ i))
def fg(f:List (Nat × Nat))(ss:List Nat)(i:Nat):eh:=⟨du [.pool f,.list (et (fun k=>.own (Nat.add 2 k)) (iH (tw i) 0))] (et (fun q0=>.row 3 ss) (iH (tw i) 0)),[],[none,none,none,(some (.own 0)),none,none,none,none,(some (.own 1)),none,none,none,none,none,none,none,none,none,none,none]⟩
noncomputable def F9:List (Nat × Nat):=[(9,9),(3,3),(9,10)]
noncomputable def F5:List (Nat × Nat):=[(9,9),(3,3),(5,6)]
theorem CB(c:Value->Bool)(v0:Value):BE (aO 14) c .e 0 (.mk [] []) (.old v0::r0.tl) (EB (fg [] dN 0)) gw=c v0:=by kernel_rfl
theorem st1:vj (li (aO 14)) (fg F9 dN 0) 7 (ed (fg [] dN 0).P) 2 (.mk [] []) (ew (fg [] dN 0).rt)=true:=by kernel_rfl
theorem st2:vj (li (aO 14)) (fg F5 ft 0) 7 (ed (fg [] dN 0).P) 2 (.mk [] []) (ew (fg [] dN 0).rt)=true:=by kernel_rfl
def E0(F:List (Nat × Nat))(ss:List Nat)(b:SV)(n i:Nat):Bool:=la (.int (.lit (.ofNat i))) (ed ((fg F ss i).P++[.riter (i+1) n])) ((fg F ss i).P.length+1) (.mk [] []) (ew (fg F ss i).rt) (fun H nx R loc=>b H nx R loc (jy (fg F ss (i+1)) (.riter (i+1) n) (fg F ss i).P.length))
def oZ(n:Nat)(f:Nat->Bool):Bool:=qD (iH n 0) f
theorem tF:∀{n i k:Nat},i<=k->k<i+n->k∈iH n i
 | 0,i,k,h1,h2=>by omega
 | n+1,i,k,h1,h2=>by
  show k∈i::iH n (Nat.succ i)
  by_cases e:k=i
  ·rw [e]; exact .head _
  ·exact .tail _ (tF (by show i+1<=k; omega) (by show k<(i+1)+n; omega))
theorem i6{n:Nat}{f:Nat->Bool}(h:oZ n f=true){i:Nat}(hi:i<n):f i=true:=lm h i (tF (Nat.zero_le i) (by omega))
theorem tn1:oZ 8 (fun n=>oZ n (fun i=>E0 F9 dN (IN (aO 14)) n i))=true:=by kernel_rfl
theorem tn2:oZ 8 (fun n=>oZ n (fun i=>E0 F5 ft (Nn (aO 14)) n i))=true:=by kernel_rfl
def Ax(F:List (Nat × Nat))(ss:List Nat)(n:Nat):Bool:=cC aC (ed ((fg F ss n).P++[.junk])) ((fg F ss n).P.length+1) (.mk [] []) (ew (fg F ss n).rt) (EB (fg [] ss n)) gw
theorem ag1:oZ 8 (Ax F9 dN)=true:=by kernel_rfl
theorem ag2:oZ 8 (Ax F5 ft)=true:=by kernel_rfl
theorem ul:oZ 8 (fun n=>C3 (aO 14) (ed (fg [] dN n).P) (fg [] dN n).P.length (.mk [] []) (ew (fg [] dN n).rt) (EB (fg [] dN 0)) gw)=true:=by kernel_rfl
theorem fin:oZ 8 (fun n=>Bv (aO 14) (ed (fg [] ft n).P) (fg [] ft n).P.length (.mk [] []) (ew (fg [] ft n).rt) vQ gw)=true:=by kernel_rfl
theorem Q6(F:List (Nat × Nat))(ss:List Nat)(i:Nat):(fg F ss i).P.length<300:=by
 show (et _ (iH (tw i) 0)).length+1+1<300
 rw [tG,uH]
 have:=FH i
 omega
theorem abN:∃p1 p2,B0=B0.take 8++(.For (xS (jh 8)) (iR (jh 8)) (eH (jh 8)) [] p1::((B0.drop 9).take 2++(.For (xS (jh 11)) (iR (jh 11)) (eH (jh 11)) [] p2::B0.drop 12))):=⟨_,_,rfl⟩
theorem Bx(hc:∀v,c v=true->jw (fx P) v){v0:Value}(hv:c v0=true){A:Around}{env:Env}{O:Heap}{L:Addr}{m:Str->Option Value}{J:az}{s:Shared}{Q:Flow->Shared->Prop}{E:Value->Shared->Prop}(Z:de (fx P) 35 A O L)(En:bP env L)
  (S:St (fx P) J .e 0 (.mk [] []) O L m s) (Lo:bq (fx P) J env L m gA (.old v0::r0.tl)) (hQ:∀g J' H nx R m s,KtsTurn (cS A) O g->St (fx P) J' H nx R g L m s->Q (.ret (.bool true)) s):wpAny (model (fx P).prog (fx P).w) A (execs B0 env) Q E s:=by
 obtain ⟨p1,p2,eB⟩:=abN
 rw [eB]
 refine Es (Gm hc) rfl ((CB c v0).trans hv) Z En S Lo fun g1 m1 s1 T1 I1=>?_
 obtain ⟨J1,vals1,vl1,S1,Lo1,hit1⟩:=I1.ex
 have vl1:vals1=[]:=List.length_eq_zero_iff.mp vl1
 subst vl1
 have Z1:=Z.turn T1
 refine wpAny_execs_cons (EK (Q5 P) (Pz P) rfl (pt:=fg F9 dN) (fun q0=>rfl) (Q6 F9 dN) (N:=7) (fun n hn i hi=>i6 (i6 tn1 (Nat.lt_succ_of_le hn)) hi) (Km P) rfl st1 Z1 En S1 Lo1 fun n m2 s2 a2 hn I2=>?_)
 obtain ⟨J2,vals2,vl2,S2,Lo2,_⟩:=I2.ex
 have vl2:vals2=[]:=List.length_eq_zero_iff.mp vl2
 subst vl2
 refine Es (l:=[]) (bB (qB)) rfl (i6 ag1 (Nat.lt_succ_of_le hn)) Z1 En S2 Lo2 fun g3 m3 s3 T3 I3=>?_
 obtain ⟨J3,vals3,vl3,S3,Lo3,_⟩:=I3.ex
 have vl3:vals3=[]:=List.length_eq_zero_iff.mp vl3
 subst vl3
 have Z3:=Z1.turn T3
 refine Es (FD P) rfl (i6 ul (Nat.lt_succ_of_le hn)) Z3 En S3 Lo3 fun g4 m4 s4 T4 I4=>?_
 obtain ⟨J4,vals4,vl4,S4,Lo4,_⟩:=I4.ex
 have vl4:vals4=[]:=List.length_eq_zero_iff.mp vl4
 subst vl4
 have Z4:=Z3.turn T4
 refine wpAny_execs_cons (EK (HX P) (N9 P) rfl (pt:=fg F5 ft) (fun q0=>rfl) (Q6 F5 ft) (N:=7) (fun n hn i hi=>i6 (i6 tn2 (Nat.lt_succ_of_le hn)) hi) (Hf P) rfl st2 Z4 En S4 Lo4 fun n5 m5 s5 a5 hn5 I5=>?_)
 obtain ⟨J5,vals5,vl5,S5,Lo5,_⟩:=I5.ex
 have vl5:vals5=[]:=List.length_eq_zero_iff.mp vl5
 subst vl5
 refine Es (l:=[]) (bB (qB)) rfl (i6 ag2 (Nat.lt_succ_of_le hn5)) Z4 En S5 Lo5 fun g6 m6 s6 T6 I6=>?_
 obtain ⟨J6,vals6,vl6,S6,Lo6,_⟩:=I6.ex
 have vl6:vals6=[]:=List.length_eq_zero_iff.mp vl6
 subst vl6
 exact Bg (Fw P) (i6 fin (Nat.lt_succ_of_le hn5)) (Z4.turn T6) En S6 Lo6 fun g7 J7 H7 nx7 R7 m7 s7 T7 S7=>hQ g7 J7 H7 nx7 R7 m7 s7 ((((T1.trans T3).trans T4).trans T6).trans T7) S7
end
end Internal.L
namespace Internal.L
open Internal.N
noncomputable section
theorem Fy{T:List Str}{vs:aq}{ns:List (Str × NameKind)}(h:cD T vs ns)(hv:(vs.all fun p=>match p.2 with | .loc=>true | .glo=>true | _=>false)=true):∀y∈ns,y.2≠.cell:=by
 induction h with
 | nil=>intro y hy; cases hy
 | @cons i kd s r ns hs hb hr ih=>
  intro y hy
  rw [List.all_cons] at hv
  obtain ⟨h1,h2⟩:=Bool.and_eq_true_iff.mp hv
  rcases List.mem_cons.mp hy with rfl | hy
  ·cases kd with
   | cel=>cases h1
   | blk=>cases h1
   | loc=>intro q; cases q
   | glo=>intro q; cases q
  ·exact ih h2 y hy
theorem nope{b:Bool}{p:Prop}(h:b=true)(z:b=false):p:=absurd (h.symm.trans z) Bool.noConfusion
theorem yP{R:WRecords}{d:WData}{r:List WData}(h:WShape.hasItems R (d::r) .int=true):WShape.has R d .int=true/\WShape.hasItems R r .int=true:=
 Bool.and_eq_true_iff.mp ((show WShape.hasItems R (d::r) .int=(WShape.has R d .int&&WShape.hasItems R r .int) by kernel_rfl).symm.trans h)
theorem Gf{R:WRecords}{cl:Str->Option Addr}{h:Heap}(vs:List Value):∀{xs:List WData} {as:List Addr},ReadsAllW R cl h vs xs as->WShape.hasItems R xs .int=true->∀u∈vs,∃i t,u=.int i t:=by
 induction vs with
 | nil=>intro xs as h hx u hu; cases hu
 | cons v vs ih=>
  intro xs as h hx u hu
  cases h with
  | cons h1 h2=>
  obtain ⟨a,b⟩:=yP hx
  rcases List.mem_cons.mp hu with rfl | hu
  ·clear hu h2 ih b hx
   cases h1 <;> first | exact ⟨_,_,rfl⟩ | exact nope a (by kernel_rfl)
  ·exact ih h2 b u hu
theorem Hw{R:WRecords}{cl:Str->Option Addr}{h:Heap}(vs:List Value):∀{xs:List WData} {as:List Addr},ReadsAllW R cl h vs xs as->vs.length=xs.length:=by
 induction vs with
 | nil=>intro xs as h; cases h; rfl
 | cons v vs ih=>
  intro xs as h
  cases h with
  | cons _ h2=>exact congrArg (·+ 1) (ih h2)
theorem Ng(xs:List WData):lw.row.toRowW.claim.post [.list xs] (.bool true) [.list xs]=true:=by kernel_rfl
noncomputable def Tm(d:Bool):Bool:=WTm.holds [] (.and (.not (.lit (.bool d))) (.lit (.bool true))) { args:=[] }
theorem few{xs:List WData}(h:lw.row.toRowW.pre.holds lw.row.toRowW.records { args:=[.list xs] }=true):xs.length<=100000:=by
 have e:lw.row.toRowW.pre.holds lw.row.toRowW.records { args:=[.list xs] }=Tm (decide ((63:Int)<(xs.length:Nat))):=by kernel_rfl
 rw [e] at h
 cases q:decide ((63:Int)<(xs.length:Nat)) with
 | true=>rw [q] at h; exact absurd (show false=true from h) Bool.noConfusion
 | false=>have:=of_decide_eq_false q; omega
open Classical in
theorem walk_of{q:Program}{loose:List Str}{α:Type}{Yf:Shared->α}{Ya:World->α}{d:DefRec}{kwd:List (Str × Expr)}(hn:d.name = "law")(hY:∀w s,Yf s=Ya w->(K w).In s.heap) :
  WalkX q loose (fun q0 q0=>True) Yf Ya lw.row.toRowW d kwd fun f vs=>PySem.call f vs:=by
 intro w s₀ s₁ mg mb G hYY fa o pm cd doc dV kV ho hd hcd hDf hmg hg args vals as hL hpre hlay hrd hwl hlo
 have X0:(K w).In s₁.heap:=(hY w s₀ hYY).keeps hL.keeps
 have hfa:mg d.name=some (.ref 2017):=by
  rw [hn]; exact mg_of X0 G.T.g (by kernel_rfl)
 rw [hmg] at hfa
 cases hfa
 obtain ⟨hsh,hcond⟩:=pre_splitW hpre
 obtain ⟨d0,r,rfl,h1,h2⟩:=hasAllW_cons hsh
 obtain rfl:=hasAllW_nil h2
 obtain ⟨xs,rfl,h3⟩:=hasW_list h1
 have hfew:=few hcond
 cases hrd with
 | cons r1 r2=>
 cases r2
 cases r1 with
 | @list sa so es n _ as0 g1 g2 g3 g4=>
 let P:ak:=⟨[(sa,so)],lw.prog,w,q,looseW q loose,ExcName.means s₀.heap,mg,mb,s₁.os⟩
 have XP:(fx P).K.In s₁.heap:=fun a z e=>by
  have e:((K w++[(sa,so)]:Frag)).lookup a=some z:=e
  rw [gY] at e
  cases q1:(K w).lookup a with
  | some z'=>rw [q1] at e; cases e; exact X0 _ _ q1
  | none=>
   rw [q1] at e
   have e:List.lookup a [(sa,so)]=some z:=e
   rw [List.lookup_cons] at e
   by_cases q2:a=sa
   ·subst q2
    rw [beq_self_eq_true] at e
    cases e; exact g1
   ·have:(a == sa)=false:=by rw [beq_eq_false_iff_ne]; exact q2
    rw [this] at e
    cases e
 have hS:jw (fx P) (.ref sa):=by
  refine ⟨sa,so,es,n,rfl,?_,g2,g3,?_,fun j u hj=>?_⟩
  ·show ((K w++[(sa,so)]:Frag)).lookup sa=some so
   rw [gY]
   cases q1:(K w).lookup sa with
   | some z'=>
    have:=X0 _ _ q1
    rw [g1] at this
    exact this.symm
   | none=>
    show List.lookup sa [(sa,so)]=_
    rw [List.lookup_cons,beq_self_eq_true]
  ·rw [<- Array.length_toList,Hw _ g4]; exact hfew
  ·exact Gf _ g4 h3 u (by rw [<- Array.getElem?_toList] at hj; exact List.mem_of_getElem? hj)
 have hc:∀v,decide (v=.ref sa)=true->jw (fx P) v:=fun v e=>by rw [of_decide_eq_true e]; exact hS
 have ok:=Tt P
 have hl:=XP _ _ ok.look
 refine enter_call ?_
 refine codeAny_call_def (fd:=fnOf D0.name D0.qual (fH D0.as D0.df) B0 D0.scope D0.dV D0.kV D0.doc D0.pm D0.an D0.cdv D0.ct) (body:=B0) (binds:=[(Str.ofString "script",.ref sa)]) (by decide) hl rfl G.T.nolimit (codeRec_of XP ok.code) rfl ?_ (Fy ok.names rfl) ?_ (fun h₁ hns hk₁=>?_) ok.co ok.gen ok.kind
 ·exact w6 (s:=s₁) (ds:=[]) (A:=[Str.ofString "script"]) (B:=[]) (C:=[]) (dB:=[]) (dC:=[]) rfl (fun M Ar E Q hq=>wpAny_pure (hq none rfl)) rfl (by simp) rfl rfl rfl
 ·intro y hy
  rw [List.mem_singleton.mp hy]
  exact ok.names.lookup hT ok.nod (j:=0) (kd:=.loc) rfl oD
 refine Bx hc (v0:=.ref sa) (decide_eq_true rfl) (A:=callerA.deeper _) (J:=⟨[],[],fun q0=>[],(0,0)⟩) ⟨⟨⟨callerA,s₁.heap,[],_,below_caller _,Around.frames_deeper rfl,rfl,ok.kind⟩,XP,G.T,(by show 1+claimMargin+1+35<recursionLimit; decide),rfl,(by show 4+3+4 * 35+40<cLine; decide)⟩,callerA,s₁.heap,[],_,below_caller _,Around.frames_deeper rfl,rfl,ok.kind,G.T,fun b hb=>by cases hb⟩ ⟨rfl,rfl,ok.kind,rfl⟩
  ⟨⟨List.nodup_nil,[],fun k o hk=>by simp at hk,rfl,News.nil⟩,rfl,⟨hns,hk₁,Nat.le_refl _⟩,⟨hg,rfl⟩,⟨fun k b hk=>by simp [Rn.bnd] at hk,rfl,fun i j b hm=>by simp [Rn.eqs] at hm⟩⟩ ?_ fun g J' H nx R m s T S=>?_
 ·intro j i kd hj
  obtain ⟨nb,t,ht⟩:=ok.names.get hj
  have kn:D0.scope.names.lookup t=some kd.kind:=ok.names.lookup hT ok.nod hj ht
  refine ⟨t,ht,?_,?_⟩
  ·rw [beq_eq_false_iff_ne]; intro q; exact hD (P:=P) (q▸List.mem_of_getElem? ht)
  have hall:=List.all_eq_true.mp (show (gA.all fun p=>match p.2 with | .loc=>true | .glo=>true | _=>false)=true from rfl) _ (List.mem_of_getElem? hj)
  cases j with
  | zero=>
   cases hj
   rw [oD] at ht
   cases ht
   exact ⟨rfl,kn,fun q0=>⟨_,rfl,.old _⟩⟩
  | succ j=>
   have z:ba (GV.old (.ref sa)::r0.tl) (j+1)=.nul:=gN (l:=r0.tl) rfl j
   cases kd with
   | loc=>rw [z]; exact ⟨rfl,kn,fun n=>absurd rfl n⟩
   | glo=>exact kn
   | cel=>cases hall
   | blk=>cases hall
 ·exact ⟨.inl ⟨.bool true,.bool true,[],rfl,fun q0=>rfl,.bool true,Ng xs,fun q0=>⟨List.nodup_nil,fun a ha=>by cases ha⟩⟩,.of_keep fun b o e=>S.fr.keep b o (T.other b o e (show b∉([]:List Addr) from List.not_mem_nil)),S.gens.2,.of_eq S.gens.1⟩
end
end Internal.L
end
theorem Internal.nameIs : Internal.lawDef.1.name = "law" := by kernel_rfl
theorem PySem.Challenge.cw_xw0059_02_holds : PySem.Challenge.rw_xw0059_02.Holds :=
  Internal.head (Internal.L.walk_of Internal.nameIs fun _ _ h => Frag.in_of (as := Internal.L.KA) rfl h)
