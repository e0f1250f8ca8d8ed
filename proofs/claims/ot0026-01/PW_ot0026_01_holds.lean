import PyProof.Rows.All
import Wide.All
import OpenK.AllK
import Wide.FinOn
import PyProof.DictValues
import ObjForm.ListNI
import KE.KUnpack
import KE.KAssignIn
import PyProof.Rows.TupDisplay
import PyProof.SliceList
import KE.KItem
import PyProof.DictIter
import PyProof.RangeIter
import PyProof.TupleIter
import PyProof.ZipIter
import PyProof.EnumIter
import PyProof.EnumMake
import PyProof.RangeFor
import PyProof.WalksMore
import PyProof.CompFree
import PyProof.Rows.TupAssign
import PyProof.RulesAssignMore
import KE.KLam
import PyProof.ExcClass3
import PyProof.ExcInit
import PyProof.InstStoreFacts
import OpenK.KMake
import PyProof.InstStore
import PyProof.ExcBaseAll.Exception
import OpenK.KMore
import PyProof.AttrMissHeap
import KE.KDictOf
import KE.IntBitsLaws
import KE.KPar
import KE.KNestM
import PySem.Challenge.RW_ot0026_01
set_option Elab.async false
set_option maxRecDepth 100000
set_option maxHeartbeats 0
set_option linter.all false
set_option genInjectivity false
set_option genSizeOf false
open PySem PySem.Calls PySem.W PyProof.Rows PySem.SeqAt
namespace Mine
noncomputable def pz(l c e:Nat):Pos:=⟨l,c,l,e⟩
noncomputable abbrev gI:NameKind:=.globalImplicit
theorem sI{α:Type}{a b:α}(h:some a=some b):a=b:=Option.some.inj h
theorem lB0{a b:Nat}(h:Nat.ble a b=true):a≤b:=Nat.le_of_ble_eq_true h
theorem eB0{a b:Nat}(h:Nat.beq a b=true):a=b:=Nat.eq_of_beq_eq_true h
theorem lT0{a b c:Nat}(h:a<b)(k:b≤c):a<c:=Nat.lt_of_lt_of_le h k
theorem lE0{a b c:Nat}(h:a≤b)(k:b≤c):a≤c:=Nat.le_trans h k
theorem mR0{m n:Nat}(h:m<n):m∈List.range n:=List.mem_range.mpr h
theorem cA0.{u,v}{α:Sort u}{β:Sort v}{a b:α}(f:α→β)(h:a=b):f a=f b:=congrArg f h
noncomputable abbrev pw:=PySem.Challenge.pw_ot0026_01
noncomputable def BM(so:Thread→Bool)(st:SharedT→Thread→Option (SharedT×Thread)):Nat→SharedT→Thread→Option SharedT
 |0,_,_=>none
 |n+1,s,t=>match through t with
  |true=>some s
  |false=>match so t with
   |false=>none
   |true=>match st s t with
    |some q=>BM so st n q.1 q.2
    |none=>none
theorem Bv{tb:String→Option Builtin}{p:Program}{w:World}{n₀:Nat}{ann:Option Value}:∀{n:Nat}{s s':SharedT}{t:Thread},BM (stepOk n₀ ann) (stepT (denote tb) p w) n s t=some s'→topRun tb p w n₀ ann n s.abs t=some s'.abs
 |0,_,_,_,h=>by cases h
 |n+1,s,s',t,h=>by
  unfold BM at h
  unfold topRun
  cases hk:through t with
  |true=>rw[hk] at h; exact cA0 (λx=>some (SharedT.abs x)) (sI h)
  |false=>
   rw[hk] at h
   cases hs:stepOk n₀ ann t with
   |false=>rw[hs] at h; cases h
   |true=>
    rw[hs] at h
    cases ht:stepT (denote tb) p w s t with
    |none=>rw[ht] at h; cases h
    |some q=>rw[ht] at h; rw[stepT_spec (s':=q.1) (t':=q.2) ht]; exact Bv h
noncomputable def Bw:List Obj→Nat→BT→BT
 |[],_,t=>t
 |o::l,n,t=>Bw l (n+1) (t.ins n o)
noncomputable def t0(P:Params):BT:=Bw (boot_heap P).objs.toList 0 .nil
theorem No(P:Params):absHeap (t0 P) (boot_heap P).objs.size (boot_heap P).life=boot_heap P:=by kernel_rfl
noncomputable def s0(w:World)(os:OsState):SharedT:=⟨t0 w.params,(boot_heap w.params).objs.size,(boot_heap w.params).life,#[],boot_drawn,boot_toks,os⟩
noncomputable abbrev J3:=PySem.W.Fast.tw6613529449190102663 11 (some (.ref 6))
noncomputable abbrev I9(w:World):=PySem.W.Fast.tw10156331382660048174 (PySem.W.Fast.tw11892475500146522536 PySem.W.Fast.tw14364793385576792824) pw w
noncomputable def qv:Program:=view pw [51]
noncomputable def ls:List Str:=pw.boundNames.filter λn=>!(n == ("law" : Str))
noncomputable def Np(w:World)(s:Shared):Bool:=staticsOk (importedModules pw.main.body) (boot_heap w.params) s.heap&&namesBound pw s.heap&&gensDone s&&laidKept (boot_heap w.params) s.heap
theorem Mo:stepOk 11 (some (.ref 6))=J3:=congrFun (congrFun PySem.W.Fast.te6613529449190102663 11) (some (.ref 6))
theorem MV(w:World):stepT (denote treeTable) pw w=I9 w:=by
 rw[PySem.W.Fast.te10156331382660048174,PySem.W.Fast.te11892475500146522536,PySem.W.Fast.te14364793385576792824]
theorem Jp(P:Params):(boot_heap P).objs.size=11:=by kernel_rfl
theorem LZ(P:Params):(boot_heap P).nsMap mainGlobals "__annotations__" = some (.ref 6):=by kernel_rfl
theorem L0(P:Params):(boot_heap P).isNs mainGlobals=true:=by kernel_rfl
theorem MN:opening pw=plainProg pw.main.scope.names:=by kernel_rfl
theorem MW(s:Shared):fenceModules? pw s=some s:=by kernel_rfl
theorem ble_eq:Nat.ble 600 7040=true:=by kernel_rfl
theorem KM(w:World):(fencedOpening treeTable pw w 7040).map (λs=>(s.heap,s.gens,s.drawn,s.toks))=some (boot_heap w.params,Array.mk [],boot_drawn,boot_toks):=boot_open MN ble_eq MW w
theorem B5{p q:Program}{loose:List Str}{Xt:Shared→Bool}{α:Type}{Yf:Shared→α}{Ya:World→α}{N n:Nat}{ann:Option Value}{H₀:Params→Heap}{gs₀:Array GenState}{d₀:Drawn}{k₀:Nat}{T:World→OsState→Option SharedT}
  (open_:∀w:World,(fencedOpening treeTable p w N).map (λs=>(s.heap,s.gens,s.drawn,s.toks))=some (H₀ w.params,gs₀,d₀,k₀)) (h1:∀P,(H₀ P).isNs mainGlobals=true) (h2:(gs₀.size == 0)=true) (h3:∀P,(H₀ P).objs.size=n) (h4:∀P,(H₀ P).nsMap mainGlobals "__annotations__" = ann)
  (hT:∀w os s',T w os=some s'→topRun treeTable p w n ann N ⟨H₀ w.params,gs₀,d₀,k₀,os⟩ (topStub p)=some s'.abs)
  (h:∀w os,(T w os).map (λs=>(staticsOk (importedModules p.main.body) (H₀ w.params) s.abs.heap&&namesBound p s.abs.heap&&gensDone s.abs&&laidKept (H₀ w.params) s.abs.heap,openSeen q loose (importedModules p.main.body) Xt true s.abs,Yf s.abs))=some (true,openGood q loose,Ya w)):LeftO p q loose Xt Yf Ya N:=λw=>by
 obtain⟨⟨h0,gs,d,k,os⟩,e,e'⟩:=Option.map_eq_some_iff.mp (open_ w)
 obtain⟨rfl,rfl,rfl,rfl⟩:h0=H₀ w.params∧gs=gs₀∧d=d₀∧k=k₀:=by simpa using e'
 obtain⟨s',r,r2⟩:=Option.map_eq_some_iff.mp (h w os)
 obtain⟨l1,l2⟩:=Prod.mk.inj r2
 have t:=hT w os s' r
 have tf:topFrom treeTable p w N ⟨H₀ w.params,gs,d,k,os⟩=some s'.abs:=by
  unfold topFrom
  dsimp only
  rw[h1,h2,h3,h4,t]
  show(match staticsOk (importedModules p.main.body) (H₀ w.params) s'.abs.heap&&namesBound p s'.abs.heap&&gensDone s'.abs&&laidKept (H₀ w.params) s'.abs.heap with |true=>_ |false=>_)=_
  rw[l1]
 unfold openEnds
 rw[e]
 show(topFrom treeTable p w N _).map _=_
 rw[tf]
 exact cA0 some l2
theorem Ic(w:World)(os:OsState):(s0 w os).abs=⟨boot_heap w.params,Array.mk [],boot_drawn,boot_toks,os⟩:=cA0 (λh=>Shared.mk h (Array.mk []) boot_drawn boot_toks os) (No w.params)
theorem Ip(w:World)(os:OsState)(s':SharedT)(h:BM J3 (I9 w) 7040 (s0 w os) (topStub pw)=some s'):topRun treeTable pw w 11 (some (.ref 6)) 7040 ⟨boot_heap w.params,Array.mk [],boot_drawn,boot_toks,os⟩ (topStub pw)=some s'.abs:=by
 rw[←Ic]
 refine Bv ?_
 rw[Mo,MV]
 exact h
noncomputable def Xt(s:Shared):Bool:=recOk (RowW.records PySem.Challenge.rw_ot0026_01.row.toRowW) s
theorem aV{p:Prop}(e:false=true):p:=nomatch e
theorem al{α:Type}{a:α}{p:Prop}(e:none=some a):p:=nomatch e
theorem mc{M:Model}{Γ:Ctx}{p:Pos}{t:Sem Fin}{fs:List Frame}{s s':Shared}{e:End}(r:Runs M Γ p t fs s e s'):s.heap.objs.size≤s'.heap.objs.size:=by
 induction r with
 |update _ _ ih=>simpa [Heap.size_update] using ih
 |alloc _ ih=>
  dsimp only at ih
  rw[Heap.size_push] at ih
  exact lE0 (Nat.le_succ _) ih
 |_=>first
  |exact Nat.le_refl _
  |assumption
  |(rename_i a; exact a)
  |(rename_i a b; exact lE0 a b)
theorem GV{α:Type}{M:Model}(n:Nat)(m:Sem α):∀(Γ:Ctx)(Q:α→Pos→Shared→Prop)(E:Value→Pos→Shared→Prop)(p:Pos)(s:Shared),n≤s.heap.objs.size→Sem.wp M Γ m Q E p s→
  Sem.wp M Γ m (λa p' s'=>Q a p' s'∧n≤s'.heap.objs.size) (λe p' s'=>E e p' s'∧n≤s'.heap.objs.size) p s:=by
 induction m with
 |pure a=>intro Γ Q E p s hn h; exact⟨h,hn⟩
 |raise a=>intro Γ Q E p s hn h; exact⟨h,hn⟩
 |load a q k ih=>intro Γ Q E p s hn h; obtain⟨o,ho,h⟩:=h; exact⟨o,ho,ih o Γ Q E p s hn h⟩
 |update a q f k ih=>intro Γ Q E p s hn h; exact⟨h.1,ih () Γ Q E p _ (by rw[Heap.size_update]; exact hn) h.2⟩
 |alloc o k ih=>intro Γ Q E p s hn h; exact ih _ Γ Q E p _ (by rw[Heap.size_push]; omega) h
 |choose src c k ih=>intro Γ Q E p s hn h; exact⟨h.1,ih _ Γ Q E p _ hn h.2⟩
 |call c hd own l k ih=>
  intro Γ Q E p s hn h
  obtain⟨r,s',hr,h⟩:=h
  exact⟨r,s',hr,ih r Γ Q E p s' (lE0 hn (mc hr)) h⟩
 |genState gg k ih=>intro Γ Q E p s hn h; obtain⟨st,hs,h⟩:=h; exact⟨st,hs,ih _ Γ Q E p s hn h⟩
 |resume gg r l k ih=>
  intro Γ Q E p s hn h
  obtain⟨res,s',hw,h⟩:=h
  refine⟨res,s',hw,ih res Γ Q E p s' (lE0 hn ?_) h⟩
  unfold Wakes at hw
  split at hw
  ·exact hw.elim
  ·split at hw
   ·obtain⟨e₁,s₁,hr,_,_,rfl⟩:=hw; have:=mc hr; exact this
   ·obtain⟨_,rfl⟩:=hw; exact Nat.le_refl _
   ·obtain⟨_,rfl⟩:=hw; exact Nat.le_refl _
  ·obtain⟨e₁,s₁,hr,_,_,rfl⟩:=hw; have:=mc hr; exact this
  ·obtain⟨_,rfl⟩:=hw; exact Nat.le_refl _
  ·obtain⟨_,rfl⟩:=hw; exact Nat.le_refl _
 |_=>first
  |(intro Γ Q E p s hn h; exact h.elim)
  |(rename_i ih; intro Γ Q E p s hn h; exact ih _ Γ Q E _ _ hn h)
theorem xi{α:Type}{M:Model}{A:Around}{m:Sem α}{Q:α→Shared→Prop}{E:Value→Shared→Prop}{s:Shared}(h:wpAny M A m Q E s) :
  wpAny M A m (λa s'=>Q a s'∧s.heap.objs.size≤s'.heap.objs.size) (λe s'=>E e s'∧s.heap.objs.size≤s'.heap.objs.size) s:=λΓ p hΓ=>
 GV _ m Γ _ _ p s (Nat.le_refl _) (h Γ p hΓ)
theorem aW{α:Type}{M:Model}{A:Around}{m:Sem α}{Q:α→Shared→Prop}{E:Value→Shared→Prop}{s:Shared}(h:wpAny M A m (λa s'=>s.heap.objs.size≤s'.heap.objs.size→Q a s') (λe s'=>s.heap.objs.size≤s'.heap.objs.size→E e s') s) :
  wpAny M A m Q E s:=wpAny_mono (xi h) (λ_ _ h=>h.1 h.2) λ_ _ h=>h.1 h.2
set_option genInjectivity true in
inductive AV where
 |none
 |bool (b:Bool)
 |int (i:Int)
 |str (k:Nat)
 |txt (n:Nat)
 |tup (l:List AV)
 |obj (i:Nat)
 |g (a:Nat)
 |b (k:Nat)
 |tok (k c:Nat)
inductive Dr where
 |take (t d:Nat)
 |mac (k c:Nat)
 |strt (hm:Bool) (V:List (List Nat))
inductive ME where
 |none (p:Pos)
 |bool (b:Bool) (p:Pos)
 |int (i:Int) (p:Pos)
 |str (k:Nat) (p:Pos)
 |name (x:Nat) (p:Pos)
 |bin (op:Operator) (a b:ME) (p:Pos)
 |cmp (op:CmpOp) (a b:ME) (p:Pos)
 |not (a:ME) (p:Pos)
 |neg (i:Int) (q p:Pos)
 |bop (op:BoolOp) (l:List ME) (p:Pos)
 |ifx (t a b:ME) (p:Pos)
 |tup (l:List ME) (p:Pos)
 |lst (l:List ME) (p:Pos)
 |dct (ks vs:List ME) (p:Pos)
 |att (o:ME) (x:Nat) (p:Pos)
 |sub (o i:ME) (p:Pos)
 |slU (o u:ME) (ps p:Pos)
 |slL (o l:ME) (ps p:Pos)
 |call (f:ME) (as:List ME) (p:Pos)
 |meth (o:ME) (x:Nat) (as:List ME) (pa p:Pos)
 |comp1 (elt t it:ME) (ifs:List ME) (sc:List (Nat×NameKind)) (p:Pos)
 |comp2 (elt t it t2 it2:ME) (ifs:List ME) (sc:List (Nat×NameKind)) (p:Pos)
 |lam (ps:List (Nat×Pos)) (body:ME) (sc:List (Nat×NameKind)) (p:Pos)
inductive MS where
 |expr (e:ME) (p:Pos)
 |asg (t v:ME) (p:Pos)
 |ret (e:ME) (p:Pos)
 |ret0 (p:Pos)
 |ite (t:ME) (b o:List MS) (p:Pos)
 |for_ (t it:ME) (b:List MS) (p:Pos)
 |rais (x:Nat) (px:Pos) (as:List ME) (pc p:Pos)
 |defn (x:Nat) (ps:List (Nat×Pos)) (body:List MS) (sc:List (Nat×NameKind)) (p:Pos)
inductive ai where
 |list (l:List AV)
 |dict (l:List (AV×AV))
 |fro (l:List (AV×AV))
 |inst (C:Nat) (d:Nat)
 |cell (v:Option AV)
 |lam (ps:List (Nat×Pos)) (body:ME) (sc:List (Nat×NameKind)) (cl:List (Nat×Nat))
 |fn (x:Nat) (ps:List (Nat×Pos)) (body:List MS) (sc:List (Nat×NameKind)) (cl:List (Nat×Nat))
 |vals (d:Nat)
 |tr (l:List Dr)
 |otok (k:Nat) (l refs:List Nat)
 |own
inductive T where
 |nil
 |node (v:Option ai) (l r:T)
namespace T
noncomputable def get(t:T):Nat→Option ai:=T.rec (λ_=>none) (λv _ _ gl gr i=>Bool.rec (Bool.rec (gr (i / 2-1)) (gl (i / 2)) (Nat.beq (i % 2) 1)) v (Nat.beq i 0)) t
noncomputable def set(k:Nat):T→Nat→Option ai→T:=Nat.rec (λt _ _=>t) (λ_ ih t i o=>
 T.rec (motive:=λ_=>T) (Bool.rec (Bool.rec (.node none .nil (ih .nil (i / 2-1) o)) (.node none (ih .nil (i / 2) o) .nil) (Nat.beq (i % 2) 1)) (.node o .nil .nil) (Nat.beq i 0))
  (λv l r _ _=>Bool.rec (Bool.rec (.node v l (ih r (i / 2-1) o)) (.node v (ih l (i / 2) o) r) (Nat.beq (i % 2) 1)) (.node o l r) (Nat.beq i 0)) t) k
end T
structure ac where
 n:Nat
 t:T
 f:List Prop
namespace ac
noncomputable def get(σ:ac)(i:Nat):Option ai:=σ.t.get i
noncomputable def push(σ:ac)(o:ai):ac:=⟨σ.n+1,σ.t.set (σ.n+1) σ.n (some o),σ.f⟩
noncomputable def set(σ:ac)(i:Nat)(o:ai):ac:=⟨σ.n,σ.t.set (i+1) i (some o),σ.f⟩
noncomputable def PH(σ:ac)(p:Prop):ac:=⟨σ.n,σ.t,p::σ.f⟩
end ac
inductive ax(α:Type) where
 |ok (a:α)
 |exc (c:Nat)
noncomputable abbrev aj(α:Type):=Option (List (ax α×ac))
noncomputable def af{α:Type}(a:α)(σ:ac):aj α:=some [(.ok a,σ)]
noncomputable def bindL{α β:Type}(f:α→ac→aj β)(l:List (ax α×ac)):aj β:=List.rec (some [])
 (λp r ih=>ax.rec (λa=>Option.rec none (λl=>List.rec (some l) (λ_ _ _=>Option.rec none (λm=>some (l++m)) ih) r) (f a p.2)) (λc=>Option.rec none (λl=>some ((.exc c,p.2)::l)) ih) p.1) l
theorem qI{α β:Type}(f:α→ac→aj β)(c:Nat)(σ:ac)(r:List (ax α×ac)):bindL f ((.exc c,σ)::r)=match bindL f r with
  |none=>none
  |some l=>some ((.exc c,σ)::l):=by
 show(Option.rec none (λl=>some ((.exc c,σ)::l)) (bindL f r):aj β)=_
 cases bindL f r <;> rfl
theorem kw{α β:Type}(f:α→ac→aj β)(a:α)(σ:ac)(r:List (ax α×ac)):bindL f ((.ok a,σ)::r)=match f a σ with
  |none=>none
  |some l=>match r with
   |[]=>some l
   |_::_=>match bindL f r with
    |none=>none
    |some m=>some (l++m):=by
 show(Option.rec none (λl=>List.rec (some l) (λ_ _ _=>Option.rec none (λm=>some (l++m)) (bindL f r)) r) (f a σ):aj β)=_
 cases f a σ with
 |none=>rfl
 |some l=>
  cases r with
  |nil=>rfl
  |cons y r=>cases bindL f (y::r) <;> rfl
noncomputable def bind{α β:Type}(o:aj α)(f:α→ac→aj β):aj β:=match o with
 |none=>none
 |some l=>bindL f l
noncomputable def ob{α β:Type}(o:Option α)(f:α→Option β):Option β:=Option.rec none f o
noncomputable def gd{β:Type}(b:Bool)(x:Option β):Option β:=Bool.rec none x b
noncomputable def aO{β:Type}(x y:Option β):Option β:=Option.rec y some x
noncomputable def iV:AV→Option Int
 | .int x=>some x
 |_=>none
noncomputable def yK:Int→Option Nat
 | .ofNat k=>some k
 | .negSucc _=>none
noncomputable def nV(a:AV):Option Nat:=ob (iV a) yK
noncomputable def bV:AV→Option Bool
 | .bool x=>some x
 |_=>none
noncomputable def sV:AV→Option Nat
 | .str x=>some x
 |_=>none
noncomputable def tV:AV→Option (List AV)
 | .tup x=>some x
 |_=>none
noncomputable def oV:AV→Option Nat
 | .obj x=>some x
 |_=>none
noncomputable def lO:Option ai→Option (List AV)
 |some (.list l)=>some l
 |_=>none
noncomputable def dO:Option ai→Option (List (AV×AV))
 |some (.dict l)=>some l
 |_=>none
noncomputable def fO:Option ai→Option (List (AV×AV))
 |some (.fro l)=>some l
 |_=>none
noncomputable def iO:Option ai→Option (Nat×Nat)
 |some (.inst C d)=>some (C,d)
 |_=>none
noncomputable def vO:Option ai→Option Nat
 |some (.vals d)=>some d
 |_=>none
noncomputable def one{α:Type}:List α→Option α
 |[a]=>some a
 |_=>none
noncomputable def fB{α:Type}:List α→Option (α×α)
 |[a,b]=>some (a,b)
 |_=>none
noncomputable def aY{α:Type}(l:List α):Nat→Option α:=List.rec (λ_=>none) (λa _ ih n=>Nat.rec (some a) (λn _=>ih n) n) l
noncomputable def cH:AV:= .tup [.str 39, .str 225]
noncomputable def aF(x:Nat):AV:= .tup [.str 14, .str x, .tup [], .tup []]
noncomputable def nC(t:AV):AV:= .tup [.str 10,t]
noncomputable def pW(r:Nat)(m:Bool)(t:AV):AV:= .tup [.str 8, .str r, .bool m,t]
noncomputable def mf(l:List AV):AV:= .tup [.str 13, .tup l]
noncomputable def sr(t:AV):AV:= .tup [.str 11,t, .int 2]
noncomputable def aI:List Nat:=[162,163,164]
noncomputable def B9(inner:List AV):List AV:=cH::aI.map aF++aI.map (λx=>nC (aF x))++aI.map (λx=>pW 168 false (aF x))++inner.map (λt=>mf [cH,t])++inner.map sr++inner.map nC
noncomputable def K9:List AV:=B9 (B9 [cH])
noncomputable def wI(self:AV)(rs:List Nat):List AV:=((cH::self::rs.map λr=>pW r false cH).map λi=>i::rs.map (λr=>pW r true i)++rs.map λr=>mf [i,pW r false i]).flatten
noncomputable def EP:AV:= .tup [.str 26, .str 118]
noncomputable def tS:AV:= .tup [.str 14, .str 195, .tup [.str 196], .tup []]
noncomputable def Lp:List AV:=wI EP [202,203,168]
noncomputable def KG:List AV:=wI tS [204,205,168,196]
noncomputable def ER(r:Nat):AV:=if r=202∨r=203 then .tup [.str 117, .str r] else .str r
noncomputable def nM(self:AV)(rs:List AV):List AV:=
 let rf:=λ(r:AV) (m:Bool) (t:AV)=>AV.tup [.str 8,r, .bool m,t]
 ((cH::self::rs.map λr=>rf r false cH).map λi=>i::rs.map (λr=>rf r true i)++rs.map λr=>mf [i,rf r false i]).flatten
noncomputable def IR:List AV:=nM EP ([202,203,168].map ER)
noncomputable def Kh:List AV:=nM tS ([202,203,168].map ER)
noncomputable def JB:List AV:=nM (.tup [.str 14, .str 195, .tup [.none], .tup []]) [.none]
noncomputable def KT:List AV:=[.tup [.str 117, .str 202], .tup [.str 117, .str 203], .str 168, .str 196, .str 204, .str 205, .str 202, .str 203]
noncomputable def rX:Nat→List AV
 |0=>K9
 |1=>Lp
 |2=>KG
 |3=>IR
 |4=>Kh
 |5=>JB
 |6=>KT
 |7=>B9 [cH]
 |8=>[cH]
 |_=>[]
noncomputable def bu(k c:Nat):Option AV:=aY (rX k) c
noncomputable def bp(s:Int×Int)(t:Nat):Nat×(Int×Int):=
 if 0<s.1 then((s.1 % t).toNat,(s.1 / t,s.2)) else
  let y:=(s.2 * 39373+7) % 2147483647
  ((((y * y) % 2147483629 / 32) % t).toNat,(s.1,y))
noncomputable def gF:List (Nat×Nat)→Int×Int→Int×Int→Prop
 |[],s,s'=>s'=s
 |(t,d)::r,s,s'=>(bp s t).1=d∧gF r (bp s t).2 s'
noncomputable def ah(n:Nat):List Nat:=List.range n
noncomputable def ES:Nat→Nat
 |0=>1
 |d+1=>10+3 * ES d
noncomputable def fE:Nat→List (List (Nat×Nat)×Nat)
 |0=>(ah 7).flatMap λw=>(ah 3).map λx=>([(7,w),(3,x)],0)
 |d+1=>(ah 7).flatMap λw=>(ah 3).flatMap λx=>match w with
  |0=>[([(7,w),(3,x)],0)]
  |1=>[([(7,w),(3,x)],0)]
  |2=>[([(7,w),(3,x)],1+x)]
  |3=>(ah 2).map λz=>([(7,w),(3,x),(2,z)],match z with |0=>4+x |_=>7+x)
  |w'+4=>(fE d).map λq=>((7,w)::(3,x)::q.1,10+w' * ES d+q.2)
noncomputable def AU(n:Nat):List (List (Nat×Nat)×Nat):=(ah n).flatMap λa=>(ah n).flatMap λb=>(ah 3).flatMap λi=>(ah 3).map λo=>
 ([(n,a),(n,b),(3,i),(3,o)],(match i with |0=>0 |1=>1 |_=>2+b) * (1+2 * n)+match o with |0=>0 |1=>1+a |_=>1+n+a)
noncomputable def mX:Nat→List (List (Nat×Nat)×Nat)
 |0=>fE 2
 |1=>AU 3
 |2=>AU 4
 |3=>fE 0
 |4=>fE 1
 |_=>[]
noncomputable def yz(k c:Nat)(s s':Int×Int):Prop:=∃τ,(τ,c)∈mX k∧gF τ s s'
noncomputable def rG(k:Nat):List Nat→Int×Int→Int×Int→Prop
 |[],s,s'=>s'=s
 |c::l,s,s'=>∃s1,yz k c s s1∧rG k l s1 s'
noncomputable def rB:List (List Nat)→Int×Int→Int×Int→Prop
 |[],s,s'=>s'=s
 |cs::V,s,s'=>∃s1,(bp s 3).1=cs.length∧rG 0 cs (bp s 3).2 s1∧rB V s1 s'
noncomputable def DX(hm:Bool)(V:List (List Nat))(s s':Int×Int):Prop:=∃a b s1,gF [(2,a),(2,b)] s s1∧hm=Nat.beq a 0∧V.length=1+(match a with |0=>b |_=>0)∧rB V s1 s'
noncomputable def Qd:Dr→Int×Int→Int×Int→Prop
 | .take t d,s,s'=>gF [(t,d)] s s'
 | .mac k c,s,s'=>yz k c s s'
 | .strt hm V,s,s'=>DX hm V s s'
noncomputable def df:List Dr→Int×Int→Prop
 |[],_=>True
 |d::l,s=>∃s',Qd d s s'∧df l s'
noncomputable def lM(x:Nat):AV:=aF x
noncomputable def kc(l:List Nat):List Nat:=match l with
 |[]=>[]
 |c::r=>match r with
  |[]=>[c]
  |d::_=>[c,d]
noncomputable def de:List Nat→List Nat→List Nat
 |[],_=>[]
 |a::l,rs=>match rs with
  |[]=>[]
  |_::r=>a::de l r
noncomputable def otokL:Nat→List Nat→List Nat→List AV
 |0,l,_=>(kc l).map λc=> .tup [.txt 30, .tok 0 c]
 |1,_,rs=>rs.map λr=> .tup [.txt 80, .str 13, .obj r]
 |2,l,_=>l.map (.tok 0)
 |3,l,_=>l.map .str
 |4,l,_=>l.map lM
 |5,l,_=>l.map (.tok 6)
 |6,l,_=>l.map (.tok 1)
 |7,l,_=>l.map (.tok 2)
 |8,l,rs=>(de l rs).map .str
 |9,l,rs=>match l with
  |t::_=>match rs with
   |[r0,r1]=>match t with
    |0=>[.tup [.txt 80, .str 13, .obj r0]]
    |_+1=>[.tup [.txt 80, .str 13, .obj r0], .tup [.txt 80, .str 13, .obj r1]]
   |_=>[]
  |_=>[]
 |_,_,_=>[]
structure Ev where
 fn:Nat
 sc:List (Nat×NameKind)
 loc:List (Nat×AV)
 cel:List (Nat×Nat)
inductive Fl where
 |next
 |ret (v:AV)
noncomputable abbrev ao:=List (Nat×AV)
noncomputable def look{α:Type}(x:Nat)(l:List (Nat×α)):Option α:=List.rec none (λp _ ih=>Bool.rec ih (some p.2) (Nat.beq x p.1)) l
noncomputable def put{α:Type}(x:Nat)(a:α):List (Nat×α)→List (Nat×α)
 |[]=>[(x,a)]
 |(y,b)::r=>match Nat.beq x y with
  |true=>(x,a)::r
  |false=>(y,b)::put x a r
noncomputable def u4{α:Type}:List α→Nat→α→List α
 |[],_,_=>[]
 |a::r,n,b=>match n with
  |0=>b::r
  |n+1=>a::u4 r n b
noncomputable def len{α:Type}(l:List α):Nat:=List.rec 0 (λ_ _ ih=>ih+1) l
structure Fn where
 name:Nat
 qual:Nat
 ps:List (Nat×Pos)
 dfe:List ME
 dfl:List AV
 body:List MS
 sc:List (Nat×NameKind)
 fast:List Nat
 code:Nat
structure qH where
 init:Nat
 meths:List (Nat×Nat)
inductive eW(α:Type) where
 |leaf
 |node (k:Nat) (v:α) (l r:eW α)
noncomputable def ek{α:Type}(x:Nat)(t:eW α):Option α:=eW.rec none (λk v _ _ gl gr=>Bool.rec (Bool.rec gr gl (Nat.ble x k)) (some v) (Nat.beq x k)) t
inductive eW.Has{α:Type}(x:Nat)(v:α):eW α→Prop
 |here (l r:eW α):Has x v (.node x v l r)
 |left (k:Nat) (u:α) {l:eW α} (r:eW α) (h:Has x v l):Has x v (.node k u l r)
 |right (k:Nat) (u:α) (l:eW α) {r:eW α} (h:Has x v r):Has x v (.node k u l r)
theorem gH{α:Type}{x:Nat}{v:α}:∀{t:eW α},ek x t=some v→t.Has x v
 | .leaf,h=>nomatch h
 | .node k u l r,h=>by
  have h:(Bool.rec (Bool.rec (ek x r) (ek x l) (Nat.ble x k)) (some u) (Nat.beq x k):Option α)=some v:=h
  cases q:Nat.beq x k with
  |true=>
   rw[q] at h; cases h
   rw[eB0 q]; exact .here l r
  |false=>
   rw[q] at h
   cases q2:Nat.ble x k with
   |true=>rw[q2] at h; exact .left k u r (gH h)
   |false=>rw[q2] at h; exact .right k u l (gH h)
structure Ib where
 fns:eW Fn
 clss:List (Nat×qH)
 glob:eW AV
structure aP where
 e:Ev→ME→ac→aj AV
 t:Ev→ME→ac→aj Bool
 s:Ev→List MS→ac→aj (Fl×ao)
 c:AV→List AV→ac→aj AV
noncomputable def hU(f:AV→AV→Option Bool):List AV→List AV→Option Bool
 |[],[]=>some true
 |x::l,y::m=>ob (f x y) λp=>ob (hU f l m) λq=>some (p&&q)
 |_,_=>some false
inductive VK where
 |none
 |bool (b:Bool)
 |int (x:Int)
 |str (k:Nat)
 |tup (l:List AV)
 |lst (i:Nat) (l:List AV)
noncomputable def vk(σ:ac):AV→Option VK
 | .none=>some .none
 | .bool b=>some (.bool b)
 | .int x=>some (.int x)
 | .str k=>some (.str k)
 | .tup l=>some (.tup l)
 | .obj i=>ob (lO (σ.get i)) λl=>some (.lst i l)
 |_=>none
noncomputable def eM(f:AV→AV→Option Bool)(x y:VK):Option Bool:=match x with
 | .none=>match y with
  | .none=>some true
  | .lst _ _=>none
  |_=>some false
 | .bool p=>match y with
  | .bool q=>some (p == q)
  | .int _=>none
  |_=>some false
 | .int p=>match y with
  | .none=>some false
  | .int q=>some (decide (p=q))
  |_=>none
 | .str p=>match y with
  | .str q=>some (Nat.beq p q)
  | .int _=>none
  |_=>some false
 | .tup l=>match y with
  | .tup m=>hU f l m
  | .int _=>none
  |_=>some false
 | .lst _ l=>match y with
  | .lst _ m=>hU f l m
  | .none=>none
  | .int _=>none
  |_=>some false
noncomputable def JE(σ:ac)(f:AV→AV→Option Bool)(a b:AV):Option Bool:=ob (vk σ a) λx=>ob (vk σ b) λy=>eM f x y
noncomputable def eqv(σ:ac):Nat→AV→AV→Option Bool
 |0=>λ_ _=>none
 |k+1=>JE σ (eqv σ k)
noncomputable def cQ:Nat:=12
noncomputable def c9(σ:ac)(x:AV):List AV→Option Bool
 |[]=>some false
 |y::r=>ob (eqv σ cQ y x) λp=>ob (c9 σ x r) λq=>some (p||q)
noncomputable def kP(x:AV):Option (Nat×Nat):=ob (tV x) λl=>ob (fB l) λp=>ob (sV p.1) λa=>ob (sV p.2) λb=>some (a,b)
noncomputable def Pq(x:AV):Option Unit:=aO (ob (sV x) λ_=>some ()) (ob (kP x) λ_=>some ())
noncomputable def x5(x:AV):Bool:=(Pq x).isSome
noncomputable def HD(k y:AV):Bool:=match k with
 | .str _=>match y with
  | .str _=>true
  |_=>false
 | .tup [.str _, .str _]=>match y with
  | .tup [.str _, .str _]=>true
  |_=>false
 |_=>false
noncomputable def fS(k:AV)(l:List (AV×AV)):Bool:=List.rec true (λp _ ih=>HD k p.1&&ih) l
noncomputable def pb(k y:AV):Bool:=match k with
 | .str a=>match y with
  | .str b=>Nat.beq a b
  |_=>false
 | .tup [.str a, .str b]=>match y with
  | .tup [.str c, .str d]=>Nat.beq a c&&Nat.beq b d
  |_=>false
 |_=>false
noncomputable def iY(k:AV)(l:List (AV×AV)):Option AV:=List.rec none (λp _ ih=>Bool.rec ih (some p.2) (pb k p.1)) l
theorem pj(k:AV)(p:AV×AV)(r:List (AV×AV)):iY k (p::r)=match pb k p.1 with |true=>some p.2 |false=>iY k r:=by
 show(Bool.rec (iY k r) (some p.2) (pb k p.1):Option AV)=_
 cases pb k p.1 <;> rfl
noncomputable def fC(k v:AV):List (AV×AV)→List (AV×AV)
 |[]=>[(k,v)]
 |p::r=>match pb k p.1 with
  |true=>(p.1,v)::r
  |false=>p::fC k v r
noncomputable def dP(k:AV)(l:List (AV×AV)):Option (Option AV):=gd (x5 k&&fS k l) (some (iY k l))
noncomputable def bc(n:Nat):Bool:=Nat.ble n 4000
noncomputable def gS(k v:AV)(l:List (AV×AV)):Option (List (AV×AV)):=gd (x5 k&&fS k l&&Nat.ble (len l) 500) (some (fC k v l))
section
variable (Γ:Ib)
noncomputable def fw(r:aP)(ev:Ev):List ME→ac→aj (List AV)
 |[],σ=>af [] σ
 |e::l,σ=>bind (r.e ev e σ) λv σ=>bind (fw r ev l σ) λvs σ=>af (v::vs) σ
noncomputable def gB(i:Int):Bool:=match i with
 | .ofNat n=>Nat.ble n 1000000
 | .negSucc n=>Nat.ble n 1000000
noncomputable def lU(i:Int):Bool:=match i with
 | .ofNat n=>Nat.ble n 18000000000000000000
 | .negSucc n=>Nat.ble n 18000000000000000000
noncomputable def Fh(x y:Int):Bool:=match x with
 | .ofNat n=>match y with
  | .ofNat m=>Nat.beq n 10&&Nat.beq m 18
  |_=>false
 |_=>false
noncomputable def xh(v:AV):Option Nat:=match v with
 | .str _=>some 50
 | .txt n=>some n
 |_=>none
noncomputable def Ls(a b:AV)(σ:ac):aj AV:=ob (iV a) λx=>ob (iV b) λy=>af (.int (x+y)) σ
noncomputable def KB(a b:AV)(σ:ac):aj AV:=ob (tV a) λl=>ob (tV b) λm=>gd (bc (len l+len m)) (af (.tup (l++m)) σ)
noncomputable def JT(a b:AV)(σ:ac):aj AV:=ob (oV a) λi=>ob (oV b) λj=>ob (lO (σ.get i)) λl=>ob (lO (σ.get j)) λm=>gd (bc (len l+len m)) (af (.obj σ.n) (σ.push (.list (l++m))))
noncomputable def La(a b:AV)(σ:ac):aj AV:=ob (xh a) λn=>ob (xh b) λm=>gd (Nat.ble (n+m) 1000000) (af (.txt (n+m)) σ)
noncomputable def Jt(a b:AV)(σ:ac):aj AV:=ob (iV a) λx=>ob (iV b) λy=>af (.int (x-y)) σ
noncomputable def HW(a b:AV)(σ:ac):aj AV:=ob (iV a) λx=>ob (iV b) λy=>gd (gB y||lU x) (af (.int (x * y)) σ)
noncomputable def IC(a b:AV)(σ:ac):aj AV:=ob (oV a) λi=>ob (nV b) λk=>ob (lO (σ.get i)) λl=>gd (bc (len l * k)&&bc k) (af (.obj σ.n) (σ.push (.list (List.flatten (List.replicate k l)))))
noncomputable def LC(a b:AV)(σ:ac):aj AV:=ob (iV a) λx=>ob (nV b) λk=>gd (Nat.blt 0 k) (af (.int (x % (.ofNat k))) σ)
noncomputable def Jn(a b:AV)(σ:ac):aj AV:=ob (iV a) λx=>ob (nV b) λk=>gd (Nat.blt 0 k&&Nat.ble k 4294967296) (af (.int (x / (.ofNat k))) σ)
noncomputable def LS(a b:AV)(σ:ac):aj AV:=ob (iV a) λx=>ob (iV b) λy=>gd (Fh x y) (af (.int 1000000000000000000) σ)
noncomputable def kH(op:Operator)(a b:AV)(σ:ac):aj AV:=match op with
 | .Add=>aO (Ls a b σ) (aO (KB a b σ) (aO (JT a b σ) (La a b σ)))
 | .Sub=>Jt a b σ
 | .Mult=>aO (HW a b σ) (IC a b σ)
 | .Mod=>LC a b σ
 | .FloorDiv=>Jn a b σ
 | .Pow=>LS a b σ
 |_=>none
noncomputable def cG(σ:ac)(v:AV):Option (List AV):=aO (tV v) (ob (oV v) λi=>lO (σ.get i))
noncomputable def i0(x y:Int):Bool:=match x with
 | .ofNat a=>match y with
  | .ofNat b=>Nat.blt a b
  | .negSucc _=>false
 | .negSucc a=>match y with
  | .ofNat _=>true
  | .negSucc b=>Nat.blt b a
noncomputable def Fm:AV→Option Bool
 | .none=>some true
 | .str _=>some false
 | .txt _=>some false
 | .tup _=>some false
 | .obj _=>some false
 |_=>none
noncomputable def gX:AV→Bool
 | .none=>true
 |_=>false
noncomputable def Ei(a b:AV)(σ:ac):Option Bool:=ob (oV b) λi=>ob (lO (σ.get i)) λl=>c9 σ a l
noncomputable def E8(a b:AV)(σ:ac):Option Bool:=ob (oV b) λi=>ob (dO (σ.get i)) λl=>ob (dP a l) λr=>some r.isSome
noncomputable def Oe(a b:AV)(σ:ac):Option Bool:=ob (oV b) λi=>ob (vO (σ.get i)) λd=>ob (dO (σ.get d)) λl=>c9 σ a (l.map (·.2))
noncomputable def Ft(a b:AV)(σ:ac):Option Bool:=ob (tV b) λl=>c9 σ a l
noncomputable def nX(o:Option Bool):Option Bool:=ob o λp=>some (!p)
noncomputable def gw(op:CmpOp)(a b:AV)(σ:ac):Option Bool:=match op with
 | .Eq=>eqv σ cQ a b
 | .NotEq=>nX (eqv σ cQ a b)
 | .Lt=>ob (iV a) λx=>ob (iV b) λy=>some (i0 x y)
 | .Gt=>ob (iV a) λx=>ob (iV b) λy=>some (i0 y x)
 | .GtE=>ob (iV a) λx=>ob (iV b) λy=>some (!(i0 x y))
 | .Is=>gd (gX b) (Fm a)
 | .IsNot=>gd (gX b) (nX (Fm a))
 | .In=>aO (Ei a b σ) (aO (E8 a b σ) (aO (Oe a b σ) (Ft a b σ)))
 | .NotIn=>nX (aO (Ei a b σ) (aO (E8 a b σ) (Ft a b σ)))
 |_=>none
noncomputable def uk:Nat:=83296094391348340256690245313024146861629407232
noncomputable def oy(x:Nat):Bool:=Nat.testBit uk x
noncomputable def Ep(o:AV)(x:Nat)(σ:ac):Option AV:=gd (oy x) (ob (oV o) λi=>ob (iO (σ.get i)) λp=>ob (dO (σ.get p.2)) λl=>ob (dP (.str x) l) id)
noncomputable def Ih(o i:AV):Option AV:=ob (tV o) λl=>ob (nV i) λk=>gd (bc k) (aY l k)
noncomputable def Lb(o i:AV)(σ:ac):Option AV:=ob (oV o) λj=>ob (lO (σ.get j)) λl=>ob (nV i) λk=>gd (bc k) (aY l k)
noncomputable def Jj(o i:AV)(σ:ac):Option AV:=ob (oV o) λj=>ob (aO (dO (σ.get j)) (fO (σ.get j))) λl=>ob (dP i l) id
noncomputable def rN(o i:AV)(σ:ac):Option AV:=aO (Ih o i) (aO (Lb o i σ) (Jj o i σ))
noncomputable def rT{α:Type}:Nat→List α→List α
 |0,_=>[]
 |_+1,[]=>[]
 |n+1,a::l=>a::rT n l
noncomputable def rt{α:Type}:Nat→List α→List α
 |0,l=>l
 |_+1,[]=>[]
 |n+1,_::l=>rt n l
noncomputable def E9(o u:AV)(σ:ac):aj AV:=ob (nV u) λk=>ob (oV o) λj=>ob (lO (σ.get j)) λl=>gd (Nat.ble k (len l)&&bc (len l)) (af (.obj σ.n) (σ.push (.list (rT k l))))
noncomputable def Ee(o u:AV)(σ:ac):aj AV:=ob (nV u) λk=>ob (oV o) λj=>ob (lO (σ.get j)) λl=>gd (Nat.ble k (len l)&&bc (len l)) (af (.obj σ.n) (σ.push (.list (rt k l))))
inductive It where
 |seq (v:AV)
 |range (n:Nat)
 |enum (v:AV)
 |zip (u v:AV) (o:Nat)
 |keys (j:Nat)
noncomputable def yf:List AV→Option (List Nat)
 |[]=>some []
 |a::l=>ob (sV a) λk=>ob (yf l) λks=>some (k::ks)
noncomputable def yb:List Nat→Bool
 |[]=>true
 |[_]=>true
 |[a,b,c]=>Nat.beq a 162&&(Nat.beq b 163&&Nat.beq c 164)
 |_=>false
noncomputable def AJ(l:List AV):Bool:=(ob (yf l) λks=>gd (yb ks) (some ())).isSome
noncomputable def Qg(v:AV)(σ:ac):Option (List AV):=cG σ v
noncomputable def mB:List (AV×AV)→Bool
 |[]=>true
 |p::r=>match p.1 with
  | .str _=>mB r
  |_=>false
noncomputable def H5:Option ai→Bool
 |some .own=>true
 |_=>false
noncomputable def bC{α:Type}(l:List α):Bool:=List.rec true (λ_ _ _=>false) l
noncomputable def lv(l m:List AV)(k:Nat):Option AV:=ob (aY l k) λx=>ob (aY m k) λy=>some (.tup [x,y])
noncomputable def du(it:It)(k:Nat)(σ:ac):Option (Option AV):=match it with
 | .seq v=>ob (cG σ v) λl=>some (aY l k)
 | .range n=>some (bif Nat.blt k n then some (.int (.ofNat k)) else none)
 | .enum v=>ob (cG σ v) λl=>gd (bC l) (some none)
 | .zip u v o=>gd (H5 (σ.get o)) (ob (cG σ u) λl=>ob (cG σ v) λm=>some (lv l m k))
 | .keys j=>ob (fO (σ.get j)) λl=>gd (mB l) (some (aY (l.map (·.1)) k))
noncomputable def thaw{α:Type}(j:Nat):List (ax α×ac)→aj α
 |[]=>some []
 |p::r=>ob (fO (p.2.get j)) λl=>ob (thaw j r) λm=>some ((p.1,p.2.set j (.dict l))::m)
noncomputable def KF{α:Type}(j:Nat)(f:ac→aj α)(σ:ac):aj α:=ob (dO (σ.get j)) λl=>ob (f (σ.set j (.fro l))) λm=>thaw j m
noncomputable def Jd(v:AV)(σ:ac):Option It:=aO (ob (cG σ v) λ_=>some (.seq v)) (ob (oV v) λi=>ob (dO (σ.get i)) λl=>gd (mB l) (some (.keys i)))
noncomputable def i4(v:AV)(σ:ac):Bool:=(ob (oV v) λi=>lO (σ.get i)).isSome
noncomputable def i5(v:AV):Bool:=(tV v).isSome
noncomputable def gV(it:It)(t:ME):Bool:=match it with
 | .zip _ _ _=>match t with
  | .tup _ _=>true
  |_=>false
 |_=>true
noncomputable def EV(v:AV)(σ:ac):Bool:=(ob (cG σ v) λl=>gd (bC l) (some ())).isSome
noncomputable def dM:List (Nat×NameKind)→List Nat→List Nat
 |[],r=>r
 |p::l,r=>dM l (match p.2 with
  | .cell=>p.1::r
  |_=>r)
noncomputable def jJ(x:Nat)(l:List Nat):Bool:=List.rec false (λy _ ih=>Nat.beq x y||ih) l
noncomputable def jp:List Nat→Bool
 |[]=>true
 |x::r=>!jJ x r&&jp r
noncomputable def d9(sc:List (Nat×NameKind))(x:Nat):Bool:=match look x sc with
 |some .local=>true
 |_=>false
noncomputable def l7(sc:List (Nat×NameKind))(x:Nat):Bool:=!d9 sc x
noncomputable def iu(b:ao)(σ:ac)(l:List Nat):List (Nat×Nat)×ac:=List.rec ([],σ) (λx _ p=>((x,p.2.n)::p.1,p.2.push (.cell (look x b)))) l
noncomputable def d6(p:Nat→Bool):List (Nat×AV)→ao→ao
 |[],l=>l
 |q::r,l=>d6 p r (bif p q.1 then put q.1 q.2 l else l)
noncomputable def pF(sc:List (Nat×NameKind))(b:List (Nat×AV)):Bool:=List.rec true (λp _ ih=>(d9 sc p.1||jJ p.1 (dM sc [])&&(match look p.1 sc with |some .cell=>true |_=>false))&&ih) b
noncomputable def l8(sc:List (Nat×NameKind)):Bool:=List.rec true (λp _ ih=>(match p.2 with | .cell=>false |_=>true)&&ih) sc
noncomputable def rF:List (Nat×Pos)→List AV→Option (List (Nat×AV))
 |[],[]=>some []
 |p::r,v::l=>ob (rF r l) λb=>some ((p.1,v)::b)
 |_,_=>none
noncomputable def po(f:Fn)(vs:List AV):Option (List (Nat×AV)):=rF f.ps (vs++rt (len vs+len f.dfl-len f.ps) f.dfl)
noncomputable def pe:NameKind→Bool
 | .free=>true
 |_=>false
noncomputable def cM(cel:List (Nat×Nat)):List (Nat×NameKind)→Option (List (Nat×Nat))
 |[]=>some []
 |p::r=>ob (cM cel r) λl=>bif pe p.2 then ob (look p.1 cel) λc=>some ((p.1,c)::l) else some l
noncomputable def cE:Fl×ao→AV
 |(.next,_)=> .none
 |(.ret v,_)=>v
noncomputable def yX(r:aP)(F:Fn)(b:List (Nat×AV))(σ:ac):aj AV:=gd (pF F.sc b&&jp (dM F.sc []))
 (bind (r.s ⟨F.code,F.sc,d6 (d9 F.sc) b [],(iu (d6 (l7 F.sc) b []) σ (dM F.sc [])).1⟩ F.body (iu (d6 (l7 F.sc) b []) σ (dM F.sc [])).2) λp σ=>af (cE p) σ)
noncomputable def lY(f:Ev→ac→aj AV)(ps:List (Nat×Pos))(sc:List (Nat×NameKind))(cl:List (Nat×Nat))(vs:List AV)(σ:ac):aj AV:=
 ob (one ps) λp=>ob (one vs) λv=>gd (Nat.beq p.1 18&&(d9 sc p.1&&l8 sc)) (f ⟨0,sc,[(p.1,v)],cl⟩ σ)
noncomputable def Qf(k:Nat):Nat:=k
noncomputable def jv:List AV→List AV→List (AV×AV)→Option (List (AV×AV))
 |a::l,b::m,d=>ob (gS a b d) λd'=>jv l m d'
 |_,_,d=>some d
noncomputable def x9:ME→Option Nat
 | .str k _=>some k
 |_=>none
noncomputable def pK:List ME→Option (List AV)
 |[]=>some []
 |e::l=>ob (x9 e) λk=>ob (pK l) λr=>some (.str k::r)
noncomputable def kX:List AV→Bool
 |[]=>true
 | .str _::l=>kX l
 | .txt n::l=>Nat.ble n 4000&&kX l
 |_::_=>false
noncomputable def KJ(v:AV)(σ:ac):aj AV:=aO (ob (tV v) λl=>gd (bc (len l)) (af (.int (.ofNat (len l))) σ)) (ob (oV v) λi=>ob (lO (σ.get i)) λl=>gd (bc (len l)) (af (.int (.ofNat (len l))) σ))
noncomputable def Jr(p:AV×AV)(σ:ac):aj AV:=ob (iV p.1) λx=>ob (iV p.2) λy=>af (.int (if x<y then y else x)) σ
noncomputable def LG(v:AV)(σ:ac):aj AV:=aO (ob (bV v) λb=>af (.int (match b with |true=>1 |false=>0)) σ) (ob (iV v) λi=>af (.int i) σ)
noncomputable def KO(v:AV)(σ:ac):aj AV:=aO (ob (tV v) λl=>af (.tup l) σ) (ob (oV v) λi=>ob (lO (σ.get i)) λl=>gd (bc (len l)) (af (.tup l) σ))
noncomputable def JG(v:AV)(σ:ac):aj AV:=ob (cG σ v) λl=>gd (bc (len l)) (af (.obj σ.n) (σ.push (.list l)))
noncomputable def JX(v:AV)(σ:ac):aj AV:=ob (oV v) λi=>ob (dO (σ.get i)) λl=>gd (AJ (l.map (·.1))) (af (.obj σ.n) (σ.push (.list (l.map (·.1)))))
noncomputable def Jo:AV→Option Bool
 | .str _=>some true
 | .txt _=>some true
 | .tup _=>some false
 | .none=>some false
 |_=>none
noncomputable def Cc:AV→Option Bool
 | .str _=>some false
 | .tup _=>some true
 |_=>none
noncomputable def KS:AV→Option Nat
 | .b k=>some k
 |_=>none
noncomputable def I7(p:AV×AV)(σ:ac):aj AV:=ob (KS p.2) λk=>aO (gd (Nat.beq k 11) (ob (Jo p.1) λb=>af (.bool b) σ)) (gd (Nat.beq k 4) (ob (Cc p.1) λb=>af (.bool b) σ))
noncomputable def JJ(v:AV)(σ:ac):aj AV:=ob (iV v) λi=>gd (gB i) (af (.txt 30) σ)
noncomputable def qF(k:Nat)(vs:List AV)(σ:ac):aj AV:=match k with
 |0=>ob (one vs) λv=>KJ v σ
 |1=>ob (fB vs) λp=>Jr p σ
 |2=>ob (one vs) λv=>LG v σ
 |4=>ob (one vs) λv=>KO v σ
 |5=>ob (one vs) λv=>JG v σ
 |9=>ob (one vs) λv=>JX v σ
 |10=>ob (fB vs) λp=>I7 p σ
 |11=>ob (one vs) λv=>JJ v σ
 |_=>none
noncomputable def Bm(r:aP)(a:Nat)(C:qH)(vs:List AV)(σ:ac):aj AV:=ob (ek C.init Γ.fns) λF=>ob (po F (.obj (σ.n+1)::vs)) λb=>
 bind (yX r F b ((σ.push (.dict [])).push (.inst a σ.n))) λv σ'=>gd (gX v) (af (.obj (σ.n+1)) σ')
noncomputable def Cw(r:aP)(a:Nat)(vs:List AV)(σ:ac):aj AV:=match ek a Γ.fns with
 |some F=>ob (po F vs) λb=>yX r F b σ
 |none=>ob (look a Γ.clss) λC=>Bm Γ r a C vs σ
noncomputable def FE(r:aP)(o:Option ai)(vs:List AV)(σ:ac):aj AV:=match o with
 |some (.lam ps body sc cl)=>lY (λev σ=>r.e ev body σ) ps sc cl vs σ
 |some (.fn _ ps body sc cl)=>lY (λev σ=>bind (r.s ev body σ) λp σ=>af (cE p) σ) ps sc cl vs σ
 |_=>none
noncomputable def bv(r:aP)(f:AV)(vs:List AV)(σ:ac):aj AV:=match f with
 | .g a=>Cw Γ r a vs σ
 | .b k=>qF k vs σ
 | .obj i=>FE r (σ.get i) vs σ
 |_=>none
inductive d8 where
 |fn (f:Nat)
 |app
 |extend
 |pop
 |get
 |values
 |join
noncomputable def yE(C d x:Nat)(σ:ac):Option d8:=ob (dO (σ.get d)) λl=>ob (dP (.str x) l) λr=>match r with
 |none=>ob (look C Γ.clss) λc=>ob (look x c.meths) λf=>some (.fn f)
 |some _=>none
noncomputable def iK(o:AV)(x:Nat)(σ:ac):Option d8:=aO (ob (oV o) λi=>aO (ob (iO (σ.get i)) λp=>yE Γ p.1 p.2 x σ) (aO (ob (lO (σ.get i)) λ_=>look x [(0,d8.app),(1, .extend),(2, .pop)]) (ob (dO (σ.get i)) λ_=>look x [(3,d8.get),(5, .values)]))) (ob (sV o) λ_=>look x [(4,d8.join)])
noncomputable def AQ(vs:List AV)(σ:ac):aj AV:=ob (one vs) λv=>ob (oV v) λj=>ob (lO (σ.get j)) λl=>gd (Nat.ble (len l) 20&&kX l) (af (.txt 100000) σ)
noncomputable def xL(i:Nat)(l:List AV)(vs:List AV)(σ:ac):aj AV:=ob (one vs) λv=>gd (bc (len l)) (af .none (σ.set i (.list (l++[v]))))
noncomputable def tI(i:Nat)(l:List AV)(vs:List AV)(σ:ac):aj AV:=ob (one vs) λv=>ob (oV v) λj=>gd (!Nat.beq i j) (ob (lO (σ.get j)) λm=>gd (bc (len l+len m)) (af .none (σ.set i (.list (l++m)))))
noncomputable def xO(i:Nat)(l:List AV)(vs:List AV)(σ:ac):aj AV:=gd (Nat.beq (len vs) 0) (ob (aY l (len l-1)) λv=>gd (bc (len l)) (af v (σ.set i (.list (rT (len l-1) l)))))
noncomputable def ot(l:List (AV×AV))(vs:List AV)(σ:ac):aj AV:=ob (fB vs) λp=>ob (dP p.1 l) λr=>af (r.getD p.2) σ
noncomputable def sR(i:Nat)(vs:List AV)(σ:ac):aj AV:=gd (Nat.beq (len vs) 0) (af (.obj σ.n) (σ.push (.vals i)))
noncomputable def tM(f:Nat→List AV→List AV→ac→aj AV)(o:AV)(vs:List AV)(σ:ac):aj AV:=ob (oV o) λi=>ob (lO (σ.get i)) λl=>f i l vs σ
noncomputable def AY(f:Nat→List (AV×AV)→List AV→ac→aj AV)(o:AV)(vs:List AV)(σ:ac):aj AV:=ob (oV o) λi=>ob (dO (σ.get i)) λl=>f i l vs σ
noncomputable def jT(r:aP)(m:d8)(o:AV)(vs:List AV)(σ:ac):aj AV:=match m with
 | .fn f=>r.c (.g f) (o::vs) σ
 | .join=>ob (sV o) λ_=>AQ vs σ
 | .app=>tM xL o vs σ
 | .extend=>tM tI o vs σ
 | .pop=>tM xO o vs σ
 | .get=>AY (λ_ l vs σ=>ot l vs σ) o vs σ
 | .values=>AY (λi _ vs σ=>sR i vs σ) o vs σ
noncomputable def cO:Option ai→Option (Option AV)
 |some (.cell v)=>some v
 |_=>none
noncomputable def IS(ev:Ev)(loc:ao)(x:Nat)(v:AV)(σ:ac):aj ao:=ob (look x ev.cel) λc=>ob (cO (σ.get c)) λ_=>af loc (σ.set c (.cell (some v)))
noncomputable def k9(ev:Ev)(loc:ao)(x:Nat)(v:AV)(σ:ac):aj ao:=ob (look x ev.sc) λk=>match k with
 | .local=>af (put x v loc) σ
 | .cell=>IS ev loc x v σ
 |_=>none
noncomputable def N3(o i v:AV)(σ:ac):Option ac:=ob (oV o) λj=>ob (lO (σ.get j)) λl=>ob (nV i) λk=>gd (Nat.blt k (len l)&&bc k) (some (σ.set j (.list (u4 l k v))))
noncomputable def PM(o i v:AV)(σ:ac):Option ac:=ob (oV o) λj=>ob (dO (σ.get j)) λl=>ob (gS i v l) λl'=>some (σ.set j (.dict l'))
noncomputable def za(o i v:AV)(σ:ac):Option ac:=aO (N3 o i v σ) (PM o i v σ)
noncomputable def Bq(o:AV)(x:Nat)(v:AV)(σ:ac):Option ac:=gd (oy x) (ob (oV o) λi=>ob (iO (σ.get i)) λp=>ob (dO (σ.get p.2)) λl=>ob (gS (.str x) v l) λl'=>some (σ.set p.2 (.dict l')))
noncomputable def uN{α:Type}(f:ao→α→AV→ac→aj ao):ao→List α→List AV→ac→aj ao
 |loc,[],[],σ=>af loc σ
 |loc,t::ts,v::vs,σ=>bind (f loc t v σ) λloc σ=>uN f loc ts vs σ
 |_,_,_,_=>none
noncomputable def wo(r:aP)(ev:Ev)(f:ao→ME→AV→ac→aj ao)(loc:ao)(t:ME)(v:AV)(σ:ac):aj ao:=match t with
 | .name x _=>k9 ev loc x v σ
 | .tup ts _=>ob (cG σ v) λvs=>gd (Nat.beq (len ts) (len vs)) (uN f loc ts vs σ)
 | .att o x _=>bind (r.e { ev with loc:=loc } o σ) λov σ=>ob (Bq ov x v σ) λσ=>af loc σ
 | .sub o i _=>bind (r.e { ev with loc:=loc } o σ) λov σ=>bind (r.e { ev with loc:=loc } i σ) λiv σ=>ob (za ov iv v σ) λσ=>af loc σ
 |_=>none
noncomputable def cR(r:aP)(ev:Ev):Nat→ao→ME→AV→ac→aj ao
 |0=>λ_ _ _ _=>none
 |n+1=>wo r ev (cR r ev n)
noncomputable def P4:NameKind→Bool
 | .globalImplicit=>true
 |_=>false
noncomputable def dG(ev:Ev)(x k:Nat):Bool:=(ob (look x ev.sc) λq=>gd (P4 q) (ob (ek x Γ.glob) λv=>ob (KS v) λj=>gd (Nat.beq j k) (some ()))).isSome
noncomputable def hZ:ME→Option Nat
 | .name x _=>some x
 |_=>none
noncomputable def rL:ME→Option (ME×List ME)
 | .call f as _=>some (f,as)
 |_=>none
noncomputable def Gd(r:aP)(ev:Ev)(as:List ME)(σ:ac):aj It:=ob (one as) λe=>bind (r.e ev e σ) λv σ=>ob (nV v) λn=>gd (bc n) (af (.range n) σ)
noncomputable def JQ(r:aP)(ev:Ev)(as:List ME)(σ:ac):aj It:=ob (one as) λe=>bind (r.e ev e σ) λv σ=>gd (EV v σ) (af (.enum v) σ)
noncomputable def Nk(r:aP)(ev:Ev)(as:List ME)(σ:ac):aj It:=ob (fB as) λp=>bind (r.e ev p.1 σ) λu σ=>bind (r.e ev p.2 σ) λv σ=>gd (i4 u σ&&i4 v σ||i5 u&&i5 v) (af (.zip u v σ.n) (σ.push .own))
noncomputable def vT(r:aP)(ev:Ev)(q:ME×List ME)(σ:ac):aj It:=ob (hZ q.1) λf=>aO (gd (dG Γ ev f 3) (Gd r ev q.2 σ)) (aO (gd (dG Γ ev f 8) (JQ r ev q.2 σ)) (gd (dG Γ ev f 7) (Nk r ev q.2 σ)))
noncomputable def Gg(r:aP)(ev:Ev)(it:ME)(σ:ac):aj It:=bind (r.e ev it σ) λv σ=>ob (Jd v σ) λi=>af i σ
noncomputable def b9(r:aP)(ev:Ev)(it:ME)(σ:ac):aj It:=aO (ob (rL it) λq=>vT Γ r ev q σ) (Gg r ev it σ)
noncomputable def jo(f:ao→ac→aj (Fl×ao))(p:Fl×ao)(σ:ac):aj (Fl×ao):=match p with
 |(.next,loc)=>f loc σ
 |(.ret v,loc)=>af (.ret v,loc) σ
noncomputable def forLoop(r:aP)(ev:Ev)(t:ME)(b:List MS)(it:It):Nat→Nat→ao→ac→aj (Fl×ao)
 |0,_,_,_=>none
 |m+1,k,loc,σ=>gd (gV it t) (ob (du it k σ) λo=>match o with
  |none=>af (.next,loc) σ
  |some v=>bind (cR r ev 5 loc t v σ) λloc σ=>bind (r.s { ev with loc:=loc } b σ) (jo (forLoop r ev t b it m (k+1))))
noncomputable def j0(r:aP)(ev:Ev):List ME→ac→aj Bool
 |[],σ=>af true σ
 |c::cs,σ=>bind (r.t ev c σ) λp σ=>match p with
  |true=>j0 r ev cs σ
  |false=>af false σ
noncomputable def compLoop(r:aP)(ev:Ev)(t:ME)(ifs:List ME)(body:ao→List AV→ac→aj (List AV×ao))(it:It):Nat→Nat→ao→List AV→ac→aj (List AV×ao)
 |0,_,_,_,_=>none
 |m+1,k,loc,acc,σ=>gd (gV it t) (ob (du it k σ) λo=>match o with
  |none=>af (acc,loc) σ
  |some v=>bind (cR r ev 5 loc t v σ) λloc σ=>bind (j0 r { ev with loc:=loc } ifs σ) λp σ=>match p with
   |true=>bind (body loc acc σ) λq σ=>compLoop r ev t ifs body it m (k+1) q.2 q.1 σ
   |false=>compLoop r ev t ifs body it m (k+1) loc acc σ)
noncomputable def cA:Nat:=1000
noncomputable def jh(r:aP)(ev:Ev)(elt:ME)(loc:ao)(acc:List AV)(σ:ac):aj (List AV×ao):=
 bind (r.e { ev with loc:=loc } elt σ) λv σ=>gd (bc (len acc)) (af (acc++[v],loc) σ)
noncomputable def Ng(o:Option Bool)(σ:ac):aj Bool:=ob o λp=>af p σ
noncomputable def Cb(o:Option AV)(σ:ac):aj AV:=ob o λp=>af p σ
noncomputable def BQ(r:aP)(ev:Ev)(op:BoolOp):List ME→ac→aj AV
 |[],_=>none
 |[e],σ=>r.e ev e σ
 |e::e'::l,σ=>bind (r.e ev e σ) λv σ=>ob (bV v) λp=>match op,p with
  | .And,false=>af (.bool false) σ
  | .Or,true=>af (.bool true) σ
  |_,_=>BQ r ev op (e'::l) σ
noncomputable def Cx(r:aP)(ev:Ev)(op:BoolOp):List ME→ac→aj Bool
 |[],σ=>af (match op with | .And=>true | .Or=>false) σ
 |e::l,σ=>bind (r.t ev e σ) λp σ=>match op,p with
  | .And,false=>af false σ
  | .Or,true=>af true σ
  |_,_=>Cx r ev op l σ
noncomputable def iq(ev:Ev)(x:Nat)(σ:ac):Option AV:=ob (look x ev.cel) λc=>ob (cO (σ.get c)) id
noncomputable def bw(ev:Ev)(x:Nat)(σ:ac):Option AV:=ob (look x ev.sc) λk=>match k with
 | .local=>look x ev.loc
 | .globalImplicit=>ek x Γ.glob
 | .cell=>iq ev x σ
 | .free=>iq ev x σ
 | .globalExplicit=>none
noncomputable def EX{α:Type}(l:List (ax α×ac)):Bool:=List.rec true (λp _ ih=>(match p.1 with | .ok _=>true | .exc _=>false)&&ih) l
noncomputable def DC{α:Type}(o:aj α):aj α:=ob o λl=>gd (EX l) (some l)
noncomputable def ox(p:Pos)(a b c d:Nat):Bool:=Nat.beq p.line a&&(Nat.beq p.col b&&(Nat.beq p.endLine c&&Nat.beq p.endCol d))
noncomputable def pS(ev:Ev)(f:ME)(as:List ME):Option (ME×ME):=ob (hZ f) λx=>gd (Nat.beq x 69&&dG Γ ev x 6) (ob (one as) λa=>ob (rL a) λq=>ob (hZ q.1) λy=>gd (dG Γ ev y 7) (fB q.2))
noncomputable def D9(r:aP)(ev:Ev)(ks vs:List ME)(σ:ac):aj AV:=ob (pK ks) λkv=>gd (Nat.beq (len ks) (len vs)&&Nat.ble (len ks) 10) (bind (fw r ev vs σ) λvv σ=>ob (jv kv vv []) λd=>af (.obj σ.n) (σ.push (.dict d)))
noncomputable def nS(l:List AV):Bool:=List.rec true (λa _ ih=>(sV a).isSome&&ih) l
noncomputable def Ez(u v:AV)(σ:ac):aj AV:=ob (tV u) λl=>ob (tV v) λm=>gd (bc (len l)&&(bc (len m)&&nS l)) (ob (jv l m []) λd=>af (.obj σ.n) (σ.push (.dict d)))
noncomputable def w6(a:Nat):Bool:=match ek a Γ.fns with
 |some _=>true
 |none=>match look a Γ.clss with
  |some _=>true
  |none=>Nat.beq a 367||Nat.beq a 374||Nat.beq a 401
noncomputable def NS:Option ai→Bool
 |some (.lam _ _ _ _)=>true
 |some (.fn _ _ _ _ _)=>true
 |_=>false
noncomputable def ju(f:AV)(σ:ac):Bool:=match f with
 | .g a=>w6 Γ a
 | .b k=>Nat.ble k 12
 | .obj i=>NS (σ.get i)
 |_=>false
noncomputable def wU(r:aP)(ev:Ev)(f:ME)(as:List ME)(σ:ac):aj AV:=aO (ob (pS Γ ev f as) λp=>bind (r.e ev p.1 σ) λu σ=>bind (r.e ev p.2 σ) λv σ=>Ez u v σ)
 (ob (hZ f) λ_=>bind (r.e ev f σ) λfv σ=>bind (fw r ev as σ) λvs σ=>gd (ju Γ fv σ) (r.c fv vs σ))
noncomputable def Oa(m:d8):Bool:=match m with
 | .fn f=>w6 Γ f
 |_=>true
noncomputable def wf(r:aP)(ev:Ev)(o:ME)(x:Nat)(as:List ME)(pa p:Pos)(σ:ac):aj AV:=gd (Nat.beq pa.endLine p.line&&Nat.ble (len as) 20) (bind (r.e ev o σ) λov σ=>ob (iK Γ ov x σ) λm=>bind (fw r ev as σ) λvs σ=>gd (Oa Γ m) (jT r m ov vs σ))
noncomputable def Fo(sc0 sc:List (Nat×NameKind)):Bool:=List.rec true (λp _ ih=>(match p.2 with | .local=>d9 sc0 p.1 |_=>true)&&ih) sc
noncomputable def ip:It→Bool
 | .seq _=>true
 | .range _=>true
 |_=>false
noncomputable def uI(sc:List (Nat×NameKind)):Bool:=l8 sc&&Fo sc sc
noncomputable def rS(r:aP)(ev:Ev)(it:ME)(loop:It→ac→aj (List AV×ao))(σ:ac):aj AV:=bind (b9 Γ r ev it σ) λi σ=>gd (ip i) (bind (DC (loop i σ)) λq σ=>af (.obj σ.n) (σ.push (.list q.1)))
noncomputable def iD(r:aP)(ev:Ev)(elt t2 it2:ME)(ifs:List ME)(loc:ao)(acc:List AV)(σ:ac):aj (List AV×ao):=bind (b9 Γ r { ev with loc:=loc } it2 σ) λi2 σ=>gd (ip i2) (compLoop r ev t2 ifs (jh r ev elt) i2 cA 0 loc acc σ)
noncomputable def comp1(r:aP)(ev:Ev)(elt t it:ME)(ifs:List ME)(sc:List (Nat×NameKind))(cl:List (Nat×Nat))(σ:ac):aj AV:=rS Γ r ev it (λi σ=>compLoop r ⟨0,sc,[],cl⟩ t ifs (jh r ⟨0,sc,[],cl⟩ elt) i cA 0 [] [] σ) σ
noncomputable def comp2(r:aP)(ev:Ev)(elt t it t2 it2:ME)(ifs:List ME)(sc:List (Nat×NameKind))(cl:List (Nat×Nat))(σ:ac):aj AV:=rS Γ r ev it (λi σ=>compLoop r ⟨0,sc,[],cl⟩ t [] (iD Γ r ⟨0,sc,[],cl⟩ elt t2 it2 ifs) i cA 0 [] [] σ) σ
noncomputable def sf(ev:Ev)(sc:List (Nat×NameKind))(f:List (Nat×Nat)→aj AV):aj AV:=ob (cM ev.cel sc) λcl=>gd (uI sc) (f cl)
noncomputable def wm(r:aP)(ev:Ev)(elt t it:ME)(ifs:List ME)(sc:List (Nat×NameKind))(σ:ac):aj AV:=sf ev sc λcl=>comp1 Γ r ev elt t it ifs sc cl σ
noncomputable def wn(r:aP)(ev:Ev)(elt t it t2 it2:ME)(ifs:List ME)(sc:List (Nat×NameKind))(σ:ac):aj AV:=sf ev sc λcl=>comp2 Γ r ev elt t it t2 it2 ifs sc cl σ
noncomputable def Eh(ev:Ev)(ps:List (Nat×Pos))(body:ME)(sc:List (Nat×NameKind))(p:Pos)(σ:ac):aj AV:=gd (Nat.beq ev.fn 229&&ox p 196 37 196 107) (ob (cM ev.cel sc) λcl=>af (.obj σ.n) (σ.push (.lam ps body sc cl)))
noncomputable def eV(r:aP)(ev:Ev)(e:ME)(σ:ac):aj AV:=match e with
 | .none _=>af .none σ
 | .bool b _=>af (.bool b) σ
 | .int i _=>af (.int i) σ
 | .str k _=>af (.str k) σ
 | .name x _=>Cb (bw Γ ev x σ) σ
 | .bin op a b _=>bind (r.e ev a σ) λva σ=>bind (r.e ev b σ) λvb σ=>kH op va vb σ
 | .cmp op a b _=>bind (r.e ev a σ) λva σ=>bind (r.e ev b σ) λvb σ=>ob (gw op va vb σ) λp=>af (.bool p) σ
 | .not a _=>bind (r.e ev a σ) λv σ=>ob (bV v) λp=>af (.bool (!p)) σ
 | .neg i _ _=>af (.int (-i)) σ
 | .bop op l _=>BQ r ev op l σ
 | .ifx t a b _=>bind (r.t ev t σ) λp σ=>match p with
  |true=>r.e ev a σ
  |false=>r.e ev b σ
 | .tup l _=>bind (fw r ev l σ) λvs σ=>gd (bc (len vs)) (af (.tup vs) σ)
 | .lst l _=>bind (fw r ev l σ) λvs σ=>gd (bc (len vs)) (af (.obj σ.n) (σ.push (.list vs)))
 | .dct ks vs _=>D9 r ev ks vs σ
 | .att o x _=>bind (r.e ev o σ) λv σ=>Cb (Ep v x σ) σ
 | .sub o i _=>bind (r.e ev o σ) λv σ=>bind (r.e ev i σ) λk σ=>Cb (rN v k σ) σ
 | .slU o u _ _=>ob (hZ o) λ_=>bind (r.e ev o σ) λv σ=>bind (r.e ev u σ) λk σ=>E9 v k σ
 | .slL o u _ _=>ob (hZ o) λ_=>bind (r.e ev o σ) λv σ=>bind (r.e ev u σ) λk σ=>Ee v k σ
 | .call f as _=>wU Γ r ev f as σ
 | .meth o x as pa p=>wf Γ r ev o x as pa p σ
 | .comp1 elt t it ifs sc _=>wm Γ r ev elt t it ifs sc σ
 | .comp2 elt t it t2 it2 ifs sc _=>wn Γ r ev elt t it t2 it2 ifs sc σ
 | .lam ps body sc p=>Eh ev ps body sc p σ
noncomputable def stepT(r:aP)(ev:Ev)(e:ME)(σ:ac):aj Bool:=match e with
 | .not a _=>bind (r.t ev a σ) λp σ=>af (!p) σ
 | .bop op l _=>Cx r ev op l σ
 | .cmp op a b _=>bind (r.e ev a σ) λva σ=>bind (r.e ev b σ) λvb σ=>Ng (gw op va vb σ) σ
 | .ifx _ _ _ _=>none
 |e=>bind (r.e ev e σ) λv σ=>ob (bV v) λp=>af p σ
noncomputable def Mn:ME→Option (Nat×Pos)
 | .name x p=>some (x,p)
 |_=>none
noncomputable def jf:ME→Option (List ME)
 | .tup l _=>some l
 |_=>none
noncomputable def rO(sc:List (Nat×NameKind))(ln:Nat)(t:ME):Option Nat:=ob (Mn t) λq=>gd (d9 sc q.1&&Nat.beq q.2.line ln) (some q.1)
noncomputable def iT(sc:List (Nat×NameKind))(ln:Nat)(ts:List ME):List Nat:=List.rec [] (λt _ ih=>Option.rec ih (λx=>x::ih) (rO sc ln t)) ts
noncomputable def uW(sc:List (Nat×NameKind))(ts:List ME):Bool:=List.rec true (λt _ ih=>Option.rec true (λx=>(look x sc).isSome) (hZ t)&&ih) ts
noncomputable def PL:ME→Option Nat
 | .name _ p=>some p.line
 | .sub _ _ p=>some p.line
 |_=>none
noncomputable def NY:List ME→Option Nat
 |t::_=>PL t
 |_=>none
noncomputable def O8:ME→Bool
 | .call _ _ _=>true
 | .lst _ _=>true
 |_=>false
noncomputable def wY(l:List ME):Bool:=List.rec false (λe _ ih=>O8 e||ih) l
noncomputable def Pu(e:ME):Option Unit:=ob (jf e) λl=>ob (fB l) λp=>ob (x9 p.1) λ_=>ob (x9 p.2) λ_=>some ()
noncomputable def vW(l:List ME):Bool:=List.rec true (λe _ ih=>(Pu e).isSome&&ih) l
noncomputable def Fu(ns:List Nat)(ts vs:List ME):Option (Option (List Nat)):=bif Nat.beq (len ns) (len ts) then gd (jp ns&&((Nat.beq (len ts) 2||Nat.beq (len ts) 3)&&Nat.beq (len vs) (len ts))) (aO (gd (wY vs) (some (some ns))) (gd (vW vs) (some none))) else some none
noncomputable def xf(sc:List (Nat×NameKind))(ts vs:List ME):Option (Option (List Nat)):=ob (NY ts) λln=>gd (uW sc ts) (Fu (iT sc ln ts) ts vs)
noncomputable def uv:ME→Bool
 | .lst _ _=>true
 |_=>false
noncomputable def iz(sc:List (Nat×NameKind))(t v:ME):Option (Option (List Nat)):=Option.rec (gd (!uv t) (some none)) (λts=>Option.rec (some none) (λvs=>xf sc ts vs) (jf v)) (jf t)
noncomputable def dh:ME→Bool
 | .comp1 _ _ _ _ _ _=>true
 | .comp2 _ _ _ _ _ _ _ _=>true
 |_=>false
noncomputable def zz(r:aP)(ev:Ev)(v:ME)(σ:ac):aj AV:=match v with
 | .comp1 elt t it ifs sc _=>wm Γ r ev elt t it ifs sc σ
 | .comp2 elt t it t2 it2 ifs sc _=>wn Γ r ev elt t it t2 it2 ifs sc σ
 |v=>r.e ev v σ
noncomputable def C6{α:Type}(l:List α):List α→List α:=List.rec (λb=>b) (λa _ ih b=>ih (a::b)) l
noncomputable def CX(r:aP)(ev:Ev)(t v:ME)(σ:ac):aj (Fl×ao):=bind (zz Γ r ev v σ) λv σ=>bind (cR r ev 5 ev.loc t v σ) λloc σ=>af (.next,loc) σ
noncomputable def IA(r:aP)(ev:Ev)(v:ME)(ns:List Nat)(σ:ac):aj (Fl×ao):=bind (r.e ev v σ) λv σ=>ob (tV v) λus=>gd (Nat.beq (len ns) (len us)) (bind (uN (k9 ev) ev.loc (C6 ns []) (C6 us []) σ) λloc σ=>af (.next,loc) σ)
noncomputable def KU(a:Nat):Option Nat:=bif Nat.beq a 52 then some 0 else gd (Nat.beq a 64) (some 1)
noncomputable def gN:AV→Option Nat
 | .g a=>some a
 |_=>none
noncomputable def HS(v:AV):Option Nat:=ob (gN v) KU
noncomputable def ba(r:aP)(ev:Ev)(s:MS)(σ:ac):aj (Fl×ao):=match s with
 | .expr e _=>gd (!dh e) (bind (r.e ev e σ) λ_ σ=>af (.next,ev.loc) σ)
 | .asg t v _=>ob (iz ev.sc t v) λo=>Option.rec (CX Γ r ev t v σ) (λns=>IA r ev v ns σ) o
 | .ret e _=>bind (r.e ev e σ) λv σ=>af (.ret v,ev.loc) σ
 | .ret0 _=>af (.ret .none,ev.loc) σ
 | .ite t b o _=>bind (r.t ev t σ) λp σ=>match p with
  |true=>r.s ev b σ
  |false=>r.s ev o σ
 | .for_ t it b _=>bind (b9 Γ r ev it σ) λi σ=>match i with
  | .keys j=>KF j (λσ=>forLoop r ev t b (.keys j) cA 0 ev.loc σ) σ
  |i=>forLoop r ev t b i cA 0 ev.loc σ
 | .rais x _ as _ _=>ob (bw Γ ev x σ) λf=>ob (HS f) λc=>bind (fw r ev as σ) λvs σ=>gd (Nat.beq (len vs) 1||Nat.beq (len vs) 2) (some [(.exc c,σ)])
 | .defn x ps body sc p=>gd (Nat.beq ev.fn 139&&(ox p 115 4 116 42&&Nat.beq x 72)) (ob (cM ev.cel sc) λcl=>bind (k9 ev ev.loc x (.obj σ.n) (σ.push (.fn x ps body sc cl))) λloc σ=>af (.next,loc) σ)
noncomputable def jm(r:aP)(ev:Ev):List MS→ac→aj (Fl×ao)
 |[],σ=>af (.next,ev.loc) σ
 |s::l,σ=>bind (ba Γ r ev s σ) λp σ=>match p with
  |(.next,loc)=>match l with
   |[]=>af (.next,loc) σ
   |_::_=>r.s { ev with loc:=loc } l σ
  |(.ret v,loc)=>af (.ret v,loc) σ
noncomputable def LE:aP:=⟨λ_ _ _=>none,λ_ _ _=>none,λ_ _ _=>none,λ_ _ _=>none⟩
noncomputable def R(sp:AV→List AV→ac→Option (aj AV))(ss:Ev→List MS→ac→Option (aj (Fl×ao)))(n:Nat):aP:=
 Nat.rec LE (λ_ r=>⟨eV Γ r,stepT r,λev b σ=>Option.rec (jm Γ r ev b σ) id (ss ev b σ),λf vs σ=>Option.rec (bv Γ r f vs σ) id (sp f vs σ)⟩) n
end
noncomputable def di:List String:=[ "append","extend","pop","get","join","values","kind","told","ref","regions_of","box",
 "array","inner","tuple","adt","found","list","one","region","turn","regions_turned",".0","regions",
 "parts_of","parts","rebuilt","param","table","substituted","part","change","with_regions","no_region","erased","",
 "isinstance","str","'","region_text","int","bool","never","!","var","intvar","_","type_text",
 "&"," ","mut ","Box<",">","[","; ","]","len","(",",)",", ",
 ")","<","world","adts","variants","variant","field_rows","k","enumerate","types","dict","zip",
 "params","put_in","name","fields_of","path","whole_of","range","T","field_types","self","open","done",
 "__init__","Holder.__init__","look","look_at_adt","Holder.look","MOST_DEEP","TypeFault","a type holds itself: ","Holder.look_at_adt","row","self_type","TraitFault",
 "Drop is told of structs and enums alone","spot","names","is_whole","unlike","at","apart","has_bounds","traits","an impl of Drop is of all of a type: ","check_drop","sig",
 "inputs","output","told_types","known","Renaming.__init__","wanted","fits","Renaming.fits","self_kind","bounds","own","Self",
 "trait","trait_args","renaming","Renaming","other","marked","due","here","is_like","methods"," has no method ","sigs",
 "the method "," is not as "," tells it","defaults"," of "," is missing","check_methods","holder","Holder","sorted","impls","DROP",
 "check_rules","module","publics","is_enum","Adt.__init__","has_body","Sig.__init__","TraitRow.__init__","number","ImplRow.__init__","modules","consts",
 "bodies","World.__init__","things","_law_take","source","_law_one","way","A","B","C","whole","deep",
 "_law_num","'static","_law_field","around","steps","World","has_many","rows","v","Adt","two","_law_holding",
 "D","'a","'b","U","unit","Drop","TraitRow","'x","'y","Clone","head","ImplRow",
 "_law_fault","none","_law_drop_right","is_wanted","S","'s","_law_told","_law_flat","kinds","there","shapes","'p",
 "'q","'m","'n","_law_like","_law_renamed","value","Sig","Tr::f","Tr","impl#0::f","f","g",
 "_law_methods_right","_law_pool","script","holds_self","type","pair","same","law","drawn","top","u8","cell",
 "big","max","mixed"]
noncomputable def Qb:Fn:=⟨9,9,[(7,pz 16 15 19)],[],[],[
 (.asg (.name 6 (pz 17 4 8)) (.sub (.name 7 (pz 17 11 15)) (.int 0 (pz 17 16 17)) (pz 17 11 18)) (pz 17 4 18)),
 (.ite (.cmp .Eq (.name 6 (pz 18 7 11)) (.str 8 (pz 18 15 20)) (pz 18 7 20)) [(.ret (.bin .Add (.lst [(.sub (.name 7 (pz 19 16 20)) (.int 1 (pz 19 21 22)) (pz 19 16 23))] (pz 19 15 24)) (.call (.name 9 (pz 19 27 37)) [(.sub (.name 7 (pz 19 38 42)) (.int 3 (pz 19 43 44)) (pz 19 38 45))] (pz 19 27 46)) (pz 19 15 46)) (pz 19 8 46))] [] ⟨18,4,19,46⟩),
 (.ite (.cmp .In (.name 6 (pz 20 7 11)) (.tup [(.str 10 (pz 20 16 21)),(.str 11 (pz 20 23 30))] (pz 20 15 31)) (pz 20 7 31)) [(.ret (.call (.name 9 (pz 21 15 25)) [(.sub (.name 7 (pz 21 26 30)) (.int 1 (pz 21 31 32)) (pz 21 26 33))] (pz 21 15 34)) (pz 21 8 34))] [] ⟨20,4,21,34⟩),
 (.asg (.name 12 (pz 22 4 9)) (.ifx (.cmp .Eq (.name 6 (pz 22 23 27)) (.str 13 (pz 22 31 38)) (pz 22 23 38)) (.sub (.name 7 (pz 22 12 16)) (.int 1 (pz 22 17 18)) (pz 22 12 19)) (.ifx (.cmp .Eq (.name 6 (pz 22 55 59)) (.str 14 (pz 22 63 68)) (pz 22 55 68)) (.sub (.name 7 (pz 22 44 48)) (.int 3 (pz 22 49 50)) (pz 22 44 51)) (.tup [] (pz 22 74 76)) (pz 22 44 76)) (pz 22 12 76)) (pz 22 4 76)),
 (.asg (.name 15 (pz 23 4 9)) (.ifx (.cmp .Eq (.name 6 (pz 23 29 33)) (.str 14 (pz 23 37 42)) (pz 23 29 42)) (.call (.name 16 (pz 23 12 16)) [(.sub (.name 7 (pz 23 17 21)) (.int 2 (pz 23 22 23)) (pz 23 17 24))] (pz 23 12 25)) (.lst [] (pz 23 48 50)) (pz 23 12 50)) (pz 23 4 50)),
 (.for_ (.name 17 (pz 24 8 11)) (.name 12 (pz 24 15 20)) [(.expr (.meth (.name 15 (pz 25 8 13)) 1 [(.call (.name 9 (pz 25 21 31)) [(.name 17 (pz 25 32 35))] (pz 25 21 36))] (pz 25 8 20) (pz 25 8 37)) (pz 25 8 37))] ⟨24,4,25,37⟩),
 (.ret (.name 15 (pz 26 11 16)) (pz 26 4 16))],
 [(7,.local),(6,.local),(12,.local),(15,.local),(17,.local),(9,gI),(16,gI)],[],72⟩
noncomputable def P7:Fn:=⟨20,20,[(7,pz 27 19 23),(19,pz 27 25 29)],[],[],[
 (.asg (.name 6 (pz 28 4 8)) (.sub (.name 7 (pz 28 11 15)) (.int 0 (pz 28 16 17)) (pz 28 11 18)) (pz 28 4 18)),
 (.ite (.cmp .Eq (.name 6 (pz 29 7 11)) (.str 8 (pz 29 15 20)) (pz 29 7 20)) [(.asg (.name 18 (pz 30 8 14)) (.call (.name 19 (pz 30 17 21)) [(.sub (.name 7 (pz 30 22 26)) (.int 1 (pz 30 27 28)) (pz 30 22 29))] (pz 30 17 30)) (pz 30 8 30)),(.ret (.tup [(.str 8 (pz 31 16 21)),(.name 18 (pz 31 23 29)),(.sub (.name 7 (pz 31 31 35)) (.int 2 (pz 31 36 37)) (pz 31 31 38)),(.call (.name 20 (pz 31 40 54)) [(.sub (.name 7 (pz 31 55 59)) (.int 3 (pz 31 60 61)) (pz 31 55 62)),(.name 19 (pz 31 64 68))] (pz 31 40 69))] (pz 31 15 70)) (pz 31 8 70))] [] ⟨29,4,31,70⟩),
 (.ite (.cmp .Eq (.name 6 (pz 32 7 11)) (.str 10 (pz 32 15 20)) (pz 32 7 20)) [(.ret (.tup [(.str 10 (pz 33 16 21)),(.call (.name 20 (pz 33 23 37)) [(.sub (.name 7 (pz 33 38 42)) (.int 1 (pz 33 43 44)) (pz 33 38 45)),(.name 19 (pz 33 47 51))] (pz 33 23 52))] (pz 33 15 53)) (pz 33 8 53))] [] ⟨32,4,33,53⟩),
 (.ite (.cmp .Eq (.name 6 (pz 34 7 11)) (.str 11 (pz 34 15 22)) (pz 34 7 22)) [(.ret (.tup [(.str 11 (pz 35 16 23)),(.call (.name 20 (pz 35 25 39)) [(.sub (.name 7 (pz 35 40 44)) (.int 1 (pz 35 45 46)) (pz 35 40 47)),(.name 19 (pz 35 49 53))] (pz 35 25 54)),(.sub (.name 7 (pz 35 56 60)) (.int 2 (pz 35 61 62)) (pz 35 56 63))] (pz 35 15 64)) (pz 35 8 64))] [] ⟨34,4,35,64⟩),
 (.ite (.cmp .Eq (.name 6 (pz 36 7 11)) (.str 13 (pz 36 15 22)) (pz 36 7 22)) [(.ret (.tup [(.str 13 (pz 37 16 23)),(.call (.name 13 (pz 37 25 30)) [(.comp1 (.call (.name 20 (pz 37 32 46)) [(.name 17 (pz 37 47 50)),(.name 19 (pz 37 52 56))] (pz 37 32 57)) (.name 17 (pz 37 62 65)) (.sub (.name 7 (pz 37 69 73)) (.int 1 (pz 37 74 75)) (pz 37 69 76)) [] [(21,.local),(17,.local),(20,gI),(19,.free)] (pz 37 31 77))] (pz 37 25 78))] (pz 37 15 79)) (pz 37 8 79))] [] ⟨36,4,37,79⟩),
 (.ite (.cmp .Eq (.name 6 (pz 38 7 11)) (.str 14 (pz 38 15 20)) (pz 38 7 20)) [(.asg (.name 22 (pz 39 8 15)) (.call (.name 13 (pz 39 18 23)) [(.comp1 (.call (.name 19 (pz 39 25 29)) [(.name 18 (pz 39 30 36))] (pz 39 25 37)) (.name 18 (pz 39 42 48)) (.sub (.name 7 (pz 39 52 56)) (.int 2 (pz 39 57 58)) (pz 39 52 59)) [] [(21,.local),(18,.local),(19,.free)] (pz 39 24 60))] (pz 39 18 61)) (pz 39 8 61)),(.ret (.tup [(.str 14 (pz 40 16 21)),(.sub (.name 7 (pz 40 23 27)) (.int 1 (pz 40 28 29)) (pz 40 23 30)),(.name 22 (pz 40 32 39)),(.call (.name 13 (pz 40 41 46)) [(.comp1 (.call (.name 20 (pz 40 48 62)) [(.name 17 (pz 40 63 66)),(.name 19 (pz 40 68 72))] (pz 40 48 73)) (.name 17 (pz 40 78 81)) (.sub (.name 7 (pz 40 85 89)) (.int 3 (pz 40 90 91)) (pz 40 85 92)) [] [(21,.local),(17,.local),(20,gI),(19,.free)] (pz 40 47 93))] (pz 40 41 94))] (pz 40 15 95)) (pz 40 8 95))] [] ⟨38,4,40,95⟩),
 (.ret (.name 7 (pz 41 11 15)) (pz 41 4 15))],
 [(7,.local),(19,.cell),(6,.local),(18,.local),(22,.local),(20,gI),(13,gI)],[7,19,6,18,17,22],77⟩
noncomputable def Qa:Fn:=⟨23,23,[(7,pz 44 13 17)],[],[],[
 (.asg (.name 6 (pz 45 4 8)) (.sub (.name 7 (pz 45 11 15)) (.int 0 (pz 45 16 17)) (pz 45 11 18)) (pz 45 4 18)),
 (.ite (.cmp .Eq (.name 6 (pz 46 7 11)) (.str 8 (pz 46 15 20)) (pz 46 7 20)) [(.ret (.tup [(.sub (.name 7 (pz 47 16 20)) (.int 3 (pz 47 21 22)) (pz 47 16 23))] (pz 47 15 25)) (pz 47 8 25))] [] ⟨46,4,47,25⟩),
 (.ite (.bop .Or [(.cmp .Eq (.name 6 (pz 48 7 11)) (.str 10 (pz 48 15 20)) (pz 48 7 20)),(.cmp .Eq (.name 6 (pz 48 24 28)) (.str 11 (pz 48 32 39)) (pz 48 24 39))] (pz 48 7 39)) [(.ret (.tup [(.sub (.name 7 (pz 49 16 20)) (.int 1 (pz 49 21 22)) (pz 49 16 23))] (pz 49 15 25)) (pz 49 8 25))] [] ⟨48,4,49,25⟩),
 (.ite (.cmp .Eq (.name 6 (pz 50 7 11)) (.str 13 (pz 50 15 22)) (pz 50 7 22)) [(.ret (.sub (.name 7 (pz 51 15 19)) (.int 1 (pz 51 20 21)) (pz 51 15 22)) (pz 51 8 22))] [] ⟨50,4,51,22⟩),
 (.ret (.ifx (.cmp .Eq (.name 6 (pz 52 22 26)) (.str 14 (pz 52 30 35)) (pz 52 22 35)) (.sub (.name 7 (pz 52 11 15)) (.int 3 (pz 52 16 17)) (pz 52 11 18)) (.tup [] (pz 52 41 43)) (pz 52 11 43)) (pz 52 4 43))],
 [(7,.local),(6,.local)],[],84⟩
noncomputable def PG:Fn:=⟨25,25,[(7,pz 53 12 16),(24,pz 53 18 23)],[],[],[
 (.asg (.name 6 (pz 54 4 8)) (.sub (.name 7 (pz 54 11 15)) (.int 0 (pz 54 16 17)) (pz 54 11 18)) (pz 54 4 18)),
 (.ite (.cmp .Eq (.name 6 (pz 55 7 11)) (.str 8 (pz 55 15 20)) (pz 55 7 20)) [(.ret (.tup [(.str 8 (pz 56 16 21)),(.sub (.name 7 (pz 56 23 27)) (.int 1 (pz 56 28 29)) (pz 56 23 30)),(.sub (.name 7 (pz 56 32 36)) (.int 2 (pz 56 37 38)) (pz 56 32 39)),(.sub (.name 24 (pz 56 41 46)) (.int 0 (pz 56 47 48)) (pz 56 41 49))] (pz 56 15 50)) (pz 56 8 50))] [] ⟨55,4,56,50⟩),
 (.ite (.cmp .Eq (.name 6 (pz 57 7 11)) (.str 10 (pz 57 15 20)) (pz 57 7 20)) [(.ret (.tup [(.str 10 (pz 58 16 21)),(.sub (.name 24 (pz 58 23 28)) (.int 0 (pz 58 29 30)) (pz 58 23 31))] (pz 58 15 32)) (pz 58 8 32))] [] ⟨57,4,58,32⟩),
 (.ite (.cmp .Eq (.name 6 (pz 59 7 11)) (.str 11 (pz 59 15 22)) (pz 59 7 22)) [(.ret (.tup [(.str 11 (pz 60 16 23)),(.sub (.name 24 (pz 60 25 30)) (.int 0 (pz 60 31 32)) (pz 60 25 33)),(.sub (.name 7 (pz 60 35 39)) (.int 2 (pz 60 40 41)) (pz 60 35 42))] (pz 60 15 43)) (pz 60 8 43))] [] ⟨59,4,60,43⟩),
 (.ite (.cmp .Eq (.name 6 (pz 61 7 11)) (.str 13 (pz 61 15 22)) (pz 61 7 22)) [(.ret (.tup [(.str 13 (pz 62 16 23)),(.call (.name 13 (pz 62 25 30)) [(.name 24 (pz 62 31 36))] (pz 62 25 37))] (pz 62 15 38)) (pz 62 8 38))] [] ⟨61,4,62,38⟩),
 (.ret (.ifx (.cmp .Eq (.name 6 (pz 63 54 58)) (.str 14 (pz 63 62 67)) (pz 63 54 67)) (.tup [(.str 14 (pz 63 12 17)),(.sub (.name 7 (pz 63 19 23)) (.int 1 (pz 63 24 25)) (pz 63 19 26)),(.sub (.name 7 (pz 63 28 32)) (.int 2 (pz 63 33 34)) (pz 63 28 35)),(.call (.name 13 (pz 63 37 42)) [(.name 24 (pz 63 43 48))] (pz 63 37 49))] (pz 63 11 50)) (.name 7 (pz 63 73 77)) (pz 63 11 77)) (pz 63 4 77))],
 [(7,.local),(24,.local),(6,.local),(13,gI)],[],91⟩
noncomputable def PE:Fn:=⟨28,28,[(7,pz 64 16 20),(27,pz 64 22 27)],[],[],[
 (.ite (.cmp .Eq (.sub (.name 7 (pz 65 7 11)) (.int 0 (pz 65 12 13)) (pz 65 7 14)) (.str 26 (pz 65 18 25)) (pz 65 7 25)) [(.ret (.meth (.name 27 (pz 66 15 20)) 3 [(.sub (.name 7 (pz 66 25 29)) (.int 1 (pz 66 30 31)) (pz 66 25 32)),(.name 7 (pz 66 34 38))] (pz 66 15 24) (pz 66 15 39)) (pz 66 8 39))] [] ⟨65,4,66,39⟩),
 (.ret (.call (.name 25 (pz 67 11 18)) [(.name 7 (pz 67 19 23)),(.comp1 (.call (.name 28 (pz 67 26 37)) [(.name 29 (pz 67 38 42)),(.name 27 (pz 67 44 49))] (pz 67 26 50)) (.name 29 (pz 67 55 59)) (.call (.name 23 (pz 67 63 71)) [(.name 7 (pz 67 72 76))] (pz 67 63 77)) [] [(21,.local),(29,.local),(28,gI),(27,.free)] (pz 67 25 78))] (pz 67 11 79)) (pz 67 4 79))],
 [(7,.local),(27,.cell),(25,gI),(23,gI)],[7,27,29],96⟩
noncomputable def O1:Fn:=⟨31,31,[(7,pz 68 17 21),(30,pz 68 23 29)],[],[],[
 (.ite (.cmp .Eq (.sub (.name 7 (pz 69 7 11)) (.int 0 (pz 69 12 13)) (pz 69 7 14)) (.str 8 (pz 69 18 23)) (pz 69 7 23)) [(.asg (.name 7 (pz 70 8 12)) (.tup [(.str 8 (pz 70 16 21)),(.call (.name 30 (pz 70 23 29)) [(.sub (.name 7 (pz 70 30 34)) (.int 1 (pz 70 35 36)) (pz 70 30 37))] (pz 70 23 38)),(.sub (.name 7 (pz 70 40 44)) (.int 2 (pz 70 45 46)) (pz 70 40 47)),(.sub (.name 7 (pz 70 49 53)) (.int 3 (pz 70 54 55)) (pz 70 49 56))] (pz 70 15 57)) (pz 70 8 57))] [(.ite (.cmp .Eq (.sub (.name 7 (pz 71 9 13)) (.int 0 (pz 71 14 15)) (pz 71 9 16)) (.str 14 (pz 71 20 25)) (pz 71 9 25)) [(.asg (.name 7 (pz 72 8 12)) (.tup [(.str 14 (pz 72 16 21)),(.sub (.name 7 (pz 72 23 27)) (.int 1 (pz 72 28 29)) (pz 72 23 30)),(.call (.name 13 (pz 72 32 37)) [(.comp1 (.call (.name 30 (pz 72 39 45)) [(.name 18 (pz 72 46 52))] (pz 72 39 53)) (.name 18 (pz 72 58 64)) (.sub (.name 7 (pz 72 68 72)) (.int 2 (pz 72 73 74)) (pz 72 68 75)) [] [(21,.local),(18,.local),(30,.free)] (pz 72 38 76))] (pz 72 32 77)),(.sub (.name 7 (pz 72 79 83)) (.int 3 (pz 72 84 85)) (pz 72 79 86))] (pz 72 15 87)) (pz 72 8 87))] [] ⟨71,4,72,87⟩)] ⟨69,4,72,87⟩),
 (.ret (.call (.name 25 (pz 73 11 18)) [(.name 7 (pz 73 19 23)),(.comp1 (.call (.name 31 (pz 73 26 38)) [(.name 29 (pz 73 39 43)),(.name 30 (pz 73 45 51))] (pz 73 26 52)) (.name 29 (pz 73 57 61)) (.call (.name 23 (pz 73 65 73)) [(.name 7 (pz 73 74 78))] (pz 73 65 79)) [] [(21,.local),(29,.local),(31,gI),(30,.free)] (pz 73 25 80))] (pz 73 11 81)) (pz 73 4 81))],
 [(7,.local),(30,.cell),(13,gI),(25,gI),(23,gI)],[7,30,18,29],101⟩
noncomputable def Pz:Fn:=⟨32,32,[(18,pz 74 14 20)],[],[],[
 (.ret (.none (pz 75 11 15)) (pz 75 4 15))],
 [(18,.local)],[],108⟩
noncomputable def OW:Fn:=⟨33,33,[(7,pz 76 11 15)],[],[],[
 (.ret (.call (.name 31 (pz 77 11 23)) [(.name 7 (pz 77 24 28)),(.name 32 (pz 77 30 39))] (pz 77 11 40)) (pz 77 4 40))],
 [(7,.local),(31,gI),(32,gI)],[],115⟩
noncomputable def ON:Fn:=⟨38,38,[(18,pz 78 16 22)],[],[],[
 (.ite (.cmp .Is (.name 18 (pz 79 7 13)) (.none (pz 79 17 21)) (pz 79 7 21)) [(.ret (.str 34 (pz 80 15 17)) (pz 80 8 17))] [] ⟨79,4,80,17⟩),
 (.ret (.ifx (.call (.name 35 (pz 81 21 31)) [(.name 18 (pz 81 32 38)),(.name 36 (pz 81 40 43))] (pz 81 21 44)) (.name 18 (pz 81 11 17)) (.bin .Add (.str 37 (pz 81 50 53)) (.call (.name 36 (pz 81 56 59)) [(.name 18 (pz 81 60 66))] (pz 81 56 67)) (pz 81 50 67)) (pz 81 11 67)) (pz 81 4 67))],
 [(18,.local),(35,gI),(36,gI)],[],122⟩
noncomputable def OB:Fn:=⟨46,46,[(7,pz 82 14 18)],[],[],[
 (.asg (.name 6 (pz 83 4 8)) (.sub (.name 7 (pz 83 11 15)) (.int 0 (pz 83 16 17)) (pz 83 11 18)) (pz 83 4 18)),
 (.ite (.bop .Or [(.cmp .Eq (.name 6 (pz 84 7 11)) (.str 39 (pz 84 15 20)) (pz 84 7 20)),(.cmp .Eq (.name 6 (pz 84 24 28)) (.str 26 (pz 84 32 39)) (pz 84 24 39))] (pz 84 7 39)) [(.ret (.sub (.name 7 (pz 85 15 19)) (.int 1 (pz 85 20 21)) (pz 85 15 22)) (pz 85 8 22))] [] ⟨84,4,85,22⟩),
 (.ite (.cmp .Eq (.name 6 (pz 86 7 11)) (.str 40 (pz 86 15 21)) (pz 86 7 21)) [(.ret (.str 40 (pz 87 15 21)) (pz 87 8 21))] [] ⟨86,4,87,21⟩),
 (.ite (.cmp .Eq (.name 6 (pz 88 7 11)) (.str 41 (pz 88 15 22)) (pz 88 7 22)) [(.ret (.str 42 (pz 89 15 18)) (pz 89 8 18))] [] ⟨88,4,89,18⟩),
 (.ite (.bop .Or [(.cmp .Eq (.name 6 (pz 90 7 11)) (.str 43 (pz 90 15 20)) (pz 90 7 20)),(.cmp .Eq (.name 6 (pz 90 24 28)) (.str 44 (pz 90 32 40)) (pz 90 24 40))] (pz 90 7 40)) [(.ret (.str 45 (pz 91 15 18)) (pz 91 8 18))] [] ⟨90,4,91,18⟩),
 (.asg (.name 12 (pz 92 4 9)) (.comp1 (.call (.name 46 (pz 92 13 22)) [(.name 29 (pz 92 23 27))] (pz 92 13 28)) (.name 29 (pz 92 33 37)) (.call (.name 23 (pz 92 41 49)) [(.name 7 (pz 92 50 54))] (pz 92 41 55)) [] [(21,.local),(29,.local),(46,gI)] (pz 92 12 56)) (pz 92 4 56)),
 (.ite (.cmp .Eq (.name 6 (pz 93 7 11)) (.str 8 (pz 93 15 20)) (pz 93 7 20)) [(.asg (.name 18 (pz 94 8 14)) (.call (.name 38 (pz 94 17 28)) [(.sub (.name 7 (pz 94 29 33)) (.int 1 (pz 94 34 35)) (pz 94 29 36))] (pz 94 17 37)) (pz 94 8 37)),(.ret (.bin .Add (.bin .Add (.bin .Add (.str 47 (pz 95 15 18)) (.ifx (.cmp .NotEq (.name 18 (pz 95 38 44)) (.str 34 (pz 95 48 50)) (pz 95 38 50)) (.bin .Add (.name 18 (pz 95 22 28)) (.str 48 (pz 95 31 34)) (pz 95 22 34)) (.str 34 (pz 95 56 58)) (pz 95 22 58)) (pz 95 15 59)) (.ifx (.sub (.name 7 (pz 95 73 77)) (.int 2 (pz 95 78 79)) (pz 95 73 80)) (.str 49 (pz 95 63 69)) (.str 34 (pz 95 86 88)) (pz 95 63 88)) (pz 95 15 89)) (.sub (.name 12 (pz 95 92 97)) (.int 0 (pz 95 98 99)) (pz 95 92 100)) (pz 95 15 100)) (pz 95 8 100))] [] ⟨93,4,95,100⟩),
 (.ite (.cmp .Eq (.name 6 (pz 96 7 11)) (.str 10 (pz 96 15 20)) (pz 96 7 20)) [(.ret (.bin .Add (.bin .Add (.str 50 (pz 97 15 21)) (.sub (.name 12 (pz 97 24 29)) (.int 0 (pz 97 30 31)) (pz 97 24 32)) (pz 97 15 32)) (.str 51 (pz 97 35 38)) (pz 97 15 38)) (pz 97 8 38))] [] ⟨96,4,97,38⟩),
 (.ite (.cmp .Eq (.name 6 (pz 98 7 11)) (.str 11 (pz 98 15 22)) (pz 98 7 22)) [(.ret (.bin .Add (.bin .Add (.bin .Add (.bin .Add (.str 52 (pz 99 15 18)) (.sub (.name 12 (pz 99 21 26)) (.int 0 (pz 99 27 28)) (pz 99 21 29)) (pz 99 15 29)) (.str 53 (pz 99 32 36)) (pz 99 15 36)) (.call (.name 36 (pz 99 39 42)) [(.sub (.name 7 (pz 99 43 47)) (.int 2 (pz 99 48 49)) (pz 99 43 50))] (pz 99 39 51)) (pz 99 15 51)) (.str 54 (pz 99 54 57)) (pz 99 15 57)) (pz 99 8 57))] [] ⟨98,4,99,57⟩),
 (.ite (.cmp .Eq (.name 6 (pz 100 7 11)) (.str 13 (pz 100 15 22)) (pz 100 7 22)) [(.ret (.ifx (.cmp .Eq (.call (.name 55 (pz 101 40 43)) [(.name 12 (pz 101 44 49))] (pz 101 40 50)) (.int 1 (pz 101 54 55)) (pz 101 40 55)) (.bin .Add (.bin .Add (.str 56 (pz 101 15 18)) (.sub (.name 12 (pz 101 21 26)) (.int 0 (pz 101 27 28)) (pz 101 21 29)) (pz 101 15 29)) (.str 57 (pz 101 32 36)) (pz 101 15 36)) (.bin .Add (.bin .Add (.str 56 (pz 101 61 64)) (.meth (.str 58 (pz 101 67 71)) 4 [(.name 12 (pz 101 77 82))] (pz 101 67 76) (pz 101 67 83)) (pz 101 61 83)) (.str 59 (pz 101 86 89)) (pz 101 61 89)) (pz 101 15 89)) (pz 101 8 89))] [] ⟨100,4,101,89⟩),
 (.asg (.name 12 (pz 102 4 9)) (.bin .Add (.comp1 (.call (.name 38 (pz 102 13 24)) [(.name 18 (pz 102 25 31))] (pz 102 13 32)) (.name 18 (pz 102 37 43)) (.sub (.name 7 (pz 102 47 51)) (.int 2 (pz 102 52 53)) (pz 102 47 54)) [(.cmp .IsNot (.name 18 (pz 102 58 64)) (.none (pz 102 72 76)) (pz 102 58 76))] [(21,.local),(18,.local),(38,gI)] (pz 102 12 77)) (.name 12 (pz 102 80 85)) (pz 102 12 85)) (pz 102 4 85)),
 (.ret (.bin .Add (.sub (.name 7 (pz 103 11 15)) (.int 1 (pz 103 16 17)) (pz 103 11 18)) (.ifx (.cmp .NotEq (.name 12 (pz 103 54 59)) (.lst [] (pz 103 63 65)) (pz 103 54 65)) (.bin .Add (.bin .Add (.str 60 (pz 103 22 25)) (.meth (.str 58 (pz 103 28 32)) 4 [(.name 12 (pz 103 38 43))] (pz 103 28 37) (pz 103 28 44)) (pz 103 22 44)) (.str 51 (pz 103 47 50)) (pz 103 22 50)) (.str 34 (pz 103 71 73)) (pz 103 22 73)) (pz 103 11 74)) (pz 103 4 74))],
 [(7,.local),(6,.local),(12,.local),(18,.local),(23,gI),(38,gI),(36,gI),(55,gI)],[7,6,29,12,18],127⟩
noncomputable def Pa:Fn:=⟨65,65,[(7,pz 104 15 19),(64,pz 104 21 28),(61,pz 104 30 35)],[],[],[
 (.ret (.sub (.sub (.att (.sub (.att (.name 61 (pz 105 11 16)) 62 (pz 105 11 21)) (.sub (.name 7 (pz 105 22 26)) (.int 1 (pz 105 27 28)) (pz 105 22 29)) (pz 105 11 30)) 63 (pz 105 11 39)) (.name 64 (pz 105 40 47)) (pz 105 11 48)) (.int 2 (pz 105 49 50)) (pz 105 11 51)) (pz 105 4 51))],
 [(7,.local),(64,.local),(61,.local)],[],134⟩
noncomputable def Pm:Fn:=⟨74,74,[(7,pz 106 14 18),(64,pz 106 20 27),(61,pz 106 29 34)],[],[],[
 (.ite (.cmp .Eq (.sub (.name 7 (pz 107 7 11)) (.int 0 (pz 107 12 13)) (pz 107 7 14)) (.str 13 (pz 107 18 25)) (pz 107 7 25)) [(.ret (.comp1 (.tup [(.call (.name 36 (pz 108 17 20)) [(.name 66 (pz 108 21 22))] (pz 108 17 23)),(.name 29 (pz 108 25 29))] (pz 108 16 30)) (.tup [(.name 66 (pz 108 35 36)),(.name 29 (pz 108 38 42))] (pz 108 35 42)) (.call (.name 67 (pz 108 46 55)) [(.sub (.name 7 (pz 108 56 60)) (.int 1 (pz 108 61 62)) (pz 108 56 63))] (pz 108 46 64)) [] [(21,.local),(66,.local),(29,.local),(36,gI)] (pz 108 15 65)) (pz 108 8 65))] [] ⟨107,4,108,65⟩),
 (.ite (.cmp .NotEq (.sub (.name 7 (pz 109 7 11)) (.int 0 (pz 109 12 13)) (pz 109 7 14)) (.str 14 (pz 109 18 23)) (pz 109 7 23)) [(.ret (.lst [] (pz 110 15 17)) (pz 110 8 17))] [] ⟨109,4,110,17⟩),
 (.asg (.name 14 (pz 111 4 7)) (.sub (.att (.name 61 (pz 111 10 15)) 62 (pz 111 10 20)) (.sub (.name 7 (pz 111 21 25)) (.int 1 (pz 111 26 27)) (pz 111 21 28)) (pz 111 10 29)) (pz 111 4 29)),
 (.asg (.name 68 (pz 112 4 9)) (.call (.name 69 (pz 112 12 16)) [(.call (.name 70 (pz 112 17 20)) [(.att (.name 14 (pz 112 21 24)) 71 (pz 112 21 31)),(.sub (.name 7 (pz 112 33 37)) (.int 3 (pz 112 38 39)) (pz 112 33 40))] (pz 112 17 41))] (pz 112 12 42)) (pz 112 4 42)),
 (.asg (.name 22 (pz 113 4 11)) (.call (.name 69 (pz 113 14 18)) [(.call (.name 70 (pz 113 19 22)) [(.att (.name 14 (pz 113 23 26)) 22 (pz 113 23 34)),(.sub (.name 7 (pz 113 36 40)) (.int 2 (pz 113 41 42)) (pz 113 36 43))] (pz 113 19 44))] (pz 113 14 45)) (pz 113 4 45)),
 (.defn 72 [(18,pz 115 15 21)] [(.ret (.meth (.name 22 (pz 116 15 22)) 3 [(.name 18 (pz 116 27 33)),(.name 18 (pz 116 35 41))] (pz 116 15 26) (pz 116 15 42)) (pz 116 8 42))] [(18,.local),(22,.free)] ⟨115,4,116,42⟩),
 (.ret (.comp1 (.tup [(.name 73 (pz 117 13 17)),(.call (.name 28 (pz 117 19 30)) [(.call (.name 31 (pz 117 31 43)) [(.name 29 (pz 117 44 48)),(.name 72 (pz 117 50 56))] (pz 117 31 57)),(.name 68 (pz 117 59 64))] (pz 117 19 65))] (pz 117 12 66)) (.tup [(.name 73 (pz 117 71 75)),(.name 29 (pz 117 77 81))] (pz 117 71 81)) (.call (.name 65 (pz 117 85 95)) [(.name 7 (pz 117 96 100)),(.name 64 (pz 117 102 109)),(.name 61 (pz 117 111 116))] (pz 117 85 117)) [] [(21,.local),(73,.local),(29,.local),(28,gI),(31,gI),(72,.free),(68,.free)] (pz 117 11 118)) (pz 117 4 118))],
 [(7,.local),(64,.local),(61,.local),(14,.local),(68,.cell),(72,.cell),(22,.cell),(67,gI),(69,gI),(70,gI),(65,gI)],[7,64,61,66,29,14,68,72,73,22],139⟩
noncomputable def Pe:Fn:=⟨76,76,[(75,pz 120 13 17),(61,pz 120 19 24)],[],[],[
 (.asg (.name 14 (pz 121 4 7)) (.sub (.att (.name 61 (pz 121 10 15)) 62 (pz 121 10 20)) (.name 75 (pz 121 21 25)) (pz 121 10 26)) (pz 121 4 26)),
 (.ret (.tup [(.str 14 (pz 122 12 17)),(.name 75 (pz 122 19 23)),(.call (.name 13 (pz 122 25 30)) [(.att (.name 14 (pz 122 31 34)) 22 (pz 122 31 42))] (pz 122 25 43)),(.call (.name 13 (pz 122 45 50)) [(.comp1 (.tup [(.str 26 (pz 122 53 60)),(.name 73 (pz 122 62 66))] (pz 122 52 67)) (.name 73 (pz 122 72 76)) (.att (.name 14 (pz 122 80 83)) 71 (pz 122 80 90)) [] [(21,.local),(73,.local)] (pz 122 51 91))] (pz 122 45 92))] (pz 122 11 93)) (pz 122 4 93))],
 [(75,.local),(61,.local),(14,.local),(13,gI)],[75,61,14,73],144⟩
noncomputable def Ph:Fn:=⟨79,79,[(7,pz 123 16 20),(61,pz 123 22 27)],[],[],[
 (.asg (.name 15 (pz 124 4 9)) (.lst [] (pz 124 12 14)) (pz 124 4 14)),
 (.for_ (.name 64 (pz 125 8 15)) (.call (.name 77 (pz 125 19 24)) [(.call (.name 55 (pz 125 25 28)) [(.att (.sub (.att (.name 61 (pz 125 29 34)) 62 (pz 125 29 39)) (.sub (.name 7 (pz 125 40 44)) (.int 1 (pz 125 45 46)) (pz 125 40 47)) (pz 125 29 48)) 63 (pz 125 29 57))] (pz 125 25 58))] (pz 125 19 59)) [(.expr (.meth (.name 15 (pz 126 8 13)) 1 [(.comp1 (.name 78 (pz 126 22 23)) (.tup [(.name 73 (pz 126 28 32)),(.name 78 (pz 126 34 35))] (pz 126 28 35)) (.call (.name 74 (pz 126 39 48)) [(.name 7 (pz 126 49 53)),(.name 64 (pz 126 55 62)),(.name 61 (pz 126 64 69))] (pz 126 39 70)) [] [(21,.local),(73,.local),(78,.local)] (pz 126 21 71))] (pz 126 8 20) (pz 126 8 72)) (pz 126 8 72))] ⟨125,4,126,72⟩),
 (.ret (.name 15 (pz 127 11 16)) (pz 127 4 16))],
 [(7,.local),(61,.local),(15,.local),(64,.local),(77,gI),(55,gI),(74,gI)],[7,61,15,64,73,78],149⟩
noncomputable def Pt:Fn:=⟨83,84,[(80,pz 130 17 21),(61,pz 130 23 28)],[],[],[
 (.asg (.att (.name 80 (pz 131 8 12)) 61 (pz 131 8 18)) (.name 61 (pz 131 21 26)) (pz 131 8 26)),
 (.asg (.att (.name 80 (pz 132 8 12)) 81 (pz 132 8 17)) (.lst [] (pz 132 20 22)) (pz 132 8 22)),
 (.asg (.att (.name 80 (pz 133 8 12)) 82 (pz 133 8 17)) (.lst [] (pz 133 20 22)) (pz 133 8 22))],
 [(80,.local),(61,.local)],[],163⟩
noncomputable def xG:Fn:=⟨85,87,[(80,pz 135 13 17),(7,pz 135 19 23)],[],[],[
 (.asg (.name 6 (pz 136 8 12)) (.sub (.name 7 (pz 136 15 19)) (.int 0 (pz 136 20 21)) (pz 136 15 22)) (pz 136 8 22)),
 (.ite (.cmp .Eq (.name 6 (pz 137 11 15)) (.str 11 (pz 137 19 26)) (pz 137 11 26)) [(.expr (.meth (.name 80 (pz 138 12 16)) 85 [(.sub (.name 7 (pz 138 22 26)) (.int 1 (pz 138 27 28)) (pz 138 22 29))] (pz 138 12 21) (pz 138 12 30)) (pz 138 12 30))] [(.ite (.cmp .Eq (.name 6 (pz 139 13 17)) (.str 13 (pz 139 21 28)) (pz 139 13 28)) [(.for_ (.name 29 (pz 140 16 20)) (.sub (.name 7 (pz 140 24 28)) (.int 1 (pz 140 29 30)) (pz 140 24 31)) [(.expr (.meth (.name 80 (pz 141 16 20)) 85 [(.name 29 (pz 141 26 30))] (pz 141 16 25) (pz 141 16 31)) (pz 141 16 31))] ⟨140,12,141,31⟩)] [(.ite (.cmp .Eq (.name 6 (pz 142 13 17)) (.str 14 (pz 142 21 26)) (pz 142 13 26)) [(.expr (.meth (.name 80 (pz 143 12 16)) 86 [(.call (.name 33 (pz 143 29 35)) [(.name 7 (pz 143 36 40))] (pz 143 29 41))] (pz 143 12 28) (pz 143 12 42)) (pz 143 12 42))] [] ⟨142,8,143,42⟩)] ⟨139,8,143,42⟩)] ⟨137,8,143,42⟩)],
 [(80,.local),(7,.local),(6,.local),(29,.local),(33,gI)],[],170⟩
noncomputable def gQ:Fn:=⟨86,91,[(80,pz 145 20 24),(7,pz 145 26 30)],[],[],[
 (.ite (.cmp .In (.name 7 (pz 146 11 15)) (.att (.name 80 (pz 146 19 23)) 82 (pz 146 19 28)) (pz 146 11 28)) [(.ret0 (pz 147 12 18))] [] ⟨146,8,147,18⟩),
 (.ite (.bop .Or [(.cmp .In (.name 7 (pz 148 11 15)) (.att (.name 80 (pz 148 19 23)) 81 (pz 148 19 28)) (pz 148 11 28)),(.cmp .Gt (.call (.name 55 (pz 148 32 35)) [(.att (.name 80 (pz 148 36 40)) 81 (pz 148 36 45))] (pz 148 32 46)) (.name 88 (pz 148 49 58)) (pz 148 32 58))] (pz 148 11 58)) [(.rais 89 (pz 149 18 27) [(.bin .Add (.str 90 (pz 149 28 51)) (.call (.name 46 (pz 149 54 63)) [(.name 7 (pz 149 64 68))] (pz 149 54 69)) (pz 149 28 69))] (pz 149 18 70) (pz 149 12 70))] [] ⟨148,8,149,70⟩),
 (.expr (.meth (.att (.name 80 (pz 150 8 12)) 81 (pz 150 8 17)) 0 [(.name 7 (pz 150 25 29))] (pz 150 8 24) (pz 150 8 30)) (pz 150 8 30)),
 (.for_ (.name 29 (pz 151 12 16)) (.call (.name 79 (pz 151 20 31)) [(.name 7 (pz 151 32 36)),(.att (.name 80 (pz 151 38 42)) 61 (pz 151 38 48))] (pz 151 20 49)) [(.expr (.meth (.name 80 (pz 152 12 16)) 85 [(.name 29 (pz 152 22 26))] (pz 152 12 21) (pz 152 12 27)) (pz 152 12 27))] ⟨151,8,152,27⟩),
 (.expr (.meth (.att (.name 80 (pz 153 8 12)) 81 (pz 153 8 17)) 2 [] (pz 153 8 21) (pz 153 8 23)) (pz 153 8 23)),
 (.expr (.meth (.att (.name 80 (pz 154 8 12)) 82 (pz 154 8 17)) 0 [(.name 7 (pz 154 25 29))] (pz 154 8 24) (pz 154 8 30)) (pz 154 8 30))],
 [(80,.local),(7,.local),(29,.local),(55,gI),(88,gI),(89,gI),(46,gI),(79,gI)],[],177⟩
noncomputable def OF:Fn:=⟨105,105,[(92,pz 155 15 18),(61,pz 155 20 25)],[],[],[
 (.asg (.name 78 (pz 156 4 5)) (.att (.name 92 (pz 156 8 11)) 93 (pz 156 8 21)) (pz 156 4 21)),
 (.ite (.cmp .NotEq (.sub (.name 78 (pz 157 7 8)) (.int 0 (pz 157 9 10)) (pz 157 7 11)) (.str 14 (pz 157 15 20)) (pz 157 7 20)) [(.rais 94 (pz 158 14 24) [(.str 95 (pz 158 25 66)),(.att (.name 92 (pz 158 68 71)) 96 (pz 158 68 76))] (pz 158 14 77) (pz 158 8 77))] [] ⟨157,4,158,77⟩),
 (.asg (.name 97 (pz 159 4 9)) (.comp1 (.sub (.name 29 (pz 159 13 17)) (.int 1 (pz 159 18 19)) (pz 159 13 20)) (.name 29 (pz 159 25 29)) (.sub (.name 78 (pz 159 33 34)) (.int 3 (pz 159 35 36)) (pz 159 33 37)) [(.cmp .Eq (.sub (.name 29 (pz 159 41 45)) (.int 0 (pz 159 46 47)) (pz 159 41 48)) (.str 26 (pz 159 52 59)) (pz 159 41 59))] [(21,.local),(29,.local)] (pz 159 12 60)) (pz 159 4 60)),
 (.asg (.name 22 (pz 160 4 11)) (.comp1 (.name 18 (pz 160 15 21)) (.name 18 (pz 160 26 32)) (.sub (.name 78 (pz 160 36 37)) (.int 2 (pz 160 38 39)) (pz 160 36 40)) [(.cmp .In (.name 18 (pz 160 44 50)) (.att (.name 92 (pz 160 54 57)) 22 (pz 160 54 65)) (pz 160 44 65))] [(21,.local),(18,.local),(92,.free)] (pz 160 14 66)) (pz 160 4 66)),
 (.asg (.name 98 (pz 161 4 12)) (.bop .And [(.cmp .Eq (.call (.name 55 (pz 161 15 18)) [(.name 97 (pz 161 19 24))] (pz 161 15 25)) (.call (.name 55 (pz 161 29 32)) [(.sub (.name 78 (pz 161 33 34)) (.int 3 (pz 161 35 36)) (pz 161 33 37))] (pz 161 29 38)) (pz 161 15 38)),(.cmp .Eq (.call (.name 55 (pz 161 43 46)) [(.name 22 (pz 161 47 54))] (pz 161 43 55)) (.call (.name 55 (pz 161 59 62)) [(.sub (.name 78 (pz 161 63 64)) (.int 2 (pz 161 65 66)) (pz 161 63 67))] (pz 161 59 68)) (pz 161 43 68))] (pz 161 15 68)) (pz 161 4 68)),
 (.asg (.name 99 (pz 162 4 10)) (.comp1 (.name 100 (pz 162 14 16)) (.name 100 (pz 162 21 23)) (.call (.name 77 (pz 162 27 32)) [(.call (.name 55 (pz 162 33 36)) [(.name 97 (pz 162 37 42))] (pz 162 33 43))] (pz 162 27 44)) [(.cmp .NotIn (.sub (.name 97 (pz 162 48 53)) (.name 100 (pz 162 54 56)) (pz 162 48 57)) (.slU (.name 97 (pz 162 65 70)) (.name 100 (pz 162 72 74)) (pz 162 71 74) (pz 162 65 75)) (pz 162 48 75))] [(21,.local),(100,.local),(97,.free)] (pz 162 13 76)) (pz 162 4 76)),
 (.asg (.name 101 (pz 163 4 9)) (.comp1 (.name 100 (pz 163 13 15)) (.name 100 (pz 163 20 22)) (.call (.name 77 (pz 163 26 31)) [(.call (.name 55 (pz 163 32 35)) [(.name 22 (pz 163 36 43))] (pz 163 32 44))] (pz 163 26 45)) [(.cmp .NotIn (.sub (.name 22 (pz 163 49 56)) (.name 100 (pz 163 57 59)) (pz 163 49 60)) (.slU (.name 22 (pz 163 68 75)) (.name 100 (pz 163 77 79)) (pz 163 76 79) (pz 163 68 80)) (pz 163 49 80))] [(21,.local),(100,.local),(22,.free)] (pz 163 12 81)) (pz 163 4 81)),
 (.asg (.name 102 (pz 164 4 14)) (.cmp .NotEq (.comp1 (.name 73 (pz 164 18 22)) (.tup [(.name 73 (pz 164 27 31)),(.name 103 (pz 164 33 39))] (pz 164 27 39)) (.att (.name 92 (pz 164 43 46)) 71 (pz 164 43 53)) [(.cmp .Gt (.call (.name 55 (pz 164 57 60)) [(.name 103 (pz 164 61 67))] (pz 164 57 68)) (.int 0 (pz 164 71 72)) (pz 164 57 72))] [(21,.local),(73,.local),(103,.local),(55,gI)] (pz 164 17 73)) (.lst [] (pz 164 77 79)) (pz 164 17 79)) (pz 164 4 79)),
 (.ite (.bop .Or [(.not (.name 98 (pz 165 11 19)) (pz 165 7 19)),(.cmp .Lt (.call (.name 55 (pz 165 23 26)) [(.name 99 (pz 165 27 33))] (pz 165 23 34)) (.call (.name 55 (pz 165 37 40)) [(.name 97 (pz 165 41 46))] (pz 165 37 47)) (pz 165 23 47)),(.cmp .Lt (.call (.name 55 (pz 165 51 54)) [(.name 101 (pz 165 55 60))] (pz 165 51 61)) (.call (.name 55 (pz 165 64 67)) [(.name 22 (pz 165 68 75))] (pz 165 64 76)) (pz 165 51 76)),(.name 102 (pz 165 80 90))] (pz 165 7 90)) [(.rais 94 (pz 166 14 24) [(.bin .Add (.str 104 (pz 166 25 64)) (.call (.name 46 (pz 166 67 76)) [(.name 78 (pz 166 77 78))] (pz 166 67 79)) (pz 166 25 79)),(.att (.name 92 (pz 166 81 84)) 96 (pz 166 81 89))] (pz 166 14 90) (pz 166 8 90))] [] ⟨165,4,166,90⟩)],
 [(92,.cell),(61,.local),(78,.local),(97,.cell),(22,.cell),(98,.local),(99,.local),(101,.local),(102,.local),(94,gI),(55,gI),(77,gI),(46,gI)],[92,61,78,29,97,18,22,98,100,99,101,73,103,102],189⟩
noncomputable def OL:Fn:=⟨109,109,[(106,pz 167 15 18)],[],[],[
 (.ret (.bin .Add (.call (.name 13 (pz 168 11 16)) [(.att (.name 106 (pz 168 17 20)) 107 (pz 168 17 27))] (pz 168 11 28)) (.tup [(.att (.name 106 (pz 168 32 35)) 108 (pz 168 32 42))] (pz 168 31 44)) (pz 168 11 44)) (pz 168 4 44))],
 [(106,.local),(13,gI)],[],196⟩
noncomputable def Pg:Fn:=⟨83,111,[(80,pz 171 17 21),(110,pz 171 23 28)],[],[],[
 (.asg (.att (.name 80 (pz 172 8 12)) 110 (pz 172 8 18)) (.name 110 (pz 172 21 26)) (pz 172 8 26)),
 (.asg (.att (.name 80 (pz 173 8 12)) 15 (pz 173 8 18)) (.dct [] [] (pz 173 21 23)) (pz 173 8 23))],
 [(80,.local),(110,.local)],[],210⟩
noncomputable def OO:Fn:=⟨113,114,[(80,pz 175 13 17),(112,pz 175 19 25),(7,pz 175 27 31)],[],[],[
 (.ite (.not (.call (.name 35 (pz 176 15 25)) [(.name 112 (pz 176 26 32)),(.name 13 (pz 176 34 39))] (pz 176 15 40)) (pz 176 11 40)) [(.ret (.cmp .Eq (.name 112 (pz 177 19 25)) (.name 7 (pz 177 29 33)) (pz 177 19 33)) (pz 177 12 33))] [] ⟨176,8,177,33⟩),
 (.ite (.cmp .In (.name 112 (pz 178 11 17)) (.att (.name 80 (pz 178 21 25)) 15 (pz 178 21 31)) (pz 178 11 31)) [(.ret (.cmp .Eq (.sub (.att (.name 80 (pz 179 19 23)) 15 (pz 179 19 29)) (.name 112 (pz 179 30 36)) (pz 179 19 37)) (.name 7 (pz 179 41 45)) (pz 179 19 45)) (pz 179 12 45))] [] ⟨178,8,179,45⟩),
 (.ite (.bop .Or [(.cmp .NotIn (.name 7 (pz 180 11 15)) (.att (.name 80 (pz 180 23 27)) 110 (pz 180 23 33)) (pz 180 11 33)),(.cmp .In (.name 7 (pz 180 37 41)) (.meth (.att (.name 80 (pz 180 45 49)) 15 (pz 180 45 55)) 5 [] (pz 180 45 62) (pz 180 45 64)) (pz 180 37 64))] (pz 180 11 64)) [(.ret (.bool false (pz 181 19 24)) (pz 181 12 24))] [] ⟨180,8,181,24⟩),
 (.asg (.sub (.att (.name 80 (pz 182 8 12)) 15 (pz 182 8 18)) (.name 112 (pz 182 19 25)) (pz 182 8 26)) (.name 7 (pz 182 29 33)) (pz 182 8 33)),
 (.ret (.bool true (pz 183 15 19)) (pz 183 8 19))],
 [(80,.local),(112,.local),(7,.local),(35,gI),(13,gI)],[],217⟩
noncomputable def kB:Fn:=⟨127,127,[(119,pz 184 12 17),(112,pz 184 19 25),(92,pz 184 27 30),(7,pz 184 32 36)],[],[],[
 (.ite (.bop .Or [(.cmp .NotEq (.att (.name 112 (pz 185 7 13)) 115 (pz 185 7 23)) (.att (.name 7 (pz 185 27 31)) 115 (pz 185 27 41)) (pz 185 7 41)),(.cmp .NotEq (.call (.name 55 (pz 185 45 48)) [(.att (.name 112 (pz 185 49 55)) 107 (pz 185 49 62))] (pz 185 45 63)) (.call (.name 55 (pz 185 67 70)) [(.att (.name 7 (pz 185 71 75)) 107 (pz 185 71 82))] (pz 185 67 83)) (pz 185 45 83))] (pz 185 7 83)) [(.ret (.bool false (pz 186 15 20)) (pz 186 8 20))] [] ⟨185,4,186,20⟩),
 (.ite (.cmp .NotEq (.comp1 (.name 116 (pz 187 8 14)) (.tup [(.name 73 (pz 187 19 23)),(.name 116 (pz 187 25 31))] (pz 187 19 31)) (.att (.name 112 (pz 187 35 41)) 117 (pz 187 35 45)) [] [(21,.local),(73,.local),(116,.local)] (pz 187 7 46)) (.comp1 (.name 116 (pz 187 51 57)) (.tup [(.name 73 (pz 187 62 66)),(.name 116 (pz 187 68 74))] (pz 187 62 74)) (.att (.name 7 (pz 187 78 82)) 117 (pz 187 78 86)) [] [(21,.local),(73,.local),(116,.local)] (pz 187 50 87)) (pz 187 7 87)) [(.ret (.bool false (pz 188 15 20)) (pz 188 8 20))] [] ⟨187,4,188,20⟩),
 (.asg (.name 27 (pz 189 4 9)) (.dct [(.str 118 (pz 189 13 19))] [(.att (.name 92 (pz 189 21 24)) 93 (pz 189 21 34))] (pz 189 12 35)) (pz 189 4 35)),
 (.for_ (.tup [(.name 100 (pz 190 8 10)),(.name 73 (pz 190 12 16))] (pz 190 8 16)) (.call (.name 67 (pz 190 20 29)) [(.att (.name 119 (pz 190 30 35)) 71 (pz 190 30 42))] (pz 190 20 43)) [(.asg (.sub (.name 27 (pz 191 8 13)) (.name 73 (pz 191 14 18)) (pz 191 8 19)) (.sub (.att (.name 92 (pz 191 22 25)) 120 (pz 191 22 36)) (.name 100 (pz 191 37 39)) (pz 191 22 40)) (pz 191 8 40))] ⟨190,4,191,40⟩),
 (.for_ (.tup [(.name 100 (pz 192 8 10)),(.tup [(.name 73 (pz 192 13 17)),(.name 116 (pz 192 19 25))] (pz 192 12 26))] (pz 192 8 26)) (.call (.name 67 (pz 192 30 39)) [(.att (.name 112 (pz 192 40 46)) 117 (pz 192 40 50))] (pz 192 30 51)) [(.asg (.sub (.name 27 (pz 193 8 13)) (.name 73 (pz 193 14 18)) (pz 193 8 19)) (.tup [(.str 26 (pz 193 23 30)),(.sub (.sub (.att (.name 7 (pz 193 32 36)) 117 (pz 193 32 40)) (.name 100 (pz 193 41 43)) (pz 193 32 44)) (.int 0 (pz 193 45 46)) (pz 193 32 47))] (pz 193 22 48)) (pz 193 8 48))] ⟨192,4,193,48⟩),
 (.asg (.name 121 (pz 194 4 12)) (.call (.name 122 (pz 194 15 23)) [(.comp1 (.name 18 (pz 194 25 31)) (.name 18 (pz 194 36 42)) (.att (.name 7 (pz 194 46 50)) 22 (pz 194 46 58)) [(.cmp .NotIn (.name 18 (pz 194 62 68)) (.att (.name 92 (pz 194 76 79)) 22 (pz 194 76 87)) (pz 194 62 87))] [(21,.local),(18,.local),(92,.free)] (pz 194 24 88))] (pz 194 15 89)) (pz 194 4 89)),
 (.for_ (.tup [(.name 17 (pz 195 8 11)),(.name 123 (pz 195 13 18))] (pz 195 8 18)) (.call (.name 70 (pz 195 22 25)) [(.call (.name 109 (pz 195 26 36)) [(.name 112 (pz 195 37 43))] (pz 195 26 44)),(.call (.name 109 (pz 195 46 56)) [(.name 7 (pz 195 57 61))] (pz 195 46 62))] (pz 195 22 63)) [(.asg (.name 124 (pz 196 8 14)) (.call (.name 20 (pz 196 17 31)) [(.name 17 (pz 196 32 35)),(.lam [(18,pz 196 44 50)] (.ifx (.cmp .In (.name 18 (pz 196 71 77)) (.att (.name 112 (pz 196 81 87)) 22 (pz 196 81 95)) (pz 196 71 95)) (.tup [(.str 117 (pz 196 53 58)),(.name 18 (pz 196 60 66))] (pz 196 52 67)) (.name 18 (pz 196 101 107)) (pz 196 52 107)) [(18,.local),(112,.free)] (pz 196 37 107))] (pz 196 17 108)) (pz 196 8 108)),(.asg (.name 125 (pz 197 8 11)) (.call (.name 28 (pz 197 14 25)) [(.name 124 (pz 197 26 32)),(.name 27 (pz 197 34 39))] (pz 197 14 40)) (pz 197 8 40)),(.ite (.cmp .NotEq (.call (.name 33 (pz 198 11 17)) [(.name 125 (pz 198 18 21))] (pz 198 11 22)) (.call (.name 33 (pz 198 26 32)) [(.name 123 (pz 198 33 38))] (pz 198 26 39)) (pz 198 11 39)) [(.ret (.bool false (pz 199 19 24)) (pz 199 12 24))] [] ⟨198,8,199,24⟩),(.for_ (.tup [(.name 18 (pz 200 12 18)),(.name 126 (pz 200 20 24))] (pz 200 12 24)) (.call (.name 70 (pz 200 28 31)) [(.call (.name 9 (pz 200 32 42)) [(.name 125 (pz 200 43 46))] (pz 200 32 47)),(.call (.name 9 (pz 200 49 59)) [(.name 123 (pz 200 60 65))] (pz 200 49 66))] (pz 200 28 67)) [(.ite (.not (.meth (.name 121 (pz 201 19 27)) 113 [(.name 18 (pz 201 33 39)),(.name 126 (pz 201 41 45))] (pz 201 19 32) (pz 201 19 46)) (pz 201 15 46)) [(.ret (.bool false (pz 202 23 28)) (pz 202 16 28))] [] ⟨201,12,202,28⟩)] ⟨200,8,202,28⟩)] ⟨195,4,202,28⟩),
 (.ret (.bool true (pz 203 11 15)) (pz 203 4 15))],
 [(119,.local),(112,.cell),(92,.cell),(7,.local),(73,.local),(116,.local),(27,.local),(100,.local),(18,.local),(121,.local),(17,.local),(123,.local),(124,.local),(125,.local),(126,.local),(55,gI),(67,gI),(122,gI),(70,gI),(109,gI),(20,gI),(28,gI),(33,gI),(9,gI)],[119,112,92,7,73,116,27,100,18,121,17,123,124,125,126],229⟩
noncomputable def lm:Fn:=⟨137,137,[(92,pz 204 18 21),(61,pz 204 23 28)],[],[],[
 (.asg (.name 119 (pz 205 4 9)) (.sub (.att (.name 61 (pz 205 12 17)) 103 (pz 205 12 24)) (.att (.name 92 (pz 205 25 28)) 119 (pz 205 25 34)) (pz 205 12 35)) (pz 205 4 35)),
 (.for_ (.name 73 (pz 206 8 12)) (.att (.name 92 (pz 206 16 19)) 128 (pz 206 16 27)) [(.ite (.cmp .NotIn (.name 73 (pz 207 11 15)) (.att (.name 119 (pz 207 23 28)) 128 (pz 207 23 36)) (pz 207 11 36)) [(.rais 94 (pz 208 18 28) [(.bin .Add (.bin .Add (.att (.name 92 (pz 208 29 32)) 119 (pz 208 29 38)) (.str 129 (pz 208 41 58)) (pz 208 29 58)) (.name 73 (pz 208 61 65)) (pz 208 29 65)),(.att (.name 92 (pz 208 67 70)) 96 (pz 208 67 75))] (pz 208 18 76) (pz 208 12 76))] [] ⟨207,8,208,76⟩),(.ite (.not (.call (.name 127 (pz 209 15 22)) [(.name 119 (pz 209 23 28)),(.sub (.att (.name 119 (pz 209 30 35)) 128 (pz 209 30 43)) (.name 73 (pz 209 44 48)) (pz 209 30 49)),(.name 92 (pz 209 51 54)),(.sub (.att (.name 61 (pz 209 56 61)) 130 (pz 209 56 66)) (.sub (.att (.name 92 (pz 209 67 70)) 128 (pz 209 67 78)) (.name 73 (pz 209 79 83)) (pz 209 67 84)) (pz 209 56 85))] (pz 209 15 86)) (pz 209 11 86)) [(.rais 94 (pz 210 18 28) [(.bin .Add (.bin .Add (.bin .Add (.bin .Add (.str 131 (pz 210 29 42)) (.name 73 (pz 210 45 49)) (pz 210 29 49)) (.str 132 (pz 210 52 65)) (pz 210 29 65)) (.att (.name 92 (pz 210 68 71)) 119 (pz 210 68 77)) (pz 210 29 77)) (.str 133 (pz 210 80 91)) (pz 210 29 91)),(.att (.name 92 (pz 210 93 96)) 96 (pz 210 93 101))] (pz 210 18 102) (pz 210 12 102))] [] ⟨209,8,210,102⟩)] ⟨206,4,210,102⟩),
 (.for_ (.name 73 (pz 211 8 12)) (.att (.name 119 (pz 211 16 21)) 128 (pz 211 16 29)) [(.ite (.bop .And [(.cmp .NotIn (.name 73 (pz 212 11 15)) (.att (.name 92 (pz 212 23 26)) 128 (pz 212 23 34)) (pz 212 11 34)),(.cmp .NotIn (.name 73 (pz 212 39 43)) (.att (.name 119 (pz 212 51 56)) 134 (pz 212 51 65)) (pz 212 39 65))] (pz 212 11 65)) [(.rais 94 (pz 213 18 28) [(.bin .Add (.bin .Add (.bin .Add (.bin .Add (.str 131 (pz 213 29 42)) (.name 73 (pz 213 45 49)) (pz 213 29 49)) (.str 135 (pz 213 52 58)) (pz 213 29 58)) (.att (.name 92 (pz 213 61 64)) 119 (pz 213 61 70)) (pz 213 29 70)) (.str 136 (pz 213 73 86)) (pz 213 29 86)),(.att (.name 92 (pz 213 88 91)) 96 (pz 213 88 96))] (pz 213 18 97) (pz 213 12 97))] [] ⟨212,8,213,97⟩)] ⟨211,4,213,97⟩)],
 [(92,.local),(61,.local),(119,.local),(73,.local),(94,gI),(127,gI)],[],236⟩
noncomputable def iB:Fn:=⟨143,143,[(61,pz 214 16 21)],[],[],[
 (.asg (.name 138 (pz 215 4 10)) (.call (.name 139 (pz 215 13 19)) [(.name 61 (pz 215 20 25))] (pz 215 13 26)) (pz 215 4 26)),
 (.for_ (.name 75 (pz 216 8 12)) (.call (.name 140 (pz 216 16 22)) [(.att (.name 61 (pz 216 23 28)) 62 (pz 216 23 33))] (pz 216 16 34)) [(.expr (.meth (.name 138 (pz 217 8 14)) 85 [(.call (.name 76 (pz 217 20 28)) [(.name 75 (pz 217 29 33)),(.name 61 (pz 217 35 40))] (pz 217 20 41))] (pz 217 8 19) (pz 217 8 42)) (pz 217 8 42))] ⟨216,4,217,42⟩),
 (.for_ (.name 92 (pz 218 8 11)) (.att (.name 61 (pz 218 15 20)) 141 (pz 218 15 26)) [(.ite (.cmp .IsNot (.att (.name 92 (pz 219 11 14)) 119 (pz 219 11 20)) (.none (pz 219 28 32)) (pz 219 11 32)) [(.expr (.call (.name 137 (pz 220 12 25)) [(.name 92 (pz 220 26 29)),(.name 61 (pz 220 31 36))] (pz 220 12 37)) (pz 220 12 37))] [] ⟨219,8,220,37⟩),(.ite (.cmp .Eq (.att (.name 92 (pz 221 11 14)) 119 (pz 221 11 20)) (.name 142 (pz 221 24 28)) (pz 221 11 28)) [(.expr (.call (.name 105 (pz 222 12 22)) [(.name 92 (pz 222 23 26)),(.name 61 (pz 222 28 33))] (pz 222 12 34)) (pz 222 12 34))] [] ⟨221,8,222,34⟩)] ⟨218,4,222,34⟩)],
 [(61,.local),(138,.local),(75,.local),(92,.local),(139,gI),(140,gI),(76,gI),(137,gI),(142,gI),(105,gI)],[],243⟩
noncomputable def OY:Fn:=⟨83,147,[(80,pz 226 17 21),(75,pz 226 23 27),(22,pz 226 29 36),(71,pz 226 38 44),(63,pz 226 46 54),(146,pz 226 56 63),(144,pz 226 65 71),(145,pz 226 76 83)],[(.str 34 (pz 226 72 74)),(.tup [] (pz 226 84 86))],[.str 34, .tup []],[
 (.asg (.att (.name 80 (pz 227 8 12)) 75 (pz 227 8 17)) (.name 75 (pz 227 20 24)) (pz 227 8 24)),
 (.asg (.att (.name 80 (pz 228 8 12)) 144 (pz 228 8 19)) (.name 144 (pz 228 22 28)) (pz 228 8 28)),
 (.asg (.att (.name 80 (pz 229 8 12)) 22 (pz 229 8 20)) (.name 22 (pz 229 23 30)) (pz 229 8 30)),
 (.asg (.att (.name 80 (pz 230 8 12)) 71 (pz 230 8 19)) (.name 71 (pz 230 22 28)) (pz 230 8 28)),
 (.asg (.att (.name 80 (pz 231 8 12)) 63 (pz 231 8 21)) (.name 63 (pz 231 24 32)) (pz 231 8 32)),
 (.asg (.att (.name 80 (pz 232 8 12)) 145 (pz 232 8 20)) (.name 145 (pz 232 23 30)) (pz 232 8 30)),
 (.asg (.att (.name 80 (pz 233 8 12)) 146 (pz 233 8 20)) (.name 146 (pz 233 23 30)) (pz 233 8 30))],
 [(80,.local),(75,.local),(22,.local),(71,.local),(63,.local),(146,.local),(144,.local),(145,.local)],[],259⟩
noncomputable def Pw:Fn:=⟨83,149,[(80,pz 236 17 21),(75,pz 236 23 27),(22,pz 236 29 36),(71,pz 236 38 44),(117,pz 236 46 49),(107,pz 236 51 57),(108,pz 236 59 65),(115,pz 236 67 76),(148,pz 236 78 86)],[],[],[
 (.asg (.att (.name 80 (pz 237 8 12)) 75 (pz 237 8 17)) (.name 75 (pz 237 20 24)) (pz 237 8 24)),
 (.asg (.att (.name 80 (pz 238 8 12)) 22 (pz 238 8 20)) (.name 22 (pz 238 23 30)) (pz 238 8 30)),
 (.asg (.att (.name 80 (pz 239 8 12)) 71 (pz 239 8 19)) (.name 71 (pz 239 22 28)) (pz 239 8 28)),
 (.asg (.att (.name 80 (pz 240 8 12)) 117 (pz 240 8 16)) (.name 117 (pz 240 19 22)) (pz 240 8 22)),
 (.asg (.att (.name 80 (pz 241 8 12)) 107 (pz 241 8 19)) (.name 107 (pz 241 22 28)) (pz 241 8 28)),
 (.asg (.att (.name 80 (pz 242 8 12)) 108 (pz 242 8 19)) (.name 108 (pz 242 22 28)) (pz 242 8 28)),
 (.asg (.att (.name 80 (pz 243 8 12)) 115 (pz 243 8 22)) (.name 115 (pz 243 25 34)) (pz 243 8 34)),
 (.asg (.att (.name 80 (pz 244 8 12)) 148 (pz 244 8 21)) (.name 148 (pz 244 24 32)) (pz 244 8 32))],
 [(80,.local),(75,.local),(22,.local),(71,.local),(117,.local),(107,.local),(108,.local),(115,.local),(148,.local)],[],280⟩
noncomputable def OU:Fn:=⟨83,150,[(80,pz 247 17 21),(75,pz 247 23 27),(71,pz 247 29 35),(128,pz 247 37 44),(134,pz 247 46 54)],[],[],[
 (.asg (.att (.name 80 (pz 248 8 12)) 75 (pz 248 8 17)) (.name 75 (pz 248 20 24)) (pz 248 8 24)),
 (.asg (.att (.name 80 (pz 249 8 12)) 71 (pz 249 8 19)) (.name 71 (pz 249 22 28)) (pz 249 8 28)),
 (.asg (.att (.name 80 (pz 250 8 12)) 128 (pz 250 8 20)) (.name 128 (pz 250 23 30)) (pz 250 8 30)),
 (.asg (.att (.name 80 (pz 251 8 12)) 134 (pz 251 8 21)) (.name 134 (pz 251 24 32)) (pz 251 8 32))],
 [(80,.local),(75,.local),(71,.local),(128,.local),(134,.local)],[],301⟩
noncomputable def Pr:Fn:=⟨83,152,[(80,pz 254 17 21),(151,pz 254 23 29),(22,pz 254 31 38),(71,pz 254 40 46),(119,pz 254 48 53),(120,pz 254 55 65),(93,pz 254 67 76),(128,pz 254 78 85),(96,pz 254 87 91)],[(.int 0 (pz 254 92 93))],[.int 0],[
 (.asg (.att (.name 80 (pz 255 8 12)) 151 (pz 255 8 19)) (.name 151 (pz 255 22 28)) (pz 255 8 28)),
 (.asg (.att (.name 80 (pz 256 8 12)) 22 (pz 256 8 20)) (.name 22 (pz 256 23 30)) (pz 256 8 30)),
 (.asg (.att (.name 80 (pz 257 8 12)) 71 (pz 257 8 19)) (.name 71 (pz 257 22 28)) (pz 257 8 28)),
 (.asg (.att (.name 80 (pz 258 8 12)) 119 (pz 258 8 18)) (.name 119 (pz 258 21 26)) (pz 258 8 26)),
 (.asg (.att (.name 80 (pz 259 8 12)) 120 (pz 259 8 23)) (.name 120 (pz 259 26 36)) (pz 259 8 36)),
 (.asg (.att (.name 80 (pz 260 8 12)) 93 (pz 260 8 22)) (.name 93 (pz 260 25 34)) (pz 260 8 34)),
 (.asg (.att (.name 80 (pz 261 8 12)) 128 (pz 261 8 20)) (.name 128 (pz 261 23 30)) (pz 261 8 30)),
 (.asg (.att (.name 80 (pz 262 8 12)) 96 (pz 262 8 17)) (.name 96 (pz 262 20 24)) (pz 262 8 24))],
 [(80,.local),(151,.local),(22,.local),(71,.local),(119,.local),(120,.local),(93,.local),(128,.local),(96,.local)],[],323⟩
noncomputable def OK:Fn:=⟨83,156,[(80,pz 265 17 21),(153,pz 265 23 30)],[(.none (pz 265 31 35))],[.none],[
 (.asg (.att (.name 80 (pz 266 8 12)) 153 (pz 266 8 20)) (.name 153 (pz 266 23 30)) (pz 266 8 30)),
 (.asg (.att (.name 80 (pz 267 8 12)) 62 (pz 267 8 17)) (.dct [] [] (pz 267 20 22)) (pz 267 8 22)),
 (.asg (.att (.name 80 (pz 268 8 12)) 63 (pz 268 8 21)) (.dct [] [] (pz 268 24 26)) (pz 268 8 26)),
 (.asg (.att (.name 80 (pz 269 8 12)) 130 (pz 269 8 17)) (.dct [] [] (pz 269 20 22)) (pz 269 8 22)),
 (.asg (.att (.name 80 (pz 270 8 12)) 103 (pz 270 8 19)) (.dct [] [] (pz 270 22 24)) (pz 270 8 24)),
 (.asg (.att (.name 80 (pz 271 8 12)) 141 (pz 271 8 18)) (.lst [] (pz 271 21 23)) (pz 271 8 23)),
 (.asg (.att (.name 80 (pz 272 8 12)) 154 (pz 272 8 19)) (.dct [] [] (pz 272 22 24)) (pz 272 8 24)),
 (.asg (.att (.name 80 (pz 273 8 12)) 155 (pz 273 8 19)) (.dct [] [] (pz 273 22 24)) (pz 273 8 24))],
 [(80,.local),(153,.local)],[],345⟩
noncomputable def Pv:Fn:=⟨160,160,[(159,pz 292 13 19),(157,pz 292 21 27)],[],[],[
 (.ret (.sub (.name 157 (pz 293 11 17)) (.call (.name 158 (pz 293 18 27)) [(.name 159 (pz 293 28 34)),(.call (.name 55 (pz 293 36 39)) [(.name 157 (pz 293 40 46))] (pz 293 36 47))] (pz 293 18 48)) (pz 293 11 49)) (pz 293 4 49))],
 [(159,.local),(157,.local),(158,gI),(55,gI)],[],380⟩
noncomputable def Pk:Fn:=⟨169,169,[(159,pz 295 15 21),(166,pz 295 23 27)],[],[],[
 (.asg (.tup [(.name 161 (pz 296 4 7)),(.name 73 (pz 296 9 13))] (pz 296 4 13)) (.tup [(.call (.name 158 (pz 296 17 26)) [(.name 159 (pz 296 27 33)),(.int 7 (pz 296 35 36))] (pz 296 17 37)),(.call (.name 160 (pz 296 39 47)) [(.name 159 (pz 296 48 54)),(.lst [(.str 162 (pz 296 57 60)),(.str 163 (pz 296 62 65)),(.str 164 (pz 296 67 70))] (pz 296 56 71))] (pz 296 39 72))] (pz 296 16 73)) (pz 296 4 73)),
 (.asg (.name 165 (pz 297 4 9)) (.tup [(.str 14 (pz 297 13 18)),(.name 73 (pz 297 20 24)),(.tup [] (pz 297 26 28)),(.tup [] (pz 297 30 32))] (pz 297 12 33)) (pz 297 4 33)),
 (.ite (.bop .Or [(.cmp .Lt (.name 161 (pz 298 7 10)) (.int 2 (pz 298 13 14)) (pz 298 7 14)),(.cmp .Eq (.name 166 (pz 298 18 22)) (.int 0 (pz 298 26 27)) (pz 298 18 27))] (pz 298 7 27)) [(.ret (.lst [(.name 167 (pz 299 16 24)),(.lst [] (pz 299 26 28))] (pz 299 15 29)) (pz 299 8 29))] [] ⟨298,4,299,29⟩),
 (.ite (.cmp .Eq (.name 161 (pz 300 7 10)) (.int 2 (pz 300 14 15)) (pz 300 7 15)) [(.ret (.lst [(.name 165 (pz 301 16 21)),(.lst [(.name 73 (pz 301 24 28))] (pz 301 23 29))] (pz 301 15 30)) (pz 301 8 30))] [] ⟨300,4,301,30⟩),
 (.ite (.cmp .Eq (.name 161 (pz 302 7 10)) (.int 3 (pz 302 14 15)) (pz 302 7 15)) [(.ret (.call (.name 160 (pz 303 15 23)) [(.name 159 (pz 303 24 30)),(.lst [(.lst [(.tup [(.str 10 (pz 303 35 40)),(.name 165 (pz 303 42 47))] (pz 303 34 48)),(.lst [] (pz 303 50 52))] (pz 303 33 53)),(.lst [(.tup [(.str 8 (pz 303 57 62)),(.str 168 (pz 303 64 73)),(.bool false (pz 303 75 80)),(.name 165 (pz 303 82 87))] (pz 303 56 88)),(.lst [] (pz 303 90 92))] (pz 303 55 93))] (pz 303 32 94))] (pz 303 15 95)) (pz 303 8 95))] [] ⟨302,4,303,95⟩),
 (.asg (.name 12 (pz 304 4 9)) (.call (.name 169 (pz 304 12 22)) [(.name 159 (pz 304 23 29)),(.bin .Sub (.name 166 (pz 304 31 35)) (.int 1 (pz 304 38 39)) (pz 304 31 39))] (pz 304 12 40)) (pz 304 4 40)),
 (.ite (.cmp .Eq (.name 161 (pz 305 7 10)) (.int 4 (pz 305 14 15)) (pz 305 7 15)) [(.ret (.lst [(.tup [(.str 13 (pz 306 17 24)),(.tup [(.name 167 (pz 306 27 35)),(.sub (.name 12 (pz 306 37 42)) (.int 0 (pz 306 43 44)) (pz 306 37 45))] (pz 306 26 46))] (pz 306 16 47)),(.sub (.name 12 (pz 306 49 54)) (.int 1 (pz 306 55 56)) (pz 306 49 57))] (pz 306 15 58)) (pz 306 8 58))] [] ⟨305,4,306,58⟩),
 (.ite (.cmp .Eq (.name 161 (pz 307 7 10)) (.int 5 (pz 307 14 15)) (pz 307 7 15)) [(.ret (.lst [(.tup [(.str 11 (pz 308 17 24)),(.sub (.name 12 (pz 308 26 31)) (.int 0 (pz 308 32 33)) (pz 308 26 34)),(.int 2 (pz 308 36 37))] (pz 308 16 38)),(.sub (.name 12 (pz 308 40 45)) (.int 1 (pz 308 46 47)) (pz 308 40 48))] (pz 308 15 49)) (pz 308 8 49))] [] ⟨307,4,308,49⟩),
 (.ret (.lst [(.tup [(.str 10 (pz 309 13 18)),(.sub (.name 12 (pz 309 20 25)) (.int 0 (pz 309 26 27)) (pz 309 20 28))] (pz 309 12 29)),(.lst [] (pz 309 31 33))] (pz 309 11 34)) (pz 309 4 34))],
 [(159,.local),(166,.local),(161,.local),(73,.local),(165,.local),(12,.local),(158,gI),(160,gI),(167,gI),(169,gI)],[],388⟩
noncomputable def lQ:Fn:=⟨178,178,[(159,pz 310 17 23)],[],[],[
 (.asg (.tup [(.name 170 (pz 311 4 10)),(.name 171 (pz 311 12 17))] (pz 311 4 17)) (.tup [(.call (.name 172 (pz 311 21 26)) [] (pz 311 21 28)),(.dct [] [] (pz 311 30 32))] (pz 311 20 33)) (pz 311 4 33)),
 (.for_ (.name 73 (pz 312 8 12)) (.lst [(.str 162 (pz 312 17 20)),(.str 163 (pz 312 22 25)),(.str 164 (pz 312 27 30))] (pz 312 16 31)) [(.asg (.tup [(.name 173 (pz 313 8 16)),(.name 63 (pz 313 18 26))] (pz 313 8 26)) (.tup [(.cmp .Eq (.call (.name 158 (pz 313 30 39)) [(.name 159 (pz 313 40 46)),(.int 2 (pz 313 48 49))] (pz 313 30 50)) (.int 0 (pz 313 54 55)) (pz 313 30 55)),(.lst [] (pz 313 57 59))] (pz 313 29 60)) (pz 313 8 60)),(.asg (.sub (.name 171 (pz 314 8 13)) (.name 73 (pz 314 14 18)) (pz 314 8 19)) (.lst [] (pz 314 22 24)) (pz 314 8 24)),(.for_ (.name 151 (pz 315 12 18)) (.call (.name 77 (pz 315 22 27)) [(.bin .Add (.int 1 (pz 315 28 29)) (.bin .Mult (.call (.name 39 (pz 315 32 35)) [(.name 173 (pz 315 36 44))] (pz 315 32 45)) (.call (.name 158 (pz 315 48 57)) [(.name 159 (pz 315 58 64)),(.int 2 (pz 315 66 67))] (pz 315 48 68)) (pz 315 32 68)) (pz 315 28 68))] (pz 315 22 69)) [(.asg (.name 174 (pz 316 12 16)) (.comp1 (.call (.name 169 (pz 316 20 30)) [(.name 159 (pz 316 31 37)),(.int 2 (pz 316 39 40))] (pz 316 20 41)) (.name 19 (pz 316 46 50)) (.call (.name 77 (pz 316 54 59)) [(.call (.name 158 (pz 316 60 69)) [(.name 159 (pz 316 70 76)),(.int 3 (pz 316 78 79))] (pz 316 60 80))] (pz 316 54 81)) [] [(21,.local),(19,.local),(169,gI),(159,.free)] (pz 316 19 82)) (pz 316 12 82)),(.expr (.meth (.name 63 (pz 317 12 20)) 0 [(.tup [(.bin .Add (.str 175 (pz 317 29 32)) (.call (.name 36 (pz 317 35 38)) [(.name 151 (pz 317 39 45))] (pz 317 35 46)) (pz 317 29 46)),(.str 13 (pz 317 48 55)),(.comp1 (.tup [(.call (.name 36 (pz 317 59 62)) [(.name 100 (pz 317 63 65))] (pz 317 59 66)),(.sub (.sub (.name 174 (pz 317 68 72)) (.name 100 (pz 317 73 75)) (pz 317 68 76)) (.int 0 (pz 317 77 78)) (pz 317 68 79))] (pz 317 58 80)) (.name 100 (pz 317 85 87)) (.call (.name 77 (pz 317 91 96)) [(.call (.name 55 (pz 317 97 100)) [(.name 174 (pz 317 101 105))] (pz 317 97 106))] (pz 317 91 107)) [] [(21,.local),(100,.local),(36,gI),(174,.free)] (pz 317 57 108))] (pz 317 28 109))] (pz 317 12 27) (pz 317 12 110)) (pz 317 12 110)),(.asg (.sub (.name 171 (pz 318 12 17)) (.name 73 (pz 318 18 22)) (pz 318 12 23)) (.bin .Add (.sub (.name 171 (pz 318 26 31)) (.name 73 (pz 318 32 36)) (pz 318 26 37)) (.comp2 (.name 17 (pz 318 41 44)) (.name 92 (pz 318 49 52)) (.name 174 (pz 318 56 60)) (.name 17 (pz 318 65 68)) (.sub (.name 92 (pz 318 72 75)) (.int 1 (pz 318 76 77)) (pz 318 72 78)) [] [(21,.local),(92,.local),(17,.local)] (pz 318 40 79)) (pz 318 26 79)) (pz 318 12 79))] ⟨315,8,318,79⟩),(.asg (.sub (.att (.name 170 (pz 319 8 14)) 62 (pz 319 8 19)) (.name 73 (pz 319 20 24)) (pz 319 8 25)) (.call (.name 176 (pz 319 28 31)) [(.name 73 (pz 319 32 36)),(.tup [] (pz 319 38 40)),(.tup [] (pz 319 42 44)),(.name 63 (pz 319 46 54)),(.name 173 (pz 319 56 64))] (pz 319 28 65)) (pz 319 8 65))] ⟨312,4,319,65⟩),
 (.for_ (.name 19 (pz 320 8 12)) (.call (.name 77 (pz 320 16 21)) [(.int 3 (pz 320 22 23))] (pz 320 16 24)) [(.for_ (.name 73 (pz 321 12 16)) (.lst [(.str 162 (pz 321 21 24)),(.str 163 (pz 321 26 29)),(.str 164 (pz 321 31 34))] (pz 321 20 35)) [(.asg (.sub (.name 171 (pz 322 12 17)) (.name 73 (pz 322 18 22)) (pz 322 12 23)) (.bin .Add (.sub (.name 171 (pz 322 26 31)) (.name 73 (pz 322 32 36)) (pz 322 26 37)) (.comp2 (.name 177 (pz 322 41 44)) (.name 17 (pz 322 49 52)) (.sub (.name 171 (pz 322 56 61)) (.name 73 (pz 322 62 66)) (pz 322 56 67)) (.name 177 (pz 322 72 75)) (.sub (.name 171 (pz 322 79 84)) (.name 17 (pz 322 85 88)) (pz 322 79 89)) [(.cmp .NotIn (.name 177 (pz 322 93 96)) (.sub (.name 171 (pz 322 104 109)) (.name 73 (pz 322 110 114)) (pz 322 104 115)) (pz 322 93 115))] [(21,.local),(17,.local),(177,.local),(73,.free),(171,.free)] (pz 322 40 116)) (pz 322 26 116)) (pz 322 12 116))] ⟨321,8,322,116⟩)] ⟨320,4,322,116⟩),
 (.ret (.lst [(.name 170 (pz 323 12 18)),(.cmp .NotEq (.comp1 (.name 73 (pz 323 21 25)) (.name 73 (pz 323 30 34)) (.lst [(.str 162 (pz 323 39 42)),(.str 163 (pz 323 44 47)),(.str 164 (pz 323 49 52))] (pz 323 38 53)) [(.cmp .In (.name 73 (pz 323 57 61)) (.sub (.name 171 (pz 323 65 70)) (.name 73 (pz 323 71 75)) (pz 323 65 76)) (pz 323 57 76))] [(21,.local),(73,.local),(171,.free)] (pz 323 20 77)) (.lst [] (pz 323 81 83)) (pz 323 20 83))] (pz 323 11 84)) (pz 323 4 84))],
 [(159,.cell),(170,.local),(171,.cell),(73,.cell),(173,.local),(63,.local),(151,.local),(19,.local),(174,.cell),(172,gI),(158,gI),(77,gI),(39,gI),(36,gI),(55,gI),(176,gI)],[159,170,171,73,173,63,151,19,174,100,92,17,177],393⟩
noncomputable def fR:Fn:=⟨193,193,[(159,pz 332 20 26)],[],[],[
 (.asg (.name 170 (pz 333 4 10)) (.call (.name 172 (pz 333 13 18)) [] (pz 333 13 20)) (pz 333 4 20)),
 (.asg (.sub (.att (.name 170 (pz 334 4 10)) 62 (pz 334 4 15)) (.str 179 (pz 334 16 19)) (pz 334 4 20)) (.call (.name 176 (pz 334 23 26)) [(.str 179 (pz 334 27 30)),(.tup [(.str 180 (pz 334 33 37)),(.str 181 (pz 334 39 43))] (pz 334 32 44)),(.tup [(.str 78 (pz 334 47 50)),(.str 182 (pz 334 52 55))] (pz 334 46 56)),(.lst [(.tup [(.str 179 (pz 334 60 63)),(.str 183 (pz 334 65 71)),(.lst [] (pz 334 73 75))] (pz 334 59 76))] (pz 334 58 77)),(.bool false (pz 334 79 84))] (pz 334 23 85)) (pz 334 4 85)),
 (.asg (.sub (.att (.name 170 (pz 335 4 10)) 103 (pz 335 4 17)) (.str 184 (pz 335 18 24)) (pz 335 4 25)) (.call (.name 185 (pz 335 28 36)) [(.str 184 (pz 335 37 43)),(.tup [] (pz 335 45 47)),(.dct [] [] (pz 335 49 51)),(.dct [] [] (pz 335 53 55))] (pz 335 28 56)) (pz 335 4 56)),
 (.asg (.name 22 (pz 336 4 11)) (.call (.name 160 (pz 336 14 22)) [(.name 159 (pz 336 23 29)),(.lst [(.tup [(.str 186 (pz 336 33 37)),(.str 187 (pz 336 39 43))] (pz 336 32 44)),(.tup [(.str 186 (pz 336 47 51)),(.str 187 (pz 336 53 57))] (pz 336 46 58)),(.tup [(.str 187 (pz 336 61 65)),(.str 186 (pz 336 67 71))] (pz 336 60 72)),(.tup [(.str 186 (pz 336 75 79)),(.str 186 (pz 336 81 85))] (pz 336 74 86)),(.tup [(.str 186 (pz 336 89 93)),(.str 168 (pz 336 95 104))] (pz 336 88 105))] (pz 336 31 106))] (pz 336 14 107)) (pz 336 4 107)),
 (.asg (.tup [(.name 78 (pz 337 4 5)),(.name 182 (pz 337 7 8))] (pz 337 4 8)) (.tup [(.tup [(.str 26 (pz 337 13 20)),(.str 78 (pz 337 22 25))] (pz 337 12 26)),(.tup [(.str 26 (pz 337 29 36)),(.str 182 (pz 337 38 41))] (pz 337 28 42))] (pz 337 11 43)) (pz 337 4 43)),
 (.asg (.name 68 (pz 338 4 9)) (.call (.name 160 (pz 338 12 20)) [(.name 159 (pz 338 21 27)),(.lst [(.tup [(.name 78 (pz 338 31 32)),(.name 182 (pz 338 34 35))] (pz 338 30 36)),(.tup [(.name 78 (pz 338 39 40)),(.name 182 (pz 338 42 43))] (pz 338 38 44)),(.tup [(.name 182 (pz 338 47 48)),(.name 78 (pz 338 50 51))] (pz 338 46 52)),(.tup [(.name 78 (pz 338 55 56)),(.name 78 (pz 338 58 59))] (pz 338 54 60)),(.tup [(.name 78 (pz 338 63 64)),(.name 167 (pz 338 66 74))] (pz 338 62 75)),(.tup [(.tup [(.str 10 (pz 338 79 84)),(.name 78 (pz 338 86 87))] (pz 338 78 88)),(.name 182 (pz 338 90 91))] (pz 338 77 92))] (pz 338 29 93))] (pz 338 12 94)) (pz 338 4 94)),
 (.asg (.name 116 (pz 339 4 10)) (.call (.name 160 (pz 339 13 21)) [(.name 159 (pz 339 22 28)),(.lst [(.tup [] (pz 339 31 33)),(.tup [] (pz 339 35 37)),(.tup [] (pz 339 39 41)),(.tup [(.str 188 (pz 339 44 51))] (pz 339 43 53))] (pz 339 30 54))] (pz 339 13 55)) (pz 339 4 55)),
 (.asg (.name 189 (pz 340 4 8)) (.call (.name 160 (pz 340 11 19)) [(.name 159 (pz 340 20 26)),(.bin .Add (.bin .Mult (.lst [(.tup [(.str 14 (pz 340 30 35)),(.str 179 (pz 340 37 40)),(.name 22 (pz 340 42 49)),(.name 68 (pz 340 51 56))] (pz 340 29 57))] (pz 340 28 58)) (.int 4 (pz 340 61 62)) (pz 340 28 62)) (.lst [(.tup [(.str 10 (pz 340 67 72)),(.name 78 (pz 340 74 75))] (pz 340 66 76))] (pz 340 65 77)) (pz 340 28 77))] (pz 340 11 78)) (pz 340 4 78)),
 (.asg (.att (.name 170 (pz 341 4 10)) 141 (pz 341 4 16)) (.lst [(.call (.name 190 (pz 341 20 27)) [(.int 0 (pz 341 28 29)),(.tup [(.str 186 (pz 341 32 36)),(.str 187 (pz 341 38 42))] (pz 341 31 43)),(.lst [(.tup [(.str 78 (pz 341 47 50)),(.tup [] (pz 341 52 54))] (pz 341 46 55)),(.tup [(.str 182 (pz 341 58 61)),(.name 116 (pz 341 63 69))] (pz 341 57 70))] (pz 341 45 71)),(.str 184 (pz 341 73 79)),(.tup [] (pz 341 81 83)),(.name 189 (pz 341 85 89)),(.dct [] [] (pz 341 91 93))] (pz 341 20 94))] (pz 341 19 95)) (pz 341 4 95)),
 (.asg (.name 98 (pz 342 4 12)) (.bop .And [(.cmp .NotEq (.sub (.name 22 (pz 342 15 22)) (.int 0 (pz 342 23 24)) (pz 342 15 25)) (.sub (.name 22 (pz 342 29 36)) (.int 1 (pz 342 37 38)) (pz 342 29 39)) (pz 342 15 39)),(.cmp .NotIn (.str 168 (pz 342 44 53)) (.name 22 (pz 342 61 68)) (pz 342 44 68)),(.cmp .Eq (.name 116 (pz 342 74 80)) (.tup [] (pz 342 84 86)) (pz 342 74 86))] (pz 342 15 87)) (pz 342 4 87)),
 (.asg (.name 98 (pz 343 4 12)) (.bop .And [(.name 98 (pz 343 15 23)),(.cmp .In (.name 68 (pz 343 28 33)) (.lst [(.tup [(.name 78 (pz 343 39 40)),(.name 182 (pz 343 42 43))] (pz 343 38 44)),(.tup [(.name 182 (pz 343 47 48)),(.name 78 (pz 343 50 51))] (pz 343 46 52))] (pz 343 37 53)) (pz 343 28 53)),(.cmp .Eq (.sub (.name 189 (pz 343 59 63)) (.int 0 (pz 343 64 65)) (pz 343 59 66)) (.str 14 (pz 343 70 75)) (pz 343 59 75))] (pz 343 15 76)) (pz 343 4 76)),
 (.ret (.cmp .Eq (.call (.name 191 (pz 344 11 21)) [(.name 170 (pz 344 22 28))] (pz 344 11 29)) (.ifx (.name 98 (pz 344 44 52)) (.str 192 (pz 344 34 40)) (.str 119 (pz 344 58 65)) (pz 344 34 65)) (pz 344 11 66)) (pz 344 4 66))],
 [(159,.local),(170,.local),(22,.local),(78,.local),(182,.local),(68,.local),(116,.local),(189,.local),(98,.local),(172,gI),(176,gI),(185,gI),(160,gI),(167,gI),(190,gI),(191,gI)],[],407⟩
noncomputable def PA:Fn:=⟨197,197,[(159,pz 345 14 20),(97,pz 345 22 27),(194,pz 345 29 38)],[],[],[
 (.asg (.name 18 (pz 346 4 10)) (.call (.name 160 (pz 346 13 21)) [(.name 159 (pz 346 22 28)),(.name 97 (pz 346 30 35))] (pz 346 13 36)) (pz 346 4 36)),
 (.asg (.name 12 (pz 347 4 9)) (.call (.name 160 (pz 347 12 20)) [(.name 159 (pz 347 21 27)),(.lst [(.name 167 (pz 347 30 38)),(.str 80 (pz 347 40 46)),(.tup [(.str 8 (pz 347 49 54)),(.call (.name 160 (pz 347 56 64)) [(.name 159 (pz 347 65 71)),(.name 97 (pz 347 73 78))] (pz 347 56 79)),(.bool false (pz 347 81 86)),(.name 167 (pz 347 88 96))] (pz 347 48 97))] (pz 347 29 98))] (pz 347 12 99)) (pz 347 4 99)),
 (.ite (.cmp .Eq (.name 12 (pz 348 7 12)) (.str 80 (pz 348 16 22)) (pz 348 7 22)) [(.asg (.name 12 (pz 349 8 13)) (.ifx (.name 194 (pz 349 37 46)) (.tup [(.str 26 (pz 349 17 24)),(.str 118 (pz 349 26 32))] (pz 349 16 33)) (.tup [(.str 14 (pz 349 53 58)),(.str 195 (pz 349 60 63)),(.tup [(.str 196 (pz 349 66 70))] (pz 349 65 72)),(.tup [] (pz 349 74 76))] (pz 349 52 77)) (pz 349 16 77)) (pz 349 8 77))] [] ⟨348,4,349,77⟩),
 (.ret (.call (.name 160 (pz 350 11 19)) [(.name 159 (pz 350 20 26)),(.lst [(.name 12 (pz 350 29 34)),(.tup [(.str 8 (pz 350 37 42)),(.name 18 (pz 350 44 50)),(.bool true (pz 350 52 56)),(.name 12 (pz 350 58 63))] (pz 350 36 64)),(.tup [(.str 13 (pz 350 67 74)),(.tup [(.name 12 (pz 350 77 82)),(.tup [(.str 8 (pz 350 85 90)),(.name 18 (pz 350 92 98)),(.bool false (pz 350 100 105)),(.name 12 (pz 350 107 112))] (pz 350 84 113))] (pz 350 76 114))] (pz 350 66 115))] (pz 350 28 116))] (pz 350 11 117)) (pz 350 4 117))],
 [(159,.local),(97,.local),(194,.local),(18,.local),(12,.local),(160,gI),(167,gI)],[],414⟩
noncomputable def O7:Fn:=⟨198,198,[(7,pz 351 14 18),(15,pz 351 20 25)],[],[],[
 (.asg (.name 6 (pz 352 4 8)) (.sub (.name 7 (pz 352 11 15)) (.int 0 (pz 352 16 17)) (pz 352 11 18)) (pz 352 4 18)),
 (.ite (.cmp .Eq (.name 6 (pz 353 7 11)) (.str 26 (pz 353 15 22)) (pz 353 7 22)) [(.expr (.meth (.name 15 (pz 354 8 13)) 0 [(.str 196 (pz 354 21 25))] (pz 354 8 20) (pz 354 8 26)) (pz 354 8 26)),(.ret (.str 195 (pz 355 15 18)) (pz 355 8 18))] [] ⟨353,4,355,18⟩),
 (.ite (.cmp .Eq (.name 6 (pz 356 7 11)) (.str 14 (pz 356 15 20)) (pz 356 7 20)) [(.expr (.meth (.name 15 (pz 357 8 13)) 0 [(.sub (.sub (.name 7 (pz 357 21 25)) (.int 2 (pz 357 26 27)) (pz 357 21 28)) (.int 0 (pz 357 29 30)) (pz 357 21 31))] (pz 357 8 20) (pz 357 8 32)) (pz 357 8 32)),(.ret (.str 195 (pz 358 15 18)) (pz 358 8 18))] [] ⟨356,4,358,18⟩),
 (.ite (.cmp .Eq (.name 6 (pz 359 7 11)) (.str 8 (pz 359 15 20)) (pz 359 7 20)) [(.expr (.meth (.name 15 (pz 360 8 13)) 0 [(.sub (.name 7 (pz 360 21 25)) (.int 1 (pz 360 26 27)) (pz 360 21 28))] (pz 360 8 20) (pz 360 8 29)) (pz 360 8 29)),(.ret (.tup [(.str 8 (pz 361 16 21)),(.sub (.name 7 (pz 361 23 27)) (.int 2 (pz 361 28 29)) (pz 361 23 30)),(.call (.name 198 (pz 361 32 41)) [(.sub (.name 7 (pz 361 42 46)) (.int 3 (pz 361 47 48)) (pz 361 42 49)),(.name 15 (pz 361 51 56))] (pz 361 32 57))] (pz 361 15 58)) (pz 361 8 58))] [] ⟨359,4,361,58⟩),
 (.ite (.cmp .Eq (.name 6 (pz 362 7 11)) (.str 13 (pz 362 15 22)) (pz 362 7 22)) [(.ret (.tup [(.str 13 (pz 363 16 23)),(.comp1 (.call (.name 198 (pz 363 26 35)) [(.name 29 (pz 363 36 40)),(.name 15 (pz 363 42 47))] (pz 363 26 48)) (.name 29 (pz 363 53 57)) (.sub (.name 7 (pz 363 61 65)) (.int 1 (pz 363 66 67)) (pz 363 61 68)) [] [(21,.local),(29,.local),(198,gI),(15,.free)] (pz 363 25 69))] (pz 363 15 70)) (pz 363 8 70))] [] ⟨362,4,363,70⟩),
 (.ret (.name 6 (pz 364 11 15)) (pz 364 4 15))],
 [(7,.local),(15,.cell),(6,.local),(198,gI)],[7,15,6,29],419⟩
noncomputable def nR:Fn:=⟨206,206,[(112,pz 365 14 20),(125,pz 365 22 25),(199,pz 365 27 32)],[],[],[
 (.ite (.bop .Or [(.cmp .NotEq (.sub (.name 199 (pz 366 7 12)) (.int 0 (pz 366 13 14)) (pz 366 7 15)) (.sub (.name 199 (pz 366 19 24)) (.int 1 (pz 366 25 26)) (pz 366 19 27)) (pz 366 7 27)),(.cmp .NotEq (.call (.name 55 (pz 366 31 34)) [(.name 112 (pz 366 35 41))] (pz 366 31 42)) (.call (.name 55 (pz 366 46 49)) [(.name 125 (pz 366 50 53))] (pz 366 46 54)) (pz 366 31 54))] (pz 366 7 54)) [(.ret (.bool false (pz 367 15 20)) (pz 367 8 20))] [] ⟨366,4,367,20⟩),
 (.asg (.tup [(.name 126 (pz 368 4 8)),(.name 200 (pz 368 10 15)),(.name 201 (pz 368 17 23))] (pz 368 4 23)) (.tup [(.lst [] (pz 368 27 29)),(.lst [] (pz 368 31 33)),(.lst [(.lst [] (pz 368 36 38)),(.lst [] (pz 368 40 42))] (pz 368 35 43))] (pz 368 26 44)) (pz 368 4 44)),
 (.for_ (.name 100 (pz 369 8 10)) (.call (.name 77 (pz 369 14 19)) [(.call (.name 55 (pz 369 20 23)) [(.name 125 (pz 369 24 27))] (pz 369 20 28))] (pz 369 14 29)) [(.expr (.meth (.sub (.name 201 (pz 370 8 14)) (.int 0 (pz 370 15 16)) (pz 370 8 17)) 0 [(.call (.name 198 (pz 370 25 34)) [(.sub (.name 112 (pz 370 35 41)) (.name 100 (pz 370 42 44)) (pz 370 35 45)),(.name 126 (pz 370 47 51))] (pz 370 25 52))] (pz 370 8 24) (pz 370 8 53)) (pz 370 8 53)),(.expr (.meth (.sub (.name 201 (pz 371 8 14)) (.int 1 (pz 371 15 16)) (pz 371 8 17)) 0 [(.call (.name 198 (pz 371 25 34)) [(.sub (.name 125 (pz 371 35 38)) (.name 100 (pz 371 39 41)) (pz 371 35 42)),(.name 200 (pz 371 44 49))] (pz 371 25 50))] (pz 371 8 24) (pz 371 8 51)) (pz 371 8 51))] ⟨369,4,371,51⟩),
 (.ite (.cmp .NotEq (.sub (.name 201 (pz 372 7 13)) (.int 0 (pz 372 14 15)) (pz 372 7 16)) (.sub (.name 201 (pz 372 20 26)) (.int 1 (pz 372 27 28)) (pz 372 20 29)) (pz 372 7 29)) [(.ret (.bool false (pz 373 15 20)) (pz 373 8 20))] [] ⟨372,4,373,20⟩),
 (.for_ (.name 27 (pz 374 8 13)) (.lst [(.dct [(.str 202 (pz 374 19 23)),(.str 203 (pz 374 31 35))] [(.str 204 (pz 374 25 29)),(.str 205 (pz 374 37 41))] (pz 374 18 42)),(.dct [(.str 202 (pz 374 45 49)),(.str 203 (pz 374 57 61))] [(.str 205 (pz 374 51 55)),(.str 204 (pz 374 63 67))] (pz 374 44 68))] (pz 374 17 69)) [(.ite (.cmp .Eq (.comp1 (.meth (.name 27 (pz 375 12 17)) 3 [(.name 18 (pz 375 22 28)),(.name 18 (pz 375 30 36))] (pz 375 12 21) (pz 375 12 37)) (.name 18 (pz 375 42 48)) (.name 126 (pz 375 52 56)) [] [(21,.local),(18,.local),(27,.free)] (pz 375 11 57)) (.name 200 (pz 375 61 66)) (pz 375 11 66)) [(.ret (.bool true (pz 376 19 23)) (pz 376 12 23))] [] ⟨375,8,376,23⟩)] ⟨374,4,376,23⟩),
 (.ret (.bool false (pz 377 11 16)) (pz 377 4 16))],
 [(112,.local),(125,.local),(199,.local),(126,.local),(200,.local),(201,.local),(100,.local),(27,.cell),(55,gI),(77,gI),(198,gI)],[112,125,199,126,200,201,100,27,18],424⟩
noncomputable def PB:Fn:=⟨207,207,[(7,pz 378 17 21)],[],[],[
 (.asg (.name 27 (pz 379 4 9)) (.dct [(.str 202 (pz 379 13 17)),(.str 203 (pz 379 25 29))] [(.str 205 (pz 379 19 23)),(.str 204 (pz 379 31 35))] (pz 379 12 36)) (pz 379 4 36)),
 (.ite (.cmp .Eq (.name 7 (pz 380 7 11)) (.tup [(.str 26 (pz 380 16 23)),(.str 118 (pz 380 25 31))] (pz 380 15 32)) (pz 380 7 32)) [(.ret (.tup [(.str 14 (pz 381 16 21)),(.str 195 (pz 381 23 26)),(.tup [(.str 196 (pz 381 29 33))] (pz 381 28 35)),(.tup [] (pz 381 37 39))] (pz 381 15 40)) (pz 381 8 40))] [] ⟨380,4,381,40⟩),
 (.ite (.cmp .Eq (.sub (.name 7 (pz 382 7 11)) (.int 0 (pz 382 12 13)) (pz 382 7 14)) (.str 8 (pz 382 18 23)) (pz 382 7 23)) [(.ret (.tup [(.str 8 (pz 383 16 21)),(.meth (.name 27 (pz 383 23 28)) 3 [(.sub (.name 7 (pz 383 33 37)) (.int 1 (pz 383 38 39)) (pz 383 33 40)),(.sub (.name 7 (pz 383 42 46)) (.int 1 (pz 383 47 48)) (pz 383 42 49))] (pz 383 23 32) (pz 383 23 50)),(.sub (.name 7 (pz 383 52 56)) (.int 2 (pz 383 57 58)) (pz 383 52 59)),(.call (.name 207 (pz 383 61 73)) [(.sub (.name 7 (pz 383 74 78)) (.int 3 (pz 383 79 80)) (pz 383 74 81))] (pz 383 61 82))] (pz 383 15 83)) (pz 383 8 83))] [] ⟨382,4,383,83⟩),
 (.ret (.ifx (.cmp .Eq (.sub (.name 7 (pz 384 73 77)) (.int 0 (pz 384 78 79)) (pz 384 73 80)) (.str 13 (pz 384 84 91)) (pz 384 73 91)) (.tup [(.str 13 (pz 384 12 19)),(.call (.name 13 (pz 384 21 26)) [(.comp1 (.call (.name 207 (pz 384 28 40)) [(.name 29 (pz 384 41 45))] (pz 384 28 46)) (.name 29 (pz 384 51 55)) (.sub (.name 7 (pz 384 59 63)) (.int 1 (pz 384 64 65)) (pz 384 59 66)) [] [(21,.local),(29,.local),(207,gI)] (pz 384 27 67))] (pz 384 21 68))] (pz 384 11 69)) (.name 7 (pz 384 97 101)) (pz 384 11 101)) (pz 384 4 101))],
 [(7,.local),(27,.local),(207,gI),(13,gI)],[7,27,29],429⟩
noncomputable def fJ:Fn:=⟨215,215,[(159,pz 385 23 29)],[],[],[
 (.asg (.name 126 (pz 386 4 8)) (.comp1 (.call (.name 197 (pz 386 12 21)) [(.name 159 (pz 386 22 28)),(.lst [(.str 202 (pz 386 31 35)),(.str 203 (pz 386 37 41)),(.str 168 (pz 386 43 52))] (pz 386 30 53)),(.bool true (pz 386 55 59))] (pz 386 12 60)) (.name 19 (pz 386 65 69)) (.call (.name 77 (pz 386 73 78)) [(.bin .Add (.int 1 (pz 386 79 80)) (.call (.name 158 (pz 386 83 92)) [(.name 159 (pz 386 93 99)),(.int 3 (pz 386 101 102))] (pz 386 83 103)) (pz 386 79 103))] (pz 386 73 104)) [] [(21,.local),(19,.local),(197,gI),(159,.free)] (pz 386 11 105)) (pz 386 4 105)),
 (.asg (.name 200 (pz 387 4 9)) (.comp1 (.call (.name 207 (pz 387 13 25)) [(.name 7 (pz 387 26 30))] (pz 387 13 31)) (.name 7 (pz 387 36 40)) (.name 126 (pz 387 44 48)) [] [(21,.local),(7,.local),(207,gI)] (pz 387 12 49)) (pz 387 4 49)),
 (.ite (.cmp .Eq (.call (.name 158 (pz 388 7 16)) [(.name 159 (pz 388 17 23)),(.int 2 (pz 388 25 26))] (pz 388 7 27)) (.int 0 (pz 388 31 32)) (pz 388 7 32)) [(.asg (.name 100 (pz 389 8 10)) (.call (.name 158 (pz 389 13 22)) [(.name 159 (pz 389 23 29)),(.call (.name 55 (pz 389 31 34)) [(.name 200 (pz 389 35 40))] (pz 389 31 41))] (pz 389 13 42)) (pz 389 8 42)),(.asg (.sub (.name 200 (pz 390 8 13)) (.name 100 (pz 390 14 16)) (pz 390 8 17)) (.call (.name 197 (pz 390 20 29)) [(.name 159 (pz 390 30 36)),(.lst [(.str 204 (pz 390 39 43)),(.str 205 (pz 390 45 49)),(.str 168 (pz 390 51 60)),(.str 196 (pz 390 62 66))] (pz 390 38 67)),(.bool false (pz 390 69 74))] (pz 390 20 75)) (pz 390 8 75))] [] ⟨388,4,390,75⟩),
 (.asg (.name 199 (pz 391 4 9)) (.lst [(.none (pz 391 13 17)),(.call (.name 160 (pz 391 19 27)) [(.name 159 (pz 391 28 34)),(.lst [(.none (pz 391 37 41)),(.none (pz 391 43 47)),(.none (pz 391 49 53)),(.str 208 (pz 391 55 62))] (pz 391 36 63))] (pz 391 19 64))] (pz 391 12 65)) (pz 391 4 65)),
 (.asg (.name 112 (pz 392 4 10)) (.call (.name 209 (pz 392 13 16)) [(.str 210 (pz 392 17 24)),(.tup [(.str 202 (pz 392 27 31)),(.str 203 (pz 392 33 37))] (pz 392 26 38)),(.lst [(.tup [(.str 118 (pz 392 42 48)),(.tup [(.str 211 (pz 392 51 55))] (pz 392 50 57))] (pz 392 41 58))] (pz 392 40 59)),(.lst [] (pz 392 61 63)),(.call (.name 13 (pz 392 65 70)) [(.slL (.name 126 (pz 392 71 75)) (.int 1 (pz 392 76 77)) (pz 392 76 78) (pz 392 71 79))] (pz 392 65 80)),(.sub (.name 126 (pz 392 82 86)) (.int 0 (pz 392 87 88)) (pz 392 82 89)),(.sub (.name 199 (pz 392 91 96)) (.int 0 (pz 392 97 98)) (pz 392 91 99)),(.bool false (pz 392 101 106))] (pz 392 13 107)) (pz 392 4 107)),
 (.asg (.name 117 (pz 393 4 7)) (.call (.name 209 (pz 393 10 13)) [(.str 212 (pz 393 14 25)),(.tup [(.str 196 (pz 393 28 32)),(.str 204 (pz 393 34 38)),(.str 205 (pz 393 40 44))] (pz 393 27 45)),(.lst [] (pz 393 47 49)),(.lst [] (pz 393 51 53)),(.call (.name 13 (pz 393 55 60)) [(.slL (.name 200 (pz 393 61 66)) (.int 1 (pz 393 67 68)) (pz 393 67 69) (pz 393 61 70))] (pz 393 55 71)),(.sub (.name 200 (pz 393 73 78)) (.int 0 (pz 393 79 80)) (pz 393 73 81)),(.sub (.name 199 (pz 393 83 88)) (.int 1 (pz 393 89 90)) (pz 393 83 91)),(.bool true (pz 393 93 97))] (pz 393 10 98)) (pz 393 4 98)),
 (.asg (.name 119 (pz 394 4 9)) (.call (.name 185 (pz 394 12 20)) [(.str 211 (pz 394 21 25)),(.tup [] (pz 394 27 29)),(.dct [(.str 213 (pz 394 32 35))] [(.name 112 (pz 394 37 43))] (pz 394 31 44)),(.dct [] [] (pz 394 46 48))] (pz 394 12 49)) (pz 394 4 49)),
 (.asg (.name 92 (pz 395 4 7)) (.call (.name 190 (pz 395 10 17)) [(.int 0 (pz 395 18 19)),(.tup [(.str 196 (pz 395 22 26))] (pz 395 21 28)),(.lst [] (pz 395 30 32)),(.str 211 (pz 395 34 38)),(.tup [] (pz 395 40 42)),(.tup [(.str 14 (pz 395 45 50)),(.str 195 (pz 395 52 55)),(.tup [(.str 196 (pz 395 58 62))] (pz 395 57 64)),(.tup [] (pz 395 66 68))] (pz 395 44 69)),(.dct [(.str 213 (pz 395 72 75))] [(.str 212 (pz 395 77 88))] (pz 395 71 89))] (pz 395 10 90)) (pz 395 4 90)),
 (.asg (.name 125 (pz 396 4 7)) (.call (.name 206 (pz 396 10 19)) [(.name 126 (pz 396 20 24)),(.name 200 (pz 396 26 31)),(.name 199 (pz 396 33 38))] (pz 396 10 39)) (pz 396 4 39)),
 (.ite (.cmp .NotEq (.call (.name 127 (pz 397 7 14)) [(.name 119 (pz 397 15 20)),(.name 112 (pz 397 22 28)),(.name 92 (pz 397 30 33)),(.name 117 (pz 397 35 38))] (pz 397 7 39)) (.name 125 (pz 397 43 46)) (pz 397 7 46)) [(.ret (.bool false (pz 398 15 20)) (pz 398 8 20))] [] ⟨397,4,398,20⟩),
 (.asg (.name 170 (pz 399 4 10)) (.call (.name 172 (pz 399 13 18)) [] (pz 399 13 20)) (pz 399 4 20)),
 (.asg (.tup [(.sub (.att (.name 170 (pz 400 4 10)) 62 (pz 400 4 15)) (.str 195 (pz 400 16 19)) (pz 400 4 20)),(.sub (.att (.name 170 (pz 400 22 28)) 103 (pz 400 22 35)) (.str 211 (pz 400 36 40)) (pz 400 22 41)),(.sub (.att (.name 170 (pz 400 43 49)) 130 (pz 400 43 54)) (.str 212 (pz 400 55 66)) (pz 400 43 67))] (pz 400 4 67)) (.tup [(.call (.name 176 (pz 400 71 74)) [(.str 195 (pz 400 75 78)),(.tup [(.str 196 (pz 400 81 85))] (pz 400 80 87)),(.tup [] (pz 400 89 91)),(.lst [] (pz 400 93 95)),(.bool false (pz 400 97 102))] (pz 400 71 103)),(.name 119 (pz 400 105 110)),(.name 117 (pz 400 112 115))] (pz 400 70 116)) (pz 400 4 116)),
 (.asg (.att (.name 170 (pz 401 4 10)) 141 (pz 401 4 16)) (.lst [(.name 92 (pz 401 20 23))] (pz 401 19 24)) (pz 401 4 24)),
 (.ite (.cmp .NotEq (.call (.name 191 (pz 402 7 17)) [(.name 170 (pz 402 18 24))] (pz 402 7 25)) (.ifx (.name 125 (pz 402 40 43)) (.str 192 (pz 402 30 36)) (.str 119 (pz 402 49 56)) (pz 402 30 56)) (pz 402 7 57)) [(.ret (.bool false (pz 403 15 20)) (pz 403 8 20))] [] ⟨402,4,403,20⟩),
 (.asg (.att (.name 92 (pz 404 4 7)) 128 (pz 404 4 15)) (.dct [] [] (pz 404 18 20)) (pz 404 4 20)),
 (.ite (.cmp .NotEq (.call (.name 191 (pz 405 7 17)) [(.name 170 (pz 405 18 24))] (pz 405 7 25)) (.str 119 (pz 405 29 36)) (pz 405 7 36)) [(.ret (.bool false (pz 406 15 20)) (pz 406 8 20))] [] ⟨405,4,406,20⟩),
 (.asg (.att (.name 119 (pz 407 4 9)) 134 (pz 407 4 18)) (.dct [(.str 213 (pz 407 22 25))] [(.str 210 (pz 407 27 34))] (pz 407 21 35)) (pz 407 4 35)),
 (.ite (.cmp .NotEq (.call (.name 191 (pz 408 7 17)) [(.name 170 (pz 408 18 24))] (pz 408 7 25)) (.str 192 (pz 408 29 35)) (pz 408 7 35)) [(.ret (.bool false (pz 409 15 20)) (pz 409 8 20))] [] ⟨408,4,409,20⟩),
 (.asg (.att (.name 92 (pz 410 4 7)) 128 (pz 410 4 15)) (.dct [(.str 214 (pz 410 19 22))] [(.str 212 (pz 410 24 35))] (pz 410 18 36)) (pz 410 4 36)),
 (.ret (.cmp .Eq (.call (.name 191 (pz 411 11 21)) [(.name 170 (pz 411 22 28))] (pz 411 11 29)) (.str 119 (pz 411 33 40)) (pz 411 11 40)) (pz 411 4 40))],
 [(159,.cell),(126,.local),(200,.local),(100,.local),(199,.local),(112,.local),(117,.local),(119,.local),(92,.local),(125,.local),(170,.local),(77,gI),(158,gI),(55,gI),(197,gI),(160,gI),(209,gI),(13,gI),(185,gI),(190,gI),(206,gI),(127,gI),(172,gI),(176,gI),(191,gI)],[159,19,126,7,200,100,199,112,117,119,92,125,170],434⟩
noncomputable def iG:Fn:=⟨222,222,[(217,pz 412 8 14)],[],[],[
 (.asg (.name 159 (pz 413 4 10)) (.call (.name 216 (pz 413 13 22)) [(.name 217 (pz 413 23 29)),(.int 0 (pz 413 31 32))] (pz 413 13 33)) (pz 413 4 33)),
 (.for_ (.name 19 (pz 414 8 12)) (.call (.name 77 (pz 414 16 21)) [(.int 2 (pz 414 22 23))] (pz 414 16 24)) [(.asg (.tup [(.name 170 (pz 415 8 14)),(.name 218 (pz 415 16 26))] (pz 415 8 26)) (.call (.name 178 (pz 415 29 41)) [(.name 159 (pz 415 42 48))] (pz 415 29 49)) (pz 415 8 49)),(.ite (.cmp .NotEq (.call (.name 191 (pz 416 11 21)) [(.name 170 (pz 416 22 28))] (pz 416 11 29)) (.ifx (.name 218 (pz 416 44 54)) (.str 219 (pz 416 34 40)) (.str 192 (pz 416 60 66)) (pz 416 34 66)) (pz 416 11 67)) [(.ret (.bool false (pz 417 19 24)) (pz 417 12 24))] [] ⟨416,8,417,24⟩),(.ite (.bop .Or [(.not (.call (.name 193 (pz 418 15 30)) [(.name 159 (pz 418 31 37))] (pz 418 15 38)) (pz 418 11 38)),(.not (.call (.name 215 (pz 418 46 64)) [(.name 159 (pz 418 65 71))] (pz 418 46 72)) (pz 418 42 72))] (pz 418 11 72)) [(.ret (.bool false (pz 419 19 24)) (pz 419 12 24))] [] ⟨418,8,419,24⟩)] ⟨414,4,419,24⟩),
 (.asg (.name 220 (pz 420 4 8)) (.tup [(.tup [(.str 8 (pz 420 13 18)),(.str 202 (pz 420 20 24)),(.bool false (pz 420 26 31)),(.name 167 (pz 420 33 41))] (pz 420 12 42)),(.tup [(.str 8 (pz 420 45 50)),(.str 203 (pz 420 52 56)),(.bool false (pz 420 58 63)),(.name 167 (pz 420 65 73))] (pz 420 44 74))] (pz 420 11 75)) (pz 420 4 75)),
 (.asg (.name 221 (pz 421 4 8)) (.tup [(.tup [(.str 8 (pz 421 13 18)),(.str 204 (pz 421 20 24)),(.bool false (pz 421 26 31)),(.name 167 (pz 421 33 41))] (pz 421 12 42)),(.tup [(.str 8 (pz 421 45 50)),(.str 204 (pz 421 52 56)),(.bool false (pz 421 58 63)),(.name 167 (pz 421 65 73))] (pz 421 44 74))] (pz 421 11 75)) (pz 421 4 75)),
 (.asg (.name 112 (pz 422 4 10)) (.call (.name 209 (pz 422 13 16)) [(.str 210 (pz 422 17 24)),(.tup [(.str 202 (pz 422 27 31)),(.str 203 (pz 422 33 37))] (pz 422 26 38)),(.lst [(.tup [(.str 118 (pz 422 42 48)),(.tup [(.str 211 (pz 422 51 55))] (pz 422 50 57))] (pz 422 41 58))] (pz 422 40 59)),(.lst [] (pz 422 61 63)),(.name 220 (pz 422 65 69)),(.name 167 (pz 422 71 79)),(.none (pz 422 81 85)),(.bool false (pz 422 87 92))] (pz 422 13 93)) (pz 422 4 93)),
 (.asg (.name 117 (pz 423 4 7)) (.call (.name 209 (pz 423 10 13)) [(.str 212 (pz 423 14 25)),(.tup [(.str 204 (pz 423 28 32)),(.str 205 (pz 423 34 38))] (pz 423 27 39)),(.lst [] (pz 423 41 43)),(.lst [] (pz 423 45 47)),(.name 221 (pz 423 49 53)),(.name 167 (pz 423 55 63)),(.none (pz 423 65 69)),(.bool true (pz 423 71 75))] (pz 423 10 76)) (pz 423 4 76)),
 (.asg (.name 92 (pz 424 4 7)) (.call (.name 190 (pz 424 10 17)) [(.int 0 (pz 424 18 19)),(.tup [] (pz 424 21 23)),(.lst [] (pz 424 25 27)),(.str 211 (pz 424 29 33)),(.tup [] (pz 424 35 37)),(.name 167 (pz 424 39 47)),(.dct [(.str 213 (pz 424 50 53))] [(.str 212 (pz 424 55 66))] (pz 424 49 67))] (pz 424 10 68)) (pz 424 4 68)),
 (.ret (.not (.call (.name 127 (pz 425 15 22)) [(.call (.name 185 (pz 425 23 31)) [(.str 211 (pz 425 32 36)),(.tup [] (pz 425 38 40)),(.dct [(.str 213 (pz 425 43 46))] [(.name 112 (pz 425 48 54))] (pz 425 42 55)),(.dct [] [] (pz 425 57 59))] (pz 425 23 60)),(.name 112 (pz 425 62 68)),(.name 92 (pz 425 70 73)),(.name 117 (pz 425 75 78))] (pz 425 15 79)) (pz 425 11 79)) (pz 425 4 79))],
 [(217,.local),(159,.local),(19,.local),(170,.local),(218,.local),(220,.local),(221,.local),(112,.local),(117,.local),(92,.local),(216,gI),(77,gI),(178,gI),(191,gI),(193,gI),(215,gI),(167,gI),(209,gI),(190,gI),(127,gI),(185,gI)],[],441⟩
noncomputable def u5:Fn:=⟨158,158,[(159,pz 285 14 20),(224,pz 285 22 25)],[],[],[
 (.ite (.cmp .Gt (.sub (.name 159 (pz 286 7 13)) (.int 0 (pz 286 14 15)) (pz 286 7 16)) (.int 0 (pz 286 19 20)) (pz 286 7 20)) [(.asg (.name 223 (pz 287 8 13)) (.bin .Mod (.call (.name 39 (pz 287 16 19)) [(.sub (.name 159 (pz 287 20 26)) (.int 0 (pz 287 27 28)) (pz 287 20 29))] (pz 287 16 30)) (.name 224 (pz 287 33 36)) (pz 287 16 36)) (pz 287 8 36)),(.asg (.sub (.name 159 (pz 288 8 14)) (.int 0 (pz 288 15 16)) (pz 288 8 17)) (.bin .FloorDiv (.sub (.name 159 (pz 288 20 26)) (.int 0 (pz 288 27 28)) (pz 288 20 29)) (.name 224 (pz 288 33 36)) (pz 288 20 36)) (pz 288 8 36)),(.ret (.name 223 (pz 289 15 20)) (pz 289 8 20))] [] ⟨286,4,289,20⟩),
 (.asg (.sub (.name 159 (pz 290 4 10)) (.int 1 (pz 290 11 12)) (pz 290 4 13)) (.bin .Mod (.call (.name 39 (pz 290 16 19)) [(.bin .Add (.bin .Mult (.sub (.name 159 (pz 290 20 26)) (.int 1 (pz 290 27 28)) (pz 290 20 29)) (.int 39373 (pz 290 32 37)) (pz 290 20 37)) (.int 7 (pz 290 40 41)) (pz 290 20 41))] (pz 290 16 42)) (.int 2147483647 (pz 290 45 55)) (pz 290 16 55)) (pz 290 4 55)),
 (.ret (.bin .Mod (.call (.name 39 (pz 291 11 14)) [(.bin .FloorDiv (.bin .Mod (.call (.name 39 (pz 291 15 18)) [(.bin .Mult (.sub (.name 159 (pz 291 19 25)) (.int 1 (pz 291 26 27)) (pz 291 19 28)) (.sub (.name 159 (pz 291 31 37)) (.int 1 (pz 291 38 39)) (pz 291 31 40)) (pz 291 19 40))] (pz 291 15 41)) (.int 2147483629 (pz 291 44 54)) (pz 291 15 54)) (.int 32 (pz 291 58 60)) (pz 291 15 60))] (pz 291 11 61)) (.name 224 (pz 291 64 67)) (pz 291 11 67)) (pz 291 4 67))],
 [(159,.local),(224,.local),(223,.local),(39,gI)],[],373⟩
noncomputable def fZ:Fn:=⟨216,216,[(217,pz 278 14 20),(66,pz 278 22 23)],[],[],[
 (.asg (.name 226 (pz 279 4 8)) (.int 0 (pz 279 11 12)) (pz 279 4 12)),
 (.ite (.cmp .Lt (.name 66 (pz 280 7 8)) (.call (.name 55 (pz 280 11 14)) [(.name 217 (pz 280 15 21))] (pz 280 11 22)) (pz 280 7 22)) [(.asg (.name 226 (pz 281 8 12)) (.sub (.name 217 (pz 281 15 21)) (.name 66 (pz 281 22 23)) (pz 281 15 24)) (pz 281 8 24))] [] ⟨280,4,281,24⟩),
 (.asg (.name 227 (pz 282 4 7)) (.call (.name 228 (pz 282 10 13)) [(.call (.name 39 (pz 282 14 17)) [(.name 226 (pz 282 18 22))] (pz 282 14 23)),(.call (.name 39 (pz 282 25 28)) [(.bin .Sub (.neg 1 (pz 282 30 31) (pz 282 29 31)) (.name 226 (pz 282 34 38)) (pz 282 29 38))] (pz 282 25 39))] (pz 282 10 40)) (pz 282 4 40)),
 (.asg (.name 229 (pz 283 4 9)) (.bin .Mod (.call (.name 39 (pz 283 12 15)) [(.bin .Mult (.bin .Add (.bin .Add (.bin .Add (.bin .Mod (.call (.name 39 (pz 283 17 20)) [(.name 227 (pz 283 21 24))] (pz 283 17 25)) (.int 2147483629 (pz 283 28 38)) (pz 283 17 38)) (.bin .Mult (.bin .Mult (.int 7919 (pz 283 41 45)) (.name 66 (pz 283 48 49)) (pz 283 41 49)) (.name 66 (pz 283 52 53)) (pz 283 41 53)) (pz 283 17 53)) (.bin .Mult (.int 31 (pz 283 56 58)) (.name 66 (pz 283 61 62)) (pz 283 56 62)) (pz 283 17 62)) (.int 17 (pz 283 65 67)) (pz 283 17 67)) (.int 48271 (pz 283 71 76)) (pz 283 16 76))] (pz 283 12 77)) (.int 2147483647 (pz 283 80 90)) (pz 283 12 90)) (pz 283 4 90)),
 (.ret (.lst [(.bin .Mult (.name 227 (pz 284 12 15)) (.call (.name 39 (pz 284 18 21)) [(.cmp .GtE (.name 227 (pz 284 22 25)) (.bin .Pow (.int 10 (pz 284 29 31)) (.int 18 (pz 284 35 37)) (pz 284 29 37)) (pz 284 22 37))] (pz 284 18 38)) (pz 284 12 38)),(.name 229 (pz 284 40 45))] (pz 284 11 46)) (pz 284 4 46))],
 [(217,.local),(66,.local),(226,.local),(227,.local),(229,.local),(55,gI),(228,gI),(39,gI)],[],366⟩
noncomputable def tabs:Ib:=⟨(.node 218 (OO) (.node 135 (Pa) (.node 102 (O1) (.node 85 (Qa) (.node 78 (P7) (.node 73 (Qb) .leaf .leaf) .leaf) (.node 97 (PE) (.node 92 (PG) .leaf .leaf) .leaf)) (.node 123 (ON) (.node 116 (OW) (.node 109 (Pz) .leaf .leaf) .leaf) (.node 128 (OB) .leaf .leaf))) (.node 171 (xG) (.node 150 (Ph) (.node 145 (Pe) (.node 140 (Pm) .leaf .leaf) .leaf) (.node 164 (Pt) .leaf .leaf)) (.node 197 (OL) (.node 190 (OF) (.node 178 (gQ) .leaf .leaf) .leaf) (.node 211 (Pg) .leaf .leaf)))) (.node 381 (Pv) (.node 302 (OU) (.node 244 (iB) (.node 237 (lm) (.node 230 (kB) .leaf .leaf) .leaf) (.node 281 (Pw) (.node 260 (OY) .leaf .leaf) .leaf)) (.node 367 (fZ) (.node 346 (OK) (.node 324 (Pr) .leaf .leaf) .leaf) (.node 374 (u5) .leaf .leaf))) (.node 420 (O7) (.node 408 (fR) (.node 394 (lQ) (.node 389 (Pk) .leaf .leaf) .leaf) (.node 415 (PA) .leaf .leaf)) (.node 435 (fJ) (.node 430 (PB) (.node 425 (nR) .leaf .leaf) .leaf) (.node 442 (iG) .leaf .leaf))))),
 [(181,⟨164,[(85,171),(86,178)]⟩),(221,⟨211,[(113,218)]⟩),(263,⟨260,[]⟩),(284,⟨281,[]⟩),(305,⟨302,[]⟩),(327,⟨324,[]⟩),(356,⟨346,[]⟩)],
 (.node 105 (.g 190) (.node 39 (.b 2) (.node 28 (.g 97) (.node 20 (.g 78) (.node 13 (.b 4) (.node 9 (.g 73) .leaf .leaf) (.node 16 (.b 5) .leaf .leaf)) (.node 25 (.g 92) (.node 23 (.g 85) .leaf .leaf) .leaf)) (.node 35 (.b 10) (.node 32 (.g 109) (.node 31 (.g 102) .leaf .leaf) (.node 33 (.g 116) .leaf .leaf)) (.node 38 (.g 123) (.node 36 (.b 11) .leaf .leaf) .leaf))) (.node 74 (.g 140) (.node 67 (.b 8) (.node 55 (.b 0) (.node 46 (.g 128) .leaf .leaf) (.node 65 (.g 135) .leaf .leaf)) (.node 70 (.b 7) (.node 69 (.b 6) .leaf .leaf) .leaf)) (.node 88 (.int 40) (.node 77 (.b 3) (.node 76 (.g 145) .leaf .leaf) (.node 79 (.g 150) .leaf .leaf)) (.node 94 (.g 64) (.node 89 (.g 52) .leaf .leaf) .leaf)))) (.node 176 (.g 263) (.node 142 (.str 184) (.node 137 (.g 237) (.node 122 (.g 221) (.node 109 (.g 197) .leaf .leaf) (.node 127 (.g 230) .leaf .leaf)) (.node 140 (.b 9) (.node 139 (.g 181) .leaf .leaf) .leaf)) (.node 167 (.tup [(.str 39),(.str 225)]) (.node 158 (.g 374) (.node 143 (.g 244) .leaf .leaf) (.node 160 (.g 381) .leaf .leaf)) (.node 172 (.g 356) (.node 169 (.g 389) .leaf .leaf) .leaf))) (.node 198 (.g 420) (.node 191 (.g 401) (.node 185 (.g 305) (.node 178 (.g 394) .leaf .leaf) (.node 190 (.g 327) .leaf .leaf)) (.node 197 (.g 415) (.node 193 (.g 408) .leaf .leaf) .leaf)) (.node 215 (.g 435) (.node 207 (.g 430) (.node 206 (.g 425) .leaf .leaf) (.node 209 (.g 284) .leaf .leaf)) (.node 228 (.b 1) (.node 216 (.g 367) .leaf .leaf) .leaf)))))⟩
noncomputable def ad:Program:=PySem.Challenge.pw_ot0026_01
noncomputable def g:Array GenState:=#[]
noncomputable def d:Drawn:=boot_drawn
section
variable {α β:Type}{r:β}
theorem aa{o:Option α}{f:α→Option β}{P:Prop}(e:ob o f=some r)(k:∀a,o=some a→f a=some r→P):P:=by
 cases o with
 |none=>exact al e
 |some a=>exact k a rfl e
theorem ay{b:Bool}{x:Option β}{P:Prop}(e:gd b x=some r)(k:b=true→x=some r→P):P:=by
 cases b with
 |false=>exact al e
 |true=>exact k rfl e
theorem be{x y:Option β}{P:Prop}(e:aO x y=some r)(k:x=some r→P)(k':y=some r→P):P:=by
 cases x with
 |none=>exact k' e
 |some a=>exact k e
theorem aw{b c:Bool}{P:Prop}(e:(b&&c)=true)(k:b=true→c=true→P):P:=k (Bool.and_eq_true_iff.mp e).1 (Bool.and_eq_true_iff.mp e).2
end
noncomputable def ae(k:Nat):Str:=match di[k]? with
 |some s=>Str.ofString s
 |none=>⟨#[2000000+k]⟩
noncomputable def bZ(sc:List (Nat×NameKind))(fast:List Nat):Scope:=
 { kind:= .function,names:=sc.map λp=>(ae p.1,p.2),isGenerator:=false,isCoroutine:=false,more:=fast.map λk=>(Str.ofString "fast",Const.str (ae k)) }
noncomputable def fA(ps:List (Nat×Pos))(dfe:List Expr):Arguments:=
 { posonlyargs:=[],args:=ps.map λp=>{ arg:=ae p.1,annotation:=none,pos:=p.2 },vararg:=none,kwonlyargs:=[],kw_defaults:=[],kwarg:=none,defaults:=dfe }
mutual
noncomputable def aA:ME→Expr
 | .none p=> .Constant .none 0 p
 | .bool b p=> .Constant (.bool b) 0 p
 | .int i p=> .Constant (.int i) 0 p
 | .str k p=> .Constant (.str (ae k)) 0 p
 | .name x p=> .Name (ae x) p
 | .bin op a b p=> .BinOp (aA a) op (aA b) p
 | .cmp op a b p=> .Compare (aA a) [op] [aA b] p
 | .not a p=> .UnaryOp .Not (aA a) p
 | .neg i q p=> .UnaryOp .USub (.Constant (.int i) 0 q) p
 | .bop op l p=> .BoolOp op (unL l) p
 | .ifx t a b p=> .IfExp (aA t) (aA a) (aA b) p
 | .tup l p=> .Tuple (unL l) 0 p
 | .lst l p=> .List (unL l) p
 | .dct ks vs p=> .Dict (unO ks) (unL vs) p
 | .att o x p=> .Attribute (aA o) (ae x) p
 | .sub o i p=> .Subscript (aA o) (aA i) p
 | .slU o u ps p=> .Subscript (aA o) (.Slice none (some (aA u)) none ps) p
 | .slL o l ps p=> .Subscript (aA o) (.Slice (some (aA l)) none none ps) p
 | .call f as p=> .Call (aA f) (unL as) [] p
 | .meth o x as pa p=> .Call (.Attribute (aA o) (ae x) pa) (unL as) [] p
 | .comp1 elt t it ifs sc p=> .ListComp (aA elt) [⟨aA t,aA it,unL ifs,0⟩] (bZ sc []) p
 | .comp2 elt t it t2 it2 ifs sc p=> .ListComp (aA elt) [⟨aA t,aA it,[],0⟩,⟨aA t2,aA it2,unL ifs,0⟩] (bZ sc []) p
 | .lam ps body sc p=> .Lambda (fA ps []) (aA body) (bZ sc []) p
noncomputable def unL:List ME→List Expr
 |[]=>[]
 |e::l=>aA e::unL l
noncomputable def unO:List ME→List (Option Expr)
 |[]=>[]
 |e::l=>some (aA e)::unO l
end
mutual
noncomputable def i8:MS→Stmt
 | .expr e p=> .Expr (aA e) p
 | .asg t v p=> .Assign [aA t] (aA v) p
 | .ret e p=> .Return (some (aA e)) p
 | .ret0 p=> .Return none p
 | .ite t b o p=> .If (aA t) (unSs b) (unSs o) p
 | .for_ t it b p=> .For (aA t) (aA it) (unSs b) [] p
 | .rais x px as pc p=> .Raise (some (.Call (.Name (ae x) px) (unL as) [] pc)) none p
 | .defn x ps body sc p=> .FunctionDef (ae x) (fA ps []) (unSs body) [] none [] (bZ sc []) none (ae x) p
noncomputable def unSs:List MS→List Stmt
 |[]=>[]
 |s::l=>i8 s::unSs l
end
noncomputable def l6:Nat→Value
 |0=> .builtin "len" |1=> .builtin "max" |2=> .type "int" |3=> .type "range" |4=> .type "tuple" |5=> .type "list" |6=> .type "dict"
 |7=> .type "zip" |8=> .type "enumerate" |9=> .builtin "sorted" |10=> .builtin "isinstance" |11=> .type "str" |12=> .type "Exception" |_=> .none
mutual
inductive ak(h:Heap)(β:Nat→Addr)(n:Nat):AV→Value→Prop
 |none:ak h β n .none .none
 |bool (b:Bool):ak h β n (.bool b) (.bool b)
 |int (i:Int) (t:Tok):ak h β n (.int i) (.int i t)
 |str (k:Nat) (t:Tok):ak h β n (.str k) (.str (ae k) t)
 |txt (m:Nat) (s:Str) (t:Tok) (hs:s.length≤m):ak h β n (.txt m) (.str s t)
 |tup {l:List AV} {vs:List Value} {a:Addr} {ep:Nat} (ha:IsT h a vs.toArray ep) (ho:∀i,i<n→β i≠a) (hv:ValsR h β n l vs):ak h β n (.tup l) (.ref a)
 |obj (i:Nat) (hi:i<n):ak h β n (.obj i) (.ref (β i))
 |g (a:Nat):ak h β n (.g a) (.ref a)
 |b (k:Nat):ak h β n (.b k) (l6 k)
 |tok {k c:Nat} {x:AV} {v:Value} (hx:bu k c=some x) (hv:ak h β n x v):ak h β n (.tok k c) v
inductive ValsR(h:Heap)(β:Nat→Addr)(n:Nat):List AV→List Value→Prop
 |nil:ValsR h β n [] []
 |cons {x:AV} {v:Value} {l:List AV} {vs:List Value} (hx:ak h β n x v) (hl:ValsR h β n l vs):ValsR h β n (x::l) (v::vs)
end
theorem ValsR.length{h:Heap}{β:Nat→Addr}{n:Nat}:∀{l:List AV}{vs:List Value},ValsR h β n l vs→l.length=vs.length
 |_,_, .nil=>rfl
 |_,_, .cons _ r=>by rw[List.length_cons,List.length_cons,r.length]
theorem f7{h:Heap}{β β':Nat→Addr}{n n':Nat}{a:Addr}{xs:Array Value}{ep:Nat}(hβ:∀i,i<n→β' i=β i)(hf:∀i,n≤i→i<n'→∀xs ep,¬IsT h (β' i) xs ep)(ha:IsT h a xs ep)(ho:∀i,i<n→β i≠a):∀i,i<n'→β' i≠a:=λi hi e=>by
 by_cases q:i<n
 ·rw[hβ i q] at e; exact ho i q e
 ·exact hf i (Nat.not_lt.mp q) hi xs ep (by rw[e]; exact ha)
mutual
theorem ak.mono{h h':Heap}{β β':Nat→Addr}{n n':Nat}(ht:∀a xs ep,(∀i,i<n→β i≠a)→IsT h a xs ep→IsT h' a xs ep)(hβ:∀i,i<n→β' i=β i)(hn:n≤n')(hf:∀i,n≤i→i<n'→∀xs ep,¬IsT h (β' i) xs ep:=by exact λi a b=>absurd b (Nat.not_lt.mpr a)) :
  ∀{x:AV}{v:Value},ak h β n x v→ak h' β' n' x v
 |_,_, .none=> .none
 |_,_, .bool b=> .bool b
 |_,_, .int i t=> .int i t
 |_,_, .str k t=> .str k t
 |_,_, .txt m s t hs=> .txt m s t hs
 |_,_, .tup ha ho hv=> .tup (ht _ _ _ ho ha) (f7 hβ hf ha ho) (ValsR.mono ht hβ hn hf hv)
 |_,_, .obj i hi=>by
  have:=ak.obj (h:=h') (β:=β') (n:=n') i (lT0 hi hn)
  rwa [hβ i hi] at this
 |_,_, .g a=> .g a
 |_,_, .b k=> .b k
 |_,_, .tok hx hv=> .tok hx (ak.mono ht hβ hn hf hv)
theorem ValsR.mono{h h':Heap}{β β':Nat→Addr}{n n':Nat}(ht:∀a xs ep,(∀i,i<n→β i≠a)→IsT h a xs ep→IsT h' a xs ep)(hβ:∀i,i<n→β' i=β i)(hn:n≤n')(hf:∀i,n≤i→i<n'→∀xs ep,¬IsT h (β' i) xs ep:=by exact λi a b=>absurd b (Nat.not_lt.mpr a)) :
  ∀{x:List AV}{v:List Value},ValsR h β n x v→ValsR h' β' n' x v
 |_,_, .nil=> .nil
 |_,_, .cons hx hl=> .cons (ak.mono ht hβ hn hf hx) (ValsR.mono ht hβ hn hf hl)
end
noncomputable def kq:List (Addr×Int×Int×Str):=[(137,115,4,Str.ofString "fields_of.<locals>.put_in"),(227,196,37,Str.ofString "is_like.<locals>.<lambda>")]
noncomputable def fL(h:Heap):Prop:=∀q∈kq,∃ps,h.get? q.1=some (tabObj ps)∧(ps = #[]∨∃c',ps = #[rawInt q.2.1,rawInt q.2.2.1, .ref c']∧h.CodeRec (.ref c') q.2.2.2)
noncomputable def fu(a:Addr):Prop:=a=137∨a=227
noncomputable def dD(β:Nat→Addr)(n:Nat)(cl:List (Nat×Nat))(cs:List (Str×Addr)):Prop:=∀x c,look x cl=some c→cs.lookup (ae x)=some (β c)∧c<n
inductive aN(h:Heap)(β:Nat→Addr)(n:Nat):List (AV×AV)→List (Str×Value)→Prop
 |nil:aN h β n [] []
 |cons {k:Nat} {x:AV} {v:Value} {l:List (AV×AV)} {kvs:List (Str×Value)} (hx:ak h β n x v) (hl:aN h β n l kvs):aN h β n ((.str k,x)::l) ((ae k,v)::kvs)
inductive bn(h:Heap)(β:Nat→Addr)(n:Nat):List (AV×AV)→List (List Str×Addr×Value)→Prop
 |nil:bn h β n [] []
 |cons {k j:Nat} {a:Addr} {x:AV} {v:Value} {l:List (AV×AV)} {kvs:List (List Str×Addr×Value)} {t u:Tok} {ep:Nat} (ha:IsT h a #[.str (ae k) t, .str (ae j) u] ep) (ho:∀i,i<n→β i≠a) (hx:ak h β n x v) (hl:bn h β n l kvs) :
   bn h β n ((.tup [.str k, .str j],x)::l) (([ae k,ae j],a,v)::kvs)
noncomputable def hot:Option ai→Bool
 |none=>false
 |some o=>match o with
  | .fro _=>false
  |_=>true
section
variable (w:World)
noncomputable def bz(h:Heap)(β:Nat→Addr)(n:Nat):ai→Addr→Prop
 | .list l,a=>∃vs ep,IsL h a vs.toArray ep∧ValsR h β n l vs
 | .dict l,a=>(∃kvs:List (Str×Value),h.DictOf (strKind ad w) a kvs∧aN h β n l kvs)∨
   (∃xs:List (List Str×Addr×Value),h.DictOfH (tupleKind (strKind ad w)) a xs∧bn h β n l xs)
 | .fro l,a=>(∃kvs:List (Str×Value),h.DictOf (strKind ad w) a kvs∧aN h β n l kvs)∨
   (∃xs:List (List Str×Addr×Value),h.DictOfH (tupleKind (strKind ad w)) a xs∧bn h β n l xs)
 | .inst C d,a=>(∃c,look C tabs.clss=some c)∧d<n∧h.get? a=some (instObj C (β d))
 | .cell v,a=>∃o u,h.get? a=some o∧o.data = .cell u∧(match v with |none=>True |some x=>∃y,u=some y∧ak h β n x y)
 | .lam ps body sc cl,a=>∃cs pm c' ctv,h.get? a=some { cls:= .type "function",data:= .func (kla_fn "<lambda>" (Str.ofString "is_like.<locals>.<lambda>") (fA ps []) (aA body) (bZ sc []) cs pm (.ref c') ctv) }∧
   h.get? 227=some (tabObj #[rawInt 196,rawInt 37, .ref c'])∧dD β n cl cs
 | .fn x ps body sc cl,a=>∃cs doc pm c' ctv,h.get? a=some { cls:= .type "function",data:= .func (fnX (ae x) (Str.ofString "fields_of.<locals>.put_in") (fA ps []) (unSs body) (bZ sc []) cs .none .none doc pm none (.ref c') ctv) }∧
   h.get? 137=some (tabObj #[rawInt 115,rawInt 4, .ref c'])∧dD β n cl cs
 | .vals d,a=>d<n∧h.get? a=some { cls:= .type "dict_values",data:= .fields #[.ref (β d)] }
 | .own,a=>∃(x y:Value),IsT h a #[x,y] 0
 | .tr l,a=>∃(x y:Int) (t u ep:Nat),IsL h a #[.int x t, .int y u] ep∧(0≤x∧Builtin.Int.intBits x≤1100000∧0≤y∧y<2147483647)∧df l (x,y)
 | .otok k l rs,a=>∃vs ep,IsL h a vs.toArray ep∧ValsR h β n (otokL k l rs) vs
noncomputable def N0:Nat:=444
structure bB(h:Heap)(β:Nat→Addr)(σ:ac):Prop where
 obj:∀i o,σ.get i=some o→i<σ.n∧bz w h β σ.n o (β i)
 lo:∀i,i<σ.n→N0≤β i∧β i<h.objs.size
 live:∀i,i<σ.n→∃o,h.get? (β i)=some o
 inj:∀i j,i<σ.n→j<σ.n→β i=β j→i=j
 fact:∀p∈σ.f,p
structure aT(X:Addr→Prop)(frs:List Env)(h B h':Heap)(β β':Nat→Addr)(σ σ':ac):Prop where
 size:h.objs.size≤h'.objs.size
 keep:∀a o,h.get? a=some o→¬X a→(∀i,hot (σ.get i)=true→a≠β i)→(∀env∈frs,env.frame≠some a)→¬fu a→B.get? a=some o
 slots:∀env∈frs,∀a o,env.frame=some a→h.get? a=some o→¬X a→∃sl,h'.get? a=some { o with slots:=sl }
 tups:∀a xs n,(∀i,i<σ.n→β i≠a)→IsT h a xs n→IsT B a xs n
 tabs:∀a ps,fu a→h.get? a=some (tabObj ps)→ps≠#[]→B.get? a=some (tabObj ps)
 n:σ.n≤σ'.n
 agree:∀i,i<σ.n→β' i=β i
 fresh:∀i,σ.n≤i→i<σ'.n→h.objs.size≤β' i
 nores:∀i,i<σ.n→hot (σ'.get i)=true→hot (σ.get i)=true
 rel:bB w B β' σ'
 tab:fL B
 hi:∀i,i<σ'.n→β' i<h'.objs.size
noncomputable abbrev ar(X:Addr→Prop)(frs:List Env)(h h':Heap)(β β':Nat→Addr)(σ σ':ac):Prop:=aT w X frs h h' h' β β' σ σ'
end
theorem br{a b:Nat}(h:a≠b):Nat.beq a b=false:=Bool.eq_false_iff.mpr λe=>h (eB0 e)
theorem bH{α:Type}(y z:Nat)(b:α)(r:List (Nat×α)):look y ((z,b)::r)=if y=z then some b else look y r:=by
 show(Bool.rec (look y r) (some b) (Nat.beq y z):Option α)=_
 by_cases h:y=z
 ·subst h; rw[Nat.beq_refl,if_pos rfl]
 ·rw[br h,if_neg h]
theorem gi{α:Type}(x:Nat)(a:α)(y:Nat):∀l:List (Nat×α),look y (put x a l)=if y=x then some a else look y l
 |[]=>bH y x a []
 |(z,b)::r=>by
  have ih:=gi x a y r
  unfold put
  by_cases hz:x=z
  ·subst hz
   rw[Nat.beq_refl]
   dsimp only
   rw[bH,bH]
   split <;> rfl
  ·rw[br hz]
   dsimp only
   rw[bH,bH,ih]
   by_cases h:y=z
   ·subst h; rw[if_pos rfl,if_pos rfl,if_neg (Ne.symm hz)]
   ·rw[if_neg h,if_neg h]
namespace T
theorem Gp(i:Nat):T.nil.get i=none:=rfl
theorem bS(v:Option ai)(l r:T)(i:Nat):(T.node v l r).get i=if i=0 then v else if i % 2=1 then l.get (i / 2) else r.get (i / 2-1):=by
 show(Bool.rec (Bool.rec (r.get (i / 2-1)) (l.get (i / 2)) (Nat.beq (i % 2) 1)) v (Nat.beq i 0):Option ai)=_
 by_cases h:i=0
 ·subst h; rfl
 ·rw[br h,if_neg h]
  by_cases q:i % 2=1
  ·rw[q,if_pos rfl]; rfl
  ·rw[br q,if_neg q]
theorem wN(o:Option ai)(k i:Nat):T.set (k+1) .nil i o=if i=0 then .node o .nil .nil else if i % 2=1 then .node none (T.set k .nil (i / 2) o) .nil else .node none .nil (T.set k .nil (i / 2-1) o):=by
 show(Bool.rec (Bool.rec (T.node none .nil (T.set k .nil (i / 2-1) o)) (T.node none (T.set k .nil (i / 2) o) .nil) (Nat.beq (i % 2) 1)) (T.node o .nil .nil) (Nat.beq i 0):T)=_
 by_cases h:i=0
 ·subst h; rfl
 ·rw[br h,if_neg h]
  by_cases q:i % 2=1
  ·rw[q,if_pos rfl]; rfl
  ·rw[br q,if_neg q]
theorem sU(o v:Option ai)(l r:T)(k i:Nat):T.set (k+1) (.node v l r) i o=if i=0 then .node o l r else if i % 2=1 then .node v (T.set k l (i / 2) o) r else .node v l (T.set k r (i / 2-1) o):=by
 show(Bool.rec (Bool.rec (T.node v l (T.set k r (i / 2-1) o)) (T.node v (T.set k l (i / 2) o) r) (Nat.beq (i % 2) 1)) (T.node o l r) (Nat.beq i 0):T)=_
 by_cases h:i=0
 ·subst h; rfl
 ·rw[br h,if_neg h]
  by_cases q:i % 2=1
  ·rw[q,if_pos rfl]; rfl
  ·rw[br q,if_neg q]
theorem get_set_ne(o:Option ai):∀(k:Nat)(t:T)(i j:Nat),i≠j→(T.set k t i o).get j=t.get j
 |0,_,_,_,_=>rfl
 |k+1, .nil,i,j,hij=>by
  rw[wN,Gp]
  by_cases h:i=0
  ·rw[if_pos h,bS,if_neg (by omega)]; split <;> rfl
  ·rw[if_neg h]
   by_cases q:i % 2=1
   ·rw[if_pos q,bS]
    split
    ·rfl
    ·split
     ·rw[get_set_ne o k _ _ _ (by omega)]; rfl
     ·rfl
   ·rw[if_neg q,bS]
    split
    ·rfl
    ·split
     ·rfl
     ·rw[get_set_ne o k _ _ _ (by omega)]; rfl
 |k+1, .node v l r,i,j,hij=>by
  rw[sU,bS v l r]
  by_cases h:i=0
  ·have hj:j≠0:=by omega
   rw[if_pos h,bS,if_neg hj,if_neg hj]
  ·rw[if_neg h]
   by_cases q:i % 2=1
   ·rw[if_pos q,bS]
    split
    ·rfl
    ·split
     ·rw[get_set_ne o k _ _ _ (by omega)]
     ·rfl
   ·rw[if_neg q,bS]
    split
    ·rfl
    ·split
     ·rfl
     ·rw[get_set_ne o k _ _ _ (by omega)]
theorem get_set_eq(o:Option ai):∀(k:Nat)(t:T)(i:Nat),i<k→(T.set k t i o).get i=o
 |0,_,_,h=>absurd h (Nat.not_lt_zero _)
 |k+1, .nil,i,hk=>by
  rw[wN]
  by_cases h:i=0
  ·rw[if_pos h,bS,if_pos h]
  ·rw[if_neg h]
   by_cases q:i % 2=1
   ·rw[if_pos q,bS,if_neg h,if_pos q]
    exact get_set_eq o k .nil (i / 2) (by omega)
   ·rw[if_neg q,bS,if_neg h,if_neg q]
    exact get_set_eq o k .nil (i / 2-1) (by omega)
 |k+1, .node v l r,i,hk=>by
  rw[sU]
  by_cases h:i=0
  ·rw[if_pos h,bS,if_pos h]
  ·rw[if_neg h]
   by_cases q:i % 2=1
   ·rw[if_pos q,bS,if_neg h,if_pos q]
    exact get_set_eq o k l (i / 2) (by omega)
   ·rw[if_neg q,bS,if_neg h,if_neg q]
    exact get_set_eq o k r (i / 2-1) (by omega)
end T
theorem ac.get_push_ne(σ:ac)(o:ai){j:Nat}(h:σ.n≠j):(σ.push o).get j=σ.get j:=by
 show(T.set (σ.n+1) σ.t σ.n (some o)).get j=σ.t.get j
 exact T.get_set_ne _ _ _ _ _ h
theorem ac.get_push_self(σ:ac)(o:ai):(σ.push o).get σ.n=some o:=by
 show(T.set (σ.n+1) σ.t σ.n (some o)).get σ.n=some o
 exact T.get_set_eq _ _ _ _ (Nat.lt_succ_self _)
theorem ac.get_set_ne(σ:ac)(i:Nat)(o:ai){j:Nat}(h:i≠j):(σ.set i o).get j=σ.get j:=by
 show(T.set (i+1) σ.t i (some o)).get j=σ.t.get j
 exact T.get_set_ne _ _ _ _ _ h
theorem ac.get_set_self(σ:ac)(i:Nat)(o:ai):(σ.set i o).get i=some o:=by
 show(T.set (i+1) σ.t i (some o)).get i=some o
 exact T.get_set_eq _ _ _ _ (Nat.lt_succ_self _)
section
variable {w:World}{X:Addr→Prop}{frs:List Env}{h h' h'' B:Heap}{β β' β'':Nat→Addr}{σ σ' σ'':ac}
theorem aN.mono{n n':Nat}(ht:∀a xs ep,(∀i,i<n→β i≠a)→IsT h a xs ep→IsT h' a xs ep)(hβ:∀i,i<n→β' i=β i)(hn:n≤n')(hf:∀i,n≤i→i<n'→∀xs ep,¬IsT h (β' i) xs ep:=by exact λi a b=>absurd b (Nat.not_lt.mpr a)):∀{l:List (AV×AV)}{kvs:List (Str×Value)},aN h β n l kvs→aN h' β' n' l kvs
 |_,_, .nil=> .nil
 |_,_, .cons hx hl=> .cons (hx.mono ht hβ hn hf) (hl.mono ht hβ hn hf)
theorem bn.mono{n n':Nat}(ht:∀a xs ep,(∀i,i<n→β i≠a)→IsT h a xs ep→IsT h' a xs ep)(hβ:∀i,i<n→β' i=β i)(hn:n≤n')(hf:∀i,n≤i→i<n'→∀xs ep,¬IsT h (β' i) xs ep:=by exact λi a b=>absurd b (Nat.not_lt.mpr a)):∀{l:List (AV×AV)}{kvs:List (List Str×Addr×Value)},bn h β n l kvs→bn h' β' n' l kvs
 |_,_, .nil=> .nil
 |_,_, .cons ha ho hx hl=> .cons (ht _ _ _ ho ha) (f7 hβ hf ha ho) (hx.mono ht hβ hn hf) (hl.mono ht hβ hn hf)
theorem bn.is{n:Nat}{l:List (AV×AV)}{kvs:List (List Str×Addr×Value)}(e:bn h β n l kvs):∀x∈kvs,(tupleKind (strKind ad w)).is h x.1 x.2.1:=by
 induction e with
 |nil=>intro x hx; cases hx
 |@cons k j a x v l kvs t u ep ha _ _ _ ih=>
  intro y hy
  rcases List.mem_cons.mp hy with rfl |hy
  ·exact⟨_,_,ep,ha,rfl,rfl, .cons (strKind_is ad w _ _) (.cons (strKind_is ad w _ _) .nil)⟩
  ·exact ih y hy
theorem dD.mono{n n':Nat}{cl:List (Nat×Nat)}{cs:List (Str×Addr)}(hβ:∀i,i<n→β' i=β i)(hn:n≤n')(c:dD β n cl cs):dD β' n' cl cs:=λx i e=>by
 obtain⟨a,b⟩:=c x i e
 exact⟨by rw[hβ i b]; exact a,lT0 b hn⟩
theorem bz.mono{n n':Nat}{o:ai}{a:Addr}(ht:∀a xs ep,(∀i,i<n→β i≠a)→IsT h a xs ep→IsT h' a xs ep)(hβ:∀i,i<n→β' i=β i)(hn:n≤n')
  (hb:∀a ps,fu a→h.get? a=some (tabObj ps)→ps≠#[]→h'.get? a=some (tabObj ps)) (he:∀o,h.get? a=some o→h'.get? a=some o) (hf:∀i,n≤i→i<n'→∀xs ep,¬IsT h (β' i) xs ep:=by exact λi a b=>absurd b (Nat.not_lt.mpr a)) (x:bz w h β n o a):bz w h' β' n' o a:=by
 cases o with
 |list l=>
  obtain⟨vs,ep,e,r⟩:=x
  exact⟨vs,ep,he _ e,r.mono ht hβ hn hf⟩
 |otok k l rs=>
  obtain⟨vs,ep,e,r⟩:=x
  exact⟨vs,ep,he _ e,r.mono ht hβ hn hf⟩
 |dict l=>
  rcases x with ⟨kvs,d,e⟩ |⟨xs,d,e⟩
  ·exact .inl ⟨kvs,d.at he,e.mono ht hβ hn hf⟩
  ·obtain⟨o,es,ep,q,r1,r2,r3,_,r5⟩:=d
   have e':=e.mono ht hβ hn hf
   exact .inr ⟨xs,⟨o,es,ep,he _ q,r1,r2,r3,e'.is,r5⟩,e'⟩
 |fro l=>
  rcases x with ⟨kvs,d,e⟩ |⟨xs,d,e⟩
  ·exact .inl ⟨kvs,d.at he,e.mono ht hβ hn hf⟩
  ·obtain⟨o,es,ep,q,r1,r2,r3,_,r5⟩:=d
   have e':=e.mono ht hβ hn hf
   exact .inr ⟨xs,⟨o,es,ep,he _ q,r1,r2,r3,e'.is,r5⟩,e'⟩
 |inst C d=>
  obtain⟨hc,hd,e⟩:=x
  exact⟨hc,lT0 hd hn,by rw[hβ d hd]; exact he _ e⟩
 |cell v=>
  obtain⟨o,u,e,hd,r⟩:=x
  refine⟨o,u,he _ e,hd,?_⟩
  cases v with
  |none=>trivial
  |some y=>
   obtain⟨z,e,r⟩:=r
   exact⟨z,e,r.mono ht hβ hn hf⟩
 |lam ps body sc cl=>
  obtain⟨cs,pm,c',ctv,e,q,r⟩:=x
  exact⟨cs,pm,c',ctv,he _ e,hb _ _ (.inr rfl) q (by intro z; cases z),r.mono hβ hn⟩
 |fn x ps body sc cl=>
  obtain⟨cs,doc,pm,c',ctv,e,q,r⟩:=x
  exact⟨cs,doc,pm,c',ctv,he _ e,hb _ _ (.inl rfl) q (by intro z; cases z),r.mono hβ hn⟩
 |vals d=>
  obtain⟨hd,e⟩:=x
  exact⟨lT0 hd hn,by rw[hβ d hd]; exact he _ e⟩
 |own=>
  obtain⟨x,y,e⟩:=x
  exact⟨x,y,he _ e⟩
 |tr l=>
  obtain⟨x,y,t,u,ep,e,r⟩:=x
  exact⟨x,y,t,u,ep,he _ e,r⟩
theorem cx{a b:String}(h:decide (a=b)=false):Value.type a≠Value.type b:=λe=>of_decide_eq_false h (Value.type.inj e)
theorem bz.cls{n:Nat}{o:ai}{a:Addr}(x:bz w h β n o a):∃ob,h.get? a=some ob∧(o≠ .own→ob.cls≠ .type "tuple"∨∀xs n,ob.data≠ .seq xs n)∧(ob.cls≠ .none∨∀xs,ob.data≠ .fields xs)∧∀vs,ob.data = .fields vs→vs[1]?=none:=by
 cases o with
 |list l=>obtain⟨vs,ep,e,_⟩:=x; exact⟨_,e,λ_=> .inl (cx rfl), .inl nofun,nofun⟩
 |dict l=>
  rcases x with ⟨kvs,⟨o,es,ep,q,r1,r2,_⟩,_⟩ |⟨xs,⟨o,es,ep,q,r1,r2,_⟩,_⟩ <;> exact⟨_,q,λ_=> .inl (by rw[r1.1]; exact cx rfl), .inl (by rw[r1.1]; exact nofun),by rw[r2]; exact nofun⟩
 |fro l=>
  rcases x with ⟨kvs,⟨o,es,ep,q,r1,r2,_⟩,_⟩ |⟨xs,⟨o,es,ep,q,r1,r2,_⟩,_⟩ <;> exact⟨_,q,λ_=> .inl (by rw[r1.1]; exact cx rfl), .inl (by rw[r1.1]; exact nofun),by rw[r2]; exact nofun⟩
 |inst C d=>obtain⟨_,_,e⟩:=x; exact⟨_,e,λ_=> .inl nofun, .inl nofun,nofun⟩
 |cell v=>obtain⟨o,u,e,hd,_⟩:=x; exact⟨_,e,λ_=> .inr (by rw[hd]; exact nofun), .inr (by rw[hd]; exact nofun),by rw[hd]; exact nofun⟩
 |lam ps body sc cl=>obtain⟨_,_,_,_,e,_⟩:=x; exact⟨_,e,λ_=> .inl (cx rfl), .inl nofun,nofun⟩
 |fn x ps body sc cl=>obtain⟨_,_,_,_,_,e,_⟩:=x; exact⟨_,e,λ_=> .inl (cx rfl), .inl nofun,nofun⟩
 |vals d=>obtain⟨_,e⟩:=x; exact⟨_,e,λ_=> .inl (cx rfl), .inl nofun,λvs q=>by cases q; rfl⟩
 |own=>obtain⟨_,_,e⟩:=x; exact⟨_,e,λz=>absurd rfl z, .inl nofun,nofun⟩
 |otok k l rs=>obtain⟨vs,ep,e,_⟩:=x; exact⟨_,e,λ_=> .inl (cx rfl), .inl nofun,nofun⟩
 |tr l=>obtain⟨_,_,_,_,_,e,_⟩:=x; exact⟨_,e,λ_=> .inl (cx rfl), .inl nofun,nofun⟩
theorem bz.not_tuple{n:Nat}{o:ai}{a:Addr}{xs:Array Value}{ep:Nat}(x:bz w h β n o a)(ho:o≠ .own)(t:IsT h a xs ep):False:=by
 obtain⟨ob,e,c,_⟩:=x.cls
 have:=e.symm.trans t
 cases this
 exact(c ho).elim (λz=>z rfl) λz=>z _ _ rfl
theorem bz.not_tab{n:Nat}{o:ai}{a:Addr}{ps:Array Value}(x:bz w h β n o a)(t:h.get? a=some (tabObj ps)):False:=by
 obtain⟨ob,e,_,c,_⟩:=x.cls
 have:=e.symm.trans t
 cases this
 exact c.elim (λz=>z rfl) λz=>z _ rfl
theorem mO{o:Option ai}(e:hot o=true):∃x,o=some x:=by
 cases o with
 |none=>cases e
 |some x=>exact⟨x,rfl⟩
theorem bB.lt(R:bB w h β σ){i:Nat}(hi:hot (σ.get i)=true):i<σ.n:=by
 obtain⟨x,e⟩:=mO hi
 exact(R.obj i x e).1
theorem ar.refl(R:bB w h β σ)(T:fL h):ar w X frs h h β β σ σ where
 size:=Nat.le_refl _
 keep:=λ_ _ e _ _ _ _=>e
 slots:=λ_ _ _ o _ e _=>⟨o.slots,e⟩
 tups:=λ_ _ _ _ e=>e
 tabs:=λ_ _ _ e _=>e
 n:=Nat.le_refl _
 agree:=λ_ _=>rfl
 fresh:=λi a b=>absurd b (Nat.not_lt.mpr a)
 nores:=λ_ _ e=>e
 rel:=R
 tab:=T
 hi:=λi hi=>(R.lo i hi).2
theorem aT.trans(s:ar w X frs h h' β β' σ σ')(t:aT w X frs h' B h'' β' β'' σ' σ''):aT w X frs h B h'' β β'' σ σ'' where
 size:=lE0 s.size t.size
 keep:=λa o e x1 x2 x3 x4=>by
  refine t.keep a o (s.keep a o e x1 x2 x3 x4) x1 (λi hi q=>?_) x3 x4
  have hi':=s.rel.lt hi
  by_cases hl:i<σ.n
  ·exact x2 i (s.nores i hl hi) (by rw[q,s.agree i hl])
  ·have:=s.fresh i (Nat.not_lt.mp hl) hi'
   rw[←q] at this
   exact absurd (Heap.lt_size e) (Nat.not_lt.mpr this)
 slots:=λenv he a o q e x=>by
  obtain⟨sl,e1⟩:=s.slots env he a o q e x
  obtain⟨sl',e2⟩:=t.slots env he a _ q e1 x
  exact⟨sl',e2⟩
 tups:=λa xs n ho e=>t.tups a xs n (f7 s.agree (λi hi hi' xs ep z=>absurd (Heap.lt_size z) (Nat.not_lt.mpr (s.fresh i hi hi'))) e ho) (s.tups a xs n ho e)
 tabs:=λa ps i e q=>t.tabs a ps i (s.tabs a ps i e q) q
 n:=lE0 s.n t.n
 agree:=λi hi=>(t.agree i (lT0 hi s.n)).trans (s.agree i hi)
 fresh:=λi a b=>by
  by_cases hl:i<σ'.n
  ·rw[t.agree i hl]; exact s.fresh i a hl
  ·exact lE0 s.size (t.fresh i (Nat.not_lt.mp hl) b)
 nores:=λi hi e=>s.nores i hi (t.nores i (lT0 hi s.n) e)
 rel:=t.rel
 tab:=t.tab
 hi:=t.hi
theorem aT.notT(s:aT w X frs h B h' β β' σ σ'):∀i,σ.n≤i→i<σ'.n→∀xs ep,¬IsT h (β' i) xs ep:=λi hi hi' xs ep z=>absurd (Heap.lt_size z) (Nat.not_lt.mpr (s.fresh i hi hi'))
theorem aT.val(s:aT w X frs h B h' β β' σ σ'){x:AV}{v:Value}(hx:ak h β σ.n x v):ak B β' σ'.n x v:=hx.mono s.tups s.agree s.n s.notT
theorem aT.vals(s:aT w X frs h B h' β β' σ σ'){x:List AV}{v:List Value}(hx:ValsR h β σ.n x v):ValsR B β' σ'.n x v:=hx.mono s.tups s.agree s.n s.notT
theorem tN(hs:h.objs.size≤h'.objs.size)(k:∀a o,h.get? a=some o→h'.get? a=some o)(R:bB w h β σ):bB w h' β σ where
 obj:=λi o e=>⟨(R.obj i o e).1,(R.obj i o e).2.mono (λa xs n _ e=>k _ _ e) (λ_ _=>rfl) (Nat.le_refl _) (λa ps _ e _=>k _ _ e) (λo e=>k _ _ e)⟩
 lo:=λi hi=>⟨(R.lo i hi).1,lT0 (R.lo i hi).2 hs⟩
 live:=λi hi=>by obtain⟨o,e⟩:=R.live i hi; exact⟨o,k _ _ e⟩
 inj:=R.inj
 fact:=R.fact
theorem sN(k:∀a o,h.get? a=some o→h'.get? a=some o)(T:fL h):fL h':=λq hq=>by
 obtain⟨ps,e,r⟩:=T q hq
 refine⟨ps,k _ _ e,r.imp id ?_⟩
 rintro ⟨c',e',c⟩
 exact⟨c',e',c.keeps k⟩
theorem ar.grow(hs:h.objs.size≤h'.objs.size)(k:∀a o,h.get? a=some o→h'.get? a=some o)(R:bB w h β σ)(T:fL h):ar w X frs h h' β β σ σ where
 size:=hs
 keep:=λa o e _ _ _ _=>k a o e
 slots:=λ_ _ a o _ e _=>⟨o.slots,k a o e⟩
 tups:=λ_ _ _ _ e=>k _ _ e
 tabs:=λ_ _ _ e _=>k _ _ e
 n:=Nat.le_refl _
 agree:=λ_ _=>rfl
 fresh:=λi a b=>absurd b (Nat.not_lt.mpr a)
 nores:=λ_ _ e=>e
 rel:=tN hs k R
 tab:=sN k T
 hi:=λi hi=>lT0 (R.lo i hi).2 hs
noncomputable def ext(β:Nat→Addr)(n:Nat)(a:Addr):Nat→Addr:=λi=>if i=n then a else β i
theorem ci{n:Nat}{a:Addr}:ext β n a n=a:=if_pos rfl
theorem bX{n i:Nat}{a:Addr}(h:i<n):ext β n a i=β i:=if_neg (Nat.ne_of_lt h)
theorem e9{n:Nat}{a:Addr}(hn:∀xs ep,¬IsT h a xs ep):∀i,n≤i→i<n+1→∀xs ep,¬IsT h (ext β n a i) xs ep:=λi h1 h2=>by
 have:i=n:=Nat.le_antisymm (Nat.le_of_lt_succ h2) h1
 subst this; rw[ci]; exact hn
theorem ak.new{n:Nat}{a:Addr}:ak h (ext β n a) (n+1) (.obj n) (.ref a):=by
 have:=ak.obj (h:=h) (β:=ext β n a) n (Nat.lt_succ_self n)
 rwa [ci] at this
theorem ar.core{o:ai}{D:Addr}(s:ar w X frs h h' β β' σ σ')(hD:h.objs.size≤D)(hne:∀i,i<σ'.n→β' i≠D)(hN:N0≤D)(hobj:∀i x,σ'.get i=some x→bz w h' (ext β' σ'.n D) (σ'.n+1) x (β' i))(ho:bz w h' (ext β' σ'.n D) (σ'.n+1) o D) :
  ar w X frs h h' β (ext β' σ'.n D) σ (σ'.push o):=by
 have de:∀{P:Nat→Addr→Prop},(∀i,i<σ'.n→P i (β' i))→P σ'.n D→∀i,i<σ'.n+1→P i (ext β' σ'.n D i):=λh1 h2 i hi=>(Nat.lt_succ_iff_lt_or_eq.mp hi).elim (λq=>(bX q).symm▸h1 i q) λq=>by rw[q,ci]; exact h2
 have hl:D<h'.objs.size:=ho.cls.elim λob z=>Heap.lt_size z.1
 have hi:=de (P:=λ_ a=>N0≤a∧a<h'.objs.size) s.rel.lo ⟨hN,hl⟩
 exact {
  size:=s.size
  keep:=s.keep
  slots:=s.slots
  tups:=s.tups
  tabs:=s.tabs
  n:=Nat.le_succ_of_le s.n
  agree:=λi hi=>(bX (lT0 hi s.n)).trans (s.agree i hi)
  fresh:=λi a b=>de (P:=λi a=>σ.n≤i→h.objs.size≤a) (λi q a=>s.fresh i a q) (λ_=>hD) i b a
  nores:=λi hi e=>s.nores i hi (ac.get_push_ne σ' o (Nat.ne_of_gt (lT0 hi s.n))▸e)
  rel:={
   obj:=λi x e=>by
    by_cases q:i=σ'.n
    ·rw[q] at e ⊢
     rw[ac.get_push_self] at e
     rw[ci]
     exact⟨Nat.lt_succ_self _,sI e▸ho⟩
    ·rw[ac.get_push_ne _ _ (Ne.symm q)] at e
     have hl:=(s.rel.obj i x e).1
     rw[bX hl]
     exact⟨Nat.lt_succ_of_lt hl,hobj i x e⟩
   lo:=hi
   live:=de (P:=λ_ a=>∃o,h'.get? a=some o) s.rel.live (ho.cls.imp λob z=>z.1)
   inj:=λi j hi hj=>de (P:=λi a=>∀j,j<σ'.n+1→a=ext β' σ'.n D j→i=j) (λi q=>de (P:=λj a=>β' i=a→i=j) (λj r=>s.rel.inj i j q r) λe=>absurd e (hne i q))
    (de (P:=λj a=>D=a→σ'.n=j) (λj r e=>absurd e.symm (hne j r)) λ_=>rfl) i hi j hj
   fact:=s.rel.fact }
  tab:=s.tab
  hi:=λi h=>(hi i h).2 }
theorem ar.allocAt{o:ai}{D:Addr}(R:bB w h β σ)(T:fL h)(hN:N0≤h.objs.size)(k:∀b o,h.get? b=some o→h'.get? b=some o)(hD:h.objs.size≤D)(hs:h.objs.size≤h'.objs.size)(ho:bz w h' (ext β σ.n D) (σ.n+1) o D) :
  ar w X frs h h' β (ext β σ.n D) σ (σ.push o):=
 ar.core (ar.grow hs k R T) hD (λi hi=>Nat.ne_of_lt (lT0 (R.lo i hi).2 hD)) (lE0 hN hD)
  (λi x e=>(R.obj i x e).2.mono (λa xs n _ e=>k _ _ e) (λj hj=>bX hj) (Nat.le_succ _) (λa ps _ e _=>k _ _ e) (λo e=>k _ _ e) (e9 λ_ _ z=>absurd (Heap.lt_size z) (Nat.not_lt.mpr hD))) ho
theorem ar.alloc{o:ai}{ob:Obj}(R:bB w h β σ)(T:fL h)(hN:N0≤h.objs.size)
  (ho:bz w (h.push ob) (ext β σ.n h.objs.size) (σ.n+1) o h.objs.size):ar w X frs h (h.push ob) β (ext β σ.n h.objs.size) σ (σ.push o):=
 ar.allocAt R T hN (λa o e=>Heap.get?_push_of_some _ e) (Nat.le_refl _) (by rw[Heap.size_push]; exact Nat.le_succ _) ho
theorem ar.upd{i:Nat}{o o':ai}(hi:σ.get i=some o)(hs:Heap.SameBut (β i) h h')(R:bB w h β σ)(T:fL h)(hF:∀e∈frs,∀a,e.frame=some a→β i≠a)
  (ho:bz w h' β σ.n o' (β i)) (hot':hot (some o)=true:=by rfl):ar w X frs h h' β β σ (σ.set i o'):=by
 obtain⟨hl,hr⟩:=R.obj i o hi
 obtain⟨ob,hob,hc1,hc2,hc3⟩:=hr.cls
 have k:∀a o,a≠β i→h.get? a=some o→h'.get? a=some o:=λa o q e=>(hs.2 a q).trans e
 have kt:∀a xs n,(∀j,j<σ.n→β j≠a)→IsT h a xs n→IsT h' a xs n:=λa xs n ho e=>k _ _ (λz=>ho i hl z.symm) e
 have kb:∀a ps,h.get? a=some (tabObj ps)→h'.get? a=some (tabObj ps):=λa ps e=>k _ _ (by rintro rfl; exact hr.not_tab e) e
 exact {
  size:=Nat.le_of_eq hs.1.symm
  keep:=λa o e _ q _ _=>k a o (q i (by rw[hi]; exact hot')) e
  slots:=λenv he a o q e _=>⟨o.slots,k a o (Ne.symm (hF env he a q)) e⟩
  tups:=kt
  tabs:=λa ps _ e _=>kb a ps e
  n:=Nat.le_refl _
  agree:=λ_ _=>rfl
  fresh:=λi a b=>absurd b (Nat.not_lt.mpr a)
  nores:=λj _ e=>by
   by_cases q:i=j
   ·subst q; rw[hi]; exact hot'
   ·rwa [ac.get_set_ne _ _ _ q] at e
  rel:={
   obj:=λj x e=>by
    by_cases q:i=j
    ·subst q
     rw[ac.get_set_self] at e; cases e; exact⟨hl,ho⟩
    ·rw[ac.get_set_ne _ _ _ q] at e
     obtain⟨hj,r⟩:=R.obj j x e
     exact⟨hj,r.mono kt (λ_ _=>rfl) (Nat.le_refl _) (λa ps _ e _=>kb a ps e) λo e=>k _ _ (λz=>q (R.inj j i hj hl z).symm) e⟩
   lo:=λj hj=>⟨(R.lo j hj).1,by rw[hs.1]; exact(R.lo j hj).2⟩
   live:=λj hj=>by
    by_cases q:β j=β i
    ·rw[q]; obtain⟨ob,e,_⟩:=ho.cls; exact⟨ob,e⟩
    ·obtain⟨o,e⟩:=R.live j hj; exact⟨o,k _ _ q e⟩
   inj:=R.inj
   fact:=R.fact }
  tab:=λq hq=>by
   obtain⟨ps,e,r⟩:=T q hq
   refine⟨ps,kb _ _ e,r.imp id ?_⟩
   rintro ⟨c',e',c,oc,vs,t,q1,q2,q3,q4⟩
   refine⟨c',e',c,oc,vs,t,q1,k _ _ ?_ q2,q3,q4⟩
   rintro rfl
   cases q2.symm.trans hob
   have:=hc3 _ q3
   rw[q4] at this; cases this
  hi:=λj hj=>by rw[hs.1]; exact(R.lo j hj).2 }
end
noncomputable def eU(k:NameKind)(r:Option NameKind):Prop:=r=some k∨(k = .free∧r=some .cell)
theorem eU.is{k:NameKind}{r:Option NameKind}(h:eU k r)(hk:k≠ .free:=by decide):r=some k:=h.elim id λz=>absurd z.1 hk
noncomputable def lr(c:Nat):Str:=if c=229 then Str.ofString "is_like.<locals>." else Str.ofString "fields_of.<locals>."
structure MU(env:Env)(fn:Nat)(sc:List (Nat×NameKind)):Prop where
 kind:env.scope.kind = .function
 names:∀x k,look x sc=some k→eU k (env.kindOf (ae x))
 glob:env.globals=mainGlobals
 bi:env.builtins=builtinsNs
 code:fn=229∨fn=139→env.code = .ref fn∧env.qual=lr fn
noncomputable def dA(h:Heap)(β:Nat→Addr)(n:Nat)(L:Addr)(loc:ao):Prop:=∃m,h.Ns L m∧∀x av,look x loc=some av→∃v,m (ae x)=some v∧ak h β n av v
noncomputable def nA(h:Heap)(e:Env):Prop:=e.scope.kind = .function∧∃L o es ep,e.frame=some L∧h.get? L=some o∧o.data = .dict es ep∧N0≤L
section
variable (w:World)(K:Frag)
structure Sit(A:Around)(frs:List Env)(h:Heap)(β:Nat→Addr)(σ:ac):Prop where
 hh:A.handled=none
 fr:A.frames=some frs
 frok:∀e∈frs,nA h e
 top:K.In h
 tab:fL h
 rel:bB w h β σ
 sepF:∀e∈frs,∀a,e.frame=some a→∀i,i<σ.n→β i≠a
 big:N0≤h.objs.size
structure St(A:Around)(frs:List Env)(env:Env)(h:Heap)(β:Nat→Addr)(σ:ac)(ev:Ev):Prop extends Sit w K A frs h β σ where
 eok:MU env ev.fn ev.sc
 loc:dA h β σ.n env.locals ev.loc
 sepL:∀i,i<σ.n→β i≠env.locals
 loL:N0≤env.locals
 cel:dD β σ.n ev.cel env.cells
 hd:∃e0 rest,frs=e0::rest∧e0.frame=env.frame
end
noncomputable def jU(K:Frag):Prop:=∀a o,K.lookup a=some o→a<N0∧¬fu a
section
variable {w:World}{K:Frag}{A:Around}{frs:List Env}{env:Env}{h h' B:Heap}{β β':Nat→Addr}{σ σ':ac}{ev:Ev}{X:Addr→Prop}
theorem j3{L:Addr}{m:Str→Option Value}(hn:h.Ns L m)(k:∀o,h.get? L=some o→∃sl,h'.get? L=some { o with slots:=sl }):h'.Ns L m:=by
 obtain⟨o,es,ep,e,d,s,f⟩:=hn
 obtain⟨sl,e'⟩:=k o e
 exact⟨_,es,ep,e',d,s,f⟩
theorem ta{e:Env}(F:nA h e)(k:∀a o,e.frame=some a→h.get? a=some o→∃sl,h'.get? a=some { o with slots:=sl }):nA h' e:=by
 obtain⟨hk,L,o,es,ep,hf,e1,d,l⟩:=F
 obtain⟨sl,e'⟩:=k L o hf e1
 exact⟨hk,L,_,es,ep,hf,e',d,l⟩
theorem kD(hK:jU K)(T:K.In h)(sepF:∀e∈frs,nA h e)(hX:∀a,X a→N0≤a)(R:bB w h β σ)(s:aT w X frs h B h' β β' σ σ'):K.In B:=λa o e=>by
 obtain⟨l,t⟩:=hK a o e
 refine s.keep a o (T a o e) (λx=>absurd l (Nat.not_lt.mpr (hX a x))) (λi hi q=>?_) (λenv he q=>?_) t
 ·have:=(R.lo i (R.lt hi)).1
  rw[←q] at this; exact absurd l (Nat.not_lt.mpr this)
 ·obtain⟨_,L,_,_,_,hf,_,_,hl⟩:=sepF env he
  rw[hf] at q; cases q; exact absurd l (Nat.not_lt.mpr hl)
theorem Sit.step(hK:jU K)(S:Sit w K A frs h β σ)(s:ar w (λ_=>False) frs h h' β β' σ σ'):Sit w K A frs h' β' σ' where
 hh:=S.hh
 fr:=S.fr
 frok:=λe he=>ta (S.frok e he) λa o q e1=>s.slots e he a o q e1 id
 top:=kD hK S.top S.frok (λ_ x=>x.elim) S.rel s
 tab:=s.tab
 rel:=s.rel
 sepF:=λe he a q i hi=>by
  obtain⟨_,L,o,_,_,hf,e1,_,_⟩:=S.frok e he
  rw[hf] at q; cases q
  by_cases hl:i<σ.n
  ·rw[s.agree i hl]; exact S.sepF e he _ hf i hl
  ·exact Nat.ne_of_gt (lT0 (Heap.lt_size e1) (s.fresh i (Nat.not_lt.mp hl) hi))
 big:=lE0 S.big s.size
theorem F0{L:Addr}{m:Str→Option Value}(R:bB w h β σ)(hn:h.Ns L m)(sepL:∀i,i<σ.n→β i≠L)(loL:N0≤L)(s:ar w (λ_=>False) frs h h' β β' σ σ'):h'.Ns L m:=by
 refine j3 hn λo e=>?_
 by_cases hF:∃e0∈frs,e0.frame=some L
 ·obtain⟨e0,he,q⟩:=hF
  exact s.slots e0 he _ o q e id
 ·refine⟨o.slots,s.keep _ o e id (λi hi q=>?_) (λe0 he q=>hF ⟨e0,he,q⟩) λt=>?_⟩
  ·exact sepL i (R.lt hi) q.symm
  ·rcases t with t |t <;> rw[t] at loL <;> exact absurd loL (by decide)
theorem dA.step{L:Addr}{loc:ao}(R:bB w h β σ)(l:dA h β σ.n L loc)(sepL:∀i,i<σ.n→β i≠L)(loL:N0≤L)(s:ar w (λ_=>False) frs h h' β β' σ σ'):dA h' β' σ'.n L loc:=by
 obtain⟨m,hn,hl⟩:=l
 refine⟨m,F0 R hn sepL loL s,λx av e=>?_⟩
 obtain⟨v,e1,r⟩:=hl x av e
 exact⟨v,e1,s.val r⟩
theorem ey{L:Addr}(hL:L<h.objs.size)(sepL:∀i,i<σ.n→β i≠L)(s:ar w X frs h h' β β' σ σ'):∀i,i<σ'.n→β' i≠L:=λi hi=>by
 by_cases hl:i<σ.n
 ·rw[s.agree i hl]; exact sepL i hl
 ·exact Nat.ne_of_gt (lT0 hL (s.fresh i (Nat.not_lt.mp hl) hi))
theorem dA.lt{n:Nat}{L:Addr}{loc:ao}(l:dA h β n L loc):L<h.objs.size:=by
 obtain⟨m,⟨o,_,_,e,_⟩,_⟩:=l
 exact Heap.lt_size e
theorem St.step(hK:jU K)(S:St w K A frs env h β σ ev)(s:ar w (λ_=>False) frs h h' β β' σ σ'):St w K A frs env h' β' σ' ev where
 toSit:=S.toSit.step hK s
 eok:=S.eok
 loc:=S.loc.step S.rel S.sepL S.loL s
 sepL:=ey S.loc.lt S.sepL s
 loL:=S.loL
 cel:=S.cel.mono s.agree s.n
 hd:=S.hd
theorem aT.weaken{Y:Addr→Prop}(hY:∀a,X a→Y a)(s:aT w X frs h B h' β β' σ σ'):aT w Y frs h B h' β β' σ σ':=
 { s with keep:=λa o e x=>s.keep a o e λy=>x (hY a y),slots:=λenv he a o q e x=>s.slots env he a o q e λy=>x (hY a y) }
end
noncomputable def cS(c:Nat):Addr:=match c with
 |0=>52
 |_=>64
noncomputable def Fb(h B:Heap)(e:Addr)(cls a0:Value):Prop:=
 (∃oe vs,h.get? e=some oe∧oe.cls=cls∧oe.data = .fields vs∧vs[0]?=some a0∧vs[1]?=some .none)∨h.TracedW B e cls a0
section
variable (w:World)
noncomputable def d3(X:Addr→Prop)(frs:List Env)(h h':Heap)(β β':Nat→Addr)(σ σ':ac)(c:Nat)(e:Addr):Prop:=
 ∃B a0,aT w X frs h B h' β β' σ σ'∧B.StaysIn h'∧B.get? e=none∧h'.FunFrames B frs∧Fb h' B e (.ref (cS c)) a0
noncomputable abbrev co(α γ:Type):=Heap→(Nat→Addr)→Nat→α→γ→Prop
structure Post{α γ:Type}(os:OsState)(X:Addr→Prop)(frs:List Env)(h:Heap)(β:Nat→Addr)(σ:ac)(outs:List (ax α×ac))(R:co α γ)(Q:γ→Shared→Prop)(E:Value→Shared→Prop):Prop where
 ok:∀a σ',(ax.ok a,σ')∈outs→∀v β' h' tk,R h' β' σ'.n a v→ar w X frs h h' β β' σ σ'→Q v ⟨h',g,d,tk,os⟩
 exc:∀c σ',(ax.exc c,σ')∈outs→∀e β' h' tk,d3 w X frs h h' β β' σ σ' c e→E (.ref e) ⟨h',g,d,tk,os⟩
end
section
variable {α γ δ ε:Type}
noncomputable def Oq(f:α→ac→aj γ)(p:ax α×ac):aj γ:=ax.rec (motive:=λ_=>aj γ) (λa=>f a p.2) (λc=>some [(.exc c,p.2)]) p.1
theorem Dj{f:α→ac→aj γ}{p:ax α×ac}{r:List (ax α×ac)}{outs:List (ax γ×ac)}{C:Prop}(e:bindL f (p::r)=some outs)(k:∀l m,Oq f p=some l→bindL f r=some m→outs=l++m→C):C:=by
 obtain⟨x,σ⟩:=p
 cases x with
 |exc c=>
  rw[qI] at e
  cases q:bindL f r with
  |none=>rw[q] at e; exact al e
  |some l=>rw[q] at e; exact k [(.exc c,σ)] l rfl q (sI e).symm
 |ok a=>
  rw[kw] at e
  cases q:f a σ with
  |none=>rw[q] at e; exact al e
  |some l=>
   rw[q] at e
   cases r with
   |nil=>exact k l [] q rfl ((sI e).symm.trans (List.append_nil l).symm)
   |cons y r'=>
    cases q2:bindL f (y::r') with
    |none=>rw[q2] at e; exact al e
    |some m=>rw[q2] at e; exact k l m q q2 (sI e).symm
theorem oz{f:α→ac→aj γ}{l:List (ax α×ac)}{outs:List (ax γ×ac)}(e:bindL f l=some outs):∀p∈l,∃l',Oq f p=some l'∧∀x∈l',x∈outs:=by
 induction l generalizing outs with
 |nil=>exact λp hp=>nomatch hp
 |cons p r ih=>exact Dj e λl m q1 q2 z=>z▸λq hq=>(List.mem_cons.mp hq).elim (λy=>y▸⟨l,q1,λx hx=>List.mem_append_left _ hx⟩) λy=>(ih q2 q y).imp λl' w=>⟨w.1,λx hx=>List.mem_append_right _ (w.2 x hx)⟩
theorem bind_some{o:aj α}{f:α→ac→aj γ}{outs:List (ax γ×ac)}(e:bind o f=some outs) :
  ∃l,o=some l∧(∀a σ,(ax.ok a,σ)∈l→∃l',f a σ=some l'∧∀x∈l',x∈outs)∧(∀c σ,(ax.exc c,σ)∈l→(ax.exc c,σ)∈outs):=by
 cases o with
 |none=>exact al e
 |some l=>exact⟨l,rfl,λa σ hm=>oz e _ hm,λc σ hm=>(oz e _ hm).elim λl' z=>z.2 _ (sI z.1▸ .head _)⟩
variable {w:World}{os:OsState}{X Y:Addr→Prop}{frs:List Env}{h h' B:Heap}{β β':Nat→Addr}{σ σ':ac}{outs:List (ax γ×ac)}{R:co γ δ}{Q:δ→Shared→Prop}{E:Value→Shared→Prop}
theorem d3.after{h₀:Heap}{β₀:Nat→Addr}{σ₀:ac}{c:Nat}{e:Addr}(s:ar w X frs h₀ h β₀ β σ₀ σ)(t:d3 w X frs h h' β β' σ σ' c e):d3 w X frs h₀ h' β₀ β' σ₀ σ' c e:=by
 obtain⟨B,a0,s2,r⟩:=t
 exact⟨B,a0,s.trans s2,r⟩
theorem d3.weaken{c:Nat}{e:Addr}(hY:∀a,X a→Y a)(t:d3 w X frs h h' β β' σ σ' c e):d3 w Y frs h h' β β' σ σ' c e:=by
 obtain⟨B,a0,s2,r⟩:=t
 exact⟨B,a0,s2.weaken hY,r⟩
theorem Post.at{l:List (ax γ×ac)}(P:Post w os X frs h β σ outs R Q E)(s:ar w X frs h h' β β' σ σ')(hl:∀x∈l,x∈outs):Post w os X frs h' β' σ' l R Q E:=
 ⟨λa σ'' hm v β'' h'' tk hr s2=>P.ok a σ'' (hl _ hm) v β'' h'' tk hr (s.trans s2),λc σ'' hm e β'' h'' tk t=>P.exc c σ'' (hl _ hm) e β'' h'' tk (t.after s)⟩
theorem Post.weaken(hY:∀a,X a→Y a)(P:Post w os Y frs h β σ outs R Q E):Post w os X frs h β σ outs R Q E:=
 ⟨λa σ'' hm v β'' h'' tk hr s2=>P.ok a σ'' hm v β'' h'' tk hr (s2.weaken hY),λc σ'' hm e β'' h'' tk t=>P.exc c σ'' hm e β'' h'' tk (t.weaken hY)⟩
theorem Post.bind{R1:co α ε}{o:aj α}{f:α→ac→aj γ}(P:Post w os Y frs h β σ outs R Q E)(e:Mine.bind o f=some outs)(hY:∀a,X a→Y a:=by exact λ_ z=>z) :
  ∃l,o=some l∧∀Q1:ε→Shared→Prop,(∀a σ1 l',f a σ1=some l'→∀v1 β1 h1 tk1,R1 h1 β1 σ1.n a v1→ar w X frs h h1 β β1 σ σ1→Post w os Y frs h1 β1 σ1 l' R Q E→Q1 v1 ⟨h1,g,d,tk1,os⟩)→
   Post w os X frs h β σ l R1 Q1 E:=by
 obtain⟨l,e1,h1,h2⟩:=bind_some e
 refine⟨l,e1,λQ1 k=>⟨λa σ1 hm v1 β1 h1' tk1 hr s=>?_,λc σ1 hm x β1 h1' tk1 t=>P.exc c σ1 (h2 c σ1 hm) x β1 h1' tk1 (t.weaken hY)⟩⟩
 obtain⟨l',e',hs⟩:=h1 a σ1 hm
 exact k a σ1 l' e' v1 β1 h1' tk1 hr s (P.at (s.weaken hY) hs)
end
variable {w:World}{K:Frag}{A A':Around}{frs:List Env}{env:Env}{h':Heap}{β β':Nat→Addr}{σ σ' σ1 σ2:ac}{os:OsState}{tk n k i:Nat}{X:Addr→Prop}{E:Value→Shared→Prop}{va vb:Value}{s:Shared}{a b:AV}
noncomputable def jF(s:Str):Nat:=s.cps.foldl (λa c=>a * 1114113+(c+1)) 0
theorem vP:(di.map λs=>jF (Str.ofString s)).Pairwise (·≠·):=by decide +kernel
theorem qY:∀s∈di,jF (Str.ofString s)≠2000001∧(Str.ofString s).cps.all (· < 2000000)=true:=by decide +kernel
theorem f6{s:String}(h:di[k]?=some s):ae k=Str.ofString s:=by unfold ae; rw[h]
theorem fU(h:di[k]?=none):ae k=⟨#[2000000+k]⟩:=by unfold ae; rw[h]
theorem fb{j:Nat}(e:ae j=ae k):j=k:=by
 cases hj:di[j]? with
 |none=>
  cases hk:di[k]? with
  |none=>
   rw[fU hj,fU hk] at e
   have:=cA0 (λs:Str=>s.cps[0]?) e
   simp at this
   exact this
  |some t=>
   rw[fU hj,f6 hk] at e
   have:=(qY t (List.mem_of_getElem? hk)).2
   rw[←e] at this
   simp at this
   omega
 |some s=>
  cases hk:di[k]? with
  |none=>
   rw[f6 hj,fU hk] at e
   have:=(qY s (List.mem_of_getElem? hj)).2
   rw[e] at this
   simp at this
   omega
  |some t=>
   rw[f6 hj,f6 hk] at e
   apply Classical.byContradiction
   intro hne
   have key:∀{a b:Nat}{x y:String},di[a]?=some x→di[b]?=some y→a<b→jF (Str.ofString x)≠jF (Str.ofString y):=by
    intro a b x y ha hb hab
    have P:=List.pairwise_iff_getElem.mp vP
    obtain⟨la,ea⟩:=List.getElem?_eq_some_iff.mp ha
    obtain⟨lb,eb⟩:=List.getElem?_eq_some_iff.mp hb
    have:=P a b (by simpa using la) (by simpa using lb) hab
    simpa [ea,eb] using this
   rcases Nat.lt_or_gt_of_ne hne with q |q
   ·exact key hj hk q (cA0 jF e)
   ·exact key hk hj q (cA0 jF e.symm)
theorem lG(j k:Nat):(ae j == ae k)=Nat.beq j k:=by
 by_cases h:j=k
 ·subst h; rw[Nat.beq_refl]; exact beq_self_eq_true _
 ·rw[br h]; exact beq_eq_false_iff_ne.mpr λe=>h (fb e)
section
variable {h:Heap}
theorem bk{a:Addr}{xs:Array Value}(t:IsT h a xs n):h.IsTuple a xs:=⟨_,t,rfl,n,rfl⟩
noncomputable def NV(h:Heap)(β:Nat→Addr)(n:Nat)(x:AV)(v:Value):Prop:=match x with
 | .none=>v = .none
 | .bool b=>v = .bool b
 | .int i=>∃t,v = .int i t
 | .str k=>∃t,v = .str (ae k) t
 | .txt m=>∃s t,v = .str s t∧s.length≤m
 | .tup l=>∃(vs:List Value) (a:Addr) (ep:Nat),v = .ref a∧IsT h a vs.toArray ep∧ValsR h β n l vs∧∀i,i<n→β i≠a
 | .obj i=>i<n∧v = .ref (β i)
 | .g a=>v = .ref a
 | .b k=>v=l6 k
 | .tok k c=>∃x,bu k c=some x∧ak h β n x v
theorem ak.inv{x:AV}{v:Value}(r:ak h β n x v):NV h β n x v:=
 ak.casesOn (motive_1:=λx v _=>NV h β n x v) r rfl (λ_=>rfl) (λ_ t=>⟨t,rfl⟩) (λ_ t=>⟨t,rfl⟩) (λ_ s t hs=>⟨s,t,rfl,hs⟩) (λha ho hv=>⟨_,_,_,rfl,ha,hv,ho⟩) (λ_ hi=>⟨hi,rfl⟩) (λ_=>rfl) (λ_=>rfl) λhx hv=>⟨_,hx,hv⟩
section
variable {x:AV}{v:Value}{motive:Value→Prop}(r:ak h β n x v)
include r
@[elab_as_elim] theorem ak.iE {i:Int} (q:iV x=some i) (k:∀t,motive (.int i t)):motive v:=
 ak.casesOn (motive_1:=λx v _=>iV x=some i→motive v) r al (λ_=>al) (λ_ t q=>sI q▸k t) (λ_ _=>al) (λ_ _ _ _=>al) (λ_ _ _=>al) (λ_ _=>al) (λ_=>al) (λ_=>al) (λ_ _=>al) q
@[elab_as_elim] theorem ak.bE {i:Bool} (q:bV x=some i) (k:motive (.bool i)):motive v:=
 ak.casesOn (motive_1:=λx v _=>bV x=some i→motive v) r al (λ_ q=>sI q▸k) (λ_ _=>al) (λ_ _=>al) (λ_ _ _ _=>al) (λ_ _ _=>al) (λ_ _=>al) (λ_=>al) (λ_=>al) (λ_ _=>al) q
@[elab_as_elim] theorem ak.sE (q:sV x=some i) (k:∀t,motive (.str (ae i) t)):motive v:=
 ak.casesOn (motive_1:=λx v _=>sV x=some i→motive v) r al (λ_=>al) (λ_ _=>al) (λ_ t q=>sI q▸k t) (λ_ _ _ _=>al) (λ_ _ _=>al) (λ_ _=>al) (λ_=>al) (λ_=>al) (λ_ _=>al) q
@[elab_as_elim] theorem ak.tE {l:List AV} (q:tV x=some l) (k:∀(vs:List Value) a ep,IsT h a vs.toArray ep→(∀i,i<n→β i≠a)→ValsR h β n l vs→motive (.ref a)):motive v:=
 ak.casesOn (motive_1:=λx v _=>tV x=some l→motive v) r al (λ_=>al) (λ_ _=>al) (λ_ _=>al) (λ_ _ _ _=>al) (λha ho hv q=>k _ _ _ ha ho (sI q▸hv)) (λ_ _=>al) (λ_=>al) (λ_=>al) (λ_ _=>al) q
@[elab_as_elim] theorem ak.oE (q:oV x=some i) (k:i<n→motive (.ref (β i))):motive v:=
 ak.casesOn (motive_1:=λx v _=>oV x=some i→motive v) r al (λ_=>al) (λ_ _=>al) (λ_ _=>al) (λ_ _ _ _=>al) (λ_ _ _=>al) (λ_ hi q=>by have q:=sI q; subst q; exact k hi) (λ_=>al) (λ_=>al) (λ_ _=>al) q
end
@[elab_as_elim] theorem ValsR.nilE {n:Nat} {vs:List Value} {motive:List Value→Prop} (r:ValsR h β n [] vs) (k:motive []):motive vs:=
 ValsR.casesOn (motive_2:=λl vs _=>l=[]→motive vs) r (λ_=>k) (λ_ _=>nofun) rfl
@[elab_as_elim] theorem ValsR.consE {n:Nat} {x:AV} {l:List AV} {vs:List Value} {motive:List Value→Prop} (r:ValsR h β n (x::l) vs) (k:∀v us,ak h β n x v→ValsR h β n l us→motive (v::us)):motive vs:=
 ValsR.casesOn (motive_2:=λm vs _=>m=x::l→motive vs) r nofun (λhx hl q=>by injection q with q1 q2; exact k _ _ (q1▸hx) (q2▸hl)) rfl
theorem ValsR.at{l:List AV}{vs:List Value}(r:ValsR h β n l vs){j:Nat}{v:Value}(e:vs[j]?=some v):∃x,l[j]?=some x∧ak h β n x v:=by
 induction l generalizing vs j with
 |nil=>revert e; exact r.nilE al
 |cons x l ih=>
  revert e
  exact r.consE λu us hx hl=>match j with
   |0=>λe=>⟨x,rfl,sI e▸hx⟩
   |_+1=>ih hl
theorem ValsR.at'{l:List AV}{vs:List Value}(r:ValsR h β n l vs){j:Nat}{x:AV}(e:l[j]?=some x):∃v,vs[j]?=some v∧ak h β n x v:=by
 induction l generalizing vs j with
 |nil=>exact al e
 |cons y l ih=>
  revert e
  exact r.consE λu us hx hl=>match j with
   |0=>λe=>⟨u,rfl,sI e▸hx⟩
   |_+1=>ih hl
@[elab_as_elim] theorem one_el {n:Nat} {l:List AV} {vs:List Value} {motive:List Value→Prop} {x:AV} (r:ValsR h β n l vs) (q:one l=some x) (k:∀u,ak h β n x u→motive [u]):motive vs:=match l,q,r with
 |[_],q,r=>r.consE λu _ hx hl=>hl.nilE (k u ((sI q)▸hx))
 |[],q,_=>al q
 |_::_::_,q,_=>al q
@[elab_as_elim] theorem two_el {n:Nat} {l:List AV} {vs:List Value} {motive:List Value→Prop} {p:AV×AV} (r:ValsR h β n l vs) (q:fB l=some p) (k:∀u v,ak h β n p.1 u→ak h β n p.2 v→motive [u,v]):motive vs:=match l,q,r with
 |[x,y],q,r=>r.consE λu _ hx hl=>hl.consE λv _ hy hl=>hl.nilE (k u v (show ak h β n p.1 u from(sI q:(x,y)=p)▸hx) (show ak h β n p.2 v from(sI q:(x,y)=p)▸hy))
 |[],q,_=>al q
 |[_],q,_=>al q
 |_::_::_::_,q,_=>al q
theorem fk{o:Option ai}{l:List AV}(q:lO o=some l):o=some (.list l):=by
 cases o with
 |none=>exact al q
 |some o=>cases o with
  |list m=>exact cA0 (λl=>some (ai.list l)) (sI q)
  |_=>exact al q
theorem bN{o:Option ai}{l:List (AV×AV)}(q:dO o=some l):o=some (.dict l):=by
 cases o with
 |none=>exact al q
 |some o=>cases o with
  |dict m=>exact cA0 (λl=>some (ai.dict l)) (sI q)
  |_=>exact al q
theorem mw(R:bB w h β σ){l:List AV}(e:σ.get i=some (.list l)):∃(vs:List Value) (ep:Nat),IsL h (β i) vs.toArray ep∧ValsR h β σ.n l vs:=(R.obj i _ e).2
theorem bA(R:bB w h β σ){l:List AV}{P:Prop}(e:lO (σ.get i)=some l)(k:∀(vs:List Value)(ep:Nat),IsL h (β i) vs.toArray ep→ValsR h β σ.n l vs→P):P:=
 let ⟨vs,ep,a,b⟩:=mw R (fk e)
 k vs ep a b
inductive eF(h:Heap)(β:Nat→Addr)(n:Nat):VK→Value→Prop
 |none:eF h β n .none .none
 |bool (b:Bool):eF h β n (.bool b) (.bool b)
 |int (x:Int) (t:Tok):eF h β n (.int x) (.int x t)
 |str (k:Nat) (t:Tok):eF h β n (.str k) (.str (ae k) t)
 |tup {l:List AV} {vs:List Value} {a:Addr} {ep:Nat} (ha:IsT h a vs.toArray ep) (hv:ValsR h β n l vs):eF h β n (.tup l) (.ref a)
 |lst {i:Nat} {l:List AV} {vs:List Value} {ep:Nat} (ha:IsL h (β i) vs.toArray ep) (hv:ValsR h β n l vs):eF h β n (.lst i l) (.ref (β i))
theorem mx(R:bB w h β σ){v:Value}{x:VK}(e:vk σ a=some x)(r:ak h β σ.n a v):eF h β σ.n x v:=
 ak.casesOn (motive_1:=λa v _=>vk σ a=some x→eF h β σ.n x v) r (λe=>sI e▸ .none) (λb e=>sI e▸ .bool b) (λi t e=>sI e▸ .int i t) (λk t e=>sI e▸ .str k t) (λ_ _ _ _=>al)
  (λha _ hv e=>sI e▸ .tup ha hv) (λ_ _ e=>aa e λl q e=>bA R q λvs ep t hv=>sI e▸ .lst t hv) (λ_=>al) (λ_=>al) (λ_ _=>al) e
theorem hW{a:Addr}{xs ys:List Value}{m:Nat}{T U:Value}(x:h.get? a=some { cls:=T,data:= .seq xs.toArray n })(y:h.get? a=some { cls:=U,data:= .seq ys.toArray m }):T=U∧xs=ys:=by
 have:=sI (x.symm.trans y)
 injection this with q _ this
 injection this with this
 exact⟨q,List.toArray_inj this⟩
theorem tZ{f:AV→AV→Option Bool}(ih:∀(a b:AV)(v:Value)(p:Bool),f a b=some p→ak h β n a v→ak h β n b v→p=true){l m:List AV}{vs us:List Value}{p:Bool}(e:hU f l m=some p)(hl:ValsR h β n l vs)(hm:ValsR h β n m us)(q:vs=us):p=true:=by
 induction l generalizing m vs us p with
 |nil=>cases m with
  |nil=>exact(sI e).symm
  |cons y m=>revert q; exact hl.nilE (hm.consE λ_ _ _ _=>nofun)
 |cons x l il=>cases m with
  |nil=>revert q; exact hl.consE λ_ _ _ _=>hm.nilE nofun
  |cons y m=>
   revert q
   refine hl.consE λv vs hx hl=>hm.consE λu us hy hm q=>?_
   injection q with q1 q2
   exact aa e λa e1 e=>aa e λb e2 e=>(sI e).symm.trans ((congr (cA0 and (ih _ _ _ _ e1 hx (q1▸hy))) (il e2 hl hm q2)))
noncomputable def I1(h:Heap)(β:Nat→Addr)(n:Nat)(y:VK):Value→Prop
 | .none=>y = .none
 | .bool b=>y = .bool b
 | .int x _=>y = .int x
 | .str s _=>∃k,y = .str k∧s=ae k
 | .ref a=>(∃l vs ep,y = .tup l∧IsT h a (List.toArray vs) ep∧ValsR h β n l vs)∨∃i l vs ep,y = .lst i l∧IsL h a (List.toArray vs) ep∧ValsR h β n l vs
 |_=>False
theorem eF.kOf{y:VK}{v:Value}(r:eF h β n y v):I1 h β n y v:=
 eF.casesOn (motive:=λy v _=>I1 h β n y v) r rfl (λ_=>rfl) (λ_ _=>rfl) (λk _=>⟨k,rfl,rfl⟩) (λha hv=> .inl ⟨_,_,_,rfl,ha,hv⟩) λha hv=> .inr ⟨_,_,_,_,rfl,ha,hv⟩
theorem CW{f:AV→AV→Option Bool}(ih:∀(a b:AV)(v:Value)(p:Bool),f a b=some p→ak h β n a v→ak h β n b v→p=true){x y:VK}{v:Value}{p:Bool}(e:eM f x y=some p)(rx:eF h β n x v)(ry:eF h β n y v):p=true:=
 eF.casesOn (motive:=λx v _=>eM f x y=some p→I1 h β n y v→p=true) rx (λe (q:y = .none)=>(sI (q▸e:eM f .none .none=some p)).symm) (λb e (q:y = .bool b)=>(sI (q▸e:eM f (.bool b) (.bool b)=some p)).symm.trans (beq_self_eq_true b))
  (λi t e (q:y = .int i)=>(sI (q▸e:eM f (.int i) (.int i)=some p)).symm.trans (decide_eq_true rfl)) (λk t e ⟨j,q,q2⟩=>(sI (q▸e:eM f (.str k) (.str j)=some p)).symm.trans (fb q2▸Nat.beq_refl k))
  (λ{l'} _ _ _ ha hv e q=>q.elim (λ⟨l,vs,ep,q,hb,hu⟩=>tZ ih (q▸e:eM f (.tup l') (.tup l)=some p) hv hu (hW ha hb).2) λ⟨_,_,_,_,_,hb,_⟩=>nomatch (hW ha hb).1)
  (λ{i' l'} _ _ ha hv e q=>q.elim (λ⟨_,_,_,_,hb,_⟩=>nomatch (hW ha hb).1) λ⟨j,l,vs,ep,q,hb,hu⟩=>tZ ih (q▸e:eM f (.lst i' l') (.lst j l)=some p) hv hu (hW ha hb).2) e ry.kOf
theorem CD(R:bB w h β σ):∀(k:Nat)(a b:AV)(v:Value)(p:Bool),eqv σ k a b=some p→ak h β σ.n a v→ak h β σ.n b v→p=true:=by
 intro k
 induction k with
 |zero=>intro a b v p e; exact al e
 |succ k ih=>exact λa b v p e ha hb=>aa e λx qx e=>aa e λy qy e=>CW ih e (mx R qx ha) (mx R qy hb)
theorem qC{f:AV→AV→Option Bool}(ih:∀(a b:AV)(va vb:Value)(p:Bool),f a b=some p→ak s.heap β σ.n a va→ak s.heap β σ.n b vb→EqAt A s va vb p){l m:List AV}{vs us:List Value}{p:Bool}
  (e:hU f l m=some p) (hl:ValsR s.heap β σ.n l vs) (hm:ValsR s.heap β σ.n m us):∃F:Nat→Bool,(∀(j:Nat)(a1:j<vs.length)(a2:j<us.length),EqAt A s vs[j] us[j] (F j))∧(vs.length=us.length→(List.range vs.length).all F=p)∧(vs.length≠us.length→p=false):=by
 induction l generalizing m vs us p with
 |nil=>
  refine hl.nilE ?_
  cases m with
  |nil=>exact hm.nilE ⟨λ_=>true,λj a1=>absurd a1 (Nat.not_lt_zero j),λ_=>sI e,λh=>absurd rfl h⟩
  |cons=>exact hm.consE λ_ _ _ _=>⟨λ_=>true,λj a1=>absurd a1 (Nat.not_lt_zero j),(nomatch ·),λ_=>(sI e).symm⟩
 |cons x l il=>
  refine hl.consE λv vs hx hl=>?_
  cases m with
  |nil=>exact hm.nilE ⟨λ_=>true,λj _ a2=>absurd a2 (Nat.not_lt_zero j),(nomatch ·),λ_=>(sI e).symm⟩
  |cons y m=>
   refine hm.consE λu us hy hm=>aa e λa q1 e=>aa e λb q2 e=>?_
   obtain⟨F,h1,h2,h3⟩:=il q2 hl hm
   refine⟨Nat.rec (motive:=λ_=>Bool) a λj _=>F j,λj=>match j with
    |0=>λ_ _=>ih _ _ _ _ _ q1 hx hy
    |j+1=>λa1 a2=>h1 j (Nat.lt_of_succ_lt_succ a1) (Nat.lt_of_succ_lt_succ a2),λh=>?_,λh=>(sI e).symm.trans ((cA0 (and a) (h3 λq=>h (cA0 Nat.succ q))).trans (Bool.and_false a))⟩
   rw[←sI e,←h2 (Nat.succ.inj h),List.length_cons,List.range_succ_eq_map,List.all_cons,List.all_map]; rfl
noncomputable def kS(A:Around)(s:Shared)(va vb:Value)(p:Bool):Prop:=EqAt A s va vb p∧RcAt A s va vb p∧RcNeAt A s va vb (!p)
theorem wE{x y:Addr}{p:Bool}(same:Value.ref x = .ref y→p=true)(r:RcAt A s (.ref x) (.ref y) p∧RcNeAt A s (.ref x) (.ref y) (!p)):kS A s (.ref x) (.ref y) p:=by
 refine⟨?_,r⟩
 by_cases hxy:x=y
 ·subst hxy
  rw[same rfl]
  exact EqAt.same _
 ·exact EqAt.of_refs hxy r.1
theorem DV{f:AV→AV→Option Bool}(hu:A.units<cLine)(ih:∀(a b:AV)(va vb:Value)(p:Bool),f a b=some p→ak s.heap β σ.n a va→ak s.heap β σ.n b vb→EqAt A.in1 s va vb p){l m:List AV}{vs us:List Value}{x y:Addr}{ep ep':Nat}{p:Bool}
  (e:hU f l m=some p) (hx:IsT s.heap x vs.toArray ep) (hy:IsT s.heap y us.toArray ep') (hl:ValsR s.heap β σ.n l vs) (hm:ValsR s.heap β σ.n m us):RcAt A s (.ref x) (.ref y) p∧RcNeAt A s (.ref x) (.ref y) (!p):=by
 obtain⟨F,h1,h2,h3⟩:=qC ih e hl hm
 have hp:((List.range (min vs.toArray.size us.toArray.size)).all F&&vs.toArray.size == us.toArray.size)=p:=by
  rw[List.size_toArray,List.size_toArray]
  by_cases q:vs.length=us.length
  ·rw[←q,Nat.min_self,beq_self_eq_true,Bool.and_true,h2 q]
  ·rw[h3 q,beq_eq_false_iff_ne.mpr q,Bool.and_false]
 exact hp▸⟨RcAt.tuples (bk hx) (bk hy) hu h1,RcNeAt.tuples (bk hx) (bk hy) hu h1⟩
theorem Bu{f:AV→AV→Option Bool}(hu:A.units<cLine)(ih:∀(a b:AV)(va vb:Value)(p:Bool),f a b=some p→ak s.heap β σ.n a va→ak s.heap β σ.n b vb→EqAt A.in1 s va vb p){l m:List AV}{vs us:List Value}{x y:Addr}{ep ep':Nat}{p:Bool}
  (e:hU f l m=some p) (hx:IsL s.heap x vs.toArray ep) (hy:IsL s.heap y us.toArray ep') (hl:ValsR s.heap β σ.n l vs) (hm:ValsR s.heap β σ.n m us):RcAt A s (.ref x) (.ref y) p∧RcNeAt A s (.ref x) (.ref y) (!p):=by
 obtain⟨F,h1,h2,h3⟩:=qC ih e hl hm
 by_cases q:vs.length=us.length
 ·exact h2 q▸⟨RcAt.lists hx.isList hy.isList q hu h1,RcNeAt.lists hx.isList hy.isList q hu h1⟩
 ·have hn:(vs.toArray.size != us.toArray.size)=true:=bne_iff_ne.mpr q
  exact h3 q▸⟨RcAt.lists_lengths hx.isList hy.isList hn hu,RcNeAt.lists_lengths hx.isList hy.isList hn hu⟩
theorem bY{c p:Bool}{S:Prop}(h:kS A s va vb c)(_:S)(e:some c=some p):kS A s va vb p:=sI e▸h
theorem H0{f:AV→AV→Option Bool}(hu:A.units<cLine)(ih:∀(a b:AV)(va vb:Value)(p:Bool),f a b=some p→ak s.heap β σ.n a va→ak s.heap β σ.n b vb→EqAt A.in1 s va vb p)
  {x y:VK} {va vb:Value} {p:Bool} (e:eM f x y=some p) (same:va=vb→p=true) (rx:eF s.heap β σ.n x va) (ry:eF s.heap β σ.n y vb):kS A s va vb p:=
 eF.casesOn (motive:=λx va _=>(va=vb→p=true)→eM f x y=some p→kS A s va vb p) rx
  (eF.casesOn (motive:=λy vb _=>(.none=vb→p=true)→eM f .none y=some p→kS A s .none vb p) ry (bY ⟨EqAt.same _,RcAt.none_none,RcNeAt.none_none⟩) (λ_=>bY ⟨EqAt.none_bool _,RcAt.none_bool _,RcNeAt.none_bool _⟩) (λ_ _=>bY ⟨EqAt.none_int _ _,RcAt.none_int _ _,RcNeAt.none_int _ _⟩) (λ_ _=>bY ⟨EqAt.none_str _ _,RcAt.none_str _ _,RcNeAt.none_str _ _⟩) (λha _=>bY ⟨EqAt.none_tuple (bk ha) hu,RcAt.none_tuple (bk ha) hu,RcNeAt.none_tuple (bk ha) hu⟩) (λ_ _ _=>al))
  (λb=>eF.casesOn (motive:=λy vb _=>((.bool b)=vb→p=true)→eM f (.bool b) y=some p→kS A s (.bool b) vb p) ry (bY ⟨EqAt.bool_none _,RcAt.bool_none _,RcNeAt.bool_none _⟩) (λ_=>bY ⟨EqAt.bool_bool _ _,RcAt.bool_bool _ _,RcNeAt.bool_bool _ _⟩) (λ_ _ _=>al) (λ_ _=>bY ⟨EqAt.bool_str _ _ _,RcAt.bool_str _ _ _,RcNeAt.bool_str _ _ _⟩) (λha _=>bY ⟨EqAt.bool_tuple _ (bk ha) hu,RcAt.bool_tuple _ (bk ha) hu,RcNeAt.bool_tuple _ (bk ha) hu⟩) (λha _=>bY ⟨EqAt.bool_list _ ha.isList hu,RcAt.bool_list _ ha.isList hu,RcNeAt.bool_list _ ha.isList hu⟩))
  (λi t=>eF.casesOn (motive:=λy vb _=>((.int i t)=vb→p=true)→eM f (.int i) y=some p→kS A s (.int i t) vb p) ry (bY ⟨EqAt.int_none _ _,RcAt.int_none _ _,RcNeAt.int_none _ _⟩) (λ_ _=>al) (λ_ _=>bY ⟨EqAt.int_int _ _ _ _,RcAt.int_int _ _ _ _,RcNeAt.int_int _ _ _ _⟩) (λ_ _ _=>al) (λ_ _ _=>al) (λ_ _ _=>al))
  (λk t=>eF.casesOn (motive:=λy vb _=>((.str (ae k) t)=vb→p=true)→eM f (.str k) y=some p→kS A s (.str (ae k) t) vb p) ry (bY ⟨EqAt.str_none _ _,RcAt.str_none _ _,RcNeAt.str_none _ _⟩) (λ_=>bY ⟨EqAt.str_bool _ _ _,RcAt.str_bool _ _ _,RcNeAt.str_bool _ _ _⟩) (λ_ _ _=>al) (λj _=>bY (lG k j▸⟨EqAt.str_str _ _ _ _,RcAt.str_str _ _ _ _,RcNeAt.str_str _ _ _ _⟩)) (λha _=>bY ⟨EqAt.str_tuple _ _ (bk ha) hu,RcAt.str_tuple _ _ (bk ha) hu,RcNeAt.str_tuple _ _ (bk ha) hu⟩) (λha _=>bY ⟨EqAt.str_list _ _ ha.isList hu,RcAt.str_list _ _ ha.isList hu,RcNeAt.str_list _ _ ha.isList hu⟩))
  (λ{l us a ep} hx hl=>eF.casesOn (motive:=λy vb _=>((.ref a)=vb→p=true)→eM f (.tup l) y=some p→kS A s (.ref a) vb p) ry (bY ⟨EqAt.tuple_none (bk hx) hu,RcAt.tuple_none (bk hx) hu,RcNeAt.tuple_none (bk hx) hu⟩) (λ_=>bY ⟨EqAt.tuple_bool _ (bk hx) hu,RcAt.tuple_bool _ (bk hx) hu,RcNeAt.tuple_bool _ (bk hx) hu⟩) (λ_ _ _=>al) (λ_ _=>bY ⟨EqAt.tuple_str _ _ (bk hx) hu,RcAt.tuple_str _ _ (bk hx) hu,RcNeAt.tuple_str _ _ (bk hx) hu⟩) (λhy hm same e=>wE same (DV hu ih e hx hy hl hm)) (λha _=>bY ⟨EqAt.tuple_list (bk hx) ha.isList hu,RcAt.tuple_list (bk hx) ha.isList hu,RcNeAt.tuple_list (bk hx) ha.isList hu⟩))
  (λ{i l us ep} hx hl=>eF.casesOn (motive:=λy vb _=>((.ref (β i))=vb→p=true)→eM f (.lst i l) y=some p→kS A s (.ref (β i)) vb p) ry (λ_=>al) (λ_=>bY ⟨EqAt.list_bool _ hx.isList hu,RcAt.list_bool _ hx.isList hu,RcNeAt.list_bool _ hx.isList hu⟩) (λ_ _ _=>al) (λ_ _=>bY ⟨EqAt.list_str _ _ hx.isList hu,RcAt.list_str _ _ hx.isList hu,RcNeAt.list_str _ _ hx.isList hu⟩) (λha _=>bY ⟨EqAt.list_tuple hx.isList (bk ha) hu,RcAt.list_tuple hx.isList (bk ha) hu,RcNeAt.list_tuple hx.isList (bk ha) hu⟩) (λhy hm same e=>wE same (Bu hu ih e hx hy hl hm)))
  same e
theorem kY(R:bB w s.heap β σ):∀(k:Nat)(A:Around)(a b:AV)(va vb:Value)(p:Bool),A.units+k<cLine→eqv σ k a b=some p→ak s.heap β σ.n a va→ak s.heap β σ.n b vb→kS A s va vb p:=by
 intro k
 induction k with
 |zero=>intro A a b va vb p _ e; exact al e
 |succ k ih=>
  exact λA a b va vb p hu e0 ha hb=>aa e0 λx qx e=>aa e λy qy e=>
   H0 (Nat.lt_of_le_of_lt (Nat.le_add_right _ _) hu) (λa b va vb p e ha hb=>(ih A.in1 a b va vb p (by rw[show A.in1.units=A.units+1 from rfl,Nat.add_right_comm]; exact hu) e ha hb).1) e
    (λq=>CD R (k+1) a b va p e0 ha (q▸hb)) (mx R qx ha) (mx R qy hb)
end
noncomputable abbrev bO:co AV Value:=λh β n a v=>ak h β n a v
noncomputable abbrev mG:co (List AV) (List Value):=λh β n a v=>ValsR h β n a v
noncomputable abbrev jZ:co Bool Bool:=λ_ _ _ a v=>v=a
theorem aM{α:Type}:∀l:List α,len l=l.length
 |[]=>rfl
 |_::l=>by rw[List.length_cons,←aM l]; rfl
theorem iw(h:bc n=true):n≤4000:=lB0 h
theorem yw:∀s∈di,(Str.ofString s).length≤50:=by decide +kernel
theorem ma(k:Nat):(ae k).length≤50:=by
 cases h:di[k]? with
 |none=>rw[fU h]; show(#[2000000+k]:Array Nat).size≤50; simp
 |some s=>rw[f6 h]; exact yw s (List.mem_of_getElem? h)
section
variable {h:Heap}{Q:Value→Shared→Prop}{outs:List (ax AV×ac)}
theorem ValsR.append{l m:List AV}{vs us:List Value}(r:ValsR h β n l vs)(q:ValsR h β n m us):ValsR h β n (l++m) (vs++us):=by
 induction l generalizing vs with
 |nil=>exact r.nilE q
 |cons x l ih=>exact r.consE λv us hx hl=> .cons hx (ih hl)
theorem Post.eq{α γ:Type}{R:co α γ}{Q:γ→Shared→Prop}{outs l:List (ax α×ac)}(P:Post w os X frs h β σ outs R Q E)(e:some l=some outs):Post w os X frs h β σ l R Q E:=sI e▸P
theorem Post.same{α γ:Type}{R:co α γ}{Q:γ→Shared→Prop}{a:α}{v:γ}(S:Sit w K A frs h β σ)(hr:R h β σ.n a v)(P:Post w os X frs h β σ [(.ok a,σ)] R Q E):Q v ⟨h,g,d,tk,os⟩:=
 P.ok a σ (.head _) v β h tk hr (ar.refl S.rel S.tab)
theorem Gs{xs:Array Value}{ep:Nat}:¬IsT h h.objs.size xs ep:=λz=>absurd (Heap.lt_size z) (Nat.lt_irrefl _)
theorem Bl{l:List AV}{vs:List Value}{o:Obj}(hv:ValsR h β σ.n l vs):ValsR (h.push o) (ext β σ.n h.objs.size) (σ.n+1) l vs:=
 hv.mono (λ_ _ _ _ e=>Heap.get?_push_of_some _ e) (λi hi=>bX hi) (Nat.le_succ _) (e9 λ_ _=>Gs)
theorem Post.sameE{α γ:Type}{R:co α γ}{Q:γ→Shared→Prop}{outs:List (ax α×ac)}{a:α}{v:γ}(P:Post w os X frs h β σ outs R Q E)(e:af a σ=some outs)(S:Sit w K A frs h β σ)(hr:R h β σ.n a v):Q v ⟨h,g,d,tk,os⟩:=(P.eq e).same S hr
theorem Post.list{l:List AV}{vs:List Value}(S:Sit w K A frs h β σ)(hv:ValsR h β σ.n l vs)(P:Post w os X frs h β σ [(.ok (.obj σ.n),σ.push (.list l))] bO Q E) :
  Q (.ref h.objs.size) ⟨h.push { cls:= .type "list",data:= .seq vs.toArray },g,d,tk,os⟩:=by
 refine P.ok _ _ (.head _) _ (ext β σ.n h.objs.size) _ tk ?_ (ar.alloc S.rel S.tab S.big ⟨vs,0,IsL.new h vs.toArray,Bl hv⟩)
 have:=ak.obj (h:=h.push { cls:= .type "list",data:= .seq vs.toArray }) (β:=ext β σ.n h.objs.size) (n:=σ.n+1) σ.n (Nat.lt_succ_self _)
 rwa [ci] at this
theorem Post.tup{l:List AV}{vs:List Value}(S:Sit w K A frs h β σ)(hv:ValsR h β σ.n l vs)(P:Post w os X frs h β σ [(.ok (.tup l),σ)] bO Q E) :
  Q (.ref h.objs.size) ⟨h.push { cls:= .type "tuple",data:= .seq vs.toArray },g,d,tk,os⟩:=by
 have k:∀a o,h.get? a=some o→(h.push { cls:= .type "tuple",data:= .seq vs.toArray }).get? a=some o:=λa o e=>Heap.get?_push_of_some _ e
 refine P.ok _ _ (.head _) _ β _ tk (.tup (IsT.new h vs.toArray) (λi hi=>Nat.ne_of_lt (S.rel.lo i hi).2) (hv.mono (λ_ _ _ _ e=>k _ _ e) (λ_ _=>rfl) (Nat.le_refl _))) (ar.grow (by rw[Heap.size_push]; exact Nat.le_succ _) k S.rel S.tab)
@[elab_as_elim] theorem txtN_el {n:Nat} {a:AV} {v:Value} {motive:Value→Prop} (e:xh a=some n) (r:ak h β σ.n a v) (k:∀s t,Str.length s≤n→motive (.str s t)):motive v:=
 ak.casesOn (motive_1:=λa v _=>xh a=some n→motive v) r al (λ_=>al) (λ_ _=>al) (λj t q=>k _ t (sI q▸ma j)) (λ_ s t hs q=>k s t (sI q▸hs)) (λ_ _ _=>al) (λ_ _=>al) (λ_=>al) (λ_=>al) (λ_ _=>al) e
theorem xM{t b:Addr}{items items2:Array Value}{n2:Nat}(ht:IsT s.heap t items n)(hb:IsT s.heap b items2 n2)(h1:items.isEmpty=true)(h:Q (.ref b) s):wpAny (model ad w) A (binaryOp .Add (.ref t) (.ref b)) Q E s:=
 concat_meets ⟨_,ht,rfl⟩ ⟨_,hb,rfl⟩ noFill_tuple_add seq_tuple_add F.slot_tuple_add F.entry_tuple_add (F.args_tuple_add_2 _ _) (tuple_addW0 t b items items2 n n2 none none #[] #[] h1) ⟨ht,hb,h⟩
theorem xZ{t b:Addr}{items items2:Array Value}{n2:Nat}(ht:IsT s.heap t items n)(hb:IsT s.heap b items2 n2)(h1:¬items.isEmpty=true)(h2:items2.isEmpty=true)(h:Q (.ref t) s):wpAny (model ad w) A (binaryOp .Add (.ref t) (.ref b)) Q E s:=
 concat_meets ⟨_,ht,rfl⟩ ⟨_,hb,rfl⟩ noFill_tuple_add seq_tuple_add F.slot_tuple_add F.entry_tuple_add (F.args_tuple_add_2 _ _) (tuple_addW1 t b items items2 n n2 none none #[] #[] h1 h2) ⟨ht,hb,h⟩
theorem Bo{l:Addr}{items:Array Value}{x:Int}{u:Tok}(hl:IsL s.heap l items k)(hlo : -(2 ^ 63:Int)≤x)(hhi:x<2 ^ 63)(hsz:items.size * x.toNat≤2 ^ 24)
  (h:Q (.ref s.heap.objs.size) { s with heap:=s.heap.push { cls:= .type "list",data:= .seq (List.foldl (λx1 x2=>x1++x2) #[] (List.replicate (if items.isEmpty=true then 0 else x.toNat) items)) } }) :
  wpAny (model ad w) A (binaryOp .Mult (.ref l) (.int x u)) Q E s:=
 wpAny_binaryOp_repeat_ref (T:="list") (U:="int") (by decide) ⟨_,hl,rfl⟩ (λs'=>typeIs_int s' x u) noFill_list_mul F.fills_int_mul F.slot_int_rmul repeat_list F.slot_int_index.lookup
  (call_meets F.slot_int_rmul (typeIs_int s x u) F.entry_int_rmul (F.args_int_rmul_2 _ _) (int___rmul___int_list x u l items k)
   ⟨hl,rfl,⟨_,hl,rfl⟩,call_meets F.slot_list_mul ⟨_,hl,rfl⟩ F.entry_list_mul (F.args_list_mul_2 _ _)
    (AutoListH.list___mul___list_int_3 l items k x u (by simp[Builtin.List.listFitsIndex]; omega) (by omega) (by simp[Builtin.List.listTooLong,sizeLine]; omega))
    ⟨hl,h⟩⟩)
theorem sd(vs:List Value):∀(k:Nat)(acc:List Value),List.foldl (λx1 x2=>x1++x2) acc.toArray (List.replicate k vs.toArray)=(acc++(List.replicate k vs).flatten).toArray
 |0,acc=>by simp
 |k+1,acc=>by
  rw[List.replicate_succ,List.foldl_cons,List.append_toArray,sd vs k (acc++vs),List.replicate_succ,List.flatten_cons,List.append_assoc]
theorem uQ{l:List AV}{vs:List Value}(hv:ValsR h β n l vs):∀k:Nat,ValsR h β n (List.replicate k l).flatten (List.replicate k vs).flatten
 |0=> .nil
 |k+1=>by rw[List.replicate_succ,List.replicate_succ,List.flatten_cons,List.flatten_cons]; exact hv.append (uQ hv k)
theorem Ag(h:0<k):Int.ofNat k≠0:=λz=>absurd (Int.ofNat.inj z) (Nat.ne_of_gt h)
theorem JI(h:0<k)(q:k≤4294967296):(Int.ofNat k).natAbs.log2<9000:=Nat.lt_trans ((Nat.log2_lt (Nat.ne_of_gt h)).mpr (Nat.lt_of_le_of_lt q (by decide:_<2 ^ 33))) (by decide)
theorem rR{z:Int}(hz:lU z=true) : -(2 ^ 64:Int)<z∧z<2 ^ 64:=by
 cases z with
 |ofNat n=>have:=lB0 hz; constructor <;> simp <;> omega
 |negSucc n=>have:=lB0 hz; constructor <;> omega
theorem oF{z:Int}(q:gB z=true):lU z=true:=by
 cases z with
 |ofNat n=>exact Nat.ble_eq_true_of_le (lE0 (lB0 q) (by decide))
 |negSucc n=>exact Nat.ble_eq_true_of_le (lE0 (lB0 q) (by decide))
theorem Nc{x y:Int}(q:(gB y||lU x)=true):PySem.IntMulOk x y:=(Bool.or_eq_true_iff.mp q).elim (λq=> .of_right (PySem.intBits_le_64 (rR (oF q)).1 (rR (oF q)).2)) λq=> .of_left (PySem.intBits_le_64 (rR q).1 (rR q).2)
theorem AF{x y:Int}(q:Fh x y=true):x=10∧y=18:=match x,y,q with
 | .ofNat _, .ofNat _,q=>aw q λq1 q2=>⟨cA0 Int.ofNat (eB0 q1),cA0 Int.ofNat (eB0 q2)⟩
theorem lJ{x:Int}(q:yK x=some k):x = .ofNat k:=match x,q with
 | .ofNat _,q=>cA0 Int.ofNat (sI q)
@[elab_as_elim] theorem ak.nE {n k:Nat} {x:AV} {v:Value} {motive:Value→Prop} (r:ak h β n x v) (q:nV x=some k) (f:∀t,motive (.int (.ofNat k) t)):motive v:=aa q λ_ q1 q2=>r.iE (lJ q2▸q1) f
theorem un{l m:List AV}{vs us:List Value}(q:bc (len l+len m)=true)(hl:ValsR h β n l vs)(hm:ValsR h β n m us):vs.length+us.length≤4000:=by
 have q:=iw q
 rw[aM,aM,hl.length,hm.length] at q
 exact q
theorem eR{l:List AV}{vs:List Value}(q:bc (len l)=true)(hl:ValsR h β n l vs):vs.length≤4000:=by
 have q:=iw q
 rw[aM,hl.length] at q
 exact q
theorem yP{vs us:List Value}(q:vs.length+us.length≤4000):vs.toArray.size+us.toArray.size≤sizeLine:=lE0 q (by rw[sizeLine_eq]; decide)
theorem JF(vs:List Value)(k:Nat):List.foldl (λx1 x2=>x1++x2) #[] (List.replicate (if vs.toArray.isEmpty=true then 0 else(Int.ofNat k).toNat) vs.toArray)=((List.replicate k vs).flatten).toArray:=by
 cases vs with
 |nil=>simp
 |cons v r=>rw[if_neg (by simp)]; have:=sd (v::r) k []; simpa using this
theorem nT{l:List AV}{vs:List Value}(q:(bc (len l * k)&&bc k)=true)(hl:ValsR h β n l vs) : -(2 ^ 63:Int)≤ .ofNat k∧Int.ofNat k<2 ^ 63∧vs.toArray.size * (Int.ofNat k).toNat≤2 ^ 24:=aw q λq q'=>by
 have q:=iw q
 have q':=iw q'
 rw[aM,hl.length] at q
 have:(Int.ofNat k)=(k:Int):=rfl
 exact⟨by omega,by omega,lE0 q (by decide)⟩
theorem jX{v:Value}{r:List Value}:¬(v::r).toArray.isEmpty=true:=by simp
theorem CJ{l m:List AV}{vs us:List Value}{x y:Addr}{ep ep':Nat}(S:Sit w K A frs h β σ)(q:vs.length+us.length≤4000)(hx:IsT h x vs.toArray ep)(hy:IsT h y us.toArray ep')(hl:ValsR h β σ.n l vs)(hm:ValsR h β σ.n m us)(ra:ak h β σ.n (.tup l) (.ref x))(rb:ak h β σ.n (.tup m) (.ref y))
  (P:Post w os X frs h β σ [(.ok (.tup (l++m)),σ)] bO Q E):wpAny (model ad w) A (binaryOp .Add (.ref x) (.ref y)) Q E ⟨h,g,d,tk,os⟩:=by
 cases vs with
 |nil=>cases l with
  |nil=>exact xM hx hy rfl (P.same S rb)
  |cons=>exact nomatch hl.length
 |cons v vs=>cases us with
  |nil=>cases m with
   |nil=>exact xZ hx hy jX rfl (P.same S (by rw[List.append_nil]; exact ra))
   |cons=>exact nomatch hm.length
  |cons u us=>exact PySem.P.add_tuple hx hy jX jX (List.append_toArray ..▸P.tup S (hl.append hm)) (yP q)
section
variable (S:Sit w K A frs h β σ)(ra:ak h β σ.n a va)(rb:ak h β σ.n b vb)(P:Post w os X frs h β σ outs bO Q E)
include S ra rb P
theorem Li(e:Ls a b σ=some outs):wpAny (model ad w) A (binaryOp .Add va vb) Q E ⟨h,g,d,tk,os⟩:=
 aa e λ_ qa e=>aa e λ_ qb e=>ra.iE qa λ_=>rb.iE qb λ_=>PySem.P.add_int (P.sameE e S (.int _ _))
theorem Id(e:KB a b σ=some outs):wpAny (model ad w) A (binaryOp .Add va vb) Q E ⟨h,g,d,tk,os⟩:=
 aa e λ_ qa e=>aa e λ_ qb e=>ay e λq e=>ra.tE qa λ_ _ _ hx ho hl=>rb.tE qb λ_ _ _ hy ho' hm=>CJ S (un q hl hm) hx hy hl hm (.tup hx ho hl) (.tup hy ho' hm) (P.eq e)
theorem IQ(e:JT a b σ=some outs):wpAny (model ad w) A (binaryOp .Add va vb) Q E ⟨h,g,d,tk,os⟩:=
 aa e λ_ qa e=>aa e λ_ qb e=>aa e λ_ q1 e=>aa e λ_ q2 e=>ay e λq e=>ra.oE qa λ_=>rb.oE qb λ_=>bA S.rel q1 λ_ _ hx hl=>bA S.rel q2 λ_ _ hy hm=>
  PySem.P.add_list hx hy (List.append_toArray ..▸(P.eq e).list S (hl.append hm)) (yP (un q hl hm))
theorem H7(e:La a b σ=some outs):wpAny (model ad w) A (binaryOp .Add va vb) Q E ⟨h,g,d,tk,os⟩:=
 aa e λ_ qa e=>aa e λ_ qb e=>ay e λq e=>txtN_el qa ra λ_ _ hs=>txtN_el qb rb λ_ _ hs'=>
  PyProof.Rows.add_str (λ_ _=>P.sameE e S (.txt _ _ _ (by rw[Str.length_append]; exact Nat.add_le_add hs hs'))) (lE0 (Nat.add_le_add hs hs') (lE0 (lB0 q) (by rw[sizeLine_eq]; decide)))
theorem LO(e:Jt a b σ=some outs):wpAny (model ad w) A (binaryOp .Sub va vb) Q E ⟨h,g,d,tk,os⟩:=
 aa e λ_ qa e=>aa e λ_ qb e=>ra.iE qa λ_=>rb.iE qb λ_=>PySem.P.sub_int (P.sameE e S (.int _ _))
theorem Ka(e:HW a b σ=some outs):wpAny (model ad w) A (binaryOp .Mult va vb) Q E ⟨h,g,d,tk,os⟩:=
 aa e λ_ qa e=>aa e λ_ qb e=>ay e λq e=>ra.iE qa λ_=>rb.iE qb λ_=>PySem.P.mul_int (P.sameE e S (.int _ _)) (Nc q)
theorem IB(e:IC a b σ=some outs):wpAny (model ad w) A (binaryOp .Mult va vb) Q E ⟨h,g,d,tk,os⟩:=
 aa e λ_ qa e=>aa e λk qb e=>aa e λ_ q1 e=>ay e λq e=>ra.oE qa λ_=>rb.nE qb λ_=>bA S.rel q1 λvs _ hx hl=>
  Bo hx (nT q hl).1 (nT q hl).2.1 (nT q hl).2.2 (JF vs k▸(P.eq e).list S (uQ hl k))
theorem HN(e:LC a b σ=some outs):wpAny (model ad w) A (binaryOp .Mod va vb) Q E ⟨h,g,d,tk,os⟩:=
 aa e λ_ qa e=>aa e λk qb e=>ay e λq e=>ra.iE qa λ_=>rb.nE qb λ_=>
  PyProof.Rows.mod_int (Ag (lB0 q)) (Int.fmod_eq_emod_of_nonneg _ (Int.natCast_nonneg k)▸P.sameE e S (.int _ _))
theorem Jc(e:Jn a b σ=some outs):wpAny (model ad w) A (binaryOp .FloorDiv va vb) Q E ⟨h,g,d,tk,os⟩:=
 aa e λ_ qa e=>aa e λk qb e=>ay e λq e=>aw q λq1 q2=>ra.iE qa λ_=>rb.nE qb λ_=>
  PyProof.Rows.floordiv_int (Ag (lB0 q1)) (Int.fdiv_eq_ediv_of_nonneg _ (Int.natCast_nonneg k)▸P.sameE e S (.int _ _)) (.inl (PyProof.noPylong_of_log2 (JI (lB0 q1) (lB0 q2))))
theorem K7(e:LS a b σ=some outs):wpAny (model ad w) A (binaryOp .Pow va vb) Q E ⟨h,g,d,tk,os⟩:=
 aa e λx qa e=>aa e λy qb e=>ay e λq e=>ra.iE qa λ_=>rb.iE qb λ_=>by
  rw[(AF q).1,(AF q).2]
  exact PyProof.Rows.pow_int_small (by decide) (by decide) (by decide) (P.sameE e S (.int _ _))
theorem vF{op:Operator}(e:kH op a b σ=some outs):wpAny (model ad w) A (binaryOp op va vb) Q E ⟨h,g,d,tk,os⟩:=
 match op,e with
 | .Add,e=>be e (Li S ra rb P) λe=>be e (Id S ra rb P) λe=>be e (IQ S ra rb P) (H7 S ra rb P)
 | .Sub,e=>LO S ra rb P e
 | .Mult,e=>be e (Ka S ra rb P) (IB S ra rb P)
 | .Mod,e=>HN S ra rb P e
 | .FloorDiv,e=>Jc S ra rb P e
 | .Pow,e=>K7 S ra rb P e
end
end
section
variable {h:Heap}{Q:Value→Shared→Prop}
theorem fq{a:Addr}(h:N0≤a):(a == sysModules)=false:=beq_eq_false_iff_ne.mpr λe=>by
 rw[e] at h; exact absurd h (by decide)
theorem xl{a:Addr}(x:h.DictOf (strKind ad w) a []):h.DictOfH (tupleKind (strKind ad w)) a []:=by
 obtain⟨o,es,ep,q,r1,r2,r3,r4,r5⟩:=x
 exact⟨o,es,ep,q,r1,r2,List.eq_nil_of_length_eq_zero r4.length,λx hx=>(nomatch hx),List.nodup_nil⟩
theorem jY{a:Addr}(x:h.DictOfH (tupleKind (strKind ad w)) a []):h.DictOf (strKind ad w) a []:=by
 obtain⟨o,es,ep,q,r1,r2,r3,r4,r5⟩:=x
 refine⟨o,es,ep,q,r1,r2,λe he=>?_,?_,List.nodup_nil⟩
 ·have:e∈es.toList:=by simpa using he
  rw[r3] at this; cases this
 ·rw[r3]; exact Pairs.nil
noncomputable def eP(h:Heap)(β:Nat→Addr)(n:Nat):Option AV→Option Value→Prop
 |none,none=>True
 |some x,some v=>ak h β n x v
 |_,_=>False
theorem eP.some{r:Option AV}{o:Option Value}{x:AV}{P:Prop}(q:eP h β n r o)(e:r=some x)(k:∀v,o=some v→ak h β n x v→P):P:=by
 cases r with
 |none=>exact al e
 |some y=>cases o with
  |none=>exact q.elim
  |some v=>exact k v rfl (sI e▸q)
theorem eP.isSome{r:Option AV}{o:Option Value}(q:eP h β n r o):o.isSome=r.isSome:=by
 cases r with
 |none=>cases o with
  |none=>exact rfl
  |some v=>exact q.elim
 |some y=>cases o with
  |none=>exact q.elim
  |some v=>exact rfl
theorem uF(s t:Str)(v:Value)(kvs:List (Str×Value)):valueAt ((s,v)::kvs) t=match decide (s=t) with |true=>some v |false=>valueAt kvs t:=by
 unfold valueAt
 rw[List.find?_cons]
 show Option.map _ (match decide (s=t) with |true=>_ |false=>_)=_
 cases decide (s=t) <;> rfl
theorem ky(s t:List Str)(v:Addr×Value)(kvs:List (List Str×Addr×Value)):atKey ((s,v)::kvs) t=match decide (s=t) with |true=>some v |false=>atKey kvs t:=by
 unfold atKey
 rw[List.find?_cons]
 show Option.map _ (match decide (s=t) with |true=>_ |false=>_)=_
 cases decide (s=t) <;> rfl
theorem gM(j k:Nat):decide (ae j=ae k)=Nat.beq k j:=by
 by_cases q:k=j
 ·rw[q,Nat.beq_refl]; exact decide_eq_true rfl
 ·rw[br q]; exact decide_eq_false λz=>q (fb z).symm
theorem ic(j j' k k':Nat):decide ([ae j,ae j']=[ae k,ae k'])=(Nat.beq k j&&Nat.beq k' j'):=by
 rw[←gM,←gM,←Bool.decide_and]
 exact decide_eq_decide.mpr (by rw[List.cons.injEq,List.cons.injEq,eq_self_iff_true,and_true])
theorem aN.find(k:Nat){l:List (AV×AV)}{kvs:List (Str×Value)}(E:aN h β n l kvs):eP h β n (iY (.str k) l) (valueAt kvs (ae k)):=by
 induction E with
 |nil=>exact trivial
 |@cons j x v l kvs hx hl ih=>
  rw[pj,uF,gM]
  show eP h β n (match Nat.beq k j with |true=>_ |false=>_) _
  cases Nat.beq k j with
  |true=>exact hx
  |false=>exact ih
theorem bn.find(k k':Nat){l:List (AV×AV)}{kvs:List (List Str×Addr×Value)}(E:bn h β n l kvs):eP h β n (iY (.tup [.str k, .str k']) l) ((atKey kvs [ae k,ae k']).map (·.2)):=by
 induction E with
 |nil=>exact trivial
 |@cons j j' a x v l kvs t u ep ha ho hx hl ih=>
  rw[pj,ky,ic]
  show eP h β n (match Nat.beq k j&&Nat.beq k' j' with |true=>_ |false=>_) _
  cases Nat.beq k j&&Nat.beq k' j' with
  |true=>exact hx
  |false=>exact ih
theorem eI{x:AV}(q:sV x=some k):x = .str k:=by
 cases x with
 |str j=>exact cA0 AV.str (sI q)
 |_=>exact al q
theorem ik{x:AV}{l:List AV}(q:tV x=some l):x = .tup l:=by
 cases x with
 |tup j=>exact cA0 AV.tup (sI q)
 |_=>exact al q
theorem CH{l:List AV}{p:AV×AV}(q:fB l=some p):l=[p.1,p.2]:=by
 cases l with
 |nil=>exact al q
 |cons a l=>cases l with
  |nil=>exact al q
  |cons b l=>cases l with
   |nil=>exact sI q▸rfl
   |cons=>exact al q
theorem F2{x:AV}{p:Nat×Nat}(q:kP x=some p):x = .tup [.str p.1, .str p.2]:=aa q λl q1 q=>aa q λu q2 q=>aa q λa q3 q=>aa q λb q4 q=>by
 rw[ik q1,CH q2,eI q3,eI q4,←sI q]
noncomputable def oj(h:Heap)(k k':Nat)(b:Addr):Prop:=∃t t' ep,IsT h b #[.str (ae k) t, .str (ae k') t'] ep
@[elab_as_elim] theorem key_el {n:Nat} {x:AV} {v:Value} {motive:AV→Value→Prop} (q:x5 x=true) (rx:ak h β n x v) (k1:∀k t,motive (.str k) (.str (ae k) t)) (k2:∀k k' b,oj h k k' b→(∀i,i<n→β i≠b)→motive (.tup [.str k, .str k']) (.ref b)):motive x v:=
 (Option.isSome_iff_exists.mp q).elim λ_ q=>be q (λq=>aa q λk q _=>by
   have z:=eI q
   subst z
   exact rx.sE rfl (k1 k)) λq=>aa q λp q _=>by
   have z:=F2 q
   subst z
   exact rx.tE rfl λvs a ep ha ho hl=>k2 p.1 p.2 a (by
    revert ha
    exact hl.consE λv us h1 hl=>hl.consE λv2 us2 h2 hl=>hl.nilE (h1.sE rfl λt=>h2.sE rfl λt' ha=>⟨t,t',ep,ha⟩)) ho
theorem D7{l:List (AV×AV)}{a:Addr}(D:bz w h β n (.dict l) a)(q:fS (.str k) l=true):∃kvs,h.DictOf (strKind ad w) a kvs∧aN h β n l kvs:=
 D.elim id λ⟨_,d,e⟩=>bn.casesOn (motive:=λl xs _=>fS (.str k) l=true→h.DictOfH (tupleKind (strKind ad w)) a xs→∃kvs,h.DictOf (strKind ad w) a kvs∧aN h β n l kvs) e (λ_ d=>⟨[],jY d, .nil⟩) (λ_ _ _ _ q=>nomatch q) q d
theorem Mu{k':Nat}{l:List (AV×AV)}{a:Addr}(D:bz w h β n (.dict l) a)(q:fS (.tup [.str k, .str k']) l=true):∃xs,h.DictOfH (tupleKind (strKind ad w)) a xs∧bn h β n l xs:=
 D.elim (λ⟨_,d,e⟩=>aN.casesOn (motive:=λl xs _=>fS (.tup [.str k, .str k']) l=true→h.DictOf (strKind ad w) a xs→∃kvs,h.DictOfH (tupleKind (strKind ad w)) a kvs∧bn h β n l kvs) e (λ_ d=>⟨[],xl d, .nil⟩) (λ_ _ q=>nomatch q) q d) id
@[elab_as_elim] theorem dGet_el {n:Nat} {x:AV} {v:Value} {l:List (AV×AV)} {r:Option AV} {a:Addr} {motive:AV→Value→Prop} (D:bz w h β n (.dict l) a) (e:dP x l=some r) (rx:ak h β n x v)
  (k1:∀k t kvs,h.DictOf (strKind ad w) a kvs→aN h β n l kvs→eP h β n r (valueAt kvs (ae k))→motive (.str k) (.str (ae k) t))
  (k2:∀k k' b xs,oj h k k' b→(∀i,i<n→β i≠b)→h.DictOfH (tupleKind (strKind ad w)) a xs→bn h β n l xs→eP h β n r ((atKey xs [ae k,ae k']).map (·.2))→motive (.tup [.str k, .str k']) (.ref b)):motive x v:=
 ay e λq e=>aw q λq1 q2=>key_el q1 rx (motive:=λx v=>fS x l=true→some (iY x l)=some r→motive x v)
  (λk t q2 e=>(D7 D q2).elim λkvs ⟨d,E⟩=>k1 k t kvs d E (sI e▸E.find k)) (λk k' b hb ho q2 e=>(Mu D q2).elim λxs ⟨d,E⟩=>k2 k k' b xs hb ho d E (sI e▸E.find k k')) q2 e
theorem md{k':Nat}{b:Addr}(hb:oj h k k' b):(tupleKind (strKind ad w)).is h [ae k,ae k'] b:=
 hb.elim λ_ ⟨_,ep,hb⟩=>⟨_,_,ep,hb,rfl,rfl, .cons (strKind_is ad w _ _) (.cons (strKind_is ad w _ _) .nil)⟩
theorem c7(R:bB w h β σ){l:List (AV×AV)}(e:σ.get i=some (.dict l)):bz w h β σ.n (.dict l) (β i)∧N0≤β i:=⟨(R.obj i _ e).2,(R.lo i (R.obj i _ e).1).1⟩
theorem z0(R:bB w h β σ){l:List (AV×AV)}(e:σ.get i=some (.fro l)):bz w h β σ.n (.dict l) (β i)∧N0≤β i:=⟨(R.obj i _ e).2,(R.lo i (R.obj i _ e).1).1⟩
theorem yy{x:AV}{l:List AV}{p:Bool}(e:c9 σ x l=some p):(∀y∈l,∃q,eqv σ cQ y x=some q)∧(p=true↔∃y∈l,eqv σ cQ y x=some true):=by
 induction l generalizing p with
 |nil=>exact⟨nofun,λz=>(nomatch (sI e).trans z),λ⟨_,z,_⟩=>nomatch z⟩
 |cons y r ih=>
  refine aa e λp1 q1 e=>aa e λp2 q2 e=>?_
  have I:=ih q2
  exact⟨List.forall_mem_cons.mpr ⟨⟨p1,q1⟩,I.1⟩,sI e▸Bool.or_eq_true_iff.trans ⟨λz=>z.elim (λz=>⟨y, .head _,z▸q1⟩) λz=>(I.2.mp z).elim λy ⟨a,b⟩=>⟨y, .tail _ a,b⟩,
   λ⟨z,a,b⟩=>(List.mem_cons.mp a).elim (λa=> .inl (sI (q1.symm.trans (a▸b)))) λa=> .inr (I.2.mpr ⟨z,a,b⟩)⟩⟩
theorem BO(R:bB w s.heap β σ){x:AV}{vx:Value}{l:List AV}{vs:List Value}{p:Bool}(hu:A.units+cQ<cLine)(e:c9 σ x l=some p)(rx:ak s.heap β σ.n x vx)(rl:ValsR s.heap β σ.n l vs) :
  ∃f:Value→Bool,(∀y,y∈vs.toArray→EqAt A s y vx (f y))∧vs.toArray.any f=p:=by
 classical
 obtain⟨h1,h2⟩:=yy e
 let T:Value→Prop:=λy=>∃z,ak s.heap β σ.n z y∧eqv σ cQ z x=some true∧z∈l
 refine⟨λy=>decide (T y),λy hy=>?_,?_⟩
 ·show EqAt A s y vx (decide (T y))
  by_cases t:T y
  ·rw[decide_eq_true t]
   obtain⟨z,rz,q,_⟩:=t
   exact(kY R cQ A _ _ _ _ _ hu q rz rx).1
  ·rw[decide_eq_false t]
   obtain⟨j,hj⟩:=List.mem_iff_getElem?.mp (List.mem_toArray.mp hy)
   obtain⟨z,hz,rz⟩:=rl.at hj
   obtain⟨q,hq⟩:=h1 z (List.mem_of_getElem? hz)
   cases q with
   |true=>exact absurd ⟨z,rz,hq,List.mem_of_getElem? hz⟩ t
   |false=>exact(kY R cQ A _ _ _ _ _ hu hq rz rx).1
 ·rw[Bool.eq_iff_iff,h2,List.any_toArray,List.any_eq_true]
  exact⟨λ⟨y,_,t⟩=>(of_decide_eq_true t).elim λz a=>⟨z,a.2.2,a.2.1⟩,λ⟨z,hz,q⟩=>(List.mem_iff_getElem?.mp hz).elim λj e=>(rl.at' e).elim λv a=>⟨v,List.mem_of_getElem? a.1,decide_eq_true ⟨z,a.2,q,hz⟩⟩⟩
end
structure gx(K:Frag)(C:Nat)(c:qH):Prop where
 makes:makesIn K C=true
 init:findIn K (.ref C) "__init__" = some (some (.ref c.init))
 initF:typeIn K (.ref c.init)=some (.type "function")
 ga:findIn K (.ref C) "__getattribute__" = some (some (.builtin "object.__getattribute__"))
 gt:findIn K (.ref C) "__getattr__" = some none
 sa:findIn K (.ref C) "__setattr__" = some (some (.builtin "object.__setattr__"))
 over:plainOver K C=true
 hasD:hasDictIn K C=true
 attr:∀x,oy x=true→findIn K (.ref C) (ae x)=some none
 meth:∀x f,look x c.meths=some f→findIn K (.ref C) (ae x)=some (some (.ref f))∧typeIn K (.ref f)=some (.type "function")
section
variable {h:Heap}{Q:Value→Shared→Prop}
theorem DR{es:List DictEntry}{kvs:List (Str×Value)}(hp:Pairs (strKind ad w) es kvs)(name:Str):(es.find? (·.key.isStr name))=es.find? λe=>(strKind ad w).is name e.key:=by
 induction hp with
 |nil=>rfl
 |@cons e kv es kvs h1 h2 _ ih=>
  obtain⟨t,ht⟩:=Value.isStrOf_shape h1
  rw[List.find?_cons,List.find?_cons,ih]
  have:e.key.isStr name=(strKind ad w).is name e.key:=by
   rw[ht]
   show(kv.1 == name)=(kv.1 == name)
   rfl
  rw[this]
theorem qL{d:Addr}{kvs:List (Str×Value)}{od:Obj}(ho:h.get? d=some od)(D:h.DictOf (strKind ad w) d kvs)(name:Str):lookIn name od=some (valueAt kvs name):=by
 obtain⟨o,es,ep,q,r1,r2,r3,r4,r5⟩:=D
 cases q.symm.trans ho
 unfold lookIn
 rw[r2]
 dsimp only
 rw[DR r4,←r4.find name]
 cases q:List.find? (λe=>(strKind ad w).is name e.key) es.toList with
 |some e=>rfl
 |none=>
  dsimp only
  have:(es.toList.any λx=>x.refKey)=false:=by
   rw[List.any_eq_false]
   intro e he
   obtain⟨k,hk,_⟩:=r3 e (by simpa using he)
   obtain⟨t,ht⟩:=Value.isStrOf_shape hk
   unfold DictEntry.refKey
   rw[ht]; simp
  rw[this]; rfl
theorem yL{es:List DictEntry}{kvs:List (Str×Value)}(hp:Pairs (strKind ad w) es kvs)(name:Str):(es.findIdx? (·.key.isStr name))=es.findIdx? λe=>(strKind ad w).is name e.key:=by
 induction hp with
 |nil=>rfl
 |@cons e kv es kvs h1 h2 _ ih=>
  obtain⟨t,ht⟩:=Value.isStrOf_shape h1
  rw[List.findIdx?_cons,List.findIdx?_cons,ih]
  have:e.key.isStr name=(strKind ad w).is name e.key:=by
   rw[ht]
   show(kv.1 == name)=(kv.1 == name)
   rfl
  rw[this]
theorem DD{d:Addr}{kvs:List (Str×Value)}(D:h.DictOf (strKind ad w) d kvs)(name:Str)(tk:Tok)(v:Value) :
  (h.update d (Obj.putName name (PyData.keyHash w.params name) (.str name tk) v)).DictOf (strKind ad w) d (stored kvs name v)∧Heap.SameBut d h (h.update d (Obj.putName name (PyData.keyHash w.params name) (.str name tk) v)):=by
 refine⟨?_,Heap.SameBut.update ..⟩
 obtain⟨o,es,ep,q,r1,r2,r3,r4,r5⟩:=D
 obtain⟨c,dd,da,sl⟩:=o
 obtain⟨q1,q2,q3⟩:=r1
 dsimp only at q1 q2 q3 r2
 subst q1 q2 q3 r2
 have fi:=yL r4 name
 have e1:Obj.putName name (PyData.keyHash w.params name) (.str name tk) v { cls:= .type "dict",dict:=none,data:= .dict es ep,slots:=#[] } =
   match es.toList.findIdx? (λe=>(strKind ad w).is name e.key) with
   |some i=>{ cls:= .type "dict",dict:=none,data:= .dict (es.modify i λe=>{ e with val:=v }) ep,slots:=#[] }
   |none=>{ cls:= .type "dict",dict:=none,data:= .dict (es.push ⟨PyData.keyHash w.params name, .str name tk,v⟩) (ep+1),slots:=#[] }:=by
  rw[Obj.putName_eq,←fi]
  unfold Obj.putNameByArray
  dsimp only
  have:es.findIdx? (λx=>x.key.isStr name)=es.toList.findIdx? (λx=>x.key.isStr name):=by cases es; exact List.findIdx?_toArray _ _
  rw[this]
  cases List.findIdx? (λx=>x.key.isStr name) es.toList <;> rfl
 have fj:=r4.findIdx name
 cases hi:es.toList.findIdx? (λe=>(strKind ad w).is name e.key) with
 |some i=>
  rw[hi] at e1 fj
  dsimp only at e1
  have hany:kvs.any (λkv=>decide (kv.1=name))=true:=by
   have:=(List.findIdx?_eq_some_iff_getElem.mp fj.symm)
   obtain⟨hl,hp,_⟩:=this
   exact List.any_eq_true.mpr ⟨_,List.getElem_mem hl,hp⟩
  refine⟨_,_,ep,Heap.get?_update_self _ q (by rw[e1]; rfl),by rw[e1]; exact⟨rfl,rfl,rfl⟩,by rw[e1],r3.modify _ _,?_,?_⟩
  ·unfold stored
   rw[if_pos (by simpa using hany)]
   rw[Array.toList_modify]
   exact r4.modify r5 hi v
  ·unfold stored
   rw[if_pos (by simpa using hany),keys_map_store]
   exact r5
 |none=>
  rw[hi] at e1 fj
  dsimp only at e1
  have hany:¬kvs.any (λkv=>decide (kv.1=name))=true:=by
   rw[List.any_eq_true]
   rintro ⟨x,hx,hq⟩
   have:=List.findIdx?_eq_none_iff.mp fj.symm x hx
   rw[this] at hq; cases hq
  have hk:(strKind ad w).is name (.str name tk)=true:=strKind_is ad w _ _
  refine⟨_,_,ep+1,Heap.get?_update_self _ q (by rw[e1]; rfl),by rw[e1]; exact⟨rfl,rfl,rfl⟩,by rw[e1]; rfl,KeysOf.push r3 hk v,?_,?_⟩
  ·unfold stored
   rw[if_neg (by simpa using hany),Array.toList_push]
   exact r4.append hk _ v
  ·unfold stored
   rw[if_neg (by simpa using hany),List.map_append,List.nodup_append]
   refine⟨r5,List.pairwise_singleton _ _,λx hx y hy e=>?_⟩
   simp at hy
   subst hy e
   obtain⟨z,hz,he⟩:=List.mem_map.mp hx
   exact hany (List.any_eq_true.mpr ⟨z,hz,by simpa using he⟩)
theorem zo{x C dx:Addr}{c:qH}{kvs:List (Str×Value)}{name:Str}{v:Value}{Q:Unit→Shared→Prop}(T:gx K C c)(X:K.In s.heap)(hx:s.heap.get? x=some (instObj C dx))(D:s.heap.DictOf (strKind ad w) dx kvs)
  (hn:findIn K (.ref C) name=some none) (hz:kvs.length≤1000)
  (hQ:∀h',h'.DictOf (strKind ad w) dx (stored kvs name v)→Heap.SameBut dx s.heap h'→Q () { s with heap:=h',toks:=s.toks+2 }):wpAny (model ad w) A (setAttr (.ref x) name v) Q E s:=by
 obtain⟨o,es,ep,q,r1,r2,r3,r4,r5⟩:=id D
 have I:InstAt s.heap x (instObj C dx) C (some o):=⟨hx,rfl,rfl,q⟩
 refine set_plain X I T.sa ?_
 refine osa_open (s:={ s with toks:=s.toks+1 }) (r:=none) X I T.over (by unfold takerIn; rw[hn]; rfl) λb=>?_
 obtain⟨cd,hc,hd'⟩:=any_some T.hasD
 refine wpAny_bind (wpAny_pure (wpAny_bind (wpAny_bind (wpAny_loadPart hx (wpAny_bind (looks_clsIn X hc _ _ _ _ (λ_ _ e=>e) ?_))))))
 rw[hd']
 refine wpAny_pure (a:=some dx) (wpAny_bind (wpAny_pure (wpAny_bind ?_)))
 unfold nsSet
 refine wpAny_bind (wpAny_bind (wpAny_askSetting (wpAny_pure (wpAny_bind (wpAny_mkText (wpAny_bind (wpAny_loadPart q ?_)))))))
 rw[r2]
 dsimp only
 have c:(!es.any (·.key.isStr name)&&es.any (·.refKey))=false:=by
  have:(es.any λx=>x.refKey)=false:=by
   rw[←Array.any_toList,List.any_eq_false]
   intro e he
   obtain⟨k,hk,_⟩:=r3 e (by simpa using he)
   obtain⟨t,ht⟩:=Value.isStrOf_shape hk
   unfold DictEntry.refKey
   rw[ht]; simp
  rw[this,Bool.and_false]
 rw[aRefKeyMayBeTheName_at,c]
 obtain⟨D',hs⟩:=DD D name (s.toks+1) v
 refine wpAny_updatePart q ?_
 obtain⟨o',es',ep',q',r1',r2',r3',r4',r5'⟩:=id D'
 have hl:es'.size≤1001:=by
  have:=r4'.length
  rw[Array.length_toList] at this
  have:=stored_length_le kvs name v
  omega
 refine wpAny_bind (wpAny_lookBehind q' (by rw[r2']; exact pastItsLine_dict (by rw[sizeLine_eq]; omega)) ?_)
 exact wpAny_pure (hQ _ D' hs)
end
section
variable {h:Heap}{Q:Value→Shared→Prop}
theorem sF(k j:Nat)(x y:AV)(l:List (AV×AV)):fC (.str k) x ((.str j,y)::l)=match Nat.beq k j with |true=>(.str j,x)::l |false=>(.str j,y)::fC (.str k) x l:=rfl
theorem uf(k k' j j':Nat)(x y:AV)(l:List (AV×AV)):fC (.tup [.str k, .str k']) x ((.tup [.str j, .str j'],y)::l)=match Nat.beq k j&&Nat.beq k' j' with |true=>(.tup [.str j, .str j'],x)::l |false=>(.tup [.str j, .str j'],y)::fC (.tup [.str k, .str k']) x l:=rfl
theorem aN.app{x:AV}{v:Value}(hx:ak h β n x v){l:List (AV×AV)}{kvs:List (Str×Value)}(E:aN h β n l kvs):(kvs.any λkv=>decide (kv.1=ae k))=false→aN h β n (fC (.str k) x l) (kvs++[(ae k,v)]):=by
 induction E with
 |nil=>exact λ_=> .cons hx .nil
 |@cons j y u l kvs hy hl ih=>
  intro e
  rw[List.any_cons,Bool.or_eq_false_iff,gM] at e
  rw[sF,e.1]
  exact .cons hy (ih e.2)
theorem aN.rep{x:AV}{v:Value}(hx:ak h β n x v){l:List (AV×AV)}{kvs:List (Str×Value)}(E:aN h β n l kvs):(kvs.map (·.1)).Nodup→(kvs.any λkv=>decide (kv.1=ae k))=true→
  aN h β n (fC (.str k) x l) (kvs.map λkv=>if kv.1=ae k then(kv.1,v) else kv):=by
 induction E with
 |nil=>exact λ_=>nofun
 |@cons j y u l kvs hy hl ih=>
  intro nd e
  rw[List.map_cons,List.nodup_cons] at nd
  rw[sF,List.map_cons]
  rw[List.any_cons,gM] at e
  by_cases q:k=j
  ·rw[q,Nat.beq_refl,if_pos rfl,map_store_of_not_mem _ _ _ nd.1]
   exact .cons hx hl
  ·rw[br q,if_neg λz=>q (fb z).symm]
   rw[br q] at e
   exact .cons hy (ih nd.2 e)
theorem aN.put{x:AV}{v:Value}{l:List (AV×AV)}{kvs:List (Str×Value)}(hx:ak h β n x v)(hl:aN h β n l kvs)(nd:(kvs.map (·.1)).Nodup):aN h β n (fC (.str k) x l) (stored kvs (ae k) v):=by
 unfold stored
 split
 ·rename_i q; exact hl.rep hx nd q
 ·rename_i q; exact hl.app hx (Bool.eq_false_iff.mpr q)
theorem bn.app{k':Nat}{c:Addr}{x:AV}{v:Value}(hc:oj h k k' c)(hoc:∀i,i<n→β i≠c)(hx:ak h β n x v){l:List (AV×AV)}{xs:List (List Str×Addr×Value)}(E:bn h β n l xs) :
  atKey xs [ae k,ae k']=none→bn h β n (fC (.tup [.str k, .str k']) x l) (xs++[([ae k,ae k'],c,v)]):=by
 obtain⟨t,u,ep,hc⟩:=hc
 induction E with
 |nil=>exact λ_=> .cons hc hoc hx .nil
 |@cons j j' a y z l kvs t u ep ha ho hy hl ih=>
  rw[ky,ic,uf]
  cases Nat.beq k j&&Nat.beq k' j' with
  |true=>exact nofun
  |false=>exact λe=> .cons ha ho hy (ih e)
theorem Av{xs:List (List Str×Addr×Value)}{k:List Str}{v:Value}(hn:k∉xs.map (·.1)):xs.map (putAt k v)=xs:=by
 induction xs with
 |nil=>rfl
 |cons y xs ih=>
  simp only[List.map_cons,List.mem_cons,not_or] at hn ⊢
  rw[ih hn.2]
  unfold putAt
  rw[if_neg λe=>hn.1 e.symm]
theorem bn.rep{k':Nat}{x:AV}{v:Value}(hx:ak h β n x v){l:List (AV×AV)}{xs:List (List Str×Addr×Value)}(E:bn h β n l xs):(xs.map (·.1)).Nodup→
  (atKey xs [ae k,ae k']).isSome=true→bn h β n (fC (.tup [.str k, .str k']) x l) (xs.map (putAt [ae k,ae k'] v)):=by
 induction E with
 |nil=>exact λ_=>nofun
 |@cons j j' a y z l kvs t u ep ha ho hy hl ih=>
  intro nd e
  rw[List.map_cons,List.nodup_cons] at nd
  rw[ky,ic] at e
  rw[uf,List.map_cons]
  have d:=ic j j' k k'
  by_cases q:[ae j,ae j']=[ae k,ae k']
  ·rw[decide_eq_true q] at d
   rw[←q,Av nd.1,←d]
   unfold putAt
   rw[if_pos rfl]
   exact .cons ha ho hx hl
  ·rw[decide_eq_false q] at d
   rw[←d] at e ⊢
   unfold putAt
   rw[if_neg q]
   exact .cons ha ho hy (ih nd.2 e)
theorem bn.put{k':Nat}{c:Addr}{x:AV}{v:Value}{l:List (AV×AV)}{xs:List (List Str×Addr×Value)}(hc:oj h k k' c)(hoc:∀i,i<n→β i≠c)(hx:ak h β n x v)
  (hl:bn h β n l xs) (nd:(xs.map (·.1)).Nodup):bn h β n (fC (.tup [.str k, .str k']) x l) (storedH xs [ae k,ae k'] c v):=by
 unfold storedH
 split
 ·rename_i q; exact hl.rep hx nd q
 ·rename_i q; exact hl.app hc hoc hx (by simpa using q)
theorem aN.length{l:List (AV×AV)}{kvs:List (Str×Value)}(E:aN h β n l kvs):l.length=kvs.length:=by
 induction E with
 |nil=>rfl
 |cons _ _ ih=>exact cA0 Nat.succ ih
theorem bn.length{l:List (AV×AV)}{kvs:List (List Str×Addr×Value)}(E:bn h β n l kvs):l.length=kvs.length:=by
 induction E with
 |nil=>rfl
 |cons _ _ _ _ ih=>exact cA0 Nat.succ ih
theorem e8(R:bB w h β σ){o:ai}(hi:σ.get i=some o)(hs:Heap.SameBut (β i) h h'):∀a xs n,(∀j,j<σ.n→β j≠a)→IsT h a xs n→IsT h' a xs n:=λa xs n ho e=>
 (hs.2 a (λz=>ho i (R.obj i o hi).1 z.symm)).trans e
end
section
variable {h:Heap}{Q:Value→Shared→Prop}
theorem nj(a:Addr):(Value.ref a == Value.none)=false:=beq_eq_false_iff_ne.mpr nofun
theorem m6(x:Str)(t:Tok):(Value.str x t == Value.none)=false:=beq_eq_false_iff_ne.mpr nofun
theorem tY{b:Bool}(e:Fm a=some b)(ra:ak h β σ.n a va):(va == Value.none)=b:=
 ak.casesOn (motive_1:=λa va _=>Fm a=some b→(va == Value.none)=b) ra (λq=>(sI q▸rfl)) (λ_=>al) (λ_ _=>al) (λ_ _ q=>(m6 _ _).trans (sI q)) (λ_ _ _ _ q=>(m6 _ _).trans (sI q))
  (λ_ _ _ q=>(nj _).trans (sI q)) (λ_ _ q=>(nj _).trans (sI q)) (λ_=>al) (λ_=>al) (λ_ _=>al) e
theorem nz{x:AV}(q:gX x=true):x = .none:=by
 cases x with
 |none=>rfl
 |_=>exact aV q
theorem lD(hu:A.units+20<cLine):A.in1.units<cLine:=Nat.lt_of_le_of_lt (Nat.add_le_add_left (by decide:1≤20) _) hu
section
variable {x y:AV}{v:Value}{l:List (AV×AV)}{r:Option AV}{c:Addr}(D:bz w h β σ.n (.dict l) c∧N0≤c)(hu:A.units+20<cLine)(rx:ak h β σ.n x v)
include D hu rx
theorem GE(e:dP x l=some r)(hq:∀tk,Q (.bool r.isSome) ⟨h,g,d,tk,os⟩):wpAny (model ad w) A (compareOp .In v (.ref c)) Q E ⟨h,g,d,tk,os⟩:=
 dGet_el D.1 e rx (λk t kvs D' E' f=>wpAny_in_of (strKind_is ad w _ _) (fq D.2) (Heap.DictOf.mapOf D') (f.isSome▸hq _))
  λk k' b xs hb _ D' E' f=>wpAny_in_heap (knd:=tupleKind (strKind ad w)) (lD hu) (md hb) (fq D.2) D' (Option.isSome_map (α:=_)▸f.isSome▸hq _)
theorem xk(e:dP x l=some r)(hq:∀tk,Q (.bool (!r.isSome)) ⟨h,g,d,tk,os⟩):wpAny (model ad w) A (compareOp .NotIn v (.ref c)) Q E ⟨h,g,d,tk,os⟩:=
 dGet_el D.1 e rx (λk t kvs D' E' f=>wpAny_notIn_of (strKind_is ad w _ _) (fq D.2) (Heap.DictOf.mapOf D') (f.isSome▸hq _))
  λk k' b xs hb _ D' E' f=>wpAny_notIn_heap (knd:=tupleKind (strKind ad w)) (lD hu) (md hb) (fq D.2) D' (Option.isSome_map (α:=_)▸f.isSome▸hq _)
theorem tT(e:dP x l=some (some y))(hq:∀u tk,ak h β σ.n y u→Q u ⟨h,g,d,tk,os⟩):wpAny (model ad w) A (getItem (.ref c) v) Q E ⟨h,g,d,tk,os⟩:=
 dGet_el D.1 e rx (λk t kvs D' E' f=>f.some rfl λu q r=>wpAny_getItem_of (strKind_is ad w _ _) (Heap.DictOf.mapOf D') q (hq _ _ r))
  λk k' b xs hb _ D' E' f=>f.some rfl λu q r=>(Option.map_eq_some_iff.mp q).elim λz q=>wpAny_getItem_heap (knd:=tupleKind (strKind ad w)) (lD hu) (md hb) D' q.1 (hq _ _ (q.2▸r))
end
end
theorem vf(x y:Int):i0 x y=decide (x<y):=by
 unfold i0
 cases x with
 |ofNat a=>
  cases y with
  |ofNat b=>
   show Nat.ble (a+1) b=_
   rw[Bool.eq_iff_iff,Nat.ble_eq,decide_eq_true_iff]; simp; omega
  |negSucc b=>show false=_; rw[eq_comm,decide_eq_false_iff_not]; simp; omega
 |negSucc a=>
  cases y with
  |ofNat b=>show true=_; rw[eq_comm,decide_eq_true_iff]; simp; omega
  |negSucc b=>
   show Nat.ble (b+1) a=_
   rw[Bool.eq_iff_iff,Nat.ble_eq,decide_eq_true_iff]; omega
theorem Jb(x y:Int):(!(i0 x y))=decide (x≥y):=by
 rw[vf,Bool.eq_iff_iff,Bool.not_eq_true',decide_eq_false_iff_not,decide_eq_true_iff]; omega
section
variable {h:Heap}
theorem iy:typeLookup (.type "dict_values") "__contains__" = pure none:=by rw[typeLookup_type,builtinLookup_eq_fast]; kernel_rfl
theorem fQ:entryFor table "proto.contains_iter" = some Builtin.«proto.contains_iter»:=entryFor_of_tree (by kernel_rfl)
theorem zh{v d:Addr}{o:Obj}{es:Array DictEntry}{ep:Nat}{Q:Value→Shared→Prop}(hv:s.heap.IsValuesView v d)(ho:s.heap.get? d=some o)(hd:o.data = .dict es ep)
  (hQ:Q (.ref s.heap.objs.size) { s with heap:=s.heap.push { cls:= .type "dict_valueiterator",data:= .fields #[.ref d, .int 0 0, .int es.size 0, .int ep 0] } }):wpAny (model ad w) A (pyIter (.ref v)) Q E s:=by
 obtain⟨ov,hov,hcv,hdv⟩:=id hv
 refine wpAny_pyIter_slot hv.typeIs F.slot_dict_values_iter (wpAny_call_entry F.slot_dict_values_iter hv.typeIs F.entry_dict_values_iter ?_ (F.args_dict_values_iter_1 _))
 unfold Builtin.«dict_values.__iter__» Builtin.Dict_items.dictOf Builtin.Dict_items.newIterator
 refine wpAny_bind (wpAny_pure (wpAny_bind (wpAny_bind (wpAny_field hov hdv (x:= .ref d) rfl (wpAny_pure (wpAny_bind (wpAny_bind (wpAny_dictEntries ho hd (wpAny_bind (wpAny_dictEpoch ho hd ?_))))))))))
 simp only[show Builtin.Dict_items.ownsTuple "dict_valueiterator" = false from by decide,Bool.false_eq_true,if_false]
 refine wpAny_newObj_type (wpAny_pure ⟨_,rfl,"dict_valueiterator",_,⟨_,Heap.get?_push_size _ rfl,rfl⟩,F.slot_dict_valueiterator_next.lookup,?_⟩)
 exact hQ
theorem Bz{it d:Addr}{ep:Nat}{o:Obj}{es:Array DictEntry}{e:DictEntry}{Q:Option Value→Shared→Prop}(hit:s.heap.IsValIter it d i es.size ep)(ho:s.heap.get? d=some o)(hd:o.data = .dict es ep)(hx:es[i]?=some e)
  (hQ:∀h',h'.IsValIter it d (i+1) es.size ep→Heap.SameBut it s.heap h'→Q (some e.val) { s with heap:=h' }):wpAny (model ad w) A (pyNext (.ref it)) Q E s:=by
 obtain⟨oi,hoi,hc,hdi⟩:=id hit
 unfold pyNext
 refine wpAny_bind (wpAny_attempt (wpAny_callSpecial?_slot (name:=Str.ofString "__next__") hit.typeIs F.slot_dict_valueiterator_next (wpAny_call_entry F.slot_dict_valueiterator_next hit.typeIs F.entry_dict_valueiterator_next ?_ (F.args_dict_valueiterator_next_1 _))))
 refine wpAny_bind (wpAny_pure (wpAny_bind (wpAny_bind ?_)))
 first|refine wpAny_bind (wpAny_typeNameOfWhole_valiter hit.typeIs (wpAny_pure ?_)) |refine wpAny_bind (wpAny_typeNameOf_valiter hit.typeIs (wpAny_pure ?_))
 refine wpAny_bind (wpAny_fieldsOf hoi hdi ?_)
 simp only[show Builtin.Dict_items.ownsTuple "dict_valueiterator" = false from by decide,Bool.false_eq_true,if_false]
 show wpAny _ _ (if (Value.ref d == Value.none)=true then _ else _) _ _ s
 rw[if_neg (show ¬((Value.ref d == Value.none)=true) from Bool.false_ne_true)]
 refine wpAny_bind (wpAny_pure (wpAny_bind (wpAny_dictEntries ho hd ?_)))
 rw[if_neg (by simp)]
 refine wpAny_bind (wpAny_pure (wpAny_bind (wpAny_dictEpoch ho hd ?_)))
 rw[if_neg (by simp)]
 refine wpAny_pure ?_
 have hlt:i<es.size:=(Array.getElem?_eq_some_iff.mp hx).1
 have hval:es[i].val=e.val:=by rw[(Array.getElem?_eq_some_iff.mp hx).2]
 simp only[show ¬((i:Int)<0) from by omega,if_false,Int.toNat_natCast,Array.getElem?_eq_getElem hlt]
 refine wpAny_bind ?_
 first|refine wpAny_bind (wpAny_typeNameOfWhole_valiter hit.typeIs (wpAny_pure ?_)) |refine wpAny_bind (wpAny_typeNameOf_valiter hit.typeIs (wpAny_pure ?_))
 refine wpAny_bind (wpAny_isOneOf_valiter hit.typeIs ?_)
 show wpAny _ _ (setField (.ref it) 1 (rawInt ((i:Int)+1)) >>= _) _ _ s
 refine wpAny_bind (wpAny_setField hoi hdi (by simp) ?_)
 have hit':(s.heap.update it (Obj.mapFields (·.setIfInBounds 1 (rawInt ((i:Int)+1))))).IsValIter it d (i+1) es.size ep:=
  ⟨_,Heap.get?_update_self _ hoi (Obj.isFreed_of_fields (Obj.data_mapFields hdi _)),(Obj.cls_mapFields ..).trans hc,by rw[Obj.data_mapFields hdi]; simp[rawInt]⟩
 refine wpAny_bind (wpAny_holding (wpAny_bind (wpAny_isOneOf_valiter (s:={ s with heap:=s.heap.update it (Obj.mapFields (·.setIfInBounds 1 (rawInt ((i:Int)+1)))) }) hit'.typeIs ?_)))
 refine wpAny_bind (wpAny_isOneOf_valiter (s:={ s with heap:=s.heap.update it (Obj.mapFields (·.setIfInBounds 1 (rawInt ((i:Int)+1)))) }) hit'.typeIs ?_)
 show wpAny _ _ (pure es[i].val) _ _ _
 exact wpAny_pure (wpAny_pure ⟨_,rfl,wpAny_pure (hval▸hQ _ hit' (Heap.SameBut.update ..))⟩)
theorem De{it d:Addr}{ep:Nat}{o:Obj}{es:Array DictEntry}{Q:Option Value→Shared→Prop}(hh:A.handled=none)(hit:s.heap.IsValIter it d es.size es.size ep)(ho:s.heap.get? d=some o)(hd:o.data = .dict es ep)
  (hQ:∀h',Heap.ExtBut it s.heap h'→s.heap.objs.size≤h'.objs.size→Q none { s with heap:=h' }):wpAny (model ad w) A (pyNext (.ref it)) Q E s:=by
 obtain⟨oi,hoi,hc,hdi⟩:=id hit
 unfold pyNext
 refine wpAny_bind (wpAny_attempt (wpAny_callSpecial?_slot (name:=Str.ofString "__next__") hit.typeIs F.slot_dict_valueiterator_next (wpAny_call_entry F.slot_dict_valueiterator_next hit.typeIs F.entry_dict_valueiterator_next ?_ (F.args_dict_valueiterator_next_1 _))))
 refine wpAny_bind (wpAny_pure (wpAny_bind (wpAny_bind ?_)))
 first|refine wpAny_bind (wpAny_typeNameOfWhole_valiter hit.typeIs (wpAny_pure ?_)) |refine wpAny_bind (wpAny_typeNameOf_valiter hit.typeIs (wpAny_pure ?_))
 refine wpAny_bind (wpAny_fieldsOf hoi hdi ?_)
 simp only[show Builtin.Dict_items.ownsTuple "dict_valueiterator" = false from by decide,Bool.false_eq_true,if_false]
 show wpAny _ _ (if (Value.ref d == Value.none)=true then _ else _) _ _ s
 rw[if_neg (show ¬((Value.ref d == Value.none)=true) from Bool.false_ne_true)]
 refine wpAny_bind (wpAny_pure (wpAny_bind (wpAny_dictEntries ho hd ?_)))
 rw[if_neg (by simp)]
 refine wpAny_bind (wpAny_pure (wpAny_bind (wpAny_dictEpoch ho hd ?_)))
 rw[if_neg (by simp)]
 refine wpAny_pure ?_
 simp only[show ¬((es.size:Int)<0) from by omega,if_false,Int.toNat_natCast,Array.getElem?_eq_none (Nat.le_refl es.size)]
 refine wpAny_bind ?_
 first|refine wpAny_bind (wpAny_typeNameOfWhole_valiter hit.typeIs (wpAny_pure ?_)) |refine wpAny_bind (wpAny_typeNameOf_valiter hit.typeIs (wpAny_pure ?_))
 show wpAny _ _ (setField (.ref it) 0 .none >>= _) _ _ s
 refine wpAny_bind (wpAny_setField hoi hdi (by simp) ?_)
 show wpAny _ _ (newExc (.type "StopIteration") [] >>= _) _ _ _
 refine wpAny_bind ?_
 simp only[newExc,newTuple]
 refine wpAny_bind (wpAny_newObj_type ?_ (by size_fits))
 refine wpAny_bind (m:=firstArgMember _ _) (wpAny_of_eq (a:=Value.none) (by first|rfl |(simp only[firstArgMember]; rfl)) ?_)
 refine wpAny_newObj_type ?_ (by size_fits)
 simp only[raiseNew]
 refine wpAny_bind (wpAny_handled ?_)
 rw[show A.in1.handled=none from hh]
 refine wpAny_bind (wpAny_pure (wpAny_throw ?_))
 refine wpAny_bind (wpAny_isInstance (T:="StopIteration") (b:=true) ⟨_,Heap.get?_push_size _ rfl,rfl⟩ isSubtype_stop ?_)
 exact wpAny_pure (hQ _ (((Heap.SameBut.update ..).extBut.push _).push _) (by rw[Heap.size_push,Heap.size_push,(Heap.SameBut.update ..).1]; omega))
theorem Af{it dd:Addr}{ep:Nat}{o:Obj}{es:Array DictEntry}{x:AV}{vx:Value}{R:Result→Shared→Prop}(hh:A.handled=none)(R0:bB w h β σ)(hu:A.units+1+cQ<cLine)(rx:ak h β σ.n x vx)
  (ho:h.get? dd=some o) (hd:o.data = .dict es ep) (hit0:h.objs.size≤it):∀(m i:Nat)(l:List AV)(vs:List Value)(p:Bool)(h':Heap)(tk:Nat),i+m=es.size→l.length=m→ValsR h β σ.n l vs→(es.toList.drop i).map (·.val)=vs→c9 σ x l=some p→
   (∀a o,h.get? a=some o→h'.get? a=some o)→h.objs.size≤h'.objs.size→h'.IsValIter it dd i es.size ep→
   (∀h'' tk,(∀a o,h.get? a=some o→h''.get? a=some o)→h.objs.size≤h''.objs.size→R (.ok (.ret (.bool p))) ⟨h'',g,d,tk,os⟩)→
   codeAny (model ad w) A (.builtin "proto.contains_iter" ⟨[.ref it,vx],[]⟩) R ⟨h',g,d,tk,os⟩:=by
 intro m
 induction m with
 |zero=>
  intro i l vs p h' tk hi hl hv he e k hs hit hq
  cases l with
  |cons=>exact nomatch hl
  |nil=>
   clear hv he hl
   refine codeAny_builtin fQ ?_
   unfold Builtin.«proto.contains_iter»
   have hi:i=es.size:=hi
   rw[hi] at hit
   refine wpAny_bind (De (A:=A.in1) hh hit (k _ _ ho) hd λh'' hx hxs=>?_)
   exact wpAny_bind (wpAny_rule (wpAny_pure (sI e▸hq _ _ (λa o q=>hx a o (λz=>absurd (Heap.lt_size (z▸q)) (Nat.not_lt.mpr hit0)) (k _ _ q)) (lE0 hs hxs))))
 |succ m ih=>
  intro i l vs p h' tk hi hl hv
  cases l with
  |nil=>exact nomatch hl
  |cons y l=>
   refine hv.consE λvy vs hy hv he e k hs hit hq=>?_
   have hlt:i<es.size:=by rw[←hi]; exact Nat.lt_add_of_pos_right (Nat.succ_pos m)
   have hlt:i<es.toList.length:=by rw[Array.length_toList]; exact hlt
   rw[List.drop_eq_getElem_cons hlt,List.map_cons,List.cons.injEq] at he
   refine aa e λp1 q1 e=>aa e λp2 q2 e=>codeAny_builtin fQ ?_
   unfold Builtin.«proto.contains_iter»
   have hx:es[i]?=some es.toList[i]:=by rw[←Array.getElem?_toList,List.getElem?_eq_getElem hlt]
   refine wpAny_bind (Bz (A:=A.in1) hit (k _ _ ho) hd hx λh'' hit' hsb=>?_)
   have k':∀a o,h.get? a=some o→h''.get? a=some o:=λa o q=>(hsb.2 a (λz=>absurd (Heap.lt_size (z▸q)) (Nat.not_lt.mpr hit0))).trans (k _ _ q)
   have hs':h.objs.size≤h''.objs.size:=by rw[hsb.1]; exact hs
   dsimp only
   rw[he.1]
   have kr:∀{z u},ak h β σ.n z u→ak h'' β σ.n z u:=λr=>r.mono (λ_ _ _ _ z=>k' _ _ z) (λ_ _=>rfl) (Nat.le_refl _)
   refine wpAny_bind ((kY (s:=⟨h'',g,d,tk,os⟩) (tN hs' k' R0) cQ A.in1 y x vy vx p1 hu q1 (kr hy) (kr rx)).1 _ _ _ _ ?_)
   have e:=sI e
   cases p1 with
   |true=>exact wpAny_bind (wpAny_rule (wpAny_pure (show R (.ok (.ret (.bool true))) _ from(show true=p from e)▸hq _ _ k' hs')))
   |false=>exact wpAny_pure ⟨Code.quiet_builtin _ (by decide +kernel),ih (i+1) l vs p2 h'' tk ((Nat.succ_add_eq_add_succ i m).trans hi) (Nat.succ.inj hl) hv he.2 q2 k' hs' hit' ((show p2=p from e)▸hq)⟩
theorem aN.vals{l:List (AV×AV)}{kvs:List (Str×Value)}(E:aN h β n l kvs):ValsR h β n (l.map (·.2)) (kvs.map (·.2)):=by
 induction E with
 |nil=>exact .nil
 |cons hx _ ih=>exact .cons hx ih
theorem bn.vals{l:List (AV×AV)}{kvs:List (List Str×Addr×Value)}(E:bn h β n l kvs):ValsR h β n (l.map (·.2)) (kvs.map (·.2.2)):=by
 induction E with
 |nil=>exact .nil
 |cons _ _ hx _ ih=>exact .cons hx ih
theorem xA{es:List DictEntry}{kvs:List (Str×Value)}(hp:Pairs (strKind ad w) es kvs):es.map (·.val)=kvs.map (·.2):=by
 induction hp with
 |nil=>rfl
 |cons _ h2 _ ih=>rw[List.map_cons,List.map_cons,h2,ih]
theorem Cn{l:List (AV×AV)}{c:Addr}(D:bz w h β n (.dict l) c):∃o es ep vs,h.get? c=some o∧o.data = .dict es ep∧es.toList.map (·.val)=vs∧ValsR h β n (l.map (·.2)) vs:=by
 rcases D with ⟨kvs,⟨o,es,ep,q,r1,r2,r3,r4,r5⟩,e⟩ |⟨xs,⟨o,es,ep,q,r1,r2,r3,r4,r5⟩,e⟩
 ·exact⟨o,es,ep,_,q,r2,xA r4,e.vals⟩
 ·exact⟨o,es,ep,_,q,r2,by rw[r3,List.map_map]; rfl,e.vals⟩
theorem Gv{x:AV}{vx:Value}{dd:Nat}{l:List (AV×AV)}{p:Bool}{Q:Value→Shared→Prop}(S:Sit w K A frs h β σ)(hu:A.units+20<cLine)(rx:ak h β σ.n x vx)(hi:σ.get i=some (.vals dd))(hd:σ.get dd=some (.dict l))(e:c9 σ x (l.map (·.2))=some p)
  (hq:∀h' tk,ar w (λ_=>False) frs h h' β β σ σ→Q (.bool p) ⟨h',g,d,tk,os⟩):wpAny (model ad w) A (compareOp .In vx (.ref (β i))) Q E ⟨h,g,d,tk,os⟩:=by
 obtain⟨_,hdd,ho⟩:=S.rel.obj i _ hi
 obtain⟨o,es,ep,vs,q,r2,hv,rv⟩:=Cn (S.rel.obj dd _ hd).2
 have V:Heap.IsValuesView h (β i) (β dd):=⟨_,ho,rfl,rfl⟩
 have hT:Shared.TypeIs ⟨h,g,d,tk,os⟩ (.ref (β i)) "dict_values":=V.typeIs
 show wpAny _ _ (do return Value.bool (←contains (.ref (β i)) vx)) _ _ _
 refine wpAny_bind ?_
 unfold contains
 refine wpAny_holding ?_
 rw[show stdlibNamesSay? (.ref (β i)) vx=none from rfl]
 refine wpAny_bind (wpAny_specialOf hT iy ?_)
 rw[if_neg (by decide)]
 refine wpAny_bind (wpAny_callSpecialUnlessNone?_none hT iy ?_)
 refine wpAny_bind (wpAny_rule (wpAny_bind (wpAny_tryCatch (M:=model ad w) (zh V q r2 ?_))))
 dsimp only
 have k:∀a o,h.get? a=some o→(h.push { cls:= .type "dict_valueiterator",data:= .fields #[.ref (β dd), .int 0 0, .int es.size 0, .int ep 0] }).get? a=some o:=λa o e=>Heap.get?_push_of_some _ e
 refine wpAny_bind (wpAny_runValue (Af S.hh S.rel (by show A.units+1+12<cLine; omega) rx q r2 (Nat.le_refl _) es.size 0 (l.map (·.2)) vs p _ _ (by omega) ?_ rv (by rw[List.drop_zero]; exact hv) e k (by rw[Heap.size_push]; omega) ⟨_,Heap.get?_push_size _ rfl,rfl,rfl⟩ λh'' tk k' hs=>?_))
 ·have:=rv.length
  rw[this,←hv,List.length_map,Array.length_toList]
 ·exact wpAny_pure (wpAny_pure (hq _ _ (ar.grow hs k' S.rel S.tab)))
theorem Hv{o:Option ai}{j:Nat}(q:vO o=some j):o=some (.vals j):=by
 cases o with
 |none=>exact al q
 |some o=>cases o with
  |vals m=>exact cA0 (λl=>some (ai.vals l)) (sI q)
  |_=>exact al q
theorem F1{x:AV}{i:Int}(q:iV x=some i):x = .int i:=by
 cases x with
 |int j=>exact cA0 AV.int (sI q)
 |_=>exact al q
section
variable {Q:Value→Shared→Prop}{p:Bool}(S:Sit w K A frs h β σ)(hu:A.units+20<cLine)(ra:ak h β σ.n a va)(rb:ak h β σ.n b vb)
section
include S hu
theorem PY:A.in1.units+cQ<cLine:=Nat.lt_of_le_of_lt (by show A.units+1+12≤_; exact Nat.add_le_add_left (by decide:13≤20) A.units) hu
include ra
theorem j7{l:List AV}{vs:List Value}(e:c9 σ a l=some p)(hl:ValsR h β σ.n l vs):∃f:Value→Bool,(∀y,y∈vs.toArray→EqAt A.in1 ⟨h,g,d,tk,os⟩ y va (f y))∧vs.toArray.any f=p:=BO (s:=⟨h,g,d,tk,os⟩) (A:=A.in1) S.rel (PY S hu) e ra hl
include rb
theorem MC(e:Ft a b σ=some p)(hq:∀tk,Q (.bool p) ⟨h,g,d,tk,os⟩):wpAny (model ad w) A (compareOp .In va vb) Q E ⟨h,g,d,tk,os⟩:=
 aa e λl qb e=>rb.tE qb λvs _ _ hx _ hl=>(j7 S hu ra e hl).elim λf z=>in_tupleAt f (bk hx) z.1 (z.2▸hq _)
theorem MZ(e:Ei a b σ=some p)(hq:∀tk,Q (.bool p) ⟨h,g,d,tk,os⟩):wpAny (model ad w) A (compareOp .In va vb) Q E ⟨h,g,d,tk,os⟩:=
 aa e λ_ qb e=>aa e λl q e=>rb.oE qb λ_=>bA S.rel q λvs _ hx hl=>(j7 S hu ra e hl).elim λf z=>in_listAt f hx.isList z.1 (z.2▸hq _)
theorem M5(e:E8 a b σ=some p)(hq:∀tk,Q (.bool p) ⟨h,g,d,tk,os⟩):wpAny (model ad w) A (compareOp .In va vb) Q E ⟨h,g,d,tk,os⟩:=
 aa e λ_ qb e=>aa e λl q e=>aa e λr q2 e=>rb.oE qb λ_=>GE (c7 S.rel (bN q)) hu ra q2 (sI e▸hq)
theorem Nz(e:Oe a b σ=some p)(hq:∀h' tk,ar w (λ_=>False) frs h h' β β σ σ→Q (.bool p) ⟨h',g,d,tk,os⟩):wpAny (model ad w) A (compareOp .In va vb) Q E ⟨h,g,d,tk,os⟩:=
 aa e λ_ qb e=>aa e λl q e=>aa e λr q2 e=>rb.oE qb λ_=>Gv S hu ra (Hv q) (bN q2) e hq
theorem Jy(e:Ft a b σ=some p)(hq:∀tk,Q (.bool (!p)) ⟨h,g,d,tk,os⟩):wpAny (model ad w) A (compareOp .NotIn va vb) Q E ⟨h,g,d,tk,os⟩:=
 aa e λl qb e=>rb.tE qb λvs _ _ hx _ hl=>(j7 S hu ra e hl).elim λf z=>notIn_tupleAt f (bk hx) z.1 (z.2▸hq _)
theorem LI(e:Ei a b σ=some p)(hq:∀tk,Q (.bool (!p)) ⟨h,g,d,tk,os⟩):wpAny (model ad w) A (compareOp .NotIn va vb) Q E ⟨h,g,d,tk,os⟩:=
 aa e λ_ qb e=>aa e λl q e=>rb.oE qb λ_=>bA S.rel q λvs _ hx hl=>(j7 S hu ra e hl).elim λf z=>notIn_listAt f hx.isList z.1 (z.2▸hq _)
theorem Lr(e:E8 a b σ=some p)(hq:∀tk,Q (.bool (!p)) ⟨h,g,d,tk,os⟩):wpAny (model ad w) A (compareOp .NotIn va vb) Q E ⟨h,g,d,tk,os⟩:=
 aa e λ_ qb e=>aa e λl q e=>aa e λr q2 e=>rb.oE qb λ_=>xk (c7 S.rel (bN q)) hu ra q2 (sI e▸hq)
end
theorem nN{f:Int→Int→Bool}(ra:ak h β σ.n a va)(rb:ak h β σ.n b vb)(e:(ob (iV a) λx=>ob (iV b) λy=>some (f x y))=some p){C:Value→Value→Prop}(k:∀x t y u,f x y=p→C (.int x t) (.int y u)):C va vb:=
 aa e λx qa e=>aa e λy qb e=>ra.iE qa λt=>rb.iE qb λu=>k x t y u (sI e)
include S hu ra rb
theorem m8{op:CmpOp}(e:gw op a b σ=some p)(hq:∀h' tk,ar w (λ_=>False) frs h h' β β σ σ→Q (.bool p) ⟨h',g,d,tk,os⟩):wpAny (model ad w) A (compareOp op va vb) Q E ⟨h,g,d,tk,os⟩:=by
 have hq0:∀tk,Q (.bool p) ⟨h,g,d,tk,os⟩:=λtk=>hq h tk (ar.refl S.rel S.tab)
 have hu1:A.units+cQ<cLine:=Nat.lt_of_le_of_lt (Nat.add_le_add_left (by decide:12≤20) A.units) hu
 exact match op,e with
 | .Eq,e=>EqBoolInt.of_rc (kY (s:=⟨h,g,d,tk,os⟩) S.rel cQ A a b va vb p hu1 e ra rb).2.1 (hq0 _)
 | .NotEq,e=>aa e λp' q e=>EqBoolInt.of_rcne (kY (s:=⟨h,g,d,tk,os⟩) S.rel cQ A a b va vb p' hu1 q ra rb).2.2 (sI e▸hq0 _)
 | .Lt,e=>nN ra rb e (C:=λva vb=>wpAny (model ad w) A (compareOp .Lt va vb) Q E _) λx t y u e=>PySem.P.lt_int (vf x y▸e▸hq0 _)
 | .Gt,e=>nN (f:=λx y=>i0 y x) ra rb e (C:=λva vb=>wpAny (model ad w) A (compareOp .Gt va vb) Q E _) λx t y u e=>PySem.P.gt_int (vf y x▸e▸hq0 _)
 | .GtE,e=>nN (f:=λx y=>!(i0 x y)) ra rb e (C:=λva vb=>wpAny (model ad w) A (compareOp .GtE va vb) Q E _) λx t y u e=>PySem.P.ge_int (Jb x y▸e▸hq0 _)
 | .Is,e=>ay e λq e=>by
  rw[nz q] at rb
  rw[show vb=_ from rb.inv]
  exact is_none ((tY e ra).symm▸hq0 _)
 | .IsNot,e=>ay e λq e=>aa e λp' q2 e=>by
  rw[nz q] at rb
  rw[show vb=_ from rb.inv]
  exact isNot_none ((tY q2 ra).symm▸sI e▸hq0 _)
 | .In,e=>be e (λe=>MZ S hu ra rb e hq0) λe=>be e (λe=>M5 S hu ra rb e hq0) λe=>be e (λe=>Nz S hu ra rb e hq) λe=>MC S hu ra rb e hq0
 | .NotIn,e=>aa e λp' e e2=>have hq0:=sI e2▸hq0
  be e (λe=>LI S hu ra rb e hq0) λe=>be e (λe=>Lr S hu ra rb e hq0) λe=>Jy S hu ra rb e hq0
end
end
section
variable {h:Heap}{Q:Value→Shared→Prop}
theorem d5{α:Type}(l:List α)(n:Nat):aY l n=l[n]?:=by
 induction l generalizing n with
 |nil=>rfl
 |cons a l ih=>cases n with
  |zero=>rfl
  |succ n=>exact ih n
theorem nu{α:Type}(n:Nat)(l:List α):rT n l=l.take n:=by
 induction l generalizing n with
 |nil=>cases n <;> rfl
 |cons a l ih=>cases n with
  |zero=>rfl
  |succ n=>exact cA0 (List.cons a) (ih n)
theorem to{α:Type}(n:Nat)(l:List α):rt n l=l.drop n:=by
 induction l generalizing n with
 |nil=>cases n <;> rfl
 |cons a l ih=>cases n with
  |zero=>rfl
  |succ n=>exact ih n
theorem zA{α:Type}(l:List α)(n:Nat)(b:α):u4 l n b=l.set n b:=by
 induction l generalizing n with
 |nil=>rfl
 |cons a l ih=>cases n with
  |zero=>rfl
  |succ n=>exact cA0 (List.cons a) (ih n)
theorem ValsR.take(k:Nat){l:List AV}{vs:List Value}(r:ValsR h β n l vs):ValsR h β n (l.take k) (vs.take k):=by
 induction l generalizing vs k with
 |nil=>exact r.nilE (by cases k <;> exact .nil)
 |cons x l ih=>
  exact r.consE λv vs hx hl=>by
   cases k with
   |zero=>exact .nil
   |succ k=>exact .cons hx (ih k hl)
theorem ValsR.drop(k:Nat){l:List AV}{vs:List Value}(r:ValsR h β n l vs):ValsR h β n (l.drop k) (vs.drop k):=by
 induction l generalizing vs k with
 |nil=>exact r.nilE (by cases k <;> exact .nil)
 |cons x l ih=>
  exact r.consE λv vs hx hl=>by
   cases k with
   |zero=>exact .cons hx hl
   |succ k=>exact ih k hl
theorem ValsR.set{x:AV}{v:Value}(hx:ak h β n x v)(k:Nat){l:List AV}{vs:List Value}(r:ValsR h β n l vs):ValsR h β n (l.set k x) (vs.set k v):=by
 induction l generalizing vs k with
 |nil=>exact r.nilE .nil
 |cons y l ih=>
  exact r.consE λu vs hy hl=>by
   cases k with
   |zero=>exact .cons hx hl
   |succ k=>exact .cons hy (ih k hl)
theorem qg(R:bB w h β σ){C dd:Nat}(e:σ.get i=some (.inst C dd)):(∃c,look C tabs.clss=some c)∧dd<σ.n∧h.get? (β i)=some (instObj C (β dd)):=(R.obj i _ e).2
theorem C9:∀k:Nat,handedIn (l6 k)=true
 |0 |1 |2 |3 |4 |5 |6 |7 |8 |9 |10 |11 |12=>by decide +kernel
 |_+13=>rfl
theorem yI{x:AV}{v:Value}(r:ak h β n x v):handedIn v=true:=
 ak.rec (motive_1:=λ_ v _=>handedIn v=true) (motive_2:=λ_ _ _=>True) rfl (λ_=>rfl) (λ_ _=>rfl) (λ_ _=>rfl) (λ_ _ _ _=>rfl) (λ_ _ _ _=>rfl) (λ_ _=>rfl) (λ_=>rfl) C9 (λ_ _ h=>h) trivial (λ_ _ _ _=>trivial) r
theorem n6{l:List (AV×AV)}{dd:Nat}{x:Nat}{r:Option AV}(R:bB w h β σ)(hd:dO (σ.get dd)=some l)(e:dP (.str x) l=some r):∃kvs,h.DictOf (strKind ad w) (β dd) kvs∧aN h β σ.n l kvs∧eP h β σ.n r (valueAt kvs (ae x)):=
 ay e λq e=>aw q λ_ q2=>(D7 (R.obj dd _ (bN hd)).2 q2).elim λkvs z=>⟨kvs,z.1,z.2,sI e▸z.2.find x⟩
theorem pZ{o:Option ai}{p:Nat×Nat}(q:iO o=some p):o=some (.inst p.1 p.2):=by
 cases o with
 |none=>exact al q
 |some o=>cases o with
  |inst C d=>exact sI q▸rfl
  |_=>exact al q
theorem mn{o:Option ai}{l:List (AV×AV)}(q:fO o=some l):o=some (.fro l):=by
 cases o with
 |none=>exact al q
 |some o=>cases o with
  |fro m=>exact cA0 (λl=>some (ai.fro l)) (sI q)
  |_=>exact al q
theorem v9{p:Nat×Nat}{P:Prop}(hΓ:∀C c,look C tabs.clss=some c→gx K C c)(R:bB w h β σ)(q:iO (σ.get i)=some p)(k:∀c,look p.1 tabs.clss=some c→gx K p.1 c→h.get? (β i)=some (instObj p.1 (β p.2))→P):P:=
 (qg R (pZ q)).1.elim λc hc=>k c hc (hΓ _ _ hc) (qg R (pZ q)).2.2
theorem CM{C dd:Addr}{od:Obj}{kvs:List (Str×Value)}{name:Str}{v:Value}{c:qH}(T:gx K C c)(hod:h.get? dd=some od)(D:h.DictOf (strKind ad w) dd kvs)(hn:findIn K (.ref C) name=some none)(f:valueAt kvs name=some v):findObj K C (some od) name=some (.value v):=by
 obtain⟨cd,hcd,hdd⟩:=any_some T.hasD
 unfold findObj
 rw[hcd,Option.bind_some,hn,Option.bind_some]
 show(PySem.W.ownOf cd (some od) name).bind _=_
 unfold PySem.W.ownOf
 rw[if_pos hdd]
 dsimp only
 rw[qL hod D,f]
 rfl
theorem th{c:Addr}{kvs:List (Str×Value)}(D:h.DictOf (strKind ad w) c kvs):∃od,h.get? c=some od:=D.elim λo z=>z.elim λ_ z=>z.elim λ_ z=>⟨o,z.1⟩
theorem vN{x:Nat}{av:AV}{expr:Bool}(hΓ:∀C c,look C tabs.clss=some c→gx K C c)(S:Sit w K A frs h β σ)(e:Ep a x σ=some av)(ra:ak h β σ.n a va)
  (hq:∀v tk,ak h β σ.n av v→Q v ⟨h,g,d,tk,os⟩):wpAny (model ad w) A (getAttr va (ae x) expr) Q E ⟨h,g,d,tk,os⟩:=
 ay e λho e=>aa e λi q0 e=>aa e λp q e=>aa e λl q2 e=>aa e λr q3 e=>ra.oE q0 λ_=>v9 hΓ S.rel q λc hc T hx=>(n6 S.rel q2 q3).elim λkvs z=>z.2.2.some e λu f r=>(th z.1).elim λod hod=>
  get_value (s:=⟨h,g,d,tk,os⟩) (od:=some od) S.top ⟨hx,rfl,rfl,hod⟩ T.ga (CM T hod z.1 (T.attr x ho) f) (yI r) (hq _ _ r)
theorem eh(i:ME)(o v:Value):subscripted (aA i) false o v=operate [o,v] (getItem o v):=by
 cases i <;> rfl
theorem Eg(R:bB w h β σ){l:List (AV×AV)}(q:aO (dO (σ.get i)) (fO (σ.get i))=some l):bz w h β σ.n (.dict l) (β i)∧N0≤β i:=be q (λq=>c7 R (bN q)) λq=>z0 R (mn q)
theorem pM{c:Addr}{l:List (AV×AV)}(D:bz w h β n (.dict l) c):∃o,h.get? c=some o∧o.cls = .type "dict"∧o.dict=none:=
 D.elim (λd=>d.elim λ_ d=>d.1.elim λo z=>z.elim λ_ z=>z.elim λ_ z=>⟨o,z.1,z.2.1.1,z.2.1.2.1⟩) λd=>d.elim λ_ d=>d.1.elim λo z=>z.elim λ_ z=>z.elim λ_ z=>⟨o,z.1,z.2.1.1,z.2.1.2.1⟩
theorem pD(q:bc k=true) : -(2 ^ 63:Int)≤k∧(0:Int)≤k∧(k:Int)<2 ^ 63:=by
 have:=iw q
 omega
theorem HM(q:k<n):seqIndex? (k:Int) n=some k:=by
 unfold seqIndex?
 rw[if_neg (Int.not_lt.mpr (Int.natCast_nonneg k)),if_pos (Bool.and_eq_true_iff.mpr ⟨decide_eq_true (Int.natCast_nonneg k),decide_eq_true (Int.ofNat_lt.mpr q)⟩)]
 rfl
section
variable {value:Expr}{i:ME}{av:AV}(S:Sit w K A frs h β σ)(ra:ak h β σ.n a va)(rb:ak h β σ.n b vb)(hq:∀v tk,ak h β σ.n av v→Q v ⟨h,g,d,tk,os⟩)
include S ra rb hq
theorem H6(e:Ih a b=some av):wpAny (model ad w) A (subscriptTail value (aA i) va vb) Q E ⟨h,g,d,tk,os⟩:=
 aa e λ_ qa e=>aa e λk qb e=>ay e λq e=>ra.tE qa λvs x ep hx _ hl=>rb.nE qb λu=>(hl.at' ((d5 _ _).symm.trans e)).elim λv z=>
  item_tupleT ⟨_,hx,rfl,_,rfl⟩ (pD q).1 (pD q).2.2 (j:=k) (HM (List.getElem?_eq_some_iff.mp z.1).1) z.1 (hq v _ z.2) (eh i _ _)
theorem Me(e:Lb a b σ=some av):wpAny (model ad w) A (subscriptTail value (aA i) va vb) Q E ⟨h,g,d,tk,os⟩:=
 aa e λ_ qa e=>aa e λl ql e=>aa e λk qb e=>ay e λq e=>ra.oE qa λ_=>rb.nE qb λu=>bA S.rel ql λvs ep hx hl=>(hl.at' ((d5 _ _).symm.trans e)).elim λv z=>
  tail_any (T:="list") ⟨_,hx,rfl⟩ PySem.slot_list_getitem.lookup (wpAny_getItem_list hx.isList (pD q).2.1 (pD q).2.2 (x:=v) ((List.getElem?_toArray ..).trans z.1) (hq v _ z.2)) (eh i _ _)
theorem HR(hu:A.units+20<cLine)(e:Jj a b σ=some av):wpAny (model ad w) A (subscriptTail value (aA i) va vb) Q E ⟨h,g,d,tk,os⟩:=
 aa e λ_ qa e=>aa e λl ql e=>aa e λr q e=>ra.oE qa λ_=>(pM (Eg S.rel ql).1).elim λo z=>
  tail_any (T:="dict") ⟨o,z.1,z.2.1⟩ PySem.slot_dict_getitem.lookup (tT (Eg S.rel ql) hu rb (q.trans (cA0 some e)) hq) (eh i _ _)
end
theorem vz{value:Expr}{i:ME}{av:AV}(S:Sit w K A frs h β σ)(hu:A.units+20<cLine)(e:rN a b σ=some av)(ra:ak h β σ.n a va)(rb:ak h β σ.n b vb)
  (hq:∀v tk,ak h β σ.n av v→Q v ⟨h,g,d,tk,os⟩):wpAny (model ad w) A (subscriptTail value (aA i) va vb) Q E ⟨h,g,d,tk,os⟩:=
 be e (H6 S ra rb hq) λe=>be e (Me S ra rb hq) (HR S ra rb hq hu)
theorem sB{l l':List AV}{us:List Value}{ep:Nat}(S:Sit w K A frs h β σ)(hi:σ.get i=some (.list l))(hs:Heap.SameBut (β i) h h')(hl:IsL h' (β i) us.toArray ep)(rv:ValsR h β σ.n l' us) :
  ar w (λ_=>False) frs h h' β β σ (σ.set i (.list l')):=
 ar.upd hi hs S.rel S.tab (λe he a q=>S.sepF e he a q i (S.rel.obj i _ hi).1) ⟨us,ep,hl,rv.mono (e8 S.rel hi hs) (λ_ _=>rfl) (Nat.le_refl _)⟩
theorem pT{x y:AV}{l l':List (AV×AV)}{P:Prop}(e:gS x y l=some l')(k:l.length≤500→dP x l=some (iY x l)→fC x y l=l'→P):P:=
 ay e λq e=>aw q λq1 q2=>k (aM l▸lB0 q2) (by unfold dP; rw[q1]; rfl) (sI e)
theorem mF{o:ai}(S:Sit w K A frs h β σ)(hi:σ.get i=some o):∀e∈frs,∀a,e.frame=some a→β i≠a:=λe he a q=>S.sepF e he a q i (S.rel.obj i _ hi).1
theorem j9{c:Addr}{kvs:List (Str×Value)}(D:h.DictOf (strKind ad w) c kvs):(kvs.map (·.1)).Nodup:=D.elim λ_ z=>z.elim λ_ z=>z.elim λ_ z=>z.2.2.2.2.2
theorem AN{c:Addr}{xs:List (List Str×Addr×Value)}(D:h.DictOfH (tupleKind (strKind ad w)) c xs):(xs.map (·.1)).Nodup:=D.elim λ_ z=>z.elim λ_ z=>z.elim λ_ z=>z.2.2.2.2.2
theorem mt{m:Nat}(q:n=m)(h:n≤500):m≤sizeLine:=q▸lE0 h (by rw[sizeLine_eq]; decide)
theorem yk{x y:AV}{v u:Value}{l l':List (AV×AV)}{Q:Unit→Shared→Prop}(S:Sit w K A frs h β σ)(hu:A.units+20<cLine)(hi:σ.get i=some (.dict l))(e:gS x y l=some l')(rx:ak h β σ.n x v)(ry:ak h β σ.n y u)
  (hq:∀h' tk,ar w (λ_=>False) frs h h' β β σ (σ.set i (.dict l'))→Q () ⟨h',g,d,tk,os⟩):wpAny (model ad w) A (setItem (.ref (β i)) v u) Q E ⟨h,g,d,tk,os⟩:=
 pT e λhlen e2 e=>dGet_el (S.rel.obj i _ hi).2 e2 rx (motive:=λx v=>fC x y l=l'→wpAny (model ad w) A (setItem (.ref (β i)) v u) Q E ⟨h,g,d,tk,os⟩)
  (λk t kvs D' E' _ e=>wpAny_setItem_pairs (knd:=strKind ad w) (strKind_is ad w _ _) D' (λh' D'' hs=>hq _ _ (ar.upd hi hs S.rel S.tab (mF S hi) (.inl ⟨_,D'',(e▸E'.put ry (j9 D')).mono (e8 S.rel hi hs) (λ_ _=>rfl) (Nat.le_refl _)⟩))) (mt E'.length hlen))
  (λk k' b xs hb ho D' E' _ e=>wpAny_setItem_heap (knd:=tupleKind (strKind ad w)) (lD hu) (md hb) D' (λh' D'' hs=>hq _ _ (ar.upd hi hs S.rel S.tab (mF S hi) (.inr ⟨_,D'',(e▸E'.put hb ho ry (AN D')).mono (e8 S.rel hi hs) (λ_ _=>rfl) (Nat.le_refl _)⟩))) (mt E'.length hlen)) e
theorem r8{x:Nat}{y:AV}{u:Value}{Q:Unit→Shared→Prop}(hΓ:∀C c,look C tabs.clss=some c→gx K C c)(S:Sit w K A frs h β σ)(e:Bq a x y σ=some σ')(ra:ak h β σ.n a va)(ry:ak h β σ.n y u)
  (hq:∀h' tk,ar w (λ_=>False) frs h h' β β σ σ'→Q () ⟨h',g,d,tk,os⟩):wpAny (model ad w) A (setAttr va (ae x) u) Q E ⟨h,g,d,tk,os⟩:=
 ay e λho e=>aa e λi q0 e=>aa e λp q e=>aa e λl q2 e=>aa e λl' q3 e=>ra.oE q0 λ_=>v9 hΓ S.rel q λc hc T hx=>pT q3 λhlen e2 e3=>(n6 S.rel q2 e2).elim λkvs z=>
  zo (s:=⟨h,g,d,tk,os⟩) T S.top hx z.1 (T.attr x ho) (z.2.1.length▸lE0 hlen (by decide)) λh' D' hs=>hq _ _ (sI e▸ar.upd (bN q2) hs S.rel S.tab (mF S (bN q2)) (.inl ⟨_,D',(e3▸z.2.1.put ry (j9 z.1)).mono (e8 S.rel (bN q2) hs) (λ_ _=>rfl) (Nat.le_refl _)⟩))
end
section
variable {h:Heap}{Q:Value→Shared→Prop}
theorem Post.listAt{l:List AV}{vs:List Value}{D:Addr}{ep:Nat}(S:Sit w K A frs h β σ)(hv:ValsR h β σ.n l vs)(k:∀b o,h.get? b=some o→h'.get? b=some o)(hD:h.objs.size≤D)(hs:h.objs.size≤h'.objs.size)(hl:IsL h' D vs.toArray ep)
  (P:Post w os X frs h β σ [(.ok (.obj σ.n),σ.push (.list l))] bO Q E):Q (.ref D) ⟨h',g,d,tk,os⟩:=by
 refine P.ok _ _ (.head _) _ (ext β σ.n D) _ tk .new (ar.allocAt S.rel S.tab S.big k hD hs ⟨vs,ep,hl,hv.mono (λa xs n _ e=>k _ _ e) (λi hi=>bX hi) (Nat.le_succ _) (e9 λ_ _ z=>absurd (Heap.lt_size z) (Nat.not_lt.mpr hD))⟩)
theorem vE{dd:Addr}{kvs:List (Str×Value)}(hh:A.handled=none)(lo:(dd == sysModules)=false)(D:s.heap.DictOf (strKind ad w) dd kvs)(h64:kvs.length<64)
  (hq:∀h' tk D vs ss ep,(∀b o,s.heap.get? b=some o→h'.get? b=some o)→s.heap.objs.size≤D→s.heap.objs.size≤h'.objs.size→IsL h' D (List.toArray vs) ep→StrsAre vs ss→ss.Perm (kvs.map (·.1))→sortedS ss=true→Q (.ref D) ⟨h',s.gens,s.drawn,tk,s.os⟩) :
  wpAny (model ad w) A (call (.builtin "sorted") [.ref dd]) Q E s:=by
 obtain⟨o,es,ep,q,r1,r2,r3,r4,r5⟩:=D
 have D':s.heap.DictAt (strKind ad w) dd kvs ep:=⟨o,es,q,r1,r2,r3,r4,r5⟩
 refine call_function_entry kind_sorted plain_sorted entry_sorted (args_sorted1 _) ?_
 unfold Builtin.«sorted»
 refine wpAny_bind (m:=checkCount "sorted" 1 1 _) (wpAny_pure ?_)
 refine wpAny_bind (aW (kdu_collect (A:=A.in1) (kdl_dict lo) hh D' (by rw[sizeLine_eq]; omega) λh' tk acc hk hacc hlt=>?_))
 have hlt:s.heap.objs.size≤h'.objs.size:=hlt
 have hl:acc.toList.length=kvs.length:=by rw[Array.length_toList]; exact hacc.1
 refine wpAny_bind (wpAny_newList ?_ (by rw[hl,sizeLine_eq]; omega))
 have hS:StrsAre acc.toList (kvs.map (·.1)):=by
  have key:∀(vs:List Value) (ks:List (Str×Value)),vs.length=ks.length→(∀(j:Nat)(v:Value),vs[j]?=some v→∃k x,ks[j]?=some (k,x)∧(strKind ad w).is k v=true)→StrsAre vs (ks.map (·.1)):=by
   intro vs
   induction vs with
   |nil=>intro ks hl _; cases ks with |nil=>exact .nil |cons=>simp at hl
   |cons v vs ih=>
    intro ks hl hp
    cases ks with
    |nil=>simp at hl
    |cons y ks=>
     obtain⟨k,x,e,hi⟩:=hp 0 v rfl
     simp at e
     subst e
     obtain⟨t,rfl⟩:=Value.isStrOf_shape hi
     exact .cons _ _ (ih ks (by simpa using hl) λj v e=>hp (j+1) v (by simpa using e))
  refine key _ _ hl λj v e=>?_
  obtain⟨k,x,e1,e2⟩:=hacc.2 j v (by rw[←Array.getElem?_toList]; exact e)
  exact⟨k,x,e1,e2⟩
 have hoL:(h'.push (seqObj "list" acc.toList.toArray 0)).get? h'.objs.size=some (seqObj "list" acc.toList.toArray 0):=Heap.get?_push_size _ rfl
 refine wpAny_bind (wpAny_holding (wpAny_call_entry slot_list_sort ⟨_,hoL,rfl⟩ entry_list_sort (list_sort_treeK strKind_oneLt hoL hS.keysOf (λv₁ v₂ rest e=>keyKind_strs (by rw[←e]; exact hS)) (by rw[hl]; exact h64) λst' a1 a2=>⟨_,rfl,?_⟩) (args_list_sort _)))
 obtain⟨ss',h1,h2,h3⟩:=sorted_out_str hS a1 a2
 obtain⟨e,he⟩:=sortedHeap_at (out:=(arrOf st').map (·.2)) hoL
 refine wpAny_pure ⟨_,rfl,hq _ _ _ (((arrOf st').map (·.2)).toList) ss' e (λb o z=>?_) hlt ?_ ?_ h1 h2 h3⟩
 ·have hb:=Heap.lt_size (hk _ _ z)
  rw[sortedHeap_old (Nat.ne_of_lt hb) (by rw[size_push']; exact Nat.lt_succ_of_lt hb)]
  exact Heap.get?_push_of_some _ (hk _ _ z)
 ·unfold sortedHeap
  rw[Heap.size_update,size_push',size_push',Heap.size_update,size_push']
  omega
 ·show _=_
  rw[Array.toArray_toList]; exact he
theorem xa{l:List AV}{ks:List Nat}(e:yf l=some ks):l=ks.map .str:=by
 induction l generalizing ks with
 |nil=>exact sI e▸rfl
 |cons a l ih=>exact aa e λk q e=>aa e λks q2 e=>sI e▸(show _=AV.str k::ks.map .str by rw[eI q,ih q2])
theorem BJ{l:List AV}{P:Prop}(e:AJ l=true)(k:∀ks:List Nat,l=ks.map .str→yb ks=true→P):P:=(Option.isSome_iff_exists.mp e).elim λ_ e=>aa e λks q e=>ay e λo _=>k ks (xa q) o
theorem AB{ks:List Nat}{vs:List Value}{ss:List Str}(r:StrsAre vs ss):ss=ks.map ae→ValsR h β n (ks.map .str) vs:=by
 induction r generalizing ks with
 |nil=>cases ks with
  |nil=>exact λ_=> .nil
  |cons=>exact nofun
 |cons y t _ ih=>cases ks with
  |nil=>exact nofun
  |cons k ks=>exact λe=>(List.cons.inj e).1▸ .cons (.str k t) (ih (List.cons.inj e).2)
theorem GW:∀x∈[ae 162,ae 163,ae 164],∀y∈[ae 162,ae 163,ae 164],∀z∈[ae 162,ae 163,ae 164],sortedS [x,y,z]=true→[x,y,z].isPerm [ae 162,ae 163,ae 164]=true→[x,y,z]=[ae 162,ae 163,ae 164]:=by decide +kernel
theorem yh{ss:List Str}(hp:ss.Perm [ae 162,ae 163,ae 164])(hs:sortedS ss=true):ss=[ae 162,ae 163,ae 164]:=by
 have hl:=hp.length_eq
 have hm:=λa=>(hp.mem_iff (a:=a)).mp
 cases ss with
 |nil=>exact nomatch hl
 |cons x ss=>cases ss with
  |nil=>exact nomatch hl
  |cons y ss=>cases ss with
   |nil=>exact nomatch hl
   |cons z ss=>cases ss with
    |nil=>exact GW x (hm x (.head _)) y (hm y (.tail _ (.head _))) z (hm z (.tail _ (.tail _ (.head _)))) hs (List.isPerm_iff.mpr hp)
    |cons=>exact nomatch hl
theorem vG{ks:List Nat}{ss:List Str}(e:yb ks=true)(hp:ss.Perm (ks.map ae))(hs:sortedS ss=true):ss=ks.map ae:=by
 cases ks with
 |nil=>exact List.perm_nil.mp hp
 |cons a ks=>cases ks with
  |nil=>exact List.perm_singleton.mp hp
  |cons b ks=>cases ks with
   |nil=>exact aV e
   |cons c ks=>cases ks with
    |nil=>
     exact aw e λq1 e=>aw e λq2 q3=>by
      rw[eB0 q1,eB0 q2,eB0 q3] at hp ⊢
      exact yh hp hs
    |cons=>exact aV e
theorem aN.keysIs{l:List (AV×AV)}{kvs:List (Str×Value)}(E:aN h β n l kvs):∀{ks:List Nat},l.map (·.1)=ks.map .str→kvs.map (·.1)=ks.map ae:=by
 induction E with
 |nil=>exact λ{ks}=>match ks with
  |[]=>λ_=>rfl
  |_::_=>nofun
 |cons hx hl ih=>exact λ{ks}=>match ks with
  |[]=>nofun
  |k::ks=>λe=>congr (cA0 List.cons (cA0 ae (AV.str.inj (List.cons.inj e).1))) (ih (List.cons.inj e).2)
@[elab_as_elim] theorem seqOf_el {v:AV} {u:Value} {l:List AV} {motive:Value→Prop} (R:bB w h β σ) (e:cG σ v=some l) (r:ak h β σ.n v u)
  (k:∀(vs:List Value)(c:Addr)(T:String)(o:Obj)(n:Nat),T = "list"∨T = "tuple"→h.get? c=some o→o.cls = .type T→o.data = .seq vs.toArray n→ValsR h β σ.n l vs→motive (.ref c)):motive u:=
 be e (λq=>r.tE q λvs c ep hc _ hm=>k vs c "tuple" _ ep (.inr rfl) hc rfl rfl hm) λe=>aa e λj q e=>r.oE q λ_=>bA R e λvs ep hx hl=>k vs _ "list" _ ep (.inl rfl) hx rfl rfl hl
theorem oh{i:Int}(e:gB i=true):i.natAbs≤1000001:=by
 cases i with
 |ofNat n=>exact Nat.le_succ_of_le (lB0 e)
 |negSucc n=>exact Nat.succ_le_succ (lB0 e)
theorem ID{i:Int}(e:gB i=true):i.natAbs.log2<1920:=by
 by_cases z:i.natAbs=0
 ·rw[z]; decide
 ·exact(Nat.log2_lt z).mpr (Nat.lt_of_le_of_lt (oh e) (by decide +kernel))
theorem Kd{i:Int}(e:gB i=true):(Str.ofString (toString i)).length≤30:=(PySem.ofString_length _).symm▸int_text_length_le10 (a:=i) (k:=29) (by decide) (Nat.lt_of_le_of_lt (oh e) (by decide +kernel))
theorem h9(q:n≤4000):n≤sizeLine:=lE0 q (by rw[sizeLine_eq]; decide)
theorem uz{x:AV}(q:KS x=some k):x = .b k:=by
 cases x with
 |b j=>exact cA0 AV.b (sI q)
 |_=>exact al q
theorem zq{l:List AV}{vs:List Value}(q:bc (len l)=true)(hl:ValsR h β n l vs):(vs.toArray.size:Int)<2 ^ 63:=Int.ofNat_lt.mpr (Nat.lt_of_le_of_lt (eR q hl) (by decide:4000<2 ^ 63))
theorem C0{ks:List Nat}(e:yb ks=true):ks.length≤3:=by
 cases ks with
 |nil=>exact Nat.zero_le _
 |cons a ks=>cases ks with
  |nil=>exact Nat.le_succ_of_le (Nat.le_succ _)
  |cons b ks=>cases ks with
   |nil=>exact aV e
   |cons c ks=>cases ks with
    |nil=>exact Nat.le_refl _
    |cons=>exact aV e
section
variable (S:Sit w K A frs h β σ){outs:List (ax AV×ac)}(P:Post w os (λ_=>False) frs h β σ outs bO Q E)
include S P
section
variable (ra:ak h β σ.n a va)
include ra
theorem Lh(e:KJ a σ=some outs):wpAny (model ad w) A (call (.builtin "len") [va]) Q E ⟨h,g,d,tk,os⟩:=
 be e (λe=>aa e λl qa e=>ay e λq e=>ra.tE qa λvs x ep hx _ hl=>PySem.P.len_tuple hx (Int.not_le.mpr (zq q hl)) (P.sameE e S (by rw[aM,hl.length]; exact .int _ _)))
  λe=>aa e λ_ qa e=>aa e λl ql e=>ay e λq e=>ra.oE qa λ_=>bA S.rel ql λvs ep hx hl=>call_len_list hx.isList (zq q hl) (P.sameE e S (by rw[aM,hl.length]; exact .int _ _))
theorem HQ(e:LG a σ=some outs):wpAny (model ad w) A (call (.type "int") [va]) Q E ⟨h,g,d,tk,os⟩:=
 be e (λe=>aa e λb qa e=>ra.bE qa (call_int_bool (P.sameE e S (by cases b <;> exact .int _ _)))) λe=>aa e λ_ qa e=>ra.iE qa λ_=>PySem.call_int_int (P.sameE e S (.int _ _))
theorem Kv{l:List AV}{vs:List Value}{x:Addr}{ep:Nat}(hx:IsL h x vs.toArray ep)(hl:ValsR h β σ.n l vs)(q:vs.length≤4000)(P:Post w os (λ_=>False) frs h β σ [(.ok (.tup l),σ)] bO Q E):wpAny (model ad w) A (call (.type "tuple") [.ref x]) Q E ⟨h,g,d,tk,os⟩:=by
 clear ra
 refine aW (call_tuple_list hx.isList (λh' hk hs=>?_) (h9 q))
 have k:∀a o,h.get? a=some o→(h'.push { cls:= .type "tuple",data:= .seq vs.toArray }).get? a=some o:=λa o e=>Heap.get?_push_of_some _ (hk a o e)
 exact P.ok _ _ (.head _) _ β _ _ (.tup (IsT.new h' vs.toArray) (λi hi=>(S.rel.live i hi).elim λo e=>Nat.ne_of_lt (Heap.lt_size (hk _ _ e))) (hl.mono (λ_ _ _ _ e=>k _ _ e) (λ_ _=>rfl) (Nat.le_refl _))) (ar.grow hs k S.rel S.tab)
theorem Mf(e:KO a σ=some outs):wpAny (model ad w) A (call (.type "tuple") [va]) Q E ⟨h,g,d,tk,os⟩:=
 be e (λe=>aa e λl qa e=>ra.tE qa λvs x ep hx ho hl=>call_tuple_same (bk hx) (P.sameE e S (.tup hx ho hl)))
  λe=>aa e λ_ qa e=>aa e λl ql e=>ay e λq e=>ra.oE qa λ_=>bA S.rel ql λvs ep hx hl=>Kv S P (.obj _ ‹_›) hx hl (eR q hl) (P.eq e)
theorem LY(e:JG a σ=some outs):wpAny (model ad w) A (call (.type "list") [va]) Q E ⟨h,g,d,tk,os⟩:=
 aa e λl q e=>ay e λq2 e=>seqOf_el S.rel q ra λvs c T o n hT ho hc hd hl=>aW (call_list_seq c hT ho hc hd (λh' c' hk hn hs=>(P.eq e).listAt S hl hk (Nat.le_refl _) hs hn) (h9 (eR q2 hl)))
theorem KV(e:JJ a σ=some outs):wpAny (model ad w) A (call (.type "str") [va]) Q E ⟨h,g,d,tk,os⟩:=
 aa e λi qa e=>ay e λq e=>ra.iE qa λ_=>PySem.P.str_of_int (ID q) (P.sameE e S (.txt _ _ _ (Kd q)))
theorem KH(e:JX a σ=some outs):wpAny (model ad w) A (call (.builtin "sorted") [va]) Q E ⟨h,g,d,tk,os⟩:=
 aa e λi qa e=>aa e λl ql e=>ay e λq e=>ra.oE qa λ_=>BJ q λks qk ok=>by
  have D':∃kvs,h.DictOf (strKind ad w) (β i) kvs∧aN h β σ.n l kvs:=(c7 S.rel (bN ql)).1.elim id λz=>z.elim λ_ z=>bn.casesOn (motive:=λl xs _=>l.map (·.1)=ks.map AV.str→h.DictOfH (tupleKind (strKind ad w)) (β i) xs→∃kvs,h.DictOf (strKind ad w) (β i) kvs∧aN h β σ.n l kvs) z.2
   (λ_ d=>⟨[],jY d, .nil⟩) (λ_ _ _ _ q=>by cases ks <;> exact nomatch q) qk z.1
  obtain⟨kvs,D',En⟩:=D'
  have km:=En.keysIs qk
  have hl:kvs.length=ks.length:=by rw[←List.length_map (f:=(·.1)) (as:=kvs),km,List.length_map]
  refine vE S.hh (fq (c7 S.rel (bN ql)).2) D' (by rw[hl]; exact Nat.lt_of_le_of_lt (C0 ok) (by decide)) λh' tk D vs ss ep k hD hs hL hS hp hso=>?_
  rw[km] at hp
  exact(P.eq e).listAt S (qk▸AB hS (vG ok hp hso)) k hD hs hL
theorem Nh{b:Bool}(q:Jo a=some b)(hq:∀tk,Q (.bool b) ⟨h,g,d,tk,os⟩):wpAny (model ad w) A (call (.builtin "isinstance") [va, .type "str"]) Q E ⟨h,g,d,tk,os⟩:=
 ak.casesOn (motive_1:=λa va _=>Jo a=some b→wpAny (model ad w) A (call (.builtin "isinstance") [va, .type "str"]) Q E ⟨h,g,d,tk,os⟩) ra (λq=>IsiPair.NoneType_str (sI q▸hq _)) (λ_=>al) (λ_ _=>al) (λ_ _ q=>IsiPair.str_str (sI q▸hq _)) (λ_ _ _ _ q=>IsiPair.str_str (sI q▸hq _))
  (λhx _ _ q=>IsiPair.tuple_str hx rfl (sI q▸hq _)) (λ_ _=>al) (λ_=>al) (λ_=>al) (λ_ _=>al) q
theorem Jm{b:Bool}(q:Cc a=some b)(hq:∀tk,Q (.bool b) ⟨h,g,d,tk,os⟩):wpAny (model ad w) A (call (.builtin "isinstance") [va, .type "tuple"]) Q E ⟨h,g,d,tk,os⟩:=
 ak.casesOn (motive_1:=λa va _=>Cc a=some b→wpAny (model ad w) A (call (.builtin "isinstance") [va, .type "tuple"]) Q E ⟨h,g,d,tk,os⟩) ra al (λ_=>al) (λ_ _=>al) (λ_ _ q=>IsiPair.str_tuple (sI q▸hq _)) (λ_ _ _ _=>al)
  (λhx _ _ q=>IsiPair.tuple_tuple hx rfl (sI q▸hq _)) (λ_ _=>al) (λ_=>al) (λ_=>al) (λ_ _=>al) q
end
theorem II{p:AV×AV}(ra:ak h β σ.n p.1 va)(rb:ak h β σ.n p.2 vb)(e:Jr p σ=some outs):wpAny (model ad w) A (call (.builtin "max") [va,vb]) Q E ⟨h,g,d,tk,os⟩:=
 aa e λx qa e=>aa e λy qb e=>ra.iE qa λ_=>rb.iE qb λ_=>aW (PySem.max_two_ints S.hh λh' tk' k hs=>(P.eq e).ok _ _ (.head _) _ β _ _ (by
  show ak _ _ _ (.int (if x<y then y else x)) (if x<y then _ else _)
  by_cases hxy:x<y
  ·rw[if_pos hxy,if_pos hxy]; exact .int _ _
  ·rw[if_neg hxy,if_neg hxy]; exact .int _ _) (ar.grow hs k S.rel S.tab))
theorem Ix{p:AV×AV}(ra:ak h β σ.n p.1 va)(rb:ak h β σ.n p.2 vb)(e:I7 p σ=some outs):wpAny (model ad w) A (call (.builtin "isinstance") [va,vb]) Q E ⟨h,g,d,tk,os⟩:=
 aa e λk qb e=>by
  rw[uz qb] at rb
  rw[show vb=l6 k from rb.inv]
  exact be e (λe=>ay e λq e=>aa e λb qa e=>eB0 q▸Nh S P ra qa λ_=>(P.sameE e S (.bool b))) λe=>ay e λq e=>aa e λb qa e=>eB0 q▸Jm S P ra qa λ_=>(P.sameE e S (.bool b))
theorem ow{vs:List AV}{us:List Value}(e:qF k vs σ=some outs)(rv:ValsR h β σ.n vs us):wpAny (model ad w) A (call (l6 k) us) Q E ⟨h,g,d,tk,os⟩:=
 match k,e with
 |0,e=>aa e λv q e=>one_el rv q λu ra=>Lh S P ra e
 |1,e=>aa e λv q e=>two_el rv q λu v ra rb=>II S P ra rb e
 |2,e=>aa e λv q e=>one_el rv q λu ra=>HQ S P ra e
 |4,e=>aa e λv q e=>one_el rv q λu ra=>Mf S P ra e
 |5,e=>aa e λv q e=>one_el rv q λu ra=>LY S P ra e
 |9,e=>aa e λv q e=>one_el rv q λu ra=>KH S P ra e
 |10,e=>aa e λv q e=>two_el rv q λu v ra rb=>Ix S P ra rb e
 |11,e=>aa e λv q e=>one_el rv q λu ra=>KV S P ra e
end
end
section
variable {h:Heap}{Q:Value→Shared→Prop}
noncomputable def jG:d8→Value
 | .fn f=> .ref f
 | .app=> .builtin "list.append"
 | .extend=> .builtin "list.extend"
 | .pop=> .builtin "list.pop"
 | .get=> .builtin "dict.get"
 | .values=> .builtin "dict.values"
 | .join=> .builtin "str.join"
theorem Qn:ae 0=Str.ofString "append":=rfl
theorem Qk:ae 1=Str.ofString "extend":=rfl
theorem Qp:ae 2=Str.ofString "pop":=rfl
theorem Ql:ae 3=Str.ofString "get":=rfl
theorem Qm:ae 4=Str.ofString "join":=rfl
theorem Qq:ae 5=Str.ofString "values":=rfl
section
variable {m:d8}{x:Nat}{pl:Sem Bool}{Q:Value×List Value→Shared→Prop}(S:Sit w K A frs h β σ)
theorem yd{α:Type}{a b:α}{P:Prop}(e:look x [(k,a)]=some b)(f:x=k→a=b→P):P:=by
 have e:(Bool.rec none (some a) (Nat.beq x k):Option α)=some b:=e
 revert e
 cases q:Nat.beq x k with
 |false=>exact al
 |true=>exact λe=>f (eB0 q) (sI e)
theorem xQ{α:Type}{a b:α}{l:List (Nat×α)}{P:Prop}(e:look x ((k,a)::l)=some b)(f:x=k→a=b→P)(g:look x l=some b→P):P:=by
 have e:(Bool.rec (look x l) (some a) (Nat.beq x k):Option α)=some b:=e
 revert e
 cases q:Nat.beq x k with
 |false=>exact g
 |true=>exact λe=>f (eB0 q) (sI e)
theorem AG{l:List AV}(S:Sit w K A frs h β σ)(ql:lO (σ.get i)=some l)(e:look x [(0,d8.app),(1, .extend),(2, .pop)]=some m)(hq:Q (jG m,[.ref (β i)]) ⟨h,g,d,tk,os⟩):wpAny (model ad w) A (getMethod (.ref (β i)) (ae x) pl) Q E ⟨h,g,d,tk,os⟩:=
 bA S.rel ql λvs ep hx _=>xQ e (λq1 q2=>q1▸getMethod_builtin ⟨_,hx,rfl⟩ PySem.F.plainAttrs_list PySem.F.slot_list_append PySem.F.type_list_append (λa e=>Value.ref.inj e▸⟨_,hx,rfl⟩) (show Q (jG .app,_) _ from q2▸hq))
  λe=>xQ e (λq1 q2=>q1▸getMethod_builtin ⟨_,hx,rfl⟩ PySem.F.plainAttrs_list PySem.F.slot_list_extend PySem.F.type_list_extend (λa e=>Value.ref.inj e▸⟨_,hx,rfl⟩) (show Q (jG .extend,_) _ from q2▸hq))
  λe=>yd e λq1 q2=>q1▸getMethod_builtin ⟨_,hx,rfl⟩ PySem.F.plainAttrs_list PySem.F.slot_list_pop PySem.F.type_list_pop (λa e=>Value.ref.inj e▸⟨_,hx,rfl⟩) (show Q (jG .pop,_) _ from q2▸hq)
theorem BA{l:List (AV×AV)}(S:Sit w K A frs h β σ)(ql:dO (σ.get i)=some l)(e:look x [(3,d8.get),(5, .values)]=some m)(hq:Q (jG m,[.ref (β i)]) ⟨h,g,d,tk,os⟩):wpAny (model ad w) A (getMethod (.ref (β i)) (ae x) pl) Q E ⟨h,g,d,tk,os⟩:=
 (pM (c7 S.rel (bN ql)).1).elim λo z=>xQ e (λq1 q2=>q1▸getMethod_builtin ⟨o,z.1,z.2.1⟩ PySem.F.plainAttrs_dict PySem.F.slot_dict_get PySem.F.type_dict_get (λa e=>Value.ref.inj e▸⟨o,z.1,z.2.2⟩) (show Q (jG .get,_) _ from q2▸hq))
  λe=>yd e λq1 q2=>q1▸getMethod_builtin ⟨o,z.1,z.2.1⟩ PySem.F.plainAttrs_dict PySem.F.slot_dict_values PySem.F.type_dict_values (λa e=>Value.ref.inj e▸⟨o,z.1,z.2.2⟩) (show Q (jG .values,_) _ from q2▸hq)
theorem Cq{C dd:Nat}{P:Prop}(e:yE tabs C dd x σ=some m)(k:∀l c f,dO (σ.get dd)=some l→dP (.str x) l=some none→look C tabs.clss=some c→look x c.meths=some f→d8.fn f=m→P):P:=
 aa e λl q1 e=>aa e λr q2 e=>by
  cases r with
  |some v=>exact al e
  |none=>exact aa e λc q3 e=>aa e λf q4 e=>k l c f q1 q2 q3 q4 (sI e)
theorem eP.none{o:Option Value}(q:eP h β n .none o):o = .none:=by
 cases o with
 |none=>rfl
 |some v=>exact q.elim
theorem vr{name:Str}{kvs:List (Str×Value)}{dd:Addr}{od:Obj}(hod:h.get? dd=some od)(D:h.DictOf (strKind ad w) dd kvs)(f:valueAt kvs name=none):shadowIn (some od) name=some false:=by
 unfold shadowIn
 dsimp only
 rw[qL hod D,f]
 rfl
theorem Aa{C dd:Nat}(hΓ:∀C c,look C tabs.clss=some c→gx K C c)(S:Sit w K A frs h β σ)(q:iO (σ.get i)=some (C,dd))(e:yE tabs C dd x σ=some m)(hq:Q (jG m,[.ref (β i)]) ⟨h,g,d,tk,os⟩) :
  wpAny (model ad w) A (getMethod (.ref (β i)) (ae x) pl) Q E ⟨h,g,d,tk,os⟩:=
 Cq e λl c f q1 q2 q3 q4 q5=>(n6 S.rel q1 q2).elim λkvs z=>(th z.1).elim λod hod=>
  method_fn (s:=⟨h,g,d,tk,os⟩) (od:=some od) S.top ⟨(qg S.rel (pZ q)).2.2,rfl,rfl,hod⟩ (hΓ C c q3).ga (hΓ C c q3).gt ((hΓ C c q3).meth x f q4).1 ((hΓ C c q3).meth x f q4).2 (vr hod z.1 (eP.none z.2.2)) (show Q (jG (.fn f),_) _ from q5▸hq)
theorem sA(hΓ:∀C c,look C tabs.clss=some c→gx K C c)(S:Sit w K A frs h β σ)(e:iK tabs a x σ=some m)(ra:ak h β σ.n a va)(hq:Q (jG m,[va]) ⟨h,g,d,tk,os⟩):wpAny (model ad w) A (getMethod va (ae x) pl) Q E ⟨h,g,d,tk,os⟩:=by
 revert hq
 exact be e (λe=>aa e λi qa e=>ra.oE qa λ_ hq=>be e (λe=>aa e λp q e=>Aa hΓ S q e hq) λe=>be e (λe=>aa e λl q e=>AG S q e hq) λe=>aa e λl q e=>BA S q e hq)
  λe=>aa e λk qa e=>ra.sE qa λt hq=>yd e λq1 q2=>q1▸getMethod_builtin (typeIs_str _ _ _) PySem.F.plainAttrs_str PySem.F.slot_str_join PySem.F.type_str_join (λa e=>nomatch e) (show Q (jG .join,_) _ from q2▸hq)
end
theorem xw{c:Addr}(hc:(c == sysModules)=false)(hT:s.TypeIs (.ref c) "dict")(hq:Q (.ref s.heap.objs.size) { s with heap:=s.heap.push { cls:= .type "dict_values",data:= .fields #[.ref c] } }) :
  wpAny (model ad w) A (call (.builtin "dict.values") [.ref c]) Q E s:=by
 refine wpAny_call_entry PySem.F.slot_dict_values hT PySem.F.entry_dict_values ?_ (PySem.F.args_dict_values_1 _)
 refine wpAny_bind ?_
 unfold Builtin.Dict.noArgs
 refine wpAny_bind (wpAny_notOrdered_dict hT ?_)
 show wpAny _ _ (pure c) _ _ s
 refine wpAny_pure ?_
 show wpAny _ _ (Builtin.Dict.showsAll c >>= _) _ _ s
 unfold Builtin.Dict.showsAll
 rw[if_neg (by rw[hc]; exact Bool.false_ne_true)]
 exact wpAny_bind (wpAny_pure (wpAny_bind (wpAny_newObj_type (wpAny_pure ⟨_,rfl,hq⟩))))
theorem vm{l:List AV}{vs:List Value}(e:kX l=true)(r:ValsR h β σ.n l vs):∃ys:List Str,StrsAre vs ys∧(ys.map (·.length)).sum≤l.length * 4000∧ys.length=l.length:=by
 induction l generalizing vs with
 |nil=>exact r.nilE ⟨[], .nil,Nat.le_refl _,rfl⟩
 |cons x l ih=>
  refine r.consE λv vs hx hl=>?_
  have next:∀{s:Str}{t:Tok},s.length≤4000→kX l=true→∃ys:List Str,StrsAre (.str s t::vs) ys∧(ys.map (·.length)).sum≤(x::l).length * 4000∧ys.length=(x::l).length:=λhs e=>(ih e hl).elim λys z=>
   ⟨_::ys, .cons _ _ z.1,by rw[List.map_cons,List.sum_cons,List.length_cons,Nat.succ_mul,Nat.add_comm]; exact Nat.add_le_add z.2.1 hs,cA0 Nat.succ z.2.2⟩
  cases x with
  |str k=>exact hx.sE rfl λt=>next (lE0 (ma k) (by decide)) e
  |txt n=>exact aw e λe1 e2=>hx.inv.elim λy z=>z.elim λt z=>z.1▸next (lE0 z.2 (lB0 e1)) e2
  |_=>exact aV e
theorem Post.set{l l':List AV}{us:List Value}{ep:Nat}{x:AV}{v:Value}(S:Sit w K A frs h β σ)(hi:σ.get i=some (.list l))(hs:Heap.SameBut (β i) h h')(hl:IsL h' (β i) us.toArray ep)(rv:ValsR h β σ.n l' us)(rx:ak h β σ.n x v)
  (P:Post w os X frs h β σ [(.ok x,σ.set i (.list l'))] bO Q E) (hX:∀a,X a→False):Q v ⟨h',g,d,tk,os⟩:=
 P.ok _ _ (.head _) _ β _ tk (rx.mono (e8 S.rel hi hs) (λ_ _=>rfl) (Nat.le_refl _)) ((sB S hi hs hl rv).weaken λa z=>z.elim)
theorem FW{l m:Nat}(q:l≤20)(h1:n≤l * 4000)(h2:m≤50):n+l * m≤100000:=lE0 (Nat.add_le_add (lE0 h1 (Nat.mul_le_mul_right _ q)) (Nat.mul_le_mul q h2)) (by decide)
theorem eP.getD{r:Option AV}{o:Option Value}{x:AV}{v:Value}(q:eP h β n r o)(rx:ak h β n x v):ak h β n (r.getD x) (o.getD v):=by
 cases r with
 |none=>cases o with
  |none=>exact rx
  |some v=>exact q.elim
 |some y=>cases o with
  |none=>exact q.elim
  |some v=>exact q
section
variable {r:aP}{vs:List AV}{us:List Value}{outs:List (ax AV×ac)}(S:Sit w K A frs h β σ)(rv:ValsR h β σ.n vs us)(P:Post w os (λ_=>False) frs h β σ outs bO Q E)
include S rv P
theorem CK{k0 t0:Nat}(e:AQ vs σ=some outs):wpAny (model ad w) A (call (.builtin "str.join") (.str (ae k0) t0::us)) Q E ⟨h,g,d,tk,os⟩:=
 aa e λv q e=>one_el rv q λu ru=>aa e λj qj e=>aa e λl ql e=>ay e λq e=>aw q λq3 q4=>ru.oE qj λ_=>bA S.rel ql λus ep hx hl=>(vm q4 hl).elim λys z=>by
  have q3:=lB0 q3
  rw[aM] at q3
  have h8:=FW q3 z.2.1 (ma k0)
  rw[←z.2.2] at h8
  refine join_list hx.isList z.1 (by omega) λt' k=>(P.eq e).same S (.txt 100000 _ _ ?_)
  show(Builtin.Str.glued (ae k0) ys).length≤100000
  rw[StrLaws.glued_eq_join]
  exact lE0 (StrLaws.join_length_le (ae k0) ys) h8
theorem Gn{l:List AV}(hi:σ.get i=some (.list l))(e:xL i l vs σ=some outs):wpAny (model ad w) A (call (.builtin "list.append") (.ref (β i)::us)) Q E ⟨h,g,d,tk,os⟩:=
 aa e λv q e=>one_el rv q λu ru=>ay e λq e=>(mw S.rel hi).elim λus z=>z.elim λep z=>
  append_at z.1 (λh' hs ho=>(P.eq e).set S hi hs (ep:=ep+1) (us:=us++[_]) (by show h'.get? (β i)=_; rw[ho,List.push_toArray]) (z.2.append (.cons ru .nil)) .none λ_ z=>z) (h9 (eR q z.2))
theorem xN{l:List AV}(hi:σ.get i=some (.list l))(e:tI i l vs σ=some outs):wpAny (model ad w) A (call (.builtin "list.extend") (.ref (β i)::us)) Q E ⟨h,g,d,tk,os⟩:=
 aa e λv q e=>one_el rv q λu ru=>aa e λj qj e=>ay e λ_ e=>aa e λm ql e=>ay e λq e=>ru.oE qj λ_=>(mw S.rel hi).elim λus z=>z.elim λep z=>bA S.rel ql λus2 ep2 hx2 hl2=>by
  have q:=un q z.2 hl2
  refine call_meets PySem.F.slot_list_extend ⟨_,z.1,rfl⟩ PySem.F.entry_list_extend (PySem.F.args_list_extend_2 _ _)
   (PySem.AutoSeq1.list_extend_list_list_0 (β i) us.toArray ep (β j) us2.toArray ep2 ?_ (h9 (lE0 (Nat.le_add_right _ _) q)) (Nat.le_succ_of_le (yP q))) ⟨z.1,hx2,(P.eq e).set S hi (Heap.SameBut.update ..) (us:=us++us2) (by rw[←List.append_toArray]; exact IsL.update z.1 (λxs=>xs++us2.toArray)) (z.2.append hl2) .none λ_ z=>z⟩
  rw[Bool.and_eq_true]
  rintro ⟨_,z⟩
  simp[Builtin.List.listTooLong,sizeLine] at z
  omega
theorem F9{l:List AV}(hi:σ.get i=some (.list l))(e:xO i l vs σ=some outs):wpAny (model ad w) A (call (.builtin "list.pop") (.ref (β i)::us)) Q E ⟨h,g,d,tk,os⟩:=
 ay e λq0 e=>aa e λx q1 e=>ay e λq e=>(mw S.rel hi).elim λus z=>z.elim λep z=>by
  have hu:=rv.length
  rw[←aM,eB0 q0] at hu
  rw[List.eq_nil_of_length_eq_zero hu.symm]
  rw[aM,d5] at q1
  refine(z.2.at' q1).elim λv y=>Copied.pop_at (y:=v) z.1 (by rw[List.size_toArray,List.getElem?_toArray,←z.2.length]; exact y.1) (λh' hs ho=>(P.eq e).set S hi hs (ep:=ep+1) (us:=us.take (us.length-1)) ?_ (by rw[nu,aM,z.2.length]; exact z.2.take _) y.2 λ_ z=>z) (h9 (eR q z.2))
  show h'.get? (β i)=_
  rw[ho,List.pop_toArray,List.dropLast_eq_take]
theorem G4{l:List (AV×AV)}(hu:A.units+20<cLine)(hi:σ.get i=some (.dict l))(e:ot l vs σ=some outs):wpAny (model ad w) A (call (.builtin "dict.get") (.ref (β i)::us)) Q E ⟨h,g,d,tk,os⟩:=
 aa e λp q e=>two_el rv q λu u' ru ru'=>aa e λr q2 e=>dGet_el (c7 S.rel hi).1 q2 ru
  (λk t kvs D' E' f=>call_meetsIn PySem.F.slot_dict_get D'.typeIs PySem.F.entry_dict_get (PySem.F.args_dict_get_3 _ _ _) (meets_dict_get_default (strKind ad w) _ (strKind_is ad w _ _) (fq (c7 S.rel hi).2) _) ⟨_,D'.mapOf,(P.sameE e S (f.getD ru'):Q _ ⟨h,g,d,_,os⟩)⟩)
  λk k' b xs hb _ D' E' f=>call_meetsIn PySem.F.slot_dict_get D'.typeIs PySem.F.entry_dict_get (PySem.F.args_dict_get_3 _ _ _) (meetsH_dict_get_default (tupleKind (strKind ad w)) _ _ (fq (c7 S.rel hi).2) _) ⟨lD hu,_,_,md hb,D',(P.sameE e S (f.getD ru'):Q _ ⟨h,g,d,_,os⟩)⟩
theorem xe{l:List (AV×AV)}(hi:σ.get i=some (.dict l))(e:sR i vs σ=some outs):wpAny (model ad w) A (call (.builtin "dict.values") (.ref (β i)::us)) Q E ⟨h,g,d,tk,os⟩:=
 ay e λq0 e=>(pM (c7 S.rel hi).1).elim λo z=>by
  have hu:=rv.length
  rw[←aM,eB0 q0] at hu
  rw[List.eq_nil_of_length_eq_zero hu.symm]
  refine xw (fq (c7 S.rel hi).2) ⟨o,z.1,z.2.1⟩ ?_
  have hi':=(S.rel.obj i _ hi).1
  refine(P.eq e).ok _ _ (.head _) _ (ext β σ.n h.objs.size) _ tk ?_ (ar.alloc S.rel S.tab S.big ⟨Nat.lt_succ_of_lt hi',by rw[bX hi']; exact Heap.get?_push_size _ rfl⟩)
  have:=ak.obj (h:=h.push { cls:= .type "dict_values",data:= .fields #[.ref (β i)] }) (β:=ext β σ.n h.objs.size) (n:=σ.n+1) σ.n (Nat.lt_succ_self _)
  rwa [ci] at this
theorem sw{m:d8}(hm:∀f,m≠ .fn f)(hu:A.units+20<cLine)(e:jT r m a vs σ=some outs)(ra:ak h β σ.n a va):wpAny (model ad w) A (call (jG m) (va::us)) Q E ⟨h,g,d,tk,os⟩:=
 match m,hm,e with
 | .fn f,hm,_=>absurd rfl (hm f)
 | .join,_,e=>aa e λk qa e=>ra.sE qa λt=>CK S rv P e
 | .app,_,e=>aa e λi qa e=>aa e λl ql e=>ra.oE qa λ_=>Gn S rv P (fk ql) e
 | .extend,_,e=>aa e λi qa e=>aa e λl ql e=>ra.oE qa λ_=>xN S rv P (fk ql) e
 | .pop,_,e=>aa e λi qa e=>aa e λl ql e=>ra.oE qa λ_=>F9 S rv P (fk ql) e
 | .get,_,e=>aa e λi qa e=>aa e λl ql e=>ra.oE qa λ_=>G4 S rv P hu (bN ql) e
 | .values,_,e=>aa e λi qa e=>aa e λl ql e=>ra.oE qa λ_=>xe S rv P (bN ql) e
end
end
structure I5(K:Frag)(a:Nat)(F:Fn):Prop where
 obj:∃o fd,K.lookup a=some o∧o.cls = .type "function"∧o.data = .func fd∧fd.scope=bZ F.sc F.fast∧fd.body = .stmts (unSs F.body)∧fd.globals=mainGlobals∧fd.closure=[]∧fd.builtins=builtinsNs∧fd.code = .ref F.code∧
  (F.code=229∨F.code=139→fd.qualname++".<locals>." = lr F.code)∧
  (∀h,K.In h→h.CodeRec fd.code fd.qualname)∧
  ∀(s:Shared) (β:Nat→Addr) (n:Nat) (vs:List AV) (us:List Value) (b:List (Nat×AV)),K.In s.heap→(∀i,i<n→N0≤β i)→po F vs=some b→ValsR s.heap β n vs us→
   ∃ws,BindsTo s fd ⟨us,[]⟩ ((b.map (ae ·.1)).zip ws)∧ValsR s.heap β n (b.map (·.2)) ws
structure aE(K:Frag):Prop where
 low:jU K
 lim:∀h,K.In h→h.NoLimit
 big:∃o,K.lookup 443=some o
 cls:∀C c,look C tabs.clss=some c→gx K C c
 keep:∀a,w6 tabs a=true→keepIn K (.ref a)=true
 keepX:keepIn K (.ref 52)=true∧keepIn K (.ref 64)=true
 fn:∀a F,ek a tabs.fns=some F→I5 K a F
 code:∀h,K.In h→∃mg,h.Ns mainGlobals mg∧(CodeHd h 229 227∧h.BuiltinsAt mg 227)∧CodeHd h 139 137∧h.BuiltinsAt mg 137
 glob:∀x av,ek x tabs.glob=some av→∀h,K.In h→∃v,(∀β n,(∀i,i<n→N0≤β i)→ak h β n av v)∧
  ((∃mg,h.Ns mainGlobals mg∧mg (ae x)=some v)∨(∃mg mb,h.Ns mainGlobals mg∧mg (ae x)=none∧h.Ns builtinsNs mb∧mb (ae x)=some v))
theorem vq:∀s∈di,(Str.ofString s == ("__debug__" : Str))=false∧(Str.ofString s == ("__classdict__" : Str))=false∧(Str.ofString s == ("super" : Str))=false:=by decide +kernel
theorem gp(x:Nat):(ae x == ("__debug__" : Str))=false∧(ae x == ("__classdict__" : Str))=false∧(ae x == ("super" : Str))=false:=by
 cases h:di[x]? with
 |some s=>rw[f6 h]; exact vq s (List.mem_of_getElem? h)
 |none=>
  rw[fU h]
  have key:∀t:Str,(1=t.cps.size→False)→((⟨#[2000000+x]⟩:Str) == t)=false:=λt ht=>beq_eq_false_iff_ne.mpr λe=>ht (by rw[←e]; rfl)
  exact⟨key _ (by decide +kernel),key _ (by decide +kernel),key _ (by decide +kernel)⟩
section
variable {ev:Ev}{h:Heap}{Q:Value→Shared→Prop}
theorem jQ{o:Option ai}{v:Option AV}(q:cO o=some v):o=some (.cell v):=by
 cases o with
 |none=>exact al q
 |some o=>cases o with
  |cell m=>exact cA0 (λl=>some (ai.cell l)) (sI q)
  |_=>exact al q
theorem oP{x:Nat}{v:AV}{P:Prop}(S:St w K A frs env h β σ ev)(e:iq ev x σ=some v)(k:∀c u,env.cells.lookup (ae x)=some c→h.IsCell c (some u)→ak h β σ.n v u→P):P:=
 aa e λc q e=>aa e λu q2 e=>(S.rel.obj c _ (jQ q2)).2.elim λo z=>z.elim λy z=>by
  cases u with
  |none=>exact al e
  |some u=>exact z.2.2.elim λt y=>k _ t (S.cel x c q).1 ⟨o,z.1,z.2.1.trans (cA0 Data.cell y.1)⟩ (sI e▸y.2)
theorem BI{x:Nat}{u:Value}(S:St w K A frs env h β σ ev)(r:(∃mg,h.Ns mainGlobals mg∧mg (ae x)=some u)∨(∃mg mb,h.Ns mainGlobals mg∧mg (ae x)=none∧h.Ns builtinsNs mb∧mb (ae x)=some u))(hq:∀tk,Q u ⟨h,g,d,tk,os⟩) :
  wpAny (model ad w) A (loadGlobal env (ae x)) Q E ⟨h,g,d,tk,os⟩:=
 r.elim (λz=>z.elim λmg z=>loadGlobal_global (by rw[S.eok.glob]; exact z.1) z.2 (hq _)) λz=>z.elim λmg z=>z.elim λmb z=>loadGlobal_builtin (by rw[S.eok.glob]; exact z.1) z.2.1 (by rw[S.eok.bi]; exact z.2.2.1) z.2.2.2 (hq _)
theorem er{x:Nat}{v:AV}{pos:Pos}(T:aE K)(S:St w K A frs env h β σ ev)(e:bw tabs ev x σ=some v)(hq:∀u tk,ak h β σ.n v u→Q u ⟨h,g,d,tk,os⟩) :
  wpAny (model ad w) A (eval (.Name (ae x) pos) env) Q E ⟨h,g,d,tk,os⟩:=by
 refine wpAny_Name ?_ (gp x).1
 refine aa e λk q e=>?_
 have hk:=S.eok.names x k q
 cases k with
 | «local»=>exact S.loc.elim λm z=>(z.2 x v e).elim λu y=>wpAny_loadName_local S.eok.kind hk.is z.1 y.1 (hq _ _ y.2)
 |globalImplicit=>
  rw[loadName_read S.eok.kind (eU.is (k:= .globalImplicit) hk)]
  exact(T.glob x v e h S.top).elim λu z=>BI S z.2 λtk=>hq u tk (z.1 _ _ λi hi=>(S.rel.lo i hi).1)
 |cell=>exact oP S e λc u hc hcell r=>wpAny_loadName_cell S.eok.kind hk.is hc hcell (hq _ _ r)
 |free=>exact oP S e λc u hc hcell r=>hk.elim (λhk=>wpAny_loadName_free S.eok.kind hk hc hcell (hq _ _ r) (gp x).2.1) λhk=>wpAny_loadName_cell S.eok.kind hk.2 hc hcell (hq _ _ r)
 |globalExplicit=>exact al e
end
noncomputable abbrev jg(L:Addr):co ao Unit:=λh β n loc _=>dA h β n L loc
noncomputable abbrev At(L:Addr):Addr→Prop:=λa=>a=L
section
variable {ev:Ev}{h:Heap}{loc:ao}
theorem St.stepL(T:aE K)(S:St w K A frs env h β σ ev)(s:ar w (At env.locals) frs h h' β β' σ σ')(hl:dA h' β' σ'.n env.locals loc):St w K A frs env h' β' σ' { ev with loc:=loc } where
 hh:=S.hh
 fr:=S.fr
 frok:=λe he=>by
  obtain⟨hk,L,o,es,ep,hf,e1,d,l⟩:=S.frok e he
  by_cases q:L=env.locals
  ·obtain⟨m,⟨o',es',ep',ho',hd',_⟩,_⟩:=hl
   exact⟨hk,L,o',es',ep',hf,by rw[q]; exact ho',hd',l⟩
  ·obtain⟨sl,e2⟩:=s.slots e he L o hf e1 q
   exact⟨hk,L,_,es,ep,hf,e2,d,l⟩
 top:=kD T.low S.top S.frok (λa q=>by rw[q]; exact S.loL) S.rel s
 tab:=s.tab
 rel:=s.rel
 sepF:=λe he a q i hi=>by
  obtain⟨_,L,o,_,_,hf,e1,_,_⟩:=S.frok e he
  obtain rfl:=sI (hf.symm.trans q)
  by_cases hl:i<σ.n
  ·rw[s.agree i hl]; exact S.sepF e he _ hf i hl
  ·exact Nat.ne_of_gt (lT0 (Heap.lt_size e1) (s.fresh i (Nat.not_lt.mp hl) hi))
 big:=lE0 S.big s.size
 eok:=S.eok
 loc:=hl
 sepL:=ey S.loc.lt S.sepL s
 loL:=S.loL
 cel:=S.cel.mono s.agree s.n
 hd:=S.hd
structure jc(o:Obj):Prop where
 tup:o.cls≠ .type "tuple"∨∀xs n,o.data≠ .seq xs n
 tab:o.cls≠ .none∨∀xs,o.data≠ .fields xs
 code:∀vs q t,o.data = .fields vs→vs[1]?≠some (.str q t)
theorem ar.touch{D:Addr}{o:Obj}(R:bB w h β σ)(T:fL h)(ho:h.get? D=some o)(hp:jc o)(hβ:∀i,i<σ.n→β i≠D)(hs:Heap.SameBut D h h'):ar w (At D) frs h h' β β σ σ:=by
 have k:∀a o,a≠D→h.get? a=some o→h'.get? a=some o:=λa o q e=>(hs.2 a q).trans e
 have kt:∀a xs n,(∀i,i<σ.n→β i≠a)→IsT h a xs n→IsT h' a xs n:=λa xs n _ e=>k _ _ (by
  rintro rfl; have e:=ho.symm.trans e; cases e; exact hp.tup.elim (λz=>z rfl) λz=>z _ _ rfl) e
 have kb:∀a ps,h.get? a=some (tabObj ps)→h'.get? a=some (tabObj ps):=λa ps e=>k _ _ (by
  rintro rfl; have e:=ho.symm.trans e; cases e; exact hp.tab.elim (λz=>z rfl) λz=>z _ rfl) e
 exact {
  size:=Nat.le_of_eq hs.1.symm
  keep:=λa o e x _ _ _=>k a o x e
  slots:=λenv he a o q e x=>⟨o.slots,k a o x e⟩
  tups:=kt
  tabs:=λa ps _ e _=>kb a ps e
  n:=Nat.le_refl _
  agree:=λ_ _=>rfl
  fresh:=λi a b=>absurd b (Nat.not_lt.mpr a)
  nores:=λj _ e=>e
  rel:={
   obj:=λj x e=>by
    obtain⟨hj,r⟩:=R.obj j x e
    exact⟨hj,r.mono kt (λ_ _=>rfl) (Nat.le_refl _) (λa ps _ e _=>kb a ps e) λo e=>k _ _ (hβ j hj) e⟩
   lo:=λj hj=>⟨(R.lo j hj).1,by rw[hs.1]; exact(R.lo j hj).2⟩
   live:=λj hj=>by obtain⟨o,e⟩:=R.live j hj; exact⟨o,k _ _ (hβ j hj) e⟩
   inj:=R.inj
   fact:=R.fact }
  tab:=λq hq=>by
   obtain⟨ps,e,r⟩:=T q hq
   refine⟨ps,kb _ _ e,r.imp id ?_⟩
   rintro ⟨c',e',c,oc,vs,t,q1,q2,q3,q4⟩
   exact⟨c',e',c,oc,vs,t,q1,k _ _ (by rintro rfl; have q2:=ho.symm.trans q2; cases q2; exact hp.code _ _ _ q3 q4) q2,q3,q4⟩
  hi:=λj hj=>by rw[hs.1]; exact(R.lo j hj).2 }
theorem ar.store{m':Str→Option Value}(S:St w K A frs env h β σ ev)(hs:Heap.SameBut env.locals h h')(_hn:h'.Ns env.locals m'):ar w (At env.locals) frs h h' β β σ σ:=by
 obtain⟨m,⟨o,es,ep,ho,hd,_⟩,_⟩:=S.loc
 exact ar.touch S.rel S.tab ho ⟨.inr (by rw[hd]; exact nofun), .inr (by rw[hd]; exact nofun),by rw[hd]; exact nofun⟩ S.sepL hs
theorem F8{m:Str→Option Value}{x:Nat}{av:AV}{v:Value}{L:Addr}(hn:h'.Ns L (λy=>if y=ae x then some v else m y))(hl:∀y av,look y loc=some av→∃u,m (ae y)=some u∧ak h' β n av u)(hv:ak h' β n av v) :
  dA h' β n L (put x av loc):=by
 refine⟨_,hn,λy a e=>?_⟩
 rw[gi] at e
 by_cases q:y=x
 ·subst q; rw[if_pos rfl] at e; cases e; exact⟨v,if_pos rfl,hv⟩
 ·rw[if_neg q] at e
  obtain⟨u,hu,r⟩:=hl y a e
  exact⟨u,by rw[if_neg λz=>q (fb z)]; exact hu,r⟩
theorem GP{c:Nat}{u:Option AV}(S:St w K A frs env h β σ ev)(e:σ.get c=some (.cell u)):∃o v,h.get? (β c)=some o∧o.data = .cell v∧c<σ.n:=by
 obtain⟨hc,o,v,ho,hd,_⟩:=S.rel.obj c _ e
 exact⟨o,v,ho,hd,hc⟩
theorem yG{x:Nat}{av:AV}{v:Value}{outs:List (ax ao×ac)}{Q:Unit→Shared→Prop}(S:St w K A frs env h β σ ev)(hk:env.kindOf (ae x)=some .cell)(hl:dA h β σ.n env.locals loc)(e:IS ev loc x av σ=some outs)(rv:ak h β σ.n av v)
  (P:Post w os (At env.locals) frs h β σ outs (jg env.locals) Q E):wpAny (model ad w) A (storeName env (ae x) v) Q E ⟨h,g,d,tk,os⟩:=
 aa e λc q2 e=>aa e λu q3 e=>(GP S (jQ q3)).elim λo z=>z.elim λy z=>wpAny_storeName_cell S.eok.kind hk (S.cel x c q2).1 ⟨o,z.1,z.2.1⟩ λh' hc' hs=>by
  have st:ar w (λ_=>False) frs h h' β β σ (σ.set c (.cell (some av))):=ar.upd (jQ q3) hs S.rel S.tab (mF S.toSit (jQ q3)) (hc'.elim λo' z=>⟨o',some v,z.1,z.2,v,rfl,rv.mono (e8 S.rel (jQ q3) hs) (λ_ _=>rfl) (Nat.le_refl _)⟩)
  exact(P.eq e).ok _ _ (.head _) () β h' _ (hl.step S.rel S.sepL S.loL st) (st.weaken λa z=>z.elim)
theorem jW{x:Nat}{av:AV}{v:Value}{outs:List (ax ao×ac)}{Q:Unit→Shared→Prop}(S:St w K A frs env h β σ ev)(hl:dA h β σ.n env.locals loc)(e:k9 ev loc x av σ=some outs)(rv:ak h β σ.n av v)
  (P:Post w os (At env.locals) frs h β σ outs (jg env.locals) Q E):wpAny (model ad w) A (storeName env (ae x) v) Q E ⟨h,g,d,tk,os⟩:=by
 refine aa e λk q e=>?_
 have hk:=S.eok.names x k q
 cases k with
 | «local»=>
  exact hl.elim λm z=>wpAny_storeName_local hk.is z.1 (λh' hn' hs=>(P.eq e).ok _ _ (.head _) () β h' _ (F8 hn' (λy a e=>(z.2 y a e).elim λu w=>⟨u,w.1,(ar.store S hs hn').val w.2⟩) ((ar.store S hs hn').val rv)) (ar.store S hs hn')) (by rw[S.eok.kind]; rfl)
 |cell=>exact yG S hk.is hl e rv P
 |_=>exact al e
end
structure bD(A:Around)(n:Nat):Prop where
 d:A.depth+2 * n+4≤990
 u:A.units+20 * n+100≤9800
theorem bD.mono{m:Nat}(r:bD A n)(h:m≤n):bD A m:=⟨lE0 (Nat.add_le_add_right (Nat.add_le_add_left (Nat.mul_le_mul_left 2 h) _) _) r.d,lE0 (Nat.add_le_add_right (Nat.add_le_add_left (Nat.mul_le_mul_left 20 h) _) _) r.u⟩
theorem bD.cline(r:bD A n):A.units+20<cLine:=Nat.lt_of_le_of_lt (Nat.add_le_add (Nat.le_add_right _ (20 * n)) (by decide:20≤100)) (Nat.lt_of_le_of_lt r.u (by decide:9800<9900))
noncomputable abbrev gG(L:Addr):co (Fl×ao) Flow:=λh β n p f=>dA h β n L p.2∧match p.1 with
 | .next=>f = .next
 | .ret v=>∃u,f = .ret u∧ak h β n v u
section
variable (w:World)(K:Frag)
structure dF(r:aP)(n:Nat):Prop where
 e:∀{A frs env h β σ ev e outs os tk Q E},bD A n→St w K A frs env h β σ ev→r.e ev e σ=some outs→PassesOwn (model ad w) A env E→Post w os (λ_=>False) frs h β σ outs bO Q E→wpAny (model ad w) A (eval (aA e) env) Q E ⟨h,g,d,tk,os⟩
 t:∀{A frs env h β σ ev e outs os tk Q E},bD A n→St w K A frs env h β σ ev→r.t ev e σ=some outs→PassesOwn (model ad w) A env E→Post w os (λ_=>False) frs h β σ outs jZ Q E→wpAny (model ad w) A (isTrue (aA e) env (eval (aA e) env)) Q E ⟨h,g,d,tk,os⟩
 s:∀{A frs env h β σ ev b outs os tk Q E},bD A n→St w K A frs env h β σ ev→r.s ev b σ=some outs→PassesOwn (model ad w) A env E→Post w os (At env.locals) frs h β σ outs (gG env.locals) Q E→wpAny (model ad w) A (execs (unSs b) env) Q E ⟨h,g,d,tk,os⟩
 c:∀{A frs h β σ f vs fv us outs os tk Q E},bD A n→Sit w K A frs h β σ→r.c f vs σ=some outs→ak h β σ.n f fv→ValsR h β σ.n vs us→Post w os (λ_=>False) frs h β σ outs bO Q E→wpAny (model ad w) A (call fv us) Q E ⟨h,g,d,tk,os⟩
end
section
variable {ev:Ev}{h:Heap}{loc:ao}{r:aP}
theorem eC(e:ME)(l:List Expr)(env:Env):starEach (aA e::l) env=(false,eval (aA e) env)::starEach l env:=by
 cases e <;> rfl
theorem cU(e:ME)(l:List ME):unL (e::l)=aA e::unL l:=rfl
theorem Hn:unL []=[]:=rfl
theorem fF(l:List ME)(env:Env)(pos:Pos):(backTo pos (starEach (unL l) env)).any (·.1)=false:=by
 induction l with
 |nil=>rfl
 |cons e l ih=>
  rw[cU,eC]
  exact ih
section
variable {γ δ:Type}{R:co γ δ}{Y:Addr→Prop}{outs:List (ax γ×ac)}{QP:δ→Shared→Prop}
section
variable (H:dF w K r n)(hA:bD A n)(T:aE K)(S:St w K A frs env h β σ ev)(hE:PassesOwn (model ad w) A env E)(P:Post w os Y frs h β σ outs R QP E)
include H hA T S hE P
theorem dF.eB{x:ME}{f:AV→ac→aj γ}{Q:Value→Shared→Prop}(e:bind (r.e ev x σ) f=some outs)(k:∀a σ1 o1 v1 β1 h1 tk1,f a σ1=some o1→ak h1 β1 σ1.n a v1→ar w (λ_=>False) frs h h1 β β1 σ σ1→St w K A frs env h1 β1 σ1 ev→Post w os Y frs h1 β1 σ1 o1 R QP E→Q v1 ⟨h1,g,d,tk1,os⟩) :
  wpAny (model ad w) A (eval (aA x) env) Q E ⟨h,g,d,tk,os⟩:=
 (P.bind (X:=λ_=>False) (R1:=bO) e λ_ z=>z.elim).elim λl z=>H.e hA S z.1 hE (z.2 Q λa σ1 o1 e1 v1 β1 h1 tk1 r1 s1=>k a σ1 o1 v1 β1 h1 tk1 e1 r1 s1 (S.step T.low s1))
theorem dF.tB{x:ME}{f:Bool→ac→aj γ}{Q:Bool→Shared→Prop}(e:bind (r.t ev x σ) f=some outs)(k:∀a σ1 o1 β1 h1 tk1,f a σ1=some o1→ar w (λ_=>False) frs h h1 β β1 σ σ1→St w K A frs env h1 β1 σ1 ev→Post w os Y frs h1 β1 σ1 o1 R QP E→Q a ⟨h1,g,d,tk1,os⟩) :
  wpAny (model ad w) A (isTrue (aA x) env (eval (aA x) env)) Q E ⟨h,g,d,tk,os⟩:=
 (P.bind (X:=λ_=>False) (R1:=jZ) e λ_ z=>z.elim).elim λl z=>H.t hA S z.1 hE (z.2 Q λa σ1 o1 e1 v1 β1 h1 tk1 r1 s1 P1=>r1▸k a σ1 o1 β1 h1 tk1 e1 s1 (S.step T.low s1) P1)
end
end
theorem Be(T:aE K)(H:dF w K r n)(hA:bD A n){pos:Pos}(hE:PassesOwn (model ad w) A env E){l:List ME}{h:Heap}{outs:List (ax (List AV)×ac)}{Q:List Value→Shared→Prop}
  (S:St w K A frs env h β σ ev) (e:fw r ev l σ=some outs) (P:Post w os (λ_=>False) frs h β σ outs mG Q E):wpAny (model ad w) A (spliced (backTo pos (starEach (unL l) env))) Q E ⟨h,g,d,tk,os⟩:=by
 induction l generalizing h β σ tk outs Q with
 |nil=>exact spliced_nil (P.sameE e S.toSit .nil)
 |cons x l ih=>
  rw[cU,eC]
  refine spliced_cons (H.eB hA T S hE P e λa σ1 o1 v1 β1 h1 tk1 e1 r1 s1 S1 P1=>(P1.bind (R1:=mG) e1 λ_ z=>z).elim λl2 z=>ih S1 z.1 (z.2 _ λas σ2 o2 e2 vs β2 h2 tk2 r2 s2 P2=>P2.sameE e2 (S1.step T.low s2).toSit (.cons (s2.val r1) r2)))
section
variable {γ δ:Type}{R:co γ δ}{Y:Addr→Prop}{outs:List (ax γ×ac)}{QP:δ→Shared→Prop}
theorem dF.lB(H:dF w K r n)(hA:bD A n)(T:aE K)(S:St w K A frs env h β σ ev)(hE:PassesOwn (model ad w) A env E)(P:Post w os Y frs h β σ outs R QP E){x:List ME}{pos:Pos}{f:List AV→ac→aj γ}{Q:List Value→Shared→Prop}(e:bind (fw r ev x σ) f=some outs)
  (k:∀a σ1 o1 v1 β1 h1 tk1,f a σ1=some o1→ValsR h1 β1 σ1.n a v1→ar w (λ_=>False) frs h h1 β β1 σ σ1→St w K A frs env h1 β1 σ1 ev→Post w os Y frs h1 β1 σ1 o1 R QP E→Q v1 ⟨h1,g,d,tk1,os⟩):wpAny (model ad w) A (spliced (backTo pos (starEach (unL x) env))) Q E ⟨h,g,d,tk,os⟩:=
 (P.bind (X:=λ_=>False) (R1:=mG) e λ_ z=>z.elim).elim λl z=>Be T H hA hE S z.1 (z.2 Q λa σ1 o1 e1 v1 β1 h1 tk1 r1 s1=>k a σ1 o1 v1 β1 h1 tk1 e1 r1 s1 (S.step T.low s1))
end
end
section
variable {ev:Ev}{h:Heap}{Q:Value→Shared→Prop}{loc:ao}{r:aP}{outs:List (ax AV×ac)}
theorem ar.more{o:ai}{D:Addr}(s:ar w X frs h h' β β' σ σ')(hD:h.objs.size≤D)(hne:∀i,i<σ'.n→β' i≠D)(hlt:D<h'.objs.size)(hN:N0≤D)(hloN:∀i,i<σ'.n→N0≤β' i)(ho:bz w h' (ext β' σ'.n D) (σ'.n+1) o D)(hw:o≠ .own) :
  ar w X frs h h' β (ext β' σ'.n D) σ (σ'.push o):=
 ar.core s hD hne hN (λi x e=>(s.rel.obj i x e).2.mono (λ_ _ _ _ e=>e) (λj hj=>bX hj) (Nat.le_succ _) (λ_ _ _ e _=>e) (λ_ e=>e) (e9 λ_ _=>ho.not_tuple hw)) ho
theorem lx{x:ME}(q:x9 x=some k):∃p,x = .str k p:=by
 cases x with
 |str j p=>exact⟨p,cA0 (ME.str · p) (sI q)⟩
 |_=>exact al q
theorem Db(e:ME)(l:List ME):unO (e::l)=some (aA e)::unO l:=rfl
theorem nQ(ks:List ME):(unO ks).all (·.isSome)=true∧(unO ks).length=ks.length:=by
 induction ks with
 |nil=>exact⟨rfl,rfl⟩
 |cons k ks ih=>exact⟨ih.1,cA0 Nat.succ ih.2⟩
theorem ar.hide(hX:∀a,X a→h.get? a=none)(s:ar w X frs h h' β β' σ σ'):ar w (λ_=>False) frs h h' β β' σ σ':=
 have key:∀a o,h.get? a=some o→¬X a:=λa o e x=>by rw[hX a x] at e; exact al e
 { s with keep:=λa o e _=>s.keep a o e (key a o e),slots:=λenv he a o q e _=>s.slots env he a o q e (key a o e) }
inductive jt:List AV→List (Value×Value)→List Value→Prop
 |nil:jt [] [] []
 |cons (k:Nat) (t:Tok) (u:Value) {kv:List AV} {ps:List (Value×Value)} {us:List Value} (r:jt kv ps us):jt (.str k::kv) ((.str (ae k) t,u)::ps) (u::us)
theorem vB(T:aE K)(H:dF w K r n)(hA:bD A n){pos:Pos}(hE:PassesOwn (model ad w) A env E){ks vs:List ME}{kv:List AV}{h:Heap}{outs:List (ax (List AV)×ac)}{Q:List Value→Shared→Prop}
  (hk:pK ks=some kv) (hl:vs.length=ks.length) (S:St w K A frs env h β σ ev) (e:fw r ev vs σ=some outs) (P:Post w os (λ_=>False) frs h β σ outs mG Q E) :
   wpAny (model ad w) A (evalPairs (pairTrees (unO ks) (unL vs) env pos)) (λps s=>∃us,jt kv ps us∧Q us s) E ⟨h,g,d,tk,os⟩:=by
 induction ks generalizing vs kv h β σ tk outs Q with
 |nil=>cases vs with
  |nil=>exact evalPairs_nil ⟨[],sI hk▸ .nil,P.sameE e S.toSit .nil⟩
  |cons=>exact nomatch hl
 |cons x ks ih=>cases vs with
  |nil=>exact nomatch hl
  |cons y vs=>
   refine aa hk λk q1 hk=>aa hk λkr q hk=>(lx q1).elim λpk z=>?_
   rw[Db,cU,z]
   refine evalPairs_cons (wpAny_Constant_str ?_)
   refine wpAny_bind (H.eB hA T S hE P e λa σ1 o1 v1 β1 h1 tk1 e1 r1 s1 S1 P1=>wpAny_bind (wpAny_standAt (wpAny_pure ?_)))
   exact(P1.bind (R1:=mG) e1 λ_ z=>z).elim λl2 z=>wpAny_mono (ih (Q:=λus s'=>Q (v1::us) s') q (Nat.succ.inj hl) S1 z.1 (z.2 _ λas σ2 o2 e2 us β2 h2 tk2 r2 s2 P2=>P2.sameE e2 (S1.step T.low s2).toSit (.cons (s2.val r1) r2)))
    (λps s' x=>x.elim λus x=>⟨v1::us,sI hk▸ .cons _ _ _ x.1,x.2⟩) λ_ _ z=>z
@[elab_as_elim] theorem ValsR.nilR {h:Heap} {β:Nat→Addr} {n:Nat} {l:List AV} {motive:List AV→Prop} (r:ValsR h β n l []) (k:motive []):motive l:=
 ValsR.casesOn (motive_2:=λl vs _=>vs=[]→motive l) r (λ_=>k) (λ_ _=>nofun) rfl
@[elab_as_elim] theorem ValsR.consR {h:Heap} {β:Nat→Addr} {n:Nat} {l:List AV} {v:Value} {us:List Value} {motive:List AV→Prop} (r:ValsR h β n l (v::us)) (k:∀x m,ak h β n x v→ValsR h β n m us→motive (x::m)):motive l:=
 ValsR.casesOn (motive_2:=λm vs _=>vs=v::us→motive m) r nofun (λhx hl q=>by injection q with q1 q2; exact k _ _ (q1▸hx) (q2▸hl)) rfl
theorem tK{D a:Addr}{kvs:List (Str×Value)}{xs:Array Value}(hD:h.DictOf (strKind ad w) D kvs)(e:IsT h a xs n)(q:a=D):False:=hD.elim λo z=>z.elim λes z=>z.elim λep z=>by
 rw[q] at e
 have r2:=z.2.2.1
 rw[sI (z.1.symm.trans e)] at r2
 exact nomatch r2
theorem vA{D:Addr}{nn:Nat}{kv vv:List AV}{ps:List (Value×Value)}{us:List Value}{dl dl':List (AV×AV)}{kvs:List (Str×Value)}{h:Heap}{Q:PUnit→Shared→Prop}
  (e:jv kv vv dl=some dl') (hk:jt kv ps us) (hv:ValsR h β nn vv us) (hD:h.DictOf (strKind ad w) D kvs) (hE:aN h β nn dl kvs)
  (hq:∀h' tk kvs',Heap.SameBut D h h'→h'.DictOf (strKind ad w) D kvs'→aN h' β nn dl' kvs'→Q ⟨⟩ ⟨h',g,d,tk,os⟩):wpAny (model ad w) A (storeAll D ps) Q E ⟨h,g,d,tk,os⟩:=by
 induction hk generalizing vv dl kvs h tk with
 |nil=>
  unfold storeAll
  rw[List.forIn_nil]
  exact wpAny_pure (hq _ _ _ ⟨rfl,λ_ _=>rfl⟩ hD (sI (show some dl=_ from e)▸hE))
 |cons k t u _ ih=>
  revert e
  refine hv.consR λy vv hy hv e=>aa e λd1 q e=>pT q λhlen _ q=>?_
  unfold storeAll
  rw[List.forIn_cons]
  refine wpAny_bind (wpAny_bind (wpAny_dictSet_pairs (knd:=strKind ad w) (strKind_is ad w _ _) hD (λh' D' hs=>wpAny_pure ?_) (mt hE.length hlen)))
  have km:∀a xs n,(∀i,i<nn→β i≠a)→IsT h a xs n→IsT h' a xs n:=λa xs n _ e=>(hs.2 a (tK hD e)).trans e
  exact ih e (hv.mono km (λ_ _=>rfl) (Nat.le_refl _)) D' ((q▸hE.put hy (j9 hD)).mono km (λ_ _=>rfl) (Nat.le_refl _)) λh'' tk' kvs' hs' D'' E''=>hq h'' tk' kvs' ⟨hs'.1.trans hs.1,λa ha=>(hs'.2 a ha).trans (hs.2 a ha)⟩ D'' E''
end
section
variable {ev:Ev}{h:Heap}{Q:Value→Shared→Prop}{loc:ao}{r:aP}{outs:List (ax AV×ac)}
theorem Post.bindS{α γ δ ε:Type}{Y:Addr→Prop}{R:co γ δ}{outs:List (ax γ×ac)}{Q:δ→Shared→Prop}{R1:co α ε}{o:aj α}{f:α→ac→aj γ}(P:Post w os Y frs h β σ outs R Q E)(e:Mine.bind o f=some outs)(hY:∀a,X a→Y a) :
  ∃l,o=some l∧∀Q1:ε→Shared→Prop,(∀a σ1 l',f a σ1=some l'→∀v1 β1 h1 tk1,R1 h1 β1 σ1.n a v1→ar w X frs h h1 β β1 σ σ1→(∀x∈l',x∈outs)→Q1 v1 ⟨h1,g,d,tk1,os⟩)→
   Post w os X frs h β σ l R1 Q1 E:=
 (bind_some e).elim λl z=>⟨l,z.1,λQ1 k=>⟨λa σ1 hm v1 β1 h1' tk1 hr s=>(z.2.1 a σ1 hm).elim λl' y=>k a σ1 l' y.1 v1 β1 h1' tk1 hr s y.2,λc σ1 hm x β1 h1' tk1 t=>P.exc c σ1 (z.2.2 c σ1 hm) x β1 h1' tk1 (t.weaken hY)⟩⟩
theorem um(h:Heap):h.get? h.objs.size=none:=Option.eq_none_iff_forall_ne_some.mpr λo q=>absurd (Heap.lt_size q) (Nat.lt_irrefl _)
theorem rj(op:CmpOp)(e:ME):behindInMarks op (aA e)=false:=by cases e <;> rfl
theorem Post.grown{α γ:Type}{R:co α γ}{Q:γ→Shared→Prop}{x:α}{v:γ}(hr:R h' β σ.n x v)(s:ar w X frs h h' β β σ σ)(P:Post w os X frs h β σ [(.ok x,σ)] R Q E):Q v ⟨h',g,d,tk,os⟩:=
 P.ok _ _ (.head _) v β h' tk hr s
theorem DF(y:Nat):(ae y != ("super" : Str))=true:=cA0 not (gp y).2.2
theorem vU{o:ME}{x:Str}{m:Sem Value}(hm:wpAny (model ad w) A m Q E s):wpAny (model ad w) A (attributeBase (aA o) x env m) Q E s:=by
 cases o with
 |call f as p=>
  cases f with
  |name y py=>
   cases as with
   |nil=>
    show wpAny _ _ (attributeBase (.Call (.Name (ae y) py) [] [] p) x env m) _ _ _
    unfold attributeBase
    dsimp only
    rw[if_pos (by rw[DF]; rfl)]
    exact hm
   |cons e l=>exact hm
  |_=>exact hm
 |_=>exact hm
theorem t9{pos:Pos}{op:BoolOp}{x:Sem Value}{y:Sem Value}{l:List (Sem Value)}(hx:wpAny (model ad w) A x (λv s₁=>∃b,v = .bool b∧(match op,b with | .And,false=>Q (.bool false) s₁ | .Or,true=>Q (.bool true) s₁ |_,_=>wpAny (model ad w) A (boolOp pos op (y::l)) Q E s₁)) E s) :
  wpAny (model ad w) A (boolOp pos op (x::y::l)) Q E s:=by
 rw[boolOp]
 ·refine wpAny_bind (wpAny_mono hx (λv s₁ h₁=>h₁.elim λb h₁=>?_) λ_ _ z=>z)
  rw[h₁.1]
  refine wpAny_bind (wpAny_standAt (wpAny_bind (wpAny_holding (wpAny_truthy_bool ?_))))
  cases op <;> cases b <;> first|exact wpAny_pure h₁.2 |exact h₁.2
 ·exact nofun
theorem pn{o:Obj}{us:List Value}{l:List AV}{h:Heap}(S:Sit w K A frs h β σ)(hl:ValsR h β σ.n l us)(P:Post w os X frs h β σ [(.ok (.obj σ.n),σ.push (.list l))] bO Q E):Q (.ref (h.objs.size+1)) ⟨(h.push o).push { cls:= .type "list",data:= .seq us.toArray },g,d,tk,os⟩:=by
 refine P.listAt (vs:=us) (ep:=0) S hl (λb o e=>Heap.get?_push_of_some _ (Heap.get?_push_of_some _ e)) (Nat.le_succ _) (by rw[Heap.size_push,Heap.size_push]; exact Nat.le_succ_of_le (Nat.le_succ _)) ?_
 have:=IsL.new (h.push o) us.toArray
 rwa [Heap.size_push] at this
theorem v6{l:List AV}{vs:List Value}{h:Heap}(q:Nat.ble k (len l)=true)(hl:ValsR h β n l vs):k≤vs.toArray.size:=lE0 (lB0 q) (Nat.le_of_eq ((aM l).trans hl.length))
section
variable (T:aE K)(H:dF w K r n)(hA:bD A n)(hE:PassesOwn (model ad w) A env E)
include T H hA hE
section
variable (S:St w K A frs env h β σ ev)
include S
section
variable {Q:Bool→Shared→Prop}{outs:List (ax Bool×ac)}(P:Post w os (λ_=>False) frs h β σ outs jZ Q E)
include P
theorem Mj{op:CmpOp}{x y:ME}{p:Pos}(e:stepT r ev (.cmp op x y p) σ=some outs):wpAny (model ad w) A (isTrue (aA (.cmp op x y p)) env (eval (aA (.cmp op x y p)) env)) Q E ⟨h,g,d,tk,os⟩:=
 wpAny_isTrue_Compare1 (H.eB hA T S hE P e λa σ1 o1 v1 β1 h1 tk1 e1 r1 s1 S1 P1=>H.eB hA T S1 hE P1 e1 λb σ2 o2 v2 β2 h2 tk2 e2 r2 s2 S2 P2=>aa e2 λc q3 e2=>
  m8 S2.toSit hA.cline (s2.val r1) r2 q3 λh' tk s3=>wpAny_truthy_bool ((P2.eq e2).grown rfl s3)) (rj op y)
end
variable (P:Post w os (λ_=>False) frs h β σ outs bO Q E)
include P
theorem MG{op:Operator}{x y:ME}{p:Pos}(e:eV tabs r ev (.bin op x y p) σ=some outs):wpAny (model ad w) A (eval (aA (.bin op x y p)) env) Q E ⟨h,g,d,tk,os⟩:=
 wpAny_BinOp (H.eB hA T S hE P e λa σ1 o1 v1 β1 h1 tk1 e1 r1 s1 S1 P1=>H.eB hA T S1 hE P1 e1 λb σ2 o2 v2 β2 h2 tk2 e2 r2 s2 S2 P2=>vF S2.toSit (s2.val r1) r2 P2 e2)
theorem Nu{op:CmpOp}{x y:ME}{p:Pos}(e:eV tabs r ev (.cmp op x y p) σ=some outs):wpAny (model ad w) A (eval (aA (.cmp op x y p)) env) Q E ⟨h,g,d,tk,os⟩:=
 wpAny_Compare1 (H.eB hA T S hE P e λa σ1 o1 v1 β1 h1 tk1 e1 r1 s1 S1 P1=>H.eB hA T S1 hE P1 e1 λb σ2 o2 v2 β2 h2 tk2 e2 r2 s2 S2 P2=>aa e2 λc q3 e2=>
  m8 S2.toSit hA.cline (s2.val r1) r2 q3 λh' tk s3=>(P2.eq e2).grown (.bool _) s3) (rj op y)
theorem NG{x:ME}{p:Pos}(e:eV tabs r ev (.not x p) σ=some outs):wpAny (model ad w) A (eval (aA (.not x p)) env) Q E ⟨h,g,d,tk,os⟩:=
 wpAny_UnaryOp (H.eB hA T S hE P e λa σ1 o1 v1 β1 h1 tk1 e1 r1 s1 S1 P1=>aa e1 λb q e1=>r1.bE q (not_value (wpAny_truthy_bool (P1.sameE e1 S1.toSit (.bool _)))))
theorem Mg{t x y:ME}{p:Pos}(e:eV tabs r ev (.ifx t x y p) σ=some outs):wpAny (model ad w) A (eval (aA (.ifx t x y p)) env) Q E ⟨h,g,d,tk,os⟩:=
 wpAny_IfExp (H.tB hA T S hE P e λc σ1 o1 β1 h1 tk1 e1 s1 S1 P1=>match c,e1 with
  |true,e1=>H.e hA S1 e1 hE P1
  |false,e1=>H.e hA S1 e1 hE P1)
theorem Mr{l:List ME}{p:Pos}(e:eV tabs r ev (.tup l p) σ=some outs):wpAny (model ad w) A (eval (aA (.tup l p)) env) Q E ⟨h,g,d,tk,os⟩:=
 wpAny_Tuple (H.lB hA T S hE P e λvs σ1 o1 us β1 h1 tk1 e1 r1 s1 S1 P1=>ay e1 λq e1=>⟨h9 (eR q r1),(P1.eq e1).tup S1.toSit r1⟩)
theorem Mv{l:List ME}{p:Pos}(e:eV tabs r ev (.lst l p) σ=some outs):wpAny (model ad w) A (eval (aA (.lst l p)) env) Q E ⟨h,g,d,tk,os⟩:=
 wpAny_List (H.lB hA T S hE P e λvs σ1 o1 us β1 h1 tk1 e1 r1 s1 S1 P1=>ay e1 λq e1=>⟨h9 (eR q r1),(P1.eq e1).list S1.toSit r1⟩)
theorem M1{o:ME}{x:Nat}{p:Pos}(e:eV tabs r ev (.att o x p) σ=some outs):wpAny (model ad w) A (eval (aA (.att o x p)) env) Q E ⟨h,g,d,tk,os⟩:=by
 show wpAny _ _ (eval (.Attribute (aA o) (ae x) p) env) _ _ _
 rw[arm_eval_Attribute]
 exact wpAny_bind (vU (H.eB hA T S hE P e λa σ1 o1 v1 β1 h1 tk1 e1 r1 s1 S1 P1=>wpAny_bind (wpAny_standAt (wpAny_bind (wpAny_holding (aa e1 λv q2 e1=>
  vN T.cls S1.toSit q2 r1 λu tk ru=>wpAny_bind (wpAny_letTemporaryGo (wpAny_pure (P1.sameE e1 S1.toSit ru)))))))))
theorem Nw{o i:ME}{p:Pos}(e:eV tabs r ev (.sub o i p) σ=some outs):wpAny (model ad w) A (eval (aA (.sub o i p)) env) Q E ⟨h,g,d,tk,os⟩:=
 Subscript_ (H.eB hA T S hE P e λa σ1 o1 v1 β1 h1 tk1 e1 r1 s1 S1 P1=>H.eB hA T S1 hE P1 e1 λb σ2 o2 v2 β2 h2 tk2 e2 r2 s2 S2 P2=>aa e2 λv q3 e2=>
  kba_turn (value':= .Name (Str.ofString "x") (pz 0 0 0)) (λ_=>rfl) (vz S2.toSit hA.cline q3 (s2.val r1) r2 λu tk ru=>P2.sameE e2 S2.toSit ru))
end
section
variable (S:St w K A frs env h β σ ev)(P:Post w os (λ_=>False) frs h β σ outs bO Q E)
include S P
theorem Nl{x:Nat}{px ps p:Pos}{u:ME}(e:(bind (r.e ev (.name x px) σ) λv σ=>bind (r.e ev u σ) λk σ=>E9 v k σ)=some outs):wpAny (model ad w) A (eval (aA (.slU (.name x px) u ps p)) env) Q E ⟨h,g,d,tk,os⟩:=by
 refine wpAny_Subscript_list_slice (H.eB hA T S hE P e λa σ1 o1 v1 β1 h1 tk1 e1 r1 s1 S1 P1=>?_) (λ_ _=>rfl)
 rw[evalPart_none]
 refine wpAny_pure ?_
 rw[evalPart_some]
 refine H.eB hA T S1 hE P1 e1 λb σ2 o2 v2 β2 h2 tk2 e2 r2 s2 S2 P2=>aa e2 λk qb e2=>aa e2 λj qa e2=>aa e2 λl ql e2=>ay e2 λq e2=>aw q λq5 q6=>bA S2.rel ql λvs ep hx hl=>
  r2.nE qb λt=>⟨_,_,none,some (k:Int),(s2.val r1).oE qa λ_=>rfl,hx.isList,h9 (eR q6 hl), .none, .int _ _,?_⟩
 rw[slicePick_upto _ _ (v6 q5 hl)]
 exact pn S2.toSit (nu k l▸hl.take k) (P2.eq e2)
theorem Mq{x:Nat}{px ps p:Pos}{u:ME}(e:(bind (r.e ev (.name x px) σ) λv σ=>bind (r.e ev u σ) λk σ=>Ee v k σ)=some outs):wpAny (model ad w) A (eval (aA (.slL (.name x px) u ps p)) env) Q E ⟨h,g,d,tk,os⟩:=by
 refine wpAny_Subscript_list_slice (H.eB hA T S hE P e λa σ1 o1 v1 β1 h1 tk1 e1 r1 s1 S1 P1=>?_) (λ_ _=>rfl)
 rw[evalPart_some]
 refine H.eB hA T S1 hE P1 e1 λb σ2 o2 v2 β2 h2 tk2 e2 r2 s2 S2 P2=>aa e2 λk qb e2=>aa e2 λj qa e2=>aa e2 λl ql e2=>ay e2 λq e2=>aw q λq5 q6=>bA S2.rel ql λvs ep hx hl=>r2.nE qb λt=>?_
 rw[evalPart_none]
 refine wpAny_pure ⟨_,_,some (k:Int),none,(s2.val r1).oE qa λ_=>rfl,hx.isList,h9 (eR q6 hl), .int _ _, .none,?_⟩
 rw[slicePick_from _ _ (v6 q5 hl)]
 exact pn S2.toSit (to k l▸hl.drop k) (P2.eq e2)
end
theorem yM{op:BoolOp}{p:Pos}{l:List ME}{h:Heap}{outs:List (ax AV×ac)}(S:St w K A frs env h β σ ev)(e:BQ r ev op l σ=some outs)(P:Post w os (λ_=>False) frs h β σ outs bO Q E) :
  wpAny (model ad w) A (boolOp p op (evalEach (unL l) env)) Q E ⟨h,g,d,tk,os⟩:=by
 induction l generalizing h β σ tk outs with
 |nil=>exact al e
 |cons x l ih=>cases l with
  |nil=>exact H.e hA S e hE P
  |cons y l=>
   refine t9 (H.eB hA T S hE P e λa σ1 o1 v1 β1 h1 tk1 e1 r1 s1 S1 P1=>aa e1 λb q e1=>r1.bE q ⟨b,rfl,?_⟩)
   cases op <;> cases b <;> first|exact ih S1 e1 P1 |exact P1.sameE e1 S1.toSit (.bool _)
theorem yA{op:BoolOp}{Q:Bool→Shared→Prop}{l:List ME}{h:Heap}{outs:List (ax Bool×ac)}(S:St w K A frs env h β σ ev)(e:Cx r ev op l σ=some outs)(P:Post w os (λ_=>False) frs h β σ outs jZ Q E) :
  wpAny (model ad w) A (allTrue op (unL l) env) Q E ⟨h,g,d,tk,os⟩:=by
 induction l generalizing h β σ tk outs with
 |nil=>cases op with
  |And=>exact wpAny_allTrue_And_nil (P.sameE e S.toSit rfl)
  |Or=>exact wpAny_allTrue_Or_nil (P.sameE e S.toSit rfl)
 |cons x l ih=>
  cases op with
  |And=>exact wpAny_allTrue_And_cons (H.tB hA T S hE P e λb σ1 o1 β1 h1 tk1 e1 s1 S1 P1=>match b,e1 with
   |true,e1=>ih S1 e1 P1
   |false,e1=>P1.sameE e1 S1.toSit rfl)
  |Or=>exact wpAny_allTrue_Or_cons (H.tB hA T S hE P e λb σ1 o1 β1 h1 tk1 e1 s1 S1 P1=>match b,e1 with
   |true,e1=>P1.sameE e1 S1.toSit rfl
   |false,e1=>ih S1 e1 P1)
end
noncomputable abbrev sT(h:Heap):Heap:=h.push { cls:= .type "dict",data:= .dict #[] }
theorem wV(h:Heap):(sT h).get? h.objs.size=some { cls:= .type "dict",data:= .dict #[] }:=Heap.get?_push_size _ rfl
theorem i9(S:Sit w K A frs h β σ):ar w (λ_=>False) frs h (sT h) β β σ σ:=ar.grow (by rw[Heap.size_push]; exact Nat.le_succ _) (λa o e=>Heap.get?_push_of_some _ e) S.rel S.tab
theorem ri{h1:Heap}{β1:Nat→Addr}(S:Sit w K A frs h β σ)(s1:ar w (λ_=>False) frs (sT h) h1 β β1 σ σ1):h1.get? h.objs.size=some { cls:= .type "dict",data:= .dict #[] }:=
 s1.keep _ _ (wV h) id (λi hi z=>absurd z.symm (Nat.ne_of_lt (S.rel.lo i (S.rel.lt hi)).2)) (λe0 he z=>(S.frok e0 he).2.elim λL y=>y.elim λo y=>y.elim λes y=>y.elim λep y=>Nat.lt_irrefl _ (Heap.lt_size (sI (y.1.symm.trans z)▸y.2.1)))
  λz=>absurd S.big (by rcases z with z |z <;> rw[z] <;> decide)
theorem we{β1:Nat→Addr}{h1 h2:Heap}{tk2:Nat}{kvs':List (Str×Value)}{dl:List (AV×AV)}(T:aE K)(S:Sit w K A frs h β σ)(s1:ar w (λ_=>False) frs (sT h) h1 β β1 σ σ1)(hs:Heap.SameBut h.objs.size h1 h2)(D2:h2.DictOf (strKind ad w) h.objs.size kvs')
  (E2:aN h2 β1 σ1.n dl kvs') (P1:Post w os (λ_=>False) frs h β σ [(.ok (.obj σ1.n),σ1.push (.dict dl))] bO Q E):Q (.ref h.objs.size) ⟨h2,g,d,tk2,os⟩:=by
 have S1:=(S.step T.low (i9 S)).step T.low s1
 have ne1:∀i,i<σ1.n→β1 i≠h.objs.size:=λi hi=>by
  by_cases hl:i<σ.n
  ·rw[s1.agree i hl]; exact Nat.ne_of_lt (S.rel.lo i hl).2
  ·have:=s1.fresh i (Nat.not_lt.mp hl) hi
   rw[Heap.size_push] at this
   exact Nat.ne_of_gt this
 have g1:=ri S s1
 have s2:ar w (At h.objs.size) frs h1 h2 β1 β1 σ1 σ1:=ar.touch S1.rel S1.tab g1 ⟨.inl (cx rfl), .inl nofun,nofun⟩ ne1 hs
 have s3:ar w (λ_=>False) frs h h2 β β1 σ σ1:=ar.hide (λa z=>by rw[z]; exact um h) ((((i9 S).trans s1).weaken λ_ z=>z.elim).trans s2)
 have lt2:h.objs.size<h2.objs.size:=by rw[hs.1]; exact Heap.lt_size g1
 refine P1.ok _ _ (.head _) _ _ h2 tk2 .new (ar.more (o:= .dict dl) s3 (Nat.le_refl _) ne1 lt2 S.big (λi hi=>(s3.rel.lo i hi).1) (.inl ⟨_,D2,E2.mono (λ_ _ _ _ z=>z) (λi hi=>bX hi) (Nat.le_succ _) (e9 λxs ep z=>tK D2 z rfl)⟩) nofun)
theorem mV(l:List ME):(unL l).length=l.length:=by
 induction l with
 |nil=>rfl
 |cons y l ih=>exact cA0 Nat.succ ih
section
variable (T:aE K)(H:dF w K r n)(hA:bD A n)(hE:PassesOwn (model ad w) A env E)
include T H hA hE
theorem MP{ks vs:List ME}{p:Pos}(S:St w K A frs env h β σ ev)(P:Post w os (λ_=>False) frs h β σ outs bO Q E)(e:eV tabs r ev (.dct ks vs p) σ=some outs):wpAny (model ad w) A (eval (aA (.dct ks vs p)) env) Q E ⟨h,g,d,tk,os⟩:=
 aa (show D9 r ev ks vs σ=some outs from e) λkv q1 e=>ay e λq2 e5=>aw q2 λq3 q4=>by
  have q3:=eB0 q3
  have q4:=lB0 q4
  rw[aM,aM] at q3
  rw[aM] at q4
  have S0:=S.step T.low (i9 S.toSit)
  have D0:(sT h).DictOf (strKind ad w) h.objs.size []:=Heap.DictOf.new h
  cases ks with
  |nil=>
   cases vs with
   |cons=>exact nomatch q3
   |nil=>
    refine wpAny_Dict_empty (we T S.toSit (ar.refl S0.rel S0.tab) ⟨rfl,λ_ _=>rfl⟩ D0 .nil (P.eq ?_))
    rw[←sI q1] at e5
    exact e5
  |cons x ks=>
   refine wpAny_Dict_any (nQ _).1 ((nQ _).2.trans (q3.trans (mV vs).symm)) (List.cons_ne_nil _ _) (lE0 (Nat.le_of_eq (nQ _).2) (lE0 q4 (by decide))) ?_
   have P0:=P.at (i9 S.toSit) (l:=outs) λ_ z=>z
   refine(P0.bindS (X:=λ_=>False) (R1:=mG) e5 (λ_ z=>z)).elim λl2 z=>wpAny_mono (vB (Q:=λus s'=>∀ps,jt kv ps us→wpAny (model ad w) A (storeAll h.objs.size ps) (λ_ s₂=>Q (.ref h.objs.size) s₂) E s') T H hA hE q1 q3.symm S0 z.1
    (z.2 _ λvv σ1 o1 e1 us β1 h1 tk1 r1 s1 hsub ps hps=>aa e1 λdl q7 e1=>vA q7 hps r1 (D0.at λo e=>((wV h).symm.trans e)▸ri S.toSit s1) .nil λh2 tk2 kvs' hs D2 E2=>
     we T S.toSit s1 hs D2 E2 ((P.at (ar.refl S.rel S.tab) hsub).eq e1))) (λps s' x=>x.elim λus x=>x.2 ps x.1) λ_ _ z=>z
end
end
section
variable {ev:Ev}{h:Heap}{Q:Value→Shared→Prop}{loc:ao}{r:aP}{outs:List (ax AV×ac)}
theorem mZ{f:Value}{as:List ME}{pos:Pos}{Q:Args→Shared→Prop}(hq:wpAny (model ad w) A (spliced (backTo pos (starEach (unL as) env))) (λvs s'=>Q ⟨vs,[]⟩ s') E s) :
  wpAny (model ad w) A (evalArgs f true (backTo pos (starEach (unL as) env)) []) Q E s:=by
 cases as with
 |nil=>
  rw[Hn] at hq ⊢
  unfold evalArgs
  show wpAny _ A (spliced [] >>= _) Q E s
  refine wpAny_bind (wpAny_mono hq (λvs s' h'=>?_) λ_ _ x=>x)
  refine wpAny_bind (wpAny_pure (wpAny_holding ?_))
  simp only[List.all_nil,if_true]
  refine wpAny_bind (wpAny_evalAll_nil ?_)
  exact wpAny_bind (wpAny_pure (wpAny_pure h'))
 |cons x l=>
  rw[cU,eC] at hq ⊢
  exact evalArgs_plain hq
noncomputable def lN(w:World)(f:Value)(h:Heap):Prop:=∃k,(k=Keeper.frame∨k=Keeper.machine∨k=Keeper.boundFrame)∧Looks (model ad w) h (keeperOf f) k
theorem tw:∀k:Nat,keeperOf (l6 k)=pure .machine
 |0 |1 |2 |3 |4 |5 |6 |7 |8 |9 |10 |11 |12=>rfl
 |_+13=>rfl
theorem wy{a:Addr}{ob:Obj}{fd:FuncData}(ho:h.get? a=some ob)(hd:ob.data = .func fd):lN w (.ref a) h:=⟨.frame, .inl rfl,(Looks.ld (part:=none) ho).andThen (by rw[hd]; exact .now)⟩
theorem Cg(R:bB w h β σ)(e:NS (σ.get i)=true):lN w (.ref (β i)) h:=by
 have q:=R.obj i
 cases z:σ.get i with
 |none=>rw[z] at e; exact aV e
 |some o=>
  have q:=(q o z).2
  rw[z] at e
  clear z
  cases o with
  |lam ps body sc cl=>exact q.elim λcs z=>z.elim λpm z=>z.elim λc' z=>z.elim λctv z=>wy z.1 rfl
  |fn x ps body sc cl=>exact q.elim λcs z=>z.elim λdoc z=>z.elim λpm z=>z.elim λc' z=>z.elim λctv z=>wy z.1 rfl
  |_=>exact aV e
theorem GC(T:aE K)(S:Sit w K A frs h β σ)(e:ju tabs a σ=true)(ra:ak h β σ.n a va):lN w va h:=
 ak.casesOn (motive_1:=λa va _=>ju tabs a σ=true→lN w va h) ra aV (λ_=>aV) (λ_ _=>aV) (λ_ _=>aV) (λ_ _ _ _=>aV) (λ_ _ _=>aV) (λi _ e=>Cg S.rel e) (λx e=>keeps_K (T.keep x e) h S.top)
  (λk _=>⟨.machine, .inr (.inl rfl),by rw[tw]; exact .now⟩) (λ_ _=>aV) e
theorem Dh{as:List ME}{p:Pos}(q:Nat.ble (len as) 20=true):methodCallForm ((unL as).length+([]:List Keyword).length) (backTo p (starEach (unL as) env)) (backToKw p (keywordEach [] env))=true:=by
 have h3:=fF as env p
 unfold methodCallForm
 rw[Bool.and_eq_true,Bool.and_eq_true]
 refine⟨⟨?_,rfl⟩,?_⟩
 ·rw[List.all_eq_true]
  rw[List.any_eq_false] at h3
  exact λy hy=>by simpa using h3 y hy
 ·rw[mV,←aM]
  exact decide_eq_true (Nat.lt_of_le_of_lt (lB0 q) (by decide))
section
variable (T:aE K)(H:dF w K r n)(hA:bD A n)(hE:PassesOwn (model ad w) A env E)(S:St w K A frs env h β σ ev)
include T H hA hE S
theorem GA{x:Nat}{px p:Pos}{as:List ME}(e:(bind (r.e ev (.name x px) σ) λfv σ=>bind (fw r ev as σ) λvs σ=>gd (ju tabs fv σ) (r.c fv vs σ))=some outs)(P:Post w os (λ_=>False) frs h β σ outs bO Q E) :
  wpAny (model ad w) A (eval (aA (.call (.name x px) as p)) env) Q E ⟨h,g,d,tk,os⟩:=
 wpAny_Call_Name_kw (H.eB (x:= .name x px) hA T S hE P e λa σ1 o1 v1 β1 h1 tk1 e1 r1 s1 S1 P1=>callWith_of (P:=lN w v1) (by rw[fF]; rfl) (λ_ z=>z) (mZ (H.lB hA T S1 hE P1 e1 λvs σ2 o2 us β2 h2 tk2 e2 r2 s2 S2 P2=>ay e2 λq3 e2=>⟨GC T S2.toSit q3 (s2.val r1),H.c hA S2.toSit e2 (s2.val r1) r2 P2⟩)))
theorem JS{o:ME}{x:Nat}{as:List ME}{pa p:Pos}(P:Post w os (λ_=>False) frs h β σ outs bO Q E)(e:eV tabs r ev (.meth o x as pa p) σ=some outs) :
  wpAny (model ad w) A (eval (aA (.meth o x as pa p)) env) Q E ⟨h,g,d,tk,os⟩:=by
 show wpAny _ _ (eval (.Call (.Attribute (aA o) (ae x) pa) (unL as) [] p) env) _ _ _
 rw[arm_eval_Call]
 refine ay (show wf tabs r ev o x as pa p σ=some outs from e) λq0 e=>aw q0 λh1 h2=>wpAny_bind (vU (H.eB hA T S hE P e λa σ1 o1 v1 β1 h1' tk1 e1 r1 s1 S1 P1=>aa e1 λm q2 e1=>wpAny_bind (wpAny_standAt ?_)))
 unfold methodCall
 rw[Dh h2]
 refine wpAny_bind (wpAny_holding (sA T.cls S1.toSit q2 r1 ?_))
 unfold methodCallPos
 rw[if_pos (by rw[eB0 h1]; simp)]
 refine wpAny_bind (wpAny_pure (callWith_of (P:=lN w (jG m)) (by rw[fF]; rfl) (λ_ z=>z) (mZ (H.lB hA T S1 hE P1 e1 λvs σ2 o2 us β2 h2 tk2 e2 r2 s2 S2 P2=>ay e2 λq4 e2=>?_))))
 cases m with
 |fn f=>exact⟨keeps_K (T.keep f q4) _ S2.top,H.c hA S2.toSit e2 (.g f) (.cons (s2.val r1) r2) P2⟩
 |_=>exact⟨⟨.machine, .inr (.inl rfl), .now⟩,sw S2.toSit r2 P2 nofun hA.cline e2 (s2.val r1)⟩
end
end
noncomputable def names(sc:List (Nat×NameKind)):List (Str×NameKind):=sc.map λp=>(ae p.1,p.2)
theorem bQ{α:Type}{x y:Nat}{v:α}{r:List (Str×α)}:List.lookup (ae x) ((ae y,v)::r)=if x=y then some v else r.lookup (ae x):=by
 rw[List.lookup_cons,lG]
 by_cases q:x=y
 ·rw[q,Nat.beq_refl,if_pos rfl]
 ·rw[br q,if_neg q]
theorem fm(x:Nat)(sc:List (Nat×NameKind)):(names sc).lookup (ae x)=look x sc:=by
 induction sc with
 |nil=>rfl
 |cons y r ih=>exact(bQ (y:=y.1) (r:=names r)).trans (ih▸(bH x y.1 y.2 r).symm)
noncomputable def oZ(n0:Nat):List Nat→List (Str×Addr)
 |[]=>[]
 |x::r=>(ae x,n0+r.length)::oZ n0 r
theorem zv(n0:Nat)(sc:List (Nat×NameKind))(r:List Nat):cellsFrom (n0+r.length) (names sc) (oZ n0 r)=oZ n0 (dM sc r):=by
 induction sc generalizing r with
 |nil=>rfl
 |cons y l ih=>
  obtain⟨y,k⟩:=y
  cases k with
  |cell=>exact ih (y::r)
  |_=>exact ih r
theorem y6{n0 x:Nat}(r:List Nat):((oZ n0 r).lookup (ae x)).isSome=jJ x r:=by
 induction r with
 |nil=>rfl
 |cons y r ih=>
  refine(cA0 Option.isSome (bQ (y:=y) (r:=oZ n0 r))).trans ?_
  by_cases q:x=y
  ·rw[if_pos q,q]; exact((cA0 (·||jJ y r) (Nat.beq_refl y)).symm)
  ·rw[if_neg q,ih]; exact((cA0 (·||jJ x r) (br q)).symm)
theorem qS{cs:List (Str×Addr)}:dD β n [] cs:=λx c e=>al e
noncomputable abbrev bs(b:List (Nat×AV))(ws:List Value):List (Str×Value):=(b.map (ae ·.1)).zip ws
section
variable {h:Heap}
theorem BL{b:ao}{cm:Str→Option Value}{n0:Nat}(S:Sit w K A frs h β σ)(hn:h.objs.size≤n0)(s0:ar w (λ_=>False) frs h h' β β σ σ)(hm:∀x av,look x b=some av→∃v,cm (ae x)=some v∧ak h β σ.n av v){r:List Nat}(hr:jp r=true)
  (hc:∀x c,(oZ n0 r).lookup (ae x)=some c→h'.IsCell c (cm (ae x))) :
  ∃β',ar w (λ_=>False) frs h h' β β' σ (iu b σ r).2∧dD β' (iu b σ r).2.n (iu b σ r).1 (oZ n0 r)∧∀i,i<(iu b σ r).2.n→(i<σ.n∧β' i=β i)∨(n0≤β' i∧β' i<n0+r.length):=by
 induction r with
 |nil=>exact⟨β,s0,qS,λi hi=> .inl ⟨hi,rfl⟩⟩
 |cons x r ih=>
  refine aw hr λq1 q2=>(ih q2 λy c e=>hc y c (bQ.trans ((if_neg λz=>?_).trans e))).elim λβ1 z=>z.elim λst z=>z.elim λC lo=>?_
  ·have:=y6 (n0:=n0) (x:=y) r
   rw[e,z] at this
   rw[←this] at q1; exact aV q1
  ·obtain⟨o,ho,hd⟩:=hc x (n0+r.length) (bQ.trans (if_pos rfl))
   have nt:∀xs ep,¬IsT h' (n0+r.length) xs ep:=λxs ep z=>nomatch hd.symm.trans (cA0 Obj.data (sI (ho.symm.trans z)))
   have hD:h.objs.size≤n0+r.length:=lE0 hn (Nat.le_add_right _ _)
   refine⟨ext β1 (iu b σ r).2.n (n0+r.length),ar.more (o:= .cell (look x b)) st hD (λi hi=>(lo i hi).elim (λz=>z.2▸Nat.ne_of_lt (lT0 (S.rel.lo i z.1).2 hD)) λz=>Nat.ne_of_lt z.2) (Heap.lt_size ho) (lE0 S.big hD) (λi hi=>(st.rel.lo i hi).1) ⟨o,_,ho,hd,?_⟩ nofun,λy c e=>?_,λi hi=>?_⟩
   ·cases q:look x b with
    |none=>trivial
    |some av=>exact(hm x av q).imp λv z=>⟨z.1,(st.val z.2).mono (λ_ _ _ _ z=>z) (λi hi=>bX hi) (Nat.le_succ _) (e9 nt)⟩
   ·have e:=(bH y x _ _).symm.trans e
    by_cases z:y=x
    ·rw[if_pos z] at e
     exact sI e▸⟨bQ.trans ((if_pos z).trans (cA0 some ci.symm)),Nat.lt_succ_self _⟩
    ·rw[if_neg z] at e
     exact⟨bQ.trans ((if_neg z).trans ((C y c e).1.trans (cA0 some (bX (C y c e).2).symm))),Nat.lt_succ_of_lt (C y c e).2⟩
   ·exact((Nat.lt_succ_iff_lt_or_eq (n:=(iu b σ r).2.n)).mp hi).elim (λz=>by rw[bX z]; exact(lo i z).imp id λy=>⟨y.1,Nat.lt_succ_of_lt y.2⟩) λz=> .inr (by rw[z,ci]; exact⟨Nat.le_add_right _ _,Nat.lt_succ_self _⟩)
theorem uY{F:List (Str×Value)→(Str→Option Value)→Str→Option Value}{p:Nat→Bool}(h0:∀m,F [] m=m)(h1:∀y v r m,p y=true→F ((ae y,v)::r) m=F r λz=>if z=ae y then some v else m z)(h2:∀y v r m,p y=false→F ((ae y,v)::r) m=F r m)
  {b:List (Nat×AV)} {ws:List Value} (rv:ValsR h β n (b.map (·.2)) ws) {m:Str→Option Value} {l:ao} (hm:∀x av,look x l=some av→∃v,m (ae x)=some v∧ak h β n av v):∀x av,look x (d6 p b l)=some av→∃v,F (bs b ws) m (ae x)=some v∧ak h β n av v:=by
 induction b generalizing ws m l with
 |nil=>cases rv; rw[show bs [] []=[] from rfl,h0]; exact hm
 |cons y b ih=>
  cases rv with
  |cons hx hl=>
   show ∀x av,look x (d6 p b (bif p y.1 then put y.1 y.2 l else l))=some av→∃v,F ((ae y.1,_)::bs b _) m (ae x)=some v∧_
   cases q:p y.1 with
   |true=>
    rw[h1 _ _ _ _ q]
    refine ih hl λx av e=>?_
    have e:=(gi _ _ _ _).symm.trans e
    by_cases z:x=y.1
    ·rw[if_pos z] at e
     exact⟨_,if_pos (cA0 ae z),sI e▸hx⟩
    ·rw[if_neg z] at e
     exact(hm x av e).imp λv w=>⟨(if_neg λt=>z (fb t)).trans w.1,w.2⟩
   |false=>
    rw[h2 _ _ _ _ q]
    exact ih hl hm
end
theorem i3{sc:List (Nat×NameKind)}{x:Nat}(e:d9 sc x=true):look x sc=some .local:=by
 unfold d9 at e
 split at e
 ·assumption
 ·exact aV e
theorem Du{sc:List (Nat×NameKind)}{x:Nat}(e:d9 sc x=false):look x sc≠some .local:=λz=>by
 unfold d9 at e
 rw[z] at e
 exact aV e.symm
theorem xn{sc:List (Nat×NameKind)}{b:List (Nat×AV)}(e:pF sc b=true):∀p∈b,look p.1 sc=some .local∨(look p.1 sc=some .cell∧jJ p.1 (dM sc [])=true):=by
 induction b with
 |nil=>exact λp hp=>nomatch hp
 |cons y b ih=>
  refine aw e λe1 e2 p hp=>(List.mem_cons.mp hp).elim (λz=>z▸(Bool.or_eq_true_iff.mp e1).imp i3 λz=>aw z λz1 z2=>⟨?_,z1⟩) (ih e2 p)
  split at z2
  ·assumption
  ·exact aV z2
theorem K1{b:List (Nat×AV)}{ws:List Value}{x:Str×Value}(hx:x∈bs b ws):∃p∈b,x.1=ae p.1:=(List.mem_map.mp (List.of_mem_zip hx).1).imp λp z=>⟨z.1,z.2.symm⟩
theorem lF{sc:List (Nat×NameKind)}(e:l8 sc=true):∀x∈names sc,x.2≠ .cell:=by
 induction sc with
 |nil=>exact λx hx=>nomatch hx
 |cons y r ih=>
  refine aw e λe1 e2 x hx=>(List.mem_cons.mp hx).elim (λz=>z▸λt=>?_) (ih e2 x)
  have t:y.2 = .cell:=t
  rw[t] at e1
  exact aV e1
section
variable {h:Heap}{fn:Nat}{Q:Env→Shared→Prop}{sc:List (Nat×NameKind)}{fast:List Nat}{cs:List (Str×Addr)}{cl:List (Nat×Nat)}{qual:Str}{code:Value}{fa L:Addr}{m:Str→Option Value}{loc:ao}
theorem St.enter(S:Sit w K A frs h β σ)(e:env=newEnv (bZ sc fast) L mainGlobals cs qual (some fa) code none builtinsNs)(hL:h.Ns L m)(hN:N0≤L)(ne:∀i,i<σ.n→β i≠L)(hfn:fn=229∨fn=139→code = .ref fn∧qual=lr fn)
  (hl:∀x av,look x loc=some av→∃v,m (ae x)=some v∧ak h β σ.n av v) (hc:dD β σ.n cl cs):St w K (A.deeper env) (env::frs) env h β σ ⟨fn,sc,loc,cl⟩:=by
 subst e
 exact {
  hh:=S.hh
  fr:=cA0 (Option.map (_::·)) S.fr
  frok:=λe he=>(List.mem_cons.mp he).elim (λz=>z▸hL.elim λo z=>z.elim λes z=>z.elim λep z=>⟨rfl,L,o,es,ep,rfl,z.1,z.2.1,hN⟩) (S.frok e)
  top:=S.top
  tab:=S.tab
  rel:=S.rel
  sepF:=λe he a q=>(List.mem_cons.mp he).elim (λz=>sI ((cA0 Env.frame z).symm.trans q:some L=some a)▸ne) λhe=>S.sepF e he a q
  big:=S.big
  eok:=⟨rfl,λx k z=> .inl ((fm x sc).trans z),rfl,rfl,hfn⟩
  loc:=⟨m,hL,hl⟩
  sepL:=ne
  loL:=hN
  cel:=hc
  hd:=⟨_,_,rfl,rfl⟩ }
section
variable (T:aE K)(S:Sit w K A frs h β σ)
include T S
theorem AW{bb:List (Nat×AV)}{ws:List Value}(hfn:fn=229∨fn=139→code = .ref fn∧qual=lr fn)(hb:pF sc bb=true)(ha:jp (dM sc [])=true)(rv:ValsR h β σ.n (bb.map (·.2)) ws)
  (hq:∀env h' β' tk',St w K (A.deeper env) (env::frs) env h' β' (iu (d6 (l7 sc) bb []) σ (dM sc [])).2 ⟨fn,sc,d6 (d9 sc) bb [],(iu (d6 (l7 sc) bb []) σ (dM sc [])).1⟩→
   ar w (λ_=>False) frs h h' β β' σ (iu (d6 (l7 sc) bb []) σ (dM sc [])).2→env.frame=some env.locals→h.objs.size≤env.locals→Q env ⟨h',g,d,tk',os⟩) :
  wpAny (model ad w) A' (newFunctionEnv (bZ sc fast) mainGlobals [] (bs bb ws) qual (some fa) code none builtinsNs) Q E ⟨h,g,d,tk,os⟩:=by
 have ca:cellsFrom (h.objs.size+1) (bZ sc fast).names []=oZ (h.objs.size+1) (dM sc []):=zv (h.objs.size+1) sc []
 have kf:∀y,(bZ sc fast).names.lookup (ae y)=look y sc:=λy=>fm y sc
 refine aW (wpAny_newFunctionEnv_cells rfl (λx hx=>(K1 hx).elim λp z=>?_) λenv henv s' x hsz=>?_)
 ·rw[z.2,kf,ca]
  exact(xn hb p z.1).imp id λy=>⟨y.1,(y6 _).trans y.2⟩
 ·obtain⟨h1,tk1,rfl,hk1⟩:=x.done
  have kL:env.locals=h.objs.size:=cA0 Env.locals henv
  have kE:∀y,env.kindOf (ae y)=look y sc:=λy=>(cA0 (λe=>Env.kindOf e (ae y)) henv).trans (kf y)
  have kC:env.cells=oZ (h.objs.size+1) (dM sc []):=(cA0 Env.cells henv).trans ca
  have hin:∀y k b,d9 sc y=b→env.kindOf (ae y)=k→(b=true→k=some .local)∧(b=false→k≠some .local):=λy k b e1 e2=>e2▸kE y▸⟨λz=>i3 (e1.trans z),λz=>Du (e1.trans z)⟩
  have s0:ar w (λ_=>False) frs h h1 β β σ σ:=ar.grow hsz hk1 S.rel S.tab
  obtain⟨β',st,hC,hnew⟩:=BL (cm:=PySem.bindC env.kindOf (bs bb ws) λ_=>none) S (Nat.le_succ _) s0
   (uY (l:=[]) (p:=l7 sc) (F:=PySem.bindC env.kindOf) (λ_=>rfl) (λy v r m e=>by rw[PySem.bindC,if_neg ((hin y _ false (by simpa [l7] using e) rfl).2 rfl)]) (λy v r m e=>by rw[PySem.bindC,if_pos ((hin y _ true (by simpa [l7] using e) rfl).1 rfl)]) rv λ_ _ e=>al e) ha (λy c e=>x.cell _ c (by rw[kC]; exact e))
  refine hq env h1 β' tk1 (St.enter (S.step T.low st) (ca▸henv) (kL▸x.toInCall.ns) S.big (λi hi=>(hnew i hi).elim (λz=>z.2▸Nat.ne_of_lt (S.rel.lo i z.1).2) λz=>Nat.ne_of_gt z.1) hfn (uY (l:=[]) (F:=PySem.bindL env.kindOf) (λ_=>rfl)
   (λy v r m e=>by rw[PySem.bindL,if_pos ((hin y _ true e rfl).1 rfl)]) (λy v r m e=>by rw[PySem.bindL,if_neg ((hin y _ false e rfl).2 rfl)]) (st.vals rv) λ_ _ e=>al e) hC) st (cA0 Env.frame henv |>.trans (cA0 some kL.symm)) (Nat.le_of_eq kL.symm)
theorem lj{x:Nat}{av:AV}{v:Value}(hx:d9 sc x=true)(hnc:l8 sc=true)(hc:dD β σ.n cl cs)(rv:ak h β σ.n av v)
  (hq:∀env h' tk',St w K (A.deeper env) (env::frs) env h' β σ ⟨0,sc,[(x,av)],cl⟩→ar w (λ_=>False) frs h h' β β σ σ→env.frame=some env.locals→h.objs.size≤env.locals→Q env ⟨h',g,d,tk',os⟩) :
  wpAny (model ad w) A' (newFunctionEnv (bZ sc fast) mainGlobals cs [(ae x,v)] qual (some fa) code none builtinsNs) Q E ⟨h,g,d,tk,os⟩:=by
 refine wpAny_newFunctionEnv (lF hnc) (λy hy=>List.mem_singleton.mp hy▸(fm x sc).trans (i3 hx)) (λh' hn hs=>?_) rfl
 have kp:∀a o,h.get? a=some o→(h.push { cls:= .type "frame",data:= .dict #[] }).get? a=some o:=λa o e=>Heap.get?_push_of_some _ e
 have s0:ar w (λ_=>False) frs h (h.push { cls:= .type "frame",data:= .dict #[] }) β β σ σ:=ar.grow (by rw[Heap.size_push]; exact Nat.le_succ _) kp S.rel S.tab
 have ne:∀i,i<σ.n→β i≠h.objs.size:=λi hi=>Nat.ne_of_lt (S.rel.lo i hi).2
 have s2:ar w (λ_=>False) frs h h' β β σ σ:=ar.hide (λa z=>by rw[z]; exact um h) ((s0.weaken λ_ z=>z.elim).trans (ar.touch s0.rel s0.tab (Heap.get?_push_size h rfl) ⟨.inl (cx rfl), .inl nofun,nofun⟩ ne hs))
 refine hq _ h' _ (St.enter (S.step T.low s2) rfl hn S.big ne (λz=>absurd z (by decide)) (λy a e=>?_) hc) s2 rfl (Nat.le_refl _)
 have e:=(bH y x _ _).symm.trans e
 by_cases z:y=x
 ·rw[if_pos z] at e
  exact⟨v,bQ.trans (if_pos z),sI e▸s2.val rv⟩
 ·rw[if_neg z] at e
  exact al e
end
end
section
variable {e0:Env}{h h'' B:Heap}{L:Addr}{Q:Value→Shared→Prop}{r:aP}{outs:List (ax AV×ac)}
theorem aT.hide(hX:∀a,X a→h.get? a=none)(s:aT w X frs h B h' β β' σ σ'):aT w (λ_=>False) frs h B h' β β' σ σ':=
 have key:∀a o,h.get? a=some o→¬X a:=λa o e x=>al ((hX a x).symm.trans e)
 { s with keep:=λa o e _=>s.keep a o e (key a o e),slots:=λenv he a o q e _=>s.slots env he a o q e (key a o e) }
theorem aT.unframe(hL:e0.frame=some L)(s:aT w (At L) (e0::frs) h B h' β β' σ σ'):aT w (At L) frs h B h' β β' σ σ':=
 { s with
  keep:=λa o e x1 x2 x3 x4=>s.keep a o e x1 x2 (λenv he q=>(List.mem_cons.mp he).elim (λz=>x1 (sI (q.symm.trans (z▸hL)))) λhe=>x3 env he q) x4
  slots:=λenv he=>s.slots env (.tail _ he) }
theorem aT.later(F:∀e∈frs,nA h e)(s:aT w X frs h B h' β β' σ σ')(hs:h'.objs.size≤h''.objs.size)(k:∀b o,h'.get? b=some o→(∀vs,o.data≠ .fields vs)→∃sl,h''.get? b=some { o with slots:=sl }):aT w X frs h B h'' β β' σ σ':=
 { s with
  size:=lE0 s.size hs
  slots:=λenv he a o q e x=>(s.slots env he a o q e x).elim λsl e1=>(F env he).2.elim λL z=>z.elim λo' z=>z.elim λes z=>z.elim λep z=>by
   cases sI (z.1.symm.trans q)
   cases sI (z.2.1.symm.trans e)
   exact(k _ _ e1 λvs y=>nomatch z.2.2.1.symm.trans y).imp λsl e=>e
  hi:=λi hi=>lT0 (s.hi i hi) hs }
noncomputable def D5(Q:Value→Shared→Prop)(E:Value→Shared→Prop):Result→Shared→Prop:=λr s'=>match r with
 | .ok (.ret v)=>Q v s'
 | .ok _=>False
 | .error e=>E e s'
structure gW(A:Around)(n:Nat):Prop where
 d:A.depth+2 * n+5≤990
 u:A.units+20 * n+103≤9800
theorem bD.near(hA:bD A (n+1)):gW A n:=⟨Nat.le_of_succ_le (n:=A.depth+2 * n+5) hA.d,lE0 (Nat.add_le_add_left (by decide:103≤120) _) hA.u⟩
theorem gW.depth(hA:gW A n):A.depth<recursionLimit:=Nat.lt_of_le_of_lt (lE0 (lE0 (Nat.le_add_right _ _) (Nat.le_add_right _ _)) hA.d) (by decide:990<1000)
theorem gW.room(hA:gW A n):bD (A.deeper env) n:=
 ⟨(cA0 (· + 4≤990) (Nat.add_right_comm A.depth 1 (2 * n))).mpr hA.d,(cA0 (· + 100≤9800) (Nat.add_right_comm A.units 3 (20 * n))).mpr hA.u⟩
section
variable (hf:env.frame=some L)(F:∀e∈frs,nA h e)
include hf F
theorem vn{h1 h2:Heap}{β1 β2:Nat→Addr}{c:Nat}{e:Addr}(hfr:A'.frames=some (env::frs))(s1:ar w (λ_=>False) frs h h1 β β1 σ σ1)(hL:h.get? L=none)
  (t:d3 w (At L) (env::frs) h1 h2 β1 β2 σ1 σ2 c e) {E':Value→Shared→Prop} (hq:∀h3 tk,d3 w (λ_=>False) frs h h3 β β2 σ σ2 c e→E (.ref e) ⟨h3,g,d,tk,os⟩) :
  wpAny (model ad w) A' (leaving env (.ref e)) (λ_ s''=>E (.ref e) s'') E' ⟨h2,g,d,tk,os⟩:=by
 obtain⟨B,a0,st,hb,he,hl,hx⟩:=t
 have s2:aT w (λ_=>False) frs h B h2 β β2 σ σ2:=aT.hide (X:=At L) (λa z=>by rw[z]; exact hL) ((s1.weaken λ_ z=>z.elim).trans (aT.unframe hf st))
 have fin:∀h3,Heap.LeftW B (env::frs) e (.ref (cS c)) a0 h2 h3→h2.objs.size≤h3.objs.size→E (.ref e) ⟨h3,g,d,tk,os⟩:=λh3 x hs=>
  hq h3 tk ⟨B,a0,s2.later F hs x.2.2.2,x.1,he,x.2.1.2.2, .inr x.2.2.1⟩
 exact hx.elim (λz=>z.elim λoe z=>z.elim λvs z=>aW (wpAny_leaving_firstW hfr hl hf z.1 hb he z.2.2.1 z.2.2.2.2 z.2.2.2.1 λh3 hL3 hs=>fin h3 (z.2.1▸hL3) hs))
  λhx=>aW (wpAny_leaving_nextW hfr hl hf hx hb he λh3 hL3 hs=>fin h3 hL3 hs)
theorem Post.inner{α γ δ:Type}{R:co α γ}{R1:co α δ}{Q:γ→Shared→Prop}{l:List (ax α×ac)}{h1:Heap}{β1:Nat→Addr}{E':Value→Shared→Prop}(P:Post w os (λ_=>False) frs h β σ l R Q E)(s1:ar w (λ_=>False) frs h h1 β β1 σ σ1)
  (hL:h.objs.size≤L) (hfr:A'.frames=some (env::frs)) (k:δ→γ) (hR:∀h β n a v,R1 h β n a v→R h β n a (k v)) :
  Post w os (At L) (env::frs) h1 β1 σ1 l R1 (λv s'=>Q (k v) s') (λe s'=>wpAny (model ad w) A' (leaving env e) (λ_ s''=>E e s'') E' s'):=
 have hn:h.get? L=none:=Option.eq_none_iff_forall_ne_some.mpr λo q=>Nat.not_lt.mpr hL (Heap.lt_size q)
 ⟨λp σ' hm f β' h' tk hr st=>P.ok p σ' hm (k f) β' h' tk (hR _ _ _ _ _ hr) (aT.hide (X:=At L) (λa z=>by rw[z]; exact hn) ((s1.weaken λ_ z=>z.elim).trans (aT.unframe hf st))),
  λc σ' hm x β' h' tk t=>vn hf F hfr s1 hn t λh3 tk t3=>P.exc c σ' hm x β' h3 tk t3⟩
end
noncomputable abbrev PC:co (Fl×ao) Value:=λh β n p v=>ak h β n (cE p) v
section
variable {ev:Ev}{h1:Heap}{β1:Nat→Addr}(H:dF w K r n)(hA:gW A n)(F:∀e∈frs,nA h e)(S1:St w K (A.deeper env) (env::frs) env h1 β1 σ1 ev)(s1:ar w (λ_=>False) frs h h1 β β1 σ σ1)(hf:env.frame=some env.locals)(hL:h.objs.size≤env.locals)(P:Post w os (λ_=>False) frs h β σ outs bO Q E)
include H hA F S1 s1 hf hL P
theorem o4{body:List MS}(e:(bind (r.s ev body σ1) λp σ=>af (cE p) σ)=some outs):codeAny (model ad w) A (.func (unSs body) env) (D5 Q E) ⟨h1,g,d,tk,os⟩:=
 (P.bind (X:=λ_=>False) (R1:=PC) e).elim λl z=>codeAny_func (H.s hA.room S1 z.1 PassesOwn.leaving (Post.inner hf F (z.2 Q λa σ1 l' e1 v1 β1 h1 tk1 r1 s1 P1=>P1.ok _ _ (sI e1▸ .head _) v1 β1 h1 tk1 r1 (ar.refl s1.rel s1.tab)) s1 hL S1.fr
  _ λh β n a v hr=>by
   obtain⟨fl,lc⟩:=a
   cases fl with
   |next=>rw[show v=Flow.next from hr.2]; exact .none
   |ret x=>exact hr.2.elim λu y=>y.1▸y.2))
theorem vK{body:ME}(e:r.e ev body σ1=some outs):codeAny (model ad w) A (.expr (aA body) env) (D5 Q E) ⟨h1,g,d,tk,os⟩:=
 kla_codeExpr (H.e hA.room S1 e PassesOwn.leaving ((Post.inner hf F P s1 hL S1.fr id λ_ _ _ _ _ z=>z).weaken λ_ z=>z.elim))
end
end
section
variable {h:Heap}{Q:Value→Shared→Prop}{r:aP}{outs:List (ax AV×ac)}
theorem cB{α:Type}{l:List α}{a:α}(q:one l=some a):l=[a]:=by
 cases l with
 |nil=>exact al q
 |cons b m=>cases m with
  |nil=>exact cA0 (λx=>[x]) (sI q)
  |cons=>exact al q
theorem yC{ps:List (Nat×Pos)}{vs:List AV}{b:List (Nat×AV)}(e:rF ps vs=some b):b.map (·.2)=vs:=by
 induction ps generalizing vs b with
 |nil=>cases vs with
  |nil=>exact sI e▸rfl
  |cons=>exact al e
 |cons p r ih=>cases vs with
  |nil=>exact al e
  |cons v l=>exact aa e λc q e=>sI e▸cA0 (v::·) (ih q)
theorem uG{q:Addr×Int×Int×Str}(hq:q∈kq){c':Addr}(T:fL h)(ht:h.get? q.1=some (tabObj #[rawInt q.2.1,rawInt q.2.2.1, .ref c'])):h.CodeRec (.ref c') q.2.2.2:=
 (T q hq).elim λps z=>have e:ps = #[rawInt q.2.1,rawInt q.2.2.1, .ref c']:=Data.fields.inj (cA0 Obj.data (sI (z.1.symm.trans ht)))
  z.2.elim (λy=>nomatch y.symm.trans e) λy=>y.elim λc2 y=>Value.ref.inj (sI (cA0 (·[2]?) (y.1.symm.trans e)))▸y.2
section
variable {vs:List AV}{us:List Value}(T:aE K)(H:dF w K r n)(S:Sit w K A frs h β σ)(hv:ValsR h β σ.n vs us)(P:Post w os (λ_=>False) frs h β σ outs bO Q E)
include T H S hv P
theorem ve{x:Nat}{F:Fn}{bb:List (Nat×AV)}(hA:gW A n)(hF:ek x tabs.fns=some F)(hb:po F vs=some bb)(e:yX r F bb σ=some outs):codeAny (model ad w) A (.call (.ref x) ⟨us,[]⟩) (D5 Q E) ⟨h,g,d,tk,os⟩:=by
 obtain⟨o,fd,ho,hcl,hd,hsc,hbo,hgl,hcs,hbi,hco,hq,hcr,hbind⟩:=(T.fn x F hF).obj
 refine ay e λq e=>aw q λq1 q2=>(hbind ⟨h,g,d,tk,os⟩ β σ.n vs us bb S.top (λi hi=>(S.rel.lo i hi).1) hb hv).elim λws z=>
  codeAny_call_function hA.depth (S.top _ _ ho) hd (by rw[hsc]; rfl) (by rw[hsc]; rfl) hbo (hcr _ S.top) (z.1 _ _ _ _ ?_)
 rw[hsc,hgl,hcs,hbi]
 exact AW T S (λz=>⟨hco,hq z⟩) q1 q2 z.2 λenv h' β' tk' S' s' hf hL=>⟨T.lim _ S'.top,o4 H hA S.frok S' s' hf hL P e⟩
theorem zg{f:Ev→ac→aj AV}{ps:List (Nat×Pos)}{sc:List (Nat×NameKind)}{cl:List (Nat×Nat)}(e:lY f ps sc cl vs σ=some outs){C:List (Nat×Pos)→List Value→Prop}
  (k:∀p v u,ak h β σ.n v u→d9 sc 18=true→l8 sc=true→f ⟨0,sc,[(18,v)],cl⟩ σ=some outs→C [(18,p)] [u]):C ps us:=
 aa e λp q1 e=>aa e λv q2 e=>ay e λq e=>aw q λq3 q=>aw q λq4 q5=>one_el hv q2 λu ru=>by
  obtain⟨x,p⟩:=p
  have q3:x=18:=eB0 q3
  subst q3
  rw[cB q1]
  exact k p v u ru q4 q5 e
theorem C4{x:Nat}{ps:List (Nat×Pos)}{body:List MS}{sc:List (Nat×NameKind)}{cl:List (Nat×Nat)}(hA:gW A n)(hi:σ.get i=some (.fn x ps body sc cl))
  (e:lY (λev σ=>bind (r.s ev body σ) λp σ=>af (cE p) σ) ps sc cl vs σ=some outs):wpAny (model ad w) A (call (.ref (β i)) us) Q E ⟨h,g,d,tk,os⟩:=
 have ob:=(S.rel.obj i _ hi).2
 zg T H S hv P e (C:=λps us=>bz w h β σ.n (.fn x ps body sc cl) (β i)→wpAny (model ad w) A (call (.ref (β i)) us) Q E ⟨h,g,d,tk,os⟩) (λp v u ru q1 q2 e z=>z.elim λcs z=>z.elim λdoc z=>z.elim λpm z=>z.elim λc' z=>z.elim λctv z=>
  wpAny_call (codeAny_call_function hA.depth z.1 rfl rfl rfl rfl (uG (.head _) S.tab z.2.1) (wpAny_pure (a:=[(ae 18,u)]) (lj (fast:=[]) T S q1 q2 z.2.2 ru λenv h' tk' S' s' hf hL=>⟨T.lim _ S'.top,o4 H hA S.frok S' s' hf hL P e⟩)))) ob
theorem DN{ps:List (Nat×Pos)}{body:ME}{sc:List (Nat×NameKind)}{cl:List (Nat×Nat)}(hA:gW A n)(hi:σ.get i=some (.lam ps body sc cl))
  (e:lY (λev σ=>r.e ev body σ) ps sc cl vs σ=some outs):wpAny (model ad w) A (call (.ref (β i)) us) Q E ⟨h,g,d,tk,os⟩:=
 have ob:=(S.rel.obj i _ hi).2
 zg T H S hv P e (C:=λps us=>bz w h β σ.n (.lam ps body sc cl) (β i)→wpAny (model ad w) A (call (.ref (β i)) us) Q E ⟨h,g,d,tk,os⟩) (λp v u ru q1 q2 e z=>z.elim λcs z=>z.elim λpm z=>z.elim λc' z=>z.elim λctv z=>
  wpAny_call (kla_callFunE hA.depth z.1 rfl rfl rfl rfl (uG (.tail _ (.head _)) S.tab z.2.1) (wpAny_pure (a:=[(ae 18,u)]) (lj (fast:=[]) T S q1 q2 z.2.2 ru λenv h' tk' S' s' hf hL=>⟨T.lim _ S'.top,vK H hA S.frok S' s' hf hL P e⟩)))) ob
end
end
section
variable {h:Heap}{Q:Value→Shared→Prop}{r:aP}{outs:List (ax AV×ac)}
theorem Sit.around(S:Sit w K A frs h β σ)(h1:A'.handled=A.handled)(h2:A'.frames=A.frames):Sit w K A' frs h β σ:=
 { S with hh:=h1.trans S.hh,fr:=h2.trans S.fr }
noncomputable abbrev iR(x:Addr)(us:List Value):Code:= .builtin "type.__call__" ⟨.ref x::us,[]⟩
theorem Bg(x:Addr)(us:List Value):(iR x us).weight=1:=by kernel_rfl
theorem CL(x:Addr)(us:List Value):(iR x us).cUnits=1:=by kernel_rfl
theorem Hz(x:Addr)(us:List Value):(iR x us).envs=[]:=by
 unfold Code.envs
 split <;> rfl
section
variable {vs:List AV}{us:List Value}(T:aE K)(H:dF w K r n)(hA:bD A (n+1))(S:Sit w K A frs h β σ)(hv:ValsR h β σ.n vs us)(P:Post w os (λ_=>False) frs h β σ outs bO Q E)
include T H hA S hv P
theorem By{x:Nat}{C:qH}(hC:look x tabs.clss=some C)(e:Bm tabs r x C vs σ=some outs):wpAny (model ad w) A (call (.ref x) us) Q E ⟨h,g,d,tk,os⟩:=
 aa e λF hF e=>aa e λbb hb e=>by
  have Y:=T.cls x C hC
  refine wpAny_call (make_core (makes_of S.top Y.makes) (looks_findIn S.top Y.init) (λself=>bind_fn S.top self Y.initF) (.inl rfl) ?_)
  have s1:ar w (λ_=>False) frs h (h.push emptyDict) β (ext β σ.n h.objs.size) σ (σ.push (.dict [])):=ar.alloc S.rel S.tab S.big (.inl ⟨[],Heap.DictOf.new h, .nil⟩)
  have S1:=S.step T.low s1
  have s2:=ar.alloc (w:=w) (X:=λ_=>False) (frs:=frs) (o:= .inst x σ.n) (ob:=instObj x h.objs.size) S1.rel S1.tab S1.big ⟨⟨C,hC⟩,Nat.lt_succ_of_lt (Nat.lt_succ_self _),by
   rw[show ext (ext β σ.n h.objs.size) (σ.push (ai.dict [])).n (h.push emptyDict).objs.size σ.n=h.objs.size from(bX (Nat.lt_succ_self _)).trans ci]
   exact Heap.get?_push_size _ rfl⟩
  have S2:=S1.step T.low s2
  have s12:=s1.trans s2
  have hself:=ak.obj (h:=(h.push emptyDict).push (instObj x h.objs.size)) (β:=ext (ext β σ.n h.objs.size) (σ.push (ai.dict [])).n (h.push emptyDict).objs.size) (n:=σ.n+1+1) (σ.n+1) (Nat.lt_succ_self _)
  rw[show ext (ext β σ.n h.objs.size) (σ.push (ai.dict [])).n (h.push emptyDict).objs.size (σ.n+1)=h.objs.size+1 from ci.trans (Heap.size_push ..)] at hself
  have near:gW (A.under (iR x us)) n:=⟨by
   show A.depth+(iR x us).weight+2 * n+5≤990
   rw[Bg,Nat.add_right_comm A.depth 1]; exact hA.d,by
   show A.units+(iR x us).cUnits+20 * n+103≤9800
   rw[CL,Nat.add_right_comm A.units 1]; exact lE0 (Nat.add_le_add_left (by decide:104≤120) _) hA.u⟩
  refine((P.at s12 λ_ z=>z).bind (X:=λ_=>False) (R1:=bO) e).elim λl z=>codeAny_mono (ve (A:=A.under (iR x us)) (Q:=λv s'=>v = .none∧Q (.ref (h.objs.size+1)) s') (E:=E) T H (S2.around rfl (by unfold Around.under; rw[Hz]; rfl)) (.cons hself (s12.vals hv))
   (z.2 _ λv σ1 l' e1 u β1 h1 tk1 r1 st P1=>ay e1 λq e1=>?_) near hF hb z.1) λr s' z=>?_
  ·rw[nz q] at r1
   exact⟨r1.inv,P1.sameE e1 (S2.step T.low st) (st.val hself)⟩
  ·rcases r with e |(v |_ |_ |_) <;> exact z
theorem xP{x:Nat}(e:Cw tabs r x vs σ=some outs):wpAny (model ad w) A (call (.ref x) us) Q E ⟨h,g,d,tk,os⟩:=by
 unfold Cw at e
 split at e
 ·next F q=>exact aa e λbb hb e=>wpAny_call (ve T H S hv P hA.near q hb e)
 ·exact aa e λC q2 e=>By T H hA S hv P q2 e
theorem vo{o:Option ai}(q:σ.get i=o)(e:FE r o vs σ=some outs):wpAny (model ad w) A (call (.ref (β i)) us) Q E ⟨h,g,d,tk,os⟩:=by
 cases o with
 |none=>exact al e
 |some o=>cases o with
  |lam ps body sc cl=>exact DN T H S hv P hA.near q e
  |fn x ps body sc cl=>exact C4 T H S hv P hA.near q e
  |_=>exact al e
theorem lf{f:AV}{fv:Value}(e:bv tabs r f vs σ=some outs)(hf:ak h β σ.n f fv):wpAny (model ad w) A (call fv us) Q E ⟨h,g,d,tk,os⟩:=
 ak.casesOn (motive_1:=λf fv _=>bv tabs r f vs σ=some outs→wpAny (model ad w) A (call fv us) Q E ⟨h,g,d,tk,os⟩) hf al (λ_=>al) (λ_ _=>al) (λ_ _=>al) (λ_ _ _ _=>al)
  (λ_ _ _=>al) (λ_ _ e=>vo T H hA S hv P rfl e) (λ_ e=>xP T H hA S hv P e) (λ_ e=>ow S P e hv) (λ_ _=>al) e
end
end
section
variable {ev:Ev}{h:Heap}{loc:ao}{r:aP}
section
variable {x:AV}{u:Value}{Q:Unit→Shared→Prop}(S:Sit w K A frs h β σ)(ra:ak h β σ.n a va)(rb:ak h β σ.n b vb)(rx:ak h β σ.n x u)(hq:∀h' tk,ar w (λ_=>False) frs h h' β β σ σ'→Q () ⟨h',g,d,tk,os⟩)
include S ra rb rx hq
theorem Mw(e:N3 a b x σ=some σ'):wpAny (model ad w) A (setItem va vb u) Q E ⟨h,g,d,tk,os⟩:=
 aa e λj qa e=>aa e λl ql e=>aa e λk qb e=>ay e λq e=>aw q λq1 q2=>ra.oE qa λ_=>rb.nE qb λt=>bA S.rel ql λvs ep hx hl=>by
  have hn:k<vs.toArray.size:=lT0 (lB0 q1) (Nat.le_of_eq ((aM l).trans (hl.length.trans List.size_toArray.symm)))
  refine ki_setAt (n:=ep) hx (Int.natCast_nonneg k) (pD q2).2.2 (Int.ofNat_lt.mpr hn) ?_
  have hup:=PySem.IsL.update hx (λa=>a.setIfInBounds (Int.ofNat k).toNat u)
  rw[show vs.toArray.setIfInBounds (Int.ofNat k).toNat u=(vs.set k u).toArray from List.setIfInBounds_toArray ..] at hup
  exact hq _ _ (sI e▸sB S (fk ql) (Heap.SameBut.update ..) hup (zA l k x▸hl.set rx k))
theorem uO(hu:A.units+20<cLine)(e:za a b x σ=some σ'):wpAny (model ad w) A (setItem va vb u) Q E ⟨h,g,d,tk,os⟩:=
 be e (Mw S ra rb rx hq) λe=>aa e λj qa e=>aa e λl ql e=>aa e λl' q e=>ra.oE qa λ_=>yk S hu (bN ql) q rb rx λh' tk st=>hq h' tk (sI e▸st)
end
theorem jP(t:ME)(l:List Expr)(env:Env):assignEach (aA t::l) env=(false,assign (aA t) env)::assignEach l env:=by
 cases t <;> rfl
theorem pU(ts:List ME)(env:Env):assignEach (unL ts) env=ts.map λt=>(false,assign (aA t) env):=by
 induction ts with
 |nil=>rfl
 |cons t ts ih=>exact(jP t (unL ts) env).trans (cA0 _ ih)
theorem noStar(ts:List ME)(env:Env):(ts.map λt=>(false,assign (aA t) env)).findIdx? (·.1)=none:=by
 induction ts with
 |nil=>rfl
 |cons t ts ih=>rw[List.map_cons,List.findIdx?_cons,ih]; rfl
theorem lR{vs:List AV}{v:Value}{Q:List Value→Shared→Prop}(S:Sit w K A frs h β σ)(e:cG σ a=some vs)(ra:ak h β σ.n a v){m:Nat}(hm:m=vs.length)
  (hq:∀h' us,ar w (λ_=>False) frs h h' β β σ σ→ValsR h' β σ.n vs us→Q us ⟨h',g,d,tk,os⟩):wpAny (model ad w) A (unpackItems v m none) Q E ⟨h,g,d,tk,os⟩:=
 seqOf_el S.rel e ra λus c T o n hT ho hc hd hl=>by
  rw[show m=us.toArray.size from hm.trans (hl.length.trans List.size_toArray.symm)]
  have fin:∀h',Heap.ExtBut h.objs.size h h'→h.objs.size≤h'.objs.size→Q us ⟨h',g,d,tk,os⟩:=λh' he hs=>
   have st:ar w (λ_=>False) frs h h' β β σ σ:=ar.grow hs (λa o x=>he a o (Nat.ne_of_lt (Heap.lt_size x)) x) S.rel S.tab
   hq h' us st (st.vals hl)
  rcases hT with rfl |rfl
  ·exact aW (kun_itemsOf S.hh ⟨o,ho,hc,n,hd⟩ fin)
  ·exact aW (wpAny_unpackItems_tuple S.hh ⟨o,ho,hc,n,hd⟩ fin)
theorem ro{t:Value→Sem Unit}{ts:List (Value→Sem Unit)}{x:Value}{xs:List Value}{Q:Unit→Shared→Prop}(hq:wpAny (model ad w) A (t x) (λ_ s'=>wpAny (model ad w) A (assignInOrder ts xs) Q E s') E s) :
  wpAny (model ad w) A (assignInOrder (t::ts) (x::xs)) Q E s:=by
 unfold assignInOrder
 exact wpAny_bind (wpAny_holding hq)
noncomputable abbrev I8{α:Type}(w:World)(K:Frag)(A:Around)(frs:List Env)(env:Env)(ev:Ev)(os:OsState)(E:Value→Shared→Prop)(f:ao→α→AV→ac→aj ao)(F:α→Value→Sem Unit):Prop:=
 ∀ ⦃t:α⦄ ⦃loc:ao⦄ ⦃h:Heap⦄ ⦃β:Nat→Addr⦄ ⦃σ:ac⦄ ⦃tk:Nat⦄ ⦃a:AV⦄ ⦃v:Value⦄ ⦃outs:List (ax ao×ac)⦄ ⦃Q:Unit→Shared→Prop⦄,St w K A frs env h β σ { ev with loc:=loc }→f loc t a σ=some outs→ak h β σ.n a v→
  Post w os (At env.locals) frs h β σ outs (jg env.locals) Q E→wpAny (model ad w) A (F t v) Q E ⟨h,g,d,tk,os⟩
noncomputable abbrev M3(w:World)(K:Frag)(A:Around)(frs:List Env)(env:Env)(ev:Ev)(os:OsState)(E:Value→Shared→Prop)(f:ao→ME→AV→ac→aj ao):Prop:=I8 w K A frs env ev os E f λt v=>assign (aA t) env v
theorem oN{α:Type}(T:aE K){f:ao→α→AV→ac→aj ao}{F:α→Value→Sem Unit}(hf:I8 w K A frs env ev os E f F){ts:List α}{vs:List AV}{us:List Value}{outs:List (ax ao×ac)}{Q:Unit→Shared→Prop}
  (S:St w K A frs env h β σ { ev with loc:=loc }) (e:uN f loc ts vs σ=some outs) (rv:ValsR h β σ.n vs us) (P:Post w os (At env.locals) frs h β σ outs (jg env.locals) Q E):wpAny (model ad w) A (assignInOrder (ts.map F) us) Q E ⟨h,g,d,tk,os⟩:=by
 induction ts generalizing loc h β σ tk vs us outs Q with
 |nil=>cases vs with
  |cons=>exact al e
  |nil=>unfold assignInOrder; exact wpAny_pure (P.sameE e S.toSit S.loc)
 |cons t ts ih=>cases vs with
  |nil=>exact al e
  |cons x vs=>exact rv.consE λu us hx hl=>ro ((P.bind (X:=At env.locals) (R1:=jg env.locals) e).elim λl z=>hf S z.1 hx (z.2 _ λloc1 σ1 o1 e1 _ β1 h1 tk1 r1 s1 P1=>ih (St.stepL (ev:={ ev with loc:=loc }) T S s1 r1) e1 (s1.vals hl) P1))
theorem kz(T:aE K)(H:dF w K r n)(hA:bD A n)(hE:PassesOwn (model ad w) A env E)(m:Nat):M3 w K A frs env ev os E (cR r ev m):=by
 induction m with
 |zero=>exact λ_ _ _ _ _ _ _ _ _ _ _ e=>al e
 |succ m ih=>
  intro t loc h β σ tk a v outs Q S e rv P
  have e:wo r ev (cR r ev m) loc t a σ=some outs:=e
  cases t with
  |name x p=>exact wpAny_assign_Name (jW (ev:={ ev with loc:=loc }) S S.loc e rv P)
  |tup ts p=>
   refine aa e λvs q e=>ay e λq3 e=>?_
   show wpAny _ A (assign (.Tuple (unL ts) 0 p) env v) Q E _
   rw[arm_assign_Tuple]
   refine wpAny_bind (wpAny_standAt ?_)
   unfold unpack
   rw[pU,noStar,List.length_map,List.map_map]
   exact wpAny_bind (wpAny_holding (lR S.toSit q rv ((aM ts).symm.trans ((eB0 q3).trans (aM vs))) λh' us st hu=>oN (F:=λt v=>assign (aA t) env v) T ih (S.step T.low st) e hu (P.at (st.weaken λ_ z=>z.elim) λ_ z=>z)))
  |att o x p=>exact kas_attr (H.eB hA T S hE P e λov σ1 o1 v1 β1 h1 tk1 e1 r1 s1 S1 P1=>aa e1 λσ2 q e1=>r8 T.cls S1.toSit q r1 (s1.val rv) λh' tk s2=>(P1.eq e1).ok _ _ (.head _) () _ h' tk (S1.step T.low s2).loc (s2.weaken λ_ z=>z.elim))
  |sub o i p=>exact kas_sub (H.eB hA T S hE P e λov σ1 o1 v1 β1 h1 tk1 e1 r1 s1 S1 P1=>H.eB hA T S1 hE P1 e1 λiv σ2 o2 v2 β2 h2 tk2 e2 r2 s2 S2 P2=>aa e2 λσ3 q e2=>
    uO S2.toSit (s2.val r1) r2 (s2.val (s1.val rv)) (λh' tk s3=>(P2.eq e2).ok _ _ (.head _) () _ h' tk (S2.step T.low s3).loc (s3.weaken λ_ z=>z.elim)) hA.cline q)
  |_=>exact al e
end
section
variable {h:Heap}
theorem rd{q:Addr×Int×Int×Str}(hq:q∈kq):fu q.1:=(List.mem_cons.mp hq).imp (λz=>cA0 Prod.fst z) λz=>cA0 Prod.fst (List.mem_singleton.mp z)
theorem fh{a:Addr}(ht:fu a)(h:N0≤a):False:=ht.elim (λz=>absurd (z▸h:N0≤137) (by decide)) λz=>absurd (z▸h:N0≤227) (by decide)
theorem ar.moved{wr:List Addr}{Y:Nat→Prop}(S:Sit w K A frs h β σ)(hs:h.objs.size≤h'.objs.size)(k:∀a o,a∉wr→(∀i,i<σ.n→Y i→a≠β i)→h.get? a=some o→h'.get? a=some o)
  (hp:∀D∈wr,∃o,h.get? D=some o∧jc o) (hsep:∀D∈wr,∀i,i<σ.n→β i≠D) (hY:∀i,Y i→σ.get i=some .own∧∃x y,IsT h' (β i) #[x,y] 0):ar w (λa=>a∈wr) frs h h' β β σ σ:=by
 have R:=S.rel
 have hp:∀D∈wr,∀o,h.get? D=some o→jc o:=λD hD o e=>(hp D hD).elim λp z=>sI (z.1.symm.trans e)▸z.2
 have kj:∀j o,j<σ.n→¬Y j→h.get? (β j)=some o→h'.get? (β j)=some o:=λj o hj hy e=>k _ _ (λz=>hsep _ z j hj rfl) (λi hi hyi z=>hy (R.inj j i hj hi z▸hyi)) e
 have kt:∀a xs n,(∀i,i<σ.n→β i≠a)→IsT h a xs n→IsT h' a xs n:=λa xs n ho e=>k a _ (λz=>(hp a z _ e).tup.elim (λq=>q rfl) λq=>q _ _ rfl) (λi hi _ z=>ho i hi z.symm) e
 have kb:∀a ps,fu a→h.get? a=some (tabObj ps)→h'.get? a=some (tabObj ps):=λa ps ht e=>k a _ (λz=>(hp a z _ e).tab.elim (λq=>q rfl) λq=>q _ rfl) (λi hi _ z=>fh ht (z▸(R.lo i hi).1)) e
 exact {
  size:=hs
  keep:=λa o e x1 x2 _ _=>k a o x1 (λi _ hy=>x2 i (by rw[(hY i hy).1]; rfl)) e
  slots:=λenv he a o q e x=>⟨o.slots,k a o x (λi hi _ z=>S.sepF env he a q i hi z.symm) e⟩
  tups:=kt
  tabs:=λa ps ht e _=>kb a ps ht e
  n:=Nat.le_refl _
  agree:=λ_ _=>rfl
  fresh:=λi a b=>absurd b (Nat.not_lt.mpr a)
  nores:=λ_ _ e=>e
  rel:={
   obj:=λj x e=>⟨(R.obj j x e).1,by
    by_cases hy:Y j
    ·cases (hY j hy).1.symm.trans e
     exact(hY j hy).2
    ·exact(R.obj j x e).2.mono kt (λ_ _=>rfl) (Nat.le_refl _) (λa ps ht e _=>kb a ps ht e) λo e=>kj j o (R.obj j x ‹_›).1 hy e⟩
   lo:=λj hj=>⟨(R.lo j hj).1,lT0 (R.lo j hj).2 hs⟩
   live:=λj hj=>by
    by_cases hy:Y j
    ·exact(hY j hy).2.elim λx z=>z.elim λy e=>⟨_,e⟩
    ·exact(R.live j hj).imp λo e=>kj j o hj hy e
   inj:=R.inj
   fact:=R.fact }
  tab:=λq hq=>(S.tab q hq).elim λps z=>⟨ps,kb _ _ (rd hq) z.1,z.2.imp id λy=>y.imp λc' y=>⟨y.1,y.2.imp λc y=>y.imp λoc y=>y.imp λvs y=>y.imp λt y=>⟨y.1,k _ _ (λz=>(hp _ z _ y.2.1).code _ _ _ y.2.2.1 y.2.2.2) (λi hi hy z=>
   (R.obj i _ (hY i hy).1).2.elim λx' u=>u.elim λy' e3=>Data.noConfusion (y.2.2.1.symm.trans (cA0 Obj.data (sI (y.2.1.symm.trans (z▸e3:h.get? c=_)))))) y.2.1,y.2.2⟩⟩⟩
  hi:=λj hj=>lT0 (R.lo j hj).2 hs }
theorem dX{T:String}{xs:Array Value}{I:Addr}{v:Value}(hT:decide (T = "tuple")=false)(hx:xs[1]?=some v)(y:∃o,h.get? I=some o∧o.cls = .type T∧o.data = .fields xs)(hv:∀q t,v≠ .str q t:=by exact nofun):∃o,h.get? I=some o∧jc o:=
 y.imp λo (y:_∧o.cls = .type T∧o.data = .fields xs)=>⟨y.1, .inl (by rw[y.2.1]; exact cx hT), .inl (by rw[y.2.1]; exact nofun),λvs q t e z=>hv q t (sI (hx.symm.trans ((cA0 (·[1]?) (Data.fields.inj (y.2.2.symm.trans e))).trans z)))⟩
noncomputable def bL(h:Heap)(β:Nat→Addr)(n:Nat)(v:AV)(k:Nat)(I:Addr):Prop:=(∃i,v = .obj i∧i<n∧h.IsListIter I (β i) k)∨
 ∃(l:List AV) (a:Addr) (vs:List Value) (ep:Nat),v = .tup l∧h.IsTupleIter I a k∧IsT h a vs.toArray ep∧(∀i,i<n→β i≠a)∧ValsR h β n l vs
theorem bL.cls{v:AV}{I:Addr}(x:bL h β n v k I):(∃o,h.get? I=some o∧jc o)∧∃o,h.get? I=some o∧(o.cls = .type "list_iterator"∨o.cls = .type "tuple_iterator"):=
 x.elim (λz=>z.elim λi z=>⟨dX (by decide) rfl z.2.2,z.2.2.imp λo z=>⟨z.1, .inl z.2.1⟩⟩) λz=>z.elim λl z=>z.elim λa z=>z.elim λvs z=>z.elim λep z=>⟨dX (by decide) rfl z.2.1,z.2.1.imp λo z=>⟨z.1, .inr z.2.1⟩⟩
theorem bL.keep{v:AV}{I:Addr}(x:bL h β σ.n v k I)(hI:∀o,h.get? I=some o→h'.get? I=some o)(s:ar w X frs h h' β β' σ σ'):bL h' β' σ'.n v k I:=
 x.imp (λz=>z.imp λi z=>⟨z.1,lT0 z.2.1 s.n,by rw[s.agree i z.2.1]; exact z.2.2.imp λo y=>⟨hI o y.1,y.2⟩⟩)
  λz=>z.imp λl z=>z.imp λa z=>z.imp λvs z=>z.imp λep z=>⟨z.1,z.2.1.imp λo y=>⟨hI o y.1,y.2⟩,s.tups _ _ _ z.2.2.2.1 z.2.2.1,f7 s.agree s.notT z.2.2.1 z.2.2.2.1,s.vals z.2.2.2.2⟩
theorem dm{vs:List Value}:vs.toArray[k]?=vs[k]?:=List.getElem?_toArray
theorem ValsR.get{m:Nat}{l:List AV}{vs:List Value}{x:AV}(hl:ValsR h β m l vs)(e:aY l k=some x):∃v,vs[k]?=some v∧ak h β m x v:=by
 induction k generalizing l vs with
 |zero=>cases l with
  |nil=>exact al e
  |cons=>exact hl.consE λu us hx _=>⟨u,rfl,sI e▸hx⟩
 |succ k ih=>cases l with
  |nil=>exact al e
  |cons=>exact hl.consE λu us _ hl=>ih hl e
theorem ValsR.getNone{m:Nat}{l:List AV}{vs:List Value}(hl:ValsR h β m l vs)(e:aY l k=none):vs[k]?=none:=
 List.getElem?_eq_none_iff.mpr (hl.length▸List.getElem?_eq_none_iff.mp ((d5 l k).symm.trans e))
theorem bL.el{v:AV}{l:List AV}{I:Addr}{C:Prop}(R:bB w h β σ)(x:bL h β σ.n v k I)(e:cG σ v=some l)
  (kl:∀i vs ep,v = .obj i→i<σ.n→h.IsListIter I (β i) k→IsL h (β i) (List.toArray vs) ep→ValsR h β σ.n l vs→C) (kt:∀a vs ep,v = .tup l→h.IsTupleIter I a k→IsT h a (List.toArray vs) ep→(∀i,i<σ.n→β i≠a)→ValsR h β σ.n l vs→C):C:=
 x.elim (λz=>z.elim λi z=>by
  rw[z.1] at e
  exact bA R (show lO (σ.get i)=some l from e) λvs ep hx hl=>kl i vs ep z.1 z.2.1 z.2.2 hx hl)
  λz=>z.elim λl' z=>z.elim λa z=>z.elim λvs z=>z.elim λep z=>by
   rw[z.1] at e
   cases (sI e:l'=l)
   exact kt a vs ep z.1 z.2.1 z.2.2.1 z.2.2.2.1 z.2.2.2.2
theorem tz{it t:Addr}{items:Array Value}{x:Value}{Q:Value→Shared→Prop}(hit:s.heap.IsTupleIter it t i)(ht:s.heap.IsTuple t items)(hx:items[i]?=some x)
  (hQ:∀h',h'.IsTupleIter it t (i+1)→Heap.SameBut it s.heap h'→Q x { s with heap:=h' }):wpAny (model ad w) A (Builtin.SmallTypes.nextOf (.ref it)) Q E s:=by
 obtain⟨o,ho,hc,hd⟩:=id hit
 obtain⟨ol,hol,_,nl,hdl⟩:=ht
 unfold Builtin.SmallTypes.nextOf
 refine wpAny_bind (wpAny_callSpecial?_slot (name:=Str.ofString "__next__") hit.typeIs F.slot_tuple_iterator_next (wpAny_call_entry F.slot_tuple_iterator_next hit.typeIs F.entry_tuple_iterator_next ?_ (F.args_tuple_iterator_next_1 _)))
 refine wpAny_bind (m:=field (.ref it) 0) (wpAny_field ho hd (x:= .ref t) rfl ?_)
 show wpAny _ _ (if (Value.ref t == Value.none)=true then _ else _) _ _ s
 rw[if_neg (show ¬((Value.ref t == Value.none)=true) from Bool.false_ne_true)]
 refine wpAny_bind (m:=field (.ref it) 1) (wpAny_field ho hd (x:= .int i 0) rfl ?_)
 refine wpAny_bind (m:=seqItems? (.ref t)) (wpAny_seqItems hol hdl ?_)
 simp only[Int.toNat_natCast,hx]
 refine wpAny_bind (wpAny_setField ho hd (by simp) (wpAny_pure ⟨x,rfl,wpAny_pure (hQ _ ?_ (Heap.SameBut.update ..))⟩))
 exact⟨_,Heap.get?_update_self _ ho (Obj.isFreed_of_fields (Obj.data_mapFields hd _)),(Obj.cls_mapFields ..).trans hc,by rw[Obj.data_mapFields hd]; simp[rawInt]⟩
theorem vt{it t:Addr}{items:Array Value}{Q:Value→Shared→Prop}(hh:A.handled=none)(hit:s.heap.IsTupleIter it t i)(ht:s.heap.IsTuple t items)(hx:items[i]?=none)
  (hE:∀h' e,Heap.ExtBut it s.heap h'→(∃o,h'.get? e=some o∧o.cls = .type "StopIteration")→E (.ref e) { s with heap:=h' }):wpAny (model ad w) A (Builtin.SmallTypes.nextOf (.ref it)) Q E s:=by
 obtain⟨o,ho,hc,hd⟩:=id hit
 obtain⟨ol,hol,_,nl,hdl⟩:=ht
 unfold Builtin.SmallTypes.nextOf
 refine wpAny_bind (wpAny_callSpecial?_slot (name:=Str.ofString "__next__") hit.typeIs F.slot_tuple_iterator_next (wpAny_call_entry F.slot_tuple_iterator_next hit.typeIs F.entry_tuple_iterator_next ?_ (F.args_tuple_iterator_next_1 _)))
 refine wpAny_bind (m:=field (.ref it) 0) (wpAny_field ho hd (x:= .ref t) rfl ?_)
 show wpAny _ _ (if (Value.ref t == Value.none)=true then _ else _) _ _ s
 rw[if_neg (show ¬((Value.ref t == Value.none)=true) from Bool.false_ne_true)]
 refine wpAny_bind (m:=field (.ref it) 1) (wpAny_field ho hd (x:= .int i 0) rfl ?_)
 refine wpAny_bind (m:=seqItems? (.ref t)) (wpAny_seqItems hol hdl ?_)
 simp only[Int.toNat_natCast,hx]
 refine wpAny_bind (wpAny_rule (wpAny_bind (wpAny_setField ho hd (by simp) ?_)))
 show wpAny _ _ (newExc (.type "StopIteration") [] >>= _) _ _ _
 refine wpAny_bind ?_
 simp only[newExc,newTuple]
 refine wpAny_bind (wpAny_newObj_type ?_ (by size_fits))
 refine wpAny_bind (m:=firstArgMember _ _) (wpAny_of_eq (a:=Value.none) (by first|rfl |(simp only[firstArgMember]; rfl)) ?_)
 refine wpAny_newObj_type ?_ (by size_fits)
 simp only[raiseNew]
 refine wpAny_bind (wpAny_handled ?_)
 first|rw[show A.in1.handled=none from hh] |rw[hh]
 refine wpAny_bind (wpAny_pure (wpAny_throw ?_))
 exact hE _ _ (((Heap.SameBut.update ..).extBut.push _).push _) ⟨_,Heap.get?_push_size _ rfl,rfl⟩
noncomputable def db(w:World)(A:Around)(i src:Addr)(P:Nat→Heap→Prop)(items:List Value):Prop:=(∀k h h',P k h→(∀a,a=i∨a=src→∀o,h.get? a=some o→h'.get? a=some o)→P k h')∧
 (∀k (s:Shared) (x:Value) (Q:Value→Shared→Prop) (E:Value→Shared→Prop),P k s.heap→items[k]?=some x→(∀h',P (k+1) h'→Heap.SameBut i s.heap h'→Q x { s with heap:=h' })→wpAny (model ad w) A (Builtin.SmallTypes.nextOf (.ref i)) Q E s)∧
 ∀k (s:Shared) (Q:Value→Shared→Prop) (E:Value→Shared→Prop),P k s.heap→items[k]?=none→(∀h' e,Heap.ExtBut i s.heap h'→(∃o,h'.get? e=some o∧o.cls = .type "StopIteration")→E (.ref e) { s with heap:=h' })→wpAny (model ad w) A (Builtin.SmallTypes.nextOf (.ref i)) Q E s
theorem db.list(hh:A.handled=none){i l:Addr}(hne:l≠i)(items:List Value):db w A i l (λk h=>h.IsListIter i l k∧h.IsList l items.toArray) items:=
 ⟨λk h h' x q=>⟨x.1.imp λo y=>⟨q i (.inl rfl) o y.1,y.2⟩,x.2.imp λo y=>⟨q l (.inr rfl) o y.1,y.2⟩⟩,λk s x Q E h1 hx hQ=>wpAny_nextOf_list_item h1.1 h1.2 (dm.trans hx) λh' a1 a2=>hQ h' ⟨a1,h1.2.extBut a2.extBut hne⟩ a2,
  λk s Q E h1 hx hE=>wpAny_nextOf_list_end hh h1.1 h1.2 (dm.trans hx) hE⟩
theorem db.tuple(hh:A.handled=none){i l:Addr}(hne:l≠i)(items:List Value):db w A i l (λk h=>h.IsTupleIter i l k∧h.IsTuple l items.toArray) items:=
 ⟨λk h h' x q=>⟨x.1.imp λo y=>⟨q i (.inl rfl) o y.1,y.2⟩,x.2.imp λo y=>⟨q l (.inr rfl) o y.1,y.2⟩⟩,λk s x Q E h1 hx hQ=>tz h1.1 h1.2 (dm.trans hx) λh' a1 a2=>hQ h' ⟨a1,h1.2.extBut a2.extBut hne⟩ a2,
  λk s Q E h1 hx hE=>vt hh h1.1 h1.2 (dm.trans hx) hE⟩
end
section
variable {h:Heap}{z TI TO i1 i2 l1 l2:Addr}{P1 P2:Nat→Heap→Prop}{xs ys:List Value}
theorem cC{a i l z:Addr}(h:a=i∨a=l)(h1:i≠z)(h2:l≠z):a≠z:=h.elim (λe=>e▸h1) λe=>e▸h2
noncomputable abbrev gu(z TO i1 i2:Addr)(h h':Heap):Prop:=∀c o,c≠z→c≠TO→c≠i1→c≠i2→h.get? c=some o→h'.get? c=some o
noncomputable abbrev tL(h':Heap)(e:Addr):Prop:=∃o,h'.get? e=some o∧o.cls = .type "StopIteration"
theorem y0{Q:Option Value→Shared→Prop}(hT:Shared.TypeIs ⟨h,g,d,tk,os⟩ (.ref z) "zip")(hz:wpAny (model ad w) A.in1 (Builtin.«zip.__next__» ⟨[.ref z],[]⟩) (λfin s'=>∃v,fin = .done (.ret v)∧Q (some v) s') (λe s'=>∃e',e = .ref e'∧tL s'.heap e'∧Q none s') ⟨h,g,d,tk,os⟩) :
  wpAny (model ad w) A (pyNext (.ref z)) Q E ⟨h,g,d,tk,os⟩:=by
 unfold pyNext
 exact wpAny_bind (wpAny_attempt (wpAny_callSpecial?_slot (name:=Str.ofString "__next__") hT F.slot_zip_next (wpAny_call_entry F.slot_zip_next hT F.entry_zip_next (wpAny_mono hz (λfin s' x=>x.imp λv y=>⟨y.1,wpAny_pure y.2⟩)
  λe s' x=>x.elim λe' y=>y.1▸wpAny_bind (wpAny_isInstance (T:="StopIteration") (b:=true) y.2.1 isSubtype_stop (wpAny_pure y.2.2))) (F.args_zip_next_1 _))))
section
variable {k1 k2:Nat}{u v:Value}(D:ZipApart z TI TO i1 i2 l1 l2)(hz:IsZip h z TI TO .none)(hTI:IsPair h TI (.ref i1) (.ref i2))(hTO:IsPair h TO u v)(h1:P1 k1 h)(h2:P2 k2 h)
include D hz hTI hTO h1 h2
theorem Ox{Q:Value→Shared→Prop}(N1:db w A i1 l1 P1 xs)(N2:db w A i2 l2 P2 ys)(hQ:∀x y,xs[k1]?=some x→ys[k2]?=some y→∀h',IsZip h' z TI TO (rawInt h.objs.size)→IsPair h' TO x y→P1 (k1+1) h'→P2 (k2+1) h'→IsPair h' h.objs.size x y→h'.objs.size=h.objs.size+1→gu z TO i1 i2 h h'→Q (.ref h.objs.size) ⟨h',g,d,tk,os⟩)
  (hE:xs[k1]?=none∨ys[k2]?=none→∀h' e,(∃u v,IsPair h' TO u v)→gu z TO i1 i2 h h'→tL h' e→E (.ref e) ⟨h',g,d,tk,os⟩) :
  wpAny (model ad w) A (Builtin.«zip.__next__» ⟨[.ref z],[]⟩) (λfin s'=>∃v,fin = .done (.ret v)∧Q v s') E ⟨h,g,d,tk,os⟩:=by
 have stop:∀{g2:Heap}{e:Addr},IsZip g2 z TI TO .ellipsis→tL g2 e→∀{g3:Heap},Heap.SameBut z g2 g3→tL g3 e:=λz2 he g3 s3=>he.elim λoe x=>⟨oe,s3.extBut _ _ (λy=>cx (by decide) ((cA0 Obj.cls (sI (z2.symm.trans (y▸x.1)))).trans x.2)) x.1,x.2⟩
 refine wpAny_bind (m:=field (.ref z) 2) (wpAny_field hz rfl (x:= .bool false) rfl ?_)
 refine wpAny_bind (m:=field (.ref z) 3) (wpAny_field hz rfl (x:= .ref TI) rfl ?_)
 refine wpAny_bind (wpAny_seqItems hTI rfl ?_)
 refine wpAny_bind (m:=Builtin.SmallTypes.ownedTupleIsFree (.ref z)) (wpAny_bind (m:=field (.ref z) 0) (wpAny_field hz rfl (x:= .none) rfl (wpAny_pure ?_)))
 simp only[if_true]
 refine wpAny_bind (wpAny_rule (wpAny_bind (wpAny_field hz rfl (x:= .ref TO) rfl (wpAny_bind (wpAny_setField_rec hz (by simp) λg1 (z1:IsZip g1 z TI TO .ellipsis) s1=>?_)))))
 have P11:P1 k1 g1:=N1.1 _ _ _ h1 λa ha o e=>s1.extBut _ _ (cC ha D.i1z D.l1z) e
 refine wpAny_bind ?_
 simp only[List.zipIdx_cons,List.zipIdx_nil,List.forIn_cons,List.forIn_nil]
 refine wpAny_bind (wpAny_bind (wpAny_onRaise (wpAny_bind (m:=Builtin.SmallTypes.nextOf (.ref i1)) ?_)))
 cases hx:xs[k1]? with
 |none=>
  exact N1.2.2 k1 _ _ _ P11 hx λg2 e s2 he=>wpAny_setField_rec (s2 _ _ D.i1z.symm z1) (by simp) λg3 _ s3=>hE (.inl hx) g3 e ⟨u,v,s3.extBut _ _ D.TOz (s2 _ _ D.TOi1 (s1.extBut _ _ D.TOz hTO))⟩
   (λc o c1 _ c3 _ x=>s3.extBut _ _ c1 (s2 _ _ c3 (s1.extBut _ _ c1 x))) (stop (s2 _ _ D.i1z.symm z1) he s3)
 |some x=>
  refine N1.2.1 k1 _ x _ _ P11 hx λg2 P12 s2=>wpAny_pure ?_
  have t2:IsPair g2 TO u v:=s2.extBut _ _ D.TOi1 (s1.extBut _ _ D.TOz hTO)
  refine wpAny_bind (wpAny_seqItems t2 rfl (wpAny_bind (wpAny_updateSeq_pair t2 λg3 (t3:IsPair g3 TO x v) s3=>wpAny_bind (wpAny_letGo (wpAny_pure ?_)))))
  have P23:P2 k2 g3:=N2.1 _ _ _ h2 λa ha o e=>s3.extBut _ _ (cC ha D.TOi2.symm D.l2TO) (s2.extBut _ _ (cC ha D.i12.symm D.l2i1) (s1.extBut _ _ (cC ha D.i2z D.l2z) e))
  have z3:IsZip g3 z TI TO .ellipsis:=s3.extBut _ _ D.TOz.symm (s2.extBut _ _ D.i1z.symm z1)
  have k3:gu z TO i1 i2 h g3:=λc o c1 c2 c3 c4 x=>s3.extBut _ _ c2 (s2.extBut _ _ c3 (s1.extBut _ _ c1 x))
  refine wpAny_bind (wpAny_bind (wpAny_onRaise (wpAny_bind (m:=Builtin.SmallTypes.nextOf (.ref i2)) ?_)))
  cases hy:ys[k2]? with
  |none=>
   exact N2.2.2 k2 _ _ _ P23 hy λg4 e s4 he=>wpAny_setField_rec (s4 _ _ D.i2z.symm z3) (by simp) λg5 _ s5=>hE (.inr hy) g5 e ⟨x,v,s5.extBut _ _ D.TOz (s4 _ _ D.TOi2 t3)⟩
    (λc o c1 c2 c3 c4 x=>s5.extBut _ _ c1 (s4 _ _ c4 (k3 c o c1 c2 c3 c4 x))) (stop (s4 _ _ D.i2z.symm z3) he s5)
  |some y=>
   refine N2.2.1 k2 _ y _ _ P23 hy λg4 P24 s4=>wpAny_pure ?_
   have t4:IsPair g4 TO x v:=s4.extBut _ _ D.TOi2 t3
   refine wpAny_bind (wpAny_seqItems t4 rfl (wpAny_bind (wpAny_updateSeq_pair t4 λg5 (t5:IsPair g5 TO x y) s5=>wpAny_bind (wpAny_letGo (wpAny_pure (wpAny_pure ?_))))))
   refine wpAny_bind (wpAny_seqItems t5 rfl (wpAny_bind (wpAny_newTuple ?_)))
   have hsz:g5.objs.size=h.objs.size:=s5.1.trans (s4.1.trans (s3.1.trans (s2.1.trans s1.1)))
   have z5:IsZip g5 z TI TO .ellipsis:=s5.extBut _ _ D.TOz.symm (s4.extBut _ _ D.i2z.symm z3)
   have hzlt:=Nat.ne_of_gt (Heap.lt_size z5)
   refine wpAny_bind (m:=Builtin.SmallTypes.ownedTupleHandOut (.ref z) (.ref g5.objs.size)) (wpAny_bind (wpAny_setField_rec (Heap.get?_push_of_some _ z5) (by simp) λg7 (z7:IsZip g7 z TI TO (rawInt g5.objs.size)) s7=>wpAny_setField_rec z7 (by simp) λg8 (z8:IsZip g8 z TI TO (rawInt g5.objs.size)) s8=>wpAny_pure ⟨_,rfl,?_⟩))
   have up:∀c o,c≠z→g5.get? c=some o→g8.get? c=some o:=λc o c1 e=>s8.extBut _ _ c1 (s7.extBut _ _ c1 (Heap.get?_push_of_some _ e))
   have t8:IsPair g8 g5.objs.size x y:=s8.extBut _ _ hzlt (s7.extBut _ _ hzlt (Heap.get?_push_size _ rfl))
   have hs8:g8.objs.size=g5.objs.size+1:=s8.1.trans (s7.1.trans (Heap.size_push ..))
   rw[hsz] at z8 t8 hs8
   show Q (.ref g5.objs.size) _
   rw[hsz]
   exact hQ x y hx hy g8 z8 (up _ _ D.TOz t5) (N1.1 _ _ _ P12 λa ha o e=>up _ _ (cC ha D.i1z D.l1z) (s5.extBut _ _ (cC ha D.TOi1.symm D.l1TO) (s4.extBut _ _ (cC ha D.i12 D.l1i2) (s3.extBut _ _ (cC ha D.TOi1.symm D.l1TO) e))))
    (N2.1 _ _ _ P24 λa ha o e=>up _ _ (cC ha D.i2z D.l2z) (s5.extBut _ _ (cC ha D.TOi2.symm D.l2TO) e)) t8 hs8 λc o c1 c2 c3 c4 e=>up c o c1 (s5.extBut _ _ c2 (s4.extBut _ _ c4 (k3 c o c1 c2 c3 c4 e)))
theorem uR{Q:Option Value→Shared→Prop}(N1:db w A.in1 i1 l1 P1 xs)(N2:db w A.in1 i2 l2 P2 ys)(hQ:∀x y,xs[k1]?=some x→ys[k2]?=some y→∀h',IsZip h' z TI TO (rawInt h.objs.size)→IsPair h' TO x y→P1 (k1+1) h'→P2 (k2+1) h'→IsPair h' h.objs.size x y→h'.objs.size=h.objs.size+1→gu z TO i1 i2 h h'→Q (some (.ref h.objs.size)) ⟨h',g,d,tk,os⟩)
  (hE:xs[k1]?=none∨ys[k2]?=none→∀h',(∃u v,IsPair h' TO u v)→gu z TO i1 i2 h h'→Q none ⟨h',g,d,tk,os⟩):wpAny (model ad w) A (pyNext (.ref z)) Q E ⟨h,g,d,tk,os⟩:=
 y0 ⟨_,hz,rfl⟩ (Ox D hz hTI hTO h1 h2 N1 N2 (λx y hx hy h' a1 a2 a3 a4 a5 a6 a7=>hQ x y hx hy h' a1 a2 a3 a4 a5 a6 a7) λhend h' e ht hk he=>⟨e,rfl,he,hE hend h' ht hk⟩)
end
end
section
variable {h:Heap}{N:Shared→Prop}{Q:Value→Shared→Prop}{t:Expr}{I:Addr}{v:AV}{l:List AV}{fp:List Addr}{o:Option AV}{it:It}
structure Fp(h:Heap)(β:Nat→Addr)(n:Nat)(frs:List Env)(fp:List Addr):Prop where
 lo:∀D∈fp,N0≤D
 sep:∀D∈fp,∀i,i<n→β i≠D
 fr:∀D∈fp,∀e∈frs,e.frame≠some D
 lt:∀D∈fp,D<h.objs.size
noncomputable def nh(h:Heap)(β:Nat→Addr)(n:Nat)(it:It)(k:Nat)(I:Addr)(fp:List Addr):Prop:=match it with
 | .seq v=>fp=[I]∧bL h β n v k I
 | .range m=>fp=[I]∧IsRangeIter h I (k:Int) ((m:Int)-k) 1
 | .enum v=>∃i,fp=[I,i]∧IsEnum h I i 0 .none∧bL h β n v 0 i
 | .zip u v o=>∃TI i1 i2,fp=[I,i1,i2]∧o<n∧IsZip h I TI (β o) .none∧IsPair h TI (.ref i1) (.ref i2)∧bL h β n u k i1∧bL h β n v k i2∧i1≠i2∧∀i,i<n→β i≠TI
 | .keys j=>fp=[I]∧j<n∧∃o es ep,h.get? (β j)=some o∧o.data = .dict es ep∧h.IsKeyIter I (β j) k es.size ep
theorem Fp.step(F:Fp h β σ.n frs fp)(s:ar w X frs h h' β β' σ σ'):Fp h' β' σ'.n frs fp:=
 ⟨F.lo,λD hD=>ey (F.lt D hD) (F.sep D hD) s,F.fr,λD hD=>lT0 (F.lt D hD) s.size⟩
theorem nh.step(S:Sit w K A frs h β σ)(F:Fp h β σ.n frs fp)(x:nh h β σ.n it k I fp)(s:ar w X frs h h' β β' σ σ')(hX:∀D∈fp,¬X D)(hXβ:∀i,i<σ.n→¬X (β i))
  (hj:∀j,it = .keys j→hot (σ.get j)=false):nh h' β' σ'.n it k I fp:=by
 have kp:∀D∈fp,∀o,h.get? D=some o→h'.get? D=some o:=λD hD o e=>s.keep D o e (hX D hD) (λi hi q=>F.sep D hD i (S.rel.lt hi) q.symm) (λe0 he q=>F.fr D hD e0 he q) λt=>fh t (F.lo D hD)
 cases it with
 |seq v=>exact⟨x.1,x.2.keep (kp I (x.1▸ .head _)) s⟩
 |range m=>exact⟨x.1,kp I (x.1▸ .head _) _ x.2⟩
 |enum v=>
  obtain⟨i,x⟩:=x
  exact⟨i,x.1,kp I (x.1▸ .head _) _ x.2.1,x.2.2.keep (kp i (x.1▸ .tail _ (.head _))) s⟩
 |zip u v o=>
  obtain⟨TI,i1,i2,x⟩:=x
  exact⟨TI,i1,i2,x.1,lT0 x.2.1 s.n,by rw[s.agree o x.2.1]; exact kp I (x.1▸ .head _) _ x.2.2.1,s.tups _ _ _ x.2.2.2.2.2.2.2 x.2.2.2.1,x.2.2.2.2.1.keep (kp _ (x.1▸ .tail _ (.head _))) s,
   x.2.2.2.2.2.1.keep (kp _ (x.1▸ .tail _ (.tail _ (.head _)))) s,x.2.2.2.2.2.2.1,f7 s.agree s.notT x.2.2.2.1 x.2.2.2.2.2.2.2⟩
 |keys j=>
  refine⟨x.1,lT0 x.2.1 s.n,?_⟩
  rw[s.agree j x.2.1]
  exact x.2.2.imp λo y=>y.imp λes y=>y.imp λep y=>⟨s.keep _ o y.1 (hXβ j x.2.1) (λi hi q=>aV ((hj j rfl).symm.trans (S.rel.inj j i x.2.1 (S.rel.lt hi) q▸hi))) (λe0 he q=>S.sepF e0 he _ q j x.2.1 rfl) λt=>fh t (S.rel.lo j x.2.1).1,
   y.2.1,y.2.2.imp λo z=>⟨kp I (x.1▸ .head _) _ z.1,z.2⟩⟩
theorem mI{nm:String}{xs:Array Value}{v:Value}{Q:Unit→Shared→Prop}(ho:∃o,s.heap.get? I=some o∧o.cls = .type nm∧o.data = .fields xs)
  (hn:["enumerate","zip","dict_itemiterator","dict_reverseitemiterator","odict_iterator","itertools.zip_longest","itertools.pairwise"].contains nm=false) (q:Q () s):wpAny (model ad w) A (letOwnedTupleGo t (.ref I) v) Q E s:=by
 have key:∀a:Addr,wpAny (model ad w) A (do
   let o ←load I
   match o.cls,o.data with
   | .type n, .fields vs=>
    if ["enumerate","zip","dict_itemiterator","dict_reverseitemiterator","odict_iterator","itertools.zip_longest","itertools.pairwise"].contains n&&vs[0]? == some (rawInt a) then do
     rule "for.unpacks-the-owned-tuple"
     updateField I 0 .none
    else pure ()
   |_,_=>pure ()) Q E s:=λa=>ho.elim λo ho=>wpAny_bind (wpAny_load ho.1 (by
  rw[ho.2.1,ho.2.2]
  dsimp only
  rw[hn,Bool.false_and]
  exact wpAny_pure q))
 unfold letOwnedTupleGo
 cases t <;> first|exact wpAny_pure q |(cases v <;> first|exact wpAny_pure q |exact key _)
noncomputable abbrev lA(w:World)(A:Around)(t:Expr)(I:Addr)(N:Shared→Prop)(Q:Value→Shared→Prop)(E:Value→Shared→Prop):Option Value→Shared→Prop:=λr s₁=>match r with
 |none=>N s₁
 |some u=>wpAny (model ad w) A (letOwnedTupleGo t (.ref I) u) (λ_ s'=>Q u s') E s₁
noncomputable def lE(w:World)(frs:List Env)(os:OsState)(h:Heap)(β:Nat→Addr)(σ:ac)(fp:List Addr)(o:Option AV)(M:Heap→Prop)(N:Shared→Prop)(Q:Value→Shared→Prop):Prop:=
 (o=none→∀h' tk,ar w (λa=>a∈fp) frs h h' β β σ σ→N ⟨h',g,d,tk,os⟩)∧∀v,o=some v→∀h' u tk,ar w (λa=>a∈fp) frs h h' β β σ σ→ak h' β σ.n v u→M h'→Q u ⟨h',g,d,tk,os⟩
theorem Sit.moved1(S:Sit w K A frs h β σ)(F:∀i,i<σ.n→β i≠I)(ho:∃o,h.get? I=some o∧jc o)(hs:h.objs.size≤h'.objs.size)(k:Heap.ExtBut I h h'):ar w (λa=>a∈[I]) frs h h' β β σ σ:=
 ar.moved (Y:=λ_=>False) S hs (λa o q _ e=>k a o (λz=>q (z▸ .head _)) e) (λD hD=>List.mem_singleton.mp hD▸ho) (λD hD=>List.mem_singleton.mp hD▸F) (λi z=>z.elim)
section
variable (S:Sit w K A frs h β σ)(F:∀i,i<σ.n→β i≠I)
include S F
theorem BU(y:bL h β σ.n v k I)(e:cG σ v=some l)(W:lE w frs os h β σ [I] (aY l k) (λh'=>bL h' β σ.n v (k+1) I) N Q):wpAny (model ad w) A (pyNext (.ref I)) (lA w A t I N Q E) E ⟨h,g,d,tk,os⟩:=by
 refine y.el S.rel e (λi vs ep hv hi h1 h2 hl=>?_) λa vs ep hv h1 h2 hno hl=>?_
 ·cases q:aY l k with
  |none=>exact aW (wpAny_pyNext_list_end S.hh h1 (IsL.isList h2) (dm.trans (hl.getNone q)) λh' hs hsz=>W.1 q h' _ (S.moved1 F (dX (by decide) rfl h1) hsz hs))
  |some x=>exact(hl.get q).elim λu z=>aW (wpAny_pyNext_list_item h1 (IsL.isList h2) (dm.trans z.1) λh' h1' hs hsz=>
    have st:=S.moved1 (h':=h') F (dX (by decide) rfl h1) (Nat.le_of_eq hs.1.symm) hs.extBut
    mI h1' (by decide) (W.2 x q h' u _ st (st.val z.2) (.inl ⟨i,hv,hi,h1'⟩)))
 ·cases q:aY l k with
  |none=>exact aW (wpAny_pyNext_tuple_end S.hh h1 ⟨_,h2,rfl,_,rfl⟩ (dm.trans (hl.getNone q)) λh' hs hsz=>W.1 q h' _ (S.moved1 F (dX (by decide) rfl h1) hsz hs))
  |some x=>exact(hl.get q).elim λu z=>aW (wpAny_pyNext_tuple_item h1 ⟨_,h2,rfl,_,rfl⟩ (dm.trans z.1) λh' h1' hs hsz=>
    have st:=S.moved1 (h':=h') F (dX (by decide) rfl h1) (Nat.le_of_eq hs.1.symm) hs.extBut
    mI h1' (by decide) (W.2 x q h' u _ st (st.val z.2) (.inr ⟨l,a,vs,ep,hv,h1',st.tups _ _ _ hno h2,hno,st.vals hl⟩)))
theorem yp{m:Nat}(y:IsRangeIter h I (k:Int) ((m:Int)-k) 1)(W:lE w frs os h β σ [I] (bif Nat.blt k m then some (.int (.ofNat k)) else none) (λh'=>IsRangeIter h' I ((k+1:Nat):Int) ((m:Int)-(k+1:Nat)) 1) N Q) :
  wpAny (model ad w) A (pyNext (.ref I)) (lA w A t I N Q E) E ⟨h,g,d,tk,os⟩:=by
 have hp:∃o,h.get? I=some o∧jc o:=dX (T:="range_iterator") (by decide) rfl ⟨_,y,rfl,rfl⟩
 cases q:Nat.blt k m with
 |false=>exact aW (wpAny_pyNext_range_end S.hh y (Int.sub_nonpos_of_le (Int.ofNat_le.mpr (Nat.not_lt.mp λz=>aV (q.symm.trans (Nat.ble_eq_true_of_le z))))) λh' hs hsz=>W.1 (by rw[q]; rfl) h' _ (S.moved1 F hp hsz hs))
 |true=>
  refine wpAny_pyNext_range_item y (Int.sub_pos.mpr (Int.ofNat_lt.mpr (lB0 q))) λh' y' hs=>?_
  rw[Int.sub_sub] at y'
  exact mI ⟨_,y',rfl,rfl⟩ (by decide) (W.2 _ (by rw[q]; rfl) h' _ _ (S.moved1 F hp (Nat.le_of_eq hs.1.symm) hs.extBut) (.int _ _) y')
end
theorem uH{D:Addr}{m:Nat}{l:List (AV×AV)}(e:mB l=true)(x:bz w h β m (.dict l) D):∃kvs,h.DictOf (strKind ad w) D kvs∧aN h β m l kvs:=
 x.elim id λz=>z.elim λxs z=>bn.casesOn (motive:=λl xs _=>mB l=true→h.DictOfH (tupleKind (strKind ad w)) D xs→∃kvs,h.DictOf (strKind ad w) D kvs∧aN h β m l kvs) z.2 (λ_ d=>⟨[],jY d, .nil⟩) (λ_ _ _ _ q=>aV q) e z.1
theorem aN.at{m:Nat}{l:List (AV×AV)}{kvs:List (Str×Value)}{x:AV}(E:aN h β m l kvs)(e:aY (l.map (·.1)) i=some x):∃k v,x = .str k∧kvs[i]?=some (ae k,v):=by
 induction E generalizing i with
 |nil=>exact al e
 |cons hx hl ih=>cases i with
  |zero=>exact⟨_,_,(sI e).symm,rfl⟩
  |succ i=>exact ih e
theorem aN.atNone{m:Nat}{l:List (AV×AV)}{kvs:List (Str×Value)}(x:aN h β m l kvs)(e:aY (l.map (·.1)) i=none):kvs[i]?=none:=by
 rw[d5,List.getElem?_eq_none_iff,List.length_map] at e
 exact List.getElem?_eq_none_iff.mpr (x.length▸e)
theorem Au{j:Nat}{l:List (AV×AV)}(S:Sit w K A frs h β σ)(F:∀i,i<σ.n→β i≠I)(y:j<σ.n∧∃o es ep,h.get? (β j)=some o∧o.data = .dict es ep∧h.IsKeyIter I (β j) k es.size ep)
  (e:fO (σ.get j)=some l) (e2:mB l=true) (W:lE w frs os h β σ [I] (aY (l.map (·.1)) k) (λh'=>∃o es ep,h'.get? (β j)=some o∧o.data = .dict es ep∧h'.IsKeyIter I (β j) (k+1) es.size ep) N Q) :
  wpAny (model ad w) A (pyNext (.ref I)) (lA w A t I N Q E) E ⟨h,g,d,tk,os⟩:=by
 obtain⟨hj,o,es,ep,h1,h2,h3⟩:=y
 obtain⟨kvs,⟨o',es',ep',q1,q2,q3,q4,q5,q6⟩,hl⟩:=uH e2 (z0 S.rel (mn e)).1
 have e3:=Data.dict.inj (h2.symm.trans ((cA0 Obj.data (sI (h1.symm.trans q1))).trans q3))
 have hsz:es'.size=kvs.length:=Array.length_toList.symm.trans q5.length
 rw[e3.1,e3.2,hsz] at h3
 have hp:=dX (by decide) rfl h3
 have hD:h.DictAt (strKind ad w) (β j) kvs ep':=⟨o',es',q1,q2,q3,q4,q5,q6⟩
 cases q:aY (l.map (·.1)) k with
 |none=>exact aW (wpAny_pyNext_dict_end S.hh h3 hD (hl.atNone q) λh' hs hsz=>W.1 q h' _ (S.moved1 F hp hsz hs))
 |some x=>
  exact(hl.at q).elim λkk z=>z.elim λv z=>wpAny_pyNext_dict_item h3 hD z.2 λkey h' hi h5 hs=>(Value.isStrOf_shape hi).elim λtt e=>e▸
   mI h5 (by decide) (W.2 _ q h' _ _ (S.moved1 F hp (Nat.le_of_eq hs.1.symm) hs.extBut) (z.1▸ .str _ _) ⟨o',es',ep',(hs.2 _ (F j hj)).trans q1,q3,hsz▸h5⟩)
end
section
variable {h:Heap}{N:Shared→Prop}{Q:Value→Shared→Prop}{I:Addr}{v:AV}{l:List AV}{fp:List Addr}{o:Option AV}{it:It}
theorem lK{x y:Addr}{o p:Obj}(hx:h.get? x=some o)(hy:h.get? y=some p)(hc:o.cls≠p.cls):x≠y:=λz=>hc (cA0 Obj.cls (sI (hx.symm.trans (z▸hy))))
theorem bL.inner(S:Sit w K A frs h β σ)(F:∀i,i<σ.n→β i≠I)(y:bL h β σ.n v k I)(e:cG σ v=some l){C:Prop} (c:∀src P vs,ValsR h β σ.n l vs→db w A.in1 I src P vs→P k h→(∃os,h.get? src=some os∧(os.cls = .type "list"∨os.cls = .type "tuple"))→(∀o,σ.get o=some .own→src≠β o)→
  (∀h' k' Y,ar w Y frs h h' β β σ σ→P k' h'→bL h' β σ.n v k' I)→C):C:=
 y.el S.rel e (λi vs ep hv hi h1 h2 hl=>c (β i) (λk h=>h.IsListIter I (β i) k∧h.IsList (β i) vs.toArray) vs hl (db.list (A:=A.in1) S.hh (F i hi) vs) ⟨h1,IsL.isList h2⟩ ⟨_,h2, .inl rfl⟩ (λo ho=>(S.rel.obj o _ ho).2.elim λ_ z=>z.elim λ_ e3=>lK h2 e3 (cx (by decide))) λh' k' Y st p=> .inl ⟨i,hv,hi,p.1⟩)
  λa vs ep hv h1 h2 hno hl=>c a (λk h=>h.IsTupleIter I a k∧h.IsTuple a vs.toArray) vs hl (db.tuple (A:=A.in1) S.hh (h1.elim λ_ z=>lK h2 z.1 (by rw[z.2.1]; exact cx (by decide))) vs) ⟨h1,_,h2,rfl,_,rfl⟩ ⟨_,h2, .inr rfl⟩ (λo ho z=>hno o (S.rel.obj o _ ho).1 z.symm) λh' k' Y st p=> .inr ⟨l,a,vs,ep,hv,p.1,st.tups _ _ _ hno h2,hno,st.vals hl⟩
theorem CC{i:Addr}{Q:Option Value→Shared→Prop}(S:Sit w K A frs h β σ)(Fi:∀j,j<σ.n→β j≠i)(he:IsEnum h I i 0 .none)(y:bL h β σ.n v 0 i)(e:cG σ v=some l)(el:bC l=true)
  (hq:∀h',ar w (λa=>a∈[i]) frs h h' β β σ σ→Q none ⟨h',g,d,tk,os⟩):wpAny (model ad w) A (pyNext (.ref I)) Q E ⟨h,g,d,tk,os⟩:=
 y.inner S Fi e λsrc P vs hl N hP _ _ _=>by
  have hT:Shared.TypeIs ⟨h,g,d,tk,os⟩ (.ref I) "enumerate":=⟨_,he,rfl⟩
  have hv:vs[0]?=none:=hl.getNone (by cases l with |nil=>rfl |cons=>exact aV el)
  refine aW ?_
  unfold pyNext
  exact wpAny_bind (wpAny_attempt (wpAny_callSpecial?_slot (name:=Str.ofString "__next__") hT F.slot_enumerate_next (wpAny_call_entry F.slot_enumerate_next hT F.entry_enumerate_next (wpAny_bind (m:=field (.ref I) 2) (wpAny_field he rfl (x:= .ref i) rfl
   (wpAny_bind (N.2.2 0 _ _ _ hP hv λh' x he' hx'=>wpAny_bind (wpAny_isInstance (T:="StopIteration") (b:=true) hx' isSubtype_stop (wpAny_pure λhsz=>hq _ (S.moved1 Fi y.cls.1 hsz he'))))))) (F.args_enumerate_next_1 _))))
theorem ValsR.noneOf{m:Nat}{vs:List Value}(hl:ValsR h β m l vs)(e:vs[k]?=none):aY l k=none:=by
 cases q:aY l k with
 |none=>rfl
 |some x=>exact(hl.get q).elim λu z=>al (e.symm.trans z.1)
theorem Ap{m:List AV}(e:aY l k=none∨aY m k=none):lv l m k=none:=by
 unfold lv
 rcases e with e |e
 ·rw[e]; rfl
 ·rw[e]; cases aY l k <;> rfl
theorem Ch{ts:List ME}{tp:Pos}{u:AV}{m:List AV}{o:Nat}{TI i1 i2:Addr}(S:Sit w K A frs h β σ)(F:Fp h β σ.n frs [I,i1,i2])(hz:IsZip h I TI (β o) .none)(ht:IsPair h TI (.ref i1) (.ref i2))(h1:bL h β σ.n u k i1)(h2:bL h β σ.n v k i2)(hne:i1≠i2)
  (hTI:∀i,i<σ.n→β i≠TI) (ho:σ.get o=some .own) (eu:cG σ u=some l) (ev:cG σ v=some m) (W:lE w frs os h β σ [I,i1,i2] (lv l m k) (λh'=>IsZip h' I TI (β o) .none∧bL h' β σ.n u (k+1) i1∧bL h' β σ.n v (k+1) i2) N Q) :
  wpAny (model ad w) A (pyNext (.ref I)) (lA w A (aA (.tup ts tp)) I N Q E) E ⟨h,g,d,tk,os⟩:=
 h1.inner S (λi hi=>F.sep _ (.tail _ (.head _)) i hi) eu λs1 P1 xs hl N1 hP1 hs1 d1 rb1=>h2.inner S (λi hi=>F.sep _ (.tail _ (.tail _ (.head _))) i hi) ev λs2 P2 ys hm N2 hP2 hs2 d2 rb2=>(S.rel.obj o _ ho).2.elim λx0 z=>z.elim λy0 hTO=>by
  have hon:=(S.rel.obj o _ ho).1
  have it:∀{i:Addr}{n k:Nat}{v:AV},bL h β n v k i→∀{s:Addr}{p:Obj},h.get? s=some p→(p.cls = .type "list"∨p.cls = .type "tuple"∨p.cls = .type "zip")→s≠i:=λx s p hp c=>x.cls.2.elim λq z=>lK hp z.1 (by
   rcases z.2 with c' |c' <;> rcases c with c |c |c <;> rw[c,c'] <;> exact cx (by decide))
  have lz:∀{s:Addr},(∃p,h.get? s=some p∧(p.cls = .type "list"∨p.cls = .type "tuple"))→s≠I:=λx=>x.elim λp z=>lK z.1 hz (z.2.elim (λc=>by rw[c]; exact cx (by decide)) λc=>by rw[c]; exact cx (by decide))
  have li:∀{i s:Addr}{n k:Nat}{v:AV},bL h β n v k i→(∃p,h.get? s=some p∧(p.cls = .type "list"∨p.cls = .type "tuple"))→s≠i:=λx y=>y.elim λp z=>it x z.1 (z.2.imp id .inl)
  have D:ZipApart I TI (β o) i1 i2 s1 s2:=⟨lK ht hz (cx (by decide)),F.sep I (.head _) o hon,(it h1 hz (.inr (.inr rfl))).symm,(it h2 hz (.inr (.inr rfl))).symm,λe=>hTI o hon e.symm,it h1 ht (.inr (.inl rfl)),it h2 ht (.inr (.inl rfl)),F.sep i1 (.tail _ (.head _)) o hon,
   F.sep i2 (.tail _ (.tail _ (.head _))) o hon,hne,lz hs1,d1 o ho,li h1 hs1,li h2 hs1,lz hs2,d2 o ho,li h1 hs2,li h2 hs2⟩
  have step:∀{h':Heap},h.objs.size≤h'.objs.size→gu I (β o) i1 i2 h h'→(∃x y,IsPair h' (β o) x y)→ar w (λa=>a∈[I,i1,i2]) frs h h' β β σ σ:=λhs kk hp=>
   ar.moved (Y:=λi=>i=o) S hs (λa q na nY e=>kk a q (λz=>na (z▸ .head _)) (nY o hon rfl) (λz=>na (z▸ .tail _ (.head _))) (λz=>na (z▸ .tail _ (.tail _ (.head _)))) e) (λD hD=>(List.mem_cons.mp hD).elim (λz=>z▸dX (T:="zip") (by decide) rfl ⟨_,hz,rfl,rfl⟩)
    λhD=>(List.mem_cons.mp hD).elim (λz=>z▸h1.cls.1) λhD=>List.mem_singleton.mp hD▸h2.cls.1) F.sep λi hi=>hi▸⟨ho,hp⟩
  refine aW (uR D hz ht hTO hP1 hP2 N1 N2 (λux uy hux huy h3 z3 t3 p13 p23 r3 hs3 k3=>?_) λhend h3 t3 k3 hsz=>W.1 (Ap (hend.imp hl.noneOf hm.noneOf)) _ _ (step hsz k3 t3))
  ·cases n1:aY l k with
   |none=>exact λ_=>al ((hl.getNone n1).symm.trans hux)
   |some p=>cases n2:aY m k with
    |none=>exact λ_=>al ((hm.getNone n2).symm.trans huy)
    |some q=>
     obtain⟨_,q1,rx⟩:=hl.get n1
     obtain⟨_,q2,ry⟩:=hm.get n2
     cases hux.symm.trans q1
     cases huy.symm.trans q2
     refine λ_=>wpAny_letOwnedTupleGo_zip z3 λh4 z4 s4=>?_
     have up:∀{c o},c≠I→h3.get? c=some o→h4.get? c=some o:=λc1 e=>s4.extBut _ _ c1 e
     have t4:IsPair h4 (β o) ux uy:=up D.TOz t3
     have st:=step (h':=h4) (by rw[s4.1]; show h.objs.size≤h3.objs.size; rw[hs3]; exact Nat.le_succ _) (λc q c1 c2 c3 c4 e=>up c1 (k3 c q c1 c2 c3 c4 e)) ⟨ux,uy,t4⟩
     exact W.2 (.tup [p,q]) (by unfold lv; rw[n1,n2]; rfl) h4 _ _ st (.tup (ep:=0) (up (Nat.ne_of_gt (Heap.lt_size hz)) r3) (λi hi=>Nat.ne_of_lt (S.rel.lo i hi).2) (.cons (st.val rx) (.cons (st.val ry) .nil)))
      ⟨z4,rb1 _ _ _ st (N1.1 _ _ _ p13 λa ha o e=>up (cC ha D.i1z D.l1z) e),rb2 _ _ _ st (N2.1 _ _ _ p23 λa ha o e=>up (cC ha D.i2z D.l2z) e)⟩
end
section
variable {h:Heap}{N:Shared→Prop}{Q:Value→Shared→Prop}{I:Addr}{v:AV}{l:List AV}{fp:List Addr}{o:Option AV}{it:It}
theorem zH{o:Option ai}(q:H5 o=true):o=some .own:=by
 cases o with
 |none=>exact aV q
 |some o=>cases o with
  |own=>rfl
  |_=>exact aV q
theorem lE.of{o':Option AV}{M M':Heap→Prop}(W:lE w frs os h β σ fp o M N Q)(e:some o'=some o)(k:∀h',ar w (λa=>a∈fp) frs h h' β β σ σ→M' h'→M h'):lE w frs os h β σ fp o' M' N Q:=by
 cases e
 exact⟨W.1,λv z h' u tk st r y=>W.2 v z h' u tk st r (k h' st y)⟩
theorem BZ{t:ME}(S:Sit w K A frs h β σ)(F:Fp h β σ.n frs fp)(x:nh h β σ.n it k I fp)(ok:gV it t=true)(e:du it k σ=some o)(W:lE w frs os h β σ fp o (λh'=>nh h' β σ.n it (k+1) I fp) N Q) :
  wpAny (model ad w) A (pyNext (.ref I)) (lA w A (aA t) I N Q E) E ⟨h,g,d,tk,os⟩:=by
 cases it with
 |seq y=>
  obtain⟨rfl,x⟩:=x
  exact aa e λl q e=>BU S (F.sep _ (.head _)) x q (W.of e λ_ _ y=>⟨rfl,y⟩)
 |range m=>
  obtain⟨rfl,x⟩:=x
  exact yp S (F.sep _ (.head _)) x (W.of e λ_ _ y=>⟨rfl,y⟩)
 |enum y=>
  obtain⟨i,rfl,he,x⟩:=x
  exact aa e λl q e=>ay e λq2 e=>CC S (F.sep _ (.tail _ (.head _))) he x q q2 λh' st=>W.1 (sI e).symm h' _ (st.weaken λa z=> .tail _ z)
 |zip u y p=>
  obtain⟨TI,i1,i2,rfl,hp,hz,ht,h1,h2,hne,hTI⟩:=x
  cases t with
  |tup ts tp=>exact ay e λq0 e=>aa e λl q e=>aa e λm q2 e=>Ch S F hz ht h1 h2 hne hTI (zH q0) q q2 (W.of e λ_ st y=>⟨TI,i1,i2,rfl,hp,y.1,st.tups _ _ _ hTI ht,y.2.1,y.2.2,hne,hTI⟩)
  |_=>exact aV ok
 |keys j=>
  obtain⟨rfl,x⟩:=x
  exact aa e λl q e=>ay e λq2 e=>Au S (F.sep _ (.head _)) x q q2 (W.of e λ_ _ y=>⟨rfl,x.1,y⟩)
end
section
open AutoSeq1 (wpAny_loadPart')
noncomputable abbrev np(t:Addr):Obj:={ cls:= .type "tuple_iterator",data:= .fields #[.ref t, .int 0 0] }
theorem oU(l:Addr)(items:Array Value)(n:Nat) :
  Meets (Builtin.«enumerate.__new__» ⟨[.type "enumerate", .ref l],[]⟩) (λ_ R s=>s.heap.get? l=some { cls:= .type "tuple",dict:=none,data:= .seq items n,slots:=#[] }∧
   R (.ok (.ret (.ref (s.heap.push (np l)).objs.size)))
    { s with heap:=(s.heap.push (np l)).push { cls:= .type "enumerate",data:= .fields #[.none, .bool false, .ref s.heap.objs.size,rawInt 0, .none, .none] } }):=
 .of_wp λad w A R s h=>by
  obtain⟨hp,g,d,tk,os⟩:=s; obtain⟨hl,h⟩:=h
  have hsub:=sub_enumerate
  have hL:Heap.IsTuple (Shared.heap ⟨hp,g,d,tk,os⟩) l items:=⟨_,hl,rfl,n,rfl⟩
  wp_walk using wpAny_loadPart' hl
  refine wpAny_stack_any λst=>wpAny_pure ?_
  split
  ·rename_i c _ _ _ _ _
   cases (c == Value.type "enumerate")
   ·wp_walk using wpAny_loadPart' hl,wpAny_pyIter_tuple hL
    exact⟨_,rfl,h⟩
   ·wp_walk using wpAny_loadPart' hl,wpAny_pyIter_tuple hL
    exact⟨_,rfl,h⟩
  ·wp_walk using wpAny_loadPart' hl,wpAny_pyIter_tuple hL
   exact⟨_,rfl,h⟩
noncomputable abbrev CZ(h:Heap)(l1:Addr):Heap:=h.push (np l1)
noncomputable abbrev yu(h:Heap)(l1 l2:Addr):Heap:=(CZ h l1).push (np l2)
noncomputable abbrev DM(h:Heap)(l1 l2:Addr):Heap:=(yu h l1 l2).push { cls:= .type "tuple",data:= .seq #[.ref h.objs.size, .ref (CZ h l1).objs.size] }
noncomputable abbrev xo(h:Heap)(l1 l2:Addr):Heap:=(DM h l1 l2).push { cls:= .type "tuple",data:= .seq #[.none, .none] }
noncomputable abbrev Dt(h:Heap)(l1 l2:Addr):Heap:=(xo h l1 l2).push { cls:= .type "zip",data:= .fields #[.none, .bool false, .bool false, .ref (yu h l1 l2).objs.size, .ref (DM h l1 l2).objs.size] }
theorem pH(l1 l2:Addr)(xs ys:Array Value) :
  Meets (Builtin.«zip.__new__» ⟨[.type "zip", .ref l1, .ref l2],[]⟩) (λ_ R s=>s.heap.IsTuple l1 xs∧s.heap.IsTuple l2 ys∧
   R (.ok (.ret (.ref (xo s.heap l1 l2).objs.size))) { s with heap:=Dt s.heap l1 l2 }):=
 .of_wp λad w A R s h=>by
  obtain⟨hp,g,d,tk,os⟩:=s; obtain⟨hl1,hl2,h⟩:=h
  have hsub:=sub_zip
  have hL1:Heap.IsTuple (Shared.heap ⟨hp,g,d,tk,os⟩) l1 xs:=hl1
  have hL2:Heap.IsTuple (Shared.heap ⟨hp.push (np l1),g,d,tk,os⟩) l2 ys:=Heap.IsTuple.push hl2 _
  wp_walk using wpAny_pyIter_tuple hL1,wpAny_pyIter_tuple hL2
  exact⟨_,rfl,h⟩
section
variable {Q:Value→Shared→Prop}{h:Heap}
theorem qU{l1 l2:Addr}{xs ys:Array Value}(hl1:h.IsTuple l1 xs)(hl2:h.IsTuple l2 ys)
  (hq:∀h',IsZip h' (h.objs.size+4) (h.objs.size+2) (h.objs.size+3) .none→IsPair h' (h.objs.size+2) (.ref h.objs.size) (.ref (h.objs.size+1))→IsPair h' (h.objs.size+3) .none .none→h'.IsTupleIter h.objs.size l1 0→h'.IsTupleIter (h.objs.size+1) l2 0→h'.objs.size=h.objs.size+5→
   (∀c o,h.get? c=some o→h'.get? c=some o)→Q (.ref (h.objs.size+4)) ⟨h',g,d,tk,os⟩):wpAny (model ad w) A (call (.type "zip") [.ref l1, .ref l2]) Q E ⟨h,g,d,tk,os⟩:=by
 refine callType_new F.called_zip (by decide) (F.typeCall_zip_2 _ _) (F.newCall_zip_2 _ _) (λobj=>F.args_object_init_3 obj _ _) F.entry_zip_new (pH l1 l2 xs ys) ⟨hl1,hl2,?_⟩
 have z1:(CZ h l1).objs.size=h.objs.size+1:=Heap.size_push ..
 have z2:(yu h l1 l2).objs.size=h.objs.size+2:=(Heap.size_push ..).trans (cA0 (· + 1) z1)
 have z3:(DM h l1 l2).objs.size=h.objs.size+3:=(Heap.size_push ..).trans (cA0 (· + 1) z2)
 have z4:(xo h l1 l2).objs.size=h.objs.size+4:=(Heap.size_push ..).trans (cA0 (· + 1) z3)
 have up:∀{h:Heap}{p:Obj}{c o},h.get? c=some o→(h.push p).get? c=some o:=λe=>Heap.get?_push_of_some _ e
 have at':∀{h:Heap}{p:Obj}{n:Nat},h.objs.size=n→p.isFreed=false→(h.push p).get? n=some p:=λe q=>e▸Heap.get?_push_size _ q
 have g5:(Dt h l1 l2).get? (xo h l1 l2).objs.size=some _:=Heap.get?_push_size _ rfl
 have g3:(Dt h l1 l2).get? (yu h l1 l2).objs.size=some _:=up (up (Heap.get?_push_size _ rfl))
 show _∧_
 rw[z2,z3,z4] at g5
 rw[z1,z2] at g3
 rw[z4]
 exact⟨⟨_,g5,rfl⟩,hq _ g5 g3 (up (at' z3 rfl)) ⟨_,up (up (up (up (at' rfl rfl)))),rfl,rfl⟩ ⟨_,up (up (up (at' z1 rfl))),rfl,rfl⟩ ((Heap.size_push ..).trans (cA0 (· + 1) z4)) λc o x=>up (up (up (up (up x))))⟩
theorem xD{l:Addr}{items:Array Value}(hl:IsT h l items n)
  (hq:∀h',IsEnum h' (h.objs.size+1) h.objs.size 0 .none→h'.IsTupleIter h.objs.size l 0→h'.objs.size=h.objs.size+2→(∀b o,h.get? b=some o→h'.get? b=some o)→Q (.ref (h.objs.size+1)) ⟨h',g,d,tk,os⟩) :
  wpAny (model ad w) A (call (.type "enumerate") [.ref l]) Q E ⟨h,g,d,tk,os⟩:=by
 refine callType_new F.called_enumerate (by decide) (F.typeCall_enumerate_1 _) (F.newCall_enumerate_1 _) (λobj=>F.args_object_init_2 obj _) F.entry_enumerate_new (oU l items n) ⟨hl,?_⟩
 have hz:(h.push (np l)).objs.size=h.objs.size+1:=Heap.size_push ..
 have he:=Heap.get?_push_size (h.push (np l)) (o:={ cls:= .type "enumerate",data:= .fields #[.none, .bool false, .ref h.objs.size,rawInt 0, .none, .none] }) rfl
 show _∧_
 rw[hz] at he ⊢
 exact⟨⟨_,he,rfl⟩,hq _ he ⟨_,Heap.get?_push_of_some _ (Heap.get?_push_size _ rfl),rfl,rfl⟩ ((Heap.size_push ..).trans (cA0 (· + 1) hz)) λb o x=>Heap.get?_push_of_some _ (Heap.get?_push_of_some _ x)⟩
end
end
section
variable {ev:Ev}{h:Heap}{Q:Value→Shared→Prop}{r:aP}{outs:List (ax It×ac)}{i:It}{I:Addr}{fp:List Addr}{h0:Heap}{u v:AV}{uu vv:Value}{as:List ME}{pc:Pos}
theorem cP{x:AV}{j:Nat}(q:oV x=some j):x = .obj j:=by
 cases x with
 |obj i=>exact cA0 AV.obj (sI q)
 |_=>exact al q
theorem dR{α:Type}{l:List α}{p:α×α}(q:fB l=some p):l=[p.1,p.2]:=by
 cases l with
 |nil=>exact al q
 |cons a m=>cases m with
  |nil=>exact al q
  |cons b m=>cases m with
   |nil=>exact sI q▸rfl
   |cons=>exact al q
noncomputable abbrev lS(h0:Heap)(frs:List Env):co It Value:=λh β n i v=>∃I fp,v = .ref I∧nh h β n i 0 I fp∧Fp h β n frs fp∧∀D∈fp,h0.objs.size≤D
theorem su(S:Sit w K A frs h β σ){D:Addr}(hD:h.objs.size≤D):∀e∈frs,e.frame≠some D:=λe he q=>(S.frok e he).2.elim λL z=>z.elim λo z=>z.elim λes z=>z.elim λep z=>absurd (Heap.lt_size z.2.1) (Nat.not_lt.mpr (sI (z.1.symm.trans q)▸hD))
theorem AL(S:Sit w K A frs h β σ)(hfp:∀D∈fp,h.objs.size≤D∧D<h'.objs.size):Fp h' β σ.n frs fp:=
 ⟨λD hD=>lE0 S.big (hfp D hD).1,λD hD i hi=>Nat.ne_of_lt (lT0 (S.rel.lo i hi).2 (hfp D hD).1),λD hD=>su S (hfp D hD).1,λD hD=>(hfp D hD).2⟩
theorem mK{h:Heap}{o:Obj}:h.objs.size≤(h.push o).objs.size:=by rw[Heap.size_push]; exact Nat.le_succ _
theorem Ke{h:Heap}{o:Obj}:∀D∈[h.objs.size],h.objs.size≤D∧D<(h.push o).objs.size:=λD hD=>by
 cases List.mem_singleton.mp hD
 exact⟨Nat.le_refl _,by rw[Heap.size_push]; exact Nat.lt_succ_self _⟩
section
variable (S:Sit w K A frs h β σ)(h0h:h0.objs.size≤h.objs.size)
include S h0h
theorem Post.it(P:Post w os (λ_=>False) frs h β σ [(.ok i,σ)] (lS h0 frs) Q E)(hs:h.objs.size≤h'.objs.size)(k:∀a o,h.get? a=some o→h'.get? a=some o)(hfp:∀D∈fp,h.objs.size≤D∧D<h'.objs.size)(x:nh h' β σ.n i 0 I fp):Q (.ref I) ⟨h',g,d,tk,os⟩:=
 P.ok _ _ (.head _) _ β h' tk ⟨I,fp,rfl,x,AL S hfp,λD hD=>lE0 h0h (hfp D hD).1⟩ (ar.grow hs k S.rel S.tab)
theorem Post.it1{o:Obj}(P:Post w os (λ_=>False) frs h β σ [(.ok i,σ)] (lS h0 frs) Q E)(x:nh (h.push o) β σ.n i 0 h.objs.size [h.objs.size]):Q (.ref h.objs.size) ⟨h.push o,g,d,tk,os⟩:=Post.it S h0h P mK (λa o e=>Heap.get?_push_of_some _ e) Ke x
theorem xC(e:Jd v σ=some i)(r:ak h β σ.n v vv)(P:Post w os (λ_=>False) frs h β σ [(.ok i,σ)] (lS h0 frs) Q E):wpAny (model ad w) A (pyIter vv) Q E ⟨h,g,d,tk,os⟩:=
 be e (λe=>aa e λl q e=>by
  cases e
  exact be q (λq=>r.tE q λvs c ep ht hno hv=>wpAny_pyIter_tuple ⟨_,ht,rfl,_,rfl⟩ (Post.it1 S h0h P ⟨rfl, .inr ⟨l,c,vs,ep,ik q,⟨_,Heap.get?_push_size _ rfl,rfl,rfl⟩,Heap.get?_push_of_some _ ht,hno,hv.mono (λ_ _ _ _ e=>Heap.get?_push_of_some _ e) (λ_ _=>rfl) (Nat.le_refl _)⟩⟩))
   λq=>aa q λj qj ql=>r.oE qj λhj=>bA S.rel ql λvs ep hx hl=>wpAny_pyIter_list (IsL.isList hx) (Post.it1 S h0h P ⟨rfl, .inl ⟨j,cP qj,hj,_,Heap.get?_push_size _ rfl,rfl,rfl⟩⟩))
  λe=>aa e λj qj e=>aa e λl ql e=>ay e λq2 e=>r.oE qj λhj=>by
   cases e
   obtain⟨hd,hlo⟩:=c7 S.rel (bN ql)
   obtain⟨kvs,hD,hl⟩:=uH q2 hd
   obtain⟨ep,o,es,h1,h2,h3,h4,h5,h6⟩:=hD.dictAt
   refine wpAny_pyIter_dict (knd:=strKind ad w) (fq hlo) ⟨o,es,h1,h2,h3,h4,h5,h6⟩ (Post.it1 S h0h P ⟨rfl,hj,o,es,ep,Heap.get?_push_of_some _ h1,h3,⟨_,Heap.get?_push_size _ rfl,rfl,?_⟩⟩)
   rw[show kvs.length=es.size from h5.length.symm.trans Array.length_toList]
   rfl
theorem wL(P:Post w os (λ_=>False) frs h β σ [(.ok (.zip u v σ.n),σ.push .own)] (lS h0 frs) Q E)(z4:IsZip h' (h.objs.size+4) (h.objs.size+2) (h.objs.size+3) .none)(z2:IsPair h' (h.objs.size+2) (.ref h.objs.size) (.ref (h.objs.size+1)))(z3:IsPair h' (h.objs.size+3) .none .none)
  (hs:h'.objs.size=h.objs.size+5) (k:∀c o,h.get? c=some o→h'.get? c=some o) (s:∀st:ar w (λ_=>False) frs h h' β (ext β σ.n (h.objs.size+3)) σ (σ.push .own),bL h' (ext β σ.n (h.objs.size+3)) (σ.n+1) u 0 h.objs.size∧bL h' (ext β σ.n (h.objs.size+3)) (σ.n+1) v 0 (h.objs.size+1)) :
  wpAny (model ad w) A (pyIter (.ref (h.objs.size+4))) Q E ⟨h',g,d,tk,os⟩:=by
 have st:ar w (λ_=>False) frs h h' β (ext β σ.n (h.objs.size+3)) σ (σ.push .own):=ar.allocAt S.rel S.tab S.big k (Nat.le_add_right _ _) (by rw[hs]; exact Nat.le_add_right _ _) ⟨.none, .none,z3⟩
 have hb:∀{D},h.objs.size≤D→D≠h.objs.size+3→∀i,i<σ.n+1→ext β σ.n (h.objs.size+3) i≠D:=λhD hne i hi=>(Nat.lt_succ_iff_lt_or_eq.mp hi).elim (λq=>by rw[bX q]; exact Nat.ne_of_lt (lT0 (S.rel.lo i q).2 hD)) λq=>by rw[q,ci]; exact hne.symm
 have key:∀j,j≠3→j<5→h.objs.size≤h.objs.size+j∧h.objs.size+j≠h.objs.size+3∧h.objs.size+j<h'.objs.size:=λj h1 h2=>⟨Nat.le_add_right _ _,λe=>h1 (Nat.add_left_cancel e),by rw[hs]; exact Nat.add_lt_add_left h2 _⟩
 have hm:∀D∈[h.objs.size+4,h.objs.size,h.objs.size+1],h.objs.size≤D∧D≠h.objs.size+3∧D<h'.objs.size:=λD hD=>(List.mem_cons.mp hD).elim (λz=>z▸key 4 (by decide) (by decide)) λhD=>(List.mem_cons.mp hD).elim (λz=>z▸key 0 (by decide) (by decide)) λhD=>List.mem_singleton.mp hD▸key 1 (by decide) (by decide)
 exact wpAny_pyIter_zip z4 (P.ok _ _ (.head _) _ _ h' tk ⟨h.objs.size+4,[h.objs.size+4,h.objs.size,h.objs.size+1],rfl,⟨h.objs.size+2,h.objs.size,h.objs.size+1,rfl,Nat.lt_succ_self _,by rw[ci]; exact z4,z2,(s st).1,(s st).2,Nat.ne_of_lt (Nat.lt_succ_self _),hb (Nat.le_add_right _ _) (key 2 (by decide) (by decide)).2.1⟩,
  ⟨λD hD=>lE0 S.big (hm D hD).1,λD hD=>hb (hm D hD).1 (hm D hD).2.1,λD hD=>su S (hm D hD).1,λD hD=>(hm D hD).2.2⟩,λD hD=>lE0 h0h (hm D hD).1⟩ st)
theorem CY(ru:ak h β σ.n u uu)(rv:ak h β σ.n v vv)(e:(i4 u σ&&i4 v σ||i5 u&&i5 v)=true)(P:Post w os (λ_=>False) frs h β σ [(.ok (.zip u v σ.n),σ.push .own)] (lS h0 frs) Q E) :
  wpAny (model ad w) A (call (.type "zip") [uu,vv]) (λx s₁=>wpAny (model ad w) A (pyIter x) Q E s₁) E ⟨h,g,d,tk,os⟩:=
 have L:∀{v:AV}{l:List AV}{j:Nat}{h':Heap}{I:Addr},oV v=some j→j<σ.n→h'.IsListIter I (β j) 0→bL h' (ext β σ.n (h.objs.size+3)) (σ.n+1) v 0 I:=λq hj x=> .inl ⟨_,cP q,Nat.lt_succ_of_lt hj,by rw[bX hj]; exact x⟩
 have U:∀{v:AV}{l:List AV}{c:Addr}{vs:List Value}{ep:Nat}{h':Heap}{I:Addr},tV v=some l→h'.IsTupleIter I c 0→IsT h c vs.toArray ep→(∀i,i<σ.n→β i≠c)→ValsR h β σ.n l vs→ar w (λ_=>False) frs h h' β (ext β σ.n (h.objs.size+3)) σ (σ.push .own)→bL h' (ext β σ.n (h.objs.size+3)) (σ.n+1) v 0 I:=
  λq x ht hno hv st=> .inr ⟨_,_,_,_,ik q,x,st.tups _ _ _ hno ht,f7 st.agree st.notT ht hno,st.vals hv⟩
 (Bool.or_eq_true_iff.mp e).elim (λe=>aw e λe1 e2=>(Option.isSome_iff_exists.mp e1).elim λl1 e1=>(Option.isSome_iff_exists.mp e2).elim λl2 e2=>aa e1 λi1 a1 b1=>aa e2 λi2 a2 b2=>ru.oE a1 λh1=>rv.oE a2 λh2=>
   bA S.rel b1 λvs1 ep1 x1 y1=>bA S.rel b2 λvs2 ep2 x2 y2=>call_zip_2 (IsL.isList x1) (IsL.isList x2) λh' z4 z2 z3 t1 t2 hs k=>wL S h0h P z4 z2 z3 hs k λst=>⟨L (l:=l1) a1 h1 t1,L (l:=l2) a2 h2 t2⟩)
  λe=>aw e λe1 e2=>(Option.isSome_iff_exists.mp e1).elim λl1 e1=>(Option.isSome_iff_exists.mp e2).elim λl2 e2=>ru.tE e1 λvs1 c1 ep1 x1 n1 y1=>rv.tE e2 λvs2 c2 ep2 x2 n2 y2=>
   qU ⟨_,x1,rfl,_,rfl⟩ ⟨_,x2,rfl,_,rfl⟩ λh' z4 z2 z3 t1 t2 hs k=>wL S h0h P z4 z2 z3 hs k λst=>⟨U e1 t1 x1 n1 y1 st,U e2 t2 x2 n2 y2 st⟩
theorem AH(rv:ak h β σ.n v vv)(e:EV v σ=true)(P:Post w os (λ_=>False) frs h β σ [(.ok (.enum v),σ)] (lS h0 frs) Q E):wpAny (model ad w) A (call (.type "enumerate") [vv]) (λx s₁=>wpAny (model ad w) A (pyIter x) Q E s₁) E ⟨h,g,d,tk,os⟩:=by
 have hm:∀{h':Heap},h'.objs.size=h.objs.size+2→∀D∈[h.objs.size+1,h.objs.size],h.objs.size≤D∧D<h'.objs.size:=λhs D hD=>by
  rw[hs]
  exact(List.mem_cons.mp hD).elim (λz=>z▸⟨Nat.le_succ _,Nat.lt_succ_self _⟩) λhD=>List.mem_singleton.mp hD▸⟨Nat.le_refl _,Nat.lt_succ_of_lt (Nat.lt_succ_self _)⟩
 refine(Option.isSome_iff_exists.mp e).elim λl e=>aa e λl q e=>be q (λq=>rv.tE q λvs c ep x no y=>xD x λh' he hi hs k=>wpAny_pyIter_enum he (Post.it S h0h P (by rw[hs]; exact Nat.le_add_right _ _) k (hm hs) ⟨_,rfl,he, .inr ⟨l,c,vs,ep,ik q,hi,k _ _ x,no,y.mono (λ_ _ _ _ e=>k _ _ e) (λ_ _=>rfl) (Nat.le_refl _)⟩⟩))
  λq=>aa q λj a b=>rv.oE a λhj=>bA S.rel b λvs ep x y=>call_enumerate_list (IsL.isList x) λh' he hi hs k=>wpAny_pyIter_enum he (Post.it S h0h P (by rw[hs]; exact Nat.le_add_right _ _) k (hm hs) ⟨_,rfl,he, .inl ⟨j,cP a,hj,hi⟩⟩)
theorem yr{m:Nat}{t:Tok}(hm:bc m=true)(P:Post w os (λ_=>False) frs h β σ [(.ok (.range m),σ)] (lS h0 frs) Q E):wpAny (model ad w) A (call (.type "range") [.int (m:Int) t]) (λx s₁=>wpAny (model ad w) A (pyIter x) Q E s₁) E ⟨h,g,d,tk,os⟩:=by
 have hm:(m:Int)<2 ^ 62:=Int.ofNat_lt.mpr (Nat.lt_of_le_of_lt (lB0 hm) (by decide:4000<2 ^ 62))
 have hn:=Int.natCast_nonneg m
 refine call_range_1 (wpAny_pyIter_range (Heap.get?_push_size _ rfl) (small_one (by decide) (by decide) (Int.le_trans (by decide) hn) hm) (Post.it (fp:=[_]) S h0h P (lE0 mK mK) (λa o e=>Heap.get?_push_of_some _ (Heap.get?_push_of_some _ e)) (λD hD=>List.mem_singleton.mp hD▸⟨mK,Heap.lt_size (Heap.get?_push_size _ rfl)⟩) ⟨rfl,?_⟩))
 have e1:Builtin.Range.rangeSize 0 (m:Int) 1=(m:Int)-((0:Nat):Int):=by
  rw[rangeSize_one]
  split
  ·rfl
  ·next q=>exact Int.le_antisymm (Int.sub_nonneg_of_le hn) (Int.not_lt.mp q |> λz=>by rw[show((0:Nat):Int)=0 from rfl,Int.sub_zero]; exact z)
 rw[e1]
 exact Heap.get?_push_size _ rfl
end
theorem BF{x:Nat}{C:Prop}(e:dG tabs ev x k=true)(c:bw tabs ev x σ=some (.b k)→C):C:=
 (Option.isSome_iff_exists.mp e).elim λ_ e=>aa e λq q1 e=>ay e λq2 e=>aa e λv q3 e=>aa e λj q4 e=>ay e λq5 e=>c (by
  unfold bw
  rw[q1]
  cases q with
  |globalImplicit=>rw[←eB0 q5]; exact q3.trans (cA0 some (uz q4))
  |_=>exact aV q2)
theorem eG{x:ME}{f:Nat}(q:hZ x=some f):∃p,x = .name f p:=by
 cases x with
 |name y p=>exact⟨p,cA0 (ME.name · p) (sI q)⟩
 |_=>exact al q
theorem oK{x:ME}{q:ME×List ME}(e:rL x=some q):∃p,x = .call q.1 q.2 p:=by
 cases x with
 |call f as p=>exact⟨p,sI e▸rfl⟩
 |_=>exact al e
theorem xJ{x:ME}{Q:List Value→Shared→Prop}(hq:wpAny (model ad w) A (eval (aA x) env) (λv s=>Q [v] s) E s):wpAny (model ad w) A (spliced (backTo pc (starEach (unL [x]) env))) Q E s:=by
 rw[cU,eC]
 exact spliced_cons (wpAny_mono hq (λv s z=>spliced_nil z) λ_ _ z=>z)
theorem Lq{x y:ME}{Q:List Value→Shared→Prop}(hq:wpAny (model ad w) A (eval (aA x) env) (λv s=>wpAny (model ad w) A (eval (aA y) env) (λu s=>Q [v,u] s) E s) E s):wpAny (model ad w) A (spliced (backTo pc (starEach (unL [x,y]) env))) Q E s:=by
 rw[cU,eC]
 exact spliced_cons (wpAny_mono hq (λv s z=>xJ z) λ_ _ z=>z)
section
variable (T:aE K)(S:St w K A frs env h β σ ev)
include T S
theorem jS{f:Nat}{p:Pos}(hg:dG tabs ev f k=true)(hq:∀tk,wpAny (model ad w) A (spliced (backTo pc (starEach (unL as) env))) (λvs s'=>wpAny (model ad w) A (call (l6 k) vs) Q E s') E ⟨h,g,d,tk,os⟩):wpAny (model ad w) A (eval (aA (.call (.name f p) as pc)) env) Q E ⟨h,g,d,tk,os⟩:=
 wpAny_Call_Name_kw (BF (σ:=σ) hg λe=>er T S e λu tk ru=>by
  rw[show u=l6 k from ru.inv]
  exact callWith_of (P:=λh'=>lN w (l6 k) h') (by rw[fF]; rfl) (λ_ z=>z) (mZ (wpAny_mono (hq tk) (λvs s' hv=>⟨⟨.machine, .inr (.inl rfl),by rw[tw]; exact .now⟩,hv⟩) λ_ _ z=>z)))
variable (H:dF w K r n)(hA:bD A n)(hE:PassesOwn (model ad w) A env E)(P:Post w os (λ_=>False) frs h β σ outs (lS h frs) Q E)
include H hA hE P
theorem rp{q:ME×List ME}(e:vT tabs r ev q σ=some outs):wpAny (model ad w) A (eval (aA (.call q.1 q.2 pc)) env) (λx s₁=>wpAny (model ad w) A (pyIter x) Q E s₁) E ⟨h,g,d,tk,os⟩:=
 aa e λf qf e=>(eG qf).elim λp ef=>by
  rw[ef]
  refine be e (λe=>ay e λhg e=>aa e λx qx e=>jS T S hg λtk=>?_) λe=>be e (λe=>ay e λhg e=>aa e λx qx e=>jS T S hg λtk=>?_) λe=>ay e λhg e=>aa e λx qx e=>jS T S hg λtk=>?_
  ·rw[cB qx]
   exact xJ (H.eB hA T S hE P e λa σ1 o1 v1 β1 h1 tk1 e1 r1 s1 S1 P1=>aa e1 λm qm e1=>ay e1 λq e1=>r1.nE qm λt=>yr S1.toSit s1.size q (P1.eq e1))
  ·rw[cB qx]
   exact xJ (H.eB hA T S hE P e λa σ1 o1 v1 β1 h1 tk1 e1 r1 s1 S1 P1=>ay e1 λq e1=>AH S1.toSit s1.size r1 q (P1.eq e1))
  ·rw[dR qx]
   exact Lq (H.eB hA T S hE P e λa σ1 o1 v1 β1 h1 tk1 e1 r1 s1 S1 P1=>H.eB hA T S1 hE P1 e1 λb σ2 o2 v2 β2 h2 tk2 e2 r2 s2 S2 P2=>ay e2 λq e2=>CY S2.toSit (lE0 s1.size s2.size) (s2.val r1) r2 q (P2.eq e2))
theorem iX{it:ME}(e:b9 tabs r ev it σ=some outs):wpAny (model ad w) A (eval (aA it) env) (λx s₁=>wpAny (model ad w) A (pyIter x) Q E s₁) E ⟨h,g,d,tk,os⟩:=
 be e (λe=>aa e λq q1 e=>(oK q1).elim λpc z=>z▸rp T S H hA hE P e) λe=>H.eB hA T S hE P e λa σ1 o1 v1 β1 h1 tk1 e1 r1 s1 S1 P1=>aa e1 λi q e1=>xC S1.toSit s1.size q r1 (P1.eq e1)
end
end
section
variable {ev:Ev}{h B:Heap}{Y:Addr→Prop}{L I:Addr}{loc loc':ao}{r:aP}{it:It}{fp:List Addr}{o:Option AV}
theorem Sit.stepX(hK:jU K)(S:Sit w K A frs h β σ)(s:ar w X frs h h' β β' σ σ')(hX:∀a,X a→N0≤a)(hF:∀e∈frs,∀a,e.frame=some a→¬X a):Sit w K A frs h' β' σ' where
 hh:=S.hh
 fr:=S.fr
 frok:=λe he=>ta (S.frok e he) λa o q e1=>s.slots e he a o q e1 (hF e he a q)
 top:=kD hK S.top S.frok hX S.rel s
 tab:=s.tab
 rel:=s.rel
 sepF:=λe he a q=>(S.frok e he).2.elim λL z=>z.elim λo z=>z.elim λes z=>z.elim λep z=>ey (sI (z.1.symm.trans q)▸Heap.lt_size z.2.1) (S.sepF e he a q) s
 big:=lE0 S.big s.size
theorem dA.stepX(R:bB w h β σ)(l:dA h β σ.n L loc)(sepL:∀i,i<σ.n→β i≠L)(loL:N0≤L)(s:ar w X frs h h' β β' σ σ')(hX:¬X L):dA h' β' σ'.n L loc:=
 l.imp λm z=>⟨j3 z.1 λo e=>by
  by_cases hF:∃e0∈frs,e0.frame=some L
  ·exact hF.elim λe0 z=>s.slots e0 z.1 _ o z.2 e hX
  ·exact⟨o.slots,s.keep _ o e hX (λi hi q=>sepL i (R.lt hi) q.symm) (λe0 he q=>hF ⟨e0,he,q⟩) λt=>fh t loL⟩,λx av e=>(z.2 x av e).imp λv y=>⟨y.1,s.val y.2⟩⟩
theorem St.stepX(hK:jU K)(S:St w K A frs env h β σ ev)(s:ar w X frs h h' β β' σ σ')(hX:∀a,X a→N0≤a)(hF:∀e∈frs,∀a,e.frame=some a→¬X a)(hL:¬X env.locals):St w K A frs env h' β' σ' ev where
 toSit:=S.toSit.stepX hK s hX hF
 eok:=S.eok
 loc:=S.loc.stepX S.rel S.sepL S.loL s hL
 sepL:=ey S.loc.lt S.sepL s
 loL:=S.loL
 cel:=S.cel.mono s.agree s.n
 hd:=S.hd
theorem Fp.notF(F:Fp h β n frs fp):∀e∈frs,∀a,e.frame=some a→¬a∈fp:=λe he a q z=>F.fr a z e he q
noncomputable def j6(σ:ac)(it:It):Prop:=∀j,it = .keys j→hot (σ.get j)=false∧j<σ.n
theorem j6.of(R:bB w h β σ)(e:du it k σ=some o):j6 σ it:=λj hj=>by
 rw[hj] at e
 exact aa e λl q e=>have q:=mn q; ⟨by rw[q]; rfl,(R.obj j _ q).1⟩
theorem j6.step(c:j6 σ it)(s:ar w X frs h h' β β' σ σ'):j6 σ' it:=λj hj=>⟨Bool.eq_false_iff.mpr λq=>aV ((c j hj).1.symm.trans (s.nores j (c j hj).2 q)),lT0 (c j hj).2 s.n⟩
section
variable (w K A frs env)
structure Go(ev:Ev)(h:Heap)(β:Nat→Addr)(σ:ac)(it:It)(k:Nat)(I:Addr)(fp:List Addr):Prop where
 S:St w K A frs env h β σ ev
 x:nh h β σ.n it k I fp
 F:Fp h β σ.n frs fp
end
theorem Go.stepL(T:aE K)(G:Go w K A frs env ev h β σ it k I fp)(c:j6 σ it)(hLf:env.locals∉fp)(s:ar w (At env.locals) frs h h' β β' σ σ')(hl:dA h' β' σ'.n env.locals loc):Go w K A frs env { ev with loc:=loc } h' β' σ' it k I fp:=
 ⟨G.S.stepL T s hl,G.x.step G.S.toSit G.F s (λD hD z=>hLf (z▸hD)) G.S.sepL λj hj=>(c j hj).1,G.F.step s⟩
noncomputable abbrev XX(L:Addr)(fp:List Addr):Addr→Prop:=λa=>a=L∨a∈fp
section
variable (T:aE K)(H:dF w K r n)(hA:bD A n)(hE:PassesOwn (model ad w) A env E)(hLf:env.locals∉fp)
include T H hA hE hLf
theorem uP{γ δ:Type}{outs:List (ax γ×ac)}{R:co γ δ}{QP:δ→Shared→Prop}{t:ME}{f:Option AV→aj γ}{q:AV→ao→ac→aj γ}{N M:Shared→Prop}{E':Value→Shared→Prop}(hEE:∀x s,E x s→E' x s)(G:Go w K A frs env { ev with loc:=loc } h β σ it k I fp)(P:Post w os Y frs h β σ outs R QP E)(hY:∀a,XX env.locals fp a→Y a)
  (e:gd (gV it t) (ob (du it k σ) f)=some outs) (hf:∀v,f (some v)=Mine.bind (cR r ev 5 loc t v σ) (q v)) (hN:f none=some outs→∀h1 tk1,ar w (λa=>a∈fp) frs h h1 β β σ σ→St w K A frs env h1 β σ { ev with loc:=loc }→N ⟨h1,g,d,tk1,os⟩)
  (hV:∀v loc2 h2 β2 σ2 tk2 o2,q v loc2 σ2=some o2→ar w (XX env.locals fp) frs h h2 β β2 σ σ2→Go w K A frs env { ev with loc:=loc2 } h2 β2 σ2 it (k+1) I fp→j6 σ2 it→Post w os Y frs h2 β2 σ2 o2 R QP E→M ⟨h2,g,d,tk2,os⟩) :
  wpAny (model ad w) A (pyNext (.ref I)) (λr s₁=>match r with
   |none=>N s₁
   |some u=>wpAny (model ad w) A (letOwnedTupleGo (aA t) (.ref I) u) (λ_ s'=>wpAny (model ad w) A (assign (aA t) env u) (λ_ s2=>M s2) E' s') E' s₁) E' ⟨h,g,d,tk,os⟩:=
 ay e λq1 e=>aa e λo q2 e=>
  have c:=j6.of G.S.rel q2
  wpAny_mono (BZ (t:=t) (N:=N) (Q:=λu s'=>wpAny (model ad w) A (assign (aA t) env u) (λ_ s2=>M s2) E' s') G.S.toSit G.F G.x q1 q2 ⟨λz h1 tk1 s1=>hN (z▸e) h1 tk1 s1 (G.S.stepX T.low s1 G.F.lo G.F.notF hLf),λv z h1 u tk1 s1 ru x1=>
   (Post.bind (X:=At env.locals) (R1:=jg env.locals) (P.at (s1.weaken λa z=>hY a (.inr z)) λ_ z=>z) (show Mine.bind (cR r ev 5 loc t v σ) (q v)=some outs from hf v▸z▸e) (λa z=>hY a (.inl z))).elim λl y=>
    have G1:Go w K A frs env { ev with loc:=loc } h1 β σ it (k+1) I fp:=⟨G.S.stepX T.low s1 G.F.lo G.F.notF hLf,x1,G.F.step s1⟩
    wpAny_mono (kz (ev:=ev) T H hA hE 5 G1.S y.1 ru (y.2 _ λloc2 σ2 o2 e2 _ β2 h2 tk2 r2 s2 P2=>hV v loc2 h2 β2 σ2 tk2 o2 e2 ((s1.weaken λa z=> .inr z).trans (s2.weaken λa z=> .inl z)) (Go.stepL (ev:={ ev with loc:=loc }) T G1 c hLf s2 r2) (c.step s2) P2)) (λ_ _ z=>z) hEE⟩)
   (λo s1 z=>match o,z with |none,z=>z |some _,z=>z) λ_ _ z=>z
inductive LX(ev:Ev)(os:OsState)(r:aP)(t:ME)(b:List MS)(it:It)(I:Addr)(fp:List Addr)(Q:Flow→Shared→Prop)(E:Value→Shared→Prop)(m:Nat):Shared→Prop
 |mk {k loc h β σ tk outs} (G:Go w K A frs env { ev with loc:=loc } h β σ it k I fp) (e:forLoop r ev t b it m k loc σ=some outs) (P:Post w os (XX env.locals fp) frs h β σ outs (gG env.locals) Q E):LX ev os r t b it I fp Q E m ⟨h,g,d,tk,os⟩
theorem kT{t:ME}{b:List MS}{Q:Flow→Shared→Prop}{m:Nat}{outs:List (ax (Fl×ao)×ac)}(G:Go w K A frs env { ev with loc:=loc } h β σ it k I fp)(e:forLoop r ev t b it m k loc σ=some outs)(P:Post w os (XX env.locals fp) frs h β σ outs (gG env.locals) Q E) :
  codeAny (model ad w) A (.forLoop (aA t) (.ref I) (unSs b) [] env) (λr s'=>match r with | .ok f=>Q f s' | .error e=>cameBackBy (model ad w) A env E e s') ⟨h,g,d,tk,os⟩:=
 codeAny_forLoop_any (LX (w:=w) (K:=K) (A:=A) (frs:=frs) (env:=env) ev os r t b it I fp Q E) (λm s hI=>by
  cases hI with
  |@mk k loc h β σ tk outs G e P=>
   cases m with
   |zero=>exact al e
   |succ m=>
    exact uP (N:=λs=>wpAny (model ad w) A (execs [] env) (λf s=>Q f s) _ s) T H hA hE hLf hE G P (λ_ z=>z) e (λ_=>rfl) (λe h1 tk1 s1 S1=>wpAny_execs_nil ((P.eq e).ok _ _ (.head _) .next β h1 tk1 ⟨S1.loc,rfl⟩ (s1.weaken λa z=> .inr z)))
     λv loc2 h2 β2 σ2 tk2 o2 e2 s2 G2 c2 P2=>(P2.bind (X:=At env.locals) (R1:=gG env.locals) e2 λa z=> .inl z).elim λl z=>wpAny_passesOwn hE (H.s hA G2.S z.1 hE (z.2 _ λp σ3 o3 e3 f β3 h3 tk3 r3 s3 P3=>by
      obtain⟨fl,loc3⟩:=p
      cases fl with
      |next=>rw[show f=Flow.next from r3.2]; exact⟨m,Nat.lt_succ_self _,Go.stepL (ev:={ ev with loc:=loc2 }) T G2 c2 hLf s3 r3.1,e3,P3⟩
      |ret v3=>exact r3.2.elim λu z=>by rw[z.1]; exact(P3.eq e3).ok _ _ (.head _) _ β3 h3 tk3 ⟨r3.1,u,rfl,z.2⟩ (ar.refl s3.rel s3.tab)))) m ⟨G,e,P⟩
end
end
section
variable {ev:Ev}{h B:Heap}{Y:Addr→Prop}{j:Nat}{r:aP}
theorem aT.hideTo(hX:∀a,X a→Y a∨h.get? a=none)(s:aT w X frs h B h' β β' σ σ'):aT w Y frs h B h' β β' σ σ':=
 have key:∀a o,h.get? a=some o→¬Y a→¬X a:=λa o e y x=>(hX a x).elim y λz=>al (z.symm.trans e)
 { s with keep:=λa o e y=>s.keep a o e (key a o e y),slots:=λenv he a o q e y=>s.slots env he a o q e (key a o e y) }
theorem jl{D:Addr}(x:h.objs.size≤D):h.get? D=none:=Option.eq_none_iff_forall_ne_some.mpr λo q=>Nat.not_lt.mpr x (Heap.lt_size q)
theorem Post.into{α γ:Type}{R:co α γ}{Q:γ→Shared→Prop}{outs l:List (ax α×ac)}(P:Post w os Y frs h β σ outs R Q E)(s:ar w X frs h h' β β' σ σ')(hX:∀a,X a→Y a∨h.get? a=none)(hl:∀x∈l,x∈outs) :
  Post w os X frs h' β' σ' l R Q E where
 ok:=λa σ'' hm v β'' h'' tk hr s2=>P.ok a σ'' (hl _ hm) v β'' h'' tk hr (aT.hideTo hX (s.trans s2))
 exc:=λc σ'' hm e β'' h'' tk t=>P.exc c σ'' (hl _ hm) e β'' h'' tk (t.imp λB t=>t.imp λa0 t=>⟨aT.hideTo hX (s.trans t.1),t.2⟩)
theorem qD{α:Type}{m outs:List (ax α×ac)}(e:thaw j m=some outs):∀x σ',(x,σ')∈m→∃l,σ'.get j=some (.fro l)∧(x,σ'.set j (.dict l))∈outs:=by
 induction m generalizing outs with
 |nil=>exact λx σ' hm=>nomatch hm
 |cons p r ih=>
  exact aa e λl q e=>aa e λm q2 e=>λx σ' hm=>sI e▸(List.mem_cons.mp hm).elim (λz=>by cases z; exact⟨l,mn q, .head _⟩) λz=>(ih q2 x σ' z).imp λl' y=>⟨y.1, .tail _ y.2⟩
theorem bB.swap{o o':ai}(R:bB w h β σ)(q:σ.get j=some o)(ho:bz w h β σ.n o (β j)→bz w h β σ.n o' (β j)):bB w h β (σ.set j o') where
 obj:=λi x e=>by
  by_cases z:i=j
  ·rw[z] at e ⊢
   rw[ac.get_set_self] at e
   exact⟨(R.obj j _ q).1,sI e▸ho (R.obj j _ q).2⟩
  ·rw[ac.get_set_ne _ _ _ (Ne.symm z)] at e
   exact R.obj i x e
 lo:=R.lo
 live:=R.live
 inj:=R.inj
 fact:=R.fact
theorem aT.thaw{l0 l:List (AV×AV)}(q0:σ.get j=some (.dict l0))(q:σ'.get j=some (.fro l))(s:aT w X frs h B h' β β' (σ.set j (.fro l0)) σ'):aT w X frs h B h' β β' σ (σ'.set j (.dict l)) where
 size:=s.size
 keep:=λa o e x hi=>s.keep a o e x λi hh=>hi i (by
  by_cases z:i=j
  ·rw[z,ac.get_set_self] at hh; exact aV hh
  ·rwa [ac.get_set_ne _ _ _ (Ne.symm z)] at hh)
 slots:=s.slots
 tups:=s.tups
 tabs:=s.tabs
 n:=s.n
 agree:=s.agree
 fresh:=s.fresh
 nores:=λi hi hh=>by
  by_cases z:i=j
  ·rw[z,q0]; rfl
  ·rw[ac.get_set_ne _ _ _ (Ne.symm z)] at hh
   have:=s.nores i hi hh
   rwa [ac.get_set_ne _ _ _ (Ne.symm z)] at this
 rel:=s.rel.swap q λx=>x
 tab:=s.tab
 hi:=s.hi
theorem Post.thaw{α γ:Type}{R:co α γ}{Q:γ→Shared→Prop}{outs m:List (ax α×ac)}{l0:List (AV×AV)}(q0:σ.get j=some (.dict l0))(e:Mine.thaw j m=some outs)(P:Post w os X frs h β σ outs R Q E) :
  Post w os X frs h β (σ.set j (.fro l0)) m R Q E where
 ok:=λa σ' hm v β' h' tk hr s=>(qD e _ _ hm).elim λl z=>P.ok a _ z.2 v β' h' tk hr (s.thaw q0 z.1)
 exc:=λc σ' hm x β' h' tk t=>(qD e _ _ hm).elim λl z=>t.elim λB t=>t.elim λa0 t=>P.exc c _ z.2 x β' h' tk ⟨B,a0,t.1.thaw q0 z.1,t.2⟩
theorem x7(it:ME)(env:Env)(x:Value):foldedSetIterable (aA it) env x=pure x:=by
 cases it <;> rfl
section
variable (T:aE K)(H:dF w K r n)(hA:bD A n)(hE:PassesOwn (model ad w) A env E)
include T H hA hE
theorem M6{t it:ME}{b:List MS}{p:Pos}{outs:List (ax (Fl×ao)×ac)}{Q:Flow→Shared→Prop}(S:St w K A frs env h β σ ev)(e:ba tabs r ev (.for_ t it b p) σ=some outs)(P:Post w os (At env.locals) frs h β σ outs (gG env.locals) Q E) :
  wpAny (model ad w) A (exec (i8 (.for_ t it b p)) env) Q E ⟨h,g,d,tk,os⟩:=
 (P.bindS (X:=λ_=>False) (R1:=lS h frs) e λ_ z=>z.elim).elim λl z=>wpAny_For (iX T S H hA hE (z.2 _ λi σ1 o1 e1 v1 β1 h1 tk1 r1 s1 hl=>r1.elim λI y=>y.elim λfp y=>by
  rw[y.1]
  have S1:=S.step T.low s1
  have hLf:env.locals∉fp:=λz=>absurd S.loc.lt (Nat.not_lt.mpr (y.2.2.2 _ z))
  have P1:Post w os (XX env.locals fp) frs h1 β1 σ1 o1 (gG env.locals) Q E:=P.into (s1.weaken λ_ z=>z.elim) (λa z=>z.imp (λz=>z) λz=>jl (y.2.2.2 a z)) hl
  cases i with
  |keys j=>exact aa e1 λl q0 e1=>aa e1 λm em et=>kT (ev:=ev) (σ:=σ1.set j (.fro l)) T H hA hE hLf ⟨{ S1 with rel:=S1.rel.swap (bN q0) λx=>x },y.2.1,y.2.2.1⟩ em (P1.thaw (bN q0) et)
  |_=>exact kT (ev:=ev) T H hA hE hLf ⟨S1,y.2.1,y.2.2.1⟩ e1 P1) z.1) (x7 it env)
end
end
noncomputable abbrev iH(env:Env)(ifs:List Expr):Sem Bool:=forIn ifs true λc r=>if r=true then do let ok ←isTrue c env (eval c env); pure (ForInStep.yield ok) else pure (ForInStep.yield r)
noncomputable def mR(target iter:Expr)(it:Value)(env:Env)(T:Sem Bool)(Kt Kf:Sem Fin):Sem Fin:=do
 standAt iter.pos
 match ←pyNext it with
 |none=>pure (.done .next)
 |some v=>
  letOwnedTupleGo target it v
  assign target env v
  if ←T then Kt else Kf
noncomputable abbrev CO(elt:Expr)(acc:Value)(env:Env)(c:Code):Sem Fin:=do
 (do let _ ←call (.builtin "list.append") [acc,←eval elt env])
 again c
noncomputable abbrev tA(it2:Expr)(env:Env)(start:Value→Code)(c:Code):Sem Fin:=do
 let x ←eval it2 env
 standAt it2.pos
 let x ←foldedSetIterable it2 env x
 let _ ←runOwn (start (←holding [x] (pyIter x))) env
 again c
theorem DW(elt target iter:Expr)(ifs:List Expr)(scope:Scope)(pos:Pos)(it acc:Value)(env:Env) :
  compTurn (.ListComp elt [⟨target,iter,ifs,0⟩] scope pos) 0 it acc env=mR target iter it env (iH env ifs) (CO elt acc env (.compLoop (.ListComp elt [⟨target,iter,ifs,0⟩] scope pos) 0 it acc env)) (again (.compLoop (.ListComp elt [⟨target,iter,ifs,0⟩] scope pos) 0 it acc env)):=rfl
theorem DE(elt target iter:Expr)(g1:Comprehension)(ifs:List Expr)(scope:Scope)(pos:Pos)(it acc:Value)(env:Env) :
  compTurn (.ListComp elt [g1,⟨target,iter,ifs,0⟩] scope pos) 1 it acc env=mR target iter it env (iH env ifs) (CO elt acc env (.compLoop (.ListComp elt [g1,⟨target,iter,ifs,0⟩] scope pos) 1 it acc env)) (again (.compLoop (.ListComp elt [g1,⟨target,iter,ifs,0⟩] scope pos) 1 it acc env)):=rfl
theorem CP(elt target iter t2 it2:Expr)(ifs:List Expr)(scope:Scope)(pos:Pos)(it acc:Value)(env:Env) :
  compTurn (.ListComp elt [⟨target,iter,[],0⟩,⟨t2,it2,ifs,0⟩] scope pos) 0 it acc env=mR target iter it env (iH env []) (tA it2 env (λx=> .compStart (.ListComp elt [⟨target,iter,[],0⟩,⟨t2,it2,ifs,0⟩] scope pos) 1 x acc env) (.compLoop (.ListComp elt [⟨target,iter,[],0⟩,⟨t2,it2,ifs,0⟩] scope pos) 0 it acc env))
   (again (.compLoop (.ListComp elt [⟨target,iter,[],0⟩,⟨t2,it2,ifs,0⟩] scope pos) 0 it acc env)):=rfl
section
variable {R:Result→Shared→Prop}
noncomputable abbrev iJ:Value→Shared→Prop:=λ_ _=>False
theorem ku{α:Type}{m:Sem α}{Q Q':α→Shared→Prop}(h:wpAny (model ad w) A m Q iJ s)(k:∀a s',Q a s'→Q' a s'):wpAny (model ad w) A m Q' E s:=wpAny_mono h k λ_ _ z=>z.elim
theorem uc{el:Expr}{gens:List Comprehension}{scope:Scope}{pos:Pos}{target iter:Expr}{dp:Nat}{it acc:Value}{T:Sem Bool}{Kt:Sem Fin}(ht:compTurn (.ListComp el gens scope pos) dp it acc env=mR target iter it env T Kt (again (.compLoop (.ListComp el gens scope pos) dp it acc env)))(I:Nat→Shared→Prop)
  (BZ:∀n s,I n s→wpAny (model ad w) A (pyNext it) (λr s₁=>match r with
   |none=>R (.ok .next) s₁
   |some v=>wpAny (model ad w) A (letOwnedTupleGo target it v) (λ_ s'=>wpAny (model ad w) A (assign target env v) (λ_ s₂=>wpAny (model ad w) A T (λok s₃=>match ok with
     |true=>wpAny (model ad w) A Kt (λf s₄=>f = .again (.compLoop (.ListComp el gens scope pos) dp it acc env)∧∃m,m<n∧I m s₄) iJ s₃
     |false=>∃m,m<n∧I m s₃) iJ s₂) iJ s') iJ s₁) iJ s)
  (n:Nat) (h:I n s):codeAny (model ad w) A (.compLoop (.ListComp el gens scope pos) dp it acc env) R s:=by
 refine codeAny_loop rfl I (λn s hI=>?_) n h
 show wpAny _ A ((compTurn (.ListComp el gens scope pos) dp it acc env).onRaise (λx=>do noteFrame x env; theTreesLotGoes x)) _ _ s
 refine wpAny_noted ?_
 rw[ht]
 refine wpAny_bind (wpAny_standAt (wpAny_bind (ku (BZ n s hI) λr s₁ h₁=>?_)))
 cases r with
 |none=>exact wpAny_pure h₁
 |some v=>
  refine wpAny_bind (ku h₁ λ_ s' h'=>wpAny_bind (ku h' λ_ s₂ h₂=>wpAny_bind (ku h₂ λok s₃ h₃=>?_)))
  cases ok with
  |false=>exact wpAny_pure ⟨rfl,h₃⟩
  |true=>exact ku h₃ λf s₄ h₄=>h₄.1.symm▸⟨rfl,h₄.2⟩
theorem p6{elt target iter ifs g1 scope pos it acc env}
  (h0:codeAny (model ad w) A (.compLoop (.ListComp elt [g1,⟨target,iter,ifs,0⟩] scope pos) 1 it acc env) R s)
  (h:wpAny (model ad w) A (pyIter it) (λit' s'=>codeAny (model ad w) A (.compLoop (.ListComp elt [g1,⟨target,iter,ifs,0⟩] scope pos) 1 it' acc env) R s')
   (notedBy (model ad w) A env λx s'=>R (.error x) s') s) :
  codeAny (model ad w) A (.compStart (.ListComp elt [g1,⟨target,iter,ifs,0⟩] scope pos) 1 it acc env) R s:=by
 refine codeAny_of_tree ?_
 show wpAny _ _ ((compStart (.ListComp elt [g1,⟨target,iter,ifs,0⟩] scope pos) 1 it acc env).onRaise (λx=>do noteFrame x env; standAt theWindowsPlace)) _ _ s
 refine wpAny_notedAt ?_
 unfold compStart
 show wpAny _ _ (ask >>= _) _ _ s
 refine wpAny_bind (wpAny_askSetting (wpAny_ite ?_))
 split
 ·first
   |exact wpAny_bind (wpAny_pure (wpAny_pure (And.intro rfl h0)))
   |exact wpAny_pure (And.intro rfl h0)
 ·first
   |exact wpAny_bind (wpAny_rule (wpAny_bind (wpAny_standAt (wpAny_bind (wpAny_mono h (λit' s' h'=>wpAny_pure (And.intro rfl h')) λ_ _ x=>x)))))
   |(refine wpAny_bind (wpAny_rule ?_); show wpAny _ _ (standAt iter.pos >>= _) _ _ s; exact wpAny_bind (wpAny_standAt (wpAny_bind (wpAny_mono h (λit' s' h'=>wpAny_pure (And.intro rfl h')) λ_ _ x=>x))))
theorem tO{Q:Bool→Shared→Prop}(ifs:List Expr)(h:Q false s):wpAny (model ad w) A (forIn ifs false λc r=>if r=true then do let ok ←isTrue c env (eval c env); pure (ForInStep.yield ok) else pure (ForInStep.yield r)) Q E s:=by
 induction ifs with
 |nil=>exact wpAny_pure h
 |cons c cs ih=>
  rw[List.forIn_cons]
  exact wpAny_bind (wpAny_pure ih)
end
section
variable {ev:Ev}{h:Heap}{r:aP}{i:It}{I:Addr}{fp:List Addr}
theorem qM{Q:Value→Shared→Prop}(hp:ip i=true)(x:nh h β n i k I fp)(hq:Q (.ref I) ⟨h,g,d,tk,os⟩):wpAny (model ad w) A (pyIter (.ref I)) Q E ⟨h,g,d,tk,os⟩:=by
 cases i with
 |seq v=>exact x.2.elim (λy=>y.elim λi y=>wpAny_pyIter_listiter y.2.2 hq) λy=>y.elim λl y=>y.elim λa y=>y.elim λvs y=>y.elim λep y=>wpAny_pyIter_tupleiter y.2.1 hq
 |range m=>exact wpAny_pyIter_rangeiter x.2 hq
 |_=>exact aV hp
theorem vJ(T:aE K)(H:dF w K r n)(hA:bD A n)(hE:PassesOwn (model ad w) A env E){cs:List ME}{outs:List (ax Bool×ac)}{Q:Bool→Shared→Prop}(S:St w K A frs env h β σ ev)(e:j0 r ev cs σ=some outs)(P:Post w os (λ_=>False) frs h β σ outs jZ Q E) :
  wpAny (model ad w) A (iH env (unL cs)) Q E ⟨h,g,d,tk,os⟩:=by
 induction cs generalizing h β σ tk outs with
 |nil=>exact wpAny_pure (P.sameE e S.toSit rfl)
 |cons c cs ih=>
  rw[cU]
  unfold iH
  rw[List.forIn_cons]
  exact wpAny_bind (wpAny_bind (H.tB hA T S hE P e λp σ1 o1 β1 h1 tk1 e1 s1 S1 P1=>wpAny_pure (match p,e1 with
   |true,e1=>ih S1 e1 P1
   |false,e1=>tO _ (P1.sameE e1 S1.toSit rfl))))
end
theorem DT{α γ:Type}(a:α)(σ:ac)(f:α→ac→aj γ):Mine.bind (af a σ) f=f a σ:=by
 show bindL f [(.ok a,σ)]=_
 rw[kw]
 cases f a σ <;> rfl
section
variable {ev:Ev}{h:Heap}{dp:Nat}{I D:Addr}{loc:ao}{r:aP}{i:It}{fp:List Addr}{acc:List AV}{l:List (ax (List AV×ao)×ac)}
noncomputable def kg(h:Heap)(β:Nat→Addr)(n:Nat)(D:Addr)(l:List AV):Prop:=∃vs ep,IsL h D (List.toArray vs) ep∧ValsR h β n l vs
noncomputable abbrev ti(L D:Addr):co (List AV×ao) Flow:=λh β n p f=>f = .next∧dA h β n L p.2∧kg h β n D p.1
noncomputable abbrev LD(L D:Addr):Addr→Prop:=λa=>a=L∨a=D
noncomputable abbrev YY(L D:Addr)(fp:List Addr):Addr→Prop:=λa=>a=L∨a=D∨a∈fp
theorem kg.step{l:List AV}(S:Sit w K A frs h β σ)(x:kg h β σ.n D l)(F:Fp h β σ.n frs [D])(s:ar w X frs h h' β β' σ σ')(hX:¬X D):kg h' β' σ'.n D l:=
 x.imp λvs x=>x.imp λep x=>⟨s.keep D _ x.1 hX (λi hi q=>F.sep D (.head _) i (S.rel.lt hi) q.symm) (λe0 he q=>F.fr D (.head _) e0 he q) λt=>fh t (F.lo D (.head _)),s.vals x.2⟩
theorem Go.stepLD(T:aE K)(G:Go w K A frs env ev h β σ i k I fp)(c:j6 σ i)(GD:Fp h β σ.n frs [D])(hFL:∀e∈frs,e.frame≠some env.locals)(hLf:env.locals∉fp)(hDf:D∉fp)(s:ar w (LD env.locals D) frs h h' β β' σ σ')(hl:dA h' β' σ'.n env.locals loc):Go w K A frs env { ev with loc:=loc } h' β' σ' i k I fp:=
 ⟨{
   toSit:=G.S.toSit.stepX T.low s (λa z=>z.elim (λz=>z▸G.S.loL) λz=>z▸GD.lo _ (.head _)) λe he a q z=>z.elim (λz=>hFL e he (z▸q)) λz=>GD.fr _ (.head _) e he (z▸q)
   eok:=G.S.eok,loc:=hl,sepL:=ey G.S.loc.lt G.S.sepL s,loL:=G.S.loL,cel:=G.S.cel.mono s.agree s.n,hd:=G.S.hd },
  G.x.step G.S.toSit G.F s (λD' hD z=>z.elim (λz=>hLf (z▸hD)) λz=>hDf (z▸hD)) (λi hi z=>z.elim (G.S.sepL i hi) (GD.sep D (.head _) i hi)) (λj hj=>(c j hj).1),G.F.step s⟩
inductive DY(w:World)(K:Frag)(A:Around)(frs:List Env)(env:Env)(ev:Ev)(os:OsState)(r:aP)(t:ME)(ifs:List ME)(body:ao→List AV→ac→aj (List AV×ao))(i:It)(I D:Addr)(fp:List Addr)(Q:Flow→Shared→Prop)(m:Nat):Shared→Prop
 |mk {k loc acc h β σ tk outs} (G:Go w K A frs env { ev with loc:=loc } h β σ i k I fp) (y:kg h β σ.n D acc) (GD:Fp h β σ.n frs [D]) (e:compLoop r ev t ifs body i m k loc acc σ=some outs) (P:Post w os (YY env.locals D fp) frs h β σ outs (ti env.locals D) Q iJ):DY w K A frs env ev os r t ifs body i I D fp Q m ⟨h,g,d,tk,os⟩
noncomputable def pu(w:World)(K:Frag)(A:Around)(frs:List Env)(env:Env)(ev:Ev)(os:OsState)(D:Addr)(body:ao→List AV→ac→aj (List AV×ao))(Kt:Sem Fin)(c:Code):Prop:=∀{loc acc h β σ tk l}{Z:Shared→Prop},St w K A frs env h β σ { ev with loc:=loc }→kg h β σ.n D acc→Fp h β σ.n frs [D]→
 body loc acc σ=some l→Post w os (LD env.locals D) frs h β σ l (ti env.locals D) (λ_ s=>Z s) iJ→wpAny (model ad w) A Kt (λf s=>f = .again c∧Z s) iJ ⟨h,g,d,tk,os⟩
theorem AS{x:Expr}{start:Value→Code}{c:Code}{Z:Shared→Prop}(hs:∀u,foldedSetIterable x env u=pure u)(h:wpAny (model ad w) A (eval x env) (λx s₁=>wpAny (model ad w) A (pyIter x) (λi2 s₂=>codeAny (model ad w) A (start i2) (λr s=>match r with | .ok _=>Z s | .error _=>False) s₂) iJ s₁) iJ s) :
  wpAny (model ad w) A (tA x env start c) (λf s=>f = .again c∧Z s) iJ s:=
 wpAny_bind (ku h λu s1 z=>wpAny_bind (wpAny_standAt (wpAny_bind (wpAny_of_eq (hs u) (wpAny_bind (wpAny_holding (ku z λi2 s4 z=>wpAny_bind (wpAny_runOwn (codeAny_mono z λr s5 hr=>by
  cases r with
  |ok f=>exact wpAny_pure ⟨rfl,hr⟩
  |error=>exact hr.elim)))))))))
section
variable (T:aE K)(H:dF w K r n)(hA:bD A n)(hDL:D≠env.locals)
include T H hA hDL
theorem oX{t:ME}{el iter:Expr}{gens:List Comprehension}{ifs:List ME}{scope:Scope}{pos:Pos}{Q:Flow→Shared→Prop}{body:ao→List AV→ac→aj (List AV×ao)}{Kt:Sem Fin}(hFL:∀e∈frs,e.frame≠some env.locals)(hLf:env.locals∉fp)(hDf:D∉fp)
  (ht:compTurn (.ListComp el gens scope pos) dp (.ref I) (.ref D) env=mR (aA t) iter (.ref I) env (iH env (unL ifs)) Kt (again (.compLoop (.ListComp el gens scope pos) dp (.ref I) (.ref D) env)))
  (hK:pu w K A frs env ev os D body Kt (.compLoop (.ListComp el gens scope pos) dp (.ref I) (.ref D) env)) {m:Nat}
  (G:Go w K A frs env { ev with loc:=loc } h β σ i k I fp) (y:kg h β σ.n D acc) (GD:Fp h β σ.n frs [D]) (e:compLoop r ev t ifs body i m k loc acc σ=some l) (P:Post w os (YY env.locals D fp) frs h β σ l (ti env.locals D) Q iJ) :
  codeAny (model ad w) A (.compLoop (.ListComp el gens scope pos) dp (.ref I) (.ref D) env) (λr s'=>match r with | .ok f=>Q f s' | .error _=>False) ⟨h,g,d,tk,os⟩:=
 uc ht (DY w K A frs env ev os r t ifs body i I D fp Q) (λm s hI=>by
  cases hI with
  |@mk k loc acc h β σ tk outs G y GD e P=>
   cases m with
   |zero=>exact al e
   |succ m=>
    have hXD:¬XX env.locals fp D:=λz=>z.elim hDL hDf
    exact uP T H hA PassesOwn.never hLf (λ_ _ z=>z) G P (λa z=>z.imp id .inr) e (λ_=>rfl) (λe h1 tk1 s1 S1=>(P.eq e).ok _ _ (.head _) .next β h1 tk1 ⟨rfl,S1.loc,y.step G.S.toSit GD s1 hDf⟩ (s1.weaken λa z=> .inr (.inr z)))
     λv loc2 h2 β2 σ2 tk2 o2 e2 s2 G2 c2 P2=>(P2.bind (X:=λ_=>False) (R1:=jZ) e2 λ_ z=>z.elim).elim λl z=>vJ T H hA PassesOwn.never G2.S z.1 (z.2 _ λp σ3 o3 e3 f β3 h3 tk3 r3 s3 P3=>by
      have G3:Go w K A frs env { ev with loc:=loc2 } h3 β3 σ3 i (k+1) I fp:=⟨G2.S.step T.low s3,G2.x.step G2.S.toSit G2.F s3 (λ_ _ z=>z) (λ_ _ z=>z) λj hj=>(c2 j hj).1,G2.F.step s3⟩
      have D2:=GD.step s2
      have y3:=(y.step G.S.toSit GD s2 hXD).step G2.S.toSit D2 s3 id
      rw[show f=p from r3]
      cases p with
      |false=>exact⟨m,Nat.lt_succ_self _,G3,y3,D2.step s3,e3,P3⟩
      |true=>exact(P3.bind (X:=LD env.locals D) (R1:=ti env.locals D) e3 λa z=>z.imp id .inl).elim λl5 z5=>hK G3.S y3 (D2.step s3) z5.1 (z5.2 _ λp σ5 o5 e5 f β5 h5 tk5 r5 s5 P5=>
        ⟨m,Nat.lt_succ_self _,Go.stepLD (ev:={ ev with loc:=loc2 }) T G3 (c2.step s3) (D2.step s3) hFL hLf hDf s5 r5.2.1,r5.2.2,(D2.step s3).step s5,e5,P5⟩))) m ⟨G,y,GD,e,P⟩
theorem wX{elt:ME}{c:Code}:pu w K A frs env ev os D (jh r ev elt) (CO (aA elt) (.ref D) env c) c:=λ{loc acc h β σ tk l Z} S y GD e P=>
 wpAny_bind (wpAny_bind (H.eB hA T S PassesOwn.never P e λa σ1 o1 v1 β1 h1 tk1 e1 r1 s1 S1 P1=>ay e1 λq e1=>(y.step S.toSit GD s1 id).elim λvs x=>x.elim λep x=>wpAny_bind (append_at x.1 (λh7 hs7 ho7=>wpAny_pure (wpAny_pure ⟨rfl,by
  have G1:=GD.step s1
  have s7:ar w (At D) frs h1 h7 β1 β1 σ1 σ1:=ar.touch S1.rel S1.tab x.1 ⟨.inl (cx rfl), .inl nofun,nofun⟩ (G1.sep D (.head _)) hs7
  exact(P1.eq e1).ok _ _ (.head _) .next β1 h7 tk1 ⟨rfl,S1.loc.stepX S1.rel S1.sepL S1.loL s7 (λz=>hDL z.symm),vs++[v1],ep+1,ho7.trans (by rw[List.push_toArray]),s7.vals (x.2.append (.cons r1 .nil))⟩ (s7.weaken λa z=> .inr z)⟩)) (by rw[List.size_toArray,sizeLine_eq]; exact lE0 (eR q x.2) (by decide)))))
theorem CR{elt t t2 it2:ME}{iter:Expr}{ifs:List ME}{scope:Scope}{pos:Pos}{c:Code}(hFL:∀e∈frs,e.frame≠some env.locals) :
  pu w K A frs env ev os D (iD tabs r ev elt t2 it2 ifs) (tA (aA it2) env (λx=> .compStart (.ListComp (aA elt) [⟨aA t,iter,[],0⟩,⟨aA t2,aA it2,unL ifs,0⟩] scope pos) 1 x (.ref D) env) c) c:=λ{loc acc h β σ tk l Z} S y GD e P=>
 (P.bindS (X:=λ_=>False) (R1:=lS h frs) e λ_ z=>z.elim).elim λl z=>AS (x7 it2 env) (iX T S H hA PassesOwn.never (z.2 (λi2 s=>codeAny (model ad w) A (.compStart (.ListComp (aA elt) [⟨aA t,iter,[],0⟩,⟨aA t2,aA it2,unL ifs,0⟩] scope pos) 1 i2 (.ref D) env) (λr s=>match r with | .ok _=>Z s | .error _=>False) s)
  λi6 σ6 o6 e6 u6 β6 h6 tk6 r6 s6 hl6=>r6.elim λI2 x=>x.elim λfp2 x=>ay e6 λq e6=>by
   rw[x.1]
   have S6:=S.step T.low s6
   have P6:Post w os (YY env.locals D fp2) frs h6 β6 σ6 o6 (ti env.locals D) (λ_ s=>Z s) iJ:=P.into (s6.weaken λ_ z=>z.elim) (λa z=>z.elim (λz=> .inl (.inl z)) λz=>z.elim (λz=> .inl (.inr z)) λz=> .inr (jl (x.2.2.2 a z))) hl6
   have main:=oX (ev:=ev) T H hA hDL hFL (λz=>absurd S.loc.lt (Nat.not_lt.mpr (x.2.2.2 _ z))) (λz=>absurd (GD.lt D (.head _)) (Nat.not_lt.mpr (x.2.2.2 _ z))) (DE (aA elt) (aA t2) (aA it2) ⟨aA t,iter,[],0⟩ (unL ifs) scope pos (.ref I2) (.ref D) env) (wX T H hA hDL) ⟨S6,x.2.1,x.2.2.1⟩ (y.step S.toSit GD s6 id) (GD.step s6) e6 P6 (tk:=tk6)
   exact p6 main (qM q x.2.1 main)) z.1)
end
end
theorem tQ(env:Env)(x:Nat){sc:List (Nat×NameKind)}{k:NameKind}(e:look x sc=some k):eU k (((names sc).map λp=>if (p.2 == NameKind.free&&env.scope.kind == .function&&env.kindOf p.1 == some .cell) then(p.1,NameKind.cell) else(p.1,p.2)).lookup (ae x)):=by
 induction sc with
 |nil=>exact al e
 |cons y r ih=>
  obtain⟨y,k0⟩:=y
  rw[bH] at e
  show eU k (List.lookup (ae x) ((if (k0 == NameKind.free&&env.scope.kind == .function&&env.kindOf (ae y) == some .cell)=true then(ae y,NameKind.cell) else(ae y,k0))::_))
  have key:∀{c:Bool},(c=true→k0 = .free)→eU k (List.lookup (ae x) ((if c=true then(ae y,NameKind.cell) else(ae y,k0))::(names r).map λp=>if (p.2 == NameKind.free&&env.scope.kind == .function&&env.kindOf p.1 == some .cell) then(p.1,NameKind.cell) else(p.1,p.2))):=λ{c} hc=>by
   by_cases q:x=y
   ·rw[if_pos q] at e
    cases c with
    |false=>exact .inl ((bQ.trans (if_pos q)).trans e)
    |true=>exact .inr ⟨(sI e).symm.trans (hc rfl),bQ.trans (if_pos q)⟩
   ·rw[if_neg q] at e
    cases c <;> exact(bQ.trans (if_neg q)).symm▸ih e
  exact key λz=>by
   have z:=(Bool.and_eq_true_iff.mp (Bool.and_eq_true_iff.mp z).1).1
   cases k0 <;> first|rfl |exact aV z
theorem yg{sc0 sc:List (Nat×NameKind)}(e:Fo sc0 sc=true):∀x∈names sc,x.2 = .local→(names sc0).lookup x.1=some .local:=by
 induction sc with
 |nil=>exact λx hx=>nomatch hx
 |cons y r ih=>exact aw e λe1 e2 x hx hl=>(List.mem_cons.mp hx).elim (λz=>by
   rw[z] at hl ⊢
   rw[show y.2 = .local from hl] at e1
   exact(fm _ _).trans (i3 e1)) λz=>ih e2 x z hl
theorem zC{cel cl:List (Nat×Nat)}{sc:List (Nat×NameKind)}{x c:Nat}(e:cM cel sc=some cl)(q:look x cl=some c):look x cel=some c:=by
 induction sc generalizing cl with
 |nil=>cases e; exact al q
 |cons y r ih=>
  refine aa e λl q2 e=>?_
  cases z:pe y.2 with
  |false=>rw[z] at e; exact ih q2 (sI e▸q)
  |true=>
   rw[z] at e
   refine aa e λc0 q3 e=>?_
   rw[←sI e,bH] at q
   by_cases hx:x=y.1
   ·rw[if_pos hx] at q; rw[hx,q3,q]
   ·rw[if_neg hx] at q; exact ih q2 q
noncomputable def Mz(env:Env)(p:Str×NameKind)(cs:List (Str×Addr)):Sem (ForInStep (List (Str×Addr))):=if p.2 == .free then(do let a ←cellOf env p.1; pure (ForInStep.yield ((p.1,a)::cs))) else pure (ForInStep.yield cs)
theorem ze{cel cl:List (Nat×Nat)}(hc:dD β n cel env.cells){sc:List (Nat×NameKind)}{acc:List (Str×Addr)}(e:cM cel sc=some cl)(ha:∀x a,acc.lookup (ae x)=some a→env.cells.lookup (ae x)=some a) :
  ∃cs,forIn (names sc) acc (Mz env)=pure cs∧
   (∀x a,cs.lookup (ae x)=some a→env.cells.lookup (ae x)=some a)∧∀x,(acc.lookup (ae x)).isSome=true∨(look x cl).isSome=true→(cs.lookup (ae x)).isSome=true:=by
 induction sc generalizing acc cl with
 |nil=>cases e; exact⟨acc,rfl,ha,λx z=>z.elim id aV⟩
 |cons y r ih=>
  obtain⟨y,k⟩:=y
  refine aa e λl q e=>?_
  cases k with
  |free=>
   refine aa e λc0 q2 e=>?_
   cases e
   have h1:=(hc y c0 q2).1
   obtain⟨cs,e1,e2,e3⟩:=ih (acc:=(ae y,β c0)::acc) q λx a z=>by
    rw[bQ] at z
    by_cases hx:x=y
    ·rw[if_pos hx] at z; rw[hx,h1,z]
    ·rw[if_neg hx] at z; exact ha x a z
   refine⟨cs,?_,e2,λx z=>e3 x ?_⟩
   ·refine(List.forIn_cons _ (ae y,NameKind.free) (names r) acc).trans ?_
    show(cellOf env (ae y) >>= λa=>_) >>= _=_
    rw[show cellOf env (ae y)=pure (β c0) by unfold cellOf; rw[h1]]
    exact e1
   ·rw[bQ]
    rw[bH] at z
    by_cases hx:x=y
    ·rw[if_pos hx]; exact .inl rfl
    ·rw[if_neg hx] at z ⊢; exact z
  |_=>
   cases e
   exact(ih q ha).imp λcs z=>⟨(List.forIn_cons _ (ae y,_) (names r) acc).trans z.1,z.2⟩
theorem kA{cel cl:List (Nat×Nat)}{sc:List (Nat×NameKind)}{fast:List Nat}(hc:dD β n cel env.cells)(e:cM cel sc=some cl):∃cs,closureFor (bZ sc fast) env=pure cs∧dD β n cl cs:=
 (ze (acc:=[]) hc e λ_ _ e=>al e).imp λcs z=>⟨(cA0 (λm:Sem (List (Str×Addr))=>m >>= λr=>pure r) z.1).trans rfl,λx c q=>
  have y:=hc x c (zC e q)
  ⟨(Option.isSome_iff_exists.mp (z.2.2 x (.inr (q▸rfl)))).elim λa w=>w.trans ((z.2.1 x a w).symm.trans y.1),y.2⟩⟩
theorem zX{α:Type}{l:List (ax α×ac)}(e:EX l=true)(c:Nat)(σ:ac):(ax.exc c,σ)∉l:=by
 induction l with
 |nil=>exact λhm=>nomatch hm
 |cons p l ih=>exact aw e λe1 e2 hm=>(List.mem_cons.mp hm).elim (λz=>by rw[←z] at e1; exact aV e1) (ih e2)
theorem Aw{α:Type}{o:aj α}{l:List (ax α×ac)}(e:DC o=some l):o=some l∧∀c σ,(ax.exc c,σ)∉l:=
 aa e λm q e=>ay e λq2 e=>sI e▸⟨q,zX q2⟩
section
variable {ev:Ev}{h:Heap}{r:aP}{outs:List (ax AV×ac)}
noncomputable abbrev CF(h0:Heap):co AV (Addr×Addr):=λh β n v p=>ak h β n v (.ref p.1)∧(∃m,h.Ns p.2 m)∧h0.objs.size≤p.2∧∀i,i<n→β i≠p.2
theorem se{C:Addr}{m:Str→Option Value}(x:h.Ns C m):∃o,h.get? C=some o∧jc o:=
 x.imp λo x=>x.elim λes x=>x.elim λep x=>⟨x.1,⟨.inr λxs n z=>(nomatch x.2.1.symm.trans z), .inr λxs z=>(nomatch x.2.1.symm.trans z),λvs q t z=>(nomatch x.2.1.symm.trans z)⟩⟩
theorem xH{H2 h3:Heap}{m:Str→Option Value}{sc:List (Nat×NameKind)}{cl:List (Nat×Nat)}{cs:List (Str×Addr)}(T:aE K)(S:St w K A frs env h β σ ev)(hH2:H2=h.push { cls:= .type "list",data:= .seq ([]:List Value).toArray })(hns:h3.Ns H2.objs.size m)
  (hsb:Heap.SameBut H2.objs.size (H2.push { cls:= .type "dict",data:= .dict #[] }) h3) (hc:dD β σ.n cl cs) {cenv:Env} (e:cenv={ newEnv (bZ sc []) H2.objs.size env.globals cs env.qual none .none (some env) builtinsNs with scope:=relabel (bZ sc []) env }) :
  ar w (λ_=>False) frs h h3 β β σ σ∧St w K A frs cenv h3 β σ ⟨0,sc,[],cl⟩∧IsL h3 h.objs.size ([]:List Value).toArray 0∧Fp h3 β σ.n frs [h.objs.size]∧cenv.locals=H2.objs.size∧h.objs.size<H2.objs.size:=by
 have hC:H2.objs.size=h.objs.size+1:=by rw[hH2,Heap.size_push]
 have hlt:h.objs.size<H2.objs.size:=hC▸Nat.lt_succ_self _
 have hge:H2.objs.size≤h3.objs.size:=by rw[hsb.1,Heap.size_push]; exact Nat.le_succ _
 have k3:∀a o,h.get? a=some o→h3.get? a=some o:=λa o e=>hsb.extBut a o (Nat.ne_of_lt (Nat.lt_trans (Heap.lt_size e) hlt)) (Heap.get?_push_of_some _ (hH2▸Heap.get?_push_of_some _ e))
 have s3:ar w (λ_=>False) frs h h3 β β σ σ:=ar.grow (lE0 (Nat.le_of_lt hlt) hge) k3 S.rel S.tab
 have S3:=S.step T.low s3
 subst e
 exact⟨s3,{ toSit:=S3.toSit,eok:=⟨rfl,λx k e=>tQ env x e,S.eok.glob,S.eok.bi,λz=>absurd z (show ¬((0:Nat)=229∨(0:Nat)=139) by decide)⟩,loc:=⟨_,hns,λx av e=>al e⟩,sepL:=λi hi=>Nat.ne_of_lt (Nat.lt_trans (S.rel.lo i hi).2 hlt),loL:=lE0 S.big (Nat.le_of_lt hlt),cel:=hc,hd:=S.hd },
  hsb.extBut _ _ (Nat.ne_of_lt hlt) (Heap.get?_push_of_some _ (hH2▸Heap.get?_push_size _ rfl)),AL S.toSit λD hD=>by rw[List.mem_singleton.mp hD]; exact⟨Nat.le_refl _,lT0 hlt hge⟩,rfl,hlt⟩
section
variable (T:aE K)(H:dF w K r n)(hA:bD A n)(hE:PassesOwn (model ad w) A env E)
include T H hA hE
theorem rn{elt:Expr}{t it:ME}{ifs:List ME}{rest:List Comprehension}{sc:List (Nat×NameKind)}{p:Pos}{use:Option (Value→Sem Unit)}{Q:Value→Shared→Prop}{body:List (Nat×Nat)→ao→List AV→ac→aj (List AV×ao)}{Kt:Value→Env→Code→Sem Fin}(S:St w K A frs env h β σ ev)
  (e:sf ev sc (λcl=>rS tabs r ev it (λi σ=>compLoop r ⟨0,sc,[],cl⟩ t ifs (body cl) i cA 0 [] [] σ) σ)=some outs) (P:Post w os (λ_=>False) frs h β σ outs (CF h) (λq s=>compPost (model ad w) A E use Q (.ref q.1) q.2 (.ok .next) s) E)
  (ht:∀I D env,compTurn (.ListComp elt (⟨aA t,aA it,unL ifs,0⟩::rest) (bZ sc []) p) 0 I D env=mR (aA t) (aA it) I env (iH env (unL ifs)) (Kt D env (.compLoop (.ListComp elt (⟨aA t,aA it,unL ifs,0⟩::rest) (bZ sc []) p) 0 I D env)) (again (.compLoop (.ListComp elt (⟨aA t,aA it,unL ifs,0⟩::rest) (bZ sc []) p) 0 I D env)))
  (hK:∀{cl cenv D c},D≠cenv.locals→(∀e∈frs,e.frame≠some cenv.locals)→pu w K A frs cenv ⟨0,sc,[],cl⟩ os D (body cl) (Kt (.ref D) cenv c) c) :
  wpAny (model ad w) A (comprehension (.ListComp elt (⟨aA t,aA it,unL ifs,0⟩::rest) (bZ sc []) p) (bZ sc []) env (firstIterPos (⟨aA t,aA it,unL ifs,0⟩::rest) p) (newList []) false (eval (aA it) env) use) Q E ⟨h,g,d,tk,os⟩:=
 aa e λcl hcl e=>ay e λhok e=>aw hok λhk1 hk2=>(kA (fast:=[]) S.cel hcl).elim λcs z=>(P.bindS (X:=λ_=>False) (R1:=lS h frs) e λ_ z=>z).elim λl1 y=>wpAny_comprehension_free (cl:=cs) rfl (x7 it env) z.1 rfl (yg hk2)
  (iX T S H hA hE (y.2 _ λi σ1 o1 e1 v1 β1 h1 tk1 r1 s1 hl1=>r1.elim λI x=>x.elim λfp x=>ay e1 λhpl e1=>by
   rw[x.1]
   have S1:=S.step T.low s1
   obtain⟨lc,ec,eo,_⟩:=bind_some e1
   have ec:=Aw ec
   refine wpAny_newList (wpAny_newFunctionEnv (lF hk1) (λ_ hy=>nomatch hy) (λh3 hns hsb=>?_) rfl) (Nat.zero_le _)
   dsimp only at hns hsb ⊢
   obtain⟨s3,Sc,hD,GD,hl,hlt⟩:=xH (sc:=sc) T S1 rfl hns hsb (z.2.mono s1.agree s1.n) rfl
   have hFL:=su S1.toSit (Nat.le_of_lt hlt)
   have G:Go w K A frs _ ⟨0,sc,[],cl⟩ h3 β1 σ1 i 0 I fp:=⟨Sc,x.2.1.step S1.toSit x.2.2.1 s3 (λ_ _ z=>z) (λ_ _ z=>z) (λj hj=>by rw[hj] at hpl; exact aV hpl),x.2.2.1.step s3⟩
   have main:=codeAny_mono (R':=compPost (model ad w) A E use Q (.ref h1.objs.size) (h1.push { cls:= .type "list",data:= .seq ([]:List Value).toArray }).objs.size) (oX (ev:=⟨0,sc,[],cl⟩) (tk:=tk1) T H hA (Nat.ne_of_lt hlt) hFL (λz=>absurd (x.2.2.1.lt _ z) (Nat.not_lt.mpr (Nat.le_of_lt hlt))) (λz=>absurd (x.2.2.1.lt _ z) (Nat.lt_irrefl _))
    (ht _ _ _) (hK (Nat.ne_of_lt hlt) hFL) G ⟨[],0,hD, .nil⟩ GD ec.1
    (Q:=λ_ s'=>compPost (model ad w) A E use Q (.ref h1.objs.size) (h1.push { cls:= .type "list",data:= .seq ([]:List Value).toArray }).objs.size (.ok .next) s') ⟨λq σ4 hm f β4 h4 tk4 r4 s4=>(eo q σ4 hm).elim λl5 z5=>?_,λc σ4 hm=>absurd hm (ec.2 c σ4)⟩) λr s' hr=>by
     cases r with
     |ok f=>cases use <;> exact hr
     |error e=>exact hr.elim
   ·exact codeAny_compStart_list main (qM (tk:=tk1) hpl G.x main)
   ·cases z5.1
    obtain⟨_,hloc,vs,ep,hx,hv⟩:=r4
    have sAll:ar w (λ_=>False) frs h h4 β β4 σ σ4:=ar.hide (X:=YY (h1.push { cls:= .type "list",data:= .seq ([]:List Value).toArray }).objs.size h1.objs.size fp) (λa z=>jl (z.elim (λz=>z▸lE0 s1.size (Nat.le_of_lt hlt)) λz=>z.elim (λz=>z▸s1.size) (x.2.2.2 a))) (((s1.trans s3).weaken λ_ z=>z.elim).trans s4)
    have hsep:=(GD.step s4).sep h1.objs.size (.head _)
    have s5:ar w (λ_=>False) frs h h4 β (ext β4 σ4.n h1.objs.size) σ (σ4.push (.list q.1)):=ar.more sAll s1.size hsep (Heap.lt_size hx) S1.big (λi hi=>(s4.rel.lo i hi).1)
     ⟨vs,ep,hx,hv.mono (λ_ _ _ _ e=>e) (λi hi=>bX hi) (Nat.le_succ _) (e9 λxs ep' z=>cx (by decide) (cA0 Obj.cls (sI (hx.symm.trans z))))⟩ nofun
    refine P.ok _ _ (hl1 _ (z5.2 _ (.head _))) (h1.objs.size,_) _ h4 tk4 ⟨.new,hloc.imp λm z=>z.1,lE0 s1.size (Nat.le_of_lt hlt),λi hi=>(Nat.lt_succ_iff_lt_or_eq.mp hi).elim (λz=>by rw[bX z]; exact ey Sc.loc.lt Sc.sepL s4 i z) λz=>by rw[z,ci]; exact Nat.ne_of_lt hlt⟩ s5) y.1)
end
end
section
variable {sc:List (Nat×NameKind)}{ln:Nat}{ts vs:List ME}{ns:List Nat}
noncomputable def mU(env:Env)(line:Nat):Expr→Option Str:=fun
 | .Name id pos=>if env.kindOf id == some .local&&pos.line == line then some id else none
 |_=>none
theorem DK(a b:Nat):(a == b)=Nat.beq a b:=by
 by_cases q:a=b
 ·rw[q,beq_self_eq_true,Nat.beq_refl]
 ·rw[br q,beq_eq_false_iff_ne.mpr q]
theorem Ai{x:Nat}{k:NameKind}{r:Option NameKind}(e:look x sc=some k)(hn:eU k r):(r == some .local)=d9 sc x:=by
 unfold d9
 rw[e]
 exact hn.elim (λz=>by rw[z]; cases k <;> rfl) λz=>by rw[z.1,z.2]; rfl
theorem AX(hn:∀x k,look x sc=some k→eU k (env.kindOf (ae x))){t:ME}(hk:(Option.rec true (λx=>(look x sc).isSome) (hZ t):Bool)=true):mU env ln (aA t)=(rO sc ln t).map ae:=by
 cases t with
 |name x p=>
  obtain⟨k,q⟩:=Option.isSome_iff_exists.mp (show(look x sc).isSome=true from hk)
  show(if (env.kindOf (ae x) == some .local&&p.line == ln)=true then some (ae x) else none)=Option.map ae (gd (d9 sc x&&Nat.beq p.line ln) (some x))
  rw[Ai q (hn x k q),DK]
  cases d9 sc x&&Nat.beq p.line ln <;> rfl
 |_=>rfl
theorem zf(hn:∀x k,look x sc=some k→eU k (env.kindOf (ae x)))(hk:uW sc ts=true):(unL ts).filterMap (mU env ln)=(iT sc ln ts).map ae:=by
 induction ts with
 |nil=>rfl
 |cons t ts ih=>
  refine aw hk λe1 e2=>?_
  rw[cU,List.filterMap_cons,AX hn e1,ih e2]
  show _=List.map ae (Option.rec (iT sc ln ts) (λx=>x::iT sc ln ts) (rO sc ln t))
  cases rO sc ln t <;> rfl
theorem HX{x:Nat}{l:List Nat}(h:x∈l):jJ x l=true:=by
 induction l with
 |nil=>exact nomatch h
 |cons y l ih=>exact(List.mem_cons.mp h).elim (λz=>Bool.or_eq_true_iff.mpr (.inl (z▸Nat.beq_refl x))) λz=>Bool.or_eq_true_iff.mpr (.inr (ih z))
theorem xp(h:jp ns=true):(ns.map ae).eraseDups=ns.map ae:=by
 induction ns with
 |nil=>rfl
 |cons x ns ih=>
  refine aw h λh1 h2=>?_
  rw[List.map_cons,List.eraseDups_cons,List.filter_eq_self.mpr,ih h2]
  intro s hs
  obtain⟨y,hy,e⟩:=List.mem_map.mp hs
  rw[←e,lG,br λz=>by rw[HX (z▸hy)] at h1; exact aV h1]
  rfl
theorem sh(e:wY vs=true):(unL vs).all (foldedForSure 8)=false∧(unL vs).all (constantsAlone 8)=false:=by
 induction vs with
 |nil=>exact aV e
 |cons v vs ih=>
  rw[cU,List.all_cons,List.all_cons]
  refine(Bool.or_eq_true_iff.mp e).elim (λe=>?_) λe=>?_
  ·have h1:foldedForSure 8 (aA v)=false∧constantsAlone 8 (aA v)=false:=by
    cases v <;> first|exact aV e |exact⟨rfl,rfl⟩
   rw[h1.1,h1.2]; exact⟨rfl,rfl⟩
  ·rw[(ih e).1,(ih e).2]; exact⟨Bool.and_false _,Bool.and_false _⟩
theorem ml{x:ME}{l:List ME}(q:jf x=some l):∃p,x = .tup l p:=by
 cases x with
 |tup m p=>exact⟨p,cA0 (ME.tup · p) (sI q)⟩
 |_=>exact al q
theorem Df(e:vW vs=true):(unL vs).all (foldedForSure 8)=true:=by
 induction vs with
 |nil=>rfl
 |cons v vs ih=>
  refine aw e λe1 e2=>?_
  rw[cU,List.all_cons,ih e2,Bool.and_true]
  exact(Option.isSome_iff_exists.mp e1).elim λ_ e=>aa e λl q1 e=>aa e λp q2 e=>aa e λa q3 e=>aa e λb q4 e=>(ml q1).elim λ_ z1=>(lx q3).elim λ_ z3=>(lx q4).elim λ_ z4=>by
   rw[z1,dR q2,z3,z4]; rfl
theorem FP(vs:List ME):((unL vs).any λ| .Starred ..=>true |_=>false)=false:=by
 induction vs with
 |nil=>rfl
 |cons v vs ih=>
  rw[cU,List.any_cons,ih,Bool.or_false]
  cases v <;> rfl
noncomputable def I3(c1 c2 c3 c4 c5:Bool)(ns:List Str):Sem (Option (List Str)):=
 if c1=true then pure none else if c2=true then pure none else if c3=true then pure none else if c4=true then pure none else if c5=true then unsupported "assign.tuple-of-constant-expressions:order-of-the-stores" else pure (some ns)
theorem sq(ts vs:List Expr)(k k':Nat)(tp vp:Pos):swappedStores [.Tuple ts k tp] (.Tuple vs k' vp) env=I3 (!(ts.length == 2||ts.length == 3)||vs.length != ts.length||env.blockKind != .function) (vs.any λ| .Starred ..=>true |_=>false)
  ((ts.filterMap (mU env ((ts.head?.map (·.pos.line)).getD 0))).length != ts.length||(ts.filterMap (mU env ((ts.head?.map (·.pos.line)).getD 0))).eraseDups.length != (ts.filterMap (mU env ((ts.head?.map (·.pos.line)).getD 0))).length)
  (vs.all (foldedForSure 8)) (vs.all (constantsAlone 8)) (ts.filterMap (mU env ((ts.head?.map (·.pos.line)).getD 0))):=rfl
theorem Ie(e:NY ts=some ln):((unL ts).head?.map (·.pos.line)).getD 0=ln:=by
 cases ts with
 |nil=>exact al e
 |cons t ts=>cases t <;> first|exact al e |exact sI e
theorem nk{o:Option (List Nat)}{k':Nat}{tp vp:Pos}(hf:env.blockKind = .function)(hn:∀x k,look x sc=some k→eU k (env.kindOf (ae x)))(e:xf sc ts vs=some o):swappedStores [.Tuple (unL ts) k tp] (.Tuple (unL vs) k' vp) env=pure (o.map (·.map ae)):=
 aa e λln q1 e=>ay e λq2 e=>by
  rw[sq,Ie q1,zf hn q2,FP,mV,mV,hf,List.length_map]
  unfold Fu at e
  cases q3:Nat.beq (len (iT sc ln ts)) (len ts) with
  |false=>
   rw[q3] at e
   have:((iT sc ln ts).length != ts.length)=true:=bne_iff_ne.mpr λz=>by rw[aM,aM,z,Nat.beq_refl] at q3; exact aV q3.symm
   rw[this,←sI e]
   generalize (!(ts.length == 2||ts.length == 3)||vs.length != ts.length||_)=c
   cases c <;> rfl
  |true=>
   rw[q3] at e
   refine ay e λq4 e=>aw q4 λq5 q4=>aw q4 λq6 q7=>?_
   have h1:=eB0 q3
   have h2:=eB0 q7
   rw[aM,aM] at h1 h2
   rw[aM] at q6
   refine be e (λe=>ay e λq8 e=>?_) λe=>ay e λq8 e=>?_
   ·rw[←sI e,xp q5,(sh q8).1,(sh q8).2,List.length_map,h1,h2,DK,DK,q6,bne_self_eq_false]
    rfl
   ·rw[←sI e,Df q8]
    generalize (!(ts.length == 2||ts.length == 3)||vs.length != ts.length||_)=c
    generalize ((iT sc ln ts).length != ts.length||_)=c'
    cases c <;> cases c' <;> rfl
end
section
variable {ev:Ev}{h:Heap}{r:aP}{v t:ME}
noncomputable def oT(v:ME)(env:Env)(use:Option (Value→Sem Unit)):Sem Value:=match v with
 | .comp1 elt t it ifs sc p=>comprehension (.ListComp (aA elt) [⟨aA t,aA it,unL ifs,0⟩] (bZ sc []) p) (bZ sc []) env (firstIterPos [⟨aA t,aA it,unL ifs,0⟩] p) (newList []) false (eval (aA it) env) use
 | .comp2 elt t it t2 it2 ifs sc p=>comprehension (.ListComp (aA elt) [⟨aA t,aA it,[],0⟩,⟨aA t2,aA it2,unL ifs,0⟩] (bZ sc []) p) (bZ sc []) env (firstIterPos [⟨aA t,aA it,[],0⟩,⟨aA t2,aA it2,unL ifs,0⟩] p) (newList []) false (eval (aA it) env) use
 |_=>pure .none
@[elab_as_elim] theorem isComp_el {C:ME→Prop} {v:ME} (hv:dh v=true) (h1:∀elt t it ifs sc p,C (.comp1 elt t it ifs sc p)) (h2:∀elt t it t2 it2 ifs sc p,C (.comp2 elt t it t2 it2 ifs sc p)):C v:=by
 cases v <;> first|exact aV hv |exact h1 .. |exact h2 ..
theorem Ab(hv:dh v=true):eval (aA v) env=oT v env none:=isComp_el hv (λ_ _ _ _ _ _=>rfl) λ_ _ _ _ _ _ _ _=>rfl
theorem IE(hv:dh v=true)(u:Value→Sem Unit):evalThenUse (aA v) env u=(do let _ ←oT v env (some u)):=isComp_el hv (λ_ _ _ _ _ _=>rfl) λ_ _ _ _ _ _ _ _=>rfl
noncomputable def PP(t:Expr)(sc:Scope)(pv:Pos)(line:Nat)(env:Env):Sem Bool:=match (some t:Option Expr) with
 |none=>do
  if env.scope.kind == .class then unsupported "comprehension:value-dropped-in-a-class-body"
  if pv.line != line then unsupported "comprehension:value-dropped:on-another-line"
  return true
 |some (.Name t pos)=>return env.blockKind == .function&&env.kindOf t == some .local&&pos.line == pv.line&&!(sc.names.any λ(n,k)=>n == t&&(k == .local||k == .cell))
 |some _=>return false
theorem vc(t:ME)(sc:Scope)(pv:Pos)(line:Nat)(env:Env):∃b,PP (aA t) sc pv line env=pure b:=by
 cases t <;> exact⟨_,rfl⟩
theorem zB(t:ME)(hv:dh v=false)(line:Nat)(env:Env):swapsWithSole [aA t] (aA v) line env=pure false:=by
 cases v <;> first|rfl |exact aV hv.symm
theorem xS(t v:ME)(line:Nat)(env:Env):∃b,swapsWithSole [aA t] (aA v) line env=pure b∧(b=true→dh v=true):=by
 cases hv:dh v with
 |false=>exact⟨false,zB t hv line env,aV⟩
 |true=>exact isComp_el (C:=λv=>∃b,swapsWithSole [aA t] (aA v) line env=pure b∧(b=true→true=true)) hv (λ_ _ _ _ _ p=>(vc t _ p line env).imp λb z=>⟨z,λ_=>rfl⟩) λ_ _ _ _ _ _ _ p=>(vc t _ p line env).imp λb z=>⟨z,λ_=>rfl⟩
theorem kU(t:ME)(env:Env)(v:Value):assignAll v ((assignEach [aA t] env).map (·.2))=assign (aA t) env v:=by
 rw[jP]; rfl
theorem Bj{x:Expr}(h1:jf t=none)(h2:uv t=false):swappedStores [aA t] x env=pure none:=by
 cases t <;> first|rfl |exact al h1.symm |exact aV h2.symm
theorem Aj{ts:List Expr}{p:Pos}(h:jf v=none):swappedStores [.Tuple ts 0 p] (aA v) env=pure none:=by
 cases v <;> first|rfl |exact al h.symm
theorem qE{o:Option (List Nat)}{C:Prop}(e:iz ev.sc t v=some o)(h1:jf t=none→uv t=false→o=none→C)(h2:∀ts p,t = .tup ts p→jf v=none→o=none→C)(h3:∀ts p vs q,t = .tup ts p→v = .tup vs q→xf ev.sc ts vs=some o→C):C:=by
 unfold iz at e
 cases q1:jf t with
 |none=>rw[q1] at e; exact ay e λq e=>h1 q1 (Bool.not_eq_true' _ |>.mp q) (sI e).symm
 |some ts=>
  rw[q1] at e
  exact(ml q1).elim λp z=>by
   cases q2:jf v with
   |none=>rw[q2] at e; exact h2 ts p z q2 (sI e).symm
   |some vs=>rw[q2] at e; exact(ml q2).elim λq y=>h3 ts p vs q z y e
theorem uj(S:St w K A frs env h β σ ev):env.blockKind = .function:=by unfold Env.blockKind; rw[S.eok.kind]; rfl
theorem yH(S:St w K A frs env h β σ ev)(e:iz ev.sc t v=some none):swappedStores [aA t] (aA v) env=pure none:=
 qE e (λa b _=>Bj a b) (λts p z a _=>z▸Aj a) λts p vs q z y e=>z▸y▸nk (uj S) S.eok.names e
theorem wv{α:Type}(l b:List α):C6 l b=l.reverse++b:=by
 induction l generalizing b with
 |nil=>rfl
 |cons a l ih=>exact(ih (a::b)).trans (by rw[List.reverse_cons,List.append_assoc]; rfl)
theorem ValsR.rev{m:Nat}{l:List AV}{vs:List Value}(r:ValsR h β m l vs):ValsR h β m l.reverse vs.reverse:=by
 induction l generalizing vs with
 |nil=>exact r.nilE .nil
 |cons x l ih=>exact r.consE λu us hx hl=>by rw[List.reverse_cons,List.reverse_cons]; exact(ih hl).append (.cons hx .nil)
theorem Hi(hv:dh v=false):zz tabs r ev v σ=r.e ev v σ:=by
 cases v <;> first|rfl |exact aV hv.symm
section
variable (T:aE K)(H:dF w K r n)(hA:bD A n)(hE:PassesOwn (model ad w) A env E)(S:St w K A frs env h β σ ev)
include T H hA hE S
theorem sM{use:Option (Value→Sem Unit)}{outs:List (ax AV×ac)}{Q:Value→Shared→Prop}(hv:dh v=true)(e:zz tabs r ev v σ=some outs)
  (P:Post w os (λ_=>False) frs h β σ outs (CF h) (λq s=>compPost (model ad w) A E use Q (.ref q.1) q.2 (.ok .next) s) E):wpAny (model ad w) A (oT v env use) Q E ⟨h,g,d,tk,os⟩:=by
 revert e
 exact isComp_el hv (λelt t it ifs sc p e=>rn (body:=λcl=>jh r ⟨0,sc,[],cl⟩ elt) T H hA hE S e P (λ_ _ _=>DW ..) λhDL _=>wX T H hA hDL)
  λelt t it t2 it2 ifs sc p e=>rn (ifs:=[]) (body:=λcl=>iD tabs r ⟨0,sc,[],cl⟩ elt t2 it2 ifs) T H hA hE S e P (λ_ _ _=>CP ..) λhDL hFL=>CR T H hA hDL hFL
theorem me{outs:List (ax AV×ac)}{Q:Value→Shared→Prop}(e:zz tabs r ev v σ=some outs)(P:Post w os (λ_=>False) frs h β σ outs bO Q E):wpAny (model ad w) A (eval (aA v) env) Q E ⟨h,g,d,tk,os⟩:=by
 cases hv:dh v with
 |true=>
  rw[Ab hv]
  refine sM T H hA hE S hv e ⟨λa σ' hm q β' h1 tk1 hr s1=>hr.2.1.imp λm hn=>⟨hn,λh2 hs2=>(se hn).elim λo x=>?_⟩,P.exc⟩
  have st:ar w (At q.2) frs h1 h2 β' β' σ' σ':=ar.touch s1.rel s1.tab x.1 x.2 hr.2.2.2 hs2
  exact P.ok _ _ hm _ β' h2 tk1 (st.val hr.1) (ar.hide (X:=At q.2) (λa z=>jl (by rw[z]; exact hr.2.2.1)) ((s1.weaken λ_ z=>z.elim).trans st))
 |false=>exact H.e hA S (Hi hv▸e) hE P
variable {outs:List (ax (Fl×ao)×ac)}{Q:Flow→Shared→Prop}(P:Post w os (At env.locals) frs h β σ outs (gG env.locals) Q E)
include P
theorem CQ(hv:dh v=true)(e:CX tabs r ev t v σ=some outs):wpAny (model ad w) A (oT v env (some λv=>assign (aA t) env v)) (λ_ s'=>Q .next s') E ⟨h,g,d,tk,os⟩:=
 (P.bindS (X:=λ_=>False) (R1:=CF h) e λ_ z=>z.elim).elim λl z=>sM (Q:=λ_ s'=>Q .next s') T H hA hE S hv z.1 (z.2 _ λa σ1 o1 e1 pr β1 h1 tk1 r1 s1 hl1=>by
  obtain⟨C1,⟨m,hn⟩,hC,hsep⟩:=r1
  have S1:=S.step T.low s1
  have hCL:pr.2≠env.locals:=λz=>absurd S.loc.lt (Nat.not_lt.mpr (by rw[←z]; exact hC))
  have P1:Post w os (λa=>a=env.locals∨a=pr.2) frs h1 β1 σ1 o1 (gG env.locals) Q E:=P.into (s1.weaken λ_ z=>z.elim) (λa z=>z.imp id λz=>jl (by rw[z]; exact hC)) hl1
  have lc:dA h1 β1 σ1.n pr.2 []:=⟨m,hn,λx av e=>al e⟩
  exact(Post.bind (X:=At env.locals) (R1:=jg env.locals) P1 e1 λa z=> .inl z).elim λl2 y=>kz (ev:=ev) T H hA hE 5 S1 y.1 C1 (y.2 _ λloc2 σ2 o2 e2 _ β2 h2 tk2 r2 s2 P2=>(lc.stepX S1.rel hsep (lE0 S.big hC) s2 hCL).imp λm2 hn2=>⟨hn2.1,λh3 hs3=>(se hn2.1).elim λo x=>by
   have S2:=S1.stepL T s2 r2
   have s3:ar w (At pr.2) frs h2 h3 β2 β2 σ2 σ2:=ar.touch S2.rel S2.tab x.1 x.2 (ey lc.lt hsep s2) hs3
   exact(P2.eq e2).ok _ _ (.head _) .next β2 h3 tk2 ⟨r2.stepX S2.rel S2.sepL S2.loL s3 (λz=>hCL z.symm),rfl⟩ (s3.weaken λa z=> .inr z)⟩))
theorem K2{p:Pos}(e0:iz ev.sc t v=some none)(e:CX tabs r ev t v σ=some outs):wpAny (model ad w) A (exec (i8 (.asg t v p)) env) Q E ⟨h,g,d,tk,os⟩:=
 (xS t v p.line env).elim λb hb=>by
  show wpAny _ A (exec (.Assign [aA t] (aA v) p) env) Q E _
  cases b with
  |true=>
   have hv:=hb.2 rfl
   rw[exec_Assign,hb.1]
   refine wpAny_bind (wpAny_standAt (wpAny_bind (wpAny_pure ?_)))
   rw[if_pos rfl,IE hv,show(λv=>assignAll v (List.map (λx=>x.snd) (assignEach [aA t] env)))=λv=>assign (aA t) env v from funext (kU t env)]
   exact wpAny_bind (wpAny_bind (wpAny_mono (CQ T H hA hE S P hv e) (λ_ _ z=>wpAny_pure (wpAny_pure z)) λ_ _ z=>z))
  |false=>
   refine(P.bind (X:=λ_=>False) (R1:=bO) e λ_ z=>z.elim).elim λl z=>wpAny_Assign_stores (me T H hA hE S z.1 (z.2 _ λa σ1 o1 e1 u β1 h1 tk1 r1 s1 P1=>?_)) hb.1 (yH S e0)
   rw[kU]
   exact(Post.bind (X:=At env.locals) (R1:=jg env.locals) P1 e1 λa z=>z).elim λl2 y=>kz (ev:=ev) T H hA hE 5 (S.step T.low s1) y.1 r1 (y.2 _ λloc2 σ2 o2 e2 _ β2 h2 tk2 r2 s2 P2=>(P2.eq e2).ok _ _ (.head _) .next β2 h2 tk2 ⟨r2,rfl⟩ (ar.refl s2.rel s2.tab))
theorem Lw{p:Pos}{ns:List Nat}(e0:iz ev.sc t v=some (some ns))(e:IA r ev v ns σ=some outs):wpAny (model ad w) A (exec (i8 (.asg t v p)) env) Q E ⟨h,g,d,tk,os⟩:=by
 refine qE e0 (λ_ _ z=>al z.symm) (λ_ _ _ _ z=>al z.symm) λts tp vs vp z1 z2 e1=>?_
 rw[z1,z2]
 rw[z2] at e
 refine Assign_Tuple_swapped (names:=ns.map ae) (H.eB (x:= .tup vs vp) hA T S hE P e λa σ1 o1 u β1 h1 tk1 e2 r1 s1 S1 P1=>aa e2 λus q e2=>ay e2 λql e2=>?_) rfl (nk (uj S) S.eok.names e1)
 have hl:ns.length=us.length:=(aM ns).symm.trans ((eB0 ql).trans (aM us))
 refine lR S1.toSit (show cG σ1 a=some us by unfold cG; rw[q]; rfl) r1 (by rw[List.length_map]; exact hl) λh2 us2 s2 ru2=>?_
 rw[←List.map_reverse,List.map_map]
 refine(Post.bind (X:=At env.locals) (R1:=jg env.locals) P1 e2 λa z=>z).elim λl2 y=>oN (ev:=ev) (f:=k9 ev) T (λx loc h β σ tk a v outs Q S e rv P=>wpAny_bindName (jW (ev:={ ev with loc:=loc }) S S.loc e rv P)) (S1.step T.low s2)
  (show uN (k9 ev) ev.loc ns.reverse us.reverse σ1=some l2 by rw[←y.1,wv,wv,List.append_nil,List.append_nil]) ru2.rev
  (Post.at (y.2 _ λloc2 σ2 o2 e3 _ β2 h3 tk2 r2 s3 P2=>(P2.eq e3).ok _ _ (.head _) .next β2 h3 tk2 ⟨r2,rfl⟩ (ar.refl s3.rel s3.tab)) (s2.weaken λ_ z=>z.elim) λ_ z=>z)
theorem Fy{p:Pos}(e:ba tabs r ev (.asg t v p) σ=some outs):wpAny (model ad w) A (exec (i8 (.asg t v p)) env) Q E ⟨h,g,d,tk,os⟩:=
 aa e λo e0 e=>match o,e0,e with
  |none,e0,e=>K2 T H hA hE S P e0 e
  |some _,e0,e=>Lw T H hA hE S P e0 e
end
end
section
variable {ev:Ev}{h:Heap}{r:aP}
theorem ar.tabNew{q:Addr×Int×Int×Str}{c':Addr}(S:Sit w K A frs h β σ)(hq:q∈kq)(hP:h.get? q.1=some (tabObj #[]))(hx:Heap.ExtBut q.1 h h')(hs:h.objs.size≤h'.objs.size)(hrec:h'.CodeRec (.ref c') q.2.2.2)
  (ht:h'.get? q.1=some (tabObj #[rawInt q.2.1,rawInt q.2.2.1, .ref c'])):ar w X frs h h' β β σ σ:=by
 have hT:fu q.1:=rd hq
 have nb:∀i,i<σ.n→β i≠q.1:=λi hi z=>fh hT (z▸(S.rel.lo i hi).1)
 have kt:∀a xs n,(∀i,i<σ.n→β i≠a)→IsT h a xs n→IsT h' a xs n:=λa xs n _ e=>hx a _ (λz=>Data.noConfusion (cA0 Obj.data (sI (hP.symm.trans (z▸e:h.get? q.1=some _))))) e
 have kb:∀a ps,fu a→h.get? a=some (tabObj ps)→ps≠#[]→h'.get? a=some (tabObj ps):=λa ps _ e hne=>hx a _ (λz=>hne (Data.fields.inj (cA0 Obj.data (sI (hP.symm.trans (z▸e:h.get? q.1=_)))).symm)) e
 exact {
  size:=hs
  keep:=λa o e _ _ _ nt=>hx a o (λz=>nt (z▸hT)) e
  slots:=λenv he a o q' e _=>⟨o.slots,hx a o (λz=>(S.frok env he).2.elim λL y=>y.elim λ_ y=>y.elim λ_ y=>y.elim λ_ y=>fh hT (z▸sI (y.1.symm.trans q')▸y.2.2.2)) e⟩
  tups:=kt
  tabs:=kb
  n:=Nat.le_refl _
  agree:=λ_ _=>rfl
  fresh:=λi a b=>absurd b (Nat.not_lt.mpr a)
  nores:=λ_ _ e=>e
  rel:={
   obj:=λj x e=>⟨(S.rel.obj j x e).1,(S.rel.obj j x e).2.mono kt (λ_ _=>rfl) (Nat.le_refl _) kb λo y=>hx _ o (nb j (S.rel.obj j x e).1) y⟩
   lo:=λj hj=>⟨(S.rel.lo j hj).1,lT0 (S.rel.lo j hj).2 hs⟩
   live:=λj hj=>(S.rel.live j hj).imp λo e=>hx _ o (nb j hj) e
   inj:=S.rel.inj
   fact:=S.rel.fact }
  tab:=λp hp=>by
   by_cases z:p.1=q.1
   ·rw[(by decide +kernel:∀p∈kq,∀q∈kq,p.1=q.1→p=q) p hp q hq z]
    exact⟨_,ht, .inr ⟨c',rfl,hrec⟩⟩
   ·exact(S.tab p hp).imp λps y=>⟨hx _ _ z y.1,y.2.imp id λy=>y.imp λc y=>⟨y.1,y.2.imp λc2 y=>y.imp λoc y=>y.imp λvs y=>y.imp λt y=>⟨y.1,hx _ _ (λz=>by
     have e:=Data.fields.inj (y.2.2.1.symm.trans (cA0 Obj.data (sI (y.2.1.symm.trans (z▸hP:h.get? c2=_)))))
     exact nomatch (cA0 (·[1]?) e).symm.trans y.2.2.2) y.2.1,y.2.2⟩⟩⟩
  hi:=λj hj=>lT0 (S.rel.lo j hj).2 hs }
theorem eH{p:Pos}{a b c d:Nat}(e:ox p a b c d=true):p=⟨a,b,c,d⟩:=
 aw e λe1 e=>aw e λe2 e=>aw e λe3 e4=>eB0 e1▸eB0 e2▸eB0 e3▸eB0 e4▸rfl
theorem qJ(S:Sit w K A frs h β σ){q:Addr×Int×Int×Str}(hq:q∈kq){C:Prop}(k1:h.get? q.1=some (tabObj #[])→C)(k2:∀c',h.get? q.1=some (tabObj #[rawInt q.2.1,rawInt q.2.2.1, .ref c'])→C):C:=
 (S.tab q hq).elim λps z=>z.2.elim (λy=>k1 (y▸z.1)) λy=>y.elim λc' y=>k2 c' (y.1▸z.1)
section
variable (T:aE K)(S:St w K A frs env h β σ ev)
include T S
theorem NK{ps:List (Nat×Pos)}{body:ME}{sc:List (Nat×NameKind)}{p:Pos}{outs:List (ax AV×ac)}{Q:Value→Shared→Prop}(e:Eh ev ps body sc p σ=some outs)(P:Post w os (λ_=>False) frs h β σ outs bO Q E):wpAny (model ad w) A (eval (aA (.lam ps body sc p)) env) Q E ⟨h,g,d,tk,os⟩:=
 ay e λq e=>aw q λq1 q2=>aa e λcl q3 e=>by
  rw[eH q2]
  have q1:=eB0 q1
  obtain⟨cs,hcl,hcs⟩:=kA (fast:=[]) S.cel q3
  obtain⟨hcode,hqual⟩:=S.eok.code (.inl q1)
  rw[q1] at hcode hqual
  obtain⟨mg,hg,⟨C,hb⟩,_⟩:=T.code h S.top
  refine kla_eval (by rfl) ?_
  rw[show env.qual++("<lambda>" : Str)=Str.ofString "is_like.<locals>.<lambda>" by rw[hqual]; decide +kernel]
  have fin:∀{h1:Heap}{c':Addr}{pm ctv:Value}{tk1:Nat},ar w (λ_=>False) frs h h1 β β σ σ→h1.get? 227=some (tabObj #[rawInt 196,rawInt 37, .ref c'])→
    Q (.ref h1.objs.size) ⟨h1.push (kla_obj (Str.ofString "<lambda>") (Str.ofString "is_like.<locals>.<lambda>") (fA ps []) (aA body) (bZ sc []) cs pm c' ctv),g,d,tk1,os⟩:=λs1 ht=>(P.eq e).ok _ _ (.head _) _ _ _ _ .new (s1.trans
     (ar.alloc (o:= .lam ps body sc cl) s1.rel s1.tab (lE0 S.big s1.size) ⟨cs,_,_,_,Heap.get?_push_size _ rfl,Heap.get?_push_of_some _ ht,hcs.mono (λi hi=>bX hi) (Nat.le_succ _)⟩))
  exact qJ S.toSit (q:=(227,196,37,Str.ofString "is_like.<locals>.<lambda>")) (.tail _ (.head _)) (λe1=>kla_makeFunction hcl S.eok.glob hg hcode C e1 trivial rfl (by decide) hb λc' ctv h1 tk1 hx hge hlt hrec ht=>
    fin (ar.tabNew (q:=(227,196,37,Str.ofString "is_like.<locals>.<lambda>")) S.toSit (.tail _ (.head _)) e1 hx (Nat.le_of_lt (Nat.lt_of_le_of_lt hge hlt)) hrec ht) ht)
   λc' e1=>kla_makeFunctionHit hcl S.eok.glob hg hcode C e1 trivial (cv:= .ref c') rfl hb λctv h1 tk1 hk hsz=>fin (ar.grow hsz hk S.rel S.tab) (hk _ _ e1)
theorem Nv{x:Nat}{ps:List (Nat×Pos)}{body:List MS}{sc:List (Nat×NameKind)}{p:Pos}{outs:List (ax (Fl×ao)×ac)}{Q:Flow→Shared→Prop}(e:ba tabs r ev (.defn x ps body sc p) σ=some outs)(P:Post w os (At env.locals) frs h β σ outs (gG env.locals) Q E) :
  wpAny (model ad w) A (exec (i8 (.defn x ps body sc p)) env) Q E ⟨h,g,d,tk,os⟩:=
 ay (show gd (Nat.beq ev.fn 139&&(ox p 115 4 116 42&&Nat.beq x 72)) (ob (cM ev.cel sc) λcl=>Mine.bind (k9 ev ev.loc x (.obj σ.n) (σ.push (.fn x ps body sc cl))) λloc σ=>af (.next,loc) σ)=some outs from e) λq e=>aw q λq1 q=>aw q λq2 q4=>aa e λcl q3 e=>by
  rw[eH q2]
  have q1:=eB0 q1
  have q4:=eB0 q4
  subst q4
  obtain⟨cs,hcl,hcs⟩:=kA (fast:=[]) S.cel q3
  obtain⟨hcode,hqual⟩:=S.eok.code (.inr q1)
  rw[q1] at hcode hqual
  obtain⟨mg,hg,_,⟨C,hb⟩⟩:=T.code h S.top
  obtain⟨l1,q5,k5⟩:=Post.bind (X:=At env.locals) (R1:=jg env.locals) P e (λa z=>z)
  have hql:qualnameIn env (ae 72) (ae 72)=Str.ofString "fields_of.<locals>.put_in":=by
   unfold qualnameIn
   rw[show(env.kindOf (ae 72) == some .globalExplicit)=false from aa q5 λk q6 q5=>(S.eok.names 72 k q6).elim (λhk=>by rw[hk]; cases k <;> first|rfl |exact al q5) λhk=>by rw[hk.2]; rfl]
   show env.qual++ae 72=_
   rw[hqual]; decide +kernel
  refine nestDef_K rfl rfl ?_ ?_
  ·have key:∀l:List (Nat×Pos),annotationsOf (l.map λp=>({ arg:=ae p.1,annotation:=none,pos:=p.2 }:Arg)) env=[]:=λl=>by
    induction l with
    |nil=>rfl
    |cons a l ih=>exact ih
   show annotationsOf ((ps.map λp=>({ arg:=ae p.1,annotation:=none,pos:=p.2 }:Arg))++[]++[]++[]++[]) env++[]=[]
   rw[List.append_nil,List.append_nil,List.append_nil,List.append_nil,List.append_nil]
   exact key ps
  rw[hql]
  have fin:∀{h1:Heap}{ctv doc pm:Value}{c':Addr}{tk1:Nat},ar w (λ_=>False) frs h h1 β β σ σ→h1.get? 137=some (tabObj #[rawInt 115,rawInt 4, .ref c'])→
    wpAny (model ad w) A (storeName env (ae 72) (.ref h1.objs.size)) (λ_ s''=>Q .next s'') E ⟨h1.push { cls:= .type "function",data:= .func (fnX (ae 72) (Str.ofString "fields_of.<locals>.put_in") (fA ps []) (unSs body) (bZ sc []) cs .none .none doc pm none (.ref c') ctv) },g,d,tk1,os⟩:=λ{h1 ctv doc pm c' tk1} s1 ht=>by
   have s12:=s1.trans (ar.alloc (o:= .fn 72 ps body sc cl) (ob:={ cls:= .type "function",data:= .func (fnX (ae 72) (Str.ofString "fields_of.<locals>.put_in") (fA ps []) (unSs body) (bZ sc []) cs .none .none doc pm none (.ref c') ctv) }) s1.rel s1.tab (lE0 S.big s1.size) ⟨cs,_,_,_,_,Heap.get?_push_size _ rfl,Heap.get?_push_of_some _ ht,hcs.mono (λi hi=>bX hi) (Nat.le_succ _)⟩)
   have S2:=S.step T.low s12
   exact jW (ev:=ev) S2 S2.loc q5 .new (Post.at (k5 (λ_ s''=>Q .next s'') λloc2 σ2 o2 e2 _ β2 h2 tk2 r2 s2' P2=>(P2.eq e2).ok _ _ (.head _) .next β2 h2 tk2 ⟨r2,rfl⟩ (ar.refl s2'.rel s2'.tab)) (s12.weaken λ_ z=>z.elim) λ_ z=>z)
  exact qJ S.toSit (q:=(137,115,4,Str.ofString "fields_of.<locals>.put_in")) (.head _) (λe1=>makeFunction_K hcl S.eok.glob hg hcode C e1 trivial rfl (by decide) hb λc' ctv doc h1 tk1 hx hge hlt hrec ht=>
    fin (ar.tabNew (q:=(137,115,4,Str.ofString "fields_of.<locals>.put_in")) S.toSit (.head _) e1 hx (Nat.le_of_lt (Nat.lt_of_le_of_lt hge hlt)) hrec ht) ht)
   λc' e1=>makeFunction_hit hcl S.eok.glob hg hcode C e1 trivial (cv:= .ref c') rfl hb λctv doc h1 tk1 hk hsz=>fin (ar.grow hsz hk S.rel S.tab) (hk _ _ e1)
end
end
section
variable (w:World)(K:Frag)
noncomputable def DZ:Prop:=∀{A:Around}{frs:List Env}{h:Heap}{β:Nat→Addr}{σ:ac}{os:OsState}{tk:Nat}{E:Value→Shared→Prop}{u v:AV}{uu vv:Value}{outs:List (ax AV×ac)}{Q:Value→Shared→Prop},
 Sit w K A frs h β σ→A.units+20<cLine→Ez u v σ=some outs→ak h β σ.n u uu→ak h β σ.n v vv→Post w os (λ_=>False) frs h β σ outs bO Q E→
  wpAny (model ad w) A (call (.type "zip") [uu,vv]) (λx s₁=>wpAny (model ad w) A (call (.type "dict") [x]) Q E s₁) E ⟨h,g,d,tk,os⟩
noncomputable def xz(c:Nat)(v:Value)(s:Shared):Prop:=∃(e:Addr) (oe:Obj) (t:Addr) (nm q:Str) (N:Addr) (bs bm:List Value) (hdct:Bool) (sn:List Str) (sub:List Value) (ab:Bool) (col:Option Bool) (dd:Option Addr) (k0 k1 k2 k3 k5:Option Value) (newId:String),
 v = .ref e∧bm.contains (.type "BaseException")=true∧s.heap.get? (cS c)=some (excClassObj nm q (cS c) N bs bm hdct sn sub ab col dd k0 k1 k2 k3 k5 newId)∧
  s.heap.get? e=some oe∧oe.cls = .ref (cS c)∧oe.data = .fields #[.ref t, .none, .none, .none, .bool false, .none]
noncomputable def RZ:Prop:=∀{A:Around}{frs:List Env}{h:Heap}{β:Nat→Addr}{σ:ac}{os:OsState}{tk:Nat}{E:Value→Shared→Prop}{c:Nat}{vs:List AV}{us:List Value},
 bD A 1→(∃e0 r0,frs=e0::r0)→Sit w K A frs h β σ→(us.length=1∨us.length=2)→ValsR h β σ.n vs us→
  wpAny (model ad w) A (call (.ref (cS c)) us) (λv s₁=>xz c v s₁∧∃e h' tk,v = .ref e∧s₁=⟨h',g,d,tk,os⟩∧d3 w (λ_=>False) frs h h' β β σ σ c e) E ⟨h,g,d,tk,os⟩
end
section
variable {ev:Ev}{h:Heap}{r:aP}
section
variable (T:aE K)(H:dF w K r n)(hA:bD A n)(hE:PassesOwn (model ad w) A env E)(S:St w K A frs env h β σ ev)
include T H hA hE S
section
variable {outs:List (ax AV×ac)}{Q:Value→Shared→Prop}(P:Post w os (λ_=>False) frs h β σ outs bO Q E)
include P
theorem Jv(dz:DZ w K){f:ME}{as:List ME}{p:Pos}(e:wU tabs r ev f as σ=some outs):wpAny (model ad w) A (eval (aA (.call f as p)) env) Q E ⟨h,g,d,tk,os⟩:=
 be e (λe=>aa e λab hz e=>aa hz λx qx hz=>ay hz λq hz=>aw q λq1 q2=>aa hz λa qa hz=>aa hz λc qc hz=>aa hz λy qy hz=>ay hz λq3 hz=>(eG qx).elim λpx zx=>(oK qc).elim λpc zc=>(eG qy).elim λpy zy=>by
   rw[zx,cB qa,zc,zy,dR hz]
   exact jS T S q2 λtk1=>xJ (jS T S q3 λtk2=>Lq (H.eB hA T S hE P e λv1 σ1 o1 u1 β1 h1 tk1 e1 r1 s1 S1 P1=>H.eB hA T S1 hE P1 e1 λv2 σ2 o2 u2 β2 h2 tk2 e2 r2 s2 S2 P2=>dz S2.toSit hA.cline e2 (s2.val r1) r2 P2)))
  λe=>aa e λx qx e=>(eG qx).elim λpx zx=>by
   rw[zx] at e ⊢
   exact GA T H hA hE S e P
theorem Ja(dz:DZ w K){x:ME}(e:eV tabs r ev x σ=some outs):wpAny (model ad w) A (eval (aA x) env) Q E ⟨h,g,d,tk,os⟩:=by
 cases x with
 |none p=>exact wpAny_Constant_none (P.sameE e S.toSit .none)
 |bool b p=>exact wpAny_Constant_bool (P.sameE e S.toSit (.bool b))
 |int i p=>exact wpAny_Constant_int (P.sameE e S.toSit (.int i _))
 |str k p=>exact wpAny_Constant_str (P.sameE e S.toSit (.str k _))
 |name y p=>exact aa e λv q e=>er T S q λu tk ru=>P.sameE e S.toSit ru
 |bin op a b p=>exact MG T H hA hE S P e
 |cmp op a b p=>exact Nu T H hA hE S P e
 |not a p=>exact NG T H hA hE S P e
 |neg i q p=>exact wpAny_UnaryOp (wpAny_Constant_int (neg_int (P.sameE e S.toSit (.int _ _))))
 |bop op l p=>exact yM (p:=p) T H hA hE S e P
 |ifx t a b p=>exact Mg T H hA hE S P e
 |tup l p=>exact Mr T H hA hE S P e
 |lst l p=>exact Mv T H hA hE S P e
 |dct ks vs p=>exact MP T H hA hE S P e
 |att o x p=>exact M1 T H hA hE S P e
 |sub o i p=>exact Nw T H hA hE S P e
 |slU o u ps p=>exact aa e λx qx e=>(eG qx).elim λpx z=>by rw[z] at e ⊢; exact Nl T H hA hE S P e
 |slL o u ps p=>exact aa e λx qx e=>(eG qx).elim λpx z=>by rw[z] at e ⊢; exact Mq T H hA hE S P e
 |call f as p=>exact Jv T H hA hE S P dz e
 |meth o x as pa p=>exact JS T H hA hE S P e
 |comp1 elt t it ifs sc p=>exact me (v:= .comp1 elt t it ifs sc p) T H hA hE S e P
 |comp2 elt t it t2 it2 ifs sc p=>exact me (v:= .comp2 elt t it t2 it2 ifs sc p) T H hA hE S e P
 |lam ps body sc p=>exact NK T S e P
end
theorem Ma{x:ME}{outs:List (ax Bool×ac)}{Q:Bool→Shared→Prop}(P:Post w os (λ_=>False) frs h β σ outs jZ Q E)(e:stepT r ev x σ=some outs):wpAny (model ad w) A (isTrue (aA x) env (eval (aA x) env)) Q E ⟨h,g,d,tk,os⟩:=by
 have dflt:(Mine.bind (r.e ev x σ) λv σ=>ob (bV v) λp=>af p σ)=some outs→isTrue (aA x) env (eval (aA x) env)=(do let v ←eval (aA x) env; standAt (aA x).pos; holding [v] (truthy v))→wpAny (model ad w) A (isTrue (aA x) env (eval (aA x) env)) Q E ⟨h,g,d,tk,os⟩:=λe he=>
  wpAny_isTrue_value (H.eB hA T S hE P e λa σ1 o1 v1 β1 h1 tk1 e1 r1 s1 S1 P1=>aa e1 λc q e1=>r1.bE q (wpAny_truthy_bool (P1.sameE e1 S1.toSit rfl))) he
 cases x with
 |not a p=>exact wpAny_isTrue_Not (H.tB hA T S hE P e λc σ1 o1 β1 h1 tk1 e1 s1 S1 P1=>P1.sameE e1 S1.toSit rfl)
 |bop op l p=>exact wpAny_isTrue_BoolOp (yA T H hA hE S e P)
 |cmp op a b p=>exact Mj T H hA hE S P e
 |ifx=>exact al e
 |_=>exact dflt e rfl
variable {outs:List (ax (Fl×ao)×ac)}{Q:Flow→Shared→Prop}(P:Post w os (At env.locals) frs h β σ outs (gG env.locals) Q E)
include P
theorem Lj{x:ME}{p:Pos}(e:ba tabs r ev (.expr x p) σ=some outs):wpAny (model ad w) A (exec (i8 (.expr x p)) env) Q E ⟨h,g,d,tk,os⟩:=
 ay (show gd (!dh x) (Mine.bind (r.e ev x σ) λ_ σ=>af (.next,ev.loc) σ)=some outs from e) λhc e=>by
  refine wpAny_Expr_any (H.eB hA T S hE P e λa σ1 o1 v1 β1 h1 tk1 e1 r1 s1 S1 P1=>(P1.eq e1).ok _ _ (.head _) .next β1 h1 tk1 ⟨S1.loc,rfl⟩ (ar.refl s1.rel s1.tab)) ?_ ?_
  ·unfold interactive
   rw[S.eok.kind]; rfl
  ·cases x <;> first|rfl |exact aV hc
theorem MJ{x:ME}{p:Pos}(e:ba tabs r ev (.ret x p) σ=some outs):wpAny (model ad w) A (exec (i8 (.ret x p)) env) Q E ⟨h,g,d,tk,os⟩:=
 wpAny_Return_some (H.eB hA T S hE P e λa σ1 o1 v1 β1 h1 tk1 e1 r1 s1 S1 P1=>(P1.eq e1).ok _ _ (.head _) _ β1 h1 tk1 ⟨S1.loc,v1,rfl,r1⟩ (ar.refl s1.rel s1.tab))
theorem Nr{t:ME}{b o:List MS}{p:Pos}(e:ba tabs r ev (.ite t b o p) σ=some outs):wpAny (model ad w) A (exec (i8 (.ite t b o p)) env) Q E ⟨h,g,d,tk,os⟩:=
 wpAny_If (H.tB hA T S hE P e λc σ1 o1 β1 h1 tk1 e1 s1 S1 P1=>match c,e1 with
  |true,e1=>H.s hA S1 e1 hE P1
  |false,e1=>H.s hA S1 e1 hE P1)
end
end
section
variable {M:Model}{h:Heap}{t:Nat}
variable {nm q:Str}{C N:Addr}{bs bm:List Value}{hdct:Bool}{sn:List Str}{sub:List Value}{ab:Bool}{col:Option Bool}{dd:Option Addr}{k0 k1 k2 k3 k5:Option Value}{Bn newId jJ:String}{bmN:List Value}
theorem yD(Fn:ExcBaseFacts Bn newId jJ bmN)(hcB:bm.contains (.type Bn)=true){rest:List Value}{Q:Unit→Shared→Prop}(hC:h.get? C=some (excClassObj nm q C N bs bm hdct sn sub ab col dd k0 k1 k2 k3 k5 newId))
  (hq:Q () ⟨h,g,d,t,os⟩):wpAny M A (checkBuiltinCall newId ⟨.ref C::rest,[]⟩) Q E ⟨h,g,d,t,os⟩:=by
 have hcont:(Value.ref C::bm).contains (.type Bn)=true:=by rw[List.contains_cons,hcB,Bool.or_true]
 have hstar:=Fn.noStar
 simp only[checkBuiltinCall,Fn.newKind,Fn.newSplit,Fn.newRow]
 repeat (first|refine wpAny_loadPart_at hC ?_ |(refine wpAny_isSubtype_exc hC ?_; rw[hcont]) |refine wpAny_staticBase_exc hC ?_ |refine wpAny_madeBy_exc hC ?_ |simp only[bne_self_eq_false,Bool.false_eq_true,if_false] |wp_step)
 exact hq
end
section
variable {R:Result→Shared→Prop}{h:Heap}{t:Nat}
variable {nm q:Str}{C N:Addr}{bs bm:List Value}{hdct:Bool}{sn:List Str}{sub:List Value}{ab:Bool}{col:Option Bool}{dd:Option Addr}{k0 k1 k2 k3 k5:Option Value}{Bn newId jJ:String}{bmN:List Value}
theorem Cf(Fn:ExcBaseFacts Bn newId jJ bmN)(hcB:bm.contains (.type Bn)=true)(hcA:bm.contains (.type "AttributeError")=false)(hcN:bm.contains (.type "NameError")=false){rest:List Value}(hC:h.get? C=some (excClassObj nm q C N bs bm hdct sn sub ab col dd k0 k1 k2 k3 k5 newId))
  (hq:R (.ok (.ret (.ref (h.objs.size+1)))) ⟨(h.push { cls:= .type "tuple",data:= .seq rest.toArray }).push
   { cls:= .ref C,data:= .fields #[.ref h.objs.size, .none, .none, .none, .bool false, .none] },g,d,t,os⟩) (hrest:rest.length≤sizeLine:=by size_fits) :
  codeAny (model ad w) A (.builtin newId ⟨.ref C::rest,[]⟩) R ⟨h,g,d,t,os⟩:=by
 have hends:=Fn.ends
 have hcB:(Value.ref C::bm).contains (.type Bn)=true:=by rw[List.contains_cons,hcB,Bool.or_true]
 have hcA:(Value.ref C::bm).contains (.type "AttributeError")=false:=by rw[List.contains_cons,hcA]; rfl
 have hcN:(Value.ref C::bm).contains (.type "NameError")=false:=by rw[List.contains_cons,hcN]; rfl
 refine PySem.codeAny_builtinAt Fn.entry ?_
 unfold Builtin.«BaseException.__new__»
 refine PySem.wpAt_bind ?_
 show PySem.wpAt _ _ _ (stack >>= _) _ _ _
 refine PySem.wpAt_bind (PySem.wpAt_stack λp ah=>PySem.wpAt_of_wpAny ?_)
 wp_walk
 refine PySem.wpAt_of_wpAny ?_
 rw[Fn.owner]
 repeat (first|with_reducible refine wpAny_madeHere_exc Fn.canon hC ?_ |with_reducible refine wpAny_loadPart_at hC ?_ |(with_reducible refine wpAny_isSubtype_exc hC ?_; first|rw[hcB] |rw[hcA] |rw[hcN]) |wp_step)
 show R _ _
 rw[Heap.size_push]
 exact hq
theorem pg(Fn:ExcBaseFacts Bn newId jJ bmN){P fI:Addr}{oI:Obj}{c0:Value}{pd:Option Addr}{pcd:ClassData}{psl:Array (Option Value)}{mN mP:Str→Option Value}{rest tl:List Value}{Q:Fin→Shared→Prop}
  (hcB:(Value.ref P::tl).contains (.type Bn)=true) (hcA:(Value.ref P::tl).contains (.type "AttributeError")=false) (hcN:(Value.ref P::tl).contains (.type "NameError")=false)
  (hC:h.get? C=some (excClassObj nm q C N bs (.ref P::tl) hdct sn sub ab col dd k0 k1 k2 k3 k5 newId)) (hn:h.Ns N mN) (hni:mN "__init__" = none)
  (hP:h.get? P=some { cls:=c0,dict:=pd,data:= .cls pcd,slots:=psl }) (hPn:h.Ns pcd.ns mP) (hi:mP "__init__" = some (.ref fI))
  (hfI:h.get? fI=some oI) (hfc:oI.cls = .type "function")
  (hq:∀h' e,Heap.MadeExcOf h h' e (.ref C) rest→h.objs.size≤h'.objs.size→
   wpAny (model ad w) A (call (.ref fI) (.ref e::rest)) (λr s'=>r = .none∧Q (.done (.ret (.ref e))) s') E ⟨h',g,d,t,os⟩) (hrest:rest.length≤sizeLine:=by size_fits) :
  wpAny (model ad w) A (Builtin.«type.__call__» ⟨.ref C::rest,[]⟩) Q E ⟨h,g,d,t,os⟩:=by
 repeat (first|with_reducible refine wpAny_loadPart_at hC ?_ |with_reducible refine wpAny_madeBy_exc hC ?_ |wp_step)
 refine codeAny_call_builtin_code (Code.quiet_builtin _ Fn.quiet) (yD Fn hcB hC ?_)
 refine Cf Fn hcB hcA hcN hC ?_ hrest
 show wpAny _ _ _ _ _ _
 have k2:∀b o,h.get? b=some o→((h.push { cls:= .type "tuple",data:= .seq rest.toArray }).push { cls:= .ref C,data:= .fields #[.ref h.objs.size, .none, .none, .none, .bool false, .none] }).get? b=some o:=λb o e=>Heap.get?_push_of_some _ (Heap.get?_push_of_some _ e)
 have hC₁:=k2 _ _ hC
 have hfI₁:=k2 _ _ hfI
 have hP₁:=k2 _ _ hP
 have hn₁:((h.push { cls:= .type "tuple",data:= .seq rest.toArray }).push { cls:= .ref C,data:= .fields #[.ref h.objs.size, .none, .none, .none, .bool false, .none] }).Ns N mN:=hn.keeps k2
 have hPn₁:((h.push { cls:= .type "tuple",data:= .seq rest.toArray }).push { cls:= .ref C,data:= .fields #[.ref h.objs.size, .none, .none, .none, .bool false, .none] }).Ns pcd.ns mP:=hPn.keeps k2
 have hget:((h.push { cls:= .type "tuple",data:= .seq rest.toArray }).push
   { cls:= .ref C,data:= .fields #[.ref h.objs.size, .none, .none, .none, .bool false, .none] }).get? (h.objs.size+1)=some
   { cls:= .ref C,data:= .fields #[.ref h.objs.size, .none, .none, .none, .bool false, .none] }:=by heap_get
 have hcC:(Value.ref C::Value.ref P::tl).contains (.ref C)=true:=by simp
 unfold isInstance
 repeat (first|with_reducible refine wpAny_loadPart_at hget ?_ |(with_reducible refine wpAny_isSubtype_exc hC₁ ?_; rw[hcC]) |wp_step)
 show wpAny _ _ (typeLookup (.ref C) _) _ _ _
 rw[typeLookup_eq]
 refine wpAny_bind (wpAny_mroOf_exc hC₁ ?_)
 rw[lookupAlong_cons]
 refine wpAny_bind (wpAny_classOwn_exc hC₁ hn₁ ?_)
 rw[hni]
 dsimp only
 rw[lookupAlong_cons]
 refine wpAny_bind (wpAny_classOwn_cls hP₁ hPn₁ ?_)
 rw[hi]
 refine wpAny_pure ?_
 refine wpAny_holding (wpAny_bind ?_)
 unfold bindSpecial
 refine wpAny_bind (wpAny_typeOf (T:="function") ⟨_,hfI₁,hfc⟩ ?_)
 rw[if_pos (by decide)]
 refine wpAny_pure (wpAny_bind (wpAny_mono (hq _ (h.objs.size+1) ⟨k2,Heap.get?_none_of_le (Nat.le_succ _),h.objs.size,hget,Heap.get?_none_of_le (Nat.le_refl _),?_⟩ (by rw[Heap.size_push,Heap.size_push]; exact Nat.le_succ_of_le (Nat.le_succ _))) (λr s' hr=>?_) λ_ _ x=>x))
 ·exact Heap.get?_push_of_some _ (Heap.get?_push_at rfl rfl)
 ·obtain⟨rfl,hQ⟩:=hr
  wp_walk
  exact hQ
theorem ye(Fn:ExcBaseFacts Bn newId jJ bmN){P fI:Addr}{oI:Obj}{c0:Value}{pd:Option Addr}{pcd:ClassData}{psl:Array (Option Value)}{mN mP:Str→Option Value}{rest tl:List Value}{Q:Value→Shared→Prop}
  (hcB:(Value.ref P::tl).contains (.type Bn)=true) (hcA:(Value.ref P::tl).contains (.type "AttributeError")=false) (hcN:(Value.ref P::tl).contains (.type "NameError")=false)
  (hC:h.get? C=some (excClassObj nm q C N bs (.ref P::tl) hdct sn sub ab col dd k0 k1 k2 k3 k5 newId)) (hn:h.Ns N mN) (hni:mN "__init__" = none)
  (hP:h.get? P=some { cls:=c0,dict:=pd,data:= .cls pcd,slots:=psl }) (hPn:h.Ns pcd.ns mP) (hi:mP "__init__" = some (.ref fI))
  (hfI:h.get? fI=some oI) (hfc:oI.cls = .type "function")
  (hq:∀h' e,Heap.MadeExcOf h h' e (.ref C) rest→h.objs.size≤h'.objs.size→
   wpAny (model ad w) (A.under (.builtin "type.__call__" ⟨.ref C::rest,[]⟩)) (call (.ref fI) (.ref e::rest)) (λr s'=>r = .none∧Q (.ref e) s') E ⟨h',g,d,t,os⟩) (hrest:rest.length≤sizeLine:=by size_fits) :
  wpAny (model ad w) A (call (.ref C) rest) Q E ⟨h,g,d,t,os⟩:=by
 have f1:=tc_lookup
 have f2:=tc_bind (.ref C)
 have hT:(⟨h,g,d,t,os⟩:Shared).TypeIs (.ref C) "type":=⟨_,hC,rfl⟩
 refine wpAny_call (codeAny_of_tree ?_)
 show wpAny _ _ (callAny (.ref C) _) _ _ _
 repeat (any_goals (first|assumption |with_reducible refine wpAny_loadPart_at hC ?_ |wp_step))
 refine⟨rfl,?_⟩
 refine codeAny_call_builtin_at (Code.quiet_builtin _ (by decide +kernel)) entry_typeCall (wpAny_check_type_call_sub hC (pg (hrest:=hrest) Fn hcB hcA hcN hC hn hni hP hPn hi hfI hfc λh' e hm hs=>?_))
 exact hq h' e hm hs
theorem vw{M:Model}{x:Sem Value}{c:Nat}{Q:Flow→Shared→Prop}(hh:A.handled=none)
  (h:wpAny M A x (λv s₁=>xz c v s₁∧E v s₁) E s) :
  wpAny M A (raiseStmt env (some x) none) Q E s:=by
 unfold raiseStmt
 refine wpAny_bind (wpAny_mono h (λv s₁ h₁=>?_) λ_ _ x=>x)
 obtain⟨⟨e,oe,t,nm,q,N,bs,bm,hdct,sn,sub,ab,col,dd,k0,k1,k2,k3,k5,newId,rfl,hbase,hC,he,hc,hd⟩,hE⟩:=h₁
 have hcB:(Value.ref (cS c)::bm).contains (.type "BaseException")=true:=by rw[List.contains_cons,hbase,Bool.or_true]
 obtain⟨hp,g,d,tk,os⟩:=s₁
 obtain⟨cc,dc,dt,sl⟩:=oe
 subst hc hd
 repeat (first|with_reducible refine wpAny_loadPart_at he ?_ |with_reducible refine wpAny_loadPart_at hC ?_ |(with_reducible refine wpAny_isSubtype_exc hC ?_; rw[hcB]) |wp_step)
 exact wpAny_raiseNew_none hh hE
end
section
variable {ev:Ev}{h:Heap}{r:aP}{outs:List (ax (Fl×ao)×ac)}{Q:Flow→Shared→Prop}
theorem zR{v:AV}{c:Nat}(T:aE K)(q:HS v=some c):v = .g (cS c)∧keepIn K (.ref (cS c))=true:=
 aa q λa qa q=>by
  have va:v = .g a:=by
   cases v with
   |g x=>exact cA0 AV.g (sI qa)
   |_=>exact al qa
  unfold KU at q
  cases h1:Nat.beq a 52 with
  |true=>rw[h1] at q; cases q; exact⟨va.trans (cA0 AV.g (eB0 h1)),T.keepX.1⟩
  |false=>rw[h1] at q; exact ay q λh2 q=>by cases q; exact⟨va.trans (cA0 AV.g (eB0 h2)),T.keepX.2⟩
section
variable (T:aE K)(H:dF w K r n)(hA:bD A n)(hE:PassesOwn (model ad w) A env E)
include T H hA hE
theorem LQ(S:St w K A frs env h β σ ev)(P:Post w os (At env.locals) frs h β σ outs (gG env.locals) Q E)(rz:RZ w K)(hA1:bD A 1){x:Nat}{px pc p:Pos}{as:List ME}(e:ba tabs r ev (.rais x px as pc p) σ=some outs):wpAny (model ad w) A (exec (i8 (.rais x px as pc p)) env) Q E ⟨h,g,d,tk,os⟩:=
 aa e λf q1 e=>aa e λc q2 e=>by
  have hc:=zR T q2
  show wpAny _ A (exec (.Raise (some (.Call (.Name (ae x) px) (unL as) [] pc)) none p) env) Q E _
  rw[arm_exec_Raise]
  refine wpAny_bind (wpAny_standAt (vw (x:=(do let v ←eval (.Call (.Name (ae x) px) (unL as) [] pc) env; standAt p; pure v)) (c:=c) S.hh (wpAny_bind (wpAny_mono (Q:=λv s₁=>xz c v s₁∧E v s₁) (wpAny_Call_Name_kw (er T S q1 λu tk1 ru=>?_)) (λv s₁ z=>wpAny_bind (wpAny_standAt (wpAny_pure z))) λ_ _ z=>z))))
  rw[hc.1] at ru
  rw[show u = .ref (cS c) from ru.inv]
  exact callWith_of (P:=λh'=>lN w (.ref (cS c)) h') (by rw[fF]; rfl) (λ_ z=>z) (mZ (H.lB hA T S hE P e λvs σ1 o1 us β1 h1 tk2 e1 r1 s1 S1 P1=>ay e1 λq e1=>⟨keeps_K hc.2 _ S1.top,
   wpAny_mono (rz hA1 (S.hd.imp λ_ z=>z.imp λ_ z=>z.1) S1.toSit ((Bool.or_eq_true_iff.mp q).imp (λz=>r1.length.symm.trans ((aM vs).symm.trans (eB0 z))) λz=>r1.length.symm.trans ((aM vs).symm.trans (eB0 z))) r1)
    (λv s2 z=>⟨z.1,z.2.elim λex y=>y.elim λh3 y=>y.elim λtk3 y=>by rw[y.1,y.2.1]; exact(P1.eq e1).exc c σ1 (.head _) ex β1 h3 tk3 (y.2.2.weaken λ_ z=>z.elim)⟩) λ_ _ z=>z⟩))
theorem HC{b:List MS}(st:∀{s:MS}{ev:Ev}{h:Heap}{β:Nat→Addr}{σ:ac}{tk:Nat}{outs:List (ax (Fl×ao)×ac)}{Q:Flow→Shared→Prop},St w K A frs env h β σ ev→ba tabs r ev s σ=some outs→Post w os (At env.locals) frs h β σ outs (gG env.locals) Q E→wpAny (model ad w) A (exec (i8 s) env) Q E ⟨h,g,d,tk,os⟩)
  (S:St w K A frs env h β σ ev) (e:jm tabs r ev b σ=some outs) (P:Post w os (At env.locals) frs h β σ outs (gG env.locals) Q E):wpAny (model ad w) A (execs (unSs b) env) Q E ⟨h,g,d,tk,os⟩:=by
 cases b with
 |nil=>exact wpAny_execs_nil ((P.eq e).ok _ _ (.head _) .next β h tk ⟨S.loc,rfl⟩ (ar.refl S.rel S.tab))
 |cons s l=>
  exact(P.bind (X:=At env.locals) (R1:=gG env.locals) e λ_ z=>z).elim λl1 z=>wpAny_execs_cons (st S z.1 (z.2 _ λp σ1 o1 e1 f β1 h1 tk1 r1 s1 P1=>by
   obtain⟨fl,loc⟩:=p
   cases fl with
   |ret v=>exact r1.2.elim λu y=>by rw[y.1]; exact(P1.eq e1).ok _ _ (.head _) _ β1 h1 tk1 ⟨r1.1,u,rfl,y.2⟩ (ar.refl s1.rel s1.tab)
   |next=>
    rw[show f=Flow.next from r1.2]
    cases l with
    |nil=>exact wpAny_execs_nil ((P1.eq e1).ok _ _ (.head _) .next β1 h1 tk1 ⟨r1.1,rfl⟩ (ar.refl s1.rel s1.tab))
    |cons s2 l=>exact H.s hA (S.stepL T s1 r1.1) e1 hE P1))
end
end
structure am(w:World)(K:Frag)(m:Nat)(f:AV)(vs:List AV)(σ:ac)(outs:List (ax AV×ac)):Prop where
 ok:∀{A:Around}{frs:List Env}{h:Heap}{β:Nat→Addr}{os:OsState}{tk:Nat}{E:Value→Shared→Prop}{fv:Value}{us:List Value}{Q:Value→Shared→Prop},
  bD A m→Sit w K A frs h β σ→ak h β σ.n f fv→ValsR h β σ.n vs us→Post w os (λ_=>False) frs h β σ outs bO Q E→wpAny (model ad w) A (call fv us) Q E ⟨h,g,d,tk,os⟩
structure aD(w:World)(K:Frag)(m:Nat)(ev:Ev)(b:List MS)(σ:ac)(outs:List (ax (Fl×ao)×ac)):Prop where
 ok:∀{A:Around}{frs:List Env}{env:Env}{h:Heap}{β:Nat→Addr}{os:OsState}{tk:Nat}{E:Value→Shared→Prop}{Q:Flow→Shared→Prop},
  bD A m→St w K A frs env h β σ ev→PassesOwn (model ad w) A env E→Post w os (At env.locals) frs h β σ outs (gG env.locals) Q E→wpAny (model ad w) A (execs (unSs b) env) Q E ⟨h,g,d,tk,os⟩
noncomputable abbrev Sp:=AV→List AV→ac→Option (aj AV)
noncomputable abbrev Ss:=Ev→List MS→ac→Option (aj (Fl×ao))
noncomputable def bK(w:World)(K:Frag)(m:Nat)(sp:Sp):Prop:=∀f vs σ outs,sp f vs σ=some (some outs)→am w K m f vs σ outs
noncomputable def fT(w:World)(K:Frag)(m:Nat)(ss:Ss):Prop:=∀ev b σ outs,ss ev b σ=some (some outs)→aD w K m ev b σ outs
theorem x8(n:Nat):dF w K LE n:=⟨λ_ _ e=>al e,λ_ _ e=>al e,λ_ _ e=>al e,λ_ _ e=>al e⟩
theorem Il{r:aP}(T:aE K)(H:dF w K r n)(hA:bD A (n+1))(hE:PassesOwn (model ad w) A env E)(rz:RZ w K)
  {s:MS} {ev:Ev} {h:Heap} {β:Nat→Addr} {σ:ac} {tk:Nat} {outs:List (ax (Fl×ao)×ac)} {Q:Flow→Shared→Prop} (S:St w K A frs env h β σ ev) (e:ba tabs r ev s σ=some outs) (P:Post w os (At env.locals) frs h β σ outs (gG env.locals) Q E) :
  wpAny (model ad w) A (exec (i8 s) env) Q E ⟨h,g,d,tk,os⟩:=by
 have hA':bD A n:=hA.mono (Nat.le_succ n)
 cases s with
 |expr x p=>exact Lj T H hA' hE S P e
 |asg t v p=>exact Fy T H hA' hE S P e
 |ret x p=>exact MJ T H hA' hE S P e
 |ret0 p=>exact wpAny_Return_none ((P.eq e).ok _ _ (.head _) _ β h tk ⟨S.loc, .none,rfl, .none⟩ (ar.refl S.rel S.tab))
 |ite t b o p=>exact Nr T H hA' hE S P e
 |for_ t it b p=>exact M6 T H hA' hE S e P
 |rais x px as pc p=>exact LQ T H hA' hE S P rz (hA.mono (Nat.succ_le_succ (Nat.zero_le n))) e
 |defn x ps body sc p=>exact Nv T S e P
theorem wB{α:Type}{q:Option (aj α)}{x:aj α}{outs:List (ax α×ac)}{C:Prop}(e:(Option.rec (motive:=λ_=>aj α) x id q)=some outs)(k1:q=some (some outs)→C)(k2:x=some outs→C):C:=by
 cases q with
 |none=>exact k2 e
 |some o=>exact k1 (cA0 some e)
theorem qr{sp:Sp}{ss:Ss}{m:Nat}(T:aE K)(dz:DZ w K)(rz:RZ w K)(hp:bK w K m sp)(hs:fT w K m ss)(n:Nat):dF w K (R tabs sp ss n) (m+n):=by
 induction n with
 |zero=>exact x8 _
 |succ n H=>exact⟨λhA S e hE P=>Ja T H (hA.mono (Nat.le_succ (m+n))) hE S P dz e,λhA S e hE P=>Ma T H (hA.mono (Nat.le_succ (m+n))) hE S P e,
   λ{A frs env h β σ ev b outs os tk Q E} hA S e hE P=>wB (q:=ss ev b σ) e (λq=>(hs _ _ _ _ q).ok (hA.mono (Nat.le_add_right m _)) S hE P) λe=>HC T H (hA.mono (Nat.le_succ (m+n))) hE (λS e P=>Il T H hA hE rz S e P) S e P,
   λ{A frs h β σ f vs fv us outs os tk Q E} hA S e hf hv P=>wB (q:=sp f vs σ) e (λq=>(hp _ _ _ _ q).ok (hA.mono (Nat.le_add_right m _)) S hf hv P) λe=>lf T H hA S hv P e hf⟩
theorem am.of{sp:Sp}{ss:Ss}{m:Nat}{f:AV}{vs:List AV}{outs:List (ax AV×ac)}(T:aE K)(dz:DZ w K)(rz:RZ w K)(hp:bK w K m sp)(hs:fT w K m ss)(e:(R tabs sp ss n).c f vs σ=some outs):am w K (m+n) f vs σ outs:=
 ⟨λhA S hf hv P=>(qr T dz rz hp hs n).c hA S e hf hv P⟩
theorem aD.of{sp:Sp}{ss:Ss}{m:Nat}{ev:Ev}{b:List MS}{outs:List (ax (Fl×ao)×ac)}(T:aE K)(dz:DZ w K)(rz:RZ w K)(hp:bK w K m sp)(hs:fT w K m ss)(e:(R tabs sp ss n).s ev b σ=some outs):aD w K (m+n) ev b σ outs:=
 ⟨λhA S hE P=>(qr T dz rz hp hs n).s hA S e hE P⟩
theorem am.up{m:Nat}{f:AV}{vs:List AV}{outs:List (ax AV×ac)}(h:m≤n)(c:am w K m f vs σ outs):am w K n f vs σ outs:=⟨λhA S hf hv P=>c.ok (hA.mono h) S hf hv P⟩
theorem aD.up{m:Nat}{ev:Ev}{b:List MS}{outs:List (ax (Fl×ao)×ac)}(h:m≤n)(c:aD w K m ev b σ outs):aD w K n ev b σ outs:=⟨λhA S hE P=>c.ok (hA.mono h) S hE P⟩
section
open Builtin Builtin.ObjectAttr
section
variable {h:Heap}{t:Nat}
variable {nm q:Str}{C N x:Addr}{bs bm:List Value}{sn:List Str}{sub:List Value}{ab:Bool}{col:Option Bool}{dd:Option Addr}{k0 k1 k2 k3 k5:Option Value}{B newId sa owner initId:String}{name:Str}{v:Value}{P:Addr}
theorem A9{M:Model}{o:Obj}{nameV:Value}{Q:Unit→Shared→Prop}(SF:StoreFacts B bm sa owner)
  (hC:h.get? C=some (excClassObj nm q C N bs (.ref P::bm) true sn sub ab col dd k0 k1 k2 k3 k5 newId)) (hx:h.get? x=some o) (hc:o.cls = .ref C) (hq:Q () ⟨h,g,d,t,os⟩) :
  wpAny M A (checkBuiltinCall sa ⟨[.ref x,nameV,v],[]⟩) Q E ⟨h,g,d,t,os⟩:=by
 have hcB:(Value.ref C:: .ref P::bm).contains (.type owner)=true:=by rw[List.contains_cons,List.contains_cons,SF.hasOwner,Bool.or_true,Bool.or_true]
 have ha:=SF.args (.ref x) nameV v
 simp only[checkBuiltinCall,SF.kind,SF.split]
 refine wpAny_bind ?_
 ·unfold isInstance
  repeat (first|(with_reducible refine wpAny_loadPart_at hx ?_; rw[hc]) |(with_reducible refine wpAny_isSubtype_exc hC ?_; rw[hcB]) |wp_step)
  cases hsig:Manifest.signature? sa with
  |none=>exact wpAny_pure hq
  |some sig=>
   simp only[argsOk,hsig] at ha
   have h2:Bind.checkArgs sa sig ⟨[.ref x,nameV,v],[]⟩=pure ():=ha
   show wpAny M A (Bind.checkArgs sa sig ⟨[.ref x,nameV,v],[]⟩) Q E _
   rw[h2]; exact wpAny_pure hq
theorem tD{tk:Tok}{o:Obj}{Q:Fin→Shared→Prop}(SF:StoreFacts B bm sa owner)
  (hC:h.get? C=some (excClassObj nm q C N bs (.ref P::bm) true sn sub ab col dd k0 k1 k2 k3 k5 newId)) (hna:Looks (model ad w) h (typeLookup (.ref C) name) none)
  (hx:h.get? x=some o) (hc:o.cls = .ref C) (hnc:∀c,o.data≠ .cls c) (hdn:o.dict=none)
  (hq:∀h' tk',h'.get? x=some { cls:=o.cls,dict:=some h.objs.size,data:=o.data,slots:=o.slots }→h'.Ns1 h.objs.size (λy=>if y=name then some v else none)→h.objs.size≤h'.objs.size→
   (∀b o,b≠x→h.get? b=some o→h'.get? b=some o)→Q (.done (.ret .none)) ⟨h',g,d,tk',os⟩) :
  wpAny (model ad w) A (Builtin.«object.__setattr__» ⟨[.ref x, .str name tk,v],[]⟩) Q E ⟨h,g,d,t,os⟩:=by
 have hpass:=SF.passes (.ref x)
 unfold Builtin.«object.__setattr__»
 repeat (first|rw[refuse_eq] |(rw[refuseLoop_ref,refuseLoop_ref,hpass]) |(with_reducible refine wpAny_loadPart_at hx ?_; rw[hc]) |with_reducible refine wpAny_mroOf_exc hC ?_ |with_reducible refine hna.here ?_ |wp_step)
 rw[hdn,if_neg (by simp[typeHasDict])]
 split
 ·rename_i hcd
  cases hcd
 split
 ·rename_i c hcd
  exact absurd hcd (hnc c)
 ·have hx₁:(h.push { cls:= .type "dict",data:= .dict #[] }).get? x=some o:=Heap.get?_push_of_some _ hx
  have hxs:x≠h.objs.size:=Nat.ne_of_lt (Heap.lt_size hx)
  refine wpAny_bind (wpAny_alloc' ?_)
  refine wpAny_bind (wpAny_update' hx₁ ?_)
  refine wpAny_pure ?_
  have hgd:((h.push { cls:= .type "dict",data:= .dict #[] }).update x λo=>{ cls:=o.cls,dict:=some h.objs.size,data:=o.data,slots:=o.slots }).get? h.objs.size
    = some { cls:= .type "dict",data:= .dict #[] }:=
   (Heap.get?_update_ne _ _ _ _ hxs.symm).trans (Heap.get?_push_at rfl rfl)
  have hnd:((h.push { cls:= .type "dict",data:= .dict #[] }).update x λo=>{ cls:=o.cls,dict:=some h.objs.size,data:=o.data,slots:=o.slots }).Ns h.objs.size (λ_=>none):=
   ⟨_,#[],_,hgd,rfl,λe he=>absurd he (by simp),λ_=>rfl⟩
  show wpAny _ _ (storeInDict h.objs.size (.str name tk) name v) _ _ _
  unfold storeInDict newKeyGuard
  refine wpAny_bind (wpAny_pure (wpAny_bind (wpAny_nsSet1 (Heap.Ns1.of_empty hnd) λh' hn' hs=>?_)))
  obtain⟨oD,esD,epD,hoD,hdD,hcD⟩:=hn'.count (Within.cons name v Within.nil)
  refine wpAny_bind (wpAny_lookBehind hoD (by rw[hdD]; exact pastItsLine_dict (lE0 hcD (by rw[List.length_cons,List.length_nil,PySem.sizeLine_eq]; omega))) ?_)
  wp_walk
  refine hq h' _ ?_ hn' ?_ (λb ob hbx hb=>?_)
  ·refine(hs.2 x hxs).trans (Heap.get?_update_self _ hx₁ ?_)
   have hfr:=(Heap.get?_some_iff.mp hx).2
   obtain⟨oc,od,odt,osl⟩:=o
   cases odt <;> first|rfl |exact hfr
  ·rw[hs.1,Heap.size_update,Heap.size_push]; exact Nat.le_succ _
  ·exact(hs.2 b (Nat.ne_of_lt (Heap.lt_size hb))).trans ((Heap.get?_update_ne _ _ _ _ hbx).trans (Heap.get?_push_of_some _ hb))
theorem vL{tk:Tok}{o:Obj}{dx:Addr}{mA:Str→Option Value}{ns:List Str}{Q:Fin→Shared→Prop}(SF:StoreFacts B bm sa owner)
  (hC:h.get? C=some (excClassObj nm q C N bs (.ref P::bm) true sn sub ab col dd k0 k1 k2 k3 k5 newId)) (hna:Looks (model ad w) h (typeLookup (.ref C) name) none)
  (hx:h.get? x=some o) (hc:o.cls = .ref C) (hdx:o.dict=some dx) (hns:h.Ns1 dx mA) (hw:Within mA ns) (hsz:ns.length≤1000)
  (hq:∀h' tk',Heap.SameBut dx h h'→Q (.done (.ret .none)) ⟨h',g,d,tk',os⟩) :
  wpAny (model ad w) A (Builtin.«object.__setattr__» ⟨[.ref x, .str name tk,v],[]⟩) Q E ⟨h,g,d,t,os⟩:=by
 have hpass:=SF.passes (.ref x)
 unfold Builtin.«object.__setattr__»
 repeat (first|rw[refuse_eq] |(rw[refuseLoop_ref,refuseLoop_ref,hpass]) |(with_reducible refine wpAny_loadPart_at hx ?_; rw[hc]) |with_reducible refine wpAny_mroOf_exc hC ?_ |with_reducible refine hna.here ?_ |wp_step)
 rw[hdx]
 refine wpAny_pure ?_
 show wpAny _ _ (storeInDict dx (.str name tk) name v) _ _ _
 unfold storeInDict newKeyGuard
 refine wpAny_bind (wpAny_pure (wpAny_bind (wpAny_nsSet1 hns λh' hn' hs=>?_)))
 obtain⟨oD,esD,epD,hoD,hdD,hcD⟩:=hn'.count (Within.cons name v hw)
 refine wpAny_bind (wpAny_lookBehind hoD (by rw[hdD]; exact pastItsLine_dict (lE0 hcD (by rw[List.length_cons,PySem.sizeLine_eq]; omega))) ?_)
 wp_walk
 exact hq h' _ hs
theorem w7{o:Obj}{Q:Unit→Shared→Prop}(SF:StoreFacts B bm sa owner)
  (hC:h.get? C=some (excClassObj nm q C N bs (.ref P::bm) true sn sub ab col dd k0 k1 k2 k3 k5 newId)) (hsa:Looks (model ad w) h (typeLookup (.ref C) "__setattr__") (some (.builtin sa)))
  (hx:h.get? x=some o) (hc:o.cls = .ref C)
  (hq:∀(A:Around)(R:Fin→Shared→Prop)(E:Value→Shared→Prop)(tk:Tok),(∀h' tk',Q () ⟨h',g,d,tk',os⟩→R (.done (.ret .none)) ⟨h',g,d,tk',os⟩)→wpAny (model ad w) A (Builtin.«object.__setattr__» ⟨[.ref x, .str name tk,v],[]⟩) R E ⟨h,g,d,tk+1,os⟩) :
  wpAny (model ad w) A (setAttr (.ref x) name v) Q E ⟨h,g,d,t,os⟩:=by
 have f3:=SF.slot.bind (.ref x)
 unfold setAttr callSpecial? specialOf
 repeat (any_goals (first|assumption |(with_reducible refine wpAny_loadPart_at hx ?_; rw[hc]) |with_reducible refine hsa.here ?_ |wp_step))
 refine codeAny_call_builtin SF.slot.plain SF.entry (A9 SF hC hx hc (hq _ _ _ _ λh' tk' z=>?_))
 repeat (any_goals (first|assumption |wp_step))
theorem CI{bmB:List Value}{e t0:Addr}{oe:Obj}{m:Value}{Q:Value→Shared→Prop}(F:ExcBaseFacts B newId initId bmB)(hcB:(Value.ref C::bm).contains (.type B)=true){hdct:Bool}{newId':String}
  (hC:h.get? C=some (excClassObj nm q C N bs bm hdct sn sub ab col dd k0 k1 k2 k3 k5 newId')) (he:h.get? e=some oe) (hc:oe.cls = .ref C) (hd:oe.data = .fields #[.ref t0, .none, .none, .none, .bool false, .none])
  (hq:∀h' t1,h'.get? e=some { oe with data:= .fields #[.ref t1, .none, .none, .none, .bool false, .none] }→h.objs.size≤h'.objs.size→(∀b o,b≠e→h.get? b=some o→h'.get? b=some o)→Q .none ⟨h',g,d,t,os⟩) :
  wpAny (model ad w) A (call (.builtin initId) [.ref e,m]) Q E ⟨h,g,d,t,os⟩:=by
 have hshort:=F.noStar
 refine wpAny_call (codeAny_call_builtin F.init.plain F.initEntry ?_)
 have chk:∀{A:Around}{Q:Unit→Shared→Prop}{E:Value→Shared→Prop},Q () ⟨h,g,d,t,os⟩→wpAny (model ad w) A (checkBuiltinCall initId ⟨[.ref e,m],[]⟩) Q E ⟨h,g,d,t,os⟩:=λ{A Q E} hq=>by
  simp only[checkBuiltinCall,F.initKind,F.initSplit,F.initRow]
  repeat (first|(with_reducible refine wpAny_loadPart_at he ?_; rw[hc]) |with_reducible refine wpAny_loadPart_at hC ?_ |(with_reducible refine wpAny_isSubtype_exc hC ?_; rw[hcB]) |wp_step)
  exact hq
 refine chk ?_
 unfold Builtin.«BaseException.__init__»
 dsimp only
 rw[if_neg (by simp)]
 unfold newTuple Builtin.BaseException.bexcPut
 have he₁:=Heap.get?_push_of_some (h:=h) { cls:= .type "tuple",data:= .seq #[m] } he
 refine wpAny_bind (wpAny_newObj_type (wpAny_bind (wpAny_bind (wpAny_field he₁ hd rfl (wpAny_bind (wpAny_setField he₁ hd (by simp) ?_))))) (by size_fits))
 refine wpAny_letGo (wpAny_pure ?_)
 refine hq ((h.push { cls:= .type "tuple",data:= .seq #[m] }).update e (Obj.mapFields λx=>x.setIfInBounds 0 (Value.ref h.objs.size))) h.objs.size ?_ ?_ λb o hb hbo=>?_
 ·refine(Heap.get?_update_self _ he₁ ?_).trans ?_
  ·exact Obj.isFreed_of_fields (Obj.data_mapFields hd _)
  ·obtain⟨oc,od,odt,osl⟩:=oe
   subst hd
   rfl
 ·rw[Heap.size_update,Heap.size_push]; exact Nat.le_succ _
 ·exact(Heap.get?_update_ne _ _ _ _ hb).trans (Heap.get?_push_of_some _ hbo)
end
end
noncomputable abbrev cy:Str:=Str.ofString "self"
noncomputable abbrev cZ:Str:=Str.ofString "message"
noncomputable abbrev cW:Str:=Str.ofString "spot"
noncomputable abbrev nW:Str:=Str.ofString "Exception"
noncomputable abbrev xR:Str:=Str.ofString "__init__"
noncomputable def gJ:Scope:={ kind:= .function,names:=[(cy, .local),(cZ, .local),(cW, .local),(nW,gI)],isGenerator:=false,isCoroutine:=false }
noncomputable def rH:List Stmt:=
 [.Expr (.Call (.Attribute (.Name nW (pz 8 8 17)) xR (pz 8 8 26)) [.Name cy (pz 8 27 31), .Name cZ (pz 8 33 40)] [] (pz 8 8 41)) (pz 8 8 41),
  .Assign [.Attribute (.Name cy (pz 9 8 12)) cZ (pz 9 8 20)] (.Name cZ (pz 9 23 30)) (pz 9 8 30),
  .Assign [.Attribute (.Name cy (pz 10 8 12)) cW (pz 10 8 17)] (.Name cW (pz 10 20 24)) (pz 10 8 24)]
noncomputable abbrev mY:List Value:=[.type "Exception", .type "BaseException", .type "object"]
noncomputable abbrev XC(C:Addr)(cd:ClassData)(dd:Option Addr)(k:Nat→Option Value):Obj:=excClassObj cd.name cd.qualname C cd.ns cd.bases (.ref 39::mY) true cd.slotNames cd.subclasses cd.abstract cd.collection dd (k 0) (k 1) (k 2) (k 3) (k 5) "Exception.__new__"
structure tR(K:Frag):Prop where
 cls:∀c,∃cd dd k,K.lookup (cS c)=some (XC (cS c) cd dd k)∧(∀h,K.In h→∃mN,h.Ns cd.ns mN∧mN "__init__" = none)∧
  findIn K (.ref (cS c)) "__setattr__" = some (some (.builtin "object.__setattr__"))∧findIn K (.ref (cS c)) cZ=some none∧findIn K (.ref (cS c)) cW=some none
 par:∃c0 pd pcd psl,K.lookup 39=some { cls:=c0,dict:=pd,data:= .cls pcd,slots:=psl }∧∀h,K.In h→∃mP,h.Ns pcd.ns mP∧mP "__init__" = some (.ref 36)
 fn:∃o fd,K.lookup 36=some o∧o.cls = .type "function"∧o.data = .func fd∧fd.scope=gJ∧fd.body = .stmts rH∧fd.globals=mainGlobals∧fd.closure=[]∧fd.builtins=builtinsNs∧(∀h,K.In h→h.CodeRec fd.code fd.qualname)∧
  (∀s:Shared,K.In s.heap→∀x m,∃sp,BindsTo s fd ⟨[x,m],[]⟩ [(cy,x),(cZ,m),(cW,sp)])∧∀s:Shared,K.In s.heap→∀x m sp,BindsTo s fd ⟨[x,m,sp],[]⟩ [(cy,x),(cZ,m),(cW,sp)]
 exg:∀h,K.In h→∃mg mb,h.Ns mainGlobals mg∧mg nW=none∧h.Ns builtinsNs mb∧mb nW=some (.type "Exception")
theorem vH(K:Frag):findCls K (.type "Exception") (.type "type") xR=some (.val (.builtin "Exception.__init__")):=by
 show findCls [] (.type "Exception") (.type "type") xR=_
 kernel_rfl
section
variable {e0:Env}{ev:Ev}{h h'' B:Heap}{Y:Addr→Prop}{L:Addr}{loc:ao}{r:aP}
theorem k8(S:Sit w K A frs h β σ)(k:∀a o,h.get? a=some o→h'.get? a=some o):∀l:List Env,(∀e∈l,e∈frs)→h'.FunFrames (hideAll h (frs.filterMap (·.frame))) l
 |[],_=>trivial
 |e::l,hl=>by
  obtain⟨hk,L,o,es,ep,hf,e1,d,_⟩:=S.frok e (hl e (.head _))
  exact⟨by rw[hk]; nofun,⟨L,o,hf,hideAll_none _ (List.mem_filterMap.mpr ⟨e,hl e (.head _),hf⟩),k _ _ e1,λvs z=>by rw[d] at z; cases z⟩,k8 S k l λe he=>hl e (.tail _ he)⟩
theorem AM{c:Nat}{e t:Addr}{oe:Obj}(S:Sit w K A frs h β σ)(k:∀a o,h.get? a=some o→h'.get? a=some o)(hs:h.objs.size≤h'.objs.size)(he:h.get? e=none)(ho:h'.get? e=some oe)(hc:oe.cls = .ref (cS c))(hd:oe.data = .fields #[.ref t, .none, .none, .none, .bool false, .none]) :
  d3 w (λ_=>False) frs h h' β β σ σ c e:=by
 have fr:∀a,a∈frs.filterMap (·.frame)→∃env∈frs,env.frame=some a:=λa hm=>by
  obtain⟨env,h1,h2⟩:=List.mem_filterMap.mp hm
  exact⟨env,h1,h2⟩
 have dat:∀a o,a∈frs.filterMap (·.frame)→h.get? a=some o→N0≤a∧∃es ep,o.data = .dict es ep:=λa o hm e=>by
  obtain⟨env,h1,h2⟩:=fr a hm
  obtain⟨_,L,o',es,ep,hf,e1,d,hl⟩:=S.frok env h1
  rw[hf] at h2; cases h2
  rw[e1] at e; cases e
  exact⟨hl,es,ep,d⟩
 have kb:∀a o,h.get? a=some o→(∀es ep,o.data≠ .dict es ep)→(hideAll h (frs.filterMap (·.frame))).get? a=some o:=λa o e hd=>hideAll_get _ e λhm=>by
  obtain⟨_,es,ep,hd'⟩:=dat a o hm e
  exact hd es ep hd'
 have kβ:∀j o,j<σ.n→h.get? (β j)=some o→(hideAll h (frs.filterMap (·.frame))).get? (β j)=some o:=λj o hj e=>hideAll_get _ e λhm=>by
  obtain⟨env,h1,h2⟩:=fr _ hm
  exact S.sepF env h1 _ h2 j hj rfl
 have kt:∀a ps,fu a→h.get? a=some (tabObj ps)→(hideAll h (frs.filterMap (·.frame))).get? a=some (tabObj ps):=λa ps _ e=>kb a _ e nofun
 refine⟨hideAll h (frs.filterMap (·.frame)), .ref t,{
  size:=hs
  keep:=λa o e _ _ hf _=>hideAll_get _ e λhm=>by
   obtain⟨env,h1,h2⟩:=fr a hm
   exact hf env h1 h2
  slots:=λenv he a o q e _=>⟨o.slots,k a o e⟩
  tups:=λa xs n _ e=>kb a _ e nofun
  tabs:=λa ps ht e _=>kt a ps ht e
  n:=Nat.le_refl _
  agree:=λ_ _=>rfl
  fresh:=λi a b=>absurd b (Nat.not_lt.mpr a)
  nores:=λ_ _ e=>e
  rel:={
   obj:=λj x e=>by
    obtain⟨hj,q⟩:=S.rel.obj j x e
    exact⟨hj,q.mono (λa xs n _ e=>kb a _ e nofun) (λ_ _=>rfl) (Nat.le_refl _) (λa ps ht e _=>kt a ps ht e) λo e=>kβ j o hj e⟩
   lo:=λj hj=>by rw[hideAll_size]; exact S.rel.lo j hj
   live:=λj hj=>by obtain⟨o,e⟩:=S.rel.live j hj; exact⟨o,kβ j o hj e⟩
   inj:=S.rel.inj
   fact:=S.rel.fact }
  tab:=λq hq=>by
   obtain⟨ps,e,r⟩:=S.tab q hq
   refine⟨ps,kb _ _ e nofun,r.imp id ?_⟩
   rintro ⟨c',e',c,oc,vs,t,q1,q2,q3,q4⟩
   exact⟨c',e',c,oc,vs,t,q1,kb _ _ q2 (by rw[q3]; nofun),q3,q4⟩
  hi:=λj hj=>lT0 (S.rel.lo j hj).2 hs },λa o e=>k a o (of_hideAll _ e),?_,k8 S k frs λ_ z=>z, .inl ⟨oe,_,ho,hc,hd,rfl,rfl⟩⟩
 cases q:(hideAll h (frs.filterMap (·.frame))).get? e with
 |none=>rfl
 |some o=>rw[of_hideAll _ q] at he; cases he
end
section
variable {e0:Env}{ev:Ev}{h h'' B:Heap}{Y:Addr→Prop}{L:Addr}{loc:ao}{r:aP}
theorem mW{m:Str→Option Value}{x:Str}{p:Pos}{v:Value}{Q:Value→Shared→Prop}(hk:env.scope.kind = .function)(hl:env.kindOf x=some .local)(hd:(x == ("__debug__" : Str))=false)(hn:h.Ns env.locals m)(hv:m x=some v)(q:Q v ⟨h,g,d,tk,os⟩) :
  wpAny (model ad w) A (eval (.Name x p) env) Q E ⟨h,g,d,tk,os⟩:=wpAny_Name (wpAny_loadName_local hk hl hn hv q) hd
theorem wt{f x:Str}{p1 p2 p3 p4:Pos}{m:Str→Option Value}{e:Addr}{v:Value}{Q:Flow→Shared→Prop}(hk:env.scope.kind = .function)(hs:env.kindOf cy=some .local)(hl:env.kindOf x=some .local)(hd:(x == ("__debug__" : Str))=false)
  (hn:h.Ns env.locals m) (he:m cy=some (.ref e)) (hv:m x=some v) (q:wpAny (model ad w) A (setAttr (.ref e) f v) (λ_ s'=>Q .next s') E ⟨h,g,d,tk,os⟩) :
  wpAny (model ad w) A (exec (.Assign [.Attribute (.Name cy p1) f p2] (.Name x p3) p4) env) Q E ⟨h,g,d,tk,os⟩:=by
 refine wpAny_Assign_stores (mW hk hl hd hn hv ?_) rfl rfl
 show wpAny _ _ (assign (.Attribute (.Name cy p1) f p2) env v) _ _ _
 exact kas_attr (mW hk hs rfl hn he q)
theorem KY{c:Nat}{m:Str→Option Value}{e t:Addr}{mv sv:Value}{h0:Heap}{C:Addr}{nm q:Str}{N:Addr}{bs:List Value}{sn:List Str}{sub:List Value}{ab:Bool}{col:Option Bool}{dd:Option Addr}{k0 k1 k2 k3 k5:Option Value}{Q:Flow→Shared→Prop}
  (hC0:C=cS c) (hkind:env.scope=gJ) (hgl:env.globals=mainGlobals) (hbi:env.builtins=builtinsNs) (X:tR K) (hK:K.In h0) (k0h:∀a o,h0.get? a=some o→h.get? a=some o) (hsz:h0.objs.size≤h.objs.size)
  (hC:K.lookup C=some (excClassObj nm q C N bs (.ref 39::mY) true sn sub ab col dd k0 k1 k2 k3 k5 "Exception.__new__"))
  (hsa:findIn K (.ref C) "__setattr__" = some (some (.builtin "object.__setattr__"))) (hfm:findIn K (.ref C) cZ=some none) (hfs:findIn K (.ref C) cW=some none)
  (hn:h.Ns env.locals m) (hL:h0.objs.size≤env.locals) (h0e:h0.get? e=none) (heL:e≠env.locals) (he:h.get? e=some { cls:= .ref C,data:= .fields #[.ref t, .none, .none, .none, .bool false, .none] }) (m1:m cy=some (.ref e)) (m2:m cZ=some mv) (m3:m cW=some sv)
  (hq:∀h' tk' t' oe,(∀a o,h0.get? a=some o→h'.get? a=some o)→h0.objs.size≤h'.objs.size→h'.get? e=some oe→oe.cls = .ref C→oe.data = .fields #[.ref t', .none, .none, .none, .bool false, .none]→Q .next ⟨h',g,d,tk',os⟩) :
  wpAny (model ad w) A (execs rH env) Q iJ ⟨h,g,d,tk,os⟩:=by
 subst hC0
 have kf:env.scope.kind = .function:=by rw[hkind]; rfl
 have kd:∀x,env.kindOf x=gJ.names.lookup x:=λx=>by unfold Env.kindOf; rw[hkind]
 have ks:env.kindOf cy=some .local:=by rw[kd]; decide +kernel
 have km:env.kindOf cZ=some .local:=by rw[kd]; decide +kernel
 have kp:env.kindOf cW=some .local:=by rw[kd]; decide +kernel
 have ke:env.kindOf nW=some .globalImplicit:=by rw[kd]; decide +kernel
 have old:∀a o,h0.get? a=some o→a≠e:=λa o e1 z=>by rw[z,h0e] at e1; exact al e1
 unfold rH
 refine wpAny_execs_cons (wpAny_Expr_any ?_ (by unfold interactive; rw[kf]; rfl) rfl)
 refine methodCall_KW (wpAny_Name ?_ (by decide +kernel)) rfl
 obtain⟨mg,mb,g1,g2,g3,g4⟩:=X.exg h0 hK
 rw[loadName_read kf ke]
 refine loadGlobal_builtin (by rw[hgl]; exact g1.keeps k0h) g2 (by rw[hbi]; exact g3.keeps k0h) g4 ?_
 have F:Fr h0 env.locals h m:=⟨hn,k0h,hL⟩
 refine method_type F hK (by first|rfl |kernel_rfl) (by decide +kernel) (vH K) (by decide +kernel) ?_
 refine callWith_of (P:=λ_=>True) rfl (λ_ _=>⟨.machine, .inr (.inl rfl), .now⟩) (evalArgs_plain ?_)
 show wpAny _ _ (spliced [(false,eval (.Name cy _) env),(false,eval (.Name cZ _) env)]) _ _ _
 refine spliced_cons (mW kf ks (by decide +kernel) hn m1 (spliced_cons (mW kf km (by decide +kernel) hn m2 (spliced_nil ⟨trivial,?_⟩))))
 have hCh:=k0h _ _ (hK _ _ hC)
 refine CI PySem.F.excBase_Exception (by rw[List.contains_cons,show(Value.ref 39::mY).contains (.type "Exception")=true from by decide +kernel,Bool.or_true]) hCh he rfl rfl λh1 t1 e1 s1 k1'=>?_
 have hn1:h1.Ns env.locals m:=j3 hn λo z=>⟨o.slots,k1' _ _ (Ne.symm heL) z⟩
 have kk1:∀a o,h0.get? a=some o→h1.get? a=some o:=λa o z=>k1' a o (old a o z) (k0h a o z)
 have hK1:K.In h1:=λa o z=>kk1 a o (hK a o z)
 refine wpAny_execs_cons (wt kf ks km (by decide +kernel) hn1 m1 m2 ?_)
 refine w7 PySem.F.store_Exception (hK1 _ _ hC) (looks_findIn hK1 hsa) e1 rfl λA2 R2 E2 tk2 hR2=>?_
 refine tD PySem.F.store_Exception (hK1 _ _ hC) (looks_findIn hK1 hfm) e1 rfl nofun rfl λh2 tk3 e2 n2 s2 k2'=>hR2 _ _ ?_
 have hn2:h2.Ns env.locals m:=j3 hn1 λo z=>⟨o.slots,k2' _ _ (Ne.symm heL) z⟩
 have kk2:∀a o,h0.get? a=some o→h2.get? a=some o:=λa o z=>k2' a o (old a o z) (kk1 a o z)
 have hK2:K.In h2:=λa o z=>kk2 a o (hK a o z)
 refine wpAny_execs_cons (wt kf ks kp (by decide +kernel) hn2 m1 m3 ?_)
 refine w7 PySem.F.store_Exception (hK2 _ _ hC) (looks_findIn hK2 hsa) e2 rfl λA3 R3 E3 tk4 hR3=>?_
 refine vL (ns:=[cZ]) PySem.F.store_Exception (hK2 _ _ hC) (looks_findIn hK2 hfs) e2 rfl rfl n2 (Within.cons cZ mv Within.nil) (by decide) λh3 tk5 hs3=>hR3 _ _ ?_
 refine wpAny_execs_nil ?_
 have he1:e≠h1.objs.size:=Nat.ne_of_lt (Heap.lt_size e1)
 have o1:∀a o,h0.get? a=some o→a≠h1.objs.size:=λa o z=>Nat.ne_of_lt (Heap.lt_size (kk1 a o z))
 exact hq h3 _ t1 _ (λa o z=>(hs3.2 a (o1 a o z)).trans (kk2 a o z)) (by rw[hs3.1]; exact lE0 hsz (lE0 s1 s2)) ((hs3.2 e he1).trans e2) rfl rfl
theorem M4(T:aE K)(X:tR K):RZ w K:=by
 intro A frs h β σ os tk E c vs us hA _ S hlen hv
 obtain⟨cd,dd,k,hC,hN,hsa,hfm,hfs⟩:=X.cls c
 obtain⟨mN,hn,hni⟩:=hN h S.top
 obtain⟨c0,pd,pcd,psl,hP,hPn⟩:=X.par
 obtain⟨mP,hPn,hi⟩:=hPn h S.top
 obtain⟨o,fd,ho,hcl,hd,hsc,hbo,hgl,hcs,hbi,hcr,hb2,hb3⟩:=X.fn
 refine ye PySem.F.excBase_Exception (by decide +kernel) (by decide +kernel) (by decide +kernel) (S.top _ _ hC) hn hni (S.top _ _ hP) hPn hi (S.top _ _ ho) hcl (λh1 e hm hsz1=>?_) (by rcases hlen with z |z <;> rw[z] <;> decide)
 have hK1:K.In h1:=λa o z=>hm.keeps _ _ (S.top a o z)
 obtain⟨t,ht,_,_⟩:=hm.there
 have hbind:∃x0 x1 x2,us.length≤2∧BindsTo ⟨h1,g,d,tk,os⟩ fd ⟨.ref e::us,[]⟩ [(cy, .ref e),(cZ,x1),(cW,x2)]∧x0=x1:=by
  match us,hlen with
  |[x],_=>
   obtain⟨sp,hb⟩:=hb2 ⟨h1,g,d,tk,os⟩ hK1 (.ref e) x
   exact⟨x,x,sp,by simp,hb,rfl⟩
  |[x,y],_=>exact⟨x,x,y,by simp,hb3 ⟨h1,g,d,tk,os⟩ hK1 (.ref e) x y,rfl⟩
  |[],z=>simp at z
  |_::_::_::_,z=>simp at z
 obtain⟨_,mv,sv,_,hB,_⟩:=hbind
 have hroom:(A.under (.builtin "type.__call__" ⟨.ref (cS c)::us,[]⟩)).depth<recursionLimit:=by
  rw[depth_under_kw]
  have:=hA.d
  show A.depth+1<1000
  omega
 refine wpAny_noRaise (wpAny_call (codeAny_call_function hroom (hK1 _ _ ho) hd (by rw[hsc]; rfl) (by rw[hsc]; rfl) hbo (hcr _ hK1) (hB _ _ _ _ ?_)))
 rw[hsc,hgl,hcs,hbi]
 have lk:∀x∈([(cy, .ref e),(cZ,mv),(cW,sv)]:List (Str×Value)),gJ.names.lookup x.1=some .local:=λx hx=>by
  rcases List.mem_cons.mp hx with rfl |hx
  ·show gJ.names.lookup cy=_; decide +kernel
  rcases List.mem_cons.mp hx with rfl |hx
  ·show gJ.names.lookup cZ=_; decide +kernel
  cases List.mem_singleton.mp hx
  show gJ.names.lookup cW=_; decide +kernel
 refine wpAny_newFunctionEnv (by decide) lk (λh2 hns hsb=>⟨?_,?_⟩) rfl
 ·have k2:∀a o,h1.get? a=some o→h2.get? a=some o:=λa o z=>hsb.extBut a o (Nat.ne_of_lt (Heap.lt_size z)) (Heap.get?_push_of_some _ z)
  exact T.lim _ λa o z=>k2 a o (hK1 a o z)
 ·have k2:∀a o,h1.get? a=some o→h2.get? a=some o:=λa o z=>hsb.extBut a o (Nat.ne_of_lt (Heap.lt_size z)) (Heap.get?_push_of_some _ z)
  have hs2:h1.objs.size≤h2.objs.size:=by rw[hsb.1]; show h1.objs.size≤(h1.push _).objs.size; rw[Heap.size_push]; exact Nat.le_succ _
  refine codeAny_func (wpAny_noRaise ?_)
  refine KY (h0:=h) (c:=c) (C:=cS c) rfl rfl rfl rfl X S.top (λa o z=>k2 a o (hm.keeps a o z)) (lE0 hsz1 hs2) hC hsa hfm hfs hns hsz1 hm.new (Nat.ne_of_lt (Heap.lt_size ht)) (k2 _ _ ht) (mv:=mv) (sv:=sv) ?_ ?_ ?_ λh' tk' t' oe kk hs e1 e2 e3=>?_
  ·rfl
  ·rfl
  ·rfl
  ·refine⟨rfl,⟨e,oe,t',_,_,_,_,_,true,_,_,_,_,dd,_,_,_,_,_,_,rfl,?_,kk _ _ (S.top _ _ hC),e1,e2,e3⟩,e,h',tk',rfl,rfl,AM S kk hs hm.new e1 e2 e3⟩
   decide +kernel
end
theorem pB:typeLookup (.type "zip") "__getattr__" = pure none:=by rw[typeLookup_type,builtinLookup_eq_fast]; kernel_rfl
theorem uD:typeLookup (.type "zip") (Str.ofString "keys")=pure none:=by rw[typeLookup_type,builtinLookup_eq_fast]; kernel_rfl
theorem vC:entryFor table "zip.__getattribute__" = some Builtin.«object.__getattribute__»:=
 entryFor_alias (id':="object.__getattribute__") (by kernel_rfl) (by first|rfl |decide +kernel |(unfold String.splitOn; simp +decide [String.splitOnAux])) (by decide +kernel) (by kernel_rfl)
theorem rq(a:Addr)(vs:Array Value)(u:Tok) :
  Meets (Builtin.«object.__getattribute__» ⟨[.ref a, .str (Str.ofString "keys") u],[]⟩) (λA R s=>s.heap.get? a=some { cls:= .type "zip",dict:=none,data:= .fields vs,slots:=#[] }∧raisesAttr (.ref a) (Str.ofString "keys") A R s):=
 Meets.of_wp λad w A R s hs=>by
  obtain⟨hp,g,d,tk,os⟩:=s
  obtain⟨hx,hs⟩:=hs
  have hT:(⟨hp,g,d,tk,os⟩:Shared).TypeIs (.ref a) "zip":=⟨_,hx,rfl⟩
  have hmiss:=uD
  have hname:(["__module__","__name__","__qualname__","__doc__","__annotations__"]:List Str).contains (Str.ofString "keys")=false:=by decide +kernel
  unfold Builtin.«object.__getattribute__»
  repeat (any_goals (first|assumption |wp_step))
  exact wpAny_raiseAttrError hs.1 hs.2 (attrMsg_fits (by decide +kernel) (by rw[PySem.sizeLine_eq]; decide +kernel))
theorem xW{a:Addr}{vs:Array Value}{Q:Option Value→Shared→Prop}(hx:s.heap.get? a=some { cls:= .type "zip",dict:=none,data:= .fields vs,slots:=#[] })(hA:A.handled=none)
  (h:∀h' tk,(∀b o,s.heap.get? b=some o→h'.get? b=some o)→Q none { s with heap:=h',toks:=tk }):wpAny (model ad w) A (getAttr? (.ref a) (Str.ofString "keys")) Q E s:=by
 obtain⟨hp,g,d,tk,os⟩:=s
 have hT:∀tk',(⟨hp,g,d,tk',os⟩:Shared).TypeIs (.ref a) "zip":=λ_=>⟨_,hx,rfl⟩
 have f1:=sub_AttributeError
 have f3:=F.slot_zip_getattribute.lookup
 have f4:=F.slot_zip_getattribute.bind (.ref a)
 have f5:=pB
 unfold getAttr? getAttrBy? getAttrBy
 repeat (any_goals (first|assumption |exact hT _ |((with_reducible show wpAny _ _ (call (Value.builtin "zip.__getattribute__") _ _) _ _ _); refine call_meets F.slot_zip_getattribute (hT _) vC (F.args_zip_getattribute_2 _ _) (rq a vs _) ⟨hx,hA,λh' tk' e hx'=>?_⟩) |wp_step))
 obtain⟨t',u',he⟩:=hx'.there
 show wpAny _ _ (getattributeRaised _ _ _ _ _ _ _) _ _ _
 unfold getattributeRaised
 repeat (any_goals (first|assumption |wp_step))
 exact h _ _ hx'.keeps
theorem vI{M:Model}{a:Addr}{Q:Option Obj→Shared→Prop}(h:Q (s.heap.get? a) s):wpAny M A (loadIfAlive a) Q E s:=λ_ _ _=>h
section
variable {h:Heap}{z T TI TO i1 i2 l1 l2:Addr}{P1 P2:Nat→Heap→Prop}{xs ys:List Value}{b:Bool}{n0:Nat}
noncomputable abbrev sC(h:Heap)(z T TI TO:Addr)(b:Bool):Prop:=h.get? z=some { cls:= .type "zip",dict:=none,data:= .fields #[rawInt T, .bool b, .bool false, .ref TI, .ref TO],slots:=#[] }
theorem BW{Q:Bool→Shared→Prop}(hz:sC h z T TI TO b)(hT:∃o,h.get? T=some o)(hQ:∀h',sC h' z T TI TO true→Heap.SameBut z h h'→Q false ⟨h',g,d,tk,os⟩):wpAny (model ad w) A (Builtin.SmallTypes.ownedTupleIsFree (.ref z)) Q E ⟨h,g,d,tk,os⟩:=by
 refine wpAny_bind (m:=field (.ref z) 0) (wpAny_field hz rfl (x:=rawInt T) rfl (wpAny_bind (m:=loadIfAlive ((T:Int).toNat)) (vI (hT.elim λo hT=>?_))))
 rw[Int.toNat_natCast,hT]
 refine wpAny_bind (m:=field (.ref z) 1) (wpAny_field hz rfl (x:= .bool b) rfl ?_)
 cases b with
 |true=>exact wpAny_pure (hQ _ hz (.refl ..))
 |false=>exact wpAny_bind (m:=setField (.ref z) 1 (.bool true)) (wpAny_setField_rec hz (by simp) λh' z1 s1=>wpAny_pure (hQ h' z1 s1))
theorem O3{Q:Value→Shared→Prop}(D:ZipApart z TI TO i1 i2 l1 l2)(N1:db w A i1 l1 P1 xs)(N2:db w A i2 l2 P2 ys)(hz:sC h z T TI TO b)(hT:∃o,h.get? T=some o)(hTI:IsPair h TI (.ref i1) (.ref i2))(h1:P1 k h)(h2:P2 k h)
  (hQ:∀x y,xs[k]?=some x→ys[k]?=some y→∀h',sC h' z T TI TO true→P1 (k+1) h'→P2 (k+1) h'→IsPair h' h.objs.size x y→h'.objs.size=h.objs.size+1→gu z TO i1 i2 h h'→Q (.ref h.objs.size) ⟨h',g,d,tk,os⟩)
  (hE:xs[k]?=none∨ys[k]?=none→∀h' e,gu z TO i1 i2 h h'→tL h' e→E (.ref e) ⟨h',g,d,tk,os⟩):wpAny (model ad w) A (Builtin.«zip.__next__» ⟨[.ref z],[]⟩) (λfin s'=>∃v,fin = .done (.ret v)∧Q v s') E ⟨h,g,d,tk,os⟩:=by
 refine wpAny_bind (m:=field (.ref z) 2) (wpAny_field hz rfl (x:= .bool false) rfl (wpAny_bind (m:=field (.ref z) 3) (wpAny_field hz rfl (x:= .ref TI) rfl (wpAny_bind (wpAny_seqItems hTI rfl (wpAny_bind (m:=Builtin.SmallTypes.ownedTupleIsFree (.ref z)) (BW hz hT λg1 z1 s1=>?_)))))))
 simp only[Bool.false_eq_true,if_false]
 rw[show(#[Value.ref i1,Value.ref i2]:Array Value)=[Value.ref i1,Value.ref i2].toArray from rfl,List.forIn_toArray]
 simp only[List.forIn_cons,List.forIn_nil]
 refine wpAny_bind (wpAny_bind (wpAny_bind (wpAny_holding (wpAny_bind (m:=Builtin.SmallTypes.nextOf (.ref i1)) ?_))))
 have P11:P1 k g1:=N1.1 _ _ _ h1 λa ha o e=>s1.extBut _ _ (cC ha D.i1z D.l1z) e
 cases hx:xs[k]? with
 |none=>exact N1.2.2 k _ _ _ P11 hx λg2 e s2 he=>hE (.inl hx) g2 e (λc o c1 _ c3 _ e=>s2 _ _ c3 (s1.extBut _ _ c1 e)) he
 |some x=>
  refine N1.2.1 k _ x _ _ P11 hx λg2 P12 s2=>wpAny_pure (wpAny_pure (wpAny_bind (wpAny_bind (wpAny_holding (wpAny_bind (m:=Builtin.SmallTypes.nextOf (.ref i2)) ?_)))))
  have P22:P2 k g2:=N2.1 _ _ _ h2 λa ha o e=>s2.extBut _ _ (cC ha D.i12.symm D.l2i1) (s1.extBut _ _ (cC ha D.i2z D.l2z) e)
  cases hy:ys[k]? with
  |none=>exact N2.2.2 k _ _ _ P22 hy λg3 e s3 he=>hE (.inr hy) g3 e (λc o c1 _ c3 c4 e=>s3 _ _ c4 (s2.extBut _ _ c3 (s1.extBut _ _ c1 e))) he
  |some y=>
   refine N2.2.1 k _ y _ _ P22 hy λg3 P23 s3=>wpAny_pure (wpAny_pure (wpAny_pure (wpAny_bind (wpAny_newTuple (wpAny_pure ⟨_,rfl,?_⟩) (by show 2≤sizeLine; rw[PySem.sizeLine_eq]; decide)))))
   have hsz:g3.objs.size=h.objs.size:=s3.1.trans (s2.1.trans s1.1)
   have up:∀{c o},g3.get? c=some o→(g3.push { cls:= .type "tuple",data:= .seq #[x,y] }).get? c=some o:=λe=>Heap.get?_push_of_some _ e
   have:=Heap.get?_push_size g3 (o:={ cls:= .type "tuple",data:= .seq #[x,y] }) rfl
   show Q (.ref g3.objs.size) _
   rw[hsz] at this ⊢
   exact hQ x y hx hy _ (up (s3.extBut _ _ D.i2z.symm (s2.extBut _ _ D.i1z.symm z1))) (N1.1 _ _ _ P12 λa ha o e=>up (s3.extBut _ _ (cC ha D.i12 D.l1i2) e)) (N2.1 _ _ _ P23 λa _ o e=>up e) this (by rw[Heap.size_push,hsz]) λc o c1 _ c3 c4 e=>up (s3.extBut _ _ c4 (s2.extBut _ _ c3 (s1.extBut _ _ c1 e)))
noncomputable def ZS(h:Heap)(z TI TO:Addr)(n0:Nat):Prop:=(IsZip h z TI TO .none∧∃u v,IsPair h TO u v)∨∃T b,sC h z T TI TO b∧n0≤T∧∃u v,IsPair h T u v
theorem Hp{Q:Option Value→Shared→Prop}(D:ZipApart z TI TO i1 i2 l1 l2)(N1:db w A.in1 i1 l1 P1 xs)(N2:db w A.in1 i2 l2 P2 ys)(hlt:∀c,c=z∨c=TO∨c=i1∨c=i2→c<n0)(hn:n0≤h.objs.size)
  (hz:ZS h z TI TO n0) (hTI:IsPair h TI (.ref i1) (.ref i2)) (h1:P1 k h) (h2:P2 k h) (hQ:∀x y,xs[k]?=some x→ys[k]?=some y→∀h',ZS h' z TI TO n0→P1 (k+1) h'→P2 (k+1) h'→IsPair h' h.objs.size x y→h'.objs.size=h.objs.size+1→gu z TO i1 i2 h h'→Q (some (.ref h.objs.size)) ⟨h',g,d,tk,os⟩)
  (hE:xs[k]?=none∨ys[k]?=none→∀h',gu z TO i1 i2 h h'→Q none ⟨h',g,d,tk,os⟩):wpAny (model ad w) A (pyNext (.ref z)) Q E ⟨h,g,d,tk,os⟩:=
 hz.elim (λy=>y.2.elim λu x=>x.elim λv hTO=>uR D y.1 hTI hTO h1 h2 N1 N2 (λx y hx hy h' a1 a2 a3 a4 a5 a6 a7=>hQ x y hx hy h' (.inr ⟨_,false,a1,hn,_,_,a5⟩) a3 a4 a5 a6 a7) λhend h' _ k=>hE hend h' k)
  λy=>y.elim λT y=>y.elim λb y=>y.2.2.elim λu x=>x.elim λv hp=>
   have ne:∀c,(c=z∨c=TO∨c=i1∨c=i2)→T≠c:=λc hc e=>absurd (e▸y.2.1) (Nat.not_le.mpr (hlt c hc))
   y0 ⟨_,y.1,rfl⟩ (O3 D N1 N2 y.1 ⟨_,hp⟩ hTI h1 h2 (λx' y' hx hy h' a1 a3 a4 a5 a6 a7=>hQ x' y' hx hy h' (.inr ⟨T,true,a1,y.2.1,u,v,a7 T _ (ne _ (.inl rfl)) (ne _ (.inr (.inl rfl))) (ne _ (.inr (.inr (.inl rfl)))) (ne _ (.inr (.inr (.inr rfl)))) hp⟩) a3 a4 a5 a6 a7)
    λhend h' e k he=>⟨e,rfl,he,hE hend h' k⟩)
end
section
variable {h:Heap}{β0:Nat→Addr}{n0:Nat}{O O':Nat→Nat→Prop}{γ:Type}
noncomputable def Ho(h:Heap)(β:Nat→Addr)(n:Nat)(β0:Nat→Addr)(n0:Nat):Prop:=∀a xs ep,IsT h a xs ep→(∀i,i<n→β i≠a)→∀i,i<n0→β0 i≠a
noncomputable def Lk(O:Nat→Nat→Prop)(β0:Nat→Addr)(n0:Nat)(β:Nat→Addr)(n:Nat):Prop:=∀i j,O i j→i<n0∧j<n∧β0 i=β j
noncomputable abbrev Vw(γ:Type):=Heap→(Nat→Addr)→Nat→γ→Prop
noncomputable def cb(O:Nat→Nat→Prop)(P0 P:Vw γ):Prop:=∀h β β0 n n0,Lk O β0 n0 β n→Ho h β n β0 n0→∀v,P h β n v→P0 h β0 n0 v
noncomputable def o8(O:Nat→Nat→Prop)(P0 P:Vw γ):Prop:=cb O P0 P∧cb (λj i=>O i j) P P0
theorem cb.mono{P0 P:Vw γ}(H:∀i j,O i j→O' i j)(d:cb O P0 P):cb O' P0 P:=λh β β0 n n0 L=>d h β β0 n n0 λi j o=>L i j (H i j o)
theorem o8.mono{P0 P:Vw γ}(H:∀i j,O i j→O' i j)(s:o8 O P0 P):o8 O' P0 P:=⟨s.1.mono H,s.2.mono λi j=>H j i⟩
mutual
noncomputable def dJ:AV→Bool
 | .obj _=>false
 | .tok _ _=>false
 | .tup l=>closeds l
 |_=>true
noncomputable def closeds:List AV→Bool
 |[]=>true
 |a::l=>dJ a&&closeds l
end
theorem ie{α:Type}{x:α}{l:List α}{c:Nat}(e:aY l c=some x):x∈l:=by
 induction l generalizing c with
 |nil=>exact al e
 |cons a l ih=>cases c with
  |zero=>exact sI e▸ .head _
  |succ c=>exact .tail _ (ih e)
theorem vD:∀k<9,∀x∈rX k,dJ x=true:=by decide +kernel
theorem dj{c:Nat}{x:AV}(e:bu k c=some x):dJ x=true:=
 if q:k<9 then vD k q x (ie e) else by
  obtain⟨j,rfl⟩:=Nat.exists_eq_add_of_le (Nat.not_lt.mp q)
  rw[Nat.add_comm] at e
  exact al e
theorem ak.shut(ho:Ho h β n β0 n0):∀{v:Value},dJ a=true→ak h β n a v→ak h β0 n0 a v:=
 AV.rec (motive_1:=λa=>∀{v:Value},dJ a=true→ak h β n a v→ak h β0 n0 a v) (motive_2:=λl=>∀{vs:List Value},closeds l=true→ValsR h β n l vs→ValsR h β0 n0 l vs)
  (λ_ r=>r.inv.symm▸ .none)
  (λb _ _ r=>r.inv.symm▸ .bool b)
  (λi _ _ r=>r.inv.elim λt e=>e▸ .int i t)
  (λk _ _ r=>r.inv.elim λt e=>e▸ .str k t)
  (λm _ _ r=>r.inv.elim λs e=>e.elim λt e=>e.1▸ .txt m s t e.2)
  (λl ih _ c r=>r.inv.elim λvs e=>e.elim λa e=>e.elim λep e=>e.1▸ .tup e.2.1 (ho _ _ _ e.2.1 e.2.2.2) (ih c e.2.2.1))
  (λi _ c _=>nomatch c)
  (λa _ _ r=>r.inv.symm▸ .g a)
  (λk _ _ r=>r.inv.symm▸ .b k)
  (λk c _ q _=>nomatch q)
  (λ_ r=>r.nilE .nil)
  (λx l ih1 ih2 _ c r=>aw c λc1 c2=>r.consE λv us h1 h2=> .cons (ih1 c1 h1) (ih2 c2 h2)) a
noncomputable abbrev V(a:AV):Vw Value:=λh β n v=>ak h β n a v
noncomputable abbrev Vs(l:List AV):Vw (List Value):=λh β n v=>ValsR h β n l v
noncomputable def aR(O:Nat→Nat→Prop)(a0 a:AV):Prop:=o8 O (V a0) (V a)
noncomputable def bj(O:Nat→Nat→Prop)(a0 a:List AV):Prop:=o8 O (Vs a0) (Vs a)
theorem aR.mono(H:∀i j,O i j→O' i j)(s:aR O a b):aR O' a b:=o8.mono H s
theorem bj.mono{a b:List AV}(H:∀i j,O i j→O' i j)(s:bj O a b):bj O' a b:=o8.mono H s
theorem aR.refl(c:dJ a=true):aR O a a:=⟨λ_ _ _ _ _ _ ho _ r=>r.shut ho c,λ_ _ _ _ _ _ ho _ r=>r.shut ho c⟩
theorem aR.none:aR O .none .none:= .refl rfl
theorem aR.bool(b:Bool):aR O (.bool b) (.bool b):= .refl rfl
theorem aR.int(i:Int):aR O (.int i) (.int i):= .refl rfl
theorem aR.str(i:Nat):aR O (.str i) (.str i):= .refl rfl
theorem aR.g(i:Nat):aR O (.g i) (.g i):= .refl rfl
theorem cb.obj{j:Nat}(o:O i j):cb O (V (.obj i)) (V (.obj j)):=λ_ _ _ _ _ L _ _ r=>r.inv.2▸(L i j o).2.2▸ .obj i (L i j o).1
theorem aR.obj(i:Nat){j:Nat}(o:O i j):aR O (.obj i) (.obj j):=⟨.obj o, .obj o⟩
theorem cb.tup{l0 l:List AV}(d:cb O (Vs l0) (Vs l)):cb O (V (.tup l0)) (V (.tup l)):=λ_ _ _ _ _ L ho _ r=>r.inv.elim λvs e=>e.elim λa e=>e.elim λep e=>e.1▸ .tup e.2.1 (ho _ _ _ e.2.1 e.2.2.2) (d _ _ _ _ _ L ho _ e.2.2.1)
theorem aR.tup{l0 l:List AV}(s:bj O l0 l):aR O (.tup l0) (.tup l):=⟨s.1.tup,s.2.tup⟩
theorem A2{c:Nat}{x:AV}(hx:bu k c=some x):V (.tok k c)=V x:=funext λ_=>funext λ_=>funext λ_=>funext λ_=>propext ⟨λr=>r.inv.elim λy e=>sI (hx.symm.trans e.1)▸e.2, .tok hx⟩
theorem aR.tokL{c:Nat}{x:AV}(hx:bu k c=some x)(s:aR O x a):aR O (.tok k c) a:=by unfold aR; rw[A2 hx]; exact s
theorem aR.tokR{c:Nat}{x:AV}(hx:bu k c=some x)(s:aR O a x):aR O a (.tok k c):=by unfold aR; rw[A2 hx]; exact s
theorem cb.tok(k c:Nat):cb O (V (.tok k c)) (V (.tok k c)):=λ_ _ _ _ _ _ ho _ r=>r.inv.elim λ_ e=> .tok e.1 (e.2.shut ho (dj e.1))
theorem aR.tok(k c:Nat):aR O (.tok k c) (.tok k c):=⟨.tok k c, .tok k c⟩
theorem bj.nil:bj O [] []:=⟨λ_ _ _ _ _ _ _ _ r=>r.nilE .nil,λ_ _ _ _ _ _ _ _ r=>r.nilE .nil⟩
theorem cb.cons{x y:AV}{l0 l:List AV}(a:cb O (V x) (V y))(b:cb O (Vs l0) (Vs l)):cb O (Vs (x::l0)) (Vs (y::l)):=λ_ _ _ _ _ L ho _ r=>r.consE λ_ _ h1 h2=> .cons (a _ _ _ _ _ L ho _ h1) (b _ _ _ _ _ L ho _ h2)
theorem bj.cons{x y:AV}{l0 l:List AV}(a:aR O x y)(b:bj O l0 l):bj O (x::l0) (y::l):=⟨a.1.cons b.1,a.2.cons b.2⟩
noncomputable abbrev Es(l:List (AV×AV)):Vw (List (Str×Value) ⊕ List (List Str×Addr×Value)):=λh β n x=>Sum.rec (λk=>aN h β n l k) (λk=>bn h β n l k) x
noncomputable def gv(O:Nat→Nat→Prop)(l0 l:List (AV×AV)):Prop:=o8 O (Es l0) (Es l)
theorem gv.nil:gv O [] []:=
 have d:∀{O},cb O (Es []) (Es []):=λ_ _ _ _ _ _ _ x=>Sum.rec (λk r=>aN.casesOn (motive:=λl k _=>l=[]→aN _ _ _ [] k) r (λ_=> .nil) (λ_ _=>nofun) rfl) (λk r=>bn.casesOn (motive:=λl k _=>l=[]→bn _ _ _ [] k) r (λ_=> .nil) (λ_ _ _ _=>nofun) rfl) x
 ⟨d,d⟩
theorem cb.ents{k x y:AV}{l0 l:List (AV×AV)}(a:cb O (V x) (V y))(b:cb O (Es l0) (Es l)):cb O (Es ((k,x)::l0)) (Es ((k,y)::l)):=λh β β0 n n0 L ho v=>
 Sum.rec (λq r=>aN.casesOn (motive:=λm q _=>m=(k,y)::l→aN h β0 n0 ((k,x)::l0) q) r nofun (λhx hl e=>by
   injection e with e1 e2
   injection e1 with e0 e1
   subst e0 e1 e2
   exact .cons (a _ _ _ _ _ L ho _ hx) (b _ _ _ _ _ L ho (.inl _) hl)) rfl)
  (λq r=>bn.casesOn (motive:=λm q _=>m=(k,y)::l→bn h β0 n0 ((k,x)::l0) q) r nofun (λha hn hx hl e=>by
   injection e with e1 e2
   injection e1 with e0 e1
   subst e0 e1 e2
   exact .cons ha (ho _ _ _ ha hn) (a _ _ _ _ _ L ho _ hx) (b _ _ _ _ _ L ho (.inr _) hl)) rfl) v
theorem gv.cons{k x y:AV}{l0 l:List (AV×AV)}(a:aR O x y)(b:gv O l0 l):gv O ((k,x)::l0) ((k,y)::l):=⟨a.1.ents b.1,a.2.ents b.2⟩
noncomputable def eK{α α':Type}(Q:α→α'→Prop)(l0:List (Nat×α))(l:List (Nat×α')):Prop:=∀x a0,look x l0=some a0→∃a,look x l=some a∧Q a0 a
theorem eK.nil{α α':Type}{Q:α→α'→Prop}{l:List (Nat×α')}:eK Q [] l:=λ_ _=>al
theorem eK.cons{α α':Type}{Q:α→α'→Prop}{l0:List (Nat×α)}{l:List (Nat×α')}{y:Nat}{a:α}{b:α'}(q:Q a b)(s:eK Q l0 l):eK Q ((y,a)::l0) ((y,b)::l):=λx a0 e=>by
 rw[bH] at e ⊢
 by_cases z:x=y
 ·rw[if_pos z] at e ⊢; exact⟨b,rfl,sI e▸q⟩
 ·rw[if_neg z] at e ⊢; exact s x a0 e
theorem eK.mono{α α':Type}{Q Q':α→α'→Prop}{l0:List (Nat×α)}{l:List (Nat×α')}(H:∀a b,Q a b→Q' a b)(s:eK Q l0 l):eK Q' l0 l:=λx a e=>(s x a e).imp λ_ y=>⟨y.1,H _ _ y.2⟩
noncomputable def fy(O:Nat→Nat→Prop)(l0 l:List (Nat×Nat)):Prop:=eK O l0 l∧eK (λj i=>O i j) l l0
theorem fy.nil:fy O [] []:=⟨.nil, .nil⟩
theorem fy.cons{x j:Nat}{l0 l:List (Nat×Nat)}(o:O i j)(s:fy O l0 l):fy O ((x,i)::l0) ((x,j)::l):=⟨s.1.cons o,s.2.cons o⟩
theorem eK.cel{l0 l:List (Nat×Nat)}(s:eK O l0 l)(L:Lk O β0 n0 β n){cs:List (Str×Addr)}(c:dD β n l cs):dD β0 n0 l0 cs:=λx i e=>(s x i e).elim λj y=>⟨(c x j y.1).1.trans (cA0 some (L i j y.2).2.2.symm),(L i j y.2).1⟩
noncomputable abbrev Ob(o:ai):Vw (World×Addr):=λh β n x=>bz x.1 h β n o x.2
noncomputable def bg(O:Nat→Nat→Prop)(o0 o:ai):Prop:=hot (some o0)=hot (some o)∧o8 O (Ob o0) (Ob o)
theorem bg.mono{a b:ai}(H:∀i j,O i j→O' i j)(s:bg O a b):bg O' a b:=⟨s.1,s.2.mono H⟩
theorem cb.lst{l0 l:List AV}(d:cb O (Vs l0) (Vs l)):cb O (Ob (.list l0)) (Ob (.list l)):=λ_ _ _ _ _ L ho _ r=>r.imp λ_ r=>r.imp λ_ r=>⟨r.1,d _ _ _ _ _ L ho _ r.2⟩
theorem bg.list{l0 l:List AV}(s:bj O l0 l):bg O (.list l0) (.list l):=⟨rfl,s.1.lst,s.2.lst⟩
theorem bg.otokL{l rs:List Nat}{m:List AV}(s:bj O (Mine.otokL k l rs) m):bg O (.otok k l rs) (.list m):=⟨rfl,s.1.lst,s.2.lst⟩
theorem bg.otokR{l rs:List Nat}{m:List AV}(s:bj O m (Mine.otokL k l rs)):bg O (.list m) (.otok k l rs):=⟨rfl,s.1.lst,s.2.lst⟩
theorem bg.otok{k':Nat}{l rs l' rs':List Nat}(s:bj O (Mine.otokL k l rs) (Mine.otokL k' l' rs')):bg O (.otok k l rs) (.otok k' l' rs'):=⟨rfl,s.1.lst,s.2.lst⟩
theorem cb.dct{l0 l:List (AV×AV)}(d:cb O (Es l0) (Es l)):cb O (Ob (.dict l0)) (Ob (.dict l)):=λ_ _ _ _ _ L ho _ r=>r.imp (λr=>r.imp λ_ r=>⟨r.1,d _ _ _ _ _ L ho (.inl _) r.2⟩) λr=>r.imp λ_ r=>⟨r.1,d _ _ _ _ _ L ho (.inr _) r.2⟩
theorem bg.dict{l0 l:List (AV×AV)}(s:gv O l0 l):bg O (.dict l0) (.dict l):=⟨rfl,s.1.dct,s.2.dct⟩
theorem bg.fro{l0 l:List (AV×AV)}(s:gv O l0 l):bg O (.fro l0) (.fro l):=⟨rfl,s.1.dct,s.2.dct⟩
theorem cb.inst(C:Nat){j:Nat}(o:O i j):cb O (Ob (.inst C i)) (Ob (.inst C j)):=λ_ _ _ _ _ L _ _ r=>⟨r.1,(L i j o).1,(L i j o).2.2▸r.2.2⟩
theorem bg.inst(C i:Nat){j:Nat}(o:O i j):bg O (.inst C i) (.inst C j):=⟨rfl, .inst C o, .inst C o⟩
theorem bg.cell0:bg O (.cell none) (.cell none):=⟨rfl,λ_ _ _ _ _ _ _ _ r=>r,λ_ _ _ _ _ _ _ _ r=>r⟩
theorem cb.cell{x y:AV}(d:cb O (V x) (V y)):cb O (Ob (.cell (some x))) (Ob (.cell (some y))):=λ_ _ _ _ _ L ho _ r=>r.imp λ_ r=>r.imp λ_ r=>⟨r.1,r.2.1,r.2.2.imp λ_ r=>⟨r.1,d _ _ _ _ _ L ho _ r.2⟩⟩
theorem bg.cell{x y:AV}(s:aR O x y):bg O (.cell (some x)) (.cell (some y)):=⟨rfl,s.1.cell,s.2.cell⟩
section
variable {ps:List (Nat×Pos)}{sc:List (Nat×NameKind)}{c0 c:List (Nat×Nat)}
theorem cb.lam{b:ME}(s:eK O c0 c):cb O (Ob (.lam ps b sc c0)) (Ob (.lam ps b sc c)):=λ_ _ _ _ _ L _ _ r=>r.imp λ_ r=>r.imp λ_ r=>r.imp λ_ r=>r.imp λ_ r=>⟨r.1,r.2.1,s.cel L r.2.2⟩
theorem bg.lam{b:ME}(s:fy O c0 c):bg O (.lam ps b sc c0) (.lam ps b sc c):=⟨rfl, .lam s.1, .lam s.2⟩
theorem cb.fn{x:Nat}{b:List MS}(s:eK O c0 c):cb O (Ob (.fn x ps b sc c0)) (Ob (.fn x ps b sc c)):=λ_ _ _ _ _ L _ _ r=>r.imp λ_ r=>r.imp λ_ r=>r.imp λ_ r=>r.imp λ_ r=>r.imp λ_ r=>⟨r.1,r.2.1,s.cel L r.2.2⟩
theorem bg.fn{x:Nat}{b:List MS}(s:fy O c0 c):bg O (.fn x ps b sc c0) (.fn x ps b sc c):=⟨rfl, .fn s.1, .fn s.2⟩
end
theorem cb.vals{j:Nat}(o:O i j):cb O (Ob (.vals i)) (Ob (.vals j)):=λ_ _ _ _ _ L _ _ r=>⟨(L i j o).1,(L i j o).2.2▸r.2⟩
theorem bg.vals(i:Nat){j:Nat}(o:O i j):bg O (.vals i) (.vals j):=⟨rfl, .vals o, .vals o⟩
theorem bg.own:bg O .own .own:=⟨rfl,λ_ _ _ _ _ _ _ _ r=>r,λ_ _ _ _ _ _ _ _ r=>r⟩
theorem bg.tr(l:List Dr):bg O (.tr l) (.tr l):=⟨rfl,λ_ _ _ _ _ _ _ _ r=>r,λ_ _ _ _ _ _ _ _ r=>r⟩
end
noncomputable def bG(e:Nat→Nat):List (Nat×ai)→ac→ac
 |[],σ=>σ
 |q::r,σ=>(bG e r σ).set (e q.1) q.2
noncomputable def pushes:List ai→ac→ac
 |[],σ=>σ
 |o::r,σ=>pushes r (σ.push o)
theorem n9(e:Nat→Nat)(l:List (Nat×ai))(σ:ac):(bG e l σ).n=σ.n∧(bG e l σ).f=σ.f:=by induction l with |nil=>exact⟨rfl,rfl⟩ |cons _ _ ih=>exact ih
theorem zu(e:Nat→Nat)(σ:ac)(i:Nat){o:ai}{l:List (Nat×ai)}(h:(bG e l σ).get i=some o):(∃j,(j,o)∈l∧e j=i)∨((∀q∈l,e q.1≠i)∧σ.get i=some o):=by
 induction l with
 |nil=>exact .inr ⟨λ_ z=>absurd z List.not_mem_nil,h⟩
 |cons q r ih=>
  by_cases z:e q.1=i
  ·exact .inl ⟨q.1,sI ((ac.get_set_self _ _ _).symm.trans (z▸h))▸ .head _,z⟩
  ·exact(ih ((ac.get_set_ne _ _ _ z).symm.trans h)).imp (λy=>y.imp λj y=>⟨.tail _ y.1,y.2⟩) λy=>⟨List.forall_mem_cons.mpr ⟨z,y.1⟩,y.2⟩
theorem ja(l:List ai)(σ:ac):(pushes l σ).n=σ.n+l.length∧(pushes l σ).f=σ.f:=by
 induction l generalizing σ with
 |nil=>exact⟨rfl,rfl⟩
 |cons q r ih=>exact⟨(ih _).1.trans ((Nat.add_assoc _ _ _).trans (cA0 _ (Nat.add_comm _ _))),(ih _).2⟩
theorem oG{l:List ai}{o:ai}(h:(pushes l σ).get i=some o):σ.get i=some o∨∃k,σ.n+k=i∧l[k]?=some o:=by
 induction l generalizing σ with
 |nil=>exact .inl h
 |cons q r ih=>
  refine(ih h).elim (λh2=>?_) λy=>y.elim λk y=> .inr ⟨k+1,(Nat.succ_add _ _).symm.trans y.1,y.2⟩
  by_cases y:σ.n=i
  ·exact .inr ⟨0,y,(ac.get_push_self _ _).symm.trans (y▸h2)⟩
  ·exact .inl ((ac.get_push_ne _ _ y).symm.trans h2)
noncomputable def aB(k:Nat)(l:List Nat):Bool:=l.any λi=>Nat.beq k i
noncomputable def b8:List Nat→Bool
 |[]=>true
 |i::r=>!aB i r&&b8 r
theorem qw{j:Nat}{l:List Nat}(h:j∈l):aB j l=true:=List.any_eq_true.mpr ⟨_,h,Nat.beq_refl j⟩
theorem nF{j:Nat}{l:List Nat}(h:aB j l=true):j∈l:=(List.any_eq_true.mp h).elim λ_ y=>eB0 y.2▸y.1
theorem lI{j:Nat}{l:List Nat}{k':Nat}(a:b8 l=true)(h:l[k]?=some j)(h':l[k']?=some j):k=k':=by
 induction l generalizing k k' with
 |nil=>exact al h
 |cons p r ih=>
  refine aw a λa1 a2=>?_
  have no:∀{i},p=j→r[i]?=some j→False:=λe h=>Bool.noConfusion ((cA0 (!·) (qw (List.mem_of_getElem? h))).symm.trans (e▸a1))
  cases k with
  |zero=>cases k' with
   |zero=>rfl
   |succ=>exact(no (sI h) h').elim
  |succ k=>cases k' with
   |zero=>exact(no (sI h') h).elim
   |succ=>exact cA0 _ (ih a2 h h')
theorem dN{a b:Nat}(h:Nat.blt a b=true):a<b:=lB0 h
theorem kK{a b:Nat}(h:a<b):Nat.blt a b=true:=Nat.ble_eq_true_of_le h
noncomputable def Em(n:Nat)(e:Nat→Nat)(j i:Nat):Prop:=Nat.blt j n=true∧e j=i
noncomputable def On(n0 n:Nat)(e:Nat→Nat)(js:List Nat)(j i:Nat):Prop:=Em n0 e j i∨∃k,js[k]?=some j∧n+k=i
structure fc(n0:Nat)(σ0 σ:ac)(e:Nat→Nat):Prop where
 n:σ0.n=n0
 tot:∀j,j<n0→∃o,σ.get (e j)=some o
 inj:∀j k,j<n0→k<n0→e j=e k→j=k
 obj:∀j o0,σ0.get j=some o0→j<n0∧∃o,σ.get (e j)=some o∧bg (Em n0 e) o0 o
 rest:∀i,i<σ.n→(∃j,j<n0∧e j=i)∨∃o,σ.get i=some o∧o≠ .own
 fact:(∀p∈σ.f,p)→∀p∈σ0.f,p
structure wO(n0:Nat)(σ0 σ σ0':ac)(e:Nat→Nat)(ch:List (Nat×ai))(js:List Nat)(nw:List ai):Prop where
 n:n0≤σ0'.n
 same:∀j,j<n0→aB j (ch.map (·.1))=false→σ0'.get j=σ0.get j
 ch:∀q∈ch,q.1<n0∧∃o0,σ0'.get q.1=some o0∧bg (On n0 σ.n e js) o0 q.2
 bd:∀j∈js,n0≤j∧j<σ0'.n
 new:∀(k:Nat)(o:ai),nw[k]?=some o→∃(j:Nat) (o0:ai),js[k]?=some j∧σ0'.get j=some o0∧bg (On n0 σ.n e js) o0 o
 len:js.length=nw.length
 ap:b8 js=true
theorem Lk.flip{O:Nat→Nat→Prop}{n1:Nat}{β0':Nat→Addr}(l:Lk O β0' n1 β n):Lk (λj i=>O i j) β n β0' n1:=λa b o=>⟨(l b a o).2.1,(l b a o).1,(l b a o).2.2.symm⟩
noncomputable def N5(js:List Nat)(k:Nat):Nat:=(js[k]?).getD 0
theorem K6{js:List Nat}(h:i<n+js.length):i<n∨∃k q,js[k]?=some q∧n+k=i:=
 (Nat.lt_or_ge i n).imp id λz=>⟨i-n,_,List.getElem?_eq_getElem (Nat.sub_lt_left_of_lt_add z h),Nat.add_sub_cancel' z⟩
section
variable {ev:Ev}{h B:Heap}{β0':Nat→Addr}{σ0 σ0':ac}{n0:Nat}{e e':Nat→Nat}{ch:List (Nat×ai)}{js:List Nat}{nw:List ai}
section
variable (m:fc n0 σ0 σ e)(R:bB w h β σ)
include m R
theorem fc.lt(j:Nat)(hj:j<n0):e j<σ.n:=(m.tot j hj).elim λ_ q=>(R.obj _ _ q).1
theorem fc.lk:Lk (Em n0 e) (λj=>β (e j)) n0 β σ.n:=λi _ o=>⟨dN o.1,o.2▸m.lt R i (dN o.1),cA0 β o.2⟩
theorem fc.ho:Ho h β σ.n (λj=>β (e j)) n0:=λ_ _ _ _ ho i hi=>ho _ (m.lt R i hi)
theorem fc.rel:bB w h (λj=>β (e j)) σ0 where
 obj:=λj o0 q=>⟨m.n.symm▸(m.obj j o0 q).1,(m.obj j o0 q).2.elim λo y=>m.n.symm▸y.2.2.1 h β _ σ.n n0 (m.lk R) (m.ho R) (w,_) (R.obj _ _ y.1).2⟩
 lo:=λj hj=>R.lo _ (m.lt R j (m.n▸hj))
 live:=λj hj=>R.live _ (m.lt R j (m.n▸hj))
 inj:=λi j hi hj q=>m.inj i j (m.n▸hi) (m.n▸hj) (R.inj _ _ (m.lt R i (m.n▸hi)) (m.lt R j (m.n▸hj)) q)
 fact:=m.fact R.fact
theorem wO.got(u:wO n0 σ0 σ σ0' e ch js nw){o:ai}(q:(pushes nw (bG e ch σ)).get i=some o) :
  i<σ.n+nw.length∧((∃j o0,On n0 σ.n e js j i∧σ0'.get j=some o0∧bg (On n0 σ.n e js) o0 o)∨(i<σ.n∧(∀j,j<n0→e j=i→hot (σ0.get j)=false)∧σ.get i=some o)):=by
 have old:∀{i},i<σ.n→i<σ.n+nw.length:=λz=>lT0 z (Nat.le_add_right _ _)
 refine(oG q).elim (λz=>(zu e σ i z).elim (λy=>y.elim λj y=>?_) λy=>?_) λy=>y.elim λk y=>?_
 ·exact⟨old (y.2▸m.lt R j (u.ch _ y.1).1), .inl ((u.ch _ y.1).2.elim λo0 x=>⟨j,o0, .inl ⟨kK (u.ch _ y.1).1,y.2⟩,x⟩)⟩
 ·have hi:=(R.obj i o y.2).1
  refine⟨old hi,Classical.byCases (p:=∃j,j<n0∧e j=i) (λx=>x.elim λj x=>?_) λx=> .inr ⟨hi,λj hj z=>(x ⟨j,hj,z⟩).elim,y.2⟩⟩
  cases v:σ0.get j with
  |none=>exact .inr ⟨hi,λj' hj' z'=>m.inj j j' x.1 hj' (x.2.trans z'.symm)▸cA0 hot v,y.2⟩
  |some o0=>
   refine .inl ⟨j,o0, .inl ⟨kK x.1,x.2⟩,(u.same j x.1 (Bool.eq_false_iff.mpr λt=>?_)).trans v,(m.obj j o0 v).2.elim λo' s=>sI (s.1.symm.trans (x.2.symm▸y.2))▸s.2.mono λ_ _=> .inl⟩
   exact(List.mem_map.mp (nF t)).elim λq t=>y.1 q t.1 (t.2▸x.2)
 ·have q:=(cA0 (· + k) (n9 e ch σ).1).symm.trans y.1
  exact⟨q▸Nat.add_lt_add_left (List.getElem?_eq_some_iff.mp y.2).1 _, .inl ((u.new k o y.2).elim λj x=>x.elim λo0 x=>⟨j,o0, .inr ⟨k,x.1,q⟩,x.2⟩)⟩
theorem fc.lift(hX:∀i,i<σ.n→¬X (β i))(hF:∀env∈frs,∀a,env.frame=some a→∀i,i<σ.n→β i≠a)(s:aT w X frs h B h' (λj=>β (e j)) β0' σ0 σ0')(u:wO n0 σ0 σ σ0' e ch js nw) :
  ∃β',aT w X frs h B h' β β' σ (pushes nw (bG e ch σ))∧Lk (On n0 σ.n e js) β0' σ0'.n β' (pushes nw (bG e ch σ)).n∧Ho B β0' σ0'.n β' (pushes nw (bG e ch σ)).n:=by
 have hN:(pushes nw (bG e ch σ)).n=σ.n+js.length:=u.len▸(ja _ _).1.trans (cA0 (· + _) (n9 e ch σ).1)
 have le:σ.n≤(pushes nw (bG e ch σ)).n:=hN▸Nat.le_add_right _ _
 have lt0:∀{j},j<n0→j<σ0.n:=λz=>m.n.symm▸z
 have ag:∀j,j<n0→β0' j=β (e j):=λj hj=>s.agree j (lt0 hj)
 let β':Nat→Addr:=λi=>if i<σ.n then β i else β0' (N5 js (i-σ.n))
 have b1:∀i,i<σ.n→β' i=β i:=λi hi=>if_pos hi
 have b2:∀{k q:Nat},js[k]?=some q→β' (σ.n+k)=β0' q:=λ{k q} hk=>(if_neg (Nat.not_lt.mpr (Nat.le_add_right _ _))).trans (cA0 β0' (by unfold N5; rw[Nat.add_sub_cancel_left,hk]; rfl))
 have nq:∀{k q:Nat},js[k]?=some q→n0≤q∧q<σ0'.n:=λhk=>u.bd _ (List.mem_of_getElem? hk)
 have cs:∀{C:Nat→Prop}{i},i<(pushes nw (bG e ch σ)).n→(i<σ.n→C i)→(∀k q,js[k]?=some q→C (σ.n+k))→C i:=λhi a b=>(K6 (hN▸hi)).elim a λy=>y.elim λk y=>y.elim λq y=>y.2▸b k q y.1
 have fr:∀i,σ.n≤i→i<(pushes nw (bG e ch σ)).n→h.objs.size≤β' i:=λi a b=>cs (C:=λi=>σ.n≤i→h.objs.size≤β' i) b (λz y=>absurd z (Nat.not_lt.mpr y)) (λk q hk _=>(b2 hk).symm▸s.fresh _ (m.n.symm▸(nq hk).1) (nq hk).2) a
 have lk:Lk (On n0 σ.n e js) β0' σ0'.n β' (pushes nw (bG e ch σ)).n:=λj i o=>o.elim (λy=>y.2▸⟨lT0 (dN y.1) u.n,lT0 (m.lt R j (dN y.1)) le,(ag j (dN y.1)).trans (b1 _ (m.lt R j (dN y.1))).symm⟩)
  λy=>y.elim λk y=>y.2▸⟨(nq y.1).2,hN▸Nat.add_lt_add_left (List.getElem?_eq_some_iff.mp y.1).1 _,(b2 y.1).symm⟩
 have hotE:∀j,hot (σ0.get j)=true→j<n0∧hot (σ.get (e j))=true:=λj q=>(mO q).elim λo0 q0=>⟨(m.obj j o0 q0).1,(m.obj j o0 q0).2.elim λo y=>(cA0 hot y.1).trans (y.2.1.symm.trans ((cA0 hot q0).symm.trans q))⟩
 have keepB:∀i o,i<σ.n→(∀j,j<n0→e j=i→hot (σ0.get j)=false)→h.get? (β i)=some o→B.get? (β i)=some o:=λi o hi hn q=>
  s.keep _ o q (hX i hi) (λj hj z=>Bool.noConfusion (hj.symm.trans (hn j (hotE j hj).1 (R.inj _ _ hi (m.lt R j (hotE j hj).1) z).symm))) (λenv he z=>hF env he _ z i hi rfl) λz=>fh z (R.lo i hi).1
 have tups:∀a xs n,(∀i,i<σ.n→β i≠a)→IsT h a xs n→IsT B a xs n:=λa xs n ho q=>s.tups a xs n (λj hj=>ho _ (m.lt R j (m.n▸hj))) q
 have framed:∀i o,i<σ.n→(∀j,j<n0→e j=i→hot (σ0.get j)=false)→σ.get i=some o→bz w B β' (pushes nw (bG e ch σ)).n o (β i):=λi o hi hn q=>
  (R.obj i o q).2.mono tups b1 le s.tabs (λob qo=>keepB i ob hi hn qo) λi a b _ _ z=>absurd (Heap.lt_size z) (Nat.not_lt.mpr (fr i a b))
 have live:∀i,i<(pushes nw (bG e ch σ)).n→∃o,B.get? (β' i)=some o:=λi hi=>cs (C:=λi=>∃o,B.get? (β' i)=some o) hi (λq=>(b1 i q).symm▸Classical.byCases (p:=∃j,j<n0∧e j=i) (λx=>x.elim λj x=>x.2▸ag j x.1▸s.rel.live j (lT0 x.1 u.n)) λz=>(R.live i q).imp λo ho=>keepB i o q (λj hj z'=>(z ⟨j,hj,z'⟩).elim) ho) λk q hk=>(b2 hk).symm▸s.rel.live _ (nq hk).2
 have out:∀{i k q:Nat},i<σ.n→js[k]?=some q→β' i≠β' (σ.n+k):=λhi hk z=>absurd (R.lo _ hi).2 (Nat.not_lt.mpr ((b1 _ hi)▸z▸fr _ (Nat.le_add_right _ _) (hN▸Nat.add_lt_add_left (List.getElem?_eq_some_iff.mp hk).1 _)))
 have ho:Ho B β0' σ0'.n β' (pushes nw (bG e ch σ)).n:=λa xs ep ha hn i hi=>cs (C:=λi=>β' i≠a) hi (λq z=>Classical.byCases (p:=∃j,j<n0∧e j=i)
   (λx=>x.elim λj x=>hn j (lT0 x.1 u.n) ((ag j x.1).trans (x.2.symm▸(b1 i q).symm.trans z))) λy=>(m.rest i q).elim y λx=>x.elim λo x=>(framed i o q (λj hj z'=>(y ⟨j,hj,z'⟩).elim) x.1).not_tuple x.2 ((b1 i q).symm.trans z▸ha))
  λk q hk z=>hn _ (nq hk).2 ((b2 hk).symm.trans z)
 refine⟨β',{
  size:=s.size
  keep:=λa o q x hh x3 x4=>s.keep a o q x (λj hj=>hh _ (hotE j hj).2) x3 x4
  slots:=s.slots
  tups:=tups
  tabs:=s.tabs
  n:=le
  agree:=b1
  fresh:=fr
  nores:=λi hi q=>(mO q).elim λo qo=>(u.got m R qo).2.elim (λy=>y.elim λj y=>y.elim λo0 y=>y.1.elim (λx=>x.2▸(hotE j (s.nores j (lt0 (dN x.1)) ((cA0 hot y.2.1).trans (y.2.2.1.trans ((cA0 hot qo).symm.trans q))))).2) λx=>x.elim λk x=>absurd (x.2▸hi) (Nat.not_lt.mpr (Nat.le_add_right _ _))) λy=>(cA0 hot (y.2.2.trans qo.symm)).trans q
  rel:={
   obj:=λi o q=>⟨hN▸u.len▸(u.got m R q).1,(u.got m R q).2.elim (λy=>y.elim λj y=>y.elim λo0 y=>(lk j i y.1).2.2▸y.2.2.2.2 B β0' β' _ _ lk.flip ho (w,_) (s.rel.obj j o0 y.2.1).2) λy=>(b1 i y.1).symm▸framed i o y.1 y.2.1 y.2.2⟩
   lo:=λi hi=>⟨cs (C:=λi=>N0≤β' i) hi (λz=>(b1 i z).symm▸(R.lo i z).1) λk q hk=>(b2 hk).symm▸(s.rel.lo _ (nq hk).2).1,(live i hi).elim λo ho=>Heap.lt_size ho⟩
   live:=live
   inj:=λi j hi hj=>cs (C:=λi=>β' i=β' j→i=j) hi (λzi=>cs (C:=λj=>β' i=β' j→i=j) hj (λzj q=>R.inj i j zi zj ((b1 i zi).symm.trans (q.trans (b1 j zj)))) λk q hk z=>absurd z (out zi hk))
    λk q hk=>cs (C:=λj=>β' (σ.n+k)=β' j→σ.n+k=j) hj (λzj z=>absurd z.symm (out zj hk)) λk' q' hk' z=>cA0 _ (lI u.ap hk ((s.rel.inj _ _ (nq hk).2 (nq hk').2 ((b2 hk).symm.trans (z.trans (b2 hk'))))▸hk'))
   fact:=(ja _ _).2.symm▸(n9 e ch σ).2.symm▸R.fact }
  tab:=s.tab
  hi:=λi hi=>cs (C:=λi=>β' i<h'.objs.size) hi (λz=>(b1 i z).symm▸lT0 (R.lo i z).2 s.size) λk q hk=>(b2 hk).symm▸s.hi _ (nq hk).2 },lk,ho⟩
end
theorem fc.sit(m:fc n0 σ0 σ e)(S:Sit w K A frs h β σ):Sit w K A frs h (λj=>β (e j)) σ0 where
 hh:=S.hh
 fr:=S.fr
 frok:=S.frok
 top:=S.top
 tab:=S.tab
 rel:=m.rel S.rel
 sepF:=λenv he a q i hi=>S.sepF env he a q _ (m.lt S.rel i (m.n▸hi))
 big:=S.big
noncomputable def ka(O:Nat→Nat→Prop)(r0 r:ax AV):Prop:=ax.rec (λa0=>∃a,r = .ok a∧aR O a0 a) (λc=>r = .exc c) r0
theorem ka.ok{O:Nat→Nat→Prop}{a0:AV}(s:aR O a0 a):ka O (.ok a0) (.ok a):=⟨a,rfl,s⟩
noncomputable def PW{γ:Type}(Q:(Nat→Nat→Prop)→ax γ→ax γ→Prop)(n0:Nat)(σ0 σ:ac)(e:Nat→Nat)(outs:List (ax γ×ac))(r0:ax γ)(σ0':ac):Prop:=∃r ch js nw,(r,pushes nw (bG e ch σ))∈outs∧Q (On n0 σ.n e js) r0 r∧wO n0 σ0 σ σ0' e ch js nw
noncomputable def jD{γ:Type}(Q:(Nat→Nat→Prop)→ax γ→ax γ→Prop)(n0:Nat)(σ0 σ:ac)(e:Nat→Nat)(outs0 outs:List (ax γ×ac)):Prop:=∀r0 σ0',(r0,σ0')∈outs0→(∀p∈σ.f,p)→(∀p∈σ0'.f,p)→PW Q n0 σ0 σ e outs r0 σ0'
theorem aR.down{a0:AV}(s:aR (Em n0 e) a0 a)(m:fc n0 σ0 σ e)(R:bB w h β σ){v:Value}(r:ak h β σ.n a v):ak h (λj=>β (e j)) σ0.n a0 v:=m.n.symm▸s.1 _ _ _ _ _ (m.lk R) (m.ho R) v r
theorem bj.down{a0 a:List AV}(s:bj (Em n0 e) a0 a)(m:fc n0 σ0 σ e)(R:bB w h β σ){v:List Value}(r:ValsR h β σ.n a v):ValsR h (λj=>β (e j)) σ0.n a0 v:=m.n.symm▸s.1 _ _ _ _ _ (m.lk R) (m.ho R) v r
theorem aR.up{O:Nat→Nat→Prop}{n1:Nat}{a0:AV}(s:aR O a0 a)(l:Lk O β0' n1 β' n)(ho:Ho B β0' n1 β' n){v:Value}(r:ak B β0' n1 a0 v):ak B β' n a v:=s.2 _ _ _ _ _ l.flip ho v r
theorem am.lift{m:Nat}{f0 f:AV}{vs0 vs:List AV}{outs0 outs:List (ax AV×ac)}(c:am w K m f0 vs0 σ0 outs0)(b:fc n0 σ0 σ e)(hf:aR (Em n0 e) f0 f)(hv:bj (Em n0 e) vs0 vs)(k:jD ka n0 σ0 σ e outs0 outs):am w K m f vs σ outs:=
 ⟨λhA S rf rv P=>c.ok hA (b.sit S) (hf.down b S.rel rf) (hv.down b S.rel rv)
  ⟨λa0 σ0' hm v β0' h' tk' r s=>(k _ _ hm S.rel.fact s.rel.fact).elim λ_ y=>y.elim λch y=>y.elim λjs y=>y.elim λnw y=>(b.lift S.rel (λ_ _=>id) S.sepF s y.2.2).elim λβ' x=>y.2.1.elim λa z=>P.ok a _ (z.1▸y.1) _ β' _ _ (z.2.up x.2.1 x.2.2 r) x.1,
   λc σ0' hm _ β0' h' tk' t=>t.elim λB t=>t.elim λa0 t=>(k _ _ hm S.rel.fact t.1.rel.fact).elim λ_ y=>y.elim λch y=>y.elim λjs y=>y.elim λnw y=>(b.lift S.rel (λ_ _=>id) S.sepF t.1 y.2.2).elim λβ' x=>P.exc c _ (y.2.1▸y.1) _ β' _ _ ⟨B,a0,x.1,t.2⟩⟩⟩
noncomputable abbrev xv(O:Nat→Nat→Prop)(l0 l:ao):Prop:=eK (aR O) l0 l
noncomputable abbrev rQ(O:Nat→Nat→Prop)(l0 l:ao):Prop:=eK (λa a0=>aR O a0 a) l l0
theorem eK.loc{Q:AV→AV→Prop}{n1:Nat}{L:Addr}{l l':ao}(s:eK Q l l')(H:∀a b,Q a b→∀v,ak h β n b v→ak h β' n1 a v)(r:dA h β n L l'):dA h β' n1 L l:=
 r.imp λm r=>⟨r.1,λx a q=>(s x a q).elim λb y=>(r.2 x b y.1).imp λv z=>⟨z.1,H a b y.2 v z.2⟩⟩
noncomputable def NX(O:Nat→Nat→Prop)(l:ao)(r:ax (Fl×ao))(f:Fl):Prop:=Fl.rec (r = .ok (.next,l)) (λa0=>∃a,r = .ok (.ret a,l)∧aR O a0 a) f
theorem MK{C:Fl×ao→Prop}(p:Fl×ao)(a:∀l,C (.next,l))(b:∀v l,C (.ret v,l)):C p:=Prod.rec (λf l=>Fl.rec (motive:=λf=>C (f,l)) (a l) (λv=>b v l) f) p
noncomputable def qh(O:Nat→Nat→Prop)(r0 r:ax (Fl×ao)):Prop:=ax.rec (λp=>∃l,rQ O p.2 l∧NX O l r p.1) (λc=>r = .exc c) r0
theorem qh.next{O:Nat→Nat→Prop}{l0 l:ao}(s:rQ O l0 l):qh O (.ok (.next,l0)) (.ok (.next,l)):=⟨l,s,rfl⟩
theorem qh.ret{O:Nat→Nat→Prop}{l0 l:ao}{a0:AV}(q:aR O a0 a)(s:rQ O l0 l):qh O (.ok (.ret a0,l0)) (.ok (.ret a,l)):=⟨l,s,a,rfl,q⟩
theorem aD.lift{m:Nat}{ev0 ev:Ev}{bd:List MS}{outs0 outs:List (ax (Fl×ao)×ac)}(c:aD w K m ev0 bd σ0 outs0)(b:fc n0 σ0 σ e)(h1:ev0.fn=ev.fn)(h2:ev0.sc=ev.sc)(h3:xv (Em n0 e) ev0.loc ev.loc)(h4:eK (Em n0 e) ev0.cel ev.cel)(k:jD qh n0 σ0 σ e outs0 outs):aD w K m ev bd σ outs:=
 ⟨λ{A frs env h β os tk E Q} hA S hE P=>
  have hX:∀i,i<σ.n→¬At env.locals (β i):=λi hi z=>S.sepL i hi z
  c.ok (β:=λj=>β (e j)) hA { toSit:=b.sit S.toSit,eok:=h1▸h2▸S.eok,loc:=h3.loc (λ_ _ q _ r=>q.down b S.rel r) S.loc,sepL:=λi hi=>S.sepL _ (b.lt S.rel i (b.n▸hi)),loL:=S.loL,cel:=b.n.symm▸h4.cel (b.lk S.rel) S.cel,hd:=S.hd } hE
  ⟨λp σ0' hm v β0' h' tk' r s=>(k _ _ hm S.rel.fact s.rel.fact).elim λq y=>y.elim λch y=>y.elim λjs y=>y.elim λnw y=>(b.lift S.rel hX S.sepF s y.2.2).elim λβ' x=>y.2.1.elim λl1 rs=>
   have L:=rs.1.loc (λ_ _ z _ r=>z.up x.2.1 x.2.2 r) r.1
   MK (C:=λp=>gG env.locals h' β0' σ0'.n p v→NX (On n0 σ.n e js) l1 q p.1→Q v ⟨h',g,d,tk',os⟩) p (λl0 r rs=>P.ok (.next,l1) _ (rs▸y.1) _ β' _ _ ⟨L,r.2⟩ x.1)
    (λa0 l0 r rs=>rs.elim λa z=>r.2.elim λf y2=>P.ok (.ret a,l1) _ (z.1▸y.1) _ β' _ _ ⟨L,f,y2.1,z.2.up x.2.1 x.2.2 y2.2⟩ x.1) r rs.2,
   λc σ0' hm _ β0' h' tk' t=>t.elim λB t=>t.elim λa0 t=>(k _ _ hm S.rel.fact t.1.rel.fact).elim λ_ y=>y.elim λch y=>y.elim λjs y=>y.elim λnw y=>(b.lift S.rel hX S.sepF t.1 y.2.2).elim λβ' x=>P.exc c _ (y.2.1▸y.1) _ β' _ _ ⟨B,a0,x.1,t.2⟩⟩⟩
theorem jD.one{γ:Type}{Q:(Nat→Nat→Prop)→ax γ→ax γ→Prop}{r0 r:ax γ}(q:Q (On n0 σ.n e js) r0 r)(u:wO n0 σ0 σ σ0' e ch js nw):jD Q n0 σ0 σ e [(r0,σ0')] [(r,pushes nw (bG e ch σ))]:=λ_ _ hm _ _=>by
 injection List.mem_singleton.mp hm with h1 h2
 subst h1 h2
 exact⟨r,ch,js,nw, .head _,q,u⟩
end
section
variable {ev:Ev}{h B:Heap}{σ1':ac}{o o':ai}
noncomputable def cf(w:World)(o o':ai):Prop:=(Mine.hot (some o')=true→Mine.hot (some o)=true)∧∀h β n a,bz w h β n o a→bz w h β n o' a
structure Re(w:World)(σ σ':ac):Prop where
 n:σ'.n=σ.n
 f:σ'.f=σ.f
 g:∀i o',σ'.get i=some o'→∃o,σ.get i=some o∧cf w o o'
theorem Re.hot(r:Re w σ σ')(i:Nat)(q:Mine.hot (σ'.get i)=true):Mine.hot (σ.get i)=true:=(mO q).elim λo' y=>(r.g i o' y).elim λo z=>(cA0 Mine.hot z.1).trans (z.2.1 ((cA0 Mine.hot y).symm.trans q))
theorem Re.rel(r:Re w σ σ')(h:Heap)(β:Nat→Addr)(R:bB w h β σ):bB w h β σ':=
 { obj:=λi o' y=>(r.g i o' y).elim λo z=>r.n▸⟨(R.obj i o z.1).1,z.2.2 _ _ _ _ (R.obj i o z.1).2⟩,lo:=r.n▸R.lo,live:=r.n▸R.live,inj:=r.n▸R.inj,fact:=r.f▸R.fact }
theorem cf.rfl:cf w o o:=⟨id,λ_ _ _ _=>id⟩
theorem Re.rfl:Re w σ σ:=⟨Eq.refl _,Eq.refl _,λ_ o y=>⟨o,y, .rfl⟩⟩
theorem Re.eqv(n:σ'.n=σ.n)(f:σ'.f=σ.f)(g:∀i,σ'.get i=σ.get i):Re w σ σ':=⟨n,f,λi o' y=>⟨o',(g i).symm.trans y, .rfl⟩⟩
theorem gb(σ:ac)(i j:Nat)(o:ai):(σ.set i o).get j=if i=j then some o else σ.get j:=by
 by_cases z:i=j
 ·rw[if_pos z,←z,ac.get_set_self]
 ·rw[if_neg z,ac.get_set_ne _ _ _ z]
theorem Re.set(q:σ.get i=some o)(t:cf w o o'):Re w σ (σ.set i o'):=⟨Eq.refl _,Eq.refl _,λj x y=>by
 rw[gb] at y
 by_cases z:i=j
 ·rw[if_pos z] at y; exact⟨o,z▸q,sI y▸t⟩
 ·rw[if_neg z] at y; exact⟨x,y, .rfl⟩⟩
theorem kn(σ:ac)(o:ai)(j:Nat):(σ.push o).get j=if σ.n=j then some o else σ.get j:=by
 by_cases z:σ.n=j
 ·rw[if_pos z,←z,ac.get_push_self]
 ·rw[if_neg z,ac.get_push_ne _ _ z]
theorem Re.push(r:Re w σ σ')(t:cf w o o'):Re w (σ.push o) (σ'.push o'):=⟨cA0 Nat.succ r.n,r.f,λj x y=>by
 rw[kn,r.n] at y
 rw[kn]
 by_cases z:σ.n=j
 ·rw[if_pos z] at y ⊢; exact⟨o,Eq.refl _,sI y▸t⟩
 ·rw[if_neg z] at y ⊢; exact r.g j x y⟩
theorem Re.twice{a b:ai}:Re w ((σ.set i a).set i b) (σ.set i b):= .eqv (Eq.refl _) (Eq.refl _) λj=>by
 rw[gb,gb,gb]
 by_cases z:i=j
 ·rw[if_pos z,if_pos z]
 ·rw[if_neg z,if_neg z,if_neg z]
theorem cf.trans{o2:ai}(a:cf w o o')(b:cf w o' o2):cf w o o2:=⟨λz=>a.1 (b.1 z),λh β n c r=>b.2 h β n c (a.2 h β n c r)⟩
theorem Re.trans(a:Re w σ σ1)(b:Re w σ1 σ2):Re w σ σ2:=⟨b.n.trans a.n,b.f.trans a.f,λi o y=>(b.g i o y).elim λo1 y1=>(a.g i o1 y1.1).imp λ_ z=>⟨z.1,z.2.trans y1.2⟩⟩
theorem aT.re(hh:∀i,hot (σ1.get i)=true→hot (σ.get i)=true)(n:σ1.n=σ.n)(c:Re w σ1' σ')(s:aT w X frs h B h' β β' σ1 σ1'):aT w X frs h B h' β β' σ σ' where
 size:=s.size
 keep:=λa o e x hi=>s.keep a o e x λj z=>hi j (hh j z)
 slots:=s.slots
 tups:=n▸s.tups
 tabs:=s.tabs
 n:=c.n▸n▸s.n
 agree:=n▸s.agree
 fresh:=c.n▸n▸s.fresh
 nores:=λj hj z=>hh j (s.nores j (n.symm▸hj) (c.hot j z))
 rel:=c.rel _ _ s.rel
 tab:=s.tab
 hi:=c.n▸s.hi
noncomputable def eS{α:Type}(w:World)(outs1 outs:List (ax α×ac)):Prop:=∀r σ1',(r,σ1')∈outs1→∃σ',(r,σ')∈outs∧Re w σ1' σ'
theorem eS.rfl{α:Type}{outs:List (ax α×ac)}:eS w outs outs:=λ_ σ m=>⟨σ,m, .rfl⟩
theorem eS.mem{α:Type}{r:ax α}{outs:List (ax α×ac)}(c:Re w σ σ')(m:(r,σ')∈outs):eS w [(r,σ)] outs:=λ_ _ hm=>by
 injection List.mem_singleton.mp hm with h1 h2
 subst h1 h2
 exact⟨σ',m,c⟩
theorem eS.one{α:Type}{r:ax α}(c:Re w σ σ'):eS w [(r,σ)] [(r,σ')]:= .mem c (.head _)
theorem Post.re{α γ:Type}{outs outs1:List (ax α×ac)}{R:co α γ}{Q:γ→Shared→Prop}(hh:∀i,hot (σ1.get i)=true→hot (σ.get i)=true)(n:σ1.n=σ.n)(k:eS w outs1 outs)(P:Post w os X frs h β σ outs R Q E):Post w os X frs h β σ1 outs1 R Q E where
 ok:=λa σ1' hm v β' h' tk r s=>(k _ _ hm).elim λσ' y=>P.ok a σ' y.1 v β' h' tk (y.2.n▸r) (aT.re hh n y.2 s)
 exc:=λc σ1' hm e β' h' tk t=>(k _ _ hm).elim λσ' y=>P.exc c σ' y.1 e β' h' tk (t.imp λ_ t=>t.imp λ_ t=>⟨t.1.re hh n y.2,t.2⟩)
theorem am.tokR{m c:Nat}{f:AV}{vs:List AV}{x:AV}(hx:bu k c=some x)(q:am w K m f vs σ [(.ok x,σ')]):am w K m f vs σ [(.ok (.tok k c),σ')]:=
 ⟨λhA S rf rv P=>q.ok hA S rf rv ⟨λa σ1 hm v β1 h1 tk r s=>by
  injection List.mem_singleton.mp hm with e1 e2
  injection e1 with e1
  subst e1 e2
  exact P.ok _ _ (.head _) v β1 h1 tk (.tok hx r) s,λc σ1 hm=>nomatch List.mem_singleton.mp hm⟩⟩
theorem cf.list{l l':List AV}(H:∀h β n v,ValsR h β n l v→ValsR h β n l' v):cf w (.list l) (.list l'):=⟨id,λh β n a r=>r.imp λ_ r=>r.imp λ_ r=>⟨r.1,H h β n _ r.2⟩⟩
theorem cf.otok{l:List AV}{m rs:List Nat}(e:otokL k m rs=l):cf w (.list l) (.otok k m rs):=⟨id,λh β n a r=>r.imp λ_ r=>r.imp λ_ r=>⟨r.1,e▸r.2⟩⟩
noncomputable def gT(a b:AV):Prop:=∀h β n v,ak h β n a v→ak h β n b v
theorem cf.head{l:List AV}(H:gT a b):cf w (.list (a::l)) (.list (b::l)):= .list λh β n v r=>r.consE λu us h1 h2=> .cons (H h β n u h1) h2
theorem aR.imp(s:aR (λ_ _=>False) a b):gT a b:=λh β n v=>s.2 h β β n n (λ_ _ z=>z.elim) (λ_ _ _ _ z=>z) v
theorem am.re{m:Nat}{f:AV}{vs:List AV}{outs:List (ax AV×ac)}(k:∀h β,bB w h β σ→∃σ1 outs1,σ1.n=σ.n∧(∀i,hot (σ1.get i)=true→hot (σ.get i)=true)∧bB w h β σ1∧am w K m f vs σ1 outs1∧eS w outs1 outs):am w K m f vs σ outs:=
 ⟨λhA S rf rv P=>(k _ _ S.rel).elim λσ1 y=>y.elim λouts1 y=>y.2.2.2.1.ok hA { S with rel:=y.2.2.1,sepF:=y.1▸S.sepF } (y.1▸rf) (y.1▸rv) (P.re y.2.1 y.1 y.2.2.2.2)⟩
theorem aD.re{m:Nat}{b:List MS}{outs:List (ax (Fl×ao)×ac)}(k:∀h β,bB w h β σ→∃σ1 outs1,σ1.n=σ.n∧(∀i,hot (σ1.get i)=true→hot (σ.get i)=true)∧bB w h β σ1∧aD w K m ev b σ1 outs1∧eS w outs1 outs):aD w K m ev b σ outs:=
 ⟨λhA S hE P=>(k _ _ S.rel).elim λσ1 y=>y.elim λouts1 y=>y.2.2.2.1.ok hA { S with rel:=y.2.2.1,sepF:=y.1▸S.sepF,loc:=y.1▸S.loc,sepL:=y.1▸S.sepL,cel:=y.1▸S.cel } hE (P.re y.2.1 y.1 y.2.2.2.2)⟩
theorem am.conv{m:Nat}{f:AV}{vs:List AV}{outs outs1:List (ax AV×ac)}(c:am w K m f vs σ outs1)(k:eS w outs1 outs):am w K m f vs σ outs:= .re λ_ _ R=>⟨σ,outs1,Eq.refl _,λ_=>id,R,c,k⟩
theorem aD.conv{m:Nat}{b:List MS}{outs outs1:List (ax (Fl×ao)×ac)}(c:aD w K m ev b σ outs1)(k:eS w outs1 outs):aD w K m ev b σ outs:= .re λ_ _ R=>⟨σ,outs1,Eq.refl _,λ_=>id,R,c,k⟩
theorem yR(R:bB w h β σ){l:List Dr}(q:σ.get i=some (.tr l)){C:Prop}(k:∀x y,(0≤x∧Builtin.Int.intBits x≤1100000∧0≤y∧y<2147483647)→df l (x,y)→(∀o',bz w h β σ.n o' (β i)→bB w h β (σ.set i o'))→(∀l1,df l1 (x,y)→bz w h β σ.n (.tr l1) (β i))→bz w h β σ.n (.list [.int x, .int y]) (β i)→C):C:=
 (R.obj i _ q).2.elim λx z=>z.elim λy z=>z.elim λt z=>z.elim λu z=>z.elim λep z=>k x y z.2.1 z.2.2 (λ_ H=>R.swap q λ_=>H) (λ_ a=>⟨x,y,t,u,ep,z.1,z.2.1,a⟩) ⟨[.int x t, .int y u],ep,z.1, .cons (.int _ _) (.cons (.int _ _) .nil)⟩
theorem p7(q:σ.get i=some o)(t:hot (some o)=true)(j:Nat)(z:hot ((σ.set i o').get j)=true):hot (σ.get j)=true:=by
 rw[gb] at z
 by_cases y:i=j
 ·exact y▸(cA0 hot q).trans t
 ·rw[if_neg y] at z; exact z
theorem am.tau{m:Nat}{l:List Dr}{f:AV}{vs:List AV}{outs:List (ax AV×ac)}(q:σ.get i=some (.tr l))(k:∀s,df l s→∃l1,df l1 s∧am w K m f vs (σ.set i (.tr l1)) outs):am w K m f vs σ outs:=
 .re λ_ _ R=>yR R q λx y _ a s t _=>(k _ a).elim λl1 z=>⟨σ.set i (.tr l1),_,Eq.refl _,p7 q (Eq.refl _),s _ (t l1 z.1),z.2, .rfl⟩
theorem aD.tau{m:Nat}{l:List Dr}{b:List MS}{outs:List (ax (Fl×ao)×ac)}(q:σ.get i=some (.tr l))(k:∀s,df l s→∃l1,df l1 s∧aD w K m ev b (σ.set i (.tr l1)) outs):aD w K m ev b σ outs:=
 .re λ_ _ R=>yR R q λx y _ a s t _=>(k _ a).elim λl1 z=>⟨σ.set i (.tr l1),_,Eq.refl _,p7 q (Eq.refl _),s _ (t l1 z.1),z.2, .rfl⟩
noncomputable abbrev BH(x y:Int):Prop:=0≤x∧Builtin.Int.intBits x≤1100000∧0≤y∧y<2147483647
theorem am.opened{m:Nat}{l:List Dr}{f:AV}{vs:List AV}{outs:List (ax AV×ac)}(q:σ.get i=some (.tr l))(k:∀x y,BH x y→df l (x,y)→∃outs1,am w K m f vs (σ.set i (.list [.int x, .int y])) outs1∧eS w outs1 outs):am w K m f vs σ outs:=
 .re λ_ _ R=>yR R q λx y b a s _ t=>(k x y b a).elim λo1 z=>⟨σ.set i (.list [.int x, .int y]),o1,Eq.refl _,p7 q (Eq.refl _),s _ t,z.1,z.2⟩
theorem wZ{x y:Int}{l:List Dr}(b:BH x y)(a:df l (x,y)):cf w (.list [.int x, .int y]) (.tr l):=
 ⟨id,λh β n c r=>r.elim λvs r=>r.elim λep r=>r.2.consE (motive:=λvs=>IsL h c vs.toArray ep→bz w h β n (.tr l) c) (λv1 us1 r1 h2=>h2.consE λv2 us2 r2 h3=>h3.nilE (r1.inv.elim λt1 e1=>r2.inv.elim λt2 e2=>e1▸e2▸λz=>⟨x,y,t1,t2,ep,z,b,a⟩)) r.1⟩
end
noncomputable def au(l:List ai):ac:=pushes l ⟨0, .nil,[]⟩
theorem mT(l:List ai):(au l).n=l.length:=(ja _ _).1.trans (Nat.zero_add _)
theorem Hu(l:List ai):(au l).f=[]:=(ja _ _).2
theorem qQ{l:List ai}{o:ai}(h:(au l).get i=some o):l[i]?=some o:=(oG h).elim (λz=>al (show T.nil.get i=some o from z)) λy=>y.elim λk y=>y.1▸(Nat.zero_add k).symm▸y.2
noncomputable def bR:Sp:=λ_ _ _=>none
noncomputable def aJ:Ss:=λ_ _ _=>none
noncomputable def lg(p:Nat→Bool)(a:AV):Bool:=AV.rec (motive_1:=λ_=>Bool) (motive_2:=λ_=>Bool) true (λ_=>true) (λ_=>true) (λ_=>true) (λ_=>true) (λ_ ih=>ih) p (λ_=>true) (λ_=>true) (λ_ _=>true) true (λ_ _ a b=>a&&b) a
noncomputable def iQ(e:Nat→Nat)(a:AV):AV:=AV.rec (motive_1:=λ_=>AV) (motive_2:=λ_=>List AV) .none .bool .int .str .txt (λ_ ih=> .tup ih) (λi=> .obj (e i)) .g .b .tok [] (λ_ _ a b=>a::b) a
noncomputable def Og(p:Nat→Bool)(l:List AV):Bool:=l.all (lg p)
noncomputable def Iz(e:Nat→Nat)(l:List AV):List AV:=l.map (iQ e)
noncomputable def jq(p:Nat→Bool):ai→Bool
 | .list l=>Og p l
 | .dict l=>l.all λq=>lg p q.2
 | .fro l=>l.all λq=>lg p q.2
 | .inst _ d=>p d
 | .cell v=>Option.rec true (lg p) v
 | .lam _ _ _ cl=>cl.all λq=>p q.2
 | .fn _ _ _ _ cl=>cl.all λq=>p q.2
 | .vals d=>p d
 | .otok _ _ rs=>rs.all p
 |_=>true
noncomputable def cK(e:Nat→Nat)(o:ai):ai:=match o with
 | .list l=> .list (Iz e l)
 | .dict l=> .dict (l.map λq=>(q.1,iQ e q.2))
 | .fro l=> .fro (l.map λq=>(q.1,iQ e q.2))
 | .inst C d=> .inst C (e d)
 | .cell v=> .cell (v.map (iQ e))
 | .lam ps b sc cl=> .lam ps b sc (cl.map λq=>(q.1,e q.2))
 | .fn x ps b sc cl=> .fn x ps b sc (cl.map λq=>(q.1,e q.2))
 | .vals d=> .vals (e d)
 | .otok k l rs=> .otok k l (rs.map e)
 |o=>o
section
variable {p:Nat→Bool}{e:Nat→Nat}{O:Nat→Nat→Prop}(H:∀j,p j=true→O j (e j))
include H
theorem aR.ren(a:AV):lg p a=true→aR O a (iQ e a):=
 AV.rec (motive_1:=λa=>lg p a=true→aR O a (iQ e a)) (motive_2:=λl=>AV.rec_1 (motive_1:=λ_=>Bool) (motive_2:=λ_=>Bool) true (λ_=>true) (λ_=>true) (λ_=>true) (λ_=>true) (λ_ ih=>ih) p (λ_=>true) (λ_=>true) (λ_ _=>true) true (λ_ _ a b=>a&&b) l=true→
   bj O l (AV.rec_1 (motive_1:=λ_=>AV) (motive_2:=λ_=>List AV) .none .bool .int .str .txt (λ_ ih=> .tup ih) (λi=> .obj (e i)) .g .b .tok [] (λ_ _ a b=>a::b) l))
  (λ_=> .none) (λb _=> .bool b) (λi _=> .int i) (λk _=> .str k) (λm _=> .refl rfl) (λ_ ih z=> .tup (ih z)) (λi z=> .obj i (H i z)) (λa _=> .g a) (λk _=> .refl rfl) (λk c _=> .tok k c) (λ_=> .nil) (λ_ _ a b z=>aw z λz1 z2=> .cons (a z1) (b z2)) a
theorem bj.ren(l:List AV):Og p l=true→bj O l (Iz e l):=List.rec (λ_=> .nil) (λa l ih z=>aw z λz1 z2=> .cons (aR.ren H a z1) (ih z2)) l
theorem gv.ren(l:List (AV×AV)):(l.all λq=>lg p q.2)=true→gv O l (l.map λq=>(q.1,iQ e q.2)):=List.rec (λ_=> .nil) (λa l ih z=>aw z λz1 z2=>gv.cons (k:=a.1) (aR.ren H a.2 z1) (ih z2)) l
theorem fy.ren(l:List (Nat×Nat)):(l.all λq=>p q.2)=true→fy O l (l.map λq=>(q.1,e q.2)):=List.rec (λ_=> .nil) (λa l ih z=>aw z λz1 z2=>fy.cons (x:=a.1) (H a.2 z1) (ih z2)) l
end
theorem bj.map{α:Type}{O:Nat→Nat→Prop}{f g:α→AV}(h:∀x,aR O (f x) (g x))(l:List α):bj O (l.map f) (l.map g):=List.rec .nil (λ_ _ ih=> .cons (h _) ih) l
theorem bj.strs{O:Nat→Nat→Prop}(l:List Nat):bj O (l.map .str) (l.map .str):= .map .str l
theorem bj.toks{O:Nat→Nat→Prop}(k:Nat)(l:List Nat):bj O (l.map (.tok k)) (l.map (.tok k)):= .map (.tok k) l
theorem bj.refl{O:Nat→Nat→Prop}(l:List AV):closeds l=true→bj O l l:=List.rec (λ_=> .nil) (λ_ _ ih z=>aw z λz1 z2=> .cons (.refl z1) (ih z2)) l
theorem HH(e:Nat→Nat)(l rs:List Nat):de l (rs.map e)=de l rs:=by
 induction l generalizing rs with
 |nil=>rfl
 |cons a l ih=>cases rs with
  |nil=>rfl
  |cons r rs=>exact cA0 (a::·) (ih rs)
section
variable {p:Nat→Bool}{e:Nat→Nat}{O:Nat→Nat→Prop}(H:∀j,p j=true→O j (e j))
include H
theorem aR.pth{r:Nat}(z:p r=true):aR O (.tup [.txt 80, .str 13, .obj r]) (.tup [.txt 80, .str 13, .obj (e r)]):= .tup (.cons (.refl rfl) (.cons (.str _) (.cons (.obj r (H r z)) .nil)))
theorem bj.two9(t:Nat)(rs:List Nat)(z:rs.all p=true):bj O (otokL 9 [t] rs) (otokL 9 [t] (rs.map e)):=match rs,z with
 |[a,b],z=>aw z λz1 z2=>aw z2 λz2 _=>Nat.rec (.cons (.pth H z1) .nil) (λ_ _=> .cons (.pth H z1) (.cons (.pth H z2) .nil)) t
 |[],_=> .nil
 |[_],_=> .nil
 |_::_::_::_,_=> .nil
theorem bj.otk(k:Nat)(l rs:List Nat)(z:rs.all p=true):bj O (otokL k l rs) (otokL k l (rs.map e)):=match k with
 |0=> .map (λc=> .tup (.cons (.refl rfl) (.cons (.tok 0 c) .nil))) _
 |1=>List.rec (motive:=λrs=>rs.all p=true→bj O (otokL 1 l rs) (otokL 1 l (rs.map e))) (λ_=> .nil) (λ_ _ ih z=>aw z λz1 z2=> .cons (.pth H z1) (ih z2)) rs z
 |2=> .toks 0 l
 |3=> .strs l
 |4=> .map (λ_=> .refl rfl) l
 |5=> .toks 6 l
 |6=> .toks 1 l
 |7=> .toks 2 l
 |8=>by show bj O ((de l rs).map .str) ((de l (rs.map e)).map .str); rw[HH]; exact .strs _
 |9=>match l with
  |[]=> .nil
  |t::_=>two9 H t rs z
 |_+10=> .nil
theorem bg.ren{o:ai}(z:jq p o=true):bg O o (cK e o):=match o,z with
 | .list l,z=> .list (.ren H l z)
 | .dict l,z=> .dict (.ren H l z)
 | .fro l,z=> .fro (.ren H l z)
 | .inst C d,z=> .inst C d (H d z)
 | .cell none,_=> .cell0
 | .cell (some v),z=> .cell (.ren H v z)
 | .lam _ _ _ cl,z=> .lam (.ren H cl z)
 | .fn _ _ _ _ cl,z=> .fn (.ren H cl z)
 | .vals d,z=> .vals d (H d z)
 | .otok k l rs,z=> .otok (.otk H k l rs z)
 | .own,_=> .own
 | .tr l,_=> .tr l
end
noncomputable def aX(is:List Nat)(k:Nat):Nat:=(is[k]?).getD 0
theorem ly{is:List Nat}(h:is[k]?=some i):aX is k=i:=cA0 (·.getD 0) h
noncomputable def nr:Option ai→Bool
 |none=>false
 |some o=>match o with
  | .own=>false
  |_=>true
noncomputable def aK(σ:ac)(is:List Nat):Bool:=(ah σ.n).all λi=>aB i is||nr (σ.get i)
noncomputable def ce(σ:ac)(n:Nat)(e:Nat→Nat):List Nat→List ai→Prop
 |[],[]=>True
 |i::is,o0::l=>(∃o,σ.get i=some o∧bg (Em n e) o0 o)∧ce σ n e is l
 |_,_=>False
section
variable {e:Nat→Nat}
theorem ce.at{is:List Nat}{l:List ai}(a:ce σ n e is l){k:Nat}{o0:ai}(h:l[k]?=some o0):∃i o,is[k]?=some i∧σ.get i=some o∧bg (Em n e) o0 o:=by
 induction l generalizing is k with
 |nil=>exact al h
 |cons x l ih=>cases is with
  |nil=>exact a.elim
  |cons i is=>cases k with
   |zero=>exact a.1.elim λo y=>⟨i,o,rfl,sI h▸y⟩
   |succ k=>exact ih a.2 h
theorem ce.len{is:List Nat}{l:List ai}(a:ce σ n e is l):is.length=l.length:=by
 induction l generalizing is with
 |nil=>cases is with
  |nil=>rfl
  |cons=>exact a.elim
 |cons x l ih=>cases is with
  |nil=>exact a.elim
  |cons i is=>exact cA0 Nat.succ (ih a.2)
theorem ce.ren{is:List Nat}{l:List ai}(g:is.map σ.get=(l.map (cK e)).map some)(z:l.all (jq λj=>Nat.blt j n)=true):ce σ n e is l:=by
 induction l generalizing is with
 |nil=>cases is with
  |nil=>trivial
  |cons=>exact nomatch g
 |cons x l ih=>cases is with
  |nil=>exact nomatch g
  |cons i is=>exact aw z λz1 z2=>⟨⟨_,(List.cons.inj g).1, .ren (λj h=>⟨h,rfl⟩) z1⟩,ih (List.cons.inj g).2 z2⟩
theorem GG{o:Option ai}(h:nr o=true):∃x,o=some x∧x≠ .own:=Option.rec (motive:=λo=>nr o=true→∃x,o=some x∧x≠ .own) aV (λx h=>⟨x,rfl,λz=>by subst z; exact aV h⟩) o h
theorem kI{is:List Nat}(h:aK σ is=true)(hi:i<σ.n):i∈is∨nr (σ.get i)=true:=(Bool.or_eq_true_iff.mp (List.all_eq_true.mp h i (mR0 hi))).imp nF id
theorem gA{is:List Nat}{o:ai}(ho:nr (some o)=true)(h:aK σ is=true):aK (σ.set i o) is=true:=List.all_eq_true.mpr λj hj=>Bool.or_eq_true_iff.mpr ((kI h (List.mem_range.mp hj)).imp qw λz=>by
 rw[gb]
 by_cases y:i=j
 ·rw[if_pos y]; exact ho
 ·rw[if_neg y]; exact z)
theorem fc.of{l:List ai}{is:List Nat}(hn:b8 is=true)(ho:ce σ l.length (aX is) is l)(hr:aK σ is=true):fc l.length (au l) σ (aX is) where
 n:=mT l
 tot:=λj hj=>(ho.at (List.getElem?_eq_getElem hj)).elim λi y=>y.elim λo y=>⟨o,ly y.1▸y.2.1⟩
 inj:=λj k hj hk z=>(ho.at (List.getElem?_eq_getElem hj)).elim λi y=>y.elim λ_ y=>(ho.at (List.getElem?_eq_getElem hk)).elim λi' y'=>y'.elim λ_ y'=>lI hn y.1 (((ly y.1).symm.trans (z.trans (ly y'.1)))▸y'.1)
 obj:=λj o0 h=>⟨(List.getElem?_eq_some_iff.mp (qQ h)).1,(ho.at (qQ h)).elim λi y=>y.elim λo y=>⟨o,ly y.1▸y.2⟩⟩
 rest:=λi hi=>(kI hr hi).imp (λz=>(List.mem_iff_getElem?.mp z).elim λj y=>⟨j,ho.len▸(List.getElem?_eq_some_iff.mp y).1,ly y⟩) GG
 fact:=λ_ _ hp=>absurd (Hu l▸hp) List.not_mem_nil
end
noncomputable def Ly(j:Nat)(l:List Nat):Nat:=List.rec 0 (λx _ ih=>Bool.rec (ih+1) 0 (Nat.beq x j)) l
noncomputable def eN(n0 n:Nat)(e:Nat→Nat)(js:List Nat)(j:Nat):Nat:=Bool.rec (n+Ly j js) (e j) (Nat.blt j n0)
noncomputable def y9(n0:Nat)(js:List Nat)(j:Nat):Bool:=Nat.blt j n0||aB j js
theorem KN{j:Nat}{js:List Nat}(h:j∈js):js[Ly j js]?=some j:=by
 induction js with
 |nil=>exact absurd h List.not_mem_nil
 |cons x l ih=>
  show(x::l)[(Bool.rec (Ly j l+1) 0 (Nat.beq x j):Nat)]?=some j
  cases z:Nat.beq x j with
  |true=>exact cA0 some (eB0 z)
  |false=>exact ih ((List.mem_cons.mp h).resolve_left λy=>Bool.noConfusion (z.symm.trans (y▸Nat.beq_refl j:Nat.beq x j=true)))
theorem xB{n0 j:Nat}{e:Nat→Nat}{js:List Nat}(h:y9 n0 js j=true):On n0 n e js j (eN n0 n e js j):=by
 unfold y9 at h
 unfold eN
 cases z:Nat.blt j n0 with
 |true=>exact .inl ⟨z,rfl⟩
 |false=>rw[z] at h; exact .inr ⟨_,KN (nF h),rfl⟩
noncomputable def sk(n0:Nat)(js:List Nat)(E:Nat→Nat)(σ:ac)(j:Nat):Option ai:=ob (σ.get j) λo=>gd (jq (y9 n0 js) o) (some (cK E o))
theorem wk{n0 j:Nat}{js:List Nat}{e:Nat→Nat}{o:ai}(h:sk n0 js (eN n0 n e js) σ j=some o):∃o0,σ.get j=some o0∧bg (On n0 n e js) o0 o:=
 aa h λo0 q h=>ay h λz h=>⟨o0,q,sI h▸ .ren (λ_=>xB) z⟩
noncomputable abbrev eJ:=List (Option ai)×List (Option ai)×List (Option ai)
noncomputable def mv(n0 n:Nat)(e:Nat→Nat)(js cs:List Nat)(σ:ac):Option eJ:=
 gd (Nat.ble n0 σ.n&&(js.all (λj=>Nat.ble n0 j&&Nat.blt j σ.n)&&(b8 js&&cs.all (λj=>Nat.blt j n0))))
  (some (js.map (sk n0 js (eN n0 n e js) σ),cs.map (sk n0 js (eN n0 n e js) σ),(ah n0).map λj=>Bool.rec (σ.get j) none (aB j cs)))
noncomputable def aG(n0:Nat)(σ0:ac)(ch:List (Nat×ai))(nw:List ai):eJ:=(nw.map some,ch.map (λq=>some q.2),(ah n0).map λj=>Bool.rec (σ0.get j) none (aB j (ch.map (·.1))))
theorem az{α β:Type}{f g:α→β}{l:List α}(h:l.map f=l.map g){a:α}(ha:a∈l):f a=g a:=List.map_inj_left.mp h a ha
section
variable {n0:Nat}{σ0:ac}{e:Nat→Nat}{ch:List (Nat×ai)}{js:List Nat}{nw:List ai}
theorem u9(h:mv n0 σ.n e js (ch.map (·.1)) σ'=some (aG n0 σ0 ch nw)):wO n0 σ0 σ σ' e ch js nw:=
 ay h λq h=>aw q λq1 q=>aw q λq2 q=>aw q λq3 q4=>
  have h:=sI h
  have h1:=cA0 (·.1) h
  have h2:=cA0 (·.2.1) h
  have h3:=cA0 (·.2.2) h
  {
   n:=lB0 q1
   same:=λj hj z=>by
    have y:=az h3 (mR0 hj)
    rw[z] at y
    exact y
   ch:=λq hq=>⟨dN (List.all_eq_true.mp q4 _ (List.mem_map_of_mem hq)),wk (az (f:=λq=>sk n0 js (eN n0 σ.n e js) σ' q.1) (g:=λq=>some q.2) ((List.map_map (g:=sk n0 js (eN n0 σ.n e js) σ') (f:=λx:Nat×ai=>x.1)).symm.trans h2) hq)⟩
   bd:=λj hj=>aw (List.all_eq_true.mp q2 j hj) λa b=>⟨lB0 a,dN b⟩
   new:=λk o ho=>by
    have y:=(List.getElem?_map.symm.trans (cA0 (·[k]?) h1)).trans List.getElem?_map
    rw[ho] at y
    cases z:js[k]? with
    |none=>rw[z] at y; exact al y
    |some j=>rw[z] at y; exact(wk (sI y)).elim λo0 y=>⟨j,o0,rfl,y⟩
   len:=(List.length_map _).symm.trans ((cA0 List.length h1).trans (List.length_map _))
   ap:=q3 }
noncomputable def cv(n0 n:Nat)(e:Nat→Nat)(sel:ax AV→ac→List Nat)(cs:List Nat)(outs:aj AV):Option (ax AV×eJ):=ob outs λl=>ob (one l) λp=>ob (mv n0 n e (sel p.1 p.2) cs p.2) λy=>
 ax.rec (λa=>gd (lg (y9 n0 (sel p.1 p.2)) a) (some (.ok (iQ (eN n0 n e (sel p.1 p.2)) a),y))) (λc=>some (.exc c,y)) p.1
theorem EB{sel:ax AV→ac→List Nat}{outs:aj AV}{r:ax AV}(h:cv n0 σ.n e sel (ch.map (·.1)) outs=some (r,aG n0 σ0 ch nw)):∃l,outs=some l∧jD ka n0 σ0 σ e l [(r,pushes nw (bG e ch σ))]:=
 aa h λl q h=>aa h λp q2 h=>aa h λy q3 h=>⟨l,q,cB q2▸by
  obtain⟨r0,σ'⟩:=p
  cases r0 with
  |ok a=>exact ay h λz h=>have x:=Prod.mk.inj (sI h); x.1▸ .one (.ok (.ren (λ_=>xB) _ z)) (u9 (x.2▸q3))
  |exc c=>have x:=Prod.mk.inj (sI h); exact x.1▸ .one (show ka _ _ _ from rfl) (u9 (x.2▸q3))⟩
variable {m:Nat}{l:List ai}{is:List Nat}{f0 f:AV}{vs0 vs:List AV}{r:ax AV}{sel:ax AV→ac→List Nat}
theorem am.see{outs0:List (ax AV×ac)}(c:am w K m f0 vs0 (au l) outs0)(hn:b8 is=true)(ho:ce σ l.length (aX is) is l)(hr:aK σ is=true)(hf:aR (Em l.length (aX is)) f0 f)(hv:bj (Em l.length (aX is)) vs0 vs)
  (h:cv l.length σ.n (aX is) sel (ch.map (·.1)) (some outs0)=some (r,aG l.length (au l) ch nw)):am w K m f vs σ [(r,pushes nw (bG (aX is) ch σ))]:=
 (EB h).elim λ_ y=>c.lift (fc.of hn ho hr) hf hv (sI y.1▸y.2)
theorem am.run{sp:Sp}{ss:Ss}(T:aE K)(dz:DZ w K)(rz:RZ w K)(hp:bK w K m sp)(hs:fT w K m ss)(hn:b8 is=true)(ho:ce σ l.length (aX is) is l)(hr:aK σ is=true)(hf:aR (Em l.length (aX is)) f0 f)(hv:bj (Em l.length (aX is)) vs0 vs)
  (h:cv l.length σ.n (aX is) sel (ch.map (·.1)) ((R tabs sp ss k).c f0 vs0 (au l))=some (r,aG l.length (au l) ch nw)):am w K (m+k) f vs σ [(r,pushes nw (bG (aX is) ch σ))]:=
 (EB h).elim λ_ y=>(am.of T dz rz hp hs y.1).lift (fc.of hn ho hr) hf hv y.2
theorem bf:bK w K m bR:=λ_ _ _ _=>al
theorem aH:fT w K m aJ:=λ_ _ _ _=>al
end
noncomputable def mq(x y:Int):ac:=au [.list [.int x, .int y]]
noncomputable abbrev R0:=R tabs bR aJ
noncomputable def ni(_:ax AV)(_:ac):List Nat:=[]
noncomputable def xj(N i t:Nat)(x y:Int):Option (ax AV×eJ):=cv 1 N (aX [i]) ni [0] ((R0 12).c (.g 374) [.obj 0, .int (.ofNat t)] (mq x y))
noncomputable def yt(x y:Int)(d:Nat)(s:Int×Int):Option (ax AV×eJ):=some (.ok (.int (.ofNat d)),aG 1 (mq x y) [(0, .list [.int s.1, .int s.2])] [])
theorem B4(N i k:Nat)(y:Int):(ah 7).map (λt=>xj N i (t+1) (.ofNat (k+1)) y)=(ah 7).map (λt=>yt (.ofNat (k+1)) y ((k+1) % (t+1)) (.ofNat ((k+1) / (t+1)),y)):=by kernel_rfl
noncomputable def jO(t:Nat):Ev:=⟨373,u5.sc,[(159, .obj 0),(224, .int (.ofNat t))],[]⟩
noncomputable def zM(x z:Int):ac:=(mq x 0).set 0 (.list [.int x, .int z])
noncomputable def zD(z:Int)(t:Nat):Int:=((z * z) % 2147483629 / 32) % (Int.ofNat t)
theorem F4{z:Int}(h:lU z=true):kH .Mult (AV.int z) (AV.int z) σ=af (AV.int (z * z)) σ:=by
 show aO (gd (gB z||lU z) (af (AV.int (z * z)) σ)) _=_
 rw[h,Bool.or_true]
 rfl
theorem mC{α β:Type}{a:α}{f:α→ac→aj β}{l:List (ax β×ac)}(h:f a σ=some l):bind (af a σ) f=some l:=by
 show bindL f [(.ok a,σ)]=_
 rw[kw,h]
theorem rD{ev:Ev}{a b:ME}{p:Pos}{op:Operator}{va vb:AV}{l:List (ax AV×ac)}(h1:(R0 k).e ev a σ=af va σ1)(h2:(R0 k).e ev b σ1=af vb σ2)(h3:kH op va vb σ2=some l):(R0 (k+1)).e ev (.bin op a b p) σ=some l:=by
 show bind ((R0 k).e ev a σ) (λva σ=>bind ((R0 k).e ev b σ) λvb σ=>kH op va vb σ)=_
 rw[h1]
 refine mC ?_
 show bind ((R0 k).e ev b σ1) _=_
 rw[h2]
 exact mC h3
theorem E7{t:Nat}{a:ME}{p1 p2:Pos}{i:Int}(h:(R0 (k+1)).e (jO t) a σ=af (.int i) σ1):(R0 (k+2)).e (jO t) (.call (.name 39 p1) [a] p2) σ=af (.int i) σ1:=by
 show bind (af (.b 2) σ) (λfv σ=>bind (bind ((R0 (k+1)).e (jO t) a σ) λv σ=>bind (af [] σ) λvs σ=>af (v::vs) σ) λvs σ=>gd (ju tabs fv σ) ((R0 (k+1)).c fv vs σ))=_
 refine mC ?_
 rw[h]
 rfl
theorem BP(x z:Int)(h:lU z=true)(t:Nat):(R0 9).s (jO (t+1)) (u5.body.drop 2) (zM x z)=some [(.ok (.ret (.int (zD z (t+1))),(jO (t+1)).loc),zM x z)]:=by
 have h0:=rD (k:=2) (p:=(pz 291 19 40)) (ev:=jO (t+1)) (a:= .sub (.name 159 (pz 291 19 25)) (.int 1 (pz 291 26 27)) (pz 291 19 28)) (b:= .sub (.name 159 (pz 291 31 37)) (.int 1 (pz 291 38 39)) (pz 291 31 40)) (σ:=zM x z) (σ1:=zM x z) (va:= .int z) (vb:= .int z) rfl rfl (F4 h)
 have h2:=rD (p:=(pz 291 15 54)) (b:= .int 2147483629 (pz 291 44 54)) (op:= .Mod) (E7 (p1:=(pz 291 15 18)) (p2:=(pz 291 15 41)) h0) rfl rfl
 have h4:=E7 (p1:=(pz 291 11 14)) (p2:=(pz 291 11 61)) (rD (p:=(pz 291 15 60)) (b:= .int 32 (pz 291 58 60)) (op:= .FloorDiv) h2 rfl rfl)
 have h5:=rD (p:=(pz 291 11 67)) (b:= .name 224 (pz 291 64 67)) (op:= .Mod) h4 rfl rfl
 show bind (bind ((R0 8).e (jO (t+1)) _ (zM x z)) λv σ=>af (Fl.ret v,(jO (t+1)).loc) σ) _=_
 rw[h5]
 rfl
theorem iF{sp:Sp}{ss:Ss}{ev:Ev}{s s2:MS}{l:List MS}{loc:ao}{out:List (ax (Fl×ao)×ac)}(hs:ss ev (s::s2::l) σ=none)(h1:ba tabs (R tabs sp ss k) ev s σ=af (Fl.next,loc) σ1)(h2:(R tabs sp ss k).s { ev with loc:=loc } (s2::l) σ1=some out) :
  (R tabs sp ss (k+1)).s ev (s::s2::l) σ=some out:=by
 show(Option.rec (motive:=λ_=>aj (Fl×ao)) (jm tabs (R tabs sp ss k) ev (s::s2::l) σ) id (ss ev (s::s2::l) σ))=_
 rw[hs]
 show bind (ba tabs (R tabs sp ss k) ev s σ) _=_
 rw[h1]
 exact mC h2
theorem AE(N i m t:Nat):xj N i (t+1) 0 (.ofNat m)=yt 0 (.ofNat m) (((m * 39373+7) % 2147483647 * ((m * 39373+7) % 2147483647)) % 2147483629 / 32 % (t+1)) (0, .ofNat ((m * 39373+7) % 2147483647)):=by
 have hb:lU (.ofNat ((m * 39373+7) % 2147483647))=true:=Nat.ble_eq_true_of_le (lE0 (Nat.le_of_lt (Nat.mod_lt _ (by decide))) (by decide))
 have h2:(R0 11).s (jO (t+1)) u5.body (mq 0 (.ofNat m))=some [(.ok (.ret (.int (zD (.ofNat ((m * 39373+7) % 2147483647)) (t+1))),(jO (t+1)).loc),zM 0 (.ofNat ((m * 39373+7) % 2147483647)))]:=
  iF (σ1:=mq 0 (.ofNat m)) (loc:=(jO (t+1)).loc) rfl (by kernel_rfl) (iF (σ1:=zM 0 (.ofNat ((m * 39373+7) % 2147483647))) (loc:=(jO (t+1)).loc) rfl (by kernel_rfl) (BP 0 _ hb t))
 show cv 1 N (aX [i]) ni [0] (bind ((R0 11).s (jO (t+1)) u5.body (mq 0 (.ofNat m))) (λp σ=>af (cE p) σ))=_
 rw[h2]
 kernel_rfl
theorem Dz{x y:Int}(h:BH x y){t:Nat}(ht:t<7)(N i:Nat):∃d s,bp (x,y) (t+1)=(d,s)∧xj N i (t+1) x y=yt x y d s∧BH s.1 s.2∧d<t+1:=by
 obtain⟨m,rfl⟩:=Int.eq_ofNat_of_zero_le h.2.2.1
 obtain⟨n,rfl⟩:=Int.eq_ofNat_of_zero_le h.1
 cases n with
 |succ k=>exact⟨_,_,if_pos (Int.natCast_succ_pos k),az (B4 N i k m) (mR0 ht),⟨Int.natCast_nonneg _,intBits_le_of_natAbs (y:=((k+1:Nat):Int)) (Nat.div_le_self _ _) h.2.1,h.2.2⟩,Nat.mod_lt _ (Nat.succ_pos t)⟩
 |zero=>exact⟨_,_,if_neg (Int.lt_irrefl 0),AE N i m t,⟨Int.le_refl _,h.2.1,Int.natCast_nonneg _,Int.ofNat_lt.mpr (Nat.mod_lt _ (by decide))⟩,Nat.mod_lt _ (Nat.succ_pos t)⟩
noncomputable def m4(a:Nat)(f:AV):Bool:=Option.rec false (λb=>Nat.beq b a) (gN f)
noncomputable def H1:Option ai→Option (List Dr)
 |some (.tr l)=>some l
 |_=>none
theorem iL{a:Nat}{f:AV}(h:m4 a f=true):f = .g a:=by
 cases f with
 |g b=>exact cA0 AV.g (eB0 h)
 |_=>exact aV h
theorem A7{o:Option ai}{l:List Dr}(h:H1 o=some l):o=some (.tr l):=by
 cases o with
 |none=>exact al h
 |some o=>cases o with
  |tr m=>exact cA0 (λl=>some (ai.tr l)) (sI h)
  |_=>exact al h
noncomputable def nG(i:Nat)(σ:ac):Nat→List (ax AV×ac)
 |0=>[]
 |t+1=>(.ok (.int (.ofNat t)),σ.set i (.tr []))::nG i σ t
noncomputable def MI(t:Nat):Dr→Option Nat
 | .take t' d=>gd (Nat.beq t t') (some d)
 |_=>none
noncomputable def HG(i t:Nat)(σ:ac)(l:List Dr):Option (aj AV):=List.rec (some (some (nG i σ t))) (λd l _=>ob (MI t d) λd=>some (af (.int (.ofNat d)) (σ.set i (.tr l)))) l
noncomputable def LA(a:Nat)(F:Nat→Nat→ac→List Dr→Option (aj AV)):Sp:=λf vs σ=>gd (m4 a f) (ob (fB vs) λp=>ob (oV p.1) λi=>ob (iV p.2) λx=>ob (yK x) λt=>ob (H1 (σ.get i)) λl=>gd (aK σ [i]) (F i t σ l))
theorem zF{a m:Nat}{F:Nat→Nat→ac→List Dr→Option (aj AV)}(h:∀i t σ l outs,σ.get i=some (.tr l)→aK σ [i]=true→F i t σ l=some (some outs)→am w K m (.g a) [.obj i, .int (.ofNat t)] σ outs):bK w K m (LA a F):=λf vs σ outs e=>
 ay e λq e=>aa e λp q1 e=>aa e λi q2 e=>aa e λx q3 e=>aa e λt q4 e=>aa e λl q5 e=>ay e λq6 e=>by
  rw[iL q,dR q1,cP q2,F1 q3,lJ q4]
  exact h i t σ l outs (A7 q5) q6 e
noncomputable def gC:Sp:=LA 374 λi t σ l=>gd (Nat.blt 0 t&&Nat.blt t 8) (HG i t σ l)
theorem uU{t d:Nat}(h:d<t):(ax.ok (.int (.ofNat d)),σ.set i (.tr []))∈nG i σ t:=by
 induction t with
 |zero=>exact absurd h (Nat.not_lt_zero _)
 |succ t ih=>exact(Nat.lt_succ_iff_lt_or_eq.mp h).elim (λz=> .tail _ (ih z)) λz=>z▸ .head _
theorem Aq(T:aE K)(dz:DZ w K)(rz:RZ w K){t:Nat}{l:List Dr}{outs:List (ax AV×ac)}(hi:σ.get i=some (.tr l))(h1:t<7)(hr:aK σ [i]=true)
  (k:∀s,df l s→(bp s (t+1)).1<t+1→∃l',df l' (bp s (t+1)).2∧(ax.ok (.int (.ofNat (bp s (t+1)).1)),σ.set i (.tr l'))∈outs):am w K 12 (.g 374) [.obj i, .int (.ofNat (t+1))] σ outs:=
 .opened hi λx y b a=>(Dz b h1 σ.n i).elim λd z=>z.elim λs z=>by
  have u:=k (x,y) a (by rw[z.1]; exact z.2.2.2)
  rw[z.1] at u
  exact u.elim λl' u=>⟨_,am.run (m:=0) (ch:=[(0, .list [.int s.1, .int s.2])]) (nw:=[]) T dz rz bf aH (l:=[.list [.int x, .int y]]) (is:=[i]) rfl ⟨⟨_,ac.get_set_self _ _ _, .list (.refl _ rfl)⟩,trivial⟩ (gA rfl hr) (.g _) (.cons (.obj 0 ⟨rfl,rfl⟩) (.cons (.int _) .nil)) z.2.1,
   .mem (Re.twice.trans ((Re.set (ac.get_set_self _ _ _) (wZ z.2.2.1 u.1)).trans .twice)) u.2⟩
theorem fV(T:aE K)(dz:DZ w K)(rz:RZ w K):bK w K 12 gC:=zF λi t σ l outs hi hr e=>ay e λq e=>aw q λq1 q2=>match t,q1 with
 |t+1,_=>Aq T dz rz hi (Nat.lt_of_succ_lt_succ (dN q2)) hr λs ha hlt=>match l,e,ha with
  |[],e,_=>⟨[],trivial,sI (sI e)▸uU hlt⟩
  |d::l,e,ha=>aa e λx q e2=>match d,q,ha with
   | .take t' d',q,ha=>ay q λq3 q=>ha.elim λs' ha=>⟨l,(eB0 q3:t+1=t')▸ha.1.2▸ha.2,by
     rw[←sI (sI e2),(eB0 q3:t+1=t'),ha.1.1,sI q]
     exact .head _⟩
   | .mac _ _,q,_=>al q
   | .strt _ _,q,_=>al q
noncomputable def jz:List (Nat×Nat)→List Dr→List Dr
 |[],r=>r
 |q::l,r=> .take q.1 q.2::jz l r
theorem w4{l:List Dr}{s':Int×Int}(h:df l s'){τ:List (Nat×Nat)}{s:Int×Int}(e:gF τ s s'):df (jz τ l) s:=by
 induction τ generalizing s with
 |nil=>exact(show s'=s from e)▸h
 |cons q r ih=>exact⟨_,⟨e.1,rfl⟩,ih e.2⟩
theorem am.mac{m c:Nat}{l:List Dr}{f:AV}{vs:List AV}{outs:List (ax AV×ac)}(q:σ.get i=some (.tr (.mac k c::l)))(h:∀τ,(τ,c)∈mX k→am w K m f vs (σ.set i (.tr (jz τ l))) outs):am w K m f vs σ outs:=
 .tau q λs a=>a.elim λs' a=>a.1.elim λτ z=>⟨_,w4 a.2 z.2,h τ z.1⟩
noncomputable def bo(k c:Nat):AV:=(bu k c).getD .none
theorem c6{c:Nat}{x:AV}(h:bu k c=some x):bo k c=x:=cA0 (·.getD .none) h
noncomputable def BY(k:Nat)(l:List Dr):Option (Nat×List Dr):=match l with
 | .mac k' c::l=>gd (Nat.beq k' k) (some (c,l))
 |_=>none
theorem wb{l:List Dr}{y:Nat×List Dr}(h:BY k l=some y):l = .mac k y.1::y.2:=match l,h with
 | .mac k' c::l,h=>ay h λq h=>eB0 q▸sI h▸rfl
 |[],h=>al h
 | .take _ _::_,h=>al h
 | .strt _ _::_,h=>al h
noncomputable def Lf(m:List Nat):List AV→Bool:=List.rec (motive:=λ_=>List AV→Bool) bC (λb _ ih l=>List.rec false (λa l _=>Option.rec false (λx=>Nat.beq x b) (sV a)&&ih l) l) m
theorem HF{m:List Nat}{l:List AV}(h:Lf m l=true):l=m.map .str:=by
 induction m generalizing l with
 |nil=>cases l with
  |nil=>rfl
  |cons=>exact aV h
 |cons b m ih=>cases l with
  |nil=>exact aV h
  |cons a l=>
   refine aw h λh1 h2=>?_
   cases q:sV a with
   |none=>rw[q] at h1; exact aV h1
   |some x=>rw[q] at h1; rw[eI q,ih h2,(eB0 h1:x=b)]; rfl
noncomputable def Al(b:Bool):List Nat:=Bool.rec [204,205,168,196] [202,203,168] b
noncomputable def kM(b:Bool):Nat:=Bool.rec 2 1 b
noncomputable def yF{α:Type}(l:List α):Option (α×α×α):=List.rec none (λa l _=>ob (fB l) λp=>some (a,p)) l
theorem tH{α:Type}{l:List α}{p:α×α×α}(h:yF l=some p):l=[p.1,p.2.1,p.2.2]:=match l,h with
 |[],h=>al h
 |a::l,h=>aa h λy q h=>sI h▸cA0 (a::·) (dR q)
noncomputable def zW:Sp:=λf vs σ=>gd (m4 415 f) (ob (yF vs) λp=>ob (oV p.1) λi=>ob (oV p.2.1) λj=>ob (bV p.2.2) λb=>ob (H1 (σ.get i)) λl=>ob (BY (kM b) l) λy=>ob (lO (σ.get j)) λnm=>
 gd (Lf (Al b) nm&&(aK σ [i,j]&&b8 [i,j])) (some (af (.tok (kM b) y.1) (σ.set i (.tr y.2)))))
noncomputable def xI(b:Bool)(l:List Dr):List ai:=[.tr l, .list ((Al b).map .str)]
noncomputable def MY(N i j:Nat)(b:Bool)(l:List Dr):Option (ax AV×eJ):=cv 2 N (aX [i,j]) ni [0] ((R tabs gC aJ 14).c (.g 415) [.obj 0, .obj 1, .bool b] (au (xI b l)))
theorem BX(N i j:Nat)(l:List Dr):[true,false].map (λb=>(mX (kM b)).map λq=>(MY N i j b (jz q.1 l),bu (kM b) q.2)) =
  [true,false].map (λb=>(mX (kM b)).map λq=>(some (.ok (bo (kM b) q.2),aG 2 (au (xI b (jz q.1 l))) [(0, .tr l)] []),some (bo (kM b) q.2))):=by kernel_rfl
theorem GI{b:Bool}(h:bV a=some b):a = .bool b:=by
 cases a with
 |bool c=>exact cA0 AV.bool (sI h)
 |_=>exact al h
theorem G9(T:aE K)(dz:DZ w K)(rz:RZ w K):bK w K 26 zW:=λf vs σ outs e=>
 ay e λq e=>aa e λp q1 e=>aa e λi q2 e=>aa e λj q3 e=>aa e λb q4 e=>aa e λl q5 e=>aa e λy q6 e=>aa e λnm q7 e=>ay e λq8 e=>aw q8 λq8 q9=>aw q9 λq9 qa=>by
  rw[iL q,tH q1,cP q2,cP q3,GI q4,←sI (sI e)]
  refine .mac ((A7 q5).trans (cA0 (λl=>some (ai.tr l)) (wb q6))) λτ hτ=>?_
  have z:=Prod.mk.inj (az (az (BX σ.n i j y.2) (a:=b) (by cases b <;> decide)) hτ)
  have ne:i≠j:=λz=>nomatch lI (l:=[i,j]) (j:=i) (k:=0) (k':=1) qa rfl (z▸rfl)
  exact .tokR z.2 ((am.run (ch:=[(0, .tr y.2)]) (nw:=[]) T dz rz (fV T dz rz) aH (l:=xI b (jz τ y.2)) (is:=[i,j]) qa ⟨⟨_,ac.get_set_self _ _ _, .tr _⟩,⟨_,(ac.get_set_ne _ _ _ ne).trans ((fk q7).trans (cA0 (λl=>some (ai.list l)) (HF q8))), .list (.strs _)⟩,trivial⟩ (gA rfl q9) (.g _) (.cons (.obj 0 ⟨rfl,rfl⟩) (.cons (.obj 1 ⟨rfl,rfl⟩) (.cons (.bool _) .nil))) z.1).conv (.one .twice))
noncomputable def pP:AV→List Nat
 | .tup [.str k, .str x,_,_]=>match Nat.beq k 14 with
  |true=>[x]
  |false=>[]
 |_=>[]
noncomputable def uM(f:AV→List Nat)(a:AV):List Nat:=match a with
 | .tup [.str k, .tup [_,t]]=>match Nat.beq k 13 with
  |true=>f t
  |false=>[]
 | .tup [.str k,t, .int _]=>match Nat.beq k 11 with
  |true=>f t
  |false=>[]
 |t=>pP t
noncomputable def mL(c:Nat):List Nat:=uM pP (bo 7 c)
noncomputable def aZ(c:Nat):List Nat:=uM (uM pP) (bo 0 c)
noncomputable def Ld(d k kk:Nat)(E:Nat→ai):Sp:=LA 389 λi t σ l=>gd (Nat.beq t d) (ob (BY k l) λy=>some (af (.obj (σ.n+1)) (((σ.set i (.tr y.2)).push (E y.1)).push (.list [.tok kk y.1, .obj σ.n]))))
noncomputable def JC(c:Nat):ai:= .otok 3 (mL c) []
noncomputable def IT(c:Nat):ai:= .otok 8 (aZ c) [0]
noncomputable def C2:Sp:=Ld 1 4 7 JC
noncomputable def IY:Sp:=Ld 2 0 0 IT
noncomputable def sp2(a b:Sp):Sp:=λf vs σ=>Option.rec (b f vs σ) some (a f vs σ)
noncomputable def OC(r:ax AV)(σ:ac):List Nat:=(ob (ax.rec oV (λ_=>none) r) λr=>ob (lO (σ.get r)) λl=>ob (fB l) λp=>ob (oV p.2) λs=>some [s,r]).getD []
noncomputable def x6(N i d m:Nat)(sp:Sp)(l:List Dr):Option (ax AV×eJ):=cv 1 N (aX [i]) OC [0] ((R tabs sp aJ m).c (.g 389) [.obj 0, .int (.ofNat d)] (au [.tr l]))
noncomputable def yS(N:Nat)(l1 l:List Dr)(e:ai)(t:AV):Option (ax AV×eJ):=some (.ok (.obj (N+1)),aG 1 (au [.tr l1]) [(0, .tr l)] [e, .list [t, .obj N]])
noncomputable def bI(l:List Nat):ai:= .list (l.map .str)
theorem OA(N i:Nat)(l:List Dr):(fE 1).map (λq=>(x6 N i 1 28 gC (jz q.1 l),bu 7 q.2))=(fE 1).map λq=>(yS N (jz q.1 l) l (bI (mL q.2)) (bo 7 q.2),some (bo 7 q.2)):=by kernel_rfl
noncomputable def Cp:List (List (Nat×Nat)×Nat):=(fE 2).take 15
noncomputable def wx:List (Nat×Nat):=[(0,0),(0,1),(0,2),(1,0),(1,1),(1,2),(2,0),(2,1),(2,2)]
noncomputable def xm(p:Nat×Nat):List (Nat×Nat):=[(7,p.1+4),(3,p.2)]
theorem DB:fE 2=Cp++wx.flatMap λp=>(fE 1).map λr=>(xm p++r.1,10+p.1 * 13+r.2):=by kernel_rfl
noncomputable def rP(w:Nat)(t:AV):AV:=match w with
 |0=>mf [cH,t]
 |1=>sr t
 |_=>nC t
noncomputable def EG(w c:Nat):ai:=match w with
 |0=>JC c
 |1=>JC c
 |_=> .list []
theorem MM(N i:Nat)(l:List Dr):Cp.map (λq=>(x6 N i 2 14 (sp2 C2 gC) (jz q.1 l),bu 0 q.2))=Cp.map λq=>(yS N (jz q.1 l) l (bI (aZ q.2)) (bo 0 q.2),some (bo 0 q.2)):=by kernel_rfl
theorem Nq(N i c:Nat)(l:List Dr):wx.map (λp=>x6 N i 2 14 (sp2 C2 gC) (jz (xm p) (.mac 4 c::l)))=wx.map λp=>yS N (jz (xm p) (.mac 4 c::l)) l (EG p.1 c) (rP p.1 (.tok 7 c)):=by kernel_rfl
theorem MX:wx.map (λp=>(ah 13).map λc=>(bu 0 (10+p.1 * 13+c),aZ (10+p.1 * 13+c),bu 7 c))=wx.map λp=>(ah 13).map λc=>(some (rP p.1 (bo 7 c)),(match p.1 with |0=>mL c |1=>mL c |_=>[]),some (bo 7 c)):=by kernel_rfl
theorem Ji:∀q∈fE 1,q.2<13:=by decide +kernel
theorem CN:∀c∈ah 49,(aZ c).length≤1:=by decide +kernel
theorem v8{c:Nat}(h:¬c<49):bu 0 c=none:=(d5 _ _).trans (List.getElem?_eq_none (lE0 (by decide +kernel) (Nat.not_lt.mp h)))
theorem kG(c:Nat):(aZ c).length≤1:=
 if h:c<49 then CN c (mR0 h) else by
  unfold aZ bo
  rw[v8 h]
  exact Nat.zero_le 1
theorem sm(c:Nat):de (aZ c) [0]=aZ c:=match aZ c,kG c with
 |[],_=>rfl
 |[_],_=>rfl
 |_::_::_,h=>absurd (Nat.le_of_succ_le_succ h) (Nat.not_succ_le_zero _)
section
variable {m d kk:Nat}{E:Nat→ai}{c:Nat}
theorem Bi(h:∀σ i c l,σ.get i=some (.tr (.mac k c::l))→aK σ [i]=true→am w K m (.g 389) [.obj i, .int (.ofNat d)] σ [(.ok (.obj (σ.n+1)),((σ.set i (.tr l)).push (E c)).push (.list [.tok kk c, .obj σ.n]))]):bK w K m (Ld d k kk E):=
 zF λi t σ l outs q q1 e=>ay e λq2 e=>aa e λy q3 e=>eB0 q2▸sI (sI e)▸h σ i y.1 y.2 (wb q3▸q) q1
theorem vg{sp:Sp}{l1 l:List Dr}{e eo:ai}{t t':AV}(T:aE K)(dz:DZ w K)(rz:RZ w K)(hp:bK w K m sp)(hr:aK σ [i]=true)(h:x6 σ.n i d n sp l1=yS σ.n l1 l e t)(he:cf w e eo)(ht:gT t t') :
  am w K (m+n) (.g 389) [.obj i, .int (.ofNat d)] (σ.set i (.tr l1)) [(.ok (.obj (σ.n+1)),((σ.set i (.tr l)).push eo).push (.list [t', .obj σ.n]))]:=
 (am.run (ch:=[(0, .tr l)]) (nw:=[e, .list [t, .obj σ.n]]) T dz rz hp aH (l:=[.tr l1]) (is:=[i]) rfl ⟨⟨_,ac.get_set_self _ _ _, .tr _⟩,trivial⟩ (gA rfl hr) (.g _) (.cons (.obj 0 ⟨rfl,rfl⟩) (.cons (.int _) .nil)) h).conv (.one (Re.push (Re.push .twice he) (.head ht)))
theorem gT.tok{c:Nat}{x:AV}(h:bu k c=some x):gT x (.tok k c):=λ_ _ _ _ r=> .tok h r
theorem bK.up{m:Nat}{sp:Sp}(hm:m≤n)(h:bK w K m sp):bK w K n sp:=λf vs σ outs e=>(h f vs σ outs e).up hm
theorem bK.sp2{a b:Sp}(h1:bK w K m a)(h2:bK w K m b):bK w K m (sp2 a b):=λf vs σ outs e=>by
 unfold Mine.sp2 at e
 cases q:a f vs σ with
 |some o=>rw[q] at e; exact h1 _ _ _ _ (q.trans e)
 |none=>rw[q] at e; exact h2 _ _ _ _ e
theorem M8(T:aE K)(dz:DZ w K)(rz:RZ w K):bK w K 40 C2:=Bi λσ i c l q hr=> .mac q λτ hτ=>
 have y:=az (OA σ.n i l) hτ
 have z:=Prod.mk.inj y
 vg T dz rz (fV T dz rz) hr z.1 (.otok rfl) (.tok z.2)
theorem BR{c:Nat}{x:AV}(h:bu 7 c=some x)(w:Nat):gT (rP w (.tok 7 c)) (rP w x):=aR.imp (match w with
 |0=> .tup (.cons (.str _) (.cons (.tup (.cons (.refl rfl) (.cons (.tokL h (.refl (dj h))) .nil))) .nil))
 |1=> .tup (.cons (.str _) (.cons (.tokL h (.refl (dj h))) (.cons (.int _) .nil)))
 |_+2=> .tup (.cons (.str _) (.cons (.tokL h (.refl (dj h))) .nil)))
theorem tq{c:Nat}:cf w (bI (aZ c)) (IT c):= .otok (cA0 (List.map AV.str) (sm c))
theorem yc{c':Nat}(p:Nat)(h:aZ c'=(match p with |0=>mL c |1=>mL c |_=>[])):cf w (EG p c) (IT c'):=cf.trans (o':=bI (aZ c')) (match p,h with
 |0,h=>h▸⟨id,λ_ _ _ _ r=>r⟩
 |1,h=>h▸⟨id,λ_ _ _ _ r=>r⟩
 |_+2,h=>h▸ .rfl) tq
theorem NB(T:aE K)(dz:DZ w K)(rz:RZ w K):bK w K 54 IY:=Bi λσ i c l q hr=> .tau q λs a=>a.elim λs' a=>a.1.elim λτ z=>by
 have hp:=(M8 T dz rz).sp2 ((fV T dz rz).up (by decide))
 refine(List.mem_append.mp (DB▸(show(τ,c)∈fE 2 from z.1))).elim (λhq=>?_) λhq=>(List.mem_flatMap.mp hq).elim λp hq=>(List.mem_map.mp hq.2).elim λr hr'=>?_
 ·have y:=az (MM σ.n i l) hq
  have y:=Prod.mk.inj y
  exact⟨_,w4 a.2 z.2,vg T dz rz hp hr y.1 tq (.tok y.2)⟩
 ·have y:=az (az MX hq.1) (mR0 (Ji r hr'.1))
  have y:=Prod.mk.inj y
  have y2:=Prod.mk.inj y.2
  have e:=Prod.mk.inj hr'.2
  have zt:=e.1▸z.2
  refine⟨jz (xm p) (.mac 4 r.2::l),⟨_,⟨zt.1,rfl⟩,_,⟨zt.2.1,rfl⟩,_,⟨r.1,hr'.1,zt.2.2⟩,a.2⟩,e.2▸?_⟩
  exact vg T dz rz hp hr (az (Nq σ.n i r.2 l) hq.1) (yc p.1 y2.1) λh β n v x=> .tok y.1 (BR y2.2 p.1 h β n v x)
end
noncomputable def Qj(p:Pos):List Nat:=[p.line,p.col,p.endLine,p.endCol]
noncomputable def yl(l:List (Nat×NameKind)):Option (List Nat):=List.rec (some []) (λp _ ih=>gd (match p.2 with | .local=>true |_=>false) (ob ih λm=>some (p.1::m))) l
noncomputable abbrev Vu:=Nat×List Nat×List Pos×List ME
noncomputable def Le:ME→Option Vu
 | .name x p=>some (0,[x],[p],[])
 | .int i p=>ob (yK i) λk=>some (1,[k],[p],[])
 | .sub o i p=>some (2,[],[p],[o,i])
 | .bin op a b p=>(match op with | .Add=>some (3,[],[p],[a,b]) |_=>none)
 | .meth o x as pa p=>some (4,[x],[pa,p],o::as)
 | .comp2 a b c d e f g p=>gd (bC f) (ob (yl g) λm=>some (5,m,[p],[a,b,c,d,e]))
 |_=>none
noncomputable def Oj(v:Vu):ME:=
 have x:=v.2.1.getD 0 0
 have p:=v.2.2.1.getD 0 (pz 0 0 0)
 have e:=λi=>v.2.2.2.getD i (.none p)
 match v.1 with
 |0=> .name x p
 |1=> .int (.ofNat x) p
 |2=> .sub (e 0) (e 1) p
 |3=> .bin .Add (e 0) (e 1) p
 |4=> .meth (e 0) x v.2.2.2.tail p (v.2.2.1.getD 1 p)
 |_=> .comp2 (e 0) (e 1) (e 2) (e 3) (e 4) [] (v.2.1.map λx=>(x, .local)) p
theorem FZ{l:List (Nat×NameKind)}{m:List Nat}(h:yl l=some m):m.map (λx=>(x,NameKind.local))=l:=by
 induction l generalizing m with
 |nil=>exact sI h▸rfl
 |cons p l ih=>
  obtain⟨x,k⟩:=p
  cases k with
  | «local»=>exact aa (show ob (yl l) (λm=>some (x::m))=some m from h) λm' q h=>sI h▸cA0 (_::·) (ih q)
  |_=>exact al h
theorem EW{e:ME}{v:Vu}(h:Le e=some v):Oj v=e:=by
 cases e with
 |name x p=>exact sI h▸rfl
 |int i p=>exact aa h λk q h=>lJ q▸sI h▸rfl
 |sub o i p=>exact sI h▸rfl
 |bin op a b p=>cases op with
  |Add=>exact sI h▸rfl
  |_=>exact al h
 |meth o x as pa p=>exact sI h▸rfl
 |comp2 a b c d e f g p=>cases f with
  |nil=>exact aa (show ob (yl g) (λm=>some ((5,m,[p],[a,b,c,d,e]):Vu))=some v from h) λm q2 h=>sI h▸FZ q2▸rfl
  |cons=>exact al h
 |_=>exact al h
noncomputable def qn{α:Type}(f:α→α→Bool)(l:List α):List α→Bool:=List.rec (motive:=λ_=>List α→Bool) bC (λa _ ih m=>List.rec false (λb m _=>f a b&&ih m) m) l
theorem jj{α:Type}{f:α→α→Bool}(H:∀a b,f a b=true→a=b){l m:List α}(h:qn f l m=true):l=m:=by
 induction l generalizing m with
 |nil=>cases m with
  |nil=>rfl
  |cons=>exact aV h
 |cons a l ih=>cases m with
  |nil=>exact aV h
  |cons b m=>exact aw h λh1 h2=>H a b h1▸ih h2▸rfl
noncomputable def D4(p q:Pos):Bool:=ox p q.line q.col q.endLine q.endCol
noncomputable def El(n:Nat):ME→ME→Bool:=Nat.rec (λ_ _=>false) (λ_ ih a b=>(ob (Le a) λu=>ob (Le b) λv=>gd (Nat.beq u.1 v.1&&(qn Nat.beq u.2.1 v.2.1&&(qn D4 u.2.2.1 v.2.2.1&&qn ih u.2.2.2 v.2.2.2))) (some ())).isSome) n
theorem ii{α:Type}{o:Option α}{C:Prop}(h:o.isSome=true)(k:∀a,o=some a→C):C:=(Option.isSome_iff_exists.mp h).elim k
theorem uZ(n:Nat):∀a b,El n a b=true→a=b:=by
 induction n with
 |zero=>exact λ_ _ h=>aV h
 |succ n ih=>exact λa b h=>ii h λ_ h=>aa h λu q1 h=>aa h λv q2 h=>ay h λq _=>aw q λz1 q=>aw q λz2 q=>aw q λz3 z4=>(EW q1).symm.trans ((cA0 Oj (Prod.ext (eB0 z1) (Prod.ext (jj (λ_ _=>eB0) z2) (Prod.ext (jj (λ_ _=>eH) z3) (jj ih z4))))).trans (EW q2))
noncomputable def LP(s s':MS):Bool:=match s,s' with
 | .ret e p, .ret e' p'=>El 8 e e'&&D4 p p'
 | .asg t v p, .asg t' v' p'=>El 8 t t'&&(El 8 v v'&&D4 p p')
 |_,_=>false
theorem zd(s s':MS)(h:LP s s'=true):s=s':=by
 cases s with
 |ret e p=>cases s' with
  |ret e' p'=>exact aw h λh1 h2=>uZ 8 _ _ h1▸(eH h2:p=p')▸rfl
  |_=>exact aV h
 |asg t v p=>cases s' with
  |asg t' v' p'=>exact aw h λh1 h2=>aw h2 λh2 h3=>uZ 8 _ _ h1▸uZ 8 _ _ h2▸(eH h3:p=p')▸rfl
  |_=>exact aV h
 |_=>exact aV h
noncomputable def wH:List MS:=[.ret (.meth (.name 22 (pz 116 15 22)) 3 [.name 18 (pz 116 27 33), .name 18 (pz 116 35 41)] (pz 116 15 26) (pz 116 15 42)) (pz 116 8 42)]
noncomputable def FD(c:Nat):ai:= .fn 72 [(18,pz 115 15 21)] wH [(18, .local),(22, .free)] [(22,c)]
noncomputable def Ir:NameKind→Bool
 | .local=>true
 |_=>false
noncomputable def K0(l:List (Nat×NameKind)):Option Unit:=ob (fB l) λp=>gd (Nat.beq p.1.1 18&&(Nat.beq p.2.1 22&&(Ir p.1.2&&pe p.2.2))) (some ())
noncomputable def Eo(o:Option ai):Option Nat:=ob o λo=>match o with
 | .fn x ps b sc cl=>ob (one ps) λp=>ob (K0 sc) λ_=>ob (one cl) λq=>gd (Nat.beq x 72&&(Nat.beq p.1 18&&(D4 p.2 (pz 115 15 21)&&(qn LP b wH&&Nat.beq q.1 22)))) (some q.2)
 |_=>none
noncomputable def qt:AV→Option (Nat×Nat)
 | .tok k c=>some (k,c)
 |_=>none
noncomputable def Mk(o:Option ai):Option Nat:=ob (cO o) λv=>ob v oV
noncomputable def Kx(a:Nat)(F:Nat→ac→Option (List Nat)):Sp:=λf vs σ=>gd (m4 a f) (ob (fB vs) λp=>ob (qt p.1) λt=>ob (oV p.2) λj=>ob (F j σ) λis=>gd (Nat.beq t.1 0&&(aK σ is&&b8 is)) (some (af (.tok 0 t.2) σ)))
noncomputable def DG(σ:ac)(d:Nat)(is:List Nat):Option (List Nat):=ob (dO (σ.get d)) λl=>gd (bC l) (some is)
noncomputable def JK:Sp:=Kx 102 λj σ=>ob (Eo (σ.get j)) λi=>ob (Mk (σ.get i)) λd=>DG σ d [j,i,d]
noncomputable def BK:Sp:=Kx 97 λd σ=>DG σ d [d]
noncomputable def Fw:List ai:=[FD 1, .cell (some (.obj 2)), .dict []]
noncomputable def iW(a k N m:Nat)(l:List ai)(is:List Nat)(vs:List AV)(c:Nat):Option (ax AV×eJ):=cv l.length N (aX is) ni [] ((R tabs bR aJ m).c (.g a) (bo k c::vs) (au l))
noncomputable def dk(l:List ai)(v:AV):Option (ax AV×eJ):=some (.ok v,aG l.length (au l) [] [])
theorem G6(N i j d:Nat):(ah 49).map (iW 102 0 N 30 Fw [i,j,d] [.obj 0])=(ah 49).map (λc=>dk Fw (bo 0 c)):=by kernel_rfl
theorem zE(N d:Nat):(ah 49).map (iW 97 0 N 30 [.dict []] [d] [.obj 0])=(ah 49).map (λc=>dk [.dict []] (bo 0 c)):=by kernel_rfl
theorem GQ{k:NameKind}(h:Ir k=true):k = .local:=by cases k <;> first|rfl |exact aV h
theorem BG{k:NameKind}(h:pe k=true):k = .free:=by cases k <;> first|rfl |exact aV h
theorem Ge{l:List (Nat×NameKind)}(h:K0 l=some ()):l=[(18, .local),(22, .free)]:=aa h λp q h=>ay h λz _=>aw z λz1 z=>aw z λz2 z=>aw z λz3 z4=>
 (dR q).trans (congr (cA0 List.cons (Prod.ext (eB0 z1) (GQ z3))) (cA0 (λa=>[a]) (Prod.ext (eB0 z2) (BG z4))))
theorem Ci{x x':Nat}{ps ps':List (Nat×Pos)}{b b':List MS}{sc sc':List (Nat×NameKind)}{cl cl':List (Nat×Nat)}(h1:x=x')(h2:ps=ps')(h3:b=b')(h4:sc=sc')(h5:cl=cl'):ai.fn x ps b sc cl = .fn x' ps' b' sc' cl':=by
 subst h1 h2 h3 h4 h5; rfl
theorem Di{o:Option ai}{c:Nat}(h:Eo o=some c):o=some (FD c):=aa h λo q h=>q.trans (cA0 some (by
 cases o with
 |fn x ps b sc cl=>
  exact aa h λp q1 h=>aa h λu q2 h=>aa h λr q3 h=>ay h λz he=>aw z λz1 z=>aw z λz2 z=>aw z λz3 z=>aw z λz4 z5=>
   Ci (eB0 z1) ((cB q1).trans (cA0 (λa=>[a]) (Prod.ext (eB0 z2) (eH z3)))) (jj zd z4) (Ge q2) ((cB q3).trans (cA0 (λa=>[a]) (Prod.ext (eB0 z5) (sI he))))
 |_=>exact al h))
theorem wF{p:Nat×Nat}(h:qt a=some p):a = .tok p.1 p.2:=by
 cases a with
 |tok k c=>exact sI h▸rfl
 |_=>exact al h
theorem xc{o:Option ai}{v:Option AV}(h:cO o=some v):o=some (.cell v):=by
 cases o with
 |none=>exact al h
 |some o=>cases o with
  |cell=>exact sI h▸rfl
  |_=>exact al h
theorem kN{α:Type}{l:List α}(h:bC l=true):l=[]:=by
 cases l with
 |nil=>rfl
 |cons=>exact aV h
theorem sP{α:Type}{x:α}{l:List α}{c:Nat}(h:aY l c=some x):c<l.length:=(List.getElem?_eq_some_iff.mp ((d5 l c).symm.trans h)).1
theorem vV{d:Nat}{l is:List Nat}(h:DG σ d l=some is):σ.get d=some (.dict [])∧is=l:=aa h λx q h=>ay h λz h=>⟨kN z▸bN q,(sI h).symm⟩
section
variable {m c a:Nat}{f:AV}{vs:List AV}{outs:List (ax AV×ac)}
theorem am.val(h:∀x,bu k c=some x→am w K m f (x::vs) σ outs):am w K m f (.tok k c::vs) σ outs:=
 ⟨λhA S rf rv P=>rv.consE (motive:=λus=>wpAny _ _ (call _ us) _ _ _) λ_ _ h1 h2=>h1.inv.elim λx y=>(h x y.1).ok hA S rf (.cons y.2 h2) P⟩
theorem Bc{F:Nat→ac→Option (List Nat)}(h:∀c x j σ is,bu 0 c=some x→F j σ=some is→b8 is=true→aK σ is=true→am w K m (.g a) [x, .obj j] σ [(.ok x,σ)]):bK w K m (Kx a F):=λf vs σ outs e=>
 ay e λq e=>aa e λp q1 e=>aa e λt q2 e=>aa e λj q3 e=>aa e λis q4 e=>ay e λq5 e=>aw q5 λq5 q6=>aw q6 λq6 q7=>by
  rw[iL q,dR q1,cP q3,wF q2,(eB0 q5:t.1=0),←sI (sI e)]
  exact .val λx hx=> .tokR hx (h t.2 x j σ is hx q4 q7 q6)
theorem am.tok1{l:List ai}{is:List Nat}{vs0:List AV}{c:Nat}{x v:AV}(T:aE K)(dz:DZ w K)(rz:RZ w K)(hx:bu k c=some x)(h:iW a k σ.n n l is vs0 c=dk l v)(hn:b8 is=true)(ho:ce σ l.length (aX is) is l)(hr:aK σ is=true)(hv:bj (Em l.length (aX is)) vs0 vs):am w K n (.g a) (x::vs) σ [(.ok v,σ)]:=by
 have e:=c6 hx
 subst e
 exact .up (Nat.le_of_eq (Nat.zero_add n)) (am.run (m:=0) (ch:=[]) (nw:=[]) T dz rz bf aH hn ho hr (.g _) (.cons (.refl (dj hx)) hv) h)
theorem BS{c:Nat}{x:AV}(h:bu 0 c=some x):c∈ah 49:=mR0 (lT0 (sP h) (by decide +kernel))
theorem KD(T:aE K)(dz:DZ w K)(rz:RZ w K):bK w K 30 (sp2 JK BK):= .sp2
 (Bc λc x j σ is hx h hn hr=>aa h λi q1 h=>aa h λd q2 h=>aa q2 λv q3 q2=>aa q2 λu q4 q2=>(vV h).elim λh1 h2=>by
  subst h2
  have hc:=xc q3
  rw[q4,cP q2] at hc
  exact .tok1 T dz rz hx ((az (G6 σ.n j i d) (BS hx)).trans (cA0 (dk _) (c6 hx))) hn ⟨⟨_,Di q1, .fn (.cons ⟨rfl,rfl⟩ .nil)⟩,⟨_,hc, .cell (.obj 2 ⟨rfl,rfl⟩)⟩,⟨_,h1, .dict .nil⟩,trivial⟩ hr (.cons (.obj 0 ⟨rfl,rfl⟩) .nil))
 (Bc λc x j σ is hx h hn hr=>(vV h).elim λh1 h2=>by
  subst h2
  exact .tok1 T dz rz hx ((az (zE σ.n j) (BS hx)).trans (cA0 (dk _) (c6 hx))) hn ⟨⟨_,h1, .dict .nil⟩,trivial⟩ hr (.cons (.obj 0 ⟨rfl,rfl⟩) .nil))
end
structure Ad where
 h:Bool
 t:Nat
 c0:List Nat
 c1:List Nat
noncomputable def lX(x v:Nat)(h:Bool):ai:= .dict [(.str 75, .str x),(.str 144, .str 34),(.str 22, .tup []),(.str 71, .tup []),(.str 63, .obj v),(.str 145, .tup []),(.str 146, .bool h)]
noncomputable def Nj:ai:= .dict [(.str 153, .none),(.str 62, .obj 2),(.str 63, .obj 3),(.str 130, .obj 4),(.str 103, .obj 5),(.str 141, .obj 6),(.str 154, .obj 7),(.str 155, .obj 8)]
noncomputable def NC:ai:= .dict [(.str 162, .obj 9),(.str 163, .obj 10),(.str 164, .obj 11)]
noncomputable def nI(a b c:Ad):List ai:=
 [.inst 356 1,Nj,NC, .dict [], .dict [], .dict [], .list [], .dict [], .dict [], .inst 263 12, .inst 263 13, .inst 263 14,lX 162 15 a.h,lX 163 16 b.h,lX 164 17 c.h,
  .otok 9 [a.t] [18,19], .otok 9 [b.t] [20,21], .otok 9 [c.t] [22,23], .otok 0 a.c0 [], .otok 0 a.c1 [], .otok 0 b.c0 [], .otok 0 b.c1 [], .otok 0 c.c0 [], .otok 0 c.c1 []]
noncomputable def fH:List Nat:=[0,1,2,3,4,5,6,7,8,9,10,11,12,13,14,15,16,17,18,19,20,21,22,23]
noncomputable def asL(o:ai):ai:=match o with
 | .otok k l rs=> .list (otokL k l rs)
 |o=>o
theorem FJ{O:Nat→Nat→Prop}{a b:ai}(s:bg O a b):bg O (asL a) b:=by
 cases a with
 |otok k l rs=>exact s
 |_=>exact s
theorem ce.asL{e:Nat→Nat}{is:List Nat}{l:List ai}(a:ce σ n e is l):ce σ n e is (l.map asL):=by
 induction l generalizing is with
 |nil=>exact a
 |cons x l ih=>cases is with
  |nil=>exact a
  |cons i is=>exact⟨a.1.imp λ_ y=>⟨y.1,FJ y.2⟩,ih a.2⟩
noncomputable def qq(a:Ad):List Nat:=kc a.c0++match a.t with
 |0=>[]
 |_+1=>kc a.c1
noncomputable def yv(x:Nat)(q:Ad×Ad×Ad):Ad:=Bool.rec (Bool.rec q.2.2 q.2.1 (Nat.beq x 163)) q.1 (Nat.beq x 162)
noncomputable def cu(q:Ad×Ad×Ad)(x:Nat):List Nat:=qq (yv x q)
noncomputable def nU(x:Nat)(a b c:Ad):Ad×Ad×Ad:=Bool.rec (Bool.rec (b,c,a) (b,a,c) (Nat.beq x 163)) (a,b,c) (Nat.beq x 162)
theorem ez{C:Nat→Prop}(a:C 162)(b:C 163)(c:C 164):∀x∈aI,C x:=List.forall_mem_cons.mpr ⟨a,List.forall_mem_cons.mpr ⟨b,List.forall_mem_singleton.mpr c⟩⟩
theorem GY(q:Ad×Ad×Ad):∀x∈aI,∃b c,q=nU x (yv x q) b c:=ez ⟨q.2.1,q.2.2,rfl⟩ ⟨q.1,q.2.2,rfl⟩ ⟨q.1,q.2.1,rfl⟩
noncomputable def Mc(r:ax AV)(_:ac):List Nat:=ax.rec (λa=>Option.rec [] (λi=>[i]) (oV a)) (λ_=>[]) r
noncomputable def HY(q:Ad×Ad×Ad):List ai:=(nI q.1 q.2.1 q.2.2).map asL
noncomputable def EE(N x:Nat)(q:Ad×Ad×Ad):Option (ax AV×eJ):=cv 24 N (aX fH) Mc [] ((R tabs (sp2 JK BK) aJ 30).c (.g 150) [aF x, .obj 0] (au (HY q)))
noncomputable def Ff(N:Nat)(q:Ad×Ad×Ad)(l:List Nat):Option (ax AV×eJ):=some (.ok (.obj N),aG 24 (au (HY q)) [] [.list (l.map (.tok 0))])
noncomputable def sX(c d:Nat)(r:List Nat):List (List Nat):=[[],[c],c::d::r]
theorem PK(N:Nat)(h:Bool)(c d:Nat)(r c1:List Nat)(b e:Ad):aI.map (λx=>(sX c d r).map λl=>EE N x (nU x ⟨h,0,l,c1⟩ b e))=aI.map (λx=>(sX c d r).map λl=>Ff N (nU x ⟨h,0,l,c1⟩ b e) (qq ⟨h,0,l,c1⟩)):=by kernel_rfl
theorem PO(N:Nat)(h:Bool)(t c d c' d':Nat)(r r':List Nat)(b e:Ad):aI.map (λx=>(sX c d r).map λl=>(sX c' d' r').map λm=>EE N x (nU x ⟨h,t+1,l,m⟩ b e))=aI.map (λx=>(sX c d r).map λl=>(sX c' d' r').map λm=>Ff N (nU x ⟨h,t+1,l,m⟩ b e) (qq ⟨h,t+1,l,m⟩)):=by kernel_rfl
theorem AD(l:List Nat):∃c d r,l∈sX c d r:=match l with
 |[]=>⟨0,0,[], .head _⟩
 |[c]=>⟨c,0,[], .tail _ (.head _)⟩
 |c::d::r=>⟨c,d,r, .tail _ (.tail _ (.head _))⟩
theorem J8(N:Nat){x:Nat}(hx:x∈aI)(a b e:Ad):EE N x (nU x a b e)=Ff N (nU x a b e) (qq a):=by
 obtain⟨h,t,c0,c1⟩:=a
 exact(AD c0).elim λc z=>z.elim λd z=>z.elim λr z=>match t with
  |0=>az (az (PK N h c d r c1 b e) hx) z
  |t+1=>(AD c1).elim λc' z'=>z'.elim λd' z'=>z'.elim λr' z'=>az (az (az (PO N h t c d c' d' r r' b e) hx) z) z'
theorem JM(N:Nat)(q:Ad×Ad×Ad){x:Nat}(hx:x∈aI):EE N x q=Ff N q (cu q x):=(GY q x hx).elim λb z=>z.elim λe z=>by
 unfold cu
 generalize yv x q=a at z
 subst z
 exact J8 N hx a b e
section
variable {q:Ad×Ad×Ad}
theorem og{is:List Nat}(g:is.map σ.get=((nI q.1 q.2.1 q.2.2).map (cK (aX is))).map some):ce σ 24 (aX is) is (nI q.1 q.2.1 q.2.2):= .ren g (by kernel_rfl)
theorem MQ(T:aE K)(dz:DZ w K)(rz:RZ w K)(g:fH.map σ.get=((nI q.1 q.2.1 q.2.2).map (cK (aX fH))).map some)(hr:aK σ fH=true){x:Nat}(hx:x∈aI):am w K 60 (.g 150) [aF x, .obj 0] σ [(.ok (.obj σ.n),σ.push (.list ((cu q x).map (.tok 0))))]:=
 am.run (m:=30) (ch:=[]) (nw:=[_]) T dz rz (KD T dz rz) aH (l:=HY q) (is:=fH) (by decide +kernel) (og g).asL hr (.g _) (.cons (.refl rfl) (.cons (.obj 0 ⟨rfl,rfl⟩) .nil)) (JM σ.n q hx)
end
noncomputable def ug(r:Nat):Nat:=match r with
 |0=>1
 |1=>0
 |_=>2
noncomputable def kJ(c:Nat):Nat:=(match c / 7 with |0=>0 |1=>1 |b+2=>2+ug b) * 9+match c % 7 with |0=>0 |1=>1+ug 0 |2=>1+ug 1 |3=>1+ug 2 |o+4=>5+ug o
noncomputable def Ij(n c:Nat):Nat:=(match c / (1+2 * n) with |0=>0 |1=>1 |_=>2) * 3+match c % (1+2 * n) with |0=>0 |o+1=>match Nat.blt o n with |true=>1 |false=>2
noncomputable def Os(self:List Nat)(rs:List Nat)(c:Nat):List Nat:=
 let n:=rs.length
 let i:=match c / (1+2 * n) with
  |0=>[]
  |1=>self
  |b+2=>[rs.getD b 0]
 match c % (1+2 * n) with
 |0=>i
 |o+1=>match Nat.blt o n with
  |true=>rs.getD o 0::i
  |false=>i++(rs.getD (o-n) 0::i)
noncomputable def gL(c:Nat):Nat:=Ij 3 c
noncomputable def gK(d:Nat):Nat:=Ij 4 d
noncomputable def bU(c:Nat):List Nat:=Os [3] [0,1,2] c
noncomputable def cD(d:Nat):List Nat:=Os [3] [4,5,2,3] d
noncomputable def EI(k:Nat):Nat→Nat:=Bool.rec gK gL (Nat.beq k 4)
noncomputable def zY(k:Nat):Nat→List Nat:=Bool.rec cD bU (Nat.beq k 4)
noncomputable def jE:List Nat:=[4,2]
noncomputable def ty(k:Nat):Nat:=Bool.rec 54 35 (Nat.beq k 4)
theorem BN(N:Nat):(ah 35).map (λc=>(iW 430 1 N 40 [] [] [] c,bu 2 (kJ c)))=(ah 35).map (λc=>(dk [] (bo 2 (kJ c)),some (bo 2 (kJ c)))):=by kernel_rfl
theorem Cm(N i:Nat):jE.map (λk=>(ah (ty k)).map (iW 116 k N 40 [.own] [i] []))=jE.map (λk=>(ah (ty k)).map λc=>dk [.own] (bo 5 (EI k c))):=by kernel_rfl
noncomputable def PX(N i k c:Nat):Option (ax AV×eJ):=cv 1 N (aX [i]) Mc [] ((R tabs bR aJ 40).c (.g 73) [bo k c] (au [.own]))
theorem GM(N i:Nat):jE.map (λk=>(ah (ty k)).map λc=>PX N i k c)=jE.map (λk=>(ah (ty k)).map λc=>some (.ok (.obj N),aG 1 (au [.own]) [] [.list ((zY k c).map (bo 6))])):=by kernel_rfl
theorem GX:∀k∈jE,∀c∈ah (ty k),∀i∈zY k c,(bu 6 i).isSome=true:=by decide +kernel
theorem Mi:∀k∈jE,(rX k).length≤ty k:=by decide +kernel
theorem H8{c:Nat}{x:AV}(hk:k∈jE)(h:bu k c=some x):c∈ah (ty k):=mR0 (lT0 (sP h) (Mi k hk))
theorem O2{c:Nat}{x:AV}(h:bu 1 c=some x):c∈ah 35:=mR0 (lT0 (sP h) (by decide +kernel))
theorem zJ{l:List Nat}(h:∀i∈l,(bu k i).isSome=true):cf w (.list (l.map (bo k))) (.list (l.map (.tok k))):= .list λhp β n v=>by
 induction l generalizing v with
 |nil=>exact id
 |cons a l ih=>exact λr=>r.consE λu us h1 h2=>ii (h a (.head _)) λx y=> .cons (.tok y (c6 y▸h1)) (ih (λi hi=>h i (.tail _ hi)) us h2)
noncomputable def Ew:Sp:=λf vs σ=>gd (m4 430 f) (ob (one vs) λv=>ob (qt v) λt=>gd (Nat.beq t.1 1&&aK σ []) (some (af (.tok 2 (kJ t.2)) σ)))
section
variable {c:Nat}
theorem Lu(T:aE K)(dz:DZ w K)(rz:RZ w K)(hr:aK σ []=true):am w K 40 (.g 430) [.tok 1 c] σ [(.ok (.tok 2 (kJ c)),σ)]:= .val λx hx=>by
 have z:=az (BN σ.n) (O2 hx)
 have z:=Prod.mk.inj z
 exact .tokR z.2 (.tok1 T dz rz hx z.1 rfl trivial hr .nil)
theorem HI(T:aE K)(dz:DZ w K)(rz:RZ w K)(hi:σ.get i=some .own)(hr:aK σ [i]=true)(hk:k∈jE):am w K 40 (.g 116) [.tok k c] σ [(.ok (bo 5 (EI k c)),σ)]:= .val λx hx=>
 .tok1 T dz rz hx (az (az (Cm σ.n i) hk) (H8 hk hx)) rfl ⟨⟨_,hi, .own⟩,trivial⟩ hr .nil
theorem Fv(T:aE K)(dz:DZ w K)(rz:RZ w K)(hi:σ.get i=some .own)(hr:aK σ [i]=true)(hk:k∈jE):am w K 40 (.g 73) [.tok k c] σ [(.ok (.obj σ.n),σ.push (.list ((zY k c).map (.tok 6))))]:= .val λx hx=>by
 have e:=c6 hx
 subst e
 exact .up (Nat.le_refl 40) ((am.run (m:=0) (ch:=[]) (nw:=[_]) T dz rz bf aH (l:=[.own]) (is:=[i]) rfl ⟨⟨_,hi, .own⟩,trivial⟩ hr (.g _) (.cons (.refl (dj hx)) .nil) (az (az (GM σ.n i) hk) (H8 hk hx))).conv (.one (Re.push .rfl (zJ (GX k hk c (H8 hk hx))))))
theorem Dm(T:aE K)(dz:DZ w K)(rz:RZ w K):bK w K 40 Ew:=λf vs σ outs e=>ay e λq e=>aa e λv q1 e=>aa e λt q2 e=>ay e λz e=>aw z λz2 z3=>by
 rw[iL q,cB q1,wF q2,(eB0 z2:t.1=1),←sI (sI e)]
 exact Lu T dz rz z3
end
theorem zU{α:Type}(l:List (ax α×ac)):bindL af l=some l:=by
 induction l with
 |nil=>rfl
 |cons p l ih=>
  obtain⟨r,σ⟩:=p
  cases r with
  |ok a=>cases l with
   |nil=>rfl
   |cons y l=>rw[kw,ih]; rfl
  |exc c=>rw[qI,ih]
theorem A5{α:Type}(o:aj α):bind o af=o:=by
 cases o with
 |none=>rfl
 |some l=>exact zU l
theorem bq{α β:Type}{o:aj α}{a:α}{f:α→ac→aj β}{r:aj β}(h:o=af a σ)(k:f a σ=r):bind o f=r:=h▸(DT a σ f).trans k
theorem bx{α β:Type}{o:aj α}{c:Nat}{f:α→ac→aj β}(h:o=some [(.exc c,σ)]):bind o f=some [(.exc c,σ)]:=h▸rfl
theorem gq{β:Type}{b:Bool}{x r:Option β}(h:b=true)(k:x=r):gd b x=r:=h▸k
theorem oq{α β:Type}{o:Option α}{a:α}{f:α→Option β}{r:Option β}(h:o=some a)(k:f a=r):ob o f=r:=h▸k
theorem aq{β:Type}{x y r:Option β}(h:x=none)(k:y=r):aO x y=r:=h▸k
section
variable {sp:Sp}{ss:Ss}{ev:Ev}
theorem tn{b:List MS}{o:aj (Fl×ao)}(hs:ss ev b σ=none)(h:jm tabs (R tabs sp ss k) ev b σ=o):(R tabs sp ss (k+1)).s ev b σ=o:=by
 show(Option.rec (motive:=λ_=>aj (Fl×ao)) (jm tabs (R tabs sp ss k) ev b σ) id (ss ev b σ))=_
 rw[hs]; exact h
theorem aQ{s:MS}{o:aj (Fl×ao)}(hs:ss ev [s] σ=none)(h:ba tabs (R tabs sp ss k) ev s σ=o):(R tabs sp ss (k+1)).s ev [s] σ=o:=tn hs <|by
 refine Eq.trans (cA0 (bind _) (funext λp=>funext λσ=>?_)) ((A5 _).trans h)
 obtain⟨f,l⟩:=p
 cases f <;> rfl
theorem jC{s s2:MS}{l:List MS}{v:AV}{loc:ao}(hs:ss ev (s::s2::l) σ=none)(h:ba tabs (R tabs sp ss k) ev s σ=af (Fl.ret v,loc) σ1):(R tabs sp ss (k+1)).s ev (s::s2::l) σ=af (Fl.ret v,loc) σ1:=tn hs (bq h rfl)
theorem jH{s s2:MS}{l:List MS}{c:Nat}(hs:ss ev (s::s2::l) σ=none)(h:ba tabs (R tabs sp ss k) ev s σ=some [(.exc c,σ1)]):(R tabs sp ss (k+1)).s ev (s::s2::l) σ=some [(.exc c,σ1)]:=tn hs (bx h)
theorem aS{s s2:MS}{l:List MS}{loc:ao}{o:aj (Fl×ao)}(hs:ss ev (s::s2::l) σ=none)(h1:ba tabs (R tabs sp ss k) ev s σ=af (Fl.next,loc) σ1)(h2:(R tabs sp ss k).s { ev with loc:=loc } (s2::l) σ1=o):(R tabs sp ss (k+1)).s ev (s::s2::l) σ=o:=tn hs (bq (a:=(Fl.next,loc)) h1 h2)
theorem bl{t:ME}{b o:List MS}{p:Pos}{q:Bool}(h:(R tabs sp ss k).t ev t σ=af q σ1):ba tabs (R tabs sp ss k) ev (.ite t b o p) σ=(R tabs sp ss k).s ev (cond q b o) σ1:=bq h (by cases q <;> rfl)
theorem ij{o:ME}{x:Nat}{as:List ME}{pa p:Pos}{ov:AV}{vs:List AV}{m:d8}{r:aj AV}(h0:(Nat.beq pa.endLine p.line&&Nat.ble (len as) 20)=true)(h1:(R tabs sp ss k).e ev o σ=af ov σ1)(h2:iK tabs ov x σ1=some m)(h3:fw (R tabs sp ss k) ev as σ1=af vs σ2)(h4:Oa tabs m=true)(h5:jT (R tabs sp ss k) m ov vs σ2=r) :
  (R tabs sp ss (k+1)).e ev (.meth o x as pa p) σ=r:=gq h0 (bq h1 (oq h2 (bq h3 (gq h4 h5))))
theorem gh{e:ME}{p:Pos}(h:dh e=false):ba tabs (R tabs sp ss k) ev (.expr e p) σ=bind ((R tabs sp ss k).e ev e σ) λ_ σ=>af (.next,ev.loc) σ:=gq (by rw[h]; rfl) rfl
theorem nP{o:ME}{x:Nat}{as:List ME}{pa p p':Pos}{ov:AV}{f:Nat}{vs:List AV}(h0:(Nat.beq pa.endLine p.line&&Nat.ble (len as) 20)=true)(h1:(R tabs sp ss k).e ev o σ=af ov σ1)(h2:iK tabs ov x σ1=some (.fn f))(h3:fw (R tabs sp ss k) ev as σ1=af vs σ2)(h4:w6 tabs f=true) :
  ba tabs (R tabs sp ss (k+1)) ev (.expr (.meth o x as pa p) p') σ=bind ((R tabs sp ss k).c (.g f) (ov::vs) σ2) λ_ σ=>af (.next,ev.loc) σ:=(gh rfl).trans (cA0 (bind · _) (ij h0 h1 h2 h3 h4 rfl))
theorem cg{f:AV}{vs:List AV}{o:aj AV}(h:sp f vs σ=some o):(R tabs sp ss (k+1)).c f vs σ=o:=by
 show(Option.rec (motive:=λ_=>aj AV) (bv tabs (R tabs sp ss k) f vs σ) id (sp f vs σ))=_
 rw[h]; rfl
theorem mr{r:aP}{e:ME}{v:AV}(h:r.e ev e σ=af v σ1):fw r ev [e] σ=af [v] σ1:=bq h rfl
theorem bt{x:Nat}{px p:Pos}{as:List ME}{vs:List AV}{o:aj AV}(h0:pS tabs ev (.name x px) as=none)(h1:(R tabs sp ss (k+1)).e ev (.name x px) σ=af a σ)(h2:fw (R tabs sp ss (k+1)) ev as σ=af vs σ1)(h3:ju tabs a σ1=true)(h4:(R tabs sp ss (k+1)).c a vs σ1=o) :
  (R tabs sp ss (k+2)).e ev (.call (.name x px) as p) σ=o:=aq (by rw[h0]; rfl) (oq (a:=x) rfl (bq h1 (bq h2 (gq h3 h4))))
theorem dg{op:CmpOp}{a b:ME}{p:Pos}{va vb:AV}{q:Bool}(h1:(R tabs sp ss k).e ev a σ=af va σ1)(h2:(R tabs sp ss k).e ev b σ1=af vb σ2)(h3:gw op va vb σ2=some q):(R tabs sp ss (k+1)).t ev (.cmp op a b p) σ=af q σ2:=bq h1 (bq h2 (oq h3 rfl))
theorem OI{a b:ME}{p:Pos}{b1 b2:Bool}(h1:(R tabs sp ss k).t ev a σ=af b1 σ)(h2:(R tabs sp ss k).t ev b σ=af b2 σ):(R tabs sp ss (k+1)).t ev (.bop .Or [a,b] p) σ=af (b1||b2) σ:=bq h1 (by
 cases b1 with
 |true=>rfl
 |false=>exact bq h2 (by cases b2 <;> rfl))
theorem d7{t it:ME}{b:List MS}{p:Pos}{i:It}(h:b9 tabs (R tabs sp ss k) ev it σ=af i σ1)(hp:ip i=true):ba tabs (R tabs sp ss k) ev (.for_ t it b p) σ=forLoop (R tabs sp ss k) ev t b i cA 0 ev.loc σ1:=bq h (by cases i <;> first|rfl |exact aV hp)
end
section
variable {r:aP}{ev:Ev}{t:ME}{b:List MS}{it:It}{m:Nat}{loc loc1 loc2:ao}{v:AV}
theorem dB{o:aj (Fl×ao)}(hgo:gV it t=true)(hi:du it k σ=some (some v))(ha:cR r ev 5 loc t v σ=af loc1 σ1)(hb:bind (r.s { ev with loc:=loc1 } b σ1) (jo (forLoop r ev t b it m (k+1)))=o):forLoop r ev t b it (m+1) k loc σ=o:=gq hgo (oq hi (bq ha hb))
theorem ff(hgo:gV it t=true)(hi:du it k σ=some none):forLoop r ev t b it (m+1) k loc σ=af (.next,loc) σ:=gq hgo (oq hi rfl)
end
set_option genInjectivity true in
inductive LR where
 |ok (D:List Nat)
 |bad (O D:List Nat)
noncomputable def d0{α:Type}(f:List Nat→α→LR)(D:List Nat)(l:List α):LR:=List.rec (λD=> .ok D) (λc _ ih D=>LR.rec ih .bad (f D c)) l D
noncomputable def Fa(L1:AV→ao)(l:ao)(vs:List AV):ao:=List.rec id (λv _ ih _=>ih (L1 v)) vs l
noncomputable def i6(St:List Nat→ac)(X:List Nat→List Nat→ac)(l:ao)(r:LR):List (ax (Fl×ao)×ac):=LR.rec (λs=>[(.ok (.next,l),St s)]) (λO D=>[(.exc 0,X O D)]) r
theorem rm{α:Type}{r:aP}{ev:Ev}{t:ME}{b:List MS}{it:It}(hgo:gV it t=true){St:List Nat→ac}{X:List Nat→List Nat→ac}{av:α→AV}{its:List α}{L1:AV→ao}{P:ao→Prop}{f:List Nat→α→LR}{I:List Nat→Prop}
  (hit:∀s k,du it k (St s)=some ((aY its k).map av)) (hI:∀s v s',I s→v∈its→f s v = .ok s'→I s') (hP:∀v,P (L1 v))
  (ha:∀s v loc,P loc→cR r ev 5 loc t (av v) (St s)=af (L1 (av v)) (St s))
  (hb:∀s v,I s→v∈its→r.s { ev with loc:=L1 (av v) } b (St s)=some (i6 St X (L1 (av v)) (f s v)))
  (gs:List α):∀(k m:Nat)(loc:ao)(s:List Nat),(∀i,aY its (k+i)=aY gs i)→gs.length<m→P loc→I s→forLoop r ev t b it m k loc (St s)=some (i6 St X (Fa L1 loc (gs.map av)) (d0 f s gs)):=by
 induction gs with
 |nil=>exact λk m loc s hn hm hl hs=>match m,hm with
  |m+1,_=>ff hgo ((hit s k).trans (cA0 (λo=>some (Option.map av o)) (hn 0)))
 |cons v gs ih=>
  intro k m loc s hn hm hl hs
  cases m with
  |zero=>exact absurd hm (Nat.not_lt_zero _)
  |succ m=>
   refine dB hgo ((hit s k).trans (cA0 (λo=>some (Option.map av o)) (hn 0))) (ha s v loc hl) ?_
   have h1:=hb s v hs (ie (hn 0))
   show _=some (i6 St X _ (LR.rec (motive:=λ_=>LR) (λD=>d0 f D gs) .bad (f s v)))
   cases q:f s v with
   |ok s'=>exact bq (h1.trans (cA0 (λr=>some (i6 St X (L1 (av v)) r)) q)) (ih (k+1) m (L1 (av v)) s' (λi=>(cA0 (aY its) ((Nat.add_assoc k 1 i).trans (cA0 _ (Nat.add_comm 1 i)))).trans (hn (i+1))) (Nat.lt_of_succ_lt_succ hm) (hP _) (hI _ _ _ hs (ie (hn 0)) q))
   |bad O D=>exact bx (h1.trans (cA0 (λr=>some (i6 St X (L1 (av v)) r)) q))
noncomputable abbrev dY:=List AV→ac→Option (aj AV)
noncomputable def bh(k:Nat)(s:dY):Sp:=λf vs σ=>gd (m4 k f) (s vs σ)
noncomputable def pp{γ:Type}(p:List AV→ac→γ)(St:γ→List AV×ac)(ok:γ→Prop)(o:γ→List (ax AV×ac)):dY:=λvs σ=>open Classical in if St (p vs σ)=(vs,σ)∧ok (p vs σ) then some (some (o (p vs σ))) else none
section
variable {γ:Type}{p:List AV→ac→γ}{St:γ→List AV×ac}{ok:γ→Prop}{o:γ→List (ax AV×ac)}{m:Nat}
theorem pX{s:dY}(h:∀vs σ outs,s vs σ=some (some outs)→am w K m (.g k) vs σ outs):bK w K m (bh k s):=λf vs σ outs e=>ay e λq e=>iL q▸h vs σ outs e
theorem eA{c:γ}(h:p (St c).1 (St c).2=c)(hc:ok c):pp p St ok o (St c).1 (St c).2=some (some (o c)):=by
 unfold pp
 rw[h,if_pos ⟨rfl,hc⟩]
theorem fG(h:∀c,ok c→am w K m (.g k) (St c).1 (St c).2 (o c)):bK w K m (bh k (pp p St ok o)):=pX λvs σ outs e=>by
 by_cases z:St (p vs σ)=(vs,σ)∧ok (p vs σ)
 ·have e:=(if_pos z).symm.trans e
  have y:=h _ z.2
  rw[z.1] at y
  exact sI (sI e)▸y
 ·exact al ((if_neg z).symm.trans e)
noncomputable def mj(vs:List AV)(σ:ac)(o:List (ax AV×ac)):dY:=pp (λ_ _=>()) (λ_=>(vs,σ)) (λ_=>True) λ_=>o
theorem bF{vs:List AV}{o:List (ax AV×ac)}:mj vs σ o vs σ=some (some o):=eA (c:=()) rfl trivial
theorem bM{vs:List AV}{o:List (ax AV×ac)}(h:am w K m (.g k) vs σ o):bK w K m (bh k (mj vs σ o)):=fG λ_ _=>h
theorem Gu{vs vs':List AV}{o:List (ax AV×ac)}{f:AV}(h:vs'≠vs):bh k (mj vs σ o) f vs' σ'=none:=by
 show gd (m4 k f) (mj vs σ o vs' σ')=none
 rw[show mj vs σ o vs' σ'=none from if_neg λz=>h (cA0 Prod.fst z.1).symm]
 cases m4 k f <;> rfl
theorem dU{a b:Sp}{f:AV}{vs:List AV}{o:aj AV}(h:a f vs σ=some o):sp2 a b f vs σ=some o:=by unfold sp2; rw[h]
theorem bP{a b:Sp}{f:AV}{vs:List AV}(h:a f vs σ=none):sp2 a b f vs σ=b f vs σ:=by unfold sp2; rw[h]
theorem am.body{sp:Sp}{ss:Ss}{m:Nat}{f:AV}{vs:List AV}{outs:List (ax AV×ac)}(T:aE K)(dz:DZ w K)(rz:RZ w K)(hp:bK w K m sp)(hs:fT w K m ss)(e:bv tabs (R tabs sp ss n) f vs σ=some outs):am w K (m+n+1) f vs σ outs:=
 ⟨λhA S hf hv P=>lf T (qr T dz rz hp hs n) hA S hv P e hf⟩
end
noncomputable def MR:ai:= .dict [(.str 61, .obj 0),(.str 81, .obj 26),(.str 82, .obj 27)]
noncomputable def lV(l:List Nat):ai:= .list (l.map lM)
noncomputable def LH(q:Ad×Ad×Ad):List ai:=nI q.1 q.2.1 q.2.2++[MR, .inst 181 24]
noncomputable def kh(q:Ad×Ad×Ad)(O D:List Nat):List ai:=LH q++[lV O,lV D]
noncomputable def lB(q:Ad×Ad×Ad)(O D:List Nat):ac:=au (kh q O D)
noncomputable def EZ:Nat→Nat:=aX (ah 28)
noncomputable def Oi(O D:List Nat):List (Nat×ai):=[(26,lV O),(27,lV D)]
noncomputable def hm(O D:List Nat)(σ:ac):ac:=bG EZ (Oi O D) σ
noncomputable def fK(r:LR):ax AV:=LR.rec (λ_=> .ok .none) (λ_ _=> .exc 0) r
noncomputable def oL(O:List Nat)(r:LR):List Nat:=LR.rec (λ_=>O) (λO _=>O) r
noncomputable def dL(r:LR):List Nat:=LR.rec (λD=>D) (λ_ D=>D) r
noncomputable def mh(O:List Nat)(σ:ac)(r:LR):List (ax AV×ac):=[(fK r,hm (oL O r) (dL r) σ)]
structure Hd(q:Ad×Ad×Ad)(O D:List Nat)(σ:ac):Prop where
 g:(ah 28).map σ.get=(kh q O D).map some
 r:aK σ (ah 28)=true
theorem jM(q:Ad×Ad×Ad)(O D:List Nat):(ah 28).map (lB q O D).get=(kh q O D).map some:=by kernel_rfl
theorem Gy(q:Ad×Ad×Ad)(O D O' D':List Nat):(ah 28).map (λj=>Bool.rec ((lB q O D).get j) none (aB j [26,27]))=(ah 28).map (λj=>Bool.rec (motive:=λ_=>Option ai) ((lB q O' D').get j) none (aB j [26,27])):=by kernel_rfl
theorem yO(q:Ad×Ad×Ad)(O D:List Nat):(lB q O D).n=28:=mT _
theorem o9(q:Ad×Ad×Ad)(O D:List Nat):Hd q O D (lB q O D):=⟨jM q O D,by kernel_rfl⟩
theorem pi{O:Nat→Nat→Prop}(l:List Nat):bg O (lV l) (lV l):= .list (.map (λ_=> .refl rfl) l)
theorem OZ{e:Nat→Nat}{l:List ai}(z:l.all (jq λj=>Nat.blt j n)=true)(r:l.map (cK e)=l)(o:ai)(ho:o∈l):bg (Em n e) o o:=by
 have y:=bg.ren (O:=Em n e) (e:=e) (λj h=>⟨h,rfl⟩) (List.all_eq_true.mp z o ho)
 rw[az (g:=id) (r.trans (List.map_id l).symm) ho] at y
 exact y
theorem ce.mk{e:Nat→Nat}{is:List Nat}{l:List ai}(g:is.map σ.get=l.map some)(s:∀o∈l,bg (Em n e) o o):ce σ n e is l:=by
 induction l generalizing is with
 |nil=>cases is with
  |nil=>trivial
  |cons=>exact nomatch g
 |cons x l ih=>cases is with
  |nil=>exact nomatch g
  |cons i is=>exact⟨⟨_,(List.cons.inj g).1,s x (.head _)⟩,ih (List.cons.inj g).2 λo h=>s o (.tail _ h)⟩
theorem B1(q:Ad×Ad×Ad)(O D:List Nat):∀o∈kh q O D,bg (Em 28 EZ) o o:=List.forall_mem_append.mpr ⟨OZ (l:=LH q) (by kernel_rfl) (by kernel_rfl),List.forall_mem_cons.mpr ⟨pi O,List.forall_mem_singleton.mpr (pi D)⟩⟩
theorem i7{l:List ai}(h:(ah n).map σ.get=l.map some){j:Nat}{o:ai}(hj:l[j]?=some o):σ.get j=some o:=by
 have z:=(List.getElem?_map.symm.trans (cA0 (·[j]?) h)).trans List.getElem?_map
 rw[hj] at z
 cases q:(ah n)[j]? with
 |none=>rw[q] at z; exact al z
 |some i=>
  rw[q] at z
  have hi:=(List.getElem?_eq_some_iff.mp q).elim λ_ y=>y.symm.trans (List.getElem_range _)
  exact hi▸sI z
section
variable {q:Ad×Ad×Ad}{O D:List Nat}{m:Nat}{f:AV}{vs:List AV}{res:LR}
theorem Ki{O:Nat→Nat→Prop}(res:LR):ka O (fK res) (fK res):=by
 cases res with
 |ok=>exact .ok .none
 |bad=>exact rfl
theorem mi(c:am w K m f vs (lB q O D) [(fK res,σ')])(hv:(ah 28).map σ'.get=(kh q (oL O res) (dL res)).map some)(hn:28≤σ'.n)(hf:aR (Em 28 EZ) f f)(hs:bj (Em 28 EZ) vs vs)(h:Hd q O D σ):am w K m f vs σ (mh O σ res):=
 c.lift (n0:=28) (fc.of (l:=kh q O D) (is:=ah 28) (by decide +kernel) (.mk h.g (B1 q O D)) h.r) hf hs (.one (js:=[]) (ch:=Oi _ _) (nw:=[]) (Ki res) {
  n:=hn
  same:=λj hj z=>by
   have y:=az (Gy q O D (oL O res) (dL res)) (mR0 hj)
   rw[show aB j [26,27]=false from z] at y
   exact(az (hv.trans (jM q _ _).symm) (mR0 hj)).trans y.symm
  ch:=List.forall_mem_cons.mpr ⟨⟨(by decide:26<28),_,i7 hv rfl,pi _⟩,List.forall_mem_singleton.mpr ⟨(by decide:27<28),_,i7 hv rfl,pi _⟩⟩
  bd:=λ_ h=>absurd h List.not_mem_nil
  new:=λk o h=>al h
  len:=rfl
  ap:=rfl })
end
noncomputable def CA(k:Nat)(a:AV):Bool:=Option.rec false (λx=>Nat.beq x k) (sV a)
noncomputable def yY(a:AV):Bool:=Option.rec false bC (tV a)
noncomputable def pL(v:AV):Option Nat:=ob (tV v) λl=>List.rec none (λa m _=>ob (yF m) λp=>gd (CA 14 a&&(yY p.2.1&&yY p.2.2)) (sV p.1)) l
theorem Gj(h:CA k a=true):a = .str k:=by
 unfold CA at h
 cases q:sV a with
 |none=>rw[q] at h; exact aV h
 |some x=>rw[q] at h; exact(eI q).trans (cA0 AV.str (eB0 h))
theorem wW(h:yY a=true):a = .tup []:=by
 unfold yY at h
 cases q:tV a with
 |none=>rw[q] at h; exact aV h
 |some x=>rw[q] at h; exact(ik q).trans (cA0 AV.tup (kN h))
theorem yq{v:AV}{x:Nat}(h:pL v=some x):v=aF x:=aa h λl q h=>match l,q,h with
 |[],_,h=>al h
 |a::m,q,h=>aa h λp q1 h=>ay h λz h=>aw z λz1 z=>aw z λz2 z3=>(ik q).trans (by rw[tH q1,Gj z1,wW z2,wW z3,eI h]; rfl)
noncomputable def DI:Sp:=λf vs σ=>ob (one vs) λv=>ob (pL v) λx=>gd (aK σ []) (aO (gd (m4 116 f) (some (af (aF x) σ))) (gd (m4 128 f) (some (af (.txt 100) σ))))
noncomputable def Kz(N a x:Nat):Option (ax AV×eJ):=cv 0 N (aX []) ni [] ((R tabs bR aJ 30).c (.g a) [aF x] (au []))
theorem Mb(N x:Nat):Kz N 116 x=dk [] (aF x):=by kernel_rfl
theorem Lg(N x:Nat):Kz N 128 x=dk [] (.txt 100):=by kernel_rfl
theorem xX(T:aE K)(dz:DZ w K)(rz:RZ w K):bK w K 30 DI:=λf vs σ outs e=>aa e λv q e=>aa e λx q1 e=>ay e λhr e=>by
 rw[cB q,yq q1]
 have go:∀{a v},Kz σ.n a x=dk [] v→am w K 30 (.g a) [aF x] σ [(.ok v,σ)]:=λh=>am.run (m:=0) (ch:=[]) (nw:=[]) T dz rz bf aH (l:=[]) (is:=[]) rfl trivial hr (.g _) (.cons (.refl rfl) .nil) h
 exact be e (λe=>ay e λz e=>iL z▸sI (sI e)▸go (Mb _ x)) λe=>ay e λz e=>iL z▸sI (sI e)▸go (Lg _ x)
section
inductive FT where
 |num
 |box (t:AV)
 |ref (t:AV)
 |whole (x:Nat)
 |tup (t:FT)
 |arr (t:FT)
noncomputable def FT.ev(t:FT):AV:=FT.rec cH nC (pW 168 false) aF (λ_ a=>mf [cH,a]) (λ_ a=>sr a) t
noncomputable def FT.ed(t:FT):List Nat:=FT.rec [] (λ_=>[]) (λ_=>[]) (λx=>[x]) (λ_ a=>a) (λ_ a=>a) t
noncomputable def FT.dp(t:FT):Nat:=FT.rec 0 (λ_=>0) (λ_=>0) (λ_=>0) (λ_ a=>a+1) (λ_ a=>a+1) t
noncomputable def NR(l:List FT):List FT:= .num::aI.map .whole++aI.map (λx=> .box (aF x))++aI.map (λx=> .ref (aF x))++l.map .tup++l.map .arr++l.map λt=> .box t.ev
noncomputable def Io:List FT:=NR (NR [.num])
theorem IP:(ah 49).map (λc=>some (bo 0 c,aZ c))=(ah 49).map (λc=>(Io[c]?).map λt=>(t.ev,t.ed)):=by kernel_rfl
theorem HO:∀t∈Io,t.dp≤2:=by decide +kernel
theorem NM{c:Nat}(h:c∈ah 49):∃t:FT,t.dp≤2∧bo 0 c=t.ev∧aZ c=t.ed:=by
 have z:=az IP h
 cases q:Io[c]? with
 |none=>rw[q] at z; exact al z.symm
 |some t=>rw[q] at z; exact⟨t,HO t (List.mem_of_getElem? q),Prod.mk.inj (sI z)⟩
noncomputable def wq(F:Nat→LR)(D:List Nat)(l:List Nat):LR:=List.rec (.ok D) (λx _ _=>F x) l
noncomputable def dW(q:Ad×Ad×Ad)(O:List Nat)(r:LR):List (ax AV×ac):=[(fK r,lB q (oL O r) (dL r))]
noncomputable def p0(t:AV)(l:ao):Ev:=⟨170,xG.sc,(80, .obj 25)::(7,t)::l,[]⟩
variable {sp:Sp}{q:Ad×Ad×Ad}{O D:List Nat}{res:LR}
noncomputable def uT(q:Ad×Ad×Ad)(O:List Nat)(l:ao)(r:LR):List (ax (Fl×ao)×ac):=i6 (lB q O) (lB q) l r
theorem HJ(l:ao):bind (some (dW q O res)) (λ_ σ=>af (Fl.next,l) σ)=some (uT q O l res):=by cases res <;> rfl
theorem J4(l:ao):bind (some (uT q O l res)) (λp σ=>af (cE p) σ)=some (dW q O res):=by cases res <;> rfl
theorem xK{t:AV}{l:ao}(h:(R tabs sp aJ 10).s (p0 t []) xG.body (lB q O D)=some (uT q O l res)):bv tabs (R tabs sp aJ 10) (.g 171) [.obj 25,t] (lB q O D)=some (dW q O res):=
 (show _=bind ((R tabs sp aJ 10).s (p0 t []) xG.body (lB q O D)) λp σ=>af (cE p) σ from rfl).trans (h▸J4 l)
theorem zG:bv tabs (R tabs bR aJ 10) (.g 171) [.obj 25,cH] (lB q O D)=some (dW q O (.ok D)):=by kernel_rfl
theorem Ii(t:AV):bv tabs (R tabs bR aJ 10) (.g 171) [.obj 25,nC t] (lB q O D)=some (dW q O (.ok D)):=by kernel_rfl
theorem JH(t:AV):bv tabs (R tabs bR aJ 10) (.g 171) [.obj 25,pW 168 false t] (lB q O D)=some (dW q O (.ok D)):=by kernel_rfl
theorem vh{o:ME}{x:Nat}{as:List ME}{pa p p':Pos}{ev:Ev}{f:Nat}{vs:List AV}(h0:(Nat.beq pa.endLine p.line&&Nat.ble (len as) 20)=true)(h1:(R tabs sp aJ (k+1)).e ev o (lB q O D)=af (.obj 25) (lB q O D))(h2:iK tabs (.obj 25) x (lB q O D)=some (.fn f))(h3:fw (R tabs sp aJ (k+1)) ev as (lB q O D)=af vs (lB q O D))(h4:w6 tabs f=true)
  (h5:sp (.g f) (.obj 25::vs) (lB q O D)=some (some (dW q O res))):(R tabs sp aJ (k+3)).s ev [.expr (.meth o x as pa p) p'] (lB q O D)=some (uT q O ev.loc res):=
 aQ rfl ((nP h0 h1 h2 h3 h4).trans ((cA0 (bind · _) (cg h5)).trans (HJ _)))
theorem Dx{x:Nat}(he:sp (.g 116) [aF x] (lB q O D)=some (af (aF x) (lB q O D)))(hl:sp (.g 178) [.obj 25,aF x] (lB q O D)=some (some (dW q O res))):bv tabs (R tabs sp aJ 10) (.g 171) [.obj 25,aF x] (lB q O D)=some (dW q O res):=
 xK (iF (σ1:=lB q O D) (loc:=(p0 (aF x) [(6, .str 14)]).loc) rfl (by kernel_rfl) (aQ rfl ((bl (q:=false) (σ1:=lB q O D) (by kernel_rfl)).trans (aQ rfl ((bl (q:=false) (σ1:=lB q O D) (by kernel_rfl)).trans (aQ rfl ((bl (q:=true) (σ1:=lB q O D) (by kernel_rfl)).trans
  (vh (vs:=[aF x]) rfl (by kernel_rfl) (by kernel_rfl) (mr (bt (a:= .g 116) (vs:=[aF x]) (σ1:=lB q O D) (by kernel_rfl) (by kernel_rfl) (by kernel_rfl) (by kernel_rfl) (cg he))) (by kernel_rfl) hl))))))))
theorem J5{t:AV}(hl:sp (.g 171) [.obj 25,t] (lB q O D)=some (some (dW q O res))):bv tabs (R tabs sp aJ 10) (.g 171) [.obj 25,sr t] (lB q O D)=some (dW q O res):=
 xK (iF (σ1:=lB q O D) (loc:=(p0 (sr t) [(6, .str 11)]).loc) rfl (by kernel_rfl) (aQ rfl ((bl (q:=true) (σ1:=lB q O D) (by kernel_rfl)).trans (vh (vs:=[t]) rfl (by kernel_rfl) (by kernel_rfl) (by kernel_rfl) (by kernel_rfl) hl))))
end
section
variable {sp:Sp}{q:Ad×Ad×Ad}{O D:List Nat}{res:LR}
noncomputable def Am(t v:AV):Ev:=p0 (mf [cH,t]) [(6, .str 13),(29,v)]
theorem AK{t:AV}(h0:sp (.g 171) [.obj 25,cH] (lB q O D)=some (some (dW q O (.ok D))))(hl:sp (.g 171) [.obj 25,t] (lB q O D)=some (some (dW q O res))):bv tabs (R tabs sp aJ 10) (.g 171) [.obj 25,mf [cH,t]] (lB q O D)=some (dW q O res):=by
 have body:∀{v:AV}{res:LR},sp (.g 171) [.obj 25,v] (lB q O D)=some (some (dW q O res))→(R tabs sp aJ 6).s (Am t v) [.expr (.meth (.name 80 (pz 141 16 20)) 85 [(.name 29 (pz 141 26 30))] (pz 141 16 25) (pz 141 16 31)) (pz 141 16 31)] (lB q O D)=some (uT q O (Am t v).loc res):=
  λ{v res} h=>vh (vs:=[v]) rfl (by kernel_rfl) (by kernel_rfl) (by kernel_rfl) (by kernel_rfl) h
 refine xK (l:=(Am t t).loc) (iF (σ1:=lB q O D) (loc:=(p0 (mf [cH,t]) [(6, .str 13)]).loc) rfl (by kernel_rfl) (aQ rfl ((bl (q:=false) (σ1:=lB q O D) (by kernel_rfl)).trans (aQ rfl ((bl (q:=true) (σ1:=lB q O D) (by kernel_rfl)).trans (aQ rfl ((d7 (i:= .seq (.tup [cH,t])) (σ1:=lB q O D) (by kernel_rfl) rfl).trans
  (dB (m:=999) (v:=cH) (loc1:=(Am t cH).loc) (σ1:=lB q O D) rfl rfl (by kernel_rfl) (bq (body h0) (dB (m:=998) (v:=t) (loc1:=(Am t t).loc) (σ1:=lB q O D) rfl rfl (by kernel_rfl) ?_))))))))))
 have y:=body hl
 cases res with
 |ok D'=>exact bq y (ff (m:=997) rfl rfl)
 |bad O' D'=>exact bx y
end
section
variable {q:Ad×Ad×Ad}{O D:List Nat}
theorem ND(O' D':List Nat):hm O' D' (lB q O D)=lB q O' D':=by kernel_rfl
theorem lq(r:LR):mh O (lB q O D) r=dW q O r:=cA0 (λσ=>[(fK r,σ)]) (ND _ _)
theorem dQ{m f':Nat}{sp:Sp}{t:AV}{res:LR}(T:aE K)(dz:DZ w K)(rz:RZ w K)(hp:bK w K m sp)(e:bv tabs (R tabs sp aJ n) (.g f') [.obj 25,t] (lB q O D)=some (dW q O res))(c:dJ t=true)(h:Hd q O D σ):am w K (m+n+1) (.g f') [.obj 25,t] σ (mh O σ res):=
 mi (am.body T dz rz hp aH e) (jM _ _ _) (Nat.le_of_eq (yO _ _ _).symm) (.g _) (.cons (.obj 25 ⟨rfl,rfl⟩) (.cons (.refl c) .nil)) h
theorem MA(x:Nat):DI (.g 116) [aF x] (lB q O D)=some (af (aF x) (lB q O D)):=by kernel_rfl
theorem Km{t:FT}(h:t.ev=cH):t = .num:=by
 have z:=cA0 (λa=>Option.rec (motive:=λ_=>Bool) false (λk=>Nat.beq k 39) (ob (tV a) λl=>ob (aY l 0) sV)) h
 cases t <;> first|rfl |exact aV z
theorem vZ{m:Nat}{F:Nat→LR}(T:aE K)(dz:DZ w K)(rz:RZ w K)(hm:30≤m)(t:FT):(∀x∈t.ed,am w K m (.g 178) [.obj 25,aF x] (lB q O D) (dW q O (F x)))→dJ t.ev=true→∀σ,Hd q O D σ→am w K (m+11 * (t.dp+1)) (.g 171) [.obj 25,t.ev] σ (mh O σ (wq F D t.ed)):=by
 have le:∀{a b:Nat},0+10+1≤a+11 * (b+1):=λ{a b}=>lE0 (Nat.le_mul_of_pos_right 11 (Nat.succ_pos b)) (Nat.le_add_left _ a)
 have h0:am w K (0+10+1) (.g 171) [.obj 25,cH] (lB q O D) (dW q O (.ok D)):=lq (.ok D)▸dQ (m:=0) T dz rz bf zG (by decide +kernel) (o9 q O D)
 induction t with
 |num=>exact λ_ c σ h=>(dQ (m:=0) T dz rz bf zG c h).up le
 |box t=>exact λ_ c σ h=>(dQ (m:=0) T dz rz bf (Ii t) c h).up le
 |ref t=>exact λ_ c σ h=>(dQ (m:=0) T dz rz bf (JH t) c h).up le
 |whole x=>exact λhl c σ h=>dQ T dz rz ((bM (hl x (.head _))).sp2 ((xX T dz rz).up hm)) (Dx ((bP rfl).trans (MA x)) (dU bF)) c h
 |tup t ih=>
  intro hl c σ h
  have ct:dJ t.ev=true:=aw (show((dJ t.ev&&true)&&true)=true from c) λc _=>aw c λc _=>c
  have h1:=lq (wq F D t.ed)▸ih hl ct _ (o9 q O D)
  by_cases hn:t.ev=cH
  ·have ht:=Km hn
   subst ht
   exact dQ (m:=m+11 * (FT.num.dp+1)) (n:=10) T dz rz ((bM h0).up le) (AK bF bF) c h
  ·exact dQ (m:=m+11 * (t.dp+1)) (n:=10) T dz rz (((bM h0).up le).sp2 (bM h1)) (AK (dU bF) ((bP (Gu λz=>hn (List.cons.inj (List.cons.inj z).2).1)).trans bF)) c h
 |arr t ih=>
  intro hl c σ h
  have ct:dJ t.ev=true:=aw (show(dJ t.ev&&true)=true from c) λc _=>c
  have h1:=lq (wq F D t.ed)▸ih hl ct _ (o9 q O D)
  exact dQ (m:=m+11 * (t.dp+1)) (n:=10) T dz rz (bM h1) (J5 bF) c h
end
noncomputable def jR(F:List Nat→Nat→LR)(D:List Nat)(c:Nat):LR:=wq (F D) D (aZ c)
noncomputable def cF(f:List Nat→Nat→LR)(O D fs:List Nat)(x:Nat):LR:=Bool.rec (Bool.rec (LR.rec (λD=> .ok (D++[x])) .bad (d0 f D fs)) (.bad O D) (aB x O)) (.ok D) (aB x D)
noncomputable def la(g:Nat→List Nat)(n:Nat):List Nat→List Nat→Nat→LR:=Nat.rec (λO D x=>Bool.rec (.bad O D) (.ok D) (aB x D)) (λ_ ih O D x=>cF (jR (ih (O++[x]))) O D (g x) x) n
noncomputable def rh(a b c:Bool):Nat:=cond a 0 1+cond b 0 1+cond c 0 1
noncomputable def o7(l:List Nat):Nat:=rh (aB 162 l) (aB 163 l) (aB 164 l)
noncomputable def J0(l:List Nat):Prop:=l.length+o7 l=3
theorem cN(y x:Nat)(l:List Nat):aB y (l++[x])=(aB y l||Nat.beq y x):=(List.any_append).trans (cA0 (aB y l||·) (Bool.or_false _))
theorem ko{l:List Nat}:∀x∈aI,aB x l=false→o7 (l++[x])+1=o7 l:=
 have e:∀x,o7 (l++[x])=rh (aB 162 l||Nat.beq 162 x) (aB 163 l||Nat.beq 163 x) (aB 164 l||Nat.beq 164 x):=λx=>by unfold o7; rw[cN,cN,cN]
 ez (λh=>(cA0 (· + 1) (e 162)).trans ((by decide:∀a b c,a=false→rh (a||true) (b||false) (c||false)+1=rh a b c) _ _ _ h))
  (λh=>(cA0 (· + 1) (e 163)).trans ((by decide:∀a b c,b=false→rh (a||false) (b||true) (c||false)+1=rh a b c) _ _ _ h))
  (λh=>(cA0 (· + 1) (e 164)).trans ((by decide:∀a b c,c=false→rh (a||false) (b||false) (c||true)+1=rh a b c) _ _ _ h))
theorem wT{x:Nat}{l:List Nat}(hx:x∈aI)(h:aB x l=false)(hl:J0 l):J0 (l++[x]):=by
 unfold J0
 rw[List.length_append]
 exact(Nat.succ_add_eq_add_succ _ _).trans ((cA0 (l.length + ·) (ko x hx h)).trans hl)
theorem pf{l:List Nat}(h:J0 l):l.length≤3:=h▸Nat.le_add_right _ _
theorem AR:J0 []:=rfl
theorem sx{x:Nat}{l:List Nat}(hx:x∈aI)(h:o7 l=0):aB x l=true:=by
 cases q:aB x l with
 |true=>rfl
 |false=>exact nomatch (ko x hx q).trans h
theorem EY{r:LR}{A:List Nat→LR}{D':List Nat}{C:Prop}(h:LR.rec (motive:=λ_=>LR) A .bad r = .ok D')(k:∀D2,r = .ok D2→A D2 = .ok D'→C):C:=by
 cases r with
 |ok D2=>exact k D2 rfl h
 |bad=>exact LR.noConfusion h
theorem p9{I:List Nat→Prop}{f:List Nat→Nat→LR}{fs:List Nat}(hI:∀s v s',I s→v∈fs→f s v = .ok s'→I s'){gs D D':List Nat}(e:d0 f D gs = .ok D')(hm:∀v∈gs,v∈fs)(h:I D):I D':=by
 induction gs generalizing D with
 |nil=>exact(LR.ok.inj e)▸h
 |cons c cs ih=>exact EY e λD2 q e=>ih e (λv h=>hm v (.tail _ h)) (hI _ _ _ h (hm c (.head _)) q)
theorem Er{f:List Nat→Nat→LR}{O D D' fs:List Nat}{x:Nat}{C:Prop}(h:cF f O D fs x = .ok D')(k1:aB x D=true→D=D'→C)(k2:∀D2,aB x D=false→aB x O=false→d0 f D fs = .ok D2→D2++[x]=D'→C):C:=by
 unfold cF at h
 cases q:aB x D with
 |true=>rw[q] at h; exact k1 q (LR.ok.inj h)
 |false=>
  rw[q] at h
  cases q2:aB x O with
  |true=>rw[q2] at h; exact LR.noConfusion h
  |false=>rw[q2] at h; exact EY h λD2 z e=>k2 D2 q q2 z (LR.ok.inj e)
section
variable {g:Nat→List Nat}
noncomputable def NZ(g:Nat→List Nat):Prop:=∀x,∀c∈g x,∀y∈aZ c,y∈aI
noncomputable def Kp(O D D':List Nat):Prop:=J0 D'∧∀y,aB y O=true→aB y D=false→aB y D'=false
theorem Kp.refl{O D:List Nat}(h:J0 D):Kp O D D:=⟨h,λ_ _ q=>q⟩
theorem HT{O:List Nat}{f:List Nat→Nat→LR}{fs:List Nat}(hf:∀s v s',J0 s→v∈fs→f s v = .ok s'→Kp O s s'){D D':List Nat}(h:d0 f D fs = .ok D')(hD:J0 D):Kp O D D':=
 p9 (I:=λs=>Kp O D s) (λs v s' hs hv e=>⟨(hf s v s' hs.1 hv e).1,λy h1 h2=>(hf s v s' hs.1 hv e).2 y h1 (hs.2 y h1 h2)⟩) h (λ_ h=>h) (Kp.refl hD)
theorem BC{O:List Nat}{F:Nat→LR}{D D':List Nat}{l:List Nat}(hF:∀y∈l,F y = .ok D'→Kp O D D')(h:wq F D l = .ok D')(hD:J0 D):Kp O D D':=by
 cases l with
 |nil=>exact LR.ok.inj h▸ .refl hD
 |cons y r=>exact hF y (.head _) h
theorem Eu(hg:NZ g)(n:Nat){O D D':List Nat}{x:Nat}(hx:x∈aI)(hD:J0 D)(h:la g n O D x = .ok D'):Kp O D D':=by
 induction n generalizing O D D' x with
 |zero=>
  have h:Bool.rec (motive:=λ_=>LR) (.bad O D) (.ok D) (aB x D) = .ok D':=h
  cases q:aB x D with
  |true=>rw[q] at h; exact LR.ok.inj h▸ .refl hD
  |false=>rw[q] at h; exact LR.noConfusion h
 |succ n ih=>exact Er h (λ_ e=>e▸ .refl hD) λD2 q q2 q3 e=>
   have k:Kp (O++[x]) D D2:=HT (λs v s' hs hv e=>BC (λy hy e=>ih (hg x v hv y hy) hs e) e hs) q3 hD
   have sn:∀y,aB y O=true→aB y (O++[x])=true:=λy h=>(cN y x O).trans (cA0 (·||Nat.beq y x) h)
   have kx:aB x D2=false:=k.2 x ((cN x x O).trans (by rw[Nat.beq_refl,Bool.or_true])) q
   e▸⟨wT hx kx k.1,λy h1 h2=>(cN y x D2).trans (by
    have ne:y≠x:=λz=>aV (q2.symm.trans (z▸h1))
    rw[k.2 y (sn y h1) h2,br ne]; rfl)⟩
end
section
variable {s1 s2:dY}{q:Ad×Ad×Ad}{O D fs:List Nat}{x:Nat}
noncomputable def dy(x:Nat)(l:ao):Ev:=⟨177,gQ.sc,(80, .obj 25)::(7,aF x)::l,[]⟩
noncomputable def cz(q:Ad×Ad×Ad)(fs O D:List Nat):ac:=(lB q O D).push (.list (fs.map (.tok 0)))
noncomputable abbrev g9(s1 s2:dY)(n:Nat):=R tabs (sp2 (bh 150 s1) (sp2 (bh 171 s2) DI)) aJ n
noncomputable def Qo(i:Nat):MS:=gQ.body.getD i (.ret0 (pz 0 0 0))
theorem vR(a b:Nat):Nat.beq a b=Nat.beq b a:=if h:a=b then h▸rfl else(br h).trans (br (Ne.symm h)).symm
theorem mm(x:Nat)(l:List Nat):c9 σ (aF x) (l.map lM)=some (aB x l):=by
 induction l with
 |nil=>rfl
 |cons y l ih=>
  have e:=vR y x
  exact oq (a:=true&&(Nat.beq y x&&true)) rfl (oq ih (cA0 some (by rw[e,Bool.and_true,Bool.true_and]; rfl)))
theorem mJ{l:List AV}{v:AV}{p:Bool}(h:σ.get i=some (.list l))(e:c9 σ v l=some p):gw .In v (.obj i) σ=some p:=by
 show aO (ob (lO (σ.get i)) λl=>c9 σ v l) _=_
 rw[h]
 show aO (c9 σ v l) _=_
 rw[e]; rfl
noncomputable def hv{α:Type}(n:Nat)(o:aj α):Option (ax α×List (Option ai)):=ob o λl=>ob (one l) λp=>gd (Nat.ble n p.2.n) (some (p.1,(ah n).map p.2.get))
theorem Nf{α:Type}{o:aj α}{r:ax α}{g:List (Option ai)}{C:Prop}(h:hv n o=some (r,g))(k:∀σ,o=some [(r,σ)]→(ah n).map σ.get=g→n≤σ.n→C):C:=
 aa h λl q h=>aa h λp q1 h=>ay h λz h=>have e:=Prod.mk.inj (sI h); k p.2 (q.trans (cA0 some ((cB q1).trans (cA0 (λr=>[(r,p.2)]) e.1)))) e.2 (lB0 z)
theorem B3:hv 28 (ba tabs (g9 s1 s2 11) (dy x []) (.rais 89 (pz 149 18 27) [(.bin .Add (.str 90 (pz 149 28 51)) (.call (.name 46 (pz 149 54 63)) [(.name 7 (pz 149 64 68))] (pz 149 54 69)) (pz 149 28 69))] (pz 149 18 70) (pz 149 12 70)) (lB q O D))=some (.exc 0,(kh q O D).map some):=by kernel_rfl
end
section
variable {sp:Sp}{ss:Ss}{ev:Ev}{o a:ME}{pa p p':Pos}{l:List AV}{v:AV}
theorem vi{x:Nat}{m:d8}(h:σ.get i=some (.list l))(e:look x [(0,d8.app),(1, .extend),(2, .pop)]=some m):iK tabs (.obj i) x σ=some m:=by
 show aO (aO (ob (iO (σ.get i)) _) (aO (ob (lO (σ.get i)) λ_=>look x [(0,d8.app),(1, .extend),(2, .pop)]) _)) _=_
 rw[h,e]; rfl
theorem iP(h:n≤4000):bc n=true:=Nat.ble_eq_true_of_le h
theorem vd{r:aP}(hl:σ.get i=some (.list l))(hn:l.length≤4000):jT r .app (.obj i) [v] σ=af .none (σ.set i (.list (l++[v]))):=by
 show ob (lO (σ.get i)) (λl=>xL i l [v] σ)=_
 rw[hl]
 show gd (bc (len l)) _=_
 rw[aM,iP hn]; rfl
theorem oB(h0:Nat.beq pa.endLine p.line=true)(h1:(R tabs sp ss k).e ev o σ=af (.obj i) σ)(hl:σ.get i=some (.list l))(h3:(R tabs sp ss k).e ev a σ=af v σ)(hn:l.length≤4000) :
  ba tabs (R tabs sp ss (k+1)) ev (.expr (.meth o 0 [a] pa p) p') σ=af (.next,ev.loc) (σ.set i (.list (l++[v]))):=
 (gh rfl).trans (bq (ij (by rw[h0]; rfl) h1 (vi hl rfl) (mr h3) rfl (vd hl hn)) rfl)
theorem Ce{r:aP}(hl:σ.get i=some (.list (l++[v])))(hn:l.length<4000):jT r .pop (.obj i) [] σ=af v (σ.set i (.list l)):=by
 show ob (lO (σ.get i)) (λl=>xO i l [] σ)=_
 rw[hl]
 show ob (aY (l++[v]) (len (l++[v])-1)) _=_
 rw[aM,List.length_append,d5,show l.length + [v].length-1=l.length from rfl,List.getElem?_concat_length]
 rw[iP (show l.length + [v].length≤4000 from hn),nu,List.take_left]; rfl
theorem Ha(h0:Nat.beq pa.endLine p.line=true)(h1:(R tabs sp ss k).e ev o σ=af (.obj i) σ)(hl:σ.get i=some (.list (l++[v])))(hn:l.length<4000) :
  ba tabs (R tabs sp ss (k+1)) ev (.expr (.meth o 2 [] pa p) p') σ=af (.next,ev.loc) (σ.set i (.list l)):=
 (gh rfl).trans (bq (ij (by rw[h0]; rfl) h1 (vi hl rfl) (vs:=[]) rfl rfl (Ce hl hn)) rfl)
end
theorem ValsR.inv0{h:Heap}{vs:List Value}(r:ValsR h β n [] vs):vs=[]:=r.nilE rfl
theorem ValsR.inv1{h:Heap}{x:AV}{l:List AV}{vs:List Value}(r:ValsR h β n (x::l) vs):∃v us,vs=v::us∧ak h β n x v∧ValsR h β n l us:=r.consE λu us hx hl=>⟨u,us,rfl,hx,hl⟩
theorem dC:plainId "dict.update.loop" = true:=by decide +kernel
theorem hM:entryFor table "dict.update.loop" = some Builtin.«dict.update.loop»:=entryFor_of_fast (by kernel_rfl)
section
variable {R:Result→Shared→Prop}{nn:Nat}{h0:Heap}{D z:Addr}{W:Addr→Prop}{P:Nat→Heap→Prop}{xs ys:List Value}
theorem B6(w1:∀a,W a→h0.objs.size≤a)(wD:¬W D)(hD0:h0.objs.size≤D)(keep:∀k h h',P k h→Heap.SameBut D h h'→P k h')
  (next:∀{k h tk os Q E},P k h→(∀x y,xs[k]?=some x→ys[k]?=some y→∀h',P (k+1) h'→IsPair h' h.objs.size x y→(∀c o,¬W c→h.get? c=some o→h'.get? c=some o)→Q (some (.ref h.objs.size)) ⟨h',g,d,tk,os⟩)→
   (xs[k]?=none∨ys[k]?=none→∀h',(∀c o,¬W c→h.get? c=some o→h'.get? c=some o)→Q none ⟨h',g,d,tk,os⟩)→wpAny (model ad w) A.in1 (pyNext (.ref z)) Q E ⟨h,g,d,tk,os⟩)
  {l m:List AV} {k:Nat} {it:Int} {tk tk0:Nat} {dl dl':List (AV×AV)} {kvs:List (Str×Value)} {h:Heap} (hl:ValsR h0 β nn l (xs.drop k)) (hm:ValsR h0 β nn m (ys.drop k)) (hs:nS l=true) (ht:jv l m dl=some dl')
  (hP:P k h) (hDd:h.DictOf (strKind ad w) D kvs) (hE:aN h0 β nn dl kvs) (hk:∀c o,h0.get? c=some o→h.get? c=some o) (hR:∀h' tk' kvs',(∀c o,h0.get? c=some o→h'.get? c=some o)→h'.DictOf (strKind ad w) D kvs'→aN h0 β nn dl' kvs'→R (.ok (.ret .none)) ⟨h',g,d,tk',os⟩) :
  codeAny (model ad w) A (.builtin "dict.update.loop" ⟨[.ref D, .ref z, .int it tk0, .none],[]⟩) R ⟨h,g,d,tk,os⟩:=by
 have old:∀{c o a},h0.get? c=some o→h0.objs.size≤a→c≠a:=λe ha=>Nat.ne_of_lt (lT0 (Heap.lt_size e) ha)
 have stop:∀{dl k h tk it tk0 kvs},dl=dl'→(∀x y,xs[k]?=some x→ys[k]?=some y→False)→P k h→h.DictOf (strKind ad w) D kvs→aN h0 β nn dl kvs→(∀c o,h0.get? c=some o→h.get? c=some o)→codeAny (model ad w) A (.builtin "dict.update.loop" ⟨[.ref D, .ref z, .int it tk0, .none],[]⟩) R ⟨h,g,d,tk,os⟩:=λ{dl k h tk it tk0 kvs} hd hno hP hDd hE hk=>by
  refine codeAny_builtin hM ?_
  rw[Around.under_plainId dC _]
  exact wpAny_bind (m:=pyNext (.ref z)) (next hP (λx y hx hy=>(hno x y hx hy).elim) λ_ h' hk'=>wpAny_bind (m:=Builtin.Dict.addKeywords D []) (wpAny_pure (wpAny_pure (hR h' _ kvs (λc o e=>hk' c o (λx=>old e (w1 c x) rfl) (hk c o e)) (hDd.at λo e=>hk' D o wD e) (hd▸hE)))))
 induction l generalizing m k it tk tk0 dl kvs h with
 |nil=>exact stop (by cases m <;> exact sI ht) (λx y hx=>al ((List.getElem?_eq_none_iff.mpr (List.drop_eq_nil_iff.mp hl.inv0)).symm.trans hx)) hP hDd hE hk
 |cons a l ih=>
  cases m with
  |nil=>exact stop (sI ht) (λx y _ hy=>al ((List.getElem?_eq_none_iff.mpr (List.drop_eq_nil_iff.mp hm.inv0)).symm.trans hy)) hP hDd hE hk
  |cons b m=>
   refine aw hs λhs1 hs2=>(Option.isSome_iff_exists.mp hs1).elim λkk qk=>aa ht λd1 qd ht=>ay qd λq3 qd=>aw q3 λ_ q4=>hl.inv1.elim λv zl=>zl.elim λus zl=>hm.inv1.elim λy' zm=>zm.elim λus2 zm=>?_
   rw[eI qk] at zl qd
   refine zl.2.1.inv.elim λt et=>?_
   rw[et] at zl
   have hx':∀x,xs[k]?=some x→x = .str (ae kk) t:=λx hx=>sI (hx.symm.trans (by rw[←List.head?_drop,zl.1]; rfl))
   have hy':∀y,ys[k]?=some y→y=y':=λy hy=>sI (hy.symm.trans (by rw[←List.head?_drop,zm.1]; rfl))
   have ih':=@ih m (k+1)
   rw[←List.tail_drop,←List.tail_drop,zl.1,zm.1] at ih'
   refine codeAny_builtin hM ?_
   rw[Around.under_plainId dC _]
   refine wpAny_bind (m:=pyNext (.ref z)) (next hP (λx y hx hy h' P1 q1 hk'=>?_) λhend=>hend.elim (λq=>al (q.symm.trans (show xs[k]?=some v by rw[←List.head?_drop,zl.1,et]; rfl))) λq=>al (q.symm.trans (show ys[k]?=some y' by rw[←List.head?_drop,zm.1]; rfl)))
   rw[hx' x hx,hy' y hy] at q1
   refine wpAny_bind (wpAny_holding (wpAny_bind (wpAny_tryCatch (wpAny_bind (wpAny_typeOf (T:="tuple") ⟨_,q1,rfl⟩ ?_)))))
   rw[if_pos (by decide)]
   exact wpAny_bind (wpAny_bind (m:=load h.objs.size) (wpAny_load q1 (wpAny_pure (wpAny_pure (wpAny_holding (m:=dictSet D (.str (ae kk) t) y') (wpAny_dictSet_pairs (knd:=strKind ad w) (strKind_is ad w _ _) (hDd.at λo e=>hk' D o wD e) (λh2 D2 hs2'=>wpAny_pure ⟨plainId_quiet dC _,
    ih' zl.2.2 zm.2.2 hs2 ht (keep _ _ _ P1 hs2') D2 (sI qd▸aN.put zm.2.1 hE (j9 hDd)) (λc o e=>(hs2'.2 c (old e hD0)).trans (hk' c o (λx=>old e (w1 c x) rfl) (hk c o e)))⟩) (mt hE.length (aM dl▸lB0 q4))))))))
end
section
variable {h:Heap}{Q:Value→Shared→Prop}{l m:List AV}{dl:List (AV×AV)}{xs ys:List Value}{c1 c2:Addr}
theorem IF(S:Sit w K A frs h β σ)(hs:nS l=true)(ht:jv l m []=some dl)(t1:h.IsTuple c1 xs.toArray)(t2:h.IsTuple c2 ys.toArray)(x1:ValsR h β σ.n l xs)(x2:ValsR h β σ.n m ys)(P:Post w os (λ_=>False) frs h β σ [(.ok (.obj σ.n),σ.push (.dict dl))] bO Q E)
  (z4:IsZip h' (h.objs.size+4) (h.objs.size+2) (h.objs.size+3) .none) (z2:IsPair h' (h.objs.size+2) (.ref h.objs.size) (.ref (h.objs.size+1))) (z3:IsPair h' (h.objs.size+3) .none .none) (i1:h'.IsTupleIter h.objs.size c1 0) (i2:h'.IsTupleIter (h.objs.size+1) c2 0) (hsz:h'.objs.size=h.objs.size+5)
  (k:∀c o,h.get? c=some o→h'.get? c=some o):wpAny (model ad w) A (call (.type "dict") [.ref (h.objs.size+4)]) Q E ⟨h',g,d,tk,os⟩:=by
 have l1:c1<h.objs.size:=t1.elim λo z=>Heap.lt_size z.1
 have l2:c2<h.objs.size:=t2.elim λo z=>Heap.lt_size z.1
 have N:∀i j:Nat,i≠j→h.objs.size+i≠h.objs.size+j:=λi j hj e=>hj (Nat.add_left_cancel e)
 have L:∀{c},c<h.objs.size→∀j,c≠h.objs.size+j:=λhc j=>Nat.ne_of_lt (lT0 hc (Nat.le_add_right _ _))
 have hw:∀a,(a=h.objs.size+4∨a=h.objs.size+3∨a=h.objs.size∨a=h.objs.size+1)→∃j,j<5∧a=h.objs.size+j:=λa z=>z.elim (λz=>⟨4,by decide,z⟩) λz=>z.elim (λz=>⟨3,by decide,z⟩) λz=>z.elim (λz=>⟨0,by decide,z⟩) λz=>⟨1,by decide,z⟩
 have Dp:ZipApart (h.objs.size+4) (h.objs.size+2) (h.objs.size+3) h.objs.size (h.objs.size+1) c1 c2:=⟨N 2 4 (by decide),N 3 4 (by decide),N 0 4 (by decide),N 1 4 (by decide),N 2 3 (by decide),N 2 0 (by decide),N 2 1 (by decide),N 3 0 (by decide),N 3 1 (by decide),N 0 1 (by decide),
  L l1 4,L l1 3,L l1 0,L l1 1,L l2 4,L l2 3,L l2 0,L l2 1⟩
 have N1:=db.tuple (w:=w) (A:=A.in1.in1.in1) S.hh (L l1 0) xs
 have N2:=db.tuple (w:=w) (A:=A.in1.in1.in1) S.hh (L l2 1) ys
 refine callType_codes (Q₁:=λobj s₁=>obj = .ref h'.objs.size∧s₁=⟨h'.push { cls:= .type "dict",data:= .dict #[] },g,d,tk,os⟩) F.kt_called_dict (F.kt_typeCall_dict_1 _) F.entry_dict_init (kt_code_dict_new _ ⟨rfl,rfl⟩) λobj s₁ z=>?_
 rw[z.1,z.2]
 have hnew:(h'.push { cls:= .type "dict",data:= .dict #[] }).DictOf (strKind ad w) h'.objs.size []:=Heap.DictOf.new h'
 refine⟨hnew.typeIs,F.args_dict_init_2 _ _,wpAny_bind (m:=Builtin.Dict.selfAndRest _ _) (wpAny_bind (wpAny_notOrdered_dict hnew.typeIs (wpAny_pure (a:=(h'.objs.size,[Value.ref (h.objs.size+4)])) (wpAny_bind (wpAny_typeOf (T:="zip") ⟨_,Heap.get?_push_of_some _ z4,rfl⟩ ?_)))))⟩
 rw[if_pos (by decide)]
 refine wpAny_bind (xW (s:=⟨h'.push { cls:= .type "dict",data:= .dict #[] },g,d,tk,os⟩) (Heap.get?_push_of_some _ z4) S.hh λh2 tk2 k2=>wpAny_bind (wpAny_rule (wpAny_bind (m:=pyIter (.ref (h.objs.size+4))) (wpAny_pyIter_zip (k2 _ _ (Heap.get?_push_of_some _ z4)) (wpAny_pure ⟨plainId_quiet dC _,?_⟩)))))
 have up:∀{c o},h'.get? c=some o→h2.get? c=some o:=λe=>k2 _ _ (Heap.get?_push_of_some _ e)
 have hD2:h2.DictOf (strKind ad w) h'.objs.size []:=hnew.at λo e=>k2 _ _ e
 have kp:∀{c:Addr}{g g':Heap},c≠h'.objs.size→Heap.SameBut h'.objs.size g g'→∀o,g.get? c=some o→g'.get? c=some o:=λhc s o e=>(s.2 _ hc).trans e
 have nD:∀j,j<5→h.objs.size+j≠h'.objs.size:=λj hj=>hsz▸N j 5 (Nat.ne_of_lt hj)
 refine B6 (h0:=h) (β:=β) (nn:=σ.n) (W:=λa=>a=h.objs.size+4∨a=h.objs.size+3∨a=h.objs.size∨a=h.objs.size+1) (P:=λk gg=>ZS gg (h.objs.size+4) (h.objs.size+2) (h.objs.size+3) (h'.objs.size+1)∧IsPair gg (h.objs.size+2) (.ref h.objs.size) (.ref (h.objs.size+1))∧
   (gg.IsTupleIter h.objs.size c1 k∧gg.IsTuple c1 xs.toArray)∧(gg.IsTupleIter (h.objs.size+1) c2 k∧gg.IsTuple c2 ys.toArray)∧h'.objs.size+1≤gg.objs.size) (xs:=xs) (ys:=ys)
  (λa z=>(hw a z).elim λj z=>z.2▸Nat.le_add_right _ _) (λz=>(hw _ z).elim λj z=>nD j z.1 z.2.symm) (hsz▸Nat.le_add_right _ _) (λk g1 g2 p s=>⟨p.1.imp (λy=>⟨kp (nD 4 (by decide)) s _ y.1,y.2.imp λu y=>y.imp λv y=>kp (nD 3 (by decide)) s _ y⟩) λy=>y.imp λT y=>y.imp λb y=>⟨kp (nD 4 (by decide)) s _ y.1,y.2.1,y.2.2.imp λu z=>z.imp λv z=>kp (Nat.ne_of_gt y.2.1) s _ z⟩,
    kp (nD 2 (by decide)) s _ p.2.1,N1.1 _ _ _ p.2.2.1 λa z=>z.elim (λz=>z▸kp (nD 0 (by decide)) s) λz=>z▸kp (hsz▸L l1 5) s,N2.1 _ _ _ p.2.2.2.1 λa z=>z.elim (λz=>z▸kp (nD 1 (by decide)) s) λz=>z▸kp (hsz▸L l2 5) s,s.1▸p.2.2.2.2⟩)
  (λ{k g1 tk os Q E} p hQ hE=>Hp Dp N1 N2 (λc z=>(hw c z).elim λj z=>z.2▸hsz▸Nat.lt_succ_of_lt (Nat.add_lt_add_left z.1 _)) p.2.2.2.2 p.1 p.2.1 p.2.2.1 p.2.2.2.1 (λx y hx hy g2 a1 a3 a4 a5 a6 a7=>hQ x y hx hy g2 ⟨a1,a7 _ _ (N 2 4 (by decide)) (N 2 3 (by decide)) (N 2 0 (by decide)) (N 2 1 (by decide)) p.2.1,a3,a4,a6▸Nat.le_succ_of_le p.2.2.2.2⟩ a5
    λc o hc=>a7 c o (λz=>hc (.inl z)) (λz=>hc (.inr (.inl z))) (λz=>hc (.inr (.inr (.inl z)))) λz=>hc (.inr (.inr (.inr z)))) λhend g2 a7=>hE hend g2 λc o hc=>a7 c o (λz=>hc (.inl z)) (λz=>hc (.inr (.inl z))) (λz=>hc (.inr (.inr (.inl z)))) λz=>hc (.inr (.inr (.inr z))))
  x1 x2 hs ht ⟨.inl ⟨up z4,_,_,up z3⟩,up z2,N1.1 0 h' h2 ⟨i1,t1.imp λo z=>⟨k _ _ z.1,z.2⟩⟩ λa _ o e=>up e,N2.1 0 h' h2 ⟨i2,t2.imp λo z=>⟨k _ _ z.1,z.2⟩⟩ λa _ o e=>up e,(hD2.elim λo z=>z.elim λes z=>z.elim λep z=>Heap.lt_size z.1)⟩ hD2 .nil (λc o e=>up (k _ _ e))
  λh3 tk3 kvs k3 D3 E3=>⟨rfl,P.ok _ _ (.head _) _ (ext β σ.n h'.objs.size) h3 tk3 .new (ar.allocAt S.rel S.tab S.big k3 (hsz▸Nat.le_add_right _ _) (Nat.le_of_lt (Nat.lt_of_le_of_lt (hsz▸Nat.le_add_right _ _:h.objs.size≤h'.objs.size) (D3.elim λo z=>z.elim λes z=>z.elim λep z=>Heap.lt_size z.1)))
   (.inl ⟨kvs,D3,E3.mono (λ_ _ _ _ e=>k3 _ _ e) (λi hi=>bX hi) (Nat.le_succ _) (e9 λ_ _ z=>absurd (Heap.lt_size z) (Nat.not_lt.mpr (hsz▸Nat.le_add_right _ _)))⟩))⟩
end
theorem M9:DZ w K:=λ{A frs h β σ os tk E u v uu vv outs Q} S hu e ru rv P=>aa e λl q1 e=>aa e λm q2 e=>ay e λq e=>aw q λ_ q=>aw q λ_ hs=>aa e λdl q3 e=>ru.tE q1 λxs c1 ep1 t1 no1 x1=>rv.tE q2 λys c2 ep2 t2 no2 x2=>
 qU ⟨_,t1,rfl,_,rfl⟩ ⟨_,t2,rfl,_,rfl⟩ λh' z4 z2 z3 i1 i2 hsz k=>IF S hs q3 ⟨_,t1,rfl,_,rfl⟩ ⟨_,t2,rfl,_,rfl⟩ x1 x2 (P.eq e) z4 z2 z3 i1 i2 hsz k
section
variable {s1 s2:dY}{q:Ad×Ad×Ad}{O D fs:List Nat}{x:Nat}
theorem IU(hO:O.length≤3):(g9 s1 s2 11).t (dy x []) (.cmp .Gt (.call (.name 55 (pz 148 32 35)) [(.att (.name 80 (pz 148 36 40)) 81 (pz 148 36 45))] (pz 148 32 46)) (.name 88 (pz 148 49 58)) (pz 148 32 58)) (lB q O D)=af false (lB q O D):=match O,hO with
 |[],_=>by kernel_rfl
 |[_],_=>by kernel_rfl
 |[_,_],_=>by kernel_rfl
 |[_,_,_],_=>by kernel_rfl
 |_::_::_::_::_,h=>absurd h (Nat.not_le.mpr (Nat.le_add_left 4 _))
theorem qi(l:List Nat)(x:Nat):lV (l++[x]) = .list (l.map lM++[aF x]):=cA0 ai.list List.map_append
theorem F3:(lB q O D).set 26 (lV (O++[x]))=lB q (O++[x]) D:=by kernel_rfl
theorem IM(O':List Nat):(cz q fs O D).set 26 (lV O')=cz q fs O' D:=by kernel_rfl
theorem JD(D':List Nat):(cz q fs O D).set 27 (lV D')=cz q fs O D':=by kernel_rfl
theorem ig:(ah 28).map (cz q fs O D).get=(kh q O D).map some:=by kernel_rfl
theorem Ea:28≤(cz q fs O D).n:=lB0 (by kernel_rfl)
theorem G8{P:ao→Prop}{L1:AV→ao}(h:∀v,P (L1 v))(l:List AV){loc:ao}(p:P loc):P (Fa L1 loc l):=by
 induction l generalizing loc with
 |nil=>exact p
 |cons v l ih=>exact ih (h v)
theorem dE{α β:Type}(f:α→β)(l:List α)(k:Nat):aY (l.map f) k=(aY l k).map f:=(d5 _ _).trans (List.getElem?_map.trans (cA0 (Option.map f) (d5 _ _).symm))
noncomputable def N6(x:Nat)(l:ao):Prop:=l=(dy x []).loc∨∃v,l=(dy x [(29,v)]).loc
noncomputable def Qh:MS:=gQ.body.getD 3 (.ret0 (pz 0 0 0))
theorem zT{I:List Nat→Prop}{f:List Nat→Nat→LR}(hO:O.length≤3)(hI:∀s v s',I s→v∈fs→f s v = .ok s'→I s')(hb:∀s,I s→s.length≤4000)(hD:I D)(hfs:fs.length<1000)
  (hFT:aB x D=false→aB x O=false→s1 [aF x, .obj 0] (lB q (O++[x]) D)=some (af (.obj 28) (cz q fs (O++[x]) D)))
  (hLk:aB x D=false→aB x O=false→∀s v,I s→v∈fs→s2 [.obj 25, .tok 0 v] (cz q fs (O++[x]) s)=some (some [(fK (f s v),cz q fs (oL (O++[x]) (f s v)) (dL (f s v)))])) :
  ∃σ',bv tabs (g9 s1 s2 14) (.g 178) [.obj 25,aF x] (lB q O D)=some [(fK (cF f O D fs x),σ')]∧(ah 28).map σ'.get=(kh q (oL O (cF f O D fs x)) (dL (cF f O D fs x))).map some∧28≤σ'.n:=by
 have gO:(lB q O D).get 26=some (.list (O.map lM)):=i7 (jM q O D) rfl
 have gD:(lB q O D).get 27=some (.list (D.map lM)):=i7 (jM q O D) rfl
 have nB:28≤(lB q O D).n:=Nat.le_of_eq (yO q O D).symm
 have fn:∀{r:ax AV}{σ'},bind ((g9 s1 s2 14).s (dy x []) gQ.body (lB q O D)) (λp σ=>af (cE p) σ)=some [(r,σ')]→bv tabs (g9 s1 s2 14) (.g 178) [.obj 25,aF x] (lB q O D)=some [(r,σ')]:=λh=>h
 unfold cF
 cases q1:aB x D with
 |true=>exact⟨lB q O D,fn (bq (jC rfl ((bl (q:=true) (dg (σ1:=lB q O D) (va:=aF x) (vb:= .obj 27) (by kernel_rfl) (by kernel_rfl) (mJ gD ((mm x D).trans (cA0 some q1))))).trans rfl)) rfl),jM q O D,nB⟩
 |false=>
  have a1:∀{o:aj (Fl×ao)},(g9 s1 s2 13).s (dy x []) (gQ.body.drop 1) (lB q O D)=o→(g9 s1 s2 14).s (dy x []) gQ.body (lB q O D)=o:=λh=>tn rfl (bq ((bl (q:=false) (dg (σ1:=lB q O D) (va:=aF x) (vb:= .obj 27) (by kernel_rfl) (by kernel_rfl) (mJ gD ((mm x D).trans (cA0 some q1))))).trans rfl) h)
  have t2:∀{b},aB x O=b→(g9 s1 s2 12).t (dy x []) (.bop .Or [(.cmp .In (.name 7 (pz 148 11 15)) (.att (.name 80 (pz 148 19 23)) 81 (pz 148 19 28)) (pz 148 11 28)),(.cmp .Gt (.call (.name 55 (pz 148 32 35)) [(.att (.name 80 (pz 148 36 40)) 81 (pz 148 36 45))] (pz 148 32 46)) (.name 88 (pz 148 49 58)) (pz 148 32 58))] (pz 148 11 58)) (lB q O D)=af b (lB q O D):=λ{b} h=>(OI (b2:=false) (dg (σ1:=lB q O D) (va:=aF x) (vb:= .obj 26) (by kernel_rfl) (by kernel_rfl) (mJ gO ((mm x O).trans (cA0 some h)))) (IU hO)).trans (by rw[Bool.or_false])
  cases q2:aB x O with
  |true=>exact Nf (B3 (s1:=s1) (s2:=s2) (q:=q) (O:=O) (D:=D) (x:=x)) λσ' e1 e2 e3=>⟨σ',fn (bx (a1 (jH rfl ((bl (t2 q2)).trans (aQ rfl e1))))),e2,e3⟩
  |false=>
   have a2:∀{o:aj (Fl×ao)},(g9 s1 s2 12).s (dy x []) (gQ.body.drop 2) (lB q O D)=o→(g9 s1 s2 14).s (dy x []) gQ.body (lB q O D)=o:=λh=>a1 (aS (loc:=(dy x []).loc) (σ1:=lB q O D) rfl ((bl (t2 q2)).trans rfl) h)
   have a3:∀{o:aj (Fl×ao)},(g9 s1 s2 11).s (dy x []) (gQ.body.drop 3) (lB q (O++[x]) D)=o→(g9 s1 s2 14).s (dy x []) gQ.body (lB q O D)=o:=λh=>a2 (aS (loc:=(dy x []).loc) (σ1:=lB q (O++[x]) D) rfl ((oB (v:=aF x) rfl (by kernel_rfl) gO (by kernel_rfl) (by rw[List.length_map]; exact lE0 hO (by decide))).trans (by rw[←qi,F3])) h)
   have it:b9 tabs (g9 s1 s2 10) (dy x []) (.call (.name 79 (pz 151 20 31)) [(.name 7 (pz 151 32 36)),(.att (.name 80 (pz 151 38 42)) 61 (pz 151 38 48))] (pz 151 20 49)) (lB q (O++[x]) D)=af (.seq (.obj 28)) (cz q fs (O++[x]) D):=
    aq (by kernel_rfl) (bq (bt (a:= .g 150) (vs:=[aF x, .obj 0]) (σ1:=lB q (O++[x]) D) (by kernel_rfl) (by kernel_rfl) (by kernel_rfl) (by kernel_rfl) (cg (dU (hFT q1 q2)))) (by kernel_rfl))
   have body:∀s v,I s→v∈fs→(g9 s1 s2 10).s (dy x [(29, .tok 0 v)]) [(.expr (.meth (.name 80 (pz 152 12 16)) 85 [(.name 29 (pz 152 22 26))] (pz 152 12 21) (pz 152 12 27)) (pz 152 12 27))] (cz q fs (O++[x]) s)=some (i6 (cz q fs (O++[x])) (cz q fs) (dy x [(29, .tok 0 v)]).loc (f s v)):=λs v hs hv=>
    aQ rfl ((nP (ov:= .obj 25) (f:=171) (vs:=[.tok 0 v]) (σ1:=cz q fs (O++[x]) s) (σ2:=cz q fs (O++[x]) s) (by kernel_rfl) (by kernel_rfl) (by kernel_rfl) (by kernel_rfl) (by kernel_rfl)).trans ((cA0 (bind · _) (cg ((bP rfl).trans (dU (hLk q1 q2 s v hs hv))))).trans (by cases f s v <;> rfl)))
   have h4:=(d7 (p:=⟨151,8,152,27⟩) it rfl).trans (rm (r:=g9 s1 s2 10) (ev:=dy x []) (t:= .name 29 (pz 151 12 16)) (it:= .seq (.obj 28)) rfl (St:=cz q fs (O++[x])) (X:=cz q fs) (av:=AV.tok 0) (L1:=λv=>(dy x [(29,v)]).loc) (P:=N6 x) (λs k=>(show du (.seq (.obj 28)) k (cz q fs (O++[x]) s)=some (aY (fs.map (.tok 0)) k) by kernel_rfl).trans (cA0 some (dE _ _ _))) hI (λv=> .inr ⟨v,rfl⟩)
    (λs v loc hl=>hl.elim (λe=>e▸rfl) λe=>e.elim λu e=>e▸rfl) body fs 0 1000 (dy x []).loc D (λi=>cA0 (aY fs) (Nat.zero_add i)) hfs (.inl rfl) hD)
   have h5:∀{D':List Nat}{loc:ao},I D'→N6 x loc→(g9 s1 s2 10).s { dy x [] with loc:=loc } (gQ.body.drop 4) (cz q fs (O++[x]) D')=af (.next,loc) (cz q fs O (D'++[x])):=λ{D' loc} hi hl=>by
    have g:(cz q fs (O++[x]) D').get 26=some (.list (O.map lM++[aF x])):=(i7 ig rfl).trans (cA0 some (qi O x))
    have g':(cz q fs O D').get 27=some (.list (D'.map lM)):=i7 ig rfl
    refine aS (loc:=loc) (σ1:=cz q fs O D') rfl ((Ha (v:=aF x) rfl ?_ g (by rw[List.length_map]; exact Nat.lt_of_le_of_lt hO (by decide))).trans (cA0 _ (IM O))) (aQ rfl ((oB (v:=aF x) rfl ?_ g' ?_ (by rw[List.length_map]; exact hb _ hi)).trans (cA0 _ ((cA0 _ (qi D' x).symm).trans (JD (D'++[x]))))))
    all_goals exact hl.elim (λe=>by subst e; kernel_rfl) λe=>e.elim λu e=>by subst e; kernel_rfl
   cases q3:d0 f D fs with
   |ok D'=>
    rw[q3] at h4
    exact⟨cz q fs O (D'++[x]),fn (bq (a3 (aS rfl h4 (h5 (p9 hI q3 (λ_ h=>h) hD) (G8 (λv=> .inr ⟨v,rfl⟩) _ (.inl rfl))))) rfl),ig,Ea⟩
   |bad O' D'=>
    rw[q3] at h4
    exact⟨cz q fs O' D',fn (bx (a3 (jH rfl h4))),ig,Ea⟩
end
theorem Bh:∀c∈ah 49,∀y∈aZ c,y∈aI:=by decide +kernel
theorem n5(c:Nat):∀y∈aZ c,y∈aI:=if h:c<49 then Bh c (mR0 h) else by
 unfold aZ bo
 rw[v8 h]
 exact λy hy=>absurd hy List.not_mem_nil
theorem ub(q:Ad×Ad×Ad):NZ (cu q):=λx c _=>n5 c
theorem lu(l:List Nat):(kc l).length≤2:=match l with
 |[]=>Nat.zero_le 2
 |[_]=>(by decide:1≤2)
 |_::_::_=>Nat.le_refl 2
theorem tx(a:Ad):(qq a).length<1000:=by
 obtain⟨h,t,c0,c1⟩:=a
 cases t with
 |zero=>exact Nat.lt_of_le_of_lt ((cA0 List.length (List.append_nil _)).symm▸lu c0) (by decide)
 |succ t=>exact Nat.lt_of_le_of_lt (List.length_append▸Nat.add_le_add (lu c0) (lu c1)) (by decide)
noncomputable def nH(o:Option ai):List Nat:=((lO o).getD []).map λa=>(ob (tV a) λl=>ob (aY l 1) sV).getD 0
theorem wz(l:List Nat):nH (some (lV l))=l:=List.map_map.trans (List.map_id l)
noncomputable def OG(vs:List AV):Nat:=(ob (fB vs) λp=>ob (qt p.2) λt=>some t.2).getD 0
theorem GU{g:Nat→List Nat}{f:List Nat→Nat→LR}{O D fs:List Nat}{x:Nat}(h:aB x O=true):cF f O D fs x=la g n O D x:=by
 have k:∀{f fs},cF f O D fs x=Bool.rec (motive:=λ_=>LR) (.bad O D) (.ok D) (aB x D):=λ{f fs}=>by unfold cF; rw[h]
 cases n with
 |zero=>exact k
 |succ n=>exact k.trans k.symm
section
variable {q:Ad×Ad×Ad}
theorem wK(T:aE K)(dz:DZ w K)(rz:RZ w K){O D:List Nat}{x:Nat}(hO:J0 O)(hD:J0 D)(h:aB x O=true)(n:Nat)(σ:ac)(hd:Hd q O D σ):am w K 75 (.g 178) [.obj 25,aF x] σ (mh O σ (la (cu q) n O D x)):=
 (zT (s1:=λ_ _=>none) (s2:=λ_ _=>none) (q:=q) (O:=O) (D:=D) (fs:=cu q x) (x:=x) (I:=J0) (f:=λD _=> .ok D) (pf hO) (λs _ s' h _ e=>LR.ok.inj e▸h) (λs h=>lE0 (pf h) (by decide)) hD (tx _) (λ_ z=>aV (z.symm.trans h)) (λ_ z=>aV (z.symm.trans h))).elim λσ' e=>
  have c:=mi (m:=30+14+1) (.body T dz rz (((pX λ_ _ _=>al).sp2 ((pX λ_ _ _=>al).sp2 (xX T dz rz)))) aH e.1) e.2.1 e.2.2 (.g _) (.cons (.obj 25 ⟨rfl,rfl⟩) (.cons (.refl rfl) .nil)) hd
  GU (g:=cu q) (n:=n) h▸c.up (by decide)
theorem PD(fs O D:List Nat):(lB q O D).n=28:=yO q O D
theorem Jl(fs O D:List Nat):Hd q O D (cz q fs O D):=⟨ig,by kernel_rfl⟩
theorem Im(fs O D O' D':List Nat):hm O' D' (cz q fs O D)=cz q fs O' D':=by kernel_rfl
theorem DJ(O D:List Nat):fH.map (lB q O D).get=((nI q.1 q.2.1 q.2.2).map (cK (aX fH))).map some:=by kernel_rfl
theorem am.val2{m c:Nat}{f:AV}{outs:List (ax AV×ac)}(h:∀x,bu k c=some x→am w K m f [a,x] σ outs):am w K m f [a, .tok k c] σ outs:=
 ⟨λhA S rf rv P=>rv.consE (motive:=λus=>wpAny _ _ (call _ us) _ _ _) λ_ _ h0 h1=>h1.consE (motive:=λus=>wpAny _ _ (call _ (_::us)) _ _ _) λ_ _ h1 h2=>h1.inv.elim λx y=>(h x y.1).ok hA S rf (.cons h0 (.cons y.2 h2)) P⟩
theorem Ms(T:aE K)(dz:DZ w K)(rz:RZ w K)(n:Nat):∀(O D:List Nat)(x:Nat),J0 O→o7 O≤n→J0 D→x∈aI→∀σ,Hd q O D σ→am w K (75+48 * n) (.g 178) [.obj 25,aF x] σ (mh O σ (la (cu q) n O D x)):=by
 induction n with
 |zero=>exact λO D x hO hc hD hx σ hd=>wK T dz rz hO hD (sx hx (Nat.le_zero.mp hc)) 0 σ hd
 |succ n IH=>
  intro O D x hO hc hD hx σ hd
  cases q1:aB x O with
  |true=>exact(wK T dz rz hO hD q1 (n+1) σ hd).up (Nat.le_add_right _ _)
  |false=>
   have hO':J0 (O++[x]):=wT hx q1 hO
   have hc':o7 (O++[x])≤n:=Nat.le_of_succ_le_succ (lE0 (Nat.le_of_eq (ko x hx q1)) hc)
   have c1:am w K 60 (.g 150) [aF x, .obj 0] (lB q (O++[x]) D) [(.ok (.obj 28),cz q (cu q x) (O++[x]) D)]:=by
    have y:=MQ T dz rz (DJ (q:=q) (O++[x]) D) (by kernel_rfl) hx
    rw[yO] at y
    exact y
   have c2:∀s v,J0 s→am w K (75+48 * n+33) (.g 171) [.obj 25, .tok 0 v] (cz q (cu q x) (O++[x]) s) [(fK (jR (la (cu q) n (O++[x])) s v),cz q (cu q x) (oL (O++[x]) (jR (la (cu q) n (O++[x])) s v)) (dL (jR (la (cu q) n (O++[x])) s v)))]:=λs v hs=> .val2 λy hy=>by
    obtain⟨t,ht,e1,e2⟩:=NM (BS hy)
    have z:=vZ (m:=75+48 * n) (F:=la (cu q) n (O++[x]) s) T dz rz (lE0 (by decide) (Nat.le_add_right 75 _)) t (λy hy=>lq (q:=q) (O:=O++[x]) (D:=s) (la (cu q) n (O++[x]) s y)▸IH (O++[x]) s y hO' hc' hs (n5 v y (e2▸hy)) _ (o9 q _ _)) (e1▸c6 hy▸dj hy) _ (Jl (cu q x) (O++[x]) s)
    unfold mh at z
    rw[Im,←e1,c6 hy,←e2] at z
    exact z.up (Nat.add_le_add_left (Nat.mul_le_mul_left 11 (Nat.succ_le_succ ht)) _)
   have s2:=fG (w:=w) (K:=K) (k:=171) (m:=75+48 * n+33) (p:=λvs σ=>(nH (σ.get 27),OG vs)) (St:=λc:List Nat×Nat=>([.obj 25, .tok 0 c.2],cz q (cu q x) (O++[x]) c.1)) (ok:=λc=>J0 c.1) (o:=λc=>[(fK (jR (la (cu q) n (O++[x])) c.1 c.2),cz q (cu q x) (oL (O++[x]) (jR (la (cu q) n (O++[x])) c.1 c.2)) (dL (jR (la (cu q) n (O++[x])) c.1 c.2)))]) λc h=>c2 c.1 c.2 h
   have le:∀{a},a≤75→a≤75+48 * n+33:=λh=>lE0 (lE0 h (Nat.le_add_right _ _)) (Nat.le_add_right _ _)
   have kp:∀s v s',J0 s→v∈cu q x→jR (la (cu q) n (O++[x])) s v = .ok s'→J0 s':=λs v s' hs hv e=>(BC (O:=O++[x]) (λy hy e=>Eu (ub q) n (ub q x v hv y hy) hs e) e hs).1
   exact(zT (s1:=mj [aF x, .obj 0] (lB q (O++[x]) D) [(.ok (.obj 28),cz q (cu q x) (O++[x]) D)]) (s2:=pp _ _ _ _) (q:=q) (O:=O) (D:=D) (fs:=cu q x) (x:=x) (I:=J0) (f:=jR (la (cu q) n (O++[x]))) (pf hO) kp (λs h=>lE0 (pf h) (by decide)) hD (tx _) (λ_ _=>bF)
     (λ_ _ s v hs hv=>eA (c:=(s,v)) (Prod.ext ((cA0 nH (i7 ig rfl)).trans (wz s)) rfl) hs)).elim λσ' e=>
    (mi (m:=75+48 * n+33+14+1) (res:=la (cu q) (n+1) O D x) (.body (m:=75+48 * n+33) (n:=14) T dz rz (((bM c1).up (le (by decide))).sp2 (s2.sp2 ((xX T dz rz).up (le (by decide))))) aH e.1) e.2.1 e.2.2 (.g _) (.cons (.obj 25 ⟨rfl,rfl⟩) (.cons (.refl rfl) .nil)) hd).up (Nat.le_refl _)
end
section
variable {s1 s2:dY}{q:Ad×Ad×Ad}{O D:List Nat}
noncomputable def c8(q:Ad×Ad×Ad)(O D:List Nat):ac:=(lB q O D).push (.list [.str 162, .str 163, .str 164])
noncomputable def gf(l:ao):Ev:=⟨243,iB.sc,(61, .obj 0)::l,[]⟩
noncomputable def v7:ao:=[(138, .obj 25)]
noncomputable def wS(v:AV):ao:=[(138, .obj 25),(75,v)]
noncomputable def Qe(l:ao):Prop:=l=(gf v7).loc∨∃v,l=(gf (wS v)).loc
noncomputable abbrev sj(s1 s2:dY)(n:Nat):=R tabs (sp2 (bh 145 s1) (bh 171 s2)) aJ n
noncomputable def chk(q:Ad×Ad×Ad):LR:=d0 (la (cu q) 3 []) [] aI
noncomputable def wM(q:Ad×Ad×Ad):List ai:=nI q.1 q.2.1 q.2.2
theorem y7:Hd q O D (c8 q O D):=⟨by kernel_rfl,by kernel_rfl⟩
theorem Kb(O' D':List Nat):hm O' D' (c8 q O D)=c8 q O' D':=by kernel_rfl
theorem IO{f:List Nat→Nat→LR}{I:List Nat→Prop}(hI:∀s v s',I s→v∈aI→f s v = .ok s'→I s')(hD:I [])
  (h1:∀s v,I s→v∈aI→s1 [.str v, .obj 0] (c8 q [] s)=some (af (aF v) (c8 q [] s)))
  (h2:∀s v,I s→v∈aI→s2 [.obj 25,aF v] (c8 q [] s)=some (some [(fK (f s v),c8 q (oL [] (f s v)) (dL (f s v)))])) :
  bv tabs (sj s1 s2 11) (.g 244) [.obj 0] (au (wM q))=some [(fK (d0 f [] aI),c8 q (oL [] (d0 f [] aI)) (dL (d0 f [] aI)))]:=by
 have body:∀s v,I s→v∈aI→(sj s1 s2 9).s (gf (wS (.str v))) [(.expr (.meth (.name 138 (pz 217 8 14)) 85 [(.call (.name 76 (pz 217 20 28)) [(.name 75 (pz 217 29 33)),(.name 61 (pz 217 35 40))] (pz 217 20 41))] (pz 217 8 19) (pz 217 8 42)) (pz 217 8 42))] (c8 q [] s)=some (i6 (c8 q []) (c8 q) (gf (wS (.str v))).loc (f s v)):=λs v hs hv=>
  aQ rfl ((nP (ov:= .obj 25) (f:=171) (vs:=[aF v]) (σ1:=c8 q [] s) (σ2:=c8 q [] s) (by kernel_rfl) (by kernel_rfl) (by kernel_rfl) (mr (bt (a:= .g 145) (vs:=[.str v, .obj 0]) (σ1:=c8 q [] s) (by kernel_rfl) (by kernel_rfl) (by kernel_rfl) (by kernel_rfl) (cg (dU (h1 s v hs hv))))) (by kernel_rfl)).trans ((cA0 (bind · _) (cg ((bP rfl).trans (h2 s v hs hv)))).trans (by cases f s v <;> rfl)))
 have s4:=(d7 (p:=⟨216,4,217,42⟩) (show b9 tabs (sj s1 s2 9) (gf v7) (.call (.name 140 (pz 216 16 22)) [(.att (.name 61 (pz 216 23 28)) 62 (pz 216 23 33))] (pz 216 16 34)) (lB q [] [])=af (.seq (.obj 28)) (c8 q [] []) by kernel_rfl) rfl).trans (rm (r:=sj s1 s2 9) (ev:=gf v7) (t:= .name 75 (pz 216 8 12)) (it:= .seq (.obj 28)) rfl (St:=c8 q []) (X:=c8 q) (av:=AV.str) (L1:=λv=>(gf (wS v)).loc) (P:=Qe)
  (λs k=>(show du (.seq (.obj 28)) k (c8 q [] s)=some (aY (aI.map .str) k) by kernel_rfl).trans (cA0 some (dE _ _ _))) hI (λv=> .inr ⟨v,rfl⟩) (λs v loc hl=>hl.elim (λe=>e▸rfl) λe=>e.elim λu e=>e▸rfl) body aI 0 1000 (gf v7).loc [] (λi=>cA0 (aY aI) (Nat.zero_add i)) (by decide) (.inl rfl) hD)
 have fn:∀{o:aj (Fl×ao)},(sj s1 s2 10).s (gf v7) (iB.body.drop 1) (lB q [] [])=o→bv tabs (sj s1 s2 11) (.g 244) [.obj 0] (au (wM q))=bind o λp σ=>af (cE p) σ:=λh=>cA0 (bind · λp σ=>af (cE p) σ) (aS (ev:=gf []) (loc:=(gf v7).loc) (σ1:=lB q [] []) rfl (by kernel_rfl) h)
 cases q3:d0 f [] aI with
 |ok D'=>
  rw[q3] at s4
  exact(fn (aS rfl s4 (show(sj s1 s2 9).s (gf (wS (.str 164))) (iB.body.drop 2) (c8 q [] D')=af (.next,(gf (wS (.str 164))).loc) (c8 q [] D') by kernel_rfl))).trans rfl
 |bad O' D'=>
  rw[q3] at s4
  exact(fn (jH rfl s4)).trans rfl
end
section
variable {q:Ad×Ad×Ad}{is:List Nat}
noncomputable def PS(N:Nat)(q:Ad×Ad×Ad)(x:Nat):Option (ax AV×eJ):=cv 24 N (aX fH) ni [] ((R tabs bR aJ 12).c (.g 145) [.str x, .obj 0] (au (wM q)))
theorem LF(N:Nat)(q:Ad×Ad×Ad):aI.map (PS N q)=aI.map λx=>some (.ok (aF x),aG 24 (au (wM q)) [] []):=by kernel_rfl
theorem zw(O D:List Nat):fH.map (c8 q O D).get=((wM q).map (cK (aX fH))).map some:=by kernel_rfl
theorem NH(T:aE K)(dz:DZ w K)(rz:RZ w K){x:Nat}(hx:x∈aI)(s:List Nat):am w K 12 (.g 145) [.str x, .obj 0] (c8 q [] s) [(.ok (aF x),c8 q [] s)]:=
 am.run (m:=0) (k:=12) (ch:=[]) (nw:=[]) T dz rz bf aH (l:=wM q) (is:=fH) (by decide +kernel) (og (zw [] s)) (by kernel_rfl) (.g _) (.cons (.str x) (.cons (.obj 0 ⟨rfl,rfl⟩) .nil)) (az (LF _ q) hx)
theorem Hl(N:Nat)(is:List Nat)(r:LR):cv 24 N (aX is) ni [] (some [(fK r,c8 q (oL [] r) (dL r))])=some (fK r,aG 24 (au (wM q)) [] []):=by cases r <;> kernel_rfl
theorem H9(T:aE K)(dz:DZ w K)(rz:RZ w K)(hn:b8 is=true)(g:is.map σ.get=((wM q).map (cK (aX is))).map some)(hr:aK σ is=true):am w K 242 (.g 244) [.obj (aX is 0)] σ [(fK (chk q),σ)]:=by
 have p1:=fG (w:=w) (K:=K) (k:=145) (m:=230) (p:=λvs σ=>(nH (σ.get 27),(ob (fB vs) λp=>sV p.1).getD 0)) (St:=λc:List Nat×Nat=>([.str c.2, .obj 0],c8 q [] c.1)) (ok:=λc=>c.2∈aI) (o:=λc=>[(.ok (aF c.2),c8 q [] c.1)]) λc h=>(NH T dz rz h c.1).up (by decide)
 have p2:=fG (w:=w) (K:=K) (k:=171) (m:=230) (p:=λvs σ=>(nH (σ.get 27),(ob (fB vs) λp=>pL p.2).getD 0)) (St:=λc:List Nat×Nat=>([.obj 25,aF c.2],c8 q [] c.1)) (ok:=λc=>J0 c.1∧c.2∈aI) (o:=λc=>mh [] (c8 q [] c.1) (la (cu q) 3 [] c.1 c.2)) λc h=>
  vZ (m:=219) (F:=la (cu q) 3 [] c.1) T dz rz (by decide) (.whole c.2) (λy hy=>lq (q:=q) (O:=[]) (D:=c.1) _▸Ms T dz rz 3 [] c.1 y AR (by decide) h.1 (List.mem_singleton.mp hy▸h.2) _ (o9 q _ _)) rfl _ y7
 have d27:∀s,nH ((c8 q [] s).get 27)=s:=λs=>(cA0 nH (i7 y7.g rfl)).trans (wz s)
 exact .see (l:=wM q) (is:=is) (ch:=[]) (nw:=[]) (.body (m:=230) (n:=11) T dz rz (p1.sp2 p2) aH (IO (q:=q) (f:=la (cu q) 3 []) (I:=J0) (λs v s' hs hv e=>(Eu (ub q) 3 hv hs e).1) AR (λs v hs hv=>eA (c:=(s,v)) (Prod.ext (d27 s) rfl) hv)
  (λs v hs hv=>(eA (c:=(s,v)) (Prod.ext (d27 s) rfl) ⟨hs,hv⟩).trans (cA0 (λσ=>some (some [(fK _,σ)])) (Kb _ _))))) hn (og g) hr (.g _) (.cons (.obj 0 ⟨rfl,rfl⟩) .nil) (Hl _ is (chk q))
end
theorem pO{r:aP}{ev:Ev}{t:ME}{b:List MS}{it:It}{St St1:Nat→ac}{vs:Nat→AV}{L L1:Nat→ao}(hgo:gV it t=true)
  (h:∀k,k<n→du it k (St k)=some (some (vs k))∧cR r ev 5 (L k) t (vs k) (St k)=af (L1 k) (St1 k)∧r.s { ev with loc:=L1 k } b (St1 k)=af (.next,L (k+1)) (St (k+1))) (he:du it n (St n)=some none)
  {m:Nat} (hm:n<m):forLoop r ev t b it m 0 (L 0) (St 0)=af (.next,L n) (St n):=by
 have g:∀j k m,k+j=n→j<m→forLoop r ev t b it m k (L k) (St k)=af (.next,L n) (St n):=λj=>by
  induction j with
  |zero=>exact λk m e hm=>match m,hm with
   |m+1,_=>by cases (show k=n from e); exact ff hgo he
  |succ j ih=>exact λk m e hm=>match m,hm with
   |m+1,hm=>(h k (e▸Nat.lt_add_of_pos_right (Nat.succ_pos j))).elim λa z=>z.elim λb c=>dB hgo a b (bq c (show jo _ (.next,_) _=_ from ih (k+1) m ((Nat.succ_add_eq_add_succ k j).trans e) (Nat.lt_of_succ_lt_succ hm)))
 exact g n 0 m (Nat.zero_add n) hm
section
variable {α:Type}{r:aP}{ev:Ev}{t elt:ME}{ifs:List ME}{it:It}{its:List α}{av:α→AV}{P:ao→Prop}{body:ao→List AV→ac→aj (List AV×ao)}{K:ao→List AV→ac→aj (List AV×ao)}{loc loc1 loc2:ao}{acc acc2:List AV}{v:AV}{G:α→List AV}{N:Nat}
noncomputable def ym(r:aP)(ev:Ev)(t:ME)(ifs:List ME)(body:ao→List AV→ac→aj (List AV×ao))(v:AV)(loc:ao)(acc:List AV)(σ:ac)(K:ao→List AV→ac→aj (List AV×ao)):aj (List AV×ao):=bind (cR r ev 5 loc t v σ) λloc σ=>bind (j0 r { ev with loc:=loc } ifs σ) λp σ=>match p with
 |true=>bind (body loc acc σ) λq σ=>K q.2 q.1 σ
 |false=>K loc acc σ
theorem jk(ha:cR r ev 5 loc t v σ=af loc1 σ)(ht:j0 r { ev with loc:=loc1 } ifs σ=af true σ)(hb:body loc1 acc σ=af (acc2,loc2) σ):ym r ev t ifs body v loc acc σ K=K loc2 acc2 σ:=bq ha (bq ht (bq hb rfl))
theorem zK(ha:cR r ev 5 loc t v σ=af loc1 σ)(ht:j0 r { ev with loc:=loc1 } ifs σ=af false σ):ym r ev t ifs body v loc acc σ K=K loc1 acc σ:=bq ha (bq ht rfl)
theorem fY(hgo:gV it t=true)(hit:∀k,du it k σ=some ((aY its k).map av))
  (hb:∀v loc acc,P loc→v∈its→acc.length+(G v).length≤N→∃loc',P loc'∧∀K,ym r ev t ifs body (av v) loc acc σ K=K loc' (acc++G v) σ)
  (gs:List α):∀(k m:Nat)(loc:ao)(acc:List AV),(∀i,aY its (k+i)=aY gs i)→gs.length<m→P loc→acc.length+(gs.flatMap G).length≤N→∃loc',P loc'∧compLoop r ev t ifs body it m k loc acc σ=af (acc++gs.flatMap G,loc') σ:=by
 induction gs with
 |nil=>exact λk m loc acc hn hm hl _=>match m,hm with
  |m+1,_=>⟨loc,hl,gq hgo (oq ((hit k).trans (cA0 (λo=>some (Option.map av o)) (hn 0))) (cA0 (λa=>af (a,loc) σ) (List.append_nil acc).symm))⟩
 |cons v gs ih=>
  intro k m loc acc hn hm hl hN
  rw[List.flatMap_cons,List.length_append,←Nat.add_assoc] at hN
  rw[List.flatMap_cons,←List.append_assoc]
  match m,hm with
  |m+1,hm=>exact(hb v loc acc hl (ie (hn 0)) (lE0 (Nat.le_add_right _ _) hN)).elim λl1 y=>(ih (k+1) m l1 (acc++G v) (λi=>(cA0 (aY its) ((Nat.add_assoc k 1 i).trans (cA0 _ (Nat.add_comm 1 i)))).trans (hn (i+1))) (Nat.lt_of_succ_lt_succ hm) y.1 (by rw[List.length_append]; exact hN)).imp λl2 z=>⟨z.1,gq hgo (oq ((hit k).trans (cA0 (λo=>some (Option.map av o)) (hn 0))) ((y.2 _).trans z.2))⟩
theorem ki(h:r.e { ev with loc:=loc } elt σ=af v σ)(hn:acc.length≤4000):jh r ev elt loc acc σ=af (acc++[v],loc) σ:=bq h (gq (aM acc▸iP hn) rfl)
theorem rc{c:ME}{p:Bool}(h:r.t ev c σ=af p σ):j0 r ev [c] σ=af p σ:=bq h (by cases p <;> rfl)
end
theorem qG(x:Nat)(l:List Nat):c9 σ (.str x) (l.map .str)=some (aB x l):=by
 induction l with
 |nil=>rfl
 |cons y l ih=>exact oq (a:=Nat.beq y x) rfl (oq ih (cA0 (λb=>some (b||aB x l)) (vR y x)))
section
variable {sp:Sp}{ss:Ss}{ev:Ev}
theorem xd{l:List AV}{v:AV}{p:Bool}(h:σ.get i=some (.list l))(e:c9 σ v l=some p):gw .NotIn v (.obj i) σ=some (!p):=by
 show nX (aO (ob (lO (σ.get i)) λl=>c9 σ v l) _)=_
 rw[h]
 show nX (aO (c9 σ v l) _)=_
 rw[e]; rfl
theorem rk{j:Nat}{l m:List AV}(h1:σ.get i=some (.list l))(h2:σ.get j=some (.list m))(hn:l.length+m.length≤4000):kH .Add (.obj i) (.obj j) σ=af (.obj σ.n) (σ.push (.list (l++m))):=by
 show aO none (aO none (aO (ob (lO (σ.get i)) λl=>ob (lO (σ.get j)) λm=>gd (bc (len l+len m)) (af (AV.obj σ.n) (σ.push (.list (l++m))))) _))=_
 rw[h1,h2]
 show aO none (aO none (aO (gd (bc (len l+len m)) _) _))=_
 rw[aM,aM,iP hn]; rfl
theorem tc{op:Operator}{a b:ME}{p:Pos}{va vb:AV}{o:aj AV}(h1:(R tabs sp ss k).e ev a σ=af va σ1)(h2:(R tabs sp ss k).e ev b σ1=af vb σ2)(h3:kH op va vb σ2=o):(R tabs sp ss (k+1)).e ev (.bin op a b p) σ=o:=bq h1 (bq h2 h3)
theorem pA{op:CmpOp}{a b:ME}{p:Pos}{va vb:AV}{q:Bool}(h1:(R tabs sp ss k).e ev a σ=af va σ1)(h2:(R tabs sp ss k).e ev b σ1=af vb σ2)(h3:gw op va vb σ2=some q):(R tabs sp ss (k+1)).e ev (.cmp op a b p) σ=af (.bool q) σ2:=bq h1 (bq h2 (oq h3 rfl))
theorem ck{x:Nat}{p:Pos}{v:AV}(h:bw tabs ev x σ=some v):(R tabs sp ss (k+1)).e ev (.name x p) σ=af v σ:=oq h rfl
theorem ll{o i:ME}{p:Pos}{ov iv v:AV}(h1:(R tabs sp ss k).e ev o σ=af ov σ)(h2:(R tabs sp ss k).e ev i σ=af iv σ)(h3:rN ov iv σ=some v):(R tabs sp ss (k+1)).e ev (.sub o i p) σ=af v σ:=bq h1 (bq h2 (oq h3 rfl))
theorem tF{d:Nat}{x v:AV}{D:List (AV×AV)}(h:σ.get d=some (.dict D))(hg:dP x D=some (some v)):rN (.obj d) x σ=some v:=by
 show aO none (aO (ob (lO (σ.get d)) _) (ob (aO (dO (σ.get d)) (fO (σ.get d))) λl=>ob (dP x l) id))=_
 rw[h]
 show aO none (aO none (ob (dP x D) id))=_
 rw[hg]; rfl
theorem jL{e:ME}{r:aP}{l:List AV}(hc:rL e=none)(h:r.e ev e σ=af (.obj i) σ)(hl:σ.get i=some (.list l)):b9 tabs r ev e σ=af (.seq (.obj i)) σ:=aq (by rw[hc]; rfl) (bq h (by
 show ob (aO (ob (aO none (lO (σ.get i))) λ_=>some (It.seq (.obj i))) _) _=_
 rw[hl]; rfl))
theorem dq{l:List AV}(h:σ.get i=some (.list l))(k:Nat):du (.seq (.obj i)) k σ=some (aY l k):=by
 show ob (aO none (lO (σ.get i))) _=_
 rw[h]; rfl
theorem kF{it:ME}{loop:It→ac→aj (List AV×ao)}{i:It}{res:List AV}{loc:ao}{r:aP}(h2:b9 tabs r ev it σ=af i σ1)(h3:ip i=true)(h4:loop i σ1=af (res,loc) σ1):rS tabs r ev it loop σ=af (.obj σ1.n) (σ1.push (.list res)):=bq h2 (gq h3 (bq (cA0 DC h4) rfl))
theorem f8{t v:ME}{p:Pos}{va:AV}{loc:ao}(h0:iz ev.sc t v=some none)(hc:dh v=false)(h1:(R tabs sp ss k).e ev v σ=af va σ1)(h2:cR (R tabs sp ss k) ev 5 ev.loc t va σ1=af loc σ2):ba tabs (R tabs sp ss k) ev (.asg t v p) σ=af (.next,loc) σ2:=
 oq h0 (bq ((show zz tabs (R tabs sp ss k) ev v σ=(R tabs sp ss k).e ev v σ by cases v <;> first|rfl |exact nomatch hc).trans h1) (bq h2 rfl))
theorem rY{r:aP}{x c:Nat}{p:Pos}{v:AV}{u:Option AV}{loc:ao}(h1:look x ev.sc=some .cell)(h2:look x ev.cel=some c)(h3:σ.get c=some (.cell u)):cR r ev 5 loc (.name x p) v σ=af loc (σ.set c (.cell (some v))):=
 show k9 ev loc x v σ=_ from oq h1 (oq h2 (by rw[h3]; rfl))
theorem wQ{elt t it:ME}{ifs:List ME}{sc:List (Nat×NameKind)}{p:Pos}{cl:List (Nat×Nat)}{o:aj AV}(h0:cM ev.cel sc=some cl)(h1:uI sc=true)(h:comp1 tabs (R tabs sp ss k) ev elt t it ifs sc cl σ=o):(R tabs sp ss (k+1)).e ev (.comp1 elt t it ifs sc p) σ=o:=oq h0 (gq h1 h)
theorem wa{elt t it t2 it2:ME}{ifs:List ME}{sc:List (Nat×NameKind)}{p:Pos}{cl:List (Nat×Nat)}{o:aj AV}(h0:cM ev.cel sc=some cl)(h1:uI sc=true)(h:comp2 tabs (R tabs sp ss k) ev elt t it t2 it2 ifs sc cl σ=o):(R tabs sp ss (k+1)).e ev (.comp2 elt t it t2 it2 ifs sc p) σ=o:=oq h0 (gq h1 h)
theorem pq{elt t2 it2:ME}{ifs:List ME}{loc:ao}{acc:List AV}{i:It}{r:aP}{o:aj (List AV×ao)}(h1:b9 tabs r { ev with loc:=loc } it2 σ=af i σ)(h2:ip i=true)(h3:compLoop r ev t2 ifs (jh r ev elt) i cA 0 loc acc σ=o):iD tabs r ev elt t2 it2 ifs loc acc σ=o:=bq h1 (gq h2 h3)
end
noncomputable abbrev SN:=Nat→List Nat
noncomputable def n4(N:List Nat)(l:List Nat):List Nat:=l.flatMap λy=>Bool.rec [y] [] (aB y N)
noncomputable def fX(s:SN)(N:List Nat):List Nat:=N.flatMap λo=>n4 N (s o)
noncomputable def xg{α:Type}(x:Nat)(a:α)(s:Nat→α)(z:Nat):α:=Bool.rec (s z) a (Nat.beq z x)
noncomputable def EJ(s:SN)(x:Nat):SN:=xg x (s x++fX s (s x)) s
noncomputable def FH(p:Nat→Nat):ai:= .dict [(.str 162, .obj (p 162)),(.str 163, .obj (p 163)),(.str 164, .obj (p 164))]
noncomputable def fN:ai:= .list (aI.map .str)
noncomputable def iC(x:Nat):ai:= .cell (some (.str x))
noncomputable def cj(loc:ao):Ev:=⟨393,lQ.sc,loc,[(174,4),(73,3),(171,2),(159,1)]⟩
noncomputable def D6:List (Nat×NameKind):=[(21,.local),(17,.local),(177,.local),(73,.free),(171,.free)]
noncomputable def oS(loc:ao):Ev:=⟨0,D6,loc,[(73,3),(171,2)]⟩
noncomputable def Kl:ME:= .sub (.name 171 (pz 322 79 84)) (.name 17 (pz 322 85 88)) (pz 322 79 89)
noncomputable def N4:ME:= .sub (.name 171 (pz 322 56 61)) (.name 73 (pz 322 62 66)) (pz 322 56 67)
noncomputable def PU:ME:= .sub (.name 171 (pz 322 104 109)) (.name 73 (pz 322 110 114)) (pz 322 104 115)
noncomputable def uq:ME:= .cmp .NotIn (.name 177 (pz 322 93 96)) PU (pz 322 93 115)
noncomputable def qp:ME:= .comp2 (.name 177 (pz 322 41 44)) (.name 17 (pz 322 49 52)) N4 (.name 177 (pz 322 72 75)) Kl [uq] D6 (pz 322 40 116)
noncomputable def eT:ME:= .sub (.name 171 (pz 322 12 17)) (.name 73 (pz 322 18 22)) (pz 322 12 23)
noncomputable def NO:ME:= .sub (.name 171 (pz 322 26 31)) (.name 73 (pz 322 32 36)) (pz 322 26 37)
noncomputable def sG:MS:= .asg eT (.bin .Add NO qp (pz 322 26 116)) (pz 322 12 116)
structure Bd(s:SN)(x:Nat):Prop where
 mem:∀o∈s x,o∈aI
 len:∀o∈aI,(s o).length<1000
 clo:(s x).length+(fX s (s x)).length≤4000
structure Cl(σ:ac)(p:Nat→Nat)(s:SN):Prop where
 c2:σ.get 2=some (.cell (some (.obj 14)))
 d:σ.get 14=some (FH p)
 l:∀x∈aI,σ.get (p x)=some (bI (s x))
 lt:∀x∈aI,p x<σ.n
 n:15≤σ.n
section
variable {p:Nat→Nat}{s:SN}{x:Nat}{loc:ao}
theorem HZ:∀x∈aI,dP (.str x) [(.str 162, .obj (p 162)),(.str 163, .obj (p 163)),(.str 164, .obj (p 164))]=some (some (.obj (p x))):=ez rfl rfl rfl
theorem Cl.sub(C:Cl σ p s){ev:Ev}{y:Nat}{p1 p2 p3:Pos}(hx:x∈aI)(h1:bw tabs ev 171 σ=some (.obj 14))(h2:bw tabs ev y σ=some (.str x)):(R0 (k+2)).e ev (.sub (.name 171 p1) (.name y p2) p3) σ=af (.obj (p x)) σ:=
 ll (ck h1) (ck h2) (tF C.d (HZ x hx))
theorem fe{ev:Ev}{y c:Nat}{v:AV}{o:Nat}(h:ob (look y ev.sc) (λk=>match k with | .cell=>some () | .free=>some () |_=>none)=some ())(hc:look y ev.cel=some c)(g:σ.get c=some (.cell (some v))):bw tabs ev y σ=some v:=aa h λk q h=>
 have e:iq ev y σ=some v:=oq hc (by rw[g]; rfl)
 oq q (by cases k <;> first|exact e |exact al h)
theorem bJ(x:Nat)(v:AV)(l:ao):look x (put x v l)=some v:=(gi x v x l).trans (if_pos rfl)
theorem BE{q:Pos}(v:AV)(loc:ao):(R0 (k+1)).e (oS (put 177 v loc)) (.name 177 q) σ=af v σ:=ck (bJ 177 v loc)
theorem Cz(C:Cl σ p s)(c3:σ.get 3=some (iC x))(hx:x∈aI)(B:Bd s x):(R0 7).e (cj loc) qp σ=af (.obj σ.n) (σ.push (bI (fX s (s x)))):=by
 have e171:∀{loc},bw tabs (oS loc) 171 σ=some (.obj 14):=λ{loc}=>fe (o:=0) rfl rfl C.c2
 have e73:∀{loc},bw tabs (oS loc) 73 σ=some (.str x):=λ{loc}=>fe (o:=0) rfl rfl c3
 have inner:∀o∈aI,∀loc acc,look 17 loc=some (.str o)→acc.length+(n4 (s x) (s o)).length≤4000→∃loc',True∧iD tabs (R0 6) (oS []) (.name 177 (pz 322 41 44)) (.name 177 (pz 322 72 75)) Kl [uq] loc acc σ=af (acc++(n4 (s x) (s o)).map .str,loc') σ:=λo ho loc acc hl hN=>by
  have z:=fY (r:=R0 6) (ev:=oS []) (t:= .name 177 (pz 322 72 75)) (ifs:=[uq]) (it:= .seq (.obj (p o))) (σ:=σ) (its:=s o) (av:=AV.str) (P:=λ_=>True) (body:=jh (R0 6) (oS []) (.name 177 (pz 322 41 44))) (G:=λy=>(Bool.rec [y] [] (aB y (s x)):List Nat).map .str) (N:=4000) rfl (λk=>(dq (C.l o ho) k).trans (cA0 some (dE _ _ _)))
   (λv loc acc _ _ hN=>by
    have t:=rc (r:=R0 6) (ev:=oS (put 177 (.str v) loc)) (σ:=σ) (c:=uq) (dg (BE _ _) (C.sub (k:=3) hx e171 e73) (xd (C.l x hx) (qG v (s x))))
    cases q:aB v (s x) with
    |true=>rw[q] at t; exact⟨_,trivial,λK=>(zK rfl t).trans (cA0 (K _ · σ) (List.append_nil acc).symm)⟩
    |false=>rw[q] at t hN; exact⟨_,trivial,λK=>jk rfl t (ki (BE _ _) (lE0 (Nat.le_add_right _ _) hN))⟩)
   (s o) 0 1000 loc acc (λi=>cA0 (aY _) (Nat.zero_add i)) (B.len o ho) trivial
  rw[←List.map_flatMap,List.length_map] at z
  exact(z hN).imp λl z=>⟨trivial,pq (jL rfl (C.sub ho e171 hl) (C.l o ho)) rfl z.2⟩
 have z:=fY (r:=R0 6) (ev:=oS []) (t:= .name 17 (pz 322 49 52)) (ifs:=[]) (it:= .seq (.obj (p x))) (σ:=σ) (its:=s x) (av:=AV.str) (P:=λ_=>True) (body:=iD tabs (R0 6) (oS []) (.name 177 (pz 322 41 44)) (.name 177 (pz 322 72 75)) Kl [uq]) (G:=λo=>(n4 (s x) (s o)).map .str) (N:=4000) rfl (λk=>(dq (C.l x hx) k).trans (cA0 some (dE _ _ _)))
  (λv loc acc _ hv hN=>(inner v (B.mem v hv) _ acc (bJ _ _ _) (by rw[List.length_map] at hN; exact hN)).imp λl z=>⟨trivial,λK=>jk (loc1:=put 17 (.str v) loc) rfl rfl z.2⟩)
  (s x) 0 1000 [] [] (λi=>cA0 (aY _) (Nat.zero_add i)) (B.len x hx) trivial
 rw[←List.map_flatMap,List.length_map] at z
 exact(z (lE0 (Nat.le_of_eq (Nat.zero_add _)) (lE0 (Nat.le_add_left _ _) B.clo))).elim λl z=>wa (cl:=[(73,3),(171,2)]) rfl rfl (kF (jL (e:=N4) rfl (C.sub hx (fe (o:=0) rfl rfl C.c2) (fe (o:=0) rfl rfl c3)) (C.l x hx)) rfl z.2)
end
noncomputable abbrev CS:=ac×(Nat→Nat)×SN
noncomputable def iN(x:Nat)(c:CS):CS:=(((c.1.push (bI (fX c.2.2 (c.2.2 x)))).push (bI (c.2.2 x++fX c.2.2 (c.2.2 x)))).set 14 (FH (xg x (c.1.n+1) c.2.1)),xg x (c.1.n+1) c.2.1,EJ c.2.2 x)
noncomputable def ir(x:Nat)(c:CS):CS:=(c.1.set 3 (iC x),c.2)
noncomputable def ud(c:CS)(k:Nat):CS:=Nat.rec (c.1.push fN,c.2) (λk c=>iN (162+k) (ir (162+k) c)) k
noncomputable def fM(c:CS)(t:Nat):CS:=Nat.rec c (λ_ c=>ud c 3) t
noncomputable def tC(s:SN)(k:Nat):SN:=Nat.rec s (λk s=>EJ s (162+k)) k
noncomputable def n8(s:SN)(t:Nat):SN:=Nat.rec s (λ_ s=>tC s 3) t
noncomputable def cT:ao:=[(170, .obj 6)]
noncomputable def iM(k:Nat):ao:=Nat.rec cT (λk _=>[(170, .obj 6),(19, .int (.ofNat k))]) k
noncomputable def wc:MS:= .for_ (.name 73 (pz 321 12 16)) (.lst [(.str 162 (pz 321 21 24)),(.str 163 (pz 321 26 29)),(.str 164 (pz 321 31 34))] (pz 321 20 35)) [sG] ⟨321,8,322,116⟩
noncomputable def xr:MS:= .for_ (.name 19 (pz 320 8 12)) (.call (.name 77 (pz 320 16 21)) [(.int 3 (pz 320 22 23))] (pz 320 16 24)) [wc] ⟨320,4,322,116⟩
structure Cv(j:Nat)(c:CS):Prop where
 C:Cl c.1 c.2.1 c.2.2
 c3:∃v,c.1.get 3=some (.cell v)
 g:c.1.get j=some fN
 lt:j<c.1.n∧14<j
section
variable {p:Nat→Nat}{s:SN}{x j:Nat}{loc:ao}{c:CS}{a b:ai}
theorem uC(h:j<σ.n):((σ.push a).push b).get j=σ.get j:=(ac.get_push_ne _ _ (Nat.ne_of_gt (Nat.lt_succ_of_lt h))).trans (ac.get_push_ne _ _ (Nat.ne_of_gt h))
theorem m0(h:j<c.1.n)(h14:14≠j):(iN x c).1.get j=c.1.get j:=(ac.get_set_ne _ _ _ h14).trans (uC h)
theorem Cl.ne(C:Cl σ p s)(hx:x∈aI):14≠p x:=λe=>nomatch (C.d.symm.trans ((cA0 σ.get e).trans (C.l x hx)))
theorem Iw(C:Cl c.1 c.2.1 c.2.2)(hx:x∈aI):Cl (iN x c).1 (iN x c).2.1 (iN x c).2.2 where
 c2:=(m0 (lT0 (by decide) C.n) (by decide)).trans C.c2
 d:=ac.get_set_self _ _ _
 l:=λy hy=>by
  show(iN x c).1.get (Bool.rec (c.2.1 y) (c.1.n+1) (Nat.beq y x))=some (bI (Bool.rec (c.2.2 y) (c.2.2 x++fX c.2.2 (c.2.2 x)) (Nat.beq y x)))
  cases q:Nat.beq y x with
  |true=>exact(ac.get_set_ne _ _ _ (Nat.ne_of_lt (lT0 C.n (Nat.le_succ _)))).trans (ac.get_push_self (c.1.push _) _)
  |false=>exact(m0 (C.lt y hy) (C.ne hy)).trans (C.l y hy)
 lt:=λy hy=>by
  show Bool.rec (c.2.1 y) (c.1.n+1) (Nat.beq y x)<c.1.n+1+1
  cases Nat.beq y x with
  |true=>exact Nat.lt_succ_self _
  |false=>exact Nat.lt_succ_of_lt (Nat.lt_succ_of_lt (C.lt y hy))
 n:=Nat.le_succ_of_le (Nat.le_succ_of_le C.n)
theorem Cl.keep(C:Cl σ p s){v:Option AV}(c3:σ.get 3=some (.cell v))(n:σ.n≤σ'.n)(g:∀j,j<σ.n→3≠j→σ'.get j=σ.get j):Cl σ' p s:=
 ⟨(g 2 (lT0 (by decide) C.n) (by decide)).trans C.c2,(g 14 C.n (by decide)).trans C.d,λy hy=>(g _ (C.lt y hy) λe=>nomatch (c3.symm.trans ((cA0 σ.get e).trans (C.l y hy)))).trans (C.l y hy),λy hy=>lT0 (C.lt y hy) n,lE0 C.n n⟩
theorem Gw(C:Cl c.1 c.2.1 c.2.2)(c3:c.1.get 3=some (iC x))(hx:x∈aI)(B:Bd c.2.2 x):(R0 9).s (cj loc) [sG] c.1=af (.next,loc) (iN x c).1:=by
 have e171:∀{σ:ac},σ.get 2=some (.cell (some (.obj 14)))→bw tabs (cj loc) 171 σ=some (.obj 14):=λh=>fe (o:=0) rfl rfl h
 have e73:∀{σ:ac},σ.get 3=some (iC x)→bw tabs (cj loc) 73 σ=some (.str x):=λh=>fe (o:=0) rfl rfl h
 have hv:(R0 8).e (cj loc) (.bin .Add NO qp (pz 322 26 116)) c.1=_:=tc (C.sub hx (e171 C.c2) (e73 c3)) (Cz C c3 hx B) (rk ((ac.get_push_ne _ _ (Nat.ne_of_gt (C.lt x hx))).trans (C.l x hx)) (ac.get_push_self _ _) (by rw[List.length_map,List.length_map]; exact B.clo))
 rw[←List.map_append] at hv
 have g:∀{j a b},j<15→((c.1.push a).push b).get j=c.1.get j:=λh=>uC (lT0 h C.n)
 refine aQ rfl (f8 rfl rfl hv (bq (ck (e171 ((g (by decide)).trans C.c2))) (bq (ck (e73 ((g (by decide)).trans c3))) (oq (a:=(iN x c).1) ?_ rfl))))
 show aO (ob (lO (((c.1.push _).push _).get 14)) _) (ob (dO (((c.1.push _).push _).get 14)) λl=>ob (gS _ _ l) λl'=>some (((c.1.push _).push _).set 14 (.dict l')))=_
 rw[g (by decide),C.d]
 exact ez (C:=λx=>ob (gS (.str x) (.obj (c.1.n+1)) [(.str 162, .obj (c.2.1 162)),(.str 163, .obj (c.2.1 163)),(.str 164, .obj (c.2.1 164))]) (λl'=>some (((c.1.push (bI (fX c.2.2 (c.2.2 x)))).push (bI (c.2.2 x++fX c.2.2 (c.2.2 x)))).set 14 (.dict l')))=some (iN x c).1) rfl rfl rfl x hx
theorem Cv.step(V:Cv j c)(hx:x∈aI)(B:Bd c.2.2 x):(R0 9).s (cj loc) [sG] (ir x c).1=af (.next,loc) (iN x (ir x c)).1∧Cv j (iN x (ir x c)):=
 V.c3.elim λv h3=>
  have C:Cl (ir x c).1 c.2.1 c.2.2:=V.C.keep h3 (Nat.le_refl _) λj _ h=>ac.get_set_ne _ _ _ h
  have c3:(ir x c).1.get 3=some (iC x):=ac.get_set_self _ _ _
  ⟨Gw (c:=ir x c) C c3 hx B,Iw (c:=ir x c) C hx,⟨_,(m0 (c:=ir x c) (lT0 (by decide) V.C.n) (by decide)).trans c3⟩,(m0 (c:=ir x c) V.lt.1 (Nat.ne_of_lt V.lt.2)).trans ((ac.get_set_ne _ _ _ (Nat.ne_of_lt (Nat.lt_trans (by decide) V.lt.2))).trans V.g),Nat.lt_succ_of_lt (Nat.lt_succ_of_lt V.lt.1),V.lt.2⟩
theorem zk{P:Nat→Prop}(a:P 0)(b:P 1)(c:P 2)(k:Nat)(h:k<3):P k:=match k,h with
 |0,_=>a
 |1,_=>b
 |2,_=>c
theorem yN:∀k<3,162+k∈aI:=by decide
theorem xy(c:CS)(k:Nat):(ud c k).2.2=tC c.2.2 k:=by
 induction k with
 |zero=>rfl
 |succ k ih=>exact cA0 (EJ · (162+k)) ih
theorem zL(C:Cl c.1 c.2.1 c.2.2)(c3:∃v,c.1.get 3=some (.cell v))(B:∀k<3,Bd (tC c.2.2 k) (162+k))(k:Nat)(hk:k≤3):Cv c.1.n (ud c k):=by
 induction k with
 |zero=>exact c3.elim λv h=>⟨C.keep h (Nat.le_succ _) λj h _=>ac.get_push_ne _ _ (Nat.ne_of_gt h),⟨v,(ac.get_push_ne _ _ (Nat.ne_of_gt (lT0 (by decide) C.n))).trans h⟩,ac.get_push_self _ _,Nat.lt_succ_self _,C.n⟩
 |succ k ih=>exact((ih (Nat.le_of_lt hk)).step (loc:=[]) (yN k hk) (xy c k▸B k hk)).2
theorem FO(C:Cl c.1 c.2.1 c.2.2)(c3:∃v,c.1.get 3=some (.cell v))(B:∀k<3,Bd (tC c.2.2 k) (162+k)):(R0 10).s (cj loc) [wc] c.1=af (.next,loc) (ud c 3).1:=
 have V:=zL C c3 B
 aQ rfl ((d7 (i:= .seq (.obj c.1.n)) (σ1:=(ud c 0).1) (aq rfl (bq (show _=af (.obj c.1.n) (c.1.push fN) from rfl) (by
  show ob (aO (ob (aO none (lO ((c.1.push fN).get c.1.n))) _) _) _=_
  rw[ac.get_push_self]; rfl))) rfl).trans (pO (St:=λk=>(ud c k).1) (St1:=λk=>(ir (162+k) (ud c k)).1) (vs:=λk=> .str (162+k)) (L:=λ_=>loc) (L1:=λ_=>loc) (n:=3) rfl
  (λk hk=>⟨(dq (V k (Nat.le_of_lt hk)).g k).trans (cA0 some (zk (P:=λk=>aY (aI.map AV.str) k=some (AV.str (162+k))) rfl rfl rfl k hk)),
   (V k (Nat.le_of_lt hk)).c3.elim λv h=>rY rfl rfl h,((V k (Nat.le_of_lt hk)).step (yN k hk) (xy c k▸B k hk)).1⟩) (dq (V 3 (Nat.le_refl 3)).g 3) (by decide)))
theorem yT(c:CS)(t:Nat):(fM c t).2.2=n8 c.2.2 t:=by
 induction t with
 |zero=>rfl
 |succ t ih=>exact(xy _ 3).trans (cA0 (tC · 3) ih)
noncomputable def w8(s:SN):Prop:=∀t<3,∀k<3,Bd (tC (n8 s t) k) (162+k)
theorem zP(C:Cl c.1 c.2.1 c.2.2)(c3:∃v,c.1.get 3=some (.cell v))(B:w8 c.2.2)(t:Nat)(ht:t≤3):Cl (fM c t).1 (fM c t).2.1 (fM c t).2.2∧∃v,(fM c t).1.get 3=some (.cell v):=by
 induction t with
 |zero=>exact⟨C,c3⟩
 |succ t ih=>have z:=ih (Nat.le_of_lt ht); have y:=zL z.1 z.2 (yT c t▸B t ht) 3 (Nat.le_refl 3); exact⟨y.C,y.c3⟩
theorem Dv(C:Cl c.1 c.2.1 c.2.2)(c3:∃v,c.1.get 3=some (.cell v))(B:w8 c.2.2):ba tabs (R0 10) (cj cT) xr c.1=af (.next,iM 3) (fM c 3).1:=
 (d7 (i:= .range 3) (σ1:=c.1) rfl rfl).trans (pO (r:=R0 10) (ev:=cj cT) (St:=λk=>(fM c k).1) (St1:=λk=>(fM c k).1) (vs:=λk=> .int (.ofNat k)) (L:=iM) (L1:=λk=>iM (k+1)) (n:=3) rfl
  (λk hk=>have z:=zP C c3 B k (Nat.le_of_lt hk); ⟨zk (P:=λk=>du (.range 3) k _=some (some (.int (.ofNat k)))) rfl rfl rfl k hk,zk (P:=λk=>cR (R0 10) (cj cT) 5 (iM k) _ (.int (.ofNat k)) (fM c k).1=af (iM (k+1)) (fM c k).1) rfl rfl rfl k hk,FO (loc:=iM (k+1)) z.1 z.2 (yT c k▸B k hk)⟩) rfl (by decide))
end
section
variable {p:Nat→Nat}{s:SN}{loc:ao}{c:CS}
noncomputable def xt(s:SN):List Nat:=aI.flatMap λx=>Bool.rec [] [x] (aB x (s x))
noncomputable def oR:List (Nat×NameKind):=[(21,.local),(73,.local),(171,.free)]
noncomputable def Ca:ME:= .cmp .In (.name 73 (pz 323 57 61)) (.sub (.name 171 (pz 323 65 70)) (.name 73 (pz 323 71 75)) (pz 323 65 76)) (pz 323 57 76)
noncomputable def Bp:ME:= .comp1 (.name 73 (pz 323 21 25)) (.name 73 (pz 323 30 34)) (.lst [(.str 162 (pz 323 39 42)),(.str 163 (pz 323 44 47)),(.str 164 (pz 323 49 52))] (pz 323 38 53)) [Ca] oR (pz 323 20 77)
noncomputable def u3:MS:= .ret (.lst [(.name 170 (pz 323 12 18)),(.cmp .NotEq Bp (.lst [] (pz 323 81 83)) (pz 323 20 83))] (pz 323 11 84)) (pz 323 4 84)
noncomputable def C3(σ:ac)(s:SN):ac:=(((σ.push fN).push (bI (xt s))).push (.list [])).push (.list [.obj 6, .bool (!bC (xt s))])
theorem JY{j:Nat}{l:List Nat}(h1:σ.get i=some (bI l))(h2:σ.get j=some (.list [])):gw .NotEq (.obj i) (.obj j) σ=some (!bC l):=by
 show nX (ob (ob (lO (σ.get i)) λl=>some (VK.lst i l)) λx=>ob (ob (lO (σ.get j)) λl=>some (VK.lst j l)) λy=>eM (eqv σ 11) x y)=_
 rw[h1,h2]
 cases l <;> rfl
theorem Hr(C:Cl σ p s):(R0 10).s (cj (iM 3)) [u3] σ=af (.ret (.obj (σ.n+3)),iM 3) (C3 σ s):=by
 have C1:Cl (σ.push fN) p s:=⟨(ac.get_push_ne _ _ (Nat.ne_of_gt (lT0 (by decide) C.n))).trans C.c2,(ac.get_push_ne _ _ (Nat.ne_of_gt C.n)).trans C.d,λy hy=>(ac.get_push_ne _ _ (Nat.ne_of_gt (C.lt y hy))).trans (C.l y hy),λy hy=>Nat.lt_succ_of_lt (C.lt y hy),Nat.le_succ_of_le C.n⟩
 have g:(σ.push fN).get σ.n=some fN:=ac.get_push_self _ _
 have l73:∀{k:Nat}{q:Pos}(v:AV)(loc:ao),(R0 (k+1)).e ⟨0,oR,put 73 v loc,[(171,2)]⟩ (.name 73 q) (σ.push fN)=af v (σ.push fN):=λv loc=>ck (bJ 73 v loc)
 have z:=fY (r:=R0 6) (ev:=⟨0,oR,[],[(171,2)]⟩) (t:= .name 73 (pz 323 30 34)) (ifs:=[Ca]) (it:= .seq (.obj σ.n)) (σ:=σ.push fN) (its:=aI) (av:=AV.str) (P:=λ_=>True) (body:=jh (R0 6) ⟨0,oR,[],[(171,2)]⟩ (.name 73 (pz 323 21 25))) (G:=λx=>(Bool.rec [] [x] (aB x (s x)):List Nat).map .str) (N:=4000) rfl (λk=>(dq g k).trans (cA0 some (dE _ _ _)))
  (λv loc acc _ hv hN=>by
   have t:=rc (r:=R0 6) (ev:=⟨0,oR,put 73 (.str v) loc,[(171,2)]⟩) (c:=Ca) (dg (l73 _ _) (C1.sub (k:=3) hv (fe (o:=0) rfl rfl C1.c2) (bJ 73 (.str v) loc)) (mJ (C1.l v hv) (qG v (s v))))
   cases q:aB v (s v) with
   |false=>rw[q] at t; exact⟨_,trivial,λK=>(zK rfl t).trans (cA0 (K _ · (σ.push fN)) (List.append_nil acc).symm)⟩
   |true=>rw[q] at t hN; exact⟨_,trivial,λK=>jk rfl t (ki (l73 _ _) (lE0 (Nat.le_add_right _ _) hN))⟩)
  aI 0 1000 [] [] (λi=>cA0 (aY _) (Nat.zero_add i)) (by decide) trivial
 rw[←List.map_flatMap,List.length_map] at z
 refine(z (by
  show 0+((Bool.rec [] [162] (aB 162 (s 162)):List Nat)++((Bool.rec [] [163] (aB 163 (s 163)):List Nat)++((Bool.rec [] [164] (aB 164 (s 164)):List Nat)++[]))).length≤4000
  cases aB 162 (s 162) <;> cases aB 163 (s 163) <;> cases aB 164 (s 164) <;> decide)).elim λl z=>?_
 have h1:(R0 7).e (cj (iM 3)) Bp σ=af (.obj (σ.n+1)) ((σ.push fN).push (bI (xt s))):=wQ (cl:=[(171,2)]) rfl rfl (kF (aq rfl (bq (show _=af (.obj σ.n) (σ.push fN) from rfl) (oq (a:= .seq (.obj σ.n)) (by
  show aO (ob (aO none (lO ((σ.push fN).get σ.n))) _) _=_
  rw[g]; rfl) rfl))) rfl z.2)
 exact aQ rfl (bq (bq (bq (a:= .obj 6) rfl (bq (bq (pA h1 (show _=af (.obj (σ.n+2)) _ from rfl) (JY ((ac.get_push_ne _ _ (Nat.ne_of_gt (Nat.lt_succ_self _))).trans (ac.get_push_self (σ.push fN) _)) (ac.get_push_self ((σ.push fN).push _) _))) rfl) rfl)) (gq rfl rfl)) rfl)
theorem GF(C:Cl c.1 c.2.1 c.2.2)(c3:∃v,c.1.get 3=some (.cell v))(B:w8 c.2.2):(R0 11).s (cj cT) [xr,u3] c.1=af (.ret (.obj ((fM c 3).1.n+3)),iM 3) (C3 (fM c 3).1 (n8 c.2.2 3)):=
 aS rfl (Dv C c3 B) (yT c 3▸Hr (zP C c3 B 3 (Nat.le_refl 3)).1)
end
noncomputable def T.map(f:ai→ai)(t:T):T:=T.rec .nil (λv _ _ a b=> .node (v.map f) a b) t
theorem T.map_get(f:ai→ai)(t:T):∀i,(t.map f).get i=(t.get i).map f:=by
 induction t with
 |nil=>exact λ_=>rfl
 |node v l r a b=>exact λi=>(bS _ _ _ i).trans (Eq.trans (show(if i=0 then v.map f else if i % 2=1 then(l.map f).get (i / 2) else(r.map f).get (i / 2-1))=_ by
   rw[a,b,←apply_ite (Option.map f),←apply_ite (Option.map f)]) (cA0 (Option.map f) (bS v l r i).symm))
noncomputable def m7(o:ai):ai:=match o with
 | .otok k l rs=>Bool.rec (.otok k l rs) (.list (otokL k l rs)) (Nat.beq k 3||Nat.beq k 8)
 |o=>o
noncomputable def nf(σ:ac):ac:=⟨σ.n,σ.t.map m7,σ.f⟩
theorem jr(σ:ac)(i:Nat):(nf σ).get i=(σ.get i).map m7:=T.map_get m7 σ.t i
section
variable {ev:Ev}{x:Nat}{v:AV}{o:ai}
theorem ul(o:ai):cf w o (m7 o)∧cf w (m7 o) o:=by
 cases o with
 |otok k l rs=>
  show cf w _ (Bool.rec (.otok k l rs) (.list (otokL k l rs)) (Nat.beq k 3||Nat.beq k 8))∧cf w (Bool.rec (.otok k l rs) (.list (otokL k l rs)) (Nat.beq k 3||Nat.beq k 8)) _
  cases Nat.beq k 3||Nat.beq k 8
  ·exact⟨.rfl, .rfl⟩
  ·exact⟨⟨id,λ_ _ _ _ r=>r⟩,⟨id,λ_ _ _ _ r=>r⟩⟩
 |_=>exact⟨.rfl, .rfl⟩
theorem oO:Re w σ (nf σ):=⟨Eq.refl _,Eq.refl _,λi o' h=>by
 rw[jr] at h
 cases q:σ.get i with
 |none=>rw[q] at h; exact al h
 |some o=>rw[q] at h; exact⟨o,Eq.refl _,sI h▸(ul o).1⟩⟩
theorem Nd:Re w (nf σ) σ:=⟨Eq.refl _,Eq.refl _,λi o h=>⟨m7 o,(jr σ i).trans (cA0 (Option.map m7) h),(ul o).2⟩⟩
theorem Fe(H:∀c u,σ.get c=some (.cell u)→σ'.get c=some (.cell u))(h:bw tabs ev x σ=some v):bw tabs ev x σ'=some v:=aa h λk q h=>oq q (by
 have cv:iq ev x σ=some v→iq ev x σ'=some v:=λh=>aa h λc q1 h=>aa h λu q2 h=>oq q1 (by rw[H c u (xc q2)]; exact h)
 cases k with
 |cell=>exact cv h
 |free=>exact cv h
 |_=>exact h)
theorem yn(h:bw tabs ev x σ=some v):bw tabs ev x (nf σ)=some v:=Fe (λc u q=>(jr σ c).trans (cA0 (Option.map m7) q)) h
noncomputable def Wf(σ:ac):Prop:=∀i o,σ.get i=some o→i<σ.n
theorem Wf.push(W:Wf σ):Wf (σ.push o):=λi y h=>by
 rw[kn] at h
 by_cases z:σ.n=i
 ·exact z▸Nat.lt_succ_self _
 ·rw[if_neg z] at h; exact Nat.lt_succ_of_lt (W i y h)
theorem Wf.old(W:Wf σ){o':ai}(h:σ.get i=some o'):(σ.push o).get i=some o':=(ac.get_push_ne _ _ (Nat.ne_of_gt (W i o' h))).trans h
theorem mu(W:Wf σ)(h:bw tabs ev x σ=some v):bw tabs ev x (σ.push o)=some v:=Fe (λc u q=>W.old q) h
end
noncomputable def P9:ME:= .sub (.name 171 (pz 318 12 17)) (.name 73 (pz 318 18 22)) (pz 318 12 23)
noncomputable def NU:ME:= .sub (.name 171 (pz 318 26 31)) (.name 73 (pz 318 32 36)) (pz 318 26 37)
noncomputable def JV:ME:= .sub (.name 92 (pz 318 72 75)) (.int 1 (pz 318 76 77)) (pz 318 72 78)
noncomputable def pG:List (Nat×NameKind):=[(21,.local),(92,.local),(17,.local)]
noncomputable def Lc:ME:= .comp2 (.name 17 (pz 318 41 44)) (.name 92 (pz 318 49 52)) (.name 174 (pz 318 56 60)) (.name 17 (pz 318 65 68)) JV [] pG (pz 318 40 79)
noncomputable def FB:MS:= .asg P9 (.bin .Add NU Lc (pz 318 26 79)) (pz 318 12 79)
noncomputable abbrev eY:=Nat×Nat×List Nat×List Nat
noncomputable def eY.nm(y:eY):List Nat:=de y.2.2.1 y.2.2.2
noncomputable def gU(es:List eY):List Nat:=es.flatMap eY.nm
noncomputable def yW(es:List eY):List Nat:=es.flatMap (·.2.2.2)
theorem Ba(l rs:List Nat):(de l rs).length≤rs.length:=by
 induction l generalizing rs with
 |nil=>exact Nat.zero_le _
 |cons a l ih=>cases rs with
  |nil=>exact Nat.le_refl 0
  |cons r rs=>exact Nat.succ_le_succ (ih rs)
theorem ph{l rs:List Nat}(h:l.length≤rs.length):de l rs=l:=by
 induction l generalizing rs with
 |nil=>rfl
 |cons a l ih=>cases rs with
  |nil=>exact absurd h (Nat.not_succ_le_zero _)
  |cons r rs=>exact cA0 (a::·) (ih (Nat.le_of_succ_le_succ h))
theorem Hs(es:List eY):(gU es).length≤(yW es).length:=by
 induction es with
 |nil=>exact Nat.le_refl 0
 |cons y es ih=>
  unfold gU yW
  rw[List.flatMap_cons,List.flatMap_cons,List.length_append,List.length_append]
  exact Nat.add_le_add (Ba _ _) ih
theorem MT{es:List eY}{y:eY}(h:y∈es):y.nm.length≤(gU es).length:=by
 induction es with
 |nil=>exact absurd h List.not_mem_nil
 |cons z es ih=>
  unfold gU
  rw[List.flatMap_cons,List.length_append]
  exact(List.mem_cons.mp h).elim (λe=>e▸Nat.le_add_right _ _) λh=>lE0 (ih h) (Nat.le_add_left _ _)
section
variable {ev:Ev}{es:List eY}
noncomputable def tv(σ:ac)(es:List eY):Prop:=∀y∈es,(∃a,σ.get y.1=some (.list [a, .obj y.2.1]))∧σ.get y.2.1=some (bI y.nm)
theorem FU{p:Nat}(hp:bw tabs ev 174 σ=some (.obj p))(hl:σ.get p=some (.list (es.map λy=> .obj y.1)))(he:tv σ es)(h1:es.length<1000)(h2:(gU es).length≤999):(R0 8).e ev Lc σ=af (.obj σ.n) (σ.push (bI (gU es))):=by
 have l17:∀{k:Nat}{q:Pos}(v:AV)(loc:ao),(R0 (k+1)).e ⟨0,pG,put 17 v loc,[]⟩ (.name 17 q) σ=af v σ:=λv loc=>ck (bJ 17 v loc)
 have z:=fY (r:=R0 7) (ev:=⟨0,pG,[],[]⟩) (t:= .name 92 (pz 318 49 52)) (ifs:=[]) (it:= .seq (.obj p)) (σ:=σ) (its:=es) (av:=λy=> .obj y.1) (P:=λ_=>True) (body:=iD tabs (R0 7) ⟨0,pG,[],[]⟩ (.name 17 (pz 318 41 44)) (.name 17 (pz 318 65 68)) JV []) (G:=λy=>y.nm.map .str) (N:=999) rfl (λk=>(dq hl k).trans (cA0 some (dE _ _ _)))
  (λy loc acc _ hy hN=>(he y hy).1.elim λa g1=>by
   have i:=fY (r:=R0 7) (ev:=⟨0,pG,[],[]⟩) (t:= .name 17 (pz 318 65 68)) (ifs:=[]) (it:= .seq (.obj y.2.1)) (σ:=σ) (its:=y.nm) (av:=AV.str) (P:=λ_=>True) (body:=jh (R0 7) ⟨0,pG,[],[]⟩ (.name 17 (pz 318 41 44))) (G:=λx=>[.str x]) (N:=999) rfl (λk=>(dq (he y hy).2 k).trans (cA0 some (dE _ _ _)))
    (λv loc acc _ _ hN=>⟨_,trivial,λK=>jk rfl rfl (ki (l17 _ _) (lE0 (Nat.le_add_right _ _) (lE0 hN (by decide))))⟩)
    y.nm 0 1000 (put 92 (.obj y.1) loc) acc (λi=>cA0 (aY _) (Nat.zero_add i)) (Nat.lt_succ_of_le (lE0 (MT hy) h2)) trivial
   rw[←List.map_eq_flatMap] at i
   exact(i hN).imp λl z=>⟨trivial,λK=>jk (loc1:=put 92 (.obj y.1) loc) rfl rfl (pq (jL (e:=JV) rfl (ll (ck (bJ 92 (.obj y.1) loc)) rfl (by
    show aO none (aO (ob (lO (σ.get y.1)) λl=>gd (bc 1) (aY l 1)) _)=_
    rw[g1]; rfl)) (he y hy).2) rfl z.2)⟩)
  es 0 1000 [] [] (λi=>cA0 (aY _) (Nat.zero_add i)) h1 trivial
 rw[←List.map_flatMap,List.length_map] at z
 exact(z (lE0 (Nat.le_of_eq (Nat.zero_add _)) h2)).elim λl z=>wa (cl:=[]) rfl rfl (kF (jL rfl (ck hp) hl) rfl z.2)
end
section
variable {ev:Ev}{es:List eY}{d x p E:Nat}{D D':List (AV×AV)}{N:List Nat}
theorem Ko(W:Wf σ)(hd:bw tabs ev 171 σ=some (.obj d))(hx:bw tabs ev 73 σ=some (.str x))(hp:bw tabs ev 174 σ=some (.obj p))(gd:σ.get d=some (.dict D))(ge:dP (.str x) D=some (some (.obj E)))(gE:σ.get E=some (bI N))(hl:σ.get p=some (.list (es.map λy=> .obj y.1)))(he:tv σ es)
  (hD:gS (.str x) (.obj (σ.n+1)) D=some D') (h1:es.length<1000) (h2:N.length+(gU es).length≤999):(R0 10).s ev [FB] σ=af (.next,ev.loc) (((σ.push (bI (gU es))).push (bI (N++gU es))).set d (.dict D')):=by
 have hv:(R0 9).e ev (.bin .Add NU Lc (pz 318 26 79)) σ=_:=tc (ll (ck hd) (ck hx) (tF gd ge)) (FU hp hl he h1 (lE0 (Nat.le_add_left _ _) h2)) (rk (W.old gE) (ac.get_push_self _ _) (by rw[List.length_map,List.length_map]; exact lE0 h2 (by decide)))
 rw[←List.map_append] at hv
 refine aQ rfl (f8 rfl rfl hv (bq (ck (mu W.push (mu W hd))) (bq (ck (mu W.push (mu W hx))) (oq ?_ rfl))))
 show aO (ob (lO (((σ.push _).push _).get d)) _) (ob (dO (((σ.push _).push _).get d)) λl=>ob (gS _ _ l) λl'=>some (((σ.push _).push _).set d (.dict l')))=_
 rw[W.push.old (W.old gd)]
 show aO none (ob (gS _ _ D) _)=_
 rw[show gS (.str x) (.obj (σ.push (bI (gU es))).n) D=some D' from hD]; rfl
end
noncomputable def Md(o:Option ai):Option (List Nat×List Nat):=aO (ob o λo=>match o with
 | .otok k l rs=>gd (Nat.beq k 8) (some (l,rs))
 |_=>none) (ob (lO o) λl=>gd (bC l) (some ([],[])))
noncomputable def Ov(σ:ac)(v:AV):Option eY:=ob (oV v) λp=>ob (lO (σ.get p)) λm=>ob (fB m) λq=>ob (oV q.2) λe=>ob (Md (σ.get e)) λy=>some (p,e,y)
noncomputable def ET(σ:ac)(l:List AV):Option (List eY):=List.rec (some []) (λv _ ih=>ob (Ov σ v) λy=>ob ih λl=>some (y::l)) l
noncomputable def MO(ev:Ev)(σ:ac){β:Type}(f:Nat→Nat→List (AV×AV)→List Nat×List Nat→List eY→Option β):Option β:=ob (bw tabs ev 171 σ) λv=>ob (oV v) λd=>ob (bw tabs ev 73 σ) λv=>ob (sV v) λx=>ob (bw tabs ev 174 σ) λv=>ob (oV v) λp=>
 ob (dO (σ.get d)) λD=>ob (dP (.str x) D) λu=>ob u λv=>ob (oV v) λE=>ob (Md (σ.get E)) λN=>ob (lO (σ.get p)) λrows=>ob (ET σ rows) λes=>f d x D N es
noncomputable def I0:Ss:=λev b σ=>gd (qn LP b [FB]) (MO ev σ λd x D N es=>ob (gS (.str x) (.obj (σ.n+1)) D) λD'=>gd (Nat.ble (len N.2+len (yW es)) 100&&Nat.ble (len es) 100) (some (af (.next,ev.loc) (((σ.push (bI (gU es))).push (.otok 8 (de N.1 N.2++gU es) (N.2++yW es))).set d (.dict D')))))
theorem zZ{q:List Nat×List Nat}(h:Md (σ.get i)=some q):(nf σ).get i=some (bI (de q.1 q.2)):=(jr σ i).trans (by
 cases z:σ.get i with
 |none=>rw[z] at h; exact al h
 |some o=>
  rw[z] at h
  cases o with
  |otok k l rs=>exact be h (λh=>ay h λe h=>by rw[eB0 e,←sI h]; rfl) λh=>al h
  |list l=>exact be h (λh=>al h) λh=>ay h λe h=>by rw[kN e,←sI h]; rfl
  |_=>exact al h)
theorem ua{o:ai}(h:σ.get i=some o):(nf σ).get i=some (m7 o):=(jr σ i).trans (cA0 (Option.map m7) h)
theorem DS{l:List AV}{es:List eY}(h:ET σ l=some es):l=es.map (λy=> .obj y.1)∧tv (nf σ) es:=by
 induction l generalizing es with
 |nil=>exact sI h▸⟨rfl,λ_ z=>absurd z List.not_mem_nil⟩
 |cons v l ih=>exact aa h λy q h=>aa h λm q2 h=>sI h▸aa q λp h1 q=>aa q λm' h2 q=>aa q λab h3 q=>aa q λe h4 q=>aa q λN h5 q=>sI q▸
   have z:=ih q2
   ⟨congr (cA0 List.cons (cP h1)) z.1,List.forall_mem_cons.mpr ⟨⟨⟨ab.1,(ua (fk h2)).trans (by rw[dR h3,cP h4]; rfl)⟩,zZ h5⟩,z.2⟩⟩
theorem Re.put{o:ai}(r:Re w σ σ'):Re w (σ.set i o) (σ'.set i o):=⟨r.n,r.f,λj x y=>by
 rw[gb] at y ⊢
 by_cases z:i=j
 ·rw[if_pos z] at y ⊢; exact⟨x,y, .rfl⟩
 ·rw[if_neg z] at y ⊢; exact r.g j x y⟩
theorem Nm(T:aE K)(dz:DZ w K)(rz:RZ w K):fT w K 10 I0:=λev b σ outs e=>
 ay e λhb e=>aa e λv a1 e=>aa e λd a2 e=>aa e λv a3 e=>aa e λx a4 e=>aa e λv a5 e=>aa e λp a6 e=>aa e λD a7 e=>aa e λu a8 e=>aa e λv a9 e=>aa e λE b1 e=>aa e λN b2 e=>aa e λrows b3 e=>aa e λes b4 e=>aa e λD' b5 e=>ay e λb6 e=>aw b6 λb6 b7=>by
  rw[jj zd hb,←sI (sI e)]
  rw[cP a2] at a1
  rw[eI a4] at a3
  rw[cP a6] at a5
  rw[a9,cP b1] at a8
  have b6:=lB0 b6
  have b7:=lB0 b7
  rw[aM,aM] at b6
  rw[aM] at b7
  have z:=DS b4
  have l1:=Nat.add_le_add (Ba N.1 N.2) (Hs es)
  exact .re λh β R=>⟨nf σ,_,Eq.refl _,(oO (w:=w)).hot,oO.rel h β R, .of (m:=0) T dz rz bf aH (Ko (λi o y=>((oO.rel h β R).obj i o y).1) (yn a1) (yn a3) (yn a5) (ua (bN a7)) a8 (zZ b2) ((ua (fk b3)).trans (cA0 (λl=>some (ai.list l)) z.1)) z.2 b5 (Nat.lt_of_le_of_lt b7 (by decide)) (lE0 l1 (lE0 b6 (by decide)))),
   .one (Re.put (Re.push (Re.push Nd .rfl) (.otok (cA0 (List.map AV.str) (ph (by rw[List.length_append,List.length_append]; exact l1))))))⟩
theorem j8{α:Type}{x:Nat}{v:α}{l:List (Nat×α)}(h:look x l=some v):(x,v)∈l:=by
 induction l with
 |nil=>exact al h
 |cons p l ih=>
  rw[bH x p.1 p.2 l] at h
  by_cases z:x=p.1
  ·rw[if_pos z] at h; exact z▸sI h▸ .head _
  ·rw[if_neg z] at h; exact .tail _ (ih h)
theorem xv.ren{p:Nat→Bool}{e:Nat→Nat}{O:Nat→Nat→Prop}(H:∀j,p j=true→O j (e j)){l:ao}:(l.all λq=>lg p q.2)=true→xv O l (l.map λq=>(q.1,iQ e q.2)):=List.rec (λ_=> .nil) (λa l ih z=>aw z λz1 z2=>eK.cons (y:=a.1) (aR.ren H a.2 z1) (ih z2)) l
noncomputable abbrev FV:=Option AV×List (Option AV)
noncomputable def ur(n0:Nat)(js:List Nat)(E:Nat→Nat)(a:AV):Option AV:=gd (lg (y9 n0 js) a) (some (iQ E a))
noncomputable def sv(n0 n:Nat)(e:Nat→Nat)(sel:ac→List Nat)(cs xs:List Nat)(post:ac→ac)(outs:aj (Fl×ao)):Option (FV×eJ):=ob outs λl=>ob (one l) λp=>ax.rec (λq=>ob (mv n0 n e (sel (post p.2)) cs (post p.2)) λy=>
 ob (Fl.rec (some none) (λa=>ob (ur n0 (sel (post p.2)) (eN n0 n e (sel (post p.2))) a) λb=>some (some b)) q.1) λf=>some ((f,xs.map λx=>ob (look x q.2) (ur n0 (sel (post p.2)) (eN n0 n e (sel (post p.2))))),y)) (λ_=>none) p.1
noncomputable def yQ(f:Option AV):Fl:=Option.rec .next .ret f
section
variable {n0 m:Nat}{σ0:ac}{e:Nat→Nat}{ch:List (Nat×ai)}{js:List Nat}{nw:List ai}{sel:ac→List Nat}{post:ac→ac}{loc:ao}{f:Option AV}
theorem wh(h:ur n0 js (eN n0 n e js) a=some b):aR (On n0 n e js) a b:=ay h λz h=>sI h▸ .ren (λ_=>xB) _ z
noncomputable def Ef{α:Type}(post:ac→ac)(l:List (ax α×ac)):List (ax α×ac):=l.map λp=>(p.1,post p.2)
theorem EU{outs:aj (Fl×ao)}(h:sv n0 σ.n e sel (ch.map (·.1)) (loc.map (·.1)) post outs=some ((f,loc.map λq=>some q.2),aG n0 σ0 ch nw)):∃l,outs=some l∧jD qh n0 σ0 σ e (Ef post l) [(.ok (yQ f,loc),pushes nw (bG e ch σ))]:=
 aa h λl q h=>aa h λp q2 h=>⟨l,q,cB q2▸by
  obtain⟨r0,σ'⟩:=p
  cases r0 with
  |exc c=>exact al h
  |ok r=>
   obtain⟨fl,l0⟩:=r
   exact aa h λy q3 h=>aa h λf' q4 h=>
    have x:=Prod.mk.inj (sI h)
    have z:=Prod.mk.inj x.1
    have hl:rQ (On n0 σ.n e (sel (post σ'))) l0 loc:=λi a hi=>aa (az (f:=λq:Nat×AV=>ob (look q.1 l0) (ur n0 (sel (post σ')) (eN n0 σ.n e (sel (post σ'))))) (g:=λq=>some q.2) ((List.map_map (g:=λx=>ob (look x l0) (ur n0 (sel (post σ')) (eN n0 σ.n e (sel (post σ'))))) (f:=λq:Nat×AV=>q.1)).symm.trans z.2) (j8 hi)) λa0 q5 h=>⟨a0,q5,wh h⟩
    z.1▸ .one (js:=sel (post σ')) (by
     cases fl with
     |next=>exact sI q4▸ .next hl
     |ret a0=>exact aa q4 λb q6 h=>sI h▸ .ret (wh q6) hl) (u9 (x.2▸q3))⟩
noncomputable def Ao(ev:Ev)(l:List ai):Bool×List (Option ai)×Bool×Bool×Bool×ao×Bool×List (Nat×Nat):=(b8 (ah l.length),(ah l.length).map (au l).get,l.all (jq λj=>Nat.blt j l.length),aK (au l) (ah l.length),(ev.loc.all λq=>lg (λj=>Nat.blt j l.length) q.2),ev.loc.map (λq=>(q.1,iQ (aX (ah l.length)) q.2)),(ev.cel.all λq=>Nat.blt q.2 l.length),ev.cel.map λq=>(q.1,aX (ah l.length) q.2))
noncomputable def Bb(ev:Ev)(l:List ai):Bool×List (Option ai)×Bool×Bool×Bool×ao×Bool×List (Nat×Nat):=(true,(l.map (cK (aX (ah l.length)))).map some,true,true,true,ev.loc,true,ev.cel)
theorem aD.see{ev:Ev}{b0:List MS}{l:List ai}{outs0:List (ax (Fl×ao)×ac)}(q:aD w K m ev b0 (au l) outs0)(hpost:∀σ,Re w σ (post σ))(c:Ao ev l=Bb ev l)
  (h:sv l.length l.length (aX (ah l.length)) sel (ch.map (·.1)) (loc.map (·.1)) post (some outs0)=some ((f,loc.map λq=>some q.2),aG l.length (au l) ch nw)):aD w K m ev b0 (au l) [(.ok (yQ f,loc),pushes nw (bG (aX (ah l.length)) ch (au l)))]:=
 (EU (σ:=au l) (outs:=some outs0) (by rw[mT]; exact h)).elim λl' y=>(q.conv (outs:=Ef post outs0) λr σ1 hm=>⟨post σ1,List.mem_map.mpr ⟨_,hm,rfl⟩,hpost σ1⟩).lift (fc.of (cA0 (·.1) c) (.ren (cA0 (·.2.1) c) (cA0 (·.2.2.1) c)) (cA0 (·.2.2.2.1) c)) rfl rfl ((cA0 (xv _ ev.loc) (cA0 (·.2.2.2.2.2.1) c)).mp (.ren (λj h=>⟨h,rfl⟩) (cA0 (·.2.2.2.2.1) c)))
  ((cA0 (eK _ ev.cel) (cA0 (·.2.2.2.2.2.2.2) c)).mp (fy.ren (λj h=>⟨h,rfl⟩) ev.cel (cA0 (·.2.2.2.2.2.2.1) c)).1) ((sI y.1).symm▸y.2)
theorem aD.at{ev:Ev}{b0:List MS}{sp:Sp}{ss:Ss}{l:List ai}(T:aE K)(dz:DZ w K)(rz:RZ w K)(hp:bK w K m sp)(hs:fT w K m ss)(hpost:∀σ,Re w σ (post σ))(c:Ao ev l=Bb ev l)
  (h:sv l.length l.length (aX (ah l.length)) sel (ch.map (·.1)) (loc.map (·.1)) post ((R tabs sp ss k).s ev b0 (au l))=some ((f,loc.map λq=>some q.2),aG l.length (au l) ch nw)):aD w K (m+k) ev b0 (au l) [(.ok (yQ f,loc),pushes nw (bG (aX (ah l.length)) ch (au l)))]:=
 (EU (σ:=au l) (by rw[mT]; exact h)).elim λl' y=> .see (.of T dz rz hp hs y.1) hpost c (y.1▸h)
theorem aD.sub{ev:Ev}{b0:List MS}{l l':ao}{fl:Fl}(s:∀y v,look y l=some v→look y l'=some v)(c:aD w K m ev b0 σ [(.ok (fl,l'),σ')]):aD w K m ev b0 σ [(.ok (fl,l),σ')]:=
 ⟨λhA S hE P=>c.ok hA S hE ⟨λp σ1 hm v β1 h1 tk1 r st=>by
  injection List.mem_singleton.mp hm with e1 e2
  injection e1 with e1
  subst e1 e2
  exact P.ok _ _ (.head _) v β1 h1 tk1 ⟨eK.loc (Q:=(· = ·)) (λx a e=>⟨a,s x a e,rfl⟩) (λ_ _ e _ r=>e▸r) r.1,r.2⟩ st,λc σ1 hm=>nomatch List.mem_singleton.mp hm⟩⟩
noncomputable def FC(j:Nat)(σ:ac):ac:=Option.rec σ (λ_=>σ.set j (.cell none)) (cO (σ.get j))
theorem Lz(j:Nat)(σ:ac):Re w σ (FC j σ):=by
 unfold FC
 cases q:cO (σ.get j) with
 |none=>exact .rfl
 |some u=>exact .set (xc q) ⟨id,λ_ _ _ _ r=>r.imp λ_ r=>r.imp λ_ r=>⟨r.1,r.2.1,trivial⟩⟩
noncomputable def Ej(w:World)(l m:List ai):Prop:=List.rec (motive:=λ_=>List ai→Prop) (λm=>m=[]) (λa _ ih m=>∃b r,m=b::r∧cf w a b∧ih r) l m
theorem Re.pushes{l m:List ai}(t:Ej w l m)(r:Re w σ1 σ2):Re w (Mine.pushes l σ1) (Mine.pushes m σ2):=by
 induction l generalizing m σ1 σ2 with
 |nil=>cases t; exact r
 |cons a l ih=>exact t.elim λb t=>t.elim λn t=>(cA0 (λm=>Re w (Mine.pushes l (σ1.push a)) (Mine.pushes m σ2)) t.1).mpr (show Re w (Mine.pushes l (σ1.push a)) (Mine.pushes n (σ2.push b)) from ih t.2.2 (r.push t.2.1))
end
noncomputable abbrev NA:=List Nat×Ad
noncomputable def wD:ai:= .dict [(.str 153, .none),(.str 62, .obj 7),(.str 63, .obj 8),(.str 130, .obj 9),(.str 103, .obj 10),(.str 141, .obj 11),(.str 154, .obj 12),(.str 155, .obj 13)]
noncomputable def Lm(l:List Dr)(x:ai)(adts steps:List (AV×AV)):List ai:=[.tr l, .cell (some (.obj 0)), .cell (some (.obj 14)),x, .cell none,wD, .inst 356 5, .dict adts, .dict [], .dict [], .dict [], .list [], .dict [], .dict [], .dict steps,fN]
noncomputable def dT(i:Nat):Nat:=16+6 * i
noncomputable def J6(i:Nat)(p:NA):List ai:=[.otok 3 p.1 [], .inst 263 (dT i+2),lX (162+i) (dT i+3) p.2.h, .otok 9 [p.2.t] [dT i+4,dT i+5], .otok 0 p.2.c0 [], .otok 0 p.2.c1 []]
noncomputable def Pd(i:Nat)(ps:List NA):List ai:=List.rec (motive:=λ_=>Nat→List ai) (λ_=>[]) (λp _ ih i=>J6 i p++ih (i+1)) ps i
noncomputable def D1(d i:Nat)(ps:List NA):List (AV×AV):=List.rec (motive:=λ_=>Nat→List (AV×AV)) (λ_=>[]) (λ_ _ ih i=>(.str (162+i), .obj (dT i+d))::ih (i+1)) ps i
noncomputable def eg(l:List Dr)(i:Nat)(ps:List NA):List ai:=Lm l (iC (162+i)) (D1 1 0 ps) (D1 0 0 ps)++Pd 0 ps
noncomputable def lw:List MS:=match lQ.body with
 |_:: .for_ _ _ b _::_=>b
 |_=>[]
noncomputable def NN(V:List (List Nat))(l:List Dr):List Dr:=List.rec l (λr _ ih=> .take 3 r.length::(r.map (.mac 0)++ih)) V
noncomputable def zb(a b:Nat)(V:List (List Nat))(l:List Dr):List Dr:= .take 2 a:: .take 2 b::NN V l
noncomputable def IK(c d:Nat):List (List Nat):=[[],[c],[c,d]]
noncomputable def Ay(c d c' d':Nat):List (Nat×Nat×List (List Nat)):=(IK c d).flatMap λr=>(0,0,[r])::(1,0,[r])::(1,1,[r])::(IK c' d').map λr'=>(0,1,[r,r'])
noncomputable def L9(σ:ac)(d:Nat)(x:Nat):Option Nat:=ob (dO (σ.get d)) λD=>ob (dP (.str x) D) λu=>ob u oV
noncomputable def HK(l:List AV)(k:Nat):Option Nat:=ob (aY l k) λv=>ob (tV v) λm=>ob (aY m 2) oV
noncomputable def O4(σ:ac)(m k:Nat):Nat:=Nat.rec (motive:=λ_=>Nat→Nat) (λk=>k) (λ_ ih k=>Bool.rec (ih (k+1)) k (Option.rec false bC (lO (σ.get k)))) m k
noncomputable def Ot(i:Nat)(σ:ac):List Nat:=(ob (L9 σ 14 (162+i)) λjN=>ob (L9 σ 7 (162+i)) λjI=>ob (iO (σ.get jI)) λy=>ob (L9 σ y.2 63) λjV=>ob (lO (σ.get jV)) λV=>ob (HK V 0) λr0=>some [jN,jI,y.2,jV,r0,Option.rec (O4 σ (σ.n-dT i) (dT i)) id (HK V 1)]).getD []
noncomputable def LW(r:Nat):AV:= .tup [.txt 80, .str 13, .obj r]
noncomputable def xY(cs:List Nat):ai:= .list (cs.map λc=> .tup [.txt 30, .tok 0 c])
noncomputable def Od(V:List (List Nat)):List Nat:=V.tail.headD []
noncomputable def rU(V:List (List Nat)):Bool:=!bC V.tail
noncomputable def EL(V:List (List Nat)):List Nat×List Nat:=V.foldl (λq r=>(de q.1 q.2++r.flatMap (λc=>de (aZ c) [0]),q.2++r.flatMap λ_=>[0])) ([],[])
noncomputable def Kk(i:Nat)(h:Bool)(V:List (List Nat)):List ai:=[.otok 8 (EL V).1 (EL V).2, .inst 263 (dT i+2),lX (162+i) (dT i+3) h, .list (LW (dT i+4)::cond (rU V) [LW (dT i+5)] []),xY (V.headD []),xY (Od V)]
noncomputable def nx(h:Bool)(V:List (List Nat)):NA:=(V.flatten.flatMap aZ,⟨h,cond (rU V) 1 0,V.headD [],Od V⟩)
noncomputable def Ed(i:Nat)(l:List Dr)(ps:List NA):List (Nat×ai):=[(0, .tr l),(7, .dict (D1 1 0 ps++[(.str (162+i), .obj (dT i+1))])),(14, .dict (D1 0 0 ps++[(.str (162+i), .obj (dT i))])),(4, .cell none)]
noncomputable def EO(i:Nat)(ps:List NA)(l:List Dr)(a b:Nat)(V:List (List Nat)):Option (FV×eJ):=sv (dT i) (dT i) (aX (ah (dT i))) (Ot i) ((Ed i l ps).map (·.1)) (cT.map (·.1)) (FC 4) ((R tabs (sp2 IY gC) I0 24).s (cj cT) lw (au (eg (zb a b V l) i ps)))
noncomputable def EH(i:Nat)(ps:List NA)(l:List Dr)(a b:Nat)(V:List (List Nat)):Option (FV×eJ):=some ((none,cT.map λq=>some q.2),aG (dT i) (au (eg (zb a b V l) i ps)) (Ed i l ps) (Kk i (Nat.beq a 0) V))
noncomputable def wi(i:Nat)(ps:List NA):Prop:=∀(l:List Dr)(c d c' d':Nat),(Ay c d c' d').map (λs=>EO i ps l s.1 s.2.1 s.2.2)=(Ay c d c' d').map (λs=>EH i ps l s.1 s.2.1 s.2.2)
theorem Pc:wi 0 []:=λl c d c' d'=>by kernel_rfl
theorem O9(N:List Nat)(h:Bool)(t:Nat)(c0 c1:List Nat):wi 1 [(N,⟨h,t,c0,c1⟩)]:=λl c d c' d'=>by kernel_rfl
theorem O6(N:List Nat)(h:Bool)(t:Nat)(c0 c1 N':List Nat)(h':Bool)(t':Nat)(c0' c1':List Nat):wi 2 [(N,⟨h,t,c0,c1⟩),(N',⟨h',t',c0',c1'⟩)]:=λl c d c' d'=>by kernel_rfl
theorem bT(s:Int×Int){t:Nat}(ht:0<t):(bp s t).1<t:=by
 have h:∀x:Int,(x % (t:Int)).toNat<t:=λx=>(Int.toNat_lt (Int.emod_nonneg x (Int.ne_of_gt (Int.natCast_pos.mpr ht)))).mpr (Int.emod_lt_of_pos x (Int.natCast_pos.mpr ht))
 unfold bp
 split
 ·exact h _
 ·exact h _
theorem Dd{l:List Dr}{s':Int×Int}(h:df l s')(cs:List Nat):∀s,rG 0 cs s s'→df (cs.map (.mac 0)++l) s:=by
 induction cs with
 |nil=>exact λs e=>(show s'=s from e)▸h
 |cons c cs ih=>exact λs e=>e.imp λs1 y=>⟨y.1,ih s1 y.2⟩
theorem tg{l:List Dr}{s':Int×Int}(h:df l s')(V:List (List Nat)):∀s,rB V s s'→df (NN V l) s∧∀r∈V,r.length≤2:=by
 induction V with
 |nil=>exact λs e=>⟨(show s'=s from e)▸h,λ_ z=>absurd z List.not_mem_nil⟩
 |cons cs V ih=>exact λs e=>e.elim λs1 y=>have z:=ih s1 y.2.2; ⟨⟨(bp s 3).2,⟨y.1,rfl⟩,Dd z.1 cs _ y.2.1⟩,List.forall_mem_cons.mpr ⟨Nat.le_of_lt_succ (y.1▸bT s (by decide)),z.2⟩⟩
theorem qA(r:List Nat)(h:r.length≤2):∃c d,r∈IK c d:=match r,h with
 |[],_=>⟨0,0, .head _⟩
 |[c],_=>⟨c,0, .tail _ (.head _)⟩
 |[c,d],_=>⟨c,d, .tail _ (.tail _ (.head _))⟩
 |_::_::_::_,h=>absurd h (Nat.not_le.mpr (Nat.le_add_left 3 _))
noncomputable def kW(V:List (List Nat)):Prop:=(∃r,V=[r]∧r.length≤2)∨∃r r',V=[r,r']∧r.length≤2∧r'.length≤2
theorem w3{a b:Nat}{V:List (List Nat)}(hl:V.length=1+(match a with |0=>b |_=>0))(ha:a<2)(hb:b<2)(hr:∀r∈V,r.length≤2):kW V∧∃c d c' d',(a,b,V)∈Ay c d c' d':=by
 have one:∀{a b V},V.length=1→(∀r∈V,r.length≤2)→(∀r:List Nat,(a,b,[r])∈[(0,0,[r]),(1,0,[r]),(1,1,[r])])→kW V∧∃c d c' d',(a,b,V)∈Ay c d c' d':=λ{a b V} h hr e=>match V,h,hr with
  |[r],_,hr=>(qA r (hr r (.head _))).elim λc y=>y.elim λd y=>⟨.inl ⟨r,rfl,hr r (.head _)⟩,c,d,0,0,List.mem_flatMap.mpr ⟨r,y,List.mem_append_left _ (e r)⟩⟩
 match a,b,ha,hb,hl with
 |0,0,_,_,hl=>exact one hl hr λr=> .head _
 |1,0,_,_,hl=>exact one hl hr λr=> .tail _ (.head _)
 |1,1,_,_,hl=>exact one hl hr λr=> .tail _ (.tail _ (.head _))
 |0,1,_,_,hl=>match V,hl,hr with
  |[r,r'],_,hr=>exact(qA r (hr r (.head _))).elim λc y=>y.elim λd y=>(qA r' (hr r' (.tail _ (.head _)))).elim λc' y'=>y'.elim λd' y'=>⟨.inr ⟨r,r',rfl,hr r (.head _),hr r' (.tail _ (.head _))⟩,c,d,c',d',List.mem_flatMap.mpr ⟨r,y,List.mem_append_right [(0,0,[r]),(1,0,[r]),(1,1,[r])] (List.mem_map_of_mem (f:=λr'=>(0,1,[r,r'])) y')⟩⟩
 |a+2,_,ha,_,_=>exact absurd ha (Nat.not_lt.mpr (Nat.le_add_left 2 a))
 |0,b+2,_,hb,_=>exact absurd hb (Nat.not_lt.mpr (Nat.le_add_left 2 b))
 |1,b+2,_,hb,_=>exact absurd hb (Nat.not_lt.mpr (Nat.le_add_left 2 b))
theorem my(r:List Nat):(r.flatMap λc=>de (aZ c) [0])=r.flatMap aZ:=cA0 (λf=>r.flatMap f) (funext sm)
theorem gm(r:List Nat):(r.flatMap aZ).length≤(r.flatMap λ_=>[0]).length:=by
 induction r with
 |nil=>exact Nat.le_refl 0
 |cons c r ih=>rw[List.flatMap_cons,List.flatMap_cons,List.length_append,List.length_append]; exact Nat.add_le_add (kG c) ih
theorem Nb{V:List (List Nat)}(h:kW V):de (EL V).1 (EL V).2=V.flatten.flatMap aZ:=h.elim
 (λy=>y.elim λr y=>by
  rw[y.1,show [r].flatten=r from List.append_nil r,←my]
  exact ph (l:=r.flatMap λc=>de (aZ c) [0]) (rs:=r.flatMap λ_=>[0]) (my r▸gm r))
 λy=>y.elim λr y=>y.elim λr' y=>by
  have e:de (r.flatMap aZ) (r.flatMap λ_=>[0])=r.flatMap aZ:=ph (gm r)
  rw[y.1,show [r,r'].flatten=r++r' from cA0 (r++·) (List.append_nil r'),List.flatMap_append]
  show de (de (r.flatMap λc=>de (aZ c) [0]) (r.flatMap λ_=>[0])++r'.flatMap λc=>de (aZ c) [0]) ((r.flatMap λ_=>[0])++r'.flatMap λ_=>[0])=_
  rw[my,my,e]
  exact ph (by rw[List.length_append,List.length_append]; exact Nat.add_le_add (gm r) (gm r'))
section
variable {V:List (List Nat)}
theorem oW{r:List Nat}(h:r.length≤2):cf w (xY r) (.otok 0 r []):= .otok (match r,h with
 |[],_=>rfl
 |[_],_=>rfl
 |[_,_],_=>rfl
 |_::_::_::_,h=>absurd h (Nat.not_le.mpr (Nat.le_add_left 3 _)))
theorem Cu(i:Nat)(h:Bool)(hV:kW V):Ej w (Kk i h V) (J6 i (nx h V)):=⟨_,_,rfl,⟨id,λh' β n a r=>r.imp λvs r=>r.imp λep r=>⟨r.1,(cA0 (λl=>ValsR h' β n (l.map AV.str) vs) (Nb hV)).mp r.2⟩⟩,_,_,rfl, .rfl,_,_,rfl, .rfl,_,_,rfl,
 .otok (by show otokL 9 [cond (rU V) 1 0] _=_; cases rU V <;> rfl),_,_,rfl,oW (hV.elim (λy=>y.elim λr y=>y.1▸y.2) λy=>y.elim λr y=>y.elim λr' y=>y.1▸y.2.1),_,_,rfl,oW (hV.elim (λy=>y.elim λr y=>y.1▸Nat.zero_le 2) λy=>y.elim λr y=>y.elim λr' y=>y.1▸y.2.2),rfl⟩
theorem wi.at{ps:List NA}{l:List Dr}{a b c d c' d':Nat}(h:wi i ps)(y:(a,b,V)∈Ay c d c' d'):EO i ps l a b V=EH i ps l a b V:=by
 have z:=List.map_inj_left.mp (h l c d c' d') _ y
 exact z
structure S1(i:Nat)(ps:List NA):Prop where
 e:wi i ps
 len:∀l,(eg l i ps).length=dT i
 c:∀l,Ao (cj cT) (eg l i ps)=Bb (cj cT) (eg l i ps)
 m:∀l l' p,pushes (J6 i p) (bG (aX (ah (dT i))) (Ed i l' ps) (au (eg l i ps)))=au (eg l' i (ps++[p]))
 t:∀l l',(au (eg l i ps)).set 0 (.tr l')=au (eg l' i ps)
 g:∀l,(au (eg l i ps)).get 0=some (.tr l)
theorem yU(T:aE K)(dz:DZ w K)(rz:RZ w K){ps:List NA}(S:S1 i ps)(hm:Bool)(V:List (List Nat))(l:List Dr):aD w K 78 (cj cT) lw (au (eg (.strt hm V::l) i ps)) [(.ok (.next,cT),au (eg l i (ps++[nx hm V])))]:=
 .tau (S.g _) λs ha=>ha.elim λs' y=>y.1.elim λa z=>z.elim λb z=>z.elim λs1 z=>by
  have r:=tg y.2 V s1 z.2.2.2
  have q:=w3 z.2.2.1 (z.1.1▸bT s (by decide)) (z.1.2.1▸bT _ (by decide)) r.2
  refine⟨zb a b V l,⟨_,⟨z.1.1,rfl⟩,_,⟨z.1.2.1,rfl⟩,(show s1=_ from z.1.2.2)▸r.1⟩,?_⟩
  rw[S.t,z.2.1,←S.m (zb a b V l) l]
  have z8:EO i ps l a b V=EH i ps l a b V:=q.2.elim λc y=>y.elim λd y=>y.elim λc' y=>y.elim λd' y=>S.e.at y
  unfold EO EH at z8
  have z9:=aD.at (w:=w) (K:=K) (ev:=cj cT) (b0:=lw) (m:=54) (k:=24) (l:=eg (zb a b V l) i ps) (post:=FC 4) (sel:=Ot i) (ch:=Ed i l ps) (nw:=Kk i (Nat.beq a 0) V) (loc:=cT) (f:=none) T dz rz ((NB T dz rz).sp2 ((fV T dz rz).up (by decide))) (λev b σ outs e=>(Nm T dz rz ev b σ outs e).up (by decide)) (Lz 4) (S.c _) (by rw[S.len]; exact z8)
  rw[S.len] at z9
  exact z9.conv (.one (.pushes (Cu i _ q.1) .rfl))
theorem Pi:S1 0 []:=⟨Pc,λl=>rfl,λl=>by kernel_rfl,λl l' p=>by kernel_rfl,λl l'=>by kernel_rfl,λl=>by kernel_rfl⟩
theorem Pp(p:NA):S1 1 [p]:=match p with
 |(N,⟨h,t,c0,c1⟩)=>⟨O9 N h t c0 c1,λl=>rfl,λl=>by kernel_rfl,λl l' p=>by kernel_rfl,λl l'=>by kernel_rfl,λl=>by kernel_rfl⟩
theorem Pb(p q:NA):S1 2 [p,q]:=match p,q with
 |(N,⟨h,t,c0,c1⟩),(N',⟨h',t',c0',c1'⟩)=>⟨O6 N h t c0 c1 N' h' t' c0' c1',λl=>rfl,λl=>by kernel_rfl,λl l' p=>by kernel_rfl,λl l'=>by kernel_rfl,λl=>by kernel_rfl⟩
end
section
variable {γ:Type}{p:Ev→List MS→ac→γ}{St:γ→Ev×List MS×ac}{ok:γ→Prop}{o:γ→List (ax (Fl×ao)×ac)}{m:Nat}{ev:Ev}{b:List MS}
noncomputable def lL(p:Ev→List MS→ac→γ)(St:γ→Ev×List MS×ac)(ok:γ→Prop)(o:γ→List (ax (Fl×ao)×ac)):Ss:=λev b σ=>open Classical in if St (p ev b σ)=(ev,b,σ)∧ok (p ev b σ) then some (some (o (p ev b σ))) else none
theorem im{c:γ}(h:p (St c).1 (St c).2.1 (St c).2.2=c)(hc:ok c):lL p St ok o (St c).1 (St c).2.1 (St c).2.2=some (some (o c)):=by
 unfold lL
 rw[h,if_pos ⟨rfl,hc⟩]
theorem pQ(h:∀c,St c≠(ev,b,σ)):lL p St ok o ev b σ=none:=if_neg λz=>h _ z.1
theorem jx(h:∀c,ok c→aD w K m (St c).1 (St c).2.1 (St c).2.2 (o c)):fT w K m (lL p St ok o):=λev b σ outs e=>by
 by_cases z:St (p ev b σ)=(ev,b,σ)∧ok (p ev b σ)
 ·have e:=(if_pos z).symm.trans e
  have y:=h _ z.2
  rw[z.1] at y
  exact sI (sI e)▸y
 ·exact al ((if_neg z).symm.trans e)
noncomputable def xE(k:Nat)(a:Ss):Ss:=λev b σ=>gd (Nat.beq ev.fn k) (a ev b σ)
theorem Gc{a:Ss}(h:fT w K m a):fT w K m (xE k a):=λev b σ outs e=>ay e λ_ e=>h ev b σ outs e
theorem GJ{a:Ss}{x:Option (aj (Fl×ao))}(h:Nat.beq ev.fn k=true)(e:a ev b σ=x):xE k a ev b σ=x:=gq h e
theorem GL{a:Ss}(h:a ev b σ=none):xE k a ev b σ=none:=by
 show gd _ (a ev b σ)=none
 rw[h]; cases Nat.beq ev.fn k <;> rfl
theorem pJ{sp:Sp}{ss:Ss}{x:aj (Fl×ao)}(h:ss ev b σ=some x):(R tabs sp ss (k+1)).s ev b σ=x:=by
 show(Option.rec (motive:=λ_=>aj (Fl×ao)) (jm tabs (R tabs sp ss k) ev b σ) id (ss ev b σ))=_
 rw[h]; rfl
end
section
noncomputable abbrev HV:=Bool×List (List Nat)
noncomputable def jw(W:List HV)(l:List Dr):List Dr:=W.map (λA=> .strt A.1 A.2)++l
noncomputable def wl(W:List HV):List NA:=W.map λA=>nx A.1 A.2
noncomputable def N9(x:Nat):Nat:=16+6 * (x-162)
noncomputable def sW(W:List HV)(x:Nat):List Nat:=((wl W).map (·.1)).getD (x-162) []
noncomputable def Az(W:List HV)(l:List Dr):CS:=(nf (au (eg l 2 (wl W))),N9,sW W)
noncomputable def bW(W:List HV):Bool:=!bC (xt (n8 (sW W) 3))
noncomputable def Cy(W:List HV)(l:List Dr):ac:=C3 (fM (Az W l) 3).1 (n8 (sW W) 3)
noncomputable def ww(W:List HV)(l:List Dr)(k:Nat):Ev×List MS×ac:=(cj cT,bif Nat.blt k 3 then lw else [xr,u3],bif Nat.blt k 3 then au (eg (jw (W.drop k) l) k (wl (W.take k))) else au (eg l 2 (wl W)))
noncomputable def hO(W:List HV)(l:List Dr)(k:Nat):List (ax (Fl×ao)×ac):=bif Nat.blt k 3 then [(.ok (.next,cT),au (eg (jw (W.drop (k+1)) l) k (wl (W.take (k+1)))))] else [(.ok (.ret (.obj 58),iM 3),Cy W l)]
noncomputable def tG(W:List HV)(l:List Dr):Ss:=xE 393 (lL (λ_ _ σ=>(σ.n-16) / 6) (ww W l) (· < 4) (hO W l))
noncomputable def DL(W:List HV)(l:List Dr)(k:Nat):ac:=Nat.rec (au (Lm (jw W l) (.cell none) [] [])) (λk _=>au (eg (jw (W.drop (k+1)) l) k (wl (W.take (k+1))))) k
noncomputable def E5(L:List Dr):ac:=au [.tr L, .cell (some (.obj 0)), .cell none, .cell none, .cell none]
noncomputable def E6(L:List Dr):ac:=au [.tr L, .cell (some (.obj 0)), .cell (some (.obj 14)), .cell none, .cell none,wD, .inst 356 5, .dict [], .dict [], .dict [], .dict [], .list [], .dict [], .dict [], .dict []]
noncomputable def Oo:Ev:=⟨393,lQ.sc,[],[(174,4),(73,3),(171,2),(159,1)]⟩
variable {A B C:HV}{l:List Dr}
theorem IZ{ss:Ss}(L:List Dr):bv tabs (R tabs bR ss n) (.g 394) [.obj 0] (au [.tr L])=bind ((R tabs bR ss n).s Oo lQ.body (E5 L)) λp σ=>af (cE p) σ:=rfl
theorem Ac{ev:Ev}{b:List MS}(h:ev.loc=[]∨b=lQ.body.drop 1):tG [A,B,C] l ev b σ=none:=GL (pQ λk e=>by
 injection e with e1 e
 injection e with e2 e
 refine h.elim (λh=>nomatch ((cA0 Ev.loc e1).trans h:cT=[])) λh=>?_
 have e2:=cA0 List.length (e2.trans h)
 cases q:Nat.blt k 3 with
 |true=>rw[q] at e2; exact absurd e2 (by decide +kernel)
 |false=>rw[q] at e2; exact absurd e2 (by decide +kernel))
theorem GT:bv tabs (R tabs bR (tG [A,B,C] l) 16) (.g 394) [.obj 0] (au [.tr (jw [A,B,C] l)])=some [(.ok (.obj 58),Cy [A,B,C] l)]:=by
 have r:∀{n} k,k<4→(R tabs bR (tG [A,B,C] l) (n+1)).s (ww [A,B,C] l k).1 (ww [A,B,C] l k).2.1 (ww [A,B,C] l k).2.2=some (hO [A,B,C] l k):=λ{n} k hk=>pJ (GJ rfl (im (c:=k) (St:=ww [A,B,C] l) (ok:=(· < 4)) (o:=hO [A,B,C] l) (match k,hk with
  |0,_=>by kernel_rfl
  |1,_=>by kernel_rfl
  |2,_=>by kernel_rfl
  |3,_=>by kernel_rfl) hk))
 have h1:ba tabs (R tabs bR (tG [A,B,C] l) 14) (cj cT) (lQ.body.getD 1 (.ret0 (pz 0 0 0))) (E6 (jw [A,B,C] l))=af (.next,cT) (DL [A,B,C] l 3):=(d7 (i:= .seq (.obj 15)) (σ1:=DL [A,B,C] l 0) (by kernel_rfl) rfl).trans
  (pO (r:=R tabs bR (tG [A,B,C] l) 14) (ev:=cj cT) (b:=lw) (St:=DL [A,B,C] l) (St1:=λk=>(ww [A,B,C] l k).2.2) (vs:=λk=> .str (162+k)) (L:=λ_=>cT) (L1:=λ_=>cT) (n:=3) rfl (zk ⟨by kernel_rfl,by kernel_rfl,r 0 (by decide)⟩ ⟨by kernel_rfl,by kernel_rfl,r 1 (by decide)⟩ ⟨by kernel_rfl,by kernel_rfl,r 2 (by decide)⟩) (by kernel_rfl) (by decide))
 exact(IZ _).trans (bq (aS (Ac (.inl rfl)) (show ba tabs (R tabs bR (tG [A,B,C] l) 15) Oo (lQ.body.getD 0 (.ret0 (pz 0 0 0))) (E5 (jw [A,B,C] l))=af (.next,cT) (E6 (jw [A,B,C] l)) by kernel_rfl) (aS (Ac (.inr rfl)) h1 (r 3 (by decide)))) rfl)
end
section
variable {A B C:HV}{l:List Dr}
noncomputable def qW(A B C:HV):Ad×Ad×Ad:=((nx A.1 A.2).2,(nx B.1 B.2).2,(nx C.1 C.2).2)
noncomputable def si(W:List HV):Prop:=∀A∈W,kW A.2
noncomputable def eO(n:Nat)(q:Ad×Ad×Ad)(b:Bool):List ai:=(wM q).map (cK λj=>n+j)++[.list [.obj n, .bool b]]
noncomputable def OM(_:ax AV)(_:ac):List Nat:=[6,5,7,8,9,10,11,12,13,17,23,29,18,24,30,19,25,31,20,21,26,27,32,33,58]
theorem G0(n i:Nat)(L:List Dr)(A B C:HV)(l:List Dr):cv 1 n (aX [i]) OM [0] (some [(.ok (.obj 58),Cy [A,B,C] l)])=some (.ok (.obj (n+24)),aG 1 (au [.tr L]) [(0, .tr l)] (eO n (qW A B C) (bW [A,B,C]))):=by kernel_rfl
theorem Ni(A B C:HV)(l:List Dr):Cl (Az [A,B,C] l).1 N9 (sW [A,B,C]):=
 have n:(Az [A,B,C] l).1.n=34:=by kernel_rfl
 ⟨by kernel_rfl,by kernel_rfl,ez (by kernel_rfl) (by kernel_rfl) (by kernel_rfl),n▸by decide,n▸by decide⟩
theorem Kj(T:aE K)(dz:DZ w K)(rz:RZ w K)(bd:w8 (sW [A,B,C]))(hi:σ.get i=some (.tr (jw [A,B,C] l)))(hr:aK σ [i]=true) :
  am w K 95 (.g 394) [.obj i] σ [(.ok (.obj (σ.n+24)),pushes (eO σ.n (qW A B C) (bW [A,B,C])) (σ.set i (.tr l)))]:=by
 have c3:(Az [A,B,C] l).1.get 3=some (iC 164):=by kernel_rfl
 have e3:(fM (Az [A,B,C] l) 3).1.n+3=58:=by kernel_rfl
 have cl:=GF (Ni A B C l) ⟨_,c3⟩ bd
 rw[e3] at cl
 have ok:fT w K 78 (tG [A,B,C] l):=Gc (jx λk hk=>match k,hk with
  |0,_=>yU T dz rz Pi A.1 A.2 _
  |1,_=>yU T dz rz (Pp _) B.1 B.2 _
  |2,_=>yU T dz rz (Pb _ _) C.1 C.2 _
  |3,_=> .re λh β R=>⟨nf _,_,rfl,(oO (w:=w)).hot,oO.rel h β R,(aD.of (m:=0) T dz rz bf aH cl).up (by decide), .rfl⟩)
 exact .see (l:=[.tr (jw [A,B,C] l)]) (is:=[i]) (ch:=[(0, .tr l)]) (.body (m:=78) (n:=16) T dz rz bf ok GT) rfl ⟨⟨_,hi, .tr _⟩,trivial⟩ hr (.g _) (.cons (.obj 0 ⟨rfl,rfl⟩) .nil) (G0 σ.n i _ A B C l)
end
section
noncomputable def pC(E:SN)(n:Nat):List Nat→List Nat→Nat→LR:=Nat.rec (λO D x=>Bool.rec (.bad O D) (.ok D) (aB x D)) (λ_ ih O D x=>cF (ih (O++[x])) O D (E x) x) n
noncomputable def Iq(r:LR):Bool:=LR.rec (λ_=>true) (λ_ _=>false) r
noncomputable def xu(E:SN):Bool:=Iq (d0 (pC E 3 []) [] aI)
variable {f f':List Nat→Nat→LR}{E E':SN}{O D D':List Nat}{x:Nat}
theorem CE(g:List Nat):∀D,d0 (jR f) D g=d0 f D (g.flatMap aZ):=by
 induction g with
 |nil=>exact λ_=>rfl
 |cons c g ih=>
  intro D
  rw[List.flatMap_cons]
  have e:=kG c
  show LR.rec (motive:=λ_=>LR) (λD=>d0 (jR f) D g) .bad (wq (f D) D (aZ c))=_
  rw[show(λD=>d0 (jR f) D g)=λD=>d0 f D (g.flatMap aZ) from funext ih]
  match aZ c,e with
  |[],_=>rfl
  |[_],_=>rfl
  |_::_::_,h=>exact absurd (Nat.le_of_succ_le_succ h) (Nat.not_succ_le_zero _)
theorem LN(g:Nat→List Nat)(n:Nat):la g n=pC (λx=>(g x).flatMap aZ) n:=by
 induction n with
 |zero=>rfl
 |succ n ih=>exact funext λO=>funext λD=>funext λx=>(show cF (jR (la g n (O++[x]))) O D (g x) x=cF (pC (λx=>(g x).flatMap aZ) n (O++[x])) O D ((g x).flatMap aZ) x by
   unfold cF; rw[CE,ih])
structure Gr(f:List Nat→Nat→LR):Prop where
 a:∀D x,aB x D=true→f D x = .ok D
 b:∀D x D',f D x = .ok D'→aB x D'=true∧∀y,aB y D=true→aB y D'=true
theorem Kw(G:Gr f){l:List Nat}(h:d0 f D l = .ok D')(y:Nat)(hy:aB y D=true):aB y D'=true:=
 p9 (I:=λD=>aB y D=true) (fs:=l) (λs v s' hs _ e=>(G.b s v s' e).2 y hs) h (λ_ h=>h) hy
theorem Na(E:SN)(n:Nat):∀O,Gr (pC E n O):=by
 have a:∀n O D x,aB x D=true→pC E n O D x = .ok D:=λn O D x h=>by
  cases n with
  |zero=>exact(show Bool.rec (motive:=λ_=>LR) (.bad O D) (.ok D) (aB x D)=_ by rw[h])
  |succ n=>show cF _ O D _ x=_; unfold cF; rw[h]
 induction n with
 |zero=>exact λO=>⟨a 0 O,λD x D' h=>by
   have h:Bool.rec (motive:=λ_=>LR) (.bad O D) (.ok D) (aB x D) = .ok D':=h
   cases q:aB x D with
   |true=>rw[q] at h; exact LR.ok.inj h▸⟨q,λ_ z=>z⟩
   |false=>rw[q] at h; exact LR.noConfusion h⟩
 |succ n ih=>exact λO=>⟨a (n+1) O,λD x D' h=>Er h (λq e=>e▸⟨q,λ_ z=>z⟩) λD2 _ _ q2 e=>e▸⟨(cN x x D2).trans (by rw[Nat.beq_refl,Bool.or_true]),λy hy=>(cN y x D2).trans (by rw[Kw (ih _) q2 y hy,Bool.true_or])⟩⟩
noncomputable def fP(aG l:List Nat):List Nat:=List.rec (motive:=λ_=>List Nat→List Nat) (λ_=>[]) (λy _ ih aG=>Bool.rec (y::ih (aG++[y])) (ih aG) (aB y aG)) l aG
theorem nv(y:Nat)(l aG:List Nat):fP aG (y::l)=Bool.rec (y::fP (aG++[y]) l) (fP aG l) (aB y aG):=rfl
theorem Jz(G:Gr f)(l:List Nat):∀aG D,(∀y,aB y aG=true→aB y D=true)→d0 f D l=d0 f D (fP aG l):=by
 induction l with
 |nil=>exact λ_ _ _=>rfl
 |cons y l ih=>
  intro aG D h
  rw[nv]
  cases q:aB y aG with
  |true=>
   show LR.rec (motive:=λ_=>LR) (λD=>d0 f D l) .bad (f D y)=d0 f D (fP aG l)
   rw[G.a D y (h y q)]
   exact ih aG D h
  |false=>
   show LR.rec (motive:=λ_=>LR) (λD=>d0 f D l) .bad (f D y)=LR.rec (motive:=λ_=>LR) (λD=>d0 f D (fP (aG++[y]) l)) .bad (f D y)
   cases q2:f D y with
   |bad=>rfl
   |ok D'=>exact ih (aG++[y]) D' λz hz=>(Bool.or_eq_true_iff.mp ((cN z y aG).symm.trans hz)).elim (λhz=>(G.b D y D' q2).2 z (h z hz)) λhz=>eB0 hz▸(G.b D y D' q2).1
theorem M2(E:SN)(n:Nat):pC E n=pC (λx=>fP [] (E x)) n:=by
 induction n with
 |zero=>rfl
 |succ n ih=>exact funext λO=>funext λD=>funext λx=>(show cF (pC E n (O++[x])) O D (E x) x=cF (pC (λx=>fP [] (E x)) n (O++[x])) O D (fP [] (E x)) x by
   unfold cF; rw[Jz (Na E n (O++[x])) (E x) [] D λ_ h=>aV h,ih])
theorem Js(y:Nat)(l:List Nat):∀aG,(aB y (fP aG l)||aB y aG)=(aB y l||aB y aG):=by
 induction l with
 |nil=>exact λ_=>rfl
 |cons z l ih=>
  intro aG
  rw[nv,show aB y (z::l)=(Nat.beq y z||aB y l) from rfl]
  cases q:aB z aG with
  |true=>
   rw[Bool.or_assoc,←ih aG]
   cases q2:Nat.beq y z with
   |false=>rfl
   |true=>rw[eB0 q2,q,Bool.or_true]; rfl
  |false=>
   have h:=ih (aG++[z])
   rw[cN] at h
   show((Nat.beq y z||aB y (fP (aG++[z]) l))||aB y aG)=_
   cases q2:Nat.beq y z with
   |true=>rfl
   |false=>rw[q2,Bool.or_false] at h; exact h
noncomputable def vX(n:Nat)(aG:List Nat):List (List Nat):=Nat.rec (motive:=λ_=>List Nat→List (List Nat)) (λ_=>[[]]) (λ_ ih aG=>[]::aI.flatMap λy=>Bool.rec ((ih (aG++[y])).map (y::·)) [] (aB y aG)) n aG
theorem Jq(l:List Nat):(∀o∈l,o∈aI)→∀n aG,o7 aG≤n→fP aG l∈vX n aG:=by
 have nl:∀n aG,[]∈vX n aG:=λn aG=>by cases n <;> exact .head _
 induction l with
 |nil=>exact λ_ n aG _=>nl n aG
 |cons y l ih=>
  intro h n aG hn
  rw[nv]
  have hy:=h y (.head _)
  cases q:aB y aG with
  |true=>exact ih (λo ho=>h o (.tail _ ho)) n aG hn
  |false=>cases n with
   |zero=>exact Bool.noConfusion (q.symm.trans (sx hy (Nat.le_zero.mp hn)))
   |succ n=>exact .tail _ (List.mem_flatMap.mpr ⟨y,hy,by rw[q]; exact List.mem_map_of_mem (ih (λo ho=>h o (.tail _ ho)) n (aG++[y]) (Nat.le_of_succ_le_succ (lE0 (Nat.le_of_eq (ko y hy q)) hn)))⟩)
noncomputable def zN(E:SN)(x y:Nat):Bool:=aB y (E x)
noncomputable def pI(b:Nat→Nat→Bool):Bool:=aI.any (λx=>b x x)||(aI.any (λx=>aI.any λy=>b x y&&b y x)||aI.any λx=>aI.any λy=>aI.any λz=>b x y&&(b y z&&b z x))
noncomputable def E3(a b c:List Nat)(x:Nat):List Nat:=Bool.rec (Bool.rec c b (Nat.beq x 163)) a (Nat.beq x 162)
theorem Gx:∀a∈vX 3 [],∀b∈vX 3 [],∀c∈vX 3 [],xu (E3 a b c) = !pI (zN (E3 a b c)):=by decide +kernel
theorem LM(E:SN)(x y:Nat):aB y (fP [] (E x))=aB y (E x):=(Bool.or_false _).symm.trans ((Js y (E x) []).trans (Bool.or_false _))
theorem GB{a b c:List Nat}(ha:∀o∈a,o∈aI)(hb:∀o∈b,o∈aI)(hc:∀o∈c,o∈aI):xu (E3 a b c) = !pI (zN (E3 a b c)):=by
 have d:(λx=>fP [] (E3 a b c x))=E3 (fP [] a) (fP [] b) (fP [] c):=funext λx=>by
  unfold E3
  cases Nat.beq x 162 <;> cases Nat.beq x 163 <;> rfl
 have m:∀l,(∀o∈l,o∈aI)→fP [] l∈vX 3 []:=λl h=>Jq l h 3 [] (Nat.le_refl 3)
 have e:=Gx _ (m a ha) _ (m b hb) _ (m c hc)
 rw[←d] at e
 unfold xu at e ⊢
 rw[M2,e]
 exact cA0 (λf=>!pI f) (funext λx=>funext (LM (E3 a b c) x))
end
section
noncomputable def cn(y:Nat)(l:List Nat):Nat:=List.rec 0 (λx _ ih=>Bool.rec ih (ih+1) (Nat.beq y x)) l
variable {s:SN}{N l:List Nat}{x y:Nat}{a b c d:Nat}
theorem uJ(y:Nat)(l m:List Nat):cn y (l++m)=cn y l+cn y m:=by
 induction l with
 |nil=>exact(Nat.zero_add _).symm
 |cons x l ih=>
  show(Bool.rec (cn y (l++m)) (cn y (l++m)+1) (Nat.beq y x):Nat)=(Bool.rec (cn y l) (cn y l+1) (Nat.beq y x):Nat)+cn y m
  rw[ih]
  cases Nat.beq y x with
  |false=>rfl
  |true=>exact(Nat.succ_add _ _).symm
theorem pE(y:Nat)(l:List Nat):aB y l = !Nat.beq (cn y l) 0:=by
 induction l with
 |nil=>rfl
 |cons x l ih=>
  show(Nat.beq y x||aB y l) = !Nat.beq (Bool.rec (cn y l) (cn y l+1) (Nat.beq y x)) 0
  cases Nat.beq y x with
  |false=>exact ih
  |true=>rfl
theorem G7(y:Nat)(N l:List Nat):cn y (n4 N l)=Bool.rec (cn y l) 0 (aB y N):=by
 induction l with
 |nil=>cases aB y N <;> rfl
 |cons z l ih=>
  show cn y ((Bool.rec [z] [] (aB z N):List Nat)++n4 N l)=Bool.rec (Bool.rec (cn y l) (cn y l+1) (Nat.beq y z)) 0 (aB y N)
  rw[uJ,ih]
  cases q:Nat.beq y z with
  |true=>rw[eB0 q]; cases aB z N <;> first|rfl |exact(cA0 (· + cn z l) (show cn z [z]=1 by show(Bool.rec 0 1 (Nat.beq z z):Nat)=1; rw[Nat.beq_refl])).trans (Nat.add_comm _ _)
  |false=>exact(cA0 (· + _) (show cn y (Bool.rec [z] [] (aB z N))=0 by cases aB z N <;> first|rfl |exact(show(Bool.rec 0 1 (Nat.beq y z):Nat)=0 by rw[q]))).trans (Nat.zero_add _)
noncomputable def kQ(f:Nat→Nat):Nat:=f 162+(f 163+f 164)
theorem KW(h:∀o∈l,o∈aI):cn y (l.flatMap λo=>n4 N (s o))=Bool.rec (kQ λo=>cn o l * cn y (s o)) 0 (aB y N):=by
 induction l with
 |nil=>cases aB y N with
  |true=>rfl
  |false=>exact(show 0=0 * _+(0 * _+0 * _) by rw[Nat.zero_mul,Nat.zero_mul,Nat.zero_mul])
 |cons o l ih=>
  rw[List.flatMap_cons,uJ,G7,ih λo h'=>h o (.tail _ h')]
  cases aB y N with
  |true=>rfl
  |false=>exact ez (C:=λo=>cn y (s o)+(kQ λp=>cn p l * cn y (s p))=kQ λp=>cn p (o::l) * cn y (s p)) (show _=(cn 162 l+1) * _+(cn 163 l * _+cn 164 l * _) by rw[Nat.succ_mul,Nat.add_comm,Nat.add_right_comm]; rfl) (show _=cn 162 l * _+((cn 163 l+1) * _+cn 164 l * _) by rw[Nat.succ_mul,Nat.add_comm,Nat.add_right_comm (cn 163 l * _),←Nat.add_assoc]; rfl) (show _=cn 162 l * _+(cn 163 l * _+(cn 164 l+1) * _) by rw[Nat.succ_mul,Nat.add_comm,←Nat.add_assoc,←Nat.add_assoc]; exact cA0 (· + _) (Nat.add_assoc _ _ _).symm) o (h o (.head _))
theorem rZ(h:∀o∈l,o∈aI):l.length=kQ λo=>cn o l:=by
 induction l with
 |nil=>rfl
 |cons o l ih=>exact(cA0 Nat.succ (ih λo h'=>h o (.tail _ h'))).trans (ez (C:=λo=>Nat.succ (kQ λp=>cn p l)=kQ λp=>cn p (o::l)) (Nat.succ_add _ _).symm (show _=_+(Nat.succ _+_) by rw[Nat.succ_add]; rfl) rfl o (h o (.head _)))
noncomputable def hJ(a b:Nat):Prop:=a≤b∧(a=0→b=0)
theorem hJ.add(h:hJ a b)(k:hJ c d):hJ (a+c) (b+d):=⟨Nat.add_le_add h.1 k.1,λe=>have z:=Nat.add_eq_zero_iff.mp e; Nat.add_eq_zero_iff.mpr ⟨h.2 z.1,k.2 z.2⟩⟩
theorem hJ.mul(h:hJ a b)(k:hJ c d):hJ (a * c) (b * d):=⟨Nat.mul_le_mul h.1 k.1,λe=>Nat.mul_eq_zero.mpr ((Nat.mul_eq_zero.mp e).imp h.2 k.2)⟩
theorem hJ.beq(h:hJ a b):Nat.beq b 0=Nat.beq a 0:=by
 cases a with
 |zero=>rw[h.2 rfl]
 |succ a=>cases b with
  |zero=>exact absurd h.1 (Nat.not_succ_le_zero _)
  |succ b=>rfl
noncomputable abbrev UU:=Nat→Nat→Nat
noncomputable def AZ(u:UU)(x y:Nat):Nat:=Bool.rec 0 (kQ λo=>u x o * u o y) (Nat.beq (u x y) 0)
noncomputable def NQ(u:UU)(x:Nat):UU:=xg x (λy=>u x y+AZ u x y) u
noncomputable def KP(u:UU)(k:Nat):UU:=Nat.rec u (λk u=>NQ u (162+k)) k
noncomputable def sK(u:UU)(t:Nat):UU:=Nat.rec u (λ_ u=>KP u 3) t
noncomputable def lh(s:SN)(u:UU):Prop:=∀x∈aI,(∀o∈s x,o∈aI)∧∀y∈aI,hJ (cn y (s x)) (u x y)
variable {u:UU}
theorem oo{f g:Nat→Nat}(h:∀o∈aI,hJ (f o) (g o)):hJ (kQ f) (kQ g):=(h 162 (.head _)).add ((h 163 (.tail _ (.head _))).add (h 164 (.tail _ (.tail _ (.head _)))))
theorem wg(H:lh s u)(hl:∀o∈l,o∈aI):∀o∈fX s l,o∈aI:=λo ho=>(List.mem_flatMap.mp ho).elim λz hz=>(List.mem_flatMap.mp hz.2).elim λy hy=>by
 cases q:aB y l with
 |true=>rw[q] at hy; exact absurd hy.2 List.not_mem_nil
 |false=>rw[q] at hy; exact List.mem_singleton.mp hy.2▸(H z (hl z hz.1)).1 y hy.1
theorem Fj(H:lh s u)(hx:x∈aI)(hy:y∈aI):hJ (cn y (fX s (s x))) (AZ u x y):=by
 have c:=((H x hx).2 y hy).beq
 unfold AZ fX
 rw[KW (H x hx).1,pE,c]
 cases Nat.beq (cn y (s x)) 0 with
 |false=>exact⟨Nat.le_refl 0,id⟩
 |true=>exact oo λo ho=>((H x hx).2 o ho).mul ((H o ho).2 y hy)
theorem Jw(H:lh s u)(hx:x∈aI):lh (EJ s x) (NQ u x):=λz hz=>by
 show(∀o∈(Bool.rec (s z) (s x++fX s (s x)) (Nat.beq z x):List Nat),o∈aI)∧∀y∈aI,hJ (cn y (Bool.rec (s z) (s x++fX s (s x)) (Nat.beq z x))) ((Bool.rec (u z) (λy=>u x y+AZ u x y) (Nat.beq z x):Nat→Nat) y)
 cases Nat.beq z x with
 |false=>exact H z hz
 |true=>exact⟨List.forall_mem_append.mpr ⟨(H x hx).1,wg H (H x hx).1⟩,λy hy=>uJ y _ _▸((H x hx).2 y hy).add (Fj H hx hy)⟩
theorem As(H:lh s u)(k:Nat)(hk:k≤3):lh (tC s k) (KP u k):=by
 induction k with
 |zero=>exact H
 |succ k ih=>exact Jw (ih (Nat.le_of_lt hk)) (yN k hk)
theorem vS(H:lh s u)(t:Nat):lh (n8 s t) (sK u t):=by
 induction t with
 |zero=>exact H
 |succ t ih=>exact As ih 3 (Nat.le_refl 3)
noncomputable def Ol(u:UU)(x:Nat):Bool:=(aI.all λo=>Nat.blt (kQ (u o)) 1000)&&Nat.ble (kQ (u x)+kQ (AZ u x)) 4000
theorem NJ(H:lh s u)(hx:x∈aI)(h:Ol u x=true):Bd s x:=aw h λh1 h2=>⟨(H x hx).1,λo ho=>rZ (H o ho).1▸Nat.lt_of_le_of_lt (oo (H o ho).2).1 (dN (List.all_eq_true.mp h1 o ho)),
 rZ (H x hx).1▸rZ (wg H (H x hx).1)▸lE0 (Nat.add_le_add (oo (H x hx).2).1 (oo λy hy=>Fj H hx hy).1) (lB0 h2)⟩
noncomputable def NT(u:UU):Bool:=[0,1,2].all λt=>[0,1,2].all λk=>Ol (KP (sK u t) k) (162+k)
theorem Iy(H:lh s u)(h:NT u=true):w8 s:=λt ht k hk=>NJ (As (vS H t) k (Nat.le_of_lt hk)) (yN k hk)
 (have m:∀k<3,k∈[0,1,2]:=zk (.head _) (.tail _ (.head _)) (.tail _ (.tail _ (.head _))); List.all_eq_true.mp (List.all_eq_true.mp h t (m t ht)) k (m k hk))
noncomputable def Lx(l:List Bool)(x y:Nat):Bool:=l.getD ((x-162) * 3+(y-162)) false
noncomputable def u0(l:List Bool):UU:=λx y=>Bool.rec 0 4 (Lx l x y)
noncomputable def Ek(n:Nat):List (List Bool):=Nat.rec [[]] (λ_ m=>m.flatMap λl=>[false::l,true::l]) n
noncomputable def K5(u:UU):Bool:=aI.any λx=>!Nat.beq (u x x) 0
theorem LB:∀l∈Ek 9,NT (u0 l)=true∧K5 (sK (u0 l) 3)=pI (Lx l):=by decide +kernel
end
section
theorem z6(n:Nat):∀l:List Bool,l.length=n→l∈Ek n:=by
 induction n with
 |zero=>exact λl h=>match l,h with
  |[],_=> .head _
 |succ n ih=>exact λl h=>match l,h with
  |b::l,h=>List.mem_flatMap.mpr ⟨l,ih l (Nat.succ.inj h),by cases b <;> first|exact .head _ |exact .tail _ (.head _)⟩
theorem Mt(y:Nat)(l:List Nat):cn y l≤l.length:=by
 induction l with
 |nil=>exact Nat.le_refl 0
 |cons x l ih=>
  show(Bool.rec (cn y l) (cn y l+1) (Nat.beq y x):Nat)≤l.length+1
  cases Nat.beq y x with
  |false=>exact Nat.le_succ_of_le ih
  |true=>exact Nat.succ_le_succ ih
theorem qB{V:List (List Nat)}{h:Bool}(H:kW V):qq (nx h V).2=V.flatten:=by
 have t2:∀{l:List Nat},l.length≤2→kc l=l:=λ{l} h=>match l,h with
  |[],_=>rfl
  |[_],_=>rfl
  |[_,_],_=>rfl
  |_::_::_::_,h=>absurd h (Nat.not_le.mpr (Nat.le_add_left 3 _))
 exact H.elim (λy=>y.elim λr y=>by rw[y.1]; exact cA0 (·++[]) (t2 y.2)) λy=>y.elim λr y=>y.elim λr' y=>by
  rw[y.1]
  show kc r++kc r'=r++(r'++[])
  rw[t2 y.2.1,t2 y.2.2,List.append_nil]
noncomputable def eX(V:List (List Nat)):List Nat:=V.flatten.flatMap aZ
theorem io(V:List (List Nat)):∀o∈eX V,o∈aI:=λo ho=>(List.mem_flatMap.mp ho).elim λc h=>n5 c o h.2
theorem HB{V:List (List Nat)}(H:kW V):(eX V).length≤4:=by
 have e:∀r:List Nat,(r.flatMap aZ).length≤r.length:=λr=>by
  induction r with
  |nil=>exact Nat.le_refl 0
  |cons c r ih=>rw[List.flatMap_cons,List.length_append,List.length_cons,Nat.add_comm r.length]; exact Nat.add_le_add (kG c) ih
 exact lE0 (e _) (H.elim (λy=>y.elim λr y=>by rw[y.1]; exact lE0 (Nat.le_of_eq (cA0 List.length (List.append_nil r))) (lE0 y.2 (by decide))) λy=>y.elim λr y=>y.elim λr' y=>by
  rw[y.1]
  show(r++(r'++[])).length≤4
  rw[List.append_nil,List.length_append]
  exact Nat.add_le_add y.2.1 y.2.2)
variable {A B C:HV}
theorem OX{f g:Nat→Bool}(h:∀x∈aI,f x=g x):aI.any f=aI.any g:=by
 show or (f 162) (or (f 163) (or (f 164) false))=or (g 162) (or (g 163) (or (g 164) false))
 rw[h 162 (.head _),h 163 (.tail _ (.head _)),h 164 (.tail _ (.tail _ (.head _)))]
theorem LJ(H:si [A,B,C]):kW A.2∧kW B.2∧kW C.2:=⟨H A (.head _),H B (.tail _ (.head _)),H C (.tail _ (.tail _ (.head _)))⟩
noncomputable def AT(s:SN):List Bool:=aI.flatMap λx=>aI.map λy=>aB y (s x)
theorem JN(H:si [A,B,C]):lh (sW [A,B,C]) (u0 (AT (sW [A,B,C]))):=by
 have k:∀{V y},kW V→hJ (cn y (eX V)) (Bool.rec 0 4 (aB y (eX V))):=λ{V y} h=>by
  rw[pE]
  cases q:Nat.beq (cn y (eX V)) 0 with
  |true=>exact⟨Nat.le_of_eq (eB0 q),λ_=>rfl⟩
  |false=>exact⟨lE0 (Mt y _) (HB h),λe=>aV (q.symm.trans (cA0 (Nat.beq · 0) e))⟩
 have h:=LJ H
 exact ez ⟨io A.2,ez (k h.1) (k h.1) (k h.1)⟩ ⟨io B.2,ez (k h.2.1) (k h.2.1) (k h.2.1)⟩ ⟨io C.2,ez (k h.2.2) (k h.2.2) (k h.2.2)⟩
theorem C8(H:si [A,B,C]):w8 (sW [A,B,C])∧fK (chk (qW A B C))=cond (bW [A,B,C]) (.exc 0) (.ok .none):=by
 have a:=LB (AT (sW [A,B,C])) (z6 9 _ rfl)
 have h:=LJ H
 have E:(λx=>(cu (qW A B C) x).flatMap aZ)=E3 (eX A.2) (eX B.2) (eX C.2):=funext λx=>by
  unfold cu yv E3 qW eX
  cases Nat.beq x 162 with
  |true=>exact cA0 (List.flatMap aZ) (qB h.1)
  |false=>cases Nat.beq x 163 with
   |true=>exact cA0 (List.flatMap aZ) (qB h.2.1)
   |false=>exact cA0 (List.flatMap aZ) (qB h.2.2)
 have c:=GB (io A.2) (io B.2) (io C.2)
 unfold xu at c
 rw[←E,←LN,show zN (λx=>(cu (qW A B C) x).flatMap aZ)=zN (E3 (eX A.2) (eX B.2) (eX C.2)) by rw[E],show pI (zN (E3 (eX A.2) (eX B.2) (eX C.2)))=pI (Lx (AT (sW [A,B,C]))) by kernel_rfl,←a.2] at c
 have b:bW [A,B,C]=K5 (sK (u0 (AT (sW [A,B,C]))) 3):=by
  have G:=vS (JN H) 3
  have g:∀x∈aI,aB x (n8 (sW [A,B,C]) 3 x) = !Nat.beq (sK (u0 (AT (sW [A,B,C]))) 3 x x) 0:=λx hx=>(pE _ _).trans (cA0 (!·) ((G x hx).2 x hx).beq.symm)
  have n:∀p:Nat→Bool,(!bC (aI.flatMap λx=>Bool.rec [] [x] (p x)))=aI.any p:=λp=>by
   show(!bC ((Bool.rec [] [162] (p 162):List Nat)++((Bool.rec [] [163] (p 163):List Nat)++((Bool.rec [] [164] (p 164):List Nat)++[]))))=(p 162||(p 163||(p 164||false)))
   cases p 162 <;> cases p 163 <;> cases p 164 <;> rfl
  exact(n _).trans (OX g)
 refine⟨Iy (JN H) a.1,?_⟩
 rw[b,show fK (chk (qW A B C))=cond (!Iq (chk (qW A B C))) (.exc 0) (.ok .none) by cases chk (qW A B C) <;> rfl]
 unfold chk
 rw[c,Bool.not_not]
end
section
variable {m c:Nat}{f:AV}{vs vs' l l':List AV}{outs:List (ax AV×ac)}
noncomputable def ms(l l':List AV):Prop:=∀h β n us,ValsR h β n l us→ValsR h β n l' us
theorem am.pre(H:ms vs vs')(q:am w K m f vs' σ outs):am w K m f vs σ outs:=⟨λhA S rf rv P=>q.ok hA S rf (H _ _ _ _ rv) P⟩
theorem ms.nil:ms [] []:=λ_ _ _ _=>id
theorem ms.cons(x:gT a b)(y:ms l l'):ms (a::l) (b::l'):=λh β n us r=>r.consE λu us h1 h2=> .cons (x h β n u h1) (y h β n us h2)
theorem gT.rfl:gT a a:=λ_ _ _ _=>id
theorem pY:gT (.tok k c) (bo k c):=λh β n v r=>r.inv.elim λy z=>(c6 z.1).symm▸z.2
theorem gT.of(h:(bu k c).isSome=true):gT (bo k c) (.tok k c):=ii h λx e=>c6 e▸λh β n v r=> .tok e r
theorem y8(h:(bu k c).isSome=true):dJ (bo k c)=true:=ii h λx e=>c6 e▸dj e
end
noncomputable abbrev FF:=List (Nat×Nat)
noncomputable def Fs:List FF:=[[],[(0,4)],[(0,5)],[(1,4)],[(1,5)],[(0,4),(1,5)],[(1,5),(0,4)],[(0,5),(1,4)],[(1,4),(0,5)]]
noncomputable def cY(F:FF)(a b:Nat):Bool×FF:=Bool.rec (Option.rec (Bool.rec (true,F++[(a,b)]) (false,F) (Nat.ble b 3||F.any λq=>Nat.beq q.2 b)) (λb'=>(Nat.beq b' b,F)) (look a F)) (Nat.beq a b,F) (Nat.ble 2 a)
noncomputable def fD(F:FF):ai:= .dict (F.map λq=>(bo 6 q.1,bo 6 q.2))
noncomputable def Bk:ai:= .list [.str 204, .str 205]
noncomputable def ou(F:FF):List ai:=[.own, .own, .inst 221 3, .dict [(.str 110, .obj 4),(.str 15, .obj 5)],Bk,fD F]
noncomputable def g6:List Nat:=[0,1,2,3]
noncomputable def gY:List Nat:=[2,3,4,5]
noncomputable def OV(N:Nat)(is:List Nat)(F:FF)(a b:Nat):Option (ax AV×eJ):=cv 6 N (aX is) ni [5] ((R tabs bR aJ 16).c (.g 218) [.obj 2,bo 6 a,bo 6 b] (au (ou F)))
theorem DQ(N k0 k1 k2 k3 k4 k5:Nat):Fs.map (λF=>g6.map λa=>gY.map λb=>OV N [k0,k1,k2,k3,k4,k5] F a b)=Fs.map (λF=>g6.map λa=>gY.map λb=>some (.ok (.bool (cY F a b).1),aG 6 (au (ou F)) [(5,fD (cY F a b).2)] [])):=by kernel_rfl
theorem r7:∀F∈Fs,∀a∈g6,∀b∈gY,(cY F a b).2∈Fs:=by decide +kernel
theorem O0:∀i∈ah 6,(bu 6 i).isSome=true:=by decide +kernel
theorem C7:(∀i∈g6,i∈ah 6)∧∀i∈gY,i∈ah 6:=by decide
theorem EA(p:Nat→Bool):Fs.map (λF=>jq p (fD F))=Fs.map λ_=>true:=by kernel_rfl
theorem AO(e:Nat→Nat):Fs.map (λF=>cK e (fD F))=Fs.map fD:=by kernel_rfl
theorem PQ{O:Nat→Nat→Prop}{F:FF}(h:F∈Fs):bg O (fD F) (fD F):=by
 have z:=bg.ren (p:=λ_=>false) (e:=id) (O:=O) (λj h=>aV h) (az (EA _) h)
 rw[az (AO id) h] at z
 exact z
theorem FY(T:aE K)(dz:DZ w K)(rz:RZ w K){F:FF}{a b k0 k1 k2 k3 k4 k5:Nat}(hF:F∈Fs)(ha:a∈g6)(hb:b∈gY)(hn:b8 [k0,k1,k2,k3,k4,k5]=true)(hr:aK σ [k0,k1,k2,k3,k4,k5]=true)
  (g:[k0,k1,k2,k3,k4,k5].map σ.get=[some .own,some .own,some (.inst 221 k3),some (.dict [(.str 110, .obj k4),(.str 15, .obj k5)]),some Bk,some (fD F)]) :
  am w K 16 (.g 218) [.obj k2, .tok 6 a, .tok 6 b] σ [(.ok (.bool (cY F a b).1),σ.set k5 (fD (cY F a b).2))]:=
 have S:∀{i},i∈ah 6→aR (Em 6 (aX [k0,k1,k2,k3,k4,k5])) (bo 6 i) (bo 6 i):=λh=> .refl (y8 (O0 _ h))
 .pre (.cons .rfl (.cons pY (.cons pY .nil))) (am.run (m:=0) (k:=16) (l:=ou F) (is:=[k0,k1,k2,k3,k4,k5]) (ch:=[(5,fD (cY F a b).2)]) (nw:=[]) T dz rz bf aH hn (.ren (l:=ou F) (g.trans (cA0 (λo=>[some .own,some .own,some (.inst 221 k3),some (.dict [(.str 110, .obj k4),(.str 15, .obj k5)]),some Bk,some o]) (az (AO (aX [k0,k1,k2,k3,k4,k5])) hF).symm))
   (by show(true&&(true&&(true&&(true&&(true&&(jq (λj=>Nat.blt j 6) (fD F)&&true))))))=true; rw[az (EA _) hF]; rfl)) hr (.g _)
  (.cons (.obj 2 ⟨rfl,rfl⟩) (.cons (S (C7.1 a ha)) (.cons (S (C7.2 b hb)) .nil))) (az (az (az (DQ σ.n k0 k1 k2 k3 k4 k5) hF) ha) hb))
structure IL where
 k:AV
 n:Nat
 c:Nat→Nat
 d:Nat→Nat
 fz:Bool
noncomputable def IL.fr(x:IL)(b:Bool):IL:={ x with fz:=b }
noncomputable def IL.cs(x:IL):List Nat:=(ah x.n).map λi=>x.c (i+1)
noncomputable def IL.ds(x:IL):List Nat:=(ah x.n).map λi=>x.d (i+1)
noncomputable def ej(c d:Nat→Nat):List IL:=[0,1,2].flatMap λn=>[AV.none, .str 208].flatMap λk=>[true,false].map λfz=>⟨k,n,c,d,fz⟩
noncomputable def CU(path:Nat)(rs:List Nat)(params own:Nat)(ins:List AV)(out kind:AV)(hb:Bool):ai:= .dict [(.str 75, .str path),(.str 22, .tup (rs.map .str)),(.str 71, .obj params),(.str 117, .obj own),(.str 107, .tup ins),(.str 108,out),(.str 115,kind),(.str 148, .bool hb)]
noncomputable def PZ(b:Bool):ai:=Bool.rec (.dict [(.str 213, .str 212)]) (.fro [(.str 213, .str 212)]) b
noncomputable def NP(x:IL)(d m:Nat):List ai:=
 [.inst 305 1, .dict [(.str 75, .str 211),(.str 71, .tup []),(.str 128, .obj 2),(.str 134, .obj d)], .dict [(.str 213, .obj 4)], .dict [],
  .inst 284 5,CU 210 [202,203] 6 7 (x.cs.map (.tok 1)) (.tok 1 (x.c 0)) .none false, .list [.tup [.str 118, .tup [.str 211]]], .list [],
  .inst 327 9, .dict [(.str 151, .int 0),(.str 22, .tup [.str 196]),(.str 71, .obj 10),(.str 119, .str 211),(.str 120, .tup []),(.str 93,tS),(.str 128, .obj m),(.str 96, .int 0)], .list [],PZ x.fz,
  .inst 284 13,CU 212 [196,204,205] 14 15 (x.ds.map (.tok 2)) (.tok 2 (x.d 0)) x.k true, .list [], .list []]
noncomputable def gy(x:IL):List ai:=NP x 3 11
noncomputable def rK:ai:= .dict [(.str 118,tS)]
noncomputable def NW:ai:= .dict [(.str 110, .obj 21),(.str 15, .obj 24)]
noncomputable def fg(x:IL)(F:FF):List ai:=gy x++[.cell (some (.obj 4)), .cell (some (.obj 8)), .list [], .list [],rK,Bk,NW, .inst 221 22,fD F, .own]
noncomputable def aL(x:IL)(F:FF)(e:List ai):ac:=au (fg x F++e)
noncomputable def wP:ME:= .ifx (.cmp .In (.name 18 (pz 196 71 77)) (.att (.name 112 (pz 196 81 87)) 22 (pz 196 81 95)) (pz 196 71 95)) (.tup [(.str 117 (pz 196 53 58)),(.name 18 (pz 196 60 66))] (pz 196 52 67)) (.name 18 (pz 196 101 107)) (pz 196 52 107)
noncomputable def aU(c:Nat):ai:= .lam [(18,pz 196 44 50)] wP [(18, .local),(112, .free)] [(112,c)]
noncomputable def oA(x:IL):List ai:=[.own,aU 2, .cell (some (.obj 3)), .inst 284 4,CU 210 [202,203] 5 6 (x.cs.map (.tok 1)) (.tok 1 (x.c 0)) .none false, .list [.tup [.str 118, .tup [.str 211]]], .list []]
noncomputable def yJ:List Nat:=[25,26,16,4,5,6,7]
theorem DH(N:Nat)(x:IL):(ah 35).map (iW 78 1 N 40 (oA x) yJ [.obj 1])=(ah 35).map λc=>dk (oA x) (bo 3 c):=by kernel_rfl
theorem C5(N:Nat):(ah 35).map (iW 97 3 N 40 [.own,rK] [25,20] [.obj 1])=(ah 35).map λc=>dk [.own,rK] (bo 4 c):=by kernel_rfl
theorem EN:∀c∈ah 35,(bu 3 c).isSome=true∧(bu 4 c).isSome=true:=by decide +kernel
theorem oC(c d:Nat→Nat)(F:FF):(ej c d).map (λx=>(yJ.map (aL x F [aU 16]).get,(oA x).all (jq λj=>Nat.blt j 7),aK (aL x F [aU 16]) yJ,aK (aL x F [aU 16]) [25,20],aK (aL x F [aU 16]) [25]))=(ej c d).map λx=>(((oA x).map (cK (aX yJ))).map some,true,true,true,true):=by kernel_rfl
theorem A1(c d:Nat→Nat)(F:FF)(a b:List Nat):(ej c d).map (λx=>(aK (aL x F [aU 16, .list (a.map (.tok 6))]) [25],aK (aL x F [aU 16, .list (a.map (.tok 6)), .list (b.map (.tok 6)), .own]) [25,29,23,22,21,24]))=(ej c d).map λx=>(true,true):=by kernel_rfl
section
variable {x:IL}{F:FF}{c d:Nat}(T:aE K)(dz:DZ w K)(rz:RZ w K)(hx:x∈ej x.c x.d)
include T dz rz hx
theorem J9(hc:c∈ah 35):am w K 40 (.g 78) [.tok 1 c, .obj 26] (aL x F [aU 16]) [(.ok (.tok 3 c),aL x F [aU 16])]:=
 have a:=az (oC x.c x.d F) hx
 .val λv hv=>ii (EN c hc).1 λy hy=> .tokR hy (.tok1 T dz rz hv ((az (DH _ x) hc).trans (cA0 (dk _) (c6 hy))) rfl (.ren (cA0 (·.1) a) (cA0 (·.2.1) a)) (cA0 (·.2.2.1) a) (.cons (.obj 1 ⟨rfl,rfl⟩) .nil))
theorem HL(hc:c∈ah 35):am w K 40 (.g 97) [.tok 3 c, .obj 20] (aL x F [aU 16]) [(.ok (.tok 4 c),aL x F [aU 16])]:=
 have a:=az (oC x.c x.d F) hx
 .val λv hv=>ii (EN c hc).2 λy hy=> .tokR hy (.tok1 T dz rz hv ((az (C5 _) hc).trans (cA0 (dk _) (c6 hy))) rfl (.ren (by kernel_rfl) (by kernel_rfl)) (cA0 (·.2.2.2.1) a) (.cons (.obj 1 ⟨rfl,rfl⟩) .nil))
theorem Bx(hk:k∈jE):am w K 40 (.g 116) [.tok k c] (aL x F [aU 16]) [(.ok (bo 5 (EI k c)),aL x F [aU 16])]:=
 HI T dz rz (by kernel_rfl) (cA0 (·.2.2.2.2) (az (oC x.c x.d F) hx)) hk
noncomputable def en(l:List Nat):ai:= .list (l.map (.tok 6))
theorem L7:am w K 40 (.g 73) [.tok 4 c] (aL x F [aU 16]) [(.ok (.obj 27),aL x F [aU 16,en (bU c)])]:=by
 have z:=Fv (c:=c) T dz rz (σ:=aL x F [aU 16]) (i:=25) (by kernel_rfl) (cA0 (·.2.2.2.2) (az (oC x.c x.d F) hx)) (k:=4) (.head _)
 rw[show(aL x F [aU 16]).n=27 by kernel_rfl,show(aL x F [aU 16]).push (.list ((zY 4 c).map (.tok 6)))=aL x F [aU 16,en (bU c)] by kernel_rfl] at z
 exact z
theorem LU{l:List Nat}:am w K 40 (.g 73) [.tok 2 d] (aL x F [aU 16,en l]) [(.ok (.obj 28),aL x F [aU 16,en l,en (cD d)])]:=by
 have z:=Fv (c:=d) T dz rz (σ:=aL x F [aU 16,en l]) (i:=25) (by kernel_rfl) (cA0 (·.1) (az (A1 x.c x.d F l []) hx)) (k:=2) (.tail _ (.head _))
 rw[show(aL x F [aU 16,en l]).n=28 by kernel_rfl,show(aL x F [aU 16,en l]).push (.list ((zY 2 d).map (.tok 6)))=aL x F [aU 16,en l,en (cD d)] by kernel_rfl] at z
 exact z
noncomputable def dI(la lb:List Nat):List ai:=[aU 16,en la,en lb, .own]
theorem Lv{la lb:List Nat}{a b:Nat}(hF:F∈Fs)(ha:a∈g6)(hb:b∈gY):am w K 16 (.g 218) [.obj 23, .tok 6 a, .tok 6 b] (aL x F (dI la lb)) [(.ok (.bool (cY F a b).1),aL x (cY F a b).2 (dI la lb))]:=by
 have z:=FY (σ:=aL x F (dI la lb)) (k0:=25) (k1:=29) (k2:=23) (k3:=22) (k4:=21) (k5:=24) T dz rz hF ha hb rfl (cA0 (·.2) (az (A1 x.c x.d F la lb) hx)) (by kernel_rfl)
 rw[show(aL x F (dI la lb)).set 24 (fD (cY F a b).2)=aL x (cY F a b).2 (dI la lb) by kernel_rfl] at z
 exact z
end
section
noncomputable def cV{α S:Type}(f:S→α→Bool×S)(s:S)(l:List α):Bool×S:=List.rec (motive:=λ_=>S→Bool×S) (λs=>(true,s)) (λv _ ih s=>Bool.rec (false,(f s v).2) (ih (f s v).2) (f s v).1) l s
noncomputable def wR(u b:Bool):Fl:=cond b .next (.ret (.bool u))
noncomputable abbrev uw:=wR false
theorem nO{u:Bool}{α S:Type}{r:aP}{ev:Ev}{t:ME}{b:List MS}{it:It}{St:S→ac}{av:α→AV}{its:List α}{f:S→α→Bool×S}{I:S→Prop}{P:ao→Prop}(hgo:gV it t=true)(hit:∀s k,I s→du it k (St s)=some ((aY its k).map av))(hI:∀s v,I s→v∈its→I (f s v).2)
  (hb:∀s v loc,I s→v∈its→P loc→∃loc1 σ1 loc2,cR r ev 5 loc t (av v) (St s)=af loc1 σ1∧P loc2∧r.s { ev with loc:=loc1 } b σ1=af (wR u (f s v).1,loc2) (St (f s v).2))
  (gs:List α):∀(k m:Nat)(loc:ao)(s:S),(∀i,aY its (k+i)=aY gs i)→gs.length<m→P loc→I s→∃loc',P loc'∧forLoop r ev t b it m k loc (St s)=af (wR u (cV f s gs).1,loc') (St (cV f s gs).2):=by
 induction gs with
 |nil=>exact λk m loc s hn hm hl hs=>match m,hm with
  |m+1,_=>⟨loc,hl,ff hgo ((hit s k hs).trans (cA0 (λo=>some (Option.map av o)) (hn 0)))⟩
 |cons v gs ih=>
  intro k m loc s hn hm hl hs
  match m,hm with
  |m+1,hm=>
   exact(hb s v loc hs (ie (hn 0)) hl).elim λloc1 y=>y.elim λσ1 y=>y.elim λloc2 y=>by
    have e:=(hit s k hs).trans (cA0 (λo=>some (Option.map av o)) (hn 0))
    have st:=hI s v hs (ie (hn 0))
    show ∃loc',P loc'∧_=af (wR u (Bool.rec (motive:=λ_=>Bool×S) (false,(f s v).2) (cV f (f s v).2 gs) (f s v).1).1,loc') (St (Bool.rec (motive:=λ_=>Bool×S) (false,(f s v).2) (cV f (f s v).2 gs) (f s v).1).2)
    have z:=y.2.2
    cases q:(f s v).1 with
    |true=>rw[q] at z; exact(ih (k+1) m loc2 (f s v).2 (λi=>(cA0 (aY its) ((Nat.add_assoc k 1 i).trans (cA0 _ (Nat.add_comm 1 i)))).trans (hn (i+1))) (Nat.lt_of_succ_lt_succ hm) y.2.1 st).imp λl z2=>⟨z2.1,dB hgo e y.1 (bq z z2.2)⟩
    |false=>rw[q] at z; exact⟨loc2,y.2.1,dB hgo e y.1 (bq z rfl)⟩
theorem wj{α S:Type}{f:S→α→Bool×S}{I:S→Prop}{gs:List α}(hI:∀s v,I s→v∈gs→I (f s v).2):∀s,I s→I (cV f s gs).2:=by
 induction gs with
 |nil=>exact λ_ h=>h
 |cons v gs ih=>
  intro s hs
  have z:=hI s v hs (.head _)
  show I (Bool.rec (motive:=λ_=>Bool×S) (false,(f s v).2) (cV f (f s v).2 gs) (f s v).1).2
  cases (f s v).1 with
  |true=>exact ih (λs v h h'=>hI s v h (.tail _ h')) _ z
  |false=>exact z
theorem tP(f g:Nat→AV)(la:List Nat):∀lb k,lv (la.map f) (lb.map g) k=(aY (la.zip lb) k).map λq=> .tup [f q.1,g q.2]:=by
 induction la with
 |nil=>exact λ_ _=>rfl
 |cons a la ih=>exact λlb k=>match lb,k with
  |[],0=>rfl
  |[],k+1=>(show ob (aY (la.map f) k) (λx=>ob none λy=>some (AV.tup [x,y]))=none by cases aY (la.map f) k <;> rfl)
  |b::lb,0=>rfl
  |b::lb,k+1=>ih lb k
variable {sp:Sp}{ss:Ss}{ev:Ev}
theorem eE{r:aP}{e:ME}{l:List ME}{v:AV}{vs:List AV}(h:r.e ev e σ=af v σ1)(h2:fw r ev l σ1=af vs σ2):fw r ev (e::l) σ=af (v::vs) σ2:=bq h (bq h2 rfl)
theorem rW{a:ME}{p:Pos}{b:Bool}(h:(R tabs sp ss k).t ev a σ=af b σ1):(R tabs sp ss (k+1)).t ev (.not a p) σ=af (!b) σ1:=bq h rfl
theorem IV{o:ME}{x:Nat}{as:List ME}{pa p:Pos}{b:Bool}(h:(R tabs sp ss k).e ev (.meth o x as pa p) σ=af (.bool b) σ1):(R tabs sp ss (k+1)).t ev (.meth o x as pa p) σ=af b σ1:=bq h rfl
noncomputable def Sub(l l':ao):Prop:=∀y v,look y l=some v→look y l'=some v
theorem Sub.put{l l':ao}{x:Nat}(h:look x l=none)(s:Sub l l'):Sub l (put x a l'):=λy v e=>(gi x a y l').trans (by
 by_cases z:y=x
 ·rw[z,h] at e; exact al e
 ·rw[if_neg z]; exact s y v e)
theorem sb{α:Type}{y:Nat}{v:α}{l r:List (Nat×α)}(h:look y l=some v):look y (l++r)=some v:=by
 induction l with
 |nil=>exact al h
 |cons p l ih=>
  rw[bH y p.1 p.2 l] at h
  refine(bH y p.1 p.2 (l++r)).trans ?_
  by_cases z:y=p.1
  ·rw[if_pos z] at h ⊢; exact h
  ·rw[if_neg z] at h ⊢; exact ih h
theorem vM{x y:Nat}(a:AV)(l:ao)(h:y≠x):look y (put x a l)=look y l:=(gi x a y l).trans (if_neg h)
end
section
noncomputable def cw:ao:=[(119, .obj 0),(7, .obj 12),(27, .obj 20),(121, .obj 23)]
noncomputable def cX(loc:ao):Ev:=⟨229,kB.sc,loc,[(92,17),(112,16)]⟩
noncomputable def cq(c d:Nat)(r:ao):ao:=(119, .obj 0)::(7, .obj 12)::(27, .obj 20)::(121, .obj 23)::(17, .tok 1 c)::(123, .tok 2 d)::r
noncomputable def n7(c:Nat):ao:=[(124, .tok 3 c),(125, .tok 4 c)]
noncomputable def lZ:List MS:=match kB.body.drop 6 with
 | .for_ _ _ b _::_=>b
 |_=>[]
noncomputable abbrev nc(s1 s2 s3 s4 s5:dY)(n:Nat):=R tabs (sp2 (bh 78 s1) (sp2 (bh 97 s2) (sp2 (bh 116 s3) (sp2 (bh 73 s4) (bh 218 s5))))) aJ n
noncomputable def OQ:List MS:=[(.ite (.not (.meth (.name 121 (pz 201 19 27)) 113 [(.name 18 (pz 201 33 39)),(.name 126 (pz 201 41 45))] (pz 201 19 32) (pz 201 19 46)) (pz 201 15 46)) [(.ret (.bool false (pz 202 23 28)) (pz 202 16 28))] [] ⟨201,12,202,28⟩)]
noncomputable def eQ(F:FF)(q:Nat×Nat):Bool×FF:=cY F q.1 q.2
noncomputable def cp(F:FF)(c d:Nat):Bool×FF:=Bool.rec (false,F) (cV eQ F ((bU c).zip (cD d))) (Nat.beq (gL c) (gK d))
noncomputable def Ey(c d:Nat):List ai:=Bool.rec [aU 16] (dI (bU c) (cD d)) (Nat.beq (gL c) (gK d))
variable {s1 s2 s3 s4 s5:dY}{x:IL}{F:FF}{c d:Nat}{la lb:List Nat}
theorem B2(hq:∀q∈la.zip lb,q.1∈g6∧q.2∈gY)(hl:(la.zip lb).length<1000)(h5:∀F∈Fs,∀a∈g6,∀b∈gY,s5 [.obj 23, .tok 6 a, .tok 6 b] (aL x F (dI la lb))=some (af (.bool (cY F a b).1) (aL x (cY F a b).2 (dI la lb))))(hF:F∈Fs){loc:ao}(hs:Sub cw loc) :
  ∃loc',Sub cw loc'∧forLoop (nc s1 s2 s3 s4 s5 8) (cX (cq c d (n7 c))) (.tup [(.name 18 (pz 200 12 18)),(.name 126 (pz 200 20 24))] (pz 200 12 24)) OQ (.zip (.obj 27) (.obj 28) 29) 1000 0 loc (aL x F (dI la lb))=af (uw (cV eQ F (la.zip lb)).1,loc') (aL x (cV eQ F (la.zip lb)).2 (dI la lb)):=
 nO (St:=λF=>aL x F (dI la lb)) (av:=λq:Nat×Nat=> .tup [.tok 6 q.1, .tok 6 q.2]) (its:=la.zip lb) (f:=eQ) (I:=(·∈Fs)) (P:=Sub cw) rfl (λs k _=>(show du (.zip (.obj 27) (.obj 28) 29) k (aL x s (dI la lb))=some (lv (la.map (.tok 6)) (lb.map (.tok 6)) k) by kernel_rfl).trans (cA0 some (tP _ _ _ _ _)))
  (λs v hs hv=>r7 s hs _ (hq v hv).1 _ (hq v hv).2) (λs v loc hI hv hl=>by
   have n18:∀{k p},(nc s1 s2 s3 s4 s5 (k+1)).e (cX (put 126 (.tok 6 v.2) (put 18 (.tok 6 v.1) loc))) (.name 18 p) (aL x s (dI la lb))=af (.tok 6 v.1) (aL x s (dI la lb)):=ck ((vM _ _ (by decide)).trans (bJ 18 _ loc))
   have n126:∀{k p},(nc s1 s2 s3 s4 s5 (k+1)).e (cX (put 126 (.tok 6 v.2) (put 18 (.tok 6 v.1) loc))) (.name 126 p) (aL x s (dI la lb))=af (.tok 6 v.2) (aL x s (dI la lb)):=ck (bJ 126 _ _)
   have hs:Sub cw (put 126 (.tok 6 v.2) (put 18 (.tok 6 v.1) loc)):= .put rfl (.put rfl hl)
   have n121:∀{k p},(nc s1 s2 s3 s4 s5 (k+1)).e (cX (put 126 (.tok 6 v.2) (put 18 (.tok 6 v.1) loc))) (.name 121 p) (aL x s (dI la lb))=af (.obj 23) (aL x s (dI la lb)):=ck (hs 121 _ rfl)
   have ts:(nc s1 s2 s3 s4 s5 7).t (cX (put 126 (.tok 6 v.2) (put 18 (.tok 6 v.1) loc))) (.not (.meth (.name 121 (pz 201 19 27)) 113 [(.name 18 (pz 201 33 39)),(.name 126 (pz 201 41 45))] (pz 201 19 32) (pz 201 19 46)) (pz 201 15 46)) (aL x s (dI la lb))=af (!(cY s v.1 v.2).1) (aL x (cY s v.1 v.2).2 (dI la lb)):=rW (IV (ij (m:= .fn 218) rfl n121 (by kernel_rfl) (eE n18 (eE n126 rfl)) (by kernel_rfl) (cg ((bP rfl).trans ((bP rfl).trans ((bP rfl).trans ((bP rfl).trans (h5 s hI _ (hq v hv).1 _ (hq v hv).2))))))))
   exact⟨_,_,_,rfl,hs,aQ rfl ((bl ts).trans (by
    show _=af (uw (cY s v.1 v.2).1,_) _
    cases (cY s v.1 v.2).1 <;> rfl))⟩) (la.zip lb) 0 1000 loc F (λi=>cA0 (aY _) (Nat.zero_add i)) hl hs hF
theorem HP{r:aP}{ev:Ev}{e e':ME}{p pc:Pos}{u v:AV}(h0:dG tabs ev 70 3=false∧dG tabs ev 70 8=false∧dG tabs ev 70 7=true)(h1:r.e ev e σ=af u σ1)(h2:r.e ev e' σ1=af v σ2)(h3:(i4 u σ2&&i4 v σ2||i5 u&&i5 v)=true):b9 tabs r ev (.call (.name 70 p) [e,e'] pc) σ=af (.zip u v σ2.n) (σ2.push .own):=by
 show aO (aO (gd (dG tabs ev 70 3) _) (aO (gd (dG tabs ev 70 8) _) (gd (dG tabs ev 70 7) (bind (r.e ev e σ) λu σ=>bind (r.e ev e' σ) λv σ=>gd (i4 u σ&&i4 v σ||i5 u&&i5 v) (af (It.zip u v σ.n) (σ.push .own)))))) _=_
 rw[h0.1,h0.2.1,h0.2.2]
 exact(cA0 (λo=>aO (aO none (aO none (gd true o))) _) (bq h1 (bq h2 (gq h3 rfl)))).trans rfl
theorem uo{sp:Sp}{ss:Ss}{ev:Ev}{t it:ME}{b:List MS}{p:Pos}{u v:AV}{o:Nat}(h:b9 tabs (R tabs sp ss k) ev it σ=af (.zip u v o) σ1):ba tabs (R tabs sp ss k) ev (.for_ t it b p) σ=forLoop (R tabs sp ss k) ev t b (.zip u v o) cA 0 ev.loc σ1:=bq h rfl
theorem Gf(hF:F∈Fs)(hq:∀q∈(bU c).zip (cD d),q.1∈g6∧q.2∈gY)(hl:((bU c).zip (cD d)).length<1000)(hne:∀σ,gw .NotEq (bo 5 (gL c)) (bo 5 (gK d)) σ=some (!Nat.beq (gL c) (gK d)))
  (h1:s1 [.tok 1 c, .obj 26] (aL x F [aU 16])=some (af (.tok 3 c) (aL x F [aU 16]))) (h2:s2 [.tok 3 c, .obj 20] (aL x F [aU 16])=some (af (.tok 4 c) (aL x F [aU 16])))
  (h3:s3 [.tok 4 c] (aL x F [aU 16])=some (af (bo 5 (gL c)) (aL x F [aU 16]))) (h3':s3 [.tok 2 d] (aL x F [aU 16])=some (af (bo 5 (gK d)) (aL x F [aU 16])))
  (h4:s4 [.tok 4 c] (aL x F [aU 16])=some (af (.obj 27) (aL x F [aU 16,en (bU c)]))) (h4':s4 [.tok 2 d] (aL x F [aU 16,en (bU c)])=some (af (.obj 28) (aL x F [aU 16,en (bU c),en (cD d)])))
  (h5:∀F∈Fs,∀a∈g6,∀b∈gY,s5 [.obj 23, .tok 6 a, .tok 6 b] (aL x F (dI (bU c) (cD d)))=some (af (.bool (cY F a b).1) (aL x (cY F a b).2 (dI (bU c) (cD d))))) :
  ∃loc',Sub cw loc'∧(nc s1 s2 s3 s4 s5 12).s (cX (cq c d [])) lZ (aL x F [])=af (uw (cp F c d).1,loc') (aL x (cp F c d).2 (Ey c d)):=by
 have r1:ba tabs (nc s1 s2 s3 s4 s5 11) (cX (cq c d [])) (.asg (.name 124 (pz 196 8 14)) (.call (.name 20 (pz 196 17 31)) [(.name 17 (pz 196 32 35)),(.lam [(18,pz 196 44 50)] wP [(18,.local),(112,.free)] (pz 196 37 107))] (pz 196 17 108)) (pz 196 8 108)) (aL x F [])=af (.next,cq c d [(124, .tok 3 c)]) (aL x F [aU 16]):=
  f8 rfl rfl (bt (a:= .g 78) (vs:=[.tok 1 c, .obj 26]) (σ1:=aL x F [aU 16]) (by kernel_rfl) (by kernel_rfl) (by kernel_rfl) (by kernel_rfl) (cg (dU h1))) rfl
 have r2:ba tabs (nc s1 s2 s3 s4 s5 10) (cX (cq c d [(124, .tok 3 c)])) (.asg (.name 125 (pz 197 8 11)) (.call (.name 28 (pz 197 14 25)) [(.name 124 (pz 197 26 32)),(.name 27 (pz 197 34 39))] (pz 197 14 40)) (pz 197 8 40)) (aL x F [aU 16])=af (.next,cq c d (n7 c)) (aL x F [aU 16]):=
  f8 rfl rfl (bt (a:= .g 97) (vs:=[.tok 3 c, .obj 20]) (σ1:=aL x F [aU 16]) (by kernel_rfl) (by kernel_rfl) (by kernel_rfl) (by kernel_rfl) (cg ((bP rfl).trans (dU h2)))) rfl
 have a3:(nc s1 s2 s3 s4 s5 9).t (cX (cq c d (n7 c))) (.cmp .NotEq (.call (.name 33 (pz 198 11 17)) [(.name 125 (pz 198 18 21))] (pz 198 11 22)) (.call (.name 33 (pz 198 26 32)) [(.name 123 (pz 198 33 38))] (pz 198 26 39)) (pz 198 11 39)) (aL x F [aU 16])=af (!Nat.beq (gL c) (gK d)) (aL x F [aU 16]):=
  dg (bt (a:= .g 116) (vs:=[.tok 4 c]) (by kernel_rfl) (by kernel_rfl) (by kernel_rfl) (by kernel_rfl) (cg ((bP rfl).trans ((bP rfl).trans (dU h3))))) (bt (a:= .g 116) (vs:=[.tok 2 d]) (by kernel_rfl) (by kernel_rfl) (by kernel_rfl) (by kernel_rfl) (cg ((bP rfl).trans ((bP rfl).trans (dU h3'))))) (hne _)
 unfold cp Ey
 cases hs:Nat.beq (gL c) (gK d) with
 |false=>
  rw[hs] at a3
  exact⟨cq c d (n7 c),λy v h=>sb h,aS rfl r1 (aS rfl r2 (jC rfl ((bl a3).trans rfl)))⟩
 |true=>
  rw[hs] at a3
  have z':=HP (r:=nc s1 s2 s3 s4 s5 8) (ev:=cX (cq c d (n7 c))) (p:=(pz 200 28 31)) (pc:=(pz 200 28 67)) ⟨by kernel_rfl,by kernel_rfl,by kernel_rfl⟩ (bt (a:= .g 73) (vs:=[.tok 4 c]) (p:=(pz 200 32 47)) (x:=9) (σ:=aL x F [aU 16]) (px:=(pz 200 32 42)) (as:=[.name 125 (pz 200 43 46)]) (by kernel_rfl) (by kernel_rfl) (by kernel_rfl) (by kernel_rfl) (cg ((bP rfl).trans ((bP rfl).trans ((bP rfl).trans (dU h4))))))
   (bt (a:= .g 73) (vs:=[.tok 2 d]) (p:=(pz 200 49 66)) (x:=9) (px:=(pz 200 49 59)) (as:=[.name 123 (pz 200 60 65)]) (by kernel_rfl) (by kernel_rfl) (by kernel_rfl) (by kernel_rfl) (cg ((bP rfl).trans ((bP rfl).trans ((bP rfl).trans (dU h4')))))) (by kernel_rfl)
  rw[show(aL x F [aU 16,en (bU c),en (cD d)]).n=29 by kernel_rfl,show(aL x F [aU 16,en (bU c),en (cD d)]).push .own=aL x F (dI (bU c) (cD d)) by kernel_rfl] at z'
  exact(B2 (c:=c) (d:=d) hq hl h5 hF (loc:=cq c d (n7 c)) λy v h=>sb h).imp λl y=>⟨y.1,aS rfl r1 (aS rfl r2 (aS (loc:=cq c d (n7 c)) rfl ((bl a3).trans rfl) (aQ rfl ((uo z').trans y.2))))⟩
end
theorem eZ:(∀c∈ah 35,gL c∈ah 9∧∀i∈bU c,i∈g6)∧(∀d∈ah 54,gK d∈ah 9∧∀i∈cD d,i∈gY)∧∀c∈ah 35,(bU c).length≤3:=by decide +kernel
theorem MF(σ:ac):(ah 9).map (λi=>(ah 9).map λj=>gw .NotEq (bo 5 i) (bo 5 j) σ)=(ah 9).map (λi=>(ah 9).map λj=>some (!Nat.beq i j)):=by kernel_rfl
noncomputable def N8(b:Bool):Option AV:=cond b none (some (.bool false))
theorem K3(c d:Nat→Nat)(a b:Nat):(ej c d).map (λx=>Fs.map λF=>Ao (cX (cq a b [])) (fg x F))=(ej c d).map λx=>Fs.map λF=>Bb (cX (cq a b [])) (fg x F):=by kernel_rfl
noncomputable def PF(x:IL)(a b:Nat)(F F':FF)(f h:Bool):Option (FV×eJ):=sv 26 26 (aX (ah 26)) (λ_=>[]) [24] (cw.map (·.1)) id (some [(.ok (uw f,cw),aL x F' (Bool.rec [aU 16] (dI (bU a) (cD b)) h))])
theorem Jg(x:IL)(a b:Nat)(F:FF):Fs.map (λF'=>[true,false].map λf=>[true,false].map λh=>PF x a b F F' f h)=Fs.map (λF'=>[true,false].map λf=>[true,false].map λh=>some ((N8 f,cw.map λq=>some q.2),aG 26 (au (fg x F)) [(24,fD F')] [])):=by kernel_rfl
theorem ue(b:Bool):b∈[true,false]:=by cases b <;> decide
section
variable {x:IL}{F:FF}{c d:Nat}
theorem w2{L:FF}(h:∀q∈L,q.1∈g6∧q.2∈gY):∀F∈Fs,(cV eQ F L).2∈Fs:=wj (I:=(·∈Fs)) λs v hs hv=>r7 s hs _ (h v hv).1 _ (h v hv).2
theorem ui(hc:c∈ah 35)(hd:d∈ah 54):∀q∈(bU c).zip (cD d),q.1∈g6∧q.2∈gY:=λq h=>⟨(eZ.1 c hc).2 _ (List.of_mem_zip h).1,(eZ.2.1 d hd).2 _ (List.of_mem_zip h).2⟩
theorem qT(hF:F∈Fs)(hc:c∈ah 35)(hd:d∈ah 54):(cp F c d).2∈Fs:=by
 unfold cp
 cases Nat.beq (gL c) (gK d) with
 |false=>exact hF
 |true=>exact w2 (ui hc hd) F hF
noncomputable def N7(v:AV):Nat:=match v with
 | .str k=>k-200
 | .tup [_, .str k]=>k-202
 |_=>0
noncomputable def Ak(o:Option ai):FF:=Option.rec [] (λl=>l.map λq=>(N7 q.1,N7 q.2)) (dO o)
theorem zn:∀F∈Fs,Ak (some (fD F))=F:=by decide +kernel
noncomputable def A3(v:AV):Nat:=Option.rec 0 (·.2) (qt v)
noncomputable def Kn(vs:List AV):Nat:=Option.rec 0 (·.1) (qt (vs.getD 0 .none))
noncomputable def OE(x:IL)(F:FF)(c:Nat):dY:=mj [.tok 1 c, .obj 26] (aL x F [aU 16]) [(.ok (.tok 3 c),aL x F [aU 16])]
noncomputable def Pn(x:IL)(F:FF)(c:Nat):dY:=mj [.tok 3 c, .obj 20] (aL x F [aU 16]) [(.ok (.tok 4 c),aL x F [aU 16])]
noncomputable def I6(x:IL)(F:FF)(c d:Nat):dY:=pp (λvs _=>Kn vs) (λk=>([.tok k (cond (Nat.beq k 4) c d)],aL x F [aU 16])) (·∈jE) λk=>[(.ok (bo 5 (EI k (cond (Nat.beq k 4) c d))),aL x F [aU 16])]
noncomputable def KZ(x:IL)(F:FF)(c d:Nat):dY:=pp (λvs _=>Kn vs) (λk=>([.tok k (cond (Nat.beq k 4) c d)],cond (Nat.beq k 4) (aL x F [aU 16]) (aL x F [aU 16,en (bU c)]))) (·∈jE) λk=>cond (Nat.beq k 4) [(.ok (.obj 27),aL x F [aU 16,en (bU c)])] [(.ok (.obj 28),aL x F [aU 16,en (bU c),en (cD d)])]
noncomputable def IN(x:IL)(c d:Nat):dY:=pp (λvs σ=>(Ak (σ.get 24),A3 (vs.getD 1 .none),A3 (vs.getD 2 .none))) (λq:FF×Nat×Nat=>([.obj 23, .tok 6 q.2.1, .tok 6 q.2.2],aL x q.1 (dI (bU c) (cD d)))) (λq=>q.1∈Fs∧q.2.1∈g6∧q.2.2∈gY) λq=>[(.ok (.bool (cY q.1 q.2.1 q.2.2).1),aL x (cY q.1 q.2.1 q.2.2).2 (dI (bU c) (cD d)))]
theorem zV{P:Nat→Prop}(a:P 4)(b:P 2):∀k∈jE,P k:=List.forall_mem_cons.mpr ⟨a,List.forall_mem_singleton.mpr b⟩
theorem FN(T:aE K)(dz:DZ w K)(rz:RZ w K)(hx:x∈ej x.c x.d)(hF:F∈Fs)(hc:c∈ah 35)(hd:d∈ah 54) :
  aD w K 52 (cX (cq c d [])) lZ (au (fg x F)) [(.ok (uw (cp F c d).1,cw),au (fg x (cp F c d).2))]:=by
 have f:=eZ.1 c hc
 have y:=Gf (s1:=OE x F c) (s2:=Pn x F c) (s3:=I6 x F c d) (s4:=KZ x F c d) (s5:=IN x c d) (x:=x) (F:=F) (c:=c) (d:=d) hF (ui hc hd) (Nat.lt_of_le_of_lt (lE0 (Nat.le_of_eq List.length_zip) (Nat.min_le_left _ _)) (Nat.lt_of_le_of_lt (eZ.2.2 c hc) (by decide))) (λσ=>az (az (MF σ) f.1) (eZ.2.1 d hd).1)
  bF bF (eA (c:=4) rfl (.head _)) (eA (c:=2) rfl (.tail _ (.head _))) (eA (c:=4) rfl (.head _)) (eA (c:=2) rfl (.tail _ (.head _))) λG hG a ha b hb=>eA (c:=(G,a,b)) (Prod.ext ((cA0 Ak (show(aL x G (dI (bU c) (cD d))).get 24=some (fD G) by kernel_rfl)).trans (zn G hG)) rfl) ⟨hG,ha,hb⟩
 have sp:=(bM (J9 (F:=F) T dz rz hx hc)).sp2 ((bM (HL (F:=F) T dz rz hx hc)).sp2 (bK.sp2 (a:=bh 116 (I6 x F c d)) (fG (zV (Bx T dz rz hx (.head _)) (Bx T dz rz hx (.tail _ (.head _))))) (bK.sp2 (a:=bh 73 (KZ x F c d)) (fG (zV (L7 T dz rz hx) (LU T dz rz hx))) (bK.up (sp:=bh 218 (IN x c d)) (by decide:16≤40) (fG λq h=>Lv T dz rz hx h.1 h.2.1 h.2.2)))))
 rw[show aL x F []=au (fg x F) from cA0 au (List.append_nil _)] at y
 exact y.elim λl' y=>by
  have a:=az (az (K3 x.c x.d c d) hx) hF
  have v:=az (az (az (Jg x c d F) (qT hF hc hd)) (ue (cp F c d).1)) (ue (Nat.beq (gL c) (gK d)))
  have z:=aD.see (l:=fg x F) (post:=id) (sel:=λ_=>[]) (ch:=[(24,fD (cp F c d).2)]) (nw:=[]) (loc:=cw) (aD.sub y.1 (aD.of (m:=40) (n:=12) T dz rz sp aH y.2)) (λσ=> .rfl) a v
  rw[show pushes [] (bG (aX (ah (fg x F).length)) [(24,fD (cp F c d).2)] (au (fg x F)))=au (fg x (cp F c d).2) by kernel_rfl,show yQ (N8 (cp F c d).1)=uw (cp F c d).1 by cases (cp F c d).1 <;> rfl] at z
  exact z
end
section
variable {m:Nat}{ev:Ev}{b b1 b2:List MS}{loc:ao}{outs:List (ax (Fl×ao)×ac)}
theorem CV(b1 b2:List MS):unSs (b1++b2)=unSs b1++unSs b2:=by
 induction b1 with
 |nil=>rfl
 |cons s l ih=>exact cA0 (i8 s::·) ih
theorem Bt(a b:List Stmt)(env:Env):execs (a++b) env=(execs a env >>= λf=>match f with | .next=>execs b env |f=>pure f):=by
 induction a with
 |nil=>rfl
 |cons s a ih=>
  show(exec s env >>= λf=>match f with | .next=>execs (a++b) env |f=>pure f)=((exec s env >>= λf=>match f with | .next=>execs a env |f=>pure f) >>= _)
  rw[LawfulMonad.bind_assoc]
  congr 1
  funext f
  cases f with
  |next=>exact ih
  |_=>rfl
theorem aD.seq(T:aE K)(c1:aD w K m ev b1 σ [(.ok (.next,loc),σ1)])(c2:aD w K m { ev with loc:=loc } b2 σ1 outs):aD w K m ev (b1++b2) σ outs:=
 ⟨λhA S hE P=>by
  rw[CV,Bt]
  exact wpAny_bind (c1.ok hA S hE ⟨λa σ2 hm v β1 h1 tk1 r s=>by
   injection List.mem_singleton.mp hm with e1 e2
   injection e1 with e1
   subst e1 e2
   exact(show v = .next from r.2)▸c2.ok hA (S.stepL T s r.1) hE (P.at s λ_ z=>z),λc σ2 hm=>nomatch List.mem_singleton.mp hm⟩)⟩
theorem am.row{f:AV}{vs:List AV}{outs':List (ax AV×ac)}(T:aE K)(dz:DZ w K)(rz:RZ w K)(h:aD w K m ev b σ1 outs)(e:∀ss,bv tabs (R tabs bR ss 1) f vs σ=bind ((R tabs bR ss 1).s ev b σ1) λp σ=>af (cE p) σ)(o:bind (some outs) (λp σ=>af (cE p) σ)=some outs'):am w K (m+2) f vs σ outs':=
 .body (m:=m) (n:=1) T dz rz bf (jx (p:=λ_ _ _=>()) (St:=λ_=>(ev,b,σ1)) (ok:=λ_=>True) (o:=λ_=>outs) λ_ _=>h) ((e _).trans ((cA0 (bind · _) (pJ (im (c:=()) rfl trivial))).trans o))
end
noncomputable def sQ:Ev:=⟨229,kB.sc,[(119, .obj 0),(7, .obj 12)],[(92,17),(112,16)]⟩
noncomputable def sZ(x:IL):ac:=au (gy x++[.cell (some (.obj 4)), .cell (some (.obj 8))])
noncomputable def t7(x:IL):ac:=au (gy x++[.cell (some (.obj 4)), .cell (some (.obj 8)), .list [], .list [],rK,Bk,NW, .inst 221 22,fD []])
noncomputable def IL.t1(x:IL):List Nat:=x.cs++[x.c 0]
noncomputable def IL.t2(x:IL):List Nat:=x.ds++[x.d 0]
noncomputable def IL.ps(x:IL):List (Nat×Nat):=x.t1.zip x.t2
theorem KI(c d:Nat→Nat):(ej c d).map (λx=>(R0 20).s sQ (kB.body.take 6) (sZ x))=(ej c d).map λx=>cond (gX x.k) (af (.next,cw) (t7 x)) (af (.ret (.bool false),sQ.loc) (sZ x)):=by kernel_rfl
theorem NE(c d:Nat→Nat):(ej c d).map (λx=>cond (gX x.k) none ((R0 20).s sQ kB.body (sZ x)))=(ej c d).map λx=>cond (gX x.k) none (af (.ret (.bool false),sQ.loc) (sZ x)):=by kernel_rfl
theorem Ec(x:IL)(ss:Ss):bv tabs (R tabs bR ss 1) (.g 230) [.obj 0, .obj 4, .obj 8, .obj 12] (au (gy x))=bind ((R tabs bR ss 1).s sQ kB.body (sZ x)) λp σ=>af (cE p) σ:=rfl
noncomputable def My(b:List MS):Nat:=match b with
 | .asg _ _ p::_=>p.line
 |_=>0
noncomputable def xx(x:IL):Ss:=λev b σ=>gd (Nat.beq ev.fn 229&&Nat.beq (My b) 196) (lL (λev _ σ=>(Ak (σ.get 24),A3 ((look 17 ev.loc).getD .none),A3 ((look 123 ev.loc).getD .none))) (λq:FF×Nat×Nat=>(cX (cq q.2.1 q.2.2 []),lZ,au (fg x q.1))) (λq=>q.1∈Fs∧q.2.1∈ah 35∧q.2.2∈ah 54) (λq=>[(.ok (uw (cp q.1 q.2.1 q.2.2).1,cw),au (fg x (cp q.1 q.2.1 q.2.2).2))]) ev b σ)
noncomputable def Oy:ME:= .call (.name 70 (pz 195 22 25)) [(.call (.name 109 (pz 195 26 36)) [(.name 112 (pz 195 37 43))] (pz 195 26 44)),(.call (.name 109 (pz 195 46 56)) [(.name 7 (pz 195 57 61))] (pz 195 46 62))] (pz 195 22 63)
theorem Ny(c d:Nat→Nat):(ej c d).map (λx=>b9 tabs (R tabs bR (xx x) 13) (cX cw) Oy (t7 x))=(ej c d).map λx=>af (.zip (.tup (x.t1.map (.tok 1))) (.tup (x.t2.map (.tok 2))) 25) (au (fg x [])):=by kernel_rfl
noncomputable def gc(F:FF)(q:Nat×Nat):Bool×FF:=cp F q.1 q.2
noncomputable def cL(x:IL):Bool:=cond (gX x.k) (cV gc [] x.ps).1 false
section
variable {x:IL}
structure nK(x:IL):Prop where
 m:∀b,x.fr b∈ej x.c x.d
 p:∀q∈x.ps,q.1∈ah 35∧q.2∈ah 54
 l:x.ps.length<1000
theorem nK.mem(h:nK x):x∈ej x.c x.d:=h.m x.fz
theorem GS(h:nK x):(R tabs bR (xx x) 14).s (cX cw) (kB.body.drop 6) (t7 x)=af (.ret (.bool (cV gc [] x.ps).1),cw) (au (fg x (cV gc [] x.ps).2)):=by
 have l:=nO (r:=R tabs bR (xx x) 13) (ev:=cX cw) (b:=lZ) (t:= .tup [(.name 17 (pz 195 8 11)),(.name 123 (pz 195 13 18))] (pz 195 8 18)) (it:= .zip (.tup (x.t1.map (.tok 1))) (.tup (x.t2.map (.tok 2))) 25) (St:=λF=>au (fg x F)) (av:=λq:Nat×Nat=> .tup [.tok 1 q.1, .tok 2 q.2]) (its:=x.ps) (f:=gc) (I:=(·∈Fs)) (P:=λl=>l=cw) rfl
  (λs k _=>(show du _ k (au (fg x s))=some (lv (x.t1.map (.tok 1)) (x.t2.map (.tok 2)) k) by kernel_rfl).trans (cA0 some (tP _ _ _ _ _))) (λs v hs hv=>qT hs (h.p v hv).1 (h.p v hv).2)
  (λs v loc hs hv hl=>⟨cq v.1 v.2 [],au (fg x s),cw,by rw[hl]; rfl,rfl,pJ (gq rfl (im (c:=(s,v.1,v.2)) (St:=λq:FF×Nat×Nat=>(cX (cq q.2.1 q.2.2 []),lZ,au (fg x q.1))) (Prod.ext ((cA0 Ak (show(au (fg x s)).get 24=some (fD s) by kernel_rfl)).trans (zn s hs)) rfl) ⟨hs,(h.p v hv).1,(h.p v hv).2⟩))⟩)
  x.ps 0 1000 cw [] (λi=>cA0 (aY _) (Nat.zero_add i)) h.l rfl (.head _)
 exact l.elim λl' y=>by
  have z:=(uo (p:=⟨195,4,202,28⟩) (az (Ny x.c x.d) h.mem)).trans (y.1▸y.2)
  cases q:(cV gc [] x.ps).1 with
  |true=>rw[q] at z; exact aS (loc:=cw) rfl z rfl
  |false=>rw[q] at z; exact jC rfl z
theorem Hm(T:aE K)(dz:DZ w K)(rz:RZ w K)(h:nK x):∃σ',am w K 73 (.g 230) [.obj 0, .obj 4, .obj 8, .obj 12] (au (gy x)) [(.ok (.bool (cL x)),σ')]∧(ah 16).map σ'.get=(gy x).map some∧16≤σ'.n:=by
 have e1:=az (KI x.c x.d) h.mem
 have e2:=az (NE x.c x.d) h.mem
 unfold cL
 cases q:gX x.k with
 |true=>
  rw[q] at e1
  have ok:fT w K 52 (xx x):=λev b σ outs e=>ay e λ_ e=>jx (λq hq=>FN T dz rz h.mem hq.1 hq.2.1 hq.2.2) ev b σ outs e
  exact⟨_, .row (m:=71) (b:=kB.body) T dz rz (.seq T ((aD.of (m:=0) T dz rz bf aH e1).up (by decide)) ((aD.of (m:=52) T dz rz bf ok (GS h)).up (by decide))) (Ec x) rfl,by kernel_rfl,lB0 (by kernel_rfl)⟩
 |false=>
  rw[q] at e2
  exact⟨_, .row (m:=71) T dz rz ((aD.of (m:=0) T dz rz bf aH e2).up (by decide)) (Ec x) rfl,by kernel_rfl,lB0 (by kernel_rfl)⟩
end
noncomputable def lC(t:Bool)(a:Nat):Nat:=match a with
 |0=>cond t 4 5
 |1=>cond t 5 4
 |a+2=>a+2
noncomputable def ee(t:Bool)(l:FF):Bool:=l.all λq=>Nat.beq (lC t q.1) q.2
noncomputable def ny(F L:FF):Bool:=(ee true F&&ee true L)||(ee false F&&ee false L)
theorem FK:∀F∈Fs,∀a∈g6,∀b∈gY,∀t:Bool,(ee t F&&Nat.beq (lC t a) b)=((cY F a b).1&&ee t (cY F a b).2):=by decide +kernel
theorem Cj:∀F∈Fs,ny F []=true:=by decide +kernel
theorem BV{L:FF}(M:FF)(h:∀q∈L,q.1∈g6∧q.2∈gY):∀F∈Fs,ny F (L++M)=((cV eQ F L).1&&ny (cV eQ F L).2 M):=by
 induction L with
 |nil=>exact λF _=>(Bool.true_and _).symm
 |cons q L ih=>
  intro F hF
  have e:=FK F hF _ (h q (.head _)).1 _ (h q (.head _)).2
  have z:=ih (λq h'=>h q (.tail _ h')) _ (r7 F hF _ (h q (.head _)).1 _ (h q (.head _)).2)
  show((ee true F&&(Nat.beq (lC true q.1) q.2&&ee true (L++M)))||(ee false F&&(Nat.beq (lC false q.1) q.2&&ee false (L++M))))=((Bool.rec (motive:=λ_=>Bool×FF) (false,(cY F q.1 q.2).2) (cV eQ (cY F q.1 q.2).2 L) (cY F q.1 q.2).1).1&&ny (Bool.rec (motive:=λ_=>Bool×FF) (false,(cY F q.1 q.2).2) (cV eQ (cY F q.1 q.2).2 L) (cY F q.1 q.2).1).2 M)
  rw[←Bool.and_assoc,←Bool.and_assoc,e true,e false]
  cases (cY F q.1 q.2).1 with
  |false=>rfl
  |true=>exact z
noncomputable def gR(q:Nat×Nat):Bool:=Nat.beq (gL q.1) (gK q.2)
noncomputable def dw(q:Nat×Nat):FF:=(bU q.1).zip (cD q.2)
noncomputable def sY(q:Nat×Nat):Prop:=q.1∈ah 35∧q.2∈ah 54
theorem Gk{ps:FF}(h:∀q∈ps,sY q):∀F∈Fs,(cV gc F ps).1=(ps.all gR&&ny F (ps.flatMap dw)):=by
 induction ps with
 |nil=>exact λF hF=>(Cj F hF).symm
 |cons q ps ih=>
  intro F hF
  have z:=ui (h q (.head _)).1 (h q (.head _)).2
  have e:=BV (ps.flatMap dw) z F hF
  have i:=ih (λq h'=>h q (.tail _ h')) _ (w2 z F hF)
  show(Bool.rec (motive:=λ_=>Bool×FF) (false,(gc F q).2) (cV gc (gc F q).2 ps) (gc F q).1).1=((gR q&&ps.all gR)&&ny F (dw q++ps.flatMap dw))
  rw[show ny F (dw q++ps.flatMap dw)=_ from e,show gc F q=Bool.rec (false,F) (cV eQ F (dw q)) (gR q) from rfl]
  cases gR q with
  |false=>rfl
  |true=>
   rw[Bool.true_and]
   show(Bool.rec (motive:=λ_=>Bool×FF) (false,(cV eQ F (dw q)).2) (cV gc (cV eQ F (dw q)).2 ps) (cV eQ F (dw q)).1).1=_
   cases w:(cV eQ F (dw q)).1 with
   |false=>exact(by rw[show(cV eQ F ((bU q.1).zip (cD q.2))).1=false from w,Bool.false_and,Bool.and_false])
   |true=>exact i.trans (by rw[show(cV eQ F ((bU q.1).zip (cD q.2))).1=true from w,Bool.true_and])
noncomputable def fx(ps:FF):Bool:=ps.all gR&&(ee true (ps.flatMap dw)||ee false (ps.flatMap dw))
theorem Ct{ps:FF}(h:∀q∈ps,sY q):(cV gc [] ps).1=fx ps:=Gk h [] (.head _)
theorem lH(q:Nat×Nat)(l:FF):fx (l++[q])=fx (q::l):=by
 have a:∀t:Bool,ee t ((l++[q]).flatMap dw)=ee t ((q::l).flatMap dw):=λt=>by
  unfold ee
  rw[List.flatMap_append,show [q].flatMap dw=dw q from List.append_nil _,List.all_append,show(q::l).flatMap dw=dw q++l.flatMap dw from rfl,List.all_append,Bool.and_comm]
 unfold fx
 rw[a,a,List.all_append,Bool.and_comm (l.all gR)]
 exact cA0 (λb=>(b&&l.all gR)&&_) (Bool.and_true _)
noncomputable def xV(a:Nat):AV:=match a with
 |0=> .str 39
 |1=> .str 195
 |_=> .tup [.str 8, .bool false, .str 39]
noncomputable def jB(s p:Nat):AV:=match s % 3 with
 |0=>xV (s / 3)
 |1=> .tup [.str 8, .bool true,xV (s / 3)]
 |_=> .tup [.str 13, .obj p]
noncomputable def Fd(a:Nat):List AV:=[xV a, .tup [.str 8, .bool false,xV a]]
noncomputable def qZ(s i:Nat):ai:=match s % 3 with
 |0=> .cell (some (.obj i))
 |1=> .cell (some (.obj i))
 |_=> .list (Fd (s / 3))
noncomputable def cr(i:Nat):Nat:=[202,203,168,196,204,205].getD i 0
noncomputable def P8(r:ax AV)(_:ac):List Nat:=ax.rec (λa=>[(ob (tV a) λl=>ob (aY l 1) oV).getD 1]) (λ_=>[]) r
noncomputable def hH(k c:Nat):Nat:=Bool.rec (gK c) (gL c) (Nat.beq k 1)
noncomputable def j5(k c:Nat):List Nat:=Bool.rec (cD c) (bU c) (Nat.beq k 1)
noncomputable def iZ(k:Nat):Nat:=Bool.rec 54 35 (Nat.beq k 1)
noncomputable def EQ(N i k c:Nat)(vs:List Nat):Option (ax AV×eJ):=cv 1 N (aX [i]) P8 [0] ((R tabs bR aJ 40).c (.g 420) [bo k c, .obj 0] (au [bI vs]))
noncomputable def Ik(a b c d e f:Nat):List (List Nat):=[[],[a],[a,b],[a,b,c],[a,b,c,d],[a,b,c,d,e],[a,b,c,d,e,f]]
theorem f9{α β:Type}{f g:α→β}{a:α}{l:List α}(h:f a=g a)(t:l.map f=l.map g):(a::l).map f=(a::l).map g:=by rw[List.map_cons,List.map_cons,h,t]
noncomputable abbrev tX(N i:Nat)(vs:List Nat):Prop:=[1,2].map (λk=>(ah (iZ k)).map λc=>EQ N i k c vs)=[1,2].map λk=>(ah (iZ k)).map λc=>some (.ok (jB (hH k c) N),aG 1 (au [bI vs]) [(0,bI (vs++(j5 k c).map cr))] [qZ (hH k c) i])
theorem OR(N i:Nat):tX N i []:=by kernel_rfl
theorem Oz(N i a:Nat):tX N i [a]:=by kernel_rfl
theorem Ow(N i a b:Nat):tX N i [a,b]:=by kernel_rfl
theorem OD(N i a b c:Nat):tX N i [a,b,c]:=by kernel_rfl
theorem OP(N i a b c d:Nat):tX N i [a,b,c,d]:=by kernel_rfl
theorem Po(N i a b c d e:Nat):tX N i [a,b,c,d,e]:=by kernel_rfl
theorem OS(N i a b c d e f:Nat):tX N i [a,b,c,d,e,f]:=by kernel_rfl
theorem Hb(N i a b c d e f:Nat):(Ik a b c d e f).map (λvs=>[1,2].map λk=>(ah (iZ k)).map λc=>EQ N i k c vs)=(Ik a b c d e f).map λvs=>[1,2].map λk=>(ah (iZ k)).map λc=>some (.ok (jB (hH k c) N),aG 1 (au [bI vs]) [(0,bI (vs++(j5 k c).map cr))] [qZ (hH k c) i]):=
 f9 (OR N i) (f9 (Oz N i a) (f9 (Ow N i a b) (f9 (OD N i a b c) (f9 (OP N i a b c d) (f9 (Po N i a b c d e) (f9 (OS N i a b c d e f) rfl))))))
section
variable {c s p:Nat}{vs:List Nat}
theorem Ht(vs:List Nat)(h:vs.length≤6):∃a b c d e f,vs∈Ik a b c d e f:=match vs,h with
 |[],_=>⟨0,0,0,0,0,0, .head _⟩
 |[a],_=>⟨a,0,0,0,0,0, .tail _ (.head _)⟩
 |[a,b],_=>⟨a,b,0,0,0,0, .tail _ (.tail _ (.head _))⟩
 |[a,b,c],_=>⟨a,b,c,0,0,0, .tail _ (.tail _ (.tail _ (.head _)))⟩
 |[a,b,c,d],_=>⟨a,b,c,d,0,0, .tail _ (.tail _ (.tail _ (.tail _ (.head _))))⟩
 |[a,b,c,d,e],_=>⟨a,b,c,d,e,0, .tail _ (.tail _ (.tail _ (.tail _ (.tail _ (.head _)))))⟩
 |[a,b,c,d,e,f],_=>⟨a,b,c,d,e,f, .tail _ (.tail _ (.tail _ (.tail _ (.tail _ (.tail _ (.head _))))))⟩
 |_::_::_::_::_::_::_::_,h=>absurd h (Nat.not_le.mpr (Nat.le_add_left 7 _))
noncomputable def rg(σ:ac)(i k c:Nat)(vs:List Nat):ac:=(σ.set i (bI (vs++(j5 k c).map cr))).push (qZ (hH k c) i)
theorem NL:∀k∈[1,2],∀c∈ah (iZ k),(bu k c).isSome=true:=by decide +kernel
theorem GK(T:aE K)(dz:DZ w K)(rz:RZ w K)(hk:k∈[1,2])(hc:c∈ah (iZ k))(hl:vs.length≤6)(hi:σ.get i=some (bI vs))(hr:aK σ [i]=true):am w K 40 (.g 420) [.tok k c, .obj i] σ [(.ok (jB (hH k c) σ.n),rg σ i k c vs)]:=
 .pre (.cons pY (.cons .rfl .nil)) ((Ht vs hl).elim λr0 y=>y.elim λr1 y=>y.elim λr2 y=>y.elim λr3 y=>y.elim λr4 y=>y.elim λr5 y=>
  am.run (m:=0) (k:=40) (ch:=[(0,bI (vs++(j5 k c).map cr))]) (nw:=[qZ (hH k c) i]) T dz rz bf aH (l:=[bI vs]) (is:=[i]) rfl ⟨⟨_,hi, .list (.strs _)⟩,trivial⟩ hr (.g _) (.cons (.refl (y8 (NL k hk c hc))) (.cons (.obj 0 ⟨rfl,rfl⟩) .nil)) (az (az (az (Hb σ.n i r0 r1 r2 r3 r4 r5) y) hk) hc))
noncomputable def xT(o:Option ai):List Nat:=(((lO o).getD []).map λa=>(sV a).getD 0)
theorem B0(l:List Nat):xT (some (bI l))=l:=List.map_map.trans (List.map_id l)
noncomputable def Dc:dY:=pp (λvs σ=>(Kn vs,A3 (vs.getD 0 .none),(oV (vs.getD 1 .none)).getD 0,xT (σ.get ((oV (vs.getD 1 .none)).getD 0)),σ)) (λq:Nat×Nat×Nat×List Nat×ac=>([.tok q.1 q.2.1, .obj q.2.2.1],q.2.2.2.2)) (λq=>q.1∈[1,2]∧q.2.1∈ah (iZ q.1)∧q.2.2.2.1.length≤6∧q.2.2.2.2.get q.2.2.1=some (bI q.2.2.2.1)∧aK q.2.2.2.2 [q.2.2.1]=true)
 λq=>[(.ok (jB (hH q.1 q.2.1) q.2.2.2.2.n),rg q.2.2.2.2 q.2.2.1 q.1 q.2.1 q.2.2.2.1)]
theorem HE(T:aE K)(dz:DZ w K)(rz:RZ w K):bK w K 40 (bh 420 Dc):=fG λq h=>GK T dz rz h.1 h.2.1 h.2.2.1 h.2.2.2.1 h.2.2.2.2
theorem FR(hk:k∈[1,2])(hc:c∈ah (iZ k))(hl:vs.length≤6)(hi:σ.get i=some (bI vs))(hr:aK σ [i]=true):Dc [.tok k c, .obj i] σ=some (some [(.ok (jB (hH k c) σ.n),rg σ i k c vs)]):=
 eA (c:=(k,c,i,vs,σ)) (cA0 (λv=>(k,c,i,v,σ)) ((cA0 xT hi).trans (B0 vs))) ⟨hk,hc,hl,hi,hr⟩
noncomputable def nZ(σ:ac)(s:Nat)(v:AV):Prop:=s<9∧∃p i,v=jB s p∧9≤p∧p<σ.n∧σ.get p=some (qZ s i)
theorem nZ.mono{v:AV}(n:σ.n≤σ'.n)(g:∀j,9≤j→j<σ.n→σ'.get j=σ.get j)(h:nZ σ s v):nZ σ' s v:=h.2.elim λp y=>y.elim λi y=>⟨h.1,p,i,y.1,y.2.1,lT0 y.2.2.1 n,(g p y.2.1 y.2.2.1).trans y.2.2.2⟩
noncomputable def iA(σ:ac)(ss:List Nat)(vs:List AV):Prop:=List.rec (motive:=λ_=>List AV→Prop) (λvs=>vs=[]) (λs _ ih vs=>∃v r,vs=v::r∧nZ σ s v∧ih r) ss vs
theorem iA.mono{ss:List Nat}(n:σ.n≤σ'.n)(g:∀j,9≤j→j<σ.n→σ'.get j=σ.get j):∀{vs},iA σ ss vs→iA σ' ss vs:=by
 induction ss with
 |nil=>exact λh=>h
 |cons s ss ih=>exact λh=>h.imp λv h=>h.imp λr h=>⟨h.1,h.2.1.mono n g,ih h.2.2⟩
theorem iA.snoc{ss:List Nat}{v:AV}(b:nZ σ s v):∀{vs},iA σ ss vs→iA σ (ss++[s]) (vs++[v]):=by
 induction ss with
 |nil=>exact λ{vs} h=>by rw[show vs=[] from h]; exact⟨v,[],rfl,b,rfl⟩
 |cons t ss ih=>exact λ{vs} h=>h.elim λu h=>h.elim λr h=>h.1▸⟨u,r++[v],rfl,h.2.1,ih h.2.2⟩
theorem iA.len{ss:List Nat}:∀{vs},iA σ ss vs→vs.length=ss.length:=by
 induction ss with
 |nil=>exact λ{vs} h=>cA0 List.length (show vs=[] from h)
 |cons t ss ih=>exact λ{vs} h=>h.elim λu h=>h.elim λr h=>h.1▸cA0 Nat.succ (ih h.2.2)
end
section
variable {f:AV→AV→Option Bool}{x y:AV}{l m:List AV}{b c:Bool}{p q:Nat}
theorem eD(h1:f x y=some b)(h2:hU f l m=some c):hU f (x::l) (y::m)=some (b&&c):=oq h1 (oq h2 rfl)
theorem Eb(g:σ.get p=some (.list l)){v:VK}(h:vk σ y=some v):eqv σ (k+1) (.obj p) y=eM (eqv σ k) (.lst p l) v:=by
 show ob (ob (lO (σ.get p)) λl=>some (VK.lst p l)) (λx=>ob (vk σ y) λy=>eM (eqv σ k) x y)=_
 rw[g,h]; rfl
theorem Kg(g:σ.get q=some (.list m)){v:VK}(h:vk σ x=some v):eqv σ (k+1) x (.obj q)=eM (eqv σ k) v (.lst q m):=by
 show ob (vk σ x) (λx=>ob (ob (lO (σ.get q)) λl=>some (VK.lst q l)) λy=>eM (eqv σ k) x y)=_
 rw[g,h]; rfl
theorem tt(g:σ.get p=some (.list l))(g':σ.get q=some (.list m)):eqv σ (k+1) (.obj p) (.obj q)=hU (eqv σ k) l m:=Eb g (v:= .lst q m) (by
 show ob (lO (σ.get q)) _=_
 rw[g']; rfl)
noncomputable def r9:List Nat:=[0,3,6,1,4,7]
noncomputable def a3:List Nat:=[0,1,2]
theorem MH(σ:ac)(p q:Nat):r9.map (λs=>r9.map λt=>eqv σ 11 (jB s p) (jB t q))=r9.map λs=>r9.map λt=>some (Nat.beq s t):=by kernel_rfl
theorem Mm(σ:ac):a3.map (λa=>a3.map λb=>hU (eqv σ 9) (Fd a) (Fd b))=a3.map λa=>a3.map λb=>some (Nat.beq (a * 3+2) (b * 3+2)):=by kernel_rfl
theorem s9:(∀s<9,s∈r9∨∃a∈a3,s=a * 3+2)∧∀a∈a3,∀t∈r9,Nat.beq (a * 3+2) t=false∧Nat.beq t (a * 3+2)=false:=by decide
theorem xU(p i:Nat):a3.map (λa=>(jB (a * 3+2) p,qZ (a * 3+2) i))=a3.map λa=>(.tup [.str 13, .obj p], .list (Fd a)):=rfl
theorem Et(g:σ.get p=some (.list l)):∀t∈r9,eqv σ 11 (.tup [.str 13, .obj p]) (jB t q)=some false∧eqv σ 11 (jB t q) (.tup [.str 13, .obj p])=some false:=
 have o:∀{b r},eqv σ 11 (.tup [.str 13, .obj p]) (.tup [.str 8, .bool b,r])=some false∧eqv σ 11 (.tup [.str 8, .bool b,r]) (.tup [.str 13, .obj p])=some false:=λ{b r}=>
  ⟨(show hU (eqv σ 10) [.str 13, .obj p] [.str 8, .bool b,r]=_ from eD (b:=false) (c:=false&&false) rfl (eD (Eb (v:= .bool b) g rfl) rfl)),(show hU (eqv σ 10) [.str 8, .bool b,r] [.str 13, .obj p]=_ from eD (b:=false) (c:=false&&false) rfl (eD (Kg (v:= .bool b) g rfl) rfl))⟩
 List.forall_mem_cons.mpr ⟨⟨rfl,rfl⟩,List.forall_mem_cons.mpr ⟨⟨rfl,rfl⟩,List.forall_mem_cons.mpr ⟨o,List.forall_mem_cons.mpr ⟨o,List.forall_mem_cons.mpr ⟨o,List.forall_mem_singleton.mpr o⟩⟩⟩⟩⟩
theorem JO{s t:Nat}{v u:AV}(h1:nZ σ s v)(h2:nZ σ t u):eqv σ 11 v u=some (Nat.beq s t):=h1.2.elim λp y=>y.elim λi y=>h2.2.elim λq z=>z.elim λj z=>by
 rw[y.1,z.1]
 refine(s9.1 s h1.1).elim (λa=>(s9.1 t h2.1).elim (λb=>az (az (MH σ p q) a) b) λb=>b.elim λb hb=>?_) λa=>a.elim λa ha=>(s9.1 t h2.1).elim (λb=>?_) λb=>b.elim λb hb=>?_
 ·have f:=Prod.mk.inj (az (xU q j) hb.1)
  rw[hb.2,f.1,(s9.2 b hb.1 s a).2]
  exact(Et (z.2.2.2.trans (cA0 some (hb.2▸f.2))) s a).2
 ·have f:=Prod.mk.inj (az (xU p i) ha.1)
  rw[ha.2,f.1,(s9.2 a ha.1 t b).1]
  exact(Et (y.2.2.2.trans (cA0 some (ha.2▸f.2))) t b).1
 ·have f:=Prod.mk.inj (az (xU p i) ha.1)
  have f':=Prod.mk.inj (az (xU q j) hb.1)
  rw[ha.2,hb.2,f.1,f'.1]
  exact(show hU (eqv σ 10) [.str 13, .obj p] [.str 13, .obj q]=_ from eD (b:=true) rfl (eD (c:=true) ((tt (y.2.2.2.trans (cA0 some (ha.2▸f.2))) (z.2.2.2.trans (cA0 some (hb.2▸f'.2)))).trans (az (az (Mm σ) ha.1) hb.1)) rfl)).trans (cA0 some (Bool.and_true _))
noncomputable def dK(l m:List Nat):Bool:=List.rec (motive:=λ_=>List Nat→Bool) bC (λa _ ih m=>List.rec false (λb m _=>Nat.beq a b&&ih m) m) l m
theorem F6{ss:List Nat}:∀{ts vs us},iA σ ss vs→iA σ ts us→hU (eqv σ 11) vs us=some (dK ss ts):=by
 induction ss with
 |nil=>
  intro ts vs us h k
  rw[show vs=[] from h]
  cases ts with
  |nil=>rw[show us=[] from k]; rfl
  |cons=>exact k.elim λu k=>k.elim λr k=>by rw[k.1]; rfl
 |cons s ss ih=>
  intro ts vs us h k
  refine h.elim λv h=>h.elim λr h=>?_
  rw[h.1]
  cases ts with
  |nil=>rw[show us=[] from k]; rfl
  |cons t ts=>exact k.elim λu k=>k.elim λr' k=>by rw[k.1]; exact eD (JO h.2.1 k.2.1) (ih h.2.2 k.2.2)
end
section
variable {is:List Nat}{o:ai}
theorem Ar(h:aK σ []=true):aK σ is=true:=List.all_eq_true.mpr λi hi=>Bool.or_eq_true_iff.mpr (.inr ((kI h (List.mem_range.mp hi)).elim (λz=>absurd z List.not_mem_nil) id))
theorem yB(ho:nr (some o)=true)(h:aK σ is=true):aK (σ.push o) is=true:=List.all_eq_true.mpr λi hi=>Bool.or_eq_true_iff.mpr (by
 rw[kn]
 by_cases z:σ.n=i
 ·rw[if_pos z]; exact .inr ho
 ·rw[if_neg z]; exact(kI h (Nat.lt_of_le_of_ne (Nat.le_of_lt_succ (List.mem_range.mp hi)) (Ne.symm z))).imp qw id)
theorem Gz(s i:Nat):nr (some (qZ s i))=true:=by unfold qZ; split <;> rfl
theorem CG{sp:Sp}{ss:Ss}{ev:Ev}{e a:ME}{pa p p':Pos}{l l':List AV}{v:AV}(h0:Nat.beq pa.endLine p.line=true)(h1:(R tabs sp ss k).e ev e σ=af (.obj i) σ)(hl:σ.get i=some (.list l))(h3:(R tabs sp ss k).e ev a σ=af v σ1)(hl':σ1.get i=some (.list l'))(hn:l'.length≤4000) :
  ba tabs (R tabs sp ss (k+1)) ev (.expr (.meth e 0 [a] pa p) p') σ=af (.next,ev.loc) (σ1.set i (.list (l'++[v]))):=
 (gh rfl).trans (bq (ij (by rw[h0]; rfl) h1 (vi hl rfl) (mr h3) rfl (vd hl' hn)) rfl)
end
section
noncomputable abbrev RF(n:Nat):=R tabs (bh 420 Dc) aJ n
noncomputable def cI(loc:ao):Ev:=⟨424,nR.sc,loc,[(27,3)]⟩
noncomputable def dH:ao:=[(112, .obj 0),(125, .obj 1),(199, .obj 2),(201, .obj 8),(200, .obj 5),(126, .obj 4)]
noncomputable def yV:MS:=(.expr (.meth (.sub (.name 201 (pz 370 8 14)) (.int 0 (pz 370 15 16)) (pz 370 8 17)) 0 [(.call (.name 198 (pz 370 25 34)) [(.sub (.name 112 (pz 370 35 41)) (.name 100 (pz 370 42 44)) (pz 370 35 45)),(.name 126 (pz 370 47 51))] (pz 370 25 52))] (pz 370 8 24) (pz 370 8 53)) (pz 370 8 53))
noncomputable def xF:MS:=(.expr (.meth (.sub (.name 201 (pz 371 8 14)) (.int 1 (pz 371 15 16)) (pz 371 8 17)) 0 [(.call (.name 198 (pz 371 25 34)) [(.sub (.name 125 (pz 371 35 38)) (.name 100 (pz 371 39 41)) (pz 371 35 42)),(.name 200 (pz 371 44 49))] (pz 371 25 50))] (pz 371 8 24) (pz 371 8 51)) (pz 371 8 51))
structure Bs(σ:ac)(P:FF):Prop where
 g0:σ.get 0=some (.list (P.map λq=> .tok 1 q.1))
 g1:σ.get 1=some (.list (P.map λq=> .tok 2 q.2))
 g2:σ.get 2=some (.list [.none, .none])
 c3:∃u,σ.get 3=some (.cell u)
 g8:σ.get 8=some (.list [.obj 6, .obj 7])
 r:aK σ []=true
 n:9≤σ.n
noncomputable def iU(k:Nat)(cs:List Nat):List Nat:=(cs.flatMap (j5 k)).map cr
noncomputable def Hf(σ:ac)(i a k:Nat)(cs:List Nat):Prop:=σ.get i=some (bI (iU k cs))∧∃va,σ.get a=some (.list va)∧iA σ (cs.map (hH k)) va
variable {P:FF}{a i' a' k' c:Nat}{cs cs':List Nat}
theorem vQ:∀k∈[1,2],∀c∈ah (iZ k),(j5 k c).length≤3∧hH k c<9:=by decide +kernel
theorem Fx{α β:Type}{f:α→List β}{m:Nat}{l:List α}(h:∀x∈l,(f x).length≤m):(l.flatMap f).length≤m * l.length:=by
 induction l with
 |nil=>exact Nat.zero_le _
 |cons c l ih=>rw[List.flatMap_cons,List.length_append,List.length_cons,Nat.mul_succ,Nat.add_comm (m * _)]; exact Nat.add_le_add (h c (.head _)) (ih λc h'=>h c (.tail _ h'))
theorem Hw(hk:k∈[1,2])(h:∀c∈cs,c∈ah (iZ k)):(iU k cs).length≤3 * cs.length:=by
 unfold iU
 rw[List.length_map]
 exact Fx λc hc=>(vQ k hk c (h c hc)).1
theorem sO{ev:Ev}{S:ME}{as:List ME}{px p1 pa p p':Pos}(B:Bs σ P)(H:Hf σ i a k cs)(H':Hf σ i' a' k' cs')(ne:∀j∈[0,1,2,3,8,i',a'],i≠j∧a≠j∧j<9)(ia:i≠a∧i<9∧a<9)(hk:k∈[1,2])(hcs:∀c∈cs,c∈ah (iZ k))(hc:c∈ah (iZ k))(hl:cs.length≤2)
  (h0:Nat.beq pa.endLine p.line=true) (h1:(RF (n+2)).e ev S σ=af (.obj a) σ) (h2:(RF (n+1)).e ev (.name 198 px) σ=af (.g 420) σ) (hz:pS tabs ev (.name 198 px) as=none) (h3:fw (RF (n+1)) ev as σ=af [.tok k c, .obj i] σ) :
  ∃σ',ba tabs (RF (n+3)) ev (.expr (.meth S 0 [.call (.name 198 px) as p1] pa p) p') σ=af (.next,ev.loc) σ'∧Bs σ' P∧Hf σ' i a k (cs++[c])∧Hf σ' i' a' k' cs':=
 H.2.elim λva ha=>H'.2.elim λvb hb=>by
  have vl:va.length≤2:=ha.2.len.trans (List.length_map _)▸hl
  have rl:=lE0 (Hw hk hcs) (Nat.mul_le_mul_left 3 hl)
  have lt:∀{j},j<9→j<σ.n:=λh=>lT0 h B.n
  have g:∀{j u},j<σ.n→i≠j→a≠j→((rg σ i k c (iU k cs)).set a u).get j=σ.get j:=λh x y=>(ac.get_set_ne _ _ _ y).trans ((ac.get_push_ne (σ.set i _) _ (Nat.ne_of_gt h)).trans (ac.get_set_ne _ _ _ x))
  have ga:(rg σ i k c (iU k cs)).get a=some (.list va):=(ac.get_push_ne (σ.set i _) _ (Nat.ne_of_gt (lt ia.2.2))).trans ((ac.get_set_ne _ _ _ ia.1).trans ha.1)
  have gj:∀{u} j,j∈[0,1,2,3,8,i',a']→((rg σ i k c (iU k cs)).set a u).get j=σ.get j:=λj hj=>g (lt (ne j hj).2.2) (ne j hj).1 (ne j hj).2.1
  have mo:∀{ss vs u},iA σ ss vs→iA ((rg σ i k c (iU k cs)).set a u) ss vs:=λh=>h.mono (Nat.le_succ _) λj x y=>g y (Nat.ne_of_lt (lT0 ia.2.1 x)) (Nat.ne_of_lt (lT0 ia.2.2 x))
  have e4:some (bI (iU k cs++(j5 k c).map cr))=some (bI (iU k (cs++[c]))):=by
   unfold iU
   rw[List.flatMap_append,List.map_append,show [c].flatMap (j5 k)=j5 k c from List.append_nil _]
  have e6:iA ((rg σ i k c (iU k cs)).set a (.list (va++[jB (hH k c) σ.n]))) ((cs++[c]).map (hH k)) (va++[jB (hH k c) σ.n]):=by
   rw[List.map_append]
   exact iA.snoc ⟨(vQ k hk c hc).2,σ.n,i,rfl,B.n,Nat.lt_succ_self _,(ac.get_set_ne _ _ _ (Nat.ne_of_lt (lt ia.2.2))).trans (ac.get_push_self (σ.set i _) _)⟩ (mo ha.2)
  exact⟨_,CG h0 h1 ha.1 (bt hz h2 h3 rfl (cg (FR hk hc rl H.1 (Ar B.r)))) ga (lE0 vl (by decide)),⟨(gj 0 (.head _)).trans B.g0,(gj 1 (.tail _ (.head _))).trans B.g1,(gj 2 (.tail _ (.tail _ (.head _)))).trans B.g2,B.c3.imp λu h=>(gj 3 (.tail _ (.tail _ (.tail _ (.head _))))).trans h,(gj 8 (.tail _ (.tail _ (.tail _ (.tail _ (.head _)))))).trans B.g8,gA rfl (yB (Gz _ _) (gA rfl B.r)),Nat.le_succ_of_le B.n⟩,
   ⟨(ac.get_set_ne _ _ _ (Ne.symm ia.1)).trans ((ac.get_push_ne (σ.set i _) _ (Nat.ne_of_gt (lt ia.2.1))).trans ((ac.get_set_self _ _ _).trans e4)),_,ac.get_set_self _ _ _,e6⟩,(gj i' (.tail _ (.tail _ (.tail _ (.tail _ (.tail _ (.head _))))))).trans H'.1,vb,(gj a' (.tail _ (.tail _ (.tail _ (.tail _ (.tail _ (.tail _ (.head _)))))))).trans hb.1,mo hb.2⟩
end
theorem Ga{r:aP}{ev:Ev}{t:ME}{b:List MS}{it:It}{I:Nat→ao→ac→Prop}(hgo:gV it t=true)(h:∀k loc σ,k<n→I k loc σ→∃v loc1 σ1 loc2 σ2,du it k σ=some (some v)∧cR r ev 5 loc t v σ=af loc1 σ1∧r.s { ev with loc:=loc1 } b σ1=af (.next,loc2) σ2∧I (k+1) loc2 σ2)(he:∀loc σ,I n loc σ→du it n σ=some none)(j:Nat) :
  ∀k m loc σ,k+j=n→j<m→I k loc σ→∃loc' σ',I n loc' σ'∧forLoop r ev t b it m k loc σ=af (.next,loc') σ':=by
 induction j with
 |zero=>exact λk m loc σ e hm hi=>match m,hm with
  |m+1,_=>by cases (show k=n from e); exact⟨loc,σ,hi,ff hgo (he loc σ hi)⟩
 |succ j ih=>exact λk m loc σ e hm hi=>match m,hm with
  |m+1,hm=>(h k loc σ (e▸Nat.lt_add_of_pos_right (Nat.succ_pos j)) hi).elim λv y=>y.elim λloc1 y=>y.elim λσ1 y=>y.elim λloc2 y=>y.elim λσ2 y=>(ih (k+1) m loc2 σ2 ((Nat.succ_add_eq_add_succ k j).trans e) (Nat.lt_of_succ_lt_succ hm) y.2.2.2).imp λ_ z=>z.imp λ_ z=>⟨z.1,dB hgo y.1 y.2.1 (bq y.2.2.1 (show jo _ (.next,_) _=_ from z.2))⟩
section
variable {P:FF}
noncomputable def Bf(P:FF)(j:Nat)(loc:ao)(σ:ac):Prop:=Sub dH loc∧Bs σ P∧Hf σ 4 6 1 ((P.take j).map (·.1))∧Hf σ 5 7 2 ((P.take j).map (·.2))
theorem zp{ev:Ev}{j:Nat}{x y:Nat}{p1 p2 p3:Pos}{l:List AV}{v:AV}(h1:look x ev.sc=some .local)(h2:look x ev.loc=some (.obj i))(h3:look y ev.sc=some .local)(h4:look y ev.loc=some (.int (.ofNat j)))(g:σ.get i=some (.list l))(hv:aY l j=some v)(hj:j≤4000):(RF (n+2)).e ev (.sub (.name x p1) (.name y p2) p3) σ=af v σ:=
 ll (ck (oq h1 h2)) (ck (oq h3 h4)) (by
  show aO none (aO (ob (lO (σ.get i)) λl=>gd (bc j) (aY l j)) _)=_
  rw[g]
  show aO none (aO (gd (bc j) (aY l j)) _)=_
  rw[iP hj,hv]; rfl)
theorem mz{ev:Ev}{a:Nat}{x:Nat}{p1 p2 p3:Pos}(h1:look x ev.sc=some .local)(h2:look x ev.loc=some (.obj 8))(g:σ.get 8=some (.list [.obj 6, .obj 7]))(hk:aY [AV.obj 6, .obj 7] k=some (.obj a))(hj:bc k=true):(RF (n+2)).e ev (.sub (.name x p1) (.int (.ofNat k) p2) p3) σ=af (.obj a) σ:=
 ll (ck (oq h1 h2)) rfl (by
  show aO none (aO (ob (lO (σ.get 8)) λl=>gd (bc k) (aY l k)) _)=_
  rw[g]
  show aO none (aO (gd (bc k) (aY [AV.obj 6, .obj 7] k)) _)=_
  rw[hj,hk]; rfl)
theorem sg{α β:Type}{l:List α}{f:α→β}{j:Nat}{q:α}(h:aY l j=some q):(l.take (j+1)).map f=(l.take j).map f++[f q]:=by
 rw[List.take_add_one,←d5,h,List.map_append]; rfl
theorem B7(hP:∀q∈P,sY q)(h3:P.length≤3){j:Nat}{loc:ao}(hj:j<P.length)(I:Bf P j loc σ):∃loc' σ',(RF 13).s (cI (put 100 (.int (.ofNat j)) loc)) [yV,xF] σ=af (.next,loc') σ'∧Bf P (j+1) loc' σ':=by
 have S:Sub dH (put 100 (.int (.ofNat j)) loc):= .put rfl I.1
 have hq:aY P j=some P[j]:=(d5 P j).trans (List.getElem?_eq_getElem hj)
 have q:=hP _ (List.getElem_mem hj)
 have j4:j≤4000:=lE0 (Nat.le_of_lt hj) (lE0 h3 (by decide))
 have at':look 100 (put 100 (.int (.ofNat j)) loc)=some (.int (.ofNat j)):=bJ 100 _ loc
 have j2:j≤2:=Nat.le_of_lt_succ (lT0 hj h3)
 have tl:∀f:Nat×Nat→Nat,((P.take j).map f).length≤2:=λf=>by rw[List.length_map,List.length_take]; exact lE0 (Nat.min_le_left _ _) j2
 have tm:∀(f:Nat×Nat→Nat)(C:Nat→Prop),(∀q∈P,C (f q))→∀c∈(P.take j).map f,C c:=λf C h c hc=>(List.mem_map.mp hc).elim λq y=>y.2▸h q (List.mem_of_mem_take y.1)
 exact(show ∃σ1,ba tabs (RF 12) (cI (put 100 (.int (.ofNat j)) loc)) yV σ=af (.next,put 100 (.int (.ofNat j)) loc) σ1∧Bs σ1 P∧Hf σ1 4 6 1 ((P.take j).map (·.1)++[P[j].1])∧Hf σ1 5 7 2 ((P.take j).map (·.2)) from sO (n:=9) I.2.1 I.2.2.1 I.2.2.2 (by decide) (by decide) (.head _) (tm _ _ λq hq=>(hP q hq).1) q.1 (tl _) rfl (mz (k:=0) (a:=6) rfl (S 201 _ rfl) I.2.1.g8 rfl rfl) (by kernel_rfl) (by kernel_rfl)
  (eE (zp rfl (S 112 _ rfl) rfl at' I.2.1.g0 ((dE _ _ _).trans (cA0 (Option.map _) hq)) j4) (eE (ck (S 126 _ rfl)) rfl))).elim λσ1 y=>
  (show ∃σ2,ba tabs (RF 11) (cI (put 100 (.int (.ofNat j)) loc)) xF σ1=af (.next,put 100 (.int (.ofNat j)) loc) σ2∧Bs σ2 P∧Hf σ2 5 7 2 ((P.take j).map (·.2)++[P[j].2])∧Hf σ2 4 6 1 ((P.take j).map (·.1)++[P[j].1]) from sO (n:=8) y.2.1 y.2.2.2 y.2.2.1 (by decide) (by decide) (.tail _ (.head _)) (tm _ _ λq hq=>(hP q hq).2) q.2 (tl _) rfl (mz (k:=1) (a:=7) rfl (S 201 _ rfl) y.2.1.g8 rfl rfl) (by kernel_rfl) (by kernel_rfl)
  (eE (zp rfl (S 125 _ rfl) rfl at' y.2.1.g1 ((dE _ _ _).trans (cA0 (Option.map _) hq)) j4) (eE (ck (S 200 _ rfl)) rfl))).elim λσ2 z=>
  ⟨_,σ2,aS (loc:=put 100 (.int (.ofNat j)) loc) rfl y.1 (aQ rfl z.1),S,z.2.1,sg (f:=(·.1)) hq▸z.2.2.2,sg (f:=(·.2)) hq▸z.2.2.1⟩
end
section
noncomputable def zQ(t:Bool):List (AV×AV):=[(.str 202, .str (cond t 204 205)),(.str 203, .str (cond t 205 204))]
noncomputable def AP:ME:=(.meth (.name 27 (pz 375 12 17)) 3 [(.name 18 (pz 375 22 28)),(.name 18 (pz 375 30 36))] (pz 375 12 21) (pz 375 12 37))
noncomputable def rM:List (Nat×NameKind):=[(21,.local),(18,.local),(27,.free)]
noncomputable def uh:ME:=(.comp1 AP (.name 18 (pz 375 42 48)) (.name 126 (pz 375 52 56)) [] rM (pz 375 11 57))
noncomputable def sL:MS:=(.ite (.cmp .Eq uh (.name 200 (pz 375 61 66)) (pz 375 11 66)) [(.ret (.bool true (pz 376 19 23)) (pz 376 12 23))] [] ⟨375,8,376,23⟩)
noncomputable def cJ(t:Bool)(cs:List Nat):List Nat:=cs.map λa=>cr (lC t a)
variable {cs Y:List Nat}{L:ao}{t:Bool}{d:Nat}
theorem GO(σ:ac):[true,false].map (λt=>(ah 6).map λa=>ot (zQ t) [.str (cr a), .str (cr a)] σ)=[true,false].map λt=>(ah 6).map λa=>af (.str (cr (lC t a))) σ:=by kernel_rfl
theorem Dq(l:List Nat):∀m,hU (eqv σ 11) (l.map .str) (m.map .str)=some (dK l m):=by
 induction l with
 |nil=>exact λm=>by cases m <;> rfl
 |cons a l ih=>exact λm=>match m with
  |[]=>rfl
  |b::m=>eD (x:= .str a) (y:= .str b) rfl (ih m)
theorem Jh{r:aP}{l:List (AV×AV)}{vs:List AV}{o:aj AV}(g:σ.get d=some (.dict l))(h:ot l vs σ=o):iK tabs (.obj d) 3 σ=some .get∧jT r .get (.obj d) vs σ=o:=⟨by
 show aO (aO (ob (iO (σ.get d)) _) (aO (ob (lO (σ.get d)) _) (ob (dO (σ.get d)) λ_=>look 3 [(3,d8.get),(5, .values)]))) _=_
 rw[g]; rfl,by
 show ob (dO (σ.get d)) (λl=>ot l vs σ)=_
 rw[g]; exact h⟩
theorem Gb(hL:Sub dH L)(g4:σ.get 4=some (bI (cs.map cr)))(g5:σ.get 5=some (bI Y))(g3:σ.get 3=some (.cell (some (.obj d))))(gd:σ.get d=some (.dict (zQ t)))(n:9≤σ.n)(hcs:∀a∈cs,a∈ah 6)(hl:cs.length≤900) :
  (RF 11).s (cI L) [sL] σ=af (wR true (!dK (cJ t cs) Y),L) (σ.push (bI (cJ t cs))):=by
 have z:=fY (r:=RF 8) (ev:=⟨0,rM,[],[(27,3)]⟩) (t:= .name 18 (pz 375 42 48)) (ifs:=[]) (it:= .seq (.obj 4)) (σ:=σ) (its:=cs) (av:=λa=> .str (cr a)) (P:=λ_=>True) (body:=jh (RF 8) ⟨0,rM,[],[(27,3)]⟩ AP) (G:=λa=>[.str (cr (lC t a))]) (N:=900) rfl (λk=>(dq g4 k).trans (cA0 some ((dE _ _ _).trans ((cA0 (Option.map _) (dE _ _ _)).trans (Option.map_map ..)))))
  (λa loc acc _ ha hN=>by
   have n18:∀{k q},(RF (k+1)).e ⟨0,rM,put 18 (.str (cr a)) loc,[(27,3)]⟩ (.name 18 q) σ=af (.str (cr a)) σ:=ck (bJ 18 _ loc)
   have m:=Jh (r:=RF 7) gd (az (az (GO σ) (ue t)) (hcs a ha))
   exact⟨_,trivial,λK=>jk rfl rfl (ki (ij (m:= .get) rfl (ck (fe (o:=0) rfl rfl g3)) m.1 (eE n18 (eE n18 rfl)) rfl m.2) (lE0 (Nat.le_add_right _ _) (lE0 hN (by decide))))⟩)
  cs 0 1000 [] [] (λi=>cA0 (aY _) (Nat.zero_add i)) (Nat.lt_of_le_of_lt hl (by decide)) trivial
 rw[←List.map_eq_flatMap,List.length_map,show cs.map (λa=>AV.str (cr (lC t a)))=(cJ t cs).map .str from(List.map_map ..).symm] at z
 refine(z (lE0 (Nat.le_of_eq (Nat.zero_add _)) hl)).elim λl z=>?_
 have c:(RF 9).e (cI L) uh σ=af (.obj σ.n) (σ.push (bI (cJ t cs))):=wQ (cl:=[(27,3)]) rfl rfl (kF (jL rfl (ck (hL 126 _ rfl)) g4) rfl z.2)
 have te:(RF 10).t (cI L) (.cmp .Eq uh (.name 200 (pz 375 61 66)) (pz 375 11 66)) σ=af (dK (cJ t cs) Y) (σ.push (bI (cJ t cs))):=dg c (ck (hL 200 _ rfl)) ((tt (k:=11) (ac.get_push_self _ _) ((ac.get_push_ne _ _ (Nat.ne_of_gt (lT0 (by decide) n))).trans g5)).trans (Dq _ _))
 exact aQ rfl ((bl te).trans (by cases dK (cJ t cs) Y <;> rfl))
noncomputable def JL:ME:=(.lst [(.dct [(.str 202 (pz 374 19 23)),(.str 203 (pz 374 31 35))] [(.str 204 (pz 374 25 29)),(.str 205 (pz 374 37 41))] (pz 374 18 42)),(.dct [(.str 202 (pz 374 45 49)),(.str 203 (pz 374 57 61))] [(.str 205 (pz 374 51 55)),(.str 204 (pz 374 63 67))] (pz 374 44 68))] (pz 374 17 69))
noncomputable def uL(σ:ac):ac:=((σ.push (.dict (zQ true))).push (.dict (zQ false))).push (.list [.obj σ.n, .obj (σ.n+1)])
noncomputable def wd(d:Nat)(t:Bool):Nat:=cond t d (d+1)
structure K4(P:FF)(cs Y:List Nat)(d:Nat)(σ:ac):Prop where
 b:(ah 3).map σ.get=[some (.list (P.map λq=> .tok 1 q.1)),some (.list (P.map λq=> .tok 2 q.2)),some (.list [.none, .none])]
 g3:∃u,σ.get 3=some (.cell u)
 g4:σ.get 4=some (bI (cs.map cr))
 g5:σ.get 5=some (bI Y)
 gd:∀t,σ.get (wd d t)=some (.dict (zQ t))
 gl:σ.get (d+2)=some (.list [.obj d, .obj (d+1)])
 n:d+3≤σ.n
 d:9≤d
theorem K4.step{P:FF}(K:K4 P cs Y d σ){u:Option AV}{o:ai}:K4 P cs Y d ((σ.set 3 (.cell u)).push o):=by
 have lt:∀{j},j<d+3→j<σ.n:=λh=>lT0 h K.n
 have g:∀{j},j<d+3→3≠j→((σ.set 3 (.cell u)).push o).get j=σ.get j:=λh h3=>(ac.get_push_ne (σ.set 3 (.cell u)) _ (Nat.ne_of_gt (lt h))).trans (ac.get_set_ne _ _ _ h3)
 have l9:∀{j},j<9→j<d+3:=λh=>lT0 h (Nat.le_add_right_of_le K.d)
 have l3:∀{j},d≤j→3≠j:=λh=>Nat.ne_of_lt (lT0 (by decide) (lE0 K.d h))
 exact⟨(List.map_inj_left.mpr λj hj=>g (l9 (Nat.lt_trans (List.mem_range.mp hj) (by decide))) (Nat.ne_of_gt (List.mem_range.mp hj))).trans K.b,⟨u,(ac.get_push_ne (σ.set 3 (.cell u)) _ (Nat.ne_of_gt (lt (l9 (by decide))))).trans (ac.get_set_self _ _ _)⟩,(g (l9 (by decide)) (by decide)).trans K.g4,(g (l9 (by decide)) (by decide)).trans K.g5,
  λt=>(g (by cases t; exact Nat.lt_succ_of_lt (Nat.lt_succ_self _); exact Nat.lt_add_of_pos_right (by decide)) (by cases t; exact l3 (Nat.le_succ _); exact l3 (Nat.le_refl _))).trans (K.gd t),(g (Nat.lt_succ_self _) (l3 (Nat.le_add_right _ _))).trans K.gl,Nat.le_succ_of_le K.n,K.d⟩
noncomputable def pk(cs Y:List Nat)(d:Nat)(σ:ac)(t:Bool):Bool×ac:=(!dK (cJ t cs) Y,(σ.set 3 (.cell (some (.obj (wd d t))))).push (bI (cJ t cs)))
theorem Gh(σ:ac):(cV (pk cs Y d) σ [true,false]).1 = !(dK (cJ true cs) Y||dK (cJ false cs) Y):=by
 show(Bool.rec (motive:=λ_=>Bool×ac) (false,(pk cs Y d σ true).2) (Bool.rec (motive:=λ_=>Bool×ac) (false,(pk cs Y d (pk cs Y d σ true).2 false).2) (true,(pk cs Y d (pk cs Y d σ true).2 false).2) (!dK (cJ false cs) Y)) (!dK (cJ true cs) Y)).1=_
 cases dK (cJ true cs) Y
 ·cases dK (cJ false cs) Y <;> rfl
 ·rfl
theorem Gq{P:FF}(K:K4 P cs Y d σ)(hL:Sub dH L)(hcs:∀a∈cs,a∈ah 6)(hl:cs.length≤900) :
  ∃σ',forLoop (RF 11) (cI L) (.name 27 (pz 374 8 13)) [sL] (.seq (.obj (d+2))) 1000 0 L σ=af (wR true (!(dK (cJ true cs) Y||dK (cJ false cs) Y)),L) σ'∧K4 P cs Y d σ':=by
 have z:=nO (u:=true) (r:=RF 11) (ev:=cI L) (t:= .name 27 (pz 374 8 13)) (b:=[sL]) (it:= .seq (.obj (d+2))) (S:=ac) (St:=id) (its:=[true,false]) (av:=λt=> .obj (wd d t)) (f:=pk cs Y d) (I:=K4 P cs Y d) (P:=λl=>l=L) rfl
  (λs k I=>(dq I.gl k).trans (by match k with |0=>rfl |1=>rfl |k+2=>rfl)) (λs v I _=>I.step) (λs v loc I _ hl'=>I.g3.elim λu g3=>by
   have Kc:K4 P cs Y d ((s.set 3 (.cell (some (.obj (wd d v))))).push .own):=I.step
   have g:∀{j},j<s.n→(((s.set 3 (.cell (some (.obj (wd d v))))).push .own).get j=(s.set 3 (.cell (some (.obj (wd d v))))).get j):=λh=>ac.get_push_ne (s.set 3 _) _ (Nat.ne_of_gt h)
   have lt:∀{j},j<d+3→j<s.n:=λh=>lT0 h I.n
   have l9:∀{j},j<9→j<s.n:=λh=>lt (lT0 h (Nat.le_add_right_of_le I.d))
   exact⟨loc,_,L,rY rfl rfl g3,rfl,hl'▸Gb (hl'.symm▸hL) ((g (l9 (by decide))).symm.trans Kc.g4) ((g (l9 (by decide))).symm.trans Kc.g5) (ac.get_set_self _ _ _) ((g (lt (by cases v; exact Nat.lt_succ_of_lt (Nat.lt_succ_self _); exact Nat.lt_add_of_pos_right (by decide)))).symm.trans (Kc.gd v)) (lE0 (Nat.le_add_right_of_le I.d) I.n) hcs hl⟩)
  [true,false] 0 1000 L σ (λi=>cA0 (aY _) (Nat.zero_add i)) (by decide) rfl K
 rw[Gh] at z
 exact z.elim λl z=>⟨(cV (pk cs Y d) σ [true,false]).2,(show l=L from z.1)▸z.2,wj (f:=pk cs Y d) (I:=K4 P cs Y d) (gs:=[true,false]) (λs v h _=>h.step) σ K⟩
end
theorem FL(P:FF):dK (P.map λq=>gL q.1) (P.map λq=>gK q.2)=P.all gR:=by
 induction P with
 |nil=>rfl
 |cons q P ih=>exact cA0 (gR q&&·) ih
theorem Gl{l:List Nat}:∀{l' m m':List Nat},l.length=l'.length→dK (l++m) (l'++m')=(dK l l'&&dK m m'):=by
 induction l with
 |nil=>exact λ{l' m m'} h=>match l',h with
  |[],_=>rfl
 |cons a l ih=>exact λ{l' m m'} h=>match l',h with
  |b::l',h=>(cA0 (Nat.beq a b&&·) (ih (Nat.succ.inj h))).trans (Bool.and_assoc ..).symm
theorem F5:∀c∈ah 35,∀d∈ah 54,Nat.beq (gL c) (gK d)=true→(bU c).length=(cD d).length∧∀t:Bool,dK (cJ t (bU c)) ((cD d).map cr)=ee t ((bU c).zip (cD d)):=by decide +kernel
theorem v0(t:Bool){P:FF}(h:∀q∈P,sY q)(hs:P.all gR=true):dK (cJ t (P.flatMap λq=>bU q.1)) ((P.flatMap λq=>cD q.2).map cr)=ee t (P.flatMap dw):=by
 induction P with
 |nil=>rfl
 |cons q P ih=>
   refine aw hs λh1 h2=>?_
   have k:=F5 _ (h q (.head _)).1 _ (h q (.head _)).2 h1
   unfold cJ ee
   rw[List.flatMap_cons,List.flatMap_cons,List.flatMap_cons,List.map_append,List.map_append,List.all_append,Gl (by rw[List.length_map,List.length_map,k.1])]
   exact congr (cA0 and (k.2 t)) (ih (λq h'=>h q (.tail _ h')) h2)
theorem AC{P:FF}(h:∀q∈P,sY q):(dK (P.map λq=>gL q.1) (P.map λq=>gK q.2)&&(dK (cJ true (P.flatMap λq=>bU q.1)) ((P.flatMap λq=>cD q.2).map cr)||dK (cJ false (P.flatMap λq=>bU q.1)) ((P.flatMap λq=>cD q.2).map cr)))=fx P:=by
 rw[FL]
 unfold fx
 cases z:P.all gR with
 |false=>rfl
 |true=>rw[v0 true h z,v0 false h z]
section
noncomputable def fW(P:FF)(k:AV):List ai:=[.list (P.map λq=> .tok 1 q.1), .list (P.map λq=> .tok 2 q.2), .list [.none,k]]
noncomputable def oY(P:FF)(k:AV):ac:=au (fW P k++[.cell none])
noncomputable def jb(P:FF):ac:=au (fW P .none++[.cell none, .list [], .list [], .list [], .list [], .list [.obj 6, .obj 7]])
noncomputable def jK:ao:=[(112, .obj 0),(125, .obj 1),(199, .obj 2)]
noncomputable def Ps(a b c:Nat×Nat):List FF:=[[a],[a,b],[a,b,c]]
noncomputable def k2:List AV:=[.none, .str 208]
theorem He(a b c:Nat×Nat):(Ps a b c).map (λP=>k2.map λk=>((R0 15).s (cI jK) (nR.body.take 2) (oY P k),cond (gX k) none ((R0 15).s (cI jK) nR.body (oY P k)),b9 tabs (RF 13) (cI dH) (.call (.name 77 (pz 369 14 19)) [(.call (.name 55 (pz 369 20 23)) [(.name 125 (pz 369 24 27))] (pz 369 20 28))] (pz 369 14 29)) (jb P))) =
  (Ps a b c).map λP=>k2.map λk=>(cond (gX k) (af (.next,dH) (jb P)) (af (.ret (.bool false),jK) (oY P k)),cond (gX k) none (af (.ret (.bool false),jK) (oY P k)),af (.range P.length) (jb P)):=by kernel_rfl
theorem zO(P:FF)(k:AV)(ss:Ss):bv tabs (R tabs bR ss 1) (.g 425) [.obj 0, .obj 1, .obj 2] (au (fW P k))=bind ((R tabs bR ss 1).s (cI jK) nR.body (oY P k)) λp σ=>af (cE p) σ:=rfl
variable {P:FF}
theorem L8(P:FF):Bf P 0 dH (jb P):=⟨λ_ _ h=>h,⟨by kernel_rfl,by kernel_rfl,by kernel_rfl,⟨none,by kernel_rfl⟩,by kernel_rfl,by kernel_rfl,lB0 (by kernel_rfl)⟩,⟨by kernel_rfl,[],by kernel_rfl,rfl⟩,by kernel_rfl,[],by kernel_rfl,rfl⟩
theorem Dg(hP:∀q∈P,sY q)(h3:P.length≤3)(hr:b9 tabs (RF 13) (cI dH) (.call (.name 77 (pz 369 14 19)) [(.call (.name 55 (pz 369 20 23)) [(.name 125 (pz 369 24 27))] (pz 369 20 28))] (pz 369 14 29)) (jb P)=af (.range P.length) (jb P)) :
  ∃loc σ,(RF 14).s (cI dH) (nR.body.drop 2) (jb P)=af (.ret (.bool (fx P)),loc) σ∧(ah 3).map σ.get=(fW P .none).map some∧3≤σ.n:=by
 have l:=Ga (r:=RF 13) (ev:=cI dH) (t:= .name 100 (pz 369 8 10)) (b:=[yV,xF]) (it:= .range P.length) (n:=P.length) (I:=Bf P) rfl (λk loc σ hk I=>(B7 hP h3 hk I).elim λl2 y=>y.elim λσ2 y=>⟨.int (.ofNat k),_,σ,l2,σ2,by
   show some (bif Nat.blt k P.length then some (AV.int (.ofNat k)) else none)=_
   rw[kK hk]; rfl,rfl,y.1,y.2⟩)
  (λloc σ I=>by
   show some (bif Nat.blt P.length P.length then some (AV.int (.ofNat _)) else none)=_
   rw[show Nat.blt P.length P.length=false from Bool.eq_false_iff.mpr λh=>Nat.lt_irrefl _ (dN h)]; rfl) P.length 0 1000 dH (jb P) (Nat.zero_add _) (Nat.lt_of_le_of_lt h3 (by decide)) (L8 P)
 refine l.elim λL l=>l.elim λσ l=>?_
 have s2:=(d7 (p:=⟨369,4,371,51⟩) hr rfl).trans l.2
 have I:=l.1
 unfold Bf at I
 rw[List.take_length] at I
 have B:=I.2.1
 refine I.2.2.1.2.elim λva a=>I.2.2.2.2.elim λvb b=>?_
 have s3:(RF 12).t (cI L) (.cmp .NotEq (.sub (.name 201 (pz 372 7 13)) (.int 0 (pz 372 14 15)) (pz 372 7 16)) (.sub (.name 201 (pz 372 20 26)) (.int 1 (pz 372 27 28)) (pz 372 20 29)) (pz 372 7 29)) σ=af (!dK ((P.map (·.1)).map (hH 1)) ((P.map (·.2)).map (hH 2))) σ:=
  dg (mz (k:=0) (a:=6) rfl (I.1 201 _ rfl) B.g8 rfl rfl) (mz (k:=1) (a:=7) rfl (I.1 201 _ rfl) B.g8 rfl rfl) (cA0 nX ((tt (k:=11) a.1 b.1).trans (F6 a.2 b.2)))
 rw[List.map_map,List.map_map] at s3
 have b3:(ah 3).map σ.get=(fW P .none).map some:=congr (cA0 (λa (b:Option ai×Option ai)=>[a,b.1,b.2]) B.g0) (congr (cA0 Prod.mk B.g1) B.g2)
 have g:∀{j},j<σ.n→(uL σ).get j=σ.get j:=λh=>(ac.get_push_ne ((σ.push _).push _) _ (Nat.ne_of_gt (Nat.lt_succ_of_lt (Nat.lt_succ_of_lt h)))).trans (uC h)
 have l9:∀{j},j<9→j<σ.n:=λh=>lT0 h B.n
 have K:K4 P (P.flatMap λq=>bU q.1) ((P.flatMap λq=>cD q.2).map cr) σ.n (uL σ):=⟨(List.map_inj_left.mpr λj hj=>g (l9 (Nat.lt_trans (List.mem_range.mp hj) (by decide)))).trans b3,B.c3.imp λu h=>(g (l9 (by decide))).trans h,(g (l9 (by decide))).trans (I.2.2.1.1.trans (cA0 (λl=>some (bI (l.map cr))) (List.flatMap_map ..))),(g (l9 (by decide))).trans (I.2.2.2.1.trans (cA0 (λl=>some (bI (l.map cr))) (List.flatMap_map ..))),
  λt=>by cases t; exact(ac.get_push_ne ((σ.push _).push _) _ (Nat.ne_of_gt (Nat.lt_succ_self _))).trans (ac.get_push_self (σ.push _) _); exact(ac.get_push_ne ((σ.push _).push _) _ (Nat.ne_of_gt (Nat.lt_succ_of_lt (Nat.lt_succ_self _)))).trans ((ac.get_push_ne (σ.push _) _ (Nat.ne_of_gt (Nat.lt_succ_self _))).trans (ac.get_push_self σ _)),ac.get_push_self ((σ.push _).push _) _,Nat.le_refl _,B.n⟩
 have fl:∀q∈P,(bU q.1).length≤3∧∀a∈bU q.1,a∈ah 6:=λq hq=>⟨eZ.2.2 _ (hP q hq).1,λa ha=>C7.1 a ((eZ.1 _ (hP q hq).1).2 a ha)⟩
 have fll:(P.flatMap λq=>bU q.1).length≤3 * P.length:=Fx λq hq=>(fl q hq).1
 have it:b9 tabs (RF 11) (cI L) JL σ=af (.seq (.obj (σ.n+2))) (uL σ):=aq rfl (bq (show _=af (.obj (σ.n+2)) (uL σ) from rfl) (by
  show ob (aO (ob (aO none (lO ((uL σ).get (σ.n+2)))) _) _) _=_
  rw[K.gl]; rfl))
 refine(Gq K I.1 (λa ha=>(List.mem_flatMap.mp ha).elim λq y=>(fl q y.1).2 a y.2) (lE0 fll (lE0 (Nat.mul_le_mul_left 3 h3) (by decide)))).elim λσ4 z=>?_
 have s4:=(d7 (p:=⟨374,4,376,23⟩) it rfl).trans z.1
 rw[←AC hP]
 have b4:(ah 3).map σ4.get=(fW P .none).map some∧3≤σ4.n:=⟨z.2.b,lE0 (by decide) (lE0 (Nat.le_add_right_of_le B.n) z.2.n)⟩
 have s3':=bl (b:=[(.ret (.bool false (pz 373 15 20)) (pz 373 8 20))]) (o:=[]) (p:=⟨372,4,373,20⟩) s3
 cases q:dK (P.map λq=>gL q.1) (P.map λq=>gK q.2) with
 |false=>exact⟨L,σ,aS rfl s2 (jC rfl (s3'.trans ((cA0 (λb=>(RF 12).s (cI L) (cond (!b) _ []) σ) q).trans rfl))),b3,lE0 (by decide) B.n⟩
 |true=>
  have s3'':=s3'.trans ((cA0 (λb=>(RF 12).s (cI L) (cond (!b) _ []) σ) q).trans rfl)
  cases x:(dK (cJ true (P.flatMap λq=>bU q.1)) ((P.flatMap λq=>cD q.2).map cr)||dK (cJ false (P.flatMap λq=>bU q.1)) ((P.flatMap λq=>cD q.2).map cr)) with
  |true=>rw[x] at s4; exact⟨L,σ4,aS rfl s2 (aS (loc:=L) rfl s3'' (jC rfl s4)),b4⟩
  |false=>rw[x] at s4; exact⟨L,σ4,aS rfl s2 (aS (loc:=L) rfl s3'' (aS (loc:=L) rfl s4 rfl)),b4⟩
end
section
variable {P:FF}{k:AV}
theorem Dy(T:aE K)(dz:DZ w K)(rz:RZ w K)(hk:k∈k2){a b c:Nat×Nat}(hm:P∈Ps a b c)(hP:∀q∈P,sY q)(h3:P.length≤3):∃σ',am w K 57 (.g 425) [.obj 0, .obj 1, .obj 2] (au (fW P k)) [(.ok (.bool (gX k&&fx P)),σ')]∧(ah 3).map σ'.get=(fW P k).map some∧3≤σ'.n:=by
 have e:=Prod.mk.inj (az (az (He a b c) hm) hk)
 have e2:=Prod.mk.inj e.2
 cases q:gX k with
 |false=>
  rw[q] at e2
  exact⟨_, .row (m:=55) T dz rz ((aD.of (m:=0) T dz rz bf aH e2.1).up (by decide)) (zO P k) rfl,by kernel_rfl,lB0 (by kernel_rfl)⟩
 |true=>
  have hk':k = .none:=by cases k <;> first|rfl |exact aV q
  subst hk'
  exact(Dg hP h3 e2.2).elim λL y=>y.elim λσ y=>⟨σ, .row (m:=55) (b:=nR.body) T dz rz (.seq T ((aD.of (m:=0) T dz rz bf aH e.1).up (by decide)) ((aD.of (m:=40) T dz rz (HE T dz rz) aH y.1).up (by decide))) (zO P .none) rfl,y.2⟩
end
section
variable {sp:Sp}{ss:Ss}{ev:Ev}
theorem oM{r:aP}{t:ME}{b:List MS}{it:It}{m:Nat}{loc loc1 loc2:ao}{v:AV}{o:aj (Fl×ao)}(hgo:gV it t=true)(hi:du it n σ=some (some v))(ha:cR r ev 5 loc t v σ=af loc1 σ1)(hb:r.s { ev with loc:=loc1 } b σ1=af (.next,loc2) σ2)(hk:forLoop r ev t b it m (n+1) loc2 σ2=o):forLoop r ev t b it (m+1) n loc σ=o:=
 dB hgo hi ha (bq hb (show jo _ (.next,_) _=_ from hk))
theorem vj{f:ME}{as:List ME}{p:Pos}{b:Bool}(h:(R tabs sp ss k).e ev (.call f as p) σ=af (.bool b) σ1):(R tabs sp ss (k+1)).t ev (.call f as p) σ=af b σ1:=bq h rfl
theorem DU{t it:ME}{b:List MS}{p:Pos}{j:Nat}{l l':List (AV×AV)}{q:ax (Fl×ao)}(h:b9 tabs (R tabs sp ss k) ev it σ=af (.keys j) σ1)(hj:σ1.get j=some (.dict l))(hl:forLoop (R tabs sp ss k) ev t b (.keys j) cA 0 ev.loc (σ1.set j (.fro l))=some [(q,σ2)])(hj':σ2.get j=some (.fro l')) :
  ba tabs (R tabs sp ss k) ev (.for_ t it b p) σ=some [(q,σ2.set j (.dict l'))]:=bq h (by
 show ob (dO (σ1.get j)) (λl=>ob (forLoop (R tabs sp ss k) ev t b (.keys j) cA 0 ev.loc (σ1.set j (.fro l))) λm=>thaw j m)=_
 rw[hj]
 show ob (forLoop _ _ _ _ _ _ _ _ _) _=_
 rw[hl]
 show ob (fO (σ2.get j)) _=_
 rw[hj']; rfl)
end
section
variable {m:Nat}{f0 f:AV}{vs0 vs:List AV}{l:List ai}{is:List Nat}{r:ax AV}
theorem am.keep(c:am w K m f0 vs0 (au l) [(r,σ')])(g:(ah l.length).map σ'.get=l.map some)(g0:(ah l.length).map (au l).get=l.map some)(n:l.length≤σ'.n)(hn:b8 is=true)(ho:ce σ l.length (aX is) is l)(hr:aK σ is=true)(hf:aR (Em l.length (aX is)) f0 f)(hv:bj (Em l.length (aX is)) vs0 vs)(hs:∀O,ka O r r):am w K m f vs σ [(r,σ)]:=
 c.lift (fc.of hn ho hr) hf hv (.one (js:=[]) (ch:=[]) (nw:=[]) (hs _) { n:=n,same:=λj hj _=>az (g.trans g0.symm) (mR0 hj),ch:=λ_ h=>absurd h List.not_mem_nil,bd:=λ_ h=>absurd h List.not_mem_nil,new:=λ_ _ h=>al h,len:=rfl,ap:=rfl })
end
section
noncomputable def wJ:List ai:=[.dict [(.str 153, .none),(.str 62, .obj 18),(.str 63, .obj 19),(.str 130, .obj 20),(.str 103, .obj 21),(.str 141, .obj 28),(.str 154, .obj 23),(.str 155, .obj 24)], .inst 356 16, .dict [(.str 195, .obj 27)], .dict [], .dict [(.str 212, .obj 12)], .dict [(.str 211, .obj 0)], .list [], .dict [], .dict [],
 .list [], .dict [(.str 75, .str 195),(.str 144, .str 34),(.str 22, .tup [.str 196]),(.str 71, .tup []),(.str 63, .obj 25),(.str 145, .tup []),(.str 146, .bool false)], .inst 263 26, .list [.obj 8]]
noncomputable def mH:List ai:=[.dict [(.str 61, .obj 17),(.str 81, .obj 31),(.str 82, .obj 32)], .inst 181 29, .list [], .list [.tup [.str 14, .str 195, .tup [.none], .tup []]], .list [.str 195], .list [], .cell (some (.g 109)), .list [.none], .list [], .list []]
noncomputable def mM(x:IL):ac:=au (gy x++(wJ++mH))
noncomputable def vY(x:IL):ac:=au (gy x++wJ)
noncomputable def fo(l:ao):Ev:=⟨236,lm.sc,(92, .obj 8)::(61, .obj 17)::l,[]⟩
noncomputable def tu:ao:=[(119, .obj 0),(73, .str 213)]
noncomputable def e7(l:ao):Ev:=⟨243,iB.sc,(61, .obj 17)::l,[]⟩
noncomputable def sD:ao:=[(138, .obj 30),(75, .str 195),(92, .obj 8)]
noncomputable def ED:List (AV×AV):=[(.str 213, .str 212)]
noncomputable def jn(s:MS):List MS:=match s with
 | .for_ _ _ b _=>b
 |_=>[]
noncomputable def dS:MS:= .ret0 (pz 0 0 0)
variable {x:IL}{s:dY}{b:Bool}
theorem Mh(x:IL)(s:dY):(ba tabs (R tabs (bh 230 s) aJ 17) (fo tu) ((jn (lm.body.getD 1 dS)).getD 0 dS) (mM (x.fr true)),ba tabs (R tabs (bh 230 s) aJ 19) (fo []) (lm.body.getD 0 dS) (mM (x.fr false)),ba tabs (R tabs (bh 230 s) aJ 17) (fo tu) (lm.body.getD 2 dS) (mM (x.fr false)))=(af (.next,(fo tu).loc) (mM (x.fr true)),af (.next,(fo [(119, .obj 0)]).loc) (mM (x.fr false)),af (.next,(fo tu).loc) (mM (x.fr false))):=by kernel_rfl
theorem JU(hs:s [.obj 0, .obj 4, .obj 8, .obj 12] (mM (x.fr true))=some (some [(.ok (.bool b),mM (x.fr true))])):bv tabs (R tabs (bh 230 s) aJ 20) (.g 237) [.obj 8, .obj 17] (mM (x.fr false))=some [(cond b (.ok .none) (.exc 1),mM (x.fr false))]:=by
 have k:=Prod.mk.inj (Mh x s)
 have k2:=Prod.mk.inj k.2
 have test:(R tabs (bh 230 s) aJ 16).t (fo tu) _ (mM (x.fr true))=_:=rW (p:=(pz 209 11 86)) (vj (bt (x:=127) (px:=(pz 209 15 22)) (p:=(pz 209 15 86)) (as:=[(.name 119 (pz 209 23 28)),(.sub (.att (.name 119 (pz 209 30 35)) 128 (pz 209 30 43)) (.name 73 (pz 209 44 48)) (pz 209 30 49)),(.name 92 (pz 209 51 54)),(.sub (.att (.name 61 (pz 209 56 61)) 130 (pz 209 56 66)) (.sub (.att (.name 92 (pz 209 67 70)) 128 (pz 209 67 78)) (.name 73 (pz 209 79 83)) (pz 209 67 84)) (pz 209 56 85))]) (a:= .g 230) (vs:=[.obj 0, .obj 4, .obj 8, .obj 12]) (by kernel_rfl) (by kernel_rfl) (by kernel_rfl) (by kernel_rfl) (cg hs)))
 have loop:∀{q:ax (Fl×ao)},forLoop (R tabs (bh 230 s) aJ 18) (fo [(119, .obj 0)]) (.name 73 (pz 206 8 12)) (jn (lm.body.getD 1 dS)) (.keys 11) cA 0 (fo [(119, .obj 0)]).loc (mM (x.fr true))=some [(q,mM (x.fr true))]→ba tabs (R tabs (bh 230 s) aJ 18) (fo [(119, .obj 0)]) (lm.body.getD 1 dS) (mM (x.fr false))=some [(q,mM (x.fr false))]:=λ{q} h=>
  (DU (p:=⟨206,4,210,102⟩) (l:=ED) (l':=ED) (show b9 tabs (R tabs (bh 230 s) aJ 18) (fo [(119, .obj 0)]) (.att (.name 92 (pz 206 16 19)) 128 (pz 206 16 27)) (mM (x.fr false))=af (.keys 11) (mM (x.fr false)) by kernel_rfl) (by kernel_rfl) ((cA0 (forLoop _ _ _ _ _ _ _ _) (show(mM (x.fr false)).set 11 (.fro ED)=mM (x.fr true) by kernel_rfl)).trans h) (by kernel_rfl)).trans (cA0 (λσ=>some [(q,σ)]) (show(mM (x.fr true)).set 11 (.dict ED)=mM (x.fr false) by kernel_rfl))
 have fn:∀{o:aj (Fl×ao)},(R tabs (bh 230 s) aJ 20).s (fo []) lm.body (mM (x.fr false))=o→bv tabs (R tabs (bh 230 s) aJ 20) (.g 237) [.obj 8, .obj 17] (mM (x.fr false))=bind o λp σ=>af (cE p) σ:=λh=>h▸rfl
 cases b with
 |true=>exact(fn (aS rfl k2.1 (aS rfl (loop (oM (m:=999) (loc1:=(fo tu).loc) (v:= .str 213) rfl (by kernel_rfl) rfl (aS rfl k.1 (aQ rfl ((bl test).trans rfl))) (ff rfl (by kernel_rfl)))) (aQ rfl k2.2)))).trans rfl
 |false=>exact(fn (aS rfl k2.1 (jH rfl (loop (dB (m:=999) (loc1:=(fo tu).loc) (v:= .str 213) rfl (by kernel_rfl) rfl (bx (aS rfl k.1 (aQ rfl ((bl test).trans (by kernel_rfl)))))))))).trans rfl
end
section
variable {x:IL}{s:dY}{b:Bool}
theorem NF(x:IL)(s:dY):(ba tabs (R tabs (bh 237 s) aJ 59) (e7 []) (iB.body.getD 0 dS) (vY (x.fr false)),ba tabs (R tabs (bh 237 s) aJ 58) (e7 [(138, .obj 30)]) (iB.body.getD 1 dS) (au (gy (x.fr false)++(wJ++(mH.take 3++[.list []])))),ba tabs (R tabs (bh 237 s) aJ 55) (e7 sD) ((jn (iB.body.getD 2 dS)).getD 1 dS) (mM (x.fr false))) =
  (af (.next,(e7 [(138, .obj 30)]).loc) (au (gy (x.fr false)++(wJ++(mH.take 3++[.list []])))),af (.next,(e7 [(138, .obj 30),(75, .str 195)]).loc) (mM (x.fr false)),af (.next,(e7 sD).loc) (mM (x.fr false))):=by kernel_rfl
theorem Je(hs:s [.obj 8, .obj 17] (mM (x.fr false))=some (some [(cond b (.ok .none) (.exc 1),mM (x.fr false))])):bv tabs (R tabs (bh 237 s) aJ 60) (.g 244) [.obj 17] (vY (x.fr false))=some [(cond b (.ok .none) (.exc 1),mM (x.fr false))]:=by
 have k:=Prod.mk.inj (NF x s)
 have k2:=Prod.mk.inj k.2
 have call:(R tabs (bh 237 s) aJ 55).e (e7 sD) _ (mM (x.fr false))=_:=bt (x:=137) (px:=(pz 220 12 25)) (p:=(pz 220 12 37)) (as:=[(.name 92 (pz 220 26 29)),(.name 61 (pz 220 31 36))]) (a:= .g 237) (vs:=[.obj 8, .obj 17]) (by kernel_rfl) (by kernel_rfl) (by kernel_rfl) (by kernel_rfl) (cg hs)
 have it:b9 tabs (R tabs (bh 237 s) aJ 57) (e7 [(138, .obj 30),(75, .str 195)]) (.att (.name 61 (pz 218 15 20)) 141 (pz 218 15 26)) (mM (x.fr false))=af (.seq (.obj 28)) (mM (x.fr false)):=by kernel_rfl
 have one:∀{o},bind (some [(cond b (.ok AV.none) (.exc 1),mM (x.fr false))]) (λ_ σ=>af (Fl.next,(e7 sD).loc) σ)=o→ba tabs (R tabs (bh 237 s) aJ 56) (e7 sD) ((jn (iB.body.getD 2 dS)).getD 0 dS) (mM (x.fr false))=o:=λh=>
  (bl (q:=true) (p:=⟨219,8,220,37⟩) (σ1:=mM (x.fr false)) (by kernel_rfl)).trans (aQ rfl ((gh (p:=(pz 220 12 37)) rfl).trans ((cA0 (bind · _) call).trans h)))
 have fn:∀{o:aj (Fl×ao)},(R tabs (bh 237 s) aJ 60).s (e7 []) iB.body (vY (x.fr false))=o→bv tabs (R tabs (bh 237 s) aJ 60) (.g 244) [.obj 17] (vY (x.fr false))=bind o λp σ=>af (cE p) σ:=λh=>h▸rfl
 have lp:∀{o:aj (Fl×ao)},forLoop (R tabs (bh 237 s) aJ 57) (e7 [(138, .obj 30),(75, .str 195)]) (.name 92 (pz 218 8 11)) (jn (iB.body.getD 2 dS)) (.seq (.obj 28)) 1000 0 (e7 [(138, .obj 30),(75, .str 195)]).loc (mM (x.fr false))=o→bv tabs (R tabs (bh 237 s) aJ 60) (.g 244) [.obj 17] (vY (x.fr false))=bind o λp σ=>af (cE p) σ:=λh=>
  fn (aS rfl k.1 (aS rfl k2.1 (aQ rfl ((d7 (p:=⟨218,4,222,34⟩) it rfl).trans h))))
 cases b with
 |true=>exact(lp (oM (m:=999) (loc1:=(e7 sD).loc) (v:= .obj 8) rfl (by kernel_rfl) rfl (aS rfl (one rfl) (aQ rfl k2.2)) (ff rfl (by kernel_rfl)))).trans rfl
 |false=>exact(lp (dB (m:=999) (loc1:=(e7 sD).loc) (v:= .obj 8) rfl (by kernel_rfl) rfl (bx (jH rfl (one rfl))))).trans rfl
noncomputable def mE(i:Nat):List ai:=[.dict [], .dict [(.str 213, .str 210)], .dict [(.str 214, .str 212)]].take i
noncomputable def mD(i:Nat):Nat:=[3,3,30,30].getD i 0
noncomputable def PR(i:Nat):Nat:=[11,29,29,31].getD i 0
noncomputable def mQ(x:IL)(i:Nat):List ai:=NP (x.fr false) (mD i) (PR i)++(wJ++mE i)
noncomputable def m9(k:Nat):ax AV:=[.ok .none, .exc 0, .exc 1].getD k (.exc 1)
noncomputable def qN(b:Bool)(i:Nat):Nat:=[cond b 0 2,2,0,2].getD i 0
noncomputable def qR(i:Nat):ax AV:=m9 (qN true i)
noncomputable def Da:List Nat:=[1,2,3]
noncomputable def qV(N:Nat)(is:List Nat)(x:IL)(i:Nat):Option (ax AV×eJ):=cv (29+i) N (aX is) ni [] ((R0 60).c (.g 244) [.obj 17] (au (mQ x i)))
theorem Ml(N:Nat)(is:List Nat)(x:IL):Da.map (qV N is x)=Da.map λi=>some (qR i,aG (29+i) (au (mQ x i)) [] []):=by kernel_rfl
theorem Nx(c d:Nat→Nat):(ej c d).map (λx=>(ah 16).map (mM (x.fr true)).get)=(ej c d).map λx=>((gy (x.fr true)).map (cK (aX (ah 16)))).map some:=by kernel_rfl
theorem EC(c d:Nat→Nat):(ej c d).map (λx=>((gy x).all (jq λj=>Nat.blt j 16),(ah 4).map λi=>(mQ x i).all (jq λj=>Nat.blt j (29+i))))=(ej c d).map λx=>(true,(ah 4).map λ_=>true):=by kernel_rfl
end
section
variable {x:IL}{is:List Nat}(T:aE K)(dz:DZ w K)(rz:RZ w K)(h:nK x)
include T dz rz h
theorem EK(hn:b8 is=true)(g:is.map σ.get=((gy x).map (cK (aX is))).map some)(hr:aK σ is=true):am w K 73 (.g 230) [.obj (aX is 0), .obj (aX is 4), .obj (aX is 8), .obj (aX is 12)] σ [(.ok (.bool (cL x)),σ)]:=
 (Hm T dz rz h).elim λσ' y=> .keep (l:=gy x) y.1 y.2.1 (by kernel_rfl) y.2.2 hn (.ren g (cA0 (·.1) (az (EC x.c x.d) h.mem))) hr (.g _) (.cons (.obj 0 ⟨rfl,rfl⟩) (.cons (.obj 4 ⟨rfl,rfl⟩) (.cons (.obj 8 ⟨rfl,rfl⟩) (.cons (.obj 12 ⟨rfl,rfl⟩) .nil)))) λ_=> .ok (.bool _)
theorem FQ:am w K 155 (.g 244) [.obj 17] (vY (x.fr false)) [(cond (cL x) (.ok .none) (.exc 1),mM (x.fr false))]:=by
 have h':nK (x.fr true):=⟨h.m,h.p,h.l⟩
 have c:=EK (x:=x.fr true) (σ:=mM (x.fr true)) (is:=ah 16) T dz rz h' (by decide +kernel) (az (Nx x.c x.d) h.mem) (by kernel_rfl)
 exact .body (m:=94) (n:=60) T dz rz (bM (am.body (m:=73) (n:=20) T dz rz (bM c) aH (JU bF))) aH (Je bF)
theorem Pl(hi:i<4)(hn:b8 is=true)(g:is.map σ.get=((mQ x i).map (cK (aX is))).map some)(hr:aK σ is=true):am w K 155 (.g 244) [.obj (aX is 17)] σ [(m9 (qN (cL x) i),σ)]:=by
 have z:=az (Prod.mk.inj (az (EC x.c x.d) h.mem)).2 (mR0 hi)
 have e0:m9 (cond (cL x) 0 2)=cond (cL x) (.ok .none) (.exc 1)∧∀O,ka O (cond (cL x) (.ok .none) (.exc 1)) (cond (cL x) (.ok .none) (.exc 1)):=by
  cases cL x
  ·exact⟨rfl,λ_=>rfl⟩
  ·exact⟨rfl,λ_=> .ok .none⟩
 have k:∀{j},(mQ x j).length=29+j→j∈Da→17<29+j→(mQ x j).all (jq λi=>Nat.blt i (29+j))=true→is.map σ.get=((mQ x j).map (cK (aX is))).map some→(∀O,ka O (qR j) (qR j))→am w K 155 (.g 244) [.obj (aX is 17)] σ [(qR j,σ)]:=λ{j} e m l z g rs=>by
  have r:=az (Ml σ.n is x) m
  unfold qV at r
  rw[←e] at r z l
  exact(am.run (m:=0) (k:=60) (l:=mQ x j) (ch:=[]) (nw:=[]) T dz rz bf aH hn (.ren g z) hr (.g _) (.cons (.obj 17 ⟨kK l,rfl⟩) .nil) r).up (by decide)
 match i,hi with
 |0,_=>
  refine(cA0 (λr=>am w K 155 _ _ _ [(r,σ)]) e0.1).mpr ?_
  exact .keep (l:=gy (x.fr false)++wJ) (is:=is) (FQ T dz rz h) (by kernel_rfl) (by kernel_rfl) (lB0 (by kernel_rfl)) hn (.ren g z) hr (.g _) (.cons (.obj 17 ⟨rfl,rfl⟩) .nil) e0.2
 |1,_=>exact k rfl (.head _) (by decide) z g λ_=>rfl
 |2,_=>exact k rfl (.tail _ (.head _)) (by decide) z g λ_=> .ok .none
 |3,_=>exact k rfl (.tail _ (.tail _ (.head _))) (by decide) z g λ_=>rfl
end
noncomputable def OT:Sp:=sp2 (sp2 zW gC) Ew
noncomputable def Of(kd:Nat):AV:=[.none, .none, .none, .str 208].getD kd .none
noncomputable abbrev A8:=Nat×Option Nat×Nat
noncomputable def tU:List A8:=[0,1,2].flatMap λn=>(none::(ah (n+1)).map some).flatMap λo=>(ah 4).map λkd=>(n,o,kd)
noncomputable def yZ(c:Nat→Nat)(e:Nat)(s:A8):IL:=⟨Of s.2.2,s.1,c,λi=>Option.rec (kJ (c i)) (λa=>cond (Nat.beq i a) e (kJ (c i))) s.2.1,false⟩
noncomputable def pN(c:Nat→Nat)(e:Nat)(s:A8)(l:List Dr):List Dr:= .take 3 s.1::((ah (s.1+1)).map (λi=> .mac 1 (c i))++(Option.rec [.take 2 1] (λa=>[.take 2 0, .take (s.1+1) a, .mac 2 e]) s.2.1++ .take 4 s.2.2::l))
noncomputable def IL.pr(x:IL):FF:=(ah (x.n+1)).map λi=>(x.c i,x.d i)
noncomputable def Iu(x:IL):List ai:=fW x.pr x.k++(gy (x.fr false)).map (cK (· + 5))
noncomputable def j1(L:List Dr):List ai:=[.tr L, .cell (some (.obj 0))]
noncomputable def gz(l:List Dr)(x:IL):ac:=au (j1 l++Iu x)
noncomputable def ji(loc:ao):Ev:=⟨434,fJ.sc,loc,[(159,1)]⟩
noncomputable def oa:ao:=[(126, .obj 2),(200, .obj 3),(199, .obj 4),(112, .obj 9),(117, .obj 17),(119, .obj 5),(92, .obj 13)]
noncomputable def PT(h k:Nat):List Nat:=[h,h+1,k,k+14,k+13,k+11,k+12,k+5,k+4,k+1,k+2,k+18,k+17,k+15,k+16,k+10,k+9,k+6,k+7]
noncomputable def PN(s:A8):List Nat:=PT (s.1+3) (s.1+Option.rec 6 (λ_=>7) s.2.1)
theorem FX(c:Nat→Nat)(e:Nat)(l:List Dr):tU.map (λs=>sv 2 2 (aX (ah 2)) (λ_=>PN s) [0] (oa.map (·.1)) id ((R tabs OT aJ 40).s (ji []) (fJ.body.take 8) (au (j1 (pN c e s l)))))=tU.map λs=>some ((none,oa.map λq=>some q.2),aG 2 (au (j1 (pN c e s l))) [(0, .tr l)] (Iu (yZ c e s))):=by kernel_rfl
theorem Jk(L l:List Dr)(x:IL):pushes (Iu x) (bG (aX (ah 2)) [(0, .tr l)] (au (j1 L)))=gz l x:=by kernel_rfl
theorem ML(L:List Dr):Ao (ji []) (j1 L)=Bb (ji []) (j1 L):=by kernel_rfl
section
variable {l:List Dr}{c:Nat→Nat}{e:Nat}{s:A8}
theorem Cd(T:aE K)(dz:DZ w K)(rz:RZ w K)(hs:s∈tU):aD w K 80 (ji []) (fJ.body.take 8) (au (j1 (pN c e s l))) [(.ok (.next,oa),gz l (yZ c e s))]:=
 Jk (pN c e s l) l (yZ c e s)▸aD.at (m:=40) (k:=40) (ch:=[(0, .tr l)]) (f:=none) T dz rz ((((G9 T dz rz).up (by decide)).sp2 ((fV T dz rz).up (by decide))).sp2 (Dm T dz rz)) aH (λ_=> .rfl) (ML _) (az (FX c e l) hs)
end
section
noncomputable def eL(l:List Dr)(x:IL)(i:Nat):ac:=au (j1 l++(fW x.pr x.k++(mQ x i).map (cK (· + 5))))
noncomputable def Dk(b:Bool):ao:=oa++[(125, .bool b)]
noncomputable def gn(b:Bool):ao:=Dk b++[(170, .obj 22)]
noncomputable def ix(k:Nat):Nat:=[192,219,119].getD k 0
noncomputable def ng(k:Nat):List Nat:=(ah k).map (· + 5)
variable {s s1 s2:dY}{l:List Dr}{x:IL}{b:Bool}
theorem KK(h1:s1 [.obj 2, .obj 3, .obj 4] (gz l x)=some (some [(.ok (.bool b),gz l x)]))(h2:s2 [.obj 5, .obj 9, .obj 13, .obj 17] (gz l x)=some (some [(.ok (.bool b),gz l x)])):(R tabs (sp2 (bh 425 s1) (bh 230 s2)) aJ 40).s (ji oa) ((fJ.body.drop 8).take 5) (gz l x)=af (.next,gn b) (eL l x 0):=
 aS (loc:=Dk b) rfl (f8 rfl rfl (bt (a:= .g 425) (vs:=[.obj 2, .obj 3, .obj 4]) rfl rfl rfl rfl (cg (dU h1))) rfl)
  (aS (loc:=Dk b) rfl (.trans (bl (q:=false) (dg (bt (a:= .g 230) (vs:=[.obj 5, .obj 9, .obj 13, .obj 17]) rfl rfl rfl rfl (cg ((bP rfl).trans h2))) (ck (v:= .bool b) rfl) (by cases b <;> rfl))) rfl) (by kernel_rfl))
theorem H4(hs:∀i,i<4→s [.obj 22] (eL l x i)=some (some [(.ok (.str (ix (qN b i))),eL l x i)])):(R tabs (bh 401 s) aJ 40).s (ji (gn b)) (fJ.body.drop 13) (eL l x 0)=af (.ret (.bool true),gn b) (eL l x 3):=by
 have c:∀{i k:Nat}{p1 p2 p:Pos},i<4→(R tabs (bh 401 s) aJ (k+3)).e (ji (gn b)) (.call (.name 191 p1) [.name 170 p2] p) (eL l x i)=af (.str (ix (qN b i))) (eL l x i):=λh=>bt (a:= .g 401) (vs:=[.obj 22]) rfl rfl rfl rfl (cg (hs _ h))
 exact aS (loc:=gn b) rfl (.trans (bl (q:=false) (dg (c (by decide)) (show _=af (.str (ix (qN b 0))) (eL l x 0) by cases b <;> kernel_rfl) (by cases b <;> rfl))) rfl) (aS (σ1:=eL l x 1) rfl (by kernel_rfl)
  (aS (loc:=gn b) rfl (.trans (bl (q:=false) (dg (c (i:=1) (by decide)) rfl rfl)) rfl) (aS (σ1:=eL l x 2) rfl (by kernel_rfl)
  (aS (loc:=gn b) rfl (.trans (bl (q:=false) (dg (c (i:=2) (by decide)) rfl rfl)) rfl) (aS (σ1:=eL l x 3) rfl (by kernel_rfl)
  (aQ rfl (bq (pA (q:=true) (c (i:=3) (by decide)) rfl rfl) rfl)))))))
theorem Nt(c d:Nat→Nat)(l:List Dr):(ej c d).map (λx=>([2,3,4].map (gz l x).get,(fW x.pr x.k).all (jq λj=>Nat.blt j 3),aK (gz l x) [2,3,4],(ng 16).map (gz l x).get,aK (gz l x) (ng 16))) =
  (ej c d).map λx=>(((fW x.pr x.k).map (cK (aX [2,3,4]))).map some,true,true,((gy (x.fr false)).map (cK (aX (ng 16)))).map some,true):=by kernel_rfl
theorem Jx(c d:Nat→Nat)(l:List Dr):(ej c d).map (λx=>(ah 4).map λi=>((ng (29+i)).map (eL l x i).get,aK (eL l x i) (ng (29+i)),b8 (ng (29+i)),(eL l x i).n-34,aX (ng (29+i)) 17))=(ej c d).map λx=>(ah 4).map λi=>(((mQ x i).map (cK (aX (ng (29+i))))).map some,true,true,i,22):=by kernel_rfl
end
section
theorem nL:∀{x:IL},x.n<3→x.pr∈Ps (x.c 0,x.d 0) (x.c 1,x.d 1) (x.c 2,x.d 2)∧x.pr.length≤3∧x.ps.length≤3∧fx x.ps=fx x.pr
 |⟨_,0,_,_,_⟩,_=>⟨.head _,lB0 rfl,lB0 rfl,lH _ []⟩
 |⟨_,1,c,d,_⟩,_=>⟨.tail _ (.head _),lB0 rfl,lB0 rfl,lH (c 0,d 0) [(c 1,d 1)]⟩
 |⟨_,2,c,d,_⟩,_=>⟨.tail _ (.tail _ (.head _)),lB0 rfl,lB0 rfl,lH (c 0,d 0) [(c 1,d 1),(c 2,d 2)]⟩
 |⟨_,n+3,_,_,_⟩,h=>absurd h (Nat.not_lt.mpr (Nat.le_add_left 3 n))
theorem v5:∀c∈ah 35,kJ c∈ah 54:=by decide +kernel
theorem KR(kd:Nat):Of kd∈k2:=match kd with
 |0=> .head _
 |1=> .head _
 |2=> .head _
 |3=> .tail _ (.head _)
 |n+4=> .head _
structure p5(x:IL):Prop where
 n:x.n<3
 k:x.k∈k2
 c:∀i,x.c i∈ah 35
 d:∀i,x.d i∈ah 54
variable {x:IL}
theorem Fk{P:Nat→Prop}{f:Nat→Nat}(h:∀i,P (f i)){a:Nat}(m:a∈((ah n).map λi=>f (i+1))++[f 0]):P a:=(List.mem_append.mp m).elim (λm=>(List.mem_map.mp m).elim λi y=>y.2▸h _) λm=>List.mem_singleton.mp m▸h 0
theorem p5.il(h:p5 x):nK x:=
 ⟨λb=>List.mem_flatMap.mpr ⟨x.n,mR0 h.n,List.mem_flatMap.mpr ⟨x.k,h.k,List.mem_map.mpr ⟨b,match b with
  |true=> .head _
  |false=> .tail _ (.head _),rfl⟩⟩⟩,λq hq=>have z:=List.of_mem_zip hq; ⟨Fk h.c z.1,Fk h.d z.2⟩,Nat.lt_of_le_of_lt (nL h.n).2.2.1 (by decide)⟩
theorem H3(h:p5 x):(gX x.k&&fx x.pr)=cL x:=by
 unfold cL
 rw[Ct h.il.p,(nL h.n).2.2.2]
 cases gX x.k <;> rfl
noncomputable def uK(w:World)(K:Frag):Prop:=∀{m k:Nat}{v:AV}{σ:ac},k<3→am w K m (.g 244) [v] σ [(m9 k,σ)]→am w K (m+4) (.g 401) [v] σ [(.ok (.str (ix k)),σ)]
theorem MB:∀b:Bool,∀i<4,qN b i<3:=by decide +kernel
end
section
variable {x:IL}{l:List Dr}(T:aE K)(dz:DZ w K)(rz:RZ w K)(h:p5 x)
include T dz rz h
theorem zI:aD w K 113 (ji oa) ((fJ.body.drop 8).take 5) (gz l x) [(.ok (.next,gn (cL x)),eL l x 0)]:=by
 have m:=az (Nt x.c x.d l) h.il.mem
 have p:=nL h.n
 have due:am w K 57 (.g 425) [.obj 2, .obj 3, .obj 4] (gz l x) [(.ok (.bool (cL x)),gz l x)]:=H3 h▸(Dy T dz rz h.k p.1 (λq hq=>(List.mem_map.mp hq).elim λi y=>y.2▸⟨h.c _,h.d _⟩) p.2.1).elim λσ' y=>
  .keep (l:=fW x.pr x.k) (is:=[2,3,4]) y.1 y.2.1 (by kernel_rfl) y.2.2 rfl (.ren (cA0 (·.1) m) (cA0 (·.2.1) m)) (cA0 (·.2.2.1) m) (.g _) (.cons (.obj 0 ⟨rfl,rfl⟩) (.cons (.obj 1 ⟨rfl,rfl⟩) (.cons (.obj 2 ⟨rfl,rfl⟩) .nil))) λ_=> .ok (.bool _)
 have like:am w K 73 (.g 230) [.obj 5, .obj 9, .obj 13, .obj 17] (gz l x) [(.ok (.bool (cL x)),gz l x)]:=EK (x:=x.fr false) (is:=ng 16) T dz rz ⟨h.il.m,h.il.p,h.il.l⟩ rfl (cA0 (·.2.2.2.1) m) (cA0 (·.2.2.2.2) m)
 exact .of (m:=73) (n:=40) T dz rz (((bM due).up (by decide)).sp2 (bM like)) aH (KK bF bF)
theorem zS(ft:uK w K):aD w K 199 (ji (gn (cL x))) (fJ.body.drop 13) (eL l x 0) [(.ok (.ret (.bool true),gn (cL x)),eL l x 3)]:=by
 have z:=λi (hi:i<4)=>Prod.mk.inj (az (az (Jx x.c x.d l) h.il.mem) (mR0 hi))
 have q:∀i,i<4→am w K 159 (.g 401) [.obj 22] (eL l x i) [(.ok (.str (ix (qN (cL x) i))),eL l x i)]:=λi hi=>ft (MB _ i hi) ((cA0 (λj=>am w K 155 (.g 244) [.obj j] _ _) (cA0 (·.2.2.2) (z i hi).2)).mp (Pl (is:=ng (29+i)) T dz rz h.il hi (cA0 (·.2.1) (z i hi).2) (z i hi).1 (cA0 (·.1) (z i hi).2)))
 exact .of (m:=159) (n:=40) T dz rz (fG (p:=λ_ σ=>σ.n-34) (St:=λi=>([.obj 22],eL l x i)) (ok:=(· < 4)) (o:=λi=>[(.ok (.str (ix (qN (cL x) i))),eL l x i)]) q) aH (H4 λi hi=>eA (c:=i) (cA0 (·.2.2.1) (z i hi).2) hi)
theorem L6(ft:uK w K){L:List Dr}(c:aD w K 80 (ji []) (fJ.body.take 8) (au (j1 L)) [(.ok (.next,oa),gz l x)]):am w K 202 (.g 435) [.obj 0] (au [.tr L]) [(.ok (.bool true),eL l x 3)]:=
 am.up (m:=201) (by decide) (.row (m:=199) (b:=fJ.body) T dz rz (.seq (b1:=fJ.body.take 8) (b2:=fJ.body.drop 8) T (c.up (by decide)) (.seq (b1:=(fJ.body.drop 8).take 5) (b2:=fJ.body.drop 13) T ((zI T dz rz h).up (by decide)) (zS T dz rz h ft))) (λss=>rfl) rfl)
end
noncomputable abbrev TT:=List (Nat×Nat)
noncomputable def PV(t v:Nat)(l:List TT):List TT:=l.flatMap λr=>List.rec [] (λq r _=>cond (Nat.beq q.1 t&&Nat.beq q.2 v) [r] []) r
noncomputable def pt(l:List TT):Nat:=((l.headD []).headD (0,0)).1
noncomputable def Om(n:Nat)(l:List TT):Bool:=Nat.rec (motive:=λ_=>List TT→Bool) (λl=>l.any bC) (λ_ ih l=>l.any bC||(Nat.blt 0 (pt l)&&(ah (pt l)).all λv=>ih (PV (pt l) v l))) n l
theorem JZ:∀{l:List TT},Om n l=true→∀s,∃r∈l,∃s',gF r s s':=by
 have z:∀{l:List TT},l.any bC=true→∀s,∃r∈l,∃s',gF r s s':=λh s=>(List.any_eq_true.mp h).elim λr y=>⟨r,y.1,match r,y.2 with
  |[],_=>⟨s,rfl⟩⟩
 induction n with
 |zero=>exact z
 |succ n ih=>exact λ{l} h s=>(Bool.or_eq_true_iff.mp h).elim (λh=>z h s) λh=>aw h λy1 y2=>
   (ih (List.all_eq_true.mp y2 (bp s (pt l)).1 (mR0 (bT s (dN y1)))) (bp s (pt l)).2).elim λr x=>(List.mem_flatMap.mp x.1).elim λr0 p=>match r0,p with
    |[],p=>absurd p.2 List.not_mem_nil
    |(a,b)::r1,p=>by
     have p2:r∈cond (Nat.beq a (pt l)&&Nat.beq b (bp s (pt l)).1) [r1] []:=p.2
     cases e:(Nat.beq a (pt l)&&Nat.beq b (bp s (pt l)).1) with
     |false=>rw[e] at p2; exact absurd p2 List.not_mem_nil
     |true=>
      rw[e] at p2
      exact aw e λea eb=>⟨_,p.1,x.2.imp λs' h=>(cA0 (λt=>(bp s t).1=b∧gF r1 (bp s t).2 s') (eB0 ea)).mpr ⟨(eB0 eb).symm,List.mem_singleton.mp p2▸h⟩⟩
theorem Hk:∀k∈ah 3,Om 9 ((mX k).map (·.1))=true:=by decide +kernel
theorem Jf:∀k∈[1,2],∀q∈mX k,q.2∈ah (iZ k):=by decide +kernel
theorem uX(h:k∈ah 3)(s:Int×Int):∃c s',(k∈[1,2]→c∈ah (iZ k))∧yz k c s s':=(JZ (Hk k h) s).elim λr y=>(List.mem_map.mp y.1).elim λq z=>y.2.elim λs' x=>⟨q.2,s',λh=>Jf k h q z.1,q.1,z.1,z.2▸x⟩
theorem FM(n:Nat):∀s,∃V s',V.length=n∧rB V s s':=by
 have m:∀(n:Nat)(s:Int×Int),∃cs s',n=cs.length∧rG 0 cs s s':=λn=>by
  induction n with
  |zero=>exact λs=>⟨[],s,rfl,rfl⟩
  |succ n ih=>exact λs=>(uX (k:=0) (by decide) s).elim λc y=>y.elim λs1 y=>(ih s1).elim λcs z=>z.elim λs2 z=>⟨c::cs,s2,cA0 _ z.1,s1,y.2,z.2⟩
 induction n with
 |zero=>exact λs=>⟨[],s,rfl,rfl⟩
 |succ n ih=>exact λs=>(m (bp s 3).1 (bp s 3).2).elim λcs y=>y.elim λs1 y=>(ih s1).elim λV z=>z.elim λs2 z=>⟨cs::V,s2,cA0 _ z.1,s1,y.1,y.2,z.2⟩
theorem p8(s:Int×Int):∃(A:HV) (s':Int×Int),kW A.2∧DX A.1 A.2 s s':=
 (FM (1+(match (bp s 2).1 with |0=>(bp (bp s 2).2 2).1 |_=>0)) (bp (bp s 2).2 2).2).elim λV y=>y.elim λs2 y=>⟨(_,V),s2,(w3 y.1 (bT s (by decide)) (bT _ (by decide)) (tg (l:=[]) trivial V _ y.2).2).1,_,_,_,⟨rfl,rfl,rfl⟩,rfl,y.1,y.2⟩
theorem zr(s:Int×Int):∃(A B C:HV) (s':Int×Int),si [A,B,C]∧∀l,df l s'→df (jw [A,B,C] l) s:=
 (p8 s).elim λA y=>y.elim λs1 y=>(p8 s1).elim λB z=>z.elim λs2 z=>(p8 s2).elim λC x=>x.elim λs3 x=>⟨A,B,C,s3,List.forall_mem_cons.mpr ⟨y.1,List.forall_mem_cons.mpr ⟨z.1,List.forall_mem_cons.mpr ⟨x.1,λ_ h=>absurd h List.not_mem_nil⟩⟩⟩,λl h=>⟨_,y.2,_,z.2,_,x.2,h⟩⟩
noncomputable def FA(l L:List Dr):Prop:=∃c e s,s∈tU∧p5 (yZ c e s)∧L=pN c e s l
theorem M7{c:Nat→Nat}{e kd:Nat}{o:Option Nat}(hn:n<3)(ho:o∈none::(ah (n+1)).map some)(hk:kd<4)(hc:∀i,c i∈ah 35)(he:e∈ah 54):(n,o,kd)∈tU∧p5 (yZ c e (n,o,kd)):=
 ⟨List.mem_flatMap.mpr ⟨n,mR0 hn,List.mem_flatMap.mpr ⟨o,ho,List.mem_map.mpr ⟨kd,mR0 hk,rfl⟩⟩⟩,hn,KR kd,hc,λi=>match o with
  |none=>v5 _ (hc i)
  |some a=>by
   show cond (Nat.beq i a) e (kJ (c i))∈_
   cases Nat.beq i a
   ·exact v5 _ (hc i)
   ·exact he⟩
theorem Fc(s:Int×Int):∃s',∀l,df l s'→∃L,FA l L∧df L s:=by
 refine(Classical.skolem.mp λs:Int×Int=>(uX (k:=1) (by decide) s).elim λc y=>y.elim λs' y=>(⟨(c,s'),y.1 (.head _),y.2⟩:∃p:Nat×Int×Int,p.1∈ah 35∧yz 1 p.1 s p.2)).elim λf hf=>?_
 let st:Nat→Int×Int:=λn=>Nat.rec (bp s 3).2 (λ_ s=>(f s).2) n
 let c:Nat→Nat:=λi=>(f (st i)).1
 have m:∀n l,df l (st n)→df ((ah n).map (λi=> .mac 1 (c i))++l) (bp s 3).2:=λn=>by
  induction n with
  |zero=>exact λl h=>h
  |succ n ih=>
   intro l h
   rw[show ah (n+1)=ah n++[n] from List.range_succ,List.map_append,List.append_assoc]
   exact ih _ ⟨_,(hf (st n)).2,h⟩
 have n3:=bT s (t:=3) (by decide)
 let s1:=st ((bp s 3).1+1)
 have go:∀o e kd l,o∈none::(ah ((bp s 3).1+1)).map some→kd<4→e∈ah 54→df (pN c e ((bp s 3).1,o,kd) l) s→∃L,FA l L∧df L s:=λo e kd l ho hk he h=>have z:=M7 n3 ho hk (λi=>(hf (st i)).1) he; ⟨_,⟨c,e,_,z.1,z.2,rfl⟩,h⟩
 match b:(bp s1 2).1,bT s1 (t:=2) (by decide) with
 |1,_=>exact⟨_,λl h=>go none 0 _ l (.head _) (bT (bp s1 2).2 (by decide)) (by decide) ⟨_,⟨rfl,rfl⟩,m _ _ ⟨_,⟨b,rfl⟩,_,⟨rfl,rfl⟩,h⟩⟩⟩
 |0,_=>exact(uX (k:=2) (by decide) (bp (bp s1 2).2 ((bp s 3).1+1)).2).elim λe y=>y.elim λs2 y=>⟨_,λl h=>go (some _) e _ l (.tail _ (List.mem_map.mpr ⟨_,mR0 (bT (bp s1 2).2 (Nat.succ_pos _)),rfl⟩)) (bT s2 (by decide)) (y.1 (.tail _ (.head _))) ⟨_,⟨rfl,rfl⟩,m _ _ ⟨_,⟨b,rfl⟩,_,⟨rfl,rfl⟩,_,y.2,_,⟨rfl,rfl⟩,h⟩⟩⟩
 |n+2,h=>exact absurd h (Nat.not_lt.mpr (Nat.le_add_left 2 n))
section
variable {L l:List Dr}{m:Nat}
theorem ut(c:am w K m (.g k) [.obj 0] (au [.tr L]) [(.ok (.bool true),σ')])(g0:σ'.get 0=some (.tr l))(hn:1≤σ'.n)(hi:σ.get i=some (.tr L))(hr:aK σ [i]=true):am w K m (.g k) [.obj i] σ [(.ok (.bool true),σ.set i (.tr l))]:=
 c.lift (n0:=1) (e:=aX [i]) (fc.of (l:=[.tr L]) rfl (.ren (cA0 (λa=>[a]) hi) rfl) hr) (.g _) (.cons (.obj 0 ⟨rfl,rfl⟩) .nil) (.one (js:=[]) (ch:=[(0, .tr l)]) (nw:=[]) (.ok (.bool _)) { n:=hn,same:=λj hj h=>(by cases (Nat.lt_one_iff.mp hj); cases h),ch:=λq hq=>List.mem_singleton.mp hq▸⟨Nat.one_pos,_,g0, .tr _⟩,bd:=λ_ h=>absurd h List.not_mem_nil,new:=λ_ _ h=>al h,len:=rfl,ap:=rfl })
end
section
variable {h B:Heap}{L e:Addr}
theorem zs{M:Model}{cls a0:Value}{Q:Unit→Shared→Prop}(hfr:A.frames=some (env::frs))(hf:env.frame=some L)(hb:B.StaysIn h)(hn:B.get? e=none)(hl:h.FunFrames B (env::frs))(x:Fb h B e cls a0)
  (k:∀h',Heap.HeldW B (env::frs) e cls a0 L h'→h.UpToSlots h'→Q () ⟨h',g,d,tk,os⟩):wpAny M A (noteFrame (.ref e) env) Q E ⟨h,g,d,tk,os⟩:=
 x.elim (λx=>x.elim λoe x=>x.elim λvs x=>by
  unfold noteFrame
  simp only[hf]
  refine wpAny_bind (wpAny_field x.1 x.2.2.1 x.2.2.2.2 ?_)
  rw[if_neg (by decide:¬((Value.none != Value.none)=true))]
  have e:=x.2.1
  subst e
  exact wpAny_entryW hfr hl hf x.1 hb hn x.2.2.1 (Array.getElem?_eq_some_iff.mp x.2.2.2.2).1 x.2.2.2.1 λh' y=>k h' ⟨y.1,hn,y.2.1,y.2.2.1⟩ y.2.2.2)
  λx=>wpAny_looks_onW hfr hf ⟨hb,hn,hl,x⟩ k
theorem Ax{M:Model}{nm q nm' q':Str}{C N C' N':Addr}{bs bm bs' bm':List Value}{hdct hdct':Bool}{sn sn':List Str}{sub sub':List Value}{ab ab':Bool}{col col':Option Bool}{dd dd':Option Addr}{k0 k1 k2 k3 k5 l0 l1 l2 l3 l5:Option Value}{nw nw':String}{oe:Obj}{Q:Bool→Shared→Prop}
  (hC:h.get? C=some (excClassObj nm q C N bs bm hdct sn sub ab col dd k0 k1 k2 k3 k5 nw)) (hD:h.get? C'=some (excClassObj nm' q' C' N' bs' bm' hdct' sn' sub' ab' col' dd' l0 l1 l2 l3 l5 nw')) (he:h.get? e=some oe) (hcls:oe.cls = .ref C)
  (hbase:bm'.contains (.type "BaseException")=true) (hno:(Value.ref C::bm).contains (.ref C')=false) (hq:Q false ⟨h,g,d,tk,os⟩):wpAny M A (excMatches (.ref e) (.ref C')) Q E ⟨h,g,d,tk,os⟩:=by
 have hcB:(Value.ref C'::bm').contains (.type "BaseException")=true:=by rw[List.contains_cons,hbase,Bool.or_true]
 have f:=tc_notTuple
 unfold excMatches
 repeat (first|(with_reducible refine wpAny_loadPart_at he ?_; rw[hcls]) |with_reducible refine wpAny_loadPart_at hD ?_ |(with_reducible refine wpAny_isSubtype_exc hD ?_; rw[hcB]) |(with_reducible refine wpAny_isSubtype_exc hC ?_; rw[hno]) |wp_step)
 exact hq
end
section
noncomputable def CT:List (Nat×NameKind):=[(170, .local),(143,gI),(89,gI),(94,gI)]
noncomputable def OH:List (Nat×Pos):=[(170,pz 324 15 21)]
noncomputable def Fq:MS:= .expr (.call (.name 143 (pz 326 8 19)) [.name 170 (pz 326 20 26)] (pz 326 8 27)) (pz 326 8 27)
noncomputable def yo(k:Nat)(p q:Pos):Stmt:= .Return (some (.Constant (.str (ae k)) 0 p)) q
noncomputable def Ok(x k:Nat)(p1 p2 p3 p4:Pos):ExceptHandler:= .ExceptHandler (some (.Name (ae x) p1)) none [yo k p2 p3] p4
noncomputable def Dl:List ExceptHandler:=[Ok 89 219 (pz 327 11 20) (pz 328 15 21) (pz 328 8 21) ⟨327,4,328,21⟩,Ok 94 119 (pz 329 11 21) (pz 330 15 22) (pz 330 8 22) ⟨329,4,330,22⟩]
noncomputable def uS:List Stmt:=[.Try (unSs [Fq]) Dl [] [] ⟨325,4,330,22⟩,yo 192 (pz 331 11 17) (pz 331 4 17)]
noncomputable def B8(K:Frag):Prop:=∃o fd,K.lookup 401=some o∧o.data = .func fd∧fd.scope=bZ CT []∧fd.body = .stmts uS∧fd.globals=mainGlobals∧fd.closure=[]∧fd.builtins=builtinsNs∧(∀h,K.In h→h.CodeRec fd.code fd.qualname)∧∀(s:Shared) u,BindsTo s fd ⟨[u],[]⟩ [(ae 170,u)]
variable {h h2 h3 B:Heap}{m c:Nat}{v:AV}
noncomputable def ya(v:AV):Ev:=⟨0,CT,[(170,v)],[]⟩
noncomputable def Fg(v:AV)(k:Nat):ax (Fl×ao):=[.ok (.next,[(170,v)]), .exc 0, .exc 1].getD k (.exc 1)
theorem IW(hk:k<3)(hm:(ax.exc c,σ')∈[(Fg v k,σ)]):σ=σ'∧c<2∧c+1=k:=by
 injection List.mem_singleton.mp hm with h1 h2
 match k,hk with
 |0,_=>cases h1
 |1,_=>cases h1; exact⟨h2.symm,by decide,rfl⟩
 |2,_=>cases h1; exact⟨h2.symm,by decide,rfl⟩
theorem Ll{p:Fl×ao}(hk:k<3)(hm:(ax.ok p,σ')∈[(Fg v k,σ)]):ix k=192∧σ'=σ∧p.1 = .next:=by
 injection List.mem_singleton.mp hm with h1 h2
 match k,hk with
 |0,_=>cases h1; exact⟨rfl,h2,rfl⟩
 |1,_=>cases h1
 |2,_=>cases h1
theorem Hh(T:aE K)(dz:DZ w K)(rz:RZ w K)(hk:k<3)(c:am w K m (.g 244) [v] σ [(m9 k,σ)]):aD w K (m+3) (ya v) [Fq] σ [(Fg v k,σ)]:=
 have e:bind (some [(m9 k,σ)]) (λ_ σ=>af (Fl.next,(ya v).loc) σ)=some [(Fg v k,σ)]:=match k,hk with
  |0,_=>rfl
  |1,_=>rfl
  |2,_=>rfl
 .of (m:=m) (n:=3) T dz rz (bM c) aH (aQ rfl ((gh rfl).trans ((cA0 (bind · _) (bt (a:= .g 244) (vs:=[v]) (σ1:=σ) rfl rfl rfl rfl (cg bF))).trans e)))
theorem aT.land(F:∀e∈frs,∃L o,e.frame=some L∧h2.get? L=some o∧∀vs,o.data≠ .fields vs)(s:aT w X frs h B h2 β β' σ σ')(k:B.StaysIn h3)(sz:h2.objs.size≤h3.objs.size)(sl:h2.UpToSlots h3):ar w X frs h h3 β β' σ σ':=
 { s with
  size:=lE0 s.size sz
  keep:=λa o e x1 x2 x3 x4=>k a o (s.keep a o e x1 x2 x3 x4)
  slots:=λenv he a o q e x=>(s.slots env he a o q e x).elim λs1 e1=>(F env he).elim λL z=>z.elim λo' z=>by
   cases sI (z.1.symm.trans q)
   cases sI (z.2.1.symm.trans e1)
   exact(sl _ _ e1 z.2.2).imp λ_ e=>e
  tups:=λa xs n hi e=>k _ _ (s.tups a xs n hi e)
  tabs:=λa ps ht e hp=>k _ _ (s.tabs a ps ht e hp)
  rel:={
       obj:=λi o e=>⟨(s.rel.obj i o e).1,(s.rel.obj i o e).2.mono (λa xs ep _ e=>k _ _ e) (λ_ _=>rfl) (Nat.le_refl _) (λa ps _ e _=>k _ _ e) (λo e=>k _ _ e)⟩
       lo:=λi hi=>⟨(s.rel.lo i hi).1,lT0 (s.hi i hi) sz⟩
       live:=λi hi=>(s.rel.live i hi).imp λo e=>k _ _ e
       inj:=s.rel.inj
       fact:=s.rel.fact }
  tab:=sN k s.tab
  hi:=λi hi=>lT0 (s.hi i hi) sz }
theorem uE{l:List Env}(hl:h.FunFrames B l){e:Env}(he:e∈l):∃L o,e.frame=some L∧h.get? L=some o∧∀vs,o.data≠ .fields vs:=by
 induction he with
 |head l=>exact hl.2.1.imp λL z=>z.imp λo z=>⟨z.1,z.2.2.1,z.2.2.2⟩
 |tail b _ ih=>exact ih hl.2.2
theorem w5{ev:Ev}{x c:Nat}{p:Pos}{Q:Value→Shared→Prop}(T:aE K)(S:St w K A' frs env h' β σ ev)(hx:look x ev.sc=some .globalImplicit)(e:ek x tabs.glob=some (.g (cS c)))(X:K.In h)(q:Q (.ref (cS c)) ⟨h,g,d,tk,os⟩) :
  wpAny (model ad w) A (eval (.Name (ae x) p) env) Q E ⟨h,g,d,tk,os⟩:=by
 refine wpAny_Name ?_ (gp x).1
 rw[loadName_read S.eok.kind (eU.is (k:= .globalImplicit) (S.eok.names x _ hx))]
 refine(T.glob x _ e h X).elim λu z=>?_
 cases (z.1 (λ_=>0) 0 λi hi=>absurd hi (Nat.not_lt_zero i)).inv
 exact z.2.elim (λz=>z.elim λmg z=>loadGlobal_global (by rw[S.eok.glob]; exact z.1) z.2 q) λz=>z.elim λmg z=>z.elim λmb z=>loadGlobal_builtin (by rw[S.eok.glob]; exact z.1) z.2.1 (by rw[S.eok.bi]; exact z.2.2.1) z.2.2.2 q
section
variable {QF:Flow→Shared→Prop}{EF:Value→Shared→Prop}{h1:Heap}{β1:Nat→Addr}{ob:Obj}{x:Addr}(T:aE K)(XK:tR K)(S1:St w K A' (env::frs) env h1 β1 σ (ya v))(c2:c<2)
include T XK S1 c2
theorem Hy(K4:K.In h)(hx:h.get? x=some ob)(hc:ob.cls = .ref (cS c))(fin:∀{A0 E0 E1 tk p1 p2},wpAny (model ad w) A0 (setFlight (.ref x) none) (λ_ s=>wpAny (model ad w) A0 (execs [yo (ix (c+1)) p1 p2] env) QF E0 s) E1 ⟨h,g,d,tk,os⟩):wpAny (model ad w) A (handleBy (.ref x) env Dl) QF EF ⟨h,g,d,tk,os⟩:=by
 obtain⟨cd,dd,k,hC,_⟩:=XK.cls c
 obtain⟨cd',dd',k',hC0,_⟩:=XK.cls 0
 have hC:=K4 _ _ hC
 refine wpAny_handleBy_cons (codeAny_handlers_test (w5 (c:=0) T S1 rfl rfl K4 ?_)) nofun
 cases Nat.le_one_iff_eq_zero_or_eq_one.mp (Nat.le_of_lt_succ c2) with
 |inl h0=>subst h0; exact wpAny_excMatches_sub_self hC hx hc rfl (codeAny_handlers_suite fin)
 |inr h0=>subst h0; exact Ax hC (K4 _ _ hC0) hx hc rfl rfl (wpAny_handleBy_cons (codeAny_handlers_test (w5 (c:=1) T S1 rfl rfl K4 (wpAny_excMatches_sub_self hC hx hc rfl (codeAny_handlers_suite fin)))) nofun)
theorem Ck(hf:env.frame=some env.locals)(t:d3 w (At env.locals) (env::frs) h1 h' β1 β' σ σ c x)(done:∀h2 i tk,ar w (At env.locals) (env::frs) h1 h2 β1 β' σ σ→QF (.ret (.str (ae (ix (c+1))) i)) ⟨h2,g,d,tk,os⟩) :
  wpAny (model ad w) A' (noteFrame (.ref x) env) (λ_ s=>wpAny (model ad w) A' (setFlight (.ref x) none) (λ_ s=>wpAny (model ad w) A' (handleBy (.ref x) env Dl) QF EF s) EF s) EF ⟨h',g,d,tk,os⟩:=
 t.elim λB t=>t.elim λa0 t=>aW (zs S1.fr hf t.2.1 t.2.2.1 t.2.2.2.1 t.2.2.2.2 λh3 f3 sl3 sz3=>aW (wpAny_landsW f3 λh4 f4 sl4 sz4=>f4.there.elim λob y=>
  Hy T XK S1 c2 (λa o e=>f4.1 _ _ (kD T.low S1.top S1.frok (λa z=>(show a=env.locals from z)▸S1.loL) S1.rel t.1 a o e)) y.1 y.2 (aW (lands_againW f4 λh5 f5 sl5 sz5=>
   wpAny_execs_cons (wpAny_Return_some (wpAny_Constant_str (done _ _ _ (aT.land (λ_=>uE t.2.2.2.1) t.1 f5.1 (lE0 sz3 (lE0 sz4 sz5)) ((sl3.trans sl4).trans sl5)))))))))
end
theorem Gm{Q:Value→Shared→Prop}{h1:Heap}{β1:Nat→Addr}(T:aE K)(XK:tR K)(dz:DZ w K)(rz:RZ w K)(hk:k<3)(c:am w K m (.g 244) [v] σ [(m9 k,σ)])(hA:gW A (m+3))
  (S1:St w K (A.deeper env) (env::frs) env h1 β1 σ (ya v)) (s1:ar w (λ_=>False) frs h h1 β β1 σ σ) (hf:env.frame=some env.locals) (hL:h.objs.size≤env.locals)
  (P:Post w os (λ_=>False) frs h β σ [(.ok (.str (ix k)),σ)] bO Q E):codeAny (model ad w) A (.func uS env) (D5 Q E) ⟨h1,g,d,tk,os⟩:=
 have hnone:h.get? env.locals=none:=Option.eq_none_iff_forall_ne_some.mpr λo q=>Nat.not_lt.mpr hL (Heap.lt_size q)
 have done:∀β' h' i tk,ar w (At env.locals) (env::frs) h1 h' β1 β' σ σ→Q (.str (ae (ix k)) i) ⟨h',g,d,tk,os⟩:=λ_ _ _ _ st=>P.ok _ _ (.head _) _ _ _ _ (.str _ _) (aT.hide (λa z=>(show a=env.locals from z)▸hnone) ((s1.weaken λ_ z=>z.elim).trans (aT.unframe hf st)))
 codeAny_func (wpAny_execs_cons (wpAny_Try_except ((Hh T dz rz hk c).ok hA.room S1 PassesOwn.looking ⟨λp σ' hm f β' h' tk' fr st=>by
  have z:=Ll hk hm
  have y:=fr.2
  rw[z.2.2] at y
  subst y
  exact wpAny_execs_nil (wpAny_execs_cons (wpAny_Return_some (wpAny_Constant_str (z.1▸done _ _ _ _ (z.2.1▸st))))),
  λc σ' hm x β' h' tk' t=>have z:=IW hk hm; Ck T XK S1 z.2.1 hf (z.1.symm▸t) λh2 i tk st=>z.2.2▸done _ h2 i tk st⟩)))
theorem DO(T:aE K)(XK:tR K)(F:B8 K)(dz:DZ w K)(rz:RZ w K):uK w K:=λ{m k v σ} hk c=>
 ⟨λ{A frs h β os tk E fv us Q} hA S hf hv P=>by
  cases hf.inv
  obtain⟨o,fd,ho,hd,hsc,hbo,hgl,hcs,hbi,hcr,hbd⟩:=F
  obtain⟨u,us1,rfl,ru,rv⟩:=hv.inv1
  rw[rv.inv0]
  have hA':gW A (m+3):=hA.near
  refine wpAny_call (codeAny_call_function hA'.depth (S.top _ _ ho) hd (by rw[hsc]; rfl) (by rw[hsc]; rfl) hbo (hcr _ S.top) (hbd _ u _ _ _ _ ?_))
  rw[hsc,hgl,hcs,hbi]
  exact lj (fast:=[]) T S rfl rfl qS ru λenv h' tk' S' s' hf hL=>⟨T.lim _ S'.top,Gm T XK dz rz hk c hA' S' s' hf hL P⟩⟩
end
noncomputable abbrev Q4:=Nat×Nat×Nat×Nat
noncomputable def rA(a:Nat):Nat:=[0,0,2,3,4,5].getD a 0
noncomputable def rC(c:Nat):Nat:=[0,0,0,3].getD c 0
noncomputable def rE(e:Nat):Nat:=[0,0,0,0,4].getD e 0
noncomputable def tJ(q:Q4):Q4:=(rA q.1,rA q.2.1,rC q.2.2.1,rE q.2.2.2)
noncomputable def IX(q:Q4):Bool:=Nat.blt q.1 3&&Nat.blt q.2.1 3&&Nat.blt q.2.2.1 3&&Nat.blt q.2.2.2 4
noncomputable def Pf(q:Q4)(l:List Dr):List Dr:= .take 5 q.1:: .take 6 q.2.1:: .take 4 q.2.2.1:: .take 5 q.2.2.2::l
noncomputable def pV(x:Nat):AV:= .tup [.str 26, .str x]
noncomputable def tW(a:Nat):AV:= .tup (([(186,187),(186,187),(187,186),(186,186),(186,168)].map λp:Nat×Nat=>[AV.str p.1, .str p.2]).getD a [])
noncomputable def oJ(b:Nat):AV:= .tup ([[pV 78,pV 182],[pV 78,pV 182],[pV 182,pV 78],[pV 78,pV 78],[pV 78,cH],[nC (pV 78),pV 182]].getD b [])
noncomputable def D8(c:Nat):AV:= .tup ([[],[],[],[.str 188]].getD c [])
noncomputable def sS(e:Nat)(g t:AV):AV:=[.tup [.str 14, .str 179,g,t], .tup [.str 14, .str 179,g,t], .tup [.str 14, .str 179,g,t], .tup [.str 14, .str 179,g,t],nC (pV 78)].getD e .none
noncomputable def Oh(l:List Dr)(i:Nat):List ai:=
 [.tr l, .dict [(.str 153, .none),(.str 62, .obj 3),(.str 63, .obj 4),(.str 130, .obj 5),(.str 103, .obj 6),(.str 141, .obj i),(.str 154, .obj 8),(.str 155, .obj 9)], .inst 356 1, .dict [(.str 179, .obj 13)], .dict [], .dict [], .dict [(.str 184, .obj 17)], .list [], .dict [], .dict [], .list [],
  .list [.tup [.str 179, .str 183, .obj 10]], .dict [(.str 75, .str 179),(.str 144, .str 34),(.str 22, .tup [.str 180, .str 181]),(.str 71, .tup [.str 78, .str 182]),(.str 63, .obj 11),(.str 145, .tup []),(.str 146, .bool false)], .inst 263 12, .dict [], .dict [],
  .dict [(.str 75, .str 184),(.str 71, .tup []),(.str 128, .obj 14),(.str 134, .obj 15)], .inst 305 16]
noncomputable def AA(l:List Dr):List ai:=Oh l 7++[.list ((ah 5).map tW), .list ((ah 6).map oJ)]
noncomputable def Iv(g t:AV):List ai:=[.list ((ah 4).map D8), .list [sS 0 g t], .list ((ah 4).map λe=>sS e g t), .list [sS 4 g t], .list ((ah 5).map λe=>sS e g t)]
noncomputable def kR(l:List Dr)(q:Q4):List ai:=Oh l 29++((AA l).drop 18++(Iv (tW q.1) (oJ q.2.1)++[.list [.tup [.str 78, .tup []], .tup [.str 182,D8 q.2.2.1]], .dict [],
  .dict [(.str 151, .int 0),(.str 22, .tup [.str 186, .str 187]),(.str 71, .obj 25),(.str 119, .str 184),(.str 120, .tup []),(.str 93,sS q.2.2.2 (tW q.1) (oJ q.2.1)),(.str 128, .obj 26),(.str 96, .int 0)], .inst 327 27, .list [.obj 28]]))
noncomputable def sy(q:Q4):List ai:=cond (Nat.blt q.1 3&&Nat.blt q.2.2.1 3) [.list [oJ 0,oJ 2]] []
noncomputable def xb(loc:ao):Ev:=⟨407,fR.sc,loc,[]⟩
noncomputable def yx(g t:AV):ao:=[(159, .obj 0),(170, .obj 2),(22,g),(78,pV 78),(182,pV 182),(68,t)]
noncomputable def IG(q:Q4):ao:=yx (tW q.1) (oJ q.2.1)++[(116,D8 q.2.2.1),(189,sS q.2.2.2 (tW q.1) (oJ q.2.1))]
noncomputable def Ju(q:Q4)(b:Bool):ao:=IG q++[(98, .bool b)]
noncomputable abbrev RT:=R tabs gC aJ 40
theorem Px(l:List Dr):(ah 5).map (λa=>(ah 6).map λb=>RT.s (xb [(159, .obj 0)]) (fR.body.take 6) (au [.tr (.take 5 a:: .take 6 b::l)]))=(ah 5).map λa=>(ah 6).map λb=>af (.next,yx (tW (rA a)) (oJ (rA b))) (au (AA l)):=by kernel_rfl
theorem Pj(l:List Dr)(g t:AV):(ah 4).map (λc=>(ah 5).map λe=>RT.s (xb (yx g t)) ((fR.body.drop 6).take 2) (au (AA (.take 4 c:: .take 5 e::l))))=(ah 4).map λc=>(ah 5).map λe=>af (.next,yx g t++[(116,D8 (rC c)),(189,sS (rE e) g t)]) (au (AA l++Iv g t)):=by kernel_rfl
noncomputable def k7(a:Nat):List Q4:=[0,2,3,4,5].flatMap λb=>[0,3].flatMap λc=>[0,4].map λe=>(a,b,c,e)
noncomputable def w9:List Q4:=k7 0++(k7 2++(k7 3++k7 4))
theorem sH{α β:Type}{f g:α→β}{l m:List α}(h:l.map f=l.map g)(k:m.map f=m.map g):(l++m).map f=(l++m).map g:=by rw[List.map_append,List.map_append,h,k]
theorem O5(l:List Dr):w9.map (λq=>((R0 40).s (xb (IG q)) ((fR.body.drop 8).take 3) (au (AA l++Iv (tW q.1) (oJ q.2.1))),(ah 30).map (au (kR l q++sy q)).get,(kR l q).all (jq λj=>Nat.blt j 30),aK (au (kR l q++sy q)) (ah 30),(au (kR l q++sy q)).get 0,Nat.ble 1 (au (kR l q++sy q)).n))=w9.map λq=>(af (.next,Ju q (IX q)) (au (kR l q++sy q)),((kR l q).map (cK (aX (ah 30)))).map some,true,true,some (.tr l),true):=by kernel_rfl
noncomputable abbrev AI(l:List Dr)(N:Nat)(m:List Q4):Prop:=m.map (λq=>cv 30 N (aX (ah 30)) ni [] ((R0 60).c (.g 244) [.obj 2] (au (kR l q))))=m.map λq=>some (m9 (cond (IX q) 0 2),aG 30 (au (kR l q)) [] [])
theorem Nn(l:List Dr)(N:Nat):AI l N (k7 0):=by kernel_rfl
theorem NI(l:List Dr)(N:Nat):AI l N (k7 2):=by kernel_rfl
theorem MD(l:List Dr)(N:Nat):AI l N (k7 3):=by kernel_rfl
theorem Mx(l:List Dr)(N:Nat):AI l N (k7 4):=by kernel_rfl
theorem KL(l:List Dr)(N:Nat):AI l N w9:=sH (Nn l N) (sH (NI l N) (sH (MD l N) (Mx l N)))
theorem KE:∀a∈ah 5,∀b∈ah 6,∀c∈ah 4,∀e∈ah 5,tJ (a,b,c,e)∈w9:=by decide +kernel
theorem Ia{s:dY}{q:Q4}{b:Bool}(hs:s [.obj 2] σ=some (some [(.ok (.str (ix (cond b 0 2))),σ)])):(R tabs (bh 401 s) aJ 40).s (xb (Ju q b)) (fR.body.drop 11) σ=af (.ret (.bool true),Ju q b) σ:=
 aQ rfl (bq (pA (q:=true) (bt (a:= .g 401) (vs:=[.obj 2]) rfl rfl rfl rfl (cg hs)) (show _=af (.str (ix (cond b 0 2))) σ by cases b <;> rfl) (by cases b <;> rfl)) rfl)
section
variable {L l:List Dr}
noncomputable def IJ(l L:List Dr):Prop:=∃q:Q4,q.1∈ah 5∧q.2.1∈ah 6∧q.2.2.1∈ah 4∧q.2.2.2∈ah 5∧L=Pf q l
theorem Fz(s:Int×Int):∃s',∀l,df l s'→∃L,IJ l L∧df L s:=
 ⟨_,λl h=>⟨_,⟨(_,_,_,_),mR0 (bT s (by decide)),mR0 (bT _ (by decide)),mR0 (bT _ (by decide)),mR0 (bT _ (by decide)),rfl⟩,_,⟨rfl,rfl⟩,_,⟨rfl,rfl⟩,_,⟨rfl,rfl⟩,_,⟨rfl,rfl⟩,h⟩⟩
theorem Hg(T:aE K)(dz:DZ w K)(rz:RZ w K)(ft:uK w K)(h:IJ l L)(hi:σ.get i=some (.tr L))(hr:aK σ [i]=true):am w K 106 (.g 408) [.obj i] σ [(.ok (.bool true),σ.set i (.tr l))]:=
 h.elim λq y=>by
  have e:=y.2.2.2.2
  subst e
  have hq:=KE _ y.1 _ y.2.1 _ y.2.2.1 _ y.2.2.2.1
  have a:=Prod.mk.inj (az (O5 l) hq)
  have b:∀p:Bool,cond p 0 2<3:=by decide
  have chk:am w K 60 (.g 244) [.obj 2] (au (kR l (tJ q)++sy (tJ q))) [(m9 (cond (IX (tJ q)) 0 2),au (kR l (tJ q)++sy (tJ q)))]:=
   am.run (m:=0) (k:=60) (l:=kR l (tJ q)) (is:=ah 30) (ch:=[]) (nw:=[]) T dz rz bf aH (by decide) (.ren (cA0 (·.1) a.2) (cA0 (·.2.1) a.2)) (cA0 (·.2.2.1) a.2) (.g _) (.cons (.obj 2 ⟨rfl,rfl⟩) .nil) (az (KL l _) hq)
  have s1:=λl=>aD.of (m:=12) (n:=40) T dz rz (fV T dz rz) aH (az (az (Px l) y.1) y.2.1)
  have s2:=λg t=>aD.of (m:=12) (n:=40) T dz rz (fV T dz rz) aH (az (az (Pj l g t) y.2.2.1) y.2.2.2.1)
  exact ut (.row (m:=104) (b:=fR.body) T dz rz (.seq (b1:=fR.body.take 6) (b2:=fR.body.drop 6) T ((s1 _).up (by decide)) (.seq (b1:=(fR.body.drop 6).take 2) (b2:=fR.body.drop 8) T ((s2 _ _).up (by decide)) (.seq (b1:=(fR.body.drop 8).take 3) (b2:=fR.body.drop 11) T ((aD.of (m:=0) (n:=40) T dz rz bf aH a.1).up (by decide)) (.of (m:=64) (n:=40) T dz rz (bM (ft (b _) chk)) aH (Ia bF))))) (λss=>rfl) rfl) (cA0 (·.2.2.2.1) a.2) (lB0 (cA0 (·.2.2.2.2) a.2)) hi hr
end
noncomputable def mS(K:Frag)(xs:List Int):Prop:=∃ts,xs.length≤63∧(∀h,K.In h→h.IsList 443 (List.toArray ts))∧∀h β n,ValsR h β n (xs.map .int) ts
noncomputable def gk(loc:ao):Ev:=⟨366,fZ.sc,loc,[]⟩
noncomputable def K8:ao:=[(217, .g 443),(66, .int 0)]
noncomputable def ew(c:Int):ao:=[(217, .g 443),(66, .int 0),(226, .int c)]
noncomputable def yi(c b m:Int):ao:=ew c++[(227, .int b),(229, .int m)]
noncomputable def kO(xs:List Int):Int:=xs.headD 0
noncomputable def jd(c:Int):Int:=if c < -1-c then -1-c else c
noncomputable def Ex(b:Int):Int:=(b % 2147483629+7919 * 0 * 0+31 * 0+17) * 48271 % 2147483647
noncomputable def tj(b:Int):Int:=cond (!i0 b 1000000000000000000) (b * 1) (b * 0)
noncomputable def rI:ME:= .sub (.name 217 (pz 281 15 21)) (.name 66 (pz 281 22 23)) (pz 281 15 24)
noncomputable def rV:MS:= .asg (.name 226 (pz 281 8 12)) rI (pz 281 8 24)
noncomputable def EM(c:Int):aP:=⟨λev x σ=>open Classical in if ev=gk (ew 0)∧x=rI then some [(.ok (.int c),σ)] else none,λ_ _ _=>none,λ_ _ _=>none,λ_ _ _=>none⟩
noncomputable def yj(n:Nat)(σ0:ac):Sp:=λf vs σ=>open Classical in if f = .b 0∧vs=[.g 443]∧σ=σ0 then some (some [(.ok (.int (.ofNat n)),σ)]) else none
section
variable {xs:List Int}
theorem Ah(X:mS K xs):bK w K 0 (yj xs.length σ):=λf vs σ' outs e=>by
 unfold yj at e
 split at e
 ·rename_i z
  obtain⟨rfl,rfl,rfl⟩:=z
  cases sI (sI e)
  exact⟨λ{A frs h β os tk E fv us Q} hA S hf rv P=>X.elim λts x=>by
   cases hf.inv
   obtain⟨v1,us1,rfl,r1,rv⟩:=rv.inv1
   rw[rv.inv0]
   cases r1.inv
   have hlen:xs.length=ts.toArray.size:=(List.length_map _).symm.trans ((x.2.2 h β σ'.n).length.trans List.size_toArray.symm)
   have hl:=x.1
   exact call_len_list (x.2.1 h S.top) (by omega) (P.same S (by rw[←hlen]; exact .int _ _))⟩
 ·exact al e
theorem G5{c:Int}{r:List Int}(T:aE K)(X:mS K (c::r)):aD w K 0 (gk (ew 0)) [rV] σ [(.ok (.next,ew c),σ)]:=by
 have H:dF w K (EM c) 0:=
  {
   e:=λ{A frs env h β σ ev x outs os tk Q E} hA S e hE P=>by
    by_cases z:ev=gk (ew 0)∧x=rI
    ·cases sI ((if_pos z).symm.trans e)
     obtain⟨rfl,rfl⟩:=z
     show wpAny (model ad w) A (eval (.Subscript (.Name (ae 217) (pz 281 15 21)) (.Name (ae 66) (pz 281 22 23)) (pz 281 15 24)) env) Q E _
     refine Subscript_ (er T S (x:=217) (v:= .g 443) rfl λu1 tk1 r1=>er T S (x:=66) (v:= .int 0) rfl λu2 tk2 r2=>X.elim λts x=>?_)
     cases r1.inv
     obtain⟨t2,rfl⟩:=r2.inv
     obtain⟨v1,us1,rfl,rv1,_⟩:=(x.2.2 h β σ.n).inv1
     have hx:=x.2.1 h S.top
     exact kba_turn (value':= .Name (Str.ofString "x") (pz 0 0 0)) (λ_=>rfl) (tail_any (T:="list") (hx.imp λo z=>⟨z.1,z.2.1⟩:Shared.TypeIs ⟨h,g,d,tk2,os⟩ (.ref 443) "list") PySem.slot_list_getitem.lookup (wpAny_getItem_list hx (by decide) (by decide) (x:=v1) rfl (P.same S.toSit (show bO h β σ.n _ _ from rv1))) (eh (.int 0 (pz 0 0 0)) _ _))
    ·exact al ((if_neg z).symm.trans e)
   t:=λ_ _ e=>al e
   s:=λ_ _ e=>al e
   c:=λ_ _ e=>al e }
 have e1:(EM c).e (gk (ew 0)) rI σ=af (.int c) σ:=if_pos ⟨rfl,rfl⟩
 have e:ba tabs (EM c) (gk (ew 0)) rV σ=some [(.ok (.next,ew c),σ)]:=(cA0 (λo=>bind o λv σ=>bind (cR (EM c) (gk (ew 0)) 5 (ew 0) (.name 226 (pz 281 8 12)) v σ) λloc σ=>af (Fl.next,loc) σ) e1).trans rfl
 exact⟨λ{A frs env h β os tk E Q} hA S hE P=>by
  show wpAny (model ad w) A (execs [i8 rV] env) Q E _
  refine wpAny_execs_cons (Fy (outs:=[(.ok (.next,ew c),σ)]) T H hA hE S ⟨λp σ' hm f β' h' tk' r st=>?_,λc σ' hm=>nomatch List.mem_singleton.mp hm⟩ e)
  cases List.mem_singleton.mp hm
  cases (r.2:f = .next)
  exact wpAny_execs_nil (P.ok _ _ (.head _) _ _ _ _ r st)⟩
theorem Gi(T:aE K)(dz:DZ w K)(rz:RZ w K)(X:mS K xs):aD w K 16 (gk K8) (fZ.body.take 2) σ [(.ok (.next,ew (kO xs)),σ)]:=by
 have tst:∀{n:Nat}{ss:Ss},(R tabs (yj n σ) ss 15).t (gk (ew 0)) (.cmp .Lt (.name 66 (pz 280 7 8)) (.call (.name 55 (pz 280 11 14)) [.name 217 (pz 280 15 21)] (pz 280 11 22)) (pz 280 7 22)) σ=af (Nat.blt 0 n) σ:=λ{n ss}=>dg (va:= .int 0) rfl (bt (a:= .b 0) (vs:=[.g 443]) rfl rfl rfl rfl (cg (if_pos ⟨rfl,rfl,rfl⟩))) (by cases n <;> rfl)
 refine .seq (b1:=fZ.body.take 1) (b2:=(fZ.body.drop 1).take 1) T (.of (m:=0) (n:=16) T dz rz bf aH (show(R tabs bR aJ 16).s (gk K8) (fZ.body.take 1) σ=af (Fl.next,ew 0) σ from rfl)) ?_
 cases xs with
 |nil=>exact .of (m:=0) (n:=16) T dz rz (Ah X) aH (aQ rfl ((bl tst).trans rfl))
 |cons c r=>exact .of (m:=0) (n:=16) (ss:=lL (λ_ _ _=>()) (λ_=>(gk (ew 0),[rV],σ)) (λ_=>True) λ_=>[(.ok (.next,ew c),σ)]) T dz rz (Ah X) (jx λ_ _=>G5 T X) (aQ (pQ λ_ z=>nomatch (List.cons.inj (Prod.mk.inj (Prod.mk.inj z).2).1).1) ((bl tst).trans (pJ (im (c:=()) rfl trivial))))
theorem I4(c b m:Int):(R tabs bR aJ 16).s (gk (yi c b m)) (fZ.body.drop 4) σ=af (.ret (.obj σ.n),yi c b m) (σ.push (.list [.int (tj b), .int m])):=by
 have e1:(R tabs bR aJ 14).e (gk (yi c b m)) (.bin .Mult (.name 227 (pz 284 12 15)) (.call (.name 39 (pz 284 18 21)) [.cmp .GtE (.name 227 (pz 284 22 25)) (.bin .Pow (.int 10 (pz 284 29 31)) (.int 18 (pz 284 35 37)) (pz 284 29 37)) (pz 284 22 37)] (pz 284 18 38)) (pz 284 12 38)) σ=af (.int (tj b)) σ:=
  tc (va:= .int b) (vb:= .int (Bool.rec 0 1 (!i0 b 1000000000000000000))) rfl (bt (a:= .b 2) (vs:=[.bool (!i0 b 1000000000000000000)]) rfl rfl (bq (pA (va:= .int b) (vb:= .int 1000000000000000000) rfl rfl rfl) rfl) rfl (by cases !i0 b 1000000000000000000 <;> rfl)) (by unfold tj; cases !i0 b 1000000000000000000 <;> rfl)
 exact aQ rfl (bq (bq (bq e1 rfl) rfl) rfl)
theorem JP{c:Int}(h:Builtin.Int.intBits c≤1048576):BH (tj (jd c)) (Ex (jd c)):=by
 have b:0≤jd c∧(jd c).natAbs≤c.natAbs:=by unfold jd; split <;> omega
 have e:=intBits_le_of_natAbs b.2 h
 refine⟨?_,?_,Int.emod_nonneg _ (by decide),Int.emod_lt_of_pos _ (by decide)⟩ <;> unfold tj <;> cases !i0 (jd c) 1000000000000000000
 ·exact(Int.mul_zero _).symm▸Int.le_refl 0
 ·exact(Int.mul_one _).symm▸b.1
 ·exact(Int.mul_zero (jd c)).symm▸Nat.zero_le _
 ·exact(Int.mul_one (jd c)).symm▸lE0 e (by decide)
theorem Hx{L:List Dr}(T:aE K)(dz:DZ w K)(rz:RZ w K)(X:mS K xs)(hb:Builtin.Int.intBits (kO xs)≤1048576)(hA:df L (tj (jd (kO xs)),Ex (jd (kO xs)))) :
  am w K 18 (.g 367) [.g 443, .int 0] σ [(.ok (.obj σ.n),σ.push (.tr L))]:=
 am.conv (.row (m:=16) (b:=fZ.body) T dz rz (.seq (b1:=fZ.body.take 2) (b2:=fZ.body.drop 2) T (Gi T dz rz X) (.seq (b1:=(fZ.body.drop 2).take 2) (b2:=fZ.body.drop 4) T (.of (m:=0) (n:=16) T dz rz bf aH (show(R tabs bR aJ 16).s (gk (ew (kO xs))) ((fZ.body.drop 2).take 2) σ=af (Fl.next,yi (kO xs) (jd (kO xs)) (Ex (jd (kO xs)))) σ by kernel_rfl)) (.of (m:=0) (n:=16) T dz rz bf aH (I4 _ _ _)))) (λss=>rfl) rfl) (.one (.push .rfl (wZ (JP hb) hA)))
end
section
noncomputable def je(loc:ao):Ev:=⟨441,iG.sc,loc,[]⟩
noncomputable def Co:ao:=[(217, .g 443),(159, .obj 0)]
noncomputable def ei(k:Nat)(r:ao):ao:=Co++(19, .int (.ofNat k))::r
noncomputable def gZ(B:Nat)(c:Bool):ao:=[(170, .obj B),(218, .bool c)]
noncomputable def lT:List MS:=jn (iG.body.getD 1 dS)
noncomputable def dn(J:List ai)(l:List Dr):ac:=au (.tr l::J)
noncomputable def wG(B:Nat):List Nat:=(ah 24).map (· + B)
noncomputable def kZ(s1 s2 s3 s4:dY):Sp:=sp2 (bh 394 s1) (sp2 (bh 401 s2) (sp2 (bh 408 s3) (bh 435 s4)))
variable {s1 s2 s3 s4:dY}{r:ao}{B:Nat}{c:Bool}{σ3:ac}
theorem GZ(h1:s1 [.obj 0] σ=some (some [(.ok (.obj (B+24)),σ1)]))(h2:s2 [.obj B] σ1=some (some [(.ok (.str (ix (cond c 1 0))),σ1)]))(h3:s3 [.obj 0] σ1=some (some [(.ok (.bool true),σ2)]))(h4:s4 [.obj 0] σ2=some (some [(.ok (.bool true),σ3)]))
  (ha:cR (R tabs (kZ s1 s2 s3 s4) aJ 10) (je (ei i r)) 5 (ei i r) (.tup [(.name 170 (pz 415 8 14)),(.name 218 (pz 415 16 26))] (pz 415 8 26)) (.obj (B+24)) σ1=af (ei i (gZ B c)) σ1):(R tabs (kZ s1 s2 s3 s4) aJ 11).s (je (ei i r)) lT σ=af (.next,ei i (gZ B c)) σ3:=by
 have t:∀{a b:ME}{p:Pos}{k:Nat}{σ σ1 σ2:ac}{ev:Ev},(R tabs (kZ s1 s2 s3 s4) aJ k).t ev a σ=af false σ1→(R tabs (kZ s1 s2 s3 s4) aJ k).t ev b σ1=af false σ2→(R tabs (kZ s1 s2 s3 s4) aJ (k+1)).t ev (.bop .Or [a,b] p) σ=af false σ2:=λh1 h2=>bq h1 (bq h2 rfl)
 have l3:kZ s1 s2 s3 s4 (.g 408) [.obj 0] σ1=some (some [(.ok (.bool true),σ2)]):=(bP rfl).trans ((bP rfl).trans (dU h3))
 have l4:kZ s1 s2 s3 s4 (.g 435) [.obj 0] σ2=some (some [(.ok (.bool true),σ3)]):=(bP rfl).trans ((bP rfl).trans ((bP rfl).trans h4))
 exact aS (loc:=ei i (gZ B c)) rfl (f8 rfl rfl (bt (a:= .g 394) (vs:=[.obj 0]) rfl rfl rfl rfl (cg (dU h1))) ha)
  (aS (loc:=ei i (gZ B c)) rfl (.trans (bl (q:=false) (dg (bt (a:= .g 401) (vs:=[.obj B]) rfl rfl rfl rfl (cg ((bP rfl).trans (dU h2)))) (show _=af (.str (ix (cond c 1 0))) σ1 by cases c <;> rfl) (by cases c <;> rfl))) rfl)
  (aQ rfl (.trans (bl (q:=false) (t (rW (b:=true) (vj (bt (a:= .g 408) (vs:=[.obj 0]) rfl rfl rfl rfl (cg l3)))) (rW (b:=true) (vj (bt (a:= .g 435) (vs:=[.obj 0]) rfl rfl rfl rfl (cg l4)))))) rfl)))
end
section
variable {L1 L2 L3 L4 L5 l:List Dr}{A B C A' B' C':HV}{J:List ai}
structure Tn(J:List ai)(r:ao)(k n:Nat)(q:Ad×Ad×Ad)(c:Bool):Prop where
 len:∀l,(dn J l).n=n
 g0:∀l,(dn J l).get 0=some (.tr l)
 g1:∀l,(dn (J++eO n q c) l).get 0=some (.tr l)
 s:∀l l',(dn (J++eO n q c) l).set 0 (.tr l')=dn (J++eO n q c) l'
 p:∀L l,pushes (eO n q c) ((dn J L).set 0 (.tr l))=dn (J++eO n q c) l
 r0:∀l,aK (dn J l) [0]=true
 r1:∀l,aK (dn (J++eO n q c) l) [0]=true
 nd:b8 (wG n)=true
 a:aX (wG n) 0=n
 w:∀l,(wG n).map (dn (J++eO n q c) l).get=((wM q).map (cK (aX (wG n)))).map some
 rw:∀l,aK (dn (J++eO n q c) l) (wG n)=true
 u:∀s1 s2 s3 s4 l,cR (R tabs (kZ s1 s2 s3 s4) aJ 10) (je (ei k r)) 5 (ei k r) (.tup [(.name 170 (pz 415 8 14)),(.name 218 (pz 415 16 26))] (pz 415 8 26)) (.obj (n+24)) (dn (J++eO n q c) l)=af (ei k (gZ n c)) (dn (J++eO n q c) l)
theorem GH(T:aE K)(dz:DZ w K)(rz:RZ w K)(ft:uK w K)(h:FA l L1)(hi:σ.get i=some (.tr L1))(hr:aK σ [i]=true):am w K 202 (.g 435) [.obj i] σ [(.ok (.bool true),σ.set i (.tr l))]:=
 h.elim λc y=>y.elim λe y=>y.elim λs y=>ut (L6 (l:=l) T dz rz y.2.1 ft (Cd T dz rz y.1)) (by kernel_rfl) (lB0 (by kernel_rfl)) (hi.trans (cA0 (λL=>some (ai.tr L)) y.2.2)) hr
theorem FG(T:aE K)(dz:DZ w K)(rz:RZ w K)(ft:uK w K){r:ao}(t:Tn J r k n (qW A B C) (bW [A,B,C]))(v:si [A,B,C])(hd:IJ L2 L1)(hm:FA L3 L2) :
  aD w K 257 (je (ei k r)) lT (dn J (jw [A,B,C] L1)) [(.ok (.next,ei k (gZ n (bW [A,B,C]))),dn (J++eO n (qW A B C) (bW [A,B,C])) L3)]:=by
 have h:=C8 v
 have c1:=Kj (l:=L1) T dz rz h.1 (t.g0 _) (t.r0 _)
 rw[t.len,t.p] at c1
 have e:fK (chk (qW A B C))=m9 (cond (bW [A,B,C]) 1 0):=h.2.trans (by cases bW [A,B,C] <;> rfl)
 have c2:=ft (by cases bW [A,B,C] <;> decide) (e▸t.a▸H9 (is:=wG n) (q:=qW A B C) T dz rz t.nd (t.w L1) (t.rw _))
 have c3:=Hg (i:=0) T dz rz ft hd (t.g1 _) (t.r1 _)
 rw[t.s] at c3
 have c4:=GH (i:=0) T dz rz ft hm (t.g1 _) (t.r1 _)
 rw[t.s] at c4
 exact .of (m:=246) (n:=11) T dz rz ((bM (c1.up (by decide))).sp2 ((bM c2).sp2 ((bM (c3.up (by decide))).sp2 (bM (c4.up (by decide)))))) aH (GZ bF bF bF bF (t.u _ _ _ _ _))
end
theorem PI(q:Ad×Ad×Ad)(c:Bool):Tn [] [] 0 1 q c:=⟨λ_=>rfl,λ_=>by kernel_rfl,λ_=>by kernel_rfl,λ_ _=>by kernel_rfl,λ_ _=>by kernel_rfl,λ_=>by kernel_rfl,λ_=>by kernel_rfl,by decide +kernel,by kernel_rfl,λ_=>by kernel_rfl,λ_=>by kernel_rfl,λ_ _ _ _ _=>by kernel_rfl⟩
theorem PJ(q:Ad×Ad×Ad)(c:Bool)(q':Ad×Ad×Ad)(c':Bool):Tn (eO 1 q c) (gZ 1 c) 1 26 q' c':=⟨λ_=>by kernel_rfl,λ_=>by kernel_rfl,λ_=>by kernel_rfl,λ_ _=>by kernel_rfl,λ_ _=>by kernel_rfl,λ_=>by kernel_rfl,λ_=>by kernel_rfl,by decide +kernel,by kernel_rfl,λ_=>by kernel_rfl,λ_=>by kernel_rfl,λ_ _ _ _ _=>by kernel_rfl⟩
noncomputable def JW(o:aj (Fl×ao)):Option Bool:=ob o λl=>ob (one l) λp=>ax.rec (λq=>Fl.rec none bV q.1) (λ_=>none) p.1
theorem BB{o:aj (Fl×ao)}(h:JW o=some true):∃loc σ,o=some [(.ok (.ret (.bool true),loc),σ)]:=
 aa h λl e h=>aa h λp q h=>e▸cB q▸by
  obtain⟨x,σ⟩:=p
  cases x with
  |exc c=>exact al h
  |ok y=>
   obtain⟨f,loc⟩:=y
   cases f with
   |next=>exact al h
   |ret v=>cases v with
    |bool b=>exact⟨loc,σ,sI h▸rfl⟩
    |_=>exact al h
theorem KC(q:Ad×Ad×Ad)(c:Bool)(q':Ad×Ad×Ad)(c':Bool)(l:List Dr):JW ((R0 120).s (je (ei 1 (gZ 26 c'))) (iG.body.drop 2) (dn (eO 1 q c++eO 26 q' c') l))=some true:=by kernel_rfl
section
variable {L1 L2 l:List Dr}{xs:List Int}{c c':Bool}{J1 J2:List ai}
theorem HA(T:aE K)(dz:DZ w K)(rz:RZ w K)(n1:Nat.blt 1 (dn J1 L2).n=true)(s1:aD w K 257 (je (ei 0 [])) lT (dn [] L1) [(.ok (.next,ei 0 (gZ 1 c)),dn J1 L2)])(s2:aD w K 257 (je (ei 1 (gZ 1 c))) lT (dn J1 L2) [(.ok (.next,ei 1 (gZ 26 c')),dn J2 l)]) :
  aD w K 267 (je Co) ((iG.body.drop 1).take 1) (dn [] L1) [(.ok (.next,ei 1 (gZ 26 c')),dn J2 l)]:=
 .of (m:=257) (n:=10) (ss:=lL (λ_ _ σ=>Nat.blt 1 σ.n) (λb=>(je (cond b (ei 1 (gZ 1 c)) (ei 0 [])),lT,cond b (dn J1 L2) (dn [] L1))) (λ_=>True) λb=>[(.ok (.next,cond b (ei 1 (gZ 26 c')) (ei 0 (gZ 1 c))),cond b (dn J2 l) (dn J1 L2))]) T dz rz bf (jx λb _=>match b with
   |false=>s1
   |true=>s2)
  (aQ (pQ λ_ z=>nomatch (cA0 (λp=>p.2.1.length) z:3=1)) ((d7 (i:= .range 2) (σ1:=dn [] L1) rfl rfl).trans (oM (m:=999) (v:= .int 0) (loc1:=ei 0 []) rfl rfl rfl (pJ (im (c:=false) rfl trivial)) (oM (m:=998) (v:= .int 1) (loc1:=ei 1 (gZ 1 c)) rfl rfl rfl (pJ (im (c:=true) n1 trivial)) (ff rfl rfl)))))
theorem LV(T:aE K)(XK:tR K)(F:B8 K)(dz:DZ w K)(rz:RZ w K)(X:mS K xs)(hb:Builtin.Int.intBits (kO xs)≤1048576):∃σ',am w K 271 (.g 442) [.g 443] (au []) [(.ok (.bool true),σ')]:=by
 have ft:uK w K:=DO T XK F dz rz
 obtain⟨A,B,C,t1,v1,k1⟩:=zr (tj (jd (kO xs)),Ex (jd (kO xs)))
 obtain⟨t2,k2⟩:=Fz t1
 obtain⟨t3,k3⟩:=Fc t2
 obtain⟨A',B',C',t4,v4,k4⟩:=zr t3
 obtain⟨t5,k5⟩:=Fz t4
 obtain⟨t6,k6⟩:=Fc t5
 obtain⟨L5,m5,a5⟩:=k6 [] trivial
 obtain⟨L4,d4,a4⟩:=k5 L5 a5
 obtain⟨L2,m2,a2⟩:=k3 _ (k4 L4 a4)
 obtain⟨L1,d1,a1⟩:=k2 L2 a2
 have c0:aD w K 28 (je [(217, .g 443)]) (iG.body.take 1) (au []) [(.ok (.next,Co),dn [] (jw [A,B,C] L1))]:= .of (m:=18) (n:=10) T dz rz (bM (Hx T dz rz X hb (k1 L1 a1))) aH (aQ rfl (f8 rfl rfl (bt (a:= .g 367) (vs:=[.g 443, .int 0]) rfl rfl rfl rfl (cg bF)) rfl))
 have c1:=HA T dz rz rfl (FG T dz rz ft (PI _ _) v1 d1 m2) (FG T dz rz ft (PJ (qW A B C) (bW [A,B,C]) _ _) v4 d4 m5)
 exact(BB (KC (qW A B C) (bW [A,B,C]) (qW A' B' C') (bW [A',B',C']) [])).elim λloc y=>y.elim λσ' e=>⟨σ', .up (m:=269) (by decide) (.row (m:=267) (b:=iG.body) T dz rz (.seq (b1:=iG.body.take 1) (b2:=iG.body.drop 1) T (c0.up (by decide)) (.seq (b1:=(iG.body.drop 1).take 1) (b2:=iG.body.drop 2) T c1 ((aD.of (m:=0) (n:=120) T dz rz bf aH e).up (by decide)))) (λss=>rfl) rfl)⟩
end
noncomputable def tst{α:Type}(o:Option α)(f:α→Bool):Bool:=Option.rec false f o
noncomputable def sJ(l:List Bool):Bool:=l.all id
noncomputable def Ou(d:Data):Option FuncData:=match d with
 | .func f=>some f
 |_=>none
noncomputable def HU(d:Data):Option (Array Value×Nat):=match d with
 | .seq xs m=>some (xs,m)
 |_=>none
noncomputable def Kq(d:Data):Option ClassData:=match d with
 | .cls c=>some c
 |_=>none
noncomputable def Op(d:Data):Bool:=match d with
 | .plain=>true
 |_=>false
noncomputable def Qc(d:Data)(x:Str):Option Value:=match d with
 | .dict es _=>nsFind es x
 |_=>none
noncomputable def qu(v:Value):Tok:=match v with
 | .int _ t=>t
 | .str _ t=>t
 |_=>0
noncomputable def gP(v:Value):Addr:=match v with
 | .ref a=>a
 |_=>0
noncomputable def nJ(K:Frag)(x:AV):Value→Bool:=AV.rec (motive_1:=λ_=>Value→Bool) (motive_2:=λ_=>List Value→Bool) (λv=>v == .none) (λ_ _=>false) (λi v=>v == .int i (qu v)) (λk v=>v == .str (ae k) (qu v)) (λ_ _=>false)
 (λ_ f v=>v == .ref (gP v)&&tst (K.lookup (gP v)) λo=>o.cls == .type "tuple"&&o.dict == none&&o.slots == #[]&&tst (HU o.data) λxs=>f xs.1.toList) (λ_ _=>false) (λa v=>v == .ref a) (λk v=>v == l6 k) (λ_ _ _=>false) bC (λ_ _ f g vs=>tst vs.head? λv=>f v&&g vs.tail) x
noncomputable def qO(K:Frag)(a:Addr)(x:Str):Option (Option Value):=ob (K.lookup a) λo=>some (Qc o.data x)
noncomputable def oQ{α:Type}:eW α→List (Nat×α)
 | .leaf=>[]
 | .node k v l r=>(k,v)::(oQ l++oQ r)
noncomputable def Ky(K:Frag)(C:Nat)(c:qH):Bool:=sJ [makesIn K C,findIn K (.ref C) "__init__" == some (some (.ref c.init)),typeIn K (.ref c.init) == some (.type "function"),findIn K (.ref C) "__getattribute__" == some (some (.builtin "object.__getattribute__")),
 findIn K (.ref C) "__getattr__" == some none,findIn K (.ref C) "__setattr__" == some (some (.builtin "object.__setattr__")),plainOver K C,hasDictIn K C,((List.range 256).filter oy).all (λx=>findIn K (.ref C) (ae x) == some none),
 c.meths.all λp=>findIn K (.ref C) (ae p.1) == some (some (.ref p.2))&&typeIn K (.ref p.2) == some (.type "function")]
noncomputable abbrev FS:=Value×Scope×FuncBody×Addr×List (Str×Addr)×Addr×Value×Arguments×Str×Bool×Value
noncomputable def jA(K:Frag)(a:Nat):Option FS:=ob (K.lookup a) λo=>ob (Ou o.data) λfd=>some (o.cls,fd.scope,fd.body,fd.globals,fd.closure,fd.builtins,fd.code,fd.params,fd.qualname,codeIn K fd.code fd.qualname,fd.defaults)
noncomputable abbrev BD:=Arguments×List Str×List AV×Nat
noncomputable def LL(q:BD):Value:=cond (bC q.2.2.1) .none (.ref q.2.2.2)
noncomputable def Br(a:Nat)(F:Fn):BD:=(fA F.ps (unL F.dfe),F.ps.map (λp=>ae p.1),F.dfl,(look a [(260,253),(324,317),(346,339)]).getD 0)
noncomputable def uA:BD:=({ posonlyargs:=[],args:=[{ arg:=cy,annotation:=none,pos:=(pz 7 17 21) },{ arg:=cZ,annotation:=none,pos:=(pz 7 23 30) },{ arg:=cW,annotation:=none,pos:=(pz 7 32 36) }],vararg:=none,kwonlyargs:=[],kw_defaults:=[],kwarg:=none,defaults:=[.Constant (.int 0) 0 (pz 7 37 38)] },[cy,cZ,cW],[.int 0],29)
noncomputable def xq:BD:=(fA OH [],[ae 170],[],0)
noncomputable def pR(q:BD)(sc:Scope)(b:List Stmt)(c:Nat)(n:Str):FS:=(.type "function",sc, .stmts b,mainGlobals,[],builtinsNs, .ref c,q.1,n,true,LL q)
noncomputable def jy(K:Frag):List (Option FS)×Option FS×Option FS:=((oQ tabs.fns).map λp=>jA K p.1,jA K 36,jA K 401)
noncomputable def fnX(a:Nat)(F:Fn):FS:=pR (Br a F) (bZ F.sc F.fast) (unSs F.body) F.code (ae F.qual)
noncomputable def lP:List (Option FS)×Option FS×Option FS:=((oQ tabs.fns).map λp=>some (fnX p.1 p.2),some (pR uA gJ rH 35 (Str.ofString "LendError.__init__")),some (pR xq (bZ CT []) uS 400 (ae 191)))
noncomputable def qP:List BD:=((oQ tabs.fns).map λp=>Br p.1 p.2)++[uA,xq]
noncomputable def bmB(K:Frag):Bool:=tst (qO K mainGlobals "__builtins__") λv=>tst v λu=>u == .ref (gP u)&&tst (K.lookup (gP u)) λo=>sJ [!(gP u == builtinsNs),!(gP u == mainGlobals),!(gP u == 227),!(gP u == 137),o.cls == .type "module",o.dict == some builtinsNs,Op o.data]
noncomputable def E4(K:Frag)(x:Nat)(av:AV):Bool:=tst (qO K mainGlobals (ae x)) λv=>Option.rec (tst (qO K builtinsNs (ae x)) λw=>tst w (nJ K av)) (nJ K av) v
noncomputable def wC(l:Array (Option Value))(i:Nat):Option Value:=(l[i]?).getD none
noncomputable def Dn(K:Frag)(C:Nat):Bool:=tst (K.lookup C) λo=>tst (Kq o.data) λcd=>sJ [o.cls == .type "type",cd.mro == .ref C:: .ref 39::mY,cd.hasDict == true,cd.hasDel == false,nsOkIn K cd.ns,nsIn K cd.ns "__init__" == some none,o.slots == #[wC o.slots 0,wC o.slots 1,wC o.slots 2,wC o.slots 3,some (.builtin "Exception.__new__"),wC o.slots 5],
 findIn K (.ref C) "__setattr__" == some (some (.builtin "object.__setattr__")),findIn K (.ref C) cZ == some none,findIn K (.ref C) cW == some none]
noncomputable def Lo(K:Frag):Bool:=tst (K.lookup 39) λo=>tst (Kq o.data) λcd=>nsOkIn K cd.ns&&qO K cd.ns "__init__" == some (some (.ref 36))
noncomputable def u7(K:Frag):Bool:=sJ [nsOkIn K cStatics,nsIn K cStatics "sys.recursionlimit" == some none,nsOkIn K mainGlobals,nsOkIn K builtinsNs,(K.lookup 443).isSome,tabs.clss.all (λp=>Ky K p.1 p.2&&keepIn K (.ref p.1)),(oQ tabs.fns).all (λp=>keepIn K (.ref p.1)),
 [367,374,401,52,64].all (λa=>keepIn K (.ref a)),codeHdIn K 229 227,codeHdIn K 139 137,bmB K,(oQ tabs.glob).all (λp=>E4 K p.1 p.2),Dn K 52,Dn K 64,Lo K,qO K mainGlobals nW == some none,qO K builtinsNs nW == some (some (.type "Exception")),qP.all (λq=>bC q.2.2.1||nJ K (.tup q.2.2.1) (.ref q.2.2.2)),nsIn K mainGlobals (Str.ofString "law") == some (some (.ref 442))]
section
theorem dZ{α:Type}{o:Option α}{f:α→Bool}(e:tst o f=true){P:Prop}(k:∀a,o=some a→f a=true→P):P:=match o,e with
 |some a,e=>k a rfl e
theorem aC{l:List Bool}(e:sJ l=true)(i:Nat){b:Bool}(h:l[i]?=some b):b=true:=List.all_eq_true.mp e b (List.mem_of_getElem? h)
theorem KQ{d:Data}{f:FuncData}(h:Ou d=some f):d = .func f:=by cases d with
 |func g=>exact cA0 _ (sI h)
 |_=>exact al h
theorem Ln{d:Data}{f:Array Value×Nat}(h:HU d=some f):d = .seq f.1 f.2:=by cases d with
 |seq g m=>exact sI h▸rfl
 |_=>exact al h
theorem A6{d:Data}{f:ClassData}(h:Kq d=some f):d = .cls f:=by cases d with
 |cls g=>exact cA0 _ (sI h)
 |_=>exact al h
theorem Ig{d:Data}(h:Op d=true):d = .plain:=by cases d with
 |plain=>rfl
 |_=>exact aV h
theorem JA{o:Obj}{c:Value}{d:Option Addr}{dt:Data}{s:Array (Option Value)}(h1:o.cls=c)(h2:o.dict=d)(h3:o.data=dt)(h4:o.slots=s):o=⟨c,d,dt,s⟩:=h1▸h2▸h3▸h4▸rfl
theorem qs{α:Type}{x:Nat}{v:α}{t:eW α}(h:t.Has x v):(x,v)∈oQ t:=by
 induction h with
 |here l r=>exact .head _
 |left k u r h ih=>exact .tail _ (List.mem_append_left _ ih)
 |right k u l h ih=>exact .tail _ (List.mem_append_right _ ih)
variable {h:Heap}{a:Nat}{x:Str}
theorem iI{r:Option Value}(X:K.In h)(e:qO K a x=some r):h.nsMap a x=r:=aa e λo q e=>by
 unfold Heap.nsMap
 rw[X _ _ q]
 exact sI e
theorem ib(X:K.In h)(ok:nsOkIn K a=true):h.Ns a (h.nsMap a):= .of_isNs (isNs_of_in X ok)
theorem qe(X:K.In h)(L:jU K)(hb:∀i,i<n→N0≤β i)(x:AV):∀v,nJ K x v=true→ak h β n x v:=
 AV.rec (motive_1:=λx=>∀v,nJ K x v=true→ak h β n x v) (motive_2:=λl=>∀vs,(AV.rec_1 (motive_1:=λ_=>Value→Bool) (motive_2:=λ_=>List Value→Bool) (λv=>v == .none) (λ_ _=>false) (λi v=>v == .int i (qu v)) (λk v=>v == .str (ae k) (qu v)) (λ_ _=>false)
 (λ_ f v=>v == .ref (gP v)&&tst (K.lookup (gP v)) λo=>o.cls == .type "tuple"&&o.dict == none&&o.slots == #[]&&tst (HU o.data) λxs=>f xs.1.toList) (λ_ _=>false) (λa v=>v == .ref a) (λk v=>v == l6 k) (λ_ _ _=>false) bC (λ_ _ f g vs=>tst vs.head? λv=>f v&&g vs.tail) l:List Value→Bool) vs=true→ValsR h β n l vs)
  (λv e=>eq_of_beq (α:=Value) e▸ .none) (λ_ _=>nofun) (λi v e=>eq_of_beq (α:=Value) (b:= .int i (qu v)) e▸ .int _ _) (λk v e=>eq_of_beq (α:=Value) (b:= .str (ae k) (qu v)) e▸ .str _ _) (λ_ _=>nofun)
  (λl ih v e=>aw e λe1 e=>dZ e λo q e=>aw e λe e4=>aw e λe e3=>aw e λe1' e2=>dZ e4 λxs q2 e4=>(eq_of_beq e1:v=_)▸ .tup (vs:=xs.1.toList) (ep:=xs.2) ((X _ _ q).trans (cA0 some (JA (eq_of_beq e1') (eq_of_beq e2) (Ln q2) (eq_of_beq e3)))) (λi hi z=>absurd (hb i hi) (by rw[z]; exact Nat.not_le.mpr (L _ _ q).1)) (ih _ e4))
  (λ_ _=>nofun) (λa v e=>eq_of_beq (α:=Value) e▸ .g a) (λk v e=>eq_of_beq (α:=Value) e▸ .b k) (λ_ _ _=>nofun)
  (λvs e=>kN e▸ .nil)
  (λy l h1 h2 vs e=>by cases vs with
   |nil=>exact aV e
   |cons v vs=>exact aw e λe1 e2=> .cons (h1 v e1) (h2 vs e2)) x
end
theorem FI(d:Value)(l:List Value):l=(ah l.length).map λi=>l.getD i d:=by
 induction l with
 |nil=>rfl
 |cons a l ih=>
  rw[List.length_cons,show ah (l.length+1)=0::(ah l.length).map Nat.succ from List.range_succ_eq_map,List.map_cons,List.map_map]
  exact cA0 (a::·) ih
noncomputable def Ku(q:BD)(f:Nat→Value)(j:Nat):List Value:=(ah (q.2.1.length-j)).map f
noncomputable def td(q:BD)(us xs:List Value):List (Str×Value):=q.2.1.zip (us++xs.drop (us.length+q.2.2.1.length-q.2.1.length))
noncomputable def An(q:BD)(xs:List Value)(ep:Nat):Frag:=cond (bC q.2.2.1) [] [(q.2.2.2,⟨.type "tuple",none, .seq xs.toArray ep,#[]⟩)]
noncomputable def Ds(q:BD)(fd:FuncData):FuncData:={ fd with params:=q.1,defaults:=LL q }
theorem LT(f g:Nat→Value)(fd:FuncData)(ep:Nat)(S:Setting):qP.map (λq=>(ah (q.2.2.1.length+1)).map λj=>peek (An q ((ah q.2.2.1.length).map g) ep) S (bindArgs (Ds q fd) ⟨Ku q f j,[]⟩))=qP.map λq=>(ah (q.2.2.1.length+1)).map λj=>some (td q (Ku q f j) ((ah q.2.2.1.length).map g)):=by kernel_rfl
theorem rr{q:BD}{fd:FuncData}{us xs:List Value}{ep:Nat}(hq:q∈qP)(hp:fd.params=q.1)(hd:fd.defaults=LL q)(X:(An q xs ep).In s.heap)(hx:q.2.2.1.length=xs.length)(h1:q.2.1.length≤us.length+q.2.2.1.length)(h2:us.length≤q.2.1.length):BindsTo s fd ⟨us,[]⟩ (td q us xs):=by
 have e:Ku q (λi=>us.getD i .none) (q.2.1.length-us.length)=us:=(cA0 (λn=>(ah n).map _) (Nat.sub_sub_self h2)).trans (FI _ us).symm
 have r:=λS=>az (az (LT (λi=>us.getD i .none) (λi=>xs.getD i .none) fd ep S) hq) (mR0 (Nat.lt_succ_of_le (Nat.sub_le_of_le_add (Nat.add_comm us.length _▸h1))))
 rw[hx,←FI,e] at r
 exact(show Ds q fd=fd by unfold Ds; rw[←hp,←hd])▸kp_binds X r
section
variable {h:Heap}{a:Nat}{F:Fn}{q:BD}{b:List (Nat×AV)}
theorem vu:∀{ps:List (Nat×Pos)}{vs:List AV}{b:List (Nat×AV)},rF ps vs=some b→ps.map (·.1)=b.map (·.1):=λ{ps}=>by
 induction ps with
 |nil=>exact λ{vs b} e=>match vs,e with
  |[],e=>sI e▸rfl
 |cons p r ih=>exact λ{vs b} e=>match vs,e with
  |v::l,e=>aa e λc q e=>sI e▸cA0 (p.1::·) (ih q)
theorem KA(v:(bC q.2.2.1||nJ K (.tup q.2.2.1) (.ref q.2.2.2))=true)(X:K.In h)(L:jU K)(hb:∀i,i<n→N0≤β i):∃xs ep,ValsR h β n q.2.2.1 xs∧(An q xs ep).In h:=by
 unfold An
 match e:q.2.2.1,v with
 |[],_=>exact⟨[],0, .nil,λa o z=>nomatch z⟩
 |x::l,v=>
  obtain⟨vs,a,ep,e1,t,r,_⟩:=(qe X L hb (.tup (x::l)) (.ref q.2.2.2) v).inv
  cases e1
  refine⟨vs,ep,r,λa o z=>?_⟩
  rw[show cond (bC (x::l)) [] [(q.2.2.2,_)]=[(q.2.2.2,_)] from rfl,List.lookup_cons] at z
  cases y:a == q.2.2.2 with
  |true=>rw[y] at z; exact sI z▸eq_of_beq y▸t
  |false=>rw[y] at z; exact al z
theorem lW{x:FS}(e:jA K a=some x):∃o fd,K.lookup a=some o∧o.data = .func fd∧(o.cls,fd.scope,fd.body,fd.globals,fd.closure,fd.builtins,fd.code,fd.params,fd.qualname,codeIn K fd.code fd.qualname,fd.defaults)=x:=aa e λo q e=>aa e λfd q2 e=>⟨o,fd,q,KQ q2,sI e⟩
theorem GN:∀p∈oQ tabs.fns,p.2.code=229∨p.2.code=139→ae p.2.qual++".<locals>." = lr p.2.code:=by decide +kernel
theorem GR(L:jU K)(hs:jy K=lP)(hv:qP.all (λq=>bC q.2.2.1||nJ K (.tup q.2.2.1) (.ref q.2.2.2))=true)(e:ek a tabs.fns=some F):I5 K a F:=by
 have mem:=qs (gH e)
 have hq:Br a F∈qP:=List.mem_append_left _ (List.mem_map_of_mem (f:=λp:Nat×Fn=>Br p.1 p.2) mem)
 have es:jA K a=some (fnX a F):=az (f:=λp:Nat×Fn=>jA K p.1) (g:=λp=>some (fnX p.1 p.2)) (cA0 (·.1) hs) mem
 obtain⟨o,fd,q,hd,z⟩:=lW es
 unfold fnX pR at z
 have c:=cA0 (·.2.2.2.2.2.2.2.2.1) z
 have hp:=cA0 (·.2.2.2.2.2.2.2.1) z
 have hf:=cA0 (·.2.2.2.2.2.2.2.2.2.2) z
 exact⟨o,fd,q,cA0 (·.1) z,hd,cA0 (·.2.1) z,cA0 (·.2.2.1) z,cA0 (·.2.2.2.1) z,cA0 (·.2.2.2.2.1) z,cA0 (·.2.2.2.2.2.1) z,cA0 (·.2.2.2.2.2.2.1) z,λhc=>by rw[show fd.qualname=ae F.qual from c]; exact GN (a,F) mem hc,λh X=>codeRec_of X (cA0 (·.2.2.2.2.2.2.2.2.2.1) z),λs β n vs us b X hb eb rv=>(KA (List.all_eq_true.mp hv _ hq) X L hb).elim λxs y=>y.elim λep y=>by
  have v:=yC eb
  have nm:=vu eb
  have l1:=cA0 List.length nm
  have l2:=cA0 List.length v
  rw[to,aM,aM,aM] at v l2
  rw[List.length_map,List.length_map] at l1
  rw[List.length_map,List.length_append,List.length_drop,rv.length] at l2
  have x:F.ps.map (λp=>ae p.1)=b.map λp=>ae p.1:=(List.map_map (f:=λp:Nat×Pos=>p.1) (g:=ae)).symm.trans ((cA0 (List.map ae) nm).trans List.map_map)
  have ln:(F.ps.map λp=>ae p.1).length=F.ps.length:=List.length_map _
  have B:=rr hq hp hf y.2 y.1.length (show(F.ps.map λp=>ae p.1).length≤us.length+F.dfl.length by omega) (show us.length≤(F.ps.map λp=>ae p.1).length by omega)
  rw[show td (Br a F) us xs=(F.ps.map λp=>ae p.1).zip (us++xs.drop (us.length+F.dfl.length-(F.ps.map λp=>ae p.1).length)) from rfl,ln,x] at B
  exact⟨_,B,v▸rv.length▸rv.append (ValsR.drop _ y.1)⟩⟩
end
section
variable {h:Heap}{C x P:Nat}
theorem oH{a b:Nat}(e:(!(a == b))=true):a≠b:=λz=>by rw[z,beq_self_eq_true] at e; exact aV e
theorem F7{c:qH}(e:Ky K C c=true):gx K C c:=
 ⟨aC e 0 rfl,eq_of_beq (aC e 1 rfl),eq_of_beq (aC e 2 rfl),eq_of_beq (aC e 3 rfl),eq_of_beq (aC e 4 rfl),eq_of_beq (aC e 5 rfl),aC e 6 rfl,aC e 7 rfl,λx hx=>eq_of_beq (List.all_eq_true.mp (aC e 8 rfl) x (List.mem_filter.mpr ⟨mR0 (Nat.not_le.mp λhle=>
  aV ((Nat.testBit_lt_two_pow (lT0 (show uk<2 ^ 256 by decide +kernel) (Nat.pow_le_pow_right (by decide) hle))).symm.trans hx)),hx⟩)),λx f hx=>aw (List.all_eq_true.mp (aC e 9 rfl) _ (j8 hx)) λa b=>⟨eq_of_beq a,eq_of_beq b⟩⟩
theorem Ae(e:bmB K=true)(X:K.In h):h.BuiltinsAt (h.nsMap mainGlobals) 227∧h.BuiltinsAt (h.nsMap mainGlobals) 137:=
 dZ e λv q e=>dZ e λu q2 e=>aw e λe0 e=>dZ e λo q1 e=>by
  have k:∀P,gP u≠P→h.BuiltinsAt (h.nsMap mainGlobals) P:=λP hP=>⟨gP u,o,(iI X q).trans (q2.trans (cA0 some (eq_of_beq e0))),oH (aC e 0 rfl),oH (aC e 1 rfl),hP,X _ _ q1,eq_of_beq (aC e 4 rfl),eq_of_beq (aC e 5 rfl),Ig (aC e 6 rfl)⟩
  exact⟨k _ (oH (aC e 2 rfl)),k _ (oH (aC e 3 rfl))⟩
theorem Do(L:jU K)(o1:nsOkIn K mainGlobals=true)(o2:nsOkIn K builtinsNs=true){x:Nat}{av:AV}(e:E4 K x av=true)(X:K.In h):∃v,(∀β n,(∀i,i<n→N0≤β i)→ak h β n av v)∧
  ((∃mg,h.Ns mainGlobals mg∧mg (ae x)=some v)∨(∃mg mb,h.Ns mainGlobals mg∧mg (ae x)=none∧h.Ns builtinsNs mb∧mb (ae x)=some v)):=
 dZ e λv q e=>match v,q,e with
  |some u,q,e=>⟨u,λβ n hb=>qe X L hb av u e, .inl ⟨_,ib X o1,iI X q⟩⟩
  |none,q,e=>dZ (show tst (qO K builtinsNs (ae x)) _=true from e) λv q2 e=>dZ e λu q3 e=>⟨u,λβ n hb=>qe X L hb av u e, .inr ⟨_,_,ib X o1,iI X q,ib X o2,(iI X q2).trans q3⟩⟩
theorem w0(e:Dn K C=true):∃cd dd k,K.lookup C=some (XC C cd dd k)∧(∀h,K.In h→∃mN,h.Ns cd.ns mN∧mN "__init__" = none)∧findIn K (.ref C) "__setattr__" = some (some (.builtin "object.__setattr__"))∧findIn K (.ref C) cZ=some none∧findIn K (.ref C) cW=some none:=
 dZ e λo q e=>dZ e λcd q2 e=>⟨cd,o.dict,wC o.slots,q.trans (cA0 some (JA (eq_of_beq (aC e 0 rfl)) rfl ((A6 q2).trans (cA0 Data.cls (by rw[←eq_of_beq (aC e 1 rfl),←eq_of_beq (aC e 2 rfl),←eq_of_beq (aC e 3 rfl)]))) (eq_of_beq (aC e 6 rfl)))),λh X=>⟨_,ib X (aC e 4 rfl),nsMap_none_of_in X (aC e 4 rfl) (eq_of_beq (aC e 5 rfl))⟩,eq_of_beq (aC e 7 rfl),eq_of_beq (aC e 8 rfl),eq_of_beq (aC e 9 rfl)⟩
theorem JR(L:jU K)(e:u7 K=true)(hs:jy K=lP):aE K:=
 ⟨L,λh X=>⟨_,ib X (aC e 0 rfl),nsMap_none_of_in X (aC e 0 rfl) (eq_of_beq (aC e 1 rfl))⟩,Option.isSome_iff_exists.mp (aC e 4 rfl),λC c hc=>F7 (aw (List.all_eq_true.mp (aC e 5 rfl) _ (j8 hc)) λa _=>a),λa ha=>by
   have z:=List.all_eq_true.mp (aC e 7 rfl)
   unfold w6 at ha
   cases q:ek a tabs.fns with
   |some F=>exact List.all_eq_true.mp (aC e 6 rfl) _ (qs (gH q))
   |none=>cases q2:look a tabs.clss with
    |some c=>exact aw (List.all_eq_true.mp (aC e 5 rfl) _ (j8 q2)) λ_ b=>b
    |none=>
     rw[q] at ha
     replace ha:(match look a tabs.clss with |some _=>true |none=>Nat.beq a 367||Nat.beq a 374||Nat.beq a 401)=true:=ha
     rw[q2] at ha
     exact(Bool.or_eq_true_iff.mp ha).elim (λha=>(Bool.or_eq_true_iff.mp ha).elim (λha=>eB0 ha▸z 367 (by decide)) λha=>eB0 ha▸z 374 (by decide)) λha=>eB0 ha▸z 401 (by decide),
  ⟨List.all_eq_true.mp (aC e 7 rfl) 52 (by decide),List.all_eq_true.mp (aC e 7 rfl) 64 (by decide)⟩,λa F hF=>GR L hs (aC e 17 rfl) hF,λh X=>⟨_,ib X (aC e 2 rfl),⟨codeHd_of_K X (aC e 8 rfl),(Ae (aC e 10 rfl) X).1⟩,codeHd_of_K X (aC e 9 rfl),(Ae (aC e 10 rfl) X).2⟩,λx av hx h X=>Do L (aC e 2 rfl) (aC e 3 rfl) (List.all_eq_true.mp (aC e 11 rfl) _ (qs (gH hx))) X⟩
end
section
variable {h:Heap}{o:Obj}{a:Nat}
theorem Ks(x m v:Value):td uA [x,m] [v]=[(cy,x),(cZ,m),(cW,v)]∧td uA [x,m,v] [v]=[(cy,x),(cZ,m),(cW,v)]:=⟨rfl,rfl⟩
theorem Mp{xs:List Value}(h:1=xs.length):∃v,xs=[v]:=by
 cases xs with
 |nil=>exact nomatch h
 |cons v l=>cases l with
  |nil=>exact⟨v,rfl⟩
  |cons=>exact nomatch h
theorem Py(L:jU K)(e:u7 K=true)(hs:jy K=lP):tR K∧B8 K:=by
 have hv:=List.all_eq_true.mp (aC e 17 rfl)
 have m1:uA∈qP:=List.mem_append_right _ (.head _)
 have m2:xq∈qP:=List.mem_append_right _ (.tail _ (.head _))
 refine⟨⟨λc=>match c with
  |0=>w0 (aC e 12 rfl)
  |_+1=>w0 (aC e 13 rfl),dZ (aC e 14 rfl:Lo K=true) λo q e=>dZ e λcd q2 e=>aw e λe1 e2=>⟨o.cls,o.dict,cd,o.slots,q.trans (cA0 some (JA rfl rfl (A6 q2) rfl)),λh X=>⟨_,ib X e1,iI X (eq_of_beq e2)⟩⟩,?_,λh X=>⟨_,_,ib X (aC e 2 rfl),iI X (eq_of_beq (aC e 15 rfl)),ib X (aC e 3 rfl),iI X (eq_of_beq (aC e 16 rfl))⟩⟩,?_⟩
 ·obtain⟨o,fd,q,hd,z⟩:=lW (cA0 (·.2.1) hs)
  unfold pR at z
  have hp:=cA0 (·.2.2.2.2.2.2.2.1) z
  have hf:=cA0 (·.2.2.2.2.2.2.2.2.2.2) z
  have dv:∀{s:Shared},K.In s.heap→∃v ep,(An uA [v] ep).In s.heap:=λ{s} X=>(KA (n:=0) (β:=λ_=>0) (hv _ m1) X L λ_ z=>absurd z (Nat.not_lt_zero _)).elim λxs y=>y.elim λep y=>(Mp y.1.length).elim λv e=>⟨v,ep,e▸y.2⟩
  exact⟨o,fd,q,cA0 (·.1) z,hd,cA0 (·.2.1) z,cA0 (·.2.2.1) z,cA0 (·.2.2.2.1) z,cA0 (·.2.2.2.2.1) z,cA0 (·.2.2.2.2.2.1) z,λh X=>codeRec_of X (cA0 (·.2.2.2.2.2.2.2.2.2.1) z),
   λs X x m=>(dv X).elim λv y=>y.elim λep y=>⟨v,(Ks x m v).1▸rr m1 hp hf y rfl (lB0 rfl) (lB0 rfl)⟩,λs X x m sp=>(dv X).elim λv y=>y.elim λep y=>(show td uA [x,m,sp] [v]=_ from(Ks x m sp).2)▸rr m1 hp hf y rfl (lB0 rfl) (lB0 rfl)⟩
 ·obtain⟨o,fd,q,hd,z⟩:=lW (cA0 (·.2.2) hs)
  unfold pR at z
  have hp:=cA0 (·.2.2.2.2.2.2.2.1) z
  have hf:=cA0 (·.2.2.2.2.2.2.2.2.2.2) z
  exact⟨o,fd,q,hd,cA0 (·.2.1) z,cA0 (·.2.2.1) z,cA0 (·.2.2.2.1) z,cA0 (·.2.2.2.2.1) z,cA0 (·.2.2.2.2.2.1) z,λh X=>codeRec_of X (cA0 (·.2.2.2.2.2.2.2.2.2.1) z),λs u=>(show td xq [u] []=[(ae 170,u)] from rfl)▸rr (xs:=[]) (ep:=0) m2 hp hf (λa o z=>nomatch z) rfl (lB0 rfl) (lB0 rfl)⟩
noncomputable def Oc(l:List Obj):Nat→Frag:=List.rec (λ_=>[]) (λo _ f n=>cond (o.alive&&!(Nat.beq n 137||Nat.beq n 227)) ((n,o)::f (n+1)) (f (n+1))) l
noncomputable def rJ(h:Heap):Frag:=Oc h.objs.toList 0
theorem qz{l:Frag}{b:Nat}{x y:Obj}(e:List.lookup a ((b,x)::l)=some y):a=b∧y=x∨List.lookup a l=some y:=by
 rw[List.lookup_cons] at e
 cases q:a == b with
 |true=>rw[q] at e; exact .inl ⟨eq_of_beq q,(sI e).symm⟩
 |false=>rw[q] at e; exact .inr e
theorem Cr{l:List Obj}:∀{k:Nat},(Oc l k).lookup a=some o→∃i,a=k+i∧l[i]?=some o∧(o.alive&&!(Nat.beq a 137||Nat.beq a 227))=true:=by
 induction l with
 |nil=>exact λe=>al e
 |cons x l ih=>
  intro k e
  have r:=λz=>(ih z).elim λi y=>(⟨i+1,y.1.trans (Nat.succ_add_eq_add_succ k i),y.2⟩:∃i,a=k+i∧(x::l)[i]?=some o∧_)
  change List.lookup a (cond _ _ _)=_ at e
  cases q:(x.alive&&!(Nat.beq k 137||Nat.beq k 227)) with
  |false=>rw[q] at e; exact r e
  |true=>rw[q] at e; exact(qz e).elim (λz=>⟨0,z.1,by rw[z.2]; rfl,by rw[z.1,z.2]; exact q⟩) r
theorem om(e:(rJ h).lookup a=some o):a<h.objs.size∧¬fu a∧h.get? a=some o:=
 (Cr e).elim λi y=>aw y.2.2 λv q=>by
  have g:=y.2.1
  rw[show i=a from(Nat.zero_add i).symm.trans y.1.symm,Array.getElem?_toList] at g
  exact⟨(Array.getElem?_eq_some_iff.mp g).1,λt=>aV ((show(!(Nat.beq a 137||Nat.beq a 227))=false by cases t with |inl t=>rw[t]; rfl |inr t=>rw[t]; rfl).symm.trans q),(Heap.get?_eq_some h a o).mpr ⟨g,v⟩⟩
theorem uB(hs:h.objs.size=443):jU ((443,o)::rJ h):=λa x e=>(qz e).elim (λz=>z.1▸⟨by decide,λt=>t.elim nofun nofun⟩) λz=>have y:=om z; ⟨Nat.lt_succ_of_lt (hs▸y.1),y.2.1⟩
theorem Hc(k:∀b x,h.get? b=some x→h'.get? b=some x)(e:h'.get? 443=some o):Frag.In ((443,o)::rJ h) h':=λa x q=>(qz q).elim (λz=>z.1▸z.2▸e) λz=>k _ _ (om z).2.2
end
noncomputable def DA(w:World)(os:OsState):Option SharedT:=BM J3 (I9 w) 7040 (s0 w os) (topStub pw)
noncomputable abbrev qX(o:Obj)(s:Shared):Frag:=(443,o)::rJ s.heap
theorem uV(w:World)(os:OsState)(o:Obj):(DA w os).map (λs=>(Np w s.abs,PySem.W.Fast.tw4187177175401517315 qv ls (importedModules pw.main.body) Xt true s.abs,s.abs.heap.objs.size,s.abs.heap.get? 137,s.abs.heap.get? 227,s.abs.drawn,jy (qX o s.abs)))=some (true,openGood qv ls,443,some (tabObj #[]),some (tabObj #[]),boot_drawn,lP):=by kernel_rfl
theorem Hq(w:World)(os:OsState)(o:Obj):(DA w os).map (λs=>u7 (qX o s.abs))=some true:=by kernel_rfl
noncomputable def Yf(s:Shared):Prop:=s.heap.objs.size=443∧s.heap.get? 137=some (tabObj #[])∧s.heap.get? 227=some (tabObj #[])∧s.drawn=boot_drawn∧∀o,u7 (qX o s)=true∧jy (qX o s)=lP
theorem wA{α β:Type}{x:Option α}{f:α→β}{y:β}{a:α}(h:x.map f=some y)(e:x=some a):f a=y:=by
 rw[e] at h
 exact sI h
theorem DP:LeftO pw qv ls Xt Yf (λ_=>True) 7040:=B5 (T:=DA) KM L0 rfl Jp LZ (λw os s' h=>Ip w os s' h) λw os=>by
 obtain⟨s',e,r⟩:=Option.map_eq_some_iff.mp (uV w os ⟨.none,none, .plain,#[]⟩)
 rw[e]
 have r2:=Prod.mk.inj r
 have r3:=Prod.mk.inj r2.2
 have y:Yf s'.abs:=⟨cA0 (·.1) r3.2,cA0 (·.2.1) r3.2,cA0 (·.2.2.1) r3.2,cA0 (·.2.2.2.1) r3.2,λo=>⟨wA (f:=λs=>u7 (qX o s.abs)) (Hq w os o) e,cA0 (·.2.2.2.2.2.2) (wA (uV w os o) e)⟩⟩
 refine cA0 some (Prod.ext r2.1 (Prod.ext ?_ (eq_true y)))
 rw[←r3.1,PySem.W.Fast.te4187177175401517315]
theorem A4:PySem.W.Fast.tw9446332074065402090 PySem.Challenge.rw_ot0026_01=true:=by
 iterate 33 refine look_both ?_ (by kernel_rfl)
 iterate 4 refine look_both ?_ (by as_aux_lemma=>kernel_rfl)
 exact look_both (by kernel_rfl) (by kernel_rfl)
theorem CB:OpenLaw.wellSaid PySem.Challenge.rw_ot0026_01=true:=(congrFun PySem.W.Fast.te9446332074065402090 _).trans A4
open PySem.W.X
noncomputable def iS:DefRec×List (Str×PySem.Expr):=(defOf qv "law").get (by kernel_rfl)
theorem LK:defOf qv "law" = some (iS.1,iS.2):=by kernel_rfl
theorem Kr:pw.theDef "law" = some (iS.1.params,iS.1.body,iS.1.scope):=by kernel_rfl
theorem M0:kwWritten? iS.1.params.kwonlyargs iS.1.params.kw_defaults=some iS.2:=by kernel_rfl
theorem J7:(chainsOk qv&&opensWell pw&&(frees PySem.Challenge.rw_ot0026_01.row.toRowW&&PySem.Challenge.rw_ot0026_01.row.toRowW.within.isEmpty))=true:=by kernel_rfl
theorem Hj:iS.1.name = "law":=by kernel_rfl
theorem qK{h:Heap}:∀{ts:List Value}{ns:List Int},IntsAre ts ns→ValsR h β n (ns.map .int) ts
 |_,_, .nil=> .nil
 |_,_, .cons i t r=> .cons (.int i t) (qK r)
theorem Cs{ns:List Int}(h:(PyData.list (List.map PyData.int ns)).layable0=true):Builtin.Int.intBits (kO ns)≤1048576:=by
 cases ns with
 |nil=>exact Nat.zero_le _
 |cons c r=>
  obtain⟨_,hw⟩:=Bool.and_eq_true_iff.mp (show(_&&decide (PyData.weight (.list (List.map PyData.int (c::r)))≤2 ^ 20))=true from h)
  have hw:=of_decide_eq_true hw
  have hw:PyData.weight (.int c)+1+PyData.weightAll (List.map PyData.int r)≤2 ^ 20:=by
   simpa only[PyData.weight,List.map_cons,PyData.weightAll] using hw
  have e:Builtin.Int.intBits c=PyData.weight (.int c):=by rw[PyData.weight]; rfl
  show Builtin.Int.intBits c≤1048576
  rw[e]
  omega
section
variable {h:Heap}
theorem wu{b c:Nat}{ob:Obj}{ps:Array Value}(hc:CodeHd h c b)(e:h.get? b=some ob)(e0:h.get? b=some (tabObj #[]))(e1:h'.get? b=some (tabObj ps)):asItWas h h' b ob:=by
 obtain⟨o,vs,_,_,_,_,_,_,_,g1,g2,g3,g4,_⟩:=hc
 cases e0.symm.trans e
 refine .inr (.inl ⟨⟨c,o,vs,g1,g2,g3,g4⟩,rfl,#[],ps,rfl,?_⟩)
 rw[e1,Array.empty_append]
theorem Dw(T:aE K)(X:K.In h)(e1:h.get? 137=some (tabObj #[]))(e2:h.get? 227=some (tabObj #[]))(s:ar w (λ_=>False) [] h h' β β' (au []) σ'):OldK h h':=by
 obtain⟨_,_,⟨c1,_⟩,c2,_⟩:=T.code h X
 have old:∀b o,h.get? b=some o→asItWas h h' b o:=λb o e=>by
  by_cases z1:b=137
  ·subst z1
   obtain⟨ps,q,_⟩:=s.tab (137,115,4,Str.ofString "fields_of.<locals>.put_in") (.head _)
   exact wu c2 e e1 q
  ·by_cases z2:b=227
   ·subst z2
    obtain⟨ps,q,_⟩:=s.tab (227,196,37,Str.ofString "is_like.<locals>.<lambda>") (.tail _ (.head _))
    exact wu c1 e e2 q
   ·exact .inl (s.keep b o e id (λi hi=>nomatch (show false=true from hi)) (λenv he=>nomatch he) λt=>t.elim z1 z2)
 refine⟨old,λb o e=>?_⟩
 rcases old b o e with q |⟨_,_,_,_,_,q⟩ |⟨_,_,⟨o',_,_,q,_⟩,_⟩
 ·exact⟨_,q⟩
 ·exact⟨_,q⟩
 ·exact⟨_,q⟩
theorem OJ(hA:A.handled=none)(hf:A.frames=some [])(X:K.In h)(hs:444≤h.objs.size)(e1:h.get? 137=some (tabObj #[]))(e2:h.get? 227=some (tabObj #[])):Sit w K A [] h (λ_=>0) (au []) where
 hh:=hA
 fr:=hf
 frok:=λe he=>nomatch he
 top:=X
 tab:=λq hq=>by
  rcases List.mem_cons.mp hq with rfl |hq
  ·exact⟨_,e1, .inl rfl⟩
  ·cases List.mem_singleton.mp hq
   exact⟨_,e2, .inl rfl⟩
 rel:=⟨λi o e=>(nomatch (show none=some o from e)),λi hi=>absurd hi (Nat.not_lt_zero i),λi hi=>absurd hi (Nat.not_lt_zero i),λi j hi=>absurd hi (Nat.not_lt_zero i),λp hp=>(nomatch hp)⟩
 sepF:=λe he=>nomatch he
 big:=hs
end
theorem Qi:PySem.Challenge.rw_ot0026_01.Holds:=by
 refine holds_law CB λk1=>?_
 refine holds_openX (q:=qv) (loose:=ls) (Xt:=Xt) (XP:=λ_ _=>True) (Yf:=Yf) (Ya:=λ_=>True) (d:=iS.1) (kwd:=iS.2) (N:=7040) DP (λ_ _=>trivial) (λ_ _ _ _ _=>trivial) LK Kr M0 (λs e=>recFacts_of e) rfl k1 J7 ⟨rfl,rfl,rfl,rfl,rfl,by decide +kernel⟩ ?hw ?call
 case hw=>w_witness2
 case call=>
  intro w s₀ s₁ mg mb G y fa o pm cd doc dV kV ho hd hcd hD hmg hg args vals as L hpre hlay hrd hwl hlo
  wrow_args hpre hlay hrd hwl hlo
  obtain⟨hat,hsz⟩:=script_at L
  rename_i ns hs hlay0 hl1 hr1 hl2 as1 as2 a ts as3 hL ra w1 r0 hI hr hc hc'
  obtain⟨y1,y2,y3,y5,y4⟩:Yf s₀:=of_eq_true y
  rw[y1] at hat hsz
  subst hat
  obtain⟨so,hso,hsc,n,hsd⟩:=hL
  have KX:Frag.In (qX so s₀) s₁.heap:=Hc L.keeps hso
  have f:=y4 so
  have T:aE (qX so s₀):=JR (uB y1) f.1 f.2
  have XF:=Py (uB y1) f.1 f.2
  rw[Hj] at hmg
  have hfa:=mg_of KX G.T.g (eq_of_beq (aC f.1 18 rfl))
  cases hmg.symm.trans hfa
  have scr:mS (qX so s₀) ns:=⟨ts,by omega,λh X=>⟨so,X 443 so rfl,hsc,n,hsd⟩,λh β n=>qK hI⟩
  obtain⟨σ',cl⟩:=LV (w:=w) T XF.1 XF.2 M9 (M4 T XF.1) scr (Cs hl1)
  have e1:=L.keeps _ _ y2
  have e2:=L.keeps _ _ y3
  have hdr:s₁.drawn=boot_drawn:=by
   obtain⟨ord,_,e⟩:=L.laid
   exact(layAllW_rest _ _ _ e).2.1.trans y5
  obtain⟨h1,gs,dr,tk,os⟩:=s₁
  cases hg
  cases hdr
  refine cl.ok (A:=callerA) (frs:=[]) (β:=λ_=>0) ⟨by decide,by decide⟩ (OJ rfl rfl KX (Nat.le_of_eq hsz.symm) e1 e2) (.g _) (.cons (.g _) .nil) ⟨λx σ'' hm v β' h' tk' r s=>?_,λc σ'' hm=>nomatch List.mem_singleton.mp hm⟩
  cases List.mem_singleton.mp hm
  cases r.inv
  refine⟨.inl ⟨.bool true, .bool true,[],rfl,λ_=>rfl, .bool true,?_,λ_=>⟨.nil,λ_ h=>nomatch h⟩⟩,Dw T KX e1 e2 s,rfl,AllBare.of_eq rfl⟩
  kernel_rfl
end Mine
theorem PySem.Challenge.cw_ot0026_01_holds : PySem.Challenge.rw_ot0026_01.Holds :=
  Mine.Qi
