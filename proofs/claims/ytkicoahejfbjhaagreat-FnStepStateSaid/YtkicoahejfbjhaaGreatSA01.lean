/- Part of a proof. -/
import Derived.Test.YtkicoahejfbjhaaGreatSA00
set_option linter.all false
set_option maxHeartbeats 8000000
set_option maxRecDepth 100000
section
namespace Go.Vc
variable{o:Oper}{a:Act}{m:E}
variable{b:Program}{T:TT}{G:List Nat}{n:Nat}
def KV:Op->Bool
 | .alloc _| .box ..| .buildSlice ..| .store ..| .makeSlice ..| .makeMap ..| .lookup ..| .mapUpdate ..| .makeFunc ..=>true
 | .call ⟨.builtin .append,_,_⟩| .call ⟨.builtin .copy,_,_⟩=>true
 | .call ⟨.builtin _,_,_⟩=>false
 | .call _=>true
 |_=>false
def rX(n:Nat):Option Nat->Bool
 |none=>true
 |some d=>Nat.blt d n
def KP(a:List Oper)(j:Nat):Option Nat:=
 match HO a j with
 |some o=>o.dst
 |none=>none
def gd(e:List Oper)(a:Fr)(g:Option (Nat×Bool))(O8 b:Fr->Prop):Prop:=
 match g with
 |none=>O8 a
 |some (j,c)=>match KP e j with
  |none=>False
  |some d=>match ic a d with
   | .tt=>bif c then O8 a else b a
   | .ff=>bif c then b a else O8 a
   | .un=>b a
   | .c (.t x)=>(x=true->bif c then O8 ((d,.tt)::a)else b ((d,.tt)::a))/\(x=false->bif c then b ((d,.ff)::a)else O8 ((d,.ff)::a))
   |_=>False
def sg(b:Program)(T:TT)(G:List Nat)(n:Nat)(c:List Oper):List Oper->Fr->E->(Fr->E->Prop)->Prop
 |[],a,m,k=>k a m
 |o::jM,a,m,k=>
  bif rX n o.dst then
   gd c a o.guard
    (λa=>bif KV o.op then wr b T G n a m o.dst o.type (λd x e=>sg b T G n c jM (tW d o.dst x) e k) o.op
     else rd T a m (λx=>sg b T G n c jM (tW a o.dst x) m k) o.op)
    (λa=>sg b T G n c jM (tW a o.dst .un) m k)
  else False
def zC:List Oper->List Nat
 |[]=>[]
 |o::r=>match o.dst with
  |some d=>d::zC r
  |none=>zC r
def mz(M:List Nat)(a b:Act):Prop:=∀t,t∉M->b.tmps.getD t undef=a.tmps.getD t undef
def mz.az(M:List Nat)(a:Act):mz M a a:=λ_ _=>rfl
def mz.trans{M:List Nat}{a b c:Act}(h:mz M a b)(k:mz M b c):mz M a c:=λt d=>(k t d).trans (h t d)
def mz.put{M:List Nat}{d:Option Nat}(hd:∀t,d=some t->t∈M)(v:Value)(a:Act):mz M a (a.put d v):=by
 cases d with
 |none=>exact mz.az M a
 |some d=>
  intro t c;have b:d≠t:=λe=>c (e▸hd d rfl);simp[Act.put,jP b]
def K6{d:Nat}(hd:o.dst=some d):∀(a:List Oper),o∈a->d∈zC a:=by
 intro a;induction a with
 |nil=>intro h;cases h
 |cons x r c=>
  intro h;rcases List.mem_cons.1 h with b|b
  .subst b;simp only[zC,hd];exact bg
  .have:=c b;unfold zC;cases x.dst with
   |none=>exact this
   |some e=>exact ai _ this
def DL{d:Option Nat}(h:rX n d=true):∀t,d=some t->t<n:=by
 rintro t rfl;have:Nat.blt t n=true:=h;simpa[Nat.blt,Nat.succ_le_iff]using this
def IV(k:Array Oper){d:Fr}(f:jY n d a)(e:Bx n d m)(o:Oper){O8 z:Fr->Prop}(h:gd k.toList d o.guard O8 z):
 (Region.wanted o (yielded k a.tmps)=true/\∃b,O8 b/\jY n b a/\Bx n b m)\/
 (Region.wanted o (yielded k a.tmps)=false/\∃b,z b/\jY n b a/\Bx n b m):=by
 unfold gd at h
 cases b:o.guard with
 |none=>
  rw[b]at h
  exact Or.inl ⟨by simp[Region.wanted,b],d,h,f,e⟩
 |some C=>
  obtain⟨r,v⟩:=C
  rw[b]at h
  simp only at h
  split at h
  .exact h.elim
  .rename_i g hd
   have y:(k[r]?).bind (·.dst)=some g:=by
    unfold KP at hd;rw[pF]at hd;have B:k.toList[r]? =k[r]? :=aL;rw[B]at hd;split at hd
    .rename_i i c;rw[c];exact hd
    .simp at hd
   have i:=f.aF g
   have w:∀j:Bool,a.tmps.getD g undef=.bool j->yielded k a.tmps r=some j:=by
    intro j l;have:a.tmps[g]? =some (.bool j):=by
     cases q:a.tmps[g]? with
     |none=>rw[zg,q]at l;simp[undef]at l
     |some t=>rw[zg,q]at l;simp at l;rw[l]
    simp[yielded,y,this]
   split at h
   .rename_i p
    rw[p]at i
    have c:=w true i
    cases v
    .exact Or.inr ⟨by simp[Region.wanted,b,c],d,h,f,e⟩
    .exact Or.inl ⟨by simp[Region.wanted,b,c],d,h,f,e⟩
   .rename_i p
    rw[p]at i
    have c:=w false i
    cases v
    .exact Or.inl ⟨by simp[Region.wanted,b,c],d,h,f,e⟩
    .exact Or.inr ⟨by simp[Region.wanted,b,c],d,h,f,e⟩
   .rename_i p
    rw[p]at i
    have c:yielded k a.tmps r=none:=by
     have s:a.tmps.getD g undef=undef:=i;rw[zg]at s;unfold yielded;rw[y];cases q:a.tmps[g]? with
     |none=>simp[q]
     |some t=>rw[q]at s;simp at s;subst s;simp[q,undef]
    exact Or.inr ⟨by simp[Region.wanted,b,c],d,h,f,e⟩
   .rename_i x p
    rw[p]at i
    have c:=w x i
    have u:∀j:Bool,x=j->jY n ((g,if j then SV.tt else SV.ff)::d) a:=by
     rintro j rfl;refine⟨f.size,f.defers,λA=>?_⟩;simp only[ic];cases l:Nat.beq g A
     .exact f.aF A
     .have:=bq l;subst this;cases x<;>exact i
    obtain⟨s,t⟩:=h
    cases x
    .have t:=t rfl
     cases v
     .exact Or.inl ⟨by simp[Region.wanted,b,c],_,t,u false rfl,e.fS aL⟩
     .exact Or.inr ⟨by simp[Region.wanted,b,c],_,t,u false rfl,e.fS aL⟩
    .have s:=s rfl
     cases v
     .exact Or.inr ⟨by simp[Region.wanted,b,c],_,s,u true rfl,e.fS aL⟩
     .exact Or.inl ⟨by simp[Region.wanted,b,c],_,s,u true rfl,e.fS aL⟩
   .exact h.elim
def YE(g:ui b T){c:Fr}(f:jY n c a)(e:Bx n c m){k:SV->Prop}(h:rd T c m k o.op){w:World}(p:w.heap=m)
 {d:Act->World->Prop}{Q:Exit->Act->World->Prop}(j:∀x v,k x->x.Is v->d (a.put o.dst v) w):o.wp b a w d Q:=by
 obtain⟨x,v,i,q,l⟩:=Li (P:=b) g f e o h
 unfold Oper.wp
 rw[l w (λr _=>by rw[p])]
 exact j x v i q
def uO(l:ui b T)(s:Uw b G)(c:Array Oper){Q:Exit->Act->World->Prop}{K:World}{H:Act}:
 ∀(jM:List Oper)(d:Fr)(m:E)(k:Fr->E->Prop)(a:Act)(w:World),(∀o∈jM,o∈c.toList)->sg b T G n c.toList jM d m k->jY n d a->Bx n d m->w.heap=m->ph K w->
  mz (zC c.toList) H a->
  (∀g e f,k g f.heap->jY n g e->Bx n g f.heap->ph K f->mz (zC c.toList) H e->Q .normal e f)->wpList b c Q jM a w
 |[],d,m,k,a,w,_,h,y,v,e,r,p,q=>by
  subst e;exact q d a w h y v r p
 |o::jM,d,m,k,a,w,I,h,y,v,e,r,p,q=>by
  simp only[sg]at h;cases hd:rX n o.dst
  .rw[hd]at h;exact h.elim
  .rw[hd]at h;simp only[jG]at h;have z:=DL hd;have A:∀u,o.dst=some u->u∈zC c.toList:=λu N=>K6 N _ (I o bg);have B:=λS P=>I S (ai _ P);unfold wpList;rcases IV c y v o h with⟨D,g,t,j,i⟩|⟨D,g,O,j,i⟩
   .rw[an D];refine .inl ?_;cases J:KV o.op
    .simp only[J,mG]at t;refine YE l j i t e λV U F C=>?_;exact uO l s c jM _ m k _ w B F (j.put C z) (i.put _ _) e r (p.trans (mz.put A _ _)) q
    .simp only[J,jG]at t;refine Qe l s j i o t w e _ _ λW V U f F M L C R=>?_;exact uO l s c jM _ _ k _ f B F (M.put C z) (L.put _ _) rfl (r.trans R) (p.trans (mz.put A _ _)) q
   .rw[ae (by rw[D];simp)];exact uO l s c jM _ m k _ w B O (j.put (x:=.un) rfl z) (i.put _ _) e r (p.trans (mz.put A _ _)) q
end Go.Vc
end
section
namespace Go.Vc
variable{P:Program}{T:TT}{G:List Nat}{n:Nat}
def tY:List Nat->Nat->Nat
 |[],_=>0
 |x::_,0=>x
 |_::r,n+1=>tY r n
def lz:List Edge->Nat
 |[]=>0
 |e::r=>bif Region.binds .any e then 2^e.on|||lz r else lz r
def nT(a:List Nat):List Edge->Nat
 |[]=>0
 |e::r=>bif Region.binds .any e then(2^e.on|||tY a e.on)|||nT a r else nT a r
def k8(a:List Nat):List Oper->List Nat->List Nat->Bool
 |[],[],[]=>true
 |o::d,p::e,b::c=>Nat.beq p (lz o.after.toList)&&Nat.beq b (nT a o.after.toList)&&k8 a d e c
 |_,_,_=>false
def RI:Op->List Operand
 | .alloc _| .ready _| .waits _=>[]
 | .move x| .assign x| .box _ x| .load _ x| .nilCheck x| .unOp _ _ x| .convert _ _ x| .sliceToArrayPointer _ x| .makeInterface _ x
 | .makeChan _ x| .fieldAddr _ x _| .field _ x _| .range _ x| .next x _| .entry x| .typeAssert x _ _ _| .extract x _| .panic x| .recv _ x _=>[x]
 | .pick c a b=>[c,a,b]
 | .build _ b| .buildSlice _ _ b=>b.toList.map (·.2)
 | .store _ a v| .binOp _ _ a v _| .makeSlice _ a v| .indexAddr _ a v| .index _ a v| .lookup _ a v _| .mapEntry _ a v| .send a v=>[a,v]
 | .makeFunc _ first a=>first.toList++a.toList
 | .makeMap _ r=>r.toList
 | .slice _ x l h m=>[x]++l.toList++h.toList++m.toList
 | .mapUpdate _ m k v| .entryStore _ m k v| .insert _ m k v=>[m,k,v]
 | .call ⟨.value f,a,_⟩| .go ⟨.value f,a,_⟩| .defer ⟨.value f,a,_⟩=>f::a.toList
 | .call ⟨.invoke f _,a,_⟩| .go ⟨.invoke f _,a,_⟩| .defer ⟨.invoke f _,a,_⟩=>f::a.toList
 | .call ⟨.builtin _,a,_⟩| .go ⟨.builtin _,a,_⟩| .defer ⟨.builtin _,a,_⟩=>a.toList
 | .select a _=>(a.flatMap λc=>#[c.chan]++c.send.toArray).toList
def TU(a:Op):a.operands.toList=RI a:=by
 cases a<;>try (simp[Op.operands,RI];done)
 all_goals
  rename_i c
  obtain⟨b,d,e⟩:=c
  cases b<;>simp[Op.operands,RI,Call.operands]
def Jt(d:Nat):List Operand->Bool
 |[]=>false
 | .tmp t::r=>Nat.beq t d||Jt d r
 |_::r=>Jt d r
def OC(a:List Oper)(o:Oper)(d:Nat):Bool:=
 Jt d (RI o.op)||(match o.guard with
  |some (g,_)=>(match KP a g with|some t=>Nat.beq t d|none=>false)
  |none=>false)
def Oe(a:List Oper)(x y:Oper):Bool:=
 (match x.dst with
  |some d=>!OC a y d&&(match y.dst with|some e=>!Nat.beq d e|none=>true)
  |none=>true)&&
 (match y.dst with
  |some d=>!OC a x d
  |none=>true)
def Xh:Op->Bool
 | .select ..=>true
 |_=>false
def zr(b:List Oper)(i:Nat)(a:Nat)(o:Oper):Nat->List Oper->List Nat->Bool
 |_,[],_=>true
 |_,_,[]=>true
 |j,x::c,p::d=>(Nat.beq j i||Nat.testBit p i||Nat.testBit a j||Oe b o x)&&zr b i a o (j+1) c d
def Fk(a:List Oper)(b:List Nat):Nat->List Oper->List Nat->Bool
 |_,[],_=>true
 |_,_,[]=>true
 |i,o::e,c::d=>!Xh o.op&&(KV o.op||zr a i c o 0 a b)&&Fk a b (i+1) e d
def kL(done p i:Nat):Bool:=!(Nat.testBit done i)&&Nat.beq (p&&&done) p
def wM(done:Nat):Nat->List Oper->List Nat->Option Nat
 |_,[],_=>none
 |_,_,[]=>none
 |i,o::a,p::b=>bif kL done p i&&!(KV o.op)then some i else wM done (i+1) a b
def pG(done:Nat):Nat->List Oper->List Nat->List Nat
 |_,[],_=>[]
 |_,_,[]=>[]
 |i,_::a,p::b=>bif kL done p i then i::pG done (i+1) a b else pG done (i+1) a b
def Ln(m a:E):List (Nat×Nat)->Prop->Prop
 |[],k=>k
 |(b,o)::r,k=>af a b o=af m b o/\Ln m a r k
def Dy(a:Nat)(m b:E):List (Nat×List (Nat×Nat))->Prop->Prop
 |[],k=>k
 |(r,c)::L,k=>bif Nat.testBit a r then Dy a m b L k else Ln m b c (Dy a m b L k)
def Od:List Nat->(Nat->Prop)->Prop
 |[],_=>True
 |[i],f=>f i
 |i::r,f=>f i/\Od r f
def oG(P:Program)(T:TT)(G:List Nat)(n:Nat)(b:List Oper)(c d:List Nat):Nat->Nat->Fr->E->List (Nat×List (Nat×Nat))->(Fr->E->Prop)->Prop
 |0,done,a,m,_,k=>match pG done 0 b c with
  |[]=>k a m
  |_=>False
 |e+1,done,a,m,L,k=>
  match wM done 0 b c with
  |some i=>match HO b i with
   |some o=>bif rX n o.dst then
    gd b a o.guard
     (λa=>rd T a m (λx=>oG P T G n b c d e (done|||2^i) (tW a o.dst x) m ((i,SD T a o.op)::L) k) o.op)
     (λa=>oG P T G n b c d e (done|||2^i) (tW a o.dst .un) m L k)
    else False
   |none=>False
  |none=>match pG done 0 b c with
   |[]=>k a m
   |h=>Od h λi=>match HO b i with
    |some o=>bif rX n o.dst then
     gd b a o.guard
      (λa=>wr P T G n a m o.dst o.type (λg x f=>Dy (tY d i) m f L (oG P T G n b c d e (done|||2^i) (tW g o.dst x) f L k)) o.op)
      (λa=>oG P T G n b c d e (done|||2^i) (tW a o.dst .un) m L k)
     else False
    |none=>False
def nl(r:Nat):∀(a:List Edge),Nat.testBit (lz a) r=true<->∃e∈a,Region.binds .any e=true/\e.on=r
 |[]=>by simp[lz]
 |e::a=>by
  have c:=nl r a;simp only[lz];cases b:Region.binds .any e
  .simp only[mG,c,aV,exists_eq_or_imp,b];simp
  .simp only[jG,Ul,bQ,c,aV,exists_eq_or_imp,b,true_and,Nc,ar]
def yg(b:List Nat)(r:Nat):∀(a:List Edge),Nat.testBit (nT b a) r=true->∃e∈a,Region.binds .any e=true/\(e.on=r\/Nat.testBit (tY b e.on) r=true)
 |[],h=>by simp[nT]at h
 |e::a,h=>by
  have i:=yg b r a;simp only[nT]at h;cases f:Region.binds .any e
  .simp only[f,mG]at h;obtain⟨c,g,d⟩:=i h;exact⟨c,ai _ g,d⟩
  .simp only[f,jG,Ul,bQ,Nc,ar]at h;rcases h with h|h
   .exact⟨e,bg,f,h⟩
   .obtain⟨c,g,d⟩:=i h;exact⟨c,ai _ g,d⟩
def lQ(c:List Nat):∀{e:List Oper}{f a:List Nat},k8 c e f a=true->∀(i:Nat)(o:Oper),e[i]? =some o->
 f[i]? =some (lz o.after.toList)/\tY a i=nT c o.after.toList/\∃b,a[i]? =some b
 |[],[],[],_,i,o,h=>by simp at h
 |x::e,p::f,b::a,h,i,o,d=>by
  simp only[k8,bK]at h;obtain⟨⟨g,j⟩,k⟩:=h;cases i with
  |zero=>
   simp at d;subst d;exact⟨by simp[bq g],by simp[tY,bq j],b,aL⟩
  |succ i=>
   have:=lQ c k i o (by simpa using d);simpa[tY]using this
 |[],[],_::_,h,_,_,_=>by simp[k8]at h
 |[],_::_,_,h,_,_,_=>by simp[k8]at h
 |_::_,[],_,h,_,_,_=>by simp[k8]at h
 |_::_,_::_,[],h,_,_,_=>by simp[k8]at h
def Jj(d:List Nat):∀{a:List Oper}{c b:List Nat},k8 d a c b=true->c.length=a.length/\b.length=a.length
 |[],[],[],_=>⟨rfl,rfl⟩
 |x::a,p::c,e::b,h=>by
  simp only[k8,bK]at h;have:=Jj d h.2;simp[this.1,this.2]
 |[],[],_::_,h=>by simp[k8]at h
 |[],_::_,_,h=>by simp[k8]at h
 |_::_,[],_,h=>by simp[k8]at h
 |_::_,_::_,[],h=>by simp[k8]at h
end Go.Vc
end
section
namespace Go.Vc
variable{N a:Nat}{b:Array Bool}
variable{P:Program}{T:TT}{G:List Nat}{n:Nat}
def tI{d:Nat}:∀{a:List Operand},Jt d a=false->d∉(a.filterMap λ| .tmp t=>some t|_=>none)
 |[],_=>aL
 |x::r,h=>by
  cases x with
  |tmp t=>
   simp only[Jt,br]at h;have b:=tI h.2;have:t≠d:=λe=>by subst e;simp at h
   simp only[List.filterMap_cons,aV,vt];exact⟨λe=>this e.symm,b⟩
  |const v=>simpa using tI (a:=r) (by simpa[Jt]using h)
  |global g=>simpa using tI (a:=r) (by simpa[Jt]using h)
  |func f=>simpa using tI (a:=r) (by simpa[Jt]using h)
def TG(a:Array Oper)(g:Nat):KP a.toList g=(a[g]?).bind (·.dst):=by
 unfold KP;rw[pF];have e:a.toList[g]? =a[g]? :=aL;rw[e];cases a[g]? <;>rfl
def Jh(b:Array Oper){o:Oper}{d:Nat}(h:OC b.toList o d=false):d∉o.looksAt b:=by
 simp only[OC,br]at h;unfold Oper.looksAt;rw[TU,List.mem_append,vt];refine⟨tI h.1,?_⟩;have a:=h.2;cases c:o.guard with
 |none=>simp
 |some p=>
  obtain⟨g,f⟩:=p;rw[c]at a;simp only at a⊢;rw[TG]at a;cases hd:(b[g]?).bind (·.dst)with
  |none=>simp
  |some t=>
   rw[hd]at a;simp only at a;simp only[Option.toList_some,lF];intro e;subst e;simp at a
def Pl(b:Array Oper){x y:Oper}(h:Oe b.toList x y=true):x.apart b y=true:=by
 simp only[Oe,bK]at h;obtain⟨a,d⟩:=h;unfold Oper.apart;simp only[bK];constructor
 .cases i:x.dst with
  |none=>rfl
  |some f=>
   rw[i]at a;simp only[bK,iL]at a⊢;refine⟨?_,?_⟩
   .have:=Jh b a.1;simpa using this
   .have c:=a.2;cases e:y.dst with
    |none=>simp
    |some j=>
     rw[e]at c;simp only[iL]at c;simp only[vr,ne_eq,DF];intro g;subst g;simp at c
 .cases e:y.dst with
  |none=>rfl
  |some f=>
   rw[e]at d;simp only[iL]at d⊢;have:=Jh b d;simpa using this
def Dg(i:List Oper)(a d:Nat)(o:Oper):∀{g:List Oper}{k:List Nat}{c:Nat},zr i a d o c g k=true->∀(j:Nat)(x:Oper)(p:Nat),g[j]? =some x->k[j]? =some p->
 c+j=a\/Nat.testBit p a=true\/Nat.testBit d (c+j)=true\/Oe i o x=true
 |[],_,_,_,j,x,p,h,_=>by simp at h
 |_::_,[],_,_,j,x,p,_,h=>by simp at h
 |y::g,q::k,c,h,j,x,p,f,e=>by
  simp only[zr,bK,bQ]at h;obtain⟨b,m⟩:=h;cases j with
  |zero=>
   simp at f e;subst f;subst e;rcases b with((b|b)|b)|b
   .exact Or.inl (by simpa using bq b)
   .exact Or.inr (Or.inl b)
   .exact Or.inr (Or.inr (Or.inl (by simpa using b)))
   .exact Or.inr (Or.inr (Or.inr b))
  |succ j=>
   have:=Dg i a d o m j x p (by simpa using f) (by simpa using e);have l:c+1+j=c+(j+1):=V;rw[l]at this;exact this
def wH(d:List Oper)(j:List Nat):∀{i:List Oper}{e:List Nat}{c:Nat},Fk d j c i e=true->∀(a:Nat)(o:Oper)(b:Nat),i[a]? =some o->e[a]? =some b->
 Xh o.op=false/\(KV o.op=true\/zr d (c+a) b o 0 d j=true)
 |[],_,_,_,a,o,b,h,_=>by simp at h
 |_::_,[],_,_,a,o,b,_,h=>by simp at h
 |y::i,q::e,c,h,a,o,b,g,f=>by
  simp only[Fk,bK,bQ,iL]at h;obtain⟨⟨l,m⟩,n⟩:=h;cases a with
  |zero=>simp at g f;subst g;subst f;exact⟨l,by simpa using m⟩
  |succ a=>
   have:=wH d j n a o b (by simpa using g) (by simpa using f);have k:c+1+a=c+(a+1):=V;rw[k]at this;exact this
def Jg(p d:Nat):Nat.beq (p&&&d) p=true<->∀r,Nat.testBit p r=true->Nat.testBit d r=true:=by
 constructor
 .intro h r a;have e:=bq h;rw[<-e,Nat.testBit_and]at a;simp only[bK]at a;exact a.2
 .intro h;have:p&&&d=p:=by
   apply Nat.eq_of_testBit_eq;intro r;rw[Nat.testBit_and];cases a:Nat.testBit p r
   .rfl
   .simp[h r a]
  rw[this];simp
structure NX(N done:Nat)(b:Array Bool):Prop where
 size:b.size=N
 X0:∀a,b.getD a false=Nat.testBit done a
def NX.un{done:Nat}(h:NX N done b)(c:a<N):b.getD a true=Nat.testBit done a:=by
 rw[<-h.X0 a];have:a<b.size:=by rw[h.size];exact c
 simp[this]
def NX.set{done:Nat}(h:NX N done b)(c:a<N):NX N (done|||2^a) (b.setIfInBounds a true):=by
 refine⟨by simp[h.size],λj=>?_⟩;have d:a<b.size:=by rw[h.size];exact c
 rw[Ul,Nc];by_cases e:a=j
 .subst e;simp[d]
 .rw[getD_set_ne false e,h.X0 j];simp[e]
def HV(d:Array Oper){q h r:List Nat}(n:k8 h d.toList q r=true){done:Nat}(g:NX d.size done b)(a:Nat):
 a∈Region.ready .any d b<->∃o p,d[a]? =some o/\q[a]? =some p/\kL done p a=true:=by
 rw[mem_ready]
 constructor
 .rintro⟨m,o,c,s⟩
  have k:a<d.size:=(Array.getElem?_eq_some_iff.1 c).1
  have l:=(lQ h n a o (by simpa using c)).1
  refine⟨o,_,c,l,?_⟩
  simp only[kL,bK,iL]
  refine⟨by rw[<-g.un k];exact m,(Jg _ _).2 λt e=>?_⟩
  obtain⟨f,j,i,rfl⟩:=(nl t _).1 e
  rw[<-g.X0]
  exact s f (Array.mem_toList_iff.1 j) i
 .rintro⟨o,p,c,l,e⟩
  have k:a<d.size:=(Array.getElem?_eq_some_iff.1 c).1
  have m:=(lQ h n a o (by simpa using c)).1
  rw[l]at m
  simp only[DF]at m
  subst m
  simp only[kL,bK,iL]at e
  refine⟨by rw[g.un k];exact e.1,o,c,λf j i=>?_⟩
  rw[g.X0]
  exact(Jg _ _).1 e.2 f.on ((nl _ _).2 ⟨f,Array.mem_toList_iff.2 j,i,rfl⟩)
def La(done:Nat):∀{d:List Oper}{e:List Nat}{b a:Nat},a∈pG done b d e<->∃j o p,a=b+j/\d[j]? =some o/\e[j]? =some p/\kL done p a=true
 |[],_,_,_=>by simp[pG]
 |_::_,[],_,_=>by simp[pG]
 |x::d,q::e,b,a=>by
  have h:=La done (d:=d) (e:=e) (b:=b+1) (a:=a);have k:(∃j o p,a=b+j/\(x::d)[j]? =some o/\(q::e)[j]? =some p/\kL done p a=true)<->
   ((a=b/\kL done q b=true)\/∃j o p,a=b+1+j/\d[j]? =some o/\e[j]? =some p/\kL done p a=true):=by
   constructor
   .rintro⟨j,o,p,rfl,g,f,c⟩
    cases j with
    |zero=>simp at f;subst f;exact Or.inl ⟨rfl,by simpa using c⟩
    |succ j=>exact Or.inr ⟨j,o,p,V,by simpa using g,by simpa using f,by rwa[show b+(j+1)=b+(j+1)from rfl]at c⟩
   .rintro(⟨rfl,c⟩|⟨j,o,p,rfl,g,f,c⟩)
    .exact⟨0,x,q,rfl,aL,aL,c⟩
    .exact⟨j+1,o,p,V,by simpa using g,by simpa using f,c⟩
  rw[k,<-h];simp only[pG];cases c:kL done q b
  .simp
  .simp
def Ja(done:Nat):∀{d:List Oper}{e:List Nat}{c a:Nat},wM done c d e=some a->∃j o p,a=c+j/\d[j]? =some o/\e[j]? =some p/\kL done p a=true/\KV o.op=false
 |[],_,_,_,h=>by simp[wM]at h
 |_::_,[],_,_,h=>by simp[wM]at h
 |x::d,q::e,c,a,h=>by
  simp only[wM]at h;cases b:(kL done q c&&!(KV x.op))
  .rw[b]at h;obtain⟨j,o,p,rfl,f,g,i,k⟩:=Ja done h;exact⟨j+1,o,p,V,by simpa using f,by simpa using g,i,k⟩
  .rw[b]at h;simp at h;subst h;simp only[bK,iL]at b;exact⟨0,x,q,rfl,aL,aL,b.1,b.2⟩
def Nj:∀{l:List Nat}{f:Nat->Prop},Od l f->∀a∈l,f a
 |[a],f,h,j,b=>by simp at b;subst b;exact h
 |a::c::r,f,h,j,b=>by
  rcases List.mem_cons.1 b with rfl|b
  .exact h.1
  .exact Nj h.2 j b
def Lp{m b:E}:∀{l:List (Nat×Nat)}{k:Prop},Ln m b l k->k/\∀q∈l,af b q.1 q.2=af m q.1 q.2
 |[],k,h=>⟨h,aL⟩
 |(e,o)::r,k,h=>by
  obtain⟨c,d⟩:=Lp h.2;refine⟨c,λq a=>?_⟩;rcases List.mem_cons.1 a with rfl|a
  .exact h.1
  .exact d q a
def EZ{c:Nat}{m g:E}:∀{L:List (Nat×List (Nat×Nat))}{k:Prop},Dy c m g L k->k/\∀x∈L,Nat.testBit c x.1=false->∀q∈x.2,af g q.1 q.2=af m q.1 q.2
 |[],k,h=>⟨h,aL⟩
 |(r,l)::L,k,h=>by
  simp only[Dy]at h;cases f:Nat.testBit c r
  .rw[f]at h;obtain⟨i,j⟩:=Lp h;obtain⟨d,e⟩:=EZ i;refine⟨d,λx a b=>?_⟩;rcases List.mem_cons.1 a with rfl|a
   .exact j
   .exact e x a b
  .rw[f]at h;obtain⟨d,e⟩:=EZ h;refine⟨d,λx a b=>?_⟩;rcases List.mem_cons.1 a with rfl|a
   .rw[f]at b;cases b
   .exact e x a b
def ZE(L:List (Nat×List (Nat×Nat)))(b:List (Nat×(World->Prop))):Prop:=
 ∀x∈b,(∀w,x.2 w)\/∃(a:List (Nat×Nat))(c:Nat×Nat->Option Value),(x.1,a)∈L/\x.2=λw=>∀q∈a,af w.heap q.1 q.2=c q
end Go.Vc
end
section
namespace Go.Vc
variable{a:Program}{T:TT}{G:List Nat}{n:Nat}
def OW(hT:ui a T)(hG:Uw a G)(b:Array Oper)(U f:List Nat)(z:k8 f b.toList U f=true)(ao:Fk b.toList U 0 b.toList f=true)
 {ag:Exit->Act->World->Prop}(hQ:∀N g w,¬ag (.panic N) g w){w0:World}{a0:Act}:
 ∀(F done:Nat)(D:Fr)(ac:E)(L:List (Nat×List (Nat×Nat)))(B:Fr->E->Prop)(M:List (Nat×(World->Prop)))(c:Array Bool)(g:Act)(w:World),
  oG a T G n b.toList U f F done D ac L B->ZE L M->NX b.size done c->Hj (λi K=>Nat.testBit (tY f i) K) c->jY n D g->Bx n D ac->w.heap=ac->ph w0 w->
  mz (zC b.toList) a0 g->
  (∀s d k,B s k.heap->jY n s d->Bx n s k.heap->ph w0 k->mz (zC b.toList) a0 d->ag .normal d k)->
  vn a .any b ag (λi K=>Nat.testBit (tY f i) K) M F c g w:=by
 have H:Ut .any b (λi K=>Nat.testBit (tY f i) K):=by
  intro i K o d p;have X:=(lQ f z i o (by simpa using d)).2.1;simp only[X]at p;obtain⟨e,he,hb,h⟩:=yg f K _ p;exact⟨e,Array.mem_toList_iff.1 he,hb,h⟩
 have aF:=Jj f z
 have av:∀(j:Nat)(o:Oper) cs r,b[j]? =some o->o.op≠.select cs r:=by
  intro j o cs r d e;obtain⟨_,_,bj,ay⟩:=lQ f z j o (by simpa using d);have:=(wH _ _ ao j o bj (by simpa using d) ay).1;rw[e]at this;simp[Xh]at this
 have al:∀{done:Nat}{c:Array Bool},NX b.size done c->∀i,i∈Region.ready .any b c<->i∈pG done 0 b.toList U:=by
  intro done c hD i;rw[HV b z hD i,La];constructor
  .rintro⟨o,R,d,O,p⟩;exact⟨i,o,R,V,by simpa using d,O,p⟩
  .rintro⟨j,o,R,e,d,O,p⟩;have:i=j:=V;subst this;exact⟨o,R,by simpa using d,O,p⟩
 have au:∀{done:Nat}{c:Array Bool},NX b.size done c->pG done 0 b.toList U=[]->Region.ready .any b c=[]:=by
  intro done c hD h;apply List.eq_nil_iff_forall_not_mem.2;intro i m;rw[al hD i,h]at m;cases m
 intro F
 induction F with
 |zero=>
  intro done D ac L B M c g w h hL hD hC hR hB hw hs hk hq
  subst hw
  simp only[oG]at h
  split at h
  .rename_i h0
   exact⟨au hD h0,hq D g w h hR hB hs hk⟩
  .exact h.elim
 |succ F Q=>
  intro done D ac L B M c g w h hL hD hC hR hB hw hs hk hq
  subst hw
  simp only[oG]at h
  split at h
  · -- a reading is taken first
   rename_i i m
   obtain⟨j,o,R,e,d,O,p,aD⟩:=Ja done m
   have:i=j:=V
   subst this
   rw[pF,d]at h
   simp only at h
   have A:b[i]? =some o:=by simpa using d
   have aa:i<b.size:=(Array.getElem?_eq_some_iff.1 A).1
   have ab:i∈Region.ready .any b c:=(HV b z hD i).2 ⟨o,R,A,O,p⟩
   cases hd:rX n o.dst
   .rw[hd]at h;exact h.elim
   .rw[hd]at h
    simp only[jG]at h
    have Y:=DL hd
    have Z:∀C,o.dst=some C->C∈zC b.toList:=λC ah=>K6 ah _ (iv d)
    have aq:∀j I,b[j]? =some I->j≠i->c.getD j true=false->(∀e∈I.after,Region.binds .any e=true->e.on≠i)->o.apart b I=true:=by
     intro j I ak aA ar aB;have az:j<b.size:=(Array.getElem?_eq_some_iff.1 ak).1;obtain⟨_,aE,bi,ap⟩:=lQ f z i o d;rcases(wH _ _ ao i o bi d ap).2 with t|t
     .rw[aD]at t;cases t
     .have W:=(lQ f z j I (by simpa using ak)).1;have u:tY f i=bi:=by
       have:∀(l:List Nat)(i r:Nat),l[i]? =some r->tY l i=r:=by
        intro l;induction l with
        |nil=>intro i r h;simp at h
        |cons ad l Q=>intro i r h;cases i with
         |zero=>simpa[tY]using h
         |succ i=>simpa[tY]using Q i r (by simpa using h)
       exact this f i bi ap
      rcases Dg _ _ _ _ t j I _ (by simpa using ak) W with e|e|e|e
      .exact absurd V aA
      .rw[bT]at e;obtain⟨q,y,hb,J⟩:=(nl i _).1 e;exact absurd J (aB q (Array.mem_toList_iff.1 y) hb)
      .rw[bT,<-u]at e;have:=wW H hC ab e;rw[hD.X0]at this;rw[hD.un az,this]at ar;cases ar
      .exact Pl b e
    rcases IV b hR hB o h with⟨J,s,am,y,u⟩|⟨J,s,aj,y,u⟩
    .obtain⟨ad,aw,hx,hv,aC⟩:=Li (P:=a) hT y u o am
     let ax:World->Prop:=λk=>∀q∈SD T s o.op,af k.heap q.1 q.2=af w.heap q.1 q.2
     refine Hg (S:=ax) H A av (λN g w hc=>absurd hc (hQ _ _ _)) F c g w hC aq ab (F:=aw) (Or.inl ⟨J,λk l=>aC k l⟩) (λq _=>rfl) ?_
     refine Q _ _ _ _ B _ _ _ w hx ?_ (hD.set aa) (hC.set H ab) (y.put hv Y) (u.put _ _) rfl hs (hk.trans (mz.put Z _ _)) hq
     intro W l
     rcases List.mem_cons.1 l with rfl|l
     .exact Or.inr ⟨_,λq=>af w.heap q.1 q.2,bg,rfl⟩
     .rcases hL W l with t|⟨As,N,X,h2⟩
      .exact Or.inl t
      .exact Or.inr ⟨As,N,ai _ X,h2⟩
    .refine Hg (S:=λ_=>True) H A av (λN g w hc=>absurd hc (hQ _ _ _)) F c g w hC aq ab (F:=undef) (Or.inr ⟨J,rfl⟩) trivial ?_
     refine Q _ _ _ _ B _ _ _ w aj ?_ (hD.set aa) (hC.set H ab) (y.put (x:=.un) rfl Y) (u.put _ _) rfl hs (hk.trans (mz.put Z _ _)) hq
     intro W l
     rcases List.mem_cons.1 l with rfl|l
     .exact Or.inl λ_=>trivial
     .exact hL W l
  .split at h
   .rename_i h0
    exact Qd (au hD h0) (hq D g w h hR hB hs hk) _
   .rename_i rs ax
    have ar:=Nj h
    refine Ra ?_ ?_
    .intro e
     apply ax
     cases I:pG done 0 b.toList U with
     |nil=>rfl
     |cons ad xs=>
      have:ad∈Region.ready .any b c:=(al hD ad).2 (by rw[I];exact bg)
      rw[e]at this
      cases this
    .intro i m
     have I:=ar i ((al hD i).1 m)
     obtain⟨o,R,A,O,p⟩:=(HV b z hD i).1 m
     have d:b.toList[i]? =some o:=by simpa using A
     have aa:i<b.size:=(Array.getElem?_eq_some_iff.1 A).1
     rw[pF,d]at I
     simp only at I
     cases hd:rX n o.dst
     .rw[hd]at I;exact I.elim
     .rw[hd]at I
      simp only[jG]at I
      have Y:=DL hd
      have Z:∀C,o.dst=some C->C∈zC b.toList:=λC ah=>K6 ah _ (iv d)
      unfold wpOp
      simp only[A]
      rcases IV b hR hB o I with⟨J,s,am,y,u⟩|⟨J,s,aj,y,u⟩
      .rw[an J]
       refine .inl (Qe hT hG y u o am w rfl _ _ λaD ad aw k hx aq ap hv az=>?_)
       obtain⟨aA,aB⟩:=EZ hx
       refine⟨λW l aC ab=>?_,Q _ _ _ L B M _ _ k aA hL (hD.set aa) (hC.set H m) (aq.put hv Y) (ap.put _ _) rfl (hs.trans az) (hk.trans (mz.put Z _ _)) hq⟩
       rcases hL W l with t|⟨As,N,X,h2⟩
       .exact t k
       .rw[h2]at ab⊢
        intro q ak
        rw[aB _ X aC q ak,ab q ak]
      .rw[ae (by rw[J];simp)]
       exact⟨λW l _ ab=>ab,Q _ _ _ L B M _ _ w aj hL (hD.set aa) (hC.set H m) (y.put (x:=.un) rfl Y) (u.put _ _) rfl hs (hk.trans (mz.put Z _ _)) hq⟩
end Go.Vc
end
section
namespace Go.Vc
variable{M:List Nat}{a:Act}{s:Sh}{y:s.ty}
variable{P:Program}{T:TT}{G:List Nat}{b:Nat}
structure O0 where
 TN:List (Nat×List (Nat×Sh))
 UQ:List (Nat×List (Nat×Sh))
 eA:List (Nat×List Nat)
def lk{α:Type}:List (Nat×α)->Nat->Option α
 |[],_=>none
 |(u,x)::r,t=>bif Nat.beq u t then some x else lk r t
def Dl:Code->Option Nat
 | .region id _ _=>some id
 | .seq a b=>match Dl a with
  |some i=>some i
  |none=>Dl b
 | .cond _ a b=>match Dl a with
  |some i=>some i
  |none=>Dl b
 | .block _ c=>Dl c
 | .loop c=>Dl c
 | .scope c=>Dl c
 |_=>none
def VP{α:Type}(l:List (Nat×α))(c:Code):Option α:=
 match Dl c with
 |some i=>lk l i
 |none=>none
def Hq:List (Nat×Sh)->Type
 |[]=>E->Prop
 |(_,s)::r=>s.ty->Hq r
def Oa:List (Nat×Sh)->Type
 |[]=>E->Nat
 |(_,s)::r=>s.ty->Oa r
def QK:(s:Sh)->SV->Option s.ty
 | .I,.c (.i b)=>some b
 | .U k,.c (.u c b)=>if k=c then some b else none
 | .T,.c (.t c)=>some c
 | .T,.tt=>some true
 | .T,.ff=>some false
 | .S,.c (.s x)=>some x
 | .P,.c (.p c o)=>some (c,o)
 | .P,.c (.bp _ c o)=>some (c,o)
 | .F,.c (.fn f a d)=>some (f,a,d)
 | .F,.c (.fv q)=>some q
 | .M,.c (.mp c)=>some c
 |_,_=>none
def Ht:(l:List (Nat×Sh))->Hq l->Fr->E->Prop
 |[],I,_,m=>I m
 |(t,s)::r,I,a,m=>match QK s (ic a t)with
  |some x=>Ht r (I x) a m
  |none=>False
def Of:(l:List (Nat×Sh))->Hq l->Oa l->Fr->E->Nat->Prop
 |[],I,μ,_,m,N=>I m/\μ m<N
 |(t,s)::r,I,μ,a,m,N=>match QK s (ic a t)with
  |some x=>Of r (I x) (μ x) a m N
  |none=>False
def Ph:(l:List (Nat×Sh))->Hq l->Fr->(Fr->(E->Prop)->Prop)->Prop
 |[],I,a,k=>k a I
 |(t,s)::r,I,a,k=>∀x:s.ty,Ph r (I x) ((t,.c (s.mk x))::a) k
def Pj:(l:List (Nat×Sh))->Hq l->Oa l->Fr->(Fr->(E->Prop)->(E->Nat)->Prop)->Prop
 |[],I,μ,a,k=>k a I μ
 |(t,s)::r,I,μ,a,k=>∀x:s.ty,Pj r (I x) (μ x) ((t,.c (s.mk x))::a) k
def nA:List Nat->Fr->Fr
 |[],a=>a
 |t::r,a=>(t,.fS)::nA r a
def oD:Code->List Nat
 | .region _ b _=>zC b.toList
 | .seq a b=>oD a++oD b
 | .cond _ a b=>oD a++oD b
 | .block _ c=>oD c
 | .loop c=>oD c
 |_=>[]
def pM(M:List Nat):List (Nat×Sh)->Bool
 |[]=>true
 |(t,_)::r=>uV t M&&pM M r
def WW(x y:SV)(k:Prop):Prop:=x=y/\k
def aB(x:SV)(k:Prop):WW x x k=k:=by simp[WW]
def kZ(A:O0)(c:Code):List Nat:=
 match VP A.eA c with
 |some K=>K
 |none=>[]
def Dh(b:Nat)(K:List Nat):Fr->List Nat
 |[]=>[]
 |(q,_)::r=>bif Nat.ble b q&&!uV q K then q::Dh b K r else Dh b K r
def um(b:Nat)(K:List Nat)(a:Fr):Fr:=nA (Dh b K a) a
def Up(a b:Fr):List Nat->Prop->Prop
 |[],k=>k
 |q::K,k=>WW (ic b q) (ic a q) (Up a b K k)
def Lh(c:Fr):Op->Option SV
 | .move x| .assign x=>match ev c x with
  | .fS=>none
  |y=>some y
 | .binOp d _ x y _=>match ev c x,ev c y with
  | .c (.i a),.c (.i b)=>match d with
   | .eql=>some (.c (.t (a==b)))
   | .neq=>some (.c (.t (a !=b)))
   | .lss=>some (.c (.t (decide (a<b))))
   | .leq=>some (.c (.t (decide (a<=b))))
   | .gtr=>some (.c (.t (decide (a>b))))
   | .geq=>some (.c (.t (decide (a>=b))))
   |_=>none
  |_,_=>none
 |_=>none
def qQ(b:Nat):List Oper->Fr->Option Fr
 |[],a=>some a
 |o::r,a=>bif rX b o.dst then
  match o.guard with
  |none=>match Lh a o.op with
   |some x=>qQ b r (tW a o.dst x)
   |none=>none
  |some _=>none
  else none
def VR(A:O0)(b t:Nat):Code->Fr->Option Bool
 | .region _ e false,d=>match qQ b e.toList d with
  |some a=>lp (ic a t)
  |none=>none
 | .seq (.region _ e false) (.cond (.tmp u) .skip c),d=>
  match VP A.UQ (.cond (.tmp u) .skip c)with
  |some _=>none
  |none=>bif Nat.beq u t&&uV t (oD c)then
   match qQ b e.toList d with
   |some a=>match lp (ic a t),VR A b t c a with
    |some x,some y=>some (x||y)
    |_,_=>none
   |none=>none
   else none
 |_,_=>none
def YA(A:O0)(b:Nat)(d:Operand)(a c:Code)(e:Fr):Option (Nat×Bool):=
 match d,a with
 | .tmp t,.skip=>bif uV t (oD c)then
  match VR A b t c e with
  |some y=>some (t,y)
  |none=>none
  else none
 |_,_=>none
def uz(a:Fr)(c:Operand)(v:SV):Fr:=
 match c with
 | .tmp t=>(t,v)::a
 |_=>a
def U1:List Oper->List Nat
 |[]=>[]
 |o::r=>lz o.after.toList::U1 r
def Tf:List Nat->List Oper->List Nat
 |a,[]=>a
 |a,o::r=>Tf (a++[nT a o.after.toList]) r
def qd:Code->Bool
 | .region _ b c=>!c||(k8 (Tf [] b.toList) b.toList (U1 b.toList) (Tf [] b.toList)&&Fk b.toList (U1 b.toList) 0 b.toList (Tf [] b.toList))
 | .seq a b=>qd a&&qd b
 | .cond _ a b=>qd a&&qd b
 | .block _ c=>qd c
 | .loop c=>qd c
 |_=>true
def vc(P:Program)(T:TT)(G:List Nat)(b:Nat)(A:O0):Code->Fr->E->(Exit->Fr->E->Prop)->Prop
 | .skip,c,m,Q=>Q .normal c m
 | .region id d e,c,m,Q=>
  bif e then oG P T G b d.toList (U1 d.toList) (Tf [] d.toList) d.toList.length 0 c m [] (λc m=>Q .normal c m)
  else sg P T G b d.toList d.toList c m (λc m=>Q .normal c m)
 | .seq a g,c,m,Q=>match VP A.UQ g with
  |none=>vc P T G b A a c m λ
   | .normal,e,d=>vc P T G b A g e d Q
   |h,e,d=>Q h e d
  |some l=>bif pM (oD a) l then∃K:Hq l,(vc P T G b A a c m λ
   | .normal,e,d=>Up c e (kZ A g) (Ht l K e d)
   |h,e,d=>Q h e d)/\
   (Ph l K (nA (oD a) (um b (kZ A g) c)) λe f=>∀d,f d->vc P T G b A g e d Q)else False
 | .cond f a g,c,m,Q=>match ev c f with
  | .tt=>vc P T G b A a c m Q
  | .ff=>vc P T G b A g c m Q
  | .c (.t x)=>match YA A b f a g c with
   |some (t,y)=>Q .normal ((t,.c (.t (x||y)))::nA (oD g) c) m
   |none=>(x=true->vc P T G b A a (uz c f .tt) m Q)/\(x=false->vc P T G b A g (uz c f .ff) m Q)
  |_=>False
 | .block id f,c,m,Q=>vc P T G b A f c m λ
  | .exit i,e,d=>bif Nat.beq i id then Q .normal e d else Q (.exit i) e d
  |h,e,d=>Q h e d
 | .loop f,c,m,Q=>match VP A.TN f with
  |none=>False
  |some l=>bif pM (oD f) l then∃(I:Hq l)(μ:Oa l),Ht l I c m/\
   (Pj l I μ (nA (oD f) (um b (kZ A f) c)) λe j μ'=>∀d,j d->vc P T G b A f e d λ
    | .normal,g,i=>Up c g (kZ A f) (Of l I μ g i (μ' d))
    |h,g,i=>Q h g i)else False
 | .exit id,c,m,Q=>Q (.exit id) c m
 | .ret,c,m,Q=>Q .ret c m
 |_,_,_,_=>False
def mz.mono{b:List Nat}{c:Act}(h:mz M a c)(e:∀t∈M,t∈b):mz b a c:=λt f=>h t λd=>f (e t d)
def BJ:∀(M:List Nat)(a:Fr)(t:Nat),(t∈M/\ic (nA M a) t=.fS)\/(t∉M/\ic (nA M a) t=ic a t)
 |[],_,_=>Or.inr ⟨aL,rfl⟩
 |u::M,a,t=>by
  simp only[nA,ic];cases d:Nat.beq u t
  .have f:u≠t:=λe=>by subst e;simp at d
   rcases BJ M a t with⟨b,c⟩|⟨b,c⟩
   .exact Or.inl ⟨ai _ b,c⟩
   .exact Or.inr ⟨by simp only[aV,vt];exact⟨λe=>f e.symm,b⟩,c⟩
  .have:=bq d;subst this;exact Or.inl ⟨bg,rfl⟩
def Ad{d:Fr}{c:Act}(g:jY b d a)(j:c.tmps.size=b)(hd:c.defers=[])(i:mz M a c):jY b (nA M d) c:=by
 refine⟨j,hd,λt=>?_⟩;rcases BJ M d t with⟨_,h⟩|⟨e,f⟩
 .rw[h];trivial
 .rw[f,i t e];exact g.aF t
def jY.nA{c:Fr}{a:Act}(d:jY b c a):∀(M:List Nat),jY b (nA M c) a
 |[]=>d
 |t::M=>(jY.nA d M).fS t
def Bx.nA{a:Fr}{m:E}(h:Bx b a m):∀(M:List Nat),Bx b (nA M a) m
 |[]=>h
 |t::M=>(Bx.nA h M).fS aL
def No{K:List Nat}{q:Nat}(d:b<=q)(c:q∉K):∀{a:Fr},q∈Dh b K a\/ic a q=.fS
 |[]=>Or.inr rfl
 |(u,x)::r=>by
  simp only[Dh,ic];cases i:Nat.beq u q
  .rcases No d c (a:=r)with h|h
   .left;cases(Nat.ble b u&&!uV u K)
    .exact h
    .exact ai _ h
   .exact Or.inr h
  .have:=bq i;subst this;have f:uV u K=false:=by
    cases g:uV u K
    .rfl
    .exact absurd (HL g) c
   have e:Nat.ble b u=true:=XD d;simp[f,e]
def KH{b c:Fr}:∀{K:List Nat}{k:Prop},Up b c K k->(∀q∈K,ic c q=ic b q)/\k
 |[],k,h=>⟨aL,h⟩
 |q::K,k,h=>by
  obtain⟨d,e⟩:=KH h.2;refine⟨λu a=>?_,e⟩;rcases List.mem_cons.1 a with rfl|a
  .exact h.1
  .exact d u a
def Bx.kZ{K:List Nat}{c j:Fr}{v p:E}(h:Bx b c v)(r:Bx b j p)(s:∀q∈K,ic j q=ic c q):Bx b (Vc.nA M (um b K c)) p:=by
 have i:∀{q d e l},lK (Vc.nA M (um b K c)) q d e l->lK c q d e l/\lK j q d e l:=by
  intro q d e l a;have f:ic (Vc.nA M (um b K c)) q=ic (um b K c) q\/ic (Vc.nA M (um b K c)) q=.fS:=by
   rcases BJ M (um b K c) q with⟨_,h⟩|⟨_,h⟩
   .exact Or.inr h
   .exact Or.inl h
  unfold lK at a;rcases f with f|f
  .rw[f]at a;unfold um at a;rcases BJ (Dh b K c) c q with⟨_,g⟩|⟨k,g⟩
   .rw[g]at a;simp at a
   .rw[g]at a;have t:b<=q:=h.key q d e l a;by_cases o:q∈K
    .refine⟨a,?_⟩;unfold lK;rw[s q o];exact a
    .rcases No (b:=b) t o (a:=c)with m|m
     .exact absurd m k
     .rw[m]at a;simp at a
  .rw[f]at a;simp at a
 exact⟨λq d e l a=>r.D q d e l (i a).2,λq w d e l m o u t k g=>h.Ok q w d e l m o u t (i k).1 (i g).1,λq d e l a=>h.key q d e l (i a).1⟩
def Sg{x:SV}(h:QK s x=some y):x.jH=true/\x.v=(s.mk y).v:=by
 unfold QK at h;split at h<;>first|(simp at h;subst h;exact⟨rfl,rfl⟩)|skip
 .split at h
  .rename_i a;subst a;simp at h;subst h;exact⟨rfl,rfl⟩
  .simp at h
 .simp at h
def Ll{d cx:Fr}{t:Nat}(g:jY b d a)(c:jY b cx a)(h:QK s (ic d t)=some y):jY b ((t,.c (s.mk y))::cx) a:=by
 refine⟨c.size,c.defers,λu=>?_⟩;simp only[ic];cases i:Nat.beq t u
 .exact c.aF u
 .have:=bq i;subst this;have e:=g.aF t;obtain⟨j,k⟩:=Sg h;have f:=e.eq j;show _=_;rw[f,k];rfl
def SR:(l:List (Nat×Sh))->Hq l->Oa l->Fr->Fr->(E->Prop)->(E->Nat)->Prop
 |[],I,μ,b,c,a,μ'=>c=b/\a=I/\μ'=μ
 |(t,s)::r,I,μ,b,c,a,μ'=>∃x:s.ty,SR r (I x) (μ x) ((t,.c (s.mk x))::b) c a μ'
def Nk:∀{l:List (Nat×Sh)}{I:Hq l}{μ:Oa l}{b:Fr}{k:Fr->(E->Prop)->(E->Nat)->Prop},Pj l I μ b k->∀{fr' I' μ'},SR l I μ b fr' I' μ'->k fr' I' μ'
 |[],_,_,_,_,h,_,_,_,a=>by obtain⟨rfl,rfl,rfl⟩:=a;exact h
 |(t,s)::r,_,_,_,_,h,_,_,_,a=>by obtain⟨x,a⟩:=a;exact Nk (h x) a
def Sh.TQ(s:Sh)(x:s.ty)(b e:Nat)(l:List Ce):SV.c (s.mk x)≠.box b e l/\SV.c (s.mk x)≠.zt b e l:=⟨aL,aL⟩
def Nn{a:Act}{g:Fr}(i:jY b g a):∀{l:List (Nat×Sh)}{I:Hq l}{μ:Oa l}{cx:Fr}{m:E}{N:Nat},jY b cx a->Bx b cx m->Of l I μ g m N->
 ∃c d μ',SR l I μ cx c d μ'/\jY b c a/\Bx b c m/\d m/\μ' m<N
 |[],I,μ,cx,_,_,f,e,h=>⟨cx,I,μ,⟨rfl,rfl,rfl⟩,f,e,h.1,h.2⟩
 |(t,s)::r,I,μ,cx,m,N,f,e,h=>by
  simp only[Of]at h;split at h
  .rename_i x p;obtain⟨c,d,μ',j,k,n,o⟩:=Nn i (Ll i f p) (e.fS (s.TQ x)) h;exact⟨c,d,μ',⟨x,j⟩,k,n,o⟩
  .exact h.elim
def Nm{a:Act}{g:Fr}(i:jY b g a):∀{l:List (Nat×Sh)}{I:Hq l}{μ:Oa l}{cx:Fr}{m:E},jY b cx a->Bx b cx m->Ht l I g m->
 ∃c d μ',SR l I μ cx c d μ'/\jY b c a/\Bx b c m/\d m
 |[],I,μ,cx,_,f,e,h=>⟨cx,I,μ,⟨rfl,rfl,rfl⟩,f,e,h⟩
 |(t,s)::r,I,μ,cx,m,f,e,h=>by
  simp only[Ht]at h;split at h
  .rename_i x o;obtain⟨c,d,μ',j,k,n⟩:=Nm i (Ll i f o) (e.fS (s.TQ x)) h;exact⟨c,d,μ',⟨x,j⟩,k,n⟩
  .exact h.elim
def Pm{a:Act}{i:Fr}(j:jY b i a):∀{l:List (Nat×Sh)}{I:Hq l}{cx:Fr}{m:E}{k:Fr->(E->Prop)->Prop},jY b cx a->Bx b cx m->Ht l I i m->Ph l I cx k->
 ∃c g,k c g/\jY b c a/\Bx b c m/\g m
 |[],I,cx,_,_,e,d,h,f=>⟨cx,I,f,e,d,h⟩
 |(t,s)::r,I,cx,m,k,e,d,h,f=>by
  simp only[Ht]at h;split at h
  .rename_i x n;exact Pm j (Ll j e n) (d.fS (s.TQ x)) h (f x)
  .exact h.elim
def Sz{l:Code}{Q:Exit->Act->World->Prop}(b:Nat->Act->World->Prop)
 (r:∀N a w,b N a w->l.wp P (Exit.then (λg k=>∃d,d<N/\b d g k) Q) a w):∀N a w,b N a w->(Code.loop l).wp P Q a w:=by
 have q:∀N a w,b N a w->∃M,b M a w/\∀c,c<M->¬b c a w:=by
  intro N;induction N using Nat.strongRecOn with
  |_ N j=>
   intro a w h;by_cases e:∃c,c<N/\b c a w
   .obtain⟨c,f,i⟩:=e;exact j c f a w i
   .exact⟨N,h,λc i f=>e ⟨c,i,f⟩⟩
 intro N a w o
 classical
 let μ:Act->World->Nat:=λa w=>if h:∃M,b M a w/\∀c,c<M->¬b c a w then Classical.choose h else 0
 have hμ:∀a w N,b N a w->b (μ a w) a w/\μ a w<=N:=by
  intro a w N h;have e:=q N a w h;have i:μ a w=Classical.choose e:=SF e;have n:=fK e;rw[i];refine⟨n.1,?_⟩;rcases aW N (Classical.choose e)with j|p
  .exact absurd h (n.2 N j)
  .exact p
 refine wp_loop (λa w=>∃N,b N a w) μ ⟨N,o⟩ ?_
 rintro a w ⟨N,h⟩
 refine Code.wp_mono ?_ (r (μ a w) a w (hμ a w N h).1)
 intro i g k m
 cases i with
 |normal=>
  obtain⟨d,j,f⟩:=m
  exact⟨⟨d,f⟩,nC (hμ g k d f).2 j⟩
 |_=>exact m
end Go.Vc
end
section
namespace Go.Vc
variable{i w:World}{j p:List Nat}{l a:Act}{f:Exit->Fr->E->Prop}{e:Exit}{b:E}
variable{g:Program}{h:TT}{G:List Nat}{d:Nat}{o:O0}
def kd(d:Nat)(i:World)(j:List Nat)(l:Act)(f:Exit->Fr->E->Prop):Exit->Act->World->Prop
 | .panic _,_,_=>False
 | .outgrown,_,_=>False
 |e,a,w=>∃b,jY d b a/\Bx d b w.heap/\ph i w/\mz j l a/\f e b w.heap
def kd.mk{b:Fr}(g:(∀c,e≠.panic c)/\e≠.outgrown)
 (k:jY d b a)(h:Bx d b w.heap)(o:ph i w)(m:mz j l a)(n:f e b w.heap):kd d i j l f e a w:=by
 cases e with
 |panic c=>exact absurd rfl (g.1 c)
 |outgrown=>exact absurd rfl g.2
 |_=>exact⟨b,k,h,o,m,n⟩
def kd.aT(h:kd d i j l f e a w):
 ((∀c,e≠.panic c)/\e≠.outgrown)/\∃b,jY d b a/\Bx d b w.heap/\ph i w/\mz j l a/\f e b w.heap:=by
 cases e with
 |panic c=>exact h.elim
 |outgrown=>exact h.elim
 |_=>exact⟨⟨aL,aL⟩,h⟩
def kd.left(h:kd d i j l f e a w):kd d i (j++p) l f e a w:=by
 obtain⟨g,q,c,b,n,k,m⟩:=h.aT;exact kd.mk g c b n (k.mono (λt o=>bI _ o)) m
def kd.right(h:kd d i j l f e a w):kd d i (p++j) l f e a w:=by
 obtain⟨g,q,c,b,n,k,m⟩:=h.aT;exact kd.mk g c b n (k.mono (λt o=>eD _ o)) m
def Sr{f:Fr}{e:Op}{x:SV}{k:SV->Prop}(c:Lh f e=some x)(d:k x):KV e=false/\rd h f b k e:=by
 unfold Lh at c;split at c
 .split at c
  .simp at c
  .simp at c;subst c;exact⟨rfl,d⟩
 .split at c
  .simp at c
  .simp at c;subst c;exact⟨rfl,d⟩
 .rename_i o t y z l;split at c
  .rename_i a j g i;refine⟨rfl,?_⟩;simp only[rd,g,i];split at c<;>simp at c<;>subst c<;>exact d
  .simp at c
 .simp at c
def D0(j:List Oper){b:E}{i:Fr->E->Prop}:∀{n:List Oper}{c e:Fr},qQ d n c=some e->i e b->sg g h G d j n c b i
 |[],c,e,a,f=>by simp[qQ]at a;subst a;exact f
 |o::s,c,e,a,f=>by
  simp only[qQ]at a;simp only[sg];cases hd:rX d o.dst
  .rw[hd]at a;simp at a
  .rw[hd]at a;simp only[jG]at a⊢;cases l:o.guard with
   |some p=>rw[l]at a;simp at a
   |none=>
    rw[l]at a;simp only[gd]at a⊢;split at a
    .rename_i x r;obtain⟨p,q⟩:=Sr (h:=h) (b:=b) (k:=λx=>sg g h G d j s (tW c o.dst x) b i) r (D0 j a f);rw[p];exact q
    .simp at a
def TV(p:Nat){b:E}{f:Exit->Fr->E->Prop}:∀(k:Code)(n:Fr)(y:Bool),VR o d p k n=some y->(∀i,lp (ic i p)=some y->f .normal i b)->vc g h G d o k n b f
 | .region id A e,n,y,a,m=>by
  cases e
  .simp only[VR]at a;simp only[vc,mG];split at a
   .rename_i i q;exact D0 _ q (m i a)
   .simp at a
  .simp[VR]at a
 | .seq (.region id A false) (.cond (.tmp u) .skip k),n,y,a,m=>by
  simp only[VR]at a;split at a
  .simp at a
  .rename_i w;cases l:(Nat.beq u p&&uV p (oD k))
   .rw[l]at a;simp at a
   .rw[l]at a;simp only[jG]at a;simp only[bK]at l;have z:=bq l.1;subst z;split at a
    .rename_i i q;split at a
     .rename_i C B e r;simp at a;subst a;rw[vc,w];simp only;rw[vc];simp only[mG];refine D0 _ q ?_;rw[vc];have x:ev i (.tmp u)=(ic i u).nb:=rfl;rw[x];cases j:ic i u with
      |tt=>
       rw[j]at e;simp[lp]at e;subst e;simp only[SV.nb,vc];exact m i (by rw[j];simp[lp])
      |ff=>
       rw[j]at e;simp[lp]at e;subst e;simp only[SV.nb];exact TV u k i B r (λs v=>m s (by simpa using v))
      |c s=>
       cases s with
       |t v=>
        rw[j]at e;simp[lp]at e;subst e;simp only[SV.nb,YA,l.2,jG,r];exact m _ (by simp[ic,lp])
       |_=>rw[j]at e;simp[lp]at e
      |_=>rw[j]at e;simp[lp]at e
     .simp at a
    .simp at a
def Ue(hT:ui g h)(hG:Uw g G)(au:g.follows .mixedOrders=true)(i:World):∀(D:Code),qd D=true->∀(l:Fr)(b:E)(f:Exit->Fr->E->Prop)(a:Act)(w:World),
 vc g h G d o D l b f->jY d l a->Bx d l b->w.heap=b->ph i w->D.wp g (kd d i (oD D) a f) a w:=by
 intro D
 induction D with
 |skip=>
  intro hd l b f a w c k s x t
  subst x
  exact wp_skip ⟨l,k,s,t,mz.az _ _,c⟩
 |region id p z=>
  intro hd l b f a w c k s x t
  simp only[vc]at c
  cases z
  .simp only[mG]at c
   refine wp_region_list ?_
   exact uO hT hG p p.toList l b (f .normal) a w (λ_ c=>c) c k s x t (mz.az _ _) λB I S j r v u q=>⟨B,r,v,u,q,j⟩
  .simp only[jG]at c
   simp only[qd,NR,Vj,bK]at hd
   refine wp_region_any au (Mf (e:=λy C=>Nat.testBit (tY (Tf [] p.toList) y) C) (L:=[]) _ _ _ _ ?_)
   have F:p.toList.length=p.size:=aL
   rw[F]at c
   refine OW hT hG p _ _ hd.1 hd.2 (λD a w hx=>hx) (w0:=i) (a0:=a) p.size 0 l b [] (f .normal) [] _ a _ c (λC hx=>by cases hx) ⟨aL,λy=>by simp[Vi];split<;>rfl⟩ (λy hi=>by simp[Vi]at hi;split at hi<;>simp at hi) k s x ⟨t.os,t.tape,t.output⟩ (mz.az _ _) λB I S j r v u q=>⟨B,r,v,u,q,j⟩
 |seq C U ac X=>
  intro hd l b f a w c k s x t
  simp only[vc]at c
  simp only[qd,bK]at hd
  refine wp_seq ?_
  split at c
  .refine Code.wp_mono ?_ (ac hd.1 l b _ a w c k s x t)
   intro e I S j
   obtain⟨p,B,r,v,u,z,j⟩:=j.aT
   cases e with
   |normal=>
    refine Code.wp_mono ?_ (X hd.2 B _ f I S j r v rfl u)
    intro e R aa j
    obtain⟨p,V,J,F,O,K,j⟩:=j.aT
    exact kd.mk p J F O ((z.mono (λH q=>bI _ q)).trans (K.mono (λH q=>eD _ q))) j
   |panic D=>exact absurd rfl (p.1 D)
   |outgrown=>exact absurd rfl p.2
   |exit y=>exact kd.mk (e:=.exit y) p r v u (z.mono (λH q=>bI _ q)) j
   |goto y=>exact kd.mk (e:=.goto y) p r v u (z.mono (λH q=>bI _ q)) j
   |ret=>exact kd.mk (e:=.ret) p r v u (z.mono (λH q=>bI _ q)) j
  .rename_i N hl
   cases ab:pM (oD C) N
   .rw[ab]at c;exact c.elim
   rw[ab]at c
   obtain⟨ad,h1,W⟩:=c
   refine Code.wp_mono ?_ (ac hd.1 l b _ a w h1 k s x t)
   intro e I S j
   obtain⟨p,B,r,v,u,z,j⟩:=j.aT
   cases e with
   |normal=>
    obtain⟨af,j⟩:=KH j
    obtain⟨ag,K',h3,Y,Z,h5⟩:=Pm r (Ad (k.nA _) r.size r.defers z) (Bx.kZ s v af) j W
    refine Code.wp_mono ?_ (X hd.2 ag _ f I S (h3 _ h5) Y Z rfl u)
    intro e R aa j
    obtain⟨p,V,J,F,O,K,j⟩:=j.aT
    exact kd.mk p J F O ((z.mono (λH q=>bI _ q)).trans (K.mono (λH q=>eD _ q))) j
   |panic D=>exact absurd rfl (p.1 D)
   |outgrown=>exact absurd rfl p.2
   |exit y=>exact kd.mk (e:=.exit y) p r v u (z.mono (λH q=>bI _ q)) j
   |goto y=>exact kd.mk (e:=.goto y) p r v u (z.mono (λH q=>bI _ q)) j
   |ret=>exact kd.mk (e:=.ret) p r v u (z.mono (λH q=>bI _ q)) j
 |cond ad C U ac X=>
  intro hd l b f a w c k s x t
  simp only[vc]at c
  simp only[qd,bK]at hd
  have aj:∀{K:Bool},a.eval ad=.bool K->jY d (uz l ad (if K then .tt else .ff)) a:=by
   intro K F;unfold uz;split
   .rename_i H;refine⟨k.size,k.defers,λR=>?_⟩;simp only[ic];cases Y:Nat.beq H R
    .exact k.aF R
    .have:=bq Y;subst this;cases K<;>exact F
   .exact k
  have ak:∀{C:SV},(∀K e N,C≠.box K e N/\C≠.zt K e N)->Bx d (uz l ad C) b:=by
   intro C hx;unfold uz;split
   .exact s.fS hx
   .exact s
  split at c
  .rename_i Z
   exact wp_cond_true (k.eq Z rfl) (Code.wp_mono (λ_ _ _ c=>c.left) (ac hd.1 l b f a w c k s x t))
  .rename_i Z
   exact wp_cond_false (k.eq Z rfl) (Code.wp_mono (λ_ _ _ c=>c.right) (X hd.2 l b f a w c k s x t))
  .rename_i K Z
   have aa:a.eval ad=.bool K:=k.eq Z rfl
   split at c
   .rename_i H y' J
    unfold YA at J
    split at J
    .rename_i O
     cases ai:uV O (oD U)
     .rw[ai]at J;simp at J
     .rw[ai]at J
      simp only[jG]at J
      split at J
      .rename_i y0 ao
       simp at J
       obtain⟨rfl,rfl⟩:=J
       have am:a.tmps.getD O undef=.bool K:=aa
       refine wp_cond_split aa (λq=>?_) (λq=>?_)
       .subst x
        subst q
        refine wp_skip (kd.mk (e:=.normal) (b:=(O,.c (.t (true||y0)))::nA (oD U) l) ⟨aL,aL⟩ ?_ ((s.nA _).fS aL) t (mz.az _ _) c)
        have F:=Ad (M:=oD U) k k.size k.defers (mz.az _ a)
        refine⟨F.size,F.defers,λR=>?_⟩
        simp only[ic]
        cases Y:Nat.beq O R
        .exact F.aF R
        .have:=bq Y
         subst this
         simpa[SV.Is,SV.v,Ce.v]using am
       .subst q
        have hv:=TV (g:=g) (h:=h) (G:=G) (o:=o) (d:=d) O (b:=b) (f:=λe B V=>e=.normal/\V=b/\lp (ic B O)=some y0) U l y0 ao (λB V=>⟨rfl,rfl,V⟩)
        refine Code.wp_mono ?_ (X hd.2 l b _ a w hv k s x t)
        intro e I S j
        obtain⟨p,B,r,v,u,z,rfl,ah,al⟩:=j.aT
        refine kd.mk (e:=.normal) (b:=(O,.c (.t (false||y0)))::nA (oD U) l) p ?_ (by rw[ah];exact(s.nA _).fS aL) u (z.mono (λH q=>eD _ q)) (by rw[ah];exact c)
        have F:=Ad (M:=oD U) k r.size r.defers z
        refine⟨F.size,F.defers,λR=>?_⟩
        simp only[ic]
        cases Y:Nat.beq O R
        .exact F.aF R
        .have:=bq Y
         subst this
         obtain⟨V,W⟩:=wI al
         have h3:=(r.aF O).eq V
         rw[W]at h3
         simpa[SV.Is,SV.v,Ce.v]using h3
      .simp at J
    .simp at J
   .refine wp_cond_split aa (λq=>?_) (λq=>?_)
    .subst q
     exact Code.wp_mono (λ_ _ _ c=>c.left) (ac hd.1 _ b f a w (c.1 rfl) (aj aa) (ak aL) x t)
    .subst q
     exact Code.wp_mono (λ_ _ _ c=>c.right) (X hd.2 _ b f a w (c.2 rfl) (aj aa) (ak aL) x t)
  .exact c.elim
 |block id C J=>
  intro hd l b f a w c k s x t
  simp only[vc]at c
  refine wp_block (Code.wp_mono ?_ (J hd l b _ a w c k s x t))
  intro e I S j
  obtain⟨p,B,r,v,u,z,j⟩:=j.aT
  cases e with
  |exit y=>
   simp only[Exit.inBlock]
   simp only at j
   cases F:Nat.beq y id
   .rw[F]at j
    have q:y≠id:=λe=>by subst e;simp at F
    rw[ae q]
    exact kd.mk (e:=.exit y) p r v u z j
   .rw[F]at j
    rw[an (bq F)]
    exact kd.mk (e:=.normal) ⟨aL,aL⟩ r v u z j
  |normal=>exact kd.mk (e:=.normal) p r v u z j
  |panic D=>exact absurd rfl (p.1 D)
  |outgrown=>exact absurd rfl p.2
  |goto y=>exact kd.mk (e:=.goto y) p r v u z j
  |ret=>exact kd.mk (e:=.ret) p r v u z j
 |loop C J=>
  intro hd l b f a w c k s x t
  subst x
  simp only[vc]at c
  split at c
  .exact c.elim
  .rename_i N hl
   cases ab:pM (oD C) N
   .rw[ab]at c;exact c.elim
   rw[ab]at c
   obtain⟨O,μ,h0,h1⟩:=c
   let Y:Nat->Act->World->Prop:=λK I w=>∃B H μ',SR N O μ (nA (oD C) (um d (kZ o C) l)) B H μ'/\jY d B I/\Bx d B w.heap/\H w.heap/\μ' w.heap=K/\ph i w/\mz (oD C) a I
   obtain⟨aa,R,μ1,ap,al,ad,aj⟩:=Nm (μ:=μ) k (Ad (k.nA _) k.size k.defers (mz.az (oD C) a)) (Bx.kZ s s (λ_ _=>rfl)) h0
   refine Sz Y ?_ (μ1 w.heap) a w ⟨aa,R,μ1,ap,al,ad,aj,rfl,t,mz.az _ _⟩
   rintro K Z w ⟨B,H,μ',hi,r,v,ai,rfl,u,V⟩
   have ao:=Nk h1 hi w.heap ai
   refine Code.wp_mono ?_ (J hd B w.heap _ Z w ao r v rfl u)
   intro e I S j
   obtain⟨p,ag,q,z,F,W,j⟩:=j.aT
   cases e with
   |normal=>
    obtain⟨af,j⟩:=KH j
    obtain⟨ac,X,μ3,aq,am,ah,ak,ar⟩:=Nn q (Ad (k.nA _) q.size q.defers (V.trans W)) (Bx.kZ s z af) j
    exact⟨_,ar,ac,X,μ3,aq,am,ah,ak,rfl,F,V.trans W⟩
   |panic D=>exact absurd rfl (p.1 D)
   |outgrown=>exact absurd rfl p.2
   |exit y=>exact kd.mk (e:=.exit y) p q z F (V.trans W) j
   |goto y=>exact kd.mk (e:=.goto y) p q z F (V.trans W) j
   |ret=>exact kd.mk (e:=.ret) p q z F (V.trans W) j
 |exit id=>
  intro hd l b f a w c k s x t
  subst x
  exact wp_exit ⟨l,k,s,t,mz.az _ _,c⟩
 |ret=>
  intro hd l b f a w c k s x t
  subst x
  exact wp_ret ⟨l,k,s,t,mz.az _ _,c⟩
 |rangeFunc j k C U _ _=>intro _ l b f a w c;exact c.elim
 |scope C _=>intro _ l b f a w c;exact c.elim
 |label N=>intro _ l b f a w c;exact c.elim
 |goto N=>intro _ l b f a w c;exact c.elim
 |refuse s=>intro _ l b f a w c;exact c.elim
def uj:Nat->List SV->Fr
 |_,[]=>[]
 |i,x::r=>(i,x)::uj (i+1) r
def Gc(h:TT)(a:Fr)(b:E):List ResultVar->(List SV->Prop)->Prop
 |[],k=>k []
 | .tmp t::r,k=>bif (ic a t).jH then Gc h a b r λl=>k (ic a t::l)else False
 | .cell p t::r,k=>rd h a b (λx=>bif x.jH then Gc h a b r λl=>k (x::l)else False) (.load t (.tmp p))
def Xf(h:TT)(c:List ResultVar)(a:Fr)(b:E)(R:Value->E->Prop):Prop:=
 Gc h a b c λ
  |[x]=>R x.v b
  |l=>R (.tuple (l.map SV.v).toArray) b
def Sy(g:Program)(h:TT)(G:List Nat)(o:O0)(d:Nat)(c:List ResultVar)(f:Code)(e:List SV)(b:E)(R:Value->E->Prop):Prop:=
 vc g h G d o f (uj 0 e) b λ
  | .normal,a,b=>Xf h c a b R
  | .ret,a,b=>Xf h c a b R
  |_,_,_=>False
def Hu:∀(a:List SV)(i t:Nat),(t<i/\ic (uj i a) t=.fS)\/(i<=t/\ic (uj i a) t=a.getD (t -i) .fS)
 |[],i,t=>by
  rcases aW t i with h|h
  .exact Or.inl ⟨h,rfl⟩
  .exact Or.inr ⟨h,by simp[uj,ic]⟩
 |x::r,i,t=>by
  simp only[uj,ic];cases c:Nat.beq i t
  .have f:i≠t:=λe=>by subst e;simp at c
   rcases Hu r (i+1) t with⟨d,b⟩|⟨d,b⟩
   .exact Or.inl ⟨V,b⟩
   .refine Or.inr ⟨V,?_⟩;have e:t -i=(t -(i+1))+1:=V;rw[e,List.getD_cons_succ];exact b
  .have:=bq c;subst this;exact Or.inr ⟨ad _,aL⟩
def Lm(a:Array Value):ResultVar->Sem Value
 | .tmp t=>pure (a.getD t undef)
 | .cell p t=>do loadVar t (<-asAddr (a.getD p undef))
def QY(b:Func)(c:Array Value):results b c=(do
 let a<-b.results.mapM (Lm c)
 pure (if h:a.size=1 then a[0]else .tuple a)):=by
 unfold results
 congr 2
def HW{i:Fr}{a:Act}(v:ui g h)(f:jY d i a):∀(D:List ResultVar)(k:List SV->Prop)(w:World),Bx d i w.heap->Gc h i w.heap D k->
 ∃p,k p/\(D.mapM (Lm a.tmps)).run g w=.ok (p.map SV.v) w
 |[],k,w,_,b=>⟨[],b,aL⟩
 | .tmp t::A,k,w,j,b=>by
  simp only[Gc]at b;cases c:(ic i t).jH
  .rw[c]at b;exact b.elim
  .rw[c]at b;obtain⟨p,s,u⟩:=HW v f A _ w j b;refine⟨_,s,?_⟩;have z:=(f.aF t).eq c;have r:Lm a.tmps (.tmp t)=pure (a.tmps.getD t undef):=rfl;simp only[Uj,Sem.run_bind,Sem.run_pure,Result.andThen_ok,u,cK,z,r]
 | .cell q t::A,k,w,j,m=>by
  obtain⟨E,B,n,z,b⟩:=Li (P:=g) v f j ⟨none,.load t (.tmp q),0,"",#[],none⟩ m;have b:=b w (λC _=>rfl);cases x:E.jH
  .rw[x]at n;exact n.elim
  rw[x]at n;obtain⟨p,s,u⟩:=HW v f A _ w j n;refine⟨_,s,?_⟩;have G:∃c o,a.tmps.getD q undef=.pointer (some ⟨c,o,none⟩):=by
   have l:=SV.TR (f.aF q);simp only[Gc,rd,ev]at m;split at m
   .rename_i c o y;rw[y]at l;exact⟨c,o,l⟩
   .rename_i C c o y;rw[y]at l;exact⟨c,o,l⟩
   .exact m.elim
  obtain⟨c,o,y⟩:=G;simp only[execOp,Instr.loadAt,Act.eval,y,Instr.sureAddr,Sem.run_bind,Sem.run_pure,Result.andThen_ok]at b;have F:(loadVar t ⟨c,o,none⟩).run g w=.ok B w:=by
   cases C:(loadVar t ⟨c,o,none⟩).run g w with
   |ok I H=>
    rw[C]at b;simp at b;rw[b.1,b.2]
   |halt e H=>rw[C]at b;simp at b
  have H:B=E.v:=z.eq x;have r:(Lm a.tmps (.cell q t)).run g w=.ok B w:=by
   simp only[Lm,y,Sem.run_bind,asAddr,Sem.run_pure,Result.andThen_ok,F]
  simp only[Uj,Sem.run_bind,Sem.run_pure,Result.andThen_ok,r,u,cK,H]
def xL(z:ui g h)(K:Uw g G)(O:g.follows .mixedOrders=true){y:FuncId}{i:Func}{m:Code}{r:List ResultVar}{a:List SV}{R:Value->E->Prop}
 (N:g.funcs[y]? =some i)(M:i.body=some m)(P:i.ntmps=d)(S:i.results=r.toArray)(A:a.all SV.jH=true)(X:a.length<=d)(hd:qd m=true)
 (j:Sy g h G o d r m a b R):aN g y (a.map SV.v) b R:=by
 intro w U
 refine calls_of_wp N M ?_
 have L:jY d (uj 0 a) {tmps:=(a.map SV.v).toArray++Array.replicate (i.ntmps -(a.map SV.v).toArray.size) undef,defers:=[]}:=by
  refine⟨by simp[P];omega,rfl,λt=>?_⟩;rcases Hu a 0 t with⟨n,_⟩|⟨_,p⟩
  .omega
  .rw[p,Xo];rcases aW t a.length with k|s
   .have u:(a[t]).jH=true:=List.all_eq_true.1 A _ (List.getElem_mem k);have c:a.getD t .fS=a[t]:=by simp[k]
    rw[c];have f:((a.map SV.v).toArray++Array.replicate (i.ntmps -(a.map SV.v).toArray.size) undef).getD t undef=(a[t]).v:=by
     simp[Array.getElem?_append,k]
    rw[f];exact nI _
   .have c:a.getD t .fS=.fS:=by simp[cO s]
    rw[c];trivial
 have v:∀{q x e l},¬lK (uj 0 a) q x e l:=by
  intro q x e l f;rcases Hu a 0 q with⟨n,_⟩|⟨_,p⟩
  .omega
  .unfold lK at f;rw[p,Xo]at f;rcases aW q a.length with k|s
   .have u:(a[q]).jH=true:=List.all_eq_true.1 A _ (List.getElem_mem k);have c:a.getD q .fS=a[q]:=by simp[k]
    rw[c]at f;rcases f with f|f<;>rw[f]at u<;>simp[SV.jH]at u
   .have c:a.getD q .fS=.fS:=by simp[cO s]
    rw[c]at f;simp at f
 have I:Bx d (uj 0 a) b:=⟨λ_ _ _ _ j=>absurd j v,λ_ _ _ _ _ _ _ _ _ j=>absurd j v,λ_ _ _ _ j=>absurd j v⟩
 refine Code.wp_mono ?_ (Ue z K O w m hd _ b _ _ w j L I U (ph.az w))
 intro e s k c
 obtain⟨B,H,u,J,T,W,c⟩:=c.aT
 have C:∀(c:Xf h r H k.heap R),s.defers=[]/\∃D,(results i s.tmps).run g k=.ok D k/\∃F,Ending.returned D=.returned F/\ph w k/\R F k.heap:=by
  intro c;refine⟨u.defers,?_⟩;obtain⟨l,n,p⟩:=HW z u r _ k J c;have Q:(results i s.tmps).run g k=.ok (if j:(l.map SV.v).toArray.size=1 then(l.map SV.v).toArray[0]else .tuple (l.map SV.v).toArray) k:=by
   rw[QY,S,Ur];simp only[Sem.run_bind,Sem.run_map];rw[p];rfl
  refine⟨_,Q,_,rfl,T,?_⟩;cases l with
  |nil=>exact n
  |cons V l=>cases l with
   |nil=>exact n
   |cons Y l=>exact n
 cases e with
 |normal=>exact C c
 |ret=>exact C c
 |exit V=>exact c.elim
 |goto V=>exact c.elim
 |panic m=>exact absurd rfl (B.1 m)
 |outgrown=>exact absurd rfl B.2
end Go.Vc
end
section
namespace Go.Vc
abbrev vi(n:Int):Value:=.int .i64 n
abbrev vb(b:Bool):Value:=.bool b
abbrev vp(b o:Nat):Value:=.pointer (some ⟨b,o,none⟩)
def Og(f:Func):Code:=
 match f.body with
 |some c=>c
 |none=>.skip
end Go.Vc
end
section
namespace Go.Vc
variable{a p:Prop}{m c d:E}{b o k f n:Nat}{v:Value}{l:List Nat}{s:O}{P:Program}{K e:Value->E->Prop}
structure J(m c:E):Prop where
 size:m.size<=c.size
 same:∀b,b<m.size->c[b]? =m[b]?
def J.az(m:E):J m m:=⟨ad _,λ_ _=>rfl⟩
def J.trans{a b c:E}(h:J a b)(k:J b c):J a c:=
 ⟨bH h.size k.size,λi d=>(k.same i (aO d h.size)).trans (h.same i d)⟩
def J.push(m:E)(o:Obj):J m (m.push o):=
 ⟨aL,λb a=>by rw[mK,ae V]⟩
def J.aK{a:E}(h:J a m)(o:Obj):J a (m.push o):=h.trans (J.push m o)
def J.ah{a:E}(h:J a m)(d:a.size<=b)(o:Nat)(l:List Ce):J a (ah m b o l):=
 ⟨by rw[aw];exact h.size,λj c=>by rw[bd l m b o V];exact h.same j c⟩
def J.af(h:J m c)(a:af m b o=some v):af c b o=some v:=by
 rw[aJ (h.same b (lZ a))];exact a
def J.iA(h:J m c){l:List Ce}(e:fP m b o l):fP c b o l:=λi a d=>h.af (e i a d)
def cE.ext(h:J m c){e:Nat}{l:List Ce}(a:cE m b e l):cE c b e l:=by
 unfold cE at*;rw[h.same b (Array.getElem?_eq_some_iff.1 a).1];exact a
structure eS{α:Type}(m:E)(sz:Nat)(R:List Ce->α->Prop)(s:O)(l:List α):Prop where
 len:s.len=l.length
 cap:s.len<=s.cap
 gS:s.len<=9223372036854775807
 iA:∀(k:Nat)(x:α),l[k]? =some x->∃cs,R cs x/\fP m s.D (s.off+k*sz) cs
def eS.mono{α:Type}{d:Nat}{R b:List Ce->α->Prop}{l:List α}(h:eS m d R s l)(j:J m c)(g:∀a x,R a x->b a x):eS c d b s l:=
 ⟨h.len,h.cap,h.gS,λk x i=>let⟨a,e,f⟩:=h.iA k x i;⟨a,g _ _ e,j.iA f⟩⟩
def Ux(a:List Ce)(n:Int):Prop:=a=[.i n]
abbrev ap(m:E)(s:O)(l:List Int):Prop:=eS m 1 Ux s l
def ap.aF{l:List Int}(h:ap m s l){x:Int}(a:l[k]? =some x):af m s.D (s.off+k*1)=some (vi x):=by
 obtain⟨c,rfl,b⟩:=h.iA k x a;exact b 0 (.i x) rfl
def ap.ext(a:J m c){l:List Int}(h:ap m s l):ap c s l:=h.mono a λ_ _ h=>h
def dB{α:Type}{l:List α}(h:k<l.length):∃x,l[k]? =some x:=⟨l[k],by simp[h]⟩
def cG{α:Type}(l:List α)(k:Nat)(h:k<l.length:=by(omega)):∃x,l[k]? =some x:=dB h
def oh(x:a)(h:a->p:=by(omega)):p:=h x
def O6{b:Prop}(x:a)(y:b)(h:a->b->p:=by(omega)):p:=h x y
def sx(h:a=False:=by(simp))(x:a):p:=(h▸x:False).elim
def av{α:Type}{l:List α}{x:α}(h:l[k]? =some x):k<l.length:=(List.getElem?_eq_some_iff.1 h).1
def aU{α:Type}{l:List α}{x:α}(h:l[k]? =some x):l.take (k+1)=l.take k++[x]:=by
 rw[List.take_add_one,h];rfl
def bX{α:Type}{l:List α}(h:l.length<=k):l.take k=l:=nB h
def Hl(P:Program)(f:Nat)(a:List Value)(m:E)(v:Value):Prop:=aN P f a m λb c=>b=v/\J m c
def aN.post{a:List Value}(h:aN P f a m K)(b:∀v c,K v c->e v c):aN P f a m e:=h.mono b
def Hl.then{a:List Value}(h:Hl P f a m v)(d:∀c,J m c->K v c):aN P f a m K:=
 h.mono λ_ _⟨b,e⟩=>b▸d _ e
def O.Bz{t:O}:s.v=t.v<->s=t:=by
 refine⟨λh=>?_,λh=>h▸rfl⟩;cases s<;>cases t<;>simp_all [O.v]
def J.dv(h:J m c)(d:∀b∈l,b<m.size):eF l m c:=λb a=>h.same b (d b a)
def J.lt(h:J m c)(a:b<m.size):b<c.size:=aO a h.size
def J.da(h:J m c)(a:Vc.af m b o=some v):Vc.af c b o=Vc.af m b o:=by rw[h.af a,a]
def kA(h:k<n)(a:n<=9223372036854775807):cT ((k:Int)+1)=((k+1:Nat):Int):=by rw[aQ V V];rfl
def Dr(h:k<n):((n:Int) -((k+1:Nat):Int)).toNat<((n:Int) -(k:Int)).toNat:=V
def dU(g:n<=9223372036854775807){d:(Int->E->Prop)->(Int->E->Nat)->Int->E->Prop}(Q:Nat->E->Prop)(e:Q 0 m)
 (h:∀(k:Nat)(a:E)(I:Int->E->Prop)(μ:Int->E->Nat),k<=n->Q k a->
  (k<n->∀c,Q (k+1) c->I (cT ((k:Int)+1)) c/\μ (cT ((k:Int)+1)) c<μ k a)->d I μ k a):
 ∃(I:Int->E->Prop)(μ:Int->E->Nat),I 0 m/\∀i a,I i a->d I μ i a:=by
 refine⟨λi c=>∃k:Nat,i=k/\k<=n/\Q k c,λi _=>(n -i).toNat,⟨0,rfl,dL _,e⟩,?_⟩
 rintro i a ⟨k,rfl,f,j⟩
 refine h k a _ _ f j λb c l=>?_
 rw[kA b g]
 exact⟨⟨k+1,rfl,b,l⟩,Dr b⟩
def ez{σ:Type}(l:n<=9223372036854775807){f:σ}{e:(σ->Int->E->Prop)->(σ->Int->E->Nat)->σ->Int->E->Prop}(Q:Nat->σ->E->Prop)(g:Q 0 f m)
 (h:∀(k:Nat)(s:σ)(a:E)(I:σ->Int->E->Prop)(μ:σ->Int->E->Nat),k<=n->Q k s a->
  (k<n->∀b c,Q (k+1) b c->I b (cT ((k:Int)+1)) c/\μ b (cT ((k:Int)+1)) c<μ s k a)->e I μ s k a):
 ∃(I:σ->Int->E->Prop)(μ:σ->Int->E->Nat),I f 0 m/\∀s i a,I s i a->e I μ s i a:=by
 refine⟨λs i c=>∃k:Nat,i=k/\k<=n/\Q k s c,λ_ i _=>(n -i).toNat,⟨0,rfl,dL _,g⟩,?_⟩
 rintro s i a ⟨k,rfl,j,o⟩
 refine h k s a _ _ j o λd b c p=>?_
 rw[kA d l]
 exact⟨⟨k+1,rfl,d,p⟩,Dr d⟩
def dt(P:Program)(f:Nat)(a:List Value)(m:E)(p:Prop):Prop:=aN P f a m λv c=>∃b:Bool,v=.bool b/\(b=true<->p)/\J m c
def dt.then{a:List Value}(h:dt P f a m p)(g:∀(b:Bool) c,(b=true<->p)->J m c->K (.bool b) c):aN P f a m K:=
 h.mono λ_ _⟨b,e,d,i⟩=>e▸g b _ d i
def dt.aH{e:List Value}(i:dt P f e m p)(g:J d m)(q:∀b∈l,b<d.size)
 (o:∀(b:Bool) c,(b=true<->p)->J m c->J d c->K (.bool b) c):aN P f e m λv c=>eF l m c/\K v c:=
 i.mono λ_ _⟨b,n,j,a⟩=>⟨a.dv λh k=>g.lt (q h k),n▸o b _ j a (g.trans a)⟩
def Hl.aH{e:List Value}(i:Hl P f e m v)(g:J d m)(o:∀b∈l,b<d.size)
 (n:∀c,J m c->J d c->K v c):aN P f e m λv c=>eF l m c/\K v c:=
 i.mono λ_ _⟨k,a⟩=>⟨a.dv λh j=>g.lt (o h j),k▸n _ a (g.trans a)⟩
def aN.aH{a:List Value}(j:aN P f a m K)(o:J d m)(n:∀b∈l,b<d.size)
 (g:∀v c,K v c->J m c/\e v c):aN P f a m λv c=>eF l m c/\e v c:=
 j.mono λv c h=>⟨(g v c h).1.dv λi k=>o.lt (n i k),(g v c h).2⟩
def eT{b:Bool}(h:b=true<->p)(d:J m c):∃a:Bool,Value.bool b=.bool a/\(a=true<->p)/\J m c:=⟨b,rfl,h,d⟩
def bV(h:¬p)(b:J m c):∃a:Bool,Value.bool false=.bool a/\(a=true<->p)/\J m c:=⟨false,rfl,by simp[h],b⟩
def iN(h:p)(b:J m c):∃a:Bool,Value.bool true=.bool a/\(a=true<->p)/\J m c:=⟨true,rfl,by simp[h],b⟩
def nb{b:Bool}(a:b=true<->p)(h:(!b)=true):¬p:=λc=>by simp[a.2 c]at h
def yb{b:Bool}(a:b=true<->p)(h:(!b)=false):p:=a.1 (by simpa using h)
def fb{b:Bool}(a:b=true<->p)(h:b=false):¬p:=λc=>by simp[a.2 c]at h
def bB{α:Type}{l:List α}{x:α}{p:α->Prop}(c:l[k]? =some x)(h:∀y∈l.take k,p y)(b:p x):∀y∈l.take (k+1),p y:=by
 rw[aU c];intro y a;rcases List.mem_append.1 a with a|a
 .exact h y a
 .simp at a;subst a;exact b
def db{α:Type}{l:List α}{p:α->Prop}(a:l.length<=k)(h:∀y∈l.take k,p y):∀y∈l,p y:=by rw[<-bX a];exact h
def aq{α:Type}{l:List α}{x:α}(h:l[k]? =some x):x∈l:=iv h
end Go.Vc
end
section
namespace Go.Vc
variable{m:E}{s:O}{k:Nat}
structure bz where
 sS:Int
 to:Int
 cons:List (List Int)
structure Instr where
 op:Int
 dst:Int
 bP:Int
 bY:Int
 args:List Int
 eL:List Int
structure dy where
 params:List Int
 cR:List Int
 aS:Int
 ak:Int
 dq:List Instr
structure cN where
 bo:List bz
 cF:List dy
def mM(m:E)(a:List Ce)(c:List Int):Prop:=∃f,a=[.s f]/\ap m f c
def iK(m:E)(a:List Ce)(d:bz):Prop:=∃f,a=[.i d.sS,.i d.to,.s f]/\eS m 1 (mM m) f d.cons
def dS(m:E)(b:List Ce)(x:Instr):Prop:=∃a j,b=[.i x.op,.i x.dst,.i x.bP,.i x.bY,.s a,.s j]/\ap m a x.args/\ap m j x.eL
def lj(m:E)(b:List Ce)(p:dy):Prop:=
 ∃a l c,b=[.s a,.s l,.i p.aS,.i p.ak,.s c]/\ap m a p.params/\ap m l p.cR/\eS m 6 (dS m) c p.dq
abbrev oX(m:E)(s:O)(l:List (List Int)):Prop:=eS m 1 (mM m) s l
abbrev cw(m:E)(s:O)(l:List bz):Prop:=eS m 3 (iK m) s l
abbrev fe(m:E)(s:O)(l:List Instr):Prop:=eS m 6 (dS m) s l
abbrev iG(m:E)(s:O)(l:List dy):Prop:=eS m 5 (lj m) s l
structure fw(m:E)(d p:O)(im:cN):Prop where
 bo:cw m d im.bo
 cF:iG m p im.cF
def mM.ext{m b:E}(g:J m b)(a:List Ce)(c:List Int):mM m a c->mM b a c:=λ⟨f,d,e⟩=>⟨f,d,e.ext g⟩
def oX.ext{m b:E}(a:J m b){s:O}{l:List (List Int)}(h:oX m s l):oX b s l:=h.mono a (mM.ext a)
def iK.ext{m b:E}(g:J m b)(a:List Ce)(c:bz):iK m a c->iK b a c:=λ⟨f,d,e⟩=>⟨f,d,oX.ext g e⟩
def cw.ext{m b:E}(a:J m b){s:O}{l:List bz}(h:cw m s l):cw b s l:=h.mono a (iK.ext a)
def dS.ext{m d:E}(b:J m d)(a:List Ce)(c:Instr):dS m a c->dS d a c:=λ⟨e,j,f,g,h⟩=>⟨e,j,f,g.ext b,h.ext b⟩
def fe.ext{m b:E}(a:J m b){s:O}{l:List Instr}(h:fe m s l):fe b s l:=h.mono a (dS.ext a)
def lj.ext{m d:E}(a:J m d)(b:List Ce)(c:dy):lj m b c->lj d b c:=λ⟨e,l,c,f,g,h,i⟩=>⟨e,l,c,f,g.ext a,h.ext a,fe.ext a i⟩
def iG.ext{m b:E}(a:J m b){s:O}{l:List dy}(h:iG m s l):iG b s l:=h.mono a (lj.ext a)
def fw.ext{m c:E}(a:J m c){d p:O}{b:cN}(h:fw m d p b):fw c d p b:=⟨cw.ext a h.bo,iG.ext a h.cF⟩
def oX.aF{l:List (List Int)}(h:oX m s l){x:List Int}(b:l[k]? =some x):
 ∃f,ap m f x/\af m s.D (s.off+k*1)=some (O.v f):=by
 obtain⟨d,⟨f,rfl,a⟩,c⟩:=h.iA k x b
 exact⟨f,a,c 0 (.s f) rfl⟩
def cw.aF{l:List bz}(h:cw m s l){x:bz}(c:l[k]? =some x):
 ∃f,oX m f x.cons/\af m s.D (s.off+k*3)=some (vi x.sS)/\af m s.D (s.off+k*3+1)=some (vi x.to)/\af m s.D (s.off+k*3+2)=some (O.v f):=by
 obtain⟨d,⟨f,rfl,b⟩,a⟩:=h.iA k x c
 exact⟨f,b,a 0 (.i x.sS) rfl,a 1 (.i x.to) rfl,a 2 (.s f) rfl⟩
def fe.aF{l:List Instr}(h:fe m s l){x:Instr}(e:l[k]? =some x):
 ∃b j,ap m b x.args/\ap m j x.eL/\af m s.D (s.off+k*6)=some (vi x.op)/\af m s.D (s.off+k*6+1)=some (vi x.dst)/\af m s.D (s.off+k*6+2)=some (vi x.bP)/\
  af m s.D (s.off+k*6+3)=some (vi x.bY)/\af m s.D (s.off+k*6+4)=some (O.v b)/\af m s.D (s.off+k*6+5)=some (O.v j):=by
 obtain⟨f,⟨b,j,rfl,c,d⟩,a⟩:=h.iA k x e
 exact⟨b,j,c,d,a 0 (.i x.op) rfl,a 1 (.i x.dst) rfl,a 2 (.i x.bP) rfl,a 3 (.i x.bY) rfl,a 4 (.s b) rfl,a 5 (.s j) rfl⟩
def iG.aF{l:List dy}(h:iG m s l){x:dy}(i:l[k]? =some x):
 ∃a b c,ap m a x.params/\ap m b x.cR/\fe m c x.dq/\af m s.D (s.off+k*5)=some (O.v a)/\af m s.D (s.off+k*5+1)=some (O.v b)/\af m s.D (s.off+k*5+2)=some (vi x.aS)/\
  af m s.D (s.off+k*5+3)=some (vi x.ak)/\af m s.D (s.off+k*5+4)=some (O.v c):=by
 obtain⟨j,⟨a,b,c,rfl,e,f,g⟩,d⟩:=h.iA k x i
 exact⟨a,b,c,e,f,g,d 0 (.s a) rfl,d 1 (.s b) rfl,d 2 (.i x.aS) rfl,d 3 (.i x.ak) rfl,d 4 (.s c) rfl⟩
end Go.Vc
end
section
namespace Go.Vc
variable{g a:E}{f:Nat}{s:O}{l:List Ce}{d:List (List Ce)}
structure gV(g a:E)(f sz:Nat)(s:O)(l:List Ce):Prop where
 len:l.length=s.len*sz
 aF:s=.nil\/∃b c tail,s=.mk b 0 s.len c/\g.size<=b/\cE a b f (l++tail)/\(l++tail).length=c*sz/\s.len<=c
def gV.nil(g a:E)(f b:Nat):gV g a f b .nil []:=⟨aL,Or.inl rfl⟩
def gV.new(h:J g a)(f c:Nat)(l:List Ce)(k:Nat)(b:l.length=k*c):gV g (a.push (.cells (bt l) f)) f c (.mk a.size 0 k k) l:=
 ⟨b,Or.inr ⟨a.size,k,[],rfl,h.size,by rw[dX];exact cE.push _ _ _,by simpa using b,ad _⟩⟩
def gV.congr{g a d:E}{f e:Nat}{s:O}{l:List Ce}(h:gV g a f e s l)(c:d[s.D]? =a[s.D]?):gV g d f e s l:=by
 refine⟨h.len,?_⟩;rcases h.aF with b|⟨i,j,tail,b,h2,h3,h4,h5⟩
 .exact Or.inl b
 .refine Or.inr ⟨i,j,tail,b,h2,h3.congr ?_,h4,h5⟩;rw[b]at c;exact c
def gV.lt{g a:E}{f c:Nat}{s:O}{l:List Ce}(h:gV g a f c s l):s=.nil\/s.D<a.size:=by
 rcases h.aF with b|⟨d,e,tail,b,h2,h3,h4,h5⟩
 .exact Or.inl b
 .rw[b];exact Or.inr h3.lt
def gV.ext{c:E}{d:Nat}(h:gV g a f d s l)(e:J a c):gV g c f d s l:=by
 rcases h.lt with b|b
 .subst b;exact⟨h.len,Or.inl rfl⟩
 .exact h.congr (e.same _ b)
def gV.cx{c:E}{d:Nat}(h:gV c a f d s l)(j:g.size<=c.size):gV g a f d s l:=by
 refine⟨h.len,?_⟩;rcases h.aF with b|⟨e,i,tail,b,h2,h3,h4,h5⟩
 .exact Or.inl b
 .exact Or.inr ⟨e,i,tail,b,bH j h2,h3,h4,h5⟩
def gV.D{c:Nat}(h:gV g a f c s l):s=.nil\/g.size<=s.D:=by
 rcases h.aF with b|⟨d,e,tail,b,h2,h3,h4,h5⟩
 .exact Or.inl b
 .rw[b];exact Or.inr h2
def fP.MI{b o:Nat}{r:List Ce}(h:fP a b o (l++r)):fP a b o l:=λi d c=>h i d (by rw[ax (av c)];exact c)
def gV.iA{g a:E}{f e:Nat}{s:O}{l:List Ce}(h:gV g a f e s l):fP a s.D s.off l:=by
 rcases h.aF with b|⟨i,c,tail,b,h2,h3,h4,h5⟩
 .have:l=[]:=List.length_eq_zero_iff.1 (by rw[h.len,b];simp);subst this;intro j c d;simp at d
 .rw[b];exact h3.iA.MI
def BU(l a tail:List Ce)(h:a.length<=tail.length):iZ (l++tail) l.length a=l++a++tail.drop a.length:=by
 apply gU;intro i;rw[vV];simp only[be];by_cases b:l.length<=i/\i<l.length+a.length/\i<l.length+tail.length
 .rw[an b,fC,aI b.1,ax V]
 .rw[ae b];by_cases c:i<l.length
  .rw[ax c,fC,ax c]
  .rw[aI V,fC,aI V,aI V,rW];congr 1;omega
def gV.append{zs:List Ce}{v:Nat}{x:O}{d:List Ce}{K:O->E->Prop}(j:gV g a f zs.length s l)(p:J g a)
 (q:d.length=x.len*zs.length)(F:fP a x.D x.off d)(t:(s.len+x.len)*v<=140737488355328)
 (u:∀k n,gV g n f zs.length k (l++d)->J g n->k.len=s.len+x.len->a.size<=n.size->(∀c,c<a.size->(s≠.nil->c≠s.D)->n[c]? =a[c]?)->((s=.nil/\k=.nil)\/(s≠.nil/\k.D=s.D/\k≠.nil)\/k.D=a.size)->K k n):
 jK a f zs v s x K:=by
 refine⟨d,q,F,λC=>?_,λI=>⟨t,l,j.len,j.iA,λi y=>?_⟩⟩
 .rcases j.aF with h|⟨c,i,tail,h,h2,h3,h4,h5⟩
  .subst h
   have w:x.len=0:=by simpa using C
   have A:d=[]:=List.length_eq_zero_iff.1 (by rw[q,w];simp)
   subst A
   refine⟨λB z=>by simp at z,?_⟩
   exact u .nil _ ⟨by rw[dX];exact j.len,Or.inl rfl⟩ (by simpa[ah]using p) (by simp[w]) (tU (aw _ _ _ _).symm) (λc t _=>by simp[ah]) (Or.inl ⟨rfl,rfl⟩)
  .have z:=j.len
   have H:s.cap=i:=by rw[h];rfl
   rw[h]
   simp only[O.jA,O.mT,O.gE,bT]
   simp only[be]at h4
   have B:d.length<=tail.length:=by
    have A:(s.len+x.len)*zs.length<=i*zs.length:=dh _ V;rw[gL]at A;omega
   refine⟨h3.fJ (by simp only[be];omega),?_⟩
   have w:=cE.ah (m:=a) (b:=c) (e:=f) (r:=d) (o:=s.len*zs.length) h3
   rw[<-z,BU l d tail B]at w
   refine u _ _ ⟨?_,Or.inr ⟨c,i,tail.drop d.length,rfl,h2,?_,?_,?_⟩⟩ (p.ah h2 _ _) aL (tU (aw _ _ _ _).symm) (λG _ D=>bd _ _ _ _ ?_) (Or.inr (Or.inl ⟨by rw[h];simp,by rw[h];rfl,aL⟩))
   .simp only[be,O.gE,gL];omega
   .rw[<-z];exact w
   .simp only[be,List.length_drop];omega
   .simp only[O.gE];omega
   .have:=D (by rw[h];simp)
    rw[h]at this;exact this
 .refine u _ _ ⟨?_,Or.inr ⟨a.size,i,mF zs (i -(s.len+x.len)),rfl,p.size,cE.push _ _ _,?_,by simpa using y⟩⟩ (p.aK _) aL aL (λc t _=>by rw[mK,ae V]) (Or.inr (Or.inr rfl))
  .simp only[be,O.gE,gL,j.len,q]
  .simp only[be,rD,j.len,q]
   rw[Nat.sub_mul,<-gL]
   have:(s.len+x.len)*zs.length<=i*zs.length:=dh _ y
   omega
def ap.fZ{l:List Int}(h:gV g a f 1 s (l.map Ce.i))(n:l.length<=9223372036854775807):ap a s l:=by
 have i:s.len=l.length:=by have:=h.len;simp at this;omega
 refine⟨i,?_,V,λk x e=>⟨[.i x],rfl,λj d c=>?_⟩⟩
 .rcases h.aF with b|⟨m,d,tail,b,h2,h3,h4,h5⟩
  .rw[b];exact ad _
  .rw[b];exact h5
 .have b:j=0:=by have:=av c;simp at this;omega
  subst b;simp at c;subst c;have:=h.iA k (.i x) (by simp[e]);simpa using this
def fV{g:Nat}:∀{d:List (List Ce)}(_:∀a∈d,a.length=g){b:Nat}{a:List Ce}(_:d[b]? =some a){i:Nat}{c:Ce}(_:a[i]? =some c),d.flatten[b*g+i]? =some c
 |[],_,b,a,h,_,_,_=>by simp at h
 |x::d,f,0,a,h,i,c,e=>by
  simp at h;subst h;rw[jC,Ql,bT,ax (av e)];exact e
 |x::d,f,b+1,a,h,i,c,e=>by
  have k:x.length=g:=f x bg;rw[jC,aI (by rw[k,gL];omega)];have:=fV (d:=d) (λy l=>f y (ai _ l)) (b:=b) (by simpa using h) e;rw[<-this];congr 1;rw[k,gL];omega
def cv{b:Nat}:∀{d:List (List Ce)},(∀a∈d,a.length=b)->d.flatten.length=d.length*b
 |[],_=>aL
 |x::d,a=>by
  rw[jC,be,cv (λy c=>a y (ai _ c)),a x bg,aZ,gL];omega
structure gP{α:Type}(sz:Nat)(R:List Ce->α->Prop)(d:List (List Ce))(l:List α):Prop where
 len:d.length=l.length
 size:∀cs∈d,cs.length=sz
 dz:∀(j:Nat)(cs:List Ce)(x:α),d[j]? =some cs->l[j]? =some x->R cs x
def gP.nil{α:Type}(a:Nat)(R:List Ce->α->Prop):gP a R [] []:=⟨rfl,aL,aL⟩
def gP.yD{α:Type}{f:Nat}{R:List Ce->α->Prop}{l:List α}(h:gP f R d l){cs:List Ce}{x:α}(i:cs.length=f)(k:R cs x):gP f R (d++[cs]) (l++[x]):=by
 refine⟨by simp[h.len],λe a=>?_,λj e y a b=>?_⟩
 .rcases List.mem_append.1 a with a|a
  .exact h.size e a
  .simp at a;subst a;exact i
 .rcases aW j d.length with c|c
  .rw[ax c]at a;rw[ax (h.len▸c)]at b;exact h.dz j e y a b
  .rw[aI c]at a;rw[aI (by rw[<-h.len];exact c),<-h.len]at b;have g:j -d.length=0:=by have:=av a;simp at this;omega
   rw[g]at a b;simp at a b;subst a;subst b;exact k
def gP.mono{α:Type}{c:Nat}{R b:List Ce->α->Prop}{l:List α}(h:gP c R d l)(g:∀a x,R a x->b a x):gP c b d l:=
 ⟨h.len,h.size,λj a x e f=>g _ _ (h.dz j a x e f)⟩
def eS.fZ{α:Type}{e:Nat}{R:List Ce->α->Prop}{l:List α}(h:gV g a f e s d.flatten)(c:gP e R d l)(q:0<e)(t:l.length<=9223372036854775807):eS a e R s l:=by
 have p:s.len=l.length:=by
  have b:=h.len;rw[cv c.size]at b;have:=Uk q b;rw[<-this,c.len]
 refine⟨p,?_,V,λk x n=>?_⟩
 .rcases h.aF with b|⟨j,i,tail,b,h2,h3,h4,h5⟩
  .rw[b];exact ad _
  .rw[b];exact h5
 .let⟨j,m⟩:=cG d k (by rw[c.len];exact av n);refine⟨j,c.dz k j x m n,λr i o=>?_⟩;have:=h.iA (k*e+r) i (fV c.size m o);rwa[<-dj]at this
end Go.Vc
end
section
namespace Go.Vc
variable{S c:List Nat}{m a d:E}{b o e:Nat}{l:List Ce}{s:O}
def bG(S:List Nat)(m:E):E:=m.mapIdx λb o=>if b∈S then .cells #[] 0 else o
def Le(M a:E):Prop:=∀b o v,af M b o=some v->af a b o=some v
def eP{v:Value}:af (bG S m) b o=some v<->b∉S/\af m b o=some v:=by
 unfold af bG;rw[Xz];cases h:m[b]? with
 |none=>simp
 |some x=>by_cases a:b∈S<;>simp[a]
def Le.az(m:E):Le m m:=λ_ _ _ h=>h
def Le.trans{a b c:E}(h:Le a b)(k:Le b c):Le a c:=λx o v d=>k x o v (h x o v d)
def J.le(h:J m a):Le m a:=λ_ _ _ b=>h.af b
def bA(S:List Nat)(m:E):Le (bG S m) m:=λ_ _ _ h=>(eP.1 h).2
def pA(h:∀b,b<m.size->b∉S->b∉c/\a[b]? =m[b]?):Le (bG S m) (bG c a):=λb o v i=>by
 let⟨e,d⟩:=eP.1 i;let⟨f,g⟩:=h b (lZ d) e;exact eP.2 ⟨f,by rw[aJ g];exact d⟩
def J.bG(h:J m a)(d:∀b∈c,b∈S\/m.size<=b):Le (bG S m) (bG c a):=
 pA λb e g=>⟨λf=>(d b f).elim g λh=>V,h.same b e⟩
def J.df(h:J m a)(S:List Nat):Le (Vc.bG S m) (Vc.bG S a):=h.bG λ_ b=>Or.inl b
def iR(m:E)(a:∀b∈c,b∈S):Le (bG S m) (bG c m):=(J.az m).bG λb d=>Or.inl (a b d)
def Le.iA{M a:E}(h:Le M a)(e:fP M b o l):fP a b o l:=λi c d=>h _ _ _ (e i c d)
def eS.le{α:Type}{d:Nat}{R c:List Ce->α->Prop}{l:List α}(h:eS m d R s l)(j:Le m a)(g:∀b x,R b x->c b x):eS a d c s l:=
 ⟨h.len,h.cap,h.gS,λk x i=>let⟨b,e,f⟩:=h.iA k x i;⟨b,g _ _ e,j.iA f⟩⟩
def ap.le{m a:E}(b:Le m a){s:O}{l:List Int}(h:ap m s l):ap a s l:=eS.le h b λ_ _ h=>h
def mM.le{m a:E}(g:Le m a)(b:List Ce)(c:List Int):mM m b c->mM a b c:=λ⟨f,d,e⟩=>⟨f,d,e.le g⟩
def iK.le{m a:E}(d:Le m a)(b:List Ce)(c:bz):iK m b c->iK a b c:=λ⟨f,e,g⟩=>⟨f,e,eS.le g d (mM.le d)⟩
def cw.le{m a:E}(b:Le m a){s:O}{l:List bz}(h:cw m s l):cw a s l:=eS.le h b (iK.le b)
def Kd(a:b∉S)(h:fP m b o l):fP (bG S m) b o l:=λi c d=>eP.2 ⟨a,h i c d⟩
def eS.QT{α:Type}{a:Nat}{R:List Ce->α->Prop}{c:List (List Ce)}{l:List α}(o:∀b∈S,b<d.size)(h:gV d m e a s c.flatten)(q:gP a R c l)(r:0<a)(p:l.length<=9223372036854775807):eS (bG S m) a R s l:=by
 have H:=eS.fZ h q r p;refine⟨H.len,H.cap,H.gS,λt x i=>?_⟩;let⟨j,k,n⟩:=H.iA t x i;rcases h.D with f|f
 .have g:=H.len;have:=av i;rw[f]at g;simp at g;omega
 .exact⟨j,k,Kd (λg=>oh (o _ g)) n⟩
def ap.QT{l:List Int}(k:∀b∈S,b<d.size)(h:gV d m e 1 s (l.map Ce.i))(n:l.length<=9223372036854775807):ap (bG S m) s l:=by
 have H:=ap.fZ h n;refine⟨H.len,H.cap,H.gS,λo x f=>?_⟩;let⟨g,i,j⟩:=H.iA o x f;rcases h.D with a|a
 .have c:=H.len;have:=av f;rw[a]at c;simp at c;omega
 .exact⟨g,i,Kd (λc=>oh (k _ c)) j⟩
end Go.Vc
end
section
namespace Go.Vc
variable{X Y S:List Nat}{a b c m d:E}{f:List Ce}{s:O}{k:Nat}
structure Fz(X:List Nat)(m d:E):Prop where
 size:m.size<=d.size
 same:∀b,b<m.size->b∉X->d[b]? =m[b]?
def Fz.az(X:List Nat)(m:E):Fz X m m:=⟨ad _,λ_ _ _=>rfl⟩
def Fz.rV(h:Fz X a b)(k:Fz Y b c)(g:∀y∈Y,y∈X\/a.size<=y):Fz X a c:=
 ⟨bH h.size k.size,λi d e=>(k.same i (aO d h.size) λf=>(g i f).elim e λh=>V).trans (h.same i d e)⟩
def Fz.trans(h:Fz X a b)(k:Fz X b c):Fz X a c:=h.rV k λ_ d=>Or.inl d
def J.fz(h:J m d)(X:List Nat):Fz X m d:=⟨h.size,λb a _=>h.same b a⟩
def Fz.then(h:Fz X a b)(k:J b c):Fz X a c:=h.trans (k.fz X)
def Fz.push{X:List Nat}{a m:E}(h:Fz X a m)(o:Obj):Fz X a (m.push o):=h.then (J.push m o)
def Fz.ext(h:Fz [] m d):J m d:=⟨h.size,λb a=>h.same b a aL⟩
def Fz.DB(h:Fz X m d)(f:∀b∈X,b∈Y\/m.size<=b):Fz Y m d:=⟨h.size,λb a e=>h.same b a λc=>(f b c).elim e λh=>V⟩
def Fz.ah(h:Fz X a m){b:Nat}(c:b∈X\/a.size<=b)(o:Nat)(l:List Ce):Fz X a (ah m b o l):=
 ⟨by rw[aw];exact h.size,λj f d=>by
  have e:j≠b:=λe=>by subst e;exact c.elim d λc=>V
  rw[bd l m b o e];exact h.same j f d⟩
def Fz.bG(h:Fz X m d){a:List Nat}(f:∀b∈X,b∈S)(e:∀b∈a,b∈S\/m.size<=b):Le (bG S m) (bG a d):=
 pA λb g c=>⟨λi=>(e b i).elim c λh=>V,h.same b g λj=>c (f b j)⟩
def Fz.df(h:Fz X m d)(a:∀b∈X,b∈S):Le (Vc.bG S m) (Vc.bG S d):=h.bG a λ_ h=>Or.inl h
def Fz.dv(h:Fz X m d){l:List Nat}(c:∀b∈l,b<m.size/\b∉X):eF l m d:=λb a=>h.same b (c b a).1 (c b a).2
inductive Ex where
 |mk (op bP:Int) (bC:List Ex)
def Ex.op:Ex->Int| .mk o _ _=>o
def Ex.bP:Ex->Int| .mk _ n _=>n
def Ex.bC:Ex->List Ex| .mk _ _ k=>k
structure Mo(β:Type)where
 op:Int
 bP:Int
 bY:Int
 args:List Int
 bC:List β
inductive Bk where
 |mk (aD:List (Mo Bk)) (aS:Int)
abbrev cV:=Mo Bk
def Bk.aD:Bk->List cV| .mk s _=>s
def Bk.aS:Bk->Int| .mk _ r=>r
@[simp] theorem Ex.VQ (o n:Int) (k:List Ex):(Ex.mk o n k).op=o:=rfl
@[simp] theorem Ex.TS (o n:Int) (k:List Ex):(Ex.mk o n k).bP=n:=rfl
@[simp] theorem Ex.RD (o n:Int) (k:List Ex):(Ex.mk o n k).bC=k:=rfl
@[simp] theorem Bk.jS (s:List cV) (r:Int):(Bk.mk s r).aD=s:=rfl
@[simp] theorem Bk.ju (s:List cV) (r:Int):(Bk.mk s r).aS=r:=rfl
inductive BE(m:E):List Ce->Ex->Prop
 |mk (op bP:Int) (bC:List Ex) (s:O) (css:Nat->List Ce) (hl:s.len=bC.length) (hc:s.len<=s.cap) (hm:s.len<=9223372036854775807)
  (hr:∀(k:Nat)(x:Ex),bC[k]? =some x->fP m s.D (s.off+k*3) (css k)) (hk:∀(k:Nat)(x:Ex),bC[k]? =some x->BE m (css k) x):BE m [.i op,.i bP,.s s] (.mk op bP bC)
inductive rH(m:E):List Ce->Bk->Prop
 |mk (aD:List (Mo Bk)) (r:Int) (s:O) (hl:s.len=aD.length) (hc:s.len<=s.cap) (hm:s.len<=9223372036854775807) (aa ks:Nat->O) (kcs:Nat->Nat->List Ce)
  (hr:∀(k:Nat)(x:Mo Bk),aD[k]? =some x->fP m s.D (s.off+k*5) [.i x.op,.i x.bP,.i x.bY,.s (aa k),.s (ks k)]/\ap m (aa k) x.args/\(ks k).len=x.bC.length/\(ks k).len<=(ks k).cap/\(ks k).len<=9223372036854775807)
  (hb:∀(k:Nat)(x:Mo Bk)(j:Nat)(b:Bk),aD[k]? =some x->x.bC[j]? =some b->fP m (ks k).D ((ks k).off+j*2) (kcs k j))
  (hk:∀(k:Nat)(x:Mo Bk)(j:Nat)(b:Bk),aD[k]? =some x->x.bC[j]? =some b->rH m (kcs k j) b):rH m [.s s,.i r] (.mk aD r)
def gD(m:E)(f:List Ce)(x:cV):Prop:=∃a k,f=[.i x.op,.i x.bP,.i x.bY,.s a,.s k]/\ap m a x.args/\eS m 2 (rH m) k x.bC
abbrev fF(m:E)(s:O)(l:List Ex):Prop:=eS m 3 (BE m) s l
abbrev eO(m:E)(s:O)(l:List cV):Prop:=eS m 5 (gD m) s l
abbrev nD(m:E)(s:O)(l:List Bk):Prop:=eS m 2 (rH m) s l
def BE.le(h:Le m d){e:Ex}(a:BE m f e):BE d f e:=by
 induction a with
 |mk n bP bC s b g c i a o l=>exact .mk n bP bC s b g c i (λk x j=>h.iA (a k x j)) l
def rH.le{m d:E}(h:Le m d){f:List Ce}{b:Bk}(a:rH m f b):rH d f b:=by
 induction a with
 |mk aD t s o n p e ks r a l u q=>
  exact .mk aD t s o n p e ks r (λk x c=>let⟨g,i,j⟩:=a k x c;⟨h.iA g,i.le h,j⟩) (λk x j b c g=>h.iA (l k x j b c g)) q
def eS.choose{α:Type}{m:E}{a:Nat}{R:List Ce->α->Prop}{s:O}{l:List α}(h:eS m a R s l):
 ∃b:Nat->List Ce,∀(k:Nat)(x:α),l[k]? =some x->R (b k) x/\fP m s.D (s.off+k*a) (b k):=by
 have:∀k:Nat,∃f:List Ce,∀x:α,l[k]? =some x->R f x/\fP m s.D (s.off+k*a) f:=λk=>by
  cases e:l[k]? with
  |none=>exact⟨[],λx c=>by simp at c⟩
  |some x=>obtain⟨f,d⟩:=h.iA k x e;exact⟨f,λy c=>by simp at c;exact c▸d⟩
 exact⟨λk=>Classical.choose (this k),λk=>fK (this k)⟩
def BE.aT{e:Ex}(h:BE m f e):∃s,f=[.i e.op,.i e.bP,.s s]/\fF m s e.bC:=by
 cases h with
 |mk l bP bC s b g c i j d=>exact⟨s,rfl,g,c,i,λk x a=>⟨b k,d k x a,j k x a⟩⟩
def BE.of{b bP:Int}{bC:List Ex}(h:fF m s bC):BE m [.i b,.i bP,.s s] (.mk b bP bC):=by
 let⟨d,c⟩:=h.choose;exact .mk b bP bC s d h.len h.cap h.gS (λk x a=>(c k x a).2) λk x a=>(c k x a).1
def rH.aT{b:Bk}(h:rH m f b):∃s,f=[.s s,.i b.aS]/\eO m s b.aD:=by
 cases h with
 |mk aD w s r p t d ks v u o q=>
  exact⟨s,rfl,r,p,t,λk x a=>let⟨e,g,i,l,n⟩:=u k x a;⟨_,⟨d k,ks k,rfl,g,i,l,n,λj b c=>⟨v k j,q k x j b a c,o k x j b a c⟩⟩,e⟩⟩
def rH.of{r:Int}{aD:List cV}(h:eO m s aD):rH m [.s s,.i r] (.mk aD r):=by
 let⟨n,l⟩:=h.choose;have:∀k:Nat,∃(a c:O)(kc:Nat->List Ce),∀x:cV,aD[k]? =some x->n k=[.i x.op,.i x.bP,.i x.bY,.s a,.s c]/\ap m a x.args/\(c.len=x.bC.length/\c.len<=c.cap/\c.len<=9223372036854775807)/\
  ∀(j:Nat)(b:Bk),x.bC[j]? =some b->rH m (kc j) b/\fP m c.D (c.off+j*2) (kc j):=λk=>by
  cases o:aD[k]? with
  |none=>exact⟨.nil,.nil,λ_=>[],λx d=>by simp at d⟩
  |some x=>
   obtain⟨⟨a,c,f,g,e⟩,_⟩:=l k x o
   let⟨kc,p⟩:=e.choose
   exact⟨a,c,kc,λy i=>by simp at i;subst i;exact⟨f,g,⟨e.len,e.cap,e.gS⟩,p⟩⟩
 have H:=λk=>fK (fK (fK (this k)));refine .mk aD r s h.len h.cap h.gS (λk=>Classical.choose (this k)) (λk=>Classical.choose (fK (this k))) (λk=>Classical.choose (fK (fK (this k)))) (λk x d=>?_) (λk x j b d i=>((H k x d).2.2.2 j b i).2) λk x j b d i=>((H k x d).2.2.2 j b i).1;obtain⟨f,g,e,_⟩:=H k x d;exact⟨by rw[<-f];exact(l k x d).2,g,e⟩
def gD.le{m d:E}(h:Le m d){f:List Ce}{x:cV}:gD m f x->gD d f x:=λ⟨a,k,b,c,e⟩=>⟨a,k,b,c.le h,eS.le e h λ_ _=>rH.le h⟩
def fF.le{m d:E}(a:Le m d){s:O}{l:List Ex}(h:fF m s l):fF d s l:=eS.le h a λ_ _=>BE.le a
def eO.le{m d:E}(a:Le m d){s:O}{l:List cV}(h:eO m s l):eO d s l:=eS.le h a λ_ _=>gD.le a
def nD.le{m d:E}(a:Le m d){s:O}{l:List Bk}(h:nD m s l):nD d s l:=eS.le h a λ_ _=>rH.le a
def fF.aF{l:List Ex}(h:fF m s l){x:Ex}(b:l[k]? =some x):
 ∃t,fF m t x.bC/\af m s.D (s.off+k*3)=some (vi x.op)/\af m s.D (s.off+k*3+1)=some (vi x.bP)/\af m s.D (s.off+k*3+2)=some (O.v t):=by
 let⟨f,d,a⟩:=h.iA k x b
 obtain⟨t,rfl,c⟩:=d.aT
 exact⟨t,c,a 0 _ rfl,a 1 _ rfl,a 2 _ rfl⟩
def eO.aF{l:List cV}(h:eO m s l){x:cV}(e:l[k]? =some x):
 ∃a t,ap m a x.args/\nD m t x.bC/\af m s.D (s.off+k*5)=some (vi x.op)/\af m s.D (s.off+k*5+1)=some (vi x.bP)/\af m s.D (s.off+k*5+2)=some (vi x.bY)/\af m s.D (s.off+k*5+3)=some (O.v a)/\af m s.D (s.off+k*5+4)=some (O.v t):=by
 obtain⟨f,⟨a,t,rfl,c,d⟩,b⟩:=h.iA k x e
 exact⟨a,t,c,d,b 0 _ rfl,b 1 _ rfl,b 2 _ rfl,b 3 _ rfl,b 4 _ rfl⟩
def nD.aF{l:List Bk}(h:nD m s l){x:Bk}(b:l[k]? =some x):
 ∃t,eO m t x.aD/\af m s.D (s.off+k*2)=some (O.v t)/\af m s.D (s.off+k*2+1)=some (vi x.aS):=by
 let⟨f,d,a⟩:=h.iA k x b
 obtain⟨t,rfl,c⟩:=d.aT
 exact⟨t,c,a 0 _ rfl,a 1 _ rfl⟩
def Bk.w:Bk->Nat
 | .mk aD _=>1+(aD.map λs=>1+s.args.length+(s.bC.map Bk.w).sum).sum
decreasing_by
 rename_i s a _ _
 have b:=oH a
 have c:=oH (by assumption:_∈s.bC)
 have d:SizeOf.sizeOf s.bC<SizeOf.sizeOf s:=by cases s;simp;omega
 simp;omega
def Mo.w(s:Mo Bk):Nat:=1+s.args.length+(s.bC.map Bk.w).sum
def Bk.Zb(b:Bk):b.w=1+(b.aD.map Mo.w).sum:=by
 cases b;rw[Bk.w];rfl
def Ex.n:Ex->Nat
 | .mk _ _ bC=>1+(bC.map Ex.n).sum
end Go.Vc
end
section
namespace Go.Vc
variable{S Y S' X:List Nat}{d a c:E}{b k n h tb:Nat}{s x:O}{g cs i:List Ce}{f:List (List Ce)}{K:O->E->Prop}
structure om{α:Type}(sz:Nat)(R:E->List Ce->α->Prop):Prop where
 le:∀{M M':E}{cs:List Ce}{x:α},Le M M'->R M cs x->R M' cs x
 len:∀{M:E}{cs:List Ce}{x:α},R M cs x->cs.length=sz
def tV(_:E)(cs:List Ce)(n:Int):Prop:=Ux cs n
def tV.mono:om 1 tV:=⟨λ_ h=>h,λh=>by rw[h];rfl⟩
def BE.mono:om 3 BE:=⟨λh=>BE.le h,λh=>by obtain⟨s,rfl,_⟩:=h.aT;rfl⟩
def rH.mono:om 2 rH:=⟨λh=>rH.le h,λh=>by obtain⟨s,rfl,_⟩:=h.aT;rfl⟩
def gD.mono:om 5 gD:=⟨λh=>gD.le h,λh=>by obtain⟨_,_,rfl,_⟩:=h;rfl⟩
structure Gr{α:Type}(S:List Nat)(d a:E)(b sz:Nat)(R:E->List Ce->α->Prop)(s:O)(l:List α):Prop where
 iV:s≠.nil
 aR:∃f,gV d a b sz s f.flatten/\gP sz (R (bG (s.D::S) a)) f l
def Gr.len{α:Type}{S:List Nat}{d a:E}{b e:Nat}{R:E->List Ce->α->Prop}{s:O}{l:List α}(h:Gr S d a b e R s l)(i:0<e):s.len=l.length:=by
 obtain⟨_,f,g,c⟩:=h;have:=g.len;rw[cv c.size]at this;rw[<-c.len,Uk i this]
def Gr.bn{α:Type}{g:Nat}{R:E->List Ce->α->Prop}{l:List α}(h:Gr S d a b g R s l):d.size<=s.D/\s.D<a.size:=by
 let⟨c,f,e,i⟩:=h;exact⟨e.D.resolve_left c,e.lt.resolve_left c⟩
def Gr.new{α:Type}(S:List Nat){d a:E}(h:d.size<=a.size)(b c:Nat)(R:E->List Ce->α->Prop):Gr S d (a.push (.cells (bt []) b)) b c R (.mk a.size 0 0 0) []:=
 ⟨aL,[],(gV.new (J.az a) b c [] 0 aL).cx h,gP.nil _ _⟩
def Gr.eA{α:Type}{g:Nat}{R:E->List Ce->α->Prop}{l:List α}(o:om g R)(h:Gr S d a b g R s l)(j:Fz Y a c)(i:∀e∈Y,e∈S/\e<d.size):Gr S d c b g R s l:=by
 have q:=h.bn;let⟨k,f,m,n⟩:=h;refine⟨k,f,m.congr (j.same _ q.2 λp=>oh ((i _ p).2)),n.mono λcs x=>o.le ?_⟩;exact j.df λe p=>ai _ (i e p).1
def Gr.Nu{α:Type}{g:Nat}{R:E->List Ce->α->Prop}{l:List α}(n:om g R)(h:Gr S d a b g R s l)(i:Fz Y a c)(o:∀e∈Y,e∈S)(q:s.D∉Y):Gr S d c b g R s l:=by
 have r:=h.bn;let⟨j,f,k,m⟩:=h;exact⟨j,f,k.congr (i.same _ r.2 q),m.mono λcs x=>n.le (i.df λe p=>ai _ (o e p))⟩
def Gr.re{α:Type}{h:Nat}{R:E->List Ce->α->Prop}{l:List α}(o:om h R)(i:Gr S d a b h R s l)(j:Fz Y a c)(q:∀e∈Y,e∈S)(r:s.D∉Y)(p:∀e∈S',e∈S\/a.size<=e):Gr S' d c b h R s l:=by
 have t:=i.bn;let⟨k,f,m,n⟩:=i;refine⟨k,f,m.congr (j.same _ t.2 r),n.mono λcs x=>o.le (j.bG (λe g=>ai _ (q e g)) λe g=>?_)⟩;rcases List.mem_cons.1 g with g|g
 .exact Or.inl (by rw[g];exact bg)
 .exact(p e g).imp (ai _) id
def Gr.ext{α:Type}{e:Nat}{R:E->List Ce->α->Prop}{l:List α}(f:om e R)(h:Gr S d a b e R s l)(g:J a c):Gr S d c b e R s l:=
 h.eA f (g.fz []) aL
def Gr.done{α:Type}{c:Nat}{R:E->List Ce->α->Prop}{l:List α}(j:om c R)(h:Gr S d a b c R s l)(k:∀e∈S,e<d.size)(o:0<c)(n:l.length<=9223372036854775807):eS (bG S a) c (R (bG S a)) s l:=by
 obtain⟨_,f,g,i⟩:=h;exact eS.QT k g (i.mono λcs x=>j.le (iR a λe m=>ai _ m)) o n
def J.MI(h:k<=a.size):J (a.extract 0 k) a:=by
 refine⟨bE,λb c=>?_⟩;have d:b<k:=by simp at c;omega
 rw[Array.getElem?_extract];simp;omega
def me(h:k<=a.size):(a.extract 0 k).size=k:=bE
def Gr.next{α:Type}{F:Nat}{R:E->List Ce->α->Prop}{C D:List α}(G:om g.length R)(W:0<g.length)
 (y:Gr S d a b g.length R s C)(H:Fz X d a)(u:x.len=f.length)(T:fP a x.D x.off f.flatten)(n:gP g.length (R (bG (s.D::S) a)) f D)(i:(C.length+D.length)*F<=140737488355328)
 (P:∀r c,Gr S d c b g.length R r (C++D)->Fz X d c->(a.size<=c.size/\(r.D=s.D\/a.size<=r.D))->(∀e,e<a.size->e≠s.D->c[e]? =a[e]?)->K r c):jK a b g F s x K:=by
 have Q:=y.len W
 have hy:=y.bn
 let⟨z,w,O,j⟩:=y
 have q:d.size<=a.size:=H.size
 refine gV.append (g:=a.extract 0 d.size) (zs:=g) (d:=f.flatten) (l:=w.flatten) (O.cx (by rw[me q];exact ad _)) (J.MI q) ?_ T (by rw[Q,u,n.len];exact i) λr c Y k2 k3 Z k5 B=>?_
 .rw[cv n.size,u]
 have A:∀e,e<a.size->e≠s.D->c[e]? =a[e]? :=λe i k=>k5 e i λ_=>k
 have U:r≠.nil:=by
  rcases B with⟨h,_⟩|⟨_,_,h⟩|h
  .exact absurd h z
  .exact h
  .intro b;rw[b]at h;simp at h;omega
 have L:a.size<=c.size:=Z
 have I:Le (bG (s.D::S) a) (bG (r.D::S) c):=pA λe i k=>by
  simp only[aV,vt]at k;refine⟨?_,A e i k.1⟩;simp only[aV,vt];refine⟨?_,k.2⟩;rcases B with⟨h,_⟩|⟨_,h,_⟩|h
  .exact absurd h z
  .rw[h];exact k.1
  .omega
 refine P r c ⟨U,w++f,?_,?_⟩ ⟨bH q L,λe i u=>?_⟩ ⟨L,?_⟩ A
 .rw[qH]
  exact Y.cx (by rw[me q];exact ad _)
 .refine⟨by simp[j.len,n.len],λm o=>?_,λM m N t v=>?_⟩
  .rcases List.mem_append.1 o with o|o
   .exact j.size m o
   .exact n.size m o
  .rcases aW M w.length with p|p
   .rw[ax p]at t
    rw[ax (j.len▸p)]at v
    exact G.le I (j.dz M m N t v)
   .rw[aI p]at t
    rw[aI (by rw[<-j.len];exact p),<-j.len]at v
    exact G.le I (n.dz _ m N t v)
 .rw[A e (aO i q) V];exact H.same e i u
 .rcases B with⟨h,_⟩|⟨_,h,_⟩|h
  .exact absurd h z
  .exact Or.inl h
  .exact Or.inr V
def Gr.kH{α:Type}{n:Nat}{R:E->List Ce->α->Prop}{m:List α}{k:α}(i:om g.length R)(z:0<g.length)
 (q:Gr S d a b g.length R s m)(w:Fz X d a)(p:R (bG (s.D::S) a) cs k)(j:(m.length+1)*n<=140737488355328)
 (x:∀r c,Gr S d c b g.length R r (m++[k])->Fz X d c->(a.size<=c.size/\(r.D=s.D\/a.size<=r.D))->(∀f,f<a.size->f≠s.D->c[f]? =a[f]?)->K r c):jK (a.push (.cells (bt cs) b)) b g n s (.mk a.size 0 1 1) K:=by
 have h:=J.push a (.cells (bt cs) b)
 refine Gr.next (f:=[cs]) (D:=[k]) i z (q.ext i h) (w.then h) rfl ?_ ?_ j λr c t u o v=>x r c t u ⟨bH h.size o.1,o.2.imp id (bH h.size)⟩ λf j y=>(v f (aO j h.size) y).trans (h.same f j)
 .have:=(cE.push a (e:=b) (l:=cs)).iA
  simpa using this
 .have:=gP.yD (gP.nil g.length (R (bG (s.D::S) (a.push (.cells (bt cs) b))))) (i.len p) (i.le (h.df _) p)
  simpa using this
def eS.VS{α:Type}{b:Nat}{R:List Ce->α->Prop}{l:List α}(z:∀cs x,R cs x->cs.length=b)(r:eS a b R s l):
 ∃f,s.len=f.length/\fP a s.D s.off f.flatten/\gP b R f l:=by
 let⟨e,k⟩:=r.choose
 have w:∀(c:Nat)(cs:List Ce),((List.range l.length).map e)[c]? =some cs->c<l.length/\cs=e c:=λc cs d=>by
  simp only[cJ,jF]at d;let⟨E,o,B⟩:=d;let⟨t,u⟩:=List.getElem?_eq_some_iff.1 o;simp at t u;subst u;exact⟨t,B.symm⟩
 have m:∀cs∈(List.range l.length).map e,cs.length=b:=λcs D=>by
  let⟨c,d⟩:=List.mem_iff_getElem?.1 D;obtain⟨o,rfl⟩:=w c cs d;let⟨x,h⟩:=dB o;exact z _ _ (k c x h).1
 refine⟨(List.range l.length).map e,by simp[r.len],λi A q=>?_,aL,m,λc cs x d h=>?_⟩
 .rcases jX b with n|n
  .have g:=av q
   rw[cv m,n]at g;simp at g
  have g:=av q
  rw[cv m]at g
  simp at g
  have d:i/b<l.length:=Nat.div_lt_of_lt_mul (by rw[Nat.mul_comm];exact g)
  let⟨x,h⟩:=dB d
  have y:i=i/b*b+i%b:=by rw[Nat.mul_comm];exact(Nat.div_add_mod i b).symm
  have H:=Nat.mod_lt i n
  have G:(e (i/b)).length=b:=z _ _ (k _ x h).1
  let⟨F,v⟩:=cG (e (i/b)) (i%b)
  have p:=fV (d:=(List.range l.length).map e) m (b:=i/b) (a:=e (i/b)) (by simp[d]) v
  rw[<-y,q]at p
  simp at p;subst p
  have C:=(k _ x h).2 _ A v
  rw[y,<-dj];exact C
 .obtain⟨_,rfl⟩:=w c cs d
  exact(k c x h).1
def Gr.all{α:Type}{j:Nat}{R:E->List Ce->α->Prop}{l i:List α}(k:om g.length R)(v:0<g.length)
 (h:Gr S d a b g.length R s l)(t:Fz X d a)(p:eS (bG (s.D::S) a) g.length (R (bG (s.D::S) a)) x i)(q:(l.length+i.length)*j<=140737488355328)
 (u:∀r c,Gr S d c b g.length R r (l++i)->Fz X d c->(a.size<=c.size/\(r.D=s.D\/a.size<=r.D))->(∀e,e<a.size->e≠s.D->c[e]? =a[e]?)->K r c):jK a b g j s x K:=by
 let⟨f,m,n,o⟩:=p.VS λ_ _ h=>k.len h
 exact Gr.next k v h t m ((bA _ _).iA n) o q u
def Gr.lit{α:Type}{e:Nat}{R:E->List Ce->α->Prop}{l:List α}(j:om e R)(i:d.size<=a.size)(p:∀g∈S,g<d.size)(k:cs=f.flatten)(m:n=f.length)(h:gP e (R (bG S a)) f l):
 Gr S d (a.push (.cells (bt cs) b)) b e R (.mk a.size 0 n n) l:=by
 subst k m
 refine⟨aL,f,(gV.new (J.az a) b e f.flatten f.length (cv h.size)).cx i,h.mono λo x=>j.le ?_⟩
 exact(J.push a _).bG λg c=>by
  rcases List.mem_cons.1 c with c|c
  .exact Or.inr (by simp[c])
  .exact Or.inl c
def Gr.nF{α:Type}{c:Nat}{R:E->List Ce->α->Prop}{l:List α}(m:om c R)(h:Gr S d a b c R s l)(n:s.D∉S)(q:0<c)(p:l.length<=9223372036854775807):eS (bG S a) c (R (bG S a)) s l:=by
 obtain⟨_,f,e,g⟩:=h;have H:=eS.fZ e (g.mono λcs x=>m.le (iR a λj i=>ai s.D i)) q p;exact⟨H.len,H.cap,H.gS,λk x o=>let⟨cs,i,j⟩:=H.iA k x o;⟨cs,i,Kd n j⟩⟩
def Gr.ne{α:Type}{p:Nat}{R:E->List Ce->α->Prop}{o:List α}(k:Gr S d a b p R s o)(g:cE a h tb i)(n:tb≠b):s.D≠h:=by
 let⟨l,f,m,w⟩:=k;let⟨q,r,tail,j,t,c,u,v⟩:=m.aF.resolve_left l;intro e;rw[j]at e;simp only[O.jA]at e;subst e;unfold cE at g c;rw[g]at c;simp at c;exact n c.2
def Gr.Lb{α β:Type}{q:E}{r c t:Nat}{R:E->List Ce->α->Prop}{g:E->List Ce->β->Prop}{e:O}{o:List α}{p:List β}(j:Gr S d a b r R s o)(k:Gr S' q a c t g e p)(n:c≠b):s.D≠e.D:=by
 let⟨l,f,m,z⟩:=k;let⟨u,v,tail,h,w,i,x,y⟩:=m.aF.resolve_left l;have:=j.ne i n;rw[h];exact this
def Gr.box{α:Type}{L:List Nat}{j y:Nat}{R:E->List Ce->α->Prop}{u:List α}{w:α}{K:E->Prop}(B:om g.length R)(U:0<g.length)
 (o:Gr S d a b g.length R s u)(C:Fz X d a)(P:R (bG (s.D::S) a) cs w)(k:(u.length+1)*y<=140737488355328)
 (p:cE a h tb i)(hi:j<i.length)(G:tb≠b)(t:d.size<=h/\h∈S)(A:∀e∈L,e<a.size/\e≠h/\e≠s.D)
 (Q:∀r c,Gr S d c b g.length R r (u++[w])->cE c h tb (iZ i j [.s r])->Fz X d c->a.size<=c.size->(∀e,e<a.size->e≠s.D->e≠h->c[e]? =a[e]?)->K c):
 af (a.push (.cells (bt cs) b)) h j=af a h j/\
 jK (a.push (.cells (bt cs) b)) b g y s (.mk a.size 0 1 1) λr c=>eF L (a.push (.cells (bt cs) b)) c/\fJ c h j 1/\(eF L c (ah c h j [.s r])/\K (ah c h j [.s r])):=by
 have D:=p.lt
 have H:=J.push a (.cells (bt cs) b)
 have hy:=o.bn
 refine⟨aJ (H.same h D) j,Gr.kH B U o C P k λr c z I W v=>?_⟩
 have q:cE c h tb i:=p.congr (v h D (kC (o.ne p G)))
 have T:=z.ne q G
 have n:∀e,e≠h->(ah c h j [.s r])[e]? =c[e]? :=λe k=>bd _ _ _ _ k
 have Z:=C.size
 have Y:=t.1
 refine⟨λe k=>?_,q.fJ V,λe k=>n e (A e k).2.1,Q r _ ?_ (cE.ah (m:=c) q) (I.ah (Or.inr t.1) _ _) (by rw[aw];exact W.1) λe l N O=>(n e O).trans (v e l N)⟩
 .have l:=A e k
  rw[v e l.1 l.2.2,H.same e l.1]
 .let⟨M,f,g1,g2⟩:=z
  refine⟨M,f,g1.congr (n _ T),g2.mono λcs x=>B.le ?_⟩
  exact pA λe k F=>⟨F,n e λb=>F (by rw[b];exact ai _ t.2)⟩
def ap.lit(b:Nat)(l:List Int)(d:∀c∈S,c<a.size)(c:cs=l.map Ce.i)(f:n=l.length)(e:l.length<=9223372036854775807):ap (bG S (a.push (.cells (bt cs) b))) (.mk a.size 0 n n) l:=by
 subst c f;have h:=gV.new (J.az a) b 1 (l.map Ce.i) l.length aL;exact ap.QT d h e
end Go.Vc
end
