/- Part of a proof, joined by a program. -/
import Derived.Test.YtgnjacfobdjeeaaGreatO00
set_option linter.unusedVariables false
set_option linter.unusedSimpArgs false
set_option linter.defProp false
set_option linter.constructorNameAsVariable false
set_option maxHeartbeats 8000000
set_option maxRecDepth 100000
section
namespace Go.Vc
variable{o:Oper}{a:Act}{m:I}
variable{b:Program}{T:TT}{G:List Nat}{n:Nat}
def IQ:Op->Bool
 | .alloc _| .box ..| .buildSlice ..| .store ..| .makeSlice ..| .makeMap ..| .lookup ..| .mapUpdate ..| .makeFunc ..=>true
 | .call ⟨.builtin .append,_,_⟩| .call ⟨.builtin .copy,_,_⟩=>true
 | .call ⟨.builtin _,_,_⟩=>false
 | .call _=>true
 |_=>false
def qd(n:Nat):Option Nat->Bool
 |none=>true
 |some d=>Nat.blt d n
def IH(a:List Oper)(j:Nat):Option Nat:=
 match EU a j with
 |some o=>o.dst
 |none=>none
def gd(e:List Oper)(a:Fr)(g:Option (Nat×Bool))(Mz b:Fr->Prop):Prop:=
 match g with
 |none=>Mz a
 |some (j,c)=>match IH e j with
  |none=>False
  |some d=>match fP a d with
   | .tt=>bif c then Mz a else b a
   | .ff=>bif c then b a else Mz a
   | .un=>b a
   | .c (.t x)=>(x=true->bif c then Mz ((d,.tt)::a)else b ((d,.tt)::a))/\(x=false->bif c then b ((d,.ff)::a)else Mz ((d,.ff)::a))
   |_=>False
def qu(b:Program)(T:TT)(G:List Nat)(n:Nat)(c:List Oper):List Oper->Fr->I->(Fr->I->Prop)->Prop
 |[],a,m,k=>k a m
 |o::jG,a,m,k=>
  bif qd n o.dst then
   gd c a o.guard
    (λa=>bif IQ o.op then wr b T G n a m o.dst o.type (λd x e=>qu b T G n c jG (rU d o.dst x) e k) o.op
     else rd T a m (λx=>qu b T G n c jG (rU a o.dst x) m k) o.op)
    (λa=>qu b T G n c jG (rU a o.dst .un) m k)
  else False
def xh:List Oper->List Nat
 |[]=>[]
 |o::r=>match o.dst with
  |some d=>d::xh r
  |none=>xh r
def kV(M:List Nat)(a b:Act):Prop:=∀t,t∉M->b.tmps.getD t undef=a.tmps.getD t undef
def kV.aC(M:List Nat)(a:Act):kV M a a:=λ_ _=>rfl
def kV.trans{M:List Nat}{a b c:Act}(h:kV M a b)(k:kV M b c):kV M a c:=λt d=>(k t d).trans (h t d)
def kV.put{M:List Nat}{d:Option Nat}(b:∀t,d=some t->t∈M)(v:Value)(a:Act):kV M a (a.put d v):=by
 cases d with
 |none=>exact kV.aC M a
 |some d=>
  intro t f;have c:d≠t:=λe=>f (e▸b d rfl);simp[Act.put,jb c]
def IU{d:Nat}(c:o.dst=some d):∀(a:List Oper),o∈a->d∈xh a:=by
 intro a;induction a with
 |nil=>intro h;cases h
 |cons x r e=>
  intro h;rcases List.mem_cons.1 h with b|b
  ·subst b;simp only[xh,c];exact ba
  ·have:=e b;unfold xh;cases x.dst with
   |none=>exact this
   |some f=>exact ai _ this
def Bi{d:Option Nat}(h:qd n d=true):∀t,d=some t->t<n:=by
 rintro t rfl;have:Nat.blt t n=true:=h;simpa[Nat.blt,Nat.succ_le_iff]using this
def FZ(k:Array Oper){d:Fr}(f:jr n d a)(e:Bx n d m)(o:Oper){Mz A:Fr->Prop}(h:gd k.toList d o.guard Mz A):
 (Region.wanted o (yielded k a.tmps)=true/\∃b,Mz b/\jr n b a/\Bx n b m)\/
 (Region.wanted o (yielded k a.tmps)=false/\∃b,A b/\jr n b a/\Bx n b m):=by
 unfold gd at h
 cases b:o.guard with
 |none=>
  rw[b]at h
  exact Or.inl ⟨by simp[Region.wanted,b],d,h,f,e⟩
 |some D=>
  obtain⟨s,w⟩:=D
  rw[b]at h
  simp only at h
  split at h
  ·exact h.elim
  ·rename_i g q
   have z:(k[s]?).bind (·.dst)=some g:=by
    unfold IH at q;rw[nR]at q;have C:k.toList[s]? =k[s]? :=E;rw[C]at q;split at q
    ·rename_i i c;rw[c];exact q
    ·simp at q
   have i:=f.u g
   have y:∀j:Bool,a.tmps.getD g undef=.bool j->yielded k a.tmps s=some j:=by
    intro j l;have:a.tmps[g]? =some (.bool j):=by
     cases r:a.tmps[g]? with
     |none=>rw[wQ,r]at l;simp[undef]at l
     |some u=>rw[wQ,r]at l;simp at l;rw[l]
    simp[yielded,z,this]
   split at h
   ·rename_i p
    rw[p]at i
    have c:=y true i
    cases w
    ·exact Or.inr ⟨by simp[Region.wanted,b,c],d,h,f,e⟩
    ·exact Or.inl ⟨by simp[Region.wanted,b,c],d,h,f,e⟩
   ·rename_i p
    rw[p]at i
    have c:=y false i
    cases w
    ·exact Or.inl ⟨by simp[Region.wanted,b,c],d,h,f,e⟩
    ·exact Or.inr ⟨by simp[Region.wanted,b,c],d,h,f,e⟩
   ·rename_i p
    rw[p]at i
    have c:yielded k a.tmps s=none:=by
     have t:a.tmps.getD g undef=undef:=i;rw[wQ]at t;unfold yielded;rw[z];cases r:a.tmps[g]? with
     |none=>simp[r]
     |some u=>rw[r]at t;simp at t;subst t;simp[r,undef]
    exact Or.inr ⟨by simp[Region.wanted,b,c],d,h,f,e⟩
   ·rename_i x p
    rw[p]at i
    have c:=y x i
    have v:∀j:Bool,x=j->jr n ((g,if j then SV.tt else SV.ff)::d) a:=by
     rintro j rfl;refine⟨f.size,f.defers,λB=>?_⟩;simp only[fP];cases l:Nat.beq g B
     ·exact f.u B
     ·have:=be l;subst this;cases x<;>exact i
    obtain⟨t,u⟩:=h
    cases x
    ·have u:=u rfl
     cases w
     ·exact Or.inl ⟨by simp[Region.wanted,b,c],_,u,v false rfl,e.hO E⟩
     ·exact Or.inr ⟨by simp[Region.wanted,b,c],_,u,v false rfl,e.hO E⟩
    ·have t:=t rfl
     cases w
     ·exact Or.inr ⟨by simp[Region.wanted,b,c],_,t,v true rfl,e.hO E⟩
     ·exact Or.inl ⟨by simp[Region.wanted,b,c],_,t,v true rfl,e.hO E⟩
   ·exact h.elim
def VI(g:sA b T){c:Fr}(f:jr n c a)(e:Bx n c m){k:SV->Prop}(h:rd T c m k o.op){w:World}(p:w.heap=m)
 {d:Act->World->Prop}{Q:Exit->Act->World->Prop}(j:∀x v,k x->x.Is v->d (a.put o.dst v) w):o.wp b a w d Q:=by
 obtain⟨x,v,i,q,l⟩:=Jb (P:=b) g f e o h
 unfold Oper.wp
 rw[l w (λr _=>by rw[p])]
 exact j x v i q
def sV(l:sA b T)(s:RC b G)(c:Array Oper){Q:Exit->Act->World->Prop}{L:World}{H:Act}:
 ∀(jG:List Oper)(d:Fr)(m:I)(k:Fr->I->Prop)(a:Act)(w:World),(∀o∈jG,o∈c.toList)->qu b T G n c.toList jG d m k->jr n d a->Bx n d m->w.heap=m->nF L w->
  kV (xh c.toList) H a->
  (∀g e f,k g f.heap->jr n g e->Bx n g f.heap->nF L f->kV (xh c.toList) H e->Q .normal e f)->wpList b c Q jG a w
 |[],d,m,k,a,w,_,h,y,v,e,r,p,q=>by
  subst e;exact q d a w h y v r p
 |o::jG,d,m,k,a,w,J,h,y,v,e,r,p,q=>by
  simp only[qu]at h;cases z:qd n o.dst
  ·rw[z]at h;exact h.elim
  ·rw[z]at h;simp only[iL]at h;have A:=Bi z;have B:∀u,o.dst=some u->u∈xh c.toList:=λu O=>IU O _ (J o ba);have C:=λU R=>J U (ai _ R);unfold wpList;rcases FZ c y v o h with⟨E,g,t,j,i⟩|⟨E,g,P,j,i⟩
   ·rw[aq E];refine .inl ?_;cases K:IQ o.op
    ·simp only[K,kZ]at t;refine VI l j i t e λW V F D=>?_;exact sV l s c jG _ m k _ w C F (j.put D A) (i.put _ _) e r (p.trans (kV.put B _ _)) q
    ·simp only[K,iL]at t;refine NJ l s j i o t w e _ _ λX W V f F N M D S=>?_;exact sV l s c jG _ _ k _ f C F (N.put D A) (M.put _ _) rfl (r.trans S) (p.trans (kV.put B _ _)) q
   ·rw[ae (by rw[E];simp)];exact sV l s c jG _ m k _ w C P (j.put (x:=.un) rfl A) (i.put _ _) e r (p.trans (kV.put B _ _)) q
end Go.Vc
end
section
namespace Go.Vc
variable{P:Program}{T:TT}{G:List Nat}{n:Nat}
def rV:List Nat->Nat->Nat
 |[],_=>0
 |x::_,0=>x
 |_::r,n+1=>rV r n
def jY:List Edge->Nat
 |[]=>0
 |e::r=>bif Region.binds .any e then 2^e.on|||jY r else jY r
def mD(a:List Nat):List Edge->Nat
 |[]=>0
 |e::r=>bif Region.binds .any e then(2^e.on|||rV a e.on)|||mD a r else mD a r
def jT(a:List Nat):List Oper->List Nat->List Nat->Bool
 |[],[],[]=>true
 |o::d,p::e,b::c=>Nat.beq p (jY o.after.toList)&&Nat.beq b (mD a o.after.toList)&&jT a d e c
 |_,_,_=>false
def Po:Op->List Operand
 | .alloc _| .ready _| .waits _=>[]
 | .move x| .assign x| .box _ x| .load _ x| .nilCheck x| .unOp _ _ x| .convert _ _ x| .sliceToArrayPointer _ x| .makeInterface _ x
 | .makeChan _ x| .fieldAddr _ x _| .field _ x _| .range _ x| .next x _| .entry x| .typeAssert x _ _ _| .extract x _| .panic x| .recv _ x _=>[x]
 | .pick c a b=>[c,a,b]
 | .build _ b| .buildSlice _ _ b=>b.toList.map (·.2)
 | .store _ a v| .binOp _ _ a v _| .makeSlice _ a v| .indexAddr _ a v| .index _ a v| .lookup _ a v _| .mapEntry _ a v| .send a v=>[a,v]
 | .makeFunc _ first a=>first.toList++a.toList
 | .makeMap _ r=>r.toList
 | .slice _ x l h m=>[x]++l.toList++h.toList++m.toList
 | .mapUpdate _ m k v| .entryStore _ m k v| .insert _ m k v=>[m,k,v]
 | .call ⟨.value f,a,_⟩| .go ⟨.value f,a,_⟩| .defer ⟨.value f,a,_⟩=>f::a.toList
 | .call ⟨.invoke f _,a,_⟩| .go ⟨.invoke f _,a,_⟩| .defer ⟨.invoke f _,a,_⟩=>f::a.toList
 | .call ⟨.builtin _,a,_⟩| .go ⟨.builtin _,a,_⟩| .defer ⟨.builtin _,a,_⟩=>a.toList
 | .select a _=>(a.flatMap λc=>#[c.chan]++c.send.toArray).toList
def Q1(a:Op):a.operands.toList=Po a:=by
 cases a<;>try (simp[Op.operands,Po];done)
 all_goals
  rename_i c
  obtain⟨b,d,e⟩:=c
  cases b<;>simp[Op.operands,Po,Call.operands]
def GK(d:Nat):List Operand->Bool
 |[]=>false
 | .tmp t::r=>Nat.beq t d||GK d r
 |_::r=>GK d r
def LV(a:List Oper)(o:Oper)(d:Nat):Bool:=
 GK d (Po o.op)||(match o.guard with
  |some (g,_)=>(match IH a g with|some t=>Nat.beq t d|none=>false)
  |none=>false)
def Ly(a:List Oper)(x y:Oper):Bool:=
 (match x.dst with
  |some d=>!LV a y d&&(match y.dst with|some e=>!Nat.beq d e|none=>true)
  |none=>true)&&
 (match y.dst with
  |some d=>!LV a x d
  |none=>true)
def Uw:Op->Bool
 | .select ..=>true
 |_=>false
def wY(b:List Oper)(i:Nat)(a:Nat)(o:Oper):Nat->List Oper->List Nat->Bool
 |_,[],_=>true
 |_,_,[]=>true
 |j,x::c,p::d=>(Nat.beq j i||Nat.testBit p i||Nat.testBit a j||Ly b o x)&&wY b i a o (j+1) c d
def CM(a:List Oper)(b:List Nat):Nat->List Oper->List Nat->Bool
 |_,[],_=>true
 |_,_,[]=>true
 |i,o::e,c::d=>!Uw o.op&&(IQ o.op||wY a i c o 0 a b)&&CM a b (i+1) e d
def jE(done p i:Nat):Bool:=!(Nat.testBit done i)&&Nat.beq (p&&&done) p
def uK(done:Nat):Nat->List Oper->List Nat->Option Nat
 |_,[],_=>none
 |_,_,[]=>none
 |i,o::a,p::b=>bif jE done p i&&!(IQ o.op)then some i else uK done (i+1) a b
def nU(done:Nat):Nat->List Oper->List Nat->List Nat
 |_,[],_=>[]
 |_,_,[]=>[]
 |i,_::a,p::b=>bif jE done p i then i::nU done (i+1) a b else nU done (i+1) a b
def Jj(m a:I):List (Nat×Nat)->Prop->Prop
 |[],k=>k
 |(b,o)::r,k=>D a b o=D m b o/\Jj m a r k
def AU(a:Nat)(m b:I):List (Nat×List (Nat×Nat))->Prop->Prop
 |[],k=>k
 |(r,c)::L,k=>bif Nat.testBit a r then AU a m b L k else Jj m b c (AU a m b L k)
def Lv:List Nat->(Nat->Prop)->Prop
 |[],_=>True
 |[i],f=>f i
 |i::r,f=>f i/\Lv r f
def mW(P:Program)(T:TT)(G:List Nat)(n:Nat)(b:List Oper)(c d:List Nat):Nat->Nat->Fr->I->List (Nat×List (Nat×Nat))->(Fr->I->Prop)->Prop
 |0,done,a,m,_,k=>match nU done 0 b c with
  |[]=>k a m
  |_=>False
 |e+1,done,a,m,L,k=>
  match uK done 0 b c with
  |some i=>match EU b i with
   |some o=>bif qd n o.dst then
    gd b a o.guard
     (λa=>rd T a m (λx=>mW P T G n b c d e (done|||2^i) (rU a o.dst x) m ((i,P8 T a o.op)::L) k) o.op)
     (λa=>mW P T G n b c d e (done|||2^i) (rU a o.dst .un) m L k)
    else False
   |none=>False
  |none=>match nU done 0 b c with
   |[]=>k a m
   |h=>Lv h λi=>match EU b i with
    |some o=>bif qd n o.dst then
     gd b a o.guard
      (λa=>wr P T G n a m o.dst o.type (λg x f=>AU (rV d i) m f L (mW P T G n b c d e (done|||2^i) (rU g o.dst x) f L k)) o.op)
      (λa=>mW P T G n b c d e (done|||2^i) (rU a o.dst .un) m L k)
     else False
    |none=>False
def lS(r:Nat):∀(a:List Edge),Nat.testBit (jY a) r=true<->∃e∈a,Region.binds .any e=true/\e.on=r
 |[]=>by simp[jY]
 |e::a=>by
  have c:=lS r a;simp only[jY];cases b:Region.binds .any e
  ·simp only[kZ,c,aS,Y3,b];simp
  ·simp only[iL,Rp,cv,c,aS,Y3,b,true_and,Kx,ao]
def vL(b:List Nat)(r:Nat):∀(a:List Edge),Nat.testBit (mD b a) r=true->∃e∈a,Region.binds .any e=true/\(e.on=r\/Nat.testBit (rV b e.on) r=true)
 |[],h=>by simp[mD]at h
 |e::a,h=>by
  have i:=vL b r a;simp only[mD]at h;cases f:Region.binds .any e
  ·simp only[f,kZ]at h;obtain⟨c,g,d⟩:=i h;exact⟨c,ai _ g,d⟩
  ·simp only[f,iL,Rp,cv,Kx,ao]at h;rcases h with h|h
   ·exact⟨e,ba,f,h⟩
   ·obtain⟨c,g,d⟩:=i h;exact⟨c,ai _ g,d⟩
def kA(c:List Nat):∀{e:List Oper}{f a:List Nat},jT c e f a=true->∀(i:Nat)(o:Oper),e[i]? =some o->
 f[i]? =some (jY o.after.toList)/\rV a i=mD c o.after.toList/\∃b,a[i]? =some b
 |[],[],[],_,i,o,h=>by simp at h
 |x::e,p::f,b::a,h,i,o,d=>by
  simp only[jT,bC]at h;obtain⟨⟨g,j⟩,k⟩:=h;cases i with
  |zero=>
   simp at d;subst d;exact⟨by simp[be g],by simp[rV,be j],b,E⟩
  |succ i=>
   have:=kA c k i o (by simpa using d);simpa[rV]using this
 |[],[],_::_,h,_,_,_=>by simp[jT]at h
 |[],_::_,_,h,_,_,_=>by simp[jT]at h
 |_::_,[],_,h,_,_,_=>by simp[jT]at h
 |_::_,_::_,[],h,_,_,_=>by simp[jT]at h
def Gu(d:List Nat):∀{a:List Oper}{c b:List Nat},jT d a c b=true->c.length=a.length/\b.length=a.length
 |[],[],[],_=>⟨rfl,rfl⟩
 |x::a,p::c,e::b,h=>by
  simp only[jT,bC]at h;have:=Gu d h.2;simp[this.1,this.2]
 |[],[],_::_,h=>by simp[jT]at h
 |[],_::_,_,h=>by simp[jT]at h
 |_::_,[],_,h=>by simp[jT]at h
 |_::_,_::_,[],h=>by simp[jT]at h
end Go.Vc
end
section
namespace Go.Vc
variable{N a:Nat}{b:Array Bool}
variable{P:Program}{T:TT}{G:List Nat}{n:Nat}
def rI{d:Nat}:∀{a:List Operand},GK d a=false->d∉(a.filterMap λ| .tmp t=>some t|_=>none)
 |[],_=>E
 |x::r,h=>by
  cases x with
  |tmp t=>
   simp only[GK,bQ]at h;have b:=rI h.2;have:t≠d:=λe=>by subst e;simp at h
   simp only[List.filterMap_cons,aS,tA];exact⟨λe=>this e.symm,b⟩
  |const v=>simpa using rI (a:=r) (by simpa[GK]using h)
  |global g=>simpa using rI (a:=r) (by simpa[GK]using h)
  |func f=>simpa using rI (a:=r) (by simpa[GK]using h)
def QN(a:Array Oper)(g:Nat):IH a.toList g=(a[g]?).bind (·.dst):=by
 unfold IH;rw[nR];have e:a.toList[g]? =a[g]? :=E;rw[e];cases a[g]? <;>rfl
def Gs(b:Array Oper){o:Oper}{d:Nat}(h:LV b.toList o d=false):d∉o.looksAt b:=by
 simp only[LV,bQ]at h;unfold Oper.looksAt;rw[Q1,GO,tA];refine⟨rI h.1,?_⟩;have a:=h.2;cases f:o.guard with
 |none=>simp
 |some p=>
  obtain⟨g,i⟩:=p;rw[f]at a;simp only at a⊢;rw[QN]at a;cases c:(b[g]?).bind (·.dst)with
  |none=>simp
  |some t=>
   rw[c]at a;simp only at a;simp only[Option.toList_some,jm];intro e;subst e;simp at a
def MN(b:Array Oper){x y:Oper}(h:Ly b.toList x y=true):x.apart b y=true:=by
 simp only[Ly,bC]at h;obtain⟨a,d⟩:=h;unfold Oper.apart;simp only[bC];constructor
 ·cases i:x.dst with
  |none=>rfl
  |some f=>
   rw[i]at a;simp only[bC,gF]at a⊢;refine⟨?_,?_⟩
   ·have:=Gs b a.1;simpa using this
   ·have c:=a.2;cases e:y.dst with
    |none=>simp
    |some j=>
     rw[e]at c;simp only[gF]at c;simp only[tz,ne_eq,Bb];intro g;subst g;simp at c
 ·cases e:y.dst with
  |none=>rfl
  |some f=>
   rw[e]at d;simp only[gF]at d⊢;have:=Gs b d;simpa using this
def AF(i:List Oper)(a d:Nat)(o:Oper):∀{g:List Oper}{k:List Nat}{c:Nat},wY i a d o c g k=true->∀(j:Nat)(x:Oper)(p:Nat),g[j]? =some x->k[j]? =some p->
 c+j=a\/Nat.testBit p a=true\/Nat.testBit d (c+j)=true\/Ly i o x=true
 |[],_,_,_,j,x,p,h,_=>by simp at h
 |_::_,[],_,_,j,x,p,_,h=>by simp at h
 |y::g,q::k,c,h,j,x,p,f,e=>by
  simp only[wY,bC,cv]at h;obtain⟨b,m⟩:=h;cases j with
  |zero=>
   simp at f e;subst f;subst e;rcases b with((b|b)|b)|b
   ·exact Or.inl (by simpa using be b)
   ·exact Or.inr (Or.inl b)
   ·exact Or.inr (Or.inr (Or.inl (by simpa using b)))
   ·exact Or.inr (Or.inr (Or.inr b))
  |succ j=>
   have:=AF i a d o m j x p (by simpa using f) (by simpa using e);have l:c+1+j=c+(j+1):=V;rw[l]at this;exact this
def uC(d:List Oper)(j:List Nat):∀{i:List Oper}{e:List Nat}{c:Nat},CM d j c i e=true->∀(a:Nat)(o:Oper)(b:Nat),i[a]? =some o->e[a]? =some b->
 Uw o.op=false/\(IQ o.op=true\/wY d (c+a) b o 0 d j=true)
 |[],_,_,_,a,o,b,h,_=>by simp at h
 |_::_,[],_,_,a,o,b,_,h=>by simp at h
 |y::i,q::e,c,h,a,o,b,g,f=>by
  simp only[CM,bC,cv,gF]at h;obtain⟨⟨l,m⟩,n⟩:=h;cases a with
  |zero=>simp at g f;subst g;subst f;exact⟨l,by simpa using m⟩
  |succ a=>
   have:=uC d j n a o b (by simpa using g) (by simpa using f);have k:c+1+a=c+(a+1):=V;rw[k]at this;exact this
def Gq(p d:Nat):Nat.beq (p&&&d) p=true<->∀r,Nat.testBit p r=true->Nat.testBit d r=true:=by
 constructor
 ·intro h r a;have e:=be h;rw[<-e,Zc]at a;simp only[bC]at a;exact a.2
 ·intro h;have:p&&&d=p:=by
   apply Nat.eq_of_testBit_eq;intro r;rw[Zc];cases a:Nat.testBit p r
   ·rfl
   ·simp[h r a]
  rw[this];simp
structure Lm(N done:Nat)(b:Array Bool):Prop where
 size:b.size=N
 Ve:∀a,b.getD a false=Nat.testBit done a
def Lm.un{done:Nat}(h:Lm N done b)(c:a<N):b.getD a true=Nat.testBit done a:=by
 rw[<-h.Ve a];have:a<b.size:=by rw[h.size];exact c
 simp[this]
def Lm.set{done:Nat}(h:Lm N done b)(c:a<N):Lm N (done|||2^a) (b.setIfInBounds a true):=by
 refine⟨by simp[h.size],λj=>?_⟩;have d:a<b.size:=by rw[h.size];exact c
 rw[Rp,Kx];by_cases e:a=j
 ·subst e;simp[d]
 ·rw[getD_set_ne false e,h.Ve j];simp[e]
def Fa(d:Array Oper){q h r:List Nat}(n:jT h d.toList q r=true){done:Nat}(g:Lm d.size done b)(a:Nat):
 a∈Region.ready .any d b<->∃o p,d[a]? =some o/\q[a]? =some p/\jE done p a=true:=by
 rw[mem_ready]
 constructor
 ·rintro⟨m,o,c,s⟩
  have k:a<d.size:=(Array.getElem?_eq_some_iff.1 c).1
  have l:=(kA h n a o (by simpa using c)).1
  refine⟨o,_,c,l,?_⟩
  simp only[jE,bC,gF]
  refine⟨by rw[<-g.un k];exact m,(Gq _ _).2 λt e=>?_⟩
  obtain⟨f,j,i,rfl⟩:=(lS t _).1 e
  rw[<-g.Ve]
  exact s f (Array.mem_toList_iff.1 j) i
 ·rintro⟨o,p,c,l,e⟩
  have k:a<d.size:=(Array.getElem?_eq_some_iff.1 c).1
  have m:=(kA h n a o (by simpa using c)).1
  rw[l]at m
  simp only[Bb]at m
  subst m
  simp only[jE,bC,gF]at e
  refine⟨by rw[g.un k];exact e.1,o,c,λf j i=>?_⟩
  rw[g.Ve]
  exact(Gq _ _).1 e.2 f.on ((lS _ _).2 ⟨f,Array.mem_toList_iff.2 j,i,rfl⟩)
def IV(done:Nat):∀{d:List Oper}{e:List Nat}{b a:Nat},a∈nU done b d e<->∃j o p,a=b+j/\d[j]? =some o/\e[j]? =some p/\jE done p a=true
 |[],_,_,_=>by simp[nU]
 |_::_,[],_,_=>by simp[nU]
 |x::d,q::e,b,a=>by
  have h:=IV done (d:=d) (e:=e) (b:=b+1) (a:=a);have k:(∃j o p,a=b+j/\(x::d)[j]? =some o/\(q::e)[j]? =some p/\jE done p a=true)<->
   ((a=b/\jE done q b=true)\/∃j o p,a=b+1+j/\d[j]? =some o/\e[j]? =some p/\jE done p a=true):=by
   constructor
   ·rintro⟨j,o,p,rfl,g,f,c⟩
    cases j with
    |zero=>simp at f;subst f;exact Or.inl ⟨rfl,by simpa using c⟩
    |succ j=>exact Or.inr ⟨j,o,p,V,by simpa using g,by simpa using f,by rwa[show b+(j+1)=b+(j+1)from rfl]at c⟩
   ·rintro(⟨rfl,c⟩|⟨j,o,p,rfl,g,f,c⟩)
    ·exact⟨0,x,q,rfl,E,E,c⟩
    ·exact⟨j+1,o,p,V,by simpa using g,by simpa using f,c⟩
  rw[k,<-h];simp only[nU];cases c:jE done q b
  ·simp
  ·simp
def Gj(done:Nat):∀{d:List Oper}{e:List Nat}{c a:Nat},uK done c d e=some a->∃j o p,a=c+j/\d[j]? =some o/\e[j]? =some p/\jE done p a=true/\IQ o.op=false
 |[],_,_,_,h=>by simp[uK]at h
 |_::_,[],_,_,h=>by simp[uK]at h
 |x::d,q::e,c,a,h=>by
  simp only[uK]at h;cases b:(jE done q c&&!(IQ x.op))
  ·rw[b]at h;obtain⟨j,o,p,rfl,f,g,i,k⟩:=Gj done h;exact⟨j+1,o,p,V,by simpa using f,by simpa using g,i,k⟩
  ·rw[b]at h;simp at h;subst h;simp only[bC,gF]at b;exact⟨0,x,q,rfl,E,E,b.1,b.2⟩
def KD:∀{l:List Nat}{f:Nat->Prop},Lv l f->∀a∈l,f a
 |[a],f,h,j,b=>by simp at b;subst b;exact h
 |a::c::r,f,h,j,b=>by
  rcases List.mem_cons.1 b with rfl|b
  ·exact h.1
  ·exact KD h.2 j b
def Jk{m b:I}:∀{l:List (Nat×Nat)}{k:Prop},Jj m b l k->k/\∀q∈l,D b q.1 q.2=D m q.1 q.2
 |[],k,h=>⟨h,E⟩
 |(e,o)::r,k,h=>by
  obtain⟨c,d⟩:=Jk h.2;refine⟨c,λq a=>?_⟩;rcases List.mem_cons.1 a with rfl|a
  ·exact h.1
  ·exact d q a
def Cz{c:Nat}{m g:I}:∀{L:List (Nat×List (Nat×Nat))}{k:Prop},AU c m g L k->k/\∀x∈L,Nat.testBit c x.1=false->∀q∈x.2,D g q.1 q.2=D m q.1 q.2
 |[],k,h=>⟨h,E⟩
 |(r,l)::L,k,h=>by
  simp only[AU]at h;cases f:Nat.testBit c r
  ·rw[f]at h;obtain⟨i,j⟩:=Jk h;obtain⟨d,e⟩:=Cz i;refine⟨d,λx a b=>?_⟩;rcases List.mem_cons.1 a with rfl|a
   ·exact j
   ·exact e x a b
  ·rw[f]at h;obtain⟨d,e⟩:=Cz h;refine⟨d,λx a b=>?_⟩;rcases List.mem_cons.1 a with rfl|a
   ·rw[f]at b;cases b
   ·exact e x a b
def WQ(L:List (Nat×List (Nat×Nat)))(b:List (Nat×(World->Prop))):Prop:=
 ∀x∈b,(∀w,x.2 w)\/∃(a:List (Nat×Nat))(c:Nat×Nat->Option Value),(x.1,a)∈L/\x.2=λw=>∀q∈a,D w.heap q.1 q.2=c q
end Go.Vc
end
section
namespace Go.Vc
variable{a:Program}{T:TT}{G:List Nat}{n:Nat}
def Mq(hT:sA a T)(hG:RC a G)(b:Array Oper)(X f:List Nat)(z:jT f b.toList X f=true)(ao:CM b.toList X 0 b.toList f=true)
 {ah:Exit->Act->World->Prop}(hQ:∀Q g w,¬ah (.panic Q) g w){w0:World}{a0:Act}:
 ∀(F done:Nat)(E:Fr)(af:I)(N:List (Nat×List (Nat×Nat)))(B:Fr->I->Prop)(O:List (Nat×(World->Prop)))(c:Array Bool)(g:Act)(w:World),
  mW a T G n b.toList X f F done E af N B->WQ N O->Lm b.size done c->Et (λi M=>Nat.testBit (rV f i) M) c->jr n E g->Bx n E af->w.heap=af->nF w0 w->
  kV (xh b.toList) a0 g->
  (∀s d k,B s k.heap->jr n s d->Bx n s k.heap->nF w0 k->kV (xh b.toList) a0 d->ah .normal d k)->
  tw a .any b ah (λi M=>Nat.testBit (rV f i) M) O F c g w:=by
 have H:Rx .any b (λi M=>Nat.testBit (rV f i) M):=by
  intro i M o d p;have Z:=(kA f z i o (by simpa using d)).2.1;simp only[Z]at p;obtain⟨e,he,hb,h⟩:=vL f M _ p;exact⟨e,Array.mem_toList_iff.1 he,hb,h⟩
 have aG:=Gu f z
 have aw:∀(j:Nat)(o:Oper) cs r,b[j]? =some o->o.op≠.select cs r:=by
  intro j o cs r d e;obtain⟨_,_,bj,az⟩:=kA f z j o (by simpa using d);have:=(uC _ _ ao j o bj (by simpa using d) az).1;rw[e]at this;simp[Uw]at this
 have am:∀{done:Nat}{c:Array Bool},Lm b.size done c->∀i,i∈Region.ready .any b c<->i∈nU done 0 b.toList X:=by
  intro done c hD i;rw[Fa b z hD i,IV];constructor
  ·rintro⟨o,W,d,R,p⟩;exact⟨i,o,W,V,by simpa using d,R,p⟩
  ·rintro⟨j,o,W,e,d,R,p⟩;have:i=j:=V;subst this;exact⟨o,W,by simpa using d,R,p⟩
 have av:∀{done:Nat}{c:Array Bool},Lm b.size done c->nU done 0 b.toList X=[]->Region.ready .any b c=[]:=by
  intro done c hD h;apply List.eq_nil_iff_forall_not_mem.2;intro i m;rw[am hD i,h]at m;cases m
 intro F
 induction F with
 |zero=>
  intro done E af N B O c g w h hL hD hC hR hB hw hs hk hq
  subst hw
  simp only[mW]at h
  split at h
  ·rename_i h0
   exact⟨av hD h0,hq E g w h hR hB hs hk⟩
  ·exact h.elim
 |succ F U=>
  intro done E af N B O c g w h hL hD hC hR hB hw hs hk hq
  subst hw
  simp only[mW]at h
  split at h
  · -- a reading is taken first
   rename_i i m
   obtain⟨j,o,W,e,d,R,p,aE⟩:=Gj done m
   have:i=j:=V
   subst this
   rw[nR,d]at h
   simp only at h
   have A:b[i]? =some o:=by simpa using d
   have ac:i<b.size:=(Array.getElem?_eq_some_iff.1 A).1
   have ad:i∈Region.ready .any b c:=(Fa b z hD i).2 ⟨o,W,A,R,p⟩
   cases J:qd n o.dst
   ·rw[J]at h;exact h.elim
   ·rw[J]at h
    simp only[iL]at h
    have aa:=Bi J
    have ab:∀C,o.dst=some C->C∈xh b.toList:=λC aj=>IU aj _ (ik d)
    have ar:∀j K,b[j]? =some K->j≠i->c.getD j true=false->(∀e∈K.after,Region.binds .any e=true->e.on≠i)->o.apart b K=true:=by
     intro j K al aB au aC;have aA:j<b.size:=(Array.getElem?_eq_some_iff.1 al).1;obtain⟨_,aF,bi,ap⟩:=kA f z i o d;rcases(uC _ _ ao i o bi d ap).2 with t|t
     ·rw[aE]at t;cases t
     ·have Y:=(kA f z j K (by simpa using al)).1;have u:rV f i=bi:=by
       have:∀(l:List Nat)(i r:Nat),l[i]? =some r->rV l i=r:=by
        intro l;induction l with
        |nil=>intro i r h;simp at h
        |cons ag l U=>intro i r h;cases i with
         |zero=>simpa[rV]using h
         |succ i=>simpa[rV]using U i r (by simpa using h)
       exact this f i bi ap
      rcases AF _ _ _ _ t j K _ (by simpa using al) Y with e|e|e|e
      ·exact absurd V aB
      ·rw[bN]at e;obtain⟨q,y,hb,L⟩:=(lS i _).1 e;exact absurd L (aC q (Array.mem_toList_iff.1 y) hb)
      ·rw[bN,<-u]at e;have:=uS H hC ad e;rw[hD.Ve]at this;rw[hD.un aA,this]at au;cases au
      ·exact MN b e
    rcases FZ b hR hB o h with⟨L,s,an,y,u⟩|⟨L,s,ak,y,u⟩
    ·obtain⟨ag,ax,hx,hv,aD⟩:=Jb (P:=a) hT y u o an
     let ay:World->Prop:=λk=>∀q∈P8 T s o.op,D k.heap q.1 q.2=D w.heap q.1 q.2
     refine Ep (S:=ay) H A aw (λQ g w hc=>absurd hc (hQ _ _ _)) F c g w hC ar ad (F:=ax) (Or.inl ⟨L,λk l=>aD k l⟩) (λq _=>rfl) ?_
     refine U _ _ _ _ B _ _ _ w hx ?_ (hD.set ac) (hC.set H ad) (y.put hv aa) (u.put _ _) rfl hs (hk.trans (kV.put ab _ _)) hq
     intro Y l
     rcases List.mem_cons.1 l with rfl|l
     ·exact Or.inr ⟨_,λq=>D w.heap q.1 q.2,ba,rfl⟩
     ·rcases hL Y l with t|⟨As,Q,Z,h2⟩
      ·exact Or.inl t
      ·exact Or.inr ⟨As,Q,ai _ Z,h2⟩
    ·refine Ep (S:=λ_=>True) H A aw (λQ g w hc=>absurd hc (hQ _ _ _)) F c g w hC ar ad (F:=undef) (Or.inr ⟨L,rfl⟩) trivial ?_
     refine U _ _ _ _ B _ _ _ w ak ?_ (hD.set ac) (hC.set H ad) (y.put (x:=.un) rfl aa) (u.put _ _) rfl hs (hk.trans (kV.put ab _ _)) hq
     intro Y l
     rcases List.mem_cons.1 l with rfl|l
     ·exact Or.inl λ_=>trivial
     ·exact hL Y l
  ·split at h
   ·rename_i h0
    exact NI (av hD h0) (hq E g w h hR hB hs hk) _
   ·rename_i rs ay
    have au:=KD h
    refine OM ?_ ?_
    ·intro e
     apply ay
     cases K:nU done 0 b.toList X with
     |nil=>rfl
     |cons ag xs=>
      have:ag∈Region.ready .any b c:=(am hD ag).2 (by rw[K];exact ba)
      rw[e]at this
      cases this
    ·intro i m
     have K:=au i ((am hD i).1 m)
     obtain⟨o,W,A,R,p⟩:=(Fa b z hD i).1 m
     have d:b.toList[i]? =some o:=by simpa using A
     have ac:i<b.size:=(Array.getElem?_eq_some_iff.1 A).1
     rw[nR,d]at K
     simp only at K
     cases J:qd n o.dst
     ·rw[J]at K;exact K.elim
     ·rw[J]at K
      simp only[iL]at K
      have aa:=Bi J
      have ab:∀C,o.dst=some C->C∈xh b.toList:=λC aj=>IU aj _ (ik d)
      unfold wpOp
      simp only[A]
      rcases FZ b hR hB o K with⟨L,s,an,y,u⟩|⟨L,s,ak,y,u⟩
      ·rw[aq L]
       refine .inl (NJ hT hG y u o an w rfl _ _ λaE ag ax k hx ar ap hv aA=>?_)
       obtain⟨aB,aC⟩:=Cz hx
       refine⟨λY l aD ad=>?_,U _ _ _ N B O _ _ k aB hL (hD.set ac) (hC.set H m) (ar.put hv aa) (ap.put _ _) rfl (hs.trans aA) (hk.trans (kV.put ab _ _)) hq⟩
       rcases hL Y l with t|⟨As,Q,Z,h2⟩
       ·exact t k
       ·rw[h2]at ad⊢
        intro q al
        rw[aC _ Z aD q al,ad q al]
      ·rw[ae (by rw[L];simp)]
       exact⟨λY l _ ad=>ad,U _ _ _ N B O _ _ w ak hL (hD.set ac) (hC.set H m) (y.put (x:=.un) rfl aa) (u.put _ _) rfl hs (hk.trans (kV.put ab _ _)) hq⟩
end Go.Vc
end
section
namespace Go.Vc
variable{M:List Nat}{a:Act}{s:Sh}{y:s.ty}
variable{P:Program}{T:TT}{G:List Nat}{b:Nat}
structure Mu where
 QT:List (Nat×List (Nat×Sh))
 RU:List (Nat×List (Nat×Sh))
 fu:List (Nat×List Nat)
def lk{α:Type}:List (Nat×α)->Nat->Option α
 |[],_=>none
 |(u,x)::r,t=>bif Nat.beq u t then some x else lk r t
def AK:Code->Option Nat
 | .region id _ _=>some id
 | .seq a b=>match AK a with
  |some i=>some i
  |none=>AK b
 | .cond _ a b=>match AK a with
  |some i=>some i
  |none=>AK b
 | .block _ c=>AK c
 | .loop c=>AK c
 | .scope c=>AK c
 |_=>none
def S0{α:Type}(l:List (Nat×α))(c:Code):Option α:=
 match AK c with
 |some i=>lk l i
 |none=>none
def EA:List (Nat×Sh)->Type
 |[]=>I->Prop
 |(_,s)::r=>s.ty->EA r
def Lq:List (Nat×Sh)->Type
 |[]=>I->Nat
 |(_,s)::r=>s.ty->Lq r
def Oj:(s:Sh)->SV->Option s.ty
 | .I,.c (.i b)=>some b
 | .U k,.c (.u c b)=>if k=c then some b else none
 | .T,.c (.t c)=>some c
 | .T,.tt=>some true
 | .T,.ff=>some false
 | .S,.c (.s x)=>some x
 | .P,.c (.p c o)=>some (c,o)
 | .P,.c (.bp _ c o)=>some (c,o)
 | .F,.c (.fn f a d)=>some (f,a,d)
 | .F,.c (.fv q)=>some q
 | .M,.c (.mp c)=>some c
 |_,_=>none
def EE:(l:List (Nat×Sh))->EA l->Fr->I->Prop
 |[],a,_,m=>a m
 |(t,s)::r,a,b,m=>match Oj s (fP b t)with
  |some x=>EE r (a x) b m
  |none=>False
def Lz:(l:List (Nat×Sh))->EA l->Lq l->Fr->I->Nat->Prop
 |[],a,μ,_,m,N=>a m/\μ m<N
 |(t,s)::r,a,μ,b,m,N=>match Oj s (fP b t)with
  |some x=>Lz r (a x) (μ x) b m N
  |none=>False
def MK:(l:List (Nat×Sh))->EA l->Fr->(Fr->(I->Prop)->Prop)->Prop
 |[],a,b,k=>k b a
 |(t,s)::r,a,b,k=>∀x:s.ty,MK r (a x) ((t,.c (s.mk x))::b) k
def ML:(l:List (Nat×Sh))->EA l->Lq l->Fr->(Fr->(I->Prop)->(I->Nat)->Prop)->Prop
 |[],a,μ,b,k=>k b a μ
 |(t,s)::r,a,μ,b,k=>∀x:s.ty,ML r (a x) (μ x) ((t,.c (s.mk x))::b) k
def mf:List Nat->Fr->Fr
 |[],a=>a
 |t::r,a=>(t,.hO)::mf r a
def mR:Code->List Nat
 | .region _ b _=>xh b.toList
 | .seq a b=>mR a++mR b
 | .cond _ a b=>mR a++mR b
 | .block _ c=>mR c
 | .loop c=>mR c
 |_=>[]
def nY(M:List Nat):List (Nat×Sh)->Bool
 |[]=>true
 |(t,_)::r=>tc t M&&nY M r
def Vt(x y:SV)(k:Prop):Prop:=x=y/\k
def aD(x:SV)(k:Prop):Vt x x k=k:=by simp[Vt]
def jy(A:Mu)(c:Code):List Nat:=
 match S0 A.fu c with
 |some K=>K
 |none=>[]
def AG(b:Nat)(K:List Nat):Fr->List Nat
 |[]=>[]
 |(q,_)::r=>bif Nat.ble b q&&!tc q K then q::AG b K r else AG b K r
def sC(b:Nat)(K:List Nat)(a:Fr):Fr:=mf (AG b K a) a
def Ru(a b:Fr):List Nat->Prop->Prop
 |[],k=>k
 |q::K,k=>Vt (fP b q) (fP a q) (Ru a b K k)
def Ja(c:Fr):Op->Option SV
 | .move x| .assign x=>match ev c x with
  | .hO=>none
  |y=>some y
 | .binOp d _ x y _=>match ev c x,ev c y with
  | .c (.i a),.c (.i b)=>match d with
   | .eql=>some (.c (.t (a==b)))
   | .neq=>some (.c (.t (a !=b)))
   | .lss=>some (.c (.t (decide (a<b))))
   | .leq=>some (.c (.t (decide (a<=b))))
   | .gtr=>some (.c (.t (decide (a>b))))
   | .geq=>some (.c (.t (decide (a>=b))))
   |_=>none
  |_,_=>none
 |_=>none
def pp(b:Nat):List Oper->Fr->Option Fr
 |[],a=>some a
 |o::r,a=>bif qd b o.dst then
  match o.guard with
  |none=>match Ja a o.op with
   |some x=>pp b r (rU a o.dst x)
   |none=>none
  |some _=>none
  else none
def Tb(A:Mu)(b t:Nat):Code->Fr->Option Bool
 | .region _ e false,d=>match pp b e.toList d with
  |some a=>jW (fP a t)
  |none=>none
 | .seq (.region _ e false) (.cond (.tmp u) .skip c),d=>
  match S0 A.RU (.cond (.tmp u) .skip c)with
  |some _=>none
  |none=>bif Nat.beq u t&&tc t (mR c)then
   match pp b e.toList d with
   |some a=>match jW (fP a t),Tb A b t c a with
    |some x,some y=>some (x||y)
    |_,_=>none
   |none=>none
   else none
 |_,_=>none
def VG(A:Mu)(b:Nat)(d:Operand)(a c:Code)(e:Fr):Option (Nat×Bool):=
 match d,a with
 | .tmp t,.skip=>bif tc t (mR c)then
  match Tb A b t c e with
  |some y=>some (t,y)
  |none=>none
  else none
 |_,_=>none
def sK(a:Fr)(c:Operand)(v:SV):Fr:=
 match c with
 | .tmp t=>(t,v)::a
 |_=>a
def Sf:List Oper->List Nat
 |[]=>[]
 |o::r=>jY o.after.toList::Sf r
def Qs:List Nat->List Oper->List Nat
 |a,[]=>a
 |a,o::r=>Qs (a++[mD a o.after.toList]) r
def oH:Code->Bool
 | .region _ b c=>!c||(jT (Qs [] b.toList) b.toList (Sf b.toList) (Qs [] b.toList)&&CM b.toList (Sf b.toList) 0 b.toList (Qs [] b.toList))
 | .seq a b=>oH a&&oH b
 | .cond _ a b=>oH a&&oH b
 | .block _ c=>oH c
 | .loop c=>oH c
 |_=>true
def vc(P:Program)(T:TT)(G:List Nat)(b:Nat)(A:Mu):Code->Fr->I->(Exit->Fr->I->Prop)->Prop
 | .skip,c,m,Q=>Q .normal c m
 | .region id d e,c,m,Q=>
  bif e then mW P T G b d.toList (Sf d.toList) (Qs [] d.toList) d.toList.length 0 c m [] (λc m=>Q .normal c m)
  else qu P T G b d.toList d.toList c m (λc m=>Q .normal c m)
 | .seq a g,c,m,Q=>match S0 A.RU g with
  |none=>vc P T G b A a c m λ
   | .normal,e,d=>vc P T G b A g e d Q
   |h,e,d=>Q h e d
  |some l=>bif nY (mR a) l then∃K:EA l,(vc P T G b A a c m λ
   | .normal,e,d=>Ru c e (jy A g) (EE l K e d)
   |h,e,d=>Q h e d)/\
   (MK l K (mf (mR a) (sC b (jy A g) c)) λe f=>∀d,f d->vc P T G b A g e d Q)else False
 | .cond f a g,c,m,Q=>match ev c f with
  | .tt=>vc P T G b A a c m Q
  | .ff=>vc P T G b A g c m Q
  | .c (.t x)=>match VG A b f a g c with
   |some (t,y)=>Q .normal ((t,.c (.t (x||y)))::mf (mR g) c) m
   |none=>(x=true->vc P T G b A a (sK c f .tt) m Q)/\(x=false->vc P T G b A g (sK c f .ff) m Q)
  |_=>False
 | .block id f,c,m,Q=>vc P T G b A f c m λ
  | .exit i,e,d=>bif Nat.beq i id then Q .normal e d else Q (.exit i) e d
  |h,e,d=>Q h e d
 | .loop f,c,m,Q=>match S0 A.QT f with
  |none=>False
  |some l=>bif nY (mR f) l then∃(i:EA l)(μ:Lq l),EE l i c m/\
   (ML l i μ (mf (mR f) (sC b (jy A f) c)) λe k μ'=>∀d,k d->vc P T G b A f e d λ
    | .normal,g,j=>Ru c g (jy A f) (Lz l i μ g j (μ' d))
    |h,g,j=>Q h g j)else False
 | .exit id,c,m,Q=>Q (.exit id) c m
 | .ret,c,m,Q=>Q .ret c m
 |_,_,_,_=>False
def kV.mono{b:List Nat}{c:Act}(h:kV M a c)(e:∀t∈M,t∈b):kV b a c:=λt f=>h t λd=>f (e t d)
def zi:∀(M:List Nat)(a:Fr)(t:Nat),(t∈M/\fP (mf M a) t=.hO)\/(t∉M/\fP (mf M a) t=fP a t)
 |[],_,_=>Or.inr ⟨E,rfl⟩
 |u::M,a,t=>by
  simp only[mf,fP];cases d:Nat.beq u t
  ·have f:u≠t:=λe=>by subst e;simp at d
   rcases zi M a t with⟨b,c⟩|⟨b,c⟩
   ·exact Or.inl ⟨ai _ b,c⟩
   ·exact Or.inr ⟨by simp only[aS,tA];exact⟨λe=>f e.symm,b⟩,c⟩
  ·have:=be d;subst this;exact Or.inl ⟨ba,rfl⟩
def xG{d:Fr}{c:Act}(g:jr b d a)(k:c.tmps.size=b)(i:c.defers=[])(j:kV M a c):jr b (mf M d) c:=by
 refine⟨k,i,λt=>?_⟩;rcases zi M d t with⟨_,h⟩|⟨e,f⟩
 ·rw[h];trivial
 ·rw[f,j t e];exact g.u t
def jr.mf{c:Fr}{a:Act}(d:jr b c a):∀(M:List Nat),jr b (mf M c) a
 |[]=>d
 |t::M=>(jr.mf d M).hO t
def Bx.mf{a:Fr}{m:I}(h:Bx b a m):∀(M:List Nat),Bx b (mf M a) m
 |[]=>h
 |t::M=>(Bx.mf h M).hO E
def KI{K:List Nat}{q:Nat}(d:b<=q)(c:q∉K):∀{a:Fr},q∈AG b K a\/fP a q=.hO
 |[]=>Or.inr rfl
 |(u,x)::r=>by
  simp only[AG,fP];cases i:Nat.beq u q
  ·rcases KI d c (a:=r)with h|h
   ·left;cases(Nat.ble b u&&!tc u K)
    ·exact h
    ·exact ai _ h
   ·exact Or.inr h
  ·have:=be i;subst this;have f:tc u K=false:=by
    cases g:tc u K
    ·rfl
    ·exact absurd (ER g) c
   have e:Nat.ble b u=true:=UU d;simp[f,e]
def Ix{b c:Fr}:∀{K:List Nat}{k:Prop},Ru b c K k->(∀q∈K,fP c q=fP b q)/\k
 |[],k,h=>⟨E,h⟩
 |q::K,k,h=>by
  obtain⟨d,e⟩:=Ix h.2;refine⟨λu a=>?_,e⟩;rcases List.mem_cons.1 a with rfl|a
  ·exact h.1
  ·exact d u a
def Bx.jy{K:List Nat}{c j:Fr}{v p:I}(h:Bx b c v)(r:Bx b j p)(s:∀q∈K,fP j q=fP c q):Bx b (Vc.mf M (sC b K c)) p:=by
 have i:∀{q d e l},km (Vc.mf M (sC b K c)) q d e l->km c q d e l/\km j q d e l:=by
  intro q d e l a;have f:fP (Vc.mf M (sC b K c)) q=fP (sC b K c) q\/fP (Vc.mf M (sC b K c)) q=.hO:=by
   rcases zi M (sC b K c) q with⟨_,h⟩|⟨_,h⟩
   ·exact Or.inr h
   ·exact Or.inl h
  unfold km at a;rcases f with f|f
  ·rw[f]at a;unfold sC at a;rcases zi (AG b K c) c q with⟨_,g⟩|⟨k,g⟩
   ·rw[g]at a;simp at a
   ·rw[g]at a;have t:b<=q:=h.key q d e l a;by_cases o:q∈K
    ·refine⟨a,?_⟩;unfold km;rw[s q o];exact a
    ·rcases KI (b:=b) t o (a:=c)with m|m
     ·exact absurd m k
     ·rw[m]at a;simp at a
  ·rw[f]at a;simp at a
 exact⟨λq d e l a=>r.F q d e l (i a).2,λq w d e l m o u t k g=>h.LF q w d e l m o u t (i k).1 (i g).1,λq d e l a=>h.key q d e l (i a).1⟩
def PN{x:SV}(h:Oj s x=some y):x.iP=true/\x.v=(s.mk y).v:=by
 unfold Oj at h;split at h<;>first|(simp at h;subst h;exact⟨rfl,rfl⟩)|skip
 ·split at h
  ·rename_i a;subst a;simp at h;subst h;exact⟨rfl,rfl⟩
  ·simp at h
 ·simp at h
def Jh{d cG:Fr}{t:Nat}(g:jr b d a)(c:jr b cG a)(h:Oj s (fP d t)=some y):jr b ((t,.c (s.mk y))::cG) a:=by
 refine⟨c.size,c.defers,λu=>?_⟩;simp only[fP];cases i:Nat.beq t u
 ·exact c.u u
 ·have:=be i;subst this;have e:=g.u t;obtain⟨j,k⟩:=PN h;have f:=e.eq j;show _=_;rw[f,k];rfl
def Qg:(l:List (Nat×Sh))->EA l->Lq l->Fr->Fr->(I->Prop)->(I->Nat)->Prop
 |[],a,μ,c,d,b,μ'=>d=c/\b=a/\μ'=μ
 |(t,s)::r,a,μ,c,d,b,μ'=>∃x:s.ty,Qg r (a x) (μ x) ((t,.c (s.mk x))::c) d b μ'
def KE:∀{l:List (Nat×Sh)}{b:EA l}{μ:Lq l}{c:Fr}{k:Fr->(I->Prop)->(I->Nat)->Prop},ML l b μ c k->∀{fr' I' μ'},Qg l b μ c fr' I' μ'->k fr' I' μ'
 |[],_,_,_,_,h,_,_,_,a=>by obtain⟨rfl,rfl,rfl⟩:=a;exact h
 |(t,s)::r,_,_,_,_,h,_,_,_,a=>by obtain⟨x,a⟩:=a;exact KE (h x) a
def Sh.QX(s:Sh)(x:s.ty)(b e:Nat)(l:List Ce):SV.c (s.mk x)≠.box b e l/\SV.c (s.mk x)≠.wZ b e l:=⟨E,E⟩
def KH{a:Act}{i:Fr}(j:jr b i a):∀{l:List (Nat×Sh)}{c:EA l}{μ:Lq l}{cG:Fr}{m:I}{N:Nat},jr b cG a->Bx b cG m->Lz l c μ i m N->
 ∃d e μ',Qg l c μ cG d e μ'/\jr b d a/\Bx b d m/\e m/\μ' m<N
 |[],c,μ,cG,_,_,g,f,h=>⟨cG,c,μ,⟨rfl,rfl,rfl⟩,g,f,h.1,h.2⟩
 |(t,s)::r,c,μ,cG,m,N,g,f,h=>by
  simp only[Lz]at h;split at h
  ·rename_i x q;obtain⟨d,e,μ',k,n,o,p⟩:=KH j (Jh j g q) (f.hO (s.QX x)) h;exact⟨d,e,μ',⟨x,k⟩,n,o,p⟩
  ·exact h.elim
def KG{a:Act}{i:Fr}(j:jr b i a):∀{l:List (Nat×Sh)}{c:EA l}{μ:Lq l}{cG:Fr}{m:I},jr b cG a->Bx b cG m->EE l c i m->
 ∃d e μ',Qg l c μ cG d e μ'/\jr b d a/\Bx b d m/\e m
 |[],c,μ,cG,_,g,f,h=>⟨cG,c,μ,⟨rfl,rfl,rfl⟩,g,f,h⟩
 |(t,s)::r,c,μ,cG,m,g,f,h=>by
  simp only[EE]at h;split at h
  ·rename_i x p;obtain⟨d,e,μ',k,n,o⟩:=KG j (Jh j g p) (f.hO (s.QX x)) h;exact⟨d,e,μ',⟨x,k⟩,n,o⟩
  ·exact h.elim
def MO{a:Act}{j:Fr}(n:jr b j a):∀{l:List (Nat×Sh)}{c:EA l}{cG:Fr}{m:I}{k:Fr->(I->Prop)->Prop},jr b cG a->Bx b cG m->EE l c j m->MK l c cG k->
 ∃d i,k d i/\jr b d a/\Bx b d m/\i m
 |[],c,cG,_,_,f,e,h,g=>⟨cG,c,g,f,e,h⟩
 |(t,s)::r,c,cG,m,k,f,e,h,g=>by
  simp only[EE]at h;split at h
  ·rename_i x o;exact MO n (Jh n f o) (e.hO (s.QX x)) h (g x)
  ·exact h.elim
def P4{l:Code}{Q:Exit->Act->World->Prop}(b:Nat->Act->World->Prop)
 (r:∀N a w,b N a w->l.wp P (Exit.then (λg k=>∃d,d<N/\b d g k) Q) a w):∀N a w,b N a w->(Code.loop l).wp P Q a w:=by
 have q:∀N a w,b N a w->∃M,b M a w/\∀c,c<M->¬b c a w:=by
  intro N;induction N using Nat.strongRecOn with
  |_ N j=>
   intro a w h;by_cases e:∃c,c<N/\b c a w
   ·obtain⟨c,f,i⟩:=e;exact j c f a w i
   ·exact⟨N,h,λc i f=>e ⟨c,i,f⟩⟩
 intro N a w o
 classical
 let μ:Act->World->Nat:=λa w=>if h:∃M,b M a w/\∀c,c<M->¬b c a w then Classical.choose h else 0
 have hμ:∀a w N,b N a w->b (μ a w) a w/\μ a w<=N:=by
  intro a w N h;have e:=q N a w h;have i:μ a w=Classical.choose e:=Qa e;have n:=eN e;rw[i];refine⟨n.1,?_⟩;rcases aV N (Classical.choose e)with j|p
  ·exact absurd h (n.2 N j)
  ·exact p
 refine wp_loop (λa w=>∃N,b N a w) μ ⟨N,o⟩ ?_
 rintro a w ⟨N,h⟩
 refine Code.wp_mono ?_ (r (μ a w) a w (hμ a w N h).1)
 intro i g k m
 cases i with
 |normal=>
  obtain⟨d,j,f⟩:=m
  exact⟨⟨d,f⟩,mj (hμ g k d f).2 j⟩
 |_=>exact m
end Go.Vc
end
section
namespace Go.Vc
variable{i w:World}{j p:List Nat}{l a:Act}{f:Exit->Fr->I->Prop}{e:Exit}{b:I}
variable{g:Program}{h:TT}{G:List Nat}{d:Nat}{o:Mu}
def ju(d:Nat)(i:World)(j:List Nat)(l:Act)(f:Exit->Fr->I->Prop):Exit->Act->World->Prop
 | .panic _,_,_=>False
 | .outgrown,_,_=>False
 |e,a,w=>∃b,jr d b a/\Bx d b w.heap/\nF i w/\kV j l a/\f e b w.heap
def ju.mk{b:Fr}(g:(∀c,e≠.panic c)/\e≠.outgrown)
 (k:jr d b a)(h:Bx d b w.heap)(o:nF i w)(m:kV j l a)(n:f e b w.heap):ju d i j l f e a w:=by
 cases e with
 |panic c=>exact absurd rfl (g.1 c)
 |outgrown=>exact absurd rfl g.2
 |_=>exact⟨b,k,h,o,m,n⟩
def ju.bo(h:ju d i j l f e a w):
 ((∀c,e≠.panic c)/\e≠.outgrown)/\∃b,jr d b a/\Bx d b w.heap/\nF i w/\kV j l a/\f e b w.heap:=by
 cases e with
 |panic c=>exact h.elim
 |outgrown=>exact h.elim
 |_=>exact⟨⟨E,E⟩,h⟩
def ju.left(h:ju d i j l f e a w):ju d i (j++p) l f e a w:=by
 obtain⟨g,q,c,b,n,k,m⟩:=h.bo;exact ju.mk g c b n (k.mono (λt o=>bB _ o)) m
def ju.right(h:ju d i j l f e a w):ju d i (p++j) l f e a w:=by
 obtain⟨g,q,c,b,n,k,m⟩:=h.bo;exact ju.mk g c b n (k.mono (λt o=>dE _ o)) m
def PW{f:Fr}{e:Op}{x:SV}{k:SV->Prop}(c:Ja f e=some x)(d:k x):IQ e=false/\rd h f b k e:=by
 unfold Ja at c;split at c
 ·split at c
  ·simp at c
  ·simp at c;subst c;exact⟨rfl,d⟩
 ·split at c
  ·simp at c
  ·simp at c;subst c;exact⟨rfl,d⟩
 ·rename_i o t y z l;split at c
  ·rename_i a j g i;refine⟨rfl,?_⟩;simp only[rd,g,i];split at c<;>simp at c<;>subst c<;>exact d
  ·simp at c
 ·simp at c
def Bw(j:List Oper){b:I}{i:Fr->I->Prop}:∀{p:List Oper}{c e:Fr},pp d p c=some e->i e b->qu g h G d j p c b i
 |[],c,e,a,f=>by simp[pp]at a;subst a;exact f
 |o::t,c,e,a,f=>by
  simp only[pp]at a;simp only[qu];cases l:qd d o.dst
  ·rw[l]at a;simp at a
  ·rw[l]at a;simp only[iL]at a⊢;cases n:o.guard with
   |some q=>rw[n]at a;simp at a
   |none=>
    rw[n]at a;simp only[gd]at a⊢;split at a
    ·rename_i x s;obtain⟨q,r⟩:=PW (h:=h) (b:=b) (k:=λx=>qu g h G d j t (rU c o.dst x) b i) s (Bw j a f);rw[q];exact r
    ·simp at a
def Q2(p:Nat){b:I}{f:Exit->Fr->I->Prop}:∀(k:Code)(n:Fr)(y:Bool),Tb o d p k n=some y->(∀i,jW (fP i p)=some y->f .normal i b)->vc g h G d o k n b f
 | .region id A e,n,y,a,m=>by
  cases e
  ·simp only[Tb]at a;simp only[vc,kZ];split at a
   ·rename_i i q;exact Bw _ q (m i a)
   ·simp at a
  ·simp[Tb]at a
 | .seq (.region id A false) (.cond (.tmp u) .skip k),n,y,a,m=>by
  simp only[Tb]at a;split at a
  ·simp at a
  ·rename_i w;cases l:(Nat.beq u p&&tc p (mR k))
   ·rw[l]at a;simp at a
   ·rw[l]at a;simp only[iL]at a;simp only[bC]at l;have z:=be l.1;subst z;split at a
    ·rename_i i q;split at a
     ·rename_i C B e r;simp at a;subst a;rw[vc,w];simp only;rw[vc];simp only[kZ];refine Bw _ q ?_;rw[vc];have x:ev i (.tmp u)=(fP i u).nb:=rfl;rw[x];cases j:fP i u with
      |tt=>
       rw[j]at e;simp[jW]at e;subst e;simp only[SV.nb,vc];exact m i (by rw[j];simp[jW])
      |ff=>
       rw[j]at e;simp[jW]at e;subst e;simp only[SV.nb];exact Q2 u k i B r (λs v=>m s (by simpa using v))
      |c s=>
       cases s with
       |t v=>
        rw[j]at e;simp[jW]at e;subst e;simp only[SV.nb,VG,l.2,iL,r];exact m _ (by simp[fP,jW])
       |_=>rw[j]at e;simp[jW]at e
      |_=>rw[j]at e;simp[jW]at e
     ·simp at a
    ·simp at a
def Rh(hT:sA g h)(hG:RC g G)(av:g.follows .mixedOrders=true)(i:World):∀(F:Code),oH F=true->∀(l:Fr)(b:I)(f:Exit->Fr->I->Prop)(a:Act)(w:World),
 vc g h G d o F l b f->jr d l a->Bx d l b->w.heap=b->nF i w->F.wp g (ju d i (mR F) a f) a w:=by
 intro F
 induction F with
 |skip=>
  intro u l b f a w c k s y t
  subst y
  exact wp_skip ⟨l,k,s,t,kV.aC _ _,c⟩
 |region id p B=>
  intro u l b f a w c k s y t
  simp only[vc]at c
  cases B
  ·simp only[kZ]at c
   refine wp_region_list ?_
   exact sV hT hG p p.toList l b (f .normal) a w (λ_ c=>c) c k s y t (kV.aC _ _) λC K V j r x v q=>⟨C,r,x,v,q,j⟩
  ·simp only[iL]at c
   simp only[oH,Lg,Sr,bC]at u
   refine wp_region_any av (JQ (e:=λz D=>Nat.testBit (rV (Qs [] p.toList) z) D) (L:=[]) _ _ _ _ ?_)
   have H:p.toList.length=p.size:=E
   rw[H]at c
   refine Mq hT hG p _ _ u.1 u.2 (λF a w hx=>hx) (w0:=i) (a0:=a) p.size 0 l b [] (f .normal) [] _ a _ c (λD hx=>by cases hx) ⟨E,λz=>by simp[Sq];split<;>rfl⟩ (λz hi=>by simp[Sq]at hi;split at hi<;>simp at hi) k s y ⟨t.os,t.tape,t.output⟩ (kV.aC _ _) λC K V j r x v q=>⟨C,r,x,v,q,j⟩
 |seq D W ad Z=>
  intro u l b f a w c k s y t
  simp only[vc]at c
  simp only[oH,bC]at u
  refine wp_seq ?_
  split at c
  ·refine Code.wp_mono ?_ (ad u.1 l b _ a w c k s y t)
   intro e K V j
   obtain⟨p,C,r,x,v,B,j⟩:=j.bo
   cases e with
   |normal=>
    refine Code.wp_mono ?_ (Z u.2 C _ f K V j r x rfl v)
    intro e U ab j
    obtain⟨p,X,N,H,S,O,j⟩:=j.bo
    exact ju.mk p N H S ((B.mono (λJ q=>bB _ q)).trans (O.mono (λJ q=>dE _ q))) j
   |panic F=>exact absurd rfl (p.1 F)
   |outgrown=>exact absurd rfl p.2
   |exit z=>exact ju.mk (e:=.exit z) p r x v (B.mono (λJ q=>bB _ q)) j
   |goto z=>exact ju.mk (e:=.goto z) p r x v (B.mono (λJ q=>bB _ q)) j
   |ret=>exact ju.mk (e:=.ret) p r x v (B.mono (λJ q=>bB _ q)) j
  ·rename_i R hl
   cases ac:nY (mR D) R
   ·rw[ac]at c;exact c.elim
   rw[ac]at c
   obtain⟨af,h1,Y⟩:=c
   refine Code.wp_mono ?_ (ad u.1 l b _ a w h1 k s y t)
   intro e K V j
   obtain⟨p,C,r,x,v,B,j⟩:=j.bo
   cases e with
   |normal=>
    obtain⟨ag,j⟩:=Ix j
    obtain⟨ah,K',h3,h4,aa,h5⟩:=MO r (xG (k.mf _) r.size r.defers B) (Bx.jy s x ag) j Y
    refine Code.wp_mono ?_ (Z u.2 ah _ f K V (h3 _ h5) h4 aa rfl v)
    intro e U ab j
    obtain⟨p,X,N,H,S,O,j⟩:=j.bo
    exact ju.mk p N H S ((B.mono (λJ q=>bB _ q)).trans (O.mono (λJ q=>dE _ q))) j
   |panic F=>exact absurd rfl (p.1 F)
   |outgrown=>exact absurd rfl p.2
   |exit z=>exact ju.mk (e:=.exit z) p r x v (B.mono (λJ q=>bB _ q)) j
   |goto z=>exact ju.mk (e:=.goto z) p r x v (B.mono (λJ q=>bB _ q)) j
   |ret=>exact ju.mk (e:=.ret) p r x v (B.mono (λJ q=>bB _ q)) j
 |cond af D W ad Z=>
  intro u l b f a w c k s y t
  simp only[vc]at c
  simp only[oH,bC]at u
  have ak:∀{O:Bool},a.eval af=.bool O->jr d (sK l af (if O then .tt else .ff)) a:=by
   intro O H;unfold sK;split
   ·rename_i J;refine⟨k.size,k.defers,λU=>?_⟩;simp only[fP];cases aa:Nat.beq J U
    ·exact k.u U
    ·have:=be aa;subst this;cases O<;>exact H
   ·exact k
  have al:∀{D:SV},(∀O e R,D≠.box O e R/\D≠.wZ O e R)->Bx d (sK l af D) b:=by
   intro D hx;unfold sK;split
   ·exact s.hO hx
   ·exact s
  split at c
  ·rename_i hc
   exact wp_cond_true (k.eq hc rfl) (Code.wp_mono (λ_ _ _ c=>c.left) (ad u.1 l b f a w c k s y t))
  ·rename_i hc
   exact wp_cond_false (k.eq hc rfl) (Code.wp_mono (λ_ _ _ c=>c.right) (Z u.2 l b f a w c k s y t))
  ·rename_i O hc
   have ab:a.eval af=.bool O:=k.eq hc rfl
   split at c
   ·rename_i J y' N
    unfold VG at N
    split at N
    ·rename_i S
     cases aj:tc S (mR W)
     ·rw[aj]at N;simp at N
     ·rw[aj]at N
      simp only[iL]at N
      split at N
      ·rename_i y0 ao
       simp at N
       obtain⟨rfl,rfl⟩:=N
       have an:a.tmps.getD S undef=.bool O:=ab
       refine wp_cond_split ab (λq=>?_) (λq=>?_)
       ·subst y
        subst q
        refine wp_skip (ju.mk (e:=.normal) (b:=(S,.c (.t (true||y0)))::mf (mR W) l) ⟨E,E⟩ ?_ ((s.mf _).hO E) t (kV.aC _ _) c)
        have H:=xG (M:=mR W) k k.size k.defers (kV.aC _ a)
        refine⟨H.size,H.defers,λU=>?_⟩
        simp only[fP]
        cases aa:Nat.beq S U
        ·exact H.u U
        ·have:=be aa
         subst this
         simpa[SV.Is,SV.v,Ce.v]using an
       ·subst q
        have hv:=Q2 (g:=g) (h:=h) (G:=G) (o:=o) (d:=d) S (b:=b) (f:=λe C X=>e=.normal/\X=b/\jW (fP C S)=some y0) W l y0 ao (λC X=>⟨rfl,rfl,X⟩)
        refine Code.wp_mono ?_ (Z u.2 l b _ a w hv k s y t)
        intro e K V j
        obtain⟨p,C,r,x,v,B,rfl,ai,am⟩:=j.bo
        refine ju.mk (e:=.normal) (b:=(S,.c (.t (false||y0)))::mf (mR W) l) p ?_ (by rw[ai];exact(s.mf _).hO E) v (B.mono (λJ q=>dE _ q)) (by rw[ai];exact c)
        have H:=xG (M:=mR W) k r.size r.defers B
        refine⟨H.size,H.defers,λU=>?_⟩
        simp only[fP]
        cases aa:Nat.beq S U
        ·exact H.u U
        ·have:=be aa
         subst this
         obtain⟨X,Y⟩:=uD am
         have h3:=(r.u S).eq X
         rw[Y]at h3
         simpa[SV.Is,SV.v,Ce.v]using h3
      ·simp at N
    ·simp at N
   ·refine wp_cond_split ab (λq=>?_) (λq=>?_)
    ·subst q
     exact Code.wp_mono (λ_ _ _ c=>c.left) (ad u.1 _ b f a w (c.1 rfl) (ak ab) (al E) y t)
    ·subst q
     exact Code.wp_mono (λ_ _ _ c=>c.right) (Z u.2 _ b f a w (c.2 rfl) (ak ab) (al E) y t)
  ·exact c.elim
 |block id D N=>
  intro u l b f a w c k s y t
  simp only[vc]at c
  refine wp_block (Code.wp_mono ?_ (N u l b _ a w c k s y t))
  intro e K V j
  obtain⟨p,C,r,x,v,B,j⟩:=j.bo
  cases e with
  |exit z=>
   simp only[Exit.inBlock]
   simp only at j
   cases H:Nat.beq z id
   ·rw[H]at j
    have q:z≠id:=λe=>by subst e;simp at H
    rw[ae q]
    exact ju.mk (e:=.exit z) p r x v B j
   ·rw[H]at j
    rw[aq (be H)]
    exact ju.mk (e:=.normal) ⟨E,E⟩ r x v B j
  |normal=>exact ju.mk (e:=.normal) p r x v B j
  |panic F=>exact absurd rfl (p.1 F)
  |outgrown=>exact absurd rfl p.2
  |goto z=>exact ju.mk (e:=.goto z) p r x v B j
  |ret=>exact ju.mk (e:=.ret) p r x v B j
 |loop D N=>
  intro u l b f a w c k s y t
  subst y
  simp only[vc]at c
  split at c
  ·exact c.elim
  ·rename_i R hl
   cases ac:nY (mR D) R
   ·rw[ac]at c;exact c.elim
   rw[ac]at c
   obtain⟨S,μ,h0,h1⟩:=c
   let aa:Nat->Act->World->Prop:=λO K w=>∃C J μ',Qg R S μ (mf (mR D) (sC d (jy o D) l)) C J μ'/\jr d C K/\Bx d C w.heap/\J w.heap/\μ' w.heap=O/\nF i w/\kV (mR D) a K
   obtain⟨ab,U,μ1,ap,am,af,ak⟩:=KG (μ:=μ) k (xG (k.mf _) k.size k.defers (kV.aC (mR D) a)) (Bx.jy s s (λ_ _=>rfl)) h0
   refine P4 aa ?_ (μ1 w.heap) a w ⟨ab,U,μ1,ap,am,af,ak,rfl,t,kV.aC _ _⟩
   rintro O a1 w ⟨C,J,μ',hi,r,x,aj,rfl,v,X⟩
   have ao:=KE h1 hi w.heap aj
   refine Code.wp_mono ?_ (N u C w.heap _ a1 w ao r x rfl v)
   intro e K V j
   obtain⟨p,ah,q,B,H,Y,j⟩:=j.bo
   cases e with
   |normal=>
    obtain⟨ag,j⟩:=Ix j
    obtain⟨ad,Z,μ3,ar,an,ai,al,au⟩:=KH q (xG (k.mf _) q.size q.defers (X.trans Y)) (Bx.jy s B ag) j
    exact⟨_,au,ad,Z,μ3,ar,an,ai,al,rfl,H,X.trans Y⟩
   |panic F=>exact absurd rfl (p.1 F)
   |outgrown=>exact absurd rfl p.2
   |exit z=>exact ju.mk (e:=.exit z) p q B H (X.trans Y) j
   |goto z=>exact ju.mk (e:=.goto z) p q B H (X.trans Y) j
   |ret=>exact ju.mk (e:=.ret) p q B H (X.trans Y) j
 |exit id=>
  intro u l b f a w c k s y t
  subst y
  exact wp_exit ⟨l,k,s,t,kV.aC _ _,c⟩
 |ret=>
  intro u l b f a w c k s y t
  subst y
  exact wp_ret ⟨l,k,s,t,kV.aC _ _,c⟩
 |rangeFunc j k D W _ _=>intro _ l b f a w c;exact c.elim
 |scope D _=>intro _ l b f a w c;exact c.elim
 |label R=>intro _ l b f a w c;exact c.elim
 |goto R=>intro _ l b f a w c;exact c.elim
 |refuse s=>intro _ l b f a w c;exact c.elim
def sB:Nat->List SV->Fr
 |_,[]=>[]
 |i,x::r=>(i,x)::sB (i+1) r
def Ds(h:TT)(a:Fr)(b:I):List ResultVar->(List SV->Prop)->Prop
 |[],k=>k []
 | .tmp t::r,k=>bif (fP a t).iP then Ds h a b r λl=>k (fP a t::l)else False
 | .cell p t::r,k=>rd h a b (λx=>bif x.iP then Ds h a b r λl=>k (x::l)else False) (.load t (.tmp p))
def Uv(h:TT)(c:List ResultVar)(a:Fr)(b:I)(R:Value->I->Prop):Prop:=
 Ds h a b c λ
  |[x]=>R x.v b
  |l=>R (.tuple (l.map SV.v).toArray) b
def P3(g:Program)(h:TT)(G:List Nat)(o:Mu)(d:Nat)(c:List ResultVar)(f:Code)(e:List SV)(b:I)(R:Value->I->Prop):Prop:=
 vc g h G d o f (sB 0 e) b λ
  | .normal,a,b=>Uv h c a b R
  | .ret,a,b=>Uv h c a b R
  |_,_,_=>False
def EF:∀(a:List SV)(i t:Nat),(t<i/\fP (sB i a) t=.hO)\/(i<=t/\fP (sB i a) t=a.getD (t -i) .hO)
 |[],i,t=>by
  rcases aV t i with h|h
  ·exact Or.inl ⟨h,rfl⟩
  ·exact Or.inr ⟨h,by simp[sB,fP]⟩
 |x::r,i,t=>by
  simp only[sB,fP];cases c:Nat.beq i t
  ·have f:i≠t:=λe=>by subst e;simp at c
   rcases EF r (i+1) t with⟨d,b⟩|⟨d,b⟩
   ·exact Or.inl ⟨V,b⟩
   ·refine Or.inr ⟨V,?_⟩;have e:t -i=(t -(i+1))+1:=V;rw[e,List.getD_cons_succ];exact b
  ·have:=be c;subst this;exact Or.inr ⟨ad _,E⟩
def Ji(a:Array Value):ResultVar->Sem Value
 | .tmp t=>pure (a.getD t undef)
 | .cell p t=>do loadVar t (<-asAddr (a.getD p undef))
def OB(b:Func)(c:Array Value):results b c=(do
 let a<-b.results.mapM (Ji c)
 pure (if h:a.size=1 then a[0]else .tuple a)):=by
 unfold results
 congr 2
def Fb{i:Fr}{a:Act}(v:sA g h)(f:jr d i a):∀(D:List ResultVar)(k:List SV->Prop)(w:World),Bx d i w.heap->Ds h i w.heap D k->
 ∃p,k p/\(D.mapM (Ji a.tmps)).run g w=.ok (p.map SV.v) w
 |[],k,w,_,b=>⟨[],b,E⟩
 | .tmp t::A,k,w,j,b=>by
  simp only[Ds]at b;cases c:(fP i t).iP
  ·rw[c]at b;exact b.elim
  ·rw[c]at b;obtain⟨p,s,u⟩:=Fb v f A _ w j b;refine⟨_,s,?_⟩;have z:=(f.u t).eq c;have r:Ji a.tmps (.tmp t)=pure (a.tmps.getD t undef):=rfl;simp only[Rm,Sem.run_bind,Sem.run_pure,Result.andThen_ok,u,cg,z,r]
 | .cell q t::A,k,w,j,m=>by
  obtain⟨F,B,n,z,b⟩:=Jb (P:=g) v f j ⟨none,.load t (.tmp q),0,"",#[],none⟩ m;have b:=b w (λC _=>rfl);cases x:F.iP
  ·rw[x]at n;exact n.elim
  rw[x]at n;obtain⟨p,s,u⟩:=Fb v f A _ w j n;refine⟨_,s,?_⟩;have H:∃c o,a.tmps.getD q undef=.pointer (some ⟨c,o,none⟩):=by
   have l:=SV.QY (f.u q);simp only[Ds,rd,ev]at m;split at m
   ·rename_i c o y;rw[y]at l;exact⟨c,o,l⟩
   ·rename_i C c o y;rw[y]at l;exact⟨c,o,l⟩
   ·exact m.elim
  obtain⟨c,o,y⟩:=H;simp only[execOp,Instr.loadAt,Act.eval,y,Instr.sureAddr,Sem.run_bind,Sem.run_pure,Result.andThen_ok]at b;have G:(loadVar t ⟨c,o,none⟩).run g w=.ok B w:=by
   cases C:(loadVar t ⟨c,o,none⟩).run g w with
   |ok J I=>
    rw[C]at b;simp at b;rw[b.1,b.2]
   |halt e I=>rw[C]at b;simp at b
  have I:B=F.v:=z.eq x;have r:(Ji a.tmps (.cell q t)).run g w=.ok B w:=by
   simp only[Ji,y,Sem.run_bind,asAddr,Sem.run_pure,Result.andThen_ok,G]
  simp only[Rm,Sem.run_bind,Sem.run_pure,Result.andThen_ok,r,u,cg,I]
def CD(z:sA g h)(K:RC g G)(P:g.follows .mixedOrders=true){y:FuncId}{i:Func}{m:Code}{r:List ResultVar}{a:List SV}{R:Value->I->Prop}
 (O:g.funcs[y]? =some i)(M:i.body=some m)(Q:i.ntmps=d)(T:i.results=r.toArray)(A:a.all SV.iP=true)(Y:a.length<=d)(N:oH m=true)
 (j:P3 g h G o d r m a b R):aN g y (a.map SV.v) b R:=by
 intro w V
 refine calls_of_wp O M ?_
 have L:jr d (sB 0 a) {tmps:=(a.map SV.v).toArray++Array.replicate (i.ntmps -(a.map SV.v).toArray.size) undef,defers:=[]}:=by
  refine⟨by simp[Q];omega,rfl,λt=>?_⟩;rcases EF a 0 t with⟨n,_⟩|⟨_,p⟩
  ·omega
  ·rw[p,UD];rcases aV t a.length with k|s
   ·have u:(a[t]).iP=true:=List.all_eq_true.1 A _ (YZ k);have c:a.getD t .hO=a[t]:=by simp[k]
    rw[c];have f:((a.map SV.v).toArray++Array.replicate (i.ntmps -(a.map SV.v).toArray.size) undef).getD t undef=(a[t]).v:=by
     simp[Array.getElem?_append,k]
    rw[f];exact mr _
   ·have c:a.getD t .hO=.hO:=by simp[cb s]
    rw[c];trivial
 have v:∀{q x e l},¬km (sB 0 a) q x e l:=by
  intro q x e l f;rcases EF a 0 q with⟨n,_⟩|⟨_,p⟩
  ·omega
  ·unfold km at f;rw[p,UD]at f;rcases aV q a.length with k|s
   ·have u:(a[q]).iP=true:=List.all_eq_true.1 A _ (YZ k);have c:a.getD q .hO=a[q]:=by simp[k]
    rw[c]at f;rcases f with f|f<;>rw[f]at u<;>simp[SV.iP]at u
   ·have c:a.getD q .hO=.hO:=by simp[cb s]
    rw[c]at f;simp at f
 have H:Bx d (sB 0 a) b:=⟨λ_ _ _ _ j=>absurd j v,λ_ _ _ _ _ _ _ _ _ j=>absurd j v,λ_ _ _ _ j=>absurd j v⟩
 refine Code.wp_mono ?_ (Rh z K P w m N _ b _ _ w j L H V (nF.aC w))
 intro e s k c
 obtain⟨B,F,u,J,U,X,c⟩:=c.bo
 have C:∀(c:Uv h r F k.heap R),s.defers=[]/\∃D,(results i s.tmps).run g k=.ok D k/\∃E,Ending.returned D=.returned E/\nF w k/\R E k.heap:=by
  intro c;refine⟨u.defers,?_⟩;obtain⟨l,n,p⟩:=Fb z u r _ k J c;have S:(results i s.tmps).run g k=.ok (if j:(l.map SV.v).toArray.size=1 then(l.map SV.v).toArray[0]else .tuple (l.map SV.v).toArray) k:=by
   rw[OB,T,Rw];simp only[Sem.run_bind,Sem.run_map];rw[p];rfl
  refine⟨_,S,_,rfl,U,?_⟩;cases l with
  |nil=>exact n
  |cons W l=>cases l with
   |nil=>exact n
   |cons Z l=>exact n
 cases e with
 |normal=>exact C c
 |ret=>exact C c
 |exit W=>exact c.elim
 |goto W=>exact c.elim
 |panic m=>exact absurd rfl (B.1 m)
 |outgrown=>exact absurd rfl B.2
end Go.Vc
end
section
namespace Go.Vc
abbrev vi(n:Int):Value:=.int .i64 n
abbrev vb(b:Bool):Value:=.bool b
abbrev vp(b o:Nat):Value:=.pointer (some ⟨b,o,none⟩)
def NZ(f:Func):Code:=
 match f.body with
 |some c=>c
 |none=>.skip
end Go.Vc
end
section
namespace Go.Vc
variable{a m c d:I}{b o k f n:Nat}{v:Value}{l:List Nat}{s:O}{P:Program}{K e:Value->I->Prop}{p:Prop}
structure J(m c:I):Prop where
 size:m.size<=c.size
 same:∀b,b<m.size->c[b]? =m[b]?
def J.aC(m:I):J m m:=⟨ad _,λ_ _=>rfl⟩
def J.trans{a b c:I}(h:J a b)(k:J b c):J a c:=
 ⟨bJ h.size k.size,λi d=>(k.same i (aJ d h.size)).trans (h.same i d)⟩
def J.push(m:I)(o:Obj):J m (m.push o):=
 ⟨E,λb a=>by rw[vQ,ae V]⟩
def J.aM(h:J a m)(o:Obj):J a (m.push o):=h.trans (J.push m o)
def J.aj(h:J a m)(d:a.size<=b)(o:Nat)(l:List Ce):J a (aj m b o l):=
 ⟨by rw[az];exact h.size,λj c=>by rw[bh l m b o V];exact h.same j c⟩
def J.D(h:J m c)(a:D m b o=some v):D c b o=some v:=by
 rw[aI (h.same b (lC a))];exact a
def J.je(h:J m c){l:List Ce}(e:fQ m b o l):fQ c b o l:=λi a d=>h.D (e i a d)
def cB.ext(h:J m c){e:Nat}{l:List Ce}(a:cB m b e l):cB c b e l:=by
 unfold cB at*;rw[h.same b (Array.getElem?_eq_some_iff.1 a).1];exact a
structure dW{α:Type}(m:I)(sz:Nat)(R:List Ce->α->Prop)(s:O)(l:List α):Prop where
 len:s.len=l.length
 cap:s.len<=s.cap
 fL:s.len<=9223372036854775807
 je:∀(k:Nat)(x:α),l[k]? =some x->∃cs,R cs x/\fQ m s.F (s.off+k*sz) cs
def dW.mono{α:Type}{d:Nat}{R b:List Ce->α->Prop}{l:List α}(h:dW m d R s l)(j:J m c)(g:∀a x,R a x->b a x):dW c d b s l:=
 ⟨h.len,h.cap,h.fL,λk x i=>let⟨a,e,f⟩:=h.je k x i;⟨a,g _ _ e,j.je f⟩⟩
def RD(a:List Ce)(n:Int):Prop:=a=[.i n]
abbrev ar(m:I)(s:O)(l:List Int):Prop:=dW m 1 RD s l
def ar.u{l:List Int}(h:ar m s l){x:Int}(a:l[k]? =some x):D m s.F (s.off+k*1)=some (vi x):=by
 obtain⟨c,rfl,b⟩:=h.je k x a;exact b 0 (.i x) rfl
def ar.ext(a:J m c){l:List Int}(h:ar m s l):ar c s l:=h.mono a λ_ _ h=>h
def ag{α:Type}{l:List α}(h:k<l.length):∃x,l[k]? =some x:=⟨l[k],by simp[h]⟩
def ax{α:Type}{l:List α}{x:α}(h:l[k]? =some x):k<l.length:=(List.getElem?_eq_some_iff.1 h).1
def bH{α:Type}{l:List α}{x:α}(h:l[k]? =some x):l.take (k+1)=l.take k++[x]:=by
 rw[List.take_add_one,h];rfl
def bZ{α:Type}{l:List α}(h:l.length<=k):l.take k=l:=mh h
def GQ(P:Program)(f:Nat)(a:List Value)(m:I)(v:Value):Prop:=aN P f a m λb c=>b=v/\J m c
def aN.post{a:List Value}(h:aN P f a m K)(b:∀v c,K v c->e v c):aN P f a m e:=h.mono b
def GQ.then{a:List Value}(h:GQ P f a m v)(d:∀c,J m c->K v c):aN P f a m K:=
 h.mono λ_ _⟨b,e⟩=>b▸d _ e
def O.GM{t:O}:s.v=t.v<->s=t:=by
 refine⟨λh=>?_,λh=>h▸rfl⟩;cases s<;>cases t<;>simp_all [O.v]
def J.da(h:J m c)(d:∀b∈l,b<m.size):dV l m c:=λb a=>h.same b (d b a)
def J.lt(h:J m c)(a:b<m.size):b<c.size:=aJ a h.size
def J.dg(h:J m c)(a:Vc.D m b o=some v):Vc.D c b o=Vc.D m b o:=by rw[h.D a,a]
def jJ(h:k<n)(a:n<=9223372036854775807):cK ((k:Int)+1)=((k+1:Nat):Int):=by rw[aP V V];rfl
def AM(h:k<n):((n:Int) -((k+1:Nat):Int)).toNat<((n:Int) -(k:Int)).toNat:=V
def dO(j:n<=9223372036854775807){e:(Int->I->Prop)->(Int->I->Nat)->Int->I->Prop}(Q:Nat->I->Prop)(f:Q 0 m)
 (h:∀(k:Nat)(a:I)(b:Int->I->Prop)(μ:Int->I->Nat),k<=n->Q k a->
  (k<n->∀c,Q (k+1) c->b (cK ((k:Int)+1)) c/\μ (cK ((k:Int)+1)) c<μ k a)->e b μ k a):
 ∃(b:Int->I->Prop)(μ:Int->I->Nat),b 0 m/\∀i a,b i a->e b μ i a:=by
 refine⟨λi c=>∃k:Nat,i=k/\k<=n/\Q k c,λi _=>(n -i).toNat,⟨0,rfl,dH _,f⟩,?_⟩
 rintro i a ⟨k,rfl,g,l⟩
 refine h k a _ _ g l λd c o=>?_
 rw[jJ d j]
 exact⟨⟨k+1,rfl,d,o⟩,AM d⟩
def dC{σ:Type}(o:n<=9223372036854775807){g:σ}{f:(σ->Int->I->Prop)->(σ->Int->I->Nat)->σ->Int->I->Prop}(Q:Nat->σ->I->Prop)(j:Q 0 g m)
 (h:∀(k:Nat)(s:σ)(a:I)(b:σ->Int->I->Prop)(μ:σ->Int->I->Nat),k<=n->Q k s a->
  (k<n->∀d c,Q (k+1) d c->b d (cK ((k:Int)+1)) c/\μ d (cK ((k:Int)+1)) c<μ s k a)->f b μ s k a):
 ∃(b:σ->Int->I->Prop)(μ:σ->Int->I->Nat),b g 0 m/\∀s i a,b s i a->f b μ s i a:=by
 refine⟨λs i c=>∃k:Nat,i=k/\k<=n/\Q k s c,λ_ i _=>(n -i).toNat,⟨0,rfl,dH _,j⟩,?_⟩
 rintro s i a ⟨k,rfl,l,p⟩
 refine h k s a _ _ l p λe d c q=>?_
 rw[jJ e o]
 exact⟨⟨k+1,rfl,e,q⟩,AM e⟩
def dm(P:Program)(f:Nat)(a:List Value)(m:I)(p:Prop):Prop:=aN P f a m λv c=>∃b:Bool,v=.bool b/\(b=true<->p)/\J m c
def dm.then{a:List Value}(h:dm P f a m p)(g:∀(b:Bool) c,(b=true<->p)->J m c->K (.bool b) c):aN P f a m K:=
 h.mono λ_ _⟨b,e,d,i⟩=>e▸g b _ d i
def dm.aG{e:List Value}(i:dm P f e m p)(g:J d m)(q:∀b∈l,b<d.size)
 (o:∀(b:Bool) c,(b=true<->p)->J m c->J d c->K (.bool b) c):aN P f e m λv c=>dV l m c/\K v c:=
 i.mono λ_ _⟨b,n,j,a⟩=>⟨a.da λh k=>g.lt (q h k),n▸o b _ j a (g.trans a)⟩
def GQ.aG{e:List Value}(i:GQ P f e m v)(g:J d m)(o:∀b∈l,b<d.size)
 (n:∀c,J m c->J d c->K v c):aN P f e m λv c=>dV l m c/\K v c:=
 i.mono λ_ _⟨k,a⟩=>⟨a.da λh j=>g.lt (o h j),k▸n _ a (g.trans a)⟩
def aN.aG{a:List Value}(j:aN P f a m K)(o:J d m)(n:∀b∈l,b<d.size)
 (g:∀v c,K v c->J m c/\e v c):aN P f a m λv c=>dV l m c/\e v c:=
 j.mono λv c h=>⟨(g v c h).1.da λi k=>o.lt (n i k),(g v c h).2⟩
def fA{b:Bool}(h:b=true<->p)(d:J m c):∃a:Bool,Value.bool b=.bool a/\(a=true<->p)/\J m c:=⟨b,rfl,h,d⟩
def bX(h:¬p)(b:J m c):∃a:Bool,Value.bool false=.bool a/\(a=true<->p)/\J m c:=⟨false,rfl,by simp[h],b⟩
def iN(h:p)(b:J m c):∃a:Bool,Value.bool true=.bool a/\(a=true<->p)/\J m c:=⟨true,rfl,by simp[h],b⟩
def nb{b:Bool}(a:b=true<->p)(h:(!b)=true):¬p:=λc=>by simp[a.2 c]at h
def yb{b:Bool}(a:b=true<->p)(h:(!b)=false):p:=a.1 (by simpa using h)
def fb{b:Bool}(a:b=true<->p)(h:b=false):¬p:=λc=>by simp[a.2 c]at h
def bD{α:Type}{l:List α}{x:α}{p:α->Prop}(c:l[k]? =some x)(h:∀y∈l.take k,p y)(b:p x):∀y∈l.take (k+1),p y:=by
 rw[bH c];intro y a;rcases List.mem_append.1 a with a|a
 ·exact h y a
 ·simp at a;subst a;exact b
def cF{α:Type}{l:List α}{p:α->Prop}(a:l.length<=k)(h:∀y∈l.take k,p y):∀y∈l,p y:=by rw[<-bZ a];exact h
def au{α:Type}{l:List α}{x:α}(h:l[k]? =some x):x∈l:=ik h
end Go.Vc
end
section
namespace Go.Vc
variable{m:I}{s:O}{k:Nat}
structure bq where
 rR:Int
 to:Int
 cons:List (List Int)
structure Instr where
 op:Int
 dst:Int
 bL:Int
 bV:Int
 args:List Int
 dR:List Int
structure cY where
 params:List Int
 cW:List Int
 aR:Int
 av:Int
 cE:List Instr
structure cD where
 aT:List bq
 cA:List cY
def ly(m:I)(a:List Ce)(c:List Int):Prop:=∃f,a=[.s f]/\ar m f c
def gE(m:I)(a:List Ce)(d:bq):Prop:=∃f,a=[.i d.rR,.i d.to,.s f]/\dW m 1 (ly m) f d.cons
def dt(m:I)(b:List Ce)(x:Instr):Prop:=∃a j,b=[.i x.op,.i x.dst,.i x.bL,.i x.bV,.s a,.s j]/\ar m a x.args/\ar m j x.dR
def jU(m:I)(b:List Ce)(p:cY):Prop:=
 ∃a l c,b=[.s a,.s l,.i p.aR,.i p.av,.s c]/\ar m a p.params/\ar m l p.cW/\dW m 6 (dt m) c p.cE
abbrev nA(m:I)(s:O)(l:List (List Int)):Prop:=dW m 1 (ly m) s l
abbrev bR(m:I)(s:O)(l:List bq):Prop:=dW m 3 (gE m) s l
abbrev eB(m:I)(s:O)(l:List Instr):Prop:=dW m 6 (dt m) s l
abbrev gB(m:I)(s:O)(l:List cY):Prop:=dW m 5 (jU m) s l
structure eV(m:I)(d p:O)(im:cD):Prop where
 aT:bR m d im.aT
 cA:gB m p im.cA
def ly.ext{m b:I}(g:J m b)(a:List Ce)(c:List Int):ly m a c->ly b a c:=λ⟨f,d,e⟩=>⟨f,d,e.ext g⟩
def nA.ext{m b:I}(a:J m b){s:O}{l:List (List Int)}(h:nA m s l):nA b s l:=h.mono a (ly.ext a)
def gE.ext{m b:I}(g:J m b)(a:List Ce)(c:bq):gE m a c->gE b a c:=λ⟨f,d,e⟩=>⟨f,d,nA.ext g e⟩
def bR.ext{m b:I}(a:J m b){s:O}{l:List bq}(h:bR m s l):bR b s l:=h.mono a (gE.ext a)
def dt.ext{m d:I}(b:J m d)(a:List Ce)(c:Instr):dt m a c->dt d a c:=λ⟨e,j,f,g,h⟩=>⟨e,j,f,g.ext b,h.ext b⟩
def eB.ext{m b:I}(a:J m b){s:O}{l:List Instr}(h:eB m s l):eB b s l:=h.mono a (dt.ext a)
def jU.ext{m d:I}(a:J m d)(b:List Ce)(c:cY):jU m b c->jU d b c:=λ⟨e,l,c,f,g,h,i⟩=>⟨e,l,c,f,g.ext a,h.ext a,eB.ext a i⟩
def gB.ext{m b:I}(a:J m b){s:O}{l:List cY}(h:gB m s l):gB b s l:=h.mono a (jU.ext a)
def eV.ext{m c:I}(a:J m c){d p:O}{b:cD}(h:eV m d p b):eV c d p b:=⟨bR.ext a h.aT,gB.ext a h.cA⟩
def nA.u{l:List (List Int)}(h:nA m s l){x:List Int}(b:l[k]? =some x):
 ∃f,ar m f x/\D m s.F (s.off+k*1)=some (O.v f):=by
 obtain⟨d,⟨f,rfl,a⟩,c⟩:=h.je k x b
 exact⟨f,a,c 0 (.s f) rfl⟩
def bR.u{l:List bq}(h:bR m s l){x:bq}(c:l[k]? =some x):
 ∃f,nA m f x.cons/\D m s.F (s.off+k*3)=some (vi x.rR)/\D m s.F (s.off+k*3+1)=some (vi x.to)/\D m s.F (s.off+k*3+2)=some (O.v f):=by
 obtain⟨d,⟨f,rfl,b⟩,a⟩:=h.je k x c
 exact⟨f,b,a 0 (.i x.rR) rfl,a 1 (.i x.to) rfl,a 2 (.s f) rfl⟩
def eB.u{l:List Instr}(h:eB m s l){x:Instr}(e:l[k]? =some x):
 ∃b j,ar m b x.args/\ar m j x.dR/\D m s.F (s.off+k*6)=some (vi x.op)/\D m s.F (s.off+k*6+1)=some (vi x.dst)/\D m s.F (s.off+k*6+2)=some (vi x.bL)/\
  D m s.F (s.off+k*6+3)=some (vi x.bV)/\D m s.F (s.off+k*6+4)=some (O.v b)/\D m s.F (s.off+k*6+5)=some (O.v j):=by
 obtain⟨f,⟨b,j,rfl,c,d⟩,a⟩:=h.je k x e
 exact⟨b,j,c,d,a 0 (.i x.op) rfl,a 1 (.i x.dst) rfl,a 2 (.i x.bL) rfl,a 3 (.i x.bV) rfl,a 4 (.s b) rfl,a 5 (.s j) rfl⟩
def gB.u{l:List cY}(h:gB m s l){x:cY}(i:l[k]? =some x):
 ∃a b c,ar m a x.params/\ar m b x.cW/\eB m c x.cE/\D m s.F (s.off+k*5)=some (O.v a)/\D m s.F (s.off+k*5+1)=some (O.v b)/\D m s.F (s.off+k*5+2)=some (vi x.aR)/\
  D m s.F (s.off+k*5+3)=some (vi x.av)/\D m s.F (s.off+k*5+4)=some (O.v c):=by
 obtain⟨j,⟨a,b,c,rfl,e,f,g⟩,d⟩:=h.je k x i
 exact⟨a,b,c,e,f,g,d 0 (.s a) rfl,d 1 (.s b) rfl,d 2 (.i x.aR) rfl,d 3 (.i x.av) rfl,d 4 (.s c) rfl⟩
end Go.Vc
end
section
namespace Go.Vc
variable{h d:I}{g:Nat}{s:O}{a:List Ce}{f:List (List Ce)}
structure iO(h d:I)(g sz:Nat)(s:O)(a:List Ce):Prop where
 len:a.length=s.len*sz
 u:s=.nil\/∃b c tail,s=.mk b 0 s.len c/\h.size<=b/\cB d b g (a++tail)/\(a++tail).length=c*sz/\s.len<=c
def iO.nil(h d:I)(g a:Nat):iO h d g a .nil []:=⟨E,Or.inl rfl⟩
def iO.new(e:J h d)(g c:Nat)(a:List Ce)(k:Nat)(b:a.length=k*c):iO h (d.push (.cells (br a) g)) g c (.mk d.size 0 k k) a:=
 ⟨b,Or.inr ⟨d.size,k,[],rfl,e.size,by rw[fx];exact cB.push _ _ _,by simpa using b,ad _⟩⟩
def iO.congr{h d f:I}{g i:Nat}{s:O}{a:List Ce}(c:iO h d g i s a)(e:f[s.F]? =d[s.F]?):iO h f g i s a:=by
 refine⟨c.len,?_⟩;rcases c.u with b|⟨j,k,tail,b,h2,h3,h4,h5⟩
 ·exact Or.inl b
 ·refine Or.inr ⟨j,k,tail,b,h2,h3.congr ?_,h4,h5⟩;rw[b]at e;exact e
def iO.lt{h d:I}{g e:Nat}{s:O}{a:List Ce}(c:iO h d g e s a):s=.nil\/s.F<d.size:=by
 rcases c.u with b|⟨f,i,tail,b,h2,h3,h4,h5⟩
 ·exact Or.inl b
 ·rw[b];exact Or.inr h3.lt
def iO.ext{e:I}{f:Nat}(b:iO h d g f s a)(i:J d e):iO h e g f s a:=by
 rcases b.lt with c|c
 ·subst c;exact⟨b.len,Or.inl rfl⟩
 ·exact b.congr (i.same _ c)
def iO.cG{e:I}{f:Nat}(c:iO e d g f s a)(k:h.size<=e.size):iO h d g f s a:=by
 refine⟨c.len,?_⟩;rcases c.u with b|⟨i,j,tail,b,h2,h3,h4,h5⟩
 ·exact Or.inl b
 ·exact Or.inr ⟨i,j,tail,b,bJ k h2,h3,h4,h5⟩
def iO.F{e:Nat}(c:iO h d g e s a):s=.nil\/h.size<=s.F:=by
 rcases c.u with b|⟨f,i,tail,b,h2,h3,h4,h5⟩
 ·exact Or.inl b
 ·rw[b];exact Or.inr h2
def fQ.My{b o:Nat}{r:List Ce}(h:fQ d b o (a++r)):fQ d b o a:=λi e c=>h i e (by rw[aw (ax c)];exact c)
def iO.je{h d:I}{g i:Nat}{s:O}{a:List Ce}(c:iO h d g i s a):fQ d s.F s.off a:=by
 rcases c.u with b|⟨j,e,tail,b,h2,h3,h4,h5⟩
 ·have:a=[]:=List.length_eq_zero_iff.1 (by rw[c.len,b];simp);subst this;intro k e f;simp at f
 ·rw[b];exact h3.je.My
def zr(a b tail:List Ce)(h:b.length<=tail.length):iE (a++tail) a.length b=a++b++tail.drop b.length:=by
 apply fI;intro i;rw[tW];simp only[a9];by_cases c:a.length<=i/\i<a.length+b.length/\i<a.length+tail.length
 ·rw[aq c,eH,aF c.1,aw V]
 ·rw[ae c];by_cases d:i<a.length
  ·rw[aw d,eH,aw d]
  ·rw[aF V,eH,aF V,aF V,qb];congr 1;omega
def iO.append{zs:List Ce}{v:Nat}{x:O}{f:List Ce}{K:O->I->Prop}(k:iO h d g zs.length s a)(p:J h d)
 (q:f.length=x.len*zs.length)(F:fQ d x.F x.off f)(t:(s.len+x.len)*v<=140737488355328)
 (u:∀l n,iO h n g zs.length l (a++f)->J h n->l.len=s.len+x.len->d.size<=n.size->(∀c,c<d.size->(s≠.nil->c≠s.F)->n[c]? =d[c]?)->((s=.nil/\l=.nil)\/(s≠.nil/\l.F=s.F/\l≠.nil)\/l.F=d.size)->K l n):
 iS d g zs v s x K:=by
 refine⟨f,q,F,λC=>?_,λL=>⟨t,a,k.len,k.je,λj y=>?_⟩⟩
 ·rcases k.u with i|⟨c,j,tail,i,h2,h3,h4,h5⟩
  ·subst i
   have w:x.len=0:=by simpa using C
   have A:f=[]:=List.length_eq_zero_iff.1 (by rw[q,w];simp)
   subst A
   refine⟨λB z=>by simp at z,?_⟩
   exact u .nil _ ⟨by rw[fx];exact k.len,Or.inl rfl⟩ (by simpa[aj]using p) (by simp[w]) (rP (az _ _ _ _).symm) (λc t _=>by simp[aj]) (Or.inl ⟨rfl,rfl⟩)
  ·have z:=k.len
   have H:s.cap=j:=by rw[i];rfl
   rw[i]
   simp only[O.iT,O.lY,O.fj,bN]
   simp only[a9]at h4
   have B:f.length<=tail.length:=by
    have A:(s.len+x.len)*zs.length<=j*zs.length:=cZ _ V;rw[fC]at A;omega
   refine⟨h3.fm (by simp only[a9];omega),?_⟩
   have w:=cB.aj (m:=d) (b:=c) (e:=g) (r:=f) (o:=s.len*zs.length) h3
   rw[<-z,zr a f tail B]at w
   refine u _ _ ⟨?_,Or.inr ⟨c,j,tail.drop f.length,rfl,h2,?_,?_,?_⟩⟩ (p.aj h2 _ _) E (rP (az _ _ _ _).symm) (λG _ D=>bh _ _ _ _ ?_) (Or.inr (Or.inl ⟨by rw[i];simp,by rw[i];rfl,E⟩))
   ·simp only[a9,O.fj,fC];omega
   ·rw[<-z];exact w
   ·simp only[a9,Y0];omega
   ·simp only[O.fj];omega
   ·have:=D (by rw[i];simp)
    rw[i]at this;exact this
 ·refine u _ _ ⟨?_,Or.inr ⟨d.size,j,lU zs (j -(s.len+x.len)),rfl,p.size,cB.push _ _ _,?_,by simpa using y⟩⟩ (p.aM _) E E (λc t _=>by rw[vQ,ae V]) (Or.inr (Or.inr rfl))
  ·simp only[a9,O.fj,fC,k.len,q]
  ·simp only[a9,pK,k.len,q]
   rw[Nat.sub_mul,<-fC]
   have:(s.len+x.len)*zs.length<=j*zs.length:=cZ _ y
   omega
def ar.ij{a:List Int}(b:iO h d g 1 s (a.map Ce.i))(n:a.length<=9223372036854775807):ar d s a:=by
 have j:s.len=a.length:=by have:=b.len;simp at this;omega
 refine⟨j,?_,V,λl x i=>⟨[.i x],rfl,λk f e=>?_⟩⟩
 ·rcases b.u with c|⟨m,f,tail,c,h2,h3,h4,h5⟩
  ·rw[c];exact ad _
  ·rw[c];exact h5
 ·have c:k=0:=by have:=ax e;simp at this;omega
  subst c;simp at e;subst e;have:=b.je l (.i x) (by simp[i]);simpa using this
def gY{g:Nat}:∀{f:List (List Ce)}(_:∀a∈f,a.length=g){b:Nat}{a:List Ce}(_:f[b]? =some a){i:Nat}{c:Ce}(_:a[i]? =some c),f.flatten[b*g+i]? =some c
 |[],_,b,a,h,_,_,_=>by simp at h
 |x::f,e,0,a,h,i,c,d=>by
  simp at h;subst h;rw[iG,NP,bN,aw (ax d)];exact d
 |x::f,e,b+1,a,h,i,c,d=>by
  have k:x.length=g:=e x ba;rw[iG,aF (by rw[k,fC];omega)];have:=gY (f:=f) (λy l=>e y (ai _ l)) (b:=b) (by simpa using h) d;rw[<-this];congr 1;rw[k,fC];omega
def cX{b:Nat}:∀{f:List (List Ce)},(∀a∈f,a.length=b)->f.flatten.length=f.length*b
 |[],_=>E
 |x::f,a=>by
  rw[iG,a9,cX (λy c=>a y (ai _ c)),a x ba,bg,fC];omega
structure fU{α:Type}(sz:Nat)(R:List Ce->α->Prop)(f:List (List Ce))(a:List α):Prop where
 len:f.length=a.length
 size:∀cs∈f,cs.length=sz
 df:∀(j:Nat)(cs:List Ce)(x:α),f[j]? =some cs->a[j]? =some x->R cs x
def fU.nil{α:Type}(a:Nat)(R:List Ce->α->Prop):fU a R [] []:=⟨rfl,E,E⟩
def fU.xK{α:Type}{g:Nat}{R:List Ce->α->Prop}{a:List α}(h:fU g R f a){cs:List Ce}{x:α}(k:cs.length=g)(l:R cs x):fU g R (f++[cs]) (a++[x]):=by
 refine⟨by simp[h.len],λe b=>?_,λj e y b c=>?_⟩
 ·rcases List.mem_append.1 b with b|b
  ·exact h.size e b
  ·simp at b;subst b;exact k
 ·rcases aV j f.length with d|d
  ·rw[aw d]at b;rw[aw (h.len▸d)]at c;exact h.df j e y b c
  ·rw[aF d]at b;rw[aF (by rw[<-h.len];exact d),<-h.len]at c;have i:j -f.length=0:=by have:=ax b;simp at this;omega
   rw[i]at b c;simp at b c;subst b;subst c;exact l
def fU.mono{α:Type}{d:Nat}{R c:List Ce->α->Prop}{a:List α}(h:fU d R f a)(i:∀b x,R b x->c b x):fU d c f a:=
 ⟨h.len,h.size,λj b x e g=>i _ _ (h.df j b x e g)⟩
def dW.ij{α:Type}{e:Nat}{R:List Ce->α->Prop}{a:List α}(i:iO h d g e s f.flatten)(c:fU e R f a)(t:0<e)(v:a.length<=9223372036854775807):dW d e R s a:=by
 have r:s.len=a.length:=by
  have b:=i.len;rw[cX c.size]at b;have:=Rn t b;rw[<-this,c.len]
 refine⟨r,?_,V,λj x p=>?_⟩
 ·rcases i.u with b|⟨n,m,tail,b,h2,h3,h4,h5⟩
  ·rw[b];exact ad _
  ·rw[b];exact h5
 ·obtain⟨n,o⟩:=ag (l:=f) (k:=j) (by rw[c.len];exact ax p);refine⟨n,c.df j n x o p,λu m q=>?_⟩;have:=i.je (j*e+u) m (gY c.size o q);rwa[<-dB]at this
end Go.Vc
end
section
namespace Go.Vc
variable{S c:List Nat}{m a d:I}{b o e:Nat}{l:List Ce}{s:O}
def bA(S:List Nat)(m:I):I:=m.mapIdx λb o=>if b∈S then .cells #[] 0 else o
def Le(M a:I):Prop:=∀b o v,D M b o=some v->D a b o=some v
def dP{v:Value}:D (bA S m) b o=some v<->b∉S/\D m b o=some v:=by
 unfold D bA;rw[UR];cases h:m[b]? with
 |none=>simp
 |some x=>by_cases a:b∈S<;>simp[a]
def Le.aC(m:I):Le m m:=λ_ _ _ h=>h
def Le.trans{a b c:I}(h:Le a b)(k:Le b c):Le a c:=λx o v d=>k x o v (h x o v d)
def J.le(h:J m a):Le m a:=λ_ _ _ b=>h.D b
def bt(S:List Nat)(m:I):Le (bA S m) m:=λ_ _ _ h=>(dP.1 h).2
def nM(h:∀b,b<m.size->b∉S->b∉c/\a[b]? =m[b]?):Le (bA S m) (bA c a):=λb o v i=>by
 obtain⟨e,d⟩:=dP.1 i;obtain⟨f,g⟩:=h b (lC d) e;exact dP.2 ⟨f,by rw[aI g];exact d⟩
def J.bA(h:J m a)(d:∀b∈c,b∈S\/m.size<=b):Le (bA S m) (bA c a):=
 nM λb e g=>⟨λf=>(d b f).elim g λh=>V,h.same b e⟩
def J.cJ(h:J m a)(S:List Nat):Le (Vc.bA S m) (Vc.bA S a):=h.bA λ_ b=>Or.inl b
def gJ(m:I)(a:∀b∈c,b∈S):Le (bA S m) (bA c m):=(J.aC m).bA λb d=>Or.inl (a b d)
def Le.je{M a:I}(h:Le M a)(e:fQ M b o l):fQ a b o l:=λi c d=>h _ _ _ (e i c d)
def dW.le{α:Type}{d:Nat}{R c:List Ce->α->Prop}{l:List α}(h:dW m d R s l)(j:Le m a)(g:∀b x,R b x->c b x):dW a d c s l:=
 ⟨h.len,h.cap,h.fL,λk x i=>let⟨b,e,f⟩:=h.je k x i;⟨b,g _ _ e,j.je f⟩⟩
def ar.le{m a:I}(b:Le m a){s:O}{l:List Int}(h:ar m s l):ar a s l:=dW.le h b λ_ _ h=>h
def ly.le{m a:I}(g:Le m a)(b:List Ce)(c:List Int):ly m b c->ly a b c:=λ⟨f,d,e⟩=>⟨f,d,e.le g⟩
def gE.le{m a:I}(d:Le m a)(b:List Ce)(c:bq):gE m b c->gE a b c:=λ⟨f,e,g⟩=>⟨f,e,dW.le g d (ly.le d)⟩
def bR.le{m a:I}(b:Le m a){s:O}{l:List bq}(h:bR m s l):bR a s l:=dW.le h b (gE.le b)
def HT(a:b∉S)(h:fQ m b o l):fQ (bA S m) b o l:=λi c d=>dP.2 ⟨a,h i c d⟩
def dW.Ov{α:Type}{a:Nat}{R:List Ce->α->Prop}{c:List (List Ce)}{l:List α}(o:∀b∈S,b<d.size)(h:iO d m e a s c.flatten)(q:fU a R c l)(r:0<a)(p:l.length<=9223372036854775807):dW (bA S m) a R s l:=by
 have H:=dW.ij h q r p;refine⟨H.len,H.cap,H.fL,λt x i=>?_⟩;obtain⟨j,k,n⟩:=H.je t x i;rcases h.F with f|f
 ·have g:=H.len;have:=ax i;rw[f]at g;simp at g;omega
 ·exact⟨j,k,HT (λg=>by have:=o _ g;omega) n⟩
def ar.Ov{l:List Int}(k:∀b∈S,b<d.size)(h:iO d m e 1 s (l.map Ce.i))(n:l.length<=9223372036854775807):ar (bA S m) s l:=by
 have H:=ar.ij h n;refine⟨H.len,H.cap,H.fL,λo x f=>?_⟩;obtain⟨g,i,j⟩:=H.je o x f;rcases h.F with a|a
 ·have c:=H.len;have:=ax f;rw[a]at c;simp at c;omega
 ·exact⟨g,i,HT (λc=>by have:=k _ c;omega) j⟩
end Go.Vc
end
section
namespace Go.Vc
variable{X Y S:List Nat}{a b c m d:I}{f:List Ce}{s:O}{k:Nat}
structure Fz(X:List Nat)(m d:I):Prop where
 size:m.size<=d.size
 same:∀b,b<m.size->b∉X->d[b]? =m[b]?
def Fz.aC(X:List Nat)(m:I):Fz X m m:=⟨ad _,λ_ _ _=>rfl⟩
def Fz.pZ(h:Fz X a b)(k:Fz Y b c)(g:∀y∈Y,y∈X\/a.size<=y):Fz X a c:=
 ⟨bJ h.size k.size,λi d e=>(k.same i (aJ d h.size) λf=>(g i f).elim e λh=>V).trans (h.same i d e)⟩
def Fz.trans(h:Fz X a b)(k:Fz X b c):Fz X a c:=h.pZ k λ_ d=>Or.inl d
def J.fz(h:J m d)(X:List Nat):Fz X m d:=⟨h.size,λb a _=>h.same b a⟩
def Fz.then(h:Fz X a b)(k:J b c):Fz X a c:=h.trans (k.fz X)
def Fz.push{X:List Nat}{a m:I}(h:Fz X a m)(o:Obj):Fz X a (m.push o):=h.then (J.push m o)
def Fz.ext(h:Fz [] m d):J m d:=⟨h.size,λb a=>h.same b a E⟩
def Fz.AZ(h:Fz X m d)(f:∀b∈X,b∈Y\/m.size<=b):Fz Y m d:=⟨h.size,λb a e=>h.same b a λc=>(f b c).elim e λh=>V⟩
def Fz.aj(h:Fz X a m){b:Nat}(c:b∈X\/a.size<=b)(o:Nat)(l:List Ce):Fz X a (aj m b o l):=
 ⟨by rw[az];exact h.size,λj f d=>by
  have e:j≠b:=λe=>by subst e;exact c.elim d λc=>V
  rw[bh l m b o e];exact h.same j f d⟩
def Fz.bA(h:Fz X m d){a:List Nat}(f:∀b∈X,b∈S)(e:∀b∈a,b∈S\/m.size<=b):Le (bA S m) (bA a d):=
 nM λb g c=>⟨λi=>(e b i).elim c λh=>V,h.same b g λj=>c (f b j)⟩
def Fz.cJ(h:Fz X m d)(a:∀b∈X,b∈S):Le (Vc.bA S m) (Vc.bA S d):=h.bA a λ_ h=>Or.inl h
def Fz.da(h:Fz X m d){l:List Nat}(c:∀b∈l,b<m.size/\b∉X):dV l m d:=λb a=>h.same b (c b a).1 (c b a).2
inductive Ex where
 |mk (op bL:Int) (bu:List Ex)
def Ex.op:Ex->Int| .mk o _ _=>o
def Ex.bL:Ex->Int| .mk _ n _=>n
def Ex.bu:Ex->List Ex| .mk _ _ k=>k
structure JW(β:Type)where
 op:Int
 bL:Int
 bV:Int
 args:List Int
 bu:List β
inductive Bk where
 |mk (aA:List (JW Bk)) (aR:Int)
abbrev cq:=JW Bk
def Bk.aA:Bk->List cq| .mk s _=>s
def Bk.aR:Bk->Int| .mk _ r=>r
@[simp] theorem Ex.Ta (o n:Int) (k:List Ex):(Ex.mk o n k).op=o:=rfl
@[simp] theorem Ex.QZ (o n:Int) (k:List Ex):(Ex.mk o n k).bL=n:=rfl
@[simp] theorem Ex.Pj (o n:Int) (k:List Ex):(Ex.mk o n k).bu=k:=rfl
@[simp] theorem Bk.jd (s:List cq) (r:Int):(Bk.mk s r).aA=s:=rfl
@[simp] theorem Bk.iy (s:List cq) (r:Int):(Bk.mk s r).aR=r:=rfl
inductive zd(m:I):List Ce->Ex->Prop
 |mk (op bL:Int) (bu:List Ex) (s:O) (css:Nat->List Ce) (hl:s.len=bu.length) (hc:s.len<=s.cap) (hm:s.len<=9223372036854775807)
  (hr:∀(k:Nat)(x:Ex),bu[k]? =some x->fQ m s.F (s.off+k*3) (css k)) (hk:∀(k:Nat)(x:Ex),bu[k]? =some x->zd m (css k) x):zd m [.i op,.i bL,.s s] (.mk op bL bu)
inductive pM(m:I):List Ce->Bk->Prop
 |mk (aA:List (JW Bk)) (r:Int) (s:O) (hl:s.len=aA.length) (hc:s.len<=s.cap) (hm:s.len<=9223372036854775807) (aa ks:Nat->O) (kcs:Nat->Nat->List Ce)
  (hr:∀(k:Nat)(x:JW Bk),aA[k]? =some x->fQ m s.F (s.off+k*5) [.i x.op,.i x.bL,.i x.bV,.s (aa k),.s (ks k)]/\ar m (aa k) x.args/\(ks k).len=x.bu.length/\(ks k).len<=(ks k).cap/\(ks k).len<=9223372036854775807)
  (hb:∀(k:Nat)(x:JW Bk)(j:Nat)(b:Bk),aA[k]? =some x->x.bu[j]? =some b->fQ m (ks k).F ((ks k).off+j*2) (kcs k j))
  (hk:∀(k:Nat)(x:JW Bk)(j:Nat)(b:Bk),aA[k]? =some x->x.bu[j]? =some b->pM m (kcs k j) b):pM m [.s s,.i r] (.mk aA r)
def ft(m:I)(f:List Ce)(x:cq):Prop:=∃a k,f=[.i x.op,.i x.bL,.i x.bV,.s a,.s k]/\ar m a x.args/\dW m 2 (pM m) k x.bu
abbrev eJ(m:I)(s:O)(l:List Ex):Prop:=dW m 3 (zd m) s l
abbrev dN(m:I)(s:O)(l:List cq):Prop:=dW m 5 (ft m) s l
abbrev mo(m:I)(s:O)(l:List Bk):Prop:=dW m 2 (pM m) s l
def zd.le(h:Le m d){e:Ex}(a:zd m f e):zd d f e:=by
 induction a with
 |mk n bL bu s b g c i a o l=>exact .mk n bL bu s b g c i (λk x j=>h.je (a k x j)) l
def pM.le{m d:I}(h:Le m d){f:List Ce}{b:Bk}(a:pM m f b):pM d f b:=by
 induction a with
 |mk aA u s o n p e t r a l v q=>
  exact .mk aA u s o n p e t r (λk x c=>let⟨g,i,j⟩:=a k x c;⟨h.je g,i.le h,j⟩) (λk x j b c g=>h.je (l k x j b c g)) q
def dW.choose{α:Type}{m:I}{a:Nat}{R:List Ce->α->Prop}{s:O}{l:List α}(h:dW m a R s l):
 ∃b:Nat->List Ce,∀(k:Nat)(x:α),l[k]? =some x->R (b k) x/\fQ m s.F (s.off+k*a) (b k):=by
 have:∀k:Nat,∃f:List Ce,∀x:α,l[k]? =some x->R f x/\fQ m s.F (s.off+k*a) f:=λk=>by
  cases e:l[k]? with
  |none=>exact⟨[],λx c=>by simp at c⟩
  |some x=>obtain⟨f,d⟩:=h.je k x e;exact⟨f,λy c=>by simp at c;exact c▸d⟩
 exact⟨λk=>Classical.choose (this k),λk=>eN (this k)⟩
def zd.bo{e:Ex}(h:zd m f e):∃s,f=[.i e.op,.i e.bL,.s s]/\eJ m s e.bu:=by
 cases h with
 |mk l bL bu s b g c i j d=>exact⟨s,rfl,g,c,i,λk x a=>⟨b k,d k x a,j k x a⟩⟩
def zd.of{b bL:Int}{bu:List Ex}(h:eJ m s bu):zd m [.i b,.i bL,.s s] (.mk b bL bu):=by
 obtain⟨d,c⟩:=h.choose;exact .mk b bL bu s d h.len h.cap h.fL (λk x a=>(c k x a).2) λk x a=>(c k x a).1
def pM.bo{b:Bk}(h:pM m f b):∃s,f=[.s s,.i b.aR]/\dN m s b.aA:=by
 cases h with
 |mk aA y s r p t d w v u o q=>
  exact⟨s,rfl,r,p,t,λk x a=>let⟨e,g,i,l,n⟩:=u k x a;⟨_,⟨d k,w k,rfl,g,i,l,n,λj b c=>⟨v k j,q k x j b a c,o k x j b a c⟩⟩,e⟩⟩
def pM.of{r:Int}{aA:List cq}(h:dN m s aA):pM m [.s s,.i r] (.mk aA r):=by
 obtain⟨o,n⟩:=h.choose;have:∀k:Nat,∃(a c:O)(f:Nat->List Ce),∀x:cq,aA[k]? =some x->o k=[.i x.op,.i x.bL,.i x.bV,.s a,.s c]/\ar m a x.args/\(c.len=x.bu.length/\c.len<=c.cap/\c.len<=9223372036854775807)/\
  ∀(j:Nat)(b:Bk),x.bu[j]? =some b->pM m (f j) b/\fQ m c.F (c.off+j*2) (f j):=λk=>by
  cases p:aA[k]? with
  |none=>exact⟨.nil,.nil,λ_=>[],λx d=>by simp at d⟩
  |some x=>
   obtain⟨⟨a,c,g,i,e⟩,_⟩:=n k x p
   obtain⟨f,q⟩:=e.choose
   exact⟨a,c,f,λy l=>by simp at l;subst l;exact⟨g,i,⟨e.len,e.cap,e.fL⟩,q⟩⟩
 have H:=λk=>eN (eN (eN (this k)));refine .mk aA r s h.len h.cap h.fL (λk=>Classical.choose (this k)) (λk=>Classical.choose (eN (this k))) (λk=>Classical.choose (eN (eN (this k)))) (λk x d=>?_) (λk x j b d l=>?_) λk x j b d l=>?_
 ·obtain⟨g,i,e,_⟩:=H k x d;exact⟨by rw[<-g];exact(n k x d).2,i,e⟩
 ·exact((H k x d).2.2.2 j b l).2
 ·exact((H k x d).2.2.2 j b l).1
def ft.le{m d:I}(h:Le m d){f:List Ce}{x:cq}:ft m f x->ft d f x:=λ⟨a,k,b,c,e⟩=>⟨a,k,b,c.le h,dW.le e h λ_ _=>pM.le h⟩
def eJ.le{m d:I}(a:Le m d){s:O}{l:List Ex}(h:eJ m s l):eJ d s l:=dW.le h a λ_ _=>zd.le a
def dN.le{m d:I}(a:Le m d){s:O}{l:List cq}(h:dN m s l):dN d s l:=dW.le h a λ_ _=>ft.le a
def mo.le{m d:I}(a:Le m d){s:O}{l:List Bk}(h:mo m s l):mo d s l:=dW.le h a λ_ _=>pM.le a
def eJ.u{l:List Ex}(h:eJ m s l){x:Ex}(b:l[k]? =some x):
 ∃t,eJ m t x.bu/\D m s.F (s.off+k*3)=some (vi x.op)/\D m s.F (s.off+k*3+1)=some (vi x.bL)/\D m s.F (s.off+k*3+2)=some (O.v t):=by
 obtain⟨f,d,a⟩:=h.je k x b
 obtain⟨t,rfl,c⟩:=d.bo
 exact⟨t,c,a 0 _ rfl,a 1 _ rfl,a 2 _ rfl⟩
def dN.u{l:List cq}(h:dN m s l){x:cq}(e:l[k]? =some x):
 ∃a t,ar m a x.args/\mo m t x.bu/\D m s.F (s.off+k*5)=some (vi x.op)/\D m s.F (s.off+k*5+1)=some (vi x.bL)/\D m s.F (s.off+k*5+2)=some (vi x.bV)/\D m s.F (s.off+k*5+3)=some (O.v a)/\D m s.F (s.off+k*5+4)=some (O.v t):=by
 obtain⟨f,⟨a,t,rfl,c,d⟩,b⟩:=h.je k x e
 exact⟨a,t,c,d,b 0 _ rfl,b 1 _ rfl,b 2 _ rfl,b 3 _ rfl,b 4 _ rfl⟩
def mo.u{l:List Bk}(h:mo m s l){x:Bk}(b:l[k]? =some x):
 ∃t,dN m t x.aA/\D m s.F (s.off+k*2)=some (O.v t)/\D m s.F (s.off+k*2+1)=some (vi x.aR):=by
 obtain⟨f,d,a⟩:=h.je k x b
 obtain⟨t,rfl,c⟩:=d.bo
 exact⟨t,c,a 0 _ rfl,a 1 _ rfl⟩
def Bk.w:Bk->Nat
 | .mk aA _=>1+(aA.map λs=>1+s.args.length+(s.bu.map Bk.w).sum).sum
decreasing_by
 rename_i s a _ _
 have b:=mX a
 have c:=mX (by assumption:_∈s.bu)
 have d:SizeOf.sizeOf s.bu<SizeOf.sizeOf s:=by cases s;simp;omega
 simp;omega
def JW.w(s:JW Bk):Nat:=1+s.args.length+(s.bu.map Bk.w).sum
def Bk.Wj(b:Bk):b.w=1+(b.aA.map JW.w).sum:=by
 cases b;rw[Bk.w];rfl
def Ex.n:Ex->Nat
 | .mk _ _ bu=>1+(bu.map Ex.n).sum
end Go.Vc
end
section
namespace Go.Vc
variable{S Y S' X:List Nat}{d a c:I}{b k n h i:Nat}{s x:O}{g cs o:List Ce}{f:List (List Ce)}{K:O->I->Prop}
structure mK{α:Type}(sz:Nat)(R:I->List Ce->α->Prop):Prop where
 le:∀{M M':I}{cs:List Ce}{x:α},Le M M'->R M cs x->R M' cs x
 len:∀{M:I}{cs:List Ce}{x:α},R M cs x->cs.length=sz
def rS(_:I)(cs:List Ce)(n:Int):Prop:=RD cs n
def rS.mono:mK 1 rS:=⟨λ_ h=>h,λh=>by rw[h];rfl⟩
def zd.mono:mK 3 zd:=⟨λh=>zd.le h,λh=>by obtain⟨s,rfl,_⟩:=h.bo;rfl⟩
def pM.mono:mK 2 pM:=⟨λh=>pM.le h,λh=>by obtain⟨s,rfl,_⟩:=h.bo;rfl⟩
def ft.mono:mK 5 ft:=⟨λh=>ft.le h,λh=>by obtain⟨_,_,rfl,_⟩:=h;rfl⟩
structure Gr{α:Type}(S:List Nat)(d a:I)(b sz:Nat)(R:I->List Ce->α->Prop)(s:O)(l:List α):Prop where
 gR:s≠.nil
 aW:∃f,iO d a b sz s f.flatten/\fU sz (R (bA (s.F::S) a)) f l
def Gr.len{α:Type}{S:List Nat}{d a:I}{b e:Nat}{R:I->List Ce->α->Prop}{s:O}{l:List α}(h:Gr S d a b e R s l)(i:0<e):s.len=l.length:=by
 obtain⟨_,f,g,c⟩:=h;have:=g.len;rw[cX c.size]at this;rw[<-c.len,Rn i this]
def Gr.aY{α:Type}{g:Nat}{R:I->List Ce->α->Prop}{l:List α}(h:Gr S d a b g R s l):d.size<=s.F/\s.F<a.size:=by
 obtain⟨c,f,e,i⟩:=h;exact⟨e.F.resolve_left c,e.lt.resolve_left c⟩
def Gr.new{α:Type}(S:List Nat){d a:I}(h:d.size<=a.size)(b c:Nat)(R:I->List Ce->α->Prop):Gr S d (a.push (.cells (br []) b)) b c R (.mk a.size 0 0 0) []:=
 ⟨E,[],(iO.new (J.aC a) b c [] 0 E).cG h,fU.nil _ _⟩
def Gr.fu{α:Type}{g:Nat}{R:I->List Ce->α->Prop}{l:List α}(o:mK g R)(h:Gr S d a b g R s l)(j:Fz Y a c)(i:∀e∈Y,e∈S/\e<d.size):Gr S d c b g R s l:=by
 have q:=h.aY;obtain⟨k,f,m,n⟩:=h;refine⟨k,f,m.congr (j.same _ q.2 λp=>by have:=(i _ p).2;omega),n.mono λcs x=>o.le ?_⟩;exact j.cJ λe p=>ai _ (i e p).1
def Gr.KP{α:Type}{g:Nat}{R:I->List Ce->α->Prop}{l:List α}(n:mK g R)(h:Gr S d a b g R s l)(i:Fz Y a c)(o:∀e∈Y,e∈S)(q:s.F∉Y):Gr S d c b g R s l:=by
 have r:=h.aY;obtain⟨j,f,k,m⟩:=h;exact⟨j,f,k.congr (i.same _ r.2 q),m.mono λcs x=>n.le (i.cJ λe p=>ai _ (o e p))⟩
def Gr.re{α:Type}{h:Nat}{R:I->List Ce->α->Prop}{l:List α}(o:mK h R)(i:Gr S d a b h R s l)(j:Fz Y a c)(q:∀e∈Y,e∈S)(r:s.F∉Y)(p:∀e∈S',e∈S\/a.size<=e):Gr S' d c b h R s l:=by
 have t:=i.aY;obtain⟨k,f,m,n⟩:=i;refine⟨k,f,m.congr (j.same _ t.2 r),n.mono λcs x=>o.le (j.bA (λe g=>ai _ (q e g)) λe g=>?_)⟩;rcases List.mem_cons.1 g with g|g
 ·exact Or.inl (by rw[g];exact ba)
 ·exact(p e g).imp (ai _) id
def Gr.ext{α:Type}{e:Nat}{R:I->List Ce->α->Prop}{l:List α}(f:mK e R)(h:Gr S d a b e R s l)(g:J a c):Gr S d c b e R s l:=
 h.fu f (g.fz []) E
def Gr.done{α:Type}{c:Nat}{R:I->List Ce->α->Prop}{l:List α}(j:mK c R)(h:Gr S d a b c R s l)(k:∀e∈S,e<d.size)(o:0<c)(n:l.length<=9223372036854775807):dW (bA S a) c (R (bA S a)) s l:=by
 obtain⟨_,f,g,i⟩:=h;exact dW.Ov k g (i.mono λcs x=>j.le (gJ a λe m=>ai _ m)) o n
def J.My(h:k<=a.size):J (a.extract 0 k) a:=by
 refine⟨bK,λb c=>?_⟩;have d:b<k:=by simp at c;omega
 rw[Array.getElem?_extract];simp;omega
def kG(h:k<=a.size):(a.extract 0 k).size=k:=bK
def Gr.next{α:Type}{E:Nat}{R:I->List Ce->α->Prop}{C D:List α}(F:mK g.length R)(W:0<g.length)
 (y:Gr S d a b g.length R s C)(G:Fz X d a)(u:x.len=f.length)(T:fQ a x.F x.off f.flatten)(n:fU g.length (R (bA (s.F::S) a)) f D)(i:(C.length+D.length)*E<=140737488355328)
 (P:∀r c,Gr S d c b g.length R r (C++D)->Fz X d c->(a.size<=c.size/\(r.F=s.F\/a.size<=r.F))->(∀e,e<a.size->e≠s.F->c[e]? =a[e]?)->K r c):iS a b g E s x K:=by
 have Q:=y.len W
 have hy:=y.aY
 obtain⟨z,w,O,j⟩:=y
 have q:d.size<=a.size:=G.size
 refine iO.append (h:=a.extract 0 d.size) (zs:=g) (f:=f.flatten) (a:=w.flatten) (O.cG (by rw[kG q];exact ad _)) (J.My q) ?_ T (by rw[Q,u,n.len];exact i) λr c Y k2 k3 Z k5 B=>?_
 ·rw[cX n.size,u]
 have A:∀e,e<a.size->e≠s.F->c[e]? =a[e]? :=λe i k=>k5 e i λ_=>k
 have U:r≠.nil:=by
  rcases B with⟨h,_⟩|⟨_,_,h⟩|h
  ·exact absurd h z
  ·exact h
  ·intro b;rw[b]at h;simp at h;omega
 have L:a.size<=c.size:=Z
 have H:Le (bA (s.F::S) a) (bA (r.F::S) c):=nM λe i k=>by
  simp only[aS,tA]at k;refine⟨?_,A e i k.1⟩;simp only[aS,tA];refine⟨?_,k.2⟩;rcases B with⟨h,_⟩|⟨_,h,_⟩|h
  ·exact absurd h z
  ·rw[h];exact k.1
  ·omega
 refine P r c ⟨U,w++f,?_,?_⟩ ⟨bJ q L,λe i u=>?_⟩ ⟨L,?_⟩ A
 ·rw[vR]
  exact Y.cG (by rw[kG q];exact ad _)
 ·refine⟨by simp[j.len,n.len],λm o=>?_,λM m N t v=>?_⟩
  ·rcases List.mem_append.1 o with o|o
   ·exact j.size m o
   ·exact n.size m o
  ·rcases aV M w.length with p|p
   ·rw[aw p]at t
    rw[aw (j.len▸p)]at v
    exact F.le H (j.df M m N t v)
   ·rw[aF p]at t
    rw[aF (by rw[<-j.len];exact p),<-j.len]at v
    exact F.le H (n.df _ m N t v)
 ·rw[A e (aJ i q) V];exact G.same e i u
 ·rcases B with⟨h,_⟩|⟨_,h,_⟩|h
  ·exact absurd h z
  ·exact Or.inl h
  ·exact Or.inr V
def Gr.jK{α:Type}{n:Nat}{R:I->List Ce->α->Prop}{m:List α}{k:α}(i:mK g.length R)(z:0<g.length)
 (q:Gr S d a b g.length R s m)(w:Fz X d a)(p:R (bA (s.F::S) a) cs k)(j:(m.length+1)*n<=140737488355328)
 (x:∀r c,Gr S d c b g.length R r (m++[k])->Fz X d c->(a.size<=c.size/\(r.F=s.F\/a.size<=r.F))->(∀f,f<a.size->f≠s.F->c[f]? =a[f]?)->K r c):iS (a.push (.cells (br cs) b)) b g n s (.mk a.size 0 1 1) K:=by
 have h:=J.push a (.cells (br cs) b)
 refine Gr.next (f:=[cs]) (D:=[k]) i z (q.ext i h) (w.then h) rfl ?_ ?_ j λr c t u o v=>x r c t u ⟨bJ h.size o.1,o.2.imp id (bJ h.size)⟩ λf j y=>(v f (aJ j h.size) y).trans (h.same f j)
 ·have:=(cB.push a (e:=b) (l:=cs)).je
  simpa using this
 ·have:=fU.xK (fU.nil g.length (R (bA (s.F::S) (a.push (.cells (br cs) b))))) (i.len p) (i.le (h.cJ _) p)
  simpa using this
def dW.Tc{α:Type}{b:Nat}{R:List Ce->α->Prop}{g:List α}(B:∀cs x,R cs x->cs.length=b)(u:dW a b R s g):
 ∃f,s.len=f.length/\fQ a s.F s.off f.flatten/\fU b R f g:=by
 obtain⟨e,n⟩:=u.choose
 have z:∀(c:Nat)(cs:List Ce),((List.range g.length).map e)[c]? =some cs->c<g.length/\cs=e c:=λc cs d=>by
  simp only[bW,iK]at d;obtain⟨H,q,D⟩:=d;obtain⟨v,w⟩:=List.getElem?_eq_some_iff.1 q;simp at v w;subst w;exact⟨v,D.symm⟩
 have o:∀cs∈(List.range g.length).map e,cs.length=b:=λcs G=>by
  obtain⟨c,d⟩:=List.mem_iff_getElem?.1 G;obtain⟨q,rfl⟩:=z c cs d;obtain⟨x,m⟩:=ag q;exact B _ _ (n c x m).1
 refine⟨(List.range g.length).map e,by simp[u.len],λi C t=>?_,E,o,λc cs x d m=>?_⟩
 ·rcases jq b with p|p
  ·have h:=ax t
   rw[cX o,p]at h;simp at h
  have h:=ax t
  rw[cX o]at h
  simp at h
  have d:i/b<g.length:=Nat.div_lt_of_lt_mul (by rw[Nat.mul_comm];exact h)
  obtain⟨x,m⟩:=ag d
  have A:i=i/b*b+i%b:=by rw[Nat.mul_comm];exact(Nat.div_add_mod i b).symm
  have K:=Nat.mod_lt i p
  have J:(e (i/b)).length=b:=B _ _ (n _ x m).1
  obtain⟨I,y⟩:=ag (l:=e (i/b)) (k:=i%b) V
  have r:=gY (f:=(List.range g.length).map e) o (b:=i/b) (a:=e (i/b)) (by simp[d]) y
  rw[<-A,t]at r
  simp at r;subst r
  have F:=(n _ x m).2 _ C y
  rw[A,<-dB];exact F
 ·obtain⟨_,rfl⟩:=z c cs d
  exact(n c x m).1
def Gr.all{α:Type}{j:Nat}{R:I->List Ce->α->Prop}{l i:List α}(k:mK g.length R)(v:0<g.length)
 (h:Gr S d a b g.length R s l)(t:Fz X d a)(p:dW (bA (s.F::S) a) g.length (R (bA (s.F::S) a)) x i)(q:(l.length+i.length)*j<=140737488355328)
 (u:∀r c,Gr S d c b g.length R r (l++i)->Fz X d c->(a.size<=c.size/\(r.F=s.F\/a.size<=r.F))->(∀e,e<a.size->e≠s.F->c[e]? =a[e]?)->K r c):iS a b g j s x K:=by
 obtain⟨f,m,n,o⟩:=p.Tc λ_ _ h=>k.len h
 exact Gr.next k v h t m ((bt _ _).je n) o q u
def Gr.lit{α:Type}{e:Nat}{R:I->List Ce->α->Prop}{l:List α}(j:mK e R)(i:d.size<=a.size)(p:∀g∈S,g<d.size)(k:cs=f.flatten)(m:n=f.length)(h:fU e (R (bA S a)) f l):
 Gr S d (a.push (.cells (br cs) b)) b e R (.mk a.size 0 n n) l:=by
 subst k m
 refine⟨E,f,(iO.new (J.aC a) b e f.flatten f.length (cX h.size)).cG i,h.mono λo x=>j.le ?_⟩
 exact(J.push a _).bA λg c=>by
  rcases List.mem_cons.1 c with c|c
  ·exact Or.inr (by simp[c])
  ·exact Or.inl c
def Gr.mq{α:Type}{c:Nat}{R:I->List Ce->α->Prop}{l:List α}(m:mK c R)(h:Gr S d a b c R s l)(n:s.F∉S)(q:0<c)(p:l.length<=9223372036854775807):dW (bA S a) c (R (bA S a)) s l:=by
 obtain⟨_,f,e,g⟩:=h;have H:=dW.ij e (g.mono λcs x=>m.le (gJ a λj i=>ai s.F i)) q p;exact⟨H.len,H.cap,H.fL,λk x o=>let⟨cs,i,j⟩:=H.je k x o;⟨cs,i,HT n j⟩⟩
def Gr.ne{α:Type}{q:Nat}{R:I->List Ce->α->Prop}{p:List α}(k:Gr S d a b q R s p)(g:cB a h i o)(n:i≠b):s.F≠h:=by
 obtain⟨l,f,m,x⟩:=k;obtain⟨r,t,tail,j,u,c,v,w⟩:=m.u.resolve_left l;intro e;rw[j]at e;simp only[O.iT]at e;subst e;unfold cB at g c;rw[g]at c;simp at c;exact n c.2
def Gr.IW{α β:Type}{q:I}{r c t:Nat}{R:I->List Ce->α->Prop}{g:I->List Ce->β->Prop}{e:O}{o:List α}{p:List β}(j:Gr S d a b r R s o)(k:Gr S' q a c t g e p)(n:c≠b):s.F≠e.F:=by
 obtain⟨l,f,m,z⟩:=k;obtain⟨u,v,tail,h,w,i,x,y⟩:=m.u.resolve_left l;have:=j.ne i n;rw[h];exact this
def Gr.box{α:Type}{L:List Nat}{j z:Nat}{R:I->List Ce->α->Prop}{v:List α}{y:α}{K:I->Prop}(C:mK g.length R)(hz:0<g.length)
 (p:Gr S d a b g.length R s v)(E:Fz X d a)(W:R (bA (s.F::S) a) cs y)(k:(v.length+1)*z<=140737488355328)
 (q:cB a h i o)(hi:j<o.length)(H:i≠b)(u:d.size<=h/\h∈S)(B:∀e∈L,e<a.size/\e≠h/\e≠s.F)
 (Y:∀r c,Gr S d c b g.length R r (v++[y])->cB c h i (iE o j [.s r])->Fz X d c->a.size<=c.size->(∀e,e<a.size->e≠s.F->e≠h->c[e]? =a[e]?)->K c):
 D (a.push (.cells (br cs) b)) h j=D a h j/\
 iS (a.push (.cells (br cs) b)) b g z s (.mk a.size 0 1 1) λr c=>dV L (a.push (.cells (br cs) b)) c/\fm c h j 1/\(dV L c (aj c h j [.s r])/\K (aj c h j [.s r])):=by
 have F:=q.lt
 have Z:=p.ne q H
 have M:=J.push a (.cells (br cs) b)
 have hy:=p.aY
 refine⟨aI (M.same h F) j,Gr.jK C hz p E W k λr c A N ab w=>?_⟩
 have t:cB c h i o:=q.congr (w h F (jQ Z))
 have aa:=A.ne t H
 have n:∀e,e≠h->(aj c h j [.s r])[e]? =c[e]? :=λe k=>bh _ _ _ _ k
 have ad:=E.size
 have ac:=u.1
 refine⟨λe k=>?_,t.fm V,λe k=>n e (B e k).2.1,Y r _ ?_ (cB.aj (m:=c) t) (N.aj (Or.inr u.1) _ _) (by rw[az];exact ab.1) λe l T U=>(n e U).trans (w e l T)⟩
 ·have l:=B e k
  rw[w e l.1 l.2.2,M.same e l.1]
 ·obtain⟨O,f,P,Q⟩:=A
  refine⟨O,f,P.congr (n _ aa),Q.mono λcs x=>C.le ?_⟩
  exact nM λe k G=>⟨G,n e λb=>G (by rw[b];exact ai _ u.2)⟩
def ar.lit(b:Nat)(l:List Int)(d:∀c∈S,c<a.size)(c:cs=l.map Ce.i)(f:n=l.length)(e:l.length<=9223372036854775807):ar (bA S (a.push (.cells (br cs) b))) (.mk a.size 0 n n) l:=by
 subst c f;have h:=iO.new (J.aC a) b 1 (l.map Ce.i) l.length E;exact ar.Ov d h e
end Go.Vc
end
