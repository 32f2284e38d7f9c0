/- Part of a proof, joined by a program. -/
import Derived.Test.YtgnjacfobdjeeaaGreatW00
set_option linter.unusedVariables false
set_option linter.unusedSimpArgs false
set_option linter.defProp false
set_option linter.constructorNameAsVariable false
set_option maxHeartbeats 8000000
set_option maxRecDepth 100000
section
namespace Go.Vc
variable{o:Oper}{a:Act}{m:I}
variable{b:Program}{T:TT}{G:List Nat}{n:Nat}
def Ki:Op->Bool
 | .alloc _| .box ..| .buildSlice ..| .store ..| .makeSlice ..| .makeMap ..| .lookup ..| .mapUpdate ..| .makeFunc ..=>true
 | .call ⟨.builtin .append,_,_⟩| .call ⟨.builtin .copy,_,_⟩=>true
 | .call ⟨.builtin _,_,_⟩=>false
 | .call _=>true
 |_=>false
def rU(n:Nat):Option Nat->Bool
 |none=>true
 |some d=>Nat.blt d n
def Ke(a:List Oper)(j:Nat):Option Nat:=
 match Hb a j with
 |some o=>o.dst
 |none=>none
def gd(e:List Oper)(a:Fr)(g:Option (Nat×Bool))(Oh b:Fr->Prop):Prop:=
 match g with
 |none=>Oh a
 |some (j,c)=>match Ke e j with
  |none=>False
  |some d=>match gS a d with
   | .tt=>bif c then Oh a else b a
   | .ff=>bif c then b a else Oh a
   | .un=>b a
   | .c (.t x)=>(x=true->bif c then Oh ((d,.tt)::a)else b ((d,.tt)::a))/\(x=false->bif c then b ((d,.ff)::a)else Oh ((d,.ff)::a))
   |_=>False
def rZ(b:Program)(T:TT)(G:List Nat)(n:Nat)(c:List Oper):List Oper->Fr->I->(Fr->I->Prop)->Prop
 |[],a,m,k=>k a m
 |o::jW,a,m,k=>
  bif rU n o.dst then
   gd c a o.guard
    (λa=>bif Ki o.op then wr b T G n a m o.dst o.type (λd x e=>rZ b T G n c jW (tK d o.dst x) e k) o.op
     else rd T a m (λx=>rZ b T G n c jW (tK a o.dst x) m k) o.op)
    (λa=>rZ b T G n c jW (tK a o.dst .un) m k)
  else False
def zm:List Oper->List Nat
 |[]=>[]
 |o::r=>match o.dst with
  |some d=>d::zm r
  |none=>zm r
def mu(M:List Nat)(a b:Act):Prop:=∀t,t∉M->b.tmps.getD t undef=a.tmps.getD t undef
def mu.aB(M:List Nat)(a:Act):mu M a a:=λ_ _=>rfl
def mu.trans{M:List Nat}{a b c:Act}(h:mu M a b)(k:mu M b c):mu M a c:=λt d=>(k t d).trans (h t d)
def mu.put{M:List Nat}{d:Option Nat}(b:∀t,d=some t->t∈M)(v:Value)(a:Act):mu M a (a.put d v):=by
 cases d with
 |none=>exact mu.aB M a
 |some d=>
  intro t f;have c:d≠t:=λe=>f (e▸b d rfl);simp[Act.put,jJ c]
def Kn{d:Nat}(c:o.dst=some d):∀(a:List Oper),o∈a->d∈zm a:=by
 intro a;induction a with
 |nil=>intro h;cases h
 |cons x r e=>
  intro h;rcases List.mem_cons.1 h with b|b
  ·subst b;simp only[zm,c];exact ba
  ·have:=e b;unfold zm;cases x.dst with
   |none=>exact this
   |some f=>exact aj _ this
def Di{d:Option Nat}(h:rU n d=true):∀t,d=some t->t<n:=by
 rintro t rfl;have:Nat.blt t n=true:=h;simpa[Nat.blt,Nat.succ_le_iff]using this
def Ib(k:Array Oper){d:Fr}(f:jU n d a)(e:Bx n d m)(o:Oper){Oh A:Fr->Prop}(h:gd k.toList d o.guard Oh A):
 (Region.wanted o (yielded k a.tmps)=true/\∃b,Oh b/\jU n b a/\Bx n b m)\/
 (Region.wanted o (yielded k a.tmps)=false/\∃b,A b/\jU n b a/\Bx n b m):=by
 unfold gd at h
 cases b:o.guard with
 |none=>
  rw[b]at h
  exact Or.inl ⟨by simp[Region.wanted,b],d,h,f,e⟩
 |some E=>
  obtain⟨s,w⟩:=E
  rw[b]at h
  simp only at h
  split at h
  ·exact h.elim
  ·rename_i g q
   have z:(k[s]?).bind (·.dst)=some g:=by
    unfold Ke at q;rw[pF]at q;have C:k.toList[s]? =k[s]? :=D;rw[C]at q;split at q
    ·rename_i i c;rw[c];exact q
    ·simp at q
   have i:=f.E g
   have y:∀j:Bool,a.tmps.getD g undef=.bool j->yielded k a.tmps s=some j:=by
    intro j l;have:a.tmps[g]? =some (.bool j):=by
     cases r:a.tmps[g]? with
     |none=>rw[yX,r]at l;simp[undef]at l
     |some u=>rw[yX,r]at l;simp at l;rw[l]
    simp[yielded,z,this]
   split at h
   ·rename_i p
    rw[p]at i
    have c:=y true i
    cases w
    ·exact Or.inr ⟨by simp[Region.wanted,b,c],d,h,f,e⟩
    ·exact Or.inl ⟨by simp[Region.wanted,b,c],d,h,f,e⟩
   ·rename_i p
    rw[p]at i
    have c:=y false i
    cases w
    ·exact Or.inl ⟨by simp[Region.wanted,b,c],d,h,f,e⟩
    ·exact Or.inr ⟨by simp[Region.wanted,b,c],d,h,f,e⟩
   ·rename_i p
    rw[p]at i
    have c:yielded k a.tmps s=none:=by
     have t:a.tmps.getD g undef=undef:=i;rw[yX]at t;unfold yielded;rw[z];cases r:a.tmps[g]? with
     |none=>simp[r]
     |some u=>rw[r]at t;simp at t;subst t;simp[r,undef]
    exact Or.inr ⟨by simp[Region.wanted,b,c],d,h,f,e⟩
   ·rename_i x p
    rw[p]at i
    have c:=y x i
    have v:∀j:Bool,x=j->jU n ((g,if j then SV.tt else SV.ff)::d) a:=by
     rintro j rfl;refine⟨f.size,f.defers,λB=>?_⟩;simp only[gS];cases l:Nat.beq g B
     ·exact f.E B
     ·have:=bt l;subst this;cases x<;>exact i
    obtain⟨t,u⟩:=h
    cases x
    ·have u:=u rfl
     cases w
     ·exact Or.inl ⟨by simp[Region.wanted,b,c],_,u,v false rfl,e.fP D⟩
     ·exact Or.inr ⟨by simp[Region.wanted,b,c],_,u,v false rfl,e.fP D⟩
    ·have t:=t rfl
     cases w
     ·exact Or.inr ⟨by simp[Region.wanted,b,c],_,t,v true rfl,e.fP D⟩
     ·exact Or.inl ⟨by simp[Region.wanted,b,c],_,t,v true rfl,e.fP D⟩
   ·exact h.elim
def XN(g:ua b T){c:Fr}(f:jU n c a)(e:Bx n c m){k:SV->Prop}(h:rd T c m k o.op){w:World}(p:w.heap=m)
 {d:Act->World->Prop}{Q:Exit->Act->World->Prop}(j:∀x v,k x->x.Is v->d (a.put o.dst v) w):o.wp b a w d Q:=by
 obtain⟨x,v,i,q,l⟩:=Kz (P:=b) g f e o h
 unfold Oper.wp
 rw[l w (λr _=>by rw[p])]
 exact j x v i q
def uF(l:ua b T)(s:TH b G)(c:Array Oper){Q:Exit->Act->World->Prop}{L:World}{H:Act}:
 ∀(jW:List Oper)(d:Fr)(m:I)(k:Fr->I->Prop)(a:Act)(w:World),(∀o∈jW,o∈c.toList)->rZ b T G n c.toList jW d m k->jU n d a->Bx n d m->w.heap=m->od L w->
  mu (zm c.toList) H a->
  (∀g e f,k g f.heap->jU n g e->Bx n g f.heap->od L f->mu (zm c.toList) H e->Q .normal e f)->wpList b c Q jW a w
 |[],d,m,k,a,w,_,h,y,v,e,r,p,q=>by
  subst e;exact q d a w h y v r p
 |o::jW,d,m,k,a,w,J,h,y,v,e,r,p,q=>by
  simp only[rZ]at h;cases z:rU n o.dst
  ·rw[z]at h;exact h.elim
  ·rw[z]at h;simp only[jw]at h;have A:=Di z;have B:∀u,o.dst=some u->u∈zm c.toList:=λu O=>Kn O _ (J o ba);have C:=λU R=>J U (aj _ R);unfold wpList;rcases Ib c y v o h with⟨E,g,t,j,i⟩|⟨E,g,P,j,i⟩
   ·rw[ao E];refine .inl ?_;cases K:Ki o.op
    ·simp only[K,mC]at t;refine XN l j i t e λW V F D=>?_;exact uF l s c jW _ m k _ w C F (j.put D A) (i.put _ _) e r (p.trans (mu.put B _ _)) q
    ·simp only[K,jw]at t;refine Px l s j i o t w e _ _ λX W V f F N M D S=>?_;exact uF l s c jW _ _ k _ f C F (N.put D A) (M.put _ _) rfl (r.trans S) (p.trans (mu.put B _ _)) q
   ·rw[ae (by rw[E];simp)];exact uF l s c jW _ m k _ w C P (j.put (x:=.un) rfl A) (i.put _ _) e r (p.trans (mu.put B _ _)) q
end Go.Vc
end
section
namespace Go.Vc
variable{P:Program}{T:TT}{G:List Nat}{n:Nat}
def tP:List Nat->Nat->Nat
 |[],_=>0
 |x::_,0=>x
 |_::r,n+1=>tP r n
def lj:List Edge->Nat
 |[]=>0
 |e::r=>bif Region.binds .any e then 2^e.on|||lj r else lj r
def nT(a:List Nat):List Edge->Nat
 |[]=>0
 |e::r=>bif Region.binds .any e then(2^e.on|||tP a e.on)|||nT a r else nT a r
def kV(a:List Nat):List Oper->List Nat->List Nat->Bool
 |[],[],[]=>true
 |o::d,p::e,b::c=>Nat.beq p (lj o.after.toList)&&Nat.beq b (nT a o.after.toList)&&kV a d e c
 |_,_,_=>false
def Q0:Op->List Operand
 | .alloc _| .ready _| .waits _=>[]
 | .move x| .assign x| .box _ x| .load _ x| .nilCheck x| .unOp _ _ x| .convert _ _ x| .sliceToArrayPointer _ x| .makeInterface _ x
 | .makeChan _ x| .fieldAddr _ x _| .field _ x _| .range _ x| .next x _| .entry x| .typeAssert x _ _ _| .extract x _| .panic x| .recv _ x _=>[x]
 | .pick c a b=>[c,a,b]
 | .build _ b| .buildSlice _ _ b=>b.toList.map (·.2)
 | .store _ a v| .binOp _ _ a v _| .makeSlice _ a v| .indexAddr _ a v| .index _ a v| .lookup _ a v _| .mapEntry _ a v| .send a v=>[a,v]
 | .makeFunc _ first a=>first.toList++a.toList
 | .makeMap _ r=>r.toList
 | .slice _ x l h m=>[x]++l.toList++h.toList++m.toList
 | .mapUpdate _ m k v| .entryStore _ m k v| .insert _ m k v=>[m,k,v]
 | .call ⟨.value f,a,_⟩| .go ⟨.value f,a,_⟩| .defer ⟨.value f,a,_⟩=>f::a.toList
 | .call ⟨.invoke f _,a,_⟩| .go ⟨.invoke f _,a,_⟩| .defer ⟨.invoke f _,a,_⟩=>f::a.toList
 | .call ⟨.builtin _,a,_⟩| .go ⟨.builtin _,a,_⟩| .defer ⟨.builtin _,a,_⟩=>a.toList
 | .select a _=>(a.flatMap λc=>#[c.chan]++c.send.toArray).toList
def SU(a:Op):a.operands.toList=Q0 a:=by
 cases a<;>try (simp[Op.operands,Q0];done)
 all_goals
  rename_i c
  obtain⟨b,d,e⟩:=c
  cases b<;>simp[Op.operands,Q0,Call.operands]
def IG(d:Nat):List Operand->Bool
 |[]=>false
 | .tmp t::r=>Nat.beq t d||IG d r
 |_::r=>IG d r
def ND(a:List Oper)(o:Oper)(d:Nat):Bool:=
 IG d (Q0 o.op)||(match o.guard with
  |some (g,_)=>(match Ke a g with|some t=>Nat.beq t d|none=>false)
  |none=>false)
def Nj(a:List Oper)(x y:Oper):Bool:=
 (match x.dst with
  |some d=>!ND a y d&&(match y.dst with|some e=>!Nat.beq d e|none=>true)
  |none=>true)&&
 (match y.dst with
  |some d=>!ND a x d
  |none=>true)
def Wp:Op->Bool
 | .select ..=>true
 |_=>false
def zh(b:List Oper)(i:Nat)(a:Nat)(o:Oper):Nat->List Oper->List Nat->Bool
 |_,[],_=>true
 |_,_,[]=>true
 |j,x::c,p::d=>(Nat.beq j i||Nat.testBit p i||Nat.testBit a j||Nj b o x)&&zh b i a o (j+1) c d
def EM(a:List Oper)(b:List Nat):Nat->List Oper->List Nat->Bool
 |_,[],_=>true
 |_,_,[]=>true
 |i,o::e,c::d=>!Wp o.op&&(Ki o.op||zh a i c o 0 a b)&&EM a b (i+1) e d
def kD(done p i:Nat):Bool:=!(Nat.testBit done i)&&Nat.beq (p&&&done) p
def wJ(done:Nat):Nat->List Oper->List Nat->Option Nat
 |_,[],_=>none
 |_,_,[]=>none
 |i,o::a,p::b=>bif kD done p i&&!(Ki o.op)then some i else wJ done (i+1) a b
def pG(done:Nat):Nat->List Oper->List Nat->List Nat
 |_,[],_=>[]
 |_,_,[]=>[]
 |i,_::a,p::b=>bif kD done p i then i::pG done (i+1) a b else pG done (i+1) a b
def KF(m a:I):List (Nat×Nat)->Prop->Prop
 |[],k=>k
 |(b,o)::r,k=>af a b o=af m b o/\KF m a r k
def CW(a:Nat)(m b:I):List (Nat×List (Nat×Nat))->Prop->Prop
 |[],k=>k
 |(r,c)::L,k=>bif Nat.testBit a r then CW a m b L k else KF m b c (CW a m b L k)
def Ni:List Nat->(Nat->Prop)->Prop
 |[],_=>True
 |[i],f=>f i
 |i::r,f=>f i/\Ni r f
def oG(P:Program)(T:TT)(G:List Nat)(n:Nat)(b:List Oper)(c d:List Nat):Nat->Nat->Fr->I->List (Nat×List (Nat×Nat))->(Fr->I->Prop)->Prop
 |0,done,a,m,_,k=>match pG done 0 b c with
  |[]=>k a m
  |_=>False
 |e+1,done,a,m,L,k=>
  match wJ done 0 b c with
  |some i=>match Hb b i with
   |some o=>bif rU n o.dst then
    gd b a o.guard
     (λa=>rd T a m (λx=>oG P T G n b c d e (done|||2^i) (tK a o.dst x) m ((i,RJ T a o.op)::L) k) o.op)
     (λa=>oG P T G n b c d e (done|||2^i) (tK a o.dst .un) m L k)
    else False
   |none=>False
  |none=>match pG done 0 b c with
   |[]=>k a m
   |h=>Ni h λi=>match Hb b i with
    |some o=>bif rU n o.dst then
     gd b a o.guard
      (λa=>wr P T G n a m o.dst o.type (λg x f=>CW (tP d i) m f L (oG P T G n b c d e (done|||2^i) (tK g o.dst x) f L k)) o.op)
      (λa=>oG P T G n b c d e (done|||2^i) (tK a o.dst .un) m L k)
     else False
    |none=>False
def ng(r:Nat):∀(a:List Edge),Nat.testBit (lj a) r=true<->∃e∈a,Region.binds .any e=true/\e.on=r
 |[]=>by simp[lj]
 |e::a=>by
  have c:=ng r a;simp only[lj];cases b:Region.binds .any e
  ·simp only[mC,c,aU,exists_eq_or_imp,b];simp
  ·simp only[jw,Tt,bT,c,aU,exists_eq_or_imp,b,true_and,Ml,au]
def xX(b:List Nat)(r:Nat):∀(a:List Edge),Nat.testBit (nT b a) r=true->∃e∈a,Region.binds .any e=true/\(e.on=r\/Nat.testBit (tP b e.on) r=true)
 |[],h=>by simp[nT]at h
 |e::a,h=>by
  have i:=xX b r a;simp only[nT]at h;cases f:Region.binds .any e
  ·simp only[f,mC]at h;obtain⟨c,g,d⟩:=i h;exact⟨c,aj _ g,d⟩
  ·simp only[f,jw,Tt,bT,Ml,au]at h;rcases h with h|h
   ·exact⟨e,ba,f,h⟩
   ·obtain⟨c,g,d⟩:=i h;exact⟨c,aj _ g,d⟩
def lL(c:List Nat):∀{e:List Oper}{f a:List Nat},kV c e f a=true->∀(i:Nat)(o:Oper),e[i]? =some o->
 f[i]? =some (lj o.after.toList)/\tP a i=nT c o.after.toList/\∃b,a[i]? =some b
 |[],[],[],_,i,o,h=>by simp at h
 |x::e,p::f,b::a,h,i,o,d=>by
  simp only[kV,bM]at h;obtain⟨⟨g,j⟩,k⟩:=h;cases i with
  |zero=>
   simp at d;subst d;exact⟨by simp[bt g],by simp[tP,bt j],b,D⟩
  |succ i=>
   have:=lL c k i o (by simpa using d);simpa[tP]using this
 |[],[],_::_,h,_,_,_=>by simp[kV]at h
 |[],_::_,_,h,_,_,_=>by simp[kV]at h
 |_::_,[],_,h,_,_,_=>by simp[kV]at h
 |_::_,_::_,[],h,_,_,_=>by simp[kV]at h
def Iu(d:List Nat):∀{a:List Oper}{c b:List Nat},kV d a c b=true->c.length=a.length/\b.length=a.length
 |[],[],[],_=>⟨rfl,rfl⟩
 |x::a,p::c,e::b,h=>by
  simp only[kV,bM]at h;have:=Iu d h.2;simp[this.1,this.2]
 |[],[],_::_,h=>by simp[kV]at h
 |[],_::_,_,h=>by simp[kV]at h
 |_::_,[],_,h=>by simp[kV]at h
 |_::_,_::_,[],h=>by simp[kV]at h
end Go.Vc
end
section
namespace Go.Vc
variable{N a:Nat}{b:Array Bool}
variable{P:Program}{T:TT}{G:List Nat}{n:Nat}
def tA{d:Nat}:∀{a:List Operand},IG d a=false->d∉(a.filterMap λ| .tmp t=>some t|_=>none)
 |[],_=>D
 |x::r,h=>by
  cases x with
  |tmp t=>
   simp only[IG,bz]at h;have b:=tA h.2;have:t≠d:=λe=>by subst e;simp at h
   simp only[List.filterMap_cons,aU,tH];exact⟨λe=>this e.symm,b⟩
  |const v=>simpa using tA (a:=r) (by simpa[IG]using h)
  |global g=>simpa using tA (a:=r) (by simpa[IG]using h)
  |func f=>simpa using tA (a:=r) (by simpa[IG]using h)
def SG(a:Array Oper)(g:Nat):Ke a.toList g=(a[g]?).bind (·.dst):=by
 unfold Ke;rw[pF];have e:a.toList[g]? =a[g]? :=D;rw[e];cases a[g]? <;>rfl
def Ir(b:Array Oper){o:Oper}{d:Nat}(h:ND b.toList o d=false):d∉o.looksAt b:=by
 simp only[ND,bz]at h;unfold Oper.looksAt;rw[SU,List.mem_append,tH];refine⟨tA h.1,?_⟩;have a:=h.2;cases f:o.guard with
 |none=>simp
 |some p=>
  obtain⟨g,i⟩:=p;rw[f]at a;simp only at a⊢;rw[SG]at a;cases c:(b[g]?).bind (·.dst)with
  |none=>simp
  |some t=>
   rw[c]at a;simp only at a;simp only[Option.toList_some,nA];intro e;subst e;simp at a
def Ox(b:Array Oper){x y:Oper}(h:Nj b.toList x y=true):x.apart b y=true:=by
 simp only[Nj,bM]at h;obtain⟨a,d⟩:=h;unfold Oper.apart;simp only[bM];constructor
 ·cases i:x.dst with
  |none=>rfl
  |some f=>
   rw[i]at a;simp only[bM,iv]at a⊢;refine⟨?_,?_⟩
   ·have:=Ir b a.1;simpa using this
   ·have c:=a.2;cases e:y.dst with
    |none=>simp
    |some j=>
     rw[e]at c;simp only[iv]at c;simp only[vj,ne_eq,Da];intro g;subst g;simp at c
 ·cases e:y.dst with
  |none=>rfl
  |some f=>
   rw[e]at d;simp only[iv]at d⊢;have:=Ir b d;simpa using this
def CG(i:List Oper)(a d:Nat)(o:Oper):∀{g:List Oper}{k:List Nat}{c:Nat},zh i a d o c g k=true->∀(j:Nat)(x:Oper)(p:Nat),g[j]? =some x->k[j]? =some p->
 c+j=a\/Nat.testBit p a=true\/Nat.testBit d (c+j)=true\/Nj i o x=true
 |[],_,_,_,j,x,p,h,_=>by simp at h
 |_::_,[],_,_,j,x,p,_,h=>by simp at h
 |y::g,q::k,c,h,j,x,p,f,e=>by
  simp only[zh,bM,bT]at h;obtain⟨b,m⟩:=h;cases j with
  |zero=>
   simp at f e;subst f;subst e;rcases b with((b|b)|b)|b
   ·exact Or.inl (by simpa using bt b)
   ·exact Or.inr (Or.inl b)
   ·exact Or.inr (Or.inr (Or.inl (by simpa using b)))
   ·exact Or.inr (Or.inr (Or.inr b))
  |succ j=>
   have:=CG i a d o m j x p (by simpa using f) (by simpa using e);have l:c+1+j=c+(j+1):=V;rw[l]at this;exact this
def wF(d:List Oper)(j:List Nat):∀{i:List Oper}{e:List Nat}{c:Nat},EM d j c i e=true->∀(a:Nat)(o:Oper)(b:Nat),i[a]? =some o->e[a]? =some b->
 Wp o.op=false/\(Ki o.op=true\/zh d (c+a) b o 0 d j=true)
 |[],_,_,_,a,o,b,h,_=>by simp at h
 |_::_,[],_,_,a,o,b,_,h=>by simp at h
 |y::i,q::e,c,h,a,o,b,g,f=>by
  simp only[EM,bM,bT,iv]at h;obtain⟨⟨l,m⟩,n⟩:=h;cases a with
  |zero=>simp at g f;subst g;subst f;exact⟨l,by simpa using m⟩
  |succ a=>
   have:=wF d j n a o b (by simpa using g) (by simpa using f);have k:c+1+a=c+(a+1):=V;rw[k]at this;exact this
def Iq(p d:Nat):Nat.beq (p&&&d) p=true<->∀r,Nat.testBit p r=true->Nat.testBit d r=true:=by
 constructor
 ·intro h r a;have e:=bt h;rw[<-e,Nat.testBit_and]at a;simp only[bM]at a;exact a.2
 ·intro h;have:p&&&d=p:=by
   apply Nat.eq_of_testBit_eq;intro r;rw[Nat.testBit_and];cases a:Nat.testBit p r
   ·rfl
   ·simp[h r a]
  rw[this];simp
structure Na(N done:Nat)(b:Array Bool):Prop where
 size:b.size=N
 Xe:∀a,b.getD a false=Nat.testBit done a
def Na.un{done:Nat}(h:Na N done b)(c:a<N):b.getD a true=Nat.testBit done a:=by
 rw[<-h.Xe a];have:a<b.size:=by rw[h.size];exact c
 simp[this]
def Na.set{done:Nat}(h:Na N done b)(c:a<N):Na N (done|||2^a) (b.setIfInBounds a true):=by
 refine⟨by simp[h.size],λj=>?_⟩;have d:a<b.size:=by rw[h.size];exact c
 rw[Tt,Ml];by_cases e:a=j
 ·subst e;simp[d]
 ·rw[getD_set_ne false e,h.Xe j];simp[e]
def Hi(d:Array Oper){q h r:List Nat}(n:kV h d.toList q r=true){done:Nat}(g:Na d.size done b)(a:Nat):
 a∈Region.ready .any d b<->∃o p,d[a]? =some o/\q[a]? =some p/\kD done p a=true:=by
 rw[mem_ready]
 constructor
 ·rintro⟨m,o,c,s⟩
  have k:a<d.size:=(Array.getElem?_eq_some_iff.1 c).1
  have l:=(lL h n a o (by simpa using c)).1
  refine⟨o,_,c,l,?_⟩
  simp only[kD,bM,iv]
  refine⟨by rw[<-g.un k];exact m,(Iq _ _).2 λt e=>?_⟩
  obtain⟨f,j,i,rfl⟩:=(ng t _).1 e
  rw[<-g.Xe]
  exact s f (Array.mem_toList_iff.1 j) i
 ·rintro⟨o,p,c,l,e⟩
  have k:a<d.size:=(Array.getElem?_eq_some_iff.1 c).1
  have m:=(lL h n a o (by simpa using c)).1
  rw[l]at m
  simp only[Da]at m
  subst m
  simp only[kD,bM,iv]at e
  refine⟨by rw[g.un k];exact e.1,o,c,λf j i=>?_⟩
  rw[g.Xe]
  exact(Iq _ _).1 e.2 f.on ((ng _ _).2 ⟨f,Array.mem_toList_iff.2 j,i,rfl⟩)
def Ko(done:Nat):∀{d:List Oper}{e:List Nat}{b a:Nat},a∈pG done b d e<->∃j o p,a=b+j/\d[j]? =some o/\e[j]? =some p/\kD done p a=true
 |[],_,_,_=>by simp[pG]
 |_::_,[],_,_=>by simp[pG]
 |x::d,q::e,b,a=>by
  have h:=Ko done (d:=d) (e:=e) (b:=b+1) (a:=a);have k:(∃j o p,a=b+j/\(x::d)[j]? =some o/\(q::e)[j]? =some p/\kD done p a=true)<->
   ((a=b/\kD done q b=true)\/∃j o p,a=b+1+j/\d[j]? =some o/\e[j]? =some p/\kD done p a=true):=by
   constructor
   ·rintro⟨j,o,p,rfl,g,f,c⟩
    cases j with
    |zero=>simp at f;subst f;exact Or.inl ⟨rfl,by simpa using c⟩
    |succ j=>exact Or.inr ⟨j,o,p,V,by simpa using g,by simpa using f,by rwa[show b+(j+1)=b+(j+1)from rfl]at c⟩
   ·rintro(⟨rfl,c⟩|⟨j,o,p,rfl,g,f,c⟩)
    ·exact⟨0,x,q,rfl,D,D,c⟩
    ·exact⟨j+1,o,p,V,by simpa using g,by simpa using f,c⟩
  rw[k,<-h];simp only[pG];cases c:kD done q b
  ·simp
  ·simp
def Ij(done:Nat):∀{d:List Oper}{e:List Nat}{c a:Nat},wJ done c d e=some a->∃j o p,a=c+j/\d[j]? =some o/\e[j]? =some p/\kD done p a=true/\Ki o.op=false
 |[],_,_,_,h=>by simp[wJ]at h
 |_::_,[],_,_,h=>by simp[wJ]at h
 |x::d,q::e,c,a,h=>by
  simp only[wJ]at h;cases b:(kD done q c&&!(Ki x.op))
  ·rw[b]at h;obtain⟨j,o,p,rfl,f,g,i,k⟩:=Ij done h;exact⟨j+1,o,p,V,by simpa using f,by simpa using g,i,k⟩
  ·rw[b]at h;simp at h;subst h;simp only[bM,iv]at b;exact⟨0,x,q,rfl,D,D,b.1,b.2⟩
def Mp:∀{l:List Nat}{f:Nat->Prop},Ni l f->∀a∈l,f a
 |[a],f,h,j,b=>by simp at b;subst b;exact h
 |a::c::r,f,h,j,b=>by
  rcases List.mem_cons.1 b with rfl|b
  ·exact h.1
  ·exact Mp h.2 j b
def KG{m b:I}:∀{l:List (Nat×Nat)}{k:Prop},KF m b l k->k/\∀q∈l,af b q.1 q.2=af m q.1 q.2
 |[],k,h=>⟨h,D⟩
 |(e,o)::r,k,h=>by
  obtain⟨c,d⟩:=KG h.2;refine⟨c,λq a=>?_⟩;rcases List.mem_cons.1 a with rfl|a
  ·exact h.1
  ·exact d q a
def EA{c:Nat}{m g:I}:∀{L:List (Nat×List (Nat×Nat))}{k:Prop},CW c m g L k->k/\∀x∈L,Nat.testBit c x.1=false->∀q∈x.2,af g q.1 q.2=af m q.1 q.2
 |[],k,h=>⟨h,D⟩
 |(r,l)::L,k,h=>by
  simp only[CW]at h;cases f:Nat.testBit c r
  ·rw[f]at h;obtain⟨i,j⟩:=KG h;obtain⟨d,e⟩:=EA i;refine⟨d,λx a b=>?_⟩;rcases List.mem_cons.1 a with rfl|a
   ·exact j
   ·exact e x a b
  ·rw[f]at h;obtain⟨d,e⟩:=EA h;refine⟨d,λx a b=>?_⟩;rcases List.mem_cons.1 a with rfl|a
   ·rw[f]at b;cases b
   ·exact e x a b
def Y5(L:List (Nat×List (Nat×Nat)))(b:List (Nat×(World->Prop))):Prop:=
 ∀x∈b,(∀w,x.2 w)\/∃(a:List (Nat×Nat))(c:Nat×Nat->Option Value),(x.1,a)∈L/\x.2=λw=>∀q∈a,af w.heap q.1 q.2=c q
end Go.Vc
end
section
namespace Go.Vc
variable{a:Program}{T:TT}{G:List Nat}{n:Nat}
def N3(hT:ua a T)(hG:TH a G)(b:Array Oper)(W f:List Nat)(z:kV f b.toList W f=true)(ap:EM b.toList W 0 b.toList f=true)
 {ah:Exit->Act->World->Prop}(hQ:∀O g w,¬ah (.panic O) g w){w0:World}{a0:Act}:
 ∀(E done:Nat)(D:Fr)(ad:I)(M:List (Nat×List (Nat×Nat)))(B:Fr->I->Prop)(N:List (Nat×(World->Prop)))(c:Array Bool)(g:Act)(w:World),
  oG a T G n b.toList W f E done D ad M B->Y5 M N->Na b.size done c->Gv (λi L=>Nat.testBit (tP f i) L) c->jU n D g->Bx n D ad->w.heap=ad->od w0 w->
  mu (zm b.toList) a0 g->
  (∀s d k,B s k.heap->jU n s d->Bx n s k.heap->od w0 k->mu (zm b.toList) a0 d->ah .normal d k)->
  vf a .any b ah (λi L=>Nat.testBit (tP f i) L) N E c g w:=by
 have F:TC .any b (λi L=>Nat.testBit (tP f i) L):=by
  intro i L o d p;have Y:=(lL f z i o (by simpa using d)).2.1;simp only[Y]at p;obtain⟨e,he,hb,h⟩:=xX f L _ p;exact⟨e,Array.mem_toList_iff.1 he,hb,h⟩
 have aG:=Iu f z
 have aw:∀(j:Nat)(o:Oper) cs r,b[j]? =some o->o.op≠.select cs r:=by
  intro j o cs r d e;obtain⟨_,_,bj,az⟩:=lL f z j o (by simpa using d);have:=(wF _ _ ap j o bj (by simpa using d) az).1;rw[e]at this;simp[Wp]at this
 have am:∀{done:Nat}{c:Array Bool},Na b.size done c->∀i,i∈Region.ready .any b c<->i∈pG done 0 b.toList W:=by
  intro done c hD i;rw[Hi b z hD i,Ko];constructor
  ·rintro⟨o,U,d,Q,p⟩;exact⟨i,o,U,V,by simpa using d,Q,p⟩
  ·rintro⟨j,o,U,e,d,Q,p⟩;have:i=j:=V;subst this;exact⟨o,U,by simpa using d,Q,p⟩
 have av:∀{done:Nat}{c:Array Bool},Na b.size done c->pG done 0 b.toList W=[]->Region.ready .any b c=[]:=by
  intro done c hD h;apply List.eq_nil_iff_forall_not_mem.2;intro i m;rw[am hD i,h]at m;cases m
 intro E
 induction E with
 |zero=>
  intro done D ad M B N c g w h hL hD hC hR hB hw hs hk hq
  subst hw
  simp only[oG]at h
  split at h
  ·rename_i h0
   exact⟨av hD h0,hq D g w h hR hB hs hk⟩
  ·exact h.elim
 |succ E R=>
  intro done D ad M B N c g w h hL hD hC hR hB hw hs hk hq
  subst hw
  simp only[oG]at h
  split at h
  · -- a reading is taken first
   rename_i i m
   obtain⟨j,o,U,e,d,Q,p,aE⟩:=Ij done m
   have:i=j:=V
   subst this
   rw[pF,d]at h
   simp only at h
   have A:b[i]? =some o:=by simpa using d
   have ab:i<b.size:=(Array.getElem?_eq_some_iff.1 A).1
   have ac:i∈Region.ready .any b c:=(Hi b z hD i).2 ⟨o,U,A,Q,p⟩
   cases H:rU n o.dst
   ·rw[H]at h;exact h.elim
   ·rw[H]at h
    simp only[jw]at h
    have Z:=Di H
    have aa:∀C,o.dst=some C->C∈zm b.toList:=λC ai=>Kn ai _ (iZ d)
    have ar:∀j J,b[j]? =some J->j≠i->c.getD j true=false->(∀e∈J.after,Region.binds .any e=true->e.on≠i)->o.apart b J=true:=by
     intro j J al aB au aC;have aA:j<b.size:=(Array.getElem?_eq_some_iff.1 al).1;obtain⟨_,aF,bi,aq⟩:=lL f z i o d;rcases(wF _ _ ap i o bi d aq).2 with t|t
     ·rw[aE]at t;cases t
     ·have X:=(lL f z j J (by simpa using al)).1;have u:tP f i=bi:=by
       have:∀(l:List Nat)(i r:Nat),l[i]? =some r->tP l i=r:=by
        intro l;induction l with
        |nil=>intro i r h;simp at h
        |cons ag l R=>intro i r h;cases i with
         |zero=>simpa[tP]using h
         |succ i=>simpa[tP]using R i r (by simpa using h)
       exact this f i bi aq
      rcases CG _ _ _ _ t j J _ (by simpa using al) X with e|e|e|e
      ·exact absurd V aB
      ·rw[cC]at e;obtain⟨q,y,hb,K⟩:=(ng i _).1 e;exact absurd K (aC q (Array.mem_toList_iff.1 y) hb)
      ·rw[cC,<-u]at e;have:=wS F hC ac e;rw[hD.Xe]at this;rw[hD.un aA,this]at au;cases au
      ·exact Ox b e
    rcases Ib b hR hB o h with⟨K,s,an,y,u⟩|⟨K,s,ak,y,u⟩
    ·obtain⟨ag,ax,hx,hv,aD⟩:=Kz (P:=a) hT y u o an
     let ay:World->Prop:=λk=>∀q∈RJ T s o.op,af k.heap q.1 q.2=af w.heap q.1 q.2
     refine Gs (S:=ay) F A aw (λO g w hc=>absurd hc (hQ _ _ _)) E c g w hC ar ac (F:=ax) (Or.inl ⟨K,λk l=>aD k l⟩) (λq _=>rfl) ?_
     refine R _ _ _ _ B _ _ _ w hx ?_ (hD.set ab) (hC.set F ac) (y.put hv Z) (u.put _ _) rfl hs (hk.trans (mu.put aa _ _)) hq
     intro X l
     rcases List.mem_cons.1 l with rfl|l
     ·exact Or.inr ⟨_,λq=>af w.heap q.1 q.2,ba,rfl⟩
     ·rcases hL X l with t|⟨As,O,Y,h2⟩
      ·exact Or.inl t
      ·exact Or.inr ⟨As,O,aj _ Y,h2⟩
    ·refine Gs (S:=λ_=>True) F A aw (λO g w hc=>absurd hc (hQ _ _ _)) E c g w hC ar ac (F:=undef) (Or.inr ⟨K,rfl⟩) trivial ?_
     refine R _ _ _ _ B _ _ _ w ak ?_ (hD.set ab) (hC.set F ac) (y.put (x:=.un) rfl Z) (u.put _ _) rfl hs (hk.trans (mu.put aa _ _)) hq
     intro X l
     rcases List.mem_cons.1 l with rfl|l
     ·exact Or.inl λ_=>trivial
     ·exact hL X l
  ·split at h
   ·rename_i h0
    exact Pw (av hD h0) (hq D g w h hR hB hs hk) _
   ·rename_i rs ay
    have au:=Mp h
    refine Qz ?_ ?_
    ·intro e
     apply ay
     cases J:pG done 0 b.toList W with
     |nil=>rfl
     |cons ag xs=>
      have:ag∈Region.ready .any b c:=(am hD ag).2 (by rw[J];exact ba)
      rw[e]at this
      cases this
    ·intro i m
     have J:=au i ((am hD i).1 m)
     obtain⟨o,U,A,Q,p⟩:=(Hi b z hD i).1 m
     have d:b.toList[i]? =some o:=by simpa using A
     have ab:i<b.size:=(Array.getElem?_eq_some_iff.1 A).1
     rw[pF,d]at J
     simp only at J
     cases H:rU n o.dst
     ·rw[H]at J;exact J.elim
     ·rw[H]at J
      simp only[jw]at J
      have Z:=Di H
      have aa:∀C,o.dst=some C->C∈zm b.toList:=λC ai=>Kn ai _ (iZ d)
      unfold wpOp
      simp only[A]
      rcases Ib b hR hB o J with⟨K,s,an,y,u⟩|⟨K,s,ak,y,u⟩
      ·rw[ao K]
       refine .inl (Px hT hG y u o an w rfl _ _ λaE ag ax k hx ar aq hv aA=>?_)
       obtain⟨aB,aC⟩:=EA hx
       refine⟨λX l aD ac=>?_,R _ _ _ M B N _ _ k aB hL (hD.set ab) (hC.set F m) (ar.put hv Z) (aq.put _ _) rfl (hs.trans aA) (hk.trans (mu.put aa _ _)) hq⟩
       rcases hL X l with t|⟨As,O,Y,h2⟩
       ·exact t k
       ·rw[h2]at ac⊢
        intro q al
        rw[aC _ Y aD q al,ac q al]
      ·rw[ae (by rw[K];simp)]
       exact⟨λX l _ ac=>ac,R _ _ _ M B N _ _ w ak hL (hD.set ab) (hC.set F m) (y.put (x:=.un) rfl Z) (u.put _ _) rfl hs (hk.trans (mu.put aa _ _)) hq⟩
end Go.Vc
end
section
namespace Go.Vc
variable{M:List Nat}{a:Act}{s:Sh}{y:s.ty}
variable{P:Program}{T:TT}{G:List Nat}{b:Nat}
structure Od where
 SJ:List (Nat×List (Nat×Sh))
 T9:List (Nat×List (Nat×Sh))
 dW:List (Nat×List Nat)
def lk{α:Type}:List (Nat×α)->Nat->Option α
 |[],_=>none
 |(u,x)::r,t=>bif Nat.beq u t then some x else lk r t
def CK:Code->Option Nat
 | .region id _ _=>some id
 | .seq a b=>match CK a with
  |some i=>some i
  |none=>CK b
 | .cond _ a b=>match CK a with
  |some i=>some i
  |none=>CK b
 | .block _ c=>CK c
 | .loop c=>CK c
 | .scope c=>CK c
 |_=>none
def Vf{α:Type}(l:List (Nat×α))(c:Code):Option α:=
 match CK c with
 |some i=>lk l i
 |none=>none
def Gz:List (Nat×Sh)->Type
 |[]=>I->Prop
 |(_,s)::r=>s.ty->Gz r
def Nd:List (Nat×Sh)->Type
 |[]=>I->Nat
 |(_,s)::r=>s.ty->Nd r
def P7:(s:Sh)->SV->Option s.ty
 | .I,.c (.i b)=>some b
 | .U k,.c (.u c b)=>if k=c then some b else none
 | .T,.c (.t c)=>some c
 | .T,.tt=>some true
 | .T,.ff=>some false
 | .S,.c (.s x)=>some x
 | .P,.c (.p c o)=>some (c,o)
 | .P,.c (.bp _ c o)=>some (c,o)
 | .F,.c (.fn f a d)=>some (f,a,d)
 | .F,.c (.fv q)=>some q
 | .M,.c (.mp c)=>some c
 |_,_=>none
def GG:(l:List (Nat×Sh))->Gz l->Fr->I->Prop
 |[],a,_,m=>a m
 |(t,s)::r,a,b,m=>match P7 s (gS b t)with
  |some x=>GG r (a x) b m
  |none=>False
def Nk:(l:List (Nat×Sh))->Gz l->Nd l->Fr->I->Nat->Prop
 |[],a,μ,_,m,N=>a m/\μ m<N
 |(t,s)::r,a,μ,b,m,N=>match P7 s (gS b t)with
  |some x=>Nk r (a x) (μ x) b m N
  |none=>False
def Ou:(l:List (Nat×Sh))->Gz l->Fr->(Fr->(I->Prop)->Prop)->Prop
 |[],a,b,k=>k b a
 |(t,s)::r,a,b,k=>∀x:s.ty,Ou r (a x) ((t,.c (s.mk x))::b) k
def Ov:(l:List (Nat×Sh))->Gz l->Nd l->Fr->(Fr->(I->Prop)->(I->Nat)->Prop)->Prop
 |[],a,μ,b,k=>k b a μ
 |(t,s)::r,a,μ,b,k=>∀x:s.ty,Ov r (a x) (μ x) ((t,.c (s.mk x))::b) k
def nt:List Nat->Fr->Fr
 |[],a=>a
 |t::r,a=>(t,.fP)::nt r a
def oB:Code->List Nat
 | .region _ b _=>zm b.toList
 | .seq a b=>oB a++oB b
 | .cond _ a b=>oB a++oB b
 | .block _ c=>oB c
 | .loop c=>oB c
 |_=>[]
def pK(M:List Nat):List (Nat×Sh)->Bool
 |[]=>true
 |(t,_)::r=>uP t M&&pK M r
def Wd(x y:SV)(k:Prop):Prop:=x=y/\k
def aC(x:SV)(k:Prop):Wd x x k=k:=by simp[Wd]
def kj(A:Od)(c:Code):List Nat:=
 match Vf A.dW c with
 |some K=>K
 |none=>[]
def CH(b:Nat)(K:List Nat):Fr->List Nat
 |[]=>[]
 |(q,_)::r=>bif Nat.ble b q&&!uP q K then q::CH b K r else CH b K r
def uc(b:Nat)(K:List Nat)(a:Fr):Fr:=nt (CH b K a) a
def Tw(a b:Fr):List Nat->Prop->Prop
 |[],k=>k
 |q::K,k=>Wd (gS b q) (gS a q) (Tw a b K k)
def Ky(c:Fr):Op->Option SV
 | .move x| .assign x=>match ev c x with
  | .fP=>none
  |y=>some y
 | .binOp d _ x y _=>match ev c x,ev c y with
  | .c (.i a),.c (.i b)=>match d with
   | .eql=>some (.c (.t (a==b)))
   | .neq=>some (.c (.t (a !=b)))
   | .lss=>some (.c (.t (decide (a<b))))
   | .leq=>some (.c (.t (decide (a<=b))))
   | .gtr=>some (.c (.t (decide (a>b))))
   | .geq=>some (.c (.t (decide (a>=b))))
   |_=>none
  |_,_=>none
 |_=>none
def qK(b:Nat):List Oper->Fr->Option Fr
 |[],a=>some a
 |o::r,a=>bif rU b o.dst then
  match o.guard with
  |none=>match Ky a o.op with
   |some x=>qK b r (tK a o.dst x)
   |none=>none
  |some _=>none
  else none
def Vh(A:Od)(b t:Nat):Code->Fr->Option Bool
 | .region _ e false,d=>match qK b e.toList d with
  |some a=>kZ (gS a t)
  |none=>none
 | .seq (.region _ e false) (.cond (.tmp u) .skip c),d=>
  match Vf A.T9 (.cond (.tmp u) .skip c)with
  |some _=>none
  |none=>bif Nat.beq u t&&uP t (oB c)then
   match qK b e.toList d with
   |some a=>match kZ (gS a t),Vh A b t c a with
    |some x,some y=>some (x||y)
    |_,_=>none
   |none=>none
   else none
 |_,_=>none
def XG(A:Od)(b:Nat)(d:Operand)(a c:Code)(e:Fr):Option (Nat×Bool):=
 match d,a with
 | .tmp t,.skip=>bif uP t (oB c)then
  match Vh A b t c e with
  |some y=>some (t,y)
  |none=>none
  else none
 |_,_=>none
def uo(a:Fr)(c:Operand)(v:SV):Fr:=
 match c with
 | .tmp t=>(t,v)::a
 |_=>a
def Un:List Oper->List Nat
 |[]=>[]
 |o::r=>lj o.after.toList::Un r
def Sf:List Nat->List Oper->List Nat
 |a,[]=>a
 |a,o::r=>Sf (a++[nT a o.after.toList]) r
def pZ:Code->Bool
 | .region _ b c=>!c||(kV (Sf [] b.toList) b.toList (Un b.toList) (Sf [] b.toList)&&EM b.toList (Un b.toList) 0 b.toList (Sf [] b.toList))
 | .seq a b=>pZ a&&pZ b
 | .cond _ a b=>pZ a&&pZ b
 | .block _ c=>pZ c
 | .loop c=>pZ c
 |_=>true
def vc(P:Program)(T:TT)(G:List Nat)(b:Nat)(A:Od):Code->Fr->I->(Exit->Fr->I->Prop)->Prop
 | .skip,c,m,Q=>Q .normal c m
 | .region id d e,c,m,Q=>
  bif e then oG P T G b d.toList (Un d.toList) (Sf [] d.toList) d.toList.length 0 c m [] (λc m=>Q .normal c m)
  else rZ P T G b d.toList d.toList c m (λc m=>Q .normal c m)
 | .seq a g,c,m,Q=>match Vf A.T9 g with
  |none=>vc P T G b A a c m λ
   | .normal,e,d=>vc P T G b A g e d Q
   |h,e,d=>Q h e d
  |some l=>bif pK (oB a) l then∃K:Gz l,(vc P T G b A a c m λ
   | .normal,e,d=>Tw c e (kj A g) (GG l K e d)
   |h,e,d=>Q h e d)/\
   (Ou l K (nt (oB a) (uc b (kj A g) c)) λe f=>∀d,f d->vc P T G b A g e d Q)else False
 | .cond f a g,c,m,Q=>match ev c f with
  | .tt=>vc P T G b A a c m Q
  | .ff=>vc P T G b A g c m Q
  | .c (.t x)=>match XG A b f a g c with
   |some (t,y)=>Q .normal ((t,.c (.t (x||y)))::nt (oB g) c) m
   |none=>(x=true->vc P T G b A a (uo c f .tt) m Q)/\(x=false->vc P T G b A g (uo c f .ff) m Q)
  |_=>False
 | .block id f,c,m,Q=>vc P T G b A f c m λ
  | .exit i,e,d=>bif Nat.beq i id then Q .normal e d else Q (.exit i) e d
  |h,e,d=>Q h e d
 | .loop f,c,m,Q=>match Vf A.SJ f with
  |none=>False
  |some l=>bif pK (oB f) l then∃(i:Gz l)(μ:Nd l),GG l i c m/\
   (Ov l i μ (nt (oB f) (uc b (kj A f) c)) λe k μ'=>∀d,k d->vc P T G b A f e d λ
    | .normal,g,j=>Tw c g (kj A f) (Nk l i μ g j (μ' d))
    |h,g,j=>Q h g j)else False
 | .exit id,c,m,Q=>Q (.exit id) c m
 | .ret,c,m,Q=>Q .ret c m
 |_,_,_,_=>False
def mu.mono{b:List Nat}{c:Act}(h:mu M a c)(e:∀t∈M,t∈b):mu b a c:=λt f=>h t λd=>f (e t d)
def Bg:∀(M:List Nat)(a:Fr)(t:Nat),(t∈M/\gS (nt M a) t=.fP)\/(t∉M/\gS (nt M a) t=gS a t)
 |[],_,_=>Or.inr ⟨D,rfl⟩
 |u::M,a,t=>by
  simp only[nt,gS];cases d:Nat.beq u t
  ·have f:u≠t:=λe=>by subst e;simp at d
   rcases Bg M a t with⟨b,c⟩|⟨b,c⟩
   ·exact Or.inl ⟨aj _ b,c⟩
   ·exact Or.inr ⟨by simp only[aU,tH];exact⟨λe=>f e.symm,b⟩,c⟩
  ·have:=bt d;subst this;exact Or.inl ⟨ba,rfl⟩
def zR{d:Fr}{c:Act}(g:jU b d a)(k:c.tmps.size=b)(i:c.defers=[])(j:mu M a c):jU b (nt M d) c:=by
 refine⟨k,i,λt=>?_⟩;rcases Bg M d t with⟨_,h⟩|⟨e,f⟩
 ·rw[h];trivial
 ·rw[f,j t e];exact g.E t
def jU.nt{c:Fr}{a:Act}(d:jU b c a):∀(M:List Nat),jU b (nt M c) a
 |[]=>d
 |t::M=>(jU.nt d M).fP t
def Bx.nt{a:Fr}{m:I}(h:Bx b a m):∀(M:List Nat),Bx b (nt M a) m
 |[]=>h
 |t::M=>(Bx.nt h M).fP D
def Mu{K:List Nat}{q:Nat}(d:b<=q)(c:q∉K):∀{a:Fr},q∈CH b K a\/gS a q=.fP
 |[]=>Or.inr rfl
 |(u,x)::r=>by
  simp only[CH,gS];cases i:Nat.beq u q
  ·rcases Mu d c (a:=r)with h|h
   ·left;cases(Nat.ble b u&&!uP u K)
    ·exact h
    ·exact aj _ h
   ·exact Or.inr h
  ·have:=bt i;subst this;have f:uP u K=false:=by
    cases g:uP u K
    ·rfl
    ·exact absurd (G6 g) c
   have e:Nat.ble b u=true:=WO d;simp[f,e]
def J6{b c:Fr}:∀{K:List Nat}{k:Prop},Tw b c K k->(∀q∈K,gS c q=gS b q)/\k
 |[],k,h=>⟨D,h⟩
 |q::K,k,h=>by
  obtain⟨d,e⟩:=J6 h.2;refine⟨λu a=>?_,e⟩;rcases List.mem_cons.1 a with rfl|a
  ·exact h.1
  ·exact d u a
def Bx.kj{K:List Nat}{c j:Fr}{v p:I}(h:Bx b c v)(r:Bx b j p)(s:∀q∈K,gS j q=gS c q):Bx b (Vc.nt M (uc b K c)) p:=by
 have i:∀{q d e l},lC (Vc.nt M (uc b K c)) q d e l->lC c q d e l/\lC j q d e l:=by
  intro q d e l a;have f:gS (Vc.nt M (uc b K c)) q=gS (uc b K c) q\/gS (Vc.nt M (uc b K c)) q=.fP:=by
   rcases Bg M (uc b K c) q with⟨_,h⟩|⟨_,h⟩
   ·exact Or.inr h
   ·exact Or.inl h
  unfold lC at a;rcases f with f|f
  ·rw[f]at a;unfold uc at a;rcases Bg (CH b K c) c q with⟨_,g⟩|⟨k,g⟩
   ·rw[g]at a;simp at a
   ·rw[g]at a;have t:b<=q:=h.key q d e l a;by_cases o:q∈K
    ·refine⟨a,?_⟩;unfold lC;rw[s q o];exact a
    ·rcases Mu (b:=b) t o (a:=c)with m|m
     ·exact absurd m k
     ·rw[m]at a;simp at a
  ·rw[f]at a;simp at a
 exact⟨λq d e l a=>r.F q d e l (i a).2,λq w d e l m o u t k g=>h.Nn q w d e l m o u t (i k).1 (i g).1,λq d e l a=>h.key q d e l (i a).1⟩
def Rp{x:SV}(h:P7 s x=some y):x.jx=true/\x.v=(s.mk y).v:=by
 unfold P7 at h;split at h<;>first|(simp at h;subst h;exact⟨rfl,rfl⟩)|skip
 ·split at h
  ·rename_i a;subst a;simp at h;subst h;exact⟨rfl,rfl⟩
  ·simp at h
 ·simp at h
def KC{d bY:Fr}{t:Nat}(g:jU b d a)(c:jU b bY a)(h:P7 s (gS d t)=some y):jU b ((t,.c (s.mk y))::bY) a:=by
 refine⟨c.size,c.defers,λu=>?_⟩;simp only[gS];cases i:Nat.beq t u
 ·exact c.E u
 ·have:=bt i;subst this;have e:=g.E t;obtain⟨j,k⟩:=Rp h;have f:=e.eq j;show _=_;rw[f,k];rfl
def RU:(l:List (Nat×Sh))->Gz l->Nd l->Fr->Fr->(I->Prop)->(I->Nat)->Prop
 |[],a,μ,c,d,b,μ'=>d=c/\b=a/\μ'=μ
 |(t,s)::r,a,μ,c,d,b,μ'=>∃x:s.ty,RU r (a x) (μ x) ((t,.c (s.mk x))::c) d b μ'
def Mq:∀{l:List (Nat×Sh)}{b:Gz l}{μ:Nd l}{c:Fr}{k:Fr->(I->Prop)->(I->Nat)->Prop},Ov l b μ c k->∀{fr' I' μ'},RU l b μ c fr' I' μ'->k fr' I' μ'
 |[],_,_,_,_,h,_,_,_,a=>by obtain⟨rfl,rfl,rfl⟩:=a;exact h
 |(t,s)::r,_,_,_,_,h,_,_,_,a=>by obtain⟨x,a⟩:=a;exact Mq (h x) a
def Sh.SN(s:Sh)(x:s.ty)(b e:Nat)(l:List Ce):SV.c (s.mk x)≠.box b e l/\SV.c (s.mk x)≠.zj b e l:=⟨D,D⟩
def Mt{a:Act}{i:Fr}(j:jU b i a):∀{l:List (Nat×Sh)}{c:Gz l}{μ:Nd l}{bY:Fr}{m:I}{N:Nat},jU b bY a->Bx b bY m->Nk l c μ i m N->
 ∃d e μ',RU l c μ bY d e μ'/\jU b d a/\Bx b d m/\e m/\μ' m<N
 |[],c,μ,bY,_,_,g,f,h=>⟨bY,c,μ,⟨rfl,rfl,rfl⟩,g,f,h.1,h.2⟩
 |(t,s)::r,c,μ,bY,m,N,g,f,h=>by
  simp only[Nk]at h;split at h
  ·rename_i x q;obtain⟨d,e,μ',k,n,o,p⟩:=Mt j (KC j g q) (f.fP (s.SN x)) h;exact⟨d,e,μ',⟨x,k⟩,n,o,p⟩
  ·exact h.elim
def Ms{a:Act}{i:Fr}(j:jU b i a):∀{l:List (Nat×Sh)}{c:Gz l}{μ:Nd l}{bY:Fr}{m:I},jU b bY a->Bx b bY m->GG l c i m->
 ∃d e μ',RU l c μ bY d e μ'/\jU b d a/\Bx b d m/\e m
 |[],c,μ,bY,_,g,f,h=>⟨bY,c,μ,⟨rfl,rfl,rfl⟩,g,f,h⟩
 |(t,s)::r,c,μ,bY,m,g,f,h=>by
  simp only[GG]at h;split at h
  ·rename_i x p;obtain⟨d,e,μ',k,n,o⟩:=Ms j (KC j g p) (f.fP (s.SN x)) h;exact⟨d,e,μ',⟨x,k⟩,n,o⟩
  ·exact h.elim
def Oy{a:Act}{j:Fr}(n:jU b j a):∀{l:List (Nat×Sh)}{c:Gz l}{bY:Fr}{m:I}{k:Fr->(I->Prop)->Prop},jU b bY a->Bx b bY m->GG l c j m->Ou l c bY k->
 ∃d i,k d i/\jU b d a/\Bx b d m/\i m
 |[],c,bY,_,_,f,e,h,g=>⟨bY,c,g,f,e,h⟩
 |(t,s)::r,c,bY,m,k,f,e,h,g=>by
  simp only[GG]at h;split at h
  ·rename_i x o;exact Oy n (KC n f o) (e.fP (s.SN x)) h (g x)
  ·exact h.elim
def RG{l:Code}{Q:Exit->Act->World->Prop}(b:Nat->Act->World->Prop)
 (r:∀N a w,b N a w->l.wp P (Exit.then (λg k=>∃d,d<N/\b d g k) Q) a w):∀N a w,b N a w->(Code.loop l).wp P Q a w:=by
 have q:∀N a w,b N a w->∃M,b M a w/\∀c,c<M->¬b c a w:=by
  intro N;induction N using Nat.strongRecOn with
  |_ N j=>
   intro a w h;by_cases e:∃c,c<N/\b c a w
   ·obtain⟨c,f,i⟩:=e;exact j c f a w i
   ·exact⟨N,h,λc i f=>e ⟨c,i,f⟩⟩
 intro N a w o
 classical
 let μ:Act->World->Nat:=λa w=>if h:∃M,b M a w/\∀c,c<M->¬b c a w then Classical.choose h else 0
 have hμ:∀a w N,b N a w->b (μ a w) a w/\μ a w<=N:=by
  intro a w N h;have e:=q N a w h;have i:μ a w=Classical.choose e:=RL e;have n:=eS e;rw[i];refine⟨n.1,?_⟩;rcases be N (Classical.choose e)with j|p
  ·exact absurd h (n.2 N j)
  ·exact p
 refine wp_loop (λa w=>∃N,b N a w) μ ⟨N,o⟩ ?_
 rintro a w ⟨N,h⟩
 refine Code.wp_mono ?_ (r (μ a w) a w (hμ a w N h).1)
 intro i g k m
 cases i with
 |normal=>
  obtain⟨d,j,f⟩:=m
  exact⟨⟨d,f⟩,nC (hμ g k d f).2 j⟩
 |_=>exact m
end Go.Vc
end
section
namespace Go.Vc
variable{i w:World}{j p:List Nat}{l a:Act}{f:Exit->Fr->I->Prop}{e:Exit}{b:I}
variable{g:Program}{h:TT}{G:List Nat}{d:Nat}{o:Od}
def j7(d:Nat)(i:World)(j:List Nat)(l:Act)(f:Exit->Fr->I->Prop):Exit->Act->World->Prop
 | .panic _,_,_=>False
 | .outgrown,_,_=>False
 |e,a,w=>∃b,jU d b a/\Bx d b w.heap/\od i w/\mu j l a/\f e b w.heap
def j7.mk{b:Fr}(g:(∀c,e≠.panic c)/\e≠.outgrown)
 (k:jU d b a)(h:Bx d b w.heap)(o:od i w)(m:mu j l a)(n:f e b w.heap):j7 d i j l f e a w:=by
 cases e with
 |panic c=>exact absurd rfl (g.1 c)
 |outgrown=>exact absurd rfl g.2
 |_=>exact⟨b,k,h,o,m,n⟩
def j7.aW(h:j7 d i j l f e a w):
 ((∀c,e≠.panic c)/\e≠.outgrown)/\∃b,jU d b a/\Bx d b w.heap/\od i w/\mu j l a/\f e b w.heap:=by
 cases e with
 |panic c=>exact h.elim
 |outgrown=>exact h.elim
 |_=>exact⟨⟨D,D⟩,h⟩
def j7.left(h:j7 d i j l f e a w):j7 d i (j++p) l f e a w:=by
 obtain⟨g,q,c,b,n,k,m⟩:=h.aW;exact j7.mk g c b n (k.mono (λt o=>bL _ o)) m
def j7.right(h:j7 d i j l f e a w):j7 d i (p++j) l f e a w:=by
 obtain⟨g,q,c,b,n,k,m⟩:=h.aW;exact j7.mk g c b n (k.mono (λt o=>fC _ o)) m
def Rx{f:Fr}{e:Op}{x:SV}{k:SV->Prop}(c:Ky f e=some x)(d:k x):Ki e=false/\rd h f b k e:=by
 unfold Ky at c;split at c
 ·split at c
  ·simp at c
  ·simp at c;subst c;exact⟨rfl,d⟩
 ·split at c
  ·simp at c
  ·simp at c;subst c;exact⟨rfl,d⟩
 ·rename_i o t y z l;split at c
  ·rename_i a j g i;refine⟨rfl,?_⟩;simp only[rd,g,i];split at c<;>simp at c<;>subst c<;>exact d
  ·simp at c
 ·simp at c
def DA(j:List Oper){b:I}{i:Fr->I->Prop}:∀{p:List Oper}{c e:Fr},qK d p c=some e->i e b->rZ g h G d j p c b i
 |[],c,e,a,f=>by simp[qK]at a;subst a;exact f
 |o::t,c,e,a,f=>by
  simp only[qK]at a;simp only[rZ];cases l:rU d o.dst
  ·rw[l]at a;simp at a
  ·rw[l]at a;simp only[jw]at a⊢;cases n:o.guard with
   |some q=>rw[n]at a;simp at a
   |none=>
    rw[n]at a;simp only[gd]at a⊢;split at a
    ·rename_i x s;obtain⟨q,r⟩:=Rx (h:=h) (b:=b) (k:=λx=>rZ g h G d j t (tK c o.dst x) b i) s (DA j a f);rw[q];exact r
    ·simp at a
def SW(p:Nat){b:I}{f:Exit->Fr->I->Prop}:∀(k:Code)(n:Fr)(y:Bool),Vh o d p k n=some y->(∀i,kZ (gS i p)=some y->f .normal i b)->vc g h G d o k n b f
 | .region id A e,n,y,a,m=>by
  cases e
  ·simp only[Vh]at a;simp only[vc,mC];split at a
   ·rename_i i q;exact DA _ q (m i a)
   ·simp at a
  ·simp[Vh]at a
 | .seq (.region id A false) (.cond (.tmp u) .skip k),n,y,a,m=>by
  simp only[Vh]at a;split at a
  ·simp at a
  ·rename_i w;cases l:(Nat.beq u p&&uP p (oB k))
   ·rw[l]at a;simp at a
   ·rw[l]at a;simp only[jw]at a;simp only[bM]at l;have z:=bt l.1;subst z;split at a
    ·rename_i i q;split at a
     ·rename_i C B e r;simp at a;subst a;rw[vc,w];simp only;rw[vc];simp only[mC];refine DA _ q ?_;rw[vc];have x:ev i (.tmp u)=(gS i u).nb:=rfl;rw[x];cases j:gS i u with
      |tt=>
       rw[j]at e;simp[kZ]at e;subst e;simp only[SV.nb,vc];exact m i (by rw[j];simp[kZ])
      |ff=>
       rw[j]at e;simp[kZ]at e;subst e;simp only[SV.nb];exact SW u k i B r (λs v=>m s (by simpa using v))
      |c s=>
       cases s with
       |t v=>
        rw[j]at e;simp[kZ]at e;subst e;simp only[SV.nb,XG,l.2,jw,r];exact m _ (by simp[gS,kZ])
       |_=>rw[j]at e;simp[kZ]at e
      |_=>rw[j]at e;simp[kZ]at e
     ·simp at a
    ·simp at a
def Tk(hT:ua g h)(hG:TH g G)(av:g.follows .mixedOrders=true)(i:World):∀(F:Code),pZ F=true->∀(l:Fr)(b:I)(f:Exit->Fr->I->Prop)(a:Act)(w:World),
 vc g h G d o F l b f->jU d l a->Bx d l b->w.heap=b->od i w->F.wp g (j7 d i (oB F) a f) a w:=by
 intro F
 induction F with
 |skip=>
  intro u l b f a w c k s y t
  subst y
  exact wp_skip ⟨l,k,s,t,mu.aB _ _,c⟩
 |region id p B=>
  intro u l b f a w c k s y t
  simp only[vc]at c
  cases B
  ·simp only[mC]at c
   refine wp_region_list ?_
   exact uF hT hG p p.toList l b (f .normal) a w (λ_ c=>c) c k s y t (mu.aB _ _) λC K V j r x v q=>⟨C,r,x,v,q,j⟩
  ·simp only[jw]at c
   simp only[pZ,MV,UC,bM]at u
   refine wp_region_any av (Lj (e:=λz E=>Nat.testBit (tP (Sf [] p.toList) z) E) (L:=[]) _ _ _ _ ?_)
   have H:p.toList.length=p.size:=D
   rw[H]at c
   refine N3 hT hG p _ _ u.1 u.2 (λF a w hx=>hx) (w0:=i) (a0:=a) p.size 0 l b [] (f .normal) [] _ a _ c (λE hx=>by cases hx) ⟨D,λz=>by simp[UB];split<;>rfl⟩ (λz hi=>by simp[UB]at hi;split at hi<;>simp at hi) k s y ⟨t.os,t.tape,t.output⟩ (mu.aB _ _) λC K V j r x v q=>⟨C,r,x,v,q,j⟩
 |seq E W ad Z=>
  intro u l b f a w c k s y t
  simp only[vc]at c
  simp only[pZ,bM]at u
  refine wp_seq ?_
  split at c
  ·refine Code.wp_mono ?_ (ad u.1 l b _ a w c k s y t)
   intro e K V j
   obtain⟨p,C,r,x,v,B,j⟩:=j.aW
   cases e with
   |normal=>
    refine Code.wp_mono ?_ (Z u.2 C _ f K V j r x rfl v)
    intro e U ab j
    obtain⟨p,X,N,H,S,O,j⟩:=j.aW
    exact j7.mk p N H S ((B.mono (λJ q=>bL _ q)).trans (O.mono (λJ q=>fC _ q))) j
   |panic F=>exact absurd rfl (p.1 F)
   |outgrown=>exact absurd rfl p.2
   |exit z=>exact j7.mk (e:=.exit z) p r x v (B.mono (λJ q=>bL _ q)) j
   |goto z=>exact j7.mk (e:=.goto z) p r x v (B.mono (λJ q=>bL _ q)) j
   |ret=>exact j7.mk (e:=.ret) p r x v (B.mono (λJ q=>bL _ q)) j
  ·rename_i R hl
   cases ac:pK (oB E) R
   ·rw[ac]at c;exact c.elim
   rw[ac]at c
   obtain⟨af,h1,Y⟩:=c
   refine Code.wp_mono ?_ (ad u.1 l b _ a w h1 k s y t)
   intro e K V j
   obtain⟨p,C,r,x,v,B,j⟩:=j.aW
   cases e with
   |normal=>
    obtain⟨ag,j⟩:=J6 j
    obtain⟨ah,K',h3,h4,aa,h5⟩:=Oy r (zR (k.nt _) r.size r.defers B) (Bx.kj s x ag) j Y
    refine Code.wp_mono ?_ (Z u.2 ah _ f K V (h3 _ h5) h4 aa rfl v)
    intro e U ab j
    obtain⟨p,X,N,H,S,O,j⟩:=j.aW
    exact j7.mk p N H S ((B.mono (λJ q=>bL _ q)).trans (O.mono (λJ q=>fC _ q))) j
   |panic F=>exact absurd rfl (p.1 F)
   |outgrown=>exact absurd rfl p.2
   |exit z=>exact j7.mk (e:=.exit z) p r x v (B.mono (λJ q=>bL _ q)) j
   |goto z=>exact j7.mk (e:=.goto z) p r x v (B.mono (λJ q=>bL _ q)) j
   |ret=>exact j7.mk (e:=.ret) p r x v (B.mono (λJ q=>bL _ q)) j
 |cond af E W ad Z=>
  intro u l b f a w c k s y t
  simp only[vc]at c
  simp only[pZ,bM]at u
  have ak:∀{O:Bool},a.eval af=.bool O->jU d (uo l af (if O then .tt else .ff)) a:=by
   intro O H;unfold uo;split
   ·rename_i J;refine⟨k.size,k.defers,λU=>?_⟩;simp only[gS];cases aa:Nat.beq J U
    ·exact k.E U
    ·have:=bt aa;subst this;cases O<;>exact H
   ·exact k
  have al:∀{E:SV},(∀O e R,E≠.box O e R/\E≠.zj O e R)->Bx d (uo l af E) b:=by
   intro E hx;unfold uo;split
   ·exact s.fP hx
   ·exact s
  split at c
  ·rename_i hc
   exact wp_cond_true (k.eq hc rfl) (Code.wp_mono (λ_ _ _ c=>c.left) (ad u.1 l b f a w c k s y t))
  ·rename_i hc
   exact wp_cond_false (k.eq hc rfl) (Code.wp_mono (λ_ _ _ c=>c.right) (Z u.2 l b f a w c k s y t))
  ·rename_i O hc
   have ab:a.eval af=.bool O:=k.eq hc rfl
   split at c
   ·rename_i J y' N
    unfold XG at N
    split at N
    ·rename_i S
     cases aj:uP S (oB W)
     ·rw[aj]at N;simp at N
     ·rw[aj]at N
      simp only[jw]at N
      split at N
      ·rename_i y0 ap
       simp at N
       obtain⟨rfl,rfl⟩:=N
       have an:a.tmps.getD S undef=.bool O:=ab
       refine wp_cond_split ab (λq=>?_) (λq=>?_)
       ·subst y
        subst q
        refine wp_skip (j7.mk (e:=.normal) (b:=(S,.c (.t (true||y0)))::nt (oB W) l) ⟨D,D⟩ ?_ ((s.nt _).fP D) t (mu.aB _ _) c)
        have H:=zR (M:=oB W) k k.size k.defers (mu.aB _ a)
        refine⟨H.size,H.defers,λU=>?_⟩
        simp only[gS]
        cases aa:Nat.beq S U
        ·exact H.E U
        ·have:=bt aa
         subst this
         simpa[SV.Is,SV.v,Ce.v]using an
       ·subst q
        have hv:=SW (g:=g) (h:=h) (G:=G) (o:=o) (d:=d) S (b:=b) (f:=λe C X=>e=.normal/\X=b/\kZ (gS C S)=some y0) W l y0 ap (λC X=>⟨rfl,rfl,X⟩)
        refine Code.wp_mono ?_ (Z u.2 l b _ a w hv k s y t)
        intro e K V j
        obtain⟨p,C,r,x,v,B,rfl,ai,am⟩:=j.aW
        refine j7.mk (e:=.normal) (b:=(S,.c (.t (false||y0)))::nt (oB W) l) p ?_ (by rw[ai];exact(s.nt _).fP D) v (B.mono (λJ q=>fC _ q)) (by rw[ai];exact c)
        have H:=zR (M:=oB W) k r.size r.defers B
        refine⟨H.size,H.defers,λU=>?_⟩
        simp only[gS]
        cases aa:Nat.beq S U
        ·exact H.E U
        ·have:=bt aa
         subst this
         obtain⟨X,Y⟩:=wG am
         have h3:=(r.E S).eq X
         rw[Y]at h3
         simpa[SV.Is,SV.v,Ce.v]using h3
      ·simp at N
    ·simp at N
   ·refine wp_cond_split ab (λq=>?_) (λq=>?_)
    ·subst q
     exact Code.wp_mono (λ_ _ _ c=>c.left) (ad u.1 _ b f a w (c.1 rfl) (ak ab) (al D) y t)
    ·subst q
     exact Code.wp_mono (λ_ _ _ c=>c.right) (Z u.2 _ b f a w (c.2 rfl) (ak ab) (al D) y t)
  ·exact c.elim
 |block id E N=>
  intro u l b f a w c k s y t
  simp only[vc]at c
  refine wp_block (Code.wp_mono ?_ (N u l b _ a w c k s y t))
  intro e K V j
  obtain⟨p,C,r,x,v,B,j⟩:=j.aW
  cases e with
  |exit z=>
   simp only[Exit.inBlock]
   simp only at j
   cases H:Nat.beq z id
   ·rw[H]at j
    have q:z≠id:=λe=>by subst e;simp at H
    rw[ae q]
    exact j7.mk (e:=.exit z) p r x v B j
   ·rw[H]at j
    rw[ao (bt H)]
    exact j7.mk (e:=.normal) ⟨D,D⟩ r x v B j
  |normal=>exact j7.mk (e:=.normal) p r x v B j
  |panic F=>exact absurd rfl (p.1 F)
  |outgrown=>exact absurd rfl p.2
  |goto z=>exact j7.mk (e:=.goto z) p r x v B j
  |ret=>exact j7.mk (e:=.ret) p r x v B j
 |loop E N=>
  intro u l b f a w c k s y t
  subst y
  simp only[vc]at c
  split at c
  ·exact c.elim
  ·rename_i R hl
   cases ac:pK (oB E) R
   ·rw[ac]at c;exact c.elim
   rw[ac]at c
   obtain⟨S,μ,h0,h1⟩:=c
   let aa:Nat->Act->World->Prop:=λO K w=>∃C J μ',RU R S μ (nt (oB E) (uc d (kj o E) l)) C J μ'/\jU d C K/\Bx d C w.heap/\J w.heap/\μ' w.heap=O/\od i w/\mu (oB E) a K
   obtain⟨ab,U,μ1,aq,am,af,ak⟩:=Ms (μ:=μ) k (zR (k.nt _) k.size k.defers (mu.aB (oB E) a)) (Bx.kj s s (λ_ _=>rfl)) h0
   refine RG aa ?_ (μ1 w.heap) a w ⟨ab,U,μ1,aq,am,af,ak,rfl,t,mu.aB _ _⟩
   rintro O a1 w ⟨C,J,μ',hi,r,x,aj,rfl,v,X⟩
   have ap:=Mq h1 hi w.heap aj
   refine Code.wp_mono ?_ (N u C w.heap _ a1 w ap r x rfl v)
   intro e K V j
   obtain⟨p,ah,q,B,H,Y,j⟩:=j.aW
   cases e with
   |normal=>
    obtain⟨ag,j⟩:=J6 j
    obtain⟨ad,Z,μ3,ar,an,ai,al,au⟩:=Mt q (zR (k.nt _) q.size q.defers (X.trans Y)) (Bx.kj s B ag) j
    exact⟨_,au,ad,Z,μ3,ar,an,ai,al,rfl,H,X.trans Y⟩
   |panic F=>exact absurd rfl (p.1 F)
   |outgrown=>exact absurd rfl p.2
   |exit z=>exact j7.mk (e:=.exit z) p q B H (X.trans Y) j
   |goto z=>exact j7.mk (e:=.goto z) p q B H (X.trans Y) j
   |ret=>exact j7.mk (e:=.ret) p q B H (X.trans Y) j
 |exit id=>
  intro u l b f a w c k s y t
  subst y
  exact wp_exit ⟨l,k,s,t,mu.aB _ _,c⟩
 |ret=>
  intro u l b f a w c k s y t
  subst y
  exact wp_ret ⟨l,k,s,t,mu.aB _ _,c⟩
 |rangeFunc j k E W _ _=>intro _ l b f a w c;exact c.elim
 |scope E _=>intro _ l b f a w c;exact c.elim
 |label R=>intro _ l b f a w c;exact c.elim
 |goto R=>intro _ l b f a w c;exact c.elim
 |refuse s=>intro _ l b f a w c;exact c.elim
def ub:Nat->List SV->Fr
 |_,[]=>[]
 |i,x::r=>(i,x)::ub (i+1) r
def Fx(h:TT)(a:Fr)(b:I):List ResultVar->(List SV->Prop)->Prop
 |[],k=>k []
 | .tmp t::r,k=>bif (gS a t).jx then Fx h a b r λl=>k (gS a t::l)else False
 | .cell p t::r,k=>rd h a b (λx=>bif x.jx then Fx h a b r λl=>k (x::l)else False) (.load t (.tmp p))
def Wo(h:TT)(c:List ResultVar)(a:Fr)(b:I)(R:Value->I->Prop):Prop:=
 Fx h a b c λ
  |[x]=>R x.v b
  |l=>R (.tuple (l.map SV.v).toArray) b
def RF(g:Program)(h:TT)(G:List Nat)(o:Od)(d:Nat)(c:List ResultVar)(f:Code)(e:List SV)(b:I)(R:Value->I->Prop):Prop:=
 vc g h G d o f (ub 0 e) b λ
  | .normal,a,b=>Wo h c a b R
  | .ret,a,b=>Wo h c a b R
  |_,_,_=>False
def GH:∀(a:List SV)(i t:Nat),(t<i/\gS (ub i a) t=.fP)\/(i<=t/\gS (ub i a) t=a.getD (t -i) .fP)
 |[],i,t=>by
  rcases be t i with h|h
  ·exact Or.inl ⟨h,rfl⟩
  ·exact Or.inr ⟨h,by simp[ub,gS]⟩
 |x::r,i,t=>by
  simp only[ub,gS];cases c:Nat.beq i t
  ·have f:i≠t:=λe=>by subst e;simp at c
   rcases GH r (i+1) t with⟨d,b⟩|⟨d,b⟩
   ·exact Or.inl ⟨V,b⟩
   ·refine Or.inr ⟨V,?_⟩;have e:t -i=(t -(i+1))+1:=V;rw[e,List.getD_cons_succ];exact b
  ·have:=bt c;subst this;exact Or.inr ⟨ad _,D⟩
def KD(a:Array Value):ResultVar->Sem Value
 | .tmp t=>pure (a.getD t undef)
 | .cell p t=>do loadVar t (<-asAddr (a.getD p undef))
def Qn(b:Func)(c:Array Value):results b c=(do
 let a<-b.results.mapM (KD c)
 pure (if h:a.size=1 then a[0]else .tuple a)):=by
 unfold results
 congr 2
def Hj{i:Fr}{a:Act}(v:ua g h)(f:jU d i a):∀(E:List ResultVar)(k:List SV->Prop)(w:World),Bx d i w.heap->Fx h i w.heap E k->
 ∃p,k p/\(E.mapM (KD a.tmps)).run g w=.ok (p.map SV.v) w
 |[],k,w,_,b=>⟨[],b,D⟩
 | .tmp t::A,k,w,j,b=>by
  simp only[Fx]at b;cases c:(gS i t).jx
  ·rw[c]at b;exact b.elim
  ·rw[c]at b;obtain⟨p,s,u⟩:=Hj v f A _ w j b;refine⟨_,s,?_⟩;have z:=(f.E t).eq c;have r:KD a.tmps (.tmp t)=pure (a.tmps.getD t undef):=rfl;simp only[Tq,Sem.run_bind,Sem.run_pure,Result.andThen_ok,u,cG,z,r]
 | .cell q t::A,k,w,j,m=>by
  obtain⟨F,B,n,z,b⟩:=Kz (P:=g) v f j ⟨none,.load t (.tmp q),0,"",#[],none⟩ m;have b:=b w (λC _=>rfl);cases x:F.jx
  ·rw[x]at n;exact n.elim
  rw[x]at n;obtain⟨p,s,u⟩:=Hj v f A _ w j n;refine⟨_,s,?_⟩;have H:∃c o,a.tmps.getD q undef=.pointer (some ⟨c,o,none⟩):=by
   have l:=SV.SR (f.E q);simp only[Fx,rd,ev]at m;split at m
   ·rename_i c o y;rw[y]at l;exact⟨c,o,l⟩
   ·rename_i C c o y;rw[y]at l;exact⟨c,o,l⟩
   ·exact m.elim
  obtain⟨c,o,y⟩:=H;simp only[execOp,Instr.loadAt,Act.eval,y,Instr.sureAddr,Sem.run_bind,Sem.run_pure,Result.andThen_ok]at b;have G:(loadVar t ⟨c,o,none⟩).run g w=.ok B w:=by
   cases C:(loadVar t ⟨c,o,none⟩).run g w with
   |ok J I=>
    rw[C]at b;simp at b;rw[b.1,b.2]
   |halt e I=>rw[C]at b;simp at b
  have I:B=F.v:=z.eq x;have r:(KD a.tmps (.cell q t)).run g w=.ok B w:=by
   simp only[KD,y,Sem.run_bind,asAddr,Sem.run_pure,Result.andThen_ok,G]
  simp only[Tq,Sem.run_bind,Sem.run_pure,Result.andThen_ok,r,u,cG,I]
def xF(z:ua g h)(K:TH g G)(P:g.follows .mixedOrders=true){y:FuncId}{i:Func}{m:Code}{r:List ResultVar}{a:List SV}{R:Value->I->Prop}
 (O:g.funcs[y]? =some i)(M:i.body=some m)(Q:i.ntmps=d)(T:i.results=r.toArray)(A:a.all SV.jx=true)(Y:a.length<=d)(N:pZ m=true)
 (j:RF g h G o d r m a b R):aO g y (a.map SV.v) b R:=by
 intro w V
 refine calls_of_wp O M ?_
 have L:jU d (ub 0 a) {tmps:=(a.map SV.v).toArray++Array.replicate (i.ntmps -(a.map SV.v).toArray.size) undef,defers:=[]}:=by
  refine⟨by simp[Q];omega,rfl,λt=>?_⟩;rcases GH a 0 t with⟨n,_⟩|⟨_,p⟩
  ·omega
  ·rw[p,Ww];rcases be t a.length with k|s
   ·have u:(a[t]).jx=true:=List.all_eq_true.1 A _ (List.getElem_mem k);have c:a.getD t .fP=a[t]:=by simp[k]
    rw[c];have f:((a.map SV.v).toArray++Array.replicate (i.ntmps -(a.map SV.v).toArray.size) undef).getD t undef=(a[t]).v:=by
     simp[Array.getElem?_append,k]
    rw[f];exact nH _
   ·have c:a.getD t .fP=.fP:=by simp[cY s]
    rw[c];trivial
 have v:∀{q x e l},¬lC (ub 0 a) q x e l:=by
  intro q x e l f;rcases GH a 0 q with⟨n,_⟩|⟨_,p⟩
  ·omega
  ·unfold lC at f;rw[p,Ww]at f;rcases be q a.length with k|s
   ·have u:(a[q]).jx=true:=List.all_eq_true.1 A _ (List.getElem_mem k);have c:a.getD q .fP=a[q]:=by simp[k]
    rw[c]at f;rcases f with f|f<;>rw[f]at u<;>simp[SV.jx]at u
   ·have c:a.getD q .fP=.fP:=by simp[cY s]
    rw[c]at f;simp at f
 have H:Bx d (ub 0 a) b:=⟨λ_ _ _ _ j=>absurd j v,λ_ _ _ _ _ _ _ _ _ j=>absurd j v,λ_ _ _ _ j=>absurd j v⟩
 refine Code.wp_mono ?_ (Tk z K P w m N _ b _ _ w j L H V (od.aB w))
 intro e s k c
 obtain⟨B,F,u,J,U,X,c⟩:=c.aW
 have C:∀(c:Wo h r F k.heap R),s.defers=[]/\∃D,(results i s.tmps).run g k=.ok D k/\∃E,Ending.returned D=.returned E/\od w k/\R E k.heap:=by
  intro c;refine⟨u.defers,?_⟩;obtain⟨l,n,p⟩:=Hj z u r _ k J c;have S:(results i s.tmps).run g k=.ok (if j:(l.map SV.v).toArray.size=1 then(l.map SV.v).toArray[0]else .tuple (l.map SV.v).toArray) k:=by
   rw[Qn,T,TA];simp only[Sem.run_bind,Sem.run_map];rw[p];rfl
  refine⟨_,S,_,rfl,U,?_⟩;cases l with
  |nil=>exact n
  |cons W l=>cases l with
   |nil=>exact n
   |cons Z l=>exact n
 cases e with
 |normal=>exact C c
 |ret=>exact C c
 |exit W=>exact c.elim
 |goto W=>exact c.elim
 |panic m=>exact absurd rfl (B.1 m)
 |outgrown=>exact absurd rfl B.2
end Go.Vc
end
section
namespace Go.Vc
abbrev vi(n:Int):Value:=.int .i64 n
abbrev vb(b:Bool):Value:=.bool b
abbrev vp(b o:Nat):Value:=.pointer (some ⟨b,o,none⟩)
def Nl(f:Func):Code:=
 match f.body with
 |some c=>c
 |none=>.skip
end Go.Vc
end
section
namespace Go.Vc
variable{a m c d:I}{b o k f n:Nat}{v:Value}{l:List Nat}{s:O}{P:Program}{K e:Value->I->Prop}{p:Prop}
structure J(m c:I):Prop where
 size:m.size<=c.size
 same:∀b,b<m.size->c[b]? =m[b]?
def J.aB(m:I):J m m:=⟨ad _,λ_ _=>rfl⟩
def J.trans{a b c:I}(h:J a b)(k:J b c):J a c:=
 ⟨cg h.size k.size,λi d=>(k.same i (aP d h.size)).trans (h.same i d)⟩
def J.push(m:I)(o:Obj):J m (m.push o):=
 ⟨D,λb a=>by rw[mH,ae V]⟩
def J.aK(h:J a m)(o:Obj):J a (m.push o):=h.trans (J.push m o)
def J.ai(h:J a m)(d:a.size<=b)(o:Nat)(l:List Ce):J a (ai m b o l):=
 ⟨by rw[av];exact h.size,λj c=>by rw[bd l m b o V];exact h.same j c⟩
def J.af(h:J m c)(a:af m b o=some v):af c b o=some v:=by
 rw[aN (h.same b (nF a))];exact a
def J.iP(h:J m c){l:List Ce}(e:fN m b o l):fN c b o l:=λi a d=>h.af (e i a d)
def cF.ext(h:J m c){e:Nat}{l:List Ce}(a:cF m b e l):cF c b e l:=by
 unfold cF at*;rw[h.same b (Array.getElem?_eq_some_iff.1 a).1];exact a
structure eH{α:Type}(m:I)(sz:Nat)(R:List Ce->α->Prop)(s:O)(l:List α):Prop where
 len:s.len=l.length
 cap:s.len<=s.cap
 fS:s.len<=9223372036854775807
 iP:∀(k:Nat)(x:α),l[k]? =some x->∃cs,R cs x/\fN m s.F (s.off+k*sz) cs
def eH.mono{α:Type}{d:Nat}{R b:List Ce->α->Prop}{l:List α}(h:eH m d R s l)(j:J m c)(g:∀a x,R a x->b a x):eH c d b s l:=
 ⟨h.len,h.cap,h.fS,λk x i=>let⟨a,e,f⟩:=h.iP k x i;⟨a,g _ _ e,j.iP f⟩⟩
def TJ(a:List Ce)(n:Int):Prop:=a=[.i n]
abbrev ap(m:I)(s:O)(l:List Int):Prop:=eH m 1 TJ s l
def ap.E{l:List Int}(h:ap m s l){x:Int}(a:l[k]? =some x):af m s.F (s.off+k*1)=some (vi x):=by
 obtain⟨c,rfl,b⟩:=h.iP k x a;exact b 0 (.i x) rfl
def ap.ext(a:J m c){l:List Int}(h:ap m s l):ap c s l:=h.mono a λ_ _ h=>h
def ag{α:Type}{l:List α}(h:k<l.length):∃x,l[k]? =some x:=⟨l[k],by simp[h]⟩
def ax{α:Type}{l:List α}{x:α}(h:l[k]? =some x):k<l.length:=(List.getElem?_eq_some_iff.1 h).1
def bn{α:Type}{l:List α}{x:α}(h:l[k]? =some x):l.take (k+1)=l.take k++[x]:=by
 rw[List.take_add_one,h];rfl
def cN{α:Type}{l:List α}(h:l.length<=k):l.take k=l:=nB h
def EH(P:Program)(f:Nat)(a:List Value)(m:I)(v:Value):Prop:=aO P f a m λb c=>b=v/\J m c
def aO.post{a:List Value}(h:aO P f a m K)(b:∀v c,K v c->e v c):aO P f a m e:=h.mono b
def EH.then{a:List Value}(h:EH P f a m v)(d:∀c,J m c->K v c):aO P f a m K:=
 h.mono λ_ _⟨b,e⟩=>b▸d _ e
def O.Gp{t:O}:s.v=t.v<->s=t:=by
 refine⟨λh=>?_,λh=>h▸rfl⟩;cases s<;>cases t<;>simp_all [O.v]
def J.dm(h:J m c)(d:∀b∈l,b<m.size):eE l m c:=λb a=>h.same b (d b a)
def J.lt(h:J m c)(a:b<m.size):b<c.size:=aP a h.size
def J.cV(h:J m c)(a:Vc.af m b o=some v):Vc.af c b o=Vc.af m b o:=by rw[h.af a,a]
def ka(h:k<n)(a:n<=9223372036854775807):cW ((k:Int)+1)=((k+1:Nat):Int):=by rw[aQ V V];rfl
def Fp(h:k<n):((n:Int) -((k+1:Nat):Int)).toNat<((n:Int) -(k:Int)).toNat:=V
def eU(j:n<=9223372036854775807){e:(Int->I->Prop)->(Int->I->Nat)->Int->I->Prop}(Q:Nat->I->Prop)(f:Q 0 m)
 (h:∀(k:Nat)(a:I)(b:Int->I->Prop)(μ:Int->I->Nat),k<=n->Q k a->
  (k<n->∀c,Q (k+1) c->b (cW ((k:Int)+1)) c/\μ (cW ((k:Int)+1)) c<μ k a)->e b μ k a):
 ∃(b:Int->I->Prop)(μ:Int->I->Nat),b 0 m/\∀i a,b i a->e b μ i a:=by
 refine⟨λi c=>∃k:Nat,i=k/\k<=n/\Q k c,λi _=>(n -i).toNat,⟨0,rfl,eJ _,f⟩,?_⟩
 rintro i a ⟨k,rfl,g,l⟩
 refine h k a _ _ g l λd c o=>?_
 rw[ka d j]
 exact⟨⟨k+1,rfl,d,o⟩,Fp d⟩
def dU{σ:Type}(o:n<=9223372036854775807){g:σ}{f:(σ->Int->I->Prop)->(σ->Int->I->Nat)->σ->Int->I->Prop}(Q:Nat->σ->I->Prop)(j:Q 0 g m)
 (h:∀(k:Nat)(s:σ)(a:I)(b:σ->Int->I->Prop)(μ:σ->Int->I->Nat),k<=n->Q k s a->
  (k<n->∀d c,Q (k+1) d c->b d (cW ((k:Int)+1)) c/\μ d (cW ((k:Int)+1)) c<μ s k a)->f b μ s k a):
 ∃(b:σ->Int->I->Prop)(μ:σ->Int->I->Nat),b g 0 m/\∀s i a,b s i a->f b μ s i a:=by
 refine⟨λs i c=>∃k:Nat,i=k/\k<=n/\Q k s c,λ_ i _=>(n -i).toNat,⟨0,rfl,eJ _,j⟩,?_⟩
 rintro s i a ⟨k,rfl,l,p⟩
 refine h k s a _ _ l p λe d c q=>?_
 rw[ka e o]
 exact⟨⟨k+1,rfl,e,q⟩,Fp e⟩
def dJ(P:Program)(f:Nat)(a:List Value)(m:I)(p:Prop):Prop:=aO P f a m λv c=>∃b:Bool,v=.bool b/\(b=true<->p)/\J m c
def dJ.then{a:List Value}(h:dJ P f a m p)(g:∀(b:Bool) c,(b=true<->p)->J m c->K (.bool b) c):aO P f a m K:=
 h.mono λ_ _⟨b,e,d,i⟩=>e▸g b _ d i
def dJ.aI{e:List Value}(i:dJ P f e m p)(g:J d m)(q:∀b∈l,b<d.size)
 (o:∀(b:Bool) c,(b=true<->p)->J m c->J d c->K (.bool b) c):aO P f e m λv c=>eE l m c/\K v c:=
 i.mono λ_ _⟨b,n,j,a⟩=>⟨a.dm λh k=>g.lt (q h k),n▸o b _ j a (g.trans a)⟩
def EH.aI{e:List Value}(i:EH P f e m v)(g:J d m)(o:∀b∈l,b<d.size)
 (n:∀c,J m c->J d c->K v c):aO P f e m λv c=>eE l m c/\K v c:=
 i.mono λ_ _⟨k,a⟩=>⟨a.dm λh j=>g.lt (o h j),k▸n _ a (g.trans a)⟩
def aO.aI{a:List Value}(j:aO P f a m K)(o:J d m)(n:∀b∈l,b<d.size)
 (g:∀v c,K v c->J m c/\e v c):aO P f a m λv c=>eE l m c/\e v c:=
 j.mono λv c h=>⟨(g v c h).1.dm λi k=>o.lt (n i k),(g v c h).2⟩
def ft{b:Bool}(h:b=true<->p)(d:J m c):∃a:Bool,Value.bool b=.bool a/\(a=true<->p)/\J m c:=⟨b,rfl,h,d⟩
def cK(h:¬p)(b:J m c):∃a:Bool,Value.bool false=.bool a/\(a=true<->p)/\J m c:=⟨false,rfl,by simp[h],b⟩
def jG(h:p)(b:J m c):∃a:Bool,Value.bool true=.bool a/\(a=true<->p)/\J m c:=⟨true,rfl,by simp[h],b⟩
def nb{b:Bool}(a:b=true<->p)(h:(!b)=true):¬p:=λc=>by simp[a.2 c]at h
def yb{b:Bool}(a:b=true<->p)(h:(!b)=false):p:=a.1 (by simpa using h)
def fb{b:Bool}(a:b=true<->p)(h:b=false):¬p:=λc=>by simp[a.2 c]at h
def bV{α:Type}{l:List α}{x:α}{p:α->Prop}(c:l[k]? =some x)(h:∀y∈l.take k,p y)(b:p x):∀y∈l.take (k+1),p y:=by
 rw[bn c];intro y a;rcases List.mem_append.1 a with a|a
 ·exact h y a
 ·simp at a;subst a;exact b
def dq{α:Type}{l:List α}{p:α->Prop}(a:l.length<=k)(h:∀y∈l.take k,p y):∀y∈l,p y:=by rw[<-cN a];exact h
def ar{α:Type}{l:List α}{x:α}(h:l[k]? =some x):x∈l:=iZ h
end Go.Vc
end
section
namespace Go.Vc
variable{m:I}{s:O}{k:Nat}
structure bB where
 ug:Int
 to:Int
 cons:List (List Int)
structure Instr where
 op:Int
 dst:Int
 bN:Int
 bW:Int
 args:List Int
 ez:List Int
structure dw where
 params:List Int
 cJ:List Int
 aV:Int
 u:Int
 cL:List Instr
structure cH where
 aT:List bB
 cA:List dw
def mJ(m:I)(a:List Ce)(c:List Int):Prop:=∃f,a=[.s f]/\ap m f c
def il(m:I)(a:List Ce)(d:bB):Prop:=∃f,a=[.i d.ug,.i d.to,.s f]/\eH m 1 (mJ m) f d.cons
def dO(m:I)(b:List Ce)(x:Instr):Prop:=∃a j,b=[.i x.op,.i x.dst,.i x.bN,.i x.bW,.s a,.s j]/\ap m a x.args/\ap m j x.ez
def kX(m:I)(b:List Ce)(p:dw):Prop:=
 ∃a l c,b=[.s a,.s l,.i p.aV,.i p.u,.s c]/\ap m a p.params/\ap m l p.cJ/\eH m 6 (dO m) c p.cL
abbrev oY(m:I)(s:O)(l:List (List Int)):Prop:=eH m 1 (mJ m) s l
abbrev cx(m:I)(s:O)(l:List bB):Prop:=eH m 3 (il m) s l
abbrev eX(m:I)(s:O)(l:List Instr):Prop:=eH m 6 (dO m) s l
abbrev iS(m:I)(s:O)(l:List dw):Prop:=eH m 5 (kX m) s l
structure eu(m:I)(d p:O)(im:cH):Prop where
 aT:cx m d im.aT
 cA:iS m p im.cA
def mJ.ext{m b:I}(g:J m b)(a:List Ce)(c:List Int):mJ m a c->mJ b a c:=λ⟨f,d,e⟩=>⟨f,d,e.ext g⟩
def oY.ext{m b:I}(a:J m b){s:O}{l:List (List Int)}(h:oY m s l):oY b s l:=h.mono a (mJ.ext a)
def il.ext{m b:I}(g:J m b)(a:List Ce)(c:bB):il m a c->il b a c:=λ⟨f,d,e⟩=>⟨f,d,oY.ext g e⟩
def cx.ext{m b:I}(a:J m b){s:O}{l:List bB}(h:cx m s l):cx b s l:=h.mono a (il.ext a)
def dO.ext{m d:I}(b:J m d)(a:List Ce)(c:Instr):dO m a c->dO d a c:=λ⟨e,j,f,g,h⟩=>⟨e,j,f,g.ext b,h.ext b⟩
def eX.ext{m b:I}(a:J m b){s:O}{l:List Instr}(h:eX m s l):eX b s l:=h.mono a (dO.ext a)
def kX.ext{m d:I}(a:J m d)(b:List Ce)(c:dw):kX m b c->kX d b c:=λ⟨e,l,c,f,g,h,i⟩=>⟨e,l,c,f,g.ext a,h.ext a,eX.ext a i⟩
def iS.ext{m b:I}(a:J m b){s:O}{l:List dw}(h:iS m s l):iS b s l:=h.mono a (kX.ext a)
def eu.ext{m c:I}(a:J m c){d p:O}{b:cH}(h:eu m d p b):eu c d p b:=⟨cx.ext a h.aT,iS.ext a h.cA⟩
def oY.E{l:List (List Int)}(h:oY m s l){x:List Int}(b:l[k]? =some x):
 ∃f,ap m f x/\af m s.F (s.off+k*1)=some (O.v f):=by
 obtain⟨d,⟨f,rfl,a⟩,c⟩:=h.iP k x b
 exact⟨f,a,c 0 (.s f) rfl⟩
def cx.E{l:List bB}(h:cx m s l){x:bB}(c:l[k]? =some x):
 ∃f,oY m f x.cons/\af m s.F (s.off+k*3)=some (vi x.ug)/\af m s.F (s.off+k*3+1)=some (vi x.to)/\af m s.F (s.off+k*3+2)=some (O.v f):=by
 obtain⟨d,⟨f,rfl,b⟩,a⟩:=h.iP k x c
 exact⟨f,b,a 0 (.i x.ug) rfl,a 1 (.i x.to) rfl,a 2 (.s f) rfl⟩
def eX.E{l:List Instr}(h:eX m s l){x:Instr}(e:l[k]? =some x):
 ∃b j,ap m b x.args/\ap m j x.ez/\af m s.F (s.off+k*6)=some (vi x.op)/\af m s.F (s.off+k*6+1)=some (vi x.dst)/\af m s.F (s.off+k*6+2)=some (vi x.bN)/\
  af m s.F (s.off+k*6+3)=some (vi x.bW)/\af m s.F (s.off+k*6+4)=some (O.v b)/\af m s.F (s.off+k*6+5)=some (O.v j):=by
 obtain⟨f,⟨b,j,rfl,c,d⟩,a⟩:=h.iP k x e
 exact⟨b,j,c,d,a 0 (.i x.op) rfl,a 1 (.i x.dst) rfl,a 2 (.i x.bN) rfl,a 3 (.i x.bW) rfl,a 4 (.s b) rfl,a 5 (.s j) rfl⟩
def iS.E{l:List dw}(h:iS m s l){x:dw}(i:l[k]? =some x):
 ∃a b c,ap m a x.params/\ap m b x.cJ/\eX m c x.cL/\af m s.F (s.off+k*5)=some (O.v a)/\af m s.F (s.off+k*5+1)=some (O.v b)/\af m s.F (s.off+k*5+2)=some (vi x.aV)/\
  af m s.F (s.off+k*5+3)=some (vi x.u)/\af m s.F (s.off+k*5+4)=some (O.v c):=by
 obtain⟨j,⟨a,b,c,rfl,e,f,g⟩,d⟩:=h.iP k x i
 exact⟨a,b,c,e,f,g,d 0 (.s a) rfl,d 1 (.s b) rfl,d 2 (.i x.aV) rfl,d 3 (.i x.u) rfl,d 4 (.s c) rfl⟩
end Go.Vc
end
section
namespace Go.Vc
variable{h d:I}{g:Nat}{s:O}{a:List Ce}{f:List (List Ce)}
structure gG(h d:I)(g sz:Nat)(s:O)(a:List Ce):Prop where
 len:a.length=s.len*sz
 E:s=.nil\/∃b c tail,s=.mk b 0 s.len c/\h.size<=b/\cF d b g (a++tail)/\(a++tail).length=c*sz/\s.len<=c
def gG.nil(h d:I)(g a:Nat):gG h d g a .nil []:=⟨D,Or.inl rfl⟩
def gG.new(e:J h d)(g c:Nat)(a:List Ce)(k:Nat)(b:a.length=k*c):gG h (d.push (.cells (bG a) g)) g c (.mk d.size 0 k k) a:=
 ⟨b,Or.inr ⟨d.size,k,[],rfl,e.size,by rw[dI];exact cF.push _ _ _,by simpa using b,ad _⟩⟩
def gG.congr{h d f:I}{g i:Nat}{s:O}{a:List Ce}(c:gG h d g i s a)(e:f[s.F]? =d[s.F]?):gG h f g i s a:=by
 refine⟨c.len,?_⟩;rcases c.E with b|⟨j,k,tail,b,h2,h3,h4,h5⟩
 ·exact Or.inl b
 ·refine Or.inr ⟨j,k,tail,b,h2,h3.congr ?_,h4,h5⟩;rw[b]at e;exact e
def gG.lt{h d:I}{g e:Nat}{s:O}{a:List Ce}(c:gG h d g e s a):s=.nil\/s.F<d.size:=by
 rcases c.E with b|⟨f,i,tail,b,h2,h3,h4,h5⟩
 ·exact Or.inl b
 ·rw[b];exact Or.inr h3.lt
def gG.ext{e:I}{f:Nat}(b:gG h d g f s a)(i:J d e):gG h e g f s a:=by
 rcases b.lt with c|c
 ·subst c;exact⟨b.len,Or.inl rfl⟩
 ·exact b.congr (i.same _ c)
def gG.bY{e:I}{f:Nat}(c:gG e d g f s a)(k:h.size<=e.size):gG h d g f s a:=by
 refine⟨c.len,?_⟩;rcases c.E with b|⟨i,j,tail,b,h2,h3,h4,h5⟩
 ·exact Or.inl b
 ·exact Or.inr ⟨i,j,tail,b,cg k h2,h3,h4,h5⟩
def gG.F{e:Nat}(c:gG h d g e s a):s=.nil\/h.size<=s.F:=by
 rcases c.E with b|⟨f,i,tail,b,h2,h3,h4,h5⟩
 ·exact Or.inl b
 ·rw[b];exact Or.inr h2
def fN.Lr{b o:Nat}{r:List Ce}(h:fN d b o (a++r)):fN d b o a:=λi e c=>h i e (by rw[aw (ax c)];exact c)
def gG.iP{h d:I}{g i:Nat}{s:O}{a:List Ce}(c:gG h d g i s a):fN d s.F s.off a:=by
 rcases c.E with b|⟨j,e,tail,b,h2,h3,h4,h5⟩
 ·have:a=[]:=List.length_eq_zero_iff.1 (by rw[c.len,b];simp);subst this;intro k e f;simp at f
 ·rw[b];exact h3.iP.Lr
def Bp(a b tail:List Ce)(h:b.length<=tail.length):iX (a++tail) a.length b=a++b++tail.drop b.length:=by
 apply iy;intro i;rw[vQ];simp only[aZ];by_cases c:a.length<=i/\i<a.length+b.length/\i<a.length+tail.length
 ·rw[ao c,fm,aG c.1,aw V]
 ·rw[ae c];by_cases d:i<a.length
  ·rw[aw d,fm,aw d]
  ·rw[aG V,fm,aG V,aG V,rT];congr 1;omega
def gG.append{c:List Ce}{w:Nat}{x:O}{i:List Ce}{K:O->I->Prop}(l:gG h d g c.length s a)(q:J h d)
 (t:i.length=x.len*c.length)(G:fN d x.F x.off i)(u:(s.len+x.len)*w<=140737488355328)
 (v:∀n p,gG h p g c.length n (a++i)->J h p->n.len=s.len+x.len->d.size<=p.size->(∀f,f<d.size->(s≠.nil->f≠s.F)->p[f]? =d[f]?)->((s=.nil/\n=.nil)\/(s≠.nil/\n.F=s.F/\n≠.nil)\/n.F=d.size)->K n p):
 jE d g c w s x K:=by
 refine⟨i,t,G,λE=>?_,λM=>⟨u,a,l.len,l.iP,λk z=>?_⟩⟩
 ·rcases l.E with j|⟨f,k,tail,j,h2,h3,h4,h5⟩
  ·subst j
   have y:x.len=0:=by simpa using E
   have B:i=[]:=List.length_eq_zero_iff.1 (by rw[t,y];simp)
   subst B
   refine⟨λC A=>by simp at A,?_⟩
   exact v .nil _ ⟨by rw[dI];exact l.len,Or.inl rfl⟩ (by simpa[ai]using q) (by simp[y]) (yY (av _ _ _ _).symm) (λf u _=>by simp[ai]) (Or.inl ⟨rfl,rfl⟩)
  ·have A:=l.len
   have L:s.cap=k:=by rw[j];rfl
   rw[j]
   simp only[O.jm,O.ta,O.iE,cC]
   simp only[aZ]at h4
   have C:i.length<=tail.length:=by
    have B:(s.len+x.len)*c.length<=k*c.length:=db _ V;rw[gA]at B;omega
   refine⟨h3.fH (by simp only[aZ];omega),?_⟩
   have y:=cF.ai (m:=d) (b:=f) (e:=g) (r:=i) (o:=s.len*c.length) h3
   rw[<-A,Bp a i tail C]at y
   refine v _ _ ⟨?_,Or.inr ⟨f,k,tail.drop i.length,rfl,h2,?_,?_,?_⟩⟩ (q.ai h2 _ _) D (yY (av _ _ _ _).symm) (λH _ F=>bd _ _ _ _ ?_) (Or.inr (Or.inl ⟨by rw[j];simp,by rw[j];rfl,D⟩))
   ·simp only[aZ,O.iE,gA];omega
   ·rw[<-A];exact y
   ·simp only[aZ,List.length_drop];omega
   ·simp only[O.iE];omega
   ·have:=F (by rw[j];simp)
    rw[j]at this;exact this
 ·refine v _ _ ⟨?_,Or.inr ⟨d.size,k,ni c (k -(s.len+x.len)),rfl,q.size,cF.push _ _ _,?_,by simpa using z⟩⟩ (q.aK _) D D (λf u _=>by rw[mH,ae V]) (Or.inr (Or.inr rfl))
  ·simp only[aZ,O.iE,gA,l.len,t]
  ·simp only[aZ,rq,l.len,t]
   rw[Nat.sub_mul,<-gA]
   have:(s.len+x.len)*c.length<=k*c.length:=db _ z
   omega
def ap.fV{a:List Int}(b:gG h d g 1 s (a.map Ce.i))(n:a.length<=9223372036854775807):ap d s a:=by
 have j:s.len=a.length:=by have:=b.len;simp at this;omega
 refine⟨j,?_,V,λl x i=>⟨[.i x],rfl,λk f e=>?_⟩⟩
 ·rcases b.E with c|⟨m,f,tail,c,h2,h3,h4,h5⟩
  ·rw[c];exact ad _
  ·rw[c];exact h5
 ·have c:k=0:=by have:=ax e;simp at this;omega
  subst c;simp at e;subst e;have:=b.iP l (.i x) (by simp[i]);simpa using this
def fK{g:Nat}:∀{f:List (List Ce)}(_:∀a∈f,a.length=g){b:Nat}{a:List Ce}(_:f[b]? =some a){i:Nat}{c:Ce}(_:a[i]? =some c),f.flatten[b*g+i]? =some c
 |[],_,b,a,h,_,_,_=>by simp at h
 |x::f,e,0,a,h,i,c,d=>by
  simp at h;subst h;rw[js,PE,cC,aw (ax d)];exact d
 |x::f,e,b+1,a,h,i,c,d=>by
  have k:x.length=g:=e x ba;rw[js,aG (by rw[k,gA];omega)];have:=fK (f:=f) (λy l=>e y (aj _ l)) (b:=b) (by simpa using h) d;rw[<-this];congr 1;rw[k,gA];omega
def cr{b:Nat}:∀{f:List (List Ce)},(∀a∈f,a.length=b)->f.flatten.length=f.length*b
 |[],_=>D
 |x::f,a=>by
  rw[js,aZ,cr (λy c=>a y (aj _ c)),a x ba,aY,gA];omega
structure gD{α:Type}(sz:Nat)(R:List Ce->α->Prop)(f:List (List Ce))(a:List α):Prop where
 len:f.length=a.length
 size:∀cs∈f,cs.length=sz
 dt:∀(j:Nat)(cs:List Ce)(x:α),f[j]? =some cs->a[j]? =some x->R cs x
def gD.nil{α:Type}(a:Nat)(R:List Ce->α->Prop):gD a R [] []:=⟨rfl,D,D⟩
def gD.yy{α:Type}{g:Nat}{R:List Ce->α->Prop}{a:List α}(h:gD g R f a){cs:List Ce}{x:α}(k:cs.length=g)(l:R cs x):gD g R (f++[cs]) (a++[x]):=by
 refine⟨by simp[h.len],λe b=>?_,λj e y b c=>?_⟩
 ·rcases List.mem_append.1 b with b|b
  ·exact h.size e b
  ·simp at b;subst b;exact k
 ·rcases be j f.length with d|d
  ·rw[aw d]at b;rw[aw (h.len▸d)]at c;exact h.dt j e y b c
  ·rw[aG d]at b;rw[aG (by rw[<-h.len];exact d),<-h.len]at c;have i:j -f.length=0:=by have:=ax b;simp at this;omega
   rw[i]at b c;simp at b c;subst b;subst c;exact l
def gD.mono{α:Type}{d:Nat}{R c:List Ce->α->Prop}{a:List α}(h:gD d R f a)(i:∀b x,R b x->c b x):gD d c f a:=
 ⟨h.len,h.size,λj b x e g=>i _ _ (h.dt j b x e g)⟩
def eH.fV{α:Type}{e:Nat}{R:List Ce->α->Prop}{a:List α}(i:gG h d g e s f.flatten)(c:gD e R f a)(t:0<e)(v:a.length<=9223372036854775807):eH d e R s a:=by
 have r:s.len=a.length:=by
  have b:=i.len;rw[cr c.size]at b;have:=Ts t b;rw[<-this,c.len]
 refine⟨r,?_,V,λj x p=>?_⟩
 ·rcases i.E with b|⟨n,m,tail,b,h2,h3,h4,h5⟩
  ·rw[b];exact ad _
  ·rw[b];exact h5
 ·obtain⟨n,o⟩:=ag (l:=f) (k:=j) (by rw[c.len];exact ax p);refine⟨n,c.dt j n x o p,λu m q=>?_⟩;have:=i.iP (j*e+u) m (fK c.size o q);rwa[<-df]at this
end Go.Vc
end
section
namespace Go.Vc
variable{S c:List Nat}{m a d:I}{b o e:Nat}{l:List Ce}{s:O}
def bO(S:List Nat)(m:I):I:=m.mapIdx λb o=>if b∈S then .cells #[] 0 else o
def Le(M a:I):Prop:=∀b o v,af M b o=some v->af a b o=some v
def eg{v:Value}:af (bO S m) b o=some v<->b∉S/\af m b o=some v:=by
 unfold af bO;rw[Array.getElem?_mapIdx];cases h:m[b]? with
 |none=>simp
 |some x=>by_cases a:b∈S<;>simp[a]
def Le.aB(m:I):Le m m:=λ_ _ _ h=>h
def Le.trans{a b c:I}(h:Le a b)(k:Le b c):Le a c:=λx o v d=>k x o v (h x o v d)
def J.le(h:J m a):Le m a:=λ_ _ _ b=>h.af b
def bD(S:List Nat)(m:I):Le (bO S m) m:=λ_ _ _ h=>(eg.1 h).2
def px(h:∀b,b<m.size->b∉S->b∉c/\a[b]? =m[b]?):Le (bO S m) (bO c a):=λb o v i=>by
 obtain⟨e,d⟩:=eg.1 i;obtain⟨f,g⟩:=h b (nF d) e;exact eg.2 ⟨f,by rw[aN g];exact d⟩
def J.bO(h:J m a)(d:∀b∈c,b∈S\/m.size<=b):Le (bO S m) (bO c a):=
 px λb e g=>⟨λf=>(d b f).elim g λh=>V,h.same b e⟩
def J.da(h:J m a)(S:List Nat):Le (Vc.bO S m) (Vc.bO S a):=h.bO λ_ b=>Or.inl b
def jL(m:I)(a:∀b∈c,b∈S):Le (bO S m) (bO c m):=(J.aB m).bO λb d=>Or.inl (a b d)
def Le.iP{M a:I}(h:Le M a)(e:fN M b o l):fN a b o l:=λi c d=>h _ _ _ (e i c d)
def eH.le{α:Type}{d:Nat}{R c:List Ce->α->Prop}{l:List α}(h:eH m d R s l)(j:Le m a)(g:∀b x,R b x->c b x):eH a d c s l:=
 ⟨h.len,h.cap,h.fS,λk x i=>let⟨b,e,f⟩:=h.iP k x i;⟨b,g _ _ e,j.iP f⟩⟩
def ap.le{m a:I}(b:Le m a){s:O}{l:List Int}(h:ap m s l):ap a s l:=eH.le h b λ_ _ h=>h
def mJ.le{m a:I}(g:Le m a)(b:List Ce)(c:List Int):mJ m b c->mJ a b c:=λ⟨f,d,e⟩=>⟨f,d,e.le g⟩
def il.le{m a:I}(d:Le m a)(b:List Ce)(c:bB):il m b c->il a b c:=λ⟨f,e,g⟩=>⟨f,e,eH.le g d (mJ.le d)⟩
def cx.le{m a:I}(b:Le m a){s:O}{l:List bB}(h:cx m s l):cx a s l:=eH.le h b (il.le b)
def Ny(a:b∉S)(h:fN m b o l):fN (bO S m) b o l:=λi c d=>eg.2 ⟨a,h i c d⟩
def eH.Qi{α:Type}{a:Nat}{R:List Ce->α->Prop}{c:List (List Ce)}{l:List α}(o:∀b∈S,b<d.size)(h:gG d m e a s c.flatten)(q:gD a R c l)(r:0<a)(p:l.length<=9223372036854775807):eH (bO S m) a R s l:=by
 have H:=eH.fV h q r p;refine⟨H.len,H.cap,H.fS,λt x i=>?_⟩;obtain⟨j,k,n⟩:=H.iP t x i;rcases h.F with f|f
 ·have g:=H.len;have:=ax i;rw[f]at g;simp at g;omega
 ·exact⟨j,k,Ny (λg=>by have:=o _ g;omega) n⟩
def ap.Qi{l:List Int}(k:∀b∈S,b<d.size)(h:gG d m e 1 s (l.map Ce.i))(n:l.length<=9223372036854775807):ap (bO S m) s l:=by
 have H:=ap.fV h n;refine⟨H.len,H.cap,H.fS,λo x f=>?_⟩;obtain⟨g,i,j⟩:=H.iP o x f;rcases h.F with a|a
 ·have c:=H.len;have:=ax f;rw[a]at c;simp at c;omega
 ·exact⟨g,i,Ny (λc=>by have:=k _ c;omega) j⟩
end Go.Vc
end
section
namespace Go.Vc
variable{X Y S:List Nat}{a b c m d:I}{f:List Ce}{s:O}{k:Nat}
structure Fz(X:List Nat)(m d:I):Prop where
 size:m.size<=d.size
 same:∀b,b<m.size->b∉X->d[b]? =m[b]?
def Fz.aB(X:List Nat)(m:I):Fz X m m:=⟨ad _,λ_ _ _=>rfl⟩
def Fz.rS(h:Fz X a b)(k:Fz Y b c)(g:∀y∈Y,y∈X\/a.size<=y):Fz X a c:=
 ⟨cg h.size k.size,λi d e=>(k.same i (aP d h.size) λf=>(g i f).elim e λh=>V).trans (h.same i d e)⟩
def Fz.trans(h:Fz X a b)(k:Fz X b c):Fz X a c:=h.rS k λ_ d=>Or.inl d
def J.fz(h:J m d)(X:List Nat):Fz X m d:=⟨h.size,λb a _=>h.same b a⟩
def Fz.then(h:Fz X a b)(k:J b c):Fz X a c:=h.trans (k.fz X)
def Fz.push{X:List Nat}{a m:I}(h:Fz X a m)(o:Obj):Fz X a (m.push o):=h.then (J.push m o)
def Fz.ext(h:Fz [] m d):J m d:=⟨h.size,λb a=>h.same b a D⟩
def Fz.CY(h:Fz X m d)(f:∀b∈X,b∈Y\/m.size<=b):Fz Y m d:=⟨h.size,λb a e=>h.same b a λc=>(f b c).elim e λh=>V⟩
def Fz.ai(h:Fz X a m){b:Nat}(c:b∈X\/a.size<=b)(o:Nat)(l:List Ce):Fz X a (ai m b o l):=
 ⟨by rw[av];exact h.size,λj f d=>by
  have e:j≠b:=λe=>by subst e;exact c.elim d λc=>V
  rw[bd l m b o e];exact h.same j f d⟩
def Fz.bO(h:Fz X m d){a:List Nat}(f:∀b∈X,b∈S)(e:∀b∈a,b∈S\/m.size<=b):Le (bO S m) (bO a d):=
 px λb g c=>⟨λi=>(e b i).elim c λh=>V,h.same b g λj=>c (f b j)⟩
def Fz.da(h:Fz X m d)(a:∀b∈X,b∈S):Le (Vc.bO S m) (Vc.bO S d):=h.bO a λ_ h=>Or.inl h
def Fz.dm(h:Fz X m d){l:List Nat}(c:∀b∈l,b<m.size/\b∉X):eE l m d:=λb a=>h.same b (c b a).1 (c b a).2
inductive Ex where
 |mk (op bN:Int) (bE:List Ex)
def Ex.op:Ex->Int| .mk o _ _=>o
def Ex.bN:Ex->Int| .mk _ n _=>n
def Ex.bE:Ex->List Ex| .mk _ _ k=>k
structure Lv(β:Type)where
 op:Int
 bN:Int
 bW:Int
 args:List Int
 bE:List β
inductive Bk where
 |mk (aA:List (Lv Bk)) (aV:Int)
abbrev cR:=Lv Bk
def Bk.aA:Bk->List cR| .mk s _=>s
def Bk.aV:Bk->Int| .mk _ r=>r
@[simp] theorem Ex.Vg (o n:Int) (k:List Ex):(Ex.mk o n k).op=o:=rfl
@[simp] theorem Ex.SS (o n:Int) (k:List Ex):(Ex.mk o n k).bN=n:=rfl
@[simp] theorem Ex.QV (o n:Int) (k:List Ex):(Ex.mk o n k).bE=k:=rfl
@[simp] theorem Bk.jN (s:List cR) (r:Int):(Bk.mk s r).aA=s:=rfl
@[simp] theorem Bk.jd (s:List cR) (r:Int):(Bk.mk s r).aV=r:=rfl
inductive Bd(m:I):List Ce->Ex->Prop
 |mk (op bN:Int) (bE:List Ex) (s:O) (css:Nat->List Ce) (hl:s.len=bE.length) (hc:s.len<=s.cap) (hm:s.len<=9223372036854775807)
  (hr:∀(k:Nat)(x:Ex),bE[k]? =some x->fN m s.F (s.off+k*3) (css k)) (hk:∀(k:Nat)(x:Ex),bE[k]? =some x->Bd m (css k) x):Bd m [.i op,.i bN,.s s] (.mk op bN bE)
inductive rC(m:I):List Ce->Bk->Prop
 |mk (aA:List (Lv Bk)) (r:Int) (s:O) (hl:s.len=aA.length) (hc:s.len<=s.cap) (hm:s.len<=9223372036854775807) (aa ks:Nat->O) (kcs:Nat->Nat->List Ce)
  (hr:∀(k:Nat)(x:Lv Bk),aA[k]? =some x->fN m s.F (s.off+k*5) [.i x.op,.i x.bN,.i x.bW,.s (aa k),.s (ks k)]/\ap m (aa k) x.args/\(ks k).len=x.bE.length/\(ks k).len<=(ks k).cap/\(ks k).len<=9223372036854775807)
  (hb:∀(k:Nat)(x:Lv Bk)(j:Nat)(b:Bk),aA[k]? =some x->x.bE[j]? =some b->fN m (ks k).F ((ks k).off+j*2) (kcs k j))
  (hk:∀(k:Nat)(x:Lv Bk)(j:Nat)(b:Bk),aA[k]? =some x->x.bE[j]? =some b->rC m (kcs k j) b):rC m [.s s,.i r] (.mk aA r)
def gH(m:I)(f:List Ce)(x:cR):Prop:=∃a k,f=[.i x.op,.i x.bN,.i x.bW,.s a,.s k]/\ap m a x.args/\eH m 2 (rC m) k x.bE
abbrev fw(m:I)(s:O)(l:List Ex):Prop:=eH m 3 (Bd m) s l
abbrev eI(m:I)(s:O)(l:List cR):Prop:=eH m 5 (gH m) s l
abbrev nD(m:I)(s:O)(l:List Bk):Prop:=eH m 2 (rC m) s l
def Bd.le(h:Le m d){e:Ex}(a:Bd m f e):Bd d f e:=by
 induction a with
 |mk n bN bE s b g c i a o l=>exact .mk n bN bE s b g c i (λk x j=>h.iP (a k x j)) l
def rC.le{m d:I}(h:Le m d){f:List Ce}{b:Bk}(a:rC m f b):rC d f b:=by
 induction a with
 |mk aA u s o n p e t r a l v q=>
  exact .mk aA u s o n p e t r (λk x c=>let⟨g,i,j⟩:=a k x c;⟨h.iP g,i.le h,j⟩) (λk x j b c g=>h.iP (l k x j b c g)) q
def eH.choose{α:Type}{m:I}{a:Nat}{R:List Ce->α->Prop}{s:O}{l:List α}(h:eH m a R s l):
 ∃b:Nat->List Ce,∀(k:Nat)(x:α),l[k]? =some x->R (b k) x/\fN m s.F (s.off+k*a) (b k):=by
 have:∀k:Nat,∃f:List Ce,∀x:α,l[k]? =some x->R f x/\fN m s.F (s.off+k*a) f:=λk=>by
  cases e:l[k]? with
  |none=>exact⟨[],λx c=>by simp at c⟩
  |some x=>obtain⟨f,d⟩:=h.iP k x e;exact⟨f,λy c=>by simp at c;exact c▸d⟩
 exact⟨λk=>Classical.choose (this k),λk=>eS (this k)⟩
def Bd.aW{e:Ex}(h:Bd m f e):∃s,f=[.i e.op,.i e.bN,.s s]/\fw m s e.bE:=by
 cases h with
 |mk l bN bE s b g c i j d=>exact⟨s,rfl,g,c,i,λk x a=>⟨b k,d k x a,j k x a⟩⟩
def Bd.of{b bN:Int}{bE:List Ex}(h:fw m s bE):Bd m [.i b,.i bN,.s s] (.mk b bN bE):=by
 obtain⟨d,c⟩:=h.choose;exact .mk b bN bE s d h.len h.cap h.fS (λk x a=>(c k x a).2) λk x a=>(c k x a).1
def rC.aW{b:Bk}(h:rC m f b):∃s,f=[.s s,.i b.aV]/\eI m s b.aA:=by
 cases h with
 |mk aA y s r p t d w v u o q=>
  exact⟨s,rfl,r,p,t,λk x a=>let⟨e,g,i,l,n⟩:=u k x a;⟨_,⟨d k,w k,rfl,g,i,l,n,λj b c=>⟨v k j,q k x j b a c,o k x j b a c⟩⟩,e⟩⟩
def rC.of{r:Int}{aA:List cR}(h:eI m s aA):rC m [.s s,.i r] (.mk aA r):=by
 obtain⟨o,n⟩:=h.choose;have:∀k:Nat,∃(a c:O)(f:Nat->List Ce),∀x:cR,aA[k]? =some x->o k=[.i x.op,.i x.bN,.i x.bW,.s a,.s c]/\ap m a x.args/\(c.len=x.bE.length/\c.len<=c.cap/\c.len<=9223372036854775807)/\
  ∀(j:Nat)(b:Bk),x.bE[j]? =some b->rC m (f j) b/\fN m c.F (c.off+j*2) (f j):=λk=>by
  cases p:aA[k]? with
  |none=>exact⟨.nil,.nil,λ_=>[],λx d=>by simp at d⟩
  |some x=>
   obtain⟨⟨a,c,g,i,e⟩,_⟩:=n k x p
   obtain⟨f,q⟩:=e.choose
   exact⟨a,c,f,λy l=>by simp at l;subst l;exact⟨g,i,⟨e.len,e.cap,e.fS⟩,q⟩⟩
 have H:=λk=>eS (eS (eS (this k)));refine .mk aA r s h.len h.cap h.fS (λk=>Classical.choose (this k)) (λk=>Classical.choose (eS (this k))) (λk=>Classical.choose (eS (eS (this k)))) (λk x d=>?_) (λk x j b d l=>?_) λk x j b d l=>?_
 ·obtain⟨g,i,e,_⟩:=H k x d;exact⟨by rw[<-g];exact(n k x d).2,i,e⟩
 ·exact((H k x d).2.2.2 j b l).2
 ·exact((H k x d).2.2.2 j b l).1
def gH.le{m d:I}(h:Le m d){f:List Ce}{x:cR}:gH m f x->gH d f x:=λ⟨a,k,b,c,e⟩=>⟨a,k,b,c.le h,eH.le e h λ_ _=>rC.le h⟩
def fw.le{m d:I}(a:Le m d){s:O}{l:List Ex}(h:fw m s l):fw d s l:=eH.le h a λ_ _=>Bd.le a
def eI.le{m d:I}(a:Le m d){s:O}{l:List cR}(h:eI m s l):eI d s l:=eH.le h a λ_ _=>gH.le a
def nD.le{m d:I}(a:Le m d){s:O}{l:List Bk}(h:nD m s l):nD d s l:=eH.le h a λ_ _=>rC.le a
def fw.E{l:List Ex}(h:fw m s l){x:Ex}(b:l[k]? =some x):
 ∃t,fw m t x.bE/\af m s.F (s.off+k*3)=some (vi x.op)/\af m s.F (s.off+k*3+1)=some (vi x.bN)/\af m s.F (s.off+k*3+2)=some (O.v t):=by
 obtain⟨f,d,a⟩:=h.iP k x b
 obtain⟨t,rfl,c⟩:=d.aW
 exact⟨t,c,a 0 _ rfl,a 1 _ rfl,a 2 _ rfl⟩
def eI.E{l:List cR}(h:eI m s l){x:cR}(e:l[k]? =some x):
 ∃a t,ap m a x.args/\nD m t x.bE/\af m s.F (s.off+k*5)=some (vi x.op)/\af m s.F (s.off+k*5+1)=some (vi x.bN)/\af m s.F (s.off+k*5+2)=some (vi x.bW)/\af m s.F (s.off+k*5+3)=some (O.v a)/\af m s.F (s.off+k*5+4)=some (O.v t):=by
 obtain⟨f,⟨a,t,rfl,c,d⟩,b⟩:=h.iP k x e
 exact⟨a,t,c,d,b 0 _ rfl,b 1 _ rfl,b 2 _ rfl,b 3 _ rfl,b 4 _ rfl⟩
def nD.E{l:List Bk}(h:nD m s l){x:Bk}(b:l[k]? =some x):
 ∃t,eI m t x.aA/\af m s.F (s.off+k*2)=some (O.v t)/\af m s.F (s.off+k*2+1)=some (vi x.aV):=by
 obtain⟨f,d,a⟩:=h.iP k x b
 obtain⟨t,rfl,c⟩:=d.aW
 exact⟨t,c,a 0 _ rfl,a 1 _ rfl⟩
def Bk.w:Bk->Nat
 | .mk aA _=>1+(aA.map λs=>1+s.args.length+(s.bE.map Bk.w).sum).sum
decreasing_by
 rename_i s a _ _
 have b:=oH a
 have c:=oH (by assumption:_∈s.bE)
 have d:SizeOf.sizeOf s.bE<SizeOf.sizeOf s:=by cases s;simp;omega
 simp;omega
def Lv.w(s:Lv Bk):Nat:=1+s.args.length+(s.bE.map Bk.w).sum
def Bk.Yz(b:Bk):b.w=1+(b.aA.map Lv.w).sum:=by
 cases b;rw[Bk.w];rfl
def Ex.n:Ex->Nat
 | .mk _ _ bE=>1+(bE.map Ex.n).sum
end Go.Vc
end
section
namespace Go.Vc
variable{S Y S' X:List Nat}{d a c:I}{b k n h i:Nat}{s x:O}{g cs o:List Ce}{f:List (List Ce)}{K:O->I->Prop}
structure nZ{α:Type}(sz:Nat)(R:I->List Ce->α->Prop):Prop where
 le:∀{M M':I}{cs:List Ce}{x:α},Le M M'->R M cs x->R M' cs x
 len:∀{M:I}{cs:List Ce}{x:α},R M cs x->cs.length=sz
def tI(_:I)(cs:List Ce)(n:Int):Prop:=TJ cs n
def tI.mono:nZ 1 tI:=⟨λ_ h=>h,λh=>by rw[h];rfl⟩
def Bd.mono:nZ 3 Bd:=⟨λh=>Bd.le h,λh=>by obtain⟨s,rfl,_⟩:=h.aW;rfl⟩
def rC.mono:nZ 2 rC:=⟨λh=>rC.le h,λh=>by obtain⟨s,rfl,_⟩:=h.aW;rfl⟩
def gH.mono:nZ 5 gH:=⟨λh=>gH.le h,λh=>by obtain⟨_,_,rfl,_⟩:=h;rfl⟩
structure Gr{α:Type}(S:List Nat)(d a:I)(b sz:Nat)(R:I->List Ce->α->Prop)(s:O)(l:List α):Prop where
 iL:s≠.nil
 aR:∃f,gG d a b sz s f.flatten/\gD sz (R (bO (s.F::S) a)) f l
def Gr.len{α:Type}{S:List Nat}{d a:I}{b e:Nat}{R:I->List Ce->α->Prop}{s:O}{l:List α}(h:Gr S d a b e R s l)(i:0<e):s.len=l.length:=by
 obtain⟨_,f,g,c⟩:=h;have:=g.len;rw[cr c.size]at this;rw[<-c.len,Ts i this]
def Gr.bg{α:Type}{g:Nat}{R:I->List Ce->α->Prop}{l:List α}(h:Gr S d a b g R s l):d.size<=s.F/\s.F<a.size:=by
 obtain⟨c,f,e,i⟩:=h;exact⟨e.F.resolve_left c,e.lt.resolve_left c⟩
def Gr.new{α:Type}(S:List Nat){d a:I}(h:d.size<=a.size)(b c:Nat)(R:I->List Ce->α->Prop):Gr S d (a.push (.cells (bG []) b)) b c R (.mk a.size 0 0 0) []:=
 ⟨D,[],(gG.new (J.aB a) b c [] 0 D).bY h,gD.nil _ _⟩
def Gr.dW{α:Type}{g:Nat}{R:I->List Ce->α->Prop}{l:List α}(o:nZ g R)(h:Gr S d a b g R s l)(j:Fz Y a c)(i:∀e∈Y,e∈S/\e<d.size):Gr S d c b g R s l:=by
 have q:=h.bg;obtain⟨k,f,m,n⟩:=h;refine⟨k,f,m.congr (j.same _ q.2 λp=>by have:=(i _ p).2;omega),n.mono λcs x=>o.le ?_⟩;exact j.da λe p=>aj _ (i e p).1
def Gr.MB{α:Type}{g:Nat}{R:I->List Ce->α->Prop}{l:List α}(n:nZ g R)(h:Gr S d a b g R s l)(i:Fz Y a c)(o:∀e∈Y,e∈S)(q:s.F∉Y):Gr S d c b g R s l:=by
 have r:=h.bg;obtain⟨j,f,k,m⟩:=h;exact⟨j,f,k.congr (i.same _ r.2 q),m.mono λcs x=>n.le (i.da λe p=>aj _ (o e p))⟩
def Gr.re{α:Type}{h:Nat}{R:I->List Ce->α->Prop}{l:List α}(o:nZ h R)(i:Gr S d a b h R s l)(j:Fz Y a c)(q:∀e∈Y,e∈S)(r:s.F∉Y)(p:∀e∈S',e∈S\/a.size<=e):Gr S' d c b h R s l:=by
 have t:=i.bg;obtain⟨k,f,m,n⟩:=i;refine⟨k,f,m.congr (j.same _ t.2 r),n.mono λcs x=>o.le (j.bO (λe g=>aj _ (q e g)) λe g=>?_)⟩;rcases List.mem_cons.1 g with g|g
 ·exact Or.inl (by rw[g];exact ba)
 ·exact(p e g).imp (aj _) id
def Gr.ext{α:Type}{e:Nat}{R:I->List Ce->α->Prop}{l:List α}(f:nZ e R)(h:Gr S d a b e R s l)(g:J a c):Gr S d c b e R s l:=
 h.dW f (g.fz []) D
def Gr.done{α:Type}{c:Nat}{R:I->List Ce->α->Prop}{l:List α}(j:nZ c R)(h:Gr S d a b c R s l)(k:∀e∈S,e<d.size)(o:0<c)(n:l.length<=9223372036854775807):eH (bO S a) c (R (bO S a)) s l:=by
 obtain⟨_,f,g,i⟩:=h;exact eH.Qi k g (i.mono λcs x=>j.le (jL a λe m=>aj _ m)) o n
def J.Lr(h:k<=a.size):J (a.extract 0 k) a:=by
 refine⟨bJ,λb c=>?_⟩;have d:b<k:=by simp at c;omega
 rw[Array.getElem?_extract];simp;omega
def nL(h:k<=a.size):(a.extract 0 k).size=k:=bJ
def Gr.next{α:Type}{E:Nat}{R:I->List Ce->α->Prop}{C D:List α}(F:nZ g.length R)(W:0<g.length)
 (y:Gr S d a b g.length R s C)(G:Fz X d a)(u:x.len=f.length)(T:fN a x.F x.off f.flatten)(n:gD g.length (R (bO (s.F::S) a)) f D)(i:(C.length+D.length)*E<=140737488355328)
 (P:∀r c,Gr S d c b g.length R r (C++D)->Fz X d c->(a.size<=c.size/\(r.F=s.F\/a.size<=r.F))->(∀e,e<a.size->e≠s.F->c[e]? =a[e]?)->K r c):jE a b g E s x K:=by
 have Q:=y.len W
 have hy:=y.bg
 obtain⟨z,w,O,j⟩:=y
 have q:d.size<=a.size:=G.size
 refine gG.append (h:=a.extract 0 d.size) (c:=g) (i:=f.flatten) (a:=w.flatten) (O.bY (by rw[nL q];exact ad _)) (J.Lr q) ?_ T (by rw[Q,u,n.len];exact i) λr c Y k2 k3 Z k5 B=>?_
 ·rw[cr n.size,u]
 have A:∀e,e<a.size->e≠s.F->c[e]? =a[e]? :=λe i k=>k5 e i λ_=>k
 have U:r≠.nil:=by
  rcases B with⟨h,_⟩|⟨_,_,h⟩|h
  ·exact absurd h z
  ·exact h
  ·intro b;rw[b]at h;simp at h;omega
 have L:a.size<=c.size:=Z
 have H:Le (bO (s.F::S) a) (bO (r.F::S) c):=px λe i k=>by
  simp only[aU,tH]at k;refine⟨?_,A e i k.1⟩;simp only[aU,tH];refine⟨?_,k.2⟩;rcases B with⟨h,_⟩|⟨_,h,_⟩|h
  ·exact absurd h z
  ·rw[h];exact k.1
  ·omega
 refine P r c ⟨U,w++f,?_,?_⟩ ⟨cg q L,λe i u=>?_⟩ ⟨L,?_⟩ A
 ·rw[qB]
  exact Y.bY (by rw[nL q];exact ad _)
 ·refine⟨by simp[j.len,n.len],λm o=>?_,λM m N t v=>?_⟩
  ·rcases List.mem_append.1 o with o|o
   ·exact j.size m o
   ·exact n.size m o
  ·rcases be M w.length with p|p
   ·rw[aw p]at t
    rw[aw (j.len▸p)]at v
    exact F.le H (j.dt M m N t v)
   ·rw[aG p]at t
    rw[aG (by rw[<-j.len];exact p),<-j.len]at v
    exact F.le H (n.dt _ m N t v)
 ·rw[A e (aP i q) V];exact G.same e i u
 ·rcases B with⟨h,_⟩|⟨_,h,_⟩|h
  ·exact absurd h z
  ·exact Or.inl h
  ·exact Or.inr V
def Gr.kv{α:Type}{n:Nat}{R:I->List Ce->α->Prop}{m:List α}{k:α}(i:nZ g.length R)(z:0<g.length)
 (q:Gr S d a b g.length R s m)(w:Fz X d a)(p:R (bO (s.F::S) a) cs k)(j:(m.length+1)*n<=140737488355328)
 (x:∀r c,Gr S d c b g.length R r (m++[k])->Fz X d c->(a.size<=c.size/\(r.F=s.F\/a.size<=r.F))->(∀f,f<a.size->f≠s.F->c[f]? =a[f]?)->K r c):jE (a.push (.cells (bG cs) b)) b g n s (.mk a.size 0 1 1) K:=by
 have h:=J.push a (.cells (bG cs) b)
 refine Gr.next (f:=[cs]) (D:=[k]) i z (q.ext i h) (w.then h) rfl ?_ ?_ j λr c t u o v=>x r c t u ⟨cg h.size o.1,o.2.imp id (cg h.size)⟩ λf j y=>(v f (aP j h.size) y).trans (h.same f j)
 ·have:=(cF.push a (e:=b) (l:=cs)).iP
  simpa using this
 ·have:=gD.yy (gD.nil g.length (R (bO (s.F::S) (a.push (.cells (bG cs) b))))) (i.len p) (i.le (h.da _) p)
  simpa using this
def eH.Vi{α:Type}{b:Nat}{R:List Ce->α->Prop}{g:List α}(B:∀cs x,R cs x->cs.length=b)(u:eH a b R s g):
 ∃f,s.len=f.length/\fN a s.F s.off f.flatten/\gD b R f g:=by
 obtain⟨e,n⟩:=u.choose
 have z:∀(c:Nat)(cs:List Ce),((List.range g.length).map e)[c]? =some cs->c<g.length/\cs=e c:=λc cs d=>by
  simp only[cQ,jv]at d;obtain⟨H,q,E⟩:=d;obtain⟨v,w⟩:=List.getElem?_eq_some_iff.1 q;simp at v w;subst w;exact⟨v,E.symm⟩
 have o:∀cs∈(List.range g.length).map e,cs.length=b:=λcs G=>by
  obtain⟨c,d⟩:=List.mem_iff_getElem?.1 G;obtain⟨q,rfl⟩:=z c cs d;obtain⟨x,m⟩:=ag q;exact B _ _ (n c x m).1
 refine⟨(List.range g.length).map e,by simp[u.len],λi C t=>?_,D,o,λc cs x d m=>?_⟩
 ·rcases jT b with p|p
  ·have h:=ax t
   rw[cr o,p]at h;simp at h
  have h:=ax t
  rw[cr o]at h
  simp at h
  have d:i/b<g.length:=Nat.div_lt_of_lt_mul (by rw[Nat.mul_comm];exact h)
  obtain⟨x,m⟩:=ag d
  have A:i=i/b*b+i%b:=by rw[Nat.mul_comm];exact(Nat.div_add_mod i b).symm
  have K:=Nat.mod_lt i p
  have J:(e (i/b)).length=b:=B _ _ (n _ x m).1
  obtain⟨I,y⟩:=ag (l:=e (i/b)) (k:=i%b) V
  have r:=fK (f:=(List.range g.length).map e) o (b:=i/b) (a:=e (i/b)) (by simp[d]) y
  rw[<-A,t]at r
  simp at r;subst r
  have F:=(n _ x m).2 _ C y
  rw[A,<-df];exact F
 ·obtain⟨_,rfl⟩:=z c cs d
  exact(n c x m).1
def Gr.all{α:Type}{j:Nat}{R:I->List Ce->α->Prop}{l i:List α}(k:nZ g.length R)(v:0<g.length)
 (h:Gr S d a b g.length R s l)(t:Fz X d a)(p:eH (bO (s.F::S) a) g.length (R (bO (s.F::S) a)) x i)(q:(l.length+i.length)*j<=140737488355328)
 (u:∀r c,Gr S d c b g.length R r (l++i)->Fz X d c->(a.size<=c.size/\(r.F=s.F\/a.size<=r.F))->(∀e,e<a.size->e≠s.F->c[e]? =a[e]?)->K r c):jE a b g j s x K:=by
 obtain⟨f,m,n,o⟩:=p.Vi λ_ _ h=>k.len h
 exact Gr.next k v h t m ((bD _ _).iP n) o q u
def Gr.lit{α:Type}{e:Nat}{R:I->List Ce->α->Prop}{l:List α}(j:nZ e R)(i:d.size<=a.size)(p:∀g∈S,g<d.size)(k:cs=f.flatten)(m:n=f.length)(h:gD e (R (bO S a)) f l):
 Gr S d (a.push (.cells (bG cs) b)) b e R (.mk a.size 0 n n) l:=by
 subst k m
 refine⟨D,f,(gG.new (J.aB a) b e f.flatten f.length (cr h.size)).bY i,h.mono λo x=>j.le ?_⟩
 exact(J.push a _).bO λg c=>by
  rcases List.mem_cons.1 c with c|c
  ·exact Or.inr (by simp[c])
  ·exact Or.inl c
def Gr.nE{α:Type}{c:Nat}{R:I->List Ce->α->Prop}{l:List α}(m:nZ c R)(h:Gr S d a b c R s l)(n:s.F∉S)(q:0<c)(p:l.length<=9223372036854775807):eH (bO S a) c (R (bO S a)) s l:=by
 obtain⟨_,f,e,g⟩:=h;have H:=eH.fV e (g.mono λcs x=>m.le (jL a λj i=>aj s.F i)) q p;exact⟨H.len,H.cap,H.fS,λk x o=>let⟨cs,i,j⟩:=H.iP k x o;⟨cs,i,Ny n j⟩⟩
def Gr.ne{α:Type}{q:Nat}{R:I->List Ce->α->Prop}{p:List α}(k:Gr S d a b q R s p)(g:cF a h i o)(n:i≠b):s.F≠h:=by
 obtain⟨l,f,m,x⟩:=k;obtain⟨r,t,tail,j,u,c,v,w⟩:=m.E.resolve_left l;intro e;rw[j]at e;simp only[O.jm]at e;subst e;unfold cF at g c;rw[g]at c;simp at c;exact n c.2
def Gr.Kp{α β:Type}{q:I}{r c t:Nat}{R:I->List Ce->α->Prop}{g:I->List Ce->β->Prop}{e:O}{o:List α}{p:List β}(j:Gr S d a b r R s o)(k:Gr S' q a c t g e p)(n:c≠b):s.F≠e.F:=by
 obtain⟨l,f,m,z⟩:=k;obtain⟨u,v,tail,h,w,i,x,y⟩:=m.E.resolve_left l;have:=j.ne i n;rw[h];exact this
def Gr.box{α:Type}{L:List Nat}{j z:Nat}{R:I->List Ce->α->Prop}{v:List α}{y:α}{K:I->Prop}(C:nZ g.length R)(hz:0<g.length)
 (p:Gr S d a b g.length R s v)(D:Fz X d a)(U:R (bO (s.F::S) a) cs y)(k:(v.length+1)*z<=140737488355328)
 (q:cF a h i o)(hi:j<o.length)(G:i≠b)(u:d.size<=h/\h∈S)(B:∀e∈L,e<a.size/\e≠h/\e≠s.F)
 (W:∀r c,Gr S d c b g.length R r (v++[y])->cF c h i (iX o j [.s r])->Fz X d c->a.size<=c.size->(∀e,e<a.size->e≠s.F->e≠h->c[e]? =a[e]?)->K c):
 af (a.push (.cells (bG cs) b)) h j=af a h j/\
 jE (a.push (.cells (bG cs) b)) b g z s (.mk a.size 0 1 1) λr c=>eE L (a.push (.cells (bG cs) b)) c/\fH c h j 1/\(eE L c (ai c h j [.s r])/\K (ai c h j [.s r])):=by
 have E:=q.lt
 have Y:=p.ne q G
 have H:=J.push a (.cells (bG cs) b)
 have hy:=p.bg
 refine⟨aN (H.same h E) j,Gr.kv C hz p D U k λr c A M aa w=>?_⟩
 have t:cF c h i o:=q.congr (w h E (kd Y))
 have Z:=A.ne t G
 have n:∀e,e≠h->(ai c h j [.s r])[e]? =c[e]? :=λe k=>bd _ _ _ _ k
 have ac:=D.size
 have ab:=u.1
 refine⟨λe k=>?_,t.fH V,λe k=>n e (B e k).2.1,W r _ ?_ (cF.ai (m:=c) t) (M.ai (Or.inr u.1) _ _) (by rw[av];exact aa.1) λe l Q T=>(n e T).trans (w e l Q)⟩
 ·have l:=B e k
  rw[w e l.1 l.2.2,H.same e l.1]
 ·obtain⟨N,f,O,P⟩:=A
  refine⟨N,f,O.congr (n _ Z),P.mono λcs x=>C.le ?_⟩
  exact px λe k F=>⟨F,n e λb=>F (by rw[b];exact aj _ u.2)⟩
def ap.lit(b:Nat)(l:List Int)(d:∀c∈S,c<a.size)(c:cs=l.map Ce.i)(f:n=l.length)(e:l.length<=9223372036854775807):ap (bO S (a.push (.cells (bG cs) b))) (.mk a.size 0 n n) l:=by
 subst c f;have h:=gG.new (J.aB a) b 1 (l.map Ce.i) l.length D;exact ap.Qi d h e
end Go.Vc
end
