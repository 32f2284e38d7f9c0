/- Part of a proof, joined by a program. -/
import Derived.Test.YtakpkjhmbbfniaaGreatU00
set_option linter.unusedVariables false
set_option linter.unusedSimpArgs false
set_option linter.defProp false
set_option linter.constructorNameAsVariable false
set_option maxHeartbeats 8000000
set_option maxRecDepth 100000
section
namespace Go.Vc
variable{P:Program}{T:TT}{G:List Nat}{n:Nat}
def rZ:List Nat->Nat->Nat
 |[],_=>0
 |x::_,0=>x
 |_::r,n+1=>rZ r n
def j7:List Edge->Nat
 |[]=>0
 |e::r=>bif Region.binds .any e then 2^e.on|||j7 r else j7 r
def ms(a:List Nat):List Edge->Nat
 |[]=>0
 |e::r=>bif Region.binds .any e then(2^e.on|||rZ a e.on)|||ms a r else ms a r
def jU(a:List Nat):List Oper->List Nat->List Nat->Bool
 |[],[],[]=>true
 |o::d,p::e,b::c=>Nat.beq p (j7 o.after.toList)&&Nat.beq b (ms a o.after.toList)&&jU a d e c
 |_,_,_=>false
def O9:Op->List Operand
 | .alloc _| .ready _| .waits _=>[]
 | .move x| .assign x| .box _ x| .load _ x| .nilCheck x| .unOp _ _ x| .convert _ _ x| .sliceToArrayPointer _ x| .makeInterface _ x
 | .makeChan _ x| .fieldAddr _ x _| .field _ x _| .range _ x| .next x _| .entry x| .typeAssert x _ _ _| .extract x _| .panic x| .recv _ x _=>[x]
 | .pick c a b=>[c,a,b]
 | .build _ b| .buildSlice _ _ b=>b.toList.map (·.2)
 | .store _ a v| .binOp _ _ a v _| .makeSlice _ a v| .indexAddr _ a v| .index _ a v| .lookup _ a v _| .mapEntry _ a v| .send a v=>[a,v]
 | .makeFunc _ first a=>first.toList++a.toList
 | .makeMap _ r=>r.toList
 | .slice _ x l h m=>[x]++l.toList++h.toList++m.toList
 | .mapUpdate _ m k v| .entryStore _ m k v| .insert _ m k v=>[m,k,v]
 | .call ⟨.value f,a,_⟩| .go ⟨.value f,a,_⟩| .defer ⟨.value f,a,_⟩=>f::a.toList
 | .call ⟨.invoke f _,a,_⟩| .go ⟨.invoke f _,a,_⟩| .defer ⟨.invoke f _,a,_⟩=>f::a.toList
 | .call ⟨.builtin _,a,_⟩| .go ⟨.builtin _,a,_⟩| .defer ⟨.builtin _,a,_⟩=>a.toList
 | .select a _=>(a.flatMap λc=>#[c.chan]++c.send.toArray).toList
def QV(a:Op):a.operands.toList=O9 a:=by
 cases a<;>try (simp[Op.operands,O9];done)
 all_goals
  rename_i c
  obtain⟨b,d,e⟩:=c
  cases b<;>simp[Op.operands,O9,Call.operands]
def Gz(d:Nat):List Operand->Bool
 |[]=>false
 | .tmp t::r=>Nat.beq t d||Gz d r
 |_::r=>Gz d r
def LD(a:List Oper)(o:Oper)(d:Nat):Bool:=
 Gz d (O9 o.op)||(match o.guard with
  |some (g,_)=>(match Iv a g with|some t=>Nat.beq t d|none=>false)
  |none=>false)
def Lk(a:List Oper)(x y:Oper):Bool:=
 (match x.dst with
  |some d=>!LD a y d&&(match y.dst with|some e=>!Nat.beq d e|none=>true)
  |none=>true)&&
 (match y.dst with
  |some d=>!LD a x d
  |none=>true)
def Ug:Op->Bool
 | .select ..=>true
 |_=>false
def wY(b:List Oper)(i:Nat)(a:Nat)(o:Oper):Nat->List Oper->List Nat->Bool
 |_,[],_=>true
 |_,_,[]=>true
 |j,x::c,p::d=>(Nat.beq j i||Nat.testBit p i||Nat.testBit a j||Lk b o x)&&wY b i a o (j+1) c d
def CL(a:List Oper)(b:List Nat):Nat->List Oper->List Nat->Bool
 |_,[],_=>true
 |_,_,[]=>true
 |i,o::e,c::d=>!Ug o.op&&(IC o.op||wY a i c o 0 a b)&&CL a b (i+1) e d
def jH(done p i:Nat):Bool:=!(Nat.testBit done i)&&Nat.beq (p&&&done) p
def uK(done:Nat):Nat->List Oper->List Nat->Option Nat
 |_,[],_=>none
 |_,_,[]=>none
 |i,o::a,p::b=>bif jH done p i&&!(IC o.op)then some i else uK done (i+1) a b
def nP(done:Nat):Nat->List Oper->List Nat->List Nat
 |_,[],_=>[]
 |_,_,[]=>[]
 |i,_::a,p::b=>bif jH done p i then i::nP done (i+1) a b else nP done (i+1) a b
def I7(m a:I):List (Nat×Nat)->Prop->Prop
 |[],k=>k
 |(b,o)::r,k=>D a b o=D m b o/\I7 m a r k
def AT(a:Nat)(m b:I):List (Nat×List (Nat×Nat))->Prop->Prop
 |[],k=>k
 |(r,c)::L,k=>bif Nat.testBit a r then AT a m b L k else I7 m b c (AT a m b L k)
def Lj:List Nat->(Nat->Prop)->Prop
 |[],_=>True
 |[i],f=>f i
 |i::r,f=>f i/\Lj r f
def mR(P:Program)(T:TT)(G:List Nat)(n:Nat)(b:List Oper)(c d:List Nat):Nat->Nat->Fr->I->List (Nat×List (Nat×Nat))->(Fr->I->Prop)->Prop
 |0,done,a,m,_,k=>match nP done 0 b c with
  |[]=>k a m
  |_=>False
 |e+1,done,a,m,L,k=>
  match uK done 0 b c with
  |some i=>match ER b i with
   |some o=>bif p7 n o.dst then
    gd b a o.guard
     (λa=>rd T a m (λx=>mR P T G n b c d e (done|||2^i) (rY a o.dst x) m ((i,PZ T a o.op)::L) k) o.op)
     (λa=>mR P T G n b c d e (done|||2^i) (rY a o.dst .un) m L k)
    else False
   |none=>False
  |none=>match nP done 0 b c with
   |[]=>k a m
   |h=>Lj h λi=>match ER b i with
    |some o=>bif p7 n o.dst then
     gd b a o.guard
      (λa=>wr P T G n a m o.dst o.type (λg x f=>AT (rZ d i) m f L (mR P T G n b c d e (done|||2^i) (rY g o.dst x) f L k)) o.op)
      (λa=>mR P T G n b c d e (done|||2^i) (rY a o.dst .un) m L k)
     else False
    |none=>False
def lR(r:Nat):∀(a:List Edge),Nat.testBit (j7 a) r=true<->∃e∈a,Region.binds .any e=true/\e.on=r
 |[]=>by simp[j7]
 |e::a=>by
  have c:=lR r a;simp only[j7];cases b:Region.binds .any e
  ·simp only[lj,c,aT,YB,b];simp
  ·simp only[jo,Rj,cr,c,aT,YB,b,true_and,Kh,ao]
def vM(b:List Nat)(r:Nat):∀(a:List Edge),Nat.testBit (ms b a) r=true->∃e∈a,Region.binds .any e=true/\(e.on=r\/Nat.testBit (rZ b e.on) r=true)
 |[],h=>by simp[ms]at h
 |e::a,h=>by
  have i:=vM b r a;simp only[ms]at h;cases f:Region.binds .any e
  ·simp only[f,lj]at h;obtain⟨c,g,d⟩:=i h;exact⟨c,ah _ g,d⟩
  ·simp only[f,jo,Rj,cr,Kh,ao]at h;rcases h with h|h
   ·exact⟨e,aS,f,h⟩
   ·obtain⟨c,g,d⟩:=i h;exact⟨c,ah _ g,d⟩
def kD(c:List Nat):∀{e:List Oper}{f a:List Nat},jU c e f a=true->∀(i:Nat)(o:Oper),e[i]? =some o->
 f[i]? =some (j7 o.after.toList)/\rZ a i=ms c o.after.toList/\∃b,a[i]? =some b
 |[],[],[],_,i,o,h=>by simp at h
 |x::e,p::f,b::a,h,i,o,d=>by
  simp only[jU,bE]at h;obtain⟨⟨g,j⟩,k⟩:=h;cases i with
  |zero=>
   simp at d;subst d;exact⟨by simp[bh g],by simp[rZ,bh j],b,E⟩
  |succ i=>
   have:=kD c k i o (by simpa using d);simpa[rZ]using this
 |[],[],_::_,h,_,_,_=>by simp[jU]at h
 |[],_::_,_,h,_,_,_=>by simp[jU]at h
 |_::_,[],_,h,_,_,_=>by simp[jU]at h
 |_::_,_::_,[],h,_,_,_=>by simp[jU]at h
def Gm(d:List Nat):∀{a:List Oper}{c b:List Nat},jU d a c b=true->c.length=a.length/\b.length=a.length
 |[],[],[],_=>⟨rfl,rfl⟩
 |x::a,p::c,e::b,h=>by
  simp only[jU,bE]at h;have:=Gm d h.2;simp[this.1,this.2]
 |[],[],_::_,h=>by simp[jU]at h
 |[],_::_,_,h=>by simp[jU]at h
 |_::_,[],_,h=>by simp[jU]at h
 |_::_,_::_,[],h=>by simp[jU]at h
end Go.Vc
end
section
namespace Go.Vc
variable{N done i:Nat}{a:Array Bool}
variable{P:Program}{T:TT}{G:List Nat}{n:Nat}
def rO{d:Nat}:∀{a:List Operand},Gz d a=false->d∉(a.filterMap λ| .tmp t=>some t|_=>none)
 |[],_=>E
 |x::r,h=>by
  cases x with
  |tmp t=>
   simp only[Gz,bP]at h;have b:=rO h.2;have:t≠d:=λe=>by subst e;simp at h
   simp only[List.filterMap_cons,aT,tD];exact⟨λe=>this e.symm,b⟩
  |const v=>simpa using rO (a:=r) (by simpa[Gz]using h)
  |global g=>simpa using rO (a:=r) (by simpa[Gz]using h)
  |func f=>simpa using rO (a:=r) (by simpa[Gz]using h)
def QE(a:Array Oper)(g:Nat):Iv a.toList g=(a[g]?).bind (·.dst):=by
 unfold Iv;rw[nN];have e:a.toList[g]? =a[g]? :=E;rw[e];cases a[g]? <;>rfl
def Gk(b:Array Oper){o:Oper}{d:Nat}(h:LD b.toList o d=false):d∉o.looksAt b:=by
 simp only[LD,bP]at h;unfold Oper.looksAt;rw[QV,YK,tD];refine⟨rO h.1,?_⟩;have a:=h.2;cases f:o.guard with
 |none=>simp
 |some p=>
  obtain⟨g,i⟩:=p;rw[f]at a;simp only at a⊢;rw[QE]at a;cases c:(b[g]?).bind (·.dst)with
  |none=>simp
  |some t=>
   rw[c]at a;simp only at a;simp only[Option.toList_some,ka];intro e;subst e;simp at a
def MA(b:Array Oper){x y:Oper}(h:Lk b.toList x y=true):x.apart b y=true:=by
 simp only[Lk,bE]at h;obtain⟨a,d⟩:=h;unfold Oper.apart;simp only[bE];constructor
 ·cases i:x.dst with
  |none=>rfl
  |some f=>
   rw[i]at a;simp only[bE,iF]at a⊢;refine⟨?_,?_⟩
   ·have:=Gk b a.1;simpa using this
   ·have c:=a.2;cases e:y.dst with
    |none=>simp
    |some j=>
     rw[e]at c;simp only[iF]at c;simp only[tC,ne_eq,NA];intro g;subst g;simp at c
 ·cases e:y.dst with
  |none=>rfl
  |some f=>
   rw[e]at d;simp only[iF]at d⊢;have:=Gk b d;simpa using this
def AB(g:List Oper)(i c:Nat)(o:Oper):∀{f:List Oper}{k:List Nat}{b:Nat},wY g i c o b f k=true->∀(j:Nat)(x:Oper)(p:Nat),f[j]? =some x->k[j]? =some p->
 b+j=i\/Nat.testBit p i=true\/Nat.testBit c (b+j)=true\/Lk g o x=true
 |[],_,_,_,j,x,p,h,_=>by simp at h
 |_::_,[],_,_,j,x,p,_,h=>by simp at h
 |y::f,q::k,b,h,j,x,p,e,d=>by
  simp only[wY,bE,cr]at h;obtain⟨a,m⟩:=h;cases j with
  |zero=>
   simp at e d;subst e;subst d;rcases a with((a|a)|a)|a
   ·exact Or.inl (by simpa using bh a)
   ·exact Or.inr (Or.inl a)
   ·exact Or.inr (Or.inr (Or.inl (by simpa using a)))
   ·exact Or.inr (Or.inr (Or.inr a))
  |succ j=>
   have:=AB g i c o m j x p (by simpa using e) (by simpa using d);have l:b+1+j=b+(j+1):=V;rw[l]at this;exact this
def uC(c:List Oper)(j:List Nat):∀{g:List Oper}{d:List Nat}{a:Nat},CL c j a g d=true->∀(i:Nat)(o:Oper)(b:Nat),g[i]? =some o->d[i]? =some b->
 Ug o.op=false/\(IC o.op=true\/wY c (a+i) b o 0 c j=true)
 |[],_,_,_,i,o,b,h,_=>by simp at h
 |_::_,[],_,_,i,o,b,_,h=>by simp at h
 |y::g,q::d,a,h,i,o,b,f,e=>by
  simp only[CL,bE,cr,iF]at h;obtain⟨⟨l,m⟩,n⟩:=h;cases i with
  |zero=>simp at f e;subst f;subst e;exact⟨l,by simpa using m⟩
  |succ i=>
   have:=uC c j n i o b (by simpa using f) (by simpa using e);have k:a+1+i=a+(i+1):=V;rw[k]at this;exact this
def Gj(p d:Nat):Nat.beq (p&&&d) p=true<->∀r,Nat.testBit p r=true->Nat.testBit d r=true:=by
 constructor
 ·intro h r a;have e:=bh h;rw[<-e,YL]at a;simp only[bE]at a;exact a.2
 ·intro h;have:p&&&d=p:=by
   apply Nat.eq_of_testBit_eq;intro r;rw[YL];cases a:Nat.testBit p r
   ·rfl
   ·simp[h r a]
  rw[this];simp
structure La(N done:Nat)(a:Array Bool):Prop where
 size:a.size=N
 UT:∀i,a.getD i false=Nat.testBit done i
def La.un(h:La N done a)(b:i<N):a.getD i true=Nat.testBit done i:=by
 rw[<-h.UT i];have:i<a.size:=by rw[h.size];exact b
 simp[this]
def La.set(h:La N done a)(b:i<N):La N (done|||2^i) (a.setIfInBounds i true):=by
 refine⟨by simp[h.size],λj=>?_⟩;have c:i<a.size:=by rw[h.size];exact b
 rw[Rj,Kh];by_cases e:i=j
 ·subst e;simp[c]
 ·rw[getD_set_ne false e,h.UT j];simp[e]
def EY(c:Array Oper){q g r:List Nat}(n:jU g c.toList q r=true)(f:La c.size done a)(i:Nat):
 i∈Region.ready .any c a<->∃o p,c[i]? =some o/\q[i]? =some p/\jH done p i=true:=by
 rw[mem_ready]
 constructor
 ·rintro⟨m,o,b,s⟩
  have k:i<c.size:=(Array.getElem?_eq_some_iff.1 b).1
  have l:=(kD g n i o (by simpa using b)).1
  refine⟨o,_,b,l,?_⟩
  simp only[jH,bE,iF]
  refine⟨by rw[<-f.un k];exact m,(Gj _ _).2 λt d=>?_⟩
  obtain⟨e,j,h,rfl⟩:=(lR t _).1 d
  rw[<-f.UT]
  exact s e (Array.mem_toList_iff.1 j) h
 ·rintro⟨o,p,b,l,d⟩
  have k:i<c.size:=(Array.getElem?_eq_some_iff.1 b).1
  have m:=(kD g n i o (by simpa using b)).1
  rw[l]at m
  simp only[NA]at m
  subst m
  simp only[jH,bE,iF]at d
  refine⟨by rw[f.un k];exact d.1,o,b,λe j h=>?_⟩
  rw[f.UT]
  exact(Gj _ _).1 d.2 e.on ((lR _ _).2 ⟨e,Array.mem_toList_iff.2 j,h,rfl⟩)
def IG(done:Nat):∀{c:List Oper}{d:List Nat}{a i:Nat},i∈nP done a c d<->∃j o p,i=a+j/\c[j]? =some o/\d[j]? =some p/\jH done p i=true
 |[],_,_,_=>by simp[nP]
 |_::_,[],_,_=>by simp[nP]
 |x::c,q::d,a,i=>by
  have g:=IG done (c:=c) (d:=d) (a:=a+1) (i:=i);have h:(∃j o p,i=a+j/\(x::c)[j]? =some o/\(q::d)[j]? =some p/\jH done p i=true)<->
   ((i=a/\jH done q a=true)\/∃j o p,i=a+1+j/\c[j]? =some o/\d[j]? =some p/\jH done p i=true):=by
   constructor
   ·rintro⟨j,o,p,rfl,f,e,b⟩
    cases j with
    |zero=>simp at e;subst e;exact Or.inl ⟨rfl,by simpa using b⟩
    |succ j=>exact Or.inr ⟨j,o,p,V,by simpa using f,by simpa using e,by rwa[show a+(j+1)=a+(j+1)from rfl]at b⟩
   ·rintro(⟨rfl,b⟩|⟨j,o,p,rfl,f,e,b⟩)
    ·exact⟨0,x,q,rfl,E,E,b⟩
    ·exact⟨j+1,o,p,V,by simpa using f,by simpa using e,b⟩
  rw[h,<-g];simp only[nP];cases b:jH done q a
  ·simp
  ·simp
def Gd(done:Nat):∀{c:List Oper}{d:List Nat}{b i:Nat},uK done b c d=some i->∃j o p,i=b+j/\c[j]? =some o/\d[j]? =some p/\jH done p i=true/\IC o.op=false
 |[],_,_,_,h=>by simp[uK]at h
 |_::_,[],_,_,h=>by simp[uK]at h
 |x::c,q::d,b,i,h=>by
  simp only[uK]at h;cases a:(jH done q b&&!(IC x.op))
  ·rw[a]at h;obtain⟨j,o,p,rfl,e,f,g,k⟩:=Gd done h;exact⟨j+1,o,p,V,by simpa using e,by simpa using f,g,k⟩
  ·rw[a]at h;simp at h;subst h;simp only[bE,iF]at a;exact⟨0,x,q,rfl,E,E,a.1,a.2⟩
def Ko:∀{l:List Nat}{f:Nat->Prop},Lj l f->∀i∈l,f i
 |[i],f,h,j,a=>by simp at a;subst a;exact h
 |i::b::r,f,h,j,a=>by
  rcases List.mem_cons.1 a with rfl|a
  ·exact h.1
  ·exact Ko h.2 j a
def I8{m b:I}:∀{l:List (Nat×Nat)}{k:Prop},I7 m b l k->k/\∀q∈l,D b q.1 q.2=D m q.1 q.2
 |[],k,h=>⟨h,E⟩
 |(e,o)::r,k,h=>by
  obtain⟨c,d⟩:=I8 h.2;refine⟨c,λq a=>?_⟩;rcases List.mem_cons.1 a with rfl|a
  ·exact h.1
  ·exact d q a
def Cy{c:Nat}{m g:I}:∀{L:List (Nat×List (Nat×Nat))}{k:Prop},AT c m g L k->k/\∀x∈L,Nat.testBit c x.1=false->∀q∈x.2,D g q.1 q.2=D m q.1 q.2
 |[],k,h=>⟨h,E⟩
 |(r,l)::L,k,h=>by
  simp only[AT]at h;cases f:Nat.testBit c r
  ·rw[f]at h;obtain⟨i,j⟩:=I8 h;obtain⟨d,e⟩:=Cy i;refine⟨d,λx a b=>?_⟩;rcases List.mem_cons.1 a with rfl|a
   ·exact j
   ·exact e x a b
  ·rw[f]at h;obtain⟨d,e⟩:=Cy h;refine⟨d,λx a b=>?_⟩;rcases List.mem_cons.1 a with rfl|a
   ·rw[f]at b;cases b
   ·exact e x a b
def Ws(L:List (Nat×List (Nat×Nat)))(b:List (Nat×(World->Prop))):Prop:=
 ∀x∈b,(∀w,x.2 w)\/∃(a:List (Nat×Nat))(c:Nat×Nat->Option Value),(x.1,a)∈L/\x.2=λw=>∀q∈a,D w.heap q.1 q.2=c q
end Go.Vc
end
section
namespace Go.Vc
variable{P:Program}{T:TT}{G:List Nat}{n:Nat}
def Me(hT:uA P T)(hG:Rt P G)(a:Array Oper)(W d:List Nat)(y:jU d a.toList W d=true)(an:CL a.toList W 0 a.toList d=true)
 {ag:Exit->Act->World->Prop}(hQ:∀O f w,¬ag (.panic O) f w){w0:World}{a0:Act}:
 ∀(E done:Nat)(C:Fr)(ad:I)(M:List (Nat×List (Nat×Nat)))(A:Fr->I->Prop)(N:List (Nat×(World->Prop)))(b:Array Bool)(f:Act)(w:World),
  mR P T G n a.toList W d E done C ad M A->Ws M N->La a.size done b->Et (λi L=>Nat.testBit (rZ d i) L) b->jq n C f->Bx n C ad->w.heap=ad->nl w0 w->
  kZ (xh a.toList) a0 f->
  (∀r c g,A r g.heap->jq n r c->Bx n r g.heap->nl w0 g->kZ (xh a.toList) a0 c->ag .normal c g)->
  tA P .any a ag (λi L=>Nat.testBit (rZ d i) L) N E b f w:=by
 have F:Ro .any a (λi L=>Nat.testBit (rZ d i) L):=by
  intro i L o c m;have Y:=(kD d y i o (by simpa using c)).2.1;simp only[Y]at m;obtain⟨e,he,hb,h⟩:=vM d L _ m;exact⟨e,Array.mem_toList_iff.1 he,hb,h⟩
 have aF:=Gm d y
 have av:∀(j:Nat)(o:Oper) cs p,a[j]? =some o->o.op≠.select cs p:=by
  intro j o cs p c e;obtain⟨_,_,bj,ay⟩:=kD d y j o (by simpa using c);have:=(uC _ _ an j o bj (by simpa using c) ay).1;rw[e]at this;simp[Ug]at this
 have al:∀{done:Nat}{b:Array Bool},La a.size done b->∀i,i∈Region.ready .any a b<->i∈nP done 0 a.toList W:=by
  intro done b hD i;rw[EY a y hD i,IG];constructor
  ·rintro⟨o,U,c,Q,m⟩;exact⟨i,o,U,V,by simpa using c,Q,m⟩
  ·rintro⟨j,o,U,e,c,Q,m⟩;have:i=j:=V;subst this;exact⟨o,U,by simpa using c,Q,m⟩
 have au:∀{done:Nat}{b:Array Bool},La a.size done b->nP done 0 a.toList W=[]->Region.ready .any a b=[]:=by
  intro done b hD h;apply List.eq_nil_iff_forall_not_mem.2;intro i l;rw[al hD i,h]at l;cases l
 intro E
 induction E with
 |zero=>
  intro done C ad M A N b f w h hL hD hC hR hB hw hs hk hq
  subst hw
  simp only[mR]at h
  split at h
  ·rename_i h0
   exact⟨au hD h0,hq C f w h hR hB hs hk⟩
  ·exact h.elim
 |succ E R=>
  intro done C ad M A N b f w h hL hD hC hR hB hw hs hk hq
  subst hw
  simp only[mR]at h
  split at h
  · -- a reading is taken first
   rename_i i l
   obtain⟨j,o,U,e,c,Q,m,aD⟩:=Gd done l
   have:i=j:=V
   subst this
   rw[nN,c]at h
   simp only at h
   have z:a[i]? =some o:=by simpa using c
   have ab:i<a.size:=(Array.getElem?_eq_some_iff.1 z).1
   have ac:i∈Region.ready .any a b:=(EY a y hD i).2 ⟨o,U,z,Q,m⟩
   cases H:p7 n o.dst
   ·rw[H]at h;exact h.elim
   ·rw[H]at h
    simp only[jo]at h
    have Z:=Bh H
    have aa:∀B,o.dst=some B->B∈xh a.toList:=λB ai=>IF ai _ (jx c)
    have ap:∀j J,a[j]? =some J->j≠i->b.getD j true=false->(∀e∈J.after,Region.binds .any e=true->e.on≠i)->o.apart a J=true:=by
     intro j J ak aA ar aB;have az:j<a.size:=(Array.getElem?_eq_some_iff.1 ak).1;obtain⟨_,aE,bi,ao⟩:=kD d y i o c;rcases(uC _ _ an i o bi c ao).2 with s|s
     ·rw[aD]at s;cases s
     ·have X:=(kD d y j J (by simpa using ak)).1;have t:rZ d i=bi:=by
       have:∀(k:List Nat)(i p:Nat),k[i]? =some p->rZ k i=p:=by
        intro k;induction k with
        |nil=>intro i p h;simp at h
        |cons af k R=>intro i p h;cases i with
         |zero=>simpa[rZ]using h
         |succ i=>simpa[rZ]using R i p (by simpa using h)
       exact this d i bi ao
      rcases AB _ _ _ _ s j J _ (by simpa using ak) X with e|e|e|e
      ·exact absurd V aA
      ·rw[bQ]at e;obtain⟨q,u,hb,K⟩:=(lR i _).1 e;exact absurd K (aB q (Array.mem_toList_iff.1 u) hb)
      ·rw[bQ,<-t]at e;have:=uR F hC ac e;rw[hD.UT]at this;rw[hD.un az,this]at ar;cases ar
      ·exact MA a e
    rcases FW a hR hB o h with⟨K,r,am,u,t⟩|⟨K,r,aj,u,t⟩
    ·obtain⟨af,aw,hx,hv,aC⟩:=IS (P:=P) hT u t o am
     let ax:World->Prop:=λg=>∀q∈PZ T r o.op,D g.heap q.1 q.2=D w.heap q.1 q.2
     refine Ep (S:=ax) F z av (λO f w hc=>absurd hc (hQ _ _ _)) E b f w hC ap ac (F:=aw) (Or.inl ⟨K,λg k=>aC g k⟩) (λq _=>rfl) ?_
     refine R _ _ _ _ A _ _ _ w hx ?_ (hD.set ab) (hC.set F ac) (u.put hv Z) (t.put _ _) rfl hs (hk.trans (kZ.put aa _ _)) hq
     intro X k
     rcases List.mem_cons.1 k with rfl|k
     ·exact Or.inr ⟨_,λq=>D w.heap q.1 q.2,aS,rfl⟩
     ·rcases hL X k with s|⟨As,O,Y,h2⟩
      ·exact Or.inl s
      ·exact Or.inr ⟨As,O,ah _ Y,h2⟩
    ·refine Ep (S:=λ_=>True) F z av (λO f w hc=>absurd hc (hQ _ _ _)) E b f w hC ap ac (F:=undef) (Or.inr ⟨K,rfl⟩) trivial ?_
     refine R _ _ _ _ A _ _ _ w aj ?_ (hD.set ab) (hC.set F ac) (u.put (x:=.un) rfl Z) (t.put _ _) rfl hs (hk.trans (kZ.put aa _ _)) hq
     intro X k
     rcases List.mem_cons.1 k with rfl|k
     ·exact Or.inl λ_=>trivial
     ·exact hL X k
  ·split at h
   ·rename_i h0
    exact Ns (au hD h0) (hq C f w h hR hB hs hk) _
   ·rename_i rs ax
    have ar:=Ko h
    refine Oy ?_ ?_
    ·intro e
     apply ax
     cases J:nP done 0 a.toList W with
     |nil=>rfl
     |cons af xs=>
      have:af∈Region.ready .any a b:=(al hD af).2 (by rw[J];exact aS)
      rw[e]at this
      cases this
    ·intro i l
     have J:=ar i ((al hD i).1 l)
     obtain⟨o,U,z,Q,m⟩:=(EY a y hD i).1 l
     have c:a.toList[i]? =some o:=by simpa using z
     have ab:i<a.size:=(Array.getElem?_eq_some_iff.1 z).1
     rw[nN,c]at J
     simp only at J
     cases H:p7 n o.dst
     ·rw[H]at J;exact J.elim
     ·rw[H]at J
      simp only[jo]at J
      have Z:=Bh H
      have aa:∀B,o.dst=some B->B∈xh a.toList:=λB ai=>IF ai _ (jx c)
      unfold wpOp
      simp only[z]
      rcases FW a hR hB o J with⟨K,r,am,u,t⟩|⟨K,r,aj,u,t⟩
      ·rw[aq K]
       refine .inl (Nt hT hG u t o am w rfl _ _ λaD af aw g hx ap ao hv az=>?_)
       obtain⟨aA,aB⟩:=Cy hx
       refine⟨λX k aC ac=>?_,R _ _ _ M A N _ _ g aA hL (hD.set ab) (hC.set F l) (ap.put hv Z) (ao.put _ _) rfl (hs.trans az) (hk.trans (kZ.put aa _ _)) hq⟩
       rcases hL X k with s|⟨As,O,Y,h2⟩
       ·exact s g
       ·rw[h2]at ac⊢
        intro q ak
        rw[aB _ Y aC q ak,ac q ak]
      ·rw[ae (by rw[K];simp)]
       exact⟨λX k _ ac=>ac,R _ _ _ M A N _ _ w aj hL (hD.set ab) (hC.set F l) (u.put (x:=.un) rfl Z) (t.put _ _) rfl hs (hk.trans (kZ.put aa _ _)) hq⟩
end Go.Vc
end
section
namespace Go.Vc
variable{M:List Nat}{a:Act}{b:Fr}{s:Sh}{y:s.ty}
variable{P:Program}{T:TT}{G:List Nat}{n:Nat}
structure Mh where
 QL:List (Nat×List (Nat×Sh))
 RK:List (Nat×List (Nat×Sh))
 fw:List (Nat×List Nat)
def lk{α:Type}:List (Nat×α)->Nat->Option α
 |[],_=>none
 |(u,x)::r,t=>bif Nat.beq u t then some x else lk r t
def AI:Code->Option Nat
 | .region id _ _=>some id
 | .seq a b=>match AI a with
  |some i=>some i
  |none=>AI b
 | .cond _ a b=>match AI a with
  |some i=>some i
  |none=>AI b
 | .block _ c=>AI c
 | .loop c=>AI c
 | .scope c=>AI c
 |_=>none
def SY{α:Type}(l:List (Nat×α))(c:Code):Option α:=
 match AI c with
 |some i=>lk l i
 |none=>none
def Ez:List (Nat×Sh)->Type
 |[]=>I->Prop
 |(_,s)::r=>s.ty->Ez r
def Lf:List (Nat×Sh)->Type
 |[]=>I->Nat
 |(_,s)::r=>s.ty->Lf r
def N3:(s:Sh)->SV->Option s.ty
 | .I,.c (.i n)=>some n
 | .U k,.c (.u b n)=>if k=b then some n else none
 | .T,.c (.t b)=>some b
 | .T,.tt=>some true
 | .T,.ff=>some false
 | .S,.c (.s x)=>some x
 | .P,.c (.p b o)=>some (b,o)
 | .P,.c (.bp _ b o)=>some (b,o)
 | .F,.c (.fn f a c)=>some (f,a,c)
 | .F,.c (.fv q)=>some q
 | .M,.c (.mp b)=>some b
 |_,_=>none
def ED:(l:List (Nat×Sh))->Ez l->Fr->I->Prop
 |[],a,_,m=>a m
 |(t,s)::r,a,b,m=>match N3 s (fS b t)with
  |some x=>ED r (a x) b m
  |none=>False
def Ll:(l:List (Nat×Sh))->Ez l->Lf l->Fr->I->Nat->Prop
 |[],a,μ,_,m,N=>a m/\μ m<N
 |(t,s)::r,a,μ,b,m,N=>match N3 s (fS b t)with
  |some x=>Ll r (a x) (μ x) b m N
  |none=>False
def Mx:(l:List (Nat×Sh))->Ez l->Fr->(Fr->(I->Prop)->Prop)->Prop
 |[],a,b,k=>k b a
 |(t,s)::r,a,b,k=>∀x:s.ty,Mx r (a x) ((t,.c (s.mk x))::b) k
def My:(l:List (Nat×Sh))->Ez l->Lf l->Fr->(Fr->(I->Prop)->(I->Nat)->Prop)->Prop
 |[],a,μ,b,k=>k b a μ
 |(t,s)::r,a,μ,b,k=>∀x:s.ty,My r (a x) (μ x) ((t,.c (s.mk x))::b) k
def lY:List Nat->Fr->Fr
 |[],b=>b
 |t::r,b=>(t,.ib)::lY r b
def mL:Code->List Nat
 | .region _ b _=>xh b.toList
 | .seq a b=>mL a++mL b
 | .cond _ a b=>mL a++mL b
 | .block _ c=>mL c
 | .loop c=>mL c
 |_=>[]
def nV(M:List Nat):List (Nat×Sh)->Bool
 |[]=>true
 |(t,_)::r=>tg t M&&nV M r
def Ve(x y:SV)(k:Prop):Prop:=x=y/\k
def aD(x:SV)(k:Prop):Ve x x k=k:=by simp[Ve]
def ju(A:Mh)(c:Code):List Nat:=
 match SY A.fw c with
 |some K=>K
 |none=>[]
def AE(n:Nat)(K:List Nat):Fr->List Nat
 |[]=>[]
 |(q,_)::r=>bif Nat.ble n q&&!tg q K then q::AE n K r else AE n K r
def sF(n:Nat)(K:List Nat)(b:Fr):Fr:=lY (AE n K b) b
def Rl(b a:Fr):List Nat->Prop->Prop
 |[],k=>k
 |q::K,k=>Ve (fS a q) (fS b q) (Rl b a K k)
def IQ(b:Fr):Op->Option SV
 | .move x| .assign x=>match ev b x with
  | .ib=>none
  |y=>some y
 | .binOp d _ x y _=>match ev b x,ev b y with
  | .c (.i a),.c (.i c)=>match d with
   | .eql=>some (.c (.t (a==c)))
   | .neq=>some (.c (.t (a !=c)))
   | .lss=>some (.c (.t (decide (a<c))))
   | .leq=>some (.c (.t (decide (a<=c))))
   | .gtr=>some (.c (.t (decide (a>c))))
   | .geq=>some (.c (.t (decide (a>=c))))
   |_=>none
  |_,_=>none
 |_=>none
def ph(n:Nat):List Oper->Fr->Option Fr
 |[],b=>some b
 |o::r,b=>bif p7 n o.dst then
  match o.guard with
  |none=>match IQ b o.op with
   |some x=>ph n r (rY b o.dst x)
   |none=>none
  |some _=>none
  else none
def Ta(A:Mh)(n t:Nat):Code->Fr->Option Bool
 | .region _ d false,b=>match ph n d.toList b with
  |some a=>jX (fS a t)
  |none=>none
 | .seq (.region _ d false) (.cond (.tmp u) .skip c),b=>
  match SY A.RK (.cond (.tmp u) .skip c)with
  |some _=>none
  |none=>bif Nat.beq u t&&tg t (mL c)then
   match ph n d.toList b with
   |some a=>match jX (fS a t),Ta A n t c a with
    |some x,some y=>some (x||y)
    |_,_=>none
   |none=>none
   else none
 |_,_=>none
def Vp(A:Mh)(n:Nat)(d:Operand)(a c:Code)(b:Fr):Option (Nat×Bool):=
 match d,a with
 | .tmp t,.skip=>bif tg t (mL c)then
  match Ta A n t c b with
  |some y=>some (t,y)
  |none=>none
  else none
 |_,_=>none
def sL(b:Fr)(c:Operand)(v:SV):Fr:=
 match c with
 | .tmp t=>(t,v)::b
 |_=>b
def Sb:List Oper->List Nat
 |[]=>[]
 |o::r=>j7 o.after.toList::Sb r
def Qk:List Nat->List Oper->List Nat
 |a,[]=>a
 |a,o::r=>Qk (a++[ms a o.after.toList]) r
def oG:Code->Bool
 | .region _ b c=>!c||(jU (Qk [] b.toList) b.toList (Sb b.toList) (Qk [] b.toList)&&CL b.toList (Sb b.toList) 0 b.toList (Qk [] b.toList))
 | .seq a b=>oG a&&oG b
 | .cond _ a b=>oG a&&oG b
 | .block _ c=>oG c
 | .loop c=>oG c
 |_=>true
def vc(P:Program)(T:TT)(G:List Nat)(n:Nat)(A:Mh):Code->Fr->I->(Exit->Fr->I->Prop)->Prop
 | .skip,b,m,Q=>Q .normal b m
 | .region id c d,b,m,Q=>
  bif d then mR P T G n c.toList (Sb c.toList) (Qk [] c.toList) c.toList.length 0 b m [] (λb m=>Q .normal b m)
  else qj P T G n c.toList c.toList b m (λb m=>Q .normal b m)
 | .seq a f,b,m,Q=>match SY A.RK f with
  |none=>vc P T G n A a b m λ
   | .normal,d,c=>vc P T G n A f d c Q
   |g,d,c=>Q g d c
  |some l=>bif nV (mL a) l then∃K:Ez l,(vc P T G n A a b m λ
   | .normal,d,c=>Rl b d (ju A f) (ED l K d c)
   |g,d,c=>Q g d c)/\
   (Mx l K (lY (mL a) (sF n (ju A f) b)) λd e=>∀c,e c->vc P T G n A f d c Q)else False
 | .cond e a f,b,m,Q=>match ev b e with
  | .tt=>vc P T G n A a b m Q
  | .ff=>vc P T G n A f b m Q
  | .c (.t x)=>match Vp A n e a f b with
   |some (t,y)=>Q .normal ((t,.c (.t (x||y)))::lY (mL f) b) m
   |none=>(x=true->vc P T G n A a (sL b e .tt) m Q)/\(x=false->vc P T G n A f (sL b e .ff) m Q)
  |_=>False
 | .block id e,b,m,Q=>vc P T G n A e b m λ
  | .exit i,d,c=>bif Nat.beq i id then Q .normal d c else Q (.exit i) d c
  |g,d,c=>Q g d c
 | .loop e,b,m,Q=>match SY A.QL e with
  |none=>False
  |some l=>bif nV (mL e) l then∃(h:Ez l)(μ:Lf l),ED l h b m/\
   (My l h μ (lY (mL e) (sF n (ju A e) b)) λd j μ'=>∀c,j c->vc P T G n A e d c λ
    | .normal,f,i=>Rl b f (ju A e) (Ll l h μ f i (μ' c))
    |g,f,i=>Q g f i)else False
 | .exit id,b,m,Q=>Q (.exit id) b m
 | .ret,b,m,Q=>Q .ret b m
 |_,_,_,_=>False
def kZ.mono{b:List Nat}{c:Act}(h:kZ M a c)(e:∀t∈M,t∈b):kZ b a c:=λt f=>h t λd=>f (e t d)
def zf:∀(M:List Nat)(b:Fr)(t:Nat),(t∈M/\fS (lY M b) t=.ib)\/(t∉M/\fS (lY M b) t=fS b t)
 |[],_,_=>Or.inr ⟨E,rfl⟩
 |u::M,b,t=>by
  simp only[lY,fS];cases d:Nat.beq u t
  ·have f:u≠t:=λe=>by subst e;simp at d
   rcases zf M b t with⟨a,c⟩|⟨a,c⟩
   ·exact Or.inl ⟨ah _ a,c⟩
   ·exact Or.inr ⟨by simp only[aT,tD];exact⟨λe=>f e.symm,a⟩,c⟩
  ·have:=bh d;subst this;exact Or.inl ⟨aS,rfl⟩
def xC{c:Act}(f:jq n b a)(j:c.tmps.size=n)(g:c.defers=[])(i:kZ M a c):jq n (lY M b) c:=by
 refine⟨j,g,λt=>?_⟩;rcases zf M b t with⟨_,h⟩|⟨d,e⟩
 ·rw[h];trivial
 ·rw[e,i t d];exact f.u t
def jq.lY{b:Fr}{a:Act}(c:jq n b a):∀(M:List Nat),jq n (lY M b) a
 |[]=>c
 |t::M=>(jq.lY c M).ib t
def Bx.lY{b:Fr}{m:I}(h:Bx n b m):∀(M:List Nat),Bx n (lY M b) m
 |[]=>h
 |t::M=>(Bx.lY h M).ib E
def Kv{K:List Nat}{q:Nat}(c:n<=q)(a:q∉K):∀{b:Fr},q∈AE n K b\/fS b q=.ib
 |[]=>Or.inr rfl
 |(u,x)::r=>by
  simp only[AE,fS];cases g:Nat.beq u q
  ·rcases Kv c a (b:=r)with h|h
   ·left;cases(Nat.ble n u&&!tg u K)
    ·exact h
    ·exact ah _ h
   ·exact Or.inr h
  ·have:=bh g;subst this;have e:tg u K=false:=by
    cases f:tg u K
    ·rfl
    ·exact absurd (EP f) a
   have d:Nat.ble n u=true:=UD c;simp[e,d]
def Il{b c:Fr}:∀{K:List Nat}{k:Prop},Rl b c K k->(∀q∈K,fS c q=fS b q)/\k
 |[],k,h=>⟨E,h⟩
 |q::K,k,h=>by
  obtain⟨d,e⟩:=Il h.2;refine⟨λu a=>?_,e⟩;rcases List.mem_cons.1 a with rfl|a
  ·exact h.1
  ·exact d u a
def Bx.ju{K:List Nat}{i:Fr}{u o:I}(h:Bx n b u)(p:Bx n i o)(r:∀q∈K,fS i q=fS b q):Bx n (Vc.lY M (sF n K b)) o:=by
 have g:∀{q c e l},ku (Vc.lY M (sF n K b)) q c e l->ku b q c e l/\ku i q c e l:=by
  intro q c e l a;have d:fS (Vc.lY M (sF n K b)) q=fS (sF n K b) q\/fS (Vc.lY M (sF n K b)) q=.ib:=by
   rcases zf M (sF n K b) q with⟨_,h⟩|⟨_,h⟩
   ·exact Or.inr h
   ·exact Or.inl h
  unfold ku at a;rcases d with d|d
  ·rw[d]at a;unfold sF at a;rcases zf (AE n K b) b q with⟨_,f⟩|⟨j,f⟩
   ·rw[f]at a;simp at a
   ·rw[f]at a;have s:n<=q:=h.key q c e l a;by_cases m:q∈K
    ·refine⟨a,?_⟩;unfold ku;rw[r q m];exact a
    ·rcases Kv (n:=n) s m (b:=b)with k|k
     ·exact absurd k j
     ·rw[k]at a;simp at a
  ·rw[d]at a;simp at a
 exact⟨λq c e l a=>p.F q c e l (g a).2,λq v c e l k m t s j f=>h.Lq q v c e l k m t s (g j).1 (g f).1,λq c e l a=>h.key q c e l (g a).1⟩
def PB{x:SV}(h:N3 s x=some y):x.iL=true/\x.v=(s.mk y).v:=by
 unfold N3 at h;split at h<;>first|(simp at h;subst h;exact⟨rfl,rfl⟩)|skip
 ·split at h
  ·rename_i a;subst a;simp at h;subst h;exact⟨rfl,rfl⟩
  ·simp at h
 ·simp at h
def I5{cF:Fr}{t:Nat}(f:jq n b a)(c:jq n cF a)(h:N3 s (fS b t)=some y):jq n ((t,.c (s.mk y))::cF) a:=by
 refine⟨c.size,c.defers,λu=>?_⟩;simp only[fS];cases g:Nat.beq t u
 ·exact c.u u
 ·have:=bh g;subst this;have d:=f.u t;obtain⟨i,j⟩:=PB h;have e:=d.eq i;show _=_;rw[e,j];rfl
def P9:(l:List (Nat×Sh))->Ez l->Lf l->Fr->Fr->(I->Prop)->(I->Nat)->Prop
 |[],a,μ,b,d,c,μ'=>d=b/\c=a/\μ'=μ
 |(t,s)::r,a,μ,b,d,c,μ'=>∃x:s.ty,P9 r (a x) (μ x) ((t,.c (s.mk x))::b) d c μ'
def Kp:∀{l:List (Nat×Sh)}{c:Ez l}{μ:Lf l}{b:Fr}{k:Fr->(I->Prop)->(I->Nat)->Prop},My l c μ b k->∀{fr' I' μ'},P9 l c μ b fr' I' μ'->k fr' I' μ'
 |[],_,_,_,_,h,_,_,_,a=>by obtain⟨rfl,rfl,rfl⟩:=a;exact h
 |(t,s)::r,_,_,_,_,h,_,_,_,a=>by obtain⟨x,a⟩:=a;exact Kp (h x) a
def Sh.QQ(s:Sh)(x:s.ty)(b e:Nat)(l:List Ce):SV.c (s.mk x)≠.box b e l/\SV.c (s.mk x)≠.wZ b e l:=⟨E,E⟩
def Ku{a:Act}{g:Fr}(i:jq n g a):∀{l:List (Nat×Sh)}{b:Ez l}{μ:Lf l}{cF:Fr}{m:I}{N:Nat},jq n cF a->Bx n cF m->Ll l b μ g m N->
 ∃c d μ',P9 l b μ cF c d μ'/\jq n c a/\Bx n c m/\d m/\μ' m<N
 |[],b,μ,cF,_,_,f,e,h=>⟨cF,b,μ,⟨rfl,rfl,rfl⟩,f,e,h.1,h.2⟩
 |(t,s)::r,b,μ,cF,m,N,f,e,h=>by
  simp only[Ll]at h;split at h
  ·rename_i x q;obtain⟨c,d,μ',j,k,o,p⟩:=Ku i (I5 i f q) (e.ib (s.QQ x)) h;exact⟨c,d,μ',⟨x,j⟩,k,o,p⟩
  ·exact h.elim
def Kr{a:Act}{g:Fr}(i:jq n g a):∀{l:List (Nat×Sh)}{b:Ez l}{μ:Lf l}{cF:Fr}{m:I},jq n cF a->Bx n cF m->ED l b g m->
 ∃c d μ',P9 l b μ cF c d μ'/\jq n c a/\Bx n c m/\d m
 |[],b,μ,cF,_,f,e,h=>⟨cF,b,μ,⟨rfl,rfl,rfl⟩,f,e,h⟩
 |(t,s)::r,b,μ,cF,m,f,e,h=>by
  simp only[ED]at h;split at h
  ·rename_i x p;obtain⟨c,d,μ',j,k,o⟩:=Kr i (I5 i f p) (e.ib (s.QQ x)) h;exact⟨c,d,μ',⟨x,j⟩,k,o⟩
  ·exact h.elim
def MB{a:Act}{i:Fr}(j:jq n i a):∀{l:List (Nat×Sh)}{b:Ez l}{cF:Fr}{m:I}{k:Fr->(I->Prop)->Prop},jq n cF a->Bx n cF m->ED l b i m->Mx l b cF k->
 ∃c g,k c g/\jq n c a/\Bx n c m/\g m
 |[],b,cF,_,_,e,d,h,f=>⟨cF,b,f,e,d,h⟩
 |(t,s)::r,b,cF,m,k,e,d,h,f=>by
  simp only[ED]at h;split at h
  ·rename_i x o;exact MB j (I5 j e o) (d.ib (s.QQ x)) h (f x)
  ·exact h.elim
def PU{l:Code}{Q:Exit->Act->World->Prop}(b:Nat->Act->World->Prop)
 (r:∀N a w,b N a w->l.wp P (Exit.then (λg k=>∃d,d<N/\b d g k) Q) a w):∀N a w,b N a w->(Code.loop l).wp P Q a w:=by
 have q:∀N a w,b N a w->∃M,b M a w/\∀c,c<M->¬b c a w:=by
  intro N;induction N using Nat.strongRecOn with
  |_ N j=>
   intro a w h;by_cases e:∃c,c<N/\b c a w
   ·obtain⟨c,f,i⟩:=e;exact j c f a w i
   ·exact⟨N,h,λc i f=>e ⟨c,i,f⟩⟩
 intro N a w o
 classical
 let μ:Act->World->Nat:=λa w=>if h:∃M,b M a w/\∀c,c<M->¬b c a w then Classical.choose h else 0
 have hμ:∀a w N,b N a w->b (μ a w) a w/\μ a w<=N:=by
  intro a w N h;have e:=q N a w h;have i:μ a w=Classical.choose e:=P2 e;have n:=eN e;rw[i];refine⟨n.1,?_⟩;rcases aX N (Classical.choose e)with j|p
  ·exact absurd h (n.2 N j)
  ·exact p
 refine wp_loop (λa w=>∃N,b N a w) μ ⟨N,o⟩ ?_
 rintro a w ⟨N,h⟩
 refine Code.wp_mono ?_ (r (μ a w) a w (hμ a w N h).1)
 intro i g k m
 cases i with
 |normal=>
  obtain⟨d,j,f⟩:=m
  exact⟨⟨d,f⟩,me (hμ g k d f).2 j⟩
 |_=>exact m
end Go.Vc
end
section
namespace Go.Vc
variable{b w:World}{M f:List Nat}{d a:Act}{Q:Exit->Fr->I->Prop}{e:Exit}{m:I}
variable{P:Program}{T:TT}{G:List Nat}{n:Nat}{A:Mh}
def jt(n:Nat)(b:World)(M:List Nat)(d:Act)(Q:Exit->Fr->I->Prop):Exit->Act->World->Prop
 | .panic _,_,_=>False
 | .outgrown,_,_=>False
 |e,a,w=>∃c,jq n c a/\Bx n c w.heap/\nl b w/\kZ M d a/\Q e c w.heap
def jt.mk{c:Fr}(g:(∀f,e≠.panic f)/\e≠.outgrown)
 (i:jq n c a)(h:Bx n c w.heap)(l:nl b w)(j:kZ M d a)(k:Q e c w.heap):jt n b M d Q e a w:=by
 cases e with
 |panic f=>exact absurd rfl (g.1 f)
 |outgrown=>exact absurd rfl g.2
 |_=>exact⟨c,i,h,l,j,k⟩
def jt.bq(h:jt n b M d Q e a w):
 ((∀f,e≠.panic f)/\e≠.outgrown)/\∃c,jq n c a/\Bx n c w.heap/\nl b w/\kZ M d a/\Q e c w.heap:=by
 cases e with
 |panic f=>exact h.elim
 |outgrown=>exact h.elim
 |_=>exact⟨⟨E,E⟩,h⟩
def jt.left(h:jt n b M d Q e a w):jt n b (M++f) d Q e a w:=by
 obtain⟨i,o,g,c,l,j,k⟩:=h.bq;exact jt.mk i g c l (j.mono (λt m=>bH _ m)) k
def jt.right(h:jt n b M d Q e a w):jt n b (f++M) d Q e a w:=by
 obtain⟨i,o,g,c,l,j,k⟩:=h.bq;exact jt.mk i g c l (j.mono (λt m=>eO _ m)) k
def PL{d:Fr}{c:Op}{x:SV}{k:SV->Prop}(h:IQ d c=some x)(b:k x):IC c=false/\rd T d m k c:=by
 unfold IQ at h;split at h
 ·split at h
  ·simp at h
  ·simp at h;subst h;exact⟨rfl,b⟩
 ·split at h
  ·simp at h
  ·simp at h;subst h;exact⟨rfl,b⟩
 ·rename_i o t y z i;split at h
  ·rename_i a g e f;refine⟨rfl,?_⟩;simp only[rd,e,f];split at h<;>simp at h<;>subst h<;>exact b
  ·simp at h
 ·simp at h
def Bu(e:List Oper){m:I}{d:Fr->I->Prop}:∀{i:List Oper}{a b:Fr},ph n i a=some b->d b m->qj P T G n e i a m d
 |[],a,b,h,c=>by simp[ph]at h;subst h;exact c
 |o::r,a,b,h,c=>by
  simp only[ph]at h;simp only[qj];cases f:p7 n o.dst
  ·rw[f]at h;simp at h
  ·rw[f]at h;simp only[jo]at h⊢;cases g:o.guard with
   |some j=>rw[g]at h;simp at h
   |none=>
    rw[g]at h;simp only[gd]at h⊢;split at h
    ·rename_i x p;obtain⟨j,l⟩:=PL (T:=T) (m:=m) (k:=λx=>qj P T G n e r (rY a o.dst x) m d) p (Bu e h c);rw[j];exact l
    ·simp at h
def QW(j:Nat){m:I}{Q:Exit->Fr->I->Prop}:∀(e:Code)(i:Fr)(y:Bool),Ta A n j e i=some y->(∀b,jX (fS b j)=some y->Q .normal b m)->vc P T G n A e i m Q
 | .region id v a,i,y,h,g=>by
  cases a
  ·simp only[Ta]at h;simp only[vc,lj];split at h
   ·rename_i b k;exact Bu _ k (g b h)
   ·simp at h
  ·simp[Ta]at h
 | .seq (.region id v false) (.cond (.tmp u) .skip e),i,y,h,g=>by
  simp only[Ta]at h;split at h
  ·simp at h
  ·rename_i q;cases f:(Nat.beq u j&&tg j (mL e))
   ·rw[f]at h;simp at h
   ·rw[f]at h;simp only[jo]at h;simp only[bE]at f;have s:=bh f.1;subst s;split at h
    ·rename_i b k;split at h
     ·rename_i x w a l;simp at h;subst h;rw[vc,q];simp only;rw[vc];simp only[lj];refine Bu _ k ?_;rw[vc];have r:ev b (.tmp u)=(fS b u).nb:=rfl;rw[r];cases d:fS b u with
      |tt=>
       rw[d]at a;simp[jX]at a;subst a;simp only[SV.nb,vc];exact g b (by rw[d];simp[jX])
      |ff=>
       rw[d]at a;simp[jX]at a;subst a;simp only[SV.nb];exact QW u e b w l (λo p=>g o (by simpa using p))
      |c z=>
       cases z with
       |t o=>
        rw[d]at a;simp[jX]at a;subst a;simp only[SV.nb,Vp,f.2,jo,l];exact g _ (by simp[fS,jX])
       |_=>rw[d]at a;simp[jX]at a
      |_=>rw[d]at a;simp[jX]at a
     ·simp at h
    ·simp at h
def Rb(hT:uA P T)(hG:Rt P G)(ao:P.follows .mixedOrders=true)(b:World):∀(v:Code),oG v=true->∀(f:Fr)(m:I)(Q:Exit->Fr->I->Prop)(a:Act)(w:World),
 vc P T G n A v f m Q->jq n f a->Bx n f m->w.heap=m->nl b w->v.wp P (jt n b (mL v) a Q) a w:=by
 intro v
 induction v with
 |skip=>
  intro o f m Q a w h d k r l
  subst r
  exact wp_skip ⟨f,d,k,l,kZ.aC _ _,h⟩
 |region id g t=>
  intro o f m Q a w h d k r l
  simp only[vc]at h
  cases t
  ·simp only[lj]at h
   refine wp_region_list ?_
   exact sX hT hG g g.toList f m (Q .normal) a w (λ_ h=>h) h d k r l (kZ.aC _ _) λu B K c j q p i=>⟨u,j,q,p,i,c⟩
  ·simp only[jo]at h
   simp only[oG,So,Sn,bE]at o
   refine wp_region_any ao (JD (e:=λs x=>Nat.testBit (rZ (Qk [] g.toList) s) x) (L:=[]) _ _ _ _ ?_)
   have y:g.toList.length=g.size:=E
   rw[y]at h
   refine Me hT hG g _ _ o.1 o.2 (λv a w Z=>Z) (w0:=b) (a0:=a) g.size 0 f m [] (Q .normal) [] _ a _ h (λx Z=>by cases Z) ⟨E,λs=>by simp[Sk];split<;>rfl⟩ (λs X=>by simp[Sk]at X;split at X<;>simp at X) d k r ⟨l.os,l.tape,l.output⟩ (kZ.aC _ _) λu B K c j q p i=>⟨u,j,q,p,i,c⟩
 |seq x N aa S=>
  intro o f m Q a w h d k r l
  simp only[vc]at h
  simp only[oG,bE]at o
  refine wp_seq ?_
  split at h
  ·refine Code.wp_mono ?_ (aa o.1 f m _ a w h d k r l)
   intro e B K c
   obtain⟨g,u,j,q,p,t,c⟩:=c.bq
   cases e with
   |normal=>
    refine Code.wp_mono ?_ (S o.2 u _ Q B K c j q rfl p)
    intro e J ab c
    obtain⟨g,O,C,y,H,D,c⟩:=c.bq
    exact jt.mk g C y H ((t.mono (λz i=>bH _ i)).trans (D.mono (λz i=>eO _ i))) c
   |panic v=>exact absurd rfl (g.1 v)
   |outgrown=>exact absurd rfl g.2
   |exit s=>exact jt.mk (e:=.exit s) g j q p (t.mono (λz i=>bH _ i)) c
   |goto s=>exact jt.mk (e:=.goto s) g j q p (t.mono (λz i=>bH _ i)) c
   |ret=>exact jt.mk (e:=.ret) g j q p (t.mono (λz i=>bH _ i)) c
  ·rename_i F hl
   cases Y:nV (mL x) F
   ·rw[Y]at h;exact h.elim
   rw[Y]at h
   obtain⟨af,h1,R⟩:=h
   refine Code.wp_mono ?_ (aa o.1 f m _ a w h1 d k r l)
   intro e B K c
   obtain⟨g,u,j,q,p,t,c⟩:=c.bq
   cases e with
   |normal=>
    obtain⟨ac,c⟩:=Il c
    obtain⟨ad,K',h3,U,V,W⟩:=MB j (xC (d.lY _) j.size j.defers t) (Bx.ju k q ac) c R
    refine Code.wp_mono ?_ (S o.2 ad _ Q B K (h3 _ W) U V rfl p)
    intro e J ab c
    obtain⟨g,O,C,y,H,D,c⟩:=c.bq
    exact jt.mk g C y H ((t.mono (λz i=>bH _ i)).trans (D.mono (λz i=>eO _ i))) c
   |panic v=>exact absurd rfl (g.1 v)
   |outgrown=>exact absurd rfl g.2
   |exit s=>exact jt.mk (e:=.exit s) g j q p (t.mono (λz i=>bH _ i)) c
   |goto s=>exact jt.mk (e:=.goto s) g j q p (t.mono (λz i=>bH _ i)) c
   |ret=>exact jt.mk (e:=.ret) g j q p (t.mono (λz i=>bH _ i)) c
 |cond ab x N aa S=>
  intro o f m Q a w h d k r l
  simp only[vc]at h
  simp only[oG,bE]at o
  have ah:∀{D:Bool},a.eval ab=.bool D->jq n (sL f ab (if D then .tt else .ff)) a:=by
   intro D y;unfold sL;split
   ·rename_i z;refine⟨d.size,d.defers,λJ=>?_⟩;simp only[fS];cases U:Nat.beq z J
    ·exact d.u J
    ·have:=bh U;subst this;cases D<;>exact y
   ·exact d
  have ai:∀{x:SV},(∀D e F,x≠.box D e F/\x≠.wZ D e F)->Bx n (sL f ab x) m:=by
   intro x Z;unfold sL;split
   ·exact k.ib Z
   ·exact k
  split at h
  ·rename_i V
   exact wp_cond_true (d.eq V rfl) (Code.wp_mono (λ_ _ _ h=>h.left) (aa o.1 f m Q a w h d k r l))
  ·rename_i V
   exact wp_cond_false (d.eq V rfl) (Code.wp_mono (λ_ _ _ h=>h.right) (S o.2 f m Q a w h d k r l))
  ·rename_i D V
   have W:a.eval ab=.bool D:=d.eq V rfl
   split at h
   ·rename_i z y' C
    unfold Vp at C
    split at C
    ·rename_i H
     cases ag:tg H (mL N)
     ·rw[ag]at C;simp at C
     ·rw[ag]at C
      simp only[jo]at C
      split at C
      ·rename_i y0 al
       simp at C
       obtain⟨rfl,rfl⟩:=C
       have ak:a.tmps.getD H undef=.bool D:=W
       refine wp_cond_split W (λi=>?_) (λi=>?_)
       ·subst r
        subst i
        refine wp_skip (jt.mk (e:=.normal) (c:=(H,.c (.t (true||y0)))::lY (mL N) f) ⟨E,E⟩ ?_ ((k.lY _).ib E) l (kZ.aC _ _) h)
        have y:=xC (M:=mL N) d d.size d.defers (kZ.aC _ a)
        refine⟨y.size,y.defers,λJ=>?_⟩
        simp only[fS]
        cases U:Nat.beq H J
        ·exact y.u J
        ·have:=bh U
         subst this
         simpa[SV.Is,SV.v,Ce.v]using ak
       ·subst i
        have hv:=QW (P:=P) (T:=T) (G:=G) (A:=A) (n:=n) H (m:=m) (Q:=λe u O=>e=.normal/\O=m/\jX (fS u H)=some y0) N f y0 al (λu O=>⟨rfl,rfl,O⟩)
        refine Code.wp_mono ?_ (S o.2 f m _ a w hv d k r l)
        intro e B K c
        obtain⟨g,u,j,q,p,t,rfl,af,aj⟩:=c.bq
        refine jt.mk (e:=.normal) (c:=(H,.c (.t (false||y0)))::lY (mL N) f) g ?_ (by rw[af];exact(k.lY _).ib E) p (t.mono (λz i=>eO _ i)) (by rw[af];exact h)
        have y:=xC (M:=mL N) d j.size j.defers t
        refine⟨y.size,y.defers,λJ=>?_⟩
        simp only[fS]
        cases U:Nat.beq H J
        ·exact y.u J
        ·have:=bh U
         subst this
         obtain⟨O,R⟩:=uD aj
         have h3:=(j.u H).eq O
         rw[R]at h3
         simpa[SV.Is,SV.v,Ce.v]using h3
      ·simp at C
    ·simp at C
   ·refine wp_cond_split W (λi=>?_) (λi=>?_)
    ·subst i
     exact Code.wp_mono (λ_ _ _ h=>h.left) (aa o.1 _ m Q a w (h.1 rfl) (ah W) (ai E) r l)
    ·subst i
     exact Code.wp_mono (λ_ _ _ h=>h.right) (S o.2 _ m Q a w (h.2 rfl) (ah W) (ai E) r l)
  ·exact h.elim
 |block id x C=>
  intro o f m Q a w h d k r l
  simp only[vc]at h
  refine wp_block (Code.wp_mono ?_ (C o f m _ a w h d k r l))
  intro e B K c
  obtain⟨g,u,j,q,p,t,c⟩:=c.bq
  cases e with
  |exit s=>
   simp only[Exit.inBlock]
   simp only at c
   cases y:Nat.beq s id
   ·rw[y]at c
    have i:s≠id:=λe=>by subst e;simp at y
    rw[ae i]
    exact jt.mk (e:=.exit s) g j q p t c
   ·rw[y]at c
    rw[aq (bh y)]
    exact jt.mk (e:=.normal) ⟨E,E⟩ j q p t c
  |normal=>exact jt.mk (e:=.normal) g j q p t c
  |panic v=>exact absurd rfl (g.1 v)
  |outgrown=>exact absurd rfl g.2
  |goto s=>exact jt.mk (e:=.goto s) g j q p t c
  |ret=>exact jt.mk (e:=.ret) g j q p t c
 |loop x C=>
  intro o f m Q a w h d k r l
  subst r
  simp only[vc]at h
  split at h
  ·exact h.elim
  ·rename_i F hl
   cases Y:nV (mL x) F
   ·rw[Y]at h;exact h.elim
   rw[Y]at h
   obtain⟨H,μ,h0,h1⟩:=h
   let U:Nat->Act->World->Prop:=λD B w=>∃u z μ',P9 F H μ (lY (mL x) (sF n (ju A x) f)) u z μ'/\jq n u B/\Bx n u w.heap/\z w.heap/\μ' w.heap=D/\nl b w/\kZ (mL x) a B
   obtain⟨W,J,μ1,al,ai,aa,ag⟩:=Kr (μ:=μ) d (xC (d.lY _) d.size d.defers (kZ.aC (mL x) a)) (Bx.ju k k (λ_ _=>rfl)) h0
   refine PU U ?_ (μ1 w.heap) a w ⟨W,J,μ1,al,ai,aa,ag,rfl,l,kZ.aC _ _⟩
   rintro D V w ⟨u,z,μ',X,j,q,af,rfl,p,O⟩
   have ak:=Kp h1 X w.heap af
   refine Code.wp_mono ?_ (C o u w.heap _ V w ak j q rfl p)
   intro e B K c
   obtain⟨g,ad,i,t,y,R,c⟩:=c.bq
   cases e with
   |normal=>
    obtain⟨ac,c⟩:=Il c
    obtain⟨Z,S,μ3,am,aj,ab,ah,an⟩:=Ku i (xC (d.lY _) i.size i.defers (O.trans R)) (Bx.ju k t ac) c
    exact⟨_,an,Z,S,μ3,am,aj,ab,ah,rfl,y,O.trans R⟩
   |panic v=>exact absurd rfl (g.1 v)
   |outgrown=>exact absurd rfl g.2
   |exit s=>exact jt.mk (e:=.exit s) g i t y (O.trans R) c
   |goto s=>exact jt.mk (e:=.goto s) g i t y (O.trans R) c
   |ret=>exact jt.mk (e:=.ret) g i t y (O.trans R) c
 |exit id=>
  intro o f m Q a w h d k r l
  subst r
  exact wp_exit ⟨f,d,k,l,kZ.aC _ _,h⟩
 |ret=>
  intro o f m Q a w h d k r l
  subst r
  exact wp_ret ⟨f,d,k,l,kZ.aC _ _,h⟩
 |rangeFunc c d x N _ _=>intro _ f m Q a w h;exact h.elim
 |scope x _=>intro _ f m Q a w h;exact h.elim
 |label F=>intro _ f m Q a w h;exact h.elim
 |goto F=>intro _ f m Q a w h;exact h.elim
 |refuse s=>intro _ f m Q a w h;exact h.elim
def sE:Nat->List SV->Fr
 |_,[]=>[]
 |i,x::r=>(i,x)::sE (i+1) r
def Dr(T:TT)(a:Fr)(m:I):List ResultVar->(List SV->Prop)->Prop
 |[],k=>k []
 | .tmp t::r,k=>bif (fS a t).iL then Dr T a m r λl=>k (fS a t::l)else False
 | .cell p t::r,k=>rd T a m (λx=>bif x.iL then Dr T a m r λl=>k (x::l)else False) (.load t (.tmp p))
def Uf(T:TT)(b:List ResultVar)(a:Fr)(m:I)(R:Value->I->Prop):Prop:=
 Dr T a m b λ
  |[x]=>R x.v m
  |l=>R (.tuple (l.map SV.v).toArray) m
def PT(P:Program)(T:TT)(G:List Nat)(A:Mh)(n:Nat)(b:List ResultVar)(d:Code)(c:List SV)(m:I)(R:Value->I->Prop):Prop:=
 vc P T G n A d (sE 0 c) m λ
  | .normal,a,m=>Uf T b a m R
  | .ret,a,m=>Uf T b a m R
  |_,_,_=>False
def EE:∀(a:List SV)(i t:Nat),(t<i/\fS (sE i a) t=.ib)\/(i<=t/\fS (sE i a) t=a.getD (t -i) .ib)
 |[],i,t=>by
  rcases aX t i with h|h
  ·exact Or.inl ⟨h,rfl⟩
  ·exact Or.inr ⟨h,by simp[sE,fS]⟩
 |x::r,i,t=>by
  simp only[sE,fS];cases c:Nat.beq i t
  ·have f:i≠t:=λe=>by subst e;simp at c
   rcases EE r (i+1) t with⟨d,b⟩|⟨d,b⟩
   ·exact Or.inl ⟨V,b⟩
   ·refine Or.inr ⟨V,?_⟩;have e:t -i=(t -(i+1))+1:=V;rw[e,List.getD_cons_succ];exact b
  ·have:=bh c;subst this;exact Or.inr ⟨ad _,E⟩
def I6(a:Array Value):ResultVar->Sem Value
 | .tmp t=>pure (a.getD t undef)
 | .cell p t=>do loadVar t (<-asAddr (a.getD p undef))
def Ok(b:Func)(c:Array Value):results b c=(do
 let a<-b.results.mapM (I6 c)
 pure (if h:a.size=1 then a[0]else .tuple a)):=by
 unfold results
 congr 2
def EZ{f:Fr}{a:Act}(s:uA P T)(d:jq n f a):∀(B:List ResultVar)(k:List SV->Prop)(w:World),Bx n f w.heap->Dr T f w.heap B k->
 ∃l,k l/\(B.mapM (I6 a.tmps)).run P w=.ok (l.map SV.v) w
 |[],k,w,_,h=>⟨[],h,E⟩
 | .tmp t::y,k,w,g,h=>by
  simp only[Dr]at h;cases b:(fS f t).iL
  ·rw[b]at h;exact h.elim
  ·rw[b]at h;obtain⟨l,q,r⟩:=EZ s d y _ w g h;refine⟨_,q,?_⟩;have x:=(d.u t).eq b;have m:I6 a.tmps (.tmp t)=pure (a.tmps.getD t undef):=rfl;simp only[Rg,Sem.run_bind,Sem.run_pure,Result.andThen_ok,r,cb,x,m]
 | .cell p t::y,k,w,g,i=>by
  obtain⟨C,z,j,x,b⟩:=IS (P:=P) s d g ⟨none,.load t (.tmp p),0,"",#[],none⟩ i;have b:=b w (λA _=>rfl);cases u:C.iL
  ·rw[u]at j;exact j.elim
  rw[u]at j;obtain⟨l,q,r⟩:=EZ s d y _ w g j;refine⟨_,q,?_⟩;have F:∃c o,a.tmps.getD p undef=.pointer (some ⟨c,o,none⟩):=by
   have h:=SV.QR (d.u p);simp only[Dr,rd,ev]at i;split at i
   ·rename_i c o v;rw[v]at h;exact⟨c,o,h⟩
   ·rename_i A c o v;rw[v]at h;exact⟨c,o,h⟩
   ·exact i.elim
  obtain⟨c,o,v⟩:=F;simp only[execOp,Instr.loadAt,Act.eval,v,Instr.sureAddr,Sem.run_bind,Sem.run_pure,Result.andThen_ok]at b;have D:(loadVar t ⟨c,o,none⟩).run P w=.ok z w:=by
   cases A:(loadVar t ⟨c,o,none⟩).run P w with
   |ok H G=>
    rw[A]at b;simp at b;rw[b.1,b.2]
   |halt e G=>rw[A]at b;simp at b
  have G:z=C.v:=x.eq u;have m:(I6 a.tmps (.cell p t)).run P w=.ok z w:=by
   simp only[I6,v,Sem.run_bind,asAddr,Sem.run_pure,Result.andThen_ok,D]
  simp only[Rg,Sem.run_bind,Sem.run_pure,Result.andThen_ok,m,r,cb,G]
def CC(v:uA P T)(H:Rt P G)(N:P.follows .mixedOrders=true){u:FuncId}{d:Func}{g:Code}{k:List ResultVar}{a:List SV}{R:Value->I->Prop}
 (M:P.funcs[u]? =some d)(K:d.body=some g)(O:d.ntmps=n)(S:d.results=k.toArray)(x:a.all SV.iL=true)(Y:a.length<=n)(L:oG g=true)
 (h:PT P T G A n k g a m R):aN P u (a.map SV.v) m R:=by
 intro w V
 refine calls_of_wp M K ?_
 have J:jq n (sE 0 a) {tmps:=(a.map SV.v).toArray++Array.replicate (d.ntmps -(a.map SV.v).toArray.size) undef,defers:=[]}:=by
  refine⟨by simp[O];omega,rfl,λt=>?_⟩;rcases EE a 0 t with⟨i,_⟩|⟨_,j⟩
  ·omega
  ·rw[j,Uo];rcases aX t a.length with f|o
   ·have p:(a[t]).iL=true:=List.all_eq_true.1 x _ (Yx f);have b:a.getD t .ib=a[t]:=by simp[f]
    rw[b];have c:((a.map SV.v).toArray++Array.replicate (d.ntmps -(a.map SV.v).toArray.size) undef).getD t undef=(a[t]).v:=by
     simp[Array.getElem?_append,f]
    rw[c];exact mJ _
   ·have b:a.getD t .ib=.ib:=by simp[bZ o]
    rw[b];trivial
 have r:∀{q s e l},¬ku (sE 0 a) q s e l:=by
  intro q s e l c;rcases EE a 0 q with⟨i,_⟩|⟨_,j⟩
  ·omega
  ·unfold ku at c;rw[j,Uo]at c;rcases aX q a.length with f|o
   ·have p:(a[q]).iL=true:=List.all_eq_true.1 x _ (Yx f);have b:a.getD q .ib=a[q]:=by simp[f]
    rw[b]at c;rcases c with c|c<;>rw[c]at p<;>simp[SV.iL]at p
   ·have b:a.getD q .ib=.ib:=by simp[bZ o]
    rw[b]at c;simp at c
 have E:Bx n (sE 0 a) m:=⟨λ_ _ _ _ h=>absurd h r,λ_ _ _ _ _ _ _ _ _ h=>absurd h r,λ_ _ _ _ h=>absurd h r⟩
 refine Code.wp_mono ?_ (Rb v H N w g L _ m _ _ w h J E V (nl.aC w))
 intro e o f b
 obtain⟨y,D,p,F,U,X,b⟩:=b.bq
 have z:∀(b:Uf T k D f.heap R),o.defers=[]/\∃B,(results d o.tmps).run P f=.ok B f/\∃C,Ending.returned B=.returned C/\nl w f/\R C f.heap:=by
  intro b;refine⟨p.defers,?_⟩;obtain⟨l,i,j⟩:=EZ v p k _ f F b;have Q:(results d o.tmps).run P f=.ok (if h:(l.map SV.v).toArray.size=1 then(l.map SV.v).toArray[0]else .tuple (l.map SV.v).toArray) f:=by
   rw[Ok,S,Rn];simp only[Sem.run_bind,Sem.run_map];rw[j];rfl
  refine⟨_,Q,_,rfl,U,?_⟩;cases l with
  |nil=>exact i
  |cons W l=>cases l with
   |nil=>exact i
   |cons Z l=>exact i
 cases e with
 |normal=>exact z b
 |ret=>exact z b
 |exit W=>exact b.elim
 |goto W=>exact b.elim
 |panic g=>exact absurd rfl (y.1 g)
 |outgrown=>exact absurd rfl y.2
end Go.Vc
end
section
namespace Go.Vc
abbrev vi(n:Int):Value:=.int .i64 n
abbrev vb(b:Bool):Value:=.bool b
abbrev vp(b o:Nat):Value:=.pointer (some ⟨b,o,none⟩)
def NK(f:Func):Code:=
 match f.body with
 |some c=>c
 |none=>.skip
end Go.Vc
end
section
namespace Go.Vc
variable{a m c e:I}{b o k f n:Nat}{v:Value}{l:List Nat}{s:O}{P:Program}{d:List Value}{K g:Value->I->Prop}{p:Prop}
structure J(m c:I):Prop where
 size:m.size<=c.size
 same:∀b,b<m.size->c[b]? =m[b]?
def J.aC(m:I):J m m:=⟨ad _,λ_ _=>rfl⟩
def J.trans{a b c:I}(h:J a b)(k:J b c):J a c:=
 ⟨bI h.size k.size,λi d=>(k.same i (aK d h.size)).trans (h.same i d)⟩
def J.push(m:I)(o:Obj):J m (m.push o):=
 ⟨E,λb a=>by rw[vQ,ae V]⟩
def J.aM(h:J a m)(o:Obj):J a (m.push o):=h.trans (J.push m o)
def J.aj(h:J a m)(d:a.size<=b)(o:Nat)(l:List Ce):J a (aj m b o l):=
 ⟨by rw[az];exact h.size,λj c=>by rw[bn l m b o V];exact h.same j c⟩
def J.D(h:J m c)(a:D m b o=some v):D c b o=some v:=by
 rw[aJ (h.same b (tJ a))];exact a
def J.jA(h:J m c){l:List Ce}(e:fU m b o l):fU c b o l:=λi a d=>h.D (e i a d)
def cD.ext(h:J m c){e:Nat}{l:List Ce}(a:cD m b e l):cD c b e l:=by
 unfold cD at*;rw[h.same b (Array.getElem?_eq_some_iff.1 a).1];exact a
structure dT{α:Type}(m:I)(sz:Nat)(R:List Ce->α->Prop)(s:O)(l:List α):Prop where
 len:s.len=l.length
 cap:s.len<=s.cap
 gA:s.len<=9223372036854775807
 jA:∀(k:Nat)(x:α),l[k]? =some x->∃cs,R cs x/\fU m s.F (s.off+k*sz) cs
def dT.mono{α:Type}{d:Nat}{R b:List Ce->α->Prop}{l:List α}(h:dT m d R s l)(j:J m c)(g:∀a x,R a x->b a x):dT c d b s l:=
 ⟨h.len,h.cap,h.gA,λk x i=>let⟨a,e,f⟩:=h.jA k x i;⟨a,g _ _ e,j.jA f⟩⟩
def Ru(a:List Ce)(n:Int):Prop:=a=[.i n]
abbrev au(m:I)(s:O)(l:List Int):Prop:=dT m 1 Ru s l
def au.u{l:List Int}(h:au m s l){x:Int}(a:l[k]? =some x):D m s.F (s.off+k*1)=some (vi x):=by
 obtain⟨c,rfl,b⟩:=h.jA k x a;exact b 0 (.i x) rfl
def au.ext(a:J m c){l:List Int}(h:au m s l):au c s l:=h.mono a λ_ _ h=>h
def ag{α:Type}{l:List α}(h:k<l.length):∃x,l[k]? =some x:=⟨l[k],by simp[h]⟩
def ax{α:Type}{l:List α}{x:α}(h:l[k]? =some x):k<l.length:=(List.getElem?_eq_some_iff.1 h).1
def bK{α:Type}{l:List α}{x:α}(h:l[k]? =some x):l.take (k+1)=l.take k++[x]:=by
 rw[List.take_add_one,h];rfl
def cE{α:Type}{l:List α}(h:l.length<=k):l.take k=l:=dD h
def JI(P:Program)(f:Nat)(d:List Value)(m:I)(v:Value):Prop:=aN P f d m λa c=>a=v/\J m c
def aN.post(h:aN P f d m K)(a:∀v c,K v c->g v c):aN P f d m g:=h.mono a
def JI.then(h:JI P f d m v)(b:∀c,J m c->K v c):aN P f d m K:=
 h.mono λ_ _⟨a,e⟩=>a▸b _ e
def O.GD{t:O}:s.v=t.v<->s=t:=by
 refine⟨λh=>?_,λh=>h▸rfl⟩;cases s<;>cases t<;>simp_all [O.v]
def J.de(h:J m c)(d:∀b∈l,b<m.size):dV l m c:=λb a=>h.same b (d b a)
def J.lt(h:J m c)(a:b<m.size):b<c.size:=aK a h.size
def J.dk(h:J m c)(a:Vc.D m b o=some v):Vc.D c b o=Vc.D m b o:=by rw[h.D a,a]
def jM(h:k<n)(a:n<=9223372036854775807):cO ((k:Int)+1)=((k+1:Nat):Int):=by rw[aP V V];rfl
def AK(h:k<n):((n:Int) -((k+1:Nat):Int)).toNat<((n:Int) -(k:Int)).toNat:=V
def eg(j:n<=9223372036854775807){e:(Int->I->Prop)->(Int->I->Nat)->Int->I->Prop}(Q:Nat->I->Prop)(f:Q 0 m)
 (h:∀(k:Nat)(a:I)(b:Int->I->Prop)(μ:Int->I->Nat),k<=n->Q k a->
  (k<n->∀c,Q (k+1) c->b (cO ((k:Int)+1)) c/\μ (cO ((k:Int)+1)) c<μ k a)->e b μ k a):
 ∃(b:Int->I->Prop)(μ:Int->I->Nat),b 0 m/\∀i a,b i a->e b μ i a:=by
 refine⟨λi c=>∃k:Nat,i=k/\k<=n/\Q k c,λi _=>(n -i).toNat,⟨0,rfl,dZ _,f⟩,?_⟩
 rintro i a ⟨k,rfl,g,l⟩
 refine h k a _ _ g l λd c o=>?_
 rw[jM d j]
 exact⟨⟨k+1,rfl,d,o⟩,AK d⟩
def dt{σ:Type}(o:n<=9223372036854775807){g:σ}{f:(σ->Int->I->Prop)->(σ->Int->I->Nat)->σ->Int->I->Prop}(Q:Nat->σ->I->Prop)(j:Q 0 g m)
 (h:∀(k:Nat)(s:σ)(a:I)(b:σ->Int->I->Prop)(μ:σ->Int->I->Nat),k<=n->Q k s a->
  (k<n->∀d c,Q (k+1) d c->b d (cO ((k:Int)+1)) c/\μ d (cO ((k:Int)+1)) c<μ s k a)->f b μ s k a):
 ∃(b:σ->Int->I->Prop)(μ:σ->Int->I->Nat),b g 0 m/\∀s i a,b s i a->f b μ s i a:=by
 refine⟨λs i c=>∃k:Nat,i=k/\k<=n/\Q k s c,λ_ i _=>(n -i).toNat,⟨0,rfl,dZ _,j⟩,?_⟩
 rintro s i a ⟨k,rfl,l,p⟩
 refine h k s a _ _ l p λe d c q=>?_
 rw[jM e o]
 exact⟨⟨k+1,rfl,e,q⟩,AK e⟩
def dq(P:Program)(f:Nat)(d:List Value)(m:I)(p:Prop):Prop:=aN P f d m λv c=>∃b:Bool,v=.bool b/\(b=true<->p)/\J m c
def dq.then(h:dq P f d m p)(g:∀(b:Bool) c,(b=true<->p)->J m c->K (.bool b) c):aN P f d m K:=
 h.mono λ_ _⟨b,e,a,i⟩=>e▸g b _ a i
def dq.aG(i:dq P f d m p)(g:J e m)(q:∀b∈l,b<e.size)
 (o:∀(b:Bool) c,(b=true<->p)->J m c->J e c->K (.bool b) c):aN P f d m λv c=>dV l m c/\K v c:=
 i.mono λ_ _⟨b,n,j,a⟩=>⟨a.de λh k=>g.lt (q h k),n▸o b _ j a (g.trans a)⟩
def JI.aG(i:JI P f d m v)(g:J e m)(o:∀b∈l,b<e.size)
 (n:∀c,J m c->J e c->K v c):aN P f d m λv c=>dV l m c/\K v c:=
 i.mono λ_ _⟨k,a⟩=>⟨a.de λh j=>g.lt (o h j),k▸n _ a (g.trans a)⟩
def aN.aG(j:aN P f d m K)(o:J e m)(n:∀b∈l,b<e.size)
 (a:∀v c,K v c->J m c/\g v c):aN P f d m λv c=>dV l m c/\g v c:=
 j.mono λv c h=>⟨(a v c h).1.de λi k=>o.lt (n i k),(a v c h).2⟩
def fB{b:Bool}(h:b=true<->p)(d:J m c):∃a:Bool,Value.bool b=.bool a/\(a=true<->p)/\J m c:=⟨b,rfl,h,d⟩
def bX(h:¬p)(b:J m c):∃a:Bool,Value.bool false=.bool a/\(a=true<->p)/\J m c:=⟨false,rfl,by simp[h],b⟩
def je(h:p)(b:J m c):∃a:Bool,Value.bool true=.bool a/\(a=true<->p)/\J m c:=⟨true,rfl,by simp[h],b⟩
def nb{b:Bool}(a:b=true<->p)(h:(!b)=true):¬p:=λc=>by simp[a.2 c]at h
def yb{b:Bool}(a:b=true<->p)(h:(!b)=false):p:=a.1 (by simpa using h)
def fb{b:Bool}(a:b=true<->p)(h:b=false):¬p:=λc=>by simp[a.2 c]at h
def bA{α:Type}{l:List α}{x:α}{p:α->Prop}(c:l[k]? =some x)(h:∀y∈l.take k,p y)(b:p x):∀y∈l.take (k+1),p y:=by
 rw[bK c];intro y a;rcases List.mem_append.1 a with a|a
 ·exact h y a
 ·simp at a;subst a;exact b
def cJ{α:Type}{l:List α}{p:α->Prop}(a:l.length<=k)(h:∀y∈l.take k,p y):∀y∈l,p y:=by rw[<-cE a];exact h
def ar{α:Type}{l:List α}{x:α}(h:l[k]? =some x):x∈l:=jx h
end Go.Vc
end
section
namespace Go.Vc
variable{m:I}{s:O}{k:Nat}
structure bO where
 rV:Int
 to:Int
 cons:List (List Int)
structure Instr where
 op:Int
 dst:Int
 bJ:Int
 bV:Int
 args:List Int
 dR:List Int
structure cY where
 params:List Int
 cV:List Int
 aR:Int
 av:Int
 cG:List Instr
structure cL where
 aY:List bO
 cB:List cY
def lB(m:I)(a:List Ce)(c:List Int):Prop:=∃f,a=[.s f]/\au m f c
def gH(m:I)(a:List Ce)(d:bO):Prop:=∃f,a=[.i d.rV,.i d.to,.s f]/\dT m 1 (lB m) f d.cons
def dv(m:I)(b:List Ce)(x:Instr):Prop:=∃a j,b=[.i x.op,.i x.dst,.i x.bJ,.i x.bV,.s a,.s j]/\au m a x.args/\au m j x.dR
def jV(m:I)(b:List Ce)(p:cY):Prop:=
 ∃a l c,b=[.s a,.s l,.i p.aR,.i p.av,.s c]/\au m a p.params/\au m l p.cV/\dT m 6 (dv m) c p.cG
abbrev ns(m:I)(s:O)(l:List (List Int)):Prop:=dT m 1 (lB m) s l
abbrev bR(m:I)(s:O)(l:List bO):Prop:=dT m 3 (gH m) s l
abbrev eC(m:I)(s:O)(l:List Instr):Prop:=dT m 6 (dv m) s l
abbrev fW(m:I)(s:O)(l:List cY):Prop:=dT m 5 (jV m) s l
structure eX(m:I)(d p:O)(im:cL):Prop where
 aY:bR m d im.aY
 cB:fW m p im.cB
def lB.ext{m b:I}(g:J m b)(a:List Ce)(c:List Int):lB m a c->lB b a c:=λ⟨f,d,e⟩=>⟨f,d,e.ext g⟩
def ns.ext{m b:I}(a:J m b){s:O}{l:List (List Int)}(h:ns m s l):ns b s l:=h.mono a (lB.ext a)
def gH.ext{m b:I}(g:J m b)(a:List Ce)(c:bO):gH m a c->gH b a c:=λ⟨f,d,e⟩=>⟨f,d,ns.ext g e⟩
def bR.ext{m b:I}(a:J m b){s:O}{l:List bO}(h:bR m s l):bR b s l:=h.mono a (gH.ext a)
def dv.ext{m d:I}(b:J m d)(a:List Ce)(c:Instr):dv m a c->dv d a c:=λ⟨e,j,f,g,h⟩=>⟨e,j,f,g.ext b,h.ext b⟩
def eC.ext{m b:I}(a:J m b){s:O}{l:List Instr}(h:eC m s l):eC b s l:=h.mono a (dv.ext a)
def jV.ext{m d:I}(a:J m d)(b:List Ce)(c:cY):jV m b c->jV d b c:=λ⟨e,l,c,f,g,h,i⟩=>⟨e,l,c,f,g.ext a,h.ext a,eC.ext a i⟩
def fW.ext{m b:I}(a:J m b){s:O}{l:List cY}(h:fW m s l):fW b s l:=h.mono a (jV.ext a)
def eX.ext{m c:I}(a:J m c){d p:O}{b:cL}(h:eX m d p b):eX c d p b:=⟨bR.ext a h.aY,fW.ext a h.cB⟩
def ns.u{l:List (List Int)}(h:ns m s l){x:List Int}(b:l[k]? =some x):
 ∃f,au m f x/\D m s.F (s.off+k*1)=some (O.v f):=by
 obtain⟨d,⟨f,rfl,a⟩,c⟩:=h.jA k x b
 exact⟨f,a,c 0 (.s f) rfl⟩
def bR.u{l:List bO}(h:bR m s l){x:bO}(c:l[k]? =some x):
 ∃f,ns m f x.cons/\D m s.F (s.off+k*3)=some (vi x.rV)/\D m s.F (s.off+k*3+1)=some (vi x.to)/\D m s.F (s.off+k*3+2)=some (O.v f):=by
 obtain⟨d,⟨f,rfl,b⟩,a⟩:=h.jA k x c
 exact⟨f,b,a 0 (.i x.rV) rfl,a 1 (.i x.to) rfl,a 2 (.s f) rfl⟩
def eC.u{l:List Instr}(h:eC m s l){x:Instr}(e:l[k]? =some x):
 ∃b j,au m b x.args/\au m j x.dR/\D m s.F (s.off+k*6)=some (vi x.op)/\D m s.F (s.off+k*6+1)=some (vi x.dst)/\D m s.F (s.off+k*6+2)=some (vi x.bJ)/\
  D m s.F (s.off+k*6+3)=some (vi x.bV)/\D m s.F (s.off+k*6+4)=some (O.v b)/\D m s.F (s.off+k*6+5)=some (O.v j):=by
 obtain⟨f,⟨b,j,rfl,c,d⟩,a⟩:=h.jA k x e
 exact⟨b,j,c,d,a 0 (.i x.op) rfl,a 1 (.i x.dst) rfl,a 2 (.i x.bJ) rfl,a 3 (.i x.bV) rfl,a 4 (.s b) rfl,a 5 (.s j) rfl⟩
def fW.u{l:List cY}(h:fW m s l){x:cY}(i:l[k]? =some x):
 ∃a b c,au m a x.params/\au m b x.cV/\eC m c x.cG/\D m s.F (s.off+k*5)=some (O.v a)/\D m s.F (s.off+k*5+1)=some (O.v b)/\D m s.F (s.off+k*5+2)=some (vi x.aR)/\
  D m s.F (s.off+k*5+3)=some (vi x.av)/\D m s.F (s.off+k*5+4)=some (O.v c):=by
 obtain⟨j,⟨a,b,c,rfl,e,f,g⟩,d⟩:=h.jA k x i
 exact⟨a,b,c,e,f,g,d 0 (.s a) rfl,d 1 (.s b) rfl,d 2 (.i x.aR) rfl,d 3 (.i x.av) rfl,d 4 (.s c) rfl⟩
end Go.Vc
end
section
namespace Go.Vc
variable{f m:I}{e a:Nat}{s:O}{l:List Ce}{d:List (List Ce)}
structure iZ(f m:I)(e a:Nat)(s:O)(l:List Ce):Prop where
 len:l.length=s.len*a
 u:s=.nil\/∃b c tail,s=.mk b 0 s.len c/\f.size<=b/\cD m b e (l++tail)/\(l++tail).length=c*a/\s.len<=c
def iZ.nil(f m:I)(e a:Nat):iZ f m e a .nil []:=⟨E,Or.inl rfl⟩
def iZ.new(h:J f m)(e a:Nat)(l:List Ce)(k:Nat)(b:l.length=k*a):iZ f (m.push (.cells (br l) e)) e a (.mk m.size 0 k k) l:=
 ⟨b,Or.inr ⟨m.size,k,[],rfl,h.size,by rw[gV];exact cD.push _ _ _,by simpa using b,ad _⟩⟩
def iZ.congr{f m d:I}{e a:Nat}{s:O}{l:List Ce}(h:iZ f m e a s l)(c:d[s.F]? =m[s.F]?):iZ f d e a s l:=by
 refine⟨h.len,?_⟩;rcases h.u with b|⟨g,i,tail,b,h2,h3,h4,h5⟩
 ·exact Or.inl b
 ·refine Or.inr ⟨g,i,tail,b,h2,h3.congr ?_,h4,h5⟩;rw[b]at c;exact c
def iZ.lt{f m:I}{e a:Nat}{s:O}{l:List Ce}(h:iZ f m e a s l):s=.nil\/s.F<m.size:=by
 rcases h.u with b|⟨c,d,tail,b,h2,h3,h4,h5⟩
 ·exact Or.inl b
 ·rw[b];exact Or.inr h3.lt
def iZ.ext{c:I}(h:iZ f m e a s l)(d:J m c):iZ f c e a s l:=by
 rcases h.lt with b|b
 ·subst b;exact⟨h.len,Or.inl rfl⟩
 ·exact h.congr (d.same _ b)
def iZ.cF{c:I}(h:iZ c m e a s l)(i:f.size<=c.size):iZ f m e a s l:=by
 refine⟨h.len,?_⟩;rcases h.u with b|⟨d,g,tail,b,h2,h3,h4,h5⟩
 ·exact Or.inl b
 ·exact Or.inr ⟨d,g,tail,b,bI i h2,h3,h4,h5⟩
def iZ.F(h:iZ f m e a s l):s=.nil\/f.size<=s.F:=by
 rcases h.u with b|⟨c,d,tail,b,h2,h3,h4,h5⟩
 ·exact Or.inl b
 ·rw[b];exact Or.inr h2
def fU.Mk{b o:Nat}{r:List Ce}(h:fU m b o (l++r)):fU m b o l:=λi c a=>h i c (by rw[aw (ax a)];exact a)
def iZ.jA{f m:I}{e a:Nat}{s:O}{l:List Ce}(h:iZ f m e a s l):fU m s.F s.off l:=by
 rcases h.u with b|⟨g,c,tail,b,h2,h3,h4,h5⟩
 ·have:l=[]:=List.length_eq_zero_iff.1 (by rw[h.len,b];simp);subst this;intro i c d;simp at d
 ·rw[b];exact h3.jA.Mk
def zp(l a tail:List Ce)(h:a.length<=tail.length):iD (l++tail) l.length a=l++a++tail.drop a.length:=by
 apply fK;intro i;rw[tW];simp only[bg];by_cases b:l.length<=i/\i<l.length+a.length/\i<l.length+tail.length
 ·rw[aq b,eI,aF b.1,aw V]
 ·rw[ae b];by_cases c:i<l.length
  ·rw[aw c,eI,aw c]
  ·rw[aF V,eI,aF V,aF V,pZ];congr 1;omega
def iZ.append{zs:List Ce}{t:Nat}{x:O}{c:List Ce}{K:O->I->Prop}(h:iZ f m e zs.length s l)(k:J f m)
 (n:c.length=x.len*zs.length)(C:fU m x.F x.off c)(p:(s.len+x.len)*t<=140737488355328)
 (q:∀i j,iZ f j e zs.length i (l++c)->J f j->i.len=s.len+x.len->m.size<=j.size->(∀a,a<m.size->(s≠.nil->a≠s.F)->j[a]? =m[a]?)->((s=.nil/\i=.nil)\/(s≠.nil/\i.F=s.F/\i≠.nil)\/i.F=m.size)->K i j):
 iP m e zs t s x K:=by
 refine⟨c,n,C,λA=>?_,λG=>⟨p,l,h.len,h.jA,λg v=>?_⟩⟩
 ·rcases h.u with d|⟨a,g,tail,d,h2,h3,h4,h5⟩
  ·subst d
   have u:x.len=0:=by simpa using A
   have y:c=[]:=List.length_eq_zero_iff.1 (by rw[n,u];simp)
   subst y
   refine⟨λz w=>by simp at w,?_⟩
   exact q .nil _ ⟨by rw[gV];exact h.len,Or.inl rfl⟩ (by simpa[aj]using k) (by simp[u]) (wR (az _ _ _ _).symm) (λa p _=>by simp[aj]) (Or.inl ⟨rfl,rfl⟩)
  ·have w:=h.len
   have F:s.cap=g:=by rw[d];rfl
   rw[d]
   simp only[O.jb,O.mN,O.fZ,bQ]
   simp only[bg]at h4
   have z:c.length<=tail.length:=by
    have y:(s.len+x.len)*zs.length<=g*zs.length:=da _ V;rw[fD]at y;omega
   refine⟨h3.fu (by simp only[bg];omega),?_⟩
   have u:=cD.aj (m:=m) (b:=a) (e:=e) (r:=c) (o:=s.len*zs.length) h3
   rw[<-w,zp l c tail z]at u
   refine q _ _ ⟨?_,Or.inr ⟨a,g,tail.drop c.length,rfl,h2,?_,?_,?_⟩⟩ (k.aj h2 _ _) E (wR (az _ _ _ _).symm) (λD _ B=>bn _ _ _ _ ?_) (Or.inr (Or.inl ⟨by rw[d];simp,by rw[d];rfl,E⟩))
   ·simp only[bg,O.fZ,fD];omega
   ·rw[<-w];exact u
   ·simp only[bg,Yy];omega
   ·simp only[O.fZ];omega
   ·have:=B (by rw[d];simp)
    rw[d]at this;exact this
 ·refine q _ _ ⟨?_,Or.inr ⟨m.size,g,lS zs (g -(s.len+x.len)),rfl,k.size,cD.push _ _ _,?_,by simpa using v⟩⟩ (k.aM _) E E (λa p _=>by rw[vQ,ae V]) (Or.inr (Or.inr rfl))
  ·simp only[bg,O.fZ,fD,h.len,n]
  ·simp only[bg,pK,h.len,n]
   rw[Nat.sub_mul,<-fD]
   have:(s.len+x.len)*zs.length<=g*zs.length:=da _ v
   omega
def au.iC{l:List Int}(h:iZ f m e 1 s (l.map Ce.i))(n:l.length<=9223372036854775807):au m s l:=by
 have g:s.len=l.length:=by have:=h.len;simp at this;omega
 refine⟨g,?_,V,λk x d=>⟨[.i x],rfl,λi c b=>?_⟩⟩
 ·rcases h.u with a|⟨j,c,tail,a,h2,h3,h4,h5⟩
  ·rw[a];exact ad _
  ·rw[a];exact h5
 ·have a:i=0:=by have:=ax b;simp at this;omega
  subst a;simp at b;subst b;have:=h.jA k (.i x) (by simp[d]);simpa using this
def gZ{a:Nat}:∀{d:List (List Ce)}(_:∀b∈d,b.length=a){c:Nat}{b:List Ce}(_:d[c]? =some b){i:Nat}{e:Ce}(_:b[i]? =some e),d.flatten[c*a+i]? =some e
 |[],_,c,b,h,_,_,_=>by simp at h
 |x::d,g,0,b,h,i,e,f=>by
  simp at h;subst h;rw[iG,Nz,bQ,aw (ax f)];exact f
 |x::d,g,c+1,b,h,i,e,f=>by
  have k:x.length=a:=g x aS;rw[iG,aF (by rw[k,fD];omega)];have:=gZ (d:=d) (λy l=>g y (ah _ l)) (c:=c) (by simpa using h) f;rw[<-this];congr 1;rw[k,fD];omega
def cX{a:Nat}:∀{d:List (List Ce)},(∀b∈d,b.length=a)->d.flatten.length=d.length*a
 |[],_=>E
 |x::d,b=>by
  rw[iG,bg,cX (λy c=>b y (ah _ c)),b x aS,ba,fD];omega
structure fX{α:Type}(a:Nat)(R:List Ce->α->Prop)(d:List (List Ce))(l:List α):Prop where
 len:d.length=l.length
 size:∀cs∈d,cs.length=a
 dh:∀(j:Nat)(cs:List Ce)(x:α),d[j]? =some cs->l[j]? =some x->R cs x
def fX.nil{α:Type}(a:Nat)(R:List Ce->α->Prop):fX a R [] []:=⟨rfl,E,E⟩
def fX.xH{α:Type}{R:List Ce->α->Prop}{l:List α}(h:fX a R d l){cs:List Ce}{x:α}(i:cs.length=a)(k:R cs x):fX a R (d++[cs]) (l++[x]):=by
 refine⟨by simp[h.len],λf b=>?_,λj f y b c=>?_⟩
 ·rcases List.mem_append.1 b with b|b
  ·exact h.size f b
  ·simp at b;subst b;exact i
 ·rcases aX j d.length with e|e
  ·rw[aw e]at b;rw[aw (h.len▸e)]at c;exact h.dh j f y b c
  ·rw[aF e]at b;rw[aF (by rw[<-h.len];exact e),<-h.len]at c;have g:j -d.length=0:=by have:=ax b;simp at this;omega
   rw[g]at b c;simp at b c;subst b;subst c;exact k
def fX.mono{α:Type}{R c:List Ce->α->Prop}{l:List α}(h:fX a R d l)(g:∀b x,R b x->c b x):fX a c d l:=
 ⟨h.len,h.size,λj b x e f=>g _ _ (h.dh j b x e f)⟩
def dT.iC{α:Type}{R:List Ce->α->Prop}{l:List α}(h:iZ f m e a s d.flatten)(c:fX a R d l)(r:0<a)(u:l.length<=9223372036854775807):dT m a R s l:=by
 have q:s.len=l.length:=by
  have b:=h.len;rw[cX c.size]at b;have:=Rh r b;rw[<-this,c.len]
 refine⟨q,?_,V,λg x o=>?_⟩
 ·rcases h.u with b|⟨j,i,tail,b,h2,h3,h4,h5⟩
  ·rw[b];exact ad _
  ·rw[b];exact h5
 ·obtain⟨j,n⟩:=ag (l:=d) (k:=g) (by rw[c.len];exact ax o);refine⟨j,c.dh g j x n o,λt i p=>?_⟩;have:=h.jA (g*a+t) i (gZ c.size n p);rwa[<-dE]at this
end Go.Vc
end
section
namespace Go.Vc
variable{S c:List Nat}{m a f:I}{b o d e:Nat}{l:List Ce}{s:O}
def bz(S:List Nat)(m:I):I:=m.mapIdx λb o=>if b∈S then .cells #[] 0 else o
def Le(M a:I):Prop:=∀b o v,D M b o=some v->D a b o=some v
def dN{v:Value}:D (bz S m) b o=some v<->b∉S/\D m b o=some v:=by
 unfold D bz;rw[UA];cases h:m[b]? with
 |none=>simp
 |some x=>by_cases a:b∈S<;>simp[a]
def Le.aC(m:I):Le m m:=λ_ _ _ h=>h
def Le.trans{a b c:I}(h:Le a b)(k:Le b c):Le a c:=λx o v d=>k x o v (h x o v d)
def J.le(h:J m a):Le m a:=λ_ _ _ b=>h.D b
def bo(S:List Nat)(m:I):Le (bz S m) m:=λ_ _ _ h=>(dN.1 h).2
def nH(h:∀b,b<m.size->b∉S->b∉c/\a[b]? =m[b]?):Le (bz S m) (bz c a):=λb o v i=>by
 obtain⟨e,d⟩:=dN.1 i;obtain⟨f,g⟩:=h b (tJ d) e;exact dN.2 ⟨f,by rw[aJ g];exact d⟩
def J.bz(h:J m a)(d:∀b∈c,b∈S\/m.size<=b):Le (bz S m) (bz c a):=
 nH λb e g=>⟨λf=>(d b f).elim g λh=>V,h.same b e⟩
def J.cK(h:J m a)(S:List Nat):Le (Vc.bz S m) (Vc.bz S a):=h.bz λ_ b=>Or.inl b
def gL(m:I)(a:∀b∈c,b∈S):Le (bz S m) (bz c m):=(J.aC m).bz λb d=>Or.inl (a b d)
def Le.jA{M a:I}(h:Le M a)(e:fU M b o l):fU a b o l:=λi c d=>h _ _ _ (e i c d)
def dT.le{α:Type}{R c:List Ce->α->Prop}{l:List α}(h:dT m d R s l)(j:Le m a)(g:∀b x,R b x->c b x):dT a d c s l:=
 ⟨h.len,h.cap,h.gA,λk x i=>let⟨b,e,f⟩:=h.jA k x i;⟨b,g _ _ e,j.jA f⟩⟩
def au.le{m a:I}(b:Le m a){s:O}{l:List Int}(h:au m s l):au a s l:=dT.le h b λ_ _ h=>h
def lB.le{m a:I}(g:Le m a)(b:List Ce)(c:List Int):lB m b c->lB a b c:=λ⟨f,d,e⟩=>⟨f,d,e.le g⟩
def gH.le{m a:I}(d:Le m a)(b:List Ce)(c:bO):gH m b c->gH a b c:=λ⟨f,e,g⟩=>⟨f,e,dT.le g d (lB.le d)⟩
def bR.le{m a:I}(b:Le m a){s:O}{l:List bO}(h:bR m s l):bR a s l:=dT.le h b (gH.le b)
def HI(a:b∉S)(h:fU m b o l):fU (bz S m) b o l:=λi c d=>dN.2 ⟨a,h i c d⟩
def dT.Oe{α:Type}{R:List Ce->α->Prop}{a:List (List Ce)}{l:List α}(o:∀b∈S,b<f.size)(h:iZ f m e d s a.flatten)(q:fX d R a l)(r:0<d)(p:l.length<=9223372036854775807):dT (bz S m) d R s l:=by
 have H:=dT.iC h q r p;refine⟨H.len,H.cap,H.gA,λt x i=>?_⟩;obtain⟨j,k,n⟩:=H.jA t x i;rcases h.F with c|c
 ·have g:=H.len;have:=ax i;rw[c]at g;simp at g;omega
 ·exact⟨j,k,HI (λg=>by have:=o _ g;omega) n⟩
def au.Oe{l:List Int}(k:∀b∈S,b<f.size)(h:iZ f m e 1 s (l.map Ce.i))(n:l.length<=9223372036854775807):au (bz S m) s l:=by
 have H:=au.iC h n;refine⟨H.len,H.cap,H.gA,λo x d=>?_⟩;obtain⟨g,i,j⟩:=H.jA o x d;rcases h.F with a|a
 ·have c:=H.len;have:=ax d;rw[a]at c;simp at c;omega
 ·exact⟨g,i,HI (λc=>by have:=k _ c;omega) j⟩
end Go.Vc
end
section
namespace Go.Vc
variable{X Y S:List Nat}{a b c m d:I}{f:List Ce}{s:O}{k:Nat}
structure Fz(X:List Nat)(m d:I):Prop where
 size:m.size<=d.size
 same:∀b,b<m.size->b∉X->d[b]? =m[b]?
def Fz.aC(X:List Nat)(m:I):Fz X m m:=⟨ad _,λ_ _ _=>rfl⟩
def Fz.pX(h:Fz X a b)(k:Fz Y b c)(g:∀y∈Y,y∈X\/a.size<=y):Fz X a c:=
 ⟨bI h.size k.size,λi d e=>(k.same i (aK d h.size) λf=>(g i f).elim e λh=>V).trans (h.same i d e)⟩
def Fz.trans(h:Fz X a b)(k:Fz X b c):Fz X a c:=h.pX k λ_ d=>Or.inl d
def J.fz(h:J m d)(X:List Nat):Fz X m d:=⟨h.size,λb a _=>h.same b a⟩
def Fz.then(h:Fz X a b)(k:J b c):Fz X a c:=h.trans (k.fz X)
def Fz.push{X:List Nat}{a m:I}(h:Fz X a m)(o:Obj):Fz X a (m.push o):=h.then (J.push m o)
def Fz.ext(h:Fz [] m d):J m d:=⟨h.size,λb a=>h.same b a E⟩
def Fz.AY(h:Fz X m d)(f:∀b∈X,b∈Y\/m.size<=b):Fz Y m d:=⟨h.size,λb a e=>h.same b a λc=>(f b c).elim e λh=>V⟩
def Fz.aj(h:Fz X a m){b:Nat}(c:b∈X\/a.size<=b)(o:Nat)(l:List Ce):Fz X a (aj m b o l):=
 ⟨by rw[az];exact h.size,λj f d=>by
  have e:j≠b:=λe=>by subst e;exact c.elim d λc=>V
  rw[bn l m b o e];exact h.same j f d⟩
def Fz.bz(h:Fz X m d){a:List Nat}(f:∀b∈X,b∈S)(e:∀b∈a,b∈S\/m.size<=b):Le (bz S m) (bz a d):=
 nH λb g c=>⟨λi=>(e b i).elim c λh=>V,h.same b g λj=>c (f b j)⟩
def Fz.cK(h:Fz X m d)(a:∀b∈X,b∈S):Le (Vc.bz S m) (Vc.bz S d):=h.bz a λ_ h=>Or.inl h
def Fz.de(h:Fz X m d){l:List Nat}(c:∀b∈l,b<m.size/\b∉X):dV l m d:=λb a=>h.same b (c b a).1 (c b a).2
inductive Ex where
 |mk (op bJ:Int) (bt:List Ex)
def Ex.op:Ex->Int| .mk o _ _=>o
def Ex.bJ:Ex->Int| .mk _ n _=>n
def Ex.bt:Ex->List Ex| .mk _ _ k=>k
structure JJ(β:Type)where
 op:Int
 bJ:Int
 bV:Int
 args:List Int
 bt:List β
inductive Bk where
 |mk (aA:List (JJ Bk)) (aR:Int)
abbrev cg:=JJ Bk
def Bk.aA:Bk->List cg| .mk s _=>s
def Bk.aR:Bk->Int| .mk _ r=>r
@[simp] theorem Ex.S0 (o n:Int) (k:List Ex):(Ex.mk o n k).op=o:=rfl
@[simp] theorem Ex.QT (o n:Int) (k:List Ex):(Ex.mk o n k).bJ=n:=rfl
@[simp] theorem Ex.OZ (o n:Int) (k:List Ex):(Ex.mk o n k).bt=k:=rfl
@[simp] theorem Bk.iY (s:List cg) (r:Int):(Bk.mk s r).aA=s:=rfl
@[simp] theorem Bk.iu (s:List cg) (r:Int):(Bk.mk s r).aR=r:=rfl
inductive y8(m:I):List Ce->Ex->Prop
 |mk (op bJ:Int) (bt:List Ex) (s:O) (css:Nat->List Ce) (hl:s.len=bt.length) (hc:s.len<=s.cap) (hm:s.len<=9223372036854775807)
  (hr:∀(k:Nat)(x:Ex),bt[k]? =some x->fU m s.F (s.off+k*3) (css k)) (hk:∀(k:Nat)(x:Ex),bt[k]? =some x->y8 m (css k) x):y8 m [.i op,.i bJ,.s s] (.mk op bJ bt)
inductive pL(m:I):List Ce->Bk->Prop
 |mk (aA:List (JJ Bk)) (r:Int) (s:O) (hl:s.len=aA.length) (hc:s.len<=s.cap) (hm:s.len<=9223372036854775807) (aa ks:Nat->O) (kcs:Nat->Nat->List Ce)
  (hr:∀(k:Nat)(x:JJ Bk),aA[k]? =some x->fU m s.F (s.off+k*5) [.i x.op,.i x.bJ,.i x.bV,.s (aa k),.s (ks k)]/\au m (aa k) x.args/\(ks k).len=x.bt.length/\(ks k).len<=(ks k).cap/\(ks k).len<=9223372036854775807)
  (hb:∀(k:Nat)(x:JJ Bk)(j:Nat)(b:Bk),aA[k]? =some x->x.bt[j]? =some b->fU m (ks k).F ((ks k).off+j*2) (kcs k j))
  (hk:∀(k:Nat)(x:JJ Bk)(j:Nat)(b:Bk),aA[k]? =some x->x.bt[j]? =some b->pL m (kcs k j) b):pL m [.s s,.i r] (.mk aA r)
def fA(m:I)(f:List Ce)(x:cg):Prop:=∃a k,f=[.i x.op,.i x.bJ,.i x.bV,.s a,.s k]/\au m a x.args/\dT m 2 (pL m) k x.bt
abbrev eK(m:I)(s:O)(l:List Ex):Prop:=dT m 3 (y8 m) s l
abbrev dL(m:I)(s:O)(l:List cg):Prop:=dT m 5 (fA m) s l
abbrev mf(m:I)(s:O)(l:List Bk):Prop:=dT m 2 (pL m) s l
def y8.le(h:Le m d){e:Ex}(a:y8 m f e):y8 d f e:=by
 induction a with
 |mk n bJ bt s b g c i a o l=>exact .mk n bJ bt s b g c i (λk x j=>h.jA (a k x j)) l
def pL.le{m d:I}(h:Le m d){f:List Ce}{b:Bk}(a:pL m f b):pL d f b:=by
 induction a with
 |mk aA u s o n p e t r a l v q=>
  exact .mk aA u s o n p e t r (λk x c=>let⟨g,i,j⟩:=a k x c;⟨h.jA g,i.le h,j⟩) (λk x j b c g=>h.jA (l k x j b c g)) q
def dT.choose{α:Type}{m:I}{a:Nat}{R:List Ce->α->Prop}{s:O}{l:List α}(h:dT m a R s l):
 ∃b:Nat->List Ce,∀(k:Nat)(x:α),l[k]? =some x->R (b k) x/\fU m s.F (s.off+k*a) (b k):=by
 have:∀k:Nat,∃f:List Ce,∀x:α,l[k]? =some x->R f x/\fU m s.F (s.off+k*a) f:=λk=>by
  cases e:l[k]? with
  |none=>exact⟨[],λx c=>by simp at c⟩
  |some x=>obtain⟨f,d⟩:=h.jA k x e;exact⟨f,λy c=>by simp at c;exact c▸d⟩
 exact⟨λk=>Classical.choose (this k),λk=>eN (this k)⟩
def y8.bq{e:Ex}(h:y8 m f e):∃s,f=[.i e.op,.i e.bJ,.s s]/\eK m s e.bt:=by
 cases h with
 |mk l bJ bt s b g c i j d=>exact⟨s,rfl,g,c,i,λk x a=>⟨b k,d k x a,j k x a⟩⟩
def y8.of{b bJ:Int}{bt:List Ex}(h:eK m s bt):y8 m [.i b,.i bJ,.s s] (.mk b bJ bt):=by
 obtain⟨d,c⟩:=h.choose;exact .mk b bJ bt s d h.len h.cap h.gA (λk x a=>(c k x a).2) λk x a=>(c k x a).1
def pL.bq{b:Bk}(h:pL m f b):∃s,f=[.s s,.i b.aR]/\dL m s b.aA:=by
 cases h with
 |mk aA y s r p t d w v u o q=>
  exact⟨s,rfl,r,p,t,λk x a=>let⟨e,g,i,l,n⟩:=u k x a;⟨_,⟨d k,w k,rfl,g,i,l,n,λj b c=>⟨v k j,q k x j b a c,o k x j b a c⟩⟩,e⟩⟩
def pL.of{r:Int}{aA:List cg}(h:dL m s aA):pL m [.s s,.i r] (.mk aA r):=by
 obtain⟨o,n⟩:=h.choose;have:∀k:Nat,∃(a c:O)(f:Nat->List Ce),∀x:cg,aA[k]? =some x->o k=[.i x.op,.i x.bJ,.i x.bV,.s a,.s c]/\au m a x.args/\(c.len=x.bt.length/\c.len<=c.cap/\c.len<=9223372036854775807)/\
  ∀(j:Nat)(b:Bk),x.bt[j]? =some b->pL m (f j) b/\fU m c.F (c.off+j*2) (f j):=λk=>by
  cases p:aA[k]? with
  |none=>exact⟨.nil,.nil,λ_=>[],λx d=>by simp at d⟩
  |some x=>
   obtain⟨⟨a,c,g,i,e⟩,_⟩:=n k x p
   obtain⟨f,q⟩:=e.choose
   exact⟨a,c,f,λy l=>by simp at l;subst l;exact⟨g,i,⟨e.len,e.cap,e.gA⟩,q⟩⟩
 have H:=λk=>eN (eN (eN (this k)));refine .mk aA r s h.len h.cap h.gA (λk=>Classical.choose (this k)) (λk=>Classical.choose (eN (this k))) (λk=>Classical.choose (eN (eN (this k)))) (λk x d=>?_) (λk x j b d l=>?_) λk x j b d l=>?_
 ·obtain⟨g,i,e,_⟩:=H k x d;exact⟨by rw[<-g];exact(n k x d).2,i,e⟩
 ·exact((H k x d).2.2.2 j b l).2
 ·exact((H k x d).2.2.2 j b l).1
def fA.le{m d:I}(h:Le m d){f:List Ce}{x:cg}:fA m f x->fA d f x:=λ⟨a,k,b,c,e⟩=>⟨a,k,b,c.le h,dT.le e h λ_ _=>pL.le h⟩
def eK.le{m d:I}(a:Le m d){s:O}{l:List Ex}(h:eK m s l):eK d s l:=dT.le h a λ_ _=>y8.le a
def dL.le{m d:I}(a:Le m d){s:O}{l:List cg}(h:dL m s l):dL d s l:=dT.le h a λ_ _=>fA.le a
def mf.le{m d:I}(a:Le m d){s:O}{l:List Bk}(h:mf m s l):mf d s l:=dT.le h a λ_ _=>pL.le a
def eK.u{l:List Ex}(h:eK m s l){x:Ex}(b:l[k]? =some x):
 ∃t,eK m t x.bt/\D m s.F (s.off+k*3)=some (vi x.op)/\D m s.F (s.off+k*3+1)=some (vi x.bJ)/\D m s.F (s.off+k*3+2)=some (O.v t):=by
 obtain⟨f,d,a⟩:=h.jA k x b
 obtain⟨t,rfl,c⟩:=d.bq
 exact⟨t,c,a 0 _ rfl,a 1 _ rfl,a 2 _ rfl⟩
def dL.u{l:List cg}(h:dL m s l){x:cg}(e:l[k]? =some x):
 ∃a t,au m a x.args/\mf m t x.bt/\D m s.F (s.off+k*5)=some (vi x.op)/\D m s.F (s.off+k*5+1)=some (vi x.bJ)/\D m s.F (s.off+k*5+2)=some (vi x.bV)/\D m s.F (s.off+k*5+3)=some (O.v a)/\D m s.F (s.off+k*5+4)=some (O.v t):=by
 obtain⟨f,⟨a,t,rfl,c,d⟩,b⟩:=h.jA k x e
 exact⟨a,t,c,d,b 0 _ rfl,b 1 _ rfl,b 2 _ rfl,b 3 _ rfl,b 4 _ rfl⟩
def mf.u{l:List Bk}(h:mf m s l){x:Bk}(b:l[k]? =some x):
 ∃t,dL m t x.aA/\D m s.F (s.off+k*2)=some (O.v t)/\D m s.F (s.off+k*2+1)=some (vi x.aR):=by
 obtain⟨f,d,a⟩:=h.jA k x b
 obtain⟨t,rfl,c⟩:=d.bq
 exact⟨t,c,a 0 _ rfl,a 1 _ rfl⟩
def Bk.w:Bk->Nat
 | .mk aA _=>1+(aA.map λs=>1+s.args.length+(s.bt.map Bk.w).sum).sum
decreasing_by
 rename_i s a _ _
 have b:=mS a
 have c:=mS (by assumption:_∈s.bt)
 have d:SizeOf.sizeOf s.bt<SizeOf.sizeOf s:=by cases s;simp;omega
 simp;omega
def JJ.w(s:JJ Bk):Nat:=1+s.args.length+(s.bt.map Bk.w).sum
def Bk.VX(b:Bk):b.w=1+(b.aA.map JJ.w).sum:=by
 cases b;rw[Bk.w];rfl
def Ex.n:Ex->Nat
 | .mk _ _ bt=>1+(bt.map Ex.n).sum
end Go.Vc
end
section
namespace Go.Vc
variable{S Y S' X:List Nat}{c m b:I}{e a k h n g i:Nat}{s x:O}{f cs o:List Ce}{d:List (List Ce)}{K:O->I->Prop}
structure mD{α:Type}(a:Nat)(R:I->List Ce->α->Prop):Prop where
 le:∀{M M':I}{cs:List Ce}{x:α},Le M M'->R M cs x->R M' cs x
 len:∀{M:I}{cs:List Ce}{x:α},R M cs x->cs.length=a
def rW(_:I)(cs:List Ce)(n:Int):Prop:=Ru cs n
def rW.mono:mD 1 rW:=⟨λ_ h=>h,λh=>by rw[h];rfl⟩
def y8.mono:mD 3 y8:=⟨λh=>y8.le h,λh=>by obtain⟨s,rfl,_⟩:=h.bq;rfl⟩
def pL.mono:mD 2 pL:=⟨λh=>pL.le h,λh=>by obtain⟨s,rfl,_⟩:=h.bq;rfl⟩
def fA.mono:mD 5 fA:=⟨λh=>fA.le h,λh=>by obtain⟨_,_,rfl,_⟩:=h;rfl⟩
structure Gr{α:Type}(S:List Nat)(c m:I)(e a:Nat)(R:I->List Ce->α->Prop)(s:O)(l:List α):Prop where
 gR:s≠.nil
 aV:∃d,iZ c m e a s d.flatten/\fX a (R (bz (s.F::S) m)) d l
def Gr.len{α:Type}{S:List Nat}{c m:I}{e a:Nat}{R:I->List Ce->α->Prop}{s:O}{l:List α}(h:Gr S c m e a R s l)(g:0<a):s.len=l.length:=by
 obtain⟨_,d,f,b⟩:=h;have:=f.len;rw[cX b.size]at this;rw[<-b.len,Rh g this]
def Gr.aZ{α:Type}{R:I->List Ce->α->Prop}{l:List α}(h:Gr S c m e a R s l):c.size<=s.F/\s.F<m.size:=by
 obtain⟨b,d,f,g⟩:=h;exact⟨f.F.resolve_left b,f.lt.resolve_left b⟩
def Gr.new{α:Type}(S:List Nat){c m:I}(h:c.size<=m.size)(e a:Nat)(R:I->List Ce->α->Prop):Gr S c (m.push (.cells (br []) e)) e a R (.mk m.size 0 0 0) []:=
 ⟨E,[],(iZ.new (J.aC m) e a [] 0 E).cF h,fX.nil _ _⟩
def Gr.fw{α:Type}{R:I->List Ce->α->Prop}{l:List α}(o:mD a R)(h:Gr S c m e a R s l)(i:Fz Y m b)(g:∀f∈Y,f∈S/\f<c.size):Gr S c b e a R s l:=by
 have q:=h.aZ;obtain⟨j,d,k,n⟩:=h;refine⟨j,d,k.congr (i.same _ q.2 λp=>by have:=(g _ p).2;omega),n.mono λcs x=>o.le ?_⟩;exact i.cK λf p=>ah _ (g f p).1
def Gr.KC{α:Type}{R:I->List Ce->α->Prop}{l:List α}(n:mD a R)(h:Gr S c m e a R s l)(g:Fz Y m b)(o:∀f∈Y,f∈S)(q:s.F∉Y):Gr S c b e a R s l:=by
 have r:=h.aZ;obtain⟨i,d,j,k⟩:=h;exact⟨i,d,j.congr (g.same _ r.2 q),k.mono λcs x=>n.le (g.cK λf p=>ah _ (o f p))⟩
def Gr.re{α:Type}{R:I->List Ce->α->Prop}{l:List α}(o:mD a R)(h:Gr S c m e a R s l)(i:Fz Y m b)(q:∀f∈Y,f∈S)(r:s.F∉Y)(p:∀f∈S',f∈S\/m.size<=f):Gr S' c b e a R s l:=by
 have t:=h.aZ;obtain⟨j,d,k,n⟩:=h;refine⟨j,d,k.congr (i.same _ t.2 r),n.mono λcs x=>o.le (i.bz (λf g=>ah _ (q f g)) λf g=>?_)⟩;rcases List.mem_cons.1 g with g|g
 ·exact Or.inl (by rw[g];exact aS)
 ·exact(p f g).imp (ah _) id
def Gr.ext{α:Type}{R:I->List Ce->α->Prop}{l:List α}(d:mD a R)(h:Gr S c m e a R s l)(f:J m b):Gr S c b e a R s l:=
 h.fw d (f.fz []) E
def Gr.done{α:Type}{R:I->List Ce->α->Prop}{l:List α}(i:mD a R)(h:Gr S c m e a R s l)(j:∀b∈S,b<c.size)(o:0<a)(n:l.length<=9223372036854775807):dT (bz S m) a (R (bz S m)) s l:=by
 obtain⟨_,d,f,g⟩:=h;exact dT.Oe j f (g.mono λcs x=>i.le (gL m λb k=>ah _ k)) o n
def J.Mk(h:k<=m.size):J (m.extract 0 k) m:=by
 refine⟨bF,λb a=>?_⟩;have c:b<k:=by simp at a;omega
 rw[Array.getElem?_extract];simp;omega
def kL(h:k<=m.size):(m.extract 0 k).size=k:=bF
def Gr.next{α:Type}{R:I->List Ce->α->Prop}{D E:List α}(F:mD f.length R)(W:0<f.length)
 (z:Gr S c m e f.length R s D)(G:Fz X c m)(v:x.len=d.length)(T:fU m x.F x.off d.flatten)(o:fX f.length (R (bz (s.F::S) m)) d E)(i:(D.length+E.length)*h<=140737488355328)
 (P:∀r b,Gr S c b e f.length R r (D++E)->Fz X c b->(m.size<=b.size/\(r.F=s.F\/m.size<=r.F))->(∀a,a<m.size->a≠s.F->b[a]? =m[a]?)->K r b):iP m e f h s x K:=by
 have Q:=z.len W
 have hy:=z.aZ
 obtain⟨A,y,O,j⟩:=z
 have t:c.size<=m.size:=G.size
 refine iZ.append (f:=m.extract 0 c.size) (zs:=f) (c:=d.flatten) (l:=y.flatten) (O.cF (by rw[kL t];exact ad _)) (J.Mk t) ?_ T (by rw[Q,v,o.len];exact i) λr b Y k2 k3 Z k5 C=>?_
 ·rw[cX o.size,v]
 have B:∀a,a<m.size->a≠s.F->b[a]? =m[a]? :=λa i k=>k5 a i λ_=>k
 have U:r≠.nil:=by
  rcases C with⟨g,_⟩|⟨_,_,g⟩|g
  ·exact absurd g A
  ·exact g
  ·intro e;rw[e]at g;simp at g;omega
 have L:m.size<=b.size:=Z
 have H:Le (bz (s.F::S) m) (bz (r.F::S) b):=nH λa i k=>by
  simp only[aT,tD]at k;refine⟨?_,B a i k.1⟩;simp only[aT,tD];refine⟨?_,k.2⟩;rcases C with⟨g,_⟩|⟨_,g,_⟩|g
  ·exact absurd g A
  ·rw[g];exact k.1
  ·omega
 refine P r b ⟨U,y++d,?_,?_⟩ ⟨bI t L,λa i v=>?_⟩ ⟨L,?_⟩ B
 ·rw[vR]
  exact Y.cF (by rw[kL t];exact ad _)
 ·refine⟨by simp[j.len,o.len],λn p=>?_,λM n N u w=>?_⟩
  ·rcases List.mem_append.1 p with p|p
   ·exact j.size n p
   ·exact o.size n p
  ·rcases aX M y.length with q|q
   ·rw[aw q]at u
    rw[aw (j.len▸q)]at w
    exact F.le H (j.dh M n N u w)
   ·rw[aF q]at u
    rw[aF (by rw[<-j.len];exact q),<-j.len]at w
    exact F.le H (o.dh _ n N u w)
 ·rw[B a (aK i t) V];exact G.same a i v
 ·rcases C with⟨g,_⟩|⟨_,g,_⟩|g
  ·exact absurd g A
  ·exact Or.inl g
  ·exact Or.inr V
def Gr.jN{α:Type}{R:I->List Ce->α->Prop}{k:List α}{j:α}(g:mD f.length R)(y:0<f.length)
 (p:Gr S c m e f.length R s k)(v:Fz X c m)(o:R (bz (s.F::S) m) cs j)(i:(k.length+1)*h<=140737488355328)
 (w:∀r b,Gr S c b e f.length R r (k++[j])->Fz X c b->(m.size<=b.size/\(r.F=s.F\/m.size<=r.F))->(∀a,a<m.size->a≠s.F->b[a]? =m[a]?)->K r b):iP (m.push (.cells (br cs) e)) e f h s (.mk m.size 0 1 1) K:=by
 have d:=J.push m (.cells (br cs) e)
 refine Gr.next (d:=[cs]) (E:=[j]) g y (p.ext g d) (v.then d) rfl ?_ ?_ i λr b q t n u=>w r b q t ⟨bI d.size n.1,n.2.imp id (bI d.size)⟩ λa i x=>(u a (aK i d.size) x).trans (d.same a i)
 ·have:=(cD.push m (e:=e) (l:=cs)).jA
  simpa using this
 ·have:=fX.xH (fX.nil f.length (R (bz (s.F::S) (m.push (.cells (br cs) e))))) (g.len o) (g.le (d.cK _) o)
  simpa using this
def dT.Tc{α:Type}{R:List Ce->α->Prop}{e:List α}(B:∀cs x,R cs x->cs.length=a)(u:dT m a R s e):
 ∃d,s.len=d.length/\fU m s.F s.off d.flatten/\fX a R d e:=by
 obtain⟨f,n⟩:=u.choose
 have z:∀(b:Nat)(cs:List Ce),((List.range e.length).map f)[b]? =some cs->b<e.length/\cs=f b:=λb cs c=>by
  simp only[bW,iK]at c;obtain⟨H,q,D⟩:=c;obtain⟨v,w⟩:=List.getElem?_eq_some_iff.1 q;simp at v w;subst w;exact⟨v,D.symm⟩
 have o:∀cs∈(List.range e.length).map f,cs.length=a:=λcs G=>by
  obtain⟨b,c⟩:=List.mem_iff_getElem?.1 G;obtain⟨q,rfl⟩:=z b cs c;obtain⟨x,h⟩:=ag q;exact B _ _ (n b x h).1
 refine⟨(List.range e.length).map f,by simp[u.len],λi C t=>?_,E,o,λb cs x c h=>?_⟩
 ·rcases jm a with p|p
  ·have g:=ax t
   rw[cX o,p]at g;simp at g
  have g:=ax t
  rw[cX o]at g
  simp at g
  have c:i/a<e.length:=Nat.div_lt_of_lt_mul (by rw[Nat.mul_comm];exact g)
  obtain⟨x,h⟩:=ag c
  have A:i=i/a*a+i%a:=by rw[Nat.mul_comm];exact(Nat.div_add_mod i a).symm
  have K:=Nat.mod_lt i p
  have J:(f (i/a)).length=a:=B _ _ (n _ x h).1
  obtain⟨I,y⟩:=ag (l:=f (i/a)) (k:=i%a) V
  have r:=gZ (d:=(List.range e.length).map f) o (c:=i/a) (b:=f (i/a)) (by simp[c]) y
  rw[<-A,t]at r
  simp at r;subst r
  have F:=(n _ x h).2 _ C y
  rw[A,<-dE];exact F
 ·obtain⟨_,rfl⟩:=z b cs c
  exact(n b x h).1
def Gr.all{α:Type}{R:I->List Ce->α->Prop}{l i:List α}(j:mD f.length R)(v:0<f.length)
 (g:Gr S c m e f.length R s l)(t:Fz X c m)(p:dT (bz (s.F::S) m) f.length (R (bz (s.F::S) m)) x i)(q:(l.length+i.length)*h<=140737488355328)
 (u:∀r b,Gr S c b e f.length R r (l++i)->Fz X c b->(m.size<=b.size/\(r.F=s.F\/m.size<=r.F))->(∀a,a<m.size->a≠s.F->b[a]? =m[a]?)->K r b):iP m e f h s x K:=by
 obtain⟨d,k,n,o⟩:=p.Tc λ_ _ g=>j.len g
 exact Gr.next j v g t k ((bo _ _).jA n) o q u
def Gr.lit{α:Type}{R:I->List Ce->α->Prop}{l:List α}(i:mD a R)(h:c.size<=m.size)(p:∀f∈S,f<c.size)(j:cs=d.flatten)(k:n=d.length)(g:fX a (R (bz S m)) d l):
 Gr S c (m.push (.cells (br cs) e)) e a R (.mk m.size 0 n n) l:=by
 subst j k
 refine⟨E,d,(iZ.new (J.aC m) e a d.flatten d.length (cX g.size)).cF h,g.mono λo x=>i.le ?_⟩
 exact(J.push m _).bz λf b=>by
  rcases List.mem_cons.1 b with b|b
  ·exact Or.inr (by simp[b])
  ·exact Or.inl b
def Gr.mg{α:Type}{R:I->List Ce->α->Prop}{l:List α}(j:mD a R)(h:Gr S c m e a R s l)(n:s.F∉S)(q:0<a)(p:l.length<=9223372036854775807):dT (bz S m) a (R (bz S m)) s l:=by
 obtain⟨_,d,b,f⟩:=h;have H:=dT.iC b (f.mono λcs x=>j.le (gL m λi g=>ah s.F g)) q p;exact⟨H.len,H.cap,H.gA,λk x o=>let⟨cs,g,i⟩:=H.jA k x o;⟨cs,g,HI n i⟩⟩
def Gr.ne{α:Type}{R:I->List Ce->α->Prop}{q:List α}(k:Gr S c m e a R s q)(h:cD m g i o)(p:i≠e):s.F≠g:=by
 obtain⟨l,d,n,x⟩:=k;obtain⟨r,t,tail,j,u,b,v,w⟩:=n.u.resolve_left l;intro f;rw[j]at f;simp only[O.jb]at f;subst f;unfold cD at h b;rw[h]at b;simp at b;exact p b.2
def Gr.IH{α β:Type}{r:I}{b t:Nat}{R:I->List Ce->α->Prop}{g:I->List Ce->β->Prop}{f:O}{p:List α}{q:List β}(j:Gr S c m e a R s p)(k:Gr S' r m b t g f q)(o:b≠e):s.F≠f.F:=by
 obtain⟨l,d,n,z⟩:=k;obtain⟨u,v,tail,h,w,i,x,y⟩:=n.u.resolve_left l;have:=j.ne i o;rw[h];exact this
def Gr.box{α:Type}{L:List Nat}{j:Nat}{R:I->List Ce->α->Prop}{v:List α}{y:α}{K:I->Prop}(B:mD f.length R)(hz:0<f.length)
 (p:Gr S c m e f.length R s v)(C:Fz X c m)(U:R (bz (s.F::S) m) cs y)(k:(v.length+1)*h<=140737488355328)
 (q:cD m g i o)(hi:j<o.length)(G:i≠e)(u:c.size<=g/\g∈S)(A:∀a∈L,a<m.size/\a≠g/\a≠s.F)
 (W:∀r b,Gr S c b e f.length R r (v++[y])->cD b g i (iD o j [.s r])->Fz X c b->m.size<=b.size->(∀a,a<m.size->a≠s.F->a≠g->b[a]? =m[a]?)->K b):
 D (m.push (.cells (br cs) e)) g j=D m g j/\
 iP (m.push (.cells (br cs) e)) e f h s (.mk m.size 0 1 1) λr b=>dV L (m.push (.cells (br cs) e)) b/\fu b g j 1/\(dV L b (aj b g j [.s r])/\K (aj b g j [.s r])):=by
 have E:=q.lt
 have Y:=p.ne q G
 have H:=J.push m (.cells (br cs) e)
 have hy:=p.aZ
 refine⟨aJ (H.same g E) j,Gr.jN B hz p C U k λr b z M aa w=>?_⟩
 have t:cD b g i o:=q.congr (w g E (km Y))
 have Z:=z.ne t G
 have n:∀a,a≠g->(aj b g j [.s r])[a]? =b[a]? :=λa k=>bn _ _ _ _ k
 have ac:=C.size
 have ab:=u.1
 refine⟨λa k=>?_,t.fu V,λa k=>n a (A a k).2.1,W r _ ?_ (cD.aj (m:=b) t) (M.aj (Or.inr u.1) _ _) (by rw[az];exact aa.1) λa l Q T=>(n a T).trans (w a l Q)⟩
 ·have l:=A a k
  rw[w a l.1 l.2.2,H.same a l.1]
 ·obtain⟨N,d,O,P⟩:=z
  refine⟨N,d,O.congr (n _ Z),P.mono λcs x=>B.le ?_⟩
  exact nH λa k F=>⟨F,n a λe=>F (by rw[e];exact ah _ u.2)⟩
def au.lit(e:Nat)(l:List Int)(a:∀b∈S,b<m.size)(b:cs=l.map Ce.i)(d:n=l.length)(c:l.length<=9223372036854775807):au (bz S (m.push (.cells (br cs) e))) (.mk m.size 0 n n) l:=by
 subst b d;have h:=iZ.new (J.aC m) e 1 (l.map Ce.i) l.length E;exact au.Oe a h c
end Go.Vc
end
section
namespace Go.Vc
variable{x y:Operand}{k:SV->Prop}{l q:List Ce}{f:Int->Prop}{r:List Sh}{a:Int}{h:Array (Nat×Operand)}{g:Nat}{e:List Oper}{Q:Exit->Fr->I->Prop}{c:Code}
section
variable{P:Program}{T:TT}{G:List Nat}{n:Nat}{A:Mh}{m u:I}{p w:Fr}{b o j i t:Nat}{s:Sh}{d:Option Nat}{v:Value}
def nc(n:Nat):Int:=n
def XU{n:Nat}:nc n=n:=rfl
def SE:Qj T p .len [t] [x] k=match fm T t,ev p x with
 |some ⟨.slice _,_,_⟩,.c (.s s)=>k (.c (.i (nc s.len)))
 |_,_=>False:=rfl
def SF{l:List Nat}:Qj T p .max l [x,y] k=match ev p x,ev p y with
 | .c (.i a),.c (.i b)=>k (.c (.i (if b>a then b else a)))
 |_,_=>False:=rfl
def SG{l:List Nat}:Qj T p .min l [x,y] k=match ev p x,ev p y with
 | .c (.i a),.c (.i b)=>k (.c (.i (if b<a then b else a)))
 |_,_=>False:=rfl
def O6(m:I)(k:I->Prop):LF m k=(let u:=m;k u):=rfl
def pa{α:Type}(x:α)(f:α->Prop):Prop:=f x
def PX(s:Sh)(f:s.ty->Prop):Prop:=∃x,f x
def Rx(s:Sh)(f:s.ty->Prop):Prop:=∀x,f x
def XG:PX .I f=∃x,pa x f:=rfl
def XJ{k:IntKind}:PX (.U k) f=∃x,pa x f:=rfl
def XD{f:Bool->Prop}:PX .T f=∃x,pa x f:=rfl
def Vf{f:O->Prop}:PX .S f=∃x,pa x f:=rfl
def XI{f:Nat×Nat->Prop}:PX .P f=∃x,pa x f:=rfl
def XE{f:Fn×Array Value×Array Value->Prop}:PX .F f=∃x,pa x f:=rfl
def XH{f:Nat->Prop}:PX .M f=∃x,pa x f:=rfl
def Xx:Rx .I f=∀x,f x:=rfl
def XA{k:IntKind}:Rx (.U k) f=∀x,f x:=rfl
def Xv{f:Bool->Prop}:Rx .T f=∀x,f x:=rfl
def US{f:O->Prop}:Rx .S f=∀x,f x:=rfl
def Xz{f:Nat×Nat->Prop}:Rx .P f=∀x,f x:=rfl
def Xw{f:Fn×Array Value×Array Value->Prop}:Rx .F f=∀x,f x:=rfl
def Xy{f:Nat->Prop}:Rx .M f=∀x,f x:=rfl
def XC{x:Int}:jF (.int .u8 x)=some (.u .u8 x):=rfl
def z0:lS q 0=[]:=rfl
def z1:lS q (n+1)=q++lS q n:=rfl
def tb{a b:Nat}:Nat.testBit a b=(1&&&(a>>>b)!=0):=rfl
def Sy{e:Edge}{a:List Edge}:j7 (e::a)=bif Region.binds .any e then 2^e.on|||j7 a else j7 a:=rfl
def b1:Region.binds .any ⟨i,.data⟩=true:=rfl
def b2:Region.binds .any ⟨i,.chain⟩=true:=rfl
def b3:Region.binds .any ⟨i,.guard⟩=true:=rfl
def b4:Region.binds .any ⟨i,.phase⟩=true:=rfl
def b5{x:Departure}:Region.binds .any ⟨i,.gcOnly x⟩=false:=rfl
def b6{x:Departure}:Region.binds .any ⟨i,.textOnly x⟩=false:=rfl
def OX(c:Ce)(k:List Ce->Prop)(l:List Ce):Prop:=k (c::l)
def RS(k:SV->Prop)(l:List Ce):Prop:=k (.agg l)
def WW(m:I)(b o j:Nat)(s:Sh)(r:List Sh)(k:List Ce->Prop)(x:s.ty):Prop:=
 D m b (bif j==0 then o else o+j)=some (s.mk x).v/\SX m b o (j+1) r (OX (s.mk x) k)
def U8{k:List Ce->Prop}:SX m b o j (s::r) k=PX s (WW m b o j s r k):=by
 cases j<;>rfl
def WV(m:I)(b o:Nat)(s:Sh)(k:SV->Prop)(x:s.ty):Prop:=D m b o=some (s.mk x).v/\k (.c (s.mk x))
def Qx{t:Nat}:MS T m t b o k=match fm T t with
 |some ⟨.struct _,a,_⟩=>SX m b o 0 a (RS k)
 |some ⟨.cell,[s],_⟩=>PX s (WV m b o s k)
 |some ⟨.slice _,[_],_⟩=>∃x:O,D m b o=some x.v/\k (.c (.s x))
 |_=>False:=rfl
def XN{b:Int}:Int.le a b=(a<=b):=rfl
def WU(s:O)(z:Nat)(l:Int)(k:SV->Prop)(h:Int):Prop:=Int.le 0 l/\Int.le l h/\Int.le h (nc s.cap)/\k (.c (.s (s.cut l.toNat h.toNat z)))
def WY(p:Fr)(a:Option Operand)(s:O)(z:Nat)(k:SV->Prop)(l:Int):Prop:=JY p a (nc s.len) (WU s z l k)
def U6{f:Nat}{mk:Nat->SV}:CX T t f o mk k=match fm T t with
 |some ⟨.struct c,_,_⟩=>match ER c f with
  |some (a,u)=>match fm T u with
   |some b=>bif b.sJ||Nat.beq b.sh.length 0 then False else bif a==0 then k (mk o)else k (mk (o+a))
   |none=>False
  |none=>False
 |_=>False:=by
 have h:∀a,(bif a==0 then k (mk o)else k (mk (o+a)))=k (mk (o+a)):=λa=>by cases a<;>rfl
 simp only[h];rfl
def SD{s:O}{n:Int}:T9 T t s n k=match fm T t with
 |some ⟨.slice e,_,_⟩=>match fm T e with
  |some a=>bif a.sJ then False else Int.le 0 n/\n<nc s.len/\k (.c (.p s.F (s.off+n.toNat*a.sh.length)))
  |none=>False
 |_=>False:=rfl
def OP{s:O}{b a:Option Operand}:Oq T p t s b a k=match fm T t with
 |some ⟨.slice e,_,_⟩=>match fm T e with
  |some c=>bif c.sJ then False else JY p b 0 (WY p a s c.sh.length k)
  |none=>False
 |_=>False:=rfl
def OM:rd T p m k (.build t h)=match fm T t with
 |some ⟨.struct a,b,_⟩=>bif th T a then CR T p a (b.map Sh.zero) h.toList (RS k)else False
 |_=>False:=rfl
def W7(s:Sh)(r:List Sh)(k:List Ce->Prop)(x:s.ty):Prop:=Rm r (OX (s.mk x) k)
def SA{k:List Ce->Prop}:Rm (s::r) k=PX s (W7 s r k):=rfl
def Vl(a:AV)(k:List AV->Prop)(l:List AV):Prop:=k (a::l)
def Xb(T:TT)(r:List Nat)(k:List AV->Prop)(l:List Ce):Prop:=PA T r (Vl (.agg l) k)
def Xa(T:TT)(s:Sh)(r:List Nat)(k:List AV->Prop)(x:s.ty):Prop:=PA T r (Vl (.c (s.mk x)) k)
def SC{r:List Nat}{k:List AV->Prop}:PA T (t::r) k=match fm T t with
 |some ⟨.struct _,a,_⟩=>Rm a (Xb T r k)
 |some ⟨.cell,[s],_⟩=>PX s (Xa T s r k)
 |some ⟨.slice _,[_],_⟩=>∃x:O,PA T r (Vl (.c (.s x)) k)
 |_=>False:=rfl
def W3(v:Value)(k:SV->Prop)(l:List AV):Prop:=v=.tuple (l.map AV.v).toArray/\k (.Ui l)
def W0(v:Value)(k:SV->Prop)(l:List Ce):Prop:=v=.agg (l.map Ce.v).toArray/\k (.agg l)
def WZ(v:Value)(s:Sh)(k:SV->Prop)(x:s.ty):Prop:=v=(s.mk x).v/\k (.c (s.mk x))
def SL:MZ T t v k=match fm T t with
 |some ⟨.tuple [],_,_⟩=>k .ib
 |some ⟨.tuple a,_,_⟩=>PA T a (W3 v k)
 |some ⟨.struct _,a,_⟩=>Rm a (W0 v k)
 |some ⟨.cell,[s],_⟩=>PX s (WZ v s k)
 |some ⟨.slice _,[_],_⟩=>∃x:O,v=x.v/\k (.c (.s x))
 |_=>False:=rfl
def RT(k:Fr->SV->I->Prop)(p:Fr)(m:I)(x:SV):Prop:=k p x m
def XO(G:List Nat)(g:Nat):Prop:=G.elem g=true
def Vj{G:List Nat}{g:Nat}:XO G g=(G.elem g=true):=rfl
def nz(b:Int):Prop:=b≠0
def XV{b:Int}:nz b=(b≠0):=rfl
def SI{b:Int}:pN .quo a b k=(nz b/\k (.c (.i (cO (a.tdiv b))))):=rfl
def SK{b:Int}:pN .rem a b k=(nz b/\k (.c (.i (a.tmod b)))):=rfl
def Qu{f:Operand}{a:List Operand}{k:Fr->SV->I->Prop}:Qm P T G n p m g f a k=match QB p (a.map (ev p))with
 |none=>False
 |some w=>match ev p f with
  | .c (.fn (.func b) first c)=>bif G.elem b&&a.all (λx=>(ev p x).iL)then
   aN P b (first.toList++(a.map λx=>(ev p x).v)++c.toList) m λv u=>xD (JH n w []) m u (MZ T g v (RT k w u))
   else False
  | .c (.fv q)=>bif a.all (λx=>(ev p x).iL)then
   ∃b,q.1=.func b/\XO G b/\aN P b (q.2.1.toList++(a.map λx=>(ev p x).v)++q.2.2.toList) m λv u=>xD (JH n w []) m u (MZ T g v (RT k w u))
   else False
  |_=>False:=rfl
def p3(m:I)(k:Fr->SV->I->Prop)(p:Fr)(x:SV):Prop:=k p x m
def p2(m:I)(k:SV->I->Prop)(x:SV):Prop:=k x m
def Qz{k:Fr->SV->I->Prop}:PJ n p none m t l k=LF (m.push (.cells (br l) t)) λu=>p3 u k p (.c (.p m.size 0)):=rfl
def QA{j:Nat}{k:Fr->SV->I->Prop}:PJ n p (some j) m t l k=match fS p (n+j)with
 | .wZ _ _ _=>False
 |_=>LF (m.push (.cells (br l) t)) λu=>p3 u k ((n+j,.box m.size t l)::p) (.c (.bp (n+j) m.size 0)):=rfl
def Vb{x:SV}{k:Fr->SV->I->Prop}:LZ n p m x l k=match x with
 | .c (.p b o)=>fu m b o l.length/\LF (aj m b o l) λu=>xD (JH n p []) m u (k p .un u)
 | .c (.bp q b o)=>match fS p q with
  | .box a e c=>bif Nat.ble (o+l.length) c.length then Ly a b (LF (aj m b o l) λu=>p3 u k ((q,.box a e (iD c o l))::p) .un)else False
  | .wZ _ _ _=>False
  |_=>fu m b o l.length/\LF (aj m b o l) λu=>xD (JH n p []) m u (k p .un u)
 |_=>False:=rfl
def Va{k:Fr->SV->I->Prop}:wr P T G n p m d g k (.makeSlice t x y)=match fm T t,ev p x,ev p y with
 |some ⟨.slice e,_,_⟩,.c (.i l),.c (.i c)=>match fm T e with
  |some a=>bif a.sJ then False else Int.le 0 l/\Int.le l c/\Int.le (nc a.bytes*c) 281474976710656/\Int.le c 9223372036854775807/\
   LF (m.push (.cells (br (lS (a.sh.map Sh.zero) c.toNat)) e)) λu=>p3 u k p (.c (.s (.mk m.size 0 l.toNat c.toNat)))
  |none=>False
 |_,_,_=>False:=rfl
def U9{k:Fr->SV->I->Prop}:wr P T G n p m d g k (.makeMap t none)=LF (m.push (.map #[] 0)) λu=>p3 u k p (.c (.mp m.size)):=rfl
def Sz{z:Nat}{s x:O}{k:SV->I->Prop}:TV m z s x k=∃a:List Ce,a.length=Nat.min x.len s.len*z/\fU m x.F x.off a/\fu m s.F s.off a.length/\
 LF (aj m s.F s.off a) λu=>p2 u k (.c (.i (nc (Nat.min x.len s.len)))):=rfl
def WR(p:Fr)(m:I)(e a:Nat)(k:Fr->SV->I->Prop)(l:List Ce):Prop:=match CV p l with
 |some w=>LF (m.push (.cells (br l) e)) λu=>p3 u k w (.c (.s (.mk m.size 0 a a)))
 |none=>False
def U1{a:Nat}{k:Fr->SV->I->Prop}:wr P T G n p m d g k (.buildSlice t a h)=match fm T t with
 |some ⟨.slice e,_,_⟩=>match fm T e with
  |some b=>bif b.sJ||!(Nat.ble (a*b.sh.length) 16777216)then False else
   uP T p b.sh.length (lS (b.sh.map Sh.zero) a) h.toList (WR p m e a k)
  |none=>False
 |_=>False:=rfl
def WT(n:Nat)(p:Fr)(m:I)(k:Fr->SV->I->Prop)(x:SV)(u:I):Prop:=xD (JH n p []) m u (k p x u)
def Qv{u:Nat}{b:List Nat}{k:Fr->SV->I->Prop}:wr P T G n p m d g k (.call ⟨.builtin .copy,⟨[x,y]⟩,⟨u::b⟩⟩)=match fm T u,ev p x,ev p y with
 |some ⟨.slice e,_,_⟩,.c (.s s),.c (.s z)=>match fm T e with
  |some a=>bif a.sJ then False else TV m a.sh.length s z (WT n p m k)
  |none=>False
 |_,_,_=>False:=rfl
def kw(P:Program)(T:TT)(G:List Nat)(n:Nat)(e:List Oper)(d:Option Nat)(jJ:List Oper)(k:Fr->I->Prop)(p:Fr)(x:SV)(m:I):Prop:=qj P T G n e jJ (rY p d x) m k
def kr(P:Program)(T:TT)(G:List Nat)(n:Nat)(e:List Oper)(d:Option Nat)(jJ:List Oper)(k:Fr->I->Prop)(p:Fr)(m:I)(x:SV):Prop:=qj P T G n e jJ (rY p d x) m k
def ky(P:Program)(T:TT)(G:List Nat)(n:Nat)(e:List Oper)(o:Oper)(jJ:List Oper)(k:Fr->I->Prop)(m:I)(p:Fr):Prop:=
 bif IC o.op then wr P T G n p m o.dst o.type (kw P T G n e o.dst jJ k) o.op else rd T p m (kr P T G n e o.dst jJ k p m) o.op
def kn(P:Program)(T:TT)(G:List Nat)(n:Nat)(e:List Oper)(d:Option Nat)(jJ:List Oper)(k:Fr->I->Prop)(m:I)(p:Fr):Prop:=qj P T G n e jJ (rY p d .un) m k
def SH{o:Oper}{jJ:List Oper}{k:Fr->I->Prop}:qj P T G n e (o::jJ) p m k=
 bif p7 n o.dst then gd e p o.guard (ky P T G n e o jJ k m) (kn P T G n e o.dst jJ k m)else False:=rfl
abbrev LL:=List (Nat×List (Nat×Nat))
def WD(P:Program)(T:TT)(G:List Nat)(n:Nat)(e:List Oper)(c a:List Nat)(b done:Nat)(o:Oper)(i:Nat)(m:I)(L:LL)(k:Fr->I->Prop)(p:Fr)(x:SV):Prop:=
 mR P T G n e c a b (done|||2^i) (rY p o.dst x) m ((i,PZ T p o.op)::L) k
def WH(P:Program)(T:TT)(G:List Nat)(n:Nat)(e:List Oper)(c a:List Nat)(b done:Nat)(o:Oper)(i:Nat)(m:I)(L:LL)(k:Fr->I->Prop)(p:Fr):Prop:=
 rd T p m (WD P T G n e c a b done o i m L k p) o.op
def V9(P:Program)(T:TT)(G:List Nat)(n:Nat)(e:List Oper)(c a:List Nat)(b done:Nat)(o:Oper)(i:Nat)(m:I)(L:LL)(k:Fr->I->Prop)(p:Fr):Prop:=
 mR P T G n e c a b (done|||2^i) (rY p o.dst .un) m L k
def WE(P:Program)(T:TT)(G:List Nat)(n:Nat)(e:List Oper)(c a:List Nat)(b done:Nat)(o:Oper)(i:Nat)(m:I)(L:LL)(k:Fr->I->Prop)(p:Fr)(x:SV)(u:I):Prop:=
 AT (rZ a i) m u L (mR P T G n e c a b (done|||2^i) (rY p o.dst x) u L k)
def WI(P:Program)(T:TT)(G:List Nat)(n:Nat)(e:List Oper)(c a:List Nat)(b done:Nat)(o:Oper)(i:Nat)(m:I)(L:LL)(k:Fr->I->Prop)(p:Fr):Prop:=
 wr P T G n p m o.dst o.type (WE P T G n e c a b done o i m L k) o.op
def WG(P:Program)(T:TT)(G:List Nat)(n:Nat)(e:List Oper)(c a:List Nat)(b done:Nat)(m:I)(L:LL)(k:Fr->I->Prop)(p:Fr)(i:Nat):Prop:=match ER e i with
 |some o=>bif p7 n o.dst then gd e p o.guard (WI P T G n e c a b done o i m L k) (V9 P T G n e c a b done o i m L k)else False
 |none=>False
def Qw{a b:List Nat}{c done:Nat}{L:LL}{k:Fr->I->Prop}:mR P T G n e a b (c+1) done p m L k=match uK done 0 e a with
 |some i=>match ER e i with
  |some o=>bif p7 n o.dst then gd e p o.guard (WH P T G n e a b c done o i m L k) (V9 P T G n e a b c done o i m L k)else False
  |none=>False
 |none=>match nP done 0 e a with
  |[]=>k p m
  |d=>Lj d (WG P T G n e a b c done m L k p):=rfl
def Qs{f:Nat->Prop}:Lj [i] f=f i:=rfl
def Qt{r:List Nat}{f:Nat->Prop}:Lj (i::j::r) f=(f i/\Lj (j::r) f):=rfl
def kq(Q:Exit->Fr->I->Prop)(p:Fr)(m:I):Prop:=Q .normal p m
def SJ{e:Array Oper}{a:Bool}:vc P T G n A (.region i e a) p m Q=
 bif a then mR P T G n e.toList (Sb e.toList) (Qk [] e.toList) e.toList.length 0 p m [] (kq Q)
 else qj P T G n e.toList e.toList p m (kq Q):=rfl
def WO(t:Nat)(s:Sh)(r:List (Nat×Sh))(a:s.ty->Ez r)(p:Fr)(k:Fr->(I->Prop)->Prop)(x:s.ty):Prop:=Mx r (a x) ((t,.c (s.mk x))::p) k
def Sw{r:List (Nat×Sh)}{a:s.ty->Ez r}{k:Fr->(I->Prop)->Prop}:Mx ((t,s)::r) a p k=Rx s (WO t s r a p k):=rfl
def WQ(t:Nat)(s:Sh)(r:List (Nat×Sh))(a:s.ty->Ez r)(μ:s.ty->Lf r)(p:Fr)(k:Fr->(I->Prop)->(I->Nat)->Prop)(x:s.ty):Prop:=My r (a x) (μ x) ((t,.c (s.mk x))::p) k
def Sx{r:List (Nat×Sh)}{a:s.ty->Ez r}{μ:s.ty->Lf r}{k:Fr->(I->Prop)->(I->Nat)->Prop}:My ((t,s)::r) a μ p k=Rx s (WQ t s r a μ p k):=rfl
def ks(P:Program)(T:TT)(G:List Nat)(n:Nat)(A:Mh)(b:Code)(Q:Exit->Fr->I->Prop):Exit->Fr->I->Prop
 | .normal,w,u=>vc P T G n A b w u Q
 |e,w,u=>Q e w u
def kc(A:Mh)(b:Code)(p:Fr)(l:List (Nat×Sh))(K:Ez l)(Q:Exit->Fr->I->Prop):Exit->Fr->I->Prop
 | .normal,w,u=>Rl p w (ju A b) (ED l K w u)
 |e,w,u=>Q e w u
def ki(P:Program)(T:TT)(G:List Nat)(n:Nat)(A:Mh)(b:Code)(Q:Exit->Fr->I->Prop)(w:Fr)(a:I->Prop):Prop:=∀u,a u->vc P T G n A b w u Q
def SN{a b:Code}:vc P T G n A (.seq a b) p m Q=match SY A.RK b with
 |none=>vc P T G n A a p m (ks P T G n A b Q)
 |some l=>bif nV (mL a) l then∃K:Ez l,vc P T G n A a p m (kc A b p l K Q)/\
  Mx l K (lY (mL a) (sF n (ju A b) p)) (ki P T G n A b Q)else False:=by
 unfold ks kc ki;rfl
def kb(i:Nat)(Q:Exit->Fr->I->Prop):Exit->Fr->I->Prop
 | .exit j,w,u=>bif Nat.beq j i then Q .normal w u else Q (.exit j) w u
 |e,w,u=>Q e w u
def OL:vc P T G n A (.block i c) p m Q=vc P T G n A c p m (kb i Q):=by
 unfold kb;rfl
def ke(A:Mh)(c:Code)(p:Fr)(l:List (Nat×Sh))(d:Ez l)(μ:Lf l)(N:Nat)(Q:Exit->Fr->I->Prop):Exit->Fr->I->Prop
 | .normal,a,b=>Rl p a (ju A c) (Ll l d μ a b N)
 |e,a,b=>Q e a b
def kl(P:Program)(T:TT)(G:List Nat)(n:Nat)(A:Mh)(c:Code)(p:Fr)(l:List (Nat×Sh))(a:Ez l)(μ:Lf l)(Q:Exit->Fr->I->Prop)(w:Fr)(b:I->Prop)(μ':I->Nat):Prop:=
 ∀u,b u->vc P T G n A c w u (ke A c p l a μ (μ' u) Q)
def Qy:vc P T G n A (.loop c) p m Q=match SY A.QL c with
 |none=>False
 |some l=>bif nV (mL c) l then∃(I:Ez l)(μ:Lf l),ED l I p m/\
  My l I μ (lY (mL c) (sF n (ju A c) p)) (kl P T G n A c p l I μ Q)else False:=by
 unfold kl ke;rfl
def kR(m:I)(R:Value->I->Prop)(l:List SV):Prop:=match l with
 |[x]=>R x.v m
 |l=>R (.tuple (l.map SV.v).toArray) m
def kx(x:SV)(k:List SV->Prop)(l:List SV):Prop:=k (x::l)
def kz(T:TT)(p:Fr)(m:I)(r:List ResultVar)(k:List SV->Prop)(x:SV):Prop:=bif x.iL then Dr T p m r (kx x k)else False
def ON{r:List ResultVar}{k:List SV->Prop}:Dr T p m (.tmp t::r) k=bif (fS p t).iL then Dr T p m r (kx (fS p t) k)else False:=rfl
def OO{a:Nat}{r:List ResultVar}{k:List SV->Prop}:Dr T p m (.cell a t::r) k=rd T p m (kz T p m r k) (.load t (.tmp a)):=rfl
def kf(T:TT)(a:List ResultVar)(R:Value->I->Prop):Exit->Fr->I->Prop
 | .normal,p,m=>Dr T p m a (kR m R)
 | .ret,p,m=>Dr T p m a (kR m R)
 |_,_,_=>False
def U7{b:List ResultVar}{a:List SV}{R:Value->I->Prop}:PT P T G A n b c a m R=vc P T G n A c (sE 0 a) m (kf T b R):=by
 unfold kf kR;rfl
end
def Tg(_:Prop):Type:=Prop
def Tg.p{q:Prop}(t:Tg q):Prop:=t
def Tg.lf(q:Prop):Tg q:=q
def Tg.pm{a b:Prop}{h:Tg a=Tg b}:Tg.p (Eq.mpr h (Tg.lf b))=b:=rfl
def XY:List.range 1=[0]:=rfl
def XZ:List.range 2=[0,1]:=rfl
def X0:List.range 3=[0,1,2]:=rfl
def Ya:List.range 4=[0,1,2,3]:=rfl
def Yb:List.range 5=[0,1,2,3,4]:=rfl
def Yc:List.range 6=[0,1,2,3,4,5]:=rfl
def Yd:List.range 7=[0,1,2,3,4,5,6]:=rfl
def Tg.Yt{a b c:Prop}{h:Tg a=Tg b}{d:Tg b=Tg c}:Tg.p (Eq.mpr h (Eq.mpr d (Tg.lf c)))=c:=rfl
def Wi(_ _:Prop):Type:=Unit
def XQ{a X:Prop}(_:Wi a X)(t:Tg a)(_:t.p=X):True:=trivial
end Go.Vc
end
