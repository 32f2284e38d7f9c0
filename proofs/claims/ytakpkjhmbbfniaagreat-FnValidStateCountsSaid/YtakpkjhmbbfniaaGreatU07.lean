/- Part of a proof, joined by a program. -/
import Derived.Test.YtakpkjhmbbfniaaGreatU06
set_option linter.unusedVariables false
set_option linter.unusedSimpArgs false
set_option linter.defProp false
set_option linter.constructorNameAsVariable false
set_option maxHeartbeats 8000000
set_option maxRecDepth 100000
namespace Go.Proofs.YtakpkjhmbbfniaaGreat
open Go.Vc
section
variable{m:I}{s aY:O}{l:List Int}{a:List bO}
def dT.RJ{α:Type}{c:Nat}{R:List Ce->α->Prop}{l:List α}(h:dT m c R s l){k:Nat}(n:k<=l.length):dT m c R (s.cut 0 k c) (l.take k):=by
 have b:=h.len;have e:=h.cap;have g:=h.gA;cases s with
 |nil=>
  simp at b;have:k=0:=V;subst this;exact⟨by simp[O.cut],by simp[O.cut],by simp[O.cut],E⟩
 |Bi d o a=>
  simp at b;have:k=0:=V;subst this;exact⟨by simp[O.cut],by simp[O.cut],by simp[O.cut],E⟩
 |mk d o p i=>
  simp only[O.fZ,O.Ln]at b e g;refine⟨by simp[O.cut];omega,by simp[O.cut];omega,by simp[O.cut];omega,λj x a=>?_⟩;have f:j<k:=by have:=ax a;simp at this;omega
  rw[lZ,aq f]at a;have:=h.jA j x a;simpa[O.cut]using this
def nI(aY:O)(t:Int)(m:I):dq bY 78 [O.v aY,vi t] m (wU aY.len t):=by
 apply De;refine⟨λh=>fB ?_ (J.aC _),λh=>bX ?_ (J.aC _)⟩<;>simp at h
 ·simp[wU,h]
 ·unfold wU;omega
def tL{i:O}(b:au m i l)(aY:O):dq bY 77 [O.v aY,O.v i] m (CG aY.len l):=by
 apply zw;have j:=b.len;refine eg (n:=l.length) (j▸b.gA) (λd a=>J m a/\∀t∈l.take d,wU aY.len t) ⟨J.aC _,E⟩ ?_;rintro d s I μ r ⟨a,g⟩ p
 refine dit (λh=>?_) λh=>?_
 ·obtain⟨x,c⟩:=ag (l:=l) (k:=d) V;refine⟨V,V,x,by simpa using a.D (b.u c),?_⟩;refine(nI _ _ _).then λq t f e=>⟨_,rfl,λh=>?_,λh=>?_⟩
  ·exact bX (λo=>nb f h (o x (ar c))) (a.trans e)
  ·exact p V _ ⟨a.trans e,bA c g (yb f h)⟩
 ·exact je (cJ V g) a
def xt(a:Int)(m:I)(d:a≠7/\a≠8):dq bY 46 [vi a] m (kK a):=by
 apply tP;refine⟨λh=>⟨λc=>je ?_ (J.aC _),λc=>⟨λb=>je ?_ (J.aC _),λb=>fB ?_ (J.aC _)⟩⟩,λh=>⟨λb=>je ?_ (J.aC _),λb=>fB ?_ (J.aC _)⟩⟩<;>simp[kK]at* <;>omega
def tO(e:bR m aY a)(x:a.length<=4)(r:∀d∈a,d.cons.length<=3):JI bY 79 [O.v aY] m (vi (eD a).length):=by
 apply zA;simp -zeta only[aE,aD];have v:=e.len;refine dt (n:=a.length) V (λj g b=>J m b/\g=(fc a j:Nat)/\fc a j<=3*j) ⟨J.aC _,by cases a<;>rfl,by cases a<;>simp[fc]⟩ ?_;rintro j g y I μ w ⟨c,rfl,u⟩ s
 refine dit (λq=>?_) λq=>?_
 ·obtain⟨d,b⟩:=ag (l:=a) (k:=j) V;obtain⟨h,f,i,o,p⟩:=(bR.ext c e).u b;refine⟨V,V,_,i,_,o,h,p,?_⟩;intro z A;have t:=r d (ar b);refine s V _ _ ⟨(c.aM _).aj c.size _ _,?_,?_⟩
  ·rw[aP V (by have:=f.len;omega),qv b,f.len];rfl
  ·rw[qv b];omega
 ·refine⟨?_,c⟩;rw[mF a j V]
def OJ(h:dx a):∀d∈a,d.cons.length<=3:=λd b=>by
 obtain⟨k,c⟩:=List.mem_iff_getElem?.1 b;exact jY h c
def OS:∀(a:List bO)(k:Nat),(eD (a.take k)).length=fc a k
 |[],k=>by simp[eD,NU]
 |d::a,0=>by simp[eD,fc]
 |d::a,k+1=>by
  have:=OS a k;simp only[Kg,eD,kU,bg,fc]at this⊢;omega
def IA(b:bR m aY a)(e:dx a)(t:Int):aN bY 80 [O.v aY,vi t] m λP c=>∃s,P=O.v s/\au c s (bU a t)/\J m c:=by
 apply Dc;have Z:=b.len;have Y:=b.cap;have o:∀(h:¬(1<=t/\t<=a.length)),au m .nil (bU a t):=λh=>by
  unfold bU;rw[ae h];exact⟨rfl,ad _,E,E⟩
 have:=e.len;refine dit (λh=>?_) λh=>?_
 ·exact⟨_,rfl,o V,J.aC _⟩
 refine dit (λB=>?_) λB=>?_
 ·exact⟨_,rfl,o V,J.aC _⟩
 have w:cO (t -1)=((t.toNat -1:Nat):Int):=by rw[aP V V];omega
 rw[w];obtain⟨d,f⟩:=ag (l:=a) (k:=t.toNat -1) V;have x:bU a t=(List.range d.cons.length).map λi=>((fc a (t.toNat -1)+i:Nat):Int):=by
  unfold bU;rw[aq V,f];rfl
 rw[x];have W:=qW e (t.toNat -1);have X:=jY e f;refine⟨V,V,V,?_⟩;have H:bR m (aY.cut 0 (t.toNat -1) 3) (a.take (t.toNat -1)):=dT.RJ b V;have g:=tO H bF (λd b=>OJ e d (cw b));rw[OS]at g;refine g.then λL u=>⟨_,rfl,?_⟩;obtain⟨z,I,R,S,A⟩:=(bR.ext u b).u f;have aa:=I.len;refine⟨V,V,z,by simpa using A,?_⟩;refine dt (n:=d.cons.length) V (λj s c=>J m c/\iZ m c aB 1 s (((List.range j).map λi=>((fc a (t.toNat -1)+i:Nat):Int)).map Ce.i)/\s.len=j) ⟨u,by simpa using iZ.nil m L aB 1,rfl⟩ ?_;rintro j s M Q μ hj ⟨r,p,q⟩ N
 refine dit (λC=>?_) λC=>?_
 ·intro v;have y:cO (((fc a (t.toNat -1):Nat):Int)+(j:Int))=((fc a (t.toNat -1)+j:Nat):Int):=by rw[aP V V];omega
  have K:v=M.push (.cells (br [.i (((fc a (t.toNat -1)+j:Nat):Int))]) aB):=by rw[<-y]
  clear_value v;subst K;refine iZ.append (zs:=[.i 0]) (c:=[.i ((fc a (t.toNat -1)+j:Nat):Int)]) (p.ext (J.push _ _)) (r.aM _) rfl (cD.push _ _ _).jA (by simp[q];omega) ?_;intro ab c D F G T U _;refine N V _ _ ⟨F,?_,by simp[G,q]⟩
  rw[PW,eQ,eQ];exact D
 ·have:j=d.cons.length:=V;subst this;exact⟨_,rfl,au.iC p bF,r⟩
def MK{i j:Nat}{d:bO}{f:List Int}(h:a[i]? =some d)(b:d.cons[j]? =some f):bT a ((fc a i+j:Nat):Int)=f:=by
 unfold bT;rw[aq V,rS,pv a i j d h (ax b),b];rfl
def JR(t:bR m aY a)(u:dx a)(c:Int)(hc: -1000000<=c/\c<=1000000):aN bY 114 [O.v aY,vi c] m λZ f=>∃Y s,Z=.tuple #[vi Y,.agg #[O.v s]]/\au f s (bT a c)/\J m f:=by
 apply EJ;simp -zeta only[aE,aD];intro g;have W:J m g:=(J.aC m).aM _;have ah:m.size<g.size:=by simp[g]
 clear_value g;have ac:=t.len;have:=u.len;refine dt (n:=a.length) V (λj z f=>J m f/\g.size<=f.size/\z=c -(fc a j:Nat)/\¬(0<=c/\c<fc a j)) ⟨W,ad _,by cases a<;>simp[fc],by cases a<;>simp[fc]⟩ ?_;rintro j z w I μ hj ⟨d,U,rfl,af⟩ X
 refine dit (λP=>?_) λP=>?_
 ·obtain⟨A,b⟩:=ag (l:=a) (k:=j) V;obtain⟨h,D,K,L,B⟩:=(bR.ext d t).u b;have ae:=D.len;have ab:=qW u j;have h6:=jY u b;refine⟨V,V,_,K,_,L,h,B,?_⟩;intro m3 x;have e:J w x:=((J.aC w).aM _).aj (ad _) _ _;have F:¬(0<=c -(fc a j:Nat)/\c -(fc a j:Nat)<A.cons.length)->I (cO (c -(fc a j:Nat) -(h.len:Int))) (cO ((j:Int)+1)) x/\μ (cO (c -(fc a j:Nat) -(h.len:Int))) (cO ((j:Int)+1)) x<μ (c -(fc a j:Nat)) j w:=by
   intro hq;refine X V _ _ ⟨d.trans e,bI U e.size,?_,?_⟩
   ·rw[aP V V,qv b];omega
   ·rw[qv b];omega
  refine⟨λi=>⟨λr=>?_,λr=>F ?_⟩,λi=>F ?_⟩
  ·simp only[ao]at i r;obtain⟨aa,v⟩:=ag (l:=A.cons) (k:=(c -(fc a j:Nat)).toNat) V;obtain⟨q,hg,C⟩:=(ns.ext e D).u v;refine⟨V,V,q,C,?_⟩;intro y;have o:J m y:=(d.trans e).aj (ad _) _ _;refine⟨_,q,rfl,?_,o⟩;have p:bT a c=aa:=by
    have:=MK b v;rw[<-this];congr 1;omega
   rw[p];obtain⟨G,Q,_,_,M⟩:=t.u b;have R:h=G:=by
    have:=d.D M;rw[B]at this;exact O.GD.1 (by simpa using this)
   subst R;obtain⟨H,S,N⟩:=Q.u v;have T:q=H:=by
    have:=(d.trans e).D N;rw[C]at this;exact O.GD.1 (by simpa using this)
   subst T;exact S.ext o
  ·simp at i r;omega
  ·simp at i;omega
 ·intro y;have o:J m y:=d.aj (ad _) _ _;refine⟨_,.nil,rfl,?_,o⟩;have p:bT a c=[]:=by
   unfold bT;split
   ·rw[bZ (by rw[<-mF a j V];omega)];rfl
   ·rfl
  rw[p];exact⟨rfl,ad _,E,E⟩
def EK(g:bR m aY a)(i:dx a)(c:Int)(f: -1000000<=c/\c<=1000000):aN bY 81 [O.v aY,vi c] m λv d=>∃s,v=O.v s/\au d s (bT a c)/\J m d:=by
 apply zB;simp -zeta only[aE,aD];refine(JR g i c f).mono ?_;rintro _ e ⟨t,s,rfl,h,j⟩;refine⟨t,s,rfl,?_⟩;intro l k;have b:J e k:=((J.aC e).aM _).aj (ad _) _ _;exact⟨s,rfl,h.ext b,j.trans b⟩
def tX(i:au m s l)(g:Nat)(f e:Array Value)(u:GL.elem g=true)(q:Int->Prop)
 (t:∀x∈l,∀b,J m b->dq bY g (f.toList++[vi x]++e.toList) b (q x)):
 aN bY 54 [O.v s,.func (.func g) f e] m λA b=>∃r:Int,A=vi r/\J m b/\
  ((r= -1/\∀x∈l,¬q x)\/∃(a:Nat)(x:Int),r=a/\l[a]? =some x/\q x/\∀y∈l.take a,¬q y):=by
 apply oN s (.func g,f,e)
 have v:=i.len
 refine eg (n:=l.length) (v▸i.gA) (λa b=>J m b/\∀y∈l.take a,¬q y) ⟨J.aC _,E⟩ ?_
 rintro a w I μ C ⟨c,j⟩ z
 refine dit (λh=>?_) λh=>?_
 ·obtain⟨x,d⟩:=ag (l:=l) (k:=a) V
  refine⟨V,V,x,by simpa using c.D (i.u d),g,rfl,u,?_⟩
  refine(t x (ar d) w c).then λB D p o=>⟨_,rfl,λh=>?_,λh=>?_⟩
  ·exact⟨_,rfl,c.trans o,Or.inr ⟨a,x,rfl,d,p.1 h,j⟩⟩
  ·exact z V _ ⟨c.trans o,bA d j (fb p h)⟩
 ·exact⟨_,rfl,c,Or.inl ⟨rfl,cJ V j⟩⟩
def lI(i:au m s l)(g:Nat)(b a:Array Value)(f:GL.elem g=true)(q:Int->Prop)
 (e:∀x∈l,∀c,J m c->dq bY g (b.toList++[vi x]++a.toList) c (q x)):
 dq bY 23 [O.v s,.func (.func g) b a] m (∃x∈l,q x):=by
 apply nm s (.func g,b,a)
 refine(tX i g b a f q e).mono ?_
 rintro _ p ⟨r,rfl,j,h⟩
 refine⟨_,rfl,fB ?_ j⟩
 simp only[wS,ao]
 rcases h with⟨rfl,h⟩|⟨o,x,rfl,c,d,n⟩
 ·exact⟨λk=>V,λ⟨x,c,d⟩=>absurd d (h x c)⟩
 ·exact⟨λ_=>⟨x,ar c,d⟩,λ_=>V⟩
end
section
variable{s aY e k d r:O}{c:List bO}{b:I}{S:List Nat}{Q:List Int->Prop}{v:List Int}{x:cg}
structure _root_.Go.Vc.fF where
 params:List Int
 cV:List Int
 aR:Int
 body:Bk
def gK(m:I)(a:List Ce)(r:fF):Prop:=∃p l s,a=[.s p,.s l,.i r.aR,.s s,.i r.body.aR]/\au m p r.params/\au m l r.cV/\dL m s r.body.aA
abbrev wV(m:I)(s:O)(l:List fF):Prop:=dT m 5 (gK m) s l
structure dI(m:I)(d r:O)(c:List bO)(rs:List fF):Prop where
 aY:bR m d c
 gQ:wV m r rs
 types:dx c
 mG:rs.length<=4
def gK.le{m b:I}(h:Le m b){a:List Ce}{x:fF}:gK m a x->gK b a x:=λ⟨p,l,s,c,d,e,f⟩=>⟨p,l,s,c,d.le h,e.le h,f.le h⟩
def gK.mono:mD 5 gK:=⟨λh=>gK.le h,λh=>by obtain⟨_,_,_,rfl,_⟩:=h;rfl⟩
def wV.le{m b:I}(a:Le m b){s:O}{l:List fF}(h:wV m s l):wV b s l:=dT.le h a λ_ _=>gK.le a
def wV.u{m:I}{l:List fF}(h:wV m s l){k:Nat}{x:fF}(f:l[k]? =some x):
 ∃p t b,au m p x.params/\au m t x.cV/\dL m b x.body.aA/\D m s.F (s.off+k*5)=some (O.v p)/\D m s.F (s.off+k*5+1)=some (O.v t)/\D m s.F (s.off+k*5+2)=some (vi x.aR)/\D m s.F (s.off+k*5+3)=some (O.v b)/\D m s.F (s.off+k*5+4)=some (vi x.body.aR):=by
 obtain⟨g,⟨p,t,b,rfl,c,d,e⟩,a⟩:=h.jA k x f
 exact⟨p,t,b,c,d,e,a 0 _ rfl,a 1 _ rfl,a 2 _ rfl,a 3 _ rfl,a 4 _ rfl⟩
def dI.le{m b:I}{d r:O}{c:List bO}{e:List fF}(h:dI m d r c e)(a:Le m b):dI b d r c e:=⟨h.aY.le a,h.gQ.le a,h.types,h.mG⟩
def xy(m:I):Le m (bz [] m):=λb o v h=>dN.2 ⟨E,h⟩
def CY(h:dx c)(a:Int):(bT c a).length<=3:=by
 unfold bT;split
 ·rcases aX a.toNat (eD c).length with b|b
  ·obtain⟨i,d,e,j,m⟩:=ta c a.toNat b;have f:=pv c i (a.toNat -fc c i) d e V;rw[show fc c i+(a.toNat -fc c i)=a.toNat by omega]at f;obtain⟨x,g⟩:=ag (l:=d.cons) (k:=a.toNat -fc c i) V;rw[f,g];exact(((h.dh i d e).gR V).2.2.2 x (ar g)).1
  ·rw[bZ b];simp
 ·simp
def UW(h:dx c)(t:Int):(bU c t).length<=3:=by
 unfold bU;split
 ·cases a:c[t.toNat -1]? with
  |none=>simp
  |some d=>simpa using jY h a
 ·simp
def NJ(h:dx c)(a bJ:Int)(k:Nat):y9 c a bJ k<=3:=by
 unfold y9;split
 ·exact CY h _
 ·omega
abbrev CJ(f:Nat)(a:List Value)(m:I):Prop:=qM f a m λ_=>True
def mV(f:Nat)(a:List Value)(m:I):Prop:=aN bY f a m λv b=>∃c:Bool,v=.bool c/\J m b
def rN{m:I}{n:Int}(h:J m b):∃k:Int,vi n=vi k/\True/\J m b:=⟨n,rfl,trivial,h⟩
def rA{m:I}{a:Bool}(h:J m b):∃k:Bool,vb a=.bool k/\J m b:=⟨a,rfl,h⟩
def _root_.Go.Vc.dq.any{f:Nat}{a:List Value}{m:I}{p:Prop}(h:dq bY f a m p):mV f a m:=h.mono λ_ _⟨b,e,_,x⟩=>⟨b,e,x⟩
section
variable{f:Nat}{g:List Value}{a m:I}{K:Value->I->Prop}{l:List Nat}
def CJ.aG(i:CJ f g m)(e:J a m)(o:∀c∈l,c<a.size)(k:∀(n:Int) b,J m b->J a b->K (vi n) b):aN bY f g m λv b=>dV l m b/\K v b:=
 i.mono λ_ b⟨n,h,_,d⟩=>⟨d.de λc j=>e.lt (o c j),h▸k n b d (e.trans d)⟩
def mV.aG(i:mV f g m)(e:J a m)(n:∀c∈l,c<a.size)(k:∀(c:Bool) b,J m b->J a b->K (vb c) b):aN bY f g m λv b=>dV l m b/\K v b:=
 i.mono λ_ b⟨o,h,d⟩=>⟨d.de λc j=>e.lt (n c j),h▸k o b d (e.trans d)⟩
def qM.aG{Q:Int->Prop}(i:qM f g m Q)(e:J a m)(o:∀c∈l,c<a.size)(k:∀(n:Int) b,Q n->J m b->J a b->K (vi n) b):aN bY f g m λv b=>dV l m b/\K v b:=
 i.mono λ_ b⟨n,h,q,d⟩=>⟨d.de λc j=>e.lt (o c j),h▸k n b q d (e.trans d)⟩
def CI.aG(j:CI f g m S Q)(h:J a m)(p:∀d∈l,d<a.size)(o:∀s c b,au (bz S b) s c->Q c->J m b->J a b->K (O.v s) b):aN bY f g m λv b=>dV l m b/\K v b:=
 j.mono λ_ b⟨s,c,i,k,q,e⟩=>⟨e.de λd n=>h.lt (p d n),i▸o s c b k q e (h.trans e)⟩
def jS.aG(j:jS f g m S Q)(h:J a m)(p:∀d∈l,d<a.size)(o:∀s c b,GI S m b s c->Q c->J m b->J a b->K (O.v s) b):aN bY f g m λv b=>dV l m b/\K v b:=
 j.mono λ_ b⟨s,c,i,k,q,e⟩=>⟨e.de λd n=>h.lt (p d n),i▸o s c b k q e (h.trans e)⟩
end
def _root_.Go.Vc.J.Sd{c m:I}(f:J c m){l:List Nat}(e:∀a∈l,a<c.size)(h:J m b):dV l m b:=h.de λa d=>f.lt (e a d)
def dm{m:I}(J:∀b∈S,b<m.size)(j:bR (bz S m) aY c)(e:dx c)(a:Int):CI 104 [O.v aY,vi a] m S (bT c a=·):=by
 apply pD;have p:bR m aY c:=j.le (bo _ _);have K:=j.len;have:=e.len;refine(kO p e a).mono ?_;rintro _ N ⟨Q,rfl,o,h⟩;refine⟨_,rfl,dit (λy=>?_) λy=>?_⟩
 ·refine⟨_,_,rfl,?_,rfl,h.aM _⟩;have f:bT c a=[]:=by
   rcases o with⟨i,d,z,_⟩|⟨_,b⟩
   ·omega
   ·unfold bT;split
    ·rw[bZ V];rfl
    ·rfl
  rw[f];exact⟨rfl,ad _,E,E⟩
 ·rcases o with⟨i,d,rfl,b,F,G⟩|⟨z,_⟩
  ·have M:=ax b;obtain⟨v,q,B,C,f⟩:=(j.le (h.cK S)).u b;have s:cO ((i:Int)+1 -1)=i:=by rw[aP V V];omega
   rw[s];have f:=(dN.1 f).2;refine⟨V,V,v,by simpa using f,?_⟩;refine(jr (bR.ext h p) e V).then λP g=>⟨_,rfl,g.dk (by simpa using f),?_⟩;have D:=qW e i;have H:=jY e b;have L:=q.len;obtain⟨x,r⟩:=ag (l:=d.cons) (k:=(a -fc c i).toNat) V;obtain⟨n,A,w⟩:=ns.u (dT.le q (g.cK S) (lB.le (g.cK S))) r;have t:cO (a -(fc c i:Int))=a -fc c i:=aP V V;rw[t];refine⟨V,V,n,(dN.1 w).2,n,_,rfl,?_,rfl,h.trans g⟩;have u:bT c a=x:=by
    unfold bT;rw[aq V];have:=pv c i (a -fc c i).toNat d b V;rw[show a.toNat=fc c i+(a -fc c i).toNat by omega,this,r];rfl
   rw[u];exact A
  ·omega
def fV{m:I}(v:∀q∈S,q<m.size)(i:bR m aY c)(a:dx c)(t:Int):CI 106 [O.v aY,vi t] m S (bU c t=·):=by
 apply sN;intro H;have R:=i.len;have:=a.len;have y:J m H:=(J.aC m).aM _;refine(aU _ _ _ _).then λq W w g=>⟨_,rfl,λh=>?_,λh=>?_⟩
 ·refine⟨_,_,rfl,?_,rfl,y.trans g⟩;have e:bU c t=[]:=by
   unfold bU;rw[ae (by have:=nb w h;omega)]
  rw[e];exact⟨rfl,ad _,E,E⟩
 ·have h:=yb w h;have z:cO (t -1)=((t.toNat -1:Nat):Int):=by rw[aP V V];omega
  rw[z];obtain⟨d,o⟩:=ag (l:=c) (k:=t.toNat -1) V;have A:bU c t=(List.range d.cons.length).map λp=>((fc c (t.toNat -1)+p:Nat):Int):=by
   unfold bU;rw[aq V,o];rfl
  rw[A];have P:=qW a (t.toNat -1);have Q:=jY a o;refine dt (n:=d.cons.length) V (λj s b=>J m b/\GI S m b s ((List.range j).map λp=>((fc c (t.toNat -1)+p:Nat):Int))) ⟨y.trans g,(GI.nil S m).ext g⟩ ?_;rintro j s X L μ U ⟨e,x⟩ K
  obtain⟨f,G,M,N,D⟩:=(bR.ext e i).u o;have T:=G.len;refine⟨V,V,f,by simpa using D,dit (λF=>?_) λF=>?_⟩
  ·refine(jr (bR.ext e i) a V).then λY u=>⟨_,rfl,?_⟩;have B:cO (((fc c (t.toNat -1):Nat):Int)+(j:Int))=((fc c (t.toNat -1)+j:Nat):Int):=by rw[aP V V];omega
   rw[B];intro Z;refine GI.jN (x.ext u) ((e.trans u).fz []) v bF λr b C f _ _=>K V _ _ ⟨f.ext,?_⟩
   rw[PW,eQ];exact C
  ·have:j=d.cons.length:=V;subst this;exact⟨_,_,rfl,x.done v bF,rfl,e⟩
def lJ{m:I}(i:bR m aY c)(q:dx c)(t:Int):dq bY 232 [O.v aY,vi t] m (∃d,1<=t/\c[t.toNat -1]? =some d/\d.cons.length=0):=by
 apply BW;have w:=i.len;have:=q.len;refine(aU _ _ _ _).then λr x g e=>⟨_,rfl,λh=>?_,λh=>?_⟩
 ·have h:=g.1 h;obtain⟨d,b⟩:=ag (l:=c) (k:=t.toNat -1) V;obtain⟨n,p,u,v,o⟩:=(bR.ext e i).u b;have j:cO (t -1)=((t.toNat -1:Nat):Int):=by rw[aP V V];omega
  rw[j];refine⟨V,V,n,o,fB ?_ e⟩;rw[p.len];simp only[aL];exact⟨λh=>⟨d,V,b,V⟩,λ⟨s,_,a,f⟩=>by rw[b]at a;simp at a;subst a;omega⟩
 ·refine bX (λ⟨d,a,f,_⟩=>fb g h ⟨a,?_⟩) e;have:=ax f;omega
def xK{m:I}(j:bR m aY c)(x:dx c)(u t:Int):
 qM 254 [O.v aY,vi u,vi t] m λk=>k= -1\/∃(p:Nat)(d:bO),k=p+1/\c[p]? =some d/\d.cons.length=0/\d.rV=u/\d.to=t:=by
 apply BH
 have B:=j.len
 have:=x.len
 refine eg (n:=c.length) V (λ_ b=>J m b) (J.aC _) ?_
 rintro k y A μ C a z
 refine⟨λh=>?_,λh=>⟨_,rfl,Or.inl rfl,a⟩⟩
 simp only[ao]at h
 obtain⟨d,o⟩:=ag (l:=c) (k:=k) V
 obtain⟨q,w,r,s,v⟩:=(bR.ext a j).u o
 have e:=z V y a
 refine⟨V,V,q,v,λf=>⟨V,V,_,r,λg=>⟨V,V,_,s,λi=>?_,λ_=>e⟩,λ_=>e⟩,λ_=>e⟩
 rw[w.len]at f
 simp only[aL]at f g i
 refine⟨_,rfl,Or.inr ⟨k,d,?_,o,V,g,i⟩,a⟩
 rw[aP V V]
def qH{m:I}{i q:O}{f t:List Int}(g:au m e v)(d:au m i f)(o:au m q t):mV 229 [O.v e,O.v i,O.v q] m:=by
 apply FQ;have E:=g.len;have s:=d.len;have F:=o.len;have G:=g.gA;refine⟨λ_=>rA (J.aC _),λh=>?_⟩;simp only[fE]at h;refine eg (n:=f.length) (s▸d.gA) (λ_ b=>J m b) (J.aC _) ?_;rintro k K C μ H a z
 refine⟨λh=>?_,λh=>rA a⟩;simp only[ao]at h;obtain⟨x,p⟩:=ag (l:=f) (k:=k) V;refine⟨V,V,x,(d.ext a).u p,?_⟩;have r:cO ((e.len:Int) -1)=(v.length:Int) -1:=by rw[aP V V];omega
 rw[r];refine(aU _ _ _ _).then λD L u c=>⟨_,rfl,λ_=>rA (a.trans c),λj=>?_⟩;have j:=yb u j;obtain⟨A,w⟩:=ag (l:=v) (k:=x.toNat) V;obtain⟨B,y⟩:=ag (l:=t) (k:=k) V;exact⟨V,V,x,(d.ext (a.trans c)).u p,V,V,A,(g.ext (a.trans c)).u w,V,V,B,(o.ext (a.trans c)).u y,λ_=>rA (a.trans c),λ_=>z V _ (a.trans c)⟩
def J6(a:Int)(m:I):mV 227 [vi a] m:=by
 apply DK;have r:∀b:Bool,∃k:Bool,vb b=.bool k/\J m m:=λb=>rA (J.aC m);exact⟨λ_=>r _,λ_=>⟨λ_=>r _,λ_=>⟨λ_=>r _,λ_=>⟨λ_=>r _,λ_=>r _⟩⟩⟩⟩
def np(x:cg)(a k:O):Value:=.agg #[vi x.op,vi x.bJ,vi x.bV,O.v a,O.v k]
def uw{m:I}{g:O}(c:au m e v)(x:cg):mV 228 [O.v e,.agg #[vi x.op,vi x.bJ,vi x.bV,O.v g,O.v k]] m:=by
 apply yP;simp -zeta only[aE,aD];intro a;have b:J m a:=J.push _ _;have n:∀f∈[m.size],f<a.size:=by simp[a]
 clear_value a;have p:=c.len;have q:=c.gA;refine⟨λ_=>rA b,λ_=>⟨λ_=>?_,λ_=>rA b⟩⟩;refine(aU _ _ _ _).aG (J.aC a) n λf r j _ d=>⟨_,rfl,λh=>?_,λ_=>rA (b.trans d)⟩;have h:=j.1 h;have i:cO (x.bV -1)=((x.bV.toNat -1:Nat):Int):=by rw[aP V V];omega
 rw[i];obtain⟨y,o⟩:=ag (l:=v) (k:=x.bV.toNat -1) V;exact⟨V,V,y,(c.ext (b.trans d)).u o,rA (b.trans d)⟩
def zR{m:I}{o:O}{E:List fF}(t:dI m d r c E)(j:au m e v)(i:au m o x.args):CJ 233 [.agg #[O.v d,O.v r],O.v e,np x o k] m:=by
 apply ue;simp -zeta only[aE,aD];intro w f;have b:J m f:=(J.push _ _).trans (J.push _ _);have s:∀g∈[w.size,m.size],g<f.size:=by simp[f,w];omega
 clear_value f;have F:=j.len;have G:=j.gA;have H:=i.len;refine⟨λ_=>rN b,λh=>?_⟩;simp only[fE]at h;obtain⟨y,u⟩:=ag (l:=x.args) (k:=0) V;refine⟨V,V,y,(i.ext b).u u,?_⟩;have B:cO ((e.len:Int) -1)=(v.length:Int) -1:=by rw[aP V V];omega
 rw[B];refine(aU _ _ _ _).aG (J.aC f) s λg K C _ n=>⟨_,rfl,λ_=>rN (b.trans n),λh=>?_⟩;have h:=yb C h;have a:=b.trans n;obtain⟨z,D⟩:=ag (l:=v) (k:=y.toNat) V;have p:=(i.ext a).u u;have q:=(j.ext a).u D;refine⟨V,V,y,p,V,V,z,q,λ_=>rN a,λ_=>⟨λ_=>⟨λ_=>⟨V,V,y,p,V,V,z,q,?_⟩,λ_=>rN a⟩,λ_=>rN a⟩⟩;exact(lJ ((t.le a.le).aY) t.types z).any.aG n s λg L M A=>⟨_,rfl,λ_=>rN (b.trans A),λ_=>rN (b.trans A)⟩
def Cj{m:I}{z:O}{w:List fF}(h:dI m d r c w)(Z:au m e v)(C:au m z x.args):CJ 231 [.agg #[O.v d,O.v r],O.v e,np x z k] m:=by
 apply vk;simp -zeta only[aE,aD];intro n i;have H:J m i:=(J.push _ _).trans (J.push _ _);have p:∀g∈[n.size,m.size],g<i.size:=by simp[i,n];omega
 clear_value i;have h1:=h.gQ.len;have h2:=h.mG;have h3:=C.len;have L:cO ((r.len:Int) -1)=(w.length:Int) -1:=by rw[aP V V];omega
 rw[L];refine(aU _ _ _ _).aG (J.aC i) p λg o X _ y=>⟨_,rfl,λ_=>rN (H.trans y),λA=>?_⟩;have A:=yb X A;have G:=H.trans y;obtain⟨u,Y⟩:=ag (l:=w) (k:=x.bJ.toNat) V;obtain⟨aa,ae,s,j,c2,c3,N,P,Q,R,S⟩:=(h.le G.le).gQ.u Y;refine⟨V,V,_,N,_,P,_,Q,_,R,_,S,?_⟩;intro m3 b;have K:J o b:=((J.aC o).aM _).aj (ad _) _ _;have q:∀g∈[o.size,n.size,m.size],g<b.size:=by
  have T:=p n.size E;have U:=p m.size E;have W:=y.size;have B:b.size=o.size+1:=by simp[b,m3,az]
  simp;omega
 clear_value b;have a:=G.trans K;have F:=Z.ext a;have D:=C.ext a;have t:=j.ext K;have T:=j.len;have U:=j.cap;have W:=j.gA;refine⟨λ_=>(qH F D t).aG (J.aC b) q λg m5 f _=>⟨_,rfl,λ_=>rN (a.trans f),λ_=>rN (a.trans f)⟩,λ_=>⟨λ_=>rN a,λB=>⟨λ_=>rN a,λ_=>?_⟩⟩⟩;simp only[an]at B;have M:cO ((aa.len:Int) -1)=((u.params.length -1:Nat):Int):=by rw[aP V V];omega
 rw[M];obtain⟨ab,hz⟩:=ag (l:=u.params) (k:=u.params.length -1) V;refine⟨V,V,V,(qH F D (dT.RJ t V)).aG (J.aC b) q λg m5 f _=>⟨_,rfl,λ_=>rN (a.trans f),λ_=>⟨V,V,ab,(t.ext f).u hz,?_⟩⟩⟩;exact(xK (h.le (a.trans f).le).aY h.types _ _).aG f q λac m6 _ x6 u6=>⟨_,rfl,rN (a.trans u6)⟩
def TF(c:List bO)(a:List fF)(b:Bk):Prop:=∀(m:I)(d r e t:O)(v:List Int),dI m d r c a->au m e v->dL m t b.aA->v.length+4*b.w<=1000000000000->CJ 193 [.agg #[O.v d,O.v r],O.v e,.agg #[O.v t,vi b.aR]] m
def Hh{m:I}{ab:O}{rs:List fF}(i:dI m d r c rs)(Y:au m e v)(z:mf m k x.bt)(hb:v.length+4*x.w<=1000000000000)(ih:∀p∈x.bt,TF c rs p):CJ 230 [.agg #[O.v d,O.v r],O.v e,np x ab k] m:=by
 apply Ac;simp -zeta only[aE,aD];intro m0 s;have o:J m s:=(J.push _ _).trans (J.push _ _);have q:∀p∈[m0.size,m.size],p<s.size:=by simp[s,m0];omega
 clear_value s;have ac:=z.len;have hw:=cg.kT x;refine(fV (S:=[]) E (i.le o.le).aY i.types x.bJ).aG (J.aC s) q λae cl L y t B _=>⟨_,rfl,?_⟩;subst t;have y:=y.le (bo _ _);have ah:=y.len;have h3:=UW i.types x.bJ;refine⟨λP aa=>aa=L/\0<=P/\(x.op=8->P=(bU c x.bJ).length),⟨λh=>?_,λh=>?_⟩,?_⟩
 ·simp only[aL]at h;exact⟨rfl,V,λh=>V⟩
 ·exact⟨rfl,V,λ_=>V⟩
 rintro P ai ⟨g,h4,h5⟩;have g:=g.symm;subst g;refine⟨λ_=>rN (o.trans B),λ_=>⟨λ_=>rN (o.trans B),λX=>?_⟩⟩;simp only[fE]at X;subst X;refine dt (n:=x.bt.length) (ac▸z.gA) (λ_ _ b=>J L b) (J.aC _) ?_;rintro j A M W μ hj C ad
 have Q:=B.trans C;have u:=o.trans Q;refine⟨λh=>?_,λ_=>rN u⟩;simp only[ao]at h;obtain⟨p,w⟩:=ag (l:=x.bt) (k:=j) V;have Z:=ih p (ar w);have af:=uE w;have tl:∀(a:Int)(f:I),J L f->((decide (a<(0:Int)))=true->∃k:Int,vi (-1)=vi k/\True/\J m f)/\((decide (a<(0:Int)))=false->((decide ((j:Int)>(0:Int)))=true->((a !=A)=true->∃k:Int,vi (-1)=vi k/\True/\J m f)/\((a !=A)=false->W a (cO ((j:Int)+1)) f/\μ a (cO ((j:Int)+1)) f<μ A j M))/\((decide ((j:Int)>(0:Int)))=false->W a (cO ((j:Int)+1)) f/\μ a (cO ((j:Int)+1)) f<μ A j M)):=λa f h=>by
  have g:=rN (n:=-1) ((o.trans B).trans h);have F:=ad V a f h
  exact⟨λ_=>g,λ_=>⟨λ_=>⟨λ_=>g,λ_=>F⟩,λ_=>F⟩⟩
 refine⟨λh=>?_,λh=>?_⟩
 ·simp only[aL]at h;have h7:=h5 h;obtain⟨U,hy⟩:=ag (l:=bU c x.bJ) (k:=j) V;refine⟨V,V,U,(y.ext C).u hy,?_⟩;refine(dm (S:=[]) E (i.le (u.le.trans (xy _))).aY i.types U).aG Q q λF fl f hf t x4 u4=>⟨_,rfl,?_⟩;subst t;have h8:=CY i.types U;refine(dK (S:=[]) E (Y.le ((o.trans u4).le.trans (xy _))) hf V).aG u4 q λg el m5 he t x5 R=>⟨_,rfl,?_⟩;subst t;obtain⟨D,K,G,H⟩:=(z.le (o.trans R).le).u w;refine⟨V,V,_,G,_,H,?_⟩;exact(Z m5 d r g D _ (i.le (o.trans R).le) ((he.done E bF).le (bo _ _)) K bF).aG R q λa N T _=>⟨_,rfl,tl a N (((C.trans x4).trans x5).trans T)⟩
 ·obtain⟨D,K,G,H⟩:=(z.le u.le).u w;refine⟨V,V,_,G,_,H,?_⟩;exact(Z M d r e D _ (i.le u.le) (Y.ext u) K V).aG Q q λa N T _=>⟨_,rfl,tl a N (C.trans T)⟩
def Nu{m a:I}(h:J m a)(l:List Int){n:Nat}(c:n=l.length)(b:l.length<=9223372036854775807):au (a.push (.cells (br (l.map Ce.i)) aB)) (.mk a.size 0 n n) l:=
 (au.lit (S:=[]) aB l E rfl c b).le (bo _ _)
def _root_.Go.Vc.dT.Ih{α:Type}{n:I}{b:Nat}{R:List Ce->α->Prop}{l:List α}(h:dT n b R s l){i j:Nat}(u:i<=j)(v:j<=l.length):dT n b R (s.cut i j b) ((l.take j).drop i):=by
 have a:=h.len;have m:=h.cap;have y:=h.gA;have g:(s.cut i j b).len=j -i/\(s.cut i j b).len<=(s.cut i j b).cap:=by
  cases s with
  |nil=>simp at a;simp[O.cut];omega
  |Bi d o t=>simp at a;simp[O.cut];omega
  |mk d o r f=>simp at a m;simp[O.cut];omega
 refine⟨by simp[g.1];omega,g.2,V,λk x c=>?_⟩;rw[pZ,lZ]at c;split at c
 ·rename_i w;obtain⟨p,q,e⟩:=h.jA _ x c;refine⟨p,q,?_⟩;cases s with
  |nil=>simp at a;omega
  |Bi d o t=>simp at a;omega
  |mk d o r f=>
   simp at a m;have:¬f=i:=V;simp only[O.cut,this,rU,O.jb,O.mN]at e⊢;rw[fD,<-dE]at e;exact e
 ·simp at c
def mu{t:I}{C:O}{rs:List fF}(D:dI t d r c rs)(hv:au t e v)(ha:au t C x.args)(hk:mf t k x.bt)(L:v.length+4*x.w<=1000000000000)(ih:∀m∈x.bt,TF c rs m):CJ 188 [.agg #[O.v d,O.v r],O.v e,np x C k] t:=by
 apply Av;simp -zeta only[aE,aD];intro F s;have R:J t s:=(J.push _ _).trans (J.push _ _);have o:∀m∈[F.size,t.size],m<s.size:=by simp[s,F];omega
 clear_value s;have h1:=ha.len;have h2:=ha.cap;have A:∀{p:I},J s p->au p e v:=λh=>hv.ext (R.trans h);have B:∀{p:I},J s p->au p C x.args:=λh=>ha.ext (R.trans h);have N:∀{p:I},J s p->dI p d r c rs:=λh=>D.le (R.trans h).le;have q:∀{p:I}{w:Int},J s p->∃k:Int,vi w=vi k/\True/\J t p:=λh=>rN (R.trans h);have U:∀{p:I}{w k:Int}{m:Bool},J s p->(m=true->∃k:Int,vi w=vi k/\True/\J t p)/\(m=false->∃a:Int,vi k=vi a/\True/\J t p):=λh=>⟨λ_=>q h,λ_=>q h⟩;refine⟨λZ=>J s Z,⟨λ_=>?_,λ_=>?_⟩,?_⟩
 ·exact(J6 x.op s).aG (J.aC s) o λm p f _=>⟨_,rfl,λ_=>q f,λ_=>(uw (A f) x).aG f o λm g n a=>⟨_,rfl,λ_=>q a,λ_=>⟨λ_=>⟨λ_=>⟨λ_=>q a,λ_=>a⟩,λ_=>a⟩,λ_=>a⟩⟩⟩
 ·exact(uw (A (J.aC _)) x).aG (J.aC s) o λm g a _=>⟨_,rfl,λ_=>q a,λ_=>⟨λ_=>⟨λ_=>⟨λ_=>q a,λ_=>a⟩,λ_=>a⟩,λ_=>a⟩⟩
 intro p f;have T:∀{g:I}{W:O}{al:List Int}(h:J s g),au g W al->mV 229 [O.v e,O.v C,O.v W] g:=λh ht=>qH (A h) (B h) ht;have Kt:∀{g:I}(h:J s g),aN bY 230 [.agg #[O.v d,O.v r],O.v e,.agg #[vi x.op,vi x.bJ,vi x.bV,O.v C,O.v k]] g λv b=>dV [F.size,t.size] g b/\∃w:Int,v=vi w/\∃k:Int,vi w=vi k/\True/\J t b:=λh=>
  (Hh (N h) (A h) (hk.le (R.trans h).le) L ih).aG h o λw Q u X=>⟨w,rfl,q X⟩
 refine⟨λ_=>⟨λ_=>(aU _ _ _ _).any.aG f o λm g n a=>⟨_,rfl,U a⟩,λ_=>q f⟩,λ_=>⟨λ_=>?_,λ_=>⟨λ_=>?_,λ_=>⟨λ_=>?_,λ_=>⟨λ_=>?_,λ_=>⟨λ_=>?_,λ_=>⟨λ_=>?_,λ_=>⟨λ_=>?_,λ_=>⟨λ_=>?_,λ_=>q f⟩⟩⟩⟩⟩⟩⟩⟩⟩
 ·intro g;exact(T (f.aM _) (Nu f [0,0] rfl E)).aG (f.aM _) o λm g n a=>⟨_,rfl,U a⟩
 ·intro g;exact(T (f.aM _) (Nu f [0] rfl E)).aG (f.aM _) o λm g n a=>⟨_,rfl,U a⟩
 ·refine(kO (N f).aY D.types x.bJ).mono λ_ g⟨W,z,_,n⟩=>?_;subst z;have a:=f.trans n;refine⟨f.Sd o n,_,rfl,λ_=>?_,λ_=>q a⟩;refine(dm (S:=[]) E ((N a).aY.le (xy _)) D.types x.bJ).aG a o λae K Q hf M u X=>⟨_,rfl,?_,?_⟩
  ·exact aJ (u.same F.size (a.lt (o _ E))) _
  refine(T X (hf.le (bo _ _))).aG X o λm G x5 y=>⟨_,rfl,λ_=>?_,λ_=>q y⟩;refine(kO (N y).aY D.types x.bJ).mono λ_ H⟨W,z,_,Y⟩=>?_;subst z;exact⟨y.Sd o Y,_,rfl,q (y.trans Y)⟩
 ·intro g;exact(T (f.aM _) (Nu f [0] rfl E)).aG (f.aM _) o λm g n a=>⟨_,rfl,λ_=>Kt a,λ_=>q a⟩
 ·intro g;exact(T (f.aM _) (Nu f [x.bJ] rfl E)).aG (f.aM _) o λm g n a=>⟨_,rfl,λ_=>Kt a,λ_=>q a⟩
 ·exact(Cj (N f) (A f) (B f)).aG f o λw g n a=>⟨_,rfl,q a⟩
 ·have h3:=hv.len;have h4:=hv.gA;refine⟨λm Z=>J s Z/\(m=true->x.args.length=2/\∃y z K,x.args[0]? =some y/\0<=y/\v[y.toNat]? =some z/\1<=z/\c[z.toNat -1]? =some K),⟨λh=>?_,λ_=>⟨f,λh=>by simp at h⟩⟩,?_⟩
  ·simp only[aL]at h;obtain⟨y,M⟩:=ag (l:=x.args) (k:=0) V;refine⟨V,V,y,(B f).u M,?_⟩;have e1:cO ((e.len:Int) -1)=(v.length:Int) -1:=by rw[aP V V];omega
   rw[e1];refine(aU _ _ _ _).aG (J.aC p) (λm L=>f.lt (o m L)) λm g aa _ n=>⟨_,rfl,λh=>?_,λh=>⟨f.trans n,λh=>by simp at h⟩⟩;have h:=aa.1 h;have a:=f.trans n;obtain⟨z,P⟩:=ag (l:=v) (k:=y.toNat) V;refine⟨V,V,y,(B a).u M,V,V,z,(A a).u P,?_⟩;refine(lJ (N a).aY D.types z).aG (J.aC g) (λm L=>a.lt (o m L)) λm Q ab _ u=>⟨_,rfl,a.trans u,λh=>?_⟩;obtain⟨K,h5,h6,_⟩:=ab.1 h;exact⟨V,y,z,K,M,V,P,h5,h6⟩
  ·rintro m g ⟨n,ai⟩;refine⟨λh=>?_,λ_=>q n⟩;obtain⟨h5,y,z,K,M,h6,P,h7,aa⟩:=ai h;obtain⟨ae,hf,g0,g1,g2⟩:=(N n).aY.u aa;have ao:=D.aY.len;have h8:=D.types.len;have h9:=ax aa;have am:=ax P;have e1:cO (z -1)=((z.toNat -1:Nat):Int):=by rw[aP V V];omega
   have ab:=(B n).u M;have ac:=(A n).u P;refine⟨V,V,y,ab,V,V,z,ac,?_⟩;rw[e1];refine⟨V,V,_,g0,_,g1,_,g2,?_⟩;intro Q;have u:J g Q:=J.push _ _;have af:F.size<g.size:=n.lt (o _ E);have ah:t.size<g.size:=n.lt (o _ E);refine⟨u.dk g0,u.dk g1,u.dk g2,u.dk ac,u.dk ab,aJ (u.same _ af) _,aJ (u.same _ ah) _,?_⟩;intro G;have x5:J g G:=u.aj (ad _) _ _;have an:G.size=g.size+1:=by simp[G,Q,az]
   clear_value G;refine⟨V,V,V,?_⟩;intro H;have Y:J g H:=x5.trans (J.push _ _);have u6:=n.trans Y;have ak:∀m∈[g.size,F.size,t.size],m<H.size:=by simp[H];omega
   refine⟨aJ ((J.push G _).same _ V) _,?_⟩;have aj:au H (C.cut 1 C.len 1) (x.args.drop 1):=by
    have:=(dT.Ih (B u6) (i:=1) (j:=x.args.length) V (ad _));rw[eT]at this;rw[h1];exact this
   exact(qH (A u6) aj (Nu x5 [K.rV] rfl E)).aG (J.aC H) ak λm m7 x7 _=>⟨_,rfl,U (u6.trans x7)⟩
 ·exact(zR (N f) (A f) (B f)).aG f o λw g n a=>⟨_,rfl,q a⟩
def _root_.Go.Vc.J.mO{c m:I}(h:J c m)(k:J c b){l:List Nat}(e:∀a∈l,a<c.size):dV l m b:=λa d=>by rw[k.same a (e a d),h.same a (e a d)]
def qV(x:cg)(b:Bool)(a:b=true<->0<=x.op/\x.op<=11):dn x=if b=true then 1 else 0:=by
 unfold dn;by_cases h:b=true
 ·rw[aq h];exact aq (a.1 h)
 ·rw[ae h];exact ae λc=>h (a.2 c)
def lQ{rs:List fF}:∀a:Bk,TF c rs a:=by
 refine Bk.ind ?_;intro aA aa ih H d r e ap v Y hv w o;simp only[Bk.iY,Bk.iu,Bk.oU]at*;apply xO;simp -zeta only[aE,aD];intro I f;have A:J H f:=(J.push _ _).trans (J.push _ _);have i:∀a∈[I.size,H.size],a<f.size:=by simp[f,I];omega
 clear_value f;have Z:=w.len;refine(kP (S:=[]) E (hv.le (A.le.trans (xy _))) V).aG (J.aC f) i λs0 _ m2 m N x2 _=>⟨_,rfl,?_⟩;subst N;have G:=yV aA;refine dt (n:=aA.length) (Z▸w.gA) (λk s b=>J f b/\∃j,GI [] f b s j/\j.length=v.length+dc (aA.take k)) ⟨x2,_,m,E⟩ ?_;rintro k s m3 ab μ hk ⟨B,j,p,hc⟩ L
 have t:=A.trans B;have ad:=qT (aA.take k);have ai:=oV k aA;have aj:=eY (aA.take k);have ah:=p.len bd;have u:=(p.done E (by have:=G k;omega)).le (bo _ _);refine⟨λh=>?_,λh=>?_⟩
 ·simp only[ao]at h;obtain⟨x,q⟩:=ag (l:=aA) (k:=k) V;obtain⟨ac,kk,U,X,m,P,Q,R,T⟩:=(w.le t.le).u q;have al:=nY q;have ak:=G (k+1);have af:=oX q;refine⟨V,V,_,m,_,P,_,Q,_,R,_,T,?_⟩;refine(mu (Y.le t.le) u U X V (ih x (ar q))).aG B i λam K g y=>⟨_,rfl,λ_=>rN (A.trans y),λ_=>⟨V,V,_,g.D m,?_⟩⟩;refine(iT _ _).aG (J.aC K) (λa o=>y.lt (i a o)) λa m5 W _ C=>⟨_,rfl,?_⟩;have F:=qV x a W;have z:=y.trans C;refine⟨λh=>?_,λh=>?_⟩
  ·rw[aq h]at F;intro m6;refine GI.jN ((p.ext g).ext C) (z.fz []) E V λr m7 O D M an=>⟨?_,L V _ _ ⟨D.ext,_,O,bF⟩⟩;exact J.mO (z.aM _) D.ext i
  ·rw[ae (by simp[h])]at F;exact L V _ _ ⟨z,j,(p.ext g).ext C,V⟩
 ·refine(aU _ _ _ _).aG (J.aC m3) (λa o=>B.lt (i a o)) λa K q _ g=>⟨_,rfl,λ_=>rN (t.trans g),λh=>?_⟩;have h:=yb q h;have z:=u.gA;rw[aP V V]at h;obtain⟨M,y⟩:=ag (l:=j) (k:=aa.toNat) V;exact⟨V,V,M,(u.ext g).u y,rN (t.trans g)⟩
end
section
variable{m:I}{d r a k:O}{c:List bO}{b:List fF}{x:cg}{i:Nat}
def _root_.Go.Vc.bS{S a:List Nat}{b o:Nat}{l:List Ce}(g:b∈S)(f:∀c∈a,c∈S):Le (bz S m) (bz a (aj m b o l)):=
 nH λc _ d=>⟨λh=>d (f c h),bn _ _ _ _ λe=>d (e▸g)⟩
def Wv(b:Bk):Prop:=∀(m:I)(t:O),dL m t b.aA->∀left:Int,-1<=left->left<=600->qM 236 [.agg #[O.v t,vi b.aR],vi left] m λk=>-1<=k/\k<=600
def FL:∀f:Bk,Wv f:=by
 refine Bk.ind ?_;intro aA aa G m ab p left h0 h600;simp only[Bk.iY,Bk.iu]at*;apply yJ;simp -zeta only[aE,aD];intro d;have w:J m d:=J.push _ _;have C:∀f∈[m.size],f<d.size:=by simp[d]
 clear_value d;have F:=p.len;have q:∀{c:I}{b:Int},J d c->-1<=b/\b<=600->∃k:Int,vi b=vi k/\(-1<=k/\k<=600)/\J m c:=λh j=>⟨_,rfl,j,w.trans h⟩;refine dt (n:=aA.length) (F▸p.gA) (λ_ b c=>J d c/\-1<=b/\b<=600) ⟨J.aC _,h0,h600⟩ ?_;rintro k b K S μ hk ⟨g,j⟩ N
 refine⟨λh=>⟨λ_=>q g V,λA=>?_⟩,λ_=>q g j⟩;simp only[ao]at h;simp only[bN]at A;obtain⟨x,u⟩:=ag (l:=aA) (k:=k) V;obtain⟨a,v,Z,i,U,W,X,Y,s⟩:=(p.le (w.trans g).le).u u;have B:=i.len;rw[aP (x:=b -1) V V];refine dt (n:=x.bt.length) (B▸i.gA) (λ_ b c=>J K c/\-1<=b/\b<=600) ⟨J.aC _,V,V⟩ ?_;rintro H O L T μ2 hj ⟨e,o⟩ M;refine⟨V,V,v,e.D s,λh=>?_,λ_=>N V _ _ ⟨g.trans e,o⟩⟩;simp only[ao]at h;obtain⟨f,t⟩:=ag (l:=x.bt) (k:=H) V;obtain⟨P,E,y,z⟩:=(i.le e.le).u t;refine⟨V,V,v,e.D s,V,V,_,y,_,z,?_⟩;exact(G x (ar u) f (ar t) L P E O o.1 o.2).aG (g.trans e) C λr m4 D R Q=>⟨_,rfl,λ_=>q Q V,λh=>M V _ _ ⟨e.trans R,D⟩⟩
def Ju{t:O}{b:Bk}(f:dL m t b.aA):CJ 192 [.agg #[O.v t,vi b.aR]] m:=by
 apply Cn;simp -zeta only[aE,aD];intro a;have c:J m a:=J.push _ _;have e:∀b∈[m.size],b<a.size:=by simp[a]
 clear_value a;exact(FL b a t (f.le c.le) 600 V V).aG (J.aC a) e λn g _ _ d=>⟨_,rfl,λ_=>rN (c.trans d),λ_=>rN (c.trans d)⟩
def Xf(r:fF):cY:=⟨r.params,[],r.aR,0,[]⟩
def mU.mono:mD 5 mU:=⟨λh⟨a,b,c⟩=>⟨a,b,c.le h⟩,λ⟨a,b,_⟩=>by rw[b];rfl⟩
def Kc(u:dI m d r c b):aN bY 235 [.agg #[O.v d,O.v r]] m λaa g=>∃w,aa=.agg #[O.v d,O.v w]/\dT g 5 (mU g) w (b.map Xf)/\J m g:=by
 apply DX;simp -zeta only[aE,aD];intro j e f H q;have ae:=u.gQ.len;have hf:=u.mG;have x2:J m e:=(J.push _ _).trans (J.push _ _);have Z:j.size=m.size+1:=by simp[j]
 have s2:e.size=m.size+2:=by simp[e,Z]
 have s3:f.size=m.size+3:=by simp[f,s2]
 have D:J f q:=(J.push f _).aj (ad _) _ _;have P:Gr [f.size,j.size] e q eF 5 mU (.mk e.size 0 0 0) []:=(Gr.new _ (ad _) _ _ _).ext mU.mono D;have G:cD q f.size jE [.s d,.s (.mk e.size 0 0 0)]:=cD.aj (m:=H) (o:=0) (r:=[.s d,.s (.mk e.size 0 0 0)]) (cD.push f _ _);have ab:J e q:=(J.push e _).trans D;clear_value q;have R:∀p∈[j.size,m.size],p<e.size/\p∉([]:List Nat):=bF;refine eg (n:=b.length) V (λk g=>J e g/\∃s,Gr [f.size,j.size] e g eF 5 mU s ((b.take k).map Xf)/\cD g f.size jE [.s d,.s s]) ⟨ab,_,P,G⟩ ?_;rintro k T ac μ hk ⟨v,s,h,B⟩ W
 have C:=x2.trans v;refine dit (λQ=>?_) λQ=>?_
 ·obtain⟨X,z⟩:=ag (l:=b) (k:=k) V;have S:wV (bz (s.F::[f.size,j.size]) T) r b:=u.gQ.le ((xy m).trans ((C.fz []).bz E λp t=>Or.inr ?_))
  ·obtain⟨A,af,p,I,c2,c3,K,e1,L,e3,e4⟩:=S.u z;refine⟨s,B.cy 1,V,V,A,(dN.1 K).2,V,V,_,(dN.1 L).2,?_⟩;intro U;refine Gr.box (f:=[.s .nil,.i 0,.i 0,.i 0,.s .nil]) (j:=1) (o:=[.s d,.s s]) (y:=Xf X) mU.mono bd h (v.fz []) ⟨A,rfl,I⟩ bF B E bd ⟨V,E⟩ (λp t=>by have F:=R p t;have M:=h.aZ;have y:=v.size;omega) λY g N F M z' q'=>W V _ ⟨M.ext,Y,?_,F⟩
   rw[bK z,eQ];exact N
  ·have:=h.aZ;simp at t;omega
 ·refine⟨d,B.cy 0,s,B.cy 1,?_⟩;intro U;have z:=h.ne B bd;have A:=h.aZ;rw[cE V]at h;refine⟨s,rfl,?_,C.aj V _ _⟩;have y:=h.mg mU.mono bF bd bF;exact dT.le y ((bS (a:=[]) E E).trans (bo _ _)) λt x=>mU.mono.le ((bS (a:=[]) E E).trans (bo _ _))
def vt(e:dI m d r c b):mV 191 [.agg #[O.v d,O.v r]] m:=by
 apply rH;simp -zeta only[aE,aD];intro f;have a:J m f:=J.push _ _;have h:∀g∈[m.size],g<f.size:=by simp[f]
 clear_value f;have M:=e.gQ.len;have K:=e.mG;refine⟨λ_=>rA a,λ_=>?_⟩;refine(Kc (e.le a.le)).mono λ_ N⟨H,t,x,i⟩=>?_;subst t;refine⟨i.de h,_,_,rfl,?_⟩;have C:=a.trans i;refine(sU (e.le C.le).aY x).any.aG i h λg P T o=>⟨_,rfl,λ_=>rA (a.trans o),λ_=>?_⟩;refine eg (n:=b.length) V (λ_ j=>J f j) o ?_;rintro k Q I μ L j z
 refine⟨λw=>?_,λ_=>rA (a.trans j)⟩;simp only[ao]at w;obtain⟨S,y⟩:=ag (l:=b) (k:=k) V;obtain⟨A,B,g,q,s,D,u,v,E,F,G⟩:=(e.le (a.trans j).le).gQ.u y;refine⟨V,V,A,u,V,V,B,v,?_⟩;exact(sT q s).any.aG j h λg R U p=>⟨_,rfl,λ_=>rA (a.trans p),λ_=>z V _ p⟩
def Cs(h:dI m d r c b)(I:∀q∈b,q.params.length+4*q.body.w<=1000000000000):mV 162 [.agg #[O.v d,O.v r]] m:=by
 apply vu;simp -zeta only[aE,aD];intro e;have o:J m e:=J.push _ _;have v:∀a∈[m.size],a<e.size:=by simp[e]
 clear_value e;have W:=h.gQ.len;have T:=h.mG;refine(vt (h.le o.le)).aG (J.aC e) v λa X z _=>⟨_,rfl,λ_=>rA (o.trans z),λ_=>?_⟩;refine eg (n:=b.length) V (λ_ f=>J e f) z ?_;rintro k j R μ U p N
 refine⟨λH=>?_,λ_=>rA (o.trans p)⟩;simp only[ao]at H;obtain⟨q,w⟩:=ag (l:=b) (k:=k) V;have x:=o.trans p;obtain⟨P,Z,a,A,S,u,B,C,D,F,G⟩:=(h.le x.le).gQ.u w;refine⟨V,V,_,B,_,C,_,D,_,F,_,G,?_⟩;intro K f;have i:J j f:=(J.push j _).aj (ad _) _ _;have s:∀a∈[j.size,m.size],a<f.size:=by
  have:=p.lt (v m.size E);have:f.size=j.size+1:=by simp[f,K,az]
  simp;omega
 clear_value f;have t:=x.trans i;refine(Ju (u.le i.le)).aG (J.aC f) s λM L g _=>⟨_,rfl,λ_=>rA (t.trans g),λ_=>?_⟩;refine(lQ q.body L d r P a q.params (h.le (t.trans g).le) (A.ext (i.trans g)) (u.le (i.trans g).le) (I q (ar w))).aG g s λM Y Q y=>⟨_,rfl,aJ (Q.same _ (g.lt (s _ E))) _,λ_=>rA (t.trans y),λ_=>N V _ ((p.trans i).trans y)⟩
def vG(a:Int)(m:I):mV 133 [vi a] m:=by
 apply qb;have r:∀b:Bool,∃k:Bool,vb b=.bool k/\J m m:=λb=>rA (J.aC m);exact⟨λ_=>r _,λ_=>⟨λ_=>r _,λ_=>⟨λ_=>r _,λ_=>r _⟩⟩⟩
def TH(b:List fF)(x:cg):Prop:=x.op=9->0<=x.bJ/\x.bJ<b.length
structure At(m:I)(d r a k:O)(c:List bO)(b:List fF)(x:cg):Prop where
 Od:dI m d r c b
 args:au m a x.args
 call:TH b x
def At.le{m f:I}{d r a k:O}{c:List bO}{b:List fF}{x:cg}(h:At m d r a k c b x)(e:Le m f):At f d r a k c b x:=⟨h.Od.le e,h.args.le e,h.call⟩
def dj{f g:Obj}{a b:I}(d:a=m.push f)(e:b=a.push g):J m b/\∀c∈[a.size,m.size],c<b.size:=by
 subst d e;exact⟨(J.push _ _).trans (J.push _ _),bF⟩
def mo(h:At m d r a k c b x)(i:Int):mV 238 [.agg #[O.v d,O.v r],np x a k,vi i] m:=by
 apply DR;simp -zeta only[aE,aD];intro s e;obtain⟨f,p⟩:=dj (a:=s) (b:=e) rfl rfl;clear_value e;have D:=h.Od.gQ.len;refine⟨λg=>?_,λ_=>rA f⟩;simp only[aL]at g;have C:=h.call g;obtain⟨G,q⟩:=ag (l:=b) (k:=x.bJ.toNat) V;obtain⟨F,t,j,v,n,w,y,o,z,A,B⟩:=(h.Od.le f.le).gQ.u q;exact⟨V,V,t,o,(cU n i).any.aG (J.aC e) p λj E u _=>⟨_,rfl,rA (f.trans u)⟩⟩
def lx{q:O}(h:At m d r a k c b x){v:List Int}(o:au m q v)(u:∀y∈x.args,0<=y/\y<(v.length:Int))(t:i<x.args.length):mV 234 [.agg #[O.v d,O.v r],O.v q,np x a k,vi i] m:=by
 apply wm;simp -zeta only[aE,aD];intro z e;obtain⟨g,n⟩:=dj (a:=z) (b:=e) rfl rfl;clear_value e;have C:=h.args.len;have E:=o.len;obtain⟨y,p⟩:=ag t;have D:=u y (ar p);obtain⟨B,w⟩:=ag (l:=v) (k:=y.toNat) V;refine(vG x.op e).aG (J.aC e) n λs F j _=>⟨_,rfl,λ_=>?_,λ_=>rA (g.trans j)⟩;have f:=g.trans j;refine⟨V,V,y,(h.args.ext f).u p,V,V,B,(o.ext f).u w,λ_=>?_,λ_=>rA f⟩;exact(mo (h.le f.le) i).aG j n λs G H A=>⟨_,rfl,rA (g.trans A)⟩
def Ag(h:At m d r a k c b x)(u:i<x.args.length):mV 266 [.agg #[O.v d,O.v r],np x a k,vi i] m:=by
 apply uo;simp -zeta only[aE,aD];intro z g;obtain⟨q,v⟩:=dj (a:=z) (b:=g) rfl rfl;clear_value g;have t:=h.args.len;obtain⟨B,w⟩:=ag u;refine eg (n:=x.args.length) (t▸h.args.gA) (λ_ e=>J g e) (J.aC _) ?_;rintro o F I μ E f A
 have e:=q.trans f;refine⟨λs=>⟨λ_=>?_,λ_=>?_⟩,λ_=>rA e⟩<;>simp only[ao]at s<;>have j:=A V
 ·obtain⟨C,y⟩:=ag (l:=x.args) (k:=o) V;refine⟨V,V,C,(h.args.ext e).u y,V,V,B,(h.args.ext e).u w,λ_=>⟨λ_=>rA e,λ_=>?_⟩,λ_=>j _ f⟩;exact(mo (h.le e.le) o).aG f v λD G H p=>⟨_,rfl,λ_=>rA (q.trans p),λ_=>j _ p⟩
 ·exact j _ f
def yo{s q:O}(h:At m d r a k c b x){z w:List Int}(v:au m s z)(u:au m q w)(o:i<x.args.length):mV 251 [.agg #[O.v d,O.v r],np x a k,vi i,O.v s,O.v q] m:=by
 apply BY;simp -zeta only[aE,aD];intro A g;obtain⟨e,f⟩:=dj (a:=A) (b:=g) rfl rfl;clear_value g;have C:=h.args.len;obtain⟨y,p⟩:=ag o;refine⟨V,V,y,(h.args.ext e).u p,?_⟩;refine(cU (u.ext e) y).any.aG (J.aC g) f λn D l _=>⟨_,rfl,λ_=>rA (e.trans l),λ_=>?_⟩;have t:=e.trans l;refine⟨V,V,y,(h.args.ext t).u p,?_⟩;refine(cU (v.ext t) y).any.aG l f λn E G j=>⟨_,rfl,λ_=>rA (e.trans j),λ_=>?_⟩;exact(Ag (h.le (e.trans j).le) o).aG j f λn F H B=>⟨_,rfl,rA (e.trans B)⟩
end
section
def UE(b:Bk):Prop:=∀(S:List Nat)(m:I),(∀c∈S,c<m.size)->∀(t a:O)(l:List Int)(n:Int)(k:Nat),dL m t b.aA->au (bz S m) a l->k<=b.aA.length->l.length+b.w<=1000000000000->
 CI 220 [.agg #[O.v t,vi b.aR],vi n,vi k,O.v a] m S λc=>c.length<=l.length+b.w
def _root_.Go.Vc.TZ{σ:Type}{n c:Nat}(o:c<=n)(r:n<=9223372036854775807){m:I}{h:σ}{g:(σ->Int->I->Prop)->(σ->Int->I->Nat)->σ->Int->I->Prop}(Q:Nat->σ->I->Prop)(l:Q c h m)
 (j:∀(k:Nat)(s:σ)(a:I)(b:σ->Int->I->Prop)(μ:σ->Int->I->Nat),c<=k->k<=n->Q k s a->
  (k<n->∀e d,Q (k+1) e d->b e (cO ((k:Int)+1)) d/\μ e (cO ((k:Int)+1)) d<μ s k a)->g b μ s k a):
 ∃(b:σ->Int->I->Prop)(μ:σ->Int->I->Nat),b h c m/\∀s i a,b s i a->g b μ s i a:=by
 refine⟨λs i d=>∃k:Nat,i=k/\c<=k/\k<=n/\Q k s d,λ_ i _=>(n -i).toNat,⟨c,rfl,ad _,o,l⟩,?_⟩
 rintro s i a ⟨k,rfl,p,q,t⟩
 refine j k s a _ _ p q t λf e d u=>?_
 rw[jM f r]
 exact⟨⟨k+1,rfl,V,f,u⟩,AK f⟩
def Bz{S:List Nat}{m:I}(T:∀i∈S,i<m.size){E K L:O}{f:List Int}{x:cg}(N:Int)(u:au m E x.args)(w:mf m K x.bt)(G:au (bz S m) L f)(hb:f.length+x.w<=1000000000000)(Y:∀e∈x.bt,UE e):
 CI 250 [np x E K,vi N,O.v L] m S λa=>a.length<=f.length+x.w:=by
 apply uS
 simp -zeta only[aE,aD]
 intro b
 have g:J m b:=J.push _ _
 have z:∀e∈[m.size],e<b.size:=by simp[b]
 clear_value b
 have U:=u.len
 have W:=w.len
 have hw:=cg.kT x
 have H:∀{c:I},J b c->∀i∈S,i<c.size:=λh i F=>aK (T i F) (g.trans h).size
 refine(ry x.op b).any.aG (J.aC b) z λe m2 r _=>⟨_,rfl,λ_=>⟨_,_,rfl,G.le ((g.trans r).cK S),V,g.trans r⟩,λ_=>?_⟩
 refine dt (n:=x.args.length) (U▸u.gA) (λA s c=>J b c/\∃a,au (bz S c) s a/\a.length<=f.length+A) ⟨r,f,G.le ((g.trans r).cK S),ad _⟩ ?_
 rintro A s m3 ae μ hj ⟨d,a,o,F⟩ C
 have u3:=g.trans d
 refine dit (λh=>?_) λh=>?_
 ·obtain⟨y,v⟩:=ag (l:=x.args) (k:=A) V
  have j:=(u.ext u3).u v
  refine⟨V,V,y,j,λ_=>⟨V,V,y,j,λ_=>⟨V,V,y,j,?_⟩,λ_=>C V _ _ ⟨d,a,o,V⟩⟩,λ_=>C V _ _ ⟨d,a,o,V⟩⟩
  exact(kX (H d) o y V).aG d z λab B M p D t q=>⟨_,rfl,C V _ _ ⟨q,B,p.done (H d) (by have:=D.2;omega),by have:=D.2;omega⟩⟩
 ·refine dt (n:=x.bt.length) (W▸w.gA) (λj s c=>J b c/\∃a,au (bz S c) s a/\a.length<=f.length+x.args.length+bw (x.bt.take j)) ⟨d,a,o,bF⟩ ?_
  rintro j s2 M I2 μ2 hi ⟨t,B,p,ah⟩ aa
  have q:=g.trans t
  have y:=H9 x.bt
  refine⟨λh=>?_,λh=>⟨_,_,rfl,p,by have:=y j;omega,q⟩⟩
  simp only[ao]at h
  obtain⟨e,v⟩:=ag (l:=x.bt) (k:=j) V
  obtain⟨ac,X,P,Q⟩:=(w.le q.le).u v
  have af:=sI v
  refine⟨V,V,_,P,_,Q,?_⟩
  exact(Y e (ar v) S M (H t) ac s2 B N 0 X p (dZ _) (by have:=y (j+1);omega)).aG t z λab Z m5 R D x5 u5=>⟨_,rfl,aa V _ _ ⟨u5,Z,R,V⟩⟩
def xI:∀e:Bk,UE e:=by
 refine Bk.ind ?_;intro aA U P S r F ac ab p Q k0 m M K hb;simp only[Bk.iY,Bk.iu,Bk.oU]at*;apply BA;simp -zeta only[aE,aD];intro a;have d:J r a:=J.push _ _;have v:∀e∈[r.size],e<a.size:=by simp[a]
 clear_value a;have N:=m.len;have H:∀{c:I},J a c->∀f∈S,f<c.size:=λh f u=>aK (F f u) (d.trans h).size;refine TZ (n:=aA.length) K (N▸m.gA) (λj t c=>J a c/\∃q,au (bz S c) t q/\q.length<=p.length+sw (aA.take j)) ⟨J.aC _,p,M.le (d.cK S),V⟩ ?_;rintro j t y Y μ _ hj ⟨b,q,g,u⟩ R
 have B:=d.trans b;have w:=yV aA;refine⟨λh=>?_,λh=>?_⟩
 ·simp only[ao]at h;obtain⟨X,o⟩:=ag (l:=aA) (k:=j) V;obtain⟨Z,kk,G,L,z,A,i,C,D⟩:=(m.le B.le).u o;have aa:=nY o;refine⟨V,V,_,z,_,A,_,i,_,C,_,D,?_⟩;exact(Bz (H b) Q G L g (by have:=w (j+1);omega) (P X (ar o))).aG b v λT x m3 E s x3 W=>⟨_,rfl,R V _ _ ⟨W,x,E,V⟩⟩
 ·have D:=w j;have z:∃A o,O.v t=O.v A/\au (bz S y) A o/\o.length<=p.length+(1+sw aA)/\J r y:=⟨_,_,rfl,g,V,B⟩;refine⟨λ_=>⟨λ_=>?_,λ_=>z⟩,λ_=>z⟩;exact(kX (H b) g U V).aG b v λT x E i s G C=>⟨_,rfl,_,_,rfl,i.done (H b) (by have:=s.2;omega),by have:=s.2;omega,d.trans C⟩
def AQ{S:List Nat}{m:I}(i:∀d∈S,d<m.size){t:O}{b:Bk}(l:dL m t b.aA)(n:Int)(c:b.w<=1000000000000):CI 185 [.agg #[O.v t,vi b.aR],vi n] m S λf=>f.length<=b.w:=by
 apply Ea;simp -zeta only[aE,aD];intro g a;obtain⟨e,k⟩:=dj (a:=g) (b:=a) rfl rfl;have h:au (bz S a) (.mk g.size 0 0 0) []:=⟨rfl,ad _,E,E⟩;clear_value a;exact(xI b S a (λd j=>e.lt (i d j)) t _ _ n 0 (l.le e.le) h (dZ _) (by simpa using c)).aG (J.aC a) (λb c=>k b (by simp at c⊢;exact Or.inr c)) λr f o d q j _=>⟨_,rfl,_,_,rfl,d,by simpa using q,e.trans j⟩
section
variable{S:List Nat}{m:I}(b:∀c∈S,c<m.size){d r a k s q p:O}{t:List bO}{w:List fF}{x:cg}(h:At m d r a k t w x){v f u:List Int}(o:au m s v)(j:∀y∈x.args,0<=y/\y<(v.length:Int))(e:au m q f)(g:au m p u)
include b h o j
def wh(P:x.args.length<=1000000000000):jS 189 [.agg #[O.v d,O.v r],O.v s,np x a k] m S (nA x.args):=by
 apply se;simp -zeta only[aE,aD];intro L f R;obtain⟨q,B⟩:=dj (a:=L) (b:=f) rfl rfl;clear_value f;have K:=h.args.len;refine dt (n:=x.args.length) (K▸h.args.gA) (λg v p=>J f p/\∃e,GI S f p v e/\(∀y∈e,y∈x.args)/\e.length<=g) ⟨J.push _ _,[],GI.nil S f,E,ad _⟩ ?_;rintro g v T M μ Q ⟨F,e,t,u,A⟩ D
 have w:=q.trans F;refine dit (λI=>?_) λI=>?_
 ·obtain⟨y,C⟩:=ag (l:=x.args) (k:=g) V;refine(lx (h.le w.le) (o.ext w) j (i:=g) V).aG F B λN U G p=>⟨_,rfl,λ_=>⟨V,V,y,(h.args.ext (q.trans p)).u C,?_⟩,λ_=>D V _ _ ⟨p,e,t.ext G,u,V⟩⟩;intro W;exact GI.jN (t.ext G) (p.fz []) (λc A=>q.lt (b c A)) V λr X H z _ _=>⟨J.mO (p.aM _) z.ext B,D V _ _ ⟨z.ext,_,H,na u (ar C),bF⟩⟩
 ·exact⟨v,e,rfl,t.cF (λ_ h=>h) q.size,⟨u,V⟩,w⟩
include e g
def DH(Z:x.args.length<=1000000000000):jS 222 [.agg #[O.v d,O.v r],O.v s,np x a k,O.v q,O.v p] m S (nA x.args):=by
 apply wj;simp -zeta only[aE,aD];intro W u aa;obtain⟨v,B⟩:=dj (a:=W) (b:=u) rfl rfl;clear_value u;have U:=h.args.len;refine dt (n:=x.args.length) (U▸h.args.gA) (λt D w=>J u w/\∃f,GI S u w D f/\(∀y∈f,y∈x.args)/\f.length<=t) ⟨J.push _ _,[],GI.nil S u,E,ad _⟩ ?_;rintro t D m3 Y μ hj ⟨N,f,w,z,L⟩ C
 have F:=v.trans N;refine dit (λT=>?_) λT=>?_
 ·obtain⟨y,M⟩:=ag (l:=x.args) (k:=t) V;refine(lx (h.le F.le) (o.ext F) j (i:=t) V).aG N B λQ m4 I G=>⟨_,rfl,λ_=>?_,λ_=>C V _ _ ⟨G,f,w.ext I,z,V⟩⟩;have H:=v.trans G;refine(yo (h.le H.le) (e.ext H) (g.ext H) (i:=t) V).aG G B λQ m5 P A=>⟨_,rfl,λ_=>⟨V,V,y,(h.args.ext (v.trans A)).u M,?_⟩,λ_=>C V _ _ ⟨A,f,(w.ext I).ext P,z,V⟩⟩;intro X;exact GI.jN ((w.ext I).ext P) (A.fz []) (λc L=>v.lt (b c L)) V λr X R K _ _=>⟨J.mO (A.aM _) K.ext B,C V _ _ ⟨K.ext,_,R,na z (ar M),bF⟩⟩
 ·exact⟨D,f,rfl,w.cF (λ_ h=>h) v.size,⟨z,V⟩,F⟩
def Fs(Z:f.length<=1000000000000):jS 224 [.agg #[O.v d,O.v r],O.v s,np x a k,O.v q,O.v p] m S (nA f):=by
 apply yr;simp -zeta only[aE,aD];intro m0 z;obtain⟨t,G⟩:=dj (a:=m0) (b:=z) rfl rfl;clear_value z;have ai:=h.args.len;have ae:∀{u:I},J z u->∀c∈S,c<u.size:=λh c hc=>aK (b c hc) (t.trans h).size;have X:aN bY 253 [O.v q,O.v p] z λv u=>dV [m0.size,m.size] z u/\∃ab:O,v=O.v ab/\∃A aa,O.v ab=O.v A/\GI S m u A aa/\nA f aa/\J m u:=by
  refine(J2 (S:=[]) E (e.le (t.le.trans (xy _))) (g.le (t.le.trans (xy _))) Z).aG (J.aC z) G λA w aj C L U _=>⟨_,rfl,A,w,rfl,?_,L,t.trans U⟩;obtain⟨D,M,N,F⟩:=C;exact⟨D,M,N.cF t.size,F.mono λ_ _ h=>h⟩
 refine⟨λ_=>X,λ_=>⟨λ_=>X,λ_=>?_⟩⟩;refine(kP (S:=[]) E (e.le (t.le.trans (xy _))) Z).aG (J.aC z) G λs0 _ aj D ah U _=>⟨_,rfl,?_⟩;subst ah;refine dt (n:=x.args.length) (ai▸h.args.gA) (λK A u=>J z u/\∃w,GI S m u A w/\nA f w) ⟨U,f,?_,λ_ h=>h,ad _⟩ ?_
 ·obtain⟨D,M,N,F⟩:=D;exact⟨D,M,N.cF t.size,F.mono λ_ _ h=>h⟩
 rintro K A m3 ak μ hj ⟨x3,w,C,B⟩ P
 have Q:=t.trans x3;refine⟨λY=>?_,λY=>⟨A,w,rfl,C,B,Q⟩⟩;simp only[ao]at Y;obtain⟨y,hy⟩:=ag (l:=x.args) (k:=K) V;refine(lx (h.le Q.le) (o.ext Q) j (i:=K) V).aG x3 G λaf m4 W R=>⟨_,rfl,λ_=>?_,λ_=>P V _ _ ⟨R,w,C.ext W,B⟩⟩;have T:=t.trans R;refine(yo (h.le T.le) (e.ext T) (g.ext T) (i:=K) V).aG R G λaf m5 x5 H=>⟨_,rfl,λ_=>⟨V,V,y,(h.args.ext (t.trans H)).u hy,?_⟩,λ_=>P V _ _ ⟨H,w,(C.ext W).ext x5,B⟩⟩;refine(yU (S:=S) (ae H) (((C.ext W).ext x5).done b (by have:=B.2;omega)) y (by have:=B.2;omega)).aG H G λr l2 m6 F L x6 u6=>⟨_,rfl,P V _ _ ⟨u6,l2,F.cF (λ_ h=>h) (t.trans H).size,λac hz=>B.1 ac (L.1 ac hz),bI L.2 B.2⟩⟩
omit o j
def Ft(hb:x.args.length<1000000000000):jS 225 [.agg #[O.v d,O.v r],np x a k,O.v q,O.v p] m S (nA x.args):=by
 apply yu;simp -zeta only[aE,aD];intro m0 j ab;obtain⟨f,w⟩:=dj (a:=m0) (b:=j) rfl rfl;clear_value j;have X:=h.args.len;have T:∀{t:I},J j t->∀c∈S,c<t.size:=λh c v=>aK (b c v) (f.trans h).size;refine dt (n:=x.args.length) (X▸h.args.gA) (λA H t=>J j t/\∃i,GI S j t H i/\(∀y∈i,y∈x.args)/\i.length<=A) ⟨J.push _ _,[],GI.nil S j,E,ad _⟩ ?_;rintro A H m3 aa μ hj ⟨P,i,o,s,v⟩ B
 have N:=f.trans P;refine dit (λW=>?_) λW=>?_
 ·obtain⟨y,z⟩:=ag (l:=x.args) (k:=A) V;refine(mo (h.le N.le) A).aG P w λL m4 F C=>⟨_,rfl,λ_=>⟨V,V,y,(h.args.ext (f.trans C)).u z,?_⟩,λ_=>B V _ _ ⟨C,i,o.ext F,s,V⟩⟩;refine(cU (e.ext (f.trans C)) y).any.aG C w λL m5 K D=>⟨_,rfl,λ_=>⟨V,V,y,(h.args.ext (f.trans D)).u z,?_⟩,λ_=>B V _ _ ⟨D,i,(o.ext F).ext K,s,V⟩⟩;refine(cU (g.ext (f.trans D)) y).any.aG D w λL m6 Q u=>⟨_,rfl,λ_=>⟨V,V,y,(h.args.ext (f.trans u)).u z,?_⟩,λ_=>B V _ _ ⟨u,i,((o.ext F).ext K).ext Q,s,V⟩⟩;refine(kX (T u) ((((o.ext F).ext K).ext Q).done (λc v=>f.lt (b c v)) V) y V).aG u w λr Z m7 U M x7 u7=>⟨_,rfl,B V _ _ ⟨u7,Z,U.cF (λ_ h=>h) u.size,λR Y=>?_,by have:=M.2;omega⟩⟩;rcases M.1 R Y with G|G
  ·exact s R G
  ·subst G;exact ar z
 ·exact⟨H,i,rfl,o.cF (λ_ h=>h) f.size,⟨s,V⟩,N⟩
end
end
section
variable{m c d a:I}{S h:List Nat}{s:O}{l:List Int}{f j:Nat}{i:List Value}{K:Value->I->Prop}{g:List bO}{e:Int}
def oE{h i j:Obj}{a b:I}(e:c=m.push h)(f:a=c.push i)(g:b=a.push j):J m b/\(∀d∈[a.size,c.size,m.size],d<b.size)/\c.size=m.size+1/\a.size=m.size+2/\b.size=m.size+3:=by
 subst e f g;exact⟨((J.push _ _).trans (J.push _ _)).trans (J.push _ _),bF,E,E,E⟩
def GI.Pu{X:List Nat}{e:O}{k:List Int}{a:Int}{K:O->I->Prop}(o:GI S d m s l)(i:GI h c m e k)(j:s.F≠e.F)(p:Fz X d m)(v:l.length<=1000000000000)
 (q:∀r b,GI S d b r (l++[a])->GI h c b e k->r.F≠e.F->Fz X d b->K r b):iP (m.push (.cells (br [.i a]) aB)) aB [.i 0] 8 s (.mk m.size 0 1 1) K:=by
 have t:=i.aZ
 refine Gr.jN (f:=[.i 0]) rW.mono bd o p rfl V λr b n f z u=>q r b n (i.iv (u _ t.2 (km j))) ?_ f
 rcases z.2 with g|g
 ·rw[g];exact j
 ·omega
def GI.any(a:GI S d m s l):GI h d m s l:=by
 obtain⟨c,b,e,f⟩:=a;exact⟨c,b,e,f.mono λ_ _ a=>a⟩
def dW(e v:Int):cg:=⟨e,0,0,[v],[]⟩
abbrev GS(S:List Nat)(d m:I)(s:O)(l:List cg):Prop:=Gr S d m fp 5 fA s l
def GS.new(S:List Nat)(m:I):GS S m (m.push (.cells (br []) fp)) (.mk m.size 0 0 0) []:=Gr.new S (ad _) _ _ _
def GS.jN{S X:List Nat}{d m:I}{s a k:O}{l:List cg}{x:cg}{K:O->I->Prop}(h:GS S d m s l)(g:Fz X d m)(f:au (bz (s.F::S) m) a x.args)(i:mf (bz (s.F::S) m) k x.bt)(j:l.length<=1000000000000)
 (e:∀r b,GS S d b r (l++[x])->Fz X d b->m.size<=b.size/\(r.F=s.F\/m.size<=r.F)->(∀c,c<m.size->c≠s.F->b[c]? =m[c]?)->K r b):
 iP (m.push (.cells (br [.i x.op,.i x.bJ,.i x.bV,.s a,.s k]) fp)) fp [.i 0,.i 0,.i 0,.s .nil,.s .nil] 72 s (.mk m.size 0 1 1) K:=
 Gr.jN (f:=[.i 0,.i 0,.i 0,.s .nil,.s .nil]) fA.mono bd h g ⟨a,k,rfl,f,i⟩ V e
def GS.all{S X:List Nat}{d m:I}{s x:O}{l c:List cg}{K:O->I->Prop}(h:GS S d m s l)(f:Fz X d m)(g:dL (bz (s.F::S) m) x c)(i:l.length+c.length<=1000000000000)
 (e:∀r a,GS S d a r (l++c)->Fz X d a->m.size<=a.size/\(r.F=s.F\/m.size<=r.F)->(∀b,b<m.size->b≠s.F->a[b]? =m[b]?)->K r a):
 iP m fp [.i 0,.i 0,.i 0,.s .nil,.s .nil] 72 s x K:=
 Gr.all (f:=[.i 0,.i 0,.i 0,.s .nil,.s .nil]) fA.mono bd h f g V e
def lg{α:Type}(m:I)(a:Nat)(R:List Ce->α->Prop)(b o c:Nat):dT m a R (.mk b o 0 c) []:=⟨rfl,dZ _,E,E⟩
def hO(l:∀f∈S,f<m.size)(e v:Int):aN bY 125 [vi e,vi v] m λr b=>∃a k,r=np (dW e v) a k/\au (bz S b) a [v]/\mf (bz S b) k []/\J m b:=by
 apply zS;simp -zeta only[aE,aD];intro c d p q;have s:J m c:=J.push _ _;have t:J c d:=J.push _ _;have g:J d p:=J.push _ _;have u:c.size=m.size+1:=by simp[c]
 have o:J m q:=((s.trans t).trans g).aj (ad _) _ _;refine⟨_,_,rfl,?_,lg _ _ _ _ _ _,o⟩;have j:au (bz (m.size::S) d) (.mk c.size 0 1 1) [v]:=au.lit aB [v] (λi n=>by
  rcases List.mem_cons.1 n with h|h
  ·omega
  ·have:=l i h;omega) rfl rfl E
 exact(j.le (g.cK _)).le (bS aS λf h=>ah _ h)
def OB(f:Nat)(i:List Value)(m:I)(S:List Nat)(Q:List cg->Prop):Prop:=aN bY f i m λv a=>∃s l,v=O.v s/\GS S m a s l/\Q l/\J m a
def OB.aG{l:List Nat}{Q:List cg->Prop}(j:OB f i m S Q)(g:J a m)(p:∀d∈l,d<a.size)(o:∀s c b,GS S m b s c->Q c->J m b->J a b->K (O.v s) b):aN bY f i m λv b=>dV l m b/\K v b:=
 j.mono λ_ b⟨s,c,h,k,q,e⟩=>⟨e.de λd n=>g.lt (p d n),h▸o s c b k q e (g.trans e)⟩
def dU(y:∀g∈S,g<m.size)(e:Int){q:O}(i:au m q l)(C:l.length<=1000000000000):OB 187 [vi e,O.v q] m S (l.map (dW e)=·):=by
 apply xX;intro c;have A:=i.len;refine dt (n:=l.length) (A▸i.gA) (λj s b=>J m b/\GS S m b s ((l.take j).map (dW e))) ⟨J.push m _,by simpa using GS.new S m⟩ ?_;rintro j s F I μ D ⟨d,b⟩ B
 refine dit (λh=>?_) λh=>?_
 ·obtain⟨o,p⟩:=ag (l:=l) (k:=j) V;refine⟨V,V,o,(i.ext d).u p,?_⟩;refine(hO (S:=s.F::S) (λg z=>?_) e o).mono λN G⟨a,E,t,v,w,r⟩=>?_
  ·have:=b.aZ;rcases List.mem_cons.1 z with h|h
   ·omega
   ·exact d.lt (y g h)
  subst t;refine⟨_,_,_,_,_,rfl,?_⟩;intro H;refine GS.jN (x:=dW e o) (b.ext fA.mono r) ((d.trans r).fz []) v w bF λM K u f P L=>B V _ _ ⟨f.ext,?_⟩
  rw[bK p,eQ];exact u
 ·rw[cE V]at b;exact⟨s,_,rfl,b,rfl,d⟩
def mE(e:Int):∀l:List Int,sw (l.map (dW e))=2*l.length
 |[]=>rfl
 |v::l=>by rw[cb,ly,mE e l,cg.kT];simp[dW];omega
def jc{e:Int}(h:14<=e):∀l:List Int,dc (l.map (dW e))=0
 |[]=>rfl
 |v::l=>by
  rw[cb,jG,jc h l];unfold dn;rw[ae (λa:nt (dW e v).op=>by have:=a.2;simp only[dW]at this;omega)]
def Bg{a:Nat}{v:Int}(h:14<=e/\e<=17)(d:0<=v/\v<(a:Int)):WS g j True a (dW e v):=
 ⟨⟨Or.inr ⟨trivial,h⟩,λx c=>by simp[dW]at c;subst c;exact d,λ_=>rfl,by simp[dW],λb=>by simp only[dW]at b;omega,λb=>by simp only[dW]at b;omega,λb=>by simp only[dW]at b;omega⟩,λk c b=>by simp[dW]at b⟩
def pO{a:Nat}(h:14<=e/\e<=17)(c:∀v∈l,0<=v/\v<(a:Int)):WL g j True a (l.map (dW e)):=λi s b=>by
 rw[bW,iK]at b;obtain⟨v,d,rfl⟩:=b;rw[<-KZ,jc h.1];exact Bg h (c v (ar d))
def lV(f:Nat)(i:List Value)(m:I)(S:List Nat)(Q:Bk->Prop):Prop:=aN bY f i m λv a=>∃s b,v=.agg #[O.v s,vi b.aR]/\dL (bz S a) s b.aA/\Q b/\J m a
def lV.aG{l:List Nat}{Q:Bk->Prop}(j:lV f i m S Q)(e:J a m)(p:∀c∈l,c<a.size)(o:∀s c b,dL (bz S b) s c.aA->Q c->J m b->J a b->K (.agg #[O.v s,vi c.aR]) b):aN bY f i m λv b=>dV l m b/\K v b:=
 j.mono λ_ b⟨s,c,h,k,q,d⟩=>⟨d.de λg n=>e.lt (p g n),h▸o s c b k q d (e.trans d)⟩
def HP(f:Nat)(i:List Value)(m:I)(S:List Nat)(Q:cg->Prop):Prop:=aN bY f i m λv b=>∃a k x,v=np x a k/\au (bz S b) a x.args/\mf (bz S b) k x.bt/\Q x/\J m b
def HP.aG{l:List Nat}{Q:cg->Prop}(h:HP f i m S Q)(d:J a m)(r:∀b∈l,b<a.size)(q:∀p k x b,au (bz S b) p x.args->mf (bz S b) k x.bt->Q x->J m b->J a b->K (np x p k) b):aN bY f i m λv b=>dV l m b/\K v b:=
 h.mono λ_ b⟨p,k,x,g,j,n,s,c⟩=>⟨c.de λe o=>d.lt (r e o),g▸q p k x b j n s c (d.trans c)⟩
def bD{a:I}(d:∀c∈S,c<m.size)(g:m.size<=a.size){b:Nat}(f:b<a.size):∀c∈b::S,c<a.size:=λc e=>by
 rcases List.mem_cons.1 e with h|h
 ·omega
 ·have:=d c h;omega
structure Wp(g:List bO)(j:Nat)(v lo la:List Int)(b:Bk):Prop where
 aV:∀o∈lo,0<=o/\o<(v.length:Int)
 Ux:lo.length+5*b.w<=500
 Uw:la.length+1000*b.w<=1000000
 vN:v.length+5*b.w<=1000000
 wb:WB g j False v.length b
def TG(g:List bO)(a:List fF)(b:Bk):Prop:=∀(S:List Nat)(m:I),(∀c∈S,c<m.size)->∀(e r j t i c:O)(v h f:List Int),dI m e r g a->au m j v->dL m t b.aA->au m i h->au m c f->Wp g a.length v h f b->
 lV 186 [.agg #[O.v e,O.v r],O.v j,.agg #[O.v t,vi b.aR],O.v i,O.v c] m S λd=>WB g a.length True v.length d/\d.w+1050<=1100*b.w
structure Wo(g:List bO)(j:Nat)(v fl lo la:List Int)(b:Bk):Prop where
 aV:∀o∈lo,0<=o/\o<(v.length:Int)
 Yr:fl.length<=3
 Ux:lo.length+3+5*b.w<=500
 Uw:la.length+1000*b.w<=1000000
 vN:v.length+3+5*b.w<=1000000
 wb:WB g j False (v.length+fl.length) b
def G8(hS:∀a∈S,a<m.size){aq L aW aI aC bn a6:O}{rs:List fF}{T Q lo la:List Int}{j:Bk}(hn:dI m aq L g rs)(hv:au m aW T)(hf:au m aI Q)(hs:dL m aC j.aA)(v:au m bn lo)(bf:au m a6 la)
 (hp:Wo g rs.length T Q lo la j)(ih:TG g rs j):lV 252 [.agg #[O.v aq,O.v L],O.v aW,O.v aI,.agg #[O.v aC,vi j.aR],O.v bn,O.v a6] m S λr=>WB g rs.length True (T.length+Q.length) r/\r.w<=1100*j.w:=by
 apply zQ
 simp -zeta only[aE,aD]
 intro d c G
 obtain⟨y,u,s0,s1,s2⟩:=oE (c:=d) (a:=c) (b:=G) rfl rfl rfl
 clear_value G
 have b9:=hv.len;have bB:=hf.len;have bH:=v.len;have bV:=hp.Yr;have bT:=j.Eo;have bX:=hp.Ux;have b8:=hp.vN;have bW:=hp.Uw
 refine(dK (S:=[]) E (hv.le (y.le.trans (xy _))) (hf.le (y.le.trans (xy _))) V).aG (J.aC G) u λaQ _ cb gi e x3 _=>⟨_,rfl,?_⟩
 subst e
 refine(AQ (S:=[]) E (hs.le (y.trans x3).le) _ V).aG x3 u λbL ul H hu b7 x4 N=>⟨_,rfl,?_⟩
 intro m5 m6
 have bi:au H bL ul:=hu.le (bo _ _)
 have bt:J H m6:=(J.push H _).trans (J.push m5 _)
 have u6:=N.trans bt
 have s5:m5.size=H.size+1:=by simp[m5]
 have gm:GI S H m6 (.mk H.size 0 0 0) []:=(GI.nil S H).ext (J.push m5 _)
 have gd:GI S H m6 (.mk m5.size 0 0 0) []:=(GI.nil S m5).cF (λ_ t=>t) V
 clear_value m6
 have z4:=N.size
 refine tc (n:=lo.length) (bH▸v.gA) (λai i sd M=>J H M/\∃Z P,GI S H M i Z/\GI S H M sd P/\i.F≠sd.F/\(∀q∈Z,q∈lo)/\(∀q∈P,q∈lo)/\Z.length<=ai/\P.length<=ai) ⟨bt,[],[],gm,gd,bF,E,E,ad _,ad _⟩ ?_
 rintro ai i sd m7 bu μ hk ⟨x7,Z,P,gm,gd,bg,a2,a1,cm,cd⟩ bm
 have u7:=N.trans x7
 have v7:=y.trans u7
 refine dit (λt=>?_) λt=>?_
 ·obtain⟨o,hy⟩:=ag (l:=lo) (k:=ai) V
  have C:=ar hy
  have B:∀M,J m7 M->iP (M.push (.cells (br [.i o]) aB)) aB [.i 0] 8 i (.mk M.size 0 1 1) λR m'=>dV [c.size,d.size,m.size] (M.push (.cells (br [.i o]) aB)) m'/\bu R sd (cO ((ai:Int)+1)) m'/\μ R sd (cO ((ai:Int)+1)) m'<μ i sd ai m7:=λM ac=>
   GI.Pu (gm.ext ac) (gd.ext ac) bg ((x7.trans ac).fz []) V λL m' A g' p f=>⟨J.mO ((u7.trans ac).aM _) (N.trans f.ext) u,bm V _ _ _ ⟨f.ext,_,_,A,g',p,na a2 C,a1,bF,V⟩⟩
  refine⟨V,V,o,(v.ext v7).u hy,?_⟩
  refine(cU (bi.ext x7) o).any.aG u7 u λa m8 w b=>⟨_,rfl,λ_=>⟨V,V,o,(v.ext (y.trans b)).u hy,B m8 w⟩,λ_=>⟨V,V,o,(v.ext (y.trans b)).u hy,?_⟩⟩
  refine(cU (bf.ext (y.trans b)) o).any.aG b u λa z U u9=>⟨_,rfl,λ_=>⟨V,V,o,(v.ext (y.trans u9)).u hy,B z (w.trans U)⟩,λ_=>⟨V,V,o,(v.ext (y.trans u9)).u hy,?_⟩⟩
  intro a7
  have ac:=w.trans U
  exact GI.Pu (gd.ext ac) (gm.ext ac) bg.symm ((x7.trans ac).fz []) V λL m' A g' p f=>⟨J.mO ((u7.trans ac).aM _) (N.trans f.ext) u,bm V _ _ _ ⟨f.ext,_,_,g',A,p.symm,a2,na a1 C,V,bF⟩⟩
 have cm:Z.length<=lo.length:=V
 have cd:P.length<=lo.length:=V
 intro m8
 have b0:=gm.aZ
 have bU:=gd.aZ
 refine dt (n:=Q.length) (bB▸hf.gA) (λai s M=>J m7 M/\∃l,GI S m7 M s l/\(∀q∈l,0<=q/\q<((T.length+Q.length:Nat):Int))/\l.length<=ai) ⟨J.push _ _,[],GI.nil S m7,E,ad _⟩ ?_
 rintro bj su z I2 μ2 hj ⟨U,B,gu,av,cu⟩ a9
 have u9:=u7.trans U
 have v9:=y.trans u9
 refine dit (λh2=>?_) λh2=>?_
 ·obtain⟨o,hy⟩:=ag (l:=Q) (k:=bj) V
  refine⟨V,V,o,(hf.ext v9).u hy,λ_=>?_,λ_=>a9 V _ _ ⟨U,B,gu,av,V⟩⟩
  rw[aP (x:=(aW.len:Int)+bj) V V]
  refine(cU ((bi.ext x7).ext U) _).any.aG u9 u λa a7 am aU=>⟨_,rfl,λ_=>?_,λ_=>a9 V _ _ ⟨U.trans am,B,gu.ext am,av,V⟩⟩
  intro bk
  refine GI.jN (gu.ext am) ((U.trans am).fz []) (λa b=>aK (hS a b) (y.trans u7).size) V λL m' A f ao ab=>⟨J.mO ((u9.trans am).aM _) (u7.trans f.ext) u,a9 V _ _ ⟨f.ext,_,A,λq v=>?_,bF⟩⟩
  rcases List.mem_append.1 v with v|v
  ·exact av q v
  ·simp at v;omega
 have b6:=gu.aZ
 have a0:=gm.ext U
 have bx:∀{M:I},J G M->∀a∈c.size::S,a<M.size:=λt=>bD hS (y.trans t).size (t.lt (u _ E))
 have aO:∀{M:I},J G M->i.F<M.size->∀a∈i.F::c.size::S,a<M.size:=λt X a b=>by
  rcases List.mem_cons.1 b with e|e
  ·omega
  ·exact bx t a e
 refine(dU (S:=i.F::c.size::S) (aO u9 a0.aZ.2) 14 ((gu.done (S:=S) (λa b=>aK (hS a b) (y.trans u7).size) V).le (bo _ _)) V).aG u9 u λs1 _ a7 g1 e am aU=>⟨_,rfl,?_⟩
 subst e
 have a4:i.F<a7.size:=am.lt a0.aZ.2
 refine(dU (S:=s1.F::i.F::c.size::S) (λa b=>?_) 15 ((((gd.done (S:=S) (λa b=>aK (hS a b) (y.trans N).size) V).le (bo _ _)).ext U).ext am) V).aG aU u λs2 _ bk g2 e aX bK=>⟨_,rfl,?_⟩
 ·rcases List.mem_cons.1 b with e|e
  ·have:=g1.aZ;omega
  ·exact aO aU a4 a e
 subst e
 have bZ:i.F<bk.size:=aX.lt a4
 have b2:=(g1.ext fA.mono aX).aZ
 have e2:=g2.mg fA.mono (λb=>by
  have hy:=g2.aZ;rcases List.mem_cons.1 b with e|e
  ·have:=g1.aZ;omega
  ·have:=aO aU a4 _ e;omega) bd bF
 refine GS.all (g1.ext fA.mono aX) ((am.trans aX).fz []) e2 bF λC R g3 f3 z3 q3=>⟨J.mO bK (u9.trans f3.ext) u,?_⟩
 have an:J z R:=f3.ext
 have aF:=u9.trans an
 have ce:=y.trans aF
 have Mk:WL g rs.length True (T.length+Q.length) (B.map (dW 14)++P.map (dW 15)):=by
  refine(pO V av).append ?_;rw[jc V];refine pO V λq v=>?_;have:=hp.aV q (a1 q v);omega
 have bq:dc (B.map (dW 14)++P.map (dW 15))=0:=by rw[cp,jc V,jc V]
 have cc:sw (B.map (dW 14)++P.map (dW 15))<=1006:=by rw[db,mE,mE];omega
 have bc:GI S H R i Z:=(gm.ext U).ext an
 have bG:C.F≠i.F:=g3.IH bc bd
 have aL:∀{M o:I},J G M->J G o->∀j∈[c.size,d.size,m.size],∀q,D o j q=D M j q:=λt h' j X q=>aJ (by rw[h'.same j (u j X),t.same j (u j X)]) q
 have E4:∀{M o:I},J G M->J G o->∀{ax:Prop},ax->D o d.size 0=D M d.size 0/\D o d.size 1=D M d.size 1/\D o m.size 0=D M m.size 0/\D o m.size 1=D M m.size 1/\ax:=λt h' _ hp=>⟨aL t h' _ E _,aL t h' _ E _,aL t h' _ E _,aL t h' _ E _,hp⟩
 have F4:∀{M:I},Fz [i.F] z M->J H M:=λt=>Fz.ext ((((x7.trans U).fz [i.F]).trans t).AY λj X=>Or.inr (by simp at X;omega))
 have b5:i.F<z.size:=a0.aZ.2
 have z3:=x3.size
 have tail:∀(M:I)(p:Nat)(ss:O)(r:Bk),GS (p::i.F::c.size::S) z M C (B.map (dW 14)++P.map (dW 15))->Fz [i.F] z M->z.size<=p->p<M.size->p≠C.F->dL (bz (p::C.F::i.F::c.size::S) M) ss r.aA->WB g rs.length True (T.length+Q.length) r/\r.w+1050<=1100*j.w->
  let W:I:=aj M p 0 [.s ss,.i r.aR]
  iP W fp [.i 0,.i 0,.i 0,.s .nil,.s .nil] 72 C ss λaA M2=>dV [p,c.size,d.size,m.size] W M2/\D M2 p 1=D W p 1/\
   let M3:I:=aj M2 c.size 0 [.s aA,.i r.aR]
   ∃s ae,Value.agg #[O.v aA,vi r.aR]=.agg #[O.v s,vi ae.aR]/\dL (bz S M3) s ae.aA/\(WB g rs.length True (T.length+Q.length) ae/\ae.w<=1100*j.w)/\J m M3:=by
  intro M p ss r A af bA bP bh aw a5 W
  have cf:W.size=M.size:=az _ _ _ _
  have hy:=A.aZ
  have bI:dL (bz (C.F::i.F::c.size::S) W) ss r.aA:=aw.le (bS E λa b=>ah _ b)
  have bR:=Bk.kT r
  have b3:=eY r.aA
  have hF:=F4 af
  have zF:=hF.size
  have z9:=af.size
  have g1:GS (i.F::c.size::S) z W C _:=A.re fA.mono (Y:=[p]) ((Fz.aC [p] M).aj (Or.inl E) _ _) E (by simpa using km bh) λa b=>Or.inl (ah _ b)
  have f1:Fz [i.F] z W:=af.aj (Or.inr bA) _ _
  have hw:=a5.2
  refine GS.all g1 f1 bI bF λL M2 g2 f ao ab=>⟨λa b=>?_,aJ (ab p V bh) _,?_⟩
  ·simp at b
   refine ab a ?_ ?_<;>rcases b with rfl|rfl|rfl|rfl<;>omega
  intro M3
  have bM:J m M2:=Fz.ext (((v9.fz [i.F]).trans f).AY λj X=>Or.inr (by simp at X;omega))
  have b_:=g2.aZ
  have h5:=g2.mg fA.mono (λb=>by
   rcases List.mem_cons.1 b with e|e
   ·omega
   ·rcases List.mem_cons.1 e with e|e
    ·omega
    ·have:=hS _ e;omega) bd bF
  refine⟨L,.mk _ r.aR,rfl,dL.le (bS E λa b=>ah _ (ah _ b)) h5,⟨WB.of (Mk.append ?_) ?_,?_⟩,bM.aj V _ _⟩
  ·rw[bq];exact a5.1.bq.1
  ·rw[cp,bq,bQ];exact a5.1.bq.2
  ·rw[Bk.oU,db];omega
 have aV:∀(M:I)(h:List Nat)(K:O->I->Prop),J R M->GS h z M C (B.map (dW 14)++P.map (dW 15))->i.F∈h->(∀L o,GI S H o L (Z++B)->GS h z o C (B.map (dW 14)++P.map (dW 15))->Fz [i.F] z o->M.size<=o.size->(∀j,j<M.size->j≠i.F->o[j]? =M[j]?)->K L o)->iP M aB [.i 0] 8 i su K:=by
  intro M h K hx A bE hK;have bJ:au (bz (i.F::S) M) su B:=by
   refine au.le ((an.trans hx).cK _) (Gr.mg (S:=i.F::S) rW.mono gu.any (λb=>?_) bd V);rcases List.mem_cons.1 b with e|e
   ·omega
   ·have:=hS _ e;have:=y.size;omega
  refine GI.all (bc.ext hx) ((((x7.trans U).trans an).trans hx).fz []) (λa b=>aK (hS a b) (y.trans N).size) bJ V λL o g' f ao ab=>hK L o g' ?_ ?_ ao.1 ab
  ·exact A.KC fA.mono (Y:=[i.F]) ⟨ao.1,λj X hn=>ab j X (by simpa using hn)⟩ (by simpa using bE) (by simpa using bG)
  ·exact(((an.trans hx).fz [i.F]).trans ⟨ao.1,λj X hn=>ab j X (by simpa using hn)⟩)
 have F:∀(M:I)(h:List Nat)(mn ak:O)(w:List Int),(∀a∈h,a<M.size)->Fz [i.F] z M->au M mn (Z++B)->au M ak w->nA la w->lV 186 [.agg #[O.v aq,O.v L],O.v aQ,.agg #[O.v aC,vi j.aR],O.v mn,O.v ak] M h λr=>WB g rs.length True (T.length+Q.length) r/\r.w+1050<=1100*j.w:=by
  intro M h mn ak w bw af h1 h2 h3;have hF:=F4 af;have hm:=(y.trans N).trans hF;have bC:au M aQ (T++Q):=(((gi.done E bF).le (bo _ _)).ext x4).ext hF;have:=ih h M bw aq L aQ aC mn ak (T++Q) (Z++B) w (hn.le hm.le) bC (hs.le hm.le) h1 h2 ⟨λq v=>?_,bF,by have:=h3.2;omega,bF,by simpa using hp.wb⟩
  ·simpa using this
  ·simp;rcases List.mem_append.1 v with v|v
   ·have:=hp.aV q (a2 q v);omega
   ·have:=av q v;omega
 have ca:=an.size
 have b4:i.F<R.size:=V
 have b1:C.F<R.size:=g3.aZ.2
 have be:∀{M:I},J G M->R.size<=M.size->∀a∈C.F::i.F::c.size::S,a<M.size:=λt hz a b=>by
  rcases List.mem_cons.1 b with e|e
  ·omega
  ·exact aO t V a e
 have ij:∀(M:I)(p:Nat)(mn ak:O)(w:List Int),GS (p::i.F::c.size::S) z M C (B.map (dW 14)++P.map (dW 15))->Fz [i.F] z M->R.size<=p->p<M.size->au M mn (Z++B)->au M ak w->nA la w->
  aN bY 186 [.agg #[O.v aq,O.v L],O.v aQ,.agg #[O.v aC,vi j.aR],O.v mn,O.v ak] M λrv o=>dV [p,c.size,d.size,m.size] M o/\∃a_:O,∃aT:Int,rv=.agg #[O.v a_,vi aT]/\
   let W:I:=aj o p 0 [.s a_,.i aT]
   iP W fp [.i 0,.i 0,.i 0,.s .nil,.s .nil] 72 C a_ λaA M2=>dV [p,c.size,d.size,m.size] W M2/\D M2 p 1=D W p 1/\
    let M3:I:=aj M2 c.size 0 [.s aA,.i aT]
    ∃s ae,Value.agg #[O.v aA,vi aT]=.agg #[O.v s,vi ae.aR]/\dL (bz S M3) s ae.aA/\(WB g rs.length True (T.length+Q.length) ae/\ae.w<=1100*j.w)/\J m M3:=by
  intro M p mn ak w A af h1 h2 h3 h4 h5
  have hM:J G M:=N.trans (F4 af)
  refine(F M (p::C.F::i.F::c.size::S) mn ak w (λa b=>?_) af h3 h4 h5).aG (J.aC M) (λa b=>?_) λss r o aw hq hx _=>⟨_,_,rfl,?_⟩
  ·rcases List.mem_cons.1 b with e|e
   ·omega
   ·exact be hM V a e
  ·rcases List.mem_cons.1 b with e|e
   ·omega
   ·exact hM.lt (u a e)
  ·exact tail o p ss r (A.ext fA.mono hx) (af.then hx) V (hx.lt h2) V aw hq
 have aS:∀(M:I)(q:Obj),GS (i.F::c.size::S) z M C (B.map (dW 14)++P.map (dW 15))->GS (M.size::i.F::c.size::S) z (M.push q) C (B.map (dW 14)++P.map (dW 15)):=λM q A=>
  A.re fA.mono (Y:=[]) ((J.push M q).fz []) E E λa b=>by
   rcases List.mem_cons.1 b with e|e
   ·exact Or.inr V
   ·exact Or.inl e
 have bO:Fz [i.F] z R:=an.fz _
 have aZ:∀(M:I)(aY:List Nat)(K:Value->I->Prop),J G M->(∀a∈aY,a<M.size)->(∀s w o,au o s w->nA la w->J M o->K (O.v s) o)->aN bY 267 [O.v a6,vi (aW.len:Int)] M λT m'=>dV aY M m'/\K T m':=λM aY K hM hL hK=>
  (LQ (S:=[]) E (bf.le ((y.trans hM).le.trans (xy _))) _ V).aG (J.aC M) hL λs w o A ax ac _=>hK s w o ((A.done E (by have:=ax.2;omega)).le (bo _ _)) ax ac
 have aM:∀{M:I}{s:O},GI S H M s (Z++B)->au M s (Z++B):=λA=>(A.done (λa b=>aK (hS a b) (y.trans N).size) bF).le (bo _ _)
 have a3:∀{M:I}{p:Nat},J G M->p<M.size->∀a∈[p,c.size,d.size,m.size],a<M.size:=λt X a b=>by
  rcases List.mem_cons.1 b with e|e
  ·omega
  ·exact t.lt (u a e)
 refine⟨aV R _ _ (J.aC _) g3 E λay aR ga gs fz ao ab=>⟨λa b=>ab a (aF.lt (u a b)) (by have:=u a b;omega),E4 aF (N.trans (F4 fz)) ⟨?_,?_⟩⟩,?_⟩
 ·have al:=N.trans (F4 fz)
  refine aZ aR _ _ al (λa b=>al.lt (u a b)) λap w aH bb bp aa=>⟨_,rfl,E4 al (al.trans aa) ⟨?_,?_⟩⟩
  ·have aG:=al.trans aa
   have bN:=aa.size
   refine(F aH (C.F::i.F::c.size::S) ay ap w (be aG V) (fz.then aa) ((aM ga).ext aa) bb bp).aG aG u λss r a8 aw hq ba bs=>⟨_,_,rfl,?_⟩
   intro bl
   have cg:=ba.size
   have bv:=(fz.then aa).then ba
   exact E4 bs (bs.aM _) (tail bl a8.size ss r (aS a8 _ ((gs.ext fA.mono aa).ext fA.mono ba)) (bv.push _) V (by simp[bl]) V (aw.le (qX (J.push a8 _) (ad _))) hq)
  ·intro a8
   have bN:=aa.size
   have aG:=al.trans aa
   exact E4 aG (aG.aM _) (ij a8 aH.size ay ap w (aS aH _ (gs.ext fA.mono aa)) ((fz.then aa).push _) V (by simp[a8]) (((aM ga).ext aa).ext (J.push _ _)) (bb.ext (J.push _ _)) bp)
 ·intro aa
  have al:=N.trans (F4 fz)
  have aG:J G aa:=al.aM _
  have a8:J aR aa:=J.push _ _
  refine E4 al aG (aZ aa _ _ aG (a3 aG (by simp[aa])) λap w bb ba bl aH=>⟨_,rfl,E4 aG (aG.trans aH) ?_⟩)
  exact ij bb aR.size ay ap w ((aS aR _ gs).ext fA.mono aH) ((fz.then a8).then aH) V (aH.lt (by simp[aa])) (((aM ga).ext a8).ext aH) ba bl
 ·intro aa
  have aH:J G aa:=aF.aM _
  have bp:J R aa:=J.push _ _
  refine E4 aF aH (aV aa _ _ bp (aS R _ g3) E λay ba ga gs fz ao ab=>⟨λa b=>ab a (a3 aH (by simp[aa]) a b) ?_,E4 aH (N.trans (F4 fz)) ?_⟩)
  ·rcases List.mem_cons.1 b with e|e
   ·omega
   ·have:=u a e;omega
  have aG:=N.trans (F4 fz)
  have bs:aa.size=R.size+1:=by simp[aa]
  refine aZ ba _ _ aG (a3 aG V) λap w bb a8 bl al=>⟨_,rfl,E4 aG (aG.trans al) ?_⟩
  exact ij bb R.size ay ap w (gs.ext fA.mono al) (fz.then al) (ad _) (al.lt V) ((aM ga).ext al) a8 bl
end
section
variable{b m:I}{k i e a:Nat}{s:O}{S:List Nat}{l:List Int}{c:List bO}{f bJ:Int}{x:cg}{d:List fF}
def SR{a c:I}(h:J a b)(f:Fz [k] b c)(g:a.size<=k):J a c:=Fz.ext (((h.fz [k]).trans f).AY λe d=>Or.inr (by simp at d;omega))
def _root_.Go.Vc.Fz.LA{M a:I}(f:Fz [k] b M)(h:s.F=k\/b.size<=s.F)(g:M.size<=a.size)(q:∀c,c<M.size->c≠s.F->a[c]? =M[c]?):Fz [k] b a:=
 f.pX ⟨g,λc d e=>q c d (by simpa using e)⟩ (Y:=[s.F]) (λy d=>by simp at d⊢;omega)
def GI.Wy{X:List Nat}{c:I}{x:O}{d:List Int}{K:O->I->Prop}(h:GI S c m s l)(i:Fz X c m)(k:au m x d)(o:l.length+d.length<=1000000000000)
 (j:∀r a,GI S c a r (l++d)->Fz X c a->(m.size<=a.size/\(r.F=s.F\/m.size<=r.F))->(∀b,b<m.size->b≠s.F->a[b]? =m[b]?)->K r a):iP m aB [.i 0] 8 s x K:=by
 obtain⟨n,e,f,g⟩:=k.Tc (a:=1) λ_ _ h=>by rw[h];rfl
 exact Gr.next (f:=[.i 0]) rW.mono bd h i e f g V j
def bB(S:List Nat){b:O}(d:au m b l)(c:l.length<=1000000000000):jS 72 [O.v b] m S (l=·):=by
 apply lX;intro e;have a:J m e:=J.push m _;exact GI.Wy (l:=[]) (X:=[]) (GI.nil S m) (a.fz []) (d.ext a) (by simpa using c) λr h g f _ _=>⟨r,l,rfl,by simpa using g,rfl,f.ext⟩
abbrev GB(S:List Nat)(a m:I)(s:O)(l:List Bk):Prop:=Gr S a m cQ 2 pL s l
def GB.new(S:List Nat)(m:I):GB S m (m.push (.cells (br []) cQ)) (.mk m.size 0 0 0) []:=Gr.new S (ad _) _ _ _
def GB.jN{S X:List Nat}{e m:I}{s a:O}{l:List Bk}{b:Bk}{K:O->I->Prop}(h:GB S e m s l)(i:Fz X e m)(g:dL (bz (s.F::S) m) a b.aA)(j:l.length<=1000000000000)
 (f:∀r c,GB S e c r (l++[b])->Fz X e c->m.size<=c.size/\(r.F=s.F\/m.size<=r.F)->(∀d,d<m.size->d≠s.F->c[d]? =m[d]?)->K r c):
 iP (m.push (.cells (br [.s a,.i b.aR]) cQ)) cQ [.s .nil,.i 0] 32 s (.mk m.size 0 1 1) K:=
 Gr.jN (f:=[.s .nil,.i 0]) pL.mono bd h i (by cases b;exact pL.of g) V f
def HY{y:Int}(h:f=8)(a:(bU c bJ)[i]? =some y):y9 c f bJ i=(bT c y).length:=by unfold y9;rw[aq h,a];rfl
def HZ(h:f≠8):y9 c f bJ i=0:=by unfold y9;rw[ae h]
def _root_.Go.Vc.WS.MQ{g d:Prop}(h:WS c e g a x)(j:g->d){bV:Int}(l:0<=bV/\bV<=(a:Int)){bt:List Bk}(i:bt.length=x.bt.length)(m:∀(k:Nat)(b:Bk),bt[k]? =some b->WB c e d (a+y9 c x.op x.bJ k) b):WS c e d a ⟨x.op,x.bJ,bV,x.args,bt⟩:=
 ⟨⟨h.dX.op.imp id λh=>⟨j h.1,h.2⟩,h.dX.args,h.dX.kv,l,λf=>i.trans (h.dX.HB f),λf=>i▸h.dX.all f,h.dX.call⟩,m⟩
def Fl(hS:∀e∈S,e<m.size){X T ae a k ac ab:O}{D lo la:List Int}(B:dI m X T c d)(hv:au m ae D)(ha:au m a x.args)(Q:mf m k x.bt)(ho:au m ac lo)(aB:au m ab la)
 (aC:∀o∈lo,0<=o/\o<(D.length:Int))(Ux:lo.length+5*x.w<=500)(Uw:la.length+1000*x.w<=1000000)(vN:D.length+5*x.w<=1000000)(aa:WS c d.length False D.length x)(ih:∀b∈x.bt,TG c d b):
 HP 223 [.agg #[O.v X,O.v T],O.v ae,np x a k,O.v ac,O.v ab] m S λv=>WS c d.length True D.length v/\v.op=x.op/\v.w<=1+x.args.length+1100*bw x.bt:=by
 apply xW
 simp -zeta only[aE,aD]
 intro m0 h o ak
 obtain⟨p,r,s0,s1,s2⟩:=oE (c:=m0) (a:=h) (b:=o) rfl rfl rfl
 have ap:J o ak:=J.push _ _
 have gk:=GB.new (h.size::S) o
 clear_value o
 have aM:=ha.len;have aA:=Q.len;have hw:=cg.kT x;have aQ:=H9 x.bt
 refine(fV (S:=[o.size]) (by simp[ak]) (B.le (p.trans ap).le).aY B.types x.bJ).aG ap r λe cl m4 q C x4 u4=>⟨_,rfl,?_⟩
 subst C
 have aR:=q.len
 refine dt (n:=x.bt.length) (aA▸Q.gA) (λj s M=>Fz [o.size] m4 M/\(s.F=o.size\/m4.size<=s.F)/\∃l,GB (h.size::S) o M s l/\l.length=j/\(∀(i:Nat)(b:Bk),l[i]? =some b->WB c d.length True (D.length+y9 c x.op x.bJ i) b)/\bw l<=1100*bw (x.bt.take j)) ⟨Fz.aC _ _,Or.inl rfl,[],gk.ext pL.mono x4,rfl,E,E⟩ ?_
 rintro j s R av μ hj ⟨L,aG,l,P,aT,ai,az⟩ aI
 have f:=SR u4 L (ad _)
 have hy:=P.aZ
 refine dit (λw=>?_) λw=>?_
 ·intro m6
  have g:J R m6:=J.push _ _
  obtain⟨b,A⟩:=ag (l:=x.bt) (k:=j) V
  have aO:=uE A
  have aP:=sI A
  have ay:∀{M:I},J R M->∀e∈s.F::h.size::S,e<M.size:=λw=>bD (bD hS p.size (r _ E)) (f.trans w).size (by have:=w.size;omega)
  have ij:∀(M:I)(F:O)(N:List Int)(u:O),J R M->au M F N->N.length=y9 c x.op x.bJ j->dL M u b.aA->
   aN bY 252 [.agg #[O.v X,O.v T],O.v ae,O.v F,.agg #[O.v u,vi b.aR],O.v ac,O.v ab] M λrv H=>dV [h.size,m0.size,m.size] M H/\∃am:O,∃ao:Int,rv=.agg #[O.v am,vi ao]/\
    let M1:I:=H.push (.cells (br [.s am,.i ao]) cQ)
    iP M1 cQ [.s O.nil,.i (0:Int)] 32 s (O.mk H.size 0 1 1) λal K=>dV [h.size,m0.size,m.size] M1 K/\av al (cO ((j:Int)+(1:Int))) K/\μ al (cO ((j:Int)+(1:Int))) K<μ s j R:=by
   intro M F N u z hf af G
   have W:=p.trans (f.trans z)
   have b3:=NJ B.types x.op x.bJ j
   refine(G8 (S:=s.F::h.size::S) (ay z) (B.le W.le) (hv.ext W) hf G (ho.ext W) (aB.ext W) ⟨aC,V,V,V,V,af▸aa.bt j b A⟩ (ih b (ar A))).aG (f.trans z) r λss b' H aH C v u'=>⟨_,_,rfl,?_⟩
   refine GB.jN (b:=b') (P.ext pL.mono (z.trans v)) (u'.fz []) aH (by have:=oF x.bt;omega) λT K g2 f2 z2 q2=>⟨J.mO (u'.aM _) f2.ext r,aI V _ _ ⟨(L.then (z.trans v)).LA aG z2.1 q2,?_,_,g2,bF,λi b2 t=>?_,?_⟩⟩
   ·have y:=(L.then (z.trans v)).size
    rcases z2.2 with Y|Y<;>omega
   ·rcases aX i l.length with y|y
    ·rw[aw y]at t;exact ai i b2 t
    ·rw[aF y]at t
     have:i -l.length=0:=by have:=ax t;simp at this;omega
     rw[this]at t;simp at t;subst t
     have:i=j:=V
     subst this
     rw[<-af];exact C.1
   ·rw[mX,sH,xe]
    have:=C.2;omega
  refine⟨λy=>?_,λy=>?_⟩
  ·simp only[aL]at y
   have aS:=(aa.dX.all y).1
   obtain⟨aq,aj⟩:=ag (l:=bU c x.bJ) (k:=j) V
   refine⟨V,V,aq,(dN.1 ((q.le ((L.then g).cK E)).u aj)).2,?_⟩
   have U:=f.trans g
   refine(dm (S:=[]) E ((B.le (p.trans U).le).aY.le (xy _)) B.types aq).aG U r λF N m7 hf C x7 u7=>⟨_,rfl,?_⟩
   subst C
   obtain⟨u,G,Z,e1⟩:=(Q.le (p.trans u7).le).u A
   exact⟨V,V,_,Z,_,e1,ij m7 F _ u (g.trans x7) (hf.le (bo _ _)) (HY y aj).symm G⟩
  ·simp only[an]at y
   obtain⟨u,G,Z,e1⟩:=(Q.le (p.trans (f.trans g)).le).u A
   exact⟨V,V,_,Z,_,e1,ij m6 _ [] u g (lg _ _ _ _ _ _) (HZ y).symm G⟩
 ·have y:l.length=x.bt.length:=V
  rw[cE V]at az
  refine(bB (h.size::S) (ha.ext (p.trans f)) V).aG f r λz F m6 u Y g U=>⟨_,rfl,aJ (g.same _ (f.lt (r _ E))) _,aJ (g.same _ (f.lt (r _ E))) _,?_⟩
  subst Y
  intro m7
  have A:=(P.ext pL.mono g).aZ
  have t:∀e∈h.size::S,e<o.size:=bD hS p.size V
  refine⟨z,s,⟨x.op,x.bJ,0,x.args,l⟩,rfl,?_,?_,⟨aa.MQ (λw=>w.elim) ⟨V,V⟩ y ai,rfl,?_⟩,(p.trans U).aj V _ _⟩
  ·exact(u.done (λe q=>aK (t e q) f.size) V).le (bS E λe q=>ah _ q)
  ·exact mf.le (bS E λe q=>ah _ q) ((P.ext pL.mono g).done pL.mono t bd (by have:=oF x.bt;show l.length<=_;omega))
  ·rw[cg.kT]
   simp only
   omega
def _root_.Go.Vc.OT{σ τ ρ:Type}{n:Nat}(v:n<=9223372036854775807){l:σ}{o:τ}{j:ρ}{h:(σ->τ->ρ->Int->I->Prop)->(σ->τ->ρ->Int->I->Nat)->σ->τ->ρ->Int->I->Prop}(Q:Nat->σ->τ->ρ->I->Prop)(q:Q 0 l o j m)
 (p:∀(k:Nat)(s:σ)(t:τ)(r:ρ)(a:I)(b:σ->τ->ρ->Int->I->Prop)(μ:σ->τ->ρ->Int->I->Nat),k<=n->Q k s t r a->
  (k<n->∀e f d c,Q (k+1) e f d c->b e f d (cO ((k:Int)+1)) c/\μ e f d (cO ((k:Int)+1)) c<μ s t r k a)->h b μ s t r k a):
 ∃(b:σ->τ->ρ->Int->I->Prop)(μ:σ->τ->ρ->Int->I->Nat),b l o j 0 m/\∀s t r i a,b s t r i a->h b μ s t r i a:=by
 refine⟨λs t r i c=>∃k:Nat,i=k/\k<=n/\Q k s t r c,λ_ _ _ i _=>(n -i).toNat,⟨0,rfl,dZ _,q⟩,?_⟩
 rintro s t r i a ⟨k,rfl,u,w⟩
 refine p k s t r a _ _ u w λg e f d c x=>?_
 rw[jM g v]
 exact⟨⟨k+1,rfl,g,x⟩,AK g⟩
structure CB(c:List bO)(e:Nat)(S:List Nat)(m2 M:I)(v lo:List Int)(aA:List cg)(k:Nat)(st inn mn:O):Prop where
 x:J m2 M
 hs:∃l,GS (inn.F::mn.F::S) m2 M st l/\WL c e True v.length l/\dc l=dc (aA.take k)/\sw l<=1100*sw (aA.take k)
 hi:∃l,GI S m2 M inn l/\l.length=v.length+dc (aA.take k)
 hm:∃l,GI S m2 M mn l/\l.length<=lo.length+k/\∀o∈l,0<=o/\o<((v.length+dc (aA.take k):Nat):Int)
 ne:inn.F≠mn.F
def WC(h:WS c e False a x):dn x=1:=aq (h.dX.op.resolve_right λh=>h.1)
def DF:∀b:Bk,TG c d b:=by
 refine Bk.ind ?_;intro aA v ih S m hS ca c2 dX c4 dP c8 ak lo la hn hv hs A bO hp;have bg:=hp.wb.bq;have hw:=Bk.oU aA v;simp only[Bk.iY,Bk.iu]at*;have Ux:=hp.Ux;have Uw:=hp.Uw;have vN:=hp.vN;rw[hw]at Ux Uw vN;apply wi;simp -zeta only[aE,aD];intro m0 o q aJ;obtain⟨F,P,s0,s1,s2⟩:=oE (c:=m0) (a:=o) (b:=q) rfl rfl rfl;have bp:J q aJ:=J.push _ _;have bL:∀an,GS an q aJ (.mk q.size 0 0 0) []:=λan=>GS.new an q;have s3:aJ.size=q.size+1:=by simp[aJ]
 clear_value aJ;clear_value q;have bR:=hs.len;have cM:=yV aA;have dx:=eY aA;refine(bB S (hv.ext (F.trans bp)) V).aG bp P λj _ m4 G p x4 u4=>⟨_,rfl,?_⟩;subst p;refine(bB S (A.ext (F.trans u4)) V).aG u4 P λu _ m5 W p x5 u5=>⟨_,rfl,?_⟩;subst p;have bT:=G.aZ;have bU:=W.aZ;refine OT (n:=aA.length) (bR▸hs.gA) (λk z j u f=>CB c d.length (o.size::S) q f ak lo aA k z j u) ⟨u5,⟨[],((bL _).ext fA.mono x4).ext fA.mono x5,WL.nil _ _ _ _,rfl,E⟩,⟨ak,((G.ext x5).cF (λ_ h=>h) bp.size).any,E⟩,⟨lo,(W.cF (λ_ h=>h) u4.size).any,V,by simpa using hp.aV⟩,V⟩ ?_;clear G W bT bU bL;rintro k z j u B bs μ hk ⟨x6,⟨T,gs,aX,Z,dy⟩,⟨li,G,aU⟩,⟨lm,W,df,bP⟩,dr⟩ a3
 have v6:=F.trans x6;have dj:=G.len bd;have dh:=qT (aA.take k);have dp:=oV k aA;have N:∀g∈o.size::S,g<q.size:=bD hS F.size (P _ E);have cz:au B j li:=(G.done N V).le (bo _ _);have cB:au B u lm:=(W.done N V).le (bo _ _);have dJ:=gs.aZ;have bT:=G.aZ;have bU:=W.aZ;have cL:=eY (aA.take k);have dk:k<=sw (aA.take k):=by rw[cZ]at cL;omega
 refine dit (λh=>?_) λh=>?_
 ·obtain⟨x,r⟩:=ag (l:=aA) (k:=k) V;obtain⟨a,kk,ha,bN,g0,g1,g2,g3,g4⟩:=hs.u r;refine⟨V,V,_,v6.D g0,_,v6.D g1,_,v6.D g2,_,v6.D g3,_,v6.D g4,?_⟩;intro m7 C;have x8:J B C:=(J.push B _).aj (ad _) _ _;have s8:C.size=B.size+1:=by simp[C,m7,az]
  clear_value C;have U:=x6.trans x8;have z6:=x6.size;have t:∀{f:I},C.size<=f.size->∀b∈[B.size,o.size,m0.size,m.size],b<f.size:=λh b hb=>by
   rcases List.mem_cons.1 hb with p|p
   ·omega
   ·have:=U.lt (P b p);omega
  have dD:=nY r;have dB:=oX r;have dC:=cg.kT x;have af:WS c d.length False li.length x:=by rw[aU];exact bg.1 k x r
  have bM:=WC af;have dz:=cM (k+1);have dg:=oF x.bt;have dq:=eY T;have ae:∀{f:I},J q f->At f ca c2 a kk c d x:=λh=>⟨hn.le (F.trans h).le,ha.ext (F.trans h),af.dX.call⟩;have aW:∀{f:I},GI (o.size::S) q f j li->au f j li:=λw=>(w.done N V).le (bo _ _);have be:∀{f:I},GI (o.size::S) q f u lm->au f u lm:=λw=>(w.done N V).le (bo _ _);have ao:∀{f:I}{an:List Nat},C.size<=f.size->(∀g∈an,g<f.size)->∀g∈an++o.size::S,g<f.size:=λh hb g e=>by
   rcases List.mem_append.1 e with h|h
   ·exact hb g h
   ·have:=N g h;omega
  refine(mu (ae U).Od (aW (G.ext x8)) (ae U).args (bN.le (F.trans U).le) V λb _=>lQ b).aG (J.aC C) (t (ad _)) λty m9 x9 _=>⟨_,rfl,?_⟩;intro aZ;have b3:J C aZ:=x9.aM _;have e0:au (bz [] aZ) (.mk m9.size 0 0 0) []:=lg _ _ _ _ _ _;clear_value aZ;rw[jM (k:=k) (n:=aA.length) V (bR▸hs.gA)]at a3⊢
  refine(xI (.mk aA v) [] aZ E c4 _ _ _ (k+1) (hs.le (F.trans (U.trans b3)).le) e0 (by simp only[Bk.iY];omega) (by simp only[Bk.oU,eG];omega)).aG b3 (t (ad _)) λus ul cR hu cO dY bn=>⟨_,rfl,?_⟩;rw[Bk.oU,eG]at cO;refine(LY (S:=[]) E hu ((bO.ext (F.trans (U.trans bn))).le (xy _)) V).aG bn (t (ad _)) λlt ll cS ba bZ c5 av=>⟨_,rfl,?_⟩;have aI:∀{f:I},GI [] cR f lt ll->au f lt ll:=λw=>(w.done E (by have:=bZ.2;omega)).le (bo _ _);have bt:=U.trans av;have bA:=G.ext (x8.trans av);have bJ:=W.ext (x8.trans av);have cu:=gs.ext fA.mono (x8.trans av);refine(DH (S:=[]) E (ae bt) (aW bA) af.dX.args (be bJ) (aI ba) V).aG (J.aC cS) (t av.size) λdu dl cT cn b0 aw _=>⟨_,rfl,?_⟩;have c9:=b0.2;have d0:=av.size;have d3:=aw.size;have dZ:=bn.size;have ee:=c5.size;refine(dU (S:=[z.F,j.F,u.F]++o.size::S) (ao V bF) 14 ((cn.done E V).le (bo _ _)) V).aG (J.aC cT) (t V) λdR _ a0 ci p ax _=>⟨_,rfl,?_⟩;subst p;have b7:=(bt.trans aw).trans ax;have d4:=ax.size;refine GS.all (cu.ext fA.mono (aw.trans ax)) (b7.fz []) (ci.done fA.mono (ao (an:=[z.F,j.F,u.F]) V bF) bd bF) bF λbm bV bw cb b4 a5=>⟨λg e=>a5 g (t V g e) ?_,?_⟩
  ·simp at e;omega
  have aS:J q bV:=cb.ext;have cA:j.F<a0.size:=V;have cC:u.F<a0.size:=V;have cD:z.F≠j.F:=gs.IH G bd;have cE:z.F≠u.F:=gs.IH W bd;have dm:=ba.aZ;have bC:=(bA.ext (aw.trans ax)).iv (a5 _ cA cD.symm);have bK:=(bJ.ext (aw.trans ax)).iv (a5 _ cC cE.symm);have bH:=(ba.ext (aw.trans ax)).iv (a5 _ V V);have ds:bm.F=z.F\/a0.size<=bm.F:=b4.2;have dF:=bw.aZ;have d5:=b4.1;refine(Fl (S:=[bm.F,j.F,u.F]++o.size::S) (ao V bF) (ae aS).Od (aW bC) (ae aS).args (bN.le (F.trans aS).le) (be bK) (aI bH) (by rw[aU];exact bP) V (by have:=bZ.2;omega) V af (ih x (ar r))).aG (J.aC bV) (t V) λdd de x' bW cv cw c1 ay _=>⟨_,_,_,_,_,rfl,?_⟩;obtain⟨cP,cK,dA⟩:=c1;have b8:=aS.trans ay;have d6:=ay.size;refine GS.jN (x:=x') (bw.ext fA.mono ay) (b8.fz []) cv cw bF λaL bh bx cc b5 a6=>⟨λg e=>?_,?_⟩
  ·have:=t (f:=bW) V g e;rw[a6 g this (by simp at e;omega),(J.push bW _).same g this]
  have a8:J q bh:=cc.ext;have bE:=(bC.ext ay).iv (a6 _ V V);have ct:=(bK.ext ay).iv (a6 _ V V);have a_:=(bH.ext ay).iv (a6 _ V V);have dv:aL.F=z.F\/a0.size<=aL.F:=by have:=b5.2;omega
  have d7:=b5.1;refine(Fs (S:=[]) E (ae a8) (aW bE) af.dX.args (be ct) (aI a_) V).aG (J.aC bh) (t V) λaq lf cV gf bk aB _=>⟨_,rfl,?_⟩;have bu:=a8.trans aB;have d8:=aB.size;have cy:∀{f:I},GI [] bh f aq lf->au f aq lf:=λw=>(w.done E (by have:=bk.2;omega)).le (bo _ _);refine(Ft (S:=[]) E (ae bu) (cy gf) (aI (a_.ext aB)) V).aG (J.aC cV) (t V) λc3 R cW gd b1 aC _=>⟨_,rfl,?_⟩;have d9:=aC.size;have da:=b1.2;have c_:=bk.2;have dI:=gf.aZ;have dH:=gd.aZ;have dG:=bx.aZ;refine(dU (S:=[aL.F,aq.F,j.F]++o.size::S) (ao V bF) 15 ((gd.done E V).le (bo _ _)) V).aG (J.aC cW) (t V) λdT _ cX ck p al _=>⟨_,rfl,?_⟩;subst p;have b9:=(bu.trans aC).trans al;have d_:=al.size;have cj:GS ([aq.F,j.F]++o.size::S) q cX aL _:=bx.re fA.mono (Y:=[]) (((aB.trans aC).trans al).fz []) E E λg e=>by
   simp only[cN,dS,aT]at e⊢;rcases e with h|h|h
   ·exact Or.inr V
   ·exact Or.inl (Or.inl h)
   ·exact Or.inl (Or.inr (Or.inr h))
  refine GS.all cj (b9.fz []) (ck.done fA.mono (ao (an:=[aL.F,aq.F,j.F]) V bF) bd bF) bF λH a1 cl cd c6 aK=>⟨λg e=>aK g (t V g e) ?_,?_⟩
  ·simp at e;omega
  have b_:J q a1:=cd.ext;have ea:=c6.1;have cr:=((bE.ext aB).ext (aC.trans al)).iv (aK _ V V);have cq:=(gf.ext (aC.trans al)).iv (aK _ V V);have cm:=(gd.ext al).iv (aK _ V V);have cs:=((a_.ext aB).ext (aC.trans al)).iv (aK _ V V);have bc:au a1 c3 R:=(cm.done E V).le (bo _ _);have cx:=bc.len;have co:GI (o.size::S) q a1 aq lf:=(cq.cF (λ_ h=>h) a8.size).any;refine dt (n:=R.length) (cx▸bc.gA) (λ_ s f=>J a1 f/\∃l,GI (o.size::S) q f s l/\GS ([s.F,j.F]++o.size::S) q f H (T++dl.map (dW 14)++[x']++R.map (dW 15))/\nA lf l/\j.F≠s.F/\C.size<=s.F) ⟨J.aC _,lf,co,cl,⟨λ_ h=>h,ad _⟩,V,V⟩ ?_;rintro i s bi I2 μ2 hi ⟨aF,l,gl,bb,Q,cF,dw⟩ cY;have bv:=b_.trans aF;have eb:=aF.size;have cQ:=gl.aZ;refine dit (λh2=>?_) λh2=>?_
  ·obtain⟨K,L⟩:=ag (l:=R) (k:=i) V;refine⟨V,V,K,(bc.ext aF).u L,?_⟩;refine(yU (S:=[]) E (((gl.done N (by have:=Q.2;omega)).le (bo _ _)).le (xy _)) K (by have:=Q.2;omega)).aG (J.aC bi) (t V) λac X ab g2 y D _=>⟨_,rfl,cY V _ _ ⟨aF.trans D,X,(g2.cF (λ_ h=>h) bv.size).any,?_,⟨λaG hz=>Q.1 aG (y.1 aG hz),bI y.2 Q.2⟩,?_,?_⟩⟩
   ·have aa:=g2.aZ;refine bb.re fA.mono (Y:=[]) (D.fz []) E E λg e=>?_;simp only[cN,dS,aT]at e⊢;rcases e with h|h|h
    ·exact Or.inr V
    ·exact Or.inl (Or.inr (Or.inl h))
    ·exact Or.inl (Or.inr (Or.inr h))
   ·have:=g2.aZ;omega
   ·have:=g2.aZ;omega
  intro dM;have bG:=cr.ext aF;refine GI.jN bG (bv.fz []) N V λaa ap ab ce b6 a7=>⟨λg e=>?_,?_⟩
  ·have:=t (f:=bi) V g e;rw[a7 g this (by simp at e;omega),(J.push bi _).same g this]
  have a9:J q ap:=ce.ext;have c7:=b6.1;have cI:H.F≠j.F:=bb.IH bG bd;have aH:=gl.iv (a7 _ cQ.2 cF.symm);have bQ:=b6.2;have ac:GS ([s.F,aa.F]++o.size::S) q ap H _:=bb.re fA.mono (Y:=[j.F]) ⟨c7,λg e hn=>a7 g e (by simpa using hn)⟩ E (by simpa using cI) λg e=>by
   simp only[cN,dS,aT]at e⊢;rcases e with h|h|h
   ·exact Or.inl (Or.inl h)
   ·rcases bQ with p|p
    ·exact Or.inl (Or.inr (Or.inl (h.trans p)))
    ·exact Or.inr V
   ·exact Or.inl (Or.inr (Or.inr h))
  have bj:aa.F≠s.F:=by rcases bQ with p|p<;>omega
  have K:WL c d.length True ak.length (T++dl.map (dW 14)++[x']++R.map (dW 15))/\dc (T++dl.map (dW 14)++[x']++R.map (dW 15))=dc (aA.take (k+1))/\sw (T++dl.map (dW 14)++[x']++R.map (dW 15))+2<=1100*sw (aA.take (k+1)):=by
   have di:dn x'=1:=by unfold dn at bM⊢;rw[cK];exact bM
   have d1:dc (dl.map (dW 14))=0:=jc V _;have d2:dc (R.map (dW 15))=0:=jc V _;refine⟨((aX.append (pO V λy A=>?_)).xH ?_).append (pO V λy A=>?_),?_,?_⟩
   ·rw[Z,<-aU];exact af.dX.args y (b0.1 y A)
   ·rw[cp,d1,Z,iJ,<-aU];exact cP
   ·have:=af.dX.args y (b1.1 y A);rw[cp,cp,d1,Z,jG,qU];omega
   ·rw[cp,cp,cp,d1,d2,Z,jG,qU];omega
   ·rw[db,db,db,mE,mE,ly,tw];omega
  have bf:∀y∈l,0<=y/\y<((ak.length+dc (aA.take (k+1)):Nat):Int):=λy A=>by
   have:=bP y (bk.1 y (Q.1 y A));omega
  have bX:∀(f:I),J ap f->bs H aa s ((k+1:Nat):Int) f/\μ H aa s ((k+1:Nat):Int) f<μ z j u k B:=λf r=>
   a3 V _ _ _ _ ⟨a9.trans r,⟨_,(ac.re fA.mono (Y:=[]) (r.fz []) E E λg e=>Or.inl (by simp only[cN,dS,aT]at e⊢;rcases e with h|h|h;exact Or.inr (Or.inl h);exact Or.inl h;exact Or.inr (Or.inr h))),K.1,K.2.1,V⟩,⟨_,ab.ext r,bF⟩,⟨l,aH.ext r,by have:=Q.2;omega,bf⟩,bj⟩
  have dK:=ac.aZ;have c0:∀(f:I),J ap f->aN bY 125 [vi (15:Int),vi (j.len:Int)] f λrv D=>dV [B.size,o.size,m0.size,m.size] f D/\∃aM:Int,∃aO:Int,∃aP:Int,∃aQ:O,∃aR:O,rv=.agg #[vi aM,vi aO,vi aP,O.v aQ,O.v aR]/\
   let M2:I:=D.push (.cells (br [.i aM,.i aO,.i aP,.s aQ,.s aR]) fp)
   iP M2 fp [.i (0:Int),.i (0:Int),.i (0:Int),.s O.nil,.s O.nil] 72 H (O.mk D.size 0 1 1) λb2 L=>dV [B.size,o.size,m0.size,m.size] M2 L/\bs b2 aa s ((k+1:Nat):Int) L/\μ b2 aa s ((k+1:Nat):Int) L<μ z j u k B:=by
   intro f r
   have zx:=r.size
   have dE:=ab.aZ
   refine(hO (S:=[H.F,s.F,aa.F]++o.size::S) (ao V bF) 15 (j.len:Int)).mono λrv D⟨pa,pk,p,X,h2,ai⟩=>?_
   subst p
   have ed:=ai.size
   have aY:=r.trans ai
   refine⟨ai.de (t V),_,_,_,_,_,rfl,?_⟩
   have cG:H.F≠aa.F:=ac.IH ab bd
   have cH:H.F≠s.F:=ac.IH aH bd
   refine GS.jN (x:=dW 15 (j.len:Int)) (ac.ext fA.mono aY) ((a9.trans aY).fz []) X h2 (by have:=K.2.2;have:=eY (T++dl.map (dW 14)++[x']++R.map (dW 15));omega) λr' L w aV aG a4=>⟨λg e=>?_,a3 V _ _ _ _ ⟨aV.ext,⟨_,(w.re fA.mono (Y:=[]) ((J.aC _).fz []) E E λg e=>Or.inl (by simp only[cN,dS,aT]at e⊢;rcases e with h|h|h;exact Or.inr (Or.inl h);exact Or.inl h;exact Or.inr (Or.inr h))),K.1.xH (Bg V ?_),?_,?_⟩,⟨_,(ab.ext aY).iv (a4 _ V cG.symm),bF⟩,⟨l,(aH.ext aY).iv (a4 _ V cH.symm),by have:=Q.2;omega,bf⟩,bj⟩⟩
   ·have:=t (f:=D) V g e
    rw[a4 g this (by simp at e;omega),(J.push D _).same g this]
   ·rw[K.2.1];omega
   ·rw[cp,K.2.1];simp[jG,dn,dW,nt]
   ·rw[db,ly,tw]
    have h5:(dW 15 (j.len:Int)).w=2:=by rw[cg.kT];rfl
    have:=K.2.2;omega
  refine⟨λ_=>?_,λh0=>⟨λX=>by rw[h0]at X;simp at X,λ_=>bX ap (J.aC _)⟩⟩;refine(cU (aI (((cs.ext aF).iv (a7 _ V V)))) _).any.aG (J.aC ap) (t V) λb a2 am _=>⟨_,rfl,λ_=>?_,λ_=>⟨λ_=>c0 a2 am,λ_=>bX a2 am⟩⟩;intro dN;have cJ:H.F≠s.F:=ac.IH aH bd;have ec:=am.size;refine GI.jN (aH.ext am) ((a9.trans am).fz []) N (by have:=Q.2;omega) λdQ dO ch cf bq bl=>⟨λg e=>?_,a3 V _ _ _ _ ⟨cf.ext,⟨_,(ac.ext fA.mono am).re fA.mono (Y:=[s.F]) ⟨bq.1,λg e hn=>bl g e (by simpa using hn)⟩ E (by simpa using cJ) λg e=>?_,K.1,K.2.1,V⟩,⟨_,(ab.ext am).iv (bl _ ?_ bj),bF⟩,⟨_,ch,?_,?_⟩,?_⟩⟩
  ·have:=t (f:=a2) V g e;rw[bl g this (by simp at e;omega),(J.push a2 _).same g this]
  ·simp only[cN,dS,aT]at e⊢;rcases e with h|h|h
   ·exact Or.inl (Or.inr (Or.inl h))
   ·rcases bq.2 with p|p
    ·exact Or.inl (Or.inl (h.trans p))
    ·exact Or.inr V
   ·exact Or.inl (Or.inr (Or.inr h))
  ·have:=ab.aZ;omega
  ·have:=Q.2;simp;omega
  ·intro y A;rcases List.mem_append.1 A with A|A
   ·exact bf y A
   ·simp at A;omega
  ·have:=ab.aZ;rcases bq.2 with p|p<;>omega
 ·have aa:k=aA.length:=V;subst aa;rw[eT]at*;have Q:∀(f:I)(H:O)(t:List cg),J q f->GS (j.F::u.F::o.size::S) q f H t->WL c d.length True ak.length t->dc t=dc aA->sw t<=1100*sw aA+2->
   let y:I:=aj f o.size 0 [.s H,.i v]
   ∃s b,Value.agg #[O.v H,vi v]=.agg #[O.v s,vi b.aR]/\dL (bz S y) s b.aA/\(WB c d.length True ak.length b/\b.w+1050<=1100*(Bk.mk aA v).w)/\J m y:=by
   intro f H t r w X h2 h3 y
   have ab:=eY t
   have:=w.aZ
   refine⟨H,.mk t v,rfl,dL.le (bS E λg e=>ah _ e) (w.re fA.mono (S':=o.size::S) (Y:=[]) (Fz.aC _ _) E E (λg e=>Or.inl (ah _ (ah _ e)))|>.done fA.mono N bd bF),⟨WB.of X (by rw[h2];exact bg.2),?_⟩,(F.trans r).aj V _ _⟩
   rw[Bk.oU,Bk.oU];omega
  have kv:∀(f:I),J B f->aN bY 125 [vi (14:Int),vi v] f λrv D=>dV [o.size,m0.size,m.size] f D/\∃aM:Int,∃aO:Int,∃aP:Int,∃aQ:O,∃aR:O,rv=.agg #[vi aM,vi aO,vi aP,O.v aQ,O.v aR]/\
   let M2:I:=D.push (.cells (br [.i aM,.i aO,.i aP,.s aQ,.s aR]) fp)
   iP M2 fp [.i (0:Int),.i (0:Int),.i (0:Int),.s O.nil,.s O.nil] 72 z (O.mk D.size 0 1 1) λR L=>dV [o.size,m0.size,m.size] M2 L/\
    let y:I:=aj L o.size 0 [.s R,.i v]
    ∃s b,Value.agg #[O.v R,vi v]=.agg #[O.v s,vi b.aR]/\dL (bz S y) s b.aA/\(WB c d.length True ak.length b/\b.w+1050<=1100*(Bk.mk aA v).w)/\J m y:=by
   intro f r
   refine(hO (S:=z.F::j.F::u.F::o.size::S) (λg e=>?_) 14 v).mono λrv D⟨a,kk,p,X,h2,x1⟩=>?_
   ·have:=r.size
    simp at e
    rcases e with h|h|h|h|h
    ·omega
    ·omega
    ·omega
    ·have:=x6.lt (P o.size E);omega
    ·have:=hS _ h;have:=v6.size;omega
   subst p
   have ai:=x6.trans (r.trans x1)
   refine⟨J.mO (x6.trans r) ai P,_,_,_,_,_,rfl,?_⟩
   refine GS.jN (x:=dW 14 v) (gs.ext fA.mono (r.trans x1)) (ai.fz []) X h2 (by have:=eY T;omega) λr' L w aV aG a4=>⟨J.mO (ai.aM _) aV.ext P,Q L r' _ aV.ext w (aX.xH (Bg V (by rw[Z];exact bg.2))) ?_ ?_⟩
   ·rw[cp,Z];simp[jG,dn,dW,nt]
   ·rw[db];simp[ly,cg.kT,dW];omega
  obtain⟨aG,hz⟩:=ag (l:=li) (k:=v.toNat) V;refine⟨V,V,aG,cz.u hz,λ_=>?_,λ_=>Q B z T x6 gs aX Z V⟩;refine(cU (bO.ext v6) v).any.aG x6 P λb m7 K u7=>⟨_,rfl,λ_=>kv m7 K,λ_=>?_⟩;exact(cU (cB.ext K) v).any.aG u7 P λb C x8 U=>⟨_,rfl,λ_=>kv C (K.trans x8),λ_=>Q C z T U ((gs.ext fA.mono K).ext fA.mono x8) aX Z V⟩
end
end Go.Proofs.YtakpkjhmbbfniaaGreat
