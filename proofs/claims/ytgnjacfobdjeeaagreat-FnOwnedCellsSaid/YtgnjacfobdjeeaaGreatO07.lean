/- Part of a proof, joined by a program. -/
import Derived.Test.YtgnjacfobdjeeaaGreatO06
set_option linter.unusedVariables false
set_option linter.unusedSimpArgs false
set_option linter.defProp false
set_option linter.constructorNameAsVariable false
set_option maxHeartbeats 8000000
set_option maxRecDepth 100000
namespace Go.Proofs.YtgnjacfobdjeeaaGreat
open Go.Vc
section
variable{m:I}{s:O}{a:List Int}
def dW.RT{α:Type}{d:Nat}{R:List Ce->α->Prop}{a:List α}(h:dW m d R s a){k:Nat}(n:k<=a.length):dW m d R (s.cut 0 k d) (a.take k):=by
 have c:=h.len;have f:=h.cap;have i:=h.fL;cases s with
 |nil=>
  simp at c;have:k=0:=V;subst this;exact⟨by simp[O.cut],by simp[O.cut],by simp[O.cut],E⟩
 |Bj e o b=>
  simp at c;have:k=0:=V;subst this;exact⟨by simp[O.cut],by simp[O.cut],by simp[O.cut],E⟩
 |mk e o p l=>
  simp only[O.fj,O.LD]at c f i;refine⟨by simp[O.cut];omega,by simp[O.cut];omega,by simp[O.cut];omega,λj x b=>?_⟩;have g:j<k:=by have:=ax b;simp at this;omega
  rw[mg,aq g]at b;have:=h.je j x b;simpa[O.cut]using this
def nN(aT:O)(t:Int)(m:I):dm bY 142 [O.v aT,vi t] m (wU aT.len t):=by
 apply Dg;refine⟨λh=>fA ?_ (J.aC _),λh=>bX ?_ (J.aC _)⟩<;>simp at h
 ·simp[wU,h]
 ·unfold wU;omega
def tK{j:O}(c:ar m j a)(aT:O):dm bY 141 [O.v aT,O.v j] m (CH aT.len a):=by
 apply zB;have o:=c.len;refine dO (n:=a.length) (o▸c.fL) (λe b=>J m b/\∀t∈a.take e,wU aT.len t) ⟨J.aC _,E⟩ ?_;rintro e t I μ s ⟨b,i⟩ q
 refine dit (λh=>?_) λh=>?_
 ·obtain⟨x,d⟩:=ag (l:=a) (k:=e) V;refine⟨V,V,x,by simpa using b.D (c.u d),?_⟩;refine(nN _ _ _).then λr u g f=>⟨_,rfl,λh=>?_,λh=>?_⟩
  ·exact bX (λp=>nb g h (p x (au d))) (b.trans f)
  ·exact q V _ ⟨b.trans f,bD d i (yb g h)⟩
 ·exact iN (cF V i) b
def xu(a:Int)(m:I)(d:a≠7/\a≠8):dm bY 86 [vi a] m (kE a):=by
 apply tO;refine⟨λh=>⟨λc=>iN ?_ (J.aC _),λc=>⟨λb=>iN ?_ (J.aC _),λb=>fA ?_ (J.aC _)⟩⟩,λh=>⟨λb=>iN ?_ (J.aC _),λb=>fA ?_ (J.aC _)⟩⟩<;>simp[kE]at* <;>omega
def tL{aT:O}{a:List bq}(e:bR m aT a)(x:a.length<=4)(r:∀d∈a,d.cons.length<=3):GQ bY 29 [O.v aT] m (vi (eC a).length):=by
 apply zC;simp -zeta only[aE,aD];have v:=e.len;refine dC (n:=a.length) V (λj g b=>J m b/\g=(fc a j:Nat)/\fc a j<=3*j) ⟨J.aC _,by cases a<;>rfl,by cases a<;>simp[fc]⟩ ?_;rintro j g y I μ w ⟨c,rfl,u⟩ s
 refine dit (λq=>?_) λq=>?_
 ·obtain⟨d,b⟩:=ag (l:=a) (k:=j) V;obtain⟨h,f,i,o,p⟩:=(bR.ext c e).u b;refine⟨V,V,_,i,_,o,h,p,?_⟩;intro z A;have t:=r d (au b);refine s V _ _ ⟨(c.aM _).aj c.size _ _,?_,?_⟩
  ·rw[aP V (by have:=f.len;omega),qA b,f.len];rfl
  ·rw[qA b];omega
 ·refine⟨?_,c⟩;rw[mM a j V]
def OY{a:List bq}(h:dv a):∀d∈a,d.cons.length<=3:=λd b=>by
 obtain⟨k,c⟩:=List.mem_iff_getElem?.1 b;exact jX h c
def Pb:∀(a:List bq)(k:Nat),(eC (a.take k)).length=fc a k
 |[],k=>by simp[eC,Od]
 |d::a,0=>by simp[eC,fc]
 |d::a,k+1=>by
  have:=Pb a k;simp only[Kw,eC,kO,a9,fc]at this⊢;omega
def IN{aT:O}{a:List bq}(b:bR m aT a)(e:dv a)(t:Int):aN bY 106 [O.v aT,vi t] m λP c=>∃s,P=O.v s/\ar c s (bU a t)/\J m c:=by
 apply Dd;have Z:=b.len;have Y:=b.cap;have o:∀(h:¬(1<=t/\t<=a.length)),ar m .nil (bU a t):=λh=>by
  unfold bU;rw[ae h];exact⟨rfl,ad _,E,E⟩
 have:=e.len;refine dit (λh=>?_) λh=>?_
 ·exact⟨_,rfl,o V,J.aC _⟩
 refine dit (λB=>?_) λB=>?_
 ·exact⟨_,rfl,o V,J.aC _⟩
 have w:cK (t -1)=((t.toNat -1:Nat):Int):=by rw[aP V V];omega
 rw[w];obtain⟨d,f⟩:=ag (l:=a) (k:=t.toNat -1) V;have x:bU a t=(List.range d.cons.length).map λi=>((fc a (t.toNat -1)+i:Nat):Int):=by
  unfold bU;rw[aq V,f];rfl
 rw[x];have W:=qW e (t.toNat -1);have X:=jX e f;refine⟨V,V,V,?_⟩;have H:bR m (aT.cut 0 (t.toNat -1) 3) (a.take (t.toNat -1)):=dW.RT b V;have g:=tL H bK (λd b=>OY e d (cT b));rw[Pb]at g;refine g.then λL u=>⟨_,rfl,?_⟩;obtain⟨z,I,R,S,A⟩:=(bR.ext u b).u f;have aa:=I.len;refine⟨V,V,z,by simpa using A,?_⟩;refine dC (n:=d.cons.length) V (λj s c=>J m c/\iO m c aB 1 s (((List.range j).map λi=>((fc a (t.toNat -1)+i:Nat):Int)).map Ce.i)/\s.len=j) ⟨u,by simpa using iO.nil m L aB 1,rfl⟩ ?_;rintro j s M Q μ hj ⟨r,p,q⟩ N
 refine dit (λC=>?_) λC=>?_
 ·intro v;have y:cK (((fc a (t.toNat -1):Nat):Int)+(j:Int))=((fc a (t.toNat -1)+j:Nat):Int):=by rw[aP V V];omega
  have K:v=M.push (.cells (br [.i (((fc a (t.toNat -1)+j:Nat):Int))]) aB):=by rw[<-y]
  clear_value v;subst K;refine iO.append (zs:=[.i 0]) (f:=[.i ((fc a (t.toNat -1)+j:Nat):Int)]) (p.ext (J.push _ _)) (r.aM _) rfl (cB.push _ _ _).je (by simp[q];omega) ?_;intro ab c D F G T U _;refine N V _ _ ⟨F,?_,by simp[G,q]⟩
  rw[P6,eP,eP];exact D
 ·have:j=d.cons.length:=V;subst this;exact⟨_,rfl,ar.ij p bK,r⟩
def MZ{a:List bq}{i j:Nat}{d:bq}{f:List Int}(h:a[i]? =some d)(b:d.cons[j]? =some f):bT a ((fc a i+j:Nat):Int)=f:=by
 unfold bT;rw[aq V,rO,pv a i j d h (ax b),b];rfl
def J4{aT:O}{a:List bq}(t:bR m aT a)(u:dv a)(c:Int)(hc: -1000000<=c/\c<=1000000):aN bY 202 [O.v aT,vi c] m λZ f=>∃Y s,Z=.tuple #[vi Y,.agg #[O.v s]]/\ar f s (bT a c)/\J m f:=by
 apply EL;simp -zeta only[aE,aD];intro g;have W:J m g:=(J.aC m).aM _;have ah:m.size<g.size:=by simp[g]
 clear_value g;have ac:=t.len;have:=u.len;refine dC (n:=a.length) V (λj z f=>J m f/\g.size<=f.size/\z=c -(fc a j:Nat)/\¬(0<=c/\c<fc a j)) ⟨W,ad _,by cases a<;>simp[fc],by cases a<;>simp[fc]⟩ ?_;rintro j z w I μ hj ⟨d,U,rfl,af⟩ X
 refine dit (λP=>?_) λP=>?_
 ·obtain⟨A,b⟩:=ag (l:=a) (k:=j) V;obtain⟨h,D,K,L,B⟩:=(bR.ext d t).u b;have ae:=D.len;have ab:=qW u j;have h6:=jX u b;refine⟨V,V,_,K,_,L,h,B,?_⟩;intro m3 x;have e:J w x:=((J.aC w).aM _).aj (ad _) _ _;have F:¬(0<=c -(fc a j:Nat)/\c -(fc a j:Nat)<A.cons.length)->I (cK (c -(fc a j:Nat) -(h.len:Int))) (cK ((j:Int)+1)) x/\μ (cK (c -(fc a j:Nat) -(h.len:Int))) (cK ((j:Int)+1)) x<μ (c -(fc a j:Nat)) j w:=by
   intro hq;refine X V _ _ ⟨d.trans e,bJ U e.size,?_,?_⟩
   ·rw[aP V V,qA b];omega
   ·rw[qA b];omega
  refine⟨λi=>⟨λr=>?_,λr=>F ?_⟩,λi=>F ?_⟩
  ·simp only[ao]at i r;obtain⟨aa,v⟩:=ag (l:=A.cons) (k:=(c -(fc a j:Nat)).toNat) V;obtain⟨q,hg,C⟩:=(nA.ext e D).u v;refine⟨V,V,q,C,?_⟩;intro y;have o:J m y:=(d.trans e).aj (ad _) _ _;refine⟨_,q,rfl,?_,o⟩;have p:bT a c=aa:=by
    have:=MZ b v;rw[<-this];congr 1;omega
   rw[p];obtain⟨G,Q,_,_,M⟩:=t.u b;have R:h=G:=by
    have:=d.D M;rw[B]at this;exact O.GM.1 (by simpa using this)
   subst R;obtain⟨H,S,N⟩:=Q.u v;have T:q=H:=by
    have:=(d.trans e).D N;rw[C]at this;exact O.GM.1 (by simpa using this)
   subst T;exact S.ext o
  ·simp at i r;omega
  ·simp at i;omega
 ·intro y;have o:J m y:=d.aj (ad _) _ _;refine⟨_,.nil,rfl,?_,o⟩;have p:bT a c=[]:=by
   unfold bT;split
   ·rw[cb (by rw[<-mM a j V];omega)];rfl
   ·rfl
  rw[p];exact⟨rfl,ad _,E,E⟩
def EM{aT:O}{a:List bq}(g:bR m aT a)(i:dv a)(c:Int)(f: -1000000<=c/\c<=1000000):aN bY 143 [O.v aT,vi c] m λv d=>∃s,v=O.v s/\ar d s (bT a c)/\J m d:=by
 apply zD;simp -zeta only[aE,aD];refine(J4 g i c f).mono ?_;rintro _ e ⟨t,s,rfl,h,j⟩;refine⟨t,s,rfl,?_⟩;intro l k;have b:J e k:=((J.aC e).aM _).aj (ad _) _ _;exact⟨s,rfl,h.ext b,j.trans b⟩
def tX(j:ar m s a)(g:Nat)(i f:Array Value)(v:GL.elem g=true)(q:Int->Prop)
 (u:∀x∈a,∀c,J m c->dm bY g (i.toList++[vi x]++f.toList) c (q x)):
 aN bY 124 [O.v s,.func (.func g) i f] m λB c=>∃r:Int,B=vi r/\J m c/\
  ((r= -1/\∀x∈a,¬q x)\/∃(b:Nat)(x:Int),r=b/\a[b]? =some x/\q x/\∀y∈a.take b,¬q y):=by
 apply oP s (.func g,i,f)
 have w:=j.len
 refine dO (n:=a.length) (w▸j.fL) (λb c=>J m c/\∀y∈a.take b,¬q y) ⟨J.aC _,E⟩ ?_
 rintro b z I μ D ⟨d,o⟩ A
 refine dit (λh=>?_) λh=>?_
 ·obtain⟨x,e⟩:=ag (l:=a) (k:=b) V
  refine⟨V,V,x,by simpa using d.D (j.u e),g,rfl,v,?_⟩
  refine(u x (au e) z d).then λC F t p=>⟨_,rfl,λh=>?_,λh=>?_⟩
  ·exact⟨_,rfl,d.trans p,Or.inr ⟨b,x,rfl,e,t.1 h,o⟩⟩
  ·exact A V _ ⟨d.trans p,bD e o (fb t h)⟩
 ·exact⟨_,rfl,d,Or.inl ⟨rfl,cF V o⟩⟩
def lG(j:ar m s a)(g:Nat)(c b:Array Value)(i:GL.elem g=true)(q:Int->Prop)
 (f:∀x∈a,∀d,J m d->dm bY g (c.toList++[vi x]++b.toList) d (q x)):
 dm bY 69 [O.v s,.func (.func g) c b] m (∃x∈a,q x):=by
 apply nu s (.func g,c,b)
 refine(tX j g c b i q f).mono ?_
 rintro _ p ⟨r,rfl,k,h⟩
 refine⟨_,rfl,fA ?_ k⟩
 simp only[wS,ao]
 rcases h with⟨rfl,h⟩|⟨o,x,rfl,d,e,n⟩
 ·exact⟨λl=>V,λ⟨x,d,e⟩=>absurd e (h x d)⟩
 ·exact⟨λ_=>⟨x,au d,e⟩,λ_=>V⟩
end
section
variable{s c k d r:O}{b:I}{e:List Nat}{Q:List Int->Prop}{v:List Int}{x:cq}
structure _root_.Go.Vc.fD where
 params:List Int
 cW:List Int
 aR:Int
 body:Bk
def gH(m:I)(a:List Ce)(r:fD):Prop:=∃p l s,a=[.s p,.s l,.i r.aR,.s s,.i r.body.aR]/\ar m p r.params/\ar m l r.cW/\dN m s r.body.aA
abbrev wV(m:I)(s:O)(l:List fD):Prop:=dW m 5 (gH m) s l
structure dJ(m:I)(d r:O)(ds:List bq)(rs:List fD):Prop where
 aT:bR m d ds
 gQ:wV m r rs
 types:dv ds
 mN:rs.length<=4
def gH.le{m b:I}(h:Le m b){a:List Ce}{x:fD}:gH m a x->gH b a x:=λ⟨p,l,s,c,d,e,f⟩=>⟨p,l,s,c,d.le h,e.le h,f.le h⟩
def gH.mono:mK 5 gH:=⟨λh=>gH.le h,λh=>by obtain⟨_,_,_,rfl,_⟩:=h;rfl⟩
def wV.le{m b:I}(a:Le m b){s:O}{l:List fD}(h:wV m s l):wV b s l:=dW.le h a λ_ _=>gH.le a
def wV.u{m:I}{l:List fD}(h:wV m s l){k:Nat}{x:fD}(f:l[k]? =some x):
 ∃p t b,ar m p x.params/\ar m t x.cW/\dN m b x.body.aA/\D m s.F (s.off+k*5)=some (O.v p)/\D m s.F (s.off+k*5+1)=some (O.v t)/\D m s.F (s.off+k*5+2)=some (vi x.aR)/\D m s.F (s.off+k*5+3)=some (O.v b)/\D m s.F (s.off+k*5+4)=some (vi x.body.aR):=by
 obtain⟨g,⟨p,t,b,rfl,c,d,e⟩,a⟩:=h.je k x f
 exact⟨p,t,b,c,d,e,a 0 _ rfl,a 1 _ rfl,a 2 _ rfl,a 3 _ rfl,a 4 _ rfl⟩
def dJ.le{m b:I}{d r:O}{a:List bq}{e:List fD}(h:dJ m d r a e)(c:Le m b):dJ b d r a e:=⟨h.aT.le c,h.gQ.le c,h.types,h.mN⟩
def xB(m:I):Le m (bA [] m):=λb o v h=>dP.2 ⟨E,h⟩
def CY{a:List bq}(h:dv a)(c:Int):(bT a c).length<=3:=by
 unfold bT;split
 ·rcases aV c.toNat (eC a).length with b|b
  ·obtain⟨i,d,e,j,m⟩:=sY a c.toNat b;have f:=pv a i (c.toNat -fc a i) d e V;rw[show fc a i+(c.toNat -fc a i)=c.toNat by omega]at f;obtain⟨x,g⟩:=ag (l:=d.cons) (k:=c.toNat -fc a i) V;rw[f,g];exact(((h.df i d e).gR V).2.2.2 x (au g)).1
  ·rw[cb b];simp
 ·simp
def Vg{a:List bq}(h:dv a)(t:Int):(bU a t).length<=3:=by
 unfold bU;split
 ·cases b:a[t.toNat -1]? with
  |none=>simp
  |some d=>simpa using jX h b
 ·simp
def NY{a:List bq}(h:dv a)(b bL:Int)(k:Nat):ze a b bL k<=3:=by
 unfold ze;split
 ·exact CY h _
 ·omega
abbrev CK(f:Nat)(a:List Value)(m:I):Prop:=qM f a m λ_=>True
def ng(f:Nat)(a:List Value)(m:I):Prop:=aN bY f a m λv b=>∃c:Bool,v=.bool c/\J m b
def rN{m:I}{n:Int}(h:J m b):∃k:Int,vi n=vi k/\True/\J m b:=⟨n,rfl,trivial,h⟩
def rA{m:I}{a:Bool}(h:J m b):∃k:Bool,vb a=.bool k/\J m b:=⟨a,rfl,h⟩
def _root_.Go.Vc.dm.any{f:Nat}{a:List Value}{m:I}{p:Prop}(h:dm bY f a m p):ng f a m:=h.mono λ_ _⟨b,e,_,x⟩=>⟨b,e,x⟩
section
variable{f:Nat}{g:List Value}{a m:I}{K:Value->I->Prop}{l:List Nat}
def CK.aG(i:CK f g m)(e:J a m)(o:∀c∈l,c<a.size)(k:∀(n:Int) b,J m b->J a b->K (vi n) b):aN bY f g m λv b=>dV l m b/\K v b:=
 i.mono λ_ b⟨n,h,_,d⟩=>⟨d.da λc j=>e.lt (o c j),h▸k n b d (e.trans d)⟩
def ng.aG(i:ng f g m)(e:J a m)(n:∀c∈l,c<a.size)(k:∀(c:Bool) b,J m b->J a b->K (vb c) b):aN bY f g m λv b=>dV l m b/\K v b:=
 i.mono λ_ b⟨o,h,d⟩=>⟨d.da λc j=>e.lt (n c j),h▸k o b d (e.trans d)⟩
def qM.aG{Q:Int->Prop}(i:qM f g m Q)(e:J a m)(o:∀c∈l,c<a.size)(k:∀(n:Int) b,Q n->J m b->J a b->K (vi n) b):aN bY f g m λv b=>dV l m b/\K v b:=
 i.mono λ_ b⟨n,h,q,d⟩=>⟨d.da λc j=>e.lt (o c j),h▸k n b q d (e.trans d)⟩
def CJ.aG(k:CJ f g m e Q)(i:J a m)(q:∀d∈l,d<a.size)(p:∀s c b,ar (bA e b) s c->Q c->J m b->J a b->K (O.v s) b):aN bY f g m λv b=>dV l m b/\K v b:=
 k.mono λ_ b⟨s,c,j,n,r,h⟩=>⟨h.da λd o=>i.lt (q d o),j▸p s c b n r h (i.trans h)⟩
def jR.aG(k:jR f g m e Q)(i:J a m)(q:∀d∈l,d<a.size)(p:∀s c b,GI e m b s c->Q c->J m b->J a b->K (O.v s) b):aN bY f g m λv b=>dV l m b/\K v b:=
 k.mono λ_ b⟨s,c,j,n,r,h⟩=>⟨h.da λd o=>i.lt (q d o),j▸p s c b n r h (i.trans h)⟩
end
def _root_.Go.Vc.J.Si{c m:I}(f:J c m){l:List Nat}(e:∀a∈l,a<c.size)(h:J m b):dV l m b:=h.da λa d=>f.lt (e a d)
def dk{m:I}(K:∀b∈e,b<m.size){aT:O}{a:List bq}(n:bR (bA e m) aT a)(f:dv a)(c:Int):CJ 155 [O.v aT,vi c] m e (bT a c=·):=by
 apply pD;have q:bR m aT a:=n.le (bt _ _);have L:=n.len;have:=f.len;refine(kK q f c).mono ?_;rintro _ P ⟨R,rfl,p,j⟩;refine⟨_,rfl,dit (λz=>?_) λz=>?_⟩
 ·refine⟨_,_,rfl,?_,rfl,j.aM _⟩;have g:bT a c=[]:=by
   rcases p with⟨i,d,A,_⟩|⟨_,b⟩
   ·omega
   ·unfold bT;split
    ·rw[cb V];rfl
    ·rfl
  rw[g];exact⟨rfl,ad _,E,E⟩
 ·rcases p with⟨i,d,rfl,b,G,H⟩|⟨A,_⟩
  ·have N:=ax b;obtain⟨w,r,C,D,g⟩:=(n.le (j.cJ e)).u b;have t:cK ((i:Int)+1 -1)=i:=by rw[aP V V];omega
   rw[t];have g:=(dP.1 g).2;refine⟨V,V,w,by simpa using g,?_⟩;refine(js (bR.ext j q) f V).then λQ h=>⟨_,rfl,h.dg (by simpa using g),?_⟩;have F:=qW f i;have J:=jX f b;have M:=r.len;obtain⟨x,s⟩:=ag (l:=d.cons) (k:=(c -fc a i).toNat) V;obtain⟨o,B,y⟩:=nA.u (dW.le r (h.cJ e) (ly.le (h.cJ e))) s;have u:cK (c -(fc a i:Int))=c -fc a i:=aP V V;rw[u];refine⟨V,V,o,(dP.1 y).2,o,_,rfl,?_,rfl,j.trans h⟩;have v:bT a c=x:=by
    unfold bT;rw[aq V];have:=pv a i (c -fc a i).toNat d b V;rw[show c.toNat=fc a i+(c -fc a i).toNat by omega,this,s];rfl
   rw[v];exact B
  ·omega
def fR{m:I}(w:∀u∈e,u<m.size){aT:O}{a:List bq}(o:bR m aT a)(c:dv a)(t:Int):CJ 157 [O.v aT,vi t] m e (bU a t=·):=by
 apply sM;intro K;have S:=o.len;have:=c.len;have z:J m K:=(J.aC m).aM _;refine(aU _ _ _ _).then λu W x i=>⟨_,rfl,λh=>?_,λh=>?_⟩
 ·refine⟨_,_,rfl,?_,rfl,z.trans i⟩;have f:bU a t=[]:=by
   unfold bU;rw[ae (by have:=nb x h;omega)]
  rw[f];exact⟨rfl,ad _,E,E⟩
 ·have h:=yb x h;have A:cK (t -1)=((t.toNat -1:Nat):Int):=by rw[aP V V];omega
  rw[A];obtain⟨d,p⟩:=ag (l:=a) (k:=t.toNat -1) V;have B:bU a t=(List.range d.cons.length).map λq=>((fc a (t.toNat -1)+q:Nat):Int):=by
   unfold bU;rw[aq V,p];rfl
  rw[B];have Q:=qW c (t.toNat -1);have R:=jX c p;refine dC (n:=d.cons.length) V (λj s b=>J m b/\GI e m b s ((List.range j).map λq=>((fc a (t.toNat -1)+q:Nat):Int))) ⟨z.trans i,(GI.nil e m).ext i⟩ ?_;rintro j s X M μ U ⟨f,y⟩ L
  obtain⟨g,H,N,P,F⟩:=(bR.ext f o).u p;have T:=H.len;refine⟨V,V,g,by simpa using F,dit (λG=>?_) λG=>?_⟩
  ·refine(js (bR.ext f o) c V).then λY v=>⟨_,rfl,?_⟩;have C:cK (((fc a (t.toNat -1):Nat):Int)+(j:Int))=((fc a (t.toNat -1)+j:Nat):Int):=by rw[aP V V];omega
   rw[C];intro Z;refine GI.jK (y.ext v) ((f.trans v).fz []) w bK λr b D g _ _=>L V _ _ ⟨g.ext,?_⟩
   rw[P6,eP];exact D
  ·have:j=d.cons.length:=V;subst this;exact⟨_,_,rfl,y.done w bK,rfl,f⟩
def lH{m:I}{aT:O}{b:List bq}(i:bR m aT b)(q:dv b)(t:Int):dm bY 300 [O.v aT,vi t] m (∃d,1<=t/\b[t.toNat -1]? =some d/\d.cons.length=0):=by
 apply BY;have w:=i.len;have:=q.len;refine(aU _ _ _ _).then λr x g e=>⟨_,rfl,λh=>?_,λh=>?_⟩
 ·have h:=g.1 h;obtain⟨d,c⟩:=ag (l:=b) (k:=t.toNat -1) V;obtain⟨n,p,u,v,o⟩:=(bR.ext e i).u c;have j:cK (t -1)=((t.toNat -1:Nat):Int):=by rw[aP V V];omega
  rw[j];refine⟨V,V,n,o,fA ?_ e⟩;rw[p.len];simp only[aL];exact⟨λh=>⟨d,V,c,V⟩,λ⟨s,_,a,f⟩=>by rw[c]at a;simp at a;subst a;omega⟩
 ·refine bX (λ⟨d,a,f,_⟩=>fb g h ⟨a,?_⟩) e;have:=ax f;omega
def xO{m:I}{aT:O}{a:List bq}(j:bR m aT a)(x:dv a)(u t:Int):
 qM 322 [O.v aT,vi u,vi t] m λk=>k= -1\/∃(p:Nat)(d:bq),k=p+1/\a[p]? =some d/\d.cons.length=0/\d.rR=u/\d.to=t:=by
 apply BJ
 have B:=j.len
 have:=x.len
 refine dO (n:=a.length) V (λ_ b=>J m b) (J.aC _) ?_
 rintro k y A μ C c z
 refine⟨λh=>?_,λh=>⟨_,rfl,Or.inl rfl,c⟩⟩
 simp only[ao]at h
 obtain⟨d,o⟩:=ag (l:=a) (k:=k) V
 obtain⟨q,w,r,s,v⟩:=(bR.ext c j).u o
 have e:=z V y c
 refine⟨V,V,q,v,λf=>⟨V,V,_,r,λg=>⟨V,V,_,s,λi=>?_,λ_=>e⟩,λ_=>e⟩,λ_=>e⟩
 rw[w.len]at f
 simp only[aL]at f g i
 refine⟨_,rfl,Or.inr ⟨k,d,?_,o,V,g,i⟩,c⟩
 rw[aP V V]
def qI{m:I}{i q:O}{f t:List Int}(g:ar m c v)(e:ar m i f)(o:ar m q t):ng 297 [O.v c,O.v i,O.v q] m:=by
 apply FU;have E:=g.len;have s:=e.len;have F:=o.len;have G:=g.fL;refine⟨λ_=>rA (J.aC _),λh=>?_⟩;simp only[gD]at h;refine dO (n:=f.length) (s▸e.fL) (λ_ b=>J m b) (J.aC _) ?_;rintro k K C μ H a z
 refine⟨λh=>?_,λh=>rA a⟩;simp only[ao]at h;obtain⟨x,p⟩:=ag (l:=f) (k:=k) V;refine⟨V,V,x,(e.ext a).u p,?_⟩;have r:cK ((c.len:Int) -1)=(v.length:Int) -1:=by rw[aP V V];omega
 rw[r];refine(aU _ _ _ _).then λD L u d=>⟨_,rfl,λ_=>rA (a.trans d),λj=>?_⟩;have j:=yb u j;obtain⟨A,w⟩:=ag (l:=v) (k:=x.toNat) V;obtain⟨B,y⟩:=ag (l:=t) (k:=k) V;exact⟨V,V,x,(e.ext (a.trans d)).u p,V,V,A,(g.ext (a.trans d)).u w,V,V,B,(o.ext (a.trans d)).u y,λ_=>rA (a.trans d),λ_=>z V _ (a.trans d)⟩
def Kk(a:Int)(m:I):ng 295 [vi a] m:=by
 apply DL;have r:∀b:Bool,∃k:Bool,vb b=.bool k/\J m m:=λb=>rA (J.aC m);exact⟨λ_=>r _,λ_=>⟨λ_=>r _,λ_=>⟨λ_=>r _,λ_=>⟨λ_=>r _,λ_=>r _⟩⟩⟩⟩
def nv(x:cq)(a k:O):Value:=.agg #[vi x.op,vi x.bL,vi x.bV,O.v a,O.v k]
def ux{m:I}{g:O}(d:ar m c v)(x:cq):ng 296 [O.v c,.agg #[vi x.op,vi x.bL,vi x.bV,O.v g,O.v k]] m:=by
 apply yS;simp -zeta only[aE,aD];intro a;have b:J m a:=J.push _ _;have n:∀f∈[m.size],f<a.size:=by simp[a]
 clear_value a;have p:=d.len;have q:=d.fL;refine⟨λ_=>rA b,λ_=>⟨λ_=>?_,λ_=>rA b⟩⟩;refine(aU _ _ _ _).aG (J.aC a) n λf r j _ e=>⟨_,rfl,λh=>?_,λ_=>rA (b.trans e)⟩;have h:=j.1 h;have i:cK (x.bV -1)=((x.bV.toNat -1:Nat):Int):=by rw[aP V V];omega
 rw[i];obtain⟨y,o⟩:=ag (l:=v) (k:=x.bV.toNat -1) V;exact⟨V,V,y,(d.ext (b.trans e)).u o,rA (b.trans e)⟩
def zU{m:I}{n:O}{A:List bq}{E:List fD}(s:dJ m d r A E)(i:ar m c v)(g:ar m n x.args):CK 301 [.agg #[O.v d,O.v r],O.v c,nv x n k] m:=by
 apply ue;simp -zeta only[aE,aD];intro u e;have b:J m e:=(J.push _ _).trans (J.push _ _);have q:∀f∈[u.size,m.size],f<e.size:=by simp[e,u];omega
 clear_value e;have F:=i.len;have G:=i.fL;have H:=g.len;refine⟨λ_=>rN b,λh=>?_⟩;simp only[gD]at h;obtain⟨y,t⟩:=ag (l:=x.args) (k:=0) V;refine⟨V,V,y,(g.ext b).u t,?_⟩;have B:cK ((c.len:Int) -1)=(v.length:Int) -1:=by rw[aP V V];omega
 rw[B];refine(aU _ _ _ _).aG (J.aC e) q λf K C _ j=>⟨_,rfl,λ_=>rN (b.trans j),λh=>?_⟩;have h:=yb C h;have a:=b.trans j;obtain⟨z,D⟩:=ag (l:=v) (k:=y.toNat) V;have o:=(g.ext a).u t;have p:=(i.ext a).u D;refine⟨V,V,y,o,V,V,z,p,λ_=>rN a,λ_=>⟨λ_=>⟨λ_=>⟨V,V,y,o,V,V,z,p,?_⟩,λ_=>rN a⟩,λ_=>rN a⟩⟩;exact(lH ((s.le a.le).aT) s.types z).any.aG j q λf L M w=>⟨_,rfl,λ_=>rN (b.trans w),λ_=>rN (b.trans w)⟩
def Ck{m:I}{y:O}{K:List bq}{u:List fD}(g:dJ m d r K u)(Z:ar m c v)(B:ar m y x.args):CK 299 [.agg #[O.v d,O.v r],O.v c,nv x y k] m:=by
 apply vm;simp -zeta only[aE,aD];intro j h;have G:J m h:=(J.push _ _).trans (J.push _ _);have o:∀f∈[j.size,m.size],f<h.size:=by simp[h,j];omega
 clear_value h;have h1:=g.gQ.len;have h2:=g.mN;have h3:=B.len;have L:cK ((r.len:Int) -1)=(u.length:Int) -1:=by rw[aP V V];omega
 rw[L];refine(aU _ _ _ _).aG (J.aC h) o λf n X _ w=>⟨_,rfl,λ_=>rN (G.trans w),λz=>?_⟩;have z:=yb X z;have F:=G.trans w;obtain⟨t,Y⟩:=ag (l:=u) (k:=x.bL.toNat) V;obtain⟨aa,ae,s,i,c2,c3,N,P,Q,R,S⟩:=(g.le F.le).gQ.u Y;refine⟨V,V,_,N,_,P,_,Q,_,R,_,S,?_⟩;intro m3 b;have H:J n b:=((J.aC n).aM _).aj (ad _) _ _;have p:∀f∈[n.size,j.size,m.size],f<b.size:=by
  have T:=o j.size E;have U:=o m.size E;have W:=w.size;have A:b.size=n.size+1:=by simp[b,m3,az]
  simp;omega
 clear_value b;have a:=F.trans H;have D:=Z.ext a;have C:=B.ext a;have q:=i.ext H;have T:=i.len;have U:=i.cap;have W:=i.fL;refine⟨λ_=>(qI D C q).aG (J.aC b) p λf m5 e _=>⟨_,rfl,λ_=>rN (a.trans e),λ_=>rN (a.trans e)⟩,λ_=>⟨λ_=>rN a,λA=>⟨λ_=>rN a,λ_=>?_⟩⟩⟩;simp only[an]at A;have M:cK ((aa.len:Int) -1)=((t.params.length -1:Nat):Int):=by rw[aP V V];omega
 rw[M];obtain⟨ab,hz⟩:=ag (l:=t.params) (k:=t.params.length -1) V;refine⟨V,V,V,(qI D C (dW.RT q V)).aG (J.aC b) p λf m5 e _=>⟨_,rfl,λ_=>rN (a.trans e),λ_=>⟨V,V,ab,(q.ext e).u hz,?_⟩⟩⟩;exact(xO (g.le (a.trans e).le).aT g.types _ _).aG e p λac m6 _ x6 u6=>⟨_,rfl,rN (a.trans u6)⟩
def TW(a:List bq)(e:List fD)(b:Bk):Prop:=∀(m:I)(d r c t:O)(v:List Int),dJ m d r a e->ar m c v->dN m t b.aA->v.length+4*b.w<=1000000000000->CK 261 [.agg #[O.v d,O.v r],O.v c,.agg #[O.v t,vi b.aR]] m
def Hs{m:I}{ab:O}{u:List bq}{rs:List fD}(g:dJ m d r u rs)(Y:ar m c v)(z:mo m k x.bu)(hb:v.length+4*x.w<=1000000000000)(ih:∀o∈x.bu,TW u rs o):CK 298 [.agg #[O.v d,O.v r],O.v c,nv x ab k] m:=by
 apply Af;simp -zeta only[aE,aD];intro m0 q;have i:J m q:=(J.push _ _).trans (J.push _ _);have p:∀o∈[m0.size,m.size],o<q.size:=by simp[q,m0];omega
 clear_value q;have ac:=z.len;have hw:=cq.kN x;refine(fR (e:=[]) E (g.le i.le).aT g.types x.bL).aG (J.aC q) p λae cl L y s B _=>⟨_,rfl,?_⟩;subst s;have y:=y.le (bt _ _);have ah:=y.len;have h3:=Vg g.types x.bL;refine⟨λP aa=>aa=L/\0<=P/\(x.op=8->P=(bU u x.bL).length),⟨λh=>?_,λh=>?_⟩,?_⟩
 ·simp only[aL]at h;exact⟨rfl,V,λh=>V⟩
 ·exact⟨rfl,V,λ_=>V⟩
 rintro P ai ⟨f,h4,h5⟩;have f:=f.symm;subst f;refine⟨λ_=>rN (i.trans B),λ_=>⟨λ_=>rN (i.trans B),λX=>?_⟩⟩;simp only[gD]at X;subst X;refine dC (n:=x.bu.length) (ac▸z.fL) (λ_ _ b=>J L b) (J.aC _) ?_;rintro j A M W μ hj C ad
 have Q:=B.trans C;have t:=i.trans Q;refine⟨λh=>?_,λ_=>rN t⟩;simp only[ao]at h;obtain⟨o,w⟩:=ag (l:=x.bu) (k:=j) V;have Z:=ih o (au w);have af:=uE w;have tl:∀(a:Int)(e:I),J L e->((decide (a<(0:Int)))=true->∃k:Int,vi (-1)=vi k/\True/\J m e)/\((decide (a<(0:Int)))=false->((decide ((j:Int)>(0:Int)))=true->((a !=A)=true->∃k:Int,vi (-1)=vi k/\True/\J m e)/\((a !=A)=false->W a (cK ((j:Int)+1)) e/\μ a (cK ((j:Int)+1)) e<μ A j M))/\((decide ((j:Int)>(0:Int)))=false->W a (cK ((j:Int)+1)) e/\μ a (cK ((j:Int)+1)) e<μ A j M)):=λa e h=>by
  have f:=rN (n:=-1) ((i.trans B).trans h);have F:=ad V a e h
  exact⟨λ_=>f,λ_=>⟨λ_=>⟨λ_=>f,λ_=>F⟩,λ_=>F⟩⟩
 refine⟨λh=>?_,λh=>?_⟩
 ·simp only[aL]at h;have h7:=h5 h;obtain⟨U,hy⟩:=ag (l:=bU u x.bL) (k:=j) V;refine⟨V,V,U,(y.ext C).u hy,?_⟩;refine(dk (e:=[]) E (g.le (t.le.trans (xB _))).aT g.types U).aG Q p λF fl e hf s x4 u4=>⟨_,rfl,?_⟩;subst s;have h8:=CY g.types U;refine(dL (S:=[]) E (Y.le ((i.trans u4).le.trans (xB _))) hf V).aG u4 p λf el m5 he s x5 R=>⟨_,rfl,?_⟩;subst s;obtain⟨D,K,G,H⟩:=(z.le (i.trans R).le).u w;refine⟨V,V,_,G,_,H,?_⟩;exact(Z m5 d r f D _ (g.le (i.trans R).le) ((he.done E bK).le (bt _ _)) K bK).aG R p λa N T _=>⟨_,rfl,tl a N (((C.trans x4).trans x5).trans T)⟩
 ·obtain⟨D,K,G,H⟩:=(z.le t.le).u w;refine⟨V,V,_,G,_,H,?_⟩;exact(Z M d r c D _ (g.le t.le) (Y.ext t) K V).aG Q p λa N T _=>⟨_,rfl,tl a N (C.trans T)⟩
def NK{m a:I}(h:J m a)(l:List Int){n:Nat}(c:n=l.length)(b:l.length<=9223372036854775807):ar (a.push (.cells (br (l.map Ce.i)) aB)) (.mk a.size 0 n n) l:=
 (ar.lit (S:=[]) aB l E rfl c b).le (bt _ _)
def _root_.Go.Vc.dW.It{α:Type}{n:I}{b:Nat}{R:List Ce->α->Prop}{l:List α}(h:dW n b R s l){i j:Nat}(u:i<=j)(v:j<=l.length):dW n b R (s.cut i j b) ((l.take j).drop i):=by
 have a:=h.len;have m:=h.cap;have y:=h.fL;have g:(s.cut i j b).len=j -i/\(s.cut i j b).len<=(s.cut i j b).cap:=by
  cases s with
  |nil=>simp at a;simp[O.cut];omega
  |Bj d o t=>simp at a;simp[O.cut];omega
  |mk d o r f=>simp at a m;simp[O.cut];omega
 refine⟨by simp[g.1];omega,g.2,V,λk x c=>?_⟩;rw[qb,mg]at c;split at c
 ·rename_i w;obtain⟨p,q,e⟩:=h.je _ x c;refine⟨p,q,?_⟩;cases s with
  |nil=>simp at a;omega
  |Bj d o t=>simp at a;omega
  |mk d o r f=>
   simp at a m;have:¬f=i:=V;simp only[O.cut,this,pL,O.iT,O.lY]at e⊢;rw[fC,<-dB]at e;exact e
 ·simp at c
def mF{s:I}{B:O}{R:List bq}{rs:List fD}(C:dJ s d r R rs)(hv:ar s c v)(ha:ar s B x.args)(hk:mo s k x.bu)(K:v.length+4*x.w<=1000000000000)(ih:∀g∈x.bu,TW R rs g):CK 256 [.agg #[O.v d,O.v r],O.v c,nv x B k] s:=by
 apply Ay;simp -zeta only[aE,aD];intro D q;have Q:J s q:=(J.push _ _).trans (J.push _ _);have n:∀g∈[D.size,s.size],g<q.size:=by simp[q,D];omega
 clear_value q;have h1:=ha.len;have h2:=ha.cap;have w:∀{o:I},J q o->ar o c v:=λh=>hv.ext (Q.trans h);have A:∀{o:I},J q o->ar o B x.args:=λh=>ha.ext (Q.trans h);have N:∀{o:I},J q o->dJ o d r R rs:=λh=>C.le (Q.trans h).le;have p:∀{o:I}{u:Int},J q o->∃k:Int,vi u=vi k/\True/\J s o:=λh=>rN (Q.trans h);have U:∀{o:I}{u k:Int}{g:Bool},J q o->(g=true->∃k:Int,vi u=vi k/\True/\J s o)/\(g=false->∃a:Int,vi k=vi a/\True/\J s o):=λh=>⟨λ_=>p h,λ_=>p h⟩;refine⟨λZ=>J q Z,⟨λ_=>?_,λ_=>?_⟩,?_⟩
 ·exact(Kk x.op q).aG (J.aC q) n λg o e _=>⟨_,rfl,λ_=>p e,λ_=>(ux (w e) x).aG e n λg f m a=>⟨_,rfl,λ_=>p a,λ_=>⟨λ_=>⟨λ_=>⟨λ_=>p a,λ_=>a⟩,λ_=>a⟩,λ_=>a⟩⟩⟩
 ·exact(ux (w (J.aC _)) x).aG (J.aC q) n λg f a _=>⟨_,rfl,λ_=>p a,λ_=>⟨λ_=>⟨λ_=>⟨λ_=>p a,λ_=>a⟩,λ_=>a⟩,λ_=>a⟩⟩
 intro o e;have T:∀{f:I}{W:O}{al:List Int}(h:J q f),ar f W al->ng 297 [O.v c,O.v B,O.v W] f:=λh ht=>qI (w h) (A h) ht;have Kt:∀{f:I}(h:J q f),aN bY 298 [.agg #[O.v d,O.v r],O.v c,.agg #[vi x.op,vi x.bL,vi x.bV,O.v B,O.v k]] f λv b=>dV [D.size,s.size] f b/\∃u:Int,v=vi u/\∃k:Int,vi u=vi k/\True/\J s b:=λh=>
  (Hs (N h) (w h) (hk.le (Q.trans h).le) K ih).aG h n λu P t X=>⟨u,rfl,p X⟩
 refine⟨λ_=>⟨λ_=>(aU _ _ _ _).any.aG e n λg f m a=>⟨_,rfl,U a⟩,λ_=>p e⟩,λ_=>⟨λ_=>?_,λ_=>⟨λ_=>?_,λ_=>⟨λ_=>?_,λ_=>⟨λ_=>?_,λ_=>⟨λ_=>?_,λ_=>⟨λ_=>?_,λ_=>⟨λ_=>?_,λ_=>⟨λ_=>?_,λ_=>p e⟩⟩⟩⟩⟩⟩⟩⟩⟩
 ·intro f;exact(T (e.aM _) (NK e [0,0] rfl E)).aG (e.aM _) n λg f m a=>⟨_,rfl,U a⟩
 ·intro f;exact(T (e.aM _) (NK e [0] rfl E)).aG (e.aM _) n λg f m a=>⟨_,rfl,U a⟩
 ·refine(kK (N e).aT C.types x.bL).mono λ_ f⟨W,z,_,m⟩=>?_;subst z;have a:=e.trans m;refine⟨e.Si n m,_,rfl,λ_=>?_,λ_=>p a⟩;refine(dk (e:=[]) E ((N a).aT.le (xB _)) C.types x.bL).aG a n λae H P hf L t X=>⟨_,rfl,?_,?_⟩
  ·exact aI (t.same D.size (a.lt (n _ E))) _
  refine(T X (hf.le (bt _ _))).aG X n λg F x5 y=>⟨_,rfl,λ_=>?_,λ_=>p y⟩;refine(kK (N y).aT C.types x.bL).mono λ_ G⟨W,z,_,Y⟩=>?_;subst z;exact⟨y.Si n Y,_,rfl,p (y.trans Y)⟩
 ·intro f;exact(T (e.aM _) (NK e [0] rfl E)).aG (e.aM _) n λg f m a=>⟨_,rfl,λ_=>Kt a,λ_=>p a⟩
 ·intro f;exact(T (e.aM _) (NK e [x.bL] rfl E)).aG (e.aM _) n λg f m a=>⟨_,rfl,λ_=>Kt a,λ_=>p a⟩
 ·exact(Ck (N e) (w e) (A e)).aG e n λu f m a=>⟨_,rfl,p a⟩
 ·have h3:=hv.len;have h4:=hv.fL;refine⟨λg Z=>J q Z/\(g=true->x.args.length=2/\∃y z H,x.args[0]? =some y/\0<=y/\v[y.toNat]? =some z/\1<=z/\R[z.toNat -1]? =some H),⟨λh=>?_,λ_=>⟨e,λh=>by simp at h⟩⟩,?_⟩
  ·simp only[aL]at h;obtain⟨y,L⟩:=ag (l:=x.args) (k:=0) V;refine⟨V,V,y,(A e).u L,?_⟩;have e1:cK ((c.len:Int) -1)=(v.length:Int) -1:=by rw[aP V V];omega
   rw[e1];refine(aU _ _ _ _).aG (J.aC o) (λg K=>e.lt (n g K)) λg f aa _ m=>⟨_,rfl,λh=>?_,λh=>⟨e.trans m,λh=>by simp at h⟩⟩;have h:=aa.1 h;have a:=e.trans m;obtain⟨z,M⟩:=ag (l:=v) (k:=y.toNat) V;refine⟨V,V,y,(A a).u L,V,V,z,(w a).u M,?_⟩;refine(lH (N a).aT C.types z).aG (J.aC f) (λg K=>a.lt (n g K)) λg P ab _ t=>⟨_,rfl,a.trans t,λh=>?_⟩;obtain⟨H,h5,h6,_⟩:=ab.1 h;exact⟨V,y,z,H,L,V,M,h5,h6⟩
  ·rintro g f ⟨m,ai⟩;refine⟨λh=>?_,λ_=>p m⟩;obtain⟨h5,y,z,H,L,h6,M,h7,aa⟩:=ai h;obtain⟨ae,hf,g0,g1,g2⟩:=(N m).aT.u aa;have ao:=C.aT.len;have h8:=C.types.len;have h9:=ax aa;have am:=ax M;have e1:cK (z -1)=((z.toNat -1:Nat):Int):=by rw[aP V V];omega
   have ab:=(A m).u L;have ac:=(w m).u M;refine⟨V,V,y,ab,V,V,z,ac,?_⟩;rw[e1];refine⟨V,V,_,g0,_,g1,_,g2,?_⟩;intro P;have t:J f P:=J.push _ _;have af:D.size<f.size:=m.lt (n _ E);have ah:s.size<f.size:=m.lt (n _ E);refine⟨t.dg g0,t.dg g1,t.dg g2,t.dg ac,t.dg ab,aI (t.same _ af) _,aI (t.same _ ah) _,?_⟩;intro F;have x5:J f F:=t.aj (ad _) _ _;have an:F.size=f.size+1:=by simp[F,P,az]
   clear_value F;refine⟨V,V,V,?_⟩;intro G;have Y:J f G:=x5.trans (J.push _ _);have u6:=m.trans Y;have ak:∀g∈[f.size,D.size,s.size],g<G.size:=by simp[G];omega
   refine⟨aI ((J.push F _).same _ V) _,?_⟩;have aj:ar G (B.cut 1 B.len 1) (x.args.drop 1):=by
    have:=(dW.It (A u6) (i:=1) (j:=x.args.length) V (ad _));rw[fZ]at this;rw[h1];exact this
   exact(qI (w u6) aj (NK x5 [H.rR] rfl E)).aG (J.aC G) ak λg m7 x7 _=>⟨_,rfl,U (u6.trans x7)⟩
 ·exact(zU (N e) (w e) (A e)).aG e n λu f m a=>⟨_,rfl,p a⟩
def _root_.Go.Vc.J.mU{c m:I}(h:J c m)(k:J c b){l:List Nat}(e:∀a∈l,a<c.size):dV l m b:=λa d=>by rw[k.same a (e a d),h.same a (e a d)]
def qV(x:cq)(b:Bool)(a:b=true<->0<=x.op/\x.op<=11):dn x=if b=true then 1 else 0:=by
 unfold dn;by_cases h:b=true
 ·rw[aq h];exact aq (a.1 h)
 ·rw[ae h];exact ae λc=>h (a.2 c)
def lQ{M:List bq}{rs:List fD}:∀a:Bk,TW M rs a:=by
 refine Bk.ind ?_;intro aA aa ih G d r c ap v Y hv u m;simp only[Bk.jd,Bk.iy,Bk.oV]at*;apply xR;simp -zeta only[aE,aD];intro H e;have z:J G e:=(J.push _ _).trans (J.push _ _);have g:∀a∈[H.size,G.size],a<e.size:=by simp[e,H];omega
 clear_value e;have Z:=u.len;refine(kL (S:=[]) E (hv.le (z.le.trans (xB _))) V).aG (J.aC e) g λs0 _ m2 j N x2 _=>⟨_,rfl,?_⟩;subst N;have F:=yY aA;refine dC (n:=aA.length) (Z▸u.fL) (λk s b=>J e b/\∃i,GI [] e b s i/\i.length=v.length+dc (aA.take k)) ⟨x2,_,j,E⟩ ?_;rintro k s m3 ab μ hk ⟨A,i,o,hc⟩ K
 have q:=z.trans A;have ad:=qT (aA.take k);have ai:=oW k aA;have aj:=eW (aA.take k);have ah:=o.len bd;have t:=(o.done E (by have:=F k;omega)).le (bt _ _);refine⟨λh=>?_,λh=>?_⟩
 ·simp only[ao]at h;obtain⟨x,p⟩:=ag (l:=aA) (k:=k) V;obtain⟨ac,kk,U,X,j,P,Q,R,T⟩:=(u.le q.le).u p;have al:=od p;have ak:=F (k+1);have af:=oY p;refine⟨V,V,_,j,_,P,_,Q,_,R,_,T,?_⟩;refine(mF (Y.le q.le) t U X V (ih x (au p))).aG A g λam I f w=>⟨_,rfl,λ_=>rN (z.trans w),λ_=>⟨V,V,_,f.D j,?_⟩⟩;refine(iX _ _).aG (J.aC I) (λa m=>w.lt (g a m)) λa m5 W _ B=>⟨_,rfl,?_⟩;have D:=qV x a W;have y:=w.trans B;refine⟨λh=>?_,λh=>?_⟩
  ·rw[aq h]at D;intro m6;refine GI.jK ((o.ext f).ext B) (y.fz []) E V λr m7 O C L an=>⟨?_,K V _ _ ⟨C.ext,_,O,bK⟩⟩;exact J.mU (y.aM _) C.ext g
  ·rw[ae (by simp[h])]at D;exact K V _ _ ⟨y,i,(o.ext f).ext B,V⟩
 ·refine(aU _ _ _ _).aG (J.aC m3) (λa m=>A.lt (g a m)) λa I p _ f=>⟨_,rfl,λ_=>rN (q.trans f),λh=>?_⟩;have h:=yb p h;have y:=t.fL;rw[aP V V]at h;obtain⟨L,w⟩:=ag (l:=i) (k:=aa.toNat) V;exact⟨V,V,L,(t.ext f).u w,rN (q.trans f)⟩
end
section
variable{b:I}{d f h c:O}{g:List fD}{e:cq}{j:Nat}
def _root_.Go.Vc.bS{S a:List Nat}{d o:Nat}{l:List Ce}(i:d∈S)(g:∀c∈a,c∈S):Le (bA S b) (bA a (aj b d o l)):=
 nM λc _ e=>⟨λh=>e (g c h),bh _ _ _ _ λf=>e (f▸i)⟩
def WU(a:Bk):Prop:=∀(b:I)(t:O),dN b t a.aA->∀left:Int,-1<=left->left<=600->qM 304 [.agg #[O.v t,vi a.aR],vi left] b λc=>-1<=c/\c<=600
def FR:∀m:Bk,WU m:=by
 refine Bk.ind ?_;intro aA aa M b ab s left C E;simp only[Bk.jd,Bk.iy]at*;apply yM;simp -zeta only[aE,aD];intro i;have z:J b i:=J.push _ _;have G:∀m∈[b.size],m<i.size:=by simp[i]
 clear_value i;have L:=s.len;have t:∀{g:I}{a:Int},J i g->-1<=a/\a<=600->∃c:Int,vi a=vi c/\(-1<=c/\c<=600)/\J b g:=λd q=>⟨_,rfl,q,z.trans d⟩;refine dC (n:=aA.length) (L▸s.fL) (λ_ a g=>J i g/\-1<=a/\a<=600) ⟨J.aC _,C,E⟩ ?_;rintro c a O X μ hk ⟨o,q⟩ R
 refine⟨λd=>⟨λ_=>t o V,λD=>?_⟩,λ_=>t o q⟩;simp only[ao]at d;simp only[bP]at D;obtain⟨e,w⟩:=ag (l:=aA) (k:=c) V;obtain⟨h,y,ha,p,Z,g1,g2,g3,u⟩:=(s.le (z.trans o).le).u w;have F:=p.len;rw[aP (b:=a -1) V V];refine dC (n:=e.bu.length) (F▸p.fL) (λ_ a g=>J O g/\-1<=a/\a<=600) ⟨J.aC _,V,V⟩ ?_;rintro N S P Y μ2 hj ⟨j,r⟩ Q;refine⟨V,V,y,j.D u,λd=>?_,λ_=>R V _ _ ⟨o.trans j,r⟩⟩;simp only[ao]at d;obtain⟨m,v⟩:=ag (l:=e.bu) (k:=N) V;obtain⟨T,K,A,B⟩:=(p.le j.le).u v;refine⟨V,V,y,j.D u,V,V,_,A,_,B,?_⟩;exact(M e (au w) m (au v) P T K S r.1 r.2).aG (o.trans j) G λf m4 H W U=>⟨_,rfl,λ_=>t U V,λd=>Q V _ _ ⟨j.trans W,H⟩⟩
def JH{t:O}{c:Bk}(g:dN b t c.aA):CK 260 [.agg #[O.v t,vi c.aR]] b:=by
 apply Co;simp -zeta only[aE,aD];intro a;have d:J b a:=J.push _ _;have f:∀c∈[b.size],c<a.size:=by simp[a]
 clear_value a;exact(FR c a t (g.le d.le) 600 V V).aG (J.aC a) f λn h _ _ e=>⟨_,rfl,λ_=>rN (d.trans e),λ_=>rN (d.trans e)⟩
def XE(f:fD):cY:=⟨f.params,[],f.aR,0,[]⟩
def na.mono:mK 5 na:=⟨λb⟨h,a,c⟩=>⟨h,a,c.le b⟩,λ⟨h,a,_⟩=>by rw[a];rfl⟩
def Kq{M:List bq}(x:dJ b d f M g):aN bY 303 [.agg #[O.v d,O.v f]] b λab p=>∃z,ab=.agg #[O.v d,O.v z]/\dW p 5 (na p) z (g.map XE)/\J b p:=by
 apply DY;simp -zeta only[aE,aD];intro t h j K v;have af:=x.gQ.len;have hf:=x.mN;have x2:J b h:=(J.push _ _).trans (J.push _ _);have s1:t.size=b.size+1:=by simp[t]
 have s2:h.size=b.size+2:=by simp[h,s1]
 have s3:j.size=b.size+3:=by simp[j,s2]
 have G:J j v:=(J.push j _).aj (ad _) _ _;have S:Gr [j.size,t.size] h v eE 5 na (.mk h.size 0 0 0) []:=(Gr.new _ (ad _) _ _ _).ext na.mono G;have I:cB v j.size jA [.s d,.s (.mk h.size 0 0 0)]:=cB.aj (m:=K) (o:=0) (r:=[.s d,.s (.mk h.size 0 0 0)]) (cB.push j _ _);have ac:J h v:=(J.push h _).trans G;clear_value v;have U:∀u∈[t.size,b.size],u<h.size/\u∉([]:List Nat):=bK;refine dO (n:=g.length) V (λc p=>J h p/\∃s,Gr [j.size,t.size] h p eE 5 na s ((g.take c).map XE)/\cB p j.size jA [.s d,.s s]) ⟨ac,_,S,I⟩ ?_;rintro c X ae μ hk ⟨y,s,q,B⟩ Z
 have F:=x2.trans y;refine dit (λT=>?_) λT=>?_
 ·obtain⟨aa,C⟩:=ag (l:=g) (k:=c) V;have W:wV (bA (s.F::[j.size,t.size]) X) f g:=x.gQ.le ((xB b).trans ((F.fz []).bA E λu w=>Or.inr ?_))
  ·obtain⟨D,ah,u,L,c2,c3,N,e1,P,e3,e4⟩:=W.u C;refine⟨s,B.cy 1,V,V,D,(dP.1 N).2,V,V,_,(dP.1 P).2,?_⟩;intro Y;refine Gr.box (g:=[.s .nil,.i 0,.i 0,.i 0,.s .nil]) (j:=1) (o:=[.s d,.s s]) (y:=XE aa) na.mono bd q (y.fz []) ⟨D,rfl,L⟩ bK B E bd ⟨V,E⟩ (λu w=>by have H:=U u w;have Q:=q.aY;have A:=y.size;omega) λr' p R H Q z' q'=>Z V _ ⟨Q.ext,r',?_,H⟩
   rw[bH C,eP];exact R
  ·have:=q.aY;simp at w;omega
 ·refine⟨d,B.cy 0,s,B.cy 1,?_⟩;intro Y;have C:=q.ne B bd;have D:=q.aY;rw[bZ V]at q;refine⟨s,rfl,?_,F.aj V _ _⟩;have A:=q.mq na.mono bK bd bK;exact dW.le A ((bS (a:=[]) E E).trans (bt _ _)) λw e=>na.mono.le ((bS (a:=[]) E E).trans (bt _ _))
def vu{t:List bq}(e:dJ b d f t g):ng 259 [.agg #[O.v d,O.v f]] b:=by
 apply rE;simp -zeta only[aE,aD];intro h;have a:J b h:=J.push _ _;have j:∀i∈[b.size],i<h.size:=by simp[h]
 clear_value h;have N:=e.gQ.len;have L:=e.mN;refine⟨λ_=>rA a,λ_=>?_⟩;refine(Kq (e.le a.le)).mono λ_ P⟨K,u,y,m⟩=>?_;subst u;refine⟨m.da j,_,_,rfl,?_⟩;have D:=a.trans m;refine(sT (e.le D.le).aT y).any.aG m j λi Q U p=>⟨_,rfl,λ_=>rA (a.trans p),λ_=>?_⟩;refine dO (n:=g.length) V (λ_ o=>J h o) p ?_;rintro c R I μ M o A
 refine⟨λx=>?_,λ_=>rA (a.trans o)⟩;simp only[ao]at x;obtain⟨T,z⟩:=ag (l:=g) (k:=c) V;obtain⟨B,C,i,r,s,E,v,w,F,G,H⟩:=(e.le (a.trans o).le).gQ.u z;refine⟨V,V,B,v,V,V,C,w,?_⟩;exact(sS r s).any.aG o j λi S W q=>⟨_,rfl,λ_=>rA (a.trans q),λ_=>A V _ q⟩
def Ct{B:List bq}(j:dJ b d f B g)(K:∀q∈g,q.params.length+4*q.body.w<=1000000000000):ng 240 [.agg #[O.v d,O.v f]] b:=by
 apply vv;simp -zeta only[aE,aD];intro e;have p:J b e:=J.push _ _;have v:∀a∈[b.size],a<e.size:=by simp[e]
 clear_value e;have X:=j.gQ.len;have U:=j.mN;refine(vu (j.le p.le)).aG (J.aC e) v λa Y z _=>⟨_,rfl,λ_=>rA (p.trans z),λ_=>?_⟩;refine dO (n:=g.length) V (λ_ h=>J e h) z ?_;rintro c o S μ W r P
 refine⟨λI=>?_,λ_=>rA (p.trans r)⟩;simp only[ao]at I;obtain⟨q,w⟩:=ag (l:=g) (k:=c) V;have x:=p.trans r;obtain⟨Q,aa,a,A,T,u,C,D,F,G,H⟩:=(j.le x.le).gQ.u w;refine⟨V,V,_,C,_,D,_,F,_,G,_,H,?_⟩;intro L h;have m:J o h:=(J.push o _).aj (ad _) _ _;have s:∀a∈[o.size,b.size],a<h.size:=by
  have:=r.lt (v b.size E);have:h.size=o.size+1:=by simp[h,L,az]
  simp;omega
 clear_value h;have t:=x.trans m;refine(JH (u.le m.le)).aG (J.aC h) s λN M i _=>⟨_,rfl,λ_=>rA (t.trans i),λ_=>?_⟩;refine(lQ q.body M d f Q a q.params (j.le (t.trans i).le) (A.ext (m.trans i)) (u.le (m.trans i).le) (K q (au w))).aG i s λN Z R y=>⟨_,rfl,aI (R.same _ (i.lt (s _ E))) _,λ_=>rA (t.trans y),λ_=>P V _ ((r.trans m).trans y)⟩
def vF(d:Int)(b:I):ng 166 [vi d] b:=by
 apply qj;have f:∀a:Bool,∃c:Bool,vb a=.bool c/\J b b:=λa=>rA (J.aC b);exact⟨λ_=>f _,λ_=>⟨λ_=>f _,λ_=>⟨λ_=>f _,λ_=>f _⟩⟩⟩
def TY(g:List fD)(e:cq):Prop:=e.op=9->0<=e.bL/\e.bL<g.length
structure At(b:I)(d f h c:O)(ds:List bq)(g:List fD)(e:cq):Prop where
 Ou:dJ b d f ds g
 args:ar b h e.args
 call:TY g e
def At.le{b k:I}{d f h c:O}{i:List bq}{g:List fD}{e:cq}(a:At b d f h c i g e)(j:Le b k):At k d f h c i g e:=⟨a.Ou.le j,a.args.le j,a.call⟩
def di{g h:Obj}{a c:I}(e:a=b.push g)(f:c=a.push h):J b c/\∀d∈[a.size,b.size],d<c.size:=by
 subst e f;exact⟨(J.push _ _).trans (J.push _ _),bK⟩
def mw{q:List bq}(a:At b d f h c q g e)(j:Int):ng 306 [.agg #[O.v d,O.v f],nv e h c,vi j] b:=by
 apply DS;simp -zeta only[aE,aD];intro u i;obtain⟨m,s⟩:=di (a:=u) (c:=i) rfl rfl;clear_value i;have E:=a.Ou.gQ.len;refine⟨λn=>?_,λ_=>rA m⟩;simp only[aL]at n;have D:=a.call n;obtain⟨H,t⟩:=ag (l:=g) (k:=e.bL.toNat) V;obtain⟨G,v,o,x,p,y,z,r,A,B,C⟩:=(a.Ou.le m.le).gQ.u t;exact⟨V,V,v,r,(cU p j).any.aG (J.aC i) s λo F w _=>⟨_,rfl,rA (m.trans w)⟩⟩
def lj{s:O}{u:List bq}(m:At b d f h c u g e){v:List Int}(q:ar b s v)(x:∀y∈e.args,0<=y/\y<(v.length:Int))(w:j<e.args.length):ng 302 [.agg #[O.v d,O.v f],O.v s,nv e h c,vi j] b:=by
 apply wq;simp -zeta only[aE,aD];intro A a;obtain⟨n,p⟩:=di (a:=A) (c:=a) rfl rfl;clear_value a;have D:=m.args.len;have F:=q.len;obtain⟨y,r⟩:=ag w;have E:=x y (au r);obtain⟨C,z⟩:=ag (l:=v) (k:=y.toNat) V;refine(vF e.op a).aG (J.aC a) p λt G o _=>⟨_,rfl,λ_=>?_,λ_=>rA (n.trans o)⟩;have i:=n.trans o;refine⟨V,V,y,(m.args.ext i).u r,V,V,C,(q.ext i).u z,λ_=>?_,λ_=>rA i⟩;exact(mw (m.le i.le) j).aG o p λt H I B=>⟨_,rfl,rA (n.trans B)⟩
def Aj{t:List bq}(a:At b d f h c t g e)(w:j<e.args.length):ng 334 [.agg #[O.v d,O.v f],nv e h c,vi j] b:=by
 apply uo;simp -zeta only[aE,aD];intro A o;obtain⟨s,x⟩:=di (a:=A) (c:=o) rfl rfl;clear_value o;have v:=a.args.len;obtain⟨C,y⟩:=ag w;refine dO (n:=e.args.length) (v▸a.args.fL) (λ_ i=>J o i) (J.aC _) ?_;rintro q G I μ F m B
 have i:=s.trans m;refine⟨λu=>⟨λ_=>?_,λ_=>?_⟩,λ_=>rA i⟩<;>simp only[ao]at u<;>have p:=B V
 ·obtain⟨D,z⟩:=ag (l:=e.args) (k:=q) V;refine⟨V,V,D,(a.args.ext i).u z,V,V,C,(a.args.ext i).u y,λ_=>⟨λ_=>rA i,λ_=>?_⟩,λ_=>p _ m⟩;exact(mw (a.le i.le) q).aG m x λE H K r=>⟨_,rfl,λ_=>rA (s.trans r),λ_=>p _ r⟩
 ·exact p _ m
def yu{s r:O}{u:List bq}(i:At b d f h c u g e){z x:List Int}(w:ar b s z)(v:ar b r x)(p:j<e.args.length):ng 319 [.agg #[O.v d,O.v f],nv e h c,vi j,O.v s,O.v r] b:=by
 apply BZ;simp -zeta only[aE,aD];intro A l;obtain⟨a,k⟩:=di (a:=A) (c:=l) rfl rfl;clear_value l;have C:=i.args.len;obtain⟨y,q⟩:=ag p;refine⟨V,V,y,(i.args.ext a).u q,?_⟩;refine(cU (v.ext a) y).any.aG (J.aC l) k λo D n _=>⟨_,rfl,λ_=>rA (a.trans n),λ_=>?_⟩;have t:=a.trans n;refine⟨V,V,y,(i.args.ext t).u q,?_⟩;refine(cU (w.ext t) y).any.aG n k λo E G m=>⟨_,rfl,λ_=>rA (a.trans m),λ_=>?_⟩;exact(Aj (i.le (a.trans m).le) p).aG m k λo F H B=>⟨_,rfl,rA (a.trans B)⟩
end
section
def UW(b:Bk):Prop:=∀(S:List Nat)(m:I),(∀c∈S,c<m.size)->∀(t a:O)(l:List Int)(n:Int)(k:Nat),dN m t b.aA->ar (bA S m) a l->k<=b.aA.length->l.length+b.w<=1000000000000->
 CJ 288 [.agg #[O.v t,vi b.aR],vi n,vi k,O.v a] m S λc=>c.length<=l.length+b.w
def _root_.Go.Vc.Ul{σ:Type}{n c:Nat}(o:c<=n)(r:n<=9223372036854775807){m:I}{h:σ}{g:(σ->Int->I->Prop)->(σ->Int->I->Nat)->σ->Int->I->Prop}(Q:Nat->σ->I->Prop)(l:Q c h m)
 (j:∀(k:Nat)(s:σ)(a:I)(b:σ->Int->I->Prop)(μ:σ->Int->I->Nat),c<=k->k<=n->Q k s a->
  (k<n->∀e d,Q (k+1) e d->b e (cK ((k:Int)+1)) d/\μ e (cK ((k:Int)+1)) d<μ s k a)->g b μ s k a):
 ∃(b:σ->Int->I->Prop)(μ:σ->Int->I->Nat),b h c m/\∀s i a,b s i a->g b μ s i a:=by
 refine⟨λs i d=>∃k:Nat,i=k/\c<=k/\k<=n/\Q k s d,λ_ i _=>(n -i).toNat,⟨c,rfl,ad _,o,l⟩,?_⟩
 rintro s i a ⟨k,rfl,p,q,t⟩
 refine j k s a _ _ p q t λf e d u=>?_
 rw[jJ f r]
 exact⟨⟨k+1,rfl,V,f,u⟩,AM f⟩
def BA{S:List Nat}{m:I}(T:∀i∈S,i<m.size){E K L:O}{f:List Int}{x:cq}(N:Int)(u:ar m E x.args)(w:mo m K x.bu)(G:ar (bA S m) L f)(hb:f.length+x.w<=1000000000000)(Y:∀e∈x.bu,UW e):
 CJ 318 [nv x E K,vi N,O.v L] m S λa=>a.length<=f.length+x.w:=by
 apply uT
 simp -zeta only[aE,aD]
 intro b
 have g:J m b:=J.push _ _
 have z:∀e∈[m.size],e<b.size:=by simp[b]
 clear_value b
 have U:=u.len
 have W:=w.len
 have hw:=cq.kN x
 have H:∀{c:I},J b c->∀i∈S,i<c.size:=λh i F=>aJ (T i F) (g.trans h).size
 refine(rq x.op b).any.aG (J.aC b) z λe m2 r _=>⟨_,rfl,λ_=>⟨_,_,rfl,G.le ((g.trans r).cJ S),V,g.trans r⟩,λ_=>?_⟩
 refine dC (n:=x.args.length) (U▸u.fL) (λA s c=>J b c/\∃a,ar (bA S c) s a/\a.length<=f.length+A) ⟨r,f,G.le ((g.trans r).cJ S),ad _⟩ ?_
 rintro A s m3 ae μ hj ⟨d,a,o,F⟩ C
 have u3:=g.trans d
 refine dit (λh=>?_) λh=>?_
 ·obtain⟨y,v⟩:=ag (l:=x.args) (k:=A) V
  have j:=(u.ext u3).u v
  refine⟨V,V,y,j,λ_=>⟨V,V,y,j,λ_=>⟨V,V,y,j,?_⟩,λ_=>C V _ _ ⟨d,a,o,V⟩⟩,λ_=>C V _ _ ⟨d,a,o,V⟩⟩
  exact(kT (H d) o y V).aG d z λab B M p D t q=>⟨_,rfl,C V _ _ ⟨q,B,p.done (H d) (by have:=D.2;omega),by have:=D.2;omega⟩⟩
 ·refine dC (n:=x.bu.length) (W▸w.fL) (λj s c=>J b c/\∃a,ar (bA S c) s a/\a.length<=f.length+x.args.length+bw (x.bu.take j)) ⟨d,a,o,bK⟩ ?_
  rintro j s2 M I2 μ2 hi ⟨t,B,p,ah⟩ aa
  have q:=g.trans t
  have y:=Ik x.bu
  refine⟨λh=>?_,λh=>⟨_,_,rfl,p,by have:=y j;omega,q⟩⟩
  simp only[ao]at h
  obtain⟨e,v⟩:=ag (l:=x.bu) (k:=j) V
  obtain⟨ac,X,P,Q⟩:=(w.le q.le).u v
  have af:=sF v
  refine⟨V,V,_,P,_,Q,?_⟩
  exact(Y e (au v) S M (H t) ac s2 B N 0 X p (dH _) (by have:=y (j+1);omega)).aG t z λab Z m5 R D x5 u5=>⟨_,rfl,aa V _ _ ⟨u5,Z,R,V⟩⟩
def xL:∀e:Bk,UW e:=by
 refine Bk.ind ?_;intro aA U P S r F ac ab p Q k0 m M K hb;simp only[Bk.jd,Bk.iy,Bk.oV]at*;apply BC;simp -zeta only[aE,aD];intro a;have d:J r a:=J.push _ _;have v:∀e∈[r.size],e<a.size:=by simp[a]
 clear_value a;have N:=m.len;have H:∀{c:I},J a c->∀f∈S,f<c.size:=λh f u=>aJ (F f u) (d.trans h).size;refine Ul (n:=aA.length) K (N▸m.fL) (λj t c=>J a c/\∃q,ar (bA S c) t q/\q.length<=p.length+sw (aA.take j)) ⟨J.aC _,p,M.le (d.cJ S),V⟩ ?_;rintro j t y Y μ _ hj ⟨b,q,g,u⟩ R
 have B:=d.trans b;have w:=yY aA;refine⟨λh=>?_,λh=>?_⟩
 ·simp only[ao]at h;obtain⟨X,o⟩:=ag (l:=aA) (k:=j) V;obtain⟨Z,kk,G,L,z,A,i,C,D⟩:=(m.le B.le).u o;have aa:=od o;refine⟨V,V,_,z,_,A,_,i,_,C,_,D,?_⟩;exact(BA (H b) Q G L g (by have:=w (j+1);omega) (P X (au o))).aG b v λT x m3 E s x3 W=>⟨_,rfl,R V _ _ ⟨W,x,E,V⟩⟩
 ·have D:=w j;have z:∃A o,O.v t=O.v A/\ar (bA S y) A o/\o.length<=p.length+(1+sw aA)/\J r y:=⟨_,_,rfl,g,V,B⟩;refine⟨λ_=>⟨λ_=>?_,λ_=>z⟩,λ_=>z⟩;exact(kT (H b) g U V).aG b v λT x E i s G C=>⟨_,rfl,_,_,rfl,i.done (H b) (by have:=s.2;omega),by have:=s.2;omega,d.trans C⟩
def AT{S:List Nat}{m:I}(i:∀d∈S,d<m.size){t:O}{b:Bk}(l:dN m t b.aA)(n:Int)(c:b.w<=1000000000000):CJ 253 [.agg #[O.v t,vi b.aR],vi n] m S λf=>f.length<=b.w:=by
 apply Eb;simp -zeta only[aE,aD];intro g a;obtain⟨e,k⟩:=di (a:=g) (c:=a) rfl rfl;have h:ar (bA S a) (.mk g.size 0 0 0) []:=⟨rfl,ad _,E,E⟩;clear_value a;exact(xL b S a (λd j=>e.lt (i d j)) t _ _ n 0 (l.le e.le) h (dH _) (by simpa using c)).aG (J.aC a) (λb c=>k b (by simp at c⊢;exact Or.inr c)) λr f o d q j _=>⟨_,rfl,_,_,rfl,d,by simpa using q,e.trans j⟩
section
variable{b:List Nat}{m:I}(e:∀c∈b,c<m.size){d r a q u t s:O}{w:List bq}{A:List fD}{x:cq}(h:At m d r a q w A x){v g z:List Int}(p:ar m u v)(o:∀y∈x.args,0<=y/\y<(v.length:Int))(f:ar m t g)(j:ar m s z)
include e h p o
def wj(R:x.args.length<=1000000000000):jR 257 [.agg #[O.v d,O.v r],O.v u,nv x a q] m b (nE x.args):=by
 apply rX;simp -zeta only[aE,aD];intro N g T;obtain⟨t,D⟩:=di (a:=N) (c:=g) rfl rfl;clear_value g;have M:=h.args.len;refine dC (n:=x.args.length) (M▸h.args.fL) (λj z s=>J g s/\∃f,GI b g s z f/\(∀y∈f,y∈x.args)/\f.length<=j) ⟨J.push _ _,[],GI.nil b g,E,ad _⟩ ?_;rintro j z U P μ S ⟨H,f,v,w,C⟩ G
 have A:=t.trans H;refine dit (λL=>?_) λL=>?_
 ·obtain⟨y,F⟩:=ag (l:=x.args) (k:=j) V;refine(lj (h.le A.le) (p.ext A) o (j:=j) V).aG H D λQ W I s=>⟨_,rfl,λ_=>⟨V,V,y,(h.args.ext (t.trans s)).u F,?_⟩,λ_=>G V _ _ ⟨s,f,v.ext I,w,V⟩⟩;intro X;exact GI.jK (v.ext I) (s.fz []) (λc C=>t.lt (e c C)) V λr Y K B _ _=>⟨J.mU (s.aM _) B.ext D,G V _ _ ⟨B.ext,_,K,nl w (au F),bK⟩⟩
 ·exact⟨z,f,rfl,v.cG (λ_ h=>h) t.size,⟨w,V⟩,A⟩
include f j
def DI(hb:x.args.length<=1000000000000):jR 290 [.agg #[O.v d,O.v r],O.v u,nv x a q,O.v t,O.v s] m b (nE x.args):=by
 apply wo;simp -zeta only[aE,aD];intro X w aa;obtain⟨z,D⟩:=di (a:=X) (c:=w) rfl rfl;clear_value w;have W:=h.args.len;refine dC (n:=x.args.length) (W▸h.args.fL) (λv G A=>J w A/\∃g,GI b w A G g/\(∀y∈g,y∈x.args)/\g.length<=v) ⟨J.push _ _,[],GI.nil b w,E,ad _⟩ ?_;rintro v G m3 Z μ hj ⟨Q,g,A,B,N⟩ F
 have H:=z.trans Q;refine dit (λU=>?_) λU=>?_
 ·obtain⟨y,P⟩:=ag (l:=x.args) (k:=v) V;refine(lj (h.le H.le) (p.ext H) o (j:=v) V).aG Q D λS m4 L I=>⟨_,rfl,λ_=>?_,λ_=>F V _ _ ⟨I,g,A.ext L,B,V⟩⟩;have K:=z.trans I;refine(yu (h.le K.le) (f.ext K) (j.ext K) (j:=v) V).aG I D λS m5 R C=>⟨_,rfl,λ_=>⟨V,V,y,(h.args.ext (z.trans C)).u P,?_⟩,λ_=>F V _ _ ⟨C,g,(A.ext L).ext R,B,V⟩⟩;intro Y;exact GI.jK ((A.ext L).ext R) (C.fz []) (λc N=>z.lt (e c N)) V λr Y T M _ _=>⟨J.mU (C.aM _) M.ext D,F V _ _ ⟨M.ext,_,T,nl B (au P),bK⟩⟩
 ·exact⟨G,g,rfl,A.cG (λ_ h=>h) z.size,⟨B,V⟩,H⟩
def Fw(hb:g.length<=1000000000000):jR 292 [.agg #[O.v d,O.v r],O.v u,nv x a q,O.v t,O.v s] m b (nE g):=by
 apply yw;simp -zeta only[aE,aD];intro m0 B;obtain⟨w,K⟩:=di (a:=m0) (c:=B) rfl rfl;clear_value B;have ai:=h.args.len;have ae:∀{z:I},J B z->∀c∈b,c<z.size:=λh c hc=>aJ (e c hc) (w.trans h).size;have Z:aN bY 321 [O.v t,O.v s] B λv z=>dV [m0.size,m.size] B z/\∃ab:O,v=O.v ab/\∃C aa,O.v ab=O.v C/\GI b m z C aa/\nE g aa/\J m z:=by
  refine(Kg (S:=[]) E (f.le (w.le.trans (xB _))) (j.le (w.le.trans (xB _))) hb).aG (J.aC B) K λC A aj F N X _=>⟨_,rfl,C,A,rfl,?_,N,w.trans X⟩;obtain⟨G,P,Q,H⟩:=F;exact⟨G,P,Q.cG w.size,H.mono λ_ _ h=>h⟩
 refine⟨λ_=>Z,λ_=>⟨λ_=>Z,λ_=>?_⟩⟩;refine(kL (S:=[]) E (f.le (w.le.trans (xB _))) hb).aG (J.aC B) K λs0 _ aj G ah X _=>⟨_,rfl,?_⟩;subst ah;refine dC (n:=x.args.length) (ai▸h.args.fL) (λM C z=>J B z/\∃A,GI b m z C A/\nE g A) ⟨X,g,?_,λ_ h=>h,ad _⟩ ?_
 ·obtain⟨G,P,Q,H⟩:=G;exact⟨G,P,Q.cG w.size,H.mono λ_ _ h=>h⟩
 rintro M C m3 ak μ hj ⟨x3,A,F,D⟩ R
 have T:=w.trans x3;refine⟨λh1=>?_,λh1=>⟨C,A,rfl,F,D,T⟩⟩;simp only[ao]at h1;obtain⟨y,hy⟩:=ag (l:=x.args) (k:=M) V;refine(lj (h.le T.le) (p.ext T) o (j:=M) V).aG x3 K λaf m4 Y U=>⟨_,rfl,λ_=>?_,λ_=>R V _ _ ⟨U,A,F.ext Y,D⟩⟩;have W:=w.trans U;refine(yu (h.le W.le) (f.ext W) (j.ext W) (j:=M) V).aG U K λaf m5 x5 L=>⟨_,rfl,λ_=>⟨V,V,y,(h.args.ext (w.trans L)).u hy,?_⟩,λ_=>R V _ _ ⟨L,A,(F.ext Y).ext x5,D⟩⟩;refine(yX (S:=b) (ae L) (((F.ext Y).ext x5).done e (by have:=D.2;omega)) y (by have:=D.2;omega)).aG L K λr l2 m6 H N x6 u6=>⟨_,rfl,R V _ _ ⟨u6,l2,H.cG (λ_ h=>h) (w.trans L).size,λac hz=>D.1 ac (N.1 ac hz),bJ N.2 D.2⟩⟩
omit p o
def Fx(hb:x.args.length<1000000000000):jR 293 [.agg #[O.v d,O.v r],nv x a q,O.v t,O.v s] m b (nE x.args):=by
 apply yx;simp -zeta only[aE,aD];intro m0 o ab;obtain⟨g,A⟩:=di (a:=m0) (c:=o) rfl rfl;clear_value o;have Y:=h.args.len;have U:∀{v:I},J o v->∀c∈b,c<v.size:=λh c z=>aJ (e c z) (g.trans h).size;refine dC (n:=x.args.length) (Y▸h.args.fL) (λC L v=>J o v/\∃i,GI b o v L i/\(∀y∈i,y∈x.args)/\i.length<=C) ⟨J.push _ _,[],GI.nil b o,E,ad _⟩ ?_;rintro C L m3 aa μ hj ⟨R,i,p,u,z⟩ D
 have Q:=g.trans R;refine dit (λX=>?_) λX=>?_
 ·obtain⟨y,B⟩:=ag (l:=x.args) (k:=C) V;refine(mw (h.le Q.le) C).aG R A λN m4 H F=>⟨_,rfl,λ_=>⟨V,V,y,(h.args.ext (g.trans F)).u B,?_⟩,λ_=>D V _ _ ⟨F,i,p.ext H,u,V⟩⟩;refine(cU (f.ext (g.trans F)) y).any.aG F A λN m5 M G=>⟨_,rfl,λ_=>⟨V,V,y,(h.args.ext (g.trans G)).u B,?_⟩,λ_=>D V _ _ ⟨G,i,(p.ext H).ext M,u,V⟩⟩;refine(cU (j.ext (g.trans G)) y).any.aG G A λN m6 S w=>⟨_,rfl,λ_=>⟨V,V,y,(h.args.ext (g.trans w)).u B,?_⟩,λ_=>D V _ _ ⟨w,i,((p.ext H).ext M).ext S,u,V⟩⟩;refine(kT (U w) ((((p.ext H).ext M).ext S).done (λc z=>g.lt (e c z)) V) y V).aG w A λr l2 m7 W P x7 u7=>⟨_,rfl,D V _ _ ⟨u7,l2,W.cG (λ_ h=>h) w.size,λT Z=>?_,by have:=P.2;omega⟩⟩;rcases P.1 T Z with K|K
  ·exact u T K
  ·subst K;exact au B
 ·exact⟨L,i,rfl,p.cG (λ_ h=>h) g.size,⟨u,V⟩,Q⟩
end
end
section
variable{m e a:I}{c g:List Nat}{s:O}{d:List Int}{f h:Nat}{K:Value->I->Prop}
def oF{h i j:Obj}{a b c:I}(e:a=m.push h)(f:b=a.push i)(g:c=b.push j):J m c/\(∀d∈[b.size,a.size,m.size],d<c.size)/\a.size=m.size+1/\b.size=m.size+2/\c.size=m.size+3:=by
 subst e f g;exact⟨((J.push _ _).trans (J.push _ _)).trans (J.push _ _),bK,E,E,E⟩
def GI.PG{X:List Nat}{n:I}{h:O}{l:List Int}{a:Int}{K:O->I->Prop}(p:GI c e m s d)(j:GI g n m h l)(k:s.F≠h.F)(q:Fz X e m)(w:d.length<=1000000000000)
 (t:∀r b,GI c e b r (d++[a])->GI g n b h l->r.F≠h.F->Fz X e b->K r b):iS (m.push (.cells (br [.i a]) aB)) aB [.i 0] 8 s (.mk m.size 0 1 1) K:=by
 have u:=j.aY
 refine Gr.jK (g:=[.i 0]) rS.mono bd p q rfl V λr b o f z v=>t r b o (j.iz (v _ u.2 (jQ k))) ?_ f
 rcases z.2 with i|i
 ·rw[i];exact k
 ·omega
def GI.any(h:GI c e m s d):GI g e m s d:=by
 obtain⟨b,a,f,i⟩:=h;exact⟨b,a,f,i.mono λ_ _ h=>h⟩
def dX(a v:Int):cq:=⟨a,0,0,[v],[]⟩
abbrev GS(c:List Nat)(e m:I)(s:O)(d:List cq):Prop:=Gr c e m fg 5 ft s d
def GS.new(c:List Nat)(m:I):GS c m (m.push (.cells (br []) fg)) (.mk m.size 0 0 0) []:=Gr.new c (ad _) _ _ _
def GS.jK{c X:List Nat}{e m:I}{s a k:O}{d:List cq}{x:cq}{K:O->I->Prop}(h:GS c e m s d)(j:Fz X e m)(i:ar (bA (s.F::c) m) a x.args)(l:mo (bA (s.F::c) m) k x.bu)(n:d.length<=1000000000000)
 (g:∀r b,GS c e b r (d++[x])->Fz X e b->m.size<=b.size/\(r.F=s.F\/m.size<=r.F)->(∀f,f<m.size->f≠s.F->b[f]? =m[f]?)->K r b):
 iS (m.push (.cells (br [.i x.op,.i x.bL,.i x.bV,.s a,.s k]) fg)) fg [.i 0,.i 0,.i 0,.s .nil,.s .nil] 72 s (.mk m.size 0 1 1) K:=
 Gr.jK (g:=[.i 0,.i 0,.i 0,.s .nil,.s .nil]) ft.mono bd h j ⟨a,k,rfl,i,l⟩ V g
def GS.all{c X:List Nat}{e m:I}{s x:O}{d f:List cq}{K:O->I->Prop}(h:GS c e m s d)(i:Fz X e m)(j:dN (bA (s.F::c) m) x f)(k:d.length+f.length<=1000000000000)
 (g:∀r a,GS c e a r (d++f)->Fz X e a->m.size<=a.size/\(r.F=s.F\/m.size<=r.F)->(∀b,b<m.size->b≠s.F->a[b]? =m[b]?)->K r a):
 iS m fg [.i 0,.i 0,.i 0,.s .nil,.s .nil] 72 s x K:=
 Gr.all (g:=[.i 0,.i 0,.i 0,.s .nil,.s .nil]) ft.mono bd h i j V g
def kY{α:Type}(m:I)(a:Nat)(R:List Ce->α->Prop)(b o c:Nat):dW m a R (.mk b o 0 c) []:=⟨rfl,dH _,E,E⟩
def gZ(n:∀f∈c,f<m.size)(g v:Int):aN bY 225 [vi g,vi v] m λs d=>∃a k,s=nv (dX g v) a k/\ar (bA c d) a [v]/\mo (bA c d) k []/\J m d:=by
 apply zV;simp -zeta only[aE,aD];intro b e q r;have t:J m b:=J.push _ _;have u:J b e:=J.push _ _;have i:J e q:=J.push _ _;have w:b.size=m.size+1:=by simp[b]
 have p:J m r:=((t.trans u).trans i).aj (ad _) _ _;refine⟨_,_,rfl,?_,kY _ _ _ _ _ _,p⟩;have l:ar (bA (m.size::c) e) (.mk b.size 0 1 1) [v]:=ar.lit aB [v] (λj o=>by
  rcases List.mem_cons.1 o with h|h
  ·omega
  ·have:=n j h;omega) rfl rfl E
 exact(l.le (i.cJ _)).le (bS ba λf h=>ai _ h)
def OP(f:Nat)(b:List Value)(m:I)(c:List Nat)(Q:List cq->Prop):Prop:=aN bY f b m λv a=>∃s d,v=O.v s/\GS c m a s d/\Q d/\J m a
def OP.aG{i:List Value}{d:List Nat}{Q:List cq->Prop}(l:OP f i m c Q)(j:J a m)(q:∀g∈d,g<a.size)(p:∀s e b,GS c m b s e->Q e->J m b->J a b->K (O.v s) b):aN bY f i m λv b=>dV d m b/\K v b:=
 l.mono λ_ b⟨s,e,k,n,r,h⟩=>⟨h.da λg o=>j.lt (q g o),k▸p s e b n r h (j.trans h)⟩
def dU(z:∀i∈c,i<m.size)(b:Int){r:O}(j:ar m r d)(D:d.length<=1000000000000):OP 255 [vi b,O.v r] m c (d.map (dX b)=·):=by
 apply yd;intro G;have B:=j.len;refine dC (n:=d.length) (B▸j.fL) (λo s e=>J m e/\GS c m e s ((d.take o).map (dX b))) ⟨J.push m _,by simpa using GS.new c m⟩ ?_;rintro o s H I μ E ⟨g,e⟩ C
 refine dit (λh=>?_) λh=>?_
 ·obtain⟨p,q⟩:=ag (l:=d) (k:=o) V;refine⟨V,V,p,(j.ext g).u q,?_⟩;refine(gZ (c:=s.F::c) (λi A=>?_) b p).mono λQ K⟨a,F,u,w,y,t⟩=>?_
  ·have:=e.aY;rcases List.mem_cons.1 A with h|h
   ·omega
   ·exact g.lt (z i h)
  subst u;refine⟨_,_,_,_,_,rfl,?_⟩;intro L;refine GS.jK (x:=dX b p) (e.ext ft.mono t) ((g.trans t).fz []) w y bK λP M v f R N=>C V _ _ ⟨f.ext,?_⟩
  rw[bH q,eP];exact v
 ·rw[bZ V]at e;exact⟨s,_,rfl,e,rfl,g⟩
def mL(a:Int):∀d:List Int,sw (d.map (dX a))=2*d.length
 |[]=>rfl
 |v::d=>by rw[cg,ln,mL a d,cq.kN];simp[dX];omega
def jf{a:Int}(h:14<=a):∀d:List Int,dc (d.map (dX a))=0
 |[]=>rfl
 |v::d=>by
  rw[cg,jD,jf h d];unfold dn;rw[ae (λb:nB (dX a v).op=>by have:=b.2;simp only[dX]at this;omega)]
def Bh{e:List bq}{a:Nat}{c v:Int}(f:14<=c/\c<=17)(g:0<=v/\v<(a:Int)):WS e h True a (dX c v):=
 ⟨⟨Or.inr ⟨trivial,f⟩,λx d=>by simp[dX]at d;subst d;exact g,λ_=>rfl,by simp[dX],λb=>by simp only[dX]at b;omega,λb=>by simp only[dX]at b;omega,λb=>by simp only[dX]at b;omega⟩,λk d b=>by simp[dX]at b⟩
def pP{f:List bq}{a:Nat}{b:Int}(c:14<=b/\b<=17)(g:∀v∈d,0<=v/\v<(a:Int)):WL f h True a (d.map (dX b)):=λj s e=>by
 rw[bW,iK]at e;obtain⟨v,i,rfl⟩:=e;rw[<-Lj,jf c.1];exact Bh c (g v (au i))
def lX(f:Nat)(d:List Value)(m:I)(c:List Nat)(Q:Bk->Prop):Prop:=aN bY f d m λv a=>∃s b,v=.agg #[O.v s,vi b.aR]/\dN (bA c a) s b.aA/\Q b/\J m a
def lX.aG{h:List Value}{d:List Nat}{Q:Bk->Prop}(l:lX f h m c Q)(i:J a m)(q:∀e∈d,e<a.size)(p:∀s e b,dN (bA c b) s e.aA->Q e->J m b->J a b->K (.agg #[O.v s,vi e.aR]) b):aN bY f h m λv b=>dV d m b/\K v b:=
 l.mono λ_ b⟨s,e,k,n,r,g⟩=>⟨g.da λj o=>i.lt (q j o),k▸p s e b n r g (i.trans g)⟩
def H9(f:Nat)(d:List Value)(m:I)(c:List Nat)(Q:cq->Prop):Prop:=aN bY f d m λv b=>∃a k x,v=nv x a k/\ar (bA c b) a x.args/\mo (bA c b) k x.bu/\Q x/\J m b
def H9.aG{g:List Value}{d:List Nat}{Q:cq->Prop}(l:H9 f g m c Q)(h:J a m)(s:∀b∈d,b<a.size)(r:∀p k x b,ar (bA c b) p x.args->mo (bA c b) k x.bu->Q x->J m b->J a b->K (nv x p k) b):aN bY f g m λv b=>dV d m b/\K v b:=
 l.mono λ_ b⟨p,k,x,j,n,o,t,e⟩=>⟨e.da λi q=>h.lt (s i q),j▸r p k x b n o t e (h.trans e)⟩
def bG{b:I}(e:∀a∈c,a<m.size)(i:m.size<=b.size){d:Nat}(g:d<b.size):∀a∈d::c,a<b.size:=λa f=>by
 rcases List.mem_cons.1 f with h|h
 ·omega
 ·have:=e a h;omega
structure WM(ds:List bq)(h:Nat)(v lo la:List Int)(b:Bk):Prop where
 aW:∀o∈lo,0<=o/\o<(v.length:Int)
 UO:lo.length+5*b.w<=500
 UM:la.length+1000*b.w<=1000000
 vN:v.length+5*b.w<=1000000
 wb:WB ds h False v.length b
def TX(a:List bq)(d:List fD)(b:Bk):Prop:=∀(c:List Nat)(m:I),(∀e∈c,e<m.size)->∀(g r k t j e:O)(v i h:List Int),dJ m g r a d->ar m k v->dN m t b.aA->ar m j i->ar m e h->WM a d.length v i h b->
 lX 254 [.agg #[O.v g,O.v r],O.v k,.agg #[O.v t,vi b.aR],O.v j,O.v e] m c λf=>WB a d.length True v.length f/\f.w+1050<=1100*b.w
structure WK(ds:List bq)(h:Nat)(v fl lo la:List Int)(b:Bk):Prop where
 aW:∀o∈lo,0<=o/\o<(v.length:Int)
 YT:fl.length<=3
 UO:lo.length+3+5*b.w<=500
 UM:la.length+1000*b.w<=1000000
 vN:v.length+3+5*b.w<=1000000
 wb:WB ds h False (v.length+fl.length) b
def Hi(hS:∀a∈c,a<m.size){aq N aV aK aC bn a6:O}{ds:List bq}{rs:List fD}{U R lo la:List Int}{j:Bk}(hn:dJ m aq N ds rs)(hv:ar m aV U)(hf:ar m aK R)(hs:dN m aC j.aA)(w:ar m bn lo)(bf:ar m a6 la)
 (hp:WK ds rs.length U R lo la j)(ih:TX ds rs j):lX 320 [.agg #[O.v aq,O.v N],O.v aV,O.v aK,.agg #[O.v aC,vi j.aR],O.v bn,O.v a6] m c λt=>WB ds rs.length True (U.length+R.length) t/\t.w<=1100*j.w:=by
 apply zT
 simp -zeta only[aE,aD]
 intro e r H
 obtain⟨z,v,s0,s1,s2⟩:=oF (a:=e) (b:=r) (c:=H) rfl rfl rfl
 clear_value H
 have b_:=hv.len;have bC:=hf.len;have bH:=w.len;have bW:=hp.YT;have bU:=j.Eo;have bZ:=hp.UO;have b9:=hp.vN;have bX:=hp.UM
 refine(dL (S:=[]) E (hv.le (z.le.trans (xB _))) (hf.le (z.le.trans (xB _))) V).aG (J.aC H) v λaQ _ cc gi h x3 _=>⟨_,rfl,?_⟩
 subst h
 refine(AT (S:=[]) E (hs.le (z.trans x3).le) _ V).aG x3 v λbM ul L hu b8 x4 P=>⟨_,rfl,?_⟩
 intro m5 m6
 have bi:ar L bM ul:=hu.le (bt _ _)
 have bu:J L m6:=(J.push L _).trans (J.push m5 _)
 have u6:=P.trans bu
 have s5:m5.size=L.size+1:=by simp[m5]
 have gm:GI c L m6 (.mk L.size 0 0 0) []:=(GI.nil c L).ext (J.push m5 _)
 have gd:GI c L m6 (.mk m5.size 0 0 0) []:=(GI.nil c m5).cG (λ_ u=>u) V
 clear_value m6
 have z4:=P.size
 refine uL (n:=lo.length) (bH▸w.fL) (λah i sd M=>J L M/\∃lm Q,GI c L M i lm/\GI c L M sd Q/\i.F≠sd.F/\(∀q∈lm,q∈lo)/\(∀q∈Q,q∈lo)/\lm.length<=ah/\Q.length<=ah) ⟨bu,[],[],gm,gd,bK,E,E,ad _,ad _⟩ ?_
 rintro ah i sd m7 bv μ hk ⟨x7,lm,Q,gm,gd,bg,a2,a1,cm,cd⟩ bm
 have u7:=P.trans x7
 have v7:=z.trans u7
 refine dit (λu=>?_) λu=>?_
 ·obtain⟨y,hy⟩:=ag (l:=lo) (k:=ah) V
  have G:=au hy
  have C:∀M,J m7 M->iS (M.push (.cells (br [.i y]) aB)) aB [.i 0] 8 i (.mk M.size 0 1 1) λT m'=>dV [r.size,e.size,m.size] (M.push (.cells (br [.i y]) aB)) m'/\bv T sd (cK ((ah:Int)+1)) m'/\μ T sd (cK ((ah:Int)+1)) m'<μ i sd ah m7:=λM ac=>
   GI.PG (gm.ext ac) (gd.ext ac) bg ((x7.trans ac).fz []) V λN m' B g' o f=>⟨J.mU ((u7.trans ac).aM _) (P.trans f.ext) v,bm V _ _ _ ⟨f.ext,_,_,B,g',o,nl a2 G,a1,bK,V⟩⟩
  refine⟨V,V,y,(w.ext v7).u hy,?_⟩
  refine(cU (bi.ext x7) y).any.aG u7 v λa m8 p b=>⟨_,rfl,λ_=>⟨V,V,y,(w.ext (z.trans b)).u hy,C m8 p⟩,λ_=>⟨V,V,y,(w.ext (z.trans b)).u hy,?_⟩⟩
  refine(cU (bf.ext (z.trans b)) y).any.aG b v λa A W u9=>⟨_,rfl,λ_=>⟨V,V,y,(w.ext (z.trans u9)).u hy,C A (p.trans W)⟩,λ_=>⟨V,V,y,(w.ext (z.trans u9)).u hy,?_⟩⟩
  intro a7
  have ac:=p.trans W
  exact GI.PG (gd.ext ac) (gm.ext ac) bg.symm ((x7.trans ac).fz []) V λN m' B g' o f=>⟨J.mU ((u7.trans ac).aM _) (P.trans f.ext) v,bm V _ _ _ ⟨f.ext,_,_,g',B,o.symm,a2,nl a1 G,V,bK⟩⟩
 have cm:lm.length<=lo.length:=V
 have cd:Q.length<=lo.length:=V
 intro m8
 have b1:=gm.aY
 have bV:=gd.aY
 refine dC (n:=R.length) (bC▸hf.fL) (λah s M=>J m7 M/\∃d,GI c m7 M s d/\(∀q∈d,0<=q/\q<((U.length+R.length:Nat):Int))/\d.length<=ah) ⟨J.push _ _,[],GI.nil c m7,E,ad _⟩ ?_
 rintro bj su A I2 μ2 hj ⟨W,C,gu,av,cu⟩ a9
 have u9:=u7.trans W
 have v9:=z.trans u9
 refine dit (λh2=>?_) λh2=>?_
 ·obtain⟨y,hy⟩:=ag (l:=R) (k:=bj) V
  refine⟨V,V,y,(hf.ext v9).u hy,λ_=>?_,λ_=>a9 V _ _ ⟨W,C,gu,av,V⟩⟩
  rw[aP (b:=(aV.len:Int)+bj) V V]
  refine(cU ((bi.ext x7).ext W) _).any.aG u9 v λa a7 am aU=>⟨_,rfl,λ_=>?_,λ_=>a9 V _ _ ⟨W.trans am,C,gu.ext am,av,V⟩⟩
  intro bk
  refine GI.jK (gu.ext am) ((W.trans am).fz []) (λa b=>aJ (hS a b) (z.trans u7).size) V λN m' B f ao ab=>⟨J.mU ((u9.trans am).aM _) (u7.trans f.ext) v,a9 V _ _ ⟨f.ext,_,B,λq w=>?_,bK⟩⟩
  rcases List.mem_append.1 w with w|w
  ·exact av q w
  ·simp at w;omega
 have b7:=gu.aY
 have a0:=gm.ext W
 have bz:∀{M:I},J H M->∀a∈r.size::c,a<M.size:=λu=>bG hS (z.trans u).size (u.lt (v _ E))
 have aO:∀{M:I},J H M->i.F<M.size->∀a∈i.F::r.size::c,a<M.size:=λu Z a b=>by
  rcases List.mem_cons.1 b with h|h
  ·omega
  ·exact bz u a h
 refine(dU (c:=i.F::r.size::c) (aO u9 a0.aY.2) 14 ((gu.done (S:=c) (λa b=>aJ (hS a b) (z.trans u7).size) V).le (bt _ _)) V).aG u9 v λs1 _ a7 g1 h am aU=>⟨_,rfl,?_⟩
 subst h
 have a4:i.F<a7.size:=am.lt a0.aY.2
 refine(dU (c:=s1.F::i.F::r.size::c) (λa b=>?_) 15 ((((gd.done (S:=c) (λa b=>aJ (hS a b) (z.trans P).size) V).le (bt _ _)).ext W).ext am) V).aG aU v λs2 _ bk g2 h aX bL=>⟨_,rfl,?_⟩
 ·rcases List.mem_cons.1 b with h|h
  ·have:=g1.aY;omega
  ·exact aO aU a4 a h
 subst h
 have b0:i.F<bk.size:=aX.lt a4
 have b3:=(g1.ext ft.mono aX).aY
 have e2:=g2.mq ft.mono (λb=>by
  have hy:=g2.aY;rcases List.mem_cons.1 b with h|h
  ·have:=g1.aY;omega
  ·have:=aO aU a4 _ h;omega) bd bK
 refine GS.all (g1.ext ft.mono aX) ((am.trans aX).fz []) e2 bK λG T g3 f3 z3 q3=>⟨J.mU bL (u9.trans f3.ext) v,?_⟩
 have an:J A T:=f3.ext
 have aF:=u9.trans an
 have cf:=z.trans aF
 have My:WL ds rs.length True (U.length+R.length) (C.map (dX 14)++Q.map (dX 15)):=by
  refine(pP V av).append ?_;rw[jf V];refine pP V λq w=>?_;have:=hp.aW q (a1 q w);omega
 have bp:dc (C.map (dX 14)++Q.map (dX 15))=0:=by rw[cr,jf V,jf V]
 have ce:sw (C.map (dX 14)++Q.map (dX 15))<=1006:=by rw[db,mL,mL];omega
 have bc:GI c L T i lm:=(gm.ext W).ext an
 have bF:G.F≠i.F:=g3.IW bc bd
 have aL:∀{M o:I},J H M->J H o->∀j∈[r.size,e.size,m.size],∀q,D o j q=D M j q:=λu h' j Z q=>aI (by rw[h'.same j (v j Z),u.same j (v j Z)]) q
 have E4:∀{M o:I},J H M->J H o->∀{ax:Prop},ax->D o e.size 0=D M e.size 0/\D o e.size 1=D M e.size 1/\D o m.size 0=D M m.size 0/\D o m.size 1=D M m.size 1/\ax:=λu h' _ hp=>⟨aL u h' _ E _,aL u h' _ E _,aL u h' _ E _,aL u h' _ E _,hp⟩
 have F4:∀{M:I},Fz [i.F] A M->J L M:=λu=>Fz.ext ((((x7.trans W).fz [i.F]).trans u).AZ λj Z=>Or.inr (by simp at Z;omega))
 have b6:i.F<A.size:=a0.aY.2
 have z3:=x3.size
 have tail:∀(M:I)(p:Nat)(ss:O)(t:Bk),GS (p::i.F::r.size::c) A M G (C.map (dX 14)++Q.map (dX 15))->Fz [i.F] A M->A.size<=p->p<M.size->p≠G.F->dN (bA (p::G.F::i.F::r.size::c) M) ss t.aA->WB ds rs.length True (U.length+R.length) t/\t.w+1050<=1100*j.w->
  let X:I:=aj M p 0 [.s ss,.i t.aR]
  iS X fg [.i 0,.i 0,.i 0,.s .nil,.s .nil] 72 G ss λaA M2=>dV [p,r.size,e.size,m.size] X M2/\D M2 p 1=D X p 1/\
   let M3:I:=aj M2 r.size 0 [.s aA,.i t.aR]
   ∃s ae,Value.agg #[O.v aA,vi t.aR]=.agg #[O.v s,vi ae.aR]/\dN (bA c M3) s ae.aA/\(WB ds rs.length True (U.length+R.length) ae/\ae.w<=1100*j.w)/\J m M3:=by
  intro M p ss t B af bB bR bh aw a5 X
  have cg:X.size=M.size:=az _ _ _ _
  have hy:=B.aY
  have bI:dN (bA (G.F::i.F::r.size::c) X) ss t.aA:=aw.le (bS E λa b=>ai _ b)
  have bT:=Bk.kN t
  have b4:=eW t.aA
  have hF:=F4 af
  have zF:=hF.size
  have z9:=af.size
  have g1:GS (i.F::r.size::c) A X G _:=B.re ft.mono (Y:=[p]) ((Fz.aC [p] M).aj (Or.inl E) _ _) E (by simpa using jQ bh) λa b=>Or.inl (ai _ b)
  have f1:Fz [i.F] A X:=af.aj (Or.inr bB) _ _
  have hw:=a5.2
  refine GS.all g1 f1 bI bK λN M2 g2 f ao ab=>⟨λa b=>?_,aI (ab p V bh) _,?_⟩
  ·simp at b
   refine ab a ?_ ?_<;>rcases b with rfl|rfl|rfl|rfl<;>omega
  intro M3
  have bO:J m M2:=Fz.ext (((v9.fz [i.F]).trans f).AZ λj Z=>Or.inr (by simp at Z;omega))
  have ca:=g2.aY
  have h5:=g2.mq ft.mono (λb=>by
   rcases List.mem_cons.1 b with h|h
   ·omega
   ·rcases List.mem_cons.1 h with h|h
    ·omega
    ·have:=hS _ h;omega) bd bK
  refine⟨N,.mk _ t.aR,rfl,dN.le (bS E λa b=>ai _ (ai _ b)) h5,⟨WB.of (My.append ?_) ?_,?_⟩,bO.aj V _ _⟩
  ·rw[bp];exact a5.1.bo.1
  ·rw[cr,bp,bN];exact a5.1.bo.2
  ·rw[Bk.oV,db];omega
 have aW:∀(M:I)(g:List Nat)(K:O->I->Prop),J T M->GS g A M G (C.map (dX 14)++Q.map (dX 15))->i.F∈g->(∀N o,GI c L o N (lm++C)->GS g A o G (C.map (dX 14)++Q.map (dX 15))->Fz [i.F] A o->M.size<=o.size->(∀j,j<M.size->j≠i.F->o[j]? =M[j]?)->K N o)->iS M aB [.i 0] 8 i su K:=by
  intro M g K hx B bE hK;have bJ:ar (bA (i.F::c) M) su C:=by
   refine ar.le ((an.trans hx).cJ _) (Gr.mq (S:=i.F::c) rS.mono gu.any (λb=>?_) bd V);rcases List.mem_cons.1 b with h|h
   ·omega
   ·have:=hS _ h;have:=z.size;omega
  refine GI.all (bc.ext hx) ((((x7.trans W).trans an).trans hx).fz []) (λa b=>aJ (hS a b) (z.trans P).size) bJ V λN o g' f ao ab=>hK N o g' ?_ ?_ ao.1 ab
  ·exact B.KP ft.mono (Y:=[i.F]) ⟨ao.1,λj Z hn=>ab j Z (by simpa using hn)⟩ (by simpa using bE) (by simpa using bF)
  ·exact(((an.trans hx).fz [i.F]).trans ⟨ao.1,λj Z hn=>ab j Z (by simpa using hn)⟩)
 have F:∀(M:I)(g:List Nat)(mn ak:O)(y:List Int),(∀a∈g,a<M.size)->Fz [i.F] A M->ar M mn (lm++C)->ar M ak y->nE la y->lX 254 [.agg #[O.v aq,O.v N],O.v aQ,.agg #[O.v aC,vi j.aR],O.v mn,O.v ak] M g λt=>WB ds rs.length True (U.length+R.length) t/\t.w+1050<=1100*j.w:=by
  intro M g mn ak y bx af h1 h2 h3;have hF:=F4 af;have hm:=(z.trans P).trans hF;have bD:ar M aQ (U++R):=(((gi.done E bK).le (bt _ _)).ext x4).ext hF;have:=ih g M bx aq N aQ aC mn ak (U++R) (lm++C) y (hn.le hm.le) bD (hs.le hm.le) h1 h2 ⟨λq w=>?_,bK,by have:=h3.2;omega,bK,by simpa using hp.wb⟩
  ·simpa using this
  ·simp;rcases List.mem_append.1 w with w|w
   ·have:=hp.aW q (a2 q w);omega
   ·have:=av q w;omega
 have cb:=an.size
 have b5:i.F<T.size:=V
 have b2:G.F<T.size:=g3.aY.2
 have be:∀{M:I},J H M->T.size<=M.size->∀a∈G.F::i.F::r.size::c,a<M.size:=λu hz a b=>by
  rcases List.mem_cons.1 b with h|h
  ·omega
  ·exact aO u V a h
 have il:∀(M:I)(p:Nat)(mn ak:O)(y:List Int),GS (p::i.F::r.size::c) A M G (C.map (dX 14)++Q.map (dX 15))->Fz [i.F] A M->T.size<=p->p<M.size->ar M mn (lm++C)->ar M ak y->nE la y->
  aN bY 254 [.agg #[O.v aq,O.v N],O.v aQ,.agg #[O.v aC,vi j.aR],O.v mn,O.v ak] M λrv o=>dV [p,r.size,e.size,m.size] M o/\∃a_:O,∃aT:Int,rv=.agg #[O.v a_,vi aT]/\
   let X:I:=aj o p 0 [.s a_,.i aT]
   iS X fg [.i 0,.i 0,.i 0,.s .nil,.s .nil] 72 G a_ λaA M2=>dV [p,r.size,e.size,m.size] X M2/\D M2 p 1=D X p 1/\
    let M3:I:=aj M2 r.size 0 [.s aA,.i aT]
    ∃s ae,Value.agg #[O.v aA,vi aT]=.agg #[O.v s,vi ae.aR]/\dN (bA c M3) s ae.aA/\(WB ds rs.length True (U.length+R.length) ae/\ae.w<=1100*j.w)/\J m M3:=by
  intro M p mn ak y B af h1 h2 h3 h4 h5
  have hM:J H M:=P.trans (F4 af)
  refine(F M (p::G.F::i.F::r.size::c) mn ak y (λa b=>?_) af h3 h4 h5).aG (J.aC M) (λa b=>?_) λss t o aw hq hx _=>⟨_,_,rfl,?_⟩
  ·rcases List.mem_cons.1 b with h|h
   ·omega
   ·exact be hM V a h
  ·rcases List.mem_cons.1 b with h|h
   ·omega
   ·exact hM.lt (v a h)
  ·exact tail o p ss t (B.ext ft.mono hx) (af.then hx) V (hx.lt h2) V aw hq
 have aS:∀(M:I)(q:Obj),GS (i.F::r.size::c) A M G (C.map (dX 14)++Q.map (dX 15))->GS (M.size::i.F::r.size::c) A (M.push q) G (C.map (dX 14)++Q.map (dX 15)):=λM q B=>
  B.re ft.mono (Y:=[]) ((J.push M q).fz []) E E λa b=>by
   rcases List.mem_cons.1 b with h|h
   ·exact Or.inr V
   ·exact Or.inl h
 have bQ:Fz [i.F] A T:=an.fz _
 have aZ:∀(M:I)(aY:List Nat)(K:Value->I->Prop),J H M->(∀a∈aY,a<M.size)->(∀s y o,ar o s y->nE la y->J M o->K (O.v s) o)->aN bY 335 [O.v a6,vi (aV.len:Int)] M λU m'=>dV aY M m'/\K U m':=λM aY K hM hL hK=>
  (Me (S:=[]) E (bf.le ((z.trans hM).le.trans (xB _))) _ V).aG (J.aC M) hL λs y o B ax ac _=>hK s y o ((B.done E (by have:=ax.2;omega)).le (bt _ _)) ax ac
 have aM:∀{M:I}{s:O},GI c L M s (lm++C)->ar M s (lm++C):=λB=>(B.done (λa b=>aJ (hS a b) (z.trans P).size) bK).le (bt _ _)
 have a3:∀{M:I}{p:Nat},J H M->p<M.size->∀a∈[p,r.size,e.size,m.size],a<M.size:=λu Z a b=>by
  rcases List.mem_cons.1 b with h|h
  ·omega
  ·exact u.lt (v a h)
 refine⟨aW T _ _ (J.aC _) g3 E λay aR ga gs fz ao ab=>⟨λa b=>ab a (aF.lt (v a b)) (by have:=v a b;omega),E4 aF (P.trans (F4 fz)) ⟨?_,?_⟩⟩,?_⟩
 ·have al:=P.trans (F4 fz)
  refine aZ aR _ _ al (λa b=>al.lt (v a b)) λap y aH bb bo aa=>⟨_,rfl,E4 al (al.trans aa) ⟨?_,?_⟩⟩
  ·have aG:=al.trans aa
   have bP:=aa.size
   refine(F aH (G.F::i.F::r.size::c) ay ap y (be aG V) (fz.then aa) ((aM ga).ext aa) bb bo).aG aG v λss t a8 aw hq ba bs=>⟨_,_,rfl,?_⟩
   intro bl
   have ch:=ba.size
   have bw:=(fz.then aa).then ba
   exact E4 bs (bs.aM _) (tail bl a8.size ss t (aS a8 _ ((gs.ext ft.mono aa).ext ft.mono ba)) (bw.push _) V (by simp[bl]) V (aw.le (qX (J.push a8 _) (ad _))) hq)
  ·intro a8
   have bP:=aa.size
   have aG:=al.trans aa
   exact E4 aG (aG.aM _) (il a8 aH.size ay ap y (aS aH _ (gs.ext ft.mono aa)) ((fz.then aa).push _) V (by simp[a8]) (((aM ga).ext aa).ext (J.push _ _)) (bb.ext (J.push _ _)) bo)
 ·intro aa
  have al:=P.trans (F4 fz)
  have aG:J H aa:=al.aM _
  have a8:J aR aa:=J.push _ _
  refine E4 al aG (aZ aa _ _ aG (a3 aG (by simp[aa])) λap y bb ba bl aH=>⟨_,rfl,E4 aG (aG.trans aH) ?_⟩)
  exact il bb aR.size ay ap y ((aS aR _ gs).ext ft.mono aH) ((fz.then a8).then aH) V (aH.lt (by simp[aa])) (((aM ga).ext a8).ext aH) ba bl
 ·intro aa
  have aH:J H aa:=aF.aM _
  have bo:J T aa:=J.push _ _
  refine E4 aF aH (aW aa _ _ bo (aS T _ g3) E λay ba ga gs fz ao ab=>⟨λa b=>ab a (a3 aH (by simp[aa]) a b) ?_,E4 aH (P.trans (F4 fz)) ?_⟩)
  ·rcases List.mem_cons.1 b with h|h
   ·omega
   ·have:=v a h;omega
  have aG:=P.trans (F4 fz)
  have bs:aa.size=T.size+1:=by simp[aa]
  refine aZ ba _ _ aG (a3 aG V) λap y bb a8 bl al=>⟨_,rfl,E4 aG (aG.trans al) ?_⟩
  exact il bb T.size ay ap y (gs.ext ft.mono al) (fz.then al) (ad _) (al.lt V) ((aM ga).ext al) a8 bl
end
section
variable{c m:I}{k i g a:Nat}{s:O}{d:List Nat}{e:List Int}{x:cq}{f:List fD}
def SU{a b:I}(h:J a c)(f:Fz [k] c b)(g:a.size<=k):J a b:=Fz.ext (((h.fz [k]).trans f).AZ λe d=>Or.inr (by simp at d;omega))
def _root_.Go.Vc.Fz.LQ{M b:I}(f:Fz [k] c M)(h:s.F=k\/c.size<=s.F)(g:M.size<=b.size)(q:∀a,a<M.size->a≠s.F->b[a]? =M[a]?):Fz [k] c b:=
 f.pZ ⟨g,λa d e=>q a d (by simpa using e)⟩ (Y:=[s.F]) (λy d=>by simp at d⊢;omega)
def GI.WY{X:List Nat}{b:I}{x:O}{f:List Int}{K:O->I->Prop}(h:GI d b m s e)(k:Fz X b m)(n:ar m x f)(p:e.length+f.length<=1000000000000)
 (l:∀r a,GI d b a r (e++f)->Fz X b a->(m.size<=a.size/\(r.F=s.F\/m.size<=r.F))->(∀c,c<m.size->c≠s.F->a[c]? =m[c]?)->K r a):iS m aB [.i 0] 8 s x K:=by
 obtain⟨o,g,i,j⟩:=n.Tc (b:=1) λ_ _ h=>by rw[h];rfl
 exact Gr.next (g:=[.i 0]) rS.mono bd h k g i j V l
def bE(d:List Nat){b:O}(h:ar m b e)(c:e.length<=1000000000000):jR 57 [O.v b] m d (e=·):=by
 apply me;intro i;have a:J m i:=J.push m _;exact GI.WY (e:=[]) (X:=[]) (GI.nil d m) (a.fz []) (h.ext a) (by simpa using c) λr j g f _ _=>⟨r,e,rfl,by simpa using g,rfl,f.ext⟩
abbrev GB(d:List Nat)(a m:I)(s:O)(e:List Bk):Prop:=Gr d a m cO 2 pM s e
def GB.new(d:List Nat)(m:I):GB d m (m.push (.cells (br []) cO)) (.mk m.size 0 0 0) []:=Gr.new d (ad _) _ _ _
def GB.jK{d X:List Nat}{g m:I}{s a:O}{e:List Bk}{c:Bk}{K:O->I->Prop}(h:GB d g m s e)(k:Fz X g m)(j:dN (bA (s.F::d) m) a c.aA)(l:e.length<=1000000000000)
 (i:∀r b,GB d g b r (e++[c])->Fz X g b->m.size<=b.size/\(r.F=s.F\/m.size<=r.F)->(∀f,f<m.size->f≠s.F->b[f]? =m[f]?)->K r b):
 iS (m.push (.cells (br [.s a,.i c.aR]) cO)) cO [.s .nil,.i 0] 32 s (.mk m.size 0 1 1) K:=
 Gr.jK (g:=[.s .nil,.i 0]) pM.mono bd h k (by cases c;exact pM.of j) V i
def Ih{a:List bq}{b bL:Int}{y:Int}(h:b=8)(c:(bU a bL)[i]? =some y):ze a b bL i=(bT a y).length:=by unfold ze;rw[aq h,c];rfl
def Ii{b:List bq}{a bL:Int}(h:a≠8):ze b a bL i=0:=by unfold ze;rw[ae h]
def _root_.Go.Vc.WS.Ng{b:List bq}{f d:Prop}(h:WS b g f a x)(j:f->d){bV:Int}(l:0<=bV/\bV<=(a:Int)){bu:List Bk}(i:bu.length=x.bu.length)(m:∀(k:Nat)(c:Bk),bu[k]? =some c->WB b g d (a+ze b x.op x.bL k) c):WS b g d a ⟨x.op,x.bL,bV,x.args,bu⟩:=
 ⟨⟨h.dY.op.imp id λh=>⟨j h.1,h.2⟩,h.dY.args,h.dY.kj,l,λe=>i.trans (h.dY.HO e),λe=>i▸h.dY.all e,h.dY.call⟩,m⟩
def Fq(hS:∀g∈d,g<m.size){aa X ah a k af ae:O}{t:List bq}{H lo la:List Int}(F:dJ m aa X t f)(hv:ar m ah H)(ha:ar m a x.args)(U:mo m k x.bu)(ho:ar m af lo)(aG:ar m ae la)
 (aH:∀o∈lo,0<=o/\o<(H.length:Int))(UO:lo.length+5*x.w<=500)(UM:la.length+1000*x.w<=1000000)(vN:H.length+5*x.w<=1000000)(ac:WS t f.length False H.length x)(ih:∀c∈x.bu,TX t f c):
 H9 291 [.agg #[O.v aa,O.v X],O.v ah,nv x a k,O.v af,O.v ae] m d λz=>WS t f.length True H.length z/\z.op=x.op/\z.w<=1+x.args.length+1100*bw x.bu:=by
 apply xZ
 simp -zeta only[aE,aD]
 intro m0 p q am
 obtain⟨r,v,s0,s1,s2⟩:=oF (a:=m0) (b:=p) (c:=q) rfl rfl rfl
 have av:J q am:=J.push _ _
 have gk:=GB.new (p.size::d) q
 clear_value q
 have aP:=ha.len;have aC:=U.len;have hw:=cq.kN x;have aS:=Ik x.bu
 refine(fR (e:=[q.size]) (by simp[am]) (F.le (r.trans av).le).aT F.types x.bL).aG av v λg cl m4 u G x4 u4=>⟨_,rfl,?_⟩
 subst G
 have aT:=u.len
 refine dC (n:=x.bu.length) (aC▸U.fL) (λj s M=>Fz [q.size] m4 M/\(s.F=q.size\/m4.size<=s.F)/\∃e,GB (p.size::d) q M s e/\e.length=j/\(∀(i:Nat)(c:Bk),e[i]? =some c->WB t f.length True (H.length+ze t x.op x.bL i) c)/\bw e<=1100*bw (x.bu.take j)) ⟨Fz.aC _ _,Or.inl rfl,[],gk.ext pM.mono x4,rfl,E,E⟩ ?_
 rintro j s W az μ hj ⟨Q,aK,e,T,aW,ak,aB⟩ aO
 have h:=SU u4 Q (ad _)
 have hy:=T.aY
 refine dit (λA=>?_) λA=>?_
 ·intro m6
  have o:J W m6:=J.push _ _
  obtain⟨c,D⟩:=ag (l:=x.bu) (k:=j) V
  have aQ:=uE D
  have aR:=sF D
  have aA:∀{M:I},J W M->∀g∈s.F::p.size::d,g<M.size:=λA=>bG (bG hS r.size (v _ E)) (h.trans A).size (by have:=A.size;omega)
  have il:∀(M:I)(K:O)(R:List Int)(y:O),J W M->ar M K R->R.length=ze t x.op x.bL j->dN M y c.aA->
   aN bY 320 [.agg #[O.v aa,O.v X],O.v ah,O.v K,.agg #[O.v y,vi c.aR],O.v af,O.v ae] M λrv N=>dV [p.size,m0.size,m.size] M N/\∃ap:O,∃aq:Int,rv=.agg #[O.v ap,vi aq]/\
    let M1:I:=N.push (.cells (br [.s ap,.i aq]) cO)
    iS M1 cO [.s O.nil,.i (0:Int)] 32 s (O.mk N.size 0 1 1) λao P=>dV [p.size,m0.size,m.size] M1 P/\az ao (cK ((j:Int)+(1:Int))) P/\μ ao (cK ((j:Int)+(1:Int))) P<μ s j W:=by
   intro M K R y C hf aj L
   have Z:=r.trans (h.trans C)
   have b3:=NY F.types x.op x.bL j
   refine(Hi (c:=s.F::p.size::d) (aA C) (F.le Z.le) (hv.ext Z) hf L (ho.ext Z) (aG.ext Z) ⟨aH,V,V,V,V,aj▸ac.bu j c D⟩ (ih c (au D))).aG (h.trans C) v λss b' N aM G z u'=>⟨_,_,rfl,?_⟩
   refine GB.jK (c:=b') (T.ext pM.mono (C.trans z)) (u'.fz []) aM (by have:=oG x.bu;omega) λX P g2 f2 z2 q2=>⟨J.mU (u'.aM _) f2.ext v,aO V _ _ ⟨(Q.then (C.trans z)).LQ aK z2.1 q2,?_,_,g2,bK,λi b2 w=>?_,?_⟩⟩
   ·have B:=(Q.then (C.trans z)).size
    rcases z2.2 with ab|ab<;>omega
   ·rcases aV i e.length with B|B
    ·rw[aw B]at w;exact ak i b2 w
    ·rw[aF B]at w
     have:i -e.length=0:=by have:=ax w;simp at this;omega
     rw[this]at w;simp at w;subst w
     have:i=j:=V
     subst this
     rw[<-aj];exact G.1
   ·rw[nj,sE,xe]
    have:=G.2;omega
  refine⟨λB=>?_,λB=>?_⟩
  ·simp only[aL]at B
   have aU:=(ac.dY.all B).1
   obtain⟨ay,al⟩:=ag (l:=bU t x.bL) (k:=j) V
   refine⟨V,V,ay,(dP.1 ((u.le ((Q.then o).cJ E)).u al)).2,?_⟩
   have Y:=h.trans o
   refine(dk (e:=[]) E ((F.le (r.trans Y).le).aT.le (xB _)) F.types ay).aG Y v λK R m7 hf G x7 u7=>⟨_,rfl,?_⟩
   subst G
   obtain⟨y,L,e0,e1⟩:=(U.le (r.trans u7).le).u D
   exact⟨V,V,_,e0,_,e1,il m7 K _ y (o.trans x7) (hf.le (bt _ _)) (Ih B al).symm L⟩
  ·simp only[an]at B
   obtain⟨y,L,e0,e1⟩:=(U.le (r.trans (h.trans o)).le).u D
   exact⟨V,V,_,e0,_,e1,il m6 _ [] y o (kY _ _ _ _ _ _) (Ii B).symm L⟩
 ·have B:e.length=x.bu.length:=V
  rw[bZ V]at aB
  refine(bE (p.size::d) (ha.ext (r.trans h)) V).aG h v λC K m6 y ab o Y=>⟨_,rfl,aI (o.same _ (h.lt (v _ E))) _,aI (o.same _ (h.lt (v _ E))) _,?_⟩
  subst ab
  intro m7
  have D:=(T.ext pM.mono o).aY
  have w:∀g∈p.size::d,g<q.size:=bG hS r.size V
  refine⟨C,s,⟨x.op,x.bL,0,x.args,e⟩,rfl,?_,?_,⟨ac.Ng (λA=>A.elim) ⟨V,V⟩ B ak,rfl,?_⟩,(r.trans Y).aj V _ _⟩
  ·exact(y.done (λg u=>aJ (w g u) h.size) V).le (bS E λg u=>ai _ u)
  ·exact mo.le (bS E λg u=>ai _ u) ((T.ext pM.mono o).done pM.mono w bd (by have:=oG x.bu;show e.length<=_;omega))
  ·rw[cq.kN]
   simp only
   omega
def _root_.Go.Vc.Pc{σ τ ρ:Type}{n:Nat}(v:n<=9223372036854775807){l:σ}{o:τ}{j:ρ}{h:(σ->τ->ρ->Int->I->Prop)->(σ->τ->ρ->Int->I->Nat)->σ->τ->ρ->Int->I->Prop}(Q:Nat->σ->τ->ρ->I->Prop)(q:Q 0 l o j m)
 (p:∀(k:Nat)(s:σ)(t:τ)(r:ρ)(a:I)(b:σ->τ->ρ->Int->I->Prop)(μ:σ->τ->ρ->Int->I->Nat),k<=n->Q k s t r a->
  (k<n->∀e f d c,Q (k+1) e f d c->b e f d (cK ((k:Int)+1)) c/\μ e f d (cK ((k:Int)+1)) c<μ s t r k a)->h b μ s t r k a):
 ∃(b:σ->τ->ρ->Int->I->Prop)(μ:σ->τ->ρ->Int->I->Nat),b l o j 0 m/\∀s t r i a,b s t r i a->h b μ s t r i a:=by
 refine⟨λs t r i c=>∃k:Nat,i=k/\k<=n/\Q k s t r c,λ_ _ _ i _=>(n -i).toNat,⟨0,rfl,dH _,q⟩,?_⟩
 rintro s t r i a ⟨k,rfl,u,w⟩
 refine p k s t r a _ _ u w λg e f d c x=>?_
 rw[jJ g v]
 exact⟨⟨k+1,rfl,g,x⟩,AM g⟩
structure CB(ds:List bq)(g:Nat)(d:List Nat)(m2 M:I)(v lo:List Int)(aA:List cq)(k:Nat)(st inn mn:O):Prop where
 x:J m2 M
 hs:∃e,GS (inn.F::mn.F::d) m2 M st e/\WL ds g True v.length e/\dc e=dc (aA.take k)/\sw e<=1100*sw (aA.take k)
 hi:∃e,GI d m2 M inn e/\e.length=v.length+dc (aA.take k)
 hm:∃e,GI d m2 M mn e/\e.length<=lo.length+k/\∀o∈e,0<=o/\o<((v.length+dc (aA.take k):Nat):Int)
 ne:inn.F≠mn.F
def Xc{b:List bq}(h:WS b g False a x):dn x=1:=aq (h.dY.op.resolve_right λh=>h.1)
def DG{X:List bq}:∀c:Bk,TX X f c:=by
 refine Bk.ind ?_;intro aA w ih d m hS cc c3 dY c5 dQ c9 al lo la hn hv hs B bQ hp;have bh:=hp.wb.bo;have hw:=Bk.oV aA w;simp only[Bk.jd,Bk.iy]at*;have UO:=hp.UO;have UM:=hp.UM;have vN:=hp.vN;rw[hw]at UO UM vN;apply wm;simp -zeta only[aE,aD];intro m0 p r aK;obtain⟨G,Q,s0,s1,s2⟩:=oF (a:=m0) (b:=p) (c:=r) rfl rfl rfl;have bp:J r aK:=J.push _ _;have bN:∀ao,GS ao r aK (.mk r.size 0 0 0) []:=λao=>GS.new ao r;have s3:aK.size=r.size+1:=by simp[aK]
 clear_value aK;clear_value r;have bU:=hs.len;have cO:=yY aA;have dx:=eW aA;refine(bE d (hv.ext (G.trans bp)) V).aG bp Q λo _ m4 H q x4 u4=>⟨_,rfl,?_⟩;subst q;refine(bE d (B.ext (G.trans u4)) V).aG u4 Q λv _ m5 Z q x5 u5=>⟨_,rfl,?_⟩;subst q;have bV:=H.aY;have bW:=Z.aY;refine Pc (n:=aA.length) (bU▸hs.fL) (λk A o v g=>CB X f.length (p.size::d) r g al lo aA k A o v) ⟨u5,⟨[],((bN _).ext ft.mono x4).ext ft.mono x5,WL.nil _ _ _ _,rfl,E⟩,⟨al,((H.ext x5).cG (λ_ h=>h) bp.size).any,E⟩,⟨lo,(Z.cG (λ_ h=>h) u4.size).any,V,by simpa using hp.aW⟩,V⟩ ?_;clear H Z bV bW bN;rintro k A o v C bu μ hk ⟨x6,⟨U,gs,aY,aa,dy⟩,⟨li,H,aV⟩,⟨lm,Z,dg,bR⟩,ds⟩ a4
 have v6:=G.trans x6;have dk:=H.len bd;have di:=qT (aA.take k);have dq:=oW k aA;have P:∀j∈p.size::d,j<r.size:=bG hS G.size (Q _ E);have cB:ar C o li:=(H.done P V).le (bt _ _);have cD:ar C v lm:=(Z.done P V).le (bt _ _);have dK:=gs.aY;have bV:=H.aY;have bW:=Z.aY;have cN:=eW (aA.take k);have dm:k<=sw (aA.take k):=by rw[fY]at cN;omega
 refine dit (λh=>?_) λh=>?_
 ·obtain⟨x,t⟩:=ag (l:=aA) (k:=k) V;obtain⟨a,kk,ha,bP,g0,g1,g2,g3,g4⟩:=hs.u t;refine⟨V,V,_,v6.D g0,_,v6.D g1,_,v6.D g2,_,v6.D g3,_,v6.D g4,?_⟩;intro m7 D;have x8:J C D:=(J.push C _).aj (ad _) _ _;have s8:D.size=C.size+1:=by simp[D,m7,az]
  clear_value D;have W:=x6.trans x8;have z6:=x6.size;have u:∀{g:I},D.size<=g.size->∀c∈[C.size,p.size,m0.size,m.size],c<g.size:=λh c hb=>by
   rcases List.mem_cons.1 hb with q|q
   ·omega
   ·have:=W.lt (Q c q);omega
  have dE:=od t;have dB:=oY t;have dD:=cq.kN x;have ah:WS X f.length False li.length x:=by rw[aV];exact bh.1 k x t
  have bO:=Xc ah;have dz:=cO (k+1);have dh:=oG x.bu;have dr:=eW U;have af:∀{g:I},J r g->At g cc c3 a kk X f x:=λh=>⟨hn.le (G.trans h).le,ha.ext (G.trans h),ah.dY.call⟩;have aX:∀{g:I},GI (p.size::d) r g o li->ar g o li:=λy=>(y.done P V).le (bt _ _);have bf:∀{g:I},GI (p.size::d) r g v lm->ar g v lm:=λy=>(y.done P V).le (bt _ _);have ap:∀{g:I}{ao:List Nat},D.size<=g.size->(∀j∈ao,j<g.size)->∀j∈ao++p.size::d,j<g.size:=λh hb j b=>by
   rcases List.mem_append.1 b with h|h
   ·exact hb j h
   ·have:=P j h;omega
  refine(mF (af W).Ou (aX (H.ext x8)) (af W).args (bP.le (G.trans W).le) V λc _=>lQ c).aG (J.aC D) (u (ad _)) λty m9 x9 _=>⟨_,rfl,?_⟩;intro a0;have b5:J D a0:=x9.aM _;have e0:ar (bA [] a0) (.mk m9.size 0 0 0) []:=kY _ _ _ _ _ _;clear_value a0;rw[jJ (k:=k) (n:=aA.length) V (bU▸hs.fL)]at a4⊢
  refine(xL (.mk aA w) [] a0 E c5 _ _ _ (k+1) (hs.le (G.trans (W.trans b5)).le) e0 (by simp only[Bk.jd];omega) (by simp only[Bk.oV,eF];omega)).aG b5 (u (ad _)) λus ul cT hu cP dZ bo=>⟨_,rfl,?_⟩;rw[Bk.oV,eF]at cP;refine(Mj (S:=[]) E hu ((bQ.ext (G.trans (W.trans bo))).le (xB _)) V).aG bo (u (ad _)) λlt ll cV bb b1 c6 aw=>⟨_,rfl,?_⟩;have aJ:∀{g:I},GI [] cT g lt ll->ar g lt ll:=λy=>(y.done E (by have:=b1.2;omega)).le (bt _ _);have bv:=W.trans aw;have bC:=H.ext (x8.trans aw);have bL:=Z.ext (x8.trans aw);have cw:=gs.ext ft.mono (x8.trans aw);refine(DI (b:=[]) E (af bv) (aX bC) ah.dY.args (bf bL) (aJ bb) V).aG (J.aC cV) (u aw.size) λdu dl cW co b2 ax _=>⟨_,rfl,?_⟩;have c_:=b2.2;have d3:=aw.size;have d4:=ax.size;have d0:=bo.size;have ef:=c6.size;refine(dU (c:=[A.F,o.F,v.F]++p.size::d) (ap V bK) 14 ((co.done E V).le (bt _ _)) V).aG (J.aC cW) (u V) λdS _ a1 cj q ay _=>⟨_,rfl,?_⟩;subst q;have b9:=(bv.trans ax).trans ay;have d5:=ay.size;refine GS.all (cw.ext ft.mono (ax.trans ay)) (b9.fz []) (cj.done ft.mono (ap (ao:=[A.F,o.F,v.F]) V bK) bd bK) bK λbn bX bz cd b6 a6=>⟨λj b=>a6 j (u V j b) ?_,?_⟩
  ·simp at b;omega
  have aU:J r bX:=cd.ext;have cC:o.F<a1.size:=V;have cE:v.F<a1.size:=V;have cF:A.F≠o.F:=gs.IW H bd;have cG:A.F≠v.F:=gs.IW Z bd;have dp:=bb.aY;have bD:=(bC.ext (ax.trans ay)).iz (a6 _ cC cF.symm);have bM:=(bL.ext (ax.trans ay)).iz (a6 _ cE cG.symm);have bI:=(bb.ext (ax.trans ay)).iz (a6 _ V V);have dt:bn.F=A.F\/a1.size<=bn.F:=b6.2;have dG:=bz.aY;have d6:=b6.1;refine(Fq (d:=[bn.F,o.F,v.F]++p.size::d) (ap V bK) (af aU).Ou (aX bD) (af aU).args (bP.le (G.trans aU).le) (bf bM) (aJ bI) (by rw[aV];exact bR) V (by have:=b1.2;omega) V ah (ih x (au t))).aG (J.aC bX) (u V) λde df x' bZ cx cy c2 aB _=>⟨_,_,_,_,_,rfl,?_⟩;obtain⟨cQ,cM,dA⟩:=c2;have b_:=aU.trans aB;have d7:=aB.size;refine GS.jK (x:=x') (bz.ext ft.mono aB) (b_.fz []) cx cy bK λaM bi bB ce b7 a7=>⟨λj b=>?_,?_⟩
  ·have:=u (g:=bZ) V j b;rw[a7 j this (by simp at b;omega),(J.push bZ _).same j this]
  have a9:J r bi:=ce.ext;have bF:=(bD.ext aB).iz (a7 _ V V);have cv:=(bM.ext aB).iz (a7 _ V V);have ba:=(bI.ext aB).iz (a7 _ V V);have dv:aM.F=A.F\/a1.size<=aM.F:=by have:=b7.2;omega
  have d8:=b7.1;refine(Fw (b:=[]) E (af a9) (aX bF) ah.dY.args (bf cv) (aJ ba) V).aG (J.aC bi) (u V) λav lf cX gf bl aC _=>⟨_,rfl,?_⟩;have bw:=a9.trans aC;have d9:=aC.size;have cA:∀{g:I},GI [] bi g av lf->ar g av lf:=λy=>(y.done E (by have:=bl.2;omega)).le (bt _ _);refine(Fx (b:=[]) E (af bw) (cA gf) (aJ (ba.ext aC)) V).aG (J.aC cX) (u V) λc4 T cY gd b3 aF _=>⟨_,rfl,?_⟩;have d_:=aF.size;have dd:=b3.2;have da:=bl.2;have dJ:=gf.aY;have dI:=gd.aY;have dH:=bB.aY;refine(dU (c:=[aM.F,av.F,o.F]++p.size::d) (ap V bK) 15 ((gd.done E V).le (bt _ _)) V).aG (J.aC cY) (u V) λdW _ cZ cl q am _=>⟨_,rfl,?_⟩;subst q;have ca:=(bw.trans aF).trans am;have ea:=am.size;have ck:GS ([av.F,o.F]++p.size::d) r cZ aM _:=bB.re ft.mono (Y:=[]) (((aC.trans aF).trans am).fz []) E E λj b=>by
   simp only[cR,dT,aS]at b⊢;rcases b with h|h|h
   ·exact Or.inr V
   ·exact Or.inl (Or.inl h)
   ·exact Or.inl (Or.inr (Or.inr h))
  refine GS.all ck (ca.fz []) (cl.done ft.mono (ap (ao:=[aM.F,av.F,o.F]) V bK) bd bK) bK λK a2 cm cf c7 aL=>⟨λj b=>aL j (u V j b) ?_,?_⟩
  ·simp at b;omega
  have cb:J r a2:=cf.ext;have eb:=c7.1;have ct:=((bF.ext aC).ext (aF.trans am)).iz (aL _ V V);have cs:=(gf.ext (aF.trans am)).iz (aL _ V V);have cn:=(gd.ext am).iz (aL _ V V);have cu:=((ba.ext aC).ext (aF.trans am)).iz (aL _ V V);have be:ar a2 c4 T:=(cn.done E V).le (bt _ _);have cz:=be.len;have cp:GI (p.size::d) r a2 av lf:=(cs.cG (λ_ h=>h) a9.size).any;refine dC (n:=T.length) (cz▸be.fL) (λ_ s g=>J a2 g/\∃e,GI (p.size::d) r g s e/\GS ([s.F,o.F]++p.size::d) r g K (U++dl.map (dX 14)++[x']++T.map (dX 15))/\nE lf e/\o.F≠s.F/\D.size<=s.F) ⟨J.aC _,lf,cp,cm,⟨λ_ h=>h,ad _⟩,V,V⟩ ?_;rintro i s bj I2 μ2 hi ⟨aG,e,gl,bc,R,cH,dw⟩ c0;have bx:=cb.trans aG;have ec:=aG.size;have cS:=gl.aY;refine dit (λh2=>?_) λh2=>?_
  ·obtain⟨L,N⟩:=ag (l:=T) (k:=i) V;refine⟨V,V,L,(be.ext aG).u N,?_⟩;refine(yX (S:=[]) E (((gl.done P (by have:=R.2;omega)).le (bt _ _)).le (xB _)) L (by have:=R.2;omega)).aG (J.aC bj) (u V) λae l2 ac g2 z F _=>⟨_,rfl,c0 V _ _ ⟨aG.trans F,l2,(g2.cG (λ_ h=>h) bx.size).any,?_,⟨λaH hz=>R.1 aH (z.1 aH hz),bJ z.2 R.2⟩,?_,?_⟩⟩
   ·have ab:=g2.aY;refine bc.re ft.mono (Y:=[]) (F.fz []) E E λj b=>?_;simp only[cR,dT,aS]at b⊢;rcases b with h|h|h
    ·exact Or.inr V
    ·exact Or.inl (Or.inr (Or.inl h))
    ·exact Or.inl (Or.inr (Or.inr h))
   ·have:=g2.aY;omega
   ·have:=g2.aY;omega
  intro dM;have bH:=ct.ext aG;refine GI.jK bH (bx.fz []) P V λab aq ac cg b8 a8=>⟨λj b=>?_,?_⟩
  ·have:=u (g:=bj) V j b;rw[a8 j this (by simp at b;omega),(J.push bj _).same j this]
  have a_:J r aq:=cg.ext;have c8:=b8.1;have cK:K.F≠o.F:=bc.IW bH bd;have aI:=gl.iz (a8 _ cS.2 cH.symm);have bT:=b8.2;have ae:GS ([s.F,ab.F]++p.size::d) r aq K _:=bc.re ft.mono (Y:=[o.F]) ⟨c8,λj b hn=>a8 j b (by simpa using hn)⟩ E (by simpa using cK) λj b=>by
   simp only[cR,dT,aS]at b⊢;rcases b with h|h|h
   ·exact Or.inl (Or.inl h)
   ·rcases bT with q|q
    ·exact Or.inl (Or.inr (Or.inl (h.trans q)))
    ·exact Or.inr V
   ·exact Or.inl (Or.inr (Or.inr h))
  have bk:ab.F≠s.F:=by rcases bT with q|q<;>omega
  have L:WL X f.length True al.length (U++dl.map (dX 14)++[x']++T.map (dX 15))/\dc (U++dl.map (dX 14)++[x']++T.map (dX 15))=dc (aA.take (k+1))/\sw (U++dl.map (dX 14)++[x']++T.map (dX 15))+2<=1100*sw (aA.take (k+1)):=by
   have dj:dn x'=1:=by unfold dn at bO⊢;rw[cM];exact bO
   have d1:dc (dl.map (dX 14))=0:=jf V _;have d2:dc (T.map (dX 15))=0:=jf V _;refine⟨((aY.append (pP V λz B=>?_)).xK ?_).append (pP V λz B=>?_),?_,?_⟩
   ·rw[aa,<-aV];exact ah.dY.args z (b2.1 z B)
   ·rw[cr,d1,aa,iJ,<-aV];exact cQ
   ·have:=ah.dY.args z (b3.1 z B);rw[cr,cr,d1,aa,jD,qU];omega
   ·rw[cr,cr,cr,d1,d2,aa,jD,qU];omega
   ·rw[db,db,db,mL,mL,ln,tr];omega
  have bg:∀z∈e,0<=z/\z<((al.length+dc (aA.take (k+1)):Nat):Int):=λz B=>by
   have:=bR z (bl.1 z (R.1 z B));omega
  have b0:∀(g:I),J aq g->bu K ab s ((k+1:Nat):Int) g/\μ K ab s ((k+1:Nat):Int) g<μ A o v k C:=λg t=>
   a4 V _ _ _ _ ⟨a_.trans t,⟨_,(ae.re ft.mono (Y:=[]) (t.fz []) E E λj b=>Or.inl (by simp only[cR,dT,aS]at b⊢;rcases b with h|h|h;exact Or.inr (Or.inl h);exact Or.inl h;exact Or.inr (Or.inr h))),L.1,L.2.1,V⟩,⟨_,ac.ext t,bK⟩,⟨e,aI.ext t,by have:=R.2;omega,bg⟩,bk⟩
  have dL:=ae.aY;have c1:∀(g:I),J aq g->aN bY 225 [vi (15:Int),vi (o.len:Int)] g λrv F=>dV [C.size,p.size,m0.size,m.size] g F/\∃aO:Int,∃aP:Int,∃aQ:Int,∃aR:O,∃aT:O,rv=.agg #[vi aO,vi aP,vi aQ,O.v aR,O.v aT]/\
   let M2:I:=F.push (.cells (br [.i aO,.i aP,.i aQ,.s aR,.s aT]) fg)
   iS M2 fg [.i (0:Int),.i (0:Int),.i (0:Int),.s O.nil,.s O.nil] 72 K (O.mk F.size 0 1 1) λb4 N=>dV [C.size,p.size,m0.size,m.size] M2 N/\bu b4 ab s ((k+1:Nat):Int) N/\μ b4 ab s ((k+1:Nat):Int) N<μ A o v k C:=by
   intro g t
   have zx:=t.size
   have dF:=ac.aY
   refine(gZ (c:=[K.F,s.F,ab.F]++p.size::d) (ap V bK) 15 (o.len:Int)).mono λrv F⟨pa,pk,q,h1,h2,ak⟩=>?_
   subst q
   have ee:=ak.size
   have aZ:=t.trans ak
   refine⟨ak.da (u V),_,_,_,_,_,rfl,?_⟩
   have cI:K.F≠ab.F:=ae.IW ac bd
   have cJ:K.F≠s.F:=ae.IW aI bd
   refine GS.jK (x:=dX 15 (o.len:Int)) (ae.ext ft.mono aZ) ((a_.trans aZ).fz []) h1 h2 (by have:=L.2.2;have:=eW (U++dl.map (dX 14)++[x']++T.map (dX 15));omega) λr' N y aW aH a5=>⟨λj b=>?_,a4 V _ _ _ _ ⟨aW.ext,⟨_,(y.re ft.mono (Y:=[]) ((J.aC _).fz []) E E λj b=>Or.inl (by simp only[cR,dT,aS]at b⊢;rcases b with h|h|h;exact Or.inr (Or.inl h);exact Or.inl h;exact Or.inr (Or.inr h))),L.1.xK (Bh V ?_),?_,?_⟩,⟨_,(ac.ext aZ).iz (a5 _ V cI.symm),bK⟩,⟨e,(aI.ext aZ).iz (a5 _ V cJ.symm),by have:=R.2;omega,bg⟩,bk⟩⟩
   ·have:=u (g:=F) V j b
    rw[a5 j this (by simp at b;omega),(J.push F _).same j this]
   ·rw[L.2.1];omega
   ·rw[cr,L.2.1];simp[jD,dn,dX,nB]
   ·rw[db,ln,tr]
    have h5:(dX 15 (o.len:Int)).w=2:=by rw[cq.kN];rfl
    have:=L.2.2;omega
  refine⟨λ_=>?_,λh0=>⟨λh1=>by rw[h0]at h1;simp at h1,λ_=>b0 aq (J.aC _)⟩⟩;refine(cU (aJ (((cu.ext aG).iz (a8 _ V V)))) _).any.aG (J.aC aq) (u V) λc a3 an _=>⟨_,rfl,λ_=>?_,λ_=>⟨λ_=>c1 a3 an,λ_=>b0 a3 an⟩⟩;intro dO;have cL:K.F≠s.F:=ae.IW aI bd;have ed:=an.size;refine GI.jK (aI.ext an) ((a_.trans an).fz []) P (by have:=R.2;omega) λdR dP ci ch bs bm=>⟨λj b=>?_,a4 V _ _ _ _ ⟨ch.ext,⟨_,(ae.ext ft.mono an).re ft.mono (Y:=[s.F]) ⟨bs.1,λj b hn=>bm j b (by simpa using hn)⟩ E (by simpa using cL) λj b=>?_,L.1,L.2.1,V⟩,⟨_,(ac.ext an).iz (bm _ ?_ bk),bK⟩,⟨_,ci,?_,?_⟩,?_⟩⟩
  ·have:=u (g:=a3) V j b;rw[bm j this (by simp at b;omega),(J.push a3 _).same j this]
  ·simp only[cR,dT,aS]at b⊢;rcases b with h|h|h
   ·exact Or.inl (Or.inr (Or.inl h))
   ·rcases bs.2 with q|q
    ·exact Or.inl (Or.inl (h.trans q))
    ·exact Or.inr V
   ·exact Or.inl (Or.inr (Or.inr h))
  ·have:=ac.aY;omega
  ·have:=R.2;simp;omega
  ·intro z B;rcases List.mem_append.1 B with B|B
   ·exact bg z B
   ·simp at B;omega
  ·have:=ac.aY;rcases bs.2 with q|q<;>omega
 ·have ab:k=aA.length:=V;subst ab;rw[fZ]at*;have R:∀(g:I)(K:O)(u:List cq),J r g->GS (o.F::v.F::p.size::d) r g K u->WL X f.length True al.length u->dc u=dc aA->sw u<=1100*sw aA+2->
   let z:I:=aj g p.size 0 [.s K,.i w]
   ∃s c,Value.agg #[O.v K,vi w]=.agg #[O.v s,vi c.aR]/\dN (bA d z) s c.aA/\(WB X f.length True al.length c/\c.w+1050<=1100*(Bk.mk aA w).w)/\J m z:=by
   intro g K u t y h1 h2 h3 z
   have ac:=eW u
   have:=y.aY
   refine⟨K,.mk u w,rfl,dN.le (bS E λj b=>ai _ b) (y.re ft.mono (S':=p.size::d) (Y:=[]) (Fz.aC _ _) E E (λj b=>Or.inl (ai _ (ai _ b)))|>.done ft.mono P bd bK),⟨WB.of h1 (by rw[h2];exact bh.2),?_⟩,(G.trans t).aj V _ _⟩
   rw[Bk.oV,Bk.oV];omega
  have kj:∀(g:I),J C g->aN bY 225 [vi (14:Int),vi w] g λrv F=>dV [p.size,m0.size,m.size] g F/\∃aO:Int,∃aP:Int,∃aQ:Int,∃aR:O,∃aT:O,rv=.agg #[vi aO,vi aP,vi aQ,O.v aR,O.v aT]/\
   let M2:I:=F.push (.cells (br [.i aO,.i aP,.i aQ,.s aR,.s aT]) fg)
   iS M2 fg [.i (0:Int),.i (0:Int),.i (0:Int),.s O.nil,.s O.nil] 72 A (O.mk F.size 0 1 1) λT N=>dV [p.size,m0.size,m.size] M2 N/\
    let z:I:=aj N p.size 0 [.s T,.i w]
    ∃s c,Value.agg #[O.v T,vi w]=.agg #[O.v s,vi c.aR]/\dN (bA d z) s c.aA/\(WB X f.length True al.length c/\c.w+1050<=1100*(Bk.mk aA w).w)/\J m z:=by
   intro g t
   refine(gZ (c:=A.F::o.F::v.F::p.size::d) (λj b=>?_) 14 w).mono λrv F⟨a,kk,q,h1,h2,x1⟩=>?_
   ·have:=t.size
    simp at b
    rcases b with h|h|h|h|h
    ·omega
    ·omega
    ·omega
    ·have:=x6.lt (Q p.size E);omega
    ·have:=hS _ h;have:=v6.size;omega
   subst q
   have ak:=x6.trans (t.trans x1)
   refine⟨J.mU (x6.trans t) ak Q,_,_,_,_,_,rfl,?_⟩
   refine GS.jK (x:=dX 14 w) (gs.ext ft.mono (t.trans x1)) (ak.fz []) h1 h2 (by have:=eW U;omega) λr' N y aW aH a5=>⟨J.mU (ak.aM _) aW.ext Q,R N r' _ aW.ext y (aY.xK (Bh V (by rw[aa];exact bh.2))) ?_ ?_⟩
   ·rw[cr,aa];simp[jD,dn,dX,nB]
   ·rw[db];simp[ln,cq.kN,dX];omega
  obtain⟨aH,hz⟩:=ag (l:=li) (k:=w.toNat) V;refine⟨V,V,aH,cB.u hz,λ_=>?_,λ_=>R C A U x6 gs aY aa V⟩;refine(cU (bQ.ext v6) w).any.aG x6 Q λc m7 L u7=>⟨_,rfl,λ_=>kj m7 L,λ_=>?_⟩;exact(cU (cD.ext L) w).any.aG u7 Q λc D x8 W=>⟨_,rfl,λ_=>kj D (L.trans x8),λ_=>R D A U W ((gs.ext ft.mono L).ext ft.mono x8) aY aa V⟩
end
end Go.Proofs.YtgnjacfobdjeeaaGreat
