/- Part of a proof, joined by a program. -/
import Derived.Test.YtgnjacfobdjeeaaGreatW07
set_option linter.unusedVariables false
set_option linter.unusedSimpArgs false
set_option linter.defProp false
set_option linter.constructorNameAsVariable false
set_option maxHeartbeats 8000000
set_option maxRecDepth 100000
namespace Go.Proofs.YtgnjacfobdjeeaaGreat
open Go.Vc
section
variable{m:I}{s:O}{a:List Int}
def eH.Rl{α:Type}{d:Nat}{R:List Ce->α->Prop}{a:List α}(h:eH m d R s a){k:Nat}(n:k<=a.length):eH m d R (s.cut 0 k d) (a.take k):=by
 have c:=h.len;have f:=h.cap;have i:=h.fS;cases s with
 |nil=>
  simp at c;have:k=0:=V;subst this;exact⟨by simp[O.cut],by simp[O.cut],by simp[O.cut],D⟩
 |zn e o b=>
  simp at c;have:k=0:=V;subst this;exact⟨by simp[O.cut],by simp[O.cut],by simp[O.cut],D⟩
 |mk e o p l=>
  simp only[O.iE,O.Nm]at c f i;refine⟨by simp[O.cut];omega,by simp[O.cut];omega,by simp[O.cut];omega,λj x b=>?_⟩;have g:j<k:=by have:=ax b;simp at this;omega
  rw[nv,ao g]at b;have:=h.iP j x b;simpa[O.cut]using this
def pA(aT:O)(t:Int)(m:I):dJ cw 142 [O.v aT,vi t] m (zd aT.len t):=by
 apply Fh;refine⟨λh=>ft ?_ (J.aB _),λh=>cK ?_ (J.aB _)⟩<;>simp at h
 ·simp[zd,h]
 ·unfold zd;omega
def vz{j:O}(c:ap m j a)(aT:O):dJ cw 141 [O.v aT,O.v j] m (EF aT.len a):=by
 apply BA;have o:=c.len;refine eU (n:=a.length) (o▸c.fS) (λe b=>J m b/\∀t∈a.take e,zd aT.len t) ⟨J.aB _,D⟩ ?_;rintro e t I μ s ⟨b,i⟩ q
 refine dit (λh=>?_) λh=>?_
 ·obtain⟨x,d⟩:=ag (l:=a) (k:=e) V;refine⟨V,V,x,by simpa using b.af (c.E d),?_⟩;refine(pA _ _ _).then λr u g f=>⟨_,rfl,λh=>?_,λh=>?_⟩
  ·exact cK (λp=>nb g h (p x (ar d))) (b.trans f)
  ·exact q V _ ⟨b.trans f,bV d i (yb g h)⟩
 ·exact jG (dq V i) b
def qX(a:Int)(m:I)(d:a≠7/\a≠8):dJ cw 86 [vi a] m (lH a):=by
 apply vI;refine⟨λh=>⟨λc=>jG ?_ (J.aB _),λc=>⟨λb=>jG ?_ (J.aB _),λb=>ft ?_ (J.aB _)⟩⟩,λh=>⟨λb=>jG ?_ (J.aB _),λb=>ft ?_ (J.aB _)⟩⟩<;>simp[lH]at* <;>omega
def mX{aT:O}{a:List bB}(e:cx m aT a)(x:a.length<=4)(r:∀d∈a,d.cons.length<=3):EH cw 29 [O.v aT] m (vi (eK a).length):=by
 apply BD;simp -zeta only[aD,aC];have v:=e.len;refine dU (n:=a.length) V (λj g b=>J m b/\g=(fc a j:Nat)/\fc a j<=3*j) ⟨J.aB _,by cases a<;>rfl,by cases a<;>simp[fc]⟩ ?_;rintro j g y I μ w ⟨c,rfl,u⟩ s
 refine dit (λq=>?_) λq=>?_
 ·obtain⟨d,b⟩:=ag (l:=a) (k:=j) V;obtain⟨h,f,i,o,p⟩:=(cx.ext c e).E b;refine⟨V,V,_,i,_,o,h,p,?_⟩;intro z A;have t:=r d (ar b);refine s V _ _ ⟨(c.aK _).ai c.size _ _,?_,?_⟩
  ·rw[aQ V (by have:=f.len;omega),sk b,f.len];rfl
  ·rw[sk b];omega
 ·refine⟨?_,c⟩;rw[mL a j V]
def JC{a:List bB}(h:dP a):∀d∈a,d.cons.length<=3:=λd b=>by
 obtain⟨k,c⟩:=List.mem_iff_getElem?.1 b;exact lg h c
def QR:∀(a:List bB)(k:Nat),(eK (a.take k)).length=fc a k
 |[],k=>by simp[eK,P2]
 |d::a,0=>by simp[eK,fc]
 |d::a,k+1=>by
  have:=QR a k;simp only[Mk,eK,mj,aZ,fc]at this⊢;omega
def sW{aT:O}{a:List bB}(b:cx m aT a)(e:dP a)(t:Int):aO cw 106 [O.v aT,vi t] m λP c=>∃s,P=O.v s/\ap c s (cq a t)/\J m c:=by
 apply Fc;have Z:=b.len;have Y:=b.cap;have o:∀(h:¬(1<=t/\t<=a.length)),ap m .nil (cq a t):=λh=>by
  unfold cq;rw[ae h];exact⟨rfl,ad _,D,D⟩
 have:=e.len;refine dit (λh=>?_) λh=>?_
 ·exact⟨_,rfl,o V,J.aB _⟩
 refine dit (λB=>?_) λB=>?_
 ·exact⟨_,rfl,o V,J.aB _⟩
 have w:cW (t -1)=((t.toNat -1:Nat):Int):=by rw[aQ V V];omega
 rw[w];obtain⟨d,f⟩:=ag (l:=a) (k:=t.toNat -1) V;have x:cq a t=(List.range d.cons.length).map λi=>((fc a (t.toNat -1)+i:Nat):Int):=by
  unfold cq;rw[ao V,f];rfl
 rw[x];have W:=qS e (t.toNat -1);have X:=lg e f;refine⟨V,V,V,?_⟩;have H:cx m (aT.cut 0 (t.toNat -1) 3) (a.take (t.toNat -1)):=eH.Rl b V;have g:=mX H bJ (λd b=>JC e d (fR b));rw[QR]at g;refine g.then λL u=>⟨_,rfl,?_⟩;obtain⟨z,I,R,S,A⟩:=(cx.ext u b).E f;have aa:=I.len;refine⟨V,V,z,by simpa using A,?_⟩;refine dU (n:=d.cons.length) V (λj s c=>J m c/\gG m c aE 1 s (((List.range j).map λi=>((fc a (t.toNat -1)+i:Nat):Int)).map Ce.i)/\s.len=j) ⟨u,by simpa using gG.nil m L aE 1,rfl⟩ ?_;rintro j s M Q μ hj ⟨r,p,q⟩ N
 refine dit (λC=>?_) λC=>?_
 ·intro v;have y:cW (((fc a (t.toNat -1):Nat):Int)+(j:Int))=((fc a (t.toNat -1)+j:Nat):Int):=by rw[aQ V V];omega
  have K:v=M.push (.cells (bG [.i (((fc a (t.toNat -1)+j:Nat):Int))]) aE):=by rw[<-y]
  clear_value v;subst K;refine gG.append (c:=[.i 0]) (i:=[.i ((fc a (t.toNat -1)+j:Nat):Int)]) (p.ext (J.push _ _)) (r.aK _) rfl (cF.push _ _ _).iP (by simp[q];omega) ?_;intro ab c E F G T U _;refine N V _ _ ⟨F,?_,by simp[G,q]⟩
  rw[RH,fD,fD];exact E
 ·have:j=d.cons.length:=V;subst this;exact⟨_,rfl,ap.fV p bJ,r⟩
def OP{a:List bB}{i j:Nat}{d:bB}{f:List Int}(h:a[i]? =some d)(b:d.cons[j]? =some f):cD a ((fc a i+j:Nat):Int)=f:=by
 unfold cD;rw[ao V,tF,qR a i j d h (ax b),b];rfl
def LI{aT:O}{a:List bB}(t:cx m aT a)(u:dP a)(c:Int)(hc: -1000000<=c/\c<=1000000):aO cw 202 [O.v aT,vi c] m λZ f=>∃Y s,Z=.tuple #[vi Y,.agg #[O.v s]]/\ap f s (cD a c)/\J m f:=by
 apply GO;simp -zeta only[aD,aC];intro g;have W:J m g:=(J.aB m).aK _;have ah:m.size<g.size:=by simp[g]
 clear_value g;have ac:=t.len;have:=u.len;refine dU (n:=a.length) V (λj z f=>J m f/\g.size<=f.size/\z=c -(fc a j:Nat)/\¬(0<=c/\c<fc a j)) ⟨W,ad _,by cases a<;>simp[fc],by cases a<;>simp[fc]⟩ ?_;rintro j z w I μ hj ⟨d,U,rfl,af⟩ X
 refine dit (λP=>?_) λP=>?_
 ·obtain⟨A,b⟩:=ag (l:=a) (k:=j) V;obtain⟨h,E,K,L,B⟩:=(cx.ext d t).E b;have ae:=E.len;have ab:=qS u j;have h6:=lg u b;refine⟨V,V,_,K,_,L,h,B,?_⟩;intro m3 x;have e:J w x:=((J.aB w).aK _).ai (ad _) _ _;have F:¬(0<=c -(fc a j:Nat)/\c -(fc a j:Nat)<A.cons.length)->I (cW (c -(fc a j:Nat) -(h.len:Int))) (cW ((j:Int)+1)) x/\μ (cW (c -(fc a j:Nat) -(h.len:Int))) (cW ((j:Int)+1)) x<μ (c -(fc a j:Nat)) j w:=by
   intro hq;refine X V _ _ ⟨d.trans e,cg U e.size,?_,?_⟩
   ·rw[aQ V V,sk b];omega
   ·rw[sk b];omega
  refine⟨λi=>⟨λr=>?_,λr=>F ?_⟩,λi=>F ?_⟩
  ·simp only[au]at i r;obtain⟨aa,v⟩:=ag (l:=A.cons) (k:=(c -(fc a j:Nat)).toNat) V;obtain⟨q,hg,C⟩:=(oY.ext e E).E v;refine⟨V,V,q,C,?_⟩;intro y;have o:J m y:=(d.trans e).ai (ad _) _ _;refine⟨_,q,rfl,?_,o⟩;have p:cD a c=aa:=by
    have:=OP b v;rw[<-this];congr 1;omega
   rw[p];obtain⟨G,Q,_,_,M⟩:=t.E b;have R:h=G:=by
    have:=d.af M;rw[B]at this;exact O.Gp.1 (by simpa using this)
   subst R;obtain⟨H,S,N⟩:=Q.E v;have T:q=H:=by
    have:=(d.trans e).af N;rw[C]at this;exact O.Gp.1 (by simpa using this)
   subst T;exact S.ext o
  ·simp at i r;omega
  ·simp at i;omega
 ·intro y;have o:J m y:=d.ai (ad _) _ _;refine⟨_,.nil,rfl,?_,o⟩;have p:cD a c=[]:=by
   unfold cD;split
   ·rw[cY (by rw[<-mL a j V];omega)];rfl
   ·rfl
  rw[p];exact⟨rfl,ad _,D,D⟩
def GQ{aT:O}{a:List bB}(g:cx m aT a)(i:dP a)(c:Int)(f: -1000000<=c/\c<=1000000):aO cw 143 [O.v aT,vi c] m λv d=>∃s,v=O.v s/\ap d s (cD a c)/\J m d:=by
 apply BE;simp -zeta only[aD,aC];refine(LI g i c f).mono ?_;rintro _ e ⟨t,s,rfl,h,j⟩;refine⟨t,s,rfl,?_⟩;intro l k;have b:J e k:=((J.aB e).aK _).ai (ad _) _ _;exact⟨s,rfl,h.ext b,j.trans b⟩
def vR(j:ap m s a)(g:Nat)(i f:Array Value)(v:GL.elem g=true)(q:Int->Prop)
 (u:∀x∈a,∀c,J m c->dJ cw g (i.toList++[vi x]++f.toList) c (q x)):
 aO cw 124 [O.v s,.func (.func g) i f] m λB c=>∃r:Int,B=vi r/\J m c/\
  ((r= -1/\∀x∈a,¬q x)\/∃(b:Nat)(x:Int),r=b/\a[b]? =some x/\q x/\∀y∈a.take b,¬q y):=by
 apply ql s (.func g,i,f)
 have w:=j.len
 refine eU (n:=a.length) (w▸j.fS) (λb c=>J m c/\∀y∈a.take b,¬q y) ⟨J.aB _,D⟩ ?_
 rintro b z I μ E ⟨d,o⟩ A
 refine dit (λh=>?_) λh=>?_
 ·obtain⟨x,e⟩:=ag (l:=a) (k:=b) V
  refine⟨V,V,x,by simpa using d.af (j.E e),g,rfl,v,?_⟩
  refine(u x (ar e) z d).then λC F t p=>⟨_,rfl,λh=>?_,λh=>?_⟩
  ·exact⟨_,rfl,d.trans p,Or.inr ⟨b,x,rfl,e,t.1 h,o⟩⟩
  ·exact A V _ ⟨d.trans p,bV e o (fb t h)⟩
 ·exact⟨_,rfl,d,Or.inl ⟨rfl,dq V o⟩⟩
def iK(j:ap m s a)(g:Nat)(c b:Array Value)(i:GL.elem g=true)(q:Int->Prop)
 (f:∀x∈a,∀d,J m d->dJ cw g (c.toList++[vi x]++b.toList) d (q x)):
 dJ cw 69 [O.v s,.func (.func g) c b] m (∃x∈a,q x):=by
 apply oV s (.func g,c,b)
 refine(vR j g c b i q f).mono ?_
 rintro _ p ⟨r,rfl,k,h⟩
 refine⟨_,rfl,ft ?_ k⟩
 simp only[Gu,au]
 rcases h with⟨rfl,h⟩|⟨o,x,rfl,d,e,n⟩
 ·exact⟨λl=>V,λ⟨x,d,e⟩=>absurd e (h x d)⟩
 ·exact⟨λ_=>⟨x,ar d,e⟩,λ_=>V⟩
end
section
variable{s c k d r:O}{b:I}{e:List Nat}{Q:List Int->Prop}{v:List Int}{x:cR}
structure _root_.Go.Vc.gC where
 params:List Int
 cJ:List Int
 aV:Int
 body:Bk
def iC(m:I)(a:List Ce)(r:gC):Prop:=∃p l s,a=[.s p,.s l,.i r.aV,.s s,.i r.body.aV]/\ap m p r.params/\ap m l r.cJ/\eI m s r.body.aA
abbrev ze(m:I)(s:O)(l:List gC):Prop:=eH m 5 (iC m) s l
structure eD(m:I)(d r:O)(ds:List bB)(rs:List gC):Prop where
 aT:cx m d ds
 iJ:ze m r rs
 types:dP ds
 om:rs.length<=4
def iC.le{m b:I}(h:Le m b){a:List Ce}{x:gC}:iC m a x->iC b a x:=λ⟨p,l,s,c,d,e,f⟩=>⟨p,l,s,c,d.le h,e.le h,f.le h⟩
def iC.mono:nZ 5 iC:=⟨λh=>iC.le h,λh=>by obtain⟨_,_,_,rfl,_⟩:=h;rfl⟩
def ze.le{m b:I}(a:Le m b){s:O}{l:List gC}(h:ze m s l):ze b s l:=eH.le h a λ_ _=>iC.le a
def ze.E{m:I}{l:List gC}(h:ze m s l){k:Nat}{x:gC}(f:l[k]? =some x):
 ∃p t b,ap m p x.params/\ap m t x.cJ/\eI m b x.body.aA/\af m s.F (s.off+k*5)=some (O.v p)/\af m s.F (s.off+k*5+1)=some (O.v t)/\af m s.F (s.off+k*5+2)=some (vi x.aV)/\af m s.F (s.off+k*5+3)=some (O.v b)/\af m s.F (s.off+k*5+4)=some (vi x.body.aV):=by
 obtain⟨g,⟨p,t,b,rfl,c,d,e⟩,a⟩:=h.iP k x f
 exact⟨p,t,b,c,d,e,a 0 _ rfl,a 1 _ rfl,a 2 _ rfl,a 3 _ rfl,a 4 _ rfl⟩
def eD.le{m b:I}{d r:O}{a:List bB}{e:List gC}(h:eD m d r a e)(c:Le m b):eD b d r a e:=⟨h.aT.le c,h.iJ.le c,h.types,h.om⟩
def zJ(m:I):Le m (bO [] m):=λb o v h=>eg.2 ⟨D,h⟩
def EX{a:List bB}(h:dP a)(c:Int):(cD a c).length<=3:=by
 unfold cD;split
 ·rcases be c.toNat (eK a).length with b|b
  ·obtain⟨i,d,e,j,m⟩:=uI a c.toNat b;have f:=qR a i (c.toNat -fc a i) d e V;rw[show fc a i+(c.toNat -fc a i)=c.toNat by omega]at f;obtain⟨x,g⟩:=ag (l:=d.cons) (k:=c.toNat -fc a i) V;rw[f,g];exact(((h.dt i d e).iL V).2.2.2 x (ar g)).1
  ·rw[cY b];simp
 ·simp
def Xg{a:List bB}(h:dP a)(t:Int):(cq a t).length<=3:=by
 unfold cq;split
 ·cases b:a[t.toNat -1]? with
  |none=>simp
  |some d=>simpa using lg h b
 ·simp
def PQ{a:List bB}(h:dP a)(b bN:Int)(k:Nat):Be a b bN k<=3:=by
 unfold Be;split
 ·exact EX h _
 ·omega
abbrev EJ(f:Nat)(a:List Value)(m:I):Prop:=sM f a m λ_=>True
def oJ(f:Nat)(a:List Value)(m:I):Prop:=aO cw f a m λv b=>∃c:Bool,v=.bool c/\J m b
def rN{m:I}{n:Int}(h:J m b):∃k:Int,vi n=vi k/\True/\J m b:=⟨n,rfl,trivial,h⟩
def rA{m:I}{a:Bool}(h:J m b):∃k:Bool,vb a=.bool k/\J m b:=⟨a,rfl,h⟩
def _root_.Go.Vc.dJ.any{f:Nat}{a:List Value}{m:I}{p:Prop}(h:dJ cw f a m p):oJ f a m:=h.mono λ_ _⟨b,e,_,x⟩=>⟨b,e,x⟩
section
variable{f:Nat}{g:List Value}{a m:I}{K:Value->I->Prop}{l:List Nat}
def EJ.aI(i:EJ f g m)(e:J a m)(o:∀c∈l,c<a.size)(k:∀(n:Int) b,J m b->J a b->K (vi n) b):aO cw f g m λv b=>eE l m b/\K v b:=
 i.mono λ_ b⟨n,h,_,d⟩=>⟨d.dm λc j=>e.lt (o c j),h▸k n b d (e.trans d)⟩
def oJ.aI(i:oJ f g m)(e:J a m)(n:∀c∈l,c<a.size)(k:∀(c:Bool) b,J m b->J a b->K (vb c) b):aO cw f g m λv b=>eE l m b/\K v b:=
 i.mono λ_ b⟨o,h,d⟩=>⟨d.dm λc j=>e.lt (n c j),h▸k o b d (e.trans d)⟩
def sM.aI{Q:Int->Prop}(i:sM f g m Q)(e:J a m)(o:∀c∈l,c<a.size)(k:∀(n:Int) b,Q n->J m b->J a b->K (vi n) b):aO cw f g m λv b=>eE l m b/\K v b:=
 i.mono λ_ b⟨n,h,q,d⟩=>⟨d.dm λc j=>e.lt (o c j),h▸k n b q d (e.trans d)⟩
def EI.aI(k:EI f g m e Q)(i:J a m)(q:∀d∈l,d<a.size)(p:∀s c b,ap (bO e b) s c->Q c->J m b->J a b->K (O.v s) b):aO cw f g m λv b=>eE l m b/\K v b:=
 k.mono λ_ b⟨s,c,j,n,r,h⟩=>⟨h.dm λd o=>i.lt (q d o),j▸p s c b n r h (i.trans h)⟩
def kT.aI(k:kT f g m e Q)(i:J a m)(q:∀d∈l,d<a.size)(p:∀s c b,GI e m b s c->Q c->J m b->J a b->K (O.v s) b):aO cw f g m λv b=>eE l m b/\K v b:=
 k.mono λ_ b⟨s,c,j,n,r,h⟩=>⟨h.dm λd o=>i.lt (q d o),j▸p s c b n r h (i.trans h)⟩
end
def _root_.Go.Vc.J.Uq{c m:I}(f:J c m){l:List Nat}(e:∀a∈l,a<c.size)(h:J m b):eE l m b:=h.dm λa d=>f.lt (e a d)
def dH{m:I}(K:∀b∈e,b<m.size){aT:O}{a:List bB}(n:cx (bO e m) aT a)(f:dP a)(c:Int):EI 155 [O.v aT,vi c] m e (cD a c=·):=by
 apply rf;have q:cx m aT a:=n.le (bD _ _);have L:=n.len;have:=f.len;refine(lY q f c).mono ?_;rintro _ P ⟨R,rfl,p,j⟩;refine⟨_,rfl,dit (λz=>?_) λz=>?_⟩
 ·refine⟨_,_,rfl,?_,rfl,j.aK _⟩;have g:cD a c=[]:=by
   rcases p with⟨i,d,A,_⟩|⟨_,b⟩
   ·omega
   ·unfold cD;split
    ·rw[cY V];rfl
    ·rfl
  rw[g];exact⟨rfl,ad _,D,D⟩
 ·rcases p with⟨i,d,rfl,b,G,H⟩|⟨A,_⟩
  ·have N:=ax b;obtain⟨w,r,C,E,g⟩:=(n.le (j.da e)).E b;have t:cW ((i:Int)+1 -1)=i:=by rw[aQ V V];omega
   rw[t];have g:=(eg.1 g).2;refine⟨V,V,w,by simpa using g,?_⟩;refine(jX (cx.ext j q) f V).then λQ h=>⟨_,rfl,h.cV (by simpa using g),?_⟩;have F:=qS f i;have J:=lg f b;have M:=r.len;obtain⟨x,s⟩:=ag (l:=d.cons) (k:=(c -fc a i).toNat) V;obtain⟨o,B,y⟩:=oY.E (eH.le r (h.da e) (mJ.le (h.da e))) s;have u:cW (c -(fc a i:Int))=c -fc a i:=aQ V V;rw[u];refine⟨V,V,o,(eg.1 y).2,o,_,rfl,?_,rfl,j.trans h⟩;have v:cD a c=x:=by
    unfold cD;rw[ao V];have:=qR a i (c -fc a i).toNat d b V;rw[show c.toNat=fc a i+(c -fc a i).toNat by omega,this,s];rfl
   rw[v];exact B
  ·omega
def gU{m:I}(w:∀u∈e,u<m.size){aT:O}{a:List bB}(o:cx m aT a)(c:dP a)(t:Int):EI 157 [O.v aT,vi t] m e (cq a t=·):=by
 apply uv;intro K;have S:=o.len;have:=c.len;have z:J m K:=(J.aB m).aK _;refine(bF _ _ _ _).then λu W x i=>⟨_,rfl,λh=>?_,λh=>?_⟩
 ·refine⟨_,_,rfl,?_,rfl,z.trans i⟩;have f:cq a t=[]:=by
   unfold cq;rw[ae (by have:=nb x h;omega)]
  rw[f];exact⟨rfl,ad _,D,D⟩
 ·have h:=yb x h;have A:cW (t -1)=((t.toNat -1:Nat):Int):=by rw[aQ V V];omega
  rw[A];obtain⟨d,p⟩:=ag (l:=a) (k:=t.toNat -1) V;have B:cq a t=(List.range d.cons.length).map λq=>((fc a (t.toNat -1)+q:Nat):Int):=by
   unfold cq;rw[ao V,p];rfl
  rw[B];have Q:=qS c (t.toNat -1);have R:=lg c p;refine dU (n:=d.cons.length) V (λj s b=>J m b/\GI e m b s ((List.range j).map λq=>((fc a (t.toNat -1)+q:Nat):Int))) ⟨z.trans i,(GI.nil e m).ext i⟩ ?_;rintro j s X M μ U ⟨f,y⟩ L
  obtain⟨g,H,N,P,F⟩:=(cx.ext f o).E p;have T:=H.len;refine⟨V,V,g,by simpa using F,dit (λG=>?_) λG=>?_⟩
  ·refine(jX (cx.ext f o) c V).then λY v=>⟨_,rfl,?_⟩;have C:cW (((fc a (t.toNat -1):Nat):Int)+(j:Int))=((fc a (t.toNat -1)+j:Nat):Int):=by rw[aQ V V];omega
   rw[C];intro Z;refine GI.kv (y.ext v) ((f.trans v).fz []) w bJ λr b E g _ _=>L V _ _ ⟨g.ext,?_⟩
   rw[RH,fD];exact E
  ·have:j=d.cons.length:=V;subst this;exact⟨_,_,rfl,y.done w bJ,rfl,f⟩
def mR{m:I}{aT:O}{b:List bB}(i:cx m aT b)(q:dP b)(t:Int):dJ cw 300 [O.v aT,vi t] m (∃d,1<=t/\b[t.toNat -1]? =some d/\d.cons.length=0):=by
 apply Ea;have w:=i.len;have:=q.len;refine(bF _ _ _ _).then λr x g e=>⟨_,rfl,λh=>?_,λh=>?_⟩
 ·have h:=g.1 h;obtain⟨d,c⟩:=ag (l:=b) (k:=t.toNat -1) V;obtain⟨n,p,u,v,o⟩:=(cx.ext e i).E c;have j:cW (t -1)=((t.toNat -1:Nat):Int):=by rw[aQ V V];omega
  rw[j];refine⟨V,V,n,o,ft ?_ e⟩;rw[p.len];simp only[aF];exact⟨λh=>⟨d,V,c,V⟩,λ⟨s,_,a,f⟩=>by rw[c]at a;simp at a;subst a;omega⟩
 ·refine cK (λ⟨d,a,f,_⟩=>fb g h ⟨a,?_⟩) e;have:=ax f;omega
def zX{m:I}{aT:O}{a:List bB}(j:cx m aT a)(x:dP a)(u t:Int):
 sM 322 [O.v aT,vi u,vi t] m λk=>k= -1\/∃(p:Nat)(d:bB),k=p+1/\a[p]? =some d/\d.cons.length=0/\d.ug=u/\d.to=t:=by
 apply DM
 have B:=j.len
 have:=x.len
 refine eU (n:=a.length) V (λ_ b=>J m b) (J.aB _) ?_
 rintro k y A μ C c z
 refine⟨λh=>?_,λh=>⟨_,rfl,Or.inl rfl,c⟩⟩
 simp only[au]at h
 obtain⟨d,o⟩:=ag (l:=a) (k:=k) V
 obtain⟨q,w,r,s,v⟩:=(cx.ext c j).E o
 have e:=z V y c
 refine⟨V,V,q,v,λf=>⟨V,V,_,r,λg=>⟨V,V,_,s,λi=>?_,λ_=>e⟩,λ_=>e⟩,λ_=>e⟩
 rw[w.len]at f
 simp only[aF]at f g i
 refine⟨_,rfl,Or.inr ⟨k,d,?_,o,V,g,i⟩,c⟩
 rw[aQ V V]
def sK{m:I}{i q:O}{f t:List Int}(g:ap m c v)(e:ap m i f)(o:ap m q t):oJ 297 [O.v c,O.v i,O.v q] m:=by
 apply HV;have E:=g.len;have s:=e.len;have F:=o.len;have G:=g.fS;refine⟨λ_=>rA (J.aB _),λh=>?_⟩;simp only[ij]at h;refine eU (n:=f.length) (s▸e.fS) (λ_ b=>J m b) (J.aB _) ?_;rintro k K C μ H a z
 refine⟨λh=>?_,λh=>rA a⟩;simp only[au]at h;obtain⟨x,p⟩:=ag (l:=f) (k:=k) V;refine⟨V,V,x,(e.ext a).E p,?_⟩;have r:cW ((c.len:Int) -1)=(v.length:Int) -1:=by rw[aQ V V];omega
 rw[r];refine(bF _ _ _ _).then λD L u d=>⟨_,rfl,λ_=>rA (a.trans d),λj=>?_⟩;have j:=yb u j;obtain⟨A,w⟩:=ag (l:=v) (k:=x.toNat) V;obtain⟨B,y⟩:=ag (l:=t) (k:=k) V;exact⟨V,V,x,(e.ext (a.trans d)).E p,V,V,A,(g.ext (a.trans d)).E w,V,V,B,(o.ext (a.trans d)).E y,λ_=>rA (a.trans d),λ_=>z V _ (a.trans d)⟩
def Mb(a:Int)(m:I):oJ 295 [vi a] m:=by
 apply FL;have r:∀b:Bool,∃k:Bool,vb b=.bool k/\J m m:=λb=>rA (J.aB m);exact⟨λ_=>r _,λ_=>⟨λ_=>r _,λ_=>⟨λ_=>r _,λ_=>⟨λ_=>r _,λ_=>r _⟩⟩⟩⟩
def oW(x:cR)(a k:O):Value:=.agg #[vi x.op,vi x.bN,vi x.bW,O.v a,O.v k]
def wt{m:I}{g:O}(d:ap m c v)(x:cR):oJ 296 [O.v c,.agg #[vi x.op,vi x.bN,vi x.bW,O.v g,O.v k]] m:=by
 apply AR;simp -zeta only[aD,aC];intro a;have b:J m a:=J.push _ _;have n:∀f∈[m.size],f<a.size:=by simp[a]
 clear_value a;have p:=d.len;have q:=d.fS;refine⟨λ_=>rA b,λ_=>⟨λ_=>?_,λ_=>rA b⟩⟩;refine(bF _ _ _ _).aI (J.aB a) n λf r j _ e=>⟨_,rfl,λh=>?_,λ_=>rA (b.trans e)⟩;have h:=j.1 h;have i:cW (x.bW -1)=((x.bW.toNat -1:Nat):Int):=by rw[aQ V V];omega
 rw[i];obtain⟨y,o⟩:=ag (l:=v) (k:=x.bW.toNat -1) V;exact⟨V,V,y,(d.ext (b.trans e)).E o,rA (b.trans e)⟩
def BY{m:I}{n:O}{A:List bB}{E:List gC}(s:eD m d r A E)(i:ap m c v)(g:ap m n x.args):EJ 301 [.agg #[O.v d,O.v r],O.v c,oW x n k] m:=by
 apply vY;simp -zeta only[aD,aC];intro u e;have b:J m e:=(J.push _ _).trans (J.push _ _);have q:∀f∈[u.size,m.size],f<e.size:=by simp[e,u];omega
 clear_value e;have F:=i.len;have G:=i.fS;have H:=g.len;refine⟨λ_=>rN b,λh=>?_⟩;simp only[ij]at h;obtain⟨y,t⟩:=ag (l:=x.args) (k:=0) V;refine⟨V,V,y,(g.ext b).E t,?_⟩;have B:cW ((c.len:Int) -1)=(v.length:Int) -1:=by rw[aQ V V];omega
 rw[B];refine(bF _ _ _ _).aI (J.aB e) q λf K C _ j=>⟨_,rfl,λ_=>rN (b.trans j),λh=>?_⟩;have h:=yb C h;have a:=b.trans j;obtain⟨z,D⟩:=ag (l:=v) (k:=y.toNat) V;have o:=(g.ext a).E t;have p:=(i.ext a).E D;refine⟨V,V,y,o,V,V,z,p,λ_=>rN a,λ_=>⟨λ_=>⟨λ_=>⟨V,V,y,o,V,V,z,p,?_⟩,λ_=>rN a⟩,λ_=>rN a⟩⟩;exact(mR ((s.le a.le).aT) s.types z).any.aI j q λf L M w=>⟨_,rfl,λ_=>rN (b.trans w),λ_=>rN (b.trans w)⟩
def Ek{m:I}{y:O}{K:List bB}{u:List gC}(g:eD m d r K u)(Z:ap m c v)(B:ap m y x.args):EJ 299 [.agg #[O.v d,O.v r],O.v c,oW x y k] m:=by
 apply xr;simp -zeta only[aD,aC];intro j h;have G:J m h:=(J.push _ _).trans (J.push _ _);have o:∀f∈[j.size,m.size],f<h.size:=by simp[h,j];omega
 clear_value h;have h1:=g.iJ.len;have h2:=g.om;have h3:=B.len;have L:cW ((r.len:Int) -1)=(u.length:Int) -1:=by rw[aQ V V];omega
 rw[L];refine(bF _ _ _ _).aI (J.aB h) o λf n X _ w=>⟨_,rfl,λ_=>rN (G.trans w),λz=>?_⟩;have z:=yb X z;have F:=G.trans w;obtain⟨t,Y⟩:=ag (l:=u) (k:=x.bN.toNat) V;obtain⟨aa,ae,s,i,c2,c3,N,P,Q,R,S⟩:=(g.le F.le).iJ.E Y;refine⟨V,V,_,N,_,P,_,Q,_,R,_,S,?_⟩;intro m3 b;have H:J n b:=((J.aB n).aK _).ai (ad _) _ _;have p:∀f∈[n.size,j.size,m.size],f<b.size:=by
  have T:=o j.size D;have U:=o m.size D;have W:=w.size;have A:b.size=n.size+1:=by simp[b,m3,av]
  simp;omega
 clear_value b;have a:=F.trans H;have E:=Z.ext a;have C:=B.ext a;have q:=i.ext H;have T:=i.len;have U:=i.cap;have W:=i.fS;refine⟨λ_=>(sK E C q).aI (J.aB b) p λf m5 e _=>⟨_,rfl,λ_=>rN (a.trans e),λ_=>rN (a.trans e)⟩,λ_=>⟨λ_=>rN a,λA=>⟨λ_=>rN a,λ_=>?_⟩⟩⟩;simp only[ak]at A;have M:cW ((aa.len:Int) -1)=((t.params.length -1:Nat):Int):=by rw[aQ V V];omega
 rw[M];obtain⟨ab,hz⟩:=ag (l:=t.params) (k:=t.params.length -1) V;refine⟨V,V,V,(sK E C (eH.Rl q V)).aI (J.aB b) p λf m5 e _=>⟨_,rfl,λ_=>rN (a.trans e),λ_=>⟨V,V,ab,(q.ext e).E hz,?_⟩⟩⟩;exact(zX (g.le (a.trans e).le).aT g.types _ _).aI e p λac m6 _ x6 u6=>⟨_,rfl,rN (a.trans u6)⟩
def VW(a:List bB)(e:List gC)(b:Bk):Prop:=∀(m:I)(d r c t:O)(v:List Int),eD m d r a e->ap m c v->eI m t b.aA->v.length+4*b.w<=1000000000000->EJ 261 [.agg #[O.v d,O.v r],O.v c,.agg #[O.v t,vi b.aV]] m
def Jg{m:I}{ab:O}{u:List bB}{rs:List gC}(g:eD m d r u rs)(Y:ap m c v)(z:nD m k x.bE)(hb:v.length+4*x.w<=1000000000000)(ih:∀o∈x.bE,VW u rs o):EJ 298 [.agg #[O.v d,O.v r],O.v c,oW x ab k] m:=by
 apply Cj;simp -zeta only[aD,aC];intro m0 q;have i:J m q:=(J.push _ _).trans (J.push _ _);have p:∀o∈[m0.size,m.size],o<q.size:=by simp[q,m0];omega
 clear_value q;have ac:=z.len;have hw:=cR.mf x;refine(gU (e:=[]) D (g.le i.le).aT g.types x.bN).aI (J.aB q) p λae cl L y s B _=>⟨_,rfl,?_⟩;subst s;have y:=y.le (bD _ _);have ah:=y.len;have h3:=Xg g.types x.bN;refine⟨λP aa=>aa=L/\0<=P/\(x.op=8->P=(cq u x.bN).length),⟨λh=>?_,λh=>?_⟩,?_⟩
 ·simp only[aF]at h;exact⟨rfl,V,λh=>V⟩
 ·exact⟨rfl,V,λ_=>V⟩
 rintro P ai ⟨f,h4,h5⟩;have f:=f.symm;subst f;refine⟨λ_=>rN (i.trans B),λ_=>⟨λ_=>rN (i.trans B),λX=>?_⟩⟩;simp only[ij]at X;subst X;refine dU (n:=x.bE.length) (ac▸z.fS) (λ_ _ b=>J L b) (J.aB _) ?_;rintro j A M W μ hj C ad
 have Q:=B.trans C;have t:=i.trans Q;refine⟨λh=>?_,λ_=>rN t⟩;simp only[au]at h;obtain⟨o,w⟩:=ag (l:=x.bE) (k:=j) V;have Z:=ih o (ar w);have af:=wH w;have tl:∀(a:Int)(e:I),J L e->((decide (a<(0:Int)))=true->∃k:Int,vi (-1)=vi k/\True/\J m e)/\((decide (a<(0:Int)))=false->((decide ((j:Int)>(0:Int)))=true->((a !=A)=true->∃k:Int,vi (-1)=vi k/\True/\J m e)/\((a !=A)=false->W a (cW ((j:Int)+1)) e/\μ a (cW ((j:Int)+1)) e<μ A j M))/\((decide ((j:Int)>(0:Int)))=false->W a (cW ((j:Int)+1)) e/\μ a (cW ((j:Int)+1)) e<μ A j M)):=λa e h=>by
  have f:=rN (n:=-1) ((i.trans B).trans h);have F:=ad V a e h
  exact⟨λ_=>f,λ_=>⟨λ_=>⟨λ_=>f,λ_=>F⟩,λ_=>F⟩⟩
 refine⟨λh=>?_,λh=>?_⟩
 ·simp only[aF]at h;have h7:=h5 h;obtain⟨U,hy⟩:=ag (l:=cq u x.bN) (k:=j) V;refine⟨V,V,U,(y.ext C).E hy,?_⟩;refine(dH (e:=[]) D (g.le (t.le.trans (zJ _))).aT g.types U).aI Q p λF fl e hf s x4 u4=>⟨_,rfl,?_⟩;subst s;have h8:=EX g.types U;refine(eG (S:=[]) D (Y.le ((i.trans u4).le.trans (zJ _))) hf V).aI u4 p λf el m5 he s x5 R=>⟨_,rfl,?_⟩;subst s;obtain⟨E,K,G,H⟩:=(z.le (i.trans R).le).E w;refine⟨V,V,_,G,_,H,?_⟩;exact(Z m5 d r f E _ (g.le (i.trans R).le) ((he.done D bJ).le (bD _ _)) K bJ).aI R p λa N T _=>⟨_,rfl,tl a N (((C.trans x4).trans x5).trans T)⟩
 ·obtain⟨E,K,G,H⟩:=(z.le t.le).E w;refine⟨V,V,_,G,_,H,?_⟩;exact(Z M d r c E _ (g.le t.le) (Y.ext t) K V).aI Q p λa N T _=>⟨_,rfl,tl a N (C.trans T)⟩
def Py{m a:I}(h:J m a)(l:List Int){n:Nat}(c:n=l.length)(b:l.length<=9223372036854775807):ap (a.push (.cells (bG (l.map Ce.i)) aE)) (.mk a.size 0 n n) l:=
 (ap.lit (S:=[]) aE l D rfl c b).le (bD _ _)
def _root_.Go.Vc.eH.J2{α:Type}{n:I}{b:Nat}{R:List Ce->α->Prop}{l:List α}(h:eH n b R s l){i j:Nat}(u:i<=j)(v:j<=l.length):eH n b R (s.cut i j b) ((l.take j).drop i):=by
 have a:=h.len;have m:=h.cap;have y:=h.fS;have g:(s.cut i j b).len=j -i/\(s.cut i j b).len<=(s.cut i j b).cap:=by
  cases s with
  |nil=>simp at a;simp[O.cut];omega
  |zn d o t=>simp at a;simp[O.cut];omega
  |mk d o r f=>simp at a m;simp[O.cut];omega
 refine⟨by simp[g.1];omega,g.2,V,λk x c=>?_⟩;rw[rT,nv]at c;split at c
 ·rename_i w;obtain⟨p,q,e⟩:=h.iP _ x c;refine⟨p,q,?_⟩;cases s with
  |nil=>simp at a;omega
  |zn d o t=>simp at a;omega
  |mk d o r f=>
   simp at a m;have:¬f=i:=V;simp only[O.cut,this,rB,O.jm,O.ta]at e⊢;rw[gA,<-df]at e;exact e
 ·simp at c
def nW{s:I}{B:O}{R:List bB}{rs:List gC}(C:eD s d r R rs)(hv:ap s c v)(ha:ap s B x.args)(hk:nD s k x.bE)(K:v.length+4*x.w<=1000000000000)(ih:∀g∈x.bE,VW R rs g):EJ 256 [.agg #[O.v d,O.v r],O.v c,oW x B k] s:=by
 apply CA;simp -zeta only[aD,aC];intro E q;have Q:J s q:=(J.push _ _).trans (J.push _ _);have n:∀g∈[E.size,s.size],g<q.size:=by simp[q,E];omega
 clear_value q;have h1:=ha.len;have h2:=ha.cap;have w:∀{o:I},J q o->ap o c v:=λh=>hv.ext (Q.trans h);have A:∀{o:I},J q o->ap o B x.args:=λh=>ha.ext (Q.trans h);have N:∀{o:I},J q o->eD o d r R rs:=λh=>C.le (Q.trans h).le;have p:∀{o:I}{u:Int},J q o->∃k:Int,vi u=vi k/\True/\J s o:=λh=>rN (Q.trans h);have U:∀{o:I}{u k:Int}{g:Bool},J q o->(g=true->∃k:Int,vi u=vi k/\True/\J s o)/\(g=false->∃a:Int,vi k=vi a/\True/\J s o):=λh=>⟨λ_=>p h,λ_=>p h⟩;refine⟨λZ=>J q Z,⟨λ_=>?_,λ_=>?_⟩,?_⟩
 ·exact(Mb x.op q).aI (J.aB q) n λg o e _=>⟨_,rfl,λ_=>p e,λ_=>(wt (w e) x).aI e n λg f m a=>⟨_,rfl,λ_=>p a,λ_=>⟨λ_=>⟨λ_=>⟨λ_=>p a,λ_=>a⟩,λ_=>a⟩,λ_=>a⟩⟩⟩
 ·exact(wt (w (J.aB _)) x).aI (J.aB q) n λg f a _=>⟨_,rfl,λ_=>p a,λ_=>⟨λ_=>⟨λ_=>⟨λ_=>p a,λ_=>a⟩,λ_=>a⟩,λ_=>a⟩⟩
 intro o e;have T:∀{f:I}{W:O}{al:List Int}(h:J q f),ap f W al->oJ 297 [O.v c,O.v B,O.v W] f:=λh ht=>sK (w h) (A h) ht;have Kt:∀{f:I}(h:J q f),aO cw 298 [.agg #[O.v d,O.v r],O.v c,.agg #[vi x.op,vi x.bN,vi x.bW,O.v B,O.v k]] f λv b=>eE [E.size,s.size] f b/\∃u:Int,v=vi u/\∃k:Int,vi u=vi k/\True/\J s b:=λh=>
  (Jg (N h) (w h) (hk.le (Q.trans h).le) K ih).aI h n λu P t X=>⟨u,rfl,p X⟩
 refine⟨λ_=>⟨λ_=>(bF _ _ _ _).any.aI e n λg f m a=>⟨_,rfl,U a⟩,λ_=>p e⟩,λ_=>⟨λ_=>?_,λ_=>⟨λ_=>?_,λ_=>⟨λ_=>?_,λ_=>⟨λ_=>?_,λ_=>⟨λ_=>?_,λ_=>⟨λ_=>?_,λ_=>⟨λ_=>?_,λ_=>⟨λ_=>?_,λ_=>p e⟩⟩⟩⟩⟩⟩⟩⟩⟩
 ·intro f;exact(T (e.aK _) (Py e [0,0] rfl D)).aI (e.aK _) n λg f m a=>⟨_,rfl,U a⟩
 ·intro f;exact(T (e.aK _) (Py e [0] rfl D)).aI (e.aK _) n λg f m a=>⟨_,rfl,U a⟩
 ·refine(lY (N e).aT C.types x.bN).mono λ_ f⟨W,z,_,m⟩=>?_;subst z;have a:=e.trans m;refine⟨e.Uq n m,_,rfl,λ_=>?_,λ_=>p a⟩;refine(dH (e:=[]) D ((N a).aT.le (zJ _)) C.types x.bN).aI a n λae H P hf L t X=>⟨_,rfl,?_,?_⟩
  ·exact aN (t.same E.size (a.lt (n _ D))) _
  refine(T X (hf.le (bD _ _))).aI X n λg F x5 y=>⟨_,rfl,λ_=>?_,λ_=>p y⟩;refine(lY (N y).aT C.types x.bN).mono λ_ G⟨W,z,_,Y⟩=>?_;subst z;exact⟨y.Uq n Y,_,rfl,p (y.trans Y)⟩
 ·intro f;exact(T (e.aK _) (Py e [0] rfl D)).aI (e.aK _) n λg f m a=>⟨_,rfl,λ_=>Kt a,λ_=>p a⟩
 ·intro f;exact(T (e.aK _) (Py e [x.bN] rfl D)).aI (e.aK _) n λg f m a=>⟨_,rfl,λ_=>Kt a,λ_=>p a⟩
 ·exact(Ek (N e) (w e) (A e)).aI e n λu f m a=>⟨_,rfl,p a⟩
 ·have h3:=hv.len;have h4:=hv.fS;refine⟨λg Z=>J q Z/\(g=true->x.args.length=2/\∃y z H,x.args[0]? =some y/\0<=y/\v[y.toNat]? =some z/\1<=z/\R[z.toNat -1]? =some H),⟨λh=>?_,λ_=>⟨e,λh=>by simp at h⟩⟩,?_⟩
  ·simp only[aF]at h;obtain⟨y,L⟩:=ag (l:=x.args) (k:=0) V;refine⟨V,V,y,(A e).E L,?_⟩;have e1:cW ((c.len:Int) -1)=(v.length:Int) -1:=by rw[aQ V V];omega
   rw[e1];refine(bF _ _ _ _).aI (J.aB o) (λg K=>e.lt (n g K)) λg f aa _ m=>⟨_,rfl,λh=>?_,λh=>⟨e.trans m,λh=>by simp at h⟩⟩;have h:=aa.1 h;have a:=e.trans m;obtain⟨z,M⟩:=ag (l:=v) (k:=y.toNat) V;refine⟨V,V,y,(A a).E L,V,V,z,(w a).E M,?_⟩;refine(mR (N a).aT C.types z).aI (J.aB f) (λg K=>a.lt (n g K)) λg P ab _ t=>⟨_,rfl,a.trans t,λh=>?_⟩;obtain⟨H,h5,h6,_⟩:=ab.1 h;exact⟨V,y,z,H,L,V,M,h5,h6⟩
  ·rintro g f ⟨m,ai⟩;refine⟨λh=>?_,λ_=>p m⟩;obtain⟨h5,y,z,H,L,h6,M,h7,aa⟩:=ai h;obtain⟨ae,hf,g0,g1,g2⟩:=(N m).aT.E aa;have ao:=C.aT.len;have h8:=C.types.len;have h9:=ax aa;have am:=ax M;have e1:cW (z -1)=((z.toNat -1:Nat):Int):=by rw[aQ V V];omega
   have ab:=(A m).E L;have ac:=(w m).E M;refine⟨V,V,y,ab,V,V,z,ac,?_⟩;rw[e1];refine⟨V,V,_,g0,_,g1,_,g2,?_⟩;intro P;have t:J f P:=J.push _ _;have af:E.size<f.size:=m.lt (n _ D);have ah:s.size<f.size:=m.lt (n _ D);refine⟨t.cV g0,t.cV g1,t.cV g2,t.cV ac,t.cV ab,aN (t.same _ af) _,aN (t.same _ ah) _,?_⟩;intro F;have x5:J f F:=t.ai (ad _) _ _;have an:F.size=f.size+1:=by simp[F,P,av]
   clear_value F;refine⟨V,V,V,?_⟩;intro G;have Y:J f G:=x5.trans (J.push _ _);have u6:=m.trans Y;have ak:∀g∈[f.size,E.size,s.size],g<G.size:=by simp[G];omega
   refine⟨aN ((J.push F _).same _ V) _,?_⟩;have aj:ap G (B.cut 1 B.len 1) (x.args.drop 1):=by
    have:=(eH.J2 (A u6) (i:=1) (j:=x.args.length) V (ad _));rw[eZ]at this;rw[h1];exact this
   exact(sK (w u6) aj (Py x5 [H.ug] rfl D)).aI (J.aB G) ak λg m7 x7 _=>⟨_,rfl,U (u6.trans x7)⟩
 ·exact(BY (N e) (w e) (A e)).aI e n λu f m a=>⟨_,rfl,p a⟩
def _root_.Go.Vc.J.oC{c m:I}(h:J c m)(k:J c b){l:List Nat}(e:∀a∈l,a<c.size):eE l m b:=λa d=>by rw[k.same a (e a d),h.same a (e a d)]
def sR(x:cR)(b:Bool)(a:b=true<->0<=x.op/\x.op<=11):dn x=if b=true then 1 else 0:=by
 unfold dn;by_cases h:b=true
 ·rw[ao h];exact ao (a.1 h)
 ·rw[ae h];exact ae λc=>h (a.2 c)
def na{M:List bB}{rs:List gC}:∀a:Bk,VW M rs a:=by
 refine Bk.ind ?_;intro aA aa ih G d r c ap v Y hv u m;simp only[Bk.jN,Bk.jd,Bk.qA]at*;apply Aa;simp -zeta only[aD,aC];intro H e;have z:J G e:=(J.push _ _).trans (J.push _ _);have g:∀a∈[H.size,G.size],a<e.size:=by simp[e,H];omega
 clear_value e;have Z:=u.len;refine(lZ (S:=[]) D (hv.le (z.le.trans (zJ _))) V).aI (J.aB e) g λs0 _ m2 j N x2 _=>⟨_,rfl,?_⟩;subst N;have F:=AZ aA;refine dU (n:=aA.length) (Z▸u.fS) (λk s b=>J e b/\∃i,GI [] e b s i/\i.length=v.length+dc (aA.take k)) ⟨x2,_,j,D⟩ ?_;rintro k s m3 ab μ hk ⟨A,i,o,hc⟩ K
 have q:=z.trans A;have ad:=sP (aA.take k);have ai:=qC k aA;have aj:=fO (aA.take k);have ah:=o.len bh;have t:=(o.done D (by have:=F k;omega)).le (bD _ _);refine⟨λh=>?_,λh=>?_⟩
 ·simp only[au]at h;obtain⟨x,p⟩:=ag (l:=aA) (k:=k) V;obtain⟨ac,kk,U,X,j,P,Q,R,T⟩:=(u.le q.le).E p;have al:=pN p;have ak:=F (k+1);have af:=qF p;refine⟨V,V,_,j,_,P,_,Q,_,R,_,T,?_⟩;refine(nW (Y.le q.le) t U X V (ih x (ar p))).aI A g λam I f w=>⟨_,rfl,λ_=>rN (z.trans w),λ_=>⟨V,V,_,f.af j,?_⟩⟩;refine(jH _ _).aI (J.aB I) (λa m=>w.lt (g a m)) λa m5 W _ B=>⟨_,rfl,?_⟩;have E:=sR x a W;have y:=w.trans B;refine⟨λh=>?_,λh=>?_⟩
  ·rw[ao h]at E;intro m6;refine GI.kv ((o.ext f).ext B) (y.fz []) D V λr m7 O C L an=>⟨?_,K V _ _ ⟨C.ext,_,O,bJ⟩⟩;exact J.oC (y.aK _) C.ext g
  ·rw[ae (by simp[h])]at E;exact K V _ _ ⟨y,i,(o.ext f).ext B,V⟩
 ·refine(bF _ _ _ _).aI (J.aB m3) (λa m=>A.lt (g a m)) λa I p _ f=>⟨_,rfl,λ_=>rN (q.trans f),λh=>?_⟩;have h:=yb p h;have y:=t.fS;rw[aQ V V]at h;obtain⟨L,w⟩:=ag (l:=i) (k:=aa.toNat) V;exact⟨V,V,L,(t.ext f).E w,rN (q.trans f)⟩
end
section
variable{b:I}{d f h c:O}{g:List gC}{e:cR}{j:Nat}
def _root_.Go.Vc.cz{S a:List Nat}{d o:Nat}{l:List Ce}(i:d∈S)(g:∀c∈a,c∈S):Le (bO S b) (bO a (ai b d o l)):=
 px λc _ e=>⟨λh=>e (g c h),bd _ _ _ _ λf=>e (f▸i)⟩
def Zb(a:Bk):Prop:=∀(b:I)(t:O),eI b t a.aA->∀left:Int,-1<=left->left<=600->sM 304 [.agg #[O.v t,vi a.aV],vi left] b λc=>-1<=c/\c<=600
def HT:∀m:Bk,Zb m:=by
 refine Bk.ind ?_;intro aA aa M b ab s left C E;simp only[Bk.jN,Bk.jd]at*;apply AN;simp -zeta only[aD,aC];intro i;have z:J b i:=J.push _ _;have G:∀m∈[b.size],m<i.size:=by simp[i]
 clear_value i;have L:=s.len;have t:∀{g:I}{a:Int},J i g->-1<=a/\a<=600->∃c:Int,vi a=vi c/\(-1<=c/\c<=600)/\J b g:=λd q=>⟨_,rfl,q,z.trans d⟩;refine dU (n:=aA.length) (L▸s.fS) (λ_ a g=>J i g/\-1<=a/\a<=600) ⟨J.aB _,C,E⟩ ?_;rintro c a O X μ hk ⟨o,q⟩ R
 refine⟨λd=>⟨λ_=>t o V,λD=>?_⟩,λ_=>t o q⟩;simp only[au]at d;simp only[bH]at D;obtain⟨e,w⟩:=ag (l:=aA) (k:=c) V;obtain⟨h,y,ha,p,Z,g1,g2,g3,u⟩:=(s.le (z.trans o).le).E w;have F:=p.len;rw[aQ (b:=a -1) V V];refine dU (n:=e.bE.length) (F▸p.fS) (λ_ a g=>J O g/\-1<=a/\a<=600) ⟨J.aB _,V,V⟩ ?_;rintro N S P Y μ2 hj ⟨j,r⟩ Q;refine⟨V,V,y,j.af u,λd=>?_,λ_=>R V _ _ ⟨o.trans j,r⟩⟩;simp only[au]at d;obtain⟨m,v⟩:=ag (l:=e.bE) (k:=N) V;obtain⟨T,K,A,B⟩:=(p.le j.le).E v;refine⟨V,V,y,j.af u,V,V,_,A,_,B,?_⟩;exact(M e (ar w) m (ar v) P T K S r.1 r.2).aI (o.trans j) G λf m4 H W U=>⟨_,rfl,λ_=>t U V,λd=>Q V _ _ ⟨j.trans W,H⟩⟩
def La{t:O}{c:Bk}(g:eI b t c.aA):EJ 260 [.agg #[O.v t,vi c.aV]] b:=by
 apply Eo;simp -zeta only[aD,aC];intro a;have d:J b a:=J.push _ _;have f:∀c∈[b.size],c<a.size:=by simp[a]
 clear_value a;exact(HT c a t (g.le d.le) 600 V V).aI (J.aB a) f λn h _ _ e=>⟨_,rfl,λ_=>rN (d.trans e),λ_=>rN (d.trans e)⟩
def ZT(f:gC):dw:=⟨f.params,[],f.aV,0,[]⟩
def oI.mono:nZ 5 oI:=⟨λb⟨h,a,c⟩=>⟨h,a,c.le b⟩,λ⟨h,a,_⟩=>by rw[a];rfl⟩
def Mh{M:List bB}(x:eD b d f M g):aO cw 303 [.agg #[O.v d,O.v f]] b λab p=>∃z,ab=.agg #[O.v d,O.v z]/\eH p 5 (oI p) z (g.map ZT)/\J b p:=by
 apply Ga;simp -zeta only[aD,aC];intro t h j K v;have af:=x.iJ.len;have hf:=x.om;have x2:J b h:=(J.push _ _).trans (J.push _ _);have s1:t.size=b.size+1:=by simp[t]
 have s2:h.size=b.size+2:=by simp[h,s1]
 have s3:j.size=b.size+3:=by simp[j,s2]
 have G:J j v:=(J.push j _).ai (ad _) _ _;have S:Gr [j.size,t.size] h v eY 5 oI (.mk h.size 0 0 0) []:=(Gr.new _ (ad _) _ _ _).ext oI.mono G;have I:cF v j.size ku [.s d,.s (.mk h.size 0 0 0)]:=cF.ai (m:=K) (o:=0) (r:=[.s d,.s (.mk h.size 0 0 0)]) (cF.push j _ _);have ac:J h v:=(J.push h _).trans G;clear_value v;have U:∀u∈[t.size,b.size],u<h.size/\u∉([]:List Nat):=bJ;refine eU (n:=g.length) V (λc p=>J h p/\∃s,Gr [j.size,t.size] h p eY 5 oI s ((g.take c).map ZT)/\cF p j.size ku [.s d,.s s]) ⟨ac,_,S,I⟩ ?_;rintro c X ae μ hk ⟨y,s,q,B⟩ Z
 have F:=x2.trans y;refine dit (λT=>?_) λT=>?_
 ·obtain⟨aa,C⟩:=ag (l:=g) (k:=c) V;have W:ze (bO (s.F::[j.size,t.size]) X) f g:=x.iJ.le ((zJ b).trans ((F.fz []).bO D λu w=>Or.inr ?_))
  ·obtain⟨E,ah,u,L,c2,c3,N,e1,P,e3,e4⟩:=W.E C;refine⟨s,B.cp 1,V,V,E,(eg.1 N).2,V,V,_,(eg.1 P).2,?_⟩;intro Y;refine Gr.box (g:=[.s .nil,.i 0,.i 0,.i 0,.s .nil]) (j:=1) (o:=[.s d,.s s]) (y:=ZT aa) oI.mono bh q (y.fz []) ⟨E,rfl,L⟩ bJ B D bh ⟨V,D⟩ (λu w=>by have H:=U u w;have Q:=q.bg;have A:=y.size;omega) λr' p R H Q z' q'=>Z V _ ⟨Q.ext,r',?_,H⟩
   rw[bn C,fD];exact R
  ·have:=q.bg;simp at w;omega
 ·refine⟨d,B.cp 0,s,B.cp 1,?_⟩;intro Y;have C:=q.ne B bh;have E:=q.bg;rw[cN V]at q;refine⟨s,rfl,?_,F.ai V _ _⟩;have A:=q.nE oI.mono bJ bh bJ;exact eH.le A ((cz (a:=[]) D D).trans (bD _ _)) λw e=>oI.mono.le ((cz (a:=[]) D D).trans (bD _ _))
def xz{t:List bB}(e:eD b d f t g):oJ 259 [.agg #[O.v d,O.v f]] b:=by
 apply tz;simp -zeta only[aD,aC];intro h;have a:J b h:=J.push _ _;have j:∀i∈[b.size],i<h.size:=by simp[h]
 clear_value h;have N:=e.iJ.len;have L:=e.om;refine⟨λ_=>rA a,λ_=>?_⟩;refine(Mh (e.le a.le)).mono λ_ P⟨K,u,y,m⟩=>?_;subst u;refine⟨m.dm j,_,_,rfl,?_⟩;have D:=a.trans m;refine(uC (e.le D.le).aT y).any.aI m j λi Q U p=>⟨_,rfl,λ_=>rA (a.trans p),λ_=>?_⟩;refine eU (n:=g.length) V (λ_ o=>J h o) p ?_;rintro c R I μ M o A
 refine⟨λx=>?_,λ_=>rA (a.trans o)⟩;simp only[au]at x;obtain⟨T,z⟩:=ag (l:=g) (k:=c) V;obtain⟨B,C,i,r,s,E,v,w,F,G,H⟩:=(e.le (a.trans o).le).iJ.E z;refine⟨V,V,B,v,V,V,C,w,?_⟩;exact(uB r s).any.aI o j λi S W q=>⟨_,rfl,λ_=>rA (a.trans q),λ_=>A V _ q⟩
def Eu{B:List bB}(j:eD b d f B g)(K:∀q∈g,q.params.length+4*q.body.w<=1000000000000):oJ 240 [.agg #[O.v d,O.v f]] b:=by
 apply xA;simp -zeta only[aD,aC];intro e;have p:J b e:=J.push _ _;have v:∀a∈[b.size],a<e.size:=by simp[e]
 clear_value e;have X:=j.iJ.len;have U:=j.om;refine(xz (j.le p.le)).aI (J.aB e) v λa Y z _=>⟨_,rfl,λ_=>rA (p.trans z),λ_=>?_⟩;refine eU (n:=g.length) V (λ_ h=>J e h) z ?_;rintro c o S μ W r P
 refine⟨λI=>?_,λ_=>rA (p.trans r)⟩;simp only[au]at I;obtain⟨q,w⟩:=ag (l:=g) (k:=c) V;have x:=p.trans r;obtain⟨Q,aa,a,A,T,u,C,E,F,G,H⟩:=(j.le x.le).iJ.E w;refine⟨V,V,_,C,_,E,_,F,_,G,_,H,?_⟩;intro L h;have m:J o h:=(J.push o _).ai (ad _) _ _;have s:∀a∈[o.size,b.size],a<h.size:=by
  have:=r.lt (v b.size D);have:h.size=o.size+1:=by simp[h,L,av]
  simp;omega
 clear_value h;have t:=x.trans m;refine(La (u.le m.le)).aI (J.aB h) s λN M i _=>⟨_,rfl,λ_=>rA (t.trans i),λ_=>?_⟩;refine(na q.body M d f Q a q.params (j.le (t.trans i).le) (A.ext (m.trans i)) (u.le (m.trans i).le) (K q (ar w))).aI i s λN Z R y=>⟨_,rfl,aN (R.same _ (i.lt (s _ D))) _,λ_=>rA (t.trans y),λ_=>P V _ ((r.trans m).trans y)⟩
def xQ(d:Int)(b:I):oJ 166 [vi d] b:=by
 apply rW;have f:∀a:Bool,∃c:Bool,vb a=.bool c/\J b b:=λa=>rA (J.aB b);exact⟨λ_=>f _,λ_=>⟨λ_=>f _,λ_=>⟨λ_=>f _,λ_=>f _⟩⟩⟩
def VY(g:List gC)(e:cR):Prop:=e.op=9->0<=e.bN/\e.bN<g.length
structure At(b:I)(d f h c:O)(ds:List bB)(g:List gC)(e:cR):Prop where
 Qh:eD b d f ds g
 args:ap b h e.args
 call:VY g e
def At.le{b k:I}{d f h c:O}{i:List bB}{g:List gC}{e:cR}(a:At b d f h c i g e)(j:Le b k):At k d f h c i g e:=⟨a.Qh.le j,a.args.le j,a.call⟩
def dG{g h:Obj}{a c:I}(e:a=b.push g)(f:c=a.push h):J b c/\∀d∈[a.size,b.size],d<c.size:=by
 subst e f;exact⟨(J.push _ _).trans (J.push _ _),bJ⟩
def nO{q:List bB}(a:At b d f h c q g e)(j:Int):oJ 306 [.agg #[O.v d,O.v f],oW e h c,vi j] b:=by
 apply FU;simp -zeta only[aD,aC];intro u i;obtain⟨m,s⟩:=dG (a:=u) (c:=i) rfl rfl;clear_value i;have E:=a.Qh.iJ.len;refine⟨λn=>?_,λ_=>rA m⟩;simp only[aF]at n;have D:=a.call n;obtain⟨H,t⟩:=ag (l:=g) (k:=e.bN.toNat) V;obtain⟨G,v,o,x,p,y,z,r,A,B,C⟩:=(a.Qh.le m.le).iJ.E t;exact⟨V,V,v,r,(dp p j).any.aI (J.aB i) s λo F w _=>⟨_,rfl,rA (m.trans w)⟩⟩
def mD{s:O}{u:List bB}(m:At b d f h c u g e){v:List Int}(q:ap b s v)(x:∀y∈e.args,0<=y/\y<(v.length:Int))(w:j<e.args.length):oJ 302 [.agg #[O.v d,O.v f],O.v s,oW e h c,vi j] b:=by
 apply yF;simp -zeta only[aD,aC];intro A a;obtain⟨n,p⟩:=dG (a:=A) (c:=a) rfl rfl;clear_value a;have D:=m.args.len;have F:=q.len;obtain⟨y,r⟩:=ag w;have E:=x y (ar r);obtain⟨C,z⟩:=ag (l:=v) (k:=y.toNat) V;refine(xQ e.op a).aI (J.aB a) p λt G o _=>⟨_,rfl,λ_=>?_,λ_=>rA (n.trans o)⟩;have i:=n.trans o;refine⟨V,V,y,(m.args.ext i).E r,V,V,C,(q.ext i).E z,λ_=>?_,λ_=>rA i⟩;exact(nO (m.le i.le) j).aI o p λt H I B=>⟨_,rfl,rA (n.trans B)⟩
def Cn{t:List bB}(a:At b d f h c t g e)(w:j<e.args.length):oJ 334 [.agg #[O.v d,O.v f],oW e h c,vi j] b:=by
 apply wi;simp -zeta only[aD,aC];intro A o;obtain⟨s,x⟩:=dG (a:=A) (c:=o) rfl rfl;clear_value o;have v:=a.args.len;obtain⟨C,y⟩:=ag w;refine eU (n:=e.args.length) (v▸a.args.fS) (λ_ i=>J o i) (J.aB _) ?_;rintro q G I μ F m B
 have i:=s.trans m;refine⟨λu=>⟨λ_=>?_,λ_=>?_⟩,λ_=>rA i⟩<;>simp only[au]at u<;>have p:=B V
 ·obtain⟨D,z⟩:=ag (l:=e.args) (k:=q) V;refine⟨V,V,D,(a.args.ext i).E z,V,V,C,(a.args.ext i).E y,λ_=>⟨λ_=>rA i,λ_=>?_⟩,λ_=>p _ m⟩;exact(nO (a.le i.le) q).aI m x λE H K r=>⟨_,rfl,λ_=>rA (s.trans r),λ_=>p _ r⟩
 ·exact p _ m
def Ar{s r:O}{u:List bB}(i:At b d f h c u g e){z x:List Int}(w:ap b s z)(v:ap b r x)(p:j<e.args.length):oJ 319 [.agg #[O.v d,O.v f],oW e h c,vi j,O.v s,O.v r] b:=by
 apply Eb;simp -zeta only[aD,aC];intro A l;obtain⟨a,k⟩:=dG (a:=A) (c:=l) rfl rfl;clear_value l;have C:=i.args.len;obtain⟨y,q⟩:=ag p;refine⟨V,V,y,(i.args.ext a).E q,?_⟩;refine(dp (v.ext a) y).any.aI (J.aB l) k λo D n _=>⟨_,rfl,λ_=>rA (a.trans n),λ_=>?_⟩;have t:=a.trans n;refine⟨V,V,y,(i.args.ext t).E q,?_⟩;refine(dp (w.ext t) y).any.aI n k λo E G m=>⟨_,rfl,λ_=>rA (a.trans m),λ_=>?_⟩;exact(Cn (i.le (a.trans m).le) p).aI m k λo F H B=>⟨_,rfl,rA (a.trans B)⟩
end
section
def WQ(b:Bk):Prop:=∀(S:List Nat)(m:I),(∀c∈S,c<m.size)->∀(t a:O)(l:List Int)(n:Int)(k:Nat),eI m t b.aA->ap (bO S m) a l->k<=b.aA.length->l.length+b.w<=1000000000000->
 EI 288 [.agg #[O.v t,vi b.aV],vi n,vi k,O.v a] m S λc=>c.length<=l.length+b.w
def _root_.Go.Vc.Wf{σ:Type}{n c:Nat}(o:c<=n)(r:n<=9223372036854775807){m:I}{h:σ}{g:(σ->Int->I->Prop)->(σ->Int->I->Nat)->σ->Int->I->Prop}(Q:Nat->σ->I->Prop)(l:Q c h m)
 (j:∀(k:Nat)(s:σ)(a:I)(b:σ->Int->I->Prop)(μ:σ->Int->I->Nat),c<=k->k<=n->Q k s a->
  (k<n->∀e d,Q (k+1) e d->b e (cW ((k:Int)+1)) d/\μ e (cW ((k:Int)+1)) d<μ s k a)->g b μ s k a):
 ∃(b:σ->Int->I->Prop)(μ:σ->Int->I->Nat),b h c m/\∀s i a,b s i a->g b μ s i a:=by
 refine⟨λs i d=>∃k:Nat,i=k/\c<=k/\k<=n/\Q k s d,λ_ i _=>(n -i).toNat,⟨c,rfl,ad _,o,l⟩,?_⟩
 rintro s i a ⟨k,rfl,p,q,t⟩
 refine j k s a _ _ p q t λf e d u=>?_
 rw[ka f r]
 exact⟨⟨k+1,rfl,V,f,u⟩,Fp f⟩
def DH{S:List Nat}{m:I}(T:∀i∈S,i<m.size){E K L:O}{f:List Int}{x:cR}(N:Int)(u:ap m E x.args)(w:nD m K x.bE)(G:ap (bO S m) L f)(hb:f.length+x.w<=1000000000000)(Y:∀e∈x.bE,WQ e):
 EI 318 [oW x E K,vi N,O.v L] m S λa=>a.length<=f.length+x.w:=by
 apply wU
 simp -zeta only[aD,aC]
 intro b
 have g:J m b:=J.push _ _
 have z:∀e∈[m.size],e<b.size:=by simp[b]
 clear_value b
 have U:=u.len
 have W:=w.len
 have hw:=cR.mf x
 have H:∀{c:I},J b c->∀i∈S,i<c.size:=λh i F=>aP (T i F) (g.trans h).size
 refine(tq x.op b).any.aI (J.aB b) z λe m2 r _=>⟨_,rfl,λ_=>⟨_,_,rfl,G.le ((g.trans r).da S),V,g.trans r⟩,λ_=>?_⟩
 refine dU (n:=x.args.length) (U▸u.fS) (λA s c=>J b c/\∃a,ap (bO S c) s a/\a.length<=f.length+A) ⟨r,f,G.le ((g.trans r).da S),ad _⟩ ?_
 rintro A s m3 ae μ hj ⟨d,a,o,F⟩ C
 have u3:=g.trans d
 refine dit (λh=>?_) λh=>?_
 ·obtain⟨y,v⟩:=ag (l:=x.args) (k:=A) V
  have j:=(u.ext u3).E v
  refine⟨V,V,y,j,λ_=>⟨V,V,y,j,λ_=>⟨V,V,y,j,?_⟩,λ_=>C V _ _ ⟨d,a,o,V⟩⟩,λ_=>C V _ _ ⟨d,a,o,V⟩⟩
  exact(mr (H d) o y V).aI d z λab B M p D t q=>⟨_,rfl,C V _ _ ⟨q,B,p.done (H d) (by have:=D.2;omega),by have:=D.2;omega⟩⟩
 ·refine dU (n:=x.bE.length) (W▸w.fS) (λj s c=>J b c/\∃a,ap (bO S c) s a/\a.length<=f.length+x.args.length+bw (x.bE.take j)) ⟨d,a,o,bJ⟩ ?_
  rintro j s2 M I2 μ2 hi ⟨t,B,p,ah⟩ aa
  have q:=g.trans t
  have y:=JX x.bE
  refine⟨λh=>?_,λh=>⟨_,_,rfl,p,by have:=y j;omega,q⟩⟩
  simp only[au]at h
  obtain⟨e,v⟩:=ag (l:=x.bE) (k:=j) V
  obtain⟨ac,X,P,Q⟩:=(w.le q.le).E v
  have af:=ue v
  refine⟨V,V,_,P,_,Q,?_⟩
  exact(Y e (ar v) S M (H t) ac s2 B N 0 X p (eJ _) (by have:=y (j+1);omega)).aI t z λab Z m5 R D x5 u5=>⟨_,rfl,aa V _ _ ⟨u5,Z,R,V⟩⟩
def zW:∀e:Bk,WQ e:=by
 refine Bk.ind ?_;intro aA U P S r F ac ab p Q k0 m M K hb;simp only[Bk.jN,Bk.jd,Bk.qA]at*;apply DI;simp -zeta only[aD,aC];intro a;have d:J r a:=J.push _ _;have v:∀e∈[r.size],e<a.size:=by simp[a]
 clear_value a;have N:=m.len;have H:∀{c:I},J a c->∀f∈S,f<c.size:=λh f u=>aP (F f u) (d.trans h).size;refine Wf (n:=aA.length) K (N▸m.fS) (λj t c=>J a c/\∃q,ap (bO S c) t q/\q.length<=p.length+sw (aA.take j)) ⟨J.aB _,p,M.le (d.da S),V⟩ ?_;rintro j t y Y μ _ hj ⟨b,q,g,u⟩ R
 have B:=d.trans b;have w:=AZ aA;refine⟨λh=>?_,λh=>?_⟩
 ·simp only[au]at h;obtain⟨X,o⟩:=ag (l:=aA) (k:=j) V;obtain⟨Z,kk,G,L,z,A,i,C,D⟩:=(m.le B.le).E o;have aa:=pN o;refine⟨V,V,_,z,_,A,_,i,_,C,_,D,?_⟩;exact(DH (H b) Q G L g (by have:=w (j+1);omega) (P X (ar o))).aI b v λT x m3 E s x3 W=>⟨_,rfl,R V _ _ ⟨W,x,E,V⟩⟩
 ·have D:=w j;have z:∃A o,O.v t=O.v A/\ap (bO S y) A o/\o.length<=p.length+(1+sw aA)/\J r y:=⟨_,_,rfl,g,V,B⟩;refine⟨λ_=>⟨λ_=>?_,λ_=>z⟩,λ_=>z⟩;exact(mr (H b) g U V).aI b v λT x E i s G C=>⟨_,rfl,_,_,rfl,i.done (H b) (by have:=s.2;omega),by have:=s.2;omega,d.trans C⟩
def CV{S:List Nat}{m:I}(i:∀d∈S,d<m.size){t:O}{b:Bk}(l:eI m t b.aA)(n:Int)(c:b.w<=1000000000000):EI 253 [.agg #[O.v t,vi b.aV],vi n] m S λf=>f.length<=b.w:=by
 apply Gd;simp -zeta only[aD,aC];intro g a;obtain⟨e,k⟩:=dG (a:=g) (c:=a) rfl rfl;have h:ap (bO S a) (.mk g.size 0 0 0) []:=⟨rfl,ad _,D,D⟩;clear_value a;exact(zW b S a (λd j=>e.lt (i d j)) t _ _ n 0 (l.le e.le) h (eJ _) (by simpa using c)).aI (J.aB a) (λb c=>k b (by simp at c⊢;exact Or.inr c)) λr f o d q j _=>⟨_,rfl,_,_,rfl,d,by simpa using q,e.trans j⟩
section
variable{b:List Nat}{m:I}(e:∀c∈b,c<m.size){d r a q u t s:O}{w:List bB}{A:List gC}{x:cR}(h:At m d r a q w A x){v g z:List Int}(p:ap m u v)(o:∀y∈x.args,0<=y/\y<(v.length:Int))(f:ap m t g)(j:ap m s z)
include e h p o
def yC(R:x.args.length<=1000000000000):kT 257 [.agg #[O.v d,O.v r],O.v u,oW x a q] m b (pb x.args):=by
 apply tR;simp -zeta only[aD,aC];intro N g T;obtain⟨t,E⟩:=dG (a:=N) (c:=g) rfl rfl;clear_value g;have M:=h.args.len;refine dU (n:=x.args.length) (M▸h.args.fS) (λj z s=>J g s/\∃f,GI b g s z f/\(∀y∈f,y∈x.args)/\f.length<=j) ⟨J.push _ _,[],GI.nil b g,D,ad _⟩ ?_;rintro j z U P μ S ⟨H,f,v,w,C⟩ G
 have A:=t.trans H;refine dit (λL=>?_) λL=>?_
 ·obtain⟨y,F⟩:=ag (l:=x.args) (k:=j) V;refine(mD (h.le A.le) (p.ext A) o (j:=j) V).aI H E λQ W I s=>⟨_,rfl,λ_=>⟨V,V,y,(h.args.ext (t.trans s)).E F,?_⟩,λ_=>G V _ _ ⟨s,f,v.ext I,w,V⟩⟩;intro X;exact GI.kv (v.ext I) (s.fz []) (λc C=>t.lt (e c C)) V λr Y K B _ _=>⟨J.oC (s.aK _) B.ext E,G V _ _ ⟨B.ext,_,K,oO w (ar F),bJ⟩⟩
 ·exact⟨z,f,rfl,v.bY (λ_ h=>h) t.size,⟨w,V⟩,A⟩
include f j
def FI(hb:x.args.length<=1000000000000):kT 290 [.agg #[O.v d,O.v r],O.v u,oW x a q,O.v t,O.v s] m b (pb x.args):=by
 apply yE;simp -zeta only[aD,aC];intro X w aa;obtain⟨z,E⟩:=dG (a:=X) (c:=w) rfl rfl;clear_value w;have W:=h.args.len;refine dU (n:=x.args.length) (W▸h.args.fS) (λv G A=>J w A/\∃g,GI b w A G g/\(∀y∈g,y∈x.args)/\g.length<=v) ⟨J.push _ _,[],GI.nil b w,D,ad _⟩ ?_;rintro v G m3 Z μ hj ⟨Q,g,A,B,N⟩ F
 have H:=z.trans Q;refine dit (λU=>?_) λU=>?_
 ·obtain⟨y,P⟩:=ag (l:=x.args) (k:=v) V;refine(mD (h.le H.le) (p.ext H) o (j:=v) V).aI Q E λS m4 L I=>⟨_,rfl,λ_=>?_,λ_=>F V _ _ ⟨I,g,A.ext L,B,V⟩⟩;have K:=z.trans I;refine(Ar (h.le K.le) (f.ext K) (j.ext K) (j:=v) V).aI I E λS m5 R C=>⟨_,rfl,λ_=>⟨V,V,y,(h.args.ext (z.trans C)).E P,?_⟩,λ_=>F V _ _ ⟨C,g,(A.ext L).ext R,B,V⟩⟩;intro Y;exact GI.kv ((A.ext L).ext R) (C.fz []) (λc N=>z.lt (e c N)) V λr Y T M _ _=>⟨J.oC (C.aK _) M.ext E,F V _ _ ⟨M.ext,_,T,oO B (ar P),bJ⟩⟩
 ·exact⟨G,g,rfl,A.bY (λ_ h=>h) z.size,⟨B,V⟩,H⟩
def HA(hb:g.length<=1000000000000):kT 292 [.agg #[O.v d,O.v r],O.v u,oW x a q,O.v t,O.v s] m b (pb g):=by
 apply Av;simp -zeta only[aD,aC];intro m0 B;obtain⟨w,K⟩:=dG (a:=m0) (c:=B) rfl rfl;clear_value B;have ai:=h.args.len;have ae:∀{z:I},J B z->∀c∈b,c<z.size:=λh c hc=>aP (e c hc) (w.trans h).size;have Z:aO cw 321 [O.v t,O.v s] B λv z=>eE [m0.size,m.size] B z/\∃ab:O,v=O.v ab/\∃C aa,O.v ab=O.v C/\GI b m z C aa/\pb g aa/\J m z:=by
  refine(LX (S:=[]) D (f.le (w.le.trans (zJ _))) (j.le (w.le.trans (zJ _))) hb).aI (J.aB B) K λC A aj F N X _=>⟨_,rfl,C,A,rfl,?_,N,w.trans X⟩;obtain⟨G,P,Q,H⟩:=F;exact⟨G,P,Q.bY w.size,H.mono λ_ _ h=>h⟩
 refine⟨λ_=>Z,λ_=>⟨λ_=>Z,λ_=>?_⟩⟩;refine(lZ (S:=[]) D (f.le (w.le.trans (zJ _))) hb).aI (J.aB B) K λs0 _ aj G ah X _=>⟨_,rfl,?_⟩;subst ah;refine dU (n:=x.args.length) (ai▸h.args.fS) (λM C z=>J B z/\∃A,GI b m z C A/\pb g A) ⟨X,g,?_,λ_ h=>h,ad _⟩ ?_
 ·obtain⟨G,P,Q,H⟩:=G;exact⟨G,P,Q.bY w.size,H.mono λ_ _ h=>h⟩
 rintro M C m3 ak μ hj ⟨x3,A,F,E⟩ R
 have T:=w.trans x3;refine⟨λh1=>?_,λh1=>⟨C,A,rfl,F,E,T⟩⟩;simp only[au]at h1;obtain⟨y,hy⟩:=ag (l:=x.args) (k:=M) V;refine(mD (h.le T.le) (p.ext T) o (j:=M) V).aI x3 K λaf m4 Y U=>⟨_,rfl,λ_=>?_,λ_=>R V _ _ ⟨U,A,F.ext Y,E⟩⟩;have W:=w.trans U;refine(Ar (h.le W.le) (f.ext W) (j.ext W) (j:=M) V).aI U K λaf m5 x5 L=>⟨_,rfl,λ_=>⟨V,V,y,(h.args.ext (w.trans L)).E hy,?_⟩,λ_=>R V _ _ ⟨L,A,(F.ext Y).ext x5,E⟩⟩;refine(AX (S:=b) (ae L) (((F.ext Y).ext x5).done e (by have:=E.2;omega)) y (by have:=E.2;omega)).aI L K λr l2 m6 H N x6 u6=>⟨_,rfl,R V _ _ ⟨u6,l2,H.bY (λ_ h=>h) (w.trans L).size,λac hz=>E.1 ac (N.1 ac hz),cg N.2 E.2⟩⟩
omit p o
def HB(hb:x.args.length<1000000000000):kT 293 [.agg #[O.v d,O.v r],oW x a q,O.v t,O.v s] m b (pb x.args):=by
 apply Aw;simp -zeta only[aD,aC];intro m0 o ab;obtain⟨g,A⟩:=dG (a:=m0) (c:=o) rfl rfl;clear_value o;have Y:=h.args.len;have U:∀{v:I},J o v->∀c∈b,c<v.size:=λh c z=>aP (e c z) (g.trans h).size;refine dU (n:=x.args.length) (Y▸h.args.fS) (λC L v=>J o v/\∃i,GI b o v L i/\(∀y∈i,y∈x.args)/\i.length<=C) ⟨J.push _ _,[],GI.nil b o,D,ad _⟩ ?_;rintro C L m3 aa μ hj ⟨R,i,p,u,z⟩ E
 have Q:=g.trans R;refine dit (λX=>?_) λX=>?_
 ·obtain⟨y,B⟩:=ag (l:=x.args) (k:=C) V;refine(nO (h.le Q.le) C).aI R A λN m4 H F=>⟨_,rfl,λ_=>⟨V,V,y,(h.args.ext (g.trans F)).E B,?_⟩,λ_=>E V _ _ ⟨F,i,p.ext H,u,V⟩⟩;refine(dp (f.ext (g.trans F)) y).any.aI F A λN m5 M G=>⟨_,rfl,λ_=>⟨V,V,y,(h.args.ext (g.trans G)).E B,?_⟩,λ_=>E V _ _ ⟨G,i,(p.ext H).ext M,u,V⟩⟩;refine(dp (j.ext (g.trans G)) y).any.aI G A λN m6 S w=>⟨_,rfl,λ_=>⟨V,V,y,(h.args.ext (g.trans w)).E B,?_⟩,λ_=>E V _ _ ⟨w,i,((p.ext H).ext M).ext S,u,V⟩⟩;refine(mr (U w) ((((p.ext H).ext M).ext S).done (λc z=>g.lt (e c z)) V) y V).aI w A λr l2 m7 W P x7 u7=>⟨_,rfl,E V _ _ ⟨u7,l2,W.bY (λ_ h=>h) w.size,λT Z=>?_,by have:=P.2;omega⟩⟩;rcases P.1 T Z with K|K
  ·exact u T K
  ·subst K;exact ar B
 ·exact⟨L,i,rfl,p.bY (λ_ h=>h) g.size,⟨u,V⟩,Q⟩
end
end
section
variable{m e a:I}{c g:List Nat}{s:O}{d:List Int}{f h:Nat}{K:Value->I->Prop}
def pX{h i j:Obj}{a b c:I}(e:a=m.push h)(f:b=a.push i)(g:c=b.push j):J m c/\(∀d∈[b.size,a.size,m.size],d<c.size)/\a.size=m.size+1/\b.size=m.size+2/\c.size=m.size+3:=by
 subst e f g;exact⟨((J.push _ _).trans (J.push _ _)).trans (J.push _ _),bJ,D,D,D⟩
def GI.Rf{X:List Nat}{n:I}{h:O}{l:List Int}{a:Int}{K:O->I->Prop}(p:GI c e m s d)(j:GI g n m h l)(k:s.F≠h.F)(q:Fz X e m)(w:d.length<=1000000000000)
 (t:∀r b,GI c e b r (d++[a])->GI g n b h l->r.F≠h.F->Fz X e b->K r b):jE (m.push (.cells (bG [.i a]) aE)) aE [.i 0] 8 s (.mk m.size 0 1 1) K:=by
 have u:=j.bg
 refine Gr.kv (g:=[.i 0]) tI.mono bh p q rfl V λr b o f z v=>t r b o (j.jf (v _ u.2 (kd k))) ?_ f
 rcases z.2 with i|i
 ·rw[i];exact k
 ·omega
def GI.any(h:GI c e m s d):GI g e m s d:=by
 obtain⟨b,a,f,i⟩:=h;exact⟨b,a,f,i.mono λ_ _ h=>h⟩
def eQ(a v:Int):cR:=⟨a,0,0,[v],[]⟩
abbrev GS(c:List Nat)(e m:I)(s:O)(d:List cR):Prop:=Gr c e m fQ 5 gH s d
def GS.new(c:List Nat)(m:I):GS c m (m.push (.cells (bG []) fQ)) (.mk m.size 0 0 0) []:=Gr.new c (ad _) _ _ _
def GS.kv{c X:List Nat}{e m:I}{s a k:O}{d:List cR}{x:cR}{K:O->I->Prop}(h:GS c e m s d)(j:Fz X e m)(i:ap (bO (s.F::c) m) a x.args)(l:nD (bO (s.F::c) m) k x.bE)(n:d.length<=1000000000000)
 (g:∀r b,GS c e b r (d++[x])->Fz X e b->m.size<=b.size/\(r.F=s.F\/m.size<=r.F)->(∀f,f<m.size->f≠s.F->b[f]? =m[f]?)->K r b):
 jE (m.push (.cells (bG [.i x.op,.i x.bN,.i x.bW,.s a,.s k]) fQ)) fQ [.i 0,.i 0,.i 0,.s .nil,.s .nil] 72 s (.mk m.size 0 1 1) K:=
 Gr.kv (g:=[.i 0,.i 0,.i 0,.s .nil,.s .nil]) gH.mono bh h j ⟨a,k,rfl,i,l⟩ V g
def GS.all{c X:List Nat}{e m:I}{s x:O}{d f:List cR}{K:O->I->Prop}(h:GS c e m s d)(i:Fz X e m)(j:eI (bO (s.F::c) m) x f)(k:d.length+f.length<=1000000000000)
 (g:∀r a,GS c e a r (d++f)->Fz X e a->m.size<=a.size/\(r.F=s.F\/m.size<=r.F)->(∀b,b<m.size->b≠s.F->a[b]? =m[b]?)->K r a):
 jE m fQ [.i 0,.i 0,.i 0,.s .nil,.s .nil] 72 s x K:=
 Gr.all (g:=[.i 0,.i 0,.i 0,.s .nil,.s .nil]) gH.mono bh h i j V g
def my{α:Type}(m:I)(a:Nat)(R:List Ce->α->Prop)(b o c:Nat):eH m a R (.mk b o 0 c) []:=⟨rfl,eJ _,D,D⟩
def iQ(n:∀f∈c,f<m.size)(g v:Int):aO cw 225 [vi g,vi v] m λs d=>∃a k,s=oW (eQ g v) a k/\ap (bO c d) a [v]/\nD (bO c d) k []/\J m d:=by
 apply BZ;simp -zeta only[aD,aC];intro b e q r;have t:J m b:=J.push _ _;have u:J b e:=J.push _ _;have i:J e q:=J.push _ _;have w:b.size=m.size+1:=by simp[b]
 have p:J m r:=((t.trans u).trans i).ai (ad _) _ _;refine⟨_,_,rfl,?_,my _ _ _ _ _ _,p⟩;have l:ap (bO (m.size::c) e) (.mk b.size 0 1 1) [v]:=ap.lit aE [v] (λj o=>by
  rcases List.mem_cons.1 o with h|h
  ·omega
  ·have:=n j h;omega) rfl rfl D
 exact(l.le (i.da _)).le (cz ba λf h=>aj _ h)
def QB(f:Nat)(b:List Value)(m:I)(c:List Nat)(Q:List cR->Prop):Prop:=aO cw f b m λv a=>∃s d,v=O.v s/\GS c m a s d/\Q d/\J m a
def QB.aI{i:List Value}{d:List Nat}{Q:List cR->Prop}(l:QB f i m c Q)(j:J a m)(q:∀g∈d,g<a.size)(p:∀s e b,GS c m b s e->Q e->J m b->J a b->K (O.v s) b):aO cw f i m λv b=>eE d m b/\K v b:=
 l.mono λ_ b⟨s,e,k,n,r,h⟩=>⟨h.dm λg o=>j.lt (q g o),k▸p s e b n r h (j.trans h)⟩
def eO(z:∀i∈c,i<m.size)(b:Int){r:O}(j:ap m r d)(D:d.length<=1000000000000):QB 255 [vi b,O.v r] m c (d.map (eQ b)=·):=by
 apply Ai;intro G;have B:=j.len;refine dU (n:=d.length) (B▸j.fS) (λo s e=>J m e/\GS c m e s ((d.take o).map (eQ b))) ⟨J.push m _,by simpa using GS.new c m⟩ ?_;rintro o s H I μ E ⟨g,e⟩ C
 refine dit (λh=>?_) λh=>?_
 ·obtain⟨p,q⟩:=ag (l:=d) (k:=o) V;refine⟨V,V,p,(j.ext g).E q,?_⟩;refine(iQ (c:=s.F::c) (λi A=>?_) b p).mono λQ K⟨a,F,u,w,y,t⟩=>?_
  ·have:=e.bg;rcases List.mem_cons.1 A with h|h
   ·omega
   ·exact g.lt (z i h)
  subst u;refine⟨_,_,_,_,_,rfl,?_⟩;intro L;refine GS.kv (x:=eQ b p) (e.ext gH.mono t) ((g.trans t).fz []) w y bJ λP M v f R N=>C V _ _ ⟨f.ext,?_⟩
  rw[bn q,fD];exact v
 ·rw[cN V]at e;exact⟨s,_,rfl,e,rfl,g⟩
def oh(a:Int):∀d:List Int,sw (d.map (eQ a))=2*d.length
 |[]=>rfl
 |v::d=>by rw[cG,mE,oh a d,cR.mf];simp[eQ];omega
def jO{a:Int}(h:14<=a):∀d:List Int,dc (d.map (eQ a))=0
 |[]=>rfl
 |v::d=>by
  rw[cG,kC,jO h d];unfold dn;rw[ae (λb:oZ (eQ a v).op=>by have:=b.2;simp only[eQ]at this;omega)]
def Dg{e:List bB}{a:Nat}{c v:Int}(f:14<=c/\c<=17)(g:0<=v/\v<(a:Int)):WS e h True a (eQ c v):=
 ⟨⟨Or.inr ⟨trivial,f⟩,λx d=>by simp[eQ]at d;subst d;exact g,λ_=>rfl,by simp[eQ],λb=>by simp only[eQ]at b;omega,λb=>by simp only[eQ]at b;omega,λb=>by simp only[eQ]at b;omega⟩,λk d b=>by simp[eQ]at b⟩
def rI{f:List bB}{a:Nat}{b:Int}(c:14<=b/\b<=17)(g:∀v∈d,0<=v/\v<(a:Int)):WL f h True a (d.map (eQ b)):=λj s e=>by
 rw[cQ,jv]at e;obtain⟨v,i,rfl⟩:=e;rw[<-MY,jO c.1];exact Dg c (g v (ar i))
def nk(f:Nat)(d:List Value)(m:I)(c:List Nat)(Q:Bk->Prop):Prop:=aO cw f d m λv a=>∃s b,v=.agg #[O.v s,vi b.aV]/\eI (bO c a) s b.aA/\Q b/\J m a
def nk.aI{h:List Value}{d:List Nat}{Q:Bk->Prop}(l:nk f h m c Q)(i:J a m)(q:∀e∈d,e<a.size)(p:∀s e b,eI (bO c b) s e.aA->Q e->J m b->J a b->K (.agg #[O.v s,vi e.aV]) b):aO cw f h m λv b=>eE d m b/\K v b:=
 l.mono λ_ b⟨s,e,k,n,r,g⟩=>⟨g.dm λj o=>i.lt (q j o),k▸p s e b n r g (i.trans g)⟩
def JN(f:Nat)(d:List Value)(m:I)(c:List Nat)(Q:cR->Prop):Prop:=aO cw f d m λv b=>∃a k x,v=oW x a k/\ap (bO c b) a x.args/\nD (bO c b) k x.bE/\Q x/\J m b
def JN.aI{g:List Value}{d:List Nat}{Q:cR->Prop}(l:JN f g m c Q)(h:J a m)(s:∀b∈d,b<a.size)(r:∀p k x b,ap (bO c b) p x.args->nD (bO c b) k x.bE->Q x->J m b->J a b->K (oW x p k) b):aO cw f g m λv b=>eE d m b/\K v b:=
 l.mono λ_ b⟨p,k,x,j,n,o,t,e⟩=>⟨e.dm λi q=>h.lt (s i q),j▸r p k x b n o t e (h.trans e)⟩
def bR{b:I}(e:∀a∈c,a<m.size)(i:m.size<=b.size){d:Nat}(g:d<b.size):∀a∈d::c,a<b.size:=λa f=>by
 rcases List.mem_cons.1 f with h|h
 ·omega
 ·have:=e a h;omega
structure Y0(ds:List bB)(h:Nat)(v lo la:List Int)(b:Bk):Prop where
 aR:∀o∈lo,0<=o/\o<(v.length:Int)
 WJ:lo.length+5*b.w<=500
 WI:la.length+1000*b.w<=1000000
 vN:v.length+5*b.w<=1000000
 wb:WB ds h False v.length b
def VX(a:List bB)(d:List gC)(b:Bk):Prop:=∀(c:List Nat)(m:I),(∀e∈c,e<m.size)->∀(g r k t j e:O)(v i h:List Int),eD m g r a d->ap m k v->eI m t b.aA->ap m j i->ap m e h->Y0 a d.length v i h b->
 nk 254 [.agg #[O.v g,O.v r],O.v k,.agg #[O.v t,vi b.aV],O.v j,O.v e] m c λf=>WB a d.length True v.length f/\f.w+1050<=1100*b.w
structure YZ(ds:List bB)(h:Nat)(v fl lo la:List Int)(b:Bk):Prop where
 aR:∀o∈lo,0<=o/\o<(v.length:Int)
 fl3:fl.length<=3
 WJ:lo.length+3+5*b.w<=500
 WI:la.length+1000*b.w<=1000000
 vN:v.length+3+5*b.w<=1000000
 wb:WB ds h False (v.length+fl.length) b
def I6(hS:∀a∈c,a<m.size){aw L aX aL aF bo a7:O}{ds:List bB}{rs:List gC}{T Q lo la:List Int}{j:Bk}(hn:eD m aw L ds rs)(hv:ap m aX T)(hf:ap m aL Q)(hs:eI m aF j.aA)(w:ap m bo lo)(bf:ap m a7 la)
 (hp:YZ ds rs.length T Q lo la j)(ih:VX ds rs j):nk 320 [.agg #[O.v aw,O.v L],O.v aX,O.v aL,.agg #[O.v aF,vi j.aV],O.v bo,O.v a7] m c λt=>WB ds rs.length True (T.length+Q.length) t/\t.w<=1100*j.w:=by
 apply BW
 simp -zeta only[aD,aC]
 intro e r G
 obtain⟨z,v,s0,s1,s2⟩:=pX (a:=e) (b:=r) (c:=G) rfl rfl rfl
 clear_value G
 have b8:=hv.len;have bz:=hf.len;have bF:=w.len;have bV:=hp.fl3;have bT:=j.Gq;have bX:=hp.WJ;have b7:=hp.vN;have bW:=hp.WI
 refine(eG (S:=[]) D (hv.le (z.le.trans (zJ _))) (hf.le (z.le.trans (zJ _))) V).aI (J.aB G) v λaS _ ca gi h x3 _=>⟨_,rfl,?_⟩
 subst h
 refine(CV (S:=[]) D (hs.le (z.trans x3).le) _ V).aI x3 v λbL ul H hu b6 x4 N=>⟨_,rfl,?_⟩
 intro m5 m6
 have bj:ap H bL ul:=hu.le (bD _ _)
 have bs:J H m6:=(J.push H _).trans (J.push m5 _)
 have u6:=N.trans bs
 have s5:m5.size=H.size+1:=by simp[m5]
 have gm:GI c H m6 (.mk H.size 0 0 0) []:=(GI.nil c H).ext (J.push m5 _)
 have gd:GI c H m6 (.mk m5.size 0 0 0) []:=(GI.nil c m5).bY (λ_ u=>u) V
 clear_value m6
 have z4:=N.size
 refine wK (n:=lo.length) (bF▸w.fS) (λak i sd M=>J H M/\∃Z P,GI c H M i Z/\GI c H M sd P/\i.F≠sd.F/\(∀q∈Z,q∈lo)/\(∀q∈P,q∈lo)/\Z.length<=ak/\P.length<=ak) ⟨bs,[],[],gm,gd,bJ,D,D,ad _,ad _⟩ ?_
 rintro ak i sd m7 bt μ hk ⟨x7,Z,P,gm,gd,bg,a3,a2,cm,cd⟩ bn
 have u7:=N.trans x7
 have v7:=z.trans u7
 refine dit (λu=>?_) λu=>?_
 ·obtain⟨y,hy⟩:=ag (l:=lo) (k:=ak) V
  have E:=ar hy
  have C:∀M,J m7 M->jE (M.push (.cells (bG [.i y]) aE)) aE [.i 0] 8 i (.mk M.size 0 1 1) λR m'=>eE [r.size,e.size,m.size] (M.push (.cells (bG [.i y]) aE)) m'/\bt R sd (cW ((ak:Int)+1)) m'/\μ R sd (cW ((ak:Int)+1)) m'<μ i sd ak m7:=λM ac=>
   GI.Rf (gm.ext ac) (gd.ext ac) bg ((x7.trans ac).fz []) V λL m' B g' o f=>⟨J.oC ((u7.trans ac).aK _) (N.trans f.ext) v,bn V _ _ _ ⟨f.ext,_,_,B,g',o,oO a3 E,a2,bJ,V⟩⟩
  refine⟨V,V,y,(w.ext v7).E hy,?_⟩
  refine(dp (bj.ext x7) y).any.aI u7 v λa m8 p b=>⟨_,rfl,λ_=>⟨V,V,y,(w.ext (z.trans b)).E hy,C m8 p⟩,λ_=>⟨V,V,y,(w.ext (z.trans b)).E hy,?_⟩⟩
  refine(dp (bf.ext (z.trans b)) y).any.aI b v λa A U u9=>⟨_,rfl,λ_=>⟨V,V,y,(w.ext (z.trans u9)).E hy,C A (p.trans U)⟩,λ_=>⟨V,V,y,(w.ext (z.trans u9)).E hy,?_⟩⟩
  intro a8
  have ac:=p.trans U
  exact GI.Rf (gd.ext ac) (gm.ext ac) bg.symm ((x7.trans ac).fz []) V λL m' B g' o f=>⟨J.oC ((u7.trans ac).aK _) (N.trans f.ext) v,bn V _ _ _ ⟨f.ext,_,_,g',B,o.symm,a3,oO a2 E,V,bJ⟩⟩
 have cm:Z.length<=lo.length:=V
 have cd:P.length<=lo.length:=V
 intro m8
 have bZ:=gm.bg
 have bU:=gd.bg
 refine dU (n:=Q.length) (bz▸hf.fS) (λak s M=>J m7 M/\∃d,GI c m7 M s d/\(∀q∈d,0<=q/\q<((T.length+Q.length:Nat):Int))/\d.length<=ak) ⟨J.push _ _,[],GI.nil c m7,D,ad _⟩ ?_
 rintro bk su A I2 μ2 hj ⟨U,C,gu,ax,cu⟩ a_
 have u9:=u7.trans U
 have v9:=z.trans u9
 refine dit (λh2=>?_) λh2=>?_
 ·obtain⟨y,hy⟩:=ag (l:=Q) (k:=bk) V
  refine⟨V,V,y,(hf.ext v9).E hy,λ_=>?_,λ_=>a_ V _ _ ⟨U,C,gu,ax,V⟩⟩
  rw[aQ (b:=(aX.len:Int)+bk) V V]
  refine(dp ((bj.ext x7).ext U) _).any.aI u9 v λa a8 an aW=>⟨_,rfl,λ_=>?_,λ_=>a_ V _ _ ⟨U.trans an,C,gu.ext an,ax,V⟩⟩
  intro bl
  refine GI.kv (gu.ext an) ((U.trans an).fz []) (λa b=>aP (hS a b) (z.trans u7).size) V λL m' B f aq ab=>⟨J.oC ((u9.trans an).aK _) (u7.trans f.ext) v,a_ V _ _ ⟨f.ext,_,B,λq w=>?_,bJ⟩⟩
  rcases List.mem_append.1 w with w|w
  ·exact ax q w
  ·simp at w;omega
 have b5:=gu.bg
 have a1:=gm.ext U
 have bw:∀{M:I},J G M->∀a∈r.size::c,a<M.size:=λu=>bR hS (z.trans u).size (u.lt (v _ D))
 have aM:∀{M:I},J G M->i.F<M.size->∀a∈i.F::r.size::c,a<M.size:=λu X a b=>by
  rcases List.mem_cons.1 b with h|h
  ·omega
  ·exact bw u a h
 refine(eO (c:=i.F::r.size::c) (aM u9 a1.bg.2) 14 ((gu.done (S:=c) (λa b=>aP (hS a b) (z.trans u7).size) V).le (bD _ _)) V).aI u9 v λs1 _ a8 g1 h an aW=>⟨_,rfl,?_⟩
 subst h
 have a5:i.F<a8.size:=an.lt a1.bg.2
 refine(eO (c:=s1.F::i.F::r.size::c) (λa b=>?_) 15 ((((gd.done (S:=c) (λa b=>aP (hS a b) (z.trans N).size) V).le (bD _ _)).ext U).ext an) V).aI aW v λs2 _ bl g2 h aY bK=>⟨_,rfl,?_⟩
 ·rcases List.mem_cons.1 b with h|h
  ·have:=g1.bg;omega
  ·exact aM aW a5 a h
 subst h
 have bY:i.F<bl.size:=aY.lt a5
 have b1:=(g1.ext gH.mono aY).bg
 have e2:=g2.nE gH.mono (λb=>by
  have hy:=g2.bg;rcases List.mem_cons.1 b with h|h
  ·have:=g1.bg;omega
  ·have:=aM aW a5 _ h;omega) bh bJ
 refine GS.all (g1.ext gH.mono aY) ((an.trans aY).fz []) e2 bJ λE R g3 f3 z3 q3=>⟨J.oC bK (u9.trans f3.ext) v,?_⟩
 have ao:J A R:=f3.ext
 have aG:=u9.trans ao
 have cc:=z.trans aG
 have Lr:WL ds rs.length True (T.length+Q.length) (C.map (eQ 14)++P.map (eQ 15)):=by
  refine(rI V ax).append ?_;rw[jO V];refine rI V λq w=>?_;have:=hp.aR q (a2 q w);omega
 have bq:dc (C.map (eQ 14)++P.map (eQ 15))=0:=by rw[cT,jO V,jO V]
 have cb:sw (C.map (eQ 14)++P.map (eQ 15))<=1006:=by rw[dy,oh,oh];omega
 have bd:GI c H R i Z:=(gm.ext U).ext ao
 have bE:E.F≠i.F:=g3.Kp bd bh
 have aJ:∀{M o:I},J G M->J G o->∀j∈[r.size,e.size,m.size],∀q,af o j q=af M j q:=λu h' j X q=>aN (by rw[h'.same j (v j X),u.same j (v j X)]) q
 have E4:∀{M o:I},J G M->J G o->∀{az:Prop},az->af o e.size 0=af M e.size 0/\af o e.size 1=af M e.size 1/\af o m.size 0=af M m.size 0/\af o m.size 1=af M m.size 1/\az:=λu h' _ hp=>⟨aJ u h' _ D _,aJ u h' _ D _,aJ u h' _ D _,aJ u h' _ D _,hp⟩
 have F4:∀{M:I},Fz [i.F] A M->J H M:=λu=>Fz.ext ((((x7.trans U).fz [i.F]).trans u).CY λj X=>Or.inr (by simp at X;omega))
 have b4:i.F<A.size:=a1.bg.2
 have z3:=x3.size
 have tail:∀(M:I)(p:Nat)(ss:O)(t:Bk),GS (p::i.F::r.size::c) A M E (C.map (eQ 14)++P.map (eQ 15))->Fz [i.F] A M->A.size<=p->p<M.size->p≠E.F->eI (bO (p::E.F::i.F::r.size::c) M) ss t.aA->WB ds rs.length True (T.length+Q.length) t/\t.w+1050<=1100*j.w->
  let W:I:=ai M p 0 [.s ss,.i t.aV]
  jE W fQ [.i 0,.i 0,.i 0,.s .nil,.s .nil] 72 E ss λaB M2=>eE [p,r.size,e.size,m.size] W M2/\af M2 p 1=af W p 1/\
   let M3:I:=ai M2 r.size 0 [.s aB,.i t.aV]
   ∃s ae,Value.agg #[O.v aB,vi t.aV]=.agg #[O.v s,vi ae.aV]/\eI (bO c M3) s ae.aA/\(WB ds rs.length True (T.length+Q.length) ae/\ae.w<=1100*j.w)/\J m M3:=by
  intro M p ss t B ah bx bQ bi ay a6 W
  have ce:W.size=M.size:=av _ _ _ _
  have hy:=B.bg
  have bH:eI (bO (E.F::i.F::r.size::c) W) ss t.aA:=ay.le (cz D λa b=>aj _ b)
  have bS:=Bk.mf t
  have b2:=fO t.aA
  have hF:=F4 ah
  have zF:=hF.size
  have z9:=ah.size
  have g1:GS (i.F::r.size::c) A W E _:=B.re gH.mono (Y:=[p]) ((Fz.aB [p] M).ai (Or.inl D) _ _) D (by simpa using kd bi) λa b=>Or.inl (aj _ b)
  have f1:Fz [i.F] A W:=ah.ai (Or.inr bx) _ _
  have hw:=a6.2
  refine GS.all g1 f1 bH bJ λL M2 g2 f aq ab=>⟨λa b=>?_,aN (ab p V bi) _,?_⟩
  ·simp at b
   refine ab a ?_ ?_<;>rcases b with rfl|rfl|rfl|rfl<;>omega
  intro M3
  have bM:J m M2:=Fz.ext (((v9.fz [i.F]).trans f).CY λj X=>Or.inr (by simp at X;omega))
  have b9:=g2.bg
  have h5:=g2.nE gH.mono (λb=>by
   rcases List.mem_cons.1 b with h|h
   ·omega
   ·rcases List.mem_cons.1 h with h|h
    ·omega
    ·have:=hS _ h;omega) bh bJ
  refine⟨L,.mk _ t.aV,rfl,eI.le (cz D λa b=>aj _ (aj _ b)) h5,⟨WB.of (Lr.append ?_) ?_,?_⟩,bM.ai V _ _⟩
  ·rw[bq];exact a6.1.aW.1
  ·rw[cT,bq,cC];exact a6.1.aW.2
  ·rw[Bk.qA,dy];omega
 have aR:∀(M:I)(g:List Nat)(K:O->I->Prop),J R M->GS g A M E (C.map (eQ 14)++P.map (eQ 15))->i.F∈g->(∀L o,GI c H o L (Z++C)->GS g A o E (C.map (eQ 14)++P.map (eQ 15))->Fz [i.F] A o->M.size<=o.size->(∀j,j<M.size->j≠i.F->o[j]? =M[j]?)->K L o)->jE M aE [.i 0] 8 i su K:=by
  intro M g K hx B bC hK;have bI:ap (bO (i.F::c) M) su C:=by
   refine ap.le ((ao.trans hx).da _) (Gr.nE (S:=i.F::c) tI.mono gu.any (λb=>?_) bh V);rcases List.mem_cons.1 b with h|h
   ·omega
   ·have:=hS _ h;have:=z.size;omega
  refine GI.all (bd.ext hx) ((((x7.trans U).trans ao).trans hx).fz []) (λa b=>aP (hS a b) (z.trans N).size) bI V λL o g' f aq ab=>hK L o g' ?_ ?_ aq.1 ab
  ·exact B.MB gH.mono (Y:=[i.F]) ⟨aq.1,λj X hn=>ab j X (by simpa using hn)⟩ (by simpa using bC) (by simpa using bE)
  ·exact(((ao.trans hx).fz [i.F]).trans ⟨aq.1,λj X hn=>ab j X (by simpa using hn)⟩)
 have F:∀(M:I)(g:List Nat)(mn al:O)(y:List Int),(∀a∈g,a<M.size)->Fz [i.F] A M->ap M mn (Z++C)->ap M al y->pb la y->nk 254 [.agg #[O.v aw,O.v L],O.v aS,.agg #[O.v aF,vi j.aV],O.v mn,O.v al] M g λt=>WB ds rs.length True (T.length+Q.length) t/\t.w+1050<=1100*j.w:=by
  intro M g mn al y bv ah h1 h2 h3;have hF:=F4 ah;have hm:=(z.trans N).trans hF;have bA:ap M aS (T++Q):=(((gi.done D bJ).le (bD _ _)).ext x4).ext hF;have:=ih g M bv aw L aS aF mn al (T++Q) (Z++C) y (hn.le hm.le) bA (hs.le hm.le) h1 h2 ⟨λq w=>?_,bJ,by have:=h3.2;omega,bJ,by simpa using hp.wb⟩
  ·simpa using this
  ·simp;rcases List.mem_append.1 w with w|w
   ·have:=hp.aR q (a3 q w);omega
   ·have:=ax q w;omega
 have b_:=ao.size
 have b3:i.F<R.size:=V
 have b0:E.F<R.size:=g3.bg.2
 have be:∀{M:I},J G M->R.size<=M.size->∀a∈E.F::i.F::r.size::c,a<M.size:=λu hz a b=>by
  rcases List.mem_cons.1 b with h|h
  ·omega
  ·exact aM u V a h
 have ic:∀(M:I)(p:Nat)(mn al:O)(y:List Int),GS (p::i.F::r.size::c) A M E (C.map (eQ 14)++P.map (eQ 15))->Fz [i.F] A M->R.size<=p->p<M.size->ap M mn (Z++C)->ap M al y->pb la y->
  aO cw 254 [.agg #[O.v aw,O.v L],O.v aS,.agg #[O.v aF,vi j.aV],O.v mn,O.v al] M λrv o=>eE [p,r.size,e.size,m.size] M o/\∃ba:O,∃aV:Int,rv=.agg #[O.v ba,vi aV]/\
   let W:I:=ai o p 0 [.s ba,.i aV]
   jE W fQ [.i 0,.i 0,.i 0,.s .nil,.s .nil] 72 E ba λaB M2=>eE [p,r.size,e.size,m.size] W M2/\af M2 p 1=af W p 1/\
    let M3:I:=ai M2 r.size 0 [.s aB,.i aV]
    ∃s ae,Value.agg #[O.v aB,vi aV]=.agg #[O.v s,vi ae.aV]/\eI (bO c M3) s ae.aA/\(WB ds rs.length True (T.length+Q.length) ae/\ae.w<=1100*j.w)/\J m M3:=by
  intro M p mn al y B ah h1 h2 h3 h4 h5
  have hM:J G M:=N.trans (F4 ah)
  refine(F M (p::E.F::i.F::r.size::c) mn al y (λa b=>?_) ah h3 h4 h5).aI (J.aB M) (λa b=>?_) λss t o ay hq hx _=>⟨_,_,rfl,?_⟩
  ·rcases List.mem_cons.1 b with h|h
   ·omega
   ·exact be hM V a h
  ·rcases List.mem_cons.1 b with h|h
   ·omega
   ·exact hM.lt (v a h)
  ·exact tail o p ss t (B.ext gH.mono hx) (ah.then hx) V (hx.lt h2) V ay hq
 have aU:∀(M:I)(q:Obj),GS (i.F::r.size::c) A M E (C.map (eQ 14)++P.map (eQ 15))->GS (M.size::i.F::r.size::c) A (M.push q) E (C.map (eQ 14)++P.map (eQ 15)):=λM q B=>
  B.re gH.mono (Y:=[]) ((J.push M q).fz []) D D λa b=>by
   rcases List.mem_cons.1 b with h|h
   ·exact Or.inr V
   ·exact Or.inl h
 have bP:Fz [i.F] A R:=ao.fz _
 have a0:∀(M:I)(aZ:List Nat)(K:Value->I->Prop),J G M->(∀a∈aZ,a<M.size)->(∀s y o,ap o s y->pb la y->J M o->K (O.v s) o)->aO cw 335 [O.v a7,vi (aX.len:Int)] M λT m'=>eE aZ M m'/\K T m':=λM aZ K hM hL hK=>
  (NO (S:=[]) D (bf.le ((z.trans hM).le.trans (zJ _))) _ V).aI (J.aB M) hL λs y o B az ac _=>hK s y o ((B.done D (by have:=az.2;omega)).le (bD _ _)) az ac
 have aK:∀{M:I}{s:O},GI c H M s (Z++C)->ap M s (Z++C):=λB=>(B.done (λa b=>aP (hS a b) (z.trans N).size) bJ).le (bD _ _)
 have a4:∀{M:I}{p:Nat},J G M->p<M.size->∀a∈[p,r.size,e.size,m.size],a<M.size:=λu X a b=>by
  rcases List.mem_cons.1 b with h|h
  ·omega
  ·exact u.lt (v a h)
 refine⟨aR R _ _ (J.aB _) g3 D λaA aT ga gs fz aq ab=>⟨λa b=>ab a (aG.lt (v a b)) (by have:=v a b;omega),E4 aG (N.trans (F4 fz)) ⟨?_,?_⟩⟩,?_⟩
 ·have am:=N.trans (F4 fz)
  refine a0 aT _ _ am (λa b=>am.lt (v a b)) λau y aI bc bp aa=>⟨_,rfl,E4 am (am.trans aa) ⟨?_,?_⟩⟩
  ·have aH:=am.trans aa
   have bN:=aa.size
   refine(F aI (E.F::i.F::r.size::c) aA au y (be aH V) (fz.then aa) ((aK ga).ext aa) bc bp).aI aH v λss t a9 ay hq bb br=>⟨_,_,rfl,?_⟩
   intro bm
   have cf:=bb.size
   have bu:=(fz.then aa).then bb
   exact E4 br (br.aK _) (tail bm a9.size ss t (aU a9 _ ((gs.ext gH.mono aa).ext gH.mono bb)) (bu.push _) V (by simp[bm]) V (ay.le (sU (J.push a9 _) (ad _))) hq)
  ·intro a9
   have bN:=aa.size
   have aH:=am.trans aa
   exact E4 aH (aH.aK _) (ic a9 aI.size aA au y (aU aI _ (gs.ext gH.mono aa)) ((fz.then aa).push _) V (by simp[a9]) (((aK ga).ext aa).ext (J.push _ _)) (bc.ext (J.push _ _)) bp)
 ·intro aa
  have am:=N.trans (F4 fz)
  have aH:J G aa:=am.aK _
  have a9:J aT aa:=J.push _ _
  refine E4 am aH (a0 aa _ _ aH (a4 aH (by simp[aa])) λau y bc bb bm aI=>⟨_,rfl,E4 aH (aH.trans aI) ?_⟩)
  exact ic bc aT.size aA au y ((aU aT _ gs).ext gH.mono aI) ((fz.then a9).then aI) V (aI.lt (by simp[aa])) (((aK ga).ext a9).ext aI) bb bm
 ·intro aa
  have aI:J G aa:=aG.aK _
  have bp:J R aa:=J.push _ _
  refine E4 aG aI (aR aa _ _ bp (aU R _ g3) D λaA bb ga gs fz aq ab=>⟨λa b=>ab a (a4 aI (by simp[aa]) a b) ?_,E4 aI (N.trans (F4 fz)) ?_⟩)
  ·rcases List.mem_cons.1 b with h|h
   ·omega
   ·have:=v a h;omega
  have aH:=N.trans (F4 fz)
  have br:aa.size=R.size+1:=by simp[aa]
  refine a0 bb _ _ aH (a4 aH V) λau y bc a9 bm am=>⟨_,rfl,E4 aH (aH.trans am) ?_⟩
  exact ic bc R.size aA au y (gs.ext gH.mono am) (fz.then am) (ad _) (am.lt V) ((aK ga).ext am) a9 bm
end
section
variable{c m:I}{k i g a:Nat}{s:O}{d:List Nat}{e:List Int}{x:cR}{f:List gC}
def U7{a b:I}(h:J a c)(f:Fz [k] c b)(g:a.size<=k):J a b:=Fz.ext (((h.fz [k]).trans f).CY λe d=>Or.inr (by simp at d;omega))
def _root_.Go.Vc.Fz.Nw{M b:I}(f:Fz [k] c M)(h:s.F=k\/c.size<=s.F)(g:M.size<=b.size)(q:∀a,a<M.size->a≠s.F->b[a]? =M[a]?):Fz [k] c b:=
 f.rS ⟨g,λa d e=>q a d (by simpa using e)⟩ (Y:=[s.F]) (λy d=>by simp at d⊢;omega)
def GI.Ze{X:List Nat}{b:I}{x:O}{f:List Int}{K:O->I->Prop}(h:GI d b m s e)(k:Fz X b m)(n:ap m x f)(p:e.length+f.length<=1000000000000)
 (l:∀r a,GI d b a r (e++f)->Fz X b a->(m.size<=a.size/\(r.F=s.F\/m.size<=r.F))->(∀c,c<m.size->c≠s.F->a[c]? =m[c]?)->K r a):jE m aE [.i 0] 8 s x K:=by
 obtain⟨o,g,i,j⟩:=n.Vi (b:=1) λ_ _ h=>by rw[h];rfl
 exact Gr.next (g:=[.i 0]) tI.mono bh h k g i j V l
def bP(d:List Nat){b:O}(h:ap m b e)(c:e.length<=1000000000000):kT 57 [O.v b] m d (e=·):=by
 apply ns;intro i;have a:J m i:=J.push m _;exact GI.Ze (e:=[]) (X:=[]) (GI.nil d m) (a.fz []) (h.ext a) (by simpa using c) λr j g f _ _=>⟨r,e,rfl,by simpa using g,rfl,f.ext⟩
abbrev GB(d:List Nat)(a m:I)(s:O)(e:List Bk):Prop:=Gr d a m de 2 rC s e
def GB.new(d:List Nat)(m:I):GB d m (m.push (.cells (bG []) de)) (.mk m.size 0 0 0) []:=Gr.new d (ad _) _ _ _
def GB.kv{d X:List Nat}{g m:I}{s a:O}{e:List Bk}{c:Bk}{K:O->I->Prop}(h:GB d g m s e)(k:Fz X g m)(j:eI (bO (s.F::d) m) a c.aA)(l:e.length<=1000000000000)
 (i:∀r b,GB d g b r (e++[c])->Fz X g b->m.size<=b.size/\(r.F=s.F\/m.size<=r.F)->(∀f,f<m.size->f≠s.F->b[f]? =m[f]?)->K r b):
 jE (m.push (.cells (bG [.s a,.i c.aV]) de)) de [.s .nil,.i 0] 32 s (.mk m.size 0 1 1) K:=
 Gr.kv (g:=[.s .nil,.i 0]) rC.mono bh h k (by cases c;exact rC.of j) V i
def JU{a:List bB}{b bN:Int}{y:Int}(h:b=8)(c:(cq a bN)[i]? =some y):Be a b bN i=(cD a y).length:=by unfold Be;rw[ao h,c];rfl
def JV{b:List bB}{a bN:Int}(h:a≠8):Be b a bN i=0:=by unfold Be;rw[ae h]
def _root_.Go.Vc.WS.OY{b:List bB}{f d:Prop}(h:WS b g f a x)(j:f->d){bW:Int}(l:0<=bW/\bW<=(a:Int)){bE:List Bk}(i:bE.length=x.bE.length)(m:∀(k:Nat)(c:Bk),bE[k]? =some c->WB b g d (a+Be b x.op x.bN k) c):WS b g d a ⟨x.op,x.bN,bW,x.args,bE⟩:=
 ⟨⟨h.eR.op.imp id λh=>⟨j h.1,h.2⟩,h.eR.args,h.eR.kK,l,λe=>i.trans (h.eR.JA e),λe=>i▸h.eR.all e,h.eR.call⟩,m⟩
def Hx(hS:∀g∈d,g<m.size){aa X ah a k af ae:O}{t:List bB}{H lo la:List Int}(F:eD m aa X t f)(hv:ap m ah H)(ha:ap m a x.args)(U:nD m k x.bE)(ho:ap m af lo)(aH:ap m ae la)
 (aI:∀o∈lo,0<=o/\o<(H.length:Int))(WJ:lo.length+5*x.w<=500)(WI:la.length+1000*x.w<=1000000)(vN:H.length+5*x.w<=1000000)(ac:WS t f.length False H.length x)(ih:∀c∈x.bE,VX t f c):
 JN 291 [.agg #[O.v aa,O.v X],O.v ah,oW x a k,O.v af,O.v ae] m d λz=>WS t f.length True H.length z/\z.op=x.op/\z.w<=1+x.args.length+1100*bw x.bE:=by
 apply Ah
 simp -zeta only[aD,aC]
 intro m0 p q an
 obtain⟨r,v,s0,s1,s2⟩:=pX (a:=m0) (b:=p) (c:=q) rfl rfl rfl
 have av:J q an:=J.push _ _
 have gk:=GB.new (p.size::d) q
 clear_value q
 have aM:=ha.len;have aE:=U.len;have hw:=cR.mf x;have aS:=JX x.bE
 refine(gU (e:=[q.size]) (by simp[an]) (F.le (r.trans av).le).aT F.types x.bN).aI av v λg cl m4 u G x4 u4=>⟨_,rfl,?_⟩
 subst G
 have aT:=u.len
 refine dU (n:=x.bE.length) (aE▸U.fS) (λj s M=>Fz [q.size] m4 M/\(s.F=q.size\/m4.size<=s.F)/\∃e,GB (p.size::d) q M s e/\e.length=j/\(∀(i:Nat)(c:Bk),e[i]? =some c->WB t f.length True (H.length+Be t x.op x.bN i) c)/\bw e<=1100*bw (x.bE.take j)) ⟨Fz.aB _ _,Or.inl rfl,[],gk.ext rC.mono x4,rfl,D,D⟩ ?_
 rintro j s W az μ hj ⟨Q,aJ,e,T,aV,al,aB⟩ aL
 have h:=U7 u4 Q (ad _)
 have hy:=T.bg
 refine dit (λA=>?_) λA=>?_
 ·intro m6
  have o:J W m6:=J.push _ _
  obtain⟨c,E⟩:=ag (l:=x.bE) (k:=j) V
  have aQ:=wH E
  have aR:=ue E
  have aA:∀{M:I},J W M->∀g∈s.F::p.size::d,g<M.size:=λA=>bR (bR hS r.size (v _ D)) (h.trans A).size (by have:=A.size;omega)
  have ic:∀(M:I)(K:O)(R:List Int)(y:O),J W M->ap M K R->R.length=Be t x.op x.bN j->eI M y c.aA->
   aO cw 320 [.agg #[O.v aa,O.v X],O.v ah,O.v K,.agg #[O.v y,vi c.aV],O.v af,O.v ae] M λrv N=>eE [p.size,m0.size,m.size] M N/\∃aq:O,∃au:Int,rv=.agg #[O.v aq,vi au]/\
    let M1:I:=N.push (.cells (bG [.s aq,.i au]) de)
    jE M1 de [.s O.nil,.i (0:Int)] 32 s (O.mk N.size 0 1 1) λao P=>eE [p.size,m0.size,m.size] M1 P/\az ao (cW ((j:Int)+(1:Int))) P/\μ ao (cW ((j:Int)+(1:Int))) P<μ s j W:=by
   intro M K R y C hf ai L
   have Z:=r.trans (h.trans C)
   have b3:=PQ F.types x.op x.bN j
   refine(I6 (c:=s.F::p.size::d) (aA C) (F.le Z.le) (hv.ext Z) hf L (ho.ext Z) (aH.ext Z) ⟨aI,V,V,V,V,ai▸ac.bE j c E⟩ (ih c (ar E))).aI (h.trans C) v λss b' N aK G z u'=>⟨_,_,rfl,?_⟩
   refine GB.kv (c:=b') (T.ext rC.mono (C.trans z)) (u'.fz []) aK (by have:=pY x.bE;omega) λX P g2 f2 z2 q2=>⟨J.oC (u'.aK _) f2.ext v,aL V _ _ ⟨(Q.then (C.trans z)).Nw aJ z2.1 q2,?_,_,g2,bJ,λi b2 w=>?_,?_⟩⟩
   ·have B:=(Q.then (C.trans z)).size
    rcases z2.2 with ab|ab<;>omega
   ·rcases be i e.length with B|B
    ·rw[aw B]at w;exact al i b2 w
    ·rw[aG B]at w
     have:i -e.length=0:=by have:=ax w;simp at this;omega
     rw[this]at w;simp at w;subst w
     have:i=j:=V
     subst this
     rw[<-ai];exact G.1
   ·rw[oL,ud,zk]
    have:=G.2;omega
  refine⟨λB=>?_,λB=>?_⟩
  ·simp only[aF]at B
   have aU:=(ac.eR.all B).1
   obtain⟨ay,am⟩:=ag (l:=cq t x.bN) (k:=j) V
   refine⟨V,V,ay,(eg.1 ((u.le ((Q.then o).da D)).E am)).2,?_⟩
   have Y:=h.trans o
   refine(dH (e:=[]) D ((F.le (r.trans Y).le).aT.le (zJ _)) F.types ay).aI Y v λK R m7 hf G x7 u7=>⟨_,rfl,?_⟩
   subst G
   obtain⟨y,L,e0,e1⟩:=(U.le (r.trans u7).le).E E
   exact⟨V,V,_,e0,_,e1,ic m7 K _ y (o.trans x7) (hf.le (bD _ _)) (JU B am).symm L⟩
  ·simp only[ak]at B
   obtain⟨y,L,e0,e1⟩:=(U.le (r.trans (h.trans o)).le).E E
   exact⟨V,V,_,e0,_,e1,ic m6 _ [] y o (my _ _ _ _ _ _) (JV B).symm L⟩
 ·have B:e.length=x.bE.length:=V
  rw[cN V]at aB
  refine(bP (p.size::d) (ha.ext (r.trans h)) V).aI h v λC K m6 y ab o Y=>⟨_,rfl,aN (o.same _ (h.lt (v _ D))) _,aN (o.same _ (h.lt (v _ D))) _,?_⟩
  subst ab
  intro m7
  have E:=(T.ext rC.mono o).bg
  have w:∀g∈p.size::d,g<q.size:=bR hS r.size V
  refine⟨C,s,⟨x.op,x.bN,0,x.args,e⟩,rfl,?_,?_,⟨ac.OY (λA=>A.elim) ⟨V,V⟩ B al,rfl,?_⟩,(r.trans Y).ai V _ _⟩
  ·exact(y.done (λg u=>aP (w g u) h.size) V).le (cz D λg u=>aj _ u)
  ·exact nD.le (cz D λg u=>aj _ u) ((T.ext rC.mono o).done rC.mono w bh (by have:=pY x.bE;show e.length<=_;omega))
  ·rw[cR.mf]
   simp only
   omega
def _root_.Go.Vc.QS{σ τ ρ:Type}{n:Nat}(v:n<=9223372036854775807){l:σ}{o:τ}{j:ρ}{h:(σ->τ->ρ->Int->I->Prop)->(σ->τ->ρ->Int->I->Nat)->σ->τ->ρ->Int->I->Prop}(Q:Nat->σ->τ->ρ->I->Prop)(q:Q 0 l o j m)
 (p:∀(k:Nat)(s:σ)(t:τ)(r:ρ)(a:I)(b:σ->τ->ρ->Int->I->Prop)(μ:σ->τ->ρ->Int->I->Nat),k<=n->Q k s t r a->
  (k<n->∀e f d c,Q (k+1) e f d c->b e f d (cW ((k:Int)+1)) c/\μ e f d (cW ((k:Int)+1)) c<μ s t r k a)->h b μ s t r k a):
 ∃(b:σ->τ->ρ->Int->I->Prop)(μ:σ->τ->ρ->Int->I->Nat),b l o j 0 m/\∀s t r i a,b s t r i a->h b μ s t r i a:=by
 refine⟨λs t r i c=>∃k:Nat,i=k/\k<=n/\Q k s t r c,λ_ _ _ i _=>(n -i).toNat,⟨0,rfl,eJ _,q⟩,?_⟩
 rintro s t r i a ⟨k,rfl,u,w⟩
 refine p k s t r a _ _ u w λg e f d c x=>?_
 rw[ka g v]
 exact⟨⟨k+1,rfl,g,x⟩,Fp g⟩
structure CB(ds:List bB)(g:Nat)(d:List Nat)(m2 M:I)(v lo:List Int)(aA:List cR)(k:Nat)(st inn mn:O):Prop where
 x:J m2 M
 hs:∃e,GS (inn.F::mn.F::d) m2 M st e/\WL ds g True v.length e/\dc e=dc (aA.take k)/\sw e<=1100*sw (aA.take k)
 hi:∃e,GI d m2 M inn e/\e.length=v.length+dc (aA.take k)
 hm:∃e,GI d m2 M mn e/\e.length<=lo.length+k/\∀o∈e,0<=o/\o<((v.length+dc (aA.take k):Nat):Int)
 ne:inn.F≠mn.F
def Zu{b:List bB}(h:WS b g False a x):dn x=1:=ao (h.eR.op.resolve_right λh=>h.1)
def FG{X:List bB}:∀c:Bk,VX X f c:=by
 refine Bk.ind ?_;intro aA w ih d m hS b_ c2 dT c4 dO c8 al lo la hn hv hs B bM hp;have bg:=hp.wb.aW;have hw:=Bk.qA aA w;simp only[Bk.jN,Bk.jd]at*;have WJ:=hp.WJ;have WI:=hp.WI;have vN:=hp.vN;rw[hw]at WJ WI vN;apply yD;simp -zeta only[aD,aC];intro m0 p r aK;obtain⟨G,Q,s0,s1,s2⟩:=pX (a:=m0) (b:=p) (c:=r) rfl rfl rfl;have bp:J r aK:=J.push _ _;have bI:∀ao,GS ao r aK (.mk r.size 0 0 0) []:=λao=>GS.new ao r;have s3:aK.size=r.size+1:=by simp[aK]
 clear_value aK;clear_value r;have bS:=hs.len;have cM:=AZ aA;have dw:=fO aA;refine(bP d (hv.ext (G.trans bp)) V).aI bp Q λo _ m4 H q x4 u4=>⟨_,rfl,?_⟩;subst q;refine(bP d (B.ext (G.trans u4)) V).aI u4 Q λv _ m5 Z q x5 u5=>⟨_,rfl,?_⟩;subst q;have bT:=H.bg;have bU:=Z.bg;refine QS (n:=aA.length) (bS▸hs.fS) (λk A o v g=>CB X f.length (p.size::d) r g al lo aA k A o v) ⟨u5,⟨[],((bI _).ext gH.mono x4).ext gH.mono x5,WL.nil _ _ _ _,rfl,D⟩,⟨al,((H.ext x5).bY (λ_ h=>h) bp.size).any,D⟩,⟨lo,(Z.bY (λ_ h=>h) u4.size).any,V,by simpa using hp.aR⟩,V⟩ ?_;clear H Z bT bU bI;rintro k A o v C br μ hk ⟨x6,⟨U,gs,aY,aa,dx⟩,⟨li,H,aV⟩,⟨lm,Z,de,bN⟩,dr⟩ a4
 have v6:=G.trans x6;have di:=H.len bh;have dg:=sP (aA.take k);have dm:=qC k aA;have P:∀j∈p.size::d,j<r.size:=bR hS G.size (Q _ D);have cy:ap C o li:=(H.done P V).le (bD _ _);have cB:ap C v lm:=(Z.done P V).le (bD _ _);have dJ:=gs.bg;have bT:=H.bg;have bU:=Z.bg;have cL:=fO (aA.take k);have dj:k<=sw (aA.take k):=by rw[fY]at cL;omega
 refine dit (λh=>?_) λh=>?_
 ·obtain⟨x,t⟩:=ag (l:=aA) (k:=k) V;obtain⟨a,kk,ha,bL,g0,g1,g2,g3,g4⟩:=hs.E t;refine⟨V,V,_,v6.af g0,_,v6.af g1,_,v6.af g2,_,v6.af g3,_,v6.af g4,?_⟩;intro m7 E;have x8:J C E:=(J.push C _).ai (ad _) _ _;have s8:E.size=C.size+1:=by simp[E,m7,av]
  clear_value E;have W:=x6.trans x8;have z6:=x6.size;have u:∀{g:I},E.size<=g.size->∀c∈[C.size,p.size,m0.size,m.size],c<g.size:=λh c hb=>by
   rcases List.mem_cons.1 hb with q|q
   ·omega
   ·have:=W.lt (Q c q);omega
  have dD:=pN t;have dB:=qF t;have dC:=cR.mf x;have ah:WS X f.length False li.length x:=by rw[aV];exact bg.1 k x t
  have bK:=Zu ah;have dz:=cM (k+1);have df:=pY x.bE;have dq:=fO U;have af:∀{g:I},J r g->At g b_ c2 a kk X f x:=λh=>⟨hn.le (G.trans h).le,ha.ext (G.trans h),ah.eR.call⟩;have aX:∀{g:I},GI (p.size::d) r g o li->ap g o li:=λy=>(y.done P V).le (bD _ _);have be:∀{g:I},GI (p.size::d) r g v lm->ap g v lm:=λy=>(y.done P V).le (bD _ _);have aq:∀{g:I}{ao:List Nat},E.size<=g.size->(∀j∈ao,j<g.size)->∀j∈ao++p.size::d,j<g.size:=λh hb j b=>by
   rcases List.mem_append.1 b with h|h
   ·exact hb j h
   ·have:=P j h;omega
  refine(nW (af W).Qh (aX (H.ext x8)) (af W).args (bL.le (G.trans W).le) V λc _=>na c).aI (J.aB E) (u (ad _)) λty m9 x9 _=>⟨_,rfl,?_⟩;intro a0;have b2:J E a0:=x9.aK _;have e0:ap (bO [] a0) (.mk m9.size 0 0 0) []:=my _ _ _ _ _ _;clear_value a0;rw[ka (k:=k) (n:=aA.length) V (bS▸hs.fS)]at a4⊢
  refine(zW (.mk aA w) [] a0 D c4 _ _ _ (k+1) (hs.le (G.trans (W.trans b2)).le) e0 (by simp only[Bk.jN];omega) (by simp only[Bk.qA,dY];omega)).aI b2 (u (ad _)) λus ul cQ hu cN dV bo=>⟨_,rfl,?_⟩;rw[Bk.qA,dY]at cN;refine(NU (S:=[]) D hu ((bM.ext (G.trans (W.trans bo))).le (zJ _)) V).aI bo (u (ad _)) λlt ll cS bb bY c5 ax=>⟨_,rfl,?_⟩;have aJ:∀{g:I},GI [] cQ g lt ll->ap g lt ll:=λy=>(y.done D (by have:=bY.2;omega)).le (bD _ _);have bs:=W.trans ax;have bx:=H.ext (x8.trans ax);have bF:=Z.ext (x8.trans ax);have cs:=gs.ext gH.mono (x8.trans ax);refine(FI (b:=[]) D (af bs) (aX bx) ah.eR.args (be bF) (aJ bb) V).aI (J.aB cS) (u ax.size) λdu dl cV cm bZ ay _=>⟨_,rfl,?_⟩;have c9:=bZ.2;have dX:=ax.size;have dZ:=ay.size;have dW:=bo.size;have ec:=c5.size;refine(eO (c:=[A.F,o.F,v.F]++p.size::d) (aq V bJ) 14 ((cm.done D V).le (bD _ _)) V).aI (J.aB cV) (u V) λdQ _ a1 ch q az _=>⟨_,rfl,?_⟩;subst q;have b6:=(bs.trans ay).trans az;have d0:=az.size;refine GS.all (cs.ext gH.mono (ay.trans az)) (b6.fz []) (ch.done gH.mono (aq (ao:=[A.F,o.F,v.F]) V bJ) bh bJ) bJ λbn bV bv ca b3 a6=>⟨λj b=>a6 j (u V j b) ?_,?_⟩
  ·simp at b;omega
  have aT:J r bV:=ca.ext;have cA:o.F<a1.size:=V;have cC:v.F<a1.size:=V;have cD:A.F≠o.F:=gs.Kp H bh;have cE:A.F≠v.F:=gs.Kp Z bh;have dk:=bb.bg;have bz:=(bx.ext (ay.trans az)).jf (a6 _ cA cD.symm);have bH:=(bF.ext (ay.trans az)).jf (a6 _ cC cE.symm);have bE:=(bb.ext (ay.trans az)).jf (a6 _ V V);have ds:bn.F=A.F\/a1.size<=bn.F:=b3.2;have dF:=bv.bg;have d3:=b3.1;refine(Hx (d:=[bn.F,o.F,v.F]++p.size::d) (aq V bJ) (af aT).Qh (aX bz) (af aT).args (bL.le (G.trans aT).le) (be bH) (aJ bE) (by rw[aV];exact bN) V (by have:=bY.2;omega) V ah (ih x (ar t))).aI (J.aB bV) (u V) λdb dd x' bW ct cu c1 aB _=>⟨_,_,_,_,_,rfl,?_⟩;obtain⟨cO,cK,dA⟩:=c1;have b7:=aT.trans aB;have d4:=aB.size;refine GS.kv (x:=x') (bv.ext gH.mono aB) (b7.fz []) ct cu bJ λaM bi bw cb b4 a7=>⟨λj b=>?_,?_⟩
  ·have:=u (g:=bW) V j b;rw[a7 j this (by simp at b;omega),(J.push bW _).same j this]
  have a9:J r bi:=cb.ext;have bA:=(bz.ext aB).jf (a7 _ V V);have cr:=(bH.ext aB).jf (a7 _ V V);have ba:=(bE.ext aB).jf (a7 _ V V);have dt:aM.F=A.F\/a1.size<=aM.F:=by have:=b4.2;omega
  have d5:=b4.1;refine(HA (b:=[]) D (af a9) (aX bA) ah.eR.args (be cr) (aJ ba) V).aI (J.aB bi) (u V) λaw lf cW gf bl aE _=>⟨_,rfl,?_⟩;have bt:=a9.trans aE;have d6:=aE.size;have cx:∀{g:I},GI [] bi g aw lf->ap g aw lf:=λy=>(y.done D (by have:=bl.2;omega)).le (bD _ _);refine(HB (b:=[]) D (af bt) (cx gf) (aJ (ba.ext aE)) V).aI (J.aB cW) (u V) λc3 T cX gd b0 aF _=>⟨_,rfl,?_⟩;have d7:=aF.size;have da:=b0.2;have c_:=bl.2;have dI:=gf.bg;have dH:=gd.bg;have dG:=bw.bg;refine(eO (c:=[aM.F,aw.F,o.F]++p.size::d) (aq V bJ) 15 ((gd.done D V).le (bD _ _)) V).aI (J.aB cX) (u V) λdR _ cY cj q am _=>⟨_,rfl,?_⟩;subst q;have b8:=(bt.trans aF).trans am;have d8:=am.size;have ci:GS ([aw.F,o.F]++p.size::d) r cY aM _:=bw.re gH.mono (Y:=[]) (((aE.trans aF).trans am).fz []) D D λj b=>by
   simp only[cU,dS,aU]at b⊢;rcases b with h|h|h
   ·exact Or.inr V
   ·exact Or.inl (Or.inl h)
   ·exact Or.inl (Or.inr (Or.inr h))
  refine GS.all ci (b8.fz []) (cj.done gH.mono (aq (ao:=[aM.F,aw.F,o.F]) V bJ) bh bJ) bJ λK a2 ck cc c6 aL=>⟨λj b=>aL j (u V j b) ?_,?_⟩
  ·simp at b;omega
  have b9:J r a2:=cc.ext;have d9:=c6.1;have cp:=((bA.ext aE).ext (aF.trans am)).jf (aL _ V V);have co:=(gf.ext (aF.trans am)).jf (aL _ V V);have cl:=(gd.ext am).jf (aL _ V V);have cq:=((ba.ext aE).ext (aF.trans am)).jf (aL _ V V);have bd:ap a2 c3 T:=(cl.done D V).le (bD _ _);have cv:=bd.len;have cn:GI (p.size::d) r a2 aw lf:=(co.bY (λ_ h=>h) a9.size).any;refine dU (n:=T.length) (cv▸bd.fS) (λ_ s g=>J a2 g/\∃e,GI (p.size::d) r g s e/\GS ([s.F,o.F]++p.size::d) r g K (U++dl.map (eQ 14)++[x']++T.map (eQ 15))/\pb lf e/\o.F≠s.F/\E.size<=s.F) ⟨J.aB _,lf,cn,ck,⟨λ_ h=>h,ad _⟩,V,V⟩ ?_;rintro i s bj I2 μ2 hi ⟨aG,e,gl,bc,R,cF,dv⟩ cZ;have bu:=b9.trans aG;have d_:=aG.size;have cP:=gl.bg;refine dit (λh2=>?_) λh2=>?_
  ·obtain⟨L,N⟩:=ag (l:=T) (k:=i) V;refine⟨V,V,L,(bd.ext aG).E N,?_⟩;refine(AX (S:=[]) D (((gl.done P (by have:=R.2;omega)).le (bD _ _)).le (zJ _)) L (by have:=R.2;omega)).aI (J.aB bj) (u V) λae l2 ac g2 z F _=>⟨_,rfl,cZ V _ _ ⟨aG.trans F,l2,(g2.bY (λ_ h=>h) bu.size).any,?_,⟨λaH hz=>R.1 aH (z.1 aH hz),cg z.2 R.2⟩,?_,?_⟩⟩
   ·have ab:=g2.bg;refine bc.re gH.mono (Y:=[]) (F.fz []) D D λj b=>?_;simp only[cU,dS,aU]at b⊢;rcases b with h|h|h
    ·exact Or.inr V
    ·exact Or.inl (Or.inr (Or.inl h))
    ·exact Or.inl (Or.inr (Or.inr h))
   ·have:=g2.bg;omega
   ·have:=g2.bg;omega
  intro dL;have bC:=cp.ext aG;refine GI.kv bC (bu.fz []) P V λab au ac cd b5 a8=>⟨λj b=>?_,?_⟩
  ·have:=u (g:=bj) V j b;rw[a8 j this (by simp at b;omega),(J.push bj _).same j this]
  have a_:J r au:=cd.ext;have c7:=b5.1;have cI:K.F≠o.F:=bc.Kp bC bh;have aI:=gl.jf (a8 _ cP.2 cF.symm);have bQ:=b5.2;have ae:GS ([s.F,ab.F]++p.size::d) r au K _:=bc.re gH.mono (Y:=[o.F]) ⟨c7,λj b hn=>a8 j b (by simpa using hn)⟩ D (by simpa using cI) λj b=>by
   simp only[cU,dS,aU]at b⊢;rcases b with h|h|h
   ·exact Or.inl (Or.inl h)
   ·rcases bQ with q|q
    ·exact Or.inl (Or.inr (Or.inl (h.trans q)))
    ·exact Or.inr V
   ·exact Or.inl (Or.inr (Or.inr h))
  have bk:ab.F≠s.F:=by rcases bQ with q|q<;>omega
  have L:WL X f.length True al.length (U++dl.map (eQ 14)++[x']++T.map (eQ 15))/\dc (U++dl.map (eQ 14)++[x']++T.map (eQ 15))=dc (aA.take (k+1))/\sw (U++dl.map (eQ 14)++[x']++T.map (eQ 15))+2<=1100*sw (aA.take (k+1)):=by
   have dh:dn x'=1:=by unfold dn at bK⊢;rw[cK];exact bK
   have d1:dc (dl.map (eQ 14))=0:=jO V _;have d2:dc (T.map (eQ 15))=0:=jO V _;refine⟨((aY.append (rI V λz B=>?_)).yy ?_).append (rI V λz B=>?_),?_,?_⟩
   ·rw[aa,<-aV];exact ah.eR.args z (bZ.1 z B)
   ·rw[cT,d1,aa,ju,<-aV];exact cO
   ·have:=ah.eR.args z (b0.1 z B);rw[cT,cT,d1,aa,kC,sQ];omega
   ·rw[cT,cT,cT,d1,d2,aa,kC,sQ];omega
   ·rw[dy,dy,dy,oh,oh,mE,va];omega
  have bf:∀z∈e,0<=z/\z<((al.length+dc (aA.take (k+1)):Nat):Int):=λz B=>by
   have:=bN z (bl.1 z (R.1 z B));omega
  have bX:∀(g:I),J au g->br K ab s ((k+1:Nat):Int) g/\μ K ab s ((k+1:Nat):Int) g<μ A o v k C:=λg t=>
   a4 V _ _ _ _ ⟨a_.trans t,⟨_,(ae.re gH.mono (Y:=[]) (t.fz []) D D λj b=>Or.inl (by simp only[cU,dS,aU]at b⊢;rcases b with h|h|h;exact Or.inr (Or.inl h);exact Or.inl h;exact Or.inr (Or.inr h))),L.1,L.2.1,V⟩,⟨_,ac.ext t,bJ⟩,⟨e,aI.ext t,by have:=R.2;omega,bf⟩,bk⟩
  have dK:=ae.bg;have c0:∀(g:I),J au g->aO cw 225 [vi (15:Int),vi (o.len:Int)] g λrv F=>eE [C.size,p.size,m0.size,m.size] g F/\∃aN:Int,∃aP:Int,∃aQ:Int,∃aR:O,∃aS:O,rv=.agg #[vi aN,vi aP,vi aQ,O.v aR,O.v aS]/\
   let M2:I:=F.push (.cells (bG [.i aN,.i aP,.i aQ,.s aR,.s aS]) fQ)
   jE M2 fQ [.i (0:Int),.i (0:Int),.i (0:Int),.s O.nil,.s O.nil] 72 K (O.mk F.size 0 1 1) λb1 N=>eE [C.size,p.size,m0.size,m.size] M2 N/\br b1 ab s ((k+1:Nat):Int) N/\μ b1 ab s ((k+1:Nat):Int) N<μ A o v k C:=by
   intro g t
   have zx:=t.size
   have dE:=ac.bg
   refine(iQ (c:=[K.F,s.F,ab.F]++p.size::d) (aq V bJ) 15 (o.len:Int)).mono λrv F⟨pa,pk,q,h1,h2,ak⟩=>?_
   subst q
   have eb:=ak.size
   have aZ:=t.trans ak
   refine⟨ak.dm (u V),_,_,_,_,_,rfl,?_⟩
   have cG:K.F≠ab.F:=ae.Kp ac bh
   have cH:K.F≠s.F:=ae.Kp aI bh
   refine GS.kv (x:=eQ 15 (o.len:Int)) (ae.ext gH.mono aZ) ((a_.trans aZ).fz []) h1 h2 (by have:=L.2.2;have:=fO (U++dl.map (eQ 14)++[x']++T.map (eQ 15));omega) λr' N y aW aH a5=>⟨λj b=>?_,a4 V _ _ _ _ ⟨aW.ext,⟨_,(y.re gH.mono (Y:=[]) ((J.aB _).fz []) D D λj b=>Or.inl (by simp only[cU,dS,aU]at b⊢;rcases b with h|h|h;exact Or.inr (Or.inl h);exact Or.inl h;exact Or.inr (Or.inr h))),L.1.yy (Dg V ?_),?_,?_⟩,⟨_,(ac.ext aZ).jf (a5 _ V cG.symm),bJ⟩,⟨e,(aI.ext aZ).jf (a5 _ V cH.symm),by have:=R.2;omega,bf⟩,bk⟩⟩
   ·have:=u (g:=F) V j b
    rw[a5 j this (by simp at b;omega),(J.push F _).same j this]
   ·rw[L.2.1];omega
   ·rw[cT,L.2.1];simp[kC,dn,eQ,oZ]
   ·rw[dy,mE,va]
    have h5:(eQ 15 (o.len:Int)).w=2:=by rw[cR.mf];rfl
    have:=L.2.2;omega
  refine⟨λ_=>?_,λh0=>⟨λh1=>by rw[h0]at h1;simp at h1,λ_=>bX au (J.aB _)⟩⟩;refine(dp (aJ (((cq.ext aG).jf (a8 _ V V)))) _).any.aI (J.aB au) (u V) λc a3 an _=>⟨_,rfl,λ_=>?_,λ_=>⟨λ_=>c0 a3 an,λ_=>bX a3 an⟩⟩;intro dM;have cJ:K.F≠s.F:=ae.Kp aI bh;have ea:=an.size;refine GI.kv (aI.ext an) ((a_.trans an).fz []) P (by have:=R.2;omega) λdP dN cf ce bq bm=>⟨λj b=>?_,a4 V _ _ _ _ ⟨ce.ext,⟨_,(ae.ext gH.mono an).re gH.mono (Y:=[s.F]) ⟨bq.1,λj b hn=>bm j b (by simpa using hn)⟩ D (by simpa using cJ) λj b=>?_,L.1,L.2.1,V⟩,⟨_,(ac.ext an).jf (bm _ ?_ bk),bJ⟩,⟨_,cf,?_,?_⟩,?_⟩⟩
  ·have:=u (g:=a3) V j b;rw[bm j this (by simp at b;omega),(J.push a3 _).same j this]
  ·simp only[cU,dS,aU]at b⊢;rcases b with h|h|h
   ·exact Or.inl (Or.inr (Or.inl h))
   ·rcases bq.2 with q|q
    ·exact Or.inl (Or.inl (h.trans q))
    ·exact Or.inr V
   ·exact Or.inl (Or.inr (Or.inr h))
  ·have:=ac.bg;omega
  ·have:=R.2;simp;omega
  ·intro z B;rcases List.mem_append.1 B with B|B
   ·exact bf z B
   ·simp at B;omega
  ·have:=ac.bg;rcases bq.2 with q|q<;>omega
 ·have ab:k=aA.length:=V;subst ab;rw[eZ]at*;have R:∀(g:I)(K:O)(u:List cR),J r g->GS (o.F::v.F::p.size::d) r g K u->WL X f.length True al.length u->dc u=dc aA->sw u<=1100*sw aA+2->
   let z:I:=ai g p.size 0 [.s K,.i w]
   ∃s c,Value.agg #[O.v K,vi w]=.agg #[O.v s,vi c.aV]/\eI (bO d z) s c.aA/\(WB X f.length True al.length c/\c.w+1050<=1100*(Bk.mk aA w).w)/\J m z:=by
   intro g K u t y h1 h2 h3 z
   have ac:=fO u
   have:=y.bg
   refine⟨K,.mk u w,rfl,eI.le (cz D λj b=>aj _ b) (y.re gH.mono (S':=p.size::d) (Y:=[]) (Fz.aB _ _) D D (λj b=>Or.inl (aj _ (aj _ b)))|>.done gH.mono P bh bJ),⟨WB.of h1 (by rw[h2];exact bg.2),?_⟩,(G.trans t).ai V _ _⟩
   rw[Bk.qA,Bk.qA];omega
  have kK:∀(g:I),J C g->aO cw 225 [vi (14:Int),vi w] g λrv F=>eE [p.size,m0.size,m.size] g F/\∃aN:Int,∃aP:Int,∃aQ:Int,∃aR:O,∃aS:O,rv=.agg #[vi aN,vi aP,vi aQ,O.v aR,O.v aS]/\
   let M2:I:=F.push (.cells (bG [.i aN,.i aP,.i aQ,.s aR,.s aS]) fQ)
   jE M2 fQ [.i (0:Int),.i (0:Int),.i (0:Int),.s O.nil,.s O.nil] 72 A (O.mk F.size 0 1 1) λT N=>eE [p.size,m0.size,m.size] M2 N/\
    let z:I:=ai N p.size 0 [.s T,.i w]
    ∃s c,Value.agg #[O.v T,vi w]=.agg #[O.v s,vi c.aV]/\eI (bO d z) s c.aA/\(WB X f.length True al.length c/\c.w+1050<=1100*(Bk.mk aA w).w)/\J m z:=by
   intro g t
   refine(iQ (c:=A.F::o.F::v.F::p.size::d) (λj b=>?_) 14 w).mono λrv F⟨a,kk,q,h1,h2,x1⟩=>?_
   ·have:=t.size
    simp at b
    rcases b with h|h|h|h|h
    ·omega
    ·omega
    ·omega
    ·have:=x6.lt (Q p.size D);omega
    ·have:=hS _ h;have:=v6.size;omega
   subst q
   have ak:=x6.trans (t.trans x1)
   refine⟨J.oC (x6.trans t) ak Q,_,_,_,_,_,rfl,?_⟩
   refine GS.kv (x:=eQ 14 w) (gs.ext gH.mono (t.trans x1)) (ak.fz []) h1 h2 (by have:=fO U;omega) λr' N y aW aH a5=>⟨J.oC (ak.aK _) aW.ext Q,R N r' _ aW.ext y (aY.yy (Dg V (by rw[aa];exact bg.2))) ?_ ?_⟩
   ·rw[cT,aa];simp[kC,dn,eQ,oZ]
   ·rw[dy];simp[mE,cR.mf,eQ];omega
  obtain⟨aH,hz⟩:=ag (l:=li) (k:=w.toNat) V;refine⟨V,V,aH,cy.E hz,λ_=>?_,λ_=>R C A U x6 gs aY aa V⟩;refine(dp (bM.ext v6) w).any.aI x6 Q λc m7 L u7=>⟨_,rfl,λ_=>kK m7 L,λ_=>?_⟩;exact(dp (cB.ext L) w).any.aI u7 Q λc E x8 W=>⟨_,rfl,λ_=>kK E (L.trans x8),λ_=>R E A U W ((gs.ext gH.mono L).ext gH.mono x8) aY aa V⟩
end
end Go.Proofs.YtgnjacfobdjeeaaGreat
