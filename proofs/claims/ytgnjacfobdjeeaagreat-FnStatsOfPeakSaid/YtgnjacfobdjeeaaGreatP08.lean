/- Part of a proof, joined by a program. -/
import Derived.Test.YtgnjacfobdjeeaaGreatP07
set_option linter.unusedVariables false
set_option linter.unusedSimpArgs false
set_option linter.defProp false
set_option linter.constructorNameAsVariable false
set_option maxHeartbeats 8000000
set_option maxRecDepth 100000
namespace Go.Proofs.YtgnjacfobdjeeaaGreat
open Go.Vc
section
variable{m:J}{s:O}{a:List Int}
def eK.Rw{α:Type}{d:Nat}{R:List Ce->α->Prop}{a:List α}(h:eK m d R s a){k:Nat}(n:k<=a.length):eK m d R (s.cut 0 k d) (a.take k):=by
 have c:=h.len;have f:=h.cap;have i:=h.gV;cases s with
 |nil=>
  simp at c;have:k=0:=V;subst this;exact⟨by simp[O.cut],by simp[O.cut],by simp[O.cut],aJ⟩
 |A2 e o b=>
  simp at c;have:k=0:=V;subst this;exact⟨by simp[O.cut],by simp[O.cut],by simp[O.cut],aJ⟩
 |mk e o p l=>
  simp only[O.jt,O.Mk]at c f i;refine⟨by simp[O.cut];omega,by simp[O.cut];omega,by simp[O.cut];omega,λj x b=>?_⟩;have g:j<k:=by have:=aD b;simp at this;omega
  rw[kW,an g]at b;have:=h.iv j x b;simpa[O.cut]using this
def oU(aT:O)(t:Int)(m:J):dW cp 142 [O.v aT,vi t] m (yG aT.len t):=by
 apply Eu;refine⟨λh=>fF ?_ (N.az _),λh=>cX ?_ (N.az _)⟩<;>simp at h
 ·simp[yG,h]
 ·unfold yG;omega
def vd{j:O}(c:aq m j a)(aT:O):dW cp 141 [O.v aT,O.v j] m (DU aT.len a):=by
 apply Bb;have o:=c.len;refine fB (n:=a.length) (o▸c.gV) (λe b=>N m b/\∀t∈a.take e,yG aT.len t) ⟨N.az _,aJ⟩ ?_;rintro e t I μ s ⟨b,i⟩ q
 refine dit (λh=>?_) λh=>?_
 ·obtain⟨x,d⟩:=ag (l:=a) (k:=e) V;refine⟨V,V,x,by simpa using b.af (c.D d),?_⟩;refine(oU _ _ _).then λr u g f=>⟨_,rfl,λh=>?_,λh=>?_⟩
  ·exact cX (λp=>nb g h (p x (av d))) (b.trans f)
  ·exact q V _ ⟨b.trans f,cF d i (yb g h)⟩
 ·exact jM (dx V i) b
def qD(a:Int)(m:J)(d:a≠7/\a≠8):dW cp 86 [vi a] m (lx a):=by
 apply vo;refine⟨λh=>⟨λc=>jM ?_ (N.az _),λc=>⟨λb=>jM ?_ (N.az _),λb=>fF ?_ (N.az _)⟩⟩,λh=>⟨λb=>jM ?_ (N.az _),λb=>fF ?_ (N.az _)⟩⟩<;>simp[lx]at* <;>omega
def mQ{aT:O}{a:List bu}(hd:cr m aT a)(u:a.length<=4)(o:∀d∈a,d.cons.length<=3):uR cp 29 [O.v aT] m (vi (eE a).length):=by
 apply Bc;simp -zeta only[aC,aB];have s:=hd.len;refine dS (n:=a.length) V (λj f b=>N m b/\f=(fc a j:Nat)/\fc a j<=3*j) ⟨N.az _,by cases a<;>rfl,by cases a<;>simp[fc]⟩ ?_;rintro j f v I μ t ⟨c,rfl,r⟩ p
 refine dit (λi=>?_) λi=>?_
 ·obtain⟨d,b⟩:=ag (l:=a) (k:=j) V;obtain⟨g,e,h,g1,g2⟩:=(cr.ext c hd).D b;refine⟨V,V,_,h,_,g1,g,g2,?_⟩;intro w x;have q:=o d (av b);refine p V _ _ ⟨(c.aN _).ah c.size _ _,?_,?_⟩
  ·rw[aP V (by have:=e.len;omega),rJ b,e.len];rfl
  ·rw[rJ b];omega
 ·refine⟨?_,c⟩;rw[mz a j V]
def IL{a:List bu}(h:dI a):∀d∈a,d.cons.length<=3:=λd hd=>by
 obtain⟨k,b⟩:=List.mem_iff_getElem?.1 hd;exact kL h b
def Qb:∀(a:List bu)(k:Nat),(eE (a.take k)).length=fc a k
 |[],k=>by simp[eE,Pg]
 |d::a,0=>by simp[eE,fc]
 |d::a,k+1=>by
  have:=Qb a k;simp only[XI,eE,lR,a8,fc]at this⊢;omega
def sE{aT:O}{a:List bu}(hd:cr m aT a)(c:dI a)(t:Int):aL cp 106 [O.v aT,vi t] m λK b=>∃s,K=O.v s/\aq b s (cg a t)/\N m b:=by
 apply Ep;have U:=hd.len;have T:=hd.cap;have g:∀(h:¬(1<=t/\t<=a.length)),aq m .nil (cg a t):=λh=>by
  unfold cg;rw[ae h];exact⟨rfl,ad _,aJ,aJ⟩
 have:=c.len;refine dit (λh=>?_) λh=>?_
 ·exact⟨_,rfl,g V,N.az _⟩
 refine dit (λz=>?_) λz=>?_
 ·exact⟨_,rfl,g V,N.az _⟩
 have v:cR (t -1)=((t.toNat -1:Nat):Int):=by rw[aP V V];omega
 rw[v];obtain⟨d,e⟩:=ag (l:=a) (k:=t.toNat -1) V;have w:cg a t=(List.range d.cons.length).map λi=>((fc a (t.toNat -1)+i:Nat):Int):=by
  unfold cg;rw[an V,e];rfl
 rw[w];have R:=qx c (t.toNat -1);have S:=kL c e;refine⟨V,V,V,?_⟩;have E:cr m (aT.cut 0 (t.toNat -1) 3) (a.take (t.toNat -1)):=eK.Rw hd V;have f:=mQ E bR (λd hd=>IL c d (jL hd));rw[Qb]at f;refine f.then λH r=>⟨_,rfl,?_⟩;obtain⟨y,F,M,g1,g2⟩:=(cr.ext r hd).D e;have W:=F.len;refine⟨V,V,y,by simpa using g2,?_⟩;refine dS (n:=d.cons.length) V (λj s b=>N m b/\ij m b aI 1 s (((List.range j).map λi=>((fc a (t.toNat -1)+i:Nat):Int)).map Ce.i)/\s.len=j) ⟨r,by simpa using ij.nil m H aI 1,rfl⟩ ?_;rintro j s I L μ X ⟨q,o,p⟩ J
 refine dit (λA=>?_) λA=>?_
 ·intro u;have x:cR (((fc a (t.toNat -1):Nat):Int)+(j:Int))=((fc a (t.toNat -1)+j:Nat):Int):=by rw[aP V V];omega
  have G:u=I.push (.cells (bC [.i (((fc a (t.toNat -1)+j:Nat):Int))]) aI):=by rw[<-x]
  clear_value u;subst G;refine ij.append (c:=[.i 0]) (i:=[.i ((fc a (t.toNat -1)+j:Nat):Int)]) (o.ext (N.push _ _)) (q.aN _) rfl (cx.push _ _ _).iv (by simp[p];omega) ?_;intro Y b B C D P Q _;refine J V _ _ ⟨C,?_,by simp[D,p]⟩
  rw[Q1,fx,fx];exact B
 ·have:j=d.cons.length:=V;subst this;exact⟨_,rfl,aq.gQ o bR,q⟩
def NX{a:List bu}{i j:Nat}{d:bu}{f:List Int}(h:a[i]? =some d)(b:d.cons[j]? =some f):cz a ((fc a i+j:Nat):Int)=f:=by
 unfold cz;rw[an V,tg,qu a i j d h (aD b),b];rfl
def KN{aT:O}{a:List bu}(hd:cr m aT a)(t:dI a)(c:Int)(Z: -1000000<=c/\c<=1000000):aL cp 202 [O.v aT,vi c] m λU f=>∃T s,U=.tuple #[vi T,.agg #[O.v s]]/\aq f s (cz a c)/\N m f:=by
 apply FQ;simp -zeta only[aC,aB];intro g;have R:N m g:=(N.az m).aN _;have ae:m.size<g.size:=by simp[g]
 clear_value g;have aa:=hd.len;have:=t.len;refine dS (n:=a.length) V (λj y f=>N m f/\g.size<=f.size/\y=c -(fc a j:Nat)/\¬(0<=c/\c<fc a j)) ⟨R,ad _,by cases a<;>simp[fc],by cases a<;>simp[fc]⟩ ?_;rintro j y v I μ hj ⟨d,Q,rfl,ac⟩ S
 refine dit (λJ=>?_) λJ=>?_
 ·obtain⟨z,b⟩:=ag (l:=a) (k:=j) V;obtain⟨h,B,F,g1,g2⟩:=(cr.ext d hd).D b;have ab:=B.len;have X:=qx t j;have Y:=kL t b;refine⟨V,V,_,F,_,g1,h,g2,?_⟩;intro m3 w;have e:N v w:=((N.az v).aN _).ah (ad _) _ _;have C:¬(0<=c -(fc a j:Nat)/\c -(fc a j:Nat)<z.cons.length)->I (cR (c -(fc a j:Nat) -(h.len:Int))) (cR ((j:Int)+1)) w/\μ (cR (c -(fc a j:Nat) -(h.len:Int))) (cR ((j:Int)+1)) w<μ (c -(fc a j:Nat)) j v:=by
   intro hq;refine S V _ _ ⟨d.trans e,bX Q e.size,?_,?_⟩
   ·rw[aP V V,rJ b];omega
   ·rw[rJ b];omega
  refine⟨λi=>⟨λr=>?_,λr=>C ?_⟩,λi=>C ?_⟩
  ·simp only[au]at i r;obtain⟨W,u⟩:=ag (l:=z.cons) (k:=(c -(fc a j:Nat)).toNat) V;obtain⟨q,hg,A⟩:=(oH.ext e B).D u;refine⟨V,V,q,A,?_⟩;intro x;have o:N m x:=(d.trans e).ah (ad _) _ _;refine⟨_,q,rfl,?_,o⟩;have p:cz a c=W:=by
    have:=NX b u;rw[<-this];congr 1;omega
   rw[p];obtain⟨D,K,_,_,G⟩:=hd.D b;have L:h=D:=by
    have:=d.af G;rw[g2]at this;exact O.Qu.1 (by simpa using this)
   subst L;obtain⟨E,M,H⟩:=K.D u;have P:q=E:=by
    have:=(d.trans e).af H;rw[A]at this;exact O.Qu.1 (by simpa using this)
   subst P;exact M.ext o
  ·simp at i r;omega
  ·simp at i;omega
 ·intro x;have o:N m x:=d.ah (ad _) _ _;refine⟨_,.nil,rfl,?_,o⟩;have p:cz a c=[]:=by
   unfold cz;split
   ·rw[di (by rw[<-mz a j V];omega)];rfl
   ·rfl
  rw[p];exact⟨rfl,ad _,aJ,aJ⟩
def FR{aT:O}{a:List bu}(hd:cr m aT a)(h:dI a)(c:Int)(f: -1000000<=c/\c<=1000000):aL cp 143 [O.v aT,vi c] m λv d=>∃s,v=O.v s/\aq d s (cz a c)/\N m d:=by
 apply Bd;simp -zeta only[aC,aB];refine(KN hd h c f).mono ?_;rintro _ e ⟨t,s,rfl,g,i⟩;refine⟨t,s,rfl,?_⟩;intro k j;have b:N e j:=((N.az e).aN _).ah (ad _) _ _;exact⟨s,rfl,g.ext b,i.trans b⟩
def vx(j:aq m s a)(g:Nat)(i f:Array Value)(v:GL.elem g=true)(q:Int->Prop)
 (u:∀x∈a,∀c,N m c->dW cp g (i.toList++[vi x]++f.toList) c (q x)):
 aL cp 124 [O.v s,.func (.func g) i f] m λB c=>∃r:Int,B=vi r/\N m c/\
  ((r= -1/\∀x∈a,¬q x)\/∃(b:Nat)(x:Int),r=b/\a[b]? =some x/\q x/\∀y∈a.take b,¬q y):=by
 apply pR s (.func g,i,f)
 have w:=j.len
 refine fB (n:=a.length) (w▸j.gV) (λb c=>N m c/\∀y∈a.take b,¬q y) ⟨N.az _,aJ⟩ ?_
 rintro b z I μ D ⟨d,o⟩ A
 refine dit (λh=>?_) λh=>?_
 ·obtain⟨x,e⟩:=ag (l:=a) (k:=b) V
  refine⟨V,V,x,by simpa using d.af (j.D e),g,rfl,v,?_⟩
  refine(u x (av e) z d).then λC E t p=>⟨_,rfl,λh=>?_,λh=>?_⟩
  ·exact⟨_,rfl,d.trans p,Or.inr ⟨b,x,rfl,e,t.1 h,o⟩⟩
  ·exact A V _ ⟨d.trans p,cF e o (fb t h)⟩
 ·exact⟨_,rfl,d,Or.inl ⟨rfl,dx V o⟩⟩
def jK(j:aq m s a)(g:Nat)(c b:Array Value)(i:GL.elem g=true)(q:Int->Prop)
 (f:∀x∈a,∀d,N m d->dW cp g (c.toList++[vi x]++b.toList) d (q x)):
 dW cp 69 [O.v s,.func (.func g) c b] m (∃x∈a,q x):=by
 apply oF s (.func g,c,b)
 refine(vx j g c b i q f).mono ?_
 rintro _ p ⟨r,rfl,k,h⟩
 refine⟨_,rfl,fF ?_ k⟩
 simp only[Fx,au]
 rcases h with⟨rfl,h⟩|⟨o,x,rfl,d,e,n⟩
 ·exact⟨λl=>V,λ⟨x,d,e⟩=>absurd e (h x d)⟩
 ·exact⟨λ_=>⟨x,av d,e⟩,λ_=>V⟩
end
section
variable{s c k d r:O}{b:J}{e:List Nat}{Q:List Int->Prop}{v:List Int}{x:cK}
structure _root_.Go.Vc.gB where
 params:List Int
 cG:List Int
 aV:Int
 body:Bk
def ik(m:J)(a:List Ce)(r:gB):Prop:=∃p l s,a=[.s p,.s l,.i r.aV,.s s,.i r.body.aV]/\aq m p r.params/\aq m l r.cG/\eD m s r.body.ar
abbrev yH(m:J)(s:O)(l:List gB):Prop:=eK m 5 (ik m) s l
structure eg(m:J)(d r:O)(ds:List bu)(rs:List gB):Prop where
 aT:cr m d ds
 ir:yH m r rs
 types:dI ds
 nR:rs.length<=4
def ik.le{m b:J}(h:Le m b){a:List Ce}{x:gB}:ik m a x->ik b a x:=λ⟨p,l,s,c,d,e,f⟩=>⟨p,l,s,c,d.le h,e.le h,f.le h⟩
def ik.mono:nM 5 ik:=⟨λh=>ik.le h,λh=>by obtain⟨_,_,_,rfl,_⟩:=h;rfl⟩
def yH.le{m b:J}(a:Le m b){s:O}{l:List gB}(h:yH m s l):yH b s l:=eK.le h a λ_ _=>ik.le a
def yH.D{m:J}{l:List gB}(h:yH m s l){k:Nat}{x:gB}(f:l[k]? =some x):
 ∃p t b,aq m p x.params/\aq m t x.cG/\eD m b x.body.ar/\af m s.E (s.off+k*5)=some (O.v p)/\af m s.E (s.off+k*5+1)=some (O.v t)/\af m s.E (s.off+k*5+2)=some (vi x.aV)/\af m s.E (s.off+k*5+3)=some (O.v b)/\af m s.E (s.off+k*5+4)=some (vi x.body.aV):=by
 obtain⟨g,⟨p,t,b,rfl,c,d,e⟩,a⟩:=h.iv k x f
 exact⟨p,t,b,c,d,e,a 0 _ rfl,a 1 _ rfl,a 2 _ rfl,a 3 _ rfl,a 4 _ rfl⟩
def eg.le{m b:J}{d r:O}{a:List bu}{e:List gB}(h:eg m d r a e)(c:Le m b):eg b d r a e:=⟨h.aT.le c,h.ir.le c,h.types,h.nR⟩
def zc(m:J):Le m (bM [] m):=λb o v h=>dV.2 ⟨aJ,h⟩
def Ek{a:List bu}(h:dI a)(c:Int):(cz a c).length<=3:=by
 unfold cz;split
 ·rcases bA c.toNat (eE a).length with b|b
  ·obtain⟨i,d,e,j,m⟩:=ug a c.toNat b;have f:=qu a i (c.toNat -fc a i) d e V;rw[show fc a i+(c.toNat -fc a i)=c.toNat by omega]at f;obtain⟨x,g⟩:=ag (l:=d.cons) (k:=c.toNat -fc a i) V;rw[f,g];exact(((h.dz i d e).iu V).2.2.2 x (av g)).1
  ·rw[di b];simp
 ·simp
def Wf{a:List bu}(h:dI a)(t:Int):(cg a t).length<=3:=by
 unfold cg;split
 ·cases b:a[t.toNat -1]? with
  |none=>simp
  |some d=>simpa using kL h b
 ·simp
def O8{a:List bu}(h:dI a)(b bL:Int)(k:Nat):AG a b bL k<=3:=by
 unfold AG;split
 ·exact Ek h _
 ·omega
abbrev DY(f:Nat)(a:List Value)(m:J):Prop:=sg f a m λ_=>True
def od(f:Nat)(a:List Value)(m:J):Prop:=aL cp f a m λv b=>∃c:Bool,v=.bool c/\N m b
def rN{m:J}{n:Int}(h:N m b):∃k:Int,vi n=vi k/\True/\N m b:=⟨n,rfl,trivial,h⟩
def rA{m:J}{a:Bool}(h:N m b):∃k:Bool,vb a=.bool k/\N m b:=⟨a,rfl,h⟩
def _root_.Go.Vc.dW.any{f:Nat}{a:List Value}{m:J}{p:Prop}(h:dW cp f a m p):od f a m:=h.mono λ_ _⟨b,e,_,x⟩=>⟨b,e,x⟩
section
variable{f:Nat}{g:List Value}{a m:J}{K:Value->J->Prop}{l:List Nat}
def DY.aK(i:DY f g m)(e:N a m)(o:∀c∈l,c<a.size)(k:∀(n:Int) b,N m b->N a b->K (vi n) b):aL cp f g m λv b=>dR l m b/\K v b:=
 i.mono λ_ b⟨n,h,_,d⟩=>⟨d.dv λc j=>e.lt (o c j),h▸k n b d (e.trans d)⟩
def od.aK(i:od f g m)(e:N a m)(n:∀c∈l,c<a.size)(k:∀(c:Bool) b,N m b->N a b->K (vb c) b):aL cp f g m λv b=>dR l m b/\K v b:=
 i.mono λ_ b⟨o,h,d⟩=>⟨d.dv λc j=>e.lt (n c j),h▸k o b d (e.trans d)⟩
def sg.aK{Q:Int->Prop}(i:sg f g m Q)(e:N a m)(o:∀c∈l,c<a.size)(k:∀(n:Int) b,Q n->N m b->N a b->K (vi n) b):aL cp f g m λv b=>dR l m b/\K v b:=
 i.mono λ_ b⟨n,h,q,d⟩=>⟨d.dv λc j=>e.lt (o c j),h▸k n b q d (e.trans d)⟩
def DX.aK(k:DX f g m e Q)(i:N a m)(q:∀d∈l,d<a.size)(p:∀s c b,aq (bM e b) s c->Q c->N m b->N a b->K (O.v s) b):aL cp f g m λv b=>dR l m b/\K v b:=
 k.mono λ_ b⟨s,c,j,n,r,h⟩=>⟨h.dv λd o=>i.lt (q d o),j▸p s c b n r h (i.trans h)⟩
def ku.aK(k:ku f g m e Q)(i:N a m)(q:∀d∈l,d<a.size)(p:∀s c b,GI e m b s c->Q c->N m b->N a b->K (O.v s) b):aL cp f g m λv b=>dR l m b/\K v b:=
 k.mono λ_ b⟨s,c,j,n,r,h⟩=>⟨h.dv λd o=>i.lt (q d o),j▸p s c b n r h (i.trans h)⟩
end
def _root_.Go.Vc.N.Tv{c m:J}(f:N c m){l:List Nat}(e:∀a∈l,a<c.size)(h:N m b):dR l m b:=h.dv λa d=>f.lt (e a d)
def dC{m:J}(F:∀b∈e,b<m.size){aT:O}{a:List bu}(hd:cr (bM e m) aT a)(f:dI a)(c:Int):DX 155 [O.v aT,vi c] m e (cz a c=·):=by
 apply qH;have o:cr m aT a:=hd.le (bG _ _);have G:=hd.len;have:=f.len;refine(lJ o f c).mono ?_;rintro _ K ⟨M,rfl,n,h⟩;refine⟨_,rfl,dit (λw=>?_) λw=>?_⟩
 ·refine⟨_,_,rfl,?_,rfl,h.aN _⟩;have g:cz a c=[]:=by
   rcases n with⟨i,d,y,_⟩|⟨_,b⟩
   ·omega
   ·unfold cz;split
    ·rw[di V];rfl
    ·rfl
  rw[g];exact⟨rfl,ad _,aJ,aJ⟩
 ·rcases n with⟨i,d,rfl,b,C,D⟩|⟨y,_⟩
  ·have I:=aD b;obtain⟨u,p,A,g1,g2⟩:=(hd.le (h.cW e)).D b;have r:cR ((i:Int)+1 -1)=i:=by rw[aP V V];omega
   rw[r];have g2:=(dV.1 g2).2;refine⟨V,V,u,by simpa using g2,?_⟩;refine(jC (cr.ext h o) f V).then λL g=>⟨_,rfl,g.bZ (by simpa using g2),?_⟩;have B:=qx f i;have E:=kL f b;have H:=p.len;obtain⟨x,q⟩:=ag (l:=d.cons) (k:=(c -fc a i).toNat) V;obtain⟨j,z,v⟩:=oH.D (eK.le p (g.cW e) (mw.le (g.cW e))) q;have s:cR (c -(fc a i:Int))=c -fc a i:=aP V V;rw[s];refine⟨V,V,j,(dV.1 v).2,j,_,rfl,?_,rfl,h.trans g⟩;have t:cz a c=x:=by
    unfold cz;rw[an V];have:=qu a i (c -fc a i).toNat d b V;rw[show c.toNat=fc a i+(c -fc a i).toNat by omega,this,q];rfl
   rw[t];exact z
  ·omega
def gN{m:J}(v:∀q∈e,q<m.size){aT:O}{a:List bu}(hd:cr m aT a)(c:dI a)(t:Int):DX 157 [O.v aT,vi t] m e (cg a t=·):=by
 apply tT;intro F;have M:=hd.len;have:=c.len;have y:N m F:=(N.az m).aN _;refine(bF _ _ _ _).then λq R w i=>⟨_,rfl,λh=>?_,λh=>?_⟩
 ·refine⟨_,_,rfl,?_,rfl,y.trans i⟩;have f:cg a t=[]:=by
   unfold cg;rw[ae (by have:=nb w h;omega)]
  rw[f];exact⟨rfl,ad _,aJ,aJ⟩
 ·have h:=yb w h;have z:cR (t -1)=((t.toNat -1:Nat):Int):=by rw[aP V V];omega
  rw[z];obtain⟨d,o⟩:=ag (l:=a) (k:=t.toNat -1) V;have A:cg a t=(List.range d.cons.length).map λp=>((fc a (t.toNat -1)+p:Nat):Int):=by
   unfold cg;rw[an V,o];rfl
  rw[A];have K:=qx c (t.toNat -1);have L:=kL c o;refine dS (n:=d.cons.length) V (λj s b=>N m b/\GI e m b s ((List.range j).map λp=>((fc a (t.toNat -1)+p:Nat):Int))) ⟨y.trans i,(GI.nil e m).ext i⟩ ?_;rintro j s S I μ Q ⟨f,x⟩ G
  obtain⟨g,E,H,g1,g2⟩:=(cr.ext f hd).D o;have P:=E.len;refine⟨V,V,g,by simpa using g2,dit (λD=>?_) λD=>?_⟩
  ·refine(jC (cr.ext f hd) c V).then λT u=>⟨_,rfl,?_⟩;have B:cR (((fc a (t.toNat -1):Nat):Int)+(j:Int))=((fc a (t.toNat -1)+j:Nat):Int):=by rw[aP V V];omega
   rw[B];intro U;refine GI.jY (x.ext u) ((f.trans u).fz []) v bR λr b C g _ _=>G V _ _ ⟨g.ext,?_⟩
   rw[Q1,fx];exact C
  ·have:j=d.cons.length:=V;subst this;exact⟨_,_,rfl,x.done v bR,rfl,f⟩
def mI{m:J}{aT:O}{b:List bu}(hd:cr m aT b)(o:dI b)(t:Int):dW cp 300 [O.v aT,vi t] m (∃d,1<=t/\b[t.toNat -1]? =some d/\d.cons.length=0):=by
 apply Dn;have s:=hd.len;have:=o.len;refine(bF _ _ _ _).then λp u g e=>⟨_,rfl,λh=>?_,λh=>?_⟩
 ·have h:=g.1 h;obtain⟨d,c⟩:=ag (l:=b) (k:=t.toNat -1) V;obtain⟨j,n,r,g1,g2⟩:=(cr.ext e hd).D c;have i:cR (t -1)=((t.toNat -1:Nat):Int):=by rw[aP V V];omega
  rw[i];refine⟨V,V,j,g2,fF ?_ e⟩;rw[n.len];simp only[aE];exact⟨λh=>⟨d,V,c,V⟩,λ⟨q,_,a,f⟩=>by rw[c]at a;simp at a;subst a;omega⟩
 ·refine cX (λ⟨d,a,f,_⟩=>fb g h ⟨a,?_⟩) e;have:=aD f;omega
def zr{m:J}{aT:O}{a:List bu}(hd:cr m aT a)(s:dI a)(u t:Int):
 sg 322 [O.v aT,vi u,vi t] m λk=>k= -1\/∃(o:Nat)(d:bu),k=o+1/\a[o]? =some d/\d.cons.length=0/\d.uP=u/\d.to=t:=by
 apply Da
 have x:=hd.len
 have:=s.len
 refine fB (n:=a.length) V (λ_ b=>N m b) (N.az _) ?_
 rintro k v I μ y c w
 refine⟨λh=>?_,λh=>⟨_,rfl,Or.inl rfl,c⟩⟩
 simp only[au]at h
 obtain⟨d,j⟩:=ag (l:=a) (k:=k) V
 obtain⟨p,r,q,g1,g2⟩:=(cr.ext c hd).D j
 have e:=w V v c
 refine⟨V,V,p,g2,λf=>⟨V,V,_,q,λg=>⟨V,V,_,g1,λi=>?_,λ_=>e⟩,λ_=>e⟩,λ_=>e⟩
 rw[r.len]at f
 simp only[aE]at f g i
 refine⟨_,rfl,Or.inr ⟨k,d,?_,j,V,g,i⟩,c⟩
 rw[aP V V]
def rX{m:J}{i q:O}{f t:List Int}(g:aq m c v)(e:aq m i f)(o:aq m q t):od 297 [O.v c,O.v i,O.v q] m:=by
 apply G9;have D:=g.len;have s:=e.len;have E:=o.len;have F:=g.gV;refine⟨λ_=>rA (N.az _),λh=>?_⟩;simp only[gZ]at h;refine fB (n:=f.length) (s▸e.gV) (λ_ b=>N m b) (N.az _) ?_;rintro k H I μ G a z
 refine⟨λh=>?_,λh=>rA a⟩;simp only[au]at h;obtain⟨x,p⟩:=ag (l:=f) (k:=k) V;refine⟨V,V,x,(e.ext a).D p,?_⟩;have r:cR ((c.len:Int) -1)=(v.length:Int) -1:=by rw[aP V V];omega
 rw[r];refine(bF _ _ _ _).then λC K u d=>⟨_,rfl,λ_=>rA (a.trans d),λj=>?_⟩;have j:=yb u j;obtain⟨A,w⟩:=ag (l:=v) (k:=x.toNat) V;obtain⟨B,y⟩:=ag (l:=t) (k:=k) V;exact⟨V,V,x,(e.ext (a.trans d)).D p,V,V,A,(g.ext (a.trans d)).D w,V,V,B,(o.ext (a.trans d)).D y,λ_=>rA (a.trans d),λ_=>z V _ (a.trans d)⟩
def K4(a:Int)(m:J):od 295 [vi a] m:=by
 apply ET;have r:∀b:Bool,∃k:Bool,vb b=.bool k/\N m m:=λb=>rA (N.az m);exact⟨λ_=>r _,λ_=>⟨λ_=>r _,λ_=>⟨λ_=>r _,λ_=>⟨λ_=>r _,λ_=>r _⟩⟩⟩⟩
def oG(x:cK)(a k:O):Value:=.agg #[vi x.op,vi x.bL,vi x.bH,O.v a,O.v k]
def vR{m:J}{g:O}(d:aq m c v)(x:cK):od 296 [O.v c,.agg #[vi x.op,vi x.bL,vi x.bH,O.v g,O.v k]] m:=by
 apply Ao;simp -zeta only[aC,aB];intro a;have b:N m a:=N.push _ _;have n:∀f∈[m.size],f<a.size:=by simp[a]
 clear_value a;have p:=d.len;have q:=d.gV;refine⟨λ_=>rA b,λ_=>⟨λ_=>?_,λ_=>rA b⟩⟩;refine(bF _ _ _ _).aK (N.az a) n λf r j _ e=>⟨_,rfl,λh=>?_,λ_=>rA (b.trans e)⟩;have h:=j.1 h;have i:cR (x.bH -1)=((x.bH.toNat -1:Nat):Int):=by rw[aP V V];omega
 rw[i];obtain⟨y,o⟩:=ag (l:=v) (k:=x.bH.toNat -1) V;exact⟨V,V,y,(d.ext (b.trans e)).D o,rA (b.trans e)⟩
def Bu{m:J}{n:O}{u:List bu}{C:List gB}(p:eg m d r u C)(i:aq m c v)(g:aq m n x.args):DY 301 [.agg #[O.v d,O.v r],O.v c,oG x n k] m:=by
 apply vE;simp -zeta only[aC,aB];intro s e;have b:N m e:=(N.push _ _).trans (N.push _ _);have o:∀f∈[s.size,m.size],f<e.size:=by simp[e,s];omega
 clear_value e;have D:=i.len;have E:=i.gV;have F:=g.len;refine⟨λ_=>rN b,λh=>?_⟩;simp only[gZ]at h;obtain⟨y,q⟩:=ag (l:=x.args) (k:=0) V;refine⟨V,V,y,(g.ext b).D q,?_⟩;have w:cR ((c.len:Int) -1)=(v.length:Int) -1:=by rw[aP V V];omega
 rw[w];refine(bF _ _ _ _).aK (N.az e) o λf G A _ j=>⟨_,rfl,λ_=>rN (b.trans j),λh=>?_⟩;have h:=yb A h;have a:=b.trans j;obtain⟨z,B⟩:=ag (l:=v) (k:=y.toNat) V;have g1:=(g.ext a).D q;have g2:=(i.ext a).D B;refine⟨V,V,y,g1,V,V,z,g2,λ_=>rN a,λ_=>⟨λ_=>⟨λ_=>⟨V,V,y,g1,V,V,z,g2,?_⟩,λ_=>rN a⟩,λ_=>rN a⟩⟩;exact(mI ((p.le a.le).aT) p.types z).any.aK j o λf H I t=>⟨_,rfl,λ_=>rN (b.trans t),λ_=>rN (b.trans t)⟩
def Dy{m:J}{y:O}{H:List bu}{u:List gB}(g:eg m d r H u)(W:aq m c v)(B:aq m y x.args):DY 299 [.agg #[O.v d,O.v r],O.v c,oG x y k] m:=by
 apply wQ;simp -zeta only[aC,aB];intro j h;have F:N m h:=(N.push _ _).trans (N.push _ _);have o:∀f∈[j.size,m.size],f<h.size:=by simp[h,j];omega
 clear_value h;have h1:=g.ir.len;have h2:=g.nR;have h3:=B.len;have I:cR ((r.len:Int) -1)=(u.length:Int) -1:=by rw[aP V V];omega
 rw[I];refine(bF _ _ _ _).aK (N.az h) o λf n T _ w=>⟨_,rfl,λ_=>rN (F.trans w),λz=>?_⟩;have z:=yb T z;have E:=F.trans w;obtain⟨t,U⟩:=ag (l:=u) (k:=x.bL.toNat) V;obtain⟨aa,ae,s,i,c2,c3,L,g1,g2,M,P⟩:=(g.le E.le).ir.D U;refine⟨V,V,_,L,_,g1,_,g2,_,M,_,P,?_⟩;intro Y b;have G:N n b:=((N.az n).aN _).ah (ad _) _ _;have p:∀f∈[n.size,j.size,m.size],f<b.size:=by
  have Q:=o j.size aJ;have R:=o m.size aJ;have S:=w.size;have A:b.size=n.size+1:=by simp[b,Y,ay]
  simp;omega
 clear_value b;have a:=E.trans G;have D:=W.ext a;have C:=B.ext a;have q:=i.ext G;have Q:=i.len;have R:=i.cap;have S:=i.gV;refine⟨λ_=>(rX D C q).aK (N.az b) p λf Z e _=>⟨_,rfl,λ_=>rN (a.trans e),λ_=>rN (a.trans e)⟩,λ_=>⟨λ_=>rN a,λA=>⟨λ_=>rN a,λ_=>?_⟩⟩⟩;simp only[ak]at A;have K:cR ((aa.len:Int) -1)=((t.params.length -1:Nat):Int):=by rw[aP V V];omega
 rw[K];obtain⟨ab,X⟩:=ag (l:=t.params) (k:=t.params.length -1) V;refine⟨V,V,V,(rX D C (eK.Rw q V)).aK (N.az b) p λf Z e _=>⟨_,rfl,λ_=>rN (a.trans e),λ_=>⟨V,V,ab,(q.ext e).D X,?_⟩⟩⟩;exact(zr (g.le (a.trans e).le).aT g.types _ _).aK e p λac m6 _ x6 u6=>⟨_,rfl,rN (a.trans u6)⟩
def U6(a:List bu)(e:List gB)(b:Bk):Prop:=∀(m:J)(d r c t:O)(v:List Int),eg m d r a e->aq m c v->eD m t b.ar->v.length+4*b.w<=1000000000000->DY 261 [.agg #[O.v d,O.v r],O.v c,.agg #[O.v t,vi b.aV]] m
def Im{m:J}{ab:O}{u:List bu}{Z:List gB}(g:eg m d r u Z)(W:aq m c v)(z:np m k x.bD)(hb:v.length+4*x.w<=1000000000000)(ih:∀o∈x.bD,U6 u Z o):DY 298 [.agg #[O.v d,O.v r],O.v c,oG x ab k] m:=by
 apply BG;simp -zeta only[aC,aB];intro Y q;have i:N m q:=(N.push _ _).trans (N.push _ _);have p:∀o∈[Y.size,m.size],o<q.size:=by simp[q,Y];omega
 clear_value q;have ac:=z.len;have hw:=cK.lO x;refine(gN (e:=[]) aJ (g.le i.le).aT g.types x.bL).aK (N.az q) p λae cl H y s B _=>⟨_,rfl,?_⟩;subst s;have y:=y.le (bG _ _);have ah:=y.len;have h3:=Wf g.types x.bL;refine⟨λL aa=>aa=H/\0<=L/\(x.op=8->L=(cg u x.bL).length),⟨λh=>?_,λh=>?_⟩,?_⟩
 ·simp only[aE]at h;exact⟨rfl,V,λh=>V⟩
 ·exact⟨rfl,V,λ_=>V⟩
 rintro L ai ⟨f,h4,h5⟩;have f:=f.symm;subst f;refine⟨λ_=>rN (i.trans B),λ_=>⟨λ_=>rN (i.trans B),λU=>?_⟩⟩;simp only[gZ]at U;subst U;refine dS (n:=x.bD.length) (ac▸z.gV) (λ_ _ b=>N H b) (N.az _) ?_;rintro j A I T μ hj C ad
 have M:=B.trans C;have t:=i.trans M;refine⟨λh=>?_,λ_=>rN t⟩;simp only[au]at h;obtain⟨o,w⟩:=ag (l:=x.bD) (k:=j) V;have X:=ih o (av w);have af:=we w;have tl:∀(a:Int)(e:J),N H e->((decide (a<(0:Int)))=true->∃k:Int,vi (-1)=vi k/\True/\N m e)/\((decide (a<(0:Int)))=false->((decide ((j:Int)>(0:Int)))=true->((a !=A)=true->∃k:Int,vi (-1)=vi k/\True/\N m e)/\((a !=A)=false->T a (cR ((j:Int)+1)) e/\μ a (cR ((j:Int)+1)) e<μ A j I))/\((decide ((j:Int)>(0:Int)))=false->T a (cR ((j:Int)+1)) e/\μ a (cR ((j:Int)+1)) e<μ A j I)):=λa e h=>by
  have f:=rN (n:=-1) ((i.trans B).trans h);have E:=ad V a e h
  exact⟨λ_=>f,λ_=>⟨λ_=>⟨λ_=>f,λ_=>E⟩,λ_=>E⟩⟩
 refine⟨λh=>?_,λh=>?_⟩
 ·simp only[aE]at h;have h7:=h5 h;obtain⟨R,hy⟩:=ag (l:=cg u x.bL) (k:=j) V;refine⟨V,V,R,(y.ext C).D hy,?_⟩;refine(dC (e:=[]) aJ (g.le (t.le.trans (zc _))).aT g.types R).aK M p λE fl e hf s x4 u4=>⟨_,rfl,?_⟩;subst s;have h8:=Ek g.types R;refine(eB (S:=[]) aJ (W.le ((i.trans u4).le.trans (zc _))) hf V).aK u4 p λf el m5 he s x5 P=>⟨_,rfl,?_⟩;subst s;obtain⟨D,G,F,g1⟩:=(z.le (i.trans P).le).D w;refine⟨V,V,_,F,_,g1,?_⟩;exact(X m5 d r f D _ (g.le (i.trans P).le) ((he.done aJ bR).le (bG _ _)) G bR).aK P p λa K Q _=>⟨_,rfl,tl a K (((C.trans x4).trans x5).trans Q)⟩
 ·obtain⟨D,G,F,g1⟩:=(z.le t.le).D w;refine⟨V,V,_,F,_,g1,?_⟩;exact(X I d r c D _ (g.le t.le) (W.ext t) G V).aK M p λa K Q _=>⟨_,rfl,tl a K (C.trans Q)⟩
def OT{m a:J}(h:N m a)(l:List Int){n:Nat}(c:n=l.length)(b:l.length<=9223372036854775807):aq (a.push (.cells (bC (l.map Ce.i)) aI)) (.mk a.size 0 n n) l:=
 (aq.lit (S:=[]) aI l aJ rfl c b).le (bG _ _)
def _root_.Go.Vc.eK.Jk{α:Type}{n:J}{b:Nat}{R:List Ce->α->Prop}{l:List α}(h:eK n b R s l){i j:Nat}(u:i<=j)(v:j<=l.length):eK n b R (s.cut i j b) ((l.take j).drop i):=by
 have a:=h.len;have m:=h.cap;have y:=h.gV;have g:(s.cut i j b).len=j -i/\(s.cut i j b).len<=(s.cut i j b).cap:=by
  cases s with
  |nil=>simp at a;simp[O.cut];omega
  |A2 d o t=>simp at a;simp[O.cut];omega
  |mk d o r f=>simp at a m;simp[O.cut];omega
 refine⟨by simp[g.1];omega,g.2,V,λk x c=>?_⟩;rw[rj,kW]at c;split at c
 ·rename_i w;obtain⟨p,q,e⟩:=h.iv _ x c;refine⟨p,q,?_⟩;cases s with
  |nil=>simp at a;omega
  |A2 d o t=>simp at a;omega
  |mk d o r f=>
   simp at a m;have:¬f=i:=V;simp only[O.cut,this,pC,O.jH,O.ze]at e⊢;rw[gq,<-dQ]at e;exact e
 ·simp at c
def nJ{s:J}{C:O}{Q:List bu}{rs:List gB}(D:eg s d r Q rs)(hv:aq s c v)(ha:aq s C x.args)(hk:np s k x.bD)(I:v.length+4*x.w<=1000000000000)(ih:∀g∈x.bD,U6 Q rs g):DY 256 [.agg #[O.v d,O.v r],O.v c,oG x C k] s:=by
 apply Cb;simp -zeta only[aC,aB];intro E q;have P:N s q:=(N.push _ _).trans (N.push _ _);have n:∀g∈[E.size,s.size],g<q.size:=by simp[q,E];omega
 clear_value q;have h1:=ha.len;have h2:=ha.cap;have w:∀{o:J},N q o->aq o c v:=λh=>hv.ext (P.trans h);have B:∀{o:J},N q o->aq o C x.args:=λh=>ha.ext (P.trans h);have A:∀{o:J},N q o->eg o d r Q rs:=λh=>D.le (P.trans h).le;have p:∀{o:J}{u:Int},N q o->∃k:Int,vi u=vi k/\True/\N s o:=λh=>rN (P.trans h);have R:∀{o:J}{u k:Int}{g:Bool},N q o->(g=true->∃k:Int,vi u=vi k/\True/\N s o)/\(g=false->∃a:Int,vi k=vi a/\True/\N s o):=λh=>⟨λ_=>p h,λ_=>p h⟩;refine⟨λY=>N q Y,⟨λ_=>?_,λ_=>?_⟩,?_⟩
 ·exact(K4 x.op q).aK (N.az q) n λg o e _=>⟨_,rfl,λ_=>p e,λ_=>(vR (w e) x).aK e n λg f m a=>⟨_,rfl,λ_=>p a,λ_=>⟨λ_=>⟨λ_=>⟨λ_=>p a,λ_=>a⟩,λ_=>a⟩,λ_=>a⟩⟩⟩
 ·exact(vR (w (N.az _)) x).aK (N.az q) n λg f a _=>⟨_,rfl,λ_=>p a,λ_=>⟨λ_=>⟨λ_=>⟨λ_=>p a,λ_=>a⟩,λ_=>a⟩,λ_=>a⟩⟩
 intro o e;have T:∀{f:J}{U:O}{al:List Int}(h:N q f),aq f U al->od 297 [O.v c,O.v C,O.v U] f:=λh ht=>rX (w h) (B h) ht;have Kt:∀{f:J}(h:N q f),aL cp 298 [.agg #[O.v d,O.v r],O.v c,.agg #[vi x.op,vi x.bL,vi x.bH,O.v C,O.v k]] f λv b=>dR [E.size,s.size] f b/\∃u:Int,v=vi u/\∃k:Int,vi u=vi k/\True/\N s b:=λh=>
  (Im (A h) (w h) (hk.le (P.trans h).le) I ih).aK h n λu M t W=>⟨u,rfl,p W⟩
 refine⟨λ_=>⟨λ_=>(bF _ _ _ _).any.aK e n λg f m a=>⟨_,rfl,R a⟩,λ_=>p e⟩,λ_=>⟨λ_=>?_,λ_=>⟨λ_=>?_,λ_=>⟨λ_=>?_,λ_=>⟨λ_=>?_,λ_=>⟨λ_=>?_,λ_=>⟨λ_=>?_,λ_=>⟨λ_=>?_,λ_=>⟨λ_=>?_,λ_=>p e⟩⟩⟩⟩⟩⟩⟩⟩⟩
 ·intro f;exact(T (e.aN _) (OT e [0,0] rfl aJ)).aK (e.aN _) n λg f m a=>⟨_,rfl,R a⟩
 ·intro f;exact(T (e.aN _) (OT e [0] rfl aJ)).aK (e.aN _) n λg f m a=>⟨_,rfl,R a⟩
 ·refine(lJ (A e).aT D.types x.bL).mono λ_ f⟨U,z,_,m⟩=>?_;subst z;have a:=e.trans m;refine⟨e.Tv n m,_,rfl,λ_=>?_,λ_=>p a⟩;refine(dC (e:=[]) aJ ((A a).aT.le (zc _)) D.types x.bL).aK a n λae H M hf K t W=>⟨_,rfl,?_,?_⟩
  ·exact aM (t.same E.size (a.lt (n _ aJ))) _
  refine(T W (hf.le (bG _ _))).aK W n λg F x5 y=>⟨_,rfl,λ_=>?_,λ_=>p y⟩;refine(lJ (A y).aT D.types x.bL).mono λ_ G⟨U,z,_,X⟩=>?_;subst z;exact⟨y.Tv n X,_,rfl,p (y.trans X)⟩
 ·intro f;exact(T (e.aN _) (OT e [0] rfl aJ)).aK (e.aN _) n λg f m a=>⟨_,rfl,λ_=>Kt a,λ_=>p a⟩
 ·intro f;exact(T (e.aN _) (OT e [x.bL] rfl aJ)).aK (e.aN _) n λg f m a=>⟨_,rfl,λ_=>Kt a,λ_=>p a⟩
 ·exact(Dy (A e) (w e) (B e)).aK e n λu f m a=>⟨_,rfl,p a⟩
 ·have h3:=hv.len;have h4:=hv.gV;refine⟨λg Y=>N q Y/\(g=true->x.args.length=2/\∃y z H,x.args[0]? =some y/\0<=y/\v[y.toNat]? =some z/\1<=z/\Q[z.toNat -1]? =some H),⟨λh=>?_,λ_=>⟨e,λh=>by simp at h⟩⟩,?_⟩
  ·simp only[aE]at h;obtain⟨y,K⟩:=ag (l:=x.args) (k:=0) V;refine⟨V,V,y,(B e).D K,?_⟩;have Z:cR ((c.len:Int) -1)=(v.length:Int) -1:=by rw[aP V V];omega
   rw[Z];refine(bF _ _ _ _).aK (N.az o) (λg I=>e.lt (n g I)) λg f aa _ m=>⟨_,rfl,λh=>?_,λh=>⟨e.trans m,λh=>by simp at h⟩⟩;have h:=aa.1 h;have a:=e.trans m;obtain⟨z,L⟩:=ag (l:=v) (k:=y.toNat) V;refine⟨V,V,y,(B a).D K,V,V,z,(w a).D L,?_⟩;refine(mI (A a).aT D.types z).aK (N.az f) (λg I=>a.lt (n g I)) λg M ab _ t=>⟨_,rfl,a.trans t,λh=>?_⟩;obtain⟨H,h5,h6,_⟩:=ab.1 h;exact⟨V,y,z,H,K,V,L,h5,h6⟩
  ·rintro g f ⟨m,ai⟩;refine⟨λh=>?_,λ_=>p m⟩;obtain⟨h5,y,z,H,K,h6,L,h7,aa⟩:=ai h;obtain⟨ae,hf,g0,g1,g2⟩:=(A m).aT.D aa;have ao:=D.aT.len;have h8:=D.types.len;have h9:=aD aa;have am:=aD L;have Z:cR (z -1)=((z.toNat -1:Nat):Int):=by rw[aP V V];omega
   have ab:=(B m).D K;have ac:=(w m).D L;refine⟨V,V,y,ab,V,V,z,ac,?_⟩;rw[Z];refine⟨V,V,_,g0,_,g1,_,g2,?_⟩;intro M;have t:N f M:=N.push _ _;have af:E.size<f.size:=m.lt (n _ aJ);have ah:s.size<f.size:=m.lt (n _ aJ);refine⟨t.bZ g0,t.bZ g1,t.bZ g2,t.bZ ac,t.bZ ab,aM (t.same _ af) _,aM (t.same _ ah) _,?_⟩;intro F;have x5:N f F:=t.ah (ad _) _ _;have an:F.size=f.size+1:=by simp[F,M,ay]
   clear_value F;refine⟨V,V,V,?_⟩;intro G;have X:N f G:=x5.trans (N.push _ _);have u6:=m.trans X;have ak:∀g∈[f.size,E.size,s.size],g<G.size:=by simp[G];omega
   refine⟨aM ((N.push F _).same _ V) _,?_⟩;have aj:aq G (C.cut 1 C.len 1) (x.args.drop 1):=by
    have:=(eK.Jk (B u6) (i:=1) (j:=x.args.length) V (ad _));rw[fE]at this;rw[h1];exact this
   exact(rX (w u6) aj (OT x5 [H.uP] rfl aJ)).aK (N.az G) ak λg m7 x7 _=>⟨_,rfl,R (u6.trans x7)⟩
 ·exact(Bu (A e) (w e) (B e)).aK e n λu f m a=>⟨_,rfl,p a⟩
def _root_.Go.Vc.N.nW{c m:J}(h:N c m)(k:N c b){l:List Nat}(e:∀a∈l,a<c.size):dR l m b:=λa d=>by rw[k.same a (e a d),h.same a (e a d)]
def sB(x:cK)(b:Bool)(a:b=true<->0<=x.op/\x.op<=11):dn x=if b=true then 1 else 0:=by
 unfold dn;by_cases h:b=true
 ·rw[an h];exact an (a.1 h)
 ·rw[ae h];exact ae λc=>h (a.2 c)
def mR{J:List bu}{rs:List gB}:∀a:Bk,U6 J rs a:=by
 refine Bk.ind ?_;intro ar Z X E d r c ao v T W u m;simp only[Bk.jq,Bk.iH,Bk.pW]at*;apply zy;simp -zeta only[aC,aB];intro F e;have z:N E e:=(N.push _ _).trans (N.push _ _);have g:∀a∈[F.size,E.size],a<e.size:=by simp[e,F];omega
 clear_value e;have U:=u.len;refine(lK (S:=[]) aJ (W.le (z.le.trans (zc _))) V).aK (N.az e) g λs0 _ m2 j K x2 _=>⟨_,rfl,?_⟩;subst K;have D:=Aw ar;refine dS (n:=ar.length) (U▸u.gV) (λk s b=>N e b/\∃i,GI [] e b s i/\i.length=v.length+dc (ar.take k)) ⟨x2,_,j,aJ⟩ ?_;rintro k s Y aa μ hk ⟨A,i,o,hc⟩ H
 have q:=z.trans A;have ac:=sq (ar.take k);have ah:=pX k ar;have ai:=fH (ar.take k);have af:=o.len bh;have t:=(o.done aJ (by have:=D k;omega)).le (bG _ _);refine⟨λh=>?_,λh=>?_⟩
 ·simp only[au]at h;obtain⟨x,p⟩:=ag (l:=ar) (k:=k) V;obtain⟨ab,kk,P,R,j,g1,g2,M,O⟩:=(u.le q.le).D p;have ak:=pu p;have aj:=D (k+1);have ad:=qd p;refine⟨V,V,_,j,_,g1,_,g2,_,M,_,O,?_⟩;refine(nJ (T.le q.le) t P R V (X x (av p))).aK A g λal G f w=>⟨_,rfl,λ_=>rN (z.trans w),λ_=>⟨V,V,_,f.af j,?_⟩⟩;refine(je _ _).aK (N.az G) (λa m=>w.lt (g a m)) λa m5 Q _ B=>⟨_,rfl,?_⟩;have hd:=sB x a Q;have y:=w.trans B;refine⟨λh=>?_,λh=>?_⟩
  ·rw[an h]at hd;intro m6;refine GI.jY ((o.ext f).ext B) (y.fz []) aJ V λr m7 L C I am=>⟨?_,H V _ _ ⟨C.ext,_,L,bR⟩⟩;exact N.nW (y.aN _) C.ext g
  ·rw[ae (by simp[h])]at hd;exact H V _ _ ⟨y,i,(o.ext f).ext B,V⟩
 ·refine(bF _ _ _ _).aK (N.az Y) (λa m=>A.lt (g a m)) λa G p _ f=>⟨_,rfl,λ_=>rN (q.trans f),λh=>?_⟩;have h:=yb p h;have y:=t.gV;rw[aP V V]at h;obtain⟨I,w⟩:=ag (l:=i) (k:=Z.toNat) V;exact⟨V,V,I,(t.ext f).D w,rN (q.trans f)⟩
end
section
variable{b:J}{d f h c:O}{g:List gB}{e:cK}{j:Nat}
def _root_.Go.Vc.cv{S a:List Nat}{d o:Nat}{l:List Ce}(i:d∈S)(g:∀c∈a,c∈S):Le (bM S b) (bM a (ah b d o l)):=
 oT λc _ e=>⟨λh=>e (g c h),bt _ _ _ _ λf=>e (f▸i)⟩
def Yb(a:Bk):Prop:=∀(b:J)(t:O),eD b t a.ar->∀left:Int,-1<=left->left<=600->sg 304 [.agg #[O.v t,vi a.aV],vi left] b λc=>-1<=c/\c<=600
def G6:∀m:Bk,Yb m:=by
 refine Bk.ind ?_;intro ar aa L b ab s left C E;simp only[Bk.jq,Bk.iH]at*;apply Ak;simp -zeta only[aC,aB];intro i;have z:N b i:=N.push _ _;have G:∀m∈[b.size],m<i.size:=by simp[i]
 clear_value i;have K:=s.len;have t:∀{g:J}{a:Int},N i g->-1<=a/\a<=600->∃c:Int,vi a=vi c/\(-1<=c/\c<=600)/\N b g:=λd q=>⟨_,rfl,q,z.trans d⟩;refine dS (n:=ar.length) (K▸s.gV) (λ_ a g=>N i g/\-1<=a/\a<=600) ⟨N.az _,C,E⟩ ?_;rintro c a O X μ hk ⟨o,q⟩ R
 refine⟨λd=>⟨λ_=>t o V,λD=>?_⟩,λ_=>t o q⟩;simp only[au]at d;simp only[bU]at D;obtain⟨e,w⟩:=ag (l:=ar) (k:=c) V;obtain⟨h,y,ha,p,Z,g1,g2,g3,u⟩:=(s.le (z.trans o).le).D w;have F:=p.len;rw[aP (b:=a -1) V V];refine dS (n:=e.bD.length) (F▸p.gV) (λ_ a g=>N O g/\-1<=a/\a<=600) ⟨N.az _,V,V⟩ ?_;rintro M S P Y μ2 hj ⟨j,r⟩ Q;refine⟨V,V,y,j.af u,λd=>?_,λ_=>R V _ _ ⟨o.trans j,r⟩⟩;simp only[au]at d;obtain⟨m,v⟩:=ag (l:=e.bD) (k:=M) V;obtain⟨T,I,A,B⟩:=(p.le j.le).D v;refine⟨V,V,y,j.af u,V,V,_,A,_,B,?_⟩;exact(L e (av w) m (av v) P T I S r.1 r.2).aK (o.trans j) G λf m4 H W U=>⟨_,rfl,λ_=>t U V,λd=>Q V _ _ ⟨j.trans W,H⟩⟩
def Kk{t:O}{c:Bk}(g:eD b t c.ar):DY 260 [.agg #[O.v t,vi c.aV]] b:=by
 apply DE;simp -zeta only[aC,aB];intro a;have d:N b a:=N.push _ _;have f:∀c∈[b.size],c<a.size:=by simp[a]
 clear_value a;exact(G6 c a t (g.le d.le) 600 V V).aK (N.az a) f λn h _ _ e=>⟨_,rfl,λ_=>rN (d.trans e),λ_=>rN (d.trans e)⟩
def YN(f:gB):dk:=⟨f.params,[],f.aV,0,[]⟩
def oa.mono:nM 5 oa:=⟨λb⟨h,a,c⟩=>⟨h,a,c.le b⟩,λ⟨h,a,_⟩=>by rw[a];rfl⟩
def La{H:List bu}(v:eg b d f H g):aL cp 303 [.agg #[O.v d,O.v f]] b λaa h=>∃x,aa=.agg #[O.v d,O.v x]/\eK h 5 (oa h) x (g.map YN)/\N b h:=by
 apply Fe;simp -zeta only[aC,aB];intro p a2 a3 a4 t;have ae:=v.ir.len;have hf:=v.nR;have x2:N b a2:=(N.push _ _).trans (N.push _ _);have Y:p.size=b.size+1:=by simp[p]
 have Z:a2.size=b.size+2:=by simp[a2,Y]
 have s3:a3.size=b.size+3:=by simp[a3,Z]
 have D:N a3 t:=(N.push a3 _).ah (ad _) _ _;have M:Gr [a3.size,p.size] a2 t eT 5 oa (.mk a2.size 0 0 0) []:=(Gr.new _ (ad _) _ _ _).ext oa.mono D;have F:cx t a3.size jP [.s d,.s (.mk a2.size 0 0 0)]:=cx.ah (m:=a4) (o:=0) (r:=[.s d,.s (.mk a2.size 0 0 0)]) (cx.push a3 _ _);have ab:N a2 t:=(N.push a2 _).trans D;clear_value t;have Q:∀q∈[p.size,b.size],q<a2.size/\q∉([]:List Nat):=bR;refine fB (n:=g.length) V (λc h=>N a2 h/\∃s,Gr [a3.size,p.size] a2 h eT 5 oa s ((g.take c).map YN)/\cx h a3.size jP [.s d,.s s]) ⟨ab,_,M,F⟩ ?_;rintro c S ac μ hk ⟨w,s,j,B⟩ U
 have C:=x2.trans w;refine dit (λP=>?_) λP=>?_
 ·obtain⟨W,z⟩:=ag (l:=g) (k:=c) V;have R:yH (bM (s.E::[a3.size,p.size]) S) f g:=v.ir.le ((zc b).trans ((C.fz []).bM aJ λq u=>Or.inr ?_))
  ·obtain⟨A,af,q,G,c2,c3,I,e1,J,e3,e4⟩:=R.D z;refine⟨s,B.bV 1,V,V,A,(dV.1 I).2,V,V,_,(dV.1 J).2,?_⟩;intro T;refine Gr.box (g:=[.s .nil,.i 0,.i 0,.i 0,.s .nil]) (j:=1) (i:=[.s d,.s s]) (w:=YN W) oa.mono bh j (w.fz []) ⟨A,rfl,G⟩ bR B aJ bh ⟨V,aJ⟩ (λq u=>by have E:=Q q u;have K:=j.be;have y:=w.size;omega) λX h L E K z' q'=>U V _ ⟨K.ext,X,?_,E⟩
   rw[bn z,fx];exact L
  ·have:=j.be;simp at u;omega
 ·refine⟨d,B.bV 0,s,B.bV 1,?_⟩;intro T;have z:=j.ne B bh;have A:=j.be;rw[cN V]at j;refine⟨s,rfl,?_,C.ah V _ _⟩;have y:=j.ns oa.mono bR bh bR;exact eK.le y ((cv (a:=[]) aJ aJ).trans (bG _ _)) λu e=>oa.mono.le ((cv (a:=[]) aJ aJ).trans (bG _ _))
def wV{t:List bu}(e:eg b d f t g):od 259 [.agg #[O.v d,O.v f]] b:=by
 apply sW;simp -zeta only[aC,aB];intro h;have a:N b h:=N.push _ _;have j:∀i∈[b.size],i<h.size:=by simp[h]
 clear_value h;have M:=e.ir.len;have K:=e.nR;refine⟨λ_=>rA a,λ_=>?_⟩;refine(La (e.le a.le)).mono λ_ P⟨J,u,y,m⟩=>?_;subst u;refine⟨m.dv j,_,_,rfl,?_⟩;have D:=a.trans m;refine(ua (e.le D.le).aT y).any.aK m j λi Q U p=>⟨_,rfl,λ_=>rA (a.trans p),λ_=>?_⟩;refine fB (n:=g.length) V (λ_ o=>N h o) p ?_;rintro c R I μ L o A
 refine⟨λx=>?_,λ_=>rA (a.trans o)⟩;simp only[au]at x;obtain⟨T,z⟩:=ag (l:=g) (k:=c) V;obtain⟨B,C,i,r,s,E,v,w,F,G,H⟩:=(e.le (a.trans o).le).ir.D z;refine⟨V,V,B,v,V,V,C,w,?_⟩;exact(tZ r s).any.aK o j λi S W q=>⟨_,rfl,λ_=>rA (a.trans q),λ_=>A V _ q⟩
def DJ{B:List bu}(j:eg b d f B g)(I:∀q∈g,q.params.length+4*q.body.w<=1000000000000):od 240 [.agg #[O.v d,O.v f]] b:=by
 apply wW;simp -zeta only[aC,aB];intro e;have p:N b e:=N.push _ _;have v:∀a∈[b.size],a<e.size:=by simp[e]
 clear_value e;have W:=j.ir.len;have T:=j.nR;refine(wV (j.le p.le)).aK (N.az e) v λa X z _=>⟨_,rfl,λ_=>rA (p.trans z),λ_=>?_⟩;refine fB (n:=g.length) V (λ_ h=>N e h) z ?_;rintro c o R μ U r M
 refine⟨λH=>?_,λ_=>rA (p.trans r)⟩;simp only[au]at H;obtain⟨q,w⟩:=ag (l:=g) (k:=c) V;have x:=p.trans r;obtain⟨P,Z,a,A,S,u,C,D,E,F,G⟩:=(j.le x.le).ir.D w;refine⟨V,V,_,C,_,D,_,E,_,F,_,G,?_⟩;intro J h;have m:N o h:=(N.push o _).ah (ad _) _ _;have s:∀a∈[o.size,b.size],a<h.size:=by
  have:=r.lt (v b.size aJ);have:h.size=o.size+1:=by simp[h,J,ay]
  simp;omega
 clear_value h;have t:=x.trans m;refine(Kk (u.le m.le)).aK (N.az h) s λL K i _=>⟨_,rfl,λ_=>rA (t.trans i),λ_=>?_⟩;refine(mR q.body K d f P a q.params (j.le (t.trans i).le) (A.ext (m.trans i)) (u.le (m.trans i).le) (I q (av w))).aK i s λL Y Q y=>⟨_,rfl,aM (Q.same _ (i.lt (s _ aJ))) _,λ_=>rA (t.trans y),λ_=>M V _ ((r.trans m).trans y)⟩
def xw(d:Int)(b:J):od 166 [vi d] b:=by
 apply ru;have f:∀a:Bool,∃c:Bool,vb a=.bool c/\N b b:=λa=>rA (N.az b);exact⟨λ_=>f _,λ_=>⟨λ_=>f _,λ_=>⟨λ_=>f _,λ_=>f _⟩⟩⟩
def U8(g:List gB)(e:cK):Prop:=e.op=9->0<=e.bL/\e.bL<g.length
structure At(b:J)(d f h c:O)(ds:List bu)(g:List gB)(e:cK):Prop where
 Pv:eg b d f ds g
 args:aq b h e.args
 call:U8 g e
def At.le{b k:J}{d f h c:O}{i:List bu}{g:List gB}{e:cK}(a:At b d f h c i g e)(j:Le b k):At k d f h c i g e:=⟨a.Pv.le j,a.args.le j,a.call⟩
def dF{o1 o2:Obj}{a c:J}(e:a=b.push o1)(f:c=a.push o2):N b c/\∀d∈[a.size,b.size],d<c.size:=by
 subst e f;exact⟨(N.push _ _).trans (N.push _ _),bR⟩
def nE{q:List bu}(a:At b d f h c q g e)(j:Int):od 306 [.agg #[O.v d,O.v f],oG e h c,vi j] b:=by
 apply EY;simp -zeta only[aC,aB];intro u i;obtain⟨m,s⟩:=dF (a:=u) (c:=i) rfl rfl;clear_value i;have E:=a.Pv.ir.len;refine⟨λn=>?_,λ_=>rA m⟩;simp only[aE]at n;have D:=a.call n;obtain⟨H,t⟩:=ag (l:=g) (k:=e.bL.toNat) V;obtain⟨G,v,o,x,p,y,z,r,A,B,C⟩:=(a.Pv.le m.le).ir.D t;exact⟨V,V,v,r,(dj p j).any.aK (N.az i) s λo F w _=>⟨_,rfl,rA (m.trans w)⟩⟩
def mg{s:O}{u:List bu}(m:At b d f h c u g e){v:List Int}(q:aq b s v)(x:∀y∈e.args,0<=y/\y<(v.length:Int))(w:j<e.args.length):od 302 [.agg #[O.v d,O.v f],O.v s,oG e h c,vi j] b:=by
 apply xY;simp -zeta only[aC,aB];intro A a;obtain⟨n,p⟩:=dF (a:=A) (c:=a) rfl rfl;clear_value a;have D:=m.args.len;have F:=q.len;obtain⟨y,r⟩:=ag w;have E:=x y (av r);obtain⟨C,z⟩:=ag (l:=v) (k:=y.toNat) V;refine(xw e.op a).aK (N.az a) p λt G o _=>⟨_,rfl,λ_=>?_,λ_=>rA (n.trans o)⟩;have i:=n.trans o;refine⟨V,V,y,(m.args.ext i).D r,V,V,C,(q.ext i).D z,λ_=>?_,λ_=>rA i⟩;exact(nE (m.le i.le) j).aK o p λt H I B=>⟨_,rfl,rA (n.trans B)⟩
def BL{t:List bu}(a:At b d f h c t g e)(w:j<e.args.length):od 334 [.agg #[O.v d,O.v f],oG e h c,vi j] b:=by
 apply vL;simp -zeta only[aC,aB];intro A o;obtain⟨s,x⟩:=dF (a:=A) (c:=o) rfl rfl;clear_value o;have v:=a.args.len;obtain⟨C,y⟩:=ag w;refine fB (n:=e.args.length) (v▸a.args.gV) (λ_ i=>N o i) (N.az _) ?_;rintro q G I μ F m B
 have i:=s.trans m;refine⟨λu=>⟨λ_=>?_,λ_=>?_⟩,λ_=>rA i⟩<;>simp only[au]at u<;>have p:=B V
 ·obtain⟨D,z⟩:=ag (l:=e.args) (k:=q) V;refine⟨V,V,D,(a.args.ext i).D z,V,V,C,(a.args.ext i).D y,λ_=>⟨λ_=>rA i,λ_=>?_⟩,λ_=>p _ m⟩;exact(nE (a.le i.le) q).aK m x λE H J r=>⟨_,rfl,λ_=>rA (s.trans r),λ_=>p _ r⟩
 ·exact p _ m
def zS{s r:O}{u:List bu}(i:At b d f h c u g e){z x:List Int}(w:aq b s z)(v:aq b r x)(p:j<e.args.length):od 319 [.agg #[O.v d,O.v f],oG e h c,vi j,O.v s,O.v r] b:=by
 apply Dp;simp -zeta only[aC,aB];intro A l;obtain⟨a,k⟩:=dF (a:=A) (c:=l) rfl rfl;clear_value l;have C:=i.args.len;obtain⟨y,q⟩:=ag p;refine⟨V,V,y,(i.args.ext a).D q,?_⟩;refine(dj (v.ext a) y).any.aK (N.az l) k λo D n _=>⟨_,rfl,λ_=>rA (a.trans n),λ_=>?_⟩;have t:=a.trans n;refine⟨V,V,y,(i.args.ext t).D q,?_⟩;refine(dj (w.ext t) y).any.aK n k λo E G m=>⟨_,rfl,λ_=>rA (a.trans m),λ_=>?_⟩;exact(BL (i.le (a.trans m).le) p).aK m k λo F H B=>⟨_,rfl,rA (a.trans B)⟩
end
section
def VY(b:Bk):Prop:=∀(S:List Nat)(m:J),(∀c∈S,c<m.size)->∀(t a:O)(l:List Int)(n:Int)(k:Nat),eD m t b.ar->aq (bM S m) a l->k<=b.ar.length->l.length+b.w<=1000000000000->
 DX 288 [.agg #[O.v t,vi b.aV],vi n,vi k,O.v a] m S λc=>c.length<=l.length+b.w
def _root_.Go.Vc.Vp{σ:Type}{n b:Nat}(l:b<=n)(q:n<=9223372036854775807){m:J}{g:σ}{f:(σ->Int->J->Prop)->(σ->Int->J->Nat)->σ->Int->J->Prop}(Q:Nat->σ->J->Prop)(j:Q b g m)
 (h:∀(k:Nat)(s:σ)(a:J)(I:σ->Int->J->Prop)(μ:σ->Int->J->Nat),b<=k->k<=n->Q k s a->
  (k<n->∀d c,Q (k+1) d c->I d (cR ((k:Int)+1)) c/\μ d (cR ((k:Int)+1)) c<μ s k a)->f I μ s k a):
 ∃(I:σ->Int->J->Prop)(μ:σ->Int->J->Nat),I g b m/\∀s i a,I s i a->f I μ s i a:=by
 refine⟨λs i c=>∃k:Nat,i=k/\b<=k/\k<=n/\Q k s c,λ_ i _=>(n -i).toNat,⟨b,rfl,ad _,l,j⟩,?_⟩
 rintro s i a ⟨k,rfl,o,p,r⟩
 refine h k s a _ _ o p r λe d c t=>?_
 rw[kV e q]
 exact⟨⟨k+1,rfl,V,e,t⟩,EB e⟩
def C5{S:List Nat}{m:J}(R:∀i∈S,i<m.size){D G I:O}{f:List Int}{x:cK}(L:Int)(t:aq m D x.args)(v:np m G x.bD)(F:aq (bM S m) I f)(hb:f.length+x.w<=1000000000000)(X:∀e∈x.bD,VY e):
 DX 318 [oG x D G,vi L,O.v I] m S λa=>a.length<=f.length+x.w:=by
 apply wD
 simp -zeta only[aC,aB]
 intro b
 have g:N m b:=N.push _ _
 have w:∀e∈[m.size],e<b.size:=by simp[b]
 clear_value b
 have T:=t.len
 have U:=v.len
 have hw:=cK.lO x
 have H:∀{c:J},N b c->∀i∈S,i<c.size:=λh i E=>aO (R i E) (g.trans h).size
 refine(sR x.op b).any.aK (N.az b) w λe m2 q _=>⟨_,rfl,λ_=>⟨_,_,rfl,F.le ((g.trans q).cW S),V,g.trans q⟩,λ_=>?_⟩
 refine dS (n:=x.args.length) (T▸t.gV) (λz s c=>N b c/\∃a,aq (bM S c) s a/\a.length<=f.length+z) ⟨q,f,F.le ((g.trans q).cW S),ad _⟩ ?_
 rintro z s m3 ac μ hj ⟨d,a,o,E⟩ B
 have u3:=g.trans d
 refine dit (λh=>?_) λh=>?_
 ·obtain⟨y,j⟩:=ag (l:=x.args) (k:=z) V
  have g1:=(t.ext u3).D j
  refine⟨V,V,y,g1,λ_=>⟨V,V,y,g1,λ_=>⟨V,V,y,g1,?_⟩,λ_=>B V _ _ ⟨d,a,o,V⟩⟩,λ_=>B V _ _ ⟨d,a,o,V⟩⟩
  exact(lT (H d) o y V).aK d w λaa A K g2 C r p=>⟨_,rfl,B V _ _ ⟨p,A,g2.done (H d) (by have:=C.2;omega),by have:=C.2;omega⟩⟩
 ·refine dS (n:=x.bD.length) (U▸v.gV) (λj s c=>N b c/\∃a,aq (bM S c) s a/\a.length<=f.length+x.args.length+bw (x.bD.take j)) ⟨d,a,o,bR⟩ ?_
  rintro j s2 K I2 μ2 hi ⟨r,A,g2,af⟩ Z
  have p:=g.trans r
  have y:=Je x.bD
  refine⟨λh=>?_,λh=>⟨_,_,rfl,g2,by have:=y j;omega,p⟩⟩
  simp only[au]at h
  obtain⟨e,u⟩:=ag (l:=x.bD) (k:=j) V
  obtain⟨ab,W,M,P⟩:=(v.le p.le).D u
  have ae:=tL u
  refine⟨V,V,_,M,_,P,?_⟩
  exact(X e (av u) S K (H r) ab s2 A L 0 W g2 (eY _) (by have:=y (j+1);omega)).aK r w λaa Y m5 Q C x5 u5=>⟨_,rfl,Z V _ _ ⟨u5,Y,Q,V⟩⟩
def zq:∀e:Bk,VY e:=by
 refine Bk.ind ?_;intro ar R L S q D ac ab o M k0 i I F Y;simp only[Bk.jq,Bk.iH,Bk.pW]at*;apply C6;simp -zeta only[aC,aB];intro a;have d:N q a:=N.push _ _;have u:∀e∈[q.size],e<a.size:=by simp[a]
 clear_value a;have K:=i.len;have H:∀{c:J},N a c->∀f∈S,f<c.size:=λh f t=>aO (D f t) (d.trans h).size;refine Vp (n:=ar.length) F (K▸i.gV) (λj s c=>N a c/\∃p,aq (bM S c) s p/\p.length<=o.length+sw (ar.take j)) ⟨N.az _,o,I.le (d.cW S),V⟩ ?_;rintro j s x W μ _ Z ⟨b,p,g,t⟩ P
 have A:=d.trans b;have v:=Aw ar;refine⟨λh=>?_,λh=>?_⟩
 ·simp only[au]at h;obtain⟨U,m⟩:=ag (l:=ar) (k:=j) V;obtain⟨X,kk,E,G,y,g1,g2,z,B⟩:=(i.le A.le).D m;have aa:=pu m;refine⟨V,V,_,y,_,g1,_,g2,_,z,_,B,?_⟩;exact(C5 (H b) M E G g (by have:=v (j+1);omega) (L U (av m))).aK b u λQ w m3 C r x3 T=>⟨_,rfl,P V _ _ ⟨T,w,C,V⟩⟩
 ·have C:=v j;have y:∃z m,O.v s=O.v z/\aq (bM S x) z m/\m.length<=o.length+(1+sw ar)/\N q x:=⟨_,_,rfl,g,V,A⟩;refine⟨λ_=>⟨λ_=>?_,λ_=>y⟩,λ_=>y⟩;exact(lT (H b) g R V).aK b u λQ w E g2 r G B=>⟨_,rfl,_,_,rfl,g2.done (H b) (by have:=r.2;omega),by have:=r.2;omega,d.trans B⟩
def Cz{S:List Nat}{m:J}(i:∀d∈S,d<m.size){t:O}{b:Bk}(l:eD m t b.ar)(n:Int)(c:b.w<=1000000000000):DX 253 [.agg #[O.v t,vi b.aV],vi n] m S λf=>f.length<=b.w:=by
 apply Fh;simp -zeta only[aC,aB];intro g a;obtain⟨e,k⟩:=dF (a:=g) (c:=a) rfl rfl;have h:aq (bM S a) (.mk g.size 0 0 0) []:=⟨rfl,ad _,aJ,aJ⟩;clear_value a;exact(zq b S a (λd j=>e.lt (i d j)) t _ _ n 0 (l.le e.le) h (eY _) (by simpa using c)).aK (N.az a) (λb c=>k b (by simp at c⊢;exact Or.inr c)) λr f j g2 q d _=>⟨_,rfl,_,_,rfl,g2,by simpa using q,e.trans d⟩
section
variable{b:List Nat}{m:J}(e:∀c∈b,c<m.size){d r a q u t s:O}{w:List bu}{A:List gB}{x:cK}(h:At m d r a q w A x){v g z:List Int}(p:aq m u v)(o:∀y∈x.args,0<=y/\y<(v.length:Int))(f:aq m t g)(j:aq m s z)
include e h p o
def xU(P:x.args.length<=1000000000000):ku 257 [.agg #[O.v d,O.v r],O.v u,oG x a q] m b (oK x.args):=by
 apply tz;simp -zeta only[aC,aB];intro K g R;obtain⟨t,D⟩:=dF (a:=K) (c:=g) rfl rfl;clear_value g;have J:=h.args.len;refine dS (n:=x.args.length) (J▸h.args.gV) (λj z s=>N g s/\∃f,GI b g s z f/\(∀y∈f,y∈x.args)/\f.length<=j) ⟨N.push _ _,[],GI.nil b g,aJ,ad _⟩ ?_;rintro j z S L μ Q ⟨G,f,v,w,C⟩ F
 have A:=t.trans G;refine dit (λI=>?_) λI=>?_
 ·obtain⟨y,E⟩:=ag (l:=x.args) (k:=j) V;refine(mg (h.le A.le) (p.ext A) o (j:=j) V).aK G D λM T H s=>⟨_,rfl,λ_=>⟨V,V,y,(h.args.ext (t.trans s)).D E,?_⟩,λ_=>F V _ _ ⟨s,f,v.ext H,w,V⟩⟩;intro U;exact GI.jY (v.ext H) (s.fz []) (λc C=>t.lt (e c C)) V λr W g2 B _ _=>⟨N.nW (s.aN _) B.ext D,F V _ _ ⟨B.ext,_,g2,ov w (av E),bR⟩⟩
 ·exact⟨z,f,rfl,v.ct (λ_ h=>h) t.size,⟨w,V⟩,A⟩
include f j
def EP(Y:x.args.length<=1000000000000):ku 290 [.agg #[O.v d,O.v r],O.v u,oG x a q,O.v t,O.v s] m b (oK x.args):=by
 apply xW;simp -zeta only[aC,aB];intro U w aa;obtain⟨z,D⟩:=dF (a:=U) (c:=w) rfl rfl;clear_value w;have T:=h.args.len;refine dS (n:=x.args.length) (T▸h.args.gV) (λv F A=>N w A/\∃g,GI b w A F g/\(∀y∈g,y∈x.args)/\g.length<=v) ⟨N.push _ _,[],GI.nil b w,aJ,ad _⟩ ?_;rintro v F m3 X μ Z ⟨P,g,A,B,L⟩ E
 have G:=z.trans P;refine dit (λS=>?_) λS=>?_
 ·obtain⟨y,M⟩:=ag (l:=x.args) (k:=v) V;refine(mg (h.le G.le) (p.ext G) o (j:=v) V).aK P D λR m4 J H=>⟨_,rfl,λ_=>?_,λ_=>E V _ _ ⟨H,g,A.ext J,B,V⟩⟩;have I:=z.trans H;refine(zS (h.le I.le) (f.ext I) (j.ext I) (j:=v) V).aK H D λR m5 Q C=>⟨_,rfl,λ_=>⟨V,V,y,(h.args.ext (z.trans C)).D M,?_⟩,λ_=>E V _ _ ⟨C,g,(A.ext J).ext Q,B,V⟩⟩;intro W;exact GI.jY ((A.ext J).ext Q) (C.fz []) (λc L=>z.lt (e c L)) V λr W g2 K _ _=>⟨N.nW (C.aN _) K.ext D,E V _ _ ⟨K.ext,_,g2,ov B (av M),bR⟩⟩
 ·exact⟨F,g,rfl,A.ct (λ_ h=>h) z.size,⟨B,V⟩,G⟩
def GD(Y:g.length<=1000000000000):ku 292 [.agg #[O.v d,O.v r],O.v u,oG x a q,O.v t,O.v s] m b (oK g):=by
 apply zU;simp -zeta only[aC,aB];intro m0 B;obtain⟨w,G⟩:=dF (a:=m0) (c:=B) rfl rfl;clear_value B;have ah:=h.args.len;have ac:∀{z:J},N B z->∀c∈b,c<z.size:=λh c hc=>aO (e c hc) (w.trans h).size;have X:aL cp 321 [O.v t,O.v s] B λv z=>dR [m0.size,m.size] B z/\∃aa:O,v=O.v aa/\∃C Z,O.v aa=O.v C/\GI b m z C Z/\oK g Z/\N m z:=by
  refine(KW (S:=[]) aJ (f.le (w.le.trans (zc _))) (j.le (w.le.trans (zc _))) Y).aK (N.az B) G λC A ai E K T _=>⟨_,rfl,C,A,rfl,?_,K,w.trans T⟩;obtain⟨F,L,g1,g2⟩:=E;exact⟨F,L,g1.ct w.size,g2.mono λ_ _ h=>h⟩
 refine⟨λ_=>X,λ_=>⟨λ_=>X,λ_=>?_⟩⟩;refine(lK (S:=[]) aJ (f.le (w.le.trans (zc _))) Y).aK (N.az B) G λs0 _ ai F af T _=>⟨_,rfl,?_⟩;subst af;refine dS (n:=x.args.length) (ah▸h.args.gV) (λI C z=>N B z/\∃A,GI b m z C A/\oK g A) ⟨T,g,?_,λ_ h=>h,ad _⟩ ?_
 ·obtain⟨F,L,g1,g2⟩:=F;exact⟨F,L,g1.ct w.size,g2.mono λ_ _ h=>h⟩
 rintro I C m3 aj μ hj ⟨x3,A,E,D⟩ M
 have P:=w.trans x3;refine⟨λW=>?_,λW=>⟨C,A,rfl,E,D,P⟩⟩;simp only[au]at W;obtain⟨y,hy⟩:=ag (l:=x.args) (k:=I) V;refine(mg (h.le P.le) (p.ext P) o (j:=I) V).aK x3 G λae m4 U Q=>⟨_,rfl,λ_=>?_,λ_=>M V _ _ ⟨Q,A,E.ext U,D⟩⟩;have R:=w.trans Q;refine(zS (h.le R.le) (f.ext R) (j.ext R) (j:=I) V).aK Q G λae m5 x5 H=>⟨_,rfl,λ_=>⟨V,V,y,(h.args.ext (w.trans H)).D hy,?_⟩,λ_=>M V _ _ ⟨H,A,(E.ext U).ext x5,D⟩⟩;refine(Au (S:=b) (ac H) (((E.ext U).ext x5).done e (by have:=D.2;omega)) y (by have:=D.2;omega)).aK H G λr l2 m6 g2 K x6 u6=>⟨_,rfl,M V _ _ ⟨u6,l2,g2.ct (λ_ h=>h) (w.trans H).size,λab hz=>D.1 ab (K.1 ab hz),bX K.2 D.2⟩⟩
omit p o
def GF(hb:x.args.length<1000000000000):ku 293 [.agg #[O.v d,O.v r],oG x a q,O.v t,O.v s] m b (oK x.args):=by
 apply zV;simp -zeta only[aC,aB];intro Z o ab;obtain⟨g,A⟩:=dF (a:=Z) (c:=o) rfl rfl;clear_value o;have W:=h.args.len;have T:∀{v:J},N o v->∀c∈b,c<v.size:=λh c z=>aO (e c z) (g.trans h).size;refine dS (n:=x.args.length) (W▸h.args.gV) (λC I v=>N o v/\∃i,GI b o v I i/\(∀y∈i,y∈x.args)/\i.length<=C) ⟨N.push _ _,[],GI.nil b o,aJ,ad _⟩ ?_;rintro C I m3 aa μ hj ⟨Q,i,p,u,z⟩ D
 have P:=g.trans Q;refine dit (λU=>?_) λU=>?_
 ·obtain⟨y,B⟩:=ag (l:=x.args) (k:=C) V;refine(nE (h.le P.le) C).aK Q A λL m4 G E=>⟨_,rfl,λ_=>⟨V,V,y,(h.args.ext (g.trans E)).D B,?_⟩,λ_=>D V _ _ ⟨E,i,p.ext G,u,V⟩⟩;refine(dj (f.ext (g.trans E)) y).any.aK E A λL m5 K F=>⟨_,rfl,λ_=>⟨V,V,y,(h.args.ext (g.trans F)).D B,?_⟩,λ_=>D V _ _ ⟨F,i,(p.ext G).ext K,u,V⟩⟩;refine(dj (j.ext (g.trans F)) y).any.aK F A λL m6 R w=>⟨_,rfl,λ_=>⟨V,V,y,(h.args.ext (g.trans w)).D B,?_⟩,λ_=>D V _ _ ⟨w,i,((p.ext G).ext K).ext R,u,V⟩⟩;refine(lT (T w) ((((p.ext G).ext K).ext R).done (λc z=>g.lt (e c z)) V) y V).aK w A λr Y m7 g2 M x7 u7=>⟨_,rfl,D V _ _ ⟨u7,Y,g2.ct (λ_ h=>h) w.size,λS X=>?_,by have:=M.2;omega⟩⟩;rcases M.1 S X with H|H
  ·exact u S H
  ·subst H;exact av B
 ·exact⟨I,i,rfl,p.ct (λ_ h=>h) g.size,⟨u,V⟩,P⟩
end
end
section
variable{m e a:J}{c g:List Nat}{s:O}{d:List Int}{f h:Nat}{K:Value->J->Prop}
def pH{o1 o2 o3:Obj}{a b c:J}(e:a=m.push o1)(f:b=a.push o2)(g:c=b.push o3):N m c/\(∀d∈[b.size,a.size,m.size],d<c.size)/\a.size=m.size+1/\b.size=m.size+2/\c.size=m.size+3:=by
 subst e f g;exact⟨((N.push _ _).trans (N.push _ _)).trans (N.push _ _),bR,aJ,aJ,aJ⟩
def GI.QB{X:List Nat}{n:J}{h:O}{l:List Int}{a:Int}{K:O->J->Prop}(p:GI c e m s d)(j:GI g n m h l)(k:s.E≠h.E)(q:Fz X e m)(w:d.length<=1000000000000)
 (t:∀r b,GI c e b r (d++[a])->GI g n b h l->r.E≠h.E->Fz X e b->K r b):jh (m.push (.cells (bC [.i a]) aI)) aI [.i 0] 8 s (.mk m.size 0 1 1) K:=by
 have u:=j.be
 refine Gr.jY (g:=[.i 0]) tq.mono bh p q rfl V λr b o f z v=>t r b o (j.iL (v _ u.2 (km k))) ?_ f
 rcases z.2 with i|i
 ·rw[i];exact k
 ·omega
def GI.any(h:GI c e m s d):GI g e m s d:=by
 obtain⟨b,a,f,i⟩:=h;exact⟨b,a,f,i.mono λ_ _ h=>h⟩
def eN(a v:Int):cK:=⟨a,0,0,[v],[]⟩
abbrev GS(c:List Nat)(e m:J)(s:O)(d:List cK):Prop:=Gr c e m fJ 5 gG s d
def GS.new(c:List Nat)(m:J):GS c m (m.push (.cells (bC []) fJ)) (.mk m.size 0 0 0) []:=Gr.new c (ad _) _ _ _
def GS.jY{c X:List Nat}{e m:J}{s a k:O}{d:List cK}{x:cK}{K:O->J->Prop}(h:GS c e m s d)(j:Fz X e m)(i:aq (bM (s.E::c) m) a x.args)(l:np (bM (s.E::c) m) k x.bD)(n:d.length<=1000000000000)
 (g:∀r b,GS c e b r (d++[x])->Fz X e b->m.size<=b.size/\(r.E=s.E\/m.size<=r.E)->(∀f,f<m.size->f≠s.E->b[f]? =m[f]?)->K r b):
 jh (m.push (.cells (bC [.i x.op,.i x.bL,.i x.bH,.s a,.s k]) fJ)) fJ [.i 0,.i 0,.i 0,.s .nil,.s .nil] 72 s (.mk m.size 0 1 1) K:=
 Gr.jY (g:=[.i 0,.i 0,.i 0,.s .nil,.s .nil]) gG.mono bh h j ⟨a,k,rfl,i,l⟩ V g
def GS.all{c X:List Nat}{e m:J}{s x:O}{d f:List cK}{K:O->J->Prop}(h:GS c e m s d)(i:Fz X e m)(j:eD (bM (s.E::c) m) x f)(k:d.length+f.length<=1000000000000)
 (g:∀r a,GS c e a r (d++f)->Fz X e a->m.size<=a.size/\(r.E=s.E\/m.size<=r.E)->(∀b,b<m.size->b≠s.E->a[b]? =m[b]?)->K r a):
 jh m fJ [.i 0,.i 0,.i 0,.s .nil,.s .nil] 72 s x K:=
 Gr.all (g:=[.i 0,.i 0,.i 0,.s .nil,.s .nil]) gG.mono bh h i j V g
def lZ{α:Type}(m:J)(a:Nat)(R:List Ce->α->Prop)(b o c:Nat):eK m a R (.mk b o 0 c) []:=⟨rfl,eY _,aJ,aJ⟩
def iz(n:∀f∈c,f<m.size)(g v:Int):aL cp 225 [vi g,vi v] m λs d=>∃a k,s=oG (eN g v) a k/\aq (bM c d) a [v]/\np (bM c d) k []/\N m d:=by
 apply Bv;simp -zeta only[aC,aB];intro b e q r;have t:N m b:=N.push _ _;have u:N b e:=N.push _ _;have i:N e q:=N.push _ _;have w:b.size=m.size+1:=by simp[b]
 have p:N m r:=((t.trans u).trans i).ah (ad _) _ _;refine⟨_,_,rfl,?_,lZ _ _ _ _ _ _,p⟩;have l:aq (bM (m.size::c) e) (.mk b.size 0 1 1) [v]:=aq.lit aI [v] (λj o=>by
  rcases List.mem_cons.1 o with h|h
  ·omega
  ·have:=n j h;omega) rfl rfl aJ
 exact(l.le (i.cW _)).le (cv aX λf h=>ai _ h)
def PU(f:Nat)(b:List Value)(m:J)(c:List Nat)(Q:List cK->Prop):Prop:=aL cp f b m λv a=>∃s d,v=O.v s/\GS c m a s d/\Q d/\N m a
def PU.aK{i:List Value}{d:List Nat}{Q:List cK->Prop}(l:PU f i m c Q)(j:N a m)(q:∀g∈d,g<a.size)(p:∀s e b,GS c m b s e->Q e->N m b->N a b->K (O.v s) b):aL cp f i m λv b=>dR d m b/\K v b:=
 l.mono λ_ b⟨s,e,k,n,r,h⟩=>⟨h.dv λg o=>j.lt (q g o),k▸p s e b n r h (j.trans h)⟩
def eI(z:∀i∈c,i<m.size)(b:Int){r:O}(j:aq m r d)(D:d.length<=1000000000000):PU 255 [vi b,O.v r] m c (d.map (eN b)=·):=by
 apply zI;intro G;have B:=j.len;refine dS (n:=d.length) (B▸j.gV) (λo s e=>N m e/\GS c m e s ((d.take o).map (eN b))) ⟨N.push m _,by simpa using GS.new c m⟩ ?_;rintro o s H I μ E ⟨g,e⟩ C
 refine dit (λh=>?_) λh=>?_
 ·obtain⟨p,q⟩:=ag (l:=d) (k:=o) V;refine⟨V,V,p,(j.ext g).D q,?_⟩;refine(iz (c:=s.E::c) (λi A=>?_) b p).mono λQ J⟨a,F,u,w,y,t⟩=>?_
  ·have:=e.be;rcases List.mem_cons.1 A with h|h
   ·omega
   ·exact g.lt (z i h)
  subst u;refine⟨_,_,_,_,_,rfl,?_⟩;intro K;refine GS.jY (x:=eN b p) (e.ext gG.mono t) ((g.trans t).fz []) w y bR λP L v f R M=>C V _ _ ⟨f.ext,?_⟩
  rw[bn q,fx];exact v
 ·rw[cN V]at e;exact⟨s,_,rfl,e,rfl,g⟩
def nO(a:Int):∀d:List Int,sw (d.map (eN a))=2*d.length
 |[]=>rfl
 |v::d=>by rw[cE,mh,nO a d,cK.lO];simp[eN];omega
def js{a:Int}(h:14<=a):∀d:List Int,dc (d.map (eN a))=0
 |[]=>rfl
 |v::d=>by
  rw[cE,jR,js h d];unfold dn;rw[ae (λb:oI (eN a v).op=>by have:=b.2;simp only[eN]at this;omega)]
def CL{e:List bu}{a:Nat}{c v:Int}(f:14<=c/\c<=17)(g:0<=v/\v<(a:Int)):WS e h True a (eN c v):=
 ⟨⟨Or.inr ⟨trivial,f⟩,λx d=>by simp[eN]at d;subst d;exact g,λ_=>rfl,by simp[eN],λb=>by simp only[eN]at b;omega,λb=>by simp only[eN]at b;omega,λb=>by simp only[eN]at b;omega⟩,λk d b=>by simp[eN]at b⟩
def qT{f:List bu}{a:Nat}{b:Int}(c:14<=b/\b<=17)(g:∀v∈d,0<=v/\v<(a:Int)):WL f h True a (d.map (eN b)):=λj s e=>by
 rw[cU,iW]at e;obtain⟨v,i,rfl⟩:=e;rw[<-Ma,js c.1];exact CL c (g v (av i))
def mX(f:Nat)(d:List Value)(m:J)(c:List Nat)(Q:Bk->Prop):Prop:=aL cp f d m λv a=>∃s b,v=.agg #[O.v s,vi b.aV]/\eD (bM c a) s b.ar/\Q b/\N m a
def mX.aK{h:List Value}{d:List Nat}{Q:Bk->Prop}(l:mX f h m c Q)(i:N a m)(q:∀e∈d,e<a.size)(p:∀s e b,eD (bM c b) s e.ar->Q e->N m b->N a b->K (.agg #[O.v s,vi e.aV]) b):aL cp f h m λv b=>dR d m b/\K v b:=
 l.mono λ_ b⟨s,e,k,n,r,g⟩=>⟨g.dv λj o=>i.lt (q j o),k▸p s e b n r g (i.trans g)⟩
def IY(f:Nat)(d:List Value)(m:J)(c:List Nat)(Q:cK->Prop):Prop:=aL cp f d m λv b=>∃a k x,v=oG x a k/\aq (bM c b) a x.args/\np (bM c b) k x.bD/\Q x/\N m b
def IY.aK{g:List Value}{d:List Nat}{Q:cK->Prop}(l:IY f g m c Q)(h:N a m)(s:∀b∈d,b<a.size)(r:∀p k x b,aq (bM c b) p x.args->np (bM c b) k x.bD->Q x->N m b->N a b->K (oG x p k) b):aL cp f g m λv b=>dR d m b/\K v b:=
 l.mono λ_ b⟨p,k,x,j,n,o,t,e⟩=>⟨e.dv λi q=>h.lt (s i q),j▸r p k x b n o t e (h.trans e)⟩
def bP{b:J}(e:∀a∈c,a<m.size)(i:m.size<=b.size){d:Nat}(g:d<b.size):∀a∈d::c,a<b.size:=λa f=>by
 rcases List.mem_cons.1 f with h|h
 ·omega
 ·have:=e a h;omega
structure XR(ds:List bu)(h:Nat)(v lo la:List Int)(b:Bk):Prop where
 aQ:∀o∈lo,0<=o/\o<(v.length:Int)
 VS:lo.length+5*b.w<=500
 VR:la.length+1000*b.w<=1000000
 vN:v.length+5*b.w<=1000000
 wb:WB ds h False v.length b
def U7(a:List bu)(d:List gB)(b:Bk):Prop:=∀(c:List Nat)(m:J),(∀e∈c,e<m.size)->∀(g r k t j e:O)(v i h:List Int),eg m g r a d->aq m k v->eD m t b.ar->aq m j i->aq m e h->XR a d.length v i h b->
 mX 254 [.agg #[O.v g,O.v r],O.v k,.agg #[O.v t,vi b.aV],O.v j,O.v e] m c λf=>WB a d.length True v.length f/\f.w+1050<=1100*b.w
structure XQ(ds:List bu)(h:Nat)(v fl lo la:List Int)(b:Bk):Prop where
 aQ:∀o∈lo,0<=o/\o<(v.length:Int)
 ZN:fl.length<=3
 VS:lo.length+3+5*b.w<=500
 VR:la.length+1000*b.w<=1000000
 vN:v.length+3+5*b.w<=1000000
 wb:WB ds h False (v.length+fl.length) b
def Ic(hS:∀a∈c,a<m.size){ar H aX aR aD bo a7:O}{ds:List bu}{rs:List gB}{R P lo la:List Int}{j:Bk}(hn:eg m ar H ds rs)(hv:aq m aX R)(hf:aq m aR P)(hs:eD m aD j.ar)(w:aq m bo lo)(bf:aq m a7 la)
 (hp:XQ ds rs.length R P lo la j)(ih:U7 ds rs j):mX 320 [.agg #[O.v ar,O.v H],O.v aX,O.v aR,.agg #[O.v aD,vi j.aV],O.v bo,O.v a7] m c λt=>WB ds rs.length True (R.length+P.length) t/\t.w<=1100*j.w:=by
 apply Bt
 simp -zeta only[aC,aB]
 intro e r F
 obtain⟨z,v,s0,s1,s2⟩:=pH (a:=e) (b:=r) (c:=F) rfl rfl rfl
 clear_value F
 have b8:=hv.len;have bA:=hf.len;have bF:=w.len;have bV:=hp.ZN;have bT:=j.Fu;have bX:=hp.VS;have b7:=hp.vN;have bW:=hp.VR
 refine(eB (S:=[]) aJ (hv.le (z.le.trans (zc _))) (hf.le (z.le.trans (zc _))) V).aK (N.az F) v λaS _ ca gi h x3 _=>⟨_,rfl,?_⟩
 subst h
 refine(Cz (S:=[]) aJ (hs.le (z.trans x3).le) _ V).aK x3 v λbK ul G hu b6 x4 I=>⟨_,rfl,?_⟩
 intro m5 m6
 have bj:aq G bK ul:=hu.le (bG _ _)
 have bs:N G m6:=(N.push G _).trans (N.push m5 _)
 have u6:=I.trans bs
 have s5:m5.size=G.size+1:=by simp[m5]
 have gm:GI c G m6 (.mk G.size 0 0 0) []:=(GI.nil c G).ext (N.push m5 _)
 have gd:GI c G m6 (.mk m5.size 0 0 0) []:=(GI.nil c m5).ct (λ_ u=>u) V
 clear_value m6
 have z4:=I.size
 refine wi (n:=lo.length) (bF▸w.gV) (λaj i sd M=>N G M/\∃X L,GI c G M i X/\GI c G M sd L/\i.E≠sd.E/\(∀q∈X,q∈lo)/\(∀q∈L,q∈lo)/\X.length<=aj/\L.length<=aj) ⟨bs,[],[],gm,gd,bR,aJ,aJ,ad _,ad _⟩ ?_
 rintro aj i sd m7 bt μ hk ⟨x7,X,L,gm,gd,bg,a3,a2,cm,cd⟩ bn
 have u7:=I.trans x7
 have v7:=z.trans u7
 refine dit (λu=>?_) λu=>?_
 ·obtain⟨y,hy⟩:=ag (l:=lo) (k:=aj) V
  have D:=av hy
  have C:∀M,N m7 M->jh (M.push (.cells (bC [.i y]) aI)) aI [.i 0] 8 i (.mk M.size 0 1 1) λQ m'=>dR [r.size,e.size,m.size] (M.push (.cells (bC [.i y]) aI)) m'/\bt Q sd (cR ((aj:Int)+1)) m'/\μ Q sd (cR ((aj:Int)+1)) m'<μ i sd aj m7:=λM ab=>
   GI.QB (gm.ext ab) (gd.ext ab) bg ((x7.trans ab).fz []) V λH m' B g' o f=>⟨N.nW ((u7.trans ab).aN _) (I.trans f.ext) v,bn V _ _ _ ⟨f.ext,_,_,B,g',o,ov a3 D,a2,bR,V⟩⟩
  refine⟨V,V,y,(w.ext v7).D hy,?_⟩
  refine(dj (bj.ext x7) y).any.aK u7 v λa m8 p b=>⟨_,rfl,λ_=>⟨V,V,y,(w.ext (z.trans b)).D hy,C m8 p⟩,λ_=>⟨V,V,y,(w.ext (z.trans b)).D hy,?_⟩⟩
  refine(dj (bf.ext (z.trans b)) y).any.aK b v λa A T u9=>⟨_,rfl,λ_=>⟨V,V,y,(w.ext (z.trans u9)).D hy,C A (p.trans T)⟩,λ_=>⟨V,V,y,(w.ext (z.trans u9)).D hy,?_⟩⟩
  intro a8
  have ab:=p.trans T
  exact GI.QB (gd.ext ab) (gm.ext ab) bg.symm ((x7.trans ab).fz []) V λH m' B g' o f=>⟨N.nW ((u7.trans ab).aN _) (I.trans f.ext) v,bn V _ _ _ ⟨f.ext,_,_,g',B,o.symm,a3,ov a2 D,V,bR⟩⟩
 have cm:X.length<=lo.length:=V
 have cd:L.length<=lo.length:=V
 intro m8
 have bZ:=gm.be
 have bU:=gd.be
 refine dS (n:=P.length) (bA▸hf.gV) (λaj s M=>N m7 M/\∃d,GI c m7 M s d/\(∀q∈d,0<=q/\q<((R.length+P.length:Nat):Int))/\d.length<=aj) ⟨N.push _ _,[],GI.nil c m7,aJ,ad _⟩ ?_
 rintro bk su A I2 μ2 hj ⟨T,C,gu,au,cu⟩ a_
 have u9:=u7.trans T
 have v9:=z.trans u9
 refine dit (λh2=>?_) λh2=>?_
 ·obtain⟨y,hy⟩:=ag (l:=P) (k:=bk) V
  refine⟨V,V,y,(hf.ext v9).D hy,λ_=>?_,λ_=>a_ V _ _ ⟨T,C,gu,au,V⟩⟩
  rw[aP (b:=(aX.len:Int)+bk) V V]
  refine(dj ((bj.ext x7).ext T) _).any.aK u9 v λa a8 am aW=>⟨_,rfl,λ_=>?_,λ_=>a_ V _ _ ⟨T.trans am,C,gu.ext am,au,V⟩⟩
  intro bl
  refine GI.jY (gu.ext am) ((T.trans am).fz []) (λa b=>aO (hS a b) (z.trans u7).size) V λH m' B f ao aa=>⟨N.nW ((u9.trans am).aN _) (u7.trans f.ext) v,a_ V _ _ ⟨f.ext,_,B,λq w=>?_,bR⟩⟩
  rcases List.mem_append.1 w with w|w
  ·exact au q w
  ·simp at w;omega
 have b5:=gu.be
 have a1:=gm.ext T
 have bx:∀{M:J},N F M->∀a∈r.size::c,a<M.size:=λu=>bP hS (z.trans u).size (u.lt (v _ aJ))
 have aN:∀{M:J},N F M->i.E<M.size->∀a∈i.E::r.size::c,a<M.size:=λu W a b=>by
  rcases List.mem_cons.1 b with h|h
  ·omega
  ·exact bx u a h
 refine(eI (c:=i.E::r.size::c) (aN u9 a1.be.2) 14 ((gu.done (S:=c) (λa b=>aO (hS a b) (z.trans u7).size) V).le (bG _ _)) V).aK u9 v λs1 _ a8 g1 h am aW=>⟨_,rfl,?_⟩
 subst h
 have a5:i.E<a8.size:=am.lt a1.be.2
 refine(eI (c:=s1.E::i.E::r.size::c) (λa b=>?_) 15 ((((gd.done (S:=c) (λa b=>aO (hS a b) (z.trans I).size) V).le (bG _ _)).ext T).ext am) V).aK aW v λs2 _ bl g2 h aY bJ=>⟨_,rfl,?_⟩
 ·rcases List.mem_cons.1 b with h|h
  ·have:=g1.be;omega
  ·exact aN aW a5 a h
 subst h
 have bY:i.E<bl.size:=aY.lt a5
 have b1:=(g1.ext gG.mono aY).be
 have e2:=g2.ns gG.mono (λb=>by
  have hy:=g2.be;rcases List.mem_cons.1 b with h|h
  ·have:=g1.be;omega
  ·have:=aN aW a5 _ h;omega) bh bR
 refine GS.all (g1.ext gG.mono aY) ((am.trans aY).fz []) e2 bR λD Q g3 f3 z3 q3=>⟨N.nW bJ (u9.trans f3.ext) v,?_⟩
 have an:N A Q:=f3.ext
 have aE:=u9.trans an
 have cc:=z.trans aE
 have KC:WL ds rs.length True (R.length+P.length) (C.map (eN 14)++L.map (eN 15)):=by
  refine(qT V au).append ?_;rw[js V];refine qT V λq w=>?_;have:=hp.aQ q (a2 q w);omega
 have bq:dc (C.map (eN 14)++L.map (eN 15))=0:=by rw[cL,js V,js V]
 have cb:sw (C.map (eN 14)++L.map (eN 15))<=1006:=by rw[dq,nO,nO];omega
 have bd:GI c G Q i X:=(gm.ext T).ext an
 have bE:D.E≠i.E:=g3.JJ bd bh
 have aH:∀{M o:J},N F M->N F o->∀j∈[r.size,e.size,m.size],∀q,af o j q=af M j q:=λu h' j W q=>aM (by rw[h'.same j (v j W),u.same j (v j W)]) q
 have E4:∀{M o:J},N F M->N F o->∀{ax:Prop},ax->af o e.size 0=af M e.size 0/\af o e.size 1=af M e.size 1/\af o m.size 0=af M m.size 0/\af o m.size 1=af M m.size 1/\ax:=λu h' _ hp=>⟨aH u h' _ aJ _,aH u h' _ aJ _,aH u h' _ aJ _,aH u h' _ aJ _,hp⟩
 have F4:∀{M:J},Fz [i.E] A M->N G M:=λu=>Fz.ext ((((x7.trans T).fz [i.E]).trans u).CD λj W=>Or.inr (by simp at W;omega))
 have b4:i.E<A.size:=a1.be.2
 have z3:=x3.size
 have tail:∀(M:J)(p:Nat)(ss:O)(t:Bk),GS (p::i.E::r.size::c) A M D (C.map (eN 14)++L.map (eN 15))->Fz [i.E] A M->A.size<=p->p<M.size->p≠D.E->eD (bM (p::D.E::i.E::r.size::c) M) ss t.ar->WB ds rs.length True (R.length+P.length) t/\t.w+1050<=1100*j.w->
  let U:J:=ah M p 0 [.s ss,.i t.aV]
  jh U fJ [.i 0,.i 0,.i 0,.s .nil,.s .nil] 72 D ss λaA M2=>dR [p,r.size,e.size,m.size] U M2/\af M2 p 1=af U p 1/\
   let M3:J:=ah M2 r.size 0 [.s aA,.i t.aV]
   ∃s ac,Value.agg #[O.v aA,vi t.aV]=.agg #[O.v s,vi ac.aV]/\eD (bM c M3) s ac.ar/\(WB ds rs.length True (R.length+P.length) ac/\ac.w<=1100*j.w)/\N m M3:=by
  intro M p ss t B ae bz bQ bi aw a6 U
  have ce:U.size=M.size:=ay _ _ _ _
  have hy:=B.be
  have bH:eD (bM (D.E::i.E::r.size::c) U) ss t.ar:=aw.le (cv aJ λa b=>ai _ b)
  have bS:=Bk.lO t
  have b2:=fH t.ar
  have hF:=F4 ae
  have zF:=hF.size
  have z9:=ae.size
  have g1:GS (i.E::r.size::c) A U D _:=B.re gG.mono (Y:=[p]) ((Fz.az [p] M).ah (Or.inl aJ) _ _) aJ (by simpa using km bi) λa b=>Or.inl (ai _ b)
  have f1:Fz [i.E] A U:=ae.ah (Or.inr bz) _ _
  have hw:=a6.2
  refine GS.all g1 f1 bH bR λH M2 g2 f ao aa=>⟨λa b=>?_,aM (aa p V bi) _,?_⟩
  ·simp at b
   refine aa a ?_ ?_<;>rcases b with rfl|rfl|rfl|rfl<;>omega
  intro M3
  have bL:N m M2:=Fz.ext (((v9.fz [i.E]).trans f).CD λj W=>Or.inr (by simp at W;omega))
  have b9:=g2.be
  have h5:=g2.ns gG.mono (λb=>by
   rcases List.mem_cons.1 b with h|h
   ·omega
   ·rcases List.mem_cons.1 h with h|h
    ·omega
    ·have:=hS _ h;omega) bh bR
  refine⟨H,.mk _ t.aV,rfl,eD.le (cv aJ λa b=>ai _ (ai _ b)) h5,⟨WB.of (KC.append ?_) ?_,?_⟩,bL.ah V _ _⟩
  ·rw[bq];exact a6.1.bd.1
  ·rw[cL,bq,cO];exact a6.1.bd.2
  ·rw[Bk.pW,dq];omega
 have aQ:∀(M:J)(g:List Nat)(K:O->J->Prop),N Q M->GS g A M D (C.map (eN 14)++L.map (eN 15))->i.E∈g->(∀H o,GI c G o H (X++C)->GS g A o D (C.map (eN 14)++L.map (eN 15))->Fz [i.E] A o->M.size<=o.size->(∀j,j<M.size->j≠i.E->o[j]? =M[j]?)->K H o)->jh M aI [.i 0] 8 i su K:=by
  intro M g K hx B bD hK;have bI:aq (bM (i.E::c) M) su C:=by
   refine aq.le ((an.trans hx).cW _) (Gr.ns (S:=i.E::c) tq.mono gu.any (λb=>?_) bh V);rcases List.mem_cons.1 b with h|h
   ·omega
   ·have:=hS _ h;have:=z.size;omega
  refine GI.all (bd.ext hx) ((((x7.trans T).trans an).trans hx).fz []) (λa b=>aO (hS a b) (z.trans I).size) bI V λH o g' f ao aa=>hK H o g' ?_ ?_ ao.1 aa
  ·exact B.Ly gG.mono (Y:=[i.E]) ⟨ao.1,λj W hn=>aa j W (by simpa using hn)⟩ (by simpa using bD) (by simpa using bE)
  ·exact(((an.trans hx).fz [i.E]).trans ⟨ao.1,λj W hn=>aa j W (by simpa using hn)⟩)
 have E:∀(M:J)(g:List Nat)(mn ak:O)(y:List Int),(∀a∈g,a<M.size)->Fz [i.E] A M->aq M mn (X++C)->aq M ak y->oK la y->mX 254 [.agg #[O.v ar,O.v H],O.v aS,.agg #[O.v aD,vi j.aV],O.v mn,O.v ak] M g λt=>WB ds rs.length True (R.length+P.length) t/\t.w+1050<=1100*j.w:=by
  intro M g mn ak y bw ae h1 h2 h3;have hF:=F4 ae;have hm:=(z.trans I).trans hF;have bB:aq M aS (R++P):=(((gi.done aJ bR).le (bG _ _)).ext x4).ext hF;have:=ih g M bw ar H aS aD mn ak (R++P) (X++C) y (hn.le hm.le) bB (hs.le hm.le) h1 h2 ⟨λq w=>?_,bR,by have:=h3.2;omega,bR,by simpa using hp.wb⟩
  ·simpa using this
  ·simp;rcases List.mem_append.1 w with w|w
   ·have:=hp.aQ q (a3 q w);omega
   ·have:=au q w;omega
 have b_:=an.size
 have b3:i.E<Q.size:=V
 have b0:D.E<Q.size:=g3.be.2
 have be:∀{M:J},N F M->Q.size<=M.size->∀a∈D.E::i.E::r.size::c,a<M.size:=λu hz a b=>by
  rcases List.mem_cons.1 b with h|h
  ·omega
  ·exact aN u V a h
 have gW:∀(M:J)(p:Nat)(mn ak:O)(y:List Int),GS (p::i.E::r.size::c) A M D (C.map (eN 14)++L.map (eN 15))->Fz [i.E] A M->Q.size<=p->p<M.size->aq M mn (X++C)->aq M ak y->oK la y->
  aL cp 254 [.agg #[O.v ar,O.v H],O.v aS,.agg #[O.v aD,vi j.aV],O.v mn,O.v ak] M λrv o=>dR [p,r.size,e.size,m.size] M o/\∃ba:O,∃aV:Int,rv=.agg #[O.v ba,vi aV]/\
   let U:J:=ah o p 0 [.s ba,.i aV]
   jh U fJ [.i 0,.i 0,.i 0,.s .nil,.s .nil] 72 D ba λaA M2=>dR [p,r.size,e.size,m.size] U M2/\af M2 p 1=af U p 1/\
    let M3:J:=ah M2 r.size 0 [.s aA,.i aV]
    ∃s ac,Value.agg #[O.v aA,vi aV]=.agg #[O.v s,vi ac.aV]/\eD (bM c M3) s ac.ar/\(WB ds rs.length True (R.length+P.length) ac/\ac.w<=1100*j.w)/\N m M3:=by
  intro M p mn ak y B ae h1 h2 h3 h4 h5
  have hM:N F M:=I.trans (F4 ae)
  refine(E M (p::D.E::i.E::r.size::c) mn ak y (λa b=>?_) ae h3 h4 h5).aK (N.az M) (λa b=>?_) λss t o aw hq hx _=>⟨_,_,rfl,?_⟩
  ·rcases List.mem_cons.1 b with h|h
   ·omega
   ·exact be hM V a h
  ·rcases List.mem_cons.1 b with h|h
   ·omega
   ·exact hM.lt (v a h)
  ·exact tail o p ss t (B.ext gG.mono hx) (ae.then hx) V (hx.lt h2) V aw hq
 have aU:∀(M:J)(q:Obj),GS (i.E::r.size::c) A M D (C.map (eN 14)++L.map (eN 15))->GS (M.size::i.E::r.size::c) A (M.push q) D (C.map (eN 14)++L.map (eN 15)):=λM q B=>
  B.re gG.mono (Y:=[]) ((N.push M q).fz []) aJ aJ λa b=>by
   rcases List.mem_cons.1 b with h|h
   ·exact Or.inr V
   ·exact Or.inl h
 have bO:Fz [i.E] A Q:=an.fz _
 have a0:∀(M:J)(aZ:List Nat)(K:Value->J->Prop),N F M->(∀a∈aZ,a<M.size)->(∀s y o,aq o s y->oK la y->N M o->K (O.v s) o)->aL cp 335 [O.v a7,vi (aX.len:Int)] M λR m'=>dR aZ M m'/\K R m':=λM aZ K hM hL hK=>
  (MS (S:=[]) aJ (bf.le ((z.trans hM).le.trans (zc _))) _ V).aK (N.az M) hL λs y o B ax ab _=>hK s y o ((B.done aJ (by have:=ax.2;omega)).le (bG _ _)) ax ab
 have aK:∀{M:J}{s:O},GI c G M s (X++C)->aq M s (X++C):=λB=>(B.done (λa b=>aO (hS a b) (z.trans I).size) bR).le (bG _ _)
 have a4:∀{M:J}{p:Nat},N F M->p<M.size->∀a∈[p,r.size,e.size,m.size],a<M.size:=λu W a b=>by
  rcases List.mem_cons.1 b with h|h
  ·omega
  ·exact u.lt (v a h)
 refine⟨aQ Q _ _ (N.az _) g3 aJ λaz aT ga gs fz ao aa=>⟨λa b=>aa a (aE.lt (v a b)) (by have:=v a b;omega),E4 aE (I.trans (F4 fz)) ⟨?_,?_⟩⟩,?_⟩
 ·have al:=I.trans (F4 fz)
  refine a0 aT _ _ al (λa b=>al.lt (v a b)) λap y aG bc bp Z=>⟨_,rfl,E4 al (al.trans Z) ⟨?_,?_⟩⟩
  ·have aF:=al.trans Z
   have bN:=Z.size
   refine(E aG (D.E::i.E::r.size::c) az ap y (be aF V) (fz.then Z) ((aK ga).ext Z) bc bp).aK aF v λss t a9 aw hq bb br=>⟨_,_,rfl,?_⟩
   intro bm
   have cf:=bb.size
   have bv:=(fz.then Z).then bb
   exact E4 br (br.aN _) (tail bm a9.size ss t (aU a9 _ ((gs.ext gG.mono Z).ext gG.mono bb)) (bv.push _) V (by simp[bm]) V (aw.le (sC (N.push a9 _) (ad _))) hq)
  ·intro a9
   have bN:=Z.size
   have aF:=al.trans Z
   exact E4 aF (aF.aN _) (gW a9 aG.size az ap y (aU aG _ (gs.ext gG.mono Z)) ((fz.then Z).push _) V (by simp[a9]) (((aK ga).ext Z).ext (N.push _ _)) (bc.ext (N.push _ _)) bp)
 ·intro Z
  have al:=I.trans (F4 fz)
  have aF:N F Z:=al.aN _
  have a9:N aT Z:=N.push _ _
  refine E4 al aF (a0 Z _ _ aF (a4 aF (by simp[Z])) λap y bc bb bm aG=>⟨_,rfl,E4 aF (aF.trans aG) ?_⟩)
  exact gW bc aT.size az ap y ((aU aT _ gs).ext gG.mono aG) ((fz.then a9).then aG) V (aG.lt (by simp[Z])) (((aK ga).ext a9).ext aG) bb bm
 ·intro Z
  have aG:N F Z:=aE.aN _
  have bp:N Q Z:=N.push _ _
  refine E4 aE aG (aQ Z _ _ bp (aU Q _ g3) aJ λaz bb ga gs fz ao aa=>⟨λa b=>aa a (a4 aG (by simp[Z]) a b) ?_,E4 aG (I.trans (F4 fz)) ?_⟩)
  ·rcases List.mem_cons.1 b with h|h
   ·omega
   ·have:=v a h;omega
  have aF:=I.trans (F4 fz)
  have br:Z.size=Q.size+1:=by simp[Z]
  refine a0 bb _ _ aF (a4 aF V) λap y bc a9 bm al=>⟨_,rfl,E4 aF (aF.trans al) ?_⟩
  exact gW bc Q.size az ap y (gs.ext gG.mono al) (fz.then al) (ad _) (al.lt V) ((aK ga).ext al) a9 bm
end
section
variable{c m:J}{k i g a:Nat}{s:O}{d:List Nat}{e:List Int}{x:cK}{f:List gB}
def Uc{a b:J}(h:N a c)(f:Fz [k] c b)(g:a.size<=k):N a b:=Fz.ext (((h.fz [k]).trans f).CD λe d=>Or.inr (by simp at d;omega))
def _root_.Go.Vc.Fz.Mx{M b:J}(f:Fz [k] c M)(h:s.E=k\/c.size<=s.E)(g:M.size<=b.size)(q:∀a,a<M.size->a≠s.E->b[a]? =M[a]?):Fz [k] c b:=
 f.rf ⟨g,λa d e=>q a d (by simpa using e)⟩ (Y:=[s.E]) (λy d=>by simp at d⊢;omega)
def GI.Yf{X:List Nat}{b:J}{x:O}{f:List Int}{K:O->J->Prop}(h:GI d b m s e)(k:Fz X b m)(n:aq m x f)(p:e.length+f.length<=1000000000000)
 (l:∀r a,GI d b a r (e++f)->Fz X b a->(m.size<=a.size/\(r.E=s.E\/m.size<=r.E))->(∀c,c<m.size->c≠s.E->a[c]? =m[c]?)->K r a):jh m aI [.i 0] 8 s x K:=by
 obtain⟨o,g,i,j⟩:=n.Um (b:=1) λ_ _ h=>by rw[h];rfl
 exact Gr.next (g:=[.i 0]) tq.mono bh h k g i j V l
def bN(d:List Nat){b:O}(h:aq m b e)(c:e.length<=1000000000000):ku 57 [O.v b] m d (e=·):=by
 apply ng;intro i;have a:N m i:=N.push m _;exact GI.Yf (e:=[]) (X:=[]) (GI.nil d m) (a.fz []) (h.ext a) (by simpa using c) λr j g f _ _=>⟨r,e,rfl,by simpa using g,rfl,f.ext⟩
abbrev GB(d:List Nat)(a m:J)(s:O)(e:List Bk):Prop:=Gr d a m da 2 qO s e
def GB.new(d:List Nat)(m:J):GB d m (m.push (.cells (bC []) da)) (.mk m.size 0 0 0) []:=Gr.new d (ad _) _ _ _
def GB.jY{d X:List Nat}{g m:J}{s a:O}{e:List Bk}{c:Bk}{K:O->J->Prop}(h:GB d g m s e)(k:Fz X g m)(j:eD (bM (s.E::d) m) a c.ar)(l:e.length<=1000000000000)
 (i:∀r b,GB d g b r (e++[c])->Fz X g b->m.size<=b.size/\(r.E=s.E\/m.size<=r.E)->(∀f,f<m.size->f≠s.E->b[f]? =m[f]?)->K r b):
 jh (m.push (.cells (bC [.s a,.i c.aV]) da)) da [.s .nil,.i 0] 32 s (.mk m.size 0 1 1) K:=
 Gr.jY (g:=[.s .nil,.i 0]) qO.mono bh h k (by cases c;exact qO.of j) V i
def Jb{a:List bu}{b bL:Int}{y:Int}(h:b=8)(c:(cg a bL)[i]? =some y):AG a b bL i=(cz a y).length:=by unfold AG;rw[an h,c];rfl
def Jc{b:List bu}{a bL:Int}(h:a≠8):AG b a bL i=0:=by unfold AG;rw[ae h]
def _root_.Go.Vc.WS.Od{b:List bu}{f d:Prop}(h:WS b g f a x)(j:f->d){bH:Int}(l:0<=bH/\bH<=(a:Int)){bD:List Bk}(i:bD.length=x.bD.length)(m:∀(k:Nat)(c:Bk),bD[k]? =some c->WB b g d (a+AG b x.op x.bL k) c):WS b g d a ⟨x.op,x.bL,bH,x.args,bD⟩:=
 ⟨⟨h.eO.op.imp id λh=>⟨j h.1,h.2⟩,h.eO.args,h.eO.jZ,l,λe=>i.trans (h.eO.IK e),λe=>i▸h.eO.all e,h.eO.call⟩,m⟩
def Gx(hS:∀g∈d,g<m.size){Z W af a k ae ac:O}{t:List bu}{G lo la:List Int}(E:eg m Z W t f)(hv:aq m af G)(ha:aq m a x.args)(T:np m k x.bD)(ho:aq m ae lo)(aG:aq m ac la)
 (aH:∀o∈lo,0<=o/\o<(G.length:Int))(VS:lo.length+5*x.w<=500)(VR:la.length+1000*x.w<=1000000)(vN:G.length+5*x.w<=1000000)(ab:WS t f.length False G.length x)(ih:∀c∈x.bD,U7 t f c):
 IY 291 [.agg #[O.v Z,O.v W],O.v af,oG x a k,O.v ae,O.v ac] m d λz=>WS t f.length True G.length z/\z.op=x.op/\z.w<=1+x.args.length+1100*bw x.bD:=by
 apply zH
 simp -zeta only[aC,aB]
 intro m0 p q am
 obtain⟨r,v,s0,s1,s2⟩:=pH (a:=m0) (b:=p) (c:=q) rfl rfl rfl
 have ar:N q am:=N.push _ _
 have gk:=GB.new (p.size::d) q
 clear_value q
 have aP:=ha.len;have aA:=T.len;have hw:=cK.lO x;have aS:=Je x.bD
 refine(gN (e:=[q.size]) (by simp[am]) (E.le (r.trans ar).le).aT E.types x.bL).aK ar v λg cl m4 u F x4 u4=>⟨_,rfl,?_⟩
 subst F
 have aT:=u.len
 refine dS (n:=x.bD.length) (aA▸T.gV) (λj s M=>Fz [q.size] m4 M/\(s.E=q.size\/m4.size<=s.E)/\∃e,GB (p.size::d) q M s e/\e.length=j/\(∀(i:Nat)(c:Bk),e[i]? =some c->WB t f.length True (G.length+AG t x.op x.bL i) c)/\bw e<=1100*bw (x.bD.take j)) ⟨Fz.az _ _,Or.inl rfl,[],gk.ext qO.mono x4,rfl,aJ,aJ⟩ ?_
 rintro j s U ax μ hj ⟨P,aI,e,R,aV,aj,az⟩ aN
 have h:=Uc u4 P (ad _)
 have hy:=R.be
 refine dit (λA=>?_) λA=>?_
 ·intro m6
  have o:N U m6:=N.push _ _
  obtain⟨c,D⟩:=ag (l:=x.bD) (k:=j) V
  have aQ:=we D
  have aR:=tL D
  have ay:∀{M:J},N U M->∀g∈s.E::p.size::d,g<M.size:=λA=>bP (bP hS r.size (v _ aJ)) (h.trans A).size (by have:=A.size;omega)
  have gW:∀(M:J)(H:O)(Q:List Int)(y:O),N U M->aq M H Q->Q.length=AG t x.op x.bL j->eD M y c.ar->
   aL cp 320 [.agg #[O.v Z,O.v W],O.v af,O.v H,.agg #[O.v y,vi c.aV],O.v ae,O.v ac] M λrv K=>dR [p.size,m0.size,m.size] M K/\∃ao:O,∃ap:Int,rv=.agg #[O.v ao,vi ap]/\
    let M1:J:=K.push (.cells (bC [.s ao,.i ap]) da)
    jh M1 da [.s O.nil,.i (0:Int)] 32 s (O.mk K.size 0 1 1) λan L=>dR [p.size,m0.size,m.size] M1 L/\ax an (cR ((j:Int)+(1:Int))) L/\μ an (cR ((j:Int)+(1:Int))) L<μ s j U:=by
   intro M H Q y C hf ah I
   have Y:=r.trans (h.trans C)
   have b3:=O8 E.types x.op x.bL j
   refine(Ic (c:=s.E::p.size::d) (ay C) (E.le Y.le) (hv.ext Y) hf I (ho.ext Y) (aG.ext Y) ⟨aH,V,V,V,V,ah▸ab.bD j c D⟩ (ih c (av D))).aK (h.trans C) v λss b' K aK F z u'=>⟨_,_,rfl,?_⟩
   refine GB.jY (c:=b') (R.ext qO.mono (C.trans z)) (u'.fz []) aK (by have:=pI x.bD;omega) λW L g2 f2 z2 q2=>⟨N.nW (u'.aN _) f2.ext v,aN V _ _ ⟨(P.then (C.trans z)).Mx aI z2.1 q2,?_,_,g2,bR,λi b2 w=>?_,?_⟩⟩
   ·have B:=(P.then (C.trans z)).size
    rcases z2.2 with aa|aa<;>omega
   ·rcases bA i e.length with B|B
    ·rw[aw B]at w;exact aj i b2 w
    ·rw[aF B]at w
     have:i -e.length=0:=by have:=aD w;simp at this;omega
     rw[this]at w;simp at w;subst w
     have:i=j:=V
     subst this
     rw[<-ah];exact F.1
   ·rw[oh,tK,yN]
    have:=F.2;omega
  refine⟨λB=>?_,λB=>?_⟩
  ·simp only[aE]at B
   have aU:=(ab.eO.all B).1
   obtain⟨au,al⟩:=ag (l:=cg t x.bL) (k:=j) V
   refine⟨V,V,au,(dV.1 ((u.le ((P.then o).cW aJ)).D al)).2,?_⟩
   have X:=h.trans o
   refine(dC (e:=[]) aJ ((E.le (r.trans X).le).aT.le (zc _)) E.types au).aK X v λH Q m7 hf F x7 u7=>⟨_,rfl,?_⟩
   subst F
   obtain⟨y,I,e0,e1⟩:=(T.le (r.trans u7).le).D D
   exact⟨V,V,_,e0,_,e1,gW m7 H _ y (o.trans x7) (hf.le (bG _ _)) (Jb B al).symm I⟩
  ·simp only[ak]at B
   obtain⟨y,I,e0,e1⟩:=(T.le (r.trans (h.trans o)).le).D D
   exact⟨V,V,_,e0,_,e1,gW m6 _ [] y o (lZ _ _ _ _ _ _) (Jc B).symm I⟩
 ·have B:e.length=x.bD.length:=V
  rw[cN V]at az
  refine(bN (p.size::d) (ha.ext (r.trans h)) V).aK h v λC H m6 y aa o X=>⟨_,rfl,aM (o.same _ (h.lt (v _ aJ))) _,aM (o.same _ (h.lt (v _ aJ))) _,?_⟩
  subst aa
  intro m7
  have D:=(R.ext qO.mono o).be
  have w:∀g∈p.size::d,g<q.size:=bP hS r.size V
  refine⟨C,s,⟨x.op,x.bL,0,x.args,e⟩,rfl,?_,?_,⟨ab.Od (λA=>A.elim) ⟨V,V⟩ B aj,rfl,?_⟩,(r.trans X).ah V _ _⟩
  ·exact(y.done (λg u=>aO (w g u) h.size) V).le (cv aJ λg u=>ai _ u)
  ·exact np.le (cv aJ λg u=>ai _ u) ((R.ext qO.mono o).done qO.mono w bh (by have:=pI x.bD;show e.length<=_;omega))
  ·rw[cK.lO]
   simp only
   omega
def _root_.Go.Vc.Qc{σ τ ρ:Type}{n:Nat}(u:n<=9223372036854775807){j:σ}{l:τ}{h:ρ}{g:(σ->τ->ρ->Int->J->Prop)->(σ->τ->ρ->Int->J->Nat)->σ->τ->ρ->Int->J->Prop}(Q:Nat->σ->τ->ρ->J->Prop)(p:Q 0 j l h m)
 (o:∀(k:Nat)(s:σ)(t:τ)(r:ρ)(a:J)(I:σ->τ->ρ->Int->J->Prop)(μ:σ->τ->ρ->Int->J->Nat),k<=n->Q k s t r a->
  (k<n->∀d e c b,Q (k+1) d e c b->I d e c (cR ((k:Int)+1)) b/\μ d e c (cR ((k:Int)+1)) b<μ s t r k a)->g I μ s t r k a):
 ∃(I:σ->τ->ρ->Int->J->Prop)(μ:σ->τ->ρ->Int->J->Nat),I j l h 0 m/\∀s t r i a,I s t r i a->g I μ s t r i a:=by
 refine⟨λs t r i b=>∃k:Nat,i=k/\k<=n/\Q k s t r b,λ_ _ _ i _=>(n -i).toNat,⟨0,rfl,eY _,p⟩,?_⟩
 rintro s t r i a ⟨k,rfl,q,v⟩
 refine o k s t r a _ _ q v λf d e c b w=>?_
 rw[kV f u]
 exact⟨⟨k+1,rfl,f,w⟩,EB f⟩
structure CB(ds:List bu)(g:Nat)(d:List Nat)(m2 M:J)(v lo:List Int)(ar:List cK)(k:Nat)(st inn mn:O):Prop where
 x:N m2 M
 hs:∃e,GS (inn.E::mn.E::d) m2 M st e/\WL ds g True v.length e/\dc e=dc (ar.take k)/\sw e<=1100*sw (ar.take k)
 hi:∃e,GI d m2 M inn e/\e.length=v.length+dc (ar.take k)
 hm:∃e,GI d m2 M mn e/\e.length<=lo.length+k/\∀o∈e,0<=o/\o<((v.length+dc (ar.take k):Nat):Int)
 ne:inn.E≠mn.E
def Yn{b:List bu}(h:WS b g False a x):dn x=1:=an (h.eO.op.resolve_right λh=>h.1)
def EN{W:List bu}:∀c:Bk,U7 W f c:=by
 refine Bk.ind ?_;intro ar w ih d m hS cb c3 dW c5 dQ c9 al lo la hn hv hs B bO hp;have bi:=hp.wb.bd;have hw:=Bk.pW ar w;simp only[Bk.jq,Bk.iH]at*;have VS:=hp.VS;have VR:=hp.VR;have vN:=hp.vN;rw[hw]at VS VR vN;apply xV;simp -zeta only[aC,aB];intro m0 p r aM;obtain⟨F,P,s0,s1,s2⟩:=pH (a:=m0) (b:=p) (c:=r) rfl rfl rfl;have bq:N r aM:=N.push _ _;have bJ:∀ao,GS ao r aM (.mk r.size 0 0 0) []:=λao=>GS.new ao r;have s3:aM.size=r.size+1:=by simp[aM]
 clear_value aM;clear_value r;have bT:=hs.len;have cQ:=Aw ar;have dy:=fH ar;refine(bN d (hv.ext (F.trans bq)) V).aK bq P λo _ m4 G q x4 u4=>⟨_,rfl,?_⟩;subst q;refine(bN d (B.ext (F.trans u4)) V).aK u4 P λv _ m5 X q x5 u5=>⟨_,rfl,?_⟩;subst q;have bU:=G.be;have bV:=X.be;refine Qc (n:=ar.length) (bT▸hs.gV) (λk A o v g=>CB W f.length (p.size::d) r g al lo ar k A o v) ⟨u5,⟨[],((bJ _).ext gG.mono x4).ext gG.mono x5,WL.nil _ _ _ _,rfl,aJ⟩,⟨al,((G.ext x5).ct (λ_ h=>h) bq.size).any,aJ⟩,⟨lo,(X.ct (λ_ h=>h) u4.size).any,V,by simpa using hp.aQ⟩,V⟩ ?_;clear G X bU bV bJ;rintro k A o v C bs μ hk ⟨x6,⟨T,gs,aZ,aa,dz⟩,⟨li,G,aW⟩,⟨lm,X,df,bQ⟩,dt⟩ a5
 have v6:=F.trans x6;have dk:=G.len bh;have dh:=sq (ar.take k);have dr:=pX k ar;have L:∀j∈p.size::d,j<r.size:=bP hS F.size (P _ aJ);have cB:aq C o li:=(G.done L V).le (bG _ _);have cD:aq C v lm:=(X.done L V).le (bG _ _);have dK:=gs.be;have bU:=G.be;have bV:=X.be;have cP:=fH (ar.take k);have dm:k<=sw (ar.take k):=by rw[gU]at cP;omega
 refine dit (λh=>?_) λh=>?_
 ·obtain⟨x,t⟩:=ag (l:=ar) (k:=k) V;obtain⟨a,kk,ha,bL,g0,g1,g2,g3,g4⟩:=hs.D t;refine⟨V,V,_,v6.af g0,_,v6.af g1,_,v6.af g2,_,v6.af g3,_,v6.af g4,?_⟩;intro m7 D;have x8:N C D:=(N.push C _).ah (ad _) _ _;have s8:D.size=C.size+1:=by simp[D,m7,ay]
  clear_value D;have U:=x6.trans x8;have z6:=x6.size;have u:∀{g:J},D.size<=g.size->∀c∈[C.size,p.size,m0.size,m.size],c<g.size:=λh c hb=>by
   rcases List.mem_cons.1 hb with q|q
   ·omega
   ·have:=U.lt (P c q);omega
  have dE:=pu t;have dC:=qd t;have dD:=cK.lO x;have aj:WS W f.length False li.length x:=by rw[aW];exact bi.1 k x t
  have bK:=Yn aj;have dA:=cQ (k+1);have dg:=pI x.bD;have ds:=fH T;have af:∀{g:J},N r g->At g cb c3 a kk W f x:=λh=>⟨hn.le (F.trans h).le,ha.ext (F.trans h),aj.eO.call⟩;have aY:∀{g:J},GI (p.size::d) r g o li->aq g o li:=λy=>(y.done L V).le (bG _ _);have bf:∀{g:J},GI (p.size::d) r g v lm->aq g v lm:=λy=>(y.done L V).le (bG _ _);have ap:∀{g:J}{ao:List Nat},D.size<=g.size->(∀j∈ao,j<g.size)->∀j∈ao++p.size::d,j<g.size:=λh hb j b=>by
   rcases List.mem_append.1 b with h|h
   ·exact hb j h
   ·have:=L j h;omega
  refine(nJ (af U).Pv (aY (G.ext x8)) (af U).args (bL.le (F.trans U).le) V λc _=>mR c).aK (N.az D) (u (ad _)) λty m9 x9 _=>⟨_,rfl,?_⟩;intro a1;have b4:N D a1:=x9.aN _;have e0:aq (bM [] a1) (.mk m9.size 0 0 0) []:=lZ _ _ _ _ _ _;clear_value a1;rw[kV (k:=k) (n:=ar.length) V (bT▸hs.gV)]at a5⊢
  refine(zq (.mk ar w) [] a1 aJ c5 _ _ _ (k+1) (hs.le (F.trans (U.trans b4)).le) e0 (by simp only[Bk.jq];omega) (by simp only[Bk.pW,eG];omega)).aK b4 (u (ad _)) λus ul cU hu cR dX bp=>⟨_,rfl,?_⟩;rw[Bk.pW,eG]at cR;refine(MZ (S:=[]) aJ hu ((bO.ext (F.trans (U.trans bp))).le (zc _)) V).aK bp (u (ad _)) λlt ll cV bc b0 c6 ax=>⟨_,rfl,?_⟩;have aK:∀{g:J},GI [] cU g lt ll->aq g lt ll:=λy=>(y.done aJ (by have:=b0.2;omega)).le (bG _ _);have bt:=U.trans ax;have bA:=G.ext (x8.trans ax);have bH:=X.ext (x8.trans ax);have cu:=gs.ext gG.mono (x8.trans ax);refine(EP (b:=[]) aJ (af bt) (aY bA) aj.eO.args (bf bH) (aK bc) V).aK (N.az cV) (u ax.size) λdu dl cW cn b1 az _=>⟨_,rfl,?_⟩;have c_:=b1.2;have dZ:=ax.size;have d0:=az.size;have dY:=bp.size;have ed:=c6.size;refine(eI (c:=[A.E,o.E,v.E]++p.size::d) (ap V bR) 14 ((cn.done aJ V).le (bG _ _)) V).aK (N.az cW) (u V) λdU _ a2 ci q aA _=>⟨_,rfl,?_⟩;subst q;have b8:=(bt.trans az).trans aA;have d3:=aA.size;refine GS.all (cu.ext gG.mono (az.trans aA)) (b8.fz []) (ci.done gG.mono (ap (ao:=[A.E,o.E,v.E]) V bR) bh bR) bR λbo bW bx cc b5 a7=>⟨λj b=>a7 j (u V j b) ?_,?_⟩
  ·simp at b;omega
  have aV:N r bW:=cc.ext;have cC:o.E<a2.size:=V;have cE:v.E<a2.size:=V;have cF:A.E≠o.E:=gs.JJ G bh;have cG:A.E≠v.E:=gs.JJ X bh;have dp:=bc.be;have bB:=(bA.ext (az.trans aA)).iL (a7 _ cC cF.symm);have bI:=(bH.ext (az.trans aA)).iL (a7 _ cE cG.symm);have bF:=(bc.ext (az.trans aA)).iL (a7 _ V V);have dv:bo.E=A.E\/a2.size<=bo.E:=b5.2;have dG:=bx.be;have d4:=b5.1;refine(Gx (d:=[bo.E,o.E,v.E]++p.size::d) (ap V bR) (af aV).Pv (aY bB) (af aV).args (bL.le (F.trans aV).le) (bf bI) (aK bF) (by rw[aW];exact bQ) V (by have:=b0.2;omega) V aj (ih x (av t))).aK (N.az bW) (u V) λdd de x' bY cw cx c2 aD _=>⟨_,_,_,_,_,rfl,?_⟩;obtain⟨cS,cO,dB⟩:=c2;have b9:=aV.trans aD;have d5:=aD.size;refine GS.jY (x:=x') (bx.ext gG.mono aD) (b9.fz []) cw cx bR λaO bj bz cd b6 a8=>⟨λj b=>?_,?_⟩
  ·have:=u (g:=bY) V j b;rw[a8 j this (by simp at b;omega),(N.push bY _).same j this]
  have a_:N r bj:=cd.ext;have bD:=(bB.ext aD).iL (a8 _ V V);have ct:=(bI.ext aD).iL (a8 _ V V);have bb:=(bF.ext aD).iL (a8 _ V V);have dw:aO.E=A.E\/a2.size<=aO.E:=by have:=b6.2;omega
  have d6:=b6.1;refine(GD (b:=[]) aJ (af a_) (aY bD) aj.eO.args (bf ct) (aK bb) V).aK (N.az bj) (u V) λaw lf cX gf bm aE _=>⟨_,rfl,?_⟩;have bv:=a_.trans aE;have d7:=aE.size;have cz:∀{g:J},GI [] bj g aw lf->aq g aw lf:=λy=>(y.done aJ (by have:=bm.2;omega)).le (bG _ _);refine(GF (b:=[]) aJ (af bv) (cz gf) (aK (bb.ext aE)) V).aK (N.az cX) (u V) λc4 R cY gd b2 aF _=>⟨_,rfl,?_⟩;have d8:=aF.size;have db:=b2.2;have da:=bm.2;have dJ:=gf.be;have dI:=gd.be;have dH:=bz.be;refine(eI (c:=[aO.E,aw.E,o.E]++p.size::d) (ap V bR) 15 ((gd.done aJ V).le (bG _ _)) V).aK (N.az cY) (u V) λdV _ cZ ck q am _=>⟨_,rfl,?_⟩;subst q;have b_:=(bv.trans aF).trans am;have d9:=am.size;have cj:GS ([aw.E,o.E]++p.size::d) r cZ aO _:=bz.re gG.mono (Y:=[]) (((aE.trans aF).trans am).fz []) aJ aJ λj b=>by
   simp only[cA,dN,aU]at b⊢;rcases b with h|h|h
   ·exact Or.inr V
   ·exact Or.inl (Or.inl h)
   ·exact Or.inl (Or.inr (Or.inr h))
  refine GS.all cj (b_.fz []) (ck.done gG.mono (ap (ao:=[aO.E,aw.E,o.E]) V bR) bh bR) bR λH a3 cl ce c7 aN=>⟨λj b=>aN j (u V j b) ?_,?_⟩
  ·simp at b;omega
  have ca:N r a3:=ce.ext;have d_:=c7.1;have cr:=((bD.ext aE).ext (aF.trans am)).iL (aN _ V V);have cq:=(gf.ext (aF.trans am)).iL (aN _ V V);have cm:=(gd.ext am).iL (aN _ V V);have cs:=((bb.ext aE).ext (aF.trans am)).iL (aN _ V V);have be:aq a3 c4 R:=(cm.done aJ V).le (bG _ _);have cy:=be.len;have co:GI (p.size::d) r a3 aw lf:=(cq.ct (λ_ h=>h) a_.size).any;refine dS (n:=R.length) (cy▸be.gV) (λ_ s g=>N a3 g/\∃e,GI (p.size::d) r g s e/\GS ([s.E,o.E]++p.size::d) r g H (T++dl.map (eN 14)++[x']++R.map (eN 15))/\oK lf e/\o.E≠s.E/\D.size<=s.E) ⟨N.az _,lf,co,cl,⟨λ_ h=>h,ad _⟩,V,V⟩ ?_;rintro i s bk I2 μ2 hi ⟨aG,e,gl,bd,Q,cH,dx⟩ c0;have bw:=ca.trans aG;have ea:=aG.size;have cT:=gl.be;refine dit (λh2=>?_) λh2=>?_
  ·obtain⟨I,K⟩:=ag (l:=R) (k:=i) V;refine⟨V,V,I,(be.ext aG).D K,?_⟩;refine(Au (S:=[]) aJ (((gl.done L (by have:=Q.2;omega)).le (bG _ _)).le (zc _)) I (by have:=Q.2;omega)).aK (N.az bk) (u V) λae Z ac g2 z E _=>⟨_,rfl,c0 V _ _ ⟨aG.trans E,Z,(g2.ct (λ_ h=>h) bw.size).any,?_,⟨λaH hz=>Q.1 aH (z.1 aH hz),bX z.2 Q.2⟩,?_,?_⟩⟩
   ·have ab:=g2.be;refine bd.re gG.mono (Y:=[]) (E.fz []) aJ aJ λj b=>?_;simp only[cA,dN,aU]at b⊢;rcases b with h|h|h
    ·exact Or.inr V
    ·exact Or.inl (Or.inr (Or.inl h))
    ·exact Or.inl (Or.inr (Or.inr h))
   ·have:=g2.be;omega
   ·have:=g2.be;omega
  intro dM;have bE:=cr.ext aG;refine GI.jY bE (bw.fz []) L V λab au ac cf b7 a9=>⟨λj b=>?_,?_⟩
  ·have:=u (g:=bk) V j b;rw[a9 j this (by simp at b;omega),(N.push bk _).same j this]
  have ba:N r au:=cf.ext;have c8:=b7.1;have cM:H.E≠o.E:=bd.JJ bE bh;have aI:=gl.iL (a9 _ cT.2 cH.symm);have bS:=b7.2;have ae:GS ([s.E,ab.E]++p.size::d) r au H _:=bd.re gG.mono (Y:=[o.E]) ⟨c8,λj b hn=>a9 j b (by simpa using hn)⟩ aJ (by simpa using cM) λj b=>by
   simp only[cA,dN,aU]at b⊢;rcases b with h|h|h
   ·exact Or.inl (Or.inl h)
   ·rcases bS with q|q
    ·exact Or.inl (Or.inr (Or.inl (h.trans q)))
    ·exact Or.inr V
   ·exact Or.inl (Or.inr (Or.inr h))
  have bl:ab.E≠s.E:=by rcases bS with q|q<;>omega
  have I:WL W f.length True al.length (T++dl.map (eN 14)++[x']++R.map (eN 15))/\dc (T++dl.map (eN 14)++[x']++R.map (eN 15))=dc (ar.take (k+1))/\sw (T++dl.map (eN 14)++[x']++R.map (eN 15))+2<=1100*sw (ar.take (k+1)):=by
   have di:dn x'=1:=by unfold dn at bK⊢;rw[cO];exact bK
   have d1:dc (dl.map (eN 14))=0:=js V _;have d2:dc (R.map (eN 15))=0:=js V _;refine⟨((aZ.append (qT V λz B=>?_)).zp ?_).append (qT V λz B=>?_),?_,?_⟩
   ·rw[aa,<-aW];exact aj.eO.args z (b1.1 z B)
   ·rw[cL,d1,aa,jF,<-aW];exact cS
   ·have:=aj.eO.args z (b2.1 z B);rw[cL,cL,d1,aa,jR,sA];omega
   ·rw[cL,cL,cL,d1,d2,aa,jR,sA];omega
   ·rw[dq,dq,dq,nO,nO,mh,uH];omega
  have bg:∀z∈e,0<=z/\z<((al.length+dc (ar.take (k+1)):Nat):Int):=λz B=>by
   have:=bQ z (bm.1 z (Q.1 z B));omega
  have bZ:∀(g:J),N au g->bs H ab s ((k+1:Nat):Int) g/\μ H ab s ((k+1:Nat):Int) g<μ A o v k C:=λg t=>
   a5 V _ _ _ _ ⟨ba.trans t,⟨_,(ae.re gG.mono (Y:=[]) (t.fz []) aJ aJ λj b=>Or.inl (by simp only[cA,dN,aU]at b⊢;rcases b with h|h|h;exact Or.inr (Or.inl h);exact Or.inl h;exact Or.inr (Or.inr h))),I.1,I.2.1,V⟩,⟨_,ac.ext t,bR⟩,⟨e,aI.ext t,by have:=Q.2;omega,bg⟩,bl⟩
  have dL:=ae.be;have c1:∀(g:J),N au g->aL cp 225 [vi (15:Int),vi (o.len:Int)] g λrv E=>dR [C.size,p.size,m0.size,m.size] g E/\∃aP:Int,∃aQ:Int,∃aR:Int,∃aS:O,∃aT:O,rv=.agg #[vi aP,vi aQ,vi aR,O.v aS,O.v aT]/\
   let M2:J:=E.push (.cells (bC [.i aP,.i aQ,.i aR,.s aS,.s aT]) fJ)
   jh M2 fJ [.i (0:Int),.i (0:Int),.i (0:Int),.s O.nil,.s O.nil] 72 H (O.mk E.size 0 1 1) λb3 K=>dR [C.size,p.size,m0.size,m.size] M2 K/\bs b3 ab s ((k+1:Nat):Int) K/\μ b3 ab s ((k+1:Nat):Int) K<μ A o v k C:=by
   intro g t
   have zx:=t.size
   have dF:=ac.be
   refine(iz (c:=[H.E,s.E,ab.E]++p.size::d) (ap V bR) 15 (o.len:Int)).mono λrv E⟨pa,pk,q,Z,h2,ak⟩=>?_
   subst q
   have ec:=ak.size
   have a0:=t.trans ak
   refine⟨ak.dv (u V),_,_,_,_,_,rfl,?_⟩
   have cI:H.E≠ab.E:=ae.JJ ac bh
   have cJ:H.E≠s.E:=ae.JJ aI bh
   refine GS.jY (x:=eN 15 (o.len:Int)) (ae.ext gG.mono a0) ((ba.trans a0).fz []) Z h2 (by have:=I.2.2;have:=fH (T++dl.map (eN 14)++[x']++R.map (eN 15));omega) λr' K y aX aH a6=>⟨λj b=>?_,a5 V _ _ _ _ ⟨aX.ext,⟨_,(y.re gG.mono (Y:=[]) ((N.az _).fz []) aJ aJ λj b=>Or.inl (by simp only[cA,dN,aU]at b⊢;rcases b with h|h|h;exact Or.inr (Or.inl h);exact Or.inl h;exact Or.inr (Or.inr h))),I.1.zp (CL V ?_),?_,?_⟩,⟨_,(ac.ext a0).iL (a6 _ V cI.symm),bR⟩,⟨e,(aI.ext a0).iL (a6 _ V cJ.symm),by have:=Q.2;omega,bg⟩,bl⟩⟩
   ·have:=u (g:=E) V j b
    rw[a6 j this (by simp at b;omega),(N.push E _).same j this]
   ·rw[I.2.1];omega
   ·rw[cL,I.2.1];simp[jR,dn,eN,oI]
   ·rw[dq,mh,uH]
    have h5:(eN 15 (o.len:Int)).w=2:=by rw[cK.lO];rfl
    have:=I.2.2;omega
  refine⟨λ_=>?_,λh0=>⟨λZ=>by rw[h0]at Z;simp at Z,λ_=>bZ au (N.az _)⟩⟩;refine(dj (aK (((cs.ext aG).iL (a9 _ V V)))) _).any.aK (N.az au) (u V) λc a4 an _=>⟨_,rfl,λ_=>?_,λ_=>⟨λ_=>c1 a4 an,λ_=>bZ a4 an⟩⟩;intro dO;have cN:H.E≠s.E:=ae.JJ aI bh;have eb:=an.size;refine GI.jY (aI.ext an) ((ba.trans an).fz []) L (by have:=Q.2;omega) λdT dP ch cg br bn=>⟨λj b=>?_,a5 V _ _ _ _ ⟨cg.ext,⟨_,(ae.ext gG.mono an).re gG.mono (Y:=[s.E]) ⟨br.1,λj b hn=>bn j b (by simpa using hn)⟩ aJ (by simpa using cN) λj b=>?_,I.1,I.2.1,V⟩,⟨_,(ac.ext an).iL (bn _ ?_ bl),bR⟩,⟨_,ch,?_,?_⟩,?_⟩⟩
  ·have:=u (g:=a4) V j b;rw[bn j this (by simp at b;omega),(N.push a4 _).same j this]
  ·simp only[cA,dN,aU]at b⊢;rcases b with h|h|h
   ·exact Or.inl (Or.inr (Or.inl h))
   ·rcases br.2 with q|q
    ·exact Or.inl (Or.inl (h.trans q))
    ·exact Or.inr V
   ·exact Or.inl (Or.inr (Or.inr h))
  ·have:=ac.be;omega
  ·have:=Q.2;simp;omega
  ·intro z B;rcases List.mem_append.1 B with B|B
   ·exact bg z B
   ·simp at B;omega
  ·have:=ac.be;rcases br.2 with q|q<;>omega
 ·have ab:k=ar.length:=V;subst ab;rw[fE]at*;have Q:∀(g:J)(H:O)(u:List cK),N r g->GS (o.E::v.E::p.size::d) r g H u->WL W f.length True al.length u->dc u=dc ar->sw u<=1100*sw ar+2->
   let z:J:=ah g p.size 0 [.s H,.i w]
   ∃s c,Value.agg #[O.v H,vi w]=.agg #[O.v s,vi c.aV]/\eD (bM d z) s c.ar/\(WB W f.length True al.length c/\c.w+1050<=1100*(Bk.mk ar w).w)/\N m z:=by
   intro g H u t y Z h2 h3 z
   have ac:=fH u
   have:=y.be
   refine⟨H,.mk u w,rfl,eD.le (cv aJ λj b=>ai _ b) (y.re gG.mono (S':=p.size::d) (Y:=[]) (Fz.az _ _) aJ aJ (λj b=>Or.inl (ai _ (ai _ b)))|>.done gG.mono L bh bR),⟨WB.of Z (by rw[h2];exact bi.2),?_⟩,(F.trans t).ah V _ _⟩
   rw[Bk.pW,Bk.pW];omega
  have jZ:∀(g:J),N C g->aL cp 225 [vi (14:Int),vi w] g λrv E=>dR [p.size,m0.size,m.size] g E/\∃aP:Int,∃aQ:Int,∃aR:Int,∃aS:O,∃aT:O,rv=.agg #[vi aP,vi aQ,vi aR,O.v aS,O.v aT]/\
   let M2:J:=E.push (.cells (bC [.i aP,.i aQ,.i aR,.s aS,.s aT]) fJ)
   jh M2 fJ [.i (0:Int),.i (0:Int),.i (0:Int),.s O.nil,.s O.nil] 72 A (O.mk E.size 0 1 1) λR K=>dR [p.size,m0.size,m.size] M2 K/\
    let z:J:=ah K p.size 0 [.s R,.i w]
    ∃s c,Value.agg #[O.v R,vi w]=.agg #[O.v s,vi c.aV]/\eD (bM d z) s c.ar/\(WB W f.length True al.length c/\c.w+1050<=1100*(Bk.mk ar w).w)/\N m z:=by
   intro g t
   refine(iz (c:=A.E::o.E::v.E::p.size::d) (λj b=>?_) 14 w).mono λrv E⟨a,kk,q,Z,h2,x1⟩=>?_
   ·have:=t.size
    simp at b
    rcases b with h|h|h|h|h
    ·omega
    ·omega
    ·omega
    ·have:=x6.lt (P p.size aJ);omega
    ·have:=hS _ h;have:=v6.size;omega
   subst q
   have ak:=x6.trans (t.trans x1)
   refine⟨N.nW (x6.trans t) ak P,_,_,_,_,_,rfl,?_⟩
   refine GS.jY (x:=eN 14 w) (gs.ext gG.mono (t.trans x1)) (ak.fz []) Z h2 (by have:=fH T;omega) λr' K y aX aH a6=>⟨N.nW (ak.aN _) aX.ext P,Q K r' _ aX.ext y (aZ.zp (CL V (by rw[aa];exact bi.2))) ?_ ?_⟩
   ·rw[cL,aa];simp[jR,dn,eN,oI]
   ·rw[dq];simp[mh,cK.lO,eN];omega
  obtain⟨aH,hz⟩:=ag (l:=li) (k:=w.toNat) V;refine⟨V,V,aH,cB.D hz,λ_=>?_,λ_=>Q C A T x6 gs aZ aa V⟩;refine(dj (bO.ext v6) w).any.aK x6 P λc m7 I u7=>⟨_,rfl,λ_=>jZ m7 I,λ_=>?_⟩;exact(dj (cD.ext I) w).any.aK u7 P λc D x8 U=>⟨_,rfl,λ_=>jZ D (I.trans x8),λ_=>Q D A T U ((gs.ext gG.mono I).ext gG.mono x8) aZ aa V⟩
end
end Go.Proofs.YtgnjacfobdjeeaaGreat
