/- Part of a proof, joined by a program. -/
import Derived.Test.YtgnjacfobdjeeaaGreatP01
import Derived.Test.YtgnjacfobdjeeaaGreatP02
import Derived.Test.YtgnjacfobdjeeaaGreatP03
import Derived.Test.YtgnjacfobdjeeaaGreatP04
import Derived.Test.YtgnjacfobdjeeaaGreatP05
import Derived.Test.YtgnjacfobdjeeaaGreatP06
set_option linter.unusedVariables false
set_option linter.unusedSimpArgs false
set_option linter.defProp false
set_option linter.constructorNameAsVariable false
set_option maxHeartbeats 8000000
set_option maxRecDepth 100000
namespace Go.Proofs.YtgnjacfobdjeeaaGreat
open Go.Vc
section
variable{m:J}{R:Value->J->Prop}
def Iv(a bL:Int)(bD:O):=cY m R A0 [cI a,cI bL,cS bD] Tryz.func311
def Ds(r:Nat×Nat)(t:Int):=cY m R ⟨[(8,[(9,.I)])],[(5,[(7,.P)])],[(5,[51,50,49]),(8,[50,49])]⟩ [cP r,cI t] Tryz.func312
def Cd(v:Int):=cY m R A0 [cI v] Tryz.func313
def Iq(r:Nat×Nat)(a b c:O)(t:Int):=cY m R A0 [cP r,.agg [.s a,.s b],cS c,cI t] Tryz.func314
def zZ(a b:Int)(c:O)(left:Int):=cY m R ⟨[(5,[(1,.I),(5,.I)])],[],[(5,[29])]⟩ [.agg [.i a,.i b,.s c],cI left] Tryz.func315
def Br(a b c:Int)(d e:O):=cY m R ⟨[(3,[(3,.S),(4,.I)])],[],[(3,[35,34])]⟩ [.agg [.i a,.i b,.i c,.s d,.s e]] Tryz.func316
def Bp(a:O)(b f:Int):=cY m R ⟨[(2,[(5,.I)]),(7,[(6,.I)])],[],[(2,[55]),(7,[55])]⟩ [.agg [.s a,.i b],cI f] Tryz.func317
def wD(b c d:Int)(e f:O)(n:Int)(a:O):=cY m R ⟨[(4,[(2,.S),(7,.I)]),(9,[(2,.S),(8,.I)])],[],[(4,[61]),(9,[61])]⟩ [.agg [.i b,.i c,.i d,.s e,.s f],cI n,cS a] Tryz.func318
def Dp(b c:O)(e f g:Int)(h j:O)(i:Int)(d a:O):=cY m R A0 [.agg [.s b,.s c],.agg [.i e,.i f,.i g,.s h,.s j],cI i,cS d,cS a] Tryz.func319
def Bt(d e g aR a:O)(b:Int)(f c:O):=cY m R ⟨[(7,[(16,.S),(17,.S),(18,.I)]),(14,[(19,.S),(20,.I)])],[],[(7,[127,124,121]),(14,[127,124,121])]⟩ [.agg [.s d,.s e],cS g,cS aR,.agg [.s a,.i b],cS f,cS c] Tryz.func320
def EL(a b:O):=cY m R ⟨[(3,[(5,.S),(6,.I)])],[],[]⟩ [cS a,cS b] Tryz.func321
def Da(aT:O)(a b:Int):=cY m R ⟨[(2,[(7,.I)])],[],[]⟩ [cS aT,cI a,cI b] Tryz.func322
def uD(l:Nat×Nat):=cY m R A0 [cP l] Tryz.func323
def vH(l:Nat×Nat)(d e a:O)(b c:Int):=cY m R ⟨[(2,[(9,.I)])],[],[(2,[51,50])]⟩ [cP l,.agg [.s d,.s e],.agg [.s a,.i b],cI c] Tryz.func324
def C9(r:Nat×Nat)(a b c:O):=cY m R A0 [cP r,.agg [.s a,.s b],cS c] Tryz.func325
def ER(r:Nat×Nat)(b c e d:O)(a:Int):=cY m R ⟨[(3,[(11,.S),(12,.I)])],[],[(3,[42])]⟩ [cP r,.agg [.s b,.s c],cS e,cS d,cI a] Tryz.func326
def Bz(r:Nat×Nat)(b c d:O)(t a:Int):=cY m R ⟨[(7,[(13,.S),(14,.I)])],[(4,[(11,.I)])],[(4,[79,75]),(7,[79,75])]⟩ [cP r,.agg [.s b,.s c],cS d,cI t,cI a] Tryz.func327
def Bn(a b:O)(t:Int):=cY m R ⟨[(3,[(5,.S),(6,.I)]),(7,[(7,.T),(8,.I)])],[],[(3,[59]),(7,[59])]⟩ [.agg [.s a,.s b],cI t] Tryz.func328
end
section
variable{m:J}{R:Value->J->Prop}
def BA(r:Nat×Nat)(b c d:O)(t a:Int):=cY m R ⟨[(3,[(11,.I)])],[(7,[])],[(3,[130,126]),(7,[130,126])]⟩ [cP r,.agg [.s b,.s c],cS d,cI t,cI a] Tryz.func329
def Dz(r:Nat×Nat):=cY m R A0 [cP r] Tryz.func330
def yx(a:O)(t:Int):=cY m R ⟨[(3,[(5,.S),(6,.I)])],[],[]⟩ [cS a,cI t] Tryz.func331
def Db(a b c:O)(t:Int):=cY m R A0 [.agg [.s a,.s b],cS c,cI t] Tryz.func332
def BY(r:Nat×Nat)(a b:O)(t:Int):=cY m R ⟨[(11,[(9,.S),(11,.I)]),(21,[(15,.S),(16,.I)])],[(6,[(8,.I)]),(8,[(8,.I)]),(17,[(80,.T)])],[(6,[124,122]),(8,[124,122]),(11,[124,122]),(17,[124,122]),(21,[124,122])]⟩ [cP r,.agg [.s a,.s b],cI t] Tryz.func333
def vL(a b:O)(c d e:Int)(f g:O)(i:Int):=cY m R ⟨[(2,[(7,.I)])],[],[(2,[46,45])]⟩ [.agg [.s a,.s b],.agg [.i c,.i d,.i e,.s f,.s g],cI i] Tryz.func334
def Gm(a:O)(n:Int):=cY m R ⟨[(3,[(5,.S),(6,.I)])],[],[]⟩ [cS a,cI n] Tryz.func335
def ye(l:Nat×Nat)(a:Int):=cY m R ⟨[(2,[(5,.I)])],[],[]⟩ [cP l,cI a] Tryz.func336
def Bo(a b:O)(t:Int):=cY m R ⟨[(3,[(5,.S),(6,.I)])],[],[(3,[55])]⟩ [.agg [.s a,.s b],cI t] Tryz.func337
end
end Go.Proofs.YtgnjacfobdjeeaaGreat
namespace Go.Proofs.YtgnjacfobdjeeaaGreat
open Go.Vc
section
variable{m:J}{b:O}{a:List Int}
def bF(n b a:Int)(m:J):dW cp 33 [vi n,vi b,vi a] m (b<=n/\n<=a):=by
 apply Dl;refine⟨λh=>fF ?_ (N.az _),λh=>cX ?_ (N.az _)⟩<;>simp at h
 ·simp[h]
 ·omega
def je(a:Int)(m:J):dW cp 205 [vi a] m (0<=a/\a<=11):=by
 apply Dg;exact(bF _ _ _ _).then λd e c b=>⟨_,rfl,fF c b⟩
def lx(a:Int):Prop:=0<=a/\a<=11/\a≠7/\a≠8\/a=18\/a=19
def wR(e:Int)(m:J):dW cp 153 [vi e] m (lx e):=by
 apply ID;refine(je _ _).then λg i d a=>⟨_,rfl,λh=>?_,λh=>?_⟩
 ·have h:=d.1 h;refine⟨λb=>⟨λc=>jM ?_ a,λc=>⟨λf=>jM ?_ a,λf=>fF ?_ a⟩⟩,λb=>⟨λc=>jM ?_ a,λc=>fF ?_ a⟩⟩<;>simp[lx]at* <;>omega
 ·have h:=fb d h;refine⟨λb=>jM ?_ a,λb=>fF ?_ a⟩<;>simp[lx]at* <;>omega
def dj(f:aq m b a)(e:Int):dW cp 175 [O.v b,vi e] m (e∈a):=by
 apply Ik;have o:=f.len;refine fB (n:=a.length) (o▸f.gV) (λh c=>N m c/\∀y∈a.take h,y≠e) ⟨N.az _,aJ⟩ ?_;rintro h r I μ q ⟨d,i⟩ p
 refine dit (λj=>?_) λj=>?_
 ·obtain⟨x,g⟩:=ag (l:=a) (k:=h) V;refine⟨V,V,x,by simpa using d.af (f.D g),λc=>?_,λc=>?_⟩
  ·simp only[aE]at c;exact jM (c▸av g) d
  ·simp only[ak]at c;exact p V _ ⟨d,cF g i c⟩
 ·exact cX (λc=>dx V i e c rfl) d
def yG(n:Nat)(t:Int):Prop:=0<=t/\t<=n
def DU(n:Nat)(a:List Int):Prop:=∀t∈a,yG n t
def vy(d:aq m b a)(aT:O):dW cp 111 [O.v aT,O.v b] m (DU aT.len a):=by
 apply Bh;have o:=d.len;refine fB (n:=a.length) (o▸d.gV) (λf c=>N m c/\∀t∈a.take f,yG aT.len t) ⟨N.az _,aJ⟩ ?_;rintro f t I μ s ⟨c,j⟩ q
 refine dit (λh=>?_) λh=>?_
 ·obtain⟨x,e⟩:=ag (l:=a) (k:=f) V;refine⟨V,V,x,by simpa using c.af (d.D e),?_⟩;refine(bF _ _ _ _).then λr u i g=>⟨_,rfl,λh=>?_,λh=>?_⟩
  ·exact cX (λp=>nb i h (p x (av e))) (c.trans g)
  ·exact q V _ ⟨c.trans g,cF e j (yb i h)⟩
 ·exact jM (dx V j) c
def Md(a:List Int)(d b c:Int):Prop:=(a.length:Int)=d/\∀t∈a,b+1<=t/\t<=c -1
def DI(g:aq m b a)(q c d:Int)(z: -1<=c/\c<9223372036854775807)(f:0<=d/\d<=9223372036854775807):
 dW cp 158 [O.v b,vi q,vi c,vi d] m (Md a q c d):=by
 apply yv
 have i:=g.len
 refine⟨λh=>?_,λh=>?_⟩
 ·simp only[uO]at h
  exact cX (λj=>h (by rw[i];exact j.1)) (N.az _)
 ·simp only[gZ]at h
  have w:q=(a.length:Int):=by rw[<-h,i]
  subst w
  have u:cR (c+1)=c+1:=aP V V
  have v:cR (d -1)=d -1:=aP V V
  rw[u,v]
  refine fB (n:=a.length) (i▸g.gV) (λp e=>N m e/\∀t∈a.take p,c+1<=t/\t<=d -1) ⟨N.az _,aJ⟩ ?_
  rintro p B I μ A ⟨e,s⟩ t
  refine dit (λh=>?_) λh=>?_
  ·obtain⟨x,o⟩:=ag (l:=a) (k:=p) V
   refine⟨V,V,x,by simpa using e.af (g.D o),?_⟩
   refine(bF _ _ _ _).then λy C r f=>⟨_,rfl,λh=>?_,λh=>?_⟩
   ·exact cX (λj=>nb r h (j.2 x (av o))) (e.trans f)
   ·exact t V _ ⟨e.trans f,cF o s (yb r h)⟩
  ·exact jM ⟨rfl,dx V s⟩ e
def CI(a cG:List Int):Prop:=∀(k:Nat)(v:Int),cG[k]? =some v->(∃t,0<=v/\a[v.toNat]? =some t/\t≠0)/\(∀u:Int,0<k->cG[k -1]? =some u->u<v)
def tZ{C cG:O}{r:List Int}(o:aq m C r)(i:aq m cG a):dW cp 112 [O.v C,O.v cG] m (CI r a):=by
 apply Ap;have L:=i.len;have M:=o.len;have W:=o.gV;have H:cR ((C.len:Int) -1)=(r.length:Int) -1:=by rw[aP V V,M]
 rw[H];have U:=i.gV;refine fB (n:=a.length) (L▸i.gV) (λc P=>N m P/\∀(j:Nat)(v:Int),j<c->a[j]? =some v->(∃t,0<=v/\r[v.toNat]? =some t/\t≠0)/\(∀u:Int,0<j->a[j -1]? =some u->u<v)) ⟨N.az _,aJ⟩ ?_;rintro c Q R μ T ⟨p,z⟩ F
 refine dit (λh=>?_) λh=>?_
 ·obtain⟨x,e⟩:=ag (l:=a) (k:=c) V;have g1:af Q cG.E (cG.off+Int.toNat c*1)=some (vi x):=by simpa using p.af (i.D e)
  refine⟨V,V,x,g1,?_⟩;refine(bF _ _ _ _).then λS X D f=>⟨_,rfl,λh=>?_,λh=>?_⟩
  ·refine cX (λo=>nb D h ?_) (p.trans f);obtain⟨⟨t,d,y,_⟩,_⟩:=o c x e;have:=aD y;omega
  ·have E:=yb D h;obtain⟨t,s⟩:=ag (l:=r) (k:=x.toNat) V;have J:=(p.trans f).af (o.D s);have q:=p.trans f;refine⟨V,V,x,f.af g1,V,V,t,by simpa using J,λd=>?_,λd=>?_⟩
   ·simp only[aE]at d;refine cX (λb=>?_) q;obtain⟨⟨A,_,g,w⟩,_⟩:=b c x e;rw[s]at g;simp at g;exact w (g▸d)
   ·simp only[ak]at d;refine dit (λy=>?_) λy=>?_
    ·have I:cR ((c:Int) -1)=((c -1:Nat):Int):=by rw[aP V V];omega
     obtain⟨G,B⟩:=ag (l:=a) (k:=c -1) V;rw[I];refine⟨V,V,x,f.af g1,V,V,G,by simpa using q.af (i.D B),dit (λg=>?_) λg=>?_⟩
     ·refine cX (λb=>?_) q;have:=(b c x e).2 G V B;omega
     ·refine F V _ ⟨q,λj v K b=>?_⟩
      by_cases w:j=c
      ·subst w;rw[e]at b;simp at b;subst b;refine⟨⟨t,E.1,s,d⟩,λu _ A=>?_⟩;rw[B]at A;simp at A;subst A;omega
      ·exact z j v V b
    ·refine F V _ ⟨q,λj v K b=>?_⟩
     by_cases w:j=c
     ·subst w;rw[e]at b;simp at b;subst b;exact⟨⟨t,E.1,s,d⟩,λu g _=>V⟩
     ·exact z j v V b
 ·exact jM (λj v b=>z j v (by have:=aD b;omega) b) p
end
section
variable{m:J}
structure FA(ds:List bu)(k:Nat)(d:bu):Prop where
 iu:0<d.cons.length->d.cons.length<=3/\d.uP=0/\d.to=0/\∀f∈d.cons,f.length<=3/\DU ds.length f
 Qk:d.cons.length=0->(∀e∈ds.take k,¬(e.cons.length=0/\e.uP=d.uP/\e.to=d.to))/\yG ds.length d.uP/\yG ds.length d.to
structure dI(ds:List bu):Prop where
 len:ds.length<=4
 dz:∀(k:Nat)(d:bu),ds[k]? =some d->FA ds k d
def Fi{aT:O}{i:List bu}(hd:cr m aT i){f:Nat}{d:bu}(K:i[f]? =some d):dW cp 152 [O.v aT,vi f] m (FA i f d):=by
 apply An;simp -zeta only[aC,aB];have Z:=aD K;have x:=hd.len;obtain⟨z,B,L,g1,g2⟩:=hd.D K;refine⟨V,V,_,by simpa using L,_,by simpa using g1,_,by simpa using g2,?_⟩;intro R u;have c:N m u:=((N.az m).aN _).ah (ad _) _ _;have C:∀v∈[m.size],v<u.size:=by simp[u,R,ay]
 have P:=B.len;refine dit (λs=>?_) λs=>?_
 ·refine dit (λM=>?_) λM=>?_
  ·exact cX (λa=>by have:=(a.iu V).1;omega) c
  refine⟨λg=>?_,λg=>?_⟩
  ·simp only[uO]at g;exact cX (λa=>g (a.iu V).2.1) c
  simp only[gZ]at g;refine⟨λr=>?_,λr=>?_⟩
  ·simp only[uO]at r;exact cX (λa=>r (a.iu V).2.2.1) c
  simp only[gZ]at r;refine fB (n:=d.cons.length) (P▸B.gV) (λf D=>N u D/\∀z∈d.cons.take f,z.length<=3/\DU i.length z) ⟨N.az _,aJ⟩ ?_;rintro j y I μ Q ⟨h,t⟩ F
  refine dit (λA=>?_) λA=>?_
  ·obtain⟨E,w⟩:=ag (l:=d.cons) (k:=j) V;obtain⟨G,J,H⟩:=(oH.ext (c.trans h) B).D w;have T:=J.len;refine⟨V,V,G,by simpa using H,dit (λq=>?_) λq=>?_⟩
   ·exact cX (λa=>by have:=((a.iu V).2.2.2 E (av w)).1;omega) (c.trans h)
   ·refine⟨V,V,G,by simpa using H,?_⟩;refine(vy J _).aK h C λv S p o b=>⟨_,rfl,λe=>?_,λe=>?_⟩
    ·exact cX (λa=>nb p e (x▸((a.iu V).2.2.2 E (av w)).2)) (c.trans b)
    ·exact F V _ ⟨b,cF w t ⟨V,x▸yb p e⟩⟩
  ·exact jM ⟨λ_=>⟨V,g,r,dx V t⟩,λH=>V⟩ (c.trans h)
 ·have E:d.cons.length=0:=V;have X:=hd.gV;refine fB (n:=f) V (λf D=>N u D/\∀g∈i.take f,¬(g.cons.length=0/\g.uP=d.uP/\g.to=d.to)) ⟨N.az _,aJ⟩ ?_;rintro j y I μ Q ⟨h,t⟩ F
  refine dit (λA=>?_) λA=>?_
  ·obtain⟨g,w⟩:=ag (l:=i) (k:=j) V;obtain⟨G,J,T,U,W⟩:=(cr.ext (c.trans h) hd).D w;have Y:=J.len;have D:¬(g.cons.length=0/\g.uP=d.uP/\g.to=d.to)->I (cR ((j:Int)+1)) y/\μ (cR ((j:Int)+1)) y<μ j y:=λr=>F V _ ⟨h,cF w t r⟩
   refine⟨V,V,G,by simpa using W,λq=>?_,λq=>?_⟩
   ·simp only[aE]at q;refine⟨V,V,_,by simpa using T,λo=>?_,λo=>?_⟩
    ·simp only[aE]at o;refine⟨V,V,_,by simpa using U,λb=>?_,λb=>?_⟩
     ·simp only[aE]at b;have M:g∈i.take f:=by
       rw[List.mem_iff_getElem?];exact⟨j,by rw[kW,an V];exact w⟩
      exact cX (λa=>(a.Qk E).1 g M ⟨V,o,b⟩) (c.trans h)
     ·simp only[ak]at b;exact D (λr=>b r.2.2)
    ·simp only[ak]at o;exact D (λr=>o r.2.1)
   ·simp only[ak]at q;exact D (λr=>q V)
  ·have g:j=f:=V;subst g;refine(bF _ _ _ _).aK h C λv S p o b=>⟨_,rfl,λe=>?_,λe=>?_⟩
   ·have e:=p.1 e;refine(bF _ _ _ _).aK b C λv w p r q=>⟨_,rfl,fF ?_ (c.trans q)⟩;rw[p];rw[x]at e⊢;exact⟨λs=>⟨λH=>V,λ_=>⟨t,e,s⟩⟩,λs=>(s.Qk E).2.2⟩
   ·exact cX (λa=>fb p e (x▸(a.Qk E).2.1)) (c.trans b)
def DK{aT:O}{a:List bu}(hd:cr m aT a):dW cp 110 [O.v aT] m (dI a):=by
 apply yw;have w:=hd.len;refine dit (λq=>?_) λq=>?_
 ·exact cX (λf=>by have:=f.len;omega) (N.az _)
 ·refine fB (n:=a.length) V (λs t=>N m t/\∀(j:Nat)(d:bu),j<s->a[j]? =some d->FA a j d) ⟨N.az _,aJ⟩ ?_;rintro j z I μ y ⟨b,o⟩ u
  refine dit (λr=>?_) λr=>?_
  ·obtain⟨p,e⟩:=ag (l:=a) (k:=j) V;refine(Fi (cr.ext b hd) e).then λv A h g=>⟨_,rfl,λc=>?_,λc=>?_⟩
   ·exact cX (λf=>nb h c (f.dz j p e)) (b.trans g)
   ·refine u V _ ⟨b.trans g,λi d x bM=>?_⟩
    by_cases f:i=j
    ·subst f;rw[e]at bM;simp at bM;subst bM;exact yb h c
    ·exact o i d V bM
  ·exact jM ⟨V,λi d bM=>o i d (by have:=aD bM;omega) bM⟩ b
end
section
variable{a:Nat}{m:J}
def fc:List bu->Nat->Nat
 |_,0=>0
 |[],_=>0
 |d::b,a+1=>d.cons.length+fc b a
def eE(a:List bu):List (List Int):=a.flatMap bu.cons
def Pg(a:Nat):fc [] a=0:=by cases a<;>rfl
def rJ:∀{b:List bu}{a:Nat}{c:bu},b[a]? =some c->fc b (a+1)=fc b a+c.cons.length
 |[],a,c,h=>by simp at h
 |e::b,0,c,h=>by
  simp at h;subst h;simp only[fc];cases b<;>simp[fc]
 |e::b,a+1,c,h=>by
  have:=rJ (b:=b) (a:=a) (c:=c) (by simpa using h);simp only[fc]at this⊢;omega
def mz:∀(b:List bu)(a:Nat),b.length<=a->fc b a=(eE b).length
 |[],a,_=>by rw[Pg];rfl
 |d::b,0,h=>by simp at h
 |d::b,a+1,h=>by
  have:=mz b a (by simpa using h);simp only[fc,eE,lR,a8]at this⊢;omega
def Qa:∀(a:List bu){b c:Nat},b<=c->fc a b<=fc a c
 |[],b,c,_=>by simp[Pg]
 |d::a,0,c,_=>by simp[fc]
 |d::a,b+1,0,h=>V
 |d::a,b+1,c+1,h=>by
  have:=Qa a (b:=b) (c:=c) V;simp only[fc];omega
def kL{b:List bu}(h:dI b){d:bu}(e:b[a]? =some d):d.cons.length<=3:=by
 rcases kX d.cons.length with c|c
 ·omega
 ·exact((h.dz a d e).iu c).1
def RL{b:List bu}(h:dI b):∀a,fc b a<=3*a
 |0=>by cases b<;>simp[fc]
 |a+1=>by
  have e:=RL h a;rcases bA a b.length with c|c
  ·obtain⟨d,hd⟩:=ag c;rw[rJ hd];have:=kL h hd;omega
  ·rw[mz b (a+1) V,<-mz b a c];omega
def qx{b:List bu}(h:dI b)(a:Nat):fc b a<=12:=by
 rcases bA a b.length with c|c
 ·have:=RL h a;have:=h.len;omega
 ·rw[mz b a c,<-mz b b.length (ad _)];have:=RL h b.length;have:=h.len;omega
def qu:∀(a:List bu)(i j:Nat)(d:bu),a[i]? =some d->j<d.cons.length->(eE a)[fc a i+j]? =d.cons[j]?
 |[],i,j,d,h,_=>by simp at h
 |e::a,0,j,d,h,b=>by
  simp at h;subst h;simp only[fc,eE,lR,cO];rw[aw b]
 |e::a,i+1,j,d,h,b=>by
  have:=qu a i j d (by simpa using h) b;simp only[fc,eE,lR]at this⊢;rw[aF V,<-this];congr 1;omega
def ug:∀(a:List bu)(c:Nat),c<(eE a).length->∃i d,a[i]? =some d/\fc a i<=c/\c<fc a i+d.cons.length
 |[],c,h=>by simp[eE]at h
 |e::a,c,h=>by
  rcases bA c e.cons.length with b|b
  ·exact⟨0,e,aJ,by simp[fc],by simpa[fc]using b⟩
  ·obtain⟨i,d,f,g,j⟩:=ug a (c -e.cons.length) (by simp only[eE,lR,a8]at h⊢;omega);exact⟨i+1,d,by simpa using f,by simp only[fc];omega,by simp only[fc];omega⟩
def jC{aT:O}{b:List bu}(hd:cr m aT b)(d:dI b)(v:a<=b.length):uR cp 187 [O.v aT,vi a] m (vi (fc b a)):=by
 apply By;have t:=hd.len;have:=d.len;refine dS (n:=a) V (λj g c=>N m c/\g=(fc b j:Nat)) ⟨N.az _,by cases b<;>rfl⟩ ?_;rintro j g w I μ u ⟨e,rfl⟩ o
 refine dit (λi=>?_) λi=>?_
 ·obtain⟨p,c⟩:=ag (l:=b) (k:=j) V;obtain⟨h,f,q,g1,g2⟩:=(cr.ext e hd).D c;refine⟨V,V,h,by simpa using g2,?_⟩;refine o V _ _ ⟨e,?_⟩
  have r:=qx d j;have s:=kL d c;rw[aP V (by have:=f.len;omega),rJ c,f.len];rfl
 ·have:j=a:=V;subst this;exact⟨rfl,e⟩
def pS{aT:O}{a:List bu}(hd:cr m aT a)(c:dI a):uR cp 179 [O.v aT] m (vi (eE a).length):=by
 apply Bq;have s:=hd.len;have:=c.len;refine dS (n:=a.length) V (λj f b=>N m b/\f=(fc a j:Nat)) ⟨N.az _,by cases a<;>rfl⟩ ?_;rintro j f u I μ t ⟨d,rfl⟩ i
 refine dit (λh=>?_) λh=>?_
 ·obtain⟨o,b⟩:=ag (l:=a) (k:=j) V;obtain⟨g,e,p,g1,g2⟩:=(cr.ext d hd).D b;refine⟨V,V,g,by simpa using g2,?_⟩;refine i V _ _ ⟨d,?_⟩
  have q:=qx c j;have r:=kL c b;rw[aP V (by have:=e.len;omega),rJ b,e.len];rfl
 ·refine⟨?_,d⟩;rw[mz a j V]
def V2(a:List bu)(c t:Int):Prop:=
 (∃(i:Nat)(d:bu),t=i+1/\a[i]? =some d/\(fc a i:Int)<=c/\c<fc a i+d.cons.length)\/(t= -1/\¬(0<=c/\c<(eE a).length))
def lJ{aT:O}{a:List bu}(hd:cr m aT a)(o:dI a)(c:Int):aL cp 154 [O.v aT,vi c] m λG r=>∃w,G=vi w/\V2 a c w/\N m r:=by
 apply Dd;have K:=hd.len;have:=o.len;refine fB (n:=a.length) V (λj r=>N m r/\∀(i:Nat)(d:bu),i<j->a[i]? =some d->¬((fc a i:Int)<=c/\c<fc a i+d.cons.length)) ⟨N.az _,aJ⟩ ?_;rintro j P I μ M ⟨b,u⟩ F
 refine dit (λB=>?_) λB=>?_
 ·obtain⟨d,h⟩:=ag (l:=a) (k:=j) V;refine(jC (cr.ext b hd) o V).then λQ e=>⟨_,rfl,?_⟩;obtain⟨p,D,J,g1,g2⟩:=(cr.ext (b.trans e) hd).D h;refine⟨V,V,p,by simpa using g2,?_⟩;have q:=qx o j;have C:=kL o h;have E:=D.len;have A:cR (cR ((fc a j:Int)+(p.len:Int)) -1)=(fc a j:Int)+d.cons.length -1:=by
   rw[aP (b:=(fc a j:Int)+(p.len:Int)) V V,aP V V,E]
  rw[A];refine(bF _ _ _ _).then λH R t s=>⟨_,rfl,λf=>?_,λf=>?_⟩
  ·have f:=t.1 f;refine⟨_,rfl,Or.inl ⟨j,d,?_,h,V,V⟩,(b.trans e).trans s⟩;rw[aP V V]
  ·refine F V _ ⟨(b.trans e).trans s,λi y L g=>?_⟩
   by_cases z:i=j
   ·subst z;rw[h]at g;simp at g;subst g;intro v;exact fb t f ⟨v.1,V⟩
   ·exact u i y V g
 ·refine⟨_,rfl,Or.inr ⟨rfl,λv=>?_⟩,b⟩;obtain⟨i,d,q,e,C⟩:=ug a c.toNat V;exact u i d (by have:=aD q;omega) q ⟨V,V⟩
def cz(a:List bu)(c:Int):List Int:=if 0<=c then((eE a)[c.toNat]?).getD []else[]
def EM{aT:O}{a:List bu}(hd:cr m aT a)(d:dI a)(c:Int):aL cp 155 [O.v aT,vi c] m λz o=>∃s,z=O.v s/\aq o s (cz a c)/\N m o:=by
 apply qH;have G:=hd.len;have:=d.len;refine(lJ hd d c).mono ?_;rintro _ J ⟨L,rfl,h,e⟩;refine⟨_,rfl,dit (λw=>?_) λw=>?_⟩
 ·refine⟨_,rfl,?_,e.aN _⟩;have g:cz a c=[]:=by
   rcases h with⟨i,f,x,_⟩|⟨_,b⟩
   ·omega
   ·unfold cz;split
    ·rw[di V];rfl
    ·rfl
  rw[g];exact⟨rfl,ad _,aJ,aJ⟩
 ·rcases h with⟨i,f,rfl,b,D,E⟩|⟨x,_⟩
  ·have I:=aD b;obtain⟨t,j,B,g1,g2⟩:=(cr.ext e hd).D b;have p:cR ((i:Int)+1 -1)=i:=by rw[aP V V];omega
   rw[p];refine⟨V,V,t,by simpa using g2,?_⟩;refine(jC (cr.ext e hd) d V).then λK g=>⟨_,rfl,g.bZ (by simpa using g2),?_⟩;have C:=qx d i;have F:=kL d b;have H:=j.len;obtain⟨A,n⟩:=ag (l:=f.cons) (k:=(c -fc a i).toNat) V;obtain⟨u,y,v⟩:=(oH.ext g j).D n;have q:cR (c -(fc a i:Int))=c -fc a i:=aP V V;rw[q];refine⟨V,V,u,v,_,rfl,?_,e.trans g⟩;have r:cz a c=A:=by
    unfold cz;rw[an V];have:=qu a i (c -fc a i).toNat f b V;rw[show c.toNat=fc a i+(c -fc a i).toNat by omega,this,n];rfl
   rw[r];exact y
  ·omega
def cg(a:List bu)(t:Int):List Int:=
 if 1<=t/\t<=a.length then((a[t.toNat -1]?).map λd=>(List.range d.cons.length).map λi=>((fc a (t.toNat -1)+i:Nat):Int)).getD []else[]
def zB{aT:O}{a:List bu}(hd:cr m aT a)(c:dI a)(t:Int):aL cp 157 [O.v aT,vi t] m λK b=>∃s,K=O.v s/\aq b s (cg a t)/\N m b:=by
 apply tT;intro v;have U:=hd.len;have:=c.len;have u:N m v:=(N.az m).aN _;have H:ij m v aI 1 (.mk m.size 0 0 0) []:=ij.new (N.az m) aI 1 [] 0 aJ;refine(bF _ _ _ _).then λM Y p f=>⟨_,rfl,λh=>?_,λh=>?_⟩
 ·refine⟨_,rfl,?_,u.trans f⟩;have e:cg a t=[]:=by
   unfold cg;rw[ae (by have:=nb p h;omega)]
  rw[e];exact⟨rfl,ad _,aJ,aJ⟩
 ·have h:=yb p h;have x:cR (t -1)=((t.toNat -1:Nat):Int):=by rw[aP V V];omega
  rw[x];obtain⟨e,g⟩:=ag (l:=a) (k:=t.toNat -1) V;have y:cg a t=(List.range e.cons.length).map λi=>((fc a (t.toNat -1)+i:Nat):Int):=by
   unfold cg;rw[an V,g];rfl
  rw[y];have S:=qx c (t.toNat -1);have T:=kL c g;refine dS (n:=e.cons.length) V (λj s b=>N m b/\ij m b aI 1 s (((List.range j).map λi=>((fc a (t.toNat -1)+i:Nat):Int)).map Ce.i)/\s.len=j) ⟨u.trans f,by simpa using H.ext f,rfl⟩ ?_;rintro j s Z L μ X ⟨d,q,r⟩ J
  obtain⟨A,F,P,g1,g2⟩:=(cr.ext d hd).D g;have W:=F.len;refine⟨V,V,A,by simpa using g2,dit (λB=>?_) λB=>?_⟩
  ·refine(jC (cr.ext d hd) c V).then λI o=>⟨_,rfl,?_⟩;intro w;have z:cR (((fc a (t.toNat -1):Nat):Int)+(j:Int))=((fc a (t.toNat -1)+j:Nat):Int):=by rw[aP V V];omega
   have G:w=I.push (.cells (bC [.i (((fc a (t.toNat -1)+j:Nat):Int))]) aI):=by rw[<-z]
   clear_value w;subst G;refine ij.append (c:=[.i 0]) (i:=[.i ((fc a (t.toNat -1)+j:Nat):Int)]) ((q.ext o).ext (N.push _ _)) ((d.trans o).aN _) rfl (cx.push _ _ _).iv (by simp[r];omega) ?_;intro aa b C D E Q R _;refine J V _ _ ⟨D,?_,by simp[E,r]⟩
   rw[Q1,fx,fx];exact C
  ·have:j=e.cons.length:=V;subst this;exact⟨_,rfl,aq.gQ q bR,d⟩
end
section
variable{S:List Nat}{d:J}{s j a h:O}{e g p:List Int}{k f:Nat}{x:Int}{Q:List Int->Prop}{K:Value->J->Prop}
def _root_.Go.Vc.aq.bV{X:List Nat}{a:J}(b:aq (bM S d) s e)(f:Fz X d a)(c:∀h∈X,h∈S)(g:e[k]? =some x):af a s.E (s.off+k*1)=some (vi x):=
 (dV.1 ((b.le (f.cW c)).D g)).2
def _root_.Go.Vc.aq.KJ{a:J}(h:aq (bM S d) s e)(b:N d a)(c:e[k]? =some x):af a s.E (s.off+k*1)=some (vi x):=
 h.bV (b.fz []) aJ c
def DX(f:Nat)(b:List Value)(d:J)(S:List Nat)(Q:List Int->Prop):Prop:=aL cp f b d λv a=>∃s e,v=O.v s/\aq (bM S a) s e/\Q e/\N d a
def ku(f:Nat)(b:List Value)(d:J)(S:List Nat)(Q:List Int->Prop):Prop:=aL cp f b d λv a=>∃s e,v=O.v s/\Gr S d a aI 1 tq s e/\Q e/\N d a
def sg(f:Nat)(a:List Value)(d:J)(Q:Int->Prop):Prop:=aL cp f a d λv b=>∃n:Int,v=vi n/\Q n/\N d b
abbrev GI(S:List Nat)(a d:J)(s:O)(e:List Int):Prop:=Gr S a d aI 1 tq s e
def GI.nil(S:List Nat)(d:J):GI S d (d.push (.cells (bC []) aI)) (.mk d.size 0 0 0) []:=Gr.new S (ad _) aI 1 tq
def GI.jY{S X:List Nat}{c d:J}{s:O}{e:List Int}{a:Int}{K:O->J->Prop}(f:GI S c d s e)(g:Fz X c d)(j:∀h∈S,h<c.size)(k:e.length<=1000000000000)
 (i:∀r b,GI S c b r (e++[a])->Fz X c b->(d.size<=b.size/\(r.E=s.E\/d.size<=r.E))->(∀h,h<d.size->h≠s.E->b[h]? =d[h]?)->K r b):jh (d.push (.cells (bC [.i a]) aI)) aI [.i 0] 8 s (.mk d.size 0 1 1) K:=
 Gr.jY (g:=[.i 0]) tq.mono bh f g rfl V i
def GI.done{S:List Nat}{a d:J}{s:O}{e:List Int}(b:GI S a d s e)(c:∀h∈S,h<a.size)(f:e.length<=1000000000000):aq (bM S d) s e:=Gr.done tq.mono b c bh V
def GI.all{S X:List Nat}{b d:J}{s x:O}{e g:List Int}{K:O->J->Prop}(c:GI S b d s e)(f:Fz X b d)(k:∀h∈S,h<b.size)(j:aq (bM (s.E::S) d) x g)(l:e.length+g.length<=1000000000000)
 (i:∀r a,GI S b a r (e++g)->Fz X b a->(d.size<=a.size/\(r.E=s.E\/d.size<=r.E))->(∀h,h<d.size->h≠s.E->a[h]? =d[h]?)->K r a):jh d aI [.i 0] 8 s x K:=
 Gr.all (g:=[.i 0]) tq.mono bh c f j V i
def GI.iL{b a:J}(h:GI S b d s e)(j:a[s.E]? =d[s.E]?):GI S b a s e:=by
 obtain⟨f,c,g,i⟩:=h;exact⟨f,c,g.congr j,i.mono λ_ _ h=>h⟩
def GI.ext{S:List Nat}{b d a:J}{s:O}{e:List Int}(h:GI S b d s e)(c:N d a):GI S b a s e:=Gr.ext tq.mono h c
def _root_.Go.Vc.Gr.ct{α:Type}{S c:List Nat}{g i d:J}{f b:Nat}{R:J->List Ce->α->Prop}{s:O}{e:List α}(o:nM b R)(k:Gr c i d f b R s e)(p:∀h∈S,h∈c\/d.size<=h)(q:g.size<=i.size):Gr S g d f b R s e:=by
 obtain⟨l,j,m,n⟩:=k;refine⟨l,j,m.ct q,n.mono λr x=>o.le ((N.az d).bM λh a=>?_)⟩;rcases List.mem_cons.1 a with a|a
 ·exact Or.inl (by rw[a];exact aX)
 ·exact(p h a).imp (ai _) id
def GI.ct{S a:List Nat}{b c d:J}{s:O}{e:List Int}(f:GI a c d s e)(g:∀h∈S,h∈a)(j:b.size<=c.size):GI S b d s e:=Gr.ct tq.mono f (λh i=>Or.inl (g h i)) j
def ku.then{b:List Value}(h:ku f b d S Q)(k:∀s e a,GI S d a s e->Q e->N d a->K (O.v s) a):aL cp f b d K:=
 h.mono λ_ a⟨s,e,c,g,i,j⟩=>c▸k s e a g i j
def DX.then{b:List Value}(h:DX f b d S Q)(k:∀s e a,aq (bM S a) s e->Q e->N d a->K (O.v s) a):aL cp f b d K:=
 h.mono λ_ a⟨s,e,c,g,i,j⟩=>c▸k s e a g i j
def sg.then{b:List Value}{Q:Int->Prop}(h:sg f b d Q)(i:∀n a,Q n->N d a->K (vi n) a):aL cp f b d K:=
 h.mono λ_ a⟨n,e,c,g⟩=>e▸i n a c g
def sC{b:J}{h:Nat}(a:N d b)(c:d.size<=h):Le (bM S d) (bM (h::S) b):=a.bM λf e=>by
 rcases List.mem_cons.1 e with a|a
 ·exact Or.inr (by rw[a];exact c)
 ·exact Or.inl a
def lK(b:∀h∈S,h<d.size)(i:aq (bM S d) j e)(c:e.length<=1000000000000):ku 57 [O.v j] d S (e=·):=by
 apply ng;intro k;have a:N d k:=N.push d _;exact GI.all (e:=[]) (X:=[]) (GI.nil S d) (a.fz []) b (i.le (sC a (ad _))) (by simpa using c) λr m g f _ _=>⟨r,e,rfl,by simpa using g,rfl,f.ext⟩
def oK(e g:List Int):Prop:=(∀x∈g,x∈e)/\g.length<=e.length
def ov(h:∀x∈g,x∈e)(b:x∈e):∀y∈g++[x],y∈e:=by
 intro y a;rcases List.mem_append.1 a with a|a
 ·exact h y a
 ·simp at a;subst a;exact b
def Au(t:∀h∈S,h<d.size)(b:aq (bM S d) j e)(v:Int)(w:e.length<=1000000000000):ku 294 [O.v j,vi v] d S (oK e):=by
 apply DM;intro A;have u:=b.len;refine dS (n:=e.length) (u▸b.gV) (λk s a=>N d a/\∃g,GI S d a s g/\(∀x∈g,x∈e)/\g.length<=k) ⟨N.push d _,[],GI.nil S d,aJ,ad _⟩ ?_;rintro k s B I μ z ⟨a,g,c,i,y⟩ o
 refine dit (λq=>?_) λq=>?_
 ·obtain⟨x,m⟩:=ag (l:=e) (k:=k) V;refine⟨V,V,x,b.KJ a m,λr=>⟨V,V,x,b.KJ a m,?_⟩,λr=>o V _ _ ⟨a,g,c,i,V⟩⟩;intro C;exact GI.jY c (a.fz []) t V λE D p f _ _=>o V _ _ ⟨f.ext,_,p,ov i (av m),bR⟩
 ·exact⟨s,g,rfl,c,⟨i,V⟩,a⟩
def MS(t:∀h∈S,h<d.size)(b:aq (bM S d) j e)(v:Int)(w:e.length<=1000000000000):ku 335 [O.v j,vi v] d S (oK e):=by
 apply Gm;intro A;have u:=b.len;refine dS (n:=e.length) (u▸b.gV) (λk s a=>N d a/\∃g,GI S d a s g/\(∀x∈g,x∈e)/\g.length<=k) ⟨N.push d _,[],GI.nil S d,aJ,ad _⟩ ?_;rintro k s B I μ z ⟨a,g,c,i,y⟩ o
 refine dit (λq=>?_) λq=>?_
 ·obtain⟨x,m⟩:=ag (l:=e) (k:=k) V;refine⟨V,V,x,b.KJ a m,λr=>⟨V,V,x,b.KJ a m,?_⟩,λr=>o V _ _ ⟨a,g,c,i,V⟩⟩;intro C;exact GI.jY c (a.fz []) t V λE D p f _ _=>o V _ _ ⟨f.ext,_,p,ov i (av m),bR⟩
 ·exact⟨s,g,rfl,c,⟨i,V⟩,a⟩
def KW(v:∀h∈S,h<d.size)(i:aq (bM S d) a e)(w:aq (bM S d) h p)(B:e.length<=1000000000000):ku 321 [O.v a,O.v h] d S (oK e):=by
 apply EL;intro E;have y:=i.len;refine dS (n:=e.length) (y▸i.gV) (λk s b=>N d b/\∃g,GI S d b s g/\(∀x∈g,x∈e)/\g.length<=k) ⟨N.push d _,[],GI.nil S d,aJ,ad _⟩ ?_;rintro k s F I μ D ⟨b,g,j,m,C⟩ q
 refine dit (λt=>?_) λt=>?_
 ·obtain⟨x,o⟩:=ag (l:=e) (k:=k) V;refine⟨V,V,x,i.KJ b o,?_⟩;refine(dj ((w.le (bG _ _)).ext b) x).then λA G _ c=>⟨_,rfl,λu=>⟨V,V,x,i.KJ (b.trans c) o,?_⟩,λu=>q V _ _ ⟨b.trans c,g,j.ext c,m,V⟩⟩;intro z;exact GI.jY (j.ext c) ((b.trans c).fz []) v V λH z r f _ _=>q V _ _ ⟨f.ext,_,r,ov m (av o),bR⟩
 ·exact⟨s,g,rfl,j,⟨m,V⟩,b⟩
def _root_.Go.Vc.wi{σ τ:Type}{n:Nat}(p:n<=9223372036854775807){h:σ}{j:τ}{g:(σ->τ->Int->J->Prop)->(σ->τ->Int->J->Nat)->σ->τ->Int->J->Prop}(Q:Nat->σ->τ->J->Prop)(m:Q 0 h j d)
 (l:∀(k:Nat)(s:σ)(t:τ)(a:J)(I:σ->τ->Int->J->Prop)(μ:σ->τ->Int->J->Nat),k<=n->Q k s t a->
  (k<n->∀c e b,Q (k+1) c e b->I c e (cR ((k:Int)+1)) b/\μ c e (cR ((k:Int)+1)) b<μ s t k a)->g I μ s t k a):
 ∃(I:σ->τ->Int->J->Prop)(μ:σ->τ->Int->J->Nat),I h j 0 d/\∀s t i a,I s t i a->g I μ s t i a:=by
 refine⟨λs t i b=>∃k:Nat,i=k/\k<=n/\Q k s t b,λ_ _ i _=>(n -i).toNat,⟨0,rfl,eY _,m⟩,?_⟩
 rintro s t i a ⟨k,rfl,o,q⟩
 refine l k s t a _ _ o q λf c e b r=>?_
 rw[kV f p]
 exact⟨⟨k+1,rfl,f,r⟩,EB f⟩
def Vk(e:List Int)(n:Int)(g:List Int):Prop:=(∀x∈g,x∈e\/x=n)/\g.length<=e.length+1
def AL{n:Int}(h:∀x∈g,x∈e\/x=n)(b:x∈e\/x=n):∀y∈g++[x],y∈e\/y=n:=by
 intro y a;rcases List.mem_append.1 a with a|a
 ·exact h y a
 ·simp at a;subst a;exact b
def lT(p:∀h∈S,h<d.size)(y:aq (bM S d) j e)(u:Int)(M:e.length<1000000000000):ku 275 [O.v j,vi u] d S (Vk e u):=by
 apply EU;intro R;have K:=y.len;refine wi (n:=e.length) (K▸y.gV) (λk s c b=>N d b/\∃g,GI S d b s g/\(∀x∈g,x∈e\/x=u)/\g.length<=k+(if c=true then 1 else 0)) ⟨N.push d _,[],GI.nil S d,aJ,ad _⟩ ?_;rintro k s c z I μ Q ⟨a,g,q,t,w⟩ E
 have P:g.length<=k+1:=by split at w<;>omega
 refine dit (λv=>?_) λv=>?_
 ·obtain⟨x,B⟩:=ag (l:=e) (k:=k) V;have G:∀{b:J},N d b->af b j.E (j.off+k*1)=some (vi x):=λv=>y.KJ v B;have C:x∈e\/x=u:=Or.inl (av B);have A:∀o:Bool,(g++[x]).length<=k+1+(if o=true then 1 else 0)->jh (z.push (.cells (bC [.i x]) aI)) aI [.i 0] 8 s (.mk z.size 0 1 1) λr b=>I r o (cR ((k:Int)+1)) b/\μ r o (cR ((k:Int)+1)) b<μ s c k z:=λo hd=>
   GI.jY q (a.fz []) p V λr D i f _ _=>E V _ _ _ ⟨f.ext,_,i,AL t C,hd⟩
  refine⟨λm=>⟨V,V,x,G a,λF=>⟨V,V,x,G a,λH=>?_,λH=>⟨V,V,x,G a,A true bR⟩⟩,λF=>⟨V,V,x,G a,A c ?_⟩⟩,λm=>⟨V,V,x,G a,A c ?_⟩⟩
  ·have hd:c=false:=by simpa using m
   subst hd;simp at w;intro L;refine GI.jY q (a.fz []) p V λr D i f _ _=>⟨V,V,x,G f.ext,?_⟩;intro T;exact GI.jY i f p bR λr U i f _ _=>E V _ _ _ ⟨f.ext,_,i,AL (AL t (Or.inr rfl)) C,bR⟩
  ·simp only[a8,aZ,eG];omega
  ·simp only[a8,aZ,eG];omega
 ·refine⟨λm=>?_,λm=>⟨s,g,rfl,q,⟨t,V⟩,a⟩⟩;have hd:c=false:=by simpa using m
  subst hd;simp at w;intro L;exact GI.jY q (a.fz []) p V λr D i f _ _=>⟨r,_,rfl,i,⟨AL t (Or.inr rfl),bR⟩,f.ext⟩
def rB(z:∀h∈S,h<d.size)(m:aq (bM S d) j e)(C:Int)(D:e.length<=1000000000000):ku 271 [O.v j,vi C] d S (oK e):=by
 apply vS;intro H;have B:=m.len;refine wi (n:=e.length) (B▸m.gV) (λk s _ a=>N d a/\∃g,GI S d a s g/\(∀x∈g,x∈e)/\g.length<=k) ⟨N.push d _,[],GI.nil S d,aJ,ad _⟩ ?_;rintro k s c p I μ F ⟨b,g,i,o,E⟩ t
 refine dit (λv=>?_) λv=>?_
 ·obtain⟨x,q⟩:=ag (l:=e) (k:=k) V;have G:=m.KJ b q;have A:jh (p.push (.cells (bC [.i x]) aI)) aI [.i 0] 8 s (.mk p.size 0 1 1) λr a=>I r c (cR ((k:Int)+1)) a/\μ r c (cR ((k:Int)+1)) a<μ s c k p:=
   GI.jY i (b.fz []) z V λr J u f _ _=>t V _ _ _ ⟨f.ext,_,u,ov o (av q),bR⟩
  exact⟨V,V,x,G,λw=>⟨λy=>t V _ _ _ ⟨b,g,i,o,V⟩,λy=>⟨V,V,x,G,A⟩⟩,λw=>⟨V,V,x,G,A⟩⟩
 ·exact⟨s,g,rfl,i,⟨o,V⟩,b⟩
def MZ(f:∀h∈S,h<d.size)(w:aq (bM S d) a e)(i:aq (bM S d) h p)(j:e.length+p.length<=1000000000000):ku 289 [O.v a,O.v h] d S (λg=>(∀x∈g,x∈e\/x∈p)/\g.length<=e.length+p.length):=by
 apply Ha;refine(lK f w V).then λM _ H v t D=>⟨_,rfl,?_⟩;subst t;have z:=i.len;refine dS (n:=p.length) (z▸i.gV) (λk s b=>N d b/\∃g,GI S d b s g/\(∀x∈g,x∈e\/x∈p)/\g.length<=e.length+k) ⟨D,_,v,λx c=>Or.inl c,ad _⟩ ?_;rintro k s J I μ G ⟨c,g,m,o,F⟩ C
 refine dit (λb=>?_) λb=>?_
 ·obtain⟨x,q⟩:=ag (l:=p) (k:=k) V;refine⟨V,V,x,i.KJ c q,?_⟩;refine(lT (λh j=>aO (f h j) c.size) (m.done f V) x V).then λL B K u r E=>⟨_,rfl,C V _ _ ⟨c.trans E,B,u.ct (λ_ b=>b) c.size,λy A=>?_,by have:=r.2;omega⟩⟩;rcases r.1 y A with b|b
  ·exact o y b
  ·subst b;exact Or.inr (av q)
 ·exact⟨s,g,rfl,m,⟨o,V⟩,c⟩
def sR(a:Int)(d:J):dW cp 308 [vi a] d (14<=a/\a<=17):=by
 apply xZ;exact(bF _ _ _ _).then λh e c b=>⟨_,rfl,fF c b⟩
def eB(c:∀h∈S,h<d.size){jB:O}{a:List Int}(m:aq (bM S d) j e)(n:aq (bM S d) jB a)(l:e.length+a.length<=1000000000000):ku 213 [O.v j,O.v jB] d S (e++a=·):=by
 apply tW;refine(lK c m V).then λq _ p b i g=>⟨_,rfl,?_⟩;subst i;exact GI.all b (g.fz []) c (n.le (sC g b.be.1)) l λr o k f _ _=>⟨r,_,rfl,k,rfl,f.ext⟩
def qW(u:∀h∈S,h<d.size)(m:aq (bM S d) j e)(a:Nat)(z:a+e.length<=1000000000000):ku 218 [O.v j,vi a] d S (λg=>(∀x∈g,(a:Int)<=x/\x<a+e.length)/\g.length<=e.length):=by
 apply BC;intro C;have v:=m.len;refine dS (n:=e.length) (v▸m.gV) (λk s b=>N d b/\∃g,GI S d b s g/\(∀x∈g,(a:Int)<=x/\x<a+e.length)/\g.length<=k) ⟨N.push d _,[],GI.nil S d,aJ,ad _⟩ ?_;rintro k s D I μ B ⟨c,g,i,o,A⟩ p
 refine dit (λr=>?_) λr=>?_
 ·obtain⟨x,w⟩:=ag (l:=e) (k:=k) V;refine⟨V,V,x,m.KJ c w,λt=>?_,λt=>p V _ _ ⟨c,g,i,o,V⟩⟩;rw[aP (b:=(a:Int)+k) V V];intro E;refine GI.jY i (c.fz []) u V λG F q f _ _=>p V _ _ ⟨f.ext,_,q,?_,bR⟩
  intro y b;rcases List.mem_append.1 b with b|b
  ·exact o y b
  ·simp at b;omega
 ·exact⟨s,g,rfl,i,⟨o,V⟩,c⟩
def lE(o:∀h∈S,h<d.size)(a b:Nat)(q:a+b<=1000000000000):ku 189 [vi a,vi b] d S (λg=>(∀x∈g,(a:Int)<=x/\x<a+b)/\g.length=b):=by
 apply wO;intro u;refine dS (n:=b) V (λk s c=>N d c/\∃g,GI S d c s g/\(∀x∈g,(a:Int)<=x/\x<a+b)/\g.length=k) ⟨N.push d _,[],GI.nil S d,aJ,rfl⟩ ?_;rintro k s v I μ t ⟨j,g,e,i,r⟩ p
 refine dit (λm=>?_) λm=>?_
 ·rw[aP (b:=(a:Int)+k) V V];intro w;refine GI.jY e (j.fz []) o V λA z l f _ _=>p V _ _ ⟨f.ext,_,l,?_,bR⟩
  intro y c;rcases List.mem_append.1 c with c|c
  ·exact i y c
  ·simp at c;omega
 ·exact⟨s,g,rfl,e,⟨i,V⟩,j⟩
def FL(e:List Int):(e.map λx=>[Ce.i x]).flatten=e.map Ce.i:=by induction e<;>simp_all
def GI.set{S X:List Nat}{q d:J}{s:O}{e:List Int}(u:GI S q d s e)(N:Fz X q d){k:Nat}(C:k<e.length)(n:Int):
 dZ d s.E (s.off+k*1) 1/\GI S q (ah d s.E (s.off+k*1) [.i n]) s (e.set k n)/\Fz X q (ah d s.E (s.off+k*1) [.i n])/\(∀h,h≠s.E->(ah d s.E (s.off+k*1) [.i n])[h]? =d[h]?):=by
 have T:=u.be
 have U:=u.len bh
 obtain⟨w,j,I,g⟩:=u
 have R:∀h,h≠s.E->(ah d s.E (s.off+k*1) [.i n])[h]? =d[h]? :=λh M=>bt _ _ _ _ M
 obtain⟨h,E,tail,t,F,v,G,H⟩:=I.D.resolve_left w
 have P:j.flatten.length=e.length:=by rw[df g.size,g.len];omega
 have Q:j.flatten=e.map Ce.i:=by
  apply iT;intro f;rcases bA f e.length with a|a
  ·obtain⟨x,p⟩:=ag a;obtain⟨cs,z⟩:=ag (l:=j) (k:=f) (by rw[g.len];exact a);have A:cs=[.i x]:=g.dz f cs x z p;have y:=iy (g:=1) g.size z (i:=0) (c:=.i x) (by rw[A];rfl);simp only[mW,jF]at y;rw[y];simp[p]
  ·rw[di V,di (by simpa using a)]
 have D:s.off+k*1=k:=by rw[t];simp
 have y:s.E=h:=by rw[t];rfl
 refine⟨?_,⟨w,(e.set k n).map λx=>[.i x],⟨?_,Or.inr ⟨h,E,tail,t,F,?_,?_,H⟩⟩,⟨by rw[dL],λcs z=>?_,λW cs x B p=>?_⟩⟩,N.ah (Or.inr T.1) _ _,R⟩
 ·rw[D,y]
  exact v.dZ (by simp only[a8,aZ,eG];omega)
 ·rw[FL,dL,jO];omega
 ·have K:=cx.ah (m:=d) (b:=h) (r:=[.i n]) (o:=k) v
  rw[D,y,FL]
  have L:iK (j.flatten++tail) k [.i n]=(e.set k n).map Ce.i++tail:=by
   apply iT;intro f;rw[vw,Q];by_cases A:f=k
   ·subst A;rw[an ⟨ad _,aJ,bR⟩,aw (by simpa using C)];simp[C]
   ·rw[ae bR];rcases bA f e.length with a|a
    ·rw[aw (by simpa using a),aw (by simpa using a)];simp only[cU,fK (km A)]
    ·rw[aF (by simpa using a),aF (by simpa using a)];simp
  rw[<-L];exact K
 ·rw[<-G,FL]
  simp only[a8,P,dL,jO]
 ·simp only[VH]at z
  obtain⟨x,_,rfl⟩:=z
  rfl
 ·simp only[cU,p,nG,CG]at B
  exact B.symm
def ub(k:∀h∈S,h<d.size)(o:aq (bM S d) j e)(m:e.length<=1000000000000){a:Nat}(l:a<e.length)(n:Int):ku 233 [O.v j,vi a,vi n] d S (e.set a n=·):=by
 apply yy;refine(lK k o m).then λs _ q g b p=>⟨_,rfl,V,?_,?_⟩
 ·subst b;have:=g.len bh;omega
 subst b;obtain⟨c,f,i,_⟩:=g.set (p.fz []) l n;exact⟨c,s,_,rfl,f,rfl,i.ext⟩
end
end Go.Proofs.YtgnjacfobdjeeaaGreat
section
namespace Go.Vc
variable{l:List cK}{k d a:Nat}{x s:cK}{c:Prop}
open Go.Proofs.YtgnjacfobdjeeaaGreat
def Bk.ind{Q:Bk->Prop}(h:∀ar r,(∀s∈ar,∀b∈s.bD,Q b)->Q (.mk ar r)):∀b,Q b
 | .mk ar r=>h ar r λs _ b _=>Bk.ind h b
termination_by b=>SizeOf.sizeOf b
decreasing_by
 rename_i a c
 have d:=nZ a
 have e:=nZ c
 have f:SizeOf.sizeOf s.bD<SizeOf.sizeOf s:=by cases s;simp;omega
 simp;omega
def Ex.ind{Q:Ex->Prop}(h:∀a bL bD,(∀e∈bD,Q e)->Q (.mk a bL bD)):∀e,Q e
 | .mk a bL bD=>h a bL bD λe _=>Ex.ind h e
termination_by e=>SizeOf.sizeOf e
decreasing_by
 rename_i a
 have b:=nZ a
 simp;omega
def sw(l:List cK):Nat:=(l.map KF.w).sum
def bw(l:List Bk):Nat:=(l.map Bk.w).sum
def en(l:List Ex):Nat:=(l.map Ex.n).sum
@[simp] theorem uH:sw []=0:=rfl
@[simp] theorem yN:bw []=0:=rfl
@[simp] theorem Vo:en []=0:=rfl
def mh(x:cK)(l:List cK):sw (x::l)=x.w+sw l:=by simp[sw]
def tK(x:Bk)(l:List Bk):bw (x::l)=x.w+bw l:=by simp[bw]
def Mo(x:Ex)(l:List Ex):en (x::l)=x.n+en l:=by simp[en]
def dq(a b:List cK):sw (a++b)=sw a+sw b:=by simp[sw]
def oh(a b:List Bk):bw (a++b)=bw a+bw b:=by simp[bw]
def Lt(a b:List Ex):en (a++b)=en a+en b:=by simp[en]
def Bk.pW(s:List cK)(r:Int):(Bk.mk s r).w=1+sw s:=Bk.Xq _
def Bk.lO(b:Bk):b.w=1+sw b.ar:=Bk.Xq b
def cK.lO(s:cK):s.w=1+s.args.length+bw s.bD:=rfl
def Ex.QM(o n:Int)(k:List Ex):(Ex.mk o n k).n=1+en k:=by rw[Ex.n];rfl
def Ex.WA(e:Ex):e.n=1+en e.bD:=by cases e;exact Ex.QM _ _ _
def pu(h:l[k]? =some x):sw (l.take (k+1))=sw (l.take k)+x.w:=by rw[bn h,dq,mh,uH];rfl
def tL{l:List Bk}{x:Bk}(h:l[k]? =some x):bw (l.take (k+1))=bw (l.take k)+x.w:=by rw[bn h,oh,tK,yN];rfl
def IM{l:List Ex}{x:Ex}(h:l[k]? =some x):en (l.take (k+1))=en (l.take k)+x.n:=by rw[bn h,Lt,Mo,Vo];rfl
def Aw(l:List cK)(k:Nat):sw (l.take k)<=sw l:=by
 have:=dq (l.take k) (l.drop k);rw[cT]at this;omega
def Je(l:List Bk)(k:Nat):bw (l.take k)<=bw l:=by
 have:=oh (l.take k) (l.drop k);rw[cT]at this;omega
def P9(l:List Ex)(k:Nat):en (l.take k)<=en l:=by
 have:=Lt (l.take k) (l.drop k);rw[cT]at this;omega
def Nd(h:l[k]? =some x):x.w<=sw l:=by
 have:=pu h;have:=Aw l (k+1);omega
def we{l:List Bk}{x:Bk}(h:l[k]? =some x):x.w<=bw l:=by
 have:=tL h;have:=Je l (k+1);omega
def fH:∀l:List cK,l.length<=sw l
 |[]=>aJ
 |x::l=>by have:=fH l;rw[mh,aZ,cK.lO];omega
def Bk.Fu(b:Bk):1<=b.w:=by rw[Bk.lO];omega
def pI:∀l:List Bk,l.length<=bw l
 |[]=>aJ
 |x::l=>by have:=pI l;have:=x.Fu;rw[tK,aZ];omega
def Pe:∀l:List Ex,l.length<=en l
 |[]=>aJ
 |x::l=>by have:=Pe l;rw[Mo,aZ,Ex.WA];omega
def oI(a:Int):Prop:=0<=a/\a<=11
instance(a:Int):Decidable (oI a):=inferInstanceAs (Decidable (_/\_))
def dn(s:cK):Nat:=if oI s.op then 1 else 0
def dc(l:List cK):Nat:=(l.map dn).sum
@[simp] theorem sA:dc []=0:=rfl
def jR(x:cK)(l:List cK):dc (x::l)=dn x+dc l:=by simp[dc]
def cL(a b:List cK):dc (a++b)=dc a+dc b:=by simp[dc]
def qd(h:l[k]? =some x):dc (l.take (k+1))=dc (l.take k)+dn x:=by rw[bn h,cL,jR,sA];rfl
def Rx(l:List cK)(k:Nat):dc (l.take k)<=dc l:=by
 have:=cL (l.take k) (l.drop k);rw[cT]at this;omega
def Wh(x:cK):dn x<=1:=by unfold dn;split<;>omega
def sq:∀l:List cK,dc l<=l.length
 |[]=>aJ
 |x::l=>by have:=sq l;have:=Wh x;rw[jR,aZ];omega
def AG(a:List bu)(b bL:Int)(i:Nat):Nat:=if b=8 then(cz a (((cg a bL)[i]?).getD 0)).length else 0
structure SJ(ds:List bu)(d:Nat)(c:Prop)(a:Nat)(s:cK):Prop where
 op:oI s.op\/c/\14<=s.op/\s.op<=17
 args:∀x∈s.args,0<=x/\x<(a:Int)
 jZ:14<=s.op\/s.op=7\/s.op=8->s.args.length=1
 bH:0<=s.bH/\s.bH<=(a:Int)
 IK:s.op=7->s.bD.length=2
 all:s.op=8->s.bD.length=(cg ds s.bL).length/\0<s.bD.length
 call:s.op=9->0<=s.bL/\s.bL<(d:Int)
inductive WB(ds:List bu)(d:Nat)(c:Prop):Nat->Bk->Prop
 |mk {a:Nat} {ar:List cK} {r:Int} (eO:∀(i:Nat)(s:cK),ar[i]? =some s->SJ ds d c (a+dc (ar.take i)) s)
  (bD:∀(i:Nat)(s:cK)(k:Nat)(b:Bk),ar[i]? =some s->s.bD[k]? =some b->WB ds d c (a+dc (ar.take i)+AG ds s.op s.bL k) b)
  (res:0<=r/\r<((a+dc ar:Nat):Int)):WB ds d c a (.mk ar r)
structure WS(ds:List bu)(d:Nat)(c:Prop)(a:Nat)(s:cK):Prop where
 eO:SJ ds d c a s
 bD:∀(k:Nat)(b:Bk),s.bD[k]? =some b->WB ds d c (a+AG ds s.op s.bL k) b
def WL(b:List bu)(d:Nat)(c:Prop)(a:Nat)(l:List cK):Prop:=∀(i:Nat)(s:cK),l[i]? =some s->WS b d c (a+dc (l.take i)) s
def WB.bd{e:List bu}{b:Bk}(h:WB e d c a b):WL e d c a b.ar/\0<=b.aV/\b.aV<((a+dc b.ar:Nat):Int):=by
 cases h with
 |mk eO bD j=>exact⟨λi s f=>⟨eO i s f,λk b g=>bD i s k b f g⟩,j⟩
def WB.of{e:List bu}{ar:List cK}{r:Int}(h:WL e d c a ar)(j:0<=r/\r<((a+dc ar:Nat):Int)):WB e d c a (.mk ar r):=
 .mk (λi s b=>(h i s b).eO) (λi s k f b g=>(h i s b).bD k f g) j
def WL.nil(b:List bu)(d:Nat)(c:Prop)(a:Nat):WL b d c a []:=λi s h=>by simp at h
def WL.append{f:List bu}{g:List cK}(h:WL f d c a l)(j:WL f d c (a+dc l) g):WL f d c a (l++g):=λi s e=>by
 rcases bA i l.length with b|b
 ·rw[aw b]at e;rw[mV V];exact h i s e
 ·rw[aF b]at e;have:=j _ s e;rw[ZY,nl b,cL,<-dQ];exact this
def WL.jZ{e:List bu}(h:WS e d c a s):WL e d c a [s]:=λi x b=>by
 have:i=0:=by have:=aD b;simp at this;omega
 subst this;simp at b;subst b;simpa using h
def WL.zp{b:List bu}(h:WL b d c a l)(e:WS b d c (a+dc l) s):WL b d c a (l++[s]):=h.append (.jZ e)
def WL.take{e:List bu}(h:WL e d c a l)(k:Nat):WL e d c a (l.take k):=λi s b=>by
 rw[kW]at b;split at b
 ·rw[KA,jc V];exact h i s b
 ·simp at b
def WL.drop{b:List bu}(h:WL b d c a l)(k:Nat):WL b d c (a+dc (l.take k)) (l.drop k):=λi s e=>by
 rw[rj]at e;have:=h _ s e;rw[List.take_add,cL,<-dQ]at this;exact this
end Go.Vc
end
namespace Go.Proofs.YtgnjacfobdjeeaaGreat
open Go.Vc
section
variable{m:J}{d p:O}{b:cq}
def uT(b:cq)(bL:Int)(n:Nat):Prop:=∃q:dk,0<=bL/\b.cB[bL.toNat]? =some q/\q.params.length=n
def Sr:cR 9223372036854775808= -9223372036854775808:=bh
def vO(h:eV m d p b)(bL:Int)(n jB:Nat)(K:n<=9223372036854775807)(J:jB<=1):
 dW cp 156 [.agg #[O.v d,O.v p],vi bL,vi n,vi jB] m (uT b bL (n+jB)):=by
 apply BQ
 simp -zeta only[aC,aB]
 intro j
 have i:N m j:=(N.az m).aN _
 have y:∀o∈[m.size],o<j.size:=by simp[j]
 have L:=h.cB.len
 have M:=h.cB.gV
 refine(bF _ _ _ _).aK (N.az _) y λo P r f D=>⟨_,rfl,λa=>?_,λa=>?_⟩
 ·have a:=r.1 a
  rw[aP V V]at a
  obtain⟨s,g⟩:=ag (l:=b.cB) (k:=bL.toNat) V
  obtain⟨e,z,A,q,F,G,u,g1,g2,B,C⟩:=(iP.ext (i.trans f) h.cB).D g
  refine⟨V,V,e,u,fF ?_ (i.trans f)⟩
  have w:=q.len
  have E:=q.gV
  simp only[aE]
  have t:(e.len:Int)=cR ((n:Int)+(jB:Int))<->e.len=n+jB:=by
   rcases bA (n+jB) 9223372036854775808 with I|H
   ·rw[aP V V];omega
   ·have c:(n:Int)+(jB:Int)=9223372036854775808:=V;rw[c,Sr];omega
  rw[t,w]
  exact⟨λx=>⟨s,a.1,g,x⟩,λ⟨Q,_,c,v⟩=>by rw[g]at c;simp at c;rw[c];exact v⟩
 ·refine cX (λ⟨s,e,c,_⟩=>fb r a ?_) (i.trans f)
  have:=aD c
  rw[aP V V]
  omega
def lp(b:cq)(p:dk)(k:Nat)(i:Instr):Prop:=
 if i.op=0 then i.args.length=0/\-999<=i.bL/\i.bL<=999
 else if i.op=1\/i.op=2\/i.op=3\/i.op=4\/i.op=11 then i.args.length=2/\i.bL=0
 else if i.op=5\/i.op=14\/i.op=15\/i.op=18\/i.op=23 then i.args.length=1/\i.bL=0
 else if i.op=6 then(0<=i.bL/\i.bL<(eE b.aT).length)/\i.args.length=(cz b.aT i.bL).length/\0<=i.bH/\i.bH<=p.ao
 else if i.op=9\/i.op=24 then uT b i.bL i.args.length
 else if i.op=10 then uT b i.bL (i.args.length+1)/\∀q,b.cB[i.bL.toNat]? =some q->q.cG.length=0
 else if i.op=16\/i.op=17 then(1<=i.args.length/\i.args.length<=4)/\i.bL=0
 else if i.op=19 then i.args.length=1/\0<=i.bL/\i.bL<=2
 else if i.op=20 then i.args.length=1/\(k:Int)+1<=i.bL/\i.bL<=(p.cJ.length:Int) -1
 else if i.op=22 then i.args.length=0/\(k:Int)+1<=i.bL/\i.bL<=(p.cJ.length:Int) -1
 else if i.op=21 then i.args.length=1/\0<(cg b.aT i.bL).length/\Md i.dX (cg b.aT i.bL).length k p.cJ.length
 else False
structure ig(b:cq)(p:dk)(k:Nat)(i:Instr):Prop where
 args:∀a∈i.args,0<=a/\a<=p.ao -1
 dst:0<=i.dst/\i.dst<=p.ao -1
 Wj:i.dst=0\/lx i.op
 bH:i.bH=0\/i.op=6
 dX:i.op=21\/i.dX.length=0
 op:lp b p k i
structure ND(m:J)(a l:O)(c:O)(p:dk):Prop where
 params:aq m a p.params
 cG:aq m l p.cG
 cJ:eS m c p.cJ
def ND.ext{m d:J}(a:N m d){b l c:O}{p:dk}(h:ND m b l c p):ND d b l c p:=⟨h.params.ext a,h.cG.ext a,eS.ext a h.cJ⟩
def DH(al:eV m d p b)(Z:dI b.aT){ac aj U:O}{q:dk}(X:ND m ac aj U q)(hr:1<=q.ao/\q.ao<=2000){g:Nat}{i:Instr}(hk:q.cJ[g]? =some i):
 dW cp 113 [.agg #[O.v d,O.v p],.agg #[O.v ac,O.v aj,vi q.aV,vi q.ao,O.v U],vi g] m (ig b q g i):=by
 apply yu
 simp -zeta only[aC,aB]
 intro m1 Q
 have aa:N m Q:=((N.az m).aN _).aN _
 have aM:=aD hk
 have af:=X.cJ.len
 have aI:=X.cJ.gV
 obtain⟨xa,P,R,hj,g0,g1,g2,g3,g4,g5⟩:=(eS.ext aa X.cJ).D hk
 refine⟨V,V,_,g0,_,g1,_,g2,_,g3,_,g4,_,g5,?_⟩
 intro m3 B
 have t:N m B:=(aa.aN _).ah aa.size _ _
 have ai:N Q B:=((N.az Q).aN _).ah (ad _) _ _
 have x:∀C∈[Q.size,m1.size,m.size],C<B.size:=by
  simp[B,m3,Q,m1,ay];omega
 clear_value B
 have W:=R.len
 have aL:=hj.len
 have aF:=R.gV
 have er:cR (q.ao -1)=q.ao -1:=aP V V
 rw[er]
 refine fB (n:=i.args.length) (W▸R.gV) (λab u=>N B u/\∀a∈i.args.take ab,0<=a/\a<=q.ao -1) ⟨N.az _,aJ⟩ ?_
 rintro ab m5 az μ aK ⟨hx,hn⟩ aw
 refine dit (λh1=>?_) λh1=>?_
 ·obtain⟨a,o⟩:=ag (l:=i.args) (k:=ab) V
  refine⟨V,V,a,by simpa using(ai.trans hx).af (R.D o),?_⟩
  refine(bF _ _ _ _).aK hx x λC y e h f=>⟨_,rfl,λc=>?_,λc=>?_⟩
  ·exact cX (λj=>nb e c (j.args a (av o))) (t.trans f)
  ·exact aw V _ ⟨f,cF o hn (yb e c)⟩
 ·have am:=dx V hn
  refine⟨λu=>N B u/\(0<=i.dst/\i.dst<=q.ao -1)/\(i.dst=0\/lx i.op)/\(i.bH=0\/i.op=6)/\(i.op=21\/i.dX.length=0),?_,?_⟩
  ·refine(bF _ _ _ _).aK hx x λC y e h f=>⟨_,rfl,λc=>?_,λc=>?_⟩
   ·exact cX (λj=>nb e c j.dst) (t.trans f)
   ·have T:=yb e c
    have tail:∀u:J,N B u->(i.dst=0\/lx i.op)->
     ((i.bH !=0)=true->((i.op !=6)=true->∃D:Bool,vb false=.bool D/\(D=true<->ig b q g i)/\N m u)/\((i.op !=6)=false->
      ((i.op !=21)=true->((decide ((P.len:Int)>0))=true->∃D:Bool,vb false=.bool D/\(D=true<->ig b q g i)/\N m u)/\((decide ((P.len:Int)>0))=false->N B u/\(0<=i.dst/\i.dst<=q.ao -1)/\(i.dst=0\/lx i.op)/\(i.bH=0\/i.op=6)/\(i.op=21\/i.dX.length=0)))/\
      ((i.op !=21)=false->N B u/\(0<=i.dst/\i.dst<=q.ao -1)/\(i.dst=0\/lx i.op)/\(i.bH=0\/i.op=6)/\(i.op=21\/i.dX.length=0))))/\
     ((i.bH !=0)=false->
      ((i.op !=21)=true->((decide ((P.len:Int)>0))=true->∃D:Bool,vb false=.bool D/\(D=true<->ig b q g i)/\N m u)/\((decide ((P.len:Int)>0))=false->N B u/\(0<=i.dst/\i.dst<=q.ao -1)/\(i.dst=0\/lx i.op)/\(i.bH=0\/i.op=6)/\(i.op=21\/i.dX.length=0)))/\
      ((i.op !=21)=false->N B u/\(0<=i.dst/\i.dst<=q.ao -1)/\(i.dst=0\/lx i.op)/\(i.bH=0\/i.op=6)/\(i.op=21\/i.dX.length=0))):=by
     intro u r S
     have w:(i.bH=0\/i.op=6)->((i.op !=21)=true->((decide ((P.len:Int)>0))=true->∃D:Bool,vb false=.bool D/\(D=true<->ig b q g i)/\N m u)/\((decide ((P.len:Int)>0))=false->N B u/\(0<=i.dst/\i.dst<=q.ao -1)/\(i.dst=0\/lx i.op)/\(i.bH=0\/i.op=6)/\(i.op=21\/i.dX.length=0)))/\
      ((i.op !=21)=false->N B u/\(0<=i.dst/\i.dst<=q.ao -1)/\(i.dst=0\/lx i.op)/\(i.bH=0\/i.op=6)/\(i.op=21\/i.dX.length=0)):=by
      intro v
      refine⟨λa=>⟨λo=>?_,λo=>?_⟩,λa=>?_⟩
      ·simp at a o
       exact cX (λj=>by rcases j.dX with s|s<;>omega) (t.trans r)
      ·simp at o
       exact⟨r,T,S,v,Or.inr V⟩
      ·simp at a
       exact⟨r,T,S,v,Or.inl a⟩
     refine⟨λa=>⟨λo=>?_,λo=>w (Or.inr (by simpa using o))⟩,λa=>w (Or.inl (by simpa using a))⟩
     simp at a o
     exact cX (λj=>by rcases j.bH with s|s<;>contradiction) (t.trans r)
    refine⟨λa=>?_,λa=>tail y f (Or.inl (by simpa using a))⟩
    refine(wR _ _).aK f x λC z e o s=>⟨_,rfl,λH=>?_,λH=>tail z s (Or.inr (yb e H))⟩
    simp at a
    exact cX (λj=>by rcases j.Wj with K|K;exact a K;exact nb e H K) (t.trans s)
  ·rintro m8 ⟨z,T,S,aq,ar⟩
   have A:=t.trans z
   have ap:ig b q g i<->lp b q g i:=⟨λj=>j.op,λj=>⟨am,T,S,aq,ar,j⟩⟩
   rw[ap]
   have L:eV m8 d p b:=eV.ext A al
   refine⟨λv=>?_,λv=>?_⟩
   ·simp only[aE]at v
    have j:lp b q g i<->i.args.length=0/\-999<=i.bL/\i.bL<=999:=by rw[lp,an v]
    rw[j]
    refine⟨λh=>?_,λh=>?_⟩
    ·simp only[aE]at h
     refine(bF _ _ _ _).aK z x λC I e f c=>⟨_,rfl,fF ?_ (t.trans c)⟩
     rw[e];omega
    ·simp only[ak]at h
     exact cX V A
   simp only[ak]at v
   refine⟨λw=>?_,λw=>?_⟩
   ·simp only[bT,aE]at w
    have j:lp b q g i<->i.args.length=2/\i.bL=0:=by rw[lp,ae v,an w]
    rw[j]
    refine⟨λh=>fF ?_ A,λh=>cX ?_ A⟩
    ·simp only[aE]at h⊢;omega
    ·simp only[ak]at h;omega
   simp only[bq,ak]at w
   replace w:¬(i.op=1\/i.op=2\/i.op=3\/i.op=4\/i.op=11):=V
   refine⟨λy=>?_,λy=>?_⟩
   ·simp only[bT,aE]at y
    have j:lp b q g i<->i.args.length=1/\i.bL=0:=by rw[lp,ae v,ae w,an y]
    rw[j]
    refine⟨λh=>fF ?_ A,λh=>cX ?_ A⟩
    ·simp only[aE]at h⊢;omega
    ·simp only[ak]at h;omega
   simp only[bq,ak]at y
   replace y:¬(i.op=5\/i.op=14\/i.op=15\/i.op=18\/i.op=23):=V
   refine⟨λE=>?_,λE=>?_⟩
   ·simp only[aE]at E
    have j:lp b q g i<->(0<=i.bL/\i.bL<(eE b.aT).length)/\i.args.length=(cz b.aT i.bL).length/\0<=i.bH/\i.bH<=q.ao:=by rw[lp,ae v,ae w,ae y,an E]
    rw[j]
    refine(lJ L.aT Z _).aK z x ?_
    rintro _ I ⟨aG,rfl,F,f⟩
    refine⟨f,_,rfl,dit (λc=>?_) λc=>?_⟩
    ·have ao:0<=i.bL/\i.bL<(eE b.aT).length:=by
      rcases F with⟨G,M,a,o,s,H⟩|⟨a,_⟩
      ·have:=Qa b.aT (show G+1<=b.aT.length from aD o);rw[rJ o,mz b.aT _ (ad _)]at this;omega
      ·omega
     refine(EM (cr.ext f L.aT) Z _).aK (z.trans f) x ?_
     rintro _ au ⟨ax,rfl,Y,a⟩
     have ah:=Y.len
     refine⟨a,_,rfl,λo=>?_,λo=>?_⟩
     ·simp only[aE]at o
      refine(bF _ _ _ _).aK ((z.trans f).trans a) x λC aA e s H=>⟨_,rfl,fF ?_ (t.trans H)⟩
      rw[e]
      exact⟨λr=>⟨ao,V,r⟩,λr=>r.2.2⟩
     ·simp only[ak]at o
      exact cX (λr=>o V) ((A.trans f).trans a)
    ·refine cX (λr=>?_) (A.trans f)
     rcases F with⟨G,M,a,o,s,H⟩|⟨_,a⟩
     ·omega
     ·exact a r.1
   simp only[ak]at E
   refine⟨λF=>?_,λF=>?_⟩
   ·simp only[bT,aE]at F
    have j:lp b q g i<->uT b i.bL (i.args.length+0):=by rw[lp,ae v,ae w,ae y,ae E,an F];rfl
    rw[j]
    have M:=vO L i.bL i.args.length 0 V V
    rw[W]
    refine M.aK z x λC I e f c=>⟨_,rfl,fF e (t.trans c)⟩
   simp only[bq,ak]at F
   replace F:¬(i.op=9\/i.op=24):=V
   refine⟨λG=>?_,λG=>?_⟩
   ·simp only[aE]at G
    have j:lp b q g i<->uT b i.bL (i.args.length+1)/\∀q,b.cB[i.bL.toNat]? =some q->q.cG.length=0:=by rw[lp,ae v,ae w,ae y,ae E,ae F,an G]
    rw[j]
    have M:=vO L i.bL i.args.length 1 V V
    rw[W]
    refine M.aK z x λC I e f c=>⟨_,rfl,λa=>?_,λa=>cX (λr=>fb e a r.1) (t.trans c)⟩
    have a:=e.1 a
    obtain⟨q',o,s,H⟩:=a
    obtain⟨a',D,c',aA,ao,aH,f0,f1,f2,f3,f4⟩:=(iP.ext f L.cB).D s
    have:=L.cB.len
    have:=aD s
    refine⟨V,V,D,f1,fF ?_ (t.trans c)⟩
    have aG:=ao.len
    simp only[aE]
    refine⟨λr=>⟨⟨q',o,s,H⟩,λaN K=>?_⟩,λr=>?_⟩
    ·rw[s]at K;simp at K;subst K;omega
    ·have:=r.2 q' s;omega
   simp only[ak]at G
   refine⟨λD=>?_,λD=>?_⟩
   ·simp only[bT,aE]at D
    have j:lp b q g i<->(1<=i.args.length/\i.args.length<=4)/\i.bL=0:=by rw[lp,ae v,ae w,ae y,ae E,ae F,ae G,an D]
    rw[j]
    refine(bF _ _ _ _).aK z x λC I e f c=>⟨_,rfl,λa=>fF ?_ (t.trans c),λa=>cX ?_ (t.trans c)⟩
    ·have a:=e.1 a
     simp only[aE];omega
    ·have a:=fb e a;omega
   simp only[bq,ak]at D
   replace D:¬(i.op=16\/i.op=17):=V
   refine⟨λH=>?_,λH=>?_⟩
   ·simp only[aE]at H
    have j:lp b q g i<->i.args.length=1/\0<=i.bL/\i.bL<=2:=by rw[lp,ae v,ae w,ae y,ae E,ae F,ae G,ae D,an H]
    rw[j]
    refine⟨λh=>?_,λh=>?_⟩
    ·simp only[aE]at h
     refine(bF _ _ _ _).aK z x λC I e f c=>⟨_,rfl,fF ?_ (t.trans c)⟩
     rw[e];omega
    ·simp only[ak]at h
     exact cX V A
   simp only[ak]at H
   have ek:cR ((g:Int)+1)=(g:Int)+1:=aP V V
   have ec:cR ((U.len:Int) -1)=(q.cJ.length:Int) -1:=by rw[aP V V,af]
   rw[ek,ec]
   refine⟨λK=>?_,λK=>?_⟩
   ·simp only[aE]at K
    have j:lp b q g i<->i.args.length=1/\(g:Int)+1<=i.bL/\i.bL<=(q.cJ.length:Int) -1:=by rw[lp,ae v,ae w,ae y,ae E,ae F,ae G,ae D,ae H,an K]
    rw[j]
    refine⟨λh=>?_,λh=>?_⟩
    ·simp only[aE]at h
     refine(bF _ _ _ _).aK z x λC I e f c=>⟨_,rfl,fF ?_ (t.trans c)⟩
     rw[e];omega
    ·simp only[ak]at h
     exact cX V A
   simp only[ak]at K
   refine⟨λM=>?_,λM=>?_⟩
   ·simp only[aE]at M
    have j:lp b q g i<->i.args.length=0/\(g:Int)+1<=i.bL/\i.bL<=(q.cJ.length:Int) -1:=by rw[lp,ae v,ae w,ae y,ae E,ae F,ae G,ae D,ae H,ae K,an M]
    rw[j]
    refine⟨λh=>?_,λh=>?_⟩
    ·simp only[aE]at h
     refine(bF _ _ _ _).aK z x λC I e f c=>⟨_,rfl,fF ?_ (t.trans c)⟩
     rw[e];omega
    ·simp only[ak]at h
     exact cX V A
   simp only[ak]at M
   refine⟨λh=>?_,λh=>?_⟩
   ·simp only[aE]at h
    have j:lp b q g i<->i.args.length=1/\0<(cg b.aT i.bL).length/\Md i.dX (cg b.aT i.bL).length g q.cJ.length:=by rw[lp,ae v,ae w,ae y,ae E,ae F,ae G,ae D,ae H,ae K,ae M,an h]
    rw[j]
    refine(zB L.aT Z _).aK z x ?_
    rintro _ I ⟨ax,rfl,Y,f⟩
    have ah:=Y.len
    refine⟨f,_,rfl,λc=>?_,λc=>?_⟩
    ·simp only[aE]at c
     refine dit (λa=>?_) λa=>?_
     ·rw[ah,af]
      refine(DI (hj.ext (ai.trans (z.trans f))) _ _ _ V V).aK (z.trans f) x λC au e o s=>⟨_,rfl,fF ?_ (t.trans s)⟩
      rw[e]
      exact⟨λr=>⟨V,V,r⟩,λr=>r.2.2⟩
     ·exact cX (λr=>V) (A.trans f)
    ·simp only[ak]at c
     exact cX (λr=>V) (A.trans f)
   ·simp only[ak]at h
    have j:lp b q g i<->False:=by rw[lp,ae v,ae w,ae y,ae E,ae F,ae G,ae D,ae H,ae K,ae M,ae h]
    rw[j]
    exact cX (λr=>r) A
end
section
variable{a:J}{d p:O}{b:cq}
structure I6(ds:List bu)(ps:List dk):Prop where
 types:dI ds
 len:1<=ps.length/\ps.length<=4
 dz:∀p∈ps,p.params.length<=3/\DU ds.length p.params/\yG ds.length p.aV
 first:∀p,ps[0]? =some p->p.params.length=0/\p.aV=0
def oa(a:J)(c:List Ce)(p:dk):Prop:=∃b,c=[.s b,.i p.aV,.i 0,.i 0,.s .nil]/\aq a b p.params
def oa.ext{a d:J}(h:N a d)(b:List Ce)(c:dk):oa a b c->oa d b c:=λ⟨f,e,g⟩=>⟨f,e,g.ext h⟩
def Ra.D{s:O}{l:List dk}(h:eK a 5 (oa a) s l){k:Nat}{x:dk}(e:l[k]? =some x):
 ∃b,aq a b x.params/\af a s.E (s.off+k*5)=some (O.v b)/\af a s.E (s.off+k*5+1)=some (vi x.aV)/\af a s.E (s.off+k*5+2)=some (vi 0)/\af a s.E (s.off+k*5+3)=some (vi 0)/\af a s.E (s.off+k*5+4)=some (O.v .nil):=by
 obtain⟨f,⟨b,rfl,d⟩,c⟩:=h.iv k x e
 exact⟨b,d,c 0 (.s b) rfl,c 1 (.i x.aV) rfl,c 2 (.i 0) rfl,c 3 (.i 0) rfl,c 4 (.s .nil) rfl⟩
def ua{F:O}{m:List bu}{j:List dk}(hd:cr a d m)(A:eK a 5 (oa a) F j):
 dW cp 54 [.agg #[O.v d,O.v F]] a (I6 m j):=by
 apply Ar
 simp -zeta only[aC,aB]
 intro s
 have r:N a s:=(N.az a).aN _
 have B:∀g∈[a.size],g<s.size:=by simp[s]
 have q:=hd.len
 have ab:=A.len
 refine(DK (cr.ext r hd)).aK (N.az _) B λg m2 c Q S=>⟨_,rfl,λx=>?_,λx=>?_⟩
 ·exact cX (λb=>nb c x b.types) (r.trans Q)
 have W:=yb c x
 refine(bF _ _ _ _).aK S B λg m3 c h4 J=>⟨_,rfl,λy=>?_,λy=>?_⟩
 ·exact cX (λb=>nb c y (by have:=b.len;omega)) (r.trans J)
 have ac:=yb c y
 refine fB (n:=j.length) V (λD e=>N s e/\∀p∈j.take D,p.params.length<=3/\DU m.length p.params/\yG m.length p.aV) ⟨J,aJ⟩ ?_
 rintro D E Z μ hj ⟨C,L⟩ Y
 have f:=r.trans C
 refine dit (λT=>?_) λT=>?_
 ·obtain⟨p,e⟩:=ag (l:=j) (k:=D) V
  obtain⟨P,o,u,g1,g2,G,H⟩:=Ra.D (A.mono f (oa.ext f)) e
  have U:=o.len
  refine⟨V,V,_,u,_,g1,_,g2,_,G,_,H,?_⟩
  intro M t
  have i:N E t:=((N.az E).aN _).ah (ad _) _ _
  have K:∀g∈[E.size,a.size],g<t.size:=by
   have:=C.lt (B a.size aJ);have:=i.size;simp[t,M,ay];simp[t,M,ay]at this;omega
  refine dit (λh=>?_) λh=>?_
  ·exact cX (λb=>by have:=(b.dz p (av e)).1;omega) (f.trans i)
  refine(vy (o.ext i) _).aK (N.az _) K λg m7 c z R=>⟨_,rfl,λv=>?_,λv=>?_⟩
  ·exact cX (λb=>nb c v (q▸(b.dz p (av e)).2.1)) ((f.trans i).trans z)
  have X:=yb c v
  refine(bF _ _ _ _).aK R K λg m8 c aa I=>⟨_,rfl,λw=>?_,λw=>?_⟩
  ·refine cX (λb=>nb c w ?_) ((f.trans i).trans I)
   rw[q];exact(b.dz p (av e)).2.2
  ·refine Y V _ ⟨(C.trans i).trans I,cF e L ⟨V,q▸X,?_⟩⟩
   have:=yb c w
   rw[q]at this;exact this
 ·have t:=dx V L
  obtain⟨p,e⟩:=ag (l:=j) (k:=0) V
  obtain⟨P,o,u,g1,g2,G,H⟩:=Ra.D (A.mono f (oa.ext f)) e
  have U:=o.len
  refine⟨V,V,_,u,λh=>?_,λh=>?_⟩
  ·simp only[aE]at h
   refine⟨V,V,_,g1,fF ?_ f⟩
   simp only[aE]
   refine⟨λz=>⟨W,V,t,λv i=>?_⟩,λb=>(b.first p e).2⟩
   rw[e]at i;simp at i;subst i
   exact⟨V,z⟩
  ·simp only[ak]at h
   exact cX (λb=>h (by have:=(b.first p e).1;omega)) f
def BW(P:eV a d p b)(aq:b.cB.length<=4):
 aL cp 55 [.agg #[O.v d,O.v p]] a λam j=>∃M,am=.agg #[O.v d,O.v M]/\eK j 5 (oa j) M b.cB/\N a j:=by
 apply wS
 simp -zeta only[aC,aB]
 intro t q e L s
 have ar:=P.cB.len
 have ai:N a L:=(((N.az a).aN _).aN _|>.aN _).aN _
 have s3:e.size=a.size+3:=by simp[e,q,t]
 have s2:q.size=a.size+2:=by simp[q,t]
 have s1:t.size=a.size+1:=by simp[t]
 have s5:s.size=a.size+4:=by simp[s,L,ay,s3]
 have aj:N a s:=ai.ah V _ _
 have aa:cx s e.size jP [.s d,.s (.mk q.size 0 0 0)]:=cx.ah (m:=L) (o:=0) (r:=[.s d,.s (.mk q.size 0 0 0)]) (cx.push e _ _)
 have ah:N e s:=((N.az e).aN _).ah (ad _) _ _
 have ae:ij a s eT 5 (.mk q.size 0 0 0) ([]:List (List Ce)).flatten:=
  (ij.new (((N.az a).aN _).aN _:N a q) eT 5 [] 0 aJ:ij a e eT 5 (.mk q.size 0 0 0) []).ext ah
 clear_value s
 refine fB (n:=b.cB.length) V (λE j=>N a j/\s.size<=j.size/\∃g y,cx j e.size jP [.s d,.s g]/\ij a j eT 5 g y.flatten/\gH 5 (oa a) y (b.cB.take E)/\g≠.nil/\t.size<g.E/\g.E≠e.size/\g.len=E)
  ⟨aj,ad _,_,[],aa,ae,by simpa using gH.nil 5 (oa a),aJ,bR,bR,rfl⟩ ?_
 rintro E B an μ hk ⟨C,az,g,y,z,R,K,av,au,af,T⟩ al
 refine dit (λW=>?_) λW=>?_
 ·obtain⟨F,S⟩:=ag (l:=b.cB) (k:=E) V
  obtain⟨u,c,ao,ha,f,hc,U,g1,g2,g3,g4⟩:=P.cB.D S
  refine⟨g,z.bV 1,V,V,u,by simpa using C.af U,V,V,_,by simpa using C.af g2,?_⟩
  intro h
  have D:N B h:=N.push _ _
  refine⟨D.bZ (z.bV 1),?_⟩
  have jk:fZ h B.size 0 [.s u,.i F.aV,.i 0,.i 0,.s .nil]:=(cx.push B _ _).iv
  have ac:=z.ext D
  have aw:h.size=B.size+1:=by simp[h]
  clear_value h
  refine ij.append (c:=[.s .nil,.i 0,.i 0,.i 0,.s .nil]) (i:=[.s u,.i F.aV,.i 0,.i 0,.s .nil]) (R.ext D) (C.trans D) rfl jk (by simp[T];omega) ?_
  intro x v Z h8 H ap X Y
  have G:∀c,c<h.size->c≠g.E->v[c]? =h[c]? :=λc f I=>X c f (λ_=>I)
  have A:t.size<x.E/\x.E≠e.size:=by
   rcases Y with⟨_,i⟩|⟨_,i,_⟩|i
   ·rw[i]at H;simp at H
   ·rw[i];constructor<;>omega
   ·rw[i];constructor<;>omega
  have Q:cx v e.size jP [.s d,.s g]:=ac.congr (G _ V (λi=>af i.symm))
  refine⟨λc f=>?_,Q.dZ aJ,?_⟩
  ·simp at f
   rcases f with rfl|rfl
   ·exact G _ V V
   ·exact G _ V V
  intro w
  have ax:w.size=v.size:=by simp[w,ay]
  have ab:cx w e.size jP [.s d,.s x]:=cx.ah (m:=v) (o:=1) (r:=[.s x]) Q
  have J:∀c,c≠e.size->w[c]? =v[c]? :=λc f=>bt _ _ _ _ f
  have ak:N a w:=h8.ah V _ _
  clear_value w
  refine⟨λc f=>?_,?_⟩
  ·simp at f
   rcases f with rfl|rfl
   ·exact J _ V
   ·exact J _ V
  refine al V _ ⟨ak,V,x,y++[[.s u,.i F.aV,.i 0,.i 0,.s .nil]],ab,?_,?_,?_,A.1,A.2,by simp[H,T]⟩
  ·rw[xF]
   exact(by simpa using Z:ij a v eT 5 x (y.flatten++[[.s u,.i F.aV,.i 0,.i 0,.s .nil]].flatten)).congr (J _ A.2)
  ·rw[bn S]
   exact K.zp rfl ⟨u,rfl,ha⟩
  ·intro i
   rw[i]at A;simp at A
 ·refine⟨d,z.bV 0,g,z.bV 1,?_⟩
  intro h
  have I:∀c,c≠t.size->h[c]? =B[c]? :=λc f=>bt _ _ _ _ f
  have i:N a h:=C.ah V _ _
  refine⟨g,rfl,?_,i⟩
  rw[cN V]at K
  exact(eK.gQ (R.congr (I _ V)) K V V).mono (N.az _) (oa.ext i)
structure FE(b:cq)(p:dk):Prop where
 cG:CI p.params p.cG
 ao:(p.params.length:Int)<=p.ao/\1<=p.ao/\p.ao<=2000
 len:1<=p.cJ.length/\p.cJ.length<=2000
 dz:∀(k:Nat)(i:Instr),p.cJ[k]? =some i->ig b p k i
 Pu:∀i,p.cJ[p.cJ.length -1]? =some i->i.op=23\/i.op=24
def Fj(Q:eV a d p b)(W:dI b.aT){E L y:O}{q:dk}(r:ND a E L y q):
 dW cp 56 [.agg #[O.v d,O.v p],.agg #[O.v E,O.v L,vi q.aV,vi q.ao,O.v y]] a (FE b q):=by
 apply Aq
 simp -zeta only[aC,aB]
 intro M w
 have m:N a w:=((N.az a).aN _).aN _
 have x:∀s∈[M.size,a.size],s<w.size:=by simp[w,M];omega
 clear_value w
 have aa:=r.params.len
 have ab:=r.cJ.len
 refine(tZ (r.params.ext m) (r.cG.ext m)).aK (N.az _) x λs m3 e R T=>⟨_,rfl,λA=>?_,λA=>?_⟩
 ·exact cX (λg=>nb e A g.cG) (m.trans R)
 have I:=yb e A
 refine(bF _ _ _ _).aK T x λs m4 e h4 F=>⟨_,rfl,λB=>?_,λB=>?_⟩
 ·refine cX (λg=>nb e B ?_) (m.trans F)
  have:=g.ao
  split<;>omega
 have U:=yb e B
 refine(bF _ _ _ _).aK F x λs m5 e h7 G=>⟨_,rfl,λC=>?_,λC=>?_⟩
 ·exact cX (λg=>nb e C (by have:=g.len;omega)) (m.trans G)
 have ad:=yb e C
 have D:(q.params.length:Int)<=q.ao/\1<=q.ao/\q.ao<=2000:=by
  split at U<;>omega
 refine fB (n:=q.cJ.length) V (λv X=>N w X/\∀(f:Nat)(i:Instr),f<v->q.cJ[f]? =some i->ig b q f i) ⟨G,aJ⟩ ?_
 rintro v m6 Z μ hj ⟨K,J⟩ Y
 have t:=m.trans K
 refine dit (λS=>?_) λS=>?_
 ·obtain⟨i,j⟩:=ag (l:=q.cJ) (k:=v) V
  refine(DH (eV.ext t Q) W (r.ext t) D.2 j).aK K x λs m7 e o h=>⟨_,rfl,λz=>?_,λz=>?_⟩
  ·exact cX (λg=>nb e z (g.dz v i j)) (m.trans h)
  ·refine Y V _ ⟨h,λf u P c=>?_⟩
   by_cases H:f=v
   ·subst H
    rw[j]at c;simp at c;subst c
    exact yb e z
   ·exact J f u V c
 ·obtain⟨i,j⟩:=ag (l:=q.cJ) (k:=q.cJ.length -1) V
  obtain⟨xa,xj,ha,ac,z,g1,g2,g3,g4,g5⟩:=(eS.ext t r.cJ).D j
  have P:cR ((y.len:Int) -1)=((q.cJ.length -1:Nat):Int):=by rw[aP V V];omega
  rw[P]
  have H:∀(f:Nat)(i:Instr),q.cJ[f]? =some i->ig b q f i:=λf u c=>J f u (by have:=aD c;omega) c
  refine⟨V,V,_,by simpa using z,λo=>?_,λo=>?_⟩
  ·simp only[aE]at o
   refine jM ⟨I,D,V,H,λu c=>?_⟩ t
   rw[j]at c;simp at c;subst c
   exact Or.inl o
  ·simp only[ak]at o
   refine⟨V,V,_,by simpa using z,fF ?_ t⟩
   simp only[aE]
   refine⟨λh=>⟨I,D,V,H,λu c=>?_⟩,λg=>?_⟩
   ·rw[j]at c;simp at c;subst c
    exact Or.inr h
   ·rcases g.Pu i j with h|h
    ·exact absurd h o
    ·exact h
structure gP(b:cq):Prop where
 lY:I6 b.aT b.cB
 dz:∀p∈b.cB,FE b p
def DG(h:eV a d p b):dW cp 32 [.agg #[O.v d,O.v p]] a (gP b):=by
 apply yr;simp -zeta only[aC,aB];intro g;have e:N a g:=(N.az a).aN _;have q:∀i∈[a.size],i<g.size:=by simp[g]
 clear_value g;have S:=h.cB.len;refine dit (λE=>?_) λE=>?_
 ·exact cX (λf=>by have:=f.lY.len;omega) e
 refine(BW (eV.ext e h) V).aK (N.az _) q ?_;rintro _ T ⟨A,rfl,I,j⟩;refine⟨j,d,A,rfl,?_⟩;refine(ua (cr.ext (e.trans j) h.aT) I).aK j q λi U c P v=>⟨_,rfl,λm=>?_,λm=>?_⟩
 ·exact cX (λf=>nb c m f.lY) (e.trans v)
 have y:=yb c m;refine fB (n:=b.cB.length) V (λt o=>N g o/\∀u∈b.cB.take t,FE b u) ⟨v,aJ⟩ ?_;rintro t W K μ R ⟨z,x⟩ J
 have s:=e.trans z;refine dit (λF=>?_) λF=>?_
 ·obtain⟨u,r⟩:=ag (l:=b.cB) (k:=t) V;obtain⟨L,i,M,G,c,H,B,g1,g2,C,D⟩:=(iP.ext s h.cB).D r;refine⟨V,V,_,B,_,g1,_,g2,_,C,_,D,?_⟩;refine(Fj (eV.ext s h) y.types ⟨G,c,H⟩).aK z q λi X c Q w=>⟨_,rfl,λo=>?_,λo=>?_⟩
  ·exact cX (λf=>nb c o (f.dz u (av r))) (e.trans w)
  ·exact J V _ ⟨w,cF r x (yb c o)⟩
 ·exact jM ⟨y,dx V x⟩ s
end
end Go.Proofs.YtgnjacfobdjeeaaGreat
