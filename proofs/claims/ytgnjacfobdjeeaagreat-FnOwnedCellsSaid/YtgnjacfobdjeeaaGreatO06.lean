/- Part of a proof, joined by a program. -/
import Derived.Test.YtgnjacfobdjeeaaGreatO01
import Derived.Test.YtgnjacfobdjeeaaGreatO02
import Derived.Test.YtgnjacfobdjeeaaGreatO03
import Derived.Test.YtgnjacfobdjeeaaGreatO04
import Derived.Test.YtgnjacfobdjeeaaGreatO05
set_option linter.unusedVariables false
set_option linter.unusedSimpArgs false
set_option linter.defProp false
set_option linter.constructorNameAsVariable false
set_option maxHeartbeats 8000000
set_option maxRecDepth 100000
namespace Go.Proofs.YtgnjacfobdjeeaaGreat
open Go.Vc
section
variable{m:I}{R:Value->I->Prop}
def Hz(a bL:Int)(bu:O):=cQ m R A0 [cI a,cI bL,cS bu] Tryz.func311
def Cc(r:Nat×Nat)(t:Int):=cQ m R ⟨[(8,[(9,.I)])],[(5,[(7,.P)])],[(5,[51,50,49]),(8,[50,49])]⟩ [cP r,cI t] Tryz.func312
def AA(v:Int):=cQ m R A0 [cI v] Tryz.func313
def Hv(r:Nat×Nat)(a b c:O)(t:Int):=cQ m R A0 [cP r,.agg [.s a,.s b],cS c,cI t] Tryz.func314
def yA(a b:Int)(c:O)(left:Int):=cQ m R ⟨[(5,[(1,.I),(5,.I)])],[],[(5,[29])]⟩ [.agg [.i a,.i b,.s c],cI left] Tryz.func315
def zS(a b c:Int)(d e:O):=cQ m R ⟨[(3,[(3,.S),(4,.I)])],[],[(3,[35,34])]⟩ [.agg [.i a,.i b,.i c,.s d,.s e]] Tryz.func316
def zP(a:O)(b f:Int):=cQ m R ⟨[(2,[(5,.I)]),(7,[(6,.I)])],[],[(2,[55]),(7,[55])]⟩ [.agg [.s a,.i b],cI f] Tryz.func317
def uT(b c d:Int)(e f:O)(n:Int)(a:O):=cQ m R ⟨[(4,[(2,.S),(7,.I)]),(9,[(2,.S),(8,.I)])],[],[(4,[61]),(9,[61])]⟩ [.agg [.i b,.i c,.i d,.s e,.s f],cI n,cS a] Tryz.func318
def BZ(b c:O)(e f g:Int)(h j:O)(i:Int)(d a:O):=cQ m R A0 [.agg [.s b,.s c],.agg [.i e,.i f,.i g,.s h,.s j],cI i,cS d,cS a] Tryz.func319
def zT(d e g aK a:O)(b:Int)(f c:O):=cQ m R ⟨[(7,[(16,.S),(17,.S),(18,.I)]),(14,[(19,.S),(20,.I)])],[],[(7,[127,124,121]),(14,[127,124,121])]⟩ [.agg [.s d,.s e],cS g,cS aK,.agg [.s a,.i b],cS f,cS c] Tryz.func320
def DC(a b:O):=cQ m R ⟨[(3,[(5,.S),(6,.I)])],[],[]⟩ [cS a,cS b] Tryz.func321
def BJ(aT:O)(a b:Int):=cQ m R ⟨[(2,[(7,.I)])],[],[]⟩ [cS aT,cI a,cI b] Tryz.func322
def tm(l:Nat×Nat):=cQ m R A0 [cP l] Tryz.func323
def uh(l:Nat×Nat)(d e a:O)(b c:Int):=cQ m R ⟨[(2,[(9,.I)])],[],[(2,[51,50])]⟩ [cP l,.agg [.s d,.s e],.agg [.s a,.i b],cI c] Tryz.func324
def BH(r:Nat×Nat)(a b c:O):=cQ m R A0 [cP r,.agg [.s a,.s b],cS c] Tryz.func325
def DK(r:Nat×Nat)(b c e d:O)(a:Int):=cQ m R ⟨[(3,[(11,.S),(12,.I)])],[],[(3,[42])]⟩ [cP r,.agg [.s b,.s c],cS e,cS d,cI a] Tryz.func326
def zZ(r:Nat×Nat)(b c d:O)(t a:Int):=cQ m R ⟨[(7,[(13,.S),(14,.I)])],[(4,[(11,.I)])],[(4,[79,75]),(7,[79,75])]⟩ [cP r,.agg [.s b,.s c],cS d,cI t,cI a] Tryz.func327
def zN(a b:O)(t:Int):=cQ m R ⟨[(3,[(5,.S),(6,.I)]),(7,[(7,.T),(8,.I)])],[],[(3,[59]),(7,[59])]⟩ [.agg [.s a,.s b],cI t] Tryz.func328
end
section
variable{m:I}{R:Value->I->Prop}
def Aa(r:Nat×Nat)(b c d:O)(t a:Int):=cQ m R ⟨[(3,[(11,.I)])],[(7,[])],[(3,[130,126]),(7,[130,126])]⟩ [cP r,.agg [.s b,.s c],cS d,cI t,cI a] Tryz.func329
def Cl(r:Nat×Nat):=cQ m R A0 [cP r] Tryz.func330
def wO(a:O)(t:Int):=cQ m R ⟨[(3,[(5,.S),(6,.I)])],[],[]⟩ [cS a,cI t] Tryz.func331
def BK(a b c:O)(t:Int):=cQ m R A0 [.agg [.s a,.s b],cS c,cI t] Tryz.func332
def Aw(r:Nat×Nat)(a b:O)(t:Int):=cQ m R ⟨[(11,[(9,.S),(11,.I)]),(21,[(15,.S),(16,.I)])],[(6,[(8,.I)]),(8,[(8,.I)]),(17,[(80,.T)])],[(6,[124,122]),(8,[124,122]),(11,[124,122]),(17,[124,122]),(21,[124,122])]⟩ [cP r,.agg [.s a,.s b],cI t] Tryz.func333
def uo(a b:O)(c d e:Int)(f g:O)(i:Int):=cQ m R ⟨[(2,[(7,.I)])],[],[(2,[46,45])]⟩ [.agg [.s a,.s b],.agg [.i c,.i d,.i e,.s f,.s g],cI i] Tryz.func334
def Ff(a:O)(n:Int):=cQ m R ⟨[(3,[(5,.S),(6,.I)])],[],[]⟩ [cS a,cI n] Tryz.func335
def wy(l:Nat×Nat)(a:Int):=cQ m R ⟨[(2,[(5,.I)])],[],[]⟩ [cP l,cI a] Tryz.func336
def zO(a b:O)(t:Int):=cQ m R ⟨[(3,[(5,.S),(6,.I)])],[],[(3,[55])]⟩ [.agg [.s a,.s b],cI t] Tryz.func337
end
end Go.Proofs.YtgnjacfobdjeeaaGreat
namespace Go.Proofs.YtgnjacfobdjeeaaGreat
open Go.Vc
section
variable{m:I}{b:O}{a:List Int}
def aU(n b a:Int)(m:I):dm bY 33 [vi n,vi b,vi a] m (b<=n/\n<=a):=by
 apply BV;refine⟨λh=>fA ?_ (J.aC _),λh=>bX ?_ (J.aC _)⟩<;>simp at h
 ·simp[h]
 ·omega
def iX(a:Int)(m:I):dm bY 205 [vi a] m (0<=a/\a<=11):=by
 apply BP;exact(aU _ _ _ _).then λd e c b=>⟨_,rfl,fA c b⟩
def kE(a:Int):Prop:=0<=a/\a<=11/\a≠7/\a≠8\/a=18\/a=19
def vn(e:Int)(m:I):dm bY 153 [vi e] m (kE e):=by
 apply HJ;refine(iX _ _).then λg i d a=>⟨_,rfl,λh=>?_,λh=>?_⟩
 ·have h:=d.1 h;refine⟨λb=>⟨λc=>iN ?_ a,λc=>⟨λf=>iN ?_ a,λf=>fA ?_ a⟩⟩,λb=>⟨λc=>iN ?_ a,λc=>fA ?_ a⟩⟩<;>simp[kE]at* <;>omega
 ·have h:=fb d h;refine⟨λb=>iN ?_ a,λb=>fA ?_ a⟩<;>simp[kE]at* <;>omega
def cU(f:ar m b a)(e:Int):dm bY 175 [O.v b,vi e] m (e∈a):=by
 apply Hq;have o:=f.len;refine dO (n:=a.length) (o▸f.fL) (λh c=>J m c/\∀y∈a.take h,y≠e) ⟨J.aC _,E⟩ ?_;rintro h r I μ q ⟨d,i⟩ p
 refine dit (λj=>?_) λj=>?_
 ·obtain⟨x,g⟩:=ag (l:=a) (k:=h) V;refine⟨V,V,x,by simpa using d.D (f.u g),λc=>?_,λc=>?_⟩
  ·simp only[aL]at c;exact iN (c▸au g) d
  ·simp only[an]at c;exact p V _ ⟨d,bD g i c⟩
 ·exact bX (λc=>cF V i e c rfl) d
def wU(n:Nat)(t:Int):Prop:=0<=t/\t<=n
def CH(n:Nat)(a:List Int):Prop:=∀t∈a,wU n t
def tY(d:ar m b a)(aT:O):dm bY 111 [O.v aT,O.v b] m (CH aT.len a):=by
 apply zH;have o:=d.len;refine dO (n:=a.length) (o▸d.fL) (λf c=>J m c/\∀t∈a.take f,wU aT.len t) ⟨J.aC _,E⟩ ?_;rintro f t I μ s ⟨c,j⟩ q
 refine dit (λh=>?_) λh=>?_
 ·obtain⟨x,e⟩:=ag (l:=a) (k:=f) V;refine⟨V,V,x,by simpa using c.D (d.u e),?_⟩;refine(aU _ _ _ _).then λr u i g=>⟨_,rfl,λh=>?_,λh=>?_⟩
  ·exact bX (λp=>nb i h (p x (au e))) (c.trans g)
  ·exact q V _ ⟨c.trans g,bD e j (yb i h)⟩
 ·exact iN (cF V j) c
def Lp(a:List Int)(d b c:Int):Prop:=(a.length:Int)=d/\∀t∈a,b+1<=t/\t<=c -1
def Cs(g:ar m b a)(q c d:Int)(z: -1<=c/\c<9223372036854775807)(f:0<=d/\d<=9223372036854775807):
 dm bY 158 [O.v b,vi q,vi c,vi d] m (Lp a q c d):=by
 apply wL
 have i:=g.len
 refine⟨λh=>?_,λh=>?_⟩
 ·simp only[tz]at h
  exact bX (λj=>h (by rw[i];exact j.1)) (J.aC _)
 ·simp only[gD]at h
  have w:q=(a.length:Int):=by rw[<-h,i]
  subst w
  have u:cK (c+1)=c+1:=aP V V
  have v:cK (d -1)=d -1:=aP V V
  rw[u,v]
  refine dO (n:=a.length) (i▸g.fL) (λp e=>J m e/\∀t∈a.take p,c+1<=t/\t<=d -1) ⟨J.aC _,E⟩ ?_
  rintro p B I μ A ⟨e,s⟩ t
  refine dit (λh=>?_) λh=>?_
  ·obtain⟨x,o⟩:=ag (l:=a) (k:=p) V
   refine⟨V,V,x,by simpa using e.D (g.u o),?_⟩
   refine(aU _ _ _ _).then λy C r f=>⟨_,rfl,λh=>?_,λh=>?_⟩
   ·exact bX (λj=>nb r h (j.2 x (au o))) (e.trans f)
   ·exact t V _ ⟨e.trans f,bD o s (yb r h)⟩
  ·exact iN ⟨rfl,cF V s⟩ e
def Bf(a cW:List Int):Prop:=∀(k:Nat)(v:Int),cW[k]? =some v->(∃t,0<=v/\a[v.toNat]? =some t/\t≠0)/\(∀u:Int,0<k->cW[k -1]? =some u->u<v)
def sS{F cW:O}{r:List Int}(o:ar m F r)(i:ar m cW a):dm bY 112 [O.v F,O.v cW] m (Bf r a):=by
 apply yT;have Q:=i.len;have R:=o.len;have Z:=o.fL;have L:cK ((F.len:Int) -1)=(r.length:Int) -1:=by rw[aP V V,R]
 rw[L];have Y:=i.fL;refine dO (n:=a.length) (Q▸i.fL) (λc S=>J m S/\∀(j:Nat)(v:Int),j<c->a[j]? =some v->(∃t,0<=v/\r[v.toNat]? =some t/\t≠0)/\(∀u:Int,0<j->a[j -1]? =some u->u<v)) ⟨J.aC _,E⟩ ?_;rintro c T U μ X ⟨p,A⟩ I
 refine dit (λh=>?_) λh=>?_
 ·obtain⟨x,e⟩:=ag (l:=a) (k:=c) V;have y:D T cW.F (cW.off+Int.toNat c*1)=some (vi x):=by simpa using p.D (i.u e)
  refine⟨V,V,x,y,?_⟩;refine(aU _ _ _ _).then λW m2 G f=>⟨_,rfl,λh=>?_,λh=>?_⟩
  ·refine bX (λo=>nb G h ?_) (p.trans f);obtain⟨⟨t,d,z,_⟩,_⟩:=o c x e;have:=ax z;omega
  ·have H:=yb G h;obtain⟨t,s⟩:=ag (l:=r) (k:=x.toNat) V;have N:=(p.trans f).D (o.u s);have q:=p.trans f;refine⟨V,V,x,f.D y,V,V,t,by simpa using N,λd=>?_,λd=>?_⟩
   ·simp only[aL]at d;refine bX (λb=>?_) q;obtain⟨⟨B,_,g,w⟩,_⟩:=b c x e;rw[s]at g;simp at g;exact w (g▸d)
   ·simp only[an]at d;refine dit (λz=>?_) λz=>?_
    ·have M:cK ((c:Int) -1)=((c -1:Nat):Int):=by rw[aP V V];omega
     obtain⟨K,C⟩:=ag (l:=a) (k:=c -1) V;rw[M];refine⟨V,V,x,f.D y,V,V,K,by simpa using q.D (i.u C),dit (λg=>?_) λg=>?_⟩
     ·refine bX (λb=>?_) q;have:=(b c x e).2 K V C;omega
     ·refine I V _ ⟨q,λj v P b=>?_⟩
      by_cases w:j=c
      ·subst w;rw[e]at b;simp at b;subst b;refine⟨⟨t,H.1,s,d⟩,λu _ B=>?_⟩;rw[C]at B;simp at B;subst B;omega
      ·exact A j v V b
    ·refine I V _ ⟨q,λj v P b=>?_⟩
     by_cases w:j=c
     ·subst w;rw[e]at b;simp at b;subst b;exact⟨⟨t,H.1,s,d⟩,λu g _=>V⟩
     ·exact A j v V b
 ·exact iN (λj v b=>A j v (by have:=ax b;omega) b) p
end
section
variable{m:I}
structure Eu(ds:List bq)(k:Nat)(d:bq):Prop where
 gR:0<d.cons.length->d.cons.length<=3/\d.rR=0/\d.to=0/\∀f∈d.cons,f.length<=3/\CH ds.length f
 Pn:d.cons.length=0->(∀e∈ds.take k,¬(e.cons.length=0/\e.rR=d.rR/\e.to=d.to))/\wU ds.length d.rR/\wU ds.length d.to
structure dv(ds:List bq):Prop where
 len:ds.length<=4
 df:∀(k:Nat)(d:bq),ds[k]? =some d->Eu ds k d
def Ed{aT:O}{i:List bq}(x:bR m aT i){f:Nat}{d:bq}(N:i[f]? =some d):dm bY 152 [O.v aT,vi f] m (Eu i f d):=by
 apply yQ;simp -zeta only[aE,aD];have ac:=ax N;have y:=x.len;obtain⟨A,C,P,Q,R⟩:=x.u N;refine⟨V,V,_,by simpa using P,_,by simpa using Q,_,by simpa using R,?_⟩;intro W u;have c:J m u:=((J.aC m).aM _).aj (ad _) _ _;have D:∀v∈[m.size],v<u.size:=by simp[u,W,az]
 have T:=C.len;refine dit (λs=>?_) λs=>?_
 ·refine dit (λS=>?_) λS=>?_
  ·exact bX (λa=>by have:=(a.gR V).1;omega) c
  refine⟨λg=>?_,λg=>?_⟩
  ·simp only[tz]at g;exact bX (λa=>g (a.gR V).2.1) c
  simp only[gD]at g;refine⟨λr=>?_,λr=>?_⟩
  ·simp only[tz]at r;exact bX (λa=>r (a.gR V).2.2.1) c
  simp only[gD]at r;refine dO (n:=d.cons.length) (T▸C.fL) (λf F=>J u F/\∀A∈d.cons.take f,A.length<=3/\CH i.length A) ⟨J.aC _,E⟩ ?_;rintro j z I μ U ⟨h,t⟩ H
  refine dit (λB=>?_) λB=>?_
  ·obtain⟨G,w⟩:=ag (l:=d.cons) (k:=j) V;obtain⟨K,M,L⟩:=(nA.ext (c.trans h) C).u w;have Y:=M.len;refine⟨V,V,K,by simpa using L,dit (λq=>?_) λq=>?_⟩
   ·exact bX (λa=>by have:=((a.gR V).2.2.2 G (au w)).1;omega) (c.trans h)
   ·refine⟨V,V,K,by simpa using L,?_⟩;refine(tY M _).aG h D λv X p o b=>⟨_,rfl,λe=>?_,λe=>?_⟩
    ·exact bX (λa=>nb p e (y▸((a.gR V).2.2.2 G (au w)).2)) (c.trans b)
    ·exact H V _ ⟨b,bD w t ⟨V,y▸yb p e⟩⟩
  ·exact iN ⟨λ_=>⟨V,g,r,cF V t⟩,λL=>V⟩ (c.trans h)
 ·have G:d.cons.length=0:=V;have aa:=x.fL;refine dO (n:=f) V (λf F=>J u F/\∀g∈i.take f,¬(g.cons.length=0/\g.rR=d.rR/\g.to=d.to)) ⟨J.aC _,E⟩ ?_;rintro j z I μ U ⟨h,t⟩ H
  refine dit (λB=>?_) λB=>?_
  ·obtain⟨g,w⟩:=ag (l:=i) (k:=j) V;obtain⟨K,M,Y,Z,q2⟩:=(bR.ext (c.trans h) x).u w;have ab:=M.len;have F:¬(g.cons.length=0/\g.rR=d.rR/\g.to=d.to)->I (cK ((j:Int)+1)) z/\μ (cK ((j:Int)+1)) z<μ j z:=λr=>H V _ ⟨h,bD w t r⟩
   refine⟨V,V,K,by simpa using q2,λq=>?_,λq=>?_⟩
   ·simp only[aL]at q;refine⟨V,V,_,by simpa using Y,λo=>?_,λo=>?_⟩
    ·simp only[aL]at o;refine⟨V,V,_,by simpa using Z,λb=>?_,λb=>?_⟩
     ·simp only[aL]at b;have S:g∈i.take f:=by
       rw[List.mem_iff_getElem?];exact⟨j,by rw[mg,aq V];exact w⟩
      exact bX (λa=>(a.Pn G).1 g S ⟨V,o,b⟩) (c.trans h)
     ·simp only[an]at b;exact F (λr=>b r.2.2)
    ·simp only[an]at o;exact F (λr=>o r.2.1)
   ·simp only[an]at q;exact F (λr=>q V)
  ·have g:j=f:=V;subst g;refine(aU _ _ _ _).aG h D λv X p o b=>⟨_,rfl,λe=>?_,λe=>?_⟩
   ·have e:=p.1 e;refine(aU _ _ _ _).aG b D λv w p r q=>⟨_,rfl,fA ?_ (c.trans q)⟩;rw[p];rw[y]at e⊢;exact⟨λs=>⟨λL=>V,λ_=>⟨t,e,s⟩⟩,λs=>(s.Pn G).2.2⟩
   ·exact bX (λa=>fb p e (y▸(a.Pn G).2.1)) (c.trans b)
def Cv{aT:O}{a:List bq}(o:bR m aT a):dm bY 110 [O.v aT] m (dv a):=by
 apply wN;have x:=o.len;refine dit (λr=>?_) λr=>?_
 ·exact bX (λf=>by have:=f.len;omega) (J.aC _)
 ·refine dO (n:=a.length) V (λt u=>J m u/\∀(j:Nat)(d:bq),j<t->a[j]? =some d->Eu a j d) ⟨J.aC _,E⟩ ?_;rintro j A I μ z ⟨b,p⟩ v
  refine dit (λs=>?_) λs=>?_
  ·obtain⟨q,e⟩:=ag (l:=a) (k:=j) V;refine(Ed (bR.ext b o) e).then λw B h g=>⟨_,rfl,λc=>?_,λc=>?_⟩
   ·exact bX (λf=>nb h c (f.df j q e)) (b.trans g)
   ·refine v V _ ⟨b.trans g,λi d y bA=>?_⟩
    by_cases f:i=j
    ·subst f;rw[e]at bA;simp at bA;subst bA;exact yb h c
    ·exact p i d V bA
  ·exact iN ⟨V,λi d bA=>p i d (by have:=ax bA;omega) bA⟩ b
end
section
variable{a:Nat}{m:I}
def fc:List bq->Nat->Nat
 |_,0=>0
 |[],_=>0
 |d::b,a+1=>d.cons.length+fc b a
def eC(a:List bq):List (List Int):=a.flatMap bq.cons
def Od(a:Nat):fc [] a=0:=by cases a<;>rfl
def qA:∀{b:List bq}{a:Nat}{c:bq},b[a]? =some c->fc b (a+1)=fc b a+c.cons.length
 |[],a,c,h=>by simp at h
 |e::b,0,c,h=>by
  simp at h;subst h;simp only[fc];cases b<;>simp[fc]
 |e::b,a+1,c,h=>by
  have:=qA (b:=b) (a:=a) (c:=c) (by simpa using h);simp only[fc]at this⊢;omega
def mM:∀(b:List bq)(a:Nat),b.length<=a->fc b a=(eC b).length
 |[],a,_=>by rw[Od];rfl
 |d::b,0,h=>by simp at h
 |d::b,a+1,h=>by
  have:=mM b a (by simpa using h);simp only[fc,eC,kO,a9]at this⊢;omega
def Pa:∀(a:List bq){b c:Nat},b<=c->fc a b<=fc a c
 |[],b,c,_=>by simp[Od]
 |d::a,0,c,_=>by simp[fc]
 |d::a,b+1,0,h=>V
 |d::a,b+1,c+1,h=>by
  have:=Pa a (b:=b) (c:=c) V;simp only[fc];omega
def jX{b:List bq}(h:dv b){d:bq}(e:b[a]? =some d):d.cons.length<=3:=by
 rcases jq d.cons.length with c|c
 ·omega
 ·exact((h.df a d e).gR c).1
def QL{b:List bq}(h:dv b):∀a,fc b a<=3*a
 |0=>by cases b<;>simp[fc]
 |a+1=>by
  have f:=QL h a;rcases aV a b.length with c|c
  ·obtain⟨e,d⟩:=ag c;rw[qA d];have:=jX h d;omega
  ·rw[mM b (a+1) V,<-mM b a c];omega
def qW{b:List bq}(h:dv b)(a:Nat):fc b a<=12:=by
 rcases aV a b.length with c|c
 ·have:=QL h a;have:=h.len;omega
 ·rw[mM b a c,<-mM b b.length (ad _)];have:=QL h b.length;have:=h.len;omega
def pv:∀(a:List bq)(i j:Nat)(d:bq),a[i]? =some d->j<d.cons.length->(eC a)[fc a i+j]? =d.cons[j]?
 |[],i,j,d,h,_=>by simp at h
 |e::a,0,j,d,h,b=>by
  simp at h;subst h;simp only[fc,eC,kO,bN];rw[aw b]
 |e::a,i+1,j,d,h,b=>by
  have:=pv a i j d (by simpa using h) b;simp only[fc,eC,kO]at this⊢;rw[aF V,<-this];congr 1;omega
def sY:∀(a:List bq)(c:Nat),c<(eC a).length->∃i d,a[i]? =some d/\fc a i<=c/\c<fc a i+d.cons.length
 |[],c,h=>by simp[eC]at h
 |e::a,c,h=>by
  rcases aV c e.cons.length with b|b
  ·exact⟨0,e,E,by simp[fc],by simpa[fc]using b⟩
  ·obtain⟨i,d,f,g,j⟩:=sY a (c -e.cons.length) (by simp only[eC,kO,a9]at h⊢;omega);exact⟨i+1,d,by simpa using f,by simp only[fc];omega,by simp only[fc];omega⟩
def js{aT:O}{b:List bq}(f:bR m aT b)(d:dv b)(y:a<=b.length):GQ bY 187 [O.v aT,vi a] m (vi (fc b a)):=by
 apply zY;have w:=f.len;have:=d.len;refine dC (n:=a) V (λj h c=>J m c/\h=(fc b j:Nat)) ⟨J.aC _,by cases b<;>rfl⟩ ?_;rintro j h z I μ x ⟨e,rfl⟩ q
 refine dit (λp=>?_) λp=>?_
 ·obtain⟨r,c⟩:=ag (l:=b) (k:=j) V;obtain⟨i,g,s,t,o⟩:=(bR.ext e f).u c;refine⟨V,V,i,by simpa using o,?_⟩;refine q V _ _ ⟨e,?_⟩
  have u:=qW d j;have v:=jX d c;rw[aP V (by have:=g.len;omega),qA c,g.len];rfl
 ·have:j=a:=V;subst this;exact⟨rfl,e⟩
def oQ{aT:O}{a:List bq}(e:bR m aT a)(c:dv a):GQ bY 179 [O.v aT] m (vi (eC a).length):=by
 apply zQ;have v:=e.len;have:=c.len;refine dC (n:=a.length) V (λj g b=>J m b/\g=(fc a j:Nat)) ⟨J.aC _,by cases a<;>rfl⟩ ?_;rintro j g x I μ w ⟨d,rfl⟩ p
 refine dit (λo=>?_) λo=>?_
 ·obtain⟨q,b⟩:=ag (l:=a) (k:=j) V;obtain⟨h,f,r,s,i⟩:=(bR.ext d e).u b;refine⟨V,V,h,by simpa using i,?_⟩;refine p V _ _ ⟨d,?_⟩
  have t:=qW c j;have u:=jX c b;rw[aP V (by have:=f.len;omega),qA b,f.len];rfl
 ·refine⟨?_,d⟩;rw[mM a j V]
def U1(a:List bq)(c t:Int):Prop:=
 (∃(i:Nat)(d:bq),t=i+1/\a[i]? =some d/\(fc a i:Int)<=c/\c<fc a i+d.cons.length)\/(t= -1/\¬(0<=c/\c<(eC a).length))
def kK{aT:O}{a:List bq}(r:bR m aT a)(o:dv a)(c:Int):aN bY 154 [O.v aT,vi c] m λK s=>∃y,K=vi y/\U1 a c y/\J m s:=by
 apply BM;have Q:=r.len;have:=o.len;refine dO (n:=a.length) V (λj s=>J m s/\∀(i:Nat)(d:bq),i<j->a[i]? =some d->¬((fc a i:Int)<=c/\c<fc a i+d.cons.length)) ⟨J.aC _,E⟩ ?_;rintro j T L μ S ⟨b,v⟩ I
 refine dit (λD=>?_) λD=>?_
 ·obtain⟨d,h⟩:=ag (l:=a) (k:=j) V;refine(js (bR.ext b r) o V).then λU e=>⟨_,rfl,?_⟩;obtain⟨p,G,N,P,C⟩:=(bR.ext (b.trans e) r).u h;refine⟨V,V,p,by simpa using C,?_⟩;have q:=qW o j;have F:=jX o h;have H:=G.len;have B:cK (cK ((fc a j:Int)+(p.len:Int)) -1)=(fc a j:Int)+d.cons.length -1:=by
   rw[aP (b:=(fc a j:Int)+(p.len:Int)) V V,aP V V,H]
  rw[B];refine(aU _ _ _ _).then λM W u t=>⟨_,rfl,λf=>?_,λf=>?_⟩
  ·have f:=u.1 f;refine⟨_,rfl,Or.inl ⟨j,d,?_,h,V,V⟩,(b.trans e).trans t⟩;rw[aP V V]
  ·refine I V _ ⟨(b.trans e).trans t,λi z R g=>?_⟩
   by_cases A:i=j
   ·subst A;rw[h]at g;simp at g;subst g;intro w;exact fb u f ⟨w.1,V⟩
   ·exact v i z V g
 ·refine⟨_,rfl,Or.inr ⟨rfl,λw=>?_⟩,b⟩;obtain⟨i,d,q,e,F⟩:=sY a c.toNat V;exact v i d (by have:=ax q;omega) q ⟨V,V⟩
def bT(a:List bq)(c:Int):List Int:=if 0<=c then((eC a)[c.toNat]?).getD []else[]
def DE{aT:O}{a:List bq}(e:bR m aT a)(d:dv a)(c:Int):aN bY 155 [O.v aT,vi c] m λB q=>∃s,B=O.v s/\ar q s (bT a c)/\J m q:=by
 apply pD;have L:=e.len;have:=d.len;refine(kK e d c).mono ?_;rintro _ P ⟨R,rfl,n,f⟩;refine⟨_,rfl,dit (λy=>?_) λy=>?_⟩
 ·refine⟨_,rfl,?_,f.aM _⟩;have h:bT a c=[]:=by
   rcases n with⟨i,g,z,_⟩|⟨_,b⟩
   ·omega
   ·unfold bT;split
    ·rw[cb V];rfl
    ·rfl
  rw[h];exact⟨rfl,ad _,E,E⟩
 ·rcases n with⟨i,g,rfl,b,H,I⟩|⟨z,_⟩
  ·have N:=ax b;obtain⟨v,o,D,F,j⟩:=(bR.ext f e).u b;have r:cK ((i:Int)+1 -1)=i:=by rw[aP V V];omega
   rw[r];refine⟨V,V,v,by simpa using j,?_⟩;refine(js (bR.ext f e) d V).then λQ h=>⟨_,rfl,h.dg (by simpa using j),?_⟩;have G:=qW d i;have K:=jX d b;have M:=o.len;obtain⟨C,p⟩:=ag (l:=g.cons) (k:=(c -fc a i).toNat) V;obtain⟨w,A,x⟩:=(nA.ext h o).u p;have t:cK (c -(fc a i:Int))=c -fc a i:=aP V V;rw[t];refine⟨V,V,w,x,_,rfl,?_,f.trans h⟩;have u:bT a c=C:=by
    unfold bT;rw[aq V];have:=pv a i (c -fc a i).toNat g b V;rw[show c.toNat=fc a i+(c -fc a i).toNat by omega,this,p];rfl
   rw[u];exact A
  ·omega
def bU(a:List bq)(t:Int):List Int:=
 if 1<=t/\t<=a.length then((a[t.toNat -1]?).map λd=>(List.range d.cons.length).map λi=>((fc a (t.toNat -1)+i:Nat):Int)).getD []else[]
def xT{aT:O}{a:List bq}(g:bR m aT a)(c:dv a)(t:Int):aN bY 157 [O.v aT,vi t] m λP b=>∃s,P=O.v s/\ar b s (bU a t)/\J m b:=by
 apply sM;intro w;have Z:=g.len;have:=c.len;have v:J m w:=(J.aC m).aM _;have L:iO m w aB 1 (.mk m.size 0 0 0) []:=iO.new (J.aC m) aB 1 [] 0 E;refine(aU _ _ _ _).then λR m2 q f=>⟨_,rfl,λh=>?_,λh=>?_⟩
 ·refine⟨_,rfl,?_,v.trans f⟩;have e:bU a t=[]:=by
   unfold bU;rw[ae (by have:=nb q h;omega)]
  rw[e];exact⟨rfl,ad _,E,E⟩
 ·have h:=yb q h;have y:cK (t -1)=((t.toNat -1:Nat):Int):=by rw[aP V V];omega
  rw[y];obtain⟨e,i⟩:=ag (l:=a) (k:=t.toNat -1) V;have z:bU a t=(List.range e.cons.length).map λo=>((fc a (t.toNat -1)+o:Nat):Int):=by
   unfold bU;rw[aq V,i];rfl
  rw[z];have X:=qW c (t.toNat -1);have Y:=jX c i;refine dC (n:=e.cons.length) V (λj s b=>J m b/\iO m b aB 1 s (((List.range j).map λo=>((fc a (t.toNat -1)+o:Nat):Int)).map Ce.i)/\s.len=j) ⟨v.trans f,by simpa using L.ext f,rfl⟩ ?_;rintro j s m3 Q μ hj ⟨d,r,u⟩ N
  obtain⟨B,I,S,T,C⟩:=(bR.ext d g).u i;have aa:=I.len;refine⟨V,V,B,by simpa using C,dit (λD=>?_) λD=>?_⟩
  ·refine(js (bR.ext d g) c V).then λM p=>⟨_,rfl,?_⟩;intro x;have A:cK (((fc a (t.toNat -1):Nat):Int)+(j:Int))=((fc a (t.toNat -1)+j:Nat):Int):=by rw[aP V V];omega
   have K:x=M.push (.cells (br [.i (((fc a (t.toNat -1)+j:Nat):Int))]) aB):=by rw[<-A]
   clear_value x;subst K;refine iO.append (zs:=[.i 0]) (f:=[.i ((fc a (t.toNat -1)+j:Nat):Int)]) ((r.ext p).ext (J.push _ _)) ((d.trans p).aM _) rfl (cB.push _ _ _).je (by simp[u];omega) ?_;intro ab b F G H U W _;refine N V _ _ ⟨G,?_,by simp[H,u]⟩
   rw[P6,eP,eP];exact F
  ·have:j=e.cons.length:=V;subst this;exact⟨_,rfl,ar.ij r bK,d⟩
end
section
variable{S:List Nat}{d:I}{s j a h:O}{e g p:List Int}{k f:Nat}{x:Int}{Q:List Int->Prop}{K:Value->I->Prop}
def _root_.Go.Vc.ar.cy{X:List Nat}{a:I}(b:ar (bA S d) s e)(f:Fz X d a)(c:∀h∈X,h∈S)(g:e[k]? =some x):D a s.F (s.off+k*1)=some (vi x):=
 (dP.1 ((b.le (f.cJ c)).u g)).2
def _root_.Go.Vc.ar.J0{a:I}(h:ar (bA S d) s e)(b:J d a)(c:e[k]? =some x):D a s.F (s.off+k*1)=some (vi x):=
 h.cy (b.fz []) E c
def CJ(f:Nat)(b:List Value)(d:I)(S:List Nat)(Q:List Int->Prop):Prop:=aN bY f b d λv a=>∃s e,v=O.v s/\ar (bA S a) s e/\Q e/\J d a
def jR(f:Nat)(b:List Value)(d:I)(S:List Nat)(Q:List Int->Prop):Prop:=aN bY f b d λv a=>∃s e,v=O.v s/\Gr S d a aB 1 rS s e/\Q e/\J d a
def qM(f:Nat)(a:List Value)(d:I)(Q:Int->Prop):Prop:=aN bY f a d λv b=>∃n:Int,v=vi n/\Q n/\J d b
abbrev GI(S:List Nat)(a d:I)(s:O)(e:List Int):Prop:=Gr S a d aB 1 rS s e
def GI.nil(S:List Nat)(d:I):GI S d (d.push (.cells (br []) aB)) (.mk d.size 0 0 0) []:=Gr.new S (ad _) aB 1 rS
def GI.jK{S X:List Nat}{c d:I}{s:O}{e:List Int}{a:Int}{K:O->I->Prop}(f:GI S c d s e)(g:Fz X c d)(j:∀h∈S,h<c.size)(k:e.length<=1000000000000)
 (i:∀r b,GI S c b r (e++[a])->Fz X c b->(d.size<=b.size/\(r.F=s.F\/d.size<=r.F))->(∀h,h<d.size->h≠s.F->b[h]? =d[h]?)->K r b):iS (d.push (.cells (br [.i a]) aB)) aB [.i 0] 8 s (.mk d.size 0 1 1) K:=
 Gr.jK (g:=[.i 0]) rS.mono bd f g rfl V i
def GI.done{S:List Nat}{a d:I}{s:O}{e:List Int}(b:GI S a d s e)(c:∀h∈S,h<a.size)(f:e.length<=1000000000000):ar (bA S d) s e:=Gr.done rS.mono b c bd V
def GI.all{S X:List Nat}{b d:I}{s x:O}{e g:List Int}{K:O->I->Prop}(c:GI S b d s e)(f:Fz X b d)(k:∀h∈S,h<b.size)(j:ar (bA (s.F::S) d) x g)(l:e.length+g.length<=1000000000000)
 (i:∀r a,GI S b a r (e++g)->Fz X b a->(d.size<=a.size/\(r.F=s.F\/d.size<=r.F))->(∀h,h<d.size->h≠s.F->a[h]? =d[h]?)->K r a):iS d aB [.i 0] 8 s x K:=
 Gr.all (g:=[.i 0]) rS.mono bd c f j V i
def GI.iz{b a:I}(h:GI S b d s e)(j:a[s.F]? =d[s.F]?):GI S b a s e:=by
 obtain⟨f,c,g,i⟩:=h;exact⟨f,c,g.congr j,i.mono λ_ _ h=>h⟩
def GI.ext{S:List Nat}{b d a:I}{s:O}{e:List Int}(h:GI S b d s e)(c:J d a):GI S b a s e:=Gr.ext rS.mono h c
def _root_.Go.Vc.Gr.cG{α:Type}{S c:List Nat}{g i d:I}{f b:Nat}{R:I->List Ce->α->Prop}{s:O}{e:List α}(o:mK b R)(k:Gr c i d f b R s e)(p:∀h∈S,h∈c\/d.size<=h)(q:g.size<=i.size):Gr S g d f b R s e:=by
 obtain⟨l,j,m,n⟩:=k;refine⟨l,j,m.cG q,n.mono λr x=>o.le ((J.aC d).bA λh a=>?_)⟩;rcases List.mem_cons.1 a with a|a
 ·exact Or.inl (by rw[a];exact ba)
 ·exact(p h a).imp (ai _) id
def GI.cG{S a:List Nat}{b c d:I}{s:O}{e:List Int}(f:GI a c d s e)(g:∀h∈S,h∈a)(j:b.size<=c.size):GI S b d s e:=Gr.cG rS.mono f (λh i=>Or.inl (g h i)) j
def jR.then{b:List Value}(h:jR f b d S Q)(k:∀s e a,GI S d a s e->Q e->J d a->K (O.v s) a):aN bY f b d K:=
 h.mono λ_ a⟨s,e,c,g,i,j⟩=>c▸k s e a g i j
def CJ.then{b:List Value}(h:CJ f b d S Q)(k:∀s e a,ar (bA S a) s e->Q e->J d a->K (O.v s) a):aN bY f b d K:=
 h.mono λ_ a⟨s,e,c,g,i,j⟩=>c▸k s e a g i j
def qM.then{b:List Value}{Q:Int->Prop}(h:qM f b d Q)(i:∀n a,Q n->J d a->K (vi n) a):aN bY f b d K:=
 h.mono λ_ a⟨n,e,c,g⟩=>e▸i n a c g
def qX{b:I}{h:Nat}(a:J d b)(c:d.size<=h):Le (bA S d) (bA (h::S) b):=a.bA λf e=>by
 rcases List.mem_cons.1 e with a|a
 ·exact Or.inr (by rw[a];exact c)
 ·exact Or.inl a
def kL(b:∀h∈S,h<d.size)(i:ar (bA S d) j e)(c:e.length<=1000000000000):jR 57 [O.v j] d S (e=·):=by
 apply me;intro k;have a:J d k:=J.push d _;exact GI.all (e:=[]) (X:=[]) (GI.nil S d) (a.fz []) b (i.le (qX a (ad _))) (by simpa using c) λr m g f _ _=>⟨r,e,rfl,by simpa using g,rfl,f.ext⟩
def nE(e g:List Int):Prop:=(∀x∈g,x∈e)/\g.length<=e.length
def nl(h:∀x∈g,x∈e)(b:x∈e):∀y∈g++[x],y∈e:=by
 intro y a;rcases List.mem_append.1 a with a|a
 ·exact h y a
 ·simp at a;subst a;exact b
def yX(t:∀h∈S,h<d.size)(b:ar (bA S d) j e)(v:Int)(w:e.length<=1000000000000):jR 294 [O.v j,vi v] d S (nE e):=by
 apply Cx;intro A;have u:=b.len;refine dC (n:=e.length) (u▸b.fL) (λk s a=>J d a/\∃g,GI S d a s g/\(∀x∈g,x∈e)/\g.length<=k) ⟨J.push d _,[],GI.nil S d,E,ad _⟩ ?_;rintro k s B I μ z ⟨a,g,c,i,y⟩ o
 refine dit (λq=>?_) λq=>?_
 ·obtain⟨x,m⟩:=ag (l:=e) (k:=k) V;refine⟨V,V,x,b.J0 a m,λr=>⟨V,V,x,b.J0 a m,?_⟩,λr=>o V _ _ ⟨a,g,c,i,V⟩⟩;intro C;exact GI.jK c (a.fz []) t V λF D p f _ _=>o V _ _ ⟨f.ext,_,p,nl i (au m),bK⟩
 ·exact⟨s,g,rfl,c,⟨i,V⟩,a⟩
def Me(t:∀h∈S,h<d.size)(b:ar (bA S d) j e)(v:Int)(w:e.length<=1000000000000):jR 335 [O.v j,vi v] d S (nE e):=by
 apply Ff;intro A;have u:=b.len;refine dC (n:=e.length) (u▸b.fL) (λk s a=>J d a/\∃g,GI S d a s g/\(∀x∈g,x∈e)/\g.length<=k) ⟨J.push d _,[],GI.nil S d,E,ad _⟩ ?_;rintro k s B I μ z ⟨a,g,c,i,y⟩ o
 refine dit (λq=>?_) λq=>?_
 ·obtain⟨x,m⟩:=ag (l:=e) (k:=k) V;refine⟨V,V,x,b.J0 a m,λr=>⟨V,V,x,b.J0 a m,?_⟩,λr=>o V _ _ ⟨a,g,c,i,V⟩⟩;intro C;exact GI.jK c (a.fz []) t V λF D p f _ _=>o V _ _ ⟨f.ext,_,p,nl i (au m),bK⟩
 ·exact⟨s,g,rfl,c,⟨i,V⟩,a⟩
def Kg(v:∀h∈S,h<d.size)(i:ar (bA S d) a e)(w:ar (bA S d) h p)(B:e.length<=1000000000000):jR 321 [O.v a,O.v h] d S (nE e):=by
 apply DC;intro F;have y:=i.len;refine dC (n:=e.length) (y▸i.fL) (λk s b=>J d b/\∃g,GI S d b s g/\(∀x∈g,x∈e)/\g.length<=k) ⟨J.push d _,[],GI.nil S d,E,ad _⟩ ?_;rintro k s G I μ D ⟨b,g,j,m,C⟩ q
 refine dit (λt=>?_) λt=>?_
 ·obtain⟨x,o⟩:=ag (l:=e) (k:=k) V;refine⟨V,V,x,i.J0 b o,?_⟩;refine(cU ((w.le (bt _ _)).ext b) x).then λA H _ c=>⟨_,rfl,λu=>⟨V,V,x,i.J0 (b.trans c) o,?_⟩,λu=>q V _ _ ⟨b.trans c,g,j.ext c,m,V⟩⟩;intro z;exact GI.jK (j.ext c) ((b.trans c).fz []) v V λK z r f _ _=>q V _ _ ⟨f.ext,_,r,nl m (au o),bK⟩
 ·exact⟨s,g,rfl,j,⟨m,V⟩,b⟩
def _root_.Go.Vc.uL{σ τ:Type}{n:Nat}(q:n<=9223372036854775807){j:σ}{l:τ}{h:(σ->τ->Int->I->Prop)->(σ->τ->Int->I->Nat)->σ->τ->Int->I->Prop}(Q:Nat->σ->τ->I->Prop)(o:Q 0 j l d)
 (m:∀(k:Nat)(s:σ)(t:τ)(a:I)(b:σ->τ->Int->I->Prop)(μ:σ->τ->Int->I->Nat),k<=n->Q k s t a->
  (k<n->∀e f c,Q (k+1) e f c->b e f (cK ((k:Int)+1)) c/\μ e f (cK ((k:Int)+1)) c<μ s t k a)->h b μ s t k a):
 ∃(b:σ->τ->Int->I->Prop)(μ:σ->τ->Int->I->Nat),b j l 0 d/\∀s t i a,b s t i a->h b μ s t i a:=by
 refine⟨λs t i c=>∃k:Nat,i=k/\k<=n/\Q k s t c,λ_ _ i _=>(n -i).toNat,⟨0,rfl,dH _,o⟩,?_⟩
 rintro s t i a ⟨k,rfl,p,r⟩
 refine m k s t a _ _ p r λg e f c u=>?_
 rw[jJ g q]
 exact⟨⟨k+1,rfl,g,u⟩,AM g⟩
def Ue(e:List Int)(n:Int)(g:List Int):Prop:=(∀x∈g,x∈e\/x=n)/\g.length<=e.length+1
def zl{n:Int}(h:∀x∈g,x∈e\/x=n)(b:x∈e\/x=n):∀y∈g++[x],y∈e\/y=n:=by
 intro y a;rcases List.mem_append.1 a with a|a
 ·exact h y a
 ·simp at a;subst a;exact b
def kT(q:∀h∈S,h<d.size)(z:ar (bA S d) j e)(v:Int)(R:e.length<1000000000000):jR 275 [O.v j,vi v] d S (Ue e v):=by
 apply DM;intro W;have P:=z.len;refine uL (n:=e.length) (P▸z.fL) (λk s c b=>J d b/\∃g,GI S d b s g/\(∀x∈g,x∈e\/x=v)/\g.length<=k+(if c=true then 1 else 0)) ⟨J.push d _,[],GI.nil S d,E,ad _⟩ ?_;rintro k s c B L μ U ⟨a,g,t,u,y⟩ K
 have T:g.length<=k+1:=by split at y<;>omega
 refine dit (λw=>?_) λw=>?_
 ·obtain⟨x,C⟩:=ag (l:=e) (k:=k) V;have G:∀{b:I},J d b->D b j.F (j.off+k*1)=some (vi x):=λw=>z.J0 w C;have F:x∈e\/x=v:=Or.inl (au C);have A:∀p:Bool,(g++[x]).length<=k+1+(if p=true then 1 else 0)->iS (B.push (.cells (br [.i x]) aB)) aB [.i 0] 8 s (.mk B.size 0 1 1) λr b=>L r p (cK ((k:Int)+1)) b/\μ r p (cK ((k:Int)+1)) b<μ s c k B:=λp o=>
   GI.jK t (a.fz []) q V λr H i f _ _=>K V _ _ _ ⟨f.ext,_,i,zl u F,o⟩
  refine⟨λm=>⟨V,V,x,G a,λM=>⟨V,V,x,G a,λN=>?_,λN=>⟨V,V,x,G a,A true bK⟩⟩,λM=>⟨V,V,x,G a,A c ?_⟩⟩,λm=>⟨V,V,x,G a,A c ?_⟩⟩
  ·have o:c=false:=by simpa using m
   subst o;simp at y;intro Q;refine GI.jK t (a.fz []) q V λr H i f _ _=>⟨V,V,x,G f.ext,?_⟩;intro X;exact GI.jK i f q bK λr Y i f _ _=>K V _ _ _ ⟨f.ext,_,i,zl (zl u (Or.inr rfl)) F,bK⟩
  ·simp only[a9,bg,eF];omega
  ·simp only[a9,bg,eF];omega
 ·refine⟨λm=>?_,λm=>⟨s,g,rfl,t,⟨u,V⟩,a⟩⟩;have o:c=false:=by simpa using m
  subst o;simp at y;intro Q;exact GI.jK t (a.fz []) q V λr H i f _ _=>⟨r,_,rfl,i,⟨zl u (Or.inr rfl),bK⟩,f.ext⟩
def qt(z:∀h∈S,h<d.size)(m:ar (bA S d) j e)(C:Int)(D:e.length<=1000000000000):jR 271 [O.v j,vi C] d S (nE e):=by
 apply uy;intro K;have B:=m.len;refine uL (n:=e.length) (B▸m.fL) (λk s _ a=>J d a/\∃g,GI S d a s g/\(∀x∈g,x∈e)/\g.length<=k) ⟨J.push d _,[],GI.nil S d,E,ad _⟩ ?_;rintro k s c p I μ H ⟨b,g,i,o,F⟩ t
 refine dit (λv=>?_) λv=>?_
 ·obtain⟨x,q⟩:=ag (l:=e) (k:=k) V;have G:=m.J0 b q;have A:iS (p.push (.cells (br [.i x]) aB)) aB [.i 0] 8 s (.mk p.size 0 1 1) λr a=>I r c (cK ((k:Int)+1)) a/\μ r c (cK ((k:Int)+1)) a<μ s c k p:=
   GI.jK i (b.fz []) z V λr L u f _ _=>t V _ _ _ ⟨f.ext,_,u,nl o (au q),bK⟩
  exact⟨V,V,x,G,λw=>⟨λy=>t V _ _ _ ⟨b,g,i,o,V⟩,λy=>⟨V,V,x,G,A⟩⟩,λw=>⟨V,V,x,G,A⟩⟩
 ·exact⟨s,g,rfl,i,⟨o,V⟩,b⟩
def Mj(f:∀h∈S,h<d.size)(w:ar (bA S d) a e)(i:ar (bA S d) h p)(j:e.length+p.length<=1000000000000):jR 289 [O.v a,O.v h] d S (λg=>(∀x∈g,x∈e\/x∈p)/\g.length<=e.length+p.length):=by
 apply FV;refine(kL f w V).then λN _ H v t D=>⟨_,rfl,?_⟩;subst t;have z:=i.len;refine dC (n:=p.length) (z▸i.fL) (λk s b=>J d b/\∃g,GI S d b s g/\(∀x∈g,x∈e\/x∈p)/\g.length<=e.length+k) ⟨D,_,v,λx c=>Or.inl c,ad _⟩ ?_;rintro k s K I μ G ⟨c,g,m,o,F⟩ C
 refine dit (λb=>?_) λb=>?_
 ·obtain⟨x,q⟩:=ag (l:=p) (k:=k) V;refine⟨V,V,x,i.J0 c q,?_⟩;refine(kT (λh j=>aJ (f h j) c.size) (m.done f V) x V).then λM B L u r E=>⟨_,rfl,C V _ _ ⟨c.trans E,B,u.cG (λ_ b=>b) c.size,λy A=>?_,by have:=r.2;omega⟩⟩;rcases r.1 y A with b|b
  ·exact o y b
  ·subst b;exact Or.inr (au q)
 ·exact⟨s,g,rfl,m,⟨o,V⟩,c⟩
def rq(a:Int)(d:I):dm bY 308 [vi a] d (14<=a/\a<=17):=by
 apply wt;exact(aU _ _ _ _).then λh e c b=>⟨_,rfl,fA c b⟩
def dL(c:∀h∈S,h<d.size){fw:O}{a:List Int}(m:ar (bA S d) j e)(n:ar (bA S d) fw a)(l:e.length+a.length<=1000000000000):jR 213 [O.v j,O.v fw] d S (e++a=·):=by
 apply sP;refine(kL c m V).then λq _ p b i g=>⟨_,rfl,?_⟩;subst i;exact GI.all b (g.fz []) c (n.le (qX g b.aY.1)) l λr o k f _ _=>⟨r,_,rfl,k,rfl,f.ext⟩
def pT(u:∀h∈S,h<d.size)(m:ar (bA S d) j e)(a:Nat)(z:a+e.length<=1000000000000):jR 218 [O.v j,vi a] d S (λg=>(∀x∈g,(a:Int)<=x/\x<a+e.length)/\g.length<=e.length):=by
 apply Ab;intro C;have v:=m.len;refine dC (n:=e.length) (v▸m.fL) (λk s b=>J d b/\∃g,GI S d b s g/\(∀x∈g,(a:Int)<=x/\x<a+e.length)/\g.length<=k) ⟨J.push d _,[],GI.nil S d,E,ad _⟩ ?_;rintro k s D I μ B ⟨c,g,i,o,A⟩ p
 refine dit (λr=>?_) λr=>?_
 ·obtain⟨x,w⟩:=ag (l:=e) (k:=k) V;refine⟨V,V,x,m.J0 c w,λt=>?_,λt=>p V _ _ ⟨c,g,i,o,V⟩⟩;rw[aP (b:=(a:Int)+k) V V];intro F;refine GI.jK i (c.fz []) u V λH G q f _ _=>p V _ _ ⟨f.ext,_,q,?_,bK⟩
  intro y b;rcases List.mem_append.1 b with b|b
  ·exact o y b
  ·simp at b;omega
 ·exact⟨s,g,rfl,i,⟨o,V⟩,c⟩
def kC(o:∀h∈S,h<d.size)(a b:Nat)(q:a+b<=1000000000000):jR 189 [vi a,vi b] d S (λg=>(∀x∈g,(a:Int)<=x/\x<a+b)/\g.length=b):=by
 apply vj;intro u;refine dC (n:=b) V (λk s c=>J d c/\∃g,GI S d c s g/\(∀x∈g,(a:Int)<=x/\x<a+b)/\g.length=k) ⟨J.push d _,[],GI.nil S d,E,rfl⟩ ?_;rintro k s v I μ t ⟨j,g,e,i,r⟩ p
 refine dit (λm=>?_) λm=>?_
 ·rw[aP (b:=(a:Int)+k) V V];intro w;refine GI.jK e (j.fz []) o V λA z l f _ _=>p V _ _ ⟨f.ext,_,l,?_,bK⟩
  intro y c;rcases List.mem_append.1 c with c|c
  ·exact i y c
  ·simp at c;omega
 ·exact⟨s,g,rfl,e,⟨i,V⟩,j⟩
def EK(e:List Int):(e.map λx=>[Ce.i x]).flatten=e.map Ce.i:=by induction e<;>simp_all
def GI.set{S X:List Nat}{q d:I}{s:O}{e:List Int}(u:GI S q d s e)(P:Fz X q d){k:Nat}(C:k<e.length)(n:Int):
 fm d s.F (s.off+k*1) 1/\GI S q (aj d s.F (s.off+k*1) [.i n]) s (e.set k n)/\Fz X q (aj d s.F (s.off+k*1) [.i n])/\(∀h,h≠s.F->(aj d s.F (s.off+k*1) [.i n])[h]? =d[h]?):=by
 have U:=u.aY
 have W:=u.len bd
 obtain⟨w,j,K,g⟩:=u
 have T:∀h,h≠s.F->(aj d s.F (s.off+k*1) [.i n])[h]? =d[h]? :=λh N=>bh _ _ _ _ N
 obtain⟨h,F,tail,t,G,v,H,J⟩:=K.u.resolve_left w
 have Q:j.flatten.length=e.length:=by rw[cX g.size,g.len];omega
 have R:j.flatten=e.map Ce.i:=by
  apply fI;intro f;rcases aV f e.length with a|a
  ·obtain⟨x,p⟩:=ag a;obtain⟨cs,z⟩:=ag (l:=j) (k:=f) (by rw[g.len];exact a);have A:cs=[.i x]:=g.df f cs x z p;have y:=gY (g:=1) g.size z (i:=0) (c:=.i x) (by rw[A];rfl);simp only[dG,iJ]at y;rw[y];simp[p]
  ·rw[cb V,cb (by simpa using a)]
 have D:s.off+k*1=k:=by rw[t];simp
 have y:s.F=h:=by rw[t];rfl
 refine⟨?_,⟨w,(e.set k n).map λx=>[.i x],⟨?_,Or.inr ⟨h,F,tail,t,G,?_,?_,J⟩⟩,⟨by rw[eO],λcs z=>?_,λY cs x B p=>?_⟩⟩,P.aj (Or.inr U.1) _ _,T⟩
 ·rw[D,y]
  exact v.fm (by simp only[a9,bg,eF];omega)
 ·rw[EK,eO,gW];omega
 ·have L:=cB.aj (m:=d) (b:=h) (r:=[.i n]) (o:=k) v
  rw[D,y,EK]
  have M:iE (j.flatten++tail) k [.i n]=(e.set k n).map Ce.i++tail:=by
   apply fI;intro f;rw[tW,R];by_cases A:f=k
   ·subst A;rw[aq ⟨ad _,E,bK⟩,aw (by simpa using C)];simp[C]
   ·rw[ae bK];rcases aV f e.length with a|a
    ·rw[aw (by simpa using a),aw (by simpa using a)];simp only[bW,dQ (jQ A)]
    ·rw[aF (by simpa using a),aF (by simpa using a)];simp
  rw[<-M];exact L
 ·rw[<-H,EK]
  simp only[a9,Q,eO,gW]
 ·simp only[UC]at z
  obtain⟨x,_,rfl⟩:=z
  rfl
 ·simp only[bW,p,mz,Bb]at B
  exact B.symm
def sU(k:∀h∈S,h<d.size)(o:ar (bA S d) j e)(m:e.length<=1000000000000){a:Nat}(l:a<e.length)(n:Int):jR 233 [O.v j,vi a,vi n] d S (e.set a n=·):=by
 apply wP;refine(kL k o m).then λs _ q g b p=>⟨_,rfl,V,?_,?_⟩
 ·subst b;have:=g.len bd;omega
 subst b;obtain⟨c,f,i,_⟩:=g.set (p.fz []) l n;exact⟨c,s,_,rfl,f,rfl,i.ext⟩
end
end Go.Proofs.YtgnjacfobdjeeaaGreat
section
namespace Go.Vc
variable{l:List cq}{k d a:Nat}{x s:cq}{c:Prop}
open Go.Proofs.YtgnjacfobdjeeaaGreat
def Bk.ind{Q:Bk->Prop}(h:∀aA r,(∀s∈aA,∀b∈s.bu,Q b)->Q (.mk aA r)):∀b,Q b
 | .mk aA r=>h aA r λs _ b _=>Bk.ind h b
termination_by b=>SizeOf.sizeOf b
decreasing_by
 rename_i a c
 have d:=mX a
 have e:=mX c
 have f:SizeOf.sizeOf s.bu<SizeOf.sizeOf s:=by cases s;simp;omega
 simp;omega
def Ex.ind{Q:Ex->Prop}(h:∀a bL bu,(∀e∈bu,Q e)->Q (.mk a bL bu)):∀e,Q e
 | .mk a bL bu=>h a bL bu λe _=>Ex.ind h e
termination_by e=>SizeOf.sizeOf e
decreasing_by
 rename_i a
 have b:=mX a
 simp;omega
def sw(l:List cq):Nat:=(l.map JW.w).sum
def bw(l:List Bk):Nat:=(l.map Bk.w).sum
def en(l:List Ex):Nat:=(l.map Ex.n).sum
@[simp] theorem tr:sw []=0:=rfl
@[simp] theorem xe:bw []=0:=rfl
@[simp] theorem Uj:en []=0:=rfl
def ln(x:cq)(l:List cq):sw (x::l)=x.w+sw l:=by simp[sw]
def sE(x:Bk)(l:List Bk):bw (x::l)=x.w+bw l:=by simp[bw]
def LH(x:Ex)(l:List Ex):en (x::l)=x.n+en l:=by simp[en]
def db(a b:List cq):sw (a++b)=sw a+sw b:=by simp[sw]
def nj(a b:List Bk):bw (a++b)=bw a+bw b:=by simp[bw]
def KM(a b:List Ex):en (a++b)=en a+en b:=by simp[en]
def Bk.oV(s:List cq)(r:Int):(Bk.mk s r).w=1+sw s:=Bk.Wj _
def Bk.kN(b:Bk):b.w=1+sw b.aA:=Bk.Wj b
def cq.kN(s:cq):s.w=1+s.args.length+bw s.bu:=rfl
def Ex.PR(o n:Int)(k:List Ex):(Ex.mk o n k).n=1+en k:=by rw[Ex.n];rfl
def Ex.VC(e:Ex):e.n=1+en e.bu:=by cases e;exact Ex.PR _ _ _
def od(h:l[k]? =some x):sw (l.take (k+1))=sw (l.take k)+x.w:=by rw[bH h,db,ln,tr];rfl
def sF{l:List Bk}{x:Bk}(h:l[k]? =some x):bw (l.take (k+1))=bw (l.take k)+x.w:=by rw[bH h,nj,sE,xe];rfl
def HR{l:List Ex}{x:Ex}(h:l[k]? =some x):en (l.take (k+1))=en (l.take k)+x.n:=by rw[bH h,KM,LH,Uj];rfl
def yY(l:List cq)(k:Nat):sw (l.take k)<=sw l:=by
 have:=db (l.take k) (l.drop k);rw[de]at this;omega
def Ik(l:List Bk)(k:Nat):bw (l.take k)<=bw l:=by
 have:=nj (l.take k) (l.drop k);rw[de]at this;omega
def O9(l:List Ex)(k:Nat):en (l.take k)<=en l:=by
 have:=KM (l.take k) (l.drop k);rw[de]at this;omega
def Ml(h:l[k]? =some x):x.w<=sw l:=by
 have:=od h;have:=yY l (k+1);omega
def uE{l:List Bk}{x:Bk}(h:l[k]? =some x):x.w<=bw l:=by
 have:=sF h;have:=Ik l (k+1);omega
def eW:∀l:List cq,l.length<=sw l
 |[]=>E
 |x::l=>by have:=eW l;rw[ln,bg,cq.kN];omega
def Bk.Eo(b:Bk):1<=b.w:=by rw[Bk.kN];omega
def oG:∀l:List Bk,l.length<=bw l
 |[]=>E
 |x::l=>by have:=oG l;have:=x.Eo;rw[sE,bg];omega
def Oa:∀l:List Ex,l.length<=en l
 |[]=>E
 |x::l=>by have:=Oa l;rw[LH,bg,Ex.VC];omega
def nB(a:Int):Prop:=0<=a/\a<=11
instance(a:Int):Decidable (nB a):=inferInstanceAs (Decidable (_/\_))
def dn(s:cq):Nat:=if nB s.op then 1 else 0
def dc(l:List cq):Nat:=(l.map dn).sum
@[simp] theorem qU:dc []=0:=rfl
def jD(x:cq)(l:List cq):dc (x::l)=dn x+dc l:=by simp[dc]
def cr(a b:List cq):dc (a++b)=dc a+dc b:=by simp[dc]
def oY(h:l[k]? =some x):dc (l.take (k+1))=dc (l.take k)+dn x:=by rw[bH h,cr,jD,qU];rfl
def Qw(l:List cq)(k:Nat):dc (l.take k)<=dc l:=by
 have:=cr (l.take k) (l.drop k);rw[de]at this;omega
def Vj(x:cq):dn x<=1:=by unfold dn;split<;>omega
def qT:∀l:List cq,dc l<=l.length
 |[]=>E
 |x::l=>by have:=qT l;have:=Vj x;rw[jD,bg];omega
def ze(a:List bq)(b bL:Int)(i:Nat):Nat:=if b=8 then(bT a (((bU a bL)[i]?).getD 0)).length else 0
structure RB(ds:List bq)(d:Nat)(c:Prop)(a:Nat)(s:cq):Prop where
 op:nB s.op\/c/\14<=s.op/\s.op<=17
 args:∀x∈s.args,0<=x/\x<(a:Int)
 kj:14<=s.op\/s.op=7\/s.op=8->s.args.length=1
 bV:0<=s.bV/\s.bV<=(a:Int)
 HO:s.op=7->s.bu.length=2
 all:s.op=8->s.bu.length=(bU ds s.bL).length/\0<s.bu.length
 call:s.op=9->0<=s.bL/\s.bL<(d:Int)
inductive WB(ds:List bq)(d:Nat)(c:Prop):Nat->Bk->Prop
 |mk {a:Nat} {aA:List cq} {r:Int} (dY:∀(i:Nat)(s:cq),aA[i]? =some s->RB ds d c (a+dc (aA.take i)) s)
  (bu:∀(i:Nat)(s:cq)(k:Nat)(b:Bk),aA[i]? =some s->s.bu[k]? =some b->WB ds d c (a+dc (aA.take i)+ze ds s.op s.bL k) b)
  (res:0<=r/\r<((a+dc aA:Nat):Int)):WB ds d c a (.mk aA r)
structure WS(ds:List bq)(d:Nat)(c:Prop)(a:Nat)(s:cq):Prop where
 dY:RB ds d c a s
 bu:∀(k:Nat)(b:Bk),s.bu[k]? =some b->WB ds d c (a+ze ds s.op s.bL k) b
def WL(b:List bq)(d:Nat)(c:Prop)(a:Nat)(l:List cq):Prop:=∀(i:Nat)(s:cq),l[i]? =some s->WS b d c (a+dc (l.take i)) s
def WB.bo{e:List bq}{b:Bk}(h:WB e d c a b):WL e d c a b.aA/\0<=b.aR/\b.aR<((a+dc b.aA:Nat):Int):=by
 cases h with
 |mk dY bu j=>exact⟨λi s f=>⟨dY i s f,λk b g=>bu i s k b f g⟩,j⟩
def WB.of{e:List bq}{aA:List cq}{r:Int}(h:WL e d c a aA)(j:0<=r/\r<((a+dc aA:Nat):Int)):WB e d c a (.mk aA r):=
 .mk (λi s b=>(h i s b).dY) (λi s k f b g=>(h i s b).bu k f g) j
def WL.nil(b:List bq)(d:Nat)(c:Prop)(a:Nat):WL b d c a []:=λi s h=>by simp at h
def WL.append{f:List bq}{g:List cq}(h:WL f d c a l)(j:WL f d c (a+dc l) g):WL f d c a (l++g):=λi s e=>by
 rcases aV i l.length with b|b
 ·rw[aw b]at e;rw[lW V];exact h i s e
 ·rw[aF b]at e;have:=j _ s e;rw[Y1,mh b,cr,<-dB];exact this
def WL.kj{e:List bq}(h:WS e d c a s):WL e d c a [s]:=λi x b=>by
 have:i=0:=by have:=ax b;simp at this;omega
 subst this;simp at b;subst b;simpa using h
def WL.xK{b:List bq}(h:WL b d c a l)(e:WS b d c (a+dc l) s):WL b d c a (l++[s]):=h.append (.kj e)
def WL.take{e:List bq}(h:WL e d c a l)(k:Nat):WL e d c a (l.take k):=λi s b=>by
 rw[mg]at b;split at b
 ·rw[JT,iR V];exact h i s b
 ·simp at b
def WL.drop{b:List bq}(h:WL b d c a l)(k:Nat):WL b d c (a+dc (l.take k)) (l.drop k):=λi s e=>by
 rw[qb]at e;have:=h _ s e;rw[List.take_add,cr,<-dB]at this;exact this
end Go.Vc
end
namespace Go.Proofs.YtgnjacfobdjeeaaGreat
open Go.Vc
section
variable{m:I}{d p:O}{b:cD}
def tC(b:cD)(bL:Int)(n:Nat):Prop:=∃q:cY,0<=bL/\b.cA[bL.toNat]? =some q/\q.params.length=n
def Rj:cK 9223372036854775808= -9223372036854775808:=bd
def uv(h:eV m d p b)(bL:Int)(n fw:Nat)(N:n<=9223372036854775807)(M:fw<=1):
 dm bY 156 [.agg #[O.v d,O.v p],vi bL,vi n,vi fw] m (tC b bL (n+fw)):=by
 apply Ao
 simp -zeta only[aE,aD]
 intro j
 have i:J m j:=(J.aC m).aM _
 have y:∀o∈[m.size],o<j.size:=by simp[j]
 have P:=h.cA.len
 have Q:=h.cA.fL
 refine(aU _ _ _ _).aG (J.aC _) y λo R r f F=>⟨_,rfl,λa=>?_,λa=>?_⟩
 ·have a:=r.1 a
  rw[aP V V]at a
  obtain⟨s,g⟩:=ag (l:=b.cA) (k:=bL.toNat) V
  obtain⟨e,z,A,q,H,I,u,B,C,D,E⟩:=(gB.ext (i.trans f) h.cA).u g
  refine⟨V,V,e,u,fA ?_ (i.trans f)⟩
  have w:=q.len
  have G:=q.fL
  simp only[aL]
  have t:(e.len:Int)=cK ((n:Int)+(fw:Int))<->e.len=n+fw:=by
   rcases aV (n+fw) 9223372036854775808 with L|K
   ·rw[aP V V];omega
   ·have c:(n:Int)+(fw:Int)=9223372036854775808:=V;rw[c,Rj];omega
  rw[t,w]
  exact⟨λx=>⟨s,a.1,g,x⟩,λ⟨S,_,c,v⟩=>by rw[g]at c;simp at c;rw[c];exact v⟩
 ·refine bX (λ⟨s,e,c,_⟩=>fb r a ?_) (i.trans f)
  have:=ax c
  rw[aP V V]
  omega
def lA(b:cD)(p:cY)(k:Nat)(i:Instr):Prop:=
 if i.op=0 then i.args.length=0/\-999<=i.bL/\i.bL<=999
 else if i.op=1\/i.op=2\/i.op=3\/i.op=4\/i.op=11 then i.args.length=2/\i.bL=0
 else if i.op=5\/i.op=14\/i.op=15\/i.op=18\/i.op=23 then i.args.length=1/\i.bL=0
 else if i.op=6 then(0<=i.bL/\i.bL<(eC b.aT).length)/\i.args.length=(bT b.aT i.bL).length/\0<=i.bV/\i.bV<=p.av
 else if i.op=9\/i.op=24 then tC b i.bL i.args.length
 else if i.op=10 then tC b i.bL (i.args.length+1)/\∀q,b.cA[i.bL.toNat]? =some q->q.cW.length=0
 else if i.op=16\/i.op=17 then(1<=i.args.length/\i.args.length<=4)/\i.bL=0
 else if i.op=19 then i.args.length=1/\0<=i.bL/\i.bL<=2
 else if i.op=20 then i.args.length=1/\(k:Int)+1<=i.bL/\i.bL<=(p.cE.length:Int) -1
 else if i.op=22 then i.args.length=0/\(k:Int)+1<=i.bL/\i.bL<=(p.cE.length:Int) -1
 else if i.op=21 then i.args.length=1/\0<(bU b.aT i.bL).length/\Lp i.dR (bU b.aT i.bL).length k p.cE.length
 else False
structure gG(b:cD)(p:cY)(k:Nat)(i:Instr):Prop where
 args:∀a∈i.args,0<=a/\a<=p.av -1
 dst:0<=i.dst/\i.dst<=p.av -1
 Vk:i.dst=0\/kE i.op
 bV:i.bV=0\/i.op=6
 dR:i.op=21\/i.dR.length=0
 op:lA b p k i
structure MI(m:I)(a l:O)(c:O)(p:cY):Prop where
 params:ar m a p.params
 cW:ar m l p.cW
 cE:eB m c p.cE
def MI.ext{m d:I}(a:J m d){b l c:O}{p:cY}(h:MI m b l c p):MI d b l c p:=⟨h.params.ext a,h.cW.ext a,eB.ext a h.cE⟩
def Cr(ak:eV m d p b)(ht:dv b.aT){ac aj W:O}{q:cY}(Y:MI m ac aj W q)(hr:1<=q.av/\q.av<=2000){g:Nat}{i:Instr}(hk:q.cE[g]? =some i):
 dm bY 113 [.agg #[O.v d,O.v p],.agg #[O.v ac,O.v aj,vi q.aR,vi q.av,O.v W],vi g] m (gG b q g i):=by
 apply wK
 simp -zeta only[aE,aD]
 intro m1 R
 have aa:J m R:=((J.aC m).aM _).aM _
 have aK:=ax hk
 have af:=Y.cE.len
 have aH:=Y.cE.fL
 obtain⟨xa,Q,S,hj,g0,g1,g2,g3,g4,g5⟩:=(eB.ext aa Y.cE).u hk
 refine⟨V,V,_,g0,_,g1,_,g2,_,g3,_,g4,_,g5,?_⟩
 intro m3 B
 have t:J m B:=(aa.aM _).aj aa.size _ _
 have ai:J R B:=((J.aC R).aM _).aj (ad _) _ _
 have x:∀C∈[R.size,m1.size,m.size],C<B.size:=by
  simp[B,m3,R,m1,az];omega
 clear_value B
 have X:=S.len
 have aJ:=hj.len
 have aC:=S.fL
 have er:cK (q.av -1)=q.av -1:=aP V V
 rw[er]
 refine dO (n:=i.args.length) (X▸S.fL) (λab u=>J B u/\∀a∈i.args.take ab,0<=a/\a<=q.av -1) ⟨J.aC _,E⟩ ?_
 rintro ab m5 aA μ aI ⟨hx,hn⟩ aw
 refine dit (λh1=>?_) λh1=>?_
 ·obtain⟨a,o⟩:=ag (l:=i.args) (k:=ab) V
  refine⟨V,V,a,by simpa using(ai.trans hx).D (S.u o),?_⟩
  refine(aU _ _ _ _).aG hx x λC y e h f=>⟨_,rfl,λc=>?_,λc=>?_⟩
  ·exact bX (λj=>nb e c (j.args a (au o))) (t.trans f)
  ·exact aw V _ ⟨f,bD o hn (yb e c)⟩
 ·have al:=cF V hn
  refine⟨λu=>J B u/\(0<=i.dst/\i.dst<=q.av -1)/\(i.dst=0\/kE i.op)/\(i.bV=0\/i.op=6)/\(i.op=21\/i.dR.length=0),?_,?_⟩
  ·refine(aU _ _ _ _).aG hx x λC y e h f=>⟨_,rfl,λc=>?_,λc=>?_⟩
   ·exact bX (λj=>nb e c j.dst) (t.trans f)
   ·have U:=yb e c
    have tail:∀u:I,J B u->(i.dst=0\/kE i.op)->
     ((i.bV !=0)=true->((i.op !=6)=true->∃D:Bool,vb false=.bool D/\(D=true<->gG b q g i)/\J m u)/\((i.op !=6)=false->
      ((i.op !=21)=true->((decide ((Q.len:Int)>0))=true->∃D:Bool,vb false=.bool D/\(D=true<->gG b q g i)/\J m u)/\((decide ((Q.len:Int)>0))=false->J B u/\(0<=i.dst/\i.dst<=q.av -1)/\(i.dst=0\/kE i.op)/\(i.bV=0\/i.op=6)/\(i.op=21\/i.dR.length=0)))/\
      ((i.op !=21)=false->J B u/\(0<=i.dst/\i.dst<=q.av -1)/\(i.dst=0\/kE i.op)/\(i.bV=0\/i.op=6)/\(i.op=21\/i.dR.length=0))))/\
     ((i.bV !=0)=false->
      ((i.op !=21)=true->((decide ((Q.len:Int)>0))=true->∃D:Bool,vb false=.bool D/\(D=true<->gG b q g i)/\J m u)/\((decide ((Q.len:Int)>0))=false->J B u/\(0<=i.dst/\i.dst<=q.av -1)/\(i.dst=0\/kE i.op)/\(i.bV=0\/i.op=6)/\(i.op=21\/i.dR.length=0)))/\
      ((i.op !=21)=false->J B u/\(0<=i.dst/\i.dst<=q.av -1)/\(i.dst=0\/kE i.op)/\(i.bV=0\/i.op=6)/\(i.op=21\/i.dR.length=0))):=by
     intro u r T
     have w:(i.bV=0\/i.op=6)->((i.op !=21)=true->((decide ((Q.len:Int)>0))=true->∃D:Bool,vb false=.bool D/\(D=true<->gG b q g i)/\J m u)/\((decide ((Q.len:Int)>0))=false->J B u/\(0<=i.dst/\i.dst<=q.av -1)/\(i.dst=0\/kE i.op)/\(i.bV=0\/i.op=6)/\(i.op=21\/i.dR.length=0)))/\
      ((i.op !=21)=false->J B u/\(0<=i.dst/\i.dst<=q.av -1)/\(i.dst=0\/kE i.op)/\(i.bV=0\/i.op=6)/\(i.op=21\/i.dR.length=0)):=by
      intro v
      refine⟨λa=>⟨λo=>?_,λo=>?_⟩,λa=>?_⟩
      ·simp at a o
       exact bX (λj=>by rcases j.dR with s|s<;>omega) (t.trans r)
      ·simp at o
       exact⟨r,U,T,v,Or.inr V⟩
      ·simp at a
       exact⟨r,U,T,v,Or.inl a⟩
     refine⟨λa=>⟨λo=>?_,λo=>w (Or.inr (by simpa using o))⟩,λa=>w (Or.inl (by simpa using a))⟩
     simp at a o
     exact bX (λj=>by rcases j.bV with s|s<;>contradiction) (t.trans r)
    refine⟨λa=>?_,λa=>tail y f (Or.inl (by simpa using a))⟩
    refine(vn _ _).aG f x λC z e o s=>⟨_,rfl,λK=>?_,λK=>tail z s (Or.inr (yb e K))⟩
    simp at a
    exact bX (λj=>by rcases j.Vk with M|M;exact a M;exact nb e K M) (t.trans s)
  ·rintro m8 ⟨z,U,T,ap,ar⟩
   have A:=t.trans z
   have ao:gG b q g i<->lA b q g i:=⟨λj=>j.op,λj=>⟨al,U,T,ap,ar,j⟩⟩
   rw[ao]
   have N:eV m8 d p b:=eV.ext A ak
   refine⟨λv=>?_,λv=>?_⟩
   ·simp only[aL]at v
    have j:lA b q g i<->i.args.length=0/\-999<=i.bL/\i.bL<=999:=by rw[lA,aq v]
    rw[j]
    refine⟨λh=>?_,λh=>?_⟩
    ·simp only[aL]at h
     refine(aU _ _ _ _).aG z x λC L e f c=>⟨_,rfl,fA ?_ (t.trans c)⟩
     rw[e];omega
    ·simp only[an]at h
     exact bX V A
   simp only[an]at v
   refine⟨λw=>?_,λw=>?_⟩
   ·simp only[cv,aL]at w
    have j:lA b q g i<->i.args.length=2/\i.bL=0:=by rw[lA,ae v,aq w]
    rw[j]
    refine⟨λh=>fA ?_ A,λh=>bX ?_ A⟩
    ·simp only[aL]at h⊢;omega
    ·simp only[an]at h;omega
   simp only[bQ,an]at w
   replace w:¬(i.op=1\/i.op=2\/i.op=3\/i.op=4\/i.op=11):=V
   refine⟨λy=>?_,λy=>?_⟩
   ·simp only[cv,aL]at y
    have j:lA b q g i<->i.args.length=1/\i.bL=0:=by rw[lA,ae v,ae w,aq y]
    rw[j]
    refine⟨λh=>fA ?_ A,λh=>bX ?_ A⟩
    ·simp only[aL]at h⊢;omega
    ·simp only[an]at h;omega
   simp only[bQ,an]at y
   replace y:¬(i.op=5\/i.op=14\/i.op=15\/i.op=18\/i.op=23):=V
   refine⟨λF=>?_,λF=>?_⟩
   ·simp only[aL]at F
    have j:lA b q g i<->(0<=i.bL/\i.bL<(eC b.aT).length)/\i.args.length=(bT b.aT i.bL).length/\0<=i.bV/\i.bV<=q.av:=by rw[lA,ae v,ae w,ae y,aq F]
    rw[j]
    refine(kK N.aT ht _).aG z x ?_
    rintro _ L ⟨aF,rfl,G,f⟩
    refine⟨f,_,rfl,dit (λc=>?_) λc=>?_⟩
    ·have am:0<=i.bL/\i.bL<(eC b.aT).length:=by
      rcases G with⟨H,P,a,o,s,K⟩|⟨a,_⟩
      ·have:=Pa b.aT (show H+1<=b.aT.length from ax o);rw[qA o,mM b.aT _ (ad _)]at this;omega
      ·omega
     refine(DE (bR.ext f N.aT) ht _).aG (z.trans f) x ?_
     rintro _ av ⟨ay,rfl,Z,a⟩
     have ah:=Z.len
     refine⟨a,_,rfl,λo=>?_,λo=>?_⟩
     ·simp only[aL]at o
      refine(aU _ _ _ _).aG ((z.trans f).trans a) x λC aB e s K=>⟨_,rfl,fA ?_ (t.trans K)⟩
      rw[e]
      exact⟨λr=>⟨am,V,r⟩,λr=>r.2.2⟩
     ·simp only[an]at o
      exact bX (λr=>o V) ((A.trans f).trans a)
    ·refine bX (λr=>?_) (A.trans f)
     rcases G with⟨H,P,a,o,s,K⟩|⟨_,a⟩
     ·omega
     ·exact a r.1
   simp only[an]at F
   refine⟨λG=>?_,λG=>?_⟩
   ·simp only[cv,aL]at G
    have j:lA b q g i<->tC b i.bL (i.args.length+0):=by rw[lA,ae v,ae w,ae y,ae F,aq G];rfl
    rw[j]
    have P:=uv N i.bL i.args.length 0 V V
    rw[X]
    refine P.aG z x λC L e f c=>⟨_,rfl,fA e (t.trans c)⟩
   simp only[bQ,an]at G
   replace G:¬(i.op=9\/i.op=24):=V
   refine⟨λH=>?_,λH=>?_⟩
   ·simp only[aL]at H
    have j:lA b q g i<->tC b i.bL (i.args.length+1)/\∀q,b.cA[i.bL.toNat]? =some q->q.cW.length=0:=by rw[lA,ae v,ae w,ae y,ae F,ae G,aq H]
    rw[j]
    have P:=uv N i.bL i.args.length 1 V V
    rw[X]
    refine P.aG z x λC L e f c=>⟨_,rfl,λa=>?_,λa=>bX (λr=>fb e a r.1) (t.trans c)⟩
    have a:=e.1 a
    obtain⟨q',o,s,K⟩:=a
    obtain⟨a',D,c',aB,am,aG,f0,f1,f2,f3,f4⟩:=(gB.ext f N.cA).u s
    have:=N.cA.len
    have:=ax s
    refine⟨V,V,D,f1,fA ?_ (t.trans c)⟩
    have aF:=am.len
    simp only[aL]
    refine⟨λr=>⟨⟨q',o,s,K⟩,λaM M=>?_⟩,λr=>?_⟩
    ·rw[s]at M;simp at M;subst M;omega
    ·have:=r.2 q' s;omega
   simp only[an]at H
   refine⟨λD=>?_,λD=>?_⟩
   ·simp only[cv,aL]at D
    have j:lA b q g i<->(1<=i.args.length/\i.args.length<=4)/\i.bL=0:=by rw[lA,ae v,ae w,ae y,ae F,ae G,ae H,aq D]
    rw[j]
    refine(aU _ _ _ _).aG z x λC L e f c=>⟨_,rfl,λa=>fA ?_ (t.trans c),λa=>bX ?_ (t.trans c)⟩
    ·have a:=e.1 a
     simp only[aL];omega
    ·have a:=fb e a;omega
   simp only[bQ,an]at D
   replace D:¬(i.op=16\/i.op=17):=V
   refine⟨λK=>?_,λK=>?_⟩
   ·simp only[aL]at K
    have j:lA b q g i<->i.args.length=1/\0<=i.bL/\i.bL<=2:=by rw[lA,ae v,ae w,ae y,ae F,ae G,ae H,ae D,aq K]
    rw[j]
    refine⟨λh=>?_,λh=>?_⟩
    ·simp only[aL]at h
     refine(aU _ _ _ _).aG z x λC L e f c=>⟨_,rfl,fA ?_ (t.trans c)⟩
     rw[e];omega
    ·simp only[an]at h
     exact bX V A
   simp only[an]at K
   have ek:cK ((g:Int)+1)=(g:Int)+1:=aP V V
   have ec:cK ((W.len:Int) -1)=(q.cE.length:Int) -1:=by rw[aP V V,af]
   rw[ek,ec]
   refine⟨λM=>?_,λM=>?_⟩
   ·simp only[aL]at M
    have j:lA b q g i<->i.args.length=1/\(g:Int)+1<=i.bL/\i.bL<=(q.cE.length:Int) -1:=by rw[lA,ae v,ae w,ae y,ae F,ae G,ae H,ae D,ae K,aq M]
    rw[j]
    refine⟨λh=>?_,λh=>?_⟩
    ·simp only[aL]at h
     refine(aU _ _ _ _).aG z x λC L e f c=>⟨_,rfl,fA ?_ (t.trans c)⟩
     rw[e];omega
    ·simp only[an]at h
     exact bX V A
   simp only[an]at M
   refine⟨λP=>?_,λP=>?_⟩
   ·simp only[aL]at P
    have j:lA b q g i<->i.args.length=0/\(g:Int)+1<=i.bL/\i.bL<=(q.cE.length:Int) -1:=by rw[lA,ae v,ae w,ae y,ae F,ae G,ae H,ae D,ae K,ae M,aq P]
    rw[j]
    refine⟨λh=>?_,λh=>?_⟩
    ·simp only[aL]at h
     refine(aU _ _ _ _).aG z x λC L e f c=>⟨_,rfl,fA ?_ (t.trans c)⟩
     rw[e];omega
    ·simp only[an]at h
     exact bX V A
   simp only[an]at P
   refine⟨λh=>?_,λh=>?_⟩
   ·simp only[aL]at h
    have j:lA b q g i<->i.args.length=1/\0<(bU b.aT i.bL).length/\Lp i.dR (bU b.aT i.bL).length g q.cE.length:=by rw[lA,ae v,ae w,ae y,ae F,ae G,ae H,ae D,ae K,ae M,ae P,aq h]
    rw[j]
    refine(xT N.aT ht _).aG z x ?_
    rintro _ L ⟨ay,rfl,Z,f⟩
    have ah:=Z.len
    refine⟨f,_,rfl,λc=>?_,λc=>?_⟩
    ·simp only[aL]at c
     refine dit (λa=>?_) λa=>?_
     ·rw[ah,af]
      refine(Cs (hj.ext (ai.trans (z.trans f))) _ _ _ V V).aG (z.trans f) x λC av e o s=>⟨_,rfl,fA ?_ (t.trans s)⟩
      rw[e]
      exact⟨λr=>⟨V,V,r⟩,λr=>r.2.2⟩
     ·exact bX (λr=>V) (A.trans f)
    ·simp only[an]at c
     exact bX (λr=>V) (A.trans f)
   ·simp only[an]at h
    have j:lA b q g i<->False:=by rw[lA,ae v,ae w,ae y,ae F,ae G,ae H,ae D,ae K,ae M,ae P,ae h]
    rw[j]
    exact bX (λr=>r) A
end
section
variable{a:I}{d p:O}{b:cD}
structure Ic(ds:List bq)(ps:List cY):Prop where
 types:dv ds
 len:1<=ps.length/\ps.length<=4
 df:∀p∈ps,p.params.length<=3/\CH ds.length p.params/\wU ds.length p.aR
 first:∀p,ps[0]? =some p->p.params.length=0/\p.aR=0
def na(a:I)(c:List Ce)(p:cY):Prop:=∃b,c=[.s b,.i p.aR,.i 0,.i 0,.s .nil]/\ar a b p.params
def na.ext{a d:I}(h:J a d)(b:List Ce)(c:cY):na a b c->na d b c:=λ⟨f,e,g⟩=>⟨f,e,g.ext h⟩
def Qe.u{s:O}{l:List cY}(h:dW a 5 (na a) s l){k:Nat}{x:cY}(e:l[k]? =some x):
 ∃b,ar a b x.params/\D a s.F (s.off+k*5)=some (O.v b)/\D a s.F (s.off+k*5+1)=some (vi x.aR)/\D a s.F (s.off+k*5+2)=some (vi 0)/\D a s.F (s.off+k*5+3)=some (vi 0)/\D a s.F (s.off+k*5+4)=some (O.v .nil):=by
 obtain⟨f,⟨b,rfl,d⟩,c⟩:=h.je k x e
 exact⟨b,d,c 0 (.s b) rfl,c 1 (.i x.aR) rfl,c 2 (.i 0) rfl,c 3 (.i 0) rfl,c 4 (.s .nil) rfl⟩
def sT{H:O}{m:List bq}{j:List cY}(P:bR a d m)(B:dW a 5 (na a) H j):
 dm bY 54 [.agg #[O.v d,O.v H]] a (Ic m j):=by
 apply yW
 simp -zeta only[aE,aD]
 intro s
 have r:J a s:=(J.aC a).aM _
 have C:∀g∈[a.size],g<s.size:=by simp[s]
 have q:=P.len
 have af:=B.len
 refine(Cv (bR.ext r P)).aG (J.aC _) C λg m2 c U X=>⟨_,rfl,λy=>?_,λy=>?_⟩
 ·exact bX (λb=>nb c y b.types) (r.trans U)
 have ht:=yb c y
 refine(aU _ _ _ _).aG X C λg m3 c h4 N=>⟨_,rfl,λz=>?_,λz=>?_⟩
 ·exact bX (λb=>nb c z (by have:=b.len;omega)) (r.trans N)
 have ah:=yb c z
 refine dO (n:=j.length) V (λF e=>J s e/\∀p∈j.take F,p.params.length<=3/\CH m.length p.params/\wU m.length p.aR) ⟨N,E⟩ ?_
 rintro F G ac μ hj ⟨D,R⟩ ab
 have f:=r.trans D
 refine dit (λY=>?_) λY=>?_
 ·obtain⟨p,e⟩:=ag (l:=j) (k:=F) V
  obtain⟨T,o,u,v,I,K,L⟩:=Qe.u (B.mono f (na.ext f)) e
  have Z:=o.len
  refine⟨V,V,_,u,_,v,_,I,_,K,_,L,?_⟩
  intro S t
  have i:J G t:=((J.aC G).aM _).aj (ad _) _ _
  have Q:∀g∈[G.size,a.size],g<t.size:=by
   have:=D.lt (C a.size E);have:=i.size;simp[t,S,az];simp[t,S,az]at this;omega
  refine dit (λh=>?_) λh=>?_
  ·exact bX (λb=>by have:=(b.df p (au e)).1;omega) (f.trans i)
  refine(tY (o.ext i) _).aG (J.aC _) Q λg m7 c A W=>⟨_,rfl,λw=>?_,λw=>?_⟩
  ·exact bX (λb=>nb c w (q▸(b.df p (au e)).2.1)) ((f.trans i).trans A)
  have aa:=yb c w
  refine(aU _ _ _ _).aG W Q λg m8 c ae M=>⟨_,rfl,λx=>?_,λx=>?_⟩
  ·refine bX (λb=>nb c x ?_) ((f.trans i).trans M)
   rw[q];exact(b.df p (au e)).2.2
  ·refine ab V _ ⟨(D.trans i).trans M,bD e R ⟨V,q▸aa,?_⟩⟩
   have:=yb c x
   rw[q]at this;exact this
 ·have t:=cF V R
  obtain⟨p,e⟩:=ag (l:=j) (k:=0) V
  obtain⟨T,o,u,v,I,K,L⟩:=Qe.u (B.mono f (na.ext f)) e
  have Z:=o.len
  refine⟨V,V,_,u,λh=>?_,λh=>?_⟩
  ·simp only[aL]at h
   refine⟨V,V,_,v,fA ?_ f⟩
   simp only[aL]
   refine⟨λA=>⟨ht,V,t,λw i=>?_⟩,λb=>(b.first p e).2⟩
   rw[e]at i;simp at i;subst i
   exact⟨V,A⟩
  ·simp only[an]at h
   exact bX (λb=>h (by have:=(b.first p e).1;omega)) f
def Av(Q:eV a d p b)(ar:b.cA.length<=4):
 aN bY 55 [.agg #[O.v d,O.v p]] a λan j=>∃P,an=.agg #[O.v d,O.v P]/\dW j 5 (na j) P b.cA/\J a j:=by
 apply vo
 simp -zeta only[aE,aD]
 intro t q e N s
 have au:=Q.cA.len
 have aj:J a N:=(((J.aC a).aM _).aM _|>.aM _).aM _
 have s3:e.size=a.size+3:=by simp[e,q,t]
 have s2:q.size=a.size+2:=by simp[q,t]
 have s1:t.size=a.size+1:=by simp[t]
 have s5:s.size=a.size+4:=by simp[s,N,az,s3]
 have ak:J a s:=aj.aj V _ _
 have ab:cB s e.size jA [.s d,.s (.mk q.size 0 0 0)]:=cB.aj (m:=N) (o:=0) (r:=[.s d,.s (.mk q.size 0 0 0)]) (cB.push e _ _)
 have ai:J e s:=((J.aC e).aM _).aj (ad _) _ _
 have af:iO a s eE 5 (.mk q.size 0 0 0) ([]:List (List Ce)).flatten:=
  (iO.new (((J.aC a).aM _).aM _:J a q) eE 5 [] 0 E:iO a e eE 5 (.mk q.size 0 0 0) []).ext ai
 clear_value s
 refine dO (n:=b.cA.length) V (λF j=>J a j/\s.size<=j.size/\∃g y,cB j e.size jA [.s d,.s g]/\iO a j eE 5 g y.flatten/\fU 5 (na a) y (b.cA.take F)/\g≠.nil/\t.size<g.F/\g.F≠e.size/\g.len=F)
  ⟨ak,ad _,_,[],ab,af,by simpa using fU.nil 5 (na a),E,bK,bK,rfl⟩ ?_
 rintro F B ao μ hk ⟨C,aA,g,y,z,S,M,aw,av,ah,U⟩ am
 refine dit (λY=>?_) λY=>?_
 ·obtain⟨G,T⟩:=ag (l:=b.cA) (k:=F) V
  obtain⟨u,c,ap,ha,f,hc,W,g1,X,g3,g4⟩:=Q.cA.u T
  refine⟨g,z.cy 1,V,V,u,by simpa using C.D W,V,V,_,by simpa using C.D X,?_⟩
  intro h
  have D:J B h:=J.push _ _
  refine⟨D.dg (z.cy 1),?_⟩
  have kd:fQ h B.size 0 [.s u,.i G.aR,.i 0,.i 0,.s .nil]:=(cB.push B _ _).je
  have ae:=z.ext D
  have ax:h.size=B.size+1:=by simp[h]
  clear_value h
  refine iO.append (zs:=[.s .nil,.i 0,.i 0,.i 0,.s .nil]) (f:=[.s u,.i G.aR,.i 0,.i 0,.s .nil]) (S.ext D) (C.trans D) rfl kd (by simp[U];omega) ?_
  intro x v h7 h8 I aq Z aa
  have H:∀c,c<h.size->c≠g.F->v[c]? =h[c]? :=λc f K=>Z c f (λ_=>K)
  have A:t.size<x.F/\x.F≠e.size:=by
   rcases aa with⟨_,i⟩|⟨_,i,_⟩|i
   ·rw[i]at I;simp at I
   ·rw[i];constructor<;>omega
   ·rw[i];constructor<;>omega
  have R:cB v e.size jA [.s d,.s g]:=ae.congr (H _ V (λi=>ah i.symm))
  refine⟨λc f=>?_,R.fm E,?_⟩
  ·simp at f
   rcases f with rfl|rfl
   ·exact H _ V V
   ·exact H _ V V
  intro w
  have ay:w.size=v.size:=by simp[w,az]
  have ac:cB w e.size jA [.s d,.s x]:=cB.aj (m:=v) (o:=1) (r:=[.s x]) R
  have L:∀c,c≠e.size->w[c]? =v[c]? :=λc f=>bh _ _ _ _ f
  have al:J a w:=h8.aj V _ _
  clear_value w
  refine⟨λc f=>?_,?_⟩
  ·simp at f
   rcases f with rfl|rfl
   ·exact L _ V
   ·exact L _ V
  refine am V _ ⟨al,V,x,y++[[.s u,.i G.aR,.i 0,.i 0,.s .nil]],ac,?_,?_,?_,A.1,A.2,by simp[I,U]⟩
  ·rw[vR]
   exact(by simpa using h7:iO a v eE 5 x (y.flatten++[[.s u,.i G.aR,.i 0,.i 0,.s .nil]].flatten)).congr (L _ A.2)
  ·rw[bH T]
   exact M.xK rfl ⟨u,rfl,ha⟩
  ·intro i
   rw[i]at A;simp at A
 ·refine⟨d,z.cy 0,g,z.cy 1,?_⟩
  intro h
  have K:∀c,c≠t.size->h[c]? =B[c]? :=λc f=>bh _ _ _ _ f
  have i:J a h:=C.aj V _ _
  refine⟨g,rfl,?_,i⟩
  rw[bZ V]at M
  exact(dW.ij (S.congr (K _ V)) M V V).mono (J.aC _) (na.ext i)
structure EB(b:cD)(p:cY):Prop where
 cW:Bf p.params p.cW
 av:(p.params.length:Int)<=p.av/\1<=p.av/\p.av<=2000
 len:1<=p.cE.length/\p.cE.length<=2000
 df:∀(k:Nat)(i:Instr),p.cE[k]? =some i->gG b p k i
 J8:∀i,p.cE[p.cE.length -1]? =some i->i.op=23\/i.op=24
def Ef(R:eV a d p b)(X:dv b.aT){F N y:O}{q:cY}(r:MI a F N y q):
 dm bY 56 [.agg #[O.v d,O.v p],.agg #[O.v F,O.v N,vi q.aR,vi q.av,O.v y]] a (EB b q):=by
 apply yU
 simp -zeta only[aE,aD]
 intro P w
 have m:J a w:=((J.aC a).aM _).aM _
 have x:∀s∈[P.size,a.size],s<w.size:=by simp[w,P];omega
 clear_value w
 have ab:=r.params.len
 have ac:=r.cE.len
 refine(sS (r.params.ext m) (r.cW.ext m)).aG (J.aC _) x λs m3 e S U=>⟨_,rfl,λA=>?_,λA=>?_⟩
 ·exact bX (λg=>nb e A g.cW) (m.trans S)
 have K:=yb e A
 refine(aU _ _ _ _).aG U x λs m4 e h4 G=>⟨_,rfl,λB=>?_,λB=>?_⟩
 ·refine bX (λg=>nb e B ?_) (m.trans G)
  have:=g.av
  split<;>omega
 have W:=yb e B
 refine(aU _ _ _ _).aG G x λs m5 e h7 H=>⟨_,rfl,λC=>?_,λC=>?_⟩
 ·exact bX (λg=>nb e C (by have:=g.len;omega)) (m.trans H)
 have ae:=yb e C
 have D:(q.params.length:Int)<=q.av/\1<=q.av/\q.av<=2000:=by
  split at W<;>omega
 refine dO (n:=q.cE.length) V (λv Y=>J w Y/\∀(f:Nat)(i:Instr),f<v->q.cE[f]? =some i->gG b q f i) ⟨H,E⟩ ?_
 rintro v m6 aa μ hj ⟨M,L⟩ Z
 have t:=m.trans M
 refine dit (λT=>?_) λT=>?_
 ·obtain⟨i,j⟩:=ag (l:=q.cE) (k:=v) V
  refine(Cr (eV.ext t R) X (r.ext t) D.2 j).aG M x λs m7 e o h=>⟨_,rfl,λz=>?_,λz=>?_⟩
  ·exact bX (λg=>nb e z (g.df v i j)) (m.trans h)
  ·refine Z V _ ⟨h,λf u Q c=>?_⟩
   by_cases I:f=v
   ·subst I
    rw[j]at c;simp at c;subst c
    exact yb e z
   ·exact L f u V c
 ·obtain⟨i,j⟩:=ag (l:=q.cE) (k:=q.cE.length -1) V
  obtain⟨xa,xj,ha,ad,z,g1,g2,g3,g4,g5⟩:=(eB.ext t r.cE).u j
  have Q:cK ((y.len:Int) -1)=((q.cE.length -1:Nat):Int):=by rw[aP V V];omega
  rw[Q]
  have I:∀(f:Nat)(i:Instr),q.cE[f]? =some i->gG b q f i:=λf u c=>L f u (by have:=ax c;omega) c
  refine⟨V,V,_,by simpa using z,λo=>?_,λo=>?_⟩
  ·simp only[aL]at o
   refine iN ⟨K,D,V,I,λu c=>?_⟩ t
   rw[j]at c;simp at c;subst c
   exact Or.inl o
  ·simp only[an]at o
   refine⟨V,V,_,by simpa using z,fA ?_ t⟩
   simp only[aL]
   refine⟨λh=>⟨K,D,V,I,λu c=>?_⟩,λg=>?_⟩
   ·rw[j]at c;simp at c;subst c
    exact Or.inr h
   ·rcases g.J8 i j with h|h
    ·exact absurd h o
    ·exact h
structure lO(b:cD):Prop where
 pC:Ic b.aT b.cA
 df:∀p∈b.cA,EB b p
def rD(h:eV a d p b):dm bY 32 [.agg #[O.v d,O.v p]] a (lO b):=by
 apply wJ;simp -zeta only[aE,aD];intro g;have e:J a g:=(J.aC a).aM _;have q:∀i∈[a.size],i<g.size:=by simp[g]
 clear_value g;have W:=h.cA.len;refine dit (λH=>?_) λH=>?_
 ·exact bX (λf=>by have:=f.pC.len;omega) e
 refine(Av (eV.ext e h) V).aG (J.aC _) q ?_;rintro _ X ⟨A,rfl,M,j⟩;refine⟨j,d,A,rfl,?_⟩;refine(sT (bR.ext (e.trans j) h.aT) M).aG j q λi Y c S v=>⟨_,rfl,λm=>?_,λm=>?_⟩
 ·exact bX (λf=>nb c m f.pC) (e.trans v)
 have y:=yb c m;refine dO (n:=b.cA.length) V (λt o=>J g o/\∀u∈b.cA.take t,EB b u) ⟨v,E⟩ ?_;rintro t Z P μ U ⟨z,x⟩ N
 have s:=e.trans z;refine dit (λI=>?_) λI=>?_
 ·obtain⟨u,r⟩:=ag (l:=b.cA) (k:=t) V;obtain⟨Q,i,R,K,c,L,B,C,D,F,G⟩:=(gB.ext s h.cA).u r;refine⟨V,V,_,B,_,C,_,D,_,F,_,G,?_⟩;refine(Ef (eV.ext s h) y.types ⟨K,c,L⟩).aG z q λi m5 c T w=>⟨_,rfl,λo=>?_,λo=>?_⟩
  ·exact bX (λf=>nb c o (f.df u (au r))) (e.trans w)
  ·exact N V _ ⟨w,bD r x (yb c o)⟩
 ·exact iN ⟨y,cF V x⟩ s
end
end Go.Proofs.YtgnjacfobdjeeaaGreat
