/- Part of a proof, joined by a program. -/
import Derived.Test.YtakpkjhmbbfniaaGreatU01
import Derived.Test.YtakpkjhmbbfniaaGreatU02
import Derived.Test.YtakpkjhmbbfniaaGreatU03
import Derived.Test.YtakpkjhmbbfniaaGreatU04
import Derived.Test.YtakpkjhmbbfniaaGreatU05
set_option linter.unusedVariables false
set_option linter.unusedSimpArgs false
set_option linter.defProp false
set_option linter.constructorNameAsVariable false
set_option maxHeartbeats 8000000
set_option maxRecDepth 100000
namespace Go.Proofs.YtakpkjhmbbfniaaGreat
open Go.Vc
section
variable{m:I}{R:Value->I->Prop}
def wu(l:Nat×Nat)(b c:O)(d e f:Int)(g h:O)(a:Int):=cT m R ⟨[(9,[(14,.I)])],[],[(9,[89,88])]⟩ [cP l,.agg [.s b,.s c],.agg [.i d,.i e,.i f,.s g,.s h],cI a] Tryz.func237
def DR(a b:O)(c d e:Int)(f g:O)(i:Int):=cT m R A0 [.agg [.s a,.s b],.agg [.i c,.i d,.i e,.s f,.s g],cI i] Tryz.func238
def Fg(a:O)(b c d:Int):=cT m R ⟨[(2,[(7,.I)])],[],[(2,[47])]⟩ [.agg [.s a,.i b],cI c,cI d] Tryz.func239
def wo(a:Int):=cT m R A0 [cI a] Tryz.func240
def uj(l:Nat×Nat)(a b c:Int)(d e:O):=cT m R A0 [cP l,.agg [.i a,.i b,.i c,.s d,.s e]] Tryz.func241
def Jm(r:Nat×Nat)(b c d:O)(t a:Int):=cT m R A0 [cP r,.agg [.s b,.s c],cS d,cI t,cI a] Tryz.func242
def Hp(a bJ:Int)(bt:O):=cT m R A0 [cI a,cI bJ,cS bt] Tryz.func243
def Cb(r:Nat×Nat)(t:Int):=cT m R ⟨[(8,[(9,.I)])],[(5,[(7,.P)])],[(5,[51,50,49]),(8,[50,49])]⟩ [cP r,cI t] Tryz.func244
def Ax(v:Int):=cT m R A0 [cI v] Tryz.func245
def Hk(r:Nat×Nat)(a b c:O)(t:Int):=cT m R A0 [cP r,.agg [.s a,.s b],cS c,cI t] Tryz.func246
def yx(a b:Int)(c:O)(left:Int):=cT m R ⟨[(5,[(1,.I),(5,.I)])],[],[(5,[29])]⟩ [.agg [.i a,.i b,.s c],cI left] Tryz.func247
def zP(a b c:Int)(d e:O):=cT m R ⟨[(3,[(3,.S),(4,.I)])],[],[(3,[35,34])]⟩ [.agg [.i a,.i b,.i c,.s d,.s e]] Tryz.func248
def zL(a:O)(b f:Int):=cT m R ⟨[(2,[(5,.I)]),(7,[(6,.I)])],[],[(2,[55]),(7,[55])]⟩ [.agg [.s a,.i b],cI f] Tryz.func249
def uS(b c d:Int)(e f:O)(n:Int)(a:O):=cT m R ⟨[(4,[(2,.S),(7,.I)]),(9,[(2,.S),(8,.I)])],[],[(4,[61]),(9,[61])]⟩ [.agg [.i b,.i c,.i d,.s e,.s f],cI n,cS a] Tryz.func250
def BY(b c:O)(e f g:Int)(h j:O)(i:Int)(d a:O):=cT m R A0 [.agg [.s b,.s c],.agg [.i e,.i f,.i g,.s h,.s j],cI i,cS d,cS a] Tryz.func251
def zQ(d e g aI a:O)(b:Int)(f c:O):=cT m R ⟨[(7,[(16,.S),(17,.S),(18,.I)]),(14,[(19,.S),(20,.I)])],[],[(7,[127,124,121]),(14,[127,124,121])]⟩ [.agg [.s d,.s e],cS g,cS aI,.agg [.s a,.i b],cS f,cS c] Tryz.func252
def DB(a b:O):=cT m R ⟨[(3,[(5,.S),(6,.I)])],[],[]⟩ [cS a,cS b] Tryz.func253
def BH(aY:O)(a b:Int):=cT m R ⟨[(2,[(7,.I)])],[],[]⟩ [cS aY,cI a,cI b] Tryz.func254
end
section
variable{m:I}{R:Value->I->Prop}
def tp(l:Nat×Nat):=cT m R A0 [cP l] Tryz.func255
def uh(l:Nat×Nat)(d e a:O)(b c:Int):=cT m R ⟨[(2,[(9,.I)])],[],[(2,[51,50])]⟩ [cP l,.agg [.s d,.s e],.agg [.s a,.i b],cI c] Tryz.func256
def BG(r:Nat×Nat)(a b c:O):=cT m R A0 [cP r,.agg [.s a,.s b],cS c] Tryz.func257
def DJ(r:Nat×Nat)(b c e d:O)(a:Int):=cT m R ⟨[(3,[(11,.S),(12,.I)])],[],[(3,[42])]⟩ [cP r,.agg [.s b,.s c],cS e,cS d,cI a] Tryz.func258
def zW(r:Nat×Nat)(b c d:O)(t a:Int):=cT m R ⟨[(7,[(13,.S),(14,.I)])],[(4,[(11,.I)])],[(4,[79,75]),(7,[79,75])]⟩ [cP r,.agg [.s b,.s c],cS d,cI t,cI a] Tryz.func259
def zJ(a b:O)(t:Int):=cT m R ⟨[(3,[(5,.S),(6,.I)]),(7,[(7,.T),(8,.I)])],[],[(3,[59]),(7,[59])]⟩ [.agg [.s a,.s b],cI t] Tryz.func260
def zX(r:Nat×Nat)(b c d:O)(t a:Int):=cT m R ⟨[(3,[(11,.I)])],[(7,[])],[(3,[130,126]),(7,[130,126])]⟩ [cP r,.agg [.s b,.s c],cS d,cI t,cI a] Tryz.func261
def Ck(r:Nat×Nat):=cT m R A0 [cP r] Tryz.func262
def wM(a:O)(t:Int):=cT m R ⟨[(3,[(5,.S),(6,.I)])],[],[]⟩ [cS a,cI t] Tryz.func263
def BJ(a b c:O)(t:Int):=cT m R A0 [.agg [.s a,.s b],cS c,cI t] Tryz.func264
def Ar(r:Nat×Nat)(a b:O)(t:Int):=cT m R ⟨[(11,[(9,.S),(11,.I)]),(21,[(15,.S),(16,.I)])],[(6,[(8,.I)]),(8,[(8,.I)]),(17,[(80,.T)])],[(6,[124,122]),(8,[124,122]),(11,[124,122]),(17,[124,122]),(21,[124,122])]⟩ [cP r,.agg [.s a,.s b],cI t] Tryz.func265
def uo(a b:O)(c d e:Int)(f g:O)(i:Int):=cT m R ⟨[(2,[(7,.I)])],[],[(2,[46,45])]⟩ [.agg [.s a,.s b],.agg [.i c,.i d,.i e,.s f,.s g],cI i] Tryz.func266
def Fa(a:O)(n:Int):=cT m R ⟨[(3,[(5,.S),(6,.I)])],[],[]⟩ [cS a,cI n] Tryz.func267
def wt(l:Nat×Nat)(a:Int):=cT m R ⟨[(2,[(5,.I)])],[],[]⟩ [cP l,cI a] Tryz.func268
def zK(a b:O)(t:Int):=cT m R ⟨[(3,[(5,.S),(6,.I)])],[],[(3,[55])]⟩ [.agg [.s a,.s b],cI t] Tryz.func269
end
end Go.Proofs.YtakpkjhmbbfniaaGreat
namespace Go.Proofs.YtakpkjhmbbfniaaGreat
open Go.Vc
section
variable{m:I}{a:O}{l:List Int}
def aU(n b a:Int)(m:I):dq bY 27 [vi n,vi b,vi a] m (b<=n/\n<=a):=by
 apply BU;refine⟨λh=>fB ?_ (J.aC _),λh=>bX ?_ (J.aC _)⟩<;>simp at h
 ·simp[h]
 ·omega
def iT(a:Int)(m:I):dq bY 118 [vi a] m (0<=a/\a<=11):=by
 apply BO;exact(aU _ _ _ _).then λd e c b=>⟨_,rfl,fB c b⟩
def kK(a:Int):Prop:=0<=a/\a<=11/\a≠7/\a≠8\/a=18\/a=19
def vm(e:Int)(m:I):dq bY 99 [vi e] m (kK e):=by
 apply Hw;refine(iT _ _).then λg i d a=>⟨_,rfl,λh=>?_,λh=>?_⟩
 ·have h:=d.1 h;refine⟨λb=>⟨λc=>je ?_ a,λc=>⟨λf=>je ?_ a,λf=>fB ?_ a⟩⟩,λb=>⟨λc=>je ?_ a,λc=>fB ?_ a⟩⟩<;>simp[kK]at* <;>omega
 ·have h:=fb d h;refine⟨λb=>je ?_ a,λb=>fB ?_ a⟩<;>simp[kK]at* <;>omega
def cU(e:au m a l)(d:Int):dq bY 142 [O.v a,vi d] m (d∈l):=by
 apply Hf;have j:=e.len;refine eg (n:=l.length) (j▸e.gA) (λg b=>J m b/\∀y∈l.take g,y≠d) ⟨J.aC _,E⟩ ?_;rintro g q I μ p ⟨c,h⟩ o
 refine dit (λi=>?_) λi=>?_
 ·obtain⟨x,f⟩:=ag (l:=l) (k:=g) V;refine⟨V,V,x,by simpa using c.D (e.u f),λb=>?_,λb=>?_⟩
  ·simp only[aL]at b;exact je (b▸ar f) c
  ·simp only[an]at b;exact o V _ ⟨c,bA f h b⟩
 ·exact bX (λb=>cJ V h d b rfl) c
def wU(n:Nat)(t:Int):Prop:=0<=t/\t<=n
def CG(n:Nat)(l:List Int):Prop:=∀t∈l,wU n t
def tY(c:au m a l)(aY:O):dq bY 69 [O.v aY,O.v a] m (CG aY.len l):=by
 apply zD;have j:=c.len;refine eg (n:=l.length) (j▸c.gA) (λe b=>J m b/\∀t∈l.take e,wU aY.len t) ⟨J.aC _,E⟩ ?_;rintro e s I μ r ⟨b,i⟩ p
 refine dit (λh=>?_) λh=>?_
 ·obtain⟨x,d⟩:=ag (l:=l) (k:=e) V;refine⟨V,V,x,by simpa using b.D (c.u d),?_⟩;refine(aU _ _ _ _).then λq t g f=>⟨_,rfl,λh=>?_,λh=>?_⟩
  ·exact bX (λo=>nb g h (o x (ar d))) (b.trans f)
  ·exact p V _ ⟨b.trans f,bA d i (yb g h)⟩
 ·exact je (cJ V i) b
def Ld(l:List Int)(c a b:Int):Prop:=(l.length:Int)=c/\∀t∈l,a+1<=t/\t<=b -1
def Cr(f:au m a l)(p b c:Int)(y: -1<=b/\b<9223372036854775807)(e:0<=c/\c<=9223372036854775807):
 dq bY 107 [O.v a,vi p,vi b,vi c] m (Ld l p b c):=by
 apply wJ
 have g:=f.len
 refine⟨λh=>?_,λh=>?_⟩
 ·simp only[tC]at h
  exact bX (λi=>h (by rw[g];exact i.1)) (J.aC _)
 ·simp only[fE]at h
  have v:p=(l.length:Int):=by rw[<-h,g]
  subst v
  have s:cO (b+1)=b+1:=aP V V
  have u:cO (c -1)=c -1:=aP V V
  rw[s,u]
  refine eg (n:=l.length) (g▸f.gA) (λo d=>J m d/\∀t∈l.take o,b+1<=t/\t<=c -1) ⟨J.aC _,E⟩ ?_
  rintro o A I μ z ⟨d,r⟩ t
  refine dit (λh=>?_) λh=>?_
  ·obtain⟨x,j⟩:=ag (l:=l) (k:=o) V
   refine⟨V,V,x,by simpa using d.D (f.u j),?_⟩
   refine(aU _ _ _ _).then λw B q e=>⟨_,rfl,λh=>?_,λh=>?_⟩
   ·exact bX (λi=>nb q h (i.2 x (ar j))) (d.trans e)
   ·exact t V _ ⟨d.trans e,bA j r (yb q h)⟩
  ·exact je ⟨rfl,cJ V r⟩ d
def Be(a cV:List Int):Prop:=∀(k:Nat)(v:Int),cV[k]? =some v->(∃t,0<=v/\a[v.toNat]? =some t/\t≠0)/\(∀u:Int,0<k->cV[k -1]? =some u->u<v)
def sT{C cV:O}{q:List Int}(i:au m C q)(g:au m cV l):dq bY 70 [O.v C,O.v cV] m (Be q l):=by
 apply yQ;have P:=g.len;have Q:=i.len;have Y:=i.gA;have K:cO ((C.len:Int) -1)=(q.length:Int) -1:=by rw[aP V V,Q]
 rw[K];have X:=g.gA;refine eg (n:=l.length) (P▸g.gA) (λb R=>J m R/\∀(j:Nat)(v:Int),j<b->l[j]? =some v->(∃t,0<=v/\q[v.toNat]? =some t/\t≠0)/\(∀u:Int,0<j->l[j -1]? =some u->u<v)) ⟨J.aC _,E⟩ ?_;rintro b S T μ W ⟨o,z⟩ H
 refine dit (λh=>?_) λh=>?_
 ·obtain⟨x,d⟩:=ag (l:=l) (k:=b) V;have w:D S cV.F (cV.off+Int.toNat b*1)=some (vi x):=by simpa using o.D (g.u d)
  refine⟨V,V,x,w,?_⟩;refine(aU _ _ _ _).then λU Z F e=>⟨_,rfl,λh=>?_,λh=>?_⟩
  ·refine bX (λi=>nb F h ?_) (o.trans e);obtain⟨⟨t,c,y,_⟩,_⟩:=i b x d;have:=ax y;omega
  ·have G:=yb F h;obtain⟨t,r⟩:=ag (l:=q) (k:=x.toNat) V;have M:=(o.trans e).D (i.u r);have p:=o.trans e;refine⟨V,V,x,e.D w,V,V,t,by simpa using M,λc=>?_,λc=>?_⟩
   ·simp only[aL]at c;refine bX (λa=>?_) p;obtain⟨⟨A,_,f,s⟩,_⟩:=a b x d;rw[r]at f;simp at f;exact s (f▸c)
   ·simp only[an]at c;refine dit (λy=>?_) λy=>?_
    ·have L:cO ((b:Int) -1)=((b -1:Nat):Int):=by rw[aP V V];omega
     obtain⟨I,B⟩:=ag (l:=l) (k:=b -1) V;rw[L];refine⟨V,V,x,e.D w,V,V,I,by simpa using p.D (g.u B),dit (λf=>?_) λf=>?_⟩
     ·refine bX (λa=>?_) p;have:=(a b x d).2 I V B;omega
     ·refine H V _ ⟨p,λj v N a=>?_⟩
      by_cases s:j=b
      ·subst s;rw[d]at a;simp at a;subst a;refine⟨⟨t,G.1,r,c⟩,λu _ A=>?_⟩;rw[B]at A;simp at A;subst A;omega
      ·exact z j v V a
    ·refine H V _ ⟨p,λj v N a=>?_⟩
     by_cases s:j=b
     ·subst s;rw[d]at a;simp at a;subst a;exact⟨⟨t,G.1,r,c⟩,λu f _=>V⟩
     ·exact z j v V a
 ·exact je (λj v a=>z j v (by have:=ax a;omega) a) o
end
section
variable{m:I}{aY:O}{a:List bO}
structure Eu(a:List bO)(k:Nat)(d:bO):Prop where
 gR:0<d.cons.length->d.cons.length<=3/\d.rV=0/\d.to=0/\∀f∈d.cons,f.length<=3/\CG a.length f
 O8:d.cons.length=0->(∀e∈a.take k,¬(e.cons.length=0/\e.rV=d.rV/\e.to=d.to))/\wU a.length d.rV/\wU a.length d.to
structure dx(a:List bO):Prop where
 len:a.length<=4
 dh:∀(k:Nat)(d:bO),a[k]? =some d->Eu a k d
def Ec(x:bR m aY a){g:Nat}{e:bO}(N:a[g]? =some e):dq bY 102 [O.v aY,vi g] m (Eu a g e):=by
 apply yN;simp -zeta only[aE,aD];have ac:=ax N;have y:=x.len;obtain⟨A,C,P,Q,R⟩:=x.u N;refine⟨V,V,_,by simpa using P,_,by simpa using Q,_,by simpa using R,?_⟩;intro W u;have d:J m u:=((J.aC m).aM _).aj (ad _) _ _;have D:∀v∈[m.size],v<u.size:=by simp[u,W,az]
 have T:=C.len;refine dit (λs=>?_) λs=>?_
 ·refine dit (λS=>?_) λS=>?_
  ·exact bX (λb=>by have:=(b.gR V).1;omega) d
  refine⟨λh=>?_,λh=>?_⟩
  ·simp only[tC]at h;exact bX (λb=>h (b.gR V).2.1) d
  simp only[fE]at h;refine⟨λr=>?_,λr=>?_⟩
  ·simp only[tC]at r;exact bX (λb=>r (b.gR V).2.2.1) d
  simp only[fE]at r;refine eg (n:=e.cons.length) (T▸C.gA) (λg F=>J u F/\∀A∈e.cons.take g,A.length<=3/\CG a.length A) ⟨J.aC _,E⟩ ?_;rintro j z I μ U ⟨i,t⟩ H
  refine dit (λB=>?_) λB=>?_
  ·obtain⟨G,w⟩:=ag (l:=e.cons) (k:=j) V;obtain⟨K,M,L⟩:=(ns.ext (d.trans i) C).u w;have Y:=M.len;refine⟨V,V,K,by simpa using L,dit (λq=>?_) λq=>?_⟩
   ·exact bX (λb=>by have:=((b.gR V).2.2.2 G (ar w)).1;omega) (d.trans i)
   ·refine⟨V,V,K,by simpa using L,?_⟩;refine(tY M _).aG i D λv X p o c=>⟨_,rfl,λf=>?_,λf=>?_⟩
    ·exact bX (λb=>nb p f (y▸((b.gR V).2.2.2 G (ar w)).2)) (d.trans c)
    ·exact H V _ ⟨c,bA w t ⟨V,y▸yb p f⟩⟩
  ·exact je ⟨λ_=>⟨V,h,r,cJ V t⟩,λL=>V⟩ (d.trans i)
 ·have G:e.cons.length=0:=V;have aa:=x.gA;refine eg (n:=g) V (λg F=>J u F/\∀h∈a.take g,¬(h.cons.length=0/\h.rV=e.rV/\h.to=e.to)) ⟨J.aC _,E⟩ ?_;rintro j z I μ U ⟨i,t⟩ H
  refine dit (λB=>?_) λB=>?_
  ·obtain⟨h,w⟩:=ag (l:=a) (k:=j) V;obtain⟨K,M,Y,Z,q2⟩:=(bR.ext (d.trans i) x).u w;have ab:=M.len;have F:¬(h.cons.length=0/\h.rV=e.rV/\h.to=e.to)->I (cO ((j:Int)+1)) z/\μ (cO ((j:Int)+1)) z<μ j z:=λr=>H V _ ⟨i,bA w t r⟩
   refine⟨V,V,K,by simpa using q2,λq=>?_,λq=>?_⟩
   ·simp only[aL]at q;refine⟨V,V,_,by simpa using Y,λo=>?_,λo=>?_⟩
    ·simp only[aL]at o;refine⟨V,V,_,by simpa using Z,λc=>?_,λc=>?_⟩
     ·simp only[aL]at c;have S:h∈a.take g:=by
       rw[List.mem_iff_getElem?];exact⟨j,by rw[lZ,aq V];exact w⟩
      exact bX (λb=>(b.O8 G).1 h S ⟨V,o,c⟩) (d.trans i)
     ·simp only[an]at c;exact F (λr=>c r.2.2)
    ·simp only[an]at o;exact F (λr=>o r.2.1)
   ·simp only[an]at q;exact F (λr=>q V)
  ·have h:j=g:=V;subst h;refine(aU _ _ _ _).aG i D λv X p o c=>⟨_,rfl,λf=>?_,λf=>?_⟩
   ·have f:=p.1 f;refine(aU _ _ _ _).aG c D λv w p r q=>⟨_,rfl,fB ?_ (d.trans q)⟩;rw[p];rw[y]at f⊢;exact⟨λs=>⟨λL=>V,λ_=>⟨t,f,s⟩⟩,λs=>(s.O8 G).2.2⟩
   ·exact bX (λb=>fb p f (y▸(b.O8 G).2.1)) (d.trans c)
def Cu(o:bR m aY a):dq bY 68 [O.v aY] m (dx a):=by
 apply wL;have x:=o.len;refine dit (λr=>?_) λr=>?_
 ·exact bX (λf=>by have:=f.len;omega) (J.aC _)
 ·refine eg (n:=a.length) V (λt u=>J m u/\∀(j:Nat)(d:bO),j<t->a[j]? =some d->Eu a j d) ⟨J.aC _,E⟩ ?_;rintro j A I μ z ⟨b,p⟩ v
  refine dit (λs=>?_) λs=>?_
  ·obtain⟨q,e⟩:=ag (l:=a) (k:=j) V;refine(Ec (bR.ext b o) e).then λw B h g=>⟨_,rfl,λc=>?_,λc=>?_⟩
   ·exact bX (λf=>nb h c (f.dh j q e)) (b.trans g)
   ·refine v V _ ⟨b.trans g,λi d y bz=>?_⟩
    by_cases f:i=j
    ·subst f;rw[e]at bz;simp at bz;subst bz;exact yb h c
    ·exact p i d V bz
  ·exact je ⟨V,λi d bz=>p i d (by have:=ax bz;omega) bz⟩ b
end
section
variable{a:List bO}{k:Nat}{m:I}{aY:O}
def fc:List bO->Nat->Nat
 |_,0=>0
 |[],_=>0
 |d::a,k+1=>d.cons.length+fc a k
def eD(a:List bO):List (List Int):=a.flatMap bO.cons
def NU(k:Nat):fc [] k=0:=by cases k<;>rfl
def qv:∀{a:List bO}{k:Nat}{b:bO},a[k]? =some b->fc a (k+1)=fc a k+b.cons.length
 |[],k,b,h=>by simp at h
 |e::a,0,b,h=>by
  simp at h;subst h;simp only[fc];cases a<;>simp[fc]
 |e::a,k+1,b,h=>by
  have:=qv (a:=a) (k:=k) (b:=b) (by simpa using h);simp only[fc]at this⊢;omega
def mF:∀(a:List bO)(k:Nat),a.length<=k->fc a k=(eD a).length
 |[],k,_=>by rw[NU];rfl
 |d::a,0,h=>by simp at h
 |d::a,k+1,h=>by
  have:=mF a k (by simpa using h);simp only[fc,eD,kU,bg]at this⊢;omega
def OR:∀(a:List bO){b c:Nat},b<=c->fc a b<=fc a c
 |[],b,c,_=>by simp[NU]
 |d::a,0,c,_=>by simp[fc]
 |d::a,b+1,0,h=>V
 |d::a,b+1,c+1,h=>by
  have:=OR a (b:=b) (c:=c) V;simp only[fc];omega
def jY(h:dx a){d:bO}(c:a[k]? =some d):d.cons.length<=3:=by
 rcases jm d.cons.length with b|b
 ·omega
 ·exact((h.dh k d c).gR b).1
def QC{a:List bO}(h:dx a):∀k,fc a k<=3*k
 |0=>by cases a<;>simp[fc]
 |k+1=>by
  have e:=QC h k;rcases aX k a.length with b|b
  ·obtain⟨d,c⟩:=ag b;rw[qv c];have:=jY h c;omega
  ·rw[mF a (k+1) V,<-mF a k b];omega
def qW(h:dx a)(k:Nat):fc a k<=12:=by
 rcases aX k a.length with b|b
 ·have:=QC h k;have:=h.len;omega
 ·rw[mF a k b,<-mF a a.length (ad _)];have:=QC h a.length;have:=h.len;omega
def pv:∀(a:List bO)(i j:Nat)(d:bO),a[i]? =some d->j<d.cons.length->(eD a)[fc a i+j]? =d.cons[j]?
 |[],i,j,d,h,_=>by simp at h
 |e::a,0,j,d,h,b=>by
  simp at h;subst h;simp only[fc,eD,kU,bQ];rw[aw b]
 |e::a,i+1,j,d,h,b=>by
  have:=pv a i j d (by simpa using h) b;simp only[fc,eD,kU]at this⊢;rw[aF V,<-this];congr 1;omega
def ta:∀(a:List bO)(c:Nat),c<(eD a).length->∃i d,a[i]? =some d/\fc a i<=c/\c<fc a i+d.cons.length
 |[],c,h=>by simp[eD]at h
 |e::a,c,h=>by
  rcases aX c e.cons.length with b|b
  ·exact⟨0,e,E,by simp[fc],by simpa[fc]using b⟩
  ·obtain⟨i,d,f,g,j⟩:=ta a (c -e.cons.length) (by simp only[eD,kU,bg]at h⊢;omega);exact⟨i+1,d,by simpa using f,by simp only[fc];omega,by simp only[fc];omega⟩
def jr(e:bR m aY a)(c:dx a)(x:k<=a.length):JI bY 132 [O.v aY,vi k] m (vi (fc a k)):=by
 apply zV;have v:=e.len;have:=c.len;refine dt (n:=k) V (λj g b=>J m b/\g=(fc a j:Nat)) ⟨J.aC _,by cases a<;>rfl⟩ ?_;rintro j g y I μ w ⟨d,rfl⟩ p
 refine dit (λo=>?_) λo=>?_
 ·obtain⟨q,b⟩:=ag (l:=a) (k:=j) V;obtain⟨h,f,r,s,i⟩:=(bR.ext d e).u b;refine⟨V,V,h,by simpa using i,?_⟩;refine p V _ _ ⟨d,?_⟩
  have t:=qW c j;have u:=jY c b;rw[aP V (by have:=f.len;omega),qv b,f.len];rfl
 ·have:j=k:=V;subst this;exact⟨rfl,d⟩
def oO(e:bR m aY a)(c:dx a):JI bY 146 [O.v aY] m (vi (eD a).length):=by
 apply zN;have v:=e.len;have:=c.len;refine dt (n:=a.length) V (λj g b=>J m b/\g=(fc a j:Nat)) ⟨J.aC _,by cases a<;>rfl⟩ ?_;rintro j g x I μ w ⟨d,rfl⟩ p
 refine dit (λo=>?_) λo=>?_
 ·obtain⟨q,b⟩:=ag (l:=a) (k:=j) V;obtain⟨h,f,r,s,i⟩:=(bR.ext d e).u b;refine⟨V,V,h,by simpa using i,?_⟩;refine p V _ _ ⟨d,?_⟩
  have t:=qW c j;have u:=jY c b;rw[aP V (by have:=f.len;omega),qv b,f.len];rfl
 ·refine⟨?_,d⟩;rw[mF a j V]
def UK(a:List bO)(c t:Int):Prop:=
 (∃(i:Nat)(d:bO),t=i+1/\a[i]? =some d/\(fc a i:Int)<=c/\c<fc a i+d.cons.length)\/(t= -1/\¬(0<=c/\c<(eD a).length))
def kO(r:bR m aY a)(o:dx a)(c:Int):aN bY 103 [O.v aY,vi c] m λK s=>∃y,K=vi y/\UK a c y/\J m s:=by
 apply BL;have Q:=r.len;have:=o.len;refine eg (n:=a.length) V (λj s=>J m s/\∀(i:Nat)(d:bO),i<j->a[i]? =some d->¬((fc a i:Int)<=c/\c<fc a i+d.cons.length)) ⟨J.aC _,E⟩ ?_;rintro j T L μ S ⟨b,v⟩ I
 refine dit (λD=>?_) λD=>?_
 ·obtain⟨d,h⟩:=ag (l:=a) (k:=j) V;refine(jr (bR.ext b r) o V).then λU e=>⟨_,rfl,?_⟩;obtain⟨p,G,N,P,C⟩:=(bR.ext (b.trans e) r).u h;refine⟨V,V,p,by simpa using C,?_⟩;have q:=qW o j;have F:=jY o h;have H:=G.len;have B:cO (cO ((fc a j:Int)+(p.len:Int)) -1)=(fc a j:Int)+d.cons.length -1:=by
   rw[aP (x:=(fc a j:Int)+(p.len:Int)) V V,aP V V,H]
  rw[B];refine(aU _ _ _ _).then λM W u t=>⟨_,rfl,λf=>?_,λf=>?_⟩
  ·have f:=u.1 f;refine⟨_,rfl,Or.inl ⟨j,d,?_,h,V,V⟩,(b.trans e).trans t⟩;rw[aP V V]
  ·refine I V _ ⟨(b.trans e).trans t,λi z R g=>?_⟩
   by_cases A:i=j
   ·subst A;rw[h]at g;simp at g;subst g;intro w;exact fb u f ⟨w.1,V⟩
   ·exact v i z V g
 ·refine⟨_,rfl,Or.inr ⟨rfl,λw=>?_⟩,b⟩;obtain⟨i,d,q,e,F⟩:=ta a c.toNat V;exact v i d (by have:=ax q;omega) q ⟨V,V⟩
def bT(a:List bO)(c:Int):List Int:=if 0<=c then((eD a)[c.toNat]?).getD []else[]
def DC(e:bR m aY a)(d:dx a)(c:Int):aN bY 104 [O.v aY,vi c] m λB q=>∃s,B=O.v s/\au q s (bT a c)/\J m q:=by
 apply pD;have L:=e.len;have:=d.len;refine(kO e d c).mono ?_;rintro _ P ⟨R,rfl,n,f⟩;refine⟨_,rfl,dit (λy=>?_) λy=>?_⟩
 ·refine⟨_,rfl,?_,f.aM _⟩;have h:bT a c=[]:=by
   rcases n with⟨i,g,z,_⟩|⟨_,b⟩
   ·omega
   ·unfold bT;split
    ·rw[bZ V];rfl
    ·rfl
  rw[h];exact⟨rfl,ad _,E,E⟩
 ·rcases n with⟨i,g,rfl,b,H,I⟩|⟨z,_⟩
  ·have N:=ax b;obtain⟨v,o,D,F,j⟩:=(bR.ext f e).u b;have r:cO ((i:Int)+1 -1)=i:=by rw[aP V V];omega
   rw[r];refine⟨V,V,v,by simpa using j,?_⟩;refine(jr (bR.ext f e) d V).then λQ h=>⟨_,rfl,h.dk (by simpa using j),?_⟩;have G:=qW d i;have K:=jY d b;have M:=o.len;obtain⟨C,p⟩:=ag (l:=g.cons) (k:=(c -fc a i).toNat) V;obtain⟨w,A,x⟩:=(ns.ext h o).u p;have t:cO (c -(fc a i:Int))=c -fc a i:=aP V V;rw[t];refine⟨V,V,w,x,_,rfl,?_,f.trans h⟩;have u:bT a c=C:=by
    unfold bT;rw[aq V];have:=pv a i (c -fc a i).toNat g b V;rw[show c.toNat=fc a i+(c -fc a i).toNat by omega,this,p];rfl
   rw[u];exact A
  ·omega
def bU(a:List bO)(t:Int):List Int:=
 if 1<=t/\t<=a.length then((a[t.toNat -1]?).map λd=>(List.range d.cons.length).map λi=>((fc a (t.toNat -1)+i:Nat):Int)).getD []else[]
def xQ(g:bR m aY a)(c:dx a)(t:Int):aN bY 106 [O.v aY,vi t] m λP b=>∃s,P=O.v s/\au b s (bU a t)/\J m b:=by
 apply sN;intro w;have Z:=g.len;have:=c.len;have v:J m w:=(J.aC m).aM _;have L:iZ m w aB 1 (.mk m.size 0 0 0) []:=iZ.new (J.aC m) aB 1 [] 0 E;refine(aU _ _ _ _).then λR m2 q f=>⟨_,rfl,λh=>?_,λh=>?_⟩
 ·refine⟨_,rfl,?_,v.trans f⟩;have e:bU a t=[]:=by
   unfold bU;rw[ae (by have:=nb q h;omega)]
  rw[e];exact⟨rfl,ad _,E,E⟩
 ·have h:=yb q h;have y:cO (t -1)=((t.toNat -1:Nat):Int):=by rw[aP V V];omega
  rw[y];obtain⟨e,i⟩:=ag (l:=a) (k:=t.toNat -1) V;have z:bU a t=(List.range e.cons.length).map λo=>((fc a (t.toNat -1)+o:Nat):Int):=by
   unfold bU;rw[aq V,i];rfl
  rw[z];have X:=qW c (t.toNat -1);have Y:=jY c i;refine dt (n:=e.cons.length) V (λj s b=>J m b/\iZ m b aB 1 s (((List.range j).map λo=>((fc a (t.toNat -1)+o:Nat):Int)).map Ce.i)/\s.len=j) ⟨v.trans f,by simpa using L.ext f,rfl⟩ ?_;rintro j s m3 Q μ hj ⟨d,r,u⟩ N
  obtain⟨B,I,S,T,C⟩:=(bR.ext d g).u i;have aa:=I.len;refine⟨V,V,B,by simpa using C,dit (λD=>?_) λD=>?_⟩
  ·refine(jr (bR.ext d g) c V).then λM p=>⟨_,rfl,?_⟩;intro x;have A:cO (((fc a (t.toNat -1):Nat):Int)+(j:Int))=((fc a (t.toNat -1)+j:Nat):Int):=by rw[aP V V];omega
   have K:x=M.push (.cells (br [.i (((fc a (t.toNat -1)+j:Nat):Int))]) aB):=by rw[<-A]
   clear_value x;subst K;refine iZ.append (zs:=[.i 0]) (c:=[.i ((fc a (t.toNat -1)+j:Nat):Int)]) ((r.ext p).ext (J.push _ _)) ((d.trans p).aM _) rfl (cD.push _ _ _).jA (by simp[u];omega) ?_;intro ab b F G H U W _;refine N V _ _ ⟨G,?_,by simp[H,u]⟩
   rw[PW,eQ,eQ];exact F
  ·have:j=e.cons.length:=V;subst this;exact⟨_,rfl,au.iC r bF,d⟩
end
section
variable{S:List Nat}{m e:I}{s g a b:O}{l d j:List Int}{k f:Nat}{x:Int}{h:List Value}{Q:List Int->Prop}{K:Value->I->Prop}
def _root_.Go.Vc.au.cy{X:List Nat}(h:au (bz S m) s l)(c:Fz X m e)(a:∀b∈X,b∈S)(d:l[k]? =some x):D e s.F (s.off+k*1)=some (vi x):=
 (dN.1 ((h.le (c.cK a)).u d)).2
def _root_.Go.Vc.au.JN(h:au (bz S m) s l)(a:J m e)(b:l[k]? =some x):D e s.F (s.off+k*1)=some (vi x):=
 h.cy (a.fz []) E b
def CI(f:Nat)(h:List Value)(m:I)(S:List Nat)(Q:List Int->Prop):Prop:=aN bY f h m λv a=>∃s l,v=O.v s/\au (bz S a) s l/\Q l/\J m a
def jS(f:Nat)(h:List Value)(m:I)(S:List Nat)(Q:List Int->Prop):Prop:=aN bY f h m λv a=>∃s l,v=O.v s/\Gr S m a aB 1 rW s l/\Q l/\J m a
def qM(f:Nat)(h:List Value)(m:I)(Q:Int->Prop):Prop:=aN bY f h m λv a=>∃n:Int,v=vi n/\Q n/\J m a
abbrev GI(S:List Nat)(a m:I)(s:O)(l:List Int):Prop:=Gr S a m aB 1 rW s l
def GI.nil(S:List Nat)(m:I):GI S m (m.push (.cells (br []) aB)) (.mk m.size 0 0 0) []:=Gr.new S (ad _) aB 1 rW
def GI.jN{S X:List Nat}{d m:I}{s:O}{l:List Int}{a:Int}{K:O->I->Prop}(h:GI S d m s l)(e:Fz X d m)(g:∀b∈S,b<d.size)(i:l.length<=1000000000000)
 (f:∀r c,GI S d c r (l++[a])->Fz X d c->(m.size<=c.size/\(r.F=s.F\/m.size<=r.F))->(∀b,b<m.size->b≠s.F->c[b]? =m[b]?)->K r c):iP (m.push (.cells (br [.i a]) aB)) aB [.i 0] 8 s (.mk m.size 0 1 1) K:=
 Gr.jN (f:=[.i 0]) rW.mono bd h e rfl V f
def GI.done{S:List Nat}{a m:I}{s:O}{l:List Int}(h:GI S a m s l)(c:∀b∈S,b<a.size)(d:l.length<=1000000000000):au (bz S m) s l:=Gr.done rW.mono h c bd V
def GI.all{S X:List Nat}{c m:I}{s x:O}{l d:List Int}{K:O->I->Prop}(h:GI S c m s l)(e:Fz X c m)(i:∀b∈S,b<c.size)(g:au (bz (s.F::S) m) x d)(j:l.length+d.length<=1000000000000)
 (f:∀r a,GI S c a r (l++d)->Fz X c a->(m.size<=a.size/\(r.F=s.F\/m.size<=r.F))->(∀b,b<m.size->b≠s.F->a[b]? =m[b]?)->K r a):iP m aB [.i 0] 8 s x K:=
 Gr.all (f:=[.i 0]) rW.mono bd h e g V f
def GI.iv{b a:I}(h:GI S b m s l)(g:a[s.F]? =m[s.F]?):GI S b a s l:=by
 obtain⟨d,c,e,f⟩:=h;exact⟨d,c,e.congr g,f.mono λ_ _ h=>h⟩
def GI.ext{S:List Nat}{b m a:I}{s:O}{l:List Int}(h:GI S b m s l)(c:J m a):GI S b a s l:=Gr.ext rW.mono h c
def _root_.Go.Vc.Gr.cF{α:Type}{S d:List Nat}{g e m:I}{f c:Nat}{R:I->List Ce->α->Prop}{s:O}{l:List α}(o:mD c R)(i:Gr d e m f c R s l)(p:∀b∈S,b∈d\/m.size<=b)(q:g.size<=e.size):Gr S g m f c R s l:=by
 obtain⟨j,h,k,n⟩:=i;refine⟨j,h,k.cF q,n.mono λr x=>o.le ((J.aC m).bz λb a=>?_)⟩;rcases List.mem_cons.1 a with a|a
 ·exact Or.inl (by rw[a];exact aS)
 ·exact(p b a).imp (ah _) id
def GI.cF{S a:List Nat}{c e m:I}{s:O}{l:List Int}(h:GI a e m s l)(d:∀b∈S,b∈a)(g:c.size<=e.size):GI S c m s l:=Gr.cF rW.mono h (λb f=>Or.inl (d b f)) g
def jS.then(b:jS f h m S Q)(i:∀s l a,GI S m a s l->Q l->J m a->K (O.v s) a):aN bY f h m K:=
 b.mono λ_ a⟨s,l,e,c,d,g⟩=>e▸i s l a c d g
def CI.then(b:CI f h m S Q)(i:∀s l a,au (bz S a) s l->Q l->J m a->K (O.v s) a):aN bY f h m K:=
 b.mono λ_ a⟨s,l,e,c,d,g⟩=>e▸i s l a c d g
def qM.then{Q:Int->Prop}(b:qM f h m Q)(g:∀n a,Q n->J m a->K (vi n) a):aN bY f h m K:=
 b.mono λ_ a⟨n,e,c,d⟩=>e▸g n a c d
def qX{b:Nat}(h:J m e)(a:m.size<=b):Le (bz S m) (bz (b::S) e):=h.bz λd c=>by
 rcases List.mem_cons.1 c with h|h
 ·exact Or.inr (by rw[h];exact a)
 ·exact Or.inl h
def kP(d:∀b∈S,b<m.size)(i:au (bz S m) g l)(h:l.length<=1000000000000):jS 72 [O.v g] m S (l=·):=by
 apply lX;intro e;have a:J m e:=J.push m _;exact GI.all (l:=[]) (X:=[]) (GI.nil S m) (a.fz []) d (i.le (qX a (ad _))) (by simpa using h) λr j c f _ _=>⟨r,l,rfl,by simpa using c,rfl,f.ext⟩
def nA(l d:List Int):Prop:=(∀x∈d,x∈l)/\d.length<=l.length
def na(h:∀x∈d,x∈l)(b:x∈l):∀y∈d++[x],y∈l:=by
 intro y a;rcases List.mem_append.1 a with a|a
 ·exact h y a
 ·simp at a;subst a;exact b
def yU(t:∀b∈S,b<m.size)(c:au (bz S m) g l)(v:Int)(w:l.length<=1000000000000):jS 226 [O.v g,vi v] m S (nA l):=by
 apply Cw;intro e;have u:=c.len;refine dt (n:=l.length) (u▸c.gA) (λk s a=>J m a/\∃d,GI S m a s d/\(∀x∈d,x∈l)/\d.length<=k) ⟨J.push m _,[],GI.nil S m,E,ad _⟩ ?_;rintro k s A I μ z ⟨a,d,h,i,y⟩ o
 refine dit (λq=>?_) λq=>?_
 ·obtain⟨x,j⟩:=ag (l:=l) (k:=k) V;refine⟨V,V,x,c.JN a j,λr=>⟨V,V,x,c.JN a j,?_⟩,λr=>o V _ _ ⟨a,d,h,i,V⟩⟩;intro B;exact GI.jN h (a.fz []) t V λD C p f _ _=>o V _ _ ⟨f.ext,_,p,na i (ar j),bF⟩
 ·exact⟨s,d,rfl,h,⟨i,V⟩,a⟩
def LQ(t:∀b∈S,b<m.size)(c:au (bz S m) g l)(v:Int)(w:l.length<=1000000000000):jS 267 [O.v g,vi v] m S (nA l):=by
 apply Fa;intro e;have u:=c.len;refine dt (n:=l.length) (u▸c.gA) (λk s a=>J m a/\∃d,GI S m a s d/\(∀x∈d,x∈l)/\d.length<=k) ⟨J.push m _,[],GI.nil S m,E,ad _⟩ ?_;rintro k s A I μ z ⟨a,d,h,i,y⟩ o
 refine dit (λq=>?_) λq=>?_
 ·obtain⟨x,j⟩:=ag (l:=l) (k:=k) V;refine⟨V,V,x,c.JN a j,λr=>⟨V,V,x,c.JN a j,?_⟩,λr=>o V _ _ ⟨a,d,h,i,V⟩⟩;intro B;exact GI.jN h (a.fz []) t V λD C p f _ _=>o V _ _ ⟨f.ext,_,p,na i (ar j),bF⟩
 ·exact⟨s,d,rfl,h,⟨i,V⟩,a⟩
def J2(v:∀b∈S,b<m.size)(h:au (bz S m) a l)(w:au (bz S m) b j)(B:l.length<=1000000000000):jS 253 [O.v a,O.v b] m S (nA l):=by
 apply DB;intro e;have y:=h.len;refine dt (n:=l.length) (y▸h.gA) (λk s c=>J m c/\∃d,GI S m c s d/\(∀x∈d,x∈l)/\d.length<=k) ⟨J.push m _,[],GI.nil S m,E,ad _⟩ ?_;rintro k s F I μ D ⟨c,d,i,o,C⟩ q
 refine dit (λt=>?_) λt=>?_
 ·obtain⟨x,p⟩:=ag (l:=l) (k:=k) V;refine⟨V,V,x,h.JN c p,?_⟩;refine(cU ((w.le (bo _ _)).ext c) x).then λA G _ g=>⟨_,rfl,λu=>⟨V,V,x,h.JN (c.trans g) p,?_⟩,λu=>q V _ _ ⟨c.trans g,d,i.ext g,o,V⟩⟩;intro z;exact GI.jN (i.ext g) ((c.trans g).fz []) v V λH z r f _ _=>q V _ _ ⟨f.ext,_,r,na o (ar p),bF⟩
 ·exact⟨s,d,rfl,i,⟨o,V⟩,c⟩
def _root_.Go.Vc.tc{σ τ:Type}{n:Nat}(q:n<=9223372036854775807){h:σ}{j:τ}{g:(σ->τ->Int->I->Prop)->(σ->τ->Int->I->Nat)->σ->τ->Int->I->Prop}(Q:Nat->σ->τ->I->Prop)(o:Q 0 h j m)
 (l:∀(k:Nat)(s:σ)(t:τ)(e:I)(a:σ->τ->Int->I->Prop)(μ:σ->τ->Int->I->Nat),k<=n->Q k s t e->
  (k<n->∀c d b,Q (k+1) c d b->a c d (cO ((k:Int)+1)) b/\μ c d (cO ((k:Int)+1)) b<μ s t k e)->g a μ s t k e):
 ∃(a:σ->τ->Int->I->Prop)(μ:σ->τ->Int->I->Nat),a h j 0 m/\∀s t i e,a s t i e->g a μ s t i e:=by
 refine⟨λs t i b=>∃k:Nat,i=k/\k<=n/\Q k s t b,λ_ _ i _=>(n -i).toNat,⟨0,rfl,dZ _,o⟩,?_⟩
 rintro s t i e ⟨k,rfl,p,r⟩
 refine l k s t e _ _ p r λf c d b u=>?_
 rw[jM f q]
 exact⟨⟨k+1,rfl,f,u⟩,AK f⟩
def TQ(l:List Int)(n:Int)(d:List Int):Prop:=(∀x∈d,x∈l\/x=n)/\d.length<=l.length+1
def zi{n:Int}(h:∀x∈d,x∈l\/x=n)(b:x∈l\/x=n):∀y∈d++[x],y∈l\/y=n:=by
 intro y a;rcases List.mem_append.1 a with a|a
 ·exact h y a
 ·simp at a;subst a;exact b
def kX(q:∀b∈S,b<m.size)(z:au (bz S m) g l)(v:Int)(R:l.length<1000000000000):jS 207 [O.v g,vi v] m S (TQ l v):=by
 apply DL;intro e;have P:=z.len;refine tc (n:=l.length) (P▸z.gA) (λk s h c=>J m c/\∃d,GI S m c s d/\(∀x∈d,x∈l\/x=v)/\d.length<=k+(if h=true then 1 else 0)) ⟨J.push m _,[],GI.nil S m,E,ad _⟩ ?_;rintro k s h B L μ U ⟨a,d,t,u,y⟩ K
 have T:d.length<=k+1:=by split at y<;>omega
 refine dit (λw=>?_) λw=>?_
 ·obtain⟨x,C⟩:=ag (l:=l) (k:=k) V;have G:∀{c:I},J m c->D c g.F (g.off+k*1)=some (vi x):=λw=>z.JN w C;have F:x∈l\/x=v:=Or.inl (ar C);have A:∀p:Bool,(d++[x]).length<=k+1+(if p=true then 1 else 0)->iP (B.push (.cells (br [.i x]) aB)) aB [.i 0] 8 s (.mk B.size 0 1 1) λr c=>L r p (cO ((k:Int)+1)) c/\μ r p (cO ((k:Int)+1)) c<μ s h k B:=λp o=>
   GI.jN t (a.fz []) q V λr H i f _ _=>K V _ _ _ ⟨f.ext,_,i,zi u F,o⟩
  refine⟨λj=>⟨V,V,x,G a,λM=>⟨V,V,x,G a,λN=>?_,λN=>⟨V,V,x,G a,A true bF⟩⟩,λM=>⟨V,V,x,G a,A h ?_⟩⟩,λj=>⟨V,V,x,G a,A h ?_⟩⟩
  ·have o:h=false:=by simpa using j
   subst o;simp at y;intro Q;refine GI.jN t (a.fz []) q V λr H i f _ _=>⟨V,V,x,G f.ext,?_⟩;intro W;exact GI.jN i f q bF λr X i f _ _=>K V _ _ _ ⟨f.ext,_,i,zi (zi u (Or.inr rfl)) F,bF⟩
  ·simp only[bg,ba,eG];omega
  ·simp only[bg,ba,eG];omega
 ·refine⟨λj=>?_,λj=>⟨s,d,rfl,t,⟨u,V⟩,a⟩⟩;have o:h=false:=by simpa using j
  subst o;simp at y;intro Q;exact GI.jN t (a.fz []) q V λr H i f _ _=>⟨r,_,rfl,i,⟨zi u (Or.inr rfl),bF⟩,f.ext⟩
def qe(z:∀b∈S,b<m.size)(j:au (bz S m) g l)(C:Int)(D:l.length<=1000000000000):jS 203 [O.v g,vi C] m S (nA l):=by
 apply ux;intro e;have B:=j.len;refine tc (n:=l.length) (B▸j.gA) (λk s _ a=>J m a/\∃d,GI S m a s d/\(∀x∈d,x∈l)/\d.length<=k) ⟨J.push m _,[],GI.nil S m,E,ad _⟩ ?_;rintro k s h p I μ H ⟨c,d,i,o,F⟩ t
 refine dit (λv=>?_) λv=>?_
 ·obtain⟨x,q⟩:=ag (l:=l) (k:=k) V;have G:=j.JN c q;have A:iP (p.push (.cells (br [.i x]) aB)) aB [.i 0] 8 s (.mk p.size 0 1 1) λr a=>I r h (cO ((k:Int)+1)) a/\μ r h (cO ((k:Int)+1)) a<μ s h k p:=
   GI.jN i (c.fz []) z V λr K u f _ _=>t V _ _ _ ⟨f.ext,_,u,na o (ar q),bF⟩
  exact⟨V,V,x,G,λw=>⟨λy=>t V _ _ _ ⟨c,d,i,o,V⟩,λy=>⟨V,V,x,G,A⟩⟩,λw=>⟨V,V,x,G,A⟩⟩
 ·exact⟨s,d,rfl,i,⟨o,V⟩,c⟩
def LY(f:∀b∈S,b<m.size)(w:au (bz S m) a l)(g:au (bz S m) b j)(i:l.length+j.length<=1000000000000):jS 221 [O.v a,O.v b] m S (λd=>(∀x∈d,x∈l\/x∈j)/\d.length<=l.length+j.length):=by
 apply FR;refine(kP f w V).then λM _ e v t D=>⟨_,rfl,?_⟩;subst t;have z:=g.len;refine dt (n:=j.length) (z▸g.gA) (λk s c=>J m c/\∃d,GI S m c s d/\(∀x∈d,x∈l\/x∈j)/\d.length<=l.length+k) ⟨D,_,v,λx c=>Or.inl c,ad _⟩ ?_;rintro k s H I μ G ⟨c,d,o,p,F⟩ C
 refine dit (λh=>?_) λh=>?_
 ·obtain⟨x,q⟩:=ag (l:=j) (k:=k) V;refine⟨V,V,x,g.JN c q,?_⟩;refine(kX (λb i=>aK (f b i) c.size) (o.done f V) x V).then λL B K u r E=>⟨_,rfl,C V _ _ ⟨c.trans E,B,u.cF (λ_ h=>h) c.size,λy A=>?_,by have:=r.2;omega⟩⟩;rcases r.1 y A with h|h
  ·exact p y h
  ·subst h;exact Or.inr (ar q)
 ·exact⟨s,d,rfl,o,⟨p,V⟩,c⟩
def ry(a:Int)(m:I):dq bY 240 [vi a] m (14<=a/\a<=17):=by
 apply wo;exact(aU _ _ _ _).then λb e d c=>⟨_,rfl,fB d c⟩
def dK(d:∀b∈S,b<m.size){fx:O}{a:List Int}(n:au (bz S m) g l)(o:au (bz S m) fx a)(k:l.length+a.length<=1000000000000):jS 116 [O.v g,O.v fx] m S (l++a=·):=by
 apply sQ;refine(kP d n V).then λq _ e c i h=>⟨_,rfl,?_⟩;subst i;exact GI.all c (h.fz []) d (o.le (qX h c.aZ.1)) k λr p j f _ _=>⟨r,_,rfl,j,rfl,f.ext⟩
def pS(u:∀b∈S,b<m.size)(j:au (bz S m) g l)(a:Nat)(z:a+l.length<=1000000000000):jS 117 [O.v g,vi a] m S (λd=>(∀x∈d,(a:Int)<=x/\x<a+l.length)/\d.length<=l.length):=by
 apply zY;intro e;have v:=j.len;refine dt (n:=l.length) (v▸j.gA) (λk s c=>J m c/\∃d,GI S m c s d/\(∀x∈d,(a:Int)<=x/\x<a+l.length)/\d.length<=k) ⟨J.push m _,[],GI.nil S m,E,ad _⟩ ?_;rintro k s C I μ B ⟨h,d,i,o,A⟩ p
 refine dit (λr=>?_) λr=>?_
 ·obtain⟨x,w⟩:=ag (l:=l) (k:=k) V;refine⟨V,V,x,j.JN h w,λt=>?_,λt=>p V _ _ ⟨h,d,i,o,V⟩⟩;rw[aP (x:=(a:Int)+k) V V];intro D;refine GI.jN i (h.fz []) u V λG F q f _ _=>p V _ _ ⟨f.ext,_,q,?_,bF⟩
  intro y c;rcases List.mem_append.1 c with c|c
  ·exact o y c
  ·simp at c;omega
 ·exact⟨s,d,rfl,i,⟨o,V⟩,h⟩
def kG(p:∀b∈S,b<m.size)(a c:Nat)(r:a+c<=1000000000000):jS 88 [vi a,vi c] m S (λd=>(∀x∈d,(a:Int)<=x/\x<a+c)/\d.length=c):=by
 apply vh;intro e;refine dt (n:=c) V (λk s g=>J m g/\∃d,GI S m g s d/\(∀x∈d,(a:Int)<=x/\x<a+c)/\d.length=k) ⟨J.push m _,[],GI.nil S m,E,rfl⟩ ?_;rintro k s v I μ u ⟨j,d,h,i,t⟩ q
 refine dit (λo=>?_) λo=>?_
 ·rw[aP (x:=(a:Int)+k) V V];intro w;refine GI.jN h (j.fz []) p V λA z l f _ _=>q V _ _ ⟨f.ext,_,l,?_,bF⟩
  intro y g;rcases List.mem_append.1 g with g|g
  ·exact i y g
  ·simp at g;omega
 ·exact⟨s,d,rfl,h,⟨i,V⟩,j⟩
def EI(l:List Int):(l.map λx=>[Ce.i x]).flatten=l.map Ce.i:=by induction l<;>simp_all
def GI.set{S X:List Nat}{h m:I}{s:O}{l:List Int}(p:GI S h m s l)(L:Fz X h m){k:Nat}(z:k<l.length)(n:Int):
 fu m s.F (s.off+k*1) 1/\GI S h (aj m s.F (s.off+k*1) [.i n]) s (l.set k n)/\Fz X h (aj m s.F (s.off+k*1) [.i n])/\(∀b,b≠s.F->(aj m s.F (s.off+k*1) [.i n])[b]? =m[b]?):=by
 have Q:=p.aZ
 have R:=p.len bd
 obtain⟨t,f,G,e⟩:=p
 have P:∀b,b≠s.F->(aj m s.F (s.off+k*1) [.i n])[b]? =m[b]? :=λb K=>bn _ _ _ _ K
 obtain⟨b,B,tail,j,C,q,D,F⟩:=G.u.resolve_left t
 have M:f.flatten.length=l.length:=by rw[cX e.size,e.len];omega
 have N:f.flatten=l.map Ce.i:=by
  apply fK;intro d;rcases aX d l.length with a|a
  ·obtain⟨x,g⟩:=ag a;obtain⟨cs,v⟩:=ag (l:=f) (k:=d) (by rw[e.len];exact a);have w:cs=[.i x]:=e.dh d cs x v g;have u:=gZ (a:=1) e.size v (i:=0) (e:=.i x) (by rw[w];rfl);simp only[dP,iJ]at u;rw[u];simp[g]
  ·rw[bZ V,bZ (by simpa using a)]
 have A:s.off+k*1=k:=by rw[j];simp
 have u:s.F=b:=by rw[j];rfl
 refine⟨?_,⟨t,(l.set k n).map λx=>[.i x],⟨?_,Or.inr ⟨b,B,tail,j,C,?_,?_,F⟩⟩,⟨by rw[eP],λcs v=>?_,λT cs x y g=>?_⟩⟩,L.aj (Or.inr Q.1) _ _,P⟩
 ·rw[A,u]
  exact q.fu (by simp only[bg,ba,eG];omega)
 ·rw[EI,eP,gX];omega
 ·have H:=cD.aj (m:=m) (b:=b) (r:=[.i n]) (o:=k) q
  rw[A,u,EI]
  have J:iD (f.flatten++tail) k [.i n]=(l.set k n).map Ce.i++tail:=by
   apply fK;intro d;rw[tW,N];by_cases w:d=k
   ·subst w;rw[aq ⟨ad _,E,bF⟩,aw (by simpa using z)];simp[z]
   ·rw[ae bF];rcases aX d l.length with a|a
    ·rw[aw (by simpa using a),aw (by simpa using a)];simp only[bW,dO (km w)]
    ·rw[aF (by simpa using a),aF (by simpa using a)];simp
  rw[<-J];exact H
 ·rw[<-D,EI]
  simp only[bg,M,eP,gX]
 ·simp only[Un]at v
  obtain⟨x,_,rfl⟩:=v
  rfl
 ·simp only[bW,g,mq,NA]at y
  exact y.symm
def sV(j:∀b∈S,b<m.size)(p:au (bz S m) g l)(o:l.length<=1000000000000){a:Nat}(k:a<l.length)(n:Int):jS 155 [O.v g,vi a,vi n] m S (l.set a n=·):=by
 apply wN;refine(kP j p o).then λs _ e d c q=>⟨_,rfl,V,?_,?_⟩
 ·subst c;have:=d.len bd;omega
 subst c;obtain⟨f,h,i,_⟩:=d.set (q.fz []) k n;exact⟨f,s,_,rfl,h,rfl,i.ext⟩
end
end Go.Proofs.YtakpkjhmbbfniaaGreat
section
namespace Go.Vc
variable{l:List cg}{k e a:Nat}{x s:cg}{d:List bO}{c:Prop}
open Go.Proofs.YtakpkjhmbbfniaaGreat
def Bk.ind{Q:Bk->Prop}(h:∀aA r,(∀s∈aA,∀b∈s.bt,Q b)->Q (.mk aA r)):∀b,Q b
 | .mk aA r=>h aA r λs _ b _=>Bk.ind h b
termination_by b=>SizeOf.sizeOf b
decreasing_by
 rename_i a c
 have d:=mS a
 have e:=mS c
 have f:SizeOf.sizeOf s.bt<SizeOf.sizeOf s:=by cases s;simp;omega
 simp;omega
def Ex.ind{Q:Ex->Prop}(h:∀a bJ bt,(∀e∈bt,Q e)->Q (.mk a bJ bt)):∀e,Q e
 | .mk a bJ bt=>h a bJ bt λe _=>Ex.ind h e
termination_by e=>SizeOf.sizeOf e
decreasing_by
 rename_i a
 have b:=mS a
 simp;omega
def sw(l:List cg):Nat:=(l.map JJ.w).sum
def bw(l:List Bk):Nat:=(l.map Bk.w).sum
def en(l:List Ex):Nat:=(l.map Ex.n).sum
@[simp] theorem tw:sw []=0:=rfl
@[simp] theorem xe:bw []=0:=rfl
@[simp] theorem TX:en []=0:=rfl
def ly(x:cg)(l:List cg):sw (x::l)=x.w+sw l:=by simp[sw]
def sH(x:Bk)(l:List Bk):bw (x::l)=x.w+bw l:=by simp[bw]
def Lt(x:Ex)(l:List Ex):en (x::l)=x.n+en l:=by simp[en]
def db(a b:List cg):sw (a++b)=sw a+sw b:=by simp[sw]
def mX(a b:List Bk):bw (a++b)=bw a+bw b:=by simp[bw]
def Kz(a b:List Ex):en (a++b)=en a+en b:=by simp[en]
def Bk.oU(s:List cg)(r:Int):(Bk.mk s r).w=1+sw s:=Bk.VX _
def Bk.kT(b:Bk):b.w=1+sw b.aA:=Bk.VX b
def cg.kT(s:cg):s.w=1+s.args.length+bw s.bt:=rfl
def Ex.PI(o n:Int)(k:List Ex):(Ex.mk o n k).n=1+en k:=by rw[Ex.n];rfl
def Ex.Vm(e:Ex):e.n=1+en e.bt:=by cases e;exact Ex.PI _ _ _
def nY(h:l[k]? =some x):sw (l.take (k+1))=sw (l.take k)+x.w:=by rw[bK h,db,ly,tw];rfl
def sI{l:List Bk}{x:Bk}(h:l[k]? =some x):bw (l.take (k+1))=bw (l.take k)+x.w:=by rw[bK h,mX,sH,xe];rfl
def HH{l:List Ex}{x:Ex}(h:l[k]? =some x):en (l.take (k+1))=en (l.take k)+x.n:=by rw[bK h,Kz,Lt,TX];rfl
def yV(l:List cg)(k:Nat):sw (l.take k)<=sw l:=by
 have:=db (l.take k) (l.drop k);rw[df]at this;omega
def H9(l:List Bk)(k:Nat):bw (l.take k)<=bw l:=by
 have:=mX (l.take k) (l.drop k);rw[df]at this;omega
def OQ(l:List Ex)(k:Nat):en (l.take k)<=en l:=by
 have:=Kz (l.take k) (l.drop k);rw[df]at this;omega
def Ma(h:l[k]? =some x):x.w<=sw l:=by
 have:=nY h;have:=yV l (k+1);omega
def uE{l:List Bk}{x:Bk}(h:l[k]? =some x):x.w<=bw l:=by
 have:=sI h;have:=H9 l (k+1);omega
def eY:∀l:List cg,l.length<=sw l
 |[]=>E
 |x::l=>by have:=eY l;rw[ly,ba,cg.kT];omega
def Bk.Eo(b:Bk):1<=b.w:=by rw[Bk.kT];omega
def oF:∀l:List Bk,l.length<=bw l
 |[]=>E
 |x::l=>by have:=oF l;have:=x.Eo;rw[sH,ba];omega
def NQ:∀l:List Ex,l.length<=en l
 |[]=>E
 |x::l=>by have:=NQ l;rw[Lt,ba,Ex.Vm];omega
def nt(a:Int):Prop:=0<=a/\a<=11
instance(a:Int):Decidable (nt a):=inferInstanceAs (Decidable (_/\_))
def dn(s:cg):Nat:=if nt s.op then 1 else 0
def dc(l:List cg):Nat:=(l.map dn).sum
@[simp] theorem qU:dc []=0:=rfl
def jG(x:cg)(l:List cg):dc (x::l)=dn x+dc l:=by simp[dc]
def cp(a b:List cg):dc (a++b)=dc a+dc b:=by simp[dc]
def oX(h:l[k]? =some x):dc (l.take (k+1))=dc (l.take k)+dn x:=by rw[bK h,cp,jG,qU];rfl
def Qo(l:List cg)(k:Nat):dc (l.take k)<=dc l:=by
 have:=cp (l.take k) (l.drop k);rw[df]at this;omega
def UZ(x:cg):dn x<=1:=by unfold dn;split<;>omega
def qT:∀l:List cg,dc l<=l.length
 |[]=>E
 |x::l=>by have:=qT l;have:=UZ x;rw[jG,ba];omega
def y9(d:List bO)(a bJ:Int)(i:Nat):Nat:=if a=8 then(bT d (((bU d bJ)[i]?).getD 0)).length else 0
structure Rr(d:List bO)(e:Nat)(c:Prop)(a:Nat)(s:cg):Prop where
 op:nt s.op\/c/\14<=s.op/\s.op<=17
 args:∀x∈s.args,0<=x/\x<(a:Int)
 kv:14<=s.op\/s.op=7\/s.op=8->s.args.length=1
 bV:0<=s.bV/\s.bV<=(a:Int)
 HB:s.op=7->s.bt.length=2
 all:s.op=8->s.bt.length=(bU d s.bJ).length/\0<s.bt.length
 call:s.op=9->0<=s.bJ/\s.bJ<(e:Int)
inductive WB(d:List bO)(e:Nat)(c:Prop):Nat->Bk->Prop
 |mk {a:Nat} {aA:List cg} {r:Int} (dX:∀(i:Nat)(s:cg),aA[i]? =some s->Rr d e c (a+dc (aA.take i)) s)
  (bt:∀(i:Nat)(s:cg)(k:Nat)(b:Bk),aA[i]? =some s->s.bt[k]? =some b->WB d e c (a+dc (aA.take i)+y9 d s.op s.bJ k) b)
  (res:0<=r/\r<((a+dc aA:Nat):Int)):WB d e c a (.mk aA r)
structure WS(d:List bO)(e:Nat)(c:Prop)(a:Nat)(s:cg):Prop where
 dX:Rr d e c a s
 bt:∀(k:Nat)(b:Bk),s.bt[k]? =some b->WB d e c (a+y9 d s.op s.bJ k) b
def WL(d:List bO)(e:Nat)(c:Prop)(a:Nat)(l:List cg):Prop:=∀(i:Nat)(s:cg),l[i]? =some s->WS d e c (a+dc (l.take i)) s
def WB.bq{b:Bk}(h:WB d e c a b):WL d e c a b.aA/\0<=b.aR/\b.aR<((a+dc b.aA:Nat):Int):=by
 cases h with
 |mk dX bt j=>exact⟨λi s f=>⟨dX i s f,λk b g=>bt i s k b f g⟩,j⟩
def WB.of{aA:List cg}{r:Int}(h:WL d e c a aA)(j:0<=r/\r<((a+dc aA:Nat):Int)):WB d e c a (.mk aA r):=
 .mk (λi s b=>(h i s b).dX) (λi s k f b g=>(h i s b).bt k f g) j
def WL.nil(d:List bO)(e:Nat)(c:Prop)(a:Nat):WL d e c a []:=λi s h=>by simp at h
def WL.append{g:List cg}(h:WL d e c a l)(j:WL d e c (a+dc l) g):WL d e c a (l++g):=λi s f=>by
 rcases aX i l.length with b|b
 ·rw[aw b]at f;rw[lU V];exact h i s f
 ·rw[aF b]at f;have:=j _ s f;rw[Yz,dD b,cp,<-dE];exact this
def WL.kv(h:WS d e c a s):WL d e c a [s]:=λi x b=>by
 have:i=0:=by have:=ax b;simp at this;omega
 subst this;simp at b;subst b;simpa using h
def WL.xH(h:WL d e c a l)(b:WS d e c (a+dc l) s):WL d e c a (l++[s]):=h.append (.kv b)
def WL.take(h:WL d e c a l)(k:Nat):WL d e c a (l.take k):=λi s b=>by
 rw[lZ]at b;split at b
 ·rw[JG,iO V];exact h i s b
 ·simp at b
def WL.drop(h:WL d e c a l)(k:Nat):WL d e c (a+dc (l.take k)) (l.drop k):=λi s b=>by
 rw[pZ]at b;have:=h _ s b;rw[List.take_add,cp,<-dE]at this;exact this
end Go.Vc
end
namespace Go.Proofs.YtakpkjhmbbfniaaGreat
open Go.Vc
section
variable{m:I}{d p:O}{b:cL}
def tF(b:cL)(bJ:Int)(n:Nat):Prop:=∃q:cY,0<=bJ/\b.cB[bJ.toNat]? =some q/\q.params.length=n
def Rc:cO 9223372036854775808= -9223372036854775808:=bd
def ur(h:eX m d p b)(bJ:Int)(n fx:Nat)(N:n<=9223372036854775807)(M:fx<=1):
 dq bY 105 [.agg #[O.v d,O.v p],vi bJ,vi n,vi fx] m (tF b bJ (n+fx)):=by
 apply Al
 simp -zeta only[aE,aD]
 intro j
 have i:J m j:=(J.aC m).aM _
 have y:∀o∈[m.size],o<j.size:=by simp[j]
 have P:=h.cB.len
 have Q:=h.cB.gA
 refine(aU _ _ _ _).aG (J.aC _) y λo R r f F=>⟨_,rfl,λa=>?_,λa=>?_⟩
 ·have a:=r.1 a
  rw[aP V V]at a
  obtain⟨s,g⟩:=ag (l:=b.cB) (k:=bJ.toNat) V
  obtain⟨e,z,A,q,H,I,u,B,C,D,E⟩:=(fW.ext (i.trans f) h.cB).u g
  refine⟨V,V,e,u,fB ?_ (i.trans f)⟩
  have w:=q.len
  have G:=q.gA
  simp only[aL]
  have t:(e.len:Int)=cO ((n:Int)+(fx:Int))<->e.len=n+fx:=by
   rcases aX (n+fx) 9223372036854775808 with L|K
   ·rw[aP V V];omega
   ·have c:(n:Int)+(fx:Int)=9223372036854775808:=V;rw[c,Rc];omega
  rw[t,w]
  exact⟨λx=>⟨s,a.1,g,x⟩,λ⟨S,_,c,v⟩=>by rw[g]at c;simp at c;rw[c];exact v⟩
 ·refine bX (λ⟨s,e,c,_⟩=>fb r a ?_) (i.trans f)
  have:=ax c
  rw[aP V V]
  omega
def lD(b:cL)(p:cY)(k:Nat)(i:Instr):Prop:=
 if i.op=0 then i.args.length=0/\-999<=i.bJ/\i.bJ<=999
 else if i.op=1\/i.op=2\/i.op=3\/i.op=4\/i.op=11 then i.args.length=2/\i.bJ=0
 else if i.op=5\/i.op=14\/i.op=15\/i.op=18\/i.op=23 then i.args.length=1/\i.bJ=0
 else if i.op=6 then(0<=i.bJ/\i.bJ<(eD b.aY).length)/\i.args.length=(bT b.aY i.bJ).length/\0<=i.bV/\i.bV<=p.av
 else if i.op=9\/i.op=24 then tF b i.bJ i.args.length
 else if i.op=10 then tF b i.bJ (i.args.length+1)/\∀q,b.cB[i.bJ.toNat]? =some q->q.cV.length=0
 else if i.op=16\/i.op=17 then(1<=i.args.length/\i.args.length<=4)/\i.bJ=0
 else if i.op=19 then i.args.length=1/\0<=i.bJ/\i.bJ<=2
 else if i.op=20 then i.args.length=1/\(k:Int)+1<=i.bJ/\i.bJ<=(p.cG.length:Int) -1
 else if i.op=22 then i.args.length=0/\(k:Int)+1<=i.bJ/\i.bJ<=(p.cG.length:Int) -1
 else if i.op=21 then i.args.length=1/\0<(bU b.aY i.bJ).length/\Ld i.dR (bU b.aY i.bJ).length k p.cG.length
 else False
structure gJ(b:cL)(p:cY)(k:Nat)(i:Instr):Prop where
 args:∀a∈i.args,0<=a/\a<=p.av -1
 dst:0<=i.dst/\i.dst<=p.av -1
 U0:i.dst=0\/kK i.op
 bV:i.bV=0\/i.op=6
 dR:i.op=21\/i.dR.length=0
 op:lD b p k i
structure Mu(m:I)(a l:O)(c:O)(p:cY):Prop where
 params:au m a p.params
 cV:au m l p.cV
 cG:eC m c p.cG
def Mu.ext{m d:I}(a:J m d){b l c:O}{p:cY}(h:Mu m b l c p):Mu d b l c p:=⟨h.params.ext a,h.cV.ext a,eC.ext a h.cG⟩
def Cq(ak:eX m d p b)(ht:dx b.aY){ac aj W:O}{q:cY}(Y:Mu m ac aj W q)(hr:1<=q.av/\q.av<=2000){g:Nat}{i:Instr}(hk:q.cG[g]? =some i):
 dq bY 71 [.agg #[O.v d,O.v p],.agg #[O.v ac,O.v aj,vi q.aR,vi q.av,O.v W],vi g] m (gJ b q g i):=by
 apply wI
 simp -zeta only[aE,aD]
 intro m1 R
 have aa:J m R:=((J.aC m).aM _).aM _
 have aK:=ax hk
 have af:=Y.cG.len
 have aH:=Y.cG.gA
 obtain⟨xa,Q,S,hj,g0,g1,g2,g3,g4,g5⟩:=(eC.ext aa Y.cG).u hk
 refine⟨V,V,_,g0,_,g1,_,g2,_,g3,_,g4,_,g5,?_⟩
 intro m3 B
 have t:J m B:=(aa.aM _).aj aa.size _ _
 have ai:J R B:=((J.aC R).aM _).aj (ad _) _ _
 have x:∀C∈[R.size,m1.size,m.size],C<B.size:=by
  simp[B,m3,R,m1,az];omega
 clear_value B
 have X:=S.len
 have aJ:=hj.len
 have aC:=S.gA
 have er:cO (q.av -1)=q.av -1:=aP V V
 rw[er]
 refine eg (n:=i.args.length) (X▸S.gA) (λab u=>J B u/\∀a∈i.args.take ab,0<=a/\a<=q.av -1) ⟨J.aC _,E⟩ ?_
 rintro ab m5 aA μ aI ⟨hx,hn⟩ aw
 refine dit (λh1=>?_) λh1=>?_
 ·obtain⟨a,o⟩:=ag (l:=i.args) (k:=ab) V
  refine⟨V,V,a,by simpa using(ai.trans hx).D (S.u o),?_⟩
  refine(aU _ _ _ _).aG hx x λC y e h f=>⟨_,rfl,λc=>?_,λc=>?_⟩
  ·exact bX (λj=>nb e c (j.args a (ar o))) (t.trans f)
  ·exact aw V _ ⟨f,bA o hn (yb e c)⟩
 ·have al:=cJ V hn
  refine⟨λu=>J B u/\(0<=i.dst/\i.dst<=q.av -1)/\(i.dst=0\/kK i.op)/\(i.bV=0\/i.op=6)/\(i.op=21\/i.dR.length=0),?_,?_⟩
  ·refine(aU _ _ _ _).aG hx x λC y e h f=>⟨_,rfl,λc=>?_,λc=>?_⟩
   ·exact bX (λj=>nb e c j.dst) (t.trans f)
   ·have U:=yb e c
    have tail:∀u:I,J B u->(i.dst=0\/kK i.op)->
     ((i.bV !=0)=true->((i.op !=6)=true->∃D:Bool,vb false=.bool D/\(D=true<->gJ b q g i)/\J m u)/\((i.op !=6)=false->
      ((i.op !=21)=true->((decide ((Q.len:Int)>0))=true->∃D:Bool,vb false=.bool D/\(D=true<->gJ b q g i)/\J m u)/\((decide ((Q.len:Int)>0))=false->J B u/\(0<=i.dst/\i.dst<=q.av -1)/\(i.dst=0\/kK i.op)/\(i.bV=0\/i.op=6)/\(i.op=21\/i.dR.length=0)))/\
      ((i.op !=21)=false->J B u/\(0<=i.dst/\i.dst<=q.av -1)/\(i.dst=0\/kK i.op)/\(i.bV=0\/i.op=6)/\(i.op=21\/i.dR.length=0))))/\
     ((i.bV !=0)=false->
      ((i.op !=21)=true->((decide ((Q.len:Int)>0))=true->∃D:Bool,vb false=.bool D/\(D=true<->gJ b q g i)/\J m u)/\((decide ((Q.len:Int)>0))=false->J B u/\(0<=i.dst/\i.dst<=q.av -1)/\(i.dst=0\/kK i.op)/\(i.bV=0\/i.op=6)/\(i.op=21\/i.dR.length=0)))/\
      ((i.op !=21)=false->J B u/\(0<=i.dst/\i.dst<=q.av -1)/\(i.dst=0\/kK i.op)/\(i.bV=0\/i.op=6)/\(i.op=21\/i.dR.length=0))):=by
     intro u r T
     have w:(i.bV=0\/i.op=6)->((i.op !=21)=true->((decide ((Q.len:Int)>0))=true->∃D:Bool,vb false=.bool D/\(D=true<->gJ b q g i)/\J m u)/\((decide ((Q.len:Int)>0))=false->J B u/\(0<=i.dst/\i.dst<=q.av -1)/\(i.dst=0\/kK i.op)/\(i.bV=0\/i.op=6)/\(i.op=21\/i.dR.length=0)))/\
      ((i.op !=21)=false->J B u/\(0<=i.dst/\i.dst<=q.av -1)/\(i.dst=0\/kK i.op)/\(i.bV=0\/i.op=6)/\(i.op=21\/i.dR.length=0)):=by
      intro v
      refine⟨λa=>⟨λo=>?_,λo=>?_⟩,λa=>?_⟩
      ·simp at a o
       exact bX (λj=>by rcases j.dR with s|s<;>omega) (t.trans r)
      ·simp at o
       exact⟨r,U,T,v,Or.inr V⟩
      ·simp at a
       exact⟨r,U,T,v,Or.inl a⟩
     refine⟨λa=>⟨λo=>?_,λo=>w (Or.inr (by simpa using o))⟩,λa=>w (Or.inl (by simpa using a))⟩
     simp at a o
     exact bX (λj=>by rcases j.bV with s|s<;>contradiction) (t.trans r)
    refine⟨λa=>?_,λa=>tail y f (Or.inl (by simpa using a))⟩
    refine(vm _ _).aG f x λC z e o s=>⟨_,rfl,λK=>?_,λK=>tail z s (Or.inr (yb e K))⟩
    simp at a
    exact bX (λj=>by rcases j.U0 with M|M;exact a M;exact nb e K M) (t.trans s)
  ·rintro m8 ⟨z,U,T,ap,au⟩
   have A:=t.trans z
   have ao:gJ b q g i<->lD b q g i:=⟨λj=>j.op,λj=>⟨al,U,T,ap,au,j⟩⟩
   rw[ao]
   have N:eX m8 d p b:=eX.ext A ak
   refine⟨λv=>?_,λv=>?_⟩
   ·simp only[aL]at v
    have j:lD b q g i<->i.args.length=0/\-999<=i.bJ/\i.bJ<=999:=by rw[lD,aq v]
    rw[j]
    refine⟨λh=>?_,λh=>?_⟩
    ·simp only[aL]at h
     refine(aU _ _ _ _).aG z x λC L e f c=>⟨_,rfl,fB ?_ (t.trans c)⟩
     rw[e];omega
    ·simp only[an]at h
     exact bX V A
   simp only[an]at v
   refine⟨λw=>?_,λw=>?_⟩
   ·simp only[cr,aL]at w
    have j:lD b q g i<->i.args.length=2/\i.bJ=0:=by rw[lD,ae v,aq w]
    rw[j]
    refine⟨λh=>fB ?_ A,λh=>bX ?_ A⟩
    ·simp only[aL]at h⊢;omega
    ·simp only[an]at h;omega
   simp only[bP,an]at w
   replace w:¬(i.op=1\/i.op=2\/i.op=3\/i.op=4\/i.op=11):=V
   refine⟨λy=>?_,λy=>?_⟩
   ·simp only[cr,aL]at y
    have j:lD b q g i<->i.args.length=1/\i.bJ=0:=by rw[lD,ae v,ae w,aq y]
    rw[j]
    refine⟨λh=>fB ?_ A,λh=>bX ?_ A⟩
    ·simp only[aL]at h⊢;omega
    ·simp only[an]at h;omega
   simp only[bP,an]at y
   replace y:¬(i.op=5\/i.op=14\/i.op=15\/i.op=18\/i.op=23):=V
   refine⟨λF=>?_,λF=>?_⟩
   ·simp only[aL]at F
    have j:lD b q g i<->(0<=i.bJ/\i.bJ<(eD b.aY).length)/\i.args.length=(bT b.aY i.bJ).length/\0<=i.bV/\i.bV<=q.av:=by rw[lD,ae v,ae w,ae y,aq F]
    rw[j]
    refine(kO N.aY ht _).aG z x ?_
    rintro _ L ⟨aF,rfl,G,f⟩
    refine⟨f,_,rfl,dit (λc=>?_) λc=>?_⟩
    ·have am:0<=i.bJ/\i.bJ<(eD b.aY).length:=by
      rcases G with⟨H,P,a,o,s,K⟩|⟨a,_⟩
      ·have:=OR b.aY (show H+1<=b.aY.length from ax o);rw[qv o,mF b.aY _ (ad _)]at this;omega
      ·omega
     refine(DC (bR.ext f N.aY) ht _).aG (z.trans f) x ?_
     rintro _ av ⟨ay,rfl,Z,a⟩
     have ah:=Z.len
     refine⟨a,_,rfl,λo=>?_,λo=>?_⟩
     ·simp only[aL]at o
      refine(aU _ _ _ _).aG ((z.trans f).trans a) x λC aB e s K=>⟨_,rfl,fB ?_ (t.trans K)⟩
      rw[e]
      exact⟨λr=>⟨am,V,r⟩,λr=>r.2.2⟩
     ·simp only[an]at o
      exact bX (λr=>o V) ((A.trans f).trans a)
    ·refine bX (λr=>?_) (A.trans f)
     rcases G with⟨H,P,a,o,s,K⟩|⟨_,a⟩
     ·omega
     ·exact a r.1
   simp only[an]at F
   refine⟨λG=>?_,λG=>?_⟩
   ·simp only[cr,aL]at G
    have j:lD b q g i<->tF b i.bJ (i.args.length+0):=by rw[lD,ae v,ae w,ae y,ae F,aq G];rfl
    rw[j]
    have P:=ur N i.bJ i.args.length 0 V V
    rw[X]
    refine P.aG z x λC L e f c=>⟨_,rfl,fB e (t.trans c)⟩
   simp only[bP,an]at G
   replace G:¬(i.op=9\/i.op=24):=V
   refine⟨λH=>?_,λH=>?_⟩
   ·simp only[aL]at H
    have j:lD b q g i<->tF b i.bJ (i.args.length+1)/\∀q,b.cB[i.bJ.toNat]? =some q->q.cV.length=0:=by rw[lD,ae v,ae w,ae y,ae F,ae G,aq H]
    rw[j]
    have P:=ur N i.bJ i.args.length 1 V V
    rw[X]
    refine P.aG z x λC L e f c=>⟨_,rfl,λa=>?_,λa=>bX (λr=>fb e a r.1) (t.trans c)⟩
    have a:=e.1 a
    obtain⟨q',o,s,K⟩:=a
    obtain⟨a',D,c',aB,am,aG,f0,f1,f2,f3,f4⟩:=(fW.ext f N.cB).u s
    have:=N.cB.len
    have:=ax s
    refine⟨V,V,D,f1,fB ?_ (t.trans c)⟩
    have aF:=am.len
    simp only[aL]
    refine⟨λr=>⟨⟨q',o,s,K⟩,λaM M=>?_⟩,λr=>?_⟩
    ·rw[s]at M;simp at M;subst M;omega
    ·have:=r.2 q' s;omega
   simp only[an]at H
   refine⟨λD=>?_,λD=>?_⟩
   ·simp only[cr,aL]at D
    have j:lD b q g i<->(1<=i.args.length/\i.args.length<=4)/\i.bJ=0:=by rw[lD,ae v,ae w,ae y,ae F,ae G,ae H,aq D]
    rw[j]
    refine(aU _ _ _ _).aG z x λC L e f c=>⟨_,rfl,λa=>fB ?_ (t.trans c),λa=>bX ?_ (t.trans c)⟩
    ·have a:=e.1 a
     simp only[aL];omega
    ·have a:=fb e a;omega
   simp only[bP,an]at D
   replace D:¬(i.op=16\/i.op=17):=V
   refine⟨λK=>?_,λK=>?_⟩
   ·simp only[aL]at K
    have j:lD b q g i<->i.args.length=1/\0<=i.bJ/\i.bJ<=2:=by rw[lD,ae v,ae w,ae y,ae F,ae G,ae H,ae D,aq K]
    rw[j]
    refine⟨λh=>?_,λh=>?_⟩
    ·simp only[aL]at h
     refine(aU _ _ _ _).aG z x λC L e f c=>⟨_,rfl,fB ?_ (t.trans c)⟩
     rw[e];omega
    ·simp only[an]at h
     exact bX V A
   simp only[an]at K
   have ek:cO ((g:Int)+1)=(g:Int)+1:=aP V V
   have ec:cO ((W.len:Int) -1)=(q.cG.length:Int) -1:=by rw[aP V V,af]
   rw[ek,ec]
   refine⟨λM=>?_,λM=>?_⟩
   ·simp only[aL]at M
    have j:lD b q g i<->i.args.length=1/\(g:Int)+1<=i.bJ/\i.bJ<=(q.cG.length:Int) -1:=by rw[lD,ae v,ae w,ae y,ae F,ae G,ae H,ae D,ae K,aq M]
    rw[j]
    refine⟨λh=>?_,λh=>?_⟩
    ·simp only[aL]at h
     refine(aU _ _ _ _).aG z x λC L e f c=>⟨_,rfl,fB ?_ (t.trans c)⟩
     rw[e];omega
    ·simp only[an]at h
     exact bX V A
   simp only[an]at M
   refine⟨λP=>?_,λP=>?_⟩
   ·simp only[aL]at P
    have j:lD b q g i<->i.args.length=0/\(g:Int)+1<=i.bJ/\i.bJ<=(q.cG.length:Int) -1:=by rw[lD,ae v,ae w,ae y,ae F,ae G,ae H,ae D,ae K,ae M,aq P]
    rw[j]
    refine⟨λh=>?_,λh=>?_⟩
    ·simp only[aL]at h
     refine(aU _ _ _ _).aG z x λC L e f c=>⟨_,rfl,fB ?_ (t.trans c)⟩
     rw[e];omega
    ·simp only[an]at h
     exact bX V A
   simp only[an]at P
   refine⟨λh=>?_,λh=>?_⟩
   ·simp only[aL]at h
    have j:lD b q g i<->i.args.length=1/\0<(bU b.aY i.bJ).length/\Ld i.dR (bU b.aY i.bJ).length g q.cG.length:=by rw[lD,ae v,ae w,ae y,ae F,ae G,ae H,ae D,ae K,ae M,ae P,aq h]
    rw[j]
    refine(xQ N.aY ht _).aG z x ?_
    rintro _ L ⟨ay,rfl,Z,f⟩
    have ah:=Z.len
    refine⟨f,_,rfl,λc=>?_,λc=>?_⟩
    ·simp only[aL]at c
     refine dit (λa=>?_) λa=>?_
     ·rw[ah,af]
      refine(Cr (hj.ext (ai.trans (z.trans f))) _ _ _ V V).aG (z.trans f) x λC av e o s=>⟨_,rfl,fB ?_ (t.trans s)⟩
      rw[e]
      exact⟨λr=>⟨V,V,r⟩,λr=>r.2.2⟩
     ·exact bX (λr=>V) (A.trans f)
    ·simp only[an]at c
     exact bX (λr=>V) (A.trans f)
   ·simp only[an]at h
    have j:lD b q g i<->False:=by rw[lD,ae v,ae w,ae y,ae F,ae G,ae H,ae D,ae K,ae M,ae P,ae h]
    rw[j]
    exact bX (λr=>r) A
end
section
variable{m:I}{d p:O}{a:cL}
structure HT(ds:List bO)(ps:List cY):Prop where
 types:dx ds
 len:1<=ps.length/\ps.length<=4
 dh:∀p∈ps,p.params.length<=3/\CG ds.length p.params/\wU ds.length p.aR
 first:∀p,ps[0]? =some p->p.params.length=0/\p.aR=0
def mU(m:I)(b:List Ce)(p:cY):Prop:=∃a,b=[.s a,.i p.aR,.i 0,.i 0,.s .nil]/\au m a p.params
def mU.ext{m b:I}(g:J m b)(a:List Ce)(c:cY):mU m a c->mU b a c:=λ⟨f,d,e⟩=>⟨f,d,e.ext g⟩
def P7.u{s:O}{l:List cY}(h:dT m 5 (mU m) s l){k:Nat}{x:cY}(d:l[k]? =some x):
 ∃a,au m a x.params/\D m s.F (s.off+k*5)=some (O.v a)/\D m s.F (s.off+k*5+1)=some (vi x.aR)/\D m s.F (s.off+k*5+2)=some (vi 0)/\D m s.F (s.off+k*5+3)=some (vi 0)/\D m s.F (s.off+k*5+4)=some (O.v .nil):=by
 obtain⟨e,⟨a,rfl,c⟩,b⟩:=h.jA k x d
 exact⟨a,c,b 0 (.s a) rfl,b 1 (.i x.aR) rfl,b 2 (.i 0) rfl,b 3 (.i 0) rfl,b 4 (.s .nil) rfl⟩
def sU{H:O}{j:List bO}{i:List cY}(P:bR m d j)(B:dT m 5 (mU m) H i):
 dq bY 37 [.agg #[O.v d,O.v H]] m (HT j i):=by
 apply yT
 simp -zeta only[aE,aD]
 intro s
 have r:J m s:=(J.aC m).aM _
 have C:∀f∈[m.size],f<s.size:=by simp[s]
 have q:=P.len
 have af:=B.len
 refine(Cu (bR.ext r P)).aG (J.aC _) C λf m2 b U X=>⟨_,rfl,λy=>?_,λy=>?_⟩
 ·exact bX (λa=>nb b y a.types) (r.trans U)
 have ht:=yb b y
 refine(aU _ _ _ _).aG X C λf m3 b h4 N=>⟨_,rfl,λz=>?_,λz=>?_⟩
 ·exact bX (λa=>nb b z (by have:=a.len;omega)) (r.trans N)
 have ah:=yb b z
 refine eg (n:=i.length) V (λF c=>J s c/\∀p∈i.take F,p.params.length<=3/\CG j.length p.params/\wU j.length p.aR) ⟨N,E⟩ ?_
 rintro F G ac μ hj ⟨D,R⟩ ab
 have e:=r.trans D
 refine dit (λY=>?_) λY=>?_
 ·obtain⟨p,c⟩:=ag (l:=i) (k:=F) V
  obtain⟨T,o,u,v,I,K,L⟩:=P7.u (B.mono e (mU.ext e)) c
  have Z:=o.len
  refine⟨V,V,_,u,_,v,_,I,_,K,_,L,?_⟩
  intro S t
  have h:J G t:=((J.aC G).aM _).aj (ad _) _ _
  have Q:∀f∈[G.size,m.size],f<t.size:=by
   have:=D.lt (C m.size E);have:=h.size;simp[t,S,az];simp[t,S,az]at this;omega
  refine dit (λg=>?_) λg=>?_
  ·exact bX (λa=>by have:=(a.dh p (ar c)).1;omega) (e.trans h)
  refine(tY (o.ext h) _).aG (J.aC _) Q λf m7 b A W=>⟨_,rfl,λw=>?_,λw=>?_⟩
  ·exact bX (λa=>nb b w (q▸(a.dh p (ar c)).2.1)) ((e.trans h).trans A)
  have aa:=yb b w
  refine(aU _ _ _ _).aG W Q λf m8 b ae M=>⟨_,rfl,λx=>?_,λx=>?_⟩
  ·refine bX (λa=>nb b x ?_) ((e.trans h).trans M)
   rw[q];exact(a.dh p (ar c)).2.2
  ·refine ab V _ ⟨(D.trans h).trans M,bA c R ⟨V,q▸aa,?_⟩⟩
   have:=yb b x
   rw[q]at this;exact this
 ·have t:=cJ V R
  obtain⟨p,c⟩:=ag (l:=i) (k:=0) V
  obtain⟨T,o,u,v,I,K,L⟩:=P7.u (B.mono e (mU.ext e)) c
  have Z:=o.len
  refine⟨V,V,_,u,λg=>?_,λg=>?_⟩
  ·simp only[aL]at g
   refine⟨V,V,_,v,fB ?_ e⟩
   simp only[aL]
   refine⟨λA=>⟨ht,V,t,λw h=>?_⟩,λa=>(a.first p c).2⟩
   rw[c]at h;simp at h;subst h
   exact⟨V,A⟩
  ·simp only[an]at g
   exact bX (λa=>g (by have:=(a.first p c).1;omega)) e
def Aq(P:eX m d p a)(ar:a.cB.length<=4):
 aN bY 38 [.agg #[O.v d,O.v p]] m λan i=>∃N,an=.agg #[O.v d,O.v N]/\dT i 5 (mU i) N a.cB/\J m i:=by
 apply vn
 simp -zeta only[aE,aD]
 intro s j c M q
 have au:=P.cB.len
 have aj:J m M:=(((J.aC m).aM _).aM _|>.aM _).aM _
 have s3:c.size=m.size+3:=by simp[c,j,s]
 have s2:j.size=m.size+2:=by simp[j,s]
 have s1:s.size=m.size+1:=by simp[s]
 have s5:q.size=m.size+4:=by simp[q,M,az,s3]
 have ak:J m q:=aj.aj V _ _
 have aa:cD q c.size jE [.s d,.s (.mk j.size 0 0 0)]:=cD.aj (m:=M) (o:=0) (r:=[.s d,.s (.mk j.size 0 0 0)]) (cD.push c _ _)
 have ai:J c q:=((J.aC c).aM _).aj (ad _) _ _
 have ae:iZ m q eF 5 (.mk j.size 0 0 0) ([]:List (List Ce)).flatten:=
  (iZ.new (((J.aC m).aM _).aM _:J m j) eF 5 [] 0 E:iZ m c eF 5 (.mk j.size 0 0 0) []).ext ai
 clear_value q
 refine eg (n:=a.cB.length) V (λD i=>J m i/\q.size<=i.size/\∃f x,cD i c.size jE [.s d,.s f]/\iZ m i eF 5 f x.flatten/\fX 5 (mU m) x (a.cB.take D)/\f≠.nil/\s.size<f.F/\f.F≠c.size/\f.len=D)
  ⟨ak,ad _,_,[],aa,ae,by simpa using fX.nil 5 (mU m),E,bF,bF,rfl⟩ ?_
 rintro D A ao μ hk ⟨B,aA,f,x,y,R,L,aw,av,af,T⟩ am
 refine dit (λX=>?_) λX=>?_
 ·obtain⟨F,S⟩:=ag (l:=a.cB) (k:=D) V
  obtain⟨t,b,ap,ha,e,hc,U,g1,W,g3,g4⟩:=P.cB.u S
  refine⟨f,y.cy 1,V,V,t,by simpa using B.D U,V,V,_,by simpa using B.D W,?_⟩
  intro g
  have C:J A g:=J.push _ _
  refine⟨C.dk (y.cy 1),?_⟩
  have ah:fU g A.size 0 [.s t,.i F.aR,.i 0,.i 0,.s .nil]:=(cD.push A _ _).jA
  have ac:=y.ext C
  have ax:g.size=A.size+1:=by simp[g]
  clear_value g
  refine iZ.append (zs:=[.s .nil,.i 0,.i 0,.i 0,.s .nil]) (c:=[.s t,.i F.aR,.i 0,.i 0,.s .nil]) (R.ext C) (B.trans C) rfl ah (by simp[T];omega) ?_
  intro w u h7 h8 H aq Y Z
  have G:∀b,b<g.size->b≠f.F->u[b]? =g[b]? :=λb e I=>Y b e (λ_=>I)
  have z:s.size<w.F/\w.F≠c.size:=by
   rcases Z with⟨_,h⟩|⟨_,h,_⟩|h
   ·rw[h]at H;simp at H
   ·rw[h];constructor<;>omega
   ·rw[h];constructor<;>omega
  have Q:cD u c.size jE [.s d,.s f]:=ac.congr (G _ V (λh=>af h.symm))
  refine⟨λb e=>?_,Q.fu E,?_⟩
  ·simp at e
   rcases e with rfl|rfl
   ·exact G _ V V
   ·exact G _ V V
  intro v
  have ay:v.size=u.size:=by simp[v,az]
  have ab:cD v c.size jE [.s d,.s w]:=cD.aj (m:=u) (o:=1) (r:=[.s w]) Q
  have K:∀b,b≠c.size->v[b]? =u[b]? :=λb e=>bn _ _ _ _ e
  have al:J m v:=h8.aj V _ _
  clear_value v
  refine⟨λb e=>?_,?_⟩
  ·simp at e
   rcases e with rfl|rfl
   ·exact K _ V
   ·exact K _ V
  refine am V _ ⟨al,V,w,x++[[.s t,.i F.aR,.i 0,.i 0,.s .nil]],ab,?_,?_,?_,z.1,z.2,by simp[H,T]⟩
  ·rw[vR]
   exact(by simpa using h7:iZ m u eF 5 w (x.flatten++[[.s t,.i F.aR,.i 0,.i 0,.s .nil]].flatten)).congr (K _ z.2)
  ·rw[bK S]
   exact L.xH rfl ⟨t,rfl,ha⟩
  ·intro h
   rw[h]at z;simp at z
 ·refine⟨d,y.cy 0,f,y.cy 1,?_⟩
  intro g
  have I:∀b,b≠s.size->g[b]? =A[b]? :=λb e=>bn _ _ _ _ e
  have h:J m g:=B.aj V _ _
  refine⟨f,rfl,?_,h⟩
  rw[cE V]at L
  exact(dT.iC (R.congr (I _ V)) L V V).mono (J.aC _) (mU.ext h)
structure EA(a:cL)(p:cY):Prop where
 cV:Be p.params p.cV
 av:(p.params.length:Int)<=p.av/\1<=p.av/\p.av<=2000
 len:1<=p.cG.length/\p.cG.length<=2000
 dh:∀(k:Nat)(i:Instr),p.cG[k]? =some i->gJ a p k i
 JV:∀i,p.cG[p.cG.length -1]? =some i->i.op=23\/i.op=24
def Ee(R:eX m d p a)(X:dx a.aY){F N y:O}{q:cY}(r:Mu m F N y q):
 dq bY 39 [.agg #[O.v d,O.v p],.agg #[O.v F,O.v N,vi q.aR,vi q.av,O.v y]] m (EA a q):=by
 apply yR
 simp -zeta only[aE,aD]
 intro P w
 have j:J m w:=((J.aC m).aM _).aM _
 have x:∀s∈[P.size,m.size],s<w.size:=by simp[w,P];omega
 clear_value w
 have ab:=r.params.len
 have ac:=r.cG.len
 refine(sT (r.params.ext j) (r.cV.ext j)).aG (J.aC _) x λs m3 c S U=>⟨_,rfl,λA=>?_,λA=>?_⟩
 ·exact bX (λf=>nb c A f.cV) (j.trans S)
 have K:=yb c A
 refine(aU _ _ _ _).aG U x λs m4 c h4 G=>⟨_,rfl,λB=>?_,λB=>?_⟩
 ·refine bX (λf=>nb c B ?_) (j.trans G)
  have:=f.av
  split<;>omega
 have W:=yb c B
 refine(aU _ _ _ _).aG G x λs m5 c h7 H=>⟨_,rfl,λC=>?_,λC=>?_⟩
 ·exact bX (λf=>nb c C (by have:=f.len;omega)) (j.trans H)
 have ae:=yb c C
 have D:(q.params.length:Int)<=q.av/\1<=q.av/\q.av<=2000:=by
  split at W<;>omega
 refine eg (n:=q.cG.length) V (λv Y=>J w Y/\∀(e:Nat)(i:Instr),e<v->q.cG[e]? =some i->gJ a q e i) ⟨H,E⟩ ?_
 rintro v m6 aa μ hj ⟨M,L⟩ Z
 have t:=j.trans M
 refine dit (λT=>?_) λT=>?_
 ·obtain⟨i,h⟩:=ag (l:=q.cG) (k:=v) V
  refine(Cq (eX.ext t R) X (r.ext t) D.2 h).aG M x λs m7 c o g=>⟨_,rfl,λz=>?_,λz=>?_⟩
  ·exact bX (λf=>nb c z (f.dh v i h)) (j.trans g)
  ·refine Z V _ ⟨g,λe u Q b=>?_⟩
   by_cases I:e=v
   ·subst I
    rw[h]at b;simp at b;subst b
    exact yb c z
   ·exact L e u V b
 ·obtain⟨i,h⟩:=ag (l:=q.cG) (k:=q.cG.length -1) V
  obtain⟨xa,xj,ha,ad,z,g1,g2,g3,g4,g5⟩:=(eC.ext t r.cG).u h
  have Q:cO ((y.len:Int) -1)=((q.cG.length -1:Nat):Int):=by rw[aP V V];omega
  rw[Q]
  have I:∀(e:Nat)(i:Instr),q.cG[e]? =some i->gJ a q e i:=λe u b=>L e u (by have:=ax b;omega) b
  refine⟨V,V,_,by simpa using z,λo=>?_,λo=>?_⟩
  ·simp only[aL]at o
   refine je ⟨K,D,V,I,λu b=>?_⟩ t
   rw[h]at b;simp at b;subst b
   exact Or.inl o
  ·simp only[an]at o
   refine⟨V,V,_,by simpa using z,fB ?_ t⟩
   simp only[aL]
   refine⟨λg=>⟨K,D,V,I,λu b=>?_⟩,λf=>?_⟩
   ·rw[h]at b;simp at b;subst b
    exact Or.inr g
   ·rcases f.JV i h with g|g
    ·exact absurd g o
    ·exact g
structure lO(a:cL):Prop where
 pC:HT a.aY a.cB
 dh:∀p∈a.cB,EA a p
def rG(h:eX m d p a):dq bY 16 [.agg #[O.v d,O.v p]] m (lO a):=by
 apply wH;simp -zeta only[aE,aD];intro f;have c:J m f:=(J.aC m).aM _;have q:∀g∈[m.size],g<f.size:=by simp[f]
 clear_value f;have W:=h.cB.len;refine dit (λH=>?_) λH=>?_
 ·exact bX (λe=>by have:=e.pC.len;omega) c
 refine(Aq (eX.ext c h) V).aG (J.aC _) q ?_;rintro _ X ⟨A,rfl,M,i⟩;refine⟨i,d,A,rfl,?_⟩;refine(sU (bR.ext (c.trans i) h.aY) M).aG i q λg Y b S v=>⟨_,rfl,λj=>?_,λj=>?_⟩
 ·exact bX (λe=>nb b j e.pC) (c.trans v)
 have y:=yb b j;refine eg (n:=a.cB.length) V (λt o=>J f o/\∀u∈a.cB.take t,EA a u) ⟨v,E⟩ ?_;rintro t Z P μ U ⟨z,x⟩ N
 have s:=c.trans z;refine dit (λI=>?_) λI=>?_
 ·obtain⟨u,r⟩:=ag (l:=a.cB) (k:=t) V;obtain⟨Q,g,R,K,b,L,B,C,D,F,G⟩:=(fW.ext s h.cB).u r;refine⟨V,V,_,B,_,C,_,D,_,F,_,G,?_⟩;refine(Ee (eX.ext s h) y.types ⟨K,b,L⟩).aG z q λg m5 b T w=>⟨_,rfl,λo=>?_,λo=>?_⟩
  ·exact bX (λe=>nb b o (e.dh u (ar r))) (c.trans w)
  ·exact N V _ ⟨w,bA r x (yb b o)⟩
 ·exact je ⟨y,cJ V x⟩ s
end
end Go.Proofs.YtakpkjhmbbfniaaGreat
