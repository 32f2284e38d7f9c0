/- Part of a proof, joined by a program. -/
import Derived.Test.YtgnjacfobdjeeaaGreatW01
import Derived.Test.YtgnjacfobdjeeaaGreatW02
import Derived.Test.YtgnjacfobdjeeaaGreatW03
import Derived.Test.YtgnjacfobdjeeaaGreatW04
import Derived.Test.YtgnjacfobdjeeaaGreatW05
import Derived.Test.YtgnjacfobdjeeaaGreatW06
set_option linter.unusedVariables false
set_option linter.unusedSimpArgs false
set_option linter.defProp false
set_option linter.constructorNameAsVariable false
set_option maxHeartbeats 8000000
set_option maxRecDepth 100000
namespace Go.Proofs.YtgnjacfobdjeeaaGreat
open Go.Vc
section
variable{m:I}{R:Value->I->Prop}
def Jn(a bN:Int)(bE:O):=cX m R A0 [cI a,cI bN,cS bE] Tryz.func311
def Ee(r:Nat×Nat)(t:Int):=cX m R ⟨[(8,[(9,.I)])],[(5,[(7,.P)])],[(5,[51,50,49]),(8,[50,49])]⟩ [cP r,cI t] Tryz.func312
def CD(v:Int):=cX m R A0 [cI v] Tryz.func313
def Jj(r:Nat×Nat)(a b c:O)(t:Int):=cX m R A0 [cP r,.agg [.s a,.s b],cS c,cI t] Tryz.func314
def Az(a b:Int)(c:O)(left:Int):=cX m R ⟨[(5,[(1,.I),(5,.I)])],[],[(5,[29])]⟩ [.agg [.i a,.i b,.s c],cI left] Tryz.func315
def BV(a b c:Int)(d e:O):=cX m R ⟨[(3,[(3,.S),(4,.I)])],[],[(3,[35,34])]⟩ [.agg [.i a,.i b,.i c,.s d,.s e]] Tryz.func316
def BT(a:O)(b f:Int):=cX m R ⟨[(2,[(5,.I)]),(7,[(6,.I)])],[],[(2,[55]),(7,[55])]⟩ [.agg [.s a,.i b],cI f] Tryz.func317
def wU(b c d:Int)(e f:O)(n:Int)(a:O):=cX m R ⟨[(4,[(2,.S),(7,.I)]),(9,[(2,.S),(8,.I)])],[],[(4,[61]),(9,[61])]⟩ [.agg [.i b,.i c,.i d,.s e,.s f],cI n,cS a] Tryz.func318
def Eb(b c:O)(e f g:Int)(h j:O)(i:Int)(d a:O):=cX m R A0 [.agg [.s b,.s c],.agg [.i e,.i f,.i g,.s h,.s j],cI i,cS d,cS a] Tryz.func319
def BW(d e g aL a:O)(b:Int)(f c:O):=cX m R ⟨[(7,[(16,.S),(17,.S),(18,.I)]),(14,[(19,.S),(20,.I)])],[],[(7,[127,124,121]),(14,[127,124,121])]⟩ [.agg [.s d,.s e],cS g,cS aL,.agg [.s a,.i b],cS f,cS c] Tryz.func320
def FE(a b:O):=cX m R ⟨[(3,[(5,.S),(6,.I)])],[],[]⟩ [cS a,cS b] Tryz.func321
def DM(aT:O)(a b:Int):=cX m R ⟨[(2,[(7,.I)])],[],[]⟩ [cS aT,cI a,cI b] Tryz.func322
def uW(l:Nat×Nat):=cX m R A0 [cP l] Tryz.func323
def wc(l:Nat×Nat)(d e a:O)(b c:Int):=cX m R ⟨[(2,[(9,.I)])],[],[(2,[51,50])]⟩ [cP l,.agg [.s d,.s e],.agg [.s a,.i b],cI c] Tryz.func324
def DL(r:Nat×Nat)(a b c:O):=cX m R A0 [cP r,.agg [.s a,.s b],cS c] Tryz.func325
def FK(r:Nat×Nat)(b c e d:O)(a:Int):=cX m R ⟨[(3,[(11,.S),(12,.I)])],[],[(3,[42])]⟩ [cP r,.agg [.s b,.s c],cS e,cS d,cI a] Tryz.func326
def Cc(r:Nat×Nat)(b c d:O)(t a:Int):=cX m R ⟨[(7,[(13,.S),(14,.I)])],[(4,[(11,.I)])],[(4,[79,75]),(7,[79,75])]⟩ [cP r,.agg [.s b,.s c],cS d,cI t,cI a] Tryz.func327
def BQ(a b:O)(t:Int):=cX m R ⟨[(3,[(5,.S),(6,.I)]),(7,[(7,.T),(8,.I)])],[],[(3,[59]),(7,[59])]⟩ [.agg [.s a,.s b],cI t] Tryz.func328
end
section
variable{m:I}{R:Value->I->Prop}
def Cd(r:Nat×Nat)(b c d:O)(t a:Int):=cX m R ⟨[(3,[(11,.I)])],[(7,[])],[(3,[130,126]),(7,[130,126])]⟩ [cP r,.agg [.s b,.s c],cS d,cI t,cI a] Tryz.func329
def El(r:Nat×Nat):=cX m R A0 [cP r] Tryz.func330
def yV(a:O)(t:Int):=cX m R ⟨[(3,[(5,.S),(6,.I)])],[],[]⟩ [cS a,cI t] Tryz.func331
def DN(a b c:O)(t:Int):=cX m R A0 [.agg [.s a,.s b],cS c,cI t] Tryz.func332
def Cx(r:Nat×Nat)(a b:O)(t:Int):=cX m R ⟨[(11,[(9,.S),(11,.I)]),(21,[(15,.S),(16,.I)])],[(6,[(8,.I)]),(8,[(8,.I)]),(17,[(80,.T)])],[(6,[124,122]),(8,[124,122]),(11,[124,122]),(17,[124,122]),(21,[124,122])]⟩ [cP r,.agg [.s a,.s b],cI t] Tryz.func333
def wi(a b:O)(c d e:Int)(f g:O)(i:Int):=cX m R ⟨[(2,[(7,.I)])],[],[(2,[46,45])]⟩ [.agg [.s a,.s b],.agg [.i c,.i d,.i e,.s f,.s g],cI i] Tryz.func334
def Ho(a:O)(n:Int):=cX m R ⟨[(3,[(5,.S),(6,.I)])],[],[]⟩ [cS a,cI n] Tryz.func335
def yI(l:Nat×Nat)(a:Int):=cX m R ⟨[(2,[(5,.I)])],[],[]⟩ [cP l,cI a] Tryz.func336
def BR(a b:O)(t:Int):=cX m R ⟨[(3,[(5,.S),(6,.I)])],[],[(3,[55])]⟩ [.agg [.s a,.s b],cI t] Tryz.func337
end
end Go.Proofs.YtgnjacfobdjeeaaGreat
namespace Go.Proofs.YtgnjacfobdjeeaaGreat
open Go.Vc
section
variable{m:I}{b:O}{a:List Int}
def bF(n b a:Int)(m:I):dJ cw 33 [vi n,vi b,vi a] m (b<=n/\n<=a):=by
 apply DZ;refine⟨λh=>ft ?_ (J.aB _),λh=>cK ?_ (J.aB _)⟩<;>simp at h
 ·simp[h]
 ·omega
def jH(a:Int)(m:I):dJ cw 205 [vi a] m (0<=a/\a<=11):=by
 apply DT;exact(bF _ _ _ _).then λd e c b=>⟨_,rfl,ft c b⟩
def lH(a:Int):Prop:=0<=a/\a<=11/\a≠7/\a≠8\/a=18\/a=19
def xt(e:Int)(m:I):dJ cw 153 [vi e] m (lH e):=by
 apply Ju;refine(jH _ _).then λg i d a=>⟨_,rfl,λh=>?_,λh=>?_⟩
 ·have h:=d.1 h;refine⟨λb=>⟨λc=>jG ?_ a,λc=>⟨λf=>jG ?_ a,λf=>ft ?_ a⟩⟩,λb=>⟨λc=>jG ?_ a,λc=>ft ?_ a⟩⟩<;>simp[lH]at* <;>omega
 ·have h:=fb d h;refine⟨λb=>jG ?_ a,λb=>ft ?_ a⟩<;>simp[lH]at* <;>omega
def dp(f:ap m b a)(e:Int):dJ cw 175 [O.v b,vi e] m (e∈a):=by
 apply Je;have o:=f.len;refine eU (n:=a.length) (o▸f.fS) (λh c=>J m c/\∀y∈a.take h,y≠e) ⟨J.aB _,D⟩ ?_;rintro h r I μ q ⟨d,i⟩ p
 refine dit (λj=>?_) λj=>?_
 ·obtain⟨x,g⟩:=ag (l:=a) (k:=h) V;refine⟨V,V,x,by simpa using d.af (f.E g),λc=>?_,λc=>?_⟩
  ·simp only[aF]at c;exact jG (c▸ar g) d
  ·simp only[ak]at c;exact p V _ ⟨d,bV g i c⟩
 ·exact cK (λc=>dq V i e c rfl) d
def zd(n:Nat)(t:Int):Prop:=0<=t/\t<=n
def EF(n:Nat)(a:List Int):Prop:=∀t∈a,zd n t
def vS(d:ap m b a)(aT:O):dJ cw 111 [O.v aT,O.v b] m (EF aT.len a):=by
 apply BK;have o:=d.len;refine eU (n:=a.length) (o▸d.fS) (λf c=>J m c/\∀t∈a.take f,zd aT.len t) ⟨J.aB _,D⟩ ?_;rintro f t I μ s ⟨c,j⟩ q
 refine dit (λh=>?_) λh=>?_
 ·obtain⟨x,e⟩:=ag (l:=a) (k:=f) V;refine⟨V,V,x,by simpa using c.af (d.E e),?_⟩;refine(bF _ _ _ _).then λr u i g=>⟨_,rfl,λh=>?_,λh=>?_⟩
  ·exact cK (λp=>nb i h (p x (ar e))) (c.trans g)
  ·exact q V _ ⟨c.trans g,bV e j (yb i h)⟩
 ·exact jG (dq V j) c
def Nc(a:List Int)(d b c:Int):Prop:=(a.length:Int)=d/\∀t∈a,b+1<=t/\t<=c -1
def Et(g:ap m b a)(q c d:Int)(z: -1<=c/\c<9223372036854775807)(f:0<=d/\d<=9223372036854775807):
 dJ cw 158 [O.v b,vi q,vi c,vi d] m (Nc a q c d):=by
 apply yT
 have i:=g.len
 refine⟨λh=>?_,λh=>?_⟩
 ·simp only[vj]at h
  exact cK (λj=>h (by rw[i];exact j.1)) (J.aB _)
 ·simp only[ij]at h
  have w:q=(a.length:Int):=by rw[<-h,i]
  subst w
  have u:cW (c+1)=c+1:=aQ V V
  have v:cW (d -1)=d -1:=aQ V V
  rw[u,v]
  refine eU (n:=a.length) (i▸g.fS) (λp e=>J m e/\∀t∈a.take p,c+1<=t/\t<=d -1) ⟨J.aB _,D⟩ ?_
  rintro p B I μ A ⟨e,s⟩ t
  refine dit (λh=>?_) λh=>?_
  ·obtain⟨x,o⟩:=ag (l:=a) (k:=p) V
   refine⟨V,V,x,by simpa using e.af (g.E o),?_⟩
   refine(bF _ _ _ _).then λy C r f=>⟨_,rfl,λh=>?_,λh=>?_⟩
   ·exact cK (λj=>nb r h (j.2 x (ar o))) (e.trans f)
   ·exact t V _ ⟨e.trans f,bV o s (yb r h)⟩
  ·exact jG ⟨rfl,dq V s⟩ e
def Dd(a cJ:List Int):Prop:=∀(k:Nat)(v:Int),cJ[k]? =some v->(∃t,0<=v/\a[v.toNat]? =some t/\t≠0)/\(∀u:Int,0<k->cJ[k -1]? =some u->u<v)
def uB{E cJ:O}{r:List Int}(o:ap m E r)(i:ap m cJ a):dJ cw 112 [O.v E,O.v cJ] m (Dd r a):=by
 apply AT;have P:=i.len;have Q:=o.len;have Y:=o.fS;have K:cW ((E.len:Int) -1)=(r.length:Int) -1:=by rw[aQ V V,Q]
 rw[K];have X:=i.fS;refine eU (n:=a.length) (P▸i.fS) (λc R=>J m R/\∀(j:Nat)(v:Int),j<c->a[j]? =some v->(∃t,0<=v/\r[v.toNat]? =some t/\t≠0)/\(∀u:Int,0<j->a[j -1]? =some u->u<v)) ⟨J.aB _,D⟩ ?_;rintro c S T μ W ⟨p,A⟩ H
 refine dit (λh=>?_) λh=>?_
 ·obtain⟨x,e⟩:=ag (l:=a) (k:=c) V;have y:af S cJ.F (cJ.off+Int.toNat c*1)=some (vi x):=by simpa using p.af (i.E e)
  refine⟨V,V,x,y,?_⟩;refine(bF _ _ _ _).then λU Z F f=>⟨_,rfl,λh=>?_,λh=>?_⟩
  ·refine cK (λo=>nb F h ?_) (p.trans f);obtain⟨⟨t,d,z,_⟩,_⟩:=o c x e;have:=ax z;omega
  ·have G:=yb F h;obtain⟨t,s⟩:=ag (l:=r) (k:=x.toNat) V;have M:=(p.trans f).af (o.E s);have q:=p.trans f;refine⟨V,V,x,f.af y,V,V,t,by simpa using M,λd=>?_,λd=>?_⟩
   ·simp only[aF]at d;refine cK (λb=>?_) q;obtain⟨⟨B,_,g,w⟩,_⟩:=b c x e;rw[s]at g;simp at g;exact w (g▸d)
   ·simp only[ak]at d;refine dit (λz=>?_) λz=>?_
    ·have L:cW ((c:Int) -1)=((c -1:Nat):Int):=by rw[aQ V V];omega
     obtain⟨I,C⟩:=ag (l:=a) (k:=c -1) V;rw[L];refine⟨V,V,x,f.af y,V,V,I,by simpa using q.af (i.E C),dit (λg=>?_) λg=>?_⟩
     ·refine cK (λb=>?_) q;have:=(b c x e).2 I V C;omega
     ·refine H V _ ⟨q,λj v N b=>?_⟩
      by_cases w:j=c
      ·subst w;rw[e]at b;simp at b;subst b;refine⟨⟨t,G.1,s,d⟩,λu _ B=>?_⟩;rw[C]at B;simp at B;subst B;omega
      ·exact A j v V b
    ·refine H V _ ⟨q,λj v N b=>?_⟩
     by_cases w:j=c
     ·subst w;rw[e]at b;simp at b;subst b;exact⟨⟨t,G.1,s,d⟩,λu g _=>V⟩
     ·exact A j v V b
 ·exact jG (λj v b=>A j v (by have:=ax b;omega) b) p
end
section
variable{m:I}
structure Gw(ds:List bB)(k:Nat)(d:bB):Prop where
 iL:0<d.cons.length->d.cons.length<=3/\d.ug=0/\d.to=0/\∀f∈d.cons,f.length<=3/\EF ds.length f
 QZ:d.cons.length=0->(∀e∈ds.take k,¬(e.cons.length=0/\e.ug=d.ug/\e.to=d.to))/\zd ds.length d.ug/\zd ds.length d.to
structure dP(ds:List bB):Prop where
 len:ds.length<=4
 dt:∀(k:Nat)(d:bB),ds[k]? =some d->Gw ds k d
def Ge{aT:O}{i:List bB}(x:cx m aT i){f:Nat}{d:bB}(N:i[f]? =some d):dJ cw 152 [O.v aT,vi f] m (Gw i f d):=by
 apply AQ;simp -zeta only[aD,aC];have ac:=ax N;have y:=x.len;obtain⟨A,C,P,Q,R⟩:=x.E N;refine⟨V,V,_,by simpa using P,_,by simpa using Q,_,by simpa using R,?_⟩;intro W u;have c:J m u:=((J.aB m).aK _).ai (ad _) _ _;have E:∀v∈[m.size],v<u.size:=by simp[u,W,av]
 have T:=C.len;refine dit (λs=>?_) λs=>?_
 ·refine dit (λS=>?_) λS=>?_
  ·exact cK (λa=>by have:=(a.iL V).1;omega) c
  refine⟨λg=>?_,λg=>?_⟩
  ·simp only[vj]at g;exact cK (λa=>g (a.iL V).2.1) c
  simp only[ij]at g;refine⟨λr=>?_,λr=>?_⟩
  ·simp only[vj]at r;exact cK (λa=>r (a.iL V).2.2.1) c
  simp only[ij]at r;refine eU (n:=d.cons.length) (T▸C.fS) (λf F=>J u F/\∀A∈d.cons.take f,A.length<=3/\EF i.length A) ⟨J.aB _,D⟩ ?_;rintro j z I μ U ⟨h,t⟩ H
  refine dit (λB=>?_) λB=>?_
  ·obtain⟨G,w⟩:=ag (l:=d.cons) (k:=j) V;obtain⟨K,M,L⟩:=(oY.ext (c.trans h) C).E w;have Y:=M.len;refine⟨V,V,K,by simpa using L,dit (λq=>?_) λq=>?_⟩
   ·exact cK (λa=>by have:=((a.iL V).2.2.2 G (ar w)).1;omega) (c.trans h)
   ·refine⟨V,V,K,by simpa using L,?_⟩;refine(vS M _).aI h E λv X p o b=>⟨_,rfl,λe=>?_,λe=>?_⟩
    ·exact cK (λa=>nb p e (y▸((a.iL V).2.2.2 G (ar w)).2)) (c.trans b)
    ·exact H V _ ⟨b,bV w t ⟨V,y▸yb p e⟩⟩
  ·exact jG ⟨λ_=>⟨V,g,r,dq V t⟩,λL=>V⟩ (c.trans h)
 ·have G:d.cons.length=0:=V;have aa:=x.fS;refine eU (n:=f) V (λf F=>J u F/\∀g∈i.take f,¬(g.cons.length=0/\g.ug=d.ug/\g.to=d.to)) ⟨J.aB _,D⟩ ?_;rintro j z I μ U ⟨h,t⟩ H
  refine dit (λB=>?_) λB=>?_
  ·obtain⟨g,w⟩:=ag (l:=i) (k:=j) V;obtain⟨K,M,Y,Z,q2⟩:=(cx.ext (c.trans h) x).E w;have ab:=M.len;have F:¬(g.cons.length=0/\g.ug=d.ug/\g.to=d.to)->I (cW ((j:Int)+1)) z/\μ (cW ((j:Int)+1)) z<μ j z:=λr=>H V _ ⟨h,bV w t r⟩
   refine⟨V,V,K,by simpa using q2,λq=>?_,λq=>?_⟩
   ·simp only[aF]at q;refine⟨V,V,_,by simpa using Y,λo=>?_,λo=>?_⟩
    ·simp only[aF]at o;refine⟨V,V,_,by simpa using Z,λb=>?_,λb=>?_⟩
     ·simp only[aF]at b;have S:g∈i.take f:=by
       rw[List.mem_iff_getElem?];exact⟨j,by rw[nv,ao V];exact w⟩
      exact cK (λa=>(a.QZ G).1 g S ⟨V,o,b⟩) (c.trans h)
     ·simp only[ak]at b;exact F (λr=>b r.2.2)
    ·simp only[ak]at o;exact F (λr=>o r.2.1)
   ·simp only[ak]at q;exact F (λr=>q V)
  ·have g:j=f:=V;subst g;refine(bF _ _ _ _).aI h E λv X p o b=>⟨_,rfl,λe=>?_,λe=>?_⟩
   ·have e:=p.1 e;refine(bF _ _ _ _).aI b E λv w p r q=>⟨_,rfl,ft ?_ (c.trans q)⟩;rw[p];rw[y]at e⊢;exact⟨λs=>⟨λL=>V,λ_=>⟨t,e,s⟩⟩,λs=>(s.QZ G).2.2⟩
   ·exact cK (λa=>fb p e (y▸(a.QZ G).2.1)) (c.trans b)
def Ev{aT:O}{a:List bB}(o:cx m aT a):dJ cw 110 [O.v aT] m (dP a):=by
 apply yU;have x:=o.len;refine dit (λr=>?_) λr=>?_
 ·exact cK (λf=>by have:=f.len;omega) (J.aB _)
 ·refine eU (n:=a.length) V (λt u=>J m u/\∀(j:Nat)(d:bB),j<t->a[j]? =some d->Gw a j d) ⟨J.aB _,D⟩ ?_;rintro j A I μ z ⟨b,p⟩ v
  refine dit (λs=>?_) λs=>?_
  ·obtain⟨q,e⟩:=ag (l:=a) (k:=j) V;refine(Ge (cx.ext b o) e).then λw B h g=>⟨_,rfl,λc=>?_,λc=>?_⟩
   ·exact cK (λf=>nb h c (f.dt j q e)) (b.trans g)
   ·refine v V _ ⟨b.trans g,λi d y bO=>?_⟩
    by_cases f:i=j
    ·subst f;rw[e]at bO;simp at bO;subst bO;exact yb h c
    ·exact p i d V bO
  ·exact jG ⟨V,λi d bO=>p i d (by have:=ax bO;omega) bO⟩ b
end
section
variable{a:Nat}{m:I}
def fc:List bB->Nat->Nat
 |_,0=>0
 |[],_=>0
 |d::b,a+1=>d.cons.length+fc b a
def eK(a:List bB):List (List Int):=a.flatMap bB.cons
def P2(a:Nat):fc [] a=0:=by cases a<;>rfl
def sk:∀{b:List bB}{a:Nat}{c:bB},b[a]? =some c->fc b (a+1)=fc b a+c.cons.length
 |[],a,c,h=>by simp at h
 |e::b,0,c,h=>by
  simp at h;subst h;simp only[fc];cases b<;>simp[fc]
 |e::b,a+1,c,h=>by
  have:=sk (b:=b) (a:=a) (c:=c) (by simpa using h);simp only[fc]at this⊢;omega
def mL:∀(b:List bB)(a:Nat),b.length<=a->fc b a=(eK b).length
 |[],a,_=>by rw[P2];rfl
 |d::b,0,h=>by simp at h
 |d::b,a+1,h=>by
  have:=mL b a (by simpa using h);simp only[fc,eK,mj,aZ]at this⊢;omega
def QQ:∀(a:List bB){b c:Nat},b<=c->fc a b<=fc a c
 |[],b,c,_=>by simp[P2]
 |d::a,0,c,_=>by simp[fc]
 |d::a,b+1,0,h=>V
 |d::a,b+1,c+1,h=>by
  have:=QQ a (b:=b) (c:=c) V;simp only[fc];omega
def lg{b:List bB}(h:dP b){d:bB}(e:b[a]? =some d):d.cons.length<=3:=by
 rcases jT d.cons.length with c|c
 ·omega
 ·exact((h.dt a d e).iL c).1
def SE{b:List bB}(h:dP b):∀a,fc b a<=3*a
 |0=>by cases b<;>simp[fc]
 |a+1=>by
  have f:=SE h a;rcases be a b.length with c|c
  ·obtain⟨e,d⟩:=ag c;rw[sk d];have:=lg h d;omega
  ·rw[mL b (a+1) V,<-mL b a c];omega
def qS{b:List bB}(h:dP b)(a:Nat):fc b a<=12:=by
 rcases be a b.length with c|c
 ·have:=SE h a;have:=h.len;omega
 ·rw[mL b a c,<-mL b b.length (ad _)];have:=SE h b.length;have:=h.len;omega
def qR:∀(a:List bB)(i j:Nat)(d:bB),a[i]? =some d->j<d.cons.length->(eK a)[fc a i+j]? =d.cons[j]?
 |[],i,j,d,h,_=>by simp at h
 |e::a,0,j,d,h,b=>by
  simp at h;subst h;simp only[fc,eK,mj,cC];rw[aw b]
 |e::a,i+1,j,d,h,b=>by
  have:=qR a i j d (by simpa using h) b;simp only[fc,eK,mj]at this⊢;rw[aG V,<-this];congr 1;omega
def uI:∀(a:List bB)(c:Nat),c<(eK a).length->∃i d,a[i]? =some d/\fc a i<=c/\c<fc a i+d.cons.length
 |[],c,h=>by simp[eK]at h
 |e::a,c,h=>by
  rcases be c e.cons.length with b|b
  ·exact⟨0,e,D,by simp[fc],by simpa[fc]using b⟩
  ·obtain⟨i,d,f,g,j⟩:=uI a (c -e.cons.length) (by simp only[eK,mj,aZ]at h⊢;omega);exact⟨i+1,d,by simpa using f,by simp only[fc];omega,by simp only[fc];omega⟩
def jX{aT:O}{b:List bB}(f:cx m aT b)(d:dP b)(y:a<=b.length):EH cw 187 [O.v aT,vi a] m (vi (fc b a)):=by
 apply Cb;have w:=f.len;have:=d.len;refine dU (n:=a) V (λj h c=>J m c/\h=(fc b j:Nat)) ⟨J.aB _,by cases b<;>rfl⟩ ?_;rintro j h z I μ x ⟨e,rfl⟩ q
 refine dit (λp=>?_) λp=>?_
 ·obtain⟨r,c⟩:=ag (l:=b) (k:=j) V;obtain⟨i,g,s,t,o⟩:=(cx.ext e f).E c;refine⟨V,V,i,by simpa using o,?_⟩;refine q V _ _ ⟨e,?_⟩
  have u:=qS d j;have v:=lg d c;rw[aQ V (by have:=g.len;omega),sk c,g.len];rfl
 ·have:j=a:=V;subst this;exact⟨rfl,e⟩
def qu{aT:O}{a:List bB}(e:cx m aT a)(c:dP a):EH cw 179 [O.v aT] m (vi (eK a).length):=by
 apply BU;have v:=e.len;have:=c.len;refine dU (n:=a.length) V (λj g b=>J m b/\g=(fc a j:Nat)) ⟨J.aB _,by cases a<;>rfl⟩ ?_;rintro j g x I μ w ⟨d,rfl⟩ p
 refine dit (λo=>?_) λo=>?_
 ·obtain⟨q,b⟩:=ag (l:=a) (k:=j) V;obtain⟨h,f,r,s,i⟩:=(cx.ext d e).E b;refine⟨V,V,h,by simpa using i,?_⟩;refine p V _ _ ⟨d,?_⟩
  have t:=qS c j;have u:=lg c b;rw[aQ V (by have:=f.len;omega),sk b,f.len];rfl
 ·refine⟨?_,d⟩;rw[mL a j V]
def WV(a:List bB)(c t:Int):Prop:=
 (∃(i:Nat)(d:bB),t=i+1/\a[i]? =some d/\(fc a i:Int)<=c/\c<fc a i+d.cons.length)\/(t= -1/\¬(0<=c/\c<(eK a).length))
def lY{aT:O}{a:List bB}(r:cx m aT a)(o:dP a)(c:Int):aO cw 154 [O.v aT,vi c] m λK s=>∃y,K=vi y/\WV a c y/\J m s:=by
 apply DP;have Q:=r.len;have:=o.len;refine eU (n:=a.length) V (λj s=>J m s/\∀(i:Nat)(d:bB),i<j->a[i]? =some d->¬((fc a i:Int)<=c/\c<fc a i+d.cons.length)) ⟨J.aB _,D⟩ ?_;rintro j T L μ S ⟨b,v⟩ I
 refine dit (λE=>?_) λE=>?_
 ·obtain⟨d,h⟩:=ag (l:=a) (k:=j) V;refine(jX (cx.ext b r) o V).then λU e=>⟨_,rfl,?_⟩;obtain⟨p,G,N,P,C⟩:=(cx.ext (b.trans e) r).E h;refine⟨V,V,p,by simpa using C,?_⟩;have q:=qS o j;have F:=lg o h;have H:=G.len;have B:cW (cW ((fc a j:Int)+(p.len:Int)) -1)=(fc a j:Int)+d.cons.length -1:=by
   rw[aQ (b:=(fc a j:Int)+(p.len:Int)) V V,aQ V V,H]
  rw[B];refine(bF _ _ _ _).then λM W u t=>⟨_,rfl,λf=>?_,λf=>?_⟩
  ·have f:=u.1 f;refine⟨_,rfl,Or.inl ⟨j,d,?_,h,V,V⟩,(b.trans e).trans t⟩;rw[aQ V V]
  ·refine I V _ ⟨(b.trans e).trans t,λi z R g=>?_⟩
   by_cases A:i=j
   ·subst A;rw[h]at g;simp at g;subst g;intro w;exact fb u f ⟨w.1,V⟩
   ·exact v i z V g
 ·refine⟨_,rfl,Or.inr ⟨rfl,λw=>?_⟩,b⟩;obtain⟨i,d,q,e,F⟩:=uI a c.toNat V;exact v i d (by have:=ax q;omega) q ⟨V,V⟩
def cD(a:List bB)(c:Int):List Int:=if 0<=c then((eK a)[c.toNat]?).getD []else[]
def FF{aT:O}{a:List bB}(e:cx m aT a)(d:dP a)(c:Int):aO cw 155 [O.v aT,vi c] m λB q=>∃s,B=O.v s/\ap q s (cD a c)/\J m q:=by
 apply rf;have L:=e.len;have:=d.len;refine(lY e d c).mono ?_;rintro _ P ⟨R,rfl,n,f⟩;refine⟨_,rfl,dit (λy=>?_) λy=>?_⟩
 ·refine⟨_,rfl,?_,f.aK _⟩;have h:cD a c=[]:=by
   rcases n with⟨i,g,z,_⟩|⟨_,b⟩
   ·omega
   ·unfold cD;split
    ·rw[cY V];rfl
    ·rfl
  rw[h];exact⟨rfl,ad _,D,D⟩
 ·rcases n with⟨i,g,rfl,b,H,I⟩|⟨z,_⟩
  ·have N:=ax b;obtain⟨v,o,E,F,j⟩:=(cx.ext f e).E b;have r:cW ((i:Int)+1 -1)=i:=by rw[aQ V V];omega
   rw[r];refine⟨V,V,v,by simpa using j,?_⟩;refine(jX (cx.ext f e) d V).then λQ h=>⟨_,rfl,h.cV (by simpa using j),?_⟩;have G:=qS d i;have K:=lg d b;have M:=o.len;obtain⟨C,p⟩:=ag (l:=g.cons) (k:=(c -fc a i).toNat) V;obtain⟨w,A,x⟩:=(oY.ext h o).E p;have t:cW (c -(fc a i:Int))=c -fc a i:=aQ V V;rw[t];refine⟨V,V,w,x,_,rfl,?_,f.trans h⟩;have u:cD a c=C:=by
    unfold cD;rw[ao V];have:=qR a i (c -fc a i).toNat g b V;rw[show c.toNat=fc a i+(c -fc a i).toNat by omega,this,p];rfl
   rw[u];exact A
  ·omega
def cq(a:List bB)(t:Int):List Int:=
 if 1<=t/\t<=a.length then((a[t.toNat -1]?).map λd=>(List.range d.cons.length).map λi=>((fc a (t.toNat -1)+i:Nat):Int)).getD []else[]
def Ac{aT:O}{a:List bB}(g:cx m aT a)(c:dP a)(t:Int):aO cw 157 [O.v aT,vi t] m λP b=>∃s,P=O.v s/\ap b s (cq a t)/\J m b:=by
 apply uv;intro w;have Z:=g.len;have:=c.len;have v:J m w:=(J.aB m).aK _;have L:gG m w aE 1 (.mk m.size 0 0 0) []:=gG.new (J.aB m) aE 1 [] 0 D;refine(bF _ _ _ _).then λR m2 q f=>⟨_,rfl,λh=>?_,λh=>?_⟩
 ·refine⟨_,rfl,?_,v.trans f⟩;have e:cq a t=[]:=by
   unfold cq;rw[ae (by have:=nb q h;omega)]
  rw[e];exact⟨rfl,ad _,D,D⟩
 ·have h:=yb q h;have y:cW (t -1)=((t.toNat -1:Nat):Int):=by rw[aQ V V];omega
  rw[y];obtain⟨e,i⟩:=ag (l:=a) (k:=t.toNat -1) V;have z:cq a t=(List.range e.cons.length).map λo=>((fc a (t.toNat -1)+o:Nat):Int):=by
   unfold cq;rw[ao V,i];rfl
  rw[z];have X:=qS c (t.toNat -1);have Y:=lg c i;refine dU (n:=e.cons.length) V (λj s b=>J m b/\gG m b aE 1 s (((List.range j).map λo=>((fc a (t.toNat -1)+o:Nat):Int)).map Ce.i)/\s.len=j) ⟨v.trans f,by simpa using L.ext f,rfl⟩ ?_;rintro j s m3 Q μ hj ⟨d,r,u⟩ N
  obtain⟨B,I,S,T,C⟩:=(cx.ext d g).E i;have aa:=I.len;refine⟨V,V,B,by simpa using C,dit (λE=>?_) λE=>?_⟩
  ·refine(jX (cx.ext d g) c V).then λM p=>⟨_,rfl,?_⟩;intro x;have A:cW (((fc a (t.toNat -1):Nat):Int)+(j:Int))=((fc a (t.toNat -1)+j:Nat):Int):=by rw[aQ V V];omega
   have K:x=M.push (.cells (bG [.i (((fc a (t.toNat -1)+j:Nat):Int))]) aE):=by rw[<-A]
   clear_value x;subst K;refine gG.append (c:=[.i 0]) (i:=[.i ((fc a (t.toNat -1)+j:Nat):Int)]) ((r.ext p).ext (J.push _ _)) ((d.trans p).aK _) rfl (cF.push _ _ _).iP (by simp[u];omega) ?_;intro ab b F G H U W _;refine N V _ _ ⟨G,?_,by simp[H,u]⟩
   rw[RH,fD,fD];exact F
  ·have:j=e.cons.length:=V;subst this;exact⟨_,rfl,ap.fV r bJ,d⟩
end
section
variable{S:List Nat}{d:I}{s j a h:O}{e g p:List Int}{k f:Nat}{x:Int}{Q:List Int->Prop}{K:Value->I->Prop}
def _root_.Go.Vc.ap.cp{X:List Nat}{a:I}(b:ap (bO S d) s e)(f:Fz X d a)(c:∀h∈X,h∈S)(g:e[k]? =some x):af a s.F (s.off+k*1)=some (vi x):=
 (eg.1 ((b.le (f.da c)).E g)).2
def _root_.Go.Vc.ap.LD{a:I}(h:ap (bO S d) s e)(b:J d a)(c:e[k]? =some x):af a s.F (s.off+k*1)=some (vi x):=
 h.cp (b.fz []) D c
def EI(f:Nat)(b:List Value)(d:I)(S:List Nat)(Q:List Int->Prop):Prop:=aO cw f b d λv a=>∃s e,v=O.v s/\ap (bO S a) s e/\Q e/\J d a
def kT(f:Nat)(b:List Value)(d:I)(S:List Nat)(Q:List Int->Prop):Prop:=aO cw f b d λv a=>∃s e,v=O.v s/\Gr S d a aE 1 tI s e/\Q e/\J d a
def sM(f:Nat)(a:List Value)(d:I)(Q:Int->Prop):Prop:=aO cw f a d λv b=>∃n:Int,v=vi n/\Q n/\J d b
abbrev GI(S:List Nat)(a d:I)(s:O)(e:List Int):Prop:=Gr S a d aE 1 tI s e
def GI.nil(S:List Nat)(d:I):GI S d (d.push (.cells (bG []) aE)) (.mk d.size 0 0 0) []:=Gr.new S (ad _) aE 1 tI
def GI.kv{S X:List Nat}{c d:I}{s:O}{e:List Int}{a:Int}{K:O->I->Prop}(f:GI S c d s e)(g:Fz X c d)(j:∀h∈S,h<c.size)(k:e.length<=1000000000000)
 (i:∀r b,GI S c b r (e++[a])->Fz X c b->(d.size<=b.size/\(r.F=s.F\/d.size<=r.F))->(∀h,h<d.size->h≠s.F->b[h]? =d[h]?)->K r b):jE (d.push (.cells (bG [.i a]) aE)) aE [.i 0] 8 s (.mk d.size 0 1 1) K:=
 Gr.kv (g:=[.i 0]) tI.mono bh f g rfl V i
def GI.done{S:List Nat}{a d:I}{s:O}{e:List Int}(b:GI S a d s e)(c:∀h∈S,h<a.size)(f:e.length<=1000000000000):ap (bO S d) s e:=Gr.done tI.mono b c bh V
def GI.all{S X:List Nat}{b d:I}{s x:O}{e g:List Int}{K:O->I->Prop}(c:GI S b d s e)(f:Fz X b d)(k:∀h∈S,h<b.size)(j:ap (bO (s.F::S) d) x g)(l:e.length+g.length<=1000000000000)
 (i:∀r a,GI S b a r (e++g)->Fz X b a->(d.size<=a.size/\(r.F=s.F\/d.size<=r.F))->(∀h,h<d.size->h≠s.F->a[h]? =d[h]?)->K r a):jE d aE [.i 0] 8 s x K:=
 Gr.all (g:=[.i 0]) tI.mono bh c f j V i
def GI.jf{b a:I}(h:GI S b d s e)(j:a[s.F]? =d[s.F]?):GI S b a s e:=by
 obtain⟨f,c,g,i⟩:=h;exact⟨f,c,g.congr j,i.mono λ_ _ h=>h⟩
def GI.ext{S:List Nat}{b d a:I}{s:O}{e:List Int}(h:GI S b d s e)(c:J d a):GI S b a s e:=Gr.ext tI.mono h c
def _root_.Go.Vc.Gr.bY{α:Type}{S c:List Nat}{g i d:I}{f b:Nat}{R:I->List Ce->α->Prop}{s:O}{e:List α}(o:nZ b R)(k:Gr c i d f b R s e)(p:∀h∈S,h∈c\/d.size<=h)(q:g.size<=i.size):Gr S g d f b R s e:=by
 obtain⟨l,j,m,n⟩:=k;refine⟨l,j,m.bY q,n.mono λr x=>o.le ((J.aB d).bO λh a=>?_)⟩;rcases List.mem_cons.1 a with a|a
 ·exact Or.inl (by rw[a];exact ba)
 ·exact(p h a).imp (aj _) id
def GI.bY{S a:List Nat}{b c d:I}{s:O}{e:List Int}(f:GI a c d s e)(g:∀h∈S,h∈a)(j:b.size<=c.size):GI S b d s e:=Gr.bY tI.mono f (λh i=>Or.inl (g h i)) j
def kT.then{b:List Value}(h:kT f b d S Q)(k:∀s e a,GI S d a s e->Q e->J d a->K (O.v s) a):aO cw f b d K:=
 h.mono λ_ a⟨s,e,c,g,i,j⟩=>c▸k s e a g i j
def EI.then{b:List Value}(h:EI f b d S Q)(k:∀s e a,ap (bO S a) s e->Q e->J d a->K (O.v s) a):aO cw f b d K:=
 h.mono λ_ a⟨s,e,c,g,i,j⟩=>c▸k s e a g i j
def sM.then{b:List Value}{Q:Int->Prop}(h:sM f b d Q)(i:∀n a,Q n->J d a->K (vi n) a):aO cw f b d K:=
 h.mono λ_ a⟨n,e,c,g⟩=>e▸i n a c g
def sU{b:I}{h:Nat}(a:J d b)(c:d.size<=h):Le (bO S d) (bO (h::S) b):=a.bO λf e=>by
 rcases List.mem_cons.1 e with a|a
 ·exact Or.inr (by rw[a];exact c)
 ·exact Or.inl a
def lZ(b:∀h∈S,h<d.size)(i:ap (bO S d) j e)(c:e.length<=1000000000000):kT 57 [O.v j] d S (e=·):=by
 apply ns;intro k;have a:J d k:=J.push d _;exact GI.all (e:=[]) (X:=[]) (GI.nil S d) (a.fz []) b (i.le (sU a (ad _))) (by simpa using c) λr m g f _ _=>⟨r,e,rfl,by simpa using g,rfl,f.ext⟩
def pb(e g:List Int):Prop:=(∀x∈g,x∈e)/\g.length<=e.length
def oO(h:∀x∈g,x∈e)(b:x∈e):∀y∈g++[x],y∈e:=by
 intro y a;rcases List.mem_append.1 a with a|a
 ·exact h y a
 ·simp at a;subst a;exact b
def AX(t:∀h∈S,h<d.size)(b:ap (bO S d) j e)(v:Int)(w:e.length<=1000000000000):kT 294 [O.v j,vi v] d S (pb e):=by
 apply Ey;intro A;have u:=b.len;refine dU (n:=e.length) (u▸b.fS) (λk s a=>J d a/\∃g,GI S d a s g/\(∀x∈g,x∈e)/\g.length<=k) ⟨J.push d _,[],GI.nil S d,D,ad _⟩ ?_;rintro k s B I μ z ⟨a,g,c,i,y⟩ o
 refine dit (λq=>?_) λq=>?_
 ·obtain⟨x,m⟩:=ag (l:=e) (k:=k) V;refine⟨V,V,x,b.LD a m,λr=>⟨V,V,x,b.LD a m,?_⟩,λr=>o V _ _ ⟨a,g,c,i,V⟩⟩;intro C;exact GI.kv c (a.fz []) t V λF E p f _ _=>o V _ _ ⟨f.ext,_,p,oO i (ar m),bJ⟩
 ·exact⟨s,g,rfl,c,⟨i,V⟩,a⟩
def NO(t:∀h∈S,h<d.size)(b:ap (bO S d) j e)(v:Int)(w:e.length<=1000000000000):kT 335 [O.v j,vi v] d S (pb e):=by
 apply Ho;intro A;have u:=b.len;refine dU (n:=e.length) (u▸b.fS) (λk s a=>J d a/\∃g,GI S d a s g/\(∀x∈g,x∈e)/\g.length<=k) ⟨J.push d _,[],GI.nil S d,D,ad _⟩ ?_;rintro k s B I μ z ⟨a,g,c,i,y⟩ o
 refine dit (λq=>?_) λq=>?_
 ·obtain⟨x,m⟩:=ag (l:=e) (k:=k) V;refine⟨V,V,x,b.LD a m,λr=>⟨V,V,x,b.LD a m,?_⟩,λr=>o V _ _ ⟨a,g,c,i,V⟩⟩;intro C;exact GI.kv c (a.fz []) t V λF E p f _ _=>o V _ _ ⟨f.ext,_,p,oO i (ar m),bJ⟩
 ·exact⟨s,g,rfl,c,⟨i,V⟩,a⟩
def LX(v:∀h∈S,h<d.size)(i:ap (bO S d) a e)(w:ap (bO S d) h p)(B:e.length<=1000000000000):kT 321 [O.v a,O.v h] d S (pb e):=by
 apply FE;intro F;have y:=i.len;refine dU (n:=e.length) (y▸i.fS) (λk s b=>J d b/\∃g,GI S d b s g/\(∀x∈g,x∈e)/\g.length<=k) ⟨J.push d _,[],GI.nil S d,D,ad _⟩ ?_;rintro k s G I μ E ⟨b,g,j,m,C⟩ q
 refine dit (λt=>?_) λt=>?_
 ·obtain⟨x,o⟩:=ag (l:=e) (k:=k) V;refine⟨V,V,x,i.LD b o,?_⟩;refine(dp ((w.le (bD _ _)).ext b) x).then λA H _ c=>⟨_,rfl,λu=>⟨V,V,x,i.LD (b.trans c) o,?_⟩,λu=>q V _ _ ⟨b.trans c,g,j.ext c,m,V⟩⟩;intro z;exact GI.kv (j.ext c) ((b.trans c).fz []) v V λK z r f _ _=>q V _ _ ⟨f.ext,_,r,oO m (ar o),bJ⟩
 ·exact⟨s,g,rfl,j,⟨m,V⟩,b⟩
def _root_.Go.Vc.wK{σ τ:Type}{n:Nat}(q:n<=9223372036854775807){j:σ}{l:τ}{h:(σ->τ->Int->I->Prop)->(σ->τ->Int->I->Nat)->σ->τ->Int->I->Prop}(Q:Nat->σ->τ->I->Prop)(o:Q 0 j l d)
 (m:∀(k:Nat)(s:σ)(t:τ)(a:I)(b:σ->τ->Int->I->Prop)(μ:σ->τ->Int->I->Nat),k<=n->Q k s t a->
  (k<n->∀e f c,Q (k+1) e f c->b e f (cW ((k:Int)+1)) c/\μ e f (cW ((k:Int)+1)) c<μ s t k a)->h b μ s t k a):
 ∃(b:σ->τ->Int->I->Prop)(μ:σ->τ->Int->I->Nat),b j l 0 d/\∀s t i a,b s t i a->h b μ s t i a:=by
 refine⟨λs t i c=>∃k:Nat,i=k/\k<=n/\Q k s t c,λ_ _ i _=>(n -i).toNat,⟨0,rfl,eJ _,o⟩,?_⟩
 rintro s t i a ⟨k,rfl,p,r⟩
 refine m k s t a _ _ p r λg e f c u=>?_
 rw[ka g q]
 exact⟨⟨k+1,rfl,g,u⟩,Fp g⟩
def V6(e:List Int)(n:Int)(g:List Int):Prop:=(∀x∈g,x∈e\/x=n)/\g.length<=e.length+1
def Bj{n:Int}(h:∀x∈g,x∈e\/x=n)(b:x∈e\/x=n):∀y∈g++[x],y∈e\/y=n:=by
 intro y a;rcases List.mem_append.1 a with a|a
 ·exact h y a
 ·simp at a;subst a;exact b
def mr(q:∀h∈S,h<d.size)(z:ap (bO S d) j e)(v:Int)(Q:e.length<1000000000000):kT 275 [O.v j,vi v] d S (V6 e v):=by
 apply FO;intro U;have N:=z.len;refine wK (n:=e.length) (N▸z.fS) (λk s c b=>J d b/\∃g,GI S d b s g/\(∀x∈g,x∈e\/x=v)/\g.length<=k+(if c=true then 1 else 0)) ⟨J.push d _,[],GI.nil S d,D,ad _⟩ ?_;rintro k s c B K μ T ⟨a,g,t,u,y⟩ H
 have R:g.length<=k+1:=by split at y<;>omega
 refine dit (λw=>?_) λw=>?_
 ·obtain⟨x,C⟩:=ag (l:=e) (k:=k) V;have G:∀{b:I},J d b->af b j.F (j.off+k*1)=some (vi x):=λw=>z.LD w C;have E:x∈e\/x=v:=Or.inl (ar C);have A:∀p:Bool,(g++[x]).length<=k+1+(if p=true then 1 else 0)->jE (B.push (.cells (bG [.i x]) aE)) aE [.i 0] 8 s (.mk B.size 0 1 1) λr b=>K r p (cW ((k:Int)+1)) b/\μ r p (cW ((k:Int)+1)) b<μ s c k B:=λp o=>
   GI.kv t (a.fz []) q V λr F i f _ _=>H V _ _ _ ⟨f.ext,_,i,Bj u E,o⟩
  refine⟨λm=>⟨V,V,x,G a,λL=>⟨V,V,x,G a,λM=>?_,λM=>⟨V,V,x,G a,A true bJ⟩⟩,λL=>⟨V,V,x,G a,A c ?_⟩⟩,λm=>⟨V,V,x,G a,A c ?_⟩⟩
  ·have o:c=false:=by simpa using m
   subst o;simp at y;intro P;refine GI.kv t (a.fz []) q V λr F i f _ _=>⟨V,V,x,G f.ext,?_⟩;intro W;exact GI.kv i f q bJ λr X i f _ _=>H V _ _ _ ⟨f.ext,_,i,Bj (Bj u (Or.inr rfl)) E,bJ⟩
  ·simp only[aZ,aY,dY];omega
  ·simp only[aZ,aY,dY];omega
 ·refine⟨λm=>?_,λm=>⟨s,g,rfl,t,⟨u,V⟩,a⟩⟩;have o:c=false:=by simpa using m
  subst o;simp at y;intro P;exact GI.kv t (a.fz []) q V λr F i f _ _=>⟨r,_,rfl,i,⟨Bj u (Or.inr rfl),bJ⟩,f.ext⟩
def rY(z:∀h∈S,h<d.size)(m:ap (bO S d) j e)(C:Int)(E:e.length<=1000000000000):kT 271 [O.v j,vi C] d S (pb e):=by
 apply wu;intro K;have B:=m.len;refine wK (n:=e.length) (B▸m.fS) (λk s _ a=>J d a/\∃g,GI S d a s g/\(∀x∈g,x∈e)/\g.length<=k) ⟨J.push d _,[],GI.nil S d,D,ad _⟩ ?_;rintro k s c p I μ H ⟨b,g,i,o,F⟩ t
 refine dit (λv=>?_) λv=>?_
 ·obtain⟨x,q⟩:=ag (l:=e) (k:=k) V;have G:=m.LD b q;have A:jE (p.push (.cells (bG [.i x]) aE)) aE [.i 0] 8 s (.mk p.size 0 1 1) λr a=>I r c (cW ((k:Int)+1)) a/\μ r c (cW ((k:Int)+1)) a<μ s c k p:=
   GI.kv i (b.fz []) z V λr L u f _ _=>t V _ _ _ ⟨f.ext,_,u,oO o (ar q),bJ⟩
  exact⟨V,V,x,G,λw=>⟨λy=>t V _ _ _ ⟨b,g,i,o,V⟩,λy=>⟨V,V,x,G,A⟩⟩,λw=>⟨V,V,x,G,A⟩⟩
 ·exact⟨s,g,rfl,i,⟨o,V⟩,b⟩
def NU(f:∀h∈S,h<d.size)(w:ap (bO S d) a e)(i:ap (bO S d) h p)(j:e.length+p.length<=1000000000000):kT 289 [O.v a,O.v h] d S (λg=>(∀x∈g,x∈e\/x∈p)/\g.length<=e.length+p.length):=by
 apply HW;refine(lZ f w V).then λN _ H v t D=>⟨_,rfl,?_⟩;subst t;have z:=i.len;refine dU (n:=p.length) (z▸i.fS) (λk s b=>J d b/\∃g,GI S d b s g/\(∀x∈g,x∈e\/x∈p)/\g.length<=e.length+k) ⟨D,_,v,λx c=>Or.inl c,ad _⟩ ?_;rintro k s K I μ G ⟨c,g,m,o,F⟩ C
 refine dit (λb=>?_) λb=>?_
 ·obtain⟨x,q⟩:=ag (l:=p) (k:=k) V;refine⟨V,V,x,i.LD c q,?_⟩;refine(mr (λh j=>aP (f h j) c.size) (m.done f V) x V).then λM B L u r E=>⟨_,rfl,C V _ _ ⟨c.trans E,B,u.bY (λ_ b=>b) c.size,λy A=>?_,by have:=r.2;omega⟩⟩;rcases r.1 y A with b|b
  ·exact o y b
  ·subst b;exact Or.inr (ar q)
 ·exact⟨s,g,rfl,m,⟨o,V⟩,c⟩
def tq(a:Int)(d:I):dJ cw 308 [vi a] d (14<=a/\a<=17):=by
 apply yG;exact(bF _ _ _ _).then λh e c b=>⟨_,rfl,ft c b⟩
def eG(c:∀h∈S,h<d.size){iV:O}{a:List Int}(m:ap (bO S d) j e)(n:ap (bO S d) iV a)(l:e.length+a.length<=1000000000000):kT 213 [O.v j,O.v iV] d S (e++a=·):=by
 apply uy;refine(lZ c m V).then λq _ p b i g=>⟨_,rfl,?_⟩;subst i;exact GI.all b (g.fz []) c (n.le (sU g b.bg.1)) l λr o k f _ _=>⟨r,_,rfl,k,rfl,f.ext⟩
def rL(u:∀h∈S,h<d.size)(m:ap (bO S d) j e)(a:Nat)(z:a+e.length<=1000000000000):kT 218 [O.v j,vi a] d S (λg=>(∀x∈g,(a:Int)<=x/\x<a+e.length)/\g.length<=e.length):=by
 apply Cf;intro C;have v:=m.len;refine dU (n:=e.length) (v▸m.fS) (λk s b=>J d b/\∃g,GI S d b s g/\(∀x∈g,(a:Int)<=x/\x<a+e.length)/\g.length<=k) ⟨J.push d _,[],GI.nil S d,D,ad _⟩ ?_;rintro k s E I μ B ⟨c,g,i,o,A⟩ p
 refine dit (λr=>?_) λr=>?_
 ·obtain⟨x,w⟩:=ag (l:=e) (k:=k) V;refine⟨V,V,x,m.LD c w,λt=>?_,λt=>p V _ _ ⟨c,g,i,o,V⟩⟩;rw[aQ (b:=(a:Int)+k) V V];intro F;refine GI.kv i (c.fz []) u V λH G q f _ _=>p V _ _ ⟨f.ext,_,q,?_,bJ⟩
  intro y b;rcases List.mem_append.1 b with b|b
  ·exact o y b
  ·simp at b;omega
 ·exact⟨s,g,rfl,i,⟨o,V⟩,c⟩
def lS(o:∀h∈S,h<d.size)(a b:Nat)(q:a+b<=1000000000000):kT 189 [vi a,vi b] d S (λg=>(∀x∈g,(a:Int)<=x/\x<a+b)/\g.length=b):=by
 apply xl;intro u;refine dU (n:=b) V (λk s c=>J d c/\∃g,GI S d c s g/\(∀x∈g,(a:Int)<=x/\x<a+b)/\g.length=k) ⟨J.push d _,[],GI.nil S d,D,rfl⟩ ?_;rintro k s v I μ t ⟨j,g,e,i,r⟩ p
 refine dit (λm=>?_) λm=>?_
 ·rw[aQ (b:=(a:Int)+k) V V];intro w;refine GI.kv e (j.fz []) o V λA z l f _ _=>p V _ _ ⟨f.ext,_,l,?_,bJ⟩
  intro y c;rcases List.mem_append.1 c with c|c
  ·exact i y c
  ·simp at c;omega
 ·exact⟨s,g,rfl,e,⟨i,V⟩,j⟩
def GM(e:List Int):(e.map λx=>[Ce.i x]).flatten=e.map Ce.i:=by induction e<;>simp_all
def GI.set{S X:List Nat}{q d:I}{s:O}{e:List Int}(u:GI S q d s e)(P:Fz X q d){k:Nat}(C:k<e.length)(n:Int):
 fH d s.F (s.off+k*1) 1/\GI S q (ai d s.F (s.off+k*1) [.i n]) s (e.set k n)/\Fz X q (ai d s.F (s.off+k*1) [.i n])/\(∀h,h≠s.F->(ai d s.F (s.off+k*1) [.i n])[h]? =d[h]?):=by
 have U:=u.bg
 have W:=u.len bh
 obtain⟨w,j,K,g⟩:=u
 have T:∀h,h≠s.F->(ai d s.F (s.off+k*1) [.i n])[h]? =d[h]? :=λh N=>bd _ _ _ _ N
 obtain⟨h,F,tail,t,G,v,H,J⟩:=K.E.resolve_left w
 have Q:j.flatten.length=e.length:=by rw[cr g.size,g.len];omega
 have R:j.flatten=e.map Ce.i:=by
  apply iy;intro f;rcases be f e.length with a|a
  ·obtain⟨x,p⟩:=ag a;obtain⟨cs,z⟩:=ag (l:=j) (k:=f) (by rw[g.len];exact a);have A:cs=[.i x]:=g.dt f cs x z p;have y:=fK (g:=1) g.size z (i:=0) (c:=.i x) (by rw[A];rfl);simp only[gX,ju]at y;rw[y];simp[p]
  ·rw[cY V,cY (by simpa using a)]
 have E:s.off+k*1=k:=by rw[t];simp
 have y:s.F=h:=by rw[t];rfl
 refine⟨?_,⟨w,(e.set k n).map λx=>[.i x],⟨?_,Or.inr ⟨h,F,tail,t,G,?_,?_,J⟩⟩,⟨by rw[dR],λcs z=>?_,λY cs x B p=>?_⟩⟩,P.ai (Or.inr U.1) _ _,T⟩
 ·rw[E,y]
  exact v.fH (by simp only[aZ,aY,dY];omega)
 ·rw[GM,dR,dZ];omega
 ·have L:=cF.ai (m:=d) (b:=h) (r:=[.i n]) (o:=k) v
  rw[E,y,GM]
  have M:iX (j.flatten++tail) k [.i n]=(e.set k n).map Ce.i++tail:=by
   apply iy;intro f;rw[vQ,R];by_cases A:f=k
   ·subst A;rw[ao ⟨ad _,D,bJ⟩,aw (by simpa using C)];simp[C]
   ·rw[ae bJ];rcases be f e.length with a|a
    ·rw[aw (by simpa using a),aw (by simpa using a)];simp only[cQ,cy (kd A)]
    ·rw[aG (by simpa using a),aG (by simpa using a)];simp
  rw[<-M];exact L
 ·rw[<-H,GM]
  simp only[aZ,Q,dR,dZ]
 ·simp only[Wu]at z
  obtain⟨x,_,rfl⟩:=z
  rfl
 ·simp only[cQ,p,nR,Da]at B
  exact B.symm
def uD(k:∀h∈S,h<d.size)(o:ap (bO S d) j e)(m:e.length<=1000000000000){a:Nat}(l:a<e.length)(n:Int):kT 233 [O.v j,vi a,vi n] d S (e.set a n=·):=by
 apply yW;refine(lZ k o m).then λs _ q g b p=>⟨_,rfl,V,?_,?_⟩
 ·subst b;have:=g.len bh;omega
 subst b;obtain⟨c,f,i,_⟩:=g.set (p.fz []) l n;exact⟨c,s,_,rfl,f,rfl,i.ext⟩
end
end Go.Proofs.YtgnjacfobdjeeaaGreat
section
namespace Go.Vc
variable{l:List cR}{k d a:Nat}{x s:cR}{c:Prop}
open Go.Proofs.YtgnjacfobdjeeaaGreat
def Bk.ind{Q:Bk->Prop}(h:∀aA r,(∀s∈aA,∀b∈s.bE,Q b)->Q (.mk aA r)):∀b,Q b
 | .mk aA r=>h aA r λs _ b _=>Bk.ind h b
termination_by b=>SizeOf.sizeOf b
decreasing_by
 rename_i a c
 have d:=oH a
 have e:=oH c
 have f:SizeOf.sizeOf s.bE<SizeOf.sizeOf s:=by cases s;simp;omega
 simp;omega
def Ex.ind{Q:Ex->Prop}(h:∀a bN bE,(∀e∈bE,Q e)->Q (.mk a bN bE)):∀e,Q e
 | .mk a bN bE=>h a bN bE λe _=>Ex.ind h e
termination_by e=>SizeOf.sizeOf e
decreasing_by
 rename_i a
 have b:=oH a
 simp;omega
def sw(l:List cR):Nat:=(l.map Lv.w).sum
def bw(l:List Bk):Nat:=(l.map Bk.w).sum
def en(l:List Ex):Nat:=(l.map Ex.n).sum
@[simp] theorem va:sw []=0:=rfl
@[simp] theorem zk:bw []=0:=rfl
@[simp] theorem Wc:en []=0:=rfl
def mE(x:cR)(l:List cR):sw (x::l)=x.w+sw l:=by simp[sw]
def ud(x:Bk)(l:List Bk):bw (x::l)=x.w+bw l:=by simp[bw]
def Np(x:Ex)(l:List Ex):en (x::l)=x.n+en l:=by simp[en]
def dy(a b:List cR):sw (a++b)=sw a+sw b:=by simp[sw]
def oL(a b:List Bk):bw (a++b)=bw a+bw b:=by simp[bw]
def Mz(a b:List Ex):en (a++b)=en a+en b:=by simp[en]
def Bk.qA(s:List cR)(r:Int):(Bk.mk s r).w=1+sw s:=Bk.Yz _
def Bk.mf(b:Bk):b.w=1+sw b.aA:=Bk.Yz b
def cR.mf(s:cR):s.w=1+s.args.length+bw s.bE:=rfl
def Ex.Rt(o n:Int)(k:List Ex):(Ex.mk o n k).n=1+en k:=by rw[Ex.n];rfl
def Ex.XB(e:Ex):e.n=1+en e.bE:=by cases e;exact Ex.Rt _ _ _
def pN(h:l[k]? =some x):sw (l.take (k+1))=sw (l.take k)+x.w:=by rw[bn h,dy,mE,va];rfl
def ue{l:List Bk}{x:Bk}(h:l[k]? =some x):bw (l.take (k+1))=bw (l.take k)+x.w:=by rw[bn h,oL,ud,zk];rfl
def JE{l:List Ex}{x:Ex}(h:l[k]? =some x):en (l.take (k+1))=en (l.take k)+x.n:=by rw[bn h,Mz,Np,Wc];rfl
def AZ(l:List cR)(k:Nat):sw (l.take k)<=sw l:=by
 have:=dy (l.take k) (l.drop k);rw[dg]at this;omega
def JX(l:List Bk)(k:Nat):bw (l.take k)<=bw l:=by
 have:=oL (l.take k) (l.drop k);rw[dg]at this;omega
def QP(l:List Ex)(k:Nat):en (l.take k)<=en l:=by
 have:=Mz (l.take k) (l.drop k);rw[dg]at this;omega
def NX(h:l[k]? =some x):x.w<=sw l:=by
 have:=pN h;have:=AZ l (k+1);omega
def wH{l:List Bk}{x:Bk}(h:l[k]? =some x):x.w<=bw l:=by
 have:=ue h;have:=JX l (k+1);omega
def fO:∀l:List cR,l.length<=sw l
 |[]=>D
 |x::l=>by have:=fO l;rw[mE,aY,cR.mf];omega
def Bk.Gq(b:Bk):1<=b.w:=by rw[Bk.mf];omega
def pY:∀l:List Bk,l.length<=bw l
 |[]=>D
 |x::l=>by have:=pY l;have:=x.Gq;rw[ud,aY];omega
def PX:∀l:List Ex,l.length<=en l
 |[]=>D
 |x::l=>by have:=PX l;rw[Np,aY,Ex.XB];omega
def oZ(a:Int):Prop:=0<=a/\a<=11
instance(a:Int):Decidable (oZ a):=inferInstanceAs (Decidable (_/\_))
def dn(s:cR):Nat:=if oZ s.op then 1 else 0
def dc(l:List cR):Nat:=(l.map dn).sum
@[simp] theorem sQ:dc []=0:=rfl
def kC(x:cR)(l:List cR):dc (x::l)=dn x+dc l:=by simp[dc]
def cT(a b:List cR):dc (a++b)=dc a+dc b:=by simp[dc]
def qF(h:l[k]? =some x):dc (l.take (k+1))=dc (l.take k)+dn x:=by rw[bn h,cT,kC,sQ];rfl
def Sn(l:List cR)(k:Nat):dc (l.take k)<=dc l:=by
 have:=cT (l.take k) (l.drop k);rw[dg]at this;omega
def Xi(x:cR):dn x<=1:=by unfold dn;split<;>omega
def sP:∀l:List cR,dc l<=l.length
 |[]=>D
 |x::l=>by have:=sP l;have:=Xi x;rw[kC,aY];omega
def Be(a:List bB)(b bN:Int)(i:Nat):Nat:=if b=8 then(cD a (((cq a bN)[i]?).getD 0)).length else 0
structure TG(ds:List bB)(d:Nat)(c:Prop)(a:Nat)(s:cR):Prop where
 op:oZ s.op\/c/\14<=s.op/\s.op<=17
 args:∀x∈s.args,0<=x/\x<(a:Int)
 kK:14<=s.op\/s.op=7\/s.op=8->s.args.length=1
 bW:0<=s.bW/\s.bW<=(a:Int)
 JA:s.op=7->s.bE.length=2
 all:s.op=8->s.bE.length=(cq ds s.bN).length/\0<s.bE.length
 call:s.op=9->0<=s.bN/\s.bN<(d:Int)
inductive WB(ds:List bB)(d:Nat)(c:Prop):Nat->Bk->Prop
 |mk {a:Nat} {aA:List cR} {r:Int} (eR:∀(i:Nat)(s:cR),aA[i]? =some s->TG ds d c (a+dc (aA.take i)) s)
  (bE:∀(i:Nat)(s:cR)(k:Nat)(b:Bk),aA[i]? =some s->s.bE[k]? =some b->WB ds d c (a+dc (aA.take i)+Be ds s.op s.bN k) b)
  (res:0<=r/\r<((a+dc aA:Nat):Int)):WB ds d c a (.mk aA r)
structure WS(ds:List bB)(d:Nat)(c:Prop)(a:Nat)(s:cR):Prop where
 eR:TG ds d c a s
 bE:∀(k:Nat)(b:Bk),s.bE[k]? =some b->WB ds d c (a+Be ds s.op s.bN k) b
def WL(b:List bB)(d:Nat)(c:Prop)(a:Nat)(l:List cR):Prop:=∀(i:Nat)(s:cR),l[i]? =some s->WS b d c (a+dc (l.take i)) s
def WB.aW{e:List bB}{b:Bk}(h:WB e d c a b):WL e d c a b.aA/\0<=b.aV/\b.aV<((a+dc b.aA:Nat):Int):=by
 cases h with
 |mk eR bE j=>exact⟨λi s f=>⟨eR i s f,λk b g=>bE i s k b f g⟩,j⟩
def WB.of{e:List bB}{aA:List cR}{r:Int}(h:WL e d c a aA)(j:0<=r/\r<((a+dc aA:Nat):Int)):WB e d c a (.mk aA r):=
 .mk (λi s b=>(h i s b).eR) (λi s k f b g=>(h i s b).bE k f g) j
def WL.nil(b:List bB)(d:Nat)(c:Prop)(a:Nat):WL b d c a []:=λi s h=>by simp at h
def WL.append{f:List bB}{g:List cR}(h:WL f d c a l)(j:WL f d c (a+dc l) g):WL f d c a (l++g):=λi s e=>by
 rcases be i l.length with b|b
 ·rw[aw b]at e;rw[nj V];exact h i s e
 ·rw[aG b]at e;have:=j _ s e;rw[List.take_append,nB b,cT,<-df];exact this
def WL.kK{e:List bB}(h:WS e d c a s):WL e d c a [s]:=λi x b=>by
 have:i=0:=by have:=ax b;simp at this;omega
 subst this;simp at b;subst b;simpa using h
def WL.yy{b:List bB}(h:WL b d c a l)(e:WS b d c (a+dc l) s):WL b d c a (l++[s]):=h.append (.kK e)
def WL.take{e:List bB}(h:WL e d c a l)(k:Nat):WL e d c a (l.take k):=λi s b=>by
 rw[nv]at b;split at b
 ·rw[Lp,iO V];exact h i s b
 ·simp at b
def WL.drop{b:List bB}(h:WL b d c a l)(k:Nat):WL b d c (a+dc (l.take k)) (l.drop k):=λi s e=>by
 rw[rT]at e;have:=h _ s e;rw[List.take_add,cT,<-df]at this;exact this
end Go.Vc
end
namespace Go.Proofs.YtgnjacfobdjeeaaGreat
open Go.Vc
section
variable{m:I}{d p:O}{b:cH}
def vn(b:cH)(bN:Int)(n:Nat):Prop:=∃q:dw,0<=bN/\b.cA[bN.toNat]? =some q/\q.params.length=n
def Tm:cW 9223372036854775808= -9223372036854775808:=bh
def wm(h:eu m d p b)(bN:Int)(n iV:Nat)(N:n<=9223372036854775807)(M:iV<=1):
 dJ cw 156 [.agg #[O.v d,O.v p],vi bN,vi n,vi iV] m (vn b bN (n+iV)):=by
 apply Cr
 simp -zeta only[aD,aC]
 intro j
 have i:J m j:=(J.aB m).aK _
 have y:∀o∈[m.size],o<j.size:=by simp[j]
 have P:=h.cA.len
 have Q:=h.cA.fS
 refine(bF _ _ _ _).aI (J.aB _) y λo R r f F=>⟨_,rfl,λa=>?_,λa=>?_⟩
 ·have a:=r.1 a
  rw[aQ V V]at a
  obtain⟨s,g⟩:=ag (l:=b.cA) (k:=bN.toNat) V
  obtain⟨e,z,A,q,H,I,u,B,C,D,E⟩:=(iS.ext (i.trans f) h.cA).E g
  refine⟨V,V,e,u,ft ?_ (i.trans f)⟩
  have w:=q.len
  have G:=q.fS
  simp only[aF]
  have t:(e.len:Int)=cW ((n:Int)+(iV:Int))<->e.len=n+iV:=by
   rcases be (n+iV) 9223372036854775808 with L|K
   ·rw[aQ V V];omega
   ·have c:(n:Int)+(iV:Int)=9223372036854775808:=V;rw[c,Tm];omega
  rw[t,w]
  exact⟨λx=>⟨s,a.1,g,x⟩,λ⟨S,_,c,v⟩=>by rw[g]at c;simp at c;rw[c];exact v⟩
 ·refine cK (λ⟨s,e,c,_⟩=>fb r a ?_) (i.trans f)
  have:=ax c
  rw[aQ V V]
  omega
def lG(b:cH)(p:dw)(k:Nat)(i:Instr):Prop:=
 if i.op=0 then i.args.length=0/\-999<=i.bN/\i.bN<=999
 else if i.op=1\/i.op=2\/i.op=3\/i.op=4\/i.op=11 then i.args.length=2/\i.bN=0
 else if i.op=5\/i.op=14\/i.op=15\/i.op=18\/i.op=23 then i.args.length=1/\i.bN=0
 else if i.op=6 then(0<=i.bN/\i.bN<(eK b.aT).length)/\i.args.length=(cD b.aT i.bN).length/\0<=i.bW/\i.bW<=p.u
 else if i.op=9\/i.op=24 then vn b i.bN i.args.length
 else if i.op=10 then vn b i.bN (i.args.length+1)/\∀q,b.cA[i.bN.toNat]? =some q->q.cJ.length=0
 else if i.op=16\/i.op=17 then(1<=i.args.length/\i.args.length<=4)/\i.bN=0
 else if i.op=19 then i.args.length=1/\0<=i.bN/\i.bN<=2
 else if i.op=20 then i.args.length=1/\(k:Int)+1<=i.bN/\i.bN<=(p.cL.length:Int) -1
 else if i.op=22 then i.args.length=0/\(k:Int)+1<=i.bN/\i.bN<=(p.cL.length:Int) -1
 else if i.op=21 then i.args.length=1/\0<(cq b.aT i.bN).length/\Nc i.ez (cq b.aT i.bN).length k p.cL.length
 else False
structure iA(b:cH)(p:dw)(k:Nat)(i:Instr):Prop where
 args:∀a∈i.args,0<=a/\a<=p.u -1
 dst:0<=i.dst/\i.dst<=p.u -1
 Xj:i.dst=0\/lH i.op
 bW:i.bW=0\/i.op=6
 ez:i.op=21\/i.ez.length=0
 op:lG b p k i
structure Oo(m:I)(a l:O)(c:O)(p:dw):Prop where
 params:ap m a p.params
 cJ:ap m l p.cJ
 cL:eX m c p.cL
def Oo.ext{m d:I}(a:J m d){b l c:O}{p:dw}(h:Oo m b l c p):Oo d b l c p:=⟨h.params.ext a,h.cJ.ext a,eX.ext a h.cL⟩
def Es(al:eu m d p b)(ht:dP b.aT){ac aj W:O}{q:dw}(Y:Oo m ac aj W q)(hr:1<=q.u/\q.u<=2000){g:Nat}{i:Instr}(hk:q.cL[g]? =some i):
 dJ cw 113 [.agg #[O.v d,O.v p],.agg #[O.v ac,O.v aj,vi q.aV,vi q.u,O.v W],vi g] m (iA b q g i):=by
 apply yS
 simp -zeta only[aD,aC]
 intro m1 R
 have aa:J m R:=((J.aB m).aK _).aK _
 have aL:=ax hk
 have af:=Y.cL.len
 have aI:=Y.cL.fS
 obtain⟨xa,Q,S,hj,g0,g1,g2,g3,g4,g5⟩:=(eX.ext aa Y.cL).E hk
 refine⟨V,V,_,g0,_,g1,_,g2,_,g3,_,g4,_,g5,?_⟩
 intro m3 B
 have t:J m B:=(aa.aK _).ai aa.size _ _
 have ai:J R B:=((J.aB R).aK _).ai (ad _) _ _
 have x:∀C∈[R.size,m1.size,m.size],C<B.size:=by
  simp[B,m3,R,m1,av];omega
 clear_value B
 have X:=S.len
 have aK:=hj.len
 have aE:=S.fS
 have er:cW (q.u -1)=q.u -1:=aQ V V
 rw[er]
 refine eU (n:=i.args.length) (X▸S.fS) (λab u=>J B u/\∀a∈i.args.take ab,0<=a/\a<=q.u -1) ⟨J.aB _,D⟩ ?_
 rintro ab m5 aA μ aJ ⟨hx,hn⟩ ay
 refine dit (λh1=>?_) λh1=>?_
 ·obtain⟨a,o⟩:=ag (l:=i.args) (k:=ab) V
  refine⟨V,V,a,by simpa using(ai.trans hx).af (S.E o),?_⟩
  refine(bF _ _ _ _).aI hx x λC y e h f=>⟨_,rfl,λc=>?_,λc=>?_⟩
  ·exact cK (λj=>nb e c (j.args a (ar o))) (t.trans f)
  ·exact ay V _ ⟨f,bV o hn (yb e c)⟩
 ·have am:=dq V hn
  refine⟨λu=>J B u/\(0<=i.dst/\i.dst<=q.u -1)/\(i.dst=0\/lH i.op)/\(i.bW=0\/i.op=6)/\(i.op=21\/i.ez.length=0),?_,?_⟩
  ·refine(bF _ _ _ _).aI hx x λC y e h f=>⟨_,rfl,λc=>?_,λc=>?_⟩
   ·exact cK (λj=>nb e c j.dst) (t.trans f)
   ·have U:=yb e c
    have tail:∀u:I,J B u->(i.dst=0\/lH i.op)->
     ((i.bW !=0)=true->((i.op !=6)=true->∃E:Bool,vb false=.bool E/\(E=true<->iA b q g i)/\J m u)/\((i.op !=6)=false->
      ((i.op !=21)=true->((decide ((Q.len:Int)>0))=true->∃E:Bool,vb false=.bool E/\(E=true<->iA b q g i)/\J m u)/\((decide ((Q.len:Int)>0))=false->J B u/\(0<=i.dst/\i.dst<=q.u -1)/\(i.dst=0\/lH i.op)/\(i.bW=0\/i.op=6)/\(i.op=21\/i.ez.length=0)))/\
      ((i.op !=21)=false->J B u/\(0<=i.dst/\i.dst<=q.u -1)/\(i.dst=0\/lH i.op)/\(i.bW=0\/i.op=6)/\(i.op=21\/i.ez.length=0))))/\
     ((i.bW !=0)=false->
      ((i.op !=21)=true->((decide ((Q.len:Int)>0))=true->∃E:Bool,vb false=.bool E/\(E=true<->iA b q g i)/\J m u)/\((decide ((Q.len:Int)>0))=false->J B u/\(0<=i.dst/\i.dst<=q.u -1)/\(i.dst=0\/lH i.op)/\(i.bW=0\/i.op=6)/\(i.op=21\/i.ez.length=0)))/\
      ((i.op !=21)=false->J B u/\(0<=i.dst/\i.dst<=q.u -1)/\(i.dst=0\/lH i.op)/\(i.bW=0\/i.op=6)/\(i.op=21\/i.ez.length=0))):=by
     intro u r T
     have w:(i.bW=0\/i.op=6)->((i.op !=21)=true->((decide ((Q.len:Int)>0))=true->∃E:Bool,vb false=.bool E/\(E=true<->iA b q g i)/\J m u)/\((decide ((Q.len:Int)>0))=false->J B u/\(0<=i.dst/\i.dst<=q.u -1)/\(i.dst=0\/lH i.op)/\(i.bW=0\/i.op=6)/\(i.op=21\/i.ez.length=0)))/\
      ((i.op !=21)=false->J B u/\(0<=i.dst/\i.dst<=q.u -1)/\(i.dst=0\/lH i.op)/\(i.bW=0\/i.op=6)/\(i.op=21\/i.ez.length=0)):=by
      intro v
      refine⟨λa=>⟨λo=>?_,λo=>?_⟩,λa=>?_⟩
      ·simp at a o
       exact cK (λj=>by rcases j.ez with s|s<;>omega) (t.trans r)
      ·simp at o
       exact⟨r,U,T,v,Or.inr V⟩
      ·simp at a
       exact⟨r,U,T,v,Or.inl a⟩
     refine⟨λa=>⟨λo=>?_,λo=>w (Or.inr (by simpa using o))⟩,λa=>w (Or.inl (by simpa using a))⟩
     simp at a o
     exact cK (λj=>by rcases j.bW with s|s<;>contradiction) (t.trans r)
    refine⟨λa=>?_,λa=>tail y f (Or.inl (by simpa using a))⟩
    refine(xt _ _).aI f x λC z e o s=>⟨_,rfl,λK=>?_,λK=>tail z s (Or.inr (yb e K))⟩
    simp at a
    exact cK (λj=>by rcases j.Xj with M|M;exact a M;exact nb e K M) (t.trans s)
  ·rintro m8 ⟨z,U,T,aq,au⟩
   have A:=t.trans z
   have ap:iA b q g i<->lG b q g i:=⟨λj=>j.op,λj=>⟨am,U,T,aq,au,j⟩⟩
   rw[ap]
   have N:eu m8 d p b:=eu.ext A al
   refine⟨λv=>?_,λv=>?_⟩
   ·simp only[aF]at v
    have j:lG b q g i<->i.args.length=0/\-999<=i.bN/\i.bN<=999:=by rw[lG,ao v]
    rw[j]
    refine⟨λh=>?_,λh=>?_⟩
    ·simp only[aF]at h
     refine(bF _ _ _ _).aI z x λC L e f c=>⟨_,rfl,ft ?_ (t.trans c)⟩
     rw[e];omega
    ·simp only[ak]at h
     exact cK V A
   simp only[ak]at v
   refine⟨λw=>?_,λw=>?_⟩
   ·simp only[bT,aF]at w
    have j:lG b q g i<->i.args.length=2/\i.bN=0:=by rw[lG,ae v,ao w]
    rw[j]
    refine⟨λh=>ft ?_ A,λh=>cK ?_ A⟩
    ·simp only[aF]at h⊢;omega
    ·simp only[ak]at h;omega
   simp only[bz,ak]at w
   replace w:¬(i.op=1\/i.op=2\/i.op=3\/i.op=4\/i.op=11):=V
   refine⟨λy=>?_,λy=>?_⟩
   ·simp only[bT,aF]at y
    have j:lG b q g i<->i.args.length=1/\i.bN=0:=by rw[lG,ae v,ae w,ao y]
    rw[j]
    refine⟨λh=>ft ?_ A,λh=>cK ?_ A⟩
    ·simp only[aF]at h⊢;omega
    ·simp only[ak]at h;omega
   simp only[bz,ak]at y
   replace y:¬(i.op=5\/i.op=14\/i.op=15\/i.op=18\/i.op=23):=V
   refine⟨λF=>?_,λF=>?_⟩
   ·simp only[aF]at F
    have j:lG b q g i<->(0<=i.bN/\i.bN<(eK b.aT).length)/\i.args.length=(cD b.aT i.bN).length/\0<=i.bW/\i.bW<=q.u:=by rw[lG,ae v,ae w,ae y,ao F]
    rw[j]
    refine(lY N.aT ht _).aI z x ?_
    rintro _ L ⟨aG,rfl,G,f⟩
    refine⟨f,_,rfl,dit (λc=>?_) λc=>?_⟩
    ·have an:0<=i.bN/\i.bN<(eK b.aT).length:=by
      rcases G with⟨H,P,a,o,s,K⟩|⟨a,_⟩
      ·have:=QQ b.aT (show H+1<=b.aT.length from ax o);rw[sk o,mL b.aT _ (ad _)]at this;omega
      ·omega
     refine(FF (cx.ext f N.aT) ht _).aI (z.trans f) x ?_
     rintro _ aw ⟨az,rfl,Z,a⟩
     have ah:=Z.len
     refine⟨a,_,rfl,λo=>?_,λo=>?_⟩
     ·simp only[aF]at o
      refine(bF _ _ _ _).aI ((z.trans f).trans a) x λC aB e s K=>⟨_,rfl,ft ?_ (t.trans K)⟩
      rw[e]
      exact⟨λr=>⟨an,V,r⟩,λr=>r.2.2⟩
     ·simp only[ak]at o
      exact cK (λr=>o V) ((A.trans f).trans a)
    ·refine cK (λr=>?_) (A.trans f)
     rcases G with⟨H,P,a,o,s,K⟩|⟨_,a⟩
     ·omega
     ·exact a r.1
   simp only[ak]at F
   refine⟨λG=>?_,λG=>?_⟩
   ·simp only[bT,aF]at G
    have j:lG b q g i<->vn b i.bN (i.args.length+0):=by rw[lG,ae v,ae w,ae y,ae F,ao G];rfl
    rw[j]
    have P:=wm N i.bN i.args.length 0 V V
    rw[X]
    refine P.aI z x λC L e f c=>⟨_,rfl,ft e (t.trans c)⟩
   simp only[bz,ak]at G
   replace G:¬(i.op=9\/i.op=24):=V
   refine⟨λH=>?_,λH=>?_⟩
   ·simp only[aF]at H
    have j:lG b q g i<->vn b i.bN (i.args.length+1)/\∀q,b.cA[i.bN.toNat]? =some q->q.cJ.length=0:=by rw[lG,ae v,ae w,ae y,ae F,ae G,ao H]
    rw[j]
    have P:=wm N i.bN i.args.length 1 V V
    rw[X]
    refine P.aI z x λC L e f c=>⟨_,rfl,λa=>?_,λa=>cK (λr=>fb e a r.1) (t.trans c)⟩
    have a:=e.1 a
    obtain⟨q',o,s,K⟩:=a
    obtain⟨a',E,c',aB,an,aH,f0,f1,f2,f3,f4⟩:=(iS.ext f N.cA).E s
    have:=N.cA.len
    have:=ax s
    refine⟨V,V,E,f1,ft ?_ (t.trans c)⟩
    have aG:=an.len
    simp only[aF]
    refine⟨λr=>⟨⟨q',o,s,K⟩,λaM M=>?_⟩,λr=>?_⟩
    ·rw[s]at M;simp at M;subst M;omega
    ·have:=r.2 q' s;omega
   simp only[ak]at H
   refine⟨λE=>?_,λE=>?_⟩
   ·simp only[bT,aF]at E
    have j:lG b q g i<->(1<=i.args.length/\i.args.length<=4)/\i.bN=0:=by rw[lG,ae v,ae w,ae y,ae F,ae G,ae H,ao E]
    rw[j]
    refine(bF _ _ _ _).aI z x λC L e f c=>⟨_,rfl,λa=>ft ?_ (t.trans c),λa=>cK ?_ (t.trans c)⟩
    ·have a:=e.1 a
     simp only[aF];omega
    ·have a:=fb e a;omega
   simp only[bz,ak]at E
   replace E:¬(i.op=16\/i.op=17):=V
   refine⟨λK=>?_,λK=>?_⟩
   ·simp only[aF]at K
    have j:lG b q g i<->i.args.length=1/\0<=i.bN/\i.bN<=2:=by rw[lG,ae v,ae w,ae y,ae F,ae G,ae H,ae E,ao K]
    rw[j]
    refine⟨λh=>?_,λh=>?_⟩
    ·simp only[aF]at h
     refine(bF _ _ _ _).aI z x λC L e f c=>⟨_,rfl,ft ?_ (t.trans c)⟩
     rw[e];omega
    ·simp only[ak]at h
     exact cK V A
   simp only[ak]at K
   have ek:cW ((g:Int)+1)=(g:Int)+1:=aQ V V
   have ec:cW ((W.len:Int) -1)=(q.cL.length:Int) -1:=by rw[aQ V V,af]
   rw[ek,ec]
   refine⟨λM=>?_,λM=>?_⟩
   ·simp only[aF]at M
    have j:lG b q g i<->i.args.length=1/\(g:Int)+1<=i.bN/\i.bN<=(q.cL.length:Int) -1:=by rw[lG,ae v,ae w,ae y,ae F,ae G,ae H,ae E,ae K,ao M]
    rw[j]
    refine⟨λh=>?_,λh=>?_⟩
    ·simp only[aF]at h
     refine(bF _ _ _ _).aI z x λC L e f c=>⟨_,rfl,ft ?_ (t.trans c)⟩
     rw[e];omega
    ·simp only[ak]at h
     exact cK V A
   simp only[ak]at M
   refine⟨λP=>?_,λP=>?_⟩
   ·simp only[aF]at P
    have j:lG b q g i<->i.args.length=0/\(g:Int)+1<=i.bN/\i.bN<=(q.cL.length:Int) -1:=by rw[lG,ae v,ae w,ae y,ae F,ae G,ae H,ae E,ae K,ae M,ao P]
    rw[j]
    refine⟨λh=>?_,λh=>?_⟩
    ·simp only[aF]at h
     refine(bF _ _ _ _).aI z x λC L e f c=>⟨_,rfl,ft ?_ (t.trans c)⟩
     rw[e];omega
    ·simp only[ak]at h
     exact cK V A
   simp only[ak]at P
   refine⟨λh=>?_,λh=>?_⟩
   ·simp only[aF]at h
    have j:lG b q g i<->i.args.length=1/\0<(cq b.aT i.bN).length/\Nc i.ez (cq b.aT i.bN).length g q.cL.length:=by rw[lG,ae v,ae w,ae y,ae F,ae G,ae H,ae E,ae K,ae M,ae P,ao h]
    rw[j]
    refine(Ac N.aT ht _).aI z x ?_
    rintro _ L ⟨az,rfl,Z,f⟩
    have ah:=Z.len
    refine⟨f,_,rfl,λc=>?_,λc=>?_⟩
    ·simp only[aF]at c
     refine dit (λa=>?_) λa=>?_
     ·rw[ah,af]
      refine(Et (hj.ext (ai.trans (z.trans f))) _ _ _ V V).aI (z.trans f) x λC aw e o s=>⟨_,rfl,ft ?_ (t.trans s)⟩
      rw[e]
      exact⟨λr=>⟨V,V,r⟩,λr=>r.2.2⟩
     ·exact cK (λr=>V) (A.trans f)
    ·simp only[ak]at c
     exact cK (λr=>V) (A.trans f)
   ·simp only[ak]at h
    have j:lG b q g i<->False:=by rw[lG,ae v,ae w,ae y,ae F,ae G,ae H,ae E,ae K,ae M,ae P,ae h]
    rw[j]
    exact cK (λr=>r) A
end
section
variable{a:I}{d p:O}{b:cH}
structure JQ(ds:List bB)(ps:List dw):Prop where
 types:dP ds
 len:1<=ps.length/\ps.length<=4
 dt:∀p∈ps,p.params.length<=3/\EF ds.length p.params/\zd ds.length p.aV
 first:∀p,ps[0]? =some p->p.params.length=0/\p.aV=0
def oI(a:I)(c:List Ce)(p:dw):Prop:=∃b,c=[.s b,.i p.aV,.i 0,.i 0,.s .nil]/\ap a b p.params
def oI.ext{a d:I}(h:J a d)(b:List Ce)(c:dw):oI a b c->oI d b c:=λ⟨f,e,g⟩=>⟨f,e,g.ext h⟩
def RS.E{s:O}{l:List dw}(h:eH a 5 (oI a) s l){k:Nat}{x:dw}(e:l[k]? =some x):
 ∃b,ap a b x.params/\af a s.F (s.off+k*5)=some (O.v b)/\af a s.F (s.off+k*5+1)=some (vi x.aV)/\af a s.F (s.off+k*5+2)=some (vi 0)/\af a s.F (s.off+k*5+3)=some (vi 0)/\af a s.F (s.off+k*5+4)=some (O.v .nil):=by
 obtain⟨f,⟨b,rfl,d⟩,c⟩:=h.iP k x e
 exact⟨b,d,c 0 (.s b) rfl,c 1 (.i x.aV) rfl,c 2 (.i 0) rfl,c 3 (.i 0) rfl,c 4 (.s .nil) rfl⟩
def uC{H:O}{m:List bB}{j:List dw}(P:cx a d m)(B:eH a 5 (oI a) H j):
 dJ cw 54 [.agg #[O.v d,O.v H]] a (JQ m j):=by
 apply AW
 simp -zeta only[aD,aC]
 intro s
 have r:J a s:=(J.aB a).aK _
 have C:∀g∈[a.size],g<s.size:=by simp[s]
 have q:=P.len
 have af:=B.len
 refine(Ev (cx.ext r P)).aI (J.aB _) C λg m2 c U X=>⟨_,rfl,λy=>?_,λy=>?_⟩
 ·exact cK (λb=>nb c y b.types) (r.trans U)
 have ht:=yb c y
 refine(bF _ _ _ _).aI X C λg m3 c h4 N=>⟨_,rfl,λz=>?_,λz=>?_⟩
 ·exact cK (λb=>nb c z (by have:=b.len;omega)) (r.trans N)
 have ah:=yb c z
 refine eU (n:=j.length) V (λF e=>J s e/\∀p∈j.take F,p.params.length<=3/\EF m.length p.params/\zd m.length p.aV) ⟨N,D⟩ ?_
 rintro F G ac μ hj ⟨E,R⟩ ab
 have f:=r.trans E
 refine dit (λY=>?_) λY=>?_
 ·obtain⟨p,e⟩:=ag (l:=j) (k:=F) V
  obtain⟨T,o,u,v,I,K,L⟩:=RS.E (B.mono f (oI.ext f)) e
  have Z:=o.len
  refine⟨V,V,_,u,_,v,_,I,_,K,_,L,?_⟩
  intro S t
  have i:J G t:=((J.aB G).aK _).ai (ad _) _ _
  have Q:∀g∈[G.size,a.size],g<t.size:=by
   have:=E.lt (C a.size D);have:=i.size;simp[t,S,av];simp[t,S,av]at this;omega
  refine dit (λh=>?_) λh=>?_
  ·exact cK (λb=>by have:=(b.dt p (ar e)).1;omega) (f.trans i)
  refine(vS (o.ext i) _).aI (J.aB _) Q λg m7 c A W=>⟨_,rfl,λw=>?_,λw=>?_⟩
  ·exact cK (λb=>nb c w (q▸(b.dt p (ar e)).2.1)) ((f.trans i).trans A)
  have aa:=yb c w
  refine(bF _ _ _ _).aI W Q λg m8 c ae M=>⟨_,rfl,λx=>?_,λx=>?_⟩
  ·refine cK (λb=>nb c x ?_) ((f.trans i).trans M)
   rw[q];exact(b.dt p (ar e)).2.2
  ·refine ab V _ ⟨(E.trans i).trans M,bV e R ⟨V,q▸aa,?_⟩⟩
   have:=yb c x
   rw[q]at this;exact this
 ·have t:=dq V R
  obtain⟨p,e⟩:=ag (l:=j) (k:=0) V
  obtain⟨T,o,u,v,I,K,L⟩:=RS.E (B.mono f (oI.ext f)) e
  have Z:=o.len
  refine⟨V,V,_,u,λh=>?_,λh=>?_⟩
  ·simp only[aF]at h
   refine⟨V,V,_,v,ft ?_ f⟩
   simp only[aF]
   refine⟨λA=>⟨ht,V,t,λw i=>?_⟩,λb=>(b.first p e).2⟩
   rw[e]at i;simp at i;subst i
   exact⟨V,A⟩
  ·simp only[ak]at h
   exact cK (λb=>h (by have:=(b.first p e).1;omega)) f
def Cw(Q:eu a d p b)(ar:b.cA.length<=4):
 aO cw 55 [.agg #[O.v d,O.v p]] a λan j=>∃P,an=.agg #[O.v d,O.v P]/\eH j 5 (oI j) P b.cA/\J a j:=by
 apply xu
 simp -zeta only[aD,aC]
 intro t q e N s
 have au:=Q.cA.len
 have aj:J a N:=(((J.aB a).aK _).aK _|>.aK _).aK _
 have s3:e.size=a.size+3:=by simp[e,q,t]
 have s2:q.size=a.size+2:=by simp[q,t]
 have s1:t.size=a.size+1:=by simp[t]
 have s5:s.size=a.size+4:=by simp[s,N,av,s3]
 have ak:J a s:=aj.ai V _ _
 have ab:cF s e.size ku [.s d,.s (.mk q.size 0 0 0)]:=cF.ai (m:=N) (o:=0) (r:=[.s d,.s (.mk q.size 0 0 0)]) (cF.push e _ _)
 have ai:J e s:=((J.aB e).aK _).ai (ad _) _ _
 have af:gG a s eY 5 (.mk q.size 0 0 0) ([]:List (List Ce)).flatten:=
  (gG.new (((J.aB a).aK _).aK _:J a q) eY 5 [] 0 D:gG a e eY 5 (.mk q.size 0 0 0) []).ext ai
 clear_value s
 refine eU (n:=b.cA.length) V (λF j=>J a j/\s.size<=j.size/\∃g y,cF j e.size ku [.s d,.s g]/\gG a j eY 5 g y.flatten/\gD 5 (oI a) y (b.cA.take F)/\g≠.nil/\t.size<g.F/\g.F≠e.size/\g.len=F)
  ⟨ak,ad _,_,[],ab,af,by simpa using gD.nil 5 (oI a),D,bJ,bJ,rfl⟩ ?_
 rintro F B ao μ hk ⟨C,aA,g,y,z,S,M,ax,aw,ah,U⟩ am
 refine dit (λY=>?_) λY=>?_
 ·obtain⟨G,T⟩:=ag (l:=b.cA) (k:=F) V
  obtain⟨u,c,ap,ha,f,hc,W,g1,X,g3,g4⟩:=Q.cA.E T
  refine⟨g,z.cp 1,V,V,u,by simpa using C.af W,V,V,_,by simpa using C.af X,?_⟩
  intro h
  have E:J B h:=J.push _ _
  refine⟨E.cV (z.cp 1),?_⟩
  have jg:fN h B.size 0 [.s u,.i G.aV,.i 0,.i 0,.s .nil]:=(cF.push B _ _).iP
  have ae:=z.ext E
  have ay:h.size=B.size+1:=by simp[h]
  clear_value h
  refine gG.append (c:=[.s .nil,.i 0,.i 0,.i 0,.s .nil]) (i:=[.s u,.i G.aV,.i 0,.i 0,.s .nil]) (S.ext E) (C.trans E) rfl jg (by simp[U];omega) ?_
  intro x v h7 h8 I aq Z aa
  have H:∀c,c<h.size->c≠g.F->v[c]? =h[c]? :=λc f K=>Z c f (λ_=>K)
  have A:t.size<x.F/\x.F≠e.size:=by
   rcases aa with⟨_,i⟩|⟨_,i,_⟩|i
   ·rw[i]at I;simp at I
   ·rw[i];constructor<;>omega
   ·rw[i];constructor<;>omega
  have R:cF v e.size ku [.s d,.s g]:=ae.congr (H _ V (λi=>ah i.symm))
  refine⟨λc f=>?_,R.fH D,?_⟩
  ·simp at f
   rcases f with rfl|rfl
   ·exact H _ V V
   ·exact H _ V V
  intro w
  have az:w.size=v.size:=by simp[w,av]
  have ac:cF w e.size ku [.s d,.s x]:=cF.ai (m:=v) (o:=1) (r:=[.s x]) R
  have L:∀c,c≠e.size->w[c]? =v[c]? :=λc f=>bd _ _ _ _ f
  have al:J a w:=h8.ai V _ _
  clear_value w
  refine⟨λc f=>?_,?_⟩
  ·simp at f
   rcases f with rfl|rfl
   ·exact L _ V
   ·exact L _ V
  refine am V _ ⟨al,V,x,y++[[.s u,.i G.aV,.i 0,.i 0,.s .nil]],ac,?_,?_,?_,A.1,A.2,by simp[I,U]⟩
  ·rw[qB]
   exact(by simpa using h7:gG a v eY 5 x (y.flatten++[[.s u,.i G.aV,.i 0,.i 0,.s .nil]].flatten)).congr (L _ A.2)
  ·rw[bn T]
   exact M.yy rfl ⟨u,rfl,ha⟩
  ·intro i
   rw[i]at A;simp at A
 ·refine⟨d,z.cp 0,g,z.cp 1,?_⟩
  intro h
  have K:∀c,c≠t.size->h[c]? =B[c]? :=λc f=>bd _ _ _ _ f
  have i:J a h:=C.ai V _ _
  refine⟨g,rfl,?_,i⟩
  rw[cN V]at M
  exact(eH.fV (S.congr (K _ V)) M V V).mono (J.aB _) (oI.ext i)
structure GD(b:cH)(p:dw):Prop where
 cJ:Dd p.params p.cJ
 u:(p.params.length:Int)<=p.u/\1<=p.u/\p.u<=2000
 len:1<=p.cL.length/\p.cL.length<=2000
 dt:∀(k:Nat)(i:Instr),p.cL[k]? =some i->iA b p k i
 Qg:∀i,p.cL[p.cL.length -1]? =some i->i.op=23\/i.op=24
def Gf(R:eu a d p b)(X:dP b.aT){F N y:O}{q:dw}(r:Oo a F N y q):
 dJ cw 56 [.agg #[O.v d,O.v p],.agg #[O.v F,O.v N,vi q.aV,vi q.u,O.v y]] a (GD b q):=by
 apply AU
 simp -zeta only[aD,aC]
 intro P w
 have m:J a w:=((J.aB a).aK _).aK _
 have x:∀s∈[P.size,a.size],s<w.size:=by simp[w,P];omega
 clear_value w
 have ab:=r.params.len
 have ac:=r.cL.len
 refine(uB (r.params.ext m) (r.cJ.ext m)).aI (J.aB _) x λs m3 e S U=>⟨_,rfl,λA=>?_,λA=>?_⟩
 ·exact cK (λg=>nb e A g.cJ) (m.trans S)
 have K:=yb e A
 refine(bF _ _ _ _).aI U x λs m4 e h4 G=>⟨_,rfl,λB=>?_,λB=>?_⟩
 ·refine cK (λg=>nb e B ?_) (m.trans G)
  have:=g.u
  split<;>omega
 have W:=yb e B
 refine(bF _ _ _ _).aI G x λs m5 e h7 H=>⟨_,rfl,λC=>?_,λC=>?_⟩
 ·exact cK (λg=>nb e C (by have:=g.len;omega)) (m.trans H)
 have ae:=yb e C
 have E:(q.params.length:Int)<=q.u/\1<=q.u/\q.u<=2000:=by
  split at W<;>omega
 refine eU (n:=q.cL.length) V (λv Y=>J w Y/\∀(f:Nat)(i:Instr),f<v->q.cL[f]? =some i->iA b q f i) ⟨H,D⟩ ?_
 rintro v m6 aa μ hj ⟨M,L⟩ Z
 have t:=m.trans M
 refine dit (λT=>?_) λT=>?_
 ·obtain⟨i,j⟩:=ag (l:=q.cL) (k:=v) V
  refine(Es (eu.ext t R) X (r.ext t) E.2 j).aI M x λs m7 e o h=>⟨_,rfl,λz=>?_,λz=>?_⟩
  ·exact cK (λg=>nb e z (g.dt v i j)) (m.trans h)
  ·refine Z V _ ⟨h,λf u Q c=>?_⟩
   by_cases I:f=v
   ·subst I
    rw[j]at c;simp at c;subst c
    exact yb e z
   ·exact L f u V c
 ·obtain⟨i,j⟩:=ag (l:=q.cL) (k:=q.cL.length -1) V
  obtain⟨xa,xj,ha,ad,z,g1,g2,g3,g4,g5⟩:=(eX.ext t r.cL).E j
  have Q:cW ((y.len:Int) -1)=((q.cL.length -1:Nat):Int):=by rw[aQ V V];omega
  rw[Q]
  have I:∀(f:Nat)(i:Instr),q.cL[f]? =some i->iA b q f i:=λf u c=>L f u (by have:=ax c;omega) c
  refine⟨V,V,_,by simpa using z,λo=>?_,λo=>?_⟩
  ·simp only[aF]at o
   refine jG ⟨K,E,V,I,λu c=>?_⟩ t
   rw[j]at c;simp at c;subst c
   exact Or.inl o
  ·simp only[ak]at o
   refine⟨V,V,_,by simpa using z,ft ?_ t⟩
   simp only[aF]
   refine⟨λh=>⟨K,E,V,I,λu c=>?_⟩,λg=>?_⟩
   ·rw[j]at c;simp at c;subst c
    exact Or.inr h
   ·rcases g.Qg i j with h|h
    ·exact absurd h o
    ·exact h
structure gP(b:cH):Prop where
 mw:JQ b.aT b.cA
 dt:∀p∈b.cA,GD b p
def Er(h:eu a d p b):dJ cw 32 [.agg #[O.v d,O.v p]] a (gP b):=by
 apply yR;simp -zeta only[aD,aC];intro g;have e:J a g:=(J.aB a).aK _;have q:∀i∈[a.size],i<g.size:=by simp[g]
 clear_value g;have W:=h.cA.len;refine dit (λH=>?_) λH=>?_
 ·exact cK (λf=>by have:=f.mw.len;omega) e
 refine(Cw (eu.ext e h) V).aI (J.aB _) q ?_;rintro _ X ⟨A,rfl,M,j⟩;refine⟨j,d,A,rfl,?_⟩;refine(uC (cx.ext (e.trans j) h.aT) M).aI j q λi Y c S v=>⟨_,rfl,λm=>?_,λm=>?_⟩
 ·exact cK (λf=>nb c m f.mw) (e.trans v)
 have y:=yb c m;refine eU (n:=b.cA.length) V (λt o=>J g o/\∀u∈b.cA.take t,GD b u) ⟨v,D⟩ ?_;rintro t Z P μ U ⟨z,x⟩ N
 have s:=e.trans z;refine dit (λI=>?_) λI=>?_
 ·obtain⟨u,r⟩:=ag (l:=b.cA) (k:=t) V;obtain⟨Q,i,R,K,c,L,B,C,E,F,G⟩:=(iS.ext s h.cA).E r;refine⟨V,V,_,B,_,C,_,E,_,F,_,G,?_⟩;refine(Gf (eu.ext s h) y.types ⟨K,c,L⟩).aI z q λi m5 c T w=>⟨_,rfl,λo=>?_,λo=>?_⟩
  ·exact cK (λf=>nb c o (f.dt u (ar r))) (e.trans w)
  ·exact N V _ ⟨w,bV r x (yb c o)⟩
 ·exact jG ⟨y,dq V x⟩ s
end
end Go.Proofs.YtgnjacfobdjeeaaGreat
