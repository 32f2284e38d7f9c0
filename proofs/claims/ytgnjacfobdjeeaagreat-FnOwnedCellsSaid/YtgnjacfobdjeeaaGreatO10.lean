/- Part of a proof, joined by a program. -/
import Derived.Test.YtgnjacfobdjeeaaGreatO08
import Derived.Test.YtgnjacfobdjeeaaGreatO09
set_option linter.unusedVariables false
set_option linter.unusedSimpArgs false
set_option linter.defProp false
set_option linter.constructorNameAsVariable false
set_option maxHeartbeats 8000000
set_option maxRecDepth 100000
namespace Go.Proofs.YtgnjacfobdjeeaaGreat
open Go.Vc
section
variable{b:I}{d:O}{c:cD}
def Bq{Z ai ax T:O}(hd:bR b d c.aT)(ht:dv c.aT)(hf:nH b Z c.cA)(aJ:c.cA.length<=4)(h3:∀q∈c.cA,q.params.length<=3)
 {q:cY}(hc:eB b T q.cE)(hr:q.av<=2000){s:Nat}{e:Instr}{N S:O}(ha:ar b N e.args)(hj:ar b S e.dR):
 dm bY 50 [.agg #[O.v d,O.v Z],.agg #[O.v ai,O.v ax,vi q.aR,vi q.av,O.v T],vi s,.agg #[vi e.op,vi e.dst,vi e.bL,vi e.bV,O.v N,O.v S]] b (gG c q s e):=by
 apply nP
 simp -zeta only[aE,aD]
 intro C B H x
 have s1:C.size=b.size+1:=by simp[C]
 have s2:B.size=b.size+2:=by simp[B,s1]
 have s3:H.size=b.size+3:=by simp[H,s2]
 have s4:x.size=b.size+4:=by simp[x,s3]
 have A:J b x:=((((J.aC b).aM _).aM _).aM _).aM _
 have an:cB x B.size aB [.i s]:=(cB.push B _ _).ext (J.push _ _)
 have ap:cB x C.size iB [.s ai,.s ax,.i q.aR,.i q.av,.s T]:=(cB.push C _ _).ext ((J.push B _).aM _)
 have v:=Gn (w:=c) (p:=q) (a:=s) (i:=e) hr aJ h3
 have aF:=hc.len
 have aR:=ha.len
 have aS:=hj.len
 clear_value x
 clear_value H
 clear_value B
 clear_value C
 refine⟨λh=>bX (λf=>?_) A,λc0=>⟨λh=>bX (λf=>?_) A,λc1=>⟨λh=>bX (λf=>?_) A,λc2=>⟨λh=>bX (λf=>?_) A,λc3=>⟨λh=>bX (λf=>?_) A,λc4=>⟨λh=>bX (λf=>?_) A,λc5=>?_⟩⟩⟩⟩⟩⟩
 any_goals (have:=(v.1 f).1;simp at h;omega)
 simp at c0 c1 c2 c3 c4 c5
 have f1:0<=e.op/\e.op<=24/\e.op≠7/\e.op≠8/\e.op≠12/\e.op≠13:=V
 refine⟨λy=>J x y/\(0<=e.dst/\e.dst<q.av/\(e.dst=0\/kE e.op)/\0<=e.bV/\e.bV<=q.av/\(e.bV=0\/e.op=6)),?_,?_⟩
 ·refine⟨λh=>bX (λf=>?_) A,λK=>⟨λh=>bX (λf=>?_) A,λM=>?_⟩⟩
  ·have:=(v.1 f).2.1;simp at h;omega
  ·have:=(v.1 f).2.1;simp at h;omega
  simp at K M
  have tail:∀y,J x y->(e.dst=0\/kE e.op)->((decide (e.bV<(0:Int)))=true->∃g:Bool,Value.bool false=.bool g/\(g=true<->gG c q s e)/\J b y)/\((decide (e.bV<(0:Int)))=false->
   ((decide (e.bV>q.av))=true->∃g:Bool,Value.bool false=.bool g/\(g=true<->gG c q s e)/\J b y)/\((decide (e.bV>q.av))=false->
   ((e.bV !=(0:Int))=true->((e.op !=(6:Int))=true->∃g:Bool,Value.bool false=.bool g/\(g=true<->gG c q s e)/\J b y)/\((e.op !=(6:Int))=false->J x y/\(0<=e.dst/\e.dst<q.av/\(e.dst=0\/kE e.op)/\0<=e.bV/\e.bV<=q.av/\(e.bV=0\/e.op=6))))/\
   ((e.bV !=(0:Int))=false->J x y/\(0<=e.dst/\e.dst<q.av/\(e.dst=0\/kE e.op)/\0<=e.bV/\e.bV<=q.av/\(e.bV=0\/e.op=6))))):=by
   intro y L R
   have P:=A.trans L
   refine⟨λh=>bX (λf=>?_) P,λF=>⟨λh=>bX (λf=>?_) P,λI=>⟨λu=>⟨λh=>bX (λf=>?_) P,λQ=>⟨L,?_⟩⟩,λu=>⟨L,?_⟩⟩⟩⟩
   ·have:=(v.1 f).2.1;simp at h;omega
   ·have:=(v.1 f).2.1;simp at h;omega
   ·have:=(v.1 f).2.1.2.2.2.2.2;simp at h u;omega
   ·simp at F I Q;exact⟨K,M,R,F,I,Or.inr Q⟩
   ·simp at F I u;exact⟨K,M,R,F,I,Or.inl u⟩
  refine⟨λh=>?_,λh=>tail x (J.aC _) (Or.inl (by simpa using h))⟩
  refine(xu e.op x ⟨V,V⟩).aG (J.aC _) bK λw y G L _=>⟨w,rfl,λz=>bX (λf=>?_) (A.trans L),λz=>tail y L (Or.inr (yb G z))⟩
  have:=(v.1 f).2.1.2.2.1
  simp at h
  rcases this with t|t
  ·exact h t
  ·exact nb G z t
 ·rintro y ⟨L,f2⟩
  refine dO (n:=e.args.length) (by have:=ha.fL;omega) (λaf U=>J x U/\∀K∈e.args.take af,0<=K/\K<q.av) ⟨L,E⟩ ?_
  rintro af M aQ μ hn ⟨z,ak⟩ aO
  have ab:=A.trans z
  refine dit (λh=>?_) λh=>?_
  ·obtain⟨K,u⟩:=ag (l:=e.args) (k:=af) V
   refine⟨V,V,K,by simpa using(ha.ext ab).u u,λt=>bX (λf=>?_) ab,λt=>⟨λF=>bX (λf=>?_) ab,λF=>aO V _ ⟨z,bD u ak ?_⟩⟩⟩
   ·have:=(v.1 f).2.2.1 K (au u);simp at t;omega
   ·have:=(v.1 f).2.2.1 K (au u);simp at F;omega
   ·simp at t F;omega
  ·have ay:∀K∈e.args,0<=K/\K<q.av:=cF V ak
   intro m7 I
   have s8:I.size=M.size+1:=by simp[I,m7,az]
   have F:J M I:=((J.aC M).aM _).aj (ad _) _ _
   have ae:=ab.trans F
   have am:D I M.size 0=some (.func (.func 87) #[] #[vp B.size 0,vp C.size 0]):=
    (cB.aj (m:=m7) (o:=0) (r:=[.fn (.func 87) #[] #[vp B.size 0,vp C.size 0]]) (cB.push M _ _)).cy 0
   have aT:=z.size
   clear_value I
   have aL:∀R,J I R->∀t,dm bY 87 [vi t,vp B.size 0,vp C.size 0] R ((s:Int)+1<=t/\t<=(q.cE.length:Int) -1):=λR u t=>by
    rw[<-aF];exact vA (an.ext (z.trans (F.trans u))|>.cy 0) (ap.ext (z.trans (F.trans u))|>.cy 4)
   have jG:(e.dR.length=0\/e.op=21)->aN bY 69 [O.v S,.func (.func 88) #[] #[vp M.size 0]] I λaP Y=>
    dV [H.size,b.size] I Y/\∃ah:Bool,aP=vb ah/\(ah=true->∃g:Bool,Value.bool false=.bool g/\(g=true<->gG c q s e)/\J b Y)/\
    (ah=false->∃P:Fn×Array Value×Array Value,D Y M.size 0=some (.func P.1 P.2.1 P.2.2)/\
    aN bY 89 [.agg #[O.v d,O.v Z],.agg #[vi e.op,vi e.dst,vi e.bL,vi e.bV,O.v N,O.v S],.func P.1 P.2.1 P.2.2] Y λaj Q=>
    dV [H.size,b.size] Y Q/\∃X:Bool,aj=vb X/\((!X)=true->∃g:Bool,Value.bool false=.bool g/\(g=true<->gG c q s e)/\J b Q)/\
    ((!X)=false->aN bY 90 [.agg #[O.v d,O.v Z],.agg #[vi e.op,vi e.dst,vi e.bL,vi e.bV,O.v N,O.v S]] Q λal W=>
    dV [H.size,b.size] Q W/\∃aa:Int,∃ac:Int,al=.tuple #[vi aa,vi ac]/\
    ((decide ((N.len:Int)>=aa))=true->∃g:Bool,Value.bool (decide ((N.len:Int)<=ac))=.bool g/\(g=true<->gG c q s e)/\J b W)/\
    ((decide ((N.len:Int)>=aa))=false->∃g:Bool,Value.bool false=.bool g/\(g=true<->gG c q s e)/\J b W))):=by
    intro aG
    have hl:∀w∈[H.size,b.size],w<I.size:=bK
    refine(lG (hj.ext ae) 88 #[] #[vp M.size 0] bd (λt=>¬((s:Int)+1<=t/\t<=(T.len:Int) -1)) (λt _ R u=>?_)).aG (J.aC _) hl ?_
    ·exact Ha (an.ext (z.trans (F.trans u))|>.cy 0) (ap.ext (z.trans (F.trans u))|>.cy 4) (u.D am)
    intro w R G u _
    have Q:=ae.trans u
    refine⟨w,rfl,λaC=>bX (λf=>?_) Q,λaA=>?_⟩
    ·obtain⟨t,ac,g⟩:=G.1 aC
     have:=(v.1 f).2.2.2.2.1 t ac
     exact g V
    have aH:∀t∈e.dR,(s:Int)+1<=t/\t<=(q.cE.length:Int) -1:=λt ac=>by
     rcases fX ((s:Int)+1<=t/\t<=(T.len:Int) -1)with h|h
     ·omega
     ·exact absurd (G.2 ⟨t,ac,h⟩) (by simp[aA])
    refine⟨(.func 87,#[],#[vp B.size 0,vp C.size 0]),u.D am,?_⟩
    have aq:∀w∈[H.size,b.size],w<R.size:=λw G=>u.lt (hl w G)
    refine(EO (bR.ext Q hd) ht (nH.ext Q hf) (ha.ext Q) (hj.ext Q) 87 #[] #[vp B.size 0,vp C.size 0] bd (λt=>(s:Int)+1<=t/\t<=(q.cE.length:Int) -1) (λU g=>by simpa using aL U (u.trans g) e.bL)).aG (J.aC _) aq ?_
    intro b2 aM al P _
    have aa:=Q.trans P
    refine⟨b2,rfl,λh=>bX (λf=>nb al h (v.1 f).2.2.2.2.2.1) aa,λh=>?_⟩
    have av:=yb al h
    have aI:∀w∈[H.size,b.size],w<aM.size:=λw G=>P.lt (aq w G)
    refine(IM (bR.ext aa hd) ht (nH.ext aa hf) (a:=N) (j:=S) av).aG (J.aC _) aI ?_
    rintro _ aU ⟨lo,hi,rfl,U,aj⟩
    have aw:=aa.trans aj
    have aK:∀X W,fJ c e X W->X=lo/\W=hi:=λX W g=>by
     unfold fJ at U g;repeat' (split at U);all_goals simp_all
     all_goals (obtain⟨q1,e1,e2,e3⟩:=U;simp_all)
    refine⟨aj,lo,hi,rfl,λh=>fA ?_ aw,λh=>bX (λf=>?_) aw⟩
    ·rw[v]
     simp only[ao]at h⊢
     refine⟨λg=>⟨f1,f2,ay,aG,aH,av,λX W h2=>?_⟩,λg=>?_⟩
     ·obtain⟨rfl,rfl⟩:=aK X W h2;omega
     ·have:=g.2.2.2.2.2.2 lo hi U;omega
    ·have:=(v.1 f).2.2.2.2.2.2 lo hi U
     simp at h;omega
   refine⟨λu=>⟨λP=>bX (λf=>?_) ae,λP=>jG (Or.inr (by simpa using P))⟩,λu=>jG (Or.inl (by simp at u;omega))⟩
   have:=(v.1 f).2.2.2.1
   simp at u P;omega
def Bn{aj:O}(v:eV b d aj c):dm bY 28 [.agg #[O.v d,O.v aj]] b (lO c):=by
 apply vV;simp -zeta only[aE,aD];intro G;have ae:J b G:=(J.aC b).aM _;have s1:G.size=b.size+1:=by simp[G]
 clear_value G;refine(De (v.ext ae)).aG (J.aC _) bK ?_;rintro _ N ⟨d',al,ak,rfl,Z,ap,I⟩;refine⟨I,d',al,ak,rfl,?_⟩;intro m3 t;have s4:t.size=N.size+1:=by simp[t,m3,az]
 have X:J N t:=((J.aC N).aM _).aj (ad _) _ _;have ah:J b t:=(ae.trans I).trans X;have:=I.size;have aL:=v.cA.len;have aM:=v.cA.fL;clear_value t;refine⟨λhn=>bX (λf=>nb Z hn ⟨f.pC,λq x=>(f.df q x).cW⟩) ah,λhy=>?_⟩;obtain⟨D,ao⟩:=yb Z hy;obtain⟨rfl,hf⟩:=ap (by simpa using hy);refine dO (n:=c.cA.length) V (λR z=>J t z/\∀q∈c.cA.take R,EB c q) ⟨J.aC _,E⟩ ?_;rintro R P aB μ hn ⟨A,Y⟩ aA
 have L:=ah.trans A;refine dit (λaJ=>?_) λaH=>?_
 ·obtain⟨q,x⟩:=ag (l:=c.cA) (k:=R) V;obtain⟨S,ai,T,ha,hl,w,g0,g1,g2,g3,g4⟩:=(v.ext L).cA.u x;refine⟨V,V,S,by simpa using g0,ai,by simpa using g1,_,by simpa using g2,_,by simpa using g3,T,by simpa using g4,?_⟩;intro m6 u;have s7:u.size=P.size+1:=by simp[u,m6,az]
  have r:J P u:=((J.aC P).aM _).aj (ad _) _ _;have s:=L.trans r;have aC:=ha.len;have aF:=w.len;have aG:=w.fL;have o:=au x;clear_value u;refine⟨λe=>bX (λf=>?_) s,λU=>⟨λe=>bX (λf=>?_) s,λe2=>⟨λe=>bX (λf=>?_) s,λe3=>⟨λe=>bX (λf=>?_) s,λe4=>?_⟩⟩⟩⟩
  ·have:=(f.df q o).av;simp at e;split at e<;>omega
  ·have:=(f.df q o).av;simp at e;omega
  ·have:=(f.df q o).len;simp at e;omega
  ·have:=(f.df q o).len;simp at e;omega
  have ac:(q.params.length:Int)<=q.av/\1<=q.av/\q.av<=2000:=by
   simp at U e2;split at U<;>omega
  have an:1<=q.cE.length/\q.cE.length<=2000:=by simp at e3 e4;omega
  obtain⟨F,K⟩:=ag (l:=q.cE) (k:=q.cE.length -1) V;obtain⟨a0,j0,_,_,M,_⟩:=(eB.ext r w).u K;refine⟨λz=>J u z/\(F.op=23\/F.op=24),?_,?_⟩
  ·have e:cK ((T.len:Int) -1)=((q.cE.length -1:Nat):Int):=by rw[aP V V];omega
   rw[e];refine⟨V,V,F.op,by simpa using M,λg=>⟨λh=>bX (λf=>?_) s,λh=>⟨J.aC _,Or.inr (by simpa using h)⟩⟩,λg=>⟨J.aC _,Or.inl (by simpa using g)⟩⟩;have:=(f.df q o).J8 F K;simp at g h;omega
  ·rintro m8 ⟨h8,am⟩;refine dO (n:=q.cE.length) V (λy z=>J u z/\∀(j:Nat)(h:Instr),j<y->q.cE[j]? =some h->gG c q j h) ⟨h8,λj h C=>V⟩ ?_;rintro y Q I2 μ2 hk ⟨m,ab⟩ ay;have aq:=s.trans m;refine dit (λaK=>?_) λaI=>?_
   ·obtain⟨h,g⟩:=ag (l:=q.cE) (k:=y) V;obtain⟨xa,xj,ar,av,M,k1,k2,k3,k4,k5⟩:=(eB.ext (r.trans m) w).u g;refine⟨V,V,_,by simpa using M,_,by simpa using k1,_,by simpa using k2,_,by simpa using k3,xa,by simpa using k4,xj,by simpa using k5,?_⟩;intro aw H;have aO:H.size=Q.size+1:=by simp[H,aw,az]
    have p:J Q H:=((J.aC Q).aM _).aj (ad _) _ _;have af:=aq.trans p;have q1:=m.size;have q2:=A.size;clear_value H;refine(Bq (ai:=S) (ax:=ai) (bR.ext af v.aT) D.types (nH.ext (X.trans (A.trans (r.trans (m.trans p)))) hf) D.len.2 (λW B=>(D.df W B).1) (eB.ext (r.trans (m.trans p)) w) ac.2.2 (s:=y) (e:=h) (ar.ext p) (av.ext p)).aG (J.aC _) bK ?_;intro b' aN aa W _;refine⟨b',rfl,λe=>bX (λf=>nb aa e ((f.df q o).df y h g)) (af.trans W),λe=>ay V _ ⟨m.trans (p.trans W),λj i' C B=>?_⟩⟩;rcases Nat.lt_succ_iff_lt_or_eq.1 C with C|rfl
    ·exact ab j i' C B
    ·rw[g]at B;simp at B;subst B;exact yb aa e
   ·refine aA V _ ⟨A.trans (r.trans m),bD x Y ⟨ao q o,ac,an,λj h g=>ab j h (by have:=ax g;omega) g,λh g=>?_⟩⟩
    rw[K]at g;simp at g;subst g;exact am
 ·exact iN ⟨D,cF V Y⟩ L
end
section
variable{m:I}{s:O}{k:Nat}{γ σ:Type}
def MC(m:I)(a:List Ce)(c:bM):Prop:=∃f,a=[.i c.aQ,.i c.lp,.s f]/\ar m f c.aK
def HW(m:I)(a:List Ce)(f:aZ):Prop:=∃r o h,a=[.i f.eS,.i f.pc,.i f.dst,.s r,.s o,.s h]/\ar m r f.av/\ar m o f.aW/\ar m h f.bn
abbrev cV(m:I)(s:O)(l:List bM):Prop:=dW m 3 (MC m) s l
abbrev k8(m:I)(s:O)(l:List aZ):Prop:=dW m 6 (HW m) s l
def MC.ext{m b:I}(g:J m b)(a:List Ce)(c:bM):MC m a c->MC b a c:=λ⟨f,d,e⟩=>⟨f,d,e.ext g⟩
def cV.ext{m b:I}(a:J m b){s:O}{l:List bM}(h:cV m s l):cV b s l:=h.mono a (MC.ext a)
def HW.ext{m d:I}(a:J m d)(b:List Ce)(c:aZ):HW m b c->HW d b c:=λ⟨r,o,h,e,f,g,i⟩=>⟨r,o,h,e,f.ext a,g.ext a,i.ext a⟩
def k8.ext{m b:I}(a:J m b){s:O}{l:List aZ}(h:k8 m s l):k8 b s l:=h.mono a (HW.ext a)
def cV.u{l:List bM}(h:cV m s l){x:bM}(c:l[k]? =some x):
 ∃f,ar m f x.aK/\D m s.F (s.off+k*3)=some (vi x.aQ)/\D m s.F (s.off+k*3+1)=some (vi x.lp)/\D m s.F (s.off+k*3+2)=some (O.v f):=by
 obtain⟨d,⟨f,rfl,b⟩,a⟩:=h.je k x c
 exact⟨f,b,a 0 (.i x.aQ) rfl,a 1 (.i x.lp) rfl,a 2 (.s f) rfl⟩
def k8.u{l:List aZ}(h:k8 m s l){x:aZ}(b:l[k]? =some x):
 ∃r o e,ar m r x.av/\ar m o x.aW/\ar m e x.bn/\D m s.F (s.off+k*6)=some (vi x.eS)/\D m s.F (s.off+k*6+1)=some (vi x.pc)/\D m s.F (s.off+k*6+2)=some (vi x.dst)/\
  D m s.F (s.off+k*6+3)=some (O.v r)/\D m s.F (s.off+k*6+4)=some (O.v o)/\D m s.F (s.off+k*6+5)=some (O.v e):=by
 obtain⟨f,⟨r,o,e,rfl,d,c,a⟩,kd⟩:=h.je k x b
 exact⟨r,o,e,d,c,a,kd 0 (.i x.eS) rfl,kd 1 (.i x.pc) rfl,kd 2 (.i x.dst) rfl,kd 3 (.s r) rfl,kd 4 (.s o) rfl,kd 5 (.s e) rfl⟩
def _root_.Go.Vc.dW.EG{l:List Int}(h:dW m 1 RD s l){i:Int}(a:0<=i)(b:i<l.length):D m s.F (s.off+i.toNat*1)=some (vi (u l i)):=ar.u h (qR a b)
structure RV(m:I)(mb o:Nat)(d p bo hp fr:O)(im:cD)(s:St):Prop where
 fK:eV m d p im
 aT:D m mb 0=some (O.v d)
 cA:D m mb 1=some (O.v p)
 cL:D m mb o=some (vi s.cL)
 value:D m mb (o+1)=some (vi s.value)
 bI:D m mb (o+2)=some (vi s.bI)
 dK:D m mb (o+3)=some (vi s.dK)
 XD:D m mb (o+4)=some (O.v bo)
 C3:D m mb (o+5)=some (O.v hp)
 Pd:D m mb (o+6)=some (O.v fr)
 bo:ar m bo s.bo
 heap:cV m hp s.heap
 ak:k8 m fr s.ak
def RV.ext{m f:I}{g o:Nat}{d p bo c b:O}{e:cD}{s:St}(h:RV m g o d p bo c b e s)(a:J m f):RV f g o d p bo c b e s:=
 ⟨h.fK.ext a,a.D h.aT,a.D h.cA,a.D h.cL,a.D h.value,a.D h.bI,a.D h.dK,a.D h.XD,a.D h.C3,a.D h.Pd,h.bo.ext a,cV.ext a h.heap,k8.ext a h.ak⟩
def Uo(P:Nat->Prop):∀(n:Nat),P n->∃k,P k/\∀j,P j->k<=j:=by
 intro n;induction n using Nat.strongRecOn with
 |_ n e=>
  intro b;rcases fX (∃j,j<n/\P j)with⟨j,a,d⟩|c
  ·exact e j a d
  ·exact⟨n,b,λj a=>eA λh=>c ⟨j,V,a⟩⟩
def Mr{q:σ}{l:(σ->I->Prop)->(σ->I->Nat)->σ->I->Prop}(J:γ->σ->I->Prop)(ν:γ->Nat)(n:γ)(t:J n q m)
 (r:∀(g:γ)(s:σ)(b:I)(a:σ->I->Prop)(μ:σ->I->Nat),J g s b->(∀c e d,J c e d->ν c<ν g->a e d/\μ e d<μ s b)->l a μ s b):
 ∃(a:σ->I->Prop)(μ:σ->I->Nat),a q m/\∀s b,a s b->l a μ s b:=by
 classical
 let a:σ->I->Prop:=λs m=>∃g,J g s m
 have i:∀s m,a s m->∃k,(∃g,J g s m/\ν g=k)/\∀p,(∃g,J g s m/\ν g=p)->k<=p:=λs m⟨g,j⟩=>Uo _ (ν g) ⟨g,j,rfl⟩
 let μ:σ->I->Nat:=λs m=>if f:a s m then Classical.choose (i s m f)else 0
 refine⟨a,μ,⟨n,t⟩,λs b f=>?_⟩
 obtain⟨g,j,v⟩:=(eN (i s b f)).1
 refine r g s b a μ j λc e d h u=>⟨⟨c,h⟩,?_⟩
 have o:a e d:=⟨c,h⟩
 simp only[μ,Qa f,Qa o]
 exact mj ((eN (i e d o)).2 _ ⟨c,h,rfl⟩) (v▸u)
def Pz{τ:Type}{j:σ}{k:τ}{i:(σ->τ->I->Prop)->(σ->τ->I->Nat)->σ->τ->I->Prop}(J:γ->σ->τ->I->Prop)(ν:γ->Nat)(l:γ)(o:J l j k m)
 (n:∀(g:γ)(s:σ)(t:τ)(b:I)(a:σ->τ->I->Prop)(μ:σ->τ->I->Nat),J g s t b->(∀h e f d,J h e f d->ν h<ν g->a e f d/\μ e f d<μ s t b)->i a μ s t b):
 ∃(a:σ->τ->I->Prop)(μ:σ->τ->I->Nat),a j k m/\∀s t b,a s t b->i a μ s t b:=by
 obtain⟨a,μ,p,q⟩:=Mr (σ:=σ×τ) (q:=(j,k)) (l:=λa μ c b=>i (λs t=>a (s,t)) (λs t=>μ (s,t)) c.1 c.2 b) (λg c m=>J g c.1 c.2 m) ν l o (λg c b a μ r u=>n g c.1 c.2 b (λs t=>a (s,t)) (λs t=>μ (s,t)) r λh e f d=>u h (e,f) d)
 exact⟨λs t=>a (s,t),λs t=>μ (s,t),p,λs t=>q (s,t)⟩
end
section
variable{m g:I}{s d p a j t o e:O}{b r:List Int}{f:Nat}{K:Value->I->Prop}{c:cD}{x:Instr}
def _root_.Go.Vc.dW.Hd(h:dW m 1 RD s b):fQ m s.F s.off (b.map Ce.i):=λi d a=>by
 rw[bW]at a;obtain⟨x,c,rfl⟩:=Option.map_eq_some_iff.1 a;have:=ar.u h c;rw[dG]at this;exact this
def oE(f:Nat)(c:List Value)(m:I)(b:List Int):Prop:=aN bY f c m λv a=>∃s,v=O.v s/\iO m a aB 1 s (b.map Ce.i)/\J m a
def oE.then{c:List Value}(h:oE f c m b)(i:b.length<=1000000000)(e:∀s a,iO m a aB 1 s (b.map Ce.i)->ar a s b->J m a->K (O.v s) a):aN bY f c m K:=
 h.mono λ_ _⟨s,d,a,g⟩=>d▸e s _ a (ar.ij a V) g
def oE.aG{c:List Value}{d:List Nat}(h:oE f c m b)(l:b.length<=1000000000)(i:∀a∈d,a<m.size)(k:∀s a,iO m a aB 1 s (b.map Ce.i)->ar a s b->J m a->K (O.v s) a):aN bY f c m λv a=>dV d m a/\K v a:=
 h.mono λ_ _⟨s,j,e,g⟩=>⟨g.da i,j▸k s _ e (ar.ij e V) g⟩
def dw(w:Int)(m:I):dm bY 121 [vi w] m (1000<=w):=by
 apply yr;exact fA E (J.aC _)
def gS{a:O}{h:List bM}(j:cV m a h){w:Int}(F: -9223372036854775808<=w/\w<=9223372036854775807):dm bY 163 [O.v a,vi w] m (jc h w):=by
 apply DP;have C:=j.len;have D:=j.fL;have r:cK ((a.len:Int) -1)=(a.len:Int) -1:=aP V V;rw[r];have A:cK (w -1000)=w -1000\/(w<1000/\¬(0<=cK (w -1000)/\cK (w -1000)<=(a.len:Int) -1))\/(w<1000/\cK (w -1000)=w -1000+18446744073709551616):=by
  rcases fX (-9223372036854775808<=w -1000)with b|b
  ·exact Or.inl (aP b V)
  ·refine Or.inr (Or.inr ⟨V,?_⟩);simp only[cK,IntKind.wrap,IntKind.signed,IntKind.bits];simp;omega
 refine(aU _ _ _ _).then λp G i b=>⟨p,rfl,λy=>?_,λx=>?_⟩
 ·refine(dw _ _).then λq H o g=>⟨q,rfl,λv=>?_,λu=>?_⟩
  ·have n:=o.1 v;have s:cK (w -1000)=w -1000:=aP V V;rw[s]at i⊢;have E:=i.1 y;obtain⟨e,c⟩:=ag (l:=h) (k:=(w -1000).toNat) V;obtain⟨f,B,t,_⟩:=(cV.ext (b.trans g) j).u c;refine⟨V,V,e.aQ,t,fA ?_ (b.trans g)⟩;simp only[mH,ao];refine⟨λa=>⟨n,e,c,a⟩,λ⟨_,z,d,a⟩=>?_⟩;unfold ix at d;rw[c]at d;simp at d;subst d;exact a
  ·exact bX (λd=>fb o u d.1) (b.trans g)
 ·refine bX (λ⟨n,e,c,_⟩=>fb i x ?_) b;have:=ax c;unfold ix at this;rw[aP V V];omega
def JA(a:Int)(m:I):dm bY 125 [vi a] m (uP a):=by
 apply DO;refine⟨λh=>iN ?_ (J.aC _),λh=>⟨λb=>iN ?_ (J.aC _),λb=>fA ?_ (J.aC _)⟩⟩<;>simp[uP]at* <;>omega
def QS{q:cY}(a:c.cA[x.bL.toNat]? =some q)(k:Nat):mQ c x k=true<->(k:Int)∈q.cW:=by
 simp[mQ,dF,a,List.any_eq_true]
def Bc(c:cD)(x:Instr):Prop:=(x.op=9\/x.op=24)->0<=x.bL/\∃q,c.cA[x.bL.toNat]? =some q
def gG.call{p:cY}{k:Nat}(h:gG c p k x):Bc c x:=λe=>by
 have a:=h.op;unfold lA at a;rw[ae V,ae V,ae V,ae V,aq e]at a;obtain⟨q,b,d,_⟩:=a;exact⟨b,q,d⟩
def pU(h:eV m d p c)(A:Bc c x)(a j:O)(k:Nat):
 dm bY 167 [.agg #[O.v d,O.v p],.agg #[vi x.op,vi x.dst,vi x.bL,vi x.bV,O.v a,O.v j],vi k] m ((x.op=9\/x.op=24)/\mQ c x k=true):=by
 apply Cb
 simp -zeta only[aE,aD]
 intro o b
 have n:J m b:=((J.aC m).aM _).aM _
 have B:∀f∈[o.size,m.size],f<b.size:=by simp[b,o];omega
 have P:=h.cA.len
 clear_value b
 have q:∀e:x.op=9\/x.op=24,(0:Int)<=x.bL/\x.bL<(p.len:Int)/\∃u:O,D b p.F (p.off+Int.toNat x.bL*5+1)=some (O.v u)/\
  aN bY 175 [O.v u,vi k] b λr s=>dV [o.size,m.size] b s/\∃t:Bool,r=vb t/\∃f:Bool,vb t=.bool f/\(f=true<->((x.op=9\/x.op=24)/\mQ c x k=true))/\J m s:=λe=>by
  obtain⟨w,R,l⟩:=A e
  obtain⟨F,E,G,M,C,N,H,v,I,K,L⟩:=(h.ext n).cA.u l
  have:=ax l
  refine⟨w,V,E,v,(cU C _).aG (J.aC _) B λf Q z y _=>⟨f,rfl,fA ?_ (n.trans y)⟩⟩
  rw[z,QS l]
  exact⟨λh=>⟨e,h⟩,λh=>h.2⟩
 refine⟨λi=>q (Or.inl (by simpa using i)),λi=>⟨λg=>q (Or.inr (by simpa using g)),λg=>bX (λ⟨e,_⟩=>?_) n⟩⟩
 simp at i g;omega
def Fl(a:Int)(m:I):dm bY 166 [vi a] m (a=6\/a=9\/a=10\/a=11):=by
 apply qj;refine⟨λh=>iN ?_ (J.aC _),λh=>⟨λb=>iN ?_ (J.aC _),λb=>⟨λc=>iN ?_ (J.aC _),λc=>fA ?_ (J.aC _)⟩⟩⟩<;>simp at* <;>omega
def pJ(c:cD)(x:Instr)(n:Nat):List Int:=iZ c x 0 (x.args.take n)
def AY(c:cD)(x:Instr):∀(b r:List Int)(k:Nat),iZ c x k (b++r)=iZ c x k b++iZ c x (k+b.length) r
 |[],r,k=>by simp[iZ]
 |a::b,r,k=>by
  have:=AY c x b r (k+1);simp only[cR,iZ,this,bg];have e:k+(b.length+1)=k+1+b.length:=V;rw[e];split<;>simp
def CA(c:cD)(x:Instr):∀(b:List Int)(k:Nat),(iZ c x k b).length<=b.length
 |[],k=>ad _
 |a::b,k=>by
  have:=CA c x b (k+1);simp only[iZ];split<;>simp<;>omega
def P2(c:cD)(x:Instr):(dp c x).length<=x.args.length:=by
 unfold dp;split
 ·exact ad _
 split
 ·simp;omega
 split
 ·exact CA _ _ _ _
 ·simp
def J.zE{a c:I}(f:J g a)(h:J g c){b:List Nat}(d:∀x∈b,x<g.size):dV b a c:=λx e=>by rw[f.same x (d x e),h.same x (d x e)]
def nT{v:Int}{K:O->I->Prop}(c:iO g m aB 1 s (b.map Ce.i))(h:J g m)(n:b.length<1000000000)
 (f:∀r a,iO g a aB 1 r ((b++[v]).map Ce.i)->J g a->K r a):
 iS (m.push (.cells (br [.i v]) aB)) aB [.i (0:Int)] 8 s (O.mk m.size 0 1 1) K:=by
 have o:s.len=b.length:=by have:=c.len;simp at this;omega
 refine iO.append (zs:=[.i 0]) (f:=[.i v]) (c.ext (J.push _ _)) (h.aM _) rfl (cB.push m _ _).je bK λr a d e i j k l=>?_
 exact f r a (by simpa using d) e
def HM(ad:eV m d p c)(hc:Bc c x)(M:ar m a x.args)(an:x.args.length<=1000000)(af:(x.op=16\/x.op=17)->1<=x.args.length):
 oE 127 [.agg #[O.v d,O.v p],.agg #[vi x.op,vi x.dst,vi x.bL,vi x.bV,O.v a,O.v j]] m (dp c x):=by
 apply Cp
 simp -zeta only[aE,aD]
 intro F f T
 have C:J m f:=((J.aC m).aM _).aM _
 have s2:f.size=m.size+2:=by simp[f,F]
 have h3:J f T:=(J.aC f).aM _
 have v:iO f T aB 1 (.mk f.size 0 0 0) []:=iO.new (J.aC f) aB 1 [] 0 E
 have s1:F.size=m.size+1:=by simp[F]
 have ak:=M.len
 have z:∀w∈[F.size,m.size],w<f.size:=λw u=>by simp at u;omega
 clear_value T
 clear_value f
 have N:∀{q s b},iO f q aB 1 s b->iO m q aB 1 s b:=λv=>v.cG C.size
 refine⟨λac q=>J f q/\iO f q aB 1 (.mk f.size 0 0 0) []/\(ac=true<->(x.op=15\/x.op=6\/x.op=10\/x.op=11\/x.op=18\/x.op=23\/x.op=9\/x.op=24)),?_,?_⟩
 ·refine(Fl _ _).aG h3 z λw G u h o=>⟨w,rfl,λQ=>⟨o,v.ext h,by have:=u.1 Q;simp;omega⟩,λP=>?_⟩
  have g:=fb u P
  refine⟨λe=>⟨o,v.ext h,by simp at e;simp;omega⟩,λL=>⟨λe=>⟨o,v.ext h,by simp at e;simp;omega⟩,λt=>⟨λe=>⟨o,v.ext h,by simp at e;simp;omega⟩,λB=>⟨o,v.ext h,by simp at L t B;simp;omega⟩⟩⟩⟩
 ·rintro ac G ⟨h,R,Z⟩
  refine⟨λai=>?_,λah=>?_⟩
  ·have hT:=Z.1 ai
   refine dC (n:=x.args.length) V (λg s q=>J f q/\iO f q aB 1 s ((if x.op=9\/x.op=24 then pJ c x g else x.args.take g).map Ce.i)) ⟨h,by simpa[pJ,iZ]using R⟩ ?_
   rintro g s m5 aj μ hk ⟨U,S⟩ ab
   have aa:=C.trans U
   refine dit (λam=>?_) λal=>?_
   ·obtain⟨y,i⟩:=ag (l:=x.args) (k:=g) V
    have Y:pJ c x (g+1)=pJ c x g++iZ c x g [y]:=by
     unfold pJ;rw[bH i,AY];simp;congr 2;omega
    refine(pU (ad.ext aa) hc a j g).aG U z λw m6 u W I=>⟨w,rfl,λQ=>?_,λP=>?_⟩
    ·have K:=nb u Q
     refine⟨V,V,y,by simpa using(M.ext (C.trans I)).u i,?_⟩
     intro m7
     have X:(if x.op=9\/x.op=24 then pJ c x g else x.args.take g).length<=g:=by
      split
      ·refine bJ (CA _ _ _ _) ?_;simp;omega
      ·simp;omega
     refine nT (S.ext W) I V λr m8 A H=>?_
     refine⟨J.zE (I.aM _) H z,ab V _ _ ⟨H,?_⟩⟩
     by_cases e:x.op=9\/x.op=24
     ·rw[aq e]at A⊢
      rw[Y]
      have:iZ c x g [y]=[y]:=by
       simp only[iZ];rw[ae (λz=>K ⟨e,z⟩)]
      rw[this];exact A
     ·rw[ae e]at A⊢
      rw[bH i];exact A
    ·have K:=yb u P
     refine ab V _ _ ⟨I,?_⟩
     have X:=S.ext W
     rw[aq K.1]at X⊢
     rw[Y]
     have:iZ c x g [y]=[]:=by
      simp only[iZ];rw[aq K.2]
     rw[this,fx];exact X
   ·refine⟨s,rfl,?_,aa⟩
    have t:dp c x=if x.op=9\/x.op=24 then pJ c x g else x.args.take g:=by
     have B:x.args.take g=x.args:=bZ V;unfold dp pJ;rw[B];by_cases e:x.op=9\/x.op=24
     ·rw[ae V,ae V,aq e,aq e]
     ·rw[aq V,ae e]
    rw[t];exact N S
  ·have hT:¬(x.op=15\/x.op=6\/x.op=10\/x.op=11\/x.op=18\/x.op=23\/x.op=9\/x.op=24):=λe=>by have:=Z.2 e;rw[ah]at this;simp at this
   have o:=C.trans h
   have kj:∀e:x.op=16\/x.op=17,(0:Int)<=(0:Int)/\(0:Int)<(a.len:Int)/\∃I:Int,D G a.F (a.off+Int.toNat (0:Int)*1)=some (vi I)/\
    iS (G.push (.cells (br [.i I]) 3)) 3 [.i (0:Int)] 8 (O.mk f.size 0 0 0) (O.mk G.size 0 1 1) λP g=>dV [F.size,m.size] (G.push (.cells (br [.i I]) 3)) g/\∃s,O.v P=O.v s/\iO m g aB 1 s ((dp c x).map Ce.i)/\J m g:=λe=>by
    have Q:=af e
    obtain⟨y,i⟩:=ag (l:=x.args) (k:=0) V
    refine⟨V,V,y,by simpa using(M.ext o).u i,nT (b:=[]) R h E λr m8 A H=>⟨J.zE (h.aM _) H z,r,rfl,?_,C.trans H⟩⟩
    have t:dp c x=[y]:=by
     unfold dp;rw[ae V,aq e];cases K:x.args with
     |nil=>rw[K]at i;simp at i
     |cons S b=>rw[K]at i;simp at i;subst i;rfl
    rw[t];exact N A
   refine⟨λe=>kj (Or.inl (by simpa using e)),λL=>⟨λe=>kj (Or.inr (by simpa using e)),λt=>⟨_,rfl,?_,o⟩⟩⟩
   have B:dp c x=[]:=by
    simp at L t;unfold dp;rw[ae V,ae V,ae V]
   rw[B];exact N R
def fE(c:ar m s b)(l:b.length<=1000000000):oE 57 [O.v s] m b:=by
 apply me;intro d;have a:J m d:=(J.aC m).aM _;have g:iO m d aB 1 (.mk m.size 0 0 0) []:=iO.new (J.aC m) aB 1 [] 0 E;have f:=c.len;refine iO.append (zs:=[.i 0]) (f:=b.map Ce.i) g a (by simp[f]) (c.ext a).Hd bK λr n a e h i j k=>⟨r,rfl,by simpa using a,e⟩
def Jw(h:ar m s b)(c:ar m t r)(p:b.length+r.length<=1000000000):oE 213 [O.v s,O.v t] m (b++r):=by
 apply sP;refine(fE h V).then V λq w d e a=>⟨q,rfl,?_⟩;have i:=c.len;have o:=e.len;refine iO.append (zs:=[.i 0]) (f:=r.map Ce.i) d a (by simp[i]) (c.ext a).Hd V λu v f g j k l n=>⟨u,rfl,by simpa using f,g⟩
def kJ(d:ar m s b):dm bY 161 [O.v s] m (RF b):=by
 apply BG;have i:=d.len;refine dO (n:=b.length) (i▸d.fL) (λf a=>J m a/\∀y∈b.take f,y=0) ⟨J.aC _,E⟩ ?_;rintro f q I μ p ⟨a,g⟩ o
 refine⟨λh=>?_,λh=>iN (cF (by simp at h;omega) g) a⟩;simp only[ao]at h;obtain⟨x,e⟩:=ag (l:=b) (k:=f) V;refine⟨V,V,x,by simpa using a.D (d.u e),λc=>bX (λj=>?_) a,λc=>o V _ ⟨a,bD e g (by simpa using c)⟩⟩;have:=j x (au e);simp at c;omega
def yC(d:ar m s b):dm bY 168 [O.v s] m (∀o∈b,0<=o):=by
 apply uq;have i:=d.len;refine dO (n:=b.length) (i▸d.fL) (λf a=>J m a/\∀y∈b.take f,0<=y) ⟨J.aC _,E⟩ ?_;rintro f r I μ q ⟨a,g⟩ p
 refine⟨λh=>?_,λh=>iN (cF (by simp at h;omega) g) a⟩;simp only[ao]at h;obtain⟨x,e⟩:=ag (l:=b) (k:=f) V;refine⟨V,V,x,by simpa using a.D (d.u e),λc=>bX (λj=>?_) a,λc=>p V _ ⟨a,bD e g (by simpa using c)⟩⟩;have:=j x (au e);simp at c;omega
def oT(g:ar m s b)(o:ar m t r):dm bY 208 [O.v s,O.v t] m (b=r):=by
 apply Ar;have p:=g.len;have v:=o.len;refine⟨λh=>bX (λe=>by subst e;simp at h;omega) (J.aC _),λh=>?_⟩;simp at h;refine dO (n:=b.length) (p▸g.fL) (λf a=>J m a/\b.take f=r.take f) ⟨J.aC _,E⟩ ?_;rintro f w I μ u ⟨c,j⟩ q
 refine⟨λh=>?_,λh=>iN (by simp at h;rwa[bZ V,bZ V]at j) c⟩;simp only[ao]at h;obtain⟨x,i⟩:=ag (l:=b) (k:=f) V;obtain⟨y,d⟩:=ag (l:=r) (k:=f) V;refine⟨V,V,x,by simpa using c.D (g.u i),V,V,y,by simpa using c.D (o.u d),λa=>bX (λe=>?_) c,λa=>q V _ ⟨c,?_⟩⟩
 ·subst e;rw[i]at d;simp at d;simp at a;exact a d
 ·rw[bH i,bH d,j];simp at a;rw[a]
abbrev fv(f:aZ)(r o h:O):Value:=.agg #[vi f.eS,vi f.pc,vi f.dst,O.v r,O.v o,O.v h]
abbrev xv(x:Instr)(a j:O):Value:=.agg #[vi x.op,vi x.dst,vi x.bL,vi x.bV,O.v a,O.v j]
def BE{f:aZ}{r:O}(w:ar m r f.av)(g:ar m a x.args)(G:∀y∈x.args,0<=y/\y<f.av.length):
 dm bY 169 [fv f r o e,xv x a j] m (∀y∈x.args,u f.av y<1000):=by
 apply wg
 simp -zeta only[aE,aD]
 intro B b
 have A:J m b:=((J.aC m).aM _).aM _
 have H:∀d∈[B.size,m.size],d<b.size:=by simp[b,B];omega
 have C:=g.len
 have P:=w.len
 clear_value b
 refine dO (n:=x.args.length) (C▸g.fL) (λq c=>J b c/\∀y∈x.args.take q,u f.av y<1000) ⟨J.aC _,E⟩ ?_
 rintro q Q L μ N ⟨z,v⟩ K
 have i:=A.trans z
 refine⟨λh=>?_,λh=>iN (cF (by simp at h;omega) v) i⟩
 simp only[ao]at h
 obtain⟨y,c⟩:=ag (l:=x.args) (k:=q) V
 have p:=G y (au c)
 refine⟨V,V,y,by simpa using i.D (g.u c),p.1,V,u f.av y,by simpa using i.D (w.EG p.1 p.2),?_⟩
 refine(dw _ _).aG z H λd R t M s=>⟨d,rfl,λF=>bX (λI=>?_) (A.trans s),λD=>K V _ ⟨s,bD c v ?_⟩⟩
 ·have:=I y (au c);have:=t.1 F;omega
 ·have:=fb t D;omega
def GD(b r:List Int):pR (b++r)=pR b++pR r:=by simp[pR]
def rh(b:List Int):(pR b).length<=b.length:=List.length_filter_le _ _
def mV(g:ar m s b)(C:b.length<=100000000):oE 207 [O.v s] m (pR b):=by
 apply wB;intro h;have t:J m h:=(J.aC m).aM _;have w:iO m h aB 1 (.mk m.size 0 0 0) []:=iO.new (J.aC m) aB 1 [] 0 E;have B:=g.len;clear_value h;refine dC (n:=b.length) V (λf s a=>J m a/\iO m a aB 1 s ((pR (b.take f)).map Ce.i)) ⟨t,by simpa[pR]using w⟩ ?_;rintro f s D I μ A ⟨d,c⟩ o
 refine dit (λq=>?_) λq=>?_
 ·obtain⟨x,e⟩:=ag (l:=b) (k:=f) V;refine⟨V,V,x,by simpa using d.D (g.u e),?_⟩;refine(dw _ _).then λp F i a=>⟨p,rfl,λv=>?_,λu=>?_⟩
  ·have j:=d.trans a;refine⟨V,V,x,by simpa using j.D (g.u e),?_⟩;intro G;refine nT (c.ext a) j (by have:=rh (b.take f);simp at this;omega) λr H y z=>o V _ _ ⟨z,?_⟩
   rw[bH e,GD];have:pR [x]=[x]:=by simp[pR,i.1 v]
   rw[this];exact y
  ·refine o V _ _ ⟨d.trans a,?_⟩
   rw[bH e,GD];have:pR [x]=[]:=by simp[pR];have:=fb i u;omega
   rw[this,fx];exact c.ext a
 ·rw[bZ V]at c;exact⟨s,rfl,c,d⟩
def pX{f:aZ}{r:O}(q:ar m r f.av)(t:ar m s b)(B:∀y∈b,0<=y/\y<f.av.length)(M:b.length<=100000000):
 oE 209 [fv f r o e,O.v s] m (dh f b):=by
 apply Cy
 simp -zeta only[aE,aD]
 intro a p
 have v:J m a:=(J.aC m).aM _
 have A:J a p:=(J.aC a).aM _
 have D:iO a p aB 1 (.mk a.size 0 0 0) []:=iO.new (J.aC a) aB 1 [] 0 E
 have C:∀x∈[m.size],x<a.size:=by simp[a]
 have L:=t.len
 have K:=q.len
 clear_value p
 clear_value a
 refine dC (n:=b.length) V (λj s c=>J a c/\iO a c aB 1 s ((dh f (b.take j)).map Ce.i)) ⟨A,by simpa[dh]using D⟩ ?_
 rintro j s N I μ H ⟨d,c⟩ F
 have g:=v.trans d
 refine dit (λz=>?_) λz=>?_
 ·obtain⟨y,h⟩:=ag (l:=b) (k:=j) V
  have i:=B y (au h)
  refine⟨V,V,y,by simpa using g.D (t.u h),i.1,V,u f.av y,by simpa using g.D (q.EG i.1 i.2),?_⟩
  intro P
  refine nT c d (by simp[dh];omega) λR Q G w=>⟨J.zE (d.aM _) w C,F V _ _ ⟨w,?_⟩⟩
  rw[bH h]
  simpa[dh]using G
 ·rw[bZ V]at c
  exact⟨s,rfl,c.cG v.size,g⟩
end
section
variable{g:I}{b:aZ}{v z d p h y j:O}{s:St}{c:List Int}{t:Nat}{q:cD}{w:Int}{e:Nat->Int}{x:Instr}
def FI{e:O}(S:ar g v b.av)(ho:ar g z b.aW){s:O}(F:ar g s c)(af:∀y∈c,0<=y/\y<b.av.length)(ao:b.av.length=b.aW.length)(aA:b.aW.length<=1000000)(ay:c.length<=1000000)
 (P:∀w∈b.aW,-1000000000<=w/\w<=1000000000):oE 126 [fv b v z e,O.v s] g (dx b.av b.aW c):=by
 apply Am
 simp -zeta only[aE,aD]
 intro q
 have G:J g q:=(J.aC g).aM _
 have K:∀I∈[g.size],I<q.size:=by simp[q]
 have az:=F.len
 have ax:=S.len
 clear_value q
 refine(fE (ho.ext G) V).aG V K λA m2 o2 i2 h2=>⟨A,rfl,?_⟩
 have R:=i2.len
 have jK:∀(j H aW:List Int),dx b.av aW (j++H)=dx b.av (dx b.av aW j) H:=by
  intro j;induction j with
  |nil=>intro H aW;rfl
  |cons y j p=>intro H aW;simp only[cR,dx,p]
 have lo:∀(j aW:List Int)(C:Int),(∀w∈aW,C<=w)->∀w∈dx b.av aW j,C -j.length<=w:=by
  intro j;induction j with
  |nil=>intro aW C h w t;have:=h w t;simp;omega
  |cons y j p=>
   intro aW C h w t;simp only[dx]at t;have:=p _ (C -1) (λx d=>by
    split at d
    ·rcases fX (y.toNat<aW.length)with D|D
     ·rcases qZ d with d|d
      ·have:=h _ (ik (i:=y.toNat) (a:=u aW y) (by obtain⟨E,B⟩:=ag D;rw[LA B];exact B));omega
      ·have:=h x d;omega
     ·have B:gU aW y (u aW y -1)=aW:=by unfold gU;rw[CF V]
      rw[B]at d;have:=h x d;omega
    ·have:=h x d;omega) w t
   simp only[bg];omega
 refine dO (n:=c.length) V (λd p=>J q p/\iO q p aB 1 A ((dx b.av b.aW (c.take d)).map Ce.i)) ⟨h2,o2⟩ ?_
 rintro d m3 al μ hk ⟨T,E⟩ X
 have M:=G.trans T
 refine dit (λh=>?_) λh=>?_
 ·obtain⟨y,x⟩:=ag (l:=c) (k:=d) V
  have p:=af y (au x)
  have ap:=pI b.av (c.take d) b.aW
  refine⟨V,V,y,by simpa using M.D (F.u x),p.1,V,u b.av y,by simpa using M.D (S.EG p.1 p.2),?_⟩
  refine(dw _ _).aG T K λI W Q N D=>⟨I,rfl,λac=>?_,λaa=>?_⟩
  ·have U:=G.trans D
   have L:=E.ext N
   have i4:ar W A (dx b.av b.aW (c.take d)):=ar.ij L V
   refine⟨V,V,y,by simpa using U.D (F.u x),V,V,y,by simpa using U.D (F.u x),p.1,V,u (dx b.av b.aW (c.take d)) y,i4.EG p.1 V,p.1,V,?_⟩
   have aw:=lo (c.take d) b.aW (-1000000000) (λw t=>(P w t).1) _ (iv (b:=dx b.av b.aW (c.take d)) p.1 V)
   have am:u (dx b.av b.aW (c.take d)) y<=1000000000:=by
    obtain⟨q',ak,an⟩:=rH (c.take d) b.aW y.toNat _ (qR (b:=dx b.av b.aW (c.take d)) p.1 V);have:=(P q' (au ak)).2;omega
   have av:(c.take d).length<=1000000:=bK
   rw[aP V V]
   rcases L.u with ai|⟨t,Z,tail,B,e2,e3,e4,e5⟩
   ·rw[ai]at R;simp at R;omega
   ·have aj:A.off=0:=by rw[B];rfl
    have ab:A.F=t:=by rw[B];rfl
    rw[aj,ab]
    have ad:0+y.toNat*1=y.toNat:=V
    rw[ad]
    have ah:y.toNat<((dx b.av b.aW (c.take d)).map Ce.i).length:=bK
    refine⟨e3.fm (by simp only[a9];omega),?_⟩
    intro m5
    have Y:J q m5:=D.aj e2 _ _
    refine⟨J.zE D Y K,X V _ ⟨Y,?_⟩⟩
    rw[bH x,jK]
    simp only[dx,aq (Q.1 ac)]
    refine⟨by rw[eO,jH,<-eO (f:=Ce.i)];exact L.len,Or.inr ⟨t,Z,tail,B,e2,?_,?_,e5⟩⟩
    ·have:=cB.aj (m:=W) (o:=y.toNat) (r:=[.i (u (dx b.av b.aW (c.take d)) y -1)]) e3
     have B:iE ((dx b.av b.aW (c.take d)).map Ce.i++tail) y.toNat [.i (u (dx b.av b.aW (c.take d)) y -1)]=(gU (dx b.av b.aW (c.take d)) y (u (dx b.av b.aW (c.take d)) y -1)).map Ce.i++tail:=by
      simp only[iE,gU,wR];rw[Wo _ _ ah]
     rw[B]at this;exact this
    ·simp only[a9,eO,jH]at e4⊢;exact e4
  ·refine X V _ ⟨D,?_⟩
   rw[bH x,jK]
   simp only[dx,ae (fb Q aa)]
   exact E.ext N
 ·rw[bZ V]at E
  exact⟨A,rfl,E.cG G.size,M⟩
def eR{bo v z:O}(a:RV g t 2 d p bo v z q s)(N:1000<=w){c:bM}(j:s.heap[ix w]? =some c):
 aN bY 173 [vp t 0,vi w] g λF y=>∃b,F=.agg #[vi c.aQ,vi c.lp,O.v b]/\ar y b c.aK/\J g y:=by
 apply sa (t,0)
 simp -zeta only[aE,aD]
 intro D
 have f:J g D:=(J.aC g).aM _
 have l:=cV.ext f a.heap
 obtain⟨b,I,r,u,k⟩:=l.u j
 have L:=l.len
 have M:=l.fL
 have C:=ax j
 unfold ix at C r u k
 have e:cK (w -1000)=w -1000:=aP V V
 rw[e]
 refine⟨v,f.D a.C3,V,V,c.aQ,r,c.lp,u,b,k,?_⟩
 intro E
 have m:J g E:=f.aj (ad _) _ _
 obtain⟨o,A,P,Q,x⟩:=(cV.ext m a.heap).u j
 unfold ix at x
 have B:o=b:=by
  have H:=f.D (a.C3);obtain⟨G,K,_,_,n⟩:=a.heap.u j;unfold ix at n;have h:=f.D n;have i:=m.D n;rw[k]at h;rw[x]at i;simp at h i;rw[O.GM]at h i;rw[h,i]
 subst B
 exact⟨o,rfl,A,m⟩
def sO{bo P G:O}(F:RV g t 2 d p bo P G q s)(K:fp s.heap e){D:O}(r:ar g D c)(M:∀w∈c,jc s.heap w)(ab:c.length<=1000000):
 dm bY 206 [vp t 0,O.v D] g (mZ s.heap c):=by
 apply pW (t,0)
 have aa:=r.len
 refine dO (n:=c.length) V (λu a=>J g a/\∀w∈c.take u,1000<=w->(aX s.heap w).aQ+dS c (ix w)<=999999) ⟨J.aC _,E⟩ ?_
 rintro u m1 S μ X ⟨A,z⟩ R
 refine⟨λh=>?_,λh=>iN (cF (by simp at h;omega) z) A⟩
 simp only[ao]at h
 obtain⟨x,m⟩:=ag (l:=c) (k:=u) V
 have o:=M x (au m)
 have Q:=gP o.1
 refine dC (n:=c.length) V (λj(B:Int) a=>J g a/\B=dS (c.take j) (ix x)) ⟨A,by simp[dS]⟩ ?_
 rintro j B m2 T μ2 W ⟨f,rfl⟩ C
 refine dit (λH=>?_) λH=>?_
 ·obtain⟨y,v⟩:=ag (l:=c) (k:=j) V
  have N:=jM (c.take j) (ix x)
  have L:=gL (c.take j) (ix x)
  have I:(c.take j).length<=1000000:=bK
  have i:dS (c.take (j+1)) (ix x)=dS (c.take j) (ix x)+if y=x then 1 else 0:=by
   rw[bH v,mS];simp only[dS,Q];omega
  refine⟨V,V,y,by simpa using f.D (r.u v),V,V,x,by simpa using f.D (r.u m),λa=>C V _ _ ⟨f,?_⟩,λa=>C V _ _ ⟨f,?_⟩⟩
  ·simp at a;rw[i,aq a];exact aP V V
  ·simp at a;rw[i,ae a];omega
 ·rw[bZ V]
  have N:=jM c (ix x)
  have L:=gL c (ix x)
  obtain⟨y,Z⟩:=cp o
  have Y:=(K.cell _ (au y)).hi
  refine⟨V,V,x,by simpa using f.D (r.u m),?_⟩
  refine(eR (F.ext f) o.1 y).mono ?_
  rintro _ m3 ⟨b,rfl,U,a⟩
  have v:cK ((aX s.heap x).aQ+dS c (ix x))=(aX s.heap x).aQ+dS c (ix x):=aP V V
  refine⟨_,_,_,rfl,λi=>bX (λI=>?_) (f.trans a),λi=>R V _ ⟨f.trans a,bD m z λ_=>?_⟩⟩
  ·have:=I x (au m) o.1
   rw[v]at i;simp at i;omega
  ·rw[v]at i;simp at i;omega
def qS{h:List bM}:mZ h (pR c)<->mZ h c:=by
 unfold mZ;constructor
 ·intro b w d a;have:=b w (mu.2 ⟨d,a⟩) a;rwa[tS]at this
 ·intro b w d a;rw[tS];exact b w (mu.1 d).1 a
def Vh{s:O}(h:ar g s c)(p:1<=c.length):ar g (O.cut s 1 s.len 1) (c.drop 1):=by
 have b:=h.len;have i:=h.cap;have l:=h.fL;cases s with
 |nil=>simp at b;omega
 |Bj d z a=>simp at b;omega
 |mk d z r o=>
  simp at b i l;refine⟨by simp[O.cut];omega,by simp[O.cut];omega,by simp[O.cut];omega,λn x a=>?_⟩;rw[qb]at a;have q:=ax a;obtain⟨f,j,kd⟩:=h.je (1+n) x a;refine⟨f,j,λm e k=>?_⟩;have:=kd m e k;simp only[O.cut,O.iT,O.lY]at this⊢;rw[ae V];rw[<-this];congr 1;omega
def fS.tT(h:fS q b){v:Int}(d:0<=v)(e:v<b.av.length)(f:∀w∈b.av,w<=9223372036854775807): -9223372036854775808<=u b.av v/\u b.av v<=9223372036854775807:=by
 have c:=iv (b:=b.av) d e;refine⟨?_,f _ c⟩;rcases h.OA _ c with a|a
 ·have:=a.1;omega
 ·omega
def Hy{bo hp fr:O}(A:RV g t 2 d p bo hp fr q s)(N:fp s.heap e)(Q:ar g v b.av)(P:ar g h b.bn)(o:ar g y x.args)
 (M:fS q b)(aj:∀w∈b.av,w<=9223372036854775807)(aa:∀k∈x.args,0<=k/\k<b.av.length)(ay:1<=x.args.length/\x.args.length<=4)(az:x.op=16\/x.op=17):
 dm bY 174 [vp t 0,fv b v z h,xv x y j] g (Lr s.heap b x):=by
 apply ry (t,0)
 simp -zeta only[aE,aD]
 intro m1 G
 have a:J g G:=((J.aC g).aM _).aM _
 have l:∀i∈[m1.size,g.size],i<G.size:=by simp[G,m1];omega
 have aq:=o.len
 have aB:=Q.len
 have ax:=P.len
 have ap:=o.cap
 clear_value G
 have c:0<=u x.args 0/\u x.args 0<b.av.length:=aa _ (iv V V)
 have S:u x.args 0<b.bn.length:=by have:=M.lr;have:=M.lh;omega
 have al:=M.tT c.1 c.2 aj
 refine⟨V,V,u x.args 0,(o.ext a).EG V V,c.1,V,u b.av (u x.args 0),(Q.ext a).EG c.1 c.2,hp,a.D A.C3,?_⟩
 unfold Lr
 simp only[]
 generalize aC:u b.av (u x.args 0)=w at*
 refine(gS (cV.ext a A.heap) al).aG (J.aC _) l λi m3 r C _=>⟨i,rfl,λai=>bX (λf=>nb r ai f.1) (a.trans C),λah=>?_⟩
 have m:=yb r ah
 obtain⟨D,aA⟩:=cp m
 have av:=(N.cell _ (au D)).fl
 have am:=a.trans C
 refine((eR (A.ext am) m.1 D)).aG C l ?_
 rintro _ m4 ⟨fl,rfl,ak,W⟩
 have T:=C.trans W
 refine⟨W,_,_,_,rfl,(mV ak V).aG (by have:=rh (aX s.heap w).aK;omega) (λi r=>T.lt (l i r)) λps m5 o5 i5 h5=>⟨ps,rfl,V,V,V,?_⟩⟩
 have H:=T.trans h5
 have ab:=a.trans H
 have e1:(Int.toNat (1:Int))=1:=rfl
 have e2:(Int.toNat (y.len:Int))=y.len:=V
 rw[e1,e2]
 refine(pX (Q.ext ab) (Vh (o.ext ab) V) (λk n=>aa k (Wn n)) bK).aG (by simp[dh];omega) (λi r=>H.lt (l i r)) λqs m6 o6 i6 K=>⟨qs,rfl,?_⟩
 have ac:=H.trans K
 refine(oT (i5.ext K) i6).aG ac l λb2 m7 X h7 B=>⟨b2,rfl,λae=>?_,λad=>bX (λf=>fb X ad f.2.1) (a.trans B)⟩
 have E:=X.1 ae
 refine(eR (A.ext (a.trans B)) m.1 D).aG B l ?_
 rintro _ m8 ⟨ao,rfl,aw,L⟩
 have I:=B.trans L
 refine⟨L,_,_,_,rfl,λn=>?_,λn=>?_⟩
 ·simp at n
  have F:=a.trans I
  refine⟨λk=>iN ⟨m,E,Or.inl n,λe=>by simp at k;omega⟩ F,λk=>⟨V,V,u x.args 0,(o.ext F).EG V V,c.1,V,u b.bn (u x.args 0),(P.ext F).EG c.1 S,fA ?_ F⟩⟩
  simp only[aL,an,ne_eq]at k⊢
  exact⟨λR=>⟨m,E,Or.inl n,λ_=>R⟩,λf=>f.2.2.2 V⟩
 ·simp at n
  refine(sO (A.ext (a.trans I)) N (i5.ext ((K.trans h7).trans L)) (λU F=>N.field (au D) (mu.1 F).1 (mu.1 F).2) (by have:=rh (aX s.heap w).aK;omega)).aG I l λb3 m9 Y h9 U=>⟨b3,rfl,λag=>?_,λaf=>bX (λf=>?_) (a.trans U)⟩
  ·have Z:=qS.1 (Y.1 ag)
   have F:=a.trans U
   refine⟨λk=>iN ⟨m,E,Or.inr Z,λe=>by simp at k;omega⟩ F,λk=>⟨V,V,u x.args 0,(o.ext F).EG V V,c.1,V,u b.bn (u x.args 0),(P.ext F).EG c.1 S,fA ?_ F⟩⟩
   simp only[aL,an,ne_eq]at k⊢
   exact⟨λR=>⟨m,E,Or.inr Z,λ_=>R⟩,λf=>f.2.2.2 V⟩
  ·rcases f.2.2.1 with k|k
   ·exact n k
   ·exact fb Y af (qS.2 k)
def Fy{bo S fr:O}(b:RV g t 2 d p bo S fr q s)(K:lO q)(G:fp s.heap e)(hw: -9223372036854775808<=w/\w<=9223372036854775807):
 dm bY 172 [vp t 0,vi w] g (CL q s.heap w):=by
 apply qE (t,0)
 simp -zeta only[aE,aD]
 refine⟨S,b.C3,(gS b.heap hw).then λi m1 z F=>⟨i,rfl,λaj=>bX (λa=>nb z aj a.1) F,λai=>?_⟩⟩
 have B:=yb z ai
 obtain⟨I,am⟩:=cp B
 have N:=G.cell _ (au I)
 have aF:=(N.oC am).2
 refine(eR (b.ext F) B.1 I).mono ?_
 rintro _ f ⟨E,rfl,R,j⟩
 refine⟨_,_,_,rfl,?_⟩
 intro X h
 have ao:=F.trans j
 have L:J f h:=((J.aC f).aM _).aj (ad _) _ _
 have s4:h.size=f.size+1:=by simp[h,X,az]
 have hB:D h f.size 1=some (vi (aX s.heap w).lp):=(cB.aj (m:=X) (o:=0) (r:=[.i (aX s.heap w).aQ,.i (aX s.heap w).lp,.s E]) (cB.push f _ _)).cy 1
 have A:∀i∈[f.size],i<h.size:=by simp[s4]
 clear_value h
 have c:=ao.trans L
 have P:=b.ext c
 have aC:=b.fK.cA.len
 have aB:=K.pC.len
 have ar:(eC q.aT).length<=12:=by
  have:=qW K.pC.types q.aT.length;rw[mM _ _ (ad _)]at this;exact this
 refine⟨d,P.aT,(oQ P.fK.aT K.pC.types).aG (J.aC _) A λm5 v _=>⟨_,rfl,v.dg hB,p,(b.ext (c.trans v)).cA,?_⟩⟩
 have aG:=c.trans v
 have e1:cK ((aX s.heap w).lp -((eC q.aT).length:Int))=(aX s.heap w).lp -fF q:=aP V V
 have e2:cK ((p.len:Int) -1)=(p.len:Int) -1:=aP V V
 rw[e1,e2]
 refine(aU _ _ _ _).aG v A λZ m6 Q h6 n=>⟨Z,rfl,λaf=>?_,λae=>bX (λa=>fb Q ae ⟨a.2.1,by have:=a.2.2.1;omega⟩) (c.trans n)⟩
 have U:=Q.1 af
 have C:=c.trans n
 have H:=b.ext C
 obtain⟨ap,T⟩:=ag (l:=q.cA) (k:=((aX s.heap w).lp -fF q).toNat) V
 have an:dF q ((aX s.heap w).lp -fF q)=ap:=by simp[dF,T]
 obtain⟨Y,l',c',ac,al,aw,g0,g1,_⟩:=H.fK.cA.u T
 have av:=ac.len
 have aA:=al.len
 have ay:=R.len
 have ax:=N.fl
 have e3:cK ((E.len:Int)+1)=(E.len:Int)+1:=aP V V
 rw[e3]
 unfold CL
 rw[an]
 refine⟨p,H.cA,V,V,Y,g0,λx=>⟨p,H.cA,V,V,l',g1,λy=>⟨λu=>?_,λu=>?_⟩,λy=>bX (λa=>?_) C⟩,λx=>bX (λa=>?_) C⟩
 ·simp at x y u
  exact iN ⟨B,U.1,V,V,V,Or.inl u⟩ C
 ·simp at x y u
  refine(mV (R.ext (L.trans n)) V).aG (by have:=rh (aX s.heap w).aK;omega) (λi z=>n.lt (A i z)) λps m7 o7 i7 aa=>⟨ps,rfl,?_⟩
  have M:=n.trans aa
  refine(sO (b.ext (c.trans M)) G i7 (λab W=>G.field (au I) (mu.1 W).1 (mu.1 W).2) (by have:=rh (aX s.heap w).aK;omega)).aG M A λW m8 ah aq ab=>⟨W,rfl,fA ?_ (c.trans ab)⟩
  rw[ah,qS]
  refine⟨λak=>⟨B,U.1,V,V,V,Or.inr ak⟩,λa=>?_⟩
  rcases a.2.2.2.2.2 with j|j
  ·exact absurd j u
  ·exact j
 ·have:=a.2.2.2.2.1;simp at y;omega
 ·have:=a.2.2.2.1;simp at x;omega
def FA{bo P G:O}(E:RV g t 2 d p bo P G q s)(C:ar g h b.bn)(I:ar g y x.args)(W:0<=x.bV/\x.bV<=b.bn.length)(X:b.bn.length<=1000000)
 (M:∀w∈b.bn,w≠0->1000<=w/\∃n,s.heap[ix w]? =some n):
 dm bY 170 [vp t 0,fv b v z h,xv x y j] g (Ib s.heap b x):=by
 apply qF (t,0)
 simp -zeta only[aE,aD]
 intro m f
 have c:J g f:=((J.aC g).aM _).aM _
 have N:∀F∈[m.size,g.size],F<f.size:=by simp[f,m];omega
 have H:D f m.size 4=some (O.v y):=(cB.push m _ _).cy 4
 have S:=I.len
 have U:=C.len
 clear_value f
 unfold Ib
 refine⟨λk=>iN (λo=>absurd (by simpa using k) o) c,λk=>?_⟩
 simp at k
 have e:cK (x.bV -1)=x.bV -1:=aP V V
 rw[e]
 have B:=(C.ext c).EG (i:=x.bV -1) V V
 refine⟨V,V,u b.bn (x.bV -1),B,λa=>iN (λ_ o=>absurd (by simpa using a) o) c,λa=>?_⟩
 simp at a
 obtain⟨Q,n,A⟩:=M _ (iv (b:=b.bn) (i:=x.bV -1) V V) a
 refine⟨V,V,u b.bn (x.bV -1),B,(eR (E.ext c) Q A).aG (J.aC _) N ?_⟩
 rintro _ Y ⟨R,rfl,L,o⟩
 have T:=L.len
 have K:aX s.heap (u b.bn (x.bV -1))=n:=by simp[aX,A]
 refine⟨o,_,_,_,rfl,o.dg H,fA ?_ (c.trans o)⟩
 rw[K]
 simp
 exact⟨λr _ _=>V,λr=>by have:=r k a;omega⟩
def ta(q:cD)(x:Instr):∀(c v:List Int)(k:Nat),lE q x k (c++v)=lE q x k c++lE q x (k+c.length) v
 |[],v,k=>by simp[lE]
 |y::c,v,k=>by
  have:=ta q x c v (k+1);simp only[cR,lE,this,bg];have e:k+(c.length+1)=k+1+c.length:=V;rw[e];split<;>simp
def ui{bo o fr:O}(B:RV g t 2 d p bo o fr q s)(U:ar g v b.av)(G:ar g y x.args)(hF:fS q b)(af:∀w∈b.av,w<=9223372036854775807)
 (ah:∀a∈x.args,0<=a/\a<b.av.length)(hc:Bc q x)(aj:x.op=9\/x.op=24):
 dm bY 171 [vp t 0,fv b v z h,xv x y j] g (MH q s.heap b x):=by
 apply qD (t,0)
 simp -zeta only[aE,aD]
 intro Z m
 have K:J g m:=((J.aC g).aM _).aM _
 have I:∀C∈[Z.size,g.size],C<m.size:=by simp[m,Z];omega
 have aa:=G.len
 have al:=U.len
 clear_value m
 refine dO (n:=x.args.length) (aa▸G.fL) (λc e=>J m e/\∀a∈lE q x 0 (x.args.take c),1000<=u b.av a->jc s.heap (u b.av a)) ⟨J.aC _,by simp[lE]⟩ ?_
 rintro c m3 ak μ hk ⟨X,T⟩ M
 have r:=K.trans X
 refine⟨λh=>?_,λh=>iN (by simp at h;rwa[bZ V]at T) r⟩
 simp only[ao]at h
 obtain⟨a,L⟩:=ag (l:=x.args) (k:=c) V
 have i:=ah a (au L)
 have F:=B.ext r
 have W:lE q x 0 (x.args.take (c+1))=lE q x 0 (x.args.take c)++lE q x c [a]:=by
  rw[bH L,ta];congr 2;simp;omega
 have H:(mQ q x c=true->1000<=u b.av a->jc s.heap (u b.av a))->∀A∈lE q x 0 (x.args.take (c+1)),1000<=u b.av A->jc s.heap (u b.av A):=λhh A e=>by
  rw[W]at e;rcases List.mem_append.1 e with e|e
  ·exact T A e
  ·simp only[lE]at e;split at e
   ·rename_i f;simp at e;subst e;exact hh f
   ·simp at e
 have ai:mQ q x c=true->a∈lE q x 0 x.args:=λf=>by
  have e1:x.args=x.args.take (c+1)++x.args.drop (c+1):=(de _ _).symm;rw[e1,ta,W];refine bB _ (dE _ ?_);simp only[lE];rw[aq f];simp
 refine⟨V,V,a,by simpa using r.D (G.u L),i.1,V,u b.av a,by simpa using r.D (U.EG i.1 i.2),d,F.aT,p,F.cA,?_⟩
 refine(pU F.fK hc y j c).aG X I λC m4 Q h4 N=>⟨C,rfl,λae=>?_,λad=>M V _ ⟨N,H λf=>absurd ⟨aj,f⟩ (fb Q ad)⟩⟩
 have f:=(Q.1 ae).2
 refine(dw _ _).aG N I λb2 m5 R h5 D=>⟨b2,rfl,λac=>?_,λab=>M V _ ⟨D,H λ_ o=>absurd o (fb R ab)⟩⟩
 have Y:=K.trans D
 refine⟨o,(B.ext Y).C3,(gS (cV.ext Y B.heap) (hF.tT i.1 i.2 af)).aG D I λb3 m6 S h6 P=>⟨b3,rfl,λE=>bX (λhM=>nb S E (hM a (ai f) (R.1 ac))) (K.trans P),λE=>M V _ ⟨P,H λ_ _=>yb S E⟩⟩⟩
end
section
structure Bd(im:cD)(s:St)(fs:List aZ)(f:aZ)(x:Instr):Prop where
 ok:cN im s
 run:s.cL=3
 fr:s.ak=fs++[f]
 YS:eZ im f=x
 xl:∀g∈s.ak,∀w∈g.av,w<=9223372036854775807
section
variable{b:cD}{s:St}{c:List aZ}{f:aZ}{x:Instr}
def Bd.F(a:Bd b s c f x):fS b f:=a.ok.ak f (by rw[a.fr];simp)
def Bd.Oe(a:Bd b s c f x):∀w∈f.av,w<=9223372036854775807:=a.xl f (by rw[a.fr];simp)
def Bd.I(a:Bd b s c f x):∃p,b.cA[f.eS.toNat]? =some p/\dF b f.eS=p/\EB b p/\p.cE[f.pc.toNat]? =some x/\gG b p f.pc.toNat x:=by
 have:=a.F.IP a.ok.fK;rwa[a.YS]at this
def Bd.Ka(a:Bd b s c f x):f.av.length=f.aW.length/\f.bn.length=f.aW.length/\1<=f.aW.length/\f.aW.length<=2000:=by
 obtain⟨p,_,e,i,_,_⟩:=a.I;have d:=a.F.lr;have g:=a.F.lo;have h:=a.F.lh;rw[e]at d g h;have:=i.av;omega
def Bd.arg(a:Bd b s c f x):∀y∈x.args,0<=y/\y<f.av.length:=λy h=>by
 obtain⟨p,_,e,_,_,g⟩:=a.I;have d:=a.F.lr;rw[e]at d;have:=g.args y h;omega
def Bd.dst(a:Bd b s c f x):0<=x.dst/\x.dst<f.aW.length:=by
 obtain⟨p,_,e,_,_,g⟩:=a.I;have d:=a.F.lo;rw[e]at d;have:=g.dst;omega
def Bd.call(a:Bd b s c f x):Bc b x:=let⟨_,_,_,_,_,d⟩:=a.I;d.call
def Bd.Yv(a:Bd b s c f x):0<=x.op/\x.op<=24/\x.op≠7/\x.op≠8/\x.op≠12/\x.op≠13:=by
 obtain⟨p,_,_,e,_,d⟩:=a.I;exact((Gn e.av.2.2 a.ok.fK.pC.len.2 λq g=>(a.ok.fK.pC.df q g).1).1 d).1
def Bd.OT(g:Bd b s c f x):x.args.length<=4/\((x.op=5\/x.op=14\/x.op=15\/x.op=18\/x.op=23\/x.op=19\/x.op=20\/x.op=21)->x.args.length=1)/\((x.op=1\/x.op=2\/x.op=3\/x.op=4\/x.op=11)->x.args.length=2)/\
 ((x.op=16\/x.op=17)->1<=x.args.length)/\(x.op=6->0<=x.bV/\x.bV<=f.bn.length/\0<=x.bL/\x.bL<12/\x.args.length<=3)/\(x.op=10->0<=x.bL/\x.bL<4/\x.args.length<=3)/\(x.op=0->-999<=x.bL/\x.bL<=999):=by
 obtain⟨z,_,r,y,_,u⟩:=g.I
 have a:=u.op
 have t:=g.F.lh
 rw[r]at t
 have d:=g.ok.fK.pC
 have v:(eC b.aT).length<=12:=by
  have:=qW d.types b.aT.length;rw[mM _ _ (ad _)]at this;exact this
 have w:=Gi d.types x.bL
 unfold lA at a
 by_cases h:x.op=0
 ·rw[aq h]at a;omega
 rw[ae h]at a
 by_cases i:x.op=1\/x.op=2\/x.op=3\/x.op=4\/x.op=11
 ·rw[aq i]at a;omega
 rw[ae i]at a
 by_cases j:x.op=5\/x.op=14\/x.op=15\/x.op=18\/x.op=23
 ·rw[aq j]at a;omega
 rw[ae j]at a
 by_cases k:x.op=6
 ·rw[aq k]at a;omega
 rw[ae k]at a
 by_cases l:x.op=9\/x.op=24
 ·rw[aq l]at a
  obtain⟨q,n,e,o⟩:=a
  have:=(d.df q (au e)).1;omega
 rw[ae l]at a
 by_cases m:x.op=10
 ·rw[aq m]at a
  obtain⟨⟨q,n,e,o⟩,_⟩:=a
  have:=(d.df q (au e)).1
  have:=ax e
  have:=d.len;omega
 rw[ae m]at a
 by_cases n:x.op=16\/x.op=17
 ·rw[aq n]at a;omega
 rw[ae n]at a
 by_cases o:x.op=19
 ·rw[aq o]at a;omega
 rw[ae o]at a
 by_cases p:x.op=20
 ·rw[aq p]at a;omega
 rw[ae p]at a
 by_cases q:x.op=22
 ·rw[aq q]at a;omega
 rw[ae q]at a
 by_cases e:x.op=21
 ·rw[aq e]at a
  have:=a.1;omega
 rw[ae e]at a;exact a.elim
def Bd.Oq(d:Bd b s c f x):∀w∈f.bn,w≠0->1000<=w/\∃e,s.heap[ix w]? =some e/\e.aQ<0:=λw h k=>by
 have g:1000<=w:=by have:=d.F.bn w h;omega
 refine⟨g,?_⟩;have j:0<holds s.ak (ix w):=by
  rw[d.fr,dI,gT];have:=tJ c (ix w);have:=sJ (l:=f.bn) (f:=ix w) (by rw[gP g];exact h);omega
 exact eA λi=>by have:=d.ok.lL (ix w) i;omega
def Bd.Ur(d:Bd b s c f x):∀o∈f.aW,0<=o/\o<=999999:=λo i=>by
 have r:=d.F.Nj o i;refine⟨r,?_⟩;rcases fX (0<o)with j|j
 ·obtain⟨n,e⟩:=List.mem_iff_getElem?.1 i;have:=d.Ka;obtain⟨w,m⟩:=ag (l:=f.av) (k:=n) (by have:=ax e;omega);have p:=(d.F.aW n o w e m).2 j;have t:=I7 d.F.Nj m e (c:=ix w) (by rw[gP p]);have u:o<=dD s.ak (ix w):=by
   rw[d.fr,eU,jF];have:=Dq (b:=c) (λg h=>d.ok.ak g (by rw[d.fr];exact bB _ h)) (ix w);omega
  obtain⟨g,h,q⟩:=d.ok.heap.lv (ix w) V;have v:=d.ok.heap.ex _ g h q;have y:=nV s.heap (ix w);have z:=(d.ok.heap.cell g (au h)).hi;omega
 ·omega
def Bd.Px(a:Bd b s c f x):∀r∈dp b x,0<=r/\r<f.av.length:=λr d=>a.arg r (Ld d)
end
def JD{o:I}{mb:Nat}{ai ax bo d fr:O}{Q:cD}{M:St}(T:RV o mb 2 ai ax bo d fr Q M){fs:List aZ}{m:aZ}{x:Instr}(C:Bd Q M fs m x){ab ae h W am ow:O}(U:ar o ab m.av)(Y:ar o h m.bn)(P:ar o W x.args){aW:List Int}(aa:ar o ow aW)(aB:aW.length=m.aW.length):
 dm bY 128 [vp mb 0,fv m ab ae h,xv x W am,O.v ow] o (sX Q M m x aW):=by
 apply se (mb,0)
 simp -zeta only[aE,aD]
 intro m1 S
 have b:J o S:=((J.aC o).aM _).aM _
 have i:∀g∈[m1.size,o.size],g<S.size:=by simp[S,m1];omega
 have aj:cB S m1.size dz [.i x.op,.i x.dst,.i x.bL,.i x.bV,.s W,.s am]:=cB.push m1 _ _
 have aq:cB S o.size eg [.i m.eS,.i m.pc,.i m.dst,.s ab,.s ae,.s h]:=(cB.push o _ _).ext (J.push m1 _)
 have ay:=P.len
 have aF:=U.len
 have az:=Y.len
 have aC:=aa.len
 have hd:=C.dst
 have aA:=C.Ka
 have H:=C.OT
 have hI:=C.ok.heap
 clear_value S
 refine⟨λR=>J S R/\(∀ae∈aW,0<=ae)/\(kE x.op->u aW x.dst<=0),?_,?_⟩
 ·refine(yC (aa.ext b)).aG (J.aC _) i λg m3 c n _=>⟨g,rfl,λv=>bX (λl=>nb c v l.nn) (b.trans n),λA=>?_⟩
  refine(vn _ _).aG n i λN B z y a=>⟨N,rfl,λv=>?_,λw=>⟨a,yb c A,λe=>absurd e (fb z w)⟩⟩
  refine⟨hd.1,V,u aW x.dst,(aa.ext (b.trans a)).EG hd.1 V,λk=>bX (λl=>?_) (b.trans a),λk=>⟨a,yb c A,λ_=>by simpa using k⟩⟩
  have:=l.dst (z.1 v);simp at k;omega
 ·rintro m3 ⟨n,q,p⟩
  have f:=b.trans n
  have t:=T.ext f
  have mk:∀{af:Prop},(sX Q M m x aW->af)->(af->sX Q M m x aW)->(sX Q M m x aW<->af):=λL h2=>⟨L,h2⟩
  have E:1<=x.args.length->0<=u x.args 0/\u x.args 0<m.av.length:=λL=>C.arg _ (iv V V)
  have F:∀{R},J o R->1<=x.args.length->D R W.F (W.off+Int.toNat (0:Int)*1)=some (vi (u x.args 0)):=λhx L=>(P.ext hx).EG V V
  have G:∀{R},J o R->1<=x.args.length->D R ab.F (ab.off+Int.toNat (u x.args 0)*1)=some (vi (u m.av (u x.args 0))):=λhx L=>(U.ext hx).EG (E L).1 (E L).2
  refine⟨λe=>?_,λe1=>?_⟩
  ·simp only[cv,aL]at e
   refine(BE (U.ext f) (P.ext f) C.arg).aG n i λg B c y a=>⟨g,rfl,fA (c.trans ?_) (b.trans a)⟩
   refine⟨λd=>?_,λh=>h.ov V⟩
   refine⟨q,p,?_,?_,?_,?_,?_,?_,?_,?_,?_,?_,?_⟩<;>intro r<;>first|(exfalso;omega)|exact d
  simp only[bQ,an]at e1
  refine⟨λe=>?_,λe2=>?_⟩
  ·simp only[aL]at e
   have j:=H.2.2.2.2.1 e
   refine(FA t (Y.ext f) (P.ext f) ⟨j.1,j.2.1⟩ V (λac Z X=>by obtain⟨L,s,K,_⟩:=C.Oq ac Z X;exact⟨L,s,K⟩)).aG n i λg B c y a=>⟨g,rfl,fA (c.trans ?_) (b.trans a)⟩
   refine⟨λd=>?_,λh=>h.lg e⟩
   refine⟨q,p,?_,?_,?_,?_,?_,?_,?_,?_,?_,?_,?_⟩<;>intro r<;>first|(exfalso;omega)|exact d
  simp only[an]at e2
  refine⟨λe=>?_,λe3=>?_⟩
  ·simp only[aL]at e
   refine(ui t (U.ext f) (P.ext f) C.F C.Oe C.arg C.call (Or.inl e)).aG n i λg B c y a=>⟨g,rfl,fA (c.trans ?_) (b.trans a)⟩
   refine⟨λd=>?_,λh=>h.cW (Or.inl e)⟩
   refine⟨q,p,?_,?_,?_,?_,?_,?_,?_,?_,?_,?_,?_⟩<;>intro r<;>first|(exfalso;omega)|exact d
  simp only[an]at e3
  refine⟨λe=>?_,λe4=>?_⟩
  ·simp only[aL]at e
   refine(ui t (U.ext f) (P.ext f) C.F C.Oe C.arg C.call (Or.inr e)).aG n i λg B c y a=>⟨g,rfl,λv=>?_,λA=>bX (λl=>fb c A (l.cW (Or.inr e))) (b.trans a)⟩
   refine(kJ (aa.ext (b.trans a))).aG a i λN m5 z k s=>⟨N,rfl,λah=>?_,λw=>bX (λl=>fb z w (l.zero (Or.inl e)).1) (b.trans s)⟩
   refine(kJ (Y.ext (b.trans s))).aG s i λb3 m6 K X j=>⟨b3,rfl,fA (K.trans ?_) (b.trans j)⟩
   refine⟨λd=>?_,λh=>(h.zero (Or.inl e)).2⟩
   refine⟨q,p,?_,?_,?_,?_,?_,?_,?_,?_,?_,?_,?_⟩<;>intro r<;>first|(exfalso;omega)|exact c.1 v|exact⟨z.1 ah,d⟩
  simp only[an]at e4
  refine⟨λe=>?_,λe5=>?_⟩
  ·simp only[aL]at e
   have Z:=H.2.1 V
   refine(kJ (aa.ext f)).aG n i λN m5 z k s=>⟨N,rfl,λah=>?_,λw=>bX (λl=>fb z w (l.zero (Or.inr e)).1) (b.trans s)⟩
   refine(kJ (Y.ext (b.trans s))).aG s i λb3 m6 K X j=>⟨b3,rfl,λav=>?_,λau=>bX (λl=>fb K au (l.zero (Or.inr e)).2) (b.trans j)⟩
   have ad:=b.trans j
   have ak:=T.ext ad
   have ac:=ak.ak.len
   have il:∀d:1<M.ak.length\/u m.av (u x.args 0)<1000,sX Q M m x aW:=λd=>by
    refine⟨q,p,?_,?_,?_,?_,?_,?_,?_,?_,?_,?_,?_⟩<;>intro r<;>first|(exfalso;omega)|exact⟨z.1 ah,K.1 av⟩|exact d
   refine⟨fr,ak.Pd,λh8=>iN (il (Or.inl (by simp at h8;omega))) ad,λh8=>?_⟩
   refine⟨V,V,_,F ad V,(E V).1,by have:=(E V).2;omega,_,G ad V,(dw _ _).aG j i λb4 m7 al h9 ag=>⟨b4,rfl,fA ?_ (b.trans ag)⟩⟩
   simp at h8
   constructor
   ·intro ap
    exact il (Or.inr (by have:=nb al ap;omega))
   ·intro l
    rcases l.ret e with ap|ap
    ·omega
    ·have:¬b4=true:=λaw=>by have:=al.1 aw;omega
     simpa using this
  simp only[an]at e5
  refine⟨λe=>?_,λe6=>?_⟩
  ·simp only[aL]at e
   have Z:=H.2.2.1 V
   have j:=E V
   refine⟨V,V,_,F f V,j.1,V,_,G f V,(Fy t C.ok.fK hI (C.F.tT j.1 j.2 C.Oe)).aG n i λg B c y a=>⟨g,rfl,fA (c.trans ?_) (b.trans a)⟩⟩
   refine⟨λd=>?_,λh=>h.apply e⟩
   refine⟨q,p,?_,?_,?_,?_,?_,?_,?_,?_,?_,?_,?_⟩<;>intro r<;>first|(exfalso;omega)|exact d
  simp only[an]at e6
  refine⟨λe=>?_,λe7=>?_⟩
  ·simp only[aL]at e
   have Z:=H.2.1 V
   have j:=E V
   refine⟨V,V,_,F f V,j.1,V,_,G f V,d,t.C3,(gS t.heap (C.F.tT j.1 j.2 C.Oe)).aG n i λg B c y a=>⟨g,rfl,λv=>?_,λA=>bX (λl=>fb c A (l.Wv e).1) (b.trans a)⟩⟩
   have w:=c.1 v
   refine(eR (T.ext (b.trans a)) w.1 (cp w).1).aG a i ?_
   rintro _ m5 ⟨fl,rfl,ac,k⟩
   refine⟨k,_,_,_,rfl,fA ?_ (b.trans (a.trans k))⟩
   simp only[ao]
   refine⟨λd=>?_,λh=>(h.Wv e).2⟩
   refine⟨q,p,?_,?_,?_,?_,?_,?_,?_,?_,?_,?_,?_⟩<;>intro r<;>first|(exfalso;omega)|exact⟨w,d⟩
  simp only[an]at e7
  refine⟨λe=>?_,λe8=>?_⟩
  ·simp only[aL]at e
   have Z:=H.2.1 V
   have j:=E V
   refine⟨V,V,_,F f V,j.1,V,_,G f V,(dw _ _).aG n i λg B c y a=>⟨g,rfl,fA (c.trans ?_) (b.trans a)⟩⟩
   refine⟨λd=>?_,λh=>h.drop e⟩
   refine⟨q,p,?_,?_,?_,?_,?_,?_,?_,?_,?_,?_,?_⟩<;>intro r<;>first|(exfalso;omega)|exact d
  simp only[an]at e8
  refine⟨λe=>?_,λe9=>?_⟩
  ·simp only[cv,aL]at e
   refine(Hy t hI (U.ext f) (Y.ext f) (P.ext f) C.F C.Oe C.arg ⟨H.2.2.2.1 e,H.1⟩ e).aG n i λg B c y a=>⟨g,rfl,fA (c.trans ?_) (b.trans a)⟩
   refine⟨λd=>?_,λh=>h.Q0 e⟩
   refine⟨q,p,?_,?_,?_,?_,?_,?_,?_,?_,?_,?_,?_⟩<;>intro r<;>first|(exfalso;omega)|exact d
  simp only[bQ,an]at e9
  refine⟨λe=>?_,λad=>?_⟩
  ·simp only[aL]at e
   have Z:=H.2.1 V
   have j:=E V
   refine⟨d,t.C3,V,V,_,F f V,j.1,V,_,G f V,(gS t.heap (C.F.tT j.1 j.2 C.Oe)).aG n i λg B c y a=>⟨g,rfl,λv=>?_,λA=>bX (λl=>fb c A (l.load e).1) (b.trans a)⟩⟩
   have w:=c.1 v
   have K:=b.trans a
   refine⟨V,V,_,F K V,j.1,V,_,G K V,(eR (T.ext K) w.1 (cp w).1).aG a i ?_⟩
   rintro _ m5 ⟨fl,rfl,ac,k⟩
   have ah:=ac.len
   refine⟨k,_,_,_,rfl,k.dg ((aj.ext a).cy 2),fA ?_ (b.trans (a.trans k))⟩
   simp only[ao]
   refine⟨λd=>?_,λh=>by have:=(h.load e).2;omega⟩
   refine⟨q,p,?_,?_,?_,?_,?_,?_,?_,?_,?_,?_,?_⟩<;>intro r<;>first|(exfalso;omega)|exact⟨w,V⟩
  simp only[an]at ad
  refine⟨λe=>?_,λah=>?_⟩
  ·simp only[aL]at e
   have Z:=H.2.1 V
   have j:=E V
   refine⟨d,t.C3,V,V,_,F f V,j.1,V,_,G f V,(gS t.heap (C.F.tT j.1 j.2 C.Oe)).aG n i λg B c y a=>⟨g,rfl,λv=>?_,λA=>bX (λl=>fb c A (l.Mm e).1) (b.trans a)⟩⟩
   have w:=c.1 v
   have K:=b.trans a
   have l:=T.ext K
   refine⟨ai,l.aT,V,V,_,F K V,j.1,V,_,G K V,(xT l.fK.aT C.ok.fK.pC.types _).aG a i ?_⟩
   rintro _ m5 ⟨cs,rfl,ak,k⟩
   have s:=a.trans k
   refine⟨k,cs,rfl,k.dg (G K V),k.dg (F K V),k.dg ((aj.ext a).cy 4),k.dg ((aq.ext a).cy 3),(eR (T.ext (b.trans s)) w.1 (cp w).1).aG s i ?_⟩
   rintro _ m6 ⟨fl,rfl,ac,X⟩
   refine⟨X,_,_,_,rfl,(cU (ak.ext X) _).aG (s.trans X) i λN m7 z h8 ag=>⟨N,rfl,fA (z.trans ?_) (b.trans ag)⟩⟩
   refine⟨λd=>?_,λh=>(h.Mm e).2⟩
   refine⟨q,p,?_,?_,?_,?_,?_,?_,?_,?_,?_,?_,?_⟩<;>intro r<;>first|(exfalso;omega)|exact⟨w,d⟩
  ·simp only[an]at ah
   refine iN ?_ f
   refine⟨q,p,?_,?_,?_,?_,?_,?_,?_,?_,?_,?_,?_⟩<;>intro r<;>exfalso<;>omega
end
section
variable{p:Nat->Prop}{o n:Nat}{i:Int}{f:O}
structure dy(p:Nat->Prop)(ro:Nat->Nat)(m:I)(ro':Nat->Nat)(m':I):Prop where
 size:m.size<=m'.size
 iW:∀b,b<m.size->ro' b=ro b
 new:∀b,m'.size<=b->ro' b=0
 fu:∀b,b<m.size->¬p (ro b)->m'[b]? =m[b]?
def dy.aC(p:Nat->Prop){a:Nat->Nat}{m:I}(h:∀b,m.size<=b->a b=0):dy p a m a m:=⟨ad _,λ_ _=>rfl,h,λ_ _ _=>rfl⟩
def dy.trans{g i j:Nat->Nat}{d e f:I}(h:dy p g d i e)(k:dy p i e j f):dy p g d j f:=
 ⟨bJ h.size k.size,λb a=>by rw[k.iW b (aJ a h.size),h.iW b a],k.new,λb a c=>by
  rw[k.fu b (aJ a h.size) (by rw[h.iW b a];exact c),h.fu b a c]⟩
def dy.mono{q:Nat->Prop}{b c:Nat->Nat}{m a:I}(h:dy p b m c a)(g:∀k,p k->q k):dy q b m c a:=⟨h.size,h.iW,h.new,λd e i=>h.fu d e λf=>i (g _ f)⟩
def dy.fe(p:Nat->Prop){c:Nat->Nat}{m d:I}(h:J m d)(e:∀b,m.size<=b->c b=0):dy p c m c d:=⟨h.size,λ_ _=>rfl,λb a=>e b (bJ h.size a),λb a _=>h.same b a⟩
def dy.aj{a:Nat->Nat}{m:I}(g:∀b,m.size<=b->a b=0){b:Nat}(f:p (a b))(o:Nat)(l:List Ce):dy p a m a (aj m b o l):=
 ⟨rP (az _ _ _ _).symm,λ_ _=>rfl,λc d=>g c (by rw[az]at d;exact d),λc _ h=>bh _ _ _ _ λe=>h (e▸f)⟩
abbrev HC:=dy (λk=>k=3\/k=5\/k=6)
abbrev To:=dy (λk=>k≠0/\k≠9)
def dy.cG{g i:Nat->Nat}{c m f:I}(h:To g m i f)(e:J c m)(d:∀b,b<c.size->g b=0):J c f/\∀b,b<c.size->i b=0:=by
 have j:=e.size;exact⟨⟨bJ j h.size,λb a=>by rw[h.fu b V (by simp[d b a]),e.same b a]⟩,λb a=>by rw[h.iW b V,d b a]⟩
def dy.da{e f:Nat->Nat}{m d:I}(h:To e m f d){l:List Nat}(c:∀b∈l,b<m.size/\e b=0):dV l m d:=λb a=>h.fu b (c b a).1 (by simp[(c b a).2])
structure gX(ro:Nat->Nat)(m:I)(e sz k:Nat)(s:O)(l:List Ce):Prop where
 len:l.length=s.len*sz
 le:s.len<=s.cap
 u:s.cap=0\/∃b c tail,s=.mk b 0 s.len c/\ro b=k/\cB m b e (l++tail)/\(l++tail).length=c*sz
section
variable{c g:Nat->Nat}{b d:I}{e a k:Nat}{s:O}{l:List Ce}
def gX.CU(h:gX c b e a k s l)(f:s.cap=0):l=[]/\s.len=0:=by
 have:=h.le;have d:s.len=0:=V;exact⟨List.length_eq_zero_iff.1 (by rw[h.len,d];simp),d⟩
def gX.je(h:gX c b e a k s l):fQ b s.F s.off l:=by
 rcases h.u with f|⟨j,d,tail,h1,h2,h3,h4⟩
 ·rw[(h.CU f).1];intro i d g;simp at g
 ·rw[h1];exact h3.je.My
def gX.wr(h:gX c b e a k s l)(d:o+n<=l.length):fm b s.F (s.off+o) n:=by
 rcases h.u with f|⟨g,i,tail,h1,h2,h3,h4⟩
 ·rw[(h.CU f).1]at d;intro m j;simp at d;omega
 ·rw[h1];simp only[O.iT,O.lY,bN];exact h3.fm bK
def gX.fu(h:gX c b e a k s l)(p:s.cap≠0->d[s.F]? =b[s.F]?)(q:s.cap≠0->g s.F=c s.F):gX g d e a k s l:=by
 refine⟨h.len,h.le,?_⟩;rcases h.u with o|⟨m,n,tail,h1,h2,h3,h4⟩
 ·exact Or.inl o
 ·by_cases f:s.cap=0
  ·exact Or.inl f
  ·have i:=p f;have j:=q f;rw[h1]at i j;exact Or.inr ⟨m,n,tail,h1,j.trans h2,h3.congr i,h4⟩
def gX.F(h:gX c b e a k s l)(f:s.cap≠0):s.F<b.size/\c s.F=k:=by
 rcases h.u with d|⟨g,i,tail,h1,h2,h3,h4⟩
 ·exact absurd d f
 ·rw[h1];exact⟨h3.lt,h2⟩
def gX.eY(h:gX c b e a k s l)(i:dy p c b g d)(j:¬p k):gX g d e a k s l:=
 h.fu (λf=>i.fu _ (h.F f).1 (by rw[(h.F f).2];exact j)) (λf=>i.iW _ (h.F f).1)
def gX.set(h:gX c b e a k s l){new:List Ce}(w:o+new.length<=l.length):gX c (aj b s.F (s.off+o) new) e a k s (iE l o new):=by
 refine⟨by rw[nm];exact h.len,h.le,?_⟩;rcases h.u with u|⟨j,n,tail,h1,h2,h3,h4⟩
 ·exact Or.inl u
 ·refine Or.inr ⟨j,n,tail,h1,h2,?_,by simp only[a9,nm]at h4⊢;exact h4⟩;have p:s.F=j:=by rw[h1];rfl
  have q:s.off=0:=by rw[h1];rfl
  rw[p,q,bN];have:=cB.aj (m:=b) (o:=o) (r:=new) h3;have t:iE (l++tail) o new=iE l o new++tail:=by
   have f:(iE l o new).length=l.length:=nm _ _ _;apply fI;intro i;rcases aV i l.length with d|d
   ·have g:(iE l o new++tail)[i]? =(iE l o new)[i]? :=aw (by rw[f];exact d);rw[g,tW,tW];simp only[a9];by_cases v:o<=i/\i<o+new.length
    ·rw[aq V,aq V]
    ·rw[ae V,ae V,aw d]
   ·have g:(iE l o new++tail)[i]? =tail[i -l.length]? :=by rw[aF (by rw[f];exact d),f]
    rw[g,tW,ae V,aF d]
  rw[t]at this;exact this
def gX.cut(h:gX c b e a k s l){n:Nat}(m:n<=s.len):gX c b e a k (s.cut 0 n a) (l.take (n*a)):=by
 have j:=h.le;have q:=h.len;rcases h.u with i|⟨f,g,tail,h1,h2,h3,h4⟩
 ·have d:n=0:=V;cases s with
  |nil=>exact⟨by simp[d,O.cut],by simp[O.cut],Or.inl rfl⟩
  |Bj f o p=>exact⟨by simp[d,O.cut],by simp[O.cut],Or.inl rfl⟩
  |mk f o r p=>simp at i;subst i;exact⟨by simp[d,O.cut],by simp[d,O.cut],Or.inl (by simp[O.cut])⟩
 ·rw[h1];have d:s.len<=g:=by rw[h1]at j;exact j
  refine⟨?_,by simp[O.cut];omega,Or.inr ⟨f,g,l.drop (n*a)++tail,?_,h2,?_,?_⟩⟩
  ·simp only[O.cut,O.fj,fY,UD];have:n*a<=s.len*a:=cZ _ m;omega
  ·simp[O.cut]
  ·rw[<-eH,de];exact h3
  ·rw[<-eH,de];exact h4
end
def gX.append{g:Nat->Nat}{f:I}{j l:Nat}{zs:List Ce}{u:Nat}{s x:O}{n c:List Ce}{K:O->I->Prop}(h:gX g f j zs.length l s n)(t:∀a,f.size<=a->g a=0)
 (k:c.length=x.len*zs.length)(B:fQ f x.F x.off c)(i:(s.len+x.len)*u<=140737488355328)
 (q:∀v p d,gX v d j zs.length l p (n++c)->dy (λy=>y=l) g f v d->K p d):iS f j zs u s x K:=by
 have G:=h.le
 refine⟨c,k,B,λD=>?_,λF=>⟨i,n,h.len,h.je,λd v=>?_⟩⟩
 ·rcases h.u with C|⟨a,d,tail,h1,h2,h3,h4⟩
  ·have w:x.len=0:=V
   have A:c=[]:=List.length_eq_zero_iff.1 (by rw[k,w];simp)
   subst A
   refine⟨λy z=>by simp at z,?_⟩
   have p:=q g s _ (by rw[fx];exact h) (dy.aC _ t)
   cases s with
   |nil=>exact p
   |Bj a o H=>exact p
   |mk a o H d=>simp only[w,iJ];exact p
  ·have w:=h.len
   have A:s.cap=d:=by rw[h1];rfl
   rw[h1]
   simp only[O.iT,O.lY,O.fj,bN]
   simp only[a9]at h4
   have z:c.length<=tail.length:=by
    have y:(s.len+x.len)*zs.length<=d*zs.length:=cZ _ V;rw[fC]at y;omega
   refine⟨h3.fm (by simp only[a9];omega),?_⟩
   have p:=cB.aj (m:=f) (b:=a) (e:=j) (r:=c) (o:=s.len*zs.length) h3
   rw[<-w,zr n c tail z]at p
   refine q g _ _ ⟨?_,?_,Or.inr ⟨a,d,tail.drop c.length,rfl,h2,?_,?_⟩⟩ (dy.aj t h2 _ _)
   ·simp only[a9,O.fj,fC];omega
   ·simp only[O.fj,O.LD];omega
   ·rw[<-w];exact p
   ·simp only[a9,Y0];omega
 ·refine q (λa=>if a=f.size then l else g a) _ _ ⟨?_,?_,Or.inr ⟨f.size,d,lU zs (d -(s.len+x.len)),rfl,E,cB.push _ _ _,?_⟩⟩ ⟨E,λa i=>ae V,λa i=>?_,λa i _=>by rw[vQ,ae V]⟩
  ·simp only[a9,O.fj,fC,h.len,k]
  ·simpa using v
  ·simp only[a9,pK,h.len,k]
   rw[Nat.sub_mul,<-fC]
   have:(s.len+x.len)*zs.length<=d*zs.length:=cZ _ v
   omega
  ·simp at i;rw[ae V];exact t a V
def gX.ij{d:Nat->Nat}{i m:I}{e f k:Nat}{s:O}{l:List Ce}(h:iO i m e f s l)(g:s≠.nil->d s.F=k):gX d m e f k s l:=by
 refine⟨h.len,?_,?_⟩
 ·rcases h.u with a|⟨b,c,tail,a,h2,h3,h4,h5⟩
  ·rw[a];exact ad _
  ·rw[a];exact h5
 ·rcases h.u with a|⟨b,c,tail,a,h2,h3,h4,h5⟩
  ·rw[a];exact Or.inl rfl
  ·refine Or.inr ⟨b,c,tail,a,?_,h3,h4⟩;have:=g (by rw[a];simp);rw[a]at this;exact this
def gX.ov{e:Nat->Nat}{m:I}{k:Nat}{s:O}{l:List Int}(h:gX e m aB 1 k s (l.map Ce.i))(g:l.length<=9223372036854775807):ar m s l:=by
 have d:s.len=l.length:=by have:=h.len;simp at this;omega
 refine⟨d,h.le,V,λj x c=>⟨[.i x],rfl,λi f a=>?_⟩⟩;have b:i=0:=by have:=ax a;simp at this;omega
 subst b;simp at a;subst a;have:=h.je j (.i x) (by simp[c]);simpa using this
def xI(l:List Int)(i:Nat)(v:Int):iE (l.map Ce.i) i [.i v]=(l.set i v).map Ce.i:=by simp[iE,wR]
def gX.gU{a:Nat->Nat}{m:I}{k:Nat}{s:O}{l:List Int}(h:gX a m aB 1 k s (l.map Ce.i))(b:0<=i)(c:i<l.length)(v:Int):gX a (aj m s.F (s.off+i.toNat*1) [.i v]) aB 1 k s ((Go.Proofs.YtgnjacfobdjeeaaGreat.gU l i v).map Ce.i):=by
 have:=h.set (o:=i.toNat) (new:=[.i v]) bK;rw[xI]at this;rw[dG];exact this
def gX.P9{a:Nat->Nat}{m:I}{k:Nat}{s:O}{l:List Int}(h:gX a m aB 1 k s (l.map Ce.i))(b:0<=i)(c:i<l.length):fm m s.F (s.off+i.toNat*1) 1:=by
 rw[dG];exact h.wr bK
def FB(m:I)(f:O)(l:List Int):Prop:=∃c tail,f=.mk f.F 0 f.len c/\cB m f.F aB (l.map Ce.i++tail)
def FN(N:Nat)(a:Nat->Nat)(m:I)(f:O)(l:List Int):Prop:=l≠[]->a f.F=0/\N<=f.F/\FB m f l
def Gf(N:Nat)(b:Nat->Nat)(m:I)(a:List Ce)(c:bM):Prop:=∃f,a=[.i c.aQ,.i c.lp,.s f]/\ar m f c.aK/\FN N b m f c.aK
def UF(e:List (List Ce)):Prop:=∀(i j:Nat)(c d:List Ce)(a b:O),e[i]? =some c->e[j]? =some d->c[2]? =some (.s a)->d[2]? =some (.s b)->i≠j->a.len≠0->b.len≠0->a.F≠b.F
def UF.nil:UF []:=λi j c d a b h=>by simp at h
def ez(N:Nat)(b:Nat->Nat)(m:I)(c:O)(h:List bM):Prop:=∃a,gX b m qL 3 3 c a.flatten/\fU 3 (Gf N b m) a h/\UF a
def Rq(a:Nat->Nat)(m:I)(i:Nat)(b:List Ce)(f:aZ):Prop:=
 ∃r o h,b=[.i f.eS,.i f.pc,.i f.dst,.s r,.s o,.s h]/\gX a m aB 1 (10+3*i) r (f.av.map Ce.i)/\gX a m aB 1 (11+3*i) o (f.aW.map Ce.i)/\gX a m aB 1 (12+3*i) h (f.bn.map Ce.i)
structure WN(ro:Nat->Nat)(m:I)(fr:O)(fs:List aZ)(css:List (List Ce)):Prop where
 qQ:gX ro m eg 6 4 fr css.flatten
 len:css.length=fs.length
 size:∀cs∈css,cs.length=6
 df:∀(i:Nat)(cs:List Ce)(f:aZ),css[i]? =some cs->fs[i]? =some f->Rq ro m i cs f
def nC(d:Nat->Nat)(m:I)(b:O)(c:List aZ):Prop:=∃a,WN d m b c a
def mJ{m b:I}{l:List Int}(h:ar m f l)(j:l≠[]->b[f.F]? =m[f.F]?):ar b f l:=by
 by_cases a:l=[]
 ·subst a;exact⟨h.len,h.cap,h.fL,E⟩
 ·exact⟨h.len,h.cap,h.fL,λo x n=>let⟨d,e,g⟩:=h.je o x n;⟨d,e,λi c k=>by rw[aI (j a)];exact g i c k⟩⟩
def nD{m:I}{l:List Int}(h:ar m f l)(a:l≠[]):f.F<m.size:=by
 cases l with
 |nil=>exact absurd rfl a
 |cons b l=>exact lC (h.u (k:=0) (x:=b) rfl)
def Gf.eY{N:Nat}{l n:Nat->Nat}{m k:I}(c:dy p l m n k)(i:¬p 0)(e:List Ce)(d:bM):Gf N l m e d->Gf N n k e d:=λ⟨f,s,b,j⟩=>
 ⟨f,s,mJ b λa=>c.fu _ (nD b a) (by rw[(j a).1];exact i),λa=>by
  obtain⟨g,q,o,tail,r,h⟩:=j a;exact⟨by rw[c.iW _ (nD b a)];exact g,q,o,tail,r,h.congr (c.fu _ h.lt (by rw[g];exact i))⟩⟩
def ez.eY{N:Nat}{p:Nat->Prop}{d e:Nat->Nat}{m c:I}{b:O}{h:List bM}(n:ez N d m b h)(a:dy p d m e c)(g:¬p 0)(k:¬p 3):ez N e c b h:=by
 obtain⟨f,i,j,l⟩:=n;exact⟨f,i.eY a k,j.mono (Gf.eY a g),l⟩
def Rq.eY{p:Nat->Prop}{e g:Nat->Nat}{m d:I}(a:dy p e m g d){i:Nat}(b:∀k,10+3*i<=k->k<=12+3*i->¬p k){c:List Ce}{f:aZ}:Rq e m i c f->Rq g d i c f:=λ⟨r,o,h,j,k,l,n⟩=>
 ⟨r,o,h,j,k.eY a (b _ V V),l.eY a (b _ V V),n.eY a (b _ V V)⟩
def nC.eY{p:Nat->Prop}{g j:Nat->Nat}{m e:I}{a:O}{b:List aZ}(r:nC g m a b)(c:dy p g m j e)(d:∀k,(k=4\/10<=k)->¬p k):nC j e a b:=by
 obtain⟨n,h⟩:=r;exact⟨n,h.qQ.eY c (d 4 V),h.len,h.size,λi l f o q=>(h.df i l f o q).eY c λk s _=>d k V⟩
structure zy(m0:I)(ro:Nat->Nat)(m:I)(mb e:Nat)(bx:List Ce)(bo hp fr:O)(lo:List Int)(lh:List bM)(lf:List aZ):Prop where
 cG:J m0 m
 jV:∀b,b<m0.size->ro b=0
 new:∀b,m.size<=b->ro b=0
 box:cB m mb e bx
 Pr:ro mb=1
 bo:gX ro m aB 1 2 bo (lo.map Ce.i)
 heap:ez m0.size ro m hp lh
 ak:nC ro m fr lf
section
variable{j:I}{b g:Nat->Nat}{a c:I}{d e:Nat}{h:List Ce}{bo l k:O}{r:List Int}{q:List bM}{o:List aZ}
def zy.ext(L:zy j b a d e h bo l k r q o)(g:J a c):zy j b c d e h bo l k r q o/\To b a b c:=by
 have f:∀p,dy p b a b c:=λp=>dy.fe p g L.new;exact⟨⟨L.cG.trans g,L.jV,(f (λ_=>False)).new,L.box.ext g,L.Pr,L.bo.eY (f (λ_=>False)) id,L.heap.eY (f (λ_=>False)) id id,L.ak.eY (f (λ_=>False)) λ_ _=>id⟩,f _⟩
def zy.nX(L:zy j b a d e h bo l k r q o)(i:Nat)(c:List Ce):zy j b (aj a d i c) d e (iE h i c) bo l k r q o/\To b a b (aj a d i c):=by
 have f:dy (λg=>g=1) b a b (aj a d i c):=dy.aj L.new L.Pr _ _;have n:To b a b (aj a d i c):=f.mono λg t=>V;obtain⟨p,s⟩:=n.cG L.cG L.jV;exact⟨⟨p,s,f.new,cB.aj (m:=a) L.box,L.Pr,L.bo.eY f bd,L.heap.eY f bd bd,L.ak.eY f λg t=>V⟩,n⟩
def zy.vO(L:zy j b a d e h bo l k r q o){i:Nat}(c:i+n<=h.length):fm a d i n:=L.box.fm c
def zy.jh(L:zy j b a d e h bo l k r q o)(f:dy (λi=>i=3\/i=5\/i=6) b a g c){m:O}{p:List bM}(u:ez j.size g c m p):zy j g c d e h bo m k r p o/\To b a g c:=by
 have n:To b a g c:=f.mono λi v=>V;obtain⟨s,t⟩:=n.cG L.cG L.jV;exact⟨⟨s,t,f.new,L.box.congr (f.fu _ L.box.lt (by rw[L.Pr];decide)),by rw[f.iW _ L.box.lt];exact L.Pr,L.bo.eY f bd,u,L.ak.eY f λi v=>V⟩,n⟩
def zy.Jm(L:zy j b a d e h bo l k r q o)(f:dy (λi=>i=2) b a g c){p:O}{n:List Int}(u:gX g c aB 1 2 p (n.map Ce.i)):zy j g c d e h p l k n q o/\To b a g c:=by
 have m:To b a g c:=f.mono λi v=>V;obtain⟨s,t⟩:=m.cG L.cG L.jV;exact⟨⟨s,t,f.new,L.box.congr (f.fu _ L.box.lt (by rw[L.Pr];decide)),by rw[f.iW _ L.box.lt];exact L.Pr,u,L.heap.eY f bd bd,L.ak.eY f λi v=>V⟩,m⟩
def zy.kQ(L:zy j b a d e h bo l k r q o)(f:dy (λi=>4<=i/\i≠9) b a g c){m:O}{p:List aZ}(u:nC g c m p):zy j g c d e h bo l m r q p/\To b a g c:=by
 have n:To b a g c:=f.mono λi v=>V;obtain⟨s,t⟩:=n.cG L.cG L.jV;exact⟨⟨s,t,f.new,L.box.congr (f.fu _ L.box.lt (by rw[L.Pr];decide)),by rw[f.iW _ L.box.lt];exact L.Pr,L.bo.eY f bd,L.heap.eY f bd bd,u⟩,n⟩
end
end
section
variable{α:Type}{k:Nat}
def up{α:Type}(f:Nat->α)(k:Nat)(x:α):Nat->α:=λj=>if j=k then x else f j
@[simp] theorem En (f:Nat->α) (k:Nat) (x:α):up f k x k=x:=aq rfl
def NG(f:Nat->α)(k:Nat)(x:α){j:Nat}(h:j≠k):up f k x j=f j:=ae h
def Nv(a:Nat->O):List Ce:=[.s (a 0),.s (a 1),.s (a 2),.s (a 3),.s (a 4),.s (a 5),.s (a 6)]
def PZ(a:Nat->O)(b:k<7):(Nv a)[k]? =some (.s (a k)):=by
 rcases k with _|_|_|_|_|_|_|k<;>first|rfl|omega
def Lb(a:Nat->O)(b:k<7)(r:O):iE (Nv a) k [.s r]=Nv (up a k r):=by
 rcases k with _|_|_|_|_|_|_|k<;>first|rfl|omega
structure iu(ro:Nat->Nat)(m:I)(lb:Nat)(sl:Nat->O)(L:Nat->List Int):Prop where
 new:∀b,m.size<=b->ro b=0
 iW:ro lb=8
 box:cB m lb yZ (Nv sl)
 qQ:∀k,k<7->gX ro m aB 1 (k+1) (sl k) ((L k).map Ce.i)
section
variable{f j:Nat->Nat}{a h:I}{d:Nat}{b:Nat->O}{L:Nat->List Int}
def iu.cy(h:iu f a d b L){k:Nat}(c:k<7):D a d k=some (O.v (b k)):=by
 rw[h.box.cy,PZ b c];rfl
def iu.ov(h:iu f a d b L){k:Nat}(c:k<7)(e:(L k).length<=1000000000000):ar a (b k) (L k):=(h.qQ k c).ov V
def iu.len(h:iu f a d b L){k:Nat}(c:k<7):(b k).len=(L k).length:=by have:=(h.qQ k c).len;simp at this;omega
def iu.to(h:iu f a d b L):To f a f a:=dy.aC _ h.new
def iu.ext(c:iu f a d b L)(e:J a h):iu f h d b L:=
 ⟨λi l=>c.new i (bJ e.size l),c.iW,c.box.congr (e.same d c.box.lt),λk g=>(c.qQ k g).fu (λj=>e.same _ ((c.qQ k g).F j).1) λ_=>rfl⟩
def iu.jK(p:iu f a d b L)(s:k<7)(C:(L k).length<=1000000000000)(i:Int){K:O->I->Prop}
 (B:∀j r h,To f a j (aj h d k [.s r])->iu j (aj h d k [.s r]) d (up b k r) (up L k (L k++[i]))->K r h):
 iS (a.push (.cells (br [.i i]) aB)) aB [.i 0] 8 (b k) (.mk a.size 0 1 1) λr h=>fm h d k 1/\K r h:=by
 have z:=J.push a (.cells (br [.i i]) aB)
 have c:=p.ext z
 have D:=p.len s
 refine gX.append (zs:=[.i 0]) (c:=[.i i]) (c.qQ k s) c.new E ?_ (by simp only[O.fj];omega) λj r h v n=>?_
 ·exact(cB.push a (e:=aB) (l:=[.i i])).je
 have x:cB h d yZ (Nv b):=c.box.congr (n.fu d c.box.lt (by simp only[c.iW];omega))
 have o:j d=8:=by rw[n.iW d c.box.lt,c.iW]
 have A:To f a j h:=(dy.fe _ z p.new).trans (n.mono λt y=>V)
 have u:To f a j (aj h d k [.s r]):=A.trans (dy.aj n.new (by simp only[o];omega) _ _)
 refine⟨x.fm (by show k+1<=7;omega),B j r h u ⟨u.new,o,Lb b s r▸cB.aj (m:=h) x,λt y=>?_⟩⟩
 by_cases g:t=k
 ·subst g
  rw[En,En,eP]
  refine v.fu (λq=>bh _ _ _ _ λg=>?_) λ_=>rfl
  have:=(v.F q).2
  rw[g,o]at this;omega
 ·rw[NG _ _ _ g,NG _ _ _ g]
  have w:=(c.qQ t y).eY n V
  refine w.fu (λq=>bh _ _ _ _ λg=>?_) λ_=>rfl
  have:=(w.F q).2
  rw[g,o]at this;omega
def iu.put(h:iu f a d b L){i:Nat}(r:k<7)(n:i<(L k).length)(x:Int):
 fm a (b k).F ((b k).off+i*1) 1/\iu f (aj a (b k).F ((b k).off+i*1) [.i x]) d b (up L k ((L k).set i x))/\To f a f (aj a (b k).F ((b k).off+i*1) [.i x]):=by
 have g:=h.qQ k r
 have s:(L k).map Ce.i≠[]:=λe=>by simp at e;rw[e]at n;simp at n
 have j:(b k).cap≠0:=λj=>s (g.CU j).1
 obtain⟨t,l⟩:=g.F j
 have c:To f a f (aj a (b k).F ((b k).off+i*1) [.i x]):=dy.aj h.new (by simp only[l];omega) _ _
 refine⟨g.wr bK,⟨c.new,h.iW,h.box.congr (bh _ _ _ _ λe=>by have:=h.iW;rw[e,l]at this;omega),λp q=>?_⟩,c⟩
 by_cases e:p=k
 ·subst e
  rw[En]
  have:=g.set (o:=i*1) (new:=[.i x]) bK
  rw[xI,dG]at this
  rw[dG];exact this
 ·rw[NG _ _ _ e]
  have m:=h.qQ p q
  refine m.fu (λj=>bh _ _ _ _ λe=>?_) λ_=>rfl
  have:=(m.F j).2
  rw[e,l]at this;omega
def iu.Uu(h:iu f a d b L)(j:k<7){r:O}{l:List Int}(o:gX f a aB 1 (k+1) r (l.map Ce.i)):
 fm a d k 1/\iu f (aj a d k [.s r]) d (up b k r) (up L k l)/\To f a f (aj a d k [.s r]):=by
 have c:To f a f (aj a d k [.s r]):=dy.aj h.new (by simp only[h.iW];omega) _ _
 refine⟨h.box.fm (by show k+1<=7;omega),⟨c.new,h.iW,Lb b j r▸cB.aj (m:=a) h.box,λn g=>?_⟩,c⟩
 have K:∀{i s l},gX f a aB 1 (i+1) s l->i<7->gX f (aj a d k [.s r]) aB 1 (i+1) s l:=λ{i s l} g' hk'=>by
  refine g'.fu (λp=>bh _ _ _ _ λe=>?_) λ_=>rfl;have:=(g'.F p).2;rw[e,h.iW]at this;omega
 by_cases e:n=k
 ·subst e
  rw[En,En];exact K o j
 ·rw[NG _ _ _ e,NG _ _ _ e];exact K (h.qQ n g) g
def iu.cut(h:iu f a d b L){k n:Nat}(c:k<7)(l:n<=(L k).length):
 n<=(b k).cap/\fm a d k 1/\iu f (aj a d k [.s ((b k).cut 0 n 1)]) d (up b k ((b k).cut 0 n 1)) (up L k ((L k).take n))/\To f a f (aj a d k [.s ((b k).cut 0 n 1)]):=by
 have g:=h.qQ k c
 have i:=h.len c
 have j:=g.le
 have e:=g.cut (n:=n) V
 rw[dG,<-Lj]at e
 exact⟨V,h.Uu c e⟩
end
structure oB(ds:List bq)(n b:Nat)(L:Nat->List Int):Prop where
 len:∀k,k<6->(L k).length=n
 Us:∀(v:Nat)(p:Int),(L 2)[v]? =some p->p<v
 Mx:∀(v:Nat)(c f:Int),(L 3)[v]? =some c->(L 4)[v]? =some f->0<=c->0<=f/\f+((bT ds c).length:Int)<=b
 cW:(L 6).length<=1000000000000
abbrev qx(a:List bq)(n:Nat)(L:Nat->List Int):Prop:=oB a n n L
def IG(L:Nat->List Int)(t o p:Int):Nat->List Int:=up (up (up (up (up (up L 0 (L 0++[t])) 1 (L 1++[o])) 2 (L 2++[p])) 3 (L 3++[-1])) 4 (L 4++[-1])) 5 (L 5++[-1])
def yl{j:Nat->Nat}{m:I}{b:Nat}{x:Nat->O}{L:Nat->List Int}(h:iu j m b x L)(a:∀k,k<6->(L k).length<=1000000000000)(t o p:Int):
 aN bY 262 [vp b 0,vi t,vi o,vi p] m λ_ i=>∃l y,To j m l i/\iu l i b y (IG L t o p):=by
 apply vd (b,0)
 simp -zeta only[bN]
 refine⟨_,h.cy (k:=0) bd,?_⟩
 intro z
 refine h.jK (k:=0) bd (a 0 bd) t λN U F n c=>⟨_,c.cy (k:=1) bd,?_⟩
 intro A
 refine c.jK (k:=1) bd (a 1 bd) o λP V G q d=>⟨_,d.cy (k:=2) bd,?_⟩
 intro B
 refine d.jK (k:=2) bd (a 2 bd) p λQ W H r e=>⟨_,e.cy (k:=3) bd,?_⟩
 intro C
 refine e.jK (k:=3) bd (a 3 bd) (-1) λR X J s f=>⟨_,f.cy (k:=4) bd,?_⟩
 intro D
 refine f.jK (k:=4) bd (a 4 bd) (-1) λS Y K u g=>⟨_,g.cy (k:=5) bd,?_⟩
 intro E
 exact g.jK (k:=5) bd (a 5 bd) (-1) λT Z M v w=>⟨_,_,((((n.trans q).trans r).trans s).trans u).trans v,w⟩
end
section
variable{a:List Int}{e:Nat->Nat}{d:I}{P:(Nat->List Int)->Prop}{b:Nat}{v:Int}
def GI.bo{S:List Nat}{p o:I}{s:O}(h:GI S p o s a):iO p o aB 1 s (a.map Ce.i):=by
 have w:=h.len bd;obtain⟨u,e,q,b⟩:=h;have v:e.flatten.length=a.length:=by rw[cX b.size,b.len];omega
 have t:e.flatten=a.map Ce.i:=by
  apply fI;intro f;rcases aV f a.length with d|d
  ·obtain⟨x,n⟩:=ag d;obtain⟨g,m⟩:=ag (l:=e) (k:=f) (by rw[b.len];exact d);have r:g=[.i x]:=b.df f g x m n;have j:=gY (g:=1) b.size m (i:=0) (c:=.i x) (by rw[r];rfl);simp only[dG,iJ]at j;rw[j];simp[n]
  ·rw[cb V,cb (by simpa using d)]
 rw[<-t];exact q
def zA(f:Nat->Nat)(m:I)(c:Nat)(P:(Nat->List Int)->Prop)(v:Value)(d:I):Prop:=∃(b:Bool)(e:Nat->Nat),v=vb b/\To f m e d/\(b=true->∃g a,iu e d c g a/\P a)
def zA.no{a:Nat->Nat}{m:I}{b:Nat}(h:To a m e d):zA a m b P (vb false) d:=⟨false,e,rfl,h,E⟩
def zA.Mz{b:Nat->Nat}{m:I}{a:Nat}{c:Nat->O}{L:Nat->List Int}(h:To b m e d)(f:iu e d a c L)(g:P L):zA b m a P (vb true) d:=⟨true,e,rfl,h,λ_=>⟨c,L,f,g⟩⟩
def zA.mono{c:Nat->Nat}{m:I}{a:Nat}{Q:(Nat->List Int)->Prop}{v:Value}(h:zA c m a P v d)(n:∀L,P L->Q L):zA c m a Q v d:=let⟨b,e,f,g,i⟩:=h;⟨b,e,f,g,λl=>let⟨o,L,j,k⟩:=i l;⟨o,L,j,n L k⟩⟩
def oB.aW{c:List bq}{n:Nat}{L:Nat->List Int}(h:oB c n b L)(i:a.length=n):oB c n b (up L 1 a):=
 ⟨λk g=>by by_cases e:k=1<;>simp_all [up,h.len k],λv p=>by simpa[up]using h.Us v p,λv d f=>by simpa[up]using h.Mx v d f,by simpa[up]using h.cW⟩
def oB.XN{c:List bq}{n:Nat}{L:Nat->List Int}(h:oB c n b L)(i:a.length=n):oB c n b (up L 5 a):=
 ⟨λk g=>by by_cases e:k=5<;>simp_all [up,h.len k],λv p=>by simpa[up]using h.Us v p,λv d f=>by simpa[up]using h.Mx v d f,by simpa[up]using h.cW⟩
def IE{c x:Int}{v:Nat}(h:(a++[c])[v]? =some x):a[v]? =some x\/v=a.length/\x=c:=by
 rcases aV v a.length with b|b
 ·rw[aw b]at h;exact Or.inl h
 ·rw[aF b]at h;have:=ax h;simp at this;have e:v=a.length:=V;subst e;simp at h;exact Or.inr ⟨rfl,h.symm⟩
def oB.AZ{c:List bq}{n a:Nat}{L:Nat->List Int}(h:oB c n b L)(j:b<=a):oB c n a L:=
 ⟨h.len,h.Us,λv d f g i e=>by have:=h.Mx v d f g i e;omega,h.cW⟩
def oB.LQ{f:List bq}{n:Nat}{L:Nat->List Int}(h:oB f n b L)(u t:Int){p:Int}(r:p<n):oB f (n+1) b (IG L u t p):=by
 have a:=h.len;refine⟨λk w=>?_,λv q s=>?_,λv e g j m i=>?_,by simpa[IG,up]using h.cW⟩
 ·rcases k with _|_|_|_|_|_|k<;>first|omega|(simp[IG,up,a])
 ·have d:(L 2++[p])[v]? =some q:=by simpa[IG,up]using s
  rcases IE d with c|⟨rfl,rfl⟩
  ·exact h.Us v q c
  ·rw[a 2 bd];exact r
 ·have l:(L 3++[-1])[v]? =some e:=by simpa[IG,up]using j
  have o:(L 4++[-1])[v]? =some g:=by simpa[IG,up]using m
  rcases IE l with c|⟨rfl,rfl⟩
  ·rcases IE o with d|⟨d,rfl⟩
   ·have:=h.Mx v e g c d i;omega
   ·have:=ax c;rw[a 4 bd]at d;rw[a 3 bd]at this;omega
  ·omega
section
variable{g:Nat->Nat}{m:I}{f:Nat}{h:Nat->O}{L:Nat->List Int}{j:List bq}{c:Nat}
def iu.u(a:iu g m f h L){k:Nat}(c:k<7)(d:(L k).length<=1000000000000){i:Nat}{x:Int}(b:(L k)[i]? =some x):D m (h k).F ((h k).off+i*1)=some (vi x):=(a.ov c d).u b
def sR(b:iu g m f h L)(r:qx j c L)(y:c<=1000000000000)(d:0<=v)(t:v<c):aN bY 263 [vp f 0,vi v] m (zA g m f λe=>∃a:List Int,a.length=c/\e=up L 1 a):=by
 apply vg (f,0);simp -zeta only[bN];have p:=r.len 1 bd;have u:=b.len (k:=1) bd;obtain⟨x,s⟩:=ag (l:=L 1) (k:=v.toNat) V;have n:=b.u bd V s;have e:=b.cy (k:=1) bd;obtain⟨w,q,o⟩:=b.put (k:=1) (i:=v.toNat) bd V (cK (x -1));exact⟨_,e,d,V,x,n,λ_=>.no b.to,λ_=>⟨_,e,_,e,d,V,x,n,d,V,w,.Mz o q ⟨_,by simp[p],rfl⟩⟩⟩
def qC(r:iu g m f h L)(i:qx j c L)(u:c<=1000000000000)(e:0<=v)(p:v<c):ng 223 [vp f 0,vi v] m:=by
 apply ug (f,0);refine⟨λv d=>0<=v/\v<(c:Int)/\J m d,λv _=>v.toNat,⟨e,p,J.aC _⟩,?_⟩;rintro v B ⟨e,p,a⟩;have H:=r.ext a;have z:=H.len (k:=1) bd;have A:=H.len (k:=2) bd;have D:=i.len 1 bd;have E:=i.len 2 bd;obtain⟨x,t⟩:=ag (l:=L 1) (k:=v.toNat) V;obtain⟨y,q⟩:=ag (l:=L 2) (k:=v.toNat) V;have w:=i.Us _ _ q;refine⟨_,H.cy (k:=1) bd,e,V,x,H.u bd V t,λ_=>⟨_,H.cy (k:=6) bd,?_⟩,λ_=>rA a⟩;refine(cU (H.ov (k:=6) bd i.cW) v).then λb C _ n=>⟨_,rfl,λ_=>?_,λ_=>rA (a.trans n)⟩;have o:=H.ext n;refine⟨_,o.cy (k:=2) bd,e,V,y,o.u bd V q,λ_=>rA (a.trans n),λs=>?_⟩;simp only[bP]at s;exact⟨⟨V,V,a.trans n⟩,by show y.toNat<v.toNat;omega⟩
def Jt(i:iu g m f h L)(w:qx j c L)(S:c<=1000000000000){b:Nat}(I:b<=c):aN bY 336 [vp f 0,vi b] m (zA g m f λe=>(∀o,o<6->(e o).length=b)/\(e 6).length<=1000000000000):=by
 apply wy (f,0);simp -zeta only[bN];refine⟨λv d=>(b:Int)<=v/\v<=c/\d=m,λv _=>((c:Int) -v).toNat,⟨V,V,rfl⟩,?_⟩;rintro v X ⟨Q,q,rfl⟩;have p:=λo(H:o<6)=>i.len (k:=o) V;have e:=w.len;have T:=p 0 bd;have U:=p 1 bd;have W:=p 5 bd;have n0:=e 0 bd;have n1:=e 1 bd;have n5:=e 5 bd;refine⟨_,i.cy (k:=0) bd,λx=>?_,λx=>?_⟩
 ·simp only[ao]at x;obtain⟨t,r⟩:=ag (l:=L 1) (k:=v.toNat) V;obtain⟨y,s⟩:=ag (l:=L 5) (k:=v.toNat) V;refine⟨_,i.cy (k:=1) bd,V,V,t,i.u bd V r,λ_=>.no i.to,λ_=>⟨_,i.cy (k:=5) bd,V,V,y,i.u bd V s,λ_=>.no i.to,λ_=>?_⟩⟩;rw[aP V V];exact⟨⟨V,V,rfl⟩,by show((c:Int) -(v+1)).toNat<((c:Int) -v).toNat;omega⟩
 ·have tk:∀{a:List Int},a.length=c->(a.take b).length=b:=λR=>bK;have E:Int.toNat (0:Int)=0:=rfl;have F:Int.toNat (b:Int)=b:=V;rw[E,F];obtain⟨p1,J,q,y⟩:=i.cut (k:=0) (n:=b) bd (by rw[e 0 bd];exact I);refine⟨_,i.cy (k:=0) bd,V,V,V,J,?_⟩;intro Y;obtain⟨p2,K,r,z⟩:=q.cut (k:=1) (n:=b) bd (by simp[up,e];omega);refine⟨_,q.cy (k:=1) bd,V,V,V,K,?_⟩;intro Z;obtain⟨p3,M,s,A⟩:=r.cut (k:=2) (n:=b) bd (by simp[up,e];omega);refine⟨_,r.cy (k:=2) bd,V,V,V,M,?_⟩;intro m4;obtain⟨p4,N,t,B⟩:=s.cut (k:=3) (n:=b) bd (by simp[up,e];omega);refine⟨_,s.cy (k:=3) bd,V,V,V,N,?_⟩;intro m5;obtain⟨p5,O,u,C⟩:=t.cut (k:=4) (n:=b) bd (by simp[up,e];omega);refine⟨_,t.cy (k:=4) bd,V,V,V,O,?_⟩;intro m6;obtain⟨p6,P,G,D⟩:=u.cut (k:=5) (n:=b) bd (by simp[up,e];omega);refine⟨_,u.cy (k:=5) bd,V,V,V,P,?_⟩;intro m7;refine zA.Mz (((((y.trans z).trans A).trans B).trans C).trans D) G ⟨λo H=>?_,?_⟩
  ·rcases o with _|_|_|_|_|_|o<;>first|omega|(simp[up,e];omega)
  ·simpa[up]using w.cW
end
end
section
variable{a:Nat->Nat}{m d c:I}{X:List Nat}
def U9(m:I)(P:(Nat->List Int)->Prop)(v:Value)(c:I):Prop:=∃d,v=vp d 0/\J m c/\∃a e L,(∀b,b<m.size->a b=0)/\iu a c d e L/\P L
def Kh{r:Nat}{sl:Nat->O}{L:Nat->List Int}(h:iu a m r sl L)(W:∀b,b<7->(L b).length<=1000000000000):
 aN bY 323 [vp r 0] m (U9 m λc=>∀b,b<7->c b=L b):=by
 apply tm (r,0)
 simp -zeta only[bN]
 refine⟨_,h.cy (k:=0) bd,_,h.cy (k:=1) bd,_,h.cy (k:=2) bd,_,h.cy (k:=3) bd,_,h.cy (k:=4) bd,_,h.cy (k:=5) bd,_,h.cy (k:=6) bd,?_⟩
 have C:∀{M:I}(b:Nat),b<7->J m M->jR 57 [O.v (sl b)] M [] (L b=·):=λb y x=>bE [] ((h.ext x).ov y (W b y)) (W b y)
 have E:∀{M H:I},J m M->J M H->∀z,D H r z=D M r z:=λx x' z=>aI (x'.same r (x.lt h.box.lt)) z
 have g:=J.aC m
 refine(C 0 bd g).then λY _ m1 K e c=>⟨_,rfl,E g c _,E g c _,E g c _,E g c _,E g c _,E g c _,?_⟩
 subst e
 refine(C 1 bd c).then λZ _ m2 N e i=>⟨_,rfl,E c i _,E c i _,E c i _,E c i _,E c i _,?_⟩
 subst e
 have t:=c.trans i
 refine(C 2 bd t).then λs2 _ m3 P e j=>⟨_,rfl,E t j _,E t j _,E t j _,E t j _,?_⟩
 subst e
 have w:=t.trans j
 refine(C 3 bd w).then λs3 _ m4 Q e l=>⟨_,rfl,E w l _,E w l _,E w l _,?_⟩
 subst e
 have B:=w.trans l
 refine(C 4 bd B).then λs4 _ m5 R e n=>⟨_,rfl,E B n _,E B n _,?_⟩
 subst e
 have G:=B.trans n
 refine(C 5 bd G).then λs5 _ m6 S e o=>⟨_,rfl,E G o _,?_⟩
 subst e
 have u6:=G.trans o
 refine(C 6 bd u6).then λs6 _ u T e p=>⟨_,rfl,?_⟩
 subst e
 intro v
 have q:J u v:=J.push _ _
 have z0:=g.size;have z1:=c.size;have z2:=i.size;have z3:=j.size;have z4:=l.size;have z5:=n.size;have z6:=o.size;have z7:=p.size
 have s8:v.size=u.size+1:=by simp[v]
 have y0:=K.aY;have y1:=N.aY;have y2:=P.aY;have y3:=Q.aY;have y4:=R.aY;have y5:=S.aY;have y6:=T.aY
 let d:Nat->Nat:=λf=>if f<m.size then 0 else if f<m1.size then 1 else if f<m2.size then 2 else if f<m3.size then 3 else if f<m4.size then 4 else if f<m5.size then 5 else if f<m6.size then 6 else if f<u.size then 7 else if f=u.size then 8 else 0
 let ab:Nat->O:=λb=>if b=0 then Y else if b=1 then Z else if b=2 then s2 else if b=3 then s3 else if b=4 then s4 else if b=5 then s5 else s6
 have A:∀{m0 M:I}{F:O}{X:List Int}{b:Nat},GI [] m0 M F X->J M v->d F.F=b->gX d v aB 1 b F (X.map Ce.i):=λaa x hr=>gX.ij (aa.bo.ext x) λ_=>hr
 refine⟨u.size,rfl,u6.trans (p.trans q),d,ab,L,λf U=>aq U,⟨λf U=>?_,?_,cB.push _ _ _,λb y=>?_⟩,λ_ _=>rfl⟩
 ·simp only[d]
  repeat rw[ae V]
 ·simp only[d]
  repeat rw[ae V]
  simp
 ·rcases b with _|_|_|_|_|_|_|b
  ·exact A (F:=Y) (b:=1) K (i.trans (j.trans (l.trans (n.trans (o.trans (p.trans q)))))) (by simp only[d];rw[ae V,aq V])
  ·exact A (F:=Z) (b:=2) N (j.trans (l.trans (n.trans (o.trans (p.trans q))))) (by simp only[d];rw[ae V,ae V,aq V])
  ·exact A (F:=s2) (b:=3) P (l.trans (n.trans (o.trans (p.trans q)))) (by simp only[d];rw[ae V,ae V,ae V,aq V])
  ·exact A (F:=s3) (b:=4) Q (n.trans (o.trans (p.trans q))) (by simp only[d];rw[ae V,ae V,ae V,ae V,aq V])
  ·exact A (F:=s4) (b:=5) R (o.trans (p.trans q)) (by simp only[d];rw[ae V,ae V,ae V,ae V,ae V,aq V])
  ·exact A (F:=s5) (b:=6) S (p.trans q) (by simp only[d];rw[ae V,ae V,ae V,ae V,ae V,ae V,aq V])
  ·exact A (F:=s6) (b:=7) T q (by simp only[d];rw[ae V,ae V,ae V,ae V,ae V,ae V,ae V,aq V])
  ·omega
structure Ez(d:I)(X:List Nat)(a:Nat->Nat)(m:I):Prop where
 ext:J d m
 fq:∀b,b<d.size->a b=0
 box:∀b∈X,b<m.size/\a b=0
def Ez.to{g:Nat->Nat}(h:Ez d X a m)(e:To a m g c):Ez d X g c:=by
 obtain⟨i,j⟩:=e.cG h.ext h.fq;exact⟨i,j,λb f=>⟨aJ (h.box b f).1 e.size,by rw[e.iW b (h.box b f).1];exact(h.box b f).2⟩⟩
def Ez.da{d m c:I}{X:List Nat}{a e:Nat->Nat}(h:Ez d X a m)(b:To a m e c):dV X m c:=b.da h.box
def Ez.fw(h:Ez d X a m)(x:J m c):Ez d X a c:=⟨h.ext.trans x,h.fq,λb e=>⟨x.lt (h.box b e).1,(h.box b e).2⟩⟩
def FD{s R ac:O}{q:fD}(u:ar m s q.params)(Q:ar m R q.cW)(ah:q.params.length<=3)(af:q.cW.length<=3)(A:List bq):
 aN bY 241 [.agg #[O.v s,O.v R,vi q.aR,O.v ac,vi q.body.aR]] m (U9 m (qx A q.params.length)):=by
 apply yy
 simp -zeta only[aE,aD]
 intro f
 have z:J m f:=J.push _ _
 have s1:f.size=m.size+1:=by simp[f]
 have hl:∀d∈[m.size],d<f.size:=by simp[f]
 clear_value f
 refine(bE [] (Q.ext z) V).aG (J.aC f) hl λs6 _ g P r S _=>⟨_,rfl,?_⟩
 subst r
 intro v
 have T:J g v:=J.push _ _
 have s3:v.size=g.size+1:=by simp[v]
 have z2:=S.size
 have y6:=P.aY
 let i:Nat->Nat:=λd=>if d<f.size then 0 else if d<g.size then 7 else if d=g.size then 8 else 0
 let e:Nat->List Int:=λb=>if b<6 then[]else q.cW
 let t:Nat->O:=λb=>if b<6 then .nil else s6
 have W:iu i v g.size t e:=by
  refine⟨λd p=>?_,?_,cB.push _ _ _,λb F=>?_⟩
  ·simp only[i];repeat rw[ae V]
  ·simp only[i];repeat rw[ae V]
   simp
  ·by_cases h:b<6
   ·simp only[t,e,aq h];exact⟨E,E,Or.inl rfl⟩
   ·have r:b=6:=V;subst r;simp only[t,e,ae h];refine gX.ij (P.bo.ext T) λ_=>?_;simp only[i];rw[ae V,aq V]
 have Y:qx A 0 e:=by
  refine⟨λb F=>by simp only[e,aq F];rfl,λh s u=>by simp[e]at u,λh o j B=>by simp[e]at B,by simp[e];omega⟩
 have fq:∀d,d<f.size->i d=0:=λd p=>aq p
 clear_value i e t
 have ai:=u.len
 refine dO (n:=q.params.length) V (λb M=>∃a H L,Ez f [m.size] a M/\iu a M g.size H L/\qx A b L) ⟨i,t,e,⟨S.trans T,fq,λd p=>by simp at p;subst p;exact⟨V,fq _ V⟩⟩,W,Y⟩ ?_
 rintro b M X μ F ⟨a,H,L,j,K,C⟩ ab
 refine dit (λZ=>?_) λZ=>?_
 ·obtain⟨y,hy⟩:=ag (l:=q.params) (k:=b) V
  have N:∀(w:Int){h:I},J M h->aN bY 262 [vp g.size 0,vi y,vi w,vi (-1:Int)] h λ_ c=>dV [m.size] h c/\X (cK ((b:Int)+1)) c/\μ (cK ((b:Int)+1)) c<μ b M:=λw h x=>
   (yl (K.ext x) (λaa U=>by rw[C.len aa U];omega) y w (-1)).mono λ_ c⟨aa,ad,o,U⟩=>⟨(j.fw x).da o,ab V _ ⟨aa,ad,_,(j.fw x).to o,U,(C.LQ y w V).AZ V⟩⟩
  have G:∀{h:I},J M h->D h s.F (s.off+Int.toNat (b:Int)*1)=some (vi y):=λx=>(u.ext (z.trans (j.ext.trans x))).u hy
  refine⟨V,V,y,G (J.aC _),λ_=>?_,λ_=>⟨V,V,y,G (J.aC _),N 0 (J.aC _)⟩⟩
  refine(cU (Q.ext (z.trans j.ext)) (b:Int)).then λd M2 _ x=>⟨λo B=>x.same o (j.box o B).1,_,rfl,λ_=>⟨V,V,y,G x,N 1 x⟩,λ_=>⟨V,V,y,G x,N 0 x⟩⟩
 ·have r:b=q.params.length:=V
  subst r
  exact⟨g.size,rfl,z.trans j.ext,a,H,L,λd p=>j.fq d V,K,C⟩
end
section
def iu.Sx{b:Nat->Nat}{m f:I}{q:Nat}{a:Nat->O}{L:Nat->List Int}(h:iu b m q a L)(fq:∀c,c<f.size->b c=0){k p:Nat}(l:k<7)(c:p<(L k).length):f.size<=(a k).F/\(a k).F<m.size/\b (a k).F=k+1:=by
 have g:=h.qQ k l;have o:(L k).map Ce.i≠[]:=λe=>by simp at e;rw[e]at c;simp at c
 obtain⟨j,d⟩:=g.F λi=>o (g.CU i).1;refine⟨Es λn=>?_,j,d⟩;rw[fq _ n]at d;omega
def Ez.Qt{c m a g:I}{d:Nat->Nat}{l n:Obj}(j:J c m)(fq:∀b,b<c.size->d b=0)(k:∀b,m.size<=b->d b=0)(e:a=m.push l)(h:g=a.push n):Ez c [a.size,m.size] d g:=by
 obtain⟨o,i⟩:=di e h;subst e;exact⟨j.trans o,fq,λb f=>⟨i b f,k b (by simp at f;omega)⟩⟩
section
variable{e:Nat->Nat}{m b:I}{g:Nat}{q:Nat->O}{L:Nat->List Int}{f:List bq}{o:List fD}{h:Nat}{d r a p:O}{x:cq}{c:Prop}{s:Nat}
def Ny(hx:J b m)(fq:∀v,v<b.size->e v=0)(P:iu e m g q L)(Q:qx f h L)(hn:h<=1000000000000)(hN:dJ b d r f o)(ha:ar b a x.args)(hf:RB f s c h x)(aq:14<=x.op):
 aN bY 264 [vp g 0,.agg #[O.v d,O.v r],nv x a p] m (zA e m g (qx f h)):=by
 apply ve (g,0)
 simp -zeta only[aE,aD,bN]
 intro R S
 have st:=Ez.Qt (a:=R) (g:=S) hx fq P.new rfl rfl
 have x2:J m S:=(di (a:=R) (c:=S) rfl rfl).1
 have Y:To e m e S:=dy.fe _ x2 P.new
 clear_value S
 clear_value R
 have F:=P.ext x2
 have aF:=ha.len
 have aC:=hf.kj (Or.inl aq)
 obtain⟨B,hy⟩:=ag (l:=x.args) (k:=0) V
 obtain⟨H,y1⟩:=hf.args B (au hy)
 have X:=Q.len
 have n1:=X 1 bd;have n3:=X 3 bd;have n4:=X 4 bd;have n5:=X 5 bd
 have l3:=F.len (k:=3) bd;have l5:=F.len (k:=5) bd
 obtain⟨C,af⟩:=ag (l:=L 3) (k:=B.toNat) V
 obtain⟨w,ai⟩:=ag (l:=L 4) (k:=B.toNat) V
 obtain⟨tk,aw⟩:=ag (l:=L 5) (k:=B.toNat) V
 refine⟨bd,V,B,(ha.ext st.ext).u hy,?_⟩
 refine⟨λM=>0<=C/\∃T ah t,t.length=h/\To e m T M/\Ez b [R.size,m.size] T M/\iu T M g ah (up L 1 t),?_,?_⟩
 ·refine⟨_,F.cy (k:=3) bd,H,V,C,F.u bd V af,λ_=>.no Y,λu=>?_⟩
  simp only[bP]at u
  refine⟨λ_=>⟨_,F.cy (k:=5) bd,H,V,tk,F.u bd V aw,λ_=>.no Y,λ_=>?_⟩,λ_=>?_⟩<;>
  ·refine(sR F Q hn H y1).mono λaA m3⟨v,T,ad,K,z⟩=>⟨st.da K,v,ad,λD=>.no (Y.trans K),λD=>?_⟩
   obtain⟨ah,y,h4,t,hl,rfl⟩:=z (by simpa using D)
   exact⟨V,T,ah,t,hl,Y.trans K,st.to K,h4⟩
 ·rintro m3 ⟨an,ab,G,t,hl,K,U,z⟩
  have e3:(up L 1 t) 3=L 3:=rfl
  have e4:(up L 1 t) 4=L 4:=rfl
  have e5:(up L 1 t) 5=L 5:=rfl
  have e1:(up L 1 t) 1=t:=rfl
  have ax:=z.len (k:=3) bd
  rw[e3]at ax
  obtain⟨f0,f1⟩:=Q.Mx B.toNat C w af ai an
  refine⟨_,z.cy (k:=3) bd,H,V,C,z.u bd (by rw[e3];omega) af,?_⟩
  have A1:=z.Sx (f:=b) U.fq (k:=1) (p:=B.toNat) bd (by rw[e1];omega)
  have A5:=z.Sx (f:=b) U.fq (k:=5) (p:=B.toNat) bd (by rw[e5];omega)
  have hS:∀v∈[(G 1).F,(G 5).F],v<m3.size:=λv D=>by simp at D;omega
  have am:∀{M:I},J b M->Le b (bA [(G 1).F,(G 5).F] M):=λxx=>(xB b).trans (xx.bA λv D=>Or.inr (by simp at D;omega))
  refine(dk hS (hN.aT.le (am U.ext)) hN.types C).mono λaA m4⟨al,fl,ad,hs,ap,x4⟩=>⟨λv D=>x4.same v (U.box v D).1,al,ad,?_⟩
  subst ap
  have h4:=z.ext x4
  have az:=U.fw x4
  have c4:To e m ab m4:=K.trans (dy.fe _ x4 z.new)
  have aH:=hs.len
  have f3:=CY hN.types C
  refine dO (n:=(bT f C).length) V (λA M=>∃t,t.length=h/\To e m ab M/\Ez b [R.size,m.size] ab M/\iu ab M g G (up L 1 t)/\Fz [(G 1).F,(G 5).F] m4 M) ⟨t,hl,c4,az,h4,Fz.aC _ _⟩ ?_
  rintro A M aB μ aG ⟨y,aa,Z,ac,u,ae⟩ ak
  have av:=hs.le (ae.cJ λ_ P=>P)
  refine⟨λaj=>?_,λaj=>?_⟩
  ·simp only[ao]at aj
   obtain⟨ay,hz⟩:=ag (l:=bT f C) (k:=A) V
   refine⟨V,V,ay,(av.le (bt _ _)).u hz,λ_=>?_,λ_=>ak V _ ⟨y,aa,Z,ac,u,ae⟩⟩
   have E3:(up L 1 y) 4=L 4:=rfl
   have E1:(up L 1 y) 1=y:=rfl
   have G1:=u.cy (k:=1) bd
   have G4:=u.cy (k:=4) bd
   have l4:=u.len (k:=4) bd
   have l1:=u.len (k:=1) bd
   rw[E3]at l4;rw[E1]at l1
   have V4:=u.u (k:=4) bd (by rw[E3];omega) ai
   have ew:cK (w+(A:Int))=w+A:=aP V V
   obtain⟨W,hw⟩:=ag (l:=y) (k:=(w+(A:Int)).toNat) V
   obtain⟨wr,h6,N⟩:=u.put (k:=1) (i:=(w+(A:Int)).toNat) bd (by rw[E1];omega) (cK (W+1))
   refine⟨_,G1,_,G4,H,V,w,V4,_,G1,_,G4,H,V,w,V4,?_⟩
   rw[ew]
   refine⟨V,V,W,u.u (k:=1) bd (by rw[E1];omega) hw,V,V,wr,ac.da N,ak V _ ⟨y.set (w+(A:Int)).toNat (cK (W+1)),by simp[aa],Z.trans N,ac.to N,?_,ae.aj (Or.inl E) _ _⟩⟩
   have:up (up L 1 y) 1 ((up L 1 y) 1|>.set (w+(A:Int)).toNat (cK (W+1)))=up L 1 (y.set (w+(A:Int)).toNat (cK (W+1))):=by funext j;simp only[up];split<;>rfl
   rw[this]at h6;exact h6
  ·refine⟨λ_=>?_,λ_=>.Mz Z u (Q.aW aa)⟩
   have W:(up L 1 y) 5=L 5:=rfl
   have ay:=u.len (k:=5) bd
   rw[W]at ay
   obtain⟨wr,h6,N⟩:=u.put (k:=5) (i:=B.toNat) bd (by rw[W];omega) (al.len:Int)
   exact⟨_,u.cy (k:=5) bd,H,V,wr,ac.da N,.Mz (Z.trans N) h6 ((Q.aW aa).XN (by rw[W];simp[n5]))⟩
def Hm(hx:J b m)(fq:∀j,j<b.size->e j=0)(R:iu e m g q L)(hi:qx f h L)(hn:h<=1000000000000)(hN:dJ b d r f o)(C:ar b a x.args)(E:RB f o.length c h x):
 aN bY 266 [vp g 0,.agg #[O.v d,O.v r],nv x a p] m (zA e m g (qx f h)):=by
 apply ru (g,0)
 simp -zeta only[aE,aD,bN]
 intro N H
 have st:=Ez.Qt (a:=N) (g:=H) hx fq R.new rfl rfl
 have x2:J m H:=(di (a:=N) (c:=H) rfl rfl).1
 have c2:To e m e H:=dy.fe _ x2 R.new
 clear_value H
 clear_value N
 have h2:=R.ext x2
 have ab:=C.len
 have aa:∀{M:I},J b M->At M d r a p f o x:=λxx=>⟨hN.le xx.le,C.ext xx,E.call⟩
 refine dO (n:=x.args.length) (ab▸C.fL) (λ_ M=>∃u U P,qx f h P/\To e m u M/\Ez b [N.size,m.size] u M/\iu u M g U P) ⟨e,q,L,hi,c2,st,h2⟩ ?_
 rintro ac M ai μ aj ⟨T,ah,Z,w,Q,D,t⟩ ae
 refine⟨λF=>?_,λF=>?_⟩
 ·simp only[ao]at F
  obtain⟨K,G⟩:=ag (l:=x.args) (k:=ac) V
  obtain⟨X,Y⟩:=E.args K (au G)
  have N0:=w.len 0 bd
  refine⟨_,t.cy (k:=0) bd,?_⟩
  refine(lj (aa D.ext) (t.ov (k:=0) bd V) (by rw[N0];exact E.args) (j:=ac) V).mono λW m4⟨j,A,s⟩=>⟨λj v=>s.same j (D.box j v).1,j,A,λ_=>⟨V,V,K,(C.ext (D.ext.trans s)).u G,?_⟩,λ_=>?_⟩
  ·have y:=D.fw s
   have z:To e m T m4:=Q.trans (dy.fe _ s t.new)
   refine(sR (t.ext s) w hn X Y).mono λW m5⟨j,u,A,B,h5⟩=>⟨y.da B,j,A,λv=>.no (z.trans B),λv=>?_⟩
   obtain⟨U,P,S,ad,hl,rfl⟩:=h5 (by simpa using v)
   exact ae V _ ⟨u,U,_,w.aW hl,z.trans B,y.to B,S⟩
  ·exact ae V _ ⟨T,ah,Z,w,Q.trans (dy.fe _ s t.new),D.fw s,t.ext s⟩
 ·refine dO (n:=x.args.length) (ab▸C.fL) (λ_ u=>J M u) (J.aC _) ?_
  rintro U M4 I4 μ4 ak s ad
  have y:=D.fw s
  have z:To e m T M4:=Q.trans (dy.fe _ s t.new)
  have u:=t.ext s
  refine⟨λF=>?_,λF=>⟨λaf=>?_,λ_=>.Mz z u w⟩⟩
  ·simp only[ao]at F
   obtain⟨K,G⟩:=ag (l:=x.args) (k:=U) V
   obtain⟨X,Y⟩:=E.args K (au G)
   refine(mw (aa y.ext) (U:Int)).mono λW m5⟨j,A,B⟩=>⟨λj v=>B.same j (y.box j v).1,j,A,λ_=>⟨V,V,K,(C.ext (y.ext.trans B)).u G,?_⟩,λ_=>ad V _ (s.trans B)⟩
   refine(qC (u.ext B) w hn X Y).mono λW m6⟨j,A,P⟩=>⟨λj v=>P.same j (B.lt (y.box j v).1),j,A,λ_=>.no (z.trans (dy.fe _ (B.trans P) u.new)),λ_=>ad V _ ((s.trans B).trans P)⟩
  ·simp only[ao]at af
   have P:=E.bV
   have v:=w.len 5 bd
   have W:=u.len (k:=5) bd
   have A:cK (x.bV -1)=x.bV -1:=aP V V
   obtain⟨G,B⟩:=ag (l:=Z 5) (k:=(x.bV -1).toNat) V
   obtain⟨K,S,j⟩:=u.put (k:=5) (i:=(x.bV -1).toNat) bd V (-1)
   rw[A]
   exact⟨_,u.cy (k:=5) bd,V,V,G,u.u (k:=5) bd V B,λ_=>.no z,λ_=>⟨_,u.cy (k:=5) bd,V,V,K,y.da j,.Mz (z.trans j) S (w.XN (by simp[v]))⟩⟩
end
end
end Go.Proofs.YtgnjacfobdjeeaaGreat
