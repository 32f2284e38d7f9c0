/- Part of a proof, joined by a program. -/
import Derived.Test.YtakpkjhmbbfniaaGreatU08
import Derived.Test.YtakpkjhmbbfniaaGreatU09
set_option linter.unusedVariables false
set_option linter.unusedSimpArgs false
set_option linter.defProp false
set_option linter.constructorNameAsVariable false
set_option maxHeartbeats 8000000
set_option maxRecDepth 100000
namespace Go.Proofs.YtakpkjhmbbfniaaGreat
open Go.Vc
section
variable{m:I}{d:O}{b:cL}
def Bo{Y ai ax S:O}(hd:bR m d b.aY)(ht:dx b.aY)(hf:nC m Y b.cB)(aJ:b.cB.length<=4)(h3:∀q∈b.cB,q.params.length<=3)
 {q:cY}(hc:eC m S q.cG)(hr:q.av<=2000){g:Nat}{c:Instr}{M R:O}(Z:au m M c.args)(hj:au m R c.dR):
 dq bY 20 [.agg #[O.v d,O.v Y],.agg #[O.v ai,O.v ax,vi q.aR,vi q.av,O.v S],vi g,.agg #[vi c.op,vi c.dst,vi c.bJ,vi c.bV,O.v M,O.v R]] m (gJ b q g c):=by
 apply nK
 simp -zeta only[aE,aD]
 intro B A G w
 have s1:B.size=m.size+1:=by simp[B]
 have s2:A.size=m.size+2:=by simp[A,s1]
 have s3:G.size=m.size+3:=by simp[G,s2]
 have s4:w.size=m.size+4:=by simp[w,s3]
 have z:J m w:=((((J.aC m).aM _).aM _).aM _).aM _
 have an:cD w A.size aB [.i g]:=(cD.push A _ _).ext (J.push _ _)
 have ap:cD w B.size iz [.s ai,.s ax,.i q.aR,.i q.av,.s S]:=(cD.push B _ _).ext ((J.push A _).aM _)
 have u:=Gh (v:=b) (p:=q) (k:=g) (i:=c) hr aJ h3
 have aF:=hc.len
 have aR:=Z.len
 have aS:=hj.len
 clear_value w
 clear_value G
 clear_value A
 clear_value B
 refine⟨λh=>bX (λe=>?_) z,λc0=>⟨λh=>bX (λe=>?_) z,λc1=>⟨λh=>bX (λe=>?_) z,λc2=>⟨λh=>bX (λe=>?_) z,λc3=>⟨λh=>bX (λe=>?_) z,λc4=>⟨λh=>bX (λe=>?_) z,λc5=>?_⟩⟩⟩⟩⟩⟩
 any_goals (have:=(u.1 e).1;simp at h;omega)
 simp at c0 c1 c2 c3 c4 c5
 have f1:0<=c.op/\c.op<=24/\c.op≠7/\c.op≠8/\c.op≠12/\c.op≠13:=V
 refine⟨λx=>J w x/\(0<=c.dst/\c.dst<q.av/\(c.dst=0\/kK c.op)/\0<=c.bV/\c.bV<=q.av/\(c.bV=0\/c.op=6)),?_,?_⟩
 ·refine⟨λh=>bX (λe=>?_) z,λI=>⟨λh=>bX (λe=>?_) z,λL=>?_⟩⟩
  ·have:=(u.1 e).2.1;simp at h;omega
  ·have:=(u.1 e).2.1;simp at h;omega
  simp at I L
  have tail:∀x,J w x->(c.dst=0\/kK c.op)->((decide (c.bV<(0:Int)))=true->∃f:Bool,Value.bool false=.bool f/\(f=true<->gJ b q g c)/\J m x)/\((decide (c.bV<(0:Int)))=false->
   ((decide (c.bV>q.av))=true->∃f:Bool,Value.bool false=.bool f/\(f=true<->gJ b q g c)/\J m x)/\((decide (c.bV>q.av))=false->
   ((c.bV !=(0:Int))=true->((c.op !=(6:Int))=true->∃f:Bool,Value.bool false=.bool f/\(f=true<->gJ b q g c)/\J m x)/\((c.op !=(6:Int))=false->J w x/\(0<=c.dst/\c.dst<q.av/\(c.dst=0\/kK c.op)/\0<=c.bV/\c.bV<=q.av/\(c.bV=0\/c.op=6))))/\
   ((c.bV !=(0:Int))=false->J w x/\(0<=c.dst/\c.dst<q.av/\(c.dst=0\/kK c.op)/\0<=c.bV/\c.bV<=q.av/\(c.bV=0\/c.op=6))))):=by
   intro x K Q
   have N:=z.trans K
   refine⟨λh=>bX (λe=>?_) N,λC=>⟨λh=>bX (λe=>?_) N,λH=>⟨λt=>⟨λh=>bX (λe=>?_) N,λP=>⟨K,?_⟩⟩,λt=>⟨K,?_⟩⟩⟩⟩
   ·have:=(u.1 e).2.1;simp at h;omega
   ·have:=(u.1 e).2.1;simp at h;omega
   ·have:=(u.1 e).2.1.2.2.2.2.2;simp at h t;omega
   ·simp at C H P;exact⟨I,L,Q,C,H,Or.inr P⟩
   ·simp at C H t;exact⟨I,L,Q,C,H,Or.inl t⟩
  refine⟨λh=>?_,λh=>tail w (J.aC _) (Or.inl (by simpa using h))⟩
  refine(xt c.op w ⟨V,V⟩).aG (J.aC _) bF λv x F K _=>⟨v,rfl,λy=>bX (λe=>?_) (z.trans K),λy=>tail x K (Or.inr (yb F y))⟩
  have:=(u.1 e).2.1.2.2.1
  simp at h
  rcases this with s|s
  ·exact h s
  ·exact nb F y s
 ·rintro x ⟨K,f2⟩
  refine eg (n:=c.args.length) (by have:=Z.gA;omega) (λaf T=>J w T/\∀I∈c.args.take af,0<=I/\I<q.av) ⟨K,E⟩ ?_
  rintro af L aQ μ hn ⟨y,ak⟩ aO
  have ab:=z.trans y
  refine dit (λh=>?_) λh=>?_
  ·obtain⟨I,t⟩:=ag (l:=c.args) (k:=af) V
   refine⟨V,V,I,by simpa using(Z.ext ab).u t,λs=>bX (λe=>?_) ab,λs=>⟨λC=>bX (λe=>?_) ab,λC=>aO V _ ⟨y,bA t ak ?_⟩⟩⟩
   ·have:=(u.1 e).2.2.1 I (ar t);simp at s;omega
   ·have:=(u.1 e).2.2.1 I (ar t);simp at C;omega
   ·simp at s C;omega
  ·have ay:∀I∈c.args,0<=I/\I<q.av:=cJ V ak
   intro m7 H
   have s8:H.size=L.size+1:=by simp[H,m7,az]
   have C:J L H:=((J.aC L).aM _).aj (ad _) _ _
   have ae:=ab.trans C
   have am:D H L.size 0=some (.func (.func 47) #[] #[vp A.size 0,vp B.size 0]):=
    (cD.aj (m:=m7) (o:=0) (r:=[.fn (.func 47) #[] #[vp A.size 0,vp B.size 0]]) (cD.push L _ _)).cy 0
   have aT:=y.size
   clear_value H
   have aL:∀Q,J H Q->∀t,dq bY 47 [vi t,vp A.size 0,vp B.size 0] Q ((g:Int)+1<=t/\t<=(q.cG.length:Int) -1):=λQ s t=>by
    rw[<-aF];exact vB (an.ext (y.trans (C.trans s))|>.cy 0) (ap.ext (y.trans (C.trans s))|>.cy 4)
   have jJ:(c.dR.length=0\/c.op=21)->aN bY 23 [O.v R,.func (.func 48) #[] #[vp L.size 0]] H λaP X=>
    dV [G.size,m.size] H X/\∃ah:Bool,aP=vb ah/\(ah=true->∃f:Bool,Value.bool false=.bool f/\(f=true<->gJ b q g c)/\J m X)/\
    (ah=false->∃N:Fn×Array Value×Array Value,D X L.size 0=some (.func N.1 N.2.1 N.2.2)/\
    aN bY 49 [.agg #[O.v d,O.v Y],.agg #[vi c.op,vi c.dst,vi c.bJ,vi c.bV,O.v M,O.v R],.func N.1 N.2.1 N.2.2] X λaj P=>
    dV [G.size,m.size] X P/\∃W:Bool,aj=vb W/\((!W)=true->∃f:Bool,Value.bool false=.bool f/\(f=true<->gJ b q g c)/\J m P)/\
    ((!W)=false->aN bY 50 [.agg #[O.v d,O.v Y],.agg #[vi c.op,vi c.dst,vi c.bJ,vi c.bV,O.v M,O.v R]] P λal U=>
    dV [G.size,m.size] P U/\∃aa:Int,∃ac:Int,al=.tuple #[vi aa,vi ac]/\
    ((decide ((M.len:Int)>=aa))=true->∃f:Bool,Value.bool (decide ((M.len:Int)<=ac))=.bool f/\(f=true<->gJ b q g c)/\J m U)/\
    ((decide ((M.len:Int)>=aa))=false->∃f:Bool,Value.bool false=.bool f/\(f=true<->gJ b q g c)/\J m U))):=by
    intro aG
    have hl:∀v∈[G.size,m.size],v<H.size:=bF
    refine(lI (hj.ext ae) 48 #[] #[vp L.size 0] bd (λt=>¬((g:Int)+1<=t/\t<=(S.len:Int) -1)) (λt _ Q s=>?_)).aG (J.aC _) hl ?_
    ·exact GU (an.ext (y.trans (C.trans s))|>.cy 0) (ap.ext (y.trans (C.trans s))|>.cy 4) (s.D am)
    intro v Q F s _
    have P:=ae.trans s
    refine⟨v,rfl,λaC=>bX (λe=>?_) P,λaA=>?_⟩
    ·obtain⟨t,ac,f⟩:=F.1 aC
     have:=(u.1 e).2.2.2.2.1 t ac
     exact f V
    have aH:∀t∈c.dR,(g:Int)+1<=t/\t<=(q.cG.length:Int) -1:=λt ac=>by
     rcases gE ((g:Int)+1<=t/\t<=(S.len:Int) -1)with h|h
     ·omega
     ·exact absurd (F.2 ⟨t,ac,h⟩) (by simp[aA])
    refine⟨(.func 47,#[],#[vp A.size 0,vp B.size 0]),s.D am,?_⟩
    have aq:∀v∈[G.size,m.size],v<Q.size:=λv F=>s.lt (hl v F)
    refine(EM (bR.ext P hd) ht (nC.ext P hf) (Z.ext P) (hj.ext P) 47 #[] #[vp A.size 0,vp B.size 0] bd (λt=>(g:Int)+1<=t/\t<=(q.cG.length:Int) -1) (λT f=>by simpa using aL T (s.trans f) c.bJ)).aG (J.aC _) aq ?_
    intro b2 aM al N _
    have aa:=P.trans N
    refine⟨b2,rfl,λh=>bX (λe=>nb al h (u.1 e).2.2.2.2.2.1) aa,λh=>?_⟩
    have av:=yb al h
    have aI:∀v∈[G.size,m.size],v<aM.size:=λv F=>N.lt (aq v F)
    refine(Iz (bR.ext aa hd) ht (nC.ext aa hf) (a:=M) (j:=R) av).aG (J.aC _) aI ?_
    rintro _ aU ⟨lo,hi,rfl,T,aj⟩
    have aw:=aa.trans aj
    have aK:∀W U,fL b c W U->W=lo/\U=hi:=λW U f=>by
     unfold fL at T f;repeat' (split at T);all_goals simp_all
     all_goals (obtain⟨q1,e1,e2,e3⟩:=T;simp_all)
    refine⟨aj,lo,hi,rfl,λh=>fB ?_ aw,λh=>bX (λe=>?_) aw⟩
    ·rw[u]
     simp only[ao]at h⊢
     refine⟨λf=>⟨f1,f2,ay,aG,aH,av,λW U h2=>?_⟩,λf=>?_⟩
     ·obtain⟨rfl,rfl⟩:=aK W U h2;omega
     ·have:=f.2.2.2.2.2.2 lo hi T;omega
    ·have:=(u.1 e).2.2.2.2.2.2 lo hi T
     simp at h;omega
   refine⟨λs=>⟨λN=>bX (λe=>?_) ae,λN=>jJ (Or.inr (by simpa using N))⟩,λs=>jJ (Or.inl (by simp at s;omega))⟩
   have:=(u.1 e).2.2.2.1
   simp at s N;omega
def Bl{aj:O}(v:eX m d aj b):dq bY 12 [.agg #[O.v d,O.v aj]] m (lO b):=by
 apply vU;simp -zeta only[aE,aD];intro G;have ae:J m G:=(J.aC m).aM _;have s1:G.size=m.size+1:=by simp[G]
 clear_value G;refine(Dd (v.ext ae)).aG (J.aC _) bF ?_;rintro _ N ⟨d',al,ak,rfl,Z,ap,I⟩;refine⟨I,d',al,ak,rfl,?_⟩;intro m3 t;have s4:t.size=N.size+1:=by simp[t,m3,az]
 have X:J N t:=((J.aC N).aM _).aj (ad _) _ _;have ah:J m t:=(ae.trans I).trans X;have:=I.size;have aL:=v.cB.len;have aM:=v.cB.gA;clear_value t;refine⟨λhn=>bX (λc=>nb Z hn ⟨c.pC,λq x=>(c.dh q x).cV⟩) ah,λhy=>?_⟩;obtain⟨D,ao⟩:=yb Z hy;obtain⟨rfl,hf⟩:=ap (by simpa using hy);refine eg (n:=b.cB.length) V (λR z=>J t z/\∀q∈b.cB.take R,EA b q) ⟨J.aC _,E⟩ ?_;rintro R P aB μ hn ⟨A,Y⟩ aA
 have L:=ah.trans A;refine dit (λaJ=>?_) λaH=>?_
 ·obtain⟨q,x⟩:=ag (l:=b.cB) (k:=R) V;obtain⟨S,ai,T,ha,hl,w,g0,g1,g2,g3,g4⟩:=(v.ext L).cB.u x;refine⟨V,V,S,by simpa using g0,ai,by simpa using g1,_,by simpa using g2,_,by simpa using g3,T,by simpa using g4,?_⟩;intro m6 u;have s7:u.size=P.size+1:=by simp[u,m6,az]
  have r:J P u:=((J.aC P).aM _).aj (ad _) _ _;have s:=L.trans r;have aC:=ha.len;have aF:=w.len;have aG:=w.gA;have o:=ar x;clear_value u;refine⟨λe=>bX (λc=>?_) s,λU=>⟨λe=>bX (λc=>?_) s,λe2=>⟨λe=>bX (λc=>?_) s,λe3=>⟨λe=>bX (λc=>?_) s,λe4=>?_⟩⟩⟩⟩
  ·have:=(c.dh q o).av;simp at e;split at e<;>omega
  ·have:=(c.dh q o).av;simp at e;omega
  ·have:=(c.dh q o).len;simp at e;omega
  ·have:=(c.dh q o).len;simp at e;omega
  have ac:(q.params.length:Int)<=q.av/\1<=q.av/\q.av<=2000:=by
   simp at U e2;split at U<;>omega
  have an:1<=q.cG.length/\q.cG.length<=2000:=by simp at e3 e4;omega
  obtain⟨F,K⟩:=ag (l:=q.cG) (k:=q.cG.length -1) V;obtain⟨a0,j0,_,_,M,_⟩:=(eC.ext r w).u K;refine⟨λz=>J u z/\(F.op=23\/F.op=24),?_,?_⟩
  ·have e:cO ((T.len:Int) -1)=((q.cG.length -1:Nat):Int):=by rw[aP V V];omega
   rw[e];refine⟨V,V,F.op,by simpa using M,λf=>⟨λg=>bX (λc=>?_) s,λg=>⟨J.aC _,Or.inr (by simpa using g)⟩⟩,λf=>⟨J.aC _,Or.inl (by simpa using f)⟩⟩;have:=(c.dh q o).JV F K;simp at f g;omega
  ·rintro m8 ⟨h8,am⟩;refine eg (n:=q.cG.length) V (λy z=>J u z/\∀(j:Nat)(g:Instr),j<y->q.cG[j]? =some g->gJ b q j g) ⟨h8,λj g C=>V⟩ ?_;rintro y Q I2 μ2 hk ⟨h,ab⟩ ay;have aq:=s.trans h;refine dit (λaK=>?_) λaI=>?_
   ·obtain⟨g,f⟩:=ag (l:=q.cG) (k:=y) V;obtain⟨xa,xj,au,av,M,k1,k2,k3,k4,k5⟩:=(eC.ext (r.trans h) w).u f;refine⟨V,V,_,by simpa using M,_,by simpa using k1,_,by simpa using k2,_,by simpa using k3,xa,by simpa using k4,xj,by simpa using k5,?_⟩;intro aw H;have aO:H.size=Q.size+1:=by simp[H,aw,az]
    have p:J Q H:=((J.aC Q).aM _).aj (ad _) _ _;have af:=aq.trans p;have q1:=h.size;have q2:=A.size;clear_value H;refine(Bo (ai:=S) (ax:=ai) (bR.ext af v.aY) D.types (nC.ext (X.trans (A.trans (r.trans (h.trans p)))) hf) D.len.2 (λW B=>(D.dh W B).1) (eC.ext (r.trans (h.trans p)) w) ac.2.2 (g:=y) (c:=g) (au.ext p) (av.ext p)).aG (J.aC _) bF ?_;intro b' aN aa W _;refine⟨b',rfl,λe=>bX (λc=>nb aa e ((c.dh q o).dh y g f)) (af.trans W),λe=>ay V _ ⟨h.trans (p.trans W),λj i' C B=>?_⟩⟩;rcases Nat.lt_succ_iff_lt_or_eq.1 C with C|rfl
    ·exact ab j i' C B
    ·rw[f]at B;simp at B;subst B;exact yb aa e
   ·refine aA V _ ⟨A.trans (r.trans h),bA x Y ⟨ao q o,ac,an,λj g f=>ab j g (by have:=ax f;omega) f,λg f=>?_⟩⟩
    rw[K]at f;simp at f;subst f;exact am
 ·exact je ⟨D,cJ V Y⟩ L
end
section
variable{m:I}{s:O}{k:Nat}{γ σ:Type}
def Mp(m:I)(a:List Ce)(c:bL):Prop:=∃f,a=[.i c.aQ,.i c.lA,.s f]/\au m f c.aI
def HL(m:I)(a:List Ce)(f:a9):Prop:=∃r o h,a=[.i f.eU,.i f.pc,.i f.dst,.s r,.s o,.s h]/\au m r f.av/\au m o f.aV/\au m h f.be
abbrev cW(m:I)(s:O)(l:List bL):Prop:=dT m 3 (Mp m) s l
abbrev jy(m:I)(s:O)(l:List a9):Prop:=dT m 6 (HL m) s l
def Mp.ext{m b:I}(g:J m b)(a:List Ce)(c:bL):Mp m a c->Mp b a c:=λ⟨f,d,e⟩=>⟨f,d,e.ext g⟩
def cW.ext{m b:I}(a:J m b){s:O}{l:List bL}(h:cW m s l):cW b s l:=h.mono a (Mp.ext a)
def HL.ext{m d:I}(a:J m d)(b:List Ce)(c:a9):HL m b c->HL d b c:=λ⟨r,o,h,e,f,g,i⟩=>⟨r,o,h,e,f.ext a,g.ext a,i.ext a⟩
def jy.ext{m b:I}(a:J m b){s:O}{l:List a9}(h:jy m s l):jy b s l:=h.mono a (HL.ext a)
def cW.u{l:List bL}(h:cW m s l){x:bL}(c:l[k]? =some x):
 ∃f,au m f x.aI/\D m s.F (s.off+k*3)=some (vi x.aQ)/\D m s.F (s.off+k*3+1)=some (vi x.lA)/\D m s.F (s.off+k*3+2)=some (O.v f):=by
 obtain⟨d,⟨f,rfl,b⟩,a⟩:=h.jA k x c
 exact⟨f,b,a 0 (.i x.aQ) rfl,a 1 (.i x.lA) rfl,a 2 (.s f) rfl⟩
def jy.u{l:List a9}(h:jy m s l){x:a9}(c:l[k]? =some x):
 ∃r o e,au m r x.av/\au m o x.aV/\au m e x.be/\D m s.F (s.off+k*6)=some (vi x.eU)/\D m s.F (s.off+k*6+1)=some (vi x.pc)/\D m s.F (s.off+k*6+2)=some (vi x.dst)/\
  D m s.F (s.off+k*6+3)=some (O.v r)/\D m s.F (s.off+k*6+4)=some (O.v o)/\D m s.F (s.off+k*6+5)=some (O.v e):=by
 obtain⟨g,⟨r,o,e,rfl,f,d,b⟩,a⟩:=h.jA k x c
 exact⟨r,o,e,f,d,b,a 0 (.i x.eU) rfl,a 1 (.i x.pc) rfl,a 2 (.i x.dst) rfl,a 3 (.s r) rfl,a 4 (.s o) rfl,a 5 (.s e) rfl⟩
def _root_.Go.Vc.dT.EF{l:List Int}(h:dT m 1 Ru s l){i:Int}(a:0<=i)(b:i<l.length):D m s.F (s.off+i.toNat*1)=some (vi (u l i)):=au.u h (qR a b)
structure RV(m:I)(mb o:Nat)(d p bq hp fr:O)(im:cL)(s:St):Prop where
 fP:eX m d p im
 aY:D m mb 0=some (O.v d)
 cB:D m mb 1=some (O.v p)
 cR:D m mb o=some (vi s.cR)
 value:D m mb (o+1)=some (vi s.value)
 bG:D m mb (o+2)=some (vi s.bG)
 dQ:D m mb (o+3)=some (vi s.dQ)
 Xe:D m mb (o+4)=some (O.v bq)
 C3:D m mb (o+5)=some (O.v hp)
 OU:D m mb (o+6)=some (O.v fr)
 bq:au m bq s.bq
 heap:cW m hp s.heap
 ak:jy m fr s.ak
def RV.ext{m f:I}{g o:Nat}{d p bq c b:O}{e:cL}{s:St}(h:RV m g o d p bq c b e s)(a:J m f):RV f g o d p bq c b e s:=
 ⟨h.fP.ext a,a.D h.aY,a.D h.cB,a.D h.cR,a.D h.value,a.D h.bG,a.D h.dQ,a.D h.Xe,a.D h.C3,a.D h.OU,h.bq.ext a,cW.ext a h.heap,jy.ext a h.ak⟩
def Ua(P:Nat->Prop):∀(n:Nat),P n->∃k,P k/\∀j,P j->k<=j:=by
 intro n;induction n using Nat.strongRecOn with
 |_ n e=>
  intro b;rcases gE (∃j,j<n/\P j)with⟨j,a,d⟩|c
  ·exact e j a d
  ·exact⟨n,b,λj a=>dG λh=>c ⟨j,V,a⟩⟩
def Pm{q:σ}{l:(σ->I->Prop)->(σ->I->Nat)->σ->I->Prop}(J:γ->σ->I->Prop)(ν:γ->Nat)(n:γ)(t:J n q m)
 (r:∀(g:γ)(s:σ)(b:I)(a:σ->I->Prop)(μ:σ->I->Nat),J g s b->(∀c e d,J c e d->ν c<ν g->a e d/\μ e d<μ s b)->l a μ s b):
 ∃(a:σ->I->Prop)(μ:σ->I->Nat),a q m/\∀s b,a s b->l a μ s b:=by
 classical
 let a:σ->I->Prop:=λs m=>∃g,J g s m
 have i:∀s m,a s m->∃k,(∃g,J g s m/\ν g=k)/\∀p,(∃g,J g s m/\ν g=p)->k<=p:=λs m⟨g,j⟩=>Ua _ (ν g) ⟨g,j,rfl⟩
 let μ:σ->I->Nat:=λs m=>if f:a s m then Classical.choose (i s m f)else 0
 refine⟨a,μ,⟨n,t⟩,λs b f=>?_⟩
 obtain⟨g,j,v⟩:=(eN (i s b f)).1
 refine r g s b a μ j λc e d h u=>⟨⟨c,h⟩,?_⟩
 have o:a e d:=⟨c,h⟩
 simp only[μ,P2 f,P2 o]
 exact me ((eN (i e d o)).2 _ ⟨c,h,rfl⟩) (v▸u)
def Pn{τ:Type}{j:σ}{k:τ}{i:(σ->τ->I->Prop)->(σ->τ->I->Nat)->σ->τ->I->Prop}(J:γ->σ->τ->I->Prop)(ν:γ->Nat)(l:γ)(o:J l j k m)
 (n:∀(g:γ)(s:σ)(t:τ)(b:I)(a:σ->τ->I->Prop)(μ:σ->τ->I->Nat),J g s t b->(∀h e f d,J h e f d->ν h<ν g->a e f d/\μ e f d<μ s t b)->i a μ s t b):
 ∃(a:σ->τ->I->Prop)(μ:σ->τ->I->Nat),a j k m/\∀s t b,a s t b->i a μ s t b:=by
 obtain⟨a,μ,p,q⟩:=Pm (σ:=σ×τ) (q:=(j,k)) (l:=λa μ c b=>i (λs t=>a (s,t)) (λs t=>μ (s,t)) c.1 c.2 b) (λg c m=>J g c.1 c.2 m) ν l o (λg c b a μ r u=>n g c.1 c.2 b (λs t=>a (s,t)) (λs t=>μ (s,t)) r λh e f d=>u h (e,f) d)
 exact⟨λs t=>a (s,t),λs t=>μ (s,t),p,λs t=>q (s,t)⟩
end
section
variable{m c:I}{s d p a j t o e:O}{l r:List Int}{f:Nat}{g:List Value}{K:Value->I->Prop}{b:cL}{x:Instr}
def _root_.Go.Vc.dT.Ol(h:dT m 1 Ru s l):fU m s.F s.off (l.map Ce.i):=λi c a=>by
 rw[bW]at a;obtain⟨x,b,rfl⟩:=Option.map_eq_some_iff.1 a;have:=au.u h b;rw[dP]at this;exact this
def oD(f:Nat)(g:List Value)(m:I)(l:List Int):Prop:=aN bY f g m λv a=>∃s,v=O.v s/\iZ m a aB 1 s (l.map Ce.i)/\J m a
def oD.then(h:oD f g m l)(e:l.length<=1000000000)(c:∀s a,iZ m a aB 1 s (l.map Ce.i)->au a s l->J m a->K (O.v s) a):aN bY f g m K:=
 h.mono λ_ _⟨s,b,a,d⟩=>b▸c s _ a (au.iC a V) d
def oD.aG{b:List Nat}(h:oD f g m l)(k:l.length<=1000000000)(e:∀a∈b,a<m.size)(j:∀s a,iZ m a aB 1 s (l.map Ce.i)->au a s l->J m a->K (O.v s) a):aN bY f g m λv a=>dV b m a/\K v a:=
 h.mono λ_ _⟨s,i,c,d⟩=>⟨d.de e,i▸j s _ c (au.iC c V) d⟩
def dy(w:Int)(m:I):dq bY 59 [vi w] m (1000<=w):=by
 apply ym;exact fB E (J.aC _)
def gS{a:O}{h:List bL}(j:cW m a h){w:Int}(F: -9223372036854775808<=w/\w<=9223372036854775807):dq bY 85 [O.v a,vi w] m (iX h w):=by
 apply DO;have C:=j.len;have D:=j.gA;have r:cO ((a.len:Int) -1)=(a.len:Int) -1:=aP V V;rw[r];have A:cO (w -1000)=w -1000\/(w<1000/\¬(0<=cO (w -1000)/\cO (w -1000)<=(a.len:Int) -1))\/(w<1000/\cO (w -1000)=w -1000+18446744073709551616):=by
  rcases gE (-9223372036854775808<=w -1000)with b|b
  ·exact Or.inl (aP b V)
  ·refine Or.inr (Or.inr ⟨V,?_⟩);simp only[cO,IntKind.wrap,IntKind.signed,IntKind.bits];simp;omega
 refine(aU _ _ _ _).then λp G i b=>⟨p,rfl,λy=>?_,λx=>?_⟩
 ·refine(dy _ _).then λq H o g=>⟨q,rfl,λv=>?_,λu=>?_⟩
  ·have n:=o.1 v;have s:cO (w -1000)=w -1000:=aP V V;rw[s]at i⊢;have E:=i.1 y;obtain⟨e,c⟩:=ag (l:=h) (k:=(w -1000).toNat) V;obtain⟨f,B,t,_⟩:=(cW.ext (b.trans g) j).u c;refine⟨V,V,e.aQ,t,fB ?_ (b.trans g)⟩;simp only[mz,ao];refine⟨λa=>⟨n,e,c,a⟩,λ⟨_,z,d,a⟩=>?_⟩;unfold ix at d;rw[c]at d;simp at d;subst d;exact a
  ·exact bX (λd=>fb o u d.1) (b.trans g)
 ·refine bX (λ⟨n,e,c,_⟩=>fb i x ?_) b;have:=ax c;unfold ix at this;rw[aP V V];omega
def Jn(a:Int)(m:I):dq bY 109 [vi a] m (uO a):=by
 apply DN;refine⟨λh=>je ?_ (J.aC _),λh=>⟨λb=>je ?_ (J.aC _),λb=>fB ?_ (J.aC _)⟩⟩<;>simp[uO]at* <;>omega
def QK{q:cY}(a:b.cB[x.bJ.toNat]? =some q)(k:Nat):mK b x k=true<->(k:Int)∈q.cV:=by
 simp[mK,dF,a,List.any_eq_true]
def Ba(b:cL)(x:Instr):Prop:=(x.op=9\/x.op=24)->0<=x.bJ/\∃q,b.cB[x.bJ.toNat]? =some q
def gJ.call{p:cY}{k:Nat}(h:gJ b p k x):Ba b x:=λe=>by
 have a:=h.op;unfold lD at a;rw[ae V,ae V,ae V,ae V,aq e]at a;obtain⟨q,c,d,_⟩:=a;exact⟨c,q,d⟩
def pT(h:eX m d p b)(A:Ba b x)(a j:O)(k:Nat):
 dq bY 134 [.agg #[O.v d,O.v p],.agg #[vi x.op,vi x.dst,vi x.bJ,vi x.bV,O.v a,O.v j],vi k] m ((x.op=9\/x.op=24)/\mK b x k=true):=by
 apply Ca
 simp -zeta only[aE,aD]
 intro o c
 have n:J m c:=((J.aC m).aM _).aM _
 have B:∀f∈[o.size,m.size],f<c.size:=by simp[c,o];omega
 have P:=h.cB.len
 clear_value c
 have q:∀e:x.op=9\/x.op=24,(0:Int)<=x.bJ/\x.bJ<(p.len:Int)/\∃u:O,D c p.F (p.off+Int.toNat x.bJ*5+1)=some (O.v u)/\
  aN bY 142 [O.v u,vi k] c λr s=>dV [o.size,m.size] c s/\∃t:Bool,r=vb t/\∃f:Bool,vb t=.bool f/\(f=true<->((x.op=9\/x.op=24)/\mK b x k=true))/\J m s:=λe=>by
  obtain⟨w,R,l⟩:=A e
  obtain⟨F,E,G,M,C,N,H,v,I,K,L⟩:=(h.ext n).cB.u l
  have:=ax l
  refine⟨w,V,E,v,(cU C _).aG (J.aC _) B λf Q z y _=>⟨f,rfl,fB ?_ (n.trans y)⟩⟩
  rw[z,QK l]
  exact⟨λh=>⟨e,h⟩,λh=>h.2⟩
 refine⟨λi=>q (Or.inl (by simpa using i)),λi=>⟨λg=>q (Or.inr (by simpa using g)),λg=>bX (λ⟨e,_⟩=>?_) n⟩⟩
 simp at i g;omega
def Fh(a:Int)(m:I):dq bY 133 [vi a] m (a=6\/a=9\/a=10\/a=11):=by
 apply qb;refine⟨λh=>je ?_ (J.aC _),λh=>⟨λb=>je ?_ (J.aC _),λb=>⟨λc=>je ?_ (J.aC _),λc=>fB ?_ (J.aC _)⟩⟩⟩<;>simp at* <;>omega
def pJ(b:cL)(x:Instr)(n:Nat):List Int:=iV b x 0 (x.args.take n)
def AX(b:cL)(x:Instr):∀(l r:List Int)(k:Nat),iV b x k (l++r)=iV b x k l++iV b x (k+l.length) r
 |[],r,k=>by simp[iV]
 |a::l,r,k=>by
  have:=AX b x l r (k+1);simp only[cN,iV,this,ba];have e:k+(l.length+1)=k+1+l.length:=V;rw[e];split<;>simp
def Cz(b:cL)(x:Instr):∀(l:List Int)(k:Nat),(iV b x k l).length<=l.length
 |[],k=>ad _
 |a::l,k=>by
  have:=Cz b x l (k+1);simp only[iV];split<;>simp<;>omega
def PR(b:cL)(x:Instr):(dp b x).length<=x.args.length:=by
 unfold dp;split
 ·exact ad _
 split
 ·simp;omega
 split
 ·exact Cz _ _ _ _
 ·simp
def J.By{a b:I}(f:J c a)(g:J c b){l:List Nat}(d:∀x∈l,x<c.size):dV l a b:=λx e=>by rw[f.same x (d x e),g.same x (d x e)]
def rh{v:Int}{K:O->I->Prop}(b:iZ c m aB 1 s (l.map Ce.i))(g:J c m)(n:l.length<1000000000)
 (f:∀r a,iZ c a aB 1 r ((l++[v]).map Ce.i)->J c a->K r a):
 iP (m.push (.cells (br [.i v]) aB)) aB [.i (0:Int)] 8 s (O.mk m.size 0 1 1) K:=by
 have o:s.len=l.length:=by have:=b.len;simp at this;omega
 refine iZ.append (zs:=[.i 0]) (c:=[.i v]) (b.ext (J.push _ _)) (g.aM _) rfl (cD.push m _ _).jA bF λr a d e h i j k=>?_
 exact f r a (by simpa using d) e
def Hz(ac:eX m d p b)(hc:Ba b x)(L:au m a x.args)(am:x.args.length<=1000000)(ad:(x.op=16\/x.op=17)->1<=x.args.length):
 oD 111 [.agg #[O.v d,O.v p],.agg #[vi x.op,vi x.dst,vi x.bJ,vi x.bV,O.v a,O.v j]] m (dp b x):=by
 apply Co
 simp -zeta only[aE,aD]
 intro C c S
 have B:J m c:=((J.aC m).aM _).aM _
 have s2:c.size=m.size+2:=by simp[c,C]
 have h3:J c S:=(J.aC c).aM _
 have u:iZ c S aB 1 (.mk c.size 0 0 0) []:=iZ.new (J.aC c) aB 1 [] 0 E
 have s1:C.size=m.size+1:=by simp[C]
 have aj:=L.len
 have w:∀v∈[C.size,m.size],v<c.size:=λv t=>by simp at t;omega
 clear_value S
 clear_value c
 have M:∀{o s l},iZ c o aB 1 s l->iZ m o aB 1 s l:=λu=>u.cF B.size
 refine⟨λab o=>J c o/\iZ c o aB 1 (.mk c.size 0 0 0) []/\(ab=true<->(x.op=15\/x.op=6\/x.op=10\/x.op=11\/x.op=18\/x.op=23\/x.op=9\/x.op=24)),?_,?_⟩
 ·refine(Fh _ _).aG h3 w λv F t g i=>⟨v,rfl,λP=>⟨i,u.ext g,by have:=t.1 P;simp;omega⟩,λN=>?_⟩
  have f:=fb t N
  refine⟨λe=>⟨i,u.ext g,by simp at e;simp;omega⟩,λK=>⟨λe=>⟨i,u.ext g,by simp at e;simp;omega⟩,λq=>⟨λe=>⟨i,u.ext g,by simp at e;simp;omega⟩,λA=>⟨i,u.ext g,by simp at K q A;simp;omega⟩⟩⟩⟩
 ·rintro ab F ⟨g,Q,Y⟩
  refine⟨λah=>?_,λaf=>?_⟩
  ·have hT:=Y.1 ah
   refine dt (n:=x.args.length) V (λf s o=>J c o/\iZ c o aB 1 s ((if x.op=9\/x.op=24 then pJ b x f else x.args.take f).map Ce.i)) ⟨g,by simpa[pJ,iV]using Q⟩ ?_
   rintro f s m5 ai μ hk ⟨T,R⟩ aa
   have Z:=B.trans T
   refine dit (λal=>?_) λak=>?_
   ·obtain⟨y,h⟩:=ag (l:=x.args) (k:=f) V
    have X:pJ b x (f+1)=pJ b x f++iV b x f [y]:=by
     unfold pJ;rw[bK h,AX];simp;congr 2;omega
    refine(pT (ac.ext Z) hc a j f).aG T w λv m6 t U H=>⟨v,rfl,λP=>?_,λN=>?_⟩
    ·have I:=nb t P
     refine⟨V,V,y,by simpa using(L.ext (B.trans H)).u h,?_⟩
     intro m7
     have W:(if x.op=9\/x.op=24 then pJ b x f else x.args.take f).length<=f:=by
      split
      ·refine bI (Cz _ _ _ _) ?_;simp;omega
      ·simp;omega
     refine rh (R.ext U) H V λr m8 z G=>?_
     refine⟨J.By (H.aM _) G w,aa V _ _ ⟨G,?_⟩⟩
     by_cases e:x.op=9\/x.op=24
     ·rw[aq e]at z⊢
      rw[X]
      have:iV b x f [y]=[y]:=by
       simp only[iV];rw[ae (λw=>I ⟨e,w⟩)]
      rw[this];exact z
     ·rw[ae e]at z⊢
      rw[bK h];exact z
    ·have I:=yb t N
     refine aa V _ _ ⟨H,?_⟩
     have W:=R.ext U
     rw[aq I.1]at W⊢
     rw[X]
     have:iV b x f [y]=[]:=by
      simp only[iV];rw[aq I.2]
     rw[this,gV];exact W
   ·refine⟨s,rfl,?_,Z⟩
    have q:dp b x=if x.op=9\/x.op=24 then pJ b x f else x.args.take f:=by
     have A:x.args.take f=x.args:=cE V;unfold dp pJ;rw[A];by_cases e:x.op=9\/x.op=24
     ·rw[ae V,ae V,aq e,aq e]
     ·rw[aq V,ae e]
    rw[q];exact M R
  ·have hT:¬(x.op=15\/x.op=6\/x.op=10\/x.op=11\/x.op=18\/x.op=23\/x.op=9\/x.op=24):=λe=>by have:=Y.2 e;rw[af]at this;simp at this
   have i:=B.trans g
   have kv:∀e:x.op=16\/x.op=17,(0:Int)<=(0:Int)/\(0:Int)<(a.len:Int)/\∃H:Int,D F a.F (a.off+Int.toNat (0:Int)*1)=some (vi H)/\
    iP (F.push (.cells (br [.i H]) 3)) 3 [.i (0:Int)] 8 (O.mk c.size 0 0 0) (O.mk F.size 0 1 1) λN f=>dV [C.size,m.size] (F.push (.cells (br [.i H]) 3)) f/\∃s,O.v N=O.v s/\iZ m f aB 1 s ((dp b x).map Ce.i)/\J m f:=λe=>by
    have P:=ad e
    obtain⟨y,h⟩:=ag (l:=x.args) (k:=0) V
    refine⟨V,V,y,by simpa using(L.ext i).u h,rh (l:=[]) Q g E λr m8 z G=>⟨J.By (g.aM _) G w,r,rfl,?_,B.trans G⟩⟩
    have q:dp b x=[y]:=by
     unfold dp;rw[ae V,aq e];cases I:x.args with
     |nil=>rw[I]at h;simp at h
     |cons R l=>rw[I]at h;simp at h;subst h;rfl
    rw[q];exact M z
   refine⟨λe=>kv (Or.inl (by simpa using e)),λK=>⟨λe=>kv (Or.inr (by simpa using e)),λq=>⟨_,rfl,?_,i⟩⟩⟩
   have A:dp b x=[]:=by
    simp at K q;unfold dp;rw[ae V,ae V,ae V]
   rw[A];exact M Q
def fG(b:au m s l)(k:l.length<=1000000000):oD 72 [O.v s] m l:=by
 apply lX;intro c;have a:J m c:=(J.aC m).aM _;have f:iZ m c aB 1 (.mk m.size 0 0 0) []:=iZ.new (J.aC m) aB 1 [] 0 E;have e:=b.len;refine iZ.append (zs:=[.i 0]) (c:=l.map Ce.i) f a (by simp[e]) (b.ext a).Ol bF λr n a d g h i j=>⟨r,rfl,by simpa using a,d⟩
def Jj(g:au m s l)(b:au m t r)(p:l.length+r.length<=1000000000):oD 116 [O.v s,O.v t] m (l++r):=by
 apply sQ;refine(fG g V).then V λq w c d a=>⟨q,rfl,?_⟩;have h:=b.len;have o:=d.len;refine iZ.append (zs:=[.i 0]) (c:=r.map Ce.i) c a (by simp[h]) (b.ext a).Ol V λu v e f i j k n=>⟨u,rfl,by simpa using e,f⟩
def kN(c:au m s l):dq bY 83 [O.v s] m (Rw l):=by
 apply BE;have g:=c.len;refine eg (n:=l.length) (g▸c.gA) (λe a=>J m a/\∀y∈l.take e,y=0) ⟨J.aC _,E⟩ ?_;rintro e p I μ o ⟨a,f⟩ j
 refine⟨λh=>?_,λh=>je (cJ (by simp at h;omega) f) a⟩;simp only[ao]at h;obtain⟨x,d⟩:=ag (l:=l) (k:=e) V;refine⟨V,V,x,by simpa using a.D (c.u d),λb=>bX (λi=>?_) a,λb=>j V _ ⟨a,bA d f (by simpa using b)⟩⟩;have:=i x (ar d);simp at b;omega
def yz(c:au m s l):dq bY 135 [O.v s] m (∀o∈l,0<=o):=by
 apply uq;have g:=c.len;refine eg (n:=l.length) (g▸c.gA) (λe a=>J m a/\∀y∈l.take e,0<=y) ⟨J.aC _,E⟩ ?_;rintro e q I μ p ⟨a,f⟩ j
 refine⟨λh=>?_,λh=>je (cJ (by simp at h;omega) f) a⟩;simp only[ao]at h;obtain⟨x,d⟩:=ag (l:=l) (k:=e) V;refine⟨V,V,x,by simpa using a.D (c.u d),λb=>bX (λi=>?_) a,λb=>j V _ ⟨a,bA d f (by simpa using b)⟩⟩;have:=i x (ar d);simp at b;omega
def oQ(f:au m s l)(j:au m t r):dq bY 171 [O.v s,O.v t] m (l=r):=by
 apply Ao;have o:=f.len;have u:=j.len;refine⟨λh=>bX (λe=>by subst e;simp at h;omega) (J.aC _),λh=>?_⟩;simp at h;refine eg (n:=l.length) (o▸f.gA) (λd a=>J m a/\l.take d=r.take d) ⟨J.aC _,E⟩ ?_;rintro d v I μ q ⟨b,i⟩ p
 refine⟨λh=>?_,λh=>je (by simp at h;rwa[cE V,cE V]at i) b⟩;simp only[ao]at h;obtain⟨x,g⟩:=ag (l:=l) (k:=d) V;obtain⟨y,c⟩:=ag (l:=r) (k:=d) V;refine⟨V,V,x,by simpa using b.D (f.u g),V,V,y,by simpa using b.D (j.u c),λa=>bX (λe=>?_) b,λa=>p V _ ⟨b,?_⟩⟩
 ·subst e;rw[g]at c;simp at c;simp at a;exact a c
 ·rw[bK g,bK c,i];simp at a;rw[a]
abbrev fv(f:a9)(r o h:O):Value:=.agg #[vi f.eU,vi f.pc,vi f.dst,O.v r,O.v o,O.v h]
abbrev xv(x:Instr)(a j:O):Value:=.agg #[vi x.op,vi x.dst,vi x.bJ,vi x.bV,O.v a,O.v j]
def BD{f:a9}{r:O}(w:au m r f.av)(g:au m a x.args)(G:∀y∈x.args,0<=y/\y<f.av.length):
 dq bY 136 [fv f r o e,xv x a j] m (∀y∈x.args,u f.av y<1000):=by
 apply wc
 simp -zeta only[aE,aD]
 intro B b
 have A:J m b:=((J.aC m).aM _).aM _
 have H:∀d∈[B.size,m.size],d<b.size:=by simp[b,B];omega
 have C:=g.len
 have P:=w.len
 clear_value b
 refine eg (n:=x.args.length) (C▸g.gA) (λq c=>J b c/\∀y∈x.args.take q,u f.av y<1000) ⟨J.aC _,E⟩ ?_
 rintro q Q L μ N ⟨z,v⟩ K
 have i:=A.trans z
 refine⟨λh=>?_,λh=>je (cJ (by simp at h;omega) v) i⟩
 simp only[ao]at h
 obtain⟨y,c⟩:=ag (l:=x.args) (k:=q) V
 have p:=G y (ar c)
 refine⟨V,V,y,by simpa using i.D (g.u c),p.1,V,u f.av y,by simpa using i.D (w.EF p.1 p.2),?_⟩
 refine(dy _ _).aG z H λd R t M s=>⟨d,rfl,λF=>bX (λI=>?_) (A.trans s),λD=>K V _ ⟨s,bA c v ?_⟩⟩
 ·have:=I y (ar c);have:=t.1 F;omega
 ·have:=fb t D;omega
def Gu(l r:List Int):pQ (l++r)=pQ l++pQ r:=by simp[pQ]
def rp(l:List Int):(pQ l).length<=l.length:=List.length_filter_le _ _
def mP(f:au m s l)(B:l.length<=100000000):oD 170 [O.v s] m (pQ l):=by
 apply wz;intro g;have q:J m g:=(J.aC m).aM _;have v:iZ m g aB 1 (.mk m.size 0 0 0) []:=iZ.new (J.aC m) aB 1 [] 0 E;have A:=f.len;clear_value g;refine dt (n:=l.length) V (λe s a=>J m a/\iZ m a aB 1 s ((pQ (l.take e)).map Ce.i)) ⟨q,by simpa[pQ]using v⟩ ?_;rintro e s C I μ z ⟨c,b⟩ j
 refine dit (λp=>?_) λp=>?_
 ·obtain⟨x,d⟩:=ag (l:=l) (k:=e) V;refine⟨V,V,x,by simpa using c.D (f.u d),?_⟩;refine(dy _ _).then λo D h a=>⟨o,rfl,λu=>?_,λt=>?_⟩
  ·have i:=c.trans a;refine⟨V,V,x,by simpa using i.D (f.u d),?_⟩;intro F;refine rh (b.ext a) i (by have:=rp (l.take e);simp at this;omega) λr G w y=>j V _ _ ⟨y,?_⟩
   rw[bK d,Gu];have:pQ [x]=[x]:=by simp[pQ,h.1 u]
   rw[this];exact w
  ·refine j V _ _ ⟨c.trans a,?_⟩
   rw[bK d,Gu];have:pQ [x]=[]:=by simp[pQ];have:=fb h t;omega
   rw[this,gV];exact b.ext a
 ·rw[cE V]at b;exact⟨s,rfl,b,c⟩
def pW{f:a9}{r:O}(p:au m r f.av)(q:au m s l)(A:∀y∈l,0<=y/\y<f.av.length)(L:l.length<=100000000):
 oD 172 [fv f r o e,O.v s] m (dg f l):=by
 apply Cx
 simp -zeta only[aE,aD]
 intro a j
 have t:J m a:=(J.aC m).aM _
 have z:J a j:=(J.aC a).aM _
 have C:iZ a j aB 1 (.mk a.size 0 0 0) []:=iZ.new (J.aC a) aB 1 [] 0 E
 have B:∀w∈[m.size],w<a.size:=by simp[a]
 have K:=q.len
 have H:=p.len
 clear_value j
 clear_value a
 refine dt (n:=l.length) V (λi s b=>J a b/\iZ a b aB 1 s ((dg f (l.take i)).map Ce.i)) ⟨z,by simpa[dg]using C⟩ ?_
 rintro i s M I μ G ⟨c,b⟩ D
 have d:=t.trans c
 refine dit (λx=>?_) λx=>?_
 ·obtain⟨y,g⟩:=ag (l:=l) (k:=i) V
  have h:=A y (ar g)
  refine⟨V,V,y,by simpa using d.D (q.u g),h.1,V,u f.av y,by simpa using d.D (p.EF h.1 h.2),?_⟩
  intro N
  refine rh b c (by simp[dg];omega) λQ P F v=>⟨J.By (c.aM _) v B,D V _ _ ⟨v,?_⟩⟩
  rw[bK g]
  simpa[dg]using F
 ·rw[cE V]at b
  exact⟨s,rfl,b.cF t.size,d⟩
end
section
variable{m:I}{f:a9}{r o d p bq g q h a j:O}{s:St}{l:List Int}{c:Nat}{b:cL}{w:Int}{e:Nat->Int}{x:Instr}
def FE{e:O}(M:au m r f.av)(ho:au m o f.aV){s:O}(A:au m s l)(aa:∀y∈l,0<=y/\y<f.av.length)(ak:f.av.length=f.aV.length)(aw:f.aV.length<=1000000)(ap:l.length<=1000000)
 (I:∀w∈f.aV,-1000000000<=w/\w<=1000000000):oD 110 [fv f r o e,O.v s] m (dz f.av f.aV l):=by
 apply Aj
 simp -zeta only[aE,aD]
 intro g
 have B:J m g:=(J.aC m).aM _
 have E:∀D∈[m.size],D<g.size:=by simp[g]
 have av:=A.len
 have ao:=M.len
 clear_value g
 refine(fG (ho.ext B) V).aG V E λq m2 o2 i2 U=>⟨q,rfl,?_⟩
 have L:=i2.len
 have jN:∀(c C aV:List Int),dz f.av aV (c++C)=dz f.av (dz f.av aV c) C:=by
  intro c;induction c with
  |nil=>intro C aV;rfl
  |cons y c d=>intro C aV;simp only[cN,dz,d]
 have lo:∀(c aV:List Int)(v:Int),(∀w∈aV,v<=w)->∀w∈dz f.av aV c,v -c.length<=w:=by
  intro c;induction c with
  |nil=>intro aV v h w j;have:=h w j;simp;omega
  |cons y c d=>
   intro aV v h w j;simp only[dz]at j;have:=d _ (v -1) (λp b=>by
    split at b
    ·rcases gE (y.toNat<aV.length)with x|x
     ·rcases rc b with b|b
      ·have:=h _ (jx (i:=y.toNat) (a:=u aV y) (by obtain⟨z,t⟩:=ag x;rw[Lm t];exact t));omega
      ·have:=h p b;omega
     ·have t:gU aV y (u aV y -1)=aV:=by unfold gU;rw[CE V]
      rw[t]at b;have:=h p b;omega
    ·have:=h p b;omega) w j
   simp only[ba];omega
 refine eg (n:=l.length) V (λb d=>J g d/\iZ g d aB 1 q ((dz f.av f.aV (l.take b)).map Ce.i)) ⟨U,o2⟩ ?_
 rintro b m3 ah μ hk ⟨N,z⟩ R
 have G:=B.trans N
 refine dit (λh=>?_) λh=>?_
 ·obtain⟨y,p⟩:=ag (l:=l) (k:=b) V
  have d:=aa y (ar p)
  have al:=pI f.av (l.take b) f.aV
  refine⟨V,V,y,by simpa using G.D (A.u p),d.1,V,u f.av y,by simpa using G.D (M.EF d.1 d.2),?_⟩
  refine(dy _ _).aG N E λD Q K H x=>⟨D,rfl,λY=>?_,λW=>?_⟩
  ·have P:=B.trans x
   have F:=z.ext H
   have i4:au Q q (dz f.av f.aV (l.take b)):=au.iC F V
   refine⟨V,V,y,by simpa using P.D (A.u p),V,V,y,by simpa using P.D (A.u p),d.1,V,u (dz f.av f.aV (l.take b)) y,i4.EF d.1 V,d.1,V,?_⟩
   have an:=lo (l.take b) f.aV (-1000000000) (λw j=>(I w j).1) _ (il (l:=dz f.av f.aV (l.take b)) d.1 V)
   have ai:u (dz f.av f.aV (l.take b)) y<=1000000000:=by
    obtain⟨q',af,aj⟩:=rL (l.take b) f.aV y.toNat _ (qR (l:=dz f.av f.aV (l.take b)) d.1 V);have:=(I q' (ar af)).2;omega
   have am:(l.take b).length<=1000000:=bF
   rw[aP V V]
   rcases F.u with ac|⟨j,T,tail,t,e2,e3,e4,e5⟩
   ·rw[ac]at L;simp at L;omega
   ·have ad:q.off=0:=by rw[t];rfl
    have X:q.F=j:=by rw[t];rfl
    rw[ad,X]
    have Z:0+y.toNat*1=y.toNat:=V
    rw[Z]
    have ab:y.toNat<((dz f.av f.aV (l.take b)).map Ce.i).length:=bF
    refine⟨e3.fu (by simp only[bg];omega),?_⟩
    intro m5
    have S:J g m5:=x.aj e2 _ _
    refine⟨J.By x S E,R V _ ⟨S,?_⟩⟩
    rw[bK p,jN]
    simp only[dz,aq (K.1 Y)]
    refine⟨by rw[eP,jK,<-eP (f:=Ce.i)];exact F.len,Or.inr ⟨j,T,tail,t,e2,?_,?_,e5⟩⟩
    ·have:=cD.aj (m:=Q) (o:=y.toNat) (r:=[.i (u (dz f.av f.aV (l.take b)) y -1)]) e3
     have t:iD ((dz f.av f.aV (l.take b)).map Ce.i++tail) y.toNat [.i (u (dz f.av f.aV (l.take b)) y -1)]=(gU (dz f.av f.aV (l.take b)) y (u (dz f.av f.aV (l.take b)) y -1)).map Ce.i++tail:=by
      simp only[iD,gU,wQ];rw[V2 _ _ ab]
     rw[t]at this;exact this
    ·simp only[bg,eP,jK]at e4⊢;exact e4
  ·refine R V _ ⟨x,?_⟩
   rw[bK p,jN]
   simp only[dz,ae (fb K W)]
   exact z.ext H
 ·rw[cE V]at z
  exact⟨q,rfl,z.cF B.size,G⟩
def eS(h:RV m c 2 d p bq g q b s)(N:1000<=w){a:bL}(l:s.heap[ix w]? =some a):
 aN bY 140 [vp c 0,vi w] m λF z=>∃f,F=.agg #[vi a.aQ,vi a.lA,O.v f]/\au z f a.aI/\J m z:=by
 apply sk (c,0)
 simp -zeta only[aE,aD]
 intro D
 have i:J m D:=(J.aC m).aM _
 have o:=cW.ext i h.heap
 obtain⟨f,I,v,x,n⟩:=o.u l
 have L:=o.len
 have M:=o.gA
 have C:=ax l
 unfold ix at C v x n
 have e:cO (w -1000)=w -1000:=aP V V
 rw[e]
 refine⟨g,i.D h.C3,V,V,a.aQ,v,a.lA,x,f,n,?_⟩
 intro E
 have r:J m E:=i.aj (ad _) _ _
 obtain⟨u,A,P,Q,y⟩:=(cW.ext r h.heap).u l
 unfold ix at y
 have B:u=f:=by
  have H:=i.D (h.C3);obtain⟨G,K,_,_,t⟩:=h.heap.u l;unfold ix at t;have j:=i.D t;have k:=r.D t;rw[n]at j;rw[y]at k;simp at j k;rw[O.GD]at j k;rw[j,k]
 subst B
 exact⟨u,rfl,A,r⟩
def sP(G:RV m c 2 d p bq g q b s)(K:fq s.heap e){F:O}(u:au m F l)(M:∀w∈l,iX s.heap w)(aa:l.length<=1000000):
 dq bY 169 [vp c 0,O.v F] m (mT s.heap l):=by
 apply pV (c,0)
 have Z:=u.len
 refine eg (n:=l.length) V (λv a=>J m a/\∀w∈l.take v,1000<=w->(aW s.heap w).aQ+dJ l (ix w)<=999999) ⟨J.aC _,E⟩ ?_
 rintro v m1 R μ W ⟨B,A⟩ Q
 refine⟨λh=>?_,λh=>je (cJ (by simp at h;omega) A) B⟩
 simp only[ao]at h
 obtain⟨x,r⟩:=ag (l:=l) (k:=v) V
 have t:=M x (ar r)
 have P:=gC t.1
 refine dt (n:=l.length) V (λj(C:Int) a=>J m a/\C=dJ (l.take j) (ix x)) ⟨B,by simp[dJ]⟩ ?_
 rintro j C m2 S μ2 U ⟨i,rfl⟩ D
 refine dit (λH=>?_) λH=>?_
 ·obtain⟨z,y⟩:=ag (l:=l) (k:=j) V
  have N:=jO (l.take j) (ix x)
  have L:=gB (l.take j) (ix x)
  have I:(l.take j).length<=1000000:=bF
  have o:dJ (l.take (j+1)) (ix x)=dJ (l.take j) (ix x)+if z=x then 1 else 0:=by
   rw[bK y,mM];simp only[dJ,P];omega
  refine⟨V,V,z,by simpa using i.D (u.u y),V,V,x,by simpa using i.D (u.u r),λa=>D V _ _ ⟨i,?_⟩,λa=>D V _ _ ⟨i,?_⟩⟩
  ·simp at a;rw[o,aq a];exact aP V V
  ·simp at a;rw[o,ae a];omega
 ·rw[cE V]
  have N:=jO l (ix x)
  have L:=gB l (ix x)
  obtain⟨z,Y⟩:=cq t
  have X:=(K.cell _ (ar z)).hi
  refine⟨V,V,x,by simpa using i.D (u.u r),?_⟩
  refine(eS (G.ext i) t.1 z).mono ?_
  rintro _ m3 ⟨f,rfl,T,a⟩
  have y:cO ((aW s.heap x).aQ+dJ l (ix x))=(aW s.heap x).aQ+dJ l (ix x):=aP V V
  refine⟨_,_,_,rfl,λo=>bX (λI=>?_) (i.trans a),λo=>Q V _ ⟨i.trans a,bA r A λ_=>?_⟩⟩
  ·have:=I x (ar r) t.1
   rw[y]at o;simp at o;omega
  ·rw[y]at o;simp at o;omega
def qS{h:List bL}:mT h (pQ l)<->mT h l:=by
 unfold mT;constructor
 ·intro a w b g;have:=a w (mj.2 ⟨b,g⟩) g;rwa[tT]at this
 ·intro a w b g;rw[tT];exact a w (mj.1 b).1 g
def UX{s:O}(h:au m s l)(r:1<=l.length):au m (O.cut s 1 s.len 1) (l.drop 1):=by
 have b:=h.len;have f:=h.cap;have j:=h.gA;cases s with
 |nil=>simp at b;omega
 |Bi c o a=>simp at b;omega
 |mk c o u q=>
  simp at b f j;refine⟨by simp[O.cut];omega,by simp[O.cut];omega,by simp[O.cut];omega,λp x a=>?_⟩;rw[pZ]at a;have t:=ax a;obtain⟨e,g,k⟩:=h.jA (1+p) x a;refine⟨e,g,λn d i=>?_⟩;have:=k n d i;simp only[O.cut,O.jb,O.mN]at this⊢;rw[ae V];rw[<-this];congr 1;omega
def fO.tU(h:fO b f){r:Int}(d:0<=r)(e:r<f.av.length)(g:∀w∈f.av,w<=9223372036854775807): -9223372036854775808<=u f.av r/\u f.av r<=9223372036854775807:=by
 have c:=il (l:=f.av) d e;refine⟨?_,g _ c⟩;rcases h.Oj _ c with a|a
 ·have:=a.1;omega
 ·omega
def Ho(C:RV m c 2 d p bq g q b s)(P:fq s.heap e)(R:au m r f.av)(Q:au m h f.be)(A:au m a x.args)
 (O:fO b f)(ak:∀w∈f.av,w<=9223372036854775807)(ab:∀t∈x.args,0<=t/\t<f.av.length)(az:1<=x.args.length/\x.args.length<=4)(aA:x.op=16\/x.op=17):
 dq bY 141 [vp c 0,fv f r o h,xv x a j] m (Lg s.heap f x):=by
 apply rC (c,0)
 simp -zeta only[aE,aD]
 intro m1 I
 have i:J m I:=((J.aC m).aM _).aM _
 have v:∀n∈[m1.size,m.size],n<I.size:=by simp[I,m1];omega
 have av:=A.len
 have aC:=R.len
 have ay:=Q.len
 have aq:=A.cap
 clear_value I
 have k:0<=u x.args 0/\u x.args 0<f.av.length:=ab _ (il V V)
 have T:u x.args 0<f.be.length:=by have:=O.lr;have:=O.lh;omega
 have am:=O.tU k.1 k.2 ak
 refine⟨V,V,u x.args 0,(A.ext i).EF V V,k.1,V,u f.av (u x.args 0),(R.ext i).EF k.1 k.2,g,i.D C.C3,?_⟩
 unfold Lg
 simp only[]
 generalize aF:u f.av (u x.args 0)=w at*
 refine(gS (cW.ext i C.heap) am).aG (J.aC _) v λn m3 B E _=>⟨n,rfl,λaj=>bX (λl=>nb B aj l.1) (i.trans E),λai=>?_⟩
 have y:=yb B ai
 obtain⟨F,aB⟩:=cq y
 have aw:=(P.cell _ (ar F)).fl
 have ao:=i.trans E
 refine((eS (C.ext ao) y.1 F)).aG E v ?_
 rintro _ m4 ⟨fl,rfl,al,X⟩
 have U:=E.trans X
 refine⟨X,_,_,_,rfl,(mP al V).aG (by have:=rp (aW s.heap w).aI;omega) (λn B=>U.lt (v n B)) λps m5 o5 i5 h5=>⟨ps,rfl,V,V,V,?_⟩⟩
 have K:=U.trans h5
 have ac:=i.trans K
 have e1:(Int.toNat (1:Int))=1:=rfl
 have e2:(Int.toNat (a.len:Int))=a.len:=V
 rw[e1,e2]
 refine(pW (R.ext ac) (UX (A.ext ac) V) (λt z=>ab t (V1 z)) bF).aG (by simp[dg];omega) (λn B=>K.lt (v n B)) λqs m6 o6 i6 M=>⟨qs,rfl,?_⟩
 have ad:=K.trans M
 refine(oQ (i5.ext M) i6).aG ad v λb2 m7 Y h7 D=>⟨b2,rfl,λaf=>?_,λae=>bX (λl=>fb Y ae l.2.1) (i.trans D)⟩
 have G:=Y.1 af
 refine(eS (C.ext (i.trans D)) y.1 F).aG D v ?_
 rintro _ m8 ⟨ap,rfl,ax,N⟩
 have L:=D.trans N
 refine⟨N,_,_,_,rfl,λz=>?_,λz=>?_⟩
 ·simp at z
  have H:=i.trans L
  refine⟨λt=>je ⟨y,G,Or.inl z,λe=>by simp at t;omega⟩ H,λt=>⟨V,V,u x.args 0,(A.ext H).EF V V,k.1,V,u f.be (u x.args 0),(Q.ext H).EF k.1 T,fB ?_ H⟩⟩
  simp only[aL,an,ne_eq]at t⊢
  exact⟨λS=>⟨y,G,Or.inl z,λ_=>S⟩,λl=>l.2.2.2 V⟩
 ·simp at z
  refine(sP (C.ext (i.trans L)) P (i5.ext ((M.trans h7).trans N)) (λW H=>P.field (ar F) (mj.1 H).1 (mj.1 H).2) (by have:=rp (aW s.heap w).aI;omega)).aG L v λb3 m9 Z h9 W=>⟨b3,rfl,λah=>?_,λag=>bX (λl=>?_) (i.trans W)⟩
  ·have aa:=qS.1 (Z.1 ah)
   have H:=i.trans W
   refine⟨λt=>je ⟨y,G,Or.inr aa,λe=>by simp at t;omega⟩ H,λt=>⟨V,V,u x.args 0,(A.ext H).EF V V,k.1,V,u f.be (u x.args 0),(Q.ext H).EF k.1 T,fB ?_ H⟩⟩
   simp only[aL,an,ne_eq]at t⊢
   exact⟨λS=>⟨y,G,Or.inr aa,λ_=>S⟩,λl=>l.2.2.2 V⟩
  ·rcases l.2.2.1 with t|t
   ·exact z t
   ·exact fb Z ag (qS.2 t)
def Fu(f:RV m c 2 d p bq g q b s)(L:lO b)(H:fq s.heap e)(hw: -9223372036854775808<=w/\w<=9223372036854775807):
 dq bY 139 [vp c 0,vi w] m (CK b s.heap w):=by
 apply qD (c,0)
 simp -zeta only[aE,aD]
 refine⟨g,f.C3,(gS f.heap hw).then λn m1 A G=>⟨n,rfl,λaj=>bX (λa=>nb A aj a.1) G,λai=>?_⟩⟩
 have C:=yb A ai
 obtain⟨K,am⟩:=cq C
 have O:=H.cell _ (ar K)
 have aF:=(O.ov am).2
 refine(eS (f.ext G) C.1 K).mono ?_
 rintro _ i ⟨F,rfl,R,t⟩
 refine⟨_,_,_,rfl,?_⟩
 intro W j
 have ao:=G.trans t
 have M:J i j:=((J.aC i).aM _).aj (ad _) _ _
 have s4:j.size=i.size+1:=by simp[j,W,az]
 have hB:D j i.size 1=some (vi (aW s.heap w).lA):=(cD.aj (m:=W) (o:=0) (r:=[.i (aW s.heap w).aQ,.i (aW s.heap w).lA,.s F]) (cD.push i _ _)).cy 1
 have B:∀n∈[i.size],n<j.size:=by simp[s4]
 clear_value j
 have h:=ao.trans M
 have P:=f.ext h
 have aC:=f.fP.cB.len
 have aB:=L.pC.len
 have au:(eD b.aY).length<=12:=by
  have:=qW L.pC.types b.aY.length;rw[mF _ _ (ad _)]at this;exact this
 refine⟨d,P.aY,(oO P.fP.aY L.pC.types).aG (J.aC _) B λm5 x _=>⟨_,rfl,x.dk hB,p,(f.ext (h.trans x)).cB,?_⟩⟩
 have aG:=h.trans x
 have Z:cO ((aW s.heap w).lA -((eD b.aY).length:Int))=(aW s.heap w).lA -fH b:=aP V V
 have e2:cO ((p.len:Int) -1)=(p.len:Int) -1:=aP V V
 rw[Z,e2]
 refine(aU _ _ _ _).aG x B λY m6 Q h6 u=>⟨Y,rfl,λaf=>?_,λae=>bX (λa=>fb Q ae ⟨a.2.1,by have:=a.2.2.1;omega⟩) (h.trans u)⟩
 have T:=Q.1 af
 have E:=h.trans u
 have I:=f.ext E
 obtain⟨ap,S⟩:=ag (l:=b.cB) (k:=((aW s.heap w).lA -fH b).toNat) V
 have an:dF b ((aW s.heap w).lA -fH b)=ap:=by simp[dF,S]
 obtain⟨X,l',c',ac,al,aw,g0,g1,_⟩:=I.fP.cB.u S
 have av:=ac.len
 have aA:=al.len
 have ay:=R.len
 have ax:=O.fl
 have e3:cO ((F.len:Int)+1)=(F.len:Int)+1:=aP V V
 rw[e3]
 unfold CK
 rw[an]
 refine⟨p,I.cB,V,V,X,g0,λy=>⟨p,I.cB,V,V,l',g1,λz=>⟨λv=>?_,λv=>?_⟩,λz=>bX (λa=>?_) E⟩,λy=>bX (λa=>?_) E⟩
 ·simp at y z v
  exact je ⟨C,T.1,V,V,V,Or.inl v⟩ E
 ·simp at y z v
  refine(mP (R.ext (M.trans u)) V).aG (by have:=rp (aW s.heap w).aI;omega) (λn A=>u.lt (B n A)) λps m7 o7 i7 aa=>⟨ps,rfl,?_⟩
  have N:=u.trans aa
  refine(sP (f.ext (h.trans N)) H i7 (λab U=>H.field (ar K) (mj.1 U).1 (mj.1 U).2) (by have:=rp (aW s.heap w).aI;omega)).aG N B λU m8 ah aq ab=>⟨U,rfl,fB ?_ (h.trans ab)⟩
  rw[ah,qS]
  refine⟨λak=>⟨C,T.1,V,V,V,Or.inr ak⟩,λa=>?_⟩
  rcases a.2.2.2.2.2 with t|t
  ·exact absurd t v
  ·exact t
 ·have:=a.2.2.2.2.1;simp at z;omega
 ·have:=a.2.2.2.1;simp at y;omega
def Fv(G:RV m c 2 d p bq g q b s)(F:au m h f.be)(K:au m a x.args)(W:0<=x.bV/\x.bV<=f.be.length)(X:f.be.length<=1000000)
 (N:∀w∈f.be,w≠0->1000<=w/\∃z,s.heap[ix w]? =some z):
 dq bY 137 [vp c 0,fv f r o h,xv x a j] m (HR s.heap f x):=by
 apply qE (c,0)
 simp -zeta only[aE,aD]
 intro y t
 have n:J m t:=((J.aC m).aM _).aM _
 have P:∀H∈[y.size,m.size],H<t.size:=by simp[t,y];omega
 have I:D t y.size 4=some (O.v a):=(cD.push y _ _).cy 4
 have S:=K.len
 have U:=F.len
 clear_value t
 unfold HR
 refine⟨λv=>je (λA=>absurd (by simpa using v) A) n,λv=>?_⟩
 simp at v
 have e:cO (x.bV -1)=x.bV -1:=aP V V
 rw[e]
 have E:=(F.ext n).EF (i:=x.bV -1) V V
 refine⟨V,V,u f.be (x.bV -1),E,λk=>je (λ_ A=>absurd (by simpa using k) A) n,λk=>?_⟩
 simp at k
 obtain⟨Q,z,C⟩:=N _ (il (l:=f.be) (i:=x.bV -1) V V) k
 refine⟨V,V,u f.be (x.bV -1),E,(eS (G.ext n) Q C).aG (J.aC _) P ?_⟩
 rintro _ Y ⟨R,rfl,M,A⟩
 have T:=M.len
 have L:aW s.heap (u f.be (x.bV -1))=z:=by simp[aW,C]
 refine⟨A,_,_,_,rfl,A.dk I,fB ?_ (n.trans A)⟩
 rw[L]
 simp
 exact⟨λB _ _=>V,λB=>by have:=B v k;omega⟩
def tf(b:cL)(x:Instr):∀(l r:List Int)(k:Nat),lG b x k (l++r)=lG b x k l++lG b x (k+l.length) r
 |[],r,k=>by simp[lG]
 |a::l,r,k=>by
  have:=tf b x l r (k+1);simp only[cN,lG,this,ba];have e:k+(l.length+1)=k+1+l.length:=V;rw[e];split<;>simp
def ui(C:RV m c 2 d p bq g q b s)(U:au m r f.av)(H:au m a x.args)(hF:fO b f)(af:∀w∈f.av,w<=9223372036854775807)
 (ah:∀y∈x.args,0<=y/\y<f.av.length)(hc:Ba b x)(aj:x.op=9\/x.op=24):
 dq bY 138 [vp c 0,fv f r o h,xv x a j] m (Mt b s.heap f x):=by
 apply qC (c,0)
 simp -zeta only[aE,aD]
 intro Z z
 have L:J m z:=((J.aC m).aM _).aM _
 have K:∀D∈[Z.size,m.size],D<z.size:=by simp[z,Z];omega
 have aa:=H.len
 have al:=U.len
 clear_value z
 refine eg (n:=x.args.length) (aa▸H.gA) (λe i=>J z i/\∀y∈lG b x 0 (x.args.take e),1000<=u f.av y->iX s.heap (u f.av y)) ⟨J.aC _,by simp[lG]⟩ ?_
 rintro e m3 ak μ hk ⟨X,T⟩ N
 have A:=L.trans X
 refine⟨λh=>?_,λh=>je (by simp at h;rwa[cE V]at T) A⟩
 simp only[ao]at h
 obtain⟨y,M⟩:=ag (l:=x.args) (k:=e) V
 have v:=ah y (ar M)
 have G:=C.ext A
 have W:lG b x 0 (x.args.take (e+1))=lG b x 0 (x.args.take e)++lG b x e [y]:=by
  rw[bK M,tf];congr 2;simp;omega
 have I:(mK b x e=true->1000<=u f.av y->iX s.heap (u f.av y))->∀B∈lG b x 0 (x.args.take (e+1)),1000<=u f.av B->iX s.heap (u f.av B):=λhh B i=>by
  rw[W]at i;rcases List.mem_append.1 i with i|i
  ·exact T B i
  ·simp only[lG]at i;split at i
   ·rename_i t;simp at i;subst i;exact hh t
   ·simp at i
 have ai:mK b x e=true->y∈lG b x 0 x.args:=λt=>by
  have e1:x.args=x.args.take (e+1)++x.args.drop (e+1):=(df _ _).symm;rw[e1,tf,W];refine bH _ (eO _ ?_);simp only[lG];rw[aq t];simp
 refine⟨V,V,y,by simpa using A.D (H.u M),v.1,V,u f.av y,by simpa using A.D (U.EF v.1 v.2),d,G.aY,p,G.cB,?_⟩
 refine(pT G.fP hc a j e).aG X K λD m4 Q h4 O=>⟨D,rfl,λae=>?_,λad=>N V _ ⟨O,I λt=>absurd ⟨aj,t⟩ (fb Q ad)⟩⟩
 have t:=(Q.1 ae).2
 refine(dy _ _).aG O K λb2 m5 R h5 E=>⟨b2,rfl,λac=>?_,λab=>N V _ ⟨E,I λ_ g=>absurd g (fb R ab)⟩⟩
 have Y:=L.trans E
 refine⟨g,(C.ext Y).C3,(gS (cW.ext Y C.heap) (hF.tU v.1 v.2 af)).aG E K λb3 m6 S h6 P=>⟨b3,rfl,λF=>bX (λhM=>nb S F (hM y (ai t) (R.1 ac))) (L.trans P),λF=>N V _ ⟨P,I λ_ _=>yb S F⟩⟩⟩
end
section
structure Bb(im:cL)(s:St)(fs:List a9)(f:a9)(x:Instr):Prop where
 ok:cA im s
 run:s.cR=3
 fr:s.ak=fs++[f]
 Yq:fg im f=x
 xl:∀g∈s.ak,∀w∈g.av,w<=9223372036854775807
section
variable{b:cL}{s:St}{c:List a9}{f:a9}{x:Instr}
def Bb.F(a:Bb b s c f x):fO b f:=a.ok.ak f (by rw[a.fr];simp)
def Bb.NV(a:Bb b s c f x):∀w∈f.av,w<=9223372036854775807:=a.xl f (by rw[a.fr];simp)
def Bb.I(a:Bb b s c f x):∃p,b.cB[f.eU.toNat]? =some p/\dF b f.eU=p/\EA b p/\p.cG[f.pc.toNat]? =some x/\gJ b p f.pc.toNat x:=by
 have:=a.F.IB a.ok.fP;rwa[a.Yq]at this
def Bb.JX(a:Bb b s c f x):f.av.length=f.aV.length/\f.be.length=f.aV.length/\1<=f.aV.length/\f.aV.length<=2000:=by
 obtain⟨p,_,e,i,_,_⟩:=a.I;have d:=a.F.lr;have g:=a.F.lo;have h:=a.F.lh;rw[e]at d g h;have:=i.av;omega
def Bb.arg(a:Bb b s c f x):∀y∈x.args,0<=y/\y<f.av.length:=λy h=>by
 obtain⟨p,_,e,_,_,g⟩:=a.I;have d:=a.F.lr;rw[e]at d;have:=g.args y h;omega
def Bb.dst(a:Bb b s c f x):0<=x.dst/\x.dst<f.aV.length:=by
 obtain⟨p,_,e,_,_,g⟩:=a.I;have d:=a.F.lo;rw[e]at d;have:=g.dst;omega
def Bb.call(a:Bb b s c f x):Ba b x:=let⟨_,_,_,_,_,d⟩:=a.I;d.call
def Bb.XW(a:Bb b s c f x):0<=x.op/\x.op<=24/\x.op≠7/\x.op≠8/\x.op≠12/\x.op≠13:=by
 obtain⟨p,_,_,e,_,d⟩:=a.I;exact((Gh e.av.2.2 a.ok.fP.pC.len.2 λq g=>(a.ok.fP.pC.dh q g).1).1 d).1
def Bb.OF(g:Bb b s c f x):x.args.length<=4/\((x.op=5\/x.op=14\/x.op=15\/x.op=18\/x.op=23\/x.op=19\/x.op=20\/x.op=21)->x.args.length=1)/\((x.op=1\/x.op=2\/x.op=3\/x.op=4\/x.op=11)->x.args.length=2)/\
 ((x.op=16\/x.op=17)->1<=x.args.length)/\(x.op=6->0<=x.bV/\x.bV<=f.be.length/\0<=x.bJ/\x.bJ<12/\x.args.length<=3)/\(x.op=10->0<=x.bJ/\x.bJ<4/\x.args.length<=3)/\(x.op=0->-999<=x.bJ/\x.bJ<=999):=by
 obtain⟨z,_,r,y,_,u⟩:=g.I
 have a:=u.op
 have t:=g.F.lh
 rw[r]at t
 have d:=g.ok.fP.pC
 have v:(eD b.aY).length<=12:=by
  have:=qW d.types b.aY.length;rw[mF _ _ (ad _)]at this;exact this
 have w:=Gc d.types x.bJ
 unfold lD at a
 by_cases h:x.op=0
 ·rw[aq h]at a;omega
 rw[ae h]at a
 by_cases i:x.op=1\/x.op=2\/x.op=3\/x.op=4\/x.op=11
 ·rw[aq i]at a;omega
 rw[ae i]at a
 by_cases j:x.op=5\/x.op=14\/x.op=15\/x.op=18\/x.op=23
 ·rw[aq j]at a;omega
 rw[ae j]at a
 by_cases k:x.op=6
 ·rw[aq k]at a;omega
 rw[ae k]at a
 by_cases l:x.op=9\/x.op=24
 ·rw[aq l]at a
  obtain⟨q,n,e,o⟩:=a
  have:=(d.dh q (ar e)).1;omega
 rw[ae l]at a
 by_cases m:x.op=10
 ·rw[aq m]at a
  obtain⟨⟨q,n,e,o⟩,_⟩:=a
  have:=(d.dh q (ar e)).1
  have:=ax e
  have:=d.len;omega
 rw[ae m]at a
 by_cases n:x.op=16\/x.op=17
 ·rw[aq n]at a;omega
 rw[ae n]at a
 by_cases o:x.op=19
 ·rw[aq o]at a;omega
 rw[ae o]at a
 by_cases p:x.op=20
 ·rw[aq p]at a;omega
 rw[ae p]at a
 by_cases q:x.op=22
 ·rw[aq q]at a;omega
 rw[ae q]at a
 by_cases e:x.op=21
 ·rw[aq e]at a
  have:=a.1;omega
 rw[ae e]at a;exact a.elim
def Bb.Ob(d:Bb b s c f x):∀w∈f.be,w≠0->1000<=w/\∃e,s.heap[ix w]? =some e/\e.aQ<0:=λw h k=>by
 have g:1000<=w:=by have:=d.F.be w h;omega
 refine⟨g,?_⟩;have j:0<holds s.ak (ix w):=by
  rw[d.fr,dH,gT];have:=tK c (ix w);have:=qA (l:=f.be) (a:=ix w) (by rw[gC g];exact h);omega
 exact dG λi=>by have:=d.ok.kJ (ix w) i;omega
def Bb.Ub(d:Bb b s c f x):∀o∈f.aV,0<=o/\o<=999999:=λo i=>by
 have r:=d.F.IN o i;refine⟨r,?_⟩;rcases gE (0<o)with j|j
 ·obtain⟨n,e⟩:=List.mem_iff_getElem?.1 i;have:=d.JX;obtain⟨w,m⟩:=ag (l:=f.av) (k:=n) (by have:=ax e;omega);have p:=(d.F.aV n o w e m).2 j;have t:=IP d.F.IN m e (c:=ix w) (by rw[gC p]);have u:o<=eu s.ak (ix w):=by
   rw[d.fr,eW,jI];have:=Dp (c:=c) (λg h=>d.ok.ak g (by rw[d.fr];exact bH _ h)) (ix w);omega
  obtain⟨g,h,q⟩:=d.ok.heap.lv (ix w) V;have v:=d.ok.heap.ex _ g h q;have y:=nQ s.heap (ix w);have z:=(d.ok.heap.cell g (ar h)).hi;omega
 ·omega
def Bb.Pk(a:Bb b s c f x):∀r∈dp b x,0<=r/\r<f.av.length:=λr d=>a.arg r (KW d)
end
def Jq{o:I}{mb:Nat}{ai ax bq d fr:O}{Q:cL}{M:St}(T:RV o mb 2 ai ax bq d fr Q M){fs:List a9}{m:a9}{x:Instr}(C:Bb Q M fs m x){ab ae h W am ow:O}(U:au o ab m.av)(Y:au o h m.be)(P:au o W x.args){aV:List Int}(aa:au o ow aV)(aB:aV.length=m.aV.length):
 dq bY 112 [vp mb 0,fv m ab ae h,xv x W am,O.v ow] o (sZ Q M m x aV):=by
 apply sq (mb,0)
 simp -zeta only[aE,aD]
 intro m1 S
 have b:J o S:=((J.aC o).aM _).aM _
 have i:∀g∈[m1.size,o.size],g<S.size:=by simp[S,m1];omega
 have aj:cD S m1.size dB [.i x.op,.i x.dst,.i x.bJ,.i x.bV,.s W,.s am]:=cD.push m1 _ _
 have aq:cD S o.size ez [.i m.eU,.i m.pc,.i m.dst,.s ab,.s ae,.s h]:=(cD.push o _ _).ext (J.push m1 _)
 have ay:=P.len
 have aF:=U.len
 have az:=Y.len
 have aC:=aa.len
 have hd:=C.dst
 have aA:=C.JX
 have H:=C.OF
 have hI:=C.ok.heap
 clear_value S
 refine⟨λR=>J S R/\(∀ae∈aV,0<=ae)/\(kK x.op->u aV x.dst<=0),?_,?_⟩
 ·refine(yz (aa.ext b)).aG (J.aC _) i λg m3 c n _=>⟨g,rfl,λv=>bX (λl=>nb c v l.nn) (b.trans n),λA=>?_⟩
  refine(vm _ _).aG n i λN B z y a=>⟨N,rfl,λv=>?_,λw=>⟨a,yb c A,λe=>absurd e (fb z w)⟩⟩
  refine⟨hd.1,V,u aV x.dst,(aa.ext (b.trans a)).EF hd.1 V,λk=>bX (λl=>?_) (b.trans a),λk=>⟨a,yb c A,λ_=>by simpa using k⟩⟩
  have:=l.dst (z.1 v);simp at k;omega
 ·rintro m3 ⟨n,q,p⟩
  have f:=b.trans n
  have t:=T.ext f
  have mk:∀{af:Prop},(sZ Q M m x aV->af)->(af->sZ Q M m x aV)->(sZ Q M m x aV<->af):=λL h2=>⟨L,h2⟩
  have E:1<=x.args.length->0<=u x.args 0/\u x.args 0<m.av.length:=λL=>C.arg _ (il V V)
  have F:∀{R},J o R->1<=x.args.length->D R W.F (W.off+Int.toNat (0:Int)*1)=some (vi (u x.args 0)):=λhx L=>(P.ext hx).EF V V
  have G:∀{R},J o R->1<=x.args.length->D R ab.F (ab.off+Int.toNat (u x.args 0)*1)=some (vi (u m.av (u x.args 0))):=λhx L=>(U.ext hx).EF (E L).1 (E L).2
  refine⟨λe=>?_,λe1=>?_⟩
  ·simp only[cr,aL]at e
   refine(BD (U.ext f) (P.ext f) C.arg).aG n i λg B c y a=>⟨g,rfl,fB (c.trans ?_) (b.trans a)⟩
   refine⟨λd=>?_,λh=>h.pw V⟩
   refine⟨q,p,?_,?_,?_,?_,?_,?_,?_,?_,?_,?_,?_⟩<;>intro r<;>first|(exfalso;omega)|exact d
  simp only[bP,an]at e1
  refine⟨λe=>?_,λe2=>?_⟩
  ·simp only[aL]at e
   have j:=H.2.2.2.2.1 e
   refine(Fv t (Y.ext f) (P.ext f) ⟨j.1,j.2.1⟩ V (λac Z X=>by obtain⟨L,s,K,_⟩:=C.Ob ac Z X;exact⟨L,s,K⟩)).aG n i λg B c y a=>⟨g,rfl,fB (c.trans ?_) (b.trans a)⟩
   refine⟨λd=>?_,λh=>h.lp e⟩
   refine⟨q,p,?_,?_,?_,?_,?_,?_,?_,?_,?_,?_,?_⟩<;>intro r<;>first|(exfalso;omega)|exact d
  simp only[an]at e2
  refine⟨λe=>?_,λe3=>?_⟩
  ·simp only[aL]at e
   refine(ui t (U.ext f) (P.ext f) C.F C.NV C.arg C.call (Or.inl e)).aG n i λg B c y a=>⟨g,rfl,fB (c.trans ?_) (b.trans a)⟩
   refine⟨λd=>?_,λh=>h.cV (Or.inl e)⟩
   refine⟨q,p,?_,?_,?_,?_,?_,?_,?_,?_,?_,?_,?_⟩<;>intro r<;>first|(exfalso;omega)|exact d
  simp only[an]at e3
  refine⟨λe=>?_,λe4=>?_⟩
  ·simp only[aL]at e
   refine(ui t (U.ext f) (P.ext f) C.F C.NV C.arg C.call (Or.inr e)).aG n i λg B c y a=>⟨g,rfl,λv=>?_,λA=>bX (λl=>fb c A (l.cV (Or.inr e))) (b.trans a)⟩
   refine(kN (aa.ext (b.trans a))).aG a i λN m5 z k s=>⟨N,rfl,λah=>?_,λw=>bX (λl=>fb z w (l.zero (Or.inl e)).1) (b.trans s)⟩
   refine(kN (Y.ext (b.trans s))).aG s i λb3 m6 K X j=>⟨b3,rfl,fB (K.trans ?_) (b.trans j)⟩
   refine⟨λd=>?_,λh=>(h.zero (Or.inl e)).2⟩
   refine⟨q,p,?_,?_,?_,?_,?_,?_,?_,?_,?_,?_,?_⟩<;>intro r<;>first|(exfalso;omega)|exact c.1 v|exact⟨z.1 ah,d⟩
  simp only[an]at e4
  refine⟨λe=>?_,λe5=>?_⟩
  ·simp only[aL]at e
   have Z:=H.2.1 V
   refine(kN (aa.ext f)).aG n i λN m5 z k s=>⟨N,rfl,λah=>?_,λw=>bX (λl=>fb z w (l.zero (Or.inr e)).1) (b.trans s)⟩
   refine(kN (Y.ext (b.trans s))).aG s i λb3 m6 K X j=>⟨b3,rfl,λav=>?_,λar=>bX (λl=>fb K ar (l.zero (Or.inr e)).2) (b.trans j)⟩
   have ad:=b.trans j
   have ak:=T.ext ad
   have ac:=ak.ak.len
   have ij:∀d:1<M.ak.length\/u m.av (u x.args 0)<1000,sZ Q M m x aV:=λd=>by
    refine⟨q,p,?_,?_,?_,?_,?_,?_,?_,?_,?_,?_,?_⟩<;>intro r<;>first|(exfalso;omega)|exact⟨z.1 ah,K.1 av⟩|exact d
   refine⟨fr,ak.OU,λh8=>je (ij (Or.inl (by simp at h8;omega))) ad,λh8=>?_⟩
   refine⟨V,V,_,F ad V,(E V).1,by have:=(E V).2;omega,_,G ad V,(dy _ _).aG j i λb4 m7 al h9 ag=>⟨b4,rfl,fB ?_ (b.trans ag)⟩⟩
   simp at h8
   constructor
   ·intro ap
    exact ij (Or.inr (by have:=nb al ap;omega))
   ·intro l
    rcases l.ret e with ap|ap
    ·omega
    ·have:¬b4=true:=λaw=>by have:=al.1 aw;omega
     simpa using this
  simp only[an]at e5
  refine⟨λe=>?_,λe6=>?_⟩
  ·simp only[aL]at e
   have Z:=H.2.2.1 V
   have j:=E V
   refine⟨V,V,_,F f V,j.1,V,_,G f V,(Fu t C.ok.fP hI (C.F.tU j.1 j.2 C.NV)).aG n i λg B c y a=>⟨g,rfl,fB (c.trans ?_) (b.trans a)⟩⟩
   refine⟨λd=>?_,λh=>h.apply e⟩
   refine⟨q,p,?_,?_,?_,?_,?_,?_,?_,?_,?_,?_,?_⟩<;>intro r<;>first|(exfalso;omega)|exact d
  simp only[an]at e6
  refine⟨λe=>?_,λe7=>?_⟩
  ·simp only[aL]at e
   have Z:=H.2.1 V
   have j:=E V
   refine⟨V,V,_,F f V,j.1,V,_,G f V,d,t.C3,(gS t.heap (C.F.tU j.1 j.2 C.NV)).aG n i λg B c y a=>⟨g,rfl,λv=>?_,λA=>bX (λl=>fb c A (l.Wa e).1) (b.trans a)⟩⟩
   have w:=c.1 v
   refine(eS (T.ext (b.trans a)) w.1 (cq w).1).aG a i ?_
   rintro _ m5 ⟨fl,rfl,ac,k⟩
   refine⟨k,_,_,_,rfl,fB ?_ (b.trans (a.trans k))⟩
   simp only[ao]
   refine⟨λd=>?_,λh=>(h.Wa e).2⟩
   refine⟨q,p,?_,?_,?_,?_,?_,?_,?_,?_,?_,?_,?_⟩<;>intro r<;>first|(exfalso;omega)|exact⟨w,d⟩
  simp only[an]at e7
  refine⟨λe=>?_,λe8=>?_⟩
  ·simp only[aL]at e
   have Z:=H.2.1 V
   have j:=E V
   refine⟨V,V,_,F f V,j.1,V,_,G f V,(dy _ _).aG n i λg B c y a=>⟨g,rfl,fB (c.trans ?_) (b.trans a)⟩⟩
   refine⟨λd=>?_,λh=>h.drop e⟩
   refine⟨q,p,?_,?_,?_,?_,?_,?_,?_,?_,?_,?_,?_⟩<;>intro r<;>first|(exfalso;omega)|exact d
  simp only[an]at e8
  refine⟨λe=>?_,λe9=>?_⟩
  ·simp only[cr,aL]at e
   refine(Ho t hI (U.ext f) (Y.ext f) (P.ext f) C.F C.NV C.arg ⟨H.2.2.2.1 e,H.1⟩ e).aG n i λg B c y a=>⟨g,rfl,fB (c.trans ?_) (b.trans a)⟩
   refine⟨λd=>?_,λh=>h.QU e⟩
   refine⟨q,p,?_,?_,?_,?_,?_,?_,?_,?_,?_,?_,?_⟩<;>intro r<;>first|(exfalso;omega)|exact d
  simp only[bP,an]at e9
  refine⟨λe=>?_,λad=>?_⟩
  ·simp only[aL]at e
   have Z:=H.2.1 V
   have j:=E V
   refine⟨d,t.C3,V,V,_,F f V,j.1,V,_,G f V,(gS t.heap (C.F.tU j.1 j.2 C.NV)).aG n i λg B c y a=>⟨g,rfl,λv=>?_,λA=>bX (λl=>fb c A (l.load e).1) (b.trans a)⟩⟩
   have w:=c.1 v
   have K:=b.trans a
   refine⟨V,V,_,F K V,j.1,V,_,G K V,(eS (T.ext K) w.1 (cq w).1).aG a i ?_⟩
   rintro _ m5 ⟨fl,rfl,ac,k⟩
   have ah:=ac.len
   refine⟨k,_,_,_,rfl,k.dk ((aj.ext a).cy 2),fB ?_ (b.trans (a.trans k))⟩
   simp only[ao]
   refine⟨λd=>?_,λh=>by have:=(h.load e).2;omega⟩
   refine⟨q,p,?_,?_,?_,?_,?_,?_,?_,?_,?_,?_,?_⟩<;>intro r<;>first|(exfalso;omega)|exact⟨w,V⟩
  simp only[an]at ad
  refine⟨λe=>?_,λah=>?_⟩
  ·simp only[aL]at e
   have Z:=H.2.1 V
   have j:=E V
   refine⟨d,t.C3,V,V,_,F f V,j.1,V,_,G f V,(gS t.heap (C.F.tU j.1 j.2 C.NV)).aG n i λg B c y a=>⟨g,rfl,λv=>?_,λA=>bX (λl=>fb c A (l.Mb e).1) (b.trans a)⟩⟩
   have w:=c.1 v
   have K:=b.trans a
   have l:=T.ext K
   refine⟨ai,l.aY,V,V,_,F K V,j.1,V,_,G K V,(xQ l.fP.aY C.ok.fP.pC.types _).aG a i ?_⟩
   rintro _ m5 ⟨cs,rfl,ak,k⟩
   have s:=a.trans k
   refine⟨k,cs,rfl,k.dk (G K V),k.dk (F K V),k.dk ((aj.ext a).cy 4),k.dk ((aq.ext a).cy 3),(eS (T.ext (b.trans s)) w.1 (cq w).1).aG s i ?_⟩
   rintro _ m6 ⟨fl,rfl,ac,X⟩
   refine⟨X,_,_,_,rfl,(cU (ak.ext X) _).aG (s.trans X) i λN m7 z h8 ag=>⟨N,rfl,fB (z.trans ?_) (b.trans ag)⟩⟩
   refine⟨λd=>?_,λh=>(h.Mb e).2⟩
   refine⟨q,p,?_,?_,?_,?_,?_,?_,?_,?_,?_,?_,?_⟩<;>intro r<;>first|(exfalso;omega)|exact⟨w,d⟩
  ·simp only[an]at ah
   refine je ?_ f
   refine⟨q,p,?_,?_,?_,?_,?_,?_,?_,?_,?_,?_,?_⟩<;>intro r<;>exfalso<;>omega
end
section
variable{p:Nat->Prop}{o n:Nat}{new:List Ce}{i:Int}{f:O}
structure dA(p:Nat->Prop)(ro:Nat->Nat)(m:I)(ro':Nat->Nat)(m':I):Prop where
 size:m.size<=m'.size
 iS:∀b,b<m.size->ro' b=ro b
 new:∀b,m'.size<=b->ro' b=0
 fw:∀b,b<m.size->¬p (ro b)->m'[b]? =m[b]?
def dA.aC(p:Nat->Prop){a:Nat->Nat}{m:I}(h:∀b,m.size<=b->a b=0):dA p a m a m:=⟨ad _,λ_ _=>rfl,h,λ_ _ _=>rfl⟩
def dA.trans{g i j:Nat->Nat}{d e f:I}(h:dA p g d i e)(k:dA p i e j f):dA p g d j f:=
 ⟨bI h.size k.size,λb a=>by rw[k.iS b (aK a h.size),h.iS b a],k.new,λb a c=>by
  rw[k.fw b (aK a h.size) (by rw[h.iS b a];exact c),h.fw b a c]⟩
def dA.mono{q:Nat->Prop}{b c:Nat->Nat}{m a:I}(h:dA p b m c a)(g:∀k,p k->q k):dA q b m c a:=⟨h.size,h.iS,h.new,λd e i=>h.fw d e λf=>i (g _ f)⟩
def dA.fj(p:Nat->Prop){c:Nat->Nat}{m d:I}(h:J m d)(e:∀b,m.size<=b->c b=0):dA p c m c d:=⟨h.size,λ_ _=>rfl,λb a=>e b (bI h.size a),λb a _=>h.same b a⟩
def dA.aj{a:Nat->Nat}{m:I}(g:∀b,m.size<=b->a b=0){b:Nat}(f:p (a b))(o:Nat)(l:List Ce):dA p a m a (aj m b o l):=
 ⟨wR (az _ _ _ _).symm,λ_ _=>rfl,λc d=>g c (by rw[az]at d;exact d),λc _ h=>bn _ _ _ _ λe=>h (e▸f)⟩
abbrev HC:=dA (λk=>k=3\/k=5\/k=6)
abbrev To:=dA (λk=>k≠0/\k≠9)
def dA.cF{g i:Nat->Nat}{c m f:I}(h:To g m i f)(e:J c m)(d:∀b,b<c.size->g b=0):J c f/\∀b,b<c.size->i b=0:=by
 have j:=e.size;exact⟨⟨bI j h.size,λb a=>by rw[h.fw b V (by simp[d b a]),e.same b a]⟩,λb a=>by rw[h.iS b V,d b a]⟩
def dA.de{e f:Nat->Nat}{m d:I}(h:To e m f d){l:List Nat}(c:∀b∈l,b<m.size/\e b=0):dV l m d:=λb a=>h.fw b (c b a).1 (by simp[(c b a).2])
structure gY(ro:Nat->Nat)(m:I)(e sz k:Nat)(s:O)(l:List Ce):Prop where
 len:l.length=s.len*sz
 le:s.len<=s.cap
 u:s.cap=0\/∃b c tail,s=.mk b 0 s.len c/\ro b=k/\cD m b e (l++tail)/\(l++tail).length=c*sz
section
variable{b d:Nat->Nat}{m c:I}{e a k:Nat}{s:O}{l:List Ce}
def gY.CU(h:gY b m e a k s l)(d:s.cap=0):l=[]/\s.len=0:=by
 have:=h.le;have c:s.len=0:=V;exact⟨List.length_eq_zero_iff.1 (by rw[h.len,c];simp),c⟩
def gY.jA(h:gY b m e a k s l):fU m s.F s.off l:=by
 rcases h.u with d|⟨g,c,tail,h1,h2,h3,h4⟩
 ·rw[(h.CU d).1];intro i c f;simp at f
 ·rw[h1];exact h3.jA.Mk
def gY.wr(h:gY b m e a k s l)(c:o+n<=l.length):fu m s.F (s.off+o) n:=by
 rcases h.u with d|⟨f,g,tail,h1,h2,h3,h4⟩
 ·rw[(h.CU d).1]at c;intro j i;simp at c;omega
 ·rw[h1];simp only[O.jb,O.mN,bQ];exact h3.fu bF
def gY.fw(h:gY b m e a k s l)(p:s.cap≠0->c[s.F]? =m[s.F]?)(q:s.cap≠0->d s.F=b s.F):gY d c e a k s l:=by
 refine⟨h.len,h.le,?_⟩;rcases h.u with o|⟨j,n,tail,h1,h2,h3,h4⟩
 ·exact Or.inl o
 ·by_cases f:s.cap=0
  ·exact Or.inl f
  ·have g:=p f;have i:=q f;rw[h1]at g i;exact Or.inr ⟨j,n,tail,h1,i.trans h2,h3.congr g,h4⟩
def gY.F(h:gY b m e a k s l)(d:s.cap≠0):s.F<m.size/\b s.F=k:=by
 rcases h.u with c|⟨f,g,tail,h1,h2,h3,h4⟩
 ·exact absurd c d
 ·rw[h1];exact⟨h3.lt,h2⟩
def gY.fe(h:gY b m e a k s l)(g:dA p b m d c)(i:¬p k):gY d c e a k s l:=
 h.fw (λf=>g.fw _ (h.F f).1 (by rw[(h.F f).2];exact i)) (λf=>g.iS _ (h.F f).1)
def gY.set(h:gY b m e a k s l)(v:o+new.length<=l.length):gY b (aj m s.F (s.off+o) new) e a k s (iD l o new):=by
 refine⟨by rw[ng];exact h.len,h.le,?_⟩;rcases h.u with t|⟨g,j,tail,h1,h2,h3,h4⟩
 ·exact Or.inl t
 ·refine Or.inr ⟨g,j,tail,h1,h2,?_,by simp only[bg,ng]at h4⊢;exact h4⟩;have n:s.F=g:=by rw[h1];rfl
  have p:s.off=0:=by rw[h1];rfl
  rw[n,p,bQ];have:=cD.aj (m:=m) (o:=o) (r:=new) h3;have q:iD (l++tail) o new=iD l o new++tail:=by
   have d:(iD l o new).length=l.length:=ng _ _ _;apply fK;intro i;rcases aX i l.length with c|c
   ·have f:(iD l o new++tail)[i]? =(iD l o new)[i]? :=aw (by rw[d];exact c);rw[f,tW,tW];simp only[bg];by_cases u:o<=i/\i<o+new.length
    ·rw[aq V,aq V]
    ·rw[ae V,ae V,aw c]
   ·have f:(iD l o new++tail)[i]? =tail[i -l.length]? :=by rw[aF (by rw[d];exact c),d]
    rw[f,tW,ae V,aF c]
  rw[q]at this;exact this
def gY.cut(h:gY b m e a k s l){n:Nat}(j:n<=s.len):gY b m e a k (s.cut 0 n a) (l.take (n*a)):=by
 have i:=h.le;have q:=h.len;rcases h.u with g|⟨d,f,tail,h1,h2,h3,h4⟩
 ·have c:n=0:=V;cases s with
  |nil=>exact⟨by simp[c,O.cut],by simp[O.cut],Or.inl rfl⟩
  |Bi d o p=>exact⟨by simp[c,O.cut],by simp[O.cut],Or.inl rfl⟩
  |mk d o r p=>simp at g;subst g;exact⟨by simp[c,O.cut],by simp[c,O.cut],Or.inl (by simp[O.cut])⟩
 ·rw[h1];have c:s.len<=f:=by rw[h1]at i;exact i
  refine⟨?_,by simp[O.cut];omega,Or.inr ⟨d,f,l.drop (n*a)++tail,?_,h2,?_,?_⟩⟩
  ·simp only[O.cut,O.fZ,cZ,Uo];have:n*a<=s.len*a:=da _ j;omega
  ·simp[O.cut]
  ·rw[<-eI,df];exact h3
  ·rw[<-eI,df];exact h4
end
def gY.append{f:Nat->Nat}{d:I}{i k:Nat}{zs:List Ce}{t:Nat}{s x:O}{l:List Ce}{K:O->I->Prop}(h:gY f d i zs.length k s l)(q:∀a,d.size<=a->f a=0)
 (j:new.length=x.len*zs.length)(A:fU d x.F x.off new)(g:(s.len+x.len)*t<=140737488355328)
 (p:∀u n c,gY u c i zs.length k n (l++new)->dA (λw=>w=k) f d u c->K n c):iP d i zs t s x K:=by
 have F:=h.le
 refine⟨new,j,A,λC=>?_,λD=>⟨g,l,h.len,h.jA,λc u=>?_⟩⟩
 ·rcases h.u with B|⟨a,c,tail,h1,h2,h3,h4⟩
  ·have v:x.len=0:=V
   have z:new=[]:=List.length_eq_zero_iff.1 (by rw[j,v];simp)
   subst z
   refine⟨λw y=>by simp at y,?_⟩
   have n:=p f s _ (by rw[gV];exact h) (dA.aC _ q)
   cases s with
   |nil=>exact n
   |Bi a o G=>exact n
   |mk a o G c=>simp only[v,iJ];exact n
  ·have v:=h.len
   have z:s.cap=c:=by rw[h1];rfl
   rw[h1]
   simp only[O.jb,O.mN,O.fZ,bQ]
   simp only[bg]at h4
   have y:new.length<=tail.length:=by
    have w:(s.len+x.len)*zs.length<=c*zs.length:=da _ V;rw[fD]at w;omega
   refine⟨h3.fu (by simp only[bg];omega),?_⟩
   have n:=cD.aj (m:=d) (b:=a) (e:=i) (r:=new) (o:=s.len*zs.length) h3
   rw[<-v,zp l new tail y]at n
   refine p f _ _ ⟨?_,?_,Or.inr ⟨a,c,tail.drop new.length,rfl,h2,?_,?_⟩⟩ (dA.aj q h2 _ _)
   ·simp only[bg,O.fZ,fD];omega
   ·simp only[O.fZ,O.Ln];omega
   ·rw[<-v];exact n
   ·simp only[bg,Yy];omega
 ·refine p (λa=>if a=d.size then k else f a) _ _ ⟨?_,?_,Or.inr ⟨d.size,c,lS zs (c -(s.len+x.len)),rfl,E,cD.push _ _ _,?_⟩⟩ ⟨E,λa g=>ae V,λa g=>?_,λa g _=>by rw[vQ,ae V]⟩
  ·simp only[bg,O.fZ,fD,h.len,j]
  ·simpa using u
  ·simp only[bg,pK,h.len,j]
   rw[Nat.sub_mul,<-fD]
   have:(s.len+x.len)*zs.length<=c*zs.length:=da _ u
   omega
  ·simp at g;rw[ae V];exact q a V
def gY.iC{d:Nat->Nat}{i m:I}{e f k:Nat}{s:O}{l:List Ce}(h:iZ i m e f s l)(g:s≠.nil->d s.F=k):gY d m e f k s l:=by
 refine⟨h.len,?_,?_⟩
 ·rcases h.u with a|⟨b,c,tail,a,h2,h3,h4,h5⟩
  ·rw[a];exact ad _
  ·rw[a];exact h5
 ·rcases h.u with a|⟨b,c,tail,a,h2,h3,h4,h5⟩
  ·rw[a];exact Or.inl rfl
  ·refine Or.inr ⟨b,c,tail,a,?_,h3,h4⟩;have:=g (by rw[a];simp);rw[a]at this;exact this
def gY.pw{e:Nat->Nat}{m:I}{k:Nat}{s:O}{l:List Int}(h:gY e m aB 1 k s (l.map Ce.i))(g:l.length<=9223372036854775807):au m s l:=by
 have d:s.len=l.length:=by have:=h.len;simp at this;omega
 refine⟨d,h.le,V,λj x c=>⟨[.i x],rfl,λi f a=>?_⟩⟩;have b:i=0:=by have:=ax a;simp at this;omega
 subst b;simp at a;subst a;have:=h.jA j (.i x) (by simp[c]);simpa using this
def xF(l:List Int)(i:Nat)(v:Int):iD (l.map Ce.i) i [.i v]=(l.set i v).map Ce.i:=by simp[iD,wQ]
def gY.gU{a:Nat->Nat}{m:I}{k:Nat}{s:O}{l:List Int}(h:gY a m aB 1 k s (l.map Ce.i))(b:0<=i)(c:i<l.length)(v:Int):gY a (aj m s.F (s.off+i.toNat*1) [.i v]) aB 1 k s ((Go.Proofs.YtakpkjhmbbfniaaGreat.gU l i v).map Ce.i):=by
 have:=h.set (o:=i.toNat) (new:=[.i v]) bF;rw[xF]at this;rw[dP];exact this
def gY.P1{a:Nat->Nat}{m:I}{k:Nat}{s:O}{l:List Int}(h:gY a m aB 1 k s (l.map Ce.i))(b:0<=i)(c:i<l.length):fu m s.F (s.off+i.toNat*1) 1:=by
 rw[dP];exact h.wr bF
def FB(m:I)(f:O)(l:List Int):Prop:=∃c tail,f=.mk f.F 0 f.len c/\cD m f.F aB (l.map Ce.i++tail)
def FN(N:Nat)(a:Nat->Nat)(m:I)(f:O)(l:List Int):Prop:=l≠[]->a f.F=0/\N<=f.F/\FB m f l
def FZ(N:Nat)(b:Nat->Nat)(m:I)(a:List Ce)(c:bL):Prop:=∃f,a=[.i c.aQ,.i c.lA,.s f]/\au m f c.aI/\FN N b m f c.aI
def Ur(e:List (List Ce)):Prop:=∀(i j:Nat)(c d:List Ce)(a b:O),e[i]? =some c->e[j]? =some d->c[2]? =some (.s a)->d[2]? =some (.s b)->i≠j->a.len≠0->b.len≠0->a.F≠b.F
def Ur.nil:Ur []:=λi j c d a b h=>by simp at h
def eB(N:Nat)(b:Nat->Nat)(m:I)(c:O)(h:List bL):Prop:=∃a,gY b m qK 3 3 c a.flatten/\fX 3 (FZ N b m) a h/\Ur a
def Rk(a:Nat->Nat)(m:I)(i:Nat)(b:List Ce)(f:a9):Prop:=
 ∃r o h,b=[.i f.eU,.i f.pc,.i f.dst,.s r,.s o,.s h]/\gY a m aB 1 (10+3*i) r (f.av.map Ce.i)/\gY a m aB 1 (11+3*i) o (f.aV.map Ce.i)/\gY a m aB 1 (12+3*i) h (f.be.map Ce.i)
structure Wq(ro:Nat->Nat)(m:I)(fr:O)(fs:List a9)(css:List (List Ce)):Prop where
 qQ:gY ro m ez 6 4 fr css.flatten
 len:css.length=fs.length
 size:∀cs∈css,cs.length=6
 dh:∀(i:Nat)(cs:List Ce)(f:a9),css[i]? =some cs->fs[i]? =some f->Rk ro m i cs f
def nu(d:Nat->Nat)(m:I)(b:O)(c:List a9):Prop:=∃a,Wq d m b c a
def mC{m b:I}{l:List Int}(h:au m f l)(j:l≠[]->b[f.F]? =m[f.F]?):au b f l:=by
 by_cases a:l=[]
 ·subst a;exact⟨h.len,h.cap,h.gA,E⟩
 ·exact⟨h.len,h.cap,h.gA,λo x n=>let⟨d,e,g⟩:=h.jA o x n;⟨d,e,λi c k=>by rw[aJ (j a)];exact g i c k⟩⟩
def nv{m:I}{l:List Int}(h:au m f l)(a:l≠[]):f.F<m.size:=by
 cases l with
 |nil=>exact absurd rfl a
 |cons b l=>exact tJ (h.u (k:=0) (x:=b) rfl)
def FZ.fe{N:Nat}{l n:Nat->Nat}{m k:I}(c:dA p l m n k)(i:¬p 0)(e:List Ce)(d:bL):FZ N l m e d->FZ N n k e d:=λ⟨f,s,b,j⟩=>
 ⟨f,s,mC b λa=>c.fw _ (nv b a) (by rw[(j a).1];exact i),λa=>by
  obtain⟨g,q,o,tail,r,h⟩:=j a;exact⟨by rw[c.iS _ (nv b a)];exact g,q,o,tail,r,h.congr (c.fw _ h.lt (by rw[g];exact i))⟩⟩
def eB.fe{N:Nat}{p:Nat->Prop}{d e:Nat->Nat}{m c:I}{b:O}{h:List bL}(n:eB N d m b h)(a:dA p d m e c)(g:¬p 0)(k:¬p 3):eB N e c b h:=by
 obtain⟨f,i,j,l⟩:=n;exact⟨f,i.fe a k,j.mono (FZ.fe a g),l⟩
def Rk.fe{p:Nat->Prop}{e g:Nat->Nat}{m d:I}(a:dA p e m g d){i:Nat}(b:∀k,10+3*i<=k->k<=12+3*i->¬p k){c:List Ce}{f:a9}:Rk e m i c f->Rk g d i c f:=λ⟨r,o,h,j,k,l,n⟩=>
 ⟨r,o,h,j,k.fe a (b _ V V),l.fe a (b _ V V),n.fe a (b _ V V)⟩
def nu.fe{p:Nat->Prop}{g j:Nat->Nat}{m e:I}{a:O}{b:List a9}(r:nu g m a b)(c:dA p g m j e)(d:∀k,(k=4\/10<=k)->¬p k):nu j e a b:=by
 obtain⟨n,h⟩:=r;exact⟨n,h.qQ.fe c (d 4 V),h.len,h.size,λi l f o q=>(h.dh i l f o q).fe c λk s _=>d k V⟩
structure AA(m0:I)(ro:Nat->Nat)(m:I)(mb e:Nat)(bx:List Ce)(bq hp fr:O)(lo:List Int)(lh:List bL)(lf:List a9):Prop where
 cF:J m0 m
 jW:∀b,b<m0.size->ro b=0
 new:∀b,m.size<=b->ro b=0
 box:cD m mb e bx
 Pc:ro mb=1
 bq:gY ro m aB 1 2 bq (lo.map Ce.i)
 heap:eB m0.size ro m hp lh
 ak:nu ro m fr lf
section
variable{h:I}{a d:Nat->Nat}{m b:I}{c e:Nat}{g:List Ce}{bq k j:O}{p:List Int}{o:List bL}{l:List a9}
def AA.ext(L:AA h a m c e g bq k j p o l)(f:J m b):AA h a b c e g bq k j p o l/\To a m a b:=by
 have d:∀p,dA p a m a b:=λp=>dA.fj p f L.new;exact⟨⟨L.cF.trans f,L.jW,(d (λ_=>False)).new,L.box.ext f,L.Pc,L.bq.fe (d (λ_=>False)) id,L.heap.fe (d (λ_=>False)) id id,L.ak.fe (d (λ_=>False)) λ_ _=>id⟩,d _⟩
def AA.nU(L:AA h a m c e g bq k j p o l)(i:Nat)(b:List Ce):AA h a (aj m c i b) c e (iD g i b) bq k j p o l/\To a m a (aj m c i b):=by
 have d:dA (λf=>f=1) a m a (aj m c i b):=dA.aj L.new L.Pc _ _;have n:To a m a (aj m c i b):=d.mono λf s=>V;obtain⟨q,r⟩:=n.cF L.cF L.jW;exact⟨⟨q,r,d.new,cD.aj (m:=m) L.box,L.Pc,L.bq.fe d bd,L.heap.fe d bd bd,L.ak.fe d λf s=>V⟩,n⟩
def AA.vO(L:AA h a m c e g bq k j p o l){i:Nat}(b:i+n<=g.length):fu m c i n:=L.box.fu b
def AA.jf(L:AA h a m c e g bq k j p o l)(f:dA (λi=>i=3\/i=5\/i=6) a m d b){n:O}{r:List bL}(u:eB h.size d b n r):AA h d b c e g bq n j p r l/\To a m d b:=by
 have q:To a m d b:=f.mono λi v=>V;obtain⟨s,t⟩:=q.cF L.cF L.jW;exact⟨⟨s,t,f.new,L.box.congr (f.fw _ L.box.lt (by rw[L.Pc];decide)),by rw[f.iS _ L.box.lt];exact L.Pc,L.bq.fe f bd,u,L.ak.fe f λi v=>V⟩,q⟩
def AA.I9(L:AA h a m c e g bq k j p o l)(f:dA (λi=>i=2) a m d b){r:O}{q:List Int}(u:gY d b aB 1 2 r (q.map Ce.i)):AA h d b c e g r k j q o l/\To a m d b:=by
 have n:To a m d b:=f.mono λi v=>V;obtain⟨s,t⟩:=n.cF L.cF L.jW;exact⟨⟨s,t,f.new,L.box.congr (f.fw _ L.box.lt (by rw[L.Pc];decide)),by rw[f.iS _ L.box.lt];exact L.Pc,u,L.heap.fe f bd bd,L.ak.fe f λi v=>V⟩,n⟩
def AA.kW(L:AA h a m c e g bq k j p o l)(f:dA (λi=>4<=i/\i≠9) a m d b){n:O}{r:List a9}(u:nu d b n r):AA h d b c e g bq k n p o r/\To a m d b:=by
 have q:To a m d b:=f.mono λi v=>V;obtain⟨s,t⟩:=q.cF L.cF L.jW;exact⟨⟨s,t,f.new,L.box.congr (f.fw _ L.box.lt (by rw[L.Pc];decide)),by rw[f.iS _ L.box.lt];exact L.Pc,L.bq.fe f bd,L.heap.fe f bd bd,u⟩,q⟩
end
end
section
variable{α:Type}{k:Nat}
def up{α:Type}(f:Nat->α)(k:Nat)(x:α):Nat->α:=λj=>if j=k then x else f j
@[simp] theorem En (f:Nat->α) (k:Nat) (x:α):up f k x k=x:=aq rfl
def Nq(f:Nat->α)(k:Nat)(x:α){j:Nat}(h:j≠k):up f k x j=f j:=ae h
def Nf(a:Nat->O):List Ce:=[.s (a 0),.s (a 1),.s (a 2),.s (a 3),.s (a 4),.s (a 5),.s (a 6)]
def PO(a:Nat->O)(b:k<7):(Nf a)[k]? =some (.s (a k)):=by
 rcases k with _|_|_|_|_|_|_|k<;>first|rfl|omega
def KT(a:Nat->O)(b:k<7)(r:O):iD (Nf a) k [.s r]=Nf (up a k r):=by
 rcases k with _|_|_|_|_|_|_|k<;>first|rfl|omega
structure ik(ro:Nat->Nat)(m:I)(lb:Nat)(sl:Nat->O)(L:Nat->List Int):Prop where
 new:∀b,m.size<=b->ro b=0
 iS:ro lb=8
 box:cD m lb yW (Nf sl)
 qQ:∀k,k<7->gY ro m aB 1 (k+1) (sl k) ((L k).map Ce.i)
section
variable{d h:Nat->Nat}{m f:I}{b:Nat}{a:Nat->O}{L:Nat->List Int}
def ik.cy(h:ik d m b a L){k:Nat}(c:k<7):D m b k=some (O.v (a k)):=by
 rw[h.box.cy,PO a c];rfl
def ik.pw(h:ik d m b a L){k:Nat}(c:k<7)(e:(L k).length<=1000000000000):au m (a k) (L k):=(h.qQ k c).pw V
def ik.len(h:ik d m b a L){k:Nat}(c:k<7):(a k).len=(L k).length:=by have:=(h.qQ k c).len;simp at this;omega
def ik.to(h:ik d m b a L):To d m d m:=dA.aC _ h.new
def ik.ext(h:ik d m b a L)(c:J m f):ik d f b a L:=
 ⟨λg j=>h.new g (bI c.size j),h.iS,h.box.congr (c.same b h.box.lt),λk e=>(h.qQ k e).fw (λi=>c.same _ ((h.qQ k e).F i).1) λ_=>rfl⟩
def ik.jN(o:ik d m b a L)(q:k<7)(B:(L k).length<=1000000000000)(i:Int){K:O->I->Prop}
 (A:∀h r f,To d m h (aj f b k [.s r])->ik h (aj f b k [.s r]) b (up a k r) (up L k (L k++[i]))->K r f):
 iP (m.push (.cells (br [.i i]) aB)) aB [.i 0] 8 (a k) (.mk m.size 0 1 1) λr f=>fu f b k 1/\K r f:=by
 have y:=J.push m (.cells (br [.i i]) aB)
 have c:=o.ext y
 have C:=o.len q
 refine gY.append (zs:=[.i 0]) (new:=[.i i]) (c.qQ k q) c.new E ?_ (by simp only[O.fZ];omega) λh r f u j=>?_
 ·exact(cD.push m (e:=aB) (l:=[.i i])).jA
 have w:cD f b yW (Nf a):=c.box.congr (j.fw b c.box.lt (by simp only[c.iS];omega))
 have n:h b=8:=by rw[j.iS b c.box.lt,c.iS]
 have z:To d m h f:=(dA.fj _ y o.new).trans (j.mono λs x=>V)
 have t:To d m h (aj f b k [.s r]):=z.trans (dA.aj j.new (by simp only[n];omega) _ _)
 refine⟨w.fu (by show k+1<=7;omega),A h r f t ⟨t.new,n,KT a q r▸cD.aj (m:=f) w,λs x=>?_⟩⟩
 by_cases g:s=k
 ·subst g
  rw[En,En,eQ]
  refine u.fw (λp=>bn _ _ _ _ λg=>?_) λ_=>rfl
  have:=(u.F p).2
  rw[g,n]at this;omega
 ·rw[Nq _ _ _ g,Nq _ _ _ g]
  have v:=(c.qQ s x).fe j V
  refine v.fw (λp=>bn _ _ _ _ λg=>?_) λ_=>rfl
  have:=(v.F p).2
  rw[g,n]at this;omega
def ik.put(h:ik d m b a L){i:Nat}(r:k<7)(n:i<(L k).length)(x:Int):
 fu m (a k).F ((a k).off+i*1) 1/\ik d (aj m (a k).F ((a k).off+i*1) [.i x]) b a (up L k ((L k).set i x))/\To d m d (aj m (a k).F ((a k).off+i*1) [.i x]):=by
 have g:=h.qQ k r
 have s:(L k).map Ce.i≠[]:=λe=>by simp at e;rw[e]at n;simp at n
 have f:(a k).cap≠0:=λf=>s (g.CU f).1
 obtain⟨t,j⟩:=g.F f
 have c:To d m d (aj m (a k).F ((a k).off+i*1) [.i x]):=dA.aj h.new (by simp only[j];omega) _ _
 refine⟨g.wr bF,⟨c.new,h.iS,h.box.congr (bn _ _ _ _ λe=>by have:=h.iS;rw[e,j]at this;omega),λp q=>?_⟩,c⟩
 by_cases e:p=k
 ·subst e
  rw[En]
  have:=g.set (o:=i*1) (new:=[.i x]) bF
  rw[xF,dP]at this
  rw[dP];exact this
 ·rw[Nq _ _ _ e]
  have l:=h.qQ p q
  refine l.fw (λf=>bn _ _ _ _ λe=>?_) λ_=>rfl
  have:=(l.F f).2
  rw[e,j]at this;omega
def ik.Ue(h:ik d m b a L)(g:k<7){r:O}{l:List Int}(n:gY d m aB 1 (k+1) r (l.map Ce.i)):
 fu m b k 1/\ik d (aj m b k [.s r]) b (up a k r) (up L k l)/\To d m d (aj m b k [.s r]):=by
 have c:To d m d (aj m b k [.s r]):=dA.aj h.new (by simp only[h.iS];omega) _ _
 refine⟨h.box.fu (by show k+1<=7;omega),⟨c.new,h.iS,KT a g r▸cD.aj (m:=m) h.box,λj f=>?_⟩,c⟩
 have K:∀{i s l},gY d m aB 1 (i+1) s l->i<7->gY d (aj m b k [.s r]) aB 1 (i+1) s l:=λ{i s l} g' hk'=>by
  refine g'.fw (λo=>bn _ _ _ _ λe=>?_) λ_=>rfl;have:=(g'.F o).2;rw[e,h.iS]at this;omega
 by_cases e:j=k
 ·subst e
  rw[En,En];exact K n g
 ·rw[Nq _ _ _ e,Nq _ _ _ e];exact K (h.qQ j f) f
def ik.cut(h:ik d m b a L){k n:Nat}(c:k<7)(j:n<=(L k).length):
 n<=(a k).cap/\fu m b k 1/\ik d (aj m b k [.s ((a k).cut 0 n 1)]) b (up a k ((a k).cut 0 n 1)) (up L k ((L k).take n))/\To d m d (aj m b k [.s ((a k).cut 0 n 1)]):=by
 have g:=h.qQ k c
 have f:=h.len c
 have i:=g.le
 have e:=g.cut (n:=n) V
 rw[dP,<-KZ]at e
 exact⟨V,h.Ue c e⟩
end
structure ou(ds:List bO)(n b:Nat)(L:Nat->List Int):Prop where
 len:∀k,k<6->(L k).length=n
 Uc:∀(v:Nat)(p:Int),(L 2)[v]? =some p->p<v
 Mj:∀(v:Nat)(c f:Int),(L 3)[v]? =some c->(L 4)[v]? =some f->0<=c->0<=f/\f+((bT ds c).length:Int)<=b
 cV:(L 6).length<=1000000000000
abbrev qt(a:List bO)(n:Nat)(L:Nat->List Int):Prop:=ou a n n L
def Iu(L:Nat->List Int)(t o p:Int):Nat->List Int:=up (up (up (up (up (up L 0 (L 0++[t])) 1 (L 1++[o])) 2 (L 2++[p])) 3 (L 3++[-1])) 4 (L 4++[-1])) 5 (L 5++[-1])
def yg{j:Nat->Nat}{m:I}{b:Nat}{x:Nat->O}{L:Nat->List Int}(h:ik j m b x L)(a:∀k,k<6->(L k).length<=1000000000000)(t o p:Int):
 aN bY 194 [vp b 0,vi t,vi o,vi p] m λ_ i=>∃l y,To j m l i/\ik l i b y (Iu L t o p):=by
 apply va (b,0)
 simp -zeta only[bQ]
 refine⟨_,h.cy (k:=0) bd,?_⟩
 intro z
 refine h.jN (k:=0) bd (a 0 bd) t λN U F n c=>⟨_,c.cy (k:=1) bd,?_⟩
 intro A
 refine c.jN (k:=1) bd (a 1 bd) o λP V G q d=>⟨_,d.cy (k:=2) bd,?_⟩
 intro B
 refine d.jN (k:=2) bd (a 2 bd) p λQ W H r e=>⟨_,e.cy (k:=3) bd,?_⟩
 intro C
 refine e.jN (k:=3) bd (a 3 bd) (-1) λR X J s f=>⟨_,f.cy (k:=4) bd,?_⟩
 intro D
 refine f.jN (k:=4) bd (a 4 bd) (-1) λS Y K u g=>⟨_,g.cy (k:=5) bd,?_⟩
 intro E
 exact g.jN (k:=5) bd (a 5 bd) (-1) λT Z M v w=>⟨_,_,((((n.trans q).trans r).trans s).trans u).trans v,w⟩
end
section
variable{l:List Int}{d:Nat->Nat}{a:I}{P:(Nat->List Int)->Prop}{b:Nat}{v:Int}
def GI.bq{S:List Nat}{o n:I}{s:O}(h:GI S o n s l):iZ o n aB 1 s (l.map Ce.i):=by
 have v:=h.len bd;obtain⟨t,d,p,a⟩:=h;have u:d.flatten.length=l.length:=by rw[cX a.size,a.len];omega
 have r:d.flatten=l.map Ce.i:=by
  apply fK;intro e;rcases aX e l.length with b|b
  ·obtain⟨x,m⟩:=ag b;obtain⟨f,j⟩:=ag (l:=d) (k:=e) (by rw[a.len];exact b);have q:f=[.i x]:=a.dh e f x j m;have g:=gZ (a:=1) a.size j (i:=0) (e:=.i x) (by rw[q];rfl);simp only[dP,iJ]at g;rw[g];simp[m]
  ·rw[bZ V,bZ (by simpa using b)]
 rw[<-r];exact p
def zt(f:Nat->Nat)(m:I)(e:Nat)(P:(Nat->List Int)->Prop)(v:Value)(a:I):Prop:=∃(b:Bool)(d:Nat->Nat),v=vb b/\To f m d a/\(b=true->∃g c,ik d a e g c/\P c)
def zt.no{b:Nat->Nat}{m:I}{c:Nat}(h:To b m d a):zt b m c P (vb false) a:=⟨false,d,rfl,h,E⟩
def zt.Ml{c:Nat->Nat}{m:I}{b:Nat}{e:Nat->O}{L:Nat->List Int}(h:To c m d a)(f:ik d a b e L)(g:P L):zt c m b P (vb true) a:=⟨true,d,rfl,h,λ_=>⟨e,L,f,g⟩⟩
def zt.mono{e:Nat->Nat}{m:I}{c:Nat}{Q:(Nat->List Int)->Prop}{v:Value}(h:zt e m c P v a)(n:∀L,P L->Q L):zt e m c Q v a:=let⟨b,d,f,g,i⟩:=h;⟨b,d,f,g,λl=>let⟨o,L,j,k⟩:=i l;⟨o,L,j,n L k⟩⟩
def ou.aV{a:List bO}{n:Nat}{L:Nat->List Int}(h:ou a n b L)(g:l.length=n):ou a n b (up L 1 l):=
 ⟨λk d=>by by_cases e:k=1<;>simp_all [up,h.len k],λv p=>by simpa[up]using h.Uc v p,λv c f=>by simpa[up]using h.Mj v c f,by simpa[up]using h.cV⟩
def ou.Xl{a:List bO}{n:Nat}{L:Nat->List Int}(h:ou a n b L)(g:l.length=n):ou a n b (up L 5 l):=
 ⟨λk d=>by by_cases e:k=5<;>simp_all [up,h.len k],λv p=>by simpa[up]using h.Uc v p,λv c f=>by simpa[up]using h.Mj v c f,by simpa[up]using h.cV⟩
def Ir{b x:Int}{v:Nat}(h:(l++[b])[v]? =some x):l[v]? =some x\/v=l.length/\x=b:=by
 rcases aX v l.length with a|a
 ·rw[aw a]at h;exact Or.inl h
 ·rw[aF a]at h;have:=ax h;simp at this;have e:v=l.length:=V;subst e;simp at h;exact Or.inr ⟨rfl,h.symm⟩
def ou.AY{c:List bO}{n a:Nat}{L:Nat->List Int}(h:ou c n b L)(j:b<=a):ou c n a L:=
 ⟨h.len,h.Uc,λv d f g i e=>by have:=h.Mj v d f g i e;omega,h.cV⟩
def ou.LA{f:List bO}{n:Nat}{L:Nat->List Int}(h:ou f n b L)(u t:Int){p:Int}(r:p<n):ou f (n+1) b (Iu L u t p):=by
 have a:=h.len;refine⟨λk w=>?_,λv q s=>?_,λv e g j m i=>?_,by simpa[Iu,up]using h.cV⟩
 ·rcases k with _|_|_|_|_|_|k<;>first|omega|(simp[Iu,up,a])
 ·have d:(L 2++[p])[v]? =some q:=by simpa[Iu,up]using s
  rcases Ir d with c|⟨rfl,rfl⟩
  ·exact h.Uc v q c
  ·rw[a 2 bd];exact r
 ·have l:(L 3++[-1])[v]? =some e:=by simpa[Iu,up]using j
  have o:(L 4++[-1])[v]? =some g:=by simpa[Iu,up]using m
  rcases Ir l with c|⟨rfl,rfl⟩
  ·rcases Ir o with d|⟨d,rfl⟩
   ·have:=h.Mj v e g c d i;omega
   ·have:=ax c;rw[a 4 bd]at d;rw[a 3 bd]at this;omega
  ·omega
section
variable{e:Nat->Nat}{m:I}{c:Nat}{f:Nat->O}{L:Nat->List Int}{g:List bO}{n:Nat}
def ik.u(h:ik e m c f L){k:Nat}(b:k<7)(d:(L k).length<=1000000000000){i:Nat}{x:Int}(a:(L k)[i]? =some x):D m (f k).F ((f k).off+i*1)=some (vi x):=(h.pw b d).u a
def sS(h:ik e m c f L)(q:qt g n L)(u:n<=1000000000000)(a:0<=v)(s:v<n):aN bY 195 [vp c 0,vi v] m (zt e m c λb=>∃l:List Int,l.length=n/\b=up L 1 l):=by
 apply vf (c,0);simp -zeta only[bQ];have o:=q.len 1 bd;have t:=h.len (k:=1) bd;obtain⟨x,r⟩:=ag (l:=L 1) (k:=v.toNat) V;have d:=h.u bd V r;have b:=h.cy (k:=1) bd;obtain⟨w,p,j⟩:=h.put (k:=1) (i:=v.toNat) bd V (cO (x -1));exact⟨_,b,a,V,x,d,λ_=>.no h.to,λ_=>⟨_,b,_,b,a,V,x,d,a,V,w,.Ml j p ⟨_,by simp[o],rfl⟩⟩⟩
def qB(r:ik e m c f L)(i:qt g n L)(u:n<=1000000000000)(h:0<=v)(p:v<n):mV 123 [vp c 0,vi v] m:=by
 apply ug (c,0);refine⟨λv a=>0<=v/\v<(n:Int)/\J m a,λv _=>v.toNat,⟨h,p,J.aC _⟩,?_⟩;rintro v B ⟨h,p,d⟩;have H:=r.ext d;have z:=H.len (k:=1) bd;have A:=H.len (k:=2) bd;have D:=i.len 1 bd;have E:=i.len 2 bd;obtain⟨x,t⟩:=ag (l:=L 1) (k:=v.toNat) V;obtain⟨y,q⟩:=ag (l:=L 2) (k:=v.toNat) V;have w:=i.Uc _ _ q;refine⟨_,H.cy (k:=1) bd,h,V,x,H.u bd V t,λ_=>⟨_,H.cy (k:=6) bd,?_⟩,λ_=>rA d⟩;refine(cU (H.pw (k:=6) bd i.cV) v).then λb C _ j=>⟨_,rfl,λ_=>?_,λ_=>rA (d.trans j)⟩;have o:=H.ext j;refine⟨_,o.cy (k:=2) bd,h,V,y,o.u bd V q,λ_=>rA (d.trans j),λs=>?_⟩;simp only[bN]at s;exact⟨⟨V,V,d.trans j⟩,by show y.toNat<v.toNat;omega⟩
def Jg(h:ik e m c f L)(t:qt g n L)(Q:n<=1000000000000){b:Nat}(G:b<=n):aN bY 268 [vp c 0,vi b] m (zt e m c λd=>(∀j,j<6->(d j).length=b)/\(d 6).length<=1000000000000):=by
 apply wt (c,0);simp -zeta only[bQ];refine⟨λv a=>(b:Int)<=v/\v<=n/\a=m,λv _=>((n:Int) -v).toNat,⟨V,V,rfl⟩,?_⟩;rintro v U ⟨O,o,rfl⟩;have i:=λj(F:j<6)=>h.len (k:=j) V;have d:=t.len;have R:=i 0 bd;have S:=i 1 bd;have T:=i 5 bd;have n0:=d 0 bd;have n1:=d 1 bd;have n5:=d 5 bd;refine⟨_,h.cy (k:=0) bd,λu=>?_,λu=>?_⟩
 ·simp only[ao]at u;obtain⟨x,p⟩:=ag (l:=L 1) (k:=v.toNat) V;obtain⟨y,q⟩:=ag (l:=L 5) (k:=v.toNat) V;refine⟨_,h.cy (k:=1) bd,V,V,x,h.u bd V p,λ_=>.no h.to,λ_=>⟨_,h.cy (k:=5) bd,V,V,y,h.u bd V q,λ_=>.no h.to,λ_=>?_⟩⟩;rw[aP V V];exact⟨⟨V,V,rfl⟩,by show((n:Int) -(v+1)).toNat<((n:Int) -v).toNat;omega⟩
 ·have tk:∀{l:List Int},l.length=n->(l.take b).length=b:=λP=>bF;have C:Int.toNat (0:Int)=0:=rfl;have D:Int.toNat (b:Int)=b:=V;rw[C,D];obtain⟨p1,H,o,w⟩:=h.cut (k:=0) (n:=b) bd (by rw[d 0 bd];exact G);refine⟨_,h.cy (k:=0) bd,V,V,V,H,?_⟩;intro W;obtain⟨p2,I,p,x⟩:=o.cut (k:=1) (n:=b) bd (by simp[up,d];omega);refine⟨_,o.cy (k:=1) bd,V,V,V,I,?_⟩;intro X;obtain⟨p3,J,q,y⟩:=p.cut (k:=2) (n:=b) bd (by simp[up,d];omega);refine⟨_,p.cy (k:=2) bd,V,V,V,J,?_⟩;intro Y;obtain⟨p4,K,r,z⟩:=q.cut (k:=3) (n:=b) bd (by simp[up,d];omega);refine⟨_,q.cy (k:=3) bd,V,V,V,K,?_⟩;intro Z;obtain⟨p5,M,s,A⟩:=r.cut (k:=4) (n:=b) bd (by simp[up,d];omega);refine⟨_,r.cy (k:=4) bd,V,V,V,M,?_⟩;intro m6;obtain⟨p6,N,E,B⟩:=s.cut (k:=5) (n:=b) bd (by simp[up,d];omega);refine⟨_,s.cy (k:=5) bd,V,V,V,N,?_⟩;intro m7;refine zt.Ml (((((w.trans x).trans y).trans z).trans A).trans B) E ⟨λj F=>?_,?_⟩
  ·rcases j with _|_|_|_|_|_|j<;>first|omega|(simp[up,d];omega)
  ·simpa[up]using t.cV
end
end
section
variable{a:Nat->Nat}{m d c:I}{X:List Nat}
def UP(m:I)(P:(Nat->List Int)->Prop)(v:Value)(c:I):Prop:=∃d,v=vp d 0/\J m c/\∃a e L,(∀b,b<m.size->a b=0)/\ik a c d e L/\P L
def J3{r:Nat}{sl:Nat->O}{L:Nat->List Int}(h:ik a m r sl L)(W:∀b,b<7->(L b).length<=1000000000000):
 aN bY 255 [vp r 0] m (UP m λc=>∀b,b<7->c b=L b):=by
 apply tp (r,0)
 simp -zeta only[bQ]
 refine⟨_,h.cy (k:=0) bd,_,h.cy (k:=1) bd,_,h.cy (k:=2) bd,_,h.cy (k:=3) bd,_,h.cy (k:=4) bd,_,h.cy (k:=5) bd,_,h.cy (k:=6) bd,?_⟩
 have C:∀{M:I}(b:Nat),b<7->J m M->jS 72 [O.v (sl b)] M [] (L b=·):=λb y x=>bB [] ((h.ext x).pw y (W b y)) (W b y)
 have E:∀{M H:I},J m M->J M H->∀z,D H r z=D M r z:=λx x' z=>aJ (x'.same r (x.lt h.box.lt)) z
 have g:=J.aC m
 refine(C 0 bd g).then λY _ m1 K e c=>⟨_,rfl,E g c _,E g c _,E g c _,E g c _,E g c _,E g c _,?_⟩
 subst e
 refine(C 1 bd c).then λZ _ m2 N e i=>⟨_,rfl,E c i _,E c i _,E c i _,E c i _,E c i _,?_⟩
 subst e
 have t:=c.trans i
 refine(C 2 bd t).then λs2 _ m3 P e j=>⟨_,rfl,E t j _,E t j _,E t j _,E t j _,?_⟩
 subst e
 have w:=t.trans j
 refine(C 3 bd w).then λs3 _ m4 Q e l=>⟨_,rfl,E w l _,E w l _,E w l _,?_⟩
 subst e
 have B:=w.trans l
 refine(C 4 bd B).then λs4 _ m5 R e n=>⟨_,rfl,E B n _,E B n _,?_⟩
 subst e
 have G:=B.trans n
 refine(C 5 bd G).then λs5 _ m6 S e o=>⟨_,rfl,E G o _,?_⟩
 subst e
 have u6:=G.trans o
 refine(C 6 bd u6).then λs6 _ u T e p=>⟨_,rfl,?_⟩
 subst e
 intro v
 have q:J u v:=J.push _ _
 have z0:=g.size;have z1:=c.size;have z2:=i.size;have z3:=j.size;have z4:=l.size;have z5:=n.size;have z6:=o.size;have z7:=p.size
 have s8:v.size=u.size+1:=by simp[v]
 have y0:=K.aZ;have y1:=N.aZ;have y2:=P.aZ;have y3:=Q.aZ;have y4:=R.aZ;have y5:=S.aZ;have y6:=T.aZ
 let d:Nat->Nat:=λf=>if f<m.size then 0 else if f<m1.size then 1 else if f<m2.size then 2 else if f<m3.size then 3 else if f<m4.size then 4 else if f<m5.size then 5 else if f<m6.size then 6 else if f<u.size then 7 else if f=u.size then 8 else 0
 let ab:Nat->O:=λb=>if b=0 then Y else if b=1 then Z else if b=2 then s2 else if b=3 then s3 else if b=4 then s4 else if b=5 then s5 else s6
 have A:∀{m0 M:I}{F:O}{X:List Int}{b:Nat},GI [] m0 M F X->J M v->d F.F=b->gY d v aB 1 b F (X.map Ce.i):=λaa x hr=>gY.iC (aa.bq.ext x) λ_=>hr
 refine⟨u.size,rfl,u6.trans (p.trans q),d,ab,L,λf U=>aq U,⟨λf U=>?_,?_,cD.push _ _ _,λb y=>?_⟩,λ_ _=>rfl⟩
 ·simp only[d]
  repeat rw[ae V]
 ·simp only[d]
  repeat rw[ae V]
  simp
 ·rcases b with _|_|_|_|_|_|_|b
  ·exact A (F:=Y) (b:=1) K (i.trans (j.trans (l.trans (n.trans (o.trans (p.trans q)))))) (by simp only[d];rw[ae V,aq V])
  ·exact A (F:=Z) (b:=2) N (j.trans (l.trans (n.trans (o.trans (p.trans q))))) (by simp only[d];rw[ae V,ae V,aq V])
  ·exact A (F:=s2) (b:=3) P (l.trans (n.trans (o.trans (p.trans q)))) (by simp only[d];rw[ae V,ae V,ae V,aq V])
  ·exact A (F:=s3) (b:=4) Q (n.trans (o.trans (p.trans q))) (by simp only[d];rw[ae V,ae V,ae V,ae V,aq V])
  ·exact A (F:=s4) (b:=5) R (o.trans (p.trans q)) (by simp only[d];rw[ae V,ae V,ae V,ae V,ae V,aq V])
  ·exact A (F:=s5) (b:=6) S (p.trans q) (by simp only[d];rw[ae V,ae V,ae V,ae V,ae V,ae V,aq V])
  ·exact A (F:=s6) (b:=7) T q (by simp only[d];rw[ae V,ae V,ae V,ae V,ae V,ae V,ae V,aq V])
  ·omega
structure Ey(d:I)(X:List Nat)(a:Nat->Nat)(m:I):Prop where
 ext:J d m
 ft:∀b,b<d.size->a b=0
 box:∀b∈X,b<m.size/\a b=0
def Ey.to{g:Nat->Nat}(h:Ey d X a m)(e:To a m g c):Ey d X g c:=by
 obtain⟨i,j⟩:=e.cF h.ext h.ft;exact⟨i,j,λb f=>⟨aK (h.box b f).1 e.size,by rw[e.iS b (h.box b f).1];exact(h.box b f).2⟩⟩
def Ey.de{d m c:I}{X:List Nat}{a e:Nat->Nat}(h:Ey d X a m)(b:To a m e c):dV X m c:=b.de h.box
def Ey.fx(h:Ey d X a m)(x:J m c):Ey d X a c:=⟨h.ext.trans x,h.ft,λb e=>⟨x.lt (h.box b e).1,(h.box b e).2⟩⟩
def Fx{s R ac:O}{q:fF}(u:au m s q.params)(Q:au m R q.cV)(ah:q.params.length<=3)(af:q.cV.length<=3)(A:List bO):
 aN bY 163 [.agg #[O.v s,O.v R,vi q.aR,O.v ac,vi q.body.aR]] m (UP m (qt A q.params.length)):=by
 apply yv
 simp -zeta only[aE,aD]
 intro f
 have z:J m f:=J.push _ _
 have s1:f.size=m.size+1:=by simp[f]
 have hl:∀d∈[m.size],d<f.size:=by simp[f]
 clear_value f
 refine(bB [] (Q.ext z) V).aG (J.aC f) hl λs6 _ g P r S _=>⟨_,rfl,?_⟩
 subst r
 intro v
 have T:J g v:=J.push _ _
 have s3:v.size=g.size+1:=by simp[v]
 have z2:=S.size
 have y6:=P.aZ
 let i:Nat->Nat:=λd=>if d<f.size then 0 else if d<g.size then 7 else if d=g.size then 8 else 0
 let e:Nat->List Int:=λb=>if b<6 then[]else q.cV
 let t:Nat->O:=λb=>if b<6 then .nil else s6
 have W:ik i v g.size t e:=by
  refine⟨λd p=>?_,?_,cD.push _ _ _,λb F=>?_⟩
  ·simp only[i];repeat rw[ae V]
  ·simp only[i];repeat rw[ae V]
   simp
  ·by_cases h:b<6
   ·simp only[t,e,aq h];exact⟨E,E,Or.inl rfl⟩
   ·have r:b=6:=V;subst r;simp only[t,e,ae h];refine gY.iC (P.bq.ext T) λ_=>?_;simp only[i];rw[ae V,aq V]
 have Y:qt A 0 e:=by
  refine⟨λb F=>by simp only[e,aq F];rfl,λh s u=>by simp[e]at u,λh o j B=>by simp[e]at B,by simp[e];omega⟩
 have ft:∀d,d<f.size->i d=0:=λd p=>aq p
 clear_value i e t
 have ai:=u.len
 refine eg (n:=q.params.length) V (λb M=>∃a H L,Ey f [m.size] a M/\ik a M g.size H L/\qt A b L) ⟨i,t,e,⟨S.trans T,ft,λd p=>by simp at p;subst p;exact⟨V,ft _ V⟩⟩,W,Y⟩ ?_
 rintro b M X μ F ⟨a,H,L,j,K,C⟩ ab
 refine dit (λZ=>?_) λZ=>?_
 ·obtain⟨y,hy⟩:=ag (l:=q.params) (k:=b) V
  have N:∀(w:Int){h:I},J M h->aN bY 194 [vp g.size 0,vi y,vi w,vi (-1:Int)] h λ_ c=>dV [m.size] h c/\X (cO ((b:Int)+1)) c/\μ (cO ((b:Int)+1)) c<μ b M:=λw h x=>
   (yg (K.ext x) (λaa U=>by rw[C.len aa U];omega) y w (-1)).mono λ_ c⟨aa,ad,o,U⟩=>⟨(j.fx x).de o,ab V _ ⟨aa,ad,_,(j.fx x).to o,U,(C.LA y w V).AY V⟩⟩
  have G:∀{h:I},J M h->D h s.F (s.off+Int.toNat (b:Int)*1)=some (vi y):=λx=>(u.ext (z.trans (j.ext.trans x))).u hy
  refine⟨V,V,y,G (J.aC _),λ_=>?_,λ_=>⟨V,V,y,G (J.aC _),N 0 (J.aC _)⟩⟩
  refine(cU (Q.ext (z.trans j.ext)) (b:Int)).then λd M2 _ x=>⟨λo B=>x.same o (j.box o B).1,_,rfl,λ_=>⟨V,V,y,G x,N 1 x⟩,λ_=>⟨V,V,y,G x,N 0 x⟩⟩
 ·have r:b=q.params.length:=V
  subst r
  exact⟨g.size,rfl,z.trans j.ext,a,H,L,λd p=>j.ft d V,K,C⟩
end
section
def ik.Sv{b:Nat->Nat}{m f:I}{q:Nat}{a:Nat->O}{L:Nat->List Int}(h:ik b m q a L)(ft:∀c,c<f.size->b c=0){k p:Nat}(l:k<7)(c:p<(L k).length):f.size<=(a k).F/\(a k).F<m.size/\b (a k).F=k+1:=by
 have g:=h.qQ k l;have o:(L k).map Ce.i≠[]:=λe=>by simp at e;rw[e]at c;simp at c
 obtain⟨j,d⟩:=g.F λi=>o (g.CU i).1;refine⟨Es λn=>?_,j,d⟩;rw[ft _ n]at d;omega
def Ey.Ql{c m a g:I}{d:Nat->Nat}{l n:Obj}(j:J c m)(ft:∀b,b<c.size->d b=0)(k:∀b,m.size<=b->d b=0)(e:a=m.push l)(h:g=a.push n):Ey c [a.size,m.size] d g:=by
 obtain⟨o,i⟩:=dj e h;subst e;exact⟨j.trans o,ft,λb f=>⟨i b f,k b (by simp at f;omega)⟩⟩
section
variable{e:Nat->Nat}{m b:I}{g:Nat}{o:Nat->O}{L:Nat->List Int}{f:List bO}{h:List fF}{n:Nat}{d r a k:O}{x:cg}{c:Prop}{p:Nat}
def Ni(hx:J b m)(ft:∀t,t<b.size->e t=0)(K:ik e m g o L)(N:qt f n L)(hn:n<=1000000000000)(hN:dI b d r f h)(ha:au b a x.args)(hf:Rr f p c n x)(ap:14<=x.op):
 aN bY 196 [vp g 0,.agg #[O.v d,O.v r],np x a k] m (zt e m g (qt f n)):=by
 apply vd (g,0)
 simp -zeta only[aE,aD,bQ]
 intro P Q
 have st:=Ey.Ql (a:=P) (g:=Q) hx ft K.new rfl rfl
 have x2:J m Q:=(dj (a:=P) (b:=Q) rfl rfl).1
 have W:To e m e Q:=dA.fj _ x2 K.new
 clear_value Q
 clear_value P
 have C:=K.ext x2
 have aC:=ha.len
 have aB:=hf.kv (Or.inl ap)
 obtain⟨z,hy⟩:=ag (l:=x.args) (k:=0) V
 obtain⟨F,y1⟩:=hf.args z (ar hy)
 have U:=N.len
 have n1:=U 1 bd;have n3:=U 3 bd;have n4:=U 4 bd;have n5:=U 5 bd
 have l3:=C.len (k:=3) bd;have l5:=C.len (k:=5) bd
 obtain⟨A,ae⟩:=ag (l:=L 3) (k:=z.toNat) V
 obtain⟨u,ah⟩:=ag (l:=L 4) (k:=z.toNat) V
 obtain⟨tk,av⟩:=ag (l:=L 5) (k:=z.toNat) V
 refine⟨bd,V,z,(ha.ext st.ext).u hy,?_⟩
 refine⟨λM=>0<=A/\∃R af q,q.length=n/\To e m R M/\Ey b [P.size,m.size] R M/\ik R M g af (up L 1 q),?_,?_⟩
 ·refine⟨_,C.cy (k:=3) bd,F,V,A,C.u bd V ae,λ_=>.no W,λs=>?_⟩
  simp only[bN]at s
  refine⟨λ_=>⟨_,C.cy (k:=5) bd,F,V,tk,C.u bd V av,λ_=>.no W,λ_=>?_⟩,λ_=>?_⟩<;>
  ·refine(sS C N hn F y1).mono λaz m3⟨t,R,ac,G,w⟩=>⟨st.de G,t,ac,λB=>.no (W.trans G),λB=>?_⟩
   obtain⟨af,v,h4,q,hl,rfl⟩:=w (by simpa using B)
   exact⟨V,R,af,q,hl,W.trans G,st.to G,h4⟩
 ·rintro m3 ⟨am,aa,D,q,hl,G,S,w⟩
  have e3:(up L 1 q) 3=L 3:=rfl
  have e4:(up L 1 q) 4=L 4:=rfl
  have e5:(up L 1 q) 5=L 5:=rfl
  have e1:(up L 1 q) 1=q:=rfl
  have aw:=w.len (k:=3) bd
  rw[e3]at aw
  obtain⟨f0,f1⟩:=N.Mj z.toNat A u ae ah am
  refine⟨_,w.cy (k:=3) bd,F,V,A,w.u bd (by rw[e3];omega) ae,?_⟩
  have A1:=w.Sv (f:=b) S.ft (k:=1) (p:=z.toNat) bd (by rw[e1];omega)
  have A5:=w.Sv (f:=b) S.ft (k:=5) (p:=z.toNat) bd (by rw[e5];omega)
  have hS:∀t∈[(D 1).F,(D 5).F],t<m3.size:=λt B=>by simp at B;omega
  have al:∀{M:I},J b M->Le b (bz [(D 1).F,(D 5).F] M):=λxx=>(xy b).trans (xx.bz λt B=>Or.inr (by simp at B;omega))
  refine(dm hS (hN.aY.le (al S.ext)) hN.types A).mono λaz m4⟨ak,fl,ac,hs,an,x4⟩=>⟨λt B=>x4.same t (S.box t B).1,ak,ac,?_⟩
  subst an
  have h4:=w.ext x4
  have ay:=S.fx x4
  have c4:To e m aa m4:=G.trans (dA.fj _ x4 w.new)
  have aG:=hs.len
  have f3:=CY hN.types A
  refine eg (n:=(bT f A).length) V (λy M=>∃q,q.length=n/\To e m aa M/\Ey b [P.size,m.size] aa M/\ik aa M g D (up L 1 q)/\Fz [(D 1).F,(D 5).F] m4 M) ⟨q,hl,c4,ay,h4,Fz.aC _ _⟩ ?_
  rintro y M aA μ aF ⟨v,Z,X,ab,s,ad⟩ aj
  have aq:=hs.le (ad.cK λ_ K=>K)
  refine⟨λai=>?_,λai=>?_⟩
  ·simp only[ao]at ai
   obtain⟨ax,hz⟩:=ag (l:=bT f A) (k:=y) V
   refine⟨V,V,ax,(aq.le (bo _ _)).u hz,λ_=>?_,λ_=>aj V _ ⟨v,Z,X,ab,s,ad⟩⟩
   have E3:(up L 1 v) 4=L 4:=rfl
   have E1:(up L 1 v) 1=v:=rfl
   have G1:=s.cy (k:=1) bd
   have G4:=s.cy (k:=4) bd
   have l4:=s.len (k:=4) bd
   have l1:=s.len (k:=1) bd
   rw[E3]at l4;rw[E1]at l1
   have V4:=s.u (k:=4) bd (by rw[E3];omega) ah
   have ew:cO (u+(y:Int))=u+y:=aP V V
   obtain⟨T,hw⟩:=ag (l:=v) (k:=(u+(y:Int)).toNat) V
   obtain⟨wr,Y,H⟩:=s.put (k:=1) (i:=(u+(y:Int)).toNat) bd (by rw[E1];omega) (cO (T+1))
   refine⟨_,G1,_,G4,F,V,u,V4,_,G1,_,G4,F,V,u,V4,?_⟩
   rw[ew]
   refine⟨V,V,T,s.u (k:=1) bd (by rw[E1];omega) hw,V,V,wr,ab.de H,aj V _ ⟨v.set (u+(y:Int)).toNat (cO (T+1)),by simp[Z],X.trans H,ab.to H,?_,ad.aj (Or.inl E) _ _⟩⟩
   have:up (up L 1 v) 1 ((up L 1 v) 1|>.set (u+(y:Int)).toNat (cO (T+1)))=up L 1 (v.set (u+(y:Int)).toNat (cO (T+1))):=by funext j;simp only[up];split<;>rfl
   rw[this]at Y;exact Y
  ·refine⟨λ_=>?_,λ_=>.Ml X s (N.aV Z)⟩
   have T:(up L 1 v) 5=L 5:=rfl
   have ax:=s.len (k:=5) bd
   rw[T]at ax
   obtain⟨wr,Y,H⟩:=s.put (k:=5) (i:=z.toNat) bd (by rw[T];omega) (ak.len:Int)
   exact⟨_,s.cy (k:=5) bd,F,V,wr,ab.de H,.Ml (X.trans H) Y ((N.aV Z).Xl (by rw[T];simp[n5]))⟩
def Hc(hx:J b m)(ft:∀j,j<b.size->e j=0)(P:ik e m g o L)(hi:qt f n L)(hn:n<=1000000000000)(hN:dI b d r f h)(A:au b a x.args)(C:Rr f h.length c n x):
 aN bY 198 [vp g 0,.agg #[O.v d,O.v r],np x a k] m (zt e m g (qt f n)):=by
 apply rB (g,0)
 simp -zeta only[aE,aD,bQ]
 intro H F
 have st:=Ey.Ql (a:=H) (g:=F) hx ft P.new rfl rfl
 have x2:J m F:=(dj (a:=H) (b:=F) rfl rfl).1
 have c2:To e m e F:=dA.fj _ x2 P.new
 clear_value F
 clear_value H
 have h2:=P.ext x2
 have Z:=A.len
 have Y:∀{M:I},J b M->At M d r a k f h x:=λxx=>⟨hN.le xx.le,A.ext xx,C.call⟩
 refine eg (n:=x.args.length) (Z▸A.gA) (λ_ M=>∃s S K,qt f n K/\To e m s M/\Ey b [H.size,m.size] s M/\ik s M g S K) ⟨e,o,L,hi,c2,st,h2⟩ ?_
 rintro aa M af μ ah ⟨R,ae,X,u,N,B,q⟩ ac
 refine⟨λD=>?_,λD=>?_⟩
 ·simp only[ao]at D
  obtain⟨G,E⟩:=ag (l:=x.args) (k:=aa) V
  obtain⟨U,W⟩:=C.args G (ar E)
  have N0:=u.len 0 bd
  refine⟨_,q.cy (k:=0) bd,?_⟩
  refine(lx (Y B.ext) (q.pw (k:=0) bd V) (by rw[N0];exact C.args) (i:=aa) V).mono λT m4⟨j,y,p⟩=>⟨λj t=>p.same j (B.box j t).1,j,y,λ_=>⟨V,V,G,(A.ext (B.ext.trans p)).u E,?_⟩,λ_=>?_⟩
  ·have v:=B.fx p
   have w:To e m R m4:=N.trans (dA.fj _ p q.new)
   refine(sS (q.ext p) u hn U W).mono λT m5⟨j,s,y,z,h5⟩=>⟨v.de z,j,y,λt=>.no (w.trans z),λt=>?_⟩
   obtain⟨S,K,Q,ab,hl,rfl⟩:=h5 (by simpa using t)
   exact ac V _ ⟨s,S,_,u.aV hl,w.trans z,v.to z,Q⟩
  ·exact ac V _ ⟨R,ae,X,u,N.trans (dA.fj _ p q.new),B.fx p,q.ext p⟩
 ·refine eg (n:=x.args.length) (Z▸A.gA) (λ_ s=>J M s) (J.aC _) ?_
  rintro S M4 I4 μ4 ai p ab
  have v:=B.fx p
  have w:To e m R M4:=N.trans (dA.fj _ p q.new)
  have s:=q.ext p
  refine⟨λD=>?_,λD=>⟨λad=>?_,λ_=>.Ml w s u⟩⟩
  ·simp only[ao]at D
   obtain⟨G,E⟩:=ag (l:=x.args) (k:=S) V
   obtain⟨U,W⟩:=C.args G (ar E)
   refine(mo (Y v.ext) (S:Int)).mono λT m5⟨j,y,z⟩=>⟨λj t=>z.same j (v.box j t).1,j,y,λ_=>⟨V,V,G,(A.ext (v.ext.trans z)).u E,?_⟩,λ_=>ab V _ (p.trans z)⟩
   refine(qB (s.ext z) u hn U W).mono λT m6⟨j,y,K⟩=>⟨λj t=>K.same j (z.lt (v.box j t).1),j,y,λ_=>.no (w.trans (dA.fj _ (z.trans K) s.new)),λ_=>ab V _ ((p.trans z).trans K)⟩
  ·simp only[ao]at ad
   have K:=C.bV
   have t:=u.len 5 bd
   have T:=s.len (k:=5) bd
   have y:cO (x.bV -1)=x.bV -1:=aP V V
   obtain⟨E,z⟩:=ag (l:=X 5) (k:=(x.bV -1).toNat) V
   obtain⟨G,Q,j⟩:=s.put (k:=5) (i:=(x.bV -1).toNat) bd V (-1)
   rw[y]
   exact⟨_,s.cy (k:=5) bd,V,V,E,s.u (k:=5) bd V z,λ_=>.no w,λ_=>⟨_,s.cy (k:=5) bd,V,V,G,v.de j,.Ml (w.trans j) Q (u.Xl (by simp[t]))⟩⟩
end
end
end Go.Proofs.YtakpkjhmbbfniaaGreat
