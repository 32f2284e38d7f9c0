/- Part of a proof, joined by a program. -/
import Derived.Test.YtgnjacfobdjeeaaGreatW09
import Derived.Test.YtgnjacfobdjeeaaGreatW10
set_option linter.unusedVariables false
set_option linter.unusedSimpArgs false
set_option linter.defProp false
set_option linter.constructorNameAsVariable false
set_option maxHeartbeats 8000000
set_option maxRecDepth 100000
namespace Go.Proofs.YtgnjacfobdjeeaaGreat
open Go.Vc
section
variable{b:I}{d:O}{c:cH}
def Dt{Y aj az S:O}(hd:cx b d c.aT)(ht:dP c.aT)(hf:ph b Y c.cA)(aK:c.cA.length<=4)(h3:∀q∈c.cA,q.params.length<=3)
 {q:dw}(hc:eX b S q.cL)(hr:q.u<=2000){s:Nat}{e:Instr}{M R:O}(Z:ap b M e.args)(hj:ap b R e.ez):
 dJ cw 50 [.agg #[O.v d,O.v Y],.agg #[O.v aj,O.v az,vi q.aV,vi q.u,O.v S],vi s,.agg #[vi e.op,vi e.dst,vi e.bN,vi e.bW,O.v M,O.v R]] b (iA c q s e):=by
 apply pB
 simp -zeta only[aD,aC]
 intro C B G x
 have s1:C.size=b.size+1:=by simp[C]
 have s2:B.size=b.size+2:=by simp[B,s1]
 have s3:G.size=b.size+3:=by simp[G,s2]
 have s4:x.size=b.size+4:=by simp[x,s3]
 have A:J b x:=((((J.aB b).aK _).aK _).aK _).aK _
 have ao:cF x B.size aE [.i s]:=(cF.push B _ _).ext (J.push _ _)
 have aq:cF x C.size ji [.s aj,.s az,.i q.aV,.i q.u,.s S]:=(cF.push C _ _).ext ((J.push B _).aK _)
 have v:=Io (w:=c) (p:=q) (a:=s) (i:=e) hr aK h3
 have aG:=hc.len
 have aS:=Z.len
 have aT:=hj.len
 clear_value x
 clear_value G
 clear_value B
 clear_value C
 refine⟨λh=>cK (λf=>?_) A,λc0=>⟨λh=>cK (λf=>?_) A,λc1=>⟨λh=>cK (λf=>?_) A,λc2=>⟨λh=>cK (λf=>?_) A,λc3=>⟨λh=>cK (λf=>?_) A,λc4=>⟨λh=>cK (λf=>?_) A,λc5=>?_⟩⟩⟩⟩⟩⟩
 any_goals (have:=(v.1 f).1;simp at h;omega)
 simp at c0 c1 c2 c3 c4 c5
 have f1:0<=e.op/\e.op<=24/\e.op≠7/\e.op≠8/\e.op≠12/\e.op≠13:=V
 refine⟨λy=>J x y/\(0<=e.dst/\e.dst<q.u/\(e.dst=0\/lH e.op)/\0<=e.bW/\e.bW<=q.u/\(e.bW=0\/e.op=6)),?_,?_⟩
 ·refine⟨λh=>cK (λf=>?_) A,λI=>⟨λh=>cK (λf=>?_) A,λL=>?_⟩⟩
  ·have:=(v.1 f).2.1;simp at h;omega
  ·have:=(v.1 f).2.1;simp at h;omega
  simp at I L
  have tail:∀y,J x y->(e.dst=0\/lH e.op)->((decide (e.bW<(0:Int)))=true->∃g:Bool,Value.bool false=.bool g/\(g=true<->iA c q s e)/\J b y)/\((decide (e.bW<(0:Int)))=false->
   ((decide (e.bW>q.u))=true->∃g:Bool,Value.bool false=.bool g/\(g=true<->iA c q s e)/\J b y)/\((decide (e.bW>q.u))=false->
   ((e.bW !=(0:Int))=true->((e.op !=(6:Int))=true->∃g:Bool,Value.bool false=.bool g/\(g=true<->iA c q s e)/\J b y)/\((e.op !=(6:Int))=false->J x y/\(0<=e.dst/\e.dst<q.u/\(e.dst=0\/lH e.op)/\0<=e.bW/\e.bW<=q.u/\(e.bW=0\/e.op=6))))/\
   ((e.bW !=(0:Int))=false->J x y/\(0<=e.dst/\e.dst<q.u/\(e.dst=0\/lH e.op)/\0<=e.bW/\e.bW<=q.u/\(e.bW=0\/e.op=6))))):=by
   intro y K Q
   have N:=A.trans K
   refine⟨λh=>cK (λf=>?_) N,λE=>⟨λh=>cK (λf=>?_) N,λH=>⟨λu=>⟨λh=>cK (λf=>?_) N,λP=>⟨K,?_⟩⟩,λu=>⟨K,?_⟩⟩⟩⟩
   ·have:=(v.1 f).2.1;simp at h;omega
   ·have:=(v.1 f).2.1;simp at h;omega
   ·have:=(v.1 f).2.1.2.2.2.2.2;simp at h u;omega
   ·simp at E H P;exact⟨I,L,Q,E,H,Or.inr P⟩
   ·simp at E H u;exact⟨I,L,Q,E,H,Or.inl u⟩
  refine⟨λh=>?_,λh=>tail x (J.aB _) (Or.inl (by simpa using h))⟩
  refine(qX e.op x ⟨V,V⟩).aI (J.aB _) bJ λw y F K _=>⟨w,rfl,λz=>cK (λf=>?_) (A.trans K),λz=>tail y K (Or.inr (yb F z))⟩
  have:=(v.1 f).2.1.2.2.1
  simp at h
  rcases this with t|t
  ·exact h t
  ·exact nb F z t
 ·rintro y ⟨K,f2⟩
  refine eU (n:=e.args.length) (by have:=Z.fS;omega) (λah T=>J x T/\∀I∈e.args.take ah,0<=I/\I<q.u) ⟨K,D⟩ ?_
  rintro ah L aR μ hn ⟨z,al⟩ aP
  have ab:=A.trans z
  refine dit (λh=>?_) λh=>?_
  ·obtain⟨I,u⟩:=ag (l:=e.args) (k:=ah) V
   refine⟨V,V,I,by simpa using(Z.ext ab).E u,λt=>cK (λf=>?_) ab,λt=>⟨λE=>cK (λf=>?_) ab,λE=>aP V _ ⟨z,bV u al ?_⟩⟩⟩
   ·have:=(v.1 f).2.2.1 I (ar u);simp at t;omega
   ·have:=(v.1 f).2.2.1 I (ar u);simp at E;omega
   ·simp at t E;omega
  ·have aA:∀I∈e.args,0<=I/\I<q.u:=dq V al
   intro m7 H
   have s8:H.size=L.size+1:=by simp[H,m7,av]
   have E:J L H:=((J.aB L).aK _).ai (ad _) _ _
   have ae:=ab.trans E
   have an:af H L.size 0=some (.func (.func 87) #[] #[vp B.size 0,vp C.size 0]):=
    (cF.ai (m:=m7) (o:=0) (r:=[.fn (.func 87) #[] #[vp B.size 0,vp C.size 0]]) (cF.push L _ _)).cp 0
   have aU:=z.size
   clear_value H
   have aM:∀Q,J H Q->∀t,dJ cw 87 [vi t,vp B.size 0,vp C.size 0] Q ((s:Int)+1<=t/\t<=(q.cL.length:Int) -1):=λQ u t=>by
    rw[<-aG];exact xJ (ao.ext (z.trans (E.trans u))|>.cp 0) (aq.ext (z.trans (E.trans u))|>.cp 4)
   have jW:(e.ez.length=0\/e.op=21)->aO cw 69 [O.v R,.func (.func 88) #[] #[vp L.size 0]] H λaQ X=>
    eE [G.size,b.size] H X/\∃ai:Bool,aQ=vb ai/\(ai=true->∃g:Bool,Value.bool false=.bool g/\(g=true<->iA c q s e)/\J b X)/\
    (ai=false->∃N:Fn×Array Value×Array Value,af X L.size 0=some (.func N.1 N.2.1 N.2.2)/\
    aO cw 89 [.agg #[O.v d,O.v Y],.agg #[vi e.op,vi e.dst,vi e.bN,vi e.bW,O.v M,O.v R],.func N.1 N.2.1 N.2.2] X λak P=>
    eE [G.size,b.size] X P/\∃W:Bool,ak=vb W/\((!W)=true->∃g:Bool,Value.bool false=.bool g/\(g=true<->iA c q s e)/\J b P)/\
    ((!W)=false->aO cw 90 [.agg #[O.v d,O.v Y],.agg #[vi e.op,vi e.dst,vi e.bN,vi e.bW,O.v M,O.v R]] P λam U=>
    eE [G.size,b.size] P U/\∃aa:Int,∃ac:Int,am=.tuple #[vi aa,vi ac]/\
    ((decide ((M.len:Int)>=aa))=true->∃g:Bool,Value.bool (decide ((M.len:Int)<=ac))=.bool g/\(g=true<->iA c q s e)/\J b U)/\
    ((decide ((M.len:Int)>=aa))=false->∃g:Bool,Value.bool false=.bool g/\(g=true<->iA c q s e)/\J b U))):=by
    intro aH
    have hl:∀w∈[G.size,b.size],w<H.size:=bJ
    refine(iK (hj.ext ae) 88 #[] #[vp L.size 0] bh (λt=>¬((s:Int)+1<=t/\t<=(S.len:Int) -1)) (λt _ Q u=>?_)).aI (J.aB _) hl ?_
    ·exact IS (ao.ext (z.trans (E.trans u))|>.cp 0) (aq.ext (z.trans (E.trans u))|>.cp 4) (u.af an)
    intro w Q F u _
    have P:=ae.trans u
    refine⟨w,rfl,λaF=>cK (λf=>?_) P,λaB=>?_⟩
    ·obtain⟨t,ac,g⟩:=F.1 aF
     have:=(v.1 f).2.2.2.2.1 t ac
     exact g V
    have aI:∀t∈e.ez,(s:Int)+1<=t/\t<=(q.cL.length:Int) -1:=λt ac=>by
     rcases dL ((s:Int)+1<=t/\t<=(S.len:Int) -1)with h|h
     ·omega
     ·exact absurd (F.2 ⟨t,ac,h⟩) (by simp[aB])
    refine⟨(.func 87,#[],#[vp B.size 0,vp C.size 0]),u.af an,?_⟩
    have aw:∀w∈[G.size,b.size],w<Q.size:=λw F=>u.lt (hl w F)
    refine(GY (cx.ext P hd) ht (ph.ext P hf) (Z.ext P) (hj.ext P) 87 #[] #[vp B.size 0,vp C.size 0] bh (λt=>(s:Int)+1<=t/\t<=(q.cL.length:Int) -1) (λT g=>by simpa using aM T (u.trans g) e.bN)).aI (J.aB _) aw ?_
    intro b2 aN am N _
    have aa:=P.trans N
    refine⟨b2,rfl,λh=>cK (λf=>nb am h (v.1 f).2.2.2.2.2.1) aa,λh=>?_⟩
    have ax:=yb am h
    have aJ:∀w∈[G.size,b.size],w<aN.size:=λw F=>N.lt (aw w F)
    refine(Kg (cx.ext aa hd) ht (ph.ext aa hf) (a:=M) (j:=R) ax).aI (J.aB _) aJ ?_
    rintro _ aV ⟨lo,hi,rfl,T,ak⟩
    have ay:=aa.trans ak
    have aL:∀W U,gK c e W U->W=lo/\U=hi:=λW U g=>by
     unfold gK at T g;repeat' (split at T);all_goals simp_all
     all_goals (obtain⟨q1,e1,e2,e3⟩:=T;simp_all)
    refine⟨ak,lo,hi,rfl,λh=>ft ?_ ay,λh=>cK (λf=>?_) ay⟩
    ·rw[v]
     simp only[au]at h⊢
     refine⟨λg=>⟨f1,f2,aA,aH,aI,ax,λW U h2=>?_⟩,λg=>?_⟩
     ·obtain⟨rfl,rfl⟩:=aL W U h2;omega
     ·have:=g.2.2.2.2.2.2 lo hi T;omega
    ·have:=(v.1 f).2.2.2.2.2.2 lo hi T
     simp at h;omega
   refine⟨λu=>⟨λN=>cK (λf=>?_) ae,λN=>jW (Or.inr (by simpa using N))⟩,λu=>jW (Or.inl (by simp at u;omega))⟩
   have:=(v.1 f).2.2.2.1
   simp at u N;omega
def ou{aj:O}(v:eu b d aj c):dJ cw 28 [.agg #[O.v d,O.v aj]] b (gP c):=by
 apply yg;simp -zeta only[aD,aC];intro G;have ae:J b G:=(J.aB b).aK _;have s1:G.size=b.size+1:=by simp[G]
 clear_value G;refine(Fg (v.ext ae)).aI (J.aB _) bJ ?_;rintro _ N ⟨d',al,ak,rfl,Z,ap,I⟩;refine⟨I,d',al,ak,rfl,?_⟩;intro m3 t;have s4:t.size=N.size+1:=by simp[t,m3,av]
 have X:J N t:=((J.aB N).aK _).ai (ad _) _ _;have ah:J b t:=(ae.trans I).trans X;have:=I.size;have aL:=v.cA.len;have aM:=v.cA.fS;clear_value t;refine⟨λhn=>cK (λf=>nb Z hn ⟨f.mw,λq x=>(f.dt q x).cJ⟩) ah,λhy=>?_⟩;obtain⟨E,ao⟩:=yb Z hy;obtain⟨rfl,hf⟩:=ap (by simpa using hy);refine eU (n:=c.cA.length) V (λR z=>J t z/\∀q∈c.cA.take R,GD c q) ⟨J.aB _,D⟩ ?_;rintro R P aB μ hn ⟨A,Y⟩ aA
 have L:=ah.trans A;refine dit (λaJ=>?_) λaH=>?_
 ·obtain⟨q,x⟩:=ag (l:=c.cA) (k:=R) V;obtain⟨S,ai,T,ha,hl,w,g0,g1,g2,g3,g4⟩:=(v.ext L).cA.E x;refine⟨V,V,S,by simpa using g0,ai,by simpa using g1,_,by simpa using g2,_,by simpa using g3,T,by simpa using g4,?_⟩;intro m6 u;have s7:u.size=P.size+1:=by simp[u,m6,av]
  have r:J P u:=((J.aB P).aK _).ai (ad _) _ _;have s:=L.trans r;have aE:=ha.len;have aF:=w.len;have aG:=w.fS;have o:=ar x;clear_value u;refine⟨λe=>cK (λf=>?_) s,λU=>⟨λe=>cK (λf=>?_) s,λe2=>⟨λe=>cK (λf=>?_) s,λe3=>⟨λe=>cK (λf=>?_) s,λe4=>?_⟩⟩⟩⟩
  ·have:=(f.dt q o).u;simp at e;split at e<;>omega
  ·have:=(f.dt q o).u;simp at e;omega
  ·have:=(f.dt q o).len;simp at e;omega
  ·have:=(f.dt q o).len;simp at e;omega
  have ac:(q.params.length:Int)<=q.u/\1<=q.u/\q.u<=2000:=by
   simp at U e2;split at U<;>omega
  have an:1<=q.cL.length/\q.cL.length<=2000:=by simp at e3 e4;omega
  obtain⟨F,K⟩:=ag (l:=q.cL) (k:=q.cL.length -1) V;obtain⟨a0,j0,_,_,M,_⟩:=(eX.ext r w).E K;refine⟨λz=>J u z/\(F.op=23\/F.op=24),?_,?_⟩
  ·have e:cW ((T.len:Int) -1)=((q.cL.length -1:Nat):Int):=by rw[aQ V V];omega
   rw[e];refine⟨V,V,F.op,by simpa using M,λg=>⟨λh=>cK (λf=>?_) s,λh=>⟨J.aB _,Or.inr (by simpa using h)⟩⟩,λg=>⟨J.aB _,Or.inl (by simpa using g)⟩⟩;have:=(f.dt q o).Qg F K;simp at g h;omega
  ·rintro m8 ⟨h8,am⟩;refine eU (n:=q.cL.length) V (λy z=>J u z/\∀(j:Nat)(h:Instr),j<y->q.cL[j]? =some h->iA c q j h) ⟨h8,λj h C=>V⟩ ?_;rintro y Q I2 μ2 hk ⟨m,ab⟩ az;have aq:=s.trans m;refine dit (λaK=>?_) λaI=>?_
   ·obtain⟨h,g⟩:=ag (l:=q.cL) (k:=y) V;obtain⟨xa,xj,au,aw,M,k1,k2,k3,k4,k5⟩:=(eX.ext (r.trans m) w).E g;refine⟨V,V,_,by simpa using M,_,by simpa using k1,_,by simpa using k2,_,by simpa using k3,xa,by simpa using k4,xj,by simpa using k5,?_⟩;intro ay H;have aO:H.size=Q.size+1:=by simp[H,ay,av]
    have p:J Q H:=((J.aB Q).aK _).ai (ad _) _ _;have af:=aq.trans p;have q1:=m.size;have q2:=A.size;clear_value H;refine(Dt (aj:=S) (az:=ai) (cx.ext af v.aT) E.types (ph.ext (X.trans (A.trans (r.trans (m.trans p)))) hf) E.len.2 (λW B=>(E.dt W B).1) (eX.ext (r.trans (m.trans p)) w) ac.2.2 (s:=y) (e:=h) (au.ext p) (aw.ext p)).aI (J.aB _) bJ ?_;intro b' aN aa W _;refine⟨b',rfl,λe=>cK (λf=>nb aa e ((f.dt q o).dt y h g)) (af.trans W),λe=>az V _ ⟨m.trans (p.trans W),λj i' C B=>?_⟩⟩;rcases Nat.lt_succ_iff_lt_or_eq.1 C with C|rfl
    ·exact ab j i' C B
    ·rw[g]at B;simp at B;subst B;exact yb aa e
   ·refine aA V _ ⟨A.trans (r.trans m),bV x Y ⟨ao q o,ac,an,λj h g=>ab j h (by have:=ax g;omega) g,λh g=>?_⟩⟩
    rw[K]at g;simp at g;subst g;exact am
 ·exact jG ⟨E,dq V Y⟩ L
end
section
variable{m:I}{s:O}{k:Nat}{γ σ:Type}
def Oj(m:I)(a:List Ce)(c:bX):Prop:=∃f,a=[.i c.aS,.i c.jQ,.s f]/\ap m f c.aL
def JK(m:I)(a:List Ce)(f:aX):Prop:=∃r o h,a=[.i f.eP,.i f.pc,.i f.dst,.s r,.s o,.s h]/\ap m r f.u/\ap m o f.aR/\ap m h f.bo
abbrev dN(m:I)(s:O)(l:List bX):Prop:=eH m 3 (Oj m) s l
abbrev lF(m:I)(s:O)(l:List aX):Prop:=eH m 6 (JK m) s l
def Oj.ext{m b:I}(g:J m b)(a:List Ce)(c:bX):Oj m a c->Oj b a c:=λ⟨f,d,e⟩=>⟨f,d,e.ext g⟩
def dN.ext{m b:I}(a:J m b){s:O}{l:List bX}(h:dN m s l):dN b s l:=h.mono a (Oj.ext a)
def JK.ext{m d:I}(a:J m d)(b:List Ce)(c:aX):JK m b c->JK d b c:=λ⟨r,o,h,e,f,g,i⟩=>⟨r,o,h,e,f.ext a,g.ext a,i.ext a⟩
def lF.ext{m b:I}(a:J m b){s:O}{l:List aX}(h:lF m s l):lF b s l:=h.mono a (JK.ext a)
def dN.E{l:List bX}(h:dN m s l){x:bX}(c:l[k]? =some x):
 ∃f,ap m f x.aL/\af m s.F (s.off+k*3)=some (vi x.aS)/\af m s.F (s.off+k*3+1)=some (vi x.jQ)/\af m s.F (s.off+k*3+2)=some (O.v f):=by
 obtain⟨d,⟨f,rfl,b⟩,a⟩:=h.iP k x c
 exact⟨f,b,a 0 (.i x.aS) rfl,a 1 (.i x.jQ) rfl,a 2 (.s f) rfl⟩
def lF.E{l:List aX}(h:lF m s l){x:aX}(b:l[k]? =some x):
 ∃r o e,ap m r x.u/\ap m o x.aR/\ap m e x.bo/\af m s.F (s.off+k*6)=some (vi x.eP)/\af m s.F (s.off+k*6+1)=some (vi x.pc)/\af m s.F (s.off+k*6+2)=some (vi x.dst)/\
  af m s.F (s.off+k*6+3)=some (O.v r)/\af m s.F (s.off+k*6+4)=some (O.v o)/\af m s.F (s.off+k*6+5)=some (O.v e):=by
 obtain⟨f,⟨r,o,e,rfl,d,c,a⟩,jg⟩:=h.iP k x b
 exact⟨r,o,e,d,c,a,jg 0 (.i x.eP) rfl,jg 1 (.i x.pc) rfl,jg 2 (.i x.dst) rfl,jg 3 (.s r) rfl,jg 4 (.s o) rfl,jg 5 (.s e) rfl⟩
def _root_.Go.Vc.eH.pu{l:List Int}(h:eH m 1 TJ s l){i:Int}(a:0<=i)(b:i<l.length):af m s.F (s.off+i.toNat*1)=some (vi (E l i)):=ap.E h (og a b)
structure RV(m:I)(mb o:Nat)(d p aW hp fr:O)(im:cH)(s:St):Prop where
 fe:eu m d p im
 aT:af m mb 0=some (O.v d)
 cA:af m mb 1=some (O.v p)
 bU:af m mb o=some (vi s.bU)
 value:af m mb (o+1)=some (vi s.value)
 bq:af m mb (o+2)=some (vi s.bq)
 bA:af m mb (o+3)=some (vi s.bA)
 ZS:af m mb (o+4)=some (O.v aW)
 qT:af m mb (o+5)=some (O.v hp)
 Nu:af m mb (o+6)=some (O.v fr)
 aW:ap m aW s.aW
 heap:dN m hp s.heap
 az:lF m fr s.az
def RV.ext{m f:I}{g o:Nat}{d p aW c b:O}{e:cH}{s:St}(h:RV m g o d p aW c b e s)(a:J m f):RV f g o d p aW c b e s:=
 ⟨h.fe.ext a,a.af h.aT,a.af h.cA,a.af h.bU,a.af h.value,a.af h.bq,a.af h.bA,a.af h.ZS,a.af h.qT,a.af h.Nu,h.aW.ext a,dN.ext a h.heap,lF.ext a h.az⟩
def Wk(P:Nat->Prop):∀(n:Nat),P n->∃k,P k/\∀j,P j->k<=j:=by
 intro n;induction n using Nat.strongRecOn with
 |_ n e=>
  intro b;rcases dL (∃j,j<n/\P j)with⟨j,a,d⟩|c
  ·exact e j a d
  ·exact⟨n,b,λj a=>dK λh=>c ⟨j,V,a⟩⟩
def JJ{q:σ}{l:(σ->I->Prop)->(σ->I->Nat)->σ->I->Prop}(J:γ->σ->I->Prop)(ν:γ->Nat)(n:γ)(t:J n q m)
 (r:∀(g:γ)(s:σ)(b:I)(a:σ->I->Prop)(μ:σ->I->Nat),J g s b->(∀c e d,J c e d->ν c<ν g->a e d/\μ e d<μ s b)->l a μ s b):
 ∃(a:σ->I->Prop)(μ:σ->I->Nat),a q m/\∀s b,a s b->l a μ s b:=by
 classical
 let a:σ->I->Prop:=λs m=>∃g,J g s m
 have i:∀s m,a s m->∃k,(∃g,J g s m/\ν g=k)/\∀p,(∃g,J g s m/\ν g=p)->k<=p:=λs m⟨g,j⟩=>Wk _ (ν g) ⟨g,j,rfl⟩
 let μ:σ->I->Nat:=λs m=>if f:a s m then Classical.choose (i s m f)else 0
 refine⟨a,μ,⟨n,t⟩,λs b f=>?_⟩
 obtain⟨g,j,v⟩:=(eS (i s b f)).1
 refine r g s b a μ j λc e d h u=>⟨⟨c,h⟩,?_⟩
 have o:a e d:=⟨c,h⟩
 simp only[μ,RL f,RL o]
 exact nC ((eS (i e d o)).2 _ ⟨c,h,rfl⟩) (v▸u)
def Uw{e:(I->Prop)->(I->Nat)->I->Prop}(J:γ->I->Prop)(ν:γ->Nat)(f:γ)(i:J f m)
 (h:∀(g:γ)(b:I)(a:I->Prop)(μ:I->Nat),J g b->(∀d c,J d c->ν d<ν g->a c/\μ c<μ b)->e a μ b):
 ∃(a:I->Prop)(μ:I->Nat),a m/\∀b,a b->e a μ b:=by
 obtain⟨a,μ,j,k⟩:=JJ (σ:=Unit) (q:=()) (l:=λa μ _ b=>e (a ()) (μ ()) b) (λg _ m=>J g m) ν f i (λg _ b a μ l n=>h g b (a ()) (μ ()) l λd c=>n d () c)
 exact⟨a (),μ (),j,k ()⟩
def Ux{τ:Type}{j:σ}{k:τ}{i:(σ->τ->I->Prop)->(σ->τ->I->Nat)->σ->τ->I->Prop}(J:γ->σ->τ->I->Prop)(ν:γ->Nat)(l:γ)(o:J l j k m)
 (n:∀(g:γ)(s:σ)(t:τ)(b:I)(a:σ->τ->I->Prop)(μ:σ->τ->I->Nat),J g s t b->(∀h e f d,J h e f d->ν h<ν g->a e f d/\μ e f d<μ s t b)->i a μ s t b):
 ∃(a:σ->τ->I->Prop)(μ:σ->τ->I->Nat),a j k m/\∀s t b,a s t b->i a μ s t b:=by
 obtain⟨a,μ,p,q⟩:=JJ (σ:=σ×τ) (q:=(j,k)) (l:=λa μ c b=>i (λs t=>a (s,t)) (λs t=>μ (s,t)) c.1 c.2 b) (λg c m=>J g c.1 c.2 m) ν l o (λg c b a μ r u=>n g c.1 c.2 b (λs t=>a (s,t)) (λs t=>μ (s,t)) r λh e f d=>u h (e,f) d)
 exact⟨λs t=>a (s,t),λs t=>μ (s,t),p,λs t=>q (s,t)⟩
end
section
variable{m g:I}{s d p a j t o e:O}{b r:List Int}{f:Nat}{K:Value->I->Prop}{c:cH}{x:Instr}
def _root_.Go.Vc.eH.Hk(h:eH m 1 TJ s b):fN m s.F s.off (b.map Ce.i):=λi d a=>by
 rw[cQ]at a;obtain⟨x,c,rfl⟩:=Option.map_eq_some_iff.1 a;have:=ap.E h c;rw[gX]at this;exact this
def nY(f:Nat)(c:List Value)(m:I)(b:List Int):Prop:=aO cw f c m λv a=>∃s,v=O.v s/\gG m a aE 1 s (b.map Ce.i)/\J m a
def nY.then{c:List Value}(h:nY f c m b)(i:b.length<=1000000000)(e:∀s a,gG m a aE 1 s (b.map Ce.i)->ap a s b->J m a->K (O.v s) a):aO cw f c m K:=
 h.mono λ_ _⟨s,d,a,g⟩=>d▸e s _ a (ap.fV a V) g
def nY.aI{c:List Value}{d:List Nat}(h:nY f c m b)(l:b.length<=1000000000)(i:∀a∈d,a<m.size)(k:∀s a,gG m a aE 1 s (b.map Ce.i)->ap a s b->J m a->K (O.v s) a):aO cw f c m λv a=>eE d m a/\K v a:=
 h.mono λ_ _⟨s,j,e,g⟩=>⟨g.dm i,j▸k s _ e (ap.fV e V) g⟩
def fu(w:Int)(m:I):dJ cw 121 [vi w] m (1000<=w):=by
 apply Aq;exact ft D (J.aB _)
def lx{a:O}{h:List bX}(j:dN m a h){w:Int}(F: -9223372036854775808<=w/\w<=9223372036854775807):dJ cw 163 [O.v a,vi w] m (gE h w):=by
 apply FR;have C:=j.len;have D:=j.fS;have r:cW ((a.len:Int) -1)=(a.len:Int) -1:=aQ V V;rw[r];have A:cW (w -1000)=w -1000\/(w<1000/\¬(0<=cW (w -1000)/\cW (w -1000)<=(a.len:Int) -1))\/(w<1000/\cW (w -1000)=w -1000+18446744073709551616):=by
  rcases dL (-9223372036854775808<=w -1000)with b|b
  ·exact Or.inl (aQ b V)
  ·refine Or.inr (Or.inr ⟨V,?_⟩);simp only[cW,IntKind.wrap,IntKind.signed,IntKind.bits];simp;omega
 refine(bF _ _ _ _).then λp G i b=>⟨p,rfl,λy=>?_,λx=>?_⟩
 ·refine(fu _ _).then λq H o g=>⟨q,rfl,λv=>?_,λu=>?_⟩
  ·have n:=o.1 v;have s:cW (w -1000)=w -1000:=aQ V V;rw[s]at i⊢;have E:=i.1 y;obtain⟨e,c⟩:=ag (l:=h) (k:=(w -1000).toNat) V;obtain⟨f,B,t,_⟩:=(dN.ext (b.trans g) j).E c;refine⟨V,V,e.aS,t,ft ?_ (b.trans g)⟩;simp only[kU,au];refine⟨λa=>⟨n,e,c,a⟩,λ⟨_,z,d,a⟩=>?_⟩;unfold ix at d;rw[c]at d;simp at d;subst d;exact a
  ·exact cK (λd=>fb o u d.1) (b.trans g)
 ·refine cK (λ⟨n,e,c,_⟩=>fb i x ?_) b;have:=ax c;unfold ix at this;rw[aQ V V];omega
def KW(a:Int)(m:I):dJ cw 125 [vi a] m (lK a):=by
 apply FQ;refine⟨λh=>jG ?_ (J.aB _),λh=>⟨λb=>jG ?_ (J.aB _),λb=>ft ?_ (J.aB _)⟩⟩<;>simp[lK]at* <;>omega
def Kl{q:dw}(a:c.cA[x.bN.toNat]? =some q)(k:Nat):np c x k=true<->(k:Int)∈q.cJ:=by
 simp[np,dx,a,List.any_eq_true]
def y9(c:cH)(x:Instr):Prop:=(x.op=9\/x.op=24)->0<=x.bN/\∃q,c.cA[x.bN.toNat]? =some q
def iA.call{p:dw}{k:Nat}(h:iA c p k x):y9 c x:=λe=>by
 have a:=h.op;unfold lG at a;rw[ae V,ae V,ae V,ae V,ao e]at a;obtain⟨q,b,d,_⟩:=a;exact⟨b,q,d⟩
def rO(h:eu m d p c)(A:y9 c x)(a j:O)(k:Nat):
 dJ cw 167 [.agg #[O.v d,O.v p],.agg #[vi x.op,vi x.dst,vi x.bN,vi x.bW,O.v a,O.v j],vi k] m ((x.op=9\/x.op=24)/\np c x k=true):=by
 apply Ed
 simp -zeta only[aD,aC]
 intro o b
 have n:J m b:=((J.aB m).aK _).aK _
 have B:∀f∈[o.size,m.size],f<b.size:=by simp[b,o];omega
 have N:=h.cA.len
 clear_value b
 have q:∀e:x.op=9\/x.op=24,(0:Int)<=x.bN/\x.bN<(p.len:Int)/\∃u:O,af b p.F (p.off+Int.toNat x.bN*5+1)=some (O.v u)/\
  aO cw 175 [O.v u,vi k] b λr s=>eE [o.size,m.size] b s/\∃t:Bool,r=vb t/\∃f:Bool,vb t=.bool f/\(f=true<->((x.op=9\/x.op=24)/\np c x k=true))/\J m s:=λe=>by
  obtain⟨w,Q,l⟩:=A e
  obtain⟨E,D,F,L,C,M,G,v,H,I,K⟩:=(h.ext n).cA.E l
  have:=ax l
  refine⟨w,V,D,v,(dp C _).aI (J.aB _) B λf P z y _=>⟨f,rfl,ft ?_ (n.trans y)⟩⟩
  rw[z,Kl l]
  exact⟨λh=>⟨e,h⟩,λh=>h.2⟩
 refine⟨λi=>q (Or.inl (by simpa using i)),λi=>⟨λg=>q (Or.inr (by simpa using g)),λg=>cK (λ⟨e,_⟩=>?_) n⟩⟩
 simp at i g;omega
def Hu(a:Int)(m:I):dJ cw 166 [vi a] m (a=6\/a=9\/a=10\/a=11):=by
 apply rW;refine⟨λh=>jG ?_ (J.aB _),λh=>⟨λb=>jG ?_ (J.aB _),λb=>⟨λc=>jG ?_ (J.aB _),λc=>ft ?_ (J.aB _)⟩⟩⟩<;>simp at* <;>omega
def iY(c:cH)(x:Instr)(n:Nat):List Int:=hO c x 0 (x.args.take n)
def vd(c:cH)(x:Instr):∀(b r:List Int)(k:Nat),hO c x k (b++r)=hO c x k b++hO c x (k+b.length) r
 |[],r,k=>by simp[hO]
 |a::b,r,k=>by
  have:=vd c x b r (k+1);simp only[cU,hO,this,aY];have e:k+(b.length+1)=k+1+b.length:=V;rw[e];split<;>simp
def tD(c:cH)(x:Instr):∀(b:List Int)(k:Nat),(hO c x k b).length<=b.length
 |[],k=>ad _
 |a::b,k=>by
  have:=tD c x b (k+1);simp only[hO];split<;>simp<;>omega
def Ia(c:cH)(x:Instr):(bS c x).length<=x.args.length:=by
 unfold bS;split
 ·exact ad _
 split
 ·simp;omega
 split
 ·exact tD _ _ _ _
 ·simp
def J.th{a c:I}(f:J g a)(h:J g c){b:List Nat}(d:∀x∈b,x<g.size):eE b a c:=λx e=>by rw[f.same x (d x e),h.same x (d x e)]
def nK{v:Int}{K:O->I->Prop}(c:gG g m aE 1 s (b.map Ce.i))(h:J g m)(n:b.length<1000000000)
 (f:∀r a,gG g a aE 1 r ((b++[v]).map Ce.i)->J g a->K r a):
 jE (m.push (.cells (bG [.i v]) aE)) aE [.i (0:Int)] 8 s (O.mk m.size 0 1 1) K:=by
 have o:s.len=b.length:=by have:=c.len;simp at this;omega
 refine gG.append (c:=[.i 0]) (i:=[.i v]) (c.ext (J.push _ _)) (h.aK _) rfl (cF.push m _ _).iP bJ λr a d e i j k l=>?_
 exact f r a (by simpa using d) e
def Jy(ac:eu m d p c)(hc:y9 c x)(L:ap m a x.args)(an:x.args.length<=1000000)(ad:(x.op=16\/x.op=17)->1<=x.args.length):
 nY 127 [.agg #[O.v d,O.v p],.agg #[vi x.op,vi x.dst,vi x.bN,vi x.bW,O.v a,O.v j]] m (bS c x):=by
 apply Ep
 simp -zeta only[aD,aC]
 intro E f S
 have C:J m f:=((J.aB m).aK _).aK _
 have s2:f.size=m.size+2:=by simp[f,E]
 have h3:J f S:=(J.aB f).aK _
 have v:gG f S aE 1 (.mk f.size 0 0 0) []:=gG.new (J.aB f) aE 1 [] 0 D
 have s1:E.size=m.size+1:=by simp[E]
 have ak:=L.len
 have z:∀w∈[E.size,m.size],w<f.size:=λw u=>by simp at u;omega
 clear_value S
 clear_value f
 have M:∀{q s b},gG f q aE 1 s b->gG m q aE 1 s b:=λv=>v.bY C.size
 refine⟨λab q=>J f q/\gG f q aE 1 (.mk f.size 0 0 0) []/\(ab=true<->(x.op=15\/x.op=6\/x.op=10\/x.op=11\/x.op=18\/x.op=23\/x.op=9\/x.op=24)),?_,?_⟩
 ·refine(Hu _ _).aI h3 z λw F u h o=>⟨w,rfl,λP=>⟨o,v.ext h,by have:=u.1 P;simp;omega⟩,λN=>?_⟩
  have g:=fb u N
  refine⟨λe=>⟨o,v.ext h,by simp at e;simp;omega⟩,λK=>⟨λe=>⟨o,v.ext h,by simp at e;simp;omega⟩,λt=>⟨λe=>⟨o,v.ext h,by simp at e;simp;omega⟩,λB=>⟨o,v.ext h,by simp at K t B;simp;omega⟩⟩⟩⟩
 ·rintro ab F ⟨h,Q,Y⟩
  refine⟨λai=>?_,λah=>?_⟩
  ·have hT:=Y.1 ai
   refine dU (n:=x.args.length) V (λg s q=>J f q/\gG f q aE 1 s ((if x.op=9\/x.op=24 then iY c x g else x.args.take g).map Ce.i)) ⟨h,by simpa[iY,hO]using Q⟩ ?_
   rintro g s m5 aj μ hk ⟨T,R⟩ aa
   have Z:=C.trans T
   refine dit (λam=>?_) λal=>?_
   ·obtain⟨y,i⟩:=ag (l:=x.args) (k:=g) V
    have X:iY c x (g+1)=iY c x g++hO c x g [y]:=by
     unfold iY;rw[bn i,vd];simp;congr 2;omega
    refine(rO (ac.ext Z) hc a j g).aI T z λw m6 u U H=>⟨w,rfl,λP=>?_,λN=>?_⟩
    ·have I:=nb u P
     refine⟨V,V,y,by simpa using(L.ext (C.trans H)).E i,?_⟩
     intro m7
     have W:(if x.op=9\/x.op=24 then iY c x g else x.args.take g).length<=g:=by
      split
      ·refine cg (tD _ _ _ _) ?_;simp;omega
      ·simp;omega
     refine nK (R.ext U) H V λr m8 A G=>?_
     refine⟨J.th (H.aK _) G z,aa V _ _ ⟨G,?_⟩⟩
     by_cases e:x.op=9\/x.op=24
     ·rw[ao e]at A⊢
      rw[X]
      have:hO c x g [y]=[y]:=by
       simp only[hO];rw[ae (λz=>I ⟨e,z⟩)]
      rw[this];exact A
     ·rw[ae e]at A⊢
      rw[bn i];exact A
    ·have I:=yb u N
     refine aa V _ _ ⟨H,?_⟩
     have W:=R.ext U
     rw[ao I.1]at W⊢
     rw[X]
     have:hO c x g [y]=[]:=by
      simp only[hO];rw[ao I.2]
     rw[this,dI];exact W
   ·refine⟨s,rfl,?_,Z⟩
    have t:bS c x=if x.op=9\/x.op=24 then iY c x g else x.args.take g:=by
     have B:x.args.take g=x.args:=cN V;unfold bS iY;rw[B];by_cases e:x.op=9\/x.op=24
     ·rw[ae V,ae V,ao e,ao e]
     ·rw[ao V,ae e]
    rw[t];exact M R
  ·have hT:¬(x.op=15\/x.op=6\/x.op=10\/x.op=11\/x.op=18\/x.op=23\/x.op=9\/x.op=24):=λe=>by have:=Y.2 e;rw[ah]at this;simp at this
   have o:=C.trans h
   have kK:∀e:x.op=16\/x.op=17,(0:Int)<=(0:Int)/\(0:Int)<(a.len:Int)/\∃H:Int,af F a.F (a.off+Int.toNat (0:Int)*1)=some (vi H)/\
    jE (F.push (.cells (bG [.i H]) 3)) 3 [.i (0:Int)] 8 (O.mk f.size 0 0 0) (O.mk F.size 0 1 1) λN g=>eE [E.size,m.size] (F.push (.cells (bG [.i H]) 3)) g/\∃s,O.v N=O.v s/\gG m g aE 1 s ((bS c x).map Ce.i)/\J m g:=λe=>by
    have P:=ad e
    obtain⟨y,i⟩:=ag (l:=x.args) (k:=0) V
    refine⟨V,V,y,by simpa using(L.ext o).E i,nK (b:=[]) Q h D λr m8 A G=>⟨J.th (h.aK _) G z,r,rfl,?_,C.trans G⟩⟩
    have t:bS c x=[y]:=by
     unfold bS;rw[ae V,ao e];cases I:x.args with
     |nil=>rw[I]at i;simp at i
     |cons R b=>rw[I]at i;simp at i;subst i;rfl
    rw[t];exact M A
   refine⟨λe=>kK (Or.inl (by simpa using e)),λK=>⟨λe=>kK (Or.inr (by simpa using e)),λt=>⟨_,rfl,?_,o⟩⟩⟩
   have B:bS c x=[]:=by
    simp at K t;unfold bS;rw[ae V,ae V,ae V]
   rw[B];exact M Q
def lp(c:ap m s b)(l:b.length<=1000000000):nY 57 [O.v s] m b:=by
 apply ns;intro d;have a:J m d:=(J.aB m).aK _;have g:gG m d aE 1 (.mk m.size 0 0 0) []:=gG.new (J.aB m) aE 1 [] 0 D;have f:=c.len;refine gG.append (c:=[.i 0]) (i:=b.map Ce.i) g a (by simp[f]) (c.ext a).Hk bJ λr n a e h i j k=>⟨r,rfl,by simpa using a,e⟩
def KS(h:ap m s b)(c:ap m t r)(p:b.length+r.length<=1000000000):nY 213 [O.v s,O.v t] m (b++r):=by
 apply uy;refine(lp h V).then V λq w d e a=>⟨q,rfl,?_⟩;have i:=c.len;have o:=e.len;refine gG.append (c:=[.i 0]) (i:=r.map Ce.i) d a (by simp[i]) (c.ext a).Hk V λu v f g j k l n=>⟨u,rfl,by simpa using f,g⟩
def nV(d:ap m s b):dJ cw 161 [O.v s] m (Rc b):=by
 apply DK;have i:=d.len;refine eU (n:=b.length) (i▸d.fS) (λf a=>J m a/\∀y∈b.take f,y=0) ⟨J.aB _,D⟩ ?_;rintro f q I μ p ⟨a,g⟩ o
 refine⟨λh=>?_,λh=>jG (dq (by simp at h;omega) g) a⟩;simp only[au]at h;obtain⟨x,e⟩:=ag (l:=b) (k:=f) V;refine⟨V,V,x,by simpa using a.af (d.E e),λc=>cK (λj=>?_) a,λc=>o V _ ⟨a,bV e g (by simpa using c)⟩⟩;have:=j x (ar e);simp at c;omega
def AB(d:ap m s b):dJ cw 168 [O.v s] m (∀o∈b,0<=o):=by
 apply wj;have i:=d.len;refine eU (n:=b.length) (i▸d.fS) (λf a=>J m a/\∀y∈b.take f,0<=y) ⟨J.aB _,D⟩ ?_;rintro f r I μ q ⟨a,g⟩ p
 refine⟨λh=>?_,λh=>jG (dq (by simp at h;omega) g) a⟩;simp only[au]at h;obtain⟨x,e⟩:=ag (l:=b) (k:=f) V;refine⟨V,V,x,by simpa using a.af (d.E e),λc=>cK (λj=>?_) a,λc=>p V _ ⟨a,bV e g (by simpa using c)⟩⟩;have:=j x (ar e);simp at c;omega
def qx(g:ap m s b)(o:ap m t r):dJ cw 208 [O.v s,O.v t] m (b=r):=by
 apply Cu;have p:=g.len;have v:=o.len;refine⟨λh=>cK (λe=>by subst e;simp at h;omega) (J.aB _),λh=>?_⟩;simp at h;refine eU (n:=b.length) (p▸g.fS) (λf a=>J m a/\b.take f=r.take f) ⟨J.aB _,D⟩ ?_;rintro f w I μ u ⟨c,j⟩ q
 refine⟨λh=>?_,λh=>jG (by simp at h;rwa[cN V,cN V]at j) c⟩;simp only[au]at h;obtain⟨x,i⟩:=ag (l:=b) (k:=f) V;obtain⟨y,d⟩:=ag (l:=r) (k:=f) V;refine⟨V,V,x,by simpa using c.af (g.E i),V,V,y,by simpa using c.af (o.E d),λa=>cK (λe=>?_) c,λa=>q V _ ⟨c,?_⟩⟩
 ·subst e;rw[i]at d;simp at d;simp at a;exact a d
 ·rw[bn i,bn d,j];simp at a;rw[a]
abbrev fv(f:aX)(r o h:O):Value:=.agg #[vi f.eP,vi f.pc,vi f.dst,O.v r,O.v o,O.v h]
abbrev xv(x:Instr)(a j:O):Value:=.agg #[vi x.op,vi x.dst,vi x.bN,vi x.bW,O.v a,O.v j]
def DJ{f:aX}{r:O}(v:ap m r f.u)(g:ap m a x.args)(G:∀y∈x.args,0<=y/\y<f.u.length):
 dJ cw 169 [fv f r o e,xv x a j] m (∀y∈x.args,E f.u y<1000):=by
 apply yA
 simp -zeta only[aD,aC]
 intro A b
 have z:J m b:=((J.aB m).aK _).aK _
 have H:∀d∈[A.size,m.size],d<b.size:=by simp[b,A];omega
 have B:=g.len
 have P:=v.len
 clear_value b
 refine eU (n:=x.args.length) (B▸g.fS) (λq c=>J b c/\∀y∈x.args.take q,E f.u y<1000) ⟨J.aB _,D⟩ ?_
 rintro q Q L μ N ⟨w,u⟩ K
 have i:=z.trans w
 refine⟨λh=>?_,λh=>jG (dq (by simp at h;omega) u) i⟩
 simp only[au]at h
 obtain⟨y,c⟩:=ag (l:=x.args) (k:=q) V
 have p:=G y (ar c)
 refine⟨V,V,y,by simpa using i.af (g.E c),p.1,V,E f.u y,by simpa using i.af (v.pu p.1 p.2),?_⟩
 refine(fu _ _).aI w H λd R t M s=>⟨d,rfl,λF=>cK (λI=>?_) (z.trans s),λC=>K V _ ⟨s,bV c u ?_⟩⟩
 ·have:=I y (ar c);have:=t.1 F;omega
 ·have:=fb t C;omega
def oP(b r:List Int):kL (b++r)=kL b++kL r:=by simp[kL]
def nM(b:List Int):(kL b).length<=b.length:=List.length_filter_le _ _
def oE(g:ap m s b)(C:b.length<=100000000):nY 207 [O.v s] m (kL b):=by
 apply yL;intro h;have t:J m h:=(J.aB m).aK _;have w:gG m h aE 1 (.mk m.size 0 0 0) []:=gG.new (J.aB m) aE 1 [] 0 D;have B:=g.len;clear_value h;refine dU (n:=b.length) V (λf s a=>J m a/\gG m a aE 1 s ((kL (b.take f)).map Ce.i)) ⟨t,by simpa[kL]using w⟩ ?_;rintro f s E I μ A ⟨d,c⟩ o
 refine dit (λq=>?_) λq=>?_
 ·obtain⟨x,e⟩:=ag (l:=b) (k:=f) V;refine⟨V,V,x,by simpa using d.af (g.E e),?_⟩;refine(fu _ _).then λp F i a=>⟨p,rfl,λv=>?_,λu=>?_⟩
  ·have j:=d.trans a;refine⟨V,V,x,by simpa using j.af (g.E e),?_⟩;intro G;refine nK (c.ext a) j (by have:=nM (b.take f);simp at this;omega) λr H y z=>o V _ _ ⟨z,?_⟩
   rw[bn e,oP];have:kL [x]=[x]:=by simp[kL,i.1 v]
   rw[this];exact y
  ·refine o V _ _ ⟨d.trans a,?_⟩
   rw[bn e,oP];have:kL [x]=[]:=by simp[kL];have:=fb i u;omega
   rw[this,dI];exact c.ext a
 ·rw[cN V]at c;exact⟨s,rfl,c,d⟩
def rR{f:aX}{r:O}(q:ap m r f.u)(t:ap m s b)(A:∀y∈b,0<=y/\y<f.u.length)(M:b.length<=100000000):
 nY 209 [fv f r o e,O.v s] m (cv f b):=by
 apply Ez
 simp -zeta only[aD,aC]
 intro a p
 have u:J m a:=(J.aB m).aK _
 have z:J a p:=(J.aB a).aK _
 have C:gG a p aE 1 (.mk a.size 0 0 0) []:=gG.new (J.aB a) aE 1 [] 0 D
 have B:∀w∈[m.size],w<a.size:=by simp[a]
 have L:=t.len
 have K:=q.len
 clear_value p
 clear_value a
 refine dU (n:=b.length) V (λj s c=>J a c/\gG a c aE 1 s ((cv f (b.take j)).map Ce.i)) ⟨z,by simpa[cv]using C⟩ ?_
 rintro j s N I μ H ⟨d,c⟩ F
 have g:=u.trans d
 refine dit (λx=>?_) λx=>?_
 ·obtain⟨y,h⟩:=ag (l:=b) (k:=j) V
  have i:=A y (ar h)
  refine⟨V,V,y,by simpa using g.af (t.E h),i.1,V,E f.u y,by simpa using g.af (q.pu i.1 i.2),?_⟩
  intro P
  refine nK c d (by simp[cv];omega) λR Q G v=>⟨J.th (d.aK _) v B,F V _ _ ⟨v,?_⟩⟩
  rw[bn h]
  simpa[cv]using G
 ·rw[cN V]at c
  exact⟨s,rfl,c.bY u.size,g⟩
end
section
variable{g:I}{b:aX}{u y d p h v j:O}{s:St}{c:List Int}{t:Nat}{q:cH}{w:Int}{e:Nat->Int}{x:Instr}
def HM{e:O}(S:ap g u b.u)(ho:ap g y b.aR){s:O}(F:ap g s c)(af:∀d∈c,0<=d/\d<b.u.length)(aq:b.u.length=b.aR.length)(aA:b.aR.length<=1000000)(ay:c.length<=1000000)
 (P:∀w∈b.aR,-1000000000<=w/\w<=1000000000):nY 126 [fv b u y e,O.v s] g (bC b.u b.aR c):=by
 apply Cq
 simp -zeta only[aD,aC]
 intro t
 have G:J g t:=(J.aB g).aK _
 have K:∀I∈[g.size],I<t.size:=by simp[t]
 have az:=F.len
 have ax:=S.len
 clear_value t
 refine(lp (ho.ext G) V).aI V K λz m2 o2 i2 h2=>⟨z,rfl,?_⟩
 have R:=i2.len
 have kv:∀(p H aR:List Int),bC b.u aR (p++H)=bC b.u (bC b.u aR p) H:=by
  intro p;induction p with
  |nil=>intro H aR;rfl
  |cons d p q=>intro H aR;simp only[cU,bC,q]
 have lo:∀(p aR:List Int)(B:Int),(∀w∈aR,B<=w)->∀w∈bC b.u aR p,B -p.length<=w:=by
  intro p;induction p with
  |nil=>intro aR B h w v;have:=h w v;simp;omega
  |cons d p q=>
   intro aR B h w v;simp only[bC]at v;have:=q _ (B -1) (λx j=>by
    split at j
    ·rcases dL (d.toNat<aR.length)with C|C
     ·rcases pD j with j|j
      ·have:=h _ (iZ (i:=d.toNat) (a:=E aR d) (by obtain⟨D,A⟩:=ag C;rw[JS A];exact A));omega
      ·have:=h x j;omega
     ·have A:gF aR d (E aR d -1)=aR:=by unfold gF;rw[ru V]
      rw[A]at j;have:=h x j;omega
    ·have:=h x j;omega) w v
   simp only[aY];omega
 refine eU (n:=c.length) V (λj q=>J t q/\gG t q aE 1 z ((bC b.u b.aR (c.take j)).map Ce.i)) ⟨h2,o2⟩ ?_
 rintro j m3 al μ hk ⟨T,D⟩ X
 have M:=G.trans T
 refine dit (λh=>?_) λh=>?_
 ·obtain⟨d,x⟩:=ag (l:=c) (k:=j) V
  have q:=af d (ar x)
  have au:=jV b.u (c.take j) b.aR
  refine⟨V,V,d,by simpa using M.af (F.E x),q.1,V,E b.u d,by simpa using M.af (S.pu q.1 q.2),?_⟩
  refine(fu _ _).aI T K λI W Q N C=>⟨I,rfl,λac=>?_,λaa=>?_⟩
  ·have U:=G.trans C
   have L:=D.ext N
   have i4:ap W z (bC b.u b.aR (c.take j)):=ap.fV L V
   refine⟨V,V,d,by simpa using U.af (F.E x),V,V,d,by simpa using U.af (F.E x),q.1,V,E (bC b.u b.aR (c.take j)) d,i4.pu q.1 V,q.1,V,?_⟩
   have aw:=lo (c.take j) b.aR (-1000000000) (λw v=>(P w v).1) _ (eW (c:=bC b.u b.aR (c.take j)) q.1 V)
   have am:E (bC b.u b.aR (c.take j)) d<=1000000000:=by
    obtain⟨q',ak,an⟩:=kQ (c.take j) b.aR d.toNat _ (og (c:=bC b.u b.aR (c.take j)) q.1 V);have:=(P q' (ar ak)).2;omega
   have av:(c.take j).length<=1000000:=bJ
   rw[aQ V V]
   rcases L.E with ai|⟨v,Z,tail,A,e2,e3,e4,e5⟩
   ·rw[ai]at R;simp at R;omega
   ·have aj:z.off=0:=by rw[A];rfl
    have ab:z.F=v:=by rw[A];rfl
    rw[aj,ab]
    have ad:0+d.toNat*1=d.toNat:=V
    rw[ad]
    have ah:d.toNat<((bC b.u b.aR (c.take j)).map Ce.i).length:=bJ
    refine⟨e3.fH (by simp only[aZ];omega),?_⟩
    intro m5
    have Y:J t m5:=C.ai e2 _ _
    refine⟨J.th C Y K,X V _ ⟨Y,?_⟩⟩
    rw[bn x,kv]
    simp only[bC,ao (Q.1 ac)]
    refine⟨by rw[dR,jM,<-dR (f:=Ce.i)];exact L.len,Or.inr ⟨v,Z,tail,A,e2,?_,?_,e5⟩⟩
    ·have:=cF.ai (m:=W) (o:=d.toNat) (r:=[.i (E (bC b.u b.aR (c.take j)) d -1)]) e3
     have A:iX ((bC b.u b.aR (c.take j)).map Ce.i++tail) d.toNat [.i (E (bC b.u b.aR (c.take j)) d -1)]=(gF (bC b.u b.aR (c.take j)) d (E (bC b.u b.aR (c.take j)) d -1)).map Ce.i++tail:=by
      simp only[iX,gF,tG];rw[Ln _ _ ah]
     rw[A]at this;exact this
    ·simp only[aZ,dR,jM]at e4⊢;exact e4
  ·refine X V _ ⟨C,?_⟩
   rw[bn x,kv]
   simp only[bC,ae (fb Q aa)]
   exact D.ext N
 ·rw[cN V]at D
  exact⟨z,rfl,D.bY G.size,M⟩
def fG{aW v z:O}(a:RV g t 2 d p aW v z q s)(N:1000<=w){c:bX}(j:s.heap[ix w]? =some c):
 aO cw 173 [vp t 0,vi w] g λF y=>∃b,F=.agg #[vi c.aS,vi c.jQ,O.v b]/\ap y b c.aL/\J g y:=by
 apply tU (t,0)
 simp -zeta only[aD,aC]
 intro D
 have f:J g D:=(J.aB g).aK _
 have l:=dN.ext f a.heap
 obtain⟨b,I,r,u,k⟩:=l.E j
 have L:=l.len
 have M:=l.fS
 have C:=ax j
 unfold ix at C r u k
 have e:cW (w -1000)=w -1000:=aQ V V
 rw[e]
 refine⟨v,f.af a.qT,V,V,c.aS,r,c.jQ,u,b,k,?_⟩
 intro E
 have m:J g E:=f.ai (ad _) _ _
 obtain⟨o,A,P,Q,x⟩:=(dN.ext m a.heap).E j
 unfold ix at x
 have B:o=b:=by
  have H:=f.af (a.qT);obtain⟨G,K,_,_,n⟩:=a.heap.E j;unfold ix at n;have h:=f.af n;have i:=m.af n;rw[k]at h;rw[x]at i;simp at h i;rw[O.Gp]at h i;rw[h,i]
 subst B
 exact⟨o,rfl,A,m⟩
def ux{aW P G:O}(F:RV g t 2 d p aW P G q s)(K:fE s.heap e){E:O}(r:ap g E c)(M:∀w∈c,gE s.heap w)(ab:c.length<=1000000):
 dJ cw 206 [vp t 0,O.v E] g (kW s.heap c):=by
 apply rQ (t,0)
 have aa:=r.len
 refine eU (n:=c.length) V (λu a=>J g a/\∀w∈c.take u,1000<=w->(aJ s.heap w).aS+eL c (ix w)<=999999) ⟨J.aB _,D⟩ ?_
 rintro u m1 S μ X ⟨A,z⟩ R
 refine⟨λh=>?_,λh=>jG (dq (by simp at h;omega) z) A⟩
 simp only[au]at h
 obtain⟨x,m⟩:=ag (l:=c) (k:=u) V
 have o:=M x (ar m)
 have Q:=iI o.1
 refine dU (n:=c.length) V (λj(B:Int) a=>J g a/\B=eL (c.take j) (ix x)) ⟨A,by simp[eL]⟩ ?_
 rintro j B m2 T μ2 W ⟨f,rfl⟩ C
 refine dit (λH=>?_) λH=>?_
 ·obtain⟨y,v⟩:=ag (l:=c) (k:=j) V
  have N:=lO (c.take j) (ix x)
  have L:=iG (c.take j) (ix x)
  have I:(c.take j).length<=1000000:=bJ
  have i:eL (c.take (j+1)) (ix x)=eL (c.take j) (ix x)+if y=x then 1 else 0:=by
   rw[bn v,lM];simp only[eL,Q];omega
  refine⟨V,V,y,by simpa using f.af (r.E v),V,V,x,by simpa using f.af (r.E m),λa=>C V _ _ ⟨f,?_⟩,λa=>C V _ _ ⟨f,?_⟩⟩
  ·simp at a;rw[i,ao a];exact aQ V V
  ·simp at a;rw[i,ae a];omega
 ·rw[cN V]
  have N:=lO c (ix x)
  have L:=iG c (ix x)
  obtain⟨y,Z⟩:=bZ o
  have Y:=(K.cell _ (ar y)).hi
  refine⟨V,V,x,by simpa using f.af (r.E m),?_⟩
  refine(fG (F.ext f) o.1 y).mono ?_
  rintro _ m3 ⟨b,rfl,U,a⟩
  have v:cW ((aJ s.heap x).aS+eL c (ix x))=(aJ s.heap x).aS+eL c (ix x):=aQ V V
  refine⟨_,_,_,rfl,λi=>cK (λI=>?_) (f.trans a),λi=>R V _ ⟨f.trans a,bV m z λ_=>?_⟩⟩
  ·have:=I x (ar m) o.1
   rw[v]at i;simp at i;omega
  ·rw[v]at i;simp at i;omega
def sO{h:List bX}:kW h (kL c)<->kW h c:=by
 unfold kW;constructor
 ·intro b w d a;have:=b w (lW.2 ⟨d,a⟩) a;rwa[vM]at this
 ·intro b w d a;rw[vM];exact b w (lW.1 d).1 a
def T4{s:O}(h:ap g s c)(p:1<=c.length):ap g (O.cut s 1 s.len 1) (c.drop 1):=by
 have b:=h.len;have i:=h.cap;have l:=h.fS;cases s with
 |nil=>simp at b;omega
 |zn d y a=>simp at b;omega
 |mk d y r o=>
  simp at b i l;refine⟨by simp[O.cut];omega,by simp[O.cut];omega,by simp[O.cut];omega,λn x a=>?_⟩;rw[rT]at a;have q:=ax a;obtain⟨f,j,jg⟩:=h.iP (1+n) x a;refine⟨f,j,λm e k=>?_⟩;have:=jg m e k;simp only[O.cut,O.jm,O.ta]at this⊢;rw[ae V];rw[<-this];congr 1;omega
def gB.pH(h:gB q b){u:Int}(d:0<=u)(e:u<b.u.length)(f:∀w∈b.u,w<=9223372036854775807): -9223372036854775808<=E b.u u/\E b.u u<=9223372036854775807:=by
 have c:=eW (c:=b.u) d e;refine⟨?_,f _ c⟩;rcases h.MM _ c with a|a
 ·have:=a.1;omega
 ·omega
def Jm{aW hp fr:O}(z:RV g t 2 d p aW hp fr q s)(N:fE s.heap e)(Q:ap g u b.u)(P:ap g h b.bo)(o:ap g v x.args)
 (M:gB q b)(aj:∀w∈b.u,w<=9223372036854775807)(aa:∀k∈x.args,0<=k/\k<b.u.length)(ay:1<=x.args.length/\x.args.length<=4)(az:x.op=16\/x.op=17):
 dJ cw 174 [vp t 0,fv b u y h,xv x v j] g (EK s.heap b x):=by
 apply tv (t,0)
 simp -zeta only[aD,aC]
 intro m1 G
 have a:J g G:=((J.aB g).aK _).aK _
 have l:∀i∈[m1.size,g.size],i<G.size:=by simp[G,m1];omega
 have au:=o.len
 have aB:=Q.len
 have ax:=P.len
 have aq:=o.cap
 clear_value G
 have c:0<=E x.args 0/\E x.args 0<b.u.length:=aa _ (eW V V)
 have S:E x.args 0<b.bo.length:=by have:=M.lr;have:=M.lh;omega
 have am:=M.pH c.1 c.2 aj
 refine⟨V,V,E x.args 0,(o.ext a).pu V V,c.1,V,E b.u (E x.args 0),(Q.ext a).pu c.1 c.2,hp,a.af z.qT,?_⟩
 unfold EK
 simp only[]
 generalize aE:E b.u (E x.args 0)=w at*
 refine(lx (dN.ext a z.heap) am).aI (J.aB _) l λi m3 r B _=>⟨i,rfl,λai=>cK (λf=>nb r ai f.1) (a.trans B),λah=>?_⟩
 have m:=yb r ah
 obtain⟨C,aA⟩:=bZ m
 have av:=(N.cell _ (ar C)).fl
 have an:=a.trans B
 refine((fG (z.ext an) m.1 C)).aI B l ?_
 rintro _ m4 ⟨fl,rfl,al,W⟩
 have T:=B.trans W
 refine⟨W,_,_,_,rfl,(oE al V).aI (by have:=nM (aJ s.heap w).aL;omega) (λi r=>T.lt (l i r)) λps m5 o5 i5 h5=>⟨ps,rfl,V,V,V,?_⟩⟩
 have H:=T.trans h5
 have ab:=a.trans H
 have e1:(Int.toNat (1:Int))=1:=rfl
 have e2:(Int.toNat (v.len:Int))=v.len:=V
 rw[e1,e2]
 refine(rR (Q.ext ab) (T4 (o.ext ab) V) (λk n=>aa k (wC n)) bJ).aI (by simp[cv];omega) (λi r=>H.lt (l i r)) λqs m6 o6 i6 K=>⟨qs,rfl,?_⟩
 have ac:=H.trans K
 refine(qx (i5.ext K) i6).aI ac l λb2 m7 X h7 A=>⟨b2,rfl,λae=>?_,λad=>cK (λf=>fb X ad f.2.1) (a.trans A)⟩
 have D:=X.1 ae
 refine(fG (z.ext (a.trans A)) m.1 C).aI A l ?_
 rintro _ m8 ⟨ao,rfl,aw,L⟩
 have I:=A.trans L
 refine⟨L,_,_,_,rfl,λn=>?_,λn=>?_⟩
 ·simp at n
  have F:=a.trans I
  refine⟨λk=>jG ⟨m,D,Or.inl n,λe=>by simp at k;omega⟩ F,λk=>⟨V,V,E x.args 0,(o.ext F).pu V V,c.1,V,E b.bo (E x.args 0),(P.ext F).pu c.1 S,ft ?_ F⟩⟩
  simp only[aF,ak,ne_eq]at k⊢
  exact⟨λR=>⟨m,D,Or.inl n,λ_=>R⟩,λf=>f.2.2.2 V⟩
 ·simp at n
  refine(ux (z.ext (a.trans I)) N (i5.ext ((K.trans h7).trans L)) (λU F=>N.field (ar C) (lW.1 F).1 (lW.1 F).2) (by have:=nM (aJ s.heap w).aL;omega)).aI I l λb3 m9 Y h9 U=>⟨b3,rfl,λag=>?_,λaf=>cK (λf=>?_) (a.trans U)⟩
  ·have Z:=sO.1 (Y.1 ag)
   have F:=a.trans U
   refine⟨λk=>jG ⟨m,D,Or.inr Z,λe=>by simp at k;omega⟩ F,λk=>⟨V,V,E x.args 0,(o.ext F).pu V V,c.1,V,E b.bo (E x.args 0),(P.ext F).pu c.1 S,ft ?_ F⟩⟩
   simp only[aF,ak,ne_eq]at k⊢
   exact⟨λR=>⟨m,D,Or.inr Z,λ_=>R⟩,λf=>f.2.2.2 V⟩
  ·rcases f.2.2.1 with k|k
   ·exact n k
   ·exact fb Y af (sO.2 k)
def HD{aW R fr:O}(b:RV g t 2 d p aW R fr q s)(I:gP q)(F:fE s.heap e)(hw: -9223372036854775808<=w/\w<=9223372036854775807):
 dJ cw 172 [vp t 0,vi w] g (vm q s.heap w):=by
 apply sG (t,0)
 simp -zeta only[aD,aC]
 refine⟨R,b.qT,(lx b.heap hw).then λi m1 z E=>⟨i,rfl,λak=>cK (λa=>nb z ak a.1) E,λaj=>?_⟩⟩
 have B:=yb z aj
 obtain⟨H,an⟩:=bZ B
 have M:=F.cell _ (ar H)
 have aG:=(M.qQ an).2
 refine(fG (b.ext E) B.1 H).mono ?_
 rintro _ f ⟨D,rfl,Q,j⟩
 refine⟨_,_,_,rfl,?_⟩
 intro W h
 have ap:=E.trans j
 have K:J f h:=((J.aB f).aK _).ai (ad _) _ _
 have s4:h.size=f.size+1:=by simp[h,W,av]
 have hB:af h f.size 1=some (vi (aJ s.heap w).jQ):=(cF.ai (m:=W) (o:=0) (r:=[.i (aJ s.heap w).aS,.i (aJ s.heap w).jQ,.s D]) (cF.push f _ _)).cp 1
 have A:∀i∈[f.size],i<h.size:=by simp[s4]
 clear_value h
 have c:=ap.trans K
 have N:=b.ext c
 have aF:=b.fe.cA.len
 have aE:=I.mw.len
 have aw:(eK q.aT).length<=12:=by
  have:=qS I.mw.types q.aT.length;rw[mL _ _ (ad _)]at this;exact this
 refine⟨d,N.aT,(qu N.fe.aT I.mw.types).aI (J.aB _) A λm5 v _=>⟨_,rfl,v.cV hB,p,(b.ext (c.trans v)).cA,?_⟩⟩
 have aH:=c.trans v
 have Z:cW ((aJ s.heap w).jQ -((eK q.aT).length:Int))=(aJ s.heap w).jQ -bI q:=aQ V V
 have e2:cW ((p.len:Int) -1)=(p.len:Int) -1:=aQ V V
 rw[Z,e2]
 refine(bF _ _ _ _).aI v A λY m6 P h6 n=>⟨Y,rfl,λah=>?_,λae=>cK (λa=>fb P ae ⟨a.2.1,by have:=a.2.2.1;omega⟩) (c.trans n)⟩
 have T:=P.1 ah
 have C:=c.trans n
 have G:=b.ext C
 obtain⟨aq,S⟩:=ag (l:=q.cA) (k:=((aJ s.heap w).jQ -bI q).toNat) V
 have ao:dx q ((aJ s.heap w).jQ -bI q)=aq:=by simp[dx,S]
 obtain⟨X,l',c',ac,am,ay,g0,g1,_⟩:=G.fe.cA.E S
 have ax:=ac.len
 have aB:=am.len
 have aA:=Q.len
 have az:=M.fl
 have e3:cW ((D.len:Int)+1)=(D.len:Int)+1:=aQ V V
 rw[e3]
 unfold vm
 rw[ao]
 refine⟨p,G.cA,V,V,X,g0,λx=>⟨p,G.cA,V,V,l',g1,λy=>⟨λu=>?_,λu=>?_⟩,λy=>cK (λa=>?_) C⟩,λx=>cK (λa=>?_) C⟩
 ·simp at x y u
  exact jG ⟨B,T.1,V,V,V,Or.inl u⟩ C
 ·simp at x y u
  refine(oE (Q.ext (K.trans n)) V).aI (by have:=nM (aJ s.heap w).aL;omega) (λi z=>n.lt (A i z)) λps m7 o7 i7 aa=>⟨ps,rfl,?_⟩
  have L:=n.trans aa
  refine(ux (b.ext (c.trans L)) F i7 (λab U=>F.field (ar H) (lW.1 U).1 (lW.1 U).2) (by have:=nM (aJ s.heap w).aL;omega)).aI L A λU m8 ai au ab=>⟨U,rfl,ft ?_ (c.trans ab)⟩
  rw[ai,sO]
  refine⟨λal=>⟨B,T.1,V,V,V,Or.inr al⟩,λa=>?_⟩
  rcases a.2.2.2.2.2 with j|j
  ·exact absurd j u
  ·exact j
 ·have:=a.2.2.2.2.1;simp at y;omega
 ·have:=a.2.2.2.1;simp at x;omega
def HF{aW N F:O}(C:RV g t 2 d p aW N F q s)(B:ap g h b.bo)(H:ap g v x.args)(U:0<=x.bW/\x.bW<=b.bo.length)(W:b.bo.length<=1000000)
 (L:∀w∈b.bo,w≠0->1000<=w/\∃n,s.heap[ix w]? =some n):
 dJ cw 170 [vp t 0,fv b u y h,xv x v j] g (EL s.heap b x):=by
 apply sH (t,0)
 simp -zeta only[aD,aC]
 intro m f
 have c:J g f:=((J.aB g).aK _).aK _
 have M:∀D∈[m.size,g.size],D<f.size:=by simp[f,m];omega
 have G:af f m.size 4=some (O.v v):=(cF.push m _ _).cp 4
 have R:=H.len
 have T:=B.len
 clear_value f
 unfold EL
 refine⟨λk=>jG (λo=>absurd (by simpa using k) o) c,λk=>?_⟩
 simp at k
 have e:cW (x.bW -1)=x.bW -1:=aQ V V
 rw[e]
 have A:=(B.ext c).pu (i:=x.bW -1) V V
 refine⟨V,V,E b.bo (x.bW -1),A,λa=>jG (λ_ o=>absurd (by simpa using a) o) c,λa=>?_⟩
 simp at a
 obtain⟨P,n,z⟩:=L _ (eW (c:=b.bo) (i:=x.bW -1) V V) a
 refine⟨V,V,E b.bo (x.bW -1),A,(fG (C.ext c) P z).aI (J.aB _) M ?_⟩
 rintro _ X ⟨Q,rfl,K,o⟩
 have S:=K.len
 have I:aJ s.heap (E b.bo (x.bW -1))=n:=by simp[aJ,z]
 refine⟨o,_,_,_,rfl,o.cV G,ft ?_ (c.trans o)⟩
 rw[I]
 simp
 exact⟨λr _ _=>V,λr=>by have:=r k a;omega⟩
def qI(q:cH)(x:Instr):∀(c u:List Int)(k:Nat),fx q x k (c++u)=fx q x k c++fx q x (k+c.length) u
 |[],u,k=>by simp[fx]
 |v::c,u,k=>by
  have:=qI q x c u (k+1);simp only[cU,fx,this,aY];have e:k+(c.length+1)=k+1+c.length:=V;rw[e];split<;>simp
def we{aW o fr:O}(A:RV g t 2 d p aW o fr q s)(U:ap g u b.u)(G:ap g v x.args)(hF:gB q b)(af:∀w∈b.u,w<=9223372036854775807)
 (ah:∀a∈x.args,0<=a/\a<b.u.length)(hc:y9 q x)(aj:x.op=9\/x.op=24):
 dJ cw 171 [vp t 0,fv b u y h,xv x v j] g (JP q s.heap b x):=by
 apply sF (t,0)
 simp -zeta only[aD,aC]
 intro Z m
 have K:J g m:=((J.aB g).aK _).aK _
 have I:∀B∈[Z.size,g.size],B<m.size:=by simp[m,Z];omega
 have aa:=G.len
 have al:=U.len
 clear_value m
 refine eU (n:=x.args.length) (aa▸G.fS) (λc e=>J m e/\∀a∈fx q x 0 (x.args.take c),1000<=E b.u a->gE s.heap (E b.u a)) ⟨J.aB _,by simp[fx]⟩ ?_
 rintro c m3 ak μ hk ⟨X,T⟩ M
 have r:=K.trans X
 refine⟨λh=>?_,λh=>jG (by simp at h;rwa[cN V]at T) r⟩
 simp only[au]at h
 obtain⟨a,L⟩:=ag (l:=x.args) (k:=c) V
 have i:=ah a (ar L)
 have F:=A.ext r
 have W:fx q x 0 (x.args.take (c+1))=fx q x 0 (x.args.take c)++fx q x c [a]:=by
  rw[bn L,qI];congr 2;simp;omega
 have H:(np q x c=true->1000<=E b.u a->gE s.heap (E b.u a))->∀z∈fx q x 0 (x.args.take (c+1)),1000<=E b.u z->gE s.heap (E b.u z):=λhh z e=>by
  rw[W]at e;rcases List.mem_append.1 e with e|e
  ·exact T z e
  ·simp only[fx]at e;split at e
   ·rename_i f;simp at e;subst e;exact hh f
   ·simp at e
 have ai:np q x c=true->a∈fx q x 0 x.args:=λf=>by
  have e1:x.args=x.args.take (c+1)++x.args.drop (c+1):=(dg _ _).symm;rw[e1,qI,W];refine bL _ (fC _ ?_);simp only[fx];rw[ao f];simp
 refine⟨V,V,a,by simpa using r.af (G.E L),i.1,V,E b.u a,by simpa using r.af (U.pu i.1 i.2),d,F.aT,p,F.cA,?_⟩
 refine(rO F.fe hc v j c).aI X I λB m4 Q h4 N=>⟨B,rfl,λae=>?_,λad=>M V _ ⟨N,H λf=>absurd ⟨aj,f⟩ (fb Q ad)⟩⟩
 have f:=(Q.1 ae).2
 refine(fu _ _).aI N I λb2 m5 R h5 C=>⟨b2,rfl,λac=>?_,λab=>M V _ ⟨C,H λ_ o=>absurd o (fb R ab)⟩⟩
 have Y:=K.trans C
 refine⟨o,(A.ext Y).qT,(lx (dN.ext Y A.heap) (hF.pH i.1 i.2 af)).aI C I λb3 m6 S h6 P=>⟨b3,rfl,λD=>cK (λhM=>nb S D (hM a (ai f) (R.1 ac))) (K.trans P),λD=>M V _ ⟨P,H λ_ _=>yb S D⟩⟩⟩
end
section
structure yZ(im:cH)(s:St)(fs:List aX)(f:aX)(x:Instr):Prop where
 ok:dh im s
 run:s.bU=3
 fr:s.az=fs++[f]
 cur:dk im f=x
 Dj:∀g∈s.az,∀w∈g.u,w<=9223372036854775807
section
variable{b:cH}{s:St}{c:List aX}{f:aX}{x:Instr}
def yZ.F(a:yZ b s c f x):gB b f:=a.ok.az f (by rw[a.fr];simp)
def yZ.LC(a:yZ b s c f x):∀w∈f.u,w<=9223372036854775807:=a.Dj f (by rw[a.fr];simp)
def yZ.I(a:yZ b s c f x):∃p,b.cA[f.eP.toNat]? =some p/\dx b f.eP=p/\GD b p/\p.cL[f.pc.toNat]? =some x/\iA b p f.pc.toNat x:=by
 have:=a.F.Im a.ok.fe;rwa[a.cur]at this
def yZ.LP(a:yZ b s c f x):f.u.length=f.aR.length/\f.bo.length=f.aR.length/\1<=f.aR.length/\f.aR.length<=2000:=by
 obtain⟨p,_,e,i,_,_⟩:=a.I;have d:=a.F.lr;have g:=a.F.lo;have h:=a.F.lh;rw[e]at d g h;have:=i.u;omega
def yZ.arg(a:yZ b s c f x):∀y∈x.args,0<=y/\y<f.u.length:=λy h=>by
 obtain⟨p,_,e,_,_,g⟩:=a.I;have d:=a.F.lr;rw[e]at d;have:=g.args y h;omega
def yZ.dst(a:yZ b s c f x):0<=x.dst/\x.dst<f.aR.length:=by
 obtain⟨p,_,e,_,_,g⟩:=a.I;have d:=a.F.lo;rw[e]at d;have:=g.dst;omega
def yZ.call(a:yZ b s c f x):y9 b x:=let⟨_,_,_,_,_,d⟩:=a.I;d.call
def yZ.YN(a:yZ b s c f x):0<=x.op/\x.op<=24/\x.op≠7/\x.op≠8/\x.op≠12/\x.op≠13:=by
 obtain⟨p,_,_,e,_,d⟩:=a.I;exact((Io e.u.2.2 a.ok.fe.mw.len.2 λq g=>(a.ok.fe.mw.dt q g).1).1 d).1
def yZ.kY(g:yZ b s c f x):x.args.length<=4/\((x.op=5\/x.op=14\/x.op=15\/x.op=18\/x.op=23\/x.op=19\/x.op=20\/x.op=21)->x.args.length=1)/\((x.op=1\/x.op=2\/x.op=3\/x.op=4\/x.op=11)->x.args.length=2)/\
 ((x.op=16\/x.op=17)->1<=x.args.length)/\(x.op=6->0<=x.bW/\x.bW<=f.bo.length/\0<=x.bN/\x.bN<12/\x.args.length<=3)/\(x.op=10->0<=x.bN/\x.bN<4/\x.args.length<=3)/\(x.op=0->-999<=x.bN/\x.bN<=999):=by
 obtain⟨z,_,r,y,_,u⟩:=g.I
 have a:=u.op
 have t:=g.F.lh
 rw[r]at t
 have d:=g.ok.fe.mw
 have v:(eK b.aT).length<=12:=by
  have:=qS d.types b.aT.length;rw[mL _ _ (ad _)]at this;exact this
 have w:=Ii d.types x.bN
 unfold lG at a
 by_cases h:x.op=0
 ·rw[ao h]at a;omega
 rw[ae h]at a
 by_cases i:x.op=1\/x.op=2\/x.op=3\/x.op=4\/x.op=11
 ·rw[ao i]at a;omega
 rw[ae i]at a
 by_cases j:x.op=5\/x.op=14\/x.op=15\/x.op=18\/x.op=23
 ·rw[ao j]at a;omega
 rw[ae j]at a
 by_cases k:x.op=6
 ·rw[ao k]at a;omega
 rw[ae k]at a
 by_cases l:x.op=9\/x.op=24
 ·rw[ao l]at a
  obtain⟨q,n,e,o⟩:=a
  have:=(d.dt q (ar e)).1;omega
 rw[ae l]at a
 by_cases m:x.op=10
 ·rw[ao m]at a
  obtain⟨⟨q,n,e,o⟩,_⟩:=a
  have:=(d.dt q (ar e)).1
  have:=ax e
  have:=d.len;omega
 rw[ae m]at a
 by_cases n:x.op=16\/x.op=17
 ·rw[ao n]at a;omega
 rw[ae n]at a
 by_cases o:x.op=19
 ·rw[ao o]at a;omega
 rw[ae o]at a
 by_cases p:x.op=20
 ·rw[ao p]at a;omega
 rw[ae p]at a
 by_cases q:x.op=22
 ·rw[ao q]at a;omega
 rw[ae q]at a
 by_cases e:x.op=21
 ·rw[ao e]at a
  have:=a.1;omega
 rw[ae e]at a;exact a.elim
def yZ.Kk(d:yZ b s c f x):∀w∈f.bo,w≠0->1000<=w/\∃e,s.heap[ix w]? =some e/\e.aS<0:=λw h k=>by
 have g:1000<=w:=by have:=d.F.bo w h;omega
 refine⟨g,?_⟩;have j:0<holds s.az (ix w):=by
  rw[d.fr,eB,iN];have:=zr c (ix w);have:=um (l:=f.bo) (f:=ix w) (by rw[iI g];exact h);omega
 exact dK λi=>by have:=d.ok.nu (ix w) i;omega
def yZ.NG(d:yZ b s c f x):∀o∈f.aR,0<=o/\o<=999999:=λo i=>by
 have r:=d.F.O2 o i;refine⟨r,?_⟩;rcases dL (0<o)with j|j
 ·obtain⟨n,e⟩:=List.mem_iff_getElem?.1 i;have:=d.LP;obtain⟨w,m⟩:=ag (l:=f.u) (k:=n) (by have:=ax e;omega);have p:=(d.F.aR n o w e m).2 j;have t:=Kw d.F.O2 m e (d:=ix w) (by rw[iI p]);have u:o<=gN s.az (ix w):=by
   rw[d.fr,fL,kG];have:=JF (b:=c) (λg h=>d.ok.az g (by rw[d.fr];exact bL _ h)) (ix w);omega
  obtain⟨g,h,q⟩:=d.ok.heap.lv (ix w) V;have v:=d.ok.heap.ex _ g h q;have y:=ur s.heap (ix w);have z:=(d.ok.heap.cell g (ar h)).hi;omega
 ·omega
def yZ.JI(a:yZ b s c f x):∀r∈bS b x,0<=r/\r<f.u.length:=λr d=>a.arg r (Bt d)
end
def KY{o:I}{mb:Nat}{ai ax aW d fr:O}{P:cH}{L:St}(S:RV o mb 2 ai ax aW d fr P L){fs:List aX}{m:aX}{x:Instr}(C:yZ P L fs m x){aa ad h U an ow:O}(T:ap o aa m.u)(X:ap o h m.bo)(N:ap o U x.args){aR:List Int}(Z:ap o ow aR)(aB:aR.length=m.aR.length):
 dJ cw 128 [vp mb 0,fv m aa ad h,xv x U an,O.v ow] o (jD P L m x aR):=by
 apply tV (mb,0)
 simp -zeta only[aD,aC]
 intro m1 R
 have b:J o R:=((J.aB o).aK _).aK _
 have i:∀g∈[m1.size,o.size],g<R.size:=by simp[R,m1];omega
 have aj:cF R m1.size dQ [.i x.op,.i x.dst,.i x.bN,.i x.bW,.s U,.s an]:=cF.push m1 _ _
 have aq:cF R o.size dB [.i m.eP,.i m.pc,.i m.dst,.s aa,.s ad,.s h]:=(cF.push o _ _).ext (J.push m1 _)
 have ay:=N.len
 have aG:=T.len
 have az:=X.len
 have aE:=Z.len
 have hd:=C.dst
 have aA:=C.LP
 have G:=C.kY
 have hI:=C.ok.heap
 clear_value R
 refine⟨λQ=>J R Q/\(∀ad∈aR,0<=ad)/\(lH x.op->E aR x.dst<=0),?_,?_⟩
 ·refine(AB (Z.ext b)).aI (J.aB _) i λg m3 c n _=>⟨g,rfl,λu=>cK (λl=>nb c u l.nn) (b.trans n),λz=>?_⟩
  refine(xt _ _).aI n i λM A y w a=>⟨M,rfl,λu=>?_,λv=>⟨a,yb c z,λe=>absurd e (fb y v)⟩⟩
  refine⟨hd.1,V,E aR x.dst,(Z.ext (b.trans a)).pu hd.1 V,λk=>cK (λl=>?_) (b.trans a),λk=>⟨a,yb c z,λ_=>by simpa using k⟩⟩
  have:=l.dst (y.1 u);simp at k;omega
 ·rintro m3 ⟨n,q,p⟩
  have f:=b.trans n
  have t:=S.ext f
  have mk:∀{ae:Prop},(jD P L m x aR->ae)->(ae->jD P L m x aR)->(jD P L m x aR<->ae):=λK h2=>⟨K,h2⟩
  have B:1<=x.args.length->0<=E x.args 0/\E x.args 0<m.u.length:=λK=>C.arg _ (eW V V)
  have D:∀{Q},J o Q->1<=x.args.length->af Q U.F (U.off+Int.toNat (0:Int)*1)=some (vi (E x.args 0)):=λhx K=>(N.ext hx).pu V V
  have F:∀{Q},J o Q->1<=x.args.length->af Q aa.F (aa.off+Int.toNat (E x.args 0)*1)=some (vi (E m.u (E x.args 0))):=λhx K=>(T.ext hx).pu (B K).1 (B K).2
  refine⟨λe=>?_,λe1=>?_⟩
  ·simp only[bT,aF]at e
   refine(DJ (T.ext f) (N.ext f) C.arg).aI n i λg A c w a=>⟨g,rfl,ft (c.trans ?_) (b.trans a)⟩
   refine⟨λd=>?_,λh=>h.mZ V⟩
   refine⟨q,p,?_,?_,?_,?_,?_,?_,?_,?_,?_,?_,?_⟩<;>intro r<;>first|(exfalso;omega)|exact d
  simp only[bz,ak]at e1
  refine⟨λe=>?_,λe2=>?_⟩
  ·simp only[aF]at e
   have j:=G.2.2.2.2.1 e
   refine(HF t (X.ext f) (N.ext f) ⟨j.1,j.2.1⟩ V (λab Y W=>by obtain⟨K,s,H,_⟩:=C.Kk ab Y W;exact⟨K,s,H⟩)).aI n i λg A c w a=>⟨g,rfl,ft (c.trans ?_) (b.trans a)⟩
   refine⟨λd=>?_,λh=>h.iH e⟩
   refine⟨q,p,?_,?_,?_,?_,?_,?_,?_,?_,?_,?_,?_⟩<;>intro r<;>first|(exfalso;omega)|exact d
  simp only[ak]at e2
  refine⟨λe=>?_,λe3=>?_⟩
  ·simp only[aF]at e
   refine(we t (T.ext f) (N.ext f) C.F C.LC C.arg C.call (Or.inl e)).aI n i λg A c w a=>⟨g,rfl,ft (c.trans ?_) (b.trans a)⟩
   refine⟨λd=>?_,λh=>h.cJ (Or.inl e)⟩
   refine⟨q,p,?_,?_,?_,?_,?_,?_,?_,?_,?_,?_,?_⟩<;>intro r<;>first|(exfalso;omega)|exact d
  simp only[ak]at e3
  refine⟨λe=>?_,λe4=>?_⟩
  ·simp only[aF]at e
   refine(we t (T.ext f) (N.ext f) C.F C.LC C.arg C.call (Or.inr e)).aI n i λg A c w a=>⟨g,rfl,λu=>?_,λz=>cK (λl=>fb c z (l.cJ (Or.inr e))) (b.trans a)⟩
   refine(nV (Z.ext (b.trans a))).aI a i λM m5 y k s=>⟨M,rfl,λah=>?_,λv=>cK (λl=>fb y v (l.zero (Or.inl e)).1) (b.trans s)⟩
   refine(nV (X.ext (b.trans s))).aI s i λb3 m6 H W j=>⟨b3,rfl,ft (H.trans ?_) (b.trans j)⟩
   refine⟨λd=>?_,λh=>(h.zero (Or.inl e)).2⟩
   refine⟨q,p,?_,?_,?_,?_,?_,?_,?_,?_,?_,?_,?_⟩<;>intro r<;>first|(exfalso;omega)|exact c.1 u|exact⟨y.1 ah,d⟩
  simp only[ak]at e4
  refine⟨λe=>?_,λe5=>?_⟩
  ·simp only[aF]at e
   have Y:=G.2.1 V
   refine(nV (Z.ext f)).aI n i λM m5 y k s=>⟨M,rfl,λah=>?_,λv=>cK (λl=>fb y v (l.zero (Or.inr e)).1) (b.trans s)⟩
   refine(nV (X.ext (b.trans s))).aI s i λb3 m6 H W j=>⟨b3,rfl,λav=>?_,λar=>cK (λl=>fb H ar (l.zero (Or.inr e)).2) (b.trans j)⟩
   have ac:=b.trans j
   have al:=S.ext ac
   have ab:=al.az.len
   have ic:∀d:1<L.az.length\/E m.u (E x.args 0)<1000,jD P L m x aR:=λd=>by
    refine⟨q,p,?_,?_,?_,?_,?_,?_,?_,?_,?_,?_,?_⟩<;>intro r<;>first|(exfalso;omega)|exact⟨y.1 ah,H.1 av⟩|exact d
   refine⟨fr,al.Nu,λh8=>jG (ic (Or.inl (by simp at h8;omega))) ac,λh8=>?_⟩
   refine⟨V,V,_,D ac V,(B V).1,by have:=(B V).2;omega,_,F ac V,(fu _ _).aI j i λb4 m7 am h9 ag=>⟨b4,rfl,ft ?_ (b.trans ag)⟩⟩
   simp at h8
   constructor
   ·intro ao
    exact ic (Or.inr (by have:=nb am ao;omega))
   ·intro l
    rcases l.ret e with ao|ao
    ·omega
    ·have:¬b4=true:=λaw=>by have:=am.1 aw;omega
     simpa using this
  simp only[ak]at e5
  refine⟨λe=>?_,λe6=>?_⟩
  ·simp only[aF]at e
   have Y:=G.2.2.1 V
   have j:=B V
   refine⟨V,V,_,D f V,j.1,V,_,F f V,(HD t C.ok.fe hI (C.F.pH j.1 j.2 C.LC)).aI n i λg A c w a=>⟨g,rfl,ft (c.trans ?_) (b.trans a)⟩⟩
   refine⟨λd=>?_,λh=>h.apply e⟩
   refine⟨q,p,?_,?_,?_,?_,?_,?_,?_,?_,?_,?_,?_⟩<;>intro r<;>first|(exfalso;omega)|exact d
  simp only[ak]at e6
  refine⟨λe=>?_,λe7=>?_⟩
  ·simp only[aF]at e
   have Y:=G.2.1 V
   have j:=B V
   refine⟨V,V,_,D f V,j.1,V,_,F f V,d,t.qT,(lx t.heap (C.F.pH j.1 j.2 C.LC)).aI n i λg A c w a=>⟨g,rfl,λu=>?_,λz=>cK (λl=>fb c z (l.UK e).1) (b.trans a)⟩⟩
   have v:=c.1 u
   refine(fG (S.ext (b.trans a)) v.1 (bZ v).1).aI a i ?_
   rintro _ m5 ⟨fl,rfl,ab,k⟩
   refine⟨k,_,_,_,rfl,ft ?_ (b.trans (a.trans k))⟩
   simp only[au]
   refine⟨λd=>?_,λh=>(h.UK e).2⟩
   refine⟨q,p,?_,?_,?_,?_,?_,?_,?_,?_,?_,?_,?_⟩<;>intro r<;>first|(exfalso;omega)|exact⟨v,d⟩
  simp only[ak]at e7
  refine⟨λe=>?_,λe8=>?_⟩
  ·simp only[aF]at e
   have Y:=G.2.1 V
   have j:=B V
   refine⟨V,V,_,D f V,j.1,V,_,F f V,(fu _ _).aI n i λg A c w a=>⟨g,rfl,ft (c.trans ?_) (b.trans a)⟩⟩
   refine⟨λd=>?_,λh=>h.drop e⟩
   refine⟨q,p,?_,?_,?_,?_,?_,?_,?_,?_,?_,?_,?_⟩<;>intro r<;>first|(exfalso;omega)|exact d
  simp only[ak]at e8
  refine⟨λe=>?_,λe9=>?_⟩
  ·simp only[bT,aF]at e
   refine(Jm t hI (T.ext f) (X.ext f) (N.ext f) C.F C.LC C.arg ⟨G.2.2.2.1 e,G.1⟩ e).aI n i λg A c w a=>⟨g,rfl,ft (c.trans ?_) (b.trans a)⟩
   refine⟨λd=>?_,λh=>h.Kv e⟩
   refine⟨q,p,?_,?_,?_,?_,?_,?_,?_,?_,?_,?_,?_⟩<;>intro r<;>first|(exfalso;omega)|exact d
  simp only[bz,ak]at e9
  refine⟨λe=>?_,λac=>?_⟩
  ·simp only[aF]at e
   have Y:=G.2.1 V
   have j:=B V
   refine⟨d,t.qT,V,V,_,D f V,j.1,V,_,F f V,(lx t.heap (C.F.pH j.1 j.2 C.LC)).aI n i λg A c w a=>⟨g,rfl,λu=>?_,λz=>cK (λl=>fb c z (l.load e).1) (b.trans a)⟩⟩
   have v:=c.1 u
   have H:=b.trans a
   refine⟨V,V,_,D H V,j.1,V,_,F H V,(fG (S.ext H) v.1 (bZ v).1).aI a i ?_⟩
   rintro _ m5 ⟨fl,rfl,ab,k⟩
   have ah:=ab.len
   refine⟨k,_,_,_,rfl,k.cV ((aj.ext a).cp 2),ft ?_ (b.trans (a.trans k))⟩
   simp only[au]
   refine⟨λd=>?_,λh=>by have:=(h.load e).2;omega⟩
   refine⟨q,p,?_,?_,?_,?_,?_,?_,?_,?_,?_,?_,?_⟩<;>intro r<;>first|(exfalso;omega)|exact⟨v,V⟩
  simp only[ak]at ac
  refine⟨λe=>?_,λah=>?_⟩
  ·simp only[aF]at e
   have Y:=G.2.1 V
   have j:=B V
   refine⟨d,t.qT,V,V,_,D f V,j.1,V,_,F f V,(lx t.heap (C.F.pH j.1 j.2 C.LC)).aI n i λg A c w a=>⟨g,rfl,λu=>?_,λz=>cK (λl=>fb c z (l.xC e).1) (b.trans a)⟩⟩
   have v:=c.1 u
   have H:=b.trans a
   have l:=S.ext H
   refine⟨ai,l.aT,V,V,_,D H V,j.1,V,_,F H V,(Ac l.fe.aT C.ok.fe.mw.types _).aI a i ?_⟩
   rintro _ m5 ⟨cs,rfl,al,k⟩
   have s:=a.trans k
   refine⟨k,cs,rfl,k.cV (F H V),k.cV (D H V),k.cV ((aj.ext a).cp 4),k.cV ((aq.ext a).cp 3),(fG (S.ext (b.trans s)) v.1 (bZ v).1).aI s i ?_⟩
   rintro _ m6 ⟨fl,rfl,ab,W⟩
   refine⟨W,_,_,_,rfl,(dp (al.ext W) _).aI (s.trans W) i λM m7 y h8 ag=>⟨M,rfl,ft (y.trans ?_) (b.trans ag)⟩⟩
   refine⟨λd=>?_,λh=>(h.xC e).2⟩
   refine⟨q,p,?_,?_,?_,?_,?_,?_,?_,?_,?_,?_,?_⟩<;>intro r<;>first|(exfalso;omega)|exact⟨v,d⟩
  ·simp only[ak]at ah
   refine jG ?_ f
   refine⟨q,p,?_,?_,?_,?_,?_,?_,?_,?_,?_,?_,?_⟩<;>intro r<;>exfalso<;>omega
end
section
variable{p:Nat->Prop}{o n:Nat}{i:Int}{f:O}
structure dv(p:Nat->Prop)(ro:Nat->Nat)(m:I)(ro':Nat->Nat)(m':I):Prop where
 size:m.size<=m'.size
 iW:∀b,b<m.size->ro' b=ro b
 new:∀b,m'.size<=b->ro' b=0
 dW:∀b,b<m.size->¬p (ro b)->m'[b]? =m[b]?
def dv.aB(p:Nat->Prop){a:Nat->Nat}{m:I}(h:∀b,m.size<=b->a b=0):dv p a m a m:=⟨ad _,λ_ _=>rfl,h,λ_ _ _=>rfl⟩
def dv.trans{g i j:Nat->Nat}{d e f:I}(h:dv p g d i e)(k:dv p i e j f):dv p g d j f:=
 ⟨cg h.size k.size,λb a=>by rw[k.iW b (aP a h.size),h.iW b a],k.new,λb a c=>by
  rw[k.dW b (aP a h.size) (by rw[h.iW b a];exact c),h.dW b a c]⟩
def dv.mono{q:Nat->Prop}{b c:Nat->Nat}{m a:I}(h:dv p b m c a)(g:∀k,p k->q k):dv q b m c a:=⟨h.size,h.iW,h.new,λd e i=>h.dW d e λf=>i (g _ f)⟩
def dv.eN(p:Nat->Prop){c:Nat->Nat}{m d:I}(h:J m d)(e:∀b,m.size<=b->c b=0):dv p c m c d:=⟨h.size,λ_ _=>rfl,λb a=>e b (cg h.size a),λb a _=>h.same b a⟩
def dv.ai{a:Nat->Nat}{m:I}(g:∀b,m.size<=b->a b=0){b:Nat}(f:p (a b))(o:Nat)(l:List Ce):dv p a m a (ai m b o l):=
 ⟨yY (av _ _ _ _).symm,λ_ _=>rfl,λc d=>g c (by rw[av]at d;exact d),λc _ h=>bd _ _ _ _ λe=>h (e▸f)⟩
abbrev HC:=dv (λk=>k=3\/k=5\/k=6)
abbrev To:=dv (λk=>k≠0/\k≠9)
def dv.bY{g i:Nat->Nat}{c m f:I}(h:To g m i f)(e:J c m)(d:∀b,b<c.size->g b=0):J c f/\∀b,b<c.size->i b=0:=by
 have j:=e.size;exact⟨⟨cg j h.size,λb a=>by rw[h.dW b V (by simp[d b a]),e.same b a]⟩,λb a=>by rw[h.iW b V,d b a]⟩
def dv.dm{e f:Nat->Nat}{m d:I}(h:To e m f d){l:List Nat}(c:∀b∈l,b<m.size/\e b=0):eE l m d:=λb a=>h.dW b (c b a).1 (by simp[(c b a).2])
structure gY(ro:Nat->Nat)(m:I)(e sz k:Nat)(s:O)(l:List Ce):Prop where
 len:l.length=s.len*sz
 le:s.len<=s.cap
 E:s.cap=0\/∃b c tail,s=.mk b 0 s.len c/\ro b=k/\cF m b e (l++tail)/\(l++tail).length=c*sz
section
variable{c g:Nat->Nat}{b d:I}{e a k:Nat}{s:O}{l:List Ce}
def gY.uf(h:gY c b e a k s l)(f:s.cap=0):l=[]/\s.len=0:=by
 have:=h.le;have d:s.len=0:=V;exact⟨List.length_eq_zero_iff.1 (by rw[h.len,d];simp),d⟩
def gY.iP(h:gY c b e a k s l):fN b s.F s.off l:=by
 rcases h.E with f|⟨j,d,tail,h1,h2,h3,h4⟩
 ·rw[(h.uf f).1];intro i d g;simp at g
 ·rw[h1];exact h3.iP.Lr
def gY.wr(h:gY c b e a k s l)(d:o+n<=l.length):fH b s.F (s.off+o) n:=by
 rcases h.E with f|⟨g,i,tail,h1,h2,h3,h4⟩
 ·rw[(h.uf f).1]at d;intro m j;simp at d;omega
 ·rw[h1];simp only[O.jm,O.ta,cC];exact h3.fH bJ
def gY.dW(h:gY c b e a k s l)(p:s.cap≠0->d[s.F]? =b[s.F]?)(q:s.cap≠0->g s.F=c s.F):gY g d e a k s l:=by
 refine⟨h.len,h.le,?_⟩;rcases h.E with o|⟨m,n,tail,h1,h2,h3,h4⟩
 ·exact Or.inl o
 ·by_cases f:s.cap=0
  ·exact Or.inl f
  ·have i:=p f;have j:=q f;rw[h1]at i j;exact Or.inr ⟨m,n,tail,h1,j.trans h2,h3.congr i,h4⟩
def gY.F(h:gY c b e a k s l)(f:s.cap≠0):s.F<b.size/\c s.F=k:=by
 rcases h.E with d|⟨g,i,tail,h1,h2,h3,h4⟩
 ·exact absurd d f
 ·rw[h1];exact⟨h3.lt,h2⟩
def gY.eV(h:gY c b e a k s l)(i:dv p c b g d)(j:¬p k):gY g d e a k s l:=
 h.dW (λf=>i.dW _ (h.F f).1 (by rw[(h.F f).2];exact j)) (λf=>i.iW _ (h.F f).1)
def gY.set(h:gY c b e a k s l){new:List Ce}(w:o+new.length<=l.length):gY c (ai b s.F (s.off+o) new) e a k s (iX l o new):=by
 refine⟨by rw[kH];exact h.len,h.le,?_⟩;rcases h.E with u|⟨j,n,tail,h1,h2,h3,h4⟩
 ·exact Or.inl u
 ·refine Or.inr ⟨j,n,tail,h1,h2,?_,by simp only[aZ,kH]at h4⊢;exact h4⟩;have p:s.F=j:=by rw[h1];rfl
  have q:s.off=0:=by rw[h1];rfl
  rw[p,q,cC];have:=cF.ai (m:=b) (o:=o) (r:=new) h3;have t:iX (l++tail) o new=iX l o new++tail:=by
   have f:(iX l o new).length=l.length:=kH _ _ _;apply iy;intro i;rcases be i l.length with d|d
   ·have g:(iX l o new++tail)[i]? =(iX l o new)[i]? :=aw (by rw[f];exact d);rw[g,vQ,vQ];simp only[aZ];by_cases v:o<=i/\i<o+new.length
    ·rw[ao V,ao V]
    ·rw[ae V,ae V,aw d]
   ·have g:(iX l o new++tail)[i]? =tail[i -l.length]? :=by rw[aG (by rw[f];exact d),f]
    rw[g,vQ,ae V,aG d]
  rw[t]at this;exact this
def gY.cut(h:gY c b e a k s l){n:Nat}(m:n<=s.len):gY c b e a k (s.cut 0 n a) (l.take (n*a)):=by
 have j:=h.le;have q:=h.len;rcases h.E with i|⟨f,g,tail,h1,h2,h3,h4⟩
 ·have d:n=0:=V;cases s with
  |nil=>exact⟨by simp[d,O.cut],by simp[O.cut],Or.inl rfl⟩
  |zn f o p=>exact⟨by simp[d,O.cut],by simp[O.cut],Or.inl rfl⟩
  |mk f o r p=>simp at i;subst i;exact⟨by simp[d,O.cut],by simp[d,O.cut],Or.inl (by simp[O.cut])⟩
 ·rw[h1];have d:s.len<=g:=by rw[h1]at j;exact j
  refine⟨?_,by simp[O.cut];omega,Or.inr ⟨f,g,l.drop (n*a)++tail,?_,h2,?_,?_⟩⟩
  ·simp only[O.cut,O.iE,fY,Ww];have:n*a<=s.len*a:=db _ m;omega
  ·simp[O.cut]
  ·rw[<-fm,dg];exact h3
  ·rw[<-fm,dg];exact h4
end
def gY.append{i:Nat->Nat}{g:I}{k n:Nat}{c:List Ce}{v:Nat}{s x:O}{p d:List Ce}{K:O->I->Prop}(h:gY i g k c.length n s p)(u:∀a,g.size<=a->i a=0)
 (l:d.length=x.len*c.length)(C:fN g x.F x.off d)(j:(s.len+x.len)*v<=140737488355328)
 (t:∀w q f,gY w f k c.length n q (p++d)->dv (λz=>z=n) i g w f->K q f):jE g k c v s x K:=by
 have H:=h.le
 refine⟨d,l,C,λF=>?_,λG=>⟨j,p,h.len,h.iP,λf w=>?_⟩⟩
 ·rcases h.E with E|⟨a,f,tail,h1,h2,h3,h4⟩
  ·have y:x.len=0:=V
   have B:d=[]:=List.length_eq_zero_iff.1 (by rw[l,y];simp)
   subst B
   refine⟨λz A=>by simp at A,?_⟩
   have q:=t i s _ (by rw[dI];exact h) (dv.aB _ u)
   cases s with
   |nil=>exact q
   |zn a o J=>exact q
   |mk a o J f=>simp only[y,ju];exact q
  ·have y:=h.len
   have B:s.cap=f:=by rw[h1];rfl
   rw[h1]
   simp only[O.jm,O.ta,O.iE,cC]
   simp only[aZ]at h4
   have A:d.length<=tail.length:=by
    have z:(s.len+x.len)*c.length<=f*c.length:=db _ V;rw[gA]at z;omega
   refine⟨h3.fH (by simp only[aZ];omega),?_⟩
   have q:=cF.ai (m:=g) (b:=a) (e:=k) (r:=d) (o:=s.len*c.length) h3
   rw[<-y,Bp p d tail A]at q
   refine t i _ _ ⟨?_,?_,Or.inr ⟨a,f,tail.drop d.length,rfl,h2,?_,?_⟩⟩ (dv.ai u h2 _ _)
   ·simp only[aZ,O.iE,gA];omega
   ·simp only[O.iE,O.Nm];omega
   ·rw[<-y];exact q
   ·simp only[aZ,List.length_drop];omega
 ·refine t (λa=>if a=g.size then n else i a) _ _ ⟨?_,?_,Or.inr ⟨g.size,f,ni c (f -(s.len+x.len)),rfl,D,cF.push _ _ _,?_⟩⟩ ⟨D,λa j=>ae V,λa j=>?_,λa j _=>by rw[mH,ae V]⟩
  ·simp only[aZ,O.iE,gA,h.len,l]
  ·simpa using w
  ·simp only[aZ,rq,h.len,l]
   rw[Nat.sub_mul,<-gA]
   have:(s.len+x.len)*c.length<=f*c.length:=db _ w
   omega
  ·simp at j;rw[ae V];exact u a V
def gY.fV{d:Nat->Nat}{i m:I}{e f k:Nat}{s:O}{l:List Ce}(h:gG i m e f s l)(g:s≠.nil->d s.F=k):gY d m e f k s l:=by
 refine⟨h.len,?_,?_⟩
 ·rcases h.E with a|⟨b,c,tail,a,h2,h3,h4,h5⟩
  ·rw[a];exact ad _
  ·rw[a];exact h5
 ·rcases h.E with a|⟨b,c,tail,a,h2,h3,h4,h5⟩
  ·rw[a];exact Or.inl rfl
  ·refine Or.inr ⟨b,c,tail,a,?_,h3,h4⟩;have:=g (by rw[a];simp);rw[a]at this;exact this
def gY.mZ{e:Nat->Nat}{m:I}{k:Nat}{s:O}{l:List Int}(h:gY e m aE 1 k s (l.map Ce.i))(g:l.length<=9223372036854775807):ap m s l:=by
 have d:s.len=l.length:=by have:=h.len;simp at this;omega
 refine⟨d,h.le,V,λj x c=>⟨[.i x],rfl,λi f a=>?_⟩⟩;have b:i=0:=by have:=ax a;simp at this;omega
 subst b;simp at a;subst a;have:=h.iP j (.i x) (by simp[c]);simpa using this
def zU(l:List Int)(i:Nat)(v:Int):iX (l.map Ce.i) i [.i v]=(l.set i v).map Ce.i:=by simp[iX,tG]
def gY.gF{a:Nat->Nat}{m:I}{k:Nat}{s:O}{l:List Int}(h:gY a m aE 1 k s (l.map Ce.i))(b:0<=i)(c:i<l.length)(v:Int):gY a (ai m s.F (s.off+i.toNat*1) [.i v]) aE 1 k s ((Go.Proofs.YtgnjacfobdjeeaaGreat.gF l i v).map Ce.i):=by
 have:=h.set (o:=i.toNat) (new:=[.i v]) bJ;rw[zU]at this;rw[gX];exact this
def gY.Og{a:Nat->Nat}{m:I}{k:Nat}{s:O}{l:List Int}(h:gY a m aE 1 k s (l.map Ce.i))(b:0<=i)(c:i<l.length):fH m s.F (s.off+i.toNat*1) 1:=by
 rw[gX];exact h.wr bJ
def FB(m:I)(f:O)(l:List Int):Prop:=∃c tail,f=.mk f.F 0 f.len c/\cF m f.F aE (l.map Ce.i++tail)
def FN(N:Nat)(a:Nat->Nat)(m:I)(f:O)(l:List Int):Prop:=l≠[]->a f.F=0/\N<=f.F/\FB m f l
def xG(N:Nat)(b:Nat->Nat)(m:I)(a:List Ce)(c:bX):Prop:=∃f,a=[.i c.aS,.i c.jQ,.s f]/\ap m f c.aL/\FN N b m f c.aL
def WA(e:List (List Ce)):Prop:=∀(i j:Nat)(c d:List Ce)(a b:O),e[i]? =some c->e[j]? =some d->c[2]? =some (.s a)->d[2]? =some (.s b)->i≠j->a.len≠0->b.len≠0->a.F≠b.F
def WA.nil:WA []:=λi j c d a b h=>by simp at h
def dT(N:Nat)(b:Nat->Nat)(m:I)(c:O)(h:List bX):Prop:=∃a,gY b m nh 3 3 c a.flatten/\gD 3 (xG N b m) a h/\WA a
def RO(a:Nat->Nat)(m:I)(i:Nat)(b:List Ce)(f:aX):Prop:=
 ∃r o h,b=[.i f.eP,.i f.pc,.i f.dst,.s r,.s o,.s h]/\gY a m aE 1 (10+3*i) r (f.u.map Ce.i)/\gY a m aE 1 (11+3*i) o (f.aR.map Ce.i)/\gY a m aE 1 (12+3*i) h (f.bo.map Ce.i)
structure Y2(ro:Nat->Nat)(m:I)(fr:O)(fs:List aX)(css:List (List Ce)):Prop where
 pS:gY ro m dB 6 4 fr css.flatten
 len:css.length=fs.length
 size:∀cs∈css,cs.length=6
 dt:∀(i:Nat)(cs:List Ce)(f:aX),css[i]? =some cs->fs[i]? =some f->RO ro m i cs f
def oU(d:Nat->Nat)(m:I)(b:O)(c:List aX):Prop:=∃a,Y2 d m b c a
def gL{m b:I}{l:List Int}(h:ap m f l)(j:l≠[]->b[f.F]? =m[f.F]?):ap b f l:=by
 by_cases a:l=[]
 ·subst a;exact⟨h.len,h.cap,h.fS,D⟩
 ·exact⟨h.len,h.cap,h.fS,λo x n=>let⟨d,e,g⟩:=h.iP o x n;⟨d,e,λi c k=>by rw[aN (j a)];exact g i c k⟩⟩
def iB{m:I}{l:List Int}(h:ap m f l)(a:l≠[]):f.F<m.size:=by
 cases l with
 |nil=>exact absurd rfl a
 |cons b l=>exact nF (h.E (k:=0) (x:=b) rfl)
def xG.eV{N:Nat}{l n:Nat->Nat}{m k:I}(c:dv p l m n k)(i:¬p 0)(e:List Ce)(d:bX):xG N l m e d->xG N n k e d:=λ⟨f,s,b,j⟩=>
 ⟨f,s,gL b λa=>c.dW _ (iB b a) (by rw[(j a).1];exact i),λa=>by
  obtain⟨g,q,o,tail,r,h⟩:=j a;exact⟨by rw[c.iW _ (iB b a)];exact g,q,o,tail,r,h.congr (c.dW _ h.lt (by rw[g];exact i))⟩⟩
def dT.eV{N:Nat}{p:Nat->Prop}{d e:Nat->Nat}{m c:I}{b:O}{h:List bX}(n:dT N d m b h)(a:dv p d m e c)(g:¬p 0)(k:¬p 3):dT N e c b h:=by
 obtain⟨f,i,j,l⟩:=n;exact⟨f,i.eV a k,j.mono (xG.eV a g),l⟩
def RO.eV{p:Nat->Prop}{e g:Nat->Nat}{m d:I}(a:dv p e m g d){i:Nat}(b:∀k,10+3*i<=k->k<=12+3*i->¬p k){c:List Ce}{f:aX}:RO e m i c f->RO g d i c f:=λ⟨r,o,h,j,k,l,n⟩=>
 ⟨r,o,h,j,k.eV a (b _ V V),l.eV a (b _ V V),n.eV a (b _ V V)⟩
def oU.eV{p:Nat->Prop}{g j:Nat->Nat}{m e:I}{a:O}{b:List aX}(r:oU g m a b)(c:dv p g m j e)(d:∀k,(k=4\/10<=k)->¬p k):oU j e a b:=by
 obtain⟨n,h⟩:=r;exact⟨n,h.pS.eV c (d 4 V),h.len,h.size,λi l f o q=>(h.dt i l f o q).eV c λk s _=>d k V⟩
structure tJ(m0:I)(ro:Nat->Nat)(m:I)(mb e:Nat)(bx:List Ce)(aW hp fr:O)(lo:List Int)(lh:List bX)(lf:List aX):Prop where
 bY:J m0 m
 jK:∀b,b<m0.size->ro b=0
 new:∀b,m.size<=b->ro b=0
 box:cF m mb e bx
 PG:ro mb=1
 aW:gY ro m aE 1 2 aW (lo.map Ce.i)
 heap:dT m0.size ro m hp lh
 az:oU ro m fr lf
section
variable{j:I}{b g:Nat->Nat}{a c:I}{d e:Nat}{h:List Ce}{aW l k:O}{r:List Int}{q:List bX}{o:List aX}
def tJ.ext(L:tJ j b a d e h aW l k r q o)(g:J a c):tJ j b c d e h aW l k r q o/\To b a b c:=by
 have f:∀p,dv p b a b c:=λp=>dv.eN p g L.new;exact⟨⟨L.bY.trans g,L.jK,(f (λ_=>False)).new,L.box.ext g,L.PG,L.aW.eV (f (λ_=>False)) id,L.heap.eV (f (λ_=>False)) id id,L.az.eV (f (λ_=>False)) λ_ _=>id⟩,f _⟩
def tJ.je(L:tJ j b a d e h aW l k r q o)(i:Nat)(c:List Ce):tJ j b (ai a d i c) d e (iX h i c) aW l k r q o/\To b a b (ai a d i c):=by
 have f:dv (λg=>g=1) b a b (ai a d i c):=dv.ai L.new L.PG _ _;have n:To b a b (ai a d i c):=f.mono λg t=>V;obtain⟨p,s⟩:=n.bY L.bY L.jK;exact⟨⟨p,s,f.new,cF.ai (m:=a) L.box,L.PG,L.aW.eV f bh,L.heap.eV f bh bh,L.az.eV f λg t=>V⟩,n⟩
def tJ.mg(L:tJ j b a d e h aW l k r q o){i:Nat}(c:i+n<=h.length):fH a d i n:=L.box.fH c
def tJ.fU(L:tJ j b a d e h aW l k r q o)(f:dv (λi=>i=3\/i=5\/i=6) b a g c){m:O}{p:List bX}(u:dT j.size g c m p):tJ j g c d e h aW m k r p o/\To b a g c:=by
 have n:To b a g c:=f.mono λi v=>V;obtain⟨s,t⟩:=n.bY L.bY L.jK;exact⟨⟨s,t,f.new,L.box.congr (f.dW _ L.box.lt (by rw[L.PG];decide)),by rw[f.iW _ L.box.lt];exact L.PG,L.aW.eV f bh,u,L.az.eV f λi v=>V⟩,n⟩
def tJ.KI(L:tJ j b a d e h aW l k r q o)(f:dv (λi=>i=2) b a g c){p:O}{n:List Int}(u:gY g c aE 1 2 p (n.map Ce.i)):tJ j g c d e h p l k n q o/\To b a g c:=by
 have m:To b a g c:=f.mono λi v=>V;obtain⟨s,t⟩:=m.bY L.bY L.jK;exact⟨⟨s,t,f.new,L.box.congr (f.dW _ L.box.lt (by rw[L.PG];decide)),by rw[f.iW _ L.box.lt];exact L.PG,u,L.heap.eV f bh bh,L.az.eV f λi v=>V⟩,m⟩
def tJ.jz(L:tJ j b a d e h aW l k r q o)(f:dv (λi=>4<=i/\i≠9) b a g c){m:O}{p:List aX}(u:oU g c m p):tJ j g c d e h aW l m r q p/\To b a g c:=by
 have n:To b a g c:=f.mono λi v=>V;obtain⟨s,t⟩:=n.bY L.bY L.jK;exact⟨⟨s,t,f.new,L.box.congr (f.dW _ L.box.lt (by rw[L.PG];decide)),by rw[f.iW _ L.box.lt];exact L.PG,L.aW.eV f bh,L.heap.eV f bh bh,u⟩,n⟩
end
end
section
variable{α:Type}{k:Nat}
def up{α:Type}(f:Nat->α)(k:Nat)(x:α):Nat->α:=λj=>if j=k then x else f j
@[simp] theorem Gn (f:Nat->α) (k:Nat) (x:α):up f k x k=x:=ao rfl
def Pu(f:Nat->α)(k:Nat)(x:α){j:Nat}(h:j≠k):up f k x j=f j:=ae h
def Pk(a:Nat->O):List Ce:=[.s (a 0),.s (a 1),.s (a 2),.s (a 3),.s (a 4),.s (a 5),.s (a 6)]
def RC(a:Nat->O)(b:k<7):(Pk a)[k]? =some (.s (a k)):=by
 rcases k with _|_|_|_|_|_|_|k<;>first|rfl|omega
def MR(a:Nat->O)(b:k<7)(r:O):iX (Pk a) k [.s r]=Pk (up a k r):=by
 rcases k with _|_|_|_|_|_|_|k<;>first|rfl|omega
structure jb(ro:Nat->Nat)(m:I)(lb:Nat)(sl:Nat->O)(L:Nat->List Int):Prop where
 new:∀b,m.size<=b->ro b=0
 iW:ro lb=8
 box:cF m lb A2 (Pk sl)
 pS:∀k,k<7->gY ro m aE 1 (k+1) (sl k) ((L k).map Ce.i)
section
variable{d g:Nat->Nat}{a f:I}{c:Nat}{b:Nat->O}{L:Nat->List Int}
def jb.cp(h:jb d a c b L){k:Nat}(e:k<7):af a c k=some (O.v (b k)):=by
 rw[h.box.cp,RC b e];rfl
def jb.mZ(h:jb d a c b L){k:Nat}(e:k<7)(f:(L k).length<=1000000000000):ap a (b k) (L k):=(h.pS k e).mZ V
def jb.len(h:jb d a c b L){k:Nat}(e:k<7):(b k).len=(L k).length:=by have:=(h.pS k e).len;simp at this;omega
def jb.to(h:jb d a c b L):To d a d a:=dv.aB _ h.new
def jb.ext(h:jb d a c b L)(e:J a f):jb d f c b L:=
 ⟨λi l=>h.new i (cg e.size l),h.iW,h.box.congr (e.same c h.box.lt),λk g=>(h.pS k g).dW (λj=>e.same _ ((h.pS k g).F j).1) λ_=>rfl⟩
def jb.kv(p:jb d a c b L)(s:k<7)(C:(L k).length<=1000000000000)(j:Int){K:O->I->Prop}
 (B:∀g r f,To d a g (ai f c k [.s r])->jb g (ai f c k [.s r]) c (up b k r) (up L k (L k++[j]))->K r f):
 jE (a.push (.cells (bG [.i j]) aE)) aE [.i 0] 8 (b k) (.mk a.size 0 1 1) λr f=>fH f c k 1/\K r f:=by
 have z:=J.push a (.cells (bG [.i j]) aE)
 have h:=p.ext z
 have E:=p.len s
 refine gY.append (c:=[.i 0]) (d:=[.i j]) (h.pS k s) h.new D ?_ (by simp only[O.iE];omega) λg r f v n=>?_
 ·exact(cF.push a (e:=aE) (l:=[.i j])).iP
 have x:cF f c A2 (Pk b):=h.box.congr (n.dW c h.box.lt (by simp only[h.iW];omega))
 have o:g c=8:=by rw[n.iW c h.box.lt,h.iW]
 have A:To d a g f:=(dv.eN _ z p.new).trans (n.mono λt y=>V)
 have u:To d a g (ai f c k [.s r]):=A.trans (dv.ai n.new (by simp only[o];omega) _ _)
 refine⟨x.fH (by show k+1<=7;omega),B g r f u ⟨u.new,o,MR b s r▸cF.ai (m:=f) x,λt y=>?_⟩⟩
 by_cases i:t=k
 ·subst i
  rw[Gn,Gn,fD]
  refine v.dW (λq=>bd _ _ _ _ λi=>?_) λ_=>rfl
  have:=(v.F q).2
  rw[i,o]at this;omega
 ·rw[Pu _ _ _ i,Pu _ _ _ i]
  have w:=(h.pS t y).eV n V
  refine w.dW (λq=>bd _ _ _ _ λi=>?_) λ_=>rfl
  have:=(w.F q).2
  rw[i,o]at this;omega
def jb.put(h:jb d a c b L){i:Nat}(r:k<7)(n:i<(L k).length)(x:Int):
 fH a (b k).F ((b k).off+i*1) 1/\jb d (ai a (b k).F ((b k).off+i*1) [.i x]) c b (up L k ((L k).set i x))/\To d a d (ai a (b k).F ((b k).off+i*1) [.i x]):=by
 have g:=h.pS k r
 have s:(L k).map Ce.i≠[]:=λe=>by simp at e;rw[e]at n;simp at n
 have f:(b k).cap≠0:=λf=>s (g.uf f).1
 obtain⟨t,j⟩:=g.F f
 have l:To d a d (ai a (b k).F ((b k).off+i*1) [.i x]):=dv.ai h.new (by simp only[j];omega) _ _
 refine⟨g.wr bJ,⟨l.new,h.iW,h.box.congr (bd _ _ _ _ λe=>by have:=h.iW;rw[e,j]at this;omega),λp q=>?_⟩,l⟩
 by_cases e:p=k
 ·subst e
  rw[Gn]
  have:=g.set (o:=i*1) (new:=[.i x]) bJ
  rw[zU,gX]at this
  rw[gX];exact this
 ·rw[Pu _ _ _ e]
  have m:=h.pS p q
  refine m.dW (λf=>bd _ _ _ _ λe=>?_) λ_=>rfl
  have:=(m.F f).2
  rw[e,j]at this;omega
def jb.Wn(h:jb d a c b L)(j:k<7){r:O}{l:List Int}(o:gY d a aE 1 (k+1) r (l.map Ce.i)):
 fH a c k 1/\jb d (ai a c k [.s r]) c (up b k r) (up L k l)/\To d a d (ai a c k [.s r]):=by
 have f:To d a d (ai a c k [.s r]):=dv.ai h.new (by simp only[h.iW];omega) _ _
 refine⟨h.box.fH (by show k+1<=7;omega),⟨f.new,h.iW,MR b j r▸cF.ai (m:=a) h.box,λn g=>?_⟩,f⟩
 have K:∀{i s l},gY d a aE 1 (i+1) s l->i<7->gY d (ai a c k [.s r]) aE 1 (i+1) s l:=λ{i s l} g' hk'=>by
  refine g'.dW (λp=>bd _ _ _ _ λe=>?_) λ_=>rfl;have:=(g'.F p).2;rw[e,h.iW]at this;omega
 by_cases e:n=k
 ·subst e
  rw[Gn,Gn];exact K o j
 ·rw[Pu _ _ _ e,Pu _ _ _ e];exact K (h.pS n g) g
def jb.cut(h:jb d a c b L){k n:Nat}(e:k<7)(l:n<=(L k).length):
 n<=(b k).cap/\fH a c k 1/\jb d (ai a c k [.s ((b k).cut 0 n 1)]) c (up b k ((b k).cut 0 n 1)) (up L k ((L k).take n))/\To d a d (ai a c k [.s ((b k).cut 0 n 1)]):=by
 have g:=h.pS k e
 have i:=h.len e
 have j:=g.le
 have f:=g.cut (n:=n) V
 rw[gX,<-MY]at f
 exact⟨V,h.Wn e f⟩
end
structure pV(ds:List bB)(n b:Nat)(L:Nat->List Int):Prop where
 len:∀k,k<6->(L k).length=n
 Wm:∀(v:Nat)(p:Int),(L 2)[v]? =some p->p<v
 Of:∀(v:Nat)(c f:Int),(L 3)[v]? =some c->(L 4)[v]? =some f->0<=c->0<=f/\f+((cD ds c).length:Int)<=b
 cJ:(L 6).length<=1000000000000
abbrev se(a:List bB)(n:Nat)(L:Nat->List Int):Prop:=pV a n n L
def Kd(L:Nat->List Int)(t o p:Int):Nat->List Int:=up (up (up (up (up (up L 0 (L 0++[t])) 1 (L 1++[o])) 2 (L 2++[p])) 3 (L 3++[-1])) 4 (L 4++[-1])) 5 (L 5++[-1])
def An{j:Nat->Nat}{m:I}{b:Nat}{x:Nat->O}{L:Nat->List Int}(h:jb j m b x L)(a:∀k,k<6->(L k).length<=1000000000000)(t o p:Int):
 aO cw 262 [vp b 0,vi t,vi o,vi p] m λ_ i=>∃l y,To j m l i/\jb l i b y (Kd L t o p):=by
 apply xe (b,0)
 simp -zeta only[cC]
 refine⟨_,h.cp (k:=0) bh,?_⟩
 intro z
 refine h.kv (k:=0) bh (a 0 bh) t λN U F n c=>⟨_,c.cp (k:=1) bh,?_⟩
 intro A
 refine c.kv (k:=1) bh (a 1 bh) o λP V G q d=>⟨_,d.cp (k:=2) bh,?_⟩
 intro B
 refine d.kv (k:=2) bh (a 2 bh) p λQ W H r e=>⟨_,e.cp (k:=3) bh,?_⟩
 intro C
 refine e.kv (k:=3) bh (a 3 bh) (-1) λR X J s f=>⟨_,f.cp (k:=4) bh,?_⟩
 intro D
 refine f.kv (k:=4) bh (a 4 bh) (-1) λS Y K u g=>⟨_,g.cp (k:=5) bh,?_⟩
 intro E
 exact g.kv (k:=5) bh (a 5 bh) (-1) λT Z M v w=>⟨_,_,((((n.trans q).trans r).trans s).trans u).trans v,w⟩
end
section
variable{a:List Int}{e:Nat->Nat}{d:I}{P:(Nat->List Int)->Prop}{b:Nat}{v:Int}
def GI.aW{S:List Nat}{p o:I}{s:O}(h:GI S p o s a):gG p o aE 1 s (a.map Ce.i):=by
 have w:=h.len bh;obtain⟨u,e,q,b⟩:=h;have v:e.flatten.length=a.length:=by rw[cr b.size,b.len];omega
 have t:e.flatten=a.map Ce.i:=by
  apply iy;intro f;rcases be f a.length with d|d
  ·obtain⟨x,n⟩:=ag d;obtain⟨g,m⟩:=ag (l:=e) (k:=f) (by rw[b.len];exact d);have r:g=[.i x]:=b.dt f g x m n;have j:=fK (g:=1) b.size m (i:=0) (c:=.i x) (by rw[r];rfl);simp only[gX,ju]at j;rw[j];simp[n]
  ·rw[cY V,cY (by simpa using d)]
 rw[<-t];exact q
def Bw(f:Nat->Nat)(m:I)(c:Nat)(P:(Nat->List Int)->Prop)(v:Value)(d:I):Prop:=∃(b:Bool)(e:Nat->Nat),v=vb b/\To f m e d/\(b=true->∃g a,jb e d c g a/\P a)
def Bw.no{a:Nat->Nat}{m:I}{b:Nat}(h:To a m e d):Bw a m b P (vb false) d:=⟨false,e,rfl,h,D⟩
def Bw.Oh{b:Nat->Nat}{m:I}{a:Nat}{c:Nat->O}{L:Nat->List Int}(h:To b m e d)(f:jb e d a c L)(g:P L):Bw b m a P (vb true) d:=⟨true,e,rfl,h,λ_=>⟨c,L,f,g⟩⟩
def Bw.mono{c:Nat->Nat}{m:I}{a:Nat}{Q:(Nat->List Int)->Prop}{v:Value}(h:Bw c m a P v d)(n:∀L,P L->Q L):Bw c m a Q v d:=let⟨b,e,f,g,i⟩:=h;⟨b,e,f,g,λl=>let⟨o,L,j,k⟩:=i l;⟨o,L,j,n L k⟩⟩
def pV.aR{c:List bB}{n:Nat}{L:Nat->List Int}(h:pV c n b L)(i:a.length=n):pV c n b (up L 1 a):=
 ⟨λk g=>by by_cases e:k=1<;>simp_all [up,h.len k],λv p=>by simpa[up]using h.Wm v p,λv d f=>by simpa[up]using h.Of v d f,by simpa[up]using h.cJ⟩
def pV.ZY{c:List bB}{n:Nat}{L:Nat->List Int}(h:pV c n b L)(i:a.length=n):pV c n b (up L 5 a):=
 ⟨λk g=>by by_cases e:k=5<;>simp_all [up,h.len k],λv p=>by simpa[up]using h.Wm v p,λv d f=>by simpa[up]using h.Of v d f,by simpa[up]using h.cJ⟩
def Kb{c x:Int}{v:Nat}(h:(a++[c])[v]? =some x):a[v]? =some x\/v=a.length/\x=c:=by
 rcases be v a.length with b|b
 ·rw[aw b]at h;exact Or.inl h
 ·rw[aG b]at h;have:=ax h;simp at this;have e:v=a.length:=V;subst e;simp at h;exact Or.inr ⟨rfl,h.symm⟩
def pV.CY{c:List bB}{n a:Nat}{L:Nat->List Int}(h:pV c n b L)(j:b<=a):pV c n a L:=
 ⟨h.len,h.Wm,λv d f g i e=>by have:=h.Of v d f g i e;omega,h.cJ⟩
def pV.Nw{f:List bB}{n:Nat}{L:Nat->List Int}(h:pV f n b L)(u t:Int){p:Int}(r:p<n):pV f (n+1) b (Kd L u t p):=by
 have a:=h.len;refine⟨λk w=>?_,λv q s=>?_,λv e g j m i=>?_,by simpa[Kd,up]using h.cJ⟩
 ·rcases k with _|_|_|_|_|_|k<;>first|omega|(simp[Kd,up,a])
 ·have d:(L 2++[p])[v]? =some q:=by simpa[Kd,up]using s
  rcases Kb d with c|⟨rfl,rfl⟩
  ·exact h.Wm v q c
  ·rw[a 2 bh];exact r
 ·have l:(L 3++[-1])[v]? =some e:=by simpa[Kd,up]using j
  have o:(L 4++[-1])[v]? =some g:=by simpa[Kd,up]using m
  rcases Kb l with c|⟨rfl,rfl⟩
  ·rcases Kb o with d|⟨d,rfl⟩
   ·have:=h.Of v e g c d i;omega
   ·have:=ax c;rw[a 4 bh]at d;rw[a 3 bh]at this;omega
  ·omega
section
variable{g:Nat->Nat}{m:I}{f:Nat}{h:Nat->O}{L:Nat->List Int}{j:List bB}{c:Nat}
def jb.E(a:jb g m f h L){k:Nat}(c:k<7)(d:(L k).length<=1000000000000){i:Nat}{x:Int}(b:(L k)[i]? =some x):af m (h k).F ((h k).off+i*1)=some (vi x):=(a.mZ c d).E b
def uA(b:jb g m f h L)(r:se j c L)(y:c<=1000000000000)(d:0<=v)(t:v<c):aO cw 263 [vp f 0,vi v] m (Bw g m f λe=>∃a:List Int,a.length=c/\e=up L 1 a):=by
 apply xh (f,0);simp -zeta only[cC];have p:=r.len 1 bh;have u:=b.len (k:=1) bh;obtain⟨x,s⟩:=ag (l:=L 1) (k:=v.toNat) V;have n:=b.E bh V s;have e:=b.cp (k:=1) bh;obtain⟨w,q,o⟩:=b.put (k:=1) (i:=v.toNat) bh V (cW (x -1));exact⟨_,e,d,V,x,n,λ_=>.no b.to,λ_=>⟨_,e,_,e,d,V,x,n,d,V,w,.Oh o q ⟨_,by simp[p],rfl⟩⟩⟩
def sE(r:jb g m f h L)(i:se j c L)(u:c<=1000000000000)(e:0<=v)(p:v<c):oJ 223 [vp f 0,vi v] m:=by
 apply wa (f,0);refine⟨λv d=>0<=v/\v<(c:Int)/\J m d,λv _=>v.toNat,⟨e,p,J.aB _⟩,?_⟩;rintro v B ⟨e,p,a⟩;have H:=r.ext a;have z:=H.len (k:=1) bh;have A:=H.len (k:=2) bh;have D:=i.len 1 bh;have E:=i.len 2 bh;obtain⟨x,t⟩:=ag (l:=L 1) (k:=v.toNat) V;obtain⟨y,q⟩:=ag (l:=L 2) (k:=v.toNat) V;have w:=i.Wm _ _ q;refine⟨_,H.cp (k:=1) bh,e,V,x,H.E bh V t,λ_=>⟨_,H.cp (k:=6) bh,?_⟩,λ_=>rA a⟩;refine(dp (H.mZ (k:=6) bh i.cJ) v).then λb C _ n=>⟨_,rfl,λ_=>?_,λ_=>rA (a.trans n)⟩;have o:=H.ext n;refine⟨_,o.cp (k:=2) bh,e,V,y,o.E bh V q,λ_=>rA (a.trans n),λs=>?_⟩;simp only[bH]at s;exact⟨⟨V,V,a.trans n⟩,by show y.toNat<v.toNat;omega⟩
def KP(i:jb g m f h L)(w:se j c L)(S:c<=1000000000000){b:Nat}(I:b<=c):aO cw 336 [vp f 0,vi b] m (Bw g m f λe=>(∀o,o<6->(e o).length=b)/\(e 6).length<=1000000000000):=by
 apply yI (f,0);simp -zeta only[cC];refine⟨λv d=>(b:Int)<=v/\v<=c/\d=m,λv _=>((c:Int) -v).toNat,⟨V,V,rfl⟩,?_⟩;rintro v X ⟨Q,q,rfl⟩;have p:=λo(H:o<6)=>i.len (k:=o) V;have e:=w.len;have T:=p 0 bh;have U:=p 1 bh;have W:=p 5 bh;have n0:=e 0 bh;have n1:=e 1 bh;have n5:=e 5 bh;refine⟨_,i.cp (k:=0) bh,λx=>?_,λx=>?_⟩
 ·simp only[au]at x;obtain⟨t,r⟩:=ag (l:=L 1) (k:=v.toNat) V;obtain⟨y,s⟩:=ag (l:=L 5) (k:=v.toNat) V;refine⟨_,i.cp (k:=1) bh,V,V,t,i.E bh V r,λ_=>.no i.to,λ_=>⟨_,i.cp (k:=5) bh,V,V,y,i.E bh V s,λ_=>.no i.to,λ_=>?_⟩⟩;rw[aQ V V];exact⟨⟨V,V,rfl⟩,by show((c:Int) -(v+1)).toNat<((c:Int) -v).toNat;omega⟩
 ·have tk:∀{a:List Int},a.length=c->(a.take b).length=b:=λR=>bJ;have E:Int.toNat (0:Int)=0:=rfl;have F:Int.toNat (b:Int)=b:=V;rw[E,F];obtain⟨p1,J,q,y⟩:=i.cut (k:=0) (n:=b) bh (by rw[e 0 bh];exact I);refine⟨_,i.cp (k:=0) bh,V,V,V,J,?_⟩;intro Y;obtain⟨p2,K,r,z⟩:=q.cut (k:=1) (n:=b) bh (by simp[up,e];omega);refine⟨_,q.cp (k:=1) bh,V,V,V,K,?_⟩;intro Z;obtain⟨p3,M,s,A⟩:=r.cut (k:=2) (n:=b) bh (by simp[up,e];omega);refine⟨_,r.cp (k:=2) bh,V,V,V,M,?_⟩;intro m4;obtain⟨p4,N,t,B⟩:=s.cut (k:=3) (n:=b) bh (by simp[up,e];omega);refine⟨_,s.cp (k:=3) bh,V,V,V,N,?_⟩;intro m5;obtain⟨p5,O,u,C⟩:=t.cut (k:=4) (n:=b) bh (by simp[up,e];omega);refine⟨_,t.cp (k:=4) bh,V,V,V,O,?_⟩;intro m6;obtain⟨p6,P,G,D⟩:=u.cut (k:=5) (n:=b) bh (by simp[up,e];omega);refine⟨_,u.cp (k:=5) bh,V,V,V,P,?_⟩;intro m7;refine Bw.Oh (((((y.trans z).trans A).trans B).trans C).trans D) G ⟨λo H=>?_,?_⟩
  ·rcases o with _|_|_|_|_|_|o<;>first|omega|(simp[up,e];omega)
  ·simpa[up]using w.cJ
end
end
section
variable{a:Nat->Nat}{m d c:I}{X:List Nat}
def W7(m:I)(P:(Nat->List Int)->Prop)(v:Value)(c:I):Prop:=∃d,v=vp d 0/\J m c/\∃a e L,(∀b,b<m.size->a b=0)/\jb a c d e L/\P L
def LY{r:Nat}{sl:Nat->O}{L:Nat->List Int}(h:jb a m r sl L)(U:∀b,b<7->(L b).length<=1000000000000):
 aO cw 323 [vp r 0] m (W7 m λc=>∀b,b<7->c b=L b):=by
 apply uW (r,0)
 simp -zeta only[cC]
 refine⟨_,h.cp (k:=0) bh,_,h.cp (k:=1) bh,_,h.cp (k:=2) bh,_,h.cp (k:=3) bh,_,h.cp (k:=4) bh,_,h.cp (k:=5) bh,_,h.cp (k:=6) bh,?_⟩
 have C:∀{M:I}(b:Nat),b<7->J m M->kT 57 [O.v (sl b)] M [] (L b=·):=λb y x=>bP [] ((h.ext x).mZ y (U b y)) (U b y)
 have E:∀{M G:I},J m M->J M G->∀z,af G r z=af M r z:=λx x' z=>aN (x'.same r (x.lt h.box.lt)) z
 have g:=J.aB m
 refine(C 0 bh g).then λX _ m1 H e c=>⟨_,rfl,E g c _,E g c _,E g c _,E g c _,E g c _,E g c _,?_⟩
 subst e
 refine(C 1 bh c).then λY _ m2 K e i=>⟨_,rfl,E c i _,E c i _,E c i _,E c i _,E c i _,?_⟩
 subst e
 have t:=c.trans i
 refine(C 2 bh t).then λZ _ m3 N e j=>⟨_,rfl,E t j _,E t j _,E t j _,E t j _,?_⟩
 subst e
 have w:=t.trans j
 refine(C 3 bh w).then λs3 _ m4 P e l=>⟨_,rfl,E w l _,E w l _,E w l _,?_⟩
 subst e
 have B:=w.trans l
 refine(C 4 bh B).then λs4 _ m5 Q e n=>⟨_,rfl,E B n _,E B n _,?_⟩
 subst e
 have F:=B.trans n
 refine(C 5 bh F).then λs5 _ m6 R e o=>⟨_,rfl,E F o _,?_⟩
 subst e
 have u6:=F.trans o
 refine(C 6 bh u6).then λs6 _ u S e p=>⟨_,rfl,?_⟩
 subst e
 intro v
 have q:J u v:=J.push _ _
 have z0:=g.size;have z1:=c.size;have z2:=i.size;have z3:=j.size;have z4:=l.size;have z5:=n.size;have z6:=o.size;have z7:=p.size
 have s8:v.size=u.size+1:=by simp[v]
 have y0:=H.bg;have y1:=K.bg;have y2:=N.bg;have y3:=P.bg;have y4:=Q.bg;have y5:=R.bg;have y6:=S.bg
 let d:Nat->Nat:=λf=>if f<m.size then 0 else if f<m1.size then 1 else if f<m2.size then 2 else if f<m3.size then 3 else if f<m4.size then 4 else if f<m5.size then 5 else if f<m6.size then 6 else if f<u.size then 7 else if f=u.size then 8 else 0
 let ab:Nat->O:=λb=>if b=0 then X else if b=1 then Y else if b=2 then Z else if b=3 then s3 else if b=4 then s4 else if b=5 then s5 else s6
 have A:∀{m0 M:I}{D:O}{W:List Int}{b:Nat},GI [] m0 M D W->J M v->d D.F=b->gY d v aE 1 b D (W.map Ce.i):=λaa x hr=>gY.fV (aa.aW.ext x) λ_=>hr
 refine⟨u.size,rfl,u6.trans (p.trans q),d,ab,L,λf T=>ao T,⟨λf T=>?_,?_,cF.push _ _ _,λb y=>?_⟩,λ_ _=>rfl⟩
 ·simp only[d]
  repeat rw[ae V]
 ·simp only[d]
  repeat rw[ae V]
  simp
 ·rcases b with _|_|_|_|_|_|_|b
  ·exact A (D:=X) (b:=1) H (i.trans (j.trans (l.trans (n.trans (o.trans (p.trans q)))))) (by simp only[d];rw[ae V,ao V])
  ·exact A (D:=Y) (b:=2) K (j.trans (l.trans (n.trans (o.trans (p.trans q))))) (by simp only[d];rw[ae V,ae V,ao V])
  ·exact A (D:=Z) (b:=3) N (l.trans (n.trans (o.trans (p.trans q)))) (by simp only[d];rw[ae V,ae V,ae V,ao V])
  ·exact A (D:=s3) (b:=4) P (n.trans (o.trans (p.trans q))) (by simp only[d];rw[ae V,ae V,ae V,ae V,ao V])
  ·exact A (D:=s4) (b:=5) Q (o.trans (p.trans q)) (by simp only[d];rw[ae V,ae V,ae V,ae V,ae V,ao V])
  ·exact A (D:=s5) (b:=6) R (p.trans q) (by simp only[d];rw[ae V,ae V,ae V,ae V,ae V,ae V,ao V])
  ·exact A (D:=s6) (b:=7) S q (by simp only[d];rw[ae V,ae V,ae V,ae V,ae V,ae V,ae V,ao V])
  ·omega
structure Gy(d:I)(X:List Nat)(a:Nat->Nat)(m:I):Prop where
 ext:J d m
 fX:∀b,b<d.size->a b=0
 box:∀b∈X,b<m.size/\a b=0
def Gy.to{g:Nat->Nat}(h:Gy d X a m)(e:To a m g c):Gy d X g c:=by
 obtain⟨i,j⟩:=e.bY h.ext h.fX;exact⟨i,j,λb f=>⟨aP (h.box b f).1 e.size,by rw[e.iW b (h.box b f).1];exact(h.box b f).2⟩⟩
def Gy.dm{d m c:I}{X:List Nat}{a e:Nat->Nat}(h:Gy d X a m)(b:To a m e c):eE X m c:=b.dm h.box
def Gy.iV(h:Gy d X a m)(x:J m c):Gy d X a c:=⟨h.ext.trans x,h.fX,λb e=>⟨x.lt (h.box b e).1,(h.box b e).2⟩⟩
def HH{s Q ac:O}{q:gC}(u:ap m s q.params)(P:ap m Q q.cJ)(ai:q.params.length<=3)(ah:q.cJ.length<=3)(A:List bB):
 aO cw 241 [.agg #[O.v s,O.v Q,vi q.aV,O.v ac,vi q.body.aV]] m (W7 m (se A q.params.length)):=by
 apply Ax
 simp -zeta only[aD,aC]
 intro f
 have z:J m f:=J.push _ _
 have s1:f.size=m.size+1:=by simp[f]
 have Z:∀d∈[m.size],d<f.size:=by simp[f]
 clear_value f
 refine(bP [] (P.ext z) V).aI (J.aB f) Z λs6 _ g K r R _=>⟨_,rfl,?_⟩
 subst r
 intro v
 have S:J g v:=J.push _ _
 have s3:v.size=g.size+1:=by simp[v]
 have z2:=R.size
 have y6:=K.bg
 let i:Nat->Nat:=λd=>if d<f.size then 0 else if d<g.size then 7 else if d=g.size then 8 else 0
 let e:Nat->List Int:=λb=>if b<6 then[]else q.cJ
 let t:Nat->O:=λb=>if b<6 then .nil else s6
 have U:jb i v g.size t e:=by
  refine⟨λd p=>?_,?_,cF.push _ _ _,λb E=>?_⟩
  ·simp only[i];repeat rw[ae V]
  ·simp only[i];repeat rw[ae V]
   simp
  ·by_cases h:b<6
   ·simp only[t,e,ao h];exact⟨D,D,Or.inl rfl⟩
   ·have r:b=6:=V;subst r;simp only[t,e,ae h];refine gY.fV (K.aW.ext S) λ_=>?_;simp only[i];rw[ae V,ao V]
 have X:se A 0 e:=by
  refine⟨λb E=>by simp only[e,ao E];rfl,λh s u=>by simp[e]at u,λh o j B=>by simp[e]at B,by simp[e];omega⟩
 have fX:∀d,d<f.size->i d=0:=λd p=>ao p
 clear_value i e t
 have aj:=u.len
 refine eU (n:=q.params.length) V (λb M=>∃a F L,Gy f [m.size] a M/\jb a M g.size F L/\se A b L) ⟨i,t,e,⟨R.trans S,fX,λd p=>by simp at p;subst p;exact⟨V,fX _ V⟩⟩,U,X⟩ ?_
 rintro b M W μ E ⟨a,F,L,j,H,C⟩ ab
 refine dit (λY=>?_) λY=>?_
 ·obtain⟨y,hy⟩:=ag (l:=q.params) (k:=b) V
  have N:∀(w:Int){h:I},J M h->aO cw 262 [vp g.size 0,vi y,vi w,vi (-1:Int)] h λ_ c=>eE [m.size] h c/\W (cW ((b:Int)+1)) c/\μ (cW ((b:Int)+1)) c<μ b M:=λw h x=>
   (An (H.ext x) (λaa T=>by rw[C.len aa T];omega) y w (-1)).mono λ_ c⟨aa,ad,o,T⟩=>⟨(j.iV x).dm o,ab V _ ⟨aa,ad,_,(j.iV x).to o,T,(C.Nw y w V).CY V⟩⟩
  have G:∀{h:I},J M h->af h s.F (s.off+Int.toNat (b:Int)*1)=some (vi y):=λx=>(u.ext (z.trans (j.ext.trans x))).E hy
  refine⟨V,V,y,G (J.aB _),λ_=>?_,λ_=>⟨V,V,y,G (J.aB _),N 0 (J.aB _)⟩⟩
  refine(dp (P.ext (z.trans j.ext)) (b:Int)).then λd M2 _ x=>⟨λo B=>x.same o (j.box o B).1,_,rfl,λ_=>⟨V,V,y,G x,N 1 x⟩,λ_=>⟨V,V,y,G x,N 0 x⟩⟩
 ·have r:b=q.params.length:=V
  subst r
  exact⟨g.size,rfl,z.trans j.ext,a,F,L,λd p=>j.fX d V,H,C⟩
end
section
def jb.UJ{b:Nat->Nat}{m f:I}{q:Nat}{a:Nat->O}{L:Nat->List Int}(h:jb b m q a L)(fX:∀c,c<f.size->b c=0){k p:Nat}(l:k<7)(c:p<(L k).length):f.size<=(a k).F/\(a k).F<m.size/\b (a k).F=k+1:=by
 have g:=h.pS k l;have o:(L k).map Ce.i≠[]:=λe=>by simp at e;rw[e]at c;simp at c
 obtain⟨j,d⟩:=g.F λi=>o (g.uf i).1;refine⟨vg λn=>?_,j,d⟩;rw[fX _ n]at d;omega
def Gy.Sg{c m a g:I}{d:Nat->Nat}{l n:Obj}(j:J c m)(fX:∀b,b<c.size->d b=0)(k:∀b,m.size<=b->d b=0)(e:a=m.push l)(h:g=a.push n):Gy c [a.size,m.size] d g:=by
 obtain⟨o,i⟩:=dG e h;subst e;exact⟨j.trans o,fX,λb f=>⟨i b f,k b (by simp at f;omega)⟩⟩
section
variable{e:Nat->Nat}{m b:I}{g:Nat}{q:Nat->O}{L:Nat->List Int}{f:List bB}{o:List gC}{h:Nat}{d r a p:O}{x:cR}{c:Prop}{s:Nat}
def Pn(hx:J b m)(fX:∀v,v<b.size->e v=0)(P:jb e m g q L)(Q:se f h L)(hn:h<=1000000000000)(hN:eD b d r f o)(ha:ap b a x.args)(hf:TG f s c h x)(aq:14<=x.op):
 aO cw 264 [vp g 0,.agg #[O.v d,O.v r],oW x a p] m (Bw e m g (se f h)):=by
 apply xf (g,0)
 simp -zeta only[aD,aC,cC]
 intro R S
 have st:=Gy.Sg (a:=R) (g:=S) hx fX P.new rfl rfl
 have x2:J m S:=(dG (a:=R) (c:=S) rfl rfl).1
 have Y:To e m e S:=dv.eN _ x2 P.new
 clear_value S
 clear_value R
 have F:=P.ext x2
 have aF:=ha.len
 have aE:=hf.kK (Or.inl aq)
 obtain⟨B,hy⟩:=ag (l:=x.args) (k:=0) V
 obtain⟨H,y1⟩:=hf.args B (ar hy)
 have X:=Q.len
 have n1:=X 1 bh;have n3:=X 3 bh;have n4:=X 4 bh;have n5:=X 5 bh
 have l3:=F.len (k:=3) bh;have l5:=F.len (k:=5) bh
 obtain⟨C,af⟩:=ag (l:=L 3) (k:=B.toNat) V
 obtain⟨w,ai⟩:=ag (l:=L 4) (k:=B.toNat) V
 obtain⟨tk,aw⟩:=ag (l:=L 5) (k:=B.toNat) V
 refine⟨bh,V,B,(ha.ext st.ext).E hy,?_⟩
 refine⟨λM=>0<=C/\∃T ah t,t.length=h/\To e m T M/\Gy b [R.size,m.size] T M/\jb T M g ah (up L 1 t),?_,?_⟩
 ·refine⟨_,F.cp (k:=3) bh,H,V,C,F.E bh V af,λ_=>.no Y,λu=>?_⟩
  simp only[bH]at u
  refine⟨λ_=>⟨_,F.cp (k:=5) bh,H,V,tk,F.E bh V aw,λ_=>.no Y,λ_=>?_⟩,λ_=>?_⟩<;>
  ·refine(uA F Q hn H y1).mono λaA m3⟨v,T,ad,K,z⟩=>⟨st.dm K,v,ad,λE=>.no (Y.trans K),λE=>?_⟩
   obtain⟨ah,y,h4,t,hl,rfl⟩:=z (by simpa using E)
   exact⟨V,T,ah,t,hl,Y.trans K,st.to K,h4⟩
 ·rintro m3 ⟨an,ab,G,t,hl,K,U,z⟩
  have e3:(up L 1 t) 3=L 3:=rfl
  have e4:(up L 1 t) 4=L 4:=rfl
  have e5:(up L 1 t) 5=L 5:=rfl
  have e1:(up L 1 t) 1=t:=rfl
  have ax:=z.len (k:=3) bh
  rw[e3]at ax
  obtain⟨f0,f1⟩:=Q.Of B.toNat C w af ai an
  refine⟨_,z.cp (k:=3) bh,H,V,C,z.E bh (by rw[e3];omega) af,?_⟩
  have A1:=z.UJ (f:=b) U.fX (k:=1) (p:=B.toNat) bh (by rw[e1];omega)
  have A5:=z.UJ (f:=b) U.fX (k:=5) (p:=B.toNat) bh (by rw[e5];omega)
  have hS:∀v∈[(G 1).F,(G 5).F],v<m3.size:=λv E=>by simp at E;omega
  have am:∀{M:I},J b M->Le b (bO [(G 1).F,(G 5).F] M):=λxx=>(zJ b).trans (xx.bO λv E=>Or.inr (by simp at E;omega))
  refine(dH hS (hN.aT.le (am U.ext)) hN.types C).mono λaA m4⟨al,fl,ad,hs,ao,x4⟩=>⟨λv E=>x4.same v (U.box v E).1,al,ad,?_⟩
  subst ao
  have h4:=z.ext x4
  have az:=U.iV x4
  have c4:To e m ab m4:=K.trans (dv.eN _ x4 z.new)
  have aH:=hs.len
  have f3:=EX hN.types C
  refine eU (n:=(cD f C).length) V (λA M=>∃t,t.length=h/\To e m ab M/\Gy b [R.size,m.size] ab M/\jb ab M g G (up L 1 t)/\Fz [(G 1).F,(G 5).F] m4 M) ⟨t,hl,c4,az,h4,Fz.aB _ _⟩ ?_
  rintro A M aB μ aG ⟨y,aa,Z,ac,u,ae⟩ ak
  have av:=hs.le (ae.da λ_ P=>P)
  refine⟨λaj=>?_,λaj=>?_⟩
  ·simp only[au]at aj
   obtain⟨ay,hz⟩:=ag (l:=cD f C) (k:=A) V
   refine⟨V,V,ay,(av.le (bD _ _)).E hz,λ_=>?_,λ_=>ak V _ ⟨y,aa,Z,ac,u,ae⟩⟩
   have E3:(up L 1 y) 4=L 4:=rfl
   have E1:(up L 1 y) 1=y:=rfl
   have G1:=u.cp (k:=1) bh
   have G4:=u.cp (k:=4) bh
   have l4:=u.len (k:=4) bh
   have l1:=u.len (k:=1) bh
   rw[E3]at l4;rw[E1]at l1
   have V4:=u.E (k:=4) bh (by rw[E3];omega) ai
   have ew:cW (w+(A:Int))=w+A:=aQ V V
   obtain⟨W,hw⟩:=ag (l:=y) (k:=(w+(A:Int)).toNat) V
   obtain⟨wr,h6,N⟩:=u.put (k:=1) (i:=(w+(A:Int)).toNat) bh (by rw[E1];omega) (cW (W+1))
   refine⟨_,G1,_,G4,H,V,w,V4,_,G1,_,G4,H,V,w,V4,?_⟩
   rw[ew]
   refine⟨V,V,W,u.E (k:=1) bh (by rw[E1];omega) hw,V,V,wr,ac.dm N,ak V _ ⟨y.set (w+(A:Int)).toNat (cW (W+1)),by simp[aa],Z.trans N,ac.to N,?_,ae.ai (Or.inl D) _ _⟩⟩
   have:up (up L 1 y) 1 ((up L 1 y) 1|>.set (w+(A:Int)).toNat (cW (W+1)))=up L 1 (y.set (w+(A:Int)).toNat (cW (W+1))):=by funext j;simp only[up];split<;>rfl
   rw[this]at h6;exact h6
  ·refine⟨λ_=>?_,λ_=>.Oh Z u (Q.aR aa)⟩
   have W:(up L 1 y) 5=L 5:=rfl
   have ay:=u.len (k:=5) bh
   rw[W]at ay
   obtain⟨wr,h6,N⟩:=u.put (k:=5) (i:=B.toNat) bh (by rw[W];omega) (al.len:Int)
   exact⟨_,u.cp (k:=5) bh,H,V,wr,ac.dm N,.Oh (Z.trans N) h6 ((Q.aR aa).ZY (by rw[W];simp[n5]))⟩
def Jb(hx:J b m)(fX:∀j,j<b.size->e j=0)(R:jb e m g q L)(hi:se f h L)(hn:h<=1000000000000)(hN:eD b d r f o)(C:ap b a x.args)(E:TG f o.length c h x):
 aO cw 266 [vp g 0,.agg #[O.v d,O.v r],oW x a p] m (Bw e m g (se f h)):=by
 apply tr (g,0)
 simp -zeta only[aD,aC,cC]
 intro N H
 have st:=Gy.Sg (a:=N) (g:=H) hx fX R.new rfl rfl
 have x2:J m H:=(dG (a:=N) (c:=H) rfl rfl).1
 have c2:To e m e H:=dv.eN _ x2 R.new
 clear_value H
 clear_value N
 have h2:=R.ext x2
 have ab:=C.len
 have aa:∀{M:I},J b M->At M d r a p f o x:=λxx=>⟨hN.le xx.le,C.ext xx,E.call⟩
 refine eU (n:=x.args.length) (ab▸C.fS) (λ_ M=>∃u U P,se f h P/\To e m u M/\Gy b [N.size,m.size] u M/\jb u M g U P) ⟨e,q,L,hi,c2,st,h2⟩ ?_
 rintro ac M ai μ aj ⟨T,ah,Z,w,Q,D,t⟩ ae
 refine⟨λF=>?_,λF=>?_⟩
 ·simp only[au]at F
  obtain⟨K,G⟩:=ag (l:=x.args) (k:=ac) V
  obtain⟨X,Y⟩:=E.args K (ar G)
  have N0:=w.len 0 bh
  refine⟨_,t.cp (k:=0) bh,?_⟩
  refine(mD (aa D.ext) (t.mZ (k:=0) bh V) (by rw[N0];exact E.args) (j:=ac) V).mono λW m4⟨j,A,s⟩=>⟨λj v=>s.same j (D.box j v).1,j,A,λ_=>⟨V,V,K,(C.ext (D.ext.trans s)).E G,?_⟩,λ_=>?_⟩
  ·have y:=D.iV s
   have z:To e m T m4:=Q.trans (dv.eN _ s t.new)
   refine(uA (t.ext s) w hn X Y).mono λW m5⟨j,u,A,B,h5⟩=>⟨y.dm B,j,A,λv=>.no (z.trans B),λv=>?_⟩
   obtain⟨U,P,S,ad,hl,rfl⟩:=h5 (by simpa using v)
   exact ae V _ ⟨u,U,_,w.aR hl,z.trans B,y.to B,S⟩
  ·exact ae V _ ⟨T,ah,Z,w,Q.trans (dv.eN _ s t.new),D.iV s,t.ext s⟩
 ·refine eU (n:=x.args.length) (ab▸C.fS) (λ_ u=>J M u) (J.aB _) ?_
  rintro U M4 I4 μ4 ak s ad
  have y:=D.iV s
  have z:To e m T M4:=Q.trans (dv.eN _ s t.new)
  have u:=t.ext s
  refine⟨λF=>?_,λF=>⟨λaf=>?_,λ_=>.Oh z u w⟩⟩
  ·simp only[au]at F
   obtain⟨K,G⟩:=ag (l:=x.args) (k:=U) V
   obtain⟨X,Y⟩:=E.args K (ar G)
   refine(nO (aa y.ext) (U:Int)).mono λW m5⟨j,A,B⟩=>⟨λj v=>B.same j (y.box j v).1,j,A,λ_=>⟨V,V,K,(C.ext (y.ext.trans B)).E G,?_⟩,λ_=>ad V _ (s.trans B)⟩
   refine(sE (u.ext B) w hn X Y).mono λW m6⟨j,A,P⟩=>⟨λj v=>P.same j (B.lt (y.box j v).1),j,A,λ_=>.no (z.trans (dv.eN _ (B.trans P) u.new)),λ_=>ad V _ ((s.trans B).trans P)⟩
  ·simp only[au]at af
   have P:=E.bW
   have v:=w.len 5 bh
   have W:=u.len (k:=5) bh
   have A:cW (x.bW -1)=x.bW -1:=aQ V V
   obtain⟨G,B⟩:=ag (l:=Z 5) (k:=(x.bW -1).toNat) V
   obtain⟨K,S,j⟩:=u.put (k:=5) (i:=(x.bW -1).toNat) bh V (-1)
   rw[A]
   exact⟨_,u.cp (k:=5) bh,V,V,G,u.E (k:=5) bh V B,λ_=>.no z,λ_=>⟨_,u.cp (k:=5) bh,V,V,K,y.dm j,.Oh (z.trans j) S (w.ZY (by simp[v]))⟩⟩
end
end
end Go.Proofs.YtgnjacfobdjeeaaGreat
