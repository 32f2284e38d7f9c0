/- Part of a proof, joined by a program. -/
import Derived.Test.YtgnjacfobdjeeaaGreatP09
import Derived.Test.YtgnjacfobdjeeaaGreatP10
set_option linter.unusedVariables false
set_option linter.unusedSimpArgs false
set_option linter.defProp false
set_option linter.constructorNameAsVariable false
set_option maxHeartbeats 8000000
set_option maxRecDepth 100000
namespace Go.Proofs.YtgnjacfobdjeeaaGreat
open Go.Vc
section
variable{b:J}{d:O}{c:cq}
def CT{X aj az R:O}(hd:cr b d c.aT)(ht:dI c.aT)(hf:oO b X c.cB)(aM:c.cB.length<=4)(h3:∀q∈c.cB,q.params.length<=3)
 {q:dk}(hc:eS b R q.cJ)(hr:q.ao<=2000){s:Nat}{e:Instr}{K Q:O}(Y:aq b K e.args)(hj:aq b Q e.dX):
 dW cp 50 [.agg #[O.v d,O.v X],.agg #[O.v aj,O.v az,vi q.aV,vi q.ao,O.v R],vi s,.agg #[vi e.op,vi e.dst,vi e.bL,vi e.bH,O.v K,O.v Q]] b (ig c q s e):=by
 apply oV
 simp -zeta only[aC,aB]
 intro C B F x
 have s1:C.size=b.size+1:=by simp[C]
 have s2:B.size=b.size+2:=by simp[B,s1]
 have s3:F.size=b.size+3:=by simp[F,s2]
 have s4:x.size=b.size+4:=by simp[x,s3]
 have A:N b x:=((((N.az b).aN _).aN _).aN _).aN _
 have ao:cx x B.size aI [.i s]:=(cx.push B _ _).ext (N.push _ _)
 have ap:cx x C.size iO [.s aj,.s az,.i q.aV,.i q.ao,.s R]:=(cx.push C _ _).ext ((N.push B _).aN _)
 have v:=Hq (w:=c) (p:=q) (a:=s) (i:=e) hr aM h3
 have aF:=hc.len
 have aT:=Y.len
 have aU:=hj.len
 clear_value x
 clear_value F
 clear_value B
 clear_value C
 refine⟨λh=>cX (λf=>?_) A,λc0=>⟨λh=>cX (λf=>?_) A,λc1=>⟨λh=>cX (λf=>?_) A,λc2=>⟨λh=>cX (λf=>?_) A,λc3=>⟨λh=>cX (λf=>?_) A,λc4=>⟨λh=>cX (λf=>?_) A,λc5=>?_⟩⟩⟩⟩⟩⟩
 any_goals (have:=(v.1 f).1;simp at h;omega)
 simp at c0 c1 c2 c3 c4 c5
 have f1:0<=e.op/\e.op<=24/\e.op≠7/\e.op≠8/\e.op≠12/\e.op≠13:=V
 refine⟨λy=>N x y/\(0<=e.dst/\e.dst<q.ao/\(e.dst=0\/lx e.op)/\0<=e.bH/\e.bH<=q.ao/\(e.bH=0\/e.op=6)),?_,?_⟩
 ·refine⟨λh=>cX (λf=>?_) A,λH=>⟨λh=>cX (λf=>?_) A,λJ=>?_⟩⟩
  ·have:=(v.1 f).2.1;simp at h;omega
  ·have:=(v.1 f).2.1;simp at h;omega
  simp at H J
  have tail:∀y,N x y->(e.dst=0\/lx e.op)->((decide (e.bH<(0:Int)))=true->∃g:Bool,Value.bool false=.bool g/\(g=true<->ig c q s e)/\N b y)/\((decide (e.bH<(0:Int)))=false->
   ((decide (e.bH>q.ao))=true->∃g:Bool,Value.bool false=.bool g/\(g=true<->ig c q s e)/\N b y)/\((decide (e.bH>q.ao))=false->
   ((e.bH !=(0:Int))=true->((e.op !=(6:Int))=true->∃g:Bool,Value.bool false=.bool g/\(g=true<->ig c q s e)/\N b y)/\((e.op !=(6:Int))=false->N x y/\(0<=e.dst/\e.dst<q.ao/\(e.dst=0\/lx e.op)/\0<=e.bH/\e.bH<=q.ao/\(e.bH=0\/e.op=6))))/\
   ((e.bH !=(0:Int))=false->N x y/\(0<=e.dst/\e.dst<q.ao/\(e.dst=0\/lx e.op)/\0<=e.bH/\e.bH<=q.ao/\(e.bH=0\/e.op=6))))):=by
   intro y I P
   have L:=A.trans I
   refine⟨λh=>cX (λf=>?_) L,λD=>⟨λh=>cX (λf=>?_) L,λG=>⟨λu=>⟨λh=>cX (λf=>?_) L,λM=>⟨I,?_⟩⟩,λu=>⟨I,?_⟩⟩⟩⟩
   ·have:=(v.1 f).2.1;simp at h;omega
   ·have:=(v.1 f).2.1;simp at h;omega
   ·have:=(v.1 f).2.1.2.2.2.2.2;simp at h u;omega
   ·simp at D G M;exact⟨H,J,P,D,G,Or.inr M⟩
   ·simp at D G u;exact⟨H,J,P,D,G,Or.inl u⟩
  refine⟨λh=>?_,λh=>tail x (N.az _) (Or.inl (by simpa using h))⟩
  refine(qD e.op x ⟨V,V⟩).aK (N.az _) bR λw y E I _=>⟨w,rfl,λz=>cX (λf=>?_) (A.trans I),λz=>tail y I (Or.inr (yb E z))⟩
  have:=(v.1 f).2.1.2.2.1
  simp at h
  rcases this with t|t
  ·exact h t
  ·exact nb E z t
 ·rintro y ⟨I,f2⟩
  refine fB (n:=e.args.length) (by have:=Y.gV;omega) (λah S=>N x S/\∀H∈e.args.take ah,0<=H/\H<q.ao) ⟨I,aJ⟩ ?_
  rintro ah J aS μ hn ⟨z,al⟩ aQ
  have ab:=A.trans z
  refine dit (λh=>?_) λh=>?_
  ·obtain⟨H,u⟩:=ag (l:=e.args) (k:=ah) V
   refine⟨V,V,H,by simpa using(Y.ext ab).D u,λt=>cX (λf=>?_) ab,λt=>⟨λD=>cX (λf=>?_) ab,λD=>aQ V _ ⟨z,cF u al ?_⟩⟩⟩
   ·have:=(v.1 f).2.2.1 H (av u);simp at t;omega
   ·have:=(v.1 f).2.2.1 H (av u);simp at D;omega
   ·simp at t D;omega
  ·have aA:∀H∈e.args,0<=H/\H<q.ao:=dx V al
   intro m7 G
   have s8:G.size=J.size+1:=by simp[G,m7,ay]
   have D:N J G:=((N.az J).aN _).ah (ad _) _ _
   have ae:=ab.trans D
   have an:af G J.size 0=some (.func (.func 87) #[] #[vp B.size 0,vp C.size 0]):=
    (cx.ah (m:=m7) (o:=0) (r:=[.fn (.func 87) #[] #[vp B.size 0,vp C.size 0]]) (cx.push J _ _)).bV 0
   have aV:=z.size
   clear_value G
   have aO:∀P,N G P->∀t,dW cp 87 [vi t,vp B.size 0,vp C.size 0] P ((s:Int)+1<=t/\t<=(q.cJ.length:Int) -1):=λP u t=>by
    rw[<-aF];exact xk (ao.ext (z.trans (D.trans u))|>.bV 0) (ap.ext (z.trans (D.trans u))|>.bV 4)
   have mo:(e.dX.length=0\/e.op=21)->aL cp 69 [O.v Q,.func (.func 88) #[] #[vp J.size 0]] G λaR W=>
    dR [F.size,b.size] G W/\∃ai:Bool,aR=vb ai/\(ai=true->∃g:Bool,Value.bool false=.bool g/\(g=true<->ig c q s e)/\N b W)/\
    (ai=false->∃L:Fn×Array Value×Array Value,af W J.size 0=some (.func L.1 L.2.1 L.2.2)/\
    aL cp 89 [.agg #[O.v d,O.v X],.agg #[vi e.op,vi e.dst,vi e.bL,vi e.bH,O.v K,O.v Q],.func L.1 L.2.1 L.2.2] W λac M=>
    dR [F.size,b.size] W M/\∃U:Bool,ac=vb U/\((!U)=true->∃g:Bool,Value.bool false=.bool g/\(g=true<->ig c q s e)/\N b M)/\
    ((!U)=false->aL cp 90 [.agg #[O.v d,O.v X],.agg #[vi e.op,vi e.dst,vi e.bL,vi e.bH,O.v K,O.v Q]] M λak T=>
    dR [F.size,b.size] M T/\∃Z:Int,∃aa:Int,ak=.tuple #[vi Z,vi aa]/\
    ((decide ((K.len:Int)>=Z))=true->∃g:Bool,Value.bool (decide ((K.len:Int)<=aa))=.bool g/\(g=true<->ig c q s e)/\N b T)/\
    ((decide ((K.len:Int)>=Z))=false->∃g:Bool,Value.bool false=.bool g/\(g=true<->ig c q s e)/\N b T))):=by
    intro aG
    have hl:∀w∈[F.size,b.size],w<G.size:=bR
    refine(jK (hj.ext ae) 88 #[] #[vp J.size 0] bh (λt=>¬((s:Int)+1<=t/\t<=(R.len:Int) -1)) (λt _ P u=>?_)).aK (N.az _) hl ?_
    ·exact HV (ao.ext (z.trans (D.trans u))|>.bV 0) (ap.ext (z.trans (D.trans u))|>.bV 4) (u.af an)
    intro w P E u _
    have M:=ae.trans u
    refine⟨w,rfl,λaE=>cX (λf=>?_) M,λaD=>?_⟩
    ·obtain⟨t,ac,g⟩:=E.1 aE
     have:=(v.1 f).2.2.2.2.1 t ac
     exact g V
    have aH:∀t∈e.dX,(s:Int)+1<=t/\t<=(q.cJ.length:Int) -1:=λt ac=>by
     rcases dt ((s:Int)+1<=t/\t<=(R.len:Int) -1)with h|h
     ·omega
     ·exact absurd (E.2 ⟨t,ac,h⟩) (by simp[aD])
    refine⟨(.func 87,#[],#[vp B.size 0,vp C.size 0]),u.af an,?_⟩
    have ar:∀w∈[F.size,b.size],w<P.size:=λw E=>u.lt (hl w E)
    refine(FV (cr.ext M hd) ht (oO.ext M hf) (Y.ext M) (hj.ext M) 87 #[] #[vp B.size 0,vp C.size 0] bh (λt=>(s:Int)+1<=t/\t<=(q.cJ.length:Int) -1) (λS g=>by simpa using aO S (u.trans g) e.bL)).aK (N.az _) ar ?_
    intro b2 aP am L _
    have aa:=M.trans L
    refine⟨b2,rfl,λh=>cX (λf=>nb am h (v.1 f).2.2.2.2.2.1) aa,λh=>?_⟩
    have aw:=yb am h
    have aK:∀w∈[F.size,b.size],w<aP.size:=λw E=>L.lt (ar w E)
    refine(Jy (cr.ext aa hd) ht (oO.ext aa hf) (a:=K) (j:=Q) aw).aK (N.az _) aK ?_
    rintro _ aW ⟨lo,Z,rfl,S,ak⟩
    have ax:=aa.trans ak
    have aN:∀U T,gD c e U T->U=lo/\T=Z:=λU T g=>by
     unfold gD at S g;repeat' (split at S);all_goals simp_all
     all_goals (obtain⟨q1,e1,e2,e3⟩:=S;simp_all)
    refine⟨ak,lo,Z,rfl,λh=>fF ?_ ax,λh=>cX (λf=>?_) ax⟩
    ·rw[v]
     simp only[au]at h⊢
     refine⟨λg=>⟨f1,f2,aA,aG,aH,aw,λU T h2=>?_⟩,λg=>?_⟩
     ·obtain⟨rfl,rfl⟩:=aN U T h2;omega
     ·have:=g.2.2.2.2.2.2 lo Z S;omega
    ·have:=(v.1 f).2.2.2.2.2.2 lo Z S
     simp at h;omega
   refine⟨λu=>⟨λL=>cX (λf=>?_) ae,λL=>mo (Or.inr (by simpa using L))⟩,λu=>mo (Or.inl (by simp at u;omega))⟩
   have:=(v.1 f).2.2.2.1
   simp at u L;omega
def sD{ai:O}(v:eV b d ai c):dW cp 28 [.agg #[O.v d,O.v ai]] b (gP c):=by
 apply xI;simp -zeta only[aC,aB];intro F;have ac:N b F:=(N.az b).aN _;have s1:F.size=b.size+1:=by simp[F]
 clear_value F;refine(Et (v.ext ac)).aK (N.az _) bR ?_;rintro _ L ⟨d',ak,aj,rfl,Y,ao,H⟩;refine⟨H,d',ak,aj,rfl,?_⟩;intro m3 t;have s4:t.size=L.size+1:=by simp[t,m3,ay]
 have W:N L t:=((N.az L).aN _).ah (ad _) _ _;have af:N b t:=(ac.trans H).trans W;have:=H.size;have aL:=v.cB.len;have aM:=v.cB.gV;clear_value t;refine⟨λhn=>cX (λf=>nb Y hn ⟨f.lY,λq x=>(f.dz q x).cG⟩) af,λhy=>?_⟩;obtain⟨D,an⟩:=yb Y hy;obtain⟨rfl,hf⟩:=ao (by simpa using hy);refine fB (n:=c.cB.length) V (λQ z=>N t z/\∀q∈c.cB.take Q,FE c q) ⟨N.az _,aJ⟩ ?_;rintro Q M az μ hn ⟨A,X⟩ ax
 have J:=af.trans A;refine dit (λaI=>?_) λaG=>?_
 ·obtain⟨q,x⟩:=ag (l:=c.cB) (k:=Q) V;obtain⟨R,ah,S,ha,hl,w,g0,g1,g2,g3,g4⟩:=(v.ext J).cB.D x;refine⟨V,V,R,by simpa using g0,ah,by simpa using g1,_,by simpa using g2,_,by simpa using g3,S,by simpa using g4,?_⟩;intro m6 u;have s7:u.size=M.size+1:=by simp[u,m6,ay]
  have r:N M u:=((N.az M).aN _).ah (ad _) _ _;have s:=J.trans r;have aA:=ha.len;have aE:=w.len;have aF:=w.gV;have o:=av x;clear_value u;refine⟨λe=>cX (λf=>?_) s,λT=>⟨λe=>cX (λf=>?_) s,λe2=>⟨λe=>cX (λf=>?_) s,λe3=>⟨λe=>cX (λf=>?_) s,λe4=>?_⟩⟩⟩⟩
  ·have:=(f.dz q o).ao;simp at e;split at e<;>omega
  ·have:=(f.dz q o).ao;simp at e;omega
  ·have:=(f.dz q o).len;simp at e;omega
  ·have:=(f.dz q o).len;simp at e;omega
  have ab:(q.params.length:Int)<=q.ao/\1<=q.ao/\q.ao<=2000:=by
   simp at T e2;split at T<;>omega
  have am:1<=q.cJ.length/\q.cJ.length<=2000:=by simp at e3 e4;omega
  obtain⟨E,I⟩:=ag (l:=q.cJ) (k:=q.cJ.length -1) V;obtain⟨a0,j0,_,_,K,_⟩:=(eS.ext r w).D I;refine⟨λz=>N u z/\(E.op=23\/E.op=24),?_,?_⟩
  ·have e:cR ((S.len:Int) -1)=((q.cJ.length -1:Nat):Int):=by rw[aP V V];omega
   rw[e];refine⟨V,V,E.op,by simpa using K,λg=>⟨λh=>cX (λf=>?_) s,λh=>⟨N.az _,Or.inr (by simpa using h)⟩⟩,λg=>⟨N.az _,Or.inl (by simpa using g)⟩⟩;have:=(f.dz q o).Pu E I;simp at g h;omega
  ·rintro m8 ⟨h8,al⟩;refine fB (n:=q.cJ.length) V (λy z=>N u z/\∀(j:Nat)(h:Instr),j<y->q.cJ[j]? =some h->ig c q j h) ⟨h8,λj h C=>V⟩ ?_;rintro y P I2 μ2 hk ⟨m,aa⟩ aw;have ap:=s.trans m;refine dit (λaK=>?_) λaH=>?_
   ·obtain⟨h,g⟩:=ag (l:=q.cJ) (k:=y) V;obtain⟨xa,xj,aq,ar,K,k1,k2,k3,k4,k5⟩:=(eS.ext (r.trans m) w).D g;refine⟨V,V,_,by simpa using K,_,by simpa using k1,_,by simpa using k2,_,by simpa using k3,xa,by simpa using k4,xj,by simpa using k5,?_⟩;intro au G;have aO:G.size=P.size+1:=by simp[G,au,ay]
    have p:N P G:=((N.az P).aN _).ah (ad _) _ _;have ae:=ap.trans p;have q1:=m.size;have q2:=A.size;clear_value G;refine(CT (aj:=R) (az:=ah) (cr.ext ae v.aT) D.types (oO.ext (W.trans (A.trans (r.trans (m.trans p)))) hf) D.len.2 (λU B=>(D.dz U B).1) (eS.ext (r.trans (m.trans p)) w) ab.2.2 (s:=y) (e:=h) (aq.ext p) (ar.ext p)).aK (N.az _) bR ?_;intro b' aN Z U _;refine⟨b',rfl,λe=>cX (λf=>nb Z e ((f.dz q o).dz y h g)) (ae.trans U),λe=>aw V _ ⟨m.trans (p.trans U),λj i' C B=>?_⟩⟩;rcases Nat.lt_succ_iff_lt_or_eq.1 C with C|rfl
    ·exact aa j i' C B
    ·rw[g]at B;simp at B;subst B;exact yb Z e
   ·refine ax V _ ⟨A.trans (r.trans m),cF x X ⟨an q o,ab,am,λj h g=>aa j h (by have:=aD g;omega) g,λh g=>?_⟩⟩
    rw[I]at g;simp at g;subst g;exact al
 ·exact jM ⟨D,dx V X⟩ J
end
section
variable{m:J}{s:O}{k:Nat}{γ:Type}
def Nv(m:J)(a:List Ce)(c:bQ):Prop:=∃f,a=[.i c.aS,.i c.kd,.s f]/\aq m f c.aR
def IU(m:J)(a:List Ce)(f:aW):Prop:=∃r o h,a=[.i f.eu,.i f.pc,.i f.dst,.s r,.s o,.s h]/\aq m r f.ao/\aq m o f.aQ/\aq m h f.br
abbrev fN(m:J)(s:O)(l:List bQ):Prop:=eK m 3 (Nv m) s l
abbrev ln(m:J)(s:O)(l:List aW):Prop:=eK m 6 (IU m) s l
def Nv.ext{m b:J}(g:N m b)(a:List Ce)(c:bQ):Nv m a c->Nv b a c:=λ⟨f,d,e⟩=>⟨f,d,e.ext g⟩
def fN.ext{m b:J}(a:N m b){s:O}{l:List bQ}(h:fN m s l):fN b s l:=h.mono a (Nv.ext a)
def IU.ext{m d:J}(a:N m d)(b:List Ce)(c:aW):IU m b c->IU d b c:=λ⟨r,o,h,e,f,g,i⟩=>⟨r,o,h,e,f.ext a,g.ext a,i.ext a⟩
def ln.ext{m b:J}(a:N m b){s:O}{l:List aW}(h:ln m s l):ln b s l:=h.mono a (IU.ext a)
def fN.D{l:List bQ}(h:fN m s l){x:bQ}(c:l[k]? =some x):
 ∃f,aq m f x.aR/\af m s.E (s.off+k*3)=some (vi x.aS)/\af m s.E (s.off+k*3+1)=some (vi x.kd)/\af m s.E (s.off+k*3+2)=some (O.v f):=by
 obtain⟨d,⟨f,rfl,b⟩,a⟩:=h.iv k x c
 exact⟨f,b,a 0 (.i x.aS) rfl,a 1 (.i x.kd) rfl,a 2 (.s f) rfl⟩
def ln.D{l:List aW}(h:ln m s l){x:aW}(b:l[k]? =some x):
 ∃r o e,aq m r x.ao/\aq m o x.aQ/\aq m e x.br/\af m s.E (s.off+k*6)=some (vi x.eu)/\af m s.E (s.off+k*6+1)=some (vi x.pc)/\af m s.E (s.off+k*6+2)=some (vi x.dst)/\
  af m s.E (s.off+k*6+3)=some (O.v r)/\af m s.E (s.off+k*6+4)=some (O.v o)/\af m s.E (s.off+k*6+5)=some (O.v e):=by
 obtain⟨f,⟨r,o,e,rfl,d,c,a⟩,jk⟩:=h.iv k x b
 exact⟨r,o,e,d,c,a,jk 0 (.i x.eu) rfl,jk 1 (.i x.pc) rfl,jk 2 (.i x.dst) rfl,jk 3 (.s r) rfl,jk 4 (.s o) rfl,jk 5 (.s e) rfl⟩
def _root_.Go.Vc.eK.pD{l:List Int}(h:eK m 1 SL s l){i:Int}(a:0<=i)(b:i<l.length):af m s.E (s.off+i.toNat*1)=some (vi (D l i)):=aq.D h (nN a b)
structure RV(m:J)(mb o:Nat)(d p bd hp fr:O)(im:cq)(s:St):Prop where
 fC:eV m d p im
 aT:af m mb 0=some (O.v d)
 cB:af m mb 1=some (O.v p)
 bW:af m mb o=some (vi s.bW)
 value:af m mb (o+1)=some (vi s.value)
 bE:af m mb (o+2)=some (vi s.bE)
 aY:af m mb (o+3)=some (vi s.aY)
 YM:af m mb (o+4)=some (O.v bd)
 qy:af m mb (o+5)=some (O.v hp)
 Mu:af m mb (o+6)=some (O.v fr)
 bd:aq m bd s.bd
 heap:fN m hp s.heap
 aA:ln m fr s.aA
def RV.ext{m f:J}{g o:Nat}{d p bd c b:O}{e:cq}{s:St}(h:RV m g o d p bd c b e s)(a:N m f):RV f g o d p bd c b e s:=
 ⟨h.fC.ext a,a.af h.aT,a.af h.cB,a.af h.bW,a.af h.value,a.af h.bE,a.af h.aY,a.af h.YM,a.af h.qy,a.af h.Mu,h.bd.ext a,fN.ext a h.heap,ln.ext a h.aA⟩
def Vu(P:Nat->Prop):∀(n:Nat),P n->∃k,P k/\∀j,P j->k<=j:=by
 intro n;induction n using Nat.strongRecOn with
 |_ n e=>
  intro b;rcases dt (∃j,j<n/\P j)with⟨j,a,d⟩|c
  ·exact e j a d
  ·exact⟨n,b,λj a=>de λh=>c ⟨j,V,a⟩⟩
def Nl{σ:Type}{q:σ}{l:(σ->J->Prop)->(σ->J->Nat)->σ->J->Prop}(b:γ->σ->J->Prop)(ν:γ->Nat)(n:γ)(t:b n q m)
 (r:∀(g:γ)(s:σ)(a:J)(I:σ->J->Prop)(μ:σ->J->Nat),b g s a->(∀c e d,b c e d->ν c<ν g->I e d/\μ e d<μ s a)->l I μ s a):
 ∃(I:σ->J->Prop)(μ:σ->J->Nat),I q m/\∀s a,I s a->l I μ s a:=by
 classical
 let I:σ->J->Prop:=λs m=>∃g,b g s m
 have i:∀s m,I s m->∃k,(∃g,b g s m/\ν g=k)/\∀p,(∃g,b g s m/\ν g=p)->k<=p:=λs m⟨g,j⟩=>Vu _ (ν g) ⟨g,j,rfl⟩
 let μ:σ->J->Nat:=λs m=>if f:I s m then Classical.choose (i s m f)else 0
 refine⟨I,μ,⟨n,t⟩,λs a f=>?_⟩
 obtain⟨g,j,v⟩:=(dU (i s a f)).1
 refine r g s a I μ j λc e d h u=>⟨⟨c,h⟩,?_⟩
 have o:I e d:=⟨c,h⟩
 simp only[μ,Q6 f,Q6 o]
 exact nm ((dU (i e d o)).2 _ ⟨c,h,rfl⟩) (v▸u)
def Nk{e:(J->Prop)->(J->Nat)->J->Prop}(c:γ->J->Prop)(ν:γ->Nat)(f:γ)(i:c f m)
 (h:∀(g:γ)(a:J)(I:J->Prop)(μ:J->Nat),c g a->(∀d b,c d b->ν d<ν g->I b/\μ b<μ a)->e I μ a):
 ∃(I:J->Prop)(μ:J->Nat),I m/\∀a,I a->e I μ a:=by
 obtain⟨I,μ,j,k⟩:=Nl (σ:=Unit) (q:=()) (l:=λI μ _ a=>e (I ()) (μ ()) a) (λg _ m=>c g m) ν f i (λg _ a I μ l n=>h g a (I ()) (μ ()) l λd b=>n d () b)
 exact⟨I (),μ (),j,k ()⟩
end
section
variable{m g:J}{s d p a j t o e:O}{b r:List Int}{f:Nat}{K:Value->J->Prop}{c:cq}{x:Instr}
def _root_.Go.Vc.eK.Gk(h:eK m 1 SL s b):fZ m s.E s.off (b.map Ce.i):=λi d a=>by
 rw[cU]at a;obtain⟨x,c,rfl⟩:=Option.map_eq_some_iff.1 a;have:=aq.D h c;rw[mW]at this;exact this
def nL(f:Nat)(c:List Value)(m:J)(b:List Int):Prop:=aL cp f c m λv a=>∃s,v=O.v s/\ij m a aI 1 s (b.map Ce.i)/\N m a
def nL.then{c:List Value}(h:nL f c m b)(i:b.length<=1000000000)(e:∀s a,ij m a aI 1 s (b.map Ce.i)->aq a s b->N m a->K (O.v s) a):aL cp f c m K:=
 h.mono λ_ _⟨s,d,a,g⟩=>d▸e s _ a (aq.gQ a V) g
def nL.aK{c:List Value}{d:List Nat}(h:nL f c m b)(l:b.length<=1000000000)(i:∀a∈d,a<m.size)(k:∀s a,ij m a aI 1 s (b.map Ce.i)->aq a s b->N m a->K (O.v s) a):aL cp f c m λv a=>dR d m a/\K v a:=
 h.mono λ_ _⟨s,j,e,g⟩=>⟨g.dv i,j▸k s _ e (aq.gQ e V) g⟩
def eZ(w:Int)(m:J):dW cp 121 [vi w] m (1000<=w):=by
 apply zR;exact fF aJ (N.az _)
def kT{a:O}{h:List bQ}(j:fN m a h){w:Int}(E: -9223372036854775808<=w/\w<=9223372036854775807):dW cp 163 [O.v a,vi w] m (fQ h w):=by
 apply EW;have B:=j.len;have C:=j.gV;have q:cR ((a.len:Int) -1)=(a.len:Int) -1:=aP V V;rw[q];have z:cR (w -1000)=w -1000\/(w<1000/\¬(0<=cR (w -1000)/\cR (w -1000)<=(a.len:Int) -1))\/(w<1000/\cR (w -1000)=w -1000+18446744073709551616):=by
  rcases dt (-9223372036854775808<=w -1000)with b|b
  ·exact Or.inl (aP b V)
  ·refine Or.inr (Or.inr ⟨V,?_⟩);simp only[cR,IntKind.wrap,IntKind.signed,IntKind.bits];simp;omega
 refine(bF _ _ _ _).then λp F i b=>⟨p,rfl,λx=>?_,λv=>?_⟩
 ·refine(eZ _ _).then λb2 G o g=>⟨b2,rfl,λu=>?_,λt=>?_⟩
  ·have n:=o.1 u;have r:cR (w -1000)=w -1000:=aP V V;rw[r]at i⊢;have D:=i.1 x;obtain⟨e,c⟩:=ag (l:=h) (k:=(w -1000).toNat) V;obtain⟨f,A,s,_⟩:=(fN.ext (b.trans g) j).D c;refine⟨V,V,e.aS,s,fF ?_ (b.trans g)⟩;simp only[mP,au];refine⟨λa=>⟨n,e,c,a⟩,λ⟨_,y,d,a⟩=>?_⟩;unfold ix at d;rw[c]at d;simp at d;subst d;exact a
  ·exact cX (λd=>fb o t d.1) (b.trans g)
 ·refine cX (λ⟨n,e,c,_⟩=>fb i v ?_) b;have:=aD c;unfold ix at this;rw[aP V V];omega
def Ke(a:Int)(m:J):dW cp 125 [vi a] m (mE a):=by
 apply EV;refine⟨λh=>jM ?_ (N.az _),λh=>⟨λb=>jM ?_ (N.az _),λb=>fF ?_ (N.az _)⟩⟩<;>simp[mE]at* <;>omega
def JE{q:dk}(a:c.cB[x.bL.toNat]? =some q)(k:Nat):na c x k=true<->(k:Int)∈q.cG:=by
 simp[na,dy,a,List.any_eq_true]
def yC(c:cq)(x:Instr):Prop:=(x.op=9\/x.op=24)->0<=x.bL/\∃q,c.cB[x.bL.toNat]? =some q
def ig.call{p:dk}{k:Nat}(h:ig c p k x):yC c x:=λe=>by
 have a:=h.op;unfold lp at a;rw[ae V,ae V,ae V,ae V,an e]at a;obtain⟨q,b,d,_⟩:=a;exact⟨b,q,d⟩
def qX(h:eV m d p c)(z:yC c x)(a j:O)(k:Nat):
 dW cp 167 [.agg #[O.v d,O.v p],.agg #[vi x.op,vi x.dst,vi x.bL,vi x.bH,O.v a,O.v j],vi k] m ((x.op=9\/x.op=24)/\na c x k=true):=by
 apply Dr
 simp -zeta only[aC,aB]
 intro o b
 have n:N m b:=((N.az m).aN _).aN _
 have A:∀f∈[o.size,m.size],f<b.size:=by simp[b,o];omega
 have K:=h.cB.len
 clear_value b
 have q:∀e:x.op=9\/x.op=24,(0:Int)<=x.bL/\x.bL<(p.len:Int)/\∃u:O,af b p.E (p.off+Int.toNat x.bL*5+1)=some (O.v u)/\
  aL cp 175 [O.v u,vi k] b λr s=>dR [o.size,m.size] b s/\∃t:Bool,r=vb t/\∃f:Bool,vb t=.bool f/\(f=true<->((x.op=9\/x.op=24)/\na c x k=true))/\N m s:=λe=>by
  obtain⟨v,M,l⟩:=z e
  obtain⟨D,C,E,I,B,J,F,g1,g2,G,H⟩:=(h.ext n).cB.D l
  have:=aD l
  refine⟨v,V,C,g1,(dj B _).aK (N.az _) A λf L y w _=>⟨f,rfl,fF ?_ (n.trans w)⟩⟩
  rw[y,JE l]
  exact⟨λh=>⟨e,h⟩,λh=>h.2⟩
 refine⟨λi=>q (Or.inl (by simpa using i)),λi=>⟨λg=>q (Or.inr (by simpa using g)),λg=>cX (λ⟨e,_⟩=>?_) n⟩⟩
 simp at i g;omega
def Gu(a:Int)(m:J):dW cp 166 [vi a] m (a=6\/a=9\/a=10\/a=11):=by
 apply ru;refine⟨λh=>jM ?_ (N.az _),λh=>⟨λb=>jM ?_ (N.az _),λb=>⟨λc=>jM ?_ (N.az _),λc=>fF ?_ (N.az _)⟩⟩⟩<;>simp at* <;>omega
def iC(c:cq)(x:Instr)(n:Nat):List Int:=gT c x 0 (x.args.take n)
def uJ(c:cq)(x:Instr):∀(b r:List Int)(k:Nat),gT c x k (b++r)=gT c x k b++gT c x (k+b.length) r
 |[],r,k=>by simp[gT]
 |a::b,r,k=>by
  have:=uJ c x b r (k+1);simp only[cA,gT,this,aZ];have e:k+(b.length+1)=k+1+b.length:=V;rw[e];split<;>simp
def td(c:cq)(x:Instr):∀(b:List Int)(k:Nat),(gT c x k b).length<=b.length
 |[],k=>ad _
 |a::b,k=>by
  have:=td c x b (k+1);simp only[gT];split<;>simp<;>omega
def Hd(c:cq)(x:Instr):(bS c x).length<=x.args.length:=by
 unfold bS;split
 ·exact ad _
 split
 ·simp;omega
 split
 ·exact td _ _ _ _
 ·simp
def N.sM{a c:J}(f:N g a)(h:N g c){b:List Nat}(d:∀x∈b,x<g.size):dR b a c:=λx e=>by rw[f.same x (d x e),h.same x (d x e)]
def nB{v:Int}{K:O->J->Prop}(c:ij g m aI 1 s (b.map Ce.i))(h:N g m)(n:b.length<1000000000)
 (f:∀r a,ij g a aI 1 r ((b++[v]).map Ce.i)->N g a->K r a):
 jh (m.push (.cells (bC [.i v]) aI)) aI [.i (0:Int)] 8 s (O.mk m.size 0 1 1) K:=by
 have o:s.len=b.length:=by have:=c.len;simp at this;omega
 refine ij.append (c:=[.i 0]) (i:=[.i v]) (c.ext (N.push _ _)) (h.aN _) rfl (cx.push m _ _).iv bR λr a d e i j k l=>?_
 exact f r a (by simpa using d) e
def II(ab:eV m d p c)(hc:yC c x)(J:aq m a x.args)(am:x.args.length<=1000000)(ac:(x.op=16\/x.op=17)->1<=x.args.length):
 nL 127 [.agg #[O.v d,O.v p],.agg #[vi x.op,vi x.dst,vi x.bL,vi x.bH,O.v a,O.v j]] m (bS c x):=by
 apply DF
 simp -zeta only[aC,aB]
 intro D f R
 have C:N m f:=((N.az m).aN _).aN _
 have s2:f.size=m.size+2:=by simp[f,D]
 have h3:N f R:=(N.az f).aN _
 have v:ij f R aI 1 (.mk f.size 0 0 0) []:=ij.new (N.az f) aI 1 [] 0 aJ
 have s1:D.size=m.size+1:=by simp[D]
 have aj:=J.len
 have z:∀w∈[D.size,m.size],w<f.size:=λw u=>by simp at u;omega
 clear_value R
 clear_value f
 have K:∀{q s b},ij f q aI 1 s b->ij m q aI 1 s b:=λv=>v.ct C.size
 refine⟨λaa q=>N f q/\ij f q aI 1 (.mk f.size 0 0 0) []/\(aa=true<->(x.op=15\/x.op=6\/x.op=10\/x.op=11\/x.op=18\/x.op=23\/x.op=9\/x.op=24)),?_,?_⟩
 ·refine(Gu _ _).aK h3 z λw E u h o=>⟨w,rfl,λM=>⟨o,v.ext h,by have:=u.1 M;simp;omega⟩,λL=>?_⟩
  have g:=fb u L
  refine⟨λe=>⟨o,v.ext h,by simp at e;simp;omega⟩,λI=>⟨λe=>⟨o,v.ext h,by simp at e;simp;omega⟩,λt=>⟨λe=>⟨o,v.ext h,by simp at e;simp;omega⟩,λB=>⟨o,v.ext h,by simp at I t B;simp;omega⟩⟩⟩⟩
 ·rintro aa E ⟨h,P,X⟩
  refine⟨λah=>?_,λad=>?_⟩
  ·have hT:=X.1 ah
   refine dS (n:=x.args.length) V (λg s q=>N f q/\ij f q aI 1 s ((if x.op=9\/x.op=24 then iC c x g else x.args.take g).map Ce.i)) ⟨h,by simpa[iC,gT]using P⟩ ?_
   rintro g s m5 ai μ hk ⟨S,Q⟩ Z
   have Y:=C.trans S
   refine dit (λal=>?_) λak=>?_
   ·obtain⟨y,i⟩:=ag (l:=x.args) (k:=g) V
    have W:iC c x (g+1)=iC c x g++gT c x g [y]:=by
     unfold iC;rw[bn i,uJ];simp;congr 2;omega
    refine(qX (ab.ext Y) hc a j g).aK S z λw m6 u T G=>⟨w,rfl,λM=>?_,λL=>?_⟩
    ·have H:=nb u M
     refine⟨V,V,y,by simpa using(J.ext (C.trans G)).D i,?_⟩
     intro m7
     have U:(if x.op=9\/x.op=24 then iC c x g else x.args.take g).length<=g:=by
      split
      ·refine bX (td _ _ _ _) ?_;simp;omega
      ·simp;omega
     refine nB (Q.ext T) G V λr m8 A F=>?_
     refine⟨N.sM (G.aN _) F z,Z V _ _ ⟨F,?_⟩⟩
     by_cases e:x.op=9\/x.op=24
     ·rw[an e]at A⊢
      rw[W]
      have:gT c x g [y]=[y]:=by
       simp only[gT];rw[ae (λz=>H ⟨e,z⟩)]
      rw[this];exact A
     ·rw[ae e]at A⊢
      rw[bn i];exact A
    ·have H:=yb u L
     refine Z V _ _ ⟨G,?_⟩
     have U:=Q.ext T
     rw[an H.1]at U⊢
     rw[W]
     have:gT c x g [y]=[]:=by
      simp only[gT];rw[an H.2]
     rw[this,dD];exact U
   ·refine⟨s,rfl,?_,Y⟩
    have t:bS c x=if x.op=9\/x.op=24 then iC c x g else x.args.take g:=by
     have B:x.args.take g=x.args:=cN V;unfold bS iC;rw[B];by_cases e:x.op=9\/x.op=24
     ·rw[ae V,ae V,an e,an e]
     ·rw[an V,ae e]
    rw[t];exact K Q
  ·have hT:¬(x.op=15\/x.op=6\/x.op=10\/x.op=11\/x.op=18\/x.op=23\/x.op=9\/x.op=24):=λe=>by have:=X.2 e;rw[ad]at this;simp at this
   have o:=C.trans h
   have jZ:∀e:x.op=16\/x.op=17,(0:Int)<=(0:Int)/\(0:Int)<(a.len:Int)/\∃G:Int,af E a.E (a.off+Int.toNat (0:Int)*1)=some (vi G)/\
    jh (E.push (.cells (bC [.i G]) 3)) 3 [.i (0:Int)] 8 (O.mk f.size 0 0 0) (O.mk E.size 0 1 1) λL g=>dR [D.size,m.size] (E.push (.cells (bC [.i G]) 3)) g/\∃s,O.v L=O.v s/\ij m g aI 1 s ((bS c x).map Ce.i)/\N m g:=λe=>by
    have M:=ac e
    obtain⟨y,i⟩:=ag (l:=x.args) (k:=0) V
    refine⟨V,V,y,by simpa using(J.ext o).D i,nB (b:=[]) P h aJ λr m8 A F=>⟨N.sM (h.aN _) F z,r,rfl,?_,C.trans F⟩⟩
    have t:bS c x=[y]:=by
     unfold bS;rw[ae V,an e];cases H:x.args with
     |nil=>rw[H]at i;simp at i
     |cons Q b=>rw[H]at i;simp at i;subst i;rfl
    rw[t];exact K A
   refine⟨λe=>jZ (Or.inl (by simpa using e)),λI=>⟨λe=>jZ (Or.inr (by simpa using e)),λt=>⟨_,rfl,?_,o⟩⟩⟩
   have B:bS c x=[]:=by
    simp at I t;unfold bS;rw[ae V,ae V,ae V]
   rw[B];exact K P
def mS(c:aq m s b)(l:b.length<=1000000000):nL 57 [O.v s] m b:=by
 apply ng;intro d;have a:N m d:=(N.az m).aN _;have g:ij m d aI 1 (.mk m.size 0 0 0) []:=ij.new (N.az m) aI 1 [] 0 aJ;have f:=c.len;refine ij.append (c:=[.i 0]) (i:=b.map Ce.i) g a (by simp[f]) (c.ext a).Gk bR λr n a e h i j k=>⟨r,rfl,by simpa using a,e⟩
def Ka(h:aq m s b)(c:aq m t r)(p:b.length+r.length<=1000000000):nL 213 [O.v s,O.v t] m (b++r):=by
 apply tW;refine(mS h V).then V λq w d e a=>⟨q,rfl,?_⟩;have i:=c.len;have o:=e.len;refine ij.append (c:=[.i 0]) (i:=r.map Ce.i) d a (by simp[i]) (c.ext a).Gk V λu v f g j k l n=>⟨u,rfl,by simpa using f,g⟩
def nI(d:aq m s b):dW cp 161 [O.v s] m (Qy b):=by
 apply C8;have i:=d.len;refine fB (n:=b.length) (i▸d.gV) (λf a=>N m a/\∀y∈b.take f,y=0) ⟨N.az _,aJ⟩ ?_;rintro f q I μ p ⟨a,g⟩ o
 refine⟨λh=>?_,λh=>jM (dx (by simp at h;omega) g) a⟩;simp only[au]at h;obtain⟨x,e⟩:=ag (l:=b) (k:=f) V;refine⟨V,V,x,by simpa using a.af (d.D e),λc=>cX (λj=>?_) a,λc=>o V _ ⟨a,cF e g (by simpa using c)⟩⟩;have:=j x (av e);simp at c;omega
def Ab(d:aq m s b):dW cp 168 [O.v s] m (∀o∈b,0<=o):=by
 apply vM;have i:=d.len;refine fB (n:=b.length) (i▸d.gV) (λf a=>N m a/\∀y∈b.take f,0<=y) ⟨N.az _,aJ⟩ ?_;rintro f r I μ q ⟨a,g⟩ p
 refine⟨λh=>?_,λh=>jM (dx (by simp at h;omega) g) a⟩;simp only[au]at h;obtain⟨x,e⟩:=ag (l:=b) (k:=f) V;refine⟨V,V,x,by simpa using a.af (d.D e),λc=>cX (λj=>?_) a,λc=>p V _ ⟨a,cF e g (by simpa using c)⟩⟩;have:=j x (av e);simp at c;omega
def pU(g:aq m s b)(o:aq m t r):dW cp 208 [O.v s,O.v t] m (b=r):=by
 apply BU;have p:=g.len;have v:=o.len;refine⟨λh=>cX (λe=>by subst e;simp at h;omega) (N.az _),λh=>?_⟩;simp at h;refine fB (n:=b.length) (p▸g.gV) (λf a=>N m a/\b.take f=r.take f) ⟨N.az _,aJ⟩ ?_;rintro f w I μ u ⟨c,j⟩ q
 refine⟨λh=>?_,λh=>jM (by simp at h;rwa[cN V,cN V]at j) c⟩;simp only[au]at h;obtain⟨x,i⟩:=ag (l:=b) (k:=f) V;obtain⟨y,d⟩:=ag (l:=r) (k:=f) V;refine⟨V,V,x,by simpa using c.af (g.D i),V,V,y,by simpa using c.af (o.D d),λa=>cX (λe=>?_) c,λa=>q V _ ⟨c,?_⟩⟩
 ·subst e;rw[i]at d;simp at d;simp at a;exact a d
 ·rw[bn i,bn d,j];simp at a;rw[a]
abbrev fv(f:aW)(r o h:O):Value:=.agg #[vi f.eu,vi f.pc,vi f.dst,O.v r,O.v o,O.v h]
abbrev xv(x:Instr)(a j:O):Value:=.agg #[vi x.op,vi x.dst,vi x.bL,vi x.bH,O.v a,O.v j]
def C7{f:aW}{r:O}(v:aq m r f.ao)(g:aq m a x.args)(F:∀y∈x.args,0<=y/\y<f.ao.length):
 dW cp 169 [fv f r o e,xv x a j] m (∀y∈x.args,D f.ao y<1000):=by
 apply xS
 simp -zeta only[aC,aB]
 intro A b
 have z:N m b:=((N.az m).aN _).aN _
 have G:∀d∈[A.size,m.size],d<b.size:=by simp[b,A];omega
 have B:=g.len
 have M:=v.len
 clear_value b
 refine fB (n:=x.args.length) (B▸g.gV) (λq c=>N b c/\∀y∈x.args.take q,D f.ao y<1000) ⟨N.az _,aJ⟩ ?_
 rintro q P J μ L ⟨w,u⟩ I
 have i:=z.trans w
 refine⟨λh=>?_,λh=>jM (dx (by simp at h;omega) u) i⟩
 simp only[au]at h
 obtain⟨y,c⟩:=ag (l:=x.args) (k:=q) V
 have p:=F y (av c)
 refine⟨V,V,y,by simpa using i.af (g.D c),p.1,V,D f.ao y,by simpa using i.af (v.pD p.1 p.2),?_⟩
 refine(eZ _ _).aK w G λd Q t K s=>⟨d,rfl,λE=>cX (λH=>?_) (z.trans s),λC=>I V _ ⟨s,cF c u ?_⟩⟩
 ·have:=H y (av c);have:=t.1 E;omega
 ·have:=fb t C;omega
def oA(b r:List Int):j7 (b++r)=j7 b++j7 r:=by simp[j7]
def nD(b:List Int):(j7 b).length<=b.length:=List.length_filter_le _ _
def nX(g:aq m s b)(C:b.length<=100000000):nL 207 [O.v s] m (j7 b):=by
 apply yh;intro h;have t:N m h:=(N.az m).aN _;have w:ij m h aI 1 (.mk m.size 0 0 0) []:=ij.new (N.az m) aI 1 [] 0 aJ;have B:=g.len;clear_value h;refine dS (n:=b.length) V (λf s a=>N m a/\ij m a aI 1 s ((j7 (b.take f)).map Ce.i)) ⟨t,by simpa[j7]using w⟩ ?_;rintro f s D I μ A ⟨d,c⟩ o
 refine dit (λq=>?_) λq=>?_
 ·obtain⟨x,e⟩:=ag (l:=b) (k:=f) V;refine⟨V,V,x,by simpa using d.af (g.D e),?_⟩;refine(eZ _ _).then λp E i a=>⟨p,rfl,λv=>?_,λu=>?_⟩
  ·have j:=d.trans a;refine⟨V,V,x,by simpa using j.af (g.D e),?_⟩;intro F;refine nB (c.ext a) j (by have:=nD (b.take f);simp at this;omega) λr G y z=>o V _ _ ⟨z,?_⟩
   rw[bn e,oA];have:j7 [x]=[x]:=by simp[j7,i.1 v]
   rw[this];exact y
  ·refine o V _ _ ⟨d.trans a,?_⟩
   rw[bn e,oA];have:j7 [x]=[]:=by simp[j7];have:=fb i u;omega
   rw[this,dD];exact c.ext a
 ·rw[cN V]at c;exact⟨s,rfl,c,d⟩
def rc{f:aW}{r:O}(q:aq m r f.ao)(t:aq m s b)(A:∀y∈b,0<=y/\y<f.ao.length)(K:b.length<=100000000):
 nL 209 [fv f r o e,O.v s] m (cy f b):=by
 apply DN
 simp -zeta only[aC,aB]
 intro a p
 have u:N m a:=(N.az m).aN _
 have z:N a p:=(N.az a).aN _
 have C:ij a p aI 1 (.mk a.size 0 0 0) []:=ij.new (N.az a) aI 1 [] 0 aJ
 have B:∀w∈[m.size],w<a.size:=by simp[a]
 have J:=t.len
 have H:=q.len
 clear_value p
 clear_value a
 refine dS (n:=b.length) V (λj s c=>N a c/\ij a c aI 1 s ((cy f (b.take j)).map Ce.i)) ⟨z,by simpa[cy]using C⟩ ?_
 rintro j s L I μ G ⟨d,c⟩ E
 have g:=u.trans d
 refine dit (λx=>?_) λx=>?_
 ·obtain⟨y,h⟩:=ag (l:=b) (k:=j) V
  have i:=A y (av h)
  refine⟨V,V,y,by simpa using g.af (t.D h),i.1,V,D f.ao y,by simpa using g.af (q.pD i.1 i.2),?_⟩
  intro M
  refine nB c d (by simp[cy];omega) λQ P F v=>⟨N.sM (d.aN _) v B,E V _ _ ⟨v,?_⟩⟩
  rw[bn h]
  simpa[cy]using F
 ·rw[cN V]at c
  exact⟨s,rfl,c.ct u.size,g⟩
end
section
variable{g:J}{b:aW}{u y d p h v j:O}{s:St}{c:List Int}{t:Nat}{q:cq}{w:Int}{e:Nat->Int}{x:Instr}
def GU{e:O}(S:aq g u b.ao)(ho:aq g y b.aQ){s:O}(F:aq g s c)(af:∀d∈c,0<=d/\d<b.ao.length)(ap:b.ao.length=b.aQ.length)(aA:b.aQ.length<=1000000)(ay:c.length<=1000000)
 (P:∀w∈b.aQ,-1000000000<=w/\w<=1000000000):nL 126 [fv b u y e,O.v s] g (bB b.ao b.aQ c):=by
 apply BP
 simp -zeta only[aC,aB]
 intro t
 have G:N g t:=(N.az g).aN _
 have J:∀I∈[g.size],I<t.size:=by simp[t]
 have az:=F.len
 have ax:=S.len
 clear_value t
 refine(mS (ho.ext G) V).aK V J λz m2 o2 i2 h2=>⟨z,rfl,?_⟩
 have R:=i2.len
 have jY:∀(p H aQ:List Int),bB b.ao aQ (p++H)=bB b.ao (bB b.ao aQ p) H:=by
  intro p;induction p with
  |nil=>intro H aQ;rfl
  |cons d p q=>intro H aQ;simp only[cA,bB,q]
 have lo:∀(p aQ:List Int)(B:Int),(∀w∈aQ,B<=w)->∀w∈bB b.ao aQ p,B -p.length<=w:=by
  intro p;induction p with
  |nil=>intro aQ B h w v;have:=h w v;simp;omega
  |cons d p q=>
   intro aQ B h w v;simp only[bB]at v;have:=q _ (B -1) (λx j=>by
    split at j
    ·rcases dt (d.toNat<aQ.length)with C|C
     ·rcases oW j with j|j
      ·have:=h _ (fL (i:=d.toNat) (a:=D aQ d) (by obtain⟨E,A⟩:=ag C;rw[CK A];exact A));omega
      ·have:=h x j;omega
     ·have A:gF aQ d (D aQ d -1)=aQ:=by unfold gF;rw[qN V]
      rw[A]at j;have:=h x j;omega
    ·have:=h x j;omega) w v
   simp only[aZ];omega
 refine fB (n:=c.length) V (λj q=>N t q/\ij t q aI 1 z ((bB b.ao b.aQ (c.take j)).map Ce.i)) ⟨h2,o2⟩ ?_
 rintro j m3 al μ hk ⟨T,E⟩ X
 have L:=G.trans T
 refine dit (λh=>?_) λh=>?_
 ·obtain⟨d,x⟩:=ag (l:=c) (k:=j) V
  have q:=af d (av x)
  have ar:=jA b.ao (c.take j) b.aQ
  refine⟨V,V,d,by simpa using L.af (F.D x),q.1,V,D b.ao d,by simpa using L.af (S.pD q.1 q.2),?_⟩
  refine(eZ _ _).aK T J λI W Q M C=>⟨I,rfl,λac=>?_,λaa=>?_⟩
  ·have U:=G.trans C
   have K:=E.ext M
   have i4:aq W z (bB b.ao b.aQ (c.take j)):=aq.gQ K V
   refine⟨V,V,d,by simpa using U.af (F.D x),V,V,d,by simpa using U.af (F.D x),q.1,V,D (bB b.ao b.aQ (c.take j)) d,i4.pD q.1 V,q.1,V,?_⟩
   have aw:=lo (c.take j) b.aQ (-1000000000) (λw v=>(P w v).1) _ (eR (c:=bB b.ao b.aQ (c.take j)) q.1 V)
   have am:D (bB b.ao b.aQ (c.take j)) d<=1000000000:=by
    obtain⟨q',ak,ao⟩:=kj (c.take j) b.aQ d.toNat _ (nN (c:=bB b.ao b.aQ (c.take j)) q.1 V);have:=(P q' (av ak)).2;omega
   have au:(c.take j).length<=1000000:=bR
   rw[aP V V]
   rcases K.D with ai|⟨v,Z,tail,A,e2,e3,e4,e5⟩
   ·rw[ai]at R;simp at R;omega
   ·have aj:z.off=0:=by rw[A];rfl
    have ab:z.E=v:=by rw[A];rfl
    rw[aj,ab]
    have ad:0+d.toNat*1=d.toNat:=V
    rw[ad]
    have ah:d.toNat<((bB b.ao b.aQ (c.take j)).map Ce.i).length:=bR
    refine⟨e3.dZ (by simp only[a8];omega),?_⟩
    intro m5
    have Y:N t m5:=C.ah e2 _ _
    refine⟨N.sM C Y J,X V _ ⟨Y,?_⟩⟩
    rw[bn x,jY]
    simp only[bB,an (Q.1 ac)]
    refine⟨by rw[dL,jo,<-dL (f:=Ce.i)];exact K.len,Or.inr ⟨v,Z,tail,A,e2,?_,?_,e5⟩⟩
    ·have:=cx.ah (m:=W) (o:=d.toNat) (r:=[.i (D (bB b.ao b.aQ (c.take j)) d -1)]) e3
     have A:iK ((bB b.ao b.aQ (c.take j)).map Ce.i++tail) d.toNat [.i (D (bB b.ao b.aQ (c.take j)) d -1)]=(gF (bB b.ao b.aQ (c.take j)) d (D (bB b.ao b.aQ (c.take j)) d -1)).map Ce.i++tail:=by
      simp only[iK,gF,th];rw[Kz _ _ ah]
     rw[A]at this;exact this
    ·simp only[a8,dL,jo]at e4⊢;exact e4
  ·refine X V _ ⟨C,?_⟩
   rw[bn x,jY]
   simp only[bB,ae (fb Q aa)]
   exact E.ext M
 ·rw[cN V]at E
  exact⟨z,rfl,E.ct G.size,L⟩
def fD{bd r x:O}(a:RV g t 2 d p bd r x q s)(K:1000<=w){c:bQ}(j:s.heap[ix w]? =some c):
 aL cp 173 [vp t 0,vi w] g λD v=>∃b,D=.agg #[vi c.aS,vi c.kd,O.v b]/\aq v b c.aR/\N g v:=by
 apply tC (t,0)
 simp -zeta only[aC,aB]
 intro B
 have f:N g B:=(N.az g).aN _
 have k:=fN.ext f a.heap
 obtain⟨b,G,o,g1,g2⟩:=k.D j
 have I:=k.len
 have J:=k.gV
 have A:=aD j
 unfold ix at A o g1 g2
 have e:cR (w -1000)=w -1000:=aP V V
 rw[e]
 refine⟨r,f.af a.qy,V,V,c.aS,o,c.kd,g1,b,g2,?_⟩
 intro C
 have l:N g C:=f.ah (ad _) _ _
 obtain⟨n,y,L,M,u⟩:=(fN.ext l a.heap).D j
 unfold ix at u
 have z:n=b:=by
  have F:=f.af (a.qy);obtain⟨E,H,_,_,m⟩:=a.heap.D j;unfold ix at m;have h:=f.af m;have i:=l.af m;rw[g2]at h;rw[u]at i;simp at h i;rw[O.Qu]at h i;rw[h,i]
 subst z
 exact⟨n,rfl,y,l⟩
def tV{bd M F:O}(E:RV g t 2 d p bd M F q s)(I:ft s.heap e){D:O}(r:aq g D c)(K:∀w∈c,fQ s.heap w)(aa:c.length<=1000000):
 dW cp 206 [vp t 0,O.v D] g (kH s.heap c):=by
 apply qZ (t,0)
 have Z:=r.len
 refine fB (n:=c.length) V (λu a=>N g a/\∀w∈c.take u,1000<=w->(aG s.heap w).aS+fR c (ix w)<=999999) ⟨N.az _,aJ⟩ ?_
 rintro u m1 R μ W ⟨A,z⟩ Q
 refine⟨λh=>?_,λh=>jM (dx (by simp at h;omega) z) A⟩
 simp only[au]at h
 obtain⟨x,m⟩:=ag (l:=c) (k:=u) V
 have o:=K x (av m)
 have P:=jI o.1
 refine dS (n:=c.length) V (λj(B:Int) a=>N g a/\B=fR (c.take j) (ix x)) ⟨A,by simp[fR]⟩ ?_
 rintro j B m2 S μ2 U ⟨f,rfl⟩ C
 refine dit (λG=>?_) λG=>?_
 ·obtain⟨y,v⟩:=ag (l:=c) (k:=j) V
  have L:=wu (c.take j) (ix x)
  have J:=ju (c.take j) (ix x)
  have H:(c.take j).length<=1000000:=bR
  have i:fR (c.take (j+1)) (ix x)=fR (c.take j) (ix x)+if y=x then 1 else 0:=by
   rw[bn v,mF];simp only[fR,P];omega
  refine⟨V,V,y,by simpa using f.af (r.D v),V,V,x,by simpa using f.af (r.D m),λa=>C V _ _ ⟨f,?_⟩,λa=>C V _ _ ⟨f,?_⟩⟩
  ·simp at a;rw[i,an a];exact aP V V
  ·simp at a;rw[i,ae a];omega
 ·rw[cN V]
  have L:=wu c (ix x)
  have J:=ju c (ix x)
  obtain⟨y,Y⟩:=bY o
  have X:=(I.cell _ (av y)).hi
  refine⟨V,V,x,by simpa using f.af (r.D m),?_⟩
  refine(fD (E.ext f) o.1 y).mono ?_
  rintro _ m3 ⟨b,rfl,T,a⟩
  have v:cR ((aG s.heap x).aS+fR c (ix x))=(aG s.heap x).aS+fR c (ix x):=aP V V
  refine⟨_,_,_,rfl,λi=>cX (λH=>?_) (f.trans a),λi=>Q V _ ⟨f.trans a,cF m z λ_=>?_⟩⟩
  ·have:=H x (av m) o.1
   rw[v]at i;simp at i;omega
  ·rw[v]at i;simp at i;omega
def sk{h:List bQ}:kH h (j7 c)<->kH h c:=by
 unfold kH;constructor
 ·intro b w d a;have:=b w (jT.2 ⟨d,a⟩) a;rwa[vt]at this
 ·intro b w d a;rw[vt];exact b w (jT.1 d).1 a
def Te{s:O}(h:aq g s c)(p:1<=c.length):aq g (O.cut s 1 s.len 1) (c.drop 1):=by
 have b:=h.len;have i:=h.cap;have l:=h.gV;cases s with
 |nil=>simp at b;omega
 |A2 d y a=>simp at b;omega
 |mk d y r o=>
  simp at b i l;refine⟨by simp[O.cut];omega,by simp[O.cut];omega,by simp[O.cut];omega,λn x a=>?_⟩;rw[rj]at a;have q:=aD a;obtain⟨f,j,jk⟩:=h.iv (1+n) x a;refine⟨f,j,λm e k=>?_⟩;have:=jk m e k;simp only[O.cut,O.jH,O.ze]at this⊢;rw[ae V];rw[<-this];congr 1;omega
def gA.pd(h:gA q b){u:Int}(d:0<=u)(e:u<b.ao.length)(f:∀w∈b.ao,w<=9223372036854775807): -9223372036854775808<=D b.ao u/\D b.ao u<=9223372036854775807:=by
 have c:=eR (c:=b.ao) d e;refine⟨?_,f _ c⟩;rcases h.Nr _ c with a|a
 ·have:=a.1;omega
 ·omega
def Iu{bd hp fr:O}(z:RV g t 2 d p bd hp fr q s)(M:ft s.heap e)(Q:aq g u b.ao)(P:aq g h b.br)(o:aq g v x.args)
 (L:gA q b)(aj:∀w∈b.ao,w<=9223372036854775807)(aa:∀k∈x.args,0<=k/\k<b.ao.length)(ay:1<=x.args.length/\x.args.length<=4)(az:x.op=16\/x.op=17):
 dW cp 174 [vp t 0,fv b u y h,xv x v j] g (D0 s.heap b x):=by
 apply sT (t,0)
 simp -zeta only[aC,aB]
 intro m1 G
 have a:N g G:=((N.az g).aN _).aN _
 have l:∀i∈[m1.size,g.size],i<G.size:=by simp[G,m1];omega
 have ar:=o.len
 have aD:=Q.len
 have ax:=P.len
 have ap:=o.cap
 clear_value G
 have c:0<=D x.args 0/\D x.args 0<b.ao.length:=aa _ (eR V V)
 have S:D x.args 0<b.br.length:=by have:=L.lr;have:=L.lh;omega
 have am:=L.pd c.1 c.2 aj
 refine⟨V,V,D x.args 0,(o.ext a).pD V V,c.1,V,D b.ao (D x.args 0),(Q.ext a).pD c.1 c.2,hp,a.af z.qy,?_⟩
 unfold D0
 simp only[]
 generalize aF:D b.ao (D x.args 0)=w at*
 refine(kT (fN.ext a z.heap) am).aK (N.az _) l λi m3 r B _=>⟨i,rfl,λai=>cX (λf=>nb r ai f.1) (a.trans B),λah=>?_⟩
 have m:=yb r ah
 obtain⟨C,aA⟩:=bY m
 have au:=(M.cell _ (av C)).fl
 have an:=a.trans B
 refine((fD (z.ext an) m.1 C)).aK B l ?_
 rintro _ m4 ⟨fl,rfl,al,W⟩
 have T:=B.trans W
 refine⟨W,_,_,_,rfl,(nX al V).aK (by have:=nD (aG s.heap w).aR;omega) (λi r=>T.lt (l i r)) λps m5 o5 i5 h5=>⟨ps,rfl,V,V,V,?_⟩⟩
 have H:=T.trans h5
 have ab:=a.trans H
 have e1:(Int.toNat (1:Int))=1:=rfl
 have e2:(Int.toNat (v.len:Int))=v.len:=V
 rw[e1,e2]
 refine(rc (Q.ext ab) (Te (o.ext ab) V) (λk n=>aa k (vY n)) bR).aK (by simp[cy];omega) (λi r=>H.lt (l i r)) λqs m6 o6 i6 J=>⟨qs,rfl,?_⟩
 have ac:=H.trans J
 refine(pU (i5.ext J) i6).aK ac l λb2 m7 X h7 A=>⟨b2,rfl,λae=>?_,λad=>cX (λf=>fb X ad f.2.1) (a.trans A)⟩
 have E:=X.1 ae
 refine(fD (z.ext (a.trans A)) m.1 C).aK A l ?_
 rintro _ m8 ⟨ao,rfl,aw,K⟩
 have I:=A.trans K
 refine⟨K,_,_,_,rfl,λn=>?_,λn=>?_⟩
 ·simp at n
  have F:=a.trans I
  refine⟨λk=>jM ⟨m,E,Or.inl n,λe=>by simp at k;omega⟩ F,λk=>⟨V,V,D x.args 0,(o.ext F).pD V V,c.1,V,D b.br (D x.args 0),(P.ext F).pD c.1 S,fF ?_ F⟩⟩
  simp only[aE,ak,ne_eq]at k⊢
  exact⟨λR=>⟨m,E,Or.inl n,λ_=>R⟩,λf=>f.2.2.2 V⟩
 ·simp at n
  refine(tV (z.ext (a.trans I)) M (i5.ext ((J.trans h7).trans K)) (λU F=>M.field (av C) (jT.1 F).1 (jT.1 F).2) (by have:=nD (aG s.heap w).aR;omega)).aK I l λb3 m9 Y h9 U=>⟨b3,rfl,λag=>?_,λaf=>cX (λf=>?_) (a.trans U)⟩
  ·have Z:=sk.1 (Y.1 ag)
   have F:=a.trans U
   refine⟨λk=>jM ⟨m,E,Or.inr Z,λe=>by simp at k;omega⟩ F,λk=>⟨V,V,D x.args 0,(o.ext F).pD V V,c.1,V,D b.br (D x.args 0),(P.ext F).pD c.1 S,fF ?_ F⟩⟩
   simp only[aE,ak,ne_eq]at k⊢
   exact⟨λR=>⟨m,E,Or.inr Z,λ_=>R⟩,λf=>f.2.2.2 V⟩
  ·rcases f.2.2.1 with k|k
   ·exact n k
   ·exact fb Y af (sk.2 k)
def GG{bd R fr:O}(b:RV g t 2 d p bd R fr q s)(I:gP q)(F:ft s.heap e)(hw: -9223372036854775808<=w/\w<=9223372036854775807):
 dW cp 172 [vp t 0,vi w] g (uS q s.heap w):=by
 apply rT (t,0)
 simp -zeta only[aC,aB]
 refine⟨R,b.qy,(kT b.heap hw).then λi m1 z E=>⟨i,rfl,λaj=>cX (λa=>nb z aj a.1) E,λai=>?_⟩⟩
 have B:=yb z ai
 obtain⟨H,am⟩:=bY B
 have L:=F.cell _ (av H)
 have aF:=(L.rm am).2
 refine(fD (b.ext E) B.1 H).mono ?_
 rintro _ f ⟨D,rfl,Q,j⟩
 refine⟨_,_,_,rfl,?_⟩
 intro W h
 have ao:=E.trans j
 have J:N f h:=((N.az f).aN _).ah (ad _) _ _
 have s4:h.size=f.size+1:=by simp[h,W,ay]
 have hB:af h f.size 1=some (vi (aG s.heap w).kd):=(cx.ah (m:=W) (o:=0) (r:=[.i (aG s.heap w).aS,.i (aG s.heap w).kd,.s D]) (cx.push f _ _)).bV 1
 have A:∀i∈[f.size],i<h.size:=by simp[s4]
 clear_value h
 have c:=ao.trans J
 have M:=b.ext c
 have aE:=b.fC.cB.len
 have aD:=I.lY.len
 have ar:(eE q.aT).length<=12:=by
  have:=qx I.lY.types q.aT.length;rw[mz _ _ (ad _)]at this;exact this
 refine⟨d,M.aT,(pS M.fC.aT I.lY.types).aK (N.az _) A λm5 v _=>⟨_,rfl,v.bZ hB,p,(b.ext (c.trans v)).cB,?_⟩⟩
 have aH:=c.trans v
 have Y:cR ((aG s.heap w).kd -((eE q.aT).length:Int))=(aG s.heap w).kd -bz q:=aP V V
 have Z:cR ((p.len:Int) -1)=(p.len:Int) -1:=aP V V
 rw[Y,Z]
 refine(bF _ _ _ _).aK v A λb2 m6 P h6 n=>⟨b2,rfl,λae=>?_,λac=>cX (λa=>fb P ac ⟨a.2.1,by have:=a.2.2.1;omega⟩) (c.trans n)⟩
 have T:=P.1 ae
 have C:=c.trans n
 have G:=b.ext C
 obtain⟨ap,S⟩:=ag (l:=q.cB) (k:=((aG s.heap w).kd -bz q).toNat) V
 have an:dy q ((aG s.heap w).kd -bz q)=ap:=by simp[dy,S]
 obtain⟨X,l',c',ab,al,aw,g0,g1,_⟩:=G.fC.cB.D S
 have au:=ab.len
 have aA:=al.len
 have az:=Q.len
 have ax:=L.fl
 have e3:cR ((D.len:Int)+1)=(D.len:Int)+1:=aP V V
 rw[e3]
 unfold uS
 rw[an]
 refine⟨p,G.cB,V,V,X,g0,λx=>⟨p,G.cB,V,V,l',g1,λy=>⟨λu=>?_,λu=>?_⟩,λy=>cX (λa=>?_) C⟩,λx=>cX (λa=>?_) C⟩
 ·simp at x y u
  exact jM ⟨B,T.1,V,V,V,Or.inl u⟩ C
 ·simp at x y u
  refine(nX (Q.ext (J.trans n)) V).aK (by have:=nD (aG s.heap w).aR;omega) (λi z=>n.lt (A i z)) λps m7 o7 i7 aa=>⟨ps,rfl,?_⟩
  have K:=n.trans aa
  refine(tV (b.ext (c.trans K)) F i7 (λah U=>F.field (av H) (jT.1 U).1 (jT.1 U).2) (by have:=nD (aG s.heap w).aR;omega)).aK K A λb3 m8 ah aq U=>⟨b3,rfl,fF ?_ (c.trans U)⟩
  rw[ah,sk]
  refine⟨λak=>⟨B,T.1,V,V,V,Or.inr ak⟩,λa=>?_⟩
  rcases a.2.2.2.2.2 with j|j
  ·exact absurd j u
  ·exact j
 ·have:=a.2.2.2.2.1;simp at y;omega
 ·have:=a.2.2.2.1;simp at x;omega
def GH{bd M F:O}(C:RV g t 2 d p bd M F q s)(B:aq g h b.br)(H:aq g v x.args)(U:0<=x.bH/\x.bH<=b.br.length)(W:b.br.length<=1000000)
 (K:∀w∈b.br,w≠0->1000<=w/\∃n,s.heap[ix w]? =some n):
 dW cp 170 [vp t 0,fv b u y h,xv x v j] g (Ea s.heap b x):=by
 apply rU (t,0)
 simp -zeta only[aC,aB]
 intro m f
 have c:N g f:=((N.az g).aN _).aN _
 have L:∀E∈[m.size,g.size],E<f.size:=by simp[f,m];omega
 have G:af f m.size 4=some (O.v v):=(cx.push m _ _).bV 4
 have R:=H.len
 have T:=B.len
 clear_value f
 unfold Ea
 refine⟨λk=>jM (λo=>absurd (by simpa using k) o) c,λk=>?_⟩
 simp at k
 have e:cR (x.bH -1)=x.bH -1:=aP V V
 rw[e]
 have A:=(B.ext c).pD (i:=x.bH -1) V V
 refine⟨V,V,D b.br (x.bH -1),A,λa=>jM (λ_ o=>absurd (by simpa using a) o) c,λa=>?_⟩
 simp at a
 obtain⟨P,n,z⟩:=K _ (eR (c:=b.br) (i:=x.bH -1) V V) a
 refine⟨V,V,D b.br (x.bH -1),A,(fD (C.ext c) P z).aK (N.az _) L ?_⟩
 rintro _ X ⟨Q,rfl,J,o⟩
 have S:=J.len
 have I:aG s.heap (D b.br (x.bH -1))=n:=by simp[aG,z]
 refine⟨o,_,_,_,rfl,o.bZ G,fF ?_ (c.trans o)⟩
 rw[I]
 simp
 exact⟨λr _ _=>V,λr=>by have:=r k a;omega⟩
def qh(q:cq)(x:Instr):∀(c u:List Int)(k:Nat),fg q x k (c++u)=fg q x k c++fg q x (k+c.length) u
 |[],u,k=>by simp[fg]
 |v::c,u,k=>by
  have:=qh q x c u (k+1);simp only[cA,fg,this,aZ];have e:k+(c.length+1)=k+1+c.length:=V;rw[e];split<;>simp
def vI{bd o fr:O}(A:RV g t 2 d p bd o fr q s)(U:aq g u b.ao)(G:aq g v x.args)(hF:gA q b)(af:∀w∈b.ao,w<=9223372036854775807)
 (ah:∀a∈x.args,0<=a/\a<b.ao.length)(hc:yC q x)(aj:x.op=9\/x.op=24):
 dW cp 171 [vp t 0,fv b u y h,xv x v j] g (I5 q s.heap b x):=by
 apply rS (t,0)
 simp -zeta only[aC,aB]
 intro Z m
 have J:N g m:=((N.az g).aN _).aN _
 have I:∀B∈[Z.size,g.size],B<m.size:=by simp[m,Z];omega
 have aa:=G.len
 have al:=U.len
 clear_value m
 refine fB (n:=x.args.length) (aa▸G.gV) (λc e=>N m e/\∀a∈fg q x 0 (x.args.take c),1000<=D b.ao a->fQ s.heap (D b.ao a)) ⟨N.az _,by simp[fg]⟩ ?_
 rintro c m3 ak μ hk ⟨X,T⟩ L
 have r:=J.trans X
 refine⟨λh=>?_,λh=>jM (by simp at h;rwa[cN V]at T) r⟩
 simp only[au]at h
 obtain⟨a,K⟩:=ag (l:=x.args) (k:=c) V
 have i:=ah a (av K)
 have F:=A.ext r
 have W:fg q x 0 (x.args.take (c+1))=fg q x 0 (x.args.take c)++fg q x c [a]:=by
  rw[bn K,qh];congr 2;simp;omega
 have H:(na q x c=true->1000<=D b.ao a->fQ s.heap (D b.ao a))->∀z∈fg q x 0 (x.args.take (c+1)),1000<=D b.ao z->fQ s.heap (D b.ao z):=λhh z e=>by
  rw[W]at e;rcases List.mem_append.1 e with e|e
  ·exact T z e
  ·simp only[fg]at e;split at e
   ·rename_i f;simp at e;subst e;exact hh f
   ·simp at e
 have ai:na q x c=true->a∈fg q x 0 x.args:=λf=>by
  have e1:x.args=x.args.take (c+1)++x.args.drop (c+1):=(cT _ _).symm;rw[e1,qh,W];refine bJ _ (fw _ ?_);simp only[fg];rw[an f];simp
 refine⟨V,V,a,by simpa using r.af (G.D K),i.1,V,D b.ao a,by simpa using r.af (U.pD i.1 i.2),d,F.aT,p,F.cB,?_⟩
 refine(qX F.fC hc v j c).aK X I λB m4 Q h4 M=>⟨B,rfl,λae=>?_,λad=>L V _ ⟨M,H λf=>absurd ⟨aj,f⟩ (fb Q ad)⟩⟩
 have f:=(Q.1 ae).2
 refine(eZ _ _).aK M I λb2 m5 R h5 C=>⟨b2,rfl,λac=>?_,λab=>L V _ ⟨C,H λ_ o=>absurd o (fb R ab)⟩⟩
 have Y:=J.trans C
 refine⟨o,(A.ext Y).qy,(kT (fN.ext Y A.heap) (hF.pd i.1 i.2 af)).aK C I λb3 m6 S h6 P=>⟨b3,rfl,λE=>cX (λhM=>nb S E (hM a (ai f) (R.1 ac))) (J.trans P),λE=>L V _ ⟨P,H λ_ _=>yb S E⟩⟩⟩
end
section
structure xG(im:cq)(s:St)(fs:List aW)(f:aW)(x:Instr):Prop where
 ok:dm im s
 run:s.bW=3
 fr:s.aA=fs++[f]
 Xy:dh im f=x
 IN:∀g∈s.aA,∀w∈g.ao,w<=9223372036854775807
section
variable{b:cq}{s:St}{c:List aW}{f:aW}{x:Instr}
def xG.F(a:xG b s c f x):gA b f:=a.ok.aA f (by rw[a.fr];simp)
def xG.KI(a:xG b s c f x):∀w∈f.ao,w<=9223372036854775807:=a.IN f (by rw[a.fr];simp)
def xG.I(a:xG b s c f x):∃p,b.cB[f.eu.toNat]? =some p/\dy b f.eu=p/\FE b p/\p.cJ[f.pc.toNat]? =some x/\ig b p f.pc.toNat x:=by
 have:=a.F.Hp a.ok.fC;rwa[a.Xy]at this
def xG.JD(a:xG b s c f x):f.ao.length=f.aQ.length/\f.br.length=f.aQ.length/\1<=f.aQ.length/\f.aQ.length<=2000:=by
 obtain⟨p,_,e,i,_,_⟩:=a.I;have d:=a.F.lr;have g:=a.F.lo;have h:=a.F.lh;rw[e]at d g h;have:=i.ao;omega
def xG.arg(a:xG b s c f x):∀y∈x.args,0<=y/\y<f.ao.length:=λy h=>by
 obtain⟨p,_,e,_,_,g⟩:=a.I;have d:=a.F.lr;rw[e]at d;have:=g.args y h;omega
def xG.dst(a:xG b s c f x):0<=x.dst/\x.dst<f.aQ.length:=by
 obtain⟨p,_,e,_,_,g⟩:=a.I;have d:=a.F.lo;rw[e]at d;have:=g.dst;omega
def xG.call(a:xG b s c f x):yC b x:=let⟨_,_,_,_,_,d⟩:=a.I;d.call
def xG.XC(a:xG b s c f x):0<=x.op/\x.op<=24/\x.op≠7/\x.op≠8/\x.op≠12/\x.op≠13:=by
 obtain⟨p,_,_,e,_,d⟩:=a.I;exact((Hq e.ao.2.2 a.ok.fC.lY.len.2 λq g=>(a.ok.fC.lY.dz q g).1).1 d).1
def xG.kv(g:xG b s c f x):x.args.length<=4/\((x.op=5\/x.op=14\/x.op=15\/x.op=18\/x.op=23\/x.op=19\/x.op=20\/x.op=21)->x.args.length=1)/\((x.op=1\/x.op=2\/x.op=3\/x.op=4\/x.op=11)->x.args.length=2)/\
 ((x.op=16\/x.op=17)->1<=x.args.length)/\(x.op=6->0<=x.bH/\x.bH<=f.br.length/\0<=x.bL/\x.bL<12/\x.args.length<=3)/\(x.op=10->0<=x.bL/\x.bL<4/\x.args.length<=3)/\(x.op=0->-999<=x.bL/\x.bL<=999):=by
 obtain⟨z,_,r,y,_,u⟩:=g.I
 have a:=u.op
 have t:=g.F.lh
 rw[r]at t
 have d:=g.ok.fC.lY
 have v:(eE b.aT).length<=12:=by
  have:=qx d.types b.aT.length;rw[mz _ _ (ad _)]at this;exact this
 have w:=Hj d.types x.bL
 unfold lp at a
 by_cases h:x.op=0
 ·rw[an h]at a;omega
 rw[ae h]at a
 by_cases i:x.op=1\/x.op=2\/x.op=3\/x.op=4\/x.op=11
 ·rw[an i]at a;omega
 rw[ae i]at a
 by_cases j:x.op=5\/x.op=14\/x.op=15\/x.op=18\/x.op=23
 ·rw[an j]at a;omega
 rw[ae j]at a
 by_cases k:x.op=6
 ·rw[an k]at a;omega
 rw[ae k]at a
 by_cases l:x.op=9\/x.op=24
 ·rw[an l]at a
  obtain⟨q,n,e,o⟩:=a
  have:=(d.dz q (av e)).1;omega
 rw[ae l]at a
 by_cases m:x.op=10
 ·rw[an m]at a
  obtain⟨⟨q,n,e,o⟩,_⟩:=a
  have:=(d.dz q (av e)).1
  have:=aD e
  have:=d.len;omega
 rw[ae m]at a
 by_cases n:x.op=16\/x.op=17
 ·rw[an n]at a;omega
 rw[ae n]at a
 by_cases o:x.op=19
 ·rw[an o]at a;omega
 rw[ae o]at a
 by_cases p:x.op=20
 ·rw[an p]at a;omega
 rw[ae p]at a
 by_cases q:x.op=22
 ·rw[an q]at a;omega
 rw[ae q]at a
 by_cases e:x.op=21
 ·rw[an e]at a
  have:=a.1;omega
 rw[ae e]at a;exact a.elim
def xG.JC(d:xG b s c f x):∀w∈f.br,w≠0->1000<=w/\∃e,s.heap[ix w]? =some e/\e.aS<0:=λw h k=>by
 have g:1000<=w:=by have:=d.F.br w h;omega
 refine⟨g,?_⟩;have j:0<holds s.aA (ix w):=by
  rw[d.fr,eL,iF];have:=En c (ix w);have:=wy (l:=f.br) (f:=ix w) (by rw[jI g];exact h);omega
 exact de λi=>by have:=d.ok.px (ix w) i;omega
def xG.MI(d:xG b s c f x):∀o∈f.aQ,0<=o/\o<=999999:=λo h=>by
 have q:=d.F.Sa o h;refine⟨q,?_⟩;rcases dt (0<o)with i|i
 ·obtain⟨m,e⟩:=List.mem_iff_getElem?.1 h;have:=d.JD;obtain⟨w,j⟩:=ag (l:=f.ao) (k:=m) (by have:=aD e;omega);have n:=(d.F.aQ m o w e j).2 i;have r:=On d.F.Sa j e (d:=ix w) (by rw[jI n]);have t:o<=lB s.aA (ix w):=by
   rw[d.fr,fU,kN];have:=IP (b:=c) (λg p=>d.ok.aA g (by rw[d.fr];exact bJ _ p)) (ix w);omega
  obtain⟨g,hd,p⟩:=d.ok.heap.lv (ix w) V;have u:=d.ok.heap.ex _ g hd p;have v:=EF s.heap (ix w);have y:=(d.ok.heap.cell g (av hd)).hi;omega
 ·omega
def xG.IS(a:xG b s c f x):∀r∈bS b x,0<=r/\r<f.ao.length:=λr d=>a.arg r (AU d)
end
def Kg{o:J}{mb:Nat}{ai ax bd d fr:O}{M:cq}{K:St}(R:RV o mb 2 ai ax bd d fr M K){fs:List aW}{m:aW}{x:Instr}(C:xG M K fs m x){aa ad h T an ow:O}(S:aq o aa m.ao)(W:aq o h m.br)(L:aq o T x.args){aQ:List Int}(Y:aq o ow aQ)(aD:aQ.length=m.aQ.length):
 dW cp 128 [vp mb 0,fv m aa ad h,xv x T an,O.v ow] o (jr M K m x aQ):=by
 apply tD (mb,0)
 simp -zeta only[aC,aB]
 intro Z Q
 have b:N o Q:=((N.az o).aN _).aN _
 have i:∀g∈[Z.size,o.size],g<Q.size:=by simp[Q,Z];omega
 have aj:cx Q Z.size cV [.i x.op,.i x.dst,.i x.bL,.i x.bH,.s T,.s an]:=cx.push Z _ _
 have ap:cx Q o.size cQ [.i m.eu,.i m.pc,.i m.dst,.s aa,.s ad,.s h]:=(cx.push o _ _).ext (N.push Z _)
 have ay:=L.len
 have aG:=S.len
 have az:=W.len
 have aF:=Y.len
 have hd:=C.dst
 have aA:=C.JD
 have G:=C.kv
 have hI:=C.ok.heap
 clear_value Q
 refine⟨λP=>N Q P/\(∀ad∈aQ,0<=ad)/\(lx x.op->D aQ x.dst<=0),?_,?_⟩
 ·refine(Ab (Y.ext b)).aK (N.az _) i λg m3 c n _=>⟨g,rfl,λu=>cX (λl=>nb c u l.nn) (b.trans n),λz=>?_⟩
  refine(wR _ _).aK n i λb2 A y w a=>⟨b2,rfl,λu=>?_,λv=>⟨a,yb c z,λe=>absurd e (fb y v)⟩⟩
  refine⟨hd.1,V,D aQ x.dst,(Y.ext (b.trans a)).pD hd.1 V,λk=>cX (λl=>?_) (b.trans a),λk=>⟨a,yb c z,λ_=>by simpa using k⟩⟩
  have:=l.dst (y.1 u);simp at k;omega
 ·rintro m3 ⟨n,q,p⟩
  have f:=b.trans n
  have t:=R.ext f
  have mk:∀{ae:Prop},(jr M K m x aQ->ae)->(ae->jr M K m x aQ)->(jr M K m x aQ<->ae):=λI h2=>⟨I,h2⟩
  have B:1<=x.args.length->0<=D x.args 0/\D x.args 0<m.ao.length:=λI=>C.arg _ (eR V V)
  have E:∀{P},N o P->1<=x.args.length->af P T.E (T.off+Int.toNat (0:Int)*1)=some (vi (D x.args 0)):=λhx I=>(L.ext hx).pD V V
  have F:∀{P},N o P->1<=x.args.length->af P aa.E (aa.off+Int.toNat (D x.args 0)*1)=some (vi (D m.ao (D x.args 0))):=λhx I=>(S.ext hx).pD (B I).1 (B I).2
  refine⟨λe=>?_,λe1=>?_⟩
  ·simp only[bT,aE]at e
   refine(C7 (S.ext f) (L.ext f) C.arg).aK n i λg A c w a=>⟨g,rfl,fF (c.trans ?_) (b.trans a)⟩
   refine⟨λd=>?_,λh=>h.nu V⟩
   refine⟨q,p,?_,?_,?_,?_,?_,?_,?_,?_,?_,?_,?_⟩<;>intro r<;>first|(exfalso;omega)|exact d
  simp only[bq,ak]at e1
  refine⟨λe=>?_,λe2=>?_⟩
  ·simp only[aE]at e
   have j:=G.2.2.2.2.1 e
   refine(GH t (W.ext f) (L.ext f) ⟨j.1,j.2.1⟩ V (λab X U=>by obtain⟨I,s,H,_⟩:=C.JC ab X U;exact⟨I,s,H⟩)).aK n i λg A c w a=>⟨g,rfl,fF (c.trans ?_) (b.trans a)⟩
   refine⟨λd=>?_,λh=>h.gL e⟩
   refine⟨q,p,?_,?_,?_,?_,?_,?_,?_,?_,?_,?_,?_⟩<;>intro r<;>first|(exfalso;omega)|exact d
  simp only[ak]at e2
  refine⟨λe=>?_,λe3=>?_⟩
  ·simp only[aE]at e
   refine(vI t (S.ext f) (L.ext f) C.F C.KI C.arg C.call (Or.inl e)).aK n i λg A c w a=>⟨g,rfl,fF (c.trans ?_) (b.trans a)⟩
   refine⟨λd=>?_,λh=>h.cG (Or.inl e)⟩
   refine⟨q,p,?_,?_,?_,?_,?_,?_,?_,?_,?_,?_,?_⟩<;>intro r<;>first|(exfalso;omega)|exact d
  simp only[ak]at e3
  refine⟨λe=>?_,λe4=>?_⟩
  ·simp only[aE]at e
   refine(vI t (S.ext f) (L.ext f) C.F C.KI C.arg C.call (Or.inr e)).aK n i λg A c w a=>⟨g,rfl,λu=>?_,λz=>cX (λl=>fb c z (l.cG (Or.inr e))) (b.trans a)⟩
   refine(nI (Y.ext (b.trans a))).aK a i λb2 m5 y k s=>⟨b2,rfl,λah=>?_,λv=>cX (λl=>fb y v (l.zero (Or.inl e)).1) (b.trans s)⟩
   refine(nI (W.ext (b.trans s))).aK s i λb3 m6 H U j=>⟨b3,rfl,fF (H.trans ?_) (b.trans j)⟩
   refine⟨λd=>?_,λh=>(h.zero (Or.inl e)).2⟩
   refine⟨q,p,?_,?_,?_,?_,?_,?_,?_,?_,?_,?_,?_⟩<;>intro r<;>first|(exfalso;omega)|exact c.1 u|exact⟨y.1 ah,d⟩
  simp only[ak]at e4
  refine⟨λe=>?_,λe5=>?_⟩
  ·simp only[aE]at e
   have X:=G.2.1 V
   refine(nI (Y.ext f)).aK n i λb2 m5 y k s=>⟨b2,rfl,λah=>?_,λv=>cX (λl=>fb y v (l.zero (Or.inr e)).1) (b.trans s)⟩
   refine(nI (W.ext (b.trans s))).aK s i λb3 m6 H U j=>⟨b3,rfl,λav=>?_,λar=>cX (λl=>fb H ar (l.zero (Or.inr e)).2) (b.trans j)⟩
   have ac:=b.trans j
   have al:=R.ext ac
   have ab:=al.aA.len
   have gW:∀d:1<K.aA.length\/D m.ao (D x.args 0)<1000,jr M K m x aQ:=λd=>by
    refine⟨q,p,?_,?_,?_,?_,?_,?_,?_,?_,?_,?_,?_⟩<;>intro r<;>first|(exfalso;omega)|exact⟨y.1 ah,H.1 av⟩|exact d
   refine⟨fr,al.Mu,λh8=>jM (gW (Or.inl (by simp at h8;omega))) ac,λh8=>?_⟩
   refine⟨V,V,_,E ac V,(B V).1,by have:=(B V).2;omega,_,F ac V,(eZ _ _).aK j i λb4 m7 am h9 ag=>⟨b4,rfl,fF ?_ (b.trans ag)⟩⟩
   simp at h8
   constructor
   ·intro ao
    exact gW (Or.inr (by have:=nb am ao;omega))
   ·intro l
    rcases l.ret e with ao|ao
    ·omega
    ·have:¬b4=true:=λaw=>by have:=am.1 aw;omega
     simpa using this
  simp only[ak]at e5
  refine⟨λe=>?_,λe6=>?_⟩
  ·simp only[aE]at e
   have X:=G.2.2.1 V
   have j:=B V
   refine⟨V,V,_,E f V,j.1,V,_,F f V,(GG t C.ok.fC hI (C.F.pd j.1 j.2 C.KI)).aK n i λg A c w a=>⟨g,rfl,fF (c.trans ?_) (b.trans a)⟩⟩
   refine⟨λd=>?_,λh=>h.apply e⟩
   refine⟨q,p,?_,?_,?_,?_,?_,?_,?_,?_,?_,?_,?_⟩<;>intro r<;>first|(exfalso;omega)|exact d
  simp only[ak]at e6
  refine⟨λe=>?_,λe7=>?_⟩
  ·simp only[aE]at e
   have X:=G.2.1 V
   have j:=B V
   refine⟨V,V,_,E f V,j.1,V,_,F f V,d,t.qy,(kT t.heap (C.F.pd j.1 j.2 C.KI)).aK n i λg A c w a=>⟨g,rfl,λu=>?_,λz=>cX (λl=>fb c z (l.Th e).1) (b.trans a)⟩⟩
   have v:=c.1 u
   refine(fD (R.ext (b.trans a)) v.1 (bY v).1).aK a i ?_
   rintro _ m5 ⟨fl,rfl,ab,k⟩
   refine⟨k,_,_,_,rfl,fF ?_ (b.trans (a.trans k))⟩
   simp only[au]
   refine⟨λd=>?_,λh=>(h.Th e).2⟩
   refine⟨q,p,?_,?_,?_,?_,?_,?_,?_,?_,?_,?_,?_⟩<;>intro r<;>first|(exfalso;omega)|exact⟨v,d⟩
  simp only[ak]at e7
  refine⟨λe=>?_,λe8=>?_⟩
  ·simp only[aE]at e
   have X:=G.2.1 V
   have j:=B V
   refine⟨V,V,_,E f V,j.1,V,_,F f V,(eZ _ _).aK n i λg A c w a=>⟨g,rfl,fF (c.trans ?_) (b.trans a)⟩⟩
   refine⟨λd=>?_,λh=>h.drop e⟩
   refine⟨q,p,?_,?_,?_,?_,?_,?_,?_,?_,?_,?_,?_⟩<;>intro r<;>first|(exfalso;omega)|exact d
  simp only[ak]at e8
  refine⟨λe=>?_,λe9=>?_⟩
  ·simp only[bT,aE]at e
   refine(Iu t hI (S.ext f) (W.ext f) (L.ext f) C.F C.KI C.arg ⟨G.2.2.2.1 e,G.1⟩ e).aK n i λg A c w a=>⟨g,rfl,fF (c.trans ?_) (b.trans a)⟩
   refine⟨λd=>?_,λh=>h.Ct e⟩
   refine⟨q,p,?_,?_,?_,?_,?_,?_,?_,?_,?_,?_,?_⟩<;>intro r<;>first|(exfalso;omega)|exact d
  simp only[bq,ak]at e9
  refine⟨λe=>?_,λac=>?_⟩
  ·simp only[aE]at e
   have X:=G.2.1 V
   have j:=B V
   refine⟨d,t.qy,V,V,_,E f V,j.1,V,_,F f V,(kT t.heap (C.F.pd j.1 j.2 C.KI)).aK n i λg A c w a=>⟨g,rfl,λu=>?_,λz=>cX (λl=>fb c z (l.load e).1) (b.trans a)⟩⟩
   have v:=c.1 u
   have H:=b.trans a
   refine⟨V,V,_,E H V,j.1,V,_,F H V,(fD (R.ext H) v.1 (bY v).1).aK a i ?_⟩
   rintro _ m5 ⟨fl,rfl,ab,k⟩
   have ah:=ab.len
   refine⟨k,_,_,_,rfl,k.bZ ((aj.ext a).bV 2),fF ?_ (b.trans (a.trans k))⟩
   simp only[au]
   refine⟨λd=>?_,λh=>by have:=(h.load e).2;omega⟩
   refine⟨q,p,?_,?_,?_,?_,?_,?_,?_,?_,?_,?_,?_⟩<;>intro r<;>first|(exfalso;omega)|exact⟨v,V⟩
  simp only[ak]at ac
  refine⟨λe=>?_,λah=>?_⟩
  ·simp only[aE]at e
   have X:=G.2.1 V
   have j:=B V
   refine⟨d,t.qy,V,V,_,E f V,j.1,V,_,F f V,(kT t.heap (C.F.pd j.1 j.2 C.KI)).aK n i λg A c w a=>⟨g,rfl,λu=>?_,λz=>cX (λl=>fb c z (l.Ax e).1) (b.trans a)⟩⟩
   have v:=c.1 u
   have H:=b.trans a
   have l:=R.ext H
   refine⟨ai,l.aT,V,V,_,E H V,j.1,V,_,F H V,(zB l.fC.aT C.ok.fC.lY.types _).aK a i ?_⟩
   rintro _ m5 ⟨cs,rfl,al,k⟩
   have s:=a.trans k
   refine⟨k,cs,rfl,k.bZ (F H V),k.bZ (E H V),k.bZ ((aj.ext a).bV 4),k.bZ ((ap.ext a).bV 3),(fD (R.ext (b.trans s)) v.1 (bY v).1).aK s i ?_⟩
   rintro _ m6 ⟨fl,rfl,ab,U⟩
   refine⟨U,_,_,_,rfl,(dj (al.ext U) _).aK (s.trans U) i λb2 m7 y h8 ag=>⟨b2,rfl,fF (y.trans ?_) (b.trans ag)⟩⟩
   refine⟨λd=>?_,λh=>(h.Ax e).2⟩
   refine⟨q,p,?_,?_,?_,?_,?_,?_,?_,?_,?_,?_,?_⟩<;>intro r<;>first|(exfalso;omega)|exact⟨v,d⟩
  ·simp only[ak]at ah
   refine jM ?_ f
   refine⟨q,p,?_,?_,?_,?_,?_,?_,?_,?_,?_,?_,?_⟩<;>intro r<;>exfalso<;>omega
end
section
variable{p:Nat->Prop}{o n:Nat}{i:Int}{f:O}
structure eC(p:Nat->Prop)(ro:Nat->Nat)(m:J)(ro':Nat->Nat)(m':J):Prop where
 size:m.size<=m'.size
 jU:∀b,b<m.size->ro' b=ro b
 new:∀b,m'.size<=b->ro' b=0
 dO:∀b,b<m.size->¬p (ro b)->m'[b]? =m[b]?
def eC.az(p:Nat->Prop){a:Nat->Nat}{m:J}(h:∀b,m.size<=b->a b=0):eC p a m a m:=⟨ad _,λ_ _=>rfl,h,λ_ _ _=>rfl⟩
def eC.trans{g i j:Nat->Nat}{d e f:J}(h:eC p g d i e)(k:eC p i e j f):eC p g d j f:=
 ⟨bX h.size k.size,λb a=>by rw[k.jU b (aO a h.size),h.jU b a],k.new,λb a c=>by
  rw[k.dO b (aO a h.size) (by rw[h.jU b a];exact c),h.dO b a c]⟩
def eC.mono{q:Nat->Prop}{b c:Nat->Nat}{m a:J}(h:eC p b m c a)(g:∀k,p k->q k):eC q b m c a:=⟨h.size,h.jU,h.new,λd e i=>h.dO d e λf=>i (g _ f)⟩
def eC.fP(p:Nat->Prop){c:Nat->Nat}{m d:J}(h:N m d)(e:∀b,m.size<=b->c b=0):eC p c m c d:=⟨h.size,λ_ _=>rfl,λb a=>e b (bX h.size a),λb a _=>h.same b a⟩
def eC.ah{a:Nat->Nat}{m:J}(g:∀b,m.size<=b->a b=0){b:Nat}(f:p (a b))(o:Nat)(l:List Ce):eC p a m a (ah m b o l):=
 ⟨tj (ay _ _ _ _).symm,λ_ _=>rfl,λc d=>g c (by rw[ay]at d;exact d),λc _ h=>bt _ _ _ _ λe=>h (e▸f)⟩
abbrev HC:=eC (λk=>k=3\/k=5\/k=6)
abbrev To:=eC (λk=>k≠0/\k≠9)
def eC.ct{g i:Nat->Nat}{c m f:J}(h:To g m i f)(e:N c m)(d:∀b,b<c.size->g b=0):N c f/\∀b,b<c.size->i b=0:=by
 have j:=e.size;exact⟨⟨bX j h.size,λb a=>by rw[h.dO b V (by simp[d b a]),e.same b a]⟩,λb a=>by rw[h.jU b V,d b a]⟩
def eC.dv{e f:Nat->Nat}{m d:J}(h:To e m f d){l:List Nat}(c:∀b∈l,b<m.size/\e b=0):dR l m d:=λb a=>h.dO b (c b a).1 (by simp[(c b a).2])
structure iD(ro:Nat->Nat)(m:J)(e sz k:Nat)(s:O)(l:List Ce):Prop where
 len:l.length=s.len*sz
 le:s.len<=s.cap
 D:s.cap=0\/∃b c tail,s=.mk b 0 s.len c/\ro b=k/\cx m b e (l++tail)/\(l++tail).length=c*sz
section
variable{c g:Nat->Nat}{b d:J}{e a k:Nat}{s:O}{l:List Ce}
def iD.xg(h:iD c b e a k s l)(f:s.cap=0):l=[]/\s.len=0:=by
 have:=h.le;have d:s.len=0:=V;exact⟨List.length_eq_zero_iff.1 (by rw[h.len,d];simp),d⟩
def iD.iv(h:iD c b e a k s l):fZ b s.E s.off l:=by
 rcases h.D with f|⟨j,d,tail,h1,h2,h3,h4⟩
 ·rw[(h.xg f).1];intro i d g;simp at g
 ·rw[h1];exact h3.iv.KC
def iD.wr(h:iD c b e a k s l)(d:o+n<=l.length):dZ b s.E (s.off+o) n:=by
 rcases h.D with f|⟨g,i,tail,h1,h2,h3,h4⟩
 ·rw[(h.xg f).1]at d;intro m j;simp at d;omega
 ·rw[h1];simp only[O.jH,O.ze,cO];exact h3.dZ bR
def iD.dO(h:iD c b e a k s l)(p:s.cap≠0->d[s.E]? =b[s.E]?)(q:s.cap≠0->g s.E=c s.E):iD g d e a k s l:=by
 refine⟨h.len,h.le,?_⟩;rcases h.D with o|⟨m,n,tail,h1,h2,h3,h4⟩
 ·exact Or.inl o
 ·by_cases f:s.cap=0
  ·exact Or.inl f
  ·have i:=p f;have j:=q f;rw[h1]at i j;exact Or.inr ⟨m,n,tail,h1,j.trans h2,h3.congr i,h4⟩
def iD.E(h:iD c b e a k s l)(f:s.cap≠0):s.E<b.size/\c s.E=k:=by
 rcases h.D with d|⟨g,i,tail,h1,h2,h3,h4⟩
 ·exact absurd d f
 ·rw[h1];exact⟨h3.lt,h2⟩
def iD.gC(h:iD c b e a k s l)(i:eC p c b g d)(j:¬p k):iD g d e a k s l:=
 h.dO (λf=>i.dO _ (h.E f).1 (by rw[(h.E f).2];exact j)) (λf=>i.jU _ (h.E f).1)
def iD.set(h:iD c b e a k s l){new:List Ce}(w:o+new.length<=l.length):iD c (ah b s.E (s.off+o) new) e a k s (iK l o new):=by
 refine⟨by rw[jV];exact h.len,h.le,?_⟩;rcases h.D with u|⟨j,n,tail,h1,h2,h3,h4⟩
 ·exact Or.inl u
 ·refine Or.inr ⟨j,n,tail,h1,h2,?_,by simp only[a8,jV]at h4⊢;exact h4⟩;have p:s.E=j:=by rw[h1];rfl
  have q:s.off=0:=by rw[h1];rfl
  rw[p,q,cO];have:=cx.ah (m:=b) (o:=o) (r:=new) h3;have t:iK (l++tail) o new=iK l o new++tail:=by
   have f:(iK l o new).length=l.length:=jV _ _ _;apply iT;intro i;rcases bA i l.length with d|d
   ·have g:(iK l o new++tail)[i]? =(iK l o new)[i]? :=aw (by rw[f];exact d);rw[g,vw,vw];simp only[a8];by_cases v:o<=i/\i<o+new.length
    ·rw[an V,an V]
    ·rw[ae V,ae V,aw d]
   ·have g:(iK l o new++tail)[i]? =tail[i -l.length]? :=by rw[aF (by rw[f];exact d),f]
    rw[g,vw,ae V,aF d]
  rw[t]at this;exact this
def iD.cut(h:iD c b e a k s l){n:Nat}(m:n<=s.len):iD c b e a k (s.cut 0 n a) (l.take (n*a)):=by
 have j:=h.le;have q:=h.len;rcases h.D with i|⟨f,g,tail,h1,h2,h3,h4⟩
 ·have d:n=0:=V;cases s with
  |nil=>exact⟨by simp[d,O.cut],by simp[O.cut],Or.inl rfl⟩
  |A2 f o p=>exact⟨by simp[d,O.cut],by simp[O.cut],Or.inl rfl⟩
  |mk f o r p=>simp at i;subst i;exact⟨by simp[d,O.cut],by simp[d,O.cut],Or.inl (by simp[O.cut])⟩
 ·rw[h1];have d:s.len<=g:=by rw[h1]at j;exact j
  refine⟨?_,by simp[O.cut];omega,Or.inr ⟨f,g,l.drop (n*a)++tail,?_,h2,?_,?_⟩⟩
  ·simp only[O.cut,O.jt,gU,VJ];have:n*a<=s.len*a:=dp _ m;omega
  ·simp[O.cut]
  ·rw[<-eW,cT];exact h3
  ·rw[<-eW,cT];exact h4
end
def iD.append{i:Nat->Nat}{g:J}{k n:Nat}{c:List Ce}{v:Nat}{s x:O}{p d:List Ce}{K:O->J->Prop}(h:iD i g k c.length n s p)(u:∀a,g.size<=a->i a=0)
 (l:d.length=x.len*c.length)(C:fZ g x.E x.off d)(j:(s.len+x.len)*v<=140737488355328)
 (t:∀w q f,iD w f k c.length n q (p++d)->eC (λz=>z=n) i g w f->K q f):jh g k c v s x K:=by
 have G:=h.le
 refine⟨d,l,C,λE=>?_,λF=>⟨j,p,h.len,h.iv,λf w=>?_⟩⟩
 ·rcases h.D with D|⟨a,f,tail,h1,h2,h3,h4⟩
  ·have y:x.len=0:=V
   have B:d=[]:=List.length_eq_zero_iff.1 (by rw[l,y];simp)
   subst B
   refine⟨λz A=>by simp at A,?_⟩
   have q:=t i s _ (by rw[dD];exact h) (eC.az _ u)
   cases s with
   |nil=>exact q
   |A2 a o H=>exact q
   |mk a o H f=>simp only[y,jF];exact q
  ·have y:=h.len
   have B:s.cap=f:=by rw[h1];rfl
   rw[h1]
   simp only[O.jH,O.ze,O.jt,cO]
   simp only[a8]at h4
   have A:d.length<=tail.length:=by
    have z:(s.len+x.len)*c.length<=f*c.length:=dp _ V;rw[gq]at z;omega
   refine⟨h3.dZ (by simp only[a8];omega),?_⟩
   have q:=cx.ah (m:=g) (b:=a) (e:=k) (r:=d) (o:=s.len*c.length) h3
   rw[<-y,AQ p d tail A]at q
   refine t i _ _ ⟨?_,?_,Or.inr ⟨a,f,tail.drop d.length,rfl,h2,?_,?_⟩⟩ (eC.ah u h2 _ _)
   ·simp only[a8,O.jt,gq];omega
   ·simp only[O.jt,O.Mk];omega
   ·rw[<-y];exact q
   ·simp only[a8,ZX];omega
 ·refine t (λa=>if a=g.size then n else i a) _ _ ⟨?_,?_,Or.inr ⟨g.size,f,nj c (f -(s.len+x.len)),rfl,aJ,cx.push _ _ _,?_⟩⟩ ⟨aJ,λa j=>ae V,λa j=>?_,λa j _=>by rw[ms,ae V]⟩
  ·simp only[a8,O.jt,gq,h.len,l]
  ·simpa using w
  ·simp only[a8,qM,h.len,l]
   rw[Nat.sub_mul,<-gq]
   have:(s.len+x.len)*c.length<=f*c.length:=dp _ w
   omega
  ·simp at j;rw[ae V];exact u a V
def iD.gQ{d:Nat->Nat}{i m:J}{e f k:Nat}{s:O}{l:List Ce}(h:ij i m e f s l)(g:s≠.nil->d s.E=k):iD d m e f k s l:=by
 refine⟨h.len,?_,?_⟩
 ·rcases h.D with a|⟨b,c,tail,a,h2,h3,h4,h5⟩
  ·rw[a];exact ad _
  ·rw[a];exact h5
 ·rcases h.D with a|⟨b,c,tail,a,h2,h3,h4,h5⟩
  ·rw[a];exact Or.inl rfl
  ·refine Or.inr ⟨b,c,tail,a,?_,h3,h4⟩;have:=g (by rw[a];simp);rw[a]at this;exact this
def iD.nu{e:Nat->Nat}{m:J}{k:Nat}{s:O}{l:List Int}(h:iD e m aI 1 k s (l.map Ce.i))(g:l.length<=9223372036854775807):aq m s l:=by
 have d:s.len=l.length:=by have:=h.len;simp at this;omega
 refine⟨d,h.le,V,λj x c=>⟨[.i x],rfl,λi f a=>?_⟩⟩;have b:i=0:=by have:=aD a;simp at this;omega
 subst b;simp at a;subst a;have:=h.iv j (.i x) (by simp[c]);simpa using this
def EI(l:List Int)(i:Nat)(v:Int):iK (l.map Ce.i) i [.i v]=(l.set i v).map Ce.i:=by simp[iK,th]
def iD.gF{a:Nat->Nat}{m:J}{k:Nat}{s:O}{l:List Int}(h:iD a m aI 1 k s (l.map Ce.i))(b:0<=i)(c:i<l.length)(v:Int):iD a (ah m s.E (s.off+i.toNat*1) [.i v]) aI 1 k s ((Go.Proofs.YtgnjacfobdjeeaaGreat.gF l i v).map Ce.i):=by
 have:=h.set (o:=i.toNat) (new:=[.i v]) bR;rw[EI]at this;rw[mW];exact this
def iD.OR{a:Nat->Nat}{m:J}{k:Nat}{s:O}{l:List Int}(h:iD a m aI 1 k s (l.map Ce.i))(b:0<=i)(c:i<l.length):dZ m s.E (s.off+i.toNat*1) 1:=by
 rw[mW];exact h.wr bR
def FB(m:J)(f:O)(l:List Int):Prop:=∃c tail,f=.mk f.E 0 f.len c/\cx m f.E aI (l.map Ce.i++tail)
def FN(N:Nat)(a:Nat->Nat)(m:J)(f:O)(l:List Int):Prop:=l≠[]->a f.E=0/\N<=f.E/\FB m f l
def Hh(N:Nat)(b:Nat->Nat)(m:J)(a:List Ce)(c:bQ):Prop:=∃f,a=[.i c.aS,.i c.kd,.s f]/\aq m f c.aR/\FN N b m f c.aR
def Vl(e:List (List Ce)):Prop:=∀(i j:Nat)(c d:List Ce)(a b:O),e[i]? =some c->e[j]? =some d->c[2]? =some (.s a)->d[2]? =some (.s b)->i≠j->a.len≠0->b.len≠0->a.E≠b.E
def Vl.nil:Vl []:=λi j c d a b h=>by simp at h
def dH(N:Nat)(b:Nat->Nat)(m:J)(c:O)(h:List bQ):Prop:=∃a,iD b m wZ 3 3 c a.flatten/\gH 3 (Hh N b m) a h/\Vl a
def Sy(a:Nat->Nat)(m:J)(i:Nat)(b:List Ce)(f:aW):Prop:=
 ∃r o h,b=[.i f.eu,.i f.pc,.i f.dst,.s r,.s o,.s h]/\iD a m aI 1 (10+3*i) r (f.ao.map Ce.i)/\iD a m aI 1 (11+3*i) o (f.aQ.map Ce.i)/\iD a m aI 1 (12+3*i) h (f.br.map Ce.i)
structure XV(ro:Nat->Nat)(m:J)(fr:O)(fs:List aW)(css:List (List Ce)):Prop where
 p7:iD ro m cQ 6 4 fr css.flatten
 len:css.length=fs.length
 size:∀cs∈css,cs.length=6
 dz:∀(i:Nat)(cs:List Ce)(f:aW),css[i]? =some cs->fs[i]? =some f->Sy ro m i cs f
def oJ(d:Nat->Nat)(m:J)(b:O)(c:List aW):Prop:=∃a,XV d m b c a
def gR{m b:J}{l:List Int}(h:aq m f l)(j:l≠[]->b[f.E]? =m[f.E]?):aq b f l:=by
 by_cases a:l=[]
 ·subst a;exact⟨h.len,h.cap,h.gV,aJ⟩
 ·exact⟨h.len,h.cap,h.gV,λo x n=>let⟨d,e,g⟩:=h.iv o x n;⟨d,e,λi c k=>by rw[aM (j a)];exact g i c k⟩⟩
def iB{m:J}{l:List Int}(h:aq m f l)(a:l≠[]):f.E<m.size:=by
 cases l with
 |nil=>exact absurd rfl a
 |cons b l=>exact mB (h.D (k:=0) (x:=b) rfl)
def Hh.gC{N:Nat}{k l:Nat->Nat}{m j:J}(c:eC p k m l j)(h:¬p 0)(e:List Ce)(d:bQ):Hh N k m e d->Hh N l j e d:=λ⟨f,q,b,i⟩=>
 ⟨f,q,gR b λa=>c.dO _ (iB b a) (by rw[(i a).1];exact h),λa=>by
  obtain⟨g1,g2,n,tail,o,g⟩:=i a;exact⟨by rw[c.jU _ (iB b a)];exact g1,g2,n,tail,o,g.congr (c.dO _ g.lt (by rw[g1];exact h))⟩⟩
def dH.gC{N:Nat}{p:Nat->Prop}{d e:Nat->Nat}{m c:J}{b:O}{h:List bQ}(n:dH N d m b h)(a:eC p d m e c)(g:¬p 0)(k:¬p 3):dH N e c b h:=by
 obtain⟨f,i,j,l⟩:=n;exact⟨f,i.gC a k,j.mono (Hh.gC a g),l⟩
def Sy.gC{p:Nat->Prop}{e g:Nat->Nat}{m d:J}(a:eC p e m g d){i:Nat}(b:∀k,10+3*i<=k->k<=12+3*i->¬p k){c:List Ce}{f:aW}:Sy e m i c f->Sy g d i c f:=λ⟨r,o,h,j,k,l,n⟩=>
 ⟨r,o,h,j,k.gC a (b _ V V),l.gC a (b _ V V),n.gC a (b _ V V)⟩
def oJ.gC{p:Nat->Prop}{g j:Nat->Nat}{m e:J}{a:O}{b:List aW}(r:oJ g m a b)(c:eC p g m j e)(d:∀k,(k=4\/10<=k)->¬p k):oJ j e a b:=by
 obtain⟨n,h⟩:=r;exact⟨n,h.p7.gC c (d 4 V),h.len,h.size,λi l f o q=>(h.dz i l f o q).gC c λk s _=>d k V⟩
structure rl(m0:J)(ro:Nat->Nat)(m:J)(mb e:Nat)(bx:List Ce)(bd hp fr:O)(lo:List Int)(lh:List bQ)(lf:List aW):Prop where
 ct:N m0 m
 iY:∀b,b<m0.size->ro b=0
 new:∀b,m.size<=b->ro b=0
 box:cx m mb e bx
 LI:ro mb=1
 bd:iD ro m aI 1 2 bd (lo.map Ce.i)
 heap:dH m0.size ro m hp lh
 aA:oJ ro m fr lf
section
variable{j:J}{b g:Nat->Nat}{a c:J}{d e:Nat}{h:List Ce}{bd l k:O}{r:List Int}{q:List bQ}{o:List aW}
def rl.ext(L:rl j b a d e h bd l k r q o)(g:N a c):rl j b c d e h bd l k r q o/\To b a b c:=by
 have f:∀p,eC p b a b c:=λp=>eC.fP p g L.new;exact⟨⟨L.ct.trans g,L.iY,(f (λ_=>False)).new,L.box.ext g,L.LI,L.bd.gC (f (λ_=>False)) id,L.heap.gC (f (λ_=>False)) id id,L.aA.gC (f (λ_=>False)) λ_ _=>id⟩,f _⟩
def rl.iJ(L:rl j b a d e h bd l k r q o)(i:Nat)(c:List Ce):rl j b (ah a d i c) d e (iK h i c) bd l k r q o/\To b a b (ah a d i c):=by
 have f:eC (λg=>g=1) b a b (ah a d i c):=eC.ah L.new L.LI _ _;have n:To b a b (ah a d i c):=f.mono λg p=>V;obtain⟨b1,b2⟩:=n.ct L.ct L.iY;exact⟨⟨b1,b2,f.new,cx.ah (m:=a) L.box,L.LI,L.bd.gC f bh,L.heap.gC f bh bh,L.aA.gC f λg p=>V⟩,n⟩
def rl.lP(L:rl j b a d e h bd l k r q o){i:Nat}(c:i+n<=h.length):dZ a d i n:=L.box.dZ c
def rl.fS(L:rl j b a d e h bd l k r q o)(f:eC (λi=>i=3\/i=5\/i=6) b a g c){m:O}{p:List bQ}(s:dH j.size g c m p):rl j g c d e h bd m k r p o/\To b a g c:=by
 have n:To b a g c:=f.mono λi t=>V;obtain⟨b1,b2⟩:=n.ct L.ct L.iY;exact⟨⟨b1,b2,f.new,L.box.congr (f.dO _ L.box.lt (by rw[L.LI];decide)),by rw[f.jU _ L.box.lt];exact L.LI,L.bd.gC f bh,s,L.aA.gC f λi t=>V⟩,n⟩
def rl.J0(L:rl j b a d e h bd l k r q o)(f:eC (λi=>i=2) b a g c){p:O}{n:List Int}(s:iD g c aI 1 2 p (n.map Ce.i)):rl j g c d e h p l k n q o/\To b a g c:=by
 have m:To b a g c:=f.mono λi t=>V;obtain⟨b1,b2⟩:=m.ct L.ct L.iY;exact⟨⟨b1,b2,f.new,L.box.congr (f.dO _ L.box.lt (by rw[L.LI];decide)),by rw[f.jU _ L.box.lt];exact L.LI,s,L.heap.gC f bh bh,L.aA.gC f λi t=>V⟩,m⟩
def rl.jb(L:rl j b a d e h bd l k r q o)(f:eC (λi=>4<=i/\i≠9) b a g c){m:O}{p:List aW}(s:oJ g c m p):rl j g c d e h bd l m r q p/\To b a g c:=by
 have n:To b a g c:=f.mono λi t=>V;obtain⟨b1,b2⟩:=n.ct L.ct L.iY;exact⟨⟨b1,b2,f.new,L.box.congr (f.dO _ L.box.lt (by rw[L.LI];decide)),by rw[f.jU _ L.box.lt];exact L.LI,L.bd.gC f bh,L.heap.gC f bh bh,s⟩,n⟩
end
end
section
variable{α:Type}{k:Nat}
def up{α:Type}(f:Nat->α)(k:Nat)(x:α):Nat->α:=λj=>if j=k then x else f j
@[simp] theorem Ft (f:Nat->α) (k:Nat) (x:α):up f k x k=x:=an rfl
def OO(f:Nat->α)(k:Nat)(x:α){j:Nat}(h:j≠k):up f k x j=f j:=ae h
def OC(a:Nat->O):List Ce:=[.s (a 0),.s (a 1),.s (a 2),.s (a 3),.s (a 4),.s (a 5),.s (a 6)]
def QU(a:Nat->O)(b:k<7):(OC a)[k]? =some (.s (a k)):=by
 rcases k with _|_|_|_|_|_|_|k<;>first|rfl|omega
def LQ(a:Nat->O)(b:k<7)(r:O):iK (OC a) k [.s r]=OC (up a k r):=by
 rcases k with _|_|_|_|_|_|_|k<;>first|rfl|omega
structure iE(ro:Nat->Nat)(m:J)(lb:Nat)(sl:Nat->O)(L:Nat->List Int):Prop where
 new:∀b,m.size<=b->ro b=0
 jU:ro lb=8
 box:cx m lb Az (OC sl)
 p7:∀k,k<7->iD ro m aI 1 (k+1) (sl k) ((L k).map Ce.i)
section
variable{d g:Nat->Nat}{a f:J}{c:Nat}{b:Nat->O}{L:Nat->List Int}
def iE.bV(h:iE d a c b L){k:Nat}(e:k<7):af a c k=some (O.v (b k)):=by
 rw[h.box.bV,QU b e];rfl
def iE.nu(h:iE d a c b L){k:Nat}(e:k<7)(f:(L k).length<=1000000000000):aq a (b k) (L k):=(h.p7 k e).nu V
def iE.len(h:iE d a c b L){k:Nat}(e:k<7):(b k).len=(L k).length:=by have:=(h.p7 k e).len;simp at this;omega
def iE.to(h:iE d a c b L):To d a d a:=eC.az _ h.new
def iE.ext(h:iE d a c b L)(e:N a f):iE d f c b L:=
 ⟨λi l=>h.new i (bX e.size l),h.jU,h.box.congr (e.same c h.box.lt),λk g=>(h.p7 k g).dO (λj=>e.same _ ((h.p7 k g).E j).1) λ_=>rfl⟩
def iE.jY(p:iE d a c b L)(s:k<7)(C:(L k).length<=1000000000000)(j:Int){K:O->J->Prop}
 (B:∀g r f,To d a g (ah f c k [.s r])->iE g (ah f c k [.s r]) c (up b k r) (up L k (L k++[j]))->K r f):
 jh (a.push (.cells (bC [.i j]) aI)) aI [.i 0] 8 (b k) (.mk a.size 0 1 1) λr f=>dZ f c k 1/\K r f:=by
 have z:=N.push a (.cells (bC [.i j]) aI)
 have h:=p.ext z
 have D:=p.len s
 refine iD.append (c:=[.i 0]) (d:=[.i j]) (h.p7 k s) h.new aJ ?_ (by simp only[O.jt];omega) λg r f v n=>?_
 ·exact(cx.push a (e:=aI) (l:=[.i j])).iv
 have x:cx f c Az (OC b):=h.box.congr (n.dO c h.box.lt (by simp only[h.jU];omega))
 have o:g c=8:=by rw[n.jU c h.box.lt,h.jU]
 have A:To d a g f:=(eC.fP _ z p.new).trans (n.mono λt y=>V)
 have u:To d a g (ah f c k [.s r]):=A.trans (eC.ah n.new (by simp only[o];omega) _ _)
 refine⟨x.dZ (by show k+1<=7;omega),B g r f u ⟨u.new,o,LQ b s r▸cx.ah (m:=f) x,λt y=>?_⟩⟩
 by_cases i:t=k
 ·subst i
  rw[Ft,Ft,fx]
  refine v.dO (λq=>bt _ _ _ _ λi=>?_) λ_=>rfl
  have:=(v.E q).2
  rw[i,o]at this;omega
 ·rw[OO _ _ _ i,OO _ _ _ i]
  have w:=(h.p7 t y).gC n V
  refine w.dO (λq=>bt _ _ _ _ λi=>?_) λ_=>rfl
  have:=(w.E q).2
  rw[i,o]at this;omega
def iE.put(h:iE d a c b L){i:Nat}(r:k<7)(n:i<(L k).length)(x:Int):
 dZ a (b k).E ((b k).off+i*1) 1/\iE d (ah a (b k).E ((b k).off+i*1) [.i x]) c b (up L k ((L k).set i x))/\To d a d (ah a (b k).E ((b k).off+i*1) [.i x]):=by
 have g:=h.p7 k r
 have s:(L k).map Ce.i≠[]:=λe=>by simp at e;rw[e]at n;simp at n
 have f:(b k).cap≠0:=λf=>s (g.xg f).1
 obtain⟨t,j⟩:=g.E f
 have l:To d a d (ah a (b k).E ((b k).off+i*1) [.i x]):=eC.ah h.new (by simp only[j];omega) _ _
 refine⟨g.wr bR,⟨l.new,h.jU,h.box.congr (bt _ _ _ _ λe=>by have:=h.jU;rw[e,j]at this;omega),λp q=>?_⟩,l⟩
 by_cases e:p=k
 ·subst e
  rw[Ft]
  have:=g.set (o:=i*1) (new:=[.i x]) bR
  rw[EI,mW]at this
  rw[mW];exact this
 ·rw[OO _ _ _ e]
  have m:=h.p7 p q
  refine m.dO (λf=>bt _ _ _ _ λe=>?_) λ_=>rfl
  have:=(m.E f).2
  rw[e,j]at this;omega
def iE.Vy(h:iE d a c b L)(j:k<7){r:O}{l:List Int}(o:iD d a aI 1 (k+1) r (l.map Ce.i)):
 dZ a c k 1/\iE d (ah a c k [.s r]) c (up b k r) (up L k l)/\To d a d (ah a c k [.s r]):=by
 have f:To d a d (ah a c k [.s r]):=eC.ah h.new (by simp only[h.jU];omega) _ _
 refine⟨h.box.dZ (by show k+1<=7;omega),⟨f.new,h.jU,LQ b j r▸cx.ah (m:=a) h.box,λn g=>?_⟩,f⟩
 have K:∀{i s l},iD d a aI 1 (i+1) s l->i<7->iD d (ah a c k [.s r]) aI 1 (i+1) s l:=λ{i s l} g' hk'=>by
  refine g'.dO (λp=>bt _ _ _ _ λe=>?_) λ_=>rfl;have:=(g'.E p).2;rw[e,h.jU]at this;omega
 by_cases e:n=k
 ·subst e
  rw[Ft,Ft];exact K o j
 ·rw[OO _ _ _ e,OO _ _ _ e];exact K (h.p7 n g) g
def iE.cut(h:iE d a c b L){k n:Nat}(e:k<7)(l:n<=(L k).length):
 n<=(b k).cap/\dZ a c k 1/\iE d (ah a c k [.s ((b k).cut 0 n 1)]) c (up b k ((b k).cut 0 n 1)) (up L k ((L k).take n))/\To d a d (ah a c k [.s ((b k).cut 0 n 1)]):=by
 have g:=h.p7 k e
 have i:=h.len e
 have j:=g.le
 have f:=g.cut (n:=n) V
 rw[mW,<-Ma]at f
 exact⟨V,h.Vy e f⟩
end
structure pF(ds:List bu)(n b:Nat)(L:Nat->List Int):Prop where
 len:∀k,k<6->(L k).length=n
 Vw:∀(v:Nat)(p:Int),(L 2)[v]? =some p->p<v
 Nq:∀(v:Nat)(c f:Int),(L 3)[v]? =some c->(L 4)[v]? =some f->0<=c->0<=f/\f+((cz ds c).length:Int)<=b
 cG:(L 6).length<=1000000000000
abbrev rG(a:List bu)(n:Nat)(L:Nat->List Int):Prop:=pF a n n L
def Jw(L:Nat->List Int)(t o p:Int):Nat->List Int:=up (up (up (up (up (up L 0 (L 0++[t])) 1 (L 1++[o])) 2 (L 2++[p])) 3 (L 3++[-1])) 4 (L 4++[-1])) 5 (L 5++[-1])
def zO{j:Nat->Nat}{m:J}{b:Nat}{x:Nat->O}{L:Nat->List Int}(h:iE j m b x L)(a:∀k,k<6->(L k).length<=1000000000000)(t o p:Int):
 aL cp 262 [vp b 0,vi t,vi o,vi p] m λ_ i=>∃l y,To j m l i/\iE l i b y (Jw L t o p):=by
 apply wK (b,0)
 simp -zeta only[cO]
 refine⟨_,h.bV (k:=0) bh,?_⟩
 intro z
 refine h.jY (k:=0) bh (a 0 bh) t λN U F n c=>⟨_,c.bV (k:=1) bh,?_⟩
 intro A
 refine c.jY (k:=1) bh (a 1 bh) o λP V G q d=>⟨_,d.bV (k:=2) bh,?_⟩
 intro B
 refine d.jY (k:=2) bh (a 2 bh) p λQ W H r e=>⟨_,e.bV (k:=3) bh,?_⟩
 intro C
 refine e.jY (k:=3) bh (a 3 bh) (-1) λR X I s f=>⟨_,f.bV (k:=4) bh,?_⟩
 intro D
 refine f.jY (k:=4) bh (a 4 bh) (-1) λS Y K u g=>⟨_,g.bV (k:=5) bh,?_⟩
 intro E
 exact g.jY (k:=5) bh (a 5 bh) (-1) λT Z M v w=>⟨_,_,((((n.trans q).trans r).trans s).trans u).trans v,w⟩
end
section
variable{a:List Int}{e:Nat->Nat}{d:J}{P:(Nat->List Int)->Prop}{b:Nat}{v:Int}
def GI.bd{S:List Nat}{p o:J}{s:O}(h:GI S p o s a):ij p o aI 1 s (a.map Ce.i):=by
 have w:=h.len bh;obtain⟨u,e,q,b⟩:=h;have v:e.flatten.length=a.length:=by rw[df b.size,b.len];omega
 have t:e.flatten=a.map Ce.i:=by
  apply iT;intro f;rcases bA f a.length with d|d
  ·obtain⟨x,n⟩:=ag d;obtain⟨g,m⟩:=ag (l:=e) (k:=f) (by rw[b.len];exact d);have r:g=[.i x]:=b.dz f g x m n;have j:=iy (g:=1) b.size m (i:=0) (c:=.i x) (by rw[r];rfl);simp only[mW,jF]at j;rw[j];simp[n]
  ·rw[di V,di (by simpa using d)]
 rw[<-t];exact q
def AY(f:Nat->Nat)(m:J)(c:Nat)(P:(Nat->List Int)->Prop)(v:Value)(d:J):Prop:=∃(b:Bool)(e:Nat->Nat),v=vb b/\To f m e d/\(b=true->∃g a,iE e d c g a/\P a)
def AY.no{a:Nat->Nat}{m:J}{b:Nat}(h:To a m e d):AY a m b P (vb false) d:=⟨false,e,rfl,h,aJ⟩
def AY.Nt{b:Nat->Nat}{m:J}{a:Nat}{c:Nat->O}{L:Nat->List Int}(h:To b m e d)(f:iE e d a c L)(g:P L):AY b m a P (vb true) d:=⟨true,e,rfl,h,λ_=>⟨c,L,f,g⟩⟩
def AY.mono{c:Nat->Nat}{m:J}{a:Nat}{Q:(Nat->List Int)->Prop}{v:Value}(h:AY c m a P v d)(n:∀L,P L->Q L):AY c m a Q v d:=let⟨b,e,f,g,i⟩:=h;⟨b,e,f,g,λl=>let⟨o,L,j,k⟩:=i l;⟨o,L,j,n L k⟩⟩
def pF.aQ{c:List bu}{n:Nat}{L:Nat->List Int}(h:pF c n b L)(i:a.length=n):pF c n b (up L 1 a):=
 ⟨λk g=>by by_cases e:k=1<;>simp_all [up,h.len k],λv p=>by simpa[up]using h.Vw v p,λv d f=>by simpa[up]using h.Nq v d f,by simpa[up]using h.cG⟩
def pF.YR{c:List bu}{n:Nat}{L:Nat->List Int}(h:pF c n b L)(i:a.length=n):pF c n b (up L 5 a):=
 ⟨λk g=>by by_cases e:k=5<;>simp_all [up,h.len k],λv p=>by simpa[up]using h.Vw v p,λv d f=>by simpa[up]using h.Nq v d f,by simpa[up]using h.cG⟩
def Ju{c x:Int}{v:Nat}(h:(a++[c])[v]? =some x):a[v]? =some x\/v=a.length/\x=c:=by
 rcases bA v a.length with b|b
 ·rw[aw b]at h;exact Or.inl h
 ·rw[aF b]at h;have:=aD h;simp at this;have e:v=a.length:=V;subst e;simp at h;exact Or.inr ⟨rfl,h.symm⟩
def pF.CD{c:List bu}{n a:Nat}{L:Nat->List Int}(h:pF c n b L)(j:b<=a):pF c n a L:=
 ⟨h.len,h.Vw,λv d f g i e=>by have:=h.Nq v d f g i e;omega,h.cG⟩
def pF.Mx{f:List bu}{n:Nat}{L:Nat->List Int}(h:pF f n b L)(u t:Int){p:Int}(r:p<n):pF f (n+1) b (Jw L u t p):=by
 have a:=h.len;refine⟨λk w=>?_,λv q s=>?_,λv e g j m i=>?_,by simpa[Jw,up]using h.cG⟩
 ·rcases k with _|_|_|_|_|_|k<;>first|omega|(simp[Jw,up,a])
 ·have d:(L 2++[p])[v]? =some q:=by simpa[Jw,up]using s
  rcases Ju d with c|⟨rfl,rfl⟩
  ·exact h.Vw v q c
  ·rw[a 2 bh];exact r
 ·have l:(L 3++[-1])[v]? =some e:=by simpa[Jw,up]using j
  have o:(L 4++[-1])[v]? =some g:=by simpa[Jw,up]using m
  rcases Ju l with c|⟨rfl,rfl⟩
  ·rcases Ju o with d|⟨d,rfl⟩
   ·have:=h.Nq v e g c d i;omega
   ·have:=aD c;rw[a 4 bh]at d;rw[a 3 bh]at this;omega
  ·omega
section
variable{g:Nat->Nat}{m:J}{f:Nat}{h:Nat->O}{L:Nat->List Int}{j:List bu}{c:Nat}
def iE.D(a:iE g m f h L){k:Nat}(c:k<7)(d:(L k).length<=1000000000000){i:Nat}{x:Int}(b:(L k)[i]? =some x):af m (h k).E ((h k).off+i*1)=some (vi x):=(a.nu c d).D b
def tY(b:iE g m f h L)(r:rG j c L)(y:c<=1000000000000)(d:0<=v)(t:v<c):aL cp 263 [vp f 0,vi v] m (AY g m f λe=>∃a:List Int,a.length=c/\e=up L 1 a):=by
 apply wN (f,0);simp -zeta only[cO];have p:=r.len 1 bh;have u:=b.len (k:=1) bh;obtain⟨x,s⟩:=ag (l:=L 1) (k:=v.toNat) V;have n:=b.D bh V s;have e:=b.bV (k:=1) bh;obtain⟨w,q,o⟩:=b.put (k:=1) (i:=v.toNat) bh V (cR (x -1));exact⟨_,e,d,V,x,n,λ_=>.no b.to,λ_=>⟨_,e,_,e,d,V,x,n,d,V,w,.Nt o q ⟨_,by simp[p],rfl⟩⟩⟩
def rR(r:iE g m f h L)(i:rG j c L)(u:c<=1000000000000)(e:0<=v)(p:v<c):od 223 [vp f 0,vi v] m:=by
 apply vG (f,0);refine⟨λv d=>0<=v/\v<(c:Int)/\N m d,λv _=>v.toNat,⟨e,p,N.az _⟩,?_⟩;rintro v B ⟨e,p,a⟩;have H:=r.ext a;have z:=H.len (k:=1) bh;have A:=H.len (k:=2) bh;have D:=i.len 1 bh;have E:=i.len 2 bh;obtain⟨x,t⟩:=ag (l:=L 1) (k:=v.toNat) V;obtain⟨y,q⟩:=ag (l:=L 2) (k:=v.toNat) V;have w:=i.Vw _ _ q;refine⟨_,H.bV (k:=1) bh,e,V,x,H.D bh V t,λ_=>⟨_,H.bV (k:=6) bh,?_⟩,λ_=>rA a⟩;refine(dj (H.nu (k:=6) bh i.cG) v).then λb C _ n=>⟨_,rfl,λ_=>?_,λ_=>rA (a.trans n)⟩;have o:=H.ext n;refine⟨_,o.bV (k:=2) bh,e,V,y,o.D bh V q,λ_=>rA (a.trans n),λs=>?_⟩;simp only[bU]at s;exact⟨⟨V,V,a.trans n⟩,by show y.toNat<v.toNat;omega⟩
def J7(i:iE g m f h L)(w:rG j c L)(S:c<=1000000000000){b:Nat}(I:b<=c):aL cp 336 [vp f 0,vi b] m (AY g m f λe=>(∀o,o<6->(e o).length=b)/\(e 6).length<=1000000000000):=by
 apply ye (f,0);simp -zeta only[cO];refine⟨λv d=>(b:Int)<=v/\v<=c/\d=m,λv _=>((c:Int) -v).toNat,⟨V,V,rfl⟩,?_⟩;rintro v X ⟨Q,q,rfl⟩;have p:=λo(H:o<6)=>i.len (k:=o) V;have e:=w.len;have T:=p 0 bh;have U:=p 1 bh;have W:=p 5 bh;have n0:=e 0 bh;have n1:=e 1 bh;have n5:=e 5 bh;refine⟨_,i.bV (k:=0) bh,λx=>?_,λx=>?_⟩
 ·simp only[au]at x;obtain⟨t,r⟩:=ag (l:=L 1) (k:=v.toNat) V;obtain⟨y,s⟩:=ag (l:=L 5) (k:=v.toNat) V;refine⟨_,i.bV (k:=1) bh,V,V,t,i.D bh V r,λ_=>.no i.to,λ_=>⟨_,i.bV (k:=5) bh,V,V,y,i.D bh V s,λ_=>.no i.to,λ_=>?_⟩⟩;rw[aP V V];exact⟨⟨V,V,rfl⟩,by show((c:Int) -(v+1)).toNat<((c:Int) -v).toNat;omega⟩
 ·have tk:∀{a:List Int},a.length=c->(a.take b).length=b:=λR=>bR;have E:Int.toNat (0:Int)=0:=rfl;have F:Int.toNat (b:Int)=b:=V;rw[E,F];obtain⟨p1,J,q,y⟩:=i.cut (k:=0) (n:=b) bh (by rw[e 0 bh];exact I);refine⟨_,i.bV (k:=0) bh,V,V,V,J,?_⟩;intro Y;obtain⟨p2,K,r,z⟩:=q.cut (k:=1) (n:=b) bh (by simp[up,e];omega);refine⟨_,q.bV (k:=1) bh,V,V,V,K,?_⟩;intro Z;obtain⟨p3,M,s,A⟩:=r.cut (k:=2) (n:=b) bh (by simp[up,e];omega);refine⟨_,r.bV (k:=2) bh,V,V,V,M,?_⟩;intro m4;obtain⟨p4,N,t,B⟩:=s.cut (k:=3) (n:=b) bh (by simp[up,e];omega);refine⟨_,s.bV (k:=3) bh,V,V,V,N,?_⟩;intro m5;obtain⟨p5,O,u,C⟩:=t.cut (k:=4) (n:=b) bh (by simp[up,e];omega);refine⟨_,t.bV (k:=4) bh,V,V,V,O,?_⟩;intro m6;obtain⟨p6,P,G,D⟩:=u.cut (k:=5) (n:=b) bh (by simp[up,e];omega);refine⟨_,u.bV (k:=5) bh,V,V,V,P,?_⟩;intro m7;refine AY.Nt (((((y.trans z).trans A).trans B).trans C).trans D) G ⟨λo H=>?_,?_⟩
  ·rcases o with _|_|_|_|_|_|o<;>first|omega|(simp[up,e];omega)
  ·simpa[up]using w.cG
end
end
section
variable{a:Nat->Nat}{m d c:J}{X:List Nat}
def V8(m:J)(P:(Nat->List Int)->Prop)(v:Value)(c:J):Prop:=∃d,v=vp d 0/\N m c/\∃a e L,(∀b,b<m.size->a b=0)/\iE a c d e L/\P L
def KX{r:Nat}{sl:Nat->O}{L:Nat->List Int}(h:iE a m r sl L)(S:∀b,b<7->(L b).length<=1000000000000):
 aL cp 323 [vp r 0] m (V8 m λc=>∀b,b<7->c b=L b):=by
 apply uD (r,0)
 simp -zeta only[cO]
 refine⟨_,h.bV (k:=0) bh,_,h.bV (k:=1) bh,_,h.bV (k:=2) bh,_,h.bV (k:=3) bh,_,h.bV (k:=4) bh,_,h.bV (k:=5) bh,_,h.bV (k:=6) bh,?_⟩
 have C:∀{M:J}(b:Nat),b<7->N m M->ku 57 [O.v (sl b)] M [] (L b=·):=λb y x=>bN [] ((h.ext x).nu y (S b y)) (S b y)
 have E:∀{M G:J},N m M->N M G->∀z,af G r z=af M r z:=λx x' z=>aM (x'.same r (x.lt h.box.lt)) z
 have g:=N.az m
 refine(C 0 bh g).then λU _ m1 H e c=>⟨_,rfl,E g c _,E g c _,E g c _,E g c _,E g c _,E g c _,?_⟩
 subst e
 refine(C 1 bh c).then λW _ m2 g1 e i=>⟨_,rfl,E c i _,E c i _,E c i _,E c i _,E c i _,?_⟩
 subst e
 have t:=c.trans i
 refine(C 2 bh t).then λX _ m3 g2 e j=>⟨_,rfl,E t j _,E t j _,E t j _,E t j _,?_⟩
 subst e
 have w:=t.trans j
 refine(C 3 bh w).then λY _ m4 I e l=>⟨_,rfl,E w l _,E w l _,E w l _,?_⟩
 subst e
 have B:=w.trans l
 refine(C 4 bh B).then λZ _ m5 K e n=>⟨_,rfl,E B n _,E B n _,?_⟩
 subst e
 have F:=B.trans n
 refine(C 5 bh F).then λs5 _ m6 P e o=>⟨_,rfl,E F o _,?_⟩
 subst e
 have u6:=F.trans o
 refine(C 6 bh u6).then λs6 _ u Q e p=>⟨_,rfl,?_⟩
 subst e
 intro v
 have q:N u v:=N.push _ _
 have z0:=g.size;have z1:=c.size;have z2:=i.size;have z3:=j.size;have z4:=l.size;have z5:=n.size;have z6:=o.size;have z7:=p.size
 have s8:v.size=u.size+1:=by simp[v]
 have y0:=H.be;have y1:=g1.be;have y2:=g2.be;have y3:=I.be;have y4:=K.be;have y5:=P.be;have y6:=Q.be
 let d:Nat->Nat:=λf=>if f<m.size then 0 else if f<m1.size then 1 else if f<m2.size then 2 else if f<m3.size then 3 else if f<m4.size then 4 else if f<m5.size then 5 else if f<m6.size then 6 else if f<u.size then 7 else if f=u.size then 8 else 0
 let ab:Nat->O:=λb=>if b=0 then U else if b=1 then W else if b=2 then X else if b=3 then Y else if b=4 then Z else if b=5 then s5 else s6
 have A:∀{m0 M:J}{D:O}{T:List Int}{b:Nat},GI [] m0 M D T->N M v->d D.E=b->iD d v aI 1 b D (T.map Ce.i):=λaa x hr=>iD.gQ (aa.bd.ext x) λ_=>hr
 refine⟨u.size,rfl,u6.trans (p.trans q),d,ab,L,λf R=>an R,⟨λf R=>?_,?_,cx.push _ _ _,λb y=>?_⟩,λ_ _=>rfl⟩
 ·simp only[d]
  repeat rw[ae V]
 ·simp only[d]
  repeat rw[ae V]
  simp
 ·rcases b with _|_|_|_|_|_|_|b
  ·exact A (D:=U) (b:=1) H (i.trans (j.trans (l.trans (n.trans (o.trans (p.trans q)))))) (by simp only[d];rw[ae V,an V])
  ·exact A (D:=W) (b:=2) g1 (j.trans (l.trans (n.trans (o.trans (p.trans q))))) (by simp only[d];rw[ae V,ae V,an V])
  ·exact A (D:=X) (b:=3) g2 (l.trans (n.trans (o.trans (p.trans q)))) (by simp only[d];rw[ae V,ae V,ae V,an V])
  ·exact A (D:=Y) (b:=4) I (n.trans (o.trans (p.trans q))) (by simp only[d];rw[ae V,ae V,ae V,ae V,an V])
  ·exact A (D:=Z) (b:=5) K (o.trans (p.trans q)) (by simp only[d];rw[ae V,ae V,ae V,ae V,ae V,an V])
  ·exact A (D:=s5) (b:=6) P (p.trans q) (by simp only[d];rw[ae V,ae V,ae V,ae V,ae V,ae V,an V])
  ·exact A (D:=s6) (b:=7) Q q (by simp only[d];rw[ae V,ae V,ae V,ae V,ae V,ae V,ae V,an V])
  ·omega
structure FC(d:J)(X:List Nat)(a:Nat->Nat)(m:J):Prop where
 ext:N d m
 fW:∀b,b<d.size->a b=0
 box:∀b∈X,b<m.size/\a b=0
def FC.to{g:Nat->Nat}(h:FC d X a m)(e:To a m g c):FC d X g c:=by
 obtain⟨i,j⟩:=e.ct h.ext h.fW;exact⟨i,j,λb f=>⟨aO (h.box b f).1 e.size,by rw[e.jU b (h.box b f).1];exact(h.box b f).2⟩⟩
def FC.dv{d m c:J}{X:List Nat}{a e:Nat->Nat}(h:FC d X a m)(b:To a m e c):dR X m c:=b.dv h.box
def FC.jB(h:FC d X a m)(x:N m c):FC d X a c:=⟨h.ext.trans x,h.fW,λb e=>⟨x.lt (h.box b e).1,(h.box b e).2⟩⟩
def GK{s P ac:O}{q:gB}(u:aq m s q.params)(K:aq m P q.cG)(ai:q.params.length<=3)(ah:q.cG.length<=3)(B:List bu):
 aL cp 241 [.agg #[O.v s,O.v P,vi q.aV,O.v ac,vi q.body.aV]] m (V8 m (rG B q.params.length)):=by
 apply zX
 simp -zeta only[aC,aB]
 intro f
 have z:N m f:=N.push _ _
 have s1:f.size=m.size+1:=by simp[f]
 have Y:∀d∈[m.size],d<f.size:=by simp[f]
 clear_value f
 refine(bN [] (K.ext z) V).aK (N.az f) Y λs6 _ g I r Q _=>⟨_,rfl,?_⟩
 subst r
 intro v
 have R:N g v:=N.push _ _
 have s3:v.size=g.size+1:=by simp[v]
 have z2:=Q.size
 have y6:=I.be
 let i:Nat->Nat:=λd=>if d<f.size then 0 else if d<g.size then 7 else if d=g.size then 8 else 0
 let e:Nat->List Int:=λb=>if b<6 then[]else q.cG
 let t:Nat->O:=λb=>if b<6 then .nil else s6
 have T:iE i v g.size t e:=by
  refine⟨λd p=>?_,?_,cx.push _ _ _,λb E=>?_⟩
  ·simp only[i];repeat rw[ae V]
  ·simp only[i];repeat rw[ae V]
   simp
  ·by_cases h:b<6
   ·simp only[t,e,an h];exact⟨aJ,aJ,Or.inl rfl⟩
   ·have r:b=6:=V;subst r;simp only[t,e,ae h];refine iD.gQ (I.bd.ext R) λ_=>?_;simp only[i];rw[ae V,an V]
 have W:rG B 0 e:=by
  refine⟨λb E=>by simp only[e,an E];rfl,λh s u=>by simp[e]at u,λh o j C=>by simp[e]at C,by simp[e];omega⟩
 have fW:∀d,d<f.size->i d=0:=λd p=>an p
 clear_value i e t
 have aj:=u.len
 refine fB (n:=q.params.length) V (λb M=>∃a F L,FC f [m.size] a M/\iE a M g.size F L/\rG B b L) ⟨i,t,e,⟨Q.trans R,fW,λd p=>by simp at p;subst p;exact⟨V,fW _ V⟩⟩,T,W⟩ ?_
 rintro b M U μ E ⟨a,F,L,j,H,D⟩ ab
 refine dit (λX=>?_) λX=>?_
 ·obtain⟨y,Z⟩:=ag (l:=q.params) (k:=b) V
  have A:∀(w:Int){h:J},N M h->aL cp 262 [vp g.size 0,vi y,vi w,vi (-1:Int)] h λ_ c=>dR [m.size] h c/\U (cR ((b:Int)+1)) c/\μ (cR ((b:Int)+1)) c<μ b M:=λw h x=>
   (zO (H.ext x) (λaa S=>by rw[D.len aa S];omega) y w (-1)).mono λ_ c⟨aa,ad,o,S⟩=>⟨(j.jB x).dv o,ab V _ ⟨aa,ad,_,(j.jB x).to o,S,(D.Mx y w V).CD V⟩⟩
  have G:∀{h:J},N M h->af h s.E (s.off+Int.toNat (b:Int)*1)=some (vi y):=λx=>(u.ext (z.trans (j.ext.trans x))).D Z
  refine⟨V,V,y,G (N.az _),λ_=>?_,λ_=>⟨V,V,y,G (N.az _),A 0 (N.az _)⟩⟩
  refine(dj (K.ext (z.trans j.ext)) (b:Int)).then λd M2 _ x=>⟨λo C=>x.same o (j.box o C).1,_,rfl,λ_=>⟨V,V,y,G x,A 1 x⟩,λ_=>⟨V,V,y,G x,A 0 x⟩⟩
 ·have r:b=q.params.length:=V
  subst r
  exact⟨g.size,rfl,z.trans j.ext,a,F,L,λd p=>j.fW d V,H,D⟩
end
section
def iE.TQ{b:Nat->Nat}{m f:J}{q:Nat}{a:Nat->O}{L:Nat->List Int}(h:iE b m q a L)(fW:∀c,c<f.size->b c=0){k p:Nat}(l:k<7)(c:p<(L k).length):f.size<=(a k).E/\(a k).E<m.size/\b (a k).E=k+1:=by
 have g:=h.p7 k l;have o:(L k).map Ce.i≠[]:=λe=>by simp at e;rw[e]at c;simp at c
 obtain⟨j,d⟩:=g.E λi=>o (g.xg i).1;refine⟨uL λn=>?_,j,d⟩;rw[fW _ n]at d;omega
def FC.Rt{c m a g:J}{d:Nat->Nat}{o1 o2:Obj}(j:N c m)(fW:∀b,b<c.size->d b=0)(k:∀b,m.size<=b->d b=0)(e:a=m.push o1)(h:g=a.push o2):FC c [a.size,m.size] d g:=by
 obtain⟨l,i⟩:=dF e h;subst e;exact⟨j.trans l,fW,λb f=>⟨i b f,k b (by simp at f;omega)⟩⟩
section
variable{e:Nat->Nat}{m b:J}{g:Nat}{q:Nat->O}{L:Nat->List Int}{f:List bu}{o:List gB}{h:Nat}{d r a p:O}{x:cK}{c:Prop}{s:Nat}
def OF(hx:N b m)(fW:∀v,v<b.size->e v=0)(K:iE e m g q L)(P:rG f h L)(hn:h<=1000000000000)(hN:eg b d r f o)(ha:aq b a x.args)(hf:SJ f s c h x)(ap:14<=x.op):
 aL cp 264 [vp g 0,.agg #[O.v d,O.v r],oG x a p] m (AY e m g (rG f h)):=by
 apply wL (g,0)
 simp -zeta only[aC,aB,cO]
 intro Q R
 have st:=FC.Rt (a:=Q) (g:=R) hx fW K.new rfl rfl
 have x2:N m R:=(dF (a:=Q) (c:=R) rfl rfl).1
 have X:To e m e R:=eC.fP _ x2 K.new
 clear_value R
 clear_value Q
 have E:=K.ext x2
 have aF:=ha.len
 have aE:=hf.jZ (Or.inl ap)
 obtain⟨B,hy⟩:=ag (l:=x.args) (k:=0) V
 obtain⟨G,y1⟩:=hf.args B (av hy)
 have W:=P.len
 have n1:=W 1 bh;have n3:=W 3 bh;have n4:=W 4 bh;have n5:=W 5 bh
 have l3:=E.len (k:=3) bh;have l5:=E.len (k:=5) bh
 obtain⟨C,af⟩:=ag (l:=L 3) (k:=B.toNat) V
 obtain⟨w,ai⟩:=ag (l:=L 4) (k:=B.toNat) V
 obtain⟨tk,aw⟩:=ag (l:=L 5) (k:=B.toNat) V
 refine⟨bh,V,B,(ha.ext st.ext).D hy,?_⟩
 refine⟨λM=>0<=C/\∃S ah t,t.length=h/\To e m S M/\FC b [Q.size,m.size] S M/\iE S M g ah (up L 1 t),?_,?_⟩
 ·refine⟨_,E.bV (k:=3) bh,G,V,C,E.D bh V af,λ_=>.no X,λu=>?_⟩
  simp only[bU]at u
  refine⟨λ_=>⟨_,E.bV (k:=5) bh,G,V,tk,E.D bh V aw,λ_=>.no X,λ_=>?_⟩,λ_=>?_⟩<;>
  ·refine(tY E P hn G y1).mono λaA m3⟨v,S,ad,H,z⟩=>⟨st.dv H,v,ad,λD=>.no (X.trans H),λD=>?_⟩
   obtain⟨ah,y,h4,t,hl,rfl⟩:=z (by simpa using D)
   exact⟨V,S,ah,t,hl,X.trans H,st.to H,h4⟩
 ·rintro m3 ⟨an,ab,F,t,hl,H,T,z⟩
  have e3:(up L 1 t) 3=L 3:=rfl
  have e4:(up L 1 t) 4=L 4:=rfl
  have e5:(up L 1 t) 5=L 5:=rfl
  have e1:(up L 1 t) 1=t:=rfl
  have ax:=z.len (k:=3) bh
  rw[e3]at ax
  obtain⟨f0,f1⟩:=P.Nq B.toNat C w af ai an
  refine⟨_,z.bV (k:=3) bh,G,V,C,z.D bh (by rw[e3];omega) af,?_⟩
  have A1:=z.TQ (f:=b) T.fW (k:=1) (p:=B.toNat) bh (by rw[e1];omega)
  have A5:=z.TQ (f:=b) T.fW (k:=5) (p:=B.toNat) bh (by rw[e5];omega)
  have hS:∀v∈[(F 1).E,(F 5).E],v<m3.size:=λv D=>by simp at D;omega
  have am:∀{M:J},N b M->Le b (bM [(F 1).E,(F 5).E] M):=λxx=>(zc b).trans (xx.bM λv D=>Or.inr (by simp at D;omega))
  refine(dC hS (hN.aT.le (am T.ext)) hN.types C).mono λaA m4⟨al,fl,ad,hs,ao,x4⟩=>⟨λv D=>x4.same v (T.box v D).1,al,ad,?_⟩
  subst ao
  have h4:=z.ext x4
  have az:=T.jB x4
  have c4:To e m ab m4:=H.trans (eC.fP _ x4 z.new)
  have aH:=hs.len
  have f3:=Ek hN.types C
  refine fB (n:=(cz f C).length) V (λA M=>∃t,t.length=h/\To e m ab M/\FC b [Q.size,m.size] ab M/\iE ab M g F (up L 1 t)/\Fz [(F 1).E,(F 5).E] m4 M) ⟨t,hl,c4,az,h4,Fz.az _ _⟩ ?_
  rintro A M aD μ aG ⟨y,aa,Y,ac,u,ae⟩ ak
  have ar:=hs.le (ae.cW λ_ K=>K)
  refine⟨λaj=>?_,λaj=>?_⟩
  ·simp only[au]at aj
   obtain⟨ay,hz⟩:=ag (l:=cz f C) (k:=A) V
   refine⟨V,V,ay,(ar.le (bG _ _)).D hz,λ_=>?_,λ_=>ak V _ ⟨y,aa,Y,ac,u,ae⟩⟩
   have E3:(up L 1 y) 4=L 4:=rfl
   have E1:(up L 1 y) 1=y:=rfl
   have G1:=u.bV (k:=1) bh
   have G4:=u.bV (k:=4) bh
   have l4:=u.len (k:=4) bh
   have l1:=u.len (k:=1) bh
   rw[E3]at l4;rw[E1]at l1
   have V4:=u.D (k:=4) bh (by rw[E3];omega) ai
   have ew:cR (w+(A:Int))=w+A:=aP V V
   obtain⟨U,hw⟩:=ag (l:=y) (k:=(w+(A:Int)).toNat) V
   obtain⟨wr,Z,I⟩:=u.put (k:=1) (i:=(w+(A:Int)).toNat) bh (by rw[E1];omega) (cR (U+1))
   refine⟨_,G1,_,G4,G,V,w,V4,_,G1,_,G4,G,V,w,V4,?_⟩
   rw[ew]
   refine⟨V,V,U,u.D (k:=1) bh (by rw[E1];omega) hw,V,V,wr,ac.dv I,ak V _ ⟨y.set (w+(A:Int)).toNat (cR (U+1)),by simp[aa],Y.trans I,ac.to I,?_,ae.ah (Or.inl aJ) _ _⟩⟩
   have:up (up L 1 y) 1 ((up L 1 y) 1|>.set (w+(A:Int)).toNat (cR (U+1)))=up L 1 (y.set (w+(A:Int)).toNat (cR (U+1))):=by funext j;simp only[up];split<;>rfl
   rw[this]at Z;exact Z
  ·refine⟨λ_=>?_,λ_=>.Nt Y u (P.aQ aa)⟩
   have U:(up L 1 y) 5=L 5:=rfl
   have ay:=u.len (k:=5) bh
   rw[U]at ay
   obtain⟨wr,Z,I⟩:=u.put (k:=5) (i:=B.toNat) bh (by rw[U];omega) (al.len:Int)
   exact⟨_,u.bV (k:=5) bh,G,V,wr,ac.dv I,.Nt (Y.trans I) Z ((P.aQ aa).YR (by rw[U];simp[n5]))⟩
def Ih(hx:N b m)(fW:∀j,j<b.size->e j=0)(R:iE e m g q L)(hi:rG f h L)(hn:h<=1000000000000)(hN:eg b d r f o)(C:aq b a x.args)(E:SJ f o.length c h x):
 aL cp 266 [vp g 0,.agg #[O.v d,O.v r],oG x a p] m (AY e m g (rG f h)):=by
 apply sS (g,0)
 simp -zeta only[aC,aB,cO]
 intro K H
 have st:=FC.Rt (a:=K) (g:=H) hx fW R.new rfl rfl
 have x2:N m H:=(dF (a:=K) (c:=H) rfl rfl).1
 have c2:To e m e H:=eC.fP _ x2 R.new
 clear_value H
 clear_value K
 have h2:=R.ext x2
 have ab:=C.len
 have aa:∀{M:J},N b M->At M d r a p f o x:=λxx=>⟨hN.le xx.le,C.ext xx,E.call⟩
 refine fB (n:=x.args.length) (ab▸C.gV) (λ_ M=>∃u U P,rG f h P/\To e m u M/\FC b [K.size,m.size] u M/\iE u M g U P) ⟨e,q,L,hi,c2,st,h2⟩ ?_
 rintro ac M ai μ aj ⟨T,ah,Z,w,Q,D,t⟩ ae
 refine⟨λF=>?_,λF=>?_⟩
 ·simp only[au]at F
  obtain⟨I,G⟩:=ag (l:=x.args) (k:=ac) V
  obtain⟨X,Y⟩:=E.args I (av G)
  have N0:=w.len 0 bh
  refine⟨_,t.bV (k:=0) bh,?_⟩
  refine(mg (aa D.ext) (t.nu (k:=0) bh V) (by rw[N0];exact E.args) (j:=ac) V).mono λW m4⟨j,A,s⟩=>⟨λj v=>s.same j (D.box j v).1,j,A,λ_=>⟨V,V,I,(C.ext (D.ext.trans s)).D G,?_⟩,λ_=>?_⟩
  ·have y:=D.jB s
   have z:To e m T m4:=Q.trans (eC.fP _ s t.new)
   refine(tY (t.ext s) w hn X Y).mono λW m5⟨j,u,A,B,h5⟩=>⟨y.dv B,j,A,λv=>.no (z.trans B),λv=>?_⟩
   obtain⟨U,P,S,ad,hl,rfl⟩:=h5 (by simpa using v)
   exact ae V _ ⟨u,U,_,w.aQ hl,z.trans B,y.to B,S⟩
  ·exact ae V _ ⟨T,ah,Z,w,Q.trans (eC.fP _ s t.new),D.jB s,t.ext s⟩
 ·refine fB (n:=x.args.length) (ab▸C.gV) (λ_ u=>N M u) (N.az _) ?_
  rintro U M4 I4 μ4 ak s ad
  have y:=D.jB s
  have z:To e m T M4:=Q.trans (eC.fP _ s t.new)
  have u:=t.ext s
  refine⟨λF=>?_,λF=>⟨λaf=>?_,λ_=>.Nt z u w⟩⟩
  ·simp only[au]at F
   obtain⟨I,G⟩:=ag (l:=x.args) (k:=U) V
   obtain⟨X,Y⟩:=E.args I (av G)
   refine(nE (aa y.ext) (U:Int)).mono λW m5⟨j,A,B⟩=>⟨λj v=>B.same j (y.box j v).1,j,A,λ_=>⟨V,V,I,(C.ext (y.ext.trans B)).D G,?_⟩,λ_=>ad V _ (s.trans B)⟩
   refine(rR (u.ext B) w hn X Y).mono λW m6⟨j,A,P⟩=>⟨λj v=>P.same j (B.lt (y.box j v).1),j,A,λ_=>.no (z.trans (eC.fP _ (B.trans P) u.new)),λ_=>ad V _ ((s.trans B).trans P)⟩
  ·simp only[au]at af
   have I:=E.bH
   have v:=w.len 5 bh
   have P:=u.len (k:=5) bh
   have A:cR (x.bH -1)=x.bH -1:=aP V V
   obtain⟨G,B⟩:=ag (l:=Z 5) (k:=(x.bH -1).toNat) V
   obtain⟨wr,S,j⟩:=u.put (k:=5) (i:=(x.bH -1).toNat) bh V (-1)
   rw[A]
   exact⟨_,u.bV (k:=5) bh,V,V,G,u.D (k:=5) bh V B,λ_=>.no z,λ_=>⟨_,u.bV (k:=5) bh,V,V,wr,y.dv j,.Nt (z.trans j) S (w.YR (by simp[v]))⟩⟩
end
end
end Go.Proofs.YtgnjacfobdjeeaaGreat
